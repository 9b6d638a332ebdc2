import PyProof.Rows.All
import Wide.All
import OpenK.AllK
import Wide.FinOn
import Lean
import PySem.Challenge.RW_nu0075_01
set_option Elab.async false
set_option maxRecDepth 100000
set_option linter.all false
set_option genSizeOf false
set_option genInjectivity false
set_option compiler.extract_closed false
set_option tactic.hygienic false
namespace Mine
open PySem PySem.Spec PySem.Calls PyProof.Rows PySem.W
@[elab_as_elim] theorem rr{α:Sort u}{p:α→Prop}{a b:α}(e:a=b)(h:p b):p a:=e▸h
@[elab_as_elim] theorem rl{α:Sort u}{p:α→Prop}{a b:α}(e:a=b)(h:p a):p b:=e▸h
inductive E where
 |n (k:Nat)
 |v (i:Nat)
 |p (a b:E)
 |m (k:Nat) (a:E)
 |t (a:E) (k:Nat)
noncomputable def lk:List Nat→Nat→Nat
 |[],_=>0
 |a::_,0=>a
 |_::l,i+1=>lk l i
noncomputable def E.d(c:List Nat):E→Nat
 |.n k=>k
 |.v i=>lk c i
 |.p a b=>a.d c+b.d c
 |.m k a=>k*a.d c
 |.t a k=>a.d c*k
noncomputable def Bn:List Nat→List Nat→List Nat
 |[],l=>l
 |l,[]=>l
 |a::l,b::m=>(a+b)::Bn l m
noncomputable def Bp(k:Nat):List Nat→List Nat
 |[]=>[]
 |a::l=>(k*a)::Bp k l
noncomputable def ZJ:Nat→List Nat
 |0=>[1]
 |i+1=>0::ZJ i
noncomputable def Qs:List Nat→List Nat→Bool
 |[],_=>true
 |a::l,[]=>a.ble 0&&Qs l []
 |a::l,b::m=>a.ble b&&Qs l m
noncomputable def Ke:List Nat→List Nat→Nat
 |a::l,b::m=>a*b+Ke l m
 |_,_=>0
noncomputable def E.w:E→List Nat
 |.n k=>[k]
 |.v i=>0::ZJ i
 |.p a b=>Bn a.w b.w
 |.m k a=>Bp k a.w
 |.t a k=>Bp k a.w
theorem Ln(l m:List Nat):∀c,Ke (Bn l m) c=Ke l c+Ke m c:=by
 induction l generalizing m with
 |nil=>exact fun c=>(Nat.zero_add _).symm
 |cons a l ih=>
  intro c
  cases m with
  |nil=>rfl
  |cons b m=>
   cases c with
   |nil=>rfl
   |cons x c=>show(a+b)*x+Ke (Bn l m) c=a*x+Ke l c+(b*x+Ke m c);rw[ih,Nat.add_mul,Nat.add_add_add_comm]
theorem OG(k:Nat)(l:List Nat):∀c,Ke (Bp k l) c=k*Ke l c:=by
 induction l with
 |nil=>exact fun c=>rfl
 |cons a l ih=>
  intro c
  cases c with
  |nil=>rfl
  |cons x c=>show k*a*x+Ke (Bp k l) c=k*(a*x+Ke l c);rw[ih,Nat.mul_add,Nat.mul_assoc]
theorem T0(i:Nat):∀c,Ke (ZJ i) c=lk c i:=by
 induction i with
 |zero=>intro c;cases c with|nil=>rfl|cons x c=>exact Nat.one_mul x
 |succ i ih=>intro c;cases c with|nil=>rfl|cons x c=>show 0*x+Ke (ZJ i) c=lk c i;rw[Nat.zero_mul,Nat.zero_add,ih]
theorem Qv(l m:List Nat):∀c,Qs l m=true→Ke l c≤Ke m c:=by
 induction l generalizing m with
 |nil=>exact fun c _=>Nat.zero_le _
 |cons a l ih=>
  intro c h
  cases c with
  |nil=>exact Nat.zero_le _
  |cons x c=>
   cases m with
   |nil=>
    have h:=Bool.and_eq_true_iff.mp h;show a*x+Ke l c≤0;rw[Nat.le_zero.mp (Nat.le_of_ble_eq_true h.1),Nat.zero_mul,Nat.zero_add];exact ih [] c h.2
   |cons b m=>
    have h:=Bool.and_eq_true_iff.mp h;exact Nat.add_le_add (Nat.mul_le_mul_right _ (Nat.le_of_ble_eq_true h.1)) (ih m c h.2)
theorem E.d_w(c:List Nat)(e:E):e.d c=Ke e.w (1::c):=by
 induction e with
 |n k=>exact(Nat.mul_one k).symm
 |v i=>show lk c i=0*1+Ke (ZJ i) c;rw[T0,Nat.zero_mul,Nat.zero_add]
 |p a b iha ihb=>show a.d c+b.d c=Ke (Bn a.w b.w) (1::c);rw[Ln,iha,ihb]
 |m k a ih=>show k*a.d c=Ke (Bp k a.w) (1::c);rw[OG,ih]
 |t a k ih=>show a.d c*k=Ke (Bp k a.w) (1::c);rw[OG,ih,Nat.mul_comm]
theorem z0(c:List Nat)(l r:E)(h:Qs l.w r.w=true):l.d c≤r.d c:=by
 rw[E.d_w,E.d_w];exact Qv _ _ _ h
theorem z1(c:List Nat)(L R l r:E)(x:L.d c≤R.d c)(e:Qs (Bn l.w R.w) (Bn r.w L.w)=true):l.d c≤r.d c:=by
 have z:=Qv _ _ (1::c) e;rw[Ln,Ln,←E.d_w,←E.d_w,←E.d_w,←E.d_w]at z;exact Nat.le_of_add_le_add_right (Nat.le_trans z (Nat.add_le_add_left x _))
theorem zk{c:List Nat}{L R:E}(k:Nat)(l r:E)(h:L.d c≤R.d c)(e:Qs (Bn (Bp (k+1) l.w) R.w) (Bn (Bn (Bp (k+1) r.w) [k]) L.w)=true):l.d c≤r.d c:=
 have z:(k+1)*l.d c≤(k+1)*r.d c+k:=z1 c L R (.m (k+1) l) (.p (.m (k+1) r) (.n k)) h e
 Nat.le_of_lt_succ (Nat.lt_of_mul_lt_mul_left (a:=k+1) (Nat.lt_succ_of_le z))
theorem RT(c:List Nat)(i k:Nat)(L R l r:E)(x:L.d c≤R.d c)(e:Qs (Bn (Bp (k+1) l.w) (Bp i R.w)) (Bn (Bn (Bp (k+1) r.w) [k]) (Bp i L.w))=true):l.d c≤r.d c:=
 zk (L:=.m i L) (R:=.m i R) k l r (Nat.mul_le_mul_left i x) e
theorem z2(c:List Nat)(L R M N l r:E)(x:L.d c≤R.d c)(y:M.d c≤N.d c)(e:Qs (Bn l.w (Bn R.w N.w)) (Bn r.w (Bn L.w M.w))=true):l.d c≤r.d c:=
 z1 c (.p L M) (.p R N) l r (Nat.add_le_add x y) e
theorem Nx(c:List Nat)(i j k:Nat)(L R M N l r:E)(x:L.d c≤R.d c)(y:M.d c≤N.d c)(e:Qs (Bn (Bp (k+1) l.w) (Bn (Bp i R.w) (Bp j N.w))) (Bn (Bn (Bp (k+1) r.w) [k]) (Bn (Bp i L.w) (Bp j M.w)))=true):l.d c≤r.d c:=
 zk (L:=.p (.m i L) (.m j M)) (R:=.p (.m i R) (.m j N)) k l r (Nat.add_le_add (Nat.mul_le_mul_left i x) (Nat.mul_le_mul_left j y)) e
theorem Fh(c:List Nat)(i j g k:Nat)(L R M N O P l r:E)(x:L.d c≤R.d c)(y:M.d c≤N.d c)(z:O.d c≤P.d c)
  (e:Qs (Bn (Bp (k+1) l.w) (Bn (Bn (Bp i R.w) (Bp j N.w)) (Bp g P.w))) (Bn (Bn (Bp (k+1) r.w) [k]) (Bn (Bn (Bp i L.w) (Bp j M.w)) (Bp g O.w)))=true):l.d c≤r.d c:=
 zk (L:=.p (.p (.m i L) (.m j M)) (.m g O)) (R:=.p (.p (.m i R) (.m j N)) (.m g P)) k l r (Nat.add_le_add (Nat.add_le_add (Nat.mul_le_mul_left i x) (Nat.mul_le_mul_left j y)) (Nat.mul_le_mul_left g z)) e
theorem Uv(c:List Nat)(i j g f k:Nat)(L R M N O P U V l r:E)(x:L.d c≤R.d c)(y:M.d c≤N.d c)(z:O.d c≤P.d c)(u:U.d c≤V.d c)
  (e:Qs (Bn (Bp (k+1) l.w) (Bn (Bn (Bp i R.w) (Bp j N.w)) (Bn (Bp g P.w) (Bp f V.w)))) (Bn (Bn (Bp (k+1) r.w) [k]) (Bn (Bn (Bp i L.w) (Bp j M.w)) (Bn (Bp g O.w) (Bp f U.w))))=true):l.d c≤r.d c:=
 zk (L:=.p (.p (.m i L) (.m j M)) (.p (.m g O) (.m f U))) (R:=.p (.p (.m i R) (.m j N)) (.p (.m g P) (.m f V))) k l r (Nat.add_le_add (Nat.add_le_add (Nat.mul_le_mul_left i x) (Nat.mul_le_mul_left j y)) (Nat.add_le_add (Nat.mul_le_mul_left g z) (Nat.mul_le_mul_left f u))) e
theorem eS{b d:Nat}(h:d<b):b-d=b-(d+1)+1:=(Nat.succ_pred_eq_of_pos (Nat.sub_pos_of_lt h)).symm
section
variable{a b c d e f g h i j:Nat}
theorem u1(m:Nat):-1+((m+1:Nat):Int)=m:=(Int.add_comm ..).trans (Int.add_sub_cancel (m:Int) 1)
theorem ib{a k:Nat}(h:a≤k){z:Int}(g:(k:Int)<z):(a:Int)<z:=Int.lt_of_le_of_lt (Int.ofNat_le.mpr h) g
theorem fP{k s:Nat}(h:¬k≤s):max 0 (min (if(k:Int)<0 then(k:Int)+s else k) (s:Int))=s:=by
 rw[if_neg (Int.not_lt.mpr (Int.natCast_nonneg k)),Int.min_eq_right (Int.ofNat_le.mpr (Nat.le_of_not_le h)),Int.max_eq_right (Int.natCast_nonneg s)]
theorem eW{n i:Nat}(h:i<n):n+1-(i+1)<n+1-i:=Nat.sub_lt_sub_left (Nat.lt_succ_of_lt h) (Nat.lt_succ_self i)
theorem em{p l n i:Nat}(h:p+(l+1)=n-(i+1))(h5:n≤5):p≤4:=Nat.le_of_succ_le_succ (Nat.le_trans (Nat.le_trans (Nat.add_le_add_left (Nat.succ_le_succ (Nat.zero_le l)) p) (Nat.le_of_eq h)) (Nat.le_trans (Nat.sub_le ..) h5))
theorem fB:0<1:=by decide
theorem fQ:0≤9:=by decide
theorem ec:1+1000000≤16777216:=by decide
theorem ez:1<2:=by decide
theorem fE:1≤1:=by decide
theorem fA:1≤3:=by decide
theorem cy:13<58∨58<13∧13<97:=by decide
theorem fD:3≤7:=by decide
theorem dc:32<58∨58<32∧32<97:=by decide
theorem fF:33<58∨58<33∧33<97:=by decide
theorem UF:34<58∨58<34∧34<97:=by decide
theorem dD:4+1000000+3≤16777216:=by decide
theorem dw:4+1000000≤16777216:=by decide
theorem Ua:47<58∨58<47∧47<97:=by decide
theorem dE:6≤107:=by decide
theorem Ty:60<58∨58<60∧60<97:=by decide
theorem Q6:62<58∨58<62∧62<97:=by decide
theorem eH:7+100≤107:=by decide
theorem cS:7+100≤16777216:=by decide
theorem dR{a:Int}(x:0≤a):a=(↑a.toNat:Int):=(Int.toNat_of_nonneg x).symm
theorem d9{a:Int}{b:Nat}(x:a=(↑b:Int)):0≤(↑b:Int):=by first|rfl|lia
theorem di{a:Int}{b:Nat}:a-(↑(b+1):Int)=a-(↑b:Int)-1:=by first|rfl|lia
theorem dY{a:Int}{b:Nat}{c:Int}:a+((↑b:Int)*c+(↑1:Int)*c)=a+(↑b:Int)*c+c:=by first|rfl|lia
theorem dL{a:Int}{b c:Nat}(x:a<(↑b:Int))(y:c=b):a<(↑c:Int):=y.symm▸x
theorem cx{a:Int}{b c:Nat}(x:a=(↑(b+c):Int)):¬a<0:=x▸Int.not_lt.mpr (Int.natCast_nonneg _)
theorem cu{a:Int}{b c d e:Nat}(x:a=(↑(b+c):Int))(y:¬c≤d)(z:e=b+d):min a (↑e:Int)=(↑e:Int):=Int.min_eq_right (x▸Int.ofNat_le.mpr (z2 [b,c,d,e] (.p (.v 2) (.n 1)) (.v 1) (.v 3) (.p (.v 0) (.v 2)) (.v 3) (.p (.v 0) (.v 1)) (Nat.gt_of_not_le y) (Nat.le_of_eq z) rfl))
theorem UK(x:0<a):(↑a:Int)≠0:=by first|rfl|lia
theorem ci(x:0<a):0<(↑(2*a):Int):=Int.ofNat_lt.mpr (z1 [a] (.p (.n 0) (.n 1)) (.v 0) (.p (.n 0) (.n 1)) (.m 2 (.v 0)) x rfl)
theorem XX(x:0<a):0<(↑a:Int):=Int.ofNat_lt.mpr x
theorem dz(x:0<a):2≤a+1:=z1 [a] (.p (.n 0) (.n 1)) (.v 0) (.n 2) (.p (.v 0) (.n 1)) x rfl
theorem Z7(x:0<a):¬a=0:=fun e=>(Nat.not_succ_le_zero 0 (z2 [a] (.p (.n 0) (.n 1)) (.v 0) (.v 0) (.n 0) (.n 1) (.n 0) x (Nat.le_of_eq e) rfl))
theorem QX(x:1+a≤400):a≤400:=z1 [a] (.p (.n 1) (.v 0)) (.n 400) (.v 0) (.n 400) x rfl
theorem UX(x:1+a≤800):a≤800:=z1 [a] (.p (.n 1) (.v 0)) (.n 800) (.v 0) (.n 800) x rfl
theorem dQ(x:1≤a)(y:a=0):False:=Nat.not_succ_le_zero 0 (z2 [a] (.n 1) (.v 0) (.v 0) (.n 0) (.n 1) (.n 0) x (Nat.le_of_eq y) rfl)
theorem cr(x:1≤a):¬a=0:=fun e=>(Nat.not_succ_le_zero 0 (z2 [a] (.n 1) (.v 0) (.v 0) (.n 0) (.n 1) (.n 0) x (Nat.le_of_eq e) rfl))
theorem UP(x:2≤a):0<a:=z1 [a] (.n 2) (.v 0) (.p (.n 0) (.n 1)) (.v 0) x rfl
theorem dy(x:2≤a):¬(↑a:Int)=1:=by first|rfl|lia
theorem cq(x:2≤a):¬a<2:=Nat.not_lt.mpr (z1 [a] (.n 2) (.v 0) (.n 2) (.v 0) x rfl)
theorem cO(x:a+1≤4):a≤4:=z1 [a] (.p (.v 0) (.n 1)) (.n 4) (.v 0) (.n 4) x rfl
theorem dJ(x:a+1≤5):a≤4:=z1 [a] (.p (.v 0) (.n 1)) (.n 5) (.v 0) (.n 4) x rfl
theorem dW(x:a+1≤5):a≤5:=z1 [a] (.p (.v 0) (.n 1)) (.n 5) (.v 0) (.n 5) x rfl
theorem eJ(x:a<4):1+(1+a)≤5:=z1 [a] (.p (.v 0) (.n 1)) (.n 4) (.p (.n 1) (.p (.n 1) (.v 0))) (.n 5) x rfl
theorem WI(x:a<4):1+a≤5:=z1 [a] (.p (.v 0) (.n 1)) (.n 4) (.p (.n 1) (.v 0)) (.n 5) x rfl
theorem cb(x:a<4):a=0∨a=1∨a=2∨a=3:=by revert x;revert a;decide
theorem cT(x:a<58∨58<a∧a<97)(y:a=58∨97≤a∧a≤122):False:=y.elim (fun e=>x.elim (fun h=>(Nat.not_succ_le_zero 0 (z2 [a] (.n 58) (.v 0) (.p (.v 0) (.n 1)) (.n 58) (.n 1) (.n 0) (Nat.le_of_eq e.symm) h rfl))) (fun h=>(Nat.not_succ_le_zero 0 (z2 [a] (.v 0) (.n 58) (.p (.n 58) (.n 1)) (.v 0) (.n 1) (.n 0) (Nat.le_of_eq e) h.1 rfl)))) (fun e=>x.elim (fun h=>(Nat.not_succ_le_zero 0 (z2 [a] (.n 97) (.v 0) (.p (.v 0) (.n 1)) (.n 58) (.n 1) (.n 0) e.1 h rfl))) (fun h=>(Nat.not_succ_le_zero 0 (z2 [a] (.n 97) (.v 0) (.p (.v 0) (.n 1)) (.n 97) (.n 1) (.n 0) e.1 h.2 rfl))))
theorem eI(x:a<64):a≤16777216:=z1 [a] (.p (.v 0) (.n 1)) (.n 64) (.v 0) (.n 16777216) x rfl
theorem dK(x:a=47)(y:a=58∨97≤a∧a≤122):False:=y.elim (fun e=>(Nat.not_succ_le_zero 0 (z2 [a] (.v 0) (.n 47) (.n 58) (.v 0) (.n 1) (.n 0) (Nat.le_of_eq x) (Nat.le_of_eq e.symm) rfl))) (fun e=>(Nat.not_succ_le_zero 0 (z2 [a] (.v 0) (.n 47) (.n 97) (.v 0) (.n 1) (.n 0) (Nat.le_of_eq x) e.1 rfl)))
theorem dh(x:a=58∨97≤a∧a≤122)(y:a=33):False:=x.elim (fun e=>(Nat.not_succ_le_zero 0 (z2 [a] (.v 0) (.n 33) (.n 58) (.v 0) (.n 1) (.n 0) (Nat.le_of_eq y) (Nat.le_of_eq e.symm) rfl))) (fun e=>(Nat.not_succ_le_zero 0 (z2 [a] (.v 0) (.n 33) (.n 97) (.v 0) (.n 1) (.n 0) (Nat.le_of_eq y) e.1 rfl)))
theorem cV(x:a≤100):1+a+2≤16777216:=z1 [a] (.v 0) (.n 100) (.p (.p (.n 1) (.v 0)) (.n 2)) (.n 16777216) x rfl
theorem cj(x:a≤100):1+a≤16777216:=z1 [a] (.v 0) (.n 100) (.p (.n 1) (.v 0)) (.n 16777216) x rfl
theorem cg(x:a≤100):2+a+1≤16777216:=z1 [a] (.v 0) (.n 100) (.p (.p (.n 2) (.v 0)) (.n 1)) (.n 16777216) x rfl
theorem Vt(x:a≤100):2+a+1≤5000:=z1 [a] (.v 0) (.n 100) (.p (.p (.n 2) (.v 0)) (.n 1)) (.n 5000) x rfl
theorem dZ(x:a≤100):2+a≤16777216:=z1 [a] (.v 0) (.n 100) (.p (.n 2) (.v 0)) (.n 16777216) x rfl
theorem XH(x:a≤100):a+3≤5000:=z1 [a] (.v 0) (.n 100) (.p (.v 0) (.n 3)) (.n 5000) x rfl
theorem NE(x:a≤100):a≤1000:=z1 [a] (.v 0) (.n 100) (.v 0) (.n 1000) x rfl
theorem d8(x:a≤100):a≤10000:=z1 [a] (.v 0) (.n 100) (.v 0) (.n 10000) x rfl
theorem Yu(x:a≤100):a≤100000:=z1 [a] (.v 0) (.n 100) (.v 0) (.n 100000) x rfl
theorem Zi(x:a≤100):a≤10000000:=z1 [a] (.v 0) (.n 100) (.v 0) (.n 10000000) x rfl
theorem ZZ(x:a≤100):a≤300:=z1 [a] (.v 0) (.n 100) (.v 0) (.n 300) x rfl
theorem dU(x:a≤1000):2+a+(1+1000000)+2≤16777216:=z1 [a] (.v 0) (.n 1000) (.p (.p (.p (.n 2) (.v 0)) (.p (.n 1) (.n 1000000))) (.n 2)) (.n 16777216) x rfl
theorem c9(x:a≤1000):2+a+(1+1000000)≤16777216:=z1 [a] (.v 0) (.n 1000) (.p (.p (.n 2) (.v 0)) (.p (.n 1) (.n 1000000))) (.n 16777216) x rfl
theorem dS(x:a≤1000):2+a+0+2≤16777216:=z1 [a] (.v 0) (.n 1000) (.p (.p (.p (.n 2) (.v 0)) (.n 0)) (.n 2)) (.n 16777216) x rfl
theorem dC(x:a≤1000):2+a+0≤16777216:=z1 [a] (.v 0) (.n 1000) (.p (.p (.n 2) (.v 0)) (.n 0)) (.n 16777216) x rfl
theorem ce(x:a≤1000):2+a≤16777216:=z1 [a] (.v 0) (.n 1000) (.p (.n 2) (.v 0)) (.n 16777216) x rfl
theorem Mk(x:a≤1000):a≤10000:=z1 [a] (.v 0) (.n 1000) (.v 0) (.n 10000) x rfl
theorem dA(x:a≤1000):a≤100000:=z1 [a] (.v 0) (.n 1000) (.v 0) (.n 100000) x rfl
theorem L7(x:a≤1000):a≤10000000:=z1 [a] (.v 0) (.n 1000) (.v 0) (.n 10000000) x rfl
theorem Nn(x:a≤1000):a≤16777216:=z1 [a] (.v 0) (.n 1000) (.v 0) (.n 16777216) x rfl
theorem de(x:a≤1000):a≤9999999:=z1 [a] (.v 0) (.n 1000) (.v 0) (.n 9999999) x rfl
theorem dF(x:a≤10000):a+1≤16777216:=z1 [a] (.v 0) (.n 10000) (.p (.v 0) (.n 1)) (.n 16777216) x rfl
theorem ST(x:a≤10000):a≤16777216:=z1 [a] (.v 0) (.n 10000) (.v 0) (.n 16777216) x rfl
theorem zq71(x:a≤100000):2*a+1≤1000000:=RT [a] 2 0 (.v 0) (.n 100000) (.p (.m 2 (.v 0)) (.n 1)) (.n 1000000) x rfl
theorem zq72(x:a≤100000):a≤1000000:=z1 [a] (.v 0) (.n 100000) (.v 0) (.n 1000000) x rfl
theorem SA(x:a≤100000):a≤10000000:=z1 [a] (.v 0) (.n 100000) (.v 0) (.n 10000000) x rfl
theorem WO(x:a≤100000):a≤16777216:=z1 [a] (.v 0) (.n 100000) (.v 0) (.n 16777216) x rfl
theorem c8(x:a≤10000000):a≤16777216:=z1 [a] (.v 0) (.n 10000000) (.v 0) (.n 16777216) x rfl
theorem dH(x:a≤16):9*a≤380:=RT [a] 9 0 (.v 0) (.n 16) (.m 9 (.v 0)) (.n 380) x rfl
theorem dX(x:a≤2):(↑a:Int)≤2:=by first|rfl|lia
theorem YV(x:a≤2):a≤10000000:=z1 [a] (.v 0) (.n 2) (.v 0) (.n 10000000) x rfl
theorem eA(x:a≤20):2*a+1≤10000000:=RT [a] 2 0 (.v 0) (.n 20) (.p (.m 2 (.v 0)) (.n 1)) (.n 10000000) x rfl
theorem Zx(x:a≤20):a+1≤30:=z1 [a] (.v 0) (.n 20) (.p (.v 0) (.n 1)) (.n 30) x rfl
theorem dG(x:a≤20):a≤100:=z1 [a] (.v 0) (.n 20) (.v 0) (.n 100) x rfl
theorem eB(x:a≤20):a≤10000:=z1 [a] (.v 0) (.n 20) (.v 0) (.n 10000) x rfl
theorem zq83(x:a≤20):a≤100000:=z1 [a] (.v 0) (.n 20) (.v 0) (.n 100000) x rfl
theorem eE(x:a≤20):a≤50:=z1 [a] (.v 0) (.n 20) (.v 0) (.n 50) x rfl
theorem dP(x:a≤20):a≤9999999:=z1 [a] (.v 0) (.n 20) (.v 0) (.n 9999999) x rfl
theorem eK(x:a≤200):a≤5000:=z1 [a] (.v 0) (.n 200) (.v 0) (.n 5000) x rfl
theorem dm(x:a≤26):a≤100:=z1 [a] (.v 0) (.n 26) (.v 0) (.n 100) x rfl
theorem cz(x:a≤3):a*5000000≤16000000:=RT [a] 5000000 0 (.v 0) (.n 3) (.t (.v 0) 5000000) (.n 16000000) x rfl
theorem c0(x:a≤3):a+1+1+1≤6:=z1 [a] (.v 0) (.n 3) (.p (.p (.p (.v 0) (.n 1)) (.n 1)) (.n 1)) (.n 6) x rfl
theorem R9(x:a≤3):a≤100:=z1 [a] (.v 0) (.n 3) (.v 0) (.n 100) x rfl
theorem WL(x:a≤3):a≤1000:=z1 [a] (.v 0) (.n 3) (.v 0) (.n 1000) x rfl
theorem Ri(x:a≤3):a≤10000:=z1 [a] (.v 0) (.n 3) (.v 0) (.n 10000) x rfl
theorem Yc(x:a≤3):a≤10000000:=z1 [a] (.v 0) (.n 3) (.v 0) (.n 10000000) x rfl
theorem RY(x:a≤3):a≤300:=z1 [a] (.v 0) (.n 3) (.v 0) (.n 300) x rfl
theorem cf(x:a≤3):a≤500:=z1 [a] (.v 0) (.n 3) (.v 0) (.n 500) x rfl
theorem dM(x:a≤30):a<64:=z1 [a] (.v 0) (.n 30) (.p (.v 0) (.n 1)) (.n 64) x rfl
theorem UN(x:a≤300):6*a≤1000000:=RT [a] 6 0 (.v 0) (.n 300) (.m 6 (.v 0)) (.n 1000000) x rfl
theorem cU(x:a≤380):0+a≤800:=z1 [a] (.v 0) (.n 380) (.p (.n 0) (.v 0)) (.n 800) x rfl
theorem U6(x:a≤380):1+a≤390:=z1 [a] (.v 0) (.n 380) (.p (.n 1) (.v 0)) (.n 390) x rfl
theorem Vf(x:a≤380):1+a≤800:=z1 [a] (.v 0) (.n 380) (.p (.n 1) (.v 0)) (.n 800) x rfl
theorem WP(x:a≤380):1+a≤900:=z1 [a] (.v 0) (.n 380) (.p (.n 1) (.v 0)) (.n 900) x rfl
theorem TR(x:a≤380):a≤400:=z1 [a] (.v 0) (.n 380) (.v 0) (.n 400) x rfl
theorem YW(x:a≤4):a*1200≤16000000:=RT [a] 1200 0 (.v 0) (.n 4) (.t (.v 0) 1200) (.n 16000000) x rfl
theorem W4(x:a≤4):a<64:=z1 [a] (.v 0) (.n 4) (.p (.v 0) (.n 1)) (.n 64) x rfl
theorem Ve(x:a≤4):a≤1000:=z1 [a] (.v 0) (.n 4) (.v 0) (.n 1000) x rfl
theorem XS(x:a≤4):a≤10000:=z1 [a] (.v 0) (.n 4) (.v 0) (.n 10000) x rfl
theorem bg(x:a≤40):a*9001≤16000000:=RT [a] 9001 0 (.v 0) (.n 40) (.t (.v 0) 9001) (.n 16000000) x rfl
theorem b5(x:a≤40):a≤300:=z1 [a] (.v 0) (.n 40) (.v 0) (.n 300) x rfl
theorem bF(x:a≤400):a≤500:=z1 [a] (.v 0) (.n 400) (.v 0) (.n 500) x rfl
theorem Vw(x:a≤5*1562):a+1+1≤10000:=z1 [a] (.v 0) (.m 5 (.n 1562)) (.p (.p (.v 0) (.n 1)) (.n 1)) (.n 10000) x rfl
theorem ZI(x:a≤5):a<7:=z1 [a] (.v 0) (.n 5) (.p (.v 0) (.n 1)) (.n 7) x rfl
theorem Pv(x:a≤5):a≤0+5:=z1 [a] (.v 0) (.n 5) (.v 0) (.p (.n 0) (.n 5)) x rfl
theorem V2(x:a≤5):a≤10000:=z1 [a] (.v 0) (.n 5) (.v 0) (.n 10000) x rfl
theorem VX(x:a≤5):a≤10000000:=z1 [a] (.v 0) (.n 5) (.v 0) (.n 10000000) x rfl
theorem Zv(x:a≤5):a≤6:=z1 [a] (.v 0) (.n 5) (.v 0) (.n 6) x rfl
theorem Wc(x:a≤50):a≤1000:=z1 [a] (.v 0) (.n 50) (.v 0) (.n 1000) x rfl
theorem Zp(x:a≤500):a≤10000:=z1 [a] (.v 0) (.n 500) (.v 0) (.n 10000) x rfl
theorem Y7(x:a≤5000):1+a≤16777216:=z1 [a] (.v 0) (.n 5000) (.p (.n 1) (.v 0)) (.n 16777216) x rfl
theorem bC(x:a≤5000):a+1≤16777216:=z1 [a] (.v 0) (.n 5000) (.p (.v 0) (.n 1)) (.n 16777216) x rfl
theorem YT(x:a≤50000):a≤100000:=z1 [a] (.v 0) (.n 50000) (.v 0) (.n 100000) x rfl
theorem Sl(x:a≤6):a<7:=z1 [a] (.v 0) (.n 6) (.p (.v 0) (.n 1)) (.n 7) x rfl
theorem ZQ(x:a≤7):a≤100:=z1 [a] (.v 0) (.n 7) (.v 0) (.n 100) x rfl
theorem XZ(x:a≤7):a≤1000:=z1 [a] (.v 0) (.n 7) (.v 0) (.n 1000) x rfl
theorem Pc(x:a≤8):a≤20:=z1 [a] (.v 0) (.n 8) (.v 0) (.n 20) x rfl
theorem aM(x:a≤80):a≤100:=z1 [a] (.v 0) (.n 80) (.v 0) (.n 100) x rfl
theorem bS(x:a≤8000):a+(a+1)*0≤16777216:=z1 [a] (.v 0) (.n 8000) (.p (.v 0) (.t (.p (.v 0) (.n 1)) 0)) (.n 16777216) x rfl
theorem Nr(x:a≤8000):a+1≤8100:=z1 [a] (.v 0) (.n 8000) (.p (.v 0) (.n 1)) (.n 8100) x rfl
theorem Ij(x:a≤8000):a≤10000000:=z1 [a] (.v 0) (.n 8000) (.v 0) (.n 10000000) x rfl
theorem bN(x:a≤8000):a≤8100:=z1 [a] (.v 0) (.n 8000) (.v 0) (.n 8100) x rfl
theorem YF(x:a≤900):(a+2)*5000≤16000000:=RT [a] 5000 0 (.v 0) (.n 900) (.t (.p (.v 0) (.n 2)) 5000) (.n 16000000) x rfl
theorem CL(x:a≤900):a≤1000:=z1 [a] (.v 0) (.n 900) (.v 0) (.n 1000) x rfl
theorem Yg(x:a≤900):a≤10000:=z1 [a] (.v 0) (.n 900) (.v 0) (.n 10000) x rfl
theorem Pg(x:a≤900):a≤999:=z1 [a] (.v 0) (.n 900) (.v 0) (.n 999) x rfl
theorem Vq(x:a≤9000):a+1≤9001:=z1 [a] (.v 0) (.n 9000) (.p (.v 0) (.n 1)) (.n 9001) x rfl
theorem Kq(x:a≤999):a≤1000:=z1 [a] (.v 0) (.n 999) (.v 0) (.n 1000) x rfl
theorem WR(x:¬(↑63:Int)<(↑a:Int)):a≤63:=Nat.le_of_not_lt (fun h=>x (Int.ofNat_lt.mpr h))
theorem WC(x:¬0<a):a=0:=Nat.le_antisymm (z1 [a] (.v 0) (.n 0) (.v 0) (.n 0) (Nat.le_of_not_lt x) rfl) (z0 [a] (.n 0) (.v 0) rfl)
theorem Zd:((↑(2*a+1):Int)-1).toNat=2*a:=congrArg Int.toNat (Int.add_sub_cancel (2*a:Nat) 1)
theorem VV:(max 0 (↑a:Int)).toNat=a:=congrArg Int.toNat (Int.max_eq_right (Int.natCast_nonneg a))
theorem aW:(↑(2*a+1):Int).toNat=2*a+1:=rfl
theorem Vc:(↑(2*a):Int).toNat=2*a:=rfl
theorem aS:(↑a:Int)+1=(↑(a+1):Int):=by first|rfl|lia
theorem XW:(↑a:Int)+10-3=(↑a:Int)+4+3:=by first|rfl|lia
theorem ZF:(↑a:Int)+4=(↑(a+4):Int):=by first|rfl|lia
theorem Vv:(↑a:Int)+7+3=(↑a:Int)+10:=by first|rfl|lia
theorem VA:(↑a:Int)=(↑a:Int):=by first|rfl|lia
theorem Y8:0+(↑a:Int)*1=(↑a:Int):=by first|rfl|lia
theorem Vb:0+(↑a:Int)*2=(↑(2*a):Int):=by first|rfl|lia
theorem Ws:0+0+a=a+0:=Nat.le_antisymm (z0 [a] (.p (.p (.n 0) (.n 0)) (.v 0)) (.p (.v 0) (.n 0)) rfl) (z0 [a] (.p (.v 0) (.n 0)) (.p (.p (.n 0) (.n 0)) (.v 0)) rfl)
theorem Ze:0≤(↑(2*a+1):Int):=Int.natCast_nonneg _
theorem aC:0≤(↑(2*a+1):Int)-1:=Int.sub_nonneg_of_le (Int.ofNat_le.mpr (z0 [a] (.n 1) (.p (.m 2 (.v 0)) (.n 1)) rfl))
theorem Sy:0≤(↑(2*a):Int):=Int.natCast_nonneg _
theorem Mj:0≤(↑a:Int):=Int.natCast_nonneg _
theorem Zl:1+(↑a:Int)*2=(↑(2*a+1):Int):=by first|rfl|lia
theorem Xm:1+(↑a:Int)=(↑(1+a):Int):=by first|rfl|lia
theorem aB:1+a≤1+(1+a):=z0 [a] (.p (.n 1) (.v 0)) (.p (.n 1) (.p (.n 1) (.v 0))) rfl
theorem Vs:1+a≤1+a:=z0 [a] (.p (.n 1) (.v 0)) (.p (.n 1) (.v 0)) rfl
theorem TF:1≤2+5*a:=z0 [a] (.n 1) (.p (.n 2) (.m 5 (.v 0))) rfl
theorem YQ:2+a+1=a+3:=Nat.le_antisymm (z0 [a] (.p (.p (.n 2) (.v 0)) (.n 1)) (.p (.v 0) (.n 3)) rfl) (z0 [a] (.p (.v 0) (.n 3)) (.p (.p (.n 2) (.v 0)) (.n 1)) rfl)
theorem VP:a+1=1+a:=Nat.le_antisymm (z0 [a] (.p (.v 0) (.n 1)) (.p (.n 1) (.v 0)) rfl) (z0 [a] (.p (.n 1) (.v 0)) (.p (.v 0) (.n 1)) rfl)
theorem bk:a<a+1:=z0 [a] (.p (.v 0) (.n 1)) (.p (.v 0) (.n 1)) rfl
theorem Vl:a≤1+a:=z0 [a] (.v 0) (.p (.n 1) (.v 0)) rfl
theorem Wo:a≤2+5*a:=z0 [a] (.v 0) (.p (.n 2) (.m 5 (.v 0))) rfl
theorem bY:a≤a+1:=z0 [a] (.v 0) (.p (.v 0) (.n 1)) rfl
theorem QJ:a≤a+1+1:=z0 [a] (.v 0) (.p (.p (.v 0) (.n 1)) (.n 1)) rfl
theorem Vm:¬(↑a:Int)<0:=by first|rfl|lia
theorem Vy{a:Nat}{b:Int}(x:0<a)(y:b<(↑a:Int)):b.toNat<a:=(Int.toNat_lt' x).mpr y
theorem bm{a:Nat}{b:Int}(x:a<b.toNat):0<b-(↑a:Int):=Int.sub_pos_of_lt (Int.lt_toNat.mp x)
theorem WH{a:Nat}{b:Int}{c:Nat}(x:a*b.toNat≤10000)(y:c=a):c*b.toNat≤16777216:=y▸Nat.le_trans x (by decide)
theorem aj(x:0<a)(y:b+4*a≤26):b≤26:=z1 [a,b] (.p (.v 1) (.m 4 (.v 0))) (.n 26) (.v 1) (.n 26) y rfl
theorem Ye(x:0<a)(y:b+4*a≤70):b≤80:=z1 [a,b] (.p (.v 1) (.m 4 (.v 0))) (.n 70) (.v 1) (.n 80) y rfl
theorem TY(x:1≤a):1+b≤a+b:=z1 [a,b] (.n 1) (.v 0) (.p (.n 1) (.v 1)) (.p (.v 0) (.v 1)) x rfl
theorem Sb(x:2≤a)(y:b+1=a):b=a-1:=by subst y;rfl
theorem Qh(x:a+(1+b)≤390):a+b≤390:=z1 [a,b] (.p (.v 0) (.p (.n 1) (.v 1))) (.n 390) (.p (.v 0) (.v 1)) (.n 390) x rfl
theorem LC(x:a+(1+b)≤800):a+1+b≤800:=z1 [a,b] (.p (.v 0) (.p (.n 1) (.v 1))) (.n 800) (.p (.p (.v 0) (.n 1)) (.v 1)) (.n 800) x rfl
theorem Kz(x:a+(1+b)≤800):a≤900:=z1 [a,b] (.p (.v 0) (.p (.n 1) (.v 1))) (.n 800) (.v 0) (.n 900) x rfl
theorem XE(x:a+(b+1)≤200):a≤1000:=z1 [a,b] (.p (.v 0) (.p (.v 1) (.n 1))) (.n 200) (.v 0) (.n 1000) x rfl
theorem Xu(x:a+(b+1)≤5):a+1+b≤5:=z1 [a,b] (.p (.v 0) (.p (.v 1) (.n 1))) (.n 5) (.p (.p (.v 0) (.n 1)) (.v 1)) (.n 5) x rfl
theorem QP(x:a+(b+1)≤5):a≤10000:=z1 [a,b] (.p (.v 0) (.p (.v 1) (.n 1))) (.n 5) (.v 0) (.n 10000) x rfl
theorem X6(x:a+(b+1)≤5):a≤5:=z1 [a,b] (.p (.v 0) (.p (.v 1) (.n 1))) (.n 5) (.v 0) (.n 5) x rfl
theorem Qj(x:a+(b+1)≤500):a≤10000:=z1 [a,b] (.p (.v 0) (.p (.v 1) (.n 1))) (.n 500) (.v 0) (.n 10000) x rfl
theorem TT(x:a+(b+1)≤500):a≤9999:=z1 [a,b] (.p (.v 0) (.p (.v 1) (.n 1))) (.n 500) (.v 0) (.n 9999) x rfl
theorem VM(x:a+0+100*b≤300):a+100*b≤300:=z1 [a,b] (.p (.p (.v 0) (.n 0)) (.m 100 (.v 1))) (.n 300) (.p (.v 0) (.m 100 (.v 1))) (.n 300) x rfl
theorem Wb(x:a+1≤b):a+1≤b*2:=z1 [a,b] (.p (.v 0) (.n 1)) (.v 1) (.p (.v 0) (.n 1)) (.t (.v 1) 2) x rfl
theorem Xa(x:a+1≤b):a≤b:=z1 [a,b] (.p (.v 0) (.n 1)) (.v 1) (.v 0) (.v 1) x rfl
theorem b7(x:a+20*(b+1)<9900):a+1+20*b<9900:=z1 [a,b] (.p (.p (.v 0) (.m 20 (.p (.v 1) (.n 1)))) (.n 1)) (.n 9900) (.p (.p (.p (.v 0) (.n 1)) (.m 20 (.v 1))) (.n 1)) (.n 9900) x rfl
theorem Sf(x:a+20*(b+1)<9900):a+1<9900:=z1 [a,b] (.p (.p (.v 0) (.m 20 (.p (.v 1) (.n 1)))) (.n 1)) (.n 9900) (.p (.p (.v 0) (.n 1)) (.n 1)) (.n 9900) x rfl
theorem XO(x:a+20*(b+1)<9900):a+3+20*b<9900:=z1 [a,b] (.p (.p (.v 0) (.m 20 (.p (.v 1) (.n 1)))) (.n 1)) (.n 9900) (.p (.p (.p (.v 0) (.n 3)) (.m 20 (.v 1))) (.n 1)) (.n 9900) x rfl
theorem Xs(x:a+20*b<9900):a<9900:=z1 [a,b] (.p (.p (.v 0) (.m 20 (.v 1))) (.n 1)) (.n 9900) (.p (.v 0) (.n 1)) (.n 9900) x rfl
theorem Tj(x:a+3*(b+1)<1000):a+1+3*b<1000:=z1 [a,b] (.p (.p (.v 0) (.m 3 (.p (.v 1) (.n 1)))) (.n 1)) (.n 1000) (.p (.p (.p (.v 0) (.n 1)) (.m 3 (.v 1))) (.n 1)) (.n 1000) x rfl
theorem ZT(x:a+3*(b+1)<1000):a<1000:=z1 [a,b] (.p (.p (.v 0) (.m 3 (.p (.v 1) (.n 1)))) (.n 1)) (.n 1000) (.p (.v 0) (.n 1)) (.n 1000) x rfl
theorem Zy(x:a+5*b≤26)(y:0<b):a≤26:=z1 [a,b] (.p (.v 0) (.m 5 (.v 1))) (.n 26) (.v 0) (.n 26) x rfl
theorem ah(x:a+5*b≤70)(y:0<b):a≤80:=z1 [a,b] (.p (.v 0) (.m 5 (.v 1))) (.n 70) (.v 0) (.n 80) x rfl
theorem V9(x:a+b+0≤50):a≤10000:=z1 [a,b] (.p (.p (.v 0) (.v 1)) (.n 0)) (.n 50) (.v 0) (.n 10000) x rfl
theorem Xi(x:a+b+0≤50):b≤10000:=z1 [a,b] (.p (.p (.v 0) (.v 1)) (.n 0)) (.n 50) (.v 1) (.n 10000) x rfl
theorem Tm(x:a+b≤100):a+b≤10000:=z1 [a,b] (.p (.v 0) (.v 1)) (.n 100) (.p (.v 0) (.v 1)) (.n 10000) x rfl
theorem Sp(x:a+b≤100):b+a≤10000:=z1 [a,b] (.p (.v 0) (.v 1)) (.n 100) (.p (.v 1) (.v 0)) (.n 10000) x rfl
theorem b8(x:a+b≤1000):a≤1000:=z1 [a,b] (.p (.v 0) (.v 1)) (.n 1000) (.v 0) (.n 1000) x rfl
theorem YX(x:a+b≤10000):a+b≤16777216:=z1 [a,b] (.p (.v 0) (.v 1)) (.n 10000) (.p (.v 0) (.v 1)) (.n 16777216) x rfl
theorem TZ(x:a+b≤200):a≤1000:=z1 [a,b] (.p (.v 0) (.v 1)) (.n 200) (.v 0) (.n 1000) x rfl
theorem VG(x:a+b≤3):a≤3:=z1 [a,b] (.p (.v 0) (.v 1)) (.n 3) (.v 0) (.n 3) x rfl
theorem Wp(x:a+b≤300):a≤1000:=z1 [a,b] (.p (.v 0) (.v 1)) (.n 300) (.v 0) (.n 1000) x rfl
theorem QF(x:a+b≤300):a≤300:=z1 [a,b] (.p (.v 0) (.v 1)) (.n 300) (.v 0) (.n 300) x rfl
theorem OH(x:a+b≤300):b≤300:=z1 [a,b] (.p (.v 0) (.v 1)) (.n 300) (.v 1) (.n 300) x rfl
theorem ZC(x:a+b≤5):a≤5:=z1 [a,b] (.p (.v 0) (.v 1)) (.n 5) (.v 0) (.n 5) x rfl
theorem YI(x:a+b≤900):a≤999:=z1 [a,b] (.p (.v 0) (.v 1)) (.n 900) (.v 0) (.n 999) x rfl
theorem Zm(x:a<4)(y:b+0=a):b*1≤16000000:=z2 [a,b] (.p (.v 0) (.n 1)) (.n 4) (.p (.v 1) (.n 0)) (.v 0) (.t (.v 1) 1) (.n 16000000) x (Nat.le_of_eq y) rfl
theorem XB(x:a<4)(y:b+0=a):b*1≤3:=z2 [a,b] (.p (.v 0) (.n 1)) (.n 4) (.p (.v 1) (.n 0)) (.v 0) (.t (.v 1) 1) (.n 3) x (Nat.le_of_eq y) rfl
theorem aA(x:a<b):a+1+(b-(a+1))=b:=Nat.add_sub_of_le x
theorem bZ(x:a<b):a<b:=z1 [a,b] (.p (.v 0) (.n 1)) (.v 1) (.p (.v 0) (.n 1)) (.v 1) x rfl
theorem aX(x:a<b):a<b+1:=z1 [a,b] (.p (.v 0) (.n 1)) (.v 1) (.p (.v 0) (.n 1)) (.p (.v 1) (.n 1)) x rfl
theorem TM(x:a<b):a≠b:=fun e=>(Nat.not_succ_le_zero 0 (z2 [a,b] (.p (.v 0) (.n 1)) (.v 1) (.v 1) (.v 0) (.n 1) (.n 0) x (Nat.le_of_eq e.symm) rfl))
theorem ba(x:a<b):a≤b:=z1 [a,b] (.p (.v 0) (.n 1)) (.v 1) (.v 0) (.v 1) x rfl
theorem Zj(x:a<b):b≠0:=fun e=>(Nat.not_succ_le_zero 0 (z2 [a,b] (.p (.v 0) (.n 1)) (.v 1) (.v 1) (.n 0) (.n 1) (.n 0) x (Nat.le_of_eq e) rfl))
theorem Si(x:a<b):b≠a:=fun e=>(Nat.not_succ_le_zero 0 (z2 [a,b] (.p (.v 0) (.n 1)) (.v 1) (.v 1) (.v 0) (.n 1) (.n 0) x (Nat.le_of_eq e) rfl))
theorem Zz(x:a<b):¬a=b:=fun e=>(Nat.not_succ_le_zero 0 (z2 [a,b] (.p (.v 0) (.n 1)) (.v 1) (.v 1) (.v 0) (.n 1) (.n 0) x (Nat.le_of_eq e.symm) rfl))
theorem Vj(x:a=b+1):-(↑a:Int)≤-1:=x▸Int.neg_le_neg (Int.ofNat_le.mpr (Nat.succ_le_succ (Nat.zero_le b)))
theorem bp(x:a=b+1):-1+(↑a:Int)=(↑b:Int):=x▸u1 b
theorem Ww(x:a=b+1):a≠b:=fun e=>(Nat.not_succ_le_zero 0 (z2 [a,b] (.p (.v 1) (.n 1)) (.v 0) (.v 0) (.v 1) (.n 1) (.n 0) (Nat.le_of_eq x.symm) (Nat.le_of_eq e) rfl))
theorem Sa(x:a=b+1):b<a:=z1 [a,b] (.p (.v 1) (.n 1)) (.v 0) (.p (.v 1) (.n 1)) (.v 0) (Nat.le_of_eq x.symm) rfl
theorem VU(x:a=b+1):b≤a:=z1 [a,b] (.p (.v 1) (.n 1)) (.v 0) (.v 1) (.v 0) (Nat.le_of_eq x.symm) rfl
theorem WJ(x:a=b)(y:a=0):b=0:=Nat.le_antisymm (z2 [a,b] (.v 1) (.v 0) (.v 0) (.n 0) (.v 1) (.n 0) (Nat.le_of_eq x.symm) (Nat.le_of_eq y) rfl) (z0 [a,b] (.n 0) (.v 1) rfl)
theorem TL(x:a=b):a=b:=Nat.le_antisymm (z1 [a,b] (.v 0) (.v 1) (.v 0) (.v 1) (Nat.le_of_eq x) rfl) (z1 [a,b] (.v 1) (.v 0) (.v 1) (.v 0) (Nat.le_of_eq x.symm) rfl)
theorem bB(x:a≠0)(y:b=a):(-1+(↑b:Int)).toNat=a-1:=by subst y;cases b with|zero=>exact absurd rfl x|succ m=>exact congrArg Int.toNat (u1 m)
theorem az(x:a≠0)(y:b=a):-(↑b:Int)≤-1:=by subst y;exact Int.neg_le_neg (Int.ofNat_le.mpr (Nat.pos_of_ne_zero x))
theorem XT(x:a≤10)(y:b=6):b+a≤16777216:=z2 [a,b] (.v 0) (.n 10) (.v 1) (.n 6) (.p (.v 1) (.v 0)) (.n 16777216) x (Nat.le_of_eq y) rfl
theorem Vx(x:a≤100)(y:b≤100):b+a≤200:=z2 [a,b] (.v 0) (.n 100) (.v 1) (.n 100) (.p (.v 1) (.v 0)) (.n 200) x y rfl
theorem WG(x:a≤100)(y:b≤1000):1+a+2+b+1+0≤1200:=z2 [a,b] (.v 0) (.n 100) (.v 1) (.n 1000) (.p (.p (.p (.p (.p (.n 1) (.v 0)) (.n 2)) (.v 1)) (.n 1)) (.n 0)) (.n 1200) x y rfl
theorem VC(x:a≤100)(y:b≤1000):1+a+2+b+1≤16777216:=z2 [a,b] (.v 0) (.n 100) (.v 1) (.n 1000) (.p (.p (.p (.p (.n 1) (.v 0)) (.n 2)) (.v 1)) (.n 1)) (.n 16777216) x y rfl
theorem Z5(x:a≤100)(y:b≤1000):1+a+2+b≤16777216:=z2 [a,b] (.v 0) (.n 100) (.v 1) (.n 1000) (.p (.p (.p (.n 1) (.v 0)) (.n 2)) (.v 1)) (.n 16777216) x y rfl
theorem bI(x:a≤100)(y:b≤6*a):b≤1000:=Nx [a,b] 6 1 0 (.v 0) (.n 100) (.v 1) (.m 6 (.v 0)) (.v 1) (.n 1000) x y rfl
theorem Sw(x:a≤100)(y:b≤a+2):b≤100000:=z2 [a,b] (.v 0) (.n 100) (.v 1) (.p (.v 0) (.n 2)) (.v 1) (.n 100000) x y rfl
theorem Ta(x:a≤1000)(y:b+1=a):b≤10000:=z2 [a,b] (.v 0) (.n 1000) (.p (.v 1) (.n 1)) (.v 0) (.v 1) (.n 10000) x (Nat.le_of_eq y) rfl
theorem bK(x:a≤1000)(y:b≤6*a):b≤9000:=Nx [a,b] 6 1 0 (.v 0) (.n 1000) (.v 1) (.m 6 (.v 0)) (.v 1) (.n 9000) x y rfl
theorem Xh(x:a≤16)(y:b≤206*a):b≤8000:=Nx [a,b] 206 1 0 (.v 0) (.n 16) (.v 1) (.m 206 (.v 0)) (.v 1) (.n 8000) x y rfl
theorem WF(x:a≤16)(y:b≤3*a):b≤300:=Nx [a,b] 3 1 0 (.v 0) (.n 16) (.v 1) (.m 3 (.v 0)) (.v 1) (.n 300) x y rfl
theorem ai(x:a≤16)(y:b≤9*a):b≤380:=Nx [a,b] 9 1 0 (.v 0) (.n 16) (.v 1) (.m 9 (.v 0)) (.v 1) (.n 380) x y rfl
theorem Pp(x:a≤2*b):1+a≤2*(1+b):=z1 [a,b] (.v 0) (.m 2 (.v 1)) (.p (.n 1) (.v 0)) (.m 2 (.p (.n 1) (.v 1))) x rfl
theorem Qb(x:a≤2*b):a+1≤2*(1+b):=z1 [a,b] (.v 0) (.m 2 (.v 1)) (.p (.v 0) (.n 1)) (.m 2 (.p (.n 1) (.v 1))) x rfl
theorem YL(x:a≤20)(y:b≤20):b+(a+1+1)≤100:=z2 [a,b] (.v 0) (.n 20) (.v 1) (.n 20) (.p (.v 1) (.p (.p (.v 0) (.n 1)) (.n 1))) (.n 100) x y rfl
theorem WA(x:a≤20)(y:b≤a)(z:b<a):min b a≤10000:=Nat.le_trans (Nat.min_le_right _ _) (z1 [a] (.v 0) (.n 20) (.v 0) (.n 10000) x rfl)
theorem X1(x:a≤20)(y:b≤a):b<64:=z2 [a,b] (.v 0) (.n 20) (.v 1) (.v 0) (.p (.v 1) (.n 1)) (.n 64) x y rfl
theorem We(x:a≤20)(y:b≤a):b≤50:=z2 [a,b] (.v 0) (.n 20) (.v 1) (.v 0) (.v 1) (.n 50) x y rfl
theorem Vo(x:a≤206*b):10+a≤206*(1+b):=z1 [a,b] (.v 0) (.m 206 (.v 1)) (.p (.n 10) (.v 0)) (.m 206 (.p (.n 1) (.v 1))) x rfl
theorem X3(x:a≤3*b):a≤3*(1+b):=z1 [a,b] (.v 0) (.m 3 (.v 1)) (.v 0) (.m 3 (.p (.n 1) (.v 1))) x rfl
theorem Ti(x:a≤3)(y:b≤1):a+b≤10000:=z2 [a,b] (.v 0) (.n 3) (.v 1) (.n 1) (.p (.v 0) (.v 1)) (.n 10000) x y rfl
theorem VI(x:a≤3)(y:b≤4):a+b≤100:=z2 [a,b] (.v 0) (.n 3) (.v 1) (.n 4) (.p (.v 0) (.v 1)) (.n 100) x y rfl
theorem YE(x:a≤3)(y:b≤4):a+b≤8:=z2 [a,b] (.v 0) (.n 3) (.v 1) (.n 4) (.p (.v 0) (.v 1)) (.n 8) x y rfl
theorem Xv(x:a≤3)(y:b≤6*a):b≤1000:=Nx [a,b] 6 1 0 (.v 0) (.n 3) (.v 1) (.m 6 (.v 0)) (.v 1) (.n 1000) x y rfl
theorem bE(x:a≤3)(y:b≤6*a):b≤5000:=Nx [a,b] 6 1 0 (.v 0) (.n 3) (.v 1) (.m 6 (.v 0)) (.v 1) (.n 5000) x y rfl
theorem YG(x:a≤3):min b a≤3:=Nat.le_trans (Nat.min_le_right _ _) x
theorem aZ(x:a≤30)(y:b≤20):a+(b+1+1)≤9000:=z2 [a,b] (.v 0) (.n 30) (.v 1) (.n 20) (.p (.v 0) (.p (.p (.v 1) (.n 1)) (.n 1))) (.n 9000) x y rfl
theorem W1(x:a≤380)(y:b≤a):b≤900:=z2 [a,b] (.v 0) (.n 380) (.v 1) (.v 0) (.v 1) (.n 900) x y rfl
theorem WY(x:a≤4*1562)(y:b≤1562):a+1+b≤10000:=z2 [a,b] (.v 0) (.m 4 (.n 1562)) (.v 1) (.n 1562) (.p (.p (.v 0) (.n 1)) (.v 1)) (.n 10000) x y rfl
theorem WD(x:a≤40)(y:b≤6*a):b≤1000:=Nx [a,b] 6 1 0 (.v 0) (.n 40) (.v 1) (.m 6 (.v 0)) (.v 1) (.n 1000) x y rfl
theorem Ym(x:a≤5*b):a+1+1≤2+5*b:=z1 [a,b] (.v 0) (.m 5 (.v 1)) (.p (.p (.v 0) (.n 1)) (.n 1)) (.p (.n 2) (.m 5 (.v 1))) x rfl
theorem Ya(x:a≤5)(y:b<a):b+1<7:=z2 [a,b] (.v 0) (.n 5) (.p (.v 1) (.n 1)) (.v 0) (.p (.p (.v 1) (.n 1)) (.n 1)) (.n 7) x y rfl
theorem XL(x:a≤5)(y:b<a):b+1≤6:=z2 [a,b] (.v 0) (.n 5) (.p (.v 1) (.n 1)) (.v 0) (.p (.v 1) (.n 1)) (.n 6) x y rfl
theorem bV(x:a≤5)(y:b=a):b≤10000000:=z2 [a,b] (.v 0) (.n 5) (.v 1) (.v 0) (.v 1) (.n 10000000) x (Nat.le_of_eq y) rfl
theorem ZH(x:a≤5)(y:b≤a):b≤1000:=z2 [a,b] (.v 0) (.n 5) (.v 1) (.v 0) (.v 1) (.n 1000) x y rfl
theorem W6(x:a≤5):a-(b+1)≤5:=Nat.le_trans (Nat.sub_le _ _) x
theorem WU(x:a≤500)(y:b=a):b≤10000:=z2 [a,b] (.v 0) (.n 500) (.v 1) (.v 0) (.v 1) (.n 10000) x (Nat.le_of_eq y) rfl
theorem Zk(x:a≤50000)(y:b≤a+2):b≤100000:=z2 [a,b] (.v 0) (.n 50000) (.v 1) (.p (.v 0) (.n 2)) (.v 1) (.n 100000) x y rfl
theorem X4(x:a≤63)(y:b=a):b≤1000:=z2 [a,b] (.v 0) (.n 63) (.v 1) (.v 0) (.v 1) (.n 1000) x (Nat.le_of_eq y) rfl
theorem Xw(x:a≤8000)(y:b≤60+a):b≤10000000:=z2 [a,b] (.v 0) (.n 8000) (.v 1) (.p (.n 60) (.v 0)) (.v 1) (.n 10000000) x y rfl
theorem bv(x:a≤8000)(y:b≤a):b≤100000:=z2 [a,b] (.v 0) (.n 8000) (.v 1) (.v 0) (.v 1) (.n 100000) x y rfl
theorem TD(x:a≤9*b):1+a≤9*(1+b):=z1 [a,b] (.v 0) (.m 9 (.v 1)) (.p (.n 1) (.v 0)) (.m 9 (.p (.n 1) (.v 1))) x rfl
theorem Vr(x:a≤9):a+2000*b≤9+2000*b:=z1 [a,b] (.v 0) (.n 9) (.p (.v 0) (.m 2000 (.v 1))) (.p (.n 9) (.m 2000 (.v 1))) x rfl
theorem YB(x:a≤b+1):a≤b+1:=z1 [a,b] (.v 0) (.p (.v 1) (.n 1)) (.v 0) (.p (.v 1) (.n 1)) x rfl
theorem aD(x:a≤b)(y:0=b-a):a=b:=Nat.le_antisymm x (Nat.le_of_sub_eq_zero y.symm)
theorem Sh(x:a≤b)(y:a<b):a+1≤b:=z1 [a,b] (.p (.v 0) (.n 1)) (.v 1) (.p (.v 0) (.n 1)) (.v 1) y rfl
theorem Sx(x:a≤b)(y:a<b):b+1-(a+1)<b+1-a:=Nat.sub_lt_sub_left (Nat.lt_succ_of_lt y) (Nat.lt_succ_self _)
theorem Za(x:a≤b)(y:a<b):b-a=b-(a+1)+1:=eS y
theorem Z1(x:a≤b)(y:¬a<b):a=b:=Nat.le_antisymm (z1 [a,b] (.v 0) (.v 1) (.v 0) (.v 1) x rfl) (z1 [a,b] (.v 1) (.v 0) (.v 1) (.v 0) (Nat.le_of_not_lt y) rfl)
theorem Wj(x:a≤b):6*a≤6*b:=RT [a,b] 6 0 (.v 0) (.v 1) (.m 6 (.v 0)) (.m 6 (.v 1)) x rfl
theorem YC(x:a≤b):a+(b-a)=b:=Nat.add_sub_of_le x
theorem Ps(x:a≤b):a+1≤1+b:=z1 [a,b] (.v 0) (.v 1) (.p (.v 0) (.n 1)) (.p (.n 1) (.v 1)) x rfl
theorem YR(x:a≤b):a≤b:=z1 [a,b] (.v 0) (.v 1) (.v 0) (.v 1) x rfl
theorem U1(x:a≤b):b=a+(b-a):=(Nat.add_sub_of_le x).symm
theorem Sz(x:a≤b):¬b<a:=Nat.not_lt.mpr (z1 [a,b] (.v 0) (.v 1) (.v 0) (.v 1) x rfl)
theorem PV(x:¬a<b)(y:a<b+1):a=b:=Nat.le_antisymm (z1 [a,b] (.p (.v 0) (.n 1)) (.p (.v 1) (.n 1)) (.v 0) (.v 1) y rfl) (z1 [a,b] (.v 1) (.v 0) (.v 1) (.v 0) (Nat.le_of_not_lt x) rfl)
theorem Sv(x:¬a<b):b≤a:=z1 [a,b] (.v 1) (.v 0) (.v 1) (.v 0) (Nat.le_of_not_lt x) rfl
theorem Tf(x:¬a≤b):b<a:=z1 [a,b] (.p (.v 1) (.n 1)) (.v 0) (.p (.v 1) (.n 1)) (.v 0) (Nat.gt_of_not_le x) rfl
theorem Zh(x:¬a≤b):b≤a:=z1 [a,b] (.p (.v 1) (.n 1)) (.v 0) (.v 1) (.v 0) (Nat.gt_of_not_le x) rfl
theorem WX:(↑(a+(b+1+1)):Int)+1=(↑(a+(b+3)):Int):=rfl
theorem VE:(↑a:Int)+((↑b:Int)+3)-1=(↑a:Int)+2+(↑b:Int):=by first|rfl|lia
theorem aI:(↑a:Int)+(↑b:Int)*1=(↑(a+b):Int):=by first|rfl|lia
theorem TS:(↑a:Int)+(↑b:Int)+1=(↑a:Int)+((↑b:Int)+1):=by first|rfl|lia
theorem Yv:2*a+1+b+1+1=2*(a+1)+1+b:=Nat.le_antisymm (z0 [a,b] (.p (.p (.p (.p (.m 2 (.v 0)) (.n 1)) (.v 1)) (.n 1)) (.n 1)) (.p (.p (.m 2 (.p (.v 0) (.n 1))) (.n 1)) (.v 1)) rfl) (z0 [a,b] (.p (.p (.m 2 (.p (.v 0) (.n 1))) (.n 1)) (.v 1)) (.p (.p (.p (.p (.m 2 (.v 0)) (.n 1)) (.v 1)) (.n 1)) (.n 1)) rfl)
theorem XC:a+(b+1)=a+b+1:=Nat.le_antisymm (z0 [a,b] (.p (.v 0) (.p (.v 1) (.n 1))) (.p (.p (.v 0) (.v 1)) (.n 1)) rfl) (z0 [a,b] (.p (.p (.v 0) (.v 1)) (.n 1)) (.p (.v 0) (.p (.v 1) (.n 1))) rfl)
theorem Zr:a+1+b-a=b+1:=Nat.sub_eq_of_eq_add (Nat.le_antisymm (z0 [a,b] (.p (.p (.v 0) (.n 1)) (.v 1)) (.p (.p (.v 1) (.n 1)) (.v 0)) rfl) (z0 [a,b] (.p (.p (.v 1) (.n 1)) (.v 0)) (.p (.p (.v 0) (.n 1)) (.v 1)) rfl))
theorem ay:a+1+b=a+(1+b):=Nat.le_antisymm (z0 [a,b] (.p (.p (.v 0) (.n 1)) (.v 1)) (.p (.v 0) (.p (.n 1) (.v 1))) rfl) (z0 [a,b] (.p (.v 0) (.p (.n 1) (.v 1))) (.p (.p (.v 0) (.n 1)) (.v 1)) rfl)
theorem Vi:a+b+1=a+(b+1):=Nat.le_antisymm (z0 [a,b] (.p (.p (.v 0) (.v 1)) (.n 1)) (.p (.v 0) (.p (.v 1) (.n 1))) rfl) (z0 [a,b] (.p (.v 0) (.p (.v 1) (.n 1))) (.p (.p (.v 0) (.v 1)) (.n 1)) rfl)
theorem Vz:a+b-a=b:=Nat.add_sub_cancel_left ..
theorem Yt:a+b≤a+b:=z0 [a,b] (.p (.v 0) (.v 1)) (.p (.v 0) (.v 1)) rfl
theorem Zc:a-(b+1)=a-b-1:=by lia
theorem Yz:a-b≤a-b:=by lia
theorem Wf:a<(2*a+1+b+1)/2:=(Nat.le_div_iff_mul_le (by decide)).mpr (z0 [a,b] (.t (.p (.v 0) (.n 1)) 2) (.p (.p (.p (.m 2 (.v 0)) (.n 1)) (.v 1)) (.n 1)) rfl)
theorem Vp:a<a+1+0+b:=z0 [a,b] (.p (.v 0) (.n 1)) (.p (.p (.p (.v 0) (.n 1)) (.n 0)) (.v 1)) rfl
theorem V5:a≤a+1+b:=z0 [a,b] (.v 0) (.p (.p (.v 0) (.n 1)) (.v 1)) rfl
theorem XY:a≤a+b:=z0 [a,b] (.v 0) (.p (.v 0) (.v 1)) rfl
theorem U9:a≤b+a:=z0 [a,b] (.v 0) (.p (.v 1) (.v 0)) rfl
theorem YZ{a b:Nat}{c:Int}(x:a≤b)(y:a=c.toNat):c-(↑b:Int)≤0:=Int.sub_nonpos_of_le (Int.toNat_le.mp (y▸x))
theorem WQ(x:1+a+b+c+1≤5000):1+a+b+c+1≤16777216:=z1 [a,b,c] (.p (.p (.p (.p (.n 1) (.v 0)) (.v 1)) (.v 2)) (.n 1)) (.n 5000) (.p (.p (.p (.p (.n 1) (.v 0)) (.v 1)) (.v 2)) (.n 1)) (.n 16777216) x rfl
theorem Wq(x:1+a+b+c+1≤5000):1+a+b+c≤16777216:=z1 [a,b,c] (.p (.p (.p (.p (.n 1) (.v 0)) (.v 1)) (.v 2)) (.n 1)) (.n 5000) (.p (.p (.p (.n 1) (.v 0)) (.v 1)) (.v 2)) (.n 16777216) x rfl
theorem Yb(x:1+a+b+c+1≤5000):1+a+b≤16777216:=z1 [a,b,c] (.p (.p (.p (.p (.n 1) (.v 0)) (.v 1)) (.v 2)) (.n 1)) (.n 5000) (.p (.p (.n 1) (.v 0)) (.v 1)) (.n 16777216) x rfl
theorem Wy(x:1+a+b+c+1≤5000):1+a≤16777216:=z1 [a,b,c] (.p (.p (.p (.p (.n 1) (.v 0)) (.v 1)) (.v 2)) (.n 1)) (.n 5000) (.p (.n 1) (.v 0)) (.n 16777216) x rfl
theorem Yl(x:1+a+b+c≤400):b≤800:=z1 [a,b,c] (.p (.p (.p (.n 1) (.v 0)) (.v 1)) (.v 2)) (.n 400) (.v 1) (.n 800) x rfl
theorem Tg(x:1+a+b+c≤400):c≤400:=z1 [a,b,c] (.p (.p (.p (.n 1) (.v 0)) (.v 1)) (.v 2)) (.n 400) (.v 2) (.n 400) x rfl
theorem Wk(x:1+a+b+c≤800):b≤800:=z1 [a,b,c] (.p (.p (.p (.n 1) (.v 0)) (.v 1)) (.v 2)) (.n 800) (.v 1) (.n 800) x rfl
theorem Yp(x:1+a+b+c≤800):c≤800:=z1 [a,b,c] (.p (.p (.p (.n 1) (.v 0)) (.v 1)) (.v 2)) (.n 800) (.v 2) (.n 800) x rfl
theorem XG(x:a*b≤16000000)(y:c≤0+a*b):c≤16777216:=Nat.le_trans y ((Nat.zero_add _).symm▸Nat.le_trans x (by decide))
theorem TX(x:a+(b+1)=c):a+1+b=c:=Nat.le_antisymm (z1 [a,b,c] (.p (.v 0) (.p (.v 1) (.n 1))) (.v 2) (.p (.p (.v 0) (.n 1)) (.v 1)) (.v 2) (Nat.le_of_eq x) rfl) (z1 [a,b,c] (.v 2) (.p (.v 0) (.p (.v 1) (.n 1))) (.v 2) (.p (.p (.v 0) (.n 1)) (.v 1)) (Nat.le_of_eq x.symm) rfl)
theorem ad(x:a+(b+1)=c):a<c:=z1 [a,b,c] (.p (.v 0) (.p (.v 1) (.n 1))) (.v 2) (.p (.v 0) (.n 1)) (.v 2) (Nat.le_of_eq x) rfl
theorem aw(x:a+(b+1)=c):c-a-1=b:=by subst x;exact congrArg (·-1) (Nat.add_sub_cancel_left ..)
theorem SZ(x:a+(b+1)≤200)(y:c≤a+1):c+b≤200:=z2 [a,b,c] (.p (.v 0) (.p (.v 1) (.n 1))) (.n 200) (.v 2) (.p (.v 0) (.n 1)) (.p (.v 2) (.v 1)) (.n 200) x y rfl
theorem U3(x:a+(b+1)≤c):a+1+b≤c:=z1 [a,b,c] (.p (.v 0) (.p (.v 1) (.n 1))) (.v 2) (.p (.p (.v 0) (.n 1)) (.v 1)) (.v 2) x rfl
theorem Xt(x:a+(b+1)≤c):a+b≤c:=z1 [a,b,c] (.p (.v 0) (.p (.v 1) (.n 1))) (.v 2) (.p (.v 0) (.v 1)) (.v 2) x rfl
theorem U8(x:a+1≤b∧b<c):0≤(↑b:Int):=by first|rfl|lia
theorem VO(x:a+1≤b)(y:c≤b+a):c+1≤b*2:=z2 [a,b,c] (.p (.v 0) (.n 1)) (.v 1) (.v 2) (.p (.v 1) (.v 0)) (.p (.v 2) (.n 1)) (.t (.v 1) 2) x y rfl
theorem Y0(x:a+1≤b):1+a+c≤b+c:=z1 [a,b,c] (.p (.v 0) (.n 1)) (.v 1) (.p (.p (.n 1) (.v 0)) (.v 2)) (.p (.v 1) (.v 2)) x rfl
theorem Wt(x:a+100*(b+1)≤300)(y:c≤100):a+c+100*b≤300:=z2 [a,b,c] (.p (.v 0) (.m 100 (.p (.v 1) (.n 1)))) (.n 300) (.v 2) (.n 100) (.p (.p (.v 0) (.v 2)) (.m 100 (.v 1))) (.n 300) x y rfl
theorem YU(x:a+2000*(b+1)≤9+2000*c):a+2000*b≤9+2000*c:=z1 [a,b,c] (.p (.v 0) (.m 2000 (.p (.v 1) (.n 1)))) (.p (.n 9) (.m 2000 (.v 2))) (.p (.v 0) (.m 2000 (.v 1))) (.p (.n 9) (.m 2000 (.v 2))) x rfl
theorem Zq(x:a+b+(c+1)≤50):a+(b+1)+c≤50:=z1 [a,b,c] (.p (.p (.v 0) (.v 1)) (.p (.v 2) (.n 1))) (.n 50) (.p (.p (.v 0) (.p (.v 1) (.n 1))) (.v 2)) (.n 50) x rfl
theorem bq(x:a+b+(c+1)≤50):a+1+b+c≤50:=z1 [a,b,c] (.p (.p (.v 0) (.v 1)) (.p (.v 2) (.n 1))) (.n 50) (.p (.p (.p (.v 0) (.n 1)) (.v 1)) (.v 2)) (.n 50) x rfl
theorem Wr(x:a+b+(c+1)≤50):a≤10000:=z1 [a,b,c] (.p (.p (.v 0) (.v 1)) (.p (.v 2) (.n 1))) (.n 50) (.v 0) (.n 10000) x rfl
theorem W9(x:a+b+(c+1)≤50):b≤10000:=z1 [a,b,c] (.p (.p (.v 0) (.v 1)) (.p (.v 2) (.n 1))) (.n 50) (.v 1) (.n 10000) x rfl
theorem ZB(x:a+b+1=c+1):c=a+b:=Nat.le_antisymm (z1 [a,b,c] (.p (.v 2) (.n 1)) (.p (.p (.v 0) (.v 1)) (.n 1)) (.v 2) (.p (.v 0) (.v 1)) (Nat.le_of_eq x.symm) rfl) (z1 [a,b,c] (.p (.p (.v 0) (.v 1)) (.n 1)) (.p (.v 2) (.n 1)) (.p (.v 0) (.v 1)) (.v 2) (Nat.le_of_eq x) rfl)
theorem Sd(x:a+b+100*c≤300):a≤1000:=z1 [a,b,c] (.p (.p (.v 0) (.v 1)) (.m 100 (.v 2))) (.n 300) (.v 0) (.n 1000) x rfl
theorem WZ(x:a+b<a+c):b<c:=z1 [a,b,c] (.p (.p (.v 0) (.v 1)) (.n 1)) (.p (.v 0) (.v 2)) (.p (.v 1) (.n 1)) (.v 2) x rfl
theorem Zs(x:a+b=c):a+(b+1)=c+1:=Nat.le_antisymm (z1 [a,b,c] (.p (.v 0) (.v 1)) (.v 2) (.p (.v 0) (.p (.v 1) (.n 1))) (.p (.v 2) (.n 1)) (Nat.le_of_eq x) rfl) (z1 [a,b,c] (.v 2) (.p (.v 0) (.v 1)) (.p (.v 2) (.n 1)) (.p (.v 0) (.p (.v 1) (.n 1))) (Nat.le_of_eq x.symm) rfl)
theorem Xy(x:a+b=c):a+1+b=c+1:=Nat.le_antisymm (z1 [a,b,c] (.p (.v 0) (.v 1)) (.v 2) (.p (.p (.v 0) (.n 1)) (.v 1)) (.p (.v 2) (.n 1)) (Nat.le_of_eq x) rfl) (z1 [a,b,c] (.v 2) (.p (.v 0) (.v 1)) (.p (.v 2) (.n 1)) (.p (.p (.v 0) (.n 1)) (.v 1)) (Nat.le_of_eq x.symm) rfl)
theorem U4(x:a+b≤300)(y:c≤6*a):c≤5000:=Nx [a,b,c] 6 1 0 (.p (.v 0) (.v 1)) (.n 300) (.v 2) (.m 6 (.v 0)) (.v 2) (.n 5000) x y rfl
theorem Y3(x:a<4)(y:b+c=a):b+c≤1000:=z2 [a,b,c] (.p (.v 0) (.n 1)) (.n 4) (.p (.v 1) (.v 2)) (.v 0) (.p (.v 1) (.v 2)) (.n 1000) x (Nat.le_of_eq y) rfl
theorem X9(x:a<b)(y:b≤c):c≠a:=fun e=>(Nat.not_succ_le_zero 0 (Fh [a,b,c] 1 1 1 0 (.p (.v 0) (.n 1)) (.v 1) (.v 1) (.v 2) (.v 2) (.v 0) (.n 1) (.n 0) x y (Nat.le_of_eq e) rfl))
theorem TC(x:a<b):a<b+1+c:=z1 [a,b,c] (.p (.v 0) (.n 1)) (.v 1) (.p (.v 0) (.n 1)) (.p (.p (.v 1) (.n 1)) (.v 2)) x rfl
theorem X5(x:a=2*b+1+c)(y:a≤8002):a≤10000:=z1 [a,b,c] (.v 0) (.n 8002) (.v 0) (.n 10000) y rfl
theorem Z4(x:a=2*b+1+c)(y:a≤8002):a≤100000:=z1 [a,b,c] (.v 0) (.n 8002) (.v 0) (.n 100000) y rfl
theorem aT(x:a=2*b+1+c)(y:a≤8002):a≤10000000:=z1 [a,b,c] (.v 0) (.n 8002) (.v 0) (.n 10000000) y rfl
theorem X7(x:a=b+(c+1)):(↑b:Int)<(↑a:Int):=Int.ofNat_lt.mpr (z1 [a,b,c] (.p (.v 1) (.p (.v 2) (.n 1))) (.v 0) (.p (.v 1) (.n 1)) (.v 0) (Nat.le_of_eq x.symm) rfl)
theorem Vu(x:a=b+1+c):b<a:=z1 [a,b,c] (.p (.p (.v 1) (.n 1)) (.v 2)) (.v 0) (.p (.v 1) (.n 1)) (.v 0) (Nat.le_of_eq x.symm) rfl
theorem WN(x:a=b+c):¬(↑a:Int)<0:=Int.not_lt.mpr (Int.natCast_nonneg _)
theorem Se(x:a=b∧c≤b):a=b∧c≤b:=⟨(Nat.le_antisymm (z1 [a,b,c] (.v 0) (.v 1) (.v 0) (.v 1) (Nat.le_of_eq x.1) rfl) (z1 [a,b,c] (.v 1) (.v 0) (.v 1) (.v 0) (Nat.le_of_eq x.1.symm) rfl)),(z1 [a,b,c] (.v 2) (.v 1) (.v 2) (.v 1) x.2 rfl)⟩
theorem aU(x:a=b)(y:¬c<a):b≤c:=z2 [a,b,c] (.v 1) (.v 0) (.v 0) (.v 2) (.v 1) (.v 2) (Nat.le_of_eq x.symm) (Nat.le_of_not_lt y) rfl
theorem Wu(x:a=b)(y:¬c≤a):b≤c:=z2 [a,b,c] (.v 1) (.v 0) (.p (.v 0) (.n 1)) (.v 2) (.v 1) (.v 2) (Nat.le_of_eq x.symm) (Nat.gt_of_not_le y) rfl
theorem W2(x:a≤100)(y:b+c+0≤50):a+c≤200:=z2 [a,b,c] (.v 0) (.n 100) (.p (.p (.v 1) (.v 2)) (.n 0)) (.n 50) (.p (.v 0) (.v 2)) (.n 200) x y rfl
theorem Zu(x:a≤1000)(y:b≤a)(z:c≤b+1):c≤16777216+1:=Fh [a,b,c] 1 1 1 0 (.v 0) (.n 1000) (.v 1) (.v 0) (.v 2) (.p (.v 1) (.n 1)) (.v 2) (.p (.n 16777216) (.n 1)) x y z rfl
theorem VW(x:a≤16)(y:b≤3*a)(z:b=c+0):c≤300:=Fh [a,b,c] 3 1 1 0 (.v 0) (.n 16) (.v 1) (.m 3 (.v 0)) (.p (.v 2) (.n 0)) (.v 1) (.v 2) (.n 300) x y (Nat.le_of_eq z.symm) rfl
theorem Wm(x:a≤16)(y:b≤9*a)(z:c≤2*b):c≤500:=Nat.le_trans z (Nat.le_trans (Nat.mul_le_mul_left 2 (Nat.le_trans y (Nat.mul_le_mul_left 9 x))) (by decide))
theorem aV(x:a≤20)(y:b+(c+1)≤a):b≤1000:=z2 [a,b,c] (.v 0) (.n 20) (.p (.v 1) (.p (.v 2) (.n 1))) (.v 0) (.v 1) (.n 1000) x y rfl
theorem Z2(x:a≤20)(y:b=2*a+1+c):min (2*a) b≤40:=Nat.le_trans (Nat.min_le_left _ _) (RT [a] 2 0 (.v 0) (.n 20) (.m 2 (.v 0)) (.n 40) x rfl)
theorem ZM(x:a≤20)(y:b≤a)(z:c≤a):b+c≤10000:=Fh [a,b,c] 2 1 1 0 (.v 0) (.n 20) (.v 1) (.v 0) (.v 2) (.v 0) (.p (.v 1) (.v 2)) (.n 10000) x y z rfl
theorem Wi(x:a≤3)(y:b+c=a):b+c≤1000:=z2 [a,b,c] (.v 0) (.n 3) (.p (.v 1) (.v 2)) (.v 0) (.p (.v 1) (.v 2)) (.n 1000) x (Nat.le_of_eq y) rfl
theorem aN(x:a≤3)(y:b≤4)(z:c≤1):a+c+b≤100:=Fh [a,b,c] 1 1 1 0 (.v 0) (.n 3) (.v 1) (.n 4) (.v 2) (.n 1) (.p (.p (.v 0) (.v 2)) (.v 1)) (.n 100) x y z rfl
theorem Wx(x:a≤4)(y:a=b+c):b+c≤1000:=z2 [a,b,c] (.v 0) (.n 4) (.p (.v 1) (.v 2)) (.v 0) (.p (.v 1) (.v 2)) (.n 1000) x (Nat.le_of_eq y.symm) rfl
theorem U0(x:a≤50)(y:b+c=a):b≤50:=z2 [a,b,c] (.v 0) (.n 50) (.p (.v 1) (.v 2)) (.v 0) (.v 1) (.n 50) x (Nat.le_of_eq y) rfl
theorem V8(x:a≤500)(y:b≤c)(z:c≤a):b≤16777216:=Fh [a,b,c] 1 1 1 0 (.v 0) (.n 500) (.v 1) (.v 2) (.v 2) (.v 0) (.v 1) (.n 16777216) x y z rfl
theorem XK(x:a≤6*b)(y:c≤6):c+a≤6*(b+1):=z2 [a,b,c] (.v 0) (.m 6 (.v 1)) (.v 2) (.n 6) (.p (.v 2) (.v 0)) (.m 6 (.p (.v 1) (.n 1))) x y rfl
theorem aR(x:a≤8000)(y:b≤a)(z:c≤b+2):c≤100000:=Fh [a,b,c] 1 1 1 0 (.v 0) (.n 8000) (.v 1) (.v 0) (.v 2) (.p (.v 1) (.n 2)) (.v 2) (.n 100000) x y z rfl
theorem be(x:a≤8000)(y:b≤a)(z:c≤b+2):c≤8002:=Fh [a,b,c] 1 1 1 0 (.v 0) (.n 8000) (.v 1) (.v 0) (.v 2) (.p (.v 1) (.n 2)) (.v 2) (.n 8002) x y z rfl
theorem ZU(x:a≤9*b)(y:c≤1+a):c≤9*(1+b):=z2 [a,b,c] (.v 0) (.m 9 (.v 1)) (.v 2) (.p (.n 1) (.v 0)) (.v 2) (.m 9 (.p (.n 1) (.v 1))) x y rfl
theorem WV(x:a≤900)(y:b+c=a+2):b≤10000:=z2 [a,b,c] (.v 0) (.n 900) (.p (.v 1) (.v 2)) (.p (.v 0) (.n 2)) (.v 1) (.n 10000) x (Nat.le_of_eq y) rfl
theorem Wh(x:a≤b)(y:b*6≤14000000)(z:(a+1)*c≤(a+1)*6):a+(a+1)*c≤16777216:=Nat.le_trans (Nat.add_le_add_left z a) (Nx [a,b] 42 7 5 (.v 0) (.v 1) (.t (.v 1) 6) (.n 14000000) (.p (.v 0) (.t (.p (.v 0) (.n 1)) 6)) (.n 16777216) x y rfl)
theorem YK(x:a≤b)(y:c+1=b-a):a<b:=Nat.lt_of_sub_pos (y▸Nat.succ_pos c)
theorem Y2(x:a≤b)(y:c≤a+1):c≤b+1:=z2 [a,b,c] (.v 0) (.v 1) (.v 2) (.p (.v 0) (.n 1)) (.v 2) (.p (.v 1) (.n 1)) x y rfl
theorem aL(x:a≤b):a≤c+(b+1):=z1 [a,b,c] (.v 0) (.v 1) (.v 0) (.p (.v 2) (.p (.v 1) (.n 1))) x rfl
theorem cC:a+(b+(c+1+1))=a+b+1+c+1:=Nat.le_antisymm (z0 [a,b,c] (.p (.v 0) (.p (.v 1) (.p (.p (.v 2) (.n 1)) (.n 1)))) (.p (.p (.p (.p (.v 0) (.v 1)) (.n 1)) (.v 2)) (.n 1)) rfl) (z0 [a,b,c] (.p (.p (.p (.p (.v 0) (.v 1)) (.n 1)) (.v 2)) (.n 1)) (.p (.v 0) (.p (.v 1) (.p (.p (.v 2) (.n 1)) (.n 1)))) rfl)
theorem TA:a+(b+1)+c=a+b+(c+1):=Nat.le_antisymm (z0 [a,b,c] (.p (.p (.v 0) (.p (.v 1) (.n 1))) (.v 2)) (.p (.p (.v 0) (.v 1)) (.p (.v 2) (.n 1))) rfl) (z0 [a,b,c] (.p (.p (.v 0) (.v 1)) (.p (.v 2) (.n 1))) (.p (.p (.v 0) (.p (.v 1) (.n 1))) (.v 2)) rfl)
theorem Y6:a+(b+c+1)=a+1+b+c:=Nat.le_antisymm (z0 [a,b,c] (.p (.v 0) (.p (.p (.v 1) (.v 2)) (.n 1))) (.p (.p (.p (.v 0) (.n 1)) (.v 1)) (.v 2)) rfl) (z0 [a,b,c] (.p (.p (.p (.v 0) (.n 1)) (.v 1)) (.v 2)) (.p (.v 0) (.p (.p (.v 1) (.v 2)) (.n 1))) rfl)
theorem VZ:a+1+b+c+1=a+(b+c+2):=Nat.le_antisymm (z0 [a,b,c] (.p (.p (.p (.p (.v 0) (.n 1)) (.v 1)) (.v 2)) (.n 1)) (.p (.v 0) (.p (.p (.v 1) (.v 2)) (.n 2))) rfl) (z0 [a,b,c] (.p (.v 0) (.p (.p (.v 1) (.v 2)) (.n 2))) (.p (.p (.p (.p (.v 0) (.n 1)) (.v 1)) (.v 2)) (.n 1)) rfl)
theorem cA:a+1+b+c-a=b+c+1:=Nat.sub_eq_of_eq_add (Nat.le_antisymm (z0 [a,b,c] (.p (.p (.p (.v 0) (.n 1)) (.v 1)) (.v 2)) (.p (.p (.p (.v 1) (.v 2)) (.n 1)) (.v 0)) rfl) (z0 [a,b,c] (.p (.p (.p (.v 1) (.v 2)) (.n 1)) (.v 0)) (.p (.p (.p (.v 0) (.n 1)) (.v 1)) (.v 2)) rfl))
theorem b9:a+b+(c+1)=a+b+1+c:=Nat.le_antisymm (z0 [a,b,c] (.p (.p (.v 0) (.v 1)) (.p (.v 2) (.n 1))) (.p (.p (.p (.v 0) (.v 1)) (.n 1)) (.v 2)) rfl) (z0 [a,b,c] (.p (.p (.p (.v 0) (.v 1)) (.n 1)) (.v 2)) (.p (.p (.v 0) (.v 1)) (.p (.v 2) (.n 1))) rfl)
theorem af:a+b+c≤a+(b+c):=z0 [a,b,c] (.p (.p (.v 0) (.v 1)) (.v 2)) (.p (.v 0) (.p (.v 1) (.v 2))) rfl
theorem VH:a<a+1+b+0+c:=z0 [a,b,c] (.p (.v 0) (.n 1)) (.p (.p (.p (.p (.v 0) (.n 1)) (.v 1)) (.n 0)) (.v 2)) rfl
theorem zq378:a<b+(c+(a+1)+1):=z0 [a,b,c] (.p (.v 0) (.n 1)) (.p (.v 1) (.p (.p (.v 2) (.p (.v 0) (.n 1))) (.n 1))) rfl
theorem YS:a≤a+1+b+c:=z0 [a,b,c] (.v 0) (.p (.p (.p (.v 0) (.n 1)) (.v 1)) (.v 2)) rfl
theorem br(x:(a+1)/2=b)(y:c<b)(z:d≤c):b-d=b-(d+1)+1:=eS (Nat.lt_of_le_of_lt z y)
theorem bu(x:(a+1)/2=b)(y:c<b)(z:d≤c):d<b:=z2 [a,b,c,d] (.p (.v 2) (.n 1)) (.v 1) (.v 3) (.v 2) (.p (.v 3) (.n 1)) (.v 1) y z rfl
theorem ax(x:0<a)(y:b+4*a≤26)(z:c≤4)(w:d≤b+c):d+4*(a-1)≤26:=by cases a with|zero=>exact absurd x (Nat.lt_irrefl 0)|succ a=>exact(Fh [a,b,c,d] 1 1 1 0 (.p (.v 1) (.m 4 (.p (.v 0) (.n 1)))) (.n 26) (.v 2) (.n 4) (.v 3) (.p (.v 1) (.v 2)) (.p (.v 3) (.m 4 (.v 0))) (.n 26) y z w rfl)
theorem Vd(x:0<a)(y:b+4*a≤70)(z:c≤4)(w:d≤b+c):d+4*(a-1)≤70:=by cases a with|zero=>exact absurd x (Nat.lt_irrefl 0)|succ a=>exact(Fh [a,b,c,d] 1 1 1 0 (.p (.v 1) (.m 4 (.p (.v 0) (.n 1)))) (.n 70) (.v 2) (.n 4) (.v 3) (.p (.v 1) (.v 2)) (.p (.v 3) (.m 4 (.v 0))) (.n 70) y z w rfl)
theorem aK(x:1+a+b+c≤400)(y:d≤2*b):(d+1+1)*5000≤5000000:=Nx [a,b,c,d] 10000 5000 0 (.p (.p (.p (.n 1) (.v 0)) (.v 1)) (.v 2)) (.n 400) (.v 3) (.m 2 (.v 1)) (.t (.p (.p (.v 3) (.n 1)) (.n 1)) 5000) (.n 5000000) x y rfl
theorem Z0(x:1+a+b+c≤400)(y:d≤2*b):d≤900:=Nx [a,b,c,d] 2 1 0 (.p (.p (.p (.n 1) (.v 0)) (.v 1)) (.v 2)) (.n 400) (.v 3) (.m 2 (.v 1)) (.v 3) (.n 900) x y rfl
theorem am(x:1+a+b+c≤400)(y:d≤b):d≤900:=z2 [a,b,c,d] (.p (.p (.p (.n 1) (.v 0)) (.v 1)) (.v 2)) (.n 400) (.v 3) (.v 1) (.v 3) (.n 900) x y rfl
theorem aJ(x:1+a+b+c≤800)(y:d≤b):d≤900:=z2 [a,b,c,d] (.p (.p (.p (.n 1) (.v 0)) (.v 1)) (.v 2)) (.n 800) (.v 3) (.v 1) (.v 3) (.n 900) x y rfl
theorem Zw(x:1≤a)(y:a+b=c-d):d+a≤c:=Nat.add_comm a d▸Nat.add_le_of_le_sub (Nat.le_of_lt (Nat.lt_of_sub_pos (y▸(z1 [a,b] (.n 1) (.v 0) (.p (.n 0) (.n 1)) (.p (.v 0) (.v 1)) x rfl)))) (y▸Nat.le_add_right a b)
theorem X8(x:a+(1+b+c+d)≤390):a+1+c≤390:=z1 [a,b,c,d] (.p (.v 0) (.p (.p (.p (.n 1) (.v 1)) (.v 2)) (.v 3))) (.n 390) (.p (.p (.v 0) (.n 1)) (.v 2)) (.n 390) x rfl
theorem Zg(x:a+(1+b+c+d)≤390):a+1≤900:=z1 [a,b,c,d] (.p (.v 0) (.p (.p (.p (.n 1) (.v 1)) (.v 2)) (.v 3))) (.n 390) (.p (.v 0) (.n 1)) (.n 900) x rfl
theorem XN(x:a+(1+b+c+d)≤390):a+d≤390:=z1 [a,b,c,d] (.p (.v 0) (.p (.p (.p (.n 1) (.v 1)) (.v 2)) (.v 3))) (.n 390) (.p (.v 0) (.v 3)) (.n 390) x rfl
theorem XJ(x:a+(1+b+c+d)≤390):a≤400:=z1 [a,b,c,d] (.p (.v 0) (.p (.p (.p (.n 1) (.v 1)) (.v 2)) (.v 3))) (.n 390) (.v 0) (.n 400) x rfl
theorem VD(x:a+(1+b+c+d)≤800):a+1+b+c+d≤800:=z1 [a,b,c,d] (.p (.v 0) (.p (.p (.p (.n 1) (.v 1)) (.v 2)) (.v 3))) (.n 800) (.p (.p (.p (.p (.v 0) (.n 1)) (.v 1)) (.v 2)) (.v 3)) (.n 800) x rfl
theorem Ys(x:a+(1+b+c+d)≤800):a+1+b+c≤800:=z1 [a,b,c,d] (.p (.v 0) (.p (.p (.p (.n 1) (.v 1)) (.v 2)) (.v 3))) (.n 800) (.p (.p (.p (.v 0) (.n 1)) (.v 1)) (.v 2)) (.n 800) x rfl
theorem Xx(x:a+(1+b+c+d)≤800):a+1+d≤800:=z1 [a,b,c,d] (.p (.v 0) (.p (.p (.p (.n 1) (.v 1)) (.v 2)) (.v 3))) (.n 800) (.p (.p (.v 0) (.n 1)) (.v 3)) (.n 800) x rfl
theorem Xd(x:a+(1+b+c+d)≤800):a+b≤900:=z1 [a,b,c,d] (.p (.v 0) (.p (.p (.p (.n 1) (.v 1)) (.v 2)) (.v 3))) (.n 800) (.p (.v 0) (.v 1)) (.n 900) x rfl
theorem TE(x:a+(1+b+c+d)≤800):a≤900:=z1 [a,b,c,d] (.p (.v 0) (.p (.p (.p (.n 1) (.v 1)) (.v 2)) (.v 3))) (.n 800) (.v 0) (.n 900) x rfl
theorem Xf(x:a+(1+b+c+d)≤800):c≤800:=z1 [a,b,c,d] (.p (.v 0) (.p (.p (.p (.n 1) (.v 1)) (.v 2)) (.v 3))) (.n 800) (.v 2) (.n 800) x rfl
theorem bO(x:a+(b+1)+100*c≤300)(y:d≤a+1):d+b+100*c≤300:=z2 [a,b,c,d] (.p (.p (.v 0) (.p (.v 1) (.n 1))) (.m 100 (.v 2))) (.n 300) (.v 3) (.p (.v 0) (.n 1)) (.p (.p (.v 3) (.v 1)) (.m 100 (.v 2))) (.n 300) x y rfl
theorem cB(x:a+2000*(b+1)≤9+2000*c)(y:c≤30)(z:d≤107):a+d+2≤16777216:=Fh [a,b,c,d] 1 2000 1 0 (.p (.v 0) (.m 2000 (.p (.v 1) (.n 1)))) (.p (.n 9) (.m 2000 (.v 2))) (.v 2) (.n 30) (.v 3) (.n 107) (.p (.p (.v 0) (.v 3)) (.n 2)) (.n 16777216) x y z rfl
theorem Wz(x:a+2000*(b+1)≤9+2000*c)(y:c≤30)(z:d≤107):a+d≤16777216:=Fh [a,b,c,d] 1 2000 1 0 (.p (.v 0) (.m 2000 (.p (.v 1) (.n 1)))) (.p (.n 9) (.m 2000 (.v 2))) (.v 2) (.n 30) (.v 3) (.n 107) (.p (.v 0) (.v 3)) (.n 16777216) x y z rfl
theorem aO(x:a+5*b≤26)(y:0<b)(z:c≤4)(w:d≤a+c):d+5*(b-1)≤26:=by cases b with|zero=>exact absurd y (Nat.lt_irrefl 0)|succ b=>exact(Fh [a,b,c,d] 1 1 1 0 (.p (.v 0) (.m 5 (.p (.v 1) (.n 1)))) (.n 26) (.v 2) (.n 4) (.v 3) (.p (.v 0) (.v 2)) (.p (.v 3) (.m 5 (.v 1))) (.n 26) x z w rfl)
theorem Vn(x:a+5*b≤70)(y:0<b)(z:c≤4)(w:d≤a+c):d+5*(b-1)≤70:=by cases b with|zero=>exact absurd y (Nat.lt_irrefl 0)|succ b=>exact(Fh [a,b,c,d] 1 1 1 0 (.p (.v 0) (.m 5 (.p (.v 1) (.n 1)))) (.n 70) (.v 2) (.n 4) (.v 3) (.p (.v 0) (.v 2)) (.p (.v 3) (.m 5 (.v 1))) (.n 70) x z w rfl)
theorem bG(x:a+b+1=c+d):a+b+1+0=c+d:=Nat.le_antisymm (z1 [a,b,c,d] (.p (.p (.v 0) (.v 1)) (.n 1)) (.p (.v 2) (.v 3)) (.p (.p (.p (.v 0) (.v 1)) (.n 1)) (.n 0)) (.p (.v 2) (.v 3)) (Nat.le_of_eq x) rfl) (z1 [a,b,c,d] (.p (.v 2) (.v 3)) (.p (.p (.v 0) (.v 1)) (.n 1)) (.p (.v 2) (.v 3)) (.p (.p (.p (.v 0) (.v 1)) (.n 1)) (.n 0)) (Nat.le_of_eq x.symm) rfl)
theorem XV(x:a+b=c):d+1+a+b=d+1+c:=Nat.le_antisymm (z1 [a,b,c,d] (.p (.v 0) (.v 1)) (.v 2) (.p (.p (.p (.v 3) (.n 1)) (.v 0)) (.v 1)) (.p (.p (.v 3) (.n 1)) (.v 2)) (Nat.le_of_eq x) rfl) (z1 [a,b,c,d] (.v 2) (.p (.v 0) (.v 1)) (.p (.p (.v 3) (.n 1)) (.v 2)) (.p (.p (.p (.v 3) (.n 1)) (.v 0)) (.v 1)) (Nat.le_of_eq x.symm) rfl)
theorem Wl(x:a+b≤900)(y:c+(d+1)≤b):a+1+c≤999:=z2 [a,b,c,d] (.p (.v 0) (.v 1)) (.n 900) (.p (.v 2) (.p (.v 3) (.n 1))) (.v 1) (.p (.p (.v 0) (.n 1)) (.v 2)) (.n 999) x y rfl
theorem YM(x:a<b)(y:b+(c+1)=d):a<b+1:=z1 [a,b,c,d] (.p (.v 0) (.n 1)) (.v 1) (.p (.v 0) (.n 1)) (.p (.v 1) (.n 1)) x rfl
theorem Yn(x:a=b+(c+d)):b+c≤a:=z1 [a,b,c,d] (.p (.v 1) (.p (.v 2) (.v 3))) (.v 0) (.p (.v 1) (.v 2)) (.v 0) (Nat.le_of_eq x.symm) rfl
theorem XF(x:a=b+1+c+d):b<a:=z1 [a,b,c,d] (.p (.p (.p (.v 1) (.n 1)) (.v 2)) (.v 3)) (.v 0) (.p (.v 1) (.n 1)) (.v 0) (Nat.le_of_eq x.symm) rfl
theorem Uz(x:a=b+1+c)(y:a≤d):b≤d:=z2 [a,b,c,d] (.p (.p (.v 1) (.n 1)) (.v 2)) (.v 0) (.v 0) (.v 3) (.v 1) (.v 3) (Nat.le_of_eq x.symm) y rfl
theorem YO(x:a=b)(y:c≤min b a)(z:b+d=3):c+d≤1000:=(z2 [b,c,d] (.v 1) (.v 0) (.p (.v 0) (.v 2)) (.n 3) (.p (.v 1) (.v 2)) (.n 1000) (Nat.le_trans y (Nat.min_le_left _ _)) (Nat.le_of_eq z) rfl)
theorem aQ(x:a≤20)(y:b+c=a)(z:d≤b):d+c≤1000:=Fh [a,b,c,d] 1 1 1 0 (.v 0) (.n 20) (.p (.v 1) (.v 2)) (.v 0) (.v 3) (.v 1) (.p (.v 3) (.v 2)) (.n 1000) x (Nat.le_of_eq y) z rfl
theorem YA(x:a≤20)(y:b+c=d)(z:a=d):b+c≤1000:=Fh [a,b,c,d] 1 1 1 0 (.v 0) (.n 20) (.p (.v 1) (.v 2)) (.v 3) (.v 3) (.v 0) (.p (.v 1) (.v 2)) (.n 1000) x (Nat.le_of_eq y) (Nat.le_of_eq z.symm) rfl
theorem XD(x:a≤20)(y:b≤a)(z:c+d+1=b):c≤1000:=Fh [a,b,c,d] 1 1 1 0 (.v 0) (.n 20) (.v 1) (.v 0) (.p (.p (.v 2) (.v 3)) (.n 1)) (.v 1) (.v 2) (.n 1000) x y (Nat.le_of_eq z) rfl
theorem VB(x:a≤206*b)(y:c≤6*d)(z:d≤3):c+a≤206*(1+b):=Fh [a,b,c,d] 1 1 6 0 (.v 0) (.m 206 (.v 1)) (.v 2) (.m 6 (.v 3)) (.v 3) (.n 3) (.p (.v 2) (.v 0)) (.m 206 (.p (.n 1) (.v 1))) x y z rfl
theorem bW(x:a≤3*b)(y:c≤3*d):c+a≤3*(1+d+b):=z2 [a,b,c,d] (.v 0) (.m 3 (.v 1)) (.v 2) (.m 3 (.v 3)) (.p (.v 2) (.v 0)) (.m 3 (.p (.p (.n 1) (.v 3)) (.v 1))) x y rfl
theorem Yj(x:a≤3*b)(y:c≤d+a)(z:d≤3):c≤3*(1+b):=Fh [a,b,c,d] 1 1 1 0 (.v 0) (.m 3 (.v 1)) (.v 2) (.p (.v 3) (.v 0)) (.v 3) (.n 3) (.v 2) (.m 3 (.p (.n 1) (.v 1))) x y z rfl
theorem YD(x:a≤4)(y:b≤4)(z:a=c+d):c+b≤1000:=Fh [a,b,c,d] 1 1 1 0 (.v 0) (.n 4) (.v 1) (.n 4) (.p (.v 2) (.v 3)) (.v 0) (.p (.v 2) (.v 1)) (.n 1000) x y (Nat.le_of_eq z.symm) rfl
theorem WK(x:a≤5)(y:b+c=a)(z:d≤b):d+c≤1000:=Fh [a,b,c,d] 1 1 1 0 (.v 0) (.n 5) (.p (.v 1) (.v 2)) (.v 0) (.v 3) (.v 1) (.p (.v 3) (.v 2)) (.n 1000) x (Nat.le_of_eq y) z rfl
theorem bj(x:a≤8000)(y:b+(c+d)=a)(z:0<c):b≤8000:=z2 [a,b,c,d] (.v 0) (.n 8000) (.p (.v 1) (.p (.v 2) (.v 3))) (.v 0) (.v 1) (.n 8000) x (Nat.le_of_eq y) rfl
theorem TO(x:a≤900)(y:b+c=a+2)(z:c=d+1):b≤10000:=z2 [a,b,c,d] (.v 0) (.n 900) (.p (.v 1) (.v 2)) (.p (.v 0) (.n 2)) (.v 1) (.n 10000) x (Nat.le_of_eq y) rfl
theorem WW(x:a≤b+(c+1))(y:b+1≤d∧d<a):a≤d+c:=z2 [a,b,c,d] (.v 0) (.p (.v 1) (.p (.v 2) (.n 1))) (.p (.v 1) (.n 1)) (.v 3) (.v 0) (.p (.v 3) (.v 2)) x y.1 rfl
theorem TK(x:a≤b+c)(y:b≤d+1):a≤d+(c+1):=z2 [a,b,c,d] (.v 0) (.p (.v 1) (.v 2)) (.v 1) (.p (.v 3) (.n 1)) (.v 0) (.p (.v 3) (.p (.v 2) (.n 1))) x y rfl
theorem Xl(x:a≤b)(y:c<min (b-a) d):a+c<b:=Nat.add_comm c a▸Nat.add_lt_of_lt_sub (Nat.lt_of_lt_of_le y (Nat.min_le_left _ _))
theorem WE(x:a≤b)(y:c≤d*b):a+c≤d*b+b:=Nat.add_comm c a▸Nat.add_le_add y x
theorem Zf(x:a≤b):a+1≤1+c+d+b:=z1 [a,b,c,d] (.v 0) (.v 1) (.p (.v 0) (.n 1)) (.p (.p (.p (.n 1) (.v 2)) (.v 3)) (.v 1)) x rfl
theorem YJ:a+1+b+c+d=a+(1+b+c+d):=Nat.le_antisymm (z0 [a,b,c,d] (.p (.p (.p (.p (.v 0) (.n 1)) (.v 1)) (.v 2)) (.v 3)) (.p (.v 0) (.p (.p (.p (.n 1) (.v 1)) (.v 2)) (.v 3))) rfl) (z0 [a,b,c,d] (.p (.v 0) (.p (.p (.p (.n 1) (.v 1)) (.v 2)) (.v 3))) (.p (.p (.p (.p (.v 0) (.n 1)) (.v 1)) (.v 2)) (.v 3)) rfl)
theorem VT(x:a+(1+b+c+d)≤800)(y:e=a+1+b+c):e≤900:=z2 [a,b,c,d,e] (.p (.v 0) (.p (.p (.p (.n 1) (.v 1)) (.v 2)) (.v 3))) (.n 800) (.v 4) (.p (.p (.p (.v 0) (.n 1)) (.v 1)) (.v 2)) (.v 4) (.n 900) x (Nat.le_of_eq y) rfl
theorem Zo(x:a+0+b=c+1+d):(↑e:Int)+(↑a:Int)+0+(↑(0+b):Int)+1=(↑(e+1+c+d+1):Int):=congrArg Int.ofNat (Nat.le_antisymm (z1 [a,b,c,d,e] (.p (.p (.v 0) (.n 0)) (.v 1)) (.p (.p (.v 2) (.n 1)) (.v 3)) (.p (.p (.p (.p (.v 4) (.v 0)) (.n 0)) (.p (.n 0) (.v 1))) (.n 1)) (.p (.p (.p (.p (.v 4) (.n 1)) (.v 2)) (.v 3)) (.n 1)) (Nat.le_of_eq x) rfl) (z1 [a,b,c,d,e] (.p (.p (.v 2) (.n 1)) (.v 3)) (.p (.p (.v 0) (.n 0)) (.v 1)) (.p (.p (.p (.p (.v 4) (.n 1)) (.v 2)) (.v 3)) (.n 1)) (.p (.p (.p (.p (.v 4) (.v 0)) (.n 0)) (.p (.n 0) (.v 1))) (.n 1)) (Nat.le_of_eq x.symm) rfl))
theorem bz(x:a+1+b=c+1+d):(↑e:Int)+(↑a:Int)+1+(↑(0+b):Int)+1=(↑(e+1+c+d+1):Int):=congrArg Int.ofNat (Nat.le_antisymm (z1 [a,b,c,d,e] (.p (.p (.v 0) (.n 1)) (.v 1)) (.p (.p (.v 2) (.n 1)) (.v 3)) (.p (.p (.p (.p (.v 4) (.v 0)) (.n 1)) (.p (.n 0) (.v 1))) (.n 1)) (.p (.p (.p (.p (.v 4) (.n 1)) (.v 2)) (.v 3)) (.n 1)) (Nat.le_of_eq x) rfl) (z1 [a,b,c,d,e] (.p (.p (.v 2) (.n 1)) (.v 3)) (.p (.p (.v 0) (.n 1)) (.v 1)) (.p (.p (.p (.p (.v 4) (.n 1)) (.v 2)) (.v 3)) (.n 1)) (.p (.p (.p (.p (.v 4) (.v 0)) (.n 1)) (.p (.n 0) (.v 1))) (.n 1)) (Nat.le_of_eq x.symm) rfl))
theorem YY(x:a+2000*(b+1)≤9+2000*c)(y:c≤30)(z:d≤107)(w:e≤1000):a+d+2+e+1≤16777216:=Uv [a,b,c,d,e] 1 2000 1 1 0 (.p (.v 0) (.m 2000 (.p (.v 1) (.n 1)))) (.p (.n 9) (.m 2000 (.v 2))) (.v 2) (.n 30) (.v 3) (.n 107) (.v 4) (.n 1000) (.p (.p (.p (.p (.v 0) (.v 3)) (.n 2)) (.v 4)) (.n 1)) (.n 16777216) x y z w rfl
theorem VQ(x:a+2000*(b+1)≤9+2000*c)(y:c≤30)(z:d≤107)(w:e≤1000):a+d+2+e≤16777216:=Uv [a,b,c,d,e] 1 2000 1 1 0 (.p (.v 0) (.m 2000 (.p (.v 1) (.n 1)))) (.p (.n 9) (.m 2000 (.v 2))) (.v 2) (.n 30) (.v 3) (.n 107) (.v 4) (.n 1000) (.p (.p (.p (.v 0) (.v 3)) (.n 2)) (.v 4)) (.n 16777216) x y z w rfl
theorem XI(x:a+2000*(b+1)≤9+2000*c)(y:d≤107)(z:e≤1000):a+d+2+e+1+2000*b≤9+2000*c:=Fh [a,b,c,d,e] 1 1 1 0 (.p (.v 0) (.m 2000 (.p (.v 1) (.n 1)))) (.p (.n 9) (.m 2000 (.v 2))) (.v 3) (.n 107) (.v 4) (.n 1000) (.p (.p (.p (.p (.p (.v 0) (.v 3)) (.n 2)) (.v 4)) (.n 1)) (.m 2000 (.v 1))) (.p (.n 9) (.m 2000 (.v 2))) x y z rfl
theorem VR(x:a<b)(y:b+c=d):e+1+0+a<e+1+d:=z2 [a,b,c,d,e] (.p (.v 0) (.n 1)) (.v 1) (.p (.v 1) (.v 2)) (.v 3) (.p (.p (.p (.p (.v 4) (.n 1)) (.n 0)) (.v 0)) (.n 1)) (.p (.p (.v 4) (.n 1)) (.v 3)) x (Nat.le_of_eq y) rfl
theorem U2(x:a<b)(y:c+b=d):e+1+c+0+a<e+1+d:=z2 [a,b,c,d,e] (.p (.v 0) (.n 1)) (.v 1) (.p (.v 2) (.v 1)) (.v 3) (.p (.p (.p (.p (.p (.v 4) (.n 1)) (.v 2)) (.n 0)) (.v 0)) (.n 1)) (.p (.p (.v 4) (.n 1)) (.v 3)) x (Nat.le_of_eq y) rfl
theorem bf(x:a=b+(c+d+e+1)):d≤a:=z1 [a,b,c,d,e] (.p (.v 1) (.p (.p (.p (.v 2) (.v 3)) (.v 4)) (.n 1))) (.v 0) (.v 3) (.v 0) (Nat.le_of_eq x.symm) rfl
theorem X0(x:a=b+1+c+d)(y:a≤e):b≤e:=z2 [a,b,c,d,e] (.p (.p (.p (.v 1) (.n 1)) (.v 2)) (.v 3)) (.v 0) (.v 0) (.v 4) (.v 1) (.v 4) (Nat.le_of_eq x.symm) y rfl
theorem ZR(x:a=b+1+c+d)(y:e<a):e<a:=z1 [a,b,c,d,e] (.p (.v 4) (.n 1)) (.v 0) (.p (.v 4) (.n 1)) (.v 0) y rfl
theorem ZL(x:a=b+1+c+d)(y:e<b):e<a:=z2 [a,b,c,d,e] (.p (.p (.p (.v 1) (.n 1)) (.v 2)) (.v 3)) (.v 0) (.p (.v 4) (.n 1)) (.v 1) (.p (.v 4) (.n 1)) (.v 0) (Nat.le_of_eq x.symm) y rfl
theorem Xj(x:a=b+c+2)(y:d+(b+c+2)=e):(↑e:Int)-1=(↑(d+1+(b+c)):Int):=by rw[←y];exact(congrArg (fun k:Nat=>(k:Int)-1) (Nat.le_antisymm (z0 [b,c,d] (.p (.v 2) (.p (.p (.v 0) (.v 1)) (.n 2))) (.p (.p (.p (.v 2) (.n 1)) (.p (.v 0) (.v 1))) (.n 1)) rfl) (z0 [b,c,d] (.p (.p (.p (.v 2) (.n 1)) (.p (.v 0) (.v 1))) (.n 1)) (.p (.v 2) (.p (.p (.v 0) (.v 1)) (.n 2))) rfl))).trans (Int.add_sub_cancel ((d+1+(b+c):Nat):Int) 1)
theorem VK(x:a=b∧c≤b)(y:d=e):d+(a+1)+1=e+2+b∧c+1≤e+2+b:=⟨(Nat.le_antisymm (z2 [a,b,c,d,e] (.v 0) (.v 1) (.v 3) (.v 4) (.p (.p (.v 3) (.p (.v 0) (.n 1))) (.n 1)) (.p (.p (.v 4) (.n 2)) (.v 1)) (Nat.le_of_eq x.1) (Nat.le_of_eq y) rfl) (z2 [a,b,c,d,e] (.v 1) (.v 0) (.v 4) (.v 3) (.p (.p (.v 4) (.n 2)) (.v 1)) (.p (.p (.v 3) (.p (.v 0) (.n 1))) (.n 1)) (Nat.le_of_eq x.1.symm) (Nat.le_of_eq y.symm) rfl)),(z1 [a,b,c,d,e] (.v 2) (.v 1) (.p (.v 2) (.n 1)) (.p (.p (.v 4) (.n 2)) (.v 1)) x.2 rfl)⟩
theorem Zb(x:a≤100000)(y:b+c=d)(z:d≤a)(w:e+c=a):b+c≤16777216:=Fh [a,b,c,d,e] 1 1 1 0 (.v 0) (.n 100000) (.p (.v 1) (.v 2)) (.v 3) (.v 3) (.v 0) (.p (.v 1) (.v 2)) (.n 16777216) x (Nat.le_of_eq y) z rfl
theorem Xg(x:a≤100000)(y:b≤a)(z:c+(d+(e+1))=b):c+d+1≤16777216:=Fh [a,b,c,d,e] 1 1 1 0 (.v 0) (.n 100000) (.v 1) (.v 0) (.p (.v 2) (.p (.v 3) (.p (.v 4) (.n 1)))) (.v 1) (.p (.p (.v 2) (.v 3)) (.n 1)) (.n 16777216) x y (Nat.le_of_eq z) rfl
theorem bb(x:a≤100000)(y:b≤a)(z:c+(d+(e+1))=b):c+d≤16777216:=Fh [a,b,c,d,e] 1 1 1 0 (.v 0) (.n 100000) (.v 1) (.v 0) (.p (.v 2) (.p (.v 3) (.p (.v 4) (.n 1)))) (.v 1) (.p (.v 2) (.v 3)) (.n 16777216) x y (Nat.le_of_eq z) rfl
theorem bM(x:a≤3)(y:b≤c*17)(z:d≤e*25)(w:e≤4)(u:c≤4):a+(b+d)+1+1≤200:=(Fh [a,b,d] 1 1 1 0 (.v 0) (.n 3) (.v 1) (.n 68) (.v 2) (.n 100) (.p (.p (.p (.v 0) (.p (.v 1) (.v 2))) (.n 1)) (.n 1)) (.n 200) x (Nx [b,c] 1 17 0 (.v 0) (.t (.v 1) 17) (.v 1) (.n 4) (.v 0) (.n 68) y u rfl) (Nx [d,e] 1 25 0 (.v 0) (.t (.v 1) 25) (.v 1) (.n 4) (.v 0) (.n 100) z w rfl) rfl)
theorem Vg(x:a≤8000)(y:b+(c+d)=a)(z:e=c):e≤100000:=Fh [a,b,c,d,e] 1 1 1 0 (.v 0) (.n 8000) (.p (.v 1) (.p (.v 2) (.v 3))) (.v 0) (.v 4) (.v 2) (.v 4) (.n 100000) x (Nat.le_of_eq y) (Nat.le_of_eq z) rfl
theorem aq(x:a≤9*b)(y:c≤9*d)(z:e≤8):1+e+c+a≤9*(1+d+b):=Fh [a,b,c,d,e] 1 1 1 0 (.v 0) (.m 9 (.v 1)) (.v 2) (.m 9 (.v 3)) (.v 4) (.n 8) (.p (.p (.p (.n 1) (.v 4)) (.v 2)) (.v 0)) (.m 9 (.p (.p (.n 1) (.v 3)) (.v 1))) x y z rfl
theorem Tb(x:a≤900)(y:b+c=a+2)(z:d=c∧e+1≤c):e≤10000:=Fh [a,b,c,d,e] 1 1 1 0 (.v 0) (.n 900) (.p (.v 1) (.v 2)) (.p (.v 0) (.n 2)) (.p (.v 4) (.n 1)) (.v 2) (.v 4) (.n 10000) x (Nat.le_of_eq y) z.2 rfl
theorem Xp(x:a≤b)(y:c≤d)(z:e≤6*c):a+(e+1+1+1)+1≤b+6*d+4:=Fh [a,b,c,d,e] 1 6 1 0 (.v 0) (.v 1) (.v 2) (.v 3) (.v 4) (.m 6 (.v 2)) (.p (.p (.v 0) (.p (.p (.p (.v 4) (.n 1)) (.n 1)) (.n 1))) (.n 1)) (.p (.p (.v 1) (.m 6 (.v 3))) (.n 4)) x y z rfl
theorem X2(x:a+b+c=d+e)(y:e≤f)(z:d≤30):a≤60+f:=Fh [a,b,c,d,e,f] 1 1 1 0 (.p (.p (.v 0) (.v 1)) (.v 2)) (.p (.v 3) (.v 4)) (.v 4) (.v 5) (.v 3) (.n 30) (.v 0) (.p (.n 60) (.v 5)) (Nat.le_of_eq x) y z rfl
theorem VF(x:a+b=c+2)(y:d=e∧f≤e)(z:a+(d+1)=c+2):e<b:=Fh [a,b,c,d,e,f] 1 1 1 0 (.p (.v 2) (.n 2)) (.p (.v 0) (.v 1)) (.v 4) (.v 3) (.p (.v 0) (.p (.v 3) (.n 1))) (.p (.v 2) (.n 2)) (.p (.v 4) (.n 1)) (.v 1) (Nat.le_of_eq x.symm) (Nat.le_of_eq y.1.symm) (Nat.le_of_eq z) rfl
theorem Wn(x:a+b≤900)(y:b≤20)(z:c≤b)(w:d≤b)(u:e+f+1=d):a+1+c+e≤999:=(Fh [a,b,c,e] 1 1 1 0 (.p (.v 0) (.v 1)) (.n 900) (.v 2) (.v 1) (.p (.v 3) (.n 1)) (.n 20) (.p (.p (.p (.v 0) (.n 1)) (.v 2)) (.v 3)) (.n 999) x z (Fh [b,d,e,f] 1 1 1 0 (.v 0) (.n 20) (.v 1) (.v 0) (.p (.p (.v 2) (.v 3)) (.n 1)) (.v 1) (.p (.v 2) (.n 1)) (.n 20) y w (Nat.le_of_eq u) rfl) rfl)
theorem Z3(x:a+b≤c)(y:d≤e+a+b+f*c):d≤e+(f*c+c):=Nat.le_trans y (by generalize f*c=g;exact(z1 [a,b,c,e,g] (.p (.v 0) (.v 1)) (.v 2) (.p (.p (.p (.v 3) (.v 0)) (.v 1)) (.v 4)) (.p (.v 3) (.p (.v 4) (.v 2))) x rfl))
theorem YN(x:a=b+1+c)(y:d=b+1+c+e)(z:f<a):f<d:=Fh [a,b,c,d,e,f] 1 1 1 0 (.v 0) (.p (.p (.v 1) (.n 1)) (.v 2)) (.p (.p (.p (.v 1) (.n 1)) (.v 2)) (.v 4)) (.v 3) (.p (.v 5) (.n 1)) (.v 0) (.p (.v 5) (.n 1)) (.v 3) (Nat.le_of_eq x) (Nat.le_of_eq y.symm) z rfl
theorem Yr(x:a=b+c)(y:d=b+c+2)(z:e+(b+c+2)=f):(↑f:Int)-2=(↑(e+a):Int):=by rw[←z,x];exact(congrArg (fun k:Nat=>(k:Int)-2) (Nat.le_antisymm (z0 [b,c,e] (.p (.v 2) (.p (.p (.v 0) (.v 1)) (.n 2))) (.p (.p (.v 2) (.p (.v 0) (.v 1))) (.n 2)) rfl) (z0 [b,c,e] (.p (.p (.v 2) (.p (.v 0) (.v 1))) (.n 2)) (.p (.v 2) (.p (.p (.v 0) (.v 1)) (.n 2))) rfl))).trans (Int.add_sub_cancel ((e+(b+c):Nat):Int) 2)
theorem ZY(x:a≤206*b)(y:c≤206*d)(z:e≤6)(w:f≤200):f+(c+(e+a))≤206*(1+d+b):=Uv [a,b,c,d,e,f] 1 1 1 1 0 (.v 0) (.m 206 (.v 1)) (.v 2) (.m 206 (.v 3)) (.v 4) (.n 6) (.v 5) (.n 200) (.p (.v 5) (.p (.v 2) (.p (.v 4) (.v 0)))) (.m 206 (.p (.p (.n 1) (.v 3)) (.v 1))) x y z w rfl
theorem WB(x:a≤8000)(y:b+(c+d)=a)(z:c=e+f+2):e+f≤50000:=Fh [a,b,c,d,e,f] 1 1 1 0 (.v 0) (.n 8000) (.p (.v 1) (.p (.v 2) (.v 3))) (.v 0) (.p (.p (.v 4) (.v 5)) (.n 2)) (.v 2) (.p (.v 4) (.v 5)) (.n 50000) x (Nat.le_of_eq y) (Nat.le_of_eq z.symm) rfl
theorem V3(x:a=b+1+c+d)(y:e=b+1+c+d+f)(z:g<a):g<e:=Fh [a,b,c,d,e,f,g] 1 1 1 0 (.v 0) (.p (.p (.p (.v 1) (.n 1)) (.v 2)) (.v 3)) (.p (.p (.p (.p (.v 1) (.n 1)) (.v 2)) (.v 3)) (.v 5)) (.v 4) (.p (.v 6) (.n 1)) (.v 0) (.p (.v 6) (.n 1)) (.v 4) (Nat.le_of_eq x) (Nat.le_of_eq y.symm) z rfl
theorem aP(x:a≤8000)(y:b+(c+d)=a)(z:e=f+g)(w:c=f+g+2):b+e≤8100:=Uv [a,b,c,d,e,f,g] 1 1 1 1 0 (.v 0) (.n 8000) (.p (.v 1) (.p (.v 2) (.v 3))) (.v 0) (.v 4) (.p (.v 5) (.v 6)) (.p (.p (.v 5) (.v 6)) (.n 2)) (.v 2) (.p (.v 1) (.v 4)) (.n 8100) x (Nat.le_of_eq y) (Nat.le_of_eq z) (Nat.le_of_eq w.symm) rfl
theorem V7(x:a≤900)(y:b+c=a+2)(z:d=e∧f≤e)(w:b+1+(g+h+e)=a+2)(u:h=1):f≤10000:=Fh [a,b,c,d,e,f,g,h] 1 1 1 0 (.v 0) (.n 900) (.v 5) (.v 4) (.p (.p (.v 1) (.n 1)) (.p (.p (.v 6) (.v 7)) (.v 4))) (.p (.v 0) (.n 2)) (.v 5) (.n 10000) x z.2 (Nat.le_of_eq w) rfl
theorem WS(x:a≤900)(y:b+c=a+2)(z:d=e∧f≤e)(w:b+1+(g+h+e)=a+2)(u:h=i+2):f≤10000:=Fh [a,b,c,d,e,f,g,h,i] 1 1 1 0 (.v 0) (.n 900) (.v 5) (.v 4) (.p (.p (.v 1) (.n 1)) (.p (.p (.v 6) (.v 7)) (.v 4))) (.p (.v 0) (.n 2)) (.v 5) (.n 10000) x z.2 (Nat.le_of_eq w) rfl
theorem bH(x:a+b=c+2)(y:d=e∧f≤e)(z:g=h)(w:i=j)(u:a+(g+(i+d)+1)=c+2):a+1+(h+j+e)=c+2:=(Nat.le_antisymm (Uv [a,c,d,e,g,h,i,j] 1 1 1 1 0 (.v 3) (.v 2) (.v 5) (.v 4) (.v 7) (.v 6) (.p (.v 0) (.p (.p (.v 4) (.p (.v 6) (.v 2))) (.n 1))) (.p (.v 1) (.n 2)) (.p (.p (.v 0) (.n 1)) (.p (.p (.v 5) (.v 7)) (.v 3))) (.p (.v 1) (.n 2)) (Nat.le_of_eq y.1.symm) (Nat.le_of_eq z.symm) (Nat.le_of_eq w.symm) (Nat.le_of_eq u) rfl) (Uv [a,c,d,e,g,h,i,j] 1 1 1 1 0 (.v 2) (.v 3) (.v 4) (.v 5) (.v 6) (.v 7) (.p (.v 1) (.n 2)) (.p (.v 0) (.p (.p (.v 4) (.p (.v 6) (.v 2))) (.n 1))) (.p (.v 1) (.n 2)) (.p (.p (.v 0) (.n 1)) (.p (.p (.v 5) (.v 7)) (.v 3))) (Nat.le_of_eq y.1) (Nat.le_of_eq z) (Nat.le_of_eq w) (Nat.le_of_eq u.symm) rfl))
end
@[elab_as_elim] theorem Dh{α:Sort _}{motive:α→Prop}(a:α)(h:∀x,motive x):motive a:=h a
@[elab_as_elim] theorem PR{α:Sort _}{motive:α→Prop}(a:α)(h:∀x,a=x→motive x):motive a:=h a rfl
noncomputable abbrev Ao:=Addr→Option Obj
inductive AV where
 |none
 |bool (b:Bool)
 |int (i:Int)
 |str (s:Str)
 |cs (s:Str) (t:Tok)
 |tup (l:List AV)
 |sl (l u s:Option Int)
 |rg (a b c:Int)
 |ref (a:Addr)
 |bi (n:String)
 |ty (n:String)
inductive AO where
 |list (l:List AV)
 |wlist (l:List AV)
 |dict (l:List (Str×AV))
 |tdict (l:List (List Str))
 |ns (l:List (Str×AV))
 |inst (C d:Addr)
noncomputable abbrev AD:=Addr→Option AO
noncomputable abbrev AJ:=List (Str×AV)
noncomputable def Le(B B':Ao):Prop:=∀a o,B a=some o→B' a=some o
theorem Le.refl(B:Ao):Le B B:=fun _ _ h=>h
theorem Le.trans{A B C:Ao}(x:Le A B)(y:Le B C):Le A C:=fun a o h=>y a o (x a o h)
noncomputable def put{α:Type}(B:Addr→Option α)(a:Addr)(o:α):Addr→Option α:=fun b=>if b=a then some o else B b
noncomputable def del{α:Type}(B:Addr→Option α)(a:Addr):Addr→Option α:=fun b=>if b=a then Option.none else B b
theorem nq{l:List Nat}(nd:l.Nodup)(i j:Nat){a b:Nat}(h1:l[i]?=some a)(h2:l[j]?=some b)(h:i≠j):a≠b:=fun e=>h ((List.getElem?_inj (List.getElem?_eq_some_iff.mp h1).1 nd).mp (h1.trans (e▸h2.symm)))
theorem mi{α:Type}{l:List α}(i:Nat){a:α}(h:l[i]?=some a):a∈l:=List.mem_of_getElem? h
theorem nc{a b:Nat}{l:List Nat}(h:a≠b)(g:a∉l):a∉b::l:=fun w=>(List.mem_cons.mp w).elim h g
theorem eZ{l:List Nat}(n:l.Nodup)(a:Nat)(h:a∉l):(a::l).Nodup:=List.nodup_cons.mpr ⟨h,n⟩
theorem AC{α:Type}(B:Addr→Option α)(a:Addr)(o:α):put B a o a=some o:=if_pos rfl
theorem AA{α:Type}(B:Addr→Option α){a b:Addr}(o:α)(h:b≠a):put B a o b=B b:=if_neg h
theorem lm{α β:Type}{f:α→β}{l:List α}{k:Nat}(h:l.length≤k):(l.map f).length≤k:=by exact rr (List.length_map ..) h
theorem Uw{k:Nat}(h:k≤16777216):k≤sizeLine:=by exact rr sizeLine_eq h
theorem Kf{α:Type}{B:Addr→Option α}{a b:Addr}{o:α}(h:put B a o b=none):b≠a:=fun e=>absurd (e▸h:put B a o a=none) (by exact rr (AC ..) (fun z=>nomatch z))
theorem HH{α:Type}{B:Addr→Option α}{a b:Addr}{o:α}(h:put B a o b=none):B b=none:=(AA _ _ (Kf h)).symm.trans h
theorem As{α:Type}{B:Addr→Option α}{a b:Addr}{o:α}(h:B a=some o)(k:B b=none):a≠b:=fun e=>Option.some_ne_none o (h.symm.trans ((congrArg B e).trans k))
theorem Ew{α:Type}(B:Addr→Option α)(a:Addr):del B a a=Option.none:=if_pos rfl
theorem CX{α:Type}(B:Addr→Option α){a b:Addr}(h:b≠a):del B a b=B b:=if_neg h
theorem Le.put{B:Ao}{a:Addr}{o:Obj}(h:B a=Option.none):Le B (put B a o):=fun b o' e=>by
 exact rr (AA _ _ ((by first|exact As e h|exact(As h e).symm))) e
theorem Le.del{B B':Ao}{a:Addr}{o:Obj}(h:B a=Option.none)(l:Le (Mine.put B a o) B'):Le B (Mine.del B' a):=fun b o' e=>by
 have hb:b≠a:=(by first|exact As e h|exact(As h e).symm)
 refine rr (CX _ hb) ?_;exact l _ _ (by exact rr (AA _ _ hb) e)
noncomputable def AG{α:Type}:List (Str×α)→Str→Option α
 |[],_=>none
 |(a,v)::r,k=>if a=k then some v else AG r k
theorem look_mem{α:Type}{x:Str}{a:α}:∀{l:List (Str×α)},AG l x=some a→(x,a)∈l
 |(y,b)::r,e=>by
  unfold AG at e;by_cases q:y=x
  ·rw[if_pos q]at e;cases e;subst q;exact .head _
  ·rw[if_neg q]at e;exact .tail _ (look_mem e)
mutual
inductive R(B:Ao):Value→AV→Prop
 |none:R B .none .none
 |bool (b:Bool):R B (.bool b) (.bool b)
 |int (i:Int) (t:Tok):R B (.int i t) (.int i)
 |str (x:Str) (t:Tok):R B (.str x t) (.str x)
 |cs (x:Str) (t:Tok):R B (.str x t) (.cs x t)
 |ref (a:Addr):R B (.ref a) (.ref a)
 |bi (n:String):R B (.builtin n) (.bi n)
 |ty (n:String):R B (.type n) (.ty n)
 |tup {a:Addr} {ob:Obj} {vs:List Value} {n:Nat} {l:List AV}:B a=some ob→ob.cls= .type "tuple"→ob.data= .seq vs.toArray n→RL B vs l→R B (.ref a) (.tup l)
 |sl {a:Addr} {ob:Obj} {vl vu vs:Value} {l u st:Option Int}:B a=some ob→ob.cls= .type "slice"→ob.data= .fields #[vl,vu,vs]→IsPart vl l→IsPart vu u→IsPart vs st→R B (.ref a) (.sl l u st)
 |rg {r:Addr} {a b c:Int} {t u v:Tok}:B r=some {cls:=.type "range",data:=.fields #[.int a t,.int b u,.int c v]}→R B (.ref r) (.rg a b c)
inductive RL(B:Ao):List Value→List AV→Prop
 |nil:RL B [] []
 |cons {v:Value} {x:AV} {vs:List Value} {xs:List AV}:R B v x→RL B vs xs→RL B (v::vs) (x::xs)
end
noncomputable def NT(o:Obj):Prop:=(o.cls= .type "tuple"→∀vs n,o.data= .seq vs n→False)∧((o.cls= .type "slice"∨o.cls= .type "range")→∀vs,o.data= .fields vs→False)
noncomputable def G4(B:Ao)(L:Addr):Prop:=∀ob,B L=some ob→NT ob
theorem R.move{B B':Ao}(h:∀a ob,B a=some ob→¬NT ob→B' a=some ob){v:Value}{x:AV}(r:R B v x):R B' v x:=
 R.rec (motive_1:=fun v x _=>R B' v x) (motive_2:=fun vs xs _=>RL B' vs xs) .none .bool .int .str .cs .ref .bi .ty
  (fun e1 e2 e3 _ ih=>.tup (h _ _ e1 fun n=>n.1 e2 _ _ e3) e2 e3 ih) (fun e1 e2 e3 p1 p2 p3=>.sl (h _ _ e1 fun n=>n.2 (.inl e2) _ e3) e2 e3 p1 p2 p3)
  (fun e1=>.rg (h _ _ e1 fun n=>n.2 (.inr rfl) _ rfl)) .nil (fun _ _ a r=>.cons a r) r
theorem RL.nil_inv{B:Ao}{vs:List Value}(h:RL B vs []):vs=[]:=by cases h;rfl
theorem RL.cons_inv{B:Ao}{vs:List Value}{x:AV}{xs:List AV}(h:RL B vs (x::xs)):∃v vs',vs=v::vs'∧R B v x∧RL B vs' xs:=by cases h with|cons a r=>exact⟨_,_,rfl,a,r⟩
theorem RL.ind{B:Ao}{P:List Value→List AV→Prop}(h0:P [] [])(h1:∀v x vs xs,R B v x→RL B vs xs→P vs xs→P (v::vs) (x::xs)):∀{vs:List Value} {xs:List AV},RL B vs xs→P vs xs:=by
 intro vs xs
 induction xs generalizing vs with
 |nil=>intro r;exact rr r.nil_inv h0
 |cons x xs ih=>intro r;obtain⟨v,ws,e,a,r⟩:=r.cons_inv;exact rr e (h1 _ _ _ _ a r (ih r))
theorem RL.move{B B':Ao}(h:∀a ob,B a=some ob→¬NT ob→B' a=some ob){vs:List Value}{xs:List AV}(r:RL B vs xs):RL B' vs xs:=RL.ind .nil (fun _ _ _ _ a _ ih=>.cons (a.move h) ih) r
theorem LO{B B':Ao}(h:Le B B'):∀a ob,B a=some ob→¬NT ob→B' a=some ob:=fun a ob e _=>h a ob e
theorem Ml{B:Ao}{L:Addr}(h:G4 B L):∀a ob,B a=some ob→¬NT ob→del B L a=some ob:=fun a ob e n=>(CX _ fun q=>n (h _ (by exact rl q e))).trans e
theorem R.mono{B B':Ao}(h:Le B B'){v:Value}{x:AV}(r:R B v x):R B' v x:=r.move (LO h)
theorem RL.mono{B B':Ao}(h:Le B B'){vs:List Value}{xs:List AV}(r:RL B vs xs):RL B' vs xs:=r.move (LO h)
theorem R.drop{B:Ao}{L:Addr}(h:G4 B L){v:Value}{x:AV}(r:R B v x):R (del B L) v x:=r.move (Ml h)
theorem RL.length{B:Ao}{vs:List Value}{xs:List AV}(r:RL B vs xs):vs.length=xs.length:=RL.ind (P:=fun vs xs=>vs.length=xs.length) rfl (fun _ _ _ _ _ _ ih=>congrArg (·+1) ih) r
inductive UA(B:Ao)(l:List AV):Value→Prop
 |mk {a:Addr} {ob:Obj} {vs:List Value} {n:Nat} (e1:B a=some ob) (e2:ob.cls= .type "tuple") (e3:ob.data= .seq vs.toArray n) (r:RL B vs l):UA B l (.ref a)
inductive eM(B:Ao)(l u st:Option Int):Value→Prop
 |mk {a:Addr} {ob:Obj} {vl vu vs:Value} (e1:B a=some ob) (e2:ob.cls= .type "slice") (e3:ob.data= .fields #[vl,vu,vs]) (p1:IsPart vl l) (p2:IsPart vu u) (p3:IsPart vs st):eM B l u st (.ref a)
inductive Vk(i:Int):Value→Prop
 |mk (t:Tok):Vk i (.int i t)
inductive W0(x:Str):Value→Prop
 |mk (t:Tok):W0 x (.str x t)
noncomputable def RI(B:Ao)(v:Value):AV→Prop
 |.none=>v= .none
 |.bool b=>v= .bool b
 |.int i=>Vk i v
 |.str x=>W0 x v
 |.cs x t=>v= .str x t
 |.ref a=>v= .ref a
 |.bi n=>v= .builtin n
 |.ty n=>v= .type n
 |.tup l=>UA B l v
 |.sl l u st=>eM B l u st v
 |.rg a b c=>∃r t u w,v= .ref r∧B r=some {cls:=.type "range",data:=.fields #[.int a t,.int b u,.int c w]}
theorem R.inv{B:Ao}{v:Value}{x:AV}(h:R B v x):RI B v x:=
 R.casesOn (motive_1:=fun v x _=>RI B v x) h rfl (fun _=>rfl) (fun _ t=>⟨t⟩) (fun _ t=>⟨t⟩) (fun _ _=>rfl) (fun _=>rfl) (fun _=>rfl) (fun _=>rfl)
  (fun e1 e2 e3 r=>⟨e1,e2,e3,r⟩) (fun e1 e2 e3 p1 p2 p3=>⟨e1,e2,e3,p1,p2,p3⟩) (fun e=>⟨_,_,_,_,rfl,e⟩)
theorem R.str_inv{B:Ao}{v:Value}{x:Str}(h:R B v (.str x)):∃t,v= .str x t:=by obtain⟨t⟩:=h.inv;exact⟨t,rfl⟩
theorem R.tup_inv{B:Ao}{v:Value}{l:List AV}(h:R B v (.tup l)):UA B l v:=h.inv
theorem RL.append{B:Ao}{vs:List Value}{xs:List AV}{vs':List Value}{xs':List AV}(r:RL B vs xs)(y:RL B vs' xs'):RL B (vs++vs') (xs++xs'):=RL.ind (P:=fun vs xs=>RL B (vs++vs') (xs++xs')) y (fun _ _ _ _ a _ ih=>.cons a ih) r
theorem RL.get{B:Ao}{vs:List Value}{xs:List AV}(r:RL B vs xs){i:Nat}{x:AV}(e:xs[i]?=some x):∃v,vs[i]?=some v∧R B v x:=by
 refine RL.ind (P:=fun vs xs=>∀i:Nat,xs[i]?=some x→∃v,vs[i]?=some v∧R B v x) (fun i e=>nomatch e) (fun v y vs xs a _ ih i e=>?_) r i e
 cases i with
 |zero=>injection e with e;exact⟨v,rfl,e▸a⟩
 |succ i=>exact ih i e
theorem Tw{α:Type}{P:List α→Prop}(h:∀a b,P [a,b])(l:List α)(e:l.length=2):P l:=by
 cases l with
 |nil=>cases e
 |cons a l=>cases l with
  |nil=>cases e
  |cons b l=>cases l with
   |nil=>exact h a b
   |cons c l=>cases e
theorem Rb{α:Type}{P:List α→Prop}(h:∀a b c,P [a,b,c])(l:List α)(e:l.length=3):P l:=by
 cases l with
 |nil=>cases e
 |cons a l=>exact Tw (P:=fun l=>P (a::l)) (h a) l (Nat.succ.inj e)
theorem ZV{α:Type}{P:List α→Prop}(h:∀a b c d,P [a,b,c,d])(l:List α)(e:l.length=4):P l:=by
 cases l with
 |nil=>cases e
 |cons a l=>exact Rb (P:=fun l=>P (a::l)) (h a) l (Nat.succ.inj e)
inductive RD(B:Ao):List (Str×Value)→List (Str×AV)→Prop
 |nil:RD B [] []
 |cons {k:Str} {v:Value} {x:AV} {vs:List (Str×Value)} {xs:List (Str×AV)}:R B v x→RD B vs xs→RD B ((k,v)::vs) ((k,x)::xs)
theorem RD.move{B B':Ao}(h:∀a ob,B a=some ob→¬NT ob→B' a=some ob){vs:List (Str×Value)}{xs:List (Str×AV)}(r:RD B vs xs):RD B' vs xs:=by
 induction r with
 |nil=>exact .nil
 |cons a _ ih=>exact .cons (a.move h) ih
theorem RD.at{B:Ao}{k:Str}{vs xs}(r:RD B vs xs):(∀{x:AV},AG xs k=some x→∃v,PySem.valueAt vs k=some v∧R B v x)∧(AG xs k=none→PySem.valueAt vs k=none):=by
 induction r with
 |nil=>exact And.intro (fun e=>nomatch e) (fun _=>rfl)
 |@cons a v _ vs _ h _ ih=>
  obtain⟨r1,r2⟩:=ih;unfold AG PySem.valueAt;refine rr List.find?_cons ?_;by_cases q:a=k
  ·simp only[q,if_true,decide_true,Option.map_some];exact⟨fun e=>by cases e;exact⟨_,rfl,h⟩,fun e=>nomatch e⟩
  ·simp only[q,if_false,decide_false];exact⟨fun e=>r1 e,fun e=>r2 e⟩
theorem RD.keys{B:Ao}{vs xs}(r:RD B vs xs):vs.map (·.1)=xs.map (·.1):=by
 induction r with
 |nil=>rfl
 |cons _ _ ih=>exact rr List.map_cons (rr List.map_cons (rr ih rfl))
structure Cx where
 prog:Program
 w:World
 K:Frag
 s₁:Shared
structure Uq(c:Cx):Prop where
 X:c.K.In c.s₁.heap
 g:∃mg,c.s₁.heap.Ns mainGlobals mg
 b:∃mb,c.s₁.heap.Ns builtinsNs mb∧∀x:Str,x≠"__name__"→mb x=bootBuiltins x
 lim:c.s₁.heap.NoLimit
 dig:∃mc,c.s₁.heap.Ns cStatics mc∧mc "sys.int_max_str_digits"=none
noncomputable def TN(B:Ao)(ks:List Str)(a:Addr):Prop:=∃ob vs n,B a=some ob∧ob.cls= .type "tuple"∧ob.data= .seq vs n∧RL B vs.toList (ks.map .str)
theorem TN.move{B B':Ao}{ks:List Str}{a:Addr}(h:∀a ob,B a=some ob→¬NT ob→B' a=some ob)(t:TN B ks a):TN B' ks a:=by
 obtain⟨ob,vs,n,e1,e2,e3,r⟩:=t;exact⟨ob,vs,n,h _ _ e1 fun n=>n.1 e2 _ _ e3,e2,e3,r.move h⟩
noncomputable def RN(B:Ao)(es:Array DictEntry)(l:List (Str×AV)):Prop:=∀k,(∀x,AG l k=some x→∃v,nsFind es k=some v∧R B v x)∧(AG l k=none→nsFind es k=none)
noncomputable def Is(c:Cx)(B:Ao)(ob:Obj):AO→Prop
 |.list l=>∃vs n,ob=⟨.type "list",none,.seq vs n,#[]⟩∧RL B vs.toList l
 |.wlist l=>ob.cls= .type "list"∧∃vs n,ob.data= .seq vs n∧RL B vs.toList l
 |.dict l=>∃kvs,ob.IsDictOf (PySem.strKind c.prog c.w) kvs∧RD B kvs l
 |.tdict l=>∃es ep,∃xs:List (List Str×Addr×Value),ob.ExactDict∧ob.data= .dict es ep∧es.toList=xs.map (entryOfKey (PySem.tupleKind (PySem.strKind c.prog c.w)))∧xs.map (·.1)=l∧l.Nodup∧∀x∈xs,TN B x.1 x.2.1
 |.ns l=>∃es ep,ob.data= .dict es ep∧StrKeys es∧es.size≤l.length∧RN B es l
 |.inst C d=>ob=instObj C d
theorem RN.move{B B':Ao}{es:Array DictEntry}{l:List (Str×AV)}(h:∀a ob,B a=some ob→¬NT ob→B' a=some ob)(r:RN B es l):RN B' es l:=
 fun y=>⟨fun x q=>((r y).1 x q).imp fun _ w=>⟨w.1,w.2.move h⟩,(r y).2⟩
theorem Is.move{c:Cx}{B B':Ao}{ob:Obj}(h:∀a ob,B a=some ob→¬NT ob→B' a=some ob){o:AO}(i:Is c B ob o):Is c B' ob o:=by
 cases o with
 |ns _=>obtain⟨es,ep,e,k,z,r⟩:=i;exact⟨es,ep,e,k,z,r.move h⟩
 |list _=>obtain⟨vs,n,e,r⟩:=i;exact⟨vs,n,e,r.move h⟩
 |wlist _=>obtain⟨c1,vs,n,e,r⟩:=i;exact⟨c1,vs,n,e,r.move h⟩
 |dict _=>obtain⟨kvs,e,r⟩:=i;exact⟨kvs,e,r.move h⟩
 |tdict _=>obtain⟨es,ep,xs,e1,e2,e3,e4,e5,e6⟩:=i;exact⟨es,ep,xs,e1,e2,e3,e4,e5,fun x hx=>(e6 x hx).move h⟩
 |inst _ _=>exact i
theorem Is.mono{c:Cx}{B B':Ao}{ob:Obj}(h:Le B B'){o:AO}(i:Is c B ob o):Is c B' ob o:=i.move (LO h)
theorem Is.drop{c:Cx}{B:Ao}{ob:Obj}{L:Addr}(h:G4 B L){o:AO}(i:Is c B ob o):Is c (del B L) ob o:=i.move (Ml h)
theorem Z8{α:Type}{Q:α→Pos→Shared→Prop}{E:Value→Pos→Shared→Prop}(M:Model)(Γ:PySem.Ctx)(n:Nat)(tree:Sem α)(p:Pos)(s:Shared)(hn:n≤s.toks)(h:Sem.wp M Γ tree Q E p s):
  Sem.wp M Γ tree (fun v p' s'=>n≤s'.toks∧Q v p' s') E p s:=by
 revert h
 induction tree generalizing p s with
 |pure x=>exact fun h=>⟨hn,h⟩
 |raise v=>exact id
 |unsupported|finish|yield|fork|await|register=>exact id
 |rule _ k ih|«at» _ k ih|loadIfAlive _ k ih|point _ k ih|ask k ih|handled _ k ih|stack k ih|thread k ih=>exact ih _ _ _ hn
 |alloc _ k ih|os _ _ k ih|newGen _ k ih=>exact ih _ _ _ hn
 |fresh k ih=>exact ih _ _ _ (Nat.le_succ_of_le hn)
 |load a _ k ih|genState a k ih=>exact fun⟨o,ho,h⟩=>⟨o,ho,ih _ _ _ hn h⟩
 |update a _ f k ih|choose _ _ k ih=>exact fun⟨ha,h⟩=>⟨ha,ih _ _ _ hn h⟩
 |call c h g l k ih=>exact fun⟨r,s',hr,h⟩=>⟨r,s',hr,ih r _ _ (Nat.le_trans hn hr.toks_le) h⟩
 |resume g r l k ih=>exact fun⟨res,s',hw,h⟩=>⟨res,s',hw,ih _ _ _ (Nat.le_trans hn hw.toks_le) h⟩
theorem BO{α:Type}{M:Model}{A:Around}{t:Sem α}{Q:α→Shared→Prop}{E:Value→Shared→Prop}{s:Shared}
  (h:wpAny M A t (fun v s'=>s.toks≤s'.toks→Q v s') E s):wpAny M A t Q E s:=fun Γ p hΓ=>
 Sem.wp_mono M Γ t (fun v p1 s1 (x:s.toks≤s1.toks∧(s.toks≤s1.toks→Q v s1))=>x.2 x.1) (fun _ _ _ x=>x) p s (Z8 M Γ s.toks t p s (Nat.le_refl _) (h Γ p hΓ))
structure A4(c:Cx)(B:Ao)(S:AD)(s:Shared):Prop where
 ok:Uq c
 base:∀a o,c.s₁.heap.get? a=some o→B a=some o
 keep:∀a o,B a=some o→s.heap.get? a=some o
 own:∀a o,S a=some o→B a=none∧∃ob,s.heap.get? a=some ob∧Is c B ob o
 gens:s.gens=c.s₁.gens
 os:s.os=c.s₁.os
 tk:0<s.toks
 sys:S sysModules=none
noncomputable def DO(A:Around)(n:Nat):Prop:=A.handled=none∧A.depth+3*n<1000∧A.units+20*n<9900
structure BU where
 L:Addr
 cs:List (Str×Addr)
noncomputable def BU.own(L:BU):List Addr:=L.L::L.cs.map (·.2)
noncomputable def Oj(B:Ao)(m:Str→Option Value)(h:Heap)(cs:List (Str×Addr))(x:Str)(av:AV):Prop:=
 (AG cs x=none→∃v,m x=some v∧R B v av)∧(∀a,AG cs x=some a→∃o v,h.get? a=some o∧o.data= .cell (some v)∧R B v av)
structure A3(B:Ao)(S:AD)(L:BU)(ρ:AJ)(s:Shared):Prop where
 nd:L.own.Nodup
 ow:∀a∈L.own,B a=none∧S a=none∧∃o,s.heap.get? a=some o∧NT o
 cl:∀p∈L.cs,∃o v,s.heap.get? p.2=some o∧o.data= .cell v
 ex:∃m,s.heap.Ns L.L m∧∀x av,AG ρ x=some av→Oj B m s.heap L.cs x av
structure G5{α β:Type}(rel:Ao→α→β→Prop):Prop where
 mono:∀{B B':Ao} {v:α} {b:β},Le B B'→rel B v b→rel B' v b
 drop:∀{B:Ao} {L:Addr} {v:α} {b:β},G4 B L→rel B v b→rel (del B L) v b
theorem rR:G5 R:=⟨fun h r=>r.mono h,fun h r=>r.drop h⟩
noncomputable def Kb{α:Type}(_:Ao)(a b:α):Prop:=a=b
theorem fM{α:Type}:G5 (@Kb α):=⟨fun _ r=>r,fun _ r=>r⟩
section
variable{α β γ δ:Type}{c:Cx}{n:Nat}{B:Ao}{S:AD}{L:BU}{ρ:AJ}{rel:Ao→α→β→Prop}{rel2:Ao→γ→δ→Prop}{s:Shared}{A:Around}
inductive Po(c:Cx)(B:Ao)(L:BU)(rel:Ao→α→β→Prop)(Q:β→AJ→AD→Prop)(v:α)(s':Shared):Prop
 |mk (B':Ao) (S':AD) (ρ':AJ) (b:β) (le:Le B B') (iv:A4 c B' S' s') (fr:A3 B' S' L ρ' s') (r:rel B' v b) (q:Q b ρ' S'):Po c B L rel Q v s'
inductive Pb(c:Cx)(B:Ao)(rel:Ao→α→β→Prop)(Q:β→AD→Prop)(v:α)(s':Shared):Prop
 |mk (B':Ao) (S':AD) (b:β) (le:Le B B') (iv:A4 c B' S' s') (r:rel B' v b) (q:Q b S'):Pb c B rel Q v s'
inductive Ph(c:Cx)(B:Ao)(rel:Ao→α→β→Prop)(Q:β→AD→Prop)(l:List (Addr×Obj))(v:α)(s':Shared):Prop
 |mk (B':Ao) (S':AD) (b:β) (le:Le B B') (iv:A4 c B' S' s') (hp:∀p∈l,B' p.1=none∧S' p.1=none∧s'.heap.get? p.1=some p.2) (r:rel B' v b) (q:Q b S'):Ph c B rel Q l v s'
inductive Pf(c:Cx)(B:Ao)(L:BU)(ρ:AJ)(rel:Ao→α→β→Prop)(Q:β→AD→Prop)(v:α)(s':Shared):Prop
 |mk (B':Ao) (S':AD) (b:β) (le:Le B B') (iv:A4 c B' S' s') (fr:A3 B' S' L ρ s') (r:rel B' v b) (q:Q b S'):Pf c B L ρ rel Q v s'
inductive Pk(c:Cx)(B:Ao)(L:BU)(rel:Ao→α→β→Prop)(Q:β→AJ→AD→Prop)(I:Addr)(oI:Obj)(v:α)(s':Shared):Prop
 |mk (B':Ao) (S':AD) (ρ':AJ) (b:β) (le:Le B B') (iv:A4 c B' S' s') (fr:A3 B' S' L ρ' s') (hI:B' I=none∧S' I=none∧s'.heap.get? I=some oI) (r:rel B' v b) (q:Q b ρ' S'):Pk c B L rel Q I oI v s'
inductive Pm(c:Cx)(B:Ao)(L:BU)(rel:Ao→α→β→Prop)(Q:β→AJ→AD→Prop)(l:List (Addr×Obj))(v:α)(s':Shared):Prop
 |mk (B':Ao) (S':AD) (ρ':AJ) (b:β) (le:Le B B') (iv:A4 c B' S' s') (fr:A3 B' S' L ρ' s') (hp:∀p∈l,B' p.1=none∧S' p.1=none∧s'.heap.get? p.1=some p.2) (r:rel B' v b) (q:Q b ρ' S'):Pm c B L rel Q l v s'
inductive Pw(c:Cx)(B:Ao)(L:BU)(P:Nat→AJ→AD→Prop)(k:Nat)(s':Shared):Prop
 |mk (B':Ao) (ρ':AJ) (S':AD) (le:Le B B') (iv:A4 c B' S' s') (fr:A3 B' S' L ρ' s') (p:P k ρ' S'):Pw c B L P k s'
noncomputable def E1(c:Cx)(n:Nat)(B:Ao)(S:AD)(rel:Ao→α→β→Prop)(t:Sem α)(Q:β→AD→Prop):Prop:=
 ∀A s,DO A n→A4 c B S s→wpAny (model c.prog c.w) A t (Pb c B rel Q) (fun _ _=>False) s
noncomputable def Ok(c:Cx)(n:Nat)(L:BU)(rel:Ao→α→β→Prop)(t:Sem α)(ρ:AJ)(S:AD)(Q:β→AJ→AD→Prop):Prop:=
 ∀A B s,DO A n→A4 c B S s→A3 B S L ρ s→wpAny (model c.prog c.w) A t (Po c B L rel Q) (fun _ _=>False) s
theorem A4.toks{t:Nat}(i:A4 c B S s)(ht:s.toks≤t:=by first|exact Nat.le_refl _|exact Nat.le_succ _|exact Nat.le_add_right _ _|lia):A4 c B S {s with toks:=t}:=⟨i.ok,i.base,i.keep,i.own,i.gens,i.os,Nat.lt_of_lt_of_le i.tk ht,i.sys⟩
theorem A4.gkeep(i:A4 c B S s):∀a o,c.s₁.heap.get? a=some o→s.heap.get? a=some o:=fun a o e=>i.keep a o (i.base a o e)
theorem A4.K(i:A4 c B S s):c.K.In s.heap:=fun a o e=>i.gkeep a o (i.ok.X a o e)
theorem A4.newB(i:A4 c B S s):B s.heap.objs.size=none:=by
 cases e:B s.heap.objs.size with
 |none=>rfl
 |some o=>exact absurd (Heap.lt_size (i.keep _ _ e)) (Nat.lt_irrefl _)
theorem A4.newS(i:A4 c B S s):S s.heap.objs.size=none:=by
 cases e:S s.heap.objs.size with
 |none=>rfl
 |some o=>obtain⟨_,ob,h,_⟩:=i.own _ _ e;exact absurd (Heap.lt_size h) (Nat.lt_irrefl _)
theorem A4.next{h':Heap}{t:Nat}(i:A4 c B S s)(hk:∀a o,(B a≠none∨S a≠none)→s.heap.get? a=some o→h'.get? a=some o)(ht:s.toks≤t:=by first|exact Nat.le_refl _|exact Nat.le_succ _|exact Nat.le_add_right _ _|lia):A4 c B S {s with heap:=h',toks:=t}:=
 ⟨i.ok,i.base,fun a o e=>hk a o (.inl (by exact rr e (fun x=>nomatch x))) (i.keep a o e),fun a o e=>by
  obtain⟨h1,ob,h2,h3⟩:=i.own a o e
  exact⟨h1,ob,hk a ob (.inr (by exact rr e (fun x=>nomatch x))) h2,h3⟩,i.gens,i.os,Nat.lt_of_lt_of_le i.tk ht,i.sys⟩
theorem A4.freeze{L:Addr}{o:Obj}(i:A4 c B S s)(hb:B L=none)(hs:S L=none)(h:s.heap.get? L=some o):A4 c (put B L o) S s:=by
 refine⟨i.ok,fun a o' e=>Le.put hb a o' (i.base a o' e),fun a o' e=>?_,fun a o' e=>?_,i.gens,i.os,i.tk,i.sys⟩
 ·by_cases q:a=L
  ·subst q;rw[AC]at e;cases e;exact h
  ·rw[AA _ _ q]at e;exact i.keep a o' e
 ·obtain⟨h1,ob,h2,h3⟩:=i.own a o' e;have q:a≠L:=(by first|exact As e hs|exact(As hs e).symm)
  exact⟨by rw[AA _ _ q];exact h1,ob,h2,h3.mono (Le.put hb)⟩
theorem A4.thaw{L:Addr}(i:A4 c B S s)(hb:c.s₁.heap.get? L=none)(ht:G4 B L):A4 c (del B L) S s:=by
 refine⟨i.ok,fun a o e=>?_,fun a o e=>?_,fun a o e=>?_,i.gens,i.os,i.tk,i.sys⟩
 ·exact rr (CX _ ((by first|exact As e hb|exact(As hb e).symm))) (i.base a o e)
 ·by_cases q:a=L
  ·subst q;rw[Ew]at e;cases e
  ·rw[CX _ q]at e;exact i.keep a o e
 ·obtain⟨h1,ob,h2,h3⟩:=i.own a o e;refine⟨?_,ob,h2,h3.drop ht⟩;by_cases q:a=L
  ·subst q;exact Ew ..
  ·exact rr (CX _ q) h1
theorem A4.big(i:A4 c B S s):s.heap.objs.size≠sysModules:=fun e=>by
 obtain⟨mg,o,es,ep,ho,r⟩:=i.ok.g;have z:=Heap.lt_size (i.gkeep _ _ ho);rw[e]at z;exact absurd z (by decide)
theorem A4.base_none{L:Addr}(i:A4 c B S s)(h:B L=none):c.s₁.heap.get? L=none:=by
 cases e:c.s₁.heap.get? L with
 |none=>rfl
 |some o=>rw[i.base _ _ e]at h;cases h
theorem OD{t:Sem α}{Q:β→AD→Prop}(hr:G5 rel)(rm:DO A n):∀(l:List (Addr×Obj)) {B:Ao} (i:A4 c B S s) (hnd:(l.map (·.1)).Nodup)
  (hl:∀p∈l,B p.1=none∧S p.1=none∧s.heap.get? p.1=some p.2∧NT p.2) (h:∀B',Le B B'→E1 c n B' S rel t Q),
  wpAny (model c.prog c.w) A t (Ph c B rel Q l) (fun _ _=>False) s
 |[],B,i,_,_,h=>wpAny_mono (h B (Le.refl _) A s rm i) (fun _ _ ⟨B',S',b,l,i',r,q⟩=>⟨B',S',b,l,i',(fun _ hp=>nomatch hp),r,q⟩) fun _ _ x=>x
 |(a,o)::l,B,i,hnd,hl,h=>by
  obtain⟨hb,hs,ho,hn⟩:=hl (a,o) (.head _);rw[List.map_cons,List.nodup_cons]at hnd;have ne:∀p∈l,p.1≠a:=fun p hp q=>hnd.1 (by have z:=List.mem_map_of_mem (f:=fun x:Addr×Obj=>x.1) hp;rw[q]at z;exact z);refine wpAny_mono (OD hr rm l (i.freeze hb hs ho) hnd.2 (fun p hp=>?_) fun B' l'=>h B' ((Le.put hb).trans l')) ?_ fun _ _ x=>x
  ·obtain⟨h1,h2,h3,h4⟩:=hl p (.tail _ hp);exact⟨by rw[AA _ _ (ne p hp)];exact h1,h2,h3,h4⟩
  ·rintro v s' ⟨B',S',b,le,i',hp',r,q⟩;have hL:B' a=some o:=le _ _ (AC ..);have nt:G4 B' a:=fun ob e=>by rw[hL]at e;cases e;exact hn
   refine⟨del B' a,S',b,Le.del hb le,i'.thaw (i.base_none hb) nt,fun p hp=>?_,hr.drop nt r,q⟩;rcases List.mem_cons.mp hp with rfl|hp
   ·refine⟨Ew ..,?_,i'.keep _ _ hL⟩
    cases e:S' a with
    |none=>rfl
    |some o=>have:=(i'.own _ _ e).1;rw[hL]at this;cases this
   ·obtain⟨h1,h2,h3⟩:=hp' p hp;exact⟨by rw[CX _ (ne p hp)];exact h1,h2,h3⟩
theorem Ib{α β:Type}{P:α→β→Prop}:∀{l:List α},(∀a∈l,∃o,P a o)→∃obs:List (α×β),obs.map (·.1)=l∧∀p∈obs,P p.1 p.2
 |[],_=>⟨[],rfl,fun _ h=>nomatch h⟩
 |a::l,h=>by
  obtain⟨o,ho⟩:=h a (.head _);obtain⟨obs,e,hp⟩:=Ib (l:=l) fun b hb=>h b (.tail _ hb)
  exact⟨(a,o)::obs,by exact rr List.map_cons (rr e rfl),fun p hp'=>by
   rcases List.mem_cons.mp hp' with rfl|q
   ·exact ho
   ·exact hp p q⟩
theorem Oj.move{B B':Ao}{m:Str→Option Value}{h h':Heap}{cs:List (Str×Addr)}{x:Str}{av:AV}(le:Le B B')(hk:∀p∈cs,h'.get? p.2=h.get? p.2)(q:Oj B m h cs x av):Oj B' m h' cs x av:=
 ⟨fun e=>let ⟨v,a,b⟩:=q.1 e;⟨v,a,b.mono le⟩,fun a e=>let ⟨o,v,p1,p2,p3⟩:=q.2 a e;⟨o,v,(hk (x,a) (look_mem e)).trans p1,p2,p3.mono le⟩⟩
theorem A3.move{B':Ao}{S':AD}{s':Shared}(f:A3 B S L ρ s)(le:Le B B')(hk:∀a∈L.own,B' a=none∧S' a=none∧s'.heap.get? a=s.heap.get? a):A3 B' S' L ρ s':=by
 obtain⟨nd,ow,cl,m,⟨o,es,ep,ho,r⟩,hm⟩:=f;have hc:∀p∈L.cs,s'.heap.get? p.2=s.heap.get? p.2:=fun p hp=>(hk p.2 (.tail _ (List.mem_map_of_mem hp))).2.2;refine⟨nd,fun a ha=>?_,fun p hp=>?_,m,⟨o,es,ep,(hk _ (.head _)).2.2.trans ho,r⟩,fun x av e=>(hm x av e).move le hc⟩
 ·obtain⟨h1,h2,h3⟩:=hk a ha;obtain⟨_,_,ob,h4,h5⟩:=ow a ha;exact⟨h1,h2,ob,h3.trans h4,h5⟩
 ·obtain⟨ob,v,h4,h5⟩:=cl p hp;exact⟨ob,v,(hc p hp).trans h4,h5⟩
theorem Et{t:Sem α}{Q:β→AD→Prop}(hr:G5 rel)(rm:DO A n)(i:A4 c B S s)(f:A3 B S L ρ s)(h:∀B',Le B B'→E1 c n B' S rel t Q):
  wpAny (model c.prog c.w) A t (Pf c B L ρ rel Q) (fun _ _=>False) s:=by
 obtain⟨obs,e,hp⟩:=Ib (P:=fun a o=>s.heap.get? a=some o∧NT o) fun a ha=>(f.ow a ha).2.2;have key:∀p∈obs,p.1∈L.own:=fun p hp=>e▸List.mem_map_of_mem hp;refine wpAny_mono (OD hr rm obs i (by exact rr e f.nd) (fun p h'=>⟨(f.ow _ (key p h')).1,(f.ow _ (key p h')).2.1,(hp p h').1,(hp p h').2⟩) h) ?_ fun _ _ x=>x;rintro v s' ⟨B',S',b,le,i',h3,r,q⟩;refine⟨B',S',b,le,i',f.move le fun a ha=>?_,r,q⟩;rw[←e]at ha;obtain⟨p,hp',rfl⟩:=List.mem_map.mp ha;obtain⟨q1,q2,q3⟩:=h3 p hp';exact⟨q1,q2,q3.trans (hp p hp').1.symm⟩
theorem A3.toks{t:Nat}(f:A3 B S L ρ s):A3 B S L ρ {s with toks:=t}:=⟨f.nd,f.ow,f.cl,f.ex⟩
theorem A3.less{ρ':AJ}(f:A3 B S L ρ s)(h:∀x av,AG ρ' x=some av→AG ρ x=some av):A3 B S L ρ' s:=
 ⟨f.nd,f.ow,f.cl,let ⟨m,a,b⟩:=f.ex;⟨m,a,fun x av e=>b x av (h x av e)⟩⟩
theorem Ok.mono{t:Sem α}{Q Q':β→AJ→AD→Prop}(h:Ok c n L rel t ρ S Q)(hq:∀b ρ' S',Q b ρ' S'→Q' b ρ' S'):Ok c n L rel t ρ S Q':=fun A B s rm i f=>
 wpAny_mono (h A B s rm i f) (fun v s' ⟨B',S',ρ',b,l,i',f',r,q⟩=>⟨B',S',ρ',b,l,i',f',r,hq _ _ _ q⟩) fun _ _ x=>x
theorem E1.mono{t:Sem α}{Q Q':β→AD→Prop}(h:E1 c n B S rel t Q)(hq:∀b S',Q b S'→Q' b S'):E1 c n B S rel t Q':=fun A s rm i=>
 wpAny_mono (h A s rm i) (fun v s' ⟨B',S',b,l,i',r,q⟩=>⟨B',S',b,l,i',r,hq _ _ q⟩) fun _ _ x=>x
end
section
variable{α β γ δ:Type}{c:Cx}{n:Nat}{B B1:Ao}{S:AD}{L:BU}{ρ:AJ}{rel:Ao→α→β→Prop}{s:Shared}{A:Around}{env:Env}
theorem Po.up{Q:β→AJ→AD→Prop}{v:α}(l:Le B B1):Po c B1 L rel Q v s→Po c B L rel Q v s:=
 fun⟨B',S',ρ',b,l',i,f,r,q⟩=>⟨B',S',ρ',b,l.trans l',i,f,r,q⟩
noncomputable abbrev Fa:Value→Shared→Prop:=fun _ _=>False
noncomputable abbrev Cm:=List (Str×NameKind)
structure Am(env:Env)(L:BU)(ns:Cm):Prop where
 kind:env.scope.kind= .function
 loc:env.locals=L.L
 glob:env.globals=mainGlobals
 blt:env.builtins=builtinsNs
 nm:env.scope.names=ns
 cl:∀x,(ns.lookup x=some .cell∨ns.lookup x=some .free)→env.cells.lookup x=AG L.cs x∧AG L.cs x≠none
 lc:∀x,ns.lookup x=some .local→AG L.cs x=none
theorem Am.kof{env:Env}{L:BU}{ns:Cm}(h:Am env L ns)(x:Str):env.kindOf x=ns.lookup x:=by unfold Env.kindOf;exact rr h.nm rfl
noncomputable def eD(c:Cx)(n:Nat)(f:Value→Sem α)(rel:Ao→α→β→Prop)(x:AV)(S:AD)(Q:β→AD→Prop):Prop:=∀B v,R B v x→E1 c n B S rel (f v) Q
noncomputable def Cn(c:Cx)(n:Nat)(f:Value→Value→Sem α)(rel:Ao→α→β→Prop)(x y:AV)(S:AD)(Q:β→AD→Prop):Prop:=∀B v w,R B v x→R B w y→E1 c n B S rel (f v w) Q
noncomputable def Ut(c:Cx)(n:Nat)(f:Value→Value→Value→Sem α)(rel:Ao→α→β→Prop)(x y z:AV)(S:AD)(Q:β→AD→Prop):Prop:=∀B v w u,R B v x→R B w y→R B u z→E1 c n B S rel (f v w u) Q
noncomputable def ag(c:Cx)(n:Nat)(f:List Value→Sem α)(rel:Ao→α→β→Prop)(xs:List AV)(S:AD)(Q:β→AD→Prop):Prop:=∀B vs,RL B vs xs→E1 c n B S rel (f vs) Q
noncomputable def MS:AV→Tok→Value
 |.none,_=>.none
 |.bool b,_=>.bool b
 |.int i,t=>.int i t
 |.str x,t=>.str x t
 |.cs x t,_=>.str x t
 |.ref a,_=>.ref a
 |_,_=>.none
noncomputable def MW:AV→Bool
 |.none|.bool _|.int _|.str _|.cs _ _|.ref _=>true
 |_=>false
theorem R.sh{v:Value}{x:AV}(hx:MW x=true)(r:R B v x):∃t,v=MS x t:=
 R.casesOn (motive_1:=fun v x _=>MW x=true→∃t,v=MS x t) r (fun _=>⟨0,rfl⟩) (fun _ _=>⟨0,rfl⟩) (fun _ t _=>⟨t,rfl⟩) (fun _ t _=>⟨t,rfl⟩) (fun _ _ _=>⟨0,rfl⟩) (fun _ _=>⟨0,rfl⟩) (fun _ h=>nomatch h) (fun _ h=>nomatch h)
  (fun _ _ _ _ h=>nomatch h) (fun _ _ _ _ _ _ h=>nomatch h) (fun _ h=>nomatch h) hx
theorem R.tupA{v:Value}{l:List AV}(r:R B v (.tup l)):∃a,v= .ref a:=by
 cases r.tup_inv;exact⟨_,rfl⟩
theorem RL.one{vs:List Value}{x:AV}(r:RL B vs [x]):∃v,vs=[v]∧R B v x:=by
 obtain⟨v,ws,e,r1,r⟩:=r.cons_inv;rw[r.nil_inv]at e;exact⟨v,e,r1⟩
theorem RL.cut{vs:List Value}{x:AV}{xs:List AV}(r:RL B vs (x::xs)):∃v ws,vs=v::ws∧R B v x∧RL B ws xs:=r.cons_inv
section
variable{x y z:AV}{Q:β→AD→Prop}
theorem eg{f:Value→Sem α}(hx:MW x=true)(h:∀B t,E1 c n B S rel (f (MS x t)) Q):eD c n f rel x S Q:=fun B v r1=>by
 obtain⟨t,rfl⟩:=r1.sh hx;exact h B t
theorem PA{f:Value→Value→Sem α}(hx:MW x=true)(h:∀B t w,R B w y→E1 c n B S rel (f (MS x t) w) Q):Cn c n f rel x y S Q:=fun B v w r1 r2=>by
 obtain⟨t,rfl⟩:=r1.sh hx;exact h B t w r2
theorem Rh{f:Value→Value→Sem α}(hy:MW y=true)(h:∀B v u,R B v x→E1 c n B S rel (f v (MS y u)) Q):Cn c n f rel x y S Q:=fun B v w r1 r2=>by
 obtain⟨t,rfl⟩:=r2.sh hy;exact h B v t r1
theorem Hn{f:Value→Value→Sem α}(hx:MW x=true)(hy:MW y=true)(h:∀B t u,E1 c n B S rel (f (MS x t) (MS y u)) Q):Cn c n f rel x y S Q:=PA hx fun B t w r2=>by
 obtain⟨u,rfl⟩:=r2.sh hy;exact h B t u
theorem Yq{f:Value→Value→Value→Sem α}(hx:MW x=true)(h:∀B t w u,R B w y→R B u z→E1 c n B S rel (f (MS x t) w u) Q):Ut c n f rel x y z S Q:=fun B v w u r1 r2 r3=>by
 obtain⟨t,rfl⟩:=r1.sh hx;exact h B t w u r2 r3
theorem eR{f:Value→Value→Value→Sem α}(hx:MW x=true)(hy:MW y=true)(h:∀B t u w,R B w z→E1 c n B S rel (f (MS x t) (MS y u) w) Q):Ut c n f rel x y z S Q:=Yq hx fun B t w u r2 r3=>by
 obtain⟨q,rfl⟩:=r2.sh hy;exact h B t q u r3
theorem HR{f:List Value→Sem α}(hx:MW x=true)(h:∀B t,E1 c n B S rel (f [MS x t]) Q):ag c n f rel [x] S Q:=fun B vs r=>by
 obtain⟨v,rfl,r1⟩:=r.one;obtain⟨t,rfl⟩:=r1.sh hx;exact h B t
theorem Tk{f:List Value→Sem α}(hx:MW x=true)(h:∀B t w,R B w y→E1 c n B S rel (f [MS x t,w]) Q):ag c n f rel [x,y] S Q:=fun B vs r=>by
 obtain⟨v,ws,rfl,r1,r⟩:=r.cut;obtain⟨w,rfl,r2⟩:=r.one;obtain⟨t,rfl⟩:=r1.sh hx;exact h B t w r2
theorem M4{f:List Value→Sem α}(hx:MW x=true)(hy:MW y=true)(h:∀B t u,E1 c n B S rel (f [MS x t,MS y u]) Q):ag c n f rel [x,y] S Q:=Tk hx fun B t w r2=>by
 obtain⟨u,rfl⟩:=r2.sh hy;exact h B t u
theorem Uj{f:List Value→Sem α}(hx:MW x=true)(hy:MW y=true)(hz:MW z=true)(h:∀B t u q,E1 c n B S rel (f [MS x t,MS y u,MS z q]) Q):ag c n f rel [x,y,z] S Q:=fun B vs r=>by
 obtain⟨v,ws,rfl,r1,r⟩:=r.cut;obtain⟨v2,ws,rfl,r2,r⟩:=r.cut;obtain⟨w,rfl,r3⟩:=r.one;obtain⟨t,rfl⟩:=r1.sh hx;obtain⟨u,rfl⟩:=r2.sh hy;obtain⟨q,rfl⟩:=r3.sh hz;exact h B t u q
end
noncomputable abbrev kZ{β:Type}(Q:β→AJ→AD→Prop)(ρ:AJ):β→AD→Prop:=fun z S=>Q z ρ S
inductive kB(Q:Bool→AJ→AD→Prop)(ρ:AJ)(z:AV)(S:AD):Prop
 |mk (b:Bool) (e:z= .bool b) (h:Q b ρ S)
noncomputable abbrev kP(c:Cx)(n:Nat)(f:Value→Value→Sem Value)(x:AV)(Q:AV→AJ→AD→Prop):AV→AJ→AD→Prop:=fun y ρ S=>Cn c n f R x y S (kZ Q ρ)
noncomputable abbrev kO(c:Cx)(n:Nat)(L:BU)(env:Env)(r:Expr)(f:Value→Value→Sem Value)(Q:AV→AJ→AD→Prop):AV→AJ→AD→Prop:=fun x ρ S=>Ok c n L R (eval r env) ρ S (kP c n f x Q)
noncomputable abbrev eL(c:Cx)(n:Nat)(f:Value→Value→Sem Value)(x:AV)(Q:Bool→AJ→AD→Prop):AV→AJ→AD→Prop:=fun y ρ S=>Cn c n f R x y S (kB Q ρ)
noncomputable abbrev eP(c:Cx)(n:Nat)(L:BU)(env:Env)(r:Expr)(f:Value→Value→Sem Value)(Q:Bool→AJ→AD→Prop):AV→AJ→AD→Prop:=fun x ρ S=>Ok c n L R (eval r env) ρ S (eL c n f x Q)
noncomputable abbrev kU(c:Cx)(n:Nat)(f:Value→Sem Value)(Q:AV→AJ→AD→Prop):AV→AJ→AD→Prop:=fun x ρ S=>eD c n f R x S (kZ Q ρ)
noncomputable abbrev eF(Q:Bool→AJ→AD→Prop):Bool→AJ→AD→Prop:=fun b=>Q (!b)
noncomputable def cN(S:AD):AV→Option Bool
 |.none=>some false
 |.bool b=>some b
 |_=>Option.none
inductive kT(Q:Bool→AJ→AD→Prop)(x:AV)(ρ:AJ)(S:AD):Prop
 |mk (b:Bool) (e:cN S x=some b) (h:Q b ρ S)
structure c6(c:Cx)(n:Nat)(L:BU)(env:Env)(rest:List Expr)(Q:Bool→AJ→AD→Prop)(b:Bool)(ρ:AJ)(S:AD):Prop where
 t:b=true→Ok c n L Kb (allTrue .And rest env) ρ S Q
 f:b=false→Q false ρ S
structure fH(c:Cx)(n:Nat)(L:BU)(env:Env)(rest:List Expr)(Q:Bool→AJ→AD→Prop)(b:Bool)(ρ:AJ)(S:AD):Prop where
 f:b=false→Ok c n L Kb (allTrue .Or rest env) ρ S Q
 t:b=true→Q true ρ S
structure cR(c:Cx)(n:Nat)(L:BU)(env:Env)(x y:Expr)(Q:AV→AJ→AD→Prop)(b:Bool)(ρ:AJ)(S:AD):Prop where
 t:b=true→Ok c n L R (eval x env) ρ S Q
 f:b=false→Ok c n L R (eval y env) ρ S Q
noncomputable abbrev kC(Q:List AV→AJ→AD→Prop)(x:AV):List AV→AJ→AD→Prop:=fun xs=>Q (x::xs)
noncomputable abbrev kL(c:Cx)(n:Nat)(L:BU)(env:Env)(pos:Pos)(rest:List Expr)(Q:List AV→AJ→AD→Prop):AV→AJ→AD→Prop:=fun x ρ S=>Ok c n L RL (spliced (backTo pos (starEach rest env))) ρ S (kC Q x)
structure Xb(Q:AV→AJ→AD→Prop)(xs:List AV)(ρ:AJ)(S:AD):Prop where
 l:xs.length≤1000
 h:Q (.tup xs) ρ S
structure Yd(Q:AV→AJ→AD→Prop)(xs:List AV)(ρ:AJ)(S:AD):Prop where
 l:xs.length≤1000
 h:∀a,S a=none→Q (.ref a) ρ (put S a (.list xs))
theorem CV{t:Sem α}{Q:β→AJ→AD→Prop}(hr:G5 rel)(rm:DO A n)(i:A4 c B1 S s)(f:A3 B1 S L ρ s)(l:Le B B1)(h:∀B',Le B1 B'→E1 c n B' S rel t (kZ Q ρ)):
  wpAny (model c.prog c.w) A t (Po c B L rel Q) Fa s:=
 wpAny_mono (Et hr rm i f h) (fun v s' ⟨B',S',b,l',i',f',r,q⟩=>⟨B',S',ρ,b,l.trans l',i',f',r,q⟩) fun _ _ x=>x
theorem AS{i:Int}{k:Nat}{pos:Pos}{Q:AV→AJ→AD→Prop}(h:Q (.int i) ρ S):Ok c n L R (eval (.Constant (.int i) k pos) env) ρ S Q:=fun A B s rm iv f=>
 wpAny_Constant_int ⟨B,S,ρ,.int i,Le.refl _,iv.toks,f.toks,.int _ _,h⟩
theorem AT{x:Str}{k:Nat}{pos:Pos}{Q:AV→AJ→AD→Prop}(h:Q (.str x) ρ S):Ok c n L R (eval (.Constant (.str x) k pos) env) ρ S Q:=fun A B s rm iv f=>
 wpAny_Constant_str ⟨B,S,ρ,.str x,Le.refl _,iv.toks,f.toks,.str _ _,h⟩
theorem Dl{k:Nat}{pos:Pos}{Q:AV→AJ→AD→Prop}(h:Q .none ρ S):Ok c n L R (eval (.Constant .none k pos) env) ρ S Q:=fun A B s rm iv f=>
 wpAny_Constant_none ⟨B,S,ρ,.none,Le.refl _,iv,f,.none,h⟩
theorem C0{b:Bool}{k:Nat}{pos:Pos}{Q:AV→AJ→AD→Prop}(h:Q (.bool b) ρ S):Ok c n L R (eval (.Constant (.bool b) k pos) env) ρ S Q:=fun A B s rm iv f=>
 wpAny_Constant_bool ⟨B,S,ρ,.bool b,Le.refl _,iv,f,.bool _,h⟩
theorem AB{x:Str}{pos:Pos}{av:AV}{ns:Cm}{Q:AV→AJ→AD→Prop}(he:Am env L ns)(hl:ns.lookup x=some .local)(hv:AG ρ x=some av)(h:Q av ρ S)
  (hd:(x==("__debug__":Str))=false:=by decide):Ok c n L R (eval (.Name x pos) env) ρ S Q:=fun A B s rm iv f=>by
 obtain⟨m,hm,hr⟩:=f.ex;obtain⟨v,e,r⟩:=(hr x av hv).1 (he.lc x hl);exact wpAny_Name (wpAny_loadName_local he.kind ((he.kof x).trans hl) (by exact rr he.loc hm) e ⟨B,S,ρ,av,Le.refl _,iv,f,r,h⟩) hd
theorem Dq{x:Str}{pos:Pos}{av:AV}{ns:Cm}{Q:AV→AJ→AD→Prop}(he:Am env L ns)(hl:ns.lookup x=some .cell)(hv:AG ρ x=some av)(h:Q av ρ S)
  (hd:(x==("__debug__":Str))=false:=by decide):Ok c n L R (eval (.Name x pos) env) ρ S Q:=fun A B s rm iv f=>by
 obtain⟨m,hm,hr⟩:=f.ex;obtain⟨h1,h2⟩:=he.cl x (.inl hl)
 cases e:AG L.cs x with
 |none=>exact absurd e h2
 |some a=>
  obtain⟨o,v,e1,e2,r⟩:=(hr x av hv).2 a e;exact wpAny_Name (wpAny_loadName_cell he.kind ((he.kof x).trans hl) (h1.trans e) ⟨o,e1,e2⟩ ⟨B,S,ρ,av,Le.refl _,iv,f,r,h⟩) hd
theorem Ld{ns:Cm}{x:Str}{pos:Pos}{v:Value}{av:AV}{Q:AV→AJ→AD→Prop}(he:Am env L ns)(hl:ns.lookup x=some .globalImplicit)(hv:nsIn c.K mainGlobals x=some (some v))
  (hr:∀B,(∀a o,c.K.lookup a=some o→B a=some o)→R B v av) (h:Q av ρ S)
  (hd:(x==("__debug__":Str))=false:=by decide):Ok c n L R (eval (.Name x pos) env) ρ S Q:=fun A B s rm iv f=>by
 obtain⟨mg,hg⟩:=iv.ok.g;exact Name_function_global he.kind ((he.kof x).trans hl) (loadGlobal_global (by exact rr he.glob (hg.keeps iv.gkeep)) (mg_of iv.ok.X hg hv) ⟨B,S,ρ,av,Le.refl _,iv,f,hr B (fun a o e=>iv.base _ _ (iv.ok.X _ _ e)),h⟩) hd
theorem Qw{ns:Cm}{x:Str}{pos:Pos}{v:Value}{av:AV}{Q:AV→AJ→AD→Prop}(he:Am env L ns)(hl:ns.lookup x=some .globalImplicit)(hn:nsIn c.K mainGlobals x=some none)
  (hv:bootBuiltins x=some v) (hx:x≠"__name__") (hr:∀B,R B v av) (h:Q av ρ S)
  (hd:(x==("__debug__":Str))=false:=by decide):Ok c n L R (eval (.Name x pos) env) ρ S Q:=fun A B s rm iv f=>by
 obtain⟨mg,hg⟩:=iv.ok.g;obtain⟨mb,hb,hm⟩:=iv.ok.b;exact Name_function_global he.kind ((he.kof x).trans hl) (loadGlobal_builtin (by exact rr he.glob (hg.keeps iv.gkeep)) (mg_none_of iv.ok.X hg hn) (by exact rr he.blt (hb.keeps iv.gkeep)) ((hm x hx).trans hv) ⟨B,S,ρ,av,Le.refl _,iv,f,hr B,h⟩) hd
theorem Ab{l r:Expr}{op:Operator}{pos:Pos}{Q:AV→AJ→AD→Prop}
  (h:Ok c n L R (eval l env) ρ S (kO c n L env r (binaryOp op) Q)):
  Ok c n L R (eval (.BinOp l op r pos) env) ρ S Q:=fun A B s rm i f=>
 wpAny_BinOp (wpAny_mono (h A B s rm i f) (fun v1 s1 ⟨B1,S1,ρ1,x,l1,i1,f1,r1,q1⟩=>wpAny_mono (q1 A B1 s1 rm i1 f1) (fun v2 s2 ⟨B2,S2,ρ2,y,l2,i2,f2,r2,q2⟩=>
  CV rR rm i2 f2 (l1.trans l2) fun B' l'=>q2 B' v1 v2 (r1.mono (l2.trans l')) (r2.mono l')) fun _ _ x=>x) fun _ _ x=>x)
theorem Fg{x:Expr}{op:UnaryOp}{pos:Pos}{Q:AV→AJ→AD→Prop}
  (h:Ok c n L R (eval x env) ρ S (kU c n (unaryOp op) Q)):
  Ok c n L R (eval (.UnaryOp op x pos) env) ρ S Q:=fun A B s rm i f=>
 wpAny_UnaryOp (wpAny_mono (h A B s rm i f) (fun v1 s1 ⟨B1,S1,ρ1,x,l1,i1,f1,r1,q1⟩=>CV rR rm i1 f1 l1 fun B' l'=>q1 B' v1 (r1.mono l')) fun _ _ x=>x)
theorem Dt{l r:Expr}{op:CmpOp}{pos:Pos}{Q:AV→AJ→AD→Prop}
  (h:Ok c n L R (eval l env) ρ S (kO c n L env r (compareOp op) Q))
  (hm:behindInMarks op r=false:=by with_unfolding_all rfl):
  Ok c n L R (eval (.Compare l [op] [r] pos) env) ρ S Q:=fun A B s rm i f=>
 wpAny_Compare1 (wpAny_mono (h A B s rm i f) (fun v1 s1 ⟨B1,S1,ρ1,x,l1,i1,f1,r1,q1⟩=>wpAny_mono (q1 A B1 s1 rm i1 f1) (fun v2 s2 ⟨B2,S2,ρ2,y,l2,i2,f2,r2,q2⟩=>
  CV rR rm i2 f2 (l1.trans l2) fun B' l'=>q2 B' v1 v2 (r1.mono (l2.trans l')) (r2.mono l')) fun _ _ x=>x) fun _ _ x=>x) hm
theorem C4{v:Value}{x:AV}{b:Bool}{Q:Bool→Shared→Prop}(r:R B v x)(e:cN S x=some b)(h:Q b s):wpAny (model c.prog c.w) A (truthy v) Q Fa s:=by
 have z:=r.inv
 cases x with
 |none=>cases e;cases z;exact fun _ _ _=>h
 |bool b=>cases e;cases z;exact wpAny_truthy_bool h
 |_=>cases e
theorem Ck{l r:Expr}{op:CmpOp}{pos:Pos}{whole:Sem Value}{Q:Bool→AJ→AD→Prop}
  (h:Ok c n L R (eval l env) ρ S (eP c n L env r (compareOp op) Q))
  (hm:behindInMarks op r=false:=by with_unfolding_all rfl):
  Ok c n L Kb (isTrue (.Compare l [op] [r] pos) env whole) ρ S Q:=fun A B s rm i f=>
 wpAny_isTrue_Compare1 (wpAny_mono (h A B s rm i f) (fun v1 s1 ⟨B1,S1,ρ1,x,l1,i1,f1,r1,q1⟩=>wpAny_mono (q1 A B1 s1 rm i1 f1) (fun v2 s2 ⟨B2,S2,ρ2,y,l2,i2,f2,r2,q2⟩=>
  wpAny_mono (CV (B:=B2) (Q:=fun z ρ'=>kB Q ρ' z) rR rm i2 f2 (Le.refl _) fun B' l'=>q2 B' v1 v2 (r1.mono (l2.trans l')) (r2.mono l'))
   (fun v3 s3 ⟨B3,S3,ρ3,z,l3,i3,f3,r3,b,e3,q3⟩=>C4 (S:=S3) r3 (by subst e3;rfl) ⟨B3,S3,ρ3,b,(l1.trans l2).trans l3,i3,f3,rfl,q3⟩) fun _ _ x=>x) fun _ _ x=>x) fun _ _ x=>x) hm
theorem Ku{x:Expr}{pos:Pos}{whole:Sem Value}{Q:Bool→AJ→AD→Prop}(h:Ok c n L Kb (isTrue x env (eval x env)) ρ S (eF Q)):
  Ok c n L Kb (isTrue (.UnaryOp .Not x pos) env whole) ρ S Q:=fun A B s rm i f=>
 wpAny_isTrue_Not (wpAny_mono (h A B s rm i f) (fun v1 s1 ⟨B1,S1,ρ1,x,l1,i1,f1,r1,q1⟩=>⟨B1,S1,ρ1,!x,l1,i1,f1,congrArg not r1,q1⟩) fun _ _ x=>x)
theorem Dw{e:Expr}{whole:Sem Value}{Q:Bool→AJ→AD→Prop}(h:Ok c n L R whole ρ S (kT Q))
  (he:isTrue e env whole=(do let v←whole;standAt e.pos;holding [v] (truthy v)):=by rfl):Ok c n L Kb (isTrue e env whole) ρ S Q:=fun A B s rm i f=>
 wpAny_isTrue_value (wpAny_mono (h A B s rm i f) (fun v1 s1 ⟨B1,S1,ρ1,x,l1,i1,f1,r1,b,e1,q1⟩=>C4 r1 e1 ⟨B1,S1,ρ1,b,l1,i1,f1,rfl,q1⟩) fun _ _ x=>x) he
theorem HV{op:BoolOp}{values:List Expr}{pos:Pos}{whole:Sem Value}{Q:Bool→AJ→AD→Prop}(h:Ok c n L Kb (allTrue op values env) ρ S Q):Ok c n L Kb (isTrue (.BoolOp op values pos) env whole) ρ S Q:=
 fun A B s rm i f=>wpAny_isTrue_BoolOp (h A B s rm i f)
theorem Gp{Q:Bool→AJ→AD→Prop}(h:Q true ρ S):Ok c n L Kb (allTrue .And [] env) ρ S Q:=fun A B s rm i f=>wpAny_allTrue_And_nil ⟨B,S,ρ,true,Le.refl _,i,f,rfl,h⟩
theorem Jo{Q:Bool→AJ→AD→Prop}(h:Q false ρ S):Ok c n L Kb (allTrue .Or [] env) ρ S Q:=fun A B s rm i f=>wpAny_allTrue_Or_nil ⟨B,S,ρ,false,Le.refl _,i,f,rfl,h⟩
theorem Fs{x:Expr}{rest:List Expr}{Q:Bool→AJ→AD→Prop}(h:Ok c n L Kb (isTrue x env (eval x env)) ρ S (c6 c n L env rest Q)):
  Ok c n L Kb (allTrue .And (x::rest) env) ρ S Q:=fun A B s rm i f=>
 wpAny_allTrue_And_cons (wpAny_mono (h A B s rm i f) (fun v1 s1 ⟨B1,S1,ρ1,b,l1,i1,f1,r1,q1,q2⟩=>by
  cases r1;cases v1
  ·exact⟨B1,S1,ρ1,false,l1,i1,f1,rfl,q2 rfl⟩
  ·exact wpAny_mono (q1 rfl A B1 s1 rm i1 f1) (fun _ _=>Po.up l1) fun _ _ x=>x) fun _ _ x=>x)
theorem O8{x:Expr}{rest:List Expr}{Q:Bool→AJ→AD→Prop}(h:Ok c n L Kb (isTrue x env (eval x env)) ρ S (fH c n L env rest Q)):
  Ok c n L Kb (allTrue .Or (x::rest) env) ρ S Q:=fun A B s rm i f=>
 wpAny_allTrue_Or_cons (wpAny_mono (h A B s rm i f) (fun v1 s1 ⟨B1,S1,ρ1,b,l1,i1,f1,r1,q1,q2⟩=>by
  cases r1;cases v1
  ·exact wpAny_mono (q1 rfl A B1 s1 rm i1 f1) (fun _ _=>Po.up l1) fun _ _ x=>x
  ·exact⟨B1,S1,ρ1,true,l1,i1,f1,rfl,q2 rfl⟩) fun _ _ x=>x)
theorem Dz{t x y:Expr}{pos:Pos}{Q:AV→AJ→AD→Prop}(h:Ok c n L Kb (isTrue t env (eval t env)) ρ S (cR c n L env x y Q)):
  Ok c n L R (eval (.IfExp t x y pos) env) ρ S Q:=fun A B s rm i f=>
 wpAny_IfExp (wpAny_mono (h A B s rm i f) (fun v1 s1 ⟨B1,S1,ρ1,b,l1,i1,f1,r1,q1,q2⟩=>by
  cases r1;cases v1
  ·exact wpAny_mono (q2 rfl A B1 s1 rm i1 f1) (fun _ _=>Po.up l1) fun _ _ x=>x
  ·exact wpAny_mono (q1 rfl A B1 s1 rm i1 f1) (fun _ _=>Po.up l1) fun _ _ x=>x) fun _ _ x=>x)
theorem AE{pos:Pos}{Q:List AV→AJ→AD→Prop}(h:Q [] ρ S):Ok c n L RL (spliced (backTo pos (starEach [] env))) ρ S Q:=fun A B s rm i f=>wpAny_items_nil ⟨B,S,ρ,[],Le.refl _,i,f,.nil,h⟩
theorem AK{pos:Pos}{e:Expr}{rest:List Expr}{Q:List AV→AJ→AD→Prop}
  (h:Ok c n L R (eval e env) ρ S (kL c n L env pos rest Q))
  (he:starEach (e::rest) env=(false,eval e env)::starEach rest env:=by rfl):Ok c n L RL (spliced (backTo pos (starEach (e::rest) env))) ρ S Q:=fun A B s rm i f=>
 wpAny_items_cons (wpAny_mono (h A B s rm i f) (fun v1 s1 ⟨B1,S1,ρ1,x,l1,i1,f1,r1,q1⟩=>wpAny_mono (q1 A B1 s1 rm i1 f1) (fun v2 s2 ⟨B2,S2,ρ2,y,l2,i2,f2,r2,q2⟩=>
  ⟨B2,S2,ρ2,x::y,l1.trans l2,i2,f2,.cons (r1.mono l2) r2,q2⟩) fun _ _ x=>x) fun _ _ x=>x) he
theorem A4.pushT{vs:List Value}{l:List AV}(i:A4 c B S s)(r:RL B vs l):
  let ob:Obj:={cls:=.type "tuple",data:=.seq vs.toArray}
  let a:=s.heap.objs.size
  Le B (put B a ob)∧A4 c (put B a ob) S {s with heap:=s.heap.push ob}∧R (put B a ob) (.ref a) (.tup l):=by
 intro ob a;have hb:B a=none:=i.newB;have hs:S a=none:=i.newS;have i1:A4 c B S {s with heap:=s.heap.push ob}:=i.next (t:=s.toks) (fun _ _ _ e=>Heap.get?_push_of_some _ e);have i2:=i1.freeze hb hs (Heap.get?_push_size _ rfl);exact⟨Le.put hb,i2,.tup (AC ..) rfl rfl (r.mono (Le.put hb))⟩
theorem A3.lt(f:A3 B S L ρ s):∀a∈L.own,a<s.heap.objs.size:=fun a ha=>let ⟨_,_,_,h,_⟩:=f.ow a ha;Heap.lt_size h
theorem A3.push{o:Obj}(f:A3 B S L ρ s):A3 B S L ρ {s with heap:=s.heap.push o}:=
 f.move (Le.refl _) fun a ha=>by
  obtain⟨h1,h2,ob,h3,_⟩:=f.ow a ha;exact⟨h1,h2,(Heap.get?_push_of_some o h3).trans h3.symm⟩
theorem A3.putB{o:Obj}{a:Addr}(f:A3 B S L ρ s)(ha:a∉L.own)(hb:B a=none):A3 (put B a o) S L ρ s:=
 f.move (Le.put hb) fun b h=>⟨by rw[AA _ _ (fun q=>ha (by rw[←q];exact h))];exact(f.ow b h).1,(f.ow b h).2.1,rfl⟩
theorem A3.newA(f:A3 B S L ρ s):s.heap.objs.size∉L.own:=fun h=>Nat.lt_irrefl _ (f.lt _ h)
theorem Ch{elts:List Expr}{k:Nat}{pos:Pos}{Q:AV→AJ→AD→Prop}(h:Ok c n L RL (spliced (backTo pos (starEach elts env))) ρ S (Xb Q)):
  Ok c n L R (eval (.Tuple elts k pos) env) ρ S Q:=fun A B s rm i f=>
 wpAny_Tuple (wpAny_mono (h A B s rm i f) (fun vs s1 ⟨B1,S1,ρ1,xs,l1,i1,f1,r1,hl,q1⟩=>by
  obtain⟨p1,p2,p3⟩:=i1.pushT r1
  refine⟨by rw[r1.length,sizeLine_eq];exact Nn hl,_,S1,ρ1,.tup xs,l1.trans p1,p2,f1.push.putB f1.newA i1.newB,p3,q1⟩) fun _ _ x=>x)
theorem A4.pushL{ob:Obj}{o:AO}(i:A4 c B S s)(h:Is c B ob o)(hf:ob.isFreed=false):A4 c B (put S s.heap.objs.size o) {s with heap:=s.heap.push ob}:=by
 have i1:A4 c B S {s with heap:=s.heap.push ob}:=i.next (t:=s.toks) (fun _ _ _ e=>Heap.get?_push_of_some _ e);refine⟨i1.ok,i1.base,i1.keep,fun a o' e=>?_,i1.gens,i1.os,i1.tk,(AA _ _ (fun q=>i.big q.symm)).trans i1.sys⟩;by_cases q:a=s.heap.objs.size
 ·subst q;rw[AC]at e;cases e;exact⟨i.newB,ob,Heap.get?_push_size _ hf,h⟩
 ·rw[AA _ _ q]at e;exact i1.own a o' e
theorem A3.putS{o:AO}{a:Addr}(f:A3 B S L ρ s)(ha:a∉L.own):A3 B (put S a o) L ρ s:=
 f.move (Le.refl _) fun b h=>⟨(f.ow b h).1,by rw[AA _ _ (fun q=>ha (by rw[←q];exact h))];exact(f.ow b h).2.1,rfl⟩
theorem Aw{elts:List Expr}{pos:Pos}{Q:AV→AJ→AD→Prop}(h:Ok c n L RL (spliced (backTo pos (starEach elts env))) ρ S (Yd Q)):
  Ok c n L R (eval (.List elts pos) env) ρ S Q:=fun A B s rm i f=>
 wpAny_List (wpAny_mono (h A B s rm i f) (fun vs s1 ⟨B1,S1,ρ1,xs,l1,i1,f1,r1,hl,q1⟩=>
  ⟨by rw[r1.length,sizeLine_eq];exact Nn hl,B1,_,ρ1,.ref _,l1,i1.pushL (o:=.list xs) ⟨_,_,rfl,by simpa using r1⟩ rfl,f1.push.putS f1.newA,.ref _,q1 _ i1.newS⟩) fun _ _ x=>x)
variable{ns:Cm}
noncomputable def cv:Const→Option AV
 |.none=>some .none
 |.bool b=>some (.bool b)
 |.int i=>some (.int i)
 |.str x=>some (.str x)
 |_=>none
inductive eO where
 |nm (x:Str)
 |k (c:Const)
 |tp (es:List Expr)
 |no
noncomputable def cK:Expr→eO
 |.Name x _=>.nm x
 |.Constant k _ _=>.k k
 |.Tuple es _ _=>.tp es
 |_=>.no
inductive Uy:Expr→eO→Prop
 |nm (x:Str) (p:Pos):Uy (.Name x p) (.nm x)
 |k (c:Const) (j:Nat) (p:Pos):Uy (.Constant c j p) (.k c)
 |tp (es:List Expr) (j:Nat) (p:Pos):Uy (.Tuple es j p) (.tp es)
 |no (e:Expr):Uy e .no
theorem fO(e:Expr):Uy e (cK e):=by cases e<;>constructor
noncomputable def pv(ρ:AJ)(f:List Expr→Option (List AV))(e:Expr):Option AV:=
 match cK e with
 |.nm x=>AG ρ x
 |.k c=>cv c
 |.tp es=>match f es with
  |some l=>some (.tup l)
  |none=>none
 |.no=>none
noncomputable def TH(f:Expr→Option AV):List Expr→Option (List AV)
 |[]=>some []
 |e::r=>match f e with
  |some v=>match TH f r with
   |some l=>some (v::l)
   |none=>none
  |none=>none
noncomputable def Ol(ρ:AJ):Nat→List Expr→Option (List AV)
 |0,_=>none
 |k+1,es=>TH (pv ρ (Ol ρ k)) es
noncomputable def cJ(ns:Cm)(f:List Expr→Bool)(e:Expr):Bool:=
 match cK e with
 |.nm x=>ns.lookup x==some .local&&!(x==("__debug__":Str))
 |.k _=>true
 |.tp es=>es.length.ble 1000&&f es
 |.no=>false
noncomputable def dI(f:Expr→Bool):List Expr→Bool
 |[]=>true
 |e::r=>f e&&dI f r
noncomputable def aH(ns:Cm):Nat→List Expr→Bool
 |0,_=>false
 |k+1,es=>dI (cJ ns (aH ns k)) es
theorem fG{b:Bool}(h:(!b)=true):b=false:=by cases b with|false=>rfl|true=>cases h
theorem TU{o:Option AV}{r:Option (List AV)}{vs:List AV}(h:(match o with|some v=>(match r with|some l=>some (v::l)|none=>none)|none=>none)=some vs):∃v l,o=some v∧r=some l∧v::l=vs:=by
 cases o with
 |none=>cases h
 |some v=>cases r with
  |none=>cases h
  |some l=>cases h;exact⟨v,l,rfl,rfl,rfl⟩
theorem SF{f:Expr→Option AV}{es:List Expr}:∀{vs:List AV},TH f es=some vs→vs.length=es.length:=by
 induction es with
 |nil=>intro vs h;cases h;rfl
 |cons e r ih=>
  intro vs h;obtain⟨v,l,h1,h2,rfl⟩:=TU h;exact congrArg (·+1) (ih h2)
theorem ZP{j:Const}{m:Nat}{p:Pos}{v:AV}{Q:AV→AJ→AD→Prop}(h:cv j=some v)(q:Q v ρ S):Ok c n L R (eval (.Constant j m p) env) ρ S Q:=by
 cases j with
 |none=>cases h;exact Dl q
 |bool b=>cases h;exact C0 q
 |int b=>cases h;exact AS q
 |str b=>cases h;exact AT q
 |_=>cases h
theorem aF{o:Option (List AV)}{v:AV}(h:(match o with|some l=>some (AV.tup l)|none=>none)=some v):∃l,o=some l∧AV.tup l=v:=by
 cases o with
 |none=>cases h
 |some l=>cases h;exact⟨l,rfl,rfl⟩
theorem Lf(he:Am env L ns):∀(k:Nat) {es:List Expr} {vs:List AV} {pos:Pos} {Q:List AV→AJ→AD→Prop},aH ns k es=true→Ol ρ k es=some vs→Q vs ρ S→Ok c n L RL (spliced (backTo pos (starEach es env))) ρ S Q
 |0,_,_,_,_,h,_,_=>nomatch h
 |k+1,es,vs,pos,Q,h,hv,q=>by
  have at1:∀{e:Expr} {v:AV},cJ ns (aH ns k) e=true→pv ρ (Ol ρ k) e=some v→(∀rest,starEach (e::rest) env=(false,eval e env)::starEach rest env)∧∀{Q:AV→AJ→AD→Prop},Q v ρ S→Ok c n L R (eval e env) ρ S Q:=fun{e v} h1 h2=>by
   have z:=fO e;unfold cJ at h1;unfold pv at h2;revert z h1 h2;generalize cK e=a;intro h1 h2 z
   cases z with
   |nm x p=>
    have h3:=Bool.and_eq_true_iff.mp h1;exact⟨fun _=>rfl,fun q=>AB he (beq_iff_eq.mp h3.1) h2 q (fG h3.2)⟩
   |k j m p=>exact⟨fun _=>rfl,fun q=>ZP h2 q⟩
   |tp es m p=>
    refine⟨fun _=>rfl,fun q=>?_⟩;have h3:=Bool.and_eq_true_iff.mp h1;obtain⟨l,h4,rfl⟩:=aF h2;refine Ch (Lf he k h3.2 h4 ⟨?_,q⟩)
    cases k with
    |zero=>cases h4
    |succ k=>exact rr (SF h4) (Nat.le_of_ble_eq_true h3.1)
   |no=>cases h1
  change dI (cJ ns (aH ns k)) es=true at h
  change TH (pv ρ (Ol ρ k)) es=some vs at hv
  clear Lf
  induction es generalizing vs Q with
  |nil=>cases hv;exact AE q
  |cons e r ih=>
   have h3:=Bool.and_eq_true_iff.mp h;obtain⟨v,l,h1,h2,rfl⟩:=TU hv;obtain⟨a1,a2⟩:=at1 h3.1 h1;exact AK (a2 (ih _ (kC Q v) q h3.2 h2)) (a1 r)
theorem An{es:List Expr}{vs:List AV}{pos:Pos}{ns:Cm}{Q:List AV→AJ→AD→Prop}(he:Am env L ns)(h:aH ns 3 es=true)(hv:Ol ρ 3 es=some vs)(q:Q vs ρ S):Ok c n L RL (spliced (backTo pos (starEach es env))) ρ S Q:=Lf he 3 h hv q
theorem Cv{k:Nat}{x:Str}{p:Pos}{r:List Expr}{v:AV}{vs:List AV}(h:AG ρ x=some v)(h2:Ol ρ (k+1) r=some vs):Ol ρ (k+1) (.Name x p::r)=some (v::vs):=by
 show TH _ _=_;rw[TH];show(match AG ρ x with|some v=>(match Ol ρ (k+1) r with|some l=>some (v::l)|none=>none)|none=>none)=_;exact rr h (rr h2 rfl)
theorem PN{k:Nat}{e:Expr}{r:List Expr}{v:AV}{vs:List AV}(h:pv ρ (Ol ρ k) e=some v)(h2:Ol ρ (k+1) r=some vs):Ol ρ (k+1) (e::r)=some (v::vs):=by
 show TH _ _=_;rw[TH];show(match pv ρ (Ol ρ k) e with|some v=>(match Ol ρ (k+1) r with|some l=>some (v::l)|none=>none)|none=>none)=_;exact rr h (rr h2 rfl)
end
inductive AF where
 |nx|brk|cont
 |ret (v:AV)
inductive RF(B:Ao):Flow→AF→Prop
 |nx:RF B .next .nx
 |brk:RF B .brk .brk
 |cont:RF B .cont .cont
 |ret {v:Value} {x:AV}:R B v x→RF B (.ret v) (.ret x)
set_option tactic.hygienic true in
theorem fN:G5 RF:=⟨fun h r=>by cases r<;>constructor;rename_i r;exact r.mono h,fun h r=>by cases r<;>constructor;rename_i r;exact r.drop h⟩
noncomputable def Kl(_:Ao)(_:Unit)(_:Unit):Prop:=True
theorem rU:G5 Kl:=⟨fun _ _=>trivial,fun _ _=>trivial⟩
section
variable{α β γ δ:Type}{c:Cx}{n:Nat}{B B1:Ao}{S:AD}{L:BU}{ρ:AJ}{rel:Ao→α→β→Prop}{s:Shared}{A:Around}{env:Env}
noncomputable def Sq(c:Cx)(n:Nat)(L:BU)(env:Env)(rest:List Stmt)(Q:AF→AJ→AD→Prop):AF→AJ→AD→Prop
 |.nx,ρ,S=>Ok c n L RF (execs rest env) ρ S Q
 |f,ρ,S=>Q f ρ S
noncomputable abbrev XQ(Q:AF→AJ→AD→Prop):AV→AJ→AD→Prop:=fun x=>Q (.ret x)
noncomputable abbrev fJ{β:Type}(Q:AF→AJ→AD→Prop):β→AJ→AD→Prop:=fun _=>Q .nx
noncomputable abbrev eY{β:Type}(Q:AF→AJ→AD→Prop)(ρ:AJ):β→AD→Prop:=fun _ S=>Q .nx ρ S
structure cM(c:Cx)(n:Nat)(L:BU)(env:Env)(b1 b2:List Stmt)(Q:AF→AJ→AD→Prop)(b:Bool)(ρ:AJ)(S:AD):Prop where
 t:b=true→Ok c n L RF (execs b1 env) ρ S Q
 f:b=false→Ok c n L RF (execs b2 env) ρ S Q
noncomputable abbrev T8(x:Str)(Q:AF→AJ→AD→Prop):AV→AJ→AD→Prop:=fun v ρ S=>Q .nx ((x,v)::ρ) S
noncomputable abbrev et(c:Cx)(n:Nat)(v ov:AV)(Q:AF→AJ→AD→Prop):AV→AJ→AD→Prop:=fun iv ρ S=>Ut c n setItem Kl ov iv v S (eY Q ρ)
noncomputable abbrev fI(c:Cx)(n:Nat)(L:BU)(env:Env)(ix:Expr)(v:AV)(Q:AF→AJ→AD→Prop):AV→AJ→AD→Prop:=fun ov ρ S=>Ok c n L R (eval ix env) ρ S (et c n v ov Q)
noncomputable abbrev ee(c:Cx)(n:Nat)(L:BU)(env:Env)(o ix:Expr)(Q:AF→AJ→AD→Prop):AV→AJ→AD→Prop:=fun v ρ S=>Ok c n L R (eval o env) ρ S (fI c n L env ix v Q)
noncomputable abbrev cQ(c:Cx)(n:Nat)(attr:Str)(v:AV)(Q:AF→AJ→AD→Prop):AV→AJ→AD→Prop:=fun ov ρ S=>Cn c n (fun o v=>setAttr o attr v) Kl ov v S (eY Q ρ)
noncomputable abbrev dj(c:Cx)(n:Nat)(L:BU)(env:Env)(o:Expr)(attr:Str)(Q:AF→AJ→AD→Prop):AV→AJ→AD→Prop:=fun v ρ S=>Ok c n L R (eval o env) ρ S (cQ c n attr v Q)
theorem AQ{Q:AF→AJ→AD→Prop}(h:Q .nx ρ S):Ok c n L RF (execs [] env) ρ S Q:=fun A B s rm i f=>wpAny_execs_nil ⟨B,S,ρ,.nx,Le.refl _,i,f,.nx,h⟩
set_option tactic.hygienic true in
theorem AH{st:Stmt}{rest:List Stmt}{Q:AF→AJ→AD→Prop}(h:Ok c n L RF (exec st env) ρ S (Sq c n L env rest Q)):Ok c n L RF (execs (st::rest) env) ρ S Q:=fun A B s rm i f=>by
 refine rr (execs_cons ..) ?_;refine wpAny_bind (wpAny_mono (h A B s rm i f) ?_ fun _ _ x=>x);rintro v s1 ⟨B1,S1,ρ1,x,l1,i1,f1,r1,q1⟩;cases r1
 ·exact wpAny_mono (q1 A B1 s1 rm i1 f1) (fun _ _=>Po.up l1) fun _ _ x=>x
 ·exact wpAny_pure ⟨B1,S1,ρ1,_,l1,i1,f1,.brk,q1⟩
 ·exact wpAny_pure ⟨B1,S1,ρ1,_,l1,i1,f1,.cont,q1⟩
 ·rename_i r;exact wpAny_pure ⟨B1,S1,ρ1,_,l1,i1,f1,.ret r,q1⟩
theorem QW{e:Expr}{pos:Pos}{Q:AF→AJ→AD→Prop}(h:Ok c n L R (eval e env) ρ S (XQ Q)):Ok c n L RF (exec (.Return (some e) pos) env) ρ S Q:=fun A B s rm i f=>
 wpAny_Return_some (wpAny_mono (h A B s rm i f) (fun v s1 ⟨B1,S1,ρ1,x,l1,i1,f1,r1,q1⟩=>⟨B1,S1,ρ1,.ret x,l1,i1,f1,.ret r1,q1⟩) fun _ _ x=>x)
theorem Av{e:Expr}{pos:Pos}{ns:Cm}{Q:AF→AJ→AD→Prop}(he:Am env L ns)(h:Ok c n L R (eval e env) ρ S (fJ Q))
  (hs:swapsWith e none pos.line env=pure false:=by rfl):Ok c n L RF (exec (.Expr e pos) env) ρ S Q:=fun A B s rm i f=>
 wpAny_Expr_any (wpAny_mono (h A B s rm i f) (fun v s1 ⟨B1,S1,ρ1,x,l1,i1,f1,r1,q1⟩=>⟨B1,S1,ρ1,.nx,l1,i1,f1,.nx,q1⟩) fun _ _ x=>x) (by unfold interactive;refine rr he.kind ?_;rfl) hs
theorem Xk{t:Expr}{b1 b2:List Stmt}{pos:Pos}{Q:AF→AJ→AD→Prop}
  (h:Ok c n L Kb (isTrue t env (eval t env)) ρ S (cM c n L env b1 b2 Q)):
  Ok c n L RF (exec (.If t b1 b2 pos) env) ρ S Q:=fun A B s rm i f=>
 wpAny_If (wpAny_mono (h A B s rm i f) (fun v1 s1 ⟨B1,S1,ρ1,b,l1,i1,f1,r1,q1,q2⟩=>by
  cases r1;cases v1
  ·exact wpAny_mono (q2 rfl A B1 s1 rm i1 f1) (fun _ _=>Po.up l1) fun _ _ x=>x
  ·exact wpAny_mono (q1 rfl A B1 s1 rm i1 f1) (fun _ _=>Po.up l1) fun _ _ x=>x) fun _ _ x=>x)
theorem A4.loc{h':Heap}{t:Nat}{a:Addr}(i:A4 c B S s)(f:A3 B S L ρ s)(ha:a∈L.own)(hs:Heap.SameBut a s.heap h')(ht:s.toks≤t:=by first|exact Nat.le_refl _|exact Nat.le_succ _|exact Nat.le_add_right _ _|lia):A4 c B S {s with heap:=h',toks:=t}:=
 i.next (ht:=ht) fun b o hx e=>(hs.2 b (fun q=>by subst q;exact hx.elim (fun x=>x (f.ow _ ha).1) (fun x=>x (f.ow _ ha).2.1))).trans e
theorem AN{α:Type}(x y:Str)(a:α)(l:List (Str×α)):AG ((x,a)::l) y=if x=y then some a else AG l y:=rfl
theorem JX{x:Str}{v:Value}{av:AV}{ns:Cm}{Q:Unit→Shared→Prop}(he:Am env L ns)(hl:ns.lookup x=some .local)(i:A4 c B S s)(f:A3 B S L ρ s)(r:R B v av)
  (h:∀h' t,A4 c B S {s with heap:=h',toks:=t}→A3 B S L ((x,av)::ρ) {s with heap:=h',toks:=t}→Q () {s with heap:=h',toks:=t}):
  wpAny (model c.prog c.w) A (storeName env x v) Q Fa s:=by
 have f0:=f;obtain⟨nd,ow,cl,m,hm,hr⟩:=f;refine wpAny_storeName_local ((he.kof x).trans hl) (by exact rr he.loc hm) (fun h' hn hs=>?_) (by refine rr he.kind ?_;rfl);rw[he.loc]at hn hs
 have hc:∀p∈L.cs,h'.get? p.2=s.heap.get? p.2:=fun p hp=>hs.2 _ fun q=>by
  have:=List.nodup_cons.mp nd;exact this.1 (q▸List.mem_map_of_mem hp)
 refine h h' _ (i.loc f0 (.head _) hs) ⟨nd,fun a ha=>?_,fun p hp=>?_,_,hn,fun y av' e=>?_⟩
 ·obtain⟨h1,h2,o,h3,h4⟩:=ow a ha;refine⟨h1,h2,?_⟩;by_cases q:a=L.L
  ·subst q;obtain⟨o',es,ep,ho,hd,_⟩:=hn;exact⟨o',ho,⟨fun _ vs n e=>(by rw[hd]at e;cases e),fun _ vs e=>(by rw[hd]at e;cases e)⟩⟩
  ·exact⟨o,(hs.2 a q).trans h3,h4⟩
 ·obtain⟨o,w,h3,h4⟩:=cl p hp;exact⟨o,w,(hc p hp).trans h3,h4⟩
 ·rw[AN]at e;by_cases q:x=y
  ·subst q;rw[if_pos rfl]at e;cases e;exact⟨fun _=>⟨v,if_pos rfl,r⟩,fun a z=>by rw[he.lc x hl]at z;cases z⟩
  ·rw[if_neg q]at e;obtain⟨k1,k2⟩:=(hr y av' e).move (Le.refl _) hc;exact⟨fun z=>let ⟨v',e1,e2⟩:=k1 z;⟨v',(if_neg (fun z=>q z.symm)).trans e1,e2⟩,k2⟩
theorem Pe{cs:List (Str×Addr)}(nd:(cs.map (·.2)).Nodup){x y:Str}{a:Addr}(h1:AG cs x=some a)(h2:AG cs y=some a):x=y:=by
 have m1:=look_mem h1;have m2:=look_mem h2;clear h1 h2
 induction cs with
 |nil=>cases m1
 |cons p l ih=>
  rw[List.map_cons,List.nodup_cons]at nd;rcases List.mem_cons.mp m1 with e1|e1<;>rcases List.mem_cons.mp m2 with e2|e2
  ·exact congrArg Prod.fst (e1.trans e2.symm)
  ·exact absurd (List.mem_map_of_mem (f:=fun x:Str×Addr=>x.2) e2) (by rw[←e1]at nd;exact nd.1)
  ·exact absurd (List.mem_map_of_mem (f:=fun x:Str×Addr=>x.2) e1) (by rw[←e2]at nd;exact nd.1)
  ·exact ih nd.2 e1 e2
theorem NK{x:Str}{v:Value}{av:AV}{ns:Cm}{Q:Unit→Shared→Prop}(he:Am env L ns)(hl:ns.lookup x=some .cell)(i:A4 c B S s)(f:A3 B S L ρ s)(r:R B v av)
  (h:∀h' t,A4 c B S {s with heap:=h',toks:=t}→A3 B S L ((x,av)::ρ) {s with heap:=h',toks:=t}→Q () {s with heap:=h',toks:=t}):
  wpAny (model c.prog c.w) A (storeName env x v) Q Fa s:=by
 have f0:=f;obtain⟨nd,ow,cl,m,hm,hr⟩:=f;obtain⟨h1,h2⟩:=he.cl x (.inl hl)
 cases e:AG L.cs x with
 |none=>exact absurd e h2
 |some a=>
  have ha:a∈L.own:=.tail _ (List.mem_map_of_mem (f:=fun x:Str×Addr=>x.2) (look_mem e));obtain⟨o,w,e1,e2⟩:=cl (x,a) (look_mem e);refine wpAny_storeName_cell he.kind ((he.kof x).trans hl) (h1.trans e) ⟨o,e1,e2⟩ fun h' hv hs=>?_
  have neL:L.L≠a:=fun q=>by
   have:=List.nodup_cons.mp nd;exact this.1 (q▸List.mem_map_of_mem (f:=fun x:Str×Addr=>x.2) (look_mem e))
  obtain⟨o',ho',hd'⟩:=hv;refine h h' _ (i.loc f0 ha hs) ⟨nd,fun b hb=>?_,fun p hp=>?_,m,hm.sameBut hs neL,fun y av' e'=>?_⟩
  ·obtain⟨k1,k2,ob,k3,k4⟩:=ow b hb;refine⟨k1,k2,?_⟩;by_cases q:b=a
   ·subst q;exact⟨o',ho',⟨fun _ vs n e=>(by rw[hd']at e;cases e),fun _ vs e=>(by rw[hd']at e;cases e)⟩⟩
   ·exact⟨ob,(hs.2 b q).trans k3,k4⟩
  ·by_cases q:p.2=a
   ·exact⟨o',_,by rw[q];exact ho',hd'⟩
   ·obtain⟨ob,w,k3,k4⟩:=cl p hp;exact⟨ob,w,(hs.2 _ q).trans k3,k4⟩
  ·rw[AN]at e';by_cases q:x=y
   ·subst q;rw[if_pos rfl]at e';cases e';exact⟨fun z=>by rw[e]at z;(cases z),fun b z=>by rw[e]at z;cases z;exact⟨o',v,ho',hd',r⟩⟩
   ·rw[if_neg q]at e';obtain⟨k1,k2⟩:=hr y av' e';refine⟨k1,fun b z=>?_⟩;obtain⟨ob,w,q1,q2,q3⟩:=k2 b z;exact⟨ob,w,(hs.2 _ (fun z'=>by subst z';exact q (Pe (List.nodup_cons.mp nd).2 e z))).trans q1,q2,q3⟩
theorem LB{x:Str}{p pos:Pos}{e:Expr}{ns:Cm}{Q:AF→AJ→AD→Prop}(he:Am env L ns)(hl:ns.lookup x=some .local)(h:Ok c n L R (eval e env) ρ S (T8 x Q))
  (hs:swapsWith e (some (.Name x p)) pos.line env=pure false:=by rfl):Ok c n L RF (exec (.Assign [.Name x p] e pos) env) ρ S Q:=fun A B s rm i f=>
 wpAny_Assign_Name (wpAny_mono (h A B s rm i f) (fun v s1 ⟨B1,S1,ρ1,av,l1,i1,f1,r1,q1⟩=>JX he hl i1 f1 r1 fun h' t i2 f2=>⟨B1,S1,_,.nx,l1,i2,f2,.nx,q1⟩) fun _ _ x=>x) hs
theorem RC{x:Str}{p pos:Pos}{e:Expr}{ns:Cm}{Q:AF→AJ→AD→Prop}(he:Am env L ns)(hl:ns.lookup x=some .cell)(h:Ok c n L R (eval e env) ρ S (T8 x Q))
  (hs:swapsWith e (some (.Name x p)) pos.line env=pure false:=by rfl):Ok c n L RF (exec (.Assign [.Name x p] e pos) env) ρ S Q:=fun A B s rm i f=>
 wpAny_Assign_Name (wpAny_mono (h A B s rm i f) (fun v s1 ⟨B1,S1,ρ1,av,l1,i1,f1,r1,q1⟩=>NK he hl i1 f1 r1 fun h' t i2 f2=>⟨B1,S1,_,.nx,l1,i2,f2,.nx,q1⟩) fun _ _ x=>x) hs
theorem Di{o ix e:Expr}{p pos:Pos}{Q:AF→AJ→AD→Prop}
  (h:Ok c n L R (eval e env) ρ S (ee c n L env o ix Q))
  (hs:swapsWith e (some (.Subscript o ix p)) pos.line env=pure false:=by rfl):Ok c n L RF (exec (.Assign [.Subscript o ix p] e pos) env) ρ S Q:=fun A B s rm i f=>
 wpAny_Assign_Subscript (wpAny_mono (h A B s rm i f) (fun v1 s1 ⟨B1,S1,ρ1,x,l1,i1,f1,r1,q1⟩=>wpAny_mono (q1 A B1 s1 rm i1 f1) (fun v2 s2 ⟨B2,S2,ρ2,y,l2,i2,f2,r2,q2⟩=>
  wpAny_mono (q2 A B2 s2 rm i2 f2) (fun v3 s3 ⟨B3,S3,ρ3,z,l3,i3,f3,r3,q3⟩=>
   wpAny_mono (Et rU rm i3 f3 fun B' l'=>q3 B' v2 v3 v1 (r2.mono (l3.trans l')) (r3.mono l') (r1.mono (l2.trans (l3.trans l'))))
    (fun _ s4 ⟨B4,S4,_,l4,i4,f4,_,q4⟩=>⟨B4,S4,ρ3,.nx,l1.trans (l2.trans (l3.trans l4)),i4,f4,.nx,q4⟩) fun _ _ x=>x) fun _ _ x=>x) fun _ _ x=>x) fun _ _ x=>x) hs
theorem BL{o e:Expr}{attr:Str}{p pos:Pos}{Q:AF→AJ→AD→Prop}
  (h:Ok c n L R (eval e env) ρ S (dj c n L env o attr Q))
  (hs:swapsWith e (some (.Attribute o attr p)) pos.line env=pure false:=by rfl):Ok c n L RF (exec (.Assign [.Attribute o attr p] e pos) env) ρ S Q:=fun A B s rm i f=>
 plainObj_wpAny_Assign_Attribute (wpAny_mono (h A B s rm i f) (fun v1 s1 ⟨B1,S1,ρ1,x,l1,i1,f1,r1,q1⟩=>wpAny_mono (q1 A B1 s1 rm i1 f1) (fun v2 s2 ⟨B2,S2,ρ2,y,l2,i2,f2,r2,q2⟩=>
   wpAny_mono (Et rU rm i2 f2 fun B' l'=>q2 B' v2 v1 (r2.mono l') (r1.mono (l2.trans l')))
    (fun _ s4 ⟨B4,S4,_,l4,i4,f4,_,q4⟩=>⟨B4,S4,ρ2,.nx,l1.trans (l2.trans l4),i4,f4,.nx,q4⟩) fun _ _ x=>x) fun _ _ x=>x) fun _ _ x=>x) hs
noncomputable def AM(c:Cx)(n:Nat)(f:Value)(xs:List AV)(S:AD)(Q:AV→AD→Prop):Prop:=ag c n (fun vs=>call f vs) R xs S Q
noncomputable def Jp(c:Cx)(f:Value):Prop:=∀h:Heap,c.K.In h→∃k,(k=Keeper.frame∨k=Keeper.machine∨k=Keeper.boundFrame)∧Looks (model c.prog c.w) h (keeperOf f) k
theorem Ko{a:Addr}(h:keepIn c.K (.ref a)=true):Jp c (.ref a):=fun _ X=>keeps_K h _ X
theorem Jb(id:String):Jp c (.builtin id):=fun _ _=>⟨.machine,.inr (.inl rfl),Looks.now⟩
theorem QQ(id:String):Jp c (.type id):=fun _ _=>⟨.machine,.inr (.inl rfl),Looks.now⟩
noncomputable abbrev c7(c:Cx)(n:Nat)(f:Value)(fx:List AV)(Q:AV→AJ→AD→Prop):List AV→AJ→AD→Prop:=fun xs ρ S=>AM c n f (fx++xs) S (kZ Q ρ)
noncomputable abbrev cI(c:Cx)(n:Nat)(f:Value)(Q:AV→AJ→AD→Prop):List AV→AJ→AD→Prop:=fun xs ρ S=>AM c n f xs S (kZ Q ρ)
noncomputable abbrev Ue(c:Cx)(n:Nat)(f:Value)(a:AV)(Q:AV→AJ→AD→Prop):List AV→AJ→AD→Prop:=fun xs ρ S=>AM c n f (a::xs) S (kZ Q ρ)
theorem GN{f:Value}{first:List Value}{fx:List AV}{args:List Expr}{pos:Pos}{Q:AV→AJ→AD→Prop}(hk:Jp c f)(rm:DO A n)(i:A4 c B S s)(fr:A3 B S L ρ s)(hf:RL B first fx)
  (h:Ok c n L RL (spliced (backTo pos (starEach args env))) ρ S (c7 c n f fx Q))
  (hplain:(backTo pos (starEach args env)).any (·.1)=false):
  wpAny (model c.prog c.w) A (callWith pos f first (backTo pos (starEach args env)) []) (Po c B L R Q) Fa s:=by
 refine callWith_of (P:=c.K.In) (by refine rr hplain ?_;rfl) hk ?_
 have key:wpAny (model c.prog c.w) A (spliced (backTo pos (starEach args env))) (fun vs s1=>c.K.In s1.heap∧wpAny (model c.prog c.w) A (call f (first++vs)) (Po c B L R Q) Fa s1) Fa s:=
  wpAny_mono (h A B s rm i fr) (fun vs s1 ⟨B1,S1,ρ1,xs,l1,i1,f1,r1,q1⟩=>⟨i1.K,CV rR rm i1 f1 l1 fun B' l'=>q1 B' _ ((hf.mono (l1.trans l')).append (r1.mono l'))⟩) fun _ _ x=>x
 cases e:backTo pos (starEach args env)with
 |nil=>
  rw[e]at key;unfold evalArgs;show wpAny _ _ (spliced [] >>= _) _ _ _;refine wpAny_bind (wpAny_mono key (fun vs s' h'=>wpAny_bind (wpAny_pure (wpAny_holding (wpAny_bind (wpAny_pure (wpAny_bind (wpAny_pure (wpAny_pure h')))))))) fun _ _ x=>x)
 |cons a r=>
  rw[e]at key hplain;obtain⟨b,t⟩:=a;rw[List.any_cons]at hplain;cases b
  ·exact evalArgs_plain key
  ·cases hplain
noncomputable def R8:AV→Option Value
 |.ref a=>some (.ref a)
 |.bi m=>some (.builtin m)
 |.ty m=>some (.type m)
 |_=>none
theorem Ny{v f:Value}{x:AV}(r:R B v x):R8 x=some f→v=f:=
 R.casesOn (motive_1:=fun v x _=>R8 x=some f→v=f) r (fun e=>nomatch e) (fun _ e=>nomatch e) (fun _ _ e=>nomatch e) (fun _ _ e=>nomatch e) (fun _ _ e=>nomatch e) (fun _ e=>Option.some.inj e) (fun _ e=>Option.some.inj e) (fun _ e=>Option.some.inj e)
  (fun _ _ _ _ e=>nomatch e) (fun _ _ _ _ _ _ e=>nomatch e) (fun _ e=>nomatch e)
inductive bR(c:Cx)(n:Nat)(L:BU)(env:Env)(pos:Pos)(args:List Expr)(Q:AV→AJ→AD→Prop)(fv:AV)(ρ:AJ)(S:AD):Prop
 |mk (f:Value) (e:R8 fv=some f) (k:Jp c f) (h:Ok c n L RL (spliced (backTo pos (starEach args env))) ρ S (cI c n f Q))
theorem NR{x:Str}{p pos:Pos}{args:List Expr}{Q:AV→AJ→AD→Prop}
  (h:Ok c n L R (eval (.Name x p) env) ρ S (bR c n L env pos args Q))
  (hplain:(backTo pos (starEach args env)).any (·.1)=false:=by kernel_rfl):
  Ok c n L R (eval (.Call (.Name x p) args [] pos) env) ρ S Q:=fun A B s rm i f=>
 Call_Name rfl (wpAny_mono (h A B s rm i f) (fun v s1 ⟨B1,S1,ρ1,x,l1,i1,f1,r1,fv,e1,hk,q1⟩=>by
  obtain rfl:=Ny r1 e1
  exact wpAny_mono (GN (first:=[]) (fx:=[]) hk rm i1 f1 .nil q1 hplain) (fun _ _=>Po.up l1) fun _ _ x=>x) fun _ _ x=>x)
structure BF(K:Frag)(C:Addr)(name:Str)(f:Addr):Prop where
 ga:findIn K (.ref C) "__getattribute__"=some (some (.builtin "object.__getattribute__"))
 gt:findIn K (.ref C) "__getattr__"=some none
 fi:findIn K (.ref C) name=some (some (.ref f))
 ty:typeIn K (.ref f)=some (.type "function")
 kp:keepIn K (.ref f)=true
inductive Wg(B:Ao)(s:Shared)(a C d:Addr)(l:List (Str×AV)):Prop
 |mk (od:Obj) (I:InstAt s.heap a (instObj C d) C (some od)) (hod:s.heap.get? d=some od) (es:Array DictEntry) (ep:Nat) (e4:od.data= .dict es ep) (ek:StrKeys es) (e6:es.size≤l.length) (e5:RN B es l)
theorem Li{a C d:Addr}{l:List (Str×AV)}(i:A4 c B S s)(h1:S a=some (.inst C d))(h2:S d=some (.ns l)):
  Wg B s a C d l:=by
 obtain⟨_,ob,e1,e2⟩:=i.own _ _ h1;obtain⟨_,od,e3,es,ep,e4,e5,e6,e7⟩:=i.own _ _ h2;cases e2;exact⟨od,⟨e1,rfl,rfl,e3⟩,e3,es,ep,e4,e5,e6,e7⟩
theorem K6{od:Obj}{es:Array DictEntry}{ep:Nat}(e:od.data= .dict es ep)(hk:StrKeys es)(name:Str):lookIn name od=some (nsFind es name):=by
 unfold lookIn nsFind PySem.findBy;refine rr e ?_;dsimp only
 have hany:es.toList.any (·.refKey)=false:=by
  rw[List.any_eq_false];intro e he;obtain⟨n,t,h⟩:=hk e (by simpa using he);simp[DictEntry.refKey,h]
 refine rr hany (rl Array.find?_toList ?_);cases es.toList.find? (fun e=>e.key.isStr name)<;>rfl
inductive XR(c:Cx)(n:Nat)(L:BU)(env:Env)(C:Addr)(name:Str)(f:Addr)(pos:Pos)(args:List Expr)(Q:AV→AJ→AD→Prop)(ov:AV)(ρ:AJ)(S:AD):Prop
 |mk (a d:Addr) (l:List (Str×AV)) (e:ov= .ref a) (h1:S a=some (.inst C d)) (h2:S d=some (.ns l)) (h3:AG l name=none) (h:Ok c n L RL (spliced (backTo pos (starEach args env))) ρ S (Ue c n (.ref f) (.ref a) Q))
theorem IS{o:Expr}{name:Str}{apos pos:Pos}{args:List Expr}{Q:AV→AJ→AD→Prop}{C f:Addr}(hm:BF c.K C name f)
  (h:Ok c n L R (eval o env) ρ S (XR c n L env C name f pos args Q))
  (he:∀pl:Sem Bool,pl=(do return (←importBound o env).getD true)→eval (.Call (.Attribute o name apos) args [] pos) env=(do
   let ov←eval o env
   standAt apos.atName
   let (f,first)←holding [ov] (getMethod ov name pl)
   callWith pos f first (backTo pos (starEach args env)) (backToKw pos (keywordEach [] env))):=by intro _ e;subst e;rfl)
  (hplain:(backTo pos (starEach args env)).any (·.1)=false:=by kernel_rfl):
  Ok c n L R (eval (.Call (.Attribute o name apos) args [] pos) env) ρ S Q:=fun A B s rm i fr=>
 methodCall_KW (wpAny_mono (h A B s rm i fr) (fun v s1 ⟨B1,S1,ρ1,x,l1,i1,f1,r1,a,d,l,e1,h1,h2,h3,q1⟩=>by
  subst e1;cases r1.inv;obtain⟨od,I,hod,es,ep,e4,ek,_,e5⟩:=Li i1 h1 h2
  have hsh:shadowIn (some od) name=some false:=by
   show(lookIn name od).map (·.isSome)=_;rewrite[K6 e4 ek];refine rr ((e5 name).2 h3) ?_;rfl
  exact method_fn i1.K I hm.ga hm.gt hm.fi hm.ty hsh (wpAny_mono (GN (first:=[.ref a]) (fx:=[.ref a]) (Ko hm.kp) rm i1 f1 (.cons (.ref a) .nil) q1 hplain) (fun _ _=>Po.up l1) fun _ _ x=>x)) fun _ _ x=>x) (he _ rfl)
structure C5(K:Frag)(C:Addr)(name:Str):Prop where
 ga:findIn K (.ref C) "__getattribute__"=some (some (.builtin "object.__getattribute__"))
 fi:findIn K (.ref C) name=some none
 hd:(clsIn K C).any (·.hasDict)=true
noncomputable def nb:AV→Bool
 |.bi _=>false
 |_=>true
theorem UE{v:Value}{x:AV}(r:R B v x):nb x=true→handedIn v=true:=
 R.casesOn (motive_1:=fun v x _=>nb x=true→handedIn v=true) r (fun _=>rfl) (fun _ _=>rfl) (fun _ _ _=>rfl) (fun _ _ _=>rfl) (fun _ _ _=>rfl) (fun _ _=>rfl) (fun _ h=>nomatch h) (fun _ _=>rfl) (fun _ _ _ _ _=>rfl) (fun _ _ _ _ _ _ _=>rfl) (fun _ _=>rfl)
inductive W8(C:Addr)(name:Str)(Q:AV→AJ→AD→Prop)(ov:AV)(ρ:AJ)(S:AD):Prop
 |mk (a d:Addr) (l:List (Str×AV)) (x:AV) (e:ov= .ref a) (h1:S a=some (.inst C d)) (h2:S d=some (.ns l)) (h3:AG l name=some x) (hb:nb x=true) (h:Q x ρ S)
theorem A1{o:Expr}{name:Str}{pos:Pos}{Q:AV→AJ→AD→Prop}{C:Addr}(hm:C5 c.K C name)
  (h:Ok c n L R (eval o env) ρ S (W8 C name Q))
  (he:eval (.Attribute o name pos) env=(do
   let ov←eval o env
   standAt pos.atName
   let r←holding [ov] (getAttr ov name true)
   letTemporaryGo o ov r
   pure r):=by with_unfolding_all rfl):
  Ok c n L R (eval (.Attribute o name pos) env) ρ S Q:=fun A B s rm i fr=>
 Attribute_any_ (wpAny_mono (h A B s rm i fr) (fun v s1 ⟨B1,S1,ρ1,x,l1,i1,f1,r1,a,d,l,x',e1,h1,h2,h3,hb,q1⟩=>by
  subst e1;cases r1.inv;obtain⟨od,I,hod,es,ep,e4,ek,_,e5⟩:=Li i1 h1 h2;obtain⟨v,e6,r6⟩:=(e5 name).1 _ h3;obtain⟨cd,hc,hdd⟩:=any_some hm.hd
  have hfo:findObj c.K C (some od) name=some (.value v):=by
   unfold findObj PySem.W.ownOf;simp only[hc,hm.fi,Option.bind_some,hdd,if_true,K6 e4 ek,e6]
  exact get_value i1.K I hm.ga hfo (UE r6 hb) ⟨B1,S1,ρ1,x',l1,i1.toks,f1.toks,r6,q1⟩) fun _ _ x=>x) he
end
theorem Dd{α:Type}{n:Str}{v:α}:∀{l:List (Str×α)},(l.map (·.1)).Nodup→(n,v)∈l→l.lookup n=some v
 |(n',v')::l,hnd,hm=>by
  rw[List.map_cons,List.nodup_cons]at hnd;rcases List.mem_cons.mp hm with e|hm
  ·cases e;simp
  ·have hne:n≠n':=fun e=>hnd.1 (e▸List.mem_map.mpr ⟨(n,v),hm,rfl⟩);refine rr List.lookup_cons ?_;simp only[beq_false_of_ne hne];exact Dd hnd.2 hm
theorem BW{α:Type}{n:Str}{v:α}:∀{l:List (Str×α)},l.lookup n=some v→(n,v)∈l
 |(n',v')::l,e=>by
  rw[List.lookup_cons]at e;by_cases q:n=n'
  ·subst q;simp at e;subst e;exact .head _
  ·simp only[beq_false_of_ne q]at e;exact .tail _ (BW e)
theorem LW{B:Ao}{x:Str}{av:AV}:∀{names:List Str} {vs:List Value} {xs:List AV},RL B vs xs→AG (names.zip xs) x=some av→∃v,(x,v)∈names.zip vs∧R B v av
 |[],_,_,_,e=>nomatch e
 |_::_,_,_,.nil,e=>nomatch e
 |a::l,_,_,.cons h t,e=>by
  rw[List.zip_cons_cons,AN]at e;by_cases q:a=x
  ·rw[if_pos q]at e;cases e;subst q;exact⟨_,.head _,h⟩
  ·rw[if_neg q]at e;obtain⟨v,hm,hr⟩:=LW t e;exact⟨v,.tail _ hm,hr⟩
theorem Mx{B:Ao}{names:List Str}{vs:List Value}{xs:List AV}(hn:names.Nodup)(hl:names.length≤vs.length)(r:RL B vs xs){x:Str}{av:AV}(e:AG (names.zip xs) x=some av):
  ∃v,(names.zip vs).reverse.lookup x=some v∧R B v av:=by
 obtain⟨v,hm,hr⟩:=LW r e;refine⟨v,?_,hr⟩
 have hk:((names.zip vs).reverse.map (·.1)).Nodup:=by
  refine rr List.map_reverse ?_;rewrite[(List.reverse_perm _).nodup_iff];refine rr (List.map_fst_zip hl) ?_;exact hn
 exact Dd hk (List.mem_reverse.mpr hm)
noncomputable def Fin(Q:AV→AD→Prop):AF→AJ→AD→Prop
 |.ret v,_,S=>Q v S
 |_,_,S=>Q .none S
section
variable{α β γ δ:Type}{c:Cx}{n:Nat}{B B1:Ao}{S:AD}{L:BU}{ρ:AJ}{rel:Ao→α→β→Prop}{s:Shared}{A:Around}{env:Env}
theorem DO.lt{A:Around}(h:DO A (n+1)):A.depth<recursionLimit:=by have:=h.2.1;unfold recursionLimit;exact ZT this
theorem DO.deeper{A:Around}{env:Env}(h:DO A (n+1)):DO (A.deeper env) n:=⟨h.1,by have:=h.2.1;show A.depth+1+3*n<1000;exact Tj this,by have:=h.2.2;show A.units+3+20*n<9900;exact XO this⟩
noncomputable def Fp(c:Cx)(n:Nat)(f:Value)(xs:List AV)(S:AD)(Q:AV→AD→Prop):Prop:=∀B vs,RL B vs xs→∀A s,DO A n→A4 c B S s→
 codeAny (model c.prog c.w) A (.call f ⟨vs,[]⟩) (fun r s'=>match r with
  |.ok (.ret v)=>Pb c B R Q v s'
  |.ok _=>False
  |.error _=>False) s
theorem Fp.call{f:Value}{xs:List AV}{Q:AV→AD→Prop}(h:Fp c n f xs S Q):AM c n f xs S Q:=fun B vs r A s rm i=>wpAny_call (h B vs r A s rm i)
set_option tactic.hygienic true in
theorem Qf{a:Addr}{oc:Value}{od:Option Addr}{osl:Array (Option Value)}{fd:FuncData}{body:List Stmt}{names:List Str}{xs dx:List AV}{dv:List Value}{ns:Cm}{Q:AV→AD→Prop}
  (ho:c.K.lookup a=some ⟨oc,od,.func fd,osl⟩) (hbody:fd.body= .stmts body) (hcd:codeIn c.K fd.code fd.qualname=true) (hns:fd.scope.names=ns)
  (hg:fd.globals=mainGlobals) (hbl:fd.builtins=builtinsNs) (hk:fd.scope.kind= .function) (hco:fd.scope.isCoroutine=false) (hge:fd.scope.isGenerator=false)
  (hcell:∀x∈ns,x.2≠.cell) (hfree:∀x,ns.lookup x≠some .free)
  (hbind:∀(s:Shared) (vs:List Value),vs.length=xs.length→c.K.In s.heap→BindsTo s fd ⟨vs,[]⟩ (names.zip (vs++dv))) (hdv:∀B,RL B dv dx)
  (hnd:names.Nodup) (hlen:names.length=xs.length+dx.length) (hloc:(names.all fun x=>ns.lookup x==some .local)=true)
  (h:∀L env,L.cs=[]→Am env L ns→Ok c n L RF (execs body env) (names.zip (xs++dx)) S (Fin Q)):Fp c (n+1) (.ref a) xs S Q:=by
 intro B vs r A s rm i;have hK:=i.K;have rl:=r.length;have hlen2:names.length≤(vs++dv).length:=by exact rr List.length_append (rr rl (rr ((hdv B).length) (rr hlen (Nat.le_refl _))))
 have hcl:∀x,ns.lookup x≠some .cell:=fun x e=>hcell (x,.cell) (BW e) rfl
 refine codeAny_call_def (fd:=fd) (body:=body) rm.lt (hK _ _ ho) rfl (i.ok.lim.keeps i.gkeep) (codeRec_of hK hcd) hbody (hbind s vs rl hK) (by exact rr hns hcell)
  (fun x hx=>?_) (fun h₀ hn hk₀=>?_) hco hge hk
 ·refine rr hns ?_;have:x.1∈names:=(List.of_mem_zip (a:=x.1) (b:=x.2) hx).1;exact beq_iff_eq.mp (List.all_eq_true.mp hloc _ this)
 ·have i0:A4 c B S {s with heap:=h₀,toks:=s.toks+(names.zip (vs++dv)).length}:=i.next fun a o _ e=>hk₀ a o e
  have he:Am (callEnv fd s.heap.objs.size a) ⟨s.heap.objs.size,[]⟩ ns:=
   ⟨hk,rfl,hg,hbl,hns,fun x hx=>hx.elim (fun e=>absurd e (hcl x)) (fun e=>absurd e (hfree x)),fun _ _=>rfl⟩
  obtain⟨oL,es,ep,hoL,hdL,hr⟩:=hn
  have f0:A3 B S ⟨s.heap.objs.size,[]⟩ (names.zip (xs++dx)) {s with heap:=h₀,toks:=s.toks+(names.zip (vs++dv)).length}:=by
   refine⟨by simp[BU.own],fun b hb=>?_,fun _ hp=>(nomatch hp),_,⟨oL,es,ep,hoL,hdL,hr⟩,fun x av e=>⟨fun _=>Mx hnd hlen2 (r.append (hdv B)) e,fun a z=>nomatch z⟩⟩;obtain rfl:b=s.heap.objs.size:=by simpa[BU.own]using hb
   exact⟨i.newB,i.newS,oL,hoL,⟨fun _ vs n e=>(by rw[hdL]at e;cases e),fun _ vs e=>(by rw[hdL]at e;cases e)⟩⟩
  refine wpAny_mono (h _ _ rfl he _ B _ rm.deeper i0 f0) ?_ fun _ _ x=>x.elim;rintro fl s' ⟨B',S',ρ',b,l,i',f',r',q⟩;cases r'
  ·exact⟨B',S',_,l,i',.none,q⟩
  ·exact⟨B',S',_,l,i',.none,q⟩
  ·exact⟨B',S',_,l,i',.none,q⟩
  ·rename_i r';exact⟨B',S',_,l,i',r',q⟩
end
section
variable{α β γ δ:Type}{c:Cx}{n:Nat}{B B1:Ao}{S:AD}{L:BU}{ρ:AJ}{rel:Ao→α→β→Prop}{s:Shared}{A:Around}{env:Env}
theorem KI{l r1 r2:Expr}{o1 o2:CmpOp}{pos:Pos}{Q:AV→AJ→AD→Prop}
  (h:Ok c n L R (eval l env) ρ S (fun x ρ1 S1=>Ok c n L R (eval r1 env) ρ1 S1 (fun y ρ2 S2=>Cn c n (compareOp o1) R x y S2 (fun z S3=>∃b,z= .bool b∧
   (b=false→Q (.bool false) ρ2 S3)∧(b=true→Ok c n L R (eval r2 env) ρ2 S3 (fun w ρ4 S4=>Cn c n (compareOp o2) R y w S4 (fun u S5=>Q u ρ4 S5)))))))
  (h1:behindInMarks o1 r1=false:=by with_unfolding_all rfl) (h2:behindInMarks o2 r2=false:=by with_unfolding_all rfl)
  (he:eval (.Compare l [o1,o2] [r1,r2] pos) env=(do compareChain pos (←eval l env) [o1,o2] [eval r1 env,eval r2 env]):=by with_unfolding_all rfl):
  Ok c n L R (eval (.Compare l [o1,o2] [r1,r2] pos) env) ρ S Q:=fun A B s rm i f=>by
 refine rr he ?_;refine wpAny_bind (wpAny_mono (h A B s rm i f) ?_ fun _ _ x=>x);rintro v1 s1 ⟨B1,S1,ρ1,x,l1,i1,fr1,r1,q1⟩;refine wpAny_bind (wpAny_holding (wpAny_mono (q1 A B1 s1 rm i1 fr1) ?_ fun _ _ x=>x));rintro v2 s2 ⟨B2,S2,ρ2,y,l2,i2,fr2,r2,q2⟩;refine wpAny_bind (wpAny_standAt (wpAny_bind (wpAny_holding (wpAny_mono (Et rR rm i2 fr2 fun B' l'=>q2 B' v1 v2 (r1.mono (l2.trans l')) (r2.mono l')) ?_ fun _ _ x=>x))));rintro v3 s3 ⟨B3,S3,z,l3,i3,fr3,r3,b,e3,q3,q4⟩;subst e3;refine wpAny_bind (wpAny_release' (wpAny_bind (wpAny_holding (C4 (S:=S3) r3 rfl ?_))));cases b
 ·exact wpAny_pure ⟨B3,S3,_,_,(l1.trans l2).trans l3,i3,fr3,r3,q3 rfl⟩
 ·refine wpAny_bind (wpAny_holding (wpAny_mono (q4 rfl A B3 s3 rm i3 fr3) ?_ fun _ _ x=>x));rintro v4 s4 ⟨B4,S4,ρ4,w,l4,i4,fr4,r4,q5⟩;refine wpAny_bind (wpAny_standAt (wpAny_operate' (CV rR rm i4 fr4 ((l1.trans l2).trans (l3.trans l4)) fun B' l'=>q5 B' v2 v4 (r2.mono (l3.trans (l4.trans l'))) (r4.mono l'))))
theorem Q9{l r1 r2:Expr}{o1 o2:CmpOp}{pos:Pos}{whole:Sem Value}{Q:Bool→AJ→AD→Prop}
  (h:Ok c n L R (eval l env) ρ S (fun x ρ1 S1=>Ok c n L R (eval r1 env) ρ1 S1 (fun y ρ2 S2=>Cn c n (compareOp o1) R x y S2 (fun z S3=>∃b,z= .bool b∧
   (b=false→Q false ρ2 S3)∧(b=true→Ok c n L R (eval r2 env) ρ2 S3 (fun w ρ4 S4=>Cn c n (compareOp o2) R y w S4 (fun u S5=>∃b,u= .bool b∧Q b ρ4 S5)))))))
  (he:isTrue (.Compare l [o1,o2] [r1,r2] pos) env whole=(do testChain pos (←eval l env) [o1,o2] [eval r1 env,eval r2 env]):=by with_unfolding_all rfl):
  Ok c n L Kb (isTrue (.Compare l [o1,o2] [r1,r2] pos) env whole) ρ S Q:=fun A B s rm i f=>by
 refine rr he ?_;refine wpAny_bind (wpAny_mono (h A B s rm i f) ?_ fun _ _ x=>x);rintro v1 s1 ⟨B1,S1,ρ1,x,l1,i1,fr1,r1,q1⟩;refine wpAny_bind (wpAny_holding (wpAny_mono (q1 A B1 s1 rm i1 fr1) ?_ fun _ _ x=>x));rintro v2 s2 ⟨B2,S2,ρ2,y,l2,i2,fr2,r2,q2⟩;refine wpAny_bind (wpAny_standAt (wpAny_bind (wpAny_holding (wpAny_mono (Et rR rm i2 fr2 fun B' l'=>q2 B' v1 v2 (r1.mono (l2.trans l')) (r2.mono l')) ?_ fun _ _ x=>x))));rintro v3 s3 ⟨B3,S3,z,l3,i3,fr3,r3,b,e3,q3,q4⟩;subst e3;refine wpAny_bind (wpAny_release' (wpAny_bind (wpAny_holding (C4 (S:=S3) r3 rfl ?_))));cases b
 ·exact wpAny_pure ⟨B3,S3,_,_,(l1.trans l2).trans l3,i3,fr3,rfl,q3 rfl⟩
 ·refine wpAny_bind (wpAny_holding (wpAny_mono (q4 rfl A B3 s3 rm i3 fr3) ?_ fun _ _ x=>x));rintro v4 s4 ⟨B4,S4,ρ4,w,l4,i4,fr4,r4,q5⟩;refine wpAny_bind (wpAny_standAt (wpAny_bind (wpAny_operate' (wpAny_mono (Et rR rm i4 fr4 fun B' l'=>q5 B' v2 v4 (r2.mono (l3.trans (l4.trans l'))) (r4.mono l')) ?_ fun _ _ x=>x))));rintro v5 s5 ⟨B5,S5,z,l5,i5,fr5,r5,b,e5,q6⟩;subst e5;exact wpAny_holding (C4 (S:=S5) r5 rfl ⟨B5,S5,_,b,((l1.trans l2).trans (l3.trans l4)).trans l5,i5,fr5,rfl,q6⟩)
theorem MY{pos:Pos}{op:BoolOp}{x:Expr}{Q:AV→AJ→AD→Prop}(h:Ok c n L R (eval x env) ρ S Q):Ok c n L R (boolOp pos op (evalEach [x] env)) ρ S Q:=h
theorem Q5{pos:Pos}{x y:Expr}{rest:List Expr}{Q:AV→AJ→AD→Prop}(h:Ok c n L R (eval x env) ρ S (fun v ρ1 S1=>∃b,cN S1 v=some b∧(b=true→Q v ρ1 S1)∧
  (b=false→Ok c n L R (boolOp pos .Or (evalEach (y::rest) env)) ρ1 S1 Q))):Ok c n L R (boolOp pos .Or (evalEach (x::y::rest) env)) ρ S Q:=fun A B s rm i f=>by
 show wpAny _ _ (do let v←eval x env;standAt pos;let t←holding [v] (truthy v);match BoolOp.Or,t with|.And,false|.Or,true=>pure v|_,_=>boolOp pos .Or (evalEach (y::rest) env)) _ _ _;refine wpAny_bind (wpAny_mono (h A B s rm i f) ?_ fun _ _ x=>x);rintro v1 s1 ⟨B1,S1,ρ1,x,l1,i1,fr1,r1,b,e1,q1,q2⟩;refine wpAny_bind (wpAny_standAt (wpAny_bind (wpAny_holding (C4 r1 e1 ?_))));cases b
 ·exact wpAny_mono (q2 rfl A B1 s1 rm i1 fr1) (fun _ _=>Po.up l1) fun _ _ x=>x
 ·exact wpAny_pure ⟨B1,S1,ρ1,x,l1,i1,fr1,r1,q1 rfl⟩
theorem N9{pos:Pos}{x y:Expr}{rest:List Expr}{Q:AV→AJ→AD→Prop}(h:Ok c n L R (eval x env) ρ S (fun v ρ1 S1=>∃b,cN S1 v=some b∧(b=false→Q v ρ1 S1)∧
  (b=true→Ok c n L R (boolOp pos .And (evalEach (y::rest) env)) ρ1 S1 Q))):Ok c n L R (boolOp pos .And (evalEach (x::y::rest) env)) ρ S Q:=fun A B s rm i f=>by
 show wpAny _ _ (do let v←eval x env;standAt pos;let t←holding [v] (truthy v);match BoolOp.And,t with|.And,false|.Or,true=>pure v|_,_=>boolOp pos .And (evalEach (y::rest) env)) _ _ _;refine wpAny_bind (wpAny_mono (h A B s rm i f) ?_ fun _ _ x=>x);rintro v1 s1 ⟨B1,S1,ρ1,x,l1,i1,fr1,r1,b,e1,q1,q2⟩;refine wpAny_bind (wpAny_standAt (wpAny_bind (wpAny_holding (C4 r1 e1 ?_))));cases b
 ·exact wpAny_pure ⟨B1,S1,ρ1,x,l1,i1,fr1,r1,q1 rfl⟩
 ·exact wpAny_mono (q2 rfl A B1 s1 rm i1 fr1) (fun _ _=>Po.up l1) fun _ _ x=>x
theorem Md{pos:Pos}{op:BoolOp}{xs:List Expr}{Q:AV→AJ→AD→Prop}(h:Ok c n L R (boolOp pos op (evalEach xs env)) ρ S Q):Ok c n L R (eval (.BoolOp op xs pos) env) ρ S Q:=h
theorem DW{v sl:Expr}{pos:Pos}{Q:AV→AJ→AD→Prop}
  (h:Ok c n L R (eval v env) ρ S (kO c n L env sl (subscriptTail v sl) Q)):
  Ok c n L R (eval (.Subscript v sl pos) env) ρ S Q:=fun A B s rm i f=>
 Subscript_ (wpAny_mono (h A B s rm i f) (fun v1 s1 ⟨B1,S1,ρ1,x,l1,i1,f1,r1,q1⟩=>wpAny_mono (q1 A B1 s1 rm i1 f1) (fun v2 s2 ⟨B2,S2,ρ2,y,l2,i2,f2,r2,q2⟩=>
  CV rR rm i2 f2 (l1.trans l2) fun B' l'=>q2 B' v1 v2 (r1.mono (l2.trans l')) (r2.mono l')) fun _ _ x=>x) fun _ _ x=>x)
noncomputable def QS(S:AD):AV→String→Prop
 |.str _,T=>T="str"
 |.tup _,T=>T="tuple"
 |.ref a,T=>(∃l,S a=some (.list l)∧T="list")∨(∃l,S a=some (.wlist l)∧T="list")∨(∃l,S a=some (.dict l)∧T="dict")
 |_,_=>False
theorem A4.ty{v:Value}{x:AV}{T:String}(i:A4 c B S s)(r:R B v x)(h:QS S x T):s.TypeIs v T:=by
 have z:=r.inv
 cases x with
 |str y=>subst h;obtain⟨t⟩:=z;exact typeIs_str ..
 |ref a=>
  cases z;rcases h with⟨l,h1,rfl⟩|⟨l,h1,rfl⟩|⟨l,h1,rfl⟩<;>obtain⟨_,ob,e1,e2⟩:=i.own _ _ h1
  ·obtain⟨vs,m,rfl,_⟩:=e2;exact⟨_,e1,rfl⟩
  ·exact⟨_,e1,e2.1⟩
  ·obtain⟨kvs,⟨es,ep,hx,_⟩,_⟩:=e2;exact⟨_,e1,hx.1⟩
 |tup l=>subst h;obtain⟨e1,e2,_,_⟩:=z;exact⟨_,i.keep _ _ e1,e2⟩
 |_=>exact h.elim
theorem CJ{T id:String}{v sl:Expr}{x y:AV}{Q:AV→AD→Prop}(hx:QS S x T)(hl:typeLookup (.type T) "__getitem__"=pure (some (.builtin id)))
  (h:Cn c n getItem R x y S Q) (ops:Value→Value→List Value) (hs:∀o i,subscripted sl false o i=operate (ops o i) (getItem o i)):Cn c n (subscriptTail v sl) R x y S Q:=
 fun B o ix r1 r2 A s rm i=>tail_any (i.ty r1 hx) hl (h B o ix r1 r2 A s rm i) (hs o ix)
theorem CE{v sl:Expr}{x:Str}{y:AV}{Q:AV→AD→Prop}(h:Cn c n getItem R (.str x) y S Q)(ops:Value→Value→List Value)(hs:∀o i,subscripted sl false o i=operate (ops o i) (getItem o i)):
  Cn c n (subscriptTail v sl) R (.str x) y S Q:=CJ rfl PyProof.Rows.slot_str_getitem.lookup h ops hs
end
section
variable{α β γ δ:Type}{c:Cx}{n:Nat}{B B1:Ao}{S:AD}{L:BU}{ρ:AJ}{rel:Ao→α→β→Prop}{s:Shared}{A:Around}{env:Env}{Q:AV→AD→Prop}
theorem AU{v:Value}{x:AV}(i:A4 c B S s)(r:R B v x)(h:Q x S):Pb c B R Q v s:=⟨B,S,x,Le.refl _,i,r,h⟩
section
variable{i j:Int}
theorem BE(h:Q (.int (i+j)) S):Cn c n (binaryOp .Add) R (.int i) (.int j) S Q:=Hn rfl rfl fun B t1 t2 A s rm iv=>by exact PyProof.Rows.add_int (AU iv.toks (.int _ _) h)
theorem Ff(h:Q (.int (i-j)) S):Cn c n (binaryOp .Sub) R (.int i) (.int j) S Q:=Hn rfl rfl fun B t1 t2 A s rm iv=>by exact PyProof.Rows.sub_int (AU iv.toks (.int _ _) h)
theorem FV(h:Q (.int (i*j)) S)(hm:IntMulOk i j):Cn c n (binaryOp .Mult) R (.int i) (.int j) S Q:=Hn rfl rfl fun B t1 t2 A s rm iv=>by exact PyProof.Rows.mul_int (AU iv.toks (.int _ _) h) hm
theorem Gw(hj:j≠0)(h:Q (.int (i.fmod j)) S):Cn c n (binaryOp .Mod) R (.int i) (.int j) S Q:=Hn rfl rfl fun B t1 t2 A s rm iv=>by exact PyProof.Rows.mod_int hj (AU iv.toks (.int _ _) h)
theorem HL(h:Q (.bool (decide (i<j))) S):Cn c n (compareOp .Lt) R (.int i) (.int j) S Q:=Hn rfl rfl fun B t1 t2 A s rm iv=>by exact PyProof.Rows.lt_int (AU iv (.bool _) h)
theorem UH(h:Q (.bool (decide (i≤j))) S):Cn c n (compareOp .LtE) R (.int i) (.int j) S Q:=Hn rfl rfl fun B t1 t2 A s rm iv=>by exact PyProof.Rows.le_int (AU iv (.bool _) h)
theorem Ls(h:Q (.bool (decide (j<i))) S):Cn c n (compareOp .Gt) R (.int i) (.int j) S Q:=Hn rfl rfl fun B t1 t2 A s rm iv=>by exact PyProof.Rows.gt_int (AU iv (.bool _) h)
theorem T6(h:Q (.bool (decide (j≤i))) S):Cn c n (compareOp .GtE) R (.int i) (.int j) S Q:=Hn rfl rfl fun B t1 t2 A s rm iv=>by exact PyProof.Rows.ge_int (AU iv (.bool _) h)
theorem J6(h:Q (.bool (decide (i=j))) S):Cn c n (compareOp .Eq) R (.int i) (.int j) S Q:=Hn rfl rfl fun B t1 t2 A s rm iv=>by exact PyProof.Rows.eq_int (AU iv (.bool _) h)
theorem Ul(h:Q (.bool (!decide (i=j))) S):Cn c n (compareOp .NotEq) R (.int i) (.int j) S Q:=Hn rfl rfl fun B t1 t2 A s rm iv=>by exact PyProof.Rows.ne_int (AU iv (.bool _) h)
theorem Db(h:Q (.int (-i)) S):eD c n (unaryOp .USub) R (.int i) S Q:=eg rfl fun B t1 A s rm iv=>by exact PyProof.Rows.neg_int (AU iv.toks (.int _ _) h)
end
section
variable{x y:Str}
theorem AZ(h:Q (.bool (decide (x=y))) S):Cn c n (compareOp .Eq) R (.str x) (.str y) S Q:=Hn rfl rfl fun B t1 t2 A s rm iv=>by exact PyProof.Rows.eq_str (AU iv (.bool _) (by exact h))
theorem Bl(h:Q (.bool (!decide (x=y))) S):Cn c n (compareOp .NotEq) R (.str x) (.str y) S Q:=Hn rfl rfl fun B t1 t2 A s rm iv=>by exact PyProof.Rows.ne_str (AU iv (.bool _) (by exact h))
theorem IM(h:Q (.bool (!decide (y.cps.toList<x.cps.toList))) S):Cn c n (compareOp .LtE) R (.str x) (.str y) S Q:=Hn rfl rfl fun B t1 t2 A s rm iv=>by exact PySem.P.le_str (AU iv (.bool _) h)
theorem Aq(h:Q (.str (x++y)) S)(hs:x.length+y.length≤sizeLine):Cn c n (binaryOp .Add) R (.str x) (.str y) S Q:=Hn rfl rfl fun B t1 t2 A s rm iv=>by exact BO (PyProof.Rows.add_str (fun t k hk=>AU (s:={s with toks:=k}) (iv.toks (ht:=hk)) (.str _ _) h) hs)
noncomputable def PP(y x:Str):Bool:=!(Builtin.Str.occurrences x y 0 x.length 1).isEmpty
theorem Nf(h:Q (.bool (PP y x)) S):Cn c n (compareOp .In) R (.str y) (.str x) S Q:=Hn rfl rfl fun B t1 t2 A s rm iv=>by exact PyProof.Rows.in_str (AU iv (.bool _) h)
theorem IK(h:Q (.bool (!PP y x)) S):Cn c n (compareOp .NotIn) R (.str y) (.str x) S Q:=Hn rfl rfl fun B t1 t2 A s rm iv=>by exact notIn_str (AU iv (.bool _) h)
theorem DH{i:Int}{k:Nat}(h0:seqIndex? i x.length=some k){d:Nat}(hc:x.cps[k]?=some d)(hf:(decide (i< -(2^63:Int))||decide (i≥2^63))=false)(h:Q (.str ⟨#[d]⟩) S):
  Cn c n getItem R (.str x) (.int i) S Q:=Hn rfl rfl fun B t1 t2 A s rm iv=>by
 exact PyProof.Rows.getItem_str hf (by exact rr h0 hc) (AU iv.toks (.str _ _) h)
end
noncomputable def RV:AV→Bool
 |.none=>true
 |_=>false
theorem N7{v:Value}{x:AV}(r:R B v x):(v==Value.none)=RV x:=
 R.casesOn (motive_1:=fun v x _=>(v==Value.none)=RV x) r rfl (fun _=>rfl) (fun _ _=>rfl) (fun _ _=>rfl) (fun _ _=>rfl) (fun _=>rfl) (fun _=>rfl) (fun _=>rfl) (fun _ _ _ _=>rfl) (fun _ _ _ _ _ _=>rfl) (fun _=>rfl)
theorem E5{x:AV}(h:Q (.bool (RV x)) S):Cn c n (compareOp .Is) R x .none S Q:=Rh rfl fun B v t2 r1 A s rm iv=>by exact is_none (AU iv (by exact rr (N7 r1) (.bool _)) h)
theorem De{x:AV}(h:Q (.bool (!RV x)) S):Cn c n (compareOp .IsNot) R x .none S Q:=Rh rfl fun B v t2 r1 A s rm iv=>by exact isNot_none (AU iv (by exact rr (N7 r1) (.bool _)) h)
theorem SY{y:Str}(h:Q (.bool true) S):Cn c n (compareOp .NotEq) R .none (.str y) S Q:=Hn rfl rfl fun B t1 t2 A s rm iv=>by exact PySem.EqNone.ne_none_str (AU iv (.bool _) h)
theorem Ji{a:Addr}{l:List AV}(i:A4 c B S s)(r:R B (.ref a) (.tup l)):∃vs,IsTup s.heap a vs.toArray∧RL B vs l:=by
 obtain⟨e1,e2,e3,r⟩:=r.tup_inv;exact⟨_,⟨_,i.keep _ _ e1,e2,_,e3⟩,r⟩
theorem BS{a:Addr}{l:List AV}(i:A4 c B S s)(h:S a=some (.list l)):B a=none∧∃vs m,s.heap.get? a=some ⟨.type "list",none,.seq vs m,#[]⟩∧RL B vs.toList l:=by
 obtain⟨hb,ob,e1,vs,m,rfl,r⟩:=i.own _ _ h;exact⟨hb,vs,m,e1,r⟩
theorem Dn{a:Addr}{l:List AV}(i:A4 c B S s)(h:S a=some (.list l)∨S a=some (.wlist l)):B a=none∧∃vs,s.heap.IsList a vs∧RL B vs.toList l:=by
 rcases h with h|h
 ·obtain⟨hb,vs,m,e1,r⟩:=BS i h;exact⟨hb,vs,⟨_,e1,rfl,m,rfl⟩,r⟩
 ·obtain⟨hb,ob,e1,c1,vs,m,e2,r⟩:=i.own _ _ h;exact⟨hb,vs,⟨_,e1,c1,m,e2⟩,r⟩
theorem Qu{l:List AV}{i:Int}{k:Nat}{x:AV}(h0:seqIndex? i l.length=some k)(hx:l[k]?=some x)(hlo:-(2^63)≤i)(hhi:i<2^63)(h:Q x S):Cn c n getItem R (.tup l) (.int i) S Q:=Rh rfl fun B v t2 r1 A s rm iv=>by
 obtain⟨a,rfl⟩:=r1.tupA;obtain⟨vs,ht,r⟩:=Ji iv r1;obtain⟨v,hv,rv⟩:=r.get hx;exact PyProof.Rows.getItem_tuple ht hlo hhi (by exact rr List.size_toArray (rr r.length h0)) (by simpa using hv) (AU iv rv h)
theorem Dr{a:Addr}{l:List AV}{i:Int}{x:AV}(ha:S a=some (.list l)∨S a=some (.wlist l))(h0:0≤i)(hf:i<2^63)(hx:l[i.toNat]?=some x)(h:Q x S):Cn c n getItem R (.ref a) (.int i) S Q:=Hn rfl rfl fun B t1 t2 A s rm iv=>by
 obtain⟨_,vs,hl,r⟩:=Dn iv ha;obtain⟨v,hv,rv⟩:=r.get hx;exact wpAny_getItem_list hl h0 hf (by simpa using hv) (AU iv rv h)
theorem GT{a:Addr}{l:List AV}{x:AV}(ha:S a=some (.list l)∨S a=some (.wlist l))(hx:l.getLast?=some x)(h:Q x S):Cn c n getItem R (.ref a) (.int (-1)) S Q:=Hn rfl rfl fun B t1 t2 A s rm iv=>by
 obtain⟨_,vs,hl,r⟩:=Dn iv ha;have hx':l[l.length-1]?=some x:=by exact rl List.getLast?_eq_getElem? hx
 have hne:l.length≠0:=fun q=>by rw[List.length_eq_zero_iff.mp q]at hx;cases hx
 obtain⟨v,hv,rv⟩:=r.get hx';have hsz:vs.size=l.length:=by exact rl Array.length_toList r.length
 refine wpAny_getItem_list_neg hl (by decide) (by exact az hne hsz) (by decide) ?_ (AU iv rv h);have:((-1:Int)+vs.size).toNat=l.length-1:=by exact bB hne hsz
 refine rr this ?_;simpa using hv
theorem A4.upd{a:Addr}{o:AO}{h':Heap}{t:Nat}(i:A4 c B S s)(ha:S a≠none)(hs:Heap.SameBut a s.heap h')(ho:∃ob,h'.get? a=some ob∧Is c B ob o)(ht:s.toks≤t:=by first|exact Nat.le_refl _|exact Nat.le_succ _|exact Nat.le_add_right _ _|lia):A4 c B (put S a o) {s with heap:=h',toks:=t}:=by
 have hb:B a=none:=by
  cases e:S a with
  |none=>exact absurd e ha
  |some o=>exact(i.own _ _ e).1
 refine⟨i.ok,i.base,fun b o' e=>?_,fun b o' e=>?_,i.gens,i.os,Nat.lt_of_lt_of_le i.tk ht,(AA _ _ (fun q=>ha (by exact rl q i.sys))).trans i.sys⟩
 ·exact(hs.2 b (fun q=>by subst q;rw[hb]at e;cases e)).trans (i.keep b o' e)
 ·by_cases q:b=a
  ·subst q;rw[AC]at e;cases e;exact⟨hb,ho⟩
  ·rw[AA _ _ q]at e;obtain⟨h1,ob,h2,h3⟩:=i.own b o' e;exact⟨h1,ob,(hs.2 b q).trans h2,h3⟩
theorem RL.set{B:Ao}{vs:List Value}{xs:List AV}{v:Value}{x:AV}(r:RL B vs xs)(rx:R B v x)(i:Nat):RL B (vs.set i v) (xs.set i x):=by
 refine RL.ind (P:=fun vs xs=>∀i,RL B (vs.set i v) (xs.set i x)) (fun _=>.nil) (fun w y vs xs a r ih i=>?_) r i
 cases i with
 |zero=>exact .cons rx r
 |succ i=>exact .cons a (ih i)
theorem N8{a:Addr}{l:List AV}{i:Int}{x:AV}{Q:Unit→AD→Prop}(ha:S a=some (.list l)∨S a=some (.wlist l))(h0:0≤i)(hf:i<2^63)(hn:i<l.length)(h:Q () (put S a (.wlist (l.set i.toNat x)))):
  Ut c n setItem Kl (.ref a) (.int i) x S Q:=eR rfl rfl fun B t1 t2 u r3 A s rm iv=>by
 obtain⟨hb,vs,hl,r⟩:=Dn iv ha;have hsz:vs.size=l.length:=by exact rl Array.length_toList r.length
 refine wpAny_setItem_list hl h0 hf (by exact dL hn hsz) fun h' hl' hs=>?_;obtain⟨ob,e1,c1,m,e2⟩:=hl';refine⟨B,put S a (.wlist (l.set i.toNat x)),(),Le.refl _,iv.upd (t:=s.toks) (o:=.wlist (l.set i.toNat x)) (fun q=>by rcases ha with z|z<;>rw[z]at q<;>cases q) hs ⟨ob,e1,c1,_,m,e2,?_⟩,trivial,h⟩;refine rr Array.toList_setIfInBounds ?_;exact r.set r3 _
theorem L6{a:Addr}{l l':List AV}{vs vs':Array Value}{m:Nat}{f:Array Value→Array Value}{t:Nat}(i:A4 c B S s)(ha:S a=some (.list l))(e1:s.heap.get? a=some ⟨.type "list",none,.seq vs m,#[]⟩)
  (hf:f vs=vs') (r:RL B vs'.toList l') (ht:s.toks≤t:=by first|exact Nat.le_refl _|exact Nat.le_succ _|exact Nat.le_add_right _ _|lia):A4 c B (put S a (.list l')) {s with heap:=s.heap.update a (Obj.mapSeq f),toks:=t}:=by
 refine i.upd (ht:=ht) (fun q=>by rw[ha]at q;cases q) (Heap.SameBut.update ..) ⟨_,Heap.get?_update_self _ e1 rfl,?_⟩;subst hf;exact⟨_,_,rfl,r⟩
theorem Ar{a:Addr}{l:List AV}{x:AV}(ha:S a=some (.list l))(hn:l.length≤10000)(h:Q .none (put S a (.list (l++[x])))):AM c n (.builtin "list.append") [.ref a,x] S Q:=Tk rfl fun B t1 w r2 A s rm iv=>by
 obtain⟨hb,vs,m,e1,r⟩:=BS iv ha;have hsz:vs.size=l.length:=by exact rl Array.length_toList r.length
 refine call_meets F.slot_list_append ⟨_,e1,rfl⟩ F.entry_list_append (F.args_list_append_2 _ _) (PySem.list_append a vs m _ (by exact rr hsz (rr sizeLine_eq (ST hn)))) ⟨e1,?_⟩;exact⟨B,put S a (.list (l++[x])),.none,Le.refl _,L6 iv ha e1 rfl (by exact rr Array.toList_push (r.append (.cons r2 .nil))),.none,h⟩
theorem RL.erase{B:Ao}{vs:List Value}{xs:List AV}(r:RL B vs xs)(i:Nat):RL B (vs.eraseIdx i) (xs.eraseIdx i):=by
 refine RL.ind (P:=fun vs xs=>∀i,RL B (vs.eraseIdx i) (xs.eraseIdx i)) (fun _=>.nil) (fun w y vs xs a r ih i=>?_) r i
 cases i with
 |zero=>exact r
 |succ i=>exact .cons a (ih i)
theorem Qa{a:Addr}{l:List AV}{x:AV}(ha:S a=some (.list (l++[x])))(hn:l.length≤10000)(h:Q x (put S a (.list l))):AM c n (.builtin "list.pop") [.ref a] S Q:=HR rfl fun B t1 A s rm iv=>by
 obtain⟨hb,vs,m,e1,r⟩:=BS iv ha;have hsz:vs.size=l.length+1:=by refine rl Array.length_toList (rr r.length ?_);simp
 have hx:(l++[x])[l.length]?=some x:=by simp
 obtain⟨v,hv,rv⟩:=r.get hx;refine call_meets F.slot_list_pop ⟨_,e1,rfl⟩ F.entry_list_pop (F.args_list_pop_1 _) (PySem.MeetsSeq.list_pop_last a vs m v (by refine rr hsz ?_;simpa using hv) (by exact rr hsz (rr sizeLine_eq (dF hn)))) ⟨e1,?_⟩;refine⟨B,put S a (.list l),x,Le.refl _,L6 (vs':=vs.eraseIdxIfInBounds l.length) iv ha e1 (by refine rr hsz ?_;rfl) ?_,rv,h⟩;have:=r.erase l.length;refine rr Array.toList_eraseIdxIfInBounds ?_;rw[List.eraseIdx_append_of_length_le (Nat.le_refl _)]at this
 simpa using this
theorem Dc{a b:Addr}{l k:List AV}(ha:S a=some (.list l))(hb:S b=some (.list k))(hn:l.length+k.length≤10000)(h:∀d,S d=none→Q (.ref d) (put S d (.list (l++k)))):
  Cn c n (binaryOp .Add) R (.ref a) (.ref b) S Q:=Hn rfl rfl fun B t1 t2 A s rm iv=>by
 obtain⟨_,vs,m,e1,r⟩:=BS iv ha;obtain⟨_,ws,m2,e2,r'⟩:=BS iv hb;have h1:vs.size=l.length:=by exact rl Array.length_toList r.length
 have h2:ws.size=k.length:=by exact rl Array.length_toList r'.length
 exact PySem.P.add_list e1 e2 ⟨B,_,.ref _,Le.refl _,iv.pushL (o:=.list (l++k)) ⟨_,_,rfl,by exact rr Array.toList_append (r.append r')⟩ rfl,.ref _,h _ iv.newS⟩ (by exact rr h1 (rr h2 (rr sizeLine_eq (YX hn))))
theorem DA{a:Addr}{l:List AV}(ha:S a=some (.list l)∨S a=some (.wlist l))(hn:l.length≤10000000)(h:Q (.int l.length) S):AM c n (.builtin "len") [.ref a] S Q:=HR rfl fun B t1 A s rm iv=>by
 obtain⟨_,vs,hl,r⟩:=Dn iv ha;have h1:vs.size=l.length:=by exact rl Array.length_toList r.length
 exact PyProof.Rows.len_list hl (by lia) (AU iv.toks (by exact rr h1 (.int _ _)) h)
theorem OQ{x:Str}(hn:x.length≤10000000)(h:Q (.int x.length) S):AM c n (.builtin "len") [.str x] S Q:=HR rfl fun B t1 A s rm iv=>by
 exact PyProof.Rows.len_str (by lia) (AU iv.toks (.int _ _) h)
end
section
variable{α β γ δ:Type}{c:Cx}{n:Nat}{B B0 B1:Ao}{S:AD}{L:BU}{ρ:AJ}{rel:Ao→α→β→Prop}{s:Shared}{A:Around}{env:Env}
noncomputable def Va(c:Cx)(n:Nat)(L:BU)(rel:Ao→α→β→Prop)(t:Sem α)(B:Ao)(ρ:AJ)(S:AD)(Q:β→AJ→AD→Prop):Prop:=
 ∀A s,DO A n→A4 c B S s→A3 B S L ρ s→wpAny (model c.prog c.w) A t (Po c B L rel Q) Fa s
theorem A3.drop{I:Addr}(f:A3 B S L ρ s)(h:G4 B I):A3 (del B I) S L ρ s:=by
 refine⟨f.nd,fun a ha=>?_,f.cl,let ⟨m,x,y⟩:=f.ex;⟨m,x,fun z av e=>?_⟩⟩
 ·obtain⟨h1,h2⟩:=f.ow a ha;refine⟨?_,h2⟩;by_cases q:a=I
  ·subst q;exact Ew ..
  ·exact rr (CX _ q) h1
 ·obtain⟨k1,k2⟩:=y z av e;exact⟨fun q=>let ⟨v,p1,p2⟩:=k1 q;⟨v,p1,p2.drop h⟩,fun a q=>let ⟨o,v,p1,p2,p3⟩:=k2 a q;⟨o,v,p1,p2,p3.drop h⟩⟩
theorem JF{t:Sem α}{I:Addr}{oI:Obj}{Q:β→AJ→AD→Prop}(hr:G5 rel)(rm:DO A n)(i:A4 c B S s)(f:A3 B S L ρ s)(hb:B I=none)(hs:S I=none)(hL:I∉L.own)(ho:s.heap.get? I=some oI)(hn:NT oI)
  (h:Va c n L rel t (put B I oI) ρ S Q):
  wpAny (model c.prog c.w) A t (Pk c B L rel Q I oI) Fa s:=by
 refine wpAny_mono (h A s rm (i.freeze hb hs ho) (f.putB hL hb)) ?_ fun _ _ x=>x;rintro v s' ⟨B',S',ρ',b,le,i',f',r,q⟩;have hI:B' I=some oI:=le _ _ (AC ..);have nt:G4 B' I:=fun ob e=>by rw[hI]at e;cases e;exact hn
 refine⟨del B' I,S',ρ',b,Le.del hb le,i'.thaw (i.base_none hb) nt,f'.drop nt,⟨Ew ..,?_,i'.keep _ _ hI⟩,hr.drop nt r,q⟩
 cases e:S' I with
 |none=>rfl
 |some o=>have:=(i'.own _ _ e).1;rw[hI]at this;cases this
noncomputable def Qk(c:Cx)(n:Nat)(L:BU)(env:Env)(target:Expr)(x:AV)(ρ:AJ)(S:AD)(Q:AJ→AD→Prop):Prop:=
 ∀B v,R B v x→Va c n L Kl (assign target env v) B ρ S (fun _=>Q)
theorem BA{x:Str}{pos:Pos}{av:AV}{ns:Cm}{Q:AJ→AD→Prop}(he:Am env L ns)(hl:ns.lookup x=some .local)(h:Q ((x,av)::ρ) S):Qk c n L env (.Name x pos) av ρ S Q:=
 fun B v r A s rm i f=>wpAny_assign_Name (JX he hl i f r fun h' t i2 f2=>⟨B,S,_,(),Le.refl _,i2,f2,trivial,h⟩)
noncomputable def Km(c:Cx)(n:Nat)(L:BU)(ts:List (Value→Sem Unit))(xs:List AV)(ρ:AJ)(S:AD)(Q:AJ→AD→Prop):Prop:=
 ∀B vs,RL B vs xs→Va c n L Kl (assignInOrder ts vs) B ρ S (fun _=>Q)
noncomputable abbrev ea(c:Cx)(n:Nat)(L:BU)(env:Env)(t:Expr)(Q:AF→AJ→AD→Prop):AV→AJ→AD→Prop:=fun x ρ S=>Qk c n L env t x ρ S (Q .nx)
inductive eh(c:Cx)(n:Nat)(L:BU)(env:Env)(names:List Str)(Q:AF→AJ→AD→Prop)(x:AV)(ρ:AJ)(S:AD):Prop
 |mk (xs:List AV) (e:x= .tup xs) (hl:xs.length=names.length) (h:Km c n L (names.reverse.map fun n=>bindName env n) xs.reverse ρ S (Q .nx))
theorem BR{Q:AJ→AD→Prop}(h:Q ρ S):Km c n L [] [] ρ S Q:=fun B vs r A s rm i f=>by
 exact rr r.nil_inv (wpAny_pure ⟨B,S,ρ,(),Le.refl _,i,f,trivial,h⟩)
theorem Nt{t:Value→Sem Unit}{ts:List (Value→Sem Unit)}{x:AV}{xs:List AV}{Q:AJ→AD→Prop}
  (h:∀B v,R B v x→Va c n L Kl (t v) B ρ S (fun _ ρ1 S1=>Km c n L ts xs ρ1 S1 Q)):Km c n L (t::ts) (x::xs) ρ S Q:=fun B vs r A s rm i f=>by
 obtain⟨v,ws,rfl,r1,r2⟩:=r.cons_inv;show wpAny _ _ (do holding _ (t _);assignInOrder ts _) _ _ _;refine wpAny_bind (wpAny_holding (wpAny_mono (h B _ r1 A s rm i f) ?_ fun _ _ x=>x));rintro _ s1 ⟨B1,S1,ρ1,_,l1,i1,f1,_,q1⟩;exact wpAny_mono (q1 B1 _ (r2.mono l1) A s1 rm i1 f1) (fun _ _=>Po.up l1) fun _ _ x=>x
theorem Ag{p:Str}{pos:Pos}{ts:List (Value→Sem Unit)}{x:AV}{xs:List AV}{ns:Cm}{Q:AJ→AD→Prop}(he:Am env L ns)(hl:ns.lookup p=some .local)
  (h:Km c n L ts xs ((p,x)::ρ) S Q):Km c n L (assign (.Name p pos) env::ts) (x::xs) ρ S Q:=
 Nt fun B v r=>BA (Q:=fun ρ1 S1=>Km c n L ts xs ρ1 S1 Q) he hl h B v r
theorem DC{p:Str}{ts:List (Value→Sem Unit)}{x:AV}{xs:List AV}{ns:Cm}{Q:AJ→AD→Prop}(he:Am env L ns)(hl:ns.lookup p=some .local)
  (h:Km c n L ts xs ((p,x)::ρ) S Q):Km c n L (bindName env p::ts) (x::xs) ρ S Q:=
 Nt fun B v r A s rm i f=>wpAny_bindName (JX he hl i f r fun h' t i2 f2=>⟨B,S,_,(),Le.refl _,i2,f2,trivial,h⟩)
theorem A4.ext{h':Heap}{t:Nat}{a:Addr}(i:A4 c B S s)(hb:B a=none)(hs:S a=none)(h:Heap.ExtBut a s.heap h')(ht:s.toks≤t:=by first|exact Nat.le_refl _|exact Nat.le_succ _|exact Nat.le_add_right _ _|lia):A4 c B S {s with heap:=h',toks:=t}:=
 i.next (ht:=ht) fun b o hx e=>h b o (fun q=>by subst q;exact hx.elim (fun x=>x hb) (fun x=>x hs)) e
theorem A3.ext{h':Heap}{t:Nat}{a:Addr}(f:A3 B S L ρ s)(hL:a∉L.own)(h:Heap.ExtBut a s.heap h'):A3 B S L ρ {s with heap:=h',toks:=t}:=
 f.move (Le.refl _) fun b hb=>by
  obtain⟨h1,h2,o,h3,_⟩:=f.ow b hb;exact⟨h1,h2,(h b o (fun q=>hL (q▸hb)) h3).trans h3.symm⟩
theorem Cy{elts:List Expr}{k:Nat}{pos:Pos}{xs:List AV}{Q:AJ→AD→Prop}(hn:(assignEach elts env).length=xs.length)(h:Km c n L ((assignEach elts env).map (·.2)) xs ρ S Q)
  (hst:(assignEach elts env).findIdx? (·.1)=none:=by with_unfolding_all rfl):Qk c n L env (.Tuple elts k pos) (.tup xs) ρ S Q:=fun B v r A s rm i f=>by
 obtain⟨a,rfl⟩:=r.tupA;obtain⟨vs,ht,rv⟩:=Ji i r;show wpAny _ _ (do standAt pos;unpack _ (assignEach elts env)) _ _ _;refine wpAny_bind (wpAny_standAt (PyProof.Rows.unpack_tuple rm.1 ht (by exact rr hn (rr List.size_toArray (rr rv.length rfl))) hst fun h' hx=>?_));exact h B vs rv A _ rm (i.ext (t:=s.toks) i.newB i.newS hx) (f.ext (t:=s.toks) f.newA hx)
theorem CB{elts:List Expr}{value:Expr}{k:Nat}{tpos pos:Pos}{Q:AF→AJ→AD→Prop}
  (h:Ok c n L R (eval value env) ρ S (ea c n L env (.Tuple elts k tpos) Q))
  (hw:swappedStores [.Tuple elts k tpos] value env=pure none)
  (hs:swapsWithSole [.Tuple elts k tpos] value pos.line env=pure false:=by with_unfolding_all rfl):
  Ok c n L RF (exec (.Assign [.Tuple elts k tpos] value pos) env) ρ S Q:=fun A B s rm i f=>
 Assign_Tuple (wpAny_mono (h A B s rm i f) (fun v s1 ⟨B1,S1,ρ1,x,l1,i1,f1,r1,q1⟩=>wpAny_mono (q1 B1 v r1 A s1 rm i1 f1)
  (fun _ s2 ⟨B2,S2,ρ2,_,l2,i2,f2,_,q2⟩=>⟨B2,S2,ρ2,.nx,l1.trans l2,i2,f2,.nx,q2⟩) fun _ _ x=>x) fun _ _ x=>x) hs hw
theorem RL.reverse{B:Ao}{vs:List Value}{xs:List AV}(r:RL B vs xs):RL B vs.reverse xs.reverse:=
 RL.ind (P:=fun vs xs=>RL B vs.reverse xs.reverse) .nil (fun _ _ _ _ a _ ih=>by exact rr List.reverse_cons (rr List.reverse_cons (ih.append (.cons a .nil)))) r
theorem Ds{elts:List Expr}{value:Expr}{k:Nat}{tpos pos:Pos}{names:List Str}{Q:AF→AJ→AD→Prop}
  (hw:swappedStores [.Tuple elts k tpos] value env=pure (some names))
  (h:Ok c n L R (eval value env) ρ S (eh c n L env names Q))
  (hs:swapsWithSole [.Tuple elts k tpos] value pos.line env=pure false:=by with_unfolding_all rfl):
  Ok c n L RF (exec (.Assign [.Tuple elts k tpos] value pos) env) ρ S Q:=fun A B s rm i f=>
 Assign_Tuple_swapped (wpAny_mono (h A B s rm i f) (fun v s1 ⟨B1,S1,ρ1,x,l1,i1,f1,r1,xs,e1,hl,q1⟩=>by
  subst e1;obtain⟨a,rfl⟩:=r1.tupA;obtain⟨vs,ht,rv⟩:=Ji i1 r1;have hsz:names.length=vs.toArray.size:=by exact rr List.size_toArray (rr rv.length (rr hl rfl))
  refine rr hsz ?_;refine PyProof.Rows.unpackItems_tuple rm.1 ht fun h' hx=>?_;refine wpAny_mono (q1 B1 _ rv.reverse A _ rm (i1.ext (t:=s1.toks) i1.newB i1.newS hx) (f1.ext (t:=s1.toks) f1.newA hx)) ?_ fun _ _ x=>x
  exact fun _ s2 ⟨B2,S2,ρ2,_,l2,i2,f2,_,q2⟩=>⟨B2,S2,ρ2,.nx,l1.trans l2,i2,f2,.nx,q2⟩) fun _ _ x=>x) hs hw
noncomputable def QM(ns:Cm):Env:={scope:={kind:=.function,names:=ns,isGenerator:=false,isCoroutine:=false},locals:=0,globals:=0,cells:=[]}
theorem BB{t:List Expr}{v:Expr}{ns:Cm}{r:Option (List Str)}(he:Am env L ns)(h:swappedStores t v (QM ns)=pure r):swappedStores t v env=pure r:=by
 have hb:env.blockKind=(QM ns).blockKind:=by unfold Env.blockKind;refine rr he.kind ?_;rfl
 have hk:env.kindOf=(QM ns).kindOf:=funext fun x=>by refine rr (he.kof ..) ?_;rfl
 refine rl h ?_;unfold swappedStores;exact rr hb (rr hk rfl)
theorem NT.cls{o:Obj}{T:String}(h:o.cls= .type T)(h1:(T=="tuple"||T=="slice"||T=="range")=false):NT o:=by
 simp only[Bool.or_eq_false_iff,beq_eq_false_iff_ne]at h1;refine⟨fun e=>?_,fun e=>?_⟩
 ·rw[h]at e;cases e;exact absurd rfl h1.1.1
 ·rw[h]at e;rcases e with e|e<;>cases e
  ·exact absurd rfl h1.1.2
  ·exact absurd rfl h1.2
noncomputable def Jk:List String:=["enumerate","zip","dict_itemiterator","dict_reverseitemiterator","odict_iterator","itertools.zip_longest","itertools.pairwise"]
noncomputable def Un(o:Obj):Prop:=∀n vs,o.cls= .type n→o.data= .fields vs→Jk.contains n=false
theorem Un.cls{o:Obj}{T:String}(h:o.cls= .type T)(h1:Jk.contains T=false):Un o:=fun n vs e _=>by rw[h]at e;cases e;exact h1
set_option tactic.hygienic true in
theorem Id{M:Model}{E:Value→Shared→Prop}{target:Expr}{I:Addr}{v:Value}{o:Obj}{Q:Unit→Shared→Prop}(ho:s.heap.get? I=some o)(hu:Un o)(h:Q () s):wpAny M A (letOwnedTupleGo target (.ref I) v) Q E s:=by
 unfold letOwnedTupleGo
 have key:wpAny M A (match(Value.ref I,v)with
  |(.ref r,.ref a)=>(do
   let o←load r
   match o.cls,o.data with
   |.type n,.fields vs=>
    if Jk.contains n&&vs[0]?==some (rawInt a)then do
     rule "for.unpacks-the-owned-tuple"
     updateField r 0 .none
    else pure ()
   |_,_=>pure ())
  |_=>pure ()) Q E s:=by
  cases v with
  |ref a=>
   refine wpAny_bind (wpAny_load ho ?_);split
   ·rename_i n vs e1 e2;refine rr (hu n vs e1 e2) (rr (Bool.false_and ..) (rr (if_neg Bool.false_ne_true) ?_));exact wpAny_pure h
   ·exact wpAny_pure h
  |_=>exact wpAny_pure h
 cases target with
 |Tuple=>exact key
 |List=>exact key
 |_=>exact wpAny_pure h
structure GC(c:Cx)(I:Addr)(xs:List AV)(g:AD→Prop)(B0:Ao)(St:Nat→Heap→Prop):Prop where
 loc:∀i h h',St i h→h'.get? I=h.get? I→St i h'
 obj:∀i h,St i h→∃o,h.get? I=some o∧NT o∧Un o
 item:∀(A:Around) B S s i x (Q:Option Value→Shared→Prop),A.handled=none→Le B0 B→A4 c B S s→g S→St i s.heap→xs[i]?=some x→
  (∀v h' tk,R B v x→St (i+1) h'→Heap.SameBut I s.heap h'→Q (some v) {s with heap:=h',toks:=tk})→wpAny (model c.prog c.w) A (pyNext (.ref I)) Q Fa s
 done:∀(A:Around) B S s i (Q:Option Value→Shared→Prop),A.handled=none→Le B0 B→A4 c B S s→g S→St i s.heap→xs[i]?=none→
  (∀h' tk,Heap.ExtBut I s.heap h'→Q none {s with heap:=h',toks:=tk})→wpAny (model c.prog c.w) A (pyNext (.ref I)) Q Fa s
 self:∀(A:Around) s i (Q:Value→Shared→Prop),St i s.heap→Q (.ref I) s→wpAny (model c.prog c.w) A (pyIter (.ref I)) Q Fa s
theorem GC.tuple{I a:Addr}{xs:List AV}{vs:List Value}{ob:Obj}{m:Nat}(hb:B0 a=some ob)(hc:ob.cls= .type "tuple")(hd:ob.data= .seq vs.toArray m)(r:RL B0 vs xs):
  GC c I xs (fun _=>True) B0 (fun i h=>h.IsTupleIter I a i) where
 loc:=fun i h h' ⟨o,ho,q⟩ e=>⟨o,e.trans ho,q⟩
 obj:=fun i h ⟨o,ho,hc,hd⟩=>⟨o,ho,NT.cls hc rfl,Un.cls hc (by decide)⟩
 item:=fun A B S s i x Q hh le iv _ st hx hQ=>by
  obtain⟨v,hv,rv⟩:=r.get hx;exact wpAny_pyNext_tuple_item st ⟨ob,iv.keep _ _ (le _ _ hb),hc,m,hd⟩ (x:=v) (by simpa using hv) fun h' st' hs=>hQ v h' s.toks (rv.mono le) st' hs
 done:=fun A B S s i Q hh le iv _ st hx hQ=>by
  refine wpAny_pyNext_tuple_end hh st ⟨ob,iv.keep _ _ (le _ _ hb),hc,m,hd⟩ ?_ fun h' hs=>hQ h' s.toks hs;have:xs.length≤i:=List.getElem?_eq_none_iff.mp hx;simp[r.length,this]
 self:=fun A s i Q st h=>wpAny_pyIter_tupleiter st h
theorem GC.list{I a:Addr}{xs:List AV}:GC c I xs (fun S=>S a=some (.list xs)∨S a=some (.wlist xs)) B0 (fun i h=>h.IsListIter I a i) where
 loc:=fun i h h' ⟨o,ho,q⟩ e=>⟨o,e.trans ho,q⟩
 obj:=fun i h ⟨o,ho,hc,hd⟩=>⟨o,ho,NT.cls hc rfl,Un.cls hc (by decide)⟩
 item:=fun A B S s i x Q hh le iv hg st hx hQ=>by
  obtain⟨_,vs,hl,r⟩:=Dn iv hg;obtain⟨v,hv,rv⟩:=r.get hx;exact wpAny_pyNext_list_item st hl (x:=v) (by simpa using hv) fun h' st' hs=>hQ v h' s.toks rv st' hs
 done:=fun A B S s i Q hh le iv hg st hx hQ=>by
  obtain⟨_,vs,hl,r⟩:=Dn iv hg;refine wpAny_pyNext_list_end hh st hl ?_ fun h' hs=>hQ h' s.toks hs;have:xs.length≤i:=List.getElem?_eq_none_iff.mp hx;have h2:vs.size=xs.length:=by exact rl Array.length_toList r.length
  simp[h2,this]
 self:=fun A s i Q st h=>wpAny_pyIter_listiter st h
noncomputable def OY(x:Str):List AV:=x.cps.toList.map fun c=>.str ⟨#[c]⟩
theorem GC.str{I:Addr}{x:Str}{t:Tok}:GC c I (OY x) (fun _=>True) B0 (fun i h=>h.IsStrIter I "str_ascii_iterator" x t i) where
 loc:=fun i h h' ⟨o,ho,q⟩ e=>⟨o,e.trans ho,q⟩
 obj:=fun i h ⟨o,ho,hc,hd⟩=>⟨o,ho,NT.cls hc rfl,Un.cls hc (by decide)⟩
 item:=fun A B S s i y Q hh le iv _ st hx hQ=>by
  have:x.cps[i]?.map (fun c=>AV.str ⟨#[c]⟩)=some y:=by simpa[OY]using hx
  obtain⟨d,hd,rfl⟩:=Option.map_eq_some_iff.mp this;exact wpAny_pyNext_ascii_item st hd fun h' st' hs=>hQ _ h' _ (.str _ _) st' hs
 done:=fun A B S s i Q hh le iv _ st hx hQ=>by
  refine wpAny_pyNext_ascii_end hh st ?_ fun h' hs=>hQ h' s.toks hs
  simpa[OY]using hx
 self:=fun A s i Q st h=>wpAny_pyIter_striter_ascii st h
noncomputable def Bj(a b d:Int):List AV:=(List.range (Builtin.Range.rangeSize a b d).toNat).map fun(k:Nat)=>.int (a+(k:Int)*d)
theorem GC.range{I:Addr}{a b d:Int}:GC c I (Bj a b d) (fun _=>True) B0 (fun i h=>IsRangeIter h I (a+i*d) (Builtin.Range.rangeSize a b d-i) d) where
 loc:=fun i h h' st e=>e.trans st
 obj:=fun i h st=>⟨_,st,NT.cls rfl rfl,Un.cls rfl (by decide)⟩
 item:=fun A B S s i y Q hh le iv _ st hx hQ=>by
  unfold Bj at hx;rw[List.getElem?_map]at hx;obtain⟨k,hk,rfl⟩:=Option.map_eq_some_iff.mp hx;have hlt:i<(Builtin.Range.rangeSize a b d).toNat:=by have:=(List.getElem?_eq_some_iff.mp hk).1;simpa using this
  have hki:i=k:=by rw[List.getElem?_range hlt]at hk;exact Option.some.inj hk
  subst hki;refine wpAny_pyNext_range_item st (by exact bm hlt) fun h' st' hs=>hQ _ h' _ (.int _ _) ?_ hs;have e1:a+((i+1:Nat):Int)*d=a+i*d+d:=by exact rr (Int.natCast_add ..) (rr (Int.add_mul ..) dY)
  have e2:Builtin.Range.rangeSize a b d-((i+1:Nat):Int)=Builtin.Range.rangeSize a b d-i-1:=by exact di
  exact rr e1 (rr e2 st')
 done:=fun A B S s i Q hh le iv _ st hx hQ=>by
  refine wpAny_pyNext_range_end hh st ?_ fun h' hs=>hQ h' s.toks hs;have:(Bj a b d).length≤i:=List.getElem?_eq_none_iff.mp hx;have h2:(Bj a b d).length=(Builtin.Range.rangeSize a b d).toNat:=by simp[Bj]
  exact YZ this h2
 self:=fun A s i Q st h=>wpAny_pyIter_rangeiter st h
end
section
variable{α β γ δ:Type}{c:Cx}{n:Nat}{B B0 B1:Ao}{S:AD}{L:BU}{ρ:AJ}{rel:Ao→α→β→Prop}{s:Shared}{A:Around}{env:Env}
noncomputable def UC(Q:AF→AJ→AD→Prop)(again:AJ→AD→Prop):AF→AJ→AD→Prop
 |.nx,ρ,S=>again ρ S
 |.cont,ρ,S=>again ρ S
 |.brk,ρ,S=>Q .nx ρ S
 |.ret v,ρ,S=>Q (.ret v) ρ S
noncomputable abbrev Y5(c:Cx)(n:Nat)(L:BU)(env:Env)(body:List Stmt)(Q:AF→AJ→AD→Prop):AJ→AD→Prop:=fun ρ S=>Ok c n L RF (execs body env) ρ S Q
noncomputable def PX(c:Cx)(n:Nat)(L:BU)(env:Env)(target:Expr)(body orelse:List Stmt)(g:AD→Prop)(Q:AF→AJ→AD→Prop):List AV→AJ→AD→Prop
 |[],ρ,S=>g S∧Ok c n L RF (execs orelse env) ρ S Q
 |x::xs,ρ,S=>g S∧Qk c n L env target x ρ S (Y5 c n L env body (UC Q (PX c n L env target body orelse g Q xs)))
inductive Zn(c:Cx)(B:Ao)(L:BU)(I:Addr)(xs:List AV)(St:Nat→Heap→Prop)(G:List AV→AJ→AD→Prop)(k:Nat)(s':Shared):Prop
 |mk (i:Nat) (B':Ao) (ρ':AJ) (S':AD) (hi:i≤xs.length) (hk:k=xs.length+1-i) (le:Le B B') (iv:A4 c B' S' s') (fr:A3 B' S' L ρ' s') (hb:B' I=none∧S' I=none) (st:St i s'.heap) (q:G (xs.drop i) ρ' S'):Zn c B L I xs St G k s'
inductive cH(B':Ao)(I:Addr)(x:AV)(St:Heap→Prop)(s':Shared)(rr:Option Value)(s₁:Shared):Prop
 |mk (v:Value) (h':Heap) (tk:Nat) (e1:rr=some v) (e2:s₁={s' with heap:=h',toks:=tk}) (r:R B' v x) (st:St h') (hs:Heap.SameBut I s'.heap h'):cH B' I x St s' rr s₁
inductive cF(I:Addr)(s':Shared)(rr:Option Value)(s₁:Shared):Prop
 |mk (e1:rr=none) (h':Heap) (tk:Nat) (e2:s₁={s' with heap:=h',toks:=tk}) (hs:Heap.ExtBut I s'.heap h'):cF I s' rr s₁
theorem Q3{I:Addr}{xs:List AV}{g:AD→Prop}{St:Nat→Heap→Prop}{target:Expr}{body orelse:List Stmt}{Q:AF→AJ→AD→Prop}(it:GC c I xs g B St)(rm:DO A n)(iv:A4 c B S s)(fr:A3 B S L ρ s)
  (hb:B I=none) (hs:S I=none) (hL:I∉L.own) (st:St 0 s.heap) (h:PX c n L env target body orelse g Q xs ρ S):
  codeAny (model c.prog c.w) A (.forLoop target (.ref I) body orelse env) (fun r s'=>match r with|.ok f=>Po c B L RF Q f s'|.error _=>False) s:=by
 refine codeAny_mono (codeAny_forLoop_any (R:=fun r s'=>match r with|.ok f=>Po c B L RF Q f s'|.error _=>False)
  (Zn c B L I xs St (PX c n L env target body orelse g Q)) ?_ (xs.length+1)
  ⟨0,B,ρ,S,Nat.zero_le _,rfl,Le.refl _,iv,fr,⟨hb,hs⟩,st,h⟩) fun _ _ x=>x
 rintro k s' ⟨i,B',ρ',S',hi,rfl,le,iv',fr',⟨hb',hs'⟩,st',hf⟩
 cases hx:xs[i]? with
 |none=>
  have hd:xs.drop i=[]:=List.drop_eq_nil_of_le (List.getElem?_eq_none_iff.mp hx);rw[hd]at hf;obtain⟨hg,hf⟩:=hf;refine BO<|wpAny_mono (it.done A B' S' s' i (cF I s') rm.1 le iv' hg st' hx fun h' tk hx=>⟨rfl,h',tk,rfl,hx⟩) ?_ fun _ _ x=>x.elim;rintro _ _ ⟨rfl,h',tk,rfl,hx⟩ htk;exact wpAny_mono (hf A B' _ rm (iv'.ext hb' hs' hx htk) (fr'.ext hL hx)) (fun fl s3 h3=>Po.up le h3) fun _ _ x=>x.elim
 |some x=>
  have hlt:i<xs.length:=(List.getElem?_eq_some_iff.mp hx).1;have hd:xs.drop i=x::xs.drop (i+1):=by exact rr (List.drop_eq_getElem_cons hlt) (rr ((List.getElem?_eq_some_iff.mp hx).2) rfl)
  rw[hd]at hf;obtain⟨hg,hf⟩:=hf
  refine BO<|wpAny_mono (it.item A B' S' s' i x (cH B' I x (St (i+1)) s') rm.1 le iv' hg st' hx
   fun v h' tk r st hs=>⟨v,h',tk,rfl,rfl,r,st,hs⟩) ?_ fun _ _ x=>x.elim
  rintro _ _ ⟨v,h',tk,rfl,rfl,r,st1,hsb⟩ htk;have iv1:A4 c B' S' {s' with heap:=h',toks:=tk}:=iv'.ext hb' hs' hsb.extBut htk;have fr1:A3 B' S' L ρ' {s' with heap:=h',toks:=tk}:=fr'.ext hL hsb.extBut;obtain⟨oI,hoI,hnt,hun⟩:=it.obj _ _ st1;refine Id hoI hun ?_;have r1:=JF rU rm iv1 fr1 hb' hs' hL hoI hnt (hf _ v (r.mono (Le.put hb')));refine wpAny_mono r1 ?_ fun _ _ x=>x.elim;rintro _ s3 ⟨B3,S3,ρ3,_,l3,i3,f3,⟨b3,t3,o3⟩,_,q3⟩;have r2:=JF fN rm i3 f3 b3 t3 hL o3 hnt (fun A2 s2 rm2 i2 f2=>q3 A2 _ s2 rm2 i2 f2);refine wpAny_mono r2 ?_ fun _ _ x=>x.elim;rintro fl s4 ⟨B4,S4,ρ4,y,l4,i4,f4,⟨b4,t4,o4⟩,r4,q4⟩;have le4:=le.trans (l3.trans l4)
  cases r4 with
  |nx=>exact⟨xs.length+1-(i+1),by exact Sx hi hlt,i+1,B4,ρ4,S4,hlt,rfl,le4,i4,f4,⟨b4,t4⟩,it.loc _ _ _ st1 (o4.trans hoI.symm),q4⟩
  |cont=>exact⟨xs.length+1-(i+1),by exact Sx hi hlt,i+1,B4,ρ4,S4,hlt,rfl,le4,i4,f4,⟨b4,t4⟩,it.loc _ _ _ st1 (o4.trans hoI.symm),q4⟩
  |brk=>exact⟨B4,S4,ρ4,.nx,le4,i4,f4,.nx,q4⟩
  |ret r=>exact⟨B4,S4,ρ4,_,le4,i4,f4,.ret r,q4⟩
inductive Kd(S:AD):AV→List AV→(AD→Prop)→Prop
 |tup (xs:List AV):Kd S (.tup xs) xs fun _=>True
 |list {a:Addr} {xs:List AV}:S a=some (.list xs)∨S a=some (.wlist xs)→Kd S (.ref a) xs fun S=>S a=some (.list xs)∨S a=some (.wlist xs)
 |str {x:Str}:x.cps.all (·<128)=true→Kd S (.str x) (OY x) fun _=>True
 |rg {a b d:Int}:Builtin.Range.small a b d=true→Kd S (.rg a b d) (Bj a b d) fun _=>True
theorem Lm{v:Value}{x:AV}{xs:List AV}{g:AD→Prop}{Q:Value→Shared→Prop}(iv:A4 c B S s)(r:R B v x)(h:Kd S x xs g)
  (hQ:∀o St,GC c s.heap.objs.size xs g B St→St 0 (s.heap.push o)→o.isFreed=false→Q (.ref s.heap.objs.size) {s with heap:=s.heap.push o}):wpAny (model c.prog c.w) A (pyIter v) Q Fa s:=by
 cases h with
 |tup xs=>
  obtain⟨e1,e2,e3,rr⟩:=r.tup_inv;exact wpAny_pyIter_tuple ⟨_,iv.keep _ _ e1,e2,_,e3⟩ (hQ _ _ (GC.tuple e1 e2 e3 rr) ⟨_,Heap.get?_push_size _ rfl,rfl,rfl⟩ rfl)
 |list hl=>
  cases r.inv;obtain⟨_,vs,hl',_⟩:=Dn iv hl;exact wpAny_pyIter_list hl' (hQ _ _ GC.list ⟨_,Heap.get?_push_size _ rfl,rfl,rfl⟩ rfl)
 |str ha=>
  obtain⟨t⟩:=r.inv;exact wpAny_pyIter_ascii ha (hQ _ _ GC.str ⟨_,Heap.get?_push_size _ rfl,rfl,rfl⟩ rfl)
 |rg hs=>
  obtain⟨_,_,_,_,rfl,e1⟩:=r.inv
  ·refine wpAny_pyIter_range (iv.keep _ _ e1) hs (hQ _ _ GC.range ?_ rfl);show Heap.get? _ _=_;refine rr (Heap.get?_push_size _ rfl) ?_;simp[rawInt]
inductive a0(c:Cx)(n:Nat)(L:BU)(env:Env)(target:Expr)(body orelse:List Stmt)(Q:AF→AJ→AD→Prop)(x:AV)(ρ:AJ)(S:AD):Prop
 |mk (xs:List AV) (g:AD→Prop) (h1:Kd S x xs g) (h:PX c n L env target body orelse g Q xs ρ S)
theorem CF{target iter:Expr}{body orelse:List Stmt}{pos:Pos}{Q:AF→AJ→AD→Prop}
  (h:Ok c n L R (eval iter env) ρ S (a0 c n L env target body orelse Q))
  (hs:∀x,foldedSetIterable iter env x=pure x:=by intro _;rfl):
  Ok c n L RF (exec (.For target iter body orelse pos) env) ρ S Q:=fun A B s rm i f=>
 wpAny_For (wpAny_mono (h A B s rm i f) (fun v s1 ⟨B1,S1,ρ1,x,l1,i1,f1,r1,xs,g,hi,q1⟩=>Lm i1 r1 hi fun o St it st hf=>by
  have i2:A4 c B1 S1 {s1 with heap:=s1.heap.push o}:=i1.next (t:=s1.toks) fun _ _ _ e=>Heap.get?_push_of_some _ e;refine codeAny_mono (Q3 it rm i2 f1.push i1.newB i1.newS f1.newA st q1) ?_;intro r s' hr;rcases r with e|fl
  ·exact hr.elim
  ·exact Po.up l1 hr) fun _ _ x=>x) hs
end
section
variable{α β γ δ:Type}{c:Cx}{n:Nat}{B B0 B1:Ao}{S:AD}{L:BU}{ρ:AJ}{rel:Ao→α→β→Prop}{s:Shared}{A:Around}{env:Env}
theorem JN{test:Expr}{body orelse:List Stmt}{pos:Pos}{Q:AF→AJ→AD→Prop}(P:Nat→AJ→AD→Prop)(k:Nat)(h0:P k ρ S)
  (turn:∀k ρ S,P k ρ S→Ok c n L Kb (isTrue test env (eval test env)) ρ S (fun b ρ1 S1=>(b=true→Ok c n L RF (execs body env) ρ1 S1 (UC Q fun ρ2 S2=>∃m,m<k∧P m ρ2 S2))∧(b=false→Ok c n L RF (execs orelse env) ρ1 S1 Q))):
  Ok c n L RF (exec (.While test body orelse pos) env) ρ S Q:=fun A B s rm i f=>by
 refine wpAny_While (codeAny_mono (codeAny_whileLoop (R:=fun r s'=>match r with|.ok f=>Po c B L RF Q f s'|.error _=>False)
  (Pw c B L P) ?_ k ⟨B,ρ,S,Le.refl _,i,f,h0⟩) ?_)
 ·rintro k s' ⟨B',ρ',S',le,i',f',hp⟩;refine wpAny_mono (turn k ρ' S' hp A B' s' rm i' f') ?_ fun _ _ x=>x.elim;rintro b s1 ⟨B1,S1,ρ1,b',l1,i1,f1,r1,q1,q2⟩;cases r1;cases b
  ·exact wpAny_mono (q2 rfl A B1 s1 rm i1 f1) (fun fl s2 h=>Po.up (le.trans l1) h) fun _ _ x=>x.elim
  ·refine wpAny_mono (q1 rfl A B1 s1 rm i1 f1) ?_ fun _ _ x=>x.elim;rintro fl s2 ⟨B2,S2,ρ2,x,l2,i2,f2,r2,q⟩;have le2:=le.trans (l1.trans l2)
   cases r2 with
   |nx=>obtain⟨m,hm,hp⟩:=q;exact⟨m,hm,B2,ρ2,S2,le2,i2,f2,hp⟩
   |cont=>obtain⟨m,hm,hp⟩:=q;exact⟨m,hm,B2,ρ2,S2,le2,i2,f2,hp⟩
   |brk=>exact⟨B2,S2,ρ2,.nx,le2,i2,f2,.nx,q⟩
   |ret r=>exact⟨B2,S2,ρ2,_,le2,i2,f2,.ret r,q⟩
 ·intro r s' hr;rcases r with e|fl
  ·exact hr.elim
  ·exact hr
theorem HY{t:Sem α}{Q:β→AJ→AD→Prop}(hr:G5 rel)(rm:DO A n):∀(l:List (Addr×Obj)) {B:Ao} (i:A4 c B S s) (f:A3 B S L ρ s) (hnd:(l.map (·.1)).Nodup)
  (hl:∀p∈l,B p.1=none∧S p.1=none∧p.1∉L.own∧s.heap.get? p.1=some p.2∧NT p.2) (h:∀B',Le B B'→Va c n L rel t B' ρ S Q),
  wpAny (model c.prog c.w) A t (Pm c B L rel Q l) Fa s
 |[],B,i,f,_,_,h=>wpAny_mono (h B (Le.refl _) A s rm i f) (fun _ _ ⟨B',S',ρ',b,l,i',f',r,q⟩=>⟨B',S',ρ',b,l,i',f',(fun _ hp=>nomatch hp),r,q⟩) fun _ _ x=>x
 |(a,o)::l,B,i,f,hnd,hl,h=>by
  obtain⟨hb,hs,hL,ho,hn⟩:=hl (a,o) (.head _);rw[List.map_cons,List.nodup_cons]at hnd;have ne:∀p∈l,p.1≠a:=fun p hp q=>hnd.1 (by have z:=List.mem_map_of_mem (f:=fun x:Addr×Obj=>x.1) hp;rw[q]at z;exact z);refine wpAny_mono (HY hr rm l (i.freeze hb hs ho) (f.putB hL hb) hnd.2 (fun p hp=>?_) fun B' l'=>h B' ((Le.put hb).trans l')) ?_ fun _ _ x=>x
  ·obtain⟨h1,h2,h3,h4⟩:=hl p (.tail _ hp);exact⟨by rw[AA _ _ (ne p hp)];exact h1,h2,h3,h4⟩
  ·rintro v s' ⟨B',S',ρ',b,le,i',f',hp',r,q⟩;have hI:B' a=some o:=le _ _ (AC ..);have nt:G4 B' a:=fun ob e=>by rw[hI]at e;cases e;exact hn
   refine⟨del B' a,S',ρ',b,Le.del hb le,i'.thaw (i.base_none hb) nt,f'.drop nt,fun p hp=>?_,hr.drop nt r,q⟩;rcases List.mem_cons.mp hp with rfl|hp
   ·refine⟨Ew ..,?_,i'.keep _ _ hI⟩
    cases e:S' a with
    |none=>rfl
    |some o=>have:=(i'.own _ _ e).1;rw[hI]at this;cases this
   ·obtain⟨h1,h2,h3⟩:=hp' p hp;exact⟨by rw[CX _ (ne p hp)];exact h1,h2,h3⟩
noncomputable def Cd(ρ ρ':AJ):Prop:=∀x av,AG ρ x=some av→AG ρ' x=some av
theorem Cd.refl(ρ:AJ):Cd ρ ρ:=fun _ _ h=>h
theorem Cd.cons{x:Str}{v:AV}{ρ ρ':AJ}(h:AG ρ x=none)(e:Cd ρ ρ'):Cd ρ ((x,v)::ρ'):=fun y av q=>by
 refine rr (AN ..) ?_;by_cases z:x=y
 ·subst z;rw[h]at q;cases q
 ·exact rr (if_neg z) (e y av q)
noncomputable def LE(c:Cx)(n:Nat)(L:BU)(env:Env)(ρ:AJ)(S:AD)(K:Bool→AD→Prop):List Expr→Prop
 |[]=>K true S
 |[t]=>Ok c n L Kb (isTrue t env (eval t env)) ρ S (fun b ρ' S'=>Cd ρ ρ'∧K b S')
 |_=>False
structure eV(c:Cx)(n:Nat)(L:BU)(env:Env)(ρ:AJ)(elt:Expr)(G:List AV→AD→Prop)(acc:List AV)(ρ1:AJ)(b:Bool)(S2:AD):Prop where
 t:b=true→Ok c n L R (eval elt env) ρ1 S2 (fun y ρ3 S3=>Cd ρ ρ3∧G (acc++[y]) S3)
 f:b=false→G acc S2
noncomputable def KG(c:Cx)(n:Nat)(L:BU)(env:Env)(ρ:AJ)(target:Expr)(ifs:List Expr)(elt:Expr)(g:AD→Prop)(Q:List AV→AD→Prop):List AV→List AV→AD→Prop
 |[],acc,S=>g S∧Q acc S
 |x::xs,acc,S=>g S∧acc.length≤1000∧Qk c n L env target x ρ S (fun ρ1 S1=>Cd ρ ρ1∧LE c n L env ρ1 S1 (eV c n L env ρ elt (KG c n L env ρ target ifs elt g Q xs) acc ρ1) ifs)
structure GK(B:Ao)(S:AD)(L:BU)(hid:List (Addr×Obj))(s:Shared):Prop where
 nd:(hid.map (·.1)).Nodup
 ok:∀p∈hid,B p.1=none∧S p.1=none∧p.1∉L.own∧s.heap.get? p.1=some p.2∧NT p.2
theorem NT.list{vs:Array Value}{m:Nat}:NT ⟨.type "list",none,.seq vs m,#[]⟩:=NT.cls rfl rfl
theorem Lu{prog:Program}{w:World}{R:Result→Shared→Prop}{elt target iter:Expr}{ifs:List Expr}{scope:Scope}{pos:Pos}{it acc:Value}{env:Env}(I:Nat→Shared→Prop)
  (turn:∀n s,I n s→wpAny (model prog w) A (pyNext it) (fun r s₁=>match r with
   |none=>R (.ok .next) s₁
   |some v=>wpAny (model prog w) A (letOwnedTupleGo target it v) (fun _ s₁'=>wpAny (model prog w) A (assign target env v) (fun _ s₂=>
     wpAny (model prog w) A (forIn ifs true fun c r=>if r=true then do let ok←isTrue c env (eval c env);pure (ForInStep.yield ok)else pure (ForInStep.yield r)) (fun ok s₃=>
      if ok=true then wpAny (model prog w) A (eval elt env) (fun x s₄=>
       wpAny (model prog w) A (call (.builtin "list.append") [acc,x]) (fun _ s₅=>∃m,m<n∧I m s₅) (notedBy (model prog w) A env fun e s'=>R (.error e) s') s₄) (notedBy (model prog w) A env fun e s'=>R (.error e) s') s₃
      else ∃m,m<n∧I m s₃) (notedBy (model prog w) A env fun e s'=>R (.error e) s') s₂) (notedBy (model prog w) A env fun e s'=>R (.error e) s') s₁') (notedBy (model prog w) A env fun e s'=>R (.error e) s') s₁) (notedBy (model prog w) A env fun e s'=>R (.error e) s') s)
  (n:Nat) (h:I n s):
  codeAny (model prog w) A (.compLoop (.ListComp elt [⟨target,iter,ifs,0⟩] scope pos) 0 it acc env) R s:=by
 refine codeAny_loop rfl I (fun n s hI=>?_) n h;show wpAny _ A ((compTurn (.ListComp elt [⟨target,iter,ifs,0⟩] scope pos) 0 it acc env).onRaise (fun x=>do noteFrame x env;theTreesLotGoes x)) _ _ s;refine wpAny_noted ?_;refine rr (compTurn_list ..) ?_;refine wpAny_bind (wpAny_standAt (wpAny_bind (wpAny_mono (turn n s hI) (fun r s₁ h₁=>?_) fun _ _ h'=>h')))
 cases r with
 |none=>exact wpAny_pure h₁
 |some v=>
  refine wpAny_bind (wpAny_mono h₁ (fun _ s₁' h₁=>?_) fun _ _ h'=>h');refine wpAny_bind (wpAny_mono h₁ (fun _ s₂ h₂=>wpAny_bind (wpAny_mono h₂ (fun ok s₃ h₃=>?_) fun _ _ h'=>h')) fun _ _ h'=>h')
  cases ok with
  |false=>exact wpAny_pure ⟨rfl,h₃⟩
  |true=>
   exact wpAny_bind (wpAny_bind (wpAny_mono h₃ (fun x s₄ h₄=>wpAny_bind (wpAny_mono h₄ (fun _ s₅ h₅=>wpAny_pure (wpAny_pure ⟨rfl,h₅⟩)) fun _ _ h'=>h')) fun _ _ h'=>h'))
inductive eX(c:Cx)(B:Ao)(L:BU)(ρ:AJ)(hid:List (Addr×Obj))(I D:Addr)(xs:List AV)(St:Nat→Heap→Prop)(G:List AV→List AV→AD→Prop)(k:Nat)(s':Shared):Prop
 |mk (i:Nat) (B':Ao) (S':AD) (acc:List AV) (vs:Array Value) (m:Nat) (hi:i≤xs.length) (hk:k=xs.length+1-i) (le:Le B B') (iv:A4 c B' S' s') (fr:A3 B' S' L ρ s') (bh:GK B' S' L hid s') (hI:B' I=none∧S' I=none) (hD:B' D=none∧S' D=none)
   (o:s'.heap.get? D=some ⟨.type "list",none,.seq vs m,#[]⟩) (rl:RL B' vs.toList acc) (st:St i s'.heap) (q:G (xs.drop i) acc S'):eX c B L ρ hid I D xs St G k s'
inductive eQ(c:Cx)(B:Ao)(L:BU)(ρ:AJ)(hid:List (Addr×Obj))(D:Addr)(Q:List AV→AD→Prop)(s':Shared):Prop
 |mk (B':Ao) (S':AD) (acc:List AV) (vs:Array Value) (m:Nat) (le:Le B B') (iv:A4 c B' S' s') (fr:A3 B' S' L ρ s') (bh:GK B' S' L hid s') (hD:B' D=none∧S' D=none)
   (o:s'.heap.get? D=some ⟨.type "list",none,.seq vs m,#[]⟩) (rl:RL B' vs.toList acc) (q:Q acc S'):eQ c B L ρ hid D Q s'
inductive eN(c:Cx)(B3:Ao)(L:BU)(ρ3:AJ)(l:List (Addr×Obj))(G:Bool→AD→Prop)(ok:Bool)(s4:Shared):Prop
 |mk (B4:Ao) (S4:AD) (ρ4:AJ) (le:Le B3 B4) (iv:A4 c B4 S4 s4) (fr:A3 B4 S4 L ρ4 s4) (hp:∀p∈l,B4 p.1=none∧S4 p.1=none∧s4.heap.get? p.1=some p.2) (e:Cd ρ3 ρ4) (q:G ok S4):eN c B3 L ρ3 l G ok s4
theorem PT{ifs:List Expr}{K:Bool→AD→Prop}{l:List (Addr×Obj)}(rm:DO A n)(iv:A4 c B S s)(fr:A3 B S L ρ s)(nd:(l.map (·.1)).Nodup)
  (hl:∀p∈l,B p.1=none∧S p.1=none∧p.1∉L.own∧s.heap.get? p.1=some p.2∧NT p.2) (q:LE c n L env ρ S K ifs):
  wpAny (model c.prog c.w) A (forIn ifs true fun c r=>if r=true then do let ok←isTrue c env (eval c env);pure (ForInStep.yield ok)else pure (ForInStep.yield r)) (eN c B L ρ l K) Fa s:=by
 cases ifs with
 |nil=>exact wpAny_pure ⟨B,S,ρ,Le.refl _,iv,fr,fun p hp=>let z:=hl p hp;⟨z.1,z.2.1,z.2.2.2.1⟩,Cd.refl _,q⟩
 |cons t r=>
  cases r with
  |cons _ _=>exact q.elim
  |nil=>
   refine rr (List.forIn_cons ..) ?_;refine wpAny_bind ?_;refine rr (if_pos rfl) ?_;refine wpAny_bind (wpAny_mono (HY fM rm _ iv fr nd hl fun B2 l2 A2 s2 rm2 i2 f2=>q A2 B2 s2 rm2 i2 f2) ?_ fun _ _ x=>x);rintro b s4 ⟨B4,S4,ρ4,b',l4,i4,f4,hp4,rb,e4,q4⟩;cases rb;exact wpAny_pure (wpAny_pure ⟨B4,S4,ρ4,l4,i4,f4,hp4,e4,q4⟩)
theorem Oy{I D:Addr}{xs:List AV}{g:AD→Prop}{St:Nat→Heap→Prop}{target elt iter:Expr}{ifs:List Expr}{scope:Scope}{cpos:Pos}{Q:List AV→AD→Prop}{hid:List (Addr×Obj)}
  (it:GC c I xs g B St) (rm:DO A n) (iv:A4 c B S s) (fr:A3 B S L ρ s) (hid':GK B S L hid s)
  (hI:B I=none∧S I=none∧I∉L.own) (hD:B D=none∧S D=none∧D∉L.own) (hID:I≠D) (hIh:I∉hid.map (·.1)) (hDh:D∉hid.map (·.1))
  (hd:∃m,s.heap.get? D=some ⟨.type "list",none,.seq #[] m,#[]⟩) (st:St 0 s.heap) (h:KG c n L env ρ target ifs elt g Q xs [] S):
  codeAny (model c.prog c.w) A (.compLoop (.ListComp elt [⟨target,iter,ifs,0⟩] scope cpos) 0 (.ref I) (.ref D) env) (fun r s'=>match r with
   |.ok _=>eQ c B L ρ hid D Q s'
   |.error _=>False) s:=by
 refine Lu (eX c B L ρ hid I D xs St (KG c n L env ρ target ifs elt g Q)) ?_ (xs.length+1)
  (let ⟨m,e⟩:=hd;⟨0,B,S,[],#[],m,Nat.zero_le _,rfl,Le.refl _,iv,fr,hid',⟨hI.1,hI.2.1⟩,⟨hD.1,hD.2.1⟩,e,.nil,st,h⟩)
 rintro k s' ⟨i,B',S',acc,vs,m,hi,rfl,le,iv',fr',hb',hI',hD',hd',rl,st',hf⟩
 have hmove:∀{h':Heap} {t:Nat},Heap.ExtBut I s'.heap h'→GK B' S' L hid {s' with heap:=h',toks:=t}:=fun hx=>⟨hb'.nd,fun p hp=>by
  obtain⟨h1,h2,h3,h4,h5⟩:=hb'.ok p hp
  exact⟨h1,h2,h3,hx p.1 p.2 (fun q=>hIh (q▸List.mem_map_of_mem hp)) h4,h5⟩⟩
 cases hx:xs[i]? with
 |none=>
  have hdr:xs.drop i=[]:=List.drop_eq_nil_of_le (List.getElem?_eq_none_iff.mp hx);rw[hdr]at hf;obtain⟨hg,hf⟩:=hf;refine BO<|wpAny_mono (it.done A B' S' s' i (cF I s') rm.1 le iv' hg st' hx fun h' tk hx=>⟨rfl,h',tk,rfl,hx⟩) ?_ fun _ _ x=>x.elim;rintro _ _ ⟨rfl,h',tk,rfl,hx⟩ htk;exact⟨B',S',acc,vs,m,le,iv'.ext hI'.1 hI'.2 hx htk,fr'.ext hI.2.2 hx,hmove hx,hD',hx _ _ hID.symm hd',rl,hf⟩
 |some x=>
  have hlt:i<xs.length:=(List.getElem?_eq_some_iff.mp hx).1;have hdr:xs.drop i=x::xs.drop (i+1):=by exact rr (List.drop_eq_getElem_cons hlt) (rr ((List.getElem?_eq_some_iff.mp hx).2) rfl)
  rw[hdr]at hf;obtain⟨hg,hlen,hf⟩:=hf
  refine BO<|wpAny_mono (it.item A B' S' s' i x (cH B' I x (St (i+1)) s') rm.1 le iv' hg st' hx
   fun v h' tk r st hs=>⟨v,h',tk,rfl,rfl,r,st,hs⟩) ?_ fun _ _ x=>x.elim
  rintro _ _ ⟨v,h',tk,rfl,rfl,r,st1,hsb⟩ htk;have iv1:A4 c B' S' {s' with heap:=h',toks:=tk}:=iv'.ext hI'.1 hI'.2 hsb.extBut htk;have fr1:A3 B' S' L ρ {s' with heap:=h',toks:=tk}:=fr'.ext hI.2.2 hsb.extBut;have hb1:GK B' S' L hid {s' with heap:=h',toks:=tk}:=hmove hsb.extBut;obtain⟨oI,hoI,hnt,hun⟩:=it.obj _ _ st1;refine Id hoI hun ?_;have hd1:h'.get? D=some ⟨.type "list",none,.seq vs m,#[]⟩:=(hsb.2 _ hID.symm).trans hd'
  have nd3:(((I,oI)::(D,(⟨.type "list",none,.seq vs m,#[]⟩:Obj))::hid).map (·.1)).Nodup:=by
   refine rr List.map_cons (rr List.map_cons ?_);rw[List.nodup_cons,List.nodup_cons];exact⟨by simp only[List.mem_cons,not_or];exact⟨hID,hIh⟩,hDh,hb1.nd⟩
  have all3:∀{B2:Ao} {S2:AD} {s2:Shared},(∀p∈((I,oI)::(D,(⟨.type "list",none,.seq vs m,#[]⟩:Obj))::hid),B2 p.1=none∧S2 p.1=none∧s2.heap.get? p.1=some p.2)→
    ∀p∈((I,oI)::(D,(⟨.type "list",none,.seq vs m,#[]⟩:Obj))::hid),B2 p.1=none∧S2 p.1=none∧p.1∉L.own∧s2.heap.get? p.1=some p.2∧NT p.2:=fun hq p hp=>by
   obtain⟨h1,h2,h3⟩:=hq p hp;refine⟨h1,h2,?_,h3,?_⟩<;>rcases List.mem_cons.mp hp with rfl|hp
   ·exact hI.2.2
   ·rcases List.mem_cons.mp hp with rfl|hp
    ·exact hD.2.2
    ·exact(hb1.ok p hp).2.2.1
   ·exact hnt
   ·rcases List.mem_cons.mp hp with rfl|hp
    ·exact NT.list
    ·exact(hb1.ok p hp).2.2.2.2
  have start:∀p∈((I,oI)::(D,(⟨.type "list",none,.seq vs m,#[]⟩:Obj))::hid),B' p.1=none∧S' p.1=none∧h'.get? p.1=some p.2:=fun p hp=>by
   rcases List.mem_cons.mp hp with rfl|hp
   ·exact⟨hI'.1,hI'.2,hoI⟩
   ·rcases List.mem_cons.mp hp with rfl|hp
    ·exact⟨hD'.1,hD'.2,hd1⟩
    ·obtain⟨h1,h2,_,h3,_⟩:=hb1.ok p hp;exact⟨h1,h2,h3⟩
  have behind:∀{B2:Ao} {S2:AD} {s2:Shared},(∀p∈((I,oI)::(D,(⟨.type "list",none,.seq vs m,#[]⟩:Obj))::hid),B2 p.1=none∧S2 p.1=none∧s2.heap.get? p.1=some p.2)→GK B2 S2 L hid s2:=
   fun hq=>⟨hb1.nd,fun p hp=>all3 hq p (.tail _ (.tail _ hp))⟩
  refine wpAny_mono (HY rU rm _ iv1 fr1 nd3 (all3 start) fun B2 l2=>hf B2 v (r.mono l2)) ?_ fun _ _ x=>x.elim;rintro _ s3 ⟨B3,S3,ρ3,_,l3,i3,f3,hp3,_,hext,q3⟩;refine wpAny_mono (PT rm i3 f3 nd3 (all3 hp3) q3) ?_ fun _ _ x=>x.elim;rintro ok s4 ⟨B4,S4,ρ4,l4,i4,f4,hp4,e4,q4,q5⟩;have le4:=le.trans (l3.trans l4);cases ok
  ·refine⟨xs.length+1-(i+1),eW hlt,i+1,B4,S4,acc,vs,m,hlt,rfl,le4,i4,f4.less (fun x av e=>e4 x av (hext x av e)),behind hp4,⟨(hp4 _ (.head _)).1,(hp4 _ (.head _)).2.1⟩,
    ⟨(hp4 _ (.tail _ (.head _))).1,(hp4 _ (.tail _ (.head _))).2.1⟩,(hp4 _ (.tail _ (.head _))).2.2,rl.mono (l3.trans l4),it.loc _ _ _ st1 ((hp4 _ (.head _)).2.2.trans hoI.symm),q5 rfl⟩
  ·simp only[if_true];refine wpAny_mono (HY rR rm _ i4 (f4.less e4) nd3 (all3 hp4) fun B2 l2 A2 s2 rm2 i2 f2=>q4 rfl A2 B2 s2 rm2 i2 f2) ?_ fun _ _ x=>x.elim;rintro y s5 ⟨B5,S5,ρ5,yv,l5,i5,f5,hp5,ry,e5,q6⟩;have le5:=le4.trans l5;obtain⟨d1,d2,d3⟩:=hp5 _ (.tail _ (.head _));have hsz:vs.size=acc.length:=by rw[←Array.length_toList];exact rl.length
   refine call_meets F.slot_list_append ⟨_,d3,rfl⟩ F.entry_list_append (F.args_list_append_2 _ _) (PySem.list_append D vs m _ (by exact rr hsz (rr sizeLine_eq (Nn hlen)))) ⟨d3,?_⟩;have hs5:Heap.SameBut D s5.heap (s5.heap.update D (Obj.mapSeq fun z=>z.push y)):=Heap.SameBut.update ..;have i6:A4 c B5 S5 {s5 with heap:=s5.heap.update D (Obj.mapSeq fun z=>z.push y),toks:=s5.toks}:=i5.ext d1 d2 hs5.extBut;have f6:A3 B5 S5 L ρ {s5 with heap:=s5.heap.update D (Obj.mapSeq fun z=>z.push y),toks:=s5.toks}:=(f5.less e5).ext hD.2.2 hs5.extBut
   have b6:GK B5 S5 L hid {s5 with heap:=s5.heap.update D (Obj.mapSeq fun z=>z.push y),toks:=s5.toks}:=⟨hb1.nd,fun p hp=>by
    obtain⟨h1,h2,h3,h4,h5⟩:=(behind hp5).ok p hp
    exact⟨h1,h2,h3,(hs5.2 _ (fun q=>hDh (q▸List.mem_map_of_mem hp))).trans h4,h5⟩⟩
   have hI5:=(hp5 _ (.head _)).2.2
   refine⟨xs.length+1-(i+1),eW hlt,i+1,B5,S5,acc++[yv],vs.push y,_,hlt,rfl,le5,i6,f6,b6,⟨(hp5 _ (.head _)).1,(hp5 _ (.head _)).2.1⟩,⟨d1,d2⟩,Heap.get?_update_self _ d3 rfl,?_,
    it.loc _ _ _ st1 ((hs5.2 _ hID).trans (hI5.trans hoI.symm)),q6⟩
   refine rr Array.toList_push ?_;exact(rl.mono (l3.trans (l4.trans l5))).append (.cons ry .nil)
end
noncomputable def HW(ns cns:Cm):Cm:=cns.map fun(n,k)=>if(k==.free&&ns.lookup n==some .cell)then(n,.cell)else(n,k)
noncomputable def DG(ns cns:Cm):Bool:=
 (cns.all fun(x,k)=>k != .free||ns.lookup x==some .cell)&&(cns.all fun(x,k)=>k != .cell)&&(cns.all fun(x,k)=>k != .local||(ns.lookup x != some .cell&&cns.lookup x==some .local))
noncomputable def Au(ns:Cm)(ρ:AJ):AJ:=ρ.filter fun p=>ns.lookup p.1==some .cell
theorem BH(ns:Cm)(x:Str):∀ρ:AJ,AG (Au ns ρ) x=if ns.lookup x=some .cell then AG ρ x else none
 |[]=>by unfold Au;simp[AG]
 |(y,v)::r=>by
  have ih:=BH ns x r;unfold Au at ih ⊢;refine rr List.filter_cons (rr (AN ..) ?_);by_cases q:y=x
  ·subst q;by_cases z:ns.lookup y=some .cell
   ·simp[z,AN]
   ·simp only[z,if_false]at ih ⊢;have:(List.lookup y ns==some NameKind.cell)=false:=by simpa using z
    simp only[this,Bool.false_eq_true,if_false];exact ih
  ·by_cases z:(List.lookup y ns==some NameKind.cell)=true
   ·simp only[z,if_true,AN,if_neg q];exact ih
   ·simp only[z,if_neg q];exact ih
theorem Kx{f:Str→Addr}{x:Str}:∀{l:List (Str×Addr)},(∀p∈l,p.2=f p.1)→(∃a,(x,a)∈l)→l.lookup x=some (f x)
 |(y,a)::r,hf,⟨b,hb⟩=>by
  refine rr List.lookup_cons ?_;by_cases q:x=y
  ·subst q;simp only[beq_self_eq_true];exact congrArg some (hf (x,a) (.head _))
  ·simp only[beq_false_of_ne q];refine Kx (fun p hp=>hf p (.tail _ hp)) ⟨b,?_⟩;rcases List.mem_cons.mp hb with e|e
   ·cases e;exact absurd rfl q
   ·exact e
theorem K7(x:Str)(p:Str×NameKind)(r:Cm):(p::r).lookup x=if x=p.1 then some p.2 else r.lookup x:=by
 obtain⟨y,k⟩:=p;refine rr List.lookup_cons ?_;by_cases q:x=y
 ·subst q;simp
 ·simp only[beq_false_of_ne q,if_neg q]
theorem FU{ns:Cm}{x:Str}:∀{cns:Cm},(HW ns cns).lookup x=(cns.lookup x).map fun k=>if(k==.free&&ns.lookup x==some .cell)then .cell else k
 |[]=>rfl
 |(y,k)::r=>by
  have ih:=@FU ns x r;unfold HW at ih ⊢;refine rr List.map_cons (rr (K7 ..) (rr (K7 ..) (rr ih ?_)));dsimp only;have e:(if(k==.free&&ns.lookup y==some .cell)then(y,NameKind.cell)else(y,k)).1=y:=by split<;>rfl
  refine rr e ?_;by_cases q:x=y
  ·subst q;simp only[if_true,Option.map_some];split<;>rfl
  ·simp only[if_neg q]
section
variable{α β γ δ:Type}{c:Cx}{n:Nat}{B B0 B1:Ao}{S:AD}{L:BU}{ρ:AJ}{rel:Ao→α→β→Prop}{s:Shared}{A:Around}{env:Env}{ns:Cm}
noncomputable def I6(L:BU)(ns:Cm):Prop:=∀x,AG L.cs x≠none→ns.lookup x=some .cell
theorem NG{scope:Scope}(f:Str→Addr)(hf:∀x∈scope.names,x.2= .free→env.cells.lookup x.1=some (f x.1)):
  closureFor scope env=pure ((scope.names.filter (·.2==.free)).map fun x=>(x.1,f x.1)).reverse:=by
 have key:∀(l:Cm) (acc:List (Str×Addr)),(∀x∈l,x.2= .free→env.cells.lookup x.1=some (f x.1))→
   (forIn l acc fun(x:Str×NameKind) cs=>if(x.2==NameKind.free)=true then do let a←cellOf env x.1;pure (ForInStep.yield ((x.1,a)::cs))else pure (ForInStep.yield cs):Sem (List (Str×Addr)))=
    pure (((l.filter (·.2==.free)).map fun x=>(x.1,f x.1)).reverse++acc):=by
  intro l
  induction l with
  |nil=>intro acc _;rfl
  |cons x l ih=>
   intro acc hl;refine rr (List.forIn_cons ..) ?_;by_cases q:(x.2==NameKind.free)=true
   ·have e:=hl x (.head _) (beq_iff_eq.mp q);have hc:cellOf env x.1=pure (f x.1):=by unfold cellOf;exact rr e rfl
    simp only[q,if_true,hc];show(forIn l ((x.1,f x.1)::acc) _:Sem _)=_;refine rr (ih _ fun y hy=>hl y (.tail _ hy)) (rr List.filter_cons (rr (if_pos q) (rr List.map_cons (rr List.reverse_cons (rr (List.append_assoc ..) ?_)))));rfl
   ·simp only[q,if_false];show(forIn l acc _:Sem _)=_;exact rr (ih _ fun y hy=>hl y (.tail _ hy)) (rr List.filter_cons (rr (if_neg q) rfl))
 unfold closureFor;have:=key scope.names [] hf;rw[List.append_nil]at this;exact congrArg (fun t:Sem (List (Str×Addr))=>t >>= fun cs=>pure cs) this
theorem J8{scope:Scope}{C:Addr}(he:Am env L ns)(hc:I6 L ns)(hk:scope.kind= .function)(hf:DG ns scope.names=true):
  closureFor scope env=pure ((scope.names.filter (·.2==.free)).map fun x=>(x.1,(AG L.cs x.1).getD 0)).reverse∧
  Am {newEnv scope C env.globals ((scope.names.filter (·.2==.free)).map fun x=>(x.1,(AG L.cs x.1).getD 0)).reverse env.qual none .none (some env) 0 with scope:=relabel scope env} ⟨C,L.cs⟩ (HW ns scope.names):=by
 unfold DG at hf;simp only[Bool.and_eq_true,List.all_eq_true]at hf;obtain⟨⟨h1,h2⟩,h3⟩:=hf
 have cap:∀x k,(x,k)∈scope.names→k= .free→ns.lookup x=some .cell:=fun x k hm e=>by
  have:=h1 (x,k) hm;subst e;simpa using this
 have hcell:∀x,ns.lookup x=some .cell→env.cells.lookup x=some ((AG L.cs x).getD 0):=fun x e=>by
  obtain⟨q1,q2⟩:=he.cl x (.inl e);refine rr q1 ?_
  cases z:AG L.cs x with
  |none=>exact absurd z q2
  |some a=>rfl
 refine⟨NG (fun x=>(AG L.cs x).getD 0) fun x hx e=>hcell _ (cap x.1 x.2 hx e),⟨hk,rfl,he.glob,he.blt,?_,?_,?_⟩⟩
 ·show(scope.names.map fun(n,k)=>if(k==.free&&env.scope.kind==.function&&env.kindOf n==some .cell)then(n,NameKind.cell)else(n,k))=HW ns scope.names;unfold HW;refine List.map_congr_left fun x _=>?_;obtain⟨n,k⟩:=x;simp only[he.kind,he.kof,beq_self_eq_true,Bool.and_true]
 ·intro x hx;rw[FU]at hx
  have hfree:scope.names.lookup x=some .free:=by
   rcases hx with e|e<;>obtain⟨k,e1,e2⟩:=Option.map_eq_some_iff.mp e<;>split at e2
   ·rename_i q;rw[Bool.and_eq_true]at q;exact rr e1 (rr (beq_iff_eq.mp q.1) rfl)
   ·subst e2;have:=h2 (x,.cell) (BW e1);simp at this
   ·cases e2
   ·exact rr e1 (rr e2 rfl)
  have hm:=BW hfree;have hn:=cap x .free hm rfl;obtain⟨q1,q2⟩:=he.cl x (.inl hn);refine⟨?_,q2⟩;show List.lookup x (((scope.names.filter (·.2==.free)).map fun x=>(x.1,(AG L.cs x.1).getD 0)).reverse)=AG L.cs x;rw[Kx (f:=fun x=>(AG L.cs x).getD 0)]
  ·cases z:AG L.cs x with
   |none=>exact absurd z q2
   |some a=>rfl
  ·intro p hp;obtain⟨y,_,rfl⟩:=List.mem_map.mp (List.mem_reverse.mp hp);rfl
  ·exact⟨_,List.mem_reverse.mpr (List.mem_map.mpr ⟨(x,.free),List.mem_filter.mpr ⟨hm,rfl⟩,rfl⟩)⟩
 ·intro x hx;rw[FU]at hx;obtain⟨k,e1,e2⟩:=Option.map_eq_some_iff.mp hx;split at e2
  ·cases e2
  subst e2;have:=h3 (x,.local) (BW e1);simp only[bne_self_eq_false,Bool.false_or,Bool.and_eq_true]at this
  cases z:AG L.cs x with
  |none=>rfl
  |some a=>
   have q:=hc x (by exact rr z (fun w=>nomatch w));rw[q]at this;simp at this
inductive Nz(c:Cx)(B:Ao)(L:BU)(ρ:AJ)(C D:Addr)(Q:List AV→AD→Prop)(s':Shared):Prop
 |mk (B':Ao) (S':AD) (acc:List AV) (m:Str→Option Value) (le:Le B B') (iv:A4 c B' (put S' D (.list acc)) s') (fr:A3 B' (put S' D (.list acc)) L ρ s') (hD:S' D=none) (hn:s'.heap.Ns C m) (hC:B' C=none∧put S' D (.list acc) C=none∧C∉L.own) (q:Q acc S'):Nz c B L ρ C D Q s'
theorem Kt{I:Addr}{xs:List AV}{g:AD→Prop}{St:Nat→Heap→Prop}{target elt iter:Expr}{ifs:List Expr}{scope:Scope}{cpos:Pos}{Q:List AV→AD→Prop}{RR:Value→Addr→Result→Shared→Prop}
  (he:Am env L ns) (hc:I6 L ns) (hk:scope.kind= .function) (hf:DG ns scope.names=true)
  (it:GC c I xs g B St) (rm:DO A n) (iv:A4 c B S s) (fr:A3 B S L ρ s) (hI:B I=none∧S I=none∧I∉L.own) (st:St 0 s.heap)
  (h:∀(Lc:BU) (cenv:Env),I6 L ns→Am cenv Lc (HW ns scope.names)→KG c n Lc cenv (Au ns ρ) target ifs elt g Q xs [] S)
  (hR:∀C D r s',True→∀f,r= .ok f→Nz c B L ρ C D Q s'→RR (.ref D) C r s'):
  wpAny (model c.prog c.w) A (newList []) (fun acc s₃=>wpAny (model c.prog c.w) A (newFunctionEnv scope env.globals ((scope.names.filter (·.2==.free)).map fun x=>(x.1,(AG L.cs x.1).getD 0)).reverse [] env.qual none .none (some env)) (fun cenv s₄=>
   codeAny (model c.prog c.w) A (.compStart (.ListComp elt [⟨target,iter,ifs,0⟩] scope cpos) 0 (.ref I) acc {cenv with scope:=relabel scope env}) (RR acc cenv.locals) s₄) Fa s₃) Fa s:=by
 have hcellS:∀y∈scope.names,y.2≠.cell:=fun y hy e=>by
  unfold DG at hf;simp only[Bool.and_eq_true,List.all_eq_true]at hf;have:=hf.1.2 y hy;rw[e]at this;simp at this
 refine wpAny_newObj_type (wpAny_newFunctionEnv hcellS (by intro y hy;simp at hy) (fun h₁ hns₁ hsb₁=>?_) hk) (Nat.zero_le _);dsimp only at hns₁ hsb₁ ⊢;generalize hH2:s.heap.push {cls:=.type "list",dict:=none,data:=.seq ([]:List Value).toArray}=H2 at hns₁ hsb₁ ⊢;have hC:H2.objs.size=s.heap.objs.size+1:=by exact rl hH2 (rr (Heap.size_push ..) rfl)
 have lt:∀a o,s.heap.get? a=some o→h₁.get? a=some o:=fun a o e=>by
  have hl:=Heap.lt_size e;refine rr (hsb₁.2 a (by rw[hC];exact Nat.ne_of_lt (Nat.lt_succ_of_lt hl))) ?_;exact Heap.get?_push_of_some _ (by exact rl hH2 (Heap.get?_push_of_some _ e))
 have hDobj:h₁.get? s.heap.objs.size=some ⟨.type "list",none,.seq #[] 0,#[]⟩:=by
  refine rr (hsb₁.2 _ (by rw[hC];exact Nat.ne_of_lt (Nat.lt_succ_self _))) ?_;exact Heap.get?_push_of_some _ (by exact rl hH2 (Heap.get?_push_size _ rfl))
 have notLt:∀a,s.heap.objs.size≤a→B a=none∧S a=none∧a∉L.own:=fun a ha=>by
  refine⟨?_,?_,fun q=>absurd (fr.lt a q) (Nat.not_lt.mpr ha)⟩
  ·cases e:B a with
   |none=>rfl
   |some o=>exact absurd (Heap.lt_size (iv.keep _ _ e)) (Nat.not_lt.mpr ha)
  ·cases e:S a with
   |none=>rfl
   |some o=>obtain⟨_,ob,e2,_⟩:=iv.own _ _ e;exact absurd (Heap.lt_size e2) (Nat.not_lt.mpr ha)
 have hCf:=notLt H2.objs.size (by exact rr hC (Nat.le_succ _));have hDf:=notLt s.heap.objs.size (Nat.le_refl _);obtain⟨oI,hoI,hnI⟩:=it.obj _ _ st;have hIlt:=Heap.lt_size hoI;obtain⟨oCo,es,ep,hCo,hCd,hCr⟩:=id hns₁;obtain⟨_,_,oL,hoL,hnL⟩:=fr.ow L.L (.head _);have nodL:=List.nodup_cons.mp fr.nd;have hDsys0:=iv.big;generalize hCa:H2.objs.size=C at*;generalize hDa:s.heap.objs.size=D at*;have iv1:A4 c B S {s with heap:=h₁,toks:=s.toks+([]:List (Str×Value)).length}:=iv.next fun a o _ e=>lt a o e;have hbC:Am {newEnv scope C env.globals ((scope.names.filter (·.2==.free)).map fun x=>(x.1,(AG L.cs x.1).getD 0)).reverse env.qual none .none (some env) 0 with scope:=relabel scope env} ⟨C,L.cs⟩ (HW ns scope.names):=(J8 he hc hk hf).2
 have fr1:A3 B S ⟨C,L.cs⟩ (Au ns ρ) {s with heap:=h₁,toks:=s.toks+([]:List (Str×Value)).length}:=by
  have hcs:∀p∈L.cs,h₁.get? p.2=s.heap.get? p.2:=fun p hp=>by
   obtain⟨o,v,e,_⟩:=fr.cl p hp;exact(lt _ _ e).trans e.symm
  refine⟨List.nodup_cons.mpr ⟨fun q=>hCf.2.2 (.tail _ q),nodL.2⟩,fun a ha=>?_,fun p hp=>?_,_,hns₁,fun x av e=>?_⟩
  ·rcases List.mem_cons.mp ha with rfl|ha
   ·exact⟨hCf.1,hCf.2.1,oCo,hCo,⟨fun _ vs n e=>(by rw[hCd]at e;cases e),fun _ vs e=>(by rw[hCd]at e;cases e)⟩⟩
   ·obtain⟨k1,k2,o,k3,k4⟩:=fr.ow a (.tail _ ha);exact⟨k1,k2,o,lt _ _ k3,k4⟩
  ·obtain⟨o,v,k1,k2⟩:=fr.cl p hp;exact⟨o,v,lt _ _ k1,k2⟩
  ·rw[BH]at e;split at e
   ·rename_i q;obtain⟨m,hm,hr⟩:=fr.ex;obtain⟨q1,q2⟩:=he.cl x (.inl q);exact⟨fun z=>absurd z q2,fun a z=>let ⟨o,v,p1,p2,p3⟩:=(hr x av e).2 a z;⟨o,v,lt _ _ p1,p2,p3⟩⟩
   ·cases e
 have hDsys:D≠sysModules:=hDsys0;have hCD:C≠D:=by exact Ww hC
 have hLne:L.L≠C∧L.L≠D:=⟨fun q=>hCf.2.2 (q▸.head _),fun q=>hDf.2.2 (q▸.head _)⟩
 have hid:GK B S ⟨C,L.cs⟩ [(L.L,oL)] {s with heap:=h₁,toks:=s.toks+([]:List (Str×Value)).length}:=by
  refine⟨by simp,fun p hp=>?_⟩;obtain rfl:=List.mem_singleton.mp hp;refine⟨(fr.ow L.L (.head _)).1,(fr.ow L.L (.head _)).2.1,fun q=>?_,lt _ _ hoL,hnL⟩;rcases List.mem_cons.mp q with q|q
  ·exact hLne.1 q
  ·exact nodL.1 q
 have hIC:I≠C:=Nat.ne_of_lt (Nat.lt_of_lt_of_le hIlt (by exact VU hC));have hID:I≠D:=Nat.ne_of_lt hIlt
 have hIown:I∉(⟨C,L.cs⟩:BU).own:=fun q=>by
  rcases List.mem_cons.mp q with q|q
  ·exact hIC q
  ·exact hI.2.2 (.tail _ q)
 have hDown:D∉(⟨C,L.cs⟩:BU).own:=fun q=>by
  rcases List.mem_cons.mp q with q|q
  ·exact hCD q.symm
  ·exact hDf.2.2 (.tail _ q)
 have st1:St 0 h₁:=it.loc _ _ _ st ((lt _ _ hoI).trans hoI.symm)
 have loop:=Oy (elt:=elt) (iter:=iter) (ifs:=ifs) (scope:=scope) (cpos:=cpos) (Q:=Q) it rm iv1 fr1 hid ⟨hI.1,hI.2.1,hIown⟩ ⟨hDf.1,hDf.2.1,hDown⟩ hID
  (by simp;exact fun q=>hI.2.2 (q▸.head _)) (by simp;exact fun q=>hLne.2 q.symm) ⟨0,hDobj⟩ st1 (h _ _ hc hbC)
 have fin:codeAny (model c.prog c.w) A (.compLoop (.ListComp elt [⟨target,iter,ifs,0⟩] scope cpos) 0 (.ref I) (.ref D) {newEnv scope C env.globals ((scope.names.filter (·.2==.free)).map fun x=>(x.1,(AG L.cs x.1).getD 0)).reverse env.qual none .none (some env) 0 with scope:=relabel scope env})
   (RR (.ref D) C) {s with heap:=h₁,toks:=s.toks+([]:List (Str×Value)).length}:=by
  refine codeAny_mono loop fun r s' hr=>?_;rcases r with e|fl
  ·exact hr.elim
  ·obtain⟨B',S',acc,vs,m,le,i',f',hb',hD',hd',rl,q⟩:=hr;refine hR C D _ s' trivial fl rfl ?_;obtain⟨bL,sL,_,gL,_⟩:=hb'.ok _ (.head _);obtain⟨nd',ow',cl',mC,hmC,exC⟩:=f'
   have i2:A4 c B' (put S' D (.list acc)) s':=by
    refine⟨i'.ok,i'.base,i'.keep,fun a o e=>?_,i'.gens,i'.os,i'.tk,(AA _ _ (fun q=>hDsys q.symm)).trans i'.sys⟩;by_cases z:a=D
    ·subst z;rw[AC]at e;cases e;exact⟨hD'.1,_,hd',_,_,rfl,rl⟩
    ·rw[AA _ _ z]at e;exact i'.own a o e
   refine⟨B',S',acc,mC,le,i2,?_,hD'.2,hmC,⟨(ow' C (.head _)).1,by rw[AA _ _ hCD];exact(ow' C (.head _)).2.1,hCf.2.2⟩,q⟩;have gL':s'.heap.get? L.L=s.heap.get? L.L:=gL.trans hoL.symm;obtain⟨m0,⟨o0,es0,ep0,h0,r0⟩,ex0⟩:=fr.ex;refine⟨fr.nd,fun a ha=>?_,cl',m0,⟨o0,es0,ep0,gL'.trans h0,r0⟩,fun x av e=>⟨fun z=>let ⟨v,p1,p2⟩:=(ex0 x av e).1 z;⟨v,p1,p2.mono le⟩,fun a z=>?_⟩⟩
   ·have hne:a≠D:=fun q=>hDf.2.2 (q▸ha);rcases List.mem_cons.mp ha with rfl|ha
    ·exact⟨bL,by rw[AA _ _ hne];exact sL,oL,gL,hnL⟩
    ·obtain⟨k1,k2,k3⟩:=ow' a (.tail _ ha);exact⟨k1,by rw[AA _ _ hne];exact k2,k3⟩
   ·have hcell:=hc x (by exact rr z (fun w=>nomatch w));have:AG (Au ns ρ) x=some av:=by exact rr (BH ..) (rr (if_pos hcell) e)
    exact(exC x av this).2 a z
 exact codeAny_compStart_list fin (wpAny_mono (it.self A _ 0 (fun v s'=>v= .ref I∧s'=_) st1 ⟨rfl,rfl⟩) (fun v s' ⟨e1,e2⟩=>by subst e1;subst e2;exact fin) fun _ _ x=>x.elim)
theorem Mv{scope:Scope}(hf:DG ns scope.names=true):∀x∈scope.names,x.2= .local→scope.names.lookup x.1=some .local:=fun x hx e=>by
 unfold DG at hf;simp only[Bool.and_eq_true,List.all_eq_true]at hf;have:=hf.2 x hx;rw[e]at this;simp only[bne_self_eq_false,Bool.false_or,Bool.and_eq_true]at this;exact beq_iff_eq.mp this.2
theorem Nm{target elt iter:Expr}{ifs:List Expr}{scope:Scope}{cpos:Pos}{Q:AV→AJ→AD→Prop}(he:Am env L ns)(hc:I6 L ns)(hk:scope.kind= .function)(hf:DG ns scope.names=true)
  (h:Ok c n L R (eval iter env) ρ S (fun x ρ1 S1=>∃xs g,Kd S1 x xs g∧∀Lc cenv,Am cenv Lc (HW ns scope.names)→
   KG c n Lc cenv (Au ns ρ1) target ifs elt g (fun acc S2=>∀D,S2 D=none→Q (.ref D) ρ1 (put S2 D (.list acc))) xs [] S1))
  (hs:∀x,foldedSetIterable iter env x=pure x:=by intro _;with_unfolding_all rfl):
  Ok c n L R (eval (.ListComp elt [⟨target,iter,ifs,0⟩] scope cpos) env) ρ S Q:=fun A B s rm i f=>by
 refine rr (eval_ListComp ..) ?_;refine wpAny_comprehension_free (use:=none) rfl hs (J8 (C:=0) he hc hk hf).1 hk (Mv hf) ?_;refine wpAny_mono (h A B s rm i f) ?_ fun _ _ x=>x;rintro v s1 ⟨B1,S1,ρ1,x,l1,i1,f1,r1,xs,g,hi,q1⟩;refine Lm i1 r1 hi fun o St it st hfr=>?_;have i2:A4 c B1 S1 {s1 with heap:=s1.heap.push o}:=i1.next (t:=s1.toks) fun _ _ _ e=>Heap.get?_push_of_some _ e;refine Kt he hc hk hf it rm i2 f1.push ⟨i1.newB,i1.newS,f1.newA⟩ st (fun Lc cenv _ hcenv=>q1 Lc cenv hcenv) ?_;intro C D r s' hr;intro f' hrf hend;subst hrf;obtain⟨B',S',acc,m,le,i',fr',hD',hn,⟨c1,c2,c3⟩,q⟩:=hend;exact⟨m,hn,fun h' hs'=>⟨B',_,ρ1,.ref D,l1.trans le,i'.ext (t:=s'.toks) c1 c2 hs'.extBut,fr'.ext (t:=s'.toks) c3 hs'.extBut,.ref D,q D hD'⟩⟩
theorem Cz{y:Str}{target elt iter:Expr}{ifs:List Expr}{scope:Scope}{py cpos pos:Pos}{Q:AF→AJ→AD→Prop}(he:Am env L ns)(hc:I6 L ns)(hk:scope.kind= .function)(hf:DG ns scope.names=true)
  (hsw:swapsWith (.ListComp elt [⟨target,iter,ifs,0⟩] scope cpos) (some (.Name y py)) pos.line env=pure true)
  (h:Ok c n L R (eval iter env) ρ S (fun x ρ1 S1=>∃xs g,Kd S1 x xs g∧∀Lc cenv,Am cenv Lc (HW ns scope.names)→
   KG c n Lc cenv (Au ns ρ1) target ifs elt g (fun acc S2=>∀D,S2 D=none→Qk c n L env (.Name y py) (.ref D) ρ1 (put S2 D (.list acc)) (Q .nx)) xs [] S1))
  (hs:∀x,foldedSetIterable iter env x=pure x:=by intro _;with_unfolding_all rfl):
  Ok c n L RF (exec (.Assign [.Name y py] (.ListComp elt [⟨target,iter,ifs,0⟩] scope cpos) pos) env) ρ S Q:=fun A B s rm i f=>by
 refine rr (exec_Assign_Name_used _ _ _ _ hsw) ?_;refine wpAny_bind (wpAny_standAt (wpAny_bind ?_));show wpAny _ A (do let _←comprehension (.ListComp elt [⟨target,iter,ifs,0⟩] scope cpos) scope env _ (newList []) false (eval iter env) (some (assign (.Name y py) env))) _ _ s;refine wpAny_bind (wpAny_mono (wpAny_comprehension_free (use:=some (assign (.Name y py) env)) (Q:=fun _ s'=>Po c B L RF Q .next s') (E:=Fa) rfl hs (J8 (C:=0) he hc hk hf).1 hk (Mv hf) ?_) (fun _ s' hq=>wpAny_pure (wpAny_pure hq)) fun _ _ e=>e);refine wpAny_mono (h A B s rm i f) ?_ fun _ _ x=>x;rintro v s1 ⟨B1,S1,ρ1,x,l1,i1,f1,r1,xs,g,hi,q1⟩;refine Lm i1 r1 hi fun o St it st hfr=>?_;have i2:A4 c B1 S1 {s1 with heap:=s1.heap.push o}:=i1.next (t:=s1.toks) fun _ _ _ e=>Heap.get?_push_of_some _ e;refine Kt he hc hk hf it rm i2 f1.push ⟨i1.newB,i1.newS,f1.newA⟩ st (fun Lc cenv _ hcenv=>q1 Lc cenv hcenv) ?_;intro C D r s' hr f' hrf hend;subst hrf;obtain⟨B',S',acc,m,le,i',fr',hD',hn,⟨c1,c2,c3⟩,q⟩:=hend;obtain⟨oC,es,ep,hoC,hdC,rC⟩:=hn;refine wpAny_mono (JF rU rm i' fr' c1 c2 c3 hoC ⟨fun _ vs n e=>(by rw[hdC]at e;cases e),fun _ vs e=>(by rw[hdC]at e;cases e)⟩ (q D hD' _ _ (.ref D))) ?_ fun _ _ x=>x;rintro _ s3 ⟨B3,S3,ρ3,_,l3,i3,f3,⟨k1,k2,k3⟩,_,q3⟩;exact⟨m,⟨oC,es,ep,k3,hdC,rC⟩,fun h' hs'=>⟨B3,S3,ρ3,.nx,l1.trans (le.trans l3),i3.ext (t:=s3.toks) k1 k2 hs'.extBut,f3.ext (t:=s3.toks) c3 hs'.extBut,.nx,q3⟩⟩
end
theorem Lq{α:Type}(x:Str):∀l:List (Str×α),AG l x=l.lookup x
 |[]=>rfl
 |(y,a)::r=>by
  refine rr (AN ..) (rr List.lookup_cons (rr (Lq x r) ?_));by_cases q:y=x
  ·subst q;simp
  ·refine rr (if_neg q) ?_;simp only[beq_false_of_ne (Ne.symm q)]
theorem KA{k:Str→Option NameKind}{x:Str}:∀{r:List (Str×Value)} {m:Str→Option Value},(∀p∈r,p.1≠x)→bindL k r m x=m x
 |[],_,_=>rfl
 |(n,v)::r,m,h=>by
  unfold bindL;refine rr (KA fun p hp=>h p (.tail _ hp)) ?_;split
  ·exact if_neg (Ne.symm (h _ (.head _)))
  ·rfl
theorem KJ{k:Str→Option NameKind}{x:Str}:∀{r:List (Str×Value)} {m:Str→Option Value},(∀p∈r,p.1≠x)→bindC k r m x=m x
 |[],_,_=>rfl
 |(n,v)::r,m,h=>by
  unfold bindC;refine rr (KJ fun p hp=>h p (.tail _ hp)) ?_;split
  ·rfl
  ·exact if_neg (Ne.symm (h _ (.head _)))
theorem M2{k:Str→Option NameKind}{x:Str}{v:Value}(hk:k x=some .local):∀{r:List (Str×Value)} {m:Str→Option Value},(r.map (·.1)).Nodup→(x,v)∈r→bindL k r m x=some v
 |(n,w)::r,m,hn,hm=>by
  rw[List.map_cons,List.nodup_cons]at hn;unfold bindL;rcases List.mem_cons.mp hm with e|e
  ·cases e;exact rr (KA (fun p hp q=>hn.1 (by have z:=List.mem_map_of_mem (f:=fun x:Str×Value=>x.1) hp;rw[q]at z;exact z))) (rr (if_pos hk) (if_pos rfl))
  ·exact M2 hk hn.2 e
theorem ME{k:Str→Option NameKind}{x:Str}{v:Value}(hk:k x≠some .local):∀{r:List (Str×Value)} {m:Str→Option Value},(r.map (·.1)).Nodup→(x,v)∈r→bindC k r m x=some v
 |(n,w)::r,m,hn,hm=>by
  rw[List.map_cons,List.nodup_cons]at hn;unfold bindC;rcases List.mem_cons.mp hm with e|e
  ·cases e;exact rr (KJ (fun p hp q=>hn.1 (by have z:=List.mem_map_of_mem (f:=fun x:Str×Value=>x.1) hp;rw[q]at z;exact z))) (rr (if_neg hk) (if_pos rfl))
  ·exact ME hk hn.2 e
set_option tactic.hygienic true in
theorem cellsFrom_key{x:Str}{a:Addr}:∀{names:Cm} {n:Nat} {acc:List (Str×Addr)},(x,a)∈cellsFrom n names acc→(x,.cell)∈names∨(x,a)∈acc
 |[],_,_,h=>.inr h
 |(y,k)::r,n,acc,h=>by
  unfold cellsFrom at h;split at h
  ·rename_i q;rcases cellsFrom_key h with z|z
   ·exact .inl (.tail _ z)
   ·rcases List.mem_cons.mp z with z|z
    ·cases z;exact rr (beq_iff_eq.mp q) (.inl (.head _))
    ·exact .inr z
  ·rcases cellsFrom_key h with z|z
   ·exact .inl (.tail _ z)
   ·exact .inr z
noncomputable abbrev Ug(ns:Cm)(mo:List (Str×Const)):Scope:={kind:=.function,names:=ns,isGenerator:=false,isCoroutine:=false,more:=mo}
noncomputable abbrev fdOf(nm qn:Str)(ps:Arguments)(body:List Stmt)(ns:Cm)(mo:List (Str×Const))(dV kV doc pm:Value)(an:Option Addr)(cdv ct:Value):FuncData:=
 {name:=nm,qualname:=qn,params:=ps,body:=.stmts body,scope:=Ug ns mo,globals:=mainGlobals,closure:=[],defaults:=dV,kwdefaults:=kV,doc:=doc,pyModule:=pm,annotations:=an,code:=cdv,closureTuple:=ct,builtins:=builtinsNs}
section
variable{α β γ δ:Type}{c:Cx}{n:Nat}{B B0 B1:Ao}{S:AD}{L:BU}{ρ:AJ}{rel:Ao→α→β→Prop}{s:Shared}{A:Around}{env:Env}{ns:Cm}
theorem UW{h:Heap}{a:Addr}{m:Str→Option Value}(hn:h.Ns a m):∃o,h.get? a=some o∧NT o:=by
 obtain⟨o,es,ep,ho,hd,_⟩:=hn;exact⟨o,ho,⟨fun _ vs n e=>(by rw[hd]at e;cases e),fun _ vs e=>(by rw[hd]at e;cases e)⟩⟩
set_option tactic.hygienic true in
theorem On{a:Addr}{oc:Value}{od:Option Addr}{osl:Array (Option Value)}{nm qn:Str}{ps:Arguments}{body:List Stmt}{names:List Str}{xs:List AV}{ns:Cm}{mo:List (Str×Const)}{dV kV doc pm cdv ct:Value}{an:Option Addr}{Q:AV→AD→Prop}
  (ho:c.K.lookup a=some ⟨oc,od,.func (fdOf nm qn ps body ns mo dV kV doc pm an cdv ct),osl⟩)
  (hcd:codeIn c.K cdv qn=true) (hfree:(ns.all fun x=>x.2 != .free)=true) (hns:(ns.map (·.1)).Nodup)
  (hbind:∀(vs:List Value),vs.length=xs.length→bindArgs (fdOf nm qn ps body ns mo dV kV doc pm an cdv ct) ⟨vs,[]⟩=pure (names.zip vs))
  (hnd:names.Nodup) (hlen:names.length=xs.length) (hloc:(names.all fun x=>(ns.lookup x==some .local)||(ns.lookup x==some .cell))=true)
  (h:∀L env,I6 L ns→Am env L ns→Ok c n L RF (execs body env) (names.zip xs) S (Fin Q)):Fp c (n+1) (.ref a) xs S Q:=by
 intro B vs r A s rm i;have hK:=i.K;have rl:=r.length;have hlen2:names.length≤vs.length:=by exact rr rl (rr hlen (Nat.le_refl _))
 have hbk:((names.zip vs).map (·.1))=names:=List.map_fst_zip hlen2
 have hbinds:((names.zip vs).all fun y=>(ns.lookup y.1==some .local)||(ns.lookup y.1==some .cell))=true:=by
  rw[List.all_eq_true]at hloc ⊢;exact fun y hy=>hloc _ (List.of_mem_zip (a:=y.1) (b:=y.2) hy).1
 refine codeAny_call_function rm.lt (hK _ _ ho) rfl rfl rfl rfl (codeRec_of hK hcd) ?_;refine rr (hbind vs rl) ?_;refine wpAny_pure (BO (wpAny_newFunctionEnv_cells rfl (kindsX (scope:=Ug ns mo) hbinds _) fun env henv s' x htk=>?_));subst henv;obtain⟨h₁,tk,rfl,hk₁⟩:=x.done;refine⟨(i.ok.lim.keeps i.gkeep).keeps hk₁,codeAny_func ?_⟩;have i0:A4 c B S {s with heap:=h₁,toks:=tk}:=i.next (ht:=htk) fun a o _ e=>hk₁ a o e
 have keyIn:∀{x:Str} {b:Addr},(x,b)∈cellsFrom (s.heap.objs.size+1) ns []→ns.lookup x=some .cell:=fun hm=>by
  rcases cellsFrom_key hm with e|e
  ·exact Dd hns e
  ·cases e
 have he:Am (newEnv (Ug ns mo) s.heap.objs.size mainGlobals (cellsFrom (s.heap.objs.size+1) ns []) (qn++".<locals>.") (some a) cdv none builtinsNs)
   ⟨s.heap.objs.size,cellsFrom (s.heap.objs.size+1) ns []⟩ ns:=by
  refine⟨rfl,rfl,rfl,rfl,rfl,fun x hx=>⟨(Lq _ _).symm,?_⟩,fun x hx=>?_⟩
  ·rcases hx with e|e
   ·refine rr (Lq ..) ?_;have:=cellsFrom_some (x:=x) ns (s.heap.objs.size+1) [] (.inl e);intro z;rw[z]at this;cases this
   ·have:=List.all_eq_true.mp hfree _ (BW e);simp at this
  ·cases z:AG (cellsFrom (s.heap.objs.size+1) ns []) x with
   |none=>rfl
   |some a=>have:=keyIn (look_mem z);rw[hx]at this;cases this
 have hcs:I6 ⟨s.heap.objs.size,cellsFrom (s.heap.objs.size+1) ns []⟩ ns:=fun x hx=>by
  cases z:AG (cellsFrom (s.heap.objs.size+1) ns []) x with
  |none=>exact absurd z hx
  |some a=>exact keyIn (look_mem z)
 have hkn:((cellsFrom (s.heap.objs.size+1) ns []).map (·.1)).Nodup:=by
  have gen:∀(l:Cm) (k:Nat) (acc:List (Str×Addr)),(l.map (·.1)).Nodup→(acc.map (·.1)).Nodup→(∀x∈acc.map (·.1),x∉l.map (·.1))→((cellsFrom k l acc).map (·.1)).Nodup:=by
   intro l
   induction l with
   |nil=>intro k acc _ h2 _;exact h2
   |cons p l ih=>
    intro k acc h1 h2 h3;obtain⟨y,kd⟩:=p;rw[List.map_cons,List.nodup_cons]at h1;unfold cellsFrom;split
    ·refine ih _ _ h1.2 ?_ ?_
     ·refine rr List.map_cons ?_;rw[List.nodup_cons];exact⟨fun q=>h3 y q (by simp),h2⟩
     ·intro x hx;rw[List.map_cons]at hx;rcases List.mem_cons.mp hx with rfl|hx
      ·exact h1.1
      ·exact fun q=>h3 x hx (by exact rr List.map_cons (.tail _ q))
    ·exact ih _ _ h1.2 h2 fun x hx q=>h3 x hx (by exact rr List.map_cons (.tail _ q))
  exact gen _ _ _ hns .nil fun x hx=>nomatch hx
 have cell:∀p∈cellsFrom (s.heap.objs.size+1) ns [],h₁.IsCell p.2 (bindC (fun x=>ns.lookup x) (names.zip vs) (fun _=>none) p.1):=fun p hp=>x.cell p.1 p.2 (Dd hkn hp);have hLlt:∀p∈cellsFrom (s.heap.objs.size+1) ns [],s.heap.objs.size<p.2:=fun p hp=>x.above p.1 p.2 hp
 have fresh:∀a,s.heap.objs.size≤a→B a=none∧S a=none:=fun a ha=>by
  constructor
  ·cases e:B a with
   |none=>rfl
   |some o=>exact absurd (Heap.lt_size (i.keep _ _ e)) (Nat.not_lt.mpr ha)
  ·cases e:S a with
   |none=>rfl
   |some o=>obtain⟨_,ob,e2,_⟩:=i.own _ _ e;exact absurd (Heap.lt_size e2) (Nat.not_lt.mpr ha)
 have f0:A3 B S ⟨s.heap.objs.size,cellsFrom (s.heap.objs.size+1) ns []⟩ (names.zip xs) {s with heap:=h₁,toks:=tk}:=by
  refine⟨List.nodup_cons.mpr ⟨fun q=>?_,?_⟩,fun a ha=>?_,fun p hp=>?_,_,x.toInCall.ns,fun y av e=>?_⟩
  ·obtain⟨p,hp,e⟩:=List.mem_map.mp q;exact Nat.lt_irrefl _ (e▸hLlt p hp)
  ·exact List.pairwise_map.mpr x.apart
  ·rcases List.mem_cons.mp ha with rfl|ha
   ·exact⟨(fresh _ (Nat.le_refl _)).1,(fresh _ (Nat.le_refl _)).2,UW x.toInCall.ns⟩
   ·obtain⟨p,hp,rfl⟩:=List.mem_map.mp ha;obtain⟨o,ho',hd'⟩:=cell p hp;exact⟨(fresh _ (Nat.le_of_lt (hLlt p hp))).1,(fresh _ (Nat.le_of_lt (hLlt p hp))).2,o,ho',⟨fun _ vs n e=>(by rw[hd']at e;cases e),fun _ vs e=>(by rw[hd']at e;cases e)⟩⟩
  ·obtain⟨o,ho',hd'⟩:=cell p hp;exact⟨o,_,ho',hd'⟩
  ·obtain⟨v,hv,rv⟩:=LW r e;have hmem:y∈names:=(List.of_mem_zip hv).1;have hkd:=List.all_eq_true.mp hloc y hmem;refine⟨fun z=>⟨v,?_,rv⟩,fun b z=>?_⟩
   ·have hl:ns.lookup y=some .local:=by
     rcases Bool.or_eq_true_iff.mp hkd with q|q
     ·exact beq_iff_eq.mp q
     ·exact absurd z (he.cl y (.inl (beq_iff_eq.mp q))).2
    exact M2 (k:=fun x=>ns.lookup x) hl (by exact rr hbk hnd) hv
   ·have hcy:=keyIn (look_mem z);obtain⟨o,ho',hd'⟩:=cell (y,b) (look_mem z);refine⟨o,v,ho',?_,rv⟩;exact rr hd' (rr (ME (k:=fun x=>ns.lookup x) (by rw[hcy];exact fun q=>nomatch q) (by rw[hbk];exact hnd) hv) rfl)
 refine wpAny_mono (h _ _ hcs he _ B _ rm.deeper i0 f0) ?_ fun _ _ x=>x.elim;rintro fl s' ⟨B',S',ρ',b,l,i',f',r',q⟩;cases r'
 ·exact⟨B',S',_,l,i',.none,q⟩
 ·exact⟨B',S',_,l,i',.none,q⟩
 ·exact⟨B',S',_,l,i',.none,q⟩
 ·rename_i r';exact⟨B',S',_,l,i',r',q⟩
theorem K2{a:Addr}{oc:Value}{od:Option Addr}{osl:Array (Option Value)}{nm qn:Str}{ps:Arguments}{body:List Stmt}{names:List Str}{xs dx:List AV}{dv:List Value}{ns:Cm}{mo:List (Str×Const)}{dV kV doc pm cdv ct:Value}{an:Option Addr}{Q:AV→AD→Prop}
  (ho:c.K.lookup a=some ⟨oc,od,.func (fdOf nm qn ps body ns mo dV kV doc pm an cdv ct),osl⟩)
  (hcd:codeIn c.K cdv qn=true) (hfree:(ns.all fun x=>x.2 != .free&&x.2 != .cell)=true)
  (hbind:∀(s:Shared) (vs:List Value),vs.length=xs.length→c.K.In s.heap→BindsTo s (fdOf nm qn ps body ns mo dV kV doc pm an cdv ct) ⟨vs,[]⟩ (names.zip (vs++dv))) (hdv:∀B,RL B dv dx)
  (hnd:names.Nodup) (hlen:names.length=xs.length+dx.length) (hloc:(names.all fun x=>ns.lookup x==some .local)=true)
  (h:∀L env,I6 L ns→Am env L ns→Ok c n L RF (execs body env) (names.zip (xs++dx)) S (Fin Q)):Fp c (n+1) (.ref a) xs S Q:=by
 have hfr:=List.all_eq_true.mp hfree;refine Qf ho rfl hcd rfl rfl rfl rfl rfl rfl (fun x hx e=>?_) (fun x e=>?_) hbind hdv hnd hlen hloc fun L env hL he=>h L env (fun x hx=>absurd (by refine rr hL ?_;rfl) hx) he
 ·have:=hfr x hx;rw[e]at this;simp at this
 ·have:=hfr _ (BW e);simp at this
end
section
variable{α β γ δ:Type}{c:Cx}{n:Nat}{B B0 B1:Ao}{S:AD}{L:BU}{ρ:AJ}{rel:Ao→α→β→Prop}{s:Shared}{A:Around}{env:Env}{ns:Cm}{Q:AV→AD→Prop}
theorem A4.new{h':Heap}{t:Nat}{ob:Obj}{o:AO}(i:A4 c B S s)(hk:∀a ob',a≠s.heap.objs.size→s.heap.get? a=some ob'→h'.get? a=some ob')(ho:h'.get? s.heap.objs.size=some ob)(is:Is c B ob o)(ht:s.toks≤t:=by first|exact Nat.le_refl _|exact Nat.le_succ _|exact Nat.le_add_right _ _|lia):
  A4 c B (put S s.heap.objs.size o) {s with heap:=h',toks:=t}:=by
 have i1:A4 c B S {s with heap:=h',toks:=t}:=i.next (ht:=ht) fun a ob' _ e=>hk a ob' (Nat.ne_of_lt (Heap.lt_size e)) e;refine⟨i1.ok,i1.base,i1.keep,fun a o' e=>?_,i1.gens,i1.os,i1.tk,(AA _ _ (fun q=>i.big q.symm)).trans i1.sys⟩;by_cases q:a=s.heap.objs.size
 ·subst q;rw[AC]at e;cases e;exact⟨i.newB,ob,ho,is⟩
 ·rw[AA _ _ q]at e;exact i1.own a o' e
theorem EM{a:Addr}{l:List (Str×AV)}(i:A4 c B S s)(h:S a=some (.dict l)):B a=none∧∃kvs,s.heap.DictOf (PySem.strKind c.prog c.w) a kvs∧RD B kvs l:=by
 obtain⟨hb,ob,e1,kvs,e2,r⟩:=i.own _ _ h;exact⟨hb,kvs,Heap.dictOf_iff.mpr ⟨ob,e1,e2⟩,r⟩
theorem IU{a:Addr}{o:AO}(i:A4 c B S s)(h:S a=some o):(a==sysModules)=false:=by
 have:a≠sysModules:=(by first|exact As h i.sys|exact(As i.sys h).symm)
 simpa using this
theorem IQ{a:Addr}{l:List (Str×AV)}{k:Str}(ha:S a=some (.dict l))(h:Q (.bool (AG l k).isSome) S):Cn c n (compareOp .In) R (.str k) (.ref a) S Q:=Hn rfl rfl fun B t1 t2 A s rm iv=>by
 obtain⟨_,kvs,hd,r⟩:=EM iv ha;refine wpAny_in_of (PySem.strKind_is _ _ _ _) (IU iv ha) hd.mapOf (AU iv.toks ?_ h)
 have e:(PySem.valueAt kvs k).isSome=(AG l k).isSome:=by
  cases q:AG l k with
  |none=>refine rr ((r.at (k:=k)).2 q) ?_;rfl
  |some x=>obtain⟨v,e,_⟩:=(r.at (k:=k)).1 q;refine rr e ?_;rfl
 exact rr e (.bool _)
theorem Ox{a:Addr}{l:List (Str×AV)}{k:Str}(ha:S a=some (.dict l))(h:Q (.bool (!(AG l k).isSome)) S):Cn c n (compareOp .NotIn) R (.str k) (.ref a) S Q:=Hn rfl rfl fun B t1 t2 A s rm iv=>by
 obtain⟨_,kvs,hd,r⟩:=EM iv ha;refine wpAny_notIn_of (PySem.strKind_is _ _ _ _) (IU iv ha) hd.mapOf (AU iv.toks ?_ h)
 have e:(PySem.valueAt kvs k).isSome=(AG l k).isSome:=by
  cases q:AG l k with
  |none=>refine rr ((r.at (k:=k)).2 q) ?_;rfl
  |some x=>obtain⟨v,e,_⟩:=(r.at (k:=k)).1 q;refine rr e ?_;rfl
 exact rr e (.bool _)
theorem Ja{a:Addr}{l:List (Str×AV)}{k:Str}{x:AV}(ha:S a=some (.dict l))(hx:AG l k=some x)(h:Q x S):Cn c n getItem R (.ref a) (.str k) S Q:=Hn rfl rfl fun B t1 t2 A s rm iv=>by
 obtain⟨_,kvs,hd,r⟩:=EM iv ha;obtain⟨v,e,rv⟩:=(r.at (k:=k)).1 hx;exact wpAny_getItem_of (PySem.strKind_is _ _ _ _) hd.mapOf e (AU iv.toks rv h)
noncomputable def Lp(l:List (Str×AV))(k:Str)(x:AV):List (Str×AV):=if l.any (fun p=>p.1=k)then l.map (fun p=>if p.1=k then(p.1,x)else p)else l++[(k,x)]
theorem RD.stored{kvs:List (Str×Value)}{l:List (Str×AV)}{k:Str}{v:Value}{x:AV}(r:RD B kvs l)(rx:R B v x):RD B (PySem.stored kvs k v) (Lp l k x):=by
 have hany:kvs.any (fun p=>decide (p.1=k))=l.any (fun p=>decide (p.1=k)):=by
  induction r with
  |nil=>rfl
  |cons _ _ ih=>exact rr List.any_cons (rr List.any_cons (rr ih rfl))
 unfold PySem.stored Lp;refine rr hany ?_;split
 ·clear hany;rename_i q;clear q
  induction r with
  |nil=>exact .nil
  |cons h _ ih=>
   refine rr List.map_cons (rr List.map_cons ?_);dsimp only;split
   ·exact .cons rx ih
   ·exact .cons h ih
 ·clear hany;rename_i q;clear q
  induction r with
  |nil=>exact .cons rx .nil
  |cons h _ ih=>exact .cons h ih
theorem MQ{a:Addr}{l l':List (Str×AV)}{kvs:List (Str×Value)}{h':Heap}{t:Nat}(i:A4 c B S s)(ha:S a=some (.dict l))(hs:Heap.SameBut a s.heap h')(hd:h'.DictOf (PySem.strKind c.prog c.w) a kvs)(r:RD B kvs l')(ht:s.toks≤t:=by first|exact Nat.le_refl _|exact Nat.le_succ _|exact Nat.le_add_right _ _|lia):
  A4 c B (put S a (.dict l')) {s with heap:=h',toks:=t}:=by
 obtain⟨o,ho,hd'⟩:=Heap.dictOf_iff.mp hd;exact i.upd (ht:=ht) (fun q=>by rw[ha]at q;cases q) hs ⟨o,ho,kvs,hd',r⟩
theorem RD.length{kvs:List (Str×Value)}{l:List (Str×AV)}(r:RD B kvs l):kvs.length=l.length:=by
 induction r with
 |nil=>rfl
 |cons _ _ ih=>exact rr List.length_cons (rr List.length_cons (rr ih rfl))
theorem Lj{a:Addr}{l:List (Str×AV)}{k:Str}{x:AV}{Q:Unit→AD→Prop}(ha:S a=some (.dict l))(hn:l.length≤1000)(h:Q () (put S a (.dict (Lp l k x)))):Ut c n setItem Kl (.ref a) (.str k) x S Q:=eR rfl rfl fun B t1 t2 u r3 A s rm iv=>by
 obtain⟨_,kvs,hd,r⟩:=EM iv ha;exact wpAny_setItem_pairs (PySem.strKind_is _ _ _ _) hd (fun h' hd' hs=>⟨B,_,(),Le.refl _,MQ iv ha hs hd' (r.stored r3),trivial,h⟩) (by exact rr r.length (rr sizeLine_eq (Nn hn)))
theorem OM{a:Addr}{l:List (Str×AV)}{k:Str}(ha:S a=some (.dict l))(h:Q ((AG l k).getD .none) S):AM c n (.builtin "dict.get") [.ref a,.str k] S Q:=M4 rfl rfl fun B t1 t2 A s rm iv=>by
 obtain⟨_,kvs,hd,r⟩:=EM iv ha;refine call_meetsIn F.slot_dict_get (hd.mapOf.typeIs) F.entry_dict_get (F.args_dict_get_2 _ _) (meets_dict_get (PySem.strKind c.prog c.w) a (PySem.strKind_is _ _ _ _) (IU iv ha)) ⟨_,hd.mapOf,?_⟩;refine AU iv.toks ?_ h
 cases q:AG l k with
 |none=>exact rr ((r.at (k:=k)).2 q) .none
 |some x=>obtain⟨v,e,rv⟩:=(r.at (k:=k)).1 q;exact rr e rv
noncomputable def Rr(l:List (Str×AV))(k:Str):List (Str×AV):=l.filter fun p=>decide (p.1≠k)
theorem OV{a:Addr}{l:List (Str×AV)}{k:Str}{x:AV}(ha:S a=some (.dict l))(hx:AG l k=some x)(hn:l.length≤1000)(h:Q x (put S a (.dict (Rr l k)))):AM c n (.builtin "dict.pop") [.ref a,.str k] S Q:=M4 rfl rfl fun B t1 t2 A s rm iv=>by
 obtain⟨_,kvs,hd,r⟩:=EM iv ha;obtain⟨v,e,rv⟩:=(r.at (k:=k)).1 hx;refine call_meetsIn F.slot_dict_pop (hd.mapOf.typeIs) F.entry_dict_pop (F.args_dict_pop_2 _ _) (meets_dict_pop_there (PySem.strKind c.prog c.w) a (PySem.strKind_is _ _ _ _) [] (.inl rfl) rfl) ⟨kvs,v,hd,by rw[r.length,sizeLine_eq];exact Nn hn,e,fun h' hd' hs=>?_⟩;refine⟨B,_,x,Le.refl _,MQ iv ha hs hd' ?_,rv,h⟩;clear hn hd' hd e rv hx h ha;unfold PySem.without Rr
 induction r with
 |nil=>exact .nil
 |cons h _ ih=>
  rw[List.filter_cons,List.filter_cons];dsimp only;split
  ·exact .cons h ih
  ·exact ih
theorem Me{a:Addr}{l:List (Str×AV)}(ha:S a=some (.dict l))(hn:l.length≤1000)(h:∀d,S d=none→Q (.ref d) (put S d (.dict l))):AM c n (.type "dict") [.ref a] S Q:=HR rfl fun B t1 A s rm iv=>by
 obtain⟨_,kvs,hd,r⟩:=EM iv ha;refine kt_call_dict (IU iv ha) hd (by exact rr r.length (rr sizeLine_eq (Nn hn))) fun h' hd' hs=>?_;obtain⟨o,ho,hd2⟩:=Heap.dictOf_iff.mp hd';exact⟨B,_,.ref _,Le.refl _,iv.new (t:=s.toks) (o:=.dict l) (fun a ob hne e=>(hs.2 a hne).trans (Heap.get?_push_of_some _ e)) ho ⟨kvs,hd2,r⟩,.ref _,h _ iv.newS⟩
theorem Ju{a:Addr}{l:List AV}(ha:S a=some (.list l))(hn:l.length≤10000)(h:∀d,S d=none→Q (.ref d) (put S d (.list l))):AM c n (.type "list") [.ref a] S Q:=HR rfl fun B t1 A s rm iv=>by
 obtain⟨_,vs,m,e1,r⟩:=BS iv ha;have hsz:vs.size=l.length:=by exact rl Array.length_toList r.length
 refine call_list_seq (hsz:=by exact rr hsz (rr sizeLine_eq (ST hn))) a (.inl rfl) e1 rfl rfl fun h' c' hk hD=>?_;exact⟨B,_,.ref _,Le.refl _,iv.new (t:=s.toks) (o:=.list l) (fun a ob _ e=>hk a ob e) hD ⟨_,_,rfl,r⟩,.ref _,h _ iv.newS⟩
theorem E0{a:Addr}{l:List AV}(ha:S a=some (.list l))(hn:l.length≤10000)(h:Q (.tup l) S):AM c n (.type "tuple") [.ref a] S Q:=HR rfl fun B t1 A s rm iv=>by
 obtain⟨_,vs,m,e1,r⟩:=BS iv ha;have hsz:vs.size=l.length:=by exact rl Array.length_toList r.length
 refine call_tuple_list ⟨_,e1,rfl,m,rfl⟩ (fun h' hk=>?_) (by exact rr hsz (rr sizeLine_eq (ST hn)));have i1:A4 c B S {s with heap:=h'}:=iv.next (t:=s.toks) fun a o _ e=>hk a o e;obtain⟨p1,p2,p3⟩:=i1.pushT r;refine⟨_,S,.tup l,p1,?_,p3,h⟩
 simpa using p2
end
section
variable{α β γ δ:Type}{c:Cx}{n:Nat}{B B0 B1:Ao}{S:AD}{L:BU}{ρ:AJ}{rel:Ao→α→β→Prop}{s:Shared}{A:Around}{env:Env}{ns:Cm}{Q:AV→AD→Prop}
structure BM(T:String)(name:Str)(id:String):Prop where
 pa:PlainAttrs T
 slot:Slot T name id
 hty:typeOf (.builtin id)=pure (.type "method_descriptor")
noncomputable def VJ(S:AD):AV→String→Prop
 |.str _,T=>T="str"
 |.ref a,T=>(∃l,S a=some (.list l)∧T="list")∨(∃l,S a=some (.dict l)∧T="dict")
 |_,_=>False
theorem A4.tyM{v:Value}{x:AV}{T:String}(i:A4 c B S s)(r:R B v x)(h:VJ S x T):s.TypeIs v T∧∀a,v= .ref a→∃o,s.heap.get? a=some o∧o.dict=none:=by
 have z:=r.inv
 cases x with
 |str x=>cases h;obtain⟨t⟩:=z;exact⟨typeIs_str _ _ _,fun _ e=>nomatch e⟩
 |ref a=>
  cases z;rcases h with⟨l,h,rfl⟩|⟨l,h,rfl⟩
  ·obtain⟨_,ob,e,vs,m,rfl,r⟩:=i.own _ _ h;exact⟨⟨_,e,rfl⟩,fun _ q=>by cases q;exact⟨_,e,rfl⟩⟩
  ·obtain⟨_,ob,e,kvs,⟨es,ep,hx,_⟩,r⟩:=i.own _ _ h;exact⟨⟨_,e,hx.1⟩,fun _ q=>by cases q;exact⟨_,e,hx.2.1⟩⟩
 |none|bool|int|cs|bi|ty|tup|sl|rg=>cases h
structure fL(c:Cx)(n:Nat)(L:BU)(env:Env)(T id:String)(pos:Pos)(args:List Expr)(Q:AV→AJ→AD→Prop)(ov:AV)(ρ:AJ)(S:AD):Prop where
 m:VJ S ov T
 h:Ok c n L RL (spliced (backTo pos (starEach args env))) ρ S (Ue c n (.builtin id) ov Q)
theorem AY{o:Expr}{name:Str}{apos pos:Pos}{args:List Expr}{T id:String}{Q:AV→AJ→AD→Prop}(hm:BM T name id)
  (h:Ok c n L R (eval o env) ρ S (fL c n L env T id pos args Q))
  (he:∀pl:Sem Bool,pl=(do return (←importBound o env).getD true)→eval (.Call (.Attribute o name apos) args [] pos) env=(do
   let ov←eval o env
   standAt apos.atName
   let (f,first)←holding [ov] (getMethod ov name pl)
   callWith pos f first (backTo pos (starEach args env)) (backToKw pos (keywordEach [] env))):=by intro _ e;subst e;rfl)
  (hplain:(backTo pos (starEach args env)).any (·.1)=false:=by kernel_rfl):
  Ok c n L R (eval (.Call (.Attribute o name apos) args [] pos) env) ρ S Q:=fun A B s rm i fr=>
 methodCall_KW (wpAny_mono (h A B s rm i fr) (fun v s1 ⟨B1,S1,ρ1,x,l1,i1,f1,r1,h1,q1⟩=>by
  obtain⟨ht,hd⟩:=i1.tyM r1 h1
  exact getMethod_builtin ht hm.pa hm.slot hm.hty hd (wpAny_mono (GN (first:=[v]) (fx:=[x]) (Jb id) rm i1 f1 (.cons r1 .nil) q1 hplain) (fun _ _=>Po.up l1) fun _ _ x=>x)) fun _ _ x=>x) (he _ rfl)
theorem Al:BM "list" "append" "list.append":=⟨F.plainAttrs_list,F.slot_list_append,F.type_list_append⟩
theorem NU:BM "list" "pop" "list.pop":=⟨F.plainAttrs_list,F.slot_list_pop,F.type_list_pop⟩
theorem OZ:BM "dict" "pop" "dict.pop":=⟨F.plainAttrs_dict,F.slot_dict_pop,F.type_dict_pop⟩
theorem OT:BM "dict" "get" "dict.get":=⟨F.plainAttrs_dict,F.slot_dict_get,F.type_dict_get⟩
theorem Jy:BM "str" "replace" "str.replace":=⟨F.plainAttrs_str,F.slot_str_replace,F.type_str_replace⟩
theorem GL:BM "str" "split" "str.split":=⟨F.plainAttrs_str,F.slot_str_split,F.type_str_split⟩
theorem Hp:BM "str" "join" "str.join":=⟨F.plainAttrs_str,F.slot_str_join,F.type_str_join⟩
theorem E3:BM "str" "index" "str.index":=⟨F.plainAttrs_str,F.slot_str_index,F.type_str_index⟩
theorem CC{x y:Str}{k k':Nat}{p p' pos:Pos}{Q:List AV→AJ→AD→Prop}(h:∀t u,t≠0→u≠0→t≠u→Q [.cs x t,.cs y u] ρ S):
  Ok c n L RL (spliced (backTo pos (starEach [.Constant (.str x) k p,.Constant (.str y) k' p'] env))) ρ S Q:=fun A B s rm iv f=>by
 have tk:=iv.tk;refine wpAny_items_cons (wpAny_Constant_str ?_) rfl;refine wpAny_items_cons (wpAny_Constant_str ?_) rfl;exact wpAny_items_nil ⟨B,S,ρ,[.cs x s.toks,.cs y (s.toks+1)],Le.refl _,iv.toks (t:=s.toks+1+1) (ht:=by exact QJ),f.toks,.cons (.cs _ _) (.cons (.cs _ _) .nil),h _ _ (Nat.pos_iff_ne_zero.mp tk) (Nat.succ_ne_zero _) (Nat.ne_of_lt (Nat.lt_succ_self _))⟩
theorem Ky{x y z:Str}{t u:Tok}(ht:t≠0)(hu:u≠0)(htu:t≠u)(hyz:(y==z)=false)(hb:x.length+(x.length+1)*z.length≤16777216)(h:Q (.str (Txt.replace x y z)) S):
  AM c n (.builtin "str.replace") [.str x,.cs y t,.cs z u] S Q:=Uj rfl rfl rfl fun B t1 t2 t3 A s rm iv=>by
 exact BO (SC.replace ht hu htu hyz hb fun t' k hk=>AU (s:={s with toks:=k}) (iv.toks (ht:=hk)) (.str _ _) h)
theorem RL.strs{vs:List Value}{l:List Str}(r:RL B vs (l.map .str)):∃q:List (Str×Tok),vs=strValues q∧q.map (·.1)=l:=by
 induction l generalizing vs with
 |nil=>exact⟨[],r.nil_inv,rfl⟩
 |cons x l ih=>
  obtain⟨v,ws,e,a,r⟩:=r.cons_inv;obtain⟨t,e0⟩:=a.str_inv;obtain⟨q,e1,e2⟩:=ih r;exact⟨(x,t)::q,by refine rr e (rr e0 (rr e1 ?_));rfl,by exact rr List.map_cons (rr e2 rfl)⟩
theorem RL.of_strs:∀(q:List (Str×Tok)),RL B (strValues q) ((q.map (·.1)).map .str)
 |[]=>.nil
 |(x,t)::q=>.cons (.str x t) (RL.of_strs q)
theorem KE{x:Str}{a:Addr}{l:List Str}(ha:S a=some (.list (l.map .str)))(hj:JoinOk x l=true)(h:Q (.str (Txt.join x l)) S):
  AM c n (.builtin "str.join") [.str x,.ref a] S Q:=M4 rfl rfl fun B t1 t2 A s rm iv=>by
 obtain⟨_,vs,m,e1,r⟩:=BS iv ha;obtain⟨q,e2,e3⟩:=r.strs;refine BO (SC.join (l:=q) (texts:=l) ⟨_,e1,rfl,m,?_⟩ e3 hj fun t' k hk=>AU (s:={s with toks:=k}) (iv.toks (ht:=hk)) (.str _ _) h);exact rl e2 rfl
theorem Hv{x y:Str}(hy:(y.length==0)=false)(hn:x.length≤100000)(hn2:(Builtin.Str.partsBetween x (Builtin.Str.occurrences x y 0 x.length (x.length+1)) y.length).length≤100000)
  (h:∀a,S a=none→Q (.ref a) (put S a (.list ((Txt.split x y).map .str)))):AM c n (.builtin "str.split") [.str x,.str y] S Q:=M4 rfl rfl fun B t u A s rm iv=>by
 have key:∀(q:List (Str×Tok)) (k:Nat),s.toks≤k→q.map (·.1)=Txt.split x y→Pb c B R Q (.ref s.heap.objs.size) {s with heap:=s.heap.push {cls:=.type "list",data:=.seq (strValues q).toArray 0},toks:=k}:=fun q k hk e=>by
  refine⟨B,put S s.heap.objs.size (.list ((Txt.split x y).map .str)),.ref _,Le.refl _,?_,.ref _,h _ iv.newS⟩;exact(iv.pushL (o:=.list ((Txt.split x y).map .str)) ⟨_,_,rfl,by exact rl e (RL.of_strs q)⟩ rfl).toks (t:=k) hk
 refine BO ?_;cases h1:(decide (x.length<y.length)||decide (Builtin.Str.strKind x<Builtin.Str.strKind y))
 ·cases hf:(Builtin.Str.occurrences x y 0 x.length (x.length+1)).isEmpty
  ·refine call_meets F.slot_str_split (typeIs_str _ _ _) F.entry_str_split (F.args_str_split_2 _ _) (meets_str_split_sep x y t u h1 hy hf (Uw (WO hn)) (Uw (WO hn2))) ?_;show _→_;intro hk;refine rr (strsFrom_eq ..) ?_;exact key (numbered s.toks _) _ hk ((numbered_texts _ _).trans ((if_neg (ne_true_of_eq_false h1)).trans (if_neg (ne_true_of_eq_false hf))).symm)
  ·exact call_meets F.slot_str_split (typeIs_str _ _ _) F.entry_str_split (F.args_str_split_2 _ _) (meets_str_split_not_found x y t u h1 hy hf)
    (fun hk=>key [(x,t)] s.toks (Nat.le_refl _) ((if_neg (ne_true_of_eq_false h1)).trans (if_pos hf)).symm)
 ·exact call_meets F.slot_str_split (typeIs_str _ _ _) F.entry_str_split (F.args_str_split_2 _ _) (meets_str_split_cannot_occur x y t u h1)
   (fun hk=>key [(x,t)] s.toks (Nat.le_refl _) (if_pos h1).symm)
theorem Rf{x y:Str}{i:Nat}{rest:List Nat}(ho:Builtin.Str.occurrences x y 0 x.length 1=i::rest)(h:Q (.int i) S):AM c n (.builtin "str.index") [.str x,.str y] S Q:=M4 rfl rfl fun B t1 t2 A s rm iv=>by
 exact SC.index ho (AU iv.toks (.int _ _) h)
theorem IF(x y:Str)(i:Int)(t u v:Tok)(k:Nat)(rest:List Nat)(h:Builtin.Str.occurrences x y (fromIndex x.length i) x.length 1=k::rest):Gives (Builtin.«str.index» ⟨[.str x t,.str y u,.int i v],[]⟩) (.int k):=by
 show Gives (match Builtin.Str.occurrences x y (fromIndex x.length i) (min x.length x.length) 1 with|i::_=>retInt i|[]=>_) _;refine rr (Nat.min_self ..) (rr h ?_);exact .of_eq rfl
theorem GD{x y:Str}{at' i:Nat}{rest:List Nat}(ho:Builtin.Str.occurrences x y at' x.length 1=i::rest)(h:Q (.int i) S):AM c n (.builtin "str.index") [.str x,.str y,.int at'] S Q:=Uj rfl rfl rfl fun B t1 t2 t3 A s rm iv=>by
 refine call_gives F.slot_str_index (typeIs_str _ _ _) F.entry_str_index (F.args_str_index_3 _ _ _) (IF x y at' _ _ _ i rest ?_) (AU iv.toks (.int _ _) h);exact rr (show fromIndex x.length (at':Int)=at' from by unfold fromIndex;rw[if_neg (by exact Vm)];exact VV) ho
end
section
variable{α β γ δ:Type}{c:Cx}{n:Nat}{B B0 B1:Ao}{S:AD}{L:BU}{ρ:AJ}{rel:Ao→α→β→Prop}{s:Shared}{A:Around}{env:Env}{ns:Cm}
theorem A7{target:Expr}{body orelse:List Stmt}{g:AD→Prop}{Q:AF→AJ→AD→Prop}{f:α→AV}(P:List α→AJ→AD→Prop)
  (hg:∀l ρ S,P l ρ S→g S)
  (step:∀a l ρ S,P (a::l) ρ S→Qk c n L env target (f a) ρ S fun ρ1 S1=>Ok c n L RF (execs body env) ρ1 S1 (UC Q (P l)))
  (last:∀ρ S,P [] ρ S→Ok c n L RF (execs orelse env) ρ S Q):∀(l:List α) (ρ:AJ) (S:AD),P l ρ S→PX c n L env target body orelse g Q (l.map f) ρ S
 |[],ρ,S,h=>⟨hg _ _ _ h,last _ _ h⟩
 |a::l,ρ,S,h=>by
  refine⟨hg _ _ _ h,fun B v r A s rm iv fr=>?_⟩;refine wpAny_mono (step a l ρ S h B v r A s rm iv fr) (fun v s' ⟨B',S',ρ',b,l1,i1,f1,r1,q1⟩=>⟨B',S',ρ',b,l1,i1,f1,r1,q1.mono ?_⟩) fun _ _ x=>x;intro b ρ2 S2 hq
  cases b with
  |nx=>exact A7 P hg step last l _ _ hq
  |cont=>exact A7 P hg step last l _ _ hq
  |brk=>exact hq
  |ret v=>exact hq
theorem AM.mono{f:Value}{xs:List AV}{Q Q':AV→AD→Prop}(h:AM c n f xs S Q)(hq:∀v S,Q v S→Q' v S):AM c n f xs S Q':=fun B vs r=>(h B vs r).mono hq
end
section
variable{α β γ δ:Type}{c:Cx}{n:Nat}{B B0 B1:Ao}{S:AD}{L:BU}{ρ:AJ}{rel:Ao→α→β→Prop}{s:Shared}{A:Around}{env:Env}{ns:Cm}{Q:AV→AD→Prop}
theorem Pi{M:Model}{E:Value→Shared→Prop}{a:Addr}{o:Obj}{es:Array DictEntry}{ep:Nat}{name:Str}{v:Value}{Q:Unit→Shared→Prop}(ho:s.heap.get? a=some o)(hd:o.data= .dict es ep)(hk:StrKeys es)
  (hQ:∀(es':Array DictEntry) (ep':Nat) (o':Obj) (h':Heap),es'.size≤es.size+1→o'.data= .dict es' ep'→StrKeys es'→(∀x,nsFind es' x=if x=name then some v else nsFind es x)→
   h'.get? a=some o'→Heap.SameBut a s.heap h'→Q () {s with heap:=h',toks:=s.toks+1}):wpAny M A (nsSet a name v) Q E s:=by
 have hany:es.any (·.refKey)=false:=by
  rw[Array.any_eq_false'];intro e he;obtain⟨n,t,h⟩:=hk e he;exact fun q=>by rw[DictEntry.refKey,h]at q;cases q
 unfold nsSet;refine wpAny_bind (wpAny_bind (wpAny_askSetting (wpAny_pure (wpAny_bind (wpAny_mkText (wpAny_bind (wpAny_loadPart (s:={s with toks:=s.toks+1}) ho ?_)))))));refine rr hd ?_;have hb:aRefKeyMayBeTheName name es=false:=(aRefKeyMayBeTheName_at name es).trans (by rw[hany];exact Bool.and_false _);refine wpAny_ite_false (by rw[hb];rfl) ?_;refine(wpAny_updatePart (s:={s with toks:=s.toks+1}) ho ?_);obtain⟨c,d,dt,sl⟩:=o;subst hd
 cases hi:es.findIdx? (·.key.isStr name)with
 |some i=>
  refine hQ (es.modify i fun e=>{e with val:=v}) ep _ _ (by simp) (by simp only[Obj.putName_eq,Obj.putNameByArray,hi]) (hk.modify _ _) (fun x=>?_) (Heap.get?_update_self _ ho (by simp only[Obj.putName_eq,Obj.putNameByArray,hi];rfl)) (Heap.SameBut.update ..);exact findBy_modify (fun n v=>v.isStr n) Value.isStr_inj es name x v i hi
 |none=>
  refine hQ (es.push _) (ep+1) _ _ (by simp) (by simp only[Obj.putName_eq,Obj.putNameByArray,hi];rfl) (hk.push _ _ _ _) (fun x=>?_) (Heap.get?_update_self _ ho (by simp only[Obj.putName_eq,Obj.putNameByArray,hi];rfl)) (Heap.SameBut.update ..)
  exact findBy_push (fun n v=>v.isStr n) es name x _ _ v (fun y=>by
   show(name==y)=decide (y=name);by_cases h:y=name
   ·subst h;simp
   ·have:¬name=y:=fun e=>h e.symm
    simp[h,this]) hi
structure FA(K:Frag)(C:Addr)(name:Str):Prop where
 hs:findIn K (.ref C) "__setattr__"=some (some (.builtin "object.__setattr__"))
 hp:plainOver K C=true
 ht:takerIn K C name=some none
 hh:(clsIn K C).any (·.hasDict)=true
theorem BV{a C d:Addr}{l:List (Str×AV)}{name:Str}{x:AV}{Q:Unit→AD→Prop}(hm:FA c.K C name)(h1:S a=some (.inst C d))(h2:S d=some (.ns l))(hn:l.length≤1000)
  (h:Q () (put S d (.ns ((name,x)::l)))):Cn c n (fun o v=>setAttr o name v) Kl (.ref a) x S Q:=PA rfl fun B t1 w r2 A s rm iv=>by
 obtain⟨od,I,hod,es,ep,e4,ek,e5,e6⟩:=Li iv h1 h2;refine set_plain iv.K I hm.hs (osa_open (K:=c.K) iv.K I hm.hp hm.ht fun b=>?_);obtain⟨cd,hc,hd'⟩:=any_some hm.hh;obtain⟨hx,hcl,hnc,-⟩:=I;refine wpAny_bind (wpAny_pure (wpAny_bind (wpAny_bind (wpAny_loadPart hx (wpAny_bind (Looks.here (s:={s with toks:=s.toks+1}) (looks_clsIn (K:=c.K) iv.K hc) ?_))))));rw[hd'];refine wpAny_pure (a:=some d) (wpAny_bind (wpAny_pure (wpAny_bind ?_)));refine Pi (s:={s with toks:=s.toks+1}) hod e4 ek fun es' ep' o' h' z1 z2 z3 z4 z5 z6=>?_;refine wpAny_bind (wpAny_lookBehind z5 (by rw[z2];exact pastItsLine_dict (by rw[sizeLine_eq];exact Zu hn e5 z1)) ?_);refine wpAny_pure ?_;refine⟨B,put S d (.ns ((name,x)::l)),(),Le.refl _,?_,trivial,h⟩;refine iv.upd (t:=s.toks+1+1) (fun q=>by rw[h2]at q;cases q) z6 ⟨o',z5,es',ep',z2,z3,by rw[List.length_cons];exact Y2 e5 z1,fun k=>?_⟩ (by exact QJ);rw[AN,z4];by_cases q:name=k
 ·subst q;simp only[if_true];exact⟨fun y e=>by cases e;exact⟨_,rfl,r2⟩,fun e=>nomatch e⟩
 ·rw[if_neg q,if_neg (fun e=>q e.symm)];exact e6 k
structure LQ(K:Frag)(C f:Addr):Prop where
 mkd:makesIn K C=true
 fi:findIn K (.ref C) "__init__"=some (some (.ref f))
 ty:typeIn K (.ref f)=some (.type "function")
theorem NX{C f:Addr}{xs:List AV}(hm:LQ c.K C f)
  (h:∀d a,S d=none→S a=none→d≠a→Fp c n (.ref f) (.ref a::xs) (put (put S d (.ns [])) a (.inst C d)) (fun v S'=>v= .none∧Q (.ref a) S')):AM c (n+1) (.ref C) xs S Q:=fun B vs r A s rm iv=>by
 refine wpAny_call ?_;obtain⟨hp,g,dr,t,os⟩:=s;refine make_core (makes_of iv.K hm.mkd) (looks_findIn iv.K hm.fi) (fun self=>bind_fn iv.K self hm.ty) (.inl rfl) ?_;have i1:A4 c B (put S hp.objs.size (.ns [])) ⟨hp.push emptyDict,g,dr,t,os⟩:=iv.pushL (o:=.ns []) ⟨#[],0,rfl,fun e he=>(by simp at he),Nat.zero_le _,fun k=>⟨fun x e=>(nomatch e),fun _=>rfl⟩⟩ rfl;have hsz:(hp.push emptyDict).objs.size=hp.objs.size+1:=Heap.size_push _ _;have i2:=i1.pushL (o:=.inst C hp.objs.size) (ob:=instObj C hp.objs.size) rfl rfl;have n1:S hp.objs.size=none:=iv.newS
 have n2:S (hp.objs.size+1)=none:=by
  have:=i1.newS;rw[hsz,AA _ _ (Nat.succ_ne_self _)]at this;exact this
 simp only[hsz]at i2;have rm':DO (A.under (.builtin "type.__call__" ⟨.ref C::vs,[]⟩)) n:=⟨rm.1,by refine rr (depth_under_make ..) ?_;have:=rm.2.1;exact Tj this,by refine rr (units_under_make ..) ?_;have:=rm.2.2;exact b7 this⟩
 refine codeAny_mono (h _ _ n1 n2 (Nat.ne_of_lt (Nat.lt_succ_self _)) B (.ref (hp.objs.size+1)::vs) (.cons (.ref _) r) _ _ rm' i2) ?_;rintro r' s' hr
 cases r' with
 |error _=>exact hr.elim
 |ok fl=>
  cases fl with
  |ret v=>
   obtain⟨B',S',b,l,i',rb,hv,q⟩:=hr;subst hv;cases rb.inv;exact⟨rfl,B',S',_,l,i',.ref _,q⟩
  |_=>exact hr.elim
end
section
variable{α β γ δ:Type}{c:Cx}{n:Nat}{B B0 B1:Ao}{S:AD}{L:BU}{ρ:AJ}{rel:Ao→α→β→Prop}{s:Shared}{A:Around}{env:Env}{ns:Cm}{Q:AV→AD→Prop}
noncomputable def Jq:AV→Option Int→Prop
 |.none,p=>p=none
 |.int i,p=>p=some i
 |_,_=>False
theorem Jq.is{v:Value}{x:AV}{p:Option Int}(r:R B v x)(h:Jq x p):IsPart v p:=by
 have z:=r.inv
 cases x with
 |none=>cases h;cases z;exact .none
 |int i=>cases h;obtain⟨t⟩:=z;exact .int _ _
 |_=>exact h.elim
theorem Aj{Q:AV→AJ→AD→Prop}(h:Q .none ρ S):Ok c n L R (evalPart none env) ρ S Q:=fun A B s rm iv f=>evalPart_none_step ⟨B,S,ρ,.none,Le.refl _,iv,f,.none,h⟩
theorem Az{e:Expr}{Q:AV→AJ→AD→Prop}(h:Ok c n L R (eval e env) ρ S Q):Ok c n L R (evalPart (some e) env) ρ S Q:=fun A B s rm iv f=>evalPart_some_step (h A B s rm iv f)
inductive e8(Q:AV→AJ→AD→Prop)(x y z:AV)(ρ:AJ)(S:AD):Prop
 |mk (a b d:Option Int) (h1:Jq x a) (h2:Jq y b) (h3:Jq z d) (h:Q (.sl a b d) ρ S)
noncomputable abbrev cW(c:Cx)(n:Nat)(L:BU)(env:Env)(st:Option Expr)(Q:AV→AJ→AD→Prop)(x:AV):AV→AJ→AD→Prop:=fun y ρ S=>Ok c n L R (evalPart st env) ρ S (e8 Q x y)
noncomputable abbrev Wv(c:Cx)(n:Nat)(L:BU)(env:Env)(u st:Option Expr)(Q:AV→AJ→AD→Prop):AV→AJ→AD→Prop:=fun x ρ S=>Ok c n L R (evalPart u env) ρ S (cW c n L env st Q x)
theorem Bs{l u st:Option Expr}{p:Pos}{Q:AV→AJ→AD→Prop}
  (h:Ok c n L R (evalPart l env) ρ S (Wv c n L env u st Q)):Ok c n L R (eval (.Slice l u st p) env) ρ S Q:=fun A B s rm iv f=>
 wpAny_Slice (wpAny_mono (h A B s rm iv f) (fun v1 s1 ⟨B1,S1,ρ1,x,l1,i1,f1,r1,q1⟩=>wpAny_mono (q1 A B1 s1 rm i1 f1) (fun v2 s2 ⟨B2,S2,ρ2,y,l2,i2,f2,r2,q2⟩=>
  wpAny_mono (q2 A B2 s2 rm i2 f2) (fun v3 s3 ⟨B3,S3,ρ3,z,l3,i3,f3,r3,a,b,d,pa,pb,pd,q3⟩=>by
   have ii:A4 c B3 S3 {s3 with heap:=s3.heap.push {cls:=.type "slice",data:=.fields #[v1,v2,v3]}}:=i3.next (t:=s3.toks) (fun _ _ _ e=>Heap.get?_push_of_some _ e);refine⟨put B3 s3.heap.objs.size {cls:=.type "slice",data:=.fields #[v1,v2,v3]},S3,ρ3,.sl a b d,(l1.trans (l2.trans l3)).trans (Le.put i3.newB),ii.freeze i3.newB i3.newS (Heap.get?_push_size _ rfl),f3.push.putB f3.newA i3.newB,?_,q3⟩
   exact .sl (AC ..) rfl rfl (pa.is r1) (pb.is r2) (pd.is r3)) fun _ _ x=>x) fun _ _ x=>x) fun _ _ x=>x)
theorem MI{v:Value}{p:Option Int}(h:IsPart v p):∃q:Option (Int×Tok),v=partValue q∧q.map (·.1)=p:=by
 cases h with
 |none=>exact⟨none,rfl,rfl⟩
 |int i t=>exact⟨some (i,t),rfl,rfl⟩
theorem PG{x:Str}{a b:Option Int}(hn:x.length≤10000000)(h:Q (.str (Txt.slice x a b)) S):Cn c n getItem R (.str x) (.sl a b none) S Q:=PA rfl fun B t w r2 A s rm iv=>by
 have r2':=r2
 cases r2 with|sl e1 e2 e3 p1 p2 p3=>
 obtain⟨q1,rfl,rfl⟩:=MI p1;obtain⟨q2,rfl,rfl⟩:=MI p2;cases p3
 exact BO (wpAny_getItem_str_slice (l:=q1) (u:=q2) (st:=none) ⟨_,iv.keep _ _ e1,e2,e3⟩ rfl
  (post_val_or_str ⟨Nat.le_trans (Txt.slice_le x _ _) (Uw (c8 hn)),fun t' k hk=>AU (s:={s with toks:=k}) (iv.toks (ht:=hk)) (.str _ _) h⟩))
theorem E4{a:Addr}{l l':List AV}{x y z:Option Int}(ha:S a=some (.list l))(hz:z≠some 0)(hn:l.length≤10000)(hp:∀vs:Array Value,∀B,RL B vs.toList l→RL B (slicePick vs x y z).toList l')
  (h:∀d,S d=none→Q (.ref d) (put S d (.list l'))):Cn c n getItem R (.ref a) (.sl x y z) S Q:=PA rfl fun B t1 w r2 A s rm iv=>by
 obtain⟨hb,vs,m,e1,r⟩:=BS iv ha;have hsz:vs.size=l.length:=by exact rl Array.length_toList r.length
 obtain⟨f1,f2,f3,p1,p2,p3⟩:=r2.inv;refine wpAny_getItem_list_slice ⟨_,e1,rfl,m,rfl⟩ ⟨_,iv.keep _ _ f1,f2,f3⟩ p1 p2 p3 hz ?_ (by exact rr hsz (rr sizeLine_eq (ST hn)));exact⟨B,_,.ref _,Le.refl _,iv.pushL (o:=.list l') ⟨_,_,rfl,hp _ _ r⟩ rfl,.ref _,h _ iv.newS⟩
theorem RL.take{vs:List Value}{xs:List AV}(r:RL B vs xs)(i:Nat):RL B (vs.take i) (xs.take i):=by
 refine RL.ind (P:=fun vs xs=>∀i,RL B (vs.take i) (xs.take i)) (fun i=>by exact rr List.take_nil (rr List.take_nil .nil)) (fun w y vs xs a r ih i=>?_) r i
 cases i with
 |zero=>exact .nil
 |succ i=>exact .cons a (ih i)
theorem MG{a:Addr}{l:List AV}{k:Nat}(ha:S a=some (.list l))(hn:l.length≤10000)(h:∀d,S d=none→Q (.ref d) (put S d (.list (l.take k)))):Cn c n getItem R (.ref a) (.sl none (some k) none) S Q:=
 E4 ha (fun e=>nomatch e) hn (fun vs B r=>by
  have hsz:vs.size=l.length:=by exact rl Array.length_toList r.length
  by_cases q:k≤vs.size
  ·exact rr (slicePick_upto _ _ q) (r.take k)
  ·have e:slicePick vs none (some (k:Int)) none=vs:=by
    have:=slicePick_all vs;unfold slicePick at this ⊢
    have eb:sliceBounds none (some (k:Int)) none vs.size=sliceBounds none none none vs.size:=by
     simp only[sliceBounds,Option.getD_none];simp;exact fP q
    exact rr eb this
   exact rr e (rr (List.take_of_length_le (by exact Wu hsz q)) r)) h
theorem JG{a:Addr}{l:List AV}(ha:S a=some (.list l))(hn:l.length≤10000)(h:∀d,S d=none→Q (.ref d) (put S d (.list l.reverse))):Cn c n getItem R (.ref a) (.sl none none (some (-1))) S Q:=
 E4 ha (by decide) hn (fun vs B r=>by
  have e:(slicePick vs none none (some (-1))).toList=vs.toList.reverse:=by
   exact rr (krv_pick ..) rfl
  exact rr e r.reverse) h
theorem J0{i j:Int}(hj:j≠0)(hs:Builtin.divisionGoesByPylong i j=false)(h:Q (.int (i.fdiv j)) S):Cn c n (binaryOp .FloorDiv) R (.int i) (.int j) S Q:=Hn rfl rfl fun B t1 t2 A s rm iv=>by exact PyProof.Rows.floordiv_int hj (AU iv.toks (.int _ _) h) (.inl hs)
theorem bn{i j:Int}(h0:0≤j)(h1:j≤1000000)(hi:i.natAbs<2^64)(h:Q (.int (i^j.toNat)) S):Cn c n (binaryOp .Pow) R (.int i) (.int j) S Q:=Hn rfl rfl fun B t1 t2 A s rm iv=>by exact pow_int_small h0 h1 hi (AU iv.toks (.int _ _) h)
theorem ET{i:Int}(h:Q (.int i) S):AM c n (.type "int") [.int i] S Q:=HR rfl fun B t1 A s rm iv=>by exact call_int_int (AU iv (.int _ _) h)
theorem JM{b:Bool}(h:Q (.int (if b=true then 1 else 0)) S):AM c n (.type "int") [.bool b] S Q:=HR rfl fun B t1 A s rm iv=>by exact call_int_bool (AU iv.toks (.int _ _) h)
theorem aY{a b:Int}(h:Q (.int (if b>a then b else a)) S):AM c n (.builtin "max") [.int a,.int b] S Q:=M4 rfl rfl fun B t u A s rm iv=>by
 refine BO (max_two_ints rm.1 fun h' tk hk htk=>?_);have i':A4 c B S {s with heap:=h',toks:=tk}:=iv.next (ht:=htk) fun a o _ e=>hk a o e;by_cases q:b>a
 ·rw[if_pos q]at h ⊢;exact AU i' (.int _ _) h
 ·rw[if_neg q]at h ⊢;exact AU i' (.int _ _) h
theorem QA{i:Int}(hi:(decide (i<0)||decide (i>1114111))=false)(h:Q (.str ⟨#[i.toNat]⟩) S):AM c n (.builtin "chr") [.int i] S Q:=HR rfl fun B t1 A s rm iv=>by exact PySem.P.chr_of_int hi (AU iv.toks (.str _ _) h)
theorem TP{k:Nat}(h:Q (.int k) S):AM c n (.builtin "ord") [.str ⟨#[k]⟩] S Q:=HR rfl fun B t1 A s rm iv=>by exact PySem.P.ord_of_char (AU iv.toks (.int _ _) h)
theorem IE{a b d:Int}{t u v:Tok}{k:Nat}(iv:A4 c B S s)(hk:s.toks≤k)(h:Q (.rg a b d) S):
  Pb c B R Q (.ref s.heap.objs.size) {s with heap:=s.heap.push {cls:=.type "range",data:=.fields #[.int a t,.int b u,.int d v]},toks:=k}:=by
 have ii:A4 c B S {s with heap:=s.heap.push {cls:=.type "range",data:=.fields #[.int a t,.int b u,.int d v]}}:=iv.next (t:=s.toks) (fun _ _ _ e=>Heap.get?_push_of_some _ e);refine⟨put B s.heap.objs.size {cls:=.type "range",data:=.fields #[.int a t,.int b u,.int d v]},S,.rg a b d,Le.put iv.newB,(ii.freeze iv.newB iv.newS (Heap.get?_push_size _ rfl)).toks (t:=k) hk,.rg (AC ..),h⟩
theorem J5{b:Int}(h:Q (.rg 0 b 1) S):AM c n (.type "range") [.int b] S Q:=HR rfl fun B t1 A s rm iv=>by exact call_range_1 (IE iv (by exact QJ) h)
theorem QL{a b:Int}(h:Q (.rg a b 1) S):AM c n (.type "range") [.int a,.int b] S Q:=M4 rfl rfl fun B t1 t2 A s rm iv=>by exact call_range_2 (IE iv (by exact bY) h)
theorem M0{a b d:Int}(hd:d≠0)(hs:Builtin.divisionGoesByPylong (b-a) d=false)(h:Q (.rg a b d) S):AM c n (.type "range") [.int a,.int b,.int d] S Q:=Uj rfl rfl rfl fun B t1 t2 t3 A s rm iv=>by exact call_range_3 hd (IE iv (Nat.le_refl _) h) (.inl hs)
end
section
variable{α β γ δ:Type}{c:Cx}{n:Nat}{B B0 B1:Ao}{S:AD}{L:BU}{ρ:AJ}{rel:Ao→α→β→Prop}{s:Shared}{A:Around}{env:Env}{ns:Cm}{Q:AV→AD→Prop}
noncomputable def cG(c:Cx)(n:Nat)(L:BU)(f:Value)(xs:List AV)(ρ:AJ)(S:AD)(Q:AV→AD→Prop):Prop:=∀A B s vs,RL B vs xs→DO A n→A4 c B S s→A3 B S L ρ s→
 wpAny (model c.prog c.w) A (call f vs) (Po c B L R (fun z ρ' S'=>ρ'=ρ∧Q z S')) Fa s
noncomputable def TV:Heap:=⟨#[],default⟩
noncomputable def allBut(h:Heap)(L:Addr):List (Addr×Obj):=(List.range h.objs.size).filterMap fun a=>if a=L then none else(h.get? a).map fun o=>(a,o)
theorem FZ{h:Heap}{L a:Addr}{o:Obj}(hn:a≠L)(ho:h.get? a=some o):(a,o)∈allBut h L:=
 List.mem_filterMap.mpr ⟨a,List.mem_range.mpr (Heap.lt_size ho),by refine rr (if_neg hn) (rr ho ?_);rfl⟩
theorem Oi{h:Heap}{L:Addr}{p:Addr×Obj}(hp:p∈allBut h L):p.1≠L∧h.get? p.1=some p.2:=by
 obtain⟨a,_,e⟩:=List.mem_filterMap.mp hp;by_cases q:a=L
 ·rw[if_pos q]at e;cases e
 ·rw[if_neg q]at e
  cases ho:h.get? a with
  |none=>rw[ho]at e;cases e
  |some o=>rw[ho]at e;cases e;exact⟨q,ho⟩
theorem Tc(f:A3 B S L ρ s):∃m,Fr TV L.L s.heap m∧News TV L.L s.heap (allBut s.heap L.L)∧∀x av,AG ρ x=some av→Oj B m s.heap L.cs x av:=by
 obtain⟨m,hm,hi⟩:=f.ex;refine⟨m,⟨hm,fun b o e=>?_,Nat.zero_le _⟩,fun p hp=>?_,hi⟩
 ·exact absurd (Heap.lt_size e) (Nat.not_lt_zero _)
 ·obtain⟨h1,h2⟩:=Oi hp;exact⟨h2,h1,Heap.get?_none_of_le (Nat.zero_le _)⟩
theorem NT.dict{o:Obj}{es:Array DictEntry}{ep:Nat}(e:o.data= .dict es ep):NT o:=⟨fun _ vs n q=>(by rw[e]at q;cases q),fun _ vs q=>(by rw[e]at q;cases q)⟩
theorem Oc{h':Heap}{tk:Nat}{D:Addr}{ob:Obj}{ao:AO}{m:Str→Option Value}(iv:A4 c B S s)(f:A3 B S L ρ s)(hi:∀x av,AG ρ x=some av→Oj B m s.heap L.cs x av)
  (F:Fr TV L.L h' m) (N:News TV L.L h' ((D,ob)::allBut s.heap L.L)) (hlt:∀q∈allBut s.heap L.L,q.1<D) (hk:s.toks≤tk) (is:Is c B ob ao):
  S D=none∧A4 c B (put S D ao) {s with heap:=h',toks:=tk}∧A3 B (put S D ao) L ρ {s with heap:=h',toks:=tk}:=by
 obtain⟨hD,hDL,_⟩:=N (D,ob) (.head _);have keep:∀a o,a≠L.L→s.heap.get? a=some o→h'.get? a=some o:=fun a o hn ho=>(N (a,o) (.tail _ (FZ hn ho))).1
 have noD:s.heap.get? D=none:=by
  cases e:s.heap.get? D with
  |none=>rfl
  |some o=>exact absurd (hlt _ (FZ hDL e)) (Nat.lt_irrefl _)
 have bL:B L.L=none∧S L.L=none:=⟨(f.ow _ (.head _)).1,(f.ow _ (.head _)).2.1⟩
 have hB:B D=none:=by
  cases e:B D with
  |none=>rfl
  |some o=>rw[iv.keep _ _ e]at noD;cases noD
 have hS:S D=none:=by
  cases e:S D with
  |none=>rfl
  |some o=>obtain⟨_,o2,e2,_⟩:=iv.own _ _ e;rw[e2]at noD;cases noD
 have hsys:D≠sysModules:=fun q=>by
  obtain⟨mg,o,es,ep,ho,r⟩:=iv.ok.g;have hb:=iv.base _ _ ho;have:=hlt _ (FZ ((by first|exact As hb bL.1|exact(As bL.1 hb).symm)) (iv.keep _ _ hb));rw[q]at this;exact absurd this (show ¬(3<1) by decide)
 have i1:A4 c B (put S D ao) {s with heap:=h',toks:=tk}:=by
  refine⟨iv.ok,iv.base,fun a o e=>keep a o ((by first|exact As e bL.1|exact(As bL.1 e).symm)) (iv.keep a o e),fun a o e=>?_,iv.gens,iv.os,Nat.lt_of_lt_of_le iv.tk hk,(AA _ _ (fun q=>hsys q.symm)).trans iv.sys⟩;by_cases q:a=D
  ·subst q;rw[AC]at e;cases e;exact⟨hB,ob,hD,is⟩
  ·rw[AA _ _ q]at e;obtain⟨h1,o2,h2,h3⟩:=iv.own a o e;exact⟨h1,o2,keep a o2 ((by first|exact As e bL.2|exact(As bL.2 e).symm)) h2,h3⟩
 refine⟨hS,i1,?_⟩;obtain⟨oL,es,ep,hoL,hdL,hr⟩:=F.ns;have ndc:=(List.nodup_cons.mp f.nd).1;have notL:∀p∈L.cs,p.2≠L.L:=fun p hp z=>ndc (z▸List.mem_map_of_mem hp);refine⟨f.nd,fun a ha=>?_,fun p hp=>?_,m,⟨oL,es,ep,hoL,hdL,hr⟩,fun x av e=>⟨(hi x av e).1,fun a z=>?_⟩⟩
 ·obtain⟨k1,k2,o,k3,k4⟩:=f.ow a ha;have haD:a≠D:=(by first|exact As k3 noD|exact(As noD k3).symm)
  refine⟨k1,by rw[AA _ _ haD];exact k2,?_⟩;by_cases q:a=L.L
  ·subst q;exact⟨oL,hoL,NT.dict hdL⟩
  ·exact⟨o,keep a o q k3,k4⟩
 ·obtain⟨o,v,k1,k2⟩:=f.cl p hp;exact⟨o,v,keep _ _ (notL p hp) k1,k2⟩
 ·obtain⟨o,v,k1,k2⟩:=(hi x av e).2 a z;exact⟨o,v,keep _ _ (notL (x,a) (look_mem z)) k1,k2⟩
noncomputable abbrev kF(c:Cx)(n:Nat)(L:BU)(f:Value)(Q:AV→AJ→AD→Prop):List AV→AJ→AD→Prop:=fun xs ρ S=>cG c n L f xs ρ S (kZ Q ρ)
inductive UL(c:Cx)(n:Nat)(L:BU)(env:Env)(pos:Pos)(args:List Expr)(Q:AV→AJ→AD→Prop)(fv:AV)(ρ:AJ)(S:AD):Prop
 |mk (f:Value) (e:R8 fv=some f) (k:Jp c f) (h:Ok c n L RL (spliced (backTo pos (starEach args env))) ρ S (kF c n L f Q))
theorem Lz{f:Value}{args:List Expr}{pos:Pos}{Q:AV→AJ→AD→Prop}(hk:Jp c f)(rm:DO A n)(i:A4 c B S s)(fr:A3 B S L ρ s)
  (h:Ok c n L RL (spliced (backTo pos (starEach args env))) ρ S (kF c n L f Q))
  (hplain:(backTo pos (starEach args env)).any (·.1)=false):
  wpAny (model c.prog c.w) A (callWith pos f [] (backTo pos (starEach args env)) []) (Po c B L R Q) Fa s:=by
 refine callWith_of (P:=c.K.In) (by refine rr hplain ?_;rfl) hk ?_
 have key:wpAny (model c.prog c.w) A (spliced (backTo pos (starEach args env))) (fun vs s1=>c.K.In s1.heap∧wpAny (model c.prog c.w) A (call f ([]++vs)) (Po c B L R Q) Fa s1) Fa s:=
  wpAny_mono (h A B s rm i fr) (fun vs s1 ⟨B1,S1,ρ1,xs,l1,i1,f1,r1,q1⟩=>⟨i1.K,wpAny_mono (q1 A B1 s1 vs r1 rm i1 f1) (fun v s2 ⟨B2,S2,ρ2,b,l2,i2,f2,r2,e,q2⟩=>by subst e;exact⟨B2,S2,_,b,l1.trans l2,i2,f2,r2,q2⟩) fun _ _ x=>x⟩) fun _ _ x=>x
 cases e:backTo pos (starEach args env)with
 |nil=>
  rw[e]at key;unfold evalArgs;show wpAny _ _ (spliced [] >>= _) _ _ _;refine wpAny_bind (wpAny_mono key (fun vs s' h'=>wpAny_bind (wpAny_pure (wpAny_holding (wpAny_bind (wpAny_pure (wpAny_bind (wpAny_pure (wpAny_pure h')))))))) fun _ _ x=>x)
 |cons a r=>
  rw[e]at key hplain;obtain⟨b,t⟩:=a;rw[List.any_cons]at hplain;cases b
  ·exact evalArgs_plain key
  ·cases hplain
theorem Rg{x:Str}{p pos:Pos}{args:List Expr}{Q:AV→AJ→AD→Prop}
  (h:Ok c n L R (eval (.Name x p) env) ρ S (UL c n L env pos args Q))
  (hplain:(backTo pos (starEach args env)).any (·.1)=false:=by kernel_rfl):
  Ok c n L R (eval (.Call (.Name x p) args [] pos) env) ρ S Q:=fun A B s rm i f=>
 Call_Name rfl (wpAny_mono (h A B s rm i f) (fun v s1 ⟨B1,S1,ρ1,x,l1,i1,f1,r1,fv,e1,hk,q1⟩=>by
  obtain rfl:=Ny r1 e1
  exact wpAny_mono (Lz hk rm i1 f1 q1 hplain) (fun _ _=>Po.up l1) fun _ _ x=>x) fun _ _ x=>x)
theorem OC{a:Addr}{l l':List AV}{i:Int}(ha:S a=some (.list l))(hlo:-(2^63:Int)≤i)(hhi:i<2^63)(hn:l.length*i.toNat≤10000)(hl':(List.replicate i.toNat l).flatten=l')
  (h:∀d,S d=none→Q (.ref d) (put S d (.list l'))):Cn c n (binaryOp .Mult) R (.ref a) (.int i) S Q:=Hn rfl rfl fun B t1 u A s rm iv=>by
 obtain⟨hb,vs,m,e1,r⟩:=BS iv ha;have hsz:vs.size=l.length:=by exact rl Array.length_toList r.length
 have hn':vs.size*i.toNat≤10000:=by exact rr hsz hn
 refine wpAny_binaryOp_repeat_ref (T:="list") (U:="int") (by decide) ⟨_,e1,rfl⟩ (fun s'=>typeIs_int s' i u) noFill_list_mul F.fills_int_mul F.slot_int_rmul repeat_list F.slot_int_index.lookup
  (call_meets F.slot_int_rmul (typeIs_int s i u) F.entry_int_rmul (F.args_int_rmul_2 _ _) (int___rmul___int_list i u a vs m)
   ⟨e1,rfl,⟨_,e1,rfl⟩,call_meets F.slot_list_mul ⟨_,e1,rfl⟩ F.entry_list_mul (F.args_list_mul_2 _ _)
    (AutoListH.list___mul___list_int_3 a vs m i u (by simp[Builtin.List.listFitsIndex];exact⟨hlo,hhi⟩) (Nat.not_lt.mpr (Nat.le_trans hn' (by decide))) (by simp[Builtin.List.listTooLong,sizeLine];exact WH hn hsz))
    ⟨e1,?_⟩⟩)
 refine⟨B,_,.ref _,Le.refl _,iv.pushL (o:=.list l') ⟨_,_,rfl,?_⟩ rfl,.ref _,h _ iv.newS⟩;subst hl'
 have key:∀(k:Nat) (acc:Array Value) (xs:List AV),RL B acc.toList xs→RL B (List.foldl (fun x1 x2=>x1++x2) acc (List.replicate k vs)).toList (xs++(List.replicate k l).flatten):=by
  intro k
  induction k with
  |zero=>intro acc xs hr;simpa using hr
  |succ k ih=>
   intro acc xs hr;refine rr List.replicate_succ (rr List.foldl_cons (rr List.replicate_succ (rr List.flatten_cons (rl (List.append_assoc ..) ?_))));exact ih _ _ (by exact rr Array.toList_append (hr.append r))
 have k0:=key (if vs.isEmpty=true then 0 else i.toNat) #[] [] .nil;rw[List.nil_append]at k0;by_cases q:vs.isEmpty=true
 ·rw[if_pos q]at k0 ⊢
  have:l=[]:=by
   have:vs.size=0:=by simpa using q
   exact List.eq_nil_of_length_eq_zero (by exact WJ hsz this)
  subst this
  simpa using k0
 ·rw[if_neg q]at k0 ⊢;exact k0
theorem OJ{prog:Program}{w:World}{E:Value→Shared→Prop}{a b:Value}{k:Bool}{Q:Value→Shared→Prop}(h:SeqAt.RcNeAt A s a b k)(hq:Q (.bool k) s):wpAny (model prog w) A (compareOp .NotEq a b) Q E s:=h prog w E Q hq
theorem DO.cmp(rm:DO A n):A.units<cLine:=by have:=rm.2.2;unfold cLine;exact Xs this
theorem Mo{a b:Addr}{l:List AV}(ha:S a=some (.list l))(hb:S b=some (.list []))(h:Q (.bool (!l.isEmpty)) S):Cn c n (compareOp .NotEq) R (.ref a) (.ref b) S Q:=Hn rfl rfl fun B t1 t2 A s rm iv=>by
 obtain⟨_,vs,m,e1,r⟩:=BS iv ha;obtain⟨_,ws,m2,e2,r'⟩:=BS iv hb;have h2:ws.size=0:=by exact rl Array.length_toList r'.length
 have h1:vs.size=l.length:=by exact rl Array.length_toList r.length
 cases l with
 |nil=>
  refine OJ (SeqAt.RcNeAt.lists (e:=fun _=>true) ⟨_,e1,rfl,m,rfl⟩ ⟨_,e2,rfl,m2,rfl⟩ (by refine rr h1 (rr h2 ?_);rfl) rm.cmp (fun j k1 _=>absurd k1 (by exact rr h1 (Nat.not_lt_zero _)))) (AU iv (by exact rr h1 (.bool _)) h)
 |cons x l=>
  refine OJ (SeqAt.RcNeAt.lists_lengths ⟨_,e1,rfl,m,rfl⟩ ⟨_,e2,rfl,m2,rfl⟩ (by refine rr h1 (rr h2 ?_);rfl) rm.cmp) (AU iv (.bool _) h)
theorem OF{a b:Addr}{l k:List Str}(ha:S a=some (.list (l.map .str)))(hb:S b=some (.list (k.map .str)))(h:Q (.bool (!decide (l=k))) S):Cn c n (compareOp .NotEq) R (.ref a) (.ref b) S Q:=Hn rfl rfl fun B t1 t2 A s rm iv=>by
 obtain⟨_,vs,m,e1,r⟩:=BS iv ha;obtain⟨_,ws,m2,e2,r'⟩:=BS iv hb;obtain⟨p,q1,q2⟩:=r.strs;obtain⟨p',q1',q2'⟩:=r'.strs;have h1:vs.size=l.length:=by refine rl Array.length_toList ?_;simpa using r.length
 have h2:ws.size=k.length:=by refine rl Array.length_toList ?_;simpa using r'.length
 by_cases hl:l.length=k.length
 ·have key:((List.range vs.size).all fun j=>decide (l[j]?=k[j]?))=decide (l=k):=by
   by_cases q:l=k
   ·subst q;simp
   ·refine rr (decide_eq_false q) ?_;rw[List.all_eq_false]
    have:∃j:Nat,l[j]?≠k[j]?:=by
     refine Classical.byContradiction fun z=>q (List.ext_getElem? fun j=>Classical.byContradiction fun y=>z ⟨j,y⟩)
    obtain⟨j,hj⟩:=this;refine⟨j,List.mem_range.mpr ?_,by simpa using hj⟩;refine rr h1 ?_;refine Classical.byContradiction fun z=>hj ?_;exact rr (List.getElem?_eq_none (by exact Sv z)) (rr (List.getElem?_eq_none (by exact aU hl z)) rfl)
  refine OJ (SeqAt.RcNeAt.lists (e:=fun j=>decide (l[j]?=k[j]?)) ⟨_,e1,rfl,m,rfl⟩ ⟨_,e2,rfl,m2,rfl⟩ (by exact rr h1 (rr h2 (rr hl rfl))) rm.cmp (fun j k1 k2=>?_)) (AU iv (by exact rr key (.bool _)) h);have g1:vs[j]?=some vs[j]:=Array.getElem?_eq_getElem k1;have g2:ws[j]?=some ws[j]:=Array.getElem?_eq_getElem k2;have f1:vs[j]?=(p[j]?).map fun x=>.str x.1 x.2:=by refine rl Array.getElem?_toList (rr q1 ?_);unfold strValues;simp
  have f2:ws[j]?=(p'[j]?).map fun x=>.str x.1 x.2:=by refine rl Array.getElem?_toList (rr q1' ?_);unfold strValues;simp
  cases z1:p[j]? with
  |none=>rw[z1,g1]at f1;cases f1
  |some x=>
   cases z2:p'[j]? with
   |none=>rw[z2,g2]at f2;cases f2
   |some y=>
    rw[z1,g1]at f1;rw[z2,g2]at f2;have y1:=Option.some.inj f1;have y2:=Option.some.inj f2;refine rr y1 (rr y2 ?_);have w1:l[j]?=some x.1:=by refine rl q2 ?_;simp[z1]
    have w2:k[j]?=some y.1:=by refine rl q2' ?_;simp[z2]
    have:=SeqAt.EqAt.str_str (A:=A.in1) (s:=s) x.1 x.2 y.1 y.2;have e:(x.1==y.1)=decide (l[j]?=k[j]?):=by refine rr w1 (rr w2 ?_);by_cases q:x.1=y.1<;>simp[q]
    exact rl e this
 ·refine OJ (SeqAt.RcNeAt.lists_lengths ⟨_,e1,rfl,m,rfl⟩ ⟨_,e2,rfl,m2,rfl⟩ (by refine rr h1 (rr h2 ?_);simpa using hl) rm.cmp) (AU iv (.bool _) ?_);have:decide (l=k)=false:=decide_eq_false fun e=>hl (by exact rr e rfl);rw[this]at h;exact h
theorem RL.strsAre{vs:List Value}{l:List Str}(r:RL B vs (l.map .str)):StrsAre vs l:=by
 induction l generalizing vs with
 |nil=>exact rr r.nil_inv .nil
 |cons x l ih=>
  obtain⟨v,ws,rfl,a,rr⟩:=r.cons_inv;obtain⟨t⟩:=a.inv;exact .cons x t (ih rr)
theorem SX{x:Str}{ys:List Str}(h:Q (.bool (ys.any (·==x))) S):Cn c n (compareOp .In) R (.str x) (.tup (ys.map .str)) S Q:=PA rfl fun B t1 w r2 A s rm iv=>by
 obtain⟨e1,e2,e3,r⟩:=r2.tup_inv;obtain⟨vs,ht,hr⟩:=Ji iv (.tup e1 e2 e3 r);exact in_tuple_strs ht (by simpa using hr.strsAre) (AU iv (.bool _) h)
theorem ND{x:Str}{ys:List Str}(h:Q (.bool (!ys.any (·==x))) S):Cn c n (compareOp .NotIn) R (.str x) (.tup (ys.map .str)) S Q:=PA rfl fun B t1 w r2 A s rm iv=>by
 obtain⟨e1,e2,e3,r⟩:=r2.tup_inv;obtain⟨vs,ht,hr⟩:=Ji iv (.tup e1 e2 e3 r);exact notin_tuple_strs ht (by simpa using hr.strsAre) (AU iv (.bool _) h)
end
section
variable{α β γ δ:Type}{c:Cx}{n:Nat}{B B0 B1:Ao}{S:AD}{L:BU}{ρ:AJ}{rel:Ao→α→β→Prop}{s:Shared}{A:Around}{env:Env}{ns:Cm}{Q:AV→AD→Prop}
noncomputable abbrev tk(c:Cx):PySem.HeapKind c.prog c.w (List Str):=PySem.tupleKind (PySem.strKind c.prog c.w)
theorem O7{ks:List Str}:∀{vs:List Value},RL B vs (ks.map .str)→ItemsAre (PySem.strKind c.prog c.w) ks vs:=by
 induction ks with
 |nil=>intro vs r;have e:=r.nil_inv;subst e;exact .nil
 |cons k ks ih=>
  intro vs r;obtain⟨v,vs',e1,r0,r1⟩:=r.cons_inv;obtain⟨t,e2⟩:=r0.str_inv;subst e1;subst e2;exact .cons (by show decide (k=k)=true;simp) (ih r1)
theorem TN.is{ks:List Str}{a:Addr}{h:Heap}(hk:∀a o,B a=some o→h.get? a=some o):TN B ks a→(tk c).is h ks a:=fun⟨ob,vs,n,e1,e2,e3,r⟩=>⟨ob,vs,n,hk _ _ e1,e2,e3,O7 r⟩
theorem Lw{a:Addr}{ks:List Str}(r:R B (.ref a) (.tup (ks.map .str))):TN B ks a:=by
 obtain⟨e1,e2,e3,r⟩:=r.tup_inv;exact⟨_,_,_,e1,e2,e3,by simpa using r⟩
theorem MV{a:Addr}{l:List (List Str)}(i:A4 c B S s)(h:S a=some (.tdict l)):∃xs,s.heap.DictOfH (tk c) a xs∧xs.map (·.1)=l∧(a==sysModules)=false∧∀x∈xs,TN B x.1 x.2.1:=by
 obtain⟨_,ob,e,es,ep,xs,e1,e2,e3,e4,e5,e6⟩:=i.own _ _ h;exact⟨xs,⟨ob,es,ep,e,e1,e2,e3,fun x hx=>(e6 x hx).is i.keep,by exact rr e4 e5⟩,e4,IU i h,e6⟩
theorem HO:∀{xs:List (List Str×Addr×Value)} {k:List Str},k∉xs.map (·.1)→atKey xs k=none
 |[],_,_=>rfl
 |x::xs,k,h=>by
  rw[List.map_cons,List.mem_cons,not_or]at h;have:=HO (xs:=xs) h.2;unfold atKey at this ⊢;exact rr List.find?_cons (rr (decide_eq_false (fun e=>h.1 e.symm)) this)
theorem SE{a:Addr}{l:List (List Str)}{k:List Str}(ha:S a=some (.tdict l))(hk:k∉l)(h:Q (.bool false) S):Cn c (n+1) (compareOp .In) R (.tup (k.map .str)) (.ref a) S Q:=Rh rfl fun B v t2 r1 A s rm iv=>by
 have r1':=r1;obtain⟨e1,e2,e3,r⟩:=r1.tup_inv;obtain⟨xs,hd,hl,hs,_⟩:=MV iv ha;refine wpAny_in_heap (knd:=tk c) (tupleKind_room_in1 (by have:=rm.2.2;unfold cLine;exact Sf this)) ((Lw r1').is iv.keep) hs hd ?_;refine rr (HO (by rw[hl];exact hk)) ?_;exact AU (iv.toks (t:=s.toks+(tk c).draws k) (ht:=Nat.le_add_right _ _)) (.bool _) h
theorem QR{a:Addr}{l:List (List Str)}{k:List Str}{x:AV}{Q:Unit→AD→Prop}(ha:S a=some (.tdict l))(hk:k∉l)(hn:l.length≤1000)(h:Q () (put S a (.tdict (l++[k])))):
  Ut c (n+1) setItem Kl (.ref a) (.tup (k.map .str)) x S Q:=Yq rfl fun B t1 w u r2 r3 A s rm iv=>by
 have r2':=r2;obtain⟨e1,e2,e3,r⟩:=r2.tup_inv;obtain⟨xs,hd,hl,hs,hx⟩:=MV iv ha;have hnew:=HO (xs:=xs) (k:=k) (by exact rr hl hk);have hlen:xs.length=l.length:=by exact rl hl (rr (List.length_map ..) rfl)
 refine wpAny_setItem_heap (knd:=tk c) (tupleKind_room_in1 (by have:=rm.2.2;unfold cLine;exact Sf this)) ((Lw r2').is iv.keep) hd (fun h' hd' hs'=>?_) (by exact rr hlen (rr sizeLine_eq (Nn hn)));rw[storedH_new hnew]at hd';obtain⟨o,es,ep,ho,q1,q2,q3,q4,q5⟩:=hd';refine⟨B,put S a (.tdict (l++[k])),(),Le.refl _,iv.upd (t:=s.toks+(tk c).draws k) (fun q=>by rw[ha]at q;cases q) hs' ⟨o,ho,es,ep,_,q1,q2,q3,?_,?_,?_⟩ (Nat.le_add_right _ _),trivial,h⟩
 ·refine rr List.map_append (rr hl ?_);rfl
 ·rw[List.map_append,hl]at q5;exact q5
 ·intro y hy;rcases List.mem_append.mp hy with hy|hy
  ·exact hx y hy
  ·obtain rfl:=List.mem_singleton.mp hy;exact Lw r2'
theorem PW{pos:Pos}{Q:AV→AJ→AD→Prop}(h:∀a,S a=none→Q (.ref a) ρ (put S a (.tdict []))):Ok c n L R (eval (.Dict [] [] pos) env) ρ S Q:=fun A B s rm iv f=>by
 refine wpAny_Dict_empty ?_;exact⟨B,_,ρ,.ref _,Le.refl _,iv.pushL (o:=.tdict []) ⟨#[],0,[],⟨rfl,rfl,rfl⟩,rfl,rfl,rfl,List.nodup_nil,fun _ hx=>(nomatch hx)⟩ rfl,f.push.putS f.newA,.ref _,h _ iv.newS⟩
inductive RP(B:Ao):List (Value×Value)→List (Str×AV)→Prop
 |nil:RP B [] []
 |cons {k:Str} {t:Tok} {v:Value} {x:AV} {vs:List (Value×Value)} {xs:List (Str×AV)}:R B v x→RP B vs xs→RP B ((.str k t,v)::vs) ((k,x)::xs)
theorem RP.mono{B':Ao}(h:Le B B'){vs xs}(r:RP B vs xs):RP B' vs xs:=by
 induction r with
 |nil=>exact .nil
 |cons a _ ih=>exact .cons (a.mono h) ih
theorem RP.drop{a:Addr}(h:G4 B a){vs xs}(r:RP B vs xs):RP (del B a) vs xs:=by
 induction r with
 |nil=>exact .nil
 |cons a _ ih=>exact .cons (a.drop h) ih
theorem ew:G5 RP:=⟨fun h r=>r.mono h,fun h r=>r.drop h⟩
theorem RP.all{vs xs}(r:RP B vs xs):allStrKeys vs=true∧RD B (strPairs vs) xs∧vs.length=xs.length:=by
 induction r with
 |nil=>exact⟨rfl,.nil,rfl⟩
 |cons a _ ih=>exact⟨ih.1,.cons a ih.2.1,congrArg (·+1) ih.2.2⟩
noncomputable abbrev fC(Q:List (Str×AV)→AJ→AD→Prop)(k:Str)(x:AV):List (Str×AV)→AJ→AD→Prop:=fun xs=>Q ((k,x)::xs)
noncomputable abbrev fK(c:Cx)(n:Nat)(L:BU)(rest:List (Sem Value×Sem Value))(k:Str)(Q:List (Str×AV)→AJ→AD→Prop):AV→AJ→AD→Prop:=fun x ρ S=>Ok c n L RP (evalPairs rest) ρ S (fC Q k x)
structure Yf(Q:AV→AJ→AD→Prop)(xs:List (Str×AV))(ρ:AJ)(S:AD):Prop where
 l:(xs.map (·.1)).Nodup
 h:∀a,S a=none→Q (.ref a) ρ (put S a (.dict xs))
theorem Px{Q:List (Str×AV)→AJ→AD→Prop}(h:Q [] ρ S):Ok c n L RP (evalPairs []) ρ S Q:=fun A B s rm iv f=>evalPairs_nil ⟨B,S,ρ,[],Le.refl _,iv,f,.nil,h⟩
theorem OE{k:Str}{z:Nat}{p:Pos}{v:Expr}{pos:Pos}{rest:List (Sem Value×Sem Value)}{Q:List (Str×AV)→AJ→AD→Prop}
  (h:Ok c n L R (eval v env) ρ S (fK c n L rest k Q)):
  Ok c n L RP (evalPairs ((eval (.Constant (.str k) z p) env,do let x←eval v env;standAt pos;pure x)::rest)) ρ S Q:=fun A B s rm iv f=>by
 refine evalPairs_cons (wpAny_Constant_str (wpAny_bind (wpAny_mono (h A B _ rm (iv.toks (t:=s.toks+1)) f.toks) (fun v1 s1 ⟨B1,S1,ρ1,x,l1,i1,f1,r1,q1⟩=>wpAny_bind (wpAny_standAt (wpAny_pure ?_))) fun _ _ x=>x)));exact wpAny_mono (q1 A B1 s1 rm i1 f1) (fun v2 s2 ⟨B2,S2,ρ2,y,l2,i2,f2,r2,q2⟩=>⟨B2,S2,ρ2,(k,x)::y,l1.trans l2,i2,f2,.cons (r1.mono l2) r2,q2⟩) fun _ _ x=>x
theorem Q7{keys:List (Option Expr)}{vals:List Expr}{pos:Pos}(pairs:List (Sem Value×Sem Value)){Q:AV→AJ→AD→Prop}
  (hshape:(evalEachOpt keys env).zip ((evalEach vals env).map fun v=>do let x←v;standAt pos;pure x)=pairs.map fun p=>(some p.1,p.2)) (h0:pairs≠[]) (hlen:pairs.length≤15)
  (h:Ok c n L RP (evalPairs pairs) ρ S (Yf Q)):Ok c n L R (eval (.Dict keys vals pos) env) ρ S Q:=fun A B s rm iv f=>by
 refine wpAny_Dict_pairs (knd:=PySem.strKind c.prog c.w) hshape h0 hlen ?_;have ho':=Heap.get?_push_size s.heap (o:={cls:=.type "dict",data:=.dict #[]}) rfl;have i1:A4 c B S {s with heap:=s.heap.push {cls:=.type "dict",data:=.dict #[]}}:=iv.next (t:=s.toks) (fun _ _ _ e=>Heap.get?_push_of_some _ e);have hd0:=Heap.DictOf.new (knd:=PySem.strKind c.prog c.w) s.heap;refine wpAny_mono (JF ew rm i1 f.push iv.newB iv.newS f.newA ho' (NT.dict rfl) (fun A s rm i f=>h A _ s rm i f)) ?_ fun _ _ x=>x;rintro vs s1 ⟨B1,S1,ρ1,xs,l1,i2,f1,⟨b1,b2,b3⟩,r1,hnd,q1⟩;obtain⟨a1,a2,a3⟩:=r1.all
 have hdo:s1.heap.DictOf (PySem.strKind c.prog c.w) s.heap.objs.size []:=by
  obtain⟨o,ho,hd⟩:=Heap.dictOf_iff.mp hd0;rw[ho']at ho;cases ho;exact Heap.dictOf_iff.mpr ⟨_,b3,hd⟩
 refine display_done_str (P:=fun h'=>Po c B L R Q (.ref s.heap.objs.size) {s1 with heap:=h',toks:=s1.toks+vs.length}) a1 (by exact rr a2.keys hnd) hdo fun h' hd' hs'=>?_;have hL:s.heap.objs.size∉L.own:=f.newA;obtain⟨o,ho,hd2⟩:=Heap.dictOf_iff.mp hd';have i3:=(i2.ext (t:=s1.toks+vs.length) b1 b2 hs'.extBut (Nat.le_add_right _ _))
 have f3:=(f1.ext (t:=s1.toks+vs.length) hL hs'.extBut)
 refine⟨B1,put S1 s.heap.objs.size (.dict xs),ρ1,.ref _,l1,?_,f3.putS hL,.ref _,q1 _ b2⟩;refine⟨i3.ok,i3.base,i3.keep,fun a o' e=>?_,i3.gens,i3.os,i3.tk,(AA _ _ (fun q=>iv.big q.symm)).trans i3.sys⟩;by_cases q:a=s.heap.objs.size
 ·subst q;rw[AC]at e;cases e;exact⟨b1,o,ho,_,hd2,a2⟩
 ·rw[AA _ _ q]at e;exact i3.own a o' e
end
section
variable{α β γ δ:Type}{c:Cx}{n:Nat}{B B0 B1:Ao}{S:AD}{L:BU}{ρ:AJ}{rel:Ao→α→β→Prop}{s:Shared}{A:Around}{env:Env}{ns:Cm}{Q:AV→AD→Prop}
theorem Ly:typeLookup (.type "list") "keys"=pure none:=am_miss_of_fast (by kernel_rfl)
theorem Op{prog:Program}{w:World}{E:Value→Shared→Prop}{a:Addr}{xs:Array Value}{k:Nat}{Q:Option Value→Shared→Prop}
  (hx:s.heap.get? a=some ⟨.type "list",none,.seq xs k,#[]⟩) (hA:A.handled=none)
  (h:∀h' tk,(∀b o,s.heap.get? b=some o→h'.get? b=some o)→Q none {s with heap:=h',toks:=tk}):wpAny (model prog w) A (getAttr? (.ref a) "keys") Q E s:=by
 obtain⟨hp,g,d,tk,os⟩:=s;have hT:∀tk',(⟨hp,g,d,tk',os⟩:Shared).TypeIs (.ref a) "list":=fun _=>⟨_,hx,rfl⟩
 have f1:=sub_AttributeError;have f3:=F.slot_list_getattribute.lookup;have f4:=F.slot_list_getattribute.bind (.ref a);have f5:=am_list_getattr_none;unfold getAttr? getAttrBy? getAttrBy
 repeat (any_goals (first|assumption|exact hT _|((with_reducible show wpAny _ _ (call (Value.builtin "list.__getattribute__") _ _) _ _ _);refine call_meets F.slot_list_getattribute (hT _) am_entry_list_getattribute (F.args_list_getattribute_2 _ _) (meets_getattribute_miss_list a xs k #[] "keys" _ Ly (by decide+kernel) (by refine rr sizeLine_eq ?_;decide+kernel)) ⟨hx,hA,fun h' tk' e hx'=>?_⟩)|wp_step))
 obtain⟨t',u',he⟩:=hx'.there;show wpAny _ _ (getattributeRaised _ _ _ _ _ _ _) _ _ _;unfold getattributeRaised
 repeat (any_goals (first|assumption|wp_step))
 exact h _ _ hx'.keeps
theorem A4.add{D:Addr}{ao:AO}{ob:Obj}(i:A4 c B S s)(hB:B D=none)(hs:D≠sysModules)(ho:s.heap.get? D=some ob)(is:Is c B ob ao):A4 c B (put S D ao) s:=
 ⟨i.ok,i.base,i.keep,fun a o e=>by
  by_cases q:a=D
  ·subst q;rw[AC]at e;cases e;exact⟨hB,ob,ho,is⟩
  ·rw[AA _ _ q]at e;exact i.own a o e,i.gens,i.os,i.tk,(AA _ _ (fun q=>hs q.symm)).trans i.sys⟩
noncomputable def HS(p:Str×AV):AV:=.tup [.str p.1,p.2]
noncomputable def Bx(l:List (Str×AV)):List (Str×AV):=l.foldl (fun acc p=>Lp acc p.1 p.2) []
theorem QV(l:List (Str×AV))(k:Str)(x:AV):(Lp l k x).length≤l.length+1:=by
 unfold Lp;split<;>simp
theorem Kv:entryFor table "dict.update.loop"=some Builtin.«dict.update.loop»:=entryFor_of_tree (by kernel_rfl)
inductive Sj(B:Ao)(p:Str×AV):Value→Prop
 |mk {ta:Addr} {ob:Obj} {m:Nat} {t1:Tok} {w:Value} (e3:B ta=some ob) (e4:ob.cls= .type "tuple") (e5:ob.data= .seq [.str p.1 t1,w].toArray m) (r2:R B w p.2):Sj B p (.ref ta)
theorem W5{B:Ao}{p:Str×AV}{v:Value}(r:R B v (HS p)):Sj B p v:=by
 obtain⟨e3,e4,e5,rl⟩:=r.tup_inv;obtain⟨v1,ws,rfl,r1,rl⟩:=rl.cons_inv;obtain⟨v2,rfl,r2⟩:=rl.one;obtain⟨t,rfl⟩:=r1.str_inv;exact⟨e3,e4,e5,r2⟩
theorem Q0{a D I:Addr}{ps:List (Str×AV)}{R':Result→Shared→Prop}(hh:A.handled=none)(hDI:D≠I)(haS:S a=some (.list (ps.map HS)))(hD:B D=none∧S D=none)(hI:B I=none∧S I=none)
  (hR:∀s' l,A4 c B S s'→s'.heap.DictOf (PySem.strKind c.prog c.w) D l→RD B l (Bx ps)→R' (.ok (.ret .none)) s') (hn:ps.length≤500):
  ∀(rest:List (Str×AV)) (pre:List (Str×AV)) (j:Int) (s:Shared) (kvs:List (Str×Value)) (l:List (Str×AV)),ps=pre++rest→l=Bx pre→A4 c B S s→s.heap.IsListIter I a pre.length→s.heap.DictOf (PySem.strKind c.prog c.w) D kvs→RD B kvs l→l.length≤pre.length→
   codeAny (model c.prog c.w) A (.builtin "dict.update.loop" ⟨[.ref D,.ref I,rawInt j,.none],[]⟩) R' s:=by
 intro rest;have it:GC c I (ps.map HS) (fun S=>S a=some (.list (ps.map HS))∨S a=some (.wlist (ps.map HS))) B (fun i h=>h.IsListIter I a i):=GC.list;have hA:(A.under (Code.builtin "dict.update.loop" ⟨[.ref D,.ref I,rawInt 0,.none],[]⟩)).handled=none:=hh
 induction rest with
 |nil=>
  intro pre j s kvs l e1 e2 iv hi hd r hl;rw[List.append_nil]at e1;refine codeAny_builtin Kv ?_;refine wpAny_bind (BO<|wpAny_mono (it.done _ B S s pre.length (cF I s) hh (Le.refl _) iv (.inl haS) hi (by refine rl e1 ?_;simp) fun h' tk hx=>⟨rfl,h',tk,rfl,hx⟩) ?_ fun _ _ x=>x.elim);rintro _ _ ⟨rfl,h',tk,rfl,hx⟩ htk;show wpAny _ _ (Builtin.Dict.addKeywords D [] >>= fun _=>_) _ _ _;obtain⟨o,ho,hd'⟩:=Heap.dictOf_iff.mp hd;refine wpAny_bind (wpAny_pure (wpAny_pure ?_));exact hR _ kvs (iv.ext hI.1 hI.2 hx htk) (Heap.dictOf_iff.mpr ⟨o,hx _ _ hDI ho,hd'⟩) (by exact rr e1 (rl e2 r))
 |cons p rest ih=>
  intro pre j s kvs l e1 e2 iv hi hd r hl;refine codeAny_builtin Kv ?_
  refine wpAny_bind (BO<|wpAny_mono (it.item _ B S s pre.length (HS p) (cH B I (HS p) (fun h'=>h'.IsListIter I a (pre.length+1)) s) hh (Le.refl _) iv (.inl haS) hi (by refine rr e1 ?_;simp)
   fun v h' tk rv st hs=>⟨v,h',tk,rfl,rfl,rv,st,hs⟩) ?_ fun _ _ x=>x.elim)
  rintro _ _ ⟨v,h',tk,rfl,rfl,rv,st,hs⟩ htk;have iv1:A4 c B S {s with heap:=h',toks:=tk}:=iv.ext hI.1 hI.2 hs.extBut htk;obtain⟨o,ho,hd'⟩:=Heap.dictOf_iff.mp hd;have hd1:h'.DictOf (PySem.strKind c.prog c.w) D kvs:=Heap.dictOf_iff.mpr ⟨o,hs.extBut _ _ hDI ho,hd'⟩;obtain⟨e3,e4,e5,r2⟩:=W5 rv;have hta:=iv1.keep _ _ e3;have hpl:pre.length≤ps.length:=by refine rr e1 ?_;simp
  refine wpAny_bind (wpAny_holding (wpAny_bind (wpAny_tryCatch ?_)));unfold Builtin.Dict.pairItems;refine wpAny_bind (wpAny_typeOf (T:="tuple") ⟨_,hta,e4⟩ ?_);refine rr (if_pos (by decide)) ?_;refine wpAny_bind (wpAny_seqItems hta e5 (wpAny_pure ?_));refine wpAny_holding (wpAny_dictSet_pairs (by show decide (p.1=p.1)=true;simp) hd1 (fun h2 hd2 hs2=>?_) (by exact rr r.length (rr sizeLine_eq (V8 hn hl hpl))));refine wpAny_pure ⟨Code.quiet_builtin _ (by decide+kernel),?_⟩;refine ih (pre++[p]) (j+1) _ _ (Lp l p.1 p.2) (by refine rr e1 (rr (List.append_assoc ..) ?_);rfl) (by refine rr e2 ?_;unfold Bx;refine rr List.foldl_append ?_;rfl) ?_ ?_ hd2 (r.stored r2) ?_
  ·exact iv1.ext (t:=tk+1) hD.1 hD.2 hs2.extBut (Nat.le_succ _)
  ·refine rr List.length_append ?_;exact it.loc _ _ _ st (hs2.2 _ hDI.symm)
  ·exact rr List.length_append (Nat.le_trans (QV _ _ _) (Nat.succ_le_succ hl))
theorem PD{a:Addr}{ps:List (Str×AV)}(ha:S a=some (.list (ps.map HS)))(hn:ps.length≤500)(h:∀d,S d=none→Q (.ref d) (put S d (.dict (Bx ps)))):AM c n (.type "dict") [.ref a] S Q:=HR rfl fun B t1 A s rm iv=>by
 obtain⟨hb,vs,m,e1,r⟩:=BS iv ha;refine callType_codes (Q₁:=fun obj s₁=>obj= .ref s.heap.objs.size∧s₁={s with heap:=s.heap.push {cls:=.type "dict",data:=.dict #[]}}) F.kt_called_dict (F.kt_typeCall_dict_1 _) F.entry_dict_init (kt_code_dict_new _ ⟨rfl,rfl⟩) ?_;rintro obj s₁ ⟨rfl,rfl⟩;have hnew:=Heap.DictOf.new (knd:=PySem.strKind c.prog c.w) s.heap;have i1:A4 c B S {s with heap:=s.heap.push {cls:=.type "dict",data:=.dict #[]}}:=iv.next (t:=s.toks) (fun _ _ _ e=>Heap.get?_push_of_some _ e);have el:(s.heap.push {cls:=.type "dict",data:=.dict #[]}).get? a=some ⟨.type "list",none,.seq vs m,#[]⟩:=Heap.get?_push_of_some _ e1;refine⟨hnew.typeIs,F.args_dict_init_2 _ _,?_⟩;unfold Builtin.«dict.__init__»;refine wpAny_bind ?_;unfold Builtin.Dict.selfAndRest;refine wpAny_bind (wpAny_notOrdered_dict hnew.typeIs ?_);show wpAny _ _ (pure (s.heap.objs.size,[Value.ref a])) _ _ _;refine wpAny_pure ?_;show wpAny _ _ (Builtin.Dict.updateFrom "dict.__init__" s.heap.objs.size (.ref a) [] .none) _ _ _;unfold Builtin.Dict.updateFrom;refine wpAny_bind (wpAny_typeOf (T:="list") ⟨_,el,rfl⟩ ?_);refine rr (if_pos (by decide)) ?_;refine wpAny_bind (BO (Op el rm.1 fun h' tk hk htk=>?_));refine rr (if_pos (by rfl)) ?_;have i2:A4 c B S {s with heap:=h',toks:=tk}:=i1.next (ht:=htk) fun b o _ e=>hk b o e;have el2:=hk _ _ el;refine wpAny_bind (wpAny_rule (wpAny_bind (wpAny_pyIter_list ⟨_,el2,rfl,m,rfl⟩ ?_)));have i3:A4 c B S {s with heap:=h'.push {cls:=.type "list_iterator",data:=.fields #[.ref a,.int 0 0]},toks:=tk}:=i2.next (t:=tk) (fun _ _ _ e=>Heap.get?_push_of_some _ e);obtain⟨od,hod,hdd⟩:=Heap.dictOf_iff.mp hnew;have hod2:=hk _ _ hod;have hlt:s.heap.objs.size<h'.objs.size:=Heap.lt_size hod2;refine wpAny_pure ⟨Code.quiet_builtin _ (by decide+kernel),?_⟩;refine Q0 (A:=A.in1) (a:=a) (D:=s.heap.objs.size) (I:=h'.objs.size) rm.1 (Nat.ne_of_lt hlt) ha ⟨iv.newB,iv.newS⟩ ⟨i2.newB,i2.newS⟩ (fun s' l i' hd' rr=>?_) hn ps [] 0 _ [] [] rfl rfl i3 ⟨_,Heap.get?_push_size _ rfl,rfl,rfl⟩ (Heap.dictOf_iff.mpr ⟨od,Heap.get?_push_of_some _ hod2,hdd⟩) .nil (Nat.le_refl _);obtain⟨o',ho',hd2⟩:=Heap.dictOf_iff.mp hd';exact⟨rfl,B,_,.ref _,Le.refl _,i'.add (ao:=.dict (Bx ps)) iv.newB iv.big ho' ⟨l,hd2,rr⟩,.ref _,h _ iv.newS⟩
end
section
variable{α β γ δ:Type}{c:Cx}{n:Nat}{B B0 B1:Ao}{S:AD}{L:BU}{ρ:AJ}{rel:Ao→α→β→Prop}{s:Shared}{A:Around}{env:Env}{ns:Cm}{Q:AV→AD→Prop}
theorem RL.of_strsAre{vs:List Value}{l:List Str}(h:StrsAre vs l):RL B vs (l.map .str):=by
 induction h with
 |nil=>exact .nil
 |cons y t _ ih=>exact .cons (.str y t) ih
theorem Ig{a:Addr}{l:List Str}(ha:S a=some (.list (l.map .str)))(hn:l.length<64)
  (h:∀d l',S d=none→l'.Perm l→sortedS l'=true→Q (.ref d) (put S d (.list (l'.map .str)))):AM c n (.builtin "sorted") [.ref a] S Q:=HR rfl fun B t1 A s rm iv=>by
 obtain⟨hb,vs,m,e1,r⟩:=BS iv ha;have hl:vs.toList.length=l.length:=by simpa using r.length
 refine sorted_strs (vs:=vs.toList) ⟨_,e1,rfl,m,by simp⟩ r.strsAre (by exact rr hl hn) fun out l' h1 h2 h3=>?_;obtain⟨e,he⟩:=sortedAll_at s.heap vs.toList out
 have n1:B (s.heap.objs.size+1)=none∧S (s.heap.objs.size+1)=none∧s.heap.objs.size+1≠sysModules:=by
  have no:s.heap.get? (s.heap.objs.size+1)=none:=Heap.get?_none_of_le (Nat.le_succ _);refine⟨?_,?_,?_⟩
  ·cases q:B (s.heap.objs.size+1)with
   |none=>rfl
   |some o=>rw[iv.keep _ _ q]at no;cases no
  ·cases q:S (s.heap.objs.size+1)with
   |none=>rfl
   |some o=>obtain⟨_,o2,e2,_⟩:=iv.own _ _ q;rw[e2]at no;cases no
  ·intro q;have z:s.heap.objs.size=0:=Nat.succ.inj q;exact absurd (Nat.lt_of_lt_of_eq (Heap.lt_size e1) z) (Nat.not_lt_zero _)
 have i1:A4 c B S {s with heap:=sortedAll s.heap vs.toList out}:=iv.next (t:=s.toks) fun b o _ e=>sortedAll_old e;exact⟨B,_,.ref _,Le.refl _,i1.add (ao:=.list (l'.map .str)) n1.1 n1.2.2 he ⟨out,e,rfl,RL.of_strsAre h1⟩,.ref _,h _ _ n1.2.1 h2 h3⟩
theorem PJ{D:Addr}{vs:List Value}{ss:List Str}{m:Nat}{E:Value→Shared→Prop}{Q:Value→Shared→Prop}{prog:Program}{w:World}(ho:s.heap.get? D=some (seqObj "list" vs.toArray m))(hS:StrsAre vs ss)(h64:vs.length<64)
  (h:∀(out:Array Value) (ss':List Str),StrsAre out.toList ss'→ss'.Perm ss→sortedS ss'=true→Q .none {s with heap:=sortedHeap s.heap D vs out}):wpAny (model prog w) A (call (.builtin "list.sort") [.ref D]) Q E s:=by
 refine wpAny_call_entry slot_list_sort ⟨_,ho,rfl⟩ entry_list_sort ?_ (args_list_sort _);refine list_sort_treeK PyProof.Rows.strKind_oneLt ho hS.keysOf (fun v₁ v₂ rest e=>keyKind_strs (by exact rl e hS)) h64 fun st' hp hs=>?_;obtain⟨ss',h1,h2,h3⟩:=sorted_out_str hS hp hs;exact⟨_,rfl,h _ ss' h1 h2 h3⟩
set_option tactic.hygienic true in
theorem Nq{a:Addr}{l:List (Str×AV)}(ha:S a=some (.dict l))(hn:l.length<64)
  (h:∀d l',S d=none→l'.Perm (l.map (·.1))→sortedS l'=true→Q (.ref d) (put S d (.list (l'.map .str)))):cG c n L (.builtin "sorted") [.ref a] ρ S Q:=fun A B s vs r rm iv fr=>by
 obtain⟨v,rfl,r1⟩:=r.one;obtain⟨t,rfl⟩:=r1.sh rfl;obtain⟨_,kvs,hd,r⟩:=EM iv ha;obtain⟨m,F,N,hi⟩:=Tc fr;obtain⟨ep,hat⟩:=hd.dictAt;refine BO (kdu_sorted (kdl_dict (knd:=PySem.strKind c.prog c.w) (kvs:=kvs) (ep:=ep) (IU iv ha)) rm.1 F N hat (by exact rr r.length (rr sizeLine_eq (eI hn))) fun D h' tk vs F' N' hlt hl hv=>?_)
 have hS:StrsAre vs (kvs.map (·.1)):=by
  have key:∀(vs:List Value) (kvs:List (Str×Value)),vs.length=kvs.length→(∀(j:Nat) (v:Value),vs[j]?=some v→∃k x,kvs[j]?=some (k,x)∧(PySem.strKind c.prog c.w).is k v=true)→StrsAre vs (kvs.map (·.1)):=by
   intro vs
   induction vs with
   |nil=>intro kvs h0 _;cases kvs with|nil=>exact .nil|cons _ _=>cases h0
   |cons v vs ih=>
    intro kvs h0 hj
    cases kvs with
    |nil=>cases h0
    |cons p kvs=>
     obtain⟨k,x,e,hk⟩:=hj 0 v rfl;cases e
     have:∃t,v= .str k t:=by
      cases v<;>first|exact absurd hk Bool.false_ne_true|skip
      rename_i y t;have:y=k:=by first|exact of_decide_eq_true hk|exact(of_decide_eq_true hk).symm
      exact⟨t,by exact rr this rfl⟩
     obtain⟨t,rfl⟩:=this;exact .cons k t (ih kvs (Nat.succ.inj h0) fun j v e=>hj (j+1) v e)
  exact key vs kvs hl hv
 have hDo:=(N' _ (.head _)).1;refine PJ (m:=0) hDo hS (by exact rr hl (rr r.length hn)) fun out ss' h1 h2 h3 htk=>?_;obtain⟨e,he⟩:=sortedHeap_at (out:=out) hDo;have hsz:D<h'.objs.size:=Heap.lt_size hDo
 have F2:Fr TV L.L (sortedHeap h' D vs out) m:=by
  obtain⟨oL,es,ep,hoL,hr⟩:=F'.ns;have hDL:=(N' _ (.head _)).2.1;exact⟨⟨oL,es,ep,(sortedHeap_old (fun z=>hDL z.symm) (Heap.lt_size hoL)).trans hoL,hr⟩,fun b o e=>absurd (Heap.lt_size e) (Nat.not_lt_zero _),Nat.zero_le _⟩
 have N2:News TV L.L (sortedHeap h' D vs out) ((D,seqObj "list" out e)::allBut s.heap L.L):=fun p hp=>by
  rcases List.mem_cons.mp hp with rfl|hp
  ·exact⟨he,(N' _ (.head _)).2⟩
  ·obtain⟨k1,k2⟩:=N' p (.tail _ hp);exact⟨(sortedHeap_old (Nat.ne_of_lt (hlt p hp)) (Heap.lt_size k1)).trans k1,k2⟩
 obtain⟨b1,b2,b3⟩:=Oc (ao:=.list (ss'.map .str)) iv fr hi F2 N2 hlt htk ⟨out,e,rfl,RL.of_strsAre h1⟩;exact⟨B,_,ρ,.ref _,Le.refl _,b2,b3,.ref _,rfl,h _ _ b1 (by rw[r.keys]at h2;exact h2) h3⟩
noncomputable def J2:List Str→List Str→Bool
 |x::xs,y::ys=>if x=y then J2 xs ys else decide (x.cps.toList<y.cps.toList)
 |_,_=>false
theorem Qi{prog:Program}{w:World}{Q:Bool→Shared→Prop}{ks:List Str}:∀{ls:List Str} {vs ws:List Value} (i:Nat),ks.length=ls.length→RL B vs (ks.map .str)→RL B ws (ls.map .str)→Q (J2 ks ls) s→KatLex prog w A true false Q (vs.zip ws) i s:=by
 induction ks with
 |nil=>
  intro ls vs ws i hl r r' h;have e1:=r.nil_inv;subst e1
  cases ls with
  |nil=>exact kat_nil h
  |cons _ _=>cases hl
 |cons x ks ih=>
  intro ls vs ws i hl r r' h
  cases ls with
  |nil=>cases hl
  |cons y ls=>
  obtain⟨v,vs',e1,r0,r1⟩:=r.cons_inv;obtain⟨v2,ws',e2,r0',r1'⟩:=r'.cons_inv;obtain⟨t,e3⟩:=r0.str_inv;obtain⟨u,e4⟩:=r0'.str_inv;subst e1;subst e2;subst e3;subst e4;refine kat_cons (SeqAt.EqAt.str_str x t y u prog w _ _ ?_);unfold J2 at h;refine kat_go (fun e=>kat_yes ?_) (fun e=>kat_no ?_)
  ·have e':x=y:=by simpa using e
   rw[if_pos e']at h;exact ih (i+1) (Nat.succ.inj hl) r1 r1' h
  ·have e':¬x=y:=by simpa using e
   rw[if_neg e']at h;by_cases hi:i=0
   ·subst hi;exact oneLt_str h
   ·have:(true&&i==0)=false:=by simp[hi]
    refine rr this ?_;exact kat_one _ _ (PySem.P.lt_str h)
noncomputable def NV{α:Type}(lt:Nat→Nat→Bool):KasT α→α
 |.ret a=>a
 |.ask i j k=>NV lt (k (lt i j))
noncomputable def Kk{α:Type}(n:Nat)(leaf:α→Bool):KasT α→Bool
 |.ret a=>leaf a
 |.ask i j k=>decide (i<n)&&decide (j<n)&&Kk n leaf (k true)&&Kk n leaf (k false)
theorem LU{α:Type}{n:Nat}{leaf:α→Bool}{lt:Nat→Nat→Bool}:∀{t:KasT α},Kk n leaf t=true→leaf (NV lt t)=true
 |.ret a,h=>h
 |.ask i j k,h=>by
  unfold Kk at h;simp only[Bool.and_eq_true]at h;show leaf (NV lt (k (lt i j)))=true;cases lt i j
  ·exact LU h.2
  ·exact LU h.1.2
theorem Nl{α:Type}{n:Nat}{leaf:α→Bool}{lt:Nat→Nat→Bool}{ask:Nat→Nat→(Bool→Shared→Prop)→Shared→Prop}{Q:α→Shared→Prop}(ha:∀i j C,i<n→j<n→C (lt i j) s→ask i j C s):
  ∀{t:KasT α},Kk n leaf t=true→Q (NV lt t) s→t.kasWp ask Q s
 |.ret a,_,h=>h
 |.ask i j k,hf,h=>by
  unfold Kk at hf;simp only[Bool.and_eq_true,decide_eq_true_eq]at hf;refine ha i j _ hf.1.1.1 hf.1.1.2 ?_;have h':Q (NV lt (k (lt i j))) s:=h;cases e:lt i j
  ·rw[e]at h';exact Nl ha hf.2 h'
  ·rw[e]at h';exact Nl ha hf.1.2 h'
noncomputable def Y9(n:Nat)(p:Array Nat):Bool:=p.toList.all fun i=>decide (i<n)
theorem dN:Kk 2 (Y9 2) (kas_sort 2)=true:=by decide+kernel
theorem dO:Kk 3 (Y9 3) (kas_sort 3)=true:=by decide+kernel
theorem d6:Kk 4 (Y9 4) (kas_sort 4)=true:=by decide+kernel
theorem Qx{n:Nat}(h2:2≤n)(h4:n≤4):Kk n (Y9 n) (kas_sort n)=true:=by
 rcases(by decide:∀n,n≤4→2≤n→n=2∨n=3∨n=4) n h4 h2 with rfl|rfl|rfl
 ·exact dN
 ·exact dO
 ·exact d6
noncomputable def TB(l:List (List Str)):List Nat:=if l.length<2 then List.range l.length else(NV (fun i j=>J2 (l.getD i []) (l.getD j [])) (kas_sort l.length)).toList
noncomputable def sortT(l:List (List Str)):List (List Str):=(TB l).map fun i=>l.getD i []
noncomputable abbrev GG(ks:List Str):AV:=.tup (ks.map .str)
theorem RL.getD{vs:List Value}{xs:List AV}(r:RL B vs xs)(i:Nat):R B (vs.getD i Value.none) (xs.getD i .none):=by
 refine RL.ind (P:=fun vs xs=>∀i,R B (vs.getD i Value.none) (xs.getD i .none)) (fun _=>.none) (fun w y vs xs a r ih i=>?_) r i
 cases i with
 |zero=>exact a
 |succ i=>exact ih i
theorem Ro{w:Nat}(hw:0<w){l:List (List Str)}(hk:∀a o,B a=some o→s.heap.get? a=some o):∀{vs:List Value},RL B vs (l.map GG)→(∀ks∈l,ks.length=w)→∃fs:List Value,KatTups s.heap vs fs∧fs.length=l.length∧∀v∈fs,∃x t,v=Value.str x t:=by
 induction l with
 |nil=>
  intro vs r _;have e1:=r.nil_inv;subst e1;exact⟨[],KatTups.nil,rfl,fun _ h=>nomatch h⟩
 |cons ks l ih=>
  intro vs r hl;obtain⟨v,vs',rfl,r0,rs⟩:=r.cons_inv;obtain @⟨a,ob,us,m,q1,q2,q3,r9⟩:=r0.tup_inv;obtain⟨fs,h1,h2,h3⟩:=ih rs fun ks h=>hl ks (.tail _ h);have:=hl ks (.head _)
  cases ks with
  |nil=>rw[←this]at hw;exact absurd hw (Nat.lt_irrefl _)
  |cons x ks=>
   obtain⟨v,us',e1,r5,r6⟩:=r9.cons_inv;obtain⟨t,e2⟩:=r5.str_inv;subst e1;subst e2
   exact⟨.str x t::fs,KatTups.cons (hk _ _ q1) q2 q3 (by simp) h1,by exact rr List.length_cons (rr List.length_cons (rr h2 rfl)),fun v hv=>by
     rcases List.mem_cons.mp hv with rfl|hv
     ·exact⟨x,t,rfl⟩
     ·exact h3 v hv⟩
theorem Nk{a:Addr}{l:List (List Str)}{w:Nat}(ha:S a=some (.list (l.map GG)))(hw:0<w)(hl:∀ks∈l,ks.length=w)(h2:2≤l.length)(h4:l.length≤4)
  (h:∀d,S d=none→Q (.ref d) (put S d (.list ((sortT l).map GG)))):cG c n L (.builtin "sorted") [.ref a] ρ S Q:=fun A B s vs r rm iv fr=>by
 obtain⟨v,rfl,r1⟩:=r.one;obtain⟨t,rfl⟩:=r1.sh rfl;obtain⟨hb,vs,k,e1,r⟩:=BS iv ha;obtain⟨m,F,N,hi⟩:=Tc fr;have hlen:vs.toList.length=l.length:=by simpa using r.length
 refine BO (kat_sorted (vs:=vs.toList) F N ⟨_,e1,rfl,k,by simp⟩ (by exact rr hlen h2) (by exact rr hlen (W4 h4)) fun D e h' F' N' hlt=>?_);have keep:∀b o,B b=some o→h'.get? b=some o:=fun b o q=>(N' (b,o) (.tail _ (FZ ((by first|exact As q ((fr.ow _ (.head _)).1)|exact(As ((fr.ow _ (.head _)).1) q).symm)) (iv.keep _ _ q)))).1;obtain⟨fs,k1,k2,k3⟩:=Ro (s:={s with heap:=h'}) hw keep r hl;refine kat_kind k1 (by exact rr k2 (UP h2)) (T:=.type "str") (fun v hv=>?_) (by decide) ?_
 ·obtain⟨x,t,rfl⟩:=k3 v hv;exact Looks.of_pure rfl
 have hT:(Value.type "str" != Value.type "tuple")=true:=by decide
 refine rr hT (rr hlen ?_);refine Nl (n:=l.length) (leaf:=Y9 l.length) (lt:=fun i j=>J2 (l.getD i []) (l.getD j [])) (fun i j C hi' hj hC=>?_) (Qx h2 h4) ?_
 ·obtain⟨ki,qi⟩:∃ks,l[i]?=some ks:=⟨_,List.getElem?_eq_getElem hi'⟩
  obtain⟨kj,qj⟩:∃ks,l[j]?=some ks:=⟨_,List.getElem?_eq_getElem hj⟩
  obtain⟨vi,wi,ri⟩:=r.get (i:=i) (x:=GG ki) (by simp[qi]);obtain⟨vj,wj,rj⟩:=r.get (i:=j) (x:=GG kj) (by simp[qj]);have gi:l.getD i []=ki:=by refine rr List.getD_eq_getElem?_getD (rr qi ?_);rfl
  have gj:l.getD j []=kj:=by refine rr List.getD_eq_getElem?_getD (rr qj ?_);rfl
  have li:=hl ki (List.mem_of_getElem? qi);have lj:=hl kj (List.mem_of_getElem? qj);show wpAny _ _ (keyLt' (tuples' true) (vs.toList.getD i Value.none) (vs.toList.getD j Value.none)) C _ _;refine rr List.getD_eq_getElem?_getD (rr List.getD_eq_getElem?_getD (rr wi (rr wj ?_)));rw[gi,gj]at hC;obtain⟨a1,a2,a3,rr⟩:=ri.tup_inv;obtain⟨b1,b2,b3,rr'⟩:=rj.tup_inv;refine kat_lt (keep _ _ a1) a3 (keep _ _ b1) b3 ?_;have z1:=rr.length;have z2:=rr'.length;rw[List.length_map]at z1 z2;have hsz:∀(x y:List Value),x.length=ki.length→y.length=kj.length→decide (x.toArray.size<y.toArray.size)=false:=fun x y p q=>decide_eq_false (by rw[List.size_toArray,List.size_toArray,p,q,li,lj];exact Nat.lt_irrefl _);rw[hsz _ _ z1 z2];exact Qi 0 (by rw[li,lj]) rr rr' hC
 ·refine KasFin.intro F' N' (.head fun p hp=>(Nat.ne_of_lt (hlt p hp))) fun h2' cc F2 N2 htk=>?_;have hp:=LU (lt:=fun i j=>J2 (l.getD i []) (l.getD j [])) (Qx h2 h4);have hnot:¬l.length<2:=by exact cq h2
  have rout:RL B (((NV (fun i j=>J2 (l.getD i []) (l.getD j [])) (kas_sort l.length)).toList.map fun i=>vs.toList.getD i Value.none)) ((sortT l).map GG):=by
   unfold sortT TB;refine rr (if_neg hnot) ?_
   have:∀q:List Nat,(∀i∈q,i<l.length)→RL B (q.map fun i=>vs.toList.getD i Value.none) ((q.map fun i=>l.getD i []).map GG):=by
    intro q
    induction q with
    |nil=>intro _;exact .nil
    |cons i q ih=>
     intro hq;refine .cons ?_ (ih fun j hj=>hq j (.tail _ hj));have hi':=hq i (.head _);have:=r.getD i;rw[List.getD_eq_getElem?_getD (l:=l.map GG),List.getElem?_map,List.getElem?_eq_getElem hi']at this;show R B (vs.toList.getD i Value.none) (GG (l.getD i []));refine rr (List.getD_eq_getElem?_getD (l:=l)) (rr (List.getElem?_eq_getElem hi') ?_);exact this
   exact this _ fun i hi'=>by simpa using List.all_eq_true.mp hp i hi'
  obtain⟨b1,b2,b3⟩:=Oc (ao:=.list ((sortT l).map GG)) iv fr hi F2 N2 hlt htk ⟨_,cc,rfl,by simpa using rout⟩;exact⟨B,_,ρ,.ref _,Le.refl _,b2,b3,.ref _,rfl,h _ b1⟩
end
section
variable{α β γ δ:Type}{c:Cx}{n:Nat}{B B0 B1:Ao}{S:AD}{L:BU}{ρ:AJ}{rel:Ao→α→β→Prop}{s:Shared}{A:Around}{env:Env}{ns:Cm}{Q:AV→AD→Prop}
theorem Qm{D:Addr}{v:Value}{m:Nat}{E:Value→Shared→Prop}{Q:Value→Shared→Prop}{prog:Program}{w:World}(ho:s.heap.get? D=some (seqObj "list" [v].toArray m))
  (h:Q .none {s with heap:=sortedHeap s.heap D [v] #[v]}):wpAny (model prog w) A (call (.builtin "list.sort") [.ref D]) Q E s:=by
 refine wpAny_call_entry slot_list_sort ⟨_,ho,rfl⟩ entry_list_sort ?_ (args_list_sort _);refine rr (list_sort_plain ..) ?_;have ha:D<s.heap.objs.size:=Heap.lt_size ho;refine wpAny_bind (listItems_at ho rfl ?_);refine wpAny_bind (listUpdate_at ho rfl ?_);obtain⟨e1,ho1⟩:∃e1,(s.heap.update D (Obj.mapSeq fun _=>#[])).get? D=some (seqObj "list" #[] e1):=⟨_,get?_update_seq ho (fun _=>#[])⟩
 refine wpAny_bind (seqEpoch_at ho1 rfl ?_);refine wpAny_bind (wpAny_newTuple ?_);refine wpAny_bind (wpAny_newList ?_);refine wpAny_holding ?_
 have ho6:(((s.heap.update D (Obj.mapSeq fun _=>#[])).push (seqObj "tuple" [v].toArray 0)).push (seqObj "list" #[] 0)).get? D=some (seqObj "list" #[] e1):=by
  refine rr (Heap.get?_push_ne _ _ _ (by rw[size_push',Heap.size_update];exact Nat.ne_of_lt (Nat.lt_succ_of_lt ha))) (rr (Heap.get?_push_ne _ _ _ (by rw[Heap.size_update];exact Nat.ne_of_lt ha)) ?_);exact ho1
 show wpAny _ _ _ _ _ {s with heap:=((s.heap.update D (Obj.mapSeq fun _=>#[])).push (seqObj "tuple" [v].toArray 0)).push (seqObj "list" #[] 0)};have h12:[v].toArray.size<2:=(show 1<2 by decide)
 refine rr (if_pos h12) (rr (if_pos h12) ?_);refine wpAny_bind (wpAny_pure ?_);dsimp only;refine rr (StateT.run_pure ..) ?_;refine wpAny_bind (wpAny_pure ?_);dsimp only;refine wpAny_bind (seqEpoch_at ho6 rfl ?_)
 have hout:(arrOf (SortSt.mk' general' ([v].toArray.zip [v].toArray) #[] 7 none)).map (·.2)=#[v]:=by
  show([v].toArray.zip [v].toArray).map (·.2)=#[v];simp
 refine rr hout ?_;refine wpAny_bind (listUpdate_at ho6 rfl ?_ (hsz2:=by exact rr sizeLine_eq (show 1≤16777217 by decide)));simp only[bne_self_eq_false,Bool.false_eq_true,if_false];exact wpAny_pure ⟨_,rfl,h⟩
theorem Nc{a:Addr}{x:AV}(ha:S a=some (.list [x]))(h:∀d,S d=none→Q (.ref d) (put S d (.list [x]))):AM c n (.builtin "sorted") [.ref a] S Q:=HR rfl fun B t1 A s rm iv=>by
 obtain⟨hb,vs,m,e1,r⟩:=BS iv ha
 obtain⟨v,hv,rv⟩:∃v,vs.toList=[v]∧R B v x:=by
  generalize vs.toList=z at r
  cases r with|cons r0 r=>cases r with|nil=>exact⟨_,rfl,r0⟩
 have hvs:vs=[v].toArray:=by exact rl hv rfl
 subst hvs;refine Calls.call_function_entry kind_sorted plain_sorted entry_sorted (args_sorted1 _) ?_;unfold Builtin.«sorted»;refine wpAny_bind (m:=checkCount "sorted" 1 1 _) (wpAny_pure ?_);refine wpAny_bind (collect_list (vs:=[v]) ⟨_,e1,rfl,m,rfl⟩ ?_ (Uw ((show 1≤16777216 by decide))));refine wpAny_bind (wpAny_newList ?_ (Uw ((show 1≤16777216 by decide))))
 have hsz:((s.heap.push (seqObj "list" #[] 0)).update s.heap.objs.size (Obj.mapSeq (·++[v].toArray))).objs.size=s.heap.objs.size+1:=by
  exact rr (Heap.size_update ..) (rr (size_push' ..) rfl)
 have hoL:(((s.heap.push (seqObj "list" #[] 0)).update s.heap.objs.size (Obj.mapSeq (·++[v].toArray))).push (seqObj "list" [v].toArray 0)).get? (s.heap.objs.size+1)=some (seqObj "list" [v].toArray 0):=by
  exact rl hsz (Heap.get?_push_size _ rfl)
 show wpAny _ _ _ _ _ {s with heap:=((s.heap.push (seqObj "list" #[] 0)).update s.heap.objs.size (Obj.mapSeq (·++[v].toArray))).push (seqObj "list" [v].toArray 0)};refine rr hsz ?_;refine wpAny_bind (wpAny_holding (Qm hoL ?_));refine wpAny_pure ⟨_,rfl,?_⟩;obtain⟨e,he⟩:=sortedAll_at s.heap [v] #[v]
 have n1:B (s.heap.objs.size+1)=none∧S (s.heap.objs.size+1)=none∧s.heap.objs.size+1≠sysModules:=by
  have no:s.heap.get? (s.heap.objs.size+1)=none:=Heap.get?_none_of_le (Nat.le_succ _);refine⟨?_,?_,?_⟩
  ·cases q:B (s.heap.objs.size+1)with
   |none=>rfl
   |some o=>rw[iv.keep _ _ q]at no;cases no
  ·cases q:S (s.heap.objs.size+1)with
   |none=>rfl
   |some o=>obtain⟨_,o2,e2,_⟩:=iv.own _ _ q;rw[e2]at no;cases no
  ·intro q;have z:s.heap.objs.size=0:=Nat.succ.inj q;exact absurd (Nat.lt_of_lt_of_eq (Heap.lt_size e1) z) (Nat.not_lt_zero _)
 have i1:A4 c B S {s with heap:=sortedAll s.heap [v] #[v]}:=iv.next (t:=s.toks) fun b o _ e=>sortedAll_old e;exact⟨B,_,.ref _,Le.refl _,i1.add (ao:=.list [x]) n1.1 n1.2.2 he ⟨#[v],e,rfl,.cons rv .nil⟩,.ref _,h _ n1.2.1⟩
theorem MM{a:Addr}{l:List (List Str)}{w:Nat}(ha:S a=some (.list (l.map GG)))(hw:0<w)(hl:∀ks∈l,ks.length=w)(h4:l.length≤4)
  (h:∀d,S d=none→Q (.ref d) (put S d (.list ((sortT l).map GG)))):cG c n L (.builtin "sorted") [.ref a] ρ S Q:=by
 by_cases h2:2≤l.length
 ·exact Nk ha hw hl h2 h4 h
 ·have key:AM c n (.builtin "sorted") [.ref a] S Q:=by
   match l,h2 with
   |[],_=>
    refine Ig (l:=[]) ha (by decide) fun d l' hd hp _=>?_;obtain rfl:=List.Perm.eq_nil hp;exact h d hd
   |[x],_=>exact Nc ha fun d hd=>h d hd
   |_::_::_,h2=>exact absurd (by simp) h2
  intro A B s vs r rm iv fr;refine CV rR rm iv fr (Le.refl _) fun B' l'=>(key B' vs (r.mono l')).mono fun b S' q=>⟨rfl,q⟩
end
end Mine
namespace Mine
open PySem PySem.Spec PySem.Calls PyProof.Rows PySem.W PySem.NumText
section
variable{α β γ δ:Type}{c:Cx}{n:Nat}{B B0 B1:Ao}{S:AD}{L:BU}{ρ:AJ}{rel:Ao→α→β→Prop}{s:Shared}{A:Around}{env:Env}{ns:Cm}{Q:AV→AD→Prop}
theorem UM{M:Model}{E:Value→Shared→Prop}{Q:Value→Shared→Prop}{v:Value}{text:List Nat}{n:Int}
  (hs:(text.takeWhile (· != 0)).length≤640) (hr:(int_private%"readNumeral") 0 16 (text.takeWhile (· != 0))=(int_private%"Numeral.value") n)
  (ha:((text.takeWhile (· != 0)).length==text.length)=true) (h:Q (.int n s.toks) {s with toks:=s.toks+1}):
  wpAny M A ((int_private%"intFromText") v text 16) Q E s:=by
 obtain⟨hp,g,d,tk,os⟩:=s
 repeat (any_goals (first
  |assumption
  |(with_reducible refine wpAny_ite_true (decide_eq_true hs) ?_)
  |(with_reducible refine wpAny_ite_true (decide_eq_true ha) ?_)
  |wp_step))
 all_goals (try refine rr hr ?_)
 all_goals (try dsimp only)
 repeat (any_goals (first
  |assumption
  |(with_reducible refine wpAny_ite_true (decide_eq_true hs) ?_)
  |(with_reducible refine wpAny_ite_true (decide_eq_true ha) ?_)
  |wp_step))
theorem SO{x:PySem.Str}{u t:Tok}{n:Int}(hs:(numSeenOf x).length≤640)(hr:(int_private%"readNumeral") 0 16 (numSeenOf x)=(int_private%"Numeral.value") n)(ha:((numSeenOf x).length==(numTextOf x).length)=true):
  Gives (Builtin.«int.__new__» ⟨[.type "int",.str x u,.int 16 t],[]⟩) (.int n):=
 .of_wp fun M A E s Q h=>by
  obtain⟨hp,g,d,tk,os⟩:=s;have f1:=F.conv_sub_int;have f2:=F.madeHere_int;have f6:typeOf (.str x u)=pure (.type "str"):=rfl;have hk:=KIN.Hid.mk (And.intro hs (And.intro hr ha));clear hs hr ha
  repeat (any_goals (first
   |assumption
   |((with_reducible show wpAny _ _ ((int_private%"intFromText") _ _ _) _ _ _);refine UM hk.out.1 hk.out.2.1 hk.out.2.2 ?_)
   |wp_step))
  all_goals first|exact⟨_,rfl,h⟩|skip
theorem SN(a b:Value):checkTypeCall "int" ⟨[a,b],[]⟩=pure ():=by kernel_rfl
theorem Re(a b:Value):checkBuiltinCall "int.__new__" ⟨[.type "int",a,b],[]⟩=pure ():=by kernel_rfl
theorem cX(a b d:Value):argsOk "object.__init__" ⟨[a,b,d],[]⟩:=by unfold argsOk;kernel_rfl
theorem LT{x:PySem.Str}{k:Int}(hs:(numSeenOf x).length≤640)(hr:(int_private%"readNumeral") 0 16 (numSeenOf x)=(int_private%"Numeral.value") k)(ha:((numSeenOf x).length==(numTextOf x).length)=true)
  (h:Q (.int k) S):AM c n (.type "int") [.str x,.int 16] S Q:=M4 rfl rfl fun B t u A s rm iv=>by
 exact callType_new F.called_int F.newNe_int (SN _ _) (Re _ _) (fun obj=>cX obj _ _) F.entry_int_new (SO hs hr ha).meets (show(Made.int k).post _ s from⟨rfl,AU (iv.toks (t:=s.toks+1)) (.int _ _) h⟩)
theorem Tu(h:Q (.int 9) S):AM c n (.type "int") [.str "9",.int 16] S Q:=LT (by decide+kernel) (by with_unfolding_all rfl) (by decide+kernel) h
theorem Uo(h:Q (.int 10) S):AM c n (.type "int") [.str "A",.int 16] S Q:=LT (by decide+kernel) (by with_unfolding_all rfl) (by decide+kernel) h
theorem UR(h:Q (.int 13) S):AM c n (.type "int") [.str "D",.int 16] S Q:=LT (by decide+kernel) (by with_unfolding_all rfl) (by decide+kernel) h
end
noncomputable def R6:List Stmt→Nat→Stmt
 |[],_=>.Pass {line:=0,col:=0,endLine:=0,endCol:=0}
 |x::_,0=>x
 |_::l,k+1=>R6 l k
noncomputable def dBody:Stmt→List Stmt
 |.FunctionDef _ _ b _ _ _ _ _ _ _=>b
 |.ClassDef _ _ _ b _ _ _ _ _ _ _=>b
 |_=>[]
noncomputable def dArgs:Stmt→Arguments
 |.FunctionDef _ a _ _ _ _ _ _ _ _=>a
 |_=>{posonlyargs:=[],args:=[],vararg:=none,kwonlyargs:=[],kw_defaults:=[],kwarg:=none,defaults:=[]}
noncomputable def dNames:Stmt→Cm
 |.FunctionDef _ _ _ _ _ _ sc _ _ _=>sc.names
 |_=>[]
noncomputable def FD(k:Nat):Stmt:=R6 PySem.Challenge.pw_nu0075_01.main.body k
noncomputable def MD(k j:Nat):Stmt:=R6 (dBody (FD k)) j
inductive Ay(K:Frag)(a:Addr)(st:Stmt)(dV:Value:=.none):Prop
 |mk (oc:Value) (od:Option Addr) (osl:Array (Option Value)) (nm qn:Str) (mo:List (Str×Const)) (doc pm cdv ct:Value) (an:Option Addr)
  (h1:K.lookup a=some ⟨oc,od,.func (fdOf nm qn (dArgs st) (dBody st) (dNames st) mo dV .none doc pm an cdv ct),osl⟩) (h2:codeIn K cdv qn=true)
section
variable{α β γ δ:Type}{c:Cx}{n:Nat}{B B0 B1:Ao}{S:AD}{L:BU}{ρ:AJ}{rel:Ao→α→β→Prop}{s:Shared}{A:Around}{env:Env}{ns:Cm}{Q:AV→AD→Prop}
theorem MO{vs:List Value}{k:Nat}(h:vs.length=k):vs=(List.range k).map fun i=>vs.getD i .none:=by
 subst h;refine List.ext_getElem (by simp) fun i h1 h2=>?_;simp[List.getD,h1]
theorem AP{a:Addr}{st:Stmt}{names:List Str}{xs:List AV}{Q:AV→AD→Prop}(hf:Ay c.K a st)(hfree:((dNames st).all fun x=>x.2 != .free&&x.2 != .cell)=true)
  (hbind:∀(nm qn:Str) (mo:List (Str×Const)) (doc pm cdv ct:Value) (an:Option Addr) (s:Shared) (g:Nat→Value),BindsTo s (fdOf nm qn (dArgs st) (dBody st) (dNames st) mo .none .none doc pm an cdv ct) ⟨(List.range xs.length).map g,[]⟩ (names.zip ((List.range xs.length).map g)))
  (hnd:names.Nodup) (hlen:names.length=xs.length) (hloc:(names.all fun x=>(dNames st).lookup x==some .local)=true)
  (h:∀L env,I6 L (dNames st)→Am env L (dNames st)→Ok c n L RF (execs (dBody st) env) (names.zip xs) S (Fin Q)):Fp c (n+1) (.ref a) xs S Q:=by
 obtain⟨oc,od,osl,nm,qn,mo,doc,pm,cdv,ct,an,h1,h2⟩:=hf;refine K2 (names:=names) (dx:=[]) (dv:=[]) h1 h2 hfree (fun s vs hl _=>?_) (fun _=>.nil) hnd (by simpa using hlen) hloc (by simpa using h);exact rr (List.append_nil ..) (rr (MO hl) (hbind _ _ _ _ _ _ _ _ s _))
theorem Hu{a:Addr}{st:Stmt}{names:List Str}{xs:List AV}{Q:AV→AD→Prop}(hf:Ay c.K a st)(hfree:((dNames st).all fun x=>x.2 != .free)=true)(hns:((dNames st).map (·.1)).Nodup)
  (hbind:∀(nm qn:Str) (mo:List (Str×Const)) (doc pm cdv ct:Value) (an:Option Addr) (g:Nat→Value),bindArgs (fdOf nm qn (dArgs st) (dBody st) (dNames st) mo .none .none doc pm an cdv ct) ⟨(List.range xs.length).map g,[]⟩=pure (names.zip ((List.range xs.length).map g)))
  (hnd:names.Nodup) (hlen:names.length=xs.length) (hloc:(names.all fun x=>((dNames st).lookup x==some .local)||((dNames st).lookup x==some .cell))=true)
  (h:∀L env,I6 L (dNames st)→Am env L (dNames st)→Ok c n L RF (execs (dBody st) env) (names.zip xs) S (Fin Q)):Fp c (n+1) (.ref a) xs S Q:=by
 obtain⟨oc,od,osl,nm,qn,mo,doc,pm,cdv,ct,an,h1,h2⟩:=hf;exact On (names:=names) h1 h2 hfree hns (fun vs hl=>by exact rr (MO hl) (hbind _ _ _ _ _ _ _ _ _)) hnd hlen hloc h
theorem Hr{a:Addr}{st:Stmt}{dV:Value}{dv:List Value}{dx:List AV}{names:List Str}{xs:List AV}{Q:AV→AD→Prop}(hf:Ay c.K a st dV)(hfree:((dNames st).all fun x=>x.2 != .free&&x.2 != .cell)=true)
  (hbind:∀(nm qn:Str) (mo:List (Str×Const)) (doc pm cdv ct:Value) (an:Option Addr) (s:Shared) (vs:List Value),vs.length=xs.length→c.K.In s.heap→BindsTo s (fdOf nm qn (dArgs st) (dBody st) (dNames st) mo dV .none doc pm an cdv ct) ⟨vs,[]⟩ (names.zip (vs++dv)))
  (hdv:∀B,RL B dv dx) (hnd:names.Nodup) (hlen:names.length=xs.length+dx.length) (hloc:(names.all fun x=>(dNames st).lookup x==some .local)=true)
  (h:∀L env,I6 L (dNames st)→Am env L (dNames st)→Ok c n L RF (execs (dBody st) env) (names.zip (xs++dx)) S (Fin Q)):Fp c (n+1) (.ref a) xs S Q:=by
 obtain⟨oc,od,osl,nm,qn,mo,doc,pm,cdv,ct,an,h1,h2⟩:=hf;exact K2 (names:=names) h1 h2 hfree (hbind _ _ _ _ _ _ _ _) hdv hnd hlen hloc h
noncomputable abbrev Gl(K:Frag)(x:Str)(a:Addr):Prop:=nsIn K mainGlobals x=some (some (.ref a))
noncomputable abbrev Nb(K:Frag)(x:Str):Prop:=nsIn K mainGlobals x=some none
theorem du{x:Str}{a:Addr}{pos:Pos}{Q:AV→AJ→AD→Prop}(hg:Gl c.K x a)(he:Am env L ns)(hl:ns.lookup x=some .globalImplicit)(h:Q (.ref a) ρ S)(hd:(x==("__debug__":Str))=false:=by kernel_rfl):Ok c n L R (eval (.Name x pos) env) ρ S Q:=
 Ld he hl hg (fun _ _=>.ref _) h hd
theorem AL{x:Str}{a:Addr}{p pos:Pos}{args:List Expr}{Q:AV→AJ→AD→Prop}(hg:Gl c.K x a)(hk:keepIn c.K (.ref a)=true)(he:Am env L ns)(hl:ns.lookup x=some .globalImplicit)
  (h:Ok c n L RL (spliced (backTo pos (starEach args env))) ρ S (cI c n (.ref a) Q))
  (hplain:(backTo pos (starEach args env)).any (·.1)=false:=by kernel_rfl) (hd:(x==("__debug__":Str))=false:=by kernel_rfl):
  Ok c n L R (eval (.Call (.Name x p) args [] pos) env) ρ S Q:=
 NR (du hg he hl ⟨.ref a,rfl,Ko hk,h⟩ hd) hplain
theorem BT{x:Str}{id:String}{p pos:Pos}{args:List Expr}{Q:AV→AJ→AD→Prop}(hg:Nb c.K x)(he:Am env L ns)(hl:ns.lookup x=some .globalImplicit)
  (h:Ok c n L RL (spliced (backTo pos (starEach args env))) ρ S (cI c n (.builtin id) Q))
  (hv:bootBuiltins x=some (.builtin id):=by kernel_rfl) (hx:x≠"__name__":=by decide+kernel)
  (hplain:(backTo pos (starEach args env)).any (·.1)=false:=by kernel_rfl) (hd:(x==("__debug__":Str))=false:=by kernel_rfl):
  Ok c n L R (eval (.Call (.Name x p) args [] pos) env) ρ S Q:=
 NR (Qw he hl hg hv hx (fun _=>.bi id) ⟨.builtin id,rfl,Jb id,h⟩ hd) hplain
theorem Ap{x:Str}{id:String}{p pos:Pos}{args:List Expr}{Q:AV→AJ→AD→Prop}(hg:Nb c.K x)(he:Am env L ns)(hl:ns.lookup x=some .globalImplicit)
  (h:Ok c n L RL (spliced (backTo pos (starEach args env))) ρ S (cI c n (.type id) Q))
  (hv:bootBuiltins x=some (.type id):=by kernel_rfl) (hx:x≠"__name__":=by decide+kernel)
  (hplain:(backTo pos (starEach args env)).any (·.1)=false:=by kernel_rfl) (hd:(x==("__debug__":Str))=false:=by kernel_rfl):
  Ok c n L R (eval (.Call (.Name x p) args [] pos) env) ρ S Q:=
 NR (Qw he hl hg hv hx (fun _=>.ty id) ⟨.type id,rfl,QQ id,h⟩ hd) hplain
theorem Ob{x:Str}{id:String}{p pos:Pos}{args:List Expr}{Q:AV→AJ→AD→Prop}(hg:Nb c.K x)(he:Am env L ns)(hl:ns.lookup x=some .globalImplicit)
  (h:Ok c n L RL (spliced (backTo pos (starEach args env))) ρ S (kF c n L (.builtin id) Q))
  (hv:bootBuiltins x=some (.builtin id):=by kernel_rfl) (hx:x≠"__name__":=by decide+kernel)
  (hplain:(backTo pos (starEach args env)).any (·.1)=false:=by kernel_rfl) (hd:(x==("__debug__":Str))=false:=by kernel_rfl):
  Ok c n L R (eval (.Call (.Name x p) args [] pos) env) ρ S Q:=
 Rg (Qw he hl hg hv hx (fun _=>.bi id) ⟨.builtin id,rfl,Jb id,h⟩ hd) hplain
end
theorem ble{a b:Nat}(h:Nat.ble a b=true):a≤b:=Nat.le_of_ble_eq_true h
noncomputable def UZ(K:Frag)(a:Addr)(v:Value):Prop:=∃(od:Option Addr) (k:Nat) (sl:Array (Option Value)) (u:Unit),K.lookup a=some ⟨.type "tuple",od,.seq #[v] k,sl⟩
noncomputable def SS(K:Frag)(x y:Str):Prop:=∃t,nsIn K mainGlobals x=some (some (.str y t))
noncomputable def W3(K:Frag)(x:Str)(i:Int):Prop:=∃t,nsIn K mainGlobals x=some (some (.int i t))
noncomputable def TI(K:Frag)(a:Addr)(l:List Str):Prop:=∃(od:Option Addr) (k:Nat) (sl:Array (Option Value)) (vs:List Value) (u:Unit),K.lookup a=some ⟨.type "tuple",od,.seq vs.toArray k,sl⟩∧StrsAre vs l
structure Af(K:Frag):Prop where
 IA:Ay K 72 (FD 7)
 H8:Gl K "lines_down" 72
 Hz:keepIn K (.ref 72)=true
 KO:Ay K 79 (FD 8)
 KZ:Gl K "scope_of" 79
 KM:keepIn K (.ref 79)=true
 KQ:Ay K 86 (FD 10)
 EE:Gl K "replaced" 86
 EB:keepIn K (.ref 86)=true
 FM:Ay K 93 (FD 11)
 FC:Gl K "canonical_text" 93
 FN:keepIn K (.ref 93)=true
 Ed:Ay K 100 (FD 12)
 Cq:Gl K "canonical_value" 100
 Cu:keepIn K (.ref 100)=true
 Ca:Ay K 107 (FD 13)
 Cc:Gl K "canonical_instruction" 107
 Cb:keepIn K (.ref 107)=true
 H5:Ay K 114 (FD 14)
 H3:Gl K "told_names" 114
 IC:keepIn K (.ref 114)=true
 Eg:Ay K 119 (FD 15)
 EU:Gl K "told_attributes" 119
 EZ:keepIn K (.ref 119)=true
 FR:Ay K 126 (FD 16)
 C9:Gl K "canonical_leaf" 126
 C6:keepIn K (.ref 126)=true
 GY:Ay K 133 (FD 17)
 Gf:Gl K "scope_within" 133
 Gc:keepIn K (.ref 133)=true
 DX:Ay K 140 (FD 18)
 DY:Gl K "canonical_element" 140
 DZ:keepIn K (.ref 140)=true
 FG:Ay K 147 (FD 19)
 FI:Gl K "canonical_root" 147
 FH:keepIn K (.ref 147)=true
 Eh:Ay K 186 (FD 26)
 Ea:Gl K "is_small_letter" 186
 Ef:keepIn K (.ref 186)=true
 F4:Ay K 193 (FD 27)
 DQ:Gl K "is_name_start" 193
 DV:keepIn K (.ref 193)=true
 GW:Ay K 200 (FD 28)
 GX:Gl K "is_name_char" 200
 GZ:keepIn K (.ref 200)=true
 H1:Ay K 207 (FD 29)
 H4:Gl K "is_nmtoken" 207
 H6:keepIn K (.ref 207)=true
 LF:Ay K 214 (FD 30)
 LI:Gl K "is_name" 214
 LL:keepIn K (.ref 214)=true
 Il:Ay K 221 (FD 31)
 Gi:Gl K "is_ncname" 221
 Ga:keepIn K (.ref 221)=true
 Hx:Ay K 228 (FD 32)
 Fk:Gl K "split_name" 228
 Fm:keepIn K (.ref 228)=true
 Eb:Ay K 235 (FD 36)
 EV:Gl K "declared_prefix" 235
 Ee:keepIn K (.ref 235)=true
 Fx:Ay K 242 (FD 37)
 GB:Gl K "check_binding" 242
 Fz:keepIn K (.ref 242)=true
 Io:Ay K 335 (FD 41)
 It:Gl K "add_start" 335
 Iw:keepIn K (.ref 335)=true
 KN:Ay K 342 (FD 42)
 KR:Gl K "left_end" 342
 KW:keepIn K (.ref 342)=true
 Ik:Ay K 560 (FD 48)
 I4:Gl K "_law_pool" 560
 Iv:keepIn K (.ref 560)=true
 Im:Ay K 567 (FD 49)
 B6:Gl K "_law_take" 567
 B7:keepIn K (.ref 567)=true
 KS:Ay K 574 (FD 50)
 D6:Gl K "_law_one" 574
 EG:keepIn K (.ref 574)=true
 FF:Ay K 581 (FD 51)
 C7:Gl K "_law_unescaped" 581
 C8:keepIn K (.ref 581)=true
 KY:Ay K 588 (FD 52)
 KU:Gl K "_law_tag" 588
 KP:keepIn K (.ref 588)=true
 Gd:Ay K 595 (FD 53)
 GV:Gl K "_law_tag_end" 595
 Gb:keepIn K (.ref 595)=true
 G8:Ay K 602 (FD 54)
 Eo:Gl K "_law_events" 602
 Ep:keepIn K (.ref 602)=true
 H9:Ay K 607 (FD 55)
 Df:Gl K "_law_words" 607
 Dg:keepIn K (.ref 607)=true
 Iz:Ay K 612 (FD 56)
 I5:Gl K "_law_plan" 612
 Iy:keepIn K (.ref 612)=true
 FL:Ay K 617 (FD 57)
 Bd:Gl K "_law_events_of" 617
 Be:keepIn K (.ref 617)=true
 FQ:Ay K 624 (FD 58)
 BQ:Gl K "_law_canonical" 624
 BP:keepIn K (.ref 624)=true
 F3:Ay K 629 (FD 59)
 Fv:Gl K "_law_is_plain" 629
 F9:keepIn K (.ref 629)=true
 To:Ay K 636 (FD 60)
 Tn:Gl K "law" 636
 cE:keepIn K (.ref 636)=true
 Iq:Ay K 155 (FD 20) (.ref 148)
 I2:UZ K 148 (.bool true)
 I1:Gl K "canonical" 155
 Ir:keepIn K (.ref 155)=true
 Of:Ay K 328 (FD 40) (.ref 321)
 Od:UZ K 321 (.bool true)
 Og:Gl K "build" 328
 Oe:keepIn K (.ref 328)=true
 Ka:Gl K "Bindings" 316
 KV:keepIn K (.ref 316)=true
 I0:LQ K 316 256
 Da:Ay K 256 (MD 38 0)
 FJ:Ay K 263 (MD 38 1)
 FO:BF K 316 "enter" 263
 FS:Ay K 270 (MD 38 2)
 FE:BF K 316 "leave" 270
 EX:Ay K 291 (MD 38 5)
 Bu:BF K 316 "uri_of" 291
 Bt:Ay K 306 (MD 38 7)
 Bv:BF K 316 "check_attributes" 306
 CI:Ay K 299 (MD 38 6) (.ref 292)
 CH:UZ K 292 (.bool false)
 Ba:BF K 316 "resolved" 299
 BK:C5 K 316 "scopes"
 EY:FA K 316 "scopes"
 DR:C5 K 316 "told"
 F6:FA K 316 "told"
 RO:Gl K "Tree" 549
 RQ:keepIn K (.ref 549)=true
 Oh:LQ K 549 378
 Fu:Ay K 378 (MD 46 0)
 Ge:Ay K 385 (MD 46 1)
 B8:BF K 549 "new_row" 385
 KX:Ay K 392 (MD 46 2)
 BN:BF K 549 "row" 392
 F5:Ay K 399 (MD 46 3)
 Fy:BF K 549 "new_root" 399
 FB:Ay K 406 (MD 46 4)
 Bf:BF K 549 "add_child" 406
 EF:Ay K 413 (MD 46 5)
 EA:BF K 549 "add_element" 413
 F1:Ay K 420 (MD 46 6)
 F8:BF K 549 "add_text" 420
 ED:Ay K 427 (MD 46 7)
 EC:BF K 549 "add_comment" 427
 Cp:Ay K 434 (MD 46 8)
 Cs:BF K 549 "add_instruction" 434
 D5:Ay K 441 (MD 46 9)
 CS:BF K 549 "element_row" 441
 DK:Ay K 448 (MD 46 10)
 DL:BF K 549 "set_attribute" 448
 DI:Ay K 455 (MD 46 11)
 Bz:BF K 549 "add_namespace" 455
 I3:Ay K 469 (MD 46 13)
 CZ:BF K 549 "kind" 469
 Ix:Ay K 476 (MD 46 14)
 Bi:BF K 549 "name" 476
 KK:Ay K 483 (MD 46 15)
 KT:BF K 549 "uri" 483
 IB:Ay K 490 (MD 46 16)
 H7:BF K 549 "local" 490
 Hy:Ay K 497 (MD 46 17)
 Bm:BF K 549 "value" 497
 G7:Ay K 504 (MD 46 18)
 Er:BF K 549 "parent" 504
 F7:Ay K 511 (MD 46 19)
 DS:BF K 549 "children" 511
 Ei:Ay K 518 (MD 46 20)
 EW:BF K 549 "attributes" 518
 Ek:Ay K 525 (MD 46 21)
 Cr:BF K 549 "namespaces" 525
 Bh:C5 K 549 "rows"
 Ip:FA K 549 "rows"
 LH:Gl K "NodeRow" 360
 LG:keepIn K (.ref 360)=true
 KL:LQ K 360 357
 D8:Ay K 357 (MD 45 0)
 Ct:C5 K 360 "kind"
 Gg:FA K 360 "kind"
 D7:C5 K 360 "name"
 Gh:FA K 360 "name"
 En:C5 K 360 "uri"
 G6:FA K 360 "uri"
 DU:C5 K 360 "local"
 Fw:FA K 360 "local"
 GA:C5 K 360 "value"
 F0:FA K 360 "value"
 FK:C5 K 360 "parent"
 FP:FA K 360 "parent"
 CT:C5 K 360 "children"
 D9:FA K 360 "children"
 BY:C5 K 360 "attributes"
 DM:FA K 360 "attributes"
 BX:C5 K 360 "namespaces"
 DJ:FA K 360 "namespaces"
 Ej:Nb K "len"
 Tp:Nb K "max"
 Tq:Nb K "chr"
 RS:Nb K "ord"
 H0:Nb K "sorted"
 Ec:Nb K "int"
 Fl:Nb K "range"
 L2:Nb K "list"
 L3:Nb K "dict"
 Gx:Nb K "tuple"
 DT:SS K "XML_URI_order" "http://www.w3.org/XML/1998/namespace"
 CU:SS K "XML_URI_bindings" "http://www.w3.org/XML/1998/namespace"
 Iu:SS K "XMLNS_URI" "http://www.w3.org/2000/xmlns/"
 D4:W3 K "FIRST_BEYOND" 128
 LJ:Gl K "PARENTS" 343
 LK:TI K 343 ["root","element"]
theorem UQ{c:Cx}{n:Nat}{L:BU}{ρ:AJ}{S:AD}{env:Env}{ns:Cm}{x:Str}{a:Addr}{l:List Str}{pos:Pos}{Q:AV→AJ→AD→Prop}(hg:Gl c.K x a)(ht:TI c.K a l)(he:Am env L ns)(hl:ns.lookup x=some .globalImplicit)(h:Q (.tup (l.map .str)) ρ S)
  (hd:(x==("__debug__":Str))=false:=by kernel_rfl):Ok c n L R (eval (.Name x pos) env) ρ S Q:=
 Ld he hl hg (fun B hB=>by
  obtain⟨od,k,sl,vs,_,e1,e2⟩:=ht
  exact .tup (hB _ _ e1) rfl rfl (RL.of_strsAre e2)) h hd
theorem KH{c:Cx}{n:Nat}{L:BU}{ρ:AJ}{S:AD}{env:Env}{ns:Cm}{x y:Str}{pos:Pos}{Q:AV→AJ→AD→Prop}(hg:SS c.K x y)(he:Am env L ns)(hl:ns.lookup x=some .globalImplicit)(h:Q (.str y) ρ S)
  (hd:(x==("__debug__":Str))=false:=by kernel_rfl):Ok c n L R (eval (.Name x pos) env) ρ S Q:=by
 obtain⟨t,e⟩:=hg;exact Ld he hl e (fun B hB=>.str _ _) h hd
theorem Qy{c:Cx}{n:Nat}{L:BU}{ρ:AJ}{S:AD}{env:Env}{ns:Cm}{x:Str}{i:Int}{pos:Pos}{Q:AV→AJ→AD→Prop}(hg:W3 c.K x i)(he:Am env L ns)(hl:ns.lookup x=some .globalImplicit)(h:Q (.int i) ρ S)
  (hd:(x==("__debug__":Str))=false:=by kernel_rfl):Ok c n L R (eval (.Name x pos) env) ρ S Q:=by
 obtain⟨t,e⟩:=hg;exact Ld he hl e (fun B hB=>.int _ _) h hd
section
variable{c:Cx}{n:Nat}{L:BU}{ρ:AJ}{env:Env}{S:AD}{ns:Cm}{rest:List Expr}{pos:Pos}{x:Str}{k:Nat}{p:Pos}{av:AV}{Q:List AV→AJ→AD→Prop}
theorem Ac(h:Ok c n L RL (spliced (backTo pos (starEach rest env))) ρ S (kC Q (.str x))):Ok c n L RL (spliced (backTo pos (starEach (.Constant (.str x) k p::rest) env))) ρ S Q:=AK (AT h)
theorem G2{i:Int}(h:Ok c n L RL (spliced (backTo pos (starEach rest env))) ρ S (kC Q (.int i))):Ok c n L RL (spliced (backTo pos (starEach (.Constant (.int i) k p::rest) env))) ρ S Q:=AK (AS h)
theorem US(h:Ok c n L RL (spliced (backTo pos (starEach rest env))) ρ S (kC Q .none)):Ok c n L RL (spliced (backTo pos (starEach (.Constant .none k p::rest) env))) ρ S Q:=AK (Dl h)
theorem Ah{es:List Expr}(h:Ok c n L RL (spliced (backTo p (starEach es env))) ρ S (Xb (kL c n L env pos rest Q))):Ok c n L RL (spliced (backTo pos (starEach (.Tuple es k p::rest) env))) ρ S Q:=AK (Ch h)
theorem A0(he:Am env L ns)(hl:ns.lookup x=some .local)(hv:AG ρ x=some av)(h:Ok c n L RL (spliced (backTo pos (starEach rest env))) ρ S (kC Q av))(hd:(x==("__debug__":Str))=false:=by decide):Ok c n L RL (spliced (backTo pos (starEach (.Name x p::rest) env))) ρ S Q:=AK (AB he hl hv h hd)
theorem Cg(he:Am env L ns)(hl:ns.lookup x=some .cell)(hv:AG ρ x=some av)(h:Ok c n L RL (spliced (backTo pos (starEach rest env))) ρ S (kC Q av))(hd:(x==("__debug__":Str))=false:=by decide):Ok c n L RL (spliced (backTo pos (starEach (.Name x p::rest) env))) ρ S Q:=AK (Dq he hl hv h hd)
theorem Br{v sl:Expr}(h:Ok c n L R (eval v env) ρ S (kO c n L env sl (subscriptTail v sl) (kL c n L env pos rest Q))):Ok c n L RL (spliced (backTo pos (starEach (.Subscript v sl p::rest) env))) ρ S Q:=AK (DW h)
theorem Dx{l r:Expr}{op:Operator}(h:Ok c n L R (eval l env) ρ S (kO c n L env r (binaryOp op) (kL c n L env pos rest Q))):Ok c n L RL (spliced (backTo pos (starEach (.BinOp l op r p::rest) env))) ρ S Q:=AK (Ab h)
end
section
variable{c:Cx}{n:Nat}{L:BU}{ρ:AJ}{env:Env}{S:AD}{ns:Cm}{pos p p2:Pos}{x y:Str}{k:Nat}{av:AV}{rest b1 b2:List Stmt}{l r e:Expr}{op:CmpOp}{i:Int}{Q:AF→AJ→AD→Prop}
theorem Ad(h:Q .nx ρ S):Ok c n L RF (execs [] env) ρ S (Sq c n L env [] Q):=AQ (AQ h)
theorem n_cons{st:Stmt}(h:Ok c n L RF (exec st env) ρ S (Sq c n L env rest Q)):Ok c n L RF (execs [] env) ρ S (Sq c n L env (st::rest) Q):=AQ (AH h)
theorem Ae(h:Ok c n L R (eval e env) ρ S (XQ (Sq c n L env rest Q))):Ok c n L RF (execs (.Return (some e) pos::rest) env) ρ S Q:=AH (QW h)
theorem Aa(he:Am env L ns)(hl:ns.lookup x=some .local)(h:Ok c n L R (eval e env) ρ S (T8 x (Sq c n L env rest Q)))
  (hs:swapsWith e (some (.Name x p)) pos.line env=pure false:=by rfl):Ok c n L RF (execs (.Assign [.Name x p] e pos::rest) env) ρ S Q:=AH (LB he hl h hs)
theorem HC(h:Ok c n L Kb (isTrue e env (eval e env)) ρ S (cM c n L env b1 b2 (Sq c n L env rest Q))):Ok c n L RF (execs (.If e b1 b2 pos::rest) env) ρ S Q:=AH (Xk h)
theorem BC(h:Ok c n L R (eval l env) ρ S (eP c n L env r (compareOp op) (cM c n L env b1 b2 (Sq c n L env rest Q))))(hm:behindInMarks op r=false:=by with_unfolding_all rfl):
  Ok c n L RF (execs (.If (.Compare l [op] [r] p) b1 b2 pos::rest) env) ρ S Q:=AH (Xk (Ck h hm))
theorem BG(he:Am env L ns)(hl:ns.lookup x=some .local)(hv:AG ρ x=some av)(h:Cn c n (compareOp op) R av (.str y) S (kB (cM c n L env b1 b2 (Sq c n L env rest Q)) ρ))(hd:(x==("__debug__":Str))=false:=by decide):
  Ok c n L RF (execs (.If (.Compare (.Name x p2) [op] [.Constant (.str y) k p] pos) b1 b2 pos::rest) env) ρ S Q:=BC (AB he hl hv (AT h) hd) (by cases op<;>with_unfolding_all rfl)
end
section
variable{c:Cx}{n:Nat}{L:BU}{ρ:AJ}{env:Env}{S:AD}{ns:Cm}{pos p p2:Pos}{x y:Str}{k:Nat}{av:AV}{r:Expr}{op:CmpOp}{i:Int}
theorem N0{whole:Sem Value}{Q:Bool→AJ→AD→Prop}(he:Am env L ns)(hl:ns.lookup x=some .local)(hv:AG ρ x=some av)(h:Ok c n L R (eval r env) ρ S (eL c n (compareOp op) av Q))(hd:(x==("__debug__":Str))=false:=by decide)(hm:behindInMarks op r=false:=by with_unfolding_all rfl):
  Ok c n L Kb (isTrue (.Compare (.Name x p) [op] [r] pos) env whole) ρ S Q:=Ck (AB he hl hv h hd) hm
variable{Q:AV→AJ→AD→Prop}
theorem JD{bo:Operator}(he:Am env L ns)(hl:ns.lookup x=some .local)(hv:AG ρ x=some av)(h:Ok c n L R (eval r env) ρ S (kP c n (binaryOp bo) av Q))(hd:(x==("__debug__":Str))=false:=by decide):
  Ok c n L R (eval (.BinOp (.Name x p) bo r pos) env) ρ S Q:=Ab (AB he hl hv h hd)
theorem JC(he:Am env L ns)(hl:ns.lookup x=some .local)(hv:AG ρ x=some av)(h:Ok c n L R (eval r env) ρ S (kP c n (subscriptTail (.Name x p) r) av Q))(hd:(x==("__debug__":Str))=false:=by decide):
  Ok c n L R (eval (.Subscript (.Name x p) r pos) env) ρ S Q:=DW (AB he hl hv h hd)
theorem Hk{l u st:Option Expr}(he:Am env L ns)(hl:ns.lookup x=some .local)(hv:AG ρ x=some av)(h:Ok c n L R (evalPart l env) ρ S (Wv c n L env u st (kP c n (subscriptTail (.Name x p) (.Slice l u st p2)) av Q)))(hd:(x==("__debug__":Str))=false:=by decide):
  Ok c n L R (eval (.Subscript (.Name x p) (.Slice l u st p2) pos) env) ρ S Q:=DW (AB he hl hv (Bs h) hd)
theorem Cf{name:Str}{C f a d:Addr}{l:List (Str×AV)}{args:List Expr}(hm:BF c.K C name f)(he:Am env L ns)(hl:ns.lookup x=some .local)(hv:AG ρ x=some (.ref a))(h1:S a=some (.inst C d))(h2:S d=some (.ns l))(h3:AG l name=none)
  (h:Ok c n L RL (spliced (backTo pos (starEach args env))) ρ S (Ue c n (.ref f) (.ref a) Q)) (hp:(backTo pos (starEach args env)).any (·.1)=false:=by kernel_rfl) (hd:(x==("__debug__":Str))=false:=by decide)
  (h5:∀pl:Sem Bool,pl=(do return (←importBound (.Name x p) env).getD true)→eval (.Call (.Attribute (.Name x p) name p2) args [] pos) env=(do
   let ov←eval (.Name x p) env
   standAt p2.atName
   let (f,first)←holding [ov] (getMethod ov name pl)
   callWith pos f first (backTo pos (starEach args env)) (backToKw pos (keywordEach [] env))):=by intro _ e;subst e;rfl):
  Ok c n L R (eval (.Call (.Attribute (.Name x p) name p2) args [] pos) env) ρ S Q:=IS hm (AB he hl hv ⟨a,d,l,rfl,h1,h2,h3,h⟩ hd) h5 hp
theorem Bc{sl v:Expr}{l:List AV}{k:Nat}{x:AV}{Q:AV→AD→Prop}(h0:seqIndex? i l.length=some k)(hx:l[k]?=some x)(hlo:-(2^63)≤i)(hhi:i<2^63)(h:Q x S)(ops:Value→Value→List Value)(hs:∀o i,subscripted sl false o i=operate (ops o i) (getItem o i)):
  Cn c n (subscriptTail v sl) R (.tup l) (.int i) S Q:=CJ (T:="tuple") rfl slot_tuple_getitem.lookup (Qu h0 hx hlo hhi h) ops hs
theorem CG{sl v:Expr}{a:Addr}{l:List AV}{x:AV}{Q:AV→AD→Prop}(ha:S a=some (.list l)∨S a=some (.wlist l))(h0:0≤i)(hf:i<2^63)(hx:l[i.toNat]?=some x)(h:Q x S)(ops:Value→Value→List Value)(hs:∀o i,subscripted sl false o i=operate (ops o i) (getItem o i)):
  Cn c n (subscriptTail v sl) R (.ref a) (.int i) S Q:=CJ (T:="list") (ha.elim (fun h=>.inl ⟨_,h,rfl⟩) fun h=>.inr (.inl ⟨_,h,rfl⟩)) slot_list_getitem.lookup (Dr ha h0 hf hx h) ops hs
theorem CK{sl v:Expr}{x:Str}{a b:Option Int}{Q:AV→AD→Prop}(hn:x.length≤10000000)(h:Q (.str (Txt.slice x a b)) S)(ops:Value→Value→List Value)(hs:∀o i,subscripted sl false o i=operate (ops o i) (getItem o i)):
  Cn c n (subscriptTail v sl) R (.str x) (.sl a b none) S Q:=CE (PG hn h) ops hs
end
section
variable{c:Cx}{n:Nat}{S:AD}
theorem Oo{elts:List Expr}{k:Nat}{p:Pos}{x:Str}{xp:Pos}{l:Nat}{env:Env}:swapsWith (.Tuple elts k p) (some (.Name x xp)) l env=pure false:=by rfl
noncomputable abbrev Pr:=(Str×Tok)×(Str×Tok)
noncomputable def ey(p:Pr):AV:=.tup [.cs p.1.1 p.1.2,.cs p.2.1 p.2.2]
noncomputable def ZG(p:Pr):Prop:=p.1.2≠0∧p.2.2≠0∧p.1.2≠p.2.2∧(p.1.1==p.2.1)=false
noncomputable def Es(t:Str):List (Str×Str)→Str
 |[]=>t
 |p::l=>Es (Txt.replace t p.1 p.2) l
noncomputable def CN(t:Str):List (Str×Str)→Prop
 |[]=>True
 |p::l=>t.length+(t.length+1)*p.2.length≤16777216∧CN (Txt.replace t p.1 p.2) l
noncomputable def Vh(p:Pr):Str×Str:=(p.1.1,p.2.1)
inductive cw(S:AD)(text:Str)(ps:List Pr)(l:List Pr)(ρ:AJ)(S':AD):Prop
 |mk (t) (h0:AG ρ "text"=some (.str t)) (h1:(∀p∈l,ZG p)) (h2:Es t (l.map Vh)=Es text (ps.map Vh)) (h3:CN t (l.map Vh)) (h4:S'=S)
theorem Fc{text:Str}{ps:List Pr}{Q:AV→AD→Prop}(F:Af c.K)(hok:∀p∈ps,ZG p)(hps:CN text (ps.map Vh))(h:Q (.str (Es text (ps.map Vh))) S):AM c (n+1) (.ref 86) [.str text,.tup (ps.map ey)] S Q:=by
 refine(AP F.KQ (names:=["text","pairs"]) (by kernel_rfl) (fun _ _ _ _ _ _ _ _ s g=>.of_eq (by kernel_rfl)) (by decide+kernel) rfl (by kernel_rfl) ?_).call;intro L env hc he;refine AH (CF ?_);refine AB he (by kernel_rfl) (by rfl) ?_;refine⟨_,_,.tup _,?_⟩;refine A7 (cw S text ps) (fun _ _ _ _=>trivial) ?_ ?_ _ _ _ ⟨text,by rfl,hok,rfl,hps,rfl⟩
 ·rintro p l ρ _ ⟨t,h1,ho,h2,⟨h4,h5⟩,rfl⟩;obtain⟨a1,a2,a3,a4⟩:=ho p (.head _);refine Cy (by rfl) (Ag he (by kernel_rfl) (Ag he (by kernel_rfl) (BR ?_)));refine Aa he (by kernel_rfl) ?_;refine AY Jy ?_;refine AB he (by kernel_rfl) h1 ⟨rfl,?_⟩;refine An he (by kernel_rfl) (by rfl) ?_;refine Ky a1 a2 a3 a4 h4 ?_;refine AQ ?_;exact⟨_,rfl,fun q hq=>ho q (.tail _ hq),h2,h5,rfl⟩
 ·rintro ρ _ ⟨t,h1,ho,h2,h3,rfl⟩;refine AQ ?_;refine AH (QW (AB he (by kernel_rfl) h1 ?_));show Q _ _;rw[←h2]at h;exact h
noncomputable def E2:List (Str×Str):=[("&","&amp;"),("<","&lt;"),(">","&gt;"),("\r","&#xD;")]
noncomputable def LS:List (Str×Str):=[("\r","&#xD;")]
noncomputable def CM:List (Str×Str):=[("&","&amp;"),("<","&lt;"),("\"","&quot;"),("\t","&#x9;"),("\n","&#xA;"),("\r","&#xD;")]
theorem IP{v:Str}{Q:AV→AD→Prop}(F:Af c.K)(hps:CN v E2)(h:Q (.str (Es v E2)) S):AM c (n+2) (.ref 93) [.str v] S Q:=by
 refine(AP F.FM (names:=["value"]) (by kernel_rfl) (fun _ _ _ _ _ _ _ _ s g=>.of_eq (by kernel_rfl)) (by decide+kernel) rfl (by kernel_rfl) ?_).call;intro L env hc he;refine AH (QW (AL F.EE F.EB he (by kernel_rfl) ?_));refine A0 he (by kernel_rfl) (by rfl) ?_;refine Ah ?_;refine Ah ?_;refine CC fun t1 u1 x1 y1 z1=>⟨ble rfl,?_⟩
 refine Ah ?_;refine CC fun t2 u2 x2 y2 z2=>⟨ble rfl,?_⟩
 refine Ah ?_;refine CC fun t3 u3 x3 y3 z3=>⟨ble rfl,?_⟩
 refine Ah ?_;refine CC fun t4 u4 x4 y4 z4=>⟨ble rfl,?_⟩
 refine AE ?_;refine⟨ble rfl,?_⟩;refine AE ?_;refine Fc (ps:=[((_,t1),(_,u1)),((_,t2),(_,u2)),((_,t3),(_,u3)),((_,t4),(_,u4))]) F ?_ ?_ ?_;rotate_left
 ·exact hps
 ·exact h
 intro p hp;simp only[List.mem_cons,List.not_mem_nil,or_false]at hp;rcases hp with rfl|rfl|rfl|rfl
 ·exact⟨x1,y1,z1,by kernel_rfl⟩
 ·exact⟨x2,y2,z2,by kernel_rfl⟩
 ·exact⟨x3,y3,z3,by kernel_rfl⟩
 ·exact⟨x4,y4,z4,by kernel_rfl⟩
theorem ES{v:Str}{Q:AV→AD→Prop}(F:Af c.K)(hps:CN v CM)(h:Q (.str (Es v CM)) S):AM c (n+2) (.ref 100) [.str v] S Q:=by
 refine(AP F.Ed (names:=["value"]) (by kernel_rfl) (fun _ _ _ _ _ _ _ _ s g=>.of_eq (by kernel_rfl)) (by decide+kernel) rfl (by kernel_rfl) ?_).call;intro L env hc he;refine AH ?_;generalize hE:Expr.Tuple _ _ _=E;have hs:∀x xp l env,swapsWith E (some (.Name x xp)) l env=pure false:=by intro _ _ _ _;subst hE;exact Oo
 refine LB he (by kernel_rfl) ?_ (hs _ _ _ _);subst hE;refine Ch ?_;refine Ah ?_;refine CC fun t1 u1 x1 y1 z1=>⟨ble rfl,?_⟩
 refine Ah ?_;refine CC fun t2 u2 x2 y2 z2=>⟨ble rfl,?_⟩
 refine Ah ?_;refine CC fun t3 u3 x3 y3 z3=>⟨ble rfl,?_⟩
 refine Ah ?_;refine CC fun t4 u4 x4 y4 z4=>⟨ble rfl,?_⟩
 refine Ah ?_;refine CC fun t5 u5 x5 y5 z5=>⟨ble rfl,?_⟩
 refine Ah ?_;refine CC fun t6 u6 x6 y6 z6=>⟨ble rfl,?_⟩
 refine AE ?_;refine⟨ble rfl,?_⟩;refine Ae ?_;refine AL F.EE F.EB he (by kernel_rfl) ?_;refine An he (by kernel_rfl) (by rfl) ?_;refine Fc (ps:=[((_,t1),(_,u1)),((_,t2),(_,u2)),((_,t3),(_,u3)),((_,t4),(_,u4)),((_,t5),(_,u5)),((_,t6),(_,u6))]) F ?_ ?_ ?_;rotate_left
 ·exact hps
 ·exact h
 intro p hp;simp only[List.mem_cons,List.not_mem_nil,or_false]at hp;rcases hp with rfl|rfl|rfl|rfl|rfl|rfl
 ·exact⟨x1,y1,z1,by kernel_rfl⟩
 ·exact⟨x2,y2,z2,by kernel_rfl⟩
 ·exact⟨x3,y3,z3,by kernel_rfl⟩
 ·exact⟨x4,y4,z4,by kernel_rfl⟩
 ·exact⟨x5,y5,z5,by kernel_rfl⟩
 ·exact⟨x6,y6,z6,by kernel_rfl⟩
end
structure Nd where
 kind:Str
 name:Str
 uri:Str
 loc:Str
 val:Str
 par:Option Nat
 kids:List Nat
 atts:List Nat
 nss:List Nat
structure BZ where
 a:Addr
 d:Addr
 ck:Addr
 ca:Addr
 cn:Addr
noncomputable def BZ.fp(r:BZ):List Addr:=[r.a,r.d,r.ck,r.ca,r.cn]
structure Bg where
 t:Addr
 dT:Addr
 rl:Addr
 rows:List BZ
noncomputable def Bg.fp(y:Bg):List Addr:=y.t::y.dT::y.rl::y.rows.flatMap BZ.fp
noncomputable def natV(n:Nat):AV:=.int n
noncomputable def EK:Option Nat→AV
 |none=>.none
 |some n=>natV n
theorem SJ(o:Option Nat):nb (EK o)=true:=by cases o<;>rfl
inductive Rj(S:AD)(r:BZ)(kd nm ur lo va:Str)(pa:Option Nat):Prop
 |mk (l:List (Str×AV)) (h0:S r.d=some (.ns l)) (h1:l.length≤20) (h2:AG l "kind"=some (.str kd)) (h3:AG l "name"=some (.str nm)) (h4:AG l "uri"=some (.str ur)) (h5:AG l "local"=some (.str lo)) (h6:AG l "value"=some (.str va)) (h7:AG l "parent"=some (EK pa)) (h8:AG l "children"=some (.ref r.ck)) (h9:AG l "attributes"=some (.ref r.ca)) (h10:AG l "namespaces"=some (.ref r.cn))
structure CW(S:AD)(r:BZ)(x:Nd):Prop where
 inst:S r.a=some (.inst 360 r.d)
 ns:Rj S r x.kind x.name x.uri x.loc x.val x.par
 kids:S r.ck=some (.list (x.kids.map natV))
 atts:S r.ca=some (.list (x.atts.map natV))
 nss:S r.cn=some (.list (x.nss.map natV))
theorem Rj.to{S S':AD}{r:BZ}{kd nm ur lo va:Str}{pa:Option Nat}(h:Rj S r kd nm ur lo va pa)(e:∀l,S r.d=some (.ns l)→S' r.d=some (.ns l)):Rj S' r kd nm ur lo va pa:=by
 obtain⟨l,h0,h1,h2,h3,h4,h5,h6,h7,h8,h9,h10⟩:=h;exact⟨l,e _ h0,h1,h2,h3,h4,h5,h6,h7,h8,h9,h10⟩
structure AW(S:AD)(y:Bg)(T:List Nd):Prop where
 inst:S y.t=some (.inst 549 y.dT)
 ns:S y.dT=some (.ns [("rows",.ref y.rl)])
 rows:S y.rl=some (.list (y.rows.map fun r=>.ref r.a))
 len:y.rows.length=T.length
 row:∀(i:Nat) r x,y.rows[i]?=some r→T[i]?=some x→CW S r x
 nd:y.fp.Nodup
theorem CW.same{S S':AD}{r:BZ}{x:Nd}(h:CW S r x)(e:∀a∈r.fp,S' a=S a):CW S' r x:=by
 obtain⟨h1,h2,h4,h5,h6⟩:=h;exact⟨(e _ (mi 0 rfl)).trans h1,(h2.to fun _ q=>(e _ (mi 1 rfl)).trans q),(e _ (mi 2 rfl)).trans h4,(e _ (mi 3 rfl)).trans h5,(e _ (mi 4 rfl)).trans h6⟩
theorem Bg.row_fp{y:Bg}{i:Nat}{r:BZ}(h:y.rows[i]?=some r){a:Addr}(ha:a∈r.fp):a∈y.fp:=
 .tail _ (.tail _ (.tail _ (List.mem_flatMap.mpr ⟨r,List.mem_of_getElem? h,ha⟩)))
theorem AW.same{S S':AD}{y:Bg}{T:List Nd}(h:AW S y T)(e:∀a∈y.fp,S' a=S a):AW S' y T:=
 ⟨(e _ (.head _)).trans h.inst,(e _ (.tail _ (.head _))).trans h.ns,(e _ (.tail _ (.tail _ (.head _)))).trans h.rows,h.len,fun i r x hr hx=>(h.row i r x hr hx).same fun a ha=>e a (Bg.row_fp hr ha),h.nd⟩
theorem AW.has{S:AD}{y:Bg}{T:List Nd}(h:AW S y T):∀a∈y.fp,S a≠none:=by
 intro a ha;rcases List.mem_cons.mp ha with rfl|ha
 ·exact rr h.inst (fun e=>nomatch e)
 rcases List.mem_cons.mp ha with rfl|ha
 ·exact rr h.ns (fun e=>nomatch e)
 rcases List.mem_cons.mp ha with rfl|ha
 ·exact rr h.rows (fun e=>nomatch e)
 obtain⟨r,hr,ha⟩:=List.mem_flatMap.mp ha;obtain⟨i,hi,e⟩:=List.mem_iff_getElem.mp hr;have hx:i<T.length:=by exact rl h.len hi
 have ro:=h.row i r T[i] (by exact rl e (List.getElem?_eq_getElem hi)) (List.getElem?_eq_getElem hx);obtain⟨l,hl,_⟩:=ro.ns;simp only[BZ.fp,List.mem_cons,List.not_mem_nil,or_false]at ha;rcases ha with rfl|rfl|rfl|rfl|rfl
 ·exact rr ro.inst (fun e=>nomatch e)
 ·exact rr hl (fun e=>nomatch e)
 ·exact rr ro.kids (fun e=>nomatch e)
 ·exact rr ro.atts (fun e=>nomatch e)
 ·exact rr ro.nss (fun e=>nomatch e)
section
variable{c:Cx}{n:Nat}{S:AD}{y:Bg}{T:List Nd}{Q:AV→AD→Prop}
theorem CP(h:AW S y T){i:Nat}{x:Nd}(hx:T[i]?=some x):∃r,y.rows[i]?=some r∧CW S r x:=by
 have hi:i<y.rows.length:=by exact rr h.len ((List.getElem?_eq_some_iff.mp hx).1)
 exact⟨_,List.getElem?_eq_getElem hi,h.row i _ x (List.getElem?_eq_getElem hi) hx⟩
theorem GQ(F:Af c.K)(h:AW S y T)(hT:T.length≤1000){i:Nat}{r:BZ}(hr:y.rows[i]?=some r)(q:Q (.ref r.a) S):AM c (n+1) (.ref 392) [.ref y.t,natV i] S Q:=by
 have hi:i<T.length:=by exact rl h.len ((List.getElem?_eq_some_iff.mp hr).1)
 refine(AP F.KX (names:=["self","node"]) (by kernel_rfl) (fun _ _ _ _ _ _ _ _ s g=>.of_eq (by kernel_rfl)) (by decide+kernel) rfl (by kernel_rfl) ?_).call;intro L env hc he;refine HC ?_;refine Ku ?_;refine Q9 ?_;refine AS ?_;refine AB he (by kernel_rfl) (by rfl) ?_;refine UH ⟨_,rfl,fun hb=>?_,fun hb=>?_⟩
 ·exact absurd hb (by simp)
 refine BT (id:="len") F.Ej he (by kernel_rfl) ?_;refine AK ?_;refine A1 F.Bh ?_;refine AB he (by kernel_rfl) (by rfl) ?_;refine⟨_,_,_,_,rfl,h.inst,h.ns,by rfl,rfl,?_⟩;refine AE ?_;refine DA (.inl h.rows) (by simp[h.len];exact L7 hT) ?_;refine HL ⟨_,rfl,?_⟩;refine⟨fun hb=>?_,fun hb=>?_⟩
 ·exact absurd hb (by simp[h.len];exact bZ hi)
 refine AQ ?_;refine Ae ?_;refine DW ?_;refine A1 F.Bh ?_;refine AB he (by kernel_rfl) (by rfl) ?_;refine⟨_,_,_,_,rfl,h.inst,h.ns,by rfl,rfl,?_⟩;refine AB he (by kernel_rfl) (by rfl) ?_;refine CJ (T:="list") (.inl ⟨_,h.rows,rfl⟩) slot_list_getitem.lookup ?_ _ (fun _ _=>rfl);refine Dr (.inl h.rows) (by simp) (by lia) ?_ q;simp[hr]
theorem Jx(F:Af c.K)(h:AW S y T)(hT:T.length≤1000){i:Nat}{x:Nd}(hx:T[i]?=some x)(q:Q (.str x.kind) S):AM c (n+2) (.ref 469) [.ref y.t,natV i] S Q:=by
 obtain⟨r,hr,ro⟩:=CP h hx;obtain⟨l,hl,hlen,k1,k2,k3,k4,k5,k6,k7,k8,k9⟩:=ro.ns;refine(AP F.I3 (names:=["self","node"]) (by kernel_rfl) (fun _ _ _ _ _ _ _ _ s g=>.of_eq (by kernel_rfl)) (by decide+kernel) rfl (by kernel_rfl) ?_).call;intro L env hc he;refine Ae ?_;refine A1 F.Ct ?_;refine Cf F.BN he (by kernel_rfl) (by rfl) h.inst h.ns (by rfl) ?_;refine An he (by kernel_rfl) (by rfl) ?_;refine GQ F h hT hr ?_;exact⟨_,_,_,_,rfl,ro.inst,hl,k1,rfl,q⟩
theorem HN(F:Af c.K)(h:AW S y T)(hT:T.length≤1000){i:Nat}{x:Nd}(hx:T[i]?=some x)(q:Q (.str x.name) S):AM c (n+2) (.ref 476) [.ref y.t,natV i] S Q:=by
 obtain⟨r,hr,ro⟩:=CP h hx;obtain⟨l,hl,hlen,k1,k2,k3,k4,k5,k6,k7,k8,k9⟩:=ro.ns;refine(AP F.Ix (names:=["self","node"]) (by kernel_rfl) (fun _ _ _ _ _ _ _ _ s g=>.of_eq (by kernel_rfl)) (by decide+kernel) rfl (by kernel_rfl) ?_).call;intro L env hc he;refine Ae ?_;refine A1 F.D7 ?_;refine Cf F.BN he (by kernel_rfl) (by rfl) h.inst h.ns (by rfl) ?_;refine An he (by kernel_rfl) (by rfl) ?_;refine GQ F h hT hr ?_;exact⟨_,_,_,_,rfl,ro.inst,hl,k2,rfl,q⟩
theorem U5(F:Af c.K)(h:AW S y T)(hT:T.length≤1000){i:Nat}{x:Nd}(hx:T[i]?=some x)(q:Q (.str x.uri) S):AM c (n+2) (.ref 483) [.ref y.t,natV i] S Q:=by
 obtain⟨r,hr,ro⟩:=CP h hx;obtain⟨l,hl,hlen,k1,k2,k3,k4,k5,k6,k7,k8,k9⟩:=ro.ns;refine(AP F.KK (names:=["self","node"]) (by kernel_rfl) (fun _ _ _ _ _ _ _ _ s g=>.of_eq (by kernel_rfl)) (by decide+kernel) rfl (by kernel_rfl) ?_).call;intro L env hc he;refine Ae ?_;refine A1 F.En ?_;refine Cf F.BN he (by kernel_rfl) (by rfl) h.inst h.ns (by rfl) ?_;refine An he (by kernel_rfl) (by rfl) ?_;refine GQ F h hT hr ?_;exact⟨_,_,_,_,rfl,ro.inst,hl,k3,rfl,q⟩
theorem Rz(F:Af c.K)(h:AW S y T)(hT:T.length≤1000){i:Nat}{x:Nd}(hx:T[i]?=some x)(q:Q (.str x.loc) S):AM c (n+2) (.ref 490) [.ref y.t,natV i] S Q:=by
 obtain⟨r,hr,ro⟩:=CP h hx;obtain⟨l,hl,hlen,k1,k2,k3,k4,k5,k6,k7,k8,k9⟩:=ro.ns;refine(AP F.IB (names:=["self","node"]) (by kernel_rfl) (fun _ _ _ _ _ _ _ _ s g=>.of_eq (by kernel_rfl)) (by decide+kernel) rfl (by kernel_rfl) ?_).call;intro L env hc he;refine Ae ?_;refine A1 F.DU ?_;refine Cf F.BN he (by kernel_rfl) (by rfl) h.inst h.ns (by rfl) ?_;refine An he (by kernel_rfl) (by rfl) ?_;refine GQ F h hT hr ?_;exact⟨_,_,_,_,rfl,ro.inst,hl,k4,rfl,q⟩
theorem Gn(F:Af c.K)(h:AW S y T)(hT:T.length≤1000){i:Nat}{x:Nd}(hx:T[i]?=some x)(q:Q (.str x.val) S):AM c (n+2) (.ref 497) [.ref y.t,natV i] S Q:=by
 obtain⟨r,hr,ro⟩:=CP h hx;obtain⟨l,hl,hlen,k1,k2,k3,k4,k5,k6,k7,k8,k9⟩:=ro.ns;refine(AP F.Hy (names:=["self","node"]) (by kernel_rfl) (fun _ _ _ _ _ _ _ _ s g=>.of_eq (by kernel_rfl)) (by decide+kernel) rfl (by kernel_rfl) ?_).call;intro L env hc he;refine Ae ?_;refine A1 F.GA ?_;refine Cf F.BN he (by kernel_rfl) (by rfl) h.inst h.ns (by rfl) ?_;refine An he (by kernel_rfl) (by rfl) ?_;refine GQ F h hT hr ?_;exact⟨_,_,_,_,rfl,ro.inst,hl,k5,rfl,q⟩
theorem M5(F:Af c.K)(h:AW S y T)(hT:T.length≤1000){i:Nat}{x:Nd}(hx:T[i]?=some x)(q:Q (EK x.par) S):AM c (n+2) (.ref 504) [.ref y.t,natV i] S Q:=by
 obtain⟨r,hr,ro⟩:=CP h hx;obtain⟨l,hl,hlen,k1,k2,k3,k4,k5,k6,k7,k8,k9⟩:=ro.ns;refine(AP F.G7 (names:=["self","node"]) (by kernel_rfl) (fun _ _ _ _ _ _ _ _ s g=>.of_eq (by kernel_rfl)) (by decide+kernel) rfl (by kernel_rfl) ?_).call;intro L env hc he;refine Ae ?_;refine A1 F.FK ?_;refine Cf F.BN he (by kernel_rfl) (by rfl) h.inst h.ns (by rfl) ?_;refine An he (by kernel_rfl) (by rfl) ?_;refine GQ F h hT hr ?_;exact⟨_,_,_,_,rfl,ro.inst,hl,k6,(SJ _),q⟩
theorem KF(F:Af c.K)(h:AW S y T)(hT:T.length≤1000){i:Nat}{x:Nd}(hx:T[i]?=some x)(hn:x.kids.length≤1000)(q:∀d,S d=none→Q (.ref d) (put S d (.list (x.kids.map natV)))):AM c (n+2) (.ref 511) [.ref y.t,natV i] S Q:=by
 obtain⟨r,hr,ro⟩:=CP h hx;obtain⟨l,hl,hlen,k1,k2,k3,k4,k5,k6,k7,k8,k9⟩:=ro.ns;refine(AP F.F7 (names:=["self","node"]) (by kernel_rfl) (fun _ _ _ _ _ _ _ _ s g=>.of_eq (by kernel_rfl)) (by decide+kernel) rfl (by kernel_rfl) ?_).call;intro L env hc he;refine Ae ?_;refine Ap (id:="list") F.L2 he (by kernel_rfl) ?_;refine AK ?_;refine A1 F.CT ?_;refine Cf F.BN he (by kernel_rfl) (by rfl) h.inst h.ns (by rfl) ?_;refine An he (by kernel_rfl) (by rfl) ?_;refine GQ F h hT hr ?_;refine⟨_,_,_,_,rfl,ro.inst,hl,k7,rfl,?_⟩;refine AE ?_;exact Ju ro.kids (lm (Mk hn)) q
theorem LV(F:Af c.K)(h:AW S y T)(hT:T.length≤1000){i:Nat}{x:Nd}(hx:T[i]?=some x)(hn:x.atts.length≤1000)(q:∀d,S d=none→Q (.ref d) (put S d (.list (x.atts.map natV)))):AM c (n+2) (.ref 518) [.ref y.t,natV i] S Q:=by
 obtain⟨r,hr,ro⟩:=CP h hx;obtain⟨l,hl,hlen,k1,k2,k3,k4,k5,k6,k7,k8,k9⟩:=ro.ns;refine(AP F.Ei (names:=["self","node"]) (by kernel_rfl) (fun _ _ _ _ _ _ _ _ s g=>.of_eq (by kernel_rfl)) (by decide+kernel) rfl (by kernel_rfl) ?_).call;intro L env hc he;refine Ae ?_;refine Ap (id:="list") F.L2 he (by kernel_rfl) ?_;refine AK ?_;refine A1 F.BY ?_;refine Cf F.BN he (by kernel_rfl) (by rfl) h.inst h.ns (by rfl) ?_;refine An he (by kernel_rfl) (by rfl) ?_;refine GQ F h hT hr ?_;refine⟨_,_,_,_,rfl,ro.inst,hl,k8,rfl,?_⟩;refine AE ?_;exact Ju ro.atts (lm (Mk hn)) q
theorem Hg(F:Af c.K)(h:AW S y T)(hT:T.length≤1000){i:Nat}{x:Nd}(hx:T[i]?=some x)(hn:x.nss.length≤1000)(q:∀d,S d=none→Q (.ref d) (put S d (.list (x.nss.map natV)))):AM c (n+2) (.ref 525) [.ref y.t,natV i] S Q:=by
 obtain⟨r,hr,ro⟩:=CP h hx;obtain⟨l,hl,hlen,k1,k2,k3,k4,k5,k6,k7,k8,k9⟩:=ro.ns;refine(AP F.Ek (names:=["self","node"]) (by kernel_rfl) (fun _ _ _ _ _ _ _ _ s g=>.of_eq (by kernel_rfl)) (by decide+kernel) rfl (by kernel_rfl) ?_).call;intro L env hc he;refine Ae ?_;refine Ap (id:="list") F.L2 he (by kernel_rfl) ?_;refine AK ?_;refine A1 F.BX ?_;refine Cf F.BN he (by kernel_rfl) (by rfl) h.inst h.ns (by rfl) ?_;refine An he (by kernel_rfl) (by rfl) ?_;refine GQ F h hT hr ?_;refine⟨_,_,_,_,rfl,ro.inst,hl,k9,rfl,?_⟩;refine AE ?_;exact Ju ro.nss (lm (Mk hn)) q
end
theorem p6{S:AD}{d b:Addr}{o1 o2 o3 o4 o5 o6:AO}(h:b≠d):put (put (put (put (put (put S d o1) d o2) d o3) d o4) d o5) d o6 b=S b:=
 (AA _ _ h).trans ((AA _ _ h).trans ((AA _ _ h).trans ((AA _ _ h).trans ((AA _ _ h).trans (AA _ _ h)))))
theorem n6{S:AD}{d b:Addr}{o1 o2 o3 o4 o5 o6:AO}(h:put (put (put (put (put (put S d o1) d o2) d o3) d o4) d o5) d o6 b=none):S b=none:=HH (HH (HH (HH (HH (HH h)))))
theorem nd3{a b c:Addr}(ab:a≠b)(ac:a≠c)(bc:b≠c):[a,b,c].Nodup:=by simp[ab,ac,bc]
section
variable{c:Cx}{n:Nat}{S:AD}{y:Bg}{T:List Nd}{Q:AV→AD→Prop}
noncomputable def Bw(kind name uri loc val:Str)(par:Option Nat):Nd:=⟨kind,name,uri,loc,val,par,[],[],[]⟩
theorem Js(F:Af c.K){a d:Addr}{kind name uri loc val:Str}{par:Option Nat}(h1:S a=some (.inst 360 d))(h2:S d=some (.ns []))(had:a≠d)
  (q:∀S' ck ca cn,CW S' ⟨a,d,ck,ca,cn⟩ (Bw kind name uri loc val par)→S ck=none→S ca=none→S cn=none→[ck,ca,cn].Nodup→(∀b,b≠d→b≠ck→b≠ca→b≠cn→S' b=S b)→Q .none S'):
  Fp c (n+1) (.ref 357) [.ref a,.str kind,.str name,.str uri,.str loc,.str val,EK par] S Q:=by
 refine AP F.D8 (names:=["self","kind","name","uri","local","value","parent"]) (by kernel_rfl) (fun _ _ _ _ _ _ _ _ s g=>.of_eq (by kernel_rfl)) (by decide+kernel) rfl (by kernel_rfl) ?_;intro L env hc he;refine AH ?_;refine BL ?_;refine AB he (by kernel_rfl) (by rfl) ?_;refine AB he (by kernel_rfl) (by rfl) ?_;refine BV F.Gg h1 h2 (ble rfl) ?_;refine AH ?_;refine BL ?_;refine AB he (by kernel_rfl) (by rfl) ?_;refine AB he (by kernel_rfl) (by rfl) ?_;refine BV F.Gh ((AA _ _ had).trans h1) (AC ..) (ble rfl) ?_;refine AH ?_;refine BL ?_;refine AB he (by kernel_rfl) (by rfl) ?_;refine AB he (by kernel_rfl) (by rfl) ?_;refine BV F.G6 ((AA _ _ had).trans ((AA _ _ had).trans h1)) (AC ..) (ble rfl) ?_;refine AH ?_;refine BL ?_;refine AB he (by kernel_rfl) (by rfl) ?_;refine AB he (by kernel_rfl) (by rfl) ?_;refine BV F.Fw ((AA _ _ had).trans ((AA _ _ had).trans ((AA _ _ had).trans h1))) (AC ..) (ble rfl) ?_;refine AH ?_;refine BL ?_;refine AB he (by kernel_rfl) (by rfl) ?_;refine AB he (by kernel_rfl) (by rfl) ?_;refine BV F.F0 ((AA _ _ had).trans ((AA _ _ had).trans ((AA _ _ had).trans ((AA _ _ had).trans h1)))) (AC ..) (ble rfl) ?_;refine AH ?_;refine BL ?_;refine AB he (by kernel_rfl) (by rfl) ?_;refine AB he (by kernel_rfl) (by rfl) ?_;refine BV F.FP ((AA _ _ had).trans ((AA _ _ had).trans ((AA _ _ had).trans ((AA _ _ had).trans ((AA _ _ had).trans h1))))) (AC ..) (ble rfl) ?_;refine AH ?_;refine BL ?_;refine Aw ?_;refine AE ⟨ble rfl,fun ck hck=>?_⟩;have dk:ck≠d:=Kf hck;have hck':S ck=none:=n6 hck;have ak:a≠ck:=As h1 hck';refine AB he (by kernel_rfl) (by rfl) ?_;refine BV F.D9 ((AA _ _ ak).trans ((p6 had).trans h1)) ((AA _ _ dk.symm).trans (AC ..)) (ble rfl) ?_;refine AH ?_;refine BL ?_;refine Aw ?_;refine AE ⟨ble rfl,fun ca hca=>?_⟩;have da:ca≠d:=Kf hca;have ka:ca≠ck:=Kf (HH hca);have hca':S ca=none:=n6 (HH (HH hca));have aa:a≠ca:=As h1 hca';refine AB he (by kernel_rfl) (by rfl) ?_;refine BV F.DM ((AA _ _ aa).trans ((AA _ _ had).trans ((AA _ _ ak).trans ((p6 had).trans h1)))) ((AA _ _ da.symm).trans (AC ..)) (ble rfl) ?_;refine AH ?_;refine BL ?_;refine Aw ?_;refine AE ⟨ble rfl,fun cn hcn=>?_⟩;have dn:cn≠d:=Kf hcn;have aan:cn≠ca:=Kf (HH hcn);have kn:cn≠ck:=Kf (HH (HH (HH hcn)));have hcn':S cn=none:=n6 (HH (HH (HH (HH hcn))));have an:a≠cn:=As h1 hcn';refine AB he (by kernel_rfl) (by rfl) ?_;refine BV F.DJ ((AA _ _ an).trans ((AA _ _ had).trans ((AA _ _ aa).trans ((AA _ _ had).trans ((AA _ _ ak).trans ((p6 had).trans h1)))))) ((AA _ _ dn.symm).trans (AC ..)) (ble rfl) ?_;refine AQ ?_;refine q _ ck ca cn ⟨?_,⟨_,AC ..,ble rfl,by rfl,by rfl,by rfl,by rfl,by rfl,by rfl,by rfl,by rfl,by rfl⟩,?_,?_,?_⟩ hck' hca' hcn' ?_ ?_
 ·exact(AA _ _ had).trans ((AA _ _ an).trans ((AA _ _ had).trans ((AA _ _ aa).trans ((AA _ _ had).trans ((AA _ _ ak).trans ((p6 had).trans h1))))))
 ·exact(AA _ _ dk).trans ((AA _ _ kn.symm).trans ((AA _ _ dk).trans ((AA _ _ ka.symm).trans ((AA _ _ dk).trans (AC ..)))))
 ·exact(AA _ _ da).trans ((AA _ _ aan.symm).trans ((AA _ _ da).trans (AC ..)))
 ·exact(AA _ _ dn).trans (AC ..)
 ·exact nd3 ka.symm kn.symm aan.symm
 ·exact fun b b1 b2 b3 b4=>(AA _ _ b1).trans ((AA _ _ b4).trans ((AA _ _ b1).trans ((AA _ _ b3).trans ((AA _ _ b1).trans ((AA _ _ b2).trans (p6 b1))))))
noncomputable def LY(y y':Bg):Prop:=y'.t=y.t∧∀(i:Nat) r,y.rows[i]?=some r→y'.rows[i]?=some r
structure FY(S S':AD)(f f':List Addr):Prop where
 keep:∀a o,a∉f→S a=some o→S' a=some o
 new:∀a∈f',a∈f∨S a=none
theorem FY.trans{S1 S2 S3:AD}{f1 f2 f3:List Addr}(h:FY S1 S2 f1 f2)(h':FY S2 S3 f2 f3):FY S1 S3 f1 f3:=
 ⟨fun a o ha e=>h'.keep a o (fun q=>(h.new a q).elim ha (fun z=>by rw[z]at e;cases e)) (h.keep a o ha e),fun a ha=>(h'.new a ha).elim (fun q=>h.new a q) (fun q=>by
  by_cases z:a∈f1
  ·exact .inl z
  ·cases e:S1 a with
   |none=>exact .inr rfl
   |some o=>rw[h.keep a o z e]at q;cases q)⟩
theorem AW.push{S':AD}{r:BZ}{x:Nd}(h:AW S y T)(hr:CW S' r x)(hn:∀a∈r.fp,S a=none)(nd:r.fp.Nodup)(hl:S' y.rl=some (.list ((y.rows++[r]).map fun r=>.ref r.a)))
  (he:∀b∈y.fp,b≠y.rl→S' b=S b):AW S' {y with rows:=y.rows++[r]} (T++[x]):=by
 have ndy:=h.nd;have n1:y.t≠y.rl:=nq ndy 0 2 rfl rfl (by decide);have n2:y.dT≠y.rl:=nq ndy 1 2 rfl rfl (by decide)
 have n3:∀a∈y.rows.flatMap BZ.fp,a≠y.rl:=fun a ha q=>by
  have:=ndy;unfold Bg.fp at this;rw[List.nodup_cons,List.nodup_cons,List.nodup_cons]at this;exact this.2.2.1 (q▸ha)
 refine⟨(he _ (.head _) n1).trans h.inst,(he _ (.tail _ (.head _)) n2).trans h.ns,hl,by simp[h.len],fun i r' x' hr' hx'=>?_,?_⟩
 ·by_cases hi:i<y.rows.length
  ·rw[List.getElem?_append_left hi]at hr';rw[List.getElem?_append_left (by exact rl h.len hi)]at hx';exact(h.row i r' x' hr' hx').same fun a ha=>he a (Bg.row_fp hr' ha) (n3 a (List.mem_flatMap.mpr ⟨r',List.mem_of_getElem? hr',ha⟩))
  ·have hi':i=y.rows.length:=by
    have:=(List.getElem?_eq_some_iff.mp hr').1;rw[List.length_append,List.length_singleton]at this;exact PV hi this
   subst hi';rw[List.getElem?_append_right (Nat.le_refl _)]at hr';rw[List.getElem?_append_right (by exact rr h.len (Nat.le_refl _))]at hx';simp at hr';simp[h.len]at hx';exact rl hr' (rl hx' hr)
 ·show(y.t::y.dT::y.rl::(y.rows++[r]).flatMap BZ.fp).Nodup;refine rr List.flatMap_append ?_;have e:y.t::y.dT::y.rl::(y.rows.flatMap BZ.fp++[r].flatMap BZ.fp)=y.fp++r.fp:=by rw[List.flatMap_singleton];rfl
  refine rr e ?_;rw[List.nodup_append];exact⟨ndy,nd,fun a ha b hb q=>h.has a ha (hn a (q▸hb))⟩
theorem Gv(F:Af c.K)(h:AW S y T)(hT:T.length≤1000){kind name uri loc val:Str}{par:Option Nat}
  (q:∀S' y',AW S' y' (T++[Bw kind name uri loc val par])→LY y y'→FY S S' y.fp y'.fp→Q (natV T.length) S'):
  AM c (n+3) (.ref 385) [.ref y.t,.str kind,.str name,.str uri,.str loc,.str val,EK par] S Q:=by
 refine(AP F.Ge (names:=["self","kind","name","uri","local","value","parent"]) (by kernel_rfl) (fun _ _ _ _ _ _ _ _ s g=>.of_eq (by kernel_rfl)) (by decide+kernel) rfl (by kernel_rfl) ?_).call;intro L env hc he;refine AH ?_;refine Av he ?_;refine AY Al ?_;refine A1 F.Bh ?_;refine AB he (by kernel_rfl) (by rfl) ?_;refine⟨_,_,_,_,rfl,h.inst,h.ns,by rfl,rfl,?_⟩;refine⟨.inl ⟨_,h.rows,rfl⟩,?_⟩;refine AK ?_;refine AL F.LH F.LG he (by kernel_rfl) ?_;refine An he (by kernel_rfl) (by rfl) ?_;refine NX F.KL fun d a hd ha hda=>?_;refine Js F (AC ..) ((AA _ _ hda).trans (AC ..)) hda.symm fun S1 ck ca cn ro f1 f2 f3 f4 f5=>⟨rfl,?_⟩
 have hf:∀b,S b≠none→b≠d∧b≠a∧b≠ck∧b≠ca∧b≠cn∧S1 b=S b:=fun b hb=>by
  have e1:b≠d:=fun e=>hb (e▸hd);have e2:b≠a:=fun e=>hb (e▸ha);have g:∀z,(put (put S d (.ns [])) a (.inst 360 d)) z=none→b≠z:=fun z hz e=>hb (e▸HH (HH hz));refine⟨e1,e2,g _ f1,g _ f2,g _ f3,?_⟩;exact(f5 b e1 (g _ f1) (g _ f2) (g _ f3)).trans ((AA _ _ e2).trans (AA _ _ e1))
 have g0:∀z,(put (put S d (.ns [])) a (.inst 360 d)) z=none→S z=none∧z≠d∧z≠a:=fun z hz=>⟨HH (HH hz),Kf (HH hz),Kf hz⟩
 have hrl:=hf y.rl (h.has _ (mi 2 rfl));refine AE ?_;refine Ar (hrl.2.2.2.2.2.trans h.rows) (by simp[h.len];exact Mk hT) ?_;refine Ae ?_;refine Ab ?_;refine BT (id:="len") F.Ej he (by kernel_rfl) ?_;refine AK ?_;refine A1 F.Bh ?_;refine AB he (by kernel_rfl) (by rfl) ?_;have ht:=hf y.t (h.has _ (mi 0 rfl));have hd2:=hf y.dT (h.has _ (mi 1 rfl));have n1:y.t≠y.rl:=nq h.nd 0 2 rfl rfl (by decide);have n2:y.dT≠y.rl:=nq h.nd 1 2 rfl rfl (by decide);refine⟨_,_,_,_,rfl,(AA _ _ n1).trans (ht.2.2.2.2.2.trans h.inst),(AA _ _ n2).trans (hd2.2.2.2.2.2.trans h.ns),by rfl,rfl,?_⟩;refine AE ?_;refine DA (.inl (AC ..)) (by simp[h.len];exact de hT) ?_;refine AS ?_;refine Ff ?_;have hfp:∀z∈[a,d,ck,ca,cn],S z=none:=List.forall_mem_cons.mpr ⟨ha,List.forall_mem_cons.mpr ⟨hd,List.forall_mem_cons.mpr ⟨(g0 _ f1).1,List.forall_mem_cons.mpr ⟨(g0 _ f2).1,List.forall_mem_singleton.mpr (g0 _ f3).1⟩⟩⟩⟩;have nofp:∀z∈[a,d,ck,ca,cn],z≠y.rl:=fun z hz e=>h.has y.rl (mi 2 rfl) (e▸hfp z hz);have e1:(((y.rows.map fun r=>AV.ref r.a)++[AV.ref a]).length:Int)-1=T.length:=by simp[h.len]
 refine rr e1 ?_;refine q _ {y with rows:=y.rows++[⟨a,d,ck,ca,cn⟩]} (h.push (ro.same fun z hz=>AA _ _ (nofp z hz)) hfp ?_ ?_ ?_) ⟨rfl,fun i r hr=>by exact rl hr (List.getElem?_append_left (List.getElem?_eq_some_iff.mp hr).1)⟩ ⟨?_,?_⟩
 ·exact eZ (eZ f4 d (nc (g0 _ f1).2.1.symm (nc (g0 _ f2).2.1.symm (nc (g0 _ f3).2.1.symm List.not_mem_nil)))) a (nc hda.symm (nc (g0 _ f1).2.2.symm (nc (g0 _ f2).2.2.symm (nc (g0 _ f3).2.2.symm List.not_mem_nil))))
 ·refine rr (AC ..) (rr List.map_append ?_);rfl
 ·intro b hb hbr;refine rr (AA _ _ hbr) ?_;exact(hf b (h.has b hb)).2.2.2.2.2
 ·intro b o hb e;have hb':=hf b (by exact rr e (fun z=>nomatch z));refine rr (AA _ _ (fun z:b=y.rl=>hb (z▸mi 2 rfl))) ?_;exact hb'.2.2.2.2.2.trans e
 ·intro z hz;have e:y.t::y.dT::y.rl::(y.rows++[(⟨a,d,ck,ca,cn⟩:BZ)]).flatMap BZ.fp=y.fp++[a,d,ck,ca,cn]:=by rw[List.flatMap_append,List.flatMap_singleton];rfl
  exact(List.mem_append.mp (e▸hz)).elim .inl fun hz=>.inr (hfp z hz)
end
section
variable{c:Cx}{n:Nat}{S:AD}{y:Bg}{T:List Nd}{Q:AV→AD→Prop}
theorem tf{p:Prop}(h:true=false):p:=Bool.noConfusion h
theorem ft{p:Prop}(h:false=true):p:=Bool.noConfusion h
theorem AW.ndRow(h:AW S y T){i:Nat}{r:BZ}(hr:y.rows[i]?=some r):r.fp.Nodup:=by
 have:=h.nd;unfold Bg.fp at this;rw[List.nodup_cons,List.nodup_cons,List.nodup_cons]at this;exact(List.pairwise_flatMap.mp this.2.2.2).1 r (List.mem_of_getElem? hr)
theorem AW.apart(h:AW S y T){i j:Nat}{r r':BZ}(hr:y.rows[i]?=some r)(hr':y.rows[j]?=some r')(hij:i≠j){a:Addr}(ha:a∈r.fp):a∉r'.fp:=by
 have:=h.nd;unfold Bg.fp at this;rw[List.nodup_cons,List.nodup_cons,List.nodup_cons]at this;have pw:=(List.pairwise_flatMap.mp this.2.2.2).2;rw[List.pairwise_iff_getElem]at pw;obtain⟨hi,ei⟩:=List.getElem?_eq_some_iff.mp hr;obtain⟨hj,ej⟩:=List.getElem?_eq_some_iff.mp hr';rcases Nat.lt_or_gt_of_ne hij with q|q
 ·have:=pw i j hi hj q;rw[ei,ej]at this;exact fun hb=>this a ha a hb rfl
 ·have:=pw j i hj hi q;rw[ei,ej]at this;exact fun hb=>this a hb a ha rfl
theorem AW.topRow(h:AW S y T){i:Nat}{r:BZ}(hr:y.rows[i]?=some r){a:Addr}(ha:a∈r.fp):a≠y.t∧a≠y.dT∧a≠y.rl:=by
 have:=h.nd;unfold Bg.fp at this;rw[List.nodup_cons,List.nodup_cons,List.nodup_cons]at this;have hm:a∈y.rows.flatMap BZ.fp:=List.mem_flatMap.mpr ⟨r,List.mem_of_getElem? hr,ha⟩;exact⟨fun q=>this.1 (.tail _ (.tail _ (q▸hm))),fun q=>this.2.1 (.tail _ (q▸hm)),fun q=>this.2.2.1 (q▸hm)⟩
theorem AW.put1(h:AW S y T){i:Nat}{r:BZ}(hr:y.rows[i]?=some r){b:Addr}{o:AO}{x':Nd}(hb:b∈r.fp)(ho:CW (put S b o) r x'):AW (put S b o) y (T.set i x'):=by
 obtain⟨b1,b2,b3⟩:=h.topRow hr hb;refine⟨(AA _ _ b1.symm).trans h.inst,(AA _ _ b2.symm).trans h.ns,(AA _ _ b3.symm).trans h.rows,by rw[List.length_set];exact h.len,fun j r' x hr' hx=>?_,h.nd⟩;by_cases hij:i=j
 ·subst hij;rw[hr]at hr';cases hr';have hi:i<T.length:=by rw[←h.len];exact(List.getElem?_eq_some_iff.mp hr).1
  rw[List.getElem?_set_self hi]at hx;cases hx;exact ho
 ·rw[List.getElem?_set_ne hij]at hx;exact(h.row j r' x hr' hx).same fun a ha=>AA _ _ (fun q=>h.apart hr hr' hij hb (q▸ha))
theorem CW.setKids{r:BZ}{x:Nd}{ks:List Nat}(h:CW S r x)(nd:r.fp.Nodup):CW (put S r.ck (.list (ks.map natV))) r {x with kids:=ks}:=by
 obtain⟨h1,h2,h4,h5,h6⟩:=h;exact⟨(AA _ _ (nq nd 0 2 rfl rfl (by decide))).trans h1,(h2.to fun _ q=>(AA _ _ (nq nd 1 2 rfl rfl (by decide))).trans q),AC ..,(AA _ _ (nq nd 3 2 rfl rfl (by decide))).trans h5,(AA _ _ (nq nd 4 2 rfl rfl (by decide))).trans h6⟩
theorem CW.setAtts{r:BZ}{x:Nd}{ks:List Nat}(h:CW S r x)(nd:r.fp.Nodup):CW (put S r.ca (.list (ks.map natV))) r {x with atts:=ks}:=by
 obtain⟨h1,h2,h4,h5,h6⟩:=h;exact⟨(AA _ _ (nq nd 0 3 rfl rfl (by decide))).trans h1,(h2.to fun _ q=>(AA _ _ (nq nd 1 3 rfl rfl (by decide))).trans q),(AA _ _ (nq nd 2 3 rfl rfl (by decide))).trans h4,AC ..,(AA _ _ (nq nd 4 3 rfl rfl (by decide))).trans h6⟩
theorem CW.setNss{r:BZ}{x:Nd}{ks:List Nat}(h:CW S r x)(nd:r.fp.Nodup):CW (put S r.cn (.list (ks.map natV))) r {x with nss:=ks}:=by
 obtain⟨h1,h2,h4,h5,h6⟩:=h;exact⟨(AA _ _ (nq nd 0 4 rfl rfl (by decide))).trans h1,(h2.to fun _ q=>(AA _ _ (nq nd 1 4 rfl rfl (by decide))).trans q),(AA _ _ (nq nd 2 4 rfl rfl (by decide))).trans h4,(AA _ _ (nq nd 3 4 rfl rfl (by decide))).trans h5,AC ..⟩
theorem HJ{α:Type}{l:List α}{i:Nat}{x:α}(h:l[i]?=some x)(f:α→α):l.set i (f x)=l.modify i f:=by
 refine List.ext_getElem? fun j=>?_;refine rr List.getElem?_set (rr (List.getElem?_modify ..) ?_);have hi:=(List.getElem?_eq_some_iff.mp h).1;by_cases q:i=j
 ·subst q;refine rr (if_pos rfl) (rr (if_pos hi) (rr h ?_));simp
 ·simp[q]
noncomputable def EJ(T:List Nd)(p:Nat)(x:Nd):List Nd:=(T++[x]).modify p fun z=>{z with kids:=z.kids++[T.length]}
theorem Np(F:Af c.K)(h:AW S y T)(hT:T.length≤1000)
  (q:∀S' y',AW S' y' (T++[Bw "root" "" "" "" "" none])→LY y y'→FY S S' y.fp y'.fp→Q (natV T.length) S'):
  AM c (n+4) (.ref 399) [.ref y.t] S Q:=by
 refine(AP F.F5 (names:=["self"]) (by kernel_rfl) (fun _ _ _ _ _ _ _ _ s g=>.of_eq (by kernel_rfl)) (by decide+kernel) rfl (by kernel_rfl) ?_).call;intro L env hc he;refine Ae ?_;refine Cf F.B8 he (by kernel_rfl) (by rfl) h.inst h.ns (by rfl) ?_;refine An he (by kernel_rfl) (by rfl) ?_;exact Gv (par:=none) F h hT q
theorem EQ(F:Af c.K)(h:AW S y T)(hT:T.length≤999){p:Nat}{x:Nd}(hx:T[p]?=some x)(hk:x.kind="root"∨x.kind="element")(hkn:x.kids.length≤1000){kind name uri loc val:Str}
  (q:∀S' y',AW S' y' (EJ T p (Bw kind name uri loc val (some p)))→LY y y'→FY S S' y.fp y'.fp→Q (natV T.length) S'):
  AM c (n+4) (.ref 406) [.ref y.t,natV p,.str kind,.str name,.str uri,.str loc,.str val] S Q:=by
 obtain⟨r,hr,ro⟩:=CP h hx;obtain⟨l,hl,hlen,k1,k2,k3,k4,k5,k6,k7,k8,k9⟩:=ro.ns;refine(AP F.FB (names:=["self","parent","kind","name","uri","local","value"]) (by kernel_rfl) (fun _ _ _ _ _ _ _ _ s g=>.of_eq (by kernel_rfl)) (by decide+kernel) rfl (by kernel_rfl) ?_).call;intro L env hc he;refine HC ?_;refine HV ?_;refine Fs ?_;refine N0 he (by kernel_rfl) (by rfl) ?_;refine Dl ?_;refine De ⟨_,rfl,?_⟩;refine⟨fun hb=>?_,fun hb=>tf hb⟩;refine Fs ?_;refine Ck ?_;refine A1 F.Ct ?_;refine Cf F.BN he (by kernel_rfl) (by rfl) h.inst h.ns (by rfl) ?_;refine An he (by kernel_rfl) (by rfl) ?_;refine GQ F h (by exact Kq hT) hr ?_;refine⟨_,_,_,_,rfl,ro.inst,hl,k1,rfl,?_⟩;refine UQ F.LJ F.LK he (by kernel_rfl) ?_;refine ND ⟨_,rfl,?_⟩
 have hin:(!(["root","element"]:List Str).any (·==x.kind))=false:=by
  rcases hk with e|e<;>refine rr e ?_<;>decide+kernel
 refine rr hin ?_;refine⟨fun hb=>ft hb,fun hb=>?_⟩;refine⟨fun hb=>ft hb,fun hb=>?_⟩;refine AQ ?_;refine Aa he (by kernel_rfl) ?_;refine Cf F.B8 he (by kernel_rfl) (by rfl) h.inst h.ns (by rfl) ?_;refine An he (by kernel_rfl) (by rfl) ?_;refine Gv (par:=some p) F h (by exact Kq hT) fun S1 y1 h1 ht1 f1=>?_;refine BC ?_;refine AB he (by kernel_rfl) (by rfl) ?_;refine Dl ?_;refine De ⟨_,rfl,?_⟩;refine⟨fun hb=>?_,fun hb=>tf hb⟩;have hp:p<T.length:=(List.getElem?_eq_some_iff.mp hx).1;have hx1:(T++[Bw kind name uri loc val (some p)])[p]?=some x:=by exact rr (List.getElem?_append_left hp) hx
 obtain⟨r1,hr1,ro1⟩:=CP h1 hx1;obtain⟨l1,hl1,hlen1,j1,j2,j3,j4,j5,j6,j7,j8,j9⟩:=ro1.ns;refine AH ?_;refine Av he ?_;refine AY Al ?_;refine A1 F.CT ?_;refine DW ?_;refine A1 F.Bh ?_;refine AB he (by kernel_rfl) (by rfl) ?_;refine⟨_,_,_,_,rfl,(by exact rl ht1.1 h1.inst),h1.ns,by rfl,rfl,?_⟩;refine AB he (by kernel_rfl) (by rfl) ?_;refine CG (.inl h1.rows) (by simp) (by lia) (by simp[hr1];rfl) ?_ _ (fun _ _=>rfl);refine⟨_,_,_,_,rfl,ro1.inst,hl1,j7,rfl,?_⟩;refine⟨.inl ⟨_,ro1.kids,rfl⟩,?_⟩;refine An he (by kernel_rfl) (by rfl) ?_;refine Ar ro1.kids (lm (Mk hkn)) ?_;refine AQ ?_;refine Ae ?_;refine AB he (by kernel_rfl) (by rfl) ?_;have e2:(x.kids.map natV++[natV T.length])=(x.kids++[T.length]).map natV:=by simp
 refine rr e2 ?_;have hh:=h1.put1 hr1 (b:=r1.ck) (mi 2 rfl) (ro1.setKids (ks:=x.kids++[T.length]) (h1.ndRow hr1))
 have e3:(T++[Bw kind name uri loc val (some p)]).set p {x with kids:=x.kids++[T.length]}=EJ T p (Bw kind name uri loc val (some p)):=by
  unfold EJ;exact HJ hx1 (fun z:Nd=>{z with kids:=z.kids++[T.length]})
 rw[e3]at hh
 exact q _ y1 hh ht1 ⟨fun a o ha e=>by
  have z:=f1.keep a o ha e;rw[AA _ _ (fun w=>?_)]
  ·exact z
  ·have:a∈y1.fp:=w▸Bg.row_fp hr1 (mi 2 rfl)
   exact(f1.new a this).elim ha (fun z=>by rw[z]at e;cases e),f1.new⟩
end
noncomputable def Kp(ns:List Str)(ρ ρ0:AJ):Prop:=∀k,ns.contains k=false→AG ρ k=AG ρ0 k
theorem Kp.refl(ns:List Str)(ρ:AJ):Kp ns ρ ρ:=fun _ _=>rfl
theorem Kp.cons{ns:List Str}{ρ ρ0:AJ}{x:Str}{v:AV}(h:Kp ns ρ ρ0)(hx:ns.contains x=true):Kp ns ((x,v)::ρ) ρ0:=fun k hk=>by
 exact rr (AN ..) (rr (if_neg (fun e=>by rw[e]at hx;rw[hx]at hk;cases hk)) (h k hk))
section
variable{c:Cx}{n:Nat}{S:AD}{y:Bg}{T:List Nd}{Q:AV→AD→Prop}
theorem Kj(F:Af c.K)(h:AW S y T)(hT:T.length≤999){p:Nat}{x:Nd}(hx:T[p]?=some x)(hk:x.kind="root"∨x.kind="element")(hkn:x.kids.length≤1000){name uri loc:Str}
  (q:∀S' y',AW S' y' (EJ T p (Bw "element" name uri loc "" (some p)))→LY y y'→FY S S' y.fp y'.fp→Q (natV T.length) S'):
  AM c (n+5) (.ref 413) [.ref y.t,natV p,.str name,.str uri,.str loc] S Q:=by
 refine(AP F.EF (names:=["self","parent","name","uri","local"]) (by kernel_rfl) (fun _ _ _ _ _ _ _ _ s g=>.of_eq (by kernel_rfl)) (by decide+kernel) rfl (by kernel_rfl) ?_).call;intro L env hc he;refine Ae ?_;refine Cf F.Bf he (by kernel_rfl) (by rfl) h.inst h.ns (by rfl) ?_;refine An he (by kernel_rfl) (by rfl) ?_;exact EQ F h hT hx hk hkn q
theorem NS(F:Af c.K)(h:AW S y T)(hT:T.length≤999){p:Nat}{x:Nd}(hx:T[p]?=some x)(hk:x.kind="root"∨x.kind="element")(hkn:x.kids.length≤1000){v:Str}
  (q:∀S' y',AW S' y' (EJ T p (Bw "text" "" "" "" v (some p)))→LY y y'→FY S S' y.fp y'.fp→Q (natV T.length) S'):
  AM c (n+5) (.ref 420) [.ref y.t,natV p,.str v] S Q:=by
 refine(AP F.F1 (names:=["self","parent","value"]) (by kernel_rfl) (fun _ _ _ _ _ _ _ _ s g=>.of_eq (by kernel_rfl)) (by decide+kernel) rfl (by kernel_rfl) ?_).call;intro L env hc he;refine Ae ?_;refine Cf F.Bf he (by kernel_rfl) (by rfl) h.inst h.ns (by rfl) ?_;refine An he (by kernel_rfl) (by rfl) ?_;exact EQ F h hT hx hk hkn q
theorem Ki(F:Af c.K)(h:AW S y T)(hT:T.length≤999){p:Nat}{x:Nd}(hx:T[p]?=some x)(hk:x.kind="root"∨x.kind="element")(hkn:x.kids.length≤1000){v:Str}
  (q:∀S' y',AW S' y' (EJ T p (Bw "comment" "" "" "" v (some p)))→LY y y'→FY S S' y.fp y'.fp→Q (natV T.length) S'):
  AM c (n+5) (.ref 427) [.ref y.t,natV p,.str v] S Q:=by
 refine(AP F.ED (names:=["self","parent","value"]) (by kernel_rfl) (fun _ _ _ _ _ _ _ _ s g=>.of_eq (by kernel_rfl)) (by decide+kernel) rfl (by kernel_rfl) ?_).call;intro L env hc he;refine Ae ?_;refine Cf F.Bf he (by kernel_rfl) (by rfl) h.inst h.ns (by rfl) ?_;refine An he (by kernel_rfl) (by rfl) ?_;exact EQ F h hT hx hk hkn q
theorem HQ(F:Af c.K)(h:AW S y T)(hT:T.length≤999){p:Nat}{x:Nd}(hx:T[p]?=some x)(hk:x.kind="root"∨x.kind="element")(hkn:x.kids.length≤1000){t v:Str}
  (q:∀S' y',AW S' y' (EJ T p (Bw "instruction" t "" t v (some p)))→LY y y'→FY S S' y.fp y'.fp→Q (natV T.length) S'):
  AM c (n+5) (.ref 434) [.ref y.t,natV p,.str t,.str v] S Q:=by
 refine(AP F.Cp (names:=["self","parent","target","data"]) (by kernel_rfl) (fun _ _ _ _ _ _ _ _ s g=>.of_eq (by kernel_rfl)) (by decide+kernel) rfl (by kernel_rfl) ?_).call;intro L env hc he;refine Ae ?_;refine Cf F.Bf he (by kernel_rfl) (by rfl) h.inst h.ns (by rfl) ?_;refine An he (by kernel_rfl) (by rfl) ?_;exact EQ F h hT hx hk hkn q
theorem G3(F:Af c.K)(h:AW S y T)(hT:T.length≤1000){i:Nat}{r:BZ}{x:Nd}(hr:y.rows[i]?=some r)(hx:T[i]?=some x)(hk:x.kind="element")(q:Q (.ref r.a) S):AM c (n+2) (.ref 441) [.ref y.t,natV i] S Q:=by
 have ro:=h.row i r x hr hx;obtain⟨l,hl,hlen,k1,k2,k3,k4,k5,k6,k7,k8,k9⟩:=ro.ns;refine(AP F.D5 (names:=["self","element"]) (by kernel_rfl) (fun _ _ _ _ _ _ _ _ s g=>.of_eq (by kernel_rfl)) (by decide+kernel) rfl (by kernel_rfl) ?_).call;intro L env hc he;refine Aa he (by kernel_rfl) ?_;refine Cf F.BN he (by kernel_rfl) (by rfl) h.inst h.ns (by rfl) ?_;refine An he (by kernel_rfl) (by rfl) ?_;refine GQ F h hT hr ?_;refine BC ?_;refine A1 F.Ct ?_;refine AB he (by kernel_rfl) (by rfl) ?_;refine⟨_,_,_,_,rfl,ro.inst,hl,k1,rfl,?_⟩;refine AT ?_;refine Bl ⟨_,rfl,?_⟩;refine rr hk ?_;refine⟨fun hb=>absurd hb (by decide+kernel),fun hb=>?_⟩;refine AQ ?_;refine Ae ?_;refine AB he (by kernel_rfl) (by rfl) ?_;exact q
theorem FY.put1{S':AD}{f f':List Addr}{b:Addr}{o:AO}(h:FY S S' f f')(hb:b∈f'):FY S (put S' b o) f f':=
 ⟨fun a o' ha e=>by
  have hw:a≠b:=fun w=>by subst w;exact(h.new a hb).elim ha (fun z=>by rw[z]at e;cases e)
  refine rr (AA _ _ hw) ?_
  exact h.keep a o' ha e,h.new⟩
noncomputable def Kw(T:List Nd)(p:Nat)(x:Nd):List Nd:=(T++[x]).modify p fun z=>{z with atts:=z.atts++[T.length]}
noncomputable def Ms(T:List Nd)(p:Nat)(x:Nd):List Nd:=(T++[x]).modify p fun z=>{z with nss:=z.nss++[T.length]}
inductive dp(S:AD)(x:Nd)(ρ0:AJ)(l:List Nat)(ρ:AJ)(S':AD):Prop
 |mk (h0:(∀k∈l,k∈x.atts)) (h1:Kp ["node","known"] ρ ρ0) (h2:S'=S)
theorem I8(F:Af c.K)(h:AW S y T)(hT:T.length≤999){p:Nat}{x:Nd}(hx:T[p]?=some x)(hk:x.kind="element")(hkn:x.atts.length≤1000){name uri loc val:Str}
  (hno:∀k∈x.atts,∃z,T[k]?=some z∧¬(z.uri=uri∧z.loc=loc))
  (q:∀S' y',AW S' y' (Kw T p (Bw "attribute" name uri loc val (some p)))→LY y y'→FY S S' y.fp y'.fp→Q (natV T.length) S'):
  AM c (n+4) (.ref 448) [.ref y.t,natV p,.str name,.str uri,.str loc,.str val] S Q:=by
 obtain⟨r,hr,ro⟩:=CP h hx;obtain⟨l,hl,hlen,k1,k2,k3,k4,k5,k6,k7,k8,k9⟩:=ro.ns;refine(AP F.DK (names:=["self","element","name","uri","local","value"]) (by kernel_rfl) (fun _ _ _ _ _ _ _ _ s g=>.of_eq (by kernel_rfl)) (by decide+kernel) rfl (by kernel_rfl) ?_).call;intro L env hc he;refine Aa he (by kernel_rfl) ?_;refine Cf F.CS he (by kernel_rfl) (by rfl) h.inst h.ns (by rfl) ?_;refine An he (by kernel_rfl) (by rfl) ?_;refine G3 F h (by exact Kq hT) hr hx hk ?_;refine AH ?_;refine CF ?_;refine A1 F.BY ?_;refine AB he (by kernel_rfl) (by rfl) ?_;refine⟨_,_,_,_,rfl,ro.inst,hl,k8,rfl,?_⟩;refine⟨_,_,.list (.inl ro.atts),?_⟩;refine A7 (dp S x _) (fun l ρ S' hP=>by obtain⟨_,_,h⟩:=hP;exact rr h (.inl ro.atts)) ?_ ?_ _ _ _ ⟨fun _ h=>h,Kp.refl _ _,rfl⟩
 ·rintro k l ρ _ ⟨hin,hkp,rfl⟩;obtain⟨z,hz,hne⟩:=hno k (hin k (.head _));obtain⟨rz,hrz,roz⟩:=CP h hz;obtain⟨lz,hlz,hlenz,z1,z2,z3,z4,z5,z6,z7,z8,z9⟩:=roz.ns;refine BA he (by kernel_rfl) ?_;have kp1:=hkp.cons (x:="node") (v:=natV k) (by decide+kernel);refine Aa he (by kernel_rfl) ?_;refine DW ?_;refine A1 F.Bh ?_;refine AB he (by kernel_rfl) ((kp1 "self" (by decide+kernel)).trans (by rfl)) ?_;refine⟨_,_,_,_,rfl,h.inst,h.ns,by rfl,rfl,?_⟩;refine AB he (by kernel_rfl) (by rfl) ?_;refine CJ (T:="list") (.inl ⟨_,h.rows,rfl⟩) slot_list_getitem.lookup ?_ _ (fun _ _=>rfl);have hkl:k<T.length:=(List.getElem?_eq_some_iff.mp hz).1;refine Dr (.inl h.rows) (by simp) (by lia) (by simp[hrz];rfl) ?_;have kp2:=kp1.cons (x:="known") (v:=.ref rz.a) (by decide+kernel);refine HC ?_;refine HV ?_;refine Fs ?_;refine Ck ?_;refine A1 F.En ?_;refine AB he (by kernel_rfl) (by rfl) ?_;refine⟨_,_,_,_,rfl,roz.inst,hlz,z3,rfl,?_⟩;refine AB he (by kernel_rfl) ((kp2 "uri" (by decide+kernel)).trans (by rfl)) ?_;refine AZ ⟨_,rfl,?_⟩;refine⟨fun hb1=>?_,fun hb1=>?_⟩
  ·refine Fs ?_;refine Ck ?_;refine A1 F.DU ?_;refine AB he (by kernel_rfl) (by rfl) ?_;refine⟨_,_,_,_,rfl,roz.inst,hlz,z4,rfl,?_⟩;refine AB he (by kernel_rfl) ((kp2 "local" (by decide+kernel)).trans (by rfl)) ?_;refine AZ ⟨_,rfl,?_⟩;refine⟨fun hb2=>absurd ⟨of_decide_eq_true hb1,of_decide_eq_true hb2⟩ hne,fun hb2=>?_⟩;refine⟨fun hb=>ft hb,fun hb=>?_⟩;refine Ad ?_;exact⟨fun j hj=>hin j (.tail _ hj),kp2,rfl⟩
  ·refine⟨fun hb=>ft hb,fun hb=>?_⟩;refine Ad ?_;exact⟨fun j hj=>hin j (.tail _ hj),kp2,rfl⟩
 ·rintro ρ _ ⟨-,hkp,rfl⟩;refine AQ ?_;refine Aa he (by kernel_rfl) ?_;refine Cf F.B8 he (by kernel_rfl) ((hkp "self" (by decide+kernel)).trans (by rfl)) h.inst h.ns (by rfl) ?_;refine An he (by kernel_rfl) (PN (by rfl) (Cv ((hkp "name" (by decide+kernel)).trans (by rfl)) (Cv ((hkp "uri" (by decide+kernel)).trans (by rfl)) (Cv ((hkp "local" (by decide+kernel)).trans (by rfl)) (Cv ((hkp "value" (by decide+kernel)).trans (by rfl)) (Cv ((hkp "element" (by decide+kernel)).trans (by rfl)) (by rfl))))))) ?_;refine Gv (par:=some p) F h (by exact Kq hT) fun S1 y1 h1 ht1 f1=>?_;have hp:p<T.length:=(List.getElem?_eq_some_iff.mp hx).1;have hx1:(T++[Bw "attribute" name uri loc val (some p)])[p]?=some x:=by exact rr (List.getElem?_append_left hp) hx
  have hr1:=ht1.2 p r hr;have ro1:=h1.row p r x hr1 hx1;obtain⟨l1,hl1,hlen1,j1,j2,j3,j4,j5,j6,j7,j8,j9⟩:=ro1.ns;refine AH ?_;refine Av he ?_;refine AY Al ?_;refine A1 F.BY ?_;refine AB he (by kernel_rfl) (((hkp.cons (ns:=["node","known"]) (x:="node") (v:=natV T.length) (by decide+kernel)) "row" (by decide+kernel)).trans (by rfl)) ?_;refine⟨_,_,_,_,rfl,ro1.inst,hl1,j8,rfl,?_⟩;refine⟨.inl ⟨_,ro1.atts,rfl⟩,?_⟩;refine An he (by kernel_rfl) (by rfl) ?_;refine Ar ro1.atts (lm (Mk hkn)) ?_;refine Ae ?_;refine AB he (by kernel_rfl) (by rfl) ?_;have e2:(x.atts.map natV++[natV T.length])=(x.atts++[T.length]).map natV:=by simp
  refine rr e2 ?_;have hh:=h1.put1 hr1 (b:=r.ca) (mi 3 rfl) (ro1.setAtts (ks:=x.atts++[T.length]) (h1.ndRow hr1))
  have e3:(T++[Bw "attribute" name uri loc val (some p)]).set p {x with atts:=x.atts++[T.length]}=Kw T p (Bw "attribute" name uri loc val (some p)):=by
   unfold Kw;exact HJ hx1 (fun z:Nd=>{z with atts:=z.atts++[T.length]})
  rw[e3]at hh;exact q _ y1 hh ht1 (f1.put1 (Bg.row_fp hr1 (mi 3 rfl)))
end
section
variable{c:Cx}{n:Nat}{S:AD}{y:Bg}{T:List Nd}{Q:AV→AD→Prop}
inductive db(S:AD)(x:Nd)(ρ0:AJ)(l:List Nat)(ρ:AJ)(S':AD):Prop
 |mk (h0:(∀k∈l,k∈x.nss)) (h1:Kp ["node"] ρ ρ0) (h2:S'=S)
theorem JA(F:Af c.K)(h:AW S y T)(hT:T.length≤999){p:Nat}{x:Nd}(hx:T[p]?=some x)(hk:x.kind="element")(hkn:x.nss.length≤1000){prefix' uri:Str}
  (hno:∀k∈x.nss,∃z,T[k]?=some z∧z.name≠prefix')
  (q:∀S' y',AW S' y' (Ms T p (Bw "namespace" prefix' "" prefix' uri (some p)))→LY y y'→FY S S' y.fp y'.fp→Q (natV T.length) S'):
  AM c (n+4) (.ref 455) [.ref y.t,natV p,.str prefix',.str uri] S Q:=by
 obtain⟨r,hr,ro⟩:=CP h hx;obtain⟨l,hl,hlen,k1,k2,k3,k4,k5,k6,k7,k8,k9⟩:=ro.ns;refine(AP F.DI (names:=["self","element","prefix","uri"]) (by kernel_rfl) (fun _ _ _ _ _ _ _ _ s g=>.of_eq (by kernel_rfl)) (by decide+kernel) rfl (by kernel_rfl) ?_).call;intro L env hc he;refine Aa he (by kernel_rfl) ?_;refine Cf F.CS he (by kernel_rfl) (by rfl) h.inst h.ns (by rfl) ?_;refine An he (by kernel_rfl) (by rfl) ?_;refine G3 F h (by exact Kq hT) hr hx hk ?_;refine AH ?_;refine CF ?_;refine A1 F.BX ?_;refine AB he (by kernel_rfl) (by rfl) ?_;refine⟨_,_,_,_,rfl,ro.inst,hl,k9,rfl,?_⟩;refine⟨_,_,.list (.inl ro.nss),?_⟩;refine A7 (db S x _) (fun l ρ S' hP=>by obtain⟨_,_,h⟩:=hP;exact rr h (.inl ro.nss)) ?_ ?_ _ _ _ ⟨fun _ h=>h,Kp.refl _ _,rfl⟩
 ·rintro k l ρ _ ⟨hin,hkp,rfl⟩;obtain⟨z,hz,hne⟩:=hno k (hin k (.head _));obtain⟨rz,hrz,roz⟩:=CP h hz;obtain⟨lz,hlz,hlenz,z1,z2,z3,z4,z5,z6,z7,z8,z9⟩:=roz.ns;refine BA he (by kernel_rfl) ?_;have kp1:=hkp.cons (x:="node") (v:=natV k) (by decide+kernel);refine BC ?_;refine A1 F.D7 ?_;refine DW ?_;refine A1 F.Bh ?_;refine AB he (by kernel_rfl) ((kp1 "self" (by decide+kernel)).trans (by rfl)) ?_;refine⟨_,_,_,_,rfl,h.inst,h.ns,by rfl,rfl,?_⟩;refine AB he (by kernel_rfl) (by rfl) ?_;refine CJ (T:="list") (.inl ⟨_,h.rows,rfl⟩) slot_list_getitem.lookup ?_ _ (fun _ _=>rfl);have hkl:k<T.length:=(List.getElem?_eq_some_iff.mp hz).1;refine Dr (.inl h.rows) (by simp) (by lia) (by simp[hrz];rfl) ?_;refine⟨_,_,_,_,rfl,roz.inst,hlz,z2,rfl,?_⟩;refine AB he (by kernel_rfl) ((kp1 "prefix" (by decide+kernel)).trans (by rfl)) ?_;refine AZ ⟨_,rfl,?_⟩;refine⟨fun hb1=>absurd (of_decide_eq_true hb1) hne,fun hb1=>?_⟩;refine Ad ?_;exact⟨fun j hj=>hin j (.tail _ hj),kp1,rfl⟩
 ·rintro ρ _ ⟨-,hkp,rfl⟩;refine AQ ?_;refine Aa he (by kernel_rfl) ?_;refine Cf F.B8 he (by kernel_rfl) ((hkp "self" (by decide+kernel)).trans (by rfl)) h.inst h.ns (by rfl) ?_;refine An he (by kernel_rfl) (PN (by rfl) (Cv ((hkp "prefix" (by decide+kernel)).trans (by rfl)) (PN (by rfl) (Cv ((hkp "prefix" (by decide+kernel)).trans (by rfl)) (Cv ((hkp "uri" (by decide+kernel)).trans (by rfl)) (Cv ((hkp "element" (by decide+kernel)).trans (by rfl)) (by rfl))))))) ?_;refine Gv (par:=some p) F h (by exact Kq hT) fun S1 y1 h1 ht1 f1=>?_;have hp:p<T.length:=(List.getElem?_eq_some_iff.mp hx).1;have hx1:(T++[Bw "namespace" prefix' "" prefix' uri (some p)])[p]?=some x:=by exact rr (List.getElem?_append_left hp) hx
  have hr1:=ht1.2 p r hr;have ro1:=h1.row p r x hr1 hx1;obtain⟨l1,hl1,hlen1,j1,j2,j3,j4,j5,j6,j7,j8,j9⟩:=ro1.ns;refine AH ?_;refine Av he ?_;refine AY Al ?_;refine A1 F.BX ?_;refine AB he (by kernel_rfl) (((hkp.cons (ns:=["node"]) (x:="node") (v:=natV T.length) (by decide+kernel)) "row" (by decide+kernel)).trans (by rfl)) ?_;refine⟨_,_,_,_,rfl,ro1.inst,hl1,j9,rfl,?_⟩;refine⟨.inl ⟨_,ro1.nss,rfl⟩,?_⟩;refine An he (by kernel_rfl) (by rfl) ?_;refine Ar ro1.nss (lm (Mk hkn)) ?_;refine Ae ?_;refine AB he (by kernel_rfl) (by rfl) ?_;have e2:(x.nss.map natV++[natV T.length])=(x.nss++[T.length]).map natV:=by simp
  refine rr e2 ?_;have hh:=h1.put1 hr1 (b:=r.cn) (mi 4 rfl) (ro1.setNss (ks:=x.nss++[T.length]) (h1.ndRow hr1))
  have e3:(T++[Bw "namespace" prefix' "" prefix' uri (some p)]).set p {x with nss:=x.nss++[T.length]}=Ms T p (Bw "namespace" prefix' "" prefix' uri (some p)):=by
   unfold Ms;exact HJ hx1 (fun z:Nd=>{z with nss:=z.nss++[T.length]})
  rw[e3]at hh;exact q _ y1 hh ht1 (f1.put1 (Bg.row_fp hr1 (mi 4 rfl)))
theorem M1(F:Af c.K){a d:Addr}(h1:S a=some (.inst 549 d))(h2:S d=some (.ns []))(had:a≠d)
  (q:∀rl,S rl=none→AW (put (put S rl (.list [])) d (.ns [("rows",.ref rl)])) ⟨a,d,rl,[]⟩ []→Q .none (put (put S rl (.list [])) d (.ns [("rows",.ref rl)]))):Fp c (n+1) (.ref 378) [.ref a] S Q:=by
 refine AP F.Fu (names:=["self"]) (by kernel_rfl) (fun _ _ _ _ _ _ _ _ s g=>.of_eq (by kernel_rfl)) (by decide+kernel) rfl (by kernel_rfl) ?_;intro L env hc he;refine AH ?_;refine BL ?_;refine Aw ?_;refine AE ⟨ble rfl,fun rl hrl=>?_⟩;have e1:d≠rl:=fun e=>by subst e;rw[h2]at hrl;cases hrl
 have e2:a≠rl:=fun e=>by subst e;rw[h1]at hrl;cases hrl
 refine AB he (by kernel_rfl) (by rfl) ?_;refine BV F.Ip ((AA _ _ e2).trans h1) ((AA _ _ e1).trans h2) (ble rfl) ?_;refine AQ ?_;refine q rl hrl ⟨?_,AC ..,?_,rfl,fun i r x hr=>by simp at hr,?_⟩
 ·exact rr (AA _ _ had) (rr (AA _ _ e2) h1)
 ·refine rr (AA _ _ e1.symm) (rr (AC ..) ?_);rfl
 ·simp[Bg.fp,had,e1,e2]
theorem Ur(F:Af c.K)(q:∀S' y,AW S' y []→FY S S' [] y.fp→Q (.ref y.t) S'):AM c (n+2) (.ref 549) [] S Q:=by
 refine NX F.Oh fun d a hd ha hda=>?_;refine M1 F (AC ..) ((AA _ _ hda).trans (AC ..)) hda.symm fun rl hrl h=>⟨rfl,?_⟩
 have g0:S rl=none∧rl≠d∧rl≠a:=by
  by_cases e2:rl=a
  ·subst e2;rw[AC]at hrl;cases hrl
  ·rw[AA _ _ e2]at hrl;by_cases e1:rl=d
   ·subst e1;rw[AC]at hrl;cases hrl
   ·rw[AA _ _ e1]at hrl;exact⟨hrl,e1,e2⟩
 refine q _ ⟨a,d,rl,[]⟩ h ⟨fun b o _ e=>?_,fun b hb=>.inr ?_⟩
 ·have b1:b≠d:=(by first|exact As e hd|exact(As hd e).symm)
  have b2:b≠a:=(by first|exact As e ha|exact(As ha e).symm)
  have b3:b≠rl:=(by first|exact As e g0.1|exact(As g0.1 e).symm)
  exact(AA _ _ b1).trans ((AA _ _ b3).trans ((AA _ _ b2).trans ((AA _ _ b1).trans e)))
 ·simp[Bg.fp]at hb;rcases hb with rfl|rfl|rfl
  ·exact ha
  ·exact hd
  ·exact g0.1
end
noncomputable abbrev ch(k:Nat):Str:=⟨#[k]⟩
noncomputable def IG(k:Nat):Bool:=decide (97≤k)&&decide (k≤122)
noncomputable def D1(k:Nat):Bool:=IG k||(decide (65≤k)&&decide (k≤90))||decide (k=95)||decide (k=58)
noncomputable def EP(k:Nat):Bool:=D1 k||(decide (48≤k)&&decide (k≤57))||decide (k=45)||decide (k=46)
theorem Q8(a b:Nat):decide ([a]<[b])=decide (a<b):=by simp[List.cons_lt_cons_iff]
theorem Qc{x:Str}{b k:Nat}(hx:x=ch b):(!decide ((ch k).cps.toList<x.cps.toList))=decide (b≤k):=by
 subst hx;show(!decide ([k]<[b]))=_;refine rr (Q8 ..) ?_;by_cases h:b≤k
 ·refine rr (decide_eq_true h) (rr (decide_eq_false (by exact Sz h)) ?_);rfl
 ·refine rr (decide_eq_false h) (rr (decide_eq_true (by exact Tf h)) ?_);rfl
theorem QO{x:Str}{b k:Nat}(hx:x=ch b):(!decide (x.cps.toList<(ch k).cps.toList))=decide (k≤b):=by
 subst hx;show(!decide ([b]<[k]))=_;refine rr (Q8 ..) ?_;by_cases h:k≤b
 ·refine rr (decide_eq_true h) (rr (decide_eq_false (by exact Sz h)) ?_);rfl
 ·refine rr (decide_eq_false h) (rr (decide_eq_true (by exact Tf h)) ?_);rfl
theorem OO{x:Str}{b k:Nat}(hx:x=ch b):decide (ch k=x)=decide (k=b):=by
 subst hx;by_cases h:k=b
 ·subst h;simp
 ·exact rr (decide_eq_false h) (rr (decide_eq_false (fun e=>h (by injection e with e;injection e with e;injection e))) rfl)
section
variable{c:Cx}{n:Nat}{S:AD}{Q:AV→AD→Prop}
theorem HX(F:Af c.K){k:Nat}(q:Q (.bool (IG k)) S):AM c (n+1) (.ref 186) [.str (ch k)] S Q:=by
 refine(AP F.Eh (names:=["sign"]) (by kernel_rfl) (fun _ _ _ _ _ _ _ _ s g=>.of_eq (by kernel_rfl)) (by decide+kernel) rfl (by kernel_rfl) ?_).call;intro L env hc he;refine Ae ?_;refine KI ?_;refine AT ?_;refine AB he (by kernel_rfl) (by rfl) ?_;refine IM ⟨_,rfl,?_⟩;refine rr (Qc (b:=97) (by decide+kernel)) ?_;refine⟨fun hb=>?_,fun hb=>?_⟩
 ·have:IG k=false:=by unfold IG;refine rr hb ?_;rfl
  rw[this]at q;exact q
 refine AT ?_;refine IM ?_;refine rr (QO (b:=122) (by decide+kernel)) ?_;have:IG k=decide (k≤122):=by unfold IG;refine rr hb ?_;rfl
 rw[this]at q;exact q
theorem Ft(F:Af c.K){k:Nat}(hk:k<128)(q:Q (.bool (D1 k)) S):AM c (n+2) (.ref 193) [.str (ch k)] S Q:=by
 refine(AP F.F4 (names:=["sign"]) (by kernel_rfl) (fun _ _ _ _ _ _ _ _ s g=>.of_eq (by kernel_rfl)) (by decide+kernel) rfl (by kernel_rfl) ?_).call;intro L env hc he;refine BC ?_;refine BT (id:="ord") F.RS he (by kernel_rfl) ?_;refine An he (by kernel_rfl) (by rfl) ?_;refine TP ?_;refine Qy F.D4 he (by kernel_rfl) ?_;refine HL ⟨_,rfl,?_⟩;refine⟨fun hb=>?_,fun hb=>absurd hb (by simp;lia)⟩;refine Ae ?_;refine Md ?_;refine Q5 ?_;refine AL F.Ea F.Ef he (by kernel_rfl) ?_;refine An he (by kernel_rfl) (by rfl) ?_;refine HX F ?_;refine⟨_,rfl,fun hb1=>?_,fun hb1=>?_⟩
 ·have:D1 k=true:=by unfold D1;refine rr hb1 ?_;rfl
  rw[this]at q;exact rr hb1 q
 refine Q5 ?_;refine Ok.mono (Q:=fun x ρ' S'=>x= .bool (decide (65≤k)&&decide (k≤90))∧ρ'=[(("sign":Str),AV.str (ch k))]∧S'=S) ?_ ?_
 ·refine KI ?_;refine AT ?_;refine AB he (by kernel_rfl) (by rfl) ?_;refine IM ⟨_,rfl,?_⟩;refine rr (Qc (b:=65) (by decide+kernel)) ?_;refine⟨fun hb2=>⟨by refine rr hb2 ?_;rfl,rfl,rfl⟩,fun hb2=>?_⟩;refine AT ?_;refine IM ?_;refine rr (QO (b:=90) (by decide+kernel)) (rr hb2 ?_);exact⟨rfl,rfl,rfl⟩
 rintro x ρ' S' ⟨rfl,rfl,rfl⟩;refine⟨_,rfl,fun hb2=>?_,fun hb2=>?_⟩
 ·have:D1 k=true:=by unfold D1;refine rr hb2 ?_;simp
  rw[this]at q;exact rr hb2 q
 refine Q5 ?_;refine Dt ?_;refine AB he (by kernel_rfl) (by rfl) ?_;refine AT ?_;refine AZ ?_;refine rr (OO (b:=95) (by decide+kernel)) ?_;refine⟨_,rfl,fun hb3=>?_,fun hb3=>?_⟩
 ·have:D1 k=true:=by unfold D1;refine rr hb3 ?_;simp
  rw[this]at q;exact rr hb3 q
 refine MY ?_;refine Dt ?_;refine AB he (by kernel_rfl) (by rfl) ?_;refine AT ?_;refine AZ ?_;refine rr (OO (b:=58) (by decide+kernel)) ?_;have:D1 k=decide (k=58):=by unfold D1;refine rr hb1 (rr hb2 (rr hb3 ?_));rfl
 rw[this]at q;exact q
end
noncomputable def Ot(x:Str):Bool:=x.cps.all (·<128)
noncomputable def HG(x:Str):Bool:=x.cps.toList.all EP&&!decide (x="")
noncomputable def Ht(x:Str):Bool:=!decide (x="")&&D1 (x.cps.toList.headD 0)&&HG x
noncomputable def PM(x:Str):Bool:=!PP ":" x&&Ht x
theorem Pu{x:Str}(h:Ot x=true){k:Nat}(hk:k∈x.cps.toList):k<128:=by
 unfold Ot at h;rw[Array.all_eq_true_iff_forall_mem]at h
 simpa using h k (by simpa using hk)
section
variable{c:Cx}{n:Nat}{S:AD}{Q:AV→AD→Prop}
theorem J7(F:Af c.K){k:Nat}(hk:k<128)(q:Q (.bool (EP k)) S):AM c (n+3) (.ref 200) [.str (ch k)] S Q:=by
 refine(AP F.GW (names:=["sign"]) (by kernel_rfl) (fun _ _ _ _ _ _ _ _ s g=>.of_eq (by kernel_rfl)) (by decide+kernel) rfl (by kernel_rfl) ?_).call;intro L env hc he;refine HC ?_;refine Dw ?_;refine AL F.DQ F.DV he (by kernel_rfl) ?_;refine An he (by kernel_rfl) (by rfl) ?_;refine Ft F hk ?_;refine⟨_,rfl,?_⟩;refine⟨fun hb1=>?_,fun hb1=>?_⟩
 ·refine Ae ?_;refine C0 ?_;have:EP k=true:=by unfold EP;refine rr hb1 ?_;rfl
  rw[this]at q;exact q
 refine AQ ?_;refine BC ?_;refine BT (id:="ord") F.RS he (by kernel_rfl) ?_;refine An he (by kernel_rfl) (by rfl) ?_;refine TP ?_;refine Qy F.D4 he (by kernel_rfl) ?_;refine HL ⟨_,rfl,?_⟩;refine⟨fun hb=>?_,fun hb=>absurd hb (by simp;lia)⟩;refine Ae ?_;refine Md ?_;refine Q5 ?_;refine Ok.mono (Q:=fun x ρ' S'=>x= .bool (decide (48≤k)&&decide (k≤57))∧ρ'=[(("sign":Str),AV.str (ch k))]∧S'=S) ?_ ?_
 ·refine KI ?_;refine AT ?_;refine AB he (by kernel_rfl) (by rfl) ?_;refine IM ⟨_,rfl,?_⟩;refine rr (Qc (b:=48) (by decide+kernel)) ?_;refine⟨fun hb2=>⟨by refine rr hb2 ?_;rfl,rfl,rfl⟩,fun hb2=>?_⟩;refine AT ?_;refine IM ?_;refine rr (QO (b:=57) (by decide+kernel)) (rr hb2 ?_);exact⟨rfl,rfl,rfl⟩
 rintro x ρ' S' ⟨rfl,rfl,rfl⟩;refine⟨_,rfl,fun hb2=>?_,fun hb2=>?_⟩
 ·have:EP k=true:=by unfold EP;refine rr hb2 ?_;simp
  rw[this]at q;exact rr hb2 q
 refine Q5 ?_;refine Dt ?_;refine AB he (by kernel_rfl) (by rfl) ?_;refine AT ?_;refine AZ ?_;refine rr (OO (b:=45) (by decide+kernel)) ?_;refine⟨_,rfl,fun hb3=>?_,fun hb3=>?_⟩
 ·have:EP k=true:=by unfold EP;refine rr hb3 ?_;simp
  rw[this]at q;exact rr hb3 q
 refine MY ?_;refine Dt ?_;refine AB he (by kernel_rfl) (by rfl) ?_;refine AT ?_;refine AZ ?_;refine rr (OO (b:=46) (by decide+kernel)) ?_;have:EP k=decide (k=46):=by unfold EP;refine rr hb1 (rr hb2 (rr hb3 ?_));rfl
 rw[this]at q;exact q
inductive cZ(S:AD)(x:Str)(ρ0:AJ)(l:List Nat)(ρ:AJ)(S':AD):Prop
 |mk (h0:(∀k∈l,k∈x.cps.toList)) (h1:(x.cps.toList.all EP=l.all EP)) (h2:Kp ["sign"] ρ ρ0) (h3:S'=S)
theorem La(F:Af c.K){x:Str}(hx:Ot x=true)(q:Q (.bool (HG x)) S):AM c (n+4) (.ref 207) [.str x] S Q:=by
 refine(AP F.H1 (names:=["text"]) (by kernel_rfl) (fun _ _ _ _ _ _ _ _ s g=>.of_eq (by kernel_rfl)) (by decide+kernel) rfl (by kernel_rfl) ?_).call;intro L env hc he;refine AH ?_;refine CF ?_;refine AB he (by kernel_rfl) (by rfl) ?_;refine⟨_,_,.str hx,?_⟩;refine A7 (f:=fun k=>AV.str (ch k)) (cZ S x _) (fun _ _ _ _=>trivial) ?_ ?_ x.cps.toList _ _ ⟨fun _ h=>h,rfl,Kp.refl _ _,rfl⟩
 ·rintro k l ρ _ ⟨hin,hall,hkp,rfl⟩;refine BA he (by kernel_rfl) ?_;have kp1:=hkp.cons (x:="sign") (v:=.str (ch k)) (by decide+kernel);refine HC ?_;refine Ku ?_;refine Dw ?_;refine AL F.GX F.GZ he (by kernel_rfl) ?_;refine An he (by kernel_rfl) (by rfl) ?_;refine J7 F (Pu hx (hin k (.head _))) ?_;refine⟨_,rfl,?_⟩;refine⟨fun hb=>?_,fun hb=>?_⟩
  ·refine Ae ?_;refine C0 ?_;have h0:EP k=false:=by simpa using hb
   have:HG x=false:=by unfold HG;refine rr hall (rr List.all_cons (rr h0 ?_));rfl
   rw[this]at q;exact q
  ·refine Ad ?_;have h0:EP k=true:=by simpa using hb
   exact⟨fun j hj=>hin j (.tail _ hj),by refine rr hall (rr List.all_cons (rr h0 ?_));rfl,kp1,rfl⟩
 ·rintro ρ _ ⟨-,hall,hkp,rfl⟩;refine AQ ?_;refine Ae ?_;refine Dt ?_;refine AB he (by kernel_rfl) ((hkp "text" (by decide+kernel)).trans (by rfl)) ?_;refine AT ?_;refine Bl ?_;have:HG x=!decide (x=""):=by unfold HG;refine rr hall ?_;rfl
  rw[this]at q;exact q
theorem Ov(F:Af c.K){x:Str}(hx:Ot x=true)(hn:x.length≤10000)(q:Q (.bool (Ht x)) S):AM c (n+5) (.ref 214) [.str x] S Q:=by
 refine(AP F.LF (names:=["text"]) (by kernel_rfl) (fun _ _ _ _ _ _ _ _ s g=>.of_eq (by kernel_rfl)) (by decide+kernel) rfl (by kernel_rfl) ?_).call;intro L env hc he;refine Ae ?_;refine Md ?_;refine N9 ?_;refine Dt ?_;refine AB he (by kernel_rfl) (by rfl) ?_;refine AT ?_;refine Bl ?_;refine⟨_,rfl,fun hb1=>?_,fun hb1=>?_⟩
 ·have:Ht x=false:=by unfold Ht;refine rr hb1 ?_;rfl
  rw[this]at q;exact rr hb1 q
 have hne:x.cps.toList≠[]:=fun e=>by
  have:x="":=by
   obtain⟨⟨l⟩⟩:=x;simp at e;subst e;rfl
  subst this;simp at hb1
 obtain⟨k,r,hkr⟩:∃k r,x.cps.toList=k::r:=by
  cases e:x.cps.toList with
  |nil=>exact absurd e hne
  |cons k r=>exact⟨k,r,rfl⟩
 have h0:x.cps[0]?=some k:=by refine rl Array.getElem?_toList (rr hkr ?_);rfl
 have hl:0<x.length:=by
  show 0<x.cps.size;refine rl Array.length_toList (rr hkr ?_);simp
 refine N9 ?_;refine AL F.DQ F.DV he (by kernel_rfl) ?_;refine Br ?_;refine AB he (by kernel_rfl) (by rfl) ?_;refine AS ?_;refine CE ?_ _ (fun _ _=>rfl);refine DH (k:=0) (by unfold seqIndex?;simp;exact Z7 hl) h0 (by decide) ?_;refine AE ?_;refine Ft F (Pu hx (by exact rr hkr (.head _))) ?_;have hhd:x.cps.toList.headD 0=k:=by refine rr hkr ?_;rfl
 refine⟨_,rfl,fun hb2=>?_,fun hb2=>?_⟩
 ·have:Ht x=false:=by unfold Ht;refine rr hhd (rr hb2 (rr (Bool.and_false ..) ?_));rfl
  rw[this]at q;exact rr hb2 q
 refine MY ?_;refine AL F.H4 F.H6 he (by kernel_rfl) ?_;refine An he (by kernel_rfl) (by rfl) ?_;refine La F hx ?_;have:Ht x=HG x:=by unfold Ht;refine rr hhd (rr hb2 (rr hb1 ?_));rfl
 rw[this]at q;exact q
theorem Ih(F:Af c.K){x:Str}(hx:Ot x=true)(hn:x.length≤10000)(q:Q (.bool (PM x)) S):AM c (n+6) (.ref 221) [.str x] S Q:=by
 refine(AP F.Il (names:=["text"]) (by kernel_rfl) (fun _ _ _ _ _ _ _ _ s g=>.of_eq (by kernel_rfl)) (by decide+kernel) rfl (by kernel_rfl) ?_).call;intro L env hc he;refine Ae ?_;refine Md ?_;refine N9 ?_;refine Dt ?_;refine AT ?_;refine AB he (by kernel_rfl) (by rfl) ?_;refine IK ?_;refine⟨_,rfl,fun hb1=>?_,fun hb1=>?_⟩
 ·have:PM x=false:=by unfold PM;refine rr hb1 ?_;rfl
  rw[this]at q;exact rr hb1 q
 refine MY ?_;refine AL F.LI F.LL he (by kernel_rfl) ?_;refine An he (by kernel_rfl) (by rfl) ?_;refine Ov F hx hn ?_;have:PM x=Ht x:=by unfold PM;refine rr hb1 ?_;rfl
 rw[this]at q;exact q
end
structure Gq(name p l:Str):Prop where
 parts:Txt.split name ":"=(if p="" then[name]else[p,l])
 loc:p=""→l=name
 okp:p≠""→Ot p=true∧PM p=true∧p.length≤100
 okl:Ot l=true∧PM l=true∧l.length≤100
 len:name.length≤1000
 cut:(Builtin.Str.partsBetween name (Builtin.Str.occurrences name (":":Str) 0 name.length (name.length+1)) (":":Str).length).length≤100000
section
variable{c:Cx}{n:Nat}{S:AD}{Q:AV→AD→Prop}
inductive dg(S:AD)(ps:List Str)(d:Addr)(ρ0:AJ)(l':List Str)(ρ:AJ)(S':AD):Prop
 |mk (h0:(∀x∈l',x∈ps)) (h1:Kp ["part"] ρ ρ0) (h2:S'=put S d (.list (ps.map .str)))
theorem Hb(F:Af c.K){name p l:Str}(h:Gq name p l)(q:∀d o,S d=none→Q (.tup [.str p,.str l]) (put S d o)):AM c (n+7) (.ref 228) [.str name] S Q:=by
 obtain⟨ps,e1,hps⟩:∃ps,Txt.split name ":"=ps∧(∀x∈ps,Ot x=true∧PM x=true∧x.length≤1000):=by
  refine⟨_,h.parts,fun x hx=>?_⟩;by_cases z:p=""
  ·rw[if_pos z]at hx;obtain rfl:=List.mem_singleton.mp hx;refine rl (h.loc z) ?_;exact⟨h.okl.1,h.okl.2.1,by have:=h.okl.2.2;exact NE this⟩
  ·rw[if_neg z]at hx;simp only[List.mem_cons,List.not_mem_nil,or_false]at hx;rcases hx with rfl|rfl
   ·exact⟨(h.okp z).1,(h.okp z).2.1,by have:=(h.okp z).2.2;exact NE this⟩
   ·exact⟨h.okl.1,h.okl.2.1,by have:=h.okl.2.2;exact NE this⟩
 have hlen:ps.length≤2:=by refine rl e1 (rr h.parts ?_);split<;>simp
 refine(AP F.Hx (names:=["name"]) (by kernel_rfl) (fun _ _ _ _ _ _ _ _ s g=>.of_eq (by kernel_rfl)) (by decide+kernel) rfl (by kernel_rfl) ?_).call;intro L env hc he;refine Aa he (by kernel_rfl) ?_;refine AY GL ?_;refine AB he (by kernel_rfl) (by rfl) ?_;refine⟨rfl,?_⟩;refine An he (by kernel_rfl) (by rfl) ?_;refine Hv (by decide+kernel) (by have:=h.len;exact dA this) h.cut fun d hd=>?_;refine rr e1 ?_;refine BC ?_;refine BT (id:="len") F.Ej he (by kernel_rfl) ?_;refine An he (by kernel_rfl) (by rfl) ?_;refine DA (.inl (AC ..)) (lm (YV hlen)) ?_;refine AS ?_;refine Ls ⟨_,rfl,?_⟩;refine⟨fun hb=>absurd hb (by simp;exact dX hlen),fun hb=>?_⟩;refine AQ ?_;refine AH ?_;refine CF ?_;refine AB he (by kernel_rfl) (by rfl) ?_;refine⟨_,_,.list (.inl (AC ..)),?_⟩;refine A7 (f:=AV.str) (dg S ps d _) (fun l ρ S' hP=>by obtain⟨_,_,h⟩:=hP;exact rr h (.inl (AC ..))) ?_ ?_ ps _ _ ⟨fun _ h=>h,Kp.refl _ _,rfl⟩
 ·rintro x l' ρ _ ⟨hin,hkp,rfl⟩;refine BA he (by kernel_rfl) ?_;have kp1:=hkp.cons (x:="part") (v:=.str x) (by decide+kernel);obtain⟨o1,o2,o3⟩:=hps x (hin x (.head _));refine HC ?_;refine Ku ?_;refine Dw ?_;refine AL F.Gi F.Ga he (by kernel_rfl) ?_;refine An he (by kernel_rfl) (by rfl) ?_;refine Ih F o1 (by exact Mk o3) ?_;refine rr o2 ?_;refine⟨_,rfl,?_⟩;refine⟨fun hb=>ft hb,fun hb=>?_⟩;refine Ad ?_;exact⟨fun j hj=>hin j (.tail _ hj),kp1,rfl⟩
 ·rintro ρ _ ⟨-,hkp,rfl⟩;refine AQ ?_;refine BC ?_;refine BT (id:="len") F.Ej he (by kernel_rfl) ?_;refine An he (by kernel_rfl) (Cv ((hkp "parts" (by decide+kernel)).trans (by rfl)) (by rfl)) ?_;refine DA (.inl (AC ..)) (lm (YV hlen)) ?_;refine AS ?_;refine J6 ⟨_,rfl,?_⟩;by_cases z:p=""
  ·have hp1:ps=[name]:=by exact rl e1 (rr h.parts (rr (if_pos z) rfl))
   subst hp1;refine⟨fun hb=>?_,fun hb=>tf hb⟩;refine Ae ?_;refine Ch ?_;refine An he (by kernel_rfl) (PN (by rfl) (Cv ((hkp "name" (by decide+kernel)).trans (by rfl)) (by rfl))) ⟨ble rfl,?_⟩;have:=q d (.list ([name].map .str)) hd;rw[h.loc z,z]at this;exact this
  ·have hp2:ps=[p,l]:=by exact rl e1 (rr h.parts (rr (if_neg z) rfl))
   subst hp2;refine⟨fun hb=>ft hb,fun hb=>?_⟩;refine AQ ?_;refine Ae ?_;refine Ch ?_;refine Br ?_;refine AB he (by kernel_rfl) ((hkp "parts" (by decide+kernel)).trans (by rfl)) ?_;refine AS ?_;refine CG (.inl (AC ..)) (by decide) (by decide) (by rfl) ?_ _ (fun _ _=>rfl);refine Br ?_;refine AB he (by kernel_rfl) ((hkp "parts" (by decide+kernel)).trans (by rfl)) ?_;refine AS ?_;refine CG (.inl (AC ..)) (by decide) (by decide) (by rfl) ?_ _ (fun _ _=>rfl);refine AE ⟨ble rfl,?_⟩;exact q d _ hd
noncomputable def declL(name:Str):Option Str:=
 if name="xmlns" then some ("":Str)else if Txt.slice name none (some 6)="xmlns:" then some (Txt.slice name (some 6) none)else none
noncomputable def VS:Option Str→AV
 |none=>.none
 |some x=>.str x
theorem Hq(F:Af c.K){name:Str}(h:name≠"xmlns:")(hn:name.length≤1000)(q:Q (VS (declL name)) S):AM c (n+1) (.ref 235) [.str name] S Q:=by
 refine(AP F.Eb (names:=["name"]) (by kernel_rfl) (fun _ _ _ _ _ _ _ _ s g=>.of_eq (by kernel_rfl)) (by decide+kernel) rfl (by kernel_rfl) ?_).call;intro L env hc he;refine BG he (by kernel_rfl) (by rfl) ?_;refine AZ ⟨_,rfl,?_⟩;refine⟨fun hb=>?_,fun hb=>?_⟩
 ·refine Ae ?_;refine AT ?_;have:declL name=some ("":Str):=by unfold declL;exact rr (if_pos (of_decide_eq_true hb)) rfl
  rw[this]at q;exact q
 refine AQ ?_;refine BG he (by kernel_rfl) (by rfl) ?_;refine AZ ⟨_,rfl,?_⟩;refine⟨fun hb1=>absurd (of_decide_eq_true hb1) h,fun hb1=>?_⟩;refine AQ ?_;refine BC ?_;refine Hk he (by kernel_rfl) (by rfl) ?_;refine Aj ?_;refine Az ?_;refine AS ?_;refine Aj ?_;refine⟨_,_,_,rfl,rfl,rfl,?_⟩;refine CK (by exact L7 hn) ?_ _ (fun _ _=>rfl);refine AT ?_;refine AZ ⟨_,rfl,?_⟩;have hb0:name≠"xmlns":=of_decide_eq_false hb;refine⟨fun hb2=>?_,fun hb2=>?_⟩
 ·refine Ae ?_;refine Hk he (by kernel_rfl) (by rfl) ?_;refine Az ?_;refine AS ?_;refine Aj ?_;refine Aj ?_;refine⟨_,_,_,rfl,rfl,rfl,?_⟩;refine CK (by exact L7 hn) ?_ _ (fun _ _=>rfl);have:declL name=some (Txt.slice name (some 6) none):=by unfold declL;exact rr (if_neg hb0) (rr (if_pos (of_decide_eq_true hb2)) rfl)
  rw[this]at q;exact q
 ·refine AQ ?_;refine Ae ?_;refine Dl ?_;have:declL name=none:=by unfold declL;exact rr (if_neg hb0) (rr (if_neg (of_decide_eq_false hb2)) rfl)
  rw[this]at q;exact q
end
structure Pj(p u:Str):Prop where
 n1:p≠"xmlns"
 n2:p≠"xml"
 n3:u≠"http://www.w3.org/XML/1998/namespace"
 n4:u≠"http://www.w3.org/2000/xmlns/"
 np:p≠""→Ot p=true∧PM p=true∧p.length≤100∧u≠""
section
variable{c:Cx}{n:Nat}{S:AD}{Q:AV→AD→Prop}
theorem JB(F:Af c.K){p u:Str}(h:Pj p u)(q:Q .none S):AM c (n+7) (.ref 242) [.str p,.str u] S Q:=by
 refine(AP F.Fx (names:=["prefix","uri"]) (by kernel_rfl) (fun _ _ _ _ _ _ _ _ s g=>.of_eq (by kernel_rfl)) (by decide+kernel) rfl (by kernel_rfl) ?_).call;intro L env hc he;refine BG he (by kernel_rfl) (by rfl) ?_;refine AZ ⟨_,rfl,?_⟩;refine⟨fun hb=>absurd (of_decide_eq_true hb) h.n1,fun hb=>?_⟩;refine AQ ?_;refine BG he (by kernel_rfl) (by rfl) ?_;refine AZ ⟨_,rfl,?_⟩;refine⟨fun hb=>absurd (of_decide_eq_true hb) h.n2,fun hb=>?_⟩;refine AQ ?_;refine BC ?_;refine AB he (by kernel_rfl) (by rfl) ?_;refine Ch ?_;refine AK ?_;refine KH F.CU he (by kernel_rfl) ?_;refine AK ?_;refine KH F.Iu he (by kernel_rfl) ?_;refine AE ⟨ble rfl,?_⟩;refine SX (ys:=["http://www.w3.org/XML/1998/namespace","http://www.w3.org/2000/xmlns/"]) ⟨_,rfl,?_⟩
 have hin:(["http://www.w3.org/XML/1998/namespace","http://www.w3.org/2000/xmlns/"]:List Str).any (·==u)=false:=by
  simp only[List.any_cons,List.any_nil,Bool.or_false,Bool.or_eq_false_iff,beq_eq_false_iff_ne];exact⟨fun e=>h.n3 e.symm,fun e=>h.n4 e.symm⟩
 refine rr hin ?_;refine⟨fun hb=>ft hb,fun hb=>?_⟩;refine AQ ?_;refine BG he (by kernel_rfl) (by rfl) ?_;refine Bl ⟨_,rfl,?_⟩;refine⟨fun hb=>?_,fun hb=>?_⟩
 ·have hp:p≠"":=by simpa using hb
  obtain⟨o1,o2,o3,o4⟩:=h.np hp;refine HC ?_;refine Ku ?_;refine Dw ?_;refine AL F.Gi F.Ga he (by kernel_rfl) ?_;refine An he (by kernel_rfl) (by rfl) ?_;refine Ih F o1 (by exact d8 o3) ?_;refine rr o2 ?_;refine⟨_,rfl,?_⟩;refine⟨fun hb=>ft hb,fun hb=>?_⟩;refine AQ ?_;refine BG he (by kernel_rfl) (by rfl) ?_;refine AZ ⟨_,rfl,?_⟩;refine⟨fun hb=>absurd (of_decide_eq_true hb) o4,fun hb=>?_⟩;refine Ad ?_;refine AQ ?_;exact q
 ·refine Ad ?_;exact q
noncomputable abbrev Sc:=List (Str×Str)
noncomputable def DF(l:Sc):List (Str×AV):=l.map fun p=>(p.1,AV.str p.2)
structure Em where
 b:Addr
 d:Addr
 sl:Addr
 tl:Addr
 ds:List Addr
noncomputable def Em.fp(z:Em):List Addr:=z.b::z.d::z.sl::z.tl::z.ds
structure BI(S:AD)(z:Em)(scs:List Sc):Prop where
 inst:S z.b=some (.inst 316 z.d)
 ns:S z.d=some (.ns [("told",.ref z.tl),("scopes",.ref z.sl)])
 sl:S z.sl=some (.list (z.ds.map .ref))
 tl:∃ts,S z.tl=some (.list ts)∧ts.length=scs.length
 len:z.ds.length=scs.length
 sc:∀(i:Nat) a l,z.ds[i]?=some a→scs[i]?=some l→S a=some (.dict (DF l))
 nd:[z.b,z.d,z.sl,z.tl].Nodup
 ap:∀a∈z.ds,a∉[z.b,z.d,z.sl,z.tl]
theorem Dp(l:Sc)(k:Str):AG (DF l) k=(AG l k).map AV.str:=by
 induction l with
 |nil=>rfl
 |cons p l ih=>
  show AG ((p.1,AV.str p.2)::DF l) k=(AG (p::l) k).map AV.str;refine rr (AN ..) (rr ih ?_);obtain⟨a,b⟩:=p;refine rr (AN ..) ?_;by_cases h:a=k
  ·simp[h]
  ·simp[h]
end
noncomputable def AI(p:Str×Str):AV:=.tup [.str p.1,.str p.2]
noncomputable def othersL(l:List (Str×Str)):List (Str×Str):=l.filter fun p=>(declL p.1).isNone
noncomputable def foundL(l:List (Str×Str)):List (Str×Str):=l.filterMap fun p=>(declL p.1).map fun q=>(q,p.2)
noncomputable def putS(l:Sc)(k v:Str):Sc:=if l.any (fun p=>p.1=k)then l.map (fun p=>if p.1=k then(p.1,v)else p)else l++[(k,v)]
theorem Lo(l:Sc)(k v:Str):Lp (DF l) k (.str v)=DF (putS l k v):=by
 unfold Lp putS DF;refine rr List.any_map ?_;have e:((fun p:Str×AV=>decide (p.1=k))∘fun p:Str×Str=>(p.1,AV.str p.2))=fun p=>decide (p.1=k):=rfl;refine rr e ?_;split
 ·refine rr List.map_map (rr List.map_map ?_);refine List.map_congr_left fun p _=>?_;show(if p.1=k then(p.1,AV.str v)else(p.1,AV.str p.2))=_;by_cases h:p.1=k
  ·simp[h]
  ·simp[h]
 ·refine rr List.map_append ?_;rfl
theorem Jn(l:Sc)(k v:Str):(putS l k v).length≤l.length+1:=by unfold putS;split<;>simp
noncomputable def enterL(top:Sc)(found:List (Str×Str)):Sc:=found.foldl (fun s p=>putS s p.1 p.2) top
structure NI(p:Str×Str):Prop where
 n:p.1≠"xmlns:"
 len:p.1.length≤1000
 b:∀q,declL p.1=some q→Pj q p.2
section
variable{c:Cx}{n:Nat}{S:AD}{Q:AV→AD→Prop}
theorem Lk{L:BU}{ρ:AJ}{env:Env}{k:Str}{z:Nat}{p pos:Pos}{v:Expr}{Q:AV→AJ→AD→Prop}
  (h:Ok c n L R (eval v env) ρ S (fun x ρ1 S1=>∀a,S1 a=none→Q (.ref a) ρ1 (put S1 a (.dict [(k,x)])))):Ok c n L R (eval (.Dict [some (.Constant (.str k) z p)] [v] pos) env) ρ S Q:=by
 refine Q7 [(eval (.Constant (.str k) z p) env,do let x←eval v env;standAt pos;pure x)] (by rfl) (by simp) (by simp) ?_;refine OE (h.mono fun x ρ1 S1 hq=>Px ⟨by simp,hq⟩)
theorem JE(F:Af c.K){a d:Addr}(h1:S a=some (.inst 316 d))(h2:S d=some (.ns []))(had:a≠d)
  (q:∀S' z,BI S' z [[("xml","http://www.w3.org/XML/1998/namespace")]]→z.b=a→(∀b o,b≠a→b≠d→S b=some o→S' b=some o)→(∀b∈z.fp,b=a∨b=d∨S b=none)→Q .none S'):Fp c (n+1) (.ref 256) [.ref a] S Q:=by
 refine AP F.Da (names:=["self"]) (by kernel_rfl) (fun _ _ _ _ _ _ _ _ s g=>.of_eq (by kernel_rfl)) (by decide+kernel) rfl (by kernel_rfl) ?_;intro L env hc he;refine AH ?_;refine BL ?_;refine Aw ?_;refine AK ?_;refine Lk ?_;refine KH F.CU he (by kernel_rfl) ?_;intro ds hds;refine AE ⟨ble rfl,fun sl hsl=>?_⟩;have a1:a≠ds:=(by first|exact As h1 hds|exact(As hds h1).symm)
 have d1:d≠ds:=(by first|exact As h2 hds|exact(As hds h2).symm)
 have s1:sl≠ds:=Kf hsl;have hsl':S sl=none:=by rw[AA _ _ s1]at hsl;exact hsl
 have a2:a≠sl:=fun e=>by rw[←e,h1]at hsl';cases hsl'
 have d2:d≠sl:=fun e=>by rw[←e,h2]at hsl';cases hsl'
 refine AB he (by kernel_rfl) (by rfl) ?_;refine BV F.EY ((AA _ _ a2).trans ((AA _ _ a1).trans h1)) ((AA _ _ d2).trans ((AA _ _ d1).trans h2)) (ble rfl) ?_;refine AH ?_;refine BL ?_;refine Aw ?_;refine An he (by kernel_rfl) (by rfl) ⟨ble rfl,fun tl htl=>?_⟩;have t1:tl≠d:=Kf htl;have t2:tl≠sl:=Kf (HH htl);have t3:tl≠ds:=Kf (HH (HH htl));have htl':S tl=none:=HH (HH (HH htl));have a3:a≠tl:=fun e=>by rw[←e,h1]at htl';cases htl'
 refine AB he (by kernel_rfl) (by rfl) ?_;refine BV F.F6 ((AA _ _ a3).trans ((AA _ _ had).trans ((AA _ _ a2).trans ((AA _ _ a1).trans h1)))) ((AA _ _ t1.symm).trans (AC ..)) (ble rfl) ?_;refine AQ ?_;refine q _ ⟨a,d,sl,tl,[ds]⟩ ⟨?_,AC ..,?_,⟨[.tup []],?_,rfl⟩,rfl,fun i b l hb hl=>?_,?_,?_⟩ rfl (fun b o b1 b2 e=>?_) (fun b hb=>?_)
 ·exact(AA _ _ had).trans ((AA _ _ a3).trans ((AA _ _ had).trans ((AA _ _ a2).trans ((AA _ _ a1).trans h1))))
 ·exact(AA _ _ d2.symm).trans ((AA _ _ t2.symm).trans ((AA _ _ d2.symm).trans (AC ..)))
 ·exact(AA _ _ t1).trans (AC ..)
 ·match i,hb,hl with
  |0,hb,hl=>
   cases hb;cases hl;exact(AA _ _ d1.symm).trans ((AA _ _ t3.symm).trans ((AA _ _ d1.symm).trans ((AA _ _ s1.symm).trans (AC ..))))
  |i+1,hb,_=>simp at hb
 ·simp[had,a2,a3,d2,t1.symm,t2.symm]
 ·intro b hb;obtain rfl:=List.mem_singleton.mp hb;simp[a1.symm,d1.symm,s1.symm,t3.symm]
 ·have c1:b≠ds:=(by first|exact As e hds|exact(As hds e).symm)
  have c2:b≠sl:=(by first|exact As e hsl'|exact(As hsl' e).symm)
  have c3:b≠tl:=(by first|exact As e htl'|exact(As htl' e).symm)
  exact(AA _ _ b2).trans ((AA _ _ c3).trans ((AA _ _ b2).trans ((AA _ _ c2).trans ((AA _ _ c1).trans e))))
 ·simp[Em.fp]at hb;rcases hb with rfl|rfl|rfl|rfl|rfl
  ·exact .inl rfl
  ·exact .inr (.inl rfl)
  ·exact .inr (.inr hsl')
  ·exact .inr (.inr htl')
  ·exact .inr (.inr hds)
theorem NH(F:Af c.K)(q:∀S' z,BI S' z [[("xml","http://www.w3.org/XML/1998/namespace")]]→FY S S' [] z.fp→Q (.ref z.b) S'):AM c (n+2) (.ref 316) [] S Q:=by
 refine NX F.I0 fun d a hd ha hda=>?_;refine JE F (AC ..) ((AA _ _ hda).trans (AC ..)) hda.symm fun S' z hb hz hk hn=>⟨rfl,?_⟩
 subst hz;refine q S' z hb ⟨fun b o _ e=>?_,fun b hb'=>.inr ?_⟩
 ·have b1:b≠d:=(by first|exact As e hd|exact(As hd e).symm)
  have b2:b≠z.b:=(by first|exact As e ha|exact(As ha e).symm)
  exact hk b o b2 b1 (by exact rr (AA _ _ b2) (rr (AA _ _ b1) e))
 ·rcases hn b hb' with rfl|rfl|e
  ·exact ha
  ·exact hd
  ·by_cases b2:b=z.b
   ·subst b2;exact ha
   ·by_cases b1:b=d
    ·subst b1;exact hd
    ·rw[AA _ _ b2,AA _ _ b1]at e;exact e
end
section
variable{c:Cx}{n:Nat}{S:AD}{Q:AV→AD→Prop}{z:Em}{scs:List Sc}
theorem BI.top(h:BI S z scs){l:Sc}(hl:scs.getLast?=some l):∃a,z.ds.getLast?=some a∧S a=some (.dict (DF l)):=by
 rw[List.getLast?_eq_getElem?]at hl;have hlt:=(List.getElem?_eq_some_iff.mp hl).1;refine⟨z.ds[z.ds.length-1]'(by exact rr h.len hlt),?_,?_⟩
 ·exact rr List.getLast?_eq_getElem? (List.getElem?_eq_getElem _)
 ·exact h.sc (z.ds.length-1) _ l (List.getElem?_eq_getElem _) (by exact rr h.len hl)
noncomputable def EI(l:Sc)(p:Str):Str:=(AG l p).getD ""
theorem J3(F:Af c.K)(h:BI S z scs){l:Sc}(hl:scs.getLast?=some l){p:Str}(h1:p≠"xmlns")(h2:p≠""→(AG l p).isSome=true)(q:Q (.str (EI l p)) S):AM c (n+1) (.ref 291) [.ref z.b,.str p] S Q:=by
 obtain⟨a,ha,hd⟩:=h.top hl;refine(AP F.EX (names:=["self","prefix"]) (by kernel_rfl) (fun _ _ _ _ _ _ _ _ s g=>.of_eq (by kernel_rfl)) (by decide+kernel) rfl (by kernel_rfl) ?_).call;intro L env hc he;refine BG he (by kernel_rfl) (by rfl) ?_;refine AZ ⟨_,rfl,?_⟩;refine⟨fun hb=>absurd (of_decide_eq_true hb) h1,fun hb=>?_⟩;refine AQ ?_;refine Aa he (by kernel_rfl) ?_;refine AY OT ?_;refine DW ?_;refine A1 F.BK ?_;refine AB he (by kernel_rfl) (by rfl) ?_;refine⟨_,_,_,_,rfl,h.inst,h.ns,by rfl,rfl,?_⟩;refine Fg ?_;refine AS ?_;refine Db ?_;refine CJ (T:="list") (.inl ⟨_,h.sl,rfl⟩) slot_list_getitem.lookup ?_ _ (fun _ _=>rfl);refine GT (.inl h.sl) (x:=.ref a) (by refine rr List.getLast?_map (rr ha ?_);rfl) ?_;refine⟨.inr ⟨_,hd,rfl⟩,?_⟩;refine An he (by kernel_rfl) (by rfl) ?_;refine OM hd ?_;refine rr (Dp ..) ?_;refine BC ?_;refine AB he (by kernel_rfl) (by rfl) ?_;refine Dl ?_
 cases e:AG l p with
 |none=>
  have hp:p="":=Classical.byContradiction fun w=>by have:=h2 w;rw[e]at this;cases this
  refine E5 ⟨_,rfl,?_⟩;refine⟨fun hb=>?_,fun hb=>tf hb⟩;refine BG he (by kernel_rfl) (by rfl) ?_;refine Bl ⟨_,rfl,?_⟩;refine rr hp ?_;refine⟨fun hb=>absurd hb (by decide+kernel),fun hb=>?_⟩;refine AQ ?_;refine Ae ?_;refine AT ?_;have:EI l p="":=by unfold EI;refine rr e ?_;rfl
  rw[this]at q;exact q
 |some u=>
  refine E5 ⟨_,rfl,?_⟩;refine⟨fun hb=>ft hb,fun hb=>?_⟩;refine AQ ?_;refine Ae ?_;refine AB he (by kernel_rfl) (by rfl) ?_;have:EI l p=u:=by unfold EI;refine rr e ?_;rfl
  rw[this]at q;exact q
theorem BI.same{S':AD}(h:BI S z scs)(e:∀a∈z.fp,S' a=S a):BI S' z scs:=by
 obtain⟨ts,h4,h5⟩:=h.tl
 exact⟨(e _ (mi 0 rfl)).trans h.inst,(e _ (mi 1 rfl)).trans h.ns,(e _ (mi 2 rfl)).trans h.sl,⟨ts,(e _ (mi 3 rfl)).trans h4,h5⟩,h.len,
  fun i a l ha hl=>(e a (mi (i+4) ha)).trans (h.sc i a l ha hl),h.nd,h.ap⟩
theorem BI.has(h:BI S z scs):∀a∈z.fp,S a≠none:=by
 intro a ha;obtain⟨ts,h4,h5⟩:=h.tl;simp only[Em.fp,List.mem_cons]at ha;rcases ha with rfl|rfl|rfl|rfl|ha
 ·exact rr h.inst (fun e=>nomatch e)
 ·exact rr h.ns (fun e=>nomatch e)
 ·exact rr h.sl (fun e=>nomatch e)
 ·exact rr h4 (fun e=>nomatch e)
 ·obtain⟨i,hi,e⟩:=List.mem_iff_getElem.mp ha;have hl:i<scs.length:=by exact rl h.len hi
  refine rr (h.sc i a scs[i] (by rw[←e];exact List.getElem?_eq_getElem hi) (List.getElem?_eq_getElem hl)) ?_;exact fun e=>nomatch e
theorem BI.new{d:Addr}{o:AO}(h:BI S z scs)(hd:S d=none):BI (put S d o) z scs:=h.same fun a ha=>AA _ _ (fun q=>h.has a ha (q▸hd))
theorem Mi(F:Af c.K)(h:BI S z scs){sc:Sc}(hl:scs.getLast?=some sc){name p l:Str}(hs:Gq name p l)(h1:p≠"xmlns")(h2:p≠""→(AG sc p).isSome=true)
  (q:∀d o,S d=none→Q (.tup [.str (EI sc p),.str l]) (put S d o)):AM c (n+8) (.ref 299) [.ref z.b,.str name] S Q:=by
 obtain⟨od,k,sl,u,hK⟩:=F.CH;refine(Hr F.CI (names:=["self","name","is_attribute"]) (dx:=[.bool false]) (dv:=[.bool false]) (by kernel_rfl) (fun _ _ _ _ _ _ _ _ s vs hl hk=>by obtain⟨a,b,rfl⟩:=Tw (P:=fun q=>∃a b,q=[a,b]) (fun a b=>⟨a,b,rfl⟩) vs hl;exact .of_defaults rfl (hk _ _ hK) rfl rfl rfl) (fun _=>.cons (.bool _) .nil) (by decide+kernel) rfl (by kernel_rfl) ?_).call;intro L env hc he;refine AH ?_;refine CB ?_ (BB he (by with_unfolding_all rfl));refine AL F.Fk F.Fm he (by kernel_rfl) ?_;refine An he (by kernel_rfl) (by rfl) ?_;refine Hb F hs fun d o hd=>?_;refine Cy (by rfl) (Ag he (by kernel_rfl) (Ag he (by kernel_rfl) (BR ?_)));refine HC ?_;refine HV ?_;refine Fs ?_;refine N0 he (by kernel_rfl) (by rfl) ?_;refine AT ?_;refine AZ ⟨_,rfl,?_⟩;refine⟨fun hb=>?_,fun hb=>?_⟩
 ·refine Fs ?_;refine Dw ?_;refine AB he (by kernel_rfl) (by rfl) ?_;refine⟨_,rfl,?_⟩;refine⟨fun hb=>ft hb,fun hb=>?_⟩;refine⟨fun hb=>ft hb,fun hb=>?_⟩;refine AQ ?_;refine Ae ?_;refine Ch ?_;refine AK ?_;refine Cf F.Bu he (by kernel_rfl) (by rfl) ((h.new hd).inst) ((h.new hd).ns) (by rfl) ?_;refine An he (by kernel_rfl) (by rfl) ?_;refine J3 F (h.new hd) hl h1 h2 ?_;refine An he (by kernel_rfl) (by rfl) ⟨ble rfl,?_⟩;exact q d o hd
 ·refine⟨fun hb=>ft hb,fun hb=>?_⟩;refine AQ ?_;refine Ae ?_;refine Ch ?_;refine AK ?_;refine Cf F.Bu he (by kernel_rfl) (by rfl) ((h.new hd).inst) ((h.new hd).ns) (by rfl) ?_;refine An he (by kernel_rfl) (by rfl) ?_;refine J3 F (h.new hd) hl h1 h2 ?_;refine An he (by kernel_rfl) (by rfl) ⟨ble rfl,?_⟩;exact q d o hd
theorem Ie(F:Af c.K)(h:BI S z scs){sc:Sc}(hl:scs.getLast?=some sc){name p l:Str}(hs:Gq name p l)(h1:p≠"xmlns")(h2:p≠""→(AG sc p).isSome=true)
  (q:∀d o,S d=none→Q (.tup [.str (if p="" then "" else EI sc p),.str l]) (put S d o)):AM c (n+8) (.ref 299) [.ref z.b,.str name,.bool true] S Q:=by
 obtain⟨od,k,sl,u,hK⟩:=F.CH;refine(Hr F.CI (names:=["self","name","is_attribute"]) (dx:=[]) (dv:=[]) (by kernel_rfl) (fun _ _ _ _ _ _ _ _ s vs hl hk=>by obtain⟨a,b,d,rfl⟩:=Rb (P:=fun q=>∃a b c,q=[a,b,c]) (fun a b c=>⟨a,b,c,rfl⟩) vs hl;exact .of_defaults rfl (hk _ _ hK) rfl rfl rfl) (fun _=>.nil) (by decide+kernel) rfl (by kernel_rfl) ?_).call;intro L env hc he;refine AH ?_;refine CB ?_ (BB he (by with_unfolding_all rfl));refine AL F.Fk F.Fm he (by kernel_rfl) ?_;refine An he (by kernel_rfl) (by rfl) ?_;refine Hb F hs fun d o hd=>?_;refine Cy (by rfl) (Ag he (by kernel_rfl) (Ag he (by kernel_rfl) (BR ?_)));refine HC ?_;refine HV ?_;refine Fs ?_;refine N0 he (by kernel_rfl) (by rfl) ?_;refine AT ?_;refine AZ ⟨_,rfl,?_⟩;refine⟨fun hb=>?_,fun hb=>?_⟩
 ·refine Fs ?_;refine Dw ?_;refine AB he (by kernel_rfl) (by rfl) ?_;refine⟨_,rfl,?_⟩;refine⟨fun _=>?_,fun hb=>tf hb⟩;refine Gp ?_;refine⟨fun _=>?_,fun hb=>tf hb⟩;refine Ae ?_;refine Ch ?_;refine An he (by kernel_rfl) (by rfl) ⟨ble rfl,?_⟩;have:=q d o hd;rw[if_pos (of_decide_eq_true hb)]at this;exact this
 ·refine⟨fun hb=>ft hb,fun _=>?_⟩;refine AQ ?_;refine Ae ?_;refine Ch ?_;refine AK ?_;refine Cf F.Bu he (by kernel_rfl) (by rfl) ((h.new hd).inst) ((h.new hd).ns) (by rfl) ?_;refine An he (by kernel_rfl) (by rfl) ?_;refine J3 F (h.new hd) hl h1 h2 ?_;refine An he (by kernel_rfl) (by rfl) ⟨ble rfl,?_⟩;have:=q d o hd;rw[if_neg (of_decide_eq_false hb)]at this;exact this
end
section
variable{c:Cx}{n:Nat}{S:AD}{Q:AV→AD→Prop}{z:Em}{scs:List Sc}
theorem OP{α:Type}{l:List α}(h:0<l.length):∃r x,l=r++[x]:=by
 have hne:l≠[]:=fun e=>by subst e;simp at h
 exact⟨l.dropLast,l.getLast hne,(List.dropLast_concat_getLast hne).symm⟩
theorem SM(F:Af c.K)(h:BI S z scs)(h2:2≤scs.length)(hn:scs.length≤1000)
  (q:∀S' z',BI S' z' scs.dropLast→z'.b=z.b→FY S S' z.fp z'.fp→Q .none S'):AM c (n+1) (.ref 270) [.ref z.b] S Q:=by
 obtain⟨ts,h4,h5⟩:=h.tl;obtain⟨dr,dx,hds⟩:=OP (l:=z.ds) (by exact rr h.len (UP h2));obtain⟨tr,tx,hts⟩:=OP (l:=ts) (by exact rr h5 (UP h2));have nd:=h.nd;simp only[List.nodup_cons,List.mem_cons,List.not_mem_nil,or_false,not_or,not_false_eq_true,List.nodup_nil,and_true]at nd;obtain⟨⟨n1,n2,n3⟩,⟨n4,n5⟩,n6⟩:=nd;refine(AP F.FS (names:=["self"]) (by kernel_rfl) (fun _ _ _ _ _ _ _ _ s g=>.of_eq (by kernel_rfl)) (by decide+kernel) rfl (by kernel_rfl) ?_).call;intro L env hc he;refine BC ?_;refine BT (id:="len") F.Ej he (by kernel_rfl) ?_;refine AK ?_;refine A1 F.BK ?_;refine AB he (by kernel_rfl) (by rfl) ?_;refine⟨_,_,_,_,rfl,h.inst,h.ns,by rfl,rfl,?_⟩;refine AE ?_;refine DA (.inl h.sl) (by exact rr (List.length_map ..) (rr h.len (L7 hn))) ?_;refine AS ?_;refine J6 ⟨_,rfl,?_⟩;refine⟨fun hb=>absurd hb (by simp[h.len];exact dy h2),fun hb=>?_⟩;refine AQ ?_;refine AH ?_;refine Av he ?_;refine AY NU ?_;refine A1 F.BK ?_;refine AB he (by kernel_rfl) (by rfl) ?_;refine⟨_,_,_,_,rfl,h.inst,h.ns,by rfl,rfl,?_⟩;refine⟨.inl ⟨_,h.sl,rfl⟩,?_⟩;refine AE ?_;have hsl:S z.sl=some (.list (dr.map AV.ref++[AV.ref dx])):=by refine rr h.sl (rr hds (rr List.map_append ?_));rfl
 have hdl:dr.length+1=scs.length:=by refine rl h.len (rr hds ?_);simp
 have htl:tr.length+1=scs.length:=by refine rl h5 (rr hts ?_);simp
 refine Qa hsl (lm (Ta hn hdl)) ?_;refine AH ?_;refine Av he ?_;refine AY NU ?_;refine A1 F.DR ?_;refine AB he (by kernel_rfl) (by rfl) ?_;refine⟨_,_,_,_,rfl,(AA _ _ n2).trans h.inst,(AA _ _ n4).trans h.ns,by rfl,rfl,?_⟩;have h4':put S z.sl (.list (dr.map AV.ref)) z.tl=some (.list (tr++[tx])):=by exact rr (AA _ _ (Ne.symm n6)) (rr h4 (rr hts rfl))
 refine⟨.inl ⟨_,h4',rfl⟩,?_⟩;refine AE ?_;refine Qa h4' (by exact Ta hn htl) ?_;refine AQ ?_
 have hap:∀a∈dr,a≠z.sl∧a≠z.tl:=fun a ha=>by
  have:=h.ap a (by refine rr hds ?_;simp[ha]);simp only[List.mem_cons,List.not_mem_nil,or_false,not_or]at this;exact⟨this.2.2.1,this.2.2.2⟩
 refine q _ ⟨z.b,z.d,z.sl,z.tl,dr⟩ ⟨?_,?_,?_,⟨tr,AC ..,by simp;exact Sb h2 htl⟩,by simp;exact Sb h2 hdl,fun i a l ha hl=>?_,h.nd,fun a ha=>h.ap a (by refine rr hds ?_;simp[ha])⟩ rfl ⟨fun a o ha e=>?_,fun a ha=>.inl ?_⟩
 ·exact rr (AA _ _ n3) (rr (AA _ _ n2) h.inst)
 ·exact rr (AA _ _ n5) (rr (AA _ _ n4) h.ns)
 ·exact rr (AA _ _ n6) (rr (AC ..) rfl)
 ·obtain⟨p1,p2⟩:=hap a (List.mem_of_getElem? ha);refine rr (AA _ _ p2) (rr (AA _ _ p1) ?_);have hi:=(List.getElem?_eq_some_iff.mp ha).1;refine h.sc i a l (by exact rr hds (rr (List.getElem?_append_left hi) ha)) ?_;rw[List.getElem?_dropLast]at hl;split at hl
  ·exact hl
  ·cases hl
 ·have q1:a≠z.sl:=fun w=>ha (w▸mi 2 rfl);have q2:a≠z.tl:=fun w=>ha (w▸mi 3 rfl);exact rr (AA _ _ q2) (rr (AA _ _ q1) e)
 ·simp only[Em.fp,List.mem_cons]at ha ⊢;rcases ha with w|w|w|w|w
  ·exact .inl w
  ·exact .inr (.inl w)
  ·exact .inr (.inr (.inl w))
  ·exact .inr (.inr (.inr (.inl w)))
  ·exact .inr (.inr (.inr (.inr (by refine rr hds ?_;simp[w]))))
end
section
variable{c:Cx}{n:Nat}{S:AD}{Q:AV→AD→Prop}{y:Bg}{T:List Nd}
theorem NB(F:Af c.K)(h:AW S y T)(hT:T.length≤1000){i r:Nat}{x:Nd}(hx:T[i]?=some x)(hir:i≠r){name:Str}(hn:x.name=name)(q:Q (EK x.par) S):
  AM c (n+3) (.ref 342) [.ref y.t,natV i,.str name,natV r] S Q:=by
 refine(AP F.KN (names:=["tree","element","name","root"]) (by kernel_rfl) (fun _ _ _ _ _ _ _ _ s g=>.of_eq (by kernel_rfl)) (by decide+kernel) rfl (by kernel_rfl) ?_).call;intro L env hc he;refine HC ?_;refine HV ?_;refine O8 ?_;refine N0 he (by kernel_rfl) (by rfl) ?_;refine AB he (by kernel_rfl) (by rfl) ?_;refine J6 ⟨_,rfl,?_⟩;refine⟨fun hb=>?_,fun hb=>absurd (of_decide_eq_true hb) (by lia)⟩;refine O8 ?_;refine Ck ?_;refine Cf F.Bi he (by kernel_rfl) (by rfl) h.inst h.ns (by rfl) ?_;refine An he (by kernel_rfl) (by rfl) ?_;refine HN F h hT hx ?_;refine AB he (by kernel_rfl) (by rfl) ?_;refine Bl ⟨_,rfl,?_⟩;refine⟨fun hb=>?_,fun hb=>absurd hb (by simp[hn])⟩;refine Jo ?_;refine⟨fun hb=>ft hb,fun hb=>?_⟩;refine AQ ?_;refine Ae ?_;refine Cf F.Er he (by kernel_rfl) (by rfl) h.inst h.ns (by rfl) ?_;refine An he (by kernel_rfl) (by rfl) ?_;exact M5 F h hT hx q
end
noncomputable def Cw(v:Str):Str:=Es v E2
noncomputable def DE(v:Str):Str:=Es v CM
noncomputable def TQ(v:Str):Str:=Es v LS
structure Na(v:Str):Prop where
 t:CN v E2
 fv:CN v CM
 c:CN v LS
 tl:(Cw v).length≤1000000
 vl:(DE v).length≤1000000
 cl:(TQ v).length≤1000000
noncomputable def M9(t d:Str):Str:="<?"++t++(if d=("":Str)then("":Str)else(" ":Str)++TQ d)++"?>"
noncomputable def Uk(d:Str):Str:="<!--"++TQ d++"-->"
theorem AX(x y:Str):(x++y).length=x.length+y.length:=Array.size_append
section
variable{c:Cx}{n:Nat}{S:AD}{Q:AV→AD→Prop}{y:Bg}{T:List Nd}
theorem E9(F:Af c.K){t d:Str}(hd:Na d)(ht:t.length≤1000)(q:Q (.str (M9 t d)) S):AM c (n+2) (.ref 107) [.str t,.str d] S Q:=by
 refine(AP F.Ca (names:=["target","data"]) (by kernel_rfl) (fun _ _ _ _ _ _ _ _ s g=>.of_eq (by kernel_rfl)) (by decide+kernel) rfl (by kernel_rfl) ?_).call;intro L env hc he;have hl:=hd.cl;have z1:("<?":Str).length=2:=by decide+kernel
 have z2:("?>":Str).length=2:=by decide+kernel
 have z3:(" ":Str).length=1:=by decide+kernel
 have z4:("":Str).length=0:=by decide+kernel
 refine Ae ?_;refine Ab ?_;refine Ab ?_;refine Ab ?_;refine AT ?_;refine AB he (by kernel_rfl) (by rfl) ?_;refine Aq ?_ (by exact rr sizeLine_eq (rr z1 (ce ht)));refine Dz ?_;refine N0 he (by kernel_rfl) (by rfl) ?_;refine AT ?_;refine Bl ⟨_,rfl,?_⟩;refine⟨fun hb=>?_,fun hb=>?_⟩
 ·have h0:d≠"":=by simpa using hb
  refine Ab ?_;refine AT ?_;refine AL F.EE F.EB he (by kernel_rfl) ?_;refine A0 he (by kernel_rfl) (by rfl) ?_;refine Ah ?_;refine Ah ?_;refine CC fun t1 u1 x1 y1 w1=>⟨ble rfl,?_⟩
  refine AE ⟨ble rfl,?_⟩;refine AE ?_;refine Fc (ps:=[((_,t1),(_,u1))]) F (fun p hp=>?_) hd.c ?_
  ·obtain rfl:=List.mem_singleton.mp hp;exact⟨x1,y1,w1,by kernel_rfl⟩
  refine Aq ?_ (by exact rr sizeLine_eq (rr z3 (Nat.le_trans (Nat.add_le_add_left hl _) (by exact ec))));refine Aq ?_ ?_;rotate_left
  ·refine rr sizeLine_eq (rr (AX ..) (rr (AX ..) (rr z1 (rr z3 ?_))));exact Nat.le_trans (Nat.add_le_add_left (Nat.add_le_add_left hl _) _) (by exact c9 ht)
  refine AT ?_;refine Aq ?_ ?_
  ·have:M9 t d=("<?":Str)++t++((" ":Str)++TQ d)++("?>":Str):=by unfold M9;exact rr (if_neg h0) rfl
   rw[this]at q;exact q
  ·refine rr sizeLine_eq (rr (AX ..) (rr (AX ..) (rr (AX ..) (rr z1 (rr z2 (rr z3 ?_))))));exact Nat.le_trans (Nat.add_le_add_right (Nat.add_le_add_left (Nat.add_le_add_left hl _) _) _) (by exact dU ht)
 ·have h0:d="":=by simpa using hb
  refine AT ?_;refine Aq ?_ (by exact rr sizeLine_eq (rr (AX ..) (rr z1 (rr z4 (dC ht)))));refine AT ?_;refine Aq ?_ (by exact rr sizeLine_eq (rr (AX ..) (rr (AX ..) (rr z1 (rr z2 (rr z4 (dS ht)))))));have:M9 t d=("<?":Str)++t++("":Str)++("?>":Str):=by unfold M9;exact rr (if_pos h0) rfl
  rw[this]at q;exact q
noncomputable def leafF(x:Nd)(comments:Bool):Str:=
 if x.kind="text" then Cw x.val else if x.kind="comment" then(if comments then Uk x.val else "")else M9 x.name x.val
theorem Ez(F:Af c.K)(h:AW S y T)(hT:T.length≤1000){i:Nat}{x:Nd}(hx:T[i]?=some x){cm:Bool}(hd:Na x.val)(hn:x.name.length≤1000)
  (hk:x.kind="text"∨x.kind="comment"∨x.kind="instruction") (q:Q (.str (leafF x cm)) S):AM c (n+3) (.ref 126) [.ref y.t,natV i,.bool cm] S Q:=by
 refine(AP F.FR (names:=["tree","node","comments"]) (by kernel_rfl) (fun _ _ _ _ _ _ _ _ s g=>.of_eq (by kernel_rfl)) (by decide+kernel) rfl (by kernel_rfl) ?_).call;intro L env hc he;have hl:=hd.cl;have z1:("<!--":Str).length=4:=by decide+kernel
 have z2:("-->":Str).length=3:=by decide+kernel
 refine Aa he (by kernel_rfl) ?_;refine Cf F.CZ he (by kernel_rfl) (by rfl) h.inst h.ns (by rfl) ?_;refine An he (by kernel_rfl) (by rfl) ?_;refine Jx F h hT hx ?_;refine BG he (by kernel_rfl) (by rfl) ?_;refine AZ ⟨_,rfl,?_⟩;refine⟨fun hb=>?_,fun hb=>?_⟩
 ·have k0:x.kind="text":=of_decide_eq_true hb;refine Ae ?_;refine AL F.FC F.FN he (by kernel_rfl) ?_;refine AK ?_;refine Cf F.Bm he (by kernel_rfl) (by rfl) h.inst h.ns (by rfl) ?_;refine An he (by kernel_rfl) (by rfl) ?_;refine Gn F h hT hx ?_;refine AE ?_;refine IP F hd.t ?_;have:leafF x cm=Cw x.val:=by unfold leafF;exact rr (if_pos k0) rfl
  rw[this]at q;exact q
 have k1:x.kind≠"text":=of_decide_eq_false hb;refine AQ ?_;refine BG he (by kernel_rfl) (by rfl) ?_;refine AZ ⟨_,rfl,?_⟩;refine⟨fun hb=>?_,fun hb=>?_⟩
 ·have k0:x.kind="comment":=of_decide_eq_true hb;refine Ae ?_;refine Dz ?_;refine Dw ?_;refine AB he (by kernel_rfl) (by rfl) ?_;refine⟨_,rfl,?_⟩;refine⟨fun hb=>?_,fun hb=>?_⟩
  ·refine Ab ?_;refine Ab ?_;refine AT ?_;refine AL F.EE F.EB he (by kernel_rfl) ?_;refine AK ?_;refine Cf F.Bm he (by kernel_rfl) (by rfl) h.inst h.ns (by rfl) ?_;refine An he (by kernel_rfl) (by rfl) ?_;refine Gn F h hT hx ?_;refine Ah ?_;refine Ah ?_;refine CC fun t1 u1 x1 y1 w1=>⟨ble rfl,?_⟩
   refine AE ⟨ble rfl,?_⟩;refine AE ?_;refine Fc (ps:=[((_,t1),(_,u1))]) F (fun p hp=>?_) hd.c ?_
   ·obtain rfl:=List.mem_singleton.mp hp;exact⟨x1,y1,w1,by kernel_rfl⟩
   refine Aq ?_ (by exact rr sizeLine_eq (rr z1 (Nat.le_trans (Nat.add_le_add_left hl _) (by exact dw))));refine AT ?_;refine Aq ?_ ?_
   ·have:leafF x cm=("<!--":Str)++TQ x.val++("-->":Str):=by unfold leafF;refine rr (if_neg k1) (rr (if_pos k0) (rr (if_pos hb) ?_));rfl
    rw[this]at q;exact q
   ·refine rr sizeLine_eq (rr (AX ..) (rr z1 (rr z2 ?_)));exact Nat.le_trans (Nat.add_le_add_right (Nat.add_le_add_left hl _) _) (by exact dD)
  ·refine AT ?_;have:leafF x cm="":=by unfold leafF;exact rr (if_neg k1) (rr (if_pos k0) (rr (if_neg (by rw[hb];exact Bool.false_ne_true)) rfl))
   rw[this]at q;exact q
 have k2:x.kind≠"comment":=of_decide_eq_false hb;have k3:x.kind="instruction":=hk.elim (fun e=>absurd e k1) fun e=>e.elim (fun e=>absurd e k2) id;refine AQ ?_;refine BG he (by kernel_rfl) (by rfl) ?_;refine AZ ⟨_,rfl,?_⟩;refine⟨fun _=>?_,fun hb=>absurd k3 (of_decide_eq_false hb)⟩;refine Ae ?_;refine AL F.Cc F.Cb he (by kernel_rfl) ?_;refine AK ?_;refine Cf F.Bi he (by kernel_rfl) (by rfl) h.inst h.ns (by rfl) ?_;refine An he (by kernel_rfl) (by rfl) ?_;refine HN F h hT hx ?_;refine AK ?_;refine Cf F.Bm he (by kernel_rfl) (by rfl) h.inst h.ns (by rfl) ?_;refine An he (by kernel_rfl) (by rfl) ?_;refine Gn F h hT hx ?_;refine AE ?_;refine E9 F hd hn ?_;have:leafF x cm=M9 x.name x.val:=by unfold leafF;exact rr (if_neg k1) (rr (if_neg k2) rfl)
 rw[this]at q;exact q
end
noncomputable def A9(S S':AD):Prop:=∀a o,S a=some o→S' a=some o
theorem A9.refl(S:AD):A9 S S:=fun _ _ h=>h
theorem A9.trans{S1 S2 S3:AD}(h:A9 S1 S2)(h':A9 S2 S3):A9 S1 S3:=fun a o e=>h' a o (h a o e)
theorem A9.put{S S':AD}{d:Addr}{o:AO}(h:A9 S S')(hd:S d=none):A9 S (put S' d o):=fun a o' e=>by
 exact rr (AA _ _ ((by first|exact As e hd|exact(As hd e).symm))) (h a o' e)
theorem A9.none{S S':AD}{d:Addr}(h:A9 S S')(e:S' d=none):S d=none:=by
 cases q:S d with
 |none=>rfl
 |some o=>rw[h _ _ q]at e;cases e
theorem CW.sub{S S':AD}{r:BZ}{x:Nd}(h:CW S r x)(e:A9 S S'):CW S' r x:=by
 obtain⟨h1,h2,h4,h5,h6⟩:=h;exact⟨e _ _ h1,(h2.to fun _ q=>e _ _ q),e _ _ h4,e _ _ h5,e _ _ h6⟩
theorem AW.sub{S S':AD}{y:Bg}{T:List Nd}(h:AW S y T)(e:A9 S S'):AW S' y T:=
 ⟨e _ _ h.inst,e _ _ h.ns,e _ _ h.rows,h.len,fun i r x hr hx=>(h.row i r x hr hx).sub e,h.nd⟩
noncomputable def Eu(T:List Nd):List Nat→List (Str×Str)→Prop
 |[],[]=>True
 |k::ks,p::ds=>(∃z,T[k]?=some z∧z.name=p.1∧z.val=p.2)∧Eu T ks ds
 |_,_=>False
noncomputable def NL(l:Sc)(k:Str):Sc:=l.filter fun p=>decide (p.1≠k)
theorem N1(l:Sc)(k:Str):Rr (DF l) k=DF (NL l k):=by
 unfold Rr NL DF;refine rr List.filter_map ?_;rfl
noncomputable def Cl(l:Sc)(p:Str×Str):Sc:=if p.2=("":Str)then(if(AG l p.1).isSome then NL l p.1 else l)else putS l p.1 p.2
noncomputable def withinL(l:Sc)(ds:List (Str×Str)):Sc:=ds.foldl Cl l
theorem DB{l:Sc}{k:Str}:(AG (DF l) k).isSome=(AG l k).isSome:=by exact rr (Dp ..) (rr Option.isSome_map rfl)
theorem RE(l:Sc)(k:Str):(NL l k).length≤l.length:=List.length_filter_le ..
theorem IR(l:Sc)(p:Str×Str):(Cl l p).length≤l.length+1:=by
 unfold Cl;split
 ·split
  ·exact Nat.le_succ_of_le (RE ..)
  ·exact Nat.le_succ _
 ·exact Jn ..
section
variable{c:Cx}{n:Nat}{S:AD}{Q:AV→AD→Prop}{y:Bg}{T:List Nd}
inductive Sn(S:AD)(T:List Nd)(x:Nd)(ds:List (Str×Str))(sc:Sc)(d e:Addr)(ρ0:AJ)(l:List Nat)(ρ:AJ)(S':AD):Prop
 |mk (ds' sc') (h0:Eu T l ds') (h1:sc'.length+l.length≤200) (h2:withinL sc' ds'=withinL sc ds) (h3:Kp ["node","prefix","uri"] ρ ρ0) (h4:A9 S S') (h5:S' d=some (.dict (DF sc'))) (h6:S' e=some (.list (x.nss.map natV)))
theorem Jw(F:Af c.K)(h:AW S y T)(hT:T.length≤1000){i:Nat}{x:Nd}(hx:T[i]?=some x){ds:List (Str×Str)}(hn:Eu T x.nss ds)(hl:x.nss.length≤100){a:Addr}{sc:Sc}(hs:S a=some (.dict (DF sc)))(hsl:sc.length≤100)
  (q:∀S' d,A9 S S'→S d=none→S' d=some (.dict (DF (withinL sc ds)))→Q (.ref d) S'):AM c (n+3) (.ref 133) [.ref y.t,natV i,.ref a] S Q:=by
 refine(AP F.GY (names:=["tree","element","scope"]) (by kernel_rfl) (fun _ _ _ _ _ _ _ _ s g=>.of_eq (by kernel_rfl)) (by decide+kernel) rfl (by kernel_rfl) ?_).call;intro L env hc he;refine Aa he (by kernel_rfl) ?_;refine Ap (id:="dict") F.L3 he (by kernel_rfl) ?_;refine An he (by kernel_rfl) (by rfl) ?_;refine Me hs (by unfold DF;exact rr (List.length_map ..) (NE hsl)) fun d hd=>?_;have hS1:A9 S (put S d (.dict (DF sc))):=(A9.refl S).put hd;have h1:=h.sub hS1;refine AH ?_;refine CF ?_;refine Cf F.Cr he (by kernel_rfl) (by rfl) h1.inst h1.ns (by rfl) ?_;refine An he (by kernel_rfl) (by rfl) ?_;refine Hg F h1 hT hx (by exact NE hl) fun e he1=>?_;have hed:e≠d:=Kf he1;refine⟨_,_,.list (.inl (AC ..)),?_⟩
 refine A7 (Sn S T x ds sc d e _)
  (fun l ρ S' hP=>by obtain⟨_,_,_,_,_,_,_,_,he2⟩:=hP;exact .inl he2) ?_ ?_ _ _ _ ⟨ds,sc,hn,by exact Vx hl hsl,rfl,Kp.refl _ _,((A9.refl S).put hd).trans fun b o q=>by rw[AA _ _ ((by first|exact As q he1|exact(As he1 q).symm))];exact q,by rw[AA _ _ hed.symm,AC],AC ..⟩
 ·rintro k l ρ S2 ⟨ds',sc',hn',hlen,hw,hkp,hS2,hd2,he2⟩
  match ds',hn' with
  |p::ds',hn'=>
  obtain⟨⟨z,hz,z1,z2⟩,hn'⟩:=hn';have h2:=h.sub hS2;refine BA he (by kernel_rfl) ?_;have kp1:=hkp.cons (x:="node") (v:=natV k) (by decide+kernel);refine AH ?_;refine Ds (BB he (by with_unfolding_all rfl)) ?_;refine Ch ?_;refine AK ?_;refine Cf F.Bi he (by kernel_rfl) ((kp1 "tree" (by decide+kernel)).trans (by rfl)) h2.inst h2.ns (by rfl) ?_;refine An he (by kernel_rfl) (by rfl) ?_;refine HN F h2 hT hz ?_;refine AK ?_;refine Cf F.Bm he (by kernel_rfl) ((kp1 "tree" (by decide+kernel)).trans (by rfl)) h2.inst h2.ns (by rfl) ?_;refine An he (by kernel_rfl) (by rfl) ?_;refine Gn F h2 hT hz ?_;refine AE ⟨ble rfl,?_⟩;refine⟨_,rfl,rfl,DC he (by kernel_rfl) (DC he (by kernel_rfl) (BR ?_))⟩;refine rr z1 (rr z2 ?_);have kp3:=(kp1.cons (x:="uri") (v:=.str p.2) (by decide+kernel)).cons (x:="prefix") (v:=.str p.1) (by decide+kernel);refine BG he (by kernel_rfl) (by rfl) ?_;refine Bl ⟨_,rfl,?_⟩
  have fin:∀S3:AD,A9 S S3→S3 d=some (.dict (DF (Cl sc' p)))→S3 e=some (.list (x.nss.map natV))→Sn S T x ds sc d e _ l _ S3:=
   fun S3 a1 a2 a3=>⟨ds',_,hn',by have:=IR sc' p;rw[List.length_cons]at hlen;exact SZ hlen this,hw,kp3,a1,a2,a3⟩
  refine⟨fun hb=>?_,fun hb=>?_⟩
  ·have h0:¬p.2=("":Str):=by simpa using hb
   refine AH ?_;refine Di ?_;refine AB he (by kernel_rfl) (by rfl) ?_;refine AB he (by kernel_rfl) ((kp3 "found" (by decide+kernel)).trans (by rfl)) ?_;refine AB he (by kernel_rfl) (by rfl) ?_;refine Lj hd2 (by unfold DF;exact rr (List.length_map ..) (TZ hlen)) ?_;refine Ad ?_;refine fin _ (hS2.put hd) ?_ ?_
   ·refine rr (AC ..) (rr (Lo ..) ?_);unfold Cl;exact rr (if_neg h0) rfl
   ·exact rr (AA _ _ hed) he2
  ·have h0:p.2=("":Str):=by simpa using hb
   refine BC ?_;refine AB he (by kernel_rfl) (by rfl) ?_;refine AB he (by kernel_rfl) ((kp3 "found" (by decide+kernel)).trans (by rfl)) ?_;refine IQ hd2 ⟨_,rfl,?_⟩;refine rr DB ?_;refine⟨fun hb=>?_,fun hb=>?_⟩
   ·obtain⟨u,hu⟩:=Option.isSome_iff_exists.mp hb;refine AH ?_;refine Av he ?_;refine AY OZ ?_;refine AB he (by kernel_rfl) ((kp3 "found" (by decide+kernel)).trans (by rfl)) ?_;refine⟨.inr ⟨_,hd2,rfl⟩,?_⟩;refine An he (by kernel_rfl) (by rfl) ?_;refine OV hd2 (x:=.str u) (by refine rr (Dp ..) (rr hu ?_);rfl) (by unfold DF;exact rr (List.length_map ..) (TZ hlen)) ?_;refine Ad ?_;refine AQ ?_;refine fin _ (hS2.put hd) ?_ ?_
    ·refine rr (AC ..) (rr (N1 ..) ?_);unfold Cl;exact rr (if_pos h0) (rr (if_pos hb) rfl)
    ·exact rr (AA _ _ hed) he2
   ·refine Ad ?_;refine AQ ?_;refine fin _ hS2 ?_ he2;refine rr hd2 ?_;unfold Cl;exact rr (if_pos h0) (rr (if_neg (by rw[hb];exact Bool.false_ne_true)) rfl)
 ·rintro ρ S2 ⟨ds',sc',hn',hlen,hw,hkp,hS2,hd2,he2⟩
  match ds',hn' with
  |[],hn'=>
  refine AQ ?_;refine Ae ?_;refine AB he (by kernel_rfl) ((hkp "found" (by decide+kernel)).trans (by rfl)) ?_;exact q S2 d hS2 hd (by exact rr hd2 (congrArg (fun z=>some (AO.dict (DF z))) hw))
end
section
variable{c:Cx}{n:Nat}{S:AD}{Q:AV→AD→Prop}{y:Bg}{T:List Nd}
inductive ZE(S:AD)(i r:Nat)(d:Addr)(ρ0:AJ)(k:Nat)(ρ:AJ)(S':AD):Prop
 |mk (o:Option Nat) (l:List Nat) (h0:((k=2∧o=some i∧l=[])∨(k=1∧o=some r∧l=[i])∨(k=0∧o=none∧l=[i,r]))) (h1:AG ρ "node"=some (EK o)) (h2:Kp ["node"] ρ ρ0) (h3:A9 S S') (h4:S' d=some (.list (l.map natV)))
theorem Lr(F:Af c.K)(h:AW S y T)(hT:T.length≤1000){i r:Nat}{x w:Nd}(hx:T[i]?=some x)(hp:x.par=some r)(hw:T[r]?=some w)(hp2:w.par=none)
  (q:∀S' d,A9 S S'→S d=none→S' d=some (.list ([r,i].map natV))→Q (.ref d) S'):AM c (n+3) (.ref 72) [.ref y.t,natV i] S Q:=by
 refine(AP F.IA (names:=["tree","node"]) (by kernel_rfl) (fun _ _ _ _ _ _ _ _ s g=>.of_eq (by kernel_rfl)) (by decide+kernel) rfl (by kernel_rfl) ?_).call;intro L env hc he;refine Aa he (by kernel_rfl) ?_;refine Aw ?_;refine AE ⟨ble rfl,fun d hd=>?_⟩;refine AH ?_
 refine JN (ZE S i r d _) 2
  ⟨some i,[],.inl ⟨rfl,rfl,rfl⟩,by rfl,Kp.refl _ _,(A9.refl S).put hd,AC ..⟩ ?_
 rintro k ρ S2 ⟨o,l,hcs,hno,hkp,hS2,hd2⟩;have h2:=h.sub hS2;refine N0 he (by kernel_rfl) hno ?_;refine Dl ?_;refine De ⟨_,rfl,?_⟩
 have body:∀(j:Nat) (z:Nd),o=some j→T[j]?=some z→l.length≤5→∀Q2:AF→AJ→AD→Prop,(∀ρ3 S3,AG ρ3 "node"=some (EK z.par)→Kp ["node"] ρ3 ρ→A9 S S3→S3 d=some (.list ((l++[j]).map natV))→Q2 .nx ρ3 S3)→
   Ok c (n+2) L RF (execs (match R6 (dBody (FD 7)) 1 with|.While _ b _ _=>b|_=>[]) env) ρ S2 Q2:=by
  intro j z e1 e2 e3 Q2 hq;subst e1;refine AH ?_;refine Av he ?_;refine AY Al ?_;refine AB he (by kernel_rfl) ((hkp "found" (by decide+kernel)).trans (by rfl)) ?_;refine⟨.inl ⟨_,hd2,rfl⟩,?_⟩;refine An he (by kernel_rfl) (Cv hno (by rfl)) ?_;refine Ar hd2 (lm (V2 e3)) ?_;have hS3:A9 S (put S2 d (.list (l.map natV++[EK (some j)]))):=hS2.put hd;have h3:=h.sub hS3;refine Aa he (by kernel_rfl) ?_;refine Cf F.Er he (by kernel_rfl) ((hkp "tree" (by decide+kernel)).trans (by rfl)) h3.inst h3.ns (by rfl) ?_;refine An he (by kernel_rfl) (Cv hno (by rfl)) ?_;refine M5 F h3 hT e2 ?_;refine AQ ?_;refine hq _ _ (by rfl) ((Kp.refl _ _).cons (by decide+kernel)) hS3 ?_;refine rr (AC ..) (rr List.map_append ?_);rfl
 rcases hcs with⟨rfl,e1,rfl⟩|⟨rfl,e1,rfl⟩|⟨rfl,e1,rfl⟩
 ·refine⟨fun _=>?_,fun hb=>absurd hb (by refine rr e1 ?_;simp[RV,EK,natV])⟩;refine body i x e1 hx (ble rfl) _ fun ρ3 S3 a1 a2 a3 a4=>⟨1,by exact ez,some r,[i],.inr (.inl ⟨rfl,rfl,rfl⟩),by exact rr a1 (rr hp rfl),fun k hk=>(a2 k hk).trans (hkp k hk),a3,a4⟩
 ·refine⟨fun _=>?_,fun hb=>absurd hb (by refine rr e1 ?_;simp[RV,EK,natV])⟩;refine body r w e1 hw (ble rfl) _ fun ρ3 S3 a1 a2 a3 a4=>⟨0,by exact fB,none,[i,r],.inr (.inr ⟨rfl,rfl,rfl⟩),by exact rr a1 (rr hp2 rfl),fun k hk=>(a2 k hk).trans (hkp k hk),a3,a4⟩
 ·refine⟨fun hb=>absurd hb (by refine rr e1 ?_;simp[RV,EK]),fun _=>?_⟩;refine AQ ?_;refine Ae ?_;refine Hk he (by kernel_rfl) ((hkp "found" (by decide+kernel)).trans (by rfl)) ?_;refine Aj ?_;refine Aj ?_;refine Az ?_;refine Fg ?_;refine AS ?_;refine Db ?_;refine⟨_,_,_,rfl,rfl,rfl,?_⟩;refine CJ (T:="list") (.inl ⟨_,hd2,rfl⟩) slot_list_getitem.lookup ?_ _ (fun _ _=>rfl);refine JG hd2 (ble rfl) fun d2 hd3=>?_;exact q _ d2 (hS2.put (hS2.none hd3)) (hS2.none hd3) (AC ..)
noncomputable def QD(T:List Nd):List Nat→List (List (Str×Str))→Prop
 |[],[]=>True
 |k::ks,ds::dss=>(∃z,T[k]?=some z∧Eu T z.nss ds∧z.nss.length≤100)∧QD T ks dss
 |_,_=>False
inductive TG(S:AD)(T:List Nd)(i r:Nat)(ds:List (Str×Str))(d f:Addr)(l:List Nat)(dss:List (List (Str×Str)))(z:Nd)(e:Addr)(ρ0:AJ)(l2:List Nat)(ρ:AJ)(S':AD):Prop
 |mk (ds' sc'') (h0:Eu T l2 ds') (h1:sc''.length+l2.length+100*l.length≤300) (h2:withinL sc'' (ds'++dss.flatten)=withinL [("xml","http://www.w3.org/XML/1998/namespace")] ds) (h3:Kp ["node","prefix","uri","above"] ρ ρ0) (h4:A9 S S') (h5:S' d=some (.dict (DF sc''))) (h6:S' f=some (.list ([r,i].map natV))) (h7:S' e=some (.list (z.nss.map natV)))
inductive ZW(S:AD)(T:List Nd)(i r:Nat)(ds:List (Str×Str))(d f:Addr)(ρ0:AJ)(l:List Nat)(ρ:AJ)(S':AD):Prop
 |mk (dss sc') (h0:QD T l dss) (h1:sc'.length+100*l.length≤300) (h2:withinL sc' dss.flatten=withinL [("xml","http://www.w3.org/XML/1998/namespace")] ds) (h3:Kp ["node","prefix","uri","above"] ρ ρ0) (h4:A9 S S') (h5:S' d=some (.dict (DF sc'))) (h6:S' f=some (.list ([r,i].map natV)))
theorem NJ(F:Af c.K)(h:AW S y T)(hT:T.length≤1000){i r:Nat}{x w:Nd}(hx:T[i]?=some x)(hp:x.par=some r)(hw:T[r]?=some w)(hp2:w.par=none)(hwn:w.nss=[]){ds:List (Str×Str)}(hn:Eu T x.nss ds)(hl:x.nss.length≤100)
  (q:∀S' d,A9 S S'→S d=none→S' d=some (.dict (DF (withinL [("xml","http://www.w3.org/XML/1998/namespace")] ds)))→Q (.ref d) S'):AM c (n+4) (.ref 79) [.ref y.t,natV i] S Q:=by
 refine(AP F.KO (names:=["tree","element"]) (by kernel_rfl) (fun _ _ _ _ _ _ _ _ s g=>.of_eq (by kernel_rfl)) (by decide+kernel) rfl (by kernel_rfl) ?_).call;intro L env hc he;refine Aa he (by kernel_rfl) ?_;refine Lk ?_;refine KH F.DT he (by kernel_rfl) ?_;intro d hd;refine AH ?_;refine CF ?_;refine AL F.H8 F.Hz he (by kernel_rfl) ?_;refine An he (by kernel_rfl) (by rfl) ?_;refine Lr F (h.sub ((A9.refl S).put hd)) hT hx hp hw hp2 fun S1 f hS1 hf hf1=>?_;have hS1':A9 S S1:=((A9.refl S).put hd).trans hS1;have hfd:f≠d:=Kf hf;have hd1:S1 d=some (.dict (DF [("xml","http://www.w3.org/XML/1998/namespace")])):=hS1 _ _ (AC ..);refine⟨_,_,.list (.inl hf1),?_⟩
 refine A7 (ZW S T i r ds d f _)
  (fun l ρ S' hP=>by obtain⟨_,_,_,_,_,_,_,_,he2⟩:=hP;exact .inl he2) ?_ ?_ _ _ _ ⟨[[],ds],_,⟨⟨w,hw,by exact rr hwn (⟨trivial,ble rfl⟩)⟩,⟨⟨x,hx,hn,hl⟩,trivial⟩⟩,ble rfl,by simp,Kp.refl _ _,hS1',hd1,hf1⟩
 ·rintro a l ρ S2 ⟨dss,sc',hn',hlen,hwi,hkp,hS2,hd2,hf2⟩
  match dss,hn' with
  |ds1::dss,hn'=>
  obtain⟨⟨z,hz,hzn,hzl⟩,hn'⟩:=hn';have h2:=h.sub hS2;rw[List.length_cons]at hlen;refine BA he (by kernel_rfl) ?_;have kp1:=hkp.cons (x:="above") (v:=natV a) (by decide+kernel);refine AH ?_;refine CF ?_;refine Cf F.Cr he (by kernel_rfl) ((kp1 "tree" (by decide+kernel)).trans (by rfl)) h2.inst h2.ns (by rfl) ?_;refine An he (by kernel_rfl) (by rfl) ?_;refine Hg F h2 hT hz (by exact NE hzl) fun e he1=>?_;have hed:e≠d:=(by first|exact As he1 hd2|exact(As hd2 he1).symm)
  have hef:e≠f:=(by first|exact As he1 hf2|exact(As hf2 he1).symm)
  refine⟨_,_,.list (.inl (AC ..)),?_⟩
  refine A7 (TG S T i r ds d f l dss z e _)
   (fun l ρ S' hP=>by obtain⟨_,_,_,_,_,_,_,_,_,he2⟩:=hP;exact .inl he2) ?_ ?_ _ _ _ ⟨ds1,sc',hzn,by exact Wt hlen hzl,by rw[List.flatten_cons]at hwi;exact hwi,kp1,hS2.put (hS2.none he1),by rw[AA _ _ hed.symm];exact hd2,by rw[AA _ _ hef.symm];exact hf2,AC ..⟩
  ·rintro k l2 ρ S2 ⟨ds',sc',hn2,hlen,hwi,hkp,hS2,hd2,hf2,he2⟩
   match ds',hn2 with
   |p::ds',hn2=>
   obtain⟨⟨zz,hz,z1,z2⟩,hn2⟩:=hn2;have h2:=h.sub hS2;refine BA he (by kernel_rfl) ?_;have kp1:=hkp.cons (x:="node") (v:=natV k) (by decide+kernel);refine AH ?_;refine Ds (BB he (by with_unfolding_all rfl)) ?_;refine Ch ?_;refine AK ?_;refine Cf F.Bi he (by kernel_rfl) ((kp1 "tree" (by decide+kernel)).trans (by rfl)) h2.inst h2.ns (by rfl) ?_;refine An he (by kernel_rfl) (by rfl) ?_;refine HN F h2 hT hz ?_;refine AK ?_;refine Cf F.Bm he (by kernel_rfl) ((kp1 "tree" (by decide+kernel)).trans (by rfl)) h2.inst h2.ns (by rfl) ?_;refine An he (by kernel_rfl) (by rfl) ?_;refine Gn F h2 hT hz ?_;refine AE ⟨ble rfl,?_⟩;refine⟨_,rfl,rfl,DC he (by kernel_rfl) (DC he (by kernel_rfl) (BR ?_))⟩;refine rr z1 (rr z2 ?_);have kp3:=(kp1.cons (x:="uri") (v:=.str p.2) (by decide+kernel)).cons (x:="prefix") (v:=.str p.1) (by decide+kernel);refine BG he (by kernel_rfl) (by rfl) ?_;refine Bl ⟨_,rfl,?_⟩
   have fin:∀S3:AD,A9 S S3→S3 d=some (.dict (DF (Cl sc' p)))→S3 f=some (.list ([r,i].map natV))→S3 e=some (.list (z.nss.map natV))→TG S T i r ds d f l dss z e _ l2 _ S3:=
    fun S3 a1 a2 a4 a3=>⟨ds',_,hn2,by have:=IR sc' p;rw[List.length_cons]at hlen;exact bO hlen this,hwi,kp3,a1,a2,a4,a3⟩
   refine⟨fun hb=>?_,fun hb=>?_⟩
   ·have h0:¬p.2=("":Str):=by simpa using hb
    refine AH ?_;refine Di ?_;refine AB he (by kernel_rfl) (by rfl) ?_;refine AB he (by kernel_rfl) ((kp3 "found" (by decide+kernel)).trans (by rfl)) ?_;refine AB he (by kernel_rfl) (by rfl) ?_;refine Lj hd2 (by unfold DF;exact rr (List.length_map ..) (Sd hlen)) ?_;refine Ad ?_;refine fin _ (hS2.put hd) ?_ ?_ ?_
    ·refine rr (AC ..) (rr (Lo ..) ?_);unfold Cl;exact rr (if_neg h0) rfl
    ·exact rr (AA _ _ hfd) hf2
    ·exact rr (AA _ _ hed) he2
   ·have h0:p.2=("":Str):=by simpa using hb
    refine BC ?_;refine AB he (by kernel_rfl) (by rfl) ?_;refine AB he (by kernel_rfl) ((kp3 "found" (by decide+kernel)).trans (by rfl)) ?_;refine IQ hd2 ⟨_,rfl,?_⟩;refine rr DB ?_;refine⟨fun hb=>?_,fun hb=>?_⟩
    ·obtain⟨u,hu⟩:=Option.isSome_iff_exists.mp hb;refine AH ?_;refine Av he ?_;refine AY OZ ?_;refine AB he (by kernel_rfl) ((kp3 "found" (by decide+kernel)).trans (by rfl)) ?_;refine⟨.inr ⟨_,hd2,rfl⟩,?_⟩;refine An he (by kernel_rfl) (by rfl) ?_;refine OV hd2 (x:=.str u) (by refine rr (Dp ..) (rr hu ?_);rfl) (by unfold DF;exact rr (List.length_map ..) (Sd hlen)) ?_;refine Ad ?_;refine AQ ?_;refine fin _ (hS2.put hd) ?_ ?_ ?_
     ·refine rr (AC ..) (rr (N1 ..) ?_);unfold Cl;exact rr (if_pos h0) (rr (if_pos hb) rfl)
     ·exact rr (AA _ _ hfd) hf2
     ·exact rr (AA _ _ hed) he2
    ·refine Ad ?_;refine AQ ?_;refine fin _ hS2 ?_ hf2 he2;refine rr hd2 ?_;unfold Cl;exact rr (if_pos h0) (rr (if_neg (by rw[hb];exact Bool.false_ne_true)) rfl)
  ·rintro ρ S2 ⟨ds',sc',hn2,hlen,hwi,hkp,hS2,hd2,hf2,he2⟩
   match ds',hn2 with
   |[],hn2=>
   refine Ad ?_;exact⟨dss,sc',hn',by rw[List.length_nil]at hlen;exact VM hlen,hwi,hkp,hS2,hd2,hf2⟩
 ·rintro ρ S2 ⟨dss,sc',hn',hlen,hwi,hkp,hS2,hd2,hf2⟩
  match dss,hn' with
  |[],hn'=>
  refine AQ ?_;refine Ae ?_;refine AB he (by kernel_rfl) ((hkp "found" (by decide+kernel)).trans (by rfl)) ?_;exact q S2 d hS2 hd (by exact rr hd2 (congrArg (fun z=>some (AO.dict (DF z))) hwi))
end
noncomputable def R0(a b:Str):Prop:=a.cps.toList≤b.cps.toList
noncomputable def PC(x:Str):List Str→List Str
 |[]=>[x]
 |y::l=>if ltCps y.cps.toList x.cps.toList then y::PC x l else x::y::l
noncomputable def Ci:List Str→List Str
 |[]=>[]
 |x::l=>PC x (Ci l)
theorem QK{a b:Str}(h:ltCps b.cps.toList a.cps.toList=false):R0 a b:=by
 rw[ltCps_eq]at h;exact List.not_lt.mp (of_decide_eq_false h)
theorem insK_perm(x:Str)(l:List Str):(PC x l).Perm (x::l):=by
 induction l with
 |nil=>exact .refl _
 |cons y l ih=>
  unfold PC;split
  ·exact(ih.cons y).trans (List.Perm.swap x y l)
  ·exact .refl _
theorem Dm(l:List Str):(Ci l).Perm l:=by
 induction l with
 |nil=>exact .refl _
 |cons x l ih=>exact(insK_perm x _).trans (ih.cons x)
theorem L9{x:Str}{l:List Str}(h:l.Pairwise R0):(PC x l).Pairwise R0:=by
 induction l with
 |nil=>exact List.pairwise_singleton ..
 |cons y l ih=>
  rw[List.pairwise_cons]at h;unfold PC
  cases q:ltCps y.cps.toList x.cps.toList with
  |true=>
   refine rr (if_pos rfl) ?_;rw[List.pairwise_cons];refine⟨fun z hz=>?_,ih h.2⟩;rcases List.mem_cons.mp ((insK_perm x l).mem_iff.mp hz)with rfl|hz
   ·rw[ltCps_eq]at q;exact List.not_lt.mp (List.lt_asymm (of_decide_eq_true q))
   ·exact h.1 z hz
  |false=>
   refine rr (if_neg Bool.false_ne_true) ?_;rw[List.pairwise_cons,List.pairwise_cons];have hxy:=QK q;refine⟨fun z hz=>?_,h⟩;rcases List.mem_cons.mp hz with rfl|hz
   ·exact hxy
   ·exact List.le_trans hxy (h.1 z hz)
theorem Fe(l:List Str):(Ci l).Pairwise R0:=by
 induction l with
 |nil=>exact .nil
 |cons x l ih=>exact L9 ih
theorem NZ{l:List Str}:∀{p:Str},risingS p l=true→(p::l).Pairwise R0:=by
 induction l with
 |nil=>intro p _;exact List.pairwise_singleton ..
 |cons x l ih=>
  intro p h;unfold risingS at h;rw[Bool.and_eq_true]at h;have h2:=ih h.2;have h1:R0 p x:=QK (by simpa using h.1);rw[List.pairwise_cons];refine⟨fun z hz=>?_,h2⟩;rcases List.mem_cons.mp hz with rfl|hz
  ·exact h1
  ·exact List.le_trans h1 ((List.pairwise_cons.mp h2).1 z hz)
theorem No{l:List Str}(h:sortedS l=true):l.Pairwise R0:=by
 cases l with
 |nil=>exact .nil
 |cons x l=>exact NZ h
theorem Str.ext'{a b:Str}(h:a.cps.toList=b.cps.toList):a=b:=by
 obtain⟨⟨a⟩⟩:=a;obtain⟨⟨b⟩⟩:=b;exact congrArg (fun l=>Str.mk ⟨l⟩) h
theorem Jv{l l':List Str}(hp:l'.Perm l)(hs:sortedS l'=true):l'=Ci l:=
 List.Perm.eq_of_pairwise (le:=R0) (fun a b _ _ h1 h2=>Str.ext' (List.le_antisymm h1 h2)) (No hs) (Fe l) (hp.trans (Dm l).symm)
noncomputable def Sk(p:Str):Str:=if p=("":Str)then(" xmlns":Str)else(" xmlns:":Str)++p
noncomputable def OI(p u:Str):Str:=Sk p++("=\"":Str)++DE u++("\"":Str)
noncomputable def Gu(sc kn:Sc)(p:Str):Str:=
 if p=("xml":Str)∨AG kn p=AG sc p then("":Str)else OI p ((AG sc p).getD ("":Str))
noncomputable def FW(sc kn:Sc):Str:=if(AG kn ("":Str)).isSome&&!(AG sc ("":Str)).isSome then(" xmlns=\"\"":Str)else("":Str)
noncomputable def K9(sc kn:Sc):Str:=(Ci (sc.map (·.1))).foldl (fun acc p=>acc++Gu sc kn p) (FW sc kn)
theorem E6(x y z:Str):x++y++z=x++(y++z):=congrArg Str.mk (Array.append_assoc ..)
theorem R5(x:Str):x++("":Str)=x:=by
 have:("":Str).cps=#[]:=by decide+kernel
 show Str.mk (x.cps++("":Str).cps)=x;exact rr this (rr Array.append_empty rfl)
structure Ra(sc:Sc):Prop where
 len:sc.length≤30
 ok:∀p∈sc,p.1.length≤100∧CN p.2 CM∧(DE p.2).length≤1000
theorem GJ{sc:Sc}{p:Str}(h:p∈sc.map (·.1)):∃u,AG sc p=some u:=by
 induction sc with
 |nil=>cases h
 |cons q l ih=>
  obtain⟨a,b⟩:=q;refine rr (AN ..) ?_;by_cases e:a=p
  ·exact⟨b,if_pos e⟩
  ·refine rr (if_neg e) ?_;rcases List.mem_cons.mp h with h|h
   ·exact absurd h.symm e
   ·exact ih h
section
variable{c:Cx}{n:Nat}{S:AD}{Q:AV→AD→Prop}
theorem Ok.val{α β:Type}{L:BU}{rel:Ao→α→β→Prop}{t:Sem α}{ρ:AJ}{Q:β→AJ→AD→Prop}(v:β)(h:Ok c n L rel t ρ S (fun b ρ' S'=>b=v∧ρ'=ρ∧S'=S))(q:Q v ρ S):Ok c n L rel t ρ S Q:=
 h.mono fun b ρ' S' ⟨e1,e2,e3⟩=>by subst e1;subst e2;subst e3;exact q
inductive ar(S:AD)(sc kn:Sc)(ρ0:AJ)(d:Addr)(l:List Str)(ρ:AJ)(S':AD):Prop
 |mk (f:Str) (h0:AG ρ "found"=some (.str f)) (h1:f.length+2000*l.length≤9+2000*(Ci (sc.map (·.1))).length) (h2:l.foldl (fun acc p=>acc++Gu sc kn p) f=K9 sc kn) (h3:(∀p∈l,p∈sc.map (·.1))) (h4:Kp ["prefix","name","found"] ρ ρ0) (h5:S'=put S d (.list ((Ci (sc.map (·.1))).map .str)))
theorem L1(F:Af c.K){a b:Addr}{sc kn:Sc}(ha:S a=some (.dict (DF sc)))(hb:S b=some (.dict (DF kn)))(ok:Ra sc)
  (q:∀S',A9 S S'→Q (.str (K9 sc kn)) S'):AM c (n+3) (.ref 114) [.ref a,.ref b] S Q:=by
 refine(AP F.H5 (names:=["scope","known"]) (by kernel_rfl) (fun _ _ _ _ _ _ _ _ s g=>.of_eq (by kernel_rfl)) (by decide+kernel) rfl (by kernel_rfl) ?_).call;intro L env hc he;have z1:(" xmlns":Str).length=6:=by decide+kernel
 have z2:(" xmlns:":Str).length=7:=by decide+kernel
 have z3:("=\"":Str).length=2:=by decide+kernel
 have z4:("\"":Str).length=1:=by decide+kernel
 have z5:(" xmlns=\"\"":Str).length=9:=by decide+kernel
 have z6:("":Str).length=0:=by decide+kernel
 refine Aa he (by kernel_rfl) ?_;refine AT ?_;refine HC ?_;refine Ok.val (((AG kn ("":Str)).isSome&&!(AG sc ("":Str)).isSome)) ?_ ?_
 ·refine HV ?_;refine Fs ?_;refine Ck ?_;refine AT ?_;refine AB he (by kernel_rfl) (by rfl) ?_;refine IQ hb ⟨_,rfl,?_⟩;refine rr DB ?_;refine⟨fun hb1=>?_,fun hb1=>⟨by refine rr hb1 ?_;rfl,rfl,rfl⟩⟩;refine Fs ?_;refine Ck ?_;refine AT ?_;refine AB he (by kernel_rfl) (by rfl) ?_;refine Ox ha ⟨_,rfl,?_⟩;refine rr DB ?_;refine⟨fun hb2=>Gp ⟨by refine rr hb1 (rr hb2 ?_);rfl,rfl,rfl⟩,fun hb2=>⟨by refine rr hb1 (rr hb2 ?_);rfl,rfl,rfl⟩⟩
 have rest:∀ρ0:AJ,AG ρ0 "found"=some (.str (FW sc kn))→AG ρ0 "scope"=some (.ref a)→AG ρ0 "known"=some (.ref b)→(FW sc kn).length≤9→
   Sq c (n+2) L env (dBody (FD 14)).tail.tail (Fin Q) .nx ρ0 S:=by
  intro ρ0 e1 e2 e3 hpl;refine AH ?_;refine CF ?_;refine Ob (id:="sorted") F.H0 he (by kernel_rfl) ?_;refine An he (by kernel_rfl) (Cv e2 (by rfl)) ?_;have hl:=ok.len;refine Nq ha (by unfold DF;exact rr (List.length_map ..) (dM hl)) fun d l' hd hp hso=>?_;have hkeys:(DF sc).map (·.1)=sc.map (·.1):=by unfold DF;refine rr List.map_map ?_;rfl
  rw[hkeys]at hp;have hlu:=Jv hp hso;subst hlu;refine⟨_,_,.list (.inl (AC ..)),?_⟩;have hda:a≠d:=(by first|exact As ha hd|exact(As hd ha).symm)
  have hdb:b≠d:=(by first|exact As hb hd|exact(As hd hb).symm)
  refine A7 (f:=AV.str) (ar S sc kn ρ0 d)
   (fun l ρ S' hP=>by obtain⟨_,_,_,_,_,_,rfl⟩:=hP;exact .inl (AC ..)) ?_ ?_ _ _ _ ⟨_,e1,by exact Vr hpl,rfl,fun p hp=>(Dm _).mem_iff.mp hp,Kp.refl _ _,rfl⟩
  ·rintro p l ρ _ ⟨f,hf,hlen,hfo,hin,hkp,rfl⟩;obtain⟨u,hu⟩:=GJ (hin p (.head _));obtain⟨o1,o2,o3⟩:=ok.ok (p,u) (look_mem hu);have hnl:(Ci (sc.map (·.1))).length≤30:=by exact rr ((Dm _).length_eq) (rr (List.length_map ..) hl)
   rw[List.length_cons]at hlen;have hA:put S d (.list ((Ci (sc.map (·.1))).map AV.str)) a=some (.dict (DF sc)):=(AA _ _ hda).trans ha;have hB:put S d (.list ((Ci (sc.map (·.1))).map AV.str)) b=some (.dict (DF kn)):=(AA _ _ hdb).trans hb;refine BA he (by kernel_rfl) ?_;have kp1:=hkp.cons (x:="prefix") (v:=.str p) (by decide+kernel);refine HC ?_;refine Ok.val ((!decide (p=("xml":Str)∨AG kn p=AG sc p))) ?_ ?_
   ·refine HV ?_;refine Fs ?_;refine N0 he (by kernel_rfl) (by rfl) ?_;refine AT ?_;refine Bl ⟨_,rfl,?_⟩;refine⟨fun hb1=>?_,fun hb1=>?_⟩;rotate_left
    ·have:p=("xml":Str):=by simpa using hb1
     exact⟨by simp[this],rfl,rfl⟩
    have hx:¬p=("xml":Str):=by simpa using hb1
    refine Fs ?_;refine Ck ?_;refine AY OT ?_;refine AB he (by kernel_rfl) ((kp1 "known" (by decide+kernel)).trans e3) ?_;refine⟨.inr ⟨_,hB,rfl⟩,?_⟩;refine An he (by kernel_rfl) (by rfl) ?_;refine OM hB ?_;refine JC he (by kernel_rfl) ((kp1 "scope" (by decide+kernel)).trans e2) ?_;refine AB he (by kernel_rfl) (by rfl) ?_;refine CJ (T:="dict") (.inr (.inr ⟨_,hA,rfl⟩)) slot_dict_getitem.lookup ?_ _ (fun _ _=>rfl);refine Ja hA (x:=.str u) (by refine rr (Dp ..) (rr hu ?_);rfl) ?_;refine rr (Dp ..) ?_
    cases hk:AG kn p with
    |none=>
     refine SY ⟨_,rfl,?_⟩;refine⟨fun _=>Gp ⟨by simp[hx,hu],rfl,rfl⟩,fun hb=>tf hb⟩
    |some v=>
     refine Bl ⟨_,rfl,?_⟩;refine⟨fun hb2=>Gp ⟨?_,rfl,rfl⟩,fun hb2=>⟨?_,rfl,rfl⟩⟩
     ·have:¬v=u:=by simpa using hb2
      simp[hx,hu,this]
     ·have:v=u:=by simpa using hb2
      simp[hu,this]
   refine⟨fun hb=>?_,fun hb=>?_⟩
   ·have hcond:¬(p=("xml":Str)∨AG kn p=AG sc p):=by simpa using hb
    refine Aa he (by kernel_rfl) ?_;refine Ok.val (.str (Sk p)) ?_ ?_
    ·refine Dz ?_;refine N0 he (by kernel_rfl) (by rfl) ?_;refine AT ?_;refine AZ ⟨_,rfl,?_⟩;refine⟨fun hb=>?_,fun hb=>?_⟩
     ·refine AT ⟨?_,rfl,rfl⟩;unfold Sk;exact rr (if_pos (of_decide_eq_true hb)) rfl
     ·refine Ab ?_;refine AT ?_;refine AB he (by kernel_rfl) (by rfl) ?_;refine Aq ⟨?_,rfl,rfl⟩ (by exact rr sizeLine_eq (rr z2 (Nat.le_trans (Nat.add_le_add_left o1 _) (by exact cS))));unfold Sk;exact rr (if_neg (of_decide_eq_false hb)) rfl
    have hnm:(Sk p).length≤107:=by
     unfold Sk;split
     ·exact rr z1 dE
     ·exact rr (AX ..) (rr z2 (Nat.le_trans (Nat.add_le_add_left o1 _) (by exact eH)))
    have kp2:=kp1.cons (x:="name") (v:=.str (Sk p)) (by decide+kernel)
    have hff:AG (((("name":Str),AV.str (Sk p))::(("prefix":Str),AV.str p)::ρ)) ("found":Str)=some (.str f):=by
     exact rr (AN ..) (rr (if_neg (by decide+kernel)) (rr (AN ..) (rr (if_neg (by decide+kernel)) hf)))
    have o3':(Es u CM).length≤1000:=o3;refine Aa he (by kernel_rfl) ?_;refine Ab ?_;refine Ab ?_;refine Ab ?_;refine JD he (by kernel_rfl) hff ?_;refine AB he (by kernel_rfl) (by rfl) ?_;refine Aq ?_ (Uw (Wz hlen hnl hnm));refine AT ?_;refine Aq ?_ (by exact rr sizeLine_eq (rr (AX ..) (rr z3 (cB hlen hnl hnm))));refine AL F.Cq F.Cu he (by kernel_rfl) ?_;refine Br ?_;refine AB he (by kernel_rfl) ((kp2 "scope" (by decide+kernel)).trans e2) ?_;refine AB he (by kernel_rfl) (by rfl) ?_;refine CJ (T:="dict") (.inr (.inr ⟨_,hA,rfl⟩)) slot_dict_getitem.lookup ?_ _ (fun _ _=>rfl);refine Ja hA (x:=.str u) (by refine rr (Dp ..) (rr hu ?_);rfl) ?_;refine AE ?_;refine ES F o2 ?_;refine Aq ?_ (by exact rr sizeLine_eq (rr (AX ..) (rr (AX ..) (rr z3 (VQ hlen hnl hnm o3')))));refine AT ?_;refine Aq ?_ (by exact rr sizeLine_eq (rr (AX ..) (rr (AX ..) (rr (AX ..) (rr z3 (rr z4 (YY hlen hnl hnm o3')))))));refine Ad ?_;have hone:Gu sc kn p=OI p u:=by unfold Gu;refine rr (if_neg hcond) (rr hu ?_);rfl
    refine⟨_,by rfl,?_,?_,fun p hp=>hin p (.tail _ hp),kp2.cons (by decide+kernel),rfl⟩
    ·exact rr (AX ..) (rr (AX ..) (rr (AX ..) (rr (AX ..) (rr z3 (rr z4 (XI hlen hnm o3'))))))
    ·refine rl hfo (rr List.foldl_cons (rr hone ?_))
     congr 1
     unfold OI;rw[E6,E6,E6,E6,E6];rfl
   ·have hcond:p=("xml":Str)∨AG kn p=AG sc p:=Classical.byContradiction fun w=>by rw[decide_eq_false w]at hb;cases hb
    refine Ad ?_;have hone:Gu sc kn p=("":Str):=by unfold Gu;rw[if_pos hcond]
    refine⟨f,?_,by exact YU hlen,?_,fun p hp=>hin p (.tail _ hp),kp1,rfl⟩
    ·rw[AN,if_neg (by decide+kernel)];exact hf
    ·rw[←hfo,List.foldl_cons,hone,R5]
  ·rintro ρ _ ⟨f,hf,hlen,hfo,hin,hkp,rfl⟩;refine AQ ?_;refine Ae ?_;refine AB he (by kernel_rfl) hf ?_;have h:=q _ ((A9.refl S).put (o:=.list ((Ci (sc.map (·.1))).map AV.str)) hd);rw[←hfo]at h;exact h
 refine⟨fun hb=>?_,fun hb=>?_⟩
 ·have hpre:FW sc kn=(" xmlns=\"\"":Str):=by unfold FW;rw[hb];rfl
  refine Aa he (by kernel_rfl) ?_;refine AT ?_;refine AQ ?_;exact rest _ (by rw[hpre];rfl) (by rfl) (by rfl) (by rw[hpre,z5];exact Nat.le_refl _)
 ·have hpre:FW sc kn=("":Str):=by unfold FW;rw[hb];rfl
  refine AQ ?_;exact rest _ (by rw[hpre];rfl) (by rfl) (by rfl) (by rw[hpre,z6];exact fQ)
end
section
variable{α:Type}{c:Cx}{n:Nat}{S:AD}{L:BU}{ρ:AJ}{env:Env}
theorem LE.mono{K K':Bool→AD→Prop}{ifs:List Expr}(h:LE c n L env ρ S K ifs)(hk:∀b S,K b S→K' b S):LE c n L env ρ S K' ifs:=by
 cases ifs with
 |nil=>exact hk _ _ h
 |cons t r=>
  cases r with
  |nil=>exact Ok.mono h fun b ρ' S' q=>⟨q.1,hk _ _ q.2⟩
  |cons _ _=>exact h
theorem Qk.mono{target:Expr}{x:AV}{Q Q':AJ→AD→Prop}(h:Qk c n L env target x ρ S Q)(hq:∀ρ S,Q ρ S→Q' ρ S):Qk c n L env target x ρ S Q':=fun B v r A s rm iv fr=>
 wpAny_mono (h B v r A s rm iv fr) (fun v s' ⟨B',S',ρ',b,l1,i1,f1,r1,q1⟩=>⟨B',S',ρ',b,l1,i1,f1,r1,hq _ _ q1⟩) fun _ _ x=>x
theorem C1{ns:Cm}{elt:Expr}{gs:List Comprehension}{scope:Scope}{cp py:Pos}{y:Str}{line:Nat}(he:Am env L ns)(hy:ns.lookup y=some .local)(h1:(py.line==cp.line)=true)
  (h2:(scope.names.any fun x=>x.1==y&&(x.2==.local||x.2==.cell))=false):swapsWith (.ListComp elt gs scope cp) (some (.Name y py)) line env=pure true:=by
 show pure (env.blockKind==.function&&env.kindOf y==some .local&&py.line==cp.line&&!(scope.names.any fun(n,k)=>n==y&&(k==.local||k==.cell)))=_;have e1:env.blockKind= .function:=by unfold Env.blockKind;refine rr he.kind ?_;rfl
 refine rr e1 (rr (he.kof ..) (rr hy (rr h1 (rr h2 ?_))));rfl
theorem Co{target elt:Expr}{ifs:List Expr}{g:AD→Prop}{Q:List AV→AD→Prop}{f:α→AV}(P:List α→List AV→AD→Prop)
  (hg:∀l acc S,P l acc S→g S∧acc.length+l.length≤1000)
  (step:∀a l acc S,P (a::l) acc S→Qk c n L env target (f a) ρ S fun ρ1 S1=>Cd ρ ρ1∧LE c n L env ρ1 S1 (eV c n L env ρ elt (P l) acc ρ1) ifs)
  (last:∀acc S,P [] acc S→Q acc S) {l:List α}:∀{acc:List AV} {S:AD},P l acc S→KG c n L env ρ target ifs elt g Q (l.map f) acc S:=by
 induction l with
 |nil=>intro acc S h;exact⟨(hg _ _ _ h).1,last _ _ h⟩
 |cons a l ih=>
  intro acc S h;refine⟨(hg _ _ _ h).1,by have:=(hg _ _ _ h).2;exact b8 this,(step a l acc S h).mono fun ρ1 S1 q=>⟨q.1,q.2.mono fun b S2 k=>⟨fun hb=>(k.t hb).mono fun y ρ3 S3 z=>⟨z.1,ih z.2⟩,fun hb=>ih (k.f hb)⟩⟩⟩
end
theorem Jf{sep:Str}{l:List Str}{m:Nat}(h:l.length*m≤16000000)(hx:∀x∈l,x.length+sep.length≤m):JoinOk sep l=true:=by
 have key:∀(l:List Str) (a:Nat),(∀x∈l,x.length+sep.length≤m)→l.foldl (fun a x=>a+x.length+sep.length) a≤a+l.length*m:=by
  intro l
  induction l with
  |nil=>intro a _;simp
  |cons x l ih=>
   intro a hx;refine rr List.foldl_cons (rr List.length_cons (rr (Nat.succ_mul ..) ?_));have h1:=hx x (.head _);have:=ih (a+x.length+sep.length) fun y hy=>hx y (.tail _ hy);exact Z3 h1 this
 unfold JoinOk Builtin.Str.tooLong;refine rr (List.foldl_toArray ..) (rr sizeLine_eq ?_);have:=key l 0 hx;simp;exact XG h this
noncomputable def Rn(p:List Str):Str:=(" ":Str)++p.getD 2 ("":Str)++("=\"":Str)++DE (p.getD 3 ("":Str))++("\"":Str)
noncomputable def Mg(l:List (List Str)):Str:=Txt.join ("":Str) ((sortT l).map Rn)
noncomputable def E8(T:List Nd):List Nat→List (List Str)→Prop
 |[],[]=>True
 |k::ks,p::ds=>(∃z,T[k]?=some z∧p=[z.uri,z.loc,z.name,z.val])∧E8 T ks ds
 |_,_=>False
structure Up(p:List Str):Prop where
 len:p.length=4
 n:(p.getD 2 ("":Str)).length≤100
 f:CN (p.getD 3 ("":Str)) CM
 v:(DE (p.getD 3 ("":Str))).length≤1000
section
variable{c:Cx}{n:Nat}{S:AD}{Q:AV→AD→Prop}{y:Bg}{T:List Nd}
inductive Yx(S:AD)(x:Nd)(ds:List (List Str))(e D D2:Addr)(l:List (List Str))(acc:List AV)(S':AD):Prop
 |mk (ds1) (h0:sortT ds=ds1++l) (h1:acc=(ds1.map Rn).map AV.str) (h2:S'=put (put (put S e (.list (x.atts.map natV))) D (.list (ds.map GG))) D2 (.list ((sortT ds).map GG)))
inductive VN(S:AD)(T:List Nd)(x:Nd)(ds:List (List Str))(e:Addr)(l:List Nat)(acc:List AV)(S':AD):Prop
 |mk (ds1 ds2) (h0:ds=ds1++ds2) (h1:acc=ds1.map GG) (h2:E8 T l ds2) (h3:l.length≤4) (h4:S'=put S e (.list (x.atts.map natV)))
theorem Hl(F:Af c.K)(h:AW S y T)(hT:T.length≤1000){i:Nat}{x:Nd}(hx:T[i]?=some x){ds:List (List Str)}(hn:E8 T x.atts ds)(hl:x.atts.length≤4)(hl2:ds.length≤4)(ok:∀p∈ds,Up p)
  (hso:∀p∈sortT ds,p∈ds) (hsl:(sortT ds).length≤4)
  (q:∀S',A9 S S'→Q (.str (Mg ds)) S'):AM c (n+3) (.ref 119) [.ref y.t,natV i] S Q:=by
 refine(Hu F.Eg (names:=["tree","element"]) (by kernel_rfl) (by decide+kernel) (fun _ _ _ _ _ _ _ _ g=>by kernel_rfl) (by decide+kernel) rfl (by kernel_rfl) ?_).call;intro L env hc he;refine AH ?_;refine Cz he hc rfl (by kernel_rfl) (C1 he (by kernel_rfl) (by kernel_rfl) (by kernel_rfl)) ?_;refine IS F.EW ?_;refine Dq he (by kernel_rfl) (by rfl) ?_;refine⟨_,_,_,rfl,h.inst,h.ns,by rfl,?_⟩;refine An he (by kernel_rfl) (by rfl) ?_;refine LV F h hT hx (by exact Ve hl) fun e he1=>?_;refine⟨_,_,.list (.inl (AC ..)),fun Lc cenv hce=>?_⟩;have hE:A9 S (put S e (.list (x.atts.map natV))):=(A9.refl S).put he1;have hTE:=h.sub hE;refine Co (VN S T x ds e) (fun l acc S' hP=>?_) ?_ ?_ ⟨[],ds,rfl,rfl,hn,hl,rfl⟩
 ·obtain⟨ds1,ds2,e1,rfl,_,h3,rfl⟩:=hP;refine⟨.inl (AC ..),?_⟩;have:=congrArg List.length e1;rw[List.length_append]at this;exact rr (List.length_map ..) (YD hl2 h3 this)
 ·rintro k l acc S' ⟨ds1,ds2,e1,rfl,hA,h3,rfl⟩
  match ds2,hA with
  |p::ds2,hA=>
  obtain⟨⟨z,hz,hzp⟩,hA⟩:=hA;refine BA hce (by kernel_rfl) ?_;refine⟨Cd.cons (by rfl) (Cd.refl _),⟨fun _=>?_,fun hb=>tf hb⟩⟩;refine Ch ?_;refine AK ?_;refine IS F.KT ?_;refine Dq hce (by kernel_rfl) (by rfl) ?_;refine⟨_,_,_,rfl,hTE.inst,hTE.ns,by rfl,?_⟩;refine An hce (by kernel_rfl) (by rfl) ?_;refine U5 F hTE hT hz ?_;refine AK ?_;refine IS F.H7 ?_;refine Dq hce (by kernel_rfl) (by rfl) ?_;refine⟨_,_,_,rfl,hTE.inst,hTE.ns,by rfl,?_⟩;refine An hce (by kernel_rfl) (by rfl) ?_;refine Rz F hTE hT hz ?_;refine AK ?_;refine IS F.Bi ?_;refine Dq hce (by kernel_rfl) (by rfl) ?_;refine⟨_,_,_,rfl,hTE.inst,hTE.ns,by rfl,?_⟩;refine An hce (by kernel_rfl) (by rfl) ?_;refine HN F hTE hT hz ?_;refine AK ?_;refine IS F.Bm ?_;refine Dq hce (by kernel_rfl) (by rfl) ?_;refine⟨_,_,_,rfl,hTE.inst,hTE.ns,by rfl,?_⟩;refine An hce (by kernel_rfl) (by rfl) ?_;refine Gn F hTE hT hz ?_;refine AE ⟨ble rfl,?_⟩;refine⟨Cd.cons (by rfl) (Cd.refl _),ds1++[p],ds2,by refine rr e1 ?_;simp,?_,hA,by rw[List.length_cons]at h3;exact cO h3,rfl⟩;refine rr hzp (rr List.map_append ?_);rfl
 rintro acc _ ⟨ds1,ds2,e1,rfl,hA,_,rfl⟩
 match ds2,hA with
 |[],hA=>
 rw[List.append_nil]at e1;subst e1;intro D hD;have hED:e≠D:=(Kf hD).symm;refine BA he (by kernel_rfl) ?_;refine Ae ?_;refine AY Hp ?_;refine AT ?_;refine⟨rfl,?_⟩;refine AK ?_;refine Nm he hc rfl (by kernel_rfl) ?_;refine Ob (id:="sorted") F.H0 he (by kernel_rfl) ?_;refine An he (by kernel_rfl) (by rfl) ?_;refine MM (AC ..) (w:=4) (by decide) (fun p hp=>(ok p hp).len) hl2 fun D2 hD2=>?_;refine⟨_,_,.list (.inl (AC ..)),fun Lc cenv hce=>?_⟩;have hS2:A9 S (put (put (put S e (.list (x.atts.map natV))) D (.list (ds.map GG))) D2 (.list ((sortT ds).map GG))):=(hE.put (hE.none hD)).put ((hE.put (hE.none hD)).none hD2);refine Co (Yx S x ds e D D2) (fun l acc S' hP=>?_) ?_ ?_ ⟨[],rfl,rfl,rfl⟩
 ·obtain⟨ds1,e1,rfl,rfl⟩:=hP;refine⟨.inl (AC ..),?_⟩;have:=congrArg List.length e1;rw[List.length_append]at this;exact rr (List.length_map ..) (rr (List.length_map ..) (Wx hsl this))
 ·rintro p l acc S' ⟨ds1,e1,rfl,rfl⟩;have hp:=ok p (hso p (by refine rr e1 ?_;simp))
  obtain⟨p1,p2,p3,p4,rfl⟩:∃p1 p2 p3 p4,p=[p1,p2,p3,p4]:=by
   exact ZV (P:=fun p=>∃p1 p2 p3 p4,p=[p1,p2,p3,p4]) (fun a b c d=>⟨a,b,c,d,rfl⟩) p hp.len
  have q1:p3.length≤100:=hp.n;have q2:(Es p4 CM).length≤1000:=hp.v;have z1:(" ":Str).length=1:=by decide+kernel
  have z2:("=\"":Str).length=2:=by decide+kernel
  have z3:("\"":Str).length=1:=by decide+kernel
  refine Cy (by rfl) (Ag hce (by kernel_rfl) (Ag hce (by kernel_rfl) (Ag hce (by kernel_rfl) (Ag hce (by kernel_rfl) (BR ?_)))));refine⟨Cd.cons (by rfl) (Cd.cons (by rfl) (Cd.cons (by rfl) (Cd.cons (by rfl) (Cd.refl _)))),⟨fun _=>?_,fun hb=>tf hb⟩⟩;refine Ab ?_;refine Ab ?_;refine Ab ?_;refine Ab ?_;refine AT ?_;refine AB hce (by kernel_rfl) (by rfl) ?_;refine Aq ?_ (by exact rr sizeLine_eq (rr z1 (cj q1)));refine AT ?_;refine Aq ?_ (by exact rr sizeLine_eq (rr (AX ..) (rr z1 (rr z2 (cV q1)))));refine AL F.Cq F.Cu hce (by kernel_rfl) ?_;refine An hce (by kernel_rfl) (by rfl) ?_;refine ES F hp.f ?_;refine Aq ?_ (by exact rr sizeLine_eq (rr (AX ..) (rr (AX ..) (rr z1 (rr z2 (Z5 q1 q2))))));refine AT ?_;refine Aq ?_ (by exact rr sizeLine_eq (rr (AX ..) (rr (AX ..) (rr (AX ..) (rr z1 (rr z2 (rr z3 (VC q1 q2))))))));refine⟨Cd.cons (by rfl) (Cd.cons (by rfl) (Cd.cons (by rfl) (Cd.cons (by rfl) (Cd.refl _)))),ds1++[[p1,p2,p3,p4]],by refine rr e1 ?_;simp,?_,rfl⟩;refine rr List.map_append (rr List.map_append ?_);rfl
 rintro acc _ ⟨ds1,e1,rfl,rfl⟩;rw[List.append_nil]at e1;subst e1;intro D3 hD3;refine AE ?_;refine KE (l:=(sortT ds).map Rn) (AC ..) ?_ ?_
 ·refine Jf (m:=1200) (by exact rr (List.length_map ..) (YW hsl)) fun x hx=>?_;obtain⟨p,hp,rfl⟩:=List.mem_map.mp hx;have hp:=ok p (hso p hp);have z1:(" ":Str).length=1:=by decide+kernel
  have z2:("=\"":Str).length=2:=by decide+kernel
  have z3:("\"":Str).length=1:=by decide+kernel
  have z4:("":Str).length=0:=by decide+kernel
  have q1:=hp.n;have q2:=hp.v;unfold Rn;exact rr (AX ..) (rr (AX ..) (rr (AX ..) (rr (AX ..) (rr z1 (rr z2 (rr z3 (rr z4 (WG q1 q2))))))))
 ·exact q _ (hS2.put (o:=.list (((sortT ds).map Rn).map AV.str)) (hS2.none hD3))
end
noncomputable def endF(n:Str):Str:=("</":Str)++n++(">":Str)
noncomputable def startF(n:Str)(sc kn:Sc)(as:List (List Str)):Str:=("<":Str)++n++K9 sc kn++Mg as++(">":Str)
structure Lv(x:Nd)(sc' sc:Sc)(as:List (List Str)):Prop where
 scok:Ra sc'
 al:x.atts.length≤4
 al2:as.length≤4
 aok:∀p∈as,Up p
 hso:∀p∈sortT as,p∈as
 hsl:(sortT as).length≤4
 nl:x.name.length≤100
 nsl:x.nss.length≤100
 kl:x.kids.length≤900
 pl:(startF x.name sc' sc as).length≤5000
structure Hw(x:Nd)(cm:Bool):Prop where
 k:x.kind="text"∨x.kind="comment"∨x.kind="instruction"
 f:Na x.val
 n:x.name.length≤1000
 pl:(leafF x cm).length≤5000
mutual
inductive Cj(T:List Nd)(cm:Bool):Nat→Sc→List Str→Nat→Prop
 |leaf {i:Nat} {x:Nd} {sc:Sc}:T[i]?=some x→Hw x cm→Cj T cm i sc [leafF x cm] 1
 |elem {i:Nat} {x:Nd} {sc:Sc} {ds:List (Str×Str)} {as:List (List Str)} {o:List Str} {m:Nat}:T[i]?=some x→x.kind="element"→Eu T x.nss ds→E8 T x.atts as→sc.length≤100→Lv x (withinL sc ds) sc as→
   A5 T cm x.kids (withinL sc ds) o m→Cj T cm i sc (startF x.name (withinL sc ds) sc as::(o++[endF x.name])) (m+2)
inductive A5(T:List Nd)(cm:Bool):List Nat→Sc→List Str→Nat→Prop
 |nil {sc:Sc}:A5 T cm [] sc [] 0
 |cons {i:Nat} {ks:List Nat} {sc:Sc} {o o':List Str} {m m':Nat}:Cj T cm i sc o m→A5 T cm ks sc o' m'→A5 T cm (i::ks) sc (o++o') (m+m')
end
inductive VL(T:List Nd)(cm:Bool)(ks:List Nat)(a:Nat)(sc:Sc)(o:List Str)(m:Nat):Prop
 |mk (o1 o2:List Str) (m1 m2:Nat) (h1:A5 T cm ks sc o1 m1) (h2:Cj T cm a sc o2 m2) (e1:o=o1++o2) (e2:m=m1+m2)
inductive eG(T:List Nd)(cm:Bool)(i:Nat)(ks:List Nat)(sc:Sc)(o:List Str)(m:Nat):Prop
 |mk (o1 o2:List Str) (m1 m2:Nat) (h1:Cj T cm i sc o1 m1) (h2:A5 T cm ks sc o2 m2) (e1:o=o1++o2) (e2:m=m1+m2)
noncomputable def bP(T:List Nd)(cm:Bool)(sc:Sc)(o:List Str)(m:Nat):List Nat→Prop
 |[]=>o=[]∧m=0
 |i::ks=>eG T cm i ks sc o m
theorem A5.inv{T:List Nd}{cm:Bool}{sc:Sc}{ks:List Nat}{o:List Str}{m:Nat}(h:A5 T cm ks sc o m):bP T cm sc o m ks:=
 A5.casesOn (motive_2:=fun ks sc o m _=>bP T cm sc o m ks) h ⟨rfl,rfl⟩ (fun h1 h2=>⟨_,_,_,_,h1,h2,rfl,rfl⟩)
theorem A5.snoc{T:List Nd}{cm:Bool}{sc:Sc}{a:Nat}{ks:List Nat}:∀{o:List Str} {m:Nat},A5 T cm (ks++[a]) sc o m→VL T cm ks a sc o m:=by
 induction ks with
 |nil=>
  intro o m h;obtain⟨o1,o2,m1,m2,h1,h2,e1,e2⟩:=h.inv;obtain⟨e3,e4⟩:=h2.inv;exact⟨[],o1,0,m1,.nil,h1,by refine rr e1 (rr e3 (rr (List.append_nil ..) ?_));rfl,by refine rr e2 (rr e4 (rr (Nat.zero_add ..) ?_));rfl⟩
 |cons b ks ih=>
  intro o m h;obtain⟨o1,o2,m1,m2,h1,h2,e1,e2⟩:=h.inv;obtain⟨p1,p2,n1,n2,k1,k2,e3,e4⟩:=ih h2;exact⟨_,p2,_,n2,.cons h1 k1,k2,by exact rr e1 (rr e3 (rr (List.append_assoc ..) rfl)),by exact rr e2 (rr e4 (rr (Nat.add_assoc ..) rfl))⟩
inductive GF(T:List Nd)(cm:Bool)(S:AD):List AV→List Str→Nat→Prop
 |nil:GF T cm S [] [] 0
 |close {i:Nat} {x:Nd} {r:List AV} {out:List Str} {m:Nat}:T[i]?=some x→x.name.length≤100→GF T cm S r out m→GF T cm S (.tup [natV i,.none,.none]::r) (endF x.name::out) (m+1)
 |leaf {i:Nat} {x:Nd} {a b:Addr} {r:List AV} {out:List Str} {m:Nat}:T[i]?=some x→Hw x cm→GF T cm S r out m→GF T cm S (.tup [natV i,.ref a,.ref b]::r) (leafF x cm::out) (m+1)
 |elem {i:Nat} {x:Nd} {a b:Addr} {sc' sc:Sc} {as:List (List Str)} {o out:List Str} {r:List AV} {m m':Nat}:T[i]?=some x→x.kind="element"→S a=some (.dict (DF sc'))→S b=some (.dict (DF sc))→E8 T x.atts as→Lv x sc' sc as→
   A5 T cm x.kids sc' o m→GF T cm S r out m'→GF T cm S (.tup [natV i,.ref a,.ref b]::r) (startF x.name sc' sc as::(o++endF x.name::out)) (m+2+m')
theorem GF.sub{T:List Nd}{cm:Bool}{S S':AD}(e:A9 S S'){l:List AV}{out:List Str}{m:Nat}(h:GF T cm S l out m):GF T cm S' l out m:=by
 induction h with
 |nil=>exact .nil
 |close h1 h2 _ ih=>exact .close h1 h2 ih
 |leaf h1 h2 _ ih=>exact .leaf h1 h2 ih
 |elem h1 h2 h3 h4 h5 h6 h7 _ ih=>exact .elem h1 h2 (e _ _ h3) (e _ _ h4) h5 h6 h7 ih
theorem Cj.len{T:List Nd}{cm:Bool}{i:Nat}{sc:Sc}{o:List Str}{m:Nat}(h:Cj T cm i sc o m):o.length=m:=
 Cj.rec (motive_1:=fun _ _ o m _=>o.length=m) (motive_2:=fun _ _ o m _=>o.length=m) (fun _ _=>rfl) (fun _ _ _ _ _ _ _ ih=>by simp[ih]) rfl (fun _ _ ih1 ih2=>by simp[ih1,ih2]) h
theorem A5.len{T:List Nd}{cm:Bool}{i:List Nat}{sc:Sc}{o:List Str}{m:Nat}(h:A5 T cm i sc o m):o.length=m:=
 A5.rec (motive_1:=fun _ _ o m _=>o.length=m) (motive_2:=fun _ _ o m _=>o.length=m) (fun _ _=>rfl) (fun _ _ _ _ _ _ _ ih=>by simp[ih]) rfl (fun _ _ ih1 ih2=>by simp[ih1,ih2]) h
theorem A5.pl{T:List Nd}{cm:Bool}{i:List Nat}{sc:Sc}{o:List Str}{m:Nat}(h:A5 T cm i sc o m):∀x∈o,x.length≤5000:=
 A5.rec (motive_1:=fun _ _ o m _=>∀x∈o,x.length≤5000) (motive_2:=fun _ _ o m _=>∀x∈o,x.length≤5000)
  (fun _ h x hx=>by exact rr (List.mem_singleton.mp hx) h.pl)
  (fun _ _ _ _ _ h _ ih x hx=>by
   rcases List.mem_cons.mp hx with rfl|hx
   ·exact h.pl
   ·rcases List.mem_append.mp hx with hx|hx
    ·exact ih x hx
    ·refine rr (List.mem_singleton.mp hx) ?_;have:=h.nl;have z1:("</":Str).length=2:=by decide+kernel
     have z2:(">":Str).length=1:=by decide+kernel
     unfold endF
     exact rr (AX ..) (rr (AX ..) (rr z1 (rr z2 (Vt this))))) (fun _ hx=>nomatch hx) (fun _ _ ih1 ih2 x hx=>(List.mem_append.mp hx).elim (ih1 x) (ih2 x)) h
theorem GF.len{T:List Nd}{cm:Bool}{S:AD}{l:List AV}{out:List Str}{m:Nat}(h:GF T cm S l out m):out.length=m∧l.length≤m:=by
 induction h with
 |nil=>exact⟨rfl,Nat.le_refl _⟩
 |close _ _ _ ih=>simp;exact Se ih
 |leaf _ _ _ ih=>simp;exact Se ih
 |elem _ _ _ _ _ _ h7 _ ih=>have:=h7.len;simp;exact VK ih this
theorem GF.put{T:List Nd}{cm:Bool}{S:AD}{b:Addr}{z z':List AV}(hb:S b=some (.list z)){l:List AV}{out:List Str}{m:Nat}(h:GF T cm S l out m):GF T cm (Mine.put S b (.list z')) l out m:=by
 have key:∀{a:Addr} {d:List (Str×AV)},S a=some (.dict d)→Mine.put S b (.list z') a=some (.dict d):=fun e=>(AA _ _ ((by first|exact As e hb|exact(As hb e).symm|exact fun w=>by rw[w,hb]at e;cases e))).trans e
 induction h with
 |nil=>exact .nil
 |close h1 h2 _ ih=>exact .close h1 h2 ih
 |leaf h1 h2 _ ih=>exact .leaf h1 h2 ih
 |elem h1 h2 h3 h4 h5 h6 h7 _ ih=>exact .elem h1 h2 (key h3) (key h4) h5 h6 h7 ih
inductive VY(T:List Nd)(cm:Bool)(S:AD)(j:Nat)(r:List AV)(out:List Str)(k:Nat):Prop
 |mk (x:Nd) (out':List Str) (m:Nat) (h1:T[j]?=some x) (h2:x.name.length≤100) (h3:GF T cm S r out' m) (e1:out=endF x.name::out') (e2:k=m+1)
inductive W7(T:List Nd)(cm:Bool)(S:AD)(z:Nd)(r:List AV)(out:List Str)(k:Nat):Prop
 |mk (out':List Str) (m:Nat) (h2:Hw z cm) (h3:GF T cm S r out' m) (e1:out=leafF z cm::out') (e2:k=m+1)
inductive Yk(T:List Nd)(cm:Bool)(S:AD)(z:Nd)(p q:AV)(r:List AV)(out:List Str)(k:Nat):Prop
 |mk (a b:Addr) (sc' sc:Sc) (as:List (List Str)) (o out':List Str) (m m':Nat) (ep:p= .ref a) (eq:q= .ref b) (h3:S a=some (.dict (DF sc'))) (h4:S b=some (.dict (DF sc))) (h5:E8 T z.atts as) (h6:Lv z sc' sc as)
   (h7:A5 T cm z.kids sc' o m) (h8:GF T cm S r out' m') (e1:out=startF z.name sc' sc as::(o++endF z.name::out')) (e2:k=m+2+m')
inductive dB(T:List Nd)(cm:Bool)(S:AD)(j:Nat)(p q:AV)(r:List AV)(out:List Str)(k:Nat):Prop
 |close (ep:p= .none) (h:VY T cm S j r out k)
 |leaf (z:Nd) (a:Addr) (hz:T[j]?=some z) (ep:p= .ref a) (h:W7 T cm S z r out k)
 |elem (z:Nd) (hz:T[j]?=some z) (hk:z.kind="element") (h:Yk T cm S z p q r out k)
noncomputable def Xc(T:List Nd)(cm:Bool)(S:AD)(out:List Str)(k:Nat):List AV→Prop
 |.tup [.int (.ofNat j),p,q]::r=>dB T cm S j p q r out k
 |_=>True
theorem GF.inv{T:List Nd}{cm:Bool}{S:AD}{l:List AV}{out:List Str}{k:Nat}(h:GF T cm S l out k):Xc T cm S out k l:=
 GF.casesOn (motive:=fun l out k _=>Xc T cm S out k l) h trivial (fun h1 h2 h3=>.close rfl ⟨_,_,_,h1,h2,h3,rfl,rfl⟩) (fun h1 h2 h3=>.leaf _ _ h1 rfl ⟨_,_,h2,h3,rfl,rfl⟩)
  (fun h1 h2 h3 h4 h5 h6 h7 h8=>.elem _ h1 h2 ⟨_,_,_,_,_,_,_,_,_,rfl,rfl,h3,h4,h5,h6,h7,h8,rfl,rfl⟩)
theorem Hw.ne{z:Nd}{cm:Bool}(h:Hw z cm):¬z.kind=("element":Str):=fun w=>by
 rcases h.k with e|e|e<;>rw[w]at e<;>exact absurd e (by decide+kernel)
section
variable{T:List Nd}{cm:Bool}{S:AD}{r:List AV}{j:Nat}{p q:AV}{out:List Str}{k:Nat}{z:Nd}
theorem GF.close_of(h:GF T cm S (.tup [natV j,p,q]::r) out k)(hp:RV p=true):VY T cm S j r out k:=by
 cases h.inv with
 |close _ h=>exact h
 |leaf z a hz ep h=>rw[ep]at hp;cases hp
 |elem z hz hk h=>obtain⟨a,b,_,_,_,_,_,_,_,ep⟩:=h;rw[ep]at hp;cases hp
theorem GF.leaf_of(h:GF T cm S (.tup [natV j,p,q]::r) out k)(hp:RV p=false)(hz:T[j]?=some z)(hk:¬z.kind=("element":Str)):W7 T cm S z r out k:=by
 cases h.inv with
 |close ep h=>rw[ep]at hp;cases hp
 |leaf y a hy ep h=>rw[hz]at hy;cases hy;exact h
 |elem y hy hk' h=>rw[hz]at hy;cases hy;exact absurd hk' hk
theorem GF.elem_of(h:GF T cm S (.tup [natV j,p,q]::r) out k)(hp:RV p=false)(hz:T[j]?=some z)(hk:z.kind=("element":Str)):Yk T cm S z p q r out k:=by
 cases h.inv with
 |close ep h=>rw[ep]at hp;cases hp
 |leaf y a hy ep h=>rw[hz]at hy;cases hy;obtain⟨_,_,h2,_⟩:=h;exact absurd hk h2.ne
 |elem y hy hk' h=>rw[hz]at hy;cases hy;exact h
end
inductive eC(T:List Nd)(it:AV):Prop
 |mk (i:Nat) (p q:AV) (z:Nd) (e:it= .tup [natV i,p,q]) (hz:T[i]?=some z)
noncomputable def Yi(T:List Nd):List AV→Prop
 |it::_=>eC T it
 |[]=>True
theorem GF.shape{T:List Nd}{cm:Bool}{S:AD}{l:List AV}{out:List Str}{m:Nat}(h:GF T cm S l out m):Yi T l:=
 GF.casesOn (motive:=fun l _ _ _=>Yi T l) h trivial (fun h1 _ _=>⟨_,_,_,_,rfl,h1⟩) (fun h1 _ _=>⟨_,_,_,_,rfl,h1⟩) (fun h1 _ _ _ _ _ _ _=>⟨_,_,_,_,rfl,h1⟩)
inductive So(T:List Nd)(cm:Bool)(w:Nd)(sc:Sc)(o:List Str)(k:Nat):Prop
 |mk (ds:List (Str×Str)) (as:List (List Str)) (o':List Str) (m:Nat) (h3:Eu T w.nss ds) (h5:E8 T w.atts as) (h6:sc.length≤100) (h10:Lv w (withinL sc ds) sc as) (h11:A5 T cm w.kids (withinL sc ds) o' m)
   (e1:o=startF w.name (withinL sc ds) sc as::(o'++[endF w.name])) (e2:k=m+2)
inductive Mn(T:List Nd)(cm:Bool)(w:Nd)(sc:Sc)(o:List Str)(k:Nat):Prop
 |leaf (h:Hw w cm) (e1:o=[leafF w cm]) (e2:k=1)
 |elem (hk:w.kind="element") (h:So T cm w sc o k)
theorem Cj.inv{T:List Nd}{cm:Bool}{i:Nat}{sc:Sc}{o:List Str}{m:Nat}(h:Cj T cm i sc o m):∃w,T[i]?=some w∧Mn T cm w sc o m:=by
 cases h with
 |leaf h1 h2=>exact⟨_,h1,.leaf h2 rfl rfl⟩
 |elem h1 h2 h3 h4 h5 h6 h7=>exact⟨_,h1,.elem h2 ⟨_,_,_,_,h3,h4,h5,h6,h7,rfl,rfl⟩⟩
theorem Mn.elem_of{T:List Nd}{cm:Bool}{w:Nd}{sc:Sc}{o:List Str}{m:Nat}(h:Mn T cm w sc o m)(hk:w.kind=("element":Str)):So T cm w sc o m:=by
 cases h with
 |leaf h _ _=>exact absurd hk h.ne
 |elem _ h=>exact h
theorem Mn.leaf_of{T:List Nd}{cm:Bool}{w:Nd}{sc:Sc}{o:List Str}{m:Nat}(h:Mn T cm w sc o m)(hk:¬w.kind=("element":Str)):Hw w cm∧o=[leafF w cm]∧m=1:=by
 cases h with
 |leaf h e1 e2=>exact⟨h,e1,e2⟩
 |elem h _=>exact absurd h hk
theorem Kp.step{ns ns':List Str}{ρ ρ1 ρ0:AJ}(h:Kp ns ρ ρ1)(h':Kp ns' ρ1 ρ0)(hs:(ns.all fun x=>ns'.contains x)=true):Kp ns' ρ ρ0:=fun k hk=>by
 refine(h k ?_).trans (h' k hk)
 cases e:ns.contains k with
 |false=>rfl
 |true=>
  have:=List.all_eq_true.mp hs k (List.contains_iff_mem.mp e);rw[this]at hk;cases hk
section
variable{c:Cx}{n:Nat}{S:AD}{Q:AV→AD→Prop}{y:Bg}{T:List Nd}
inductive a9(S:AD)(T:List Nd)(cm:Bool)(fd lf:Addr)(tot fnd:List Str)(z:Nd)(a1:Addr)(sc1 scp:Sc)(as1:List (List Str))(d2:Addr)(ρ0:AJ)(l:List Nat)(ρ:AJ)(S':AD):Prop
 |mk (items out2 o1 m1 m2) (h0:A5 T cm l.reverse sc1 o1 m1) (h1:GF T cm S' items out2 m2) (h2:S' lf=some (.list items.reverse)) (h3:S' fd=some (.list ((fnd++[startF z.name sc1 scp as1]).map AV.str))) (h4:S' a1=some (.dict (DF sc1))) (h5:S' d2=some (.list (z.kids.reverse.map natV))) (h6:fnd++startF z.name sc1 scp as1::(o1++out2)=tot) (h7:m1+m2=m1+m2) (h8:Kp ["child","is_element"] ρ ρ0) (h9:A9 S S')
inductive au(S:AD)(T:List Nd)(cm:Bool)(fd lf:Addr)(tot:List Str)(ρ0:AJ)(k:Nat)(ρ:AJ)(S':AD):Prop
 |mk (items out fnd) (h0:GF T cm S' items out k) (h1:S' lf=some (.list items.reverse)) (h2:S' fd=some (.list (fnd.map AV.str))) (h3:fnd++out=tot) (h4:Kp ["here","inner","known","child","is_element"] ρ ρ0) (h5:A9 S S')
set_option maxHeartbeats 4000000 in
theorem Gy(F:Af c.K)(h:AW S y T)(hT:T.length≤900){i:Nat}{cm:Bool}{a:Addr}{ds:List (Str×Str)}{as:List (List Str)}{x:Nd}{o:List Str}{m:Nat}(hx:T[i]?=some x)(hk:x.kind="element")
  (ha:S a=some (.dict (DF (withinL [("xml","http://www.w3.org/XML/1998/namespace")] ds)))) (hat:E8 T x.atts as) (hel:Lv x (withinL [("xml","http://www.w3.org/XML/1998/namespace")] ds) [("xml","http://www.w3.org/XML/1998/namespace")] as)
  (hks:A5 T cm x.kids (withinL [("xml","http://www.w3.org/XML/1998/namespace")] ds) o m) (hm:m≤900)
  (q:∀S',A9 S S'→Q (.str (Txt.join ("":Str) (startF x.name (withinL [("xml","http://www.w3.org/XML/1998/namespace")] ds) [("xml","http://www.w3.org/XML/1998/namespace")] as::(o++[endF x.name])))) S'):
  AM c (n+5) (.ref 140) [.ref y.t,natV i,.ref a,.bool cm] S Q:=by
 refine(AP F.DX (names:=["tree","element","scope","comments"]) (by kernel_rfl) (fun _ _ _ _ _ _ _ _ s g=>.of_eq (by kernel_rfl)) (by decide+kernel) rfl (by kernel_rfl) ?_).call;intro L env hc he;generalize hsc0:([("xml","http://www.w3.org/XML/1998/namespace")]:Sc)=sc0 at*;have z1:("</":Str).length=2:=by decide+kernel
 have z2:(">":Str).length=1:=by decide+kernel
 have z3:("<":Str).length=1:=by decide+kernel
 refine Aa he (by kernel_rfl) ?_;refine Aw ?_;refine AE ⟨ble rfl,fun fd hfd=>?_⟩;have ss1:A9 S (put S fd (.list [])):=(A9.refl S).put hfd;refine Aa he (by kernel_rfl) ?_;refine Aw ?_;refine Ah ?_;refine A0 he (by kernel_rfl) (by rfl) ?_;refine A0 he (by kernel_rfl) (by rfl) ?_;refine AK ?_;refine Lk ?_;refine KH F.DT he (by kernel_rfl) ?_;intro kd hkd;have ss2:=ss1.put (o:=.dict [("xml",AV.str "http://www.w3.org/XML/1998/namespace")]) (ss1.none hkd);refine AE ⟨ble rfl,?_⟩;refine AE ⟨ble rfl,fun lf hlf=>?_⟩;have ss3:=ss2.put (o:=.list [.tup [natV i,.ref a,.ref kd]]) (ss2.none hlf);have fk:fd≠kd:=(Kf hkd).symm;have fl:fd≠lf:=(Kf (HH hlf)).symm;have kl:kd≠lf:=(Kf hlf).symm;generalize htot:startF x.name (withinL sc0 ds) sc0 as::(o++[endF x.name])=tot at*;have htl:tot.length=m+2:=by refine rl htot ?_;have:=hks.len;simp;exact TL this
 refine AH ?_
 refine JN (au S T cm fd lf tot _) (m+2)
  ⟨[.tup [natV i,.ref a,.ref kd]],_,[],?_,AC ..,by refine rr (AA _ _ fl) (rr (AA _ _ fk) (rr (AC ..) ?_));rfl,htot,Kp.refl _ _,ss3⟩ ?_
 ·refine .elem (sc':=withinL sc0 ds) (sc:=sc0) hx hk (ss3 _ _ ha) ?_ hat hel hks .nil;refine rr (AA _ _ kl) (rr (AC ..) (rl hsc0 ?_));rfl
 rintro k ρ S2 ⟨items,out,fnd,hst,hlf2,hfd2,htt,hkp,hS2⟩;have hbl:=hst.len;have hfo:fnd.length+k=m+2:=by exact rl htl (rl htt (rr List.length_append (rr hbl.1 rfl)))
 refine N0 he (by kernel_rfl) ((hkp "left" (by decide+kernel)).trans (by rfl)) ?_;refine Aw ?_;refine AE ⟨ble rfl,fun nl hnl=>?_⟩;have nlf:nl≠lf:=(by first|exact As hnl hlf2|exact(As hlf2 hnl).symm|exact fun w=>by rw[w,hlf2]at hnl;cases hnl)
 have nfd:nl≠fd:=(by first|exact As hnl hfd2|exact(As hfd2 hnl).symm|exact fun w=>by rw[w,hfd2]at hnl;cases hnl)
 refine Mo ((AA _ _ nlf.symm).trans hlf2) (AC ..) ⟨_,rfl,?_⟩;refine⟨fun hb=>?_,fun hb=>?_⟩;rotate_left
 ·have:items=[]:=by simpa using hb
  subst this;cases hst;rw[List.append_nil]at htt;subst htt;refine AQ ?_;refine Ae ?_;refine AY Hp ?_;refine AT ?_;refine⟨rfl,?_⟩;refine An he (by kernel_rfl) (Cv ((hkp "found" (by decide+kernel)).trans (by rfl)) (by rfl)) ?_;refine KE ((AA _ _ nfd.symm).trans hfd2) (Jf (m:=5000) (by exact rr htl (YF hm)) fun s hs=>?_) ?_
  ·have z4:("":Str).length=0:=by decide+kernel
   refine rr z4 (rr (Nat.add_zero ..) ?_);rw[←htot]at hs;rcases List.mem_cons.mp hs with rfl|hs
   ·exact hel.pl
   ·rcases List.mem_append.mp hs with hs|hs
    ·exact hks.pl s hs
    ·refine rr (List.mem_singleton.mp hs) ?_;have:=hel.nl;unfold endF;exact rr (AX ..) (rr (AX ..) (rr z1 (rr z2 (Vt this))))
  ·exact q _ (hS2.put (hS2.none hnl))
 have hS3:A9 S (put S2 nl (.list [])):=hS2.put (hS2.none hnl);have hst3:=hst.sub ((A9.refl S2).put (o:=.list []) hnl);have hlf3:put S2 nl (.list []) lf=some (.list items.reverse):=(AA _ _ nlf.symm).trans hlf2;have hfd3:put S2 nl (.list []) fd=some (.list (fnd.map AV.str)):=(AA _ _ nfd.symm).trans hfd2;revert hS3 hst3 hlf3 hfd3;generalize put S2 nl (.list [])=S3;intro hS3 hst3 hlf3 hfd3;clear hst hlf2 hfd2 hnl nlf nfd hS2;obtain⟨it,r,rfl⟩:=List.exists_cons_of_ne_nil (l:=items) (by simpa using hb);obtain⟨j,p,kq,z,rfl,hz⟩:=hst3.shape;rw[List.reverse_cons]at hlf3;have hSl:S lf=none:=ss2.none hlf;have hl4:put S3 lf (.list r.reverse) lf=some (.list r.reverse):=AC ..;have hf4:put S3 lf (.list r.reverse) fd=some (.list (fnd.map AV.str)):=(AA _ _ fl).trans hfd3;have hst4:=hst3.put (z':=r.reverse) hlf3;have hS4:A9 S (put S3 lf (.list r.reverse)):=hS3.put hSl;refine AH ?_;refine CB ?_ (BB he (by with_unfolding_all rfl));refine AY NU ?_;refine AB he (by kernel_rfl) ((hkp "left" (by decide+kernel)).trans (by rfl)) ?_;refine⟨.inl ⟨_,hlf3,rfl⟩,?_⟩;refine AE ?_;refine Qa hlf3 (by refine rr List.length_reverse ?_;have:=hst3.len;rw[List.length_cons]at this;exact Tb hm hfo this) ?_;revert hl4 hf4 hst4 hS4;generalize put S3 lf (.list r.reverse)=S4;intro hl4 hf4 hst4 hS4;clear hst3 hlf3 hfd3 hS3;have h4:=h.sub hS4;refine Cy (by rfl) (Ag he (by kernel_rfl) (Ag he (by kernel_rfl) (Ag he (by kernel_rfl) (BR ?_))));have kp1:=((hkp.cons (x:="here") (v:=natV j) (by decide+kernel)).cons (x:="inner") (v:=p) (by decide+kernel)).cons (x:="known") (v:=kq) (by decide+kernel);refine BC ?_;refine AB he (by kernel_rfl) (by rfl) ?_;refine Dl ?_;refine E5 ⟨_,rfl,?_⟩;have hlen:=hst4.len;rw[List.length_cons]at hlen;have hfdS:S fd=none:=hfd;clear hb;refine⟨fun hbn=>?_,fun hbn=>?_⟩
 ·obtain⟨x',out',m',h1,h2,h3,ho,hk'⟩:=hst4.close_of hbn;have e1:(("</":Str)++x'.name++(">":Str))=endF x'.name:=rfl;refine AH ?_;refine Av he ?_;refine AY Al ?_;refine AB he (by kernel_rfl) ((kp1 "found" (by decide+kernel)).trans (by rfl)) ?_;refine⟨.inl ⟨_,hf4,rfl⟩,?_⟩;refine Dx ?_;refine Ab ?_;refine AT ?_;refine Cf F.Bi he (by kernel_rfl) ((kp1 "tree" (by decide+kernel)).trans (by rfl)) h4.inst h4.ns (by rfl) ?_;refine An he (by kernel_rfl) (by rfl) ?_;refine HN F h4 (by exact CL hT) h1 ?_;refine Aq ?_ (by exact rr sizeLine_eq (rr z1 (dZ h2)));refine AT ?_;refine Aq ?_ (by exact rr sizeLine_eq (rr (AX ..) (rr z1 (rr z2 (cg h2)))));refine AE ?_;refine Ar hf4 (lm (TO hm hfo hk')) ?_;refine Ad ?_;refine⟨m',by exact Sa hk',r,out',fnd++[endF x'.name],h3.put hf4,(AA _ _ fl.symm).trans hl4,?_,by refine rl htt (rr ho ?_);simp,kp1,hS4.put hfdS⟩;refine rr (AC ..) (rr List.map_append ?_);rfl
 ·refine BC ?_;refine Cf F.CZ he (by kernel_rfl) ((kp1 "tree" (by decide+kernel)).trans (by rfl)) h4.inst h4.ns (by rfl) ?_;refine An he (by kernel_rfl) (by rfl) ?_;refine Jx F h4 (by exact CL hT) hz ?_;refine AT ?_;refine Bl ⟨_,rfl,?_⟩;refine⟨fun hb2=>?_,fun hb2=>?_⟩
  ·have hnk:¬z.kind=("element":Str):=by simpa using hb2
   obtain⟨out',m',h2,h3,ho,hk'⟩:=hst4.leaf_of hbn hz hnk;refine AH ?_;refine Av he ?_;refine AY Al ?_;refine AB he (by kernel_rfl) ((kp1 "found" (by decide+kernel)).trans (by rfl)) ?_;refine⟨.inl ⟨_,hf4,rfl⟩,?_⟩;refine AK ?_;refine AL F.C9 F.C6 he (by kernel_rfl) ?_;refine An he (by kernel_rfl) (Cv ((kp1 "tree" (by decide+kernel)).trans (by rfl)) (Cv (by rfl) (Cv ((kp1 "comments" (by decide+kernel)).trans (by rfl)) (by rfl)))) ?_;refine Ez F h4 (by exact CL hT) hz h2.f h2.n h2.k ?_;refine AE ?_;refine Ar hf4 (lm (TO hm hfo hk')) ?_;refine Ad ?_;refine AQ ?_;refine⟨m',by exact Sa hk',r,out',fnd++[leafF z cm],h3.put hf4,(AA _ _ fl.symm).trans hl4,?_,by refine rl htt (rr ho ?_);simp,kp1,hS4.put hfdS⟩;refine rr (AC ..) (rr List.map_append ?_);rfl
  ·have hek:z.kind=("element":Str):=by simpa using hb2
   obtain⟨a1,b1,sc1,scp,as1,o1,out',m1,m',ep,ek,h3,h5,h6,h7,h8,h9,ho,hk'⟩:=hst4.elem_of hbn hz hek;subst ep ek;have hpl:=h7.pl;unfold startF at hpl;rw[AX,AX,AX,AX,z2,z3]at hpl;refine AH ?_;refine Av he ?_;refine AY Al ?_;refine AB he (by kernel_rfl) ((kp1 "found" (by decide+kernel)).trans (by rfl)) ?_;refine⟨.inl ⟨_,hf4,rfl⟩,?_⟩;refine Dx ?_;refine Ab ?_;refine Ab ?_;refine Ab ?_;refine AT ?_;refine Cf F.Bi he (by kernel_rfl) ((kp1 "tree" (by decide+kernel)).trans (by rfl)) h4.inst h4.ns (by rfl) ?_;refine An he (by kernel_rfl) (by rfl) ?_;refine HN F h4 (by exact CL hT) hz ?_;refine Aq ?_ (by exact rr sizeLine_eq (rr z3 (Wy hpl)));refine AL F.H3 F.IC he (by kernel_rfl) ?_;refine An he (by kernel_rfl) (by rfl) ?_;refine L1 F h3 h5 h7.scok fun S5 hS5=>?_;refine Aq ?_ (by exact rr sizeLine_eq (rr (AX ..) (rr z3 (Yb hpl))));refine AL F.EU F.EZ he (by kernel_rfl) ?_;refine An he (by kernel_rfl) (Cv ((kp1 "tree" (by decide+kernel)).trans (by rfl)) (by rfl)) ?_;refine Hl F (h4.sub hS5) (by exact CL hT) hz h6 h7.al h7.al2 h7.aok h7.hso h7.hsl fun S6 hS6=>?_;refine Aq ?_ (by exact rr sizeLine_eq (rr (AX ..) (rr (AX ..) (rr z3 (Wq hpl)))));refine AT ?_;refine Aq ?_ (by exact rr sizeLine_eq (rr (AX ..) (rr (AX ..) (rr (AX ..) (rr z2 (rr z3 (WQ hpl)))))));refine AE ?_;have hf6:=hS6 _ _ (hS5 _ _ hf4);have hl6:=hS6 _ _ (hS5 _ _ hl4);refine Ar hf6 (lm (WV hm hfo)) ?_;show Sq _ _ _ _ _ _ _ _ (put S6 fd (.list (fnd.map AV.str++[.str (startF z.name sc1 scp as1)])));have hst6:=((h9.sub hS5).sub hS6).put (z':=fnd.map AV.str++[.str (startF z.name sc1 scp as1)]) hf6;have hS7:A9 S (put S6 fd (.list (fnd.map AV.str++[.str (startF z.name sc1 scp as1)]))):=((hS4.trans hS5).trans hS6).put hfdS;have hl7:put S6 fd (.list (fnd.map AV.str++[.str (startF z.name sc1 scp as1)])) lf=_:=(AA _ _ fl.symm).trans hl6;have hf7:put S6 fd (.list (fnd.map AV.str++[.str (startF z.name sc1 scp as1)])) fd=_:=AC ..;have ha7:put S6 fd (.list (fnd.map AV.str++[.str (startF z.name sc1 scp as1)])) a1=some (.dict (DF sc1)):=(AA _ _ (fun w=>by have:=hS6 _ _ (hS5 _ _ h3);rw[w,hf6]at this;cases this)).trans (hS6 _ _ (hS5 _ _ h3));revert hst6 hS7 hl7 hf7 ha7;generalize hG:put S6 fd (.list (fnd.map AV.str++[.str (startF z.name sc1 scp as1)]))=S7;intro hst6 hS7 hl7 hf7 ha7;clear hG;clear hf6 hl6 hS6 hS5 S6 S5;clear hl4 hf4 hS4 h4 h3 h5 h9 hst4 S4;refine AH ?_;refine Av he ?_;refine AY Al ?_;refine AB he (by kernel_rfl) ((kp1 "left" (by decide+kernel)).trans (by rfl)) ?_;refine⟨.inl ⟨_,hl7,rfl⟩,?_⟩;refine An he (by kernel_rfl) (by rfl) ?_;refine Ar hl7 (by exact rr List.length_reverse (Tb hm hfo hlen)) ?_;have hst8:=GF.close hz h7.nl (hst6.put (z':=r.reverse++[.tup [natV j,.none,.none]]) hl7);have hS8:A9 S (put S7 lf (.list (r.reverse++[.tup [natV j,.none,.none]]))):=hS7.put hSl;have hl8:put S7 lf (.list (r.reverse++[.tup [natV j,.none,.none]])) lf=some (.list (.tup [natV j,.none,.none]::r).reverse):=by exact rr (AC ..) (rr List.reverse_cons rfl)
   have hf8:put S7 lf (.list (r.reverse++[.tup [natV j,.none,.none]])) fd=some (.list ((fnd++[startF z.name sc1 scp as1]).map AV.str)):=by refine rr (AA _ _ fl) (rr hf7 (rr List.map_append ?_));rfl
   have ha8:put S7 lf (.list (r.reverse++[.tup [natV j,.none,.none]])) a1=some (.dict (DF sc1)):=(AA _ _ ((by first|exact As ha7 hl7|exact(As hl7 ha7).symm|exact fun w=>by rw[w,hl7]at ha7;cases ha7))).trans ha7;revert hst8 hS8 hl8 hf8 ha8;generalize put S7 lf (.list (r.reverse++[.tup [natV j,.none,.none]]))=S8;intro hst8 hS8 hl8 hf8 ha8;clear hst6 hS7 hl7 hf7 ha7 S7;have h8':=h.sub hS8;refine AH ?_;refine CF ?_;refine DW ?_;refine Cf F.DS he (by kernel_rfl) ((kp1 "tree" (by decide+kernel)).trans (by rfl)) h8'.inst h8'.ns (by rfl) ?_;refine An he (by kernel_rfl) (by rfl) ?_;have hkl:=h7.kl;refine KF F h8' (by exact CL hT) hz (by exact CL hkl) fun d1 hd1=>?_;refine Bs ?_;refine Aj ?_;refine Aj ?_;refine Az ?_;refine Fg ?_;refine AS ?_;refine Db ?_;refine⟨_,_,_,rfl,rfl,rfl,?_⟩;refine CJ (T:="list") (.inl ⟨_,AC ..,rfl⟩) slot_list_getitem.lookup ?_ _ (fun _ _=>rfl);refine JG (AC ..) (lm (Yg hkl)) fun d2 hd2=>?_;refine rl List.map_reverse ?_;have s9:A9 S8 (put (put S8 d1 (.list (z.kids.map natV))) d2 (.list (z.kids.reverse.map natV))):=((A9.refl S8).put hd1).put (((A9.refl S8).put (o:=.list (z.kids.map natV)) hd1).none hd2);have dl:d2≠lf:=fun w=>by rw[w]at hd2;rw[((A9.refl S8).put (o:=.list (z.kids.map natV)) hd1) _ _ hl8]at hd2;cases hd2
   refine⟨_,_,.list (.inl (AC ..)),?_⟩
   refine A7 (a9 S T cm fd lf tot fnd z a1 sc1 scp as1 d2 _)
    (fun l ρ S' hP=>by obtain⟨_,_,_,_,_,_,_,_,_,_,he2,_⟩:=hP;exact .inl he2) ?_ ?_ _ _ _
    ⟨_,_,o1,m1,_,by rw[List.reverse_reverse];exact h8,hst8.sub s9,s9 _ _ hl8,s9 _ _ hf8,s9 _ _ ha8,AC ..,by rw[←htt,ho],rfl,Kp.refl _ _,hS8.trans s9⟩
   ·rintro b l ρ3 S9 ⟨items,out2,o1,m1,m2,hko,hst9,hl9,hf9,ha9,hd9,htt9,_,hkp3,hS9⟩;rw[List.reverse_cons]at hko;obtain⟨o1,o2,m1,m3,hk1,hk2,rfl,rfl⟩:=hko.snoc;have h9':=h.sub hS9;have hlen9:=hst9.len
    have htl9:fnd.length+1+(m1+m3+m2)=m+2:=by
     have:=congrArg List.length htt9;rw[htl]at this;have e1:=hk1.len;have e2:=hk2.len;simp at this;exact bH hfo hlen9 e1 e2 this
    refine BA he (by kernel_rfl) ?_;have kp4:=hkp3.cons (x:="child") (v:=natV b) (by decide+kernel);refine Aa he (by kernel_rfl) ?_;refine Dt ?_;refine Cf F.CZ he (by kernel_rfl) (((kp4.step kp1 (by decide+kernel)) "tree" (by decide+kernel)).trans (by rfl)) h9'.inst h9'.ns (by rfl) ?_;refine An he (by kernel_rfl) (by rfl) ?_;obtain⟨w,hw,hk2⟩:=hk2.inv;refine Jx F h9' (by exact CL hT) hw ?_;refine AT ?_;refine AZ ?_;have kp5:=kp4.cons (x:="is_element") (v:=.bool (decide (w.kind=("element":Str)))) (by decide+kernel);have hin:AG ((("is_element":Str),AV.bool (decide (w.kind=("element":Str))))::(("child":Str),natV b)::ρ3) ("inner":Str)=some (.ref a1):=(kp5 "inner" (by decide+kernel)).trans (by rfl);refine AH ?_;refine Av he ?_;refine AY Al ?_;refine AB he (by kernel_rfl) (((kp5.step kp1 (by decide+kernel)) "left" (by decide+kernel)).trans (by rfl)) ?_;refine⟨.inl ⟨_,hl9,rfl⟩,?_⟩;refine Ah ?_;refine A0 he (by kernel_rfl) (by rfl) ?_;refine AK ?_;refine Dz ?_;refine Dw ?_;refine AB he (by kernel_rfl) (by rfl) ?_;refine⟨_,rfl,?_⟩;refine⟨fun hbe=>?_,fun hbe=>?_⟩
    ·have hwk:w.kind=("element":Str):=of_decide_eq_true hbe;obtain⟨dsw,asw,ow,mw,h3,h5,h6,h10,h11,ho2,hm3⟩:=hk2.elem_of hwk;refine AL F.Gf F.Gc he (by kernel_rfl) ?_;refine An he (by kernel_rfl) (Cv (((kp5.step kp1 (by decide+kernel)) "tree" (by decide+kernel)).trans (by rfl)) (Cv (by rfl) (Cv hin (by rfl)))) ?_;refine Jw F h9' (by exact CL hT) hw h3 h10.nsl ha9 h6 fun S10 e2 hS10 he2 hd10=>?_;refine An he (by kernel_rfl) (Cv hin (by rfl)) ⟨ble rfl,?_⟩;refine AE ?_;have hl10:=hS10 _ _ hl9;refine Ar hl10 (by exact rr List.length_reverse (WS hm hfo hlen9 htl9 hm3)) ?_;refine AQ ?_;have sl:∀{b o},b≠lf→S10 b=some o→put S10 lf (.list (items.reverse++[.tup [natV b,.ref e2,.ref a1]])) b=some o:=fun hne e=>(AA _ _ hne).trans e;refine⟨.tup [natV b,.ref e2,.ref a1]::items,_,o1,m1,_,hk1,GF.elem hw hwk ?_ ?_ h5 h10 h11 ((hst9.sub hS10).put hl10),?_,?_,?_,?_,?_,rfl,kp5,(hS9.trans hS10).put hSl⟩
     ·exact(AA _ _ ((by first|exact As hd10 hl10|exact(As hl10 hd10).symm|exact fun w=>by rw[w,hl10]at hd10;cases hd10))).trans hd10
     ·exact(AA _ _ ((by first|exact As ha9 hl9|exact(As hl9 ha9).symm|exact fun w=>by rw[w,hl9]at ha9;cases ha9))).trans (hS10 _ _ ha9)
     ·exact rr (AC ..) (rr List.reverse_cons rfl)
     ·exact(AA _ _ fl).trans (hS10 _ _ hf9)
     ·exact(AA _ _ ((by first|exact As ha9 hl9|exact(As hl9 ha9).symm|exact fun w=>by rw[w,hl9]at ha9;cases ha9))).trans (hS10 _ _ ha9)
     ·exact(AA _ _ dl).trans (hS10 _ _ hd9)
     ·refine rl htt9 (rr ho2 ?_);simp
    ·have hwk:¬w.kind=("element":Str):=of_decide_eq_false hbe;obtain⟨h2,ho2,hm3⟩:=hk2.leaf_of hwk;refine AB he (by kernel_rfl) hin ?_;refine An he (by kernel_rfl) (Cv hin (by rfl)) ⟨ble rfl,?_⟩;refine AE ?_;refine Ar hl9 (by exact rr List.length_reverse (V7 hm hfo hlen9 htl9 hm3)) ?_;refine AQ ?_;refine⟨.tup [natV b,.ref a1,.ref a1]::items,_,o1,m1,_,hk1,GF.leaf hw h2 (hst9.put hl9),?_,?_,?_,?_,?_,rfl,kp5,hS9.put hSl⟩
     ·exact rr (AC ..) (rr List.reverse_cons rfl)
     ·exact(AA _ _ fl).trans hf9
     ·exact(AA _ _ ((by first|exact As ha9 hl9|exact(As hl9 ha9).symm|exact fun w=>by rw[w,hl9]at ha9;cases ha9))).trans ha9
     ·exact(AA _ _ dl).trans hd9
     ·refine rl htt9 (rr ho2 ?_);simp
   ·rintro ρ3 S9 ⟨items,out2,o1',m1',m2,hko,hst9,hl9,hf9,ha9,hd9,htt9,_,hkp3,hS9⟩;obtain⟨rfl,rfl⟩:=hko.inv;refine Ad ?_;refine Ad ?_;have hlen9:=hst9.len;refine⟨m2,?_,items,out2,fnd++[startF z.name sc1 scp as1],hst9,hl9,hf9,by refine rl htt9 ?_;simp,hkp3.step kp1 (by decide+kernel),hS9⟩;have:=congrArg List.length htt9;rw[htl]at this;simp at this;exact VF hfo hlen9 this
end
noncomputable abbrev Ak:Sc:=[("xml","http://www.w3.org/XML/1998/namespace")]
inductive BD(T:List Nd)(cm:Bool)(r:Nat):List Nat→Bool→List Str→Prop
 |nil {b:Bool}:BD T cm r [] b []
 |elem {i:Nat} {x:Nd} {b:Bool} {ds:List (Str×Str)} {as:List (List Str)} {o:List Str} {m:Nat} {ks:List Nat} {out:List Str}:T[i]?=some x→x.kind="element"→x.par=some r→Eu T x.nss ds→E8 T x.atts as→
   Lv x (withinL Ak ds) Ak as→A5 T cm x.kids (withinL Ak ds) o m→m≤900→BD T cm r ks true out→
   BD T cm r (i::ks) b (Txt.join ("":Str) (startF x.name (withinL Ak ds) Ak as::(o++[endF x.name]))::out)
 |leaf {i:Nat} {x:Nd} {b:Bool} {ks:List Nat} {out:List Str}:T[i]?=some x→Hw x cm→x.kind≠"text"→leafF x cm≠("":Str)→BD T cm r ks b out→
   BD T cm r (i::ks) b ((if b=true then("\n":Str)++leafF x cm else leafF x cm++("\n":Str))::out)
inductive Ss(T:List Nd)(cm:Bool)(r:Nat)(x:Nd)(ks:List Nat)(o:List Str):Prop
 |mk (ds:List (Str×Str)) (as:List (List Str)) (o':List Str) (m:Nat) (out:List Str) (k2:x.kind="element") (k3:x.par=some r) (k4:Eu T x.nss ds) (k5:E8 T x.atts as) (k6:Lv x (withinL Ak ds) Ak as)
   (k7:A5 T cm x.kids (withinL Ak ds) o' m) (k8:m≤900) (k9:BD T cm r ks true out) (e:o=Txt.join ("":Str) (startF x.name (withinL Ak ds) Ak as::(o'++[endF x.name]))::out)
inductive Te(T:List Nd)(cm:Bool)(r:Nat)(x:Nd)(ks:List Nat)(b:Bool)(o:List Str):Prop
 |mk (out:List Str) (k2:Hw x cm) (k3:x.kind≠"text") (k4:leafF x cm≠("":Str)) (k5:BD T cm r ks b out) (e:o=(if b=true then("\n":Str)++leafF x cm else leafF x cm++("\n":Str))::out)
inductive bw(T:List Nd)(cm:Bool)(r:Nat)(i:Nat)(ks:List Nat)(b:Bool)(o:List Str):Prop
 |elem (x:Nd) (hx:T[i]?=some x) (h:Ss T cm r x ks o)
 |leaf (x:Nd) (hx:T[i]?=some x) (h:Te T cm r x ks b o)
noncomputable def Td(T:List Nd)(cm:Bool)(r:Nat)(b:Bool)(o:List Str):List Nat→Prop
 |[]=>o=[]
 |i::ks=>bw T cm r i ks b o
theorem BD.inv{T:List Nd}{cm:Bool}{r:Nat}{ks:List Nat}{b:Bool}{out:List Str}(h:BD T cm r ks b out):Td T cm r b out ks:=
 BD.casesOn (motive:=fun ks b out _=>Td T cm r b out ks) h rfl (fun h1 h2 h3 h4 h5 h6 h7 h8 h9=>.elem _ h1 ⟨_,_,_,_,_,h2,h3,h4,h5,h6,h7,h8,h9,rfl⟩) (fun h1 h2 h3 h4 h5=>.leaf _ h1 ⟨_,h2,h3,h4,h5,rfl⟩)
theorem BD.at{T:List Nd}{cm:Bool}{r:Nat}{i:Nat}{ks:List Nat}{b:Bool}{out:List Str}(h:BD T cm r (i::ks) b out):∃x,T[i]?=some x:=by
 cases h.inv with
 |elem x h1=>exact⟨x,h1⟩
 |leaf x h1=>exact⟨x,h1⟩
theorem BD.el{T:List Nd}{cm:Bool}{r:Nat}{i:Nat}{ks:List Nat}{b:Bool}{out:List Str}{x:Nd}(h:BD T cm r (i::ks) b out)(hx:T[i]?=some x)(hk:x.kind=("element":Str)):Ss T cm r x ks out:=by
 cases h.inv with
 |elem y h1 h=>rw[hx]at h1;cases h1;exact h
 |leaf y h1 h=>rw[hx]at h1;cases h1;obtain⟨_,k2,_⟩:=h;exact absurd hk k2.ne
theorem BD.lf{T:List Nd}{cm:Bool}{r:Nat}{i:Nat}{ks:List Nat}{b:Bool}{out:List Str}{x:Nd}(h:BD T cm r (i::ks) b out)(hx:T[i]?=some x)(hk:¬x.kind=("element":Str)):Te T cm r x ks b out:=by
 cases h.inv with
 |elem y h1 h=>rw[hx]at h1;cases h1;obtain⟨_,_,_,_,_,k2,_⟩:=h;exact absurd k2 hk
 |leaf y h1 h=>rw[hx]at h1;cases h1;exact h
section
variable{c:Cx}{n:Nat}{S:AD}{Q:AV→AD→Prop}{y:Bg}{T:List Nd}
inductive YH(S:AD)(T:List Nd)(r:Nat)(w:Nd)(cm:Bool)(out:List Str)(fd d:Addr)(ρ0:AJ)(l:List Nat)(ρ:AJ)(S':AD):Prop
 |mk (b fnd o2) (h0:BD T cm r l b o2) (h1:AG ρ "is_behind"=some (.bool b)) (h2:S' fd=some (.list (fnd.map AV.str))) (h3:S' d=some (.list (w.kids.map natV))) (h4:fnd++o2=out) (h5:Kp ["child","kind","told","is_behind"] ρ ρ0) (h6:A9 S S')
set_option maxHeartbeats 4000000 in
theorem IH(F:Af c.K)(h:AW S y T)(hT:T.length≤900){r:Nat}{w:Nd}{cm:Bool}(hw:T[r]?=some w)(hp:w.par=none)(hwn:w.nss=[])(hwl:w.kids.length≤900){out:List Str}(ho:BD T cm r w.kids false out)
  (hol:out.length≤3) (hox:∀s∈out,s.length≤5000000) (q:∀S',A9 S S'→Q (.str (Txt.join ("":Str) out)) S'):AM c (n+6) (.ref 147) [.ref y.t,natV r,.bool cm] S Q:=by
 refine(AP F.FG (names:=["tree","root","comments"]) (by kernel_rfl) (fun _ _ _ _ _ _ _ _ s g=>.of_eq (by kernel_rfl)) (by decide+kernel) rfl (by kernel_rfl) ?_).call;intro L env hc he;have z1:("\n":Str).length=1:=by decide+kernel
 refine Aa he (by kernel_rfl) ?_;refine Aw ?_;refine AE ⟨ble rfl,fun fd hfd=>?_⟩;have ss1:A9 S (put S fd (.list [])):=(A9.refl S).put hfd;refine Aa he (by kernel_rfl) ?_;refine C0 ?_;have h1:=h.sub ss1;refine AH ?_;refine CF ?_;refine Cf F.DS he (by kernel_rfl) (by rfl) h1.inst h1.ns (by rfl) ?_;refine An he (by kernel_rfl) (by rfl) ?_;refine KF F h1 (by exact CL hT) hw (by exact CL hwl) fun d hd=>?_;have df:fd≠d:=(Kf hd).symm;refine⟨_,_,.list (.inl (AC ..)),?_⟩
 refine A7 (YH S T r w cm out fd d _)
  (fun l ρ S' hP=>by obtain⟨_,_,_,_,_,_,he2,_⟩:=hP;exact .inl he2) ?_ ?_ _ _ _ ⟨false,[],out,ho,by rfl,by refine rr (AA _ _ df) (rr (AC ..) ?_);rfl,AC ..,rfl,Kp.refl _ _,ss1.put (ss1.none hd)⟩
 ·rintro i l ρ S2 ⟨b,fnd,o2,hro,hbe,hf2,hd2,hout,hkp,hS2⟩;have h2:=h.sub hS2;have hfl:fnd.length≤3:=by rw[←hout,List.length_append]at hol;exact VG hol
  obtain⟨x,hx⟩:=hro.at;refine BA he (by kernel_rfl) ?_;have kp1:=hkp.cons (x:="child") (v:=natV i) (by decide+kernel);refine Aa he (by kernel_rfl) ?_;refine Cf F.CZ he (by kernel_rfl) ((kp1 "tree" (by decide+kernel)).trans (by rfl)) h2.inst h2.ns (by rfl) ?_;refine An he (by kernel_rfl) (by rfl) ?_;refine Jx F h2 (by exact CL hT) hx ?_;have kp2:=kp1.cons (x:="kind") (v:=.str x.kind) (by decide+kernel);refine BG he (by kernel_rfl) (by rfl) ?_;refine AZ ⟨_,rfl,?_⟩;refine⟨fun hb=>?_,fun hb=>?_⟩
  ·have hk:x.kind=("element":Str):=of_decide_eq_true hb;obtain⟨ds,as,o,m,o3,k2,k3,k4,k5,k6,k7,k8,k9,eo⟩:=hro.el hx hk;refine AH ?_;refine Av he ?_;refine AY Al ?_;refine AB he (by kernel_rfl) ((kp2 "found" (by decide+kernel)).trans (by rfl)) ?_;refine⟨.inl ⟨_,hf2,rfl⟩,?_⟩;refine AK ?_;refine AL F.DY F.DZ he (by kernel_rfl) ?_;refine A0 he (by kernel_rfl) ((kp2 "tree" (by decide+kernel)).trans (by rfl)) ?_;refine A0 he (by kernel_rfl) (by rfl) ?_;refine AK ?_;refine AL F.KZ F.KM he (by kernel_rfl) ?_;refine An he (by kernel_rfl) (Cv ((kp2 "tree" (by decide+kernel)).trans (by rfl)) (by rfl)) ?_;refine NJ F h2 (by exact CL hT) hx k3 hw hp hwn k4 k6.nsl fun S3 a hS3 ha ha3=>?_;refine An he (by kernel_rfl) (Cv ((kp2 "comments" (by decide+kernel)).trans (by rfl)) (by rfl)) ?_;refine Gy F (h2.sub hS3) hT hx k2 ha3 k5 k6 k7 k8 fun S4 hS4=>?_;refine AE ?_;have hf4:=hS4 _ _ (hS3 _ _ hf2);refine Ar hf4 (lm (Ri hfl)) ?_;refine Aa he (by kernel_rfl) ?_;refine C0 ?_;refine Ad ?_;refine⟨true,fnd++[Txt.join ("":Str) (startF x.name (withinL Ak ds) Ak as::(o++[endF x.name]))],o3,k9,by rfl,?_,?_,by refine rl hout (rr eo ?_);simp,kp2.cons (by decide+kernel),((hS2.trans hS3).trans hS4).put hfd⟩
   ·refine rr (AC ..) (rr List.map_append ?_);rfl
   ·exact(AA _ _ df.symm).trans (hS4 _ _ (hS3 _ _ hd2))
  ·have hk:¬x.kind=("element":Str):=of_decide_eq_false hb;obtain⟨o3,k2,k3,k4,k5,eo⟩:=hro.lf hx hk;refine BG he (by kernel_rfl) (by rfl) ?_;refine Bl ⟨_,rfl,?_⟩;refine⟨fun _=>?_,fun hb=>absurd (by simpa using hb) k3⟩;refine Aa he (by kernel_rfl) ?_;refine AL F.C9 F.C6 he (by kernel_rfl) ?_;refine An he (by kernel_rfl) (Cv ((kp2 "tree" (by decide+kernel)).trans (by rfl)) (Cv (by rfl) (Cv ((kp2 "comments" (by decide+kernel)).trans (by rfl)) (by rfl)))) ?_;refine Ez F h2 (by exact CL hT) hx k2.f k2.n k2.k ?_;have kp3:=kp2.cons (x:="told") (v:=.str (leafF x cm)) (by decide+kernel);refine BG he (by kernel_rfl) (by rfl) ?_;refine Bl ⟨_,rfl,?_⟩;refine⟨fun _=>?_,fun hb=>absurd (by simpa using hb) k4⟩;have hpl:=k2.pl;refine AH ?_;refine Av he ?_;refine AY Al ?_;refine AB he (by kernel_rfl) ((kp3 "found" (by decide+kernel)).trans (by rfl)) ?_;refine⟨.inl ⟨_,hf2,rfl⟩,?_⟩;refine AK ?_;refine Ok.val (.str (if b=true then("\n":Str)++leafF x cm else leafF x cm++("\n":Str))) ?_ ?_
   ·refine Dz ?_;refine Dw ?_;refine AB he (by kernel_rfl) (show AG _ _=some (.bool b) by exact rr (AN ..) (rr (if_neg (by decide+kernel)) (rr (AN ..) (rr (if_neg (by decide+kernel)) (rr (AN ..) (rr (if_neg (by decide+kernel)) hbe)))))) ?_;refine⟨_,rfl,?_⟩;refine⟨fun hb=>?_,fun hb=>?_⟩
    ·refine Ab ?_;refine AT ?_;refine AB he (by kernel_rfl) (by rfl) ?_;refine Aq ?_ (by exact rr sizeLine_eq (rr z1 (Y7 hpl)));exact rr (if_pos hb) (⟨rfl,rfl,rfl⟩)
    ·refine JD he (by kernel_rfl) (by rfl) ?_;refine AT ?_;refine Aq ?_ (by exact rr sizeLine_eq (rr z1 (bC hpl)));exact rr (if_neg (by rw[hb];exact Bool.false_ne_true)) (⟨rfl,rfl,rfl⟩)
   refine AE ?_;refine Ar hf2 (lm (Ri hfl)) ?_;refine Ad ?_;refine Ad ?_;refine⟨b,fnd++[if b=true then("\n":Str)++leafF x cm else leafF x cm++("\n":Str)],o3,k5,?_,?_,?_,by refine rl hout (rr eo ?_);simp,kp3,hS2.put hfd⟩
   ·exact rr (AN ..) (rr (if_neg (by decide+kernel)) (rr (AN ..) (rr (if_neg (by decide+kernel)) (rr (AN ..) (rr (if_neg (by decide+kernel)) hbe)))))
   ·refine rr (AC ..) (rr List.map_append ?_);rfl
   ·exact(AA _ _ df.symm).trans hd2
 ·rintro ρ S2 ⟨b,fnd,o2,hro,hbe,hf2,hd2,hout,hkp,hS2⟩;have eo:o2=[]:=hro.inv;rw[eo,List.append_nil]at hout;subst hout;refine AQ ?_;refine Ae ?_;refine AY Hp ?_;refine AT ?_;refine⟨rfl,?_⟩;refine An he (by kernel_rfl) (Cv ((hkp "found" (by decide+kernel)).trans (by rfl)) (by rfl)) ?_;refine KE hf2 (Jf (m:=5000000) (by exact cz hol) fun s hs=>?_) ?_
  ·have z4:("":Str).length=0:=by decide+kernel
   refine rr z4 (rr (Nat.add_zero ..) ?_);exact hox s hs
  ·exact q _ hS2
theorem Mh(F:Af c.K)(h:AW S y T)(hT:T.length≤900){r:Nat}{w:Nd}{cm:Bool}(hw:T[r]?=some w)(hk:w.kind="root")(hp:w.par=none)(hwn:w.nss=[])(hwl:w.kids.length≤900){out:List Str}(ho:BD T cm r w.kids false out)
  (hol:out.length≤3) (hox:∀s∈out,s.length≤5000000) (q:∀S',A9 S S'→Q (.str (Txt.join ("":Str) out)) S'):AM c (n+7) (.ref 155) [.ref y.t,natV r,.bool cm] S Q:=by
 obtain⟨od,k,sl,u,hK⟩:=F.I2;refine(Hr F.Iq (names:=["tree","node","comments"]) (dx:=[]) (dv:=[]) (by kernel_rfl) (fun _ _ _ _ _ _ _ _ s vs hl hk=>by obtain⟨a,b,d,rfl⟩:=Rb (P:=fun q=>∃a b c,q=[a,b,c]) (fun a b c=>⟨a,b,c,rfl⟩) vs hl;exact .of_defaults rfl (hk _ _ hK) rfl rfl rfl) (fun _=>.nil) (by decide+kernel) rfl (by kernel_rfl) ?_).call;intro L env hc he;refine BC ?_;refine Cf F.CZ he (by kernel_rfl) (by rfl) h.inst h.ns (by rfl) ?_;refine An he (by kernel_rfl) (by rfl) ?_;refine Jx F h (by exact CL hT) hw ?_;refine AT ?_;refine AZ ⟨_,rfl,?_⟩;refine⟨fun _=>?_,fun hb=>absurd hk (of_decide_eq_false hb)⟩;refine Ae ?_;refine AL F.FI F.FH he (by kernel_rfl) ?_;refine An he (by kernel_rfl) (by rfl) ?_;exact IH F h hT hw hp hwn hwl ho hol hox q
end
section
variable{c:Cx}{n:Nat}{S:AD}{Q:AV→AD→Prop}{z:Em}{scs:List Sc}
inductive Yy(S:AD)(top:Sc)(l:List (Str×Str))(od fd dd:Addr)(ρ0:AJ)(r:List (Str×Str))(ρ:AJ)(S':AD):Prop
 |mk (sc) (h0:enterL sc r=enterL top (foundL l)) (h1:sc.length+r.length≤200) (h2:S' dd=some (.dict (DF sc))) (h3:S' fd=some (.list ((foundL l).map AI))) (h4:S' od=some (.list ((othersL l).map AI))) (h5:Kp ["prefix","uri"] ρ ρ0) (h6:A9 S S')
inductive Wa(S:AD)(l:List (Str×Str))(od fd:Addr)(ρ0:AJ)(r:List (Str×Str))(ρ:AJ)(S':AD):Prop
 |mk (os fs) (h0:(∀p∈r,p∈l)) (h1:os++othersL r=othersL l) (h2:fs++foundL r=foundL l) (h3:os.length+fs.length+r.length≤50) (h4:S' od=some (.list (os.map AI))) (h5:S' fd=some (.list (fs.map AI))) (h6:Kp ["name","value","prefix"] ρ ρ0) (h7:A9 S S')
set_option maxHeartbeats 4000000 in
theorem RZ(F:Af c.K)(h:BI S z scs){top:Sc}(hl:scs.getLast?=some top)(hn:scs.length≤500){l:List (Str×Str)}(hlen:l.length≤50)(ok:∀p∈l,NI p)(htop:top.length≤100)
  (q:∀S' z',BI S' z' (scs++[enterL top (foundL l)])→z'.b=z.b→FY S S' z.fp z'.fp→Q (.tup ((othersL l).map AI)) S'):AM c (n+8) (.ref 263) [.ref z.b,.tup (l.map AI)] S Q:=by
 obtain⟨ta,hta,hd0⟩:=h.top hl;refine(AP F.FJ (names:=["self","attributes"]) (by kernel_rfl) (fun _ _ _ _ _ _ _ _ s g=>.of_eq (by kernel_rfl)) (by decide+kernel) rfl (by kernel_rfl) ?_).call;intro L env hc he;refine Aa he (by kernel_rfl) ?_;refine Aw ?_;refine AE ⟨ble rfl,fun od hod=>?_⟩;have ss1:A9 S (put S od (.list [])):=(A9.refl S).put hod;refine Aa he (by kernel_rfl) ?_;refine Aw ?_;refine AE ⟨ble rfl,fun fd hfd=>?_⟩;have hfdS:=ss1.none hfd;have of:od≠fd:=(Kf hfd).symm;refine AH ?_;refine CF ?_;refine AB he (by kernel_rfl) (by rfl) ?_;refine⟨_,_,.tup _,?_⟩
 refine A7 (f:=AI) (Wa S l od fd _)
  (fun _ _ _ _=>trivial) ?_ ?_ l _ _ ⟨[],[],fun _ h=>h,rfl,rfl,by simpa using hlen,by refine rr (AA _ _ of) (rr (AC ..) ?_);rfl,AC ..,Kp.refl _ _,(ss1.put (o:=.list []) (ss1.none hfd))⟩
 ·rintro p r ρ S2 ⟨os,fs,hin,ho,hf,hle,hod2,hfd2,hkp,hS2⟩;rw[List.length_cons]at hle;refine Cy (by rfl) (Ag he (by kernel_rfl) (Ag he (by kernel_rfl) (BR ?_)));refine Aa he (by kernel_rfl) ?_;refine AL F.EV F.Ee he (by kernel_rfl) ?_;refine An he (by kernel_rfl) (by rfl) ?_;refine Hq F (ok p (hin p (.head _))).n (ok p (hin p (.head _))).len ?_;have kp3:=((hkp.cons (x:="name") (v:=.str p.1) (by decide+kernel)).cons (x:="value") (v:=.str p.2) (by decide+kernel)).cons (x:="prefix") (v:=VS (declL p.1)) (by decide+kernel);refine BC ?_;refine AB he (by kernel_rfl) (by rfl) ?_;refine Dl ?_;refine E5 ⟨_,rfl,?_⟩
  cases hdl:declL p.1 with
  |none=>
   rw[hdl]at kp3;refine⟨fun _=>?_,fun hb=>tf hb⟩;refine AH ?_;refine Av he ?_;refine AY Al ?_;refine AB he (by kernel_rfl) ((kp3 "others" (by decide+kernel)).trans (by rfl)) ?_;refine⟨.inl ⟨_,hod2,rfl⟩,?_⟩;refine An he (by kernel_rfl) (by rfl) ?_;refine Ar hod2 (lm (Wr hle)) ?_;refine Ad ?_;have e1:othersL (p::r)=p::othersL r:=by unfold othersL;refine rr List.filter_cons (rr hdl ?_);rfl
   have e2:foundL (p::r)=foundL r:=by unfold foundL;refine rr List.filterMap_cons (rr hdl ?_);rfl
   refine⟨os++[p],fs,fun x hx=>hin x (.tail _ hx),by refine rl ho (rr e1 ?_);simp,by exact rl hf (rr e2 rfl),by simp;exact bq hle,?_,(AA _ _ of.symm).trans hfd2,kp3,hS2.put hod⟩;refine rr (AC ..) (rr List.map_append ?_);rfl
  |some u=>
   rw[hdl]at kp3;refine⟨fun hb=>ft hb,fun _=>?_⟩;refine AH ?_;refine Av he ?_;refine AL F.GB F.Fz he (by kernel_rfl) ?_;refine An he (by kernel_rfl) (by rfl) ?_;refine JB F ((ok p (hin p (.head _))).b u hdl) ?_;refine AH ?_;refine Av he ?_;refine AY Al ?_;refine AB he (by kernel_rfl) ((kp3 "found" (by decide+kernel)).trans (by rfl)) ?_;refine⟨.inl ⟨_,hfd2,rfl⟩,?_⟩;refine An he (by kernel_rfl) (by rfl) ?_;refine Ar hfd2 (lm (W9 hle)) ?_;refine Ad ?_;have e1:othersL (p::r)=othersL r:=by unfold othersL;refine rr List.filter_cons (rr hdl ?_);rfl
   have e2:foundL (p::r)=(u,p.2)::foundL r:=by unfold foundL;refine rr List.filterMap_cons (rr hdl ?_);rfl
   refine⟨os,fs++[(u,p.2)],fun x hx=>hin x (.tail _ hx),by exact rl ho (rr e1 rfl),by refine rl hf (rr e2 ?_);simp,by simp;exact Zq hle,(AA _ _ of).trans hod2,?_,kp3,hS2.put hfdS⟩;refine rr (AC ..) (rr List.map_append ?_);rfl
 rintro ρ S2 ⟨os,fs,hin,ho,hf,hle,hod2,hfd2,hkp,hS2⟩;have eo:os=othersL l:=by exact rl ho ((List.append_nil os).symm)
 have ef:fs=foundL l:=by exact rl hf ((List.append_nil fs).symm)
 clear ho hf hin ss1;rw[eo]at hod2 hle;rw[ef]at hfd2 hle;rw[List.length_nil]at hle
 have bsub:∀{S'},A9 S S'→BI S' z scs:=fun e=>h.same fun a ha=>by
  cases w:S a with
  |none=>exact absurd w (h.has a ha)
  |some o=>exact e _ _ w
 refine AQ ?_;refine Aa he (by kernel_rfl) ?_;refine DW ?_;refine A1 F.BK ?_;refine AB he (by kernel_rfl) ((hkp "self" (by decide+kernel)).trans (by rfl)) ?_;refine⟨_,_,_,_,rfl,(bsub hS2).inst,(bsub hS2).ns,by rfl,rfl,?_⟩;refine Fg ?_;refine AS ?_;refine Db ?_;refine CJ (T:="list") (.inl ⟨_,(bsub hS2).sl,rfl⟩) slot_list_getitem.lookup ?_ _ (fun _ _=>rfl);refine GT (.inl (bsub hS2).sl) (x:=.ref ta) (by refine rr List.getLast?_map (rr hta ?_);rfl) ?_
 have rest:∀ρ3 S3 sa,AG ρ3 "self"=some (.ref z.b)→AG ρ3 "others"=some (.ref od)→AG ρ3 "found"=some (.ref fd)→AG ρ3 "scope"=some (.ref sa)→A9 S S3→S3 od=some (.list ((othersL l).map AI))→S3 fd=some (.list ((foundL l).map AI))→
   S3 sa=some (.dict (DF (enterL top (foundL l))))→(sa∈z.ds∨S sa=none)→sa∉[z.b,z.d,z.sl,z.tl]→Ok c (n+7) L RF (execs ((dBody (MD 38 1)).drop 5) env) ρ3 S3 (Fin Q):=by
  intro ρ3 S3 sa r1 r2 r3 r4 hS3 ho3 hf3 hs3 hsa hsn;have b3:=bsub hS3;obtain⟨ts,ht3,htl⟩:=b3.tl;have nd:=h.nd;simp only[List.nodup_cons,List.mem_cons,List.not_mem_nil,or_false,not_or,not_false_eq_true,List.nodup_nil,and_true]at nd;obtain⟨⟨n1,n2,n3⟩,⟨n4,n5⟩,n6⟩:=nd;refine AH ?_;refine Av he ?_;refine AY Al ?_;refine A1 F.BK ?_;refine AB he (by kernel_rfl) r1 ?_;refine⟨_,_,_,_,rfl,b3.inst,b3.ns,by rfl,rfl,?_⟩;refine⟨.inl ⟨_,b3.sl,rfl⟩,?_⟩;refine An he (by kernel_rfl) (Cv r4 (by rfl)) ?_;refine Ar b3.sl (by exact rr (List.length_map ..) (rr h.len (Zp hn))) ?_;refine AH ?_;refine Av he ?_;refine AY Al ?_;refine A1 F.DR ?_;refine AB he (by kernel_rfl) r1 ?_;refine⟨_,_,_,_,rfl,(AA _ _ n2).trans b3.inst,(AA _ _ n4).trans b3.ns,by rfl,rfl,?_⟩;have ht4:put S3 z.sl (.list (z.ds.map AV.ref++[AV.ref sa])) z.tl=some (.list ts):=(AA _ _ (Ne.symm n6)).trans ht3;refine⟨.inl ⟨_,ht4,rfl⟩,?_⟩;refine AK ?_;refine Ap (id:="tuple") F.Gx he (by kernel_rfl) ?_;refine An he (by kernel_rfl) (Cv r3 (by rfl)) ?_;have nfs:fd≠z.sl:=(by first|exact As hfdS h.sl|exact(As h.sl hfdS).symm)
  have nos:od≠z.sl:=(by first|exact As hod h.sl|exact(As h.sl hod).symm)
  have not:od≠z.tl:=fun w=>by obtain⟨ts0,q1,_⟩:=h.tl;rw[w,q1]at hod;cases hod
  refine E0 ((AA _ _ nfs).trans hf3) (lm (Xi hle)) ?_;refine AE ?_;refine Ar ht4 (by exact WU hn htl) ?_;refine Ae ?_;refine Ap (id:="tuple") F.Gx he (by kernel_rfl) ?_;refine An he (by kernel_rfl) (Cv r2 (by rfl)) ?_;refine E0 ((AA _ _ not).trans ((AA _ _ nos).trans ho3)) (lm (V9 hle)) ?_
  have hds:∀a∈z.ds,a≠z.sl∧a≠z.tl:=fun a ha=>by
   have:=h.ap a ha;simp only[List.mem_cons,List.not_mem_nil,or_false,not_or]at this;exact⟨this.2.2.1,this.2.2.2⟩
  have hsa2:sa≠z.sl∧sa≠z.tl:=by
   simp only[List.mem_cons,List.not_mem_nil,or_false,not_or]at hsn;exact⟨hsn.2.2.1,hsn.2.2.2⟩
  refine q _ ⟨z.b,z.d,z.sl,z.tl,z.ds++[sa]⟩ ⟨?_,?_,?_,⟨_,AC ..,by simp;exact TL htl⟩,by simp[h.len],fun i a l2 ha hl2=>?_,h.nd,fun a ha=>?_⟩ rfl ⟨fun a o ha e=>?_,fun a ha=>?_⟩
  ·exact(AA _ _ n3).trans ((AA _ _ n2).trans b3.inst)
  ·exact(AA _ _ n5).trans ((AA _ _ n4).trans b3.ns)
  ·refine rr (AA _ _ n6) (rr (AC ..) (rr List.map_append ?_));rfl
  ·by_cases hi:i<z.ds.length
   ·rw[List.getElem?_append_left hi]at ha;rw[List.getElem?_append_left (by exact rl h.len hi)]at hl2;obtain⟨p1,p2⟩:=hds a (List.mem_of_getElem? ha);refine rr (AA _ _ p2) (rr (AA _ _ p1) ?_);exact b3.sc i a l2 ha hl2
   ·have hi':i=z.ds.length:=by
     have:=(List.getElem?_eq_some_iff.mp ha).1;rw[List.length_append,List.length_singleton]at this;exact PV hi this
    subst hi';rw[List.getElem?_append_right (Nat.le_refl _)]at ha;rw[List.getElem?_append_right (by exact rr h.len (Nat.le_refl _))]at hl2;simp at ha;simp[h.len]at hl2;subst ha;subst hl2;refine rr (AA _ _ hsa2.2) (rr (AA _ _ hsa2.1) ?_);exact hs3
  ·rcases List.mem_append.mp ha with ha|ha
   ·exact h.ap a ha
   ·exact rr (List.mem_singleton.mp ha) hsn
  ·have q1:a≠z.sl:=fun w=>ha (w▸mi 2 rfl);have q2:a≠z.tl:=fun w=>ha (w▸mi 3 rfl);exact rr (AA _ _ q2) (rr (AA _ _ q1) (hS3 _ _ e))
  ·simp only[Em.fp,List.mem_cons,List.mem_append,List.not_mem_nil,or_false]at ha ⊢;rcases ha with w|w|w|w|w|w
   ·exact .inl (.inl w)
   ·exact .inl (.inr (.inl w))
   ·exact .inl (.inr (.inr (.inl w)))
   ·exact .inl (.inr (.inr (.inr (.inl w))))
   ·exact .inl (.inr (.inr (.inr (.inr w))))
   ·subst w;rcases hsa with w|w
    ·exact .inl (.inr (.inr (.inr (.inr w))))
    ·exact .inr w
 have kp1:=(hkp.step (Kp.refl ["name","value","prefix","scope","uri"] _) (by decide+kernel)).cons (x:="scope") (v:=.ref ta) (by decide+kernel);refine BC ?_;refine AB he (by kernel_rfl) ((kp1 "found" (by decide+kernel)).trans (by rfl)) ?_;refine Aw ?_;refine AE ⟨ble rfl,fun nl hnl=>?_⟩;have nlf:nl≠fd:=(by first|exact As hnl hfd2|exact(As hfd2 hnl).symm)
 have nlo:nl≠od:=(by first|exact As hnl hod2|exact(As hod2 hnl).symm)
 have nlt:nl≠ta:=(by first|exact As hnl ((hS2 _ _ hd0:S2 ta=some (.dict (DF top))))|exact(As ((hS2 _ _ hd0:S2 ta=some (.dict (DF top)))) hnl).symm)
 refine Mo ((AA _ _ nlf.symm).trans hfd2) (AC ..) ⟨_,rfl,?_⟩;have hS3:A9 S (put S2 nl (.list [])):=hS2.put (hS2.none hnl);refine⟨fun hb=>?_,fun hb=>?_⟩
 ·refine Aa he (by kernel_rfl) ?_;refine Ap (id:="dict") F.L3 he (by kernel_rfl) ?_;refine An he (by kernel_rfl) (by rfl) ?_;refine Me ((AA _ _ nlt.symm).trans (hS2 _ _ hd0:S2 ta=some (.dict (DF top)))) (by unfold DF;exact rr (List.length_map ..) (NE htop)) fun dd hdd=>?_;have kp2:=kp1.cons (x:="scope") (v:=.ref dd) (by decide+kernel);have hddS:=hS3.none hdd;have df:dd≠fd:=(As hfd2 (HH hdd)).symm;have dod:dd≠od:=(As hod2 (HH hdd)).symm;have hf3:put (put S2 nl (.list [])) dd (.dict (DF top)) fd=some (.list ((foundL l).map AI)):=(AA _ _ df.symm).trans ((AA _ _ nlf.symm).trans hfd2);refine AH ?_;refine CF ?_;refine AB he (by kernel_rfl) ((kp2 "found" (by decide+kernel)).trans (by rfl)) ?_;refine⟨_,_,.list (.inl hf3),?_⟩
  refine A7 (f:=AI) (Yy S top l od fd dd _)
   (fun l ρ S' hP=>by obtain⟨_,_,_,_,he2,_⟩:=hP;exact .inl he2) ?_ ?_ _ _ _ ⟨top,rfl,by exact W2 htop hle,AC ..,hf3,((AA _ _ dod.symm).trans ((AA _ _ nlo.symm).trans hod2):put (put S2 nl (.list [])) dd (.dict (DF top)) od=some (.list ((othersL l).map AI))),Kp.refl _ _,hS3.put hddS⟩
  ·rintro p r ρ4 S4 ⟨sc,hsc,hle4,hd4,hf4,ho4,hkp4,hS4⟩;rw[List.length_cons]at hle4;refine Cy (by rfl) (Ag he (by kernel_rfl) (Ag he (by kernel_rfl) (BR ?_)));have kp4:=(hkp4.cons (x:="prefix") (v:=.str p.1) (by decide+kernel)).cons (x:="uri") (v:=.str p.2) (by decide+kernel);refine AH ?_;refine Di ?_;refine AB he (by kernel_rfl) (by rfl) ?_;refine AB he (by kernel_rfl) ((kp4 "scope" (by decide+kernel)).trans (by rfl)) ?_;refine AB he (by kernel_rfl) (by rfl) ?_;refine Lj hd4 (by unfold DF;exact rr (List.length_map ..) (XE hle4)) ?_;refine AQ ?_;refine⟨putS sc p.1 p.2,hsc,by have:=Jn sc p.1 p.2;exact SZ hle4 this,?_,(AA _ _ df.symm).trans hf4,(AA _ _ dod.symm).trans ho4,kp4,hS4.put hddS⟩;exact rr (AC ..) (rr (Lo ..) rfl)
  ·rintro ρ4 S4 ⟨sc,hsc,hle4,hd4,hf4,ho4,hkp4,hS4⟩;refine Ad ?_
   exact rest ρ4 S4 dd ((hkp4.step kp2 (by decide+kernel) "self" (by decide+kernel)).trans (by rfl)) ((hkp4.step kp2 (by decide+kernel) "others" (by decide+kernel)).trans (by rfl)) ((hkp4.step kp2 (by decide+kernel) "found" (by decide+kernel)).trans (by rfl)) ((hkp4 "scope" (by decide+kernel)).trans (by rfl)) hS4 ho4 hf4
    (by refine rr hd4 (rl hsc ?_);rfl) (.inr hddS) (fun w=>by
     simp only[List.mem_cons,List.not_mem_nil,or_false]at w
     rcases w with w|w|w|w<;>exact h.has dd (by refine rr w ?_;simp[Em.fp]) hddS)
 ·have e0:(foundL l).map AI=[]:=by simpa using hb
  refine AQ ?_;refine rest _ _ ta ((kp1 "self" (by decide+kernel)).trans (by rfl)) ((kp1 "others" (by decide+kernel)).trans (by rfl)) ((kp1 "found" (by decide+kernel)).trans (by rfl)) (by rfl) hS3 ((AA _ _ nlo.symm).trans hod2) ((AA _ _ nlf.symm).trans hfd2) ?_ (.inl (List.mem_of_getLast? hta:ta∈z.ds)) (h.ap ta (List.mem_of_getLast? hta:ta∈z.ds));refine rr (List.map_eq_nil_iff.mp e0:foundL l=[]) ?_;exact(AA _ _ nlt.symm).trans (hS2 _ _ hd0:S2 ta=some (.dict (DF top)))
end
noncomputable def Dj(n:Str):Str:=match Txt.split n ":" with|[p,_]=>p|_=>""
noncomputable def ER(n:Str):Str:=match Txt.split n ":" with|[_,l]=>l|_=>n
structure Tl(sc:Sc)(n:Str):Prop where
 nm:Gq n (Dj n) (ER n)
 nx:Dj n≠("xmlns":Str)
 bd:Dj n≠("":Str)→(AG sc (Dj n)).isSome=true
noncomputable def DN(sc:Sc)(n:Str):Str:=if Dj n=("":Str)then("":Str)else EI sc (Dj n)
noncomputable def JY(sc:Sc)(p:Str×Str):List Str:=[DN sc p.1,ER p.1]
section
variable{c:Cx}{n:Nat}{S:AD}{Q:AV→AD→Prop}{z:Em}{scs:List Sc}
theorem BI.sub{S':AD}(h:BI S z scs)(e:A9 S S'):BI S' z scs:=h.same fun a ha=>by
 cases w:S a with
 |none=>exact absurd w (h.has a ha)
 |some o=>exact e _ _ w
inductive Zt(S:AD)(sc:Sc)(l:List (Str×Str))(d:Addr)(ρ0:AJ)(r:List (Str×Str))(ρ:AJ)(S':AD):Prop
 |mk (ks) (h0:ks++r.map (JY sc)=l.map (JY sc)) (h1:(∀p∈r,p∈l)) (h2:S' d=some (.tdict ks)) (h3:Kp ["name","value","expanded"] ρ ρ0) (h4:A9 S S')
theorem HK(F:Af c.K)(h:BI S z scs){sc:Sc}(hl:scs.getLast?=some sc){l:List (Str×Str)}(hlen:l.length≤50)(ok:∀p∈l,Tl sc p.1)(hnd:(l.map (JY sc)).Nodup)
  (q:∀S',A9 S S'→Q .none S'):AM c (n+9) (.ref 306) [.ref z.b,.tup (l.map AI)] S Q:=by
 refine(AP F.Bt (names:=["self","attributes"]) (by kernel_rfl) (fun _ _ _ _ _ _ _ _ s g=>.of_eq (by kernel_rfl)) (by decide+kernel) rfl (by kernel_rfl) ?_).call;intro L env hc he;refine Aa he (by kernel_rfl) ?_;refine PW fun d hd=>?_;refine AH ?_;refine CF ?_;refine AB he (by kernel_rfl) (by rfl) ?_;refine⟨_,_,.tup _,?_⟩
 refine A7 (f:=AI) (Zt S sc l d _)
  (fun _ _ _ _=>trivial) ?_ ?_ l _ _ ⟨[],rfl,fun _ h=>h,AC ..,Kp.refl _ _,(A9.refl S).put hd⟩
 ·rintro p r ρ S2 ⟨ks,hks,hin,hd2,hkp,hS2⟩;have okp:=ok p (hin p (.head _));have b2:=h.sub hS2
  have hkl:ks.length≤50:=by
   have:=congrArg List.length hks;rw[List.length_append,List.length_map,List.length_map]at this;exact U0 hlen this
  have hnot:JY sc p∉ks:=fun w=>by
   rw[←hks,List.nodup_append]at hnd;exact hnd.2.2 _ w _ (List.mem_map_of_mem (.head _)) rfl
  refine Cy (by rfl) (Ag he (by kernel_rfl) (Ag he (by kernel_rfl) (BR ?_)));have kp2:=(hkp.cons (x:="name") (v:=.str p.1) (by decide+kernel)).cons (x:="value") (v:=.str p.2) (by decide+kernel);refine Aa he (by kernel_rfl) ?_;refine Cf F.Ba he (by kernel_rfl) ((kp2 "self" (by decide+kernel)).trans (by rfl)) b2.inst b2.ns (by rfl) ?_;refine An he (by kernel_rfl) (by rfl) ?_;refine Ie F b2 hl okp.nm okp.nx okp.bd fun e o hee=>?_;have hed:e≠d:=(by first|exact As hee hd2|exact(As hd2 hee).symm)
  have hd3:put S2 e o d=some (.tdict ks):=(AA _ _ hed.symm).trans hd2;have kp3:=kp2.cons (x:="expanded") (v:=.tup [.str (DN sc p.1),.str (ER p.1)]) (by decide+kernel);refine BC ?_;refine AB he (by kernel_rfl) (by rfl) ?_;refine AB he (by kernel_rfl) ((kp3 "seen" (by decide+kernel)).trans (by rfl)) ?_;refine SE (k:=JY sc p) hd3 hnot ⟨_,rfl,?_⟩;refine⟨fun hb=>ft hb,fun _=>?_⟩;refine AQ ?_;refine AH ?_;refine Di ?_;refine AB he (by kernel_rfl) (by rfl) ?_;refine AB he (by kernel_rfl) ((kp3 "seen" (by decide+kernel)).trans (by rfl)) ?_;refine AB he (by kernel_rfl) (by rfl) ?_;refine QR (k:=JY sc p) hd3 hnot (by exact Wc hkl) ?_;refine AQ ?_;exact⟨ks++[JY sc p],by refine rl hks ?_;simp,fun x hx=>hin x (.tail _ hx),AC ..,kp3,(hS2.put (hS2.none hee)).put hd⟩
 ·rintro ρ S2 ⟨ks,hks,hin,hd2,hkp,hS2⟩;refine Ad ?_;exact q S2 hS2
end
structure M6(S:AD)(y:Bg)(T:List Nd)(z:Em)(scs:List Sc):Prop where
 t:AW S y T
 b:BI S z scs
 d:∀a∈z.fp,a∉y.fp
section
variable{S S':AD}{y y':Bg}{T T':List Nd}{z z':Em}{scs scs':List Sc}
theorem M6.sub(h:M6 S y T z scs)(e:A9 S S'):M6 S' y T z scs:=⟨h.t.sub e,h.b.sub e,h.d⟩
theorem M6.tree(h:M6 S y T z scs)(ht:AW S' y' T')(f:FY S S' y.fp y'.fp):M6 S' y' T' z scs:=
 ⟨ht,h.b.same fun a ha=>by
  cases w:S a with
  |none=>exact absurd w (h.b.has a ha)
  |some o=>exact f.keep a o (h.d a ha) w,fun a ha hy=>(f.new a hy).elim (h.d a ha) (h.b.has a ha)⟩
theorem M6.bind(h:M6 S y T z scs)(hb:BI S' z' scs')(f:FY S S' z.fp z'.fp):M6 S' y T z' scs':=
 ⟨h.t.same fun a ha=>by
  cases w:S a with
  |none=>exact absurd w (h.t.has a ha)
  |some o=>exact f.keep a o (fun q=>h.d a q ha) w,hb,fun a ha hy=>(f.new a ha).elim (fun q=>h.d a q hy) (h.t.has a hy)⟩
theorem FY.left(f:FY S S' y.fp y'.fp):FY S S' (y.fp++z.fp) (y'.fp++z.fp):=
 ⟨fun a o ha e=>f.keep a o (fun w=>ha (List.mem_append_left _ w)) e,fun a ha=>(List.mem_append.mp ha).elim (fun w=>(f.new a w).imp_left (List.mem_append_left _)) fun w=>.inl (List.mem_append_right _ w)⟩
theorem FY.right(f:FY S S' z.fp z'.fp):FY S S' (y.fp++z.fp) (y.fp++z'.fp):=
 ⟨fun a o ha e=>f.keep a o (fun w=>ha (List.mem_append_right _ w)) e,fun a ha=>(List.mem_append.mp ha).elim (fun w=>.inl (List.mem_append_left _ w)) fun w=>(f.new a w).imp_left (List.mem_append_right _)⟩
theorem A9.frm{f:List Addr}(e:A9 S S'):FY S S' f f:=⟨fun a o _ h=>e a o h,fun _ h=>.inl h⟩
end
noncomputable def elNd(name uri loc:Str)(p e k m:Nat):Nd:=⟨"element",name,uri,loc,"",some p,[],(List.range m).map (e+1+k+·),(List.range k).map (e+1+·)⟩
noncomputable def KB(e:Nat)(q:Str×Str):Nd:=Bw "namespace" q.1 "" q.1 q.2 (some e)
noncomputable def Kg(e:Nat)(a:List Str):Nd:=Bw "attribute" (a.getD 2 "") (a.getD 0 "") (a.getD 1 "") (a.getD 3 "") (some e)
noncomputable def addKid(T:List Nd)(p:Nat):List Nd:=T.modify p fun z=>{z with kids:=z.kids++[T.length]}
noncomputable def A6(T:List Nd)(p:Nat)(name uri loc:Str)(ds:List (Str×Str))(as:List (List Str)):List Nd:=
 addKid T p++elNd name uri loc p T.length ds.length as.length::(ds.map (KB T.length)++as.map (Kg T.length))
theorem Bk(T:List Nd)(p:Nat):(addKid T p).length=T.length:=List.length_modify ..
theorem Dy{T:List Nd}{p:Nat}{name uri loc:Str}{ds:List (Str×Str)}{as:List (List Str)}:(A6 T p name uri loc ds as).length=T.length+1+ds.length+as.length:=by
 unfold A6;simp[Bk];exact Y6
theorem Kr{α:Type}(f:α→α)(x:α)(r:List α):∀(l:List α),(l++x::r).modify l.length f=l++f x::r:=by
 intro l
 induction l with
 |nil=>rfl
 |cons a l ih=>show a::(l++x::r).modify l.length f=_;refine rr ih ?_;rfl
theorem Mr{α:Type}(f:α→α)(r:List α):∀(l:List α) (p:Nat),p<l.length→(l++r).modify p f=l.modify p f++r:=by
 intro l
 induction l with
 |nil=>intro p h;cases h
 |cons a l ih=>
  intro p h
  cases p with
  |zero=>rfl
  |succ p=>show a::(l++r).modify p f=a::l.modify p f++r;refine rr (ih p (Nat.lt_of_succ_lt_succ h)) ?_;rfl
theorem SD{T:List Nd}{p:Nat}(hp:p<T.length)(name uri loc:Str):EJ T p (Bw "element" name uri loc "" (some p))=A6 T p name uri loc [] []:=by
 unfold EJ A6 addKid;refine rr (Mr _ _ _ _ hp) ?_;rfl
theorem PH{T:List Nd}{p:Nat}{name uri loc:Str}{ds:List (Str×Str)}{q:Str×Str}:Ms (A6 T p name uri loc ds []) T.length (KB T.length q)=A6 T p name uri loc (ds++[q]) []:=by
 unfold Ms;refine rr Dy ?_;unfold A6
 have e1:(addKid T p++elNd name uri loc p T.length ds.length ([]:List (List Str)).length::(ds.map (KB T.length)++([]:List (List Str)).map (Kg T.length))++[KB T.length q])=
  addKid T p++elNd name uri loc p T.length ds.length 0::(ds.map (KB T.length)++[KB T.length q]):=by simp
 refine rr e1 ?_
 conv=>lhs;arg 2;rw[←Bk T p]
 refine rr (Kr ..) ?_;simp[elNd,List.range_succ]
theorem O3{T:List Nd}{p:Nat}{name uri loc:Str}{ds:List (Str×Str)}{as:List (List Str)}{q:List Str}:Kw (A6 T p name uri loc ds as) T.length (Kg T.length q)=A6 T p name uri loc ds (as++[q]):=by
 unfold Kw;refine rr Dy ?_;unfold A6
 have e1:(addKid T p++elNd name uri loc p T.length ds.length as.length::(ds.map (KB T.length)++as.map (Kg T.length))++[Kg T.length q])=
  addKid T p++elNd name uri loc p T.length ds.length as.length::(ds.map (KB T.length)++as.map (Kg T.length)++[Kg T.length q]):=by simp
 refine rr e1 ?_
 conv=>lhs;arg 2;rw[←Bk T p]
 refine rr (Kr ..) ?_;simp[elNd,List.range_succ]
theorem IT{T:List Nd}{p:Nat}{name uri loc:Str}{ds:List (Str×Str)}{as:List (List Str)}:(A6 T p name uri loc ds as)[T.length]?=some (elNd name uri loc p T.length ds.length as.length):=by
 unfold A6;refine rr (List.getElem?_append_right (by rw[Bk];exact Nat.le_refl _)) (rr (Bk ..) (rr (Nat.sub_self ..) ?_));rfl
theorem IZ{T:List Nd}{p:Nat}{name uri loc:Str}{ds:List (Str×Str)}{as:List (List Str)}{i:Nat}{q:Str×Str}(h:ds[i]?=some q):(A6 T p name uri loc ds as)[T.length+1+i]?=some (KB T.length q):=by
 have hi:=(List.getElem?_eq_some_iff.mp h).1;unfold A6;refine rr (List.getElem?_append_right (by rw[Bk];exact V5)) (rr (Bk ..) (rr (show T.length+1+i-T.length=i+1 by exact Zr) (rr List.getElem?_cons_succ (rr (List.getElem?_append_left (by simpa using hi)) (rr List.getElem?_map (rr h ?_))))));rfl
theorem Ii{T:List Nd}{p:Nat}{name uri loc:Str}{ds:List (Str×Str)}{as:List (List Str)}{i:Nat}{q:List Str}(h:as[i]?=some q):(A6 T p name uri loc ds as)[T.length+1+ds.length+i]?=some (Kg T.length q):=by
 have hi:=(List.getElem?_eq_some_iff.mp h).1;unfold A6;refine rr (List.getElem?_append_right (by rw[Bk];exact YS)) (rr (Bk ..) (rr (show T.length+1+ds.length+i-T.length=(ds.length+i)+1 by exact cA) (rr List.getElem?_cons_succ (rr (List.getElem?_append_right (by simp)) (rr (List.length_map ..) (rr (show ds.length+i-ds.length=i by exact Vz) (rr List.getElem?_map (rr h ?_))))))));rfl
noncomputable def asOf(sc:Sc)(l:List (Str×Str)):List (List Str):=(othersL l).map fun q=>[DN sc q.1,ER q.1,q.1,q.2]
structure JH(top:Sc)(name:Str)(l:List (Str×Str)):Prop where
 len:l.length≤20
 at':∀p∈l,NI p
 tl:top.length≤100
 nm:Gq name (Dj name) (ER name)
 nx:Dj name≠("xmlns":Str)
 bd:Dj name≠("":Str)→(AG (enterL top (foundL l)) (Dj name)).isSome=true
 us:∀p∈othersL l,Tl (enterL top (foundL l)) p.1
 ex:((othersL l).map (JY (enterL top (foundL l)))).Nodup
 nd:((foundL l).map (·.1)).Nodup
section
variable{c:Cx}{n:Nat}{S:AD}{Q:AV→AD→Prop}{y:Bg}{T:List Nd}{z:Em}{scs:List Sc}
inductive WT(S:AD)(y:Bg)(T:List Nd)(z:Em)(scs:List Sc)(p:Nat)(name:Str)(l:List (Str×Str))(z1:Em)(sc:Sc)(uri loc:Str)(r:List (Str×Str))(S5:AD):Prop
 |mk (ds y') (h0:∀p∈r,p∈l) (h1:ds++foundL r=foundL l) (h2:ds.length+r.length≤l.length) (h3:M6 S5 y' (A6 T p name uri loc ds []) z1 (scs++[sc])) (h4:y'.t=y.t) (h5:FY S S5 (y.fp++z.fp) (y'.fp++z1.fp))
inductive ZO(S:AD)(y:Bg)(T:List Nd)(z:Em)(scs:List Sc)(p:Nat)(name:Str)(l:List (Str×Str))(z1:Em)(sc:Sc)(uri loc:Str)(ρ0:AJ)(r:List (Str×Str))(ρ:AJ)(S':AD):Prop
 |mk (os y') (h0:(∀p∈r,p∈othersL l)) (h1:os++r=othersL l) (h2:M6 S' y' (A6 T p name uri loc (foundL l) (os.map fun q=>[DN sc q.1,ER q.1,q.1,q.2])) z1 (scs++[sc])) (h3:y'.t=y.t) (h4:FY S S' (y.fp++z.fp) (y'.fp++z1.fp)) (h5:Kp ["told","value","uri","local"] ρ ρ0)
inductive bJ(S:AD)(y:Bg)(T:List Nd)(z:Em)(scs:List Sc)(p:Nat)(name:Str)(l:List (Str×Str))(z1:Em)(sc:Sc)(uri loc:Str)(ρ0:AJ)(r:List (Str×Str))(ρ:AJ)(S':AD):Prop
 |mk (ds y') (h0:(∀p∈r,p∈l)) (h1:ds++foundL r=foundL l) (h2:ds.length+r.length≤l.length) (h3:M6 S' y' (A6 T p name uri loc ds []) z1 (scs++[sc])) (h4:y'.t=y.t) (h5:FY S S' (y.fp++z.fp) (y'.fp++z1.fp)) (h6:Kp ["told","value"] ρ ρ0)
set_option maxHeartbeats 4000000 in
theorem Mm(F:Af c.K)(h:M6 S y T z scs){p:Nat}{x:Nd}{name:Str}{l:List (Str×Str)}{top:Sc}(hT:T.length+l.length≤900)(hx:T[p]?=some x)(hk:x.kind="root"∨x.kind="element")(hkn:x.kids.length≤1000)
  (hl:scs.getLast?=some top) (hn:scs.length≤400) (ok:JH top name l)
  (q:∀S' y' z',M6 S' y' (A6 T p name (EI (enterL top (foundL l)) (Dj name)) (ER name) (foundL l) (asOf (enterL top (foundL l)) l)) z' (scs++[enterL top (foundL l)])→y'.t=y.t→z'.b=z.b→FY S S' (y.fp++z.fp) (y'.fp++z'.fp)→Q (natV T.length) S'):
  AM c (n+10) (.ref 335) [.ref y.t,natV p,.str name,.tup (l.map AI),.ref z.b] S Q:=by
 have hpT:p<T.length:=(List.getElem?_eq_some_iff.mp hx).1;have hlen:=ok.len;have hfl:(foundL l).length≤l.length:=List.length_filterMap_le ..;have hol:(othersL l).length≤l.length:=List.length_filter_le ..;refine(AP F.Io (names:=["tree","parent","name","attributes","names"]) (by kernel_rfl) (fun _ _ _ _ _ _ _ _ s g=>.of_eq (by kernel_rfl)) (by decide+kernel) rfl (by kernel_rfl) ?_).call;intro L env hc he;refine BC ?_;refine AB he (by kernel_rfl) (by rfl) ?_;refine Dl ?_;refine E5 ⟨_,rfl,?_⟩;refine⟨fun hb=>ft hb,fun hb=>?_⟩;refine AQ ?_;refine Aa he (by kernel_rfl) ?_;refine Cf F.FO he (by kernel_rfl) (by rfl) h.b.inst h.b.ns (by rfl) ?_;refine An he (by kernel_rfl) (by rfl) ?_;refine RZ F h.b hl (by exact bF hn) (by exact eE hlen) ok.at' ok.tl fun S1 z1 hb1 hzb f1=>?_;have h1:=h.bind hb1 f1;have fr1:FY S S1 (y.fp++z.fp) (y.fp++z1.fp):=f1.right;have hl1:(scs++[enterL top (foundL l)]).getLast?=some (enterL top (foundL l)):=by simp
 have us:=ok.us;have ex:=ok.ex;have bd:=ok.bd;revert hl1 q h1 hb1 us ex bd;generalize hsc:enterL top (foundL l)=sc;intro q hb1 h1 hl1 us ex bd;refine AH ?_;refine CB ?_ (BB he (by with_unfolding_all rfl));refine Cf F.Ba he (by kernel_rfl) (by rfl) (hzb▸h1.b.inst) h1.b.ns (by rfl) ?_;refine An he (by kernel_rfl) (by rfl) ?_;refine rl hzb ?_;refine Mi F h1.b hl1 ok.nm ok.nx bd fun d o hd=>?_;refine Cy (by rfl) (Ag he (by kernel_rfl) (Ag he (by kernel_rfl) (BR ?_)));have s2:A9 S1 (put S1 d o):=(A9.refl _).put hd;have h2:=h1.sub s2;have fr2:=fr1.trans (s2.frm (f:=y.fp++z1.fp));clear h1 fr1 hb1 f1;revert h2 fr2;generalize put S1 d o=S2;clear s2 hd;intro h2 fr2;refine Aa he (by kernel_rfl) ?_;refine Cf F.EA he (by kernel_rfl) (by rfl) h2.t.inst h2.t.ns (by rfl) ?_;refine An he (by kernel_rfl) (by rfl) ?_;refine Kj F h2.t (by exact YI hT) hx hk hkn fun S3 y3 h3t g3 f3=>?_;rw[SD hpT]at h3t;have h3:=h2.tree h3t f3;have fr3:FY S S3 (y.fp++z.fp) (y3.fp++z1.fp):=fr2.trans f3.left;have hyt:y3.t=y.t:=g3.1;clear h3t g3 f3 fr2 h2;generalize hu:EI sc (Dj name)=uri;generalize hlc:ER name=loc;rw[hu,hlc]at h3;rw[hu,hlc]at q;refine AH ?_;refine CF ?_;refine AB he (by kernel_rfl) (by rfl) ?_;refine⟨_,_,.tup _,?_⟩
 refine A7 (f:=AI) (bJ S y T z scs p name l z1 sc uri loc _)
  (fun _ _ _ _=>trivial) ?_ ?_ l _ _ ⟨[],y3,fun _ h=>h,rfl,by simp,h3,hyt,fr3,Kp.refl _ _⟩
 ·rintro w r ρ S4 ⟨ds,y4,hin,hds,hle,h4,hy4,fr4,hkp⟩;have okw:=ok.at' w (hin w (.head _));rw[List.length_cons]at hle;refine Cy (by rfl) (Ag he (by kernel_rfl) (Ag he (by kernel_rfl) (BR ?_)));have kp1:=(hkp.cons (x:="told") (v:=.str w.1) (by decide+kernel)).cons (x:="value") (v:=.str w.2) (by decide+kernel)
  have step:∀u,declL w.1=some u→AM c (n+9) (.ref 455) [.ref y.t,natV T.length,.str u,.str w.2] S4 (fun _ S5=>WT S y T z scs p name l z1 sc uri loc r S5):=by
   rintro u hdl;have e2:foundL (w::r)=(u,w.2)::foundL r:=by unfold foundL;refine rr List.filterMap_cons (rr hdl ?_);rfl
   have hnd:=ok.nd;rw[←hds,e2,List.map_append,List.map_cons,List.nodup_append]at hnd;have hlT:(A6 T p name uri loc ds []).length=T.length+1+ds.length:=by refine rr Dy ?_;rfl
   refine rl hy4 ?_;refine JA F h4.t (by exact rr hlT (Wl hT hle)) IT rfl (by simp[elNd];exact aV hlen hle) ?_ ?_
   ·intro k hk;simp only[elNd,List.mem_map,List.mem_range]at hk;obtain⟨i,hi,rfl⟩:=hk;obtain⟨dq,hdq⟩:∃dq,ds[i]?=some dq:=⟨_,List.getElem?_eq_getElem hi⟩
    refine⟨_,IZ hdq,fun e=>?_⟩;exact hnd.2.2 dq.1 (List.mem_map_of_mem (List.mem_of_getElem? hdq)) u (.head _) e
   ·intro S5 y5 h5 g5 f5;have e3:=PH (T:=T) (p:=p) (name:=name) (uri:=uri) (loc:=loc) (ds:=ds) (q:=(u,w.2));unfold KB at e3;rw[e3]at h5;exact⟨ds++[(u,w.2)],y5,fun p hp=>hin p (.tail _ hp),by refine rl hds (rr e2 ?_);simp,by simp;exact U3 hle,h4.tree h5 f5,(g5.1.trans hy4),fr4.trans f5.left⟩
  refine BG he (by kernel_rfl) (by rfl) ?_;refine AZ ⟨_,rfl,?_⟩;refine⟨fun hb=>?_,fun hb=>?_⟩
  ·have hdl:declL w.1=some ("":Str):=by unfold declL;exact rr (if_pos (of_decide_eq_true hb)) rfl
   refine AH ?_;refine Av he ?_;refine Cf F.Bz he (by kernel_rfl) ((kp1 "tree" (by decide+kernel)).trans (by rfl)) (hy4▸h4.t.inst) h4.t.ns (by rfl) ?_;refine An he (by kernel_rfl) (Cv ((kp1 "element" (by decide+kernel)).trans (by rfl)) (by rfl)) ?_;refine(step _ hdl).mono fun v S5 hs5=>?_;refine Ad ?_;obtain⟨ds5,y5,q1,q2,q3,q4,q5,q6⟩:=hs5;exact⟨ds5,y5,q1,q2,q3,q4,q5,q6,kp1⟩
  ·have hb0:w.1≠"xmlns":=of_decide_eq_false hb;refine BC ?_;refine Hk he (by kernel_rfl) (by rfl) ?_;refine Aj ?_;refine Az ?_;refine AS ?_;refine Aj ?_;refine⟨_,_,_,rfl,rfl,rfl,?_⟩;refine CK (by have:=okw.len;exact L7 this) ?_ _ (fun _ _=>rfl);refine AT ?_;refine AZ ⟨_,rfl,?_⟩;refine⟨fun hb2=>?_,fun hb2=>?_⟩
   ·have hdl:declL w.1=some (Txt.slice w.1 (some 6) none):=by unfold declL;exact rr (if_neg hb0) (rr (if_pos (of_decide_eq_true hb2)) rfl)
    refine AH ?_;refine Av he ?_;refine Cf F.Bz he (by kernel_rfl) ((kp1 "tree" (by decide+kernel)).trans (by rfl)) (hy4▸h4.t.inst) h4.t.ns (by rfl) ?_;refine A0 he (by kernel_rfl) ((kp1 "element" (by decide+kernel)).trans (by rfl)) ?_;refine Br ?_;refine AB he (by kernel_rfl) (by rfl) ?_;refine Bs ?_;refine Az ?_;refine AS ?_;refine Aj ?_;refine Aj ?_;refine⟨_,_,_,rfl,rfl,rfl,?_⟩;refine CK (by have:=okw.len;exact L7 this) ?_ _ (fun _ _=>rfl);refine An he (by kernel_rfl) (by rfl) ?_;refine(step _ hdl).mono fun v S5 hs5=>?_;refine Ad ?_;refine AQ ?_;obtain⟨ds5,y5,q1,q2,q3,q4,q5,q6⟩:=hs5;exact⟨ds5,y5,q1,q2,q3,q4,q5,q6,kp1⟩
   ·refine Ad ?_;refine AQ ?_;have hdl:declL w.1=none:=by unfold declL;exact rr (if_neg hb0) (rr (if_neg (of_decide_eq_false hb2)) rfl)
    have e2:foundL (w::r)=foundL r:=by unfold foundL;refine rr List.filterMap_cons (rr hdl ?_);rfl
    exact⟨ds,y4,fun p hp=>hin p (.tail _ hp),by exact rl hds (rr e2 rfl),by exact Xt hle,h4,hy4,fr4,kp1⟩
 rintro ρ S4 ⟨ds,y4,hin,hds,hle,h4,hy4,fr4,hkp⟩;have ed:ds=foundL l:=by exact rl hds ((List.append_nil ds).symm)
 subst ed;clear hds hle hin h3 fr3;refine AQ ?_;refine AH ?_;refine Av he ?_;refine Cf F.Bv he (by kernel_rfl) ((hkp "names" (by decide+kernel)).trans (by rfl)) h4.b.inst h4.b.ns (by rfl) ?_;refine An he (by kernel_rfl) (Cv ((hkp "others" (by decide+kernel)).trans (by rfl)) (by rfl)) ?_;refine HK F h4.b hl1 (by exact We hlen hol) us ex fun S5 s5=>?_;have h5:=h4.sub s5;have fr5:=fr4.trans (s5.frm (f:=y4.fp++z1.fp));clear h4 fr4 s5 S4;refine AH ?_;refine CF ?_;refine AB he (by kernel_rfl) ((hkp "others" (by decide+kernel)).trans (by rfl)) ?_;refine⟨_,_,.tup _,?_⟩;have easOf:asOf sc l=(othersL l).map fun q=>[DN sc q.1,ER q.1,q.1,q.2]:=rfl
 refine A7 (f:=AI) (ZO S y T z scs p name l z1 sc uri loc _)
  (fun _ _ _ _=>trivial) ?_ ?_ (othersL l) _ _ ⟨[],y4,fun _ h=>h,rfl,h5,hy4,fr5,Kp.refl _ _⟩
 ·rintro w r ρ2 S6 ⟨os,y6,hin,hos,h6,hy6,fr6,hkp2⟩;have okw:=us w (hin w (.head _));have hol6:os.length+r.length+1=(othersL l).length:=by refine rl hos ?_;simp;exact Vi
  refine Cy (by rfl) (Ag he (by kernel_rfl) (Ag he (by kernel_rfl) (BR ?_)));have kp1:=(hkp2.cons (x:="told") (v:=.str w.1) (by decide+kernel)).cons (x:="value") (v:=.str w.2) (by decide+kernel);refine AH ?_;refine CB ?_ (BB he (by with_unfolding_all rfl));refine Cf F.Ba he (by kernel_rfl) ((kp1 "names" (by decide+kernel)).trans ((hkp "names" (by decide+kernel)).trans (by rfl))) h6.b.inst h6.b.ns (by rfl) ?_;refine An he (by kernel_rfl) (by rfl) ?_;refine Ie F h6.b hl1 okw.nm okw.nx okw.bd fun d o hd=>?_;have s7:A9 S6 (put S6 d o):=(A9.refl _).put hd;have h7:=h6.sub s7;have fr7:=fr6.trans (s7.frm (f:=y6.fp++z1.fp));clear h6 fr6;revert h7 fr7;generalize put S6 d o=S7;clear s7 hd;intro h7 fr7;refine Cy (by rfl) (Ag he (by kernel_rfl) (Ag he (by kernel_rfl) (BR ?_)));have kp2:=(kp1.cons (x:="uri") (v:=.str (DN sc w.1)) (by decide+kernel)).cons (x:="local") (v:=.str (ER w.1)) (by decide+kernel);have hlT:(A6 T p name uri loc (foundL l) (os.map fun q=>[DN sc q.1,ER q.1,q.1,q.2])).length=T.length+1+(foundL l).length+os.length:=by exact rr Dy (rr (List.length_map ..) rfl)
  refine AH ?_;refine Av he ?_;refine Cf F.DL he (by kernel_rfl) ((kp2 "tree" (by decide+kernel)).trans ((hkp "tree" (by decide+kernel)).trans (by rfl))) (hy6▸h7.t.inst) h7.t.ns (by rfl) ?_;refine An he (by kernel_rfl) (Cv ((kp2 "element" (by decide+kernel)).trans ((hkp "element" (by decide+kernel)).trans (by rfl))) (by rfl)) ?_;refine rl hy6 ?_;refine I8 F h7.t (by exact rr hlT (Wn hT hlen hfl hol hol6)) IT rfl (by simp[elNd];exact XD hlen hol hol6) ?_ ?_
  ·intro k hk;simp only[elNd,List.mem_map,List.mem_range,List.length_map]at hk;obtain⟨i,hi,rfl⟩:=hk;obtain⟨dq,hdq⟩:∃dq,os[i]?=some dq:=⟨_,List.getElem?_eq_getElem hi⟩
   have hdq':(os.map fun q=>[DN sc q.1,ER q.1,q.1,q.2])[i]?=some [DN sc dq.1,ER dq.1,dq.1,dq.2]:=by refine rr List.getElem?_map (rr hdq ?_);rfl
   refine⟨_,Ii hdq',fun e=>?_⟩;have hnd:=ex;rw[←hos,List.map_append,List.map_cons,List.nodup_append]at hnd;refine hnd.2.2 _ (List.mem_map_of_mem (List.mem_of_getElem? hdq)) _ (.head _) ?_;unfold JY;have e1:DN sc dq.1=DN sc w.1:=e.1;have e2:ER dq.1=ER w.1:=e.2;exact rr e1 (rr e2 rfl)
  ·intro S8 y8 h8 g8 f8;have e3:=O3 (T:=T) (p:=p) (name:=name) (uri:=uri) (loc:=loc) (ds:=foundL l) (as:=os.map fun q=>[DN sc q.1,ER q.1,q.1,q.2]) (q:=[DN sc w.1,ER w.1,w.1,w.2]);have e4:Kg T.length [DN sc w.1,ER w.1,w.1,w.2]=Bw "attribute" w.1 (DN sc w.1) (ER w.1) w.2 (some T.length):=rfl;rw[e4]at e3;have h8':AW S8 y8 (Kw (A6 T p name uri loc (foundL l) (os.map fun q=>[DN sc q.1,ER q.1,q.1,q.2])) T.length (Bw "attribute" w.1 (DN sc w.1) (ER w.1) w.2 (some T.length))):=h8;rw[e3]at h8';refine AQ ?_;exact⟨os++[w],y8,fun p hp=>hin p (.tail _ hp),by rw[←hos];simp,by rw[List.map_append];exact h7.tree h8' f8,g8.1.trans hy6,fr7.trans f8.left,kp2⟩
 ·rintro ρ2 S6 ⟨os,y6,hin,hos,h6,hy6,fr6,hkp2⟩;have eo:os=othersL l:=by exact rl hos ((List.append_nil os).symm)
  subst eo;refine AQ ?_;refine Ae ?_;refine AB he (by kernel_rfl) ((hkp2 "element" (by decide+kernel)).trans ((hkp "element" (by decide+kernel)).trans (by rfl))) ?_;exact q _ _ _ h6 hy6 hzb fr6
end
inductive Ev where
 |st (n:Str) (a:List (Str×Str))
 |en (n:Str)
 |tx (s:Str)
 |cm (s:Str)
 |pi (t d:Str)
noncomputable def Fd:Ev→AV
 |.st n a=>.tup [.str "start",.str n,.tup (a.map AI)]
 |.en n=>.tup [.str "end",.str n]
 |.tx s=>.tup [.str "text",.str s]
 |.cm s=>.tup [.str "comment",.str s]
 |.pi t d=>.tup [.str "instruction",.str t,.str d]
structure Sm(T:List Nd)(p:Nat)(x:Nd):Prop where
 at':T[p]?=some x
 k:x.kind="root"∨x.kind="element"
 n:x.kids.length≤900
 l:T.length≤900
inductive Hj:List Nd→Nat→List Sc→List Ev→List Nd→Nat→List Sc→Prop
 |nil {T:List Nd} {p:Nat} {scs:List Sc}:Hj T p scs [] T p scs
 |st {T T':List Nd} {p p':Nat} {scs scs':List Sc} {x:Nd} {top:Sc} {n:Str} {a:List (Str×Str)} {l:List Ev}:Sm T p x→T.length+a.length≤900→scs.getLast?=some top→scs.length≤400→JH top n a→
   Hj (A6 T p n (EI (enterL top (foundL a)) (Dj n)) (ER n) (foundL a) (asOf (enterL top (foundL a)) a)) T.length (scs++[enterL top (foundL a)]) l T' p' scs'→Hj T p scs (.st n a::l) T' p' scs'
 |en {T T':List Nd} {p p' r:Nat} {scs scs':List Sc} {x:Nd} {n:Str} {l:List Ev}:T[p]?=some x→p≠0→T.length≤900→x.name=n→x.par=some r→2≤scs.length→scs.length≤900→Hj T r scs.dropLast l T' p' scs'→Hj T p scs (.en n::l) T' p' scs'
 |tx {T T':List Nd} {p p':Nat} {scs scs':List Sc} {x:Nd} {s:Str} {l:List Ev}:Sm T p x→Hj (EJ T p (Bw "text" "" "" "" s (some p))) p scs l T' p' scs'→Hj T p scs (.tx s::l) T' p' scs'
 |cm {T T':List Nd} {p p':Nat} {scs scs':List Sc} {x:Nd} {s:Str} {l:List Ev}:Sm T p x→Hj (EJ T p (Bw "comment" "" "" "" s (some p))) p scs l T' p' scs'→Hj T p scs (.cm s::l) T' p' scs'
 |pi {T T':List Nd} {p p':Nat} {scs scs':List Sc} {x:Nd} {t d:Str} {l:List Ev}:Sm T p x→Hj (EJ T p (Bw "instruction" t "" t d (some p))) p scs l T' p' scs'→Hj T p scs (.pi t d::l) T' p' scs'
inductive O9(T:List Nd)(p:Nat)(scs:List Sc)(l:List Ev)(T':List Nd)(p':Nat)(scs':List Sc):Ev→Prop
 |st {x:Nd} {top:Sc} {n:Str} {a:List (Str×Str)} (h1:Sm T p x) (h2:T.length+a.length≤900) (h3:scs.getLast?=some top) (h4:scs.length≤400) (h5:JH top n a)
   (h6:Hj (A6 T p n (EI (enterL top (foundL a)) (Dj n)) (ER n) (foundL a) (asOf (enterL top (foundL a)) a)) T.length (scs++[enterL top (foundL a)]) l T' p' scs'):O9 T p scs l T' p' scs' (.st n a)
 |en {r:Nat} {x:Nd} {n:Str} (h1:T[p]?=some x) (h2:p≠0) (h3:T.length≤900) (h4:x.name=n) (h5:x.par=some r) (h6:2≤scs.length) (h7:scs.length≤900) (h8:Hj T r scs.dropLast l T' p' scs'):O9 T p scs l T' p' scs' (.en n)
 |tx {x:Nd} {s:Str} (h1:Sm T p x) (h2:Hj (EJ T p (Bw "text" "" "" "" s (some p))) p scs l T' p' scs'):O9 T p scs l T' p' scs' (.tx s)
 |cm {x:Nd} {s:Str} (h1:Sm T p x) (h2:Hj (EJ T p (Bw "comment" "" "" "" s (some p))) p scs l T' p' scs'):O9 T p scs l T' p' scs' (.cm s)
 |pi {x:Nd} {t d:Str} (h1:Sm T p x) (h2:Hj (EJ T p (Bw "instruction" t "" t d (some p))) p scs l T' p' scs'):O9 T p scs l T' p' scs' (.pi t d)
noncomputable def Y4(T:List Nd)(p:Nat)(scs:List Sc)(T':List Nd)(p':Nat)(scs':List Sc):List Ev→Prop
 |[]=>T=T'∧p=p'∧scs=scs'
 |ev::l=>O9 T p scs l T' p' scs' ev
theorem Hj.inv{T:List Nd}{p:Nat}{scs:List Sc}{l:List Ev}{T':List Nd}{p':Nat}{scs':List Sc}(h:Hj T p scs l T' p' scs'):Y4 T p scs T' p' scs' l:=
 Hj.casesOn (motive:=fun T p scs l T' p' scs' _=>Y4 T p scs T' p' scs' l) h ⟨rfl,rfl,rfl⟩ (fun h1 h2 h3 h4 h5 h6=>.st h1 h2 h3 h4 h5 h6) (fun h1 h2 h3 h4 h5 h6 h7 h8=>.en h1 h2 h3 h4 h5 h6 h7 h8)
  (fun h1 h2=>.tx h1 h2) (fun h1 h2=>.cm h1 h2) (fun h1 h2=>.pi h1 h2)
noncomputable abbrev Nu:List Nd:=[Bw "root" "" "" "" "" none]
section
variable{c:Cx}{n:Nat}{S:AD}{Q:AV→AD→Prop}{y:Bg}
theorem By{ρ:AJ}{v w:AV}{p:Nat}(h:AG ρ "here"=some (natV p)):AG ((("word":Str),v)::(("event":Str),w)::ρ) "here"=some (natV p):=by
 exact rr (AN ..) (rr (if_neg (by decide+kernel)) (rr (AN ..) (rr (if_neg (by decide+kernel)) h)))
inductive bT(S:AD)(y:Bg)(T':List Nd)(scs':List Sc)(zb:Addr)(ρ0:AJ)(r:List Ev)(ρ:AJ)(S':AD):Prop
 |mk (T p scs y' z') (h0:Hj T p scs r T' 0 scs') (h1:M6 S' y' T z' scs) (h2:y'.t=y.t) (h3:z'.b=zb) (h4:AG ρ "here"=some (natV p)) (h5:FY S S' y.fp (y'.fp++z'.fp)) (h6:Kp ["event","word","here"] ρ ρ0)
set_option maxHeartbeats 4000000 in
theorem SL(F:Af c.K)(h:AW S y []){e:Addr}{l:List Ev}(hee:S e=some (.list (l.map Fd)))(hey:e∉y.fp){T':List Nd}{scs':List Sc}(hrun:Hj Nu 0 [Ak] l T' 0 scs')
  (q:∀S' y',AW S' y' T'→y'.t=y.t→FY S S' y.fp y'.fp→Q (natV 0) S'):AM c (n+11) (.ref 328) [.ref y.t,.ref e] S Q:=by
 obtain⟨od,k,sl,u,hK⟩:=F.Od;refine(Hr F.Of (names:=["tree","events","with_names"]) (dx:=[.bool true]) (dv:=[.bool true]) (by kernel_rfl) (fun _ _ _ _ _ _ _ _ s vs hl hk=>by obtain⟨a,b,rfl⟩:=Tw (P:=fun q=>∃a b,q=[a,b]) (fun a b=>⟨a,b,rfl⟩) vs hl;exact .of_defaults rfl (hk _ _ hK) rfl rfl rfl) (fun _=>.cons (.bool _) .nil) (by decide+kernel) rfl (by kernel_rfl) ?_).call;intro L env hc he;refine Aa he (by kernel_rfl) ?_;refine Cf F.Fy he (by kernel_rfl) (by rfl) h.inst h.ns (by rfl) ?_;refine AE ?_;refine Np F h (by simp) fun S1 y1 h1 g1 f1=>?_;refine Aa he (by kernel_rfl) ?_;refine Dz ?_;refine Dw ?_;refine AB he (by kernel_rfl) (by rfl) ?_;refine⟨_,rfl,?_⟩;refine⟨fun hb=>?_,fun hb=>tf hb⟩;refine AL F.Ka F.KV he (by kernel_rfl) ?_;refine AE ?_;refine NH F fun S2 z2 hb2 f2=>?_
 have h2:M6 S2 y1 Nu z2 [Ak]:=⟨h1.same fun a ha=>by
  cases w:S1 a with
  |none=>exact absurd w (h1.has a ha)
  |some o=>exact f2.keep a o (by simp) w,hb2,fun a ha hy=>by
   rcases f2.new a ha with w|w
   ·cases w
   ·exact h1.has a hy w⟩
 have fr2:FY S S2 y.fp (y1.fp++z2.fp):=f1.trans ⟨fun a o ha ho=>f2.keep a o (by simp) ho,fun a ha=>by
  rcases List.mem_append.mp ha with ha|ha
  ·exact .inl ha
  ·rcases f2.new a ha with w|w
   ·cases w
   ·exact .inr w⟩
 have hzb:z2.b=z2.b:=rfl;have hyt:y1.t=y.t:=g1.1;revert hzb;generalize hgz:z2.b=zb at*;intro hzb;clear h1 g1 f1 hb2 f2;refine Aa he (by kernel_rfl) ?_;refine AB he (by kernel_rfl) (by rfl) ?_;have lst:∀{S':AD} {f:List Addr},FY S S' y.fp f→S' e=some (.list (l.map Fd)):=fun f=>f.keep _ _ hey hee;refine AH ?_;refine CF ?_;refine AB he (by kernel_rfl) (by rfl) ?_;refine⟨_,_,.list (.inl (lst fr2)),?_⟩
 refine A7 (f:=Fd) (bT S y T' scs' zb _)
  (fun l ρ S' hP=>by obtain⟨_,_,_,_,_,_,_,_,_,_,he2,_⟩:=hP;exact .inl (lst he2)) ?_ ?_ l _ _ ⟨_,_,_,y1,z2,hrun,h2,hyt,hgz,by rfl,fr2,Kp.refl _ _⟩
 ·rintro ev r ρ S3 ⟨T,p,scs,y3,z3,hr,h3,hy3,hz3,hp,fr3,hkp⟩;refine BA he (by kernel_rfl) ?_;have kp1:=hkp.cons (x:="event") (v:=Fd ev) (by decide+kernel);refine Aa he (by kernel_rfl) ?_;refine JC he (by kernel_rfl) (by rfl) ?_;refine AS ?_;replace hr:=hr.inv
  cases hr with
  |@st x top nm a ko hla hl hn ok hr=>
   refine Bc (k:=0) (by rfl) (by rfl) (by decide) (by decide) ?_ _ (fun _ _=>rfl);have kp2:=kp1.cons (x:="word") (v:=.str "start") (by decide+kernel);refine BG he (by kernel_rfl) (by rfl) ?_;refine AZ ⟨_,rfl,?_⟩;refine⟨fun hb=>?_,fun hb=>absurd (by decide+kernel) (of_decide_eq_false hb)⟩;refine Aa he (by kernel_rfl) ?_;refine AL F.It F.Iw he (by kernel_rfl) ?_;refine A0 he (by kernel_rfl) ((kp2 "tree" (by decide+kernel)).trans (by rfl)) ?_;refine A0 he (by kernel_rfl) ((By hp)) ?_;refine Br ?_;refine AB he (by kernel_rfl) (by rfl) ?_;refine AS ?_;refine Bc (k:=1) (by rfl) (by rfl) (by decide) (by decide) ?_ _ (fun _ _=>rfl);refine Br ?_;refine AB he (by kernel_rfl) (by rfl) ?_;refine AS ?_;refine Bc (k:=2) (by rfl) (by rfl) (by decide) (by decide) ?_ _ (fun _ _=>rfl);refine An he (by kernel_rfl) (Cv ((kp2 "names" (by decide+kernel)).trans (by rfl)) (by rfl)) ?_;refine rl hy3 (rl hz3 ?_);rw[←hy3,←hz3]at kp2;refine Mm F h3 hla ko.at' ko.k (by have:=ko.n;exact CL this) hl hn ok fun S4 y4 z4 h4 hy4 hz4 f4=>?_;refine Ad ?_;exact⟨_,_,_,y4,z4,hr,h4,hy4.trans hy3,hz4,by rfl,fr3.trans f4,kp2.cons (by decide+kernel)⟩
  |@en r0 x nm hx TV hT hnm hpar h2s hn hr=>
   refine Bc (k:=0) (by rfl) (by rfl) (by decide) (by decide) ?_ _ (fun _ _=>rfl);have kp2:=kp1.cons (x:="word") (v:=.str "end") (by decide+kernel);refine BG he (by kernel_rfl) (by rfl) ?_;refine AZ ⟨_,rfl,?_⟩;refine⟨fun hb=>absurd (of_decide_eq_true hb) (by decide+kernel),fun hb=>?_⟩;refine BG he (by kernel_rfl) (by rfl) ?_;refine AZ ⟨_,rfl,?_⟩;refine⟨fun hb=>?_,fun hb=>absurd (by decide+kernel) (of_decide_eq_false hb)⟩;refine Aa he (by kernel_rfl) ?_;refine AL F.KR F.KW he (by kernel_rfl) ?_;refine A0 he (by kernel_rfl) ((kp2 "tree" (by decide+kernel)).trans (by rfl)) ?_;refine A0 he (by kernel_rfl) ((By hp)) ?_;refine Br ?_;refine AB he (by kernel_rfl) (by rfl) ?_;refine AS ?_;refine Bc (k:=1) (by rfl) (by rfl) (by decide) (by decide) ?_ _ (fun _ _=>rfl);refine An he (by kernel_rfl) (Cv ((kp2 "root" (by decide+kernel)).trans (by rfl)) (by rfl)) ?_;refine rl hy3 ?_;rw[←hy3]at kp2;refine NB (r:=0) F h3.t (by exact CL hT) hx TV hnm ?_;refine rr hpar ?_;have kp3:=kp2.cons (x:="here") (v:=natV r0) (by decide+kernel);refine BC ?_;refine AB he (by kernel_rfl) ((kp3 "names" (by decide+kernel)).trans (by rfl)) ?_;refine Dl ?_;refine De ⟨_,rfl,?_⟩;refine⟨fun hb=>?_,fun hb=>tf hb⟩;refine AH ?_;refine Av he ?_;refine Cf F.FE he (by kernel_rfl) ((kp3 "names" (by decide+kernel)).trans (by rfl)) (hz3▸h3.b.inst) h3.b.ns (by rfl) ?_;refine AE ?_;refine rl hz3 ?_;rw[←hz3]at kp3;refine SM F h3.b h2s (by exact CL hn) fun S4 z4 h4 hz4 f4=>?_;refine Ad ?_;refine Ad ?_;exact⟨_,_,_,y3,z4,hr,h3.bind h4 f4,hy3,hz4,by rfl,fr3.trans f4.right,kp3⟩
  |@tx x sx ko hr=>
   refine Bc (k:=0) (by rfl) (by rfl) (by decide) (by decide) ?_ _ (fun _ _=>rfl);have kp2:=kp1.cons (x:="word") (v:=.str "text") (by decide+kernel);refine BG he (by kernel_rfl) (by rfl) ?_;refine AZ ⟨_,rfl,?_⟩;refine⟨fun hb=>absurd (of_decide_eq_true hb) (by decide+kernel),fun hb=>?_⟩;refine BG he (by kernel_rfl) (by rfl) ?_;refine AZ ⟨_,rfl,?_⟩;refine⟨fun hb=>absurd (of_decide_eq_true hb) (by decide+kernel),fun hb=>?_⟩;refine BG he (by kernel_rfl) (by rfl) ?_;refine AZ ⟨_,rfl,?_⟩;refine⟨fun hb=>?_,fun hb=>absurd (by decide+kernel) (of_decide_eq_false hb)⟩;refine AH ?_;refine Av he ?_;refine Cf F.F8 he (by kernel_rfl) ((kp2 "tree" (by decide+kernel)).trans (by rfl)) (hy3▸h3.t.inst) h3.t.ns (by rfl) ?_;refine A0 he (by kernel_rfl) ((By hp)) ?_;refine Br ?_;refine AB he (by kernel_rfl) (by rfl) ?_;refine AS ?_;refine Bc (k:=1) (by rfl) (by rfl) (by decide) (by decide) ?_ _ (fun _ _=>rfl);refine AE ?_;refine rl hy3 ?_;rw[←hy3]at kp2;refine NS F h3.t (by have:=ko.l;exact Pg this) ko.at' ko.k (by have:=ko.n;exact CL this) fun S4 y4 h4 g4 f4=>?_;refine Ad ?_;refine Ad ?_;exact⟨_,_,_,y4,z3,hr,h3.tree h4 f4,(g4.1.trans hy3),hz3,By hp,fr3.trans f4.left,kp2⟩
  |@cm x sx ko hr=>
   refine Bc (k:=0) (by rfl) (by rfl) (by decide) (by decide) ?_ _ (fun _ _=>rfl);have kp2:=kp1.cons (x:="word") (v:=.str "comment") (by decide+kernel);refine BG he (by kernel_rfl) (by rfl) ?_;refine AZ ⟨_,rfl,?_⟩;refine⟨fun hb=>absurd (of_decide_eq_true hb) (by decide+kernel),fun hb=>?_⟩;refine BG he (by kernel_rfl) (by rfl) ?_;refine AZ ⟨_,rfl,?_⟩;refine⟨fun hb=>absurd (of_decide_eq_true hb) (by decide+kernel),fun hb=>?_⟩;refine BG he (by kernel_rfl) (by rfl) ?_;refine AZ ⟨_,rfl,?_⟩;refine⟨fun hb=>absurd (of_decide_eq_true hb) (by decide+kernel),fun hb=>?_⟩;refine BG he (by kernel_rfl) (by rfl) ?_;refine AZ ⟨_,rfl,?_⟩;refine⟨fun hb=>?_,fun hb=>absurd (by decide+kernel) (of_decide_eq_false hb)⟩;refine AH ?_;refine Av he ?_;refine Cf F.EC he (by kernel_rfl) ((kp2 "tree" (by decide+kernel)).trans (by rfl)) (hy3▸h3.t.inst) h3.t.ns (by rfl) ?_;refine A0 he (by kernel_rfl) ((By hp)) ?_;refine Br ?_;refine AB he (by kernel_rfl) (by rfl) ?_;refine AS ?_;refine Bc (k:=1) (by rfl) (by rfl) (by decide) (by decide) ?_ _ (fun _ _=>rfl);refine AE ?_;refine rl hy3 ?_;rw[←hy3]at kp2;refine Ki F h3.t (by have:=ko.l;exact Pg this) ko.at' ko.k (by have:=ko.n;exact CL this) fun S4 y4 h4 g4 f4=>?_;refine Ad ?_;refine Ad ?_;refine AQ ?_;exact⟨_,_,_,y4,z3,hr,h3.tree h4 f4,(g4.1.trans hy3),hz3,By hp,fr3.trans f4.left,kp2⟩
  |@pi x tx dx ko hr=>
   refine Bc (k:=0) (by rfl) (by rfl) (by decide) (by decide) ?_ _ (fun _ _=>rfl);have kp2:=kp1.cons (x:="word") (v:=.str "instruction") (by decide+kernel);refine BG he (by kernel_rfl) (by rfl) ?_;refine AZ ⟨_,rfl,?_⟩;refine⟨fun hb=>absurd (of_decide_eq_true hb) (by decide+kernel),fun hb=>?_⟩;refine BG he (by kernel_rfl) (by rfl) ?_;refine AZ ⟨_,rfl,?_⟩;refine⟨fun hb=>absurd (of_decide_eq_true hb) (by decide+kernel),fun hb=>?_⟩;refine BG he (by kernel_rfl) (by rfl) ?_;refine AZ ⟨_,rfl,?_⟩;refine⟨fun hb=>absurd (of_decide_eq_true hb) (by decide+kernel),fun hb=>?_⟩;refine BG he (by kernel_rfl) (by rfl) ?_;refine AZ ⟨_,rfl,?_⟩;refine⟨fun hb=>absurd (of_decide_eq_true hb) (by decide+kernel),fun hb=>?_⟩;refine BG he (by kernel_rfl) (by rfl) ?_;refine AZ ⟨_,rfl,?_⟩;refine⟨fun hb=>?_,fun hb=>absurd (by decide+kernel) (of_decide_eq_false hb)⟩;refine AH ?_;refine Av he ?_;refine Cf F.Cs he (by kernel_rfl) ((kp2 "tree" (by decide+kernel)).trans (by rfl)) (hy3▸h3.t.inst) h3.t.ns (by rfl) ?_;refine A0 he (by kernel_rfl) ((By hp)) ?_;refine Br ?_;refine AB he (by kernel_rfl) (by rfl) ?_;refine AS ?_;refine Bc (k:=1) (by rfl) (by rfl) (by decide) (by decide) ?_ _ (fun _ _=>rfl);refine Br ?_;refine AB he (by kernel_rfl) (by rfl) ?_;refine AS ?_;refine Bc (k:=2) (by rfl) (by rfl) (by decide) (by decide) ?_ _ (fun _ _=>rfl);refine AE ?_;refine rl hy3 ?_;rw[←hy3]at kp2;refine HQ F h3.t (by have:=ko.l;exact Pg this) ko.at' ko.k (by have:=ko.n;exact CL this) fun S4 y4 h4 g4 f4=>?_;refine Ad ?_;refine Ad ?_;refine Ad ?_;exact⟨_,_,_,y4,z3,hr,h3.tree h4 f4,(g4.1.trans hy3),hz3,By hp,fr3.trans f4.left,kp2⟩
 ·rintro ρ S3 ⟨T,p,scs,y3,z3,hr,h3,hy3,hz3,hp,fr3,hkp⟩;obtain⟨rfl,rfl,rfl⟩:=hr.inv;refine AQ ?_;refine BC ?_;refine AB he (by kernel_rfl) hp ?_;refine AB he (by kernel_rfl) ((hkp "root" (by decide+kernel)).trans (by rfl)) ?_;refine Ul ⟨_,rfl,?_⟩;refine⟨fun hb=>absurd hb (by simp),fun hb=>?_⟩;refine AQ ?_;refine Ae ?_;refine AB he (by kernel_rfl) ((hkp "root" (by decide+kernel)).trans (by rfl)) ?_;exact q _ _ h3.t hy3 ⟨fr3.keep,fun a ha=>fr3.new a (List.mem_append_left _ ha)⟩
  end
  noncomputable def SrcAt (S:AD) (a:Addr):Prop:=∃x y:Int,(S a=some (.list [.int x,.int y])∨S a=some (.wlist [.int x,.int y]))∧0≤y∧y<2147483647
structure Kc(S S':AD)(a:Addr):Prop where
 at':SrcAt S' a
 keep:∀b o,b≠a→S b=some o→S' b=some o
theorem Kc.trans{S1 S2 S3:AD}{a:Addr}(h:Kc S1 S2 a)(h':Kc S2 S3 a):Kc S1 S3 a:=⟨h'.at',fun b o hb e=>h'.keep b o hb (h.keep b o hb e)⟩
theorem SrcAt.ne{S:AD}{a:Addr}(h:SrcAt S a):S a≠none:=by
 obtain⟨x,y,h|h,_⟩:=h<;>refine rr h ?_<;>exact fun e=>nomatch e
theorem SrcAt.refl{S:AD}{a:Addr}(h:SrcAt S a):Kc S S a:=⟨h,fun _ _ _ e=>e⟩
theorem Kc.put{S S':AD}{a d:Addr}{o:AO}(h:Kc S S' a)(hd:S' d=none):Kc S (put S' d o) a:=by
 have ne:d≠a:=fun e=>h.at'.ne (e▸hd);refine⟨?_,fun b o' hb e=>?_⟩
 ·obtain⟨x,y,h1,h2⟩:=h.at';exact⟨x,y,by rw[AA _ _ (Ne.symm ne)];exact h1,h2⟩
 ·have:=h.keep b o' hb e;exact rr (AA _ _ ((by first|exact As this hd|exact(As hd this).symm))) this
theorem Kc.none{S S':AD}{a d:Addr}(h:Kc S S' a)(hd:S' d=none):S d=none:=by
 have ne:d≠a:=fun e=>h.at'.ne (e▸hd)
 cases w:S d with
 |none=>rfl
 |some o=>rw[h.keep d o ne w]at hd;cases hd
theorem HZ{i:Int}{t:Nat}(ht:0<t):∃r:Nat,i.fmod t=r∧r<t:=by
 have h0:0≤i.fmod t:=Int.fmod_nonneg_of_pos i (by exact XX ht);have h1:i.fmod t<t:=Int.fmod_lt_of_pos i (by exact XX ht);exact⟨(i.fmod t).toNat,by exact dR h0,by exact Vy ht h1⟩
section
variable{c:Cx}{n:Nat}{S:AD}{Q:AV→AD→Prop}
noncomputable def HU(c:Cx)(e:Addr):Prop:=∃vs:Array Value,c.s₁.heap.IsList e vs∧vs.size≤1000∧∀v,vs[0]?=some v→∃i t,v= .int i t
theorem Jc{B:Ao}{s:Shared}{e:Addr}{vs:Array Value}(i:A4 c B S s)(h:c.s₁.heap.IsList e vs):s.heap.IsList e vs:=
 let ⟨o,ho,hc,n,hd⟩:=h;⟨o,i.gkeep _ _ ho,hc,n,hd⟩
theorem Om{e:Addr}{vs:Array Value}(h:c.s₁.heap.IsList e vs)(hn:vs.size≤10000000)(q:Q (.int vs.size) S):AM c n (.builtin "len") [.ref e] S Q:=fun B vs' r A s rm iv=>by
 obtain⟨v,rfl,r1⟩:=r.one;cases r1.inv;exact PyProof.Rows.len_list (Jc iv h) (ib hn (by decide)) (AU iv.toks (.int _ _) q)
theorem Ou{e:Addr}{vs:Array Value}{v sl:Expr}{i:Int}{t:Tok}(h:c.s₁.heap.IsList e vs)(hv:vs[0]?=some (.int i t))(q:Q (.int i) S)(ops:Value→Value→List Value)(hs:∀o i,subscripted sl false o i=operate (ops o i) (getItem o i)):Cn c n (subscriptTail v sl) R (.ref e) (.int 0) S Q:=
 fun B o ix r1 r2 A s rm iv=>by
  cases r1.inv;obtain⟨t'⟩:=r2.inv;have hl:=Jc iv h;obtain⟨ob,ho,hc,_⟩:=hl;exact tail_any ⟨ob,ho,hc⟩ slot_list_getitem.lookup (wpAny_getItem_list (Jc iv h) (by decide) (by decide) hv (AU iv (.int _ _) q)) (hs _ _)
theorem MZ(F:Af c.K){e:Addr}(he0:HU c e)(q:∀S' d,A9 S S'→SrcAt S' d→S d=none→Q (.ref d) S'):AM c (n+1) (.ref 560) [.ref e,.int 0] S Q:=by
 obtain⟨vs,hls,hsz,hit⟩:=he0;refine(AP F.Ik (names:=["script","k"]) (by kernel_rfl) (fun _ _ _ _ _ _ _ _ s g=>.of_eq (by kernel_rfl)) (by decide+kernel) rfl (by kernel_rfl) ?_).call;intro L env hc he;refine Aa he (by kernel_rfl) ?_;refine AS ?_
 have rest:∀(cell:Int) (ρ:AJ),AG ρ "cell"=some (.int cell)→AG ρ "k"=some (.int 0)→Ok c n L RF (execs ((dBody (FD 48)).drop 2) env) ρ S (Fin Q):=by
  intro cell ρ r1 r2;refine Aa he (by kernel_rfl) ?_;refine BT (id:="max") F.Tp he (by kernel_rfl) ?_;refine AK ?_;refine Ap (id:="int") F.Ec he (by kernel_rfl) ?_;refine An he (by kernel_rfl) (Cv r1 (by rfl)) ?_;refine ET ?_;refine AK ?_;refine Ap (id:="int") F.Ec he (by kernel_rfl) ?_;refine Dx ?_;refine Fg ?_;refine AS ?_;refine Db ?_;refine AB he (by kernel_rfl) r1 ?_;refine Ff ?_;refine AE ?_;refine ET ?_;refine AE ?_;refine aY ?_;refine Dh (if -1-cell>cell then -1-cell else cell) ?_;intro big;have r3:AG ((("big":Str),AV.int big)::ρ) "k"=some (.int 0):=by exact rr (AN ..) (rr (if_neg (by decide+kernel)) r2)
  refine Aa he (by kernel_rfl) ?_;refine Ab ?_;refine Ap (id:="int") F.Ec he (by kernel_rfl) ?_;refine Dx ?_;refine Ab ?_;refine Ab ?_;refine Ab ?_;refine Ab ?_;refine Ap (id:="int") F.Ec he (by kernel_rfl) ?_;refine An he (by kernel_rfl) (by rfl) ?_;refine ET ?_;refine AS ?_;refine Gw (by decide) ?_;refine Ab ?_;refine Ab ?_;refine AS ?_;refine AB he (by kernel_rfl) r3 ?_;refine FV ?_ (IntMulOk.of_right (by decide));refine AB he (by kernel_rfl) r3 ?_;refine FV ?_ (IntMulOk.of_right (by decide));refine BE ?_;refine Ab ?_;refine AS ?_;refine AB he (by kernel_rfl) r3 ?_;refine FV ?_ (IntMulOk.of_right (by decide));refine BE ?_;refine AS ?_;refine BE ?_;refine AS ?_;refine FV ?_ (IntMulOk.of_right (by decide));refine AE ?_;refine ET ?_;refine AS ?_;refine Gw (by decide) ?_;refine Dh ((big.fmod 2147483629+7919*0*0+31*0+17)*48271) ?_;intro mm;obtain⟨mx,hm1,hm2⟩:=HZ (i:=mm) (t:=2147483647) (by decide);have hm1':mm.fmod 2147483647=(mx:Int):=hm1;refine rr hm1' ?_;refine Ae ?_;refine Aw ?_;refine Dx ?_;refine AB he (by kernel_rfl) (by rfl) ?_;refine Ap (id:="int") F.Ec he (by kernel_rfl) ?_;refine AK ?_;refine Dt ?_;refine AB he (by kernel_rfl) (by rfl) ?_;refine Ab ?_;refine AS ?_;refine AS ?_;refine bn (by decide) (by decide) (by decide) ?_;refine T6 ?_;refine AE ?_;refine JM ?_;refine FV ?_ (IntMulOk.of_right (by split<;>decide));refine An he (by kernel_rfl) (by rfl) ⟨ble rfl,fun d hd=>?_⟩;exact q _ d ((A9.refl S).put hd) ⟨_,_,.inl (AC ..),by exact Mj,Int.ofNat_lt.mpr hm2⟩ hd
 refine BC ?_;refine AB he (by kernel_rfl) (by rfl) ?_;refine BT (id:="len") F.Ej he (by kernel_rfl) ?_;refine An he (by kernel_rfl) (by rfl) ?_;refine Om hls (by exact L7 hsz) ?_;refine HL ⟨_,rfl,?_⟩;refine⟨fun hb=>?_,fun hb=>?_⟩
 ·have hpos:0<vs.size:=by simpa using hb
  obtain⟨i0,t0,hi0⟩:=hit _ (Array.getElem?_eq_getElem hpos);refine Aa he (by kernel_rfl) ?_;refine JC he (by kernel_rfl) (by rfl) ?_;refine AB he (by kernel_rfl) (by rfl) ?_;refine Ou hls ((Array.getElem?_eq_getElem hpos).trans (by exact rr hi0 rfl)) ?_ _ (fun _ _=>rfl);refine AQ ?_;exact rest _ _ (by rfl) (by rfl)
 ·refine AQ ?_;exact rest _ _ (by rfl) (by rfl)
theorem SrcAt.ty{a:Addr}(h:SrcAt S a):QS S (.ref a) "list":=by
 obtain⟨x,y,h|h,_⟩:=h
 ·exact .inl ⟨_,h,rfl⟩
 ·exact .inr (.inl ⟨_,h,rfl⟩)
set_option maxHeartbeats 1000000 in
theorem CY(F:Af c.K){a:Addr}(h:SrcAt S a){t:Nat}(ht:0<t)(ht2:t≤1000)(q:∀S' (r:Nat),r<t→Kc S S' a→Q (.int r) S'):AM c (n+1) (.ref 567) [.ref a,.int t] S Q:=by
 have hty:=h.ty;obtain⟨x,y,hxy,hy0,hy1⟩:=h;refine(AP F.Im (names:=["source","top"]) (by kernel_rfl) (fun _ _ _ _ _ _ _ _ s g=>.of_eq (by kernel_rfl)) (by decide+kernel) rfl (by kernel_rfl) ?_).call;intro L env hc he;have src:∀{x' y':Int},0≤y'→y'<2147483647→Kc S (put S a (.wlist [.int x',.int y'])) a:=fun h1 h2=>⟨⟨_,_,.inr (AC ..),h1,h2⟩,fun b o hb e=>by exact rr (AA _ _ hb) e⟩
 refine BC ?_;refine JC he (by kernel_rfl) (by rfl) ?_;refine AS ?_;refine CG hxy (by decide) (by decide) (by rfl) ?_ _ (fun _ _=>rfl);refine AS ?_;refine Ls ⟨_,rfl,?_⟩;refine⟨fun hb=>?_,fun hb=>?_⟩
 ·refine Aa he (by kernel_rfl) ?_;refine Ab ?_;refine Ap (id:="int") F.Ec he (by kernel_rfl) ?_;refine Br ?_;refine AB he (by kernel_rfl) (by rfl) ?_;refine AS ?_;refine CG hxy (by decide) (by decide) (by rfl) ?_ _ (fun _ _=>rfl);refine AE ?_;refine ET ?_;refine AB he (by kernel_rfl) (by rfl) ?_;refine Gw (by exact UK ht) ?_;obtain⟨r,hr1,hr2⟩:=HZ (i:=x) ht;refine rr hr1 ?_;refine AH ?_;refine Di ?_;refine Ab ?_;refine JC he (by kernel_rfl) (by rfl) ?_;refine AS ?_;refine CG hxy (by decide) (by decide) (by rfl) ?_ _ (fun _ _=>rfl);refine AB he (by kernel_rfl) (by rfl) ?_;refine J0 (by exact UK ht) (PyProof.noPylong_small (Nat.lt_of_le_of_lt ht2 (by decide))) ?_;refine AB he (by kernel_rfl) (by rfl) ?_;refine AS ?_;refine N8 hxy (by decide) (by decide) (by simp) ?_;refine Ae ?_;refine AB he (by kernel_rfl) (by rfl) ?_;exact q _ r hr2 (src hy0 hy1)
 ·refine AQ ?_;refine AH ?_;refine Di ?_;refine Ab ?_;refine Ap (id:="int") F.Ec he (by kernel_rfl) ?_;refine Dx ?_;refine Ab ?_;refine JC he (by kernel_rfl) (by rfl) ?_;refine AS ?_;refine CG hxy (by decide) (by decide) (by rfl) ?_ _ (fun _ _=>rfl);refine AS ?_;refine FV ?_ (IntMulOk.of_right (by decide));refine AS ?_;refine BE ?_;refine AE ?_;refine ET ?_;refine AS ?_;refine Gw (by decide) ?_;obtain⟨y2,hy21,hy22⟩:=HZ (i:=y*39373+7) (t:=2147483647) (by decide);have hy2':(y*39373+7).fmod 2147483647=(y2:Int):=hy21;refine rr hy2' ?_;refine AB he (by kernel_rfl) (by rfl) ?_;refine AS ?_;refine N8 hxy (by decide) (by decide) (by simp) ?_;have s2:Kc S (put S a (.wlist [.int x,.int y2])) a:=src (by exact d9 hy21) (Int.ofNat_lt.mpr hy22);show Ok c n L RF _ _ (put S a (.wlist [.int x,.int y2])) _;have hxy2:put S a (.wlist [.int x,.int y2]) a=some (.wlist [.int x,.int y2]):=AC ..;revert s2 hxy2;refine Dh (put S a (.wlist [.int x,.int y2]):AD) ?_;intro S2;intro s2 hxy2;have hty2:=s2.at'.ty;refine Ae ?_;refine Ab ?_;refine Ap (id:="int") F.Ec he (by kernel_rfl) ?_;refine Dx ?_;refine Ab ?_;refine Ap (id:="int") F.Ec he (by kernel_rfl) ?_;refine Dx ?_;refine JC he (by kernel_rfl) (by rfl) ?_;refine AS ?_;refine CG (.inr hxy2) (by decide) (by decide) (by rfl) ?_ _ (fun _ _=>rfl);refine JC he (by kernel_rfl) (by rfl) ?_;refine AS ?_;refine CG (.inr hxy2) (by decide) (by decide) (by rfl) ?_ _ (fun _ _=>rfl);refine FV ?_ (IntMulOk.of_right (intBits_le_64 (Int.lt_of_lt_of_le (by decide) (Int.natCast_nonneg _)) (ib (Nat.le_of_lt hy22) (by decide))));refine AE ?_;refine ET ?_;refine AS ?_;refine Gw (by decide) ?_;refine AS ?_;refine J0 (by decide) (PyProof.noPylong_small (by decide)) ?_;refine AE ?_;refine ET ?_;refine AB he (by kernel_rfl) (by rfl) ?_;refine Gw (by exact UK ht) ?_;obtain⟨r,hr1,hr2⟩:=HZ (i:=(((y2:Int)*y2).fmod 2147483629).fdiv 32) ht;refine rr hr1 ?_;exact q _ r hr2 s2
theorem FT(F:Af c.K){a d:Addr}(h:SrcAt S a){xs:List AV}(hd:S d=some (.list xs))(hda:d≠a)(h0:0<xs.length)(h1:xs.length≤1000)(q:∀S' x,x∈xs→Kc S S' a→Q x S'):AM c (n+2) (.ref 574) [.ref a,.ref d] S Q:=by
 refine(AP F.KS (names:=["source","things"]) (by kernel_rfl) (fun _ _ _ _ _ _ _ _ s g=>.of_eq (by kernel_rfl)) (by decide+kernel) rfl (by kernel_rfl) ?_).call;intro L env hc he;refine Ae ?_;refine JC he (by kernel_rfl) (by rfl) ?_;refine AL F.B6 F.B7 he (by kernel_rfl) ?_;refine A0 he (by kernel_rfl) (by rfl) ?_;refine AK ?_;refine BT (id:="len") F.Ej he (by kernel_rfl) ?_;refine An he (by kernel_rfl) (by rfl) ?_;refine DA (.inl hd) (by exact L7 h1) ?_;refine AE ?_;refine CY F h h0 h1 fun S2 r hr s2=>?_;have hd2:=s2.keep d _ hda hd;refine CG (.inl hd2) (by exact Mj) (by lia) (x:=xs[r]) (by simp) ?_ _ (fun _ _=>rfl);exact q _ _ (List.getElem_mem hr) s2
theorem Du{elts:List Expr}{p:Pos}{x:Str}{xp:Pos}{l:Nat}{env:Env}:swapsWith (.List elts p) (some (.Name x xp)) l env=pure false:=by rfl
theorem Ud:∀r:Nat,r<4→Builtin.Range.small 0 r 1=true:=by decide+kernel
theorem Xn:∀r:Nat,r<4→(Builtin.Range.rangeSize 0 r 1).toNat=r:=by decide+kernel
noncomputable def signsL:List Str:=["a","&","<",">","\"","\t","\n","\r","z"]
noncomputable def Wd(w:Str):Prop:=w.length≤3∧∀k∈w.cps.toList,k∈([97,38,60,62,34,9,10,13,122]:List Nat)
theorem GE:∀l:List Str,(Str.join ("":Str) l).cps.toList=l.flatMap fun x=>x.cps.toList
 |[]=>rfl
 |[x]=>by simp[Str.join]
 |x::y::r=>by
  have ih:=GE (y::r);show(x.cps++("":Str).cps++(Str.join ("":Str) (y::r)).cps).toList=_;refine rr Array.toList_append (rr Array.toList_append (rr ih (rr (show("":Str).cps.toList=[] by decide+kernel) (rr (List.append_nil ..) ?_))));rfl
theorem Uc:∀w∈signsL,w.length=1∧∀k∈w.cps.toList,k∈([97,38,60,62,34,9,10,13,122]:List Nat):=by decide+kernel
inductive bD(S:AD)(a d:Addr)(r:Nat)(l:List Nat)(acc:List AV)(S':AD):Prop
 |mk (ws:List Str) (h0:acc=ws.map .str) (h1:ws.length+l.length=r) (h2:(∀w∈ws,w∈signsL)) (h3:Kc S S' a) (h4:S' d=some (.list (signsL.map .str)))
set_option maxHeartbeats 1000000 in
theorem Fb(F:Af c.K){a:Addr}(h:SrcAt S a)(q:∀S' w,Wd w→Kc S S' a→Q (.str w) S'):AM c (n+3) (.ref 607) [.ref a] S Q:=by
 refine(Hu F.H9 (names:=["source"]) (by kernel_rfl) (by decide+kernel) (fun _ _ _ _ _ _ _ _ g=>by kernel_rfl) (by decide+kernel) rfl (by kernel_rfl) ?_).call;intro L env hc he;refine AH ?_;generalize hE:Expr.List _ _=E;have hs:∀x xp l env,swapsWith E (some (.Name x xp)) l env=pure false:=by intro _ _ _ _;subst hE;exact Du
 refine RC he (by kernel_rfl) ?_ (hs _ _ _ _);subst hE;refine Aw ?_;refine An he (by kernel_rfl) (by rfl) ⟨ble rfl,fun d hd=>?_⟩;have hd1:put S d (.list (signsL.map .str)) d=some (.list (signsL.map .str)):=AC ..;show Ok c _ L RF _ _ (put S d (.list (signsL.map .str))) _;have s1:=h.refl.put (o:=.list (signsL.map .str)) hd;have hda:d≠a:=fun e=>h.ne (e▸hd);revert s1 hd1;refine Dh (put S d (.list (signsL.map .str)):AD) ?_;intro S1;intro hd1 s1;refine Ae ?_;generalize hE:[Comprehension.mk _ _ _ _]=E;refine AY Hp ?_ (by intro _ e;subst e;rfl) (by kernel_rfl);refine AT ?_;refine⟨rfl,?_⟩;refine AK ?_;subst hE;refine Nm he hc rfl (by kernel_rfl) ?_;refine Ap (id:="range") F.Fl he (by kernel_rfl) ?_;refine AK ?_;refine AL F.B6 F.B7 he (by kernel_rfl) ?_;refine Cg he (by kernel_rfl) (by rfl) ?_;refine An he (by kernel_rfl) (by rfl) ?_;refine CY (t:=4) F s1.at' (by decide) (by decide) fun S2 r hr s2=>?_;have s3:=s1.trans s2;refine AE ?_;refine J5 ?_;have hsm:=Ud r hr;have hxs:=Xn r hr;refine⟨_,_,.rg hsm,fun Lc cenv hce=>?_⟩;unfold Bj;refine rr hxs ?_;refine Co (bD S a d r) (fun l acc S' hP=>?_) ?_ ?_ ⟨[],rfl,by simp,(fun _ h=>nomatch h),s3,s2.keep d _ hda hd1⟩
 ·obtain⟨ws,rfl,h2,_⟩:=hP;exact⟨trivial,by exact rr (List.length_map ..) (Y3 hr h2)⟩
 ·rintro k l acc S' ⟨ws,rfl,h2,h3,h4,h5⟩;refine BA hce (by kernel_rfl) ?_;refine⟨Cd.cons (by rfl) (Cd.refl _),⟨fun _=>?_,fun hb=>tf hb⟩⟩;refine AL F.D6 F.EG hce (by kernel_rfl) ?_;refine Cg hce (by kernel_rfl) (by rfl) ?_;refine Cg hce (by kernel_rfl) (by rfl) ?_;refine AE ?_;refine FT F h4.at' h5 hda (by decide) (by decide) fun S6 x hx s6=>?_;obtain⟨w,hw,rfl⟩:=List.mem_map.mp hx;refine⟨Cd.cons (by rfl) (Cd.refl _),ws++[w],by refine rr List.map_append ?_;rfl,by rw[List.length_cons]at h2;simp;exact TX h2,fun v hv=>?_,h4.trans s6,s6.keep d _ hda h5⟩;rcases List.mem_append.mp hv with hv|hv
  ·exact h3 v hv
  ·exact rr (List.mem_singleton.mp hv) hw
 rintro acc S3 ⟨ws,rfl,h2,h3,h4,h5⟩;intro D hD;refine AE ?_;have hw1:∀w∈ws,w.length=1∧∀k∈w.cps.toList,k∈([97,38,60,62,34,9,10,13,122]:List Nat):=fun w hw=>Uc w (h3 w hw);refine KE (AC ..) (Jf (m:=1) (by rw[List.length_nil]at h2;exact Zm hr h2) fun x hx=>?_) ?_
 ·refine rr ((hw1 x hx).1) ?_;decide+kernel
 ·have e:Txt.join ("":Str) ws=Str.join ("":Str) ws:=StrLaws.glued_eq_join _ _;refine q _ _ ⟨?_,?_⟩ (h4.put hD)
  ·show Array.size _≤3;refine rr e (rl Array.length_toList (rr (GE ..) (rr List.length_flatMap (rr (List.map_congr_left (g:=fun _=>1) (fun w hw=>by rw[Array.length_toList];exact(hw1 w hw).1)) ?_))));refine rr List.map_const' (rr List.sum_replicate_nat ?_);rw[List.length_nil]at h2;exact XB hr h2
  ·intro k hk;rw[e,GE]at hk;obtain⟨w,hw,hk⟩:=List.mem_flatMap.mp hk;exact(hw1 w hw).2 k hk
end
structure LN where
 dd:Option Str
 q:Bool
 r:Bool
 nm:Str
 np:Nat
 w:Str
structure LN.Ok(e:LN):Prop where
 d:e.dd=none∨e.dd=some ("":Str)∨e.dd=some ("d":Str)∨e.dd=some ("e":Str)
 n:e.nm=("c":Str)∨e.nm=("p:c":Str)∨(e.nm=("q:c":Str)∧e.q=true)
 k:e.np<4
 wd:Wd e.w
noncomputable def LN.names(e:LN):List (Str×Str):=
 (match e.dd with|some u=>[(("":Str),u)]|none=>[])++(if e.q then[(("q":Str),("v":Str))]else[])++(if e.r then[(("r":Str),("a":Str))]else[])
noncomputable def LN.pairs(e:LN):List (Str×Str):=
 [(("n":Str),e.w),(("m":Str),("2":Str)),(("p:m":Str),("3":Str))].take e.np++(if e.r then[(("r:z":Str),("4":Str))]else[])
inductive Ax where
 |root (w:Str)
 |el (ab:Nat) (e:LN)
 |tx (ab:Nat) (w:Str)
 |cm (ab:Nat)
noncomputable def Ax.Ok:Ax→Prop
 |.root w=>Wd w
 |.el _ e=>e.Ok
 |.tx _ w=>Wd w
 |.cm _=>True
noncomputable def Ax.isEl:Ax→Bool
 |.root _=>true
 |.el _ _=>true
 |_=>false
noncomputable def Ax.kind:Ax→Str
 |.root _=>("element":Str)
 |.el _ _=>("element":Str)
 |.tx _ _=>("text":Str)
 |.cm _=>("comment":Str)
noncomputable def Ax.name:Ax→Str
 |.root _=>("p:a":Str)
 |.el _ e=>e.nm
 |.tx _ _=>("":Str)
 |.cm _=>("":Str)
noncomputable def Ax.above:Ax→Option Nat
 |.root _=>none
 |.el ab _=>some ab
 |.tx ab _=>some ab
 |.cm ab=>some ab
noncomputable def Ax.names:Ax→List (Str×Str)
 |.root _=>[(("p":Str),("u":Str)),(("":Str),("d":Str))]
 |.el _ e=>e.names
 |_=>[]
noncomputable def Ax.pairs:Ax→List (Str×Str)
 |.root w=>[(("m":Str),w),(("p:b":Str),("1":Str))]
 |.el _ e=>e.pairs
 |_=>[]
inductive Sr(S:AD)(X:List Addr)(r:Ax)(v:AV):Prop
 |mk (na pa:Addr) (e:v= .tup [.ref na,.ref pa]) (x1:na∉X) (x2:pa∉X) (s1:S na=some (.list (r.names.map AI))) (s2:S pa=some (.list (r.pairs.map AI)))
noncomputable def Ax.what(S:AD)(X:List Addr):Ax→AV→Prop
 |.tx _ w,v=>v= .str w
 |.cm _,v=>v= .str " k "
 |r,v=>Sr S X r v
noncomputable def PF(X:List Addr)(S:AD)(v:AV)(r:Ax):Prop:=∃wv,v= .tup [EK r.above,.str r.kind,.str r.name,wv]∧r.what S X wv
theorem PF.mono{X:List Addr}{S S':AD}{v:AV}{r:Ax}(h:PF X S v r)(e:∀b o,b∉X→S b=some o→S' b=some o):PF X S' v r:=by
 obtain⟨wv,h1,h2⟩:=h;refine⟨wv,h1,?_⟩
 cases r with
 |root _=>obtain⟨na,pa,e1,x1,x2,s1,s2⟩:=h2;exact⟨na,pa,e1,x1,x2,e _ _ x1 s1,e _ _ x2 s2⟩
 |el _ _=>obtain⟨na,pa,e1,x1,x2,s1,s2⟩:=h2;exact⟨na,pa,e1,x1,x2,e _ _ x1 s1,e _ _ x2 s2⟩
 |tx _ _=>exact h2
 |cm _=>exact h2
structure Fq(X:List Addr)(S:AD)(vs:List AV)(rs:List Ax):Prop where
 len:vs.length=rs.length
 at':∀(i:Nat) v r,vs[i]?=some v→rs[i]?=some r→PF X S v r
theorem Fq.mono{X:List Addr}{S S':AD}{vs:List AV}{rs:List Ax}(h:Fq X S vs rs)(e:∀b o,b∉X→S b=some o→S' b=some o):Fq X S' vs rs:=
 ⟨h.len,fun i v r h1 h2=>(h.at' i v r h1 h2).mono e⟩
theorem Fq.snoc{X:List Addr}{S:AD}{vs:List AV}{rs:List Ax}{v:AV}{r:Ax}(h:Fq X S vs rs)(hv:PF X S v r):Fq X S (vs++[v]) (rs++[r]):=by
 refine⟨by simp[h.len],fun i v' r' h1 h2=>?_⟩;by_cases hi:i<vs.length
 ·rw[List.getElem?_append_left hi]at h1;rw[List.getElem?_append_left (by exact rl h.len hi)]at h2;exact h.at' i v' r' h1 h2
 ·have hi':i=vs.length:=by
   have:=(List.getElem?_eq_some_iff.mp h1).1;rw[List.length_append,List.length_singleton]at this;exact PV hi this
  subst hi';rw[List.getElem?_append_right (Nat.le_refl _)]at h1;rw[List.getElem?_append_right (by exact rr h.len (Nat.le_refl _))]at h2;simp at h1;simp[h.len]at h2;subst h1;subst h2;exact hv
theorem Fq.get{X:List Addr}{S:AD}{vs:List AV}{rs:List Ax}(h:Fq X S vs rs){i:Nat}{r:Ax}(hr:rs[i]?=some r):∃wv,vs[i]?=some (.tup [EK r.above,.str r.kind,.str r.name,wv])∧r.what S X wv:=by
 have hi:i<vs.length:=by exact rr h.len ((List.getElem?_eq_some_iff.mp hr).1)
 obtain⟨wv,e,hw⟩:=h.at' i _ r (List.getElem?_eq_getElem hi) hr;exact⟨wv,by exact rr (List.getElem?_eq_getElem hi) (rr e rfl),hw⟩
theorem Lg(r:Ax):decide (r.kind=("element":Str))=r.isEl:=by cases r<;>rfl
theorem Kc.upd{S S':AD}{a d:Addr}{o:AO}(h:Kc S S' a)(hd:S d=Option.none)(hda:d≠a):Kc S (Mine.put S' d o) a:=by
 refine⟨?_,fun b o' hb e=>?_⟩
 ·obtain⟨x,y,h1,h2⟩:=h.at';exact⟨x,y,by rw[AA _ _ (Ne.symm hda)];exact h1,h2⟩
 ·exact rr (AA _ _ ((by first|exact As e hd|exact(As hd e).symm))) (h.keep b o' hb e)
theorem Qt:∀r:Nat,r≤5→Builtin.Range.small 0 r 1=true:=by decide+kernel
theorem bt:∀r:Nat,r≤5→(Builtin.Range.rangeSize 0 r 1).toNat=r:=by decide+kernel
theorem Qr(r:Nat)(h:r≤5):Bj 0 r 1=(List.range r).map natV:=by
 unfold Bj;refine rr (bt r h) ?_;exact List.map_congr_left fun k _=>by show AV.int _=AV.int _;congr 1;exact Y8
section
variable{c:Cx}{n:Nat}{S:AD}{Q:AV→AD→Prop}
structure D0(S S':AD)(a rl:Addr)(rs:List Ax)(vs:List AV)(k:Nat):Prop where
 s:Kc S S' a
 l:S' rl=some (.list vs)
 v:Fq [a,rl] S' vs rs
 ok:∀r∈rs,r.Ok
 hd:∃w rs',rs= .root w::rs'∧∀r∈rs',r.above≠none
 n:rs.length+k≤5
theorem D0.hd0{S S':AD}{a rl:Addr}{rs:List Ax}{vs:List AV}{k:Nat}(h:D0 S S' a rl rs vs k):∃w,rs[0]?=some (.root w):=by
 obtain⟨w,rs',rfl,_⟩:=h.hd;exact⟨w,rfl⟩
theorem D0.go{S S' S2:AD}{a rl:Addr}{rs:List Ax}{vs:List AV}{k:Nat}(h:D0 S S' a rl rs vs k)(hra:rl≠a)(s:Kc S' S2 a):D0 S S2 a rl rs vs k:=
 ⟨h.s.trans s,s.keep _ _ hra h.l,h.v.mono fun b o hb e=>s.keep b o (fun q=>hb (by simp[q])) e,h.ok,h.hd,h.n⟩
theorem D0.add{S S':AD}{a rl:Addr}{rs:List Ax}{vs:List AV}{k:Nat}(h:D0 S S' a rl rs vs (k+1))(hra:rl≠a)(hrl:S rl=none){v:AV}{r:Ax}(hv:PF [a,rl] S' v r)(hok:r.Ok)(hab:r.above≠none):
  D0 S (put S' rl (.list (vs++[v]))) a rl (rs++[r]) (vs++[v]) k:=by
 have e:∀b o,b∉[a,rl]→S' b=some o→put S' rl (.list (vs++[v])) b=some o:=fun b o hb e=>by exact rr (AA _ _ (fun q=>hb (by simp[q]))) e
 refine⟨h.s.upd hrl hra,AC ..,(h.v.mono e).snoc (hv.mono e),fun x hx=>?_,?_,by have:=h.n;exact rr List.length_append (rr List.length_singleton (Xu this))⟩
 ·rcases List.mem_append.mp hx with hx|hx
  ·exact h.ok x hx
  ·exact rr (List.mem_singleton.mp hx) hok
 ·obtain⟨w,rs',rfl,hr⟩:=h.hd;refine⟨w,rs'++[r],rfl,fun x hx=>?_⟩;rcases List.mem_append.mp hx with hx|hx
  ·exact hr x hx
  ·exact rr (List.mem_singleton.mp hx) hab
end
theorem AR{ρ:AJ}{x y:Str}{v:AV}{o:Option AV}(h:AG ρ y=o)(hne:decide (x=y)=false):AG ((x,v)::ρ) y=o:=by
 exact rr (AN ..) (rr (if_neg (of_decide_eq_false hne)) h)
theorem cP(u:Str)(bs:List Bool)(h:bs.length=3):(([(("":Str),u),(("q":Str),("v":Str)),(("r":Str),("a":Str))].zip bs).filter (fun x=>x.2)).map (fun x=>x.1)=(LN.mk (if bs.getD 0 false then some u else none) (bs.getD 1 false) (bs.getD 2 false) ("":Str) 0 ("":Str)).names:=by
 obtain⟨b1,b2,b3,rfl⟩:=Rb (P:=fun q=>∃a b c,q=[a,b,c]) (fun a b c=>⟨a,b,c,rfl⟩) bs h;cases b1<;>cases b2<;>cases b3<;>rfl
noncomputable def M7(l:List (Str×Str)):List (Str×AV):=l.map fun p=>(p.1,AV.str p.2)
theorem UG(e:LN):(AG (Bx (M7 e.names)) ("q":Str)).isSome=e.q:=by
 obtain⟨dd,q,r,nm,np,w⟩:=e;cases dd<;>cases q<;>cases r<;>rfl
theorem Um(e:LN):(AG (Bx (M7 e.names)) ("r":Str)).isSome=e.r:=by
 obtain⟨dd,q,r,nm,np,w⟩:=e;cases dd<;>cases q<;>cases r<;>rfl
theorem LD(e:LN):e.names.length≤3:=by
 obtain⟨dd,q,r,nm,np,w⟩:=e;cases dd<;>cases q<;>cases r<;>simp[LN.names]
section
variable{c:Cx}{n:Nat}{S:AD}{Q:AV→AD→Prop}
inductive ZX(S:AD)(a rl:Addr)(l:List Nat)(rs:List Ax)(vs:List AV)(u:Str)(sl:Addr)(l2:List (Str×Str))(acc:List AV)(S':AD):Prop
 |mk (pre:List (Str×Str)) (bs:List Bool) (h0:pre++l2=[(("":Str),u),(("q":Str),("v":Str)),(("r":Str),("a":Str))]) (h1:bs.length=pre.length) (h2:acc=(((pre.zip bs).filter (fun x=>x.2)).map (fun x=>x.1)).map AI) (h3:D0 S S' a rl rs vs (l.length+1)) (h4:S' sl=some (.list ([(("":Str),u),(("q":Str),("v":Str)),(("r":Str),("a":Str))].map AI)))
inductive Xo(S6:AD)(rs:List Ax)(vs:List AV)(l:List Nat)(acc:List AV)(S':AD):Prop
 |mk (pre:List Nat) (h0:pre++l=List.range vs.length) (h1:acc=(pre.filter fun k=>((rs[k]?).map Ax.isEl).getD false).map natV) (h2:S'=S6)
inductive Y1(S:AD)(a rl:Addr)(l:List Nat)(ρ:AJ)(S':AD):Prop
 |mk (rs vs) (h0:D0 S S' a rl rs vs l.length) (h1:AG ρ "source"=some (.ref a)) (h2:AG ρ "rows"=some (.ref rl))
set_option maxHeartbeats 8000000 in
theorem MX(F:Af c.K){a:Addr}(h:SrcAt S a)(q:∀S' rl vs rs,Kc S S' a→S rl=none→S' rl=some (.list vs)→Fq [a,rl] S' vs rs→(∀r∈rs,r.Ok)→(∃w rs',rs= .root w::rs'∧∀r∈rs',r.above≠none)→rs.length≤5→Q (.ref rl) S'):AM c (n+4) (.ref 612) [.ref a] S Q:=by
 refine(Hu F.Iz (names:=["source"]) (by kernel_rfl) (by decide+kernel) (fun _ _ _ _ _ _ _ _ g=>by kernel_rfl) (by decide+kernel) rfl (by kernel_rfl) ?_).call;intro L env hc he;refine AH ?_;generalize hE:Expr.List _ _=E;have hs:∀x xp l env,swapsWith E (some (.Name x xp)) l env=pure false:=by intro _ _ _ _;subst hE;exact Du
 refine RC he (by kernel_rfl) ?_ (hs _ _ _ _);subst hE;clear hs;refine Aw ?_;refine Ah ?_;refine US ?_;refine Ac ?_;refine Ac ?_;refine Ah ?_;refine AK ?_;refine Aw ?_;refine Ah ?_;refine Ac ?_;refine Ac ?_;refine AE ⟨ble rfl,?_⟩;refine Ah ?_;refine Ac ?_;refine Ac ?_;refine AE ⟨ble rfl,?_⟩;refine AE ⟨ble rfl,fun na hna=>?_⟩;have s1:=h.refl.put (o:=.list ((Ax.root ("":Str)).names.map AI)) hna;have hn1:put S na (.list ((Ax.root ("":Str)).names.map AI)) na=some (.list ((Ax.root ("":Str)).names.map AI)):=AC ..;have hnaa:na≠a:=fun e=>h.ne (e▸hna);show Ok c _ L RL _ _ (put S na (.list ((Ax.root ("":Str)).names.map AI))) _;revert s1 hn1;refine Dh (put S na (.list ((Ax.root ("":Str)).names.map AI)):AD) ?_;intro S1;intro s1 hn1;refine AK ?_;refine Aw ?_;refine Ah ?_;refine Ac ?_;refine AK ?_;refine AL F.Df F.Dg he (by kernel_rfl) ?_;refine Cg he (by kernel_rfl) (by rfl) ?_;refine AE ?_;refine Fb F s1.at' fun S2 w hw s2=>?_;have s12:=s1.trans s2;have hn2:=s2.keep na _ hnaa hn1;refine AE ⟨ble rfl,?_⟩;refine Ah ?_;refine Ac ?_;refine Ac ?_;refine AE ⟨ble rfl,?_⟩;refine AE ⟨ble rfl,fun pa hpa=>?_⟩;have s3:=s12.put (o:=.list ((Ax.root w).pairs.map AI)) hpa;have hp3:put S2 pa (.list ((Ax.root w).pairs.map AI)) pa=some (.list ((Ax.root w).pairs.map AI)):=AC ..;have hpaa:pa≠a:=fun e=>s12.at'.ne (e▸hpa);have hnp:na≠pa:=fun e=>by rw[e]at hn2;rw[hn2]at hpa;cases hpa
 have hn3:put S2 pa (.list ((Ax.root w).pairs.map AI)) na=some (.list ((Ax.root ("":Str)).names.map AI)):=(AA _ _ hnp).trans hn2;show Ok c _ L RL _ _ (put S2 pa (.list ((Ax.root w).pairs.map AI))) _;revert s3 hp3 hn3;refine Dh (put S2 pa (.list ((Ax.root w).pairs.map AI)):AD) ?_;intro S3;intro s3 hp3 hn3;refine AE ⟨ble rfl,?_⟩;refine AE ⟨ble rfl,?_⟩;refine AE ⟨ble rfl,fun rl hrl=>?_⟩;have hrlS:=s3.none hrl;have hra:rl≠a:=fun e=>s3.at'.ne (e▸hrl)
 have P0:D0 S (put S3 rl (.list [.tup [.none,.str "element",.str "p:a",.tup [.ref na,.ref pa]]])) a rl [.root w] [.tup [.none,.str "element",.str "p:a",.tup [.ref na,.ref pa]]] 4:=by
  have n1:na≠rl:=(by first|exact As hn3 hrl|exact(As hrl hn3).symm)
  have n2:pa≠rl:=(by first|exact As hp3 hrl|exact(As hrl hp3).symm)
  refine⟨s3.put hrl,AC ..,⟨rfl,fun i v r h1 h2=>?_⟩,fun r hr=>?_,⟨w,[],rfl,fun _ h=>nomatch h⟩,by simp⟩
  ·match i,h1,h2 with
   |0,h1,h2=>
    cases h1;cases h2;exact⟨_,rfl,na,pa,rfl,by simp[hnaa,n1],by simp[hpaa,n2],(AA _ _ n1).trans hn3,(AA _ _ n2).trans hp3⟩
   |i+1,h1,_=>simp at h1
  ·exact rr (List.mem_singleton.mp hr) hw
 show Sq c _ L env _ _ _ _ (put S3 rl (.list [.tup [.none,.str "element",.str "p:a",.tup [.ref na,.ref pa]]]));revert P0;refine Dh (put S3 rl (.list [.tup [.none,.str "element",.str "p:a",.tup [.ref na,.ref pa]]]):AD) ?_;intro S4;intro P0;clear hn3 hp3 hrl s3 hpa hn2 s2 s12 hn1 s1;refine AH ?_;refine CF ?_;refine Ap (id:="range") F.Fl he (by kernel_rfl) ?_;refine Dx ?_;refine AS ?_;refine AL F.B6 F.B7 he (by kernel_rfl) ?_;refine Cg he (by kernel_rfl) (by rfl) ?_;refine G2 ?_;refine AE ?_;refine CY (t:=4) F P0.s.at' (by decide) (by decide) fun S5 tk htk s5=>?_;have P1:=P0.go hra s5;clear P0 s5;refine BE ?_;refine AE ?_;refine J5 ?_;have etk:(1+(tk:Int))=((1+tk:Nat):Int):=by exact Xm
 refine rr etk ?_;refine⟨_,_,.rg (Qt (1+tk) (by exact WI htk)),?_⟩;refine rr (Qr (1+tk) (by exact WI htk)) ?_
 refine A7 (f:=natV) (Y1 S a rl) (fun _ _ _ _=>trivial) ?_ ?_ _ _ _
  ⟨_,_,⟨P1.s,P1.l,P1.v,P1.ok,P1.hd,by refine rr List.length_range ?_;have:=P1.n;simp at this ⊢;exact eJ htk⟩,by rfl,by rfl⟩
 rotate_left
 ·rintro ρ S' ⟨rs,vs,P,hsrc,hrw⟩;refine AQ ?_;refine Ae ?_;refine Dq he (by kernel_rfl) hrw ?_;exact q _ _ _ _ P.s hrlS P.l P.v P.ok P.hd (by have:=P.n;exact ZC this)
 rintro turn l ρ S6 ⟨rs,vs,P,hsrc,hrw⟩;rw[List.length_cons]at P;refine BA he (by kernel_rfl) ?_;replace hsrc:=AR (x:="turn") (v:=natV turn) hsrc (by decide+kernel);replace hrw:=AR (x:="turn") (v:=natV turn) hrw (by decide+kernel);revert hsrc hrw;refine Dh ((("turn":Str),natV turn)::ρ:AJ) ?_;intro ρ1;intro hsrc hrw;refine Aa he (by kernel_rfl) ?_;refine AL F.D6 F.EG he (by kernel_rfl) ?_;refine Cg he (by kernel_rfl) hsrc ?_;refine AK ?_;refine Nm he hc rfl (by kernel_rfl) ?_;refine Ap (id:="range") F.Fl he (by kernel_rfl) ?_;refine AK ?_;refine BT (id:="len") F.Ej he (by kernel_rfl) ?_;refine Cg he (by kernel_rfl) hrw ?_;refine AE ?_;have hvl:vs.length≤5:=by refine rr P.v.len ?_;have:=P.n;exact X6 this
 refine DA (.inl P.l) (by exact VX hvl) ?_;refine AE ?_;refine J5 ?_;refine⟨_,_,.rg (Qt _ hvl),fun Lc cenv hce=>?_⟩;refine rr (Qr _ hvl) ?_;have hrwc:AG (Au (dNames (FD 56)) ρ1) "rows"=some (.ref rl):=by exact rr (BH ..) (rr (if_pos (by kernel_rfl)) hrw)
 have hsrcc:AG (Au (dNames (FD 56)) ρ1) "source"=some (.ref a):=by exact rr (BH ..) (rr (if_pos (by kernel_rfl)) hsrc)
 have hnoat:∀x:Str,(dNames (FD 56)).lookup x≠some .cell→AG (Au (dNames (FD 56)) ρ1) x=none:=fun x hx=>by exact rr (BH ..) (rr (if_neg hx) rfl)
 refine Co (f:=natV) (Xo S6 rs vs) (fun l acc S' hP=>?_) ?_ ?_ ⟨[],rfl,rfl,rfl⟩
 ·obtain⟨pre,h1,rfl,_⟩:=hP;refine⟨trivial,?_⟩;have h2:=congrArg List.length h1;rw[List.length_append,List.length_range]at h2;have h3:=List.length_filter_le (fun k=>((rs[k]?).map Ax.isEl).getD false) pre;exact rr (List.length_map ..) (WK hvl h2 h3)
 ·rintro k l2 acc S' ⟨pre,h1,rfl,rfl⟩
  have hk:k<vs.length:=by
   have:k∈pre++k::l2:=by simp
   rw[h1]at this;exact List.mem_range.mp this
  obtain⟨rk,hrk⟩:∃rk,rs[k]?=some rk:=⟨_,List.getElem?_eq_getElem (by rw[←P.v.len];exact hk)⟩
  obtain⟨wv,hvk,_⟩:=P.v.get hrk;refine BA hce (by kernel_rfl) ?_;have hext:Cd (Au (dNames (FD 56)) ρ1) ((("at":Str),natV k)::Au (dNames (FD 56)) ρ1):=Cd.cons (hnoat _ (by decide+kernel)) (Cd.refl _);refine⟨hext,?_⟩;refine Ck ?_;refine DW ?_;refine DW ?_;refine Dq hce (by kernel_rfl) (hext _ _ hrwc) ?_;refine AB hce (by kernel_rfl) (by rfl) ?_;refine CG (.inl P.l) (by exact Mj) (by lia) (by simpa using hvk) ?_ _ (fun _ _=>rfl);refine AS ?_;refine Bc (k:=1) (by rfl) (by rfl) (by decide) (by decide) ?_ _ (fun _ _=>rfl);refine AT ?_;refine AZ ⟨_,rfl,?_⟩;refine⟨Cd.refl _,fun hb=>?_,fun hb=>?_⟩
  ·refine AB hce (by kernel_rfl) (by rfl) ?_;refine⟨hext,pre++[k],by rw[←h1];simp,?_,rfl⟩;rw[Lg]at hb;refine rr (List.filter_append ..) (rr List.map_append ?_);simp[hrk,hb]
  ·refine⟨pre++[k],by rw[←h1];simp,?_,rfl⟩;rw[Lg]at hb;refine rr (List.filter_append ..) (rr List.map_append ?_);simp[hrk,hb]
 rintro acc _ ⟨pre,h1,rfl,rfl⟩;intro cl hcl;rw[List.append_nil]at h1;subst h1;have P2:=P.go hra (P.s.at'.refl.put (o:=.list (((List.range vs.length).filter fun k=>((rs[k]?).map Ax.isEl).getD false).map natV)) hcl);have hcla:cl≠a:=fun e=>P.s.at'.ne (e▸hcl);refine AE ?_;refine FT F P2.s.at' (AC ..) hcla ?_ ?_ fun S7 x hx s7=>?_
 ·refine rr (List.length_map ..) ?_;obtain⟨w0,hw0⟩:=P.hd0;refine List.length_pos_of_mem (a:=0) (List.mem_filter.mpr ⟨List.mem_range.mpr ?_,by refine rr hw0 ?_;rfl⟩);exact rr P.v.len ((List.getElem?_eq_some_iff.mp hw0).1)
 ·refine rr (List.length_map ..) ?_;have h3:=List.length_filter_le (fun k=>((rs[k]?).map Ax.isEl).getD false) (List.range vs.length);rw[List.length_range]at h3;exact ZH hvl h3
 have P3:=P2.go hra s7;obtain⟨ab,-,rfl⟩:=List.mem_map.mp hx;clear P P2 s7 hcl hx hrwc hsrcc hnoat;replace hsrc:=AR (x:="above") (v:=natV ab) hsrc (by decide+kernel);replace hrw:=AR (x:="above") (v:=natV ab) hrw (by decide+kernel);have hab:AG ((("above":Str),natV ab)::ρ1) "above"=some (natV ab):=by rfl
 show Sq c _ L env _ _ _ ((("above":Str),natV ab)::ρ1) _;revert hsrc hrw hab;refine Dh ((("above":Str),natV ab)::ρ1:AJ) ?_;intro ρ2;intro hsrc hrw hab;refine Aa he (by kernel_rfl) ?_;refine AL F.B6 F.B7 he (by kernel_rfl) ?_;refine Cg he (by kernel_rfl) hsrc ?_;refine G2 ?_;refine AE ?_;refine CY (t:=5) F P3.s.at' (by decide) (by decide) fun S8 wy hwy s8=>?_;have P4:=P3.go hra s8;clear P3 s8;replace hsrc:=AR (x:="way") (v:=.int wy) hsrc (by decide+kernel);replace hrw:=AR (x:="way") (v:=.int wy) hrw (by decide+kernel);replace hab:=AR (x:="way") (v:=.int wy) hab (by decide+kernel);have hway:AG ((("way":Str),AV.int wy)::ρ2) "way"=some (.int wy):=by rfl
 show Sq c _ L env _ _ _ ((("way":Str),AV.int wy)::ρ2) _;revert hsrc hrw hab hway;refine Dh ((("way":Str),AV.int wy)::ρ2:AJ) ?_;intro ρ3;intro hsrc hrw hab hway;refine BC ?_;refine AB he (by kernel_rfl) hway ?_;refine AS ?_;refine HL ⟨_,rfl,?_⟩;refine⟨fun hb=>?_,fun hb=>?_⟩;rotate_left
 ·refine BC ?_;refine AB he (by kernel_rfl) hway ?_;refine AS ?_;refine HL ⟨_,rfl,?_⟩;refine⟨fun hb=>?_,fun hb=>?_⟩
  ·refine AH ?_;refine Av he ?_;refine AY Al ?_;refine Dq he (by kernel_rfl) hrw ?_;refine⟨.inl ⟨_,P4.l,rfl⟩,?_⟩;refine Ah ?_;refine A0 he (by kernel_rfl) hab ?_;refine Ac ?_;refine Ac ?_;refine AK ?_;refine AL F.Df F.Dg he (by kernel_rfl) ?_;refine Cg he (by kernel_rfl) hsrc ?_;refine AE ?_;refine Fb F P4.s.at' fun S9 w9 hw9 s9=>?_;have P5:=P4.go hra s9;refine AE ⟨ble rfl,?_⟩;refine AE ?_;refine Ar P5.l (by refine rr P5.v.len ?_;have:=P5.n;exact QP this) ?_;refine Ad ?_;refine AQ ?_;exact⟨_,_,P5.add hra hrlS (r:=.tx ab w9) ⟨_,rfl,rfl⟩ hw9 (fun h=>nomatch h),hsrc,hrw⟩
  ·refine AH ?_;refine Av he ?_;refine AY Al ?_;refine Dq he (by kernel_rfl) hrw ?_;refine⟨.inl ⟨_,P4.l,rfl⟩,?_⟩;refine Ah ?_;refine A0 he (by kernel_rfl) hab ?_;refine Ac ?_;refine Ac ?_;refine Ac ?_;refine AE ⟨ble rfl,?_⟩;refine AE ?_;refine Ar P4.l (by refine rr P4.v.len ?_;have:=P4.n;exact QP this) ?_;refine Ad ?_;refine AQ ?_;exact⟨_,_,P4.add hra hrlS (r:=.cm ab) ⟨_,rfl,rfl⟩ trivial (fun h=>nomatch h),hsrc,hrw⟩
 refine AH ?_;generalize hE:Expr.List _ _=E;have hs:∀x xp l env,swapsWith E (some (.Name x xp)) l env=pure false:=by intro _ _ _ _;subst hE;exact Du
 refine LB he (by kernel_rfl) ?_ (hs _ _ _ _);subst hE;clear hs;refine Aw ?_;refine Ah ?_;refine Ac ?_;refine AK ?_;refine AL F.D6 F.EG he (by kernel_rfl) ?_;refine Cg he (by kernel_rfl) hsrc ?_;refine AK ?_;refine Aw ?_;refine Ac ?_;refine Ac ?_;refine Ac ?_;refine AE ⟨ble rfl,fun ul hul=>?_⟩;have P5:=P4.go hra (P4.s.at'.refl.put (o:=.list [.str "",.str "d",.str "e"]) hul);have hula:ul≠a:=fun e=>P4.s.at'.ne (e▸hul);refine AE ?_;refine FT F P5.s.at' (AC ..) hula (by decide) (by decide) fun S9 x hx s9=>?_;have P6:=P5.go hra s9
 obtain⟨u,rfl,hu⟩:∃u:Str,x= .str u∧(u=("":Str)∨u=("d":Str)∨u=("e":Str)):=by
  simp only[List.mem_cons,List.not_mem_nil,or_false]at hx;rcases hx with rfl|rfl|rfl
  ·exact⟨_,rfl,.inl rfl⟩
  ·exact⟨_,rfl,.inr (.inl rfl)⟩
  ·exact⟨_,rfl,.inr (.inr rfl)⟩
 clear P4 P5 s9 hul hx hula;refine AE ⟨ble rfl,?_⟩;refine Ah ?_;refine Ac ?_;refine Ac ?_;refine AE ⟨ble rfl,?_⟩;refine Ah ?_;refine Ac ?_;refine Ac ?_;refine AE ⟨ble rfl,?_⟩;refine AE ⟨ble rfl,fun sl hsl=>?_⟩;have P7:=P6.go hra (P6.s.at'.refl.put (o:=.list ([(("":Str),u),(("q":Str),("v":Str)),(("r":Str),("a":Str))].map AI)) hsl);have hsla:sl≠a:=fun e=>P6.s.at'.ne (e▸hsl);have hs1:put S9 sl (.list ([(("":Str),u),(("q":Str),("v":Str)),(("r":Str),("a":Str))].map AI)) sl=some (.list ([(("":Str),u),(("q":Str),("v":Str)),(("r":Str),("a":Str))].map AI)):=AC ..;show Sq c _ L env _ _ _ _ (put S9 sl (.list ([(("":Str),u),(("q":Str),("v":Str)),(("r":Str),("a":Str))].map AI)));revert P7 hs1;refine Dh (put S9 sl (.list ([(("":Str),u),(("q":Str),("v":Str)),(("r":Str),("a":Str))].map AI)):AD) ?_;intro S10;intro P7 hs1;clear P6 hsl;replace hsrc:=AR (x:="some") (v:=.ref sl) hsrc (by decide+kernel);replace hrw:=AR (x:="some") (v:=.ref sl) hrw (by decide+kernel);replace hab:=AR (x:="some") (v:=.ref sl) hab (by decide+kernel);have hsome:AG ((("some":Str),AV.ref sl)::ρ3) "some"=some (.ref sl):=by rfl
 show Sq c _ L env _ _ _ ((("some":Str),AV.ref sl)::ρ3) _;revert hsrc hrw hab hsome;refine Dh ((("some":Str),AV.ref sl)::ρ3:AJ) ?_;intro ρ4;intro hsrc hrw hab hsome;clear hb hway;refine AH ?_;refine Cz he hc rfl (by kernel_rfl) (C1 he (by kernel_rfl) (by kernel_rfl) (by kernel_rfl)) ?_;refine AB he (by kernel_rfl) hsome ?_;refine⟨_,_,.list (.inl hs1),fun Lc cenv hce=>?_⟩;have hsrcc:AG (Au (dNames (FD 56)) ρ4) "source"=some (.ref a):=by exact rr (BH ..) (rr (if_pos (by kernel_rfl)) hsrc)
 have hnoat:∀x:Str,(dNames (FD 56)).lookup x≠some .cell→AG (Au (dNames (FD 56)) ρ4) x=none:=fun x hx=>by exact rr (BH ..) (rr (if_neg hx) rfl)
 refine Co (f:=AI) (ZX S a rl l rs vs u sl)
  (fun l2 acc S' hP=>?_) ?_ ?_ ⟨[],[],rfl,rfl,rfl,P7,hs1⟩
 ·obtain⟨pre,bs,h1,h2,rfl,_,h3⟩:=hP;refine⟨.inl h3,?_⟩;have h4:=congrArg List.length h1;rw[List.length_append]at h4;have h5:=List.length_filter_le (fun x:(Str×Str)×Bool=>x.2) (pre.zip bs);rw[List.length_zip]at h5;refine rr (List.length_map ..) (rr (List.length_map ..) ?_);simp at h4;exact YO h2 h5 h4
 ·rintro pr l2 acc S11 ⟨pre,bs,h1,h2,rfl,P8,hs8⟩;refine BA hce (by kernel_rfl) ?_;have hext:Cd (Au (dNames (FD 56)) ρ4) ((("pair":Str),AI pr)::Au (dNames (FD 56)) ρ4):=Cd.cons (hnoat _ (by decide+kernel)) (Cd.refl _);refine⟨hext,?_⟩;refine Ck ?_;refine AL F.B6 F.B7 hce (by kernel_rfl) ?_;refine Cg hce (by kernel_rfl) (hext _ _ hsrcc) ?_;refine G2 ?_;refine AE ?_;refine CY (t:=2) F P8.s.at' (by decide) (by decide) fun S12 b2 hb2 s12=>?_;have P9:=P8.go hra s12;have hs9:=s12.keep sl _ hsla hs8;refine AS ?_;refine J6 ⟨_,rfl,?_⟩;refine⟨Cd.refl _,fun hb=>?_,fun hb=>?_⟩
  ·refine AB hce (by kernel_rfl) (by rfl) ?_;refine⟨hext,pre++[pr],bs++[true],by rw[←h1];simp,by simp[h2],?_,P9,hs9⟩;refine rr (List.zip_append h2.symm) (rr (List.filter_append ..) (rr List.map_append (rr List.map_append ?_)));rfl
  ·refine⟨pre++[pr],bs++[false],by rw[←h1];simp,by simp[h2],?_,P9,hs9⟩;refine rr (List.zip_append h2.symm) (rr (List.filter_append ..) (rr List.map_append (rr List.map_append ?_)));simp
 rintro acc S11 ⟨pre,bs,h1,h2,rfl,P8,hs8⟩;intro nl hnl;rw[List.append_nil]at h1;subst h1;have hsel:=cP u bs h2;refine rr hsel ?_;clear hsel;refine PR ((if bs.getD 0 false=true then some u else none)) ?_;intro dd hdd;refine Dh (bs.getD 1 false) ?_;intro eq;refine Dh (bs.getD 2 false) ?_;intro er
 have hddok:dd=none∨dd=some ("":Str)∨dd=some ("d":Str)∨dd=some ("e":Str):=by
  rw[←hdd];split
  ·rcases hu with rfl|rfl|rfl
   ·exact .inr (.inl rfl)
   ·exact .inr (.inr (.inl rfl))
   ·exact .inr (.inr (.inr rfl))
  ·exact .inl rfl
 clear hdd hu h2 hsome hsrcc hnoat P7 hs1;refine PR ((LN.mk dd eq er ("":Str) 0 ("":Str)).names) ?_;intro nms hnms;have hdq:(AG (Bx (M7 nms)) ("q":Str)).isSome=eq:=by rw[←hnms];exact UG _
 have hdr:(AG (Bx (M7 nms)) ("r":Str)).isSome=er:=by rw[←hnms];exact Um _
 have hnl3:nms.length≤3:=by rw[←hnms];exact LD _
 have P9:=P8.go hra (P8.s.at'.refl.put (o:=.list (nms.map AI)) hnl);have hnla:nl≠a:=fun e=>P8.s.at'.ne (e▸hnl);have hnlr:nl≠rl:=(by first|exact As hnl P8.l|exact(As P8.l hnl).symm)
 have hn9:put S11 nl (.list (nms.map AI)) nl=some (.list (nms.map AI)):=AC ..;revert P9 hn9;refine Dh (put S11 nl (.list (nms.map AI)):AD) ?_;intro S12;intro P9 hn9;clear P8 hs8 hnl;refine BA he (by kernel_rfl) ?_;replace hsrc:=AR (x:="names") (v:=.ref nl) hsrc (by decide+kernel);replace hrw:=AR (x:="names") (v:=.ref nl) hrw (by decide+kernel);replace hab:=AR (x:="names") (v:=.ref nl) hab (by decide+kernel);have hnam:AG ((("names":Str),AV.ref nl)::ρ4) "names"=some (.ref nl):=by rfl
 show Sq c _ L env _ _ _ ((("names":Str),AV.ref nl)::ρ4) _;revert hsrc hrw hab hnam;refine Dh ((("names":Str),AV.ref nl)::ρ4:AJ) ?_;intro ρ5;intro hsrc hrw hab hnam;refine Aa he (by kernel_rfl) ?_;refine Ap (id:="dict") F.L3 he (by kernel_rfl) ?_;refine A0 he (by kernel_rfl) hnam ?_;refine AE ?_;have hkv:nms.map AI=(M7 nms).map HS:=by unfold M7;refine rr List.map_map ?_;rfl
 refine PD (ps:=M7 nms) (by exact rr hn9 (rr hkv rfl)) (by unfold M7;exact rr (List.length_map ..) (cf hnl3)) fun kd hkd=>?_;have P10:=P9.go hra (P9.s.at'.refl.put (o:=.dict (Bx (M7 nms))) hkd);have hkda:kd≠a:=fun e=>P9.s.at'.ne (e▸hkd);have hnkd:nl≠kd:=(by first|exact As hn9 hkd|exact(As hkd hn9).symm)
 have hk10:put S12 kd (.dict (Bx (M7 nms))) kd=some (.dict (Bx (M7 nms))):=AC ..;have hn10:put S12 kd (.dict (Bx (M7 nms))) nl=some (.list (nms.map AI)):=(AA _ _ hnkd).trans hn9;revert P10 hk10 hn10;refine Dh (put S12 kd (.dict (Bx (M7 nms))):AD) ?_;intro S13;intro P10 hk10 hn10;clear P9 hn9 hkd hkv;replace hsrc:=AR (x:="known") (v:=.ref kd) hsrc (by decide+kernel);replace hrw:=AR (x:="known") (v:=.ref kd) hrw (by decide+kernel);replace hab:=AR (x:="known") (v:=.ref kd) hab (by decide+kernel);replace hnam:=AR (x:="known") (v:=.ref kd) hnam (by decide+kernel);have hkn:AG ((("known":Str),AV.ref kd)::ρ5) "known"=some (.ref kd):=by rfl
 show Sq c _ L env _ _ _ ((("known":Str),AV.ref kd)::ρ5) _;revert hsrc hrw hab hnam hkn;refine Dh ((("known":Str),AV.ref kd)::ρ5:AJ) ?_;intro ρ6;intro hsrc hrw hab hnam hkn;refine Aa he (by kernel_rfl) ?_;refine AL F.D6 F.EG he (by kernel_rfl) ?_;refine Cg he (by kernel_rfl) hsrc ?_;refine AK ?_;refine Aw ?_;refine Ac ?_;refine Ac ?_;refine AK ?_;refine Ok.val (.str (if eq=true then("q:c":Str)else("c":Str))) ?_ ?_
 ·refine Dz ?_;refine Ck ?_;refine AT ?_;refine AB he (by kernel_rfl) hkn ?_;refine IQ hk10 ⟨_,rfl,?_⟩;refine rr hdq ?_;refine⟨fun hb=>?_,fun hb=>?_⟩
  ·refine AT ?_;exact rr (if_pos hb) (⟨rfl,rfl,rfl⟩)
  ·refine AT ?_;exact rr hb (⟨rfl,rfl,rfl⟩)
 refine AE ⟨ble rfl,fun cl hcl=>?_⟩;have P11:=P10.go hra (P10.s.at'.refl.put (o:=.list [.str "c",.str "p:c",.str (if eq=true then("q:c":Str)else("c":Str))]) hcl);have hcla:cl≠a:=fun e=>P10.s.at'.ne (e▸hcl);have hk11:put S13 cl (.list [.str "c",.str "p:c",.str (if eq=true then("q:c":Str)else("c":Str))]) kd=some (.dict (Bx (M7 nms))):=(AA _ _ ((by first|exact As hk10 hcl|exact(As hcl hk10).symm))).trans hk10;have hn11:put S13 cl (.list [.str "c",.str "p:c",.str (if eq=true then("q:c":Str)else("c":Str))]) nl=some (.list (nms.map AI)):=(AA _ _ ((by first|exact As hn10 hcl|exact(As hcl hn10).symm))).trans hn10;refine AE ?_;refine FT F P11.s.at' (AC ..) hcla (Nat.zero_lt_succ _) (ble rfl) fun S14 x hx s14=>?_;have P12:=P11.go hra s14;have hk12:=s14.keep kd _ hkda hk11;have hn12:=s14.keep nl _ hnla hn11
 obtain⟨nm,rfl,hnm⟩:∃nm:Str,x= .str nm∧(nm=("c":Str)∨nm=("p:c":Str)∨(nm=("q:c":Str)∧eq=true)):=by
  simp only[List.mem_cons,List.not_mem_nil,or_false]at hx;rcases hx with rfl|rfl|rfl
  ·exact⟨_,rfl,.inl rfl⟩
  ·exact⟨_,rfl,.inr (.inl rfl)⟩
  ·refine⟨_,rfl,?_⟩;cases eq
   ·exact .inl rfl
   ·exact .inr (.inr ⟨rfl,rfl⟩)
 clear P10 P11 s14 hk10 hk11 hn10 hn11 hcl hx hcla;replace hsrc:=AR (x:="name") (v:=.str nm) hsrc (by decide+kernel);replace hrw:=AR (x:="name") (v:=.str nm) hrw (by decide+kernel);replace hab:=AR (x:="name") (v:=.str nm) hab (by decide+kernel);replace hnam:=AR (x:="name") (v:=.str nm) hnam (by decide+kernel);replace hkn:=AR (x:="name") (v:=.str nm) hkn (by decide+kernel);have hnme:AG ((("name":Str),AV.str nm)::ρ6) "name"=some (.str nm):=by rfl
 show Sq c _ L env _ _ _ ((("name":Str),AV.str nm)::ρ6) _;revert hsrc hrw hab hnam hkn hnme;refine Dh ((("name":Str),AV.str nm)::ρ6:AJ) ?_;intro ρ7;intro hsrc hrw hab hnam hkn hnme;refine Aa he (by kernel_rfl) ?_;refine DW ?_;refine Aw ?_;refine Ah ?_;refine Ac ?_;refine AK ?_;refine AL F.Df F.Dg he (by kernel_rfl) ?_;refine Cg he (by kernel_rfl) hsrc ?_;refine AE ?_;refine Fb F P12.s.at' fun S15 w5 hw5 s15=>?_;have P13:=P12.go hra s15;have hk13:=s15.keep kd _ hkda hk12;have hn13:=s15.keep nl _ hnla hn12;clear P12 hk12 hn12 s15;refine AE ⟨ble rfl,?_⟩;refine Ah ?_;refine Ac ?_;refine Ac ?_;refine AE ⟨ble rfl,?_⟩;refine Ah ?_;refine Ac ?_;refine Ac ?_;refine AE ⟨ble rfl,?_⟩;refine AE ⟨ble rfl,fun pl hpl=>?_⟩;refine PR ([(("n":Str),w5),(("m":Str),("2":Str)),(("p:m":Str),("3":Str))]) ?_;intro p3 hp3;have ep3:[AV.tup [.str "n",.str w5],.tup [.str "m",.str "2"],.tup [.str "p:m",.str "3"]]=p3.map AI:=by rw[←hp3];rfl
 have P14:=P13.go hra (P13.s.at'.refl.put (o:=.list (p3.map AI)) hpl);have hpla:pl≠a:=fun e=>P13.s.at'.ne (e▸hpl);have hk14:put S15 pl (.list (p3.map AI)) kd=some (.dict (Bx (M7 nms))):=(AA _ _ ((by first|exact As hk13 hpl|exact(As hpl hk13).symm))).trans hk13;have hn14:put S15 pl (.list (p3.map AI)) nl=some (.list (nms.map AI)):=(AA _ _ ((by first|exact As hn13 hpl|exact(As hpl hn13).symm))).trans hn13;have hp14:put S15 pl (.list (p3.map AI)) pl=some (.list (p3.map AI)):=AC ..;show Ok c _ L R _ _ (put S15 pl (.list [AV.tup [.str "n",.str w5],.tup [.str "m",.str "2"],.tup [.str "p:m",.str "3"]])) _;refine rr ep3 ?_;clear ep3;have hp3l:p3.length≤3:=by rw[←hp3];exact Nat.le_refl _
 revert P14 hk14 hn14 hp14;refine Dh (put S15 pl (.list (p3.map AI)):AD) ?_;intro S16;intro P14 hk14 hn14 hp14;clear P13 hk13 hn13 hpl;refine Bs ?_;refine Aj ?_;refine Az ?_;refine AL F.B6 F.B7 he (by kernel_rfl) ?_;refine Cg he (by kernel_rfl) hsrc ?_;refine G2 ?_;refine AE ?_;refine CY (t:=4) F P14.s.at' (by decide) (by decide) fun S17 kk hkk s17=>?_;have P15:=P14.go hra s17;have hk15:=s17.keep kd _ hkda hk14;have hn15:=s17.keep nl _ hnla hn14;have hp15:=s17.keep pl _ hpla hp14;clear P14 hk14 hn14 hp14 s17;refine Aj ?_;refine⟨_,_,_,rfl,rfl,rfl,?_⟩;refine CJ (T:="list") (.inl ⟨_,hp15,rfl⟩) slot_list_getitem.lookup ?_ _ (fun _ _=>rfl);refine MG hp15 (lm (Ri hp3l)) fun tl htl=>?_;rw[←List.map_take];have htk3:(p3.take kk).length≤3:=by exact rr List.length_take (YG hp3l)
 generalize hpk:p3.take kk=pk at*;have P16:=P15.go hra (P15.s.at'.refl.put (o:=.list (pk.map AI)) htl);have htla:tl≠a:=fun e=>P15.s.at'.ne (e▸htl);have hk16:put S17 tl (.list (pk.map AI)) kd=some (.dict (Bx (M7 nms))):=(AA _ _ ((by first|exact As hk15 htl|exact(As htl hk15).symm))).trans hk15;have hn16:put S17 tl (.list (pk.map AI)) nl=some (.list (nms.map AI)):=(AA _ _ ((by first|exact As hn15 htl|exact(As htl hn15).symm))).trans hn15;have ht16:put S17 tl (.list (pk.map AI)) tl=some (.list (pk.map AI)):=AC ..;revert P16 hk16 hn16 ht16;refine Dh (put S17 tl (.list (pk.map AI)):AD) ?_;intro S18;intro P16 hk16 hn16 ht16;clear P15 hk15 hn15 hp15 htl;replace hsrc:=AR (x:="pairs") (v:=.ref tl) hsrc (by decide+kernel);replace hrw:=AR (x:="pairs") (v:=.ref tl) hrw (by decide+kernel);replace hab:=AR (x:="pairs") (v:=.ref tl) hab (by decide+kernel);replace hnam:=AR (x:="pairs") (v:=.ref tl) hnam (by decide+kernel);replace hkn:=AR (x:="pairs") (v:=.ref tl) hkn (by decide+kernel);replace hnme:=AR (x:="pairs") (v:=.ref tl) hnme (by decide+kernel);have hprs:AG ((("pairs":Str),AV.ref tl)::ρ7) "pairs"=some (.ref tl):=by rfl
 show Sq c _ L env _ _ _ ((("pairs":Str),AV.ref tl)::ρ7) _;revert hsrc hrw hab hnam hkn hnme hprs;refine Dh ((("pairs":Str),AV.ref tl)::ρ7:AJ) ?_;intro ρ8;intro hsrc hrw hab hnam hkn hnme hprs;refine Aa he (by kernel_rfl) ?_;refine JD he (by kernel_rfl) hprs ?_;refine Ok.mono (Q:=fun x ρ' S'=>∃d,x= .ref d∧ρ'=ρ8∧S18 d=none∧S'=put S18 d (.list ((if er=true then[(("r:z":Str),("4":Str))]else[]).map AI))) ?_ ?_
 ·refine Dz ?_;refine Ck ?_;refine AT ?_;refine AB he (by kernel_rfl) hkn ?_;refine IQ hk16 ⟨_,rfl,?_⟩;refine rr hdr ?_;refine⟨fun hb=>?_,fun hb=>?_⟩
  ·refine Aw ?_;refine Ah ?_;refine Ac ?_;refine Ac ?_;refine AE ⟨ble rfl,?_⟩;refine AE ⟨ble rfl,fun d hd=>⟨d,rfl,rfl,hd,?_⟩⟩;refine rr (if_pos hb) ?_;rfl
  ·refine Aw ?_;refine AE ⟨ble rfl,fun d hd=>⟨d,rfl,rfl,hd,?_⟩⟩;refine rr hb ?_;rfl
 rintro _ _ _ ⟨d,rfl,rfl,hd,rfl⟩;have hrzl:(if er=true then[(("r:z":Str),("4":Str))]else[]).length≤1:=by split<;>decide
 generalize hrz:(if er=true then[(("r:z":Str),("4":Str))]else[])=rz at*;have P17:=P16.go hra (P16.s.at'.refl.put (o:=.list (rz.map AI)) hd);have hn17:put S18 d (.list (rz.map AI)) nl=some (.list (nms.map AI)):=(AA _ _ ((by first|exact As hn16 hd|exact(As hd hn16).symm))).trans hn16;have ht17:put S18 d (.list (rz.map AI)) tl=some (.list (pk.map AI)):=(AA _ _ ((by first|exact As ht16 hd|exact(As hd ht16).symm))).trans ht16;have hd17:put S18 d (.list (rz.map AI)) d=some (.list (rz.map AI)):=AC ..;refine Dc ht17 hd17 (by exact rr (List.length_map ..) (rr (List.length_map ..) (Ti htk3 hrzl))) fun pd hpd=>?_;rw[←List.map_append];have P18:=P17.go hra (P17.s.at'.refl.put (o:=.list ((pk++rz).map AI)) hpd);have hpda:pd≠a:=fun e=>P17.s.at'.ne (e▸hpd);have hpdr:pd≠rl:=(by first|exact As hpd P17.l|exact(As P17.l hpd).symm)
 have hn18:put (put S18 d (.list (rz.map AI))) pd (.list ((pk++rz).map AI)) nl=some (.list (nms.map AI)):=(AA _ _ ((by first|exact As hn17 hpd|exact(As hpd hn17).symm))).trans hn17;have hp18:put (put S18 d (.list (rz.map AI))) pd (.list ((pk++rz).map AI)) pd=some (.list ((pk++rz).map AI)):=AC ..;revert P18 hn18 hp18;refine Dh (put (put S18 d (.list (rz.map AI))) pd (.list ((pk++rz).map AI)):AD) ?_;intro S19;intro P18 hn18 hp18;clear P16 P17 hn17 ht17 hd17 hpd hd hn16 ht16 hk16;replace hsrc:=AR (x:="pairs") (v:=.ref pd) hsrc (by decide+kernel);replace hrw:=AR (x:="pairs") (v:=.ref pd) hrw (by decide+kernel);replace hab:=AR (x:="pairs") (v:=.ref pd) hab (by decide+kernel);replace hnam:=AR (x:="pairs") (v:=.ref pd) hnam (by decide+kernel);replace hnme:=AR (x:="pairs") (v:=.ref pd) hnme (by decide+kernel);refine AH ?_;refine Av he ?_;refine AY Al ?_;refine Dq he (by kernel_rfl) hrw ?_;refine⟨.inl ⟨_,P18.l,rfl⟩,?_⟩;refine Ah ?_;refine A0 he (by kernel_rfl) hab ?_;refine Ac ?_;refine A0 he (by kernel_rfl) hnme ?_;refine Ah ?_;refine A0 he (by kernel_rfl) hnam ?_;refine A0 he (by kernel_rfl) (by rfl) ?_;refine AE ⟨ble rfl,?_⟩;refine AE ⟨ble rfl,?_⟩;refine AE ?_;refine Ar P18.l (by refine rr P18.v.len ?_;have:=P18.n;exact QP this) ?_;refine Ad ?_;refine⟨_,_,P18.add hra hrlS (r:=.el ab ⟨dd,eq,er,nm,kk,w5⟩) ⟨_,rfl,nl,pd,rfl,by simp[hnla,hnlr],by simp[hpda,hpdr],?_,?_⟩ ⟨hddok,hnm,hkk,hw5⟩ (fun h=>nomatch h),hsrc,hrw⟩
 ·rw[hn18,←hnms];rfl
 ·rw[hp18,←hpk,←hp3,←hrz];rfl
end
noncomputable def toldV(p:Str×Str):Str×Str:=(if p.1=("":Str)then("xmlns":Str)else("xmlns:":Str)++p.1,p.2)
noncomputable def Ax.ats(r:Ax)(tu:Bool)(i:Nat):List (Str×Str):=
 if tu then r.pairs.reverse++((r.names.map toldV).reverse++(if 0<i then[(("xmlns:p":Str),("u":Str))]else[]))else r.names.map toldV++r.pairs
noncomputable def XM(tu:Bool)(w:Str):List Ev:=if tu then[.tx (Txt.slice w none (some 1)),.tx (Txt.slice w (some 1) none)]else[.tx w]
noncomputable def Do(rs:List Ax)(tu:Bool):Nat→Nat→List Ev
 |0,_=>[]
 |f+1,i=>match rs[i]? with
  |none=>[]
  |some (.cm _)=>[.cm (" k ":Str)]
  |some (.tx _ w)=>XM tu w
  |some r=>.st r.name (r.ats tu i)::(((List.range' (i+1) (rs.length-(i+1))).flatMap fun j=>if(rs[j]?).bind Ax.above=some i then Do rs tu f j else[])++[.en r.name])
noncomputable def pw:Nat→Nat
 |0=>2
 |f+1=>2+5*pw f
theorem Cd.trans{ρ1 ρ2 ρ3:AJ}(h:Cd ρ1 ρ2)(h':Cd ρ2 ρ3):Cd ρ1 ρ3:=fun x av e=>h' x av (h x av e)
theorem Ru:∀{f g:Nat},f≤g→pw f≤pw g:=by
 intro f g h
 induction h with
 |refl=>exact Nat.le_refl _
 |step _ ih=>refine Nat.le_trans ih ?_;show _≤2+5*_;exact Wo
theorem Hd{α:Type}{g:Nat→List α}{m:Nat}(h:∀j,(g j).length≤m):∀l:List Nat,(l.flatMap g).length≤l.length*m
 |[]=>Nat.zero_le _
 |a::l=>by
  refine rr List.flatMap_cons (rr List.length_append (rr List.length_cons (rr (Nat.succ_mul ..) ?_)));have:=h a;have:=Hd h l;lia
theorem Mq(rs:List Ax)(tu:Bool)(hr:rs.length≤5):∀f i,(Do rs tu f i).length≤pw f
 |0,_=>Nat.zero_le _
 |f+1,i=>by
  have key:((List.range' (i+1) (rs.length-(i+1))).flatMap fun j=>if(rs[j]?).bind Ax.above=some i then Do rs tu f j else[]).length≤5*pw f:=by
   refine Nat.le_trans (Hd (m:=pw f) (fun j=>?_) _) ?_
   ·split
    ·exact Mq rs tu hr f j
    ·exact Nat.zero_le _
   ·exact rr List.length_range' (Nat.mul_le_mul_right _ (by exact W6 hr))
  unfold Do;show _≤2+5*pw f;split
  ·exact Nat.zero_le _
  ·simp;exact TF
  ·unfold XM;split<;>simp<;>exact TF
  ·exact rr List.length_cons (rr List.length_append (rr List.length_singleton (Ym key)))
theorem Rc:∀a b:_root_.Fin 7,Builtin.Range.small (a.val:Int) (b.val:Int) 1=true:=by decide+kernel
theorem Tv:∀a b:_root_.Fin 7,(Builtin.Range.rangeSize (a.val:Int) (b.val:Int) 1).toNat=b.val-a.val:=by decide+kernel
theorem Rd(a b:Nat)(ha:a≤6)(hb:b≤6):Bj a b 1=(List.range' a (b-a)).map natV:=by
 unfold Bj;refine rr (Tv ⟨a,by exact Sl ha⟩ ⟨b,by exact Sl hb⟩) (rr List.range'_eq_map_range (rr List.map_map ?_));exact List.map_congr_left fun k _=>by show AV.int _=AV.int _;congr 1;show(a:Int)+(k:Int)*1=((a+k:Nat):Int);exact aI
theorem OS{rs:List Ax}{tu:Bool}{f i:Nat}{r:Ax}(hr:rs[i]?=some r)(he:r.isEl=true):
  Do rs tu (f+1) i= .st r.name (r.ats tu i)::(((List.range' (i+1) (rs.length-(i+1))).flatMap fun j=>if(rs[j]?).bind Ax.above=some i then Do rs tu f j else[])++[.en r.name]):=by
 conv=>lhs;unfold Do
 refine rr hr ?_
 cases r<;>first|rfl|exact ft he
theorem Rm{S:AD}{X:List Addr}{r:Ax}{v:AV}(he:r.isEl=true)(h:r.what S X v):Sr S X r v:=by
 cases r<;>first|exact h|exact ft he
theorem G0(r:Ax):r.names.length≤3:=by
 cases r<;>first|exact LD _|exact ble rfl
theorem DD(r:Ax):r.pairs.length≤4:=by
 cases r with
 |el _ e=>unfold Ax.pairs LN.pairs;refine rr List.length_append (rr List.length_take ?_);split<;>simp<;>lia
 |_=>exact ble rfl
theorem Z9:∀x∈[("":Str),("q":Str),("r":Str),("p":Str)],x.length≤10:=by decide+kernel
theorem Lh(r:Ax):∀p∈r.names,p.1∈[("":Str),("q":Str),("r":Str),("p":Str)]:=by
 intro p hp
 cases r with
 |root w=>
  simp only[Ax.names,List.mem_cons,List.not_mem_nil,or_false]at hp;rcases hp with rfl|rfl<;>simp
 |el ab e=>
  simp only[Ax.names,LN.names,List.mem_append]at hp;rcases hp with(hp|hp)|hp
  ·split at hp
   ·refine rr (List.mem_singleton.mp hp) ?_;simp
   ·cases hp
  ·split at hp
   ·refine rr (List.mem_singleton.mp hp) ?_;simp
   ·cases hp
  ·split at hp
   ·refine rr (List.mem_singleton.mp hp) ?_;simp
   ·cases hp
 |tx _ _=>cases hp
 |cm _=>cases hp
theorem MP(r:Ax):∀p∈r.names,p.1.length≤10:=fun p hp=>Z9 _ (Lh r p hp)
section
variable{c:Cx}{n:Nat}
inductive bl(S:AD)(r:Ax)(l2:List (Str×Str))(acc:List AV)(S':AD):Prop
 |mk (pre:List (Str×Str)) (h0:pre++l2=r.names) (h1:acc=(pre.map toldV).map AI) (h2:S'=S)
inductive aE(rs:List Ax)(tu:Bool)(S:AD)(i:Nat)(r:Ax)(ρ9:AJ)(g:Nat→List Ev)(l:List Nat)(ρ':AJ)(S':AD):Prop
 |mk (fl:Addr) (pre:List Nat) (h0:pre++l=List.range' (i+1) (rs.length-(i+1))) (h1:S' fl=some (.list ((Ev.st r.name (r.ats tu i)::pre.flatMap g).map Fd))) (h2:AG ρ' "found"=some (.ref fl)) (h3:Kp ["found","other"] ρ' ρ9) (h4:A9 S S') (h5:S fl=none)
set_option maxHeartbeats 8000000 in
theorem B9(F:Af c.K){X:List Addr}{rl:Addr}{vs:List AV}{rs:List Ax}(hok:∀r∈rs,r.Ok)(hhd:∃w rs',rs= .root w::rs'∧∀r∈rs',r.above≠none)(hr5:rs.length≤5)(tu:Bool):
  ∀(f:Nat) {S:AD} {Q:AV→AD→Prop} {i:Nat},f≤5→rs.length≤i+f→i<rs.length→S rl=some (.list vs)→Fq X S vs rs→
  (∀S' d,A9 S S'→S d=none→S' d=some (.list ((Do rs tu f i).map Fd))→Q (.ref d) S')→AM c (n+f) (.ref 617) [.ref rl,natV i,.bool tu] S Q
 |0,_,_,i,_,h1,h2,_,_,_=>by lia
 |f+1,S,Q,i,hf,hi1,hi2,hS,hv,q=>by
  obtain⟨r,hr⟩:∃r,rs[i]?=some r:=⟨_,List.getElem?_eq_getElem hi2⟩
  obtain⟨wv,hvi,hwv⟩:=hv.get hr;refine(Hu (n:=n+f) F.FL (names:=["rows","at","is_turned"]) (by kernel_rfl) (by decide+kernel) (fun _ _ _ _ _ _ _ _ g=>by kernel_rfl) (by decide+kernel) rfl (by kernel_rfl) ?_).call;intro L env hc he;refine AH ?_;refine CB ?_ (BB he (by with_unfolding_all rfl));refine JC he (by kernel_rfl) (by rfl) ?_;refine AB he (by kernel_rfl) (by rfl) ?_;refine CG (.inl hS) (by exact Mj) (by lia) (by simpa using hvi) ?_ _ (fun _ _=>rfl);refine Cy (by rfl) (Ag he (by kernel_rfl) (Ag he (by kernel_rfl) (Ag he (by kernel_rfl) (Ag he (by kernel_rfl) (BR ?_)))));have hrok:=hok r (List.mem_of_getElem? hr);by_cases hel:r.isEl=true;rotate_left
  ·refine BG he (by kernel_rfl) (by rfl) ?_;refine AZ ⟨_,rfl,?_⟩
   cases r with
   |root _=>exact absurd rfl hel
   |el _ _=>exact absurd rfl hel
   |cm ab=>
    refine⟨fun hb=>?_,fun hb=>absurd rfl (of_decide_eq_false hb)⟩;cases hwv;refine Ae ?_;refine Aw ?_;refine An he (by kernel_rfl) (by rfl) ⟨ble rfl,fun d hd=>?_⟩;refine q _ d ((A9.refl S).put hd) hd ?_;refine rr (AC ..) ?_;unfold Do;refine rr hr ?_;rfl
   |tx ab w=>
    refine⟨fun hb=>absurd (of_decide_eq_true hb) (show("text":Str)≠("comment":Str) by decide+kernel),fun hb=>?_⟩;cases hwv;refine AQ ?_;refine BG he (by kernel_rfl) (by rfl) ?_;refine AZ ⟨_,rfl,?_⟩;refine⟨fun hb=>?_,fun hb=>absurd rfl (of_decide_eq_false hb)⟩;have hwl:w.length≤3:=hrok.1;have eev:Do rs tu (f+1) i=XM tu w:=by unfold Do;exact rr hr rfl
    rw[eev]at q;refine Ae ?_;refine Dz ?_;refine Dw ?_;refine AB he (by kernel_rfl) (by rfl) ?_;refine⟨tu,rfl,?_⟩;refine⟨fun hb=>?_,fun hb=>?_⟩
    ·subst hb;refine Aw ?_;refine Ah ?_;refine Ac ?_;refine Br ?_;refine AB he (by kernel_rfl) (by rfl) ?_;refine Bs ?_;refine Aj ?_;refine Az ?_;refine AS ?_;refine Aj ?_;refine⟨_,_,_,rfl,rfl,rfl,?_⟩;refine CK (by exact Yc hwl) ?_ _ (fun _ _=>rfl);refine AE ⟨ble rfl,?_⟩;refine Ah ?_;refine Ac ?_;refine Br ?_;refine AB he (by kernel_rfl) (by rfl) ?_;refine Bs ?_;refine Az ?_;refine AS ?_;refine Aj ?_;refine Aj ?_;refine⟨_,_,_,rfl,rfl,rfl,?_⟩;refine CK (by exact Yc hwl) ?_ _ (fun _ _=>rfl);refine AE ⟨ble rfl,?_⟩;refine AE ⟨ble rfl,fun d hd=>?_⟩;exact q _ d ((A9.refl S).put hd) hd (AC ..)
    ·subst hb;refine Aw ?_;refine An he (by kernel_rfl) (by rfl) ⟨ble rfl,fun d hd=>?_⟩;exact q _ d ((A9.refl S).put hd) hd (AC ..)
  rw[OS hr hel]at q;obtain⟨na,pa,rfl,-,-,hna,hpa⟩:=Rm hel hwv;have hkd:r.kind=("element":Str):=by have:=Lg r;rw[hel]at this;exact of_decide_eq_true this
  have hnl:=G0 r;have hpl:=DD r;have hnp:=MP r;refine BG he (by kernel_rfl) (by rfl) ?_;refine rr hkd ?_;refine AZ ⟨_,rfl,?_⟩;refine⟨fun hb=>absurd (of_decide_eq_true hb) (by decide+kernel),fun hb=>?_⟩;refine AQ ?_;refine BG he (by kernel_rfl) (by rfl) ?_;refine AZ ⟨_,rfl,?_⟩;refine⟨fun hb=>absurd (of_decide_eq_true hb) (by decide+kernel),fun hb=>?_⟩;refine AQ ?_;refine AH ?_;refine CB ?_ (BB he (by with_unfolding_all rfl));refine AB he (by kernel_rfl) (by rfl) ?_;refine Cy (by rfl) (Ag he (by kernel_rfl) (Ag he (by kernel_rfl) (BR ?_)));have hrows:AG ((("pairs":Str),AV.ref pa)::(("names":Str),AV.ref na)::(("what":Str),AV.tup [.ref na,.ref pa])::(("name":Str),AV.str r.name)::(("kind":Str),AV.str "element")::(("above":Str),EK r.above)::[("rows":Str),("at":Str),("is_turned":Str)].zip [AV.ref rl,natV i,AV.bool tu]) "rows"=some (.ref rl):=by rfl
  have hat:AG ((("pairs":Str),AV.ref pa)::(("names":Str),AV.ref na)::(("what":Str),AV.tup [.ref na,.ref pa])::(("name":Str),AV.str r.name)::(("kind":Str),AV.str "element")::(("above":Str),EK r.above)::[("rows":Str),("at":Str),("is_turned":Str)].zip [AV.ref rl,natV i,AV.bool tu]) "at"=some (natV i):=by rfl
  have htu:AG ((("pairs":Str),AV.ref pa)::(("names":Str),AV.ref na)::(("what":Str),AV.tup [.ref na,.ref pa])::(("name":Str),AV.str r.name)::(("kind":Str),AV.str "element")::(("above":Str),EK r.above)::[("rows":Str),("at":Str),("is_turned":Str)].zip [AV.ref rl,natV i,AV.bool tu]) "is_turned"=some (.bool tu):=by rfl
  have hnm:AG ((("pairs":Str),AV.ref pa)::(("names":Str),AV.ref na)::(("what":Str),AV.tup [.ref na,.ref pa])::(("name":Str),AV.str r.name)::(("kind":Str),AV.str "element")::(("above":Str),EK r.above)::[("rows":Str),("at":Str),("is_turned":Str)].zip [AV.ref rl,natV i,AV.bool tu]) "name"=some (.str r.name):=by rfl
  have hnms:AG ((("pairs":Str),AV.ref pa)::(("names":Str),AV.ref na)::(("what":Str),AV.tup [.ref na,.ref pa])::(("name":Str),AV.str r.name)::(("kind":Str),AV.str "element")::(("above":Str),EK r.above)::[("rows":Str),("at":Str),("is_turned":Str)].zip [AV.ref rl,natV i,AV.bool tu]) "names"=some (.ref na):=by rfl
  have hprs:AG ((("pairs":Str),AV.ref pa)::(("names":Str),AV.ref na)::(("what":Str),AV.tup [.ref na,.ref pa])::(("name":Str),AV.str r.name)::(("kind":Str),AV.str "element")::(("above":Str),EK r.above)::[("rows":Str),("at":Str),("is_turned":Str)].zip [AV.ref rl,natV i,AV.bool tu]) "pairs"=some (.ref pa):=by rfl
  show Sq c _ L env _ _ _ ((("pairs":Str),AV.ref pa)::(("names":Str),AV.ref na)::(("what":Str),AV.tup [.ref na,.ref pa])::(("name":Str),AV.str r.name)::(("kind":Str),AV.str "element")::(("above":Str),EK r.above)::[("rows":Str),("at":Str),("is_turned":Str)].zip [AV.ref rl,natV i,AV.bool tu]) _;revert hrows hat htu hnm hnms hprs;refine Dh ((("pairs":Str),AV.ref pa)::(("names":Str),AV.ref na)::(("what":Str),AV.tup [.ref na,.ref pa])::(("name":Str),AV.str r.name)::(("kind":Str),AV.str "element")::(("above":Str),EK r.above)::[("rows":Str),("at":Str),("is_turned":Str)].zip [AV.ref rl,natV i,AV.bool tu]:AJ) ?_;intro ρ0;intro hrows hat htu hnm hnms hprs;clear hvi hwv
  have rest:∀(ρ:AJ) (S2:AD) (tl2 pl2:Addr) (t2 p2:List (Str×Str)),AG ρ "rows"=some (.ref rl)→AG ρ "at"=some (natV i)→AG ρ "is_turned"=some (.bool tu)→AG ρ "name"=some (.str r.name)→AG ρ "told"=some (.ref tl2)→AG ρ "pairs"=some (.ref pl2)→
    S2 tl2=some (.list (t2.map AI))→S2 pl2=some (.list (p2.map AI))→(if tu=true then p2++t2 else t2++p2)=r.ats tu i→t2.length+p2.length≤100→A9 S S2→Ok c (n+f) L RF (execs ((dBody (FD 57)).drop 6) env) ρ S2 (Fin Q):=by
   clear hrows hat htu hnm hnms hprs hna hpa;intro ρ S2 tl2 pl2 t2 p2 hrows hat htu hnm htl hpl2 ht2 hp2 hats h100 hS2;refine AH ?_;generalize hE:Expr.List _ _=E;have hs:∀x xp l env,swapsWith E (some (.Name x xp)) l env=pure false:=by intro _ _ _ _;subst hE;exact Du
   refine LB he (by kernel_rfl) ?_ (hs _ _ _ _);subst hE;clear hs;refine Aw ?_;refine Ah ?_;refine Ac ?_;refine A0 he (by kernel_rfl) hnm ?_;refine AK ?_;refine Ok.mono (Q:=fun x ρ' S'=>x= .tup ((r.ats tu i).map AI)∧ρ'=ρ∧A9 S2 S') ?_ ?_
   ·refine Dz ?_;refine Ku ?_;refine Dw ?_;refine AB he (by kernel_rfl) htu ?_;refine⟨tu,rfl,?_⟩;refine⟨fun hb=>?_,fun hb=>?_⟩
    ·have htf:tu=false:=by simpa using hb
     rw[if_neg (by refine rr htf ?_;decide)]at hats;refine Ap (id:="tuple") F.Gx he (by kernel_rfl) ?_;refine Dx ?_;refine AB he (by kernel_rfl) htl ?_;refine AB he (by kernel_rfl) hpl2 ?_;refine Dc ht2 hp2 (by exact rr (List.length_map ..) (rr (List.length_map ..) (Tm h100))) fun d hd=>?_;refine AE ?_;refine E0 (AC ..) (by exact rr List.length_append (rr (List.length_map ..) (rr (List.length_map ..) (Tm h100)))) ?_;exact⟨by rw[←hats,List.map_append],rfl,(A9.refl _).put hd⟩
    ·have htf:tu=true:=by simpa using hb
     rw[if_pos htf]at hats;refine Ap (id:="tuple") F.Gx he (by kernel_rfl) ?_;refine Dx ?_;refine AB he (by kernel_rfl) hpl2 ?_;refine AB he (by kernel_rfl) htl ?_;refine Dc hp2 ht2 (by exact rr (List.length_map ..) (rr (List.length_map ..) (Sp h100))) fun d hd=>?_;refine AE ?_;refine E0 (AC ..) (by exact rr List.length_append (rr (List.length_map ..) (rr (List.length_map ..) (Sp h100)))) ?_;exact⟨by rw[←hats,List.map_append],rfl,(A9.refl _).put hd⟩
   rintro _ ρ9 S3 ⟨rfl,rfl,hS3⟩;have hSS3:=hS2.trans hS3;clear hS3 hS2 ht2 hp2;refine AE ⟨ble rfl,?_⟩;refine AE ⟨ble rfl,fun fl0 hfl0=>?_⟩;generalize hg:(fun j=>if(rs[j]?).bind Ax.above=some i then Do rs tu f j else[])=g at*
   have hgl:∀j,(g j).length≤1562:=fun j=>by
    rw[←hg];show(if _ then _ else _:List Ev).length≤_;split
    ·exact Nat.le_trans (Mq rs tu hr5 f j) (Ru (f:=f) (g:=4) (by exact dJ hf))
    ·exact Nat.zero_le _
   refine AH ?_;refine CF ?_;refine Ap (id:="range") F.Fl he (by kernel_rfl) ?_;refine Dx ?_;refine AB he (by kernel_rfl) (AR (x:="found") hat (by decide+kernel)) ?_;refine AS ?_;refine BE ?_;refine AK ?_;refine BT (id:="len") F.Ej he (by kernel_rfl) ?_;refine An he (by kernel_rfl) (Cv (AR (x:="found") hrows (by decide+kernel)) (by rfl)) ?_;have hvl:=hv.len;have hSr:put S3 fl0 (.list [.tup [.str "start",.str r.name,.tup ((r.ats tu i).map AI)]]) rl=some (.list vs):=(hSS3.put (hSS3.none hfl0)) _ _ hS;refine DA (.inl hSr) (by exact bV hr5 hvl) ?_;refine AE ?_;refine QL ?_;have e1:((i:Int)+1)=((i+1:Nat):Int):=by exact aS
   show a0 _ _ _ _ _ _ _ _ (.rg ((i:Int)+1) vs.length 1) _ _;refine rr e1 (rr hvl ?_);refine⟨_,_,.rg (Rc ⟨i+1,by exact Ya hr5 hi2⟩ ⟨rs.length,by exact ZI hr5⟩),?_⟩;refine rr (Rd (i+1) rs.length (by exact XL hr5 hi2) (by exact Zv hr5)) ?_
   refine A7 (f:=natV) (aE rs tu S i r ρ9 g)
    (fun _ _ _ _=>trivial) ?_ ?_ _ _ _ ⟨fl0,[],rfl,AC ..,by rfl,(Kp.refl _ _).cons (by decide+kernel),hSS3.put (hSS3.none hfl0),hSS3.none hfl0⟩
   ·rintro j l2 ρ2 S4 ⟨fl,pre,hpre,hfl,hfnd,hkp,hS4,hflS⟩
    have hj:i+1≤j∧j<rs.length:=by
     have:j∈pre++j::l2:=by simp
     rw[hpre]at this;have:=List.mem_range'_1.mp this;exact⟨this.1,(Nat.add_sub_of_le hi2)▸this.2⟩
    have hprl:pre.length≤4:=by
     have:=congrArg List.length hpre;rw[List.length_append,List.length_cons,List.length_range']at this;exact em this hr5
    have hfll:(pre.flatMap g).length≤4*1562:=Nat.le_trans (Hd hgl pre) (Nat.mul_le_mul_right _ hprl);obtain⟨rj,hrj⟩:∃rj,rs[j]?=some rj:=⟨_,List.getElem?_eq_getElem hj.2⟩
    obtain⟨wj,hvj,-⟩:=hv.get hrj
    obtain⟨ab,hab⟩:∃ab,rj.above=some ab:=by
     obtain⟨w0,rs',e0,hne⟩:=hhd;subst e0
     match j,hj.1,hrj with
     |j+1,_,hrj=>exact Option.ne_none_iff_exists'.mp (hne rj (List.mem_of_getElem? (by simpa using hrj)))
    rw[hab]at hvj
    have egj:g j=if ab=i then Do rs tu f j else[]:=by
     rw[←hg];show(if(rs[j]?).bind Ax.above=some i then _ else _)=_;refine rr hrj (rr (show(some rj).bind Ax.above=rj.above from rfl) (rr hab ?_));by_cases w:ab=i
     ·exact rr (if_pos w) (rr (if_pos (by rw[w])) rfl)
     ·exact rr (if_neg w) (rr (if_neg (fun z=>w (by injection z))) rfl)
    have hSr4:=hS4 _ _ hS;refine BA he (by kernel_rfl) ?_;have kp1:=hkp.cons (x:="other") (v:=natV j) (by decide+kernel);refine BC ?_;refine DW ?_;refine JC he (by kernel_rfl) ((kp1 "rows" (by decide+kernel)).trans hrows) ?_;refine AB he (by kernel_rfl) (by rfl) ?_;refine CG (.inl hSr4) (by exact U8 hj) (by lia) (by simpa using hvj) ?_ _ (fun _ _=>rfl);refine AS ?_;refine Bc (k:=0) (by rfl) (by rfl) (by decide) (by decide) ?_ _ (fun _ _=>rfl);refine AB he (by kernel_rfl) ((kp1 "at" (by decide+kernel)).trans hat) ?_;refine J6 ⟨_,rfl,?_⟩;refine⟨fun hb=>?_,fun hb=>?_⟩
    ·have hai:ab=i:=Int.ofNat_inj.mp (of_decide_eq_true hb);rw[if_pos hai]at egj;refine Aa he (by kernel_rfl) ?_;refine JD he (by kernel_rfl) (AR (x:="other") hfnd (by decide+kernel)) ?_;refine AL F.Bd F.Be he (by kernel_rfl) ?_;refine An he (by kernel_rfl) (Cv ((kp1 "rows" (by decide+kernel)).trans hrows) (Cv (by rfl) (Cv ((kp1 "is_turned" (by decide+kernel)).trans htu) (by rfl)))) ?_;refine B9 F hok hhd hr5 tu f (by exact dW hf) (by exact WW hi1 hj) hj.2 hSr4 (hv.mono fun b o _ e=>hS4 b o e) fun S5 d5 hS5 hd5 he5=>?_;have hfl5:=hS5 _ _ hfl;have hel5:(Do rs tu f j).length≤1562:=by rw[←egj];exact hgl j
     refine Dc hfl5 he5 (by exact rr (List.length_map ..) (rr (List.length_map ..) (rr List.length_cons (WY hfll hel5)))) fun fd hfd=>?_;refine Ad ?_;refine⟨fd,pre++[j],by rw[←hpre];simp,?_,by rfl,kp1.cons (by decide+kernel),(hS4.trans hS5).put ((hS4.trans hS5).none hfd),(hS4.trans hS5).none hfd⟩;rw[AC,←List.map_append,List.flatMap_append,List.flatMap_singleton,egj];rfl
    ·have hai:ab≠i:=fun w=>of_decide_eq_false hb (w▸rfl);rw[if_neg hai]at egj;refine Ad ?_;refine⟨fl,pre++[j],by rw[←hpre];simp,?_,AR (x:="other") hfnd (by decide+kernel),kp1,hS4,hflS⟩;exact rr List.flatMap_append (rr (List.flatMap_singleton ..) (rr egj (rr (List.append_nil ..) hfl)))
   ·rintro ρ2 S4 ⟨fl,pre,hpre,hfl,hfnd,hkp,hS4,hflS⟩;rw[List.append_nil]at hpre
    have hprl:pre.length≤5:=by
     have:=congrArg List.length hpre;rw[List.length_range']at this;exact this▸Nat.le_trans (Nat.sub_le ..) hr5
    have hfll:(pre.flatMap g).length≤5*1562:=Nat.le_trans (Hd hgl pre) (Nat.mul_le_mul_right _ hprl);refine AQ ?_;refine Ae ?_;refine JD he (by kernel_rfl) hfnd ?_;refine Aw ?_;refine Ah ?_;refine An he (by kernel_rfl) (PN (by rfl) (Cv ((hkp "name" (by decide+kernel)).trans hnm) (by rfl))) ⟨ble rfl,?_⟩;refine AE ⟨ble rfl,fun ed hed=>?_⟩;have hfl2:put S4 ed (.list [.tup [.str "end",.str r.name]]) fl=some (.list ((Ev.st r.name (r.ats tu i)::pre.flatMap g).map Fd)):=(AA _ _ ((by first|exact As hfl hed|exact(As hed hfl).symm))).trans hfl;have hS5:=hS4.put (o:=.list [.tup [.str "end",.str r.name]]) (hS4.none hed);refine Dc hfl2 (AC ..) (by exact rr (List.length_map ..) (rr List.length_cons (rr List.length_singleton (Vw hfll)))) fun d hd=>?_;refine q _ d (hS5.put (hS5.none hd)) (hS5.none hd) ?_;rw[AC,←hpre];simp[Fd]
  refine AH ?_;refine Cz he hc rfl (by kernel_rfl) (C1 he (by kernel_rfl) (by kernel_rfl) (by kernel_rfl)) ?_;refine AB he (by kernel_rfl) hnms ?_;refine⟨_,_,.list (.inl hna),fun Lc cenv hce=>?_⟩;have hnoat:∀x:Str,(dNames (FD 57)).lookup x≠some .cell→AG (Au (dNames (FD 57)) ρ0) x=none:=fun x hx=>by exact rr (BH ..) (rr (if_neg hx) rfl)
  refine Co (f:=AI) (bl S r) (fun l2 acc S' hP=>?_) ?_ ?_ ⟨[],rfl,rfl,rfl⟩
  ·obtain⟨pre,h1,rfl,rfl⟩:=hP;refine⟨.inl hna,?_⟩;have h4:=congrArg List.length h1;rw[List.length_append]at h4;exact rr (List.length_map ..) (rr (List.length_map ..) (Wi hnl h4))
  ·rintro p l2 acc S' ⟨pre,h1,rfl,rfl⟩;have hp10:p.1.length≤10:=hnp p (by rw[←h1];simp);refine Cy (by rfl) (Ag hce (by kernel_rfl) (Ag hce (by kernel_rfl) (BR ?_)))
   have hext:Cd (Au (dNames (FD 57)) ρ0) ((("uri":Str),AV.str p.2)::(("prefix":Str),AV.str p.1)::Au (dNames (FD 57)) ρ0):=by
    refine Cd.trans ?_ ?_ (ρ2:=(("prefix":Str),AV.str p.1)::Au (dNames (FD 57)) ρ0)
    ·exact Cd.cons (hnoat _ (by decide+kernel)) (Cd.refl _)
    ·refine Cd.cons ?_ (Cd.refl _);exact rr (AN ..) (rr (if_neg (by decide+kernel)) (hnoat _ (by decide+kernel)))
   refine⟨hext,⟨fun _=>?_,fun hb=>tf hb⟩⟩;refine Ch ?_;refine AK ?_;refine Ok.val (.str (toldV p).1) ?_ ?_
   ·refine Dz ?_;refine N0 hce (by kernel_rfl) (by rfl) ?_;refine AT ?_;refine AZ ⟨_,rfl,?_⟩;refine⟨fun hb=>?_,fun hb=>?_⟩
    ·refine AT ?_;unfold toldV;exact rr (if_pos (of_decide_eq_true hb)) (⟨rfl,rfl,rfl⟩)
    ·refine Ab ?_;refine AT ?_;refine AB hce (by kernel_rfl) (by rfl) ?_;refine Aq ?_ (by refine rr sizeLine_eq ?_;have:("xmlns:":Str).length=6:=(by decide+kernel);exact XT hp10 this);unfold toldV;exact rr (if_neg (of_decide_eq_false hb)) (⟨rfl,rfl,rfl⟩)
   refine An hce (by kernel_rfl) (by rfl) ⟨ble rfl,?_⟩;refine⟨hext,pre++[p],by rw[←h1];simp,?_,rfl⟩;refine rr List.map_append (rr List.map_append ?_);rfl
  rintro acc S' ⟨pre,h1,rfl,rfl⟩;intro tl htl;rw[List.append_nil]at h1;subst h1;refine BA he (by kernel_rfl) ?_;have hna1:put S' tl (.list ((r.names.map toldV).map AI)) na=some (.list (r.names.map AI)):=(AA _ _ ((by first|exact As hna htl|exact(As htl hna).symm))).trans hna;have hpa1:put S' tl (.list ((r.names.map toldV).map AI)) pa=some (.list (r.pairs.map AI)):=(AA _ _ ((by first|exact As hpa htl|exact(As htl hpa).symm))).trans hpa;have htl1:put S' tl (.list ((r.names.map toldV).map AI)) tl=some (.list ((r.names.map toldV).map AI)):=AC ..;have hs1:A9 S' (put S' tl (.list ((r.names.map toldV).map AI))):=(A9.refl _).put htl;revert hna1 hpa1 htl1 hs1;refine Dh (put S' tl (.list ((r.names.map toldV).map AI)):AD) ?_;intro S1;intro hna1 hpa1 htl1 hs1;have g1:=AR (x:="told") (v:=.ref tl) hrows (by decide+kernel);have g2:=AR (x:="told") (v:=.ref tl) hat (by decide+kernel);have g3:=AR (x:="told") (v:=.ref tl) htu (by decide+kernel);have g4:=AR (x:="told") (v:=.ref tl) hnm (by decide+kernel);have g5:=AR (x:="told") (v:=.ref tl) hprs (by decide+kernel);have g6:AG ((("told":Str),AV.ref tl)::ρ0) "told"=some (.ref tl):=by rfl
  show Sq c _ L env _ _ _ ((("told":Str),AV.ref tl)::ρ0) _;revert g1 g2 g3 g4 g5 g6;refine Dh ((("told":Str),AV.ref tl)::ρ0:AJ) ?_;intro ρ1;intro g1 g2 g3 g4 g5 g6;refine HC ?_;refine Dw ?_;refine AB he (by kernel_rfl) g3 ?_;refine⟨tu,rfl,?_⟩;refine⟨fun hb=>?_,fun hb=>?_⟩;rotate_left
  ·refine AQ ?_;refine rest ρ1 S1 tl pa _ _ g1 g2 g3 g4 g6 g5 htl1 hpa1 ?_ (by exact rr (List.length_map ..) (VI hnl hpl)) hs1;refine rr (if_neg (by rw[hb];decide)) ?_;unfold Ax.ats;exact rr (if_neg (by rw[hb];decide)) rfl
  ·refine AH ?_;refine Ds (BB he (by with_unfolding_all rfl)) ?_;refine Ch ?_;refine Dx ?_;refine Hk he (by kernel_rfl) g6 ?_;refine Aj ?_;refine Aj ?_;refine Az ?_;refine Fg ?_;refine AS ?_;refine Db ?_;refine⟨_,_,_,rfl,rfl,rfl,?_⟩;refine CJ (T:="list") (.inl ⟨_,htl1,rfl⟩) slot_list_getitem.lookup ?_ _ (fun _ _=>rfl);refine JG htl1 (by exact rr (List.length_map ..) (rr (List.length_map ..) (Ri hnl))) fun t1 ht1=>?_;have s2:A9 S1 (put S1 t1 (.list ((r.names.map toldV).map AI).reverse)):=(A9.refl _).put ht1;have ht2:put S1 t1 (.list ((r.names.map toldV).map AI).reverse) t1=some (.list ((r.names.map toldV).map AI).reverse):=AC ..;revert s2 ht2;refine Dh (put S1 t1 (.list ((r.names.map toldV).map AI).reverse):AD) ?_;intro S2;intro s2 ht2;refine Ab ?_;refine Aw ?_;refine An he (by kernel_rfl) (by rfl) ⟨ble rfl,fun x1 hx1=>?_⟩;have s3:A9 S2 (put S2 x1 (.list [.tup [.str "xmlns:p",.str "u"]])):=(A9.refl _).put hx1;have hx2:put S2 x1 (.list [.tup [.str "xmlns:p",.str "u"]]) x1=some (.list [.tup [.str "xmlns:p",.str "u"]]):=AC ..;revert s3 hx2;refine Dh (put S2 x1 (.list [.tup [.str "xmlns:p",.str "u"]]):AD) ?_;intro S3;intro s3 hx2;refine Ap (id:="int") F.Ec he (by kernel_rfl) ?_;refine AK ?_;refine Dt ?_;refine AB he (by kernel_rfl) g2 ?_;refine AS ?_;refine Ls ?_;refine AE ?_;refine JM ?_;refine OC (l':=(if 0<i then[(("xmlns:p":Str),("u":Str))]else[]).map AI) hx2 (by split<;>decide) (by split<;>decide) (by split<;>simp) ?_ fun x3 hx3=>?_
   ·by_cases h0:0<i
    ·refine rr (if_pos h0) (rr (if_pos (by simpa using h0)) ?_);rfl
    ·refine rr (if_neg h0) (rr (if_neg (by simpa using h0)) ?_);rfl
   have s4:A9 S3 (put S3 x3 (.list ((if 0<i then[(("xmlns:p":Str),("u":Str))]else[]).map AI))):=(A9.refl _).put hx3;have hx4:put S3 x3 (.list ((if 0<i then[(("xmlns:p":Str),("u":Str))]else[]).map AI)) x3=some (.list ((if 0<i then[(("xmlns:p":Str),("u":Str))]else[]).map AI)):=AC ..;have hxl:(if 0<i then[(("xmlns:p":Str),("u":Str))]else[]).length≤1:=by split<;>decide
   revert s4 hx4 hxl;refine PR ((if 0<i then[(("xmlns:p":Str),("u":Str))]else[])) ?_;intro xs hxs;refine Dh (put S3 x3 (.list (xs.map AI)):AD) ?_;intro S4;intro s4 hx4 hxl;refine Dc (s4 _ _ (s3 _ _ ht2)) hx4 (by exact rr (List.length_map ..) (rr List.length_reverse (rr (List.length_map ..) (rr (List.length_map ..) (Ti hnl hxl))))) fun t5 ht5=>?_;rw[←List.map_reverse,←List.map_append];have s5:A9 S4 (put S4 t5 (.list (((r.names.map toldV).reverse++xs).map AI))):=(A9.refl _).put ht5;have ht6:put S4 t5 (.list (((r.names.map toldV).reverse++xs).map AI)) t5=some (.list (((r.names.map toldV).reverse++xs).map AI)):=AC ..;revert s5 ht6;refine Dh (put S4 t5 (.list (((r.names.map toldV).reverse++xs).map AI)):AD) ?_;intro S5;intro s5 ht6;have hs5:A9 S1 S5:=((s2.trans s3).trans s4).trans s5;have hpa5:=hs5 _ _ hpa1;refine Br ?_;refine AB he (by kernel_rfl) g5 ?_;refine Bs ?_;refine Aj ?_;refine Aj ?_;refine Az ?_;refine Fg ?_;refine AS ?_;refine Db ?_;refine⟨_,_,_,rfl,rfl,rfl,?_⟩;refine CJ (T:="list") (.inl ⟨_,hpa5,rfl⟩) slot_list_getitem.lookup ?_ _ (fun _ _=>rfl);refine JG hpa5 (by exact rr (List.length_map ..) (XS hpl)) fun p6 hp6=>?_;refine AE ⟨ble rfl,?_⟩;refine⟨_,rfl,rfl,DC he (by kernel_rfl) (DC he (by kernel_rfl) (BR ?_))⟩;refine AQ ?_;refine rest _ _ t5 p6 ((r.names.map toldV).reverse++xs) r.pairs.reverse (AR (AR g1 (by decide+kernel)) (by decide+kernel)) (AR (AR g2 (by decide+kernel)) (by decide+kernel)) (AR (AR g3 (by decide+kernel)) (by decide+kernel)) (AR (AR g4 (by decide+kernel)) (by decide+kernel)) (by rfl) (by rfl) ?_ ?_ ?_ ?_ ?_
   ·exact(AA _ _ ((by first|exact As ht6 hp6|exact(As hp6 ht6).symm))).trans ht6
   ·exact rr (AC ..) (rr List.map_reverse rfl)
   ·rw[if_pos hb,←hxs];unfold Ax.ats;exact rr (if_pos hb) rfl
   ·exact rr List.length_append (rr List.length_reverse (rr List.length_reverse (rr (List.length_map ..) (aN hnl hpl hxl))))
   ·exact(hs1.trans hs5).put ((hs1.trans hs5).none hp6)
end
noncomputable abbrev cl(x:Str):List Nat:=x.cps.toList
noncomputable abbrev mk(l:List Nat):Str:=⟨l.toArray⟩
theorem Ai(x:Str):(cl x).length=x.length:=Array.length_toList
theorem CQ(x y:Str):cl (x++y)=cl x++cl y:=by
 show(x.cps++y.cps).toList=_;exact rr Array.toList_append rfl
theorem ON(x:Str):mk (cl x)=x:=Str.ext' (by simp)
theorem NM(a b:List Nat):mk (a++b)=mk a++mk b:=Str.ext' (by show _=cl (mk a++mk b);exact rr (CQ ..) rfl)
theorem IO{x y:Str}(hy:1≤y.length)(i:Nat):StrLaws.At x y x.length i↔cl y<+:(cl x).drop i:=by
 unfold StrLaws.At;refine rr (StrLaws.subAt_eq ..) ?_
 constructor
 ·rintro⟨h1,h2⟩;have h3:=eq_of_beq h2;exact⟨((cl x).drop i).drop y.length,(by show y.cps.toList++_=_;exact rl h3 (rr (List.take_append_drop ..) rfl))⟩
 ·rintro⟨t,ht⟩;have hl:=congrArg List.length ht;rw[List.length_append,List.length_drop,Ai,Ai]at hl;refine⟨by exact Zw hy hl,?_⟩;show((cl x).drop i).take y.length==cl y;refine rl ht (rr (List.take_left' (Ai y)) ?_);exact beq_self_eq_true _
theorem MR{x y:Str}{A B C:List Nat}(hy:1≤y.length)(hx:cl x=A++(B++C))(hm:cl y<+:C)(hn:∀k,k<B.length→¬cl y<+:(B++C).drop k):
  ∃rest,Builtin.Str.occurrences x y A.length x.length 1=(A.length+B.length)::rest:=by
 have hd:∀k,(cl x).drop (A.length+k)=(B++C).drop k:=fun k=>by refine rr hx (rr List.drop_append ?_);simp
 have hat:StrLaws.At x y x.length (A.length+B.length):=(IO hy _).mpr (by exact rr (hd ..) (rr List.drop_left hm));rcases StrLaws.occ_head_from x y A.length 1 (Nat.le_refl _)with⟨_,h⟩|⟨i,r,h1,h2,h3,h4⟩
 ·exact absurd hat (h _ (Nat.le_add_right ..))
 ·refine⟨r,?_⟩
  have e:i=A.length+B.length:=by
   rcases Nat.lt_trichotomy i (A.length+B.length)with w|w|w
   ·obtain⟨k,rfl⟩:∃k,i=A.length+k:=⟨i-A.length,by exact U1 h2⟩
    exact absurd (by exact rl (hd ..) ((IO hy _).mp h3)) (hn k (by exact WZ w))
   ·exact w
   ·exact absurd hat (h4 _ (Nat.le_add_right ..) w)
  exact rr h1 (rr e rfl)
theorem Ey{x:Str}{c:Nat}{A B C:List Nat}(hx:cl x=A++(B++c::C))(hn:c∉B):
  ∃rest,Builtin.Str.occurrences x (mk [c]) A.length x.length 1=(A.length+B.length)::rest:=
 MR (by show 1≤1;exact fE) hx ⟨C,rfl⟩ fun k hk ⟨t,ht⟩=>by
  have h1:=congrArg (·[0]?) ht;simp only[List.getElem?_drop,Nat.add_zero]at h1;have h2:(B++c::C)[k]?=some c:=h1.symm;rw[List.getElem?_append_left hk]at h2;exact hn (List.mem_of_getElem? h2)
theorem JI(x:Str)(c:Nat):PP (mk [c]) x=decide (c∈cl x):=StrLaws.found_one x c
theorem PE{x y:Str}(hy:1≤y.length)(h:∀i,¬cl y<+:(cl x).drop i):PP y x=false:=by
 cases w:PP y x with
 |false=>rfl
 |true=>
  obtain⟨i,h1,h2⟩:=(StrLaws.found_iff x y).mp w;exact absurd ((IO hy i).mp ⟨h1,h2⟩) (h i)
theorem CD{x:Str}{A B C:List Nat}(hx:cl x=A++(B++C)){i j:Int}(hi:i=A.length)(hj:j=(A.length+B.length:Nat)):Txt.slice x (some i) (some j)=mk B:=by
 subst hi;subst hj;show StrLaws.sliceText x _ _=_;have hl:=congrArg List.length hx;rw[Ai,List.length_append,List.length_append]at hl;refine rr (StrLaws.sliceText_nat x (Nat.le_add_right ..) (by exact Yn hl)) ?_;show mk _=mk B;have e:x.cps.toList=A++(B++C):=hx;refine rr e ?_;simp
theorem C2{x:Str}{A B:List Nat}(hx:cl x=A++B){i:Int}(hi:i=A.length):Txt.slice x (some i) none=mk B:=by
 have hl:=congrArg List.length hx;rw[List.length_append]at hl
 have e:Txt.slice x (some i) none=Txt.slice x (some i) (some ((cl x).length:Int)):=by
  show StrLaws.sliceText x _ _=StrLaws.sliceText x _ _;unfold StrLaws.sliceText;exact rr (StrLaws.sliceIdx_none_hi ..) (rr (Ai ..) rfl)
 refine rr e ?_;exact CD (C:=[]) (by exact rr (List.append_nil ..) hx) hi (by exact rr hl rfl)
theorem Mp{x:Str}{A B:List Nat}(hx:cl x=A++B){i:Int}(hi:i=A.length):Txt.slice x none (some i)=mk A:=by
 have e:Txt.slice x none (some i)=Txt.slice x (some 0) (some i):=by
  show StrLaws.sliceText x _ _=StrLaws.sliceText x _ _;unfold StrLaws.sliceText;exact rr (StrLaws.sliceIdx_none_lo ..) rfl
 refine rr e ?_;exact CD (A:=[]) hx rfl (by refine rr hi ?_;simp)
theorem Kh{x:Str}{A:List Nat}{c:Nat}(hx:cl x=A++[c]):Txt.slice x none (some (-1))=mk A:=by
 have hl:=congrArg List.length hx;rw[Ai,List.length_append,List.length_singleton]at hl
 have e:Txt.slice x none (some (-1))=Txt.slice x none (some (-1+(x.length:Int))):=by
  show StrLaws.sliceText x _ _=StrLaws.sliceText x _ _;exact StrLaws.sliceText_neg_hi x none (by decide) (by exact Vj hl)
 refine rr e ?_;exact Mp hx (by exact bp hl)
theorem FX(s:Str):∀(x:Str) (l:List Str),cl (Str.join s (x::l))=cl x++l.flatMap fun y=>cl s++cl y
 |x,[]=>by simp[Str.join]
 |x,y::r=>by
  show cl (x++s++Str.join s (y::r))=_;exact rr (CQ ..) (rr (CQ ..) (rr (FX s y r) (rr List.flatMap_cons (rr (List.append_assoc ..) (rr (List.append_assoc ..) rfl)))))
theorem Ma{c:Nat}:∀{x y:Str} {l m:List Str},c∉cl x→c∉cl y→(∀p∈l,c∉cl p)→(∀p∈m,c∉cl p)→
  cl x++l.flatMap (fun y=>c::cl y)=cl y++m.flatMap (fun y=>c::cl y)→x=y∧l=m
 |x,y,[],[],hx,hy,hl,hm,e=>⟨Str.ext' (by simpa using e),rfl⟩
 |x,y,[],q::m,hx,hy,hl,hm,e=>by
  exfalso;rw[List.flatMap_nil,List.append_nil]at e;exact hx (by refine rr e ?_;simp)
 |x,y,p::l,[],hx,hy,hl,hm,e=>by
  exfalso;rw[List.flatMap_nil,List.append_nil]at e;exact hy (by refine rl e ?_;simp)
 |x,y,p::l,q::m,hx,hy,hl,hm,e=>by
  rw[List.flatMap_cons,List.flatMap_cons,List.cons_append,List.cons_append]at e
  have key:∀{a b u v:List Nat},c∉a→c∉b→a++c::u=b++c::v→a=b∧u=v:=by
   intro a
   induction a with
   |nil=>
    intro b u v _ hb e
    cases b with
    |nil=>exact⟨rfl,by injection e⟩
    |cons d b=>injection e with e1 _;exact absurd (by exact rr e1 (.head _)) hb
   |cons d a ih=>
    intro b u v ha hb e
    cases b with
    |nil=>injection e with e1 _;exact absurd (by exact rr e1 (.head _)) ha
    |cons d' b=>
     injection e with e1 e2
     obtain⟨r1,r2⟩:=ih (fun w=>ha (.tail _ w)) (fun w=>hb (.tail _ w)) e2;exact⟨by exact rr e1 (rr r1 rfl),r2⟩
  obtain⟨e1,e2⟩:=key hx hy e;obtain⟨e3,e4⟩:=Ma (hl p (.head _)) (hm q (.head _)) (fun z hz=>hl z (.tail _ hz)) (fun z hz=>hm z (.tail _ hz)) e2;exact⟨Str.ext' e1,by exact rr e3 (rr e4 rfl)⟩
theorem Hf(x y:Str):Txt.split x y≠[]:=by
 unfold Txt.split;split
 ·exact fun e=>nomatch e
 ·split
  ·exact fun e=>nomatch e
  ·refine rr (StrLaws.partsBetween_eq ..) ?_;obtain⟨p,r,e⟩:=StrLaws.partsFrom_ne x y.length 0 (Builtin.Str.occurrences x y 0 x.length (x.length+1));exact rr e (fun e=>nomatch e)
theorem EO{x p:Str}{l:List Str}{c:Nat}(hp:c∉cl p)(hl:∀q∈l,c∉cl q)(hx:cl x=cl p++l.flatMap fun y=>c::cl y):Txt.split x (mk [c])=p::l:=by
 have h1:=StrLaws.join_split x (mk [c]);have h2:=StrLaws.split_free x c
 cases w:Txt.split x (mk [c])with
 |nil=>exact absurd w (Hf _ _)
 |cons q m=>
  rw[w]at h1;have h2':∀z∈q::m,c∉z.cps.toList:=fun z hz=>h2 z (by rw[←w]at hz;exact hz);have h3:=congrArg cl h1;rw[FX,hx]at h3;obtain⟨e1,e2⟩:=Ma (h2' q (.head _)) hp (fun z hz=>h2' z (.tail _ hz)) hl h3;exact rr e1 (rr e2 rfl)
theorem JL(x y:Str):(Builtin.Str.partsBetween x (Builtin.Str.occurrences x y 0 x.length (x.length+1)) y.length).length≤x.length+2:=by
 have h:=StrLaws.occ_length_le x y 0 x.length (x.length+1);unfold Builtin.Str.partsBetween;simp;exact YB h
theorem GU(x z:Str)(c:Nat):cl (Txt.replace x (mk [c]) z)=(cl x).flatMap fun k=>if k=c then cl z else[k]:=by
 have h1:=StrLaws.join_split x (mk [c]);have h2:=StrLaws.split_free x c;have h0:Txt.replace x (mk [c]) z=Str.join z (Txt.split x (mk [c])):=StrLaws.replace_one x z c;refine rr h0 ?_
 have free:∀l:List Nat,c∉l→(l.flatMap fun k=>if k=c then cl z else[k])=l:=by
  intro l
  induction l with
  |nil=>intro _;rfl
  |cons a l ih=>
   intro h;refine rr List.flatMap_cons (rr (if_neg (fun e=>h (by rw[e];exact .head _))) (rr (ih (fun w=>h (.tail _ w))) ?_));rfl
 have parts:∀l:List Str,(∀p∈l,c∉cl p)→(l.flatMap fun y=>cl (mk [c])++cl y).flatMap (fun k=>if k=c then cl z else[k])=l.flatMap fun y=>cl z++cl y:=by
  intro l
  induction l with
  |nil=>intro _;rfl
  |cons p l ih=>
   intro h;refine rr List.flatMap_cons (rr List.flatMap_append (rr (ih (fun q hq=>h q (.tail _ hq))) (rr List.flatMap_append (rr (free _ (h p (.head _))) (rr List.flatMap_cons ?_)))));simp
 cases w:Txt.split x (mk [c])with
 |nil=>exact absurd w (Hf _ _)
 |cons q m=>
  rw[w]at h1;have h2':∀z∈q::m,c∉z.cps.toList:=fun z hz=>h2 z (by rw[←w]at hz;exact hz);exact rr (FX ..) (rl h1 (rr (FX ..) (rr List.flatMap_append (rr (free _ (h2' q (.head _))) (rr (parts m (fun z hz=>h2' z (.tail _ hz))) rfl)))))
noncomputable def He(k:Nat):List Nat:=if k=38 then[38,97,109,112,59]else if k=60 then[38,108,116,59]else if k=62 then[38,103,116,59]else if k=13 then[38,35,120,68,59]else[k]
noncomputable def IN(k:Nat):List Nat:=if k=38 then[38,97,109,112,59]else if k=60 then[38,108,116,59]else if k=34 then[38,113,117,111,116,59]else if k=9 then[38,35,120,57,59]else if k=10 then[38,35,120,65,59]else if k=13 then[38,35,120,68,59]else[k]
noncomputable def UY(k:Nat):List Nat:=if k=13 then[38,35,120,68,59]else[k]
noncomputable def Xr(p:Nat×List Nat)(k:Nat):List Nat:=if k=p.1 then p.2 else[k]
theorem Jd(x:Str)(ps:List (Nat×List Nat)):cl (Es x (ps.map fun p=>(mk [p.1],mk p.2)))=ps.foldl (fun l p=>l.flatMap (Xr p)) (cl x):=by
 induction ps generalizing x with
 |nil=>rfl
 |cons p ps ih=>
  refine rr List.map_cons (rr List.foldl_cons ?_);show cl (Es (Txt.replace x (mk [p.1]) (mk p.2)) _)=_;refine rr (ih ..) (rr (GU ..) ?_)
  have e:(fun k=>if k=p.1 then cl (mk p.2)else[k])=Xr p:=by
   funext k;unfold Xr;rfl
  exact rr e rfl
theorem Hi:E2=([(38,[38,97,109,112,59]),(60,[38,108,116,59]),(62,[38,103,116,59]),(13,[38,35,120,68,59])]:List (Nat×List Nat)).map fun p=>(mk [p.1],mk p.2):=by decide+kernel
theorem IX:CM=([(38,[38,97,109,112,59]),(60,[38,108,116,59]),(34,[38,113,117,111,116,59]),(9,[38,35,120,57,59]),(10,[38,35,120,65,59]),(13,[38,35,120,68,59])]:List (Nat×List Nat)).map fun p=>(mk [p.1],mk p.2):=by decide+kernel
theorem Jz:LS=([(13,[38,35,120,68,59])]:List (Nat×List Nat)).map fun p=>(mk [p.1],mk p.2):=by decide+kernel
theorem CO(v:Str):cl (Cw v)=(cl v).flatMap He:=by
 unfold Cw;refine rr Hi (rr (Jd ..) ?_);simp only[List.foldl_cons,List.foldl_nil,List.flatMap_assoc]
 congr 1
 funext k
 unfold He;by_cases h1:k=38
 ·subst h1;decide
 by_cases h2:k=60
 ·subst h2;decide
 by_cases h3:k=62
 ·subst h3;decide
 by_cases h4:k=13
 ·subst h4;decide
 simp[Xr,h1,h2,h3,h4]
theorem JW(v:Str):cl (DE v)=(cl v).flatMap IN:=by
 unfold DE;refine rr IX (rr (Jd ..) ?_);simp only[List.foldl_cons,List.foldl_nil,List.flatMap_assoc]
 congr 1
 funext k
 unfold IN;by_cases h1:k=38
 ·subst h1;decide
 by_cases h2:k=60
 ·subst h2;decide
 by_cases h3:k=34
 ·subst h3;decide
 by_cases h4:k=9
 ·subst h4;decide
 by_cases h5:k=10
 ·subst h5;decide
 by_cases h6:k=13
 ·subst h6;decide
 simp[Xr,h1,h2,h3,h4,h5,h6]
theorem UV(v:Str):cl (TQ v)=(cl v).flatMap UY:=by
 unfold TQ;refine rr Jz (rr (Jd ..) ?_);simp only[List.foldl_cons,List.foldl_nil];rfl
theorem JP{g:Nat→List Nat}(hg:∀k,(g k).length≤6)(l:List Nat):(l.flatMap g).length≤6*l.length:=by
 induction l with
 |nil=>exact Nat.zero_le _
 |cons a l ih=>refine rr List.flatMap_cons (rr List.length_append (rr List.length_cons ?_));have:=hg a;exact XK ih this
theorem Qo(k:Nat):(He k).length≤6:=by
 unfold He
 repeat' split
 all_goals exact Nat.le_of_ble_eq_true rfl
theorem QE(k:Nat):(IN k).length≤6:=by
 unfold IN
 repeat' split
 all_goals exact Nat.le_of_ble_eq_true rfl
theorem Pt(k:Nat):(UY k).length≤6:=by
 unfold UY
 repeat' split
 all_goals exact Nat.le_of_ble_eq_true rfl
theorem HT(v:Str):(Cw v).length≤6*v.length:=by exact rl (Ai ..) (rr (CO ..) (rl (Ai ..) (JP Qo _)))
theorem Dv(v:Str):(DE v).length≤6*v.length:=by exact rl (Ai ..) (rr (JW ..) (rl (Ai ..) (JP QE _)))
theorem Rp(v:Str):(TQ v).length≤6*v.length:=by exact rl (Ai ..) (rr (UV ..) (rl (Ai ..) (JP Pt _)))
theorem MB(x:Str)(c:Nat)(z:List Nat)(hz:z.length≤6)(hz0:1≤z.length):(Txt.replace x (mk [c]) (mk z)).length≤6*x.length:=by
 refine rl (Ai ..) (rr (GU ..) (rl (Ai ..) ?_));refine JP (fun k=>?_) _;split
 ·exact hz
 ·exact Nat.le_of_ble_eq_true rfl
theorem Fi:∀(ps:List (Nat×List Nat)) (x:Str) (m:Nat),(∀p∈ps,p.2.length≤6∧1≤p.2.length)→x.length≤m→m*6^ps.length≤14000000→CN x (ps.map fun p=>(mk [p.1],mk p.2))
 |[],_,_,_,_,_=>trivial
 |p::ps,x,m,hp,hx,hm=>by
  obtain⟨h1,h2⟩:=hp p (.head _);rw[List.length_cons,Nat.pow_succ]at hm
  have h3:m*6≤14000000:=by
   refine Nat.le_trans ?_ hm;refine rr (Nat.mul_comm (6^_) 6) (rl (Nat.mul_assoc ..) ?_);exact Nat.le_mul_of_pos_right _ (Nat.pow_pos (by decide))
  refine⟨?_,Fi ps _ (6*m) (fun q hq=>hp q (.tail _ hq)) ?_ ?_⟩
  ·show x.length+(x.length+1)*(mk p.2).length≤_;have h4:(mk p.2).length≤6:=h1;have h5:(x.length+1)*(mk p.2).length≤(x.length+1)*6:=Nat.mul_le_mul_left _ h4;exact Wh hx h3 h5
  ·exact Nat.le_trans (MB x p.1 p.2 h1 h2) (by exact Wj hx)
  ·refine rr (Nat.mul_comm 6 m) (rr (Nat.mul_assoc ..) ?_);rw[Nat.mul_comm 6];exact hm
theorem CA{v:Str}(h:v.length≤300):Na v:=by
 refine⟨?_,?_,?_,Nat.le_trans (HT v) (by exact UN h),Nat.le_trans (Dv v) (by exact UN h),Nat.le_trans (Rp v) (by exact UN h)⟩
 ·exact rr Hi (Fi _ v 300 (by decide) h (by decide))
 ·exact rr IX (Fi _ v 300 (by decide) h (by decide))
 ·exact rr Jz (Fi _ v 300 (by decide) h (by decide))
noncomputable def entT:List (List Nat×Nat):=[([97,109,112],38),([108,116],60),([103,116],62),([113,117,111,116],34),([35,120,68],13),([35,120,57],9),([35,120,65],10)]
inductive K0:List Nat→List Nat→Prop
 |nil:K0 [] []
 |one {k:Nat} {l v:List Nat}:k≠38→K0 l v→K0 (k::l) (k::v)
 |ent {e:List Nat} {k:Nat} {l v:List Nat}:(e,k)∈entT→K0 l v→K0 (38::(e++59::l)) (k::v)
inductive UT:List Nat→List Nat→Prop
 |no {l:List Nat} (h1:38∉l):UT l l
 |cut {u e:List Nat} {k:Nat} {l' v':List Nat} (h2:38∉u) (h3:(e,k)∈entT) (h5:K0 l' v'):UT (u++38::(e++59::l')) (u++k::v')
theorem K0.cut{l v:List Nat}(h:K0 l v):UT l v:=by
 induction h with
 |nil=>exact .no (fun w=>nomatch w)
 |@one k l v hk h ih=>
  cases ih with
  |no h1=>exact .no (fun w=>(List.mem_cons.mp w).elim (fun w=>hk w.symm) h1)
  |@cut u e k' l' v' h2 h3 h5=>exact .cut (u:=k::u) (fun w=>(List.mem_cons.mp w).elim (fun w=>hk w.symm) h2) h3 h5
 |ent he h ih=>exact .cut (u:=[]) (fun w=>nomatch w) he h
theorem K0.len{l v:List Nat}(h:K0 l v):v.length≤l.length:=by
 induction h with
 |nil=>exact Nat.le_refl _
 |one _ _ ih=>simp;exact YR ih
 |ent _ _ ih=>simp;exact aL ih
theorem K0.map{g:Nat→List Nat}(hg:∀k,(k≠38∧g k=[k])∨∃e,(e,k)∈entT∧g k=38::(e++[59])):∀l:List Nat,K0 (l.flatMap g) l
 |[]=>.nil
 |k::l=>by
  refine rr List.flatMap_cons ?_;rcases hg k with⟨h1,h2⟩|⟨e,h1,h2⟩
  ·exact rr h2 (.one h1 (K0.map hg l))
  ·refine rr h2 ?_;have:38::(e++[59])++l.flatMap g=38::(e++59::l.flatMap g):=by simp
   exact rr this (.ent h1 (K0.map hg l))
theorem SK(k:Nat):(k≠38∧He k=[k])∨∃e,(e,k)∈entT∧He k=38::(e++[59]):=by
 unfold He;by_cases h1:k=38
 ·subst h1;exact .inr ⟨[97,109,112],by decide,rfl⟩
 by_cases h2:k=60
 ·subst h2;exact .inr ⟨[108,116],by decide,rfl⟩
 by_cases h3:k=62
 ·subst h3;exact .inr ⟨[103,116],by decide,rfl⟩
 by_cases h4:k=13
 ·subst h4;exact .inr ⟨[35,120,68],by decide,rfl⟩
 exact .inl ⟨h1,by simp[h1,h2,h3,h4]⟩
theorem SI(k:Nat):(k≠38∧IN k=[k])∨∃e,(e,k)∈entT∧IN k=38::(e++[59]):=by
 unfold IN;by_cases h1:k=38
 ·subst h1;exact .inr ⟨[97,109,112],by decide,rfl⟩
 by_cases h2:k=60
 ·subst h2;exact .inr ⟨[108,116],by decide,rfl⟩
 by_cases h3:k=34
 ·subst h3;exact .inr ⟨[113,117,111,116],by decide,rfl⟩
 by_cases h4:k=9
 ·subst h4;exact .inr ⟨[35,120,57],by decide,rfl⟩
 by_cases h5:k=10
 ·subst h5;exact .inr ⟨[35,120,65],by decide,rfl⟩
 by_cases h6:k=13
 ·subst h6;exact .inr ⟨[35,120,68],by decide,rfl⟩
 exact .inl ⟨h1,by simp[h1,h2,h3,h4,h5,h6]⟩
theorem Rw(v:Str):K0 (cl (Cw v)) (cl v):=by exact rr (CO ..) (K0.map SK _)
theorem Rl(v:Str):K0 (cl (DE v)) (cl v):=by exact rr (JW ..) (K0.map SI _)
theorem Ni{ks:List (Option Expr)}{vs:List Expr}{p:Pos}{x:Str}{xp:Pos}{l:Nat}{env:Env}:swapsWith (.Dict ks vs p) (some (.Name x xp)) l env=pure false:=by rfl
theorem UO:("&":Str)=mk [38]:=by decide+kernel
theorem SG:(";":Str)=mk [59]:=by decide+kernel
noncomputable def GI:List (Str×AV):=[(("amp":Str),.str "&"),(("lt":Str),.str "<"),(("gt":Str),.str ">"),(("quot":Str),.str "\""),(("apos":Str),.str "'")]
section
variable{c:Cx}{n:Nat}{S:AD}{Q:AV→AD→Prop}
theorem WM{L:BU}{ρ:AJ}{env:Env}{k w:Str}{z z':Nat}{p p' pos:Pos}{rest:List (Sem Value×Sem Value)}{Q:List (Str×AV)→AJ→AD→Prop}
  (h:Ok c n L RP (evalPairs rest) ρ S (fun xs=>Q ((k,.str w)::xs))):
  Ok c n L RP (evalPairs ((eval (.Constant (.str k) z p) env,do let x←eval (.Constant (.str w) z' p') env;standAt pos;pure x)::rest)) ρ S Q:=by
 refine OE ?_;exact AT h
theorem MF{env:Env}{pos:Pos}:∀(l:List (Expr×Expr)),(evalEachOpt (l.map fun p=>some p.1) env).zip ((evalEach (l.map fun p=>p.2) env).map fun v=>do let x←v;standAt pos;pure x)=(l.map fun p=>(eval p.1 env,do let x←eval p.2 env;standAt pos;pure x)).map fun p=>(some p.1,p.2)
 |[]=>rfl
 |p::l=>congrArg (List.cons _) (MF l)
theorem RA{L:BU}{ρ:AJ}{env:Env}{pos:Pos}{Q:List (Str×AV)→AJ→AD→Prop}:∀(l:List ((Str×Nat×Pos)×(Str×Nat×Pos))),Q (l.map fun p=>(p.1.1,.str p.2.1)) ρ S→
  Ok c n L RP (evalPairs ((l.map fun p=>(Expr.Constant (.str p.1.1) p.1.2.1 p.1.2.2,Expr.Constant (.str p.2.1) p.2.2.1 p.2.2.2)).map fun p=>(eval p.1 env,do let x←eval p.2 env;standAt pos;pure x))) ρ S Q
 |[],h=>Px h
 |p::l,h=>WM (RA (Q:=fun xs=>Q ((p.1.1,.str p.2.1)::xs)) l h)
theorem SW{L:BU}{ρ:AJ}{env:Env}{pos:Pos}{Q:AV→AJ→AD→Prop}(l:List ((Str×Nat×Pos)×(Str×Nat×Pos)))(h0:l≠[])(h15:l.length≤15)
  (hn:(l.map fun p=>p.1.1).Nodup) (h:∀a,S a=none→Q (.ref a) ρ (put S a (.dict (l.map fun p=>(p.1.1,.str p.2.1))))):
  Ok c n L R (eval (.Dict ((l.map fun p=>(Expr.Constant (.str p.1.1) p.1.2.1 p.1.2.2,Expr.Constant (.str p.2.1) p.2.2.1 p.2.2.2)).map fun p=>some p.1) ((l.map fun p=>(Expr.Constant (.str p.1.1) p.1.2.1 p.1.2.2,Expr.Constant (.str p.2.1) p.2.2.1 p.2.2.2)).map fun p=>p.2) pos) env) ρ S Q:=by
 refine Q7 _ (MF _) (by simpa using h0) (by simpa using h15) ?_;exact RA l ⟨by rw[List.map_map];exact hn,h⟩
theorem R4{L:BU}{ρ:AJ}{env:Env}{E:Expr}{pos:Pos}{keys:List (Option Expr)}{vals:List Expr}{Q:AV→AJ→AD→Prop}(hE:Expr.Dict keys vals pos=E)(l:List ((Str×Nat×Pos)×(Str×Nat×Pos)))
  (hk:keys=(l.map fun p=>(Expr.Constant (.str p.1.1) p.1.2.1 p.1.2.2,Expr.Constant (.str p.2.1) p.2.2.1 p.2.2.2)).map fun p=>some p.1)
  (hv:vals=(l.map fun p=>(Expr.Constant (.str p.1.1) p.1.2.1 p.1.2.2,Expr.Constant (.str p.2.1) p.2.2.1 p.2.2.2)).map fun p=>p.2) (h0:l≠[]) (h15:l.length≤15)
  (hn:(l.map fun p=>p.1.1).Nodup) (h:∀a,S a=none→Q (.ref a) ρ (put S a (.dict (l.map fun p=>(p.1.1,.str p.2.1))))):Ok c n L R (eval E env) ρ S Q:=by
 subst hE;subst hk;subst hv;exact SW l h0 h15 hn h
theorem CR(l:List Nat):(mk l).length=l.length:=by exact rl (Ai ..) rfl
inductive ZN(x v:Str)(S1:Addr→Option AO)(ρ0:AJ)(k:Nat)(ρ:AJ)(S':AD):Prop
 |mk (A l vd vr) (h0:cl x=A++l) (h1:cl v=vd++vr) (h2:K0 l vr) (h3:k=l.length) (h4:AG ρ "at"=some (.int (A.length:Nat))) (h5:AG ρ "found"=some (.str (mk vd))) (h6:Kp ["found","at","begin","end","told","sign"] ρ ρ0) (h7:S'=S1)
set_option maxHeartbeats 4000000 in
theorem Ex(F:Af c.K){x v:Str}(h:K0 (cl x) (cl v))(hl:x.length≤100000)(q:∀S',A9 S S'→Q (.str v) S'):AM c (n+1) (.ref 581) [.str x] S Q:=by
 refine(AP F.FF (names:=["text"]) (by kernel_rfl) (fun _ _ _ _ _ _ _ _ s g=>.of_eq (by kernel_rfl)) (by decide+kernel) rfl (by kernel_rfl) ?_).call;intro L env hc he;refine AH ?_;refine CB ?_ (BB he (by with_unfolding_all rfl));refine Ch ?_;refine An he (by kernel_rfl) (by rfl) ⟨ble rfl,?_⟩;refine Cy (by rfl) (Ag he (by kernel_rfl) (Ag he (by kernel_rfl) (BR ?_)));refine AH ?_;generalize hE:Expr.Dict _ _ _=E;have hs:∀x xp l env,swapsWith E (some (.Name x xp)) l env=pure false:=by intro _ _ _ _;subst hE;exact Ni
 refine LB he (by kernel_rfl) ?_ (hs _ _ _ _);clear hs;refine R4 hE [((_,_,_),(_,_,_)),((_,_,_),(_,_,_)),((_,_,_),(_,_,_)),((_,_,_),(_,_,_)),((_,_,_),(_,_,_))] rfl rfl (fun e=>nomatch e) (Nat.le_of_ble_eq_true rfl) (by decide+kernel) fun nd hnd=>?_;have hS1:A9 S (put S nd (.dict GI)):=(A9.refl S).put hnd;have hnd1:put S nd (.dict GI) nd=some (.dict GI):=AC ..;show Sq c _ L env _ _ _ _ (put S nd (.dict GI));revert hS1 hnd1;refine Dh (put S nd (.dict GI):AD) ?_;intro S1;intro hS1 hnd1;refine AH ?_
 refine JN (ZN x v S1 _) (cl x).length
  ⟨[],cl x,[],cl v,rfl,rfl,h,rfl,by rfl,by rfl,Kp.refl _ _,rfl⟩ ?_
 rintro k ρ _ ⟨A,l,vd,vr,hx,hv,hE,rfl,hat,hfnd,hkp,rfl⟩;have hxl:A.length+l.length=x.length:=by exact rl (Ai ..) (rr hx (rr List.length_append rfl))
 have hvl:vd.length+vr.length=(cl v).length:=by exact rr hv (rr List.length_append rfl)
 have hEl:=h.len;rw[Ai x]at hEl;have hslA:Txt.slice x (some ((A.length:Nat):Int)) none=mk l:=C2 hx rfl;refine Ck ?_;refine AT ?_;refine Hk he (by kernel_rfl) ((hkp "text" (by decide+kernel)).trans (by rfl)) ?_;refine Az ?_;refine AB he (by kernel_rfl) hat ?_;refine Aj ?_;refine Aj ?_;refine⟨_,_,_,rfl,rfl,rfl,?_⟩;refine CK (by exact SA hl) ?_ _ (fun _ _=>rfl);refine rr hslA ?_;refine Nf ⟨_,rfl,?_⟩;refine rr UO (rr (JI ..) ?_);refine⟨fun hb=>?_,fun hb=>?_⟩;rotate_left
 ·have hno:38∉l:=by simpa using hb
  rcases hE.cut with⟨_⟩|@⟨u,e,k,l',v',_⟩
  ·refine AQ ?_;refine Ae ?_;refine JD he (by kernel_rfl) hfnd ?_;refine Hk he (by kernel_rfl) ((hkp "text" (by decide+kernel)).trans (by rfl)) ?_;refine Az ?_;refine AB he (by kernel_rfl) hat ?_;refine Aj ?_;refine Aj ?_;refine⟨_,_,_,rfl,rfl,rfl,?_⟩;refine CK (by exact SA hl) ?_ _ (fun _ _=>rfl);refine rr hslA ?_;refine Aq ?_ (by exact rr (CR ..) (rr (CR ..) (rr sizeLine_eq (Zb hl hvl hEl hxl))));refine rl (NM ..) (rl hv (rr (ON ..) ?_));exact q _ hS1
  ·exact absurd (by simp) hno
 have hyes:38∈l:=by simpa using hb
 rcases hE.cut with⟨hno⟩|@⟨u,e,k,l',v',hu,hek,hE'⟩
 ·exact absurd hyes hno
 clear hb hyes hslA
 have he59:59∉38::e:=by
  have:∀p∈entT,59∉38::p.1:=by decide
  exact this _ hek
 have hel:e.length≤4:=by
  have:∀p∈entT,p.1.length≤4:=by decide
  exact this _ hek
 rw[List.length_append,List.length_cons,List.length_append,List.length_cons]at hxl;have hx1:cl x=A++(u++38::(e++59::l')):=hx;have hx2:cl x=(A++u)++((38::e)++59::l'):=by refine rr hx ?_;simp
 have hx3:cl x=(A++u++[38])++(e++59::l'):=by refine rr hx ?_;simp
 have hx4:cl x=(A++u++38::(e++[59]))++l':=by refine rr hx ?_;simp
 obtain⟨rst1,ho1⟩:=Ey hx1 hu;obtain⟨rst2,ho2⟩:=Ey hx2 he59;refine Aa he (by kernel_rfl) ?_;refine AY E3 ?_;refine AB he (by kernel_rfl) ((hkp "text" (by decide+kernel)).trans (by rfl)) ?_;refine⟨rfl,?_⟩;refine An he (by kernel_rfl) (PN (by rfl) (Cv hat (by rfl))) ?_;refine GD ho1 ?_;have kp1:=hkp.cons (x:="begin") (v:=.int (A.length+u.length:Nat)) (by decide+kernel);replace hat:=AR (x:="begin") (v:=.int (A.length+u.length:Nat)) hat (by decide+kernel);replace hfnd:=AR (x:="begin") (v:=.int (A.length+u.length:Nat)) hfnd (by decide+kernel);have hbg:AG ((("begin":Str),AV.int (A.length+u.length:Nat))::ρ) "begin"=some (.int (A.length+u.length:Nat)):=by rfl
 show Sq c _ L env _ _ _ ((("begin":Str),AV.int (A.length+u.length:Nat))::ρ) _;show Sq c _ L env _ _ _ ((("begin":Str),AV.int (A.length+u.length:Nat))::ρ) _;revert kp1 hat hfnd hbg;refine Dh ((("begin":Str),AV.int (A.length+u.length:Nat))::ρ:AJ) ?_;intro ρ1;intro kp1 hat hfnd hbg;refine Aa he (by kernel_rfl) ?_;refine AY E3 ?_;refine AB he (by kernel_rfl) ((kp1 "text" (by decide+kernel)).trans (by rfl)) ?_;refine⟨rfl,?_⟩;refine An he (by kernel_rfl) (PN (by rfl) (Cv hbg (by rfl))) ?_;refine rr SG ?_;refine GD (by exact rl List.length_append ho2) ?_;have eEnd:(A++u).length+(38::e).length=A.length+u.length+1+e.length:=by simp;exact b9
 refine rr eEnd ?_;have kp2:=kp1.cons (x:="end") (v:=.int (A.length+u.length+1+e.length:Nat)) (by decide+kernel);replace hat:=AR (x:="end") (v:=.int (A.length+u.length+1+e.length:Nat)) hat (by decide+kernel);replace hfnd:=AR (x:="end") (v:=.int (A.length+u.length+1+e.length:Nat)) hfnd (by decide+kernel);replace hbg:=AR (x:="end") (v:=.int (A.length+u.length+1+e.length:Nat)) hbg (by decide+kernel);have hen:AG ((("end":Str),AV.int (A.length+u.length+1+e.length:Nat))::ρ1) "end"=some (.int (A.length+u.length+1+e.length:Nat)):=by rfl
 show Sq c _ L env _ _ _ ((("end":Str),AV.int (A.length+u.length+1+e.length:Nat))::ρ1) _;show Sq c _ L env _ _ _ ((("end":Str),AV.int (A.length+u.length+1+e.length:Nat))::ρ1) _;revert kp2 hat hfnd hbg hen;refine Dh ((("end":Str),AV.int (A.length+u.length+1+e.length:Nat))::ρ1:AJ) ?_;intro ρ2;intro kp2 hat hfnd hbg hen;refine Aa he (by kernel_rfl) ?_;refine Hk he (by kernel_rfl) ((kp2 "text" (by decide+kernel)).trans (by rfl)) ?_;refine Az ?_;refine JD he (by kernel_rfl) hbg ?_;refine AS ?_;refine BE ?_;refine Az ?_;refine AB he (by kernel_rfl) hen ?_;refine Aj ?_;refine⟨_,_,_,rfl,rfl,rfl,?_⟩;refine CK (by exact SA hl) ?_ _ (fun _ _=>rfl);refine rr (CD hx3 (by simp;exact TS) (by simp;exact TS)) ?_;have kp3:=kp2.cons (x:="told") (v:=.str (mk e)) (by decide+kernel);replace hat:=AR (x:="told") (v:=.str (mk e)) hat (by decide+kernel);replace hfnd:=AR (x:="told") (v:=.str (mk e)) hfnd (by decide+kernel);replace hbg:=AR (x:="told") (v:=.str (mk e)) hbg (by decide+kernel);replace hen:=AR (x:="told") (v:=.str (mk e)) hen (by decide+kernel);have htd:AG ((("told":Str),AV.str (mk e))::ρ2) "told"=some (.str (mk e)):=by rfl
 have hnm:AG ((("told":Str),AV.str (mk e))::ρ2) "named"=some (.ref nd):=(kp3 "named" (by decide+kernel)).trans (by rfl);show Sq c _ L env _ _ _ ((("told":Str),AV.str (mk e))::ρ2) _;revert kp3 hat hfnd hbg hen htd hnm;refine Dh ((("told":Str),AV.str (mk e))::ρ2:AJ) ?_;intro ρ3;intro kp3 hat hfnd hbg hen htd hnm;refine Aa he (by kernel_rfl) ?_;refine Ok.val (.str (mk [k])) ?_ ?_
 ·clear hat hfnd hbg hen kp1 kp2 kp3 hkp ho1 ho2 hx hx1 hx2 hx3 hx4 hE hE' hxl hvl hEl he59;refine Dz ?_;refine N0 he (by kernel_rfl) htd ?_;refine AB he (by kernel_rfl) hnm ?_;refine IQ hnd1 ⟨_,rfl,?_⟩;refine⟨fun hb=>?_,fun hb=>?_⟩
  ·refine JC he (by kernel_rfl) hnm ?_;refine AB he (by kernel_rfl) htd ?_;refine CJ (T:="dict") (.inr (.inr ⟨_,hnd1,rfl⟩)) slot_dict_getitem.lookup ?_ _ (fun _ _=>rfl)
   have hlk:AG GI (mk e)=some (.str (mk [k])):=by
    have:∀p∈entT,(AG GI (mk p.1)).isSome=true→AG GI (mk p.1)=some (.str (mk [p.2])):=by
     intro p hp;simp only[entT,List.mem_cons,List.not_mem_nil,or_false]at hp;rcases hp with rfl|rfl|rfl|rfl|rfl|rfl|rfl<;>intro hs<;>first|rfl|exact absurd hs (by decide+kernel)
    exact this _ hek hb
   exact Ja hnd1 hlk ⟨rfl,rfl,rfl⟩
  ·obtain⟨k9,hk9⟩:∃d,e=[35,120,d]∧((d=57∧k=9)∨(d=65∧k=10)∨(d=68∧k=13)):=by
    simp only[entT,List.mem_cons,List.not_mem_nil,or_false,Prod.mk.injEq]at hek;rcases hek with⟨rfl,rfl⟩|⟨rfl,rfl⟩|⟨rfl,rfl⟩|⟨rfl,rfl⟩|⟨rfl,rfl⟩|⟨rfl,rfl⟩|⟨rfl,rfl⟩
    ·exact absurd hb (by decide+kernel)
    ·exact absurd hb (by decide+kernel)
    ·exact absurd hb (by decide+kernel)
    ·exact absurd hb (by decide+kernel)
    ·exact⟨68,rfl,.inr (.inr ⟨rfl,rfl⟩)⟩
    ·exact⟨57,rfl,.inl ⟨rfl,rfl⟩⟩
    ·exact⟨65,rfl,.inr (.inl ⟨rfl,rfl⟩)⟩
   obtain⟨rfl,hk9⟩:=hk9;refine BT (id:="chr") F.Tq he (by kernel_rfl) ?_;refine AK ?_;refine Dz ?_;refine Ck ?_;refine JC he (by kernel_rfl) htd ?_;refine AS ?_;refine CE ?_ _ (fun _ _=>rfl);refine DH (k:=1) (d:=120) (by rfl) (by rfl) (by decide) ?_;refine AT ?_;refine AZ ⟨_,rfl,?_⟩;refine⟨fun hb=>?_,fun hb=>absurd (by decide+kernel) (of_decide_eq_false hb)⟩;refine Ap (id:="int") F.Ec he (by kernel_rfl) ?_;refine Br ?_;refine AB he (by kernel_rfl) htd ?_;refine Bs ?_;refine Az ?_;refine AS ?_;refine Aj ?_;refine Aj ?_;refine⟨_,_,_,rfl,rfl,rfl,?_⟩;refine CK (by exact rr (CR ..) (Nat.le_of_ble_eq_true rfl)) ?_ _ (fun _ _=>rfl);refine rr (show Txt.slice (mk [35,120,k9]) (some 2) none=mk [k9]from C2 (A:=[35,120]) (B:=[k9]) rfl rfl) ?_;refine An he (by kernel_rfl) (by rfl) ?_;rcases hk9 with⟨rfl,rfl⟩|⟨rfl,rfl⟩|⟨rfl,rfl⟩
   ·refine rr (show mk [57]=("9":Str) by decide+kernel) ?_;refine Tu ?_;refine AE ?_;exact QA (by decide) ⟨rfl,rfl,rfl⟩
   ·refine rr (show mk [65]=("A":Str) by decide+kernel) ?_;refine Uo ?_;refine AE ?_;exact QA (by decide) ⟨rfl,rfl,rfl⟩
   ·refine rr (show mk [68]=("D":Str) by decide+kernel) ?_;refine UR ?_;refine AE ?_;exact QA (by decide) ⟨rfl,rfl,rfl⟩
 have kp4:=kp3.cons (x:="sign") (v:=.str (mk [k])) (by decide+kernel);replace hat:=AR (x:="sign") (v:=.str (mk [k])) hat (by decide+kernel);replace hfnd:=AR (x:="sign") (v:=.str (mk [k])) hfnd (by decide+kernel);replace hbg:=AR (x:="sign") (v:=.str (mk [k])) hbg (by decide+kernel);replace hen:=AR (x:="sign") (v:=.str (mk [k])) hen (by decide+kernel);have hsg:AG ((("sign":Str),AV.str (mk [k]))::ρ3) "sign"=some (.str (mk [k])):=by rfl
 show Sq c _ L env _ _ _ ((("sign":Str),AV.str (mk [k]))::ρ3) _;revert kp4 hat hfnd hbg hen hsg;refine Dh ((("sign":Str),AV.str (mk [k]))::ρ3:AJ) ?_;intro ρ4;intro kp4 hat hfnd hbg hen hsg;refine AH ?_;refine Ds (BB he (by with_unfolding_all rfl)) ?_;refine Ch ?_;refine Dx ?_;refine JD he (by kernel_rfl) hfnd ?_;refine Hk he (by kernel_rfl) ((kp4 "text" (by decide+kernel)).trans (by rfl)) ?_;refine Az ?_;refine AB he (by kernel_rfl) hat ?_;refine Az ?_;refine AB he (by kernel_rfl) hbg ?_;refine Aj ?_;refine⟨_,_,_,rfl,rfl,rfl,?_⟩;refine CK (by exact SA hl) ?_ _ (fun _ _=>rfl);refine rr (CD hx1 rfl rfl) ?_;rw[List.length_append,List.length_cons]at hvl;refine Aq ?_ (by exact rr (CR ..) (rr (CR ..) (rr sizeLine_eq (bb hl hEl hvl))));refine rl (NM ..) ?_;refine AB he (by kernel_rfl) hsg ?_;refine Aq ?_ (by exact rr (CR ..) (rr (CR ..) (rr sizeLine_eq (rr List.length_append (rr List.length_singleton (Xg hl hEl hvl))))));refine rl (NM ..) ?_;refine Dx ?_;refine AB he (by kernel_rfl) hen ?_;refine AS ?_;refine BE ?_;refine AE ⟨ble rfl,?_⟩;refine⟨_,rfl,rfl,DC he (by kernel_rfl) (DC he (by kernel_rfl) (BR ?_))⟩;refine AQ ?_;refine⟨l'.length,by simp;exact zq378,A++u++38::(e++[59]),l',vd++u++[k],v',hx4,by refine rr hv ?_;simp,hE',rfl,?_,?_,?_,rfl⟩
 ·have e9:((A++u++38::(e++[59])).length:Nat)=A.length+u.length+1+e.length+1:=by simp;exact cC
  refine rr e9 ?_;rfl
 ·rfl
 ·exact(kp4.cons (by decide+kernel)).cons (by decide+kernel)
end
theorem K5(m:Nat):Builtin.Range.rangeSize 0 (m:Nat) 2=((m+1)/2:Nat):=
 (rangeSize_pos (by decide) (Int.natCast_nonneg m)).trans (congrArg (·/2) (Int.add_sub_assoc (m:Int) 2 1))
theorem fl{n:Nat}(h:n≤1000000):Builtin.Range.rangeFitsLong n=true:=
 Bool.and_eq_true_iff.mpr ⟨decide_eq_true (Int.le_trans (by decide) (Int.natCast_nonneg n)),decide_eq_true (Int.ofNat_lt.mpr (Nat.lt_of_le_of_lt h (by decide)))⟩
theorem Tt{m:Nat}(h:m≤100000):Builtin.Range.small 0 m 2=true:=by
 have e1:Builtin.Range.rangeFitsLong (m:Nat)=true:=fl (Nat.le_trans h (ble rfl));have e2:Builtin.Range.rangeFitsLong (m+1:Nat)=true:=fl (Nat.le_trans (Nat.succ_le_succ h) (ble rfl));have e3:Builtin.Range.rangeFitsLong ((m+1)/2:Nat)=true:=fl (Nat.le_trans (Nat.div_le_self _ _) (Nat.le_trans (Nat.succ_le_succ h) (ble rfl)));unfold Builtin.Range.small;have a {x y:Bool} (h:x=true) (g:y=true):(x&&y)=true:=Bool.and_eq_true_iff.mpr ⟨h,g⟩;exact a (a (a (a (by decide) e1) (by decide)) (rr (K5 m) e3)) (Bool.or_eq_true_iff.mpr (.inr e2))
theorem RH:∀k:_root_.Fin 21,(Builtin.Range.small 1 ((2*k.val+1:Nat):Int) 2&&(Builtin.Range.rangeSize 1 ((2*k.val+1:Nat):Int) 2).toNat==k.val)=true:=by decide+kernel
theorem PK{k:Nat}(hk:k≤20):Bj 1 (2*k+1:Nat) 2=(List.range k).map fun i=>natV (2*i+1):=by
 unfold Bj;refine rr (eq_of_beq (Bool.and_eq_true_iff.mp (RH ⟨k,Nat.lt_succ_of_le hk⟩)).2) ?_;exact List.map_congr_left fun i _=>by show AV.int _=AV.int _;congr 1;exact Zl
theorem NP(m:Nat):Bj 0 (m:Nat) 2=(List.range ((m+1)/2)).map fun i=>natV (2*i):=by
 unfold Bj;refine rr (K5 ..) ?_;exact List.map_congr_left fun i _=>by show AV.int _=AV.int _;congr 1;exact Vb
noncomputable def M3(p:Str×Str):List Nat:=32::(cl p.1++61::34::(cl (DE p.2)++[34]))
noncomputable def atsS(l:List (Str×Str)):List Nat:=l.flatMap M3
noncomputable def partsG(pre:List Nat):List (Str×Str)→List Nat→List Str→List Str
 |[],t,more=>mk (pre++t)::more
 |p::l,t,more=>mk (pre++32::(cl p.1++[61]))::DE p.2::partsG [] l t more
theorem J4(l:List (Str×Str))(t:List Nat)(more:List Str):∀pre,(partsG pre l t more).length=2*l.length+1+more.length:=by
 induction l with
 |nil=>intro pre;simp[partsG];exact VP
 |cons p l ih=>intro pre;simp[partsG,ih];exact Yv
theorem K8(pre:List Nat)(l:List (Str×Str))(t:List Nat)(more:List Str):∃q m,partsG pre l t more=q::m:=by
 cases l<;>exact⟨_,_,rfl⟩
theorem Mb(l:List (Str×Str))(t:List Nat)(more:List Str):∀(pre:List Nat) q m,partsG pre l t more=q::m→cl q++m.flatMap (fun y=>34::cl y)=pre++atsS l++t++more.flatMap fun y=>34::cl y:=by
 induction l with
 |nil=>intro pre q m e;cases e;show(pre++t)++_=_;simp[atsS]
 |cons p l ih=>
  intro pre q m e;obtain⟨q2,m2,e2⟩:=K8 [] l t more;have h2:=ih [] q2 m2 e2;unfold partsG at e;rw[e2]at e;cases e;refine rr List.flatMap_cons (rr List.flatMap_cons ?_);have h3:atsS (p::l)=M3 p++atsS l:=rfl;refine rr h3 ?_;show(pre++32::(cl p.1++[61]))++(34::cl (DE p.2)++(34::cl q2++m2.flatMap _))=_;refine rr (show 34::cl q2++m2.flatMap (fun y=>34::cl y)=34::(cl q2++m2.flatMap fun y=>34::cl y)from rfl) (rr h2 ?_);simp[M3]
theorem IL(k:Nat):34∉IN k∧60∉IN k∧13∉IN k:=by
 unfold IN;by_cases h1:k=38
 ·subst h1;decide
 by_cases h2:k=60
 ·subst h2;decide
 by_cases h3:k=34
 ·subst h3;decide
 by_cases h4:k=9
 ·subst h4;decide
 by_cases h5:k=10
 ·subst h5;decide
 by_cases h6:k=13
 ·subst h6;decide
 simp[h1,h2,h3,h4,h5,h6];exact⟨fun e=>h3 e.symm,fun e=>h2 e.symm,fun e=>h6 e.symm⟩
theorem LA(v:Str):34∉cl (DE v)∧60∉cl (DE v)∧13∉cl (DE v):=by
 refine rr (JW ..) ?_;simp only[List.mem_flatMap,not_exists,not_and];exact⟨fun k _=>(IL k).1,fun k _=>(IL k).2.1,fun k _=>(IL k).2.2⟩
structure L5(a:Str):Prop where
 ne:cl a≠[]
 ok:∀k∈cl a,k=58∨(97≤k∧k≤122)
 len:a.length≤20
theorem L5.no{a:Str}(h:L5 a){k:Nat}(hk:k<58∨(58<k∧k<97)):k∉cl a:=fun w=>by
 have:=h.ok k w;exact cT hk this
theorem MN(l:List (Str×Str))(t:List Nat)(more:List Str)(hl:∀p∈l,L5 p.1)(ht:34∉t)(hm:∀q∈more,34∉cl q):∀pre:List Nat,34∉pre→∀q∈partsG pre l t more,34∉cl q:=by
 induction l with
 |nil=>
  intro pre hp q hq;rcases List.mem_cons.mp hq with rfl|hq
  ·simp[hp,ht]
  ·exact hm q hq
 |cons p l ih=>
  intro pre hp q hq;unfold partsG at hq;rcases List.mem_cons.mp hq with rfl|hq
  ·have:=(hl p (.head _)).no (k:=34) (by exact UF);simp[hp,this]
  ·rcases List.mem_cons.mp hq with rfl|hq
   ·exact(LA _).1
   ·exact ih (fun p hp=>hl p (.tail _ hp)) [] (by simp) q hq
theorem K3{x:Str}{pre:List Nat}{l:List (Str×Str)}{t:List Nat}{more:List Str}(hl:∀p∈l,L5 p.1)(ht:34∉t)(hm:∀q∈more,34∉cl q)(hp:34∉pre)
  (hx:cl x=pre++atsS l++t++more.flatMap fun y=>34::cl y):Txt.split x (mk [34])=partsG pre l t more:=by
 obtain⟨q,m,e⟩:=K8 pre l t more;have hf:=MN l t more hl ht hm pre hp;rw[e]at hf ⊢;exact EO (hf q (.head _)) (fun z hz=>hf z (.tail _ hz)) (by exact rr hx (rr (Mb l t more pre q m e) rfl))
theorem NA(r:List Nat):∃(t:List Nat) (more:List Str),34∉t∧(∀q∈more,34∉cl q)∧r=t++more.flatMap fun y=>34::cl y:=by
 have h1:=StrLaws.join_split (mk r) (mk [34]);have h2:=StrLaws.split_free (mk r) 34
 cases w:Txt.split (mk r) (mk [34])with
 |nil=>exact absurd w (Hf _ _)
 |cons q m=>
  rw[w]at h1;have h2':∀z∈q::m,34∉z.cps.toList:=fun z hz=>h2 z (by rw[←w]at hz;exact hz);have h3:=congrArg cl h1;rw[FX]at h3;exact⟨cl q,m,h2' q (.head _),fun z hz=>h2' z (.tail _ hz),h3.symm⟩
noncomputable def preAt(pre:List Nat)(j:Nat):List Nat:=if j=0 then pre else[]
theorem GH(t:List Nat)(more:List Str):∀(l:List (Str×Str)) (pre:List Nat) (j:Nat) (p:Str×Str),l[j]?=some p→(partsG pre l t more)[2*j]?=some (mk (preAt pre j++32::(cl p.1++[61])))∧(partsG pre l t more)[2*j+1]?=some (DE p.2)
 |q::l,pre,0,p,h=>by cases h;exact⟨rfl,rfl⟩
 |q::l,pre,j+1,p,h=>by
  have ih:=GH t more l [] j p (by simpa using h);have e:preAt [] j=preAt pre (j+1):=by unfold preAt;split<;>simp
  refine rl e ?_;exact ih
theorem IY(t:List Nat)(more:List Str):∀(l:List (Str×Str)) (pre:List Nat),(partsG pre l t more)[2*l.length]?=some (mk (preAt pre l.length++t))
 |[],pre=>rfl
 |q::l,pre=>by
  have ih:=IY t more l [];have e:preAt [] l.length=preAt pre (l.length+1):=by unfold preAt;split<;>simp
  refine rr List.length_cons (rl e ?_);exact ih
theorem U7{S:AD}{k:Nat}(hk:k≤20):Kd S (.rg 1 ((2*k+1:Nat):Int) 2) ((List.range k).map fun i=>natV (2*i+1)) (fun _=>True):=by
 exact rl (PK hk) (.rg (Bool.and_eq_true_iff.mp (RH ⟨k,Nat.lt_succ_of_le hk⟩)).1)
theorem Uh{S:AD}{m:Nat}(hk:m≤100000):Kd S (.rg 0 ((m:Nat):Int) 2) ((List.range ((m+1)/2)).map fun i=>natV (2*i)) (fun _=>True):=by
 exact rl (NP ..) (.rg (Tt hk))
theorem Lb:("\"":Str)=mk [34]:=by decide+kernel
theorem Mc:(" ":Str)=mk [32]:=by decide+kernel
theorem Ql:(">":Str)=mk [62]:=by decide+kernel
theorem NC{y:Str}{n rest:List Nat}(hn:32∉n)(hy:cl y=n∨∃r,cl y=n++32::r):∃m,Txt.split y (" ":Str)=mk n::m:=by
 refine rr Mc ?_;rcases hy with hy|⟨r,hy⟩
 ·exact⟨[],EO (p:=mk n) (l:=[]) hn (fun _ h=>nomatch h) (by refine rr hy ?_;simp)⟩
 ·have h1:=StrLaws.join_split (mk r) (mk [32]);have h2:=StrLaws.split_free (mk r) 32
  cases w:Txt.split (mk r) (mk [32])with
  |nil=>exact absurd w (Hf _ _)
  |cons q m=>
   rw[w]at h1;have h2':∀z∈q::m,32∉z.cps.toList:=fun z hz=>h2 z (by rw[←w]at hz;exact hz);have h3:=congrArg cl h1;rw[FX]at h3;refine⟨q::m,EO (p:=mk n) (l:=q::m) hn h2' ?_⟩;refine rr hy (rr List.flatMap_cons ?_);show _=n++(32::(cl q++_));have h4:cl q++m.flatMap (fun y=>32::cl y)=r:=h3;exact rr h4 rfl
theorem Oq{y:Str}{n r:List Nat}(hn:32∉n)(hr:32∉r)(hy:cl y=n++32::r):Txt.split y (" ":Str)=[mk n,mk r]:=by
 refine rr Mc ?_;exact EO (p:=mk n) (l:=[mk r]) hn (fun z hz=>by exact rr (List.mem_singleton.mp hz) hr) (by refine rr hy ?_;simp)
theorem HB{pre:List Nat}{k:Nat}(j:Nat)(h:k∉pre):k∉preAt pre j:=by
 unfold preAt;split
 ·exact h
 ·simp
theorem O6{pre:List Nat}{m:Nat}(j:Nat)(h:pre.length≤m):(preAt pre j).length≤m:=by
 unfold preAt;split
 ·exact h
 ·exact Nat.zero_le _
section
variable{c:Cx}{n:Nat}{S:AD}{Q:AV→AD→Prop}
inductive aG(S:AD)(nm:Str)(l:List (Str×Str))(pl:Addr)(m0:List Str)(hl0 rl:Addr)(ρ0:AJ)(r:List Nat)(ρ:AJ)(S':AD):Prop
 |mk (i) (h0:r=List.range' i (l.length-i)) (h1:i≤l.length) (h2:S' rl=some (.list ((l.take i).map AI))) (h3:S' pl=some (.list ((partsG (cl nm) l [] []).map .str))) (h4:S' hl0=some (.list ((nm::m0).map .str))) (h5:Kp ["at","name"] ρ ρ0) (h6:A9 S S')
set_option maxHeartbeats 4000000 in
theorem Nj(F:Af c.K){x nm:Str}{l:List (Str×Str)}(hx:cl x=cl nm++atsS l)(hnm:L5 nm)(hl:∀p∈l,L5 p.1)(hv:∀p∈l,p.2.length≤1000)(hll:l.length≤20)(hxl:x.length≤50000)
  (q:∀S',A9 S S'→Q (.tup [.str nm,.tup (l.map AI)]) S'):AM c (n+2) (.ref 588) [.str x] S Q:=by
 have hsp:Txt.split x ("\"":Str)=partsG (cl nm) l [] []:=by
  refine rr Lb ?_;exact K3 hl (by simp) (fun _ h=>nomatch h) (hnm.no (by exact UF)) (by refine rr hx ?_;simp)
 have hpl:(partsG (cl nm) l [] []).length=2*l.length+1:=by refine rr (J4 ..) ?_;simp
 have hxc:=JL x ("\"":Str);refine(AP F.KY (names:=["text"]) (by kernel_rfl) (fun _ _ _ _ _ _ _ _ s g=>.of_eq (by kernel_rfl)) (by decide+kernel) rfl (by kernel_rfl) ?_).call;intro L env hc he;refine Aa he (by kernel_rfl) ?_;refine AY GL ?_;refine AB he (by kernel_rfl) (by rfl) ?_;refine⟨rfl,?_⟩;refine An he (by kernel_rfl) (by rfl) ?_;refine Hv (by decide+kernel) (by exact YT hxl) (by exact Zk hxl hxc) fun pl hpl0=>?_;refine rr hsp ?_;have hS1:A9 S (put S pl (.list ((partsG (cl nm) l [] []).map .str))):=(A9.refl S).put hpl0;have hp1:put S pl (.list ((partsG (cl nm) l [] []).map .str)) pl=some (.list ((partsG (cl nm) l [] []).map .str)):=AC ..;revert hS1 hp1;generalize put S pl (.list ((partsG (cl nm) l [] []).map .str))=S1;intro hS1 hp1
 have hd0:∃y,(partsG (cl nm) l [] [])[0]?=some y∧(cl y=cl nm∨∃r,cl y=cl nm++32::r)∧y.length≤100:=by
  cases l with
  |nil=>exact⟨_,rfl,.inl (by simp),by show(mk (cl nm++[])).length≤100;refine rr (CR ..) (rr (List.append_nil ..) (rr (Ai ..) ?_));have:=hnm.len;exact dG this⟩
  |cons p l=>exact⟨_,rfl,.inr ⟨_,rfl⟩,by
    refine rr (CR ..) (rr List.length_append (rr List.length_cons (rr List.length_append (rr (Ai ..) (rr (Ai ..) ?_)))))
    have:=hnm.len;have:=(hl p (.head _)).len;simp;lia⟩
 obtain⟨y0,hy0,hy1,hy2⟩:=hd0;obtain⟨m0,hm0⟩:=NC (rest:=[]) (hnm.no (k:=32) (by exact dc)) hy1;have hyc:=JL y0 (" ":Str);refine Aa he (by kernel_rfl) ?_;refine AY GL ?_;refine JC he (by kernel_rfl) (by rfl) ?_;refine AS ?_;refine CG (.inl hp1) (by decide) (by decide) (x:=.str y0) (by refine rr List.getElem?_map ?_;show Option.map _ (_[0]?)=_;refine rr hy0 ?_;rfl) ?_ _ (fun _ _=>rfl);refine⟨rfl,?_⟩;refine An he (by kernel_rfl) (by rfl) ?_;refine Hv (by decide+kernel) (by exact Yu hy2) (by exact Sw hy2 hyc) fun hl0 hhl0=>?_;refine rr hm0 (rr (ON ..) ?_);have hS2:=hS1.put (o:=.list ((nm::m0).map .str)) (hS1.none hhl0);have hh2:put S1 hl0 (.list ((nm::m0).map .str)) hl0=some (.list ((nm::m0).map .str)):=AC ..;have hp2:put S1 hl0 (.list ((nm::m0).map .str)) pl=some (.list ((partsG (cl nm) l [] []).map .str)):=(AA _ _ ((by first|exact As hp1 hhl0|exact(As hhl0 hp1).symm))).trans hp1;revert hS2 hh2 hp2;generalize put S1 hl0 (.list ((nm::m0).map .str))=S2;intro hS2 hh2 hp2;refine Aa he (by kernel_rfl) ?_;refine Aw ?_;refine AE ⟨ble rfl,fun rl hrl=>?_⟩;have hrlS:=hS2.none hrl;have nrp:rl≠pl:=(by first|exact As hrl hp2|exact(As hp2 hrl).symm)
 have nrh:rl≠hl0:=(by first|exact As hrl hh2|exact(As hh2 hrl).symm)
 have hS3:=hS2.put (o:=.list []) hrlS;refine AH ?_;refine CF ?_;refine Ap (id:="range") F.Fl he (by kernel_rfl) ?_;refine G2 ?_;refine AK ?_;refine BT (id:="len") F.Ej he (by kernel_rfl) ?_;refine An he (by kernel_rfl) (by rfl) ?_;refine DA (.inl ((AA _ _ nrp.symm).trans hp2)) (by exact rr (List.length_map ..) (rr hpl (eA hll))) ?_;refine rr (List.length_map ..) (rr hpl ?_);refine An he (by kernel_rfl) (by rfl) ?_;refine M0 (by decide) (PyProof.noPylong_small (by decide)) ?_;refine⟨_,_,U7 hll,?_⟩
 refine A7 (f:=fun i=>natV (2*i+1)) (aG S nm l pl m0 hl0 rl _)
  (fun _ _ _ _=>trivial) ?_ ?_ _ _ _ ⟨0,by exact rr (Nat.sub_zero ..) (rr List.range_eq_range' rfl),Nat.zero_le _,by refine rr (AC ..) ?_;rfl,(AA _ _ nrp.symm).trans hp2,(AA _ _ nrh.symm).trans hh2,Kp.refl _ _,hS3⟩
 ·rintro j r ρ S4 ⟨i,hr,hi,hrl4,hp4,hh4,hkp,hS4⟩
  have hil:i<l.length:=by
   have:=congrArg List.length hr;rw[List.length_range',List.length_cons]at this;exact YK hi this
  have ej:j=i∧r=List.range' (i+1) (l.length-(i+1)):=by
   rw[show l.length-i=(l.length-(i+1))+1 by exact Za hi hil,List.range'_succ]at hr
   injection hr with h1 h2
   exact⟨h1,h2⟩
  obtain⟨rfl,rfl⟩:=ej;obtain⟨p,hp⟩:∃p,l[j]?=some p:=⟨_,List.getElem?_eq_getElem hil⟩
  have hpm:=List.mem_of_getElem? hp;obtain⟨g1,g2⟩:=GH [] [] l (cl nm) j p hp;have hpn:=hl p hpm;have h32a:32∉preAt (cl nm) j:=HB j (hnm.no (by exact dc))
  have h32b:32∉cl p.1++[61]:=by
   have:=hpn.no (k:=32) (by exact dc);simp[this]
  have hsp2:=Oq (y:=mk (preAt (cl nm) j++32::(cl p.1++[61]))) h32a h32b rfl
  have hlen2:(mk (preAt (cl nm) j++32::(cl p.1++[61]))).length≤100:=by
   refine rr (CR ..) (rr List.length_append (rr List.length_cons (rr List.length_append (rr (Ai ..) ?_))));have h1:=hpn.len;have h2:(preAt (cl nm) j).length≤20:=O6 j (by exact rr (Ai ..) hnm.len);simp;exact YL h1 h2
  have hyc2:=JL (mk (preAt (cl nm) j++32::(cl p.1++[61]))) (" ":Str);refine BA he (by kernel_rfl) ?_;have kp1:=hkp.cons (x:="at") (v:=natV (2*j+1)) (by decide+kernel);refine Aa he (by kernel_rfl) ?_;refine DW ?_;refine DW ?_;refine AY GL ?_;refine JC he (by kernel_rfl) ((kp1 "parts" (by decide+kernel)).trans (by rfl)) ?_;refine JD he (by kernel_rfl) (by rfl) ?_;refine AS ?_;refine Ff ?_;refine CJ (T:="list") (.inl ⟨_,hp4,rfl⟩) slot_list_getitem.lookup ?_ _ (fun _ _=>rfl)
  refine Dr (.inl hp4) (by exact aC) (by lia) (x:=.str (mk (preAt (cl nm) j++32::(cl p.1++[61])))) (by
   have e:(((2*j+1:Nat):Int)-1).toNat=2*j:=by exact Zd
   refine rr e (rr List.getElem?_map (rr g1 ?_));rfl) ?_
  refine⟨rfl,?_⟩;refine An he (by kernel_rfl) (by rfl) ?_;refine Hv (by decide+kernel) (by exact Yu hlen2) (by exact Sw hlen2 hyc2) fun d hd=>?_;refine rr hsp2 ?_;have hS5:=hS4.put (o:=.list ([mk (preAt (cl nm) j),mk (cl p.1++[61])].map .str)) (hS4.none hd);have hd5:put S4 d (.list ([mk (preAt (cl nm) j),mk (cl p.1++[61])].map .str)) d=some (.list ([mk (preAt (cl nm) j),mk (cl p.1++[61])].map .str)):=AC ..;have hrl5:put S4 d (.list ([mk (preAt (cl nm) j),mk (cl p.1++[61])].map .str)) rl=some (.list ((l.take j).map AI)):=(AA _ _ ((by first|exact As hrl4 hd|exact(As hd hrl4).symm))).trans hrl4;have hp5:put S4 d (.list ([mk (preAt (cl nm) j),mk (cl p.1++[61])].map .str)) pl=some (.list ((partsG (cl nm) l [] []).map .str)):=(AA _ _ ((by first|exact As hp4 hd|exact(As hd hp4).symm))).trans hp4;have hh5:put S4 d (.list ([mk (preAt (cl nm) j),mk (cl p.1++[61])].map .str)) hl0=some (.list ((nm::m0).map .str)):=(AA _ _ ((by first|exact As hh4 hd|exact(As hd hh4).symm))).trans hh4;revert hS5 hd5 hrl5 hp5 hh5;generalize put S4 d (.list ([mk (preAt (cl nm) j),mk (cl p.1++[61])].map .str))=S5;intro hS5 hd5 hrl5 hp5 hh5;refine Fg ?_;refine AS ?_;refine Db ?_;refine CJ (T:="list") (.inl ⟨_,hd5,rfl⟩) slot_list_getitem.lookup ?_ _ (fun _ _=>rfl);refine GT (.inl hd5) (x:=.str (mk (cl p.1++[61]))) rfl ?_;refine Bs ?_;refine Aj ?_;refine Az ?_;refine Fg ?_;refine AS ?_;refine Db ?_;refine Aj ?_;refine⟨_,_,_,rfl,rfl,rfl,?_⟩;refine CK (by refine rr (CR ..) (rr List.length_append (rr (Ai ..) ?_));have:=hpn.len;simp;exact dP this) ?_ _ (fun _ _=>rfl);refine rr (show Txt.slice (mk (cl p.1++[61])) none (some (-1))=p.1 from(Kh (A:=cl p.1) (c:=61) rfl).trans (ON _)) ?_;have kp2:=kp1.cons (x:="name") (v:=.str p.1) (by decide+kernel);refine AH ?_;refine Av he ?_;refine AY Al ?_;refine AB he (by kernel_rfl) ((kp2 "pairs" (by decide+kernel)).trans (by rfl)) ?_;refine⟨.inl ⟨_,hrl5,rfl⟩,?_⟩;refine Ah ?_;refine A0 he (by kernel_rfl) (by rfl) ?_;refine AK ?_;refine AL F.C7 F.C8 he (by kernel_rfl) ?_;refine Br ?_;refine AB he (by kernel_rfl) ((kp2 "parts" (by decide+kernel)).trans (by rfl)) ?_;refine AB he (by kernel_rfl) (by rfl) ?_;refine CJ (T:="list") (.inl ⟨_,hp5,rfl⟩) slot_list_getitem.lookup ?_ _ (fun _ _=>rfl)
  refine Dr (.inl hp5) (by exact Ze) (by lia) (x:=.str (DE p.2)) (by
   have e:((2*j+1:Nat):Int).toNat=2*j+1:=by exact aW
   refine rr e (rr List.getElem?_map (rr g2 ?_));rfl) ?_
  refine AE ?_;refine Ex F (Rl p.2) (by have:=Dv p.2;have:=hv p hpm;lia) fun S6 s6=>?_;refine AE ⟨ble rfl,?_⟩;refine AE ?_;refine Ar (s6 _ _ hrl5) (by exact rr (List.length_map ..) (rr List.length_take (WA hll hi hil))) ?_;refine AQ ?_;refine⟨j+1,rfl,by exact Sh hi hil,?_,(AA _ _ nrp.symm).trans (s6 _ _ hp5),(AA _ _ nrh.symm).trans (s6 _ _ hh5),kp2,(hS5.trans s6).put hrlS⟩;refine rr (AC ..) (rr List.take_add_one (rr hp (rr List.map_append ?_)));rfl
 ·rintro ρ S4 ⟨i,hr,hi,hrl4,hp4,hh4,hkp,hS4⟩
  have ei:i=l.length:=by
   have:=congrArg List.length hr;rw[List.length_range',List.length_nil]at this;exact aD hi this
  subst ei;rw[List.take_length]at hrl4;refine AQ ?_;refine Ae ?_;refine Ch ?_;refine Br ?_;refine AB he (by kernel_rfl) ((hkp "head" (by decide+kernel)).trans (by rfl)) ?_;refine AS ?_;refine CG (.inl hh4) (by decide) (by decide) (x:=.str nm) rfl ?_ _ (fun _ _=>rfl);refine AK ?_;refine Ap (id:="tuple") F.Gx he (by kernel_rfl) ?_;refine An he (by kernel_rfl) (Cv ((hkp "pairs" (by decide+kernel)).trans (by rfl)) (by rfl)) ?_;refine E0 hrl4 (lm (eB hll)) ?_;refine AE ⟨ble rfl,?_⟩;exact q _ hS4
end
theorem Ic(t:List Nat)(more:List Str):∀(l:List (Str×Str)) (pre:List Nat),l≠[]→∃q m,(partsG pre l t more).take (2*l.length)=q::m∧cl q++m.flatMap (fun y=>34::cl y)++[34]=pre++atsS l
 |[],_,h=>absurd rfl h
 |[p],pre,_=>⟨_,_,rfl,by
   show(pre++32::(cl p.1++[61]))++[DE p.2].flatMap (fun y=>34::cl y)++[34]=_
   simp[atsS,M3]⟩
 |p::p2::l,pre,_=>by
  obtain⟨q,m,e1,e2⟩:=Ic t more (p2::l) [] (fun e=>nomatch e);refine⟨mk (pre++32::(cl p.1++[61])),DE p.2::q::m,?_,?_⟩
  ·refine rl e1 ?_;rfl
  ·have h3:atsS (p::p2::l)=M3 p++atsS (p2::l):=rfl;refine rr h3 (rr List.flatMap_cons (rr List.flatMap_cons ?_));show(pre++32::(cl p.1++[61]))++(34::cl (DE p.2)++(34::(cl q++m.flatMap fun y=>34::cl y)))++[34]=_;rw[List.nil_append]at e2;refine rl e2 ?_;simp[M3]
theorem Kn(t:List Nat)(more:List Str)(l:List (Str×Str))(pre:List Nat):
  (Str.join ("\"":Str) ((partsG pre l t more).take (2*l.length))).length+(if 0<l.length then 1 else 0)+(preAt pre l.length).length=pre.length+(atsS l).length:=by
 by_cases h:l=[]
 ·subst h;refine rr List.length_nil (rr (Nat.mul_zero ..) (rr List.take_zero ?_));show 0+0+pre.length=pre.length+0;exact Ws
 ·obtain⟨q,m,e1,e2⟩:=Ic t more l pre h;have hp:0<l.length:=List.length_pos_iff.mpr h;refine rr (if_pos hp) (rr e1 (rr Lb (rl (Ai ..) (rr (FX ..) ?_))));have h2:=congrArg List.length e2;have h3:(preAt pre l.length).length=0:=by unfold preAt;refine rr (if_neg (by exact Z7 hp)) ?_;rfl
  refine rr h3 ?_;show(cl q++m.flatMap fun y=>34::cl y).length+1+0=_;simp only[List.length_append,List.length_singleton]at h2 ⊢;exact bG h2
theorem LZ(l:List (Str×Str))(t:List Nat)(more:List Str)(pre:List Nat)(hp:pre.length≤30)(hl:∀p∈l,p.1.length≤20∧p.2.length≤1000):∀q∈(partsG pre l t more).take (2*l.length),q.length≤9000:=by
 induction l generalizing pre with
 |nil=>intro q hq;rw[List.length_nil,Nat.mul_zero,List.take_zero]at hq;cases hq
 |cons p l ih=>
  obtain⟨h1,h2⟩:=hl p (.head _);intro q hq;have e:(partsG pre (p::l) t more).take (2*(p::l).length)=mk (pre++32::(cl p.1++[61]))::DE p.2::(partsG [] l t more).take (2*l.length):=rfl;rw[e]at hq;rcases List.mem_cons.mp hq with rfl|hq
  ·refine rr (CR ..) (rr List.length_append (rr List.length_cons (rr List.length_append (rr (Ai ..) ?_))));simp;exact aZ hp h1
  ·rcases List.mem_cons.mp hq with rfl|hq
   ·have:=Dv p.2;exact bK h2 this
   ·exact ih [] (Nat.zero_le _) (fun p hp=>hl p (.tail _ hp)) q hq
section
variable{c:Cx}{n:Nat}{S:AD}{Q:AV→AD→Prop}
inductive Yo(l:List (Str×Str))(S1:Addr→Option AO)(M:Nat)(ρ0:AJ)(r:List Nat)(ρ:AJ)(S':AD):Prop
 |mk (i) (h0:r=List.range' i (M-i)) (h1:i≤l.length) (h2:S'=S1) (h3:Kp ["number"] ρ ρ0)
set_option maxHeartbeats 4000000 in
theorem Jj(F:Af c.K){x nm:Str}{l:List (Str×Str)}{A R:List Nat}(hx:cl x=A++60::(cl nm++atsS l++62::R))(hnm:L5 nm)(hl:∀p∈l,L5 p.1)(hv:∀p∈l,p.2.length≤1000)(hll:l.length≤20)(hxl:x.length≤8000)
  (q:∀S',A9 S S'→Q (.int (A.length+1+nm.length+(atsS l).length+1:Nat)) S'):AM c (n+1) (.ref 595) [.str x,.int (A.length:Nat)] S Q:=by
 obtain⟨t,more,ht,hm,hr⟩:=NA (62::R)
 obtain⟨t',rfl⟩:∃t',t=62::t':=by
  cases t with
  |nil=>
   exfalso
   cases more with
   |nil=>cases hr
   |cons q m=>rw[List.nil_append,List.flatMap_cons]at hr;injection hr with h1 _;exact absurd h1 (by decide)
  |cons a t'=>rw[List.cons_append]at hr;injection hr with h1 _;subst h1;exact⟨t',rfl⟩
 have hsl:Txt.slice x (some ((A.length:Nat):Int)) none=mk (60::(cl nm++atsS l++62::R)):=C2 hx rfl
 have hp34:34∉60::cl nm:=by
  have:=hnm.no (k:=34) (by exact UF);simp[this]
 have hsp:Txt.split (mk (60::(cl nm++atsS l++62::R))) ("\"":Str)=partsG (60::cl nm) l (62::t') more:=by
  refine rr Lb ?_;refine K3 hl ht hm hp34 ?_;show 60::(cl nm++atsS l++62::R)=_;refine rr hr ?_;simp
 have hyl:(mk (60::(cl nm++atsS l++62::R))).length≤x.length:=by exact rl hsl (PyProof.Txt.length_slice_le x _ _)
 have hyc:=JL (mk (60::(cl nm++atsS l++62::R))) ("\"":Str);have hpl:(partsG (60::cl nm) l (62::t') more).length=2*l.length+1+more.length:=J4 ..
 have hplx:(partsG (60::cl nm) l (62::t') more).length≤8002:=by
  refine rl hsp ?_;unfold Txt.split;split
  ·exact Nat.le_of_ble_eq_true rfl
  ·split
   ·exact Nat.le_of_ble_eq_true rfl
   ·exact be hxl hyl hyc
 refine(AP F.Gd (names:=["text","at"]) (by kernel_rfl) (fun _ _ _ _ _ _ _ _ s g=>.of_eq (by kernel_rfl)) (by decide+kernel) rfl (by kernel_rfl) ?_).call;intro L env hc he;refine Aa he (by kernel_rfl) ?_;refine AY GL ?_;refine Hk he (by kernel_rfl) (by rfl) ?_;refine Az ?_;refine AB he (by kernel_rfl) (by rfl) ?_;refine Aj ?_;refine Aj ?_;refine⟨_,_,_,rfl,rfl,rfl,?_⟩;refine CK (by exact Ij hxl) ?_ _ (fun _ _=>rfl);refine rr hsl ?_;refine⟨rfl,?_⟩;refine An he (by kernel_rfl) (by rfl) ?_;refine Hv (by decide+kernel) (by exact bv hxl hyl) (by exact aR hxl hyl hyc) fun pl hpl0=>?_;refine rr hsp ?_;have hS1:A9 S (put S pl (.list ((partsG (60::cl nm) l (62::t') more).map .str))):=(A9.refl S).put hpl0;have hp1:put S pl (.list ((partsG (60::cl nm) l (62::t') more).map .str)) pl=some (.list ((partsG (60::cl nm) l (62::t') more).map .str)):=AC ..;revert hS1 hp1;refine Dh (put S pl (.list ((partsG (60::cl nm) l (62::t') more).map .str)):AD) ?_;intro S1;intro hS1 hp1;refine AH ?_;refine CF ?_;refine Ap (id:="range") F.Fl he (by kernel_rfl) ?_;refine G2 ?_;refine AK ?_;refine BT (id:="len") F.Ej he (by kernel_rfl) ?_;refine An he (by kernel_rfl) (by rfl) ?_;refine DA (.inl hp1) (lm (aT hpl hplx)) ?_;refine rr (List.length_map ..) ?_;refine An he (by kernel_rfl) (by rfl) ?_;refine M0 (by decide) (PyProof.noPylong_small (by decide)) ?_;refine⟨_,_,Uh (by exact Z4 hpl hplx),?_⟩;refine PR (((partsG (60::cl nm) l (62::t') more).length+1)/2) ?_;intro M hM;have hMk:l.length<M:=by exact rl hM (rr hpl Wf)
 refine A7 (f:=fun i=>natV (2*i)) (Yo l S1 M _)
  (fun _ _ _ _=>trivial) ?_ ?_ _ _ _ ⟨0,by exact rr (Nat.sub_zero ..) (rr List.range_eq_range' rfl),Nat.zero_le _,rfl,Kp.refl _ _⟩
 rotate_left
 ·rintro ρ _ ⟨i,hr2,hi,rfl,hkp⟩;have:=congrArg List.length hr2;rw[List.length_range',List.length_nil]at this;exact absurd this (Nat.ne_of_lt (Nat.sub_pos_of_lt (Nat.lt_of_le_of_lt hi hMk)))
 rintro j r ρ S4 ⟨i,hr2,hi,rfl,hkp⟩
 have ej:j=i∧r=List.range' (i+1) (M-(i+1)):=by
  rw[show M-i=(M-(i+1))+1 by exact br hM hMk hi,List.range'_succ]at hr2
  injection hr2 with h1 h2
  exact⟨h1,h2⟩
 obtain⟨rfl,rfl⟩:=ej;refine BA he (by kernel_rfl) ?_;have kp1:=hkp.cons (x:="number") (v:=natV (2*j)) (by decide+kernel)
 obtain⟨y,hy,hyin⟩:∃y,(partsG (60::cl nm) l (62::t') more)[2*j]?=some y∧((j<l.length∧62∉cl y)∨(j=l.length∧cl y=preAt (60::cl nm) l.length++62::t')):=by
  by_cases hjl:j<l.length
  ·obtain⟨p,hp⟩:∃p,l[j]?=some p:=⟨_,List.getElem?_eq_getElem hjl⟩
   refine⟨_,(GH _ _ l (60::cl nm) j p hp).1,.inl ⟨hjl,?_⟩⟩;have h1:=(hl p (List.mem_of_getElem? hp)).no (k:=62) (by exact Q6);have h2:62∉preAt (60::cl nm) j:=HB j (by have:=hnm.no (k:=62) (by exact Q6);simp[this]);show 62∉preAt (60::cl nm) j++32::(cl p.1++[61]);simp[h1,h2]
  ·have:j=l.length:=by exact Z1 hi hjl
   subst this;exact⟨_,IY _ _ l (60::cl nm),.inr ⟨rfl,rfl⟩⟩
 refine BC ?_;refine AT ?_;refine JC he (by kernel_rfl) ((kp1 "parts" (by decide+kernel)).trans (by rfl)) ?_;refine AB he (by kernel_rfl) (by rfl) ?_;refine CJ (T:="list") (.inl ⟨_,hp1,rfl⟩) slot_list_getitem.lookup ?_ _ (fun _ _=>rfl)
 have hitem:((partsG (60::cl nm) l (62::t') more).map AV.str)[((2*j:Nat):Int).toNat]?=some (.str y):=by
  have e:((2*j:Nat):Int).toNat=2*j:=by exact Vc
  refine rr e (rr List.getElem?_map (rr hy ?_));rfl
 have hjM:j<M:=by exact bu hM hMk hi
 refine Dr (.inl hp1) (by exact Sy) (by lia) hitem ?_;refine Nf ⟨_,rfl,?_⟩;have hin:PP (">":Str) y=decide (62∈cl y):=by exact rr Ql (rr (JI ..) rfl)
 refine rr hin ?_;refine⟨fun hb=>?_,fun hb=>?_⟩
 ·rcases hyin with⟨_,hno⟩|⟨hjl,hcy⟩
  ·exact absurd (of_decide_eq_true hb) hno
  subst hjl;have hJ:=Kn (62::t') more l (60::cl nm);have hno:62∉preAt (60::cl nm) l.length:=HB _ (by have:=hnm.no (k:=62) (by exact Q6);simp[this]);obtain⟨rst,hocc⟩:=Ey (A:=[]) (B:=preAt (60::cl nm) l.length) (C:=t') (c:=62) (by refine rr hcy ?_;rfl) hno;have hnl:=hnm.len
  have hatl:(atsS l).length≤x.length:=by
   have:=congrArg List.length hx;rw[List.length_append,List.length_cons,List.length_append,List.length_append,Ai]at this;exact bf this
  refine Ae ?_;refine Ab ?_;refine Ab ?_;refine Ab ?_;refine JD he (by kernel_rfl) ((kp1 "at" (by decide+kernel)).trans (by rfl)) ?_;refine BT (id:="len") F.Ej he (by kernel_rfl) ?_;refine AK ?_;refine AY Hp ?_ (by intro _ e;subst e;rfl) (by kernel_rfl);refine AT ?_;refine⟨rfl,?_⟩;refine Br ?_;refine AB he (by kernel_rfl) ((kp1 "parts" (by decide+kernel)).trans (by rfl)) ?_;refine Bs ?_;refine Aj ?_;refine Az ?_;refine AB he (by kernel_rfl) (by rfl) ?_;refine Aj ?_;refine⟨_,_,_,rfl,rfl,rfl,?_⟩;refine CJ (T:="list") (.inl ⟨_,hp1,rfl⟩) slot_list_getitem.lookup ?_ _ (fun _ _=>rfl);refine MG hp1 (lm (X5 hpl hplx)) fun ul hul=>?_;refine rl List.map_take ?_;have hsm:=LZ l (62::t') more (60::cl nm) (by exact rr List.length_cons (rr (Ai ..) (Zx hnl))) (fun p hp=>⟨(hl p hp).len,hv p hp⟩);have htl:((partsG (60::cl nm) l (62::t') more).take (2*l.length)).length≤40:=by exact rr List.length_take (Z2 hll hpl)
  have eqj:Txt.join ("\"":Str) ((partsG (60::cl nm) l (62::t') more).take (2*l.length))=Str.join ("\"":Str) ((partsG (60::cl nm) l (62::t') more).take (2*l.length)):=StrLaws.glued_eq_join _ _
  have hjl:(Str.join ("\"":Str) ((partsG (60::cl nm) l (62::t') more).take (2*l.length))).length≤60+x.length:=by
   have:(60::cl nm).length≤30:=by exact rr List.length_cons (rr (Ai ..) (Zx hnl))
   exact X2 hJ hatl this
  refine AE ?_;refine KE (AC ..) (Jf (m:=9001) (by exact bg htl) fun s hs=>by have:=hsm s hs;exact rr (show("\"":Str).length=1 by decide+kernel) (Vq this)) ?_;refine rr eqj ?_;refine AE ?_;refine OQ (by exact Xw hxl hjl) ?_;refine BE ?_;refine Ap (id:="int") F.Ec he (by kernel_rfl) ?_;refine AK ?_;refine Dt ?_;refine AB he (by kernel_rfl) (by rfl) ?_;refine AS ?_;refine Ls ?_;refine AE ?_;refine JM ?_;refine BE ?_;refine AY E3 ?_;refine JC he (by kernel_rfl) ((kp1 "parts" (by decide+kernel)).trans (by rfl)) ?_;refine AB he (by kernel_rfl) (by rfl) ?_;have hp2:put S4 ul (.list (((partsG (60::cl nm) l (62::t') more).take (2*l.length)).map .str)) pl=some (.list ((partsG (60::cl nm) l (62::t') more).map .str)):=(AA _ _ ((by first|exact As hp1 hul|exact(As hul hp1).symm))).trans hp1;refine CG (.inl hp2) (by exact Sy) (by lia) hitem ?_ _ (fun _ _=>rfl);refine⟨rfl,?_⟩;refine An he (by kernel_rfl) (by rfl) ?_;refine Rf (by exact rr Ql hocc) ?_;refine BE ?_;refine AS ?_;refine BE ?_
  have key:((A.length:Int)+((Str.join ("\"":Str) ((partsG (60::cl nm) l (62::t') more).take (2*l.length))).length:Nat)+(if decide ((0:Int)<(2*l.length:Nat))=true then 1 else 0)+(([]:List Nat).length+(preAt (60::cl nm) l.length).length:Nat)+1)=((A.length+1+nm.length+(atsS l).length+1:Nat):Int):=by
   rw[List.length_cons,Ai]at hJ;by_cases h0:0<l.length
   ·rw[if_pos h0]at hJ;exact rr (if_pos (decide_eq_true (by exact ci h0))) (rr List.length_nil (bz hJ))
   ·rw[if_neg h0]at hJ;exact rr (if_neg (by exact fun w=>h0 (Nat.pos_of_ne_zero (fun z=>Nat.ne_of_gt (Int.ofNat_lt.mp (of_decide_eq_true w)) (z▸rfl))))) (rr List.length_nil (Zo hJ))
  have q':=q _ (hS1.put (o:=.list (((partsG (60::cl nm) l (62::t') more).take (2*l.length)).map .str)) (hS1.none hul));rw[←key]at q';exact q'
 ·rcases hyin with⟨hjl,hno⟩|⟨hjl,hcy⟩
  ·refine Ad ?_;exact⟨j+1,rfl,by exact Sh hi hjl,rfl,kp1⟩
  ·exact absurd (by refine rr hcy ?_;simp) (of_decide_eq_false hb)
end
theorem NW{x:Str}{A B:List Nat}(m:Nat)(hx:cl x=A++B){i j:Int}(hi:i=A.length)(hj:j=(A.length+m:Nat)):Txt.slice x (some i) (some j)=mk (B.take m):=by
 by_cases h:m≤B.length
 ·refine CD (A:=A) (B:=B.take m) (C:=B.drop m) (by exact rr (List.take_append_drop ..) hx) hi ?_;exact rr hj (rr List.length_take (rr (Nat.min_eq_left h) rfl))
 ·have hl:=congrArg List.length hx;rw[Ai,List.length_append]at hl
  have e:Txt.slice x (some i) (some j)=Txt.slice x (some i) none:=by
   show StrLaws.sliceText x _ _=StrLaws.sliceText x _ _;unfold StrLaws.sliceText
   have e2:Builtin.Str.strSliceIndices (some i) (some j) 1 x.length=Builtin.Str.strSliceIndices (some i) none 1 x.length:=by
    refine rr (StrLaws.sliceIdx_none_hi ..) ?_;have a1:¬(j<0):=by exact cx hj
    have a3:min j (x.length:Int)=x.length:=by exact cu hj h hl
    have a2:¬((x.length:Int)<0):=by exact WN hl
    simp[Builtin.Str.strSliceIndices,a1,a2,a3]
   exact rr e2 rfl
  exact rr e (rr (C2 hx hi) (rr (List.take_of_length_le (by exact Zh h)) rfl))
theorem JV{x:Str}{A r:List Nat}{d:Nat}(hx:cl x=A++d::r):seqIndex? (A.length:Int) x.length=some A.length∧x.cps[A.length]?=some d:=by
 have hl:=congrArg List.length hx;rw[Ai,List.length_append,List.length_cons]at hl;refine⟨(StrLaws.seqIndex_nonneg (by exact Mj) (by exact X7 hl)).trans (by exact rr (Int.toNat_natCast ..) rfl),?_⟩;refine rl Array.getElem?_toList ?_;show(cl x)[A.length]?=_;refine rr hx (rr (List.getElem?_append_right (Nat.le_refl _)) (rr (Nat.sub_self ..) ?_));rfl
theorem Gs(k:Nat):He k≠[]∧60∉He k∧13∉He k∧62∉He k:=by
 unfold He;by_cases h1:k=38
 ·subst h1;decide
 by_cases h2:k=60
 ·subst h2;decide
 by_cases h3:k=62
 ·subst h3;decide
 by_cases h4:k=13
 ·subst h4;decide
 simp[h1,h2,h3,h4];exact⟨fun e=>h2 e.symm,fun e=>h4 e.symm,fun e=>h3 e.symm⟩
theorem II(v:Str):60∉cl (Cw v)∧13∉cl (Cw v)∧62∉cl (Cw v):=by
 refine rr (CO ..) ?_;simp only[List.mem_flatMap,not_exists,not_and];exact⟨fun k _=>(Gs k).2.1,fun k _=>(Gs k).2.2.1,fun k _=>(Gs k).2.2.2⟩
theorem R1{v:Str}(h:cl v≠[]):cl (Cw v)≠[]:=by
 refine rr (CO ..) ?_
 cases w:cl v with
 |nil=>exact absurd w h
 |cons a r=>
  refine rr List.flatMap_cons ?_;exact fun e=>(Gs a).1 (List.append_eq_nil_iff.mp e).1
noncomputable def EH:Ev→List Nat
 |.st n a=>60::(cl n++atsS a++[62])
 |.en n=>60::47::(cl n++[62])
 |.tx s=>cl (Cw s)
 |.cm s=>60::33::45::45::(cl s++[45,45,62])
 |.pi _ _=>[]
noncomputable def PB:Ev→Bool
 |.tx _=>true
 |_=>false
noncomputable def Us:Ev→Prop
 |.st n a=>L5 n∧(∀p∈a,L5 p.1)∧(∀p∈a,p.2.length≤1000)∧a.length≤20
 |.en n=>L5 n
 |.tx s=>cl s≠[]∧s.length≤1000
 |.cm s=>s=(" k ":Str)
 |.pi _ _=>False
noncomputable def Ts:List Ev→Prop
 |[]=>False
 |e::_=>PB e=false
noncomputable def Gz:List Ev→Prop
 |[]=>True
 |e::r=>Us e∧(PB e=true→Ts r)∧Gz r
theorem Ll{e:Ev}(h:Us e)(ht:PB e=false):∃r,EH e=60::r:=by
 cases e with
 |st n a=>exact⟨_,rfl⟩
 |en n=>exact⟨_,rfl⟩
 |tx s=>cases ht
 |cm s=>exact⟨_,rfl⟩
 |pi t d=>exact h.elim
theorem V4{e:Ev}(h:Us e):EH e≠[]:=by
 cases ht:PB e with
 |false=>obtain⟨r,e⟩:=Ll h ht;exact rr e (fun w=>nomatch w)
 |true=>
  cases e with
  |tx s=>exact R1 h.1
  |st _ _=>cases ht
  |en _=>cases ht
  |cm _=>cases ht
  |pi _ _=>cases ht
theorem Rs{n:Str}{a:List (Str×Str)}(h:L5 n):∃pre lst,60::(cl n++atsS a)=pre++[lst]∧lst≠47:=by
 rcases List.eq_nil_or_concat a with rfl|⟨a',q,rfl⟩
 ·rcases List.eq_nil_or_concat (cl n)with e|⟨n',k,e⟩
  ·exact absurd e h.ne
  ·refine⟨60::n',k,by refine rr e ?_;simp[atsS],fun w=>?_⟩;have:=h.ok k (by refine rr e ?_;simp);exact dK w this
 ·refine⟨60::(cl n++atsS a'++32::(cl q.1++61::34::cl (DE q.2))),34,?_,by decide⟩;simp[atsS,M3]
theorem ZS:("<":Str)=mk [60]:=by decide+kernel
theorem UD:("<!--":Str)=mk [60,33,45,45]:=by decide+kernel
theorem Ui:("-->":Str)=mk [45,45,62]:=by decide+kernel
theorem Th:("?":Str)=mk [63]:=by decide+kernel
theorem TW:("/":Str)=mk [47]:=by decide+kernel
theorem bX:(" k ":Str)=mk [32,107,32]:=by decide+kernel
theorem HI{a b:List Nat}(h:mk a=mk b):a=b:=congrArg cl h
theorem IV{p:Prop}[Decidable p](h:(!decide p)=true):¬p:=by simpa using h
theorem Ub{p:Prop}[Decidable p](h:(!decide p)=false):p:=by simpa using h
section
variable{c:Cx}{n:Nat}{S:AD}{Q:AV→AD→Prop}
inductive Su(S:AD)(x:Str)(l:List Ev)(ρ0:AJ)(k:Nat)(ρ:AJ)(S':AD):Prop
 |mk (done l2:List Ev) (A:List Nat) (fl:Addr) (h0:done++l2=l) (h1:k=l2.length) (h2:cl x=A++l2.flatMap EH) (h3:Gz l2) (h4:AG ρ "at"=some (.int (A.length:Nat))) (h5:AG ρ "found"=some (.ref fl)) (h6:S' fl=some (.list (done.map Fd))) (h7:S fl=none) (h8:A9 S S') (h9:Kp ["found","at","end","words","is_empty","name","pairs"] ρ ρ0)
theorem Q1{e:Ev}(h:PB e=true):∃s,e= .tx s:=by
 cases e with
 |tx s=>exact⟨s,rfl⟩
 |_=>cases h
set_option maxHeartbeats 8000000 in
theorem G1(F:Af c.K){x:Str}{l:List Ev}(hx:cl x=l.flatMap EH)(hg:Gz l)(hll:l.length≤500)(hxl:x.length≤8000)(q:∀S' d,A9 S S'→S d=none→S' d=some (.list (l.map Fd))→Q (.ref d) S'):AM c (n+3) (.ref 602) [.str x] S Q:=by
 refine(AP F.G8 (names:=["text"]) (by kernel_rfl) (fun _ _ _ _ _ _ _ _ s g=>.of_eq (by kernel_rfl)) (by decide+kernel) rfl (by kernel_rfl) ?_).call;intro L env hc he;refine AH ?_;refine Ds (BB he (by with_unfolding_all rfl)) ?_;refine Ch ?_;refine AK ?_;refine Aw ?_;refine AE ⟨ble rfl,fun f0 hf0=>?_⟩;refine An he (by kernel_rfl) (by rfl) ⟨ble rfl,?_⟩;refine⟨_,rfl,rfl,DC he (by kernel_rfl) (DC he (by kernel_rfl) (BR ?_))⟩;refine AH ?_
 refine JN (Su S x l _) l.length
  ⟨[],l,[],f0,rfl,rfl,hx,hg,by rfl,by rfl,AC ..,hf0,(A9.refl S).put hf0,Kp.refl _ _⟩ ?_
 rintro k ρ S2 ⟨done,l2,A,fl,hdl,rfl,hxA,hg2,hat,hfnd,hfl,hflS,hS2,hkp⟩;have hlx:A.length+(l2.flatMap EH).length=x.length:=by exact rl (Ai ..) (rr hxA (rr List.length_append rfl))
 have hdn:done.length+l2.length≤500:=by exact rl List.length_append (rr hdl hll)
 refine N0 he (by kernel_rfl) hat ?_;refine BT (id:="len") F.Ej he (by kernel_rfl) ?_;refine An he (by kernel_rfl) (Cv ((hkp "text" (by decide+kernel)).trans (by rfl)) (by rfl)) ?_;refine OQ (by exact Ij hxl) ?_;refine HL ⟨_,rfl,?_⟩
 cases l2 with
 |nil=>
  rw[List.append_nil]at hdl;subst hdl;refine⟨fun hb=>?_,fun hb=>?_⟩
  ·have:=of_decide_eq_true hb;rw[List.flatMap_nil,List.length_nil]at hlx;exact(Nat.lt_irrefl _ (Nat.lt_of_lt_of_eq (Int.ofNat_lt.mp this) hlx.symm)).elim
  ·refine AQ ?_;refine Ae ?_;refine AB he (by kernel_rfl) hfnd ?_;exact q _ _ hS2 hflS hfl
 |cons e r=>
 obtain⟨hok,htx,hgr⟩:=hg2;have hne:=V4 hok;rw[List.flatMap_cons]at hxA;rw[List.flatMap_cons,List.length_append]at hlx;rw[List.length_cons]at hdn;have hkl:0<(EH e).length:=List.length_pos_iff.mpr hne;refine⟨fun hb=>?_,fun hb=>absurd (Int.ofNat_lt.mpr (Nat.lt_of_lt_of_eq (Nat.lt_add_of_pos_right (Nat.add_pos_left hkl _)) hlx)) (of_decide_eq_false hb)⟩;clear hb;have hnext:cl x=(A++EH e)++r.flatMap EH:=by exact rr hxA (rr (List.append_assoc ..) rfl)
 have hsmall:∀a:Nat,a≤8100→(decide ((a:Int)< -(2^63:Int))||decide ((a:Int)≥2^63))=false:=by
  intro a ha;rw[Bool.or_eq_false_iff];exact⟨decide_eq_false (fun w=>absurd (Int.lt_of_le_of_lt (Int.natCast_nonneg a) w) (by decide)),decide_eq_false (fun w=>absurd (Int.le_trans w (Int.ofNat_le.mpr ha)) (by decide))⟩
 have again:∀(ρ':AJ) (S':AD) (fl':Addr) (k':Nat),k'=r.length→AG ρ' "at"=some (.int ((A++EH e).length:Nat))→AG ρ' "found"=some (.ref fl')→S' fl'=some (.list ((done++[e]).map Fd))→S fl'=none→A9 S S'→
   Kp ["found","at","end","words","is_empty","name","pairs"] ρ' ((("found":Str),AV.ref f0)::(("at":Str),AV.int 0)::[("text":Str)].zip [AV.str x])→
   ∃m,m<(e::r).length∧Su S x l ((("found":Str),AV.ref f0)::(("at":Str),AV.int 0)::[("text":Str)].zip [AV.str x]) m ρ' S':=
  fun ρ' S' fl' k' _ h1 h2 h3 h4 h5 h6=>⟨r.length,Nat.lt_succ_self _,done++[e],r,A++EH e,fl',by refine rl hdl ?_;simp,rfl,hnext,hgr,h1,h2,h3,h4,h5,h6⟩
 obtain⟨d0,t0,hd0⟩:∃d0 t0,EH e=d0::t0:=by
  cases w:EH e with
  |nil=>exact absurd w hne
  |cons a b=>exact⟨a,b,rfl⟩
 have hx0:cl x=A++d0::(t0++r.flatMap EH):=by refine rr hxA (rr hd0 ?_);rfl
 obtain⟨i1,i2⟩:=JV hx0;have hA8:A.length≤8000:=by exact bj hxl hlx hkl
 refine BC ?_;refine JC he (by kernel_rfl) ((hkp "text" (by decide+kernel)).trans (by rfl)) ?_;refine AB he (by kernel_rfl) hat ?_;refine CE ?_ _ (fun _ _=>rfl);refine DH i1 i2 (hsmall _ (by exact bN hA8)) ?_;refine AT ?_;refine rr ZS ?_;refine Bl ⟨_,rfl,?_⟩
 cases ht:PB e with
 |true=>
  obtain⟨s,rfl⟩:=Q1 ht;obtain⟨f60,f13,f62⟩:=II s;have hd60:d0≠60:=fun w=>f60 (by have:cl (Cw s)=d0::t0:=hd0;exact rr this (rr w (.head _)));refine⟨fun _=>?_,fun hb=>absurd (HI (Ub hb)) (fun w=>by injection w with w _;exact hd60 w)⟩
  obtain⟨e2,r2,hr,hr60⟩:∃r60 C,r.flatMap EH=60::C∧r60=(60:Nat):=by
   have:=htx rfl
   cases r with
   |nil=>exact this.elim
   |cons e2 r2=>
    obtain⟨t2,ht2⟩:=Ll hgr.1 this;exact⟨60,t2++r2.flatMap EH,by refine rr List.flatMap_cons (rr ht2 ?_);rfl,rfl⟩
  have hx1:cl x=A++(cl (Cw s)++60::r2):=by refine rr hxA (rr hr ?_);rfl
  obtain⟨rst,ho⟩:=Ey hx1 f60;have hlen:(cl (Cw s)).length=(EH (.tx s)).length:=rfl;refine Aa he (by kernel_rfl) ?_;refine Ok.val (.int (A.length+(cl (Cw s)).length:Nat)) ?_ ?_
  ·refine Dz ?_;refine Ck ?_;refine AT ?_;refine Hk he (by kernel_rfl) ((hkp "text" (by decide+kernel)).trans (by rfl)) ?_;refine Az ?_;refine AB he (by kernel_rfl) hat ?_;refine Aj ?_;refine Aj ?_;refine⟨_,_,_,rfl,rfl,rfl,?_⟩;refine CK (by exact Ij hxl) ?_ _ (fun _ _=>rfl);refine rr (C2 hx1 rfl) ?_;refine Nf ⟨_,rfl,?_⟩;refine rr (JI ..) ?_;refine⟨fun _=>?_,fun hb=>absurd (by simp) (of_decide_eq_false hb)⟩;refine AY E3 ?_;refine AB he (by kernel_rfl) ((hkp "text" (by decide+kernel)).trans (by rfl)) ?_;refine⟨rfl,?_⟩;refine An he (by kernel_rfl) (PN (by rfl) (Cv hat (by rfl))) ?_;refine GD ho ⟨rfl,rfl,rfl⟩
  have kp1:=hkp.cons (x:="end") (v:=.int (A.length+(cl (Cw s)).length:Nat)) (by decide+kernel);replace hat:=AR (x:="end") (v:=.int (A.length+(cl (Cw s)).length:Nat)) hat (by decide+kernel);replace hfnd:=AR (x:="end") (v:=.int (A.length+(cl (Cw s)).length:Nat)) hfnd (by decide+kernel);refine AH ?_;refine Av he ?_;refine AY Al ?_;refine AB he (by kernel_rfl) hfnd ?_;refine⟨.inl ⟨_,hfl,rfl⟩,?_⟩;refine Ah ?_;refine Ac ?_;refine AK ?_;refine AL F.C7 F.C8 he (by kernel_rfl) ?_;refine Br ?_;refine AB he (by kernel_rfl) ((kp1 "text" (by decide+kernel)).trans (by rfl)) ?_;refine Bs ?_;refine Az ?_;refine AB he (by kernel_rfl) hat ?_;refine Az ?_;refine AB he (by kernel_rfl) (by rfl) ?_;refine Aj ?_;refine⟨_,_,_,rfl,rfl,rfl,?_⟩;refine CK (by exact Ij hxl) ?_ _ (fun _ _=>rfl);refine rr (CD hx1 rfl rfl) ?_;refine AE ?_;refine Ex F (v:=s) (Rw s) (by exact rr (CR ..) (Vg hxl hlx hlen)) fun S3 s3=>?_;refine AE ⟨ble rfl,?_⟩;refine AE ?_;refine Ar (s3 _ _ hfl) (lm (Qj hdn)) ?_;refine AQ ?_;refine Aa he (by kernel_rfl) ?_;refine AB he (by kernel_rfl) (by rfl) ?_;refine AQ ?_;refine again _ _ fl _ rfl ?_ ?_ ?_ hflS ?_ ?_
  ·refine rr List.length_append ?_;rfl
  ·exact AR hfnd (by decide+kernel)
  ·refine rr (AC ..) (rr List.map_append ?_);rfl
  ·exact(hS2.trans s3).put hflS
  ·exact kp1.cons (by decide+kernel)
 |false=>
  obtain⟨t0',hd60⟩:=Ll hok ht;have hd06:d0=60:=by rw[hd0]at hd60;injection hd60
  subst hd06;refine⟨fun hb=>absurd rfl (IV hb),fun _=>?_⟩;refine BC ?_;refine Hk he (by kernel_rfl) ((hkp "text" (by decide+kernel)).trans (by rfl)) ?_;refine Az ?_;refine AB he (by kernel_rfl) hat ?_;refine Az ?_;refine JD he (by kernel_rfl) hat ?_;refine AS ?_;refine BE ?_;refine Aj ?_;refine⟨_,_,_,rfl,rfl,rfl,?_⟩;refine CK (by exact Ij hxl) ?_ _ (fun _ _=>rfl);refine rr (NW 4 hx0 (by exact VA) (by exact ZF)) ?_;refine AT ?_;refine rr UD ?_;refine AZ ⟨_,rfl,?_⟩;clear hne hkl htx hxA hnext
  cases e with
  |tx _=>cases ht
  |pi _ _=>exact hok.elim
  |cm s=>
  have hs:s=(" k ":Str):=hok;subst hs;have ht0:t0=[33,45,45,32,107,32,45,45,62]:=by rw[bX]at hd0;injection hd0 with _ h;exact h.symm
  subst ht0;refine⟨fun _=>?_,fun hb=>absurd rfl (of_decide_eq_false hb)⟩;have hx1:cl x=A++([60,33,45,45,32,107,32]++45::45::62::r.flatMap EH):=hx0;have hx2:cl x=(A++[60,33,45,45])++([32,107,32]++45::45::62::r.flatMap EH):=by refine rr hx0 ?_;simp
  obtain⟨rst,ho⟩:=MR (y:=mk [45,45,62]) (by decide) hx1 ⟨r.flatMap EH,rfl⟩ (by
   intro k hk ⟨t,ht⟩
   rcases(by decide:∀n,n<7→n=0∨n=1∨n=2∨n=3∨n=4∨n=5∨n=6) k hk with rfl|rfl|rfl|rfl|rfl|rfl|rfl<;>cases ht)
  have hte:(EH (.cm (" k ":Str))).length=10:=by decide+kernel
  refine Aa he (by kernel_rfl) ?_;refine Ab ?_;refine AY E3 ?_;refine AB he (by kernel_rfl) ((hkp "text" (by decide+kernel)).trans (by rfl)) ?_;refine⟨rfl,?_⟩;refine An he (by kernel_rfl) (PN (by rfl) (Cv hat (by rfl))) ?_;refine rr Ui ?_;refine GD ho ?_;refine AS ?_;refine BE ?_;have e10:((A.length+([60,33,45,45,32,107,32]:List Nat).length:Nat):Int)+3=((A.length+10:Nat):Int):=by simp;exact Vv
  refine rr e10 ?_;have kp1:=hkp.cons (x:="end") (v:=.int (A.length+10:Nat)) (by decide+kernel);replace hat:=AR (x:="end") (v:=.int (A.length+10:Nat)) hat (by decide+kernel);replace hfnd:=AR (x:="end") (v:=.int (A.length+10:Nat)) hfnd (by decide+kernel);refine AH ?_;refine Av he ?_;refine AY Al ?_;refine AB he (by kernel_rfl) hfnd ?_;refine⟨.inl ⟨_,hfl,rfl⟩,?_⟩;refine Ah ?_;refine Ac ?_;refine Br ?_;refine AB he (by kernel_rfl) ((kp1 "text" (by decide+kernel)).trans (by rfl)) ?_;refine Bs ?_;refine Az ?_;refine JD he (by kernel_rfl) hat ?_;refine AS ?_;refine BE ?_;refine Az ?_;refine JD he (by kernel_rfl) (by rfl) ?_;refine AS ?_;refine Ff ?_;refine Aj ?_;refine⟨_,_,_,rfl,rfl,rfl,?_⟩;refine CK (by exact Ij hxl) ?_ _ (fun _ _=>rfl);refine rr (CD hx2 (by simp[Str.length]<;>lia) (by simp[Str.length]<;>exact XW)) (rl bX ?_);refine AE ⟨ble rfl,?_⟩;refine AE ?_;refine Ar hfl (lm (Qj hdn)) ?_;refine Ad ?_;refine Aa he (by kernel_rfl) ?_;refine AB he (by kernel_rfl) (by rfl) ?_;refine AQ ?_;refine again _ _ fl _ rfl ?_ ?_ ?_ hflS ?_ ?_
  ·refine rr List.length_append (rr hte ?_);rfl
  ·exact AR hfnd (by decide+kernel)
  ·refine rr (AC ..) (rr List.map_append ?_);rfl
  ·exact hS2.put hflS
  ·exact kp1.cons (by decide+kernel)
  |en n=>
  have ht0:t0=47::(cl n++[62]):=by injection hd0 with _ h;exact h.symm
  subst ht0;refine⟨fun hb=>absurd (HI (of_decide_eq_true hb)) (fun w=>by cases w),fun _=>?_⟩;have hx1:cl x=(A++[60])++47::(cl n++[62]++r.flatMap EH):=by refine rr hx0 ?_;simp
  have hx2:cl x=A++((60::47::cl n)++62::r.flatMap EH):=by refine rr hx0 ?_;simp
  have hx3:cl x=(A++[60,47])++(cl n++62::r.flatMap EH):=by refine rr hx0 ?_;simp
  have hn62:62∉60::47::cl n:=by have:=L5.no hok (k:=62) (by exact Q6);simp[this]
  obtain⟨rst,ho⟩:=Ey hx2 hn62;have hte:(EH (.en n)).length=n.length+3:=by show(60::47::(cl n++[62])).length=_;simp[Str.length]
  obtain⟨j1,j2⟩:=JV hx1;have eA1:((A.length:Nat):Int)+1=((A++[60]).length:Nat):=by simp
  refine BC ?_;refine JC he (by kernel_rfl) ((hkp "text" (by decide+kernel)).trans (by rfl)) ?_;refine JD he (by kernel_rfl) hat ?_;refine AS ?_;refine BE ?_;refine CE ?_ _ (fun _ _=>rfl);refine rr eA1 ?_;refine DH j1 j2 (hsmall _ (by exact rr List.length_append (rr List.length_singleton (Nr hA8)))) ?_;refine AT ?_;refine rr Th ?_;refine AZ ⟨_,rfl,?_⟩;refine⟨fun hb=>absurd (HI (of_decide_eq_true hb)) (by decide),fun _=>?_⟩;refine BC ?_;refine JC he (by kernel_rfl) ((hkp "text" (by decide+kernel)).trans (by rfl)) ?_;refine JD he (by kernel_rfl) hat ?_;refine AS ?_;refine BE ?_;refine CE ?_ _ (fun _ _=>rfl);refine rr eA1 ?_;refine DH j1 j2 (hsmall _ (by exact rr List.length_append (rr List.length_singleton (Nr hA8)))) ?_;refine AT ?_;refine rr TW ?_;refine AZ ⟨_,rfl,?_⟩;refine⟨fun _=>?_,fun hb=>absurd rfl (of_decide_eq_false hb)⟩;refine Aa he (by kernel_rfl) ?_;refine Ab ?_;refine AY E3 ?_;refine AB he (by kernel_rfl) ((hkp "text" (by decide+kernel)).trans (by rfl)) ?_;refine⟨rfl,?_⟩;refine An he (by kernel_rfl) (PN (by rfl) (Cv hat (by rfl))) ?_;refine rr Ql ?_;refine GD ho ?_;refine AS ?_;refine BE ?_;have e10:((A.length+(60::47::cl n).length:Nat):Int)+1=((A.length+(n.length+3):Nat):Int):=by exact rr List.length_cons (rr List.length_cons (rr (Ai ..) WX))
  refine rr e10 ?_;have kp1:=hkp.cons (x:="end") (v:=.int (A.length+(n.length+3):Nat)) (by decide+kernel);replace hat:=AR (x:="end") (v:=.int (A.length+(n.length+3):Nat)) hat (by decide+kernel);replace hfnd:=AR (x:="end") (v:=.int (A.length+(n.length+3):Nat)) hfnd (by decide+kernel);refine AH ?_;refine Av he ?_;refine AY Al ?_;refine AB he (by kernel_rfl) hfnd ?_;refine⟨.inl ⟨_,hfl,rfl⟩,?_⟩;refine Ah ?_;refine Ac ?_;refine Br ?_;refine AB he (by kernel_rfl) ((kp1 "text" (by decide+kernel)).trans (by rfl)) ?_;refine Bs ?_;refine Az ?_;refine JD he (by kernel_rfl) hat ?_;refine AS ?_;refine BE ?_;refine Az ?_;refine JD he (by kernel_rfl) (by rfl) ?_;refine AS ?_;refine Ff ?_;refine Aj ?_;refine⟨_,_,_,rfl,rfl,rfl,?_⟩;refine CK (by exact Ij hxl) ?_ _ (fun _ _=>rfl);refine rr (CD hx3 (by simp[Str.length]<;>lia) (by simp[Str.length]<;>exact VE)) (rr (ON ..) ?_);refine AE ⟨ble rfl,?_⟩;refine AE ?_;refine Ar hfl (lm (Qj hdn)) ?_;refine Ad ?_;refine Ad ?_;refine Aa he (by kernel_rfl) ?_;refine AB he (by kernel_rfl) (by rfl) ?_;refine AQ ?_;refine again _ _ fl _ rfl ?_ ?_ ?_ hflS ?_ ?_
  ·refine rr List.length_append (rr hte ?_);rfl
  ·exact AR hfnd (by decide+kernel)
  ·refine rr (AC ..) (rr List.map_append ?_);rfl
  ·exact hS2.put hflS
  ·exact kp1.cons (by decide+kernel)
  |st nm a=>
  obtain⟨hnm,hna,hva,hal⟩:=hok
  obtain⟨k0,n0,hn0⟩:∃k0 n0,cl nm=k0::n0:=by
   cases w:cl nm with
   |nil=>exact absurd w hnm.ne
   |cons a b=>exact⟨a,b,rfl⟩
  have hk0:=hnm.ok k0 (by exact rr hn0 (.head _));have ht0:t0=cl nm++atsS a++[62]:=by injection hd0 with _ h;exact h.symm
  have ht1:t0=k0::(n0++atsS a++[62]):=by refine rr ht0 (rr hn0 ?_);rfl
  have hx1:cl x=(A++[60])++k0::(n0++atsS a++[62]++r.flatMap EH):=by refine rr hx0 (rr ht1 ?_);simp
  have hx2:cl x=A++60::(cl nm++atsS a++62::r.flatMap EH):=by refine rr hx0 (rr ht0 ?_);simp
  have hx3:cl x=(A++[60])++((cl nm++atsS a)++62::r.flatMap EH):=by refine rr hx2 ?_;simp
  obtain⟨pre,lst,hpl,hlst⟩:=Rs (a:=a) hnm
  have hx4:cl x=(A++pre)++lst::(62::r.flatMap EH):=by
   have:cl x=A++((60::(cl nm++atsS a))++62::r.flatMap EH):=by refine rr hx2 ?_;simp
   refine rr this (rr hpl ?_);simp
  have hprl:pre.length=nm.length+(atsS a).length:=by
   have:=congrArg List.length hpl;rw[List.length_cons,List.length_append,List.length_append,List.length_singleton,Ai]at this;exact ZB this
  have hte:(EH (.st nm a)).length=nm.length+(atsS a).length+2:=by show(60::(cl nm++atsS a++[62])).length=_;simp[Str.length];exact XC
  refine⟨fun hb=>absurd (HI (of_decide_eq_true hb)) (fun w=>by rw[ht1]at w;injection w with _ w;injection w with w _;exact dh hk0 w),fun _=>?_⟩;obtain⟨j1,j2⟩:=JV hx1;have eA1:((A.length:Nat):Int)+1=((A++[60]).length:Nat):=by simp
  refine BC ?_;refine JC he (by kernel_rfl) ((hkp "text" (by decide+kernel)).trans (by rfl)) ?_;refine JD he (by kernel_rfl) hat ?_;refine AS ?_;refine BE ?_;refine CE ?_ _ (fun _ _=>rfl);refine rr eA1 ?_;refine DH j1 j2 (hsmall _ (by exact rr List.length_append (rr List.length_singleton (Nr hA8)))) ?_;refine AT ?_;refine rr Th ?_;refine AZ ⟨_,rfl,?_⟩;refine⟨fun hb=>absurd (HI (of_decide_eq_true hb)) (fun w=>by injection w with w _;lia),fun _=>?_⟩;refine BC ?_;refine JC he (by kernel_rfl) ((hkp "text" (by decide+kernel)).trans (by rfl)) ?_;refine JD he (by kernel_rfl) hat ?_;refine AS ?_;refine BE ?_;refine CE ?_ _ (fun _ _=>rfl);refine rr eA1 ?_;refine DH j1 j2 (hsmall _ (by exact rr List.length_append (rr List.length_singleton (Nr hA8)))) ?_;refine AT ?_;refine rr TW ?_;refine AZ ⟨_,rfl,?_⟩;refine⟨fun hb=>absurd (HI (of_decide_eq_true hb)) (fun w=>by injection w with w _;lia),fun _=>?_⟩;refine Aa he (by kernel_rfl) ?_;refine AL F.GV F.Gb he (by kernel_rfl) ?_;refine An he (by kernel_rfl) (Cv ((hkp "text" (by decide+kernel)).trans (by rfl)) (Cv hat (by rfl))) ?_;refine Jj F hx2 hnm hna hva hal hxl fun S3 s3=>?_;have e10:A.length+1+nm.length+(atsS a).length+1=A.length+(nm.length+(atsS a).length+2):=by exact VZ
  refine rr e10 ?_;generalize hEN:A.length+(nm.length+(atsS a).length+2)=EN at*;have kp1:=hkp.cons (x:="end") (v:=.int (EN:Nat)) (by decide+kernel);replace hat:=AR (x:="end") (v:=.int (EN:Nat)) hat (by decide+kernel);replace hfnd:=AR (x:="end") (v:=.int (EN:Nat)) hfnd (by decide+kernel);have hend:AG ((("end":Str),AV.int (EN:Nat))::ρ) "end"=some (.int (EN:Nat)):=by rfl
  show Sq c _ L env _ _ _ ((("end":Str),AV.int (EN:Nat))::ρ) _;revert kp1 hat hfnd hend;generalize ((("end":Str),AV.int (EN:Nat))::ρ:AJ)=ρ1;intro kp1 hat hfnd hend;obtain⟨m1,m2⟩:=JV hx4;refine Aa he (by kernel_rfl) ?_;refine Dt ?_;refine JC he (by kernel_rfl) ((kp1 "text" (by decide+kernel)).trans (by rfl)) ?_;refine JD he (by kernel_rfl) hend ?_;refine AS ?_;refine Ff ?_;have e11:((EN:Nat):Int)-2=((A++pre).length:Nat):=by exact rr List.length_append (Yr hprl hte hEN)
  refine rr e11 ?_;refine CE ?_ _ (fun _ _=>rfl);refine DH m1 m2 (hsmall _ (by exact rr List.length_append (aP hxl hlx hprl hte))) ?_;refine AT ?_;refine AZ ?_;have e12:decide ((⟨#[lst]⟩:Str)=mk [47])=false:=decide_eq_false (fun w=>hlst (by have:=HI w;injection this));refine rr e12 ?_;have kp2:=kp1.cons (x:="is_empty") (v:=.bool false) (by decide+kernel);replace hat:=AR (x:="is_empty") (v:=.bool false) hat (by decide+kernel);replace hfnd:=AR (x:="is_empty") (v:=.bool false) hfnd (by decide+kernel);replace hend:=AR (x:="is_empty") (v:=.bool false) hend (by decide+kernel);have hemp:AG ((("is_empty":Str),AV.bool false)::ρ1) "is_empty"=some (.bool false):=by rfl
  show Sq c _ L env _ _ _ ((("is_empty":Str),AV.bool false)::ρ1) _;revert kp2 hat hfnd hend hemp;generalize ((("is_empty":Str),AV.bool false)::ρ1:AJ)=ρ2;intro kp2 hat hfnd hend hemp;refine AH ?_;refine CB ?_ (BB he (by with_unfolding_all rfl));refine AL F.KU F.KP he (by kernel_rfl) ?_;refine Br ?_;refine AB he (by kernel_rfl) ((kp2 "text" (by decide+kernel)).trans (by rfl)) ?_;refine Bs ?_;refine Az ?_;refine JD he (by kernel_rfl) hat ?_;refine AS ?_;refine BE ?_;refine Az ?_;refine JD he (by kernel_rfl) hend ?_;refine Ok.val (.int 1) ?_ ?_
  ·refine Dz ?_;refine Dw ?_;refine AB he (by kernel_rfl) hemp ?_;refine⟨_,rfl,fun hb=>ft hb,fun _=>?_⟩;refine AS ⟨rfl,rfl,rfl⟩
  refine Ff ?_;refine Aj ?_;refine⟨_,_,_,rfl,rfl,rfl,?_⟩;refine CK (by exact Ij hxl) ?_ _ (fun _ _=>rfl);refine rr (CD hx3 (by simp) (by rw[List.length_append,List.length_append,List.length_singleton,Ai];exact Xj hte hEN)) ?_;refine AE ?_;refine Nj F (l:=a) rfl hnm hna hva hal (by exact rr (CR ..) (rr List.length_append (rr (Ai ..) (WB hxl hlx hte)))) fun S4 s4=>?_;refine Cy (by rfl) (Ag he (by kernel_rfl) (Ag he (by kernel_rfl) (BR ?_)));have hS4:=(hS2.trans s3).trans s4;have hfl4:=s4 _ _ (s3 _ _ hfl);have kp3:=kp2.cons (x:="name") (v:=.str nm) (by decide+kernel);replace hat:=AR (x:="name") (v:=.str nm) hat (by decide+kernel);replace hfnd:=AR (x:="name") (v:=.str nm) hfnd (by decide+kernel);replace hend:=AR (x:="name") (v:=.str nm) hend (by decide+kernel);replace hemp:=AR (x:="name") (v:=.str nm) hemp (by decide+kernel);have hname:AG ((("name":Str),AV.str nm)::ρ2) "name"=some (.str nm):=by rfl
  revert kp3 hat hfnd hend hemp hname;generalize ((("name":Str),AV.str nm)::ρ2:AJ)=ρ3;intro kp3 hat hfnd hend hemp hname;have kp4:=kp3.cons (x:="pairs") (v:=.tup (a.map AI)) (by decide+kernel);replace hat:=AR (x:="pairs") (v:=.tup (a.map AI)) hat (by decide+kernel);replace hfnd:=AR (x:="pairs") (v:=.tup (a.map AI)) hfnd (by decide+kernel);replace hend:=AR (x:="pairs") (v:=.tup (a.map AI)) hend (by decide+kernel);replace hemp:=AR (x:="pairs") (v:=.tup (a.map AI)) hemp (by decide+kernel);replace hname:=AR (x:="pairs") (v:=.tup (a.map AI)) hname (by decide+kernel);have hprs:AG ((("pairs":Str),AV.tup (a.map AI))::ρ3) "pairs"=some (.tup (a.map AI)):=by rfl
  show Sq c _ L env _ _ _ ((("pairs":Str),AV.tup (a.map AI))::ρ3) _;revert kp4 hat hfnd hend hemp hname hprs;generalize ((("pairs":Str),AV.tup (a.map AI))::ρ3:AJ)=ρ4;intro kp4 hat hfnd hend hemp hname hprs;refine Aa he (by kernel_rfl) ?_;refine Ab ?_;refine JD he (by kernel_rfl) hfnd ?_;refine Aw ?_;refine Ah ?_;refine An he (by kernel_rfl) (PN (by rfl) (Cv hname (Cv hprs (by rfl)))) ⟨ble rfl,?_⟩;refine AE ⟨ble rfl,fun d1 hd1=>?_⟩;have hfl5:put S4 d1 (.list [Fd (.st nm a)]) fl=some (.list (done.map Fd)):=(AA _ _ ((by first|exact As hfl4 hd1|exact(As hd1 hfl4).symm))).trans hfl4;have hS5:=hS4.put (o:=.list [Fd (.st nm a)]) (hS4.none hd1);refine Dc hfl5 (AC ..) (by refine rr (List.length_map ..) ?_;simp;exact TT hdn) fun d2 hd2=>?_;have hS6:=hS5.put (o:=.list (done.map Fd++[Fd (.st nm a)])) (hS5.none hd2);have hf6:put (put S4 d1 (.list [Fd (.st nm a)])) d2 (.list (done.map Fd++[Fd (.st nm a)])) d2=some (.list (done.map Fd++[Fd (.st nm a)])):=AC ..;show Ok c _ L R _ _ (put (put S4 d1 (.list [Fd (.st nm a)])) d2 (.list (done.map Fd++[Fd (.st nm a)]))) _;revert hS6 hf6;generalize put (put S4 d1 (.list [Fd (.st nm a)])) d2 (.list (done.map Fd++[Fd (.st nm a)]))=S6;intro hS6 hf6;refine Ab ?_;refine Aw ?_;refine Ah ?_;refine An he (by kernel_rfl) (PN (by rfl) (Cv hname (by rfl))) ⟨ble rfl,?_⟩;refine AE ⟨ble rfl,fun d3 hd3=>?_⟩;have hf7:put S6 d3 (.list [.tup [.str "end",.str nm]]) d2=some (.list (done.map Fd++[Fd (.st nm a)])):=(AA _ _ ((by first|exact As hf6 hd3|exact(As hd3 hf6).symm))).trans hf6;have hS7:=hS6.put (o:=.list [.tup [.str "end",.str nm]]) (hS6.none hd3);refine Ap (id:="int") F.Ec he (by kernel_rfl) ?_;refine An he (by kernel_rfl) (Cv hemp (by rfl)) ?_;refine JM ?_;refine OC (l':=[]) (AC ..) (by decide) (by decide) (Nat.le_of_ble_eq_true rfl) rfl fun d4 hd4=>?_;have hf8:=(AA (put S6 d3 (.list [.tup [.str "end",.str nm]])) (AO.list []) (fun e=>by rw[e]at hf7;rw[hf7]at hd4;cases hd4):put (put S6 d3 (.list [.tup [.str "end",.str nm]])) d4 (.list []) d2=_).trans hf7;have hS8:=hS7.put (o:=.list []) (hS7.none hd4);refine Dc hf8 (AC ..) (by refine rr List.length_append (rr (List.length_map ..) ?_);simp;exact TT hdn) fun d5 hd5=>?_;refine rr (List.append_nil ..) ?_;refine Ad ?_;refine Ad ?_;refine Aa he (by kernel_rfl) ?_;refine AB he (by kernel_rfl) (AR hend (by decide+kernel)) ?_;refine AQ ?_;refine again _ _ d5 _ rfl ?_ ?_ ?_ (hS8.none hd5) ?_ ?_
  ·refine rr List.length_append (rr hte (rr hEN ?_));rfl
  ·rfl
  ·refine rr (AC ..) (rr List.map_append ?_);rfl
  ·exact hS8.put (hS8.none hd5)
  ·exact(kp4.cons (by decide+kernel)).cons (by decide+kernel)
end
noncomputable def G9(s:Str):Bool:=decide (Txt.slice s none (some 5)=("xmlns":Str))
noncomputable def nmsE:Ev→List Str
 |.st _ a=>a.map (·.1)
 |_=>[]
structure KC(e:Ev):Prop where
 sp:nmsE e=(nmsE e).filter G9++(nmsE e).filter (fun s=>!G9 s)
 so:Ci ((nmsE e).filter G9)=(nmsE e).filter G9
structure Hc(cm:Bool)(l:List Ev)(T':List Nd)(out:List Str):Prop where
 run:∃scs',Hj Nu 0 [Ak] l T' 0 scs'
 len:T'.length≤900
 root:∃w,T'[0]?=some w∧w.kind=("root":Str)∧w.par=none∧w.nss=[]∧w.kids.length≤900∧BD T' cm 0 w.kids false out
 ol:out.length≤3
 ox:∀s∈out,s.length≤5000000
section
variable{c:Cx}{n:Nat}{S:AD}{Q:AV→AD→Prop}
theorem Bb(F:Af c.K){e:Addr}{l:List Ev}{cm:Bool}(hee:S e=some (.list (l.map Fd))){T':List Nd}{out:List Str}(h:Hc cm l T' out)(q:∀S',A9 S S'→Q (.str (Txt.join ("":Str) out)) S'):
  AM c (n+12) (.ref 624) [.ref e,.bool cm] S Q:=by
 obtain⟨⟨scs',hrun⟩,hlen,⟨w,hw,hwk,hwp,hwn,hwl,ho⟩,hol,hox⟩:=h;refine(AP F.FQ (names:=["events","comments"]) (by kernel_rfl) (fun _ _ _ _ _ _ _ _ s g=>.of_eq (by kernel_rfl)) (by decide+kernel) rfl (by kernel_rfl) ?_).call;intro L env hc he;refine Aa he (by kernel_rfl) ?_;refine AL F.RO F.RQ he (by kernel_rfl) ?_;refine AE ?_;refine Ur F fun S1 y hy f1=>?_;have s1:A9 S S1:=fun a o e=>f1.keep a o (by simp) e;have hnew:∀a∈y.fp,S a=none:=fun a ha=>(f1.new a ha).elim (fun w=>by cases w) id;have hey:e∉y.fp:=fun h=>by rw[hnew e h]at hee;cases hee
 refine Ae ?_;refine AL F.I1 F.Ir he (by kernel_rfl) ?_;refine A0 he (by kernel_rfl) (by rfl) ?_;refine AK ?_;refine AL F.Og F.Oe he (by kernel_rfl) ?_;refine An he (by kernel_rfl) (by rfl) ?_;refine SL F hy (s1 _ _ hee) hey hrun fun S2 y2 hy2 hyt f2=>?_;have s2:A9 S S2:=fun a o e=>f2.keep a o (fun w=>by rw[hnew a w]at e;cases e) (s1 a o e);refine An he (by kernel_rfl) (by rfl) ?_;refine rl hyt ?_;exact Mh F hy2 hlen hw hwk hwp hwn hwl ho hol hox fun S3 s3=>q S3 (s2.trans s3)
inductive ae(pre:List Str)(S6:Addr→Option AO)(l2:List Str)(acc:List AV)(S':AD):Prop
 |mk (pr2) (h0:pr2++l2=pre) (h1:acc=(pr2.filter (fun s=>!G9 s)).map .str) (h2:S'=S6)
inductive XU(N:List Str)(S4:Addr→Option AO)(l2:List Str)(acc:List AV)(S':AD):Prop
 |mk (pre) (h0:pre++l2=N) (h1:acc=(pre.filter G9).map .str) (h2:S'=S4)
inductive bA(S2:AD)(a:List (Str×Str))(l2:List (Str×Str))(acc:List AV)(S':AD):Prop
 |mk (pre) (h0:pre++l2=a) (h1:acc=(pre.map (·.1)).map .str) (h2:S'=S2)
inductive V0(l:List Ev)(S1:AD)(ρ0:AJ)(r:List Ev)(ρ:AJ)(S':AD):Prop
 |mk (h0:(∀e∈r,e∈l)) (h1:A9 S1 S') (h2:Kp ["event","names","first","rest"] ρ ρ0)
set_option maxHeartbeats 4000000 in
theorem I7(F:Af c.K){x:Str}{l:List Ev}(hx:cl x=l.flatMap EH)(hg:Gz l)(hll:l.length≤500)(hxl:x.length≤8000)(hpl:∀e∈l,KC e∧(nmsE e).length≤20∧∀s∈nmsE e,s.length≤100)
  (h1:PP ("/>":Str) x=false) (h2:PP ("\r":Str) x=false) (q:∀S',A9 S S'→Q (.bool true) S'):AM c (n+4) (.ref 629) [.str x] S Q:=by
 refine(AP F.F3 (names:=["text"]) (by kernel_rfl) (fun _ _ _ _ _ _ _ _ s g=>.of_eq (by kernel_rfl)) (by decide+kernel) rfl (by kernel_rfl) ?_).call;intro L env hc he;refine AH ?_;refine CF ?_;refine AL F.Eo F.Ep he (by kernel_rfl) ?_;refine An he (by kernel_rfl) (by rfl) ?_;refine G1 F hx hg hll hxl fun S1 el s1 hel0 hel=>?_;refine⟨_,_,.list (.inl hel),?_⟩;refine A7 (f:=Fd) (V0 l S1 _) (fun r ρ S' hP=>by obtain⟨_,h,_⟩:=hP;exact .inl (h _ _ hel)) ?_ ?_ l _ _ ⟨fun _ h=>h,A9.refl _,Kp.refl _ _⟩;rotate_left
 ·rintro ρ S2 ⟨-,hS2,hkp⟩;refine AQ ?_;refine Ae ?_;refine Md ?_;refine N9 ?_;refine Dt ?_;refine AT ?_;refine AB he (by kernel_rfl) ((hkp "text" (by decide+kernel)).trans (by rfl)) ?_;refine IK ?_;refine rr h1 ?_;refine⟨_,rfl,fun hb=>ft hb.symm,fun hb=>?_⟩;refine MY ?_;refine Dt ?_;refine AT ?_;refine AB he (by kernel_rfl) ((hkp "text" (by decide+kernel)).trans (by rfl)) ?_;refine IK ?_;refine rr h2 ?_;exact q _ (s1.trans hS2)
 rintro e r ρ S2 ⟨hin,hS2,hkp⟩;obtain⟨hple,hnl,hns⟩:=hpl e (hin e (.head _));refine BA he (by kernel_rfl) ?_;have kp1:=hkp.cons (x:="event") (v:=Fd e) (by decide+kernel);refine BC ?_;refine JC he (by kernel_rfl) (by rfl) ?_;refine AS ?_
 cases e with
 |en nm=>
  refine Bc (k:=0) (by rfl) (by rfl) (by decide) (by decide) ?_ _ (fun _ _=>rfl);refine AT ?_;refine AZ ⟨_,rfl,?_⟩;refine⟨fun hb=>absurd (of_decide_eq_true hb) (by decide+kernel),fun _=>?_⟩;refine Ad ?_;exact⟨fun e he=>hin e (.tail _ he),hS2,kp1⟩
 |tx nm=>
  refine Bc (k:=0) (by rfl) (by rfl) (by decide) (by decide) ?_ _ (fun _ _=>rfl);refine AT ?_;refine AZ ⟨_,rfl,?_⟩;refine⟨fun hb=>absurd (of_decide_eq_true hb) (by decide+kernel),fun _=>?_⟩;refine Ad ?_;exact⟨fun e he=>hin e (.tail _ he),hS2,kp1⟩
 |cm nm=>
  refine Bc (k:=0) (by rfl) (by rfl) (by decide) (by decide) ?_ _ (fun _ _=>rfl);refine AT ?_;refine AZ ⟨_,rfl,?_⟩;refine⟨fun hb=>absurd (of_decide_eq_true hb) (by decide+kernel),fun _=>?_⟩;refine Ad ?_;exact⟨fun e he=>hin e (.tail _ he),hS2,kp1⟩
 |pi nm d=>
  refine Bc (k:=0) (by rfl) (by rfl) (by decide) (by decide) ?_ _ (fun _ _=>rfl);refine AT ?_;refine AZ ⟨_,rfl,?_⟩;refine⟨fun hb=>absurd (of_decide_eq_true hb) (by decide+kernel),fun _=>?_⟩;refine Ad ?_;exact⟨fun e he=>hin e (.tail _ he),hS2,kp1⟩
 |st nm a=>
 obtain⟨hsp,hso⟩:=hple;have hns':nmsE (.st nm a)=a.map (·.1):=rfl;generalize hN:nmsE (.st nm a)=N at*;refine Bc (k:=0) (by rfl) (by rfl) (by decide) (by decide) ?_ _ (fun _ _=>rfl);refine AT ?_;refine AZ ⟨_,rfl,?_⟩;refine⟨fun _=>?_,fun hb=>absurd rfl (of_decide_eq_false hb)⟩;have hev:AG ((("event":Str),Fd (.st nm a))::ρ) "event"=some (Fd (.st nm a)):=by rfl
 revert kp1 hev;refine Dh ((("event":Str),Fd (.st nm a))::ρ:AJ) ?_;intro ρ1;intro kp1 hev;have hnoat:∀(ρ:AJ) (x:Str),(dNames (FD 59)).lookup x≠some .cell→AG (Au (dNames (FD 59)) ρ) x=none:=fun ρ x hx=>by exact rr (BH ..) (rr (if_neg hx) rfl)
 refine AH ?_;refine Cz he hc rfl (by kernel_rfl) (C1 he (by kernel_rfl) (by kernel_rfl) (by kernel_rfl)) ?_;refine JC he (by kernel_rfl) hev ?_;refine AS ?_;refine Bc (k:=2) (by rfl) (by rfl) (by decide) (by decide) ?_ _ (fun _ _=>rfl);refine⟨_,_,.tup _,fun Lc cenv hce=>?_⟩;refine Co (f:=AI) (bA S2 a) (fun l2 acc S' hP=>?_) ?_ ?_ ⟨[],rfl,rfl,rfl⟩
 ·obtain⟨pre,h3,rfl,rfl⟩:=hP;refine⟨trivial,?_⟩;have h4:=congrArg List.length h3;rw[List.length_append]at h4;have h5:N.length=a.length:=by exact rr hns' (rr (List.length_map ..) rfl)
  exact rr (List.length_map ..) (rr (List.length_map ..) (YA hnl h4 h5))
 ·rintro p l2 acc S' ⟨pre,h3,rfl,rfl⟩;refine Cy (by rfl) (Ag hce (by kernel_rfl) (Ag hce (by kernel_rfl) (BR ?_)))
  have hext:Cd (Au (dNames (FD 59)) ρ1) ((("value":Str),AV.str p.2)::(("name":Str),AV.str p.1)::Au (dNames (FD 59)) ρ1):=by
   refine Cd.trans ?_ ?_ (ρ2:=(("name":Str),AV.str p.1)::Au (dNames (FD 59)) ρ1)
   ·exact Cd.cons (hnoat _ _ (by decide+kernel)) (Cd.refl _)
   ·refine Cd.cons ?_ (Cd.refl _);exact rr (AN ..) (rr (if_neg (by decide+kernel)) (hnoat _ _ (by decide+kernel)))
  refine⟨hext,⟨fun _=>?_,fun hb=>tf hb⟩⟩;refine AB hce (by kernel_rfl) (by rfl) ?_;refine⟨hext,pre++[p],by refine rl h3 ?_;simp,?_,rfl⟩;refine rr List.map_append (rr List.map_append ?_);rfl
 rintro acc S3 ⟨pre,h3,rfl,rfl⟩;rw[List.append_nil]at h3;subst h3;intro nl hnl;refine rl hns' ?_;have hS3:=(A9.refl S3).put (o:=.list (N.map .str)) hnl;have hn3:put S3 nl (.list (N.map .str)) nl=some (.list (N.map .str)):=AC ..;revert hS3 hn3;refine Dh (put S3 nl (.list (N.map .str)):AD) ?_;intro S4;intro hS34 hn4;have hS4:=hS2.trans hS34;refine BA he (by kernel_rfl) ?_;have kp2:=kp1.cons (x:="names") (v:=.ref nl) (by decide+kernel);have hnms:AG ((("names":Str),AV.ref nl)::ρ1) "names"=some (.ref nl):=by rfl
 show Sq c _ L env _ _ _ ((("names":Str),AV.ref nl)::ρ1) _;revert kp2 hnms;refine Dh ((("names":Str),AV.ref nl)::ρ1:AJ) ?_;intro ρ2;intro kp2 hnms;refine AH ?_;refine Cz he hc rfl (by kernel_rfl) (C1 he (by kernel_rfl) (by kernel_rfl) (by kernel_rfl)) ?_;refine AB he (by kernel_rfl) hnms ?_;refine⟨_,_,.list (.inl hn4),fun Lc cenv hce=>?_⟩;refine Co (f:=AV.str) (XU N S4) (fun l2 acc S' hP=>?_) ?_ ?_ ⟨[],rfl,rfl,rfl⟩
 ·obtain⟨pre,h3,rfl,rfl⟩:=hP;refine⟨.inl hn4,?_⟩;have h4:=congrArg List.length h3;rw[List.length_append]at h4;have h5:=List.length_filter_le G9 pre;refine rr (List.length_map ..) ?_;lia
 ·rintro s l2 acc S' ⟨pre,h3,rfl,rfl⟩;have hsl:=hns s (by refine rl h3 ?_;simp);refine BA hce (by kernel_rfl) ?_;have hext:Cd (Au (dNames (FD 59)) ρ2) ((("name":Str),AV.str s)::Au (dNames (FD 59)) ρ2):=Cd.cons (hnoat _ _ (by decide+kernel)) (Cd.refl _);refine⟨hext,?_⟩;refine Ck ?_;refine Hk hce (by kernel_rfl) (by rfl) ?_;refine Aj ?_;refine Az ?_;refine AS ?_;refine Aj ?_;refine⟨_,_,_,rfl,rfl,rfl,?_⟩;refine CK (by exact Zi hsl) ?_ _ (fun _ _=>rfl);refine AT ?_;refine AZ ⟨_,rfl,?_⟩;refine⟨Cd.refl _,fun hb=>?_,fun hb=>?_⟩
  ·refine AB hce (by kernel_rfl) (by rfl) ?_;refine⟨hext,pre++[s],by refine rl h3 ?_;simp,?_,rfl⟩;have hb':G9 s=true:=hb;refine rr (List.filter_append ..) (rr List.map_append ?_);simp[hb']
  ·refine⟨pre++[s],by refine rl h3 ?_;simp,?_,rfl⟩;have hb':G9 s=false:=hb;refine rr (List.filter_append ..) (rr List.map_append ?_);simp[hb']
 rintro acc S5 ⟨pre,h3,rfl,rfl⟩;rw[List.append_nil]at h3;subst h3;intro fl hfl;have hS35:=(A9.refl S5).put (o:=.list ((pre.filter G9).map .str)) hfl;have hf5:put S5 fl (.list ((pre.filter G9).map .str)) fl=some (.list ((pre.filter G9).map .str)):=AC ..;revert hS35 hf5;refine Dh (put S5 fl (.list ((pre.filter G9).map .str)):AD) ?_;intro S6;intro hS56 hf6;have hn6:=hS56 _ _ hn4;have hS6:=hS4.trans hS56;refine BA he (by kernel_rfl) ?_;have kp3:=kp2.cons (x:="first") (v:=.ref fl) (by decide+kernel);replace hnms:=AR (x:="first") (v:=.ref fl) hnms (by decide+kernel);have hfst:AG ((("first":Str),AV.ref fl)::ρ2) "first"=some (.ref fl):=by rfl
 show Sq c _ L env _ _ _ ((("first":Str),AV.ref fl)::ρ2) _;revert kp3 hnms hfst;refine Dh ((("first":Str),AV.ref fl)::ρ2:AJ) ?_;intro ρ3;intro kp3 hnms hfst;refine AH ?_;refine Cz he hc rfl (by kernel_rfl) (C1 he (by kernel_rfl) (by kernel_rfl) (by kernel_rfl)) ?_;refine AB he (by kernel_rfl) hnms ?_;refine⟨_,_,.list (.inl hn6),fun Lc cenv hce=>?_⟩;refine Co (f:=AV.str) (ae pre S6) (fun l2 acc S' hP=>?_) ?_ ?_ ⟨[],rfl,rfl,rfl⟩
 ·obtain⟨pr2,h3,rfl,rfl⟩:=hP;refine⟨.inl hn6,?_⟩;have h4:=congrArg List.length h3;rw[List.length_append]at h4;have h5:=List.length_filter_le (fun s=>!G9 s) pr2;exact rr (List.length_map ..) (aQ hnl h4 h5)
 ·rintro s l2 acc S' ⟨pr2,h3,rfl,rfl⟩;have hsl:=hns s (by refine rl h3 ?_;simp);refine BA hce (by kernel_rfl) ?_;have hext:Cd (Au (dNames (FD 59)) ρ3) ((("name":Str),AV.str s)::Au (dNames (FD 59)) ρ3):=Cd.cons (hnoat _ _ (by decide+kernel)) (Cd.refl _);refine⟨hext,?_⟩;refine Ck ?_;refine Hk hce (by kernel_rfl) (by rfl) ?_;refine Aj ?_;refine Az ?_;refine AS ?_;refine Aj ?_;refine⟨_,_,_,rfl,rfl,rfl,?_⟩;refine CK (by exact Zi hsl) ?_ _ (fun _ _=>rfl);refine AT ?_;refine Bl ⟨_,rfl,?_⟩;refine⟨Cd.refl _,fun hb=>?_,fun hb=>?_⟩
  ·refine AB hce (by kernel_rfl) (by rfl) ?_;refine⟨hext,pr2++[s],by refine rl h3 ?_;simp,?_,rfl⟩;have hb':(!G9 s)=true:=hb;refine rr (List.filter_append ..) (rr List.map_append ?_);simp at hb';simp[hb']
  ·refine⟨pr2++[s],by refine rl h3 ?_;simp,?_,rfl⟩;have hb':(!G9 s)=false:=hb;refine rr (List.filter_append ..) (rr List.map_append ?_);simp at hb';simp[hb']
 rintro acc S7 ⟨pr2,h3,rfl,rfl⟩;rw[List.append_nil]at h3;subst h3;intro tl htl;have hS37:=(A9.refl S7).put (o:=.list ((pr2.filter (fun s=>!G9 s)).map .str)) htl;have ht7:put S7 tl (.list ((pr2.filter (fun s=>!G9 s)).map .str)) tl=some (.list ((pr2.filter (fun s=>!G9 s)).map .str)):=AC ..;revert hS37 ht7;refine Dh (put S7 tl (.list ((pr2.filter (fun s=>!G9 s)).map .str)):AD) ?_;intro S8;intro hS78 ht8;have hn8:=hS78 _ _ hn6;have hf8:=hS78 _ _ hf6;have hS8:=hS6.trans hS78;refine BA he (by kernel_rfl) ?_;have kp4:=kp3.cons (x:="rest") (v:=.ref tl) (by decide+kernel);replace hnms:=AR (x:="rest") (v:=.ref tl) hnms (by decide+kernel);replace hfst:=AR (x:="rest") (v:=.ref tl) hfst (by decide+kernel);have hrst:AG ((("rest":Str),AV.ref tl)::ρ3) "rest"=some (.ref tl):=by rfl
 show Sq c _ L env _ _ _ ((("rest":Str),AV.ref tl)::ρ3) _;revert kp4 hnms hfst hrst;refine Dh ((("rest":Str),AV.ref tl)::ρ3:AJ) ?_;intro ρ4;intro kp4 hnms hfst hrst;have hl1:=List.length_filter_le G9 pr2;have hl2:=List.length_filter_le (fun s=>!G9 s) pr2;refine HC ?_;refine HV ?_;refine O8 ?_;refine N0 he (by kernel_rfl) hnms ?_;refine JD he (by kernel_rfl) hfst ?_;refine AB he (by kernel_rfl) hrst ?_;refine Dc hf8 ht8 (by exact rr (List.length_map ..) (rr (List.length_map ..) (ZM hnl hl1 hl2))) fun d hd=>?_;refine rl List.map_append (rl hsp ?_);have hnd:put S8 d (.list (pr2.map .str)) nl=some (.list (pr2.map .str)):=(AA _ _ ((by first|exact As hn8 hd|exact(As hd hn8).symm))).trans hn8;have hfd:put S8 d (.list (pr2.map .str)) fl=some (.list ((pr2.filter G9).map .str)):=(AA _ _ ((by first|exact As hf8 hd|exact(As hd hf8).symm))).trans hf8;have hS9:=hS8.put (o:=.list (pr2.map .str)) (hS8.none hd);refine OF hnd (AC ..) ⟨_,rfl,?_⟩;refine⟨fun _=>?_,fun hb=>absurd rfl (IV hb)⟩;refine O8 ?_;refine N0 he (by kernel_rfl) hfst ?_;refine BT (id:="sorted") F.H0 he (by kernel_rfl) ?_;refine An he (by kernel_rfl) (Cv hfst (by rfl)) ?_;refine Ig hfd (by exact X1 hnl hl1) fun sd l' hsd hper hsrt=>?_;have hl':l'=pr2.filter G9:=(Jv hper hsrt).trans hso;subst hl';refine OF ((AA _ _ ((by first|exact As hfd hsd|exact(As hsd hfd).symm))).trans hfd) (AC ..) ⟨_,rfl,?_⟩;refine⟨fun _=>?_,fun hb=>absurd rfl (IV hb)⟩;refine Jo ?_;refine⟨fun hb=>ft hb,fun _=>?_⟩;refine Ad ?_;refine AQ ?_;exact⟨fun e he=>hin e (.tail _ he),hS9.put (hS9.none hsd),kp4⟩
end
noncomputable def J9:List Ev:=[.cm ("x":Str),.st ("b":Str) [(("z":Str),("1":Str)),(("a":Str),("\t\n<":Str)),(("xmlns":Str),("u":Str))],.tx (">\r":Str),.st ("c":Str) [(("xmlns":Str),("":Str))],.en ("c":Str),.st ("d":Str) [(("xmlns:q":Str),("b":Str)),(("xmlns:r":Str),("a":Str)),(("q:m":Str),("1":Str)),(("r:n":Str),("2":Str))],.st ("e":Str) [],.en ("e":Str),.en ("d":Str),.en ("b":Str),.pi ("go":Str) ("":Str)]
noncomputable def QC:Str:=("<!--x-->\n<b xmlns=\"u\" a=\"&#x9;&#xA;&lt;\" z=\"1\">&gt;&#xD;<c xmlns=\"\"></c>":Str)++("<d xmlns:q=\"b\" xmlns:r=\"a\" r:n=\"2\" q:m=\"1\"><e></e></d></b>\n<?go?>":Str)
noncomputable abbrev jn(l:List Str):Str:=Txt.join ("":Str) l
structure OA(rs:List Ax)(one:Str)(e3:List Ev):Prop where
 c1:∃T o,Hc true (Do rs false 5 0) T o∧jn o=one
 c2:∃T o,Hc true (Do rs true 5 0) T o∧jn o=one
 c3:∃T o,Hc true e3 T o∧jn o=one
 c4:∃T o,Hc false (Do rs false 5 0) T o∧jn o=Txt.replace one ("<!-- k -->":Str) ("":Str)
 tx:cl one=e3.flatMap EH
 gd:Gz e3
 n1:e3.length≤500
 n2:one.length≤8000
 pl:∀e∈e3,KC e∧(nmsE e).length≤20∧∀s∈nmsE e,s.length≤100
 i1:PP ("/>":Str) one=false
 i2:PP ("\r":Str) one=false
noncomputable def JS:Prop:=∃T o,Hc true J9 T o∧jn o=QC
section
variable{c:Cx}{n:Nat}{S:AD}{Q:AV→AD→Prop}
set_option maxHeartbeats 8000000 in
theorem QH(F:Af c.K)(hk:JS)(hlaw:∀rs:List Ax,(∀r∈rs,r.Ok)→(∃w rs',rs= .root w::rs'∧∀r∈rs',r.above≠none)→rs.length≤5→∃one e3,OA rs one e3)
  {e:Addr} (he0:HU c e) (q:∀S',Q (.bool true) S'):∀L env,I6 L (dNames (FD 60))→Am env L (dNames (FD 60))→Ok c (n+12) L RF (execs (dBody (FD 60)) env) ([("script":Str)].zip [AV.ref e]) S (Fin Q):=by
 intro L env hc he;refine Aa he (by kernel_rfl) ?_;refine AL F.I4 F.Iv he (by kernel_rfl) ?_;refine A0 he (by kernel_rfl) (by rfl) ?_;refine G2 ?_;refine AE ?_;refine MZ F he0 fun S1 a s1 ha ha0=>?_;refine Aa he (by kernel_rfl) ?_;refine AL F.I5 F.Iy he (by kernel_rfl) ?_;refine A0 he (by kernel_rfl) (by rfl) ?_;refine AE ?_;refine MX F ha fun S2 rl vs rs s2 hrl0 hrl hv hok hhd h5=>?_;obtain⟨one,e3,hL⟩:=hlaw rs hok hhd h5;have h0:0<rs.length:=by obtain⟨w,rs',rfl,_⟩:=hhd;exact Nat.succ_pos _
 have hrow:∀{S':AD},A9 S2 S'→S' rl=some (.list vs)∧Fq [a,rl] S' vs rs:=fun h=>⟨h _ _ hrl,hv.mono fun b o _ e=>h b o e⟩
 have hr1:AG ((("rows":Str),AV.ref rl)::(("source":Str),AV.ref a)::[("script":Str)].zip [AV.ref e]) "rows"=some (.ref rl):=by rfl
 show Sq c _ L env _ _ _ ((("rows":Str),AV.ref rl)::(("source":Str),AV.ref a)::[("script":Str)].zip [AV.ref e]) _;revert hr1;refine Dh ((("rows":Str),AV.ref rl)::(("source":Str),AV.ref a)::[("script":Str)].zip [AV.ref e]:AJ) ?_;intro ρ0;intro hr1;refine Aa he (by kernel_rfl) ?_;refine AL F.BQ F.BP he (by kernel_rfl) ?_;refine AK ?_;refine AL F.Bd F.Be he (by kernel_rfl) ?_;refine A0 he (by kernel_rfl) hr1 ?_;refine G2 ?_;refine AK ?_;refine C0 ?_;refine AE ?_;refine B9 (n:=n+7) F hok hhd h5 false 5 (i:=0) (Nat.le_refl _) (by exact Pv h5) h0 hrl hv fun S3 d3 s3 hd3 he3=>?_;refine AK ?_;refine C0 ?_;refine AE ?_;obtain⟨T1,o1,hc1,ho1⟩:=hL.c1;refine Bb F he3 hc1 fun S4 s4=>?_;refine rr (show Txt.join ("":Str) o1=one from ho1) ?_;have s24:=s3.trans s4;have hr2:=AR (x:="one") (v:=.str one) hr1 (by decide+kernel);have hon:AG ((("one":Str),AV.str one)::ρ0) "one"=some (.str one):=by rfl
 show Sq c _ L env _ _ _ ((("one":Str),AV.str one)::ρ0) _;revert hr2 hon;refine Dh ((("one":Str),AV.str one)::ρ0:AJ) ?_;intro ρ1;intro hr2 hon;clear hr1;refine BC ?_;refine AL F.BQ F.BP he (by kernel_rfl) ?_;refine AK ?_;refine AL F.Bd F.Be he (by kernel_rfl) ?_;refine A0 he (by kernel_rfl) hr2 ?_;refine G2 ?_;refine AK ?_;refine C0 ?_;refine AE ?_;refine B9 (n:=n+7) F hok hhd h5 true 5 (i:=0) (Nat.le_refl _) (by exact Pv h5) h0 (hrow s24).1 (hrow s24).2 fun S5 d5 s5 hd5 he5=>?_;refine AK ?_;refine C0 ?_;refine AE ?_;obtain⟨T2,o2,hc2,ho2⟩:=hL.c2;refine Bb F he5 hc2 fun S6 s6=>?_;refine rr (show Txt.join ("":Str) o2=one from ho2) ?_;have s26:=s24.trans (s5.trans s6);refine AB he (by kernel_rfl) hon ?_;refine Bl ⟨_,rfl,?_⟩;refine⟨fun hb=>absurd rfl (IV hb),fun _=>?_⟩;refine AQ ?_;refine HC ?_;refine HV ?_;refine O8 ?_;refine Ck ?_;refine AL F.BQ F.BP he (by kernel_rfl) ?_;refine AK ?_;refine AL F.Eo F.Ep he (by kernel_rfl) ?_;refine A0 he (by kernel_rfl) hon ?_;refine AE ?_;refine G1 F hL.tx hL.gd hL.n1 hL.n2 fun S7 d7 s7 hd7 he7=>?_;refine AK ?_;refine C0 ?_;refine AE ?_;obtain⟨T3,o3,hc3,ho3⟩:=hL.c3;refine Bb F he7 hc3 fun S8 s8=>?_;refine rr (show Txt.join ("":Str) o3=one from ho3) ?_;have s28:=s26.trans (s7.trans s8);refine AB he (by kernel_rfl) hon ?_;refine Bl ⟨_,rfl,?_⟩;refine⟨fun _=>?_,fun hb=>absurd rfl (IV hb)⟩;refine O8 ?_;refine Ku ?_;refine Dw ?_;refine AL F.Fv F.F9 he (by kernel_rfl) ?_;refine A0 he (by kernel_rfl) hon ?_;refine AE ?_;refine I7 F hL.tx hL.gd hL.n1 hL.n2 hL.pl hL.i1 hL.i2 fun S9 s9=>?_;have s29:=s28.trans s9;refine⟨_,rfl,?_⟩;refine⟨fun _=>?_,fun hb=>ft hb⟩;refine Jo ?_;refine⟨fun hb=>ft hb,fun _=>?_⟩;refine AQ ?_;refine Aa he (by kernel_rfl) ?_;refine AL F.BQ F.BP he (by kernel_rfl) ?_;refine AK ?_;refine AL F.Bd F.Be he (by kernel_rfl) ?_;refine A0 he (by kernel_rfl) hr2 ?_;refine G2 ?_;refine AK ?_;refine C0 ?_;refine AE ?_;refine B9 (n:=n+7) F hok hhd h5 false 5 (i:=0) (Nat.le_refl _) (by exact Pv h5) h0 (hrow s29).1 (hrow s29).2 fun S10 d10 s10 hd10 he10=>?_;refine AK ?_;refine C0 ?_;refine AE ?_;obtain⟨T4,o4,hc4,ho4⟩:=hL.c4;refine Bb F he10 hc4 fun S11 s11=>?_;refine rr (show Txt.join ("":Str) o4=Txt.replace one ("<!-- k -->":Str) ("":Str)from ho4) ?_;have hbr:AG ((("bare":Str),AV.str (Txt.replace one ("<!-- k -->":Str) ("":Str)))::ρ1) "bare"=some (.str (Txt.replace one ("<!-- k -->":Str) ("":Str))):=by rfl
 replace hon:=AR (x:="bare") (v:=.str (Txt.replace one ("<!-- k -->":Str) ("":Str))) hon (by decide+kernel);show Sq c _ L env _ _ _ ((("bare":Str),AV.str (Txt.replace one ("<!-- k -->":Str) ("":Str)))::ρ1) _;revert hbr hon;refine Dh ((("bare":Str),AV.str (Txt.replace one ("<!-- k -->":Str) ("":Str)))::ρ1:AJ) ?_;intro ρ2;intro hbr hon;refine BC ?_;refine AB he (by kernel_rfl) hbr ?_;refine AY Jy ?_;refine AB he (by kernel_rfl) hon ?_;refine⟨rfl,?_⟩;refine CC fun t u ht hu htu=>?_;refine Ky ht hu htu (by decide+kernel) (by refine rr (show("":Str).length=0 by decide+kernel) ?_;have:=hL.n2;exact bS this) ?_;refine Bl ⟨_,rfl,?_⟩;refine⟨fun hb=>absurd rfl (IV hb),fun _=>?_⟩;refine AQ ?_;clear hr2 hbr hon;refine AH ?_;generalize hE:Expr.List _ _=E;have hs:∀x xp l env,swapsWith E (some (.Name x xp)) l env=pure false:=by intro _ _ _ _;subst hE;exact Du
 refine LB he (by kernel_rfl) ?_ (hs _ _ _ _);subst hE;clear hs;refine Aw ?_;refine Ah ?_;refine Ac ?_;refine Ac ?_;refine AE ⟨ble rfl,?_⟩;refine Ah ?_;refine Ac ?_;refine Ac ?_;refine Ah ?_;refine Ah ?_;refine Ac ?_;refine Ac ?_;refine AE ⟨ble rfl,?_⟩;refine Ah ?_;refine Ac ?_;refine Ac ?_;refine AE ⟨ble rfl,?_⟩;refine Ah ?_;refine Ac ?_;refine Ac ?_;refine AE ⟨ble rfl,?_⟩;refine AE ⟨ble rfl,?_⟩;refine AE ⟨ble rfl,?_⟩;refine Ah ?_;refine Ac ?_;refine Ac ?_;refine AE ⟨ble rfl,?_⟩;refine Ah ?_;refine Ac ?_;refine Ac ?_;refine Ah ?_;refine Ah ?_;refine Ac ?_;refine Ac ?_;refine AE ⟨ble rfl,?_⟩;refine AE ⟨ble rfl,?_⟩;refine AE ⟨ble rfl,?_⟩;refine Ah ?_;refine Ac ?_;refine Ac ?_;refine AE ⟨ble rfl,?_⟩;refine Ah ?_;refine Ac ?_;refine Ac ?_;refine Ah ?_;refine Ah ?_;refine Ac ?_;refine Ac ?_;refine AE ⟨ble rfl,?_⟩;refine Ah ?_;refine Ac ?_;refine Ac ?_;refine AE ⟨ble rfl,?_⟩;refine Ah ?_;refine Ac ?_;refine Ac ?_;refine AE ⟨ble rfl,?_⟩;refine Ah ?_;refine Ac ?_;refine Ac ?_;refine AE ⟨ble rfl,?_⟩;refine AE ⟨ble rfl,?_⟩;refine AE ⟨ble rfl,?_⟩;refine Ah ?_;refine Ac ?_;refine Ac ?_;refine Ah ?_;refine AE ⟨ble rfl,?_⟩;refine AE ⟨ble rfl,?_⟩;refine Ah ?_;refine Ac ?_;refine Ac ?_;refine AE ⟨ble rfl,?_⟩;refine Ah ?_;refine Ac ?_;refine Ac ?_;refine AE ⟨ble rfl,?_⟩;refine Ah ?_;refine Ac ?_;refine Ac ?_;refine AE ⟨ble rfl,?_⟩;refine Ah ?_;refine Ac ?_;refine Ac ?_;refine Ac ?_;refine AE ⟨ble rfl,?_⟩;refine AE ⟨ble rfl,fun kd hkd=>?_⟩;have hkd1:put S11 kd (.list (J9.map Fd)) kd=some (.list (J9.map Fd)):=AC ..;show Sq c _ L env _ _ _ ((("known":Str),AV.ref kd)::ρ2) (put S11 kd (.list (J9.map Fd)));have hkn:AG ((("known":Str),AV.ref kd)::ρ2) "known"=some (.ref kd):=by rfl
 show Sq c _ L env _ _ _ ((("known":Str),AV.ref kd)::ρ2) _;revert hkd1 hkn;refine Dh (put S11 kd (.list (J9.map Fd)):AD) ?_;intro S12;refine Dh ((("known":Str),AV.ref kd)::ρ2:AJ) ?_;intro ρ3;intro hkd1 hkn;refine Aa he (by kernel_rfl) ?_;refine AT ?_;replace hkn:=AR (x:="due") (v:=.str "<!--x-->\n<b xmlns=\"u\" a=\"&#x9;&#xA;&lt;\" z=\"1\">&gt;&#xD;<c xmlns=\"\"></c>") hkn (by decide+kernel);refine Aa he (by kernel_rfl) ?_;refine JD he (by kernel_rfl) (by rfl) ?_;refine AT ?_;refine Aq ?_ (by decide+kernel);replace hkn:=AR (x:="due") (v:=.str QC) hkn (by decide+kernel);have hdu:AG ((("due":Str),AV.str QC)::(("due":Str),AV.str "<!--x-->\n<b xmlns=\"u\" a=\"&#x9;&#xA;&lt;\" z=\"1\">&gt;&#xD;<c xmlns=\"\"></c>")::ρ3) "due"=some (.str QC):=by rfl
 refine Ae ?_;refine Dt ?_;refine AL F.BQ F.BP he (by kernel_rfl) ?_;refine A0 he (by kernel_rfl) hkn ?_;refine AK ?_;refine C0 ?_;refine AE ?_;obtain⟨T5,o5,hc5,ho5⟩:=hk;refine Bb F hkd1 hc5 fun S13 s13=>?_;refine rr (show Txt.join ("":Str) o5=QC from ho5) ?_;refine AB he (by kernel_rfl) hdu ?_;refine AZ ?_;refine rr (decide_eq_true rfl) ?_;exact q _
end
theorem PU{c:Cx}(F:Af c.K)(ok:Uq c)(hk:JS)(hlaw:∀rs:List Ax,(∀r∈rs,r.Ok)→(∃w rs',rs= .root w::rs'∧∀r∈rs',r.above≠none)→rs.length≤5→∃one e3,OA rs one e3)
  {e:Addr} (he0:HU c e) {A:Around} (rm:DO A 13):
  codeAny (model c.prog c.w) A (.call (.ref 636) ⟨[.ref e],[]⟩) (fun r s'=>match r with
   |.ok (.ret v)=>v= .bool true∧(∀a o,c.s₁.heap.get? a=some o→s'.heap.get? a=some o)∧s'.os=c.s₁.os∧s'.gens=c.s₁.gens
   |.ok _=>False
   |.error _=>False) c.s₁:=by
 obtain⟨oc,od,osl,nm,qn,mo,doc,pm,cdv,ct,an,h1,h2⟩:=F.To;have hK:c.K.In c.s₁.heap:=ok.X;have hfree:((dNames (FD 60)).all fun x=>x.2 != .free&&x.2 != .cell)=true:=by kernel_rfl
 have hfr:=List.all_eq_true.mp hfree;have hcell:∀x∈dNames (FD 60),x.2≠.cell:=fun x hx e=>by have:=hfr x hx;rw[e]at this;simp at this
 have hfree':∀x,(dNames (FD 60)).lookup x≠some .free:=fun x e=>by have:=hfr _ (BW e);simp at this
 have hcl:∀x,(dNames (FD 60)).lookup x≠some .cell:=fun x e=>hcell (x,.cell) (BW e) rfl;have hloc:(([("script":Str)]:List Str).all fun x=>(dNames (FD 60)).lookup x==some .local)=true:=by kernel_rfl
 have hbind:BindsTo c.s₁ (fdOf nm qn (dArgs (FD 60)) (dBody (FD 60)) (dNames (FD 60)) mo .none .none doc pm an cdv ct) ⟨[.ref e],[]⟩ ([("script":Str)].zip [.ref e]):=.of_eq (by kernel_rfl)
 refine codeAny_call_def (fd:=fdOf nm qn (dArgs (FD 60)) (dBody (FD 60)) (dNames (FD 60)) mo .none .none doc pm an cdv ct) (body:=dBody (FD 60)) rm.lt (hK _ _ h1) rfl ok.lim (codeRec_of hK h2) rfl hbind hcell
  (fun x hx=>?_) (fun h₀ hn hk₀=>?_) rfl rfl rfl
 ·have:x.1∈[("script":Str)]:=(List.of_mem_zip (a:=x.1) (b:=x.2) hx).1;exact beq_iff_eq.mp (List.all_eq_true.mp hloc _ this)
 ·have i0:A4 c (fun a=>c.s₁.heap.get? a) (fun _=>none) {c.s₁ with heap:=h₀,toks:=c.s₁.toks+([("script":Str)].zip [Value.ref e]).length}:=
   ⟨ok,fun _ _ h=>h,fun a o h=>hk₀ a o h,(fun _ _ h=>nomatch h),rfl,rfl,Nat.succ_pos _,rfl⟩
  have he:Am (callEnv (fdOf nm qn (dArgs (FD 60)) (dBody (FD 60)) (dNames (FD 60)) mo .none .none doc pm an cdv ct) c.s₁.heap.objs.size 636) ⟨c.s₁.heap.objs.size,[]⟩ (dNames (FD 60)):=
   ⟨rfl,rfl,rfl,rfl,rfl,fun x hx=>hx.elim (fun e=>absurd e (hcl x)) (fun e=>absurd e (hfree' x)),fun _ _=>rfl⟩
  obtain⟨oL,es,ep,hoL,hdL,hr⟩:=hn;have hnone:c.s₁.heap.get? c.s₁.heap.objs.size=none:=Heap.get?_none_of_le (Nat.le_refl _)
  have f0:A3 (fun a=>c.s₁.heap.get? a) (fun _=>none) ⟨c.s₁.heap.objs.size,[]⟩ ([("script":Str)].zip [AV.ref e]) {c.s₁ with heap:=h₀,toks:=c.s₁.toks+([("script":Str)].zip [Value.ref e]).length}:=by
   refine⟨by simp[BU.own],fun b hb=>?_,fun _ hp=>(nomatch hp),_,⟨oL,es,ep,hoL,hdL,hr⟩,fun x av e=>⟨fun _=>Mx (by decide+kernel) (Nat.le_refl _) (.cons (.ref _) .nil) e,fun a z=>nomatch z⟩⟩;obtain rfl:b=c.s₁.heap.objs.size:=by simpa[BU.own]using hb
   exact⟨hnone,rfl,oL,hoL,⟨fun _ vs n e=>(by rw[hdL]at e;cases e),fun _ vs e=>(by rw[hdL]at e;cases e)⟩⟩
  have hb:=QH (n:=0) (S:=fun _=>none) F hk hlaw he0 (Q:=fun v _=>v= .bool true) (fun _=>rfl) ⟨c.s₁.heap.objs.size,[]⟩ _ (fun x hx=>absurd (show AG ([]:List (Str×Addr)) x=none from rfl) hx) he;refine wpAny_mono (hb _ _ _ rm.deeper i0 f0) ?_ fun _ _ x=>x.elim;rintro fl s' ⟨B',S',ρ',b,l,i',f',r',q⟩
  cases r' with
  |nx=>exact absurd q (by intro h;cases h)
  |cont=>exact absurd q (by intro h;cases h)
  |brk=>exact absurd q (by intro h;cases h)
  |ret r'=>
   cases q;cases r';exact⟨rfl,i'.gkeep,i'.os,i'.gens⟩
theorem Nh{xs:List WData}(h:WShape.hasItems [] xs .int=true):∀d∈xs,∃i,d= .int i:=by
 induction xs with
 |nil=>intro d hd;cases hd
 |cons x xs ih=>
  rw[show WShape.hasItems [] (x::xs) .int=(WShape.has [] x .int&&WShape.hasItems [] xs .int) by simp[WShape.hasItems],Bool.and_eq_true]at h;intro d hd;rcases List.mem_cons.mp hd with rfl|hd
  ·cases d<;>first|exact⟨_,rfl⟩|exact(Bool.false_ne_true h.1).elim
  ·exact ih h.2 d hd
theorem Os{R:WRecords}{cl:Str→Option Addr}{h:Heap}{vs:List Value}{ds:List WData}{as:List Addr}(r:ReadsAllW R cl h vs ds as):vs.length=ds.length:=by
 induction vs generalizing ds as with
 |nil=>cases r;rfl
 |cons v vs ih=>cases r with|cons _ r=>exact rr List.length_cons (rr List.length_cons (rr (ih r) rfl))
theorem NQ{R:WRecords}{cl:Str→Option Addr}{h:Heap}{vs:List Value}{ds:List WData}{as:List Addr}(r:ReadsAllW R cl h vs ds as)(hi:∀d∈ds,∃i,d= .int i){v:Value}(hv:vs[0]?=some v):∃i t,v= .int i t:=by
 cases r with
 |nil=>cases hv
 |cons r1 r2=>
  cases hv;obtain⟨i,rfl⟩:=hi _ (.head _);cases r1;exact⟨_,_,rfl⟩
set_option tactic.hygienic true in
theorem PY(hk:JS)(hlaw:∀rs:List Ax,(∀r∈rs,r.Ok)→(∃w rs',rs= .root w::rs'∧∀r∈rs',r.above≠none)→rs.length≤5→∃one e3,OA rs one e3)
  {q:Program} {loose:List Str} {XP:(Str→Option Value)→Heap→Prop} {K:Params→Frag} {as:List Addr} {e:∀P,as=(K P).map (·.1)} (hF:∀P,Af (K P)) {d:DefRec} (hdn:d.name=("law":Str)) {kwd:List (Str×Expr)}:
  WalkO q loose XP (kHook K as e).says PySem.Challenge.rw_nu0075_01.row.toRowW d kwd fun f vs=>PySem.call f vs:=by
 intro w s₀ s₁ mg mb G Y a o pm cd doc dV kV ho hd hcd hD hmg hg args vals as' hpre hlay hrd hwl hlo;have F:=hF w.params;have X:(K w.params).In s₁.heap:=kIn_of Y;have T:=G.T
 have ha:a=636:=by
  have h1:=mg_of X T.g F.Tn;rw[hdn,h1]at hmg
  injection hmg with h;injection h with h;exact h.symm
 subst ha;obtain⟨hsh,hcond⟩:=pre_splitW hpre;have hrec:PySem.Challenge.rw_nu0075_01.row.toRowW.records=[]:=rfl;have hargs:PySem.Challenge.rw_nu0075_01.row.toRowW.args=[.list .int]:=rfl;rw[hargs]at hsh;obtain⟨d1,r1,rfl,hd1,hr1⟩:=hasAllW_cons hsh;obtain rfl:=hasAllW_nil hr1
 obtain⟨xs,rfl,hxs⟩:∃xs,d1= .list xs∧WShape.hasItems [] xs .int=true:=by
  cases d1<;>first|exact(Bool.false_ne_true hd1).elim|exact⟨_,rfl,(Bool.or_false _).symm.trans hd1⟩
 have hlen:xs.length≤63:=by
  have h:=condW_of (t:=PySem.Challenge.rw_nu0075_01.row.toRowW.pre) hcond (w_and (w_not (w_lt w_lit (w_len_list (w_arg rfl)))) w_lit);rw[Bool.and_true,Bool.not_eq_true',decide_eq_false_iff_not]at h;exact WR h
 cases hrd with
 |cons hr hrn=>
 cases hrn
 cases hr with
 |list h1 h2 h3 h4=>
 rename_i e0 ob vs n as2;have hcx:Uq ⟨PySem.Challenge.rw_nu0075_01.row.toRowW.prog,w,K w.params,s₁⟩:=⟨X,⟨mg,T.g⟩,⟨mb,T.b,T.builtins⟩,T.nolimit,T.nodigits⟩
 have hints:=Nh hxs;have hsz:vs.size=xs.length:=by exact rl Array.length_toList (Os h4)
 have hscr:HU ⟨PySem.Challenge.rw_nu0075_01.row.toRowW.prog,w,K w.params,s₁⟩ e0:=by
  refine⟨vs,⟨ob,h1,h2,n,h3⟩,by exact X4 hlen hsz,fun v hv=>?_⟩;exact NQ h4 hints (by exact rr Array.getElem?_toList hv)
 have hgo:=PU (c:=⟨PySem.Challenge.rw_nu0075_01.row.toRowW.prog,w,K w.params,s₁⟩) F hcx hk hlaw hscr (A:=callerA) ⟨rfl,by decide,by decide⟩;refine wpAny_call (codeAny_mono hgo ?_);intro r s' hr;rcases r with e1|fl
 ·exact hr.elim
 ·cases fl with
  |ret v=>
   obtain⟨rfl,k1,k2,k3⟩:=hr;refine⟨.inl ⟨_,.bool true,[],rfl,fun cls=>rfl,.bool _,?_,fun _=>⟨.nil,fun _ h=>nomatch h⟩⟩,.of_keep k1,k2,.of_eq (k3.trans hg)⟩;exact postW_of rfl (w_eq (w_res rfl) w_lit) (by with_unfolding_all rfl)
  |_=>exact hr.elim
inductive Fo where
 |nil
 |el (n:Str) (a:List (Str×Str)) (k r:Fo)
 |tx (s:Str) (r:Fo)
 |cm (s:Str) (r:Fo)
 |pi (t d:Str) (r:Fo)
noncomputable def evs:Fo→List Ev
 |.nil=>[]
 |.el n a k r=>.st n a::(evs k++.en n::evs r)
 |.tx s r=>.tx s::evs r
 |.cm s r=>.cm s::evs r
 |.pi t d r=>.pi t d::evs r
noncomputable def A8:Fo→Nat
 |.nil=>0
 |.el _ a k r=>1+a.length+A8 k+A8 r
 |.tx _ r=>1+A8 r
 |.cm _ r=>1+A8 r
 |.pi _ _ r=>1+A8 r
noncomputable def L4:Fo→Nat
 |.nil=>0
 |.el _ _ k r=>(L4 k+2)+L4 r
 |.tx _ r=>1+L4 r
 |.cm _ r=>1+L4 r
 |.pi _ _ r=>1+L4 r
noncomputable def PO(s:Str)(p:Nat):Nd:=Bw "text" "" "" "" s (some p)
noncomputable def Nv(s:Str)(p:Nat):Nd:=Bw "comment" "" "" "" s (some p)
noncomputable def RU(t d:Str)(p:Nat):Nd:=Bw "instruction" t "" t d (some p)
noncomputable def outs(cm:Bool)(bs sc:Sc):Fo→List Str
 |.nil=>[]
 |.el n a k r=>(startF n (withinL sc (foundL a)) sc (asOf (enterL bs (foundL a)) a)::(outs cm (enterL bs (foundL a)) (withinL sc (foundL a)) k++[endF n]))++outs cm bs sc r
 |.tx s r=>[leafF (PO s 0) cm]++outs cm bs sc r
 |.cm s r=>[leafF (Nv s 0) cm]++outs cm bs sc r
 |.pi t d r=>[leafF (RU t d 0) cm]++outs cm bs sc r
structure Uf(bs sc:Sc)(n:Str)(a:List (Str×Str)):Prop where
 st:JH bs n a
 sl:sc.length≤100
 scok:Ra (withinL sc (foundL a))
 al:(othersL a).length≤4
 aok:∀p∈asOf (enterL bs (foundL a)) a,Up p
 hso:∀p∈sortT (asOf (enterL bs (foundL a)) a),p∈asOf (enterL bs (foundL a)) a
 hsl:(sortT (asOf (enterL bs (foundL a)) a)).length≤4
 nl:n.length≤100
 pl:(startF n (withinL sc (foundL a)) sc (asOf (enterL bs (foundL a)) a)).length≤5000
noncomputable def GS(cm:Bool)(bs sc:Sc):Fo→Prop
 |.nil=>True
 |.el n a k r=>Uf bs sc n a∧GS cm (enterL bs (foundL a)) (withinL sc (foundL a)) k∧GS cm bs sc r
 |.tx s r=>(Na s∧(leafF (PO s 0) cm).length≤5000)∧GS cm bs sc r
 |.cm s r=>(Na s∧(leafF (Nv s 0) cm).length≤5000)∧GS cm bs sc r
 |.pi t d r=>(Na d∧t.length≤1000∧(leafF (RU t d 0) cm).length≤5000)∧GS cm bs sc r
inductive eu(T:List Nd)(n:Str)(a:List (Str×Str))(p:Nat)(bs:Sc)(i:Nat)(G:List Nat→Prop):Prop
 |mk (y:Nd) (h0:T[i]?=some y) (h1:y.kind="element") (h2:y.name=n) (h3:y.par=some p) (h4:Eu T y.nss (foundL a)) (h5:E8 T y.atts (asOf (enterL bs (foundL a)) a)) (h6:y.nss.length=(foundL a).length) (h7:y.atts.length=(othersL a).length) (g:G y.kids)
noncomputable def Fn(T:List Nd):Sc→Nat→Fo→List Nat→Prop
 |_,_,.nil,ks=>ks=[]
 |bs,p,.tx s r,ks=>∃i ks',ks=i::ks'∧T[i]?=some (PO s p)∧Fn T bs p r ks'
 |bs,p,.cm s r,ks=>∃i ks',ks=i::ks'∧T[i]?=some (Nv s p)∧Fn T bs p r ks'
 |bs,p,.pi t d r,ks=>∃i ks',ks=i::ks'∧T[i]?=some (RU t d p)∧Fn T bs p r ks'
 |bs,p,.el n a k r,ks=>∃i ks',ks=i::ks'∧eu T n a p bs i (Fn T (enterL bs (foundL a)) i k)∧Fn T bs p r ks'
theorem C3(T:List Nd):∀(g:Fo) {bs:Sc} {p:Nat} {ks:List Nat},Fn T bs p g ks→ks.length≤A8 g
 |.nil=>by
  rintro h;exact rr h (Nat.le_refl _)
 |.tx s r=>by
  rintro⟨i,ks',e,_,h⟩;refine rr e (rr List.length_cons ?_);have:=C3 T r h;simp only[A8];exact Ps this
 |.cm s r=>by
  rintro⟨i,ks',e,_,h⟩;refine rr e (rr List.length_cons ?_);have:=C3 T r h;simp only[A8];exact Ps this
 |.pi t d r=>by
  rintro⟨i,ks',e,_,h⟩;refine rr e (rr List.length_cons ?_);have:=C3 T r h;simp only[A8];exact Ps this
 |.el n a k r=>by
  rintro⟨i,ks',e,_,h⟩;refine rr e (rr List.length_cons ?_);have:=C3 T r h;simp only[A8];exact Zf this
set_option tactic.hygienic true in
theorem Gr{T:List Nd}{cm:Bool}:∀(g:Fo) {bs sc:Sc} {p:Nat} {ks:List Nat},GS cm bs sc g→A8 g≤800→Fn T bs p g ks→A5 T cm ks sc (outs cm bs sc g) (L4 g)
 |.nil=>by
  rintro _ _ h;rw[h];exact .nil
 |.tx s r=>by
  rename_i bs sc p _;rintro⟨⟨h1,h2⟩,hr⟩ hc ⟨i,ks',e,hi,h⟩;rw[e];have hl:Hw (PO s p) cm:=⟨.inl rfl,h1,(show("":Str).length≤1000 by decide+kernel),h2⟩
  exact .cons (o:=[leafF (PO s p) cm]) (.leaf hi hl) (Gr r hr (by simp only[A8]at hc;exact UX hc) h)
 |.cm s r=>by
  rename_i bs sc p _;rintro⟨⟨h1,h2⟩,hr⟩ hc ⟨i,ks',e,hi,h⟩;rw[e];have hl:Hw (Nv s p) cm:=⟨.inr (.inl rfl),h1,(show("":Str).length≤1000 by decide+kernel),h2⟩
  exact .cons (o:=[leafF (Nv s p) cm]) (.leaf hi hl) (Gr r hr (by simp only[A8]at hc;exact UX hc) h)
 |.pi t d r=>by
  rename_i bs sc p _;rintro⟨⟨h1,h2,h3⟩,hr⟩ hc ⟨i,ks',e,hi,h⟩;rw[e];have hl:Hw (RU t d p) cm:=⟨.inr (.inr rfl),h1,h2,h3⟩
  exact .cons (o:=[leafF (RU t d p) cm]) (.leaf hi hl) (Gr r hr (by simp only[A8]at hc;exact UX hc) h)
 |.el n a k r=>by
  rename_i bs sc p _;rintro⟨ok,hk,hr⟩ hc ⟨i,ks',e,⟨y,y1,y2,y3,y4,y5,y6,y7,y8,y9⟩,h⟩;rw[e];simp only[A8]at hc;have hkl:=C3 T k y9;have hal:=ok.al
  have hel:Lv y (withinL sc (foundL a)) sc (asOf (enterL bs (foundL a)) a):=
   ⟨ok.scok,by rw[y8];exact ok.al,by unfold asOf;rw[List.length_map];exact ok.al,ok.aok,ok.hso,ok.hsl,by rw[y3];exact ok.nl,by rw[y7];have:=ok.st.len;have:(foundL a).length≤a.length:=List.length_filterMap_le ..;lia,by exact aJ hc hkl,by rw[y3];exact ok.pl⟩
  have hn:=Cj.elem (cm:=cm) (m:=L4 k) y1 y2 y5 y6 ok.sl hel (Gr k hk (by exact Wk hc) y9);rw[y3]at hn;exact .cons hn (Gr r hr (by exact Yp hc) h)
theorem JU{T:List Nd}{p:Nat}{nd x:Nd}(hx:T[p]?=some x):(EJ T p nd).length=T.length+1∧(EJ T p nd)[T.length]?=some nd∧(EJ T p nd)[p]?=some {x with kids:=x.kids++[T.length]}∧∀j,j<T.length→j≠p→(EJ T p nd)[j]?=T[j]?:=by
 have hp:=(List.getElem?_eq_some_iff.mp hx).1;unfold EJ;refine⟨by refine rr (List.length_modify ..) (rr List.length_append ?_);rfl,?_,?_,fun j hj hne=>?_⟩
 ·refine rr (List.getElem?_modify ..) (rr (List.getElem?_append_right (Nat.le_refl _)) (rr (Nat.sub_self ..) ?_));show some (if p=T.length then _ else nd)=some nd;exact rr (if_neg (by exact Zz hp)) rfl
 ·refine rr (List.getElem?_modify ..) (rr (List.getElem?_append_left hp) (rr hx ?_));show some (if p=p then _ else x)=_;exact rr (if_pos rfl) rfl
 ·refine rr (List.getElem?_modify ..) (rr (List.getElem?_append_left hj) ?_)
  cases T[j]? with
  |none=>rfl
  |some y=>
   show some (if p=j then _ else y)=_;exact rr (if_neg (Ne.symm hne)) rfl
theorem NN{T:List Nd}{p:Nat}{x:Nd}{name uri loc:Str}{ds:List (Str×Str)}{as:List (List Str)}(hx:T[p]?=some x):
  (A6 T p name uri loc ds as)[p]?=some {x with kids:=x.kids++[T.length]}∧∀j,j<T.length→j≠p→(A6 T p name uri loc ds as)[j]?=T[j]?:=by
 have hp:=(List.getElem?_eq_some_iff.mp hx).1;unfold A6 addKid;refine⟨?_,fun j hj hne=>?_⟩
 ·refine rr (List.getElem?_append_left (by rw[List.length_modify];exact hp)) (rr (List.getElem?_modify ..) (rr hx ?_));show some (if p=p then _ else x)=_;exact rr (if_pos rfl) rfl
 ·refine rr (List.getElem?_append_left (by rw[List.length_modify];exact hj)) (rr (List.getElem?_modify ..) ?_)
  cases T[j]? with
  |none=>rfl
  |some y=>
   show some (if p=j then _ else y)=_;exact rr (if_neg (Ne.symm hne)) rfl
theorem MC{T:List Nd}{e:Nat}{b:Nat}:∀{ds:List (Str×Str)} {k:Nat},(∀i q,ds[i]?=some q→T[b+k+i]?=some (KB e q))→Eu T ((List.range' k ds.length).map (b+·)) ds
 |[],_,_=>trivial
 |q::ds,k,h=>by
  refine rr List.length_cons (rr List.range'_succ (rr List.map_cons ?_));refine⟨⟨_,h 0 q rfl,rfl,rfl⟩,MC (e:=e) fun i q' hq=>?_⟩;have:=h (i+1) q' (by simpa using hq);exact rr (show b+(k+1)+i=b+k+(i+1) by exact TA) this
theorem My{T:List Nd}{e:Nat}{b:Nat}:∀{as:List (List Str)} {k:Nat},(∀q∈as,q.length=4)→(∀i q,as[i]?=some q→T[b+k+i]?=some (Kg e q))→E8 T ((List.range' k as.length).map (b+·)) as
 |[],_,_,_=>trivial
 |q::as,k,h4,h=>by
  refine rr List.length_cons (rr List.range'_succ (rr List.map_cons ?_));refine⟨⟨_,h 0 q rfl,?_⟩,My (e:=e) (fun q hq=>h4 q (.tail _ hq)) fun i q' hq=>?_⟩
  ·obtain⟨a,b,c,d,rfl⟩:=ZV (P:=fun q=>∃a b c d,q=[a,b,c,d]) (fun a b c d=>⟨a,b,c,d,rfl⟩) q (h4 q (.head _));rfl
  ·have:=h (i+1) q' (by simpa using hq);exact rr (show b+(k+1)+i=b+k+(i+1) by exact TA) this
theorem JZ{sc:Sc}{a:List (Str×Str)}:(asOf sc a).length=(othersL a).length:=by unfold asOf;exact rr (List.length_map ..) rfl
theorem LR(a:List (Str×Str)):(foundL a).length+(othersL a).length=a.length:=by
 induction a with
 |nil=>rfl
 |cons p a ih=>
  cases h:declL p.1 with
  |none=>
   have e1:othersL (p::a)=p::othersL a:=by unfold othersL;refine rr List.filter_cons (rr h ?_);rfl
   have e2:foundL (p::a)=foundL a:=by unfold foundL;refine rr List.filterMap_cons (rr h ?_);rfl
   exact rr e1 (rr e2 (rr List.length_cons (rr List.length_cons (Zs ih))))
  |some u=>
   have e1:othersL (p::a)=othersL a:=by unfold othersL;refine rr List.filter_cons (rr h ?_);rfl
   have e2:foundL (p::a)=(u,p.2)::foundL a:=by unfold foundL;refine rr List.filterMap_cons (rr h ?_);rfl
   exact rr e1 (rr e2 (rr List.length_cons (rr List.length_cons (Xy ih))))
structure Qq(T:List Nd)(p:Nat)(x:Nd)(scs:List Sc)(bs:Sc)(g:Fo)(T':List Nd)(ks:List Nat):Prop where
 run:∀{rest T2 p2 scs2},Hj T' p scs rest T2 p2 scs2→Hj T p scs (evs g++rest) T2 p2 scs2
 len:T'.length=T.length+A8 g
 old:∀j,j<T.length→j≠p→T'[j]?=T[j]?
 at':T'[p]?=some {x with kids:=x.kids++ks}
 out:∀T2:List Nd,(∀j,T.length≤j→j<T'.length→T2[j]?=T'[j]?)→Fn T2 bs p g ks
theorem HE{T:List Nd}{p:Nat}{x nd:Nd}{scs:List Sc}{bs:Sc}{r:Fo}{T':List Nd}{ks:List Nat}{e:Ev}{g:Fo}(hx:T[p]?=some x)(he:evs g=e::evs r)(hc:A8 g=1+A8 r)
  (hg:∀T2 ks',T2[T.length]?=some nd→Fn T2 bs p r ks'→Fn T2 bs p g (T.length::ks'))
  (hrun:∀{rest T2 p2 scs2},Hj (EJ T p nd) p scs rest T2 p2 scs2→Hj T p scs (e::rest) T2 p2 scs2)
  (h:Qq (EJ T p nd) p {x with kids:=x.kids++[T.length]} scs bs r T' ks):Qq T p x scs bs g T' (T.length::ks):=by
 obtain⟨h1,h2,h3,h4⟩:=JU (nd:=nd) hx;have hp:=(List.getElem?_eq_some_iff.mp hx).1;have hl:=h.len;rw[h1]at hl;refine⟨fun hr=>?_,by rw[hl,hc];exact ay,fun j hj hne=>(h.old j (by rw[h1];exact aX hj) hne).trans (h4 j hj hne),by rw[h.at'];simp,fun T2 ht=>?_⟩
 ·exact rr he (rr List.cons_append (hrun (h.run hr)))
 ·refine hg T2 ks ?_ (h.out T2 fun j hj hj2=>ht j (by rw[h1]at hj;exact Xa hj) hj2);exact rr (ht _ (Nat.le_refl _) (by exact Vu hl)) (rr (h.old _ (by rw[h1];exact bk) (by exact Si hp)) (rr h2 rfl))
set_option tactic.hygienic true in
theorem IJ{cm:Bool}:∀(g:Fo) {T:List Nd} {p:Nat} {x:Nd} {scs:List Sc} {bs sc:Sc},GS cm bs sc g→T[p]?=some x→(x.kind="root"∨x.kind="element")→T.length+A8 g≤800→x.kids.length+A8 g≤800→
  scs.getLast?=some bs→scs.length+A8 g≤390→∃T' ks,Qq T p x scs bs g T' ks
 |.nil=>by
  rename_i T p x scs bs sc;rintro _ hx _ _ _ _ _;exact⟨T,[],fun h=>h,rfl,fun _ _ _=>rfl,by refine rr hx ?_;simp,fun _ _=>rfl⟩
 |.tx s r=>by
  rename_i T p x scs bs sc;rintro⟨h1,hr⟩ hx hk hT hkn hl hn;simp only[A8]at hT hkn hn;obtain⟨a1,a2,a3,a4⟩:=JU (nd:=PO s p) hx;obtain⟨T',ks,hb⟩:=IJ r hr a3 hk (by exact rr a1 (LC hT)) (by show(x.kids++[T.length]).length+_≤_;exact rr List.length_append (rr List.length_singleton (LC hkn))) hl (by exact Qh hn);exact⟨T',_,HE hx rfl rfl (fun T2 ks' e h=>⟨_,ks',rfl,e,h⟩) (fun h=>.tx ⟨hx,hk,by exact Kz hkn,by exact Kz hT⟩ h) hb⟩
 |.cm s r=>by
  rename_i T p x scs bs sc;rintro⟨h1,hr⟩ hx hk hT hkn hl hn;simp only[A8]at hT hkn hn;obtain⟨a1,a2,a3,a4⟩:=JU (nd:=Nv s p) hx;obtain⟨T',ks,hb⟩:=IJ r hr a3 hk (by exact rr a1 (LC hT)) (by show(x.kids++[T.length]).length+_≤_;exact rr List.length_append (rr List.length_singleton (LC hkn))) hl (by exact Qh hn);exact⟨T',_,HE hx rfl rfl (fun T2 ks' e h=>⟨_,ks',rfl,e,h⟩) (fun h=>.cm ⟨hx,hk,by exact Kz hkn,by exact Kz hT⟩ h) hb⟩
 |.pi t d r=>by
  rename_i T p x scs bs sc;rintro⟨h1,hr⟩ hx hk hT hkn hl hn;simp only[A8]at hT hkn hn;obtain⟨a1,a2,a3,a4⟩:=JU (nd:=RU t d p) hx;obtain⟨T',ks,hb⟩:=IJ r hr a3 hk (by exact rr a1 (LC hT)) (by show(x.kids++[T.length]).length+_≤_;exact rr List.length_append (rr List.length_singleton (LC hkn))) hl (by exact Qh hn);exact⟨T',_,HE hx rfl rfl (fun T2 ks' e h=>⟨_,ks',rfl,e,h⟩) (fun h=>.pi ⟨hx,hk,by exact Kz hkn,by exact Kz hT⟩ h) hb⟩
 |.el n a k r=>by
  rename_i T p x scs bs sc;rintro⟨ok,hk',hr⟩ hx hk hT hkn hl hn;simp only[A8]at hT hkn hn;have hp:=(List.getElem?_eq_some_iff.mp hx).1;obtain⟨a3,a4⟩:=NN (name:=n) (uri:=EI (enterL bs (foundL a)) (Dj n)) (loc:=ER n) (ds:=foundL a) (as:=asOf (enterL bs (foundL a)) a) hx;have a1:(A6 T p n (EI (enterL bs (foundL a)) (Dj n)) (ER n) (foundL a) (asOf (enterL bs (foundL a)) a)).length=T.length+1+a.length:=by refine rr Dy (rr JZ ?_);have:=LR a;exact XV this
  have a2:=IT (T:=T) (p:=p) (name:=n) (uri:=EI (enterL bs (foundL a)) (Dj n)) (loc:=ER n) (ds:=foundL a) (as:=asOf (enterL bs (foundL a)) a);have a5:=fun i q (h:(foundL a)[i]?=some q)=>IZ (T:=T) (p:=p) (name:=n) (uri:=EI (enterL bs (foundL a)) (Dj n)) (loc:=ER n) (as:=asOf (enterL bs (foundL a)) a) h;have a6:=fun i q (h:(asOf (enterL bs (foundL a)) a)[i]?=some q)=>Ii (T:=T) (p:=p) (name:=n) (uri:=EI (enterL bs (foundL a)) (Dj n)) (loc:=ER n) (ds:=foundL a) h
  have hst:∀{l T' p' scs'},Hj (A6 T p n (EI (enterL bs (foundL a)) (Dj n)) (ER n) (foundL a) (asOf (enterL bs (foundL a)) a)) T.length (scs++[enterL bs (foundL a)]) l T' p' scs'→Hj T p scs (.st n a::l) T' p' scs':=
   fun h=>.st ⟨hx,hk,by exact TE hkn,by exact TE hT⟩ (by exact Xd hT) hl (by exact XJ hn) ok.st h
  revert a1 a2 a3 a4 a5 a6 hst;generalize A6 T p n (EI (enterL bs (foundL a)) (Dj n)) (ER n) (foundL a) (asOf (enterL bs (foundL a)) a)=T1;intro a3 a4 a1 a2 a5 a6 hst;obtain⟨T2,kk,b2⟩:=IJ k hk' a2 (.inr rfl) (by exact rr a1 (Ys hT)) (by show([]:List Nat).length+_≤_;simp;exact Xf hT) (scs:=scs++[enterL bs (foundL a)]) (by simp) (by exact rr List.length_append (rr List.length_singleton (X8 hn)));have h2l:=b2.len;rw[a1]at h2l;have c3:T2[p]?=some {x with kids:=x.kids++[T.length]}:=(b2.old p (by exact rr a1 (TC hp)) (by exact TM hp)).trans a3;obtain⟨T3,ks,b3⟩:=IJ r hr c3 hk (by exact rr h2l (VD hT)) (by show(x.kids++[T.length]).length+_≤_;exact rr List.length_append (rr List.length_singleton (Xx hkn))) hl (by exact XN hn);have h3l:=b3.len;rw[h2l]at h3l
  have hscs:2≤(scs++[enterL bs (foundL a)]).length:=by
   refine rr List.length_append (rr List.length_singleton ?_);have:0<scs.length:=List.length_pos_of_mem (List.mem_of_getLast? hl);exact dz this
  refine⟨T3,T.length::ks,fun h=>?_,by refine rr h3l ?_;simp only[A8];exact YJ,fun j hj hne=>?_,by refine rr b3.at' ?_;simp,fun T4 ht=>?_⟩
  ·show Hj T p scs ((.st n a::(evs k++.en n::evs r))++_) _ _ _;refine rr List.cons_append (rr (List.append_assoc ..) ?_);refine hst (b2.run ?_);refine rr List.cons_append ?_;refine .en b2.at' (by exact Zj hp) (by exact VT hT h2l) rfl rfl hscs (by exact rr List.length_append (rr List.length_singleton (Zg hn))) ?_;refine rr List.dropLast_concat ?_;exact b3.run h
  ·exact(b3.old j (by exact ZL h2l hj) hne).trans ((b2.old j (by exact rr a1 (TC hj)) (by exact TM hj)).trans (a4 j hj hne))
  ·have k1:∀j,T.length≤j→j<T2.length→T4[j]?=T2[j]?:=fun j h1 h2=>(ht j h1 (by exact V3 h2l h3l h2)).trans (b3.old j (by exact ZR h2l h2) (by exact X9 hp h1));have k2:∀j,T.length<j→j<T1.length→T4[j]?=T1[j]?:=fun j h1 h2=>(k1 j (by exact ba h1) (by exact YN a1 h2l h2)).trans (b2.old j h2 (by exact Si h1));refine⟨T.length,ks,rfl,⟨_,(k1 _ (Nat.le_refl _) (by exact XF h2l)).trans b2.at',rfl,rfl,rfl,?_,?_,?_,?_,?_⟩,b3.out T4 fun j h1 h2=>ht j (by exact X0 h2l h1) h2⟩
   ·show Eu T4 ((List.range (foundL a).length).map (T.length+1+·)) _;refine rr List.range_eq_range' ?_;refine MC (e:=T.length) fun i q hq=>?_;have hi:=(List.getElem?_eq_some_iff.mp hq).1;have:=LR a;refine rr (k2 _ (by exact Vp) (by rw[a1];exact VR hi this)) ?_;exact a5 i q hq
   ·show E8 T4 ((List.range (asOf (enterL bs (foundL a)) a).length).map (T.length+1+(foundL a).length+·)) _;refine rr List.range_eq_range' ?_;refine My (e:=T.length) (fun q hq=>?_) fun i q hq=>?_
    ·obtain⟨z,_,rfl⟩:=List.mem_map.mp hq;rfl
    ·have hi:=(List.getElem?_eq_some_iff.mp hq).1;rw[JZ]at hi;have:=LR a;refine rr (k2 _ (by exact VH) (by rw[a1];exact U2 hi this)) ?_;exact a6 i q hq
   ·show((List.range (foundL a).length).map _).length=_;exact rr (List.length_map ..) (rr List.length_range rfl)
   ·show((List.range (asOf (enterL bs (foundL a)) a).length).map _).length=_;exact rr (List.length_map ..) (rr List.length_range (rr JZ rfl))
   ·show Fn T4 _ _ k ([]++kk);exact b2.out T4 fun j h1 h2=>k1 j (by exact Uz a1 h1) h2
theorem N4(l:List Str):cl (jn l)=l.flatMap cl:=by
 have e:jn l=Str.join ("":Str) l:=StrLaws.glued_eq_join _ _;exact rr e (GE l)
theorem HF:∀g:Fo,L4 g≤2*A8 g
 |.nil=>Nat.le_refl _
 |.el n a k r=>by simp only[L4,A8];have:=HF k;have:=HF r;lia
 |.tx s r=>by simp only[L4,A8];have:=HF r;exact Pp this
 |.cm s r=>by simp only[L4,A8];have:=HF r;exact Pp this
 |.pi t d r=>by simp only[L4,A8];have:=HF r;exact Pp this
noncomputable def routs(cm:Bool):Bool→Fo→List Str
 |_,.nil=>[]
 |_,.el n a k r=>jn (startF n (withinL Ak (foundL a)) Ak (asOf (enterL Ak (foundL a)) a)::(outs cm (enterL Ak (foundL a)) (withinL Ak (foundL a)) k++[endF n]))::routs cm true r
 |b,.tx s r=>routs cm b r
 |b,.cm s r=>(if b=true then("\n":Str)++leafF (Nv s 0) cm else leafF (Nv s 0) cm++("\n":Str))::routs cm b r
 |b,.pi t d r=>(if b=true then("\n":Str)++leafF (RU t d 0) cm else leafF (RU t d 0) cm++("\n":Str))::routs cm b r
noncomputable def O2(cm:Bool):Fo→Prop
 |.nil=>True
 |.el _ _ _ r=>O2 cm r
 |.tx _ _=>False
 |.cm s r=>leafF (Nv s 0) cm≠("":Str)∧O2 cm r
 |.pi t d r=>leafF (RU t d 0) cm≠("":Str)∧O2 cm r
theorem JT{T:List Nd}{cm:Bool}:∀(g:Fo) {ks:List Nat} {b:Bool},O2 cm g→GS cm Ak Ak g→A8 g≤400→Fn T Ak 0 g ks→BD T cm 0 ks b (routs cm b g)
 |.nil=>by
  rintro _ _ _ h;exact rr h .nil
 |.tx s r=>by
  rintro h _ _ _;exact h.elim
 |.cm s r=>by
  rintro⟨hne,hrt⟩ ⟨⟨h1,h2⟩,hr⟩ hc ⟨i,ks',e,hi,h⟩;refine rr e ?_;have hl:Hw (Nv s 0) cm:=⟨.inr (.inl rfl),h1,(show("":Str).length≤1000 by decide+kernel),h2⟩
  exact .leaf hi hl (by show ¬(("comment":Str)=("text":Str));decide+kernel) hne (JT r hrt hr (by simp only[A8]at hc;exact QX hc) h)
 |.pi t d r=>by
  rintro⟨hne,hrt⟩ ⟨⟨h1,h2,h3⟩,hr⟩ hc ⟨i,ks',e,hi,h⟩;refine rr e ?_;have hl:Hw (RU t d 0) cm:=⟨.inr (.inr rfl),h1,h2,h3⟩
  exact .leaf hi hl (by show ¬(("instruction":Str)=("text":Str));decide+kernel) hne (JT r hrt hr (by simp only[A8]at hc;exact QX hc) h)
 |.el n a k r=>by
  rintro hrt ⟨ok,hk,hr⟩ hc ⟨i,ks',e,⟨y,y1,y2,y3,y4,y5,y6,y7,y8,y9⟩,h⟩;refine rr e ?_;simp only[A8]at hc;have hkl:=C3 T k y9;have hcn:=HF k
  have hel:Lv y (withinL Ak (foundL a)) Ak (asOf (enterL Ak (foundL a)) a):=
   ⟨ok.scok,by rw[y8];exact ok.al,by unfold asOf;rw[List.length_map];exact ok.al,ok.aok,ok.hso,ok.hsl,by rw[y3];exact ok.nl,by rw[y7];have:=ok.st.len;have:(foundL a).length≤a.length:=List.length_filterMap_le ..;lia,by exact am hc hkl,by rw[y3];exact ok.pl⟩
  have hn:=BD.elem (cm:=cm) (r:=0) (m:=L4 k) (b:=by assumption) y1 y2 y4 y5 y6 hel (Gr k hk (by exact Yl hc) y9) (by exact Z0 hc hcn) (JT r hrt hr (by exact Tg hc) h);rw[y3]at hn;exact hn
theorem Ia{m:Nat}:∀l:List Str,(∀s∈l,s.length≤m)→(l.flatMap cl).length≤l.length*m
 |[],_=>Nat.zero_le _
 |s::l,h=>by
  refine rr List.flatMap_cons (rr List.length_append (rr List.length_cons (rr (Nat.succ_mul ..) (rr (Ai ..) ?_))));have:=h s (.head _);have:=Ia l (fun z hz=>h z (.tail _ hz));lia
theorem E7{cm:Bool}:∀(g:Fo) {bs sc:Sc},(outs cm bs sc g).length=L4 g
 |.nil=>by
  exact rfl
 |.el n a k r=>by
  simp only[outs,L4];exact rr List.length_append (rr List.length_cons (rr List.length_append (rr List.length_singleton (rr (E7 k) (rr (E7 r) rfl)))))
 |.tx s r=>by
  simp only[outs,L4];exact rr List.length_append (rr List.length_singleton (rr (E7 r) rfl))
 |.cm s r=>by
  simp only[outs,L4];exact rr List.length_append (rr List.length_singleton (rr (E7 r) rfl))
 |.pi t d r=>by
  simp only[outs,L4];exact rr List.length_append (rr List.length_singleton (rr (E7 r) rfl))
theorem MA(n:Str):(endF n).length=n.length+3:=by
 unfold endF;exact rr (AX ..) (rr (AX ..) (rr (show("</":Str).length=2 by decide+kernel) (rr (show(">":Str).length=1 by decide+kernel) YQ)))
set_option tactic.hygienic true in
theorem Gm{cm:Bool}:∀(g:Fo) {bs sc:Sc},GS cm bs sc g→∀s∈outs cm bs sc g,s.length≤5000
 |.nil=>by
  rintro _ s hs;cases hs
 |.el n a k r=>by
  rename_i bs sc;rintro⟨ok,hk,hr⟩ s hs;simp only[outs,List.mem_append,List.mem_cons,List.not_mem_nil,or_false]at hs;rcases hs with(rfl|hs|rfl)|hs
  ·exact ok.pl
  ·exact Gm k hk s hs
  ·refine rr (MA ..) ?_;have:=ok.nl;exact XH this
  ·exact Gm r hr s hs
 |.tx t r=>by
  rename_i bs sc;rintro⟨h,hr⟩ s hs;simp only[outs,List.mem_append,List.mem_cons,List.not_mem_nil,or_false]at hs;rcases hs with rfl|hs
  ·exact h.2
  ·exact Gm r hr s hs
 |.cm t r=>by
  rename_i bs sc;rintro⟨h,hr⟩ s hs;simp only[outs,List.mem_append,List.mem_cons,List.not_mem_nil,or_false]at hs;rcases hs with rfl|hs
  ·exact h.2
  ·exact Gm r hr s hs
 |.pi t d r=>by
  rename_i bs sc;rintro⟨h,hr⟩ s hs;simp only[outs,List.mem_append,List.mem_cons,List.not_mem_nil,or_false]at hs;rcases hs with rfl|hs
  ·exact h.2.2
  ·exact Gm r hr s hs
set_option tactic.hygienic true in
theorem GR{cm:Bool}:∀(g:Fo) {b:Bool},GS cm Ak Ak g→A8 g≤400→∀s∈routs cm b g,s.length≤5000000
 |.nil=>by
  rintro _ _ s hs;cases hs
 |.el n a k r=>by
  rename_i b;rintro⟨ok,hk,hr⟩ hc s hs;simp only[A8]at hc;simp only[routs,List.mem_cons]at hs;rcases hs with rfl|hs
  ·refine rl (Ai ..) (rr (N4 ..) ?_);refine Nat.le_trans (Ia (m:=5000) _ fun s hs=>?_) ?_
   ·simp only[List.mem_append,List.mem_cons,List.not_mem_nil,or_false]at hs;rcases hs with rfl|hs|rfl
    ·exact ok.pl
    ·exact Gm k hk s hs
    ·refine rr (MA ..) ?_;have:=ok.nl;exact XH this
   ·refine rr List.length_cons (rr List.length_append (rr List.length_singleton (rr (E7 ..) ?_)));have:=HF k;exact aK hc this
  ·exact GR r hr (by exact Tg hc) s hs
 |.tx t r=>by
  rename_i b;rintro⟨h,hr⟩ hc s hs;exact GR r hr (by simp only[A8]at hc;exact QX hc) s hs
 |.cm t r=>by
  rename_i b;rintro⟨h,hr⟩ hc s hs;simp only[routs,List.mem_cons]at hs;rcases hs with rfl|hs
  ·have e1:("\n":Str).length=1:=by decide+kernel
   have:=h.2;split<;>refine rr (AX ..) (rr e1 ?_)<;>lia
  ·exact GR r hr (by simp only[A8]at hc;exact QX hc) s hs
 |.pi t d r=>by
  rename_i b;rintro⟨h,hr⟩ hc s hs;simp only[routs,List.mem_cons]at hs;rcases hs with rfl|hs
  ·have e1:("\n":Str).length=1:=by decide+kernel
   have:=h.2.2;split<;>refine rr (AX ..) (rr e1 ?_)<;>lia
  ·exact GR r hr (by simp only[A8]at hc;exact QX hc) s hs
theorem RK{cm:Bool}{g:Fo}(hrt:O2 cm g)(ok:GS cm Ak Ak g)(hc:A8 g≤380)(h3:(routs cm false g).length≤3):∃T,Hc cm (evs g) T (routs cm false g):=by
 obtain⟨T',ks,hb⟩:=IJ g (T:=Nu) (p:=0) (scs:=[Ak]) (bs:=Ak) (sc:=Ak) ok rfl (.inl rfl) (by show 1+_≤_;exact Vf hc) (by show 0+_≤_;exact cU hc) rfl (by show 1+_≤_;exact U6 hc);have hl:=hb.len;have hfo:=hb.out T' (fun _ _ _=>rfl);have hkl:=C3 T' g hfo;have hrun:=hb.run (rest:=[]) .nil;rw[List.append_nil]at hrun;refine⟨T',⟨_,hrun⟩,by refine rr hl ?_;show 1+_≤_;exact WP hc,⟨_,hb.at',rfl,rfl,rfl,?_,?_⟩,h3,GR g ok (by exact TR hc)⟩
 ·show([]++ks).length≤_;exact rr (List.nil_append ..) (W1 hc hkl)
 ·show BD T' cm 0 ([]++ks) false _;exact JT g hrt ok (by exact TR hc) hfo
noncomputable def HA(cm:Bool)(bs sc:Sc)(g:Fo):List Nat:=(outs cm bs sc g).flatMap cl
theorem UI{cm:Bool}{n:Str}{a:List (Str×Str)}{k:Fo}(ok:GS cm Ak Ak (.el n a k .nil))(hc:A8 (.el n a k .nil)≤380):∃T o,Hc cm (evs (.el n a k .nil)) T o∧cl (jn o)=HA cm Ak Ak (.el n a k .nil):=by
 obtain⟨T,h⟩:=RK (g:=.el n a k .nil) (cm:=cm) trivial ok hc (by simp[routs]);refine⟨T,_,h,?_⟩;refine rr (N4 ..) ?_;simp only[routs,List.flatMap_cons,List.flatMap_nil,List.append_nil];refine rr (N4 ..) ?_;unfold HA;simp[outs]
noncomputable abbrev xmlU:Str:="http://www.w3.org/XML/1998/namespace"
noncomputable def sD:Str:=("d":Str)
noncomputable def JO:Str:=("e":Str)
structure St where
 d:Option Str
 p:Bool
 q:Bool
 r:Bool
noncomputable def sE:Str:=("":Str)
noncomputable def sP:Str:=("p":Str)
noncomputable def sQ:Str:=("q":Str)
noncomputable def sR:Str:=("r":Str)
noncomputable def sX:Str:=("xml":Str)
noncomputable def sU:Str:=("u":Str)
noncomputable def sV:Str:=("v":Str)
noncomputable def sA:Str:=("a":Str)
noncomputable def fS(st:St)(k:Str):Option Str:=
 if k=sX then some xmlU else if k=sE then st.d else if k=sP then(if st.p then some sU else none)else if k=sQ then(if st.q then some sV else none)else if k=sR then(if st.r then some sA else none)else none
noncomputable def upd(f:Str→Option Str)(p:Str×Str):Str→Option Str:=fun k=>if k=p.1 then(if p.2=sE then none else some p.2)else f k
theorem MJ(l:Sc)(k v x:Str):AG (putS l k v) x=if x=k then some v else AG l x:=by
 unfold putS;by_cases h:l.any (fun p=>decide (p.1=k))=true
 ·refine rr (if_pos h) ?_
  have key:∀l:Sc,AG (l.map fun p=>if p.1=k then(p.1,v)else p) x=if x=k then(AG l x).map (fun _=>v)else AG l x:=by
   intro l
   induction l with
   |nil=>split<;>rfl
   |cons p l ih=>
    obtain⟨a,b⟩:=p;refine rr List.map_cons ?_;show AG ((if a=k then(a,v)else(a,b))::_) x=_;by_cases ha:a=k
    ·refine rr (if_pos ha) (rr (AN ..) (rr (AN ..) (rr ih ?_)));by_cases hx:a=x
     ·refine rr (if_pos hx) (rr (if_pos hx) (rr (if_pos (by rw[←hx,ha])) ?_));rfl
     ·exact rr (if_neg hx) (rr (if_neg hx) rfl)
    ·refine rr (if_neg ha) (rr (AN ..) (rr (AN ..) (rr ih ?_)));by_cases hx:a=x
     ·exact rr (if_pos hx) (rr (if_pos hx) (rr (if_neg (fun e=>ha (hx.trans e))) rfl))
     ·exact rr (if_neg hx) (rr (if_neg hx) rfl)
  refine rr (key ..) ?_;by_cases hx:x=k
  ·refine rr (if_pos hx) (rr (if_pos hx) ?_);obtain⟨p,hp,hpk⟩:=List.any_eq_true.mp h
   have:(AG l x).isSome=true:=by
    obtain⟨u,hu⟩:=GJ (sc:=l) (p:=x) (List.mem_map.mpr ⟨p,hp,(of_decide_eq_true hpk).trans hx.symm⟩);refine rr hu ?_;rfl
   cases w:AG l x with
   |none=>rw[w]at this;cases this
   |some u=>rfl
  ·exact rr (if_neg hx) (rr (if_neg hx) rfl)
 ·refine rr (if_neg h) ?_;have hno:∀p∈l,p.1≠k:=fun p hp e=>h (List.any_eq_true.mpr ⟨p,hp,decide_eq_true e⟩)
  have app:∀l:Sc,(∀p∈l,p.1≠k)→AG (l++[(k,v)]) x=if x=k then some v else AG l x:=by
   intro l
   induction l with
   |nil=>intro _;refine rr (List.nil_append ..) (rr (AN ..) ?_);by_cases hx:x=k<;>simp[hx,Ne.symm,eq_comm]<;>rfl
   |cons p l ih=>
    intro hl;obtain⟨a,b⟩:=p;have ha:=hl (a,b) (.head _);refine rr List.cons_append (rr (AN ..) (rr (AN ..) (rr (ih (fun p hp=>hl p (.tail _ hp))) ?_)));by_cases hx:a=x
    ·exact rr (if_pos hx) (rr (if_pos hx) (rr (if_neg (fun e=>ha (hx.trans e))) rfl))
    ·exact rr (if_neg hx) (rr (if_neg hx) rfl)
  exact app l hno
theorem RG(l:Sc)(k x:Str):AG (NL l k) x=if x=k then none else AG l x:=by
 unfold NL
 induction l with
 |nil=>split<;>rfl
 |cons p l ih=>
  obtain⟨a,b⟩:=p;refine rr List.filter_cons ?_;by_cases ha:a=k
  ·refine rr (if_neg (by simp[ha])) (rr ih (rr (AN ..) ?_));by_cases hx:x=k
   ·exact rr (if_pos hx) (rr (if_pos hx) rfl)
   ·exact rr (if_neg hx) (rr (if_neg hx) (rr (if_neg (fun e=>hx (e.symm.trans ha))) rfl))
  ·refine rr (if_pos (by simp[ha])) (rr (AN ..) (rr (AN ..) (rr ih ?_)));by_cases hx:a=x
   ·exact rr (if_pos hx) (rr (if_pos hx) (rr (if_neg (fun e=>ha (hx.trans e))) rfl))
   ·exact rr (if_neg hx) (rr (if_neg hx) rfl)
theorem O4(l:Sc)(p:Str×Str):AG (Cl l p)=upd (AG l) p:=by
 funext x
 unfold Cl upd;by_cases h:p.2=("":Str)
 ·refine rr (if_pos h) ?_;have h':p.2=sE:=h;refine rr (if_pos h') ?_;split
  ·exact RG l p.1 x
  ·rename_i hn;by_cases hx:x=p.1
   ·refine rr (if_pos hx) (rr hx ?_)
    cases w:AG l p.1 with
    |none=>rfl
    |some u=>exact absurd (by refine rr w ?_;rfl) hn
   ·exact rr (if_neg hx) rfl
 ·refine rr (if_neg h) ?_;have h':¬p.2=sE:=h;refine rr (if_neg h') ?_;exact MJ l p.1 p.2 x
theorem Mz(ds:List (Str×Str)):∀l:Sc,AG (withinL l ds)=ds.foldl upd (AG l):=by
 induction ds with
 |nil=>intro l;rfl
 |cons p ds ih=>
  intro l;show AG (withinL (Cl l p) ds)=_;refine rr (ih ..) (rr (O4 ..) ?_);rfl
theorem Pq{l:Sc}{k v:Str}(h:(l.map (·.1)).Nodup):((putS l k v).map (·.1)).Nodup:=by
 unfold putS;by_cases hk:l.any (fun p=>decide (p.1=k))=true
 ·refine rr (if_pos hk) (rr List.map_map ?_)
  have e:((fun p:Str×Str=>p.1)∘fun p=>if p.1=k then(p.1,v)else p)=fun p=>p.1:=by
   funext p;show(if p.1=k then(p.1,v)else p).1=p.1;split<;>rfl
  exact rr e h
 ·refine rr (if_neg hk) (rr List.map_append ?_);rw[List.nodup_append];refine⟨h,by simp,fun a ha b hb e=>?_⟩;simp at hb;subst hb;subst e;obtain⟨p,hp,hpa⟩:=List.mem_map.mp ha;exact hk (List.any_eq_true.mpr ⟨p,hp,decide_eq_true hpa⟩)
theorem PL{l:Sc}{p:Str×Str}(h:(l.map (·.1)).Nodup):((Cl l p).map (·.1)).Nodup:=by
 unfold Cl;split
 ·split
  ·unfold NL;exact(List.Sublist.map _ List.filter_sublist).nodup h
  ·exact h
 ·exact Pq h
theorem Mt{ds:List (Str×Str)}:∀{l:Sc},(l.map (·.1)).Nodup→((withinL l ds).map (·.1)).Nodup:=by
 induction ds with
 |nil=>intro l h;exact h
 |cons p ds ih=>intro l h;exact ih (l:=Cl l p) (PL h)
theorem HD{ds:List (Str×Str)}:∀{l:Sc},(withinL l ds).length≤l.length+ds.length:=by
 induction ds with
 |nil=>intro l;exact Nat.le_refl _
 |cons p ds ih=>
  intro l;have h1:=ih (l:=Cl l p);have h2:=IR l p;refine rr List.length_cons ?_;show(withinL (Cl l p) ds).length≤_;exact TK h1 h2
noncomputable def LP(f:Str→Option Str)(p:Str×Str):Str→Option Str:=fun k=>if k=p.1 then some p.2 else f k
theorem Jl(ds:List (Str×Str)):∀l:Sc,AG (enterL l ds)=ds.foldl LP (AG l):=by
 induction ds with
 |nil=>intro l;rfl
 |cons p ds ih=>
  intro l;show AG (enterL (putS l p.1 p.2) ds)=_;refine rr (ih ..) ?_;show ds.foldl LP (AG (putS l p.1 p.2))=ds.foldl LP (LP (AG l) p)
  congr 1
  funext x
  exact MJ l p.1 p.2 x
structure I9(sc:Sc)(st:St):Prop where
 nd:(sc.map (·.1)).Nodup
 lk:AG sc=fS st
structure Jr(bs:Sc)(st:St):Prop where
 lk:∀k,k≠sE→AG bs k=fS st k
 le:(AG bs sE).getD sE=st.d.getD sE
theorem El{sc:Sc}(h:(sc.map (·.1)).Nodup):∀{k u:Str},(k,u)∈sc→AG sc k=some u:=by
 induction sc with
 |nil=>intro k u h;cases h
 |cons p l ih=>
  intro k u hm;obtain⟨a,b⟩:=p;rw[List.map_cons,List.nodup_cons]at h;refine rr (AN ..) ?_;rcases List.mem_cons.mp hm with e|hm
  ·injection e with e1 e2;subst e1;subst e2;exact rr (if_pos rfl) rfl
  ·refine rr (if_neg (fun e=>h.1 (List.mem_map.mpr ⟨(k,u),hm,e.symm⟩))) ?_;exact ih h.2 hm
theorem Qd{sc:Sc}{k:Str}:k∈sc.map (·.1)↔(AG sc k).isSome=true:=by
 constructor
 ·intro h;obtain⟨u,hu⟩:=GJ h;refine rr hu ?_;rfl
 ·intro h
  cases w:AG sc k with
  |none=>rw[w]at h;cases h
  |some u=>exact List.mem_map.mpr ⟨(k,u),look_mem w,rfl⟩
theorem MK{l l':List Str}(h:l.Perm l'):Ci l=Ci l':=
 List.Perm.eq_of_pairwise (le:=R0) (fun a b _ _ h1 h2=>Str.ext' (List.le_antisymm h1 h2)) (Fe l) (Fe l') ((Dm l).trans (h.trans (Dm l').symm))
noncomputable def R3(a b c d:Bool):List Str:=(if a=true then[sE]else[])++(if b=true then[sP]else[])++(if c=true then[sQ]else[])++(if d=true then[sR]else[])++[sX]
theorem Oz:∀a b c d:Bool,Ci (R3 a b c d)=R3 a b c d:=by decide+kernel
theorem Ry:∀a b c d:Bool,(R3 a b c d).Nodup:=by decide+kernel
noncomputable def keyL(st:St):List Str:=R3 st.d.isSome st.p st.q st.r
theorem O5(st:St):Ci (keyL st)=keyL st:=Oz ..
theorem SR(st:St):(keyL st).Nodup:=Ry ..
theorem Rk(st:St){k:Str}(h1:k≠sX)(h2:k≠sE)(h3:k≠sP)(h4:k≠sQ)(h5:k≠sR):fS st k=none:=by unfold fS;exact rr (if_neg h1) (rr (if_neg h2) (rr (if_neg h3) (rr (if_neg h4) (rr (if_neg h5) rfl))))
theorem UB{P:Str→Prop}(hX:P sX)(hE:P sE)(hP:P sP)(hQ:P sQ)(hR:P sR)(ho:∀k,k≠sX→k≠sE→k≠sP→k≠sQ→k≠sR→P k)(k:Str):P k:=by
 by_cases h1:k=sX
 ·exact rr h1 hX
 by_cases h2:k=sE
 ·exact rr h2 hE
 by_cases h3:k=sP
 ·exact rr h3 hP
 by_cases h4:k=sQ
 ·exact rr h4 hQ
 by_cases h5:k=sR
 ·exact rr h5 hR
 exact ho k h1 h2 h3 h4 h5
theorem QZ(st:St)(k:Str):k∈keyL st↔(fS st k).isSome=true:=by
 obtain⟨d,p,q,r⟩:=st
 have key:∀k∈[sX,sE,sP,sQ,sR],∀p q r:Bool,k∈keyL ⟨d,p,q,r⟩↔(fS ⟨d,p,q,r⟩ k).isSome=true:=by
  cases d with
  |none=>exact of_decide_eq_true (by kernel_rfl)
  |some u=>exact of_decide_eq_true (by kernel_rfl)
 have sub:∀p q r:Bool,∀k∈keyL ⟨d,p,q,r⟩,k∈[sX,sE,sP,sQ,sR]:=by
  cases d with
  |none=>exact of_decide_eq_true (by kernel_rfl)
  |some u=>exact of_decide_eq_true (by kernel_rfl)
 refine UB (P:=fun k=>k∈keyL ⟨d,p,q,r⟩↔(fS ⟨d,p,q,r⟩ k).isSome=true) (key _ (.head _) p q r) (key _ (.tail _ (.head _)) p q r) (key _ (.tail _ (.tail _ (.head _))) p q r) (key _ (.tail _ (.tail _ (.tail _ (.head _)))) p q r)
  (key _ (.tail _ (.tail _ (.tail _ (.tail _ (.head _))))) p q r) (fun k h1 h2 h3 h4 h5=>?_) k
 refine rr (Rk _ h1 h2 h3 h4 h5) ?_;refine⟨fun w=>?_,fun w=>nomatch w⟩;have:=sub p q r k w;simp[h1,h2,h3,h4,h5]at this
theorem I9.keys{sc:Sc}{st:St}(h:I9 sc st):Ci (sc.map (·.1))=keyL st:=by
 refine rl (O5 st) ?_;refine MK ((List.perm_ext_iff_of_nodup h.nd (SR st)).mpr fun k=>?_);rw[Qd,h.lk,QZ]
noncomputable def td(s0 s1:St):List (Str×Str):=
 (if s0.d.isSome=true∧s1.d.isSome=false then[(sE,sE)]else[])++(if s1.d.isSome=true∧s0.d≠s1.d then[(sE,s1.d.getD sE)]else[])++
 (if s1.p=true∧s0.p=false then[(sP,sU)]else[])++(if s1.q=true∧s0.q=false then[(sQ,sV)]else[])++(if s1.r=true∧s0.r=false then[(sR,sA)]else[])
theorem MU(l m:List (Str×Str)):atsS (l++m)=atsS l++atsS m:=by unfold atsS;exact rr List.flatMap_append rfl
theorem Qn:cl ("":Str)=[]:=by decide+kernel
noncomputable def gF(f g:Str→Option Str)(l:List Str):Str:=
 l.foldl (fun acc p=>acc++(if p=("xml":Str)∨g p=f p then("":Str)else OI p ((f p).getD ("":Str)))) (if(g ("":Str)).isSome&&!(f ("":Str)).isSome then(" xmlns=\"\"":Str)else("":Str))
theorem QT:∀d0∈[none,some sD,some JO],∀d1∈[none,some sD,some JO],∀p0 p1 q0 q1 r0 r1:Bool,(p0=true→p1=true)→(q0=true→q1=true)→(r0=true→r1=true)→
  cl (gF (fS ⟨d1,p1,q1,r1⟩) (fS ⟨d0,p0,q0,r0⟩) (keyL ⟨d1,p1,q1,r1⟩))=atsS ((td ⟨d0,p0,q0,r0⟩ ⟨d1,p1,q1,r1⟩).map toldV):=by decide+kernel
theorem Jh{d:Option Str}(h:d=none∨d=some sD∨d=some JO):d∈[none,some sD,some JO]:=by
 rcases h with rfl|rfl|rfl
 ·exact .head _
 ·exact .tail _ (.head _)
 ·exact .tail _ (.tail _ (.head _))
theorem Pd{sc kn:Sc}{s0 s1:St}(hs:I9 sc s1)(hk:I9 kn s0)(h0:s0.d=none∨s0.d=some sD∨s0.d=some JO)(h1:s1.d=none∨s1.d=some sD∨s1.d=some JO)(hp:s0.p=true→s1.p=true)(hq:s0.q=true→s1.q=true)(hr:s0.r=true→s1.r=true):
  cl (K9 sc kn)=atsS ((td s0 s1).map toldV):=by
 have e:K9 sc kn=gF (AG sc) (AG kn) (Ci (sc.map (·.1))):=rfl;refine rr e (rr hs.lk (rr hk.lk (rr hs.keys ?_)));exact QT s0.d (Jh h0) s1.d (Jh h1) s0.p s1.p s0.q s1.q s0.r s1.r hp hq hr
noncomputable def DD6:List (Str×Str):=[(sE,sE),(sE,sD),(sE,JO),(sP,sU),(sQ,sV),(sR,sA)]
theorem Pn{A:List (Str×Str)}(k:Str):∀{f:Str→Option Str},(A.map (·.1)).Nodup→A.foldl upd f k=(match AG A k with|some u=>(if u=sE then none else some u)|none=>f k):=by
 induction A with
 |nil=>intro f _;rfl
 |cons p A ih=>
  intro f h;obtain⟨a,b⟩:=p;rw[List.map_cons,List.nodup_cons]at h;refine rr List.foldl_cons (rr (ih h.2) (rr (AN ..) ?_));by_cases hk:a=k
  ·refine rr (if_pos hk) ?_
   have:AG A k=none:=by
    cases w:AG A k with
    |none=>rfl
    |some u=>exact absurd (List.mem_map.mpr ⟨(k,u),look_mem w,hk.symm⟩) h.1
   refine rr this ?_;show upd f (a,b) k=_;unfold upd;exact rr (if_pos hk.symm) rfl
  ·refine rr (if_neg hk) ?_
   cases AG A k with
   |some u=>rfl
   |none=>
    show upd f (a,b) k=f k;unfold upd;exact rr (if_neg (fun e=>hk e.symm)) rfl
theorem K1{A:List (Str×Str)}(k:Str):∀{f:Str→Option Str},(A.map (·.1)).Nodup→A.foldl LP f k=(match AG A k with|some u=>some u|none=>f k):=by
 induction A with
 |nil=>intro f _;rfl
 |cons p A ih=>
  intro f h;obtain⟨a,b⟩:=p;rw[List.map_cons,List.nodup_cons]at h;refine rr List.foldl_cons (rr (ih h.2) (rr (AN ..) ?_));by_cases hk:a=k
  ·refine rr (if_pos hk) ?_
   have:AG A k=none:=by
    cases w:AG A k with
    |none=>rfl
    |some u=>exact absurd (List.mem_map.mpr ⟨(k,u),look_mem w,hk.symm⟩) h.1
   refine rr this ?_;show LP f (a,b) k=_;unfold LP;exact rr (if_pos hk.symm) rfl
  ·refine rr (if_neg hk) ?_
   cases AG A k with
   |some u=>rfl
   |none=>
    show LP f (a,b) k=f k;unfold LP;exact rr (if_neg (fun e=>hk e.symm)) rfl
theorem PI{A B:List (Str×Str)}(nd:(A.map (·.1)).Nodup)(h:A.Perm B)(k:Str):AG A k=AG B k:=by
 have ndB:(B.map (·.1)).Nodup:=(h.map _).nodup_iff.mp nd
 cases w:AG A k with
 |some u=>exact(El ndB (h.mem_iff.mp (look_mem w))).symm
 |none=>
  cases w2:AG B k with
  |none=>rfl
  |some u=>rw[El nd (h.mem_iff.mpr (look_mem w2))]at w;cases w
structure PQ(A:List (Str×Str))(st st':St):Prop where
 nd:(A.map (·.1)).Nodup
 mem:∀p∈A,p∈DD6
 len:A.length≤4
 to:∀k,(match AG A k with|some u=>(if u=sE then none else some u)|none=>fS st k)=fS st' k
theorem PQ.perm{A B:List (Str×Str)}{st st':St}(h:PQ A st st')(hp:A.Perm B):PQ B st st':=
 ⟨(hp.map _).nodup_iff.mp h.nd,fun p hp'=>h.mem p (hp.mem_iff.mpr hp'),by rw[←hp.length_eq];exact h.len,fun k=>by rw[←PI h.nd hp];exact h.to k⟩
theorem I9.step{sc:Sc}{st st':St}{A:List (Str×Str)}(h:I9 sc st)(d:PQ A st st'):I9 (withinL sc A) st':=
 ⟨Mt h.nd,by refine rr (Mz ..) (rr h.lk ?_);funext k;exact rr (Pn k d.nd) (d.to k)⟩
theorem Xq:∀p∈DD6,p.1≠sE→p.2≠sE:=by decide+kernel
theorem SH(st:St):fS st sE=st.d:=by unfold fS;exact rr (if_neg (by decide+kernel)) (rr (if_pos rfl) rfl)
theorem Jr.step{bs:Sc}{st st':St}{A:List (Str×Str)}(h:Jr bs st)(d:PQ A st st'):Jr (enterL bs A) st':=by
 refine⟨fun k hk=>?_,?_⟩
 ·refine rr (Jl ..) (rr (K1 k d.nd) (rl (d.to k) ?_))
  cases w:AG A k with
  |none=>exact h.lk k hk
  |some u=>
   have:=Xq _ (d.mem _ (look_mem w)) hk;show some u=if u=sE then none else some u;exact rr (if_neg this) rfl
 ·refine rr (Jl ..) (rr (K1 sE d.nd) (rl (SH st') (rl (d.to sE) ?_)))
  cases w:AG A sE with
  |none=>show(AG bs sE).getD sE=(fS st sE).getD sE;exact rr (SH ..) h.le
  |some u=>
   show u=(if u=sE then none else some u).getD sE;by_cases hu:u=sE
   ·exact rr (if_pos hu) hu
   ·refine rr (if_neg hu) ?_;rfl
theorem K4{A:List (Str×Str)}{bs:Sc}:(enterL bs A).length≤bs.length+A.length:=by
 induction A generalizing bs with
 |nil=>exact Nat.le_refl _
 |cons p A ih=>
  have h1:=ih (bs:=putS bs p.1 p.2);have h2:=Jn bs p.1 p.2;refine rr List.length_cons ?_;show(enterL (putS bs p.1 p.2) A).length≤_;exact TK h1 h2
noncomputable def BJ(st:St):Ax→St
 |.root _=>⟨some sD,true,st.q,st.r⟩
 |.el _ e=>⟨match e.dd with|none=>st.d|some u=>if u=sE then none else some u,st.p,st.q||e.q,st.r||e.r⟩
 |_=>st
theorem k2:¬sP=sX:=by decide+kernel
theorem k3:¬sQ=sX:=by decide+kernel
theorem k4:¬sR=sX:=by decide+kernel
theorem k5:¬sP=sE:=by decide+kernel
theorem k6:¬sQ=sE:=by decide+kernel
theorem k7:¬sR=sE:=by decide+kernel
theorem k8:¬sQ=sP:=by decide+kernel
theorem k9:¬sR=sP:=by decide+kernel
theorem k0:¬sR=sQ:=by decide+kernel
theorem XA(st:St):fS st sP=if st.p=true then some sU else none:=by unfold fS;exact rr (if_neg k2) (rr (if_neg k5) (rr (if_pos rfl) rfl))
theorem ZD(st:St):fS st sQ=if st.q=true then some sV else none:=by unfold fS;exact rr (if_neg k3) (rr (if_neg k6) (rr (if_neg k8) (rr (if_pos rfl) rfl)))
theorem bU(st:St):fS st sR=if st.r=true then some sA else none:=by unfold fS;exact rr (if_neg k4) (rr (if_neg k7) (rr (if_neg k9) (rr (if_neg k0) (rr (if_pos rfl) rfl))))
theorem cY(st:St):fS st sX=some xmlU:=by unfold fS;exact rr (if_pos rfl) rfl
noncomputable def S0(A:List (Str×Str))(s0 s1:St)(k:Str):Bool:=decide ((match AG A k with|some u=>(if u=sE then none else some u)|none=>fS s0 k)=fS s1 k)
noncomputable def QN(A:List (Str×Str))(s0 s1:St):Bool:=decide (A.map (·.1)).Nodup&&(A.all (fun p=>decide (p∈DD6))&&(A.length.ble 4&&[sX,sE,sP,sQ,sR].all (S0 A s0 s1)))
theorem dd_key:∀p∈DD6,p.1=sE∨p.1=sP∨p.1=sQ∨p.1=sR:=by decide+kernel
theorem N3{A:List (Str×Str)}{s0 s1:St}(h:QN A s0 s1=true):PQ A s0 s1:=by
 have h:=Bool.and_eq_true_iff.mp h;have g:=Bool.and_eq_true_iff.mp h.2;have k:=Bool.and_eq_true_iff.mp g.2;have hm:∀p∈A,p∈DD6:=fun p hp=>of_decide_eq_true (List.all_eq_true.mp g.1 p hp);have t:∀x∈[sX,sE,sP,sQ,sR],S0 A s0 s1 x=true:=List.all_eq_true.mp k.2;refine⟨of_decide_eq_true h.1,hm,Nat.le_of_ble_eq_true k.1,?_⟩
 refine UB (of_decide_eq_true (t _ (.head _))) (of_decide_eq_true (t _ (.tail _ (.head _)))) (of_decide_eq_true (t _ (.tail _ (.tail _ (.head _))))) (of_decide_eq_true (t _ (.tail _ (.tail _ (.tail _ (.head _))))))
  (of_decide_eq_true (t _ (.tail _ (.tail _ (.tail _ (.tail _ (.head _))))))) fun k h1 h2 h3 h4 h5=>?_
 cases w:AG A k with
 |none=>exact(Rk s0 h1 h2 h3 h4 h5).trans (Rk s1 h1 h2 h3 h4 h5).symm
 |some u=>rcases dd_key _ (hm _ (look_mem w))with e|e|e|e<;>contradiction
theorem Tx:∀d0∈[none,some sD,some JO],∀d1∈[none,some sD,some JO],∀p0 p1 q0 q1 r0 r1:Bool,(p0=true→p1=true)→(q0=true→q1=true)→(r0=true→r1=true)→
  QN (td ⟨d0,p0,q0,r0⟩ ⟨d1,p1,q1,r1⟩) ⟨d0,p0,q0,r0⟩ ⟨d1,p1,q1,r1⟩=true:=by decide+kernel
theorem bx{s0 s1:St}(h0:s0.d=none∨s0.d=some sD∨s0.d=some JO)(h1:s1.d=none∨s1.d=some sD∨s1.d=some JO)(hp:s0.p=true→s1.p=true)(hq:s0.q=true→s1.q=true)(hr:s0.r=true→s1.r=true):PQ (td s0 s1) s0 s1:=
 N3 (Tx s0.d (Jh h0) s1.d (Jh h1) s0.p s1.p s0.q s1.q s0.r s1.r hp hq hr)
noncomputable def QG(dd:Option Str)(q r:Bool):List (Str×Str):=LN.names ⟨dd,q,r,sE,0,sE⟩
theorem RJ:∀dd∈[none,some sE,some sD,some JO],∀d0∈[none,some sD,some JO],∀q r p0 q0 r0:Bool,
  QN (QG dd q r) ⟨d0,p0,q0,r0⟩ (BJ ⟨d0,p0,q0,r0⟩ (.el 0 ⟨dd,q,r,sE,0,sE⟩))=true∧(p0=true→QN ((sP,sU)::QG dd q r) ⟨d0,p0,q0,r0⟩ (BJ ⟨d0,p0,q0,r0⟩ (.el 0 ⟨dd,q,r,sE,0,sE⟩))=true):=by decide+kernel
theorem Qz:∀d0∈[none,some sD,some JO],∀p0 q0 r0:Bool,QN (Ax.root sE).names ⟨d0,p0,q0,r0⟩ (BJ ⟨d0,p0,q0,r0⟩ (.root sE))=true:=by decide+kernel
theorem RB{d:Option Str}(h:d=none∨d=some ("":Str)∨d=some ("d":Str)∨d=some ("e":Str)):d∈[none,some sE,some sD,some JO]:=by
 rcases h with rfl|rfl|rfl|rfl
 ·exact .head _
 ·exact .tail _ (.head _)
 ·exact .tail _ (.tail _ (.head _))
 ·exact .tail _ (.tail _ (.tail _ (.head _)))
theorem T9{ab:Nat}{e:LN}{st:St}(h:(Ax.el ab e).Ok)(h0:st.d=none∨st.d=some sD∨st.d=some JO)(hp:st.p=true):PQ ((sP,sU)::(Ax.el ab e).names) st (BJ st (.el ab e)):=
 N3 ((RJ e.dd (RB h.d) st.d (Jh h0) e.q e.r st.p st.q st.r).2 hp)
theorem SB{r:Ax}{st:St}(he:r.isEl=true)(h:r.Ok)(h0:st.d=none∨st.d=some sD∨st.d=some JO):PQ r.names st (BJ st r):=by
 cases r with
 |root w=>exact N3 (Qz st.d (Jh h0) st.p st.q st.r)
 |el ab e=>exact N3 (RJ e.dd (RB h.d) st.d (Jh h0) e.q e.r st.p st.q st.r).1
 |tx _ _=>cases he
 |cm _=>cases he
noncomputable def N5:List Str:=[("m":Str),("n":Str),("p:b":Str),("p:m":Str),("r:z":Str)]
noncomputable def Ho(n:Str):Str:=if n=("p:b":Str)∨n=("p:m":Str)then sU else if n=("r:z":Str)then sA else sE
noncomputable def ML(p:Str×Str):List Str:=[Ho p.1,ER p.1,p.1,p.2]
noncomputable def srt:Ax→List (Str×Str)
 |.root w=>[(("m":Str),w),(("p:b":Str),("1":Str))]
 |.el _ e=>(if 2≤e.np then[(("m":Str),("2":Str))]else[])++(if 1≤e.np then[(("n":Str),e.w)]else[])++(if e.r=true then[(("r:z":Str),("4":Str))]else[])++(if 3≤e.np then[(("p:m":Str),("3":Str))]else[])
 |_=>[]
theorem four(k:Nat)(h:k<4):k=0∨k=1∨k=2∨k=3:=by exact cb h
theorem JR{x:Ax}(he:x.isEl=true)(h:x.Ok):∀l,l=x.pairs∨l=x.pairs.reverse∨l=srt x→sortT (l.map ML)=(srt x).map ML∧l.Perm x.pairs:=by
 cases x with
 |root w=>
  rintro l (rfl|rfl|rfl)
  ·exact⟨by kernel_rfl,.refl _⟩
  ·exact⟨by kernel_rfl,List.reverse_perm _⟩
  ·exact⟨by kernel_rfl,.refl _⟩
 |el ab e=>
  obtain⟨dd,q,r,nm,np,w⟩:=e;have hk:np<4:=h.k;have e1:∀{a b c:Str×Str},[b,a].Perm [a,b]:=fun{a b c}=>List.Perm.swap ..;rintro l (rfl|rfl|rfl)
  ·refine⟨?_,.refl _⟩;rcases four np hk with rfl|rfl|rfl|rfl<;>cases r<;>kernel_rfl
  ·refine⟨?_,List.reverse_perm _⟩;rcases four np hk with rfl|rfl|rfl|rfl<;>cases r<;>kernel_rfl
  ·refine⟨?_,?_⟩
   ·rcases four np hk with rfl|rfl|rfl|rfl<;>cases r<;>kernel_rfl
   ·rcases four np hk with rfl|rfl|rfl|rfl<;>cases r
    ·exact .refl _
    ·exact .refl _
    ·exact .refl _
    ·exact .refl _
    ·exact(List.Perm.swap _ _ _)
    ·exact(List.Perm.swap _ _ _)
    ·exact(List.Perm.swap _ _ _)
    ·exact(List.Perm.swap _ _ _).trans (.cons _ (.cons _ (List.Perm.swap _ _ _)))
 |tx _ _=>cases he
 |cm _=>cases he
theorem Mf{x:Ax}(h:x.Ok):∀p∈x.pairs,p.1∈N5∧p.2.length≤3∧47∉cl p.2:=by
 have wd:∀w,Wd w→w.length≤3∧47∉cl w:=fun w hw=>⟨hw.1,fun z=>by have:=hw.2 _ z;revert this;decide⟩
 have c1:∀s∈[("1":Str),("2":Str),("3":Str),("4":Str)],s.length≤3∧47∉cl s:=by decide+kernel
 cases x with
 |root w=>
  intro p hp;simp only[Ax.pairs,List.mem_cons,List.not_mem_nil,or_false]at hp;rcases hp with rfl|rfl
  ·exact⟨.head _,wd w h⟩
  ·exact⟨.tail _ (.tail _ (.head _)),c1 _ (.head _)⟩
 |el ab e=>
  intro p hp;simp only[Ax.pairs,LN.pairs,List.mem_append]at hp;rcases hp with hp|hp
  ·have hp':=List.mem_of_mem_take hp;simp only[List.mem_cons,List.not_mem_nil,or_false]at hp';rcases hp' with rfl|rfl|rfl
   ·exact⟨.tail _ (.head _),wd _ h.wd⟩
   ·exact⟨.head _,c1 _ (.tail _ (.head _))⟩
   ·exact⟨.tail _ (.tail _ (.tail _ (.head _))),c1 _ (.tail _ (.tail _ (.head _)))⟩
  ·split at hp
   ·exact rr (List.mem_singleton.mp hp) (⟨.tail _ (.tail _ (.tail _ (.tail _ (.head _)))),c1 _ (.tail _ (.tail _ (.tail _ (.head _))))⟩)
   ·cases hp
 |tx _ _=>intro p hp;cases hp
 |cm _=>intro p hp;cases hp
theorem V6:∀n∈[("m":Str),("n":Str),("p:b":Str),("p:m":Str)],¬n=("r:z":Str):=by decide+kernel
theorem SV{x:Ax}:∀p∈x.pairs,p.1=("r:z":Str)→∃ab e,x= .el ab e∧e.r=true:=by
 cases x with
 |root w=>
  intro p hp e;simp only[Ax.pairs,List.mem_cons,List.not_mem_nil,or_false]at hp;rcases hp with rfl|rfl
  ·exact absurd e (V6 _ (.head _))
  ·exact absurd e (V6 _ (.tail _ (.tail _ (.head _))))
 |el ab el=>
  intro p hp e;refine⟨ab,el,rfl,?_⟩;simp only[Ax.pairs,LN.pairs,List.mem_append]at hp;rcases hp with hp|hp
  ·have hp':=List.mem_of_mem_take hp;simp only[List.mem_cons,List.not_mem_nil,or_false]at hp';rcases hp' with rfl|rfl|rfl
   ·exact absurd e (V6 _ (.tail _ (.head _)))
   ·exact absurd e (V6 _ (.head _))
   ·exact absurd e (V6 _ (.tail _ (.tail _ (.tail _ (.head _)))))
  ·split at hp
   ·assumption
   ·cases hp
 |tx _ _=>intro p hp;cases hp
 |cm _=>intro p hp;cases hp
theorem QU{x:Ax}(h:x.Ok):(x.pairs.map fun p=>[Ho p.1,ER p.1]).Nodup:=by
 cases x with
 |root w=>exact(show([[Ho ("m":Str),ER ("m":Str)],[Ho ("p:b":Str),ER ("p:b":Str)]]:List (List Str)).Nodup by decide+kernel)
 |el ab e=>
  obtain⟨dd,q,r,nm,np,w⟩:=e;have hk:np<4:=h.k;have key:∀(k:_root_.Fin 4) (r:Bool),(([("n":Str),("m":Str),("p:m":Str)].take k.val++(if r=true then[("r:z":Str)]else[])).map fun n=>[Ho n,ER n]).Nodup:=by decide+kernel
  have e1:((Ax.el ab ⟨dd,q,r,nm,np,w⟩).pairs.map fun p=>[Ho p.1,ER p.1])=([("n":Str),("m":Str),("p:m":Str)].take np++(if r=true then[("r:z":Str)]else[])).map fun n=>[Ho n,ER n]:=by
   rcases four np hk with rfl|rfl|rfl|rfl<;>cases r<;>rfl
  exact rr e1 (key ⟨np,hk⟩ r)
 |tx _ _=>exact List.nodup_nil
 |cm _=>exact List.nodup_nil
noncomputable def NMK:List Str:=N5++[("p:a":Str),("c":Str),("p:c":Str),("q:c":Str),("b":Str),("d":Str),("e":Str),("a":Str),("z":Str),("q:m":Str),("r:n":Str)]
theorem Ha:∀n∈NMK,Gq n (Dj n) (ER n):=by
 have h:∀n∈NMK,Txt.split n (":":Str)=(if Dj n=("":Str)then[n]else[Dj n,ER n])∧(Dj n=("":Str)→ER n=n)∧(Dj n≠("":Str)→Ot (Dj n)=true∧PM (Dj n)=true∧(Dj n).length≤100)∧(Ot (ER n)=true∧PM (ER n)=true∧(ER n).length≤100)∧n.length≤1000∧
   (Builtin.Str.partsBetween n (Builtin.Str.occurrences n (":":Str) 0 n.length (n.length+1)) (":":Str).length).length≤100000:=by decide+kernel
 intro n hn;obtain⟨h1,h2,h3,h4,h5,h6⟩:=h n hn;exact⟨h1,h2,h3,h4,h5,h6⟩
theorem DP:∀n∈NMK,Dj n≠("xmlns":Str)∧n.length≤3:=by decide+kernel
theorem JQ:∀p∈DD6,declL (toldV p).1=some p.1∧NI (toldV p)∧(toldV p).1.length≤7∧p.2.length≤1:=by
 have h:∀p∈DD6,declL (toldV p).1=some p.1∧(toldV p).1≠("xmlns:":Str)∧(toldV p).1.length≤7∧p.2.length≤1∧p.1≠("xmlns":Str)∧p.1≠("xml":Str)∧p.2≠("http://www.w3.org/XML/1998/namespace":Str)∧p.2≠("http://www.w3.org/2000/xmlns/":Str)∧
   (p.1≠("":Str)→Ot p.1=true∧PM p.1=true∧p.1.length≤100∧p.2≠("":Str)):=by decide+kernel
 intro p hp;obtain⟨h1,h2,h3,h4,h5,h6,h7,h8,h9⟩:=h p hp;refine⟨h1,⟨h2,by exact XZ h3,fun q hq=>?_⟩,h3,h4⟩;rw[h1]at hq
 injection hq with hq
 subst hq;exact⟨h5,h6,h7,h8,h9⟩
theorem MH:∀n∈N5,declL n=none∧n≠("xmlns:":Str):=by decide+kernel
theorem HM{n:Str}(h:n∈N5):n∈NMK:=List.mem_append_left _ h
theorem Jm:∀A:List (Str×Str),(∀p∈A,p∈DD6)→foundL (A.map toldV)=A∧othersL (A.map toldV)=[]
 |[],_=>⟨rfl,rfl⟩
 |p::A,h=>by
  obtain⟨h1,h2⟩:=Jm A fun p hp=>h p (.tail _ hp);have hd:=(JQ p (h p (.head _))).1
  constructor
  ·unfold foundL;refine rr List.map_cons (rr List.filterMap_cons (rr hd ?_));show(p.1,(toldV p).2)::foundL (A.map toldV)=_;refine rr h1 ?_;rfl
  ·unfold othersL;refine rr List.map_cons (rr List.filter_cons (rr hd ?_));exact h2
theorem IW:∀l:List (Str×Str),(∀p∈l,p.1∈N5)→foundL l=[]∧othersL l=l
 |[],_=>⟨rfl,rfl⟩
 |p::l,h=>by
  obtain⟨h1,h2⟩:=IW l fun p hp=>h p (.tail _ hp);have hd:=(MH p.1 (h p (.head _))).1
  constructor
  ·unfold foundL;refine rr List.filterMap_cons (rr hd ?_);exact h1
  ·unfold othersL;refine rr List.filter_cons (rr hd ?_);show p::othersL l=_;exact rr h2 rfl
theorem Go(a b:List (Str×Str)):foundL (a++b)=foundL a++foundL b∧othersL (a++b)=othersL a++othersL b:=⟨List.filterMap_append ..,List.filter_append ..⟩
noncomputable def GO(st:St):Prop:=st.d=none∨st.d=some sD∨st.d=some JO
theorem GO.ne{st:St}(h:GO st):st.d≠some sE:=by
 have h1:¬sD=sE:=by decide+kernel
 have h2:¬JO=sE:=by decide+kernel
 rcases h with h|h|h<;>refine rr h ?_
 ·exact fun e=>nomatch e
 ·exact fun e=>h1 (by injection e)
 ·exact fun e=>h2 (by injection e)
theorem Pa{st:St}(h:GO st){k u:Str}(e:fS st k=some u):k.length≤3∧u.length≤40:=by
 have c:∀k∈[sX,sE,sP,sQ,sR],k.length≤3:=by decide+kernel
 have d:∀u∈[xmlU,sD,JO,sU,sV,sA],u.length≤40:=by decide+kernel
 refine UB (P:=fun k=>fS st k=some u→k.length≤3∧u.length≤40) ?_ ?_ ?_ ?_ ?_ ?_ k e
 ·refine rr (cY ..) ?_;intro e;injection e with e;subst e;exact⟨c _ (.head _),d _ (.head _)⟩
 ·refine rr (SH ..) ?_;intro e;refine⟨c _ (.tail _ (.head _)),?_⟩;rcases h with h|h|h<;>rw[h]at e
  ·cases e
  ·injection e with e;subst e;exact d _ (.tail _ (.head _))
  ·injection e with e;subst e;exact d _ (.tail _ (.tail _ (.head _)))
 ·refine rr (XA ..) ?_;intro e;split at e
  ·injection e with e;subst e;exact⟨c _ (.tail _ (.tail _ (.head _))),d _ (.tail _ (.tail _ (.tail _ (.head _))))⟩
  ·cases e
 ·refine rr (ZD ..) ?_;intro e;split at e
  ·injection e with e;subst e;exact⟨c _ (.tail _ (.tail _ (.tail _ (.head _)))),d _ (.tail _ (.tail _ (.tail _ (.tail _ (.head _)))))⟩
  ·cases e
 ·refine rr (bU ..) ?_;intro e;split at e
  ·injection e with e;subst e;exact⟨c _ (.tail _ (.tail _ (.tail _ (.tail _ (.head _))))),d _ (.tail _ (.tail _ (.tail _ (.tail _ (.tail _ (.head _))))))⟩
  ·cases e
 ·intro k h1 h2 h3 h4 h5 e;rw[Rk _ h1 h2 h3 h4 h5]at e;cases e
theorem SU{sc:Sc}{st:St}(hs:I9 sc st)(h:GO st)(hl:sc.length≤30):Ra sc:=by
 refine⟨hl,fun p hp=>?_⟩;have e:=El hs.nd (k:=p.1) (u:=p.2) hp;rw[hs.lk]at e;obtain⟨h1,h2⟩:=Pa h e;exact⟨by exact R9 h1,(CA (by exact b5 h2)).fv,by have:=Dv p.2;exact WD h2 this⟩
theorem OL{p:Str×Str}{m k:Nat}(h1:p.1.length≤m)(h2:p.2.length≤k):(M3 p).length≤m+6*k+4:=by
 unfold M3;have:=Dv p.2;exact rr List.length_cons (rr List.length_append (rr (Ai ..) (rr List.length_cons (rr List.length_cons (rr List.length_append (rr (Ai ..) (rr List.length_singleton (Xp h1 h2 this))))))))
theorem Jt{m:Nat}:∀l:List (Str×Str),(∀p∈l,(M3 p).length≤m)→(atsS l).length≤l.length*m
 |[],_=>Nat.zero_le _
 |p::l,h=>by
  have h1:=h p (.head _);have h2:=Jt l fun p hp=>h p (.tail _ hp);show(M3 p++atsS l).length≤_;exact rr List.length_append (rr List.length_cons (rr (Nat.succ_mul ..) (WE h1 h2)))
theorem Tz(p:Str×Str):cl (Rn (ML p))=M3 p:=by
 unfold Rn ML;show cl ((" ":Str)++p.1++("=\"":Str)++DE p.2++("\"":Str))=_;refine rr (CQ ..) (rr (CQ ..) (rr (CQ ..) (rr (CQ ..) ?_)));have e1:cl ("=\"":Str)=[61,34]:=by decide+kernel
 have e2:cl ("\"":Str)=[34]:=by decide+kernel
 have e3:cl (" ":Str)=[32]:=by decide+kernel
 refine rr e1 (rr e2 (rr e3 ?_));simp[M3]
theorem RX{as:List (List Str)}{l:List (Str×Str)}(h:sortT as=l.map ML):cl (Mg as)=atsS l:=by
 unfold Mg;refine rr h ?_;have e:Txt.join ("":Str) ((l.map ML).map Rn)=jn ((l.map ML).map Rn):=rfl;refine rr e (rr (N4 ..) ?_);unfold atsS;refine rr List.map_map (rr (List.flatMap_map ..) ?_)
 congr 1
 funext p
 exact Tz p
theorem Ow(n:Str)(sc kn:Sc)(as:List (List Str)):cl (startF n sc kn as)=60::(cl n++cl (K9 sc kn)++cl (Mg as)++[62]):=by
 unfold startF;refine rr (CQ ..) (rr (CQ ..) (rr (CQ ..) (rr (CQ ..) ?_)));have e1:cl ("<":Str)=[60]:=by decide+kernel
 have e2:cl (">":Str)=[62]:=by decide+kernel
 refine rr e1 (rr e2 ?_);simp
theorem OB(n:Str):cl (endF n)=60::47::(cl n++[62]):=by
 unfold endF;refine rr (CQ ..) (rr (CQ ..) ?_);have e1:cl ("</":Str)=[60,47]:=by decide+kernel
 have e2:cl (">":Str)=[62]:=by decide+kernel
 refine rr e1 (rr e2 ?_);simp
theorem Gj{x:Ax}(he:x.isEl=true)(h:x.Ok):x.name∈NMK:=by
 cases x with
 |root w=>exact(show("p:a":Str)∈NMK by decide+kernel)
 |el ab e=>
  show e.nm∈NMK;rcases h.n with h|h|h
  ·refine rr h ?_;decide+kernel
  ·refine rr h ?_;decide+kernel
  ·refine rr h.1 ?_;decide+kernel
 |tx _ _=>cases he
 |cm _=>cases he
theorem EL{x:Ax}{st:St}(h:x.Ok)(hst:GO st):GO (BJ st x):=by
 cases x with
 |root w=>exact .inr (.inl rfl)
 |el ab e=>
  show GO ⟨match e.dd with|none=>st.d|some u=>if u=sE then none else some u,_,_,_⟩;have h1:¬sD=sE:=by decide+kernel
  have h2:¬JO=sE:=by decide+kernel
  rcases h.d with h|h|h|h<;>refine rr h ?_
  ·exact hst
  ·exact .inl (show(if sE=sE then none else some sE)=none from if_pos rfl)
  ·exact .inr (.inl (show(if sD=sE then none else some sD)=some sD from if_neg h1))
  ·exact .inr (.inr (show(if JO=sE then none else some JO)=some JO from if_neg h2))
 |tx _ _=>exact hst
 |cm _=>exact hst
theorem Bo(x:Ax)(st:St):(st.p=true→(BJ st x).p=true)∧(st.q=true→(BJ st x).q=true)∧(st.r=true→(BJ st x).r=true):=by
 cases x with
 |root w=>exact⟨fun _=>rfl,id,id⟩
 |el ab e=>exact⟨id,fun h=>by show(st.q||e.q)=true;refine rr h ?_;rfl,fun h=>by show(st.r||e.r)=true;refine rr h ?_;rfl⟩
 |tx _ _=>exact⟨id,id,id⟩
 |cm _=>exact⟨id,id,id⟩
noncomputable def M8(st:St)(x:Ax):List Nat:=60::(cl x.name++atsS ((td st (BJ st x)).map toldV++srt x)++[62])
structure Q4(st:St)(x:Ax)(A ps:List (Str×Str))(a:List (Str×Str)):Prop where
 el:x.isEl=true
 ok:x.Ok
 so:GO st
 p:(BJ st x).p=true
 d:PQ A st (BJ st x)
 hps:ps=x.pairs∨ps=x.pairs.reverse∨ps=srt x
 ha:a=A.map toldV++ps∨a=ps++A.map toldV
theorem NO{x:Ax}(he:x.isEl=true)(h:x.Ok):∀p∈srt x,p.1∈N5∧p.2.length≤3∧47∉cl p.2:=fun p hp=>Mf h p (((JR he h _ (.inr (.inr rfl))).2.mem_iff).mp hp)
theorem LM{x:Ax}(he:x.isEl=true)(h:x.Ok):(srt x).length≤4:=by exact rr ((JR he h _ (.inr (.inr rfl))).2.length_eq) (DD x)
theorem OW{st:St}{x:Ax}(he:x.isEl=true)(h:x.Ok)(hst:GO st):(M8 st x).length≤200:=by
 unfold M8;have hd:=bx hst (EL h hst) (Bo x st).1 (Bo x st).2.1 (Bo x st).2.2;have h1:=(DP _ (Gj he h)).2
 have h2:(atsS ((td st (BJ st x)).map toldV)).length≤_*17:=Jt _ fun p hp=>by
  obtain⟨q,hq,rfl⟩:=List.mem_map.mp hp;obtain⟨_,_,a1,a2⟩:=JQ q (hd.mem q hq);exact OL (m:=7) (k:=1) a1 a2
 rw[List.length_map]at h2
 have h3:(atsS (srt x)).length≤(srt x).length*25:=Jt _ fun p hp=>by
  obtain⟨a1,a2,_⟩:=NO he h p hp;exact OL (m:=3) (k:=3) (DP _ (HM a1)).2 a2
 have h4:=LM he h;have h5:=hd.len;refine rr (MU ..) (rr List.length_cons (rr List.length_append (rr List.length_append (rr List.length_append (rr (Ai ..) (rr List.length_singleton ?_))))));exact bM h1 h2 h3 h4 h5
theorem OX{st:St}{x:Ax}{A ps a:List (Str×Str)}(g:Q4 st x A ps a){bs sc:Sc}(hb:Jr bs st)(hbl:bs.length≤80)(hs:I9 sc st)(hsl:sc.length≤26):
  Uf bs sc x.name a∧foundL a=A∧othersL a=ps∧cl (startF x.name (withinL sc (foundL a)) sc (asOf (enterL bs (foundL a)) a))=M8 st x:=by
 obtain⟨hel,hok,hso,hp,hd,hps,ha⟩:=g;obtain⟨hsrt,hperm⟩:=JR hel hok ps hps;have hin:∀p∈ps,p.1∈N5∧p.2.length≤3∧47∉cl p.2:=fun p hp=>Mf hok p (hperm.mem_iff.mp hp);have hpl:ps.length≤4:=by exact rr hperm.length_eq (DD x)
 obtain⟨f1,f2⟩:=Jm A hd.mem;obtain⟨f3,f4⟩:=IW ps fun p hp=>(hin p hp).1
 have hfo:foundL a=A∧othersL a=ps:=by
  rcases ha with rfl|rfl
  ·exact rr ((Go _ _).1) (rr ((Go _ _).2) (rr f1 (rr f2 (rr f3 (rr f4 (⟨List.append_nil _,rfl⟩))))))
  ·exact rr ((Go _ _).1) (rr ((Go _ _).2) (rr f1 (rr f2 (rr f3 (rr f4 (⟨rfl,List.append_nil _⟩))))))
 obtain⟨hfa,hoa⟩:=hfo
 have hal:a.length≤8:=by
  have:=LR a;rw[hfa,hoa]at this;have:=hd.len;lia
 have hst':=EL (x:=x) hok hso;have hb':=hb.step hd;have hs':=hs.step hd;have lP:AG (enterL bs A) sP=some sU:=by exact rr (hb'.lk sP k5) (rr (XA ..) (rr (if_pos hp) rfl))
 have lR:∀p∈ps,p.1=("r:z":Str)→AG (enterL bs A) sR=some sA:=fun p hp2 e=>by
  obtain⟨ab,el,rfl,hr⟩:=SV p (hperm.mem_iff.mp hp2) e;refine rr (hb'.lk sR k7) (rr (bU ..) ?_);rw[if_pos];show(st.r||el.r)=true;exact rr hr (rr (Bool.or_true ..) rfl)
 have px:Dj ("m":Str)=sE∧Dj ("n":Str)=sE∧Dj ("p:b":Str)=sP∧Dj ("p:m":Str)=sP∧Dj ("r:z":Str)=sR:=by decide+kernel
 have ux:Ho ("m":Str)=sE∧Ho ("n":Str)=sE∧Ho ("p:b":Str)=sU∧Ho ("p:m":Str)=sU∧Ho ("r:z":Str)=sA:=by decide+kernel
 have huse:∀p∈ps,DN (enterL bs A) p.1=Ho p.1∧(Dj p.1≠("":Str)→(AG (enterL bs A) (Dj p.1)).isSome=true):=by
  intro p hp2;have h5:=(hin p hp2).1;have hr:=lR p hp2;revert h5 hr;generalize p.1=n;intro h5 hr;simp only[N5,List.mem_cons,List.not_mem_nil,or_false]at h5;have nP:¬sP=("":Str):=k5;have nR:¬sR=("":Str):=k7;rcases h5 with rfl|rfl|rfl|rfl|rfl
  ·exact⟨by unfold DN;rw[px.1,ux.1];exact if_pos rfl,fun z=>absurd px.1 z⟩
  ·exact⟨by unfold DN;rw[px.2.1,ux.2.1];exact if_pos rfl,fun z=>absurd px.2.1 z⟩
  ·exact⟨by unfold DN;refine rr px.2.2.1 (rr ux.2.2.1 (rr (if_neg nP) ?_));unfold EI;refine rr lP ?_;rfl,fun _=>by refine rr px.2.2.1 (rr lP ?_);rfl⟩
  ·exact⟨by unfold DN;refine rr px.2.2.2.1 (rr ux.2.2.2.1 (rr (if_neg nP) ?_));unfold EI;refine rr lP ?_;rfl,fun _=>by refine rr px.2.2.2.1 (rr lP ?_);rfl⟩
  ·exact⟨by unfold DN;refine rr px.2.2.2.2 (rr ux.2.2.2.2 (rr (if_neg nR) ?_));unfold EI;refine rr (hr rfl) ?_;rfl,fun _=>by refine rr px.2.2.2.2 (rr (hr rfl) ?_);rfl⟩
 have has:asOf (enterL bs A) a=ps.map ML:=by
  unfold asOf;refine rr hoa ?_;exact List.map_congr_left fun p hp2=>by show[DN (enterL bs A) p.1,_,_,_]=_;refine rr ((huse p hp2).1) ?_;rfl
 have htext:cl (startF x.name (withinL sc A) sc (asOf (enterL bs A) a))=M8 st x:=by
  refine rr (Ow ..) (rr has (rr (RX hsrt) (rr (Pd hs' hs hso hst' (Bo x st).1 (Bo x st).2.1 (Bo x st).2.2) ?_)));unfold M8;refine rr (MU ..) ?_;simp only[List.append_assoc]
 refine⟨⟨⟨by exact Pc hal,?_,by exact aM hbl,Ha _ (Gj hel hok),(DP _ (Gj hel hok)).1,?_,?_,?_,?_⟩,by exact dm hsl,?_,by rw[hoa];exact hpl,?_,?_,?_,by have:=(DP _ (Gj hel hok)).2;exact R9 this,?_⟩,hfa,hoa,by rw[hfa];exact htext⟩
 ·intro p hp2
  have key:p∈A.map toldV∨p∈ps:=by
   rcases ha with rfl|rfl
   ·exact List.mem_append.mp hp2
   ·exact(List.mem_append.mp hp2).symm
  rcases key with h|h
  ·obtain⟨q,hq,rfl⟩:=List.mem_map.mp h;exact(JQ q (hd.mem q hq)).2.1
  ·obtain⟨h1,h2⟩:=MH p.1 (hin p h).1;exact⟨h2,by have:=(DP _ (HM (hin p h).1)).2;exact WL this,fun q hq=>by rw[h1]at hq;cases hq⟩
 ·refine rr hfa ?_;intro hne
  cases x with
  |root w=>refine rr (show Dj (Ax.root w).name=sP from(show Dj ("p:a":Str)=sP by decide+kernel)) (rr lP ?_);rfl
  |el ab e=>
   rcases hok.n with h|h|⟨h,hq⟩
   ·exact absurd (by show Dj e.nm=_;refine rr h ?_;decide+kernel) hne
   ·refine rr (show Dj (Ax.el ab e).name=sP by show Dj e.nm=_;rw[h];decide+kernel) (rr lP ?_);rfl
   ·refine rr (show Dj (Ax.el ab e).name=sQ by show Dj e.nm=_;rw[h];decide+kernel) (rr (hb'.lk sQ k6) (rr (ZD ..) (rr (if_pos (by show(st.q||e.q)=true;rw[hq,Bool.or_true])) ?_)));rfl
  |tx _ _=>cases hel
  |cm _=>cases hel
 ·refine rr hoa (rr hfa ?_);intro p hp2;exact⟨Ha _ (HM (hin p hp2).1),(DP _ (HM (hin p hp2).1)).1,(huse p hp2).2⟩
 ·refine rr hoa (rr hfa ?_);have e:ps.map (JY (enterL bs A))=ps.map fun p=>[Ho p.1,ER p.1]:=List.map_congr_left fun p hp2=>by show[DN _ p.1,_]=_;exact rr ((huse p hp2).1) rfl
  refine rr e ?_;exact((hperm.map _).nodup_iff).mpr (QU hok)
 ·exact rr hfa hd.nd
 ·refine rr hfa ?_;refine SU hs' hst' ?_;have:=HD (ds:=A) (l:=sc);have:=hd.len;lia
 ·refine rr hfa (rr has ?_);intro q hq;obtain⟨p,hp2,rfl⟩:=List.mem_map.mp hq;obtain⟨h1,h2,_⟩:=hin p hp2;exact⟨rfl,by have:=(DP _ (HM h1)).2;show p.1.length≤100;exact R9 this,(show CN p.2 CM from(CA (by exact RY h2)).fv),by have:=Dv p.2;show(DE p.2).length≤1000;exact Xv h2 this⟩
 ·refine rr hfa (rr has (rr hsrt ?_));intro q hq;obtain⟨p,hp2,rfl⟩:=List.mem_map.mp hq;exact List.mem_map_of_mem (hperm.mem_iff.mpr (((JR hel hok _ (.inr (.inr rfl))).2.mem_iff).mp hp2))
 ·exact rr hfa (rr has (rr hsrt (rr (List.length_map ..) (LM hel hok))))
 ·refine rr hfa (rl (Ai ..) (rr htext ?_));have:=OW hel hok hso;exact eK this
inductive D where
 |nil
 |el (x:Ax) (k r:D)
 |tx (w:Str) (r:D)
 |cm (r:D)
noncomputable def kS:Str:=(" k ":Str)
noncomputable def LX(x:Ax)(tu:Bool):List (Str×Str):=
 if tu=true then x.pairs.reverse++((x.names.map toldV).reverse++(match x with|.root _=>[]|_=>[(("xmlns:p":Str),("u":Str))]))else x.names.map toldV++x.pairs
noncomputable def HP(tu:Bool):D→Fo
 |.nil=>.nil
 |.el x k r=>.el x.name (LX x tu) (HP tu k) (HP tu r)
 |.tx w r=>if tu=true then .tx (Txt.slice w none (some 1)) (.tx (Txt.slice w (some 1) none) (HP tu r))else .tx w (HP tu r)
 |.cm r=>.cm kS (HP tu r)
noncomputable def Bq(rs:List Ax):Nat→Nat→D→D
 |0,_,rest=>rest
 |f+1,i,rest=>match rs[i]? with
  |none=>rest
  |some (.cm _)=>.cm rest
  |some (.tx _ w)=>.tx w rest
  |some r=>.el r ((List.range' (i+1) (rs.length-(i+1))).foldr (fun j acc=>if(rs[j]?).bind Ax.above=some i then Bq rs f j acc else acc) .nil) rest
theorem Hh{rs:List Ax}{f i:Nat}{r:Ax}{rest:D}(hr:rs[i]?=some r)(he:r.isEl=true):
  Bq rs (f+1) i rest= .el r ((List.range' (i+1) (rs.length-(i+1))).foldr (fun j acc=>if(rs[j]?).bind Ax.above=some i then Bq rs f j acc else acc) .nil) rest:=by
 conv=>lhs;unfold Bq
 refine rr hr ?_
 cases r<;>first|rfl|exact ft he
structure Mw(rs:List Ax):Prop where
 ok:∀r∈rs,r.Ok
 hd:∃w rs',rs= .root w::rs'∧∀r∈rs',r.above≠none
 n:rs.length≤5
theorem Mw.notRoot{rs:List Ax}(h:Mw rs){i:Nat}{r:Ax}(hr:rs[i]?=some r)(hi:0<i):∀w,r≠.root w:=by
 obtain⟨w,rs',rfl,hne⟩:=h.hd;rintro w' rfl
 match i,hi,hr with
 |i+1,_,hr=>exact hne _ (List.mem_of_getElem? (by simpa using hr)) rfl
theorem Mw.isRoot{rs:List Ax}(h:Mw rs){r:Ax}(hr:rs[0]?=some r):∃w,r= .root w:=by
 obtain⟨w,rs',rfl,hne⟩:=h.hd;cases hr;exact⟨w,rfl⟩
theorem UJ{rs:List Ax}(h:Mw rs){i:Nat}{r:Ax}(hr:rs[i]?=some r)(tu:Bool):r.ats tu i=LX r tu:=by
 unfold Ax.ats LX
 cases tu with
 |false=>rfl
 |true=>
  refine rr (if_pos rfl) (rr (if_pos rfl) ?_);by_cases hi:0<i
  ·have:=h.notRoot hr hi;refine rr (if_pos hi) ?_
   cases r with
   |root w=>exact absurd rfl (this w)
   |_=>rfl
  ·have:i=0:=by exact WC hi
   subst this;obtain⟨w,rfl⟩:=h.isRoot hr;exact rr (if_neg hi) rfl
theorem OU{rs:List Ax}(h:Mw rs)(tu:Bool):∀(f i:Nat) (rest:D),evs (HP tu (Bq rs f i rest))=Do rs tu f i++evs (HP tu rest)
 |0,_,_=>rfl
 |f+1,i,rest=>by
  cases hr:rs[i]? with
  |none=>unfold Bq Do;refine rr hr ?_;rfl
  |some r=>
   by_cases he:r.isEl=true
   ·refine rr (Hh hr he) (rr (OS hr he) ?_);rw[UJ h hr]
    have kids:∀l:List Nat,evs (HP tu (l.foldr (fun j acc=>if(rs[j]?).bind Ax.above=some i then Bq rs f j acc else acc) .nil))=l.flatMap fun j=>if(rs[j]?).bind Ax.above=some i then Do rs tu f j else[]:=by
     intro l
     induction l with
     |nil=>rfl
     |cons j l ih=>
      refine rr List.foldr_cons (rr List.flatMap_cons ?_);split
      ·rewrite[OU h tu f j];exact rr ih rfl
      ·refine rr ih ?_;rfl
    show .st _ _::(evs (HP tu _)++.en _::evs (HP tu rest))=_;refine rr (kids ..) ?_;simp
   ·cases r with
    |root _=>exact absurd rfl he
    |el _ _=>exact absurd rfl he
    |cm ab=>unfold Bq Do;refine rr hr ?_;rfl
    |tx ab w=>
     unfold Bq Do;refine rr hr ?_;show evs (if tu=true then _ else _)=XM tu w++_;unfold XM;cases tu<;>rfl
noncomputable def O1:Nat→St→D→Prop
 |_,_,.nil=>True
 |n,st,.el x k r=>0<n∧x.isEl=true∧x.Ok∧(BJ st x).p=true∧(st.p=true∨∃w,x= .root w)∧O1 (n-1) (BJ st x) k∧O1 n st r
 |n,st,.tx w r=>Wd w∧O1 n st r
 |n,st,.cm r=>O1 n st r
theorem RM{rs:List Ax}(h:Mw rs):∀(f i:Nat) (rest:D) (st:St),(st.p=true∨i=0)→O1 f st rest→O1 f st (Bq rs f i rest)
 |0,_,_,_,_,hr=>hr
 |f+1,i,rest,st,hp,hrest=>by
  cases hr:rs[i]? with
  |none=>unfold Bq;exact rr hr hrest
  |some r=>
   have hok:=h.ok r (List.mem_of_getElem? hr);by_cases he:r.isEl=true
   ·refine rr (Hh hr he) ?_
    have hst:(BJ st r).p=true∧(st.p=true∨∃w,r= .root w):=by
     rcases hp with hp|rfl
     ·exact⟨(Bo r st).1 hp,.inl hp⟩
     ·obtain⟨w,rfl⟩:=h.isRoot hr;exact⟨rfl,.inr ⟨w,rfl⟩⟩
    refine⟨Nat.succ_pos _,he,hok,hst.1,hst.2,?_,hrest⟩;show O1 f _ _
    have kids:∀l:List Nat,O1 f (BJ st r) (l.foldr (fun j acc=>if(rs[j]?).bind Ax.above=some i then Bq rs f j acc else acc) .nil):=by
     intro l
     induction l with
     |nil=>exact trivial
     |cons j l ih=>
      refine rr List.foldr_cons ?_;split
      ·exact RM h f j _ _ (.inl hst.1) ih
      ·exact ih
    exact kids _
   ·cases r with
    |root _=>exact absurd rfl he
    |el _ _=>exact absurd rfl he
    |cm ab=>unfold Bq;exact rr hr hrest
    |tx ab w=>unfold Bq;exact rr hr (⟨hok,hrest⟩)
noncomputable def sz:D→Nat
 |.nil=>0
 |.el _ k r=>1+sz k+sz r
 |.tx _ r=>1+sz r
 |.cm r=>1+sz r
theorem QI{rs:List Ax}:∀(f i:Nat) (rest:D),i<rs.length→sz (Bq rs f i rest)≤2^(rs.length-i-1)+sz rest
 |0,_,_,_=>Nat.le_add_left ..
 |f+1,i,rest,hi=>by
  have hpos:1≤2^(rs.length-i-1):=Nat.one_le_two_pow
  cases hr:rs[i]? with
  |none=>unfold Bq;exact rr hr (Nat.le_add_left ..)
  |some r=>
   by_cases he:r.isEl=true
   ·refine rr (Hh hr he) ?_
    have kids:∀(m a:Nat),i<a→a+m=rs.length→sz ((List.range' a m).foldr (fun j acc=>if(rs[j]?).bind Ax.above=some i then Bq rs f j acc else acc) .nil)+1≤2^m:=by
     intro m
     induction m with
     |zero=>intro a _ _;exact Nat.le_refl _
     |succ m ih=>
      intro a ha ham;have h1:=ih (a+1) (by exact YM ha ham) (by exact TX ham);refine rr List.range'_succ (rr List.foldr_cons (rr (Nat.pow_succ ..) ?_));split
      ·have h2:=QI (rs:=rs) f a ((List.range' (a+1) m).foldr (fun j acc=>if(rs[j]?).bind Ax.above=some i then Bq rs f j acc else acc) .nil) (by exact ad ham);rw[show rs.length-a-1=m by exact aw ham]at h2;exact VO h1 h2
      ·exact Wb h1
    have h3:=kids (rs.length-(i+1)) (i+1) (Nat.lt_succ_self _) (by exact aA hi);rw[show rs.length-(i+1)=rs.length-i-1 by exact Zc]at h3 ⊢;simp only[sz];exact Y0 h3
   ·cases r with
    |root _=>exact absurd rfl he
    |el _ _=>exact absurd rfl he
    |cm ab=>unfold Bq;refine rr hr ?_;simp only[sz];exact TY hpos
    |tx ab w=>unfold Bq;refine rr hr ?_;simp only[sz];exact TY hpos
noncomputable def Ux:List Nat:=60::33::45::45::(cl kS++[45,45,62])
noncomputable def RW(x:Ax):List Nat:=60::47::(cl x.name++[62])
noncomputable def Ce(cm:Bool):St→D→List Nat
 |_,.nil=>[]
 |st,.el x k r=>M8 st x++Ce cm (BJ st x) k++RW x++Ce cm st r
 |st,.tx w r=>cl (Cw w)++Ce cm st r
 |st,.cm r=>(if cm=true then Ux else[])++Ce cm st r
theorem SQ{w:Str}(h:Wd w):cl (Txt.slice w none (some 1))++cl (Txt.slice w (some 1) none)=cl w∧(Txt.slice w none (some 1)).length≤3∧(Txt.slice w (some 1) none).length≤3:=by
 refine⟨?_,Nat.le_trans (PyProof.Txt.length_slice_le ..) h.1,Nat.le_trans (PyProof.Txt.length_slice_le ..) h.1⟩
 cases e:cl w with
 |nil=>
  have:w=("":Str):=Str.ext' (by refine rr (show w.cps.toList=[]from e) ?_;decide+kernel);subst this;decide+kernel
 |cons a r=>
  refine rr (show cl (Txt.slice w none (some 1))=[a]from by rw[show Txt.slice w none (some 1)=mk [a]from Mp (A:=[a]) (B:=r) e rfl]) (rr (show cl (Txt.slice w (some 1) none)=r from by rw[show Txt.slice w (some 1) none=mk r from C2 (A:=[a]) (B:=r) e rfl]) ?_);rfl
theorem Dk(s:Str)(cm:Bool):leafF (PO s 0) cm=Cw s:=by
 show leafF (Bw "text" "" "" "" s (some 0)) cm=_;unfold leafF;exact if_pos rfl
theorem Mu(s:Str)(cm:Bool):leafF (Nv s 0) cm=if cm=true then Uk s else("":Str):=by
 show leafF (Bw "comment" "" "" "" s (some 0)) cm=_;unfold leafF;exact(if_neg (show ¬("comment":Str)=("text":Str) by decide+kernel)).trans (if_pos rfl)
theorem N6:cl (Uk kS)=Ux:=by decide+kernel
theorem O0(x:Ax)(tu:Bool):∃A ps,(ps=x.pairs∨ps=x.pairs.reverse∨ps=srt x)∧(LX x tu=A.map toldV++ps∨LX x tu=ps++A.map toldV)∧A=(if tu=true then x.names.reverse++(match x with|.root _=>[]|_=>[(sP,sU)])else x.names):=by
 cases tu with
 |false=>exact⟨x.names,x.pairs,.inl rfl,.inl rfl,rfl⟩
 |true=>
  refine⟨_,x.pairs.reverse,.inr (.inl rfl),.inr ?_,rfl⟩;refine rr (if_pos rfl) (rr List.map_append (rr List.map_reverse ?_));unfold LX;refine rr (if_pos rfl) ?_;have e:toldV (sP,sU)=(("xmlns:p":Str),("u":Str)):=by decide+kernel
  cases x<;>simp[e]
theorem Rx{st:St}{x:Ax}(tu:Bool)(he:x.isEl=true)(hok:x.Ok)(hso:GO st)(hp:(BJ st x).p=true)(hpr:st.p=true∨∃w,x= .root w):∃A ps,Q4 st x A ps (LX x tu):=by
 obtain⟨A,ps,h1,h2,h3⟩:=O0 x tu;refine⟨A,ps,he,hok,hso,hp,?_,h1,h2⟩;have hd:=SB (st:=st) he hok hso
 cases tu with
 |false=>exact rr h3 hd
 |true=>
  refine rr h3 (rr (if_pos rfl) ?_)
  cases x with
  |root w=>show PQ ((Ax.root w).names.reverse++[]) _ _;exact rr (List.append_nil ..) (hd.perm (List.reverse_perm _).symm)
  |el ab e=>
   have hsp:st.p=true:=hpr.elim id fun⟨w,h⟩=>nomatch h;have:=T9 (ab:=ab) hok hso hsp;exact this.perm ((List.perm_append_singleton ..).symm.trans ((List.reverse_perm _).symm.append_right _))
  |tx _ _=>cases he
  |cm _=>cases he
set_option tactic.hygienic true in
theorem KD{cm tu:Bool}:∀(d:D) {n:Nat} {st:St} {bs sc:Sc},O1 n st d→GO st→Jr bs st→I9 sc st→bs.length+4*n≤70→sc.length+4*n≤26→
  GS cm bs sc (HP tu d)∧HA cm bs sc (HP tu d)=Ce cm st d
 |.nil=>by
  rintro _ _ _ _ _ _;exact⟨trivial,rfl⟩
 |.cm r=>by
  rename_i n st bs sc;rintro h hst hb hs h1 h2;obtain⟨i1,i2⟩:=KD r h hst hb hs h1 h2;have hl:(leafF (Nv kS 0) cm).length≤5000:=by cases cm<;>decide+kernel
  refine⟨⟨⟨CA (by decide+kernel),hl⟩,i1⟩,?_⟩;show(leafF (Nv kS 0) cm::outs cm bs sc (HP tu r)).flatMap cl=_;refine rr List.flatMap_cons ?_;show _++HA cm bs sc (HP tu r)=(if cm=true then Ux else[])++_;refine rr i2 (rr (Mu ..) ?_)
  cases cm with
  |true=>exact rr (if_pos rfl) (rr (if_pos rfl) (rr N6 rfl))
  |false=>exact rr (if_neg (by decide)) (rr (if_neg (by decide)) (rr Qn rfl))
 |.tx w r=>by
  rename_i n st bs sc;rintro h hst hb hs h1 h2;obtain⟨i1,i2⟩:=KD (tu:=tu) r h.2 hst hb hs h1 h2;obtain⟨c1,c2,c3⟩:=SQ h.1;have hw:=h.1.1;have hl:∀s:Str,s.length≤3→(leafF (PO s 0) cm).length≤5000:=fun s hs=>by refine rr (Dk ..) ?_;have:=HT s;exact bE hs this
  cases tu with
  |false=>
   refine⟨⟨⟨CA (by exact RY hw),hl w hw⟩,i1⟩,?_⟩;show(leafF (PO w 0) cm::outs cm bs sc (HP false r)).flatMap cl=_;refine rr List.flatMap_cons (rr (Dk ..) ?_);show _++HA cm bs sc (HP false r)=_;refine rr i2 ?_;rfl
  |true=>
   refine⟨⟨⟨CA (by exact RY c2),hl _ c2⟩,⟨CA (by exact RY c3),hl _ c3⟩,i1⟩,?_⟩;show(leafF (PO (Txt.slice w none (some 1)) 0) cm::leafF (PO (Txt.slice w (some 1) none) 0) cm::outs cm bs sc (HP true r)).flatMap cl=_;refine rr List.flatMap_cons (rr List.flatMap_cons (rr (Dk ..) (rr (Dk ..) (rr (CO ..) (rr (CO ..) (rl (List.append_assoc ..) (rl List.flatMap_append (rr c1 (rl (CO ..) ?_)))))))));show _++HA cm bs sc (HP true r)=_;refine rr i2 ?_;rfl
 |.el x k r=>by
  rename_i n st bs sc;rintro⟨g0,g1,g2,g3,g4,g5,g6⟩ hst hb hs h1 h2;obtain⟨A,ps,g⟩:=Rx tu g1 g2 hst g3 g4;obtain⟨e1,e2,e3,e4⟩:=OX g hb (by exact Ye g0 h1) hs (by exact aj g0 h2);have hlA:=g.d.len;obtain⟨i1,i2⟩:=KD (cm:=cm) (tu:=tu) r g6 hst hb hs h1 h2;obtain⟨j1,j2⟩:=KD (cm:=cm) (tu:=tu) k g5 (EL g2 hst) (hb.step g.d) (hs.step g.d) (by have:=K4 (A:=A) (bs:=bs);exact Vd g0 h1 hlA this) (by have:=HD (ds:=A) (l:=sc);exact ax g0 h2 hlA this);rw[←e2]at j1 j2;refine⟨⟨e1,j1,i1⟩,?_⟩;show((startF x.name _ sc _::(outs cm _ _ (HP tu k)++[endF x.name]))++outs cm bs sc (HP tu r)).flatMap cl=_;rw[List.flatMap_append,List.flatMap_cons,List.flatMap_append,e4];show M8 st x++(HA cm _ _ (HP tu k)++(cl (endF x.name)++[]))++HA cm bs sc (HP tu r)=M8 st x++Ce cm (BJ st x) k++RW x++Ce cm st r;rw[j2,i2,List.append_nil,OB];simp only[List.append_assoc];rfl
noncomputable def rm(p:List Nat):Nat→List Nat→List Nat
 |_,[]=>[]
 |k+1,_::l=>rm p k l
 |0,a::l=>if p<+:a::l then rm p (p.length-1) l else a::rm p 0 l
theorem Nw(p:List Nat):∀(k:Nat) (l:List Nat),rm p k l=rm p 0 (l.drop k)
 |0,l=>rfl
 |k+1,[]=>rfl
 |k+1,a::l=>Nw p k l
theorem QY{p:List Nat}(h:p≠[])(l:List Nat):rm p 0 (p++l)=rm p 0 l:=by
 cases p with
 |nil=>exact absurd rfl h
 |cons a p=>
  show(if(a::p)<+:(a::p)++l then rm (a::p) p.length (p++l)else _)=_;exact rr (if_pos ⟨l,rfl⟩) (rr (Nw ..) (rr List.drop_left rfl))
theorem Lx{p C:List Nat}:∀B:List Nat,(∀k,k<B.length→¬p<+:(B++C).drop k)→rm p 0 (B++C)=B++rm p 0 C
 |[],_=>rfl
 |a::B,h=>by
  show(if p<+:a::(B++C)then _ else a::rm p 0 (B++C))=_;refine rr (if_neg (show ¬p<+:a::(B++C)from h 0 (Nat.succ_pos _))) (rr (Lx B fun k hk=>h (k+1) (Nat.succ_lt_succ hk)) ?_);rfl
theorem Pl(s:Str)(i j:Nat):cl (Builtin.Str.strSub s i j)=((cl s).drop i).take (j-i):=StrLaws.strSub_toList s i j
theorem Pz{x y:Str}(hy:1≤y.length):∀(cuts:List Nat) (a f:Nat),a≤x.length→StrLaws.ChainG x y x.length a cuts f→(∀k,f≤k→¬StrLaws.At x y x.length k)→
  (StrLaws.partsFrom x y.length a cuts).flatMap cl=rm (cl y) 0 ((cl x).drop a)
 |[],a,f,ha,hc,hn=>by
  have hc:f=a:=hc;subst hc;show cl (Builtin.Str.strSub x f x.length)++[]=_;refine rr (List.append_nil ..) (rr (Pl ..) (rr (List.take_of_length_le (by rw[List.length_drop,Ai];exact Yz)) ?_));have:=Lx (p:=cl y) (C:=[]) ((cl x).drop f) fun k _ w=>hn (f+k) (Nat.le_add_right ..) ((IO hy _).mpr (by rw[List.append_nil,List.drop_drop]at w;exact w));rw[List.append_nil]at this;refine rr this ?_;show _=_++[];exact rr (List.append_nil ..) rfl
 |c::r,a,f,ha,⟨h1,h2,h3,h4⟩,hn=>by
  have hcl:c+y.length≤x.length:=h2.1;have hp:=(IO hy c).mp h2;obtain⟨t,ht⟩:=hp
  have e1:(cl x).drop a=((cl x).drop a).take (c-a)++(cl x).drop c:=by
   have:=(List.take_append_drop (c-a) ((cl x).drop a)).symm;rw[List.drop_drop,show a+(c-a)=c by exact YC h1]at this;exact this
  have e2:t=(cl x).drop (c+y.length):=by
   exact rl List.drop_drop (rl ht (rl (Ai y) (rr List.drop_left rfl)))
  show cl (Builtin.Str.strSub x a c)++(StrLaws.partsFrom x y.length (c+y.length) r).flatMap cl=_;refine rr (Pz hy r (c+y.length) f hcl h4 hn) (rr (Pl ..) ?_)
  conv=>rhs;rw[e1]
  rewrite[Lx];refine rl ht ?_;rewrite[QY (fun e=>by have:=congrArg List.length e;rw[Ai]at this;simp at this;exact dQ hy this)];exact rr e2 rfl;intro k hk w;rw[←e1,List.drop_drop]at w;rw[List.length_take]at hk;exact h3 (a+k) (by exact XY) (by exact Xl h1 hk) ((IO hy _).mpr w)
theorem Ng{x y:Str}(hy:1≤y.length):cl (Txt.replace x y ("":Str))=rm (cl y) 0 (cl x):=by
 obtain⟨f,h1,h2⟩:=StrLaws.occ_tight x y hy;have key:=Pz hy _ 0 f (Nat.zero_le _) h1 h2;rw[←StrLaws.partsBetween_eq,List.drop_zero]at key;have h10:(y.length==0)=false:=by simp;exact cr hy
 unfold Txt.replace;refine rr h10 (rr (Bool.false_and ..) (rr (Bool.or_false ..) ?_));cases he:(Builtin.Str.occurrences x y 0 x.length (x.length+1)).isEmpty
 ·refine rr (if_neg Bool.false_ne_true) (rl key ?_);have e:Builtin.Str.glued ("":Str) (Builtin.Str.partsBetween x (Builtin.Str.occurrences x y 0 x.length (x.length+1)) y.length)=Str.join ("":Str) _:=StrLaws.glued_eq_join _ _;exact rr e (GE _)
 ·refine rr (if_pos rfl) (rl key ?_);refine rr (List.isEmpty_iff.mp he) (rr (StrLaws.partsBetween_eq ..) ?_);show _=cl (Builtin.Str.strSub x 0 x.length)++[];exact rr (StrLaws.sub_whole ..) (rr (List.append_nil ..) rfl)
noncomputable def ID(u v:Nat):List Nat→Prop
 |[]=>True
 |a::l=>(a=u→∃b r,l=b::r∧b≠v)∧ID u v l
theorem ID.app{u v:Nat}:∀{a b:List Nat},ID u v a→ID u v b→ID u v (a++b)
 |[],b,_,h=>h
 |c::a,b,⟨h1,h2⟩,h=>⟨fun e=>by obtain⟨d,r,e1,e2⟩:=h1 e;exact⟨d,r++b,by refine rr e1 ?_;rfl,e2⟩,h2.app h⟩
theorem ID.none{u v:Nat}:∀{a:List Nat},u∉a→ID u v a
 |[],_=>trivial
 |c::a,h=>⟨fun e=>absurd (by exact rr e (.head _)) h,ID.none fun w=>h (.tail _ w)⟩
theorem ID.no{u v:Nat}{p:List Nat}:∀{a:List Nat},ID u v a→∀(C:List Nat) (k:Nat),k<a.length→¬(u::v::p)<+:(a++C).drop k
 |c::a,⟨h1,h2⟩,C,0,_,⟨t,ht⟩=>by
  injection ht with e1 e2
  obtain⟨b,r,e3,e4⟩:=h1 e1.symm;rw[e3]at e2
  injection e2 with e5 _
  exact e4 e5.symm
 |c::a,⟨h1,h2⟩,C,k+1,hk,w=>h2.no C k (Nat.lt_of_succ_lt_succ hk) w
theorem ID.none_in{u v:Nat}{x y:Str}(h:ID u v (cl x))(hy:cl y=[u,v]):PP y x=false:=by
 refine PE (by exact rl (Ai ..) (rr hy (Nat.succ_pos _))) fun i w=>?_;rw[hy]at w;by_cases hi:i<(cl x).length
 ·exact h.no (p:=[]) [] i hi (by exact rr (List.append_nil ..) w)
 ·rw[List.drop_of_length_le (by exact Sv hi)]at w;obtain⟨t,ht⟩:=w;cases ht
theorem NY{p b C:List Nat}(h:ID 60 33 b):rm (60::33::p) 0 (b++C)=b++rm (60::33::p) 0 C:=Lx b fun k hk=>h.no C k hk
theorem Qe:∀n∈NMK,L5 n:=by
 have h:∀n∈NMK,cl n≠[]∧(∀k∈cl n,k=58∨(97≤k∧k≤122))∧n.length≤20:=by decide+kernel
 intro n hn;obtain⟨a,b,c⟩:=h n hn;exact⟨a,b,c⟩
theorem ZA:∀p∈DD6,L5 (toldV p).1∧47∉cl p.2∧G9 (toldV p).1=true:=by
 have h:∀p∈DD6,(cl (toldV p).1≠[]∧(∀k∈cl (toldV p).1,k=58∨(97≤k∧k≤122))∧(toldV p).1.length≤20)∧47∉cl p.2∧G9 (toldV p).1=true:=by decide+kernel
 intro n hn;obtain⟨⟨a,b,c⟩,d,e⟩:=h n hn;exact⟨⟨a,b,c⟩,d,e⟩
theorem Qp:∀n∈N5,G9 n=false:=by decide+kernel
noncomputable def a3(st:St)(x:Ax):List (Str×Str):=(td st (BJ st x)).map toldV++srt x
structure Fj(st:St)(x:Ax):Prop where
 el:x.isEl=true
 ok:x.Ok
 so:GO st
theorem Fj.td{st:St}{x:Ax}(h:Fj st x):PQ (td st (BJ st x)) st (BJ st x):=
 bx h.so (EL h.ok h.so) (Bo x st).1 (Bo x st).2.1 (Bo x st).2.2
theorem Fj.nm{st:St}{x:Ax}(h:Fj st x):L5 x.name:=Qe _ (Gj h.el h.ok)
theorem Fj.at'{st:St}{x:Ax}(h:Fj st x):∀p∈a3 st x,L5 p.1∧p.1.length≤7∧p.2.length≤3∧47∉cl p.2:=by
 intro p hp;rcases List.mem_append.mp hp with hp|hp
 ·obtain⟨q,hq,rfl⟩:=List.mem_map.mp hp;have hd:=h.td.mem q hq;obtain⟨h1,h2,h3⟩:=ZA q hd;obtain⟨_,_,h4,h5⟩:=JQ q hd;exact⟨h1,h4,Nat.le_trans h5 (by exact fA),h2⟩
 ·obtain⟨h1,h2,h3⟩:=NO h.el h.ok p hp;exact⟨Qe _ (HM h1),Nat.le_trans (DP _ (HM h1)).2 (by exact fD),h2,h3⟩
theorem Fj.len{st:St}{x:Ax}(h:Fj st x):(a3 st x).length≤8:=by
 unfold a3;refine rr List.length_append (rr (List.length_map ..) ?_);have:=h.td.len;have:=LM h.el h.ok;lia
theorem R2(k:Nat)(h:47∈IN k):k=47:=by
 unfold IN at h
 repeat' split at h
 all_goals first|exact absurd h (by decide)|exact(List.mem_singleton.mp h).symm
theorem Rv(k:Nat)(h:47∈He k):k=47:=by
 unfold He at h
 repeat' split at h
 all_goals first|exact absurd h (by decide)|exact(List.mem_singleton.mp h).symm
theorem R7{v:Str}(h:47∉cl v):47∉cl (DE v):=by
 refine rr (JW ..) ?_;intro w;obtain⟨k,h1,h2⟩:=List.mem_flatMap.mp w;exact h (by exact rl (R2 k h2) h1)
theorem SP{v:Str}(h:47∉cl v):47∉cl (Cw v):=by
 refine rr (CO ..) ?_;intro w;obtain⟨k,h1,h2⟩:=List.mem_flatMap.mp w;exact h (by exact rl (Rv k h2) h1)
theorem PS{l:List (Str×Str)}(h:∀p∈l,L5 p.1∧47∉cl p.2):47∉atsS l∧13∉atsS l∧60∉atsS l:=by
 have key:∀p∈l,47∉M3 p∧13∉M3 p∧60∉M3 p:=by
  intro p hp;obtain⟨h1,h2⟩:=h p hp;have h3:=LA p.2;unfold M3;simp[R7 h2,h3.2.1,h3.2.2,h1.no (k:=47) (by exact Ua),h1.no (k:=13) (by exact cy),h1.no (k:=60) (by exact Ty)]
 unfold atsS;simp only[List.mem_flatMap,not_exists,not_and];exact⟨fun p hp=>(key p hp).1,fun p hp=>(key p hp).2.1,fun p hp=>(key p hp).2.2⟩
theorem Fj.tag{st:St}{x:Ax}(h:Fj st x):47∉M8 st x∧13∉M8 st x∧ID 60 33 (M8 st x):=by
 obtain⟨h1,h2,h3⟩:=PS (l:=a3 st x) fun p hp=>⟨(h.at' p hp).1,(h.at' p hp).2.2.2⟩
 have hn:=h.nm;have e:M8 st x=60::(cl x.name++atsS (a3 st x)++[62]):=rfl;refine rr e ?_;refine⟨by simp[h1,hn.no (k:=47) (by exact Ua)],by simp[h2,hn.no (k:=13) (by exact cy)],fun _=>?_,ID.none (by simp[h3,hn.no (k:=60) (by exact Ty)])⟩
 cases w:cl x.name with
 |nil=>exact absurd w hn.ne
 |cons b r=>exact⟨b,_,rfl,fun e=>hn.no (k:=33) (by exact fF) (by exact rr w (rr e (.head _)))⟩
theorem Fj.en{st:St}{x:Ax}(h:Fj st x):ID 47 62 (RW x)∧13∉RW x∧ID 60 33 (RW x)∧(RW x).length≤6:=by
 have hn:=h.nm;have hl:=(DP _ (Gj h.el h.ok)).2;unfold RW;refine⟨And.intro (fun e=>absurd e (by decide)) (And.intro (fun _=>?_) (ID.none (by simp[hn.no (k:=47) (by exact Ua)]))),by simp[hn.no (k:=13) (by exact cy)],And.intro (fun _=>⟨47,_,rfl,by decide⟩) (ID.none (by simp[hn.no (k:=60) (by exact Ty)])),?_⟩
 ·cases w:cl x.name with
  |nil=>exact absurd w hn.ne
  |cons b r=>exact⟨b,_,rfl,fun e=>hn.no (k:=62) (by exact Q6) (by exact rr w (rr e (.head _)))⟩
 ·exact rr List.length_cons (rr List.length_cons (rr List.length_append (rr (Ai ..) (rr List.length_singleton (c0 hl)))))
theorem PZ:Ux=[60,33,45,45,32,107,32,45,45,62]:=by decide+kernel
theorem Xz{w:Str}(h:Wd w):47∉cl w:=fun z=>by have:=h.2 _ z;revert this;decide
noncomputable def Uu:List Nat:=[60,33,45,45,32,107,32,45,45,62]
theorem JJ(b:Bool)(st:St)(x:Ax)(k r:D):Ce b st (.el x k r)=M8 st x++(Ce b (BJ st x) k++(RW x++Ce b st r)):=by
 show M8 st x++Ce b (BJ st x) k++RW x++Ce b st r=_;simp only[List.append_assoc]
set_option tactic.hygienic true in
theorem GM:∀(d:D) {n:Nat} {st:St},O1 n st d→GO st→ID 47 62 (Ce true st d)∧13∉Ce true st d∧(Ce true st d).length≤206*sz d
 |.nil=>by
  rintro _ _;exact⟨trivial,List.not_mem_nil,Nat.zero_le _⟩
 |.cm r=>by
  rename_i n st;rintro h hst;obtain⟨h1,h2,h3⟩:=GM r (n:=n) h hst;have e1:Ce true st (.cm r)=Ux++Ce true st r:=rfl;refine rr e1 (rr PZ ?_);refine⟨ID.app (ID.none (by decide)) h1,?_,?_⟩
  ·rw[List.mem_append];exact fun w=>w.elim (by decide) h2
  ·refine rr List.length_append ?_;simp only[sz];show 10+_≤_;exact Vo h3
 |.tx w r=>by
  rename_i n st;rintro h hst;obtain⟨h1,h2,h3⟩:=GM r h.2 hst;obtain⟨f1,f2,f3⟩:=II w;have hl:=HT w;have hw:=h.1.1;have e:Ce true st (.tx w r)=cl (Cw w)++Ce true st r:=rfl;refine rr e ?_;refine⟨ID.app (ID.none (SP (Xz h.1))) h1,?_,?_⟩
  ·rw[List.mem_append];exact fun w=>w.elim f2 h2
  ·refine rr List.length_append (rr (Ai ..) ?_);simp only[sz];exact VB h3 hl hw
 |.el x k r=>by
  rename_i n st;rintro⟨g0,g1,g2,g3,g4,g5,g6⟩ hst;have hx:Fj st x:=⟨g1,g2,hst⟩
  obtain⟨h1,h2,h3⟩:=GM r g6 hst;obtain⟨k1,k2,k3⟩:=GM k g5 (EL g2 hst);obtain⟨t1,t2,t3⟩:=hx.tag;obtain⟨u1,u2,u3,u4⟩:=hx.en;have t4:=OW g1 g2 hst;refine rr (JJ ..) ?_;refine⟨ID.app (ID.none t1) (k1.app (u1.app h1)),?_,?_⟩
  ·simp only[List.mem_append];exact fun w=>w.elim t2 fun w=>w.elim k2 fun w=>w.elim u2 h2
  ·simp only[List.length_append,sz];exact ZY h3 k3 u4 t4
set_option tactic.hygienic true in
theorem Je:∀(d:D) {n:Nat} {st:St} (C:List Nat),O1 n st d→GO st→rm Uu 0 (Ce true st d++C)=Ce false st d++rm Uu 0 C
 |.nil=>by
  rintro _ _ _;exact rfl
 |.cm r=>by
  rename_i n st;rintro C h hst;have e1:Ce true st (.cm r)++C=Uu++(Ce true st r++C):=by show Ux++Ce true st r++C=_;rw[PZ,List.append_assoc];rfl
  refine rr e1 ?_;rw[QY (by decide)];exact Je r (n:=n) C h hst
 |.tx w r=>by
  rename_i n st;rintro C h hst;have e:∀b,Ce b st (.tx w r)=cl (Cw w)++Ce b st r:=fun _=>rfl;have:=Je r C h.2 hst;refine rr (e ..) (rr (e ..) (rr (List.append_assoc ..) ?_));unfold Uu at this ⊢;exact rr (NY (ID.none (II w).1)) (rr this (rr (List.append_assoc ..) rfl))
 |.el x k r=>by
  rename_i n st;rintro C ⟨g0,g1,g2,g3,g4,g5,g6⟩ hst;have hx:Fj st x:=⟨g1,g2,hst⟩
  have h1:=Je r C g6 hst;have h2:=Je k (RW x++(Ce true st r++C)) g5 (EL g2 hst);have t3:=hx.tag.2.2;have u3:=hx.en.2.2.1;refine rr (JJ ..) (rr (JJ ..) ?_);simp only[List.append_assoc];unfold Uu at h1 h2 ⊢;exact rr (NY t3) (rr h2 (rr (NY u3) (rr h1 rfl)))
noncomputable def Sg(w:Str)(g:Fo):Fo:=match g with
 |.tx s r=>.tx (w++s) r
 |_=>if cl w=[]then g else .tx w g
noncomputable def JK:St→D→Fo
 |_,.nil=>.nil
 |st,.el x k r=>.el x.name (a3 st x) (JK (BJ st x) k) (JK st r)
 |st,.tx w r=>Sg w (JK st r)
 |st,.cm r=>.cm kS (JK st r)
noncomputable def eT:Fo→Bool
 |.tx _ _=>true
 |_=>false
noncomputable def NF:Nat→St→Fo→Prop
 |_,_,.nil=>True
 |n,st,.el m a k r=>(∃x,0<n∧Fj st x∧(BJ st x).p=true∧m=x.name∧a=a3 st x∧NF (n-1) (BJ st x) k)∧NF n st r
 |n,st,.tx s r=>(cl s≠[]∧eT r=false)∧NF n st r
 |n,st,.cm s r=>s=kS∧NF n st r
 |_,_,.pi _ _ _=>False
noncomputable def tl:Fo→Nat
 |.nil=>0
 |.el _ _ k r=>tl k+tl r
 |.tx s r=>s.length+tl r
 |.cm _ r=>tl r
 |.pi _ _ r=>tl r
theorem txc_cases(w:Str)(g:Fo):(∃s r,g= .tx s r∧Sg w g= .tx (w++s) r)∨(eT g=false∧Sg w g=if cl w=[]then g else .tx w g):=by
 cases g with
 |tx s r=>exact .inl ⟨s,r,rfl,rfl⟩
 |_=>exact .inr ⟨rfl,rfl⟩
set_option tactic.hygienic true in
theorem T7{n:Nat}{st:St}{w:Str}{g:Fo}(h:NF n st g):NF n st (Sg w g):=by
 rcases txc_cases w g with⟨s,r,rfl,e⟩|⟨ht,e⟩
 ·refine rr e ?_;exact⟨⟨fun z=>h.1.1 (by rw[CQ]at z;exact(List.append_eq_nil_iff.mp z).2),h.1.2⟩,h.2⟩
 ·refine rr e ?_;split
  ·exact h
  ·rename_i hw;exact⟨⟨hw,ht⟩,h⟩
theorem Tr(w:Str)(g:Fo):tl (Sg w g)≤w.length+tl g∧A8 (Sg w g)≤1+A8 g:=by
 rcases txc_cases w g with⟨s,r,rfl,e⟩|⟨ht,e⟩
 ·refine rr e ?_;simp only[tl,A8];exact rr (AX ..) (⟨by exact af,by exact aB⟩)
 ·refine rr e ?_;split
  ·exact⟨by exact U9,by exact Vl⟩
  ·simp only[tl,A8];exact⟨by exact Yt,by exact Vs⟩
set_option tactic.hygienic true in
theorem UU(w:Str)(g:Fo):(evs (Sg w g)).flatMap EH=cl (Cw w)++(evs g).flatMap EH:=by
 rcases txc_cases w g with⟨s,r,rfl,e⟩|⟨ht,e⟩
 ·refine rr e ?_;show cl (Cw (w++s))++(evs r).flatMap EH=cl (Cw w)++(cl (Cw s)++(evs r).flatMap EH);exact rr (CO ..) (rr (CQ ..) (rr List.flatMap_append (rl (CO ..) (rl (CO ..) (rr (List.append_assoc ..) rfl)))))
 ·refine rr e ?_;split
  ·rename_i hw;refine rr (CO ..) (rr hw ?_);rfl
  ·rfl
set_option tactic.hygienic true in
theorem Jg:∀(d:D) {n:Nat} {st:St},O1 n st d→GO st→NF n st (JK st d)∧tl (JK st d)≤3*sz d∧A8 (JK st d)≤9*sz d
 |.nil=>by
  rintro _ _;exact⟨trivial,Nat.zero_le _,Nat.zero_le _⟩
 |.cm r=>by
  rename_i n st;rintro h hst;obtain⟨h1,h2,h3⟩:=Jg r (n:=n) h hst;exact⟨⟨rfl,h1⟩,by simp only[JK,tl,sz];exact X3 h2,by simp only[JK,A8,sz];exact TD h3⟩
 |.tx w r=>by
  rename_i n st;rintro h hst;obtain⟨h1,h2,h3⟩:=Jg r h.2 hst;obtain⟨c1,c2⟩:=Tr w (JK st r);have:=h.1.1;exact⟨T7 h1,by simp only[JK,sz];exact Yj h2 c1 this,by simp only[JK,sz];exact ZU h3 c2⟩
 |.el x k r=>by
  rename_i n st;rintro⟨g0,g1,g2,g3,g4,g5,g6⟩ hst;have hx:Fj st x:=⟨g1,g2,hst⟩
  obtain⟨h1,h2,h3⟩:=Jg r g6 hst;obtain⟨k1,k2,k3⟩:=Jg k g5 (EL g2 hst);have:=hx.len;exact⟨⟨⟨x,g0,hx,g3,rfl,rfl,k1⟩,h1⟩,by simp only[JK,tl,sz];exact bW h2 k2,by simp only[JK,A8,sz];exact aq h3 k3 this⟩
theorem L8:∀(d:D) (st:St),(evs (JK st d)).flatMap EH=Ce true st d
 |.nil,_=>rfl
 |.cm r,st=>by
  show EH (.cm kS)++(evs (JK st r)).flatMap EH=_;refine rr (L8 r st) ?_;rfl
 |.tx w r,st=>by
  show(evs (Sg w (JK st r))).flatMap EH=_;refine rr (UU ..) (rr (L8 r st) ?_);rfl
 |.el x k r,st=>by
  show EH (.st x.name (a3 st x))++(evs (JK (BJ st x) k)++.en x.name::evs (JK st r)).flatMap EH=_;refine rr List.flatMap_append (rr List.flatMap_cons ?_);rewrite[L8 k,L8 r];refine rr (JJ ..) ?_;rfl
set_option tactic.hygienic true in
theorem MT:∀(g:Fo) {n:Nat} {st:St} {bs sc:Sc},NF n st g→GO st→Jr bs st→I9 sc st→bs.length+5*n≤70→sc.length+5*n≤26→tl g≤300→
  GS true bs sc g∧HA true bs sc g=(evs g).flatMap EH
 |.nil=>by
  rintro _ _ _ _ _ _ _;exact⟨trivial,rfl⟩
 |.pi _ _ _=>by
  rintro h _ _ _ _ _ _;exact h.elim
 |.cm s r=>by
  rename_i n st bs sc;rintro h hst hb hs h1 h2 ht;obtain⟨hk,h⟩:=h;subst hk;obtain⟨i1,i2⟩:=MT r h hst hb hs h1 h2 ht;refine⟨⟨⟨CA (by decide+kernel),by decide+kernel⟩,i1⟩,?_⟩;show(leafF (Nv kS 0) true::outs true bs sc r).flatMap cl=_;refine rr List.flatMap_cons ?_;show _++HA true bs sc r=_;refine rr i2 (rr (Mu ..) (rr (if_pos rfl) (rr N6 ?_)));rfl
 |.tx w r=>by
  rename_i n st bs sc;rintro h hst hb hs h1 h2 ht;simp only[tl]at ht;obtain⟨i1,i2⟩:=MT r h.2 hst hb hs h1 h2 (by exact OH ht);refine⟨⟨⟨CA (by exact QF ht),by refine rr (Dk ..) ?_;have:=HT w;exact U4 ht this⟩,i1⟩,?_⟩;show(leafF (PO w 0) true::outs true bs sc r).flatMap cl=_;refine rr List.flatMap_cons (rr (Dk ..) ?_);show _++HA true bs sc r=_;refine rr i2 ?_;rfl
 |.el m a k r=>by
  rename_i n st bs sc;rintro h hst hb hs h1 h2 ht;obtain⟨⟨x,g0,hx,g3,rfl,rfl,g5⟩,g6⟩:=h;simp only[tl]at ht;obtain⟨e1,e2,e3,e4⟩:=OX (A:=td st (BJ st x)) (ps:=srt x) (a:=a3 st x) ⟨hx.el,hx.ok,hst,g3,hx.td,.inr (.inr rfl),.inl rfl⟩ hb (by exact ah h1 g0) hs (by exact Zy h2 g0);have hlA:=hx.td.len;obtain⟨i1,i2⟩:=MT r g6 hst hb hs h1 h2 (by exact OH ht);obtain⟨j1,j2⟩:=MT k g5 (EL hx.ok hst) (hb.step hx.td) (hs.step hx.td) (by have:=K4 (A:=td st (BJ st x)) (bs:=bs);exact Vn h1 g0 hlA this) (by have:=HD (ds:=td st (BJ st x)) (l:=sc);exact aO h2 g0 hlA this) (by exact QF ht);rw[←e2]at j1 j2;refine⟨⟨e1,j1,i1⟩,?_⟩;show((startF x.name _ sc _::(outs true _ _ k++[endF x.name]))++outs true bs sc r).flatMap cl=EH (.st x.name (a3 st x))++(evs k++.en x.name::evs r).flatMap EH;rw[List.flatMap_append,List.flatMap_cons,List.flatMap_append,e4,List.flatMap_append,List.flatMap_cons];show M8 st x++(HA true _ _ k++(cl (endF x.name)++[]))++HA true bs sc r=_;rw[j2,i2,List.append_nil,OB];simp only[List.append_assoc];rfl
theorem OR{st:St}{x:Ax}{t:List Ev}(hx:Fj st x)(ht:Gz t):Gz (.st x.name (a3 st x)::t):=
 ⟨⟨hx.nm,fun p hp=>(hx.at' p hp).1,fun p hp=>by have:=(hx.at' p hp).2.2.1;exact WL this,by have:=hx.len;exact Pc this⟩,fun w=>(nomatch w),ht⟩
set_option tactic.hygienic true in
theorem Hs:∀(g:Fo) {n:Nat} {st:St} (t:List Ev),NF n st g→tl g≤300→Gz t→Ts t→Gz (evs g++t)
 |.nil=>by
  rintro t _ _ ht _;exact ht
 |.pi _ _ _=>by
  rintro _ h _ _ _;exact h.elim
 |.cm s r=>by
  rename_i n st;rintro t h hl ht hh;exact And.intro h.1 (And.intro (fun w=>nomatch w) (Hs r t h.2 hl ht hh))
 |.tx s r=>by
  rename_i n st;rintro t h hl ht hh;simp only[tl]at hl;refine And.intro ⟨h.1.1,by exact Wp hl⟩ (And.intro (fun _=>?_) (Hs r t h.2 (by exact OH hl) ht hh));show Ts (evs r++t);have h2:=h.1.2
  cases r with
  |nil=>exact hh
  |tx _ _=>cases h2
  |_=>exact rfl
 |.el m a k r=>by
  rename_i n st;rintro t h hl ht hh;obtain⟨⟨x,g0,hx,g3,rfl,rfl,g5⟩,g6⟩:=h;simp only[tl]at hl;show Gz (.st x.name (a3 st x)::((evs k++.en x.name::evs r)++t));refine rr (List.append_assoc ..) (rr List.cons_append ?_);exact OR hx (Hs k _ g5 (by exact QF hl) ⟨hx.nm,fun w=>(nomatch w),Hs r t g6 (by exact OH hl) ht hh⟩ rfl)
noncomputable def xn(b0 b1 p q r:Bool):List Str:=(if b0=true then[("xmlns":Str)]else[])++(if b1=true then[("xmlns":Str)]else[])++(if p=true then[("xmlns:p":Str)]else[])++(if q=true then[("xmlns:q":Str)]else[])++(if r=true then[("xmlns:r":Str)]else[])
theorem Xe:∀b0 b1 p q r:Bool,Ci (xn b0 b1 p q r)=xn b0 b1 p q r∧(xn b0 b1 p q r).filter G9=xn b0 b1 p q r∧(xn b0 b1 p q r).filter (fun s=>!G9 s)=[]:=by decide+kernel
theorem V1(s0 s1:St):∃b0 b1 p q r,((td s0 s1).map toldV).map (·.1)=xn b0 b1 p q r:=by
 have e1:∀u,(toldV (sE,u)).1=("xmlns":Str):=fun u=>show(if sE=("":Str)then("xmlns":Str)else("xmlns:":Str)++sE)=_ by decide+kernel
 have e2:∀u,(toldV (sP,u)).1=("xmlns:p":Str):=fun u=>show(if sP=("":Str)then("xmlns":Str)else("xmlns:":Str)++sP)=_ by decide+kernel
 have e3:∀u,(toldV (sQ,u)).1=("xmlns:q":Str):=fun u=>show(if sQ=("":Str)then("xmlns":Str)else("xmlns:":Str)++sQ)=_ by decide+kernel
 have e4:∀u,(toldV (sR,u)).1=("xmlns:r":Str):=fun u=>show(if sR=("":Str)then("xmlns":Str)else("xmlns:":Str)++sR)=_ by decide+kernel
 have key:∀(c:Prop) [Decidable c] (k u n:Str),(toldV (k,u)).1=n→∃b:Bool,((if c then[(k,u)]else[]).map toldV).map (·.1)=if b=true then[n]else[]:=by
  intro c _ k u n e;by_cases h:c
  ·exact⟨true,by refine rr (if_pos h) (rr (if_pos rfl) (rl e ?_));rfl⟩
  ·exact⟨false,by refine rr (if_neg h) (rr (if_neg (by decide)) ?_);rfl⟩
 obtain⟨b0,h0⟩:=key (s0.d.isSome=true∧s1.d.isSome=false) sE sE _ (e1 _);obtain⟨b1,h1⟩:=key (s1.d.isSome=true∧s0.d≠s1.d) sE (s1.d.getD sE) _ (e1 _);obtain⟨b2,h2⟩:=key (s1.p=true∧s0.p=false) sP sU _ (e2 _);obtain⟨b3,h3⟩:=key (s1.q=true∧s0.q=false) sQ sV _ (e3 _);obtain⟨b4,h4⟩:=key (s1.r=true∧s0.r=false) sR sA _ (e4 _);refine⟨b0,b1,b2,b3,b4,?_⟩;unfold td xn;simp only[List.map_append];exact rr h0 (rr h1 (rr h2 (rr h3 (rr h4 rfl))))
theorem QB{st:St}{x:Ax}(hx:Fj st x):KC (.st x.name (a3 st x))∧(nmsE (.st x.name (a3 st x))).length≤20∧∀s∈nmsE (.st x.name (a3 st x)),s.length≤100:=by
 obtain⟨b0,b1,p,q,r,e⟩:=V1 st (BJ st x);obtain⟨h1,h2,h3⟩:=Xe b0 b1 p q r;have hn:nmsE (.st x.name (a3 st x))=xn b0 b1 p q r++(srt x).map (·.1):=by show(a3 st x).map (·.1)=_;unfold a3;exact rr List.map_append (rr e rfl)
 have hs:∀l:List Str,(∀s∈l,s∈N5)→l.filter G9=[]∧l.filter (fun s=>!G9 s)=l:=by
  intro l hl;refine⟨List.filter_eq_nil_iff.mpr fun s hs=>by refine rr (Qp s (hl s hs)) ?_;decide,List.filter_eq_self.mpr fun s hs=>by refine rr (Qp s (hl s hs)) ?_;rfl⟩
 obtain⟨h4,h5⟩:=hs ((srt x).map (·.1)) fun s hs=>by obtain⟨p,hp,rfl⟩:=List.mem_map.mp hs;exact(NO hx.el hx.ok p hp).1
 refine⟨⟨?_,?_⟩,?_,fun s hs=>?_⟩
 ·rw[hn,List.filter_append,List.filter_append,h2,h3,h4,h5,List.append_nil,List.nil_append]
 ·exact rr hn (rr (List.filter_append ..) (rr h2 (rr h4 (rr (List.append_nil ..) (rr h1 rfl)))))
 ·show((a3 st x).map (·.1)).length≤20;refine rr (List.length_map ..) ?_;have:=hx.len;exact Pc this
 ·obtain⟨p,hp,rfl⟩:=List.mem_map.mp hs;have:=(hx.at' p hp).2.1;exact ZQ this
theorem J1{e:Ev}(h:nmsE e=[]):KC e∧(nmsE e).length≤20∧∀s∈nmsE e,s.length≤100:=by
 refine⟨⟨by rw[h];rfl,by rw[h];rfl⟩,by rw[h];exact Nat.zero_le _,fun s hs=>by rw[h]at hs;cases hs⟩
set_option tactic.hygienic true in
theorem GP:∀(g:Fo) {n:Nat} {st:St},NF n st g→∀e∈evs g,KC e∧(nmsE e).length≤20∧∀s∈nmsE e,s.length≤100
 |.nil=>by
  rintro _ e he;cases he
 |.pi _ _ _=>by
  rintro h _ _;exact h.elim
 |.cm s r=>by
  rename_i n st;rintro h e he;exact(List.mem_cons.mp he).elim (fun w=>by exact rr w (J1 rfl)) (GP r h.2 e)
 |.tx s r=>by
  rename_i n st;rintro h e he;exact(List.mem_cons.mp he).elim (fun w=>by exact rr w (J1 rfl)) (GP r h.2 e)
 |.el m a k r=>by
  rename_i n st;rintro h e he;obtain⟨⟨x,g0,hx,g3,rfl,rfl,g5⟩,g6⟩:=h;rcases List.mem_cons.mp he with rfl|he
  ·exact QB hx
  ·rcases List.mem_append.mp he with he|he
   ·exact GP k g5 e he
   ·rcases List.mem_cons.mp he with rfl|he
    ·exact J1 rfl
    ·exact GP r g6 e he
noncomputable def Oa:St:=⟨none,false,false,false⟩
theorem OK:I9 Ak Oa:=by
 refine⟨by decide+kernel,?_⟩
 funext k
 show AG [(_,_)] k=_;refine rr (AN ..) ?_;unfold fS;by_cases h:k=sX
 ·exact rr (if_pos h) (rr (if_pos (show("xml":Str)=k from h.symm)) rfl)
 ·refine rr (if_neg h) (rr (if_neg (show ¬("xml":Str)=k from fun e=>h (Eq.symm e))) ?_);show none=_;split
  ·rfl
  ·split
   ·rfl
   ·split
    ·rfl
    ·split<;>rfl
theorem Qg:Jr Ak Oa:=⟨fun k _=>by exact rr OK.lk rfl,by exact rr OK.lk (rr (SH ..) rfl)⟩
theorem Gk:∀g:Fo,(evs g).length≤2*A8 g
 |.nil=>Nat.le_refl _
 |.el n a k r=>by simp only[evs,A8,List.length_cons,List.length_append];have:=Gk k;have:=Gk r;lia
 |.tx s r=>by simp only[evs,A8,List.length_cons];have:=Gk r;exact Qb this
 |.cm s r=>by simp only[evs,A8,List.length_cons];have:=Gk r;exact Qb this
 |.pi t d r=>by simp only[evs,A8,List.length_cons];have:=Gk r;exact Qb this
theorem Py(x:Ax)(tu:Bool):(LX x tu).length≤8:=by
 have h1:=G0 x;have h2:=DD x;unfold LX
 cases tu with
 |false=>exact rr (if_neg (by decide)) (rr List.length_append (rr (List.length_map ..) (YE h1 h2)))
 |true=>
  refine rr (if_pos rfl) (rr List.length_append (rr List.length_append (rr List.length_reverse (rr List.length_reverse (rr (List.length_map ..) ?_)))));cases x<;>simp<;>lia
theorem Hm(tu:Bool):∀d:D,A8 (HP tu d)≤9*sz d
 |.nil=>Nat.le_refl _
 |.cm r=>by simp only[HP,A8,sz];have:=Hm tu r;exact TD this
 |.tx w r=>by
  have:=Hm tu r;simp only[HP,sz];split<;>simp only[A8]<;>lia
 |.el x k r=>by simp only[HP,A8,sz];have:=Hm tu r;have:=Hm tu k;have:=Py x tu;lia
theorem L0{cm:Bool}{n:Str}{a:List (Str×Str)}{k:Fo}{one:Str}{l:List Ev}(ok:GS cm Ak Ak (.el n a k .nil))(hc:A8 (.el n a k .nil)≤380)(ho:HA cm Ak Ak (.el n a k .nil)=cl one)(hl:evs (.el n a k .nil)=l):∃T o,Hc cm l T o∧jn o=one:=by
 obtain⟨T,o,h1,h2⟩:=UI ok hc;exact⟨T,o,hl▸h1,Str.ext' (h2.trans ho)⟩
theorem ZK(rs:List Ax)(hok:∀r∈rs,r.Ok)(hhd:∃w rs',rs= .root w::rs'∧∀r∈rs',r.above≠none)(h5:rs.length≤5):∃one e3,OA rs one e3:=by
 have h:Mw rs:=⟨hok,hhd,h5⟩
 have h0:0<rs.length:=by obtain⟨w,rs',rfl,_⟩:=hhd;exact Nat.succ_pos _
 obtain⟨w,hw⟩:∃w,rs[0]?=some (.root w):=by obtain⟨w,rs',rfl,_⟩:=hhd;exact⟨w,rfl⟩
 obtain⟨k,hd⟩:∃k,Bq rs 5 0 .nil= .el (.root w) k .nil:=⟨_,Hh hw rfl⟩
 have okd:O1 5 Oa (Bq rs 5 0 .nil):=RM h 5 0 .nil Oa (.inr rfl) trivial
 have hsz:sz (Bq rs 5 0 .nil)≤16:=by
  have h1:=QI (rs:=rs) 5 0 .nil h0;have h2:2^(rs.length-0-1)≤2^4:=Nat.pow_le_pow_right (by decide) (Nat.sub_le_sub_right h5 1);exact Nat.le_trans h1 h2
 have hev:∀tu,evs (HP tu (Bq rs 5 0 .nil))=Do rs tu 5 0:=fun tu=>(OU h tu 5 0 .nil).trans (List.append_nil _);have so0:GO Oa:=.inl rfl;rw[hd]at okd hsz;have hx:Fj Oa (.root w):=⟨rfl,okd.2.2.1,so0⟩
 have fo:∀cm tu,GS cm Ak Ak (HP tu (.el (.root w) k .nil))∧HA cm Ak Ak (HP tu (.el (.root w) k .nil))=Ce cm Oa (.el (.root w) k .nil):=
  fun cm tu=>KD _ okd so0 Qg OK (by decide) (by decide)
 have co:∀tu,A8 (HP tu (.el (.root w) k .nil))≤380:=fun tu=>Nat.le_trans (Hm tu _) (by exact dH hsz);obtain⟨n1,n2,n3⟩:=Jg _ okd so0;obtain⟨f1,f2⟩:=MT _ n1 so0 Qg OK (by decide) (by decide) (by exact WF hsz n2);obtain⟨t1,t2,t3⟩:=GM _ okd so0;have t4:=Je _ [] okd so0;rw[List.append_nil]at t4;have htk:=L8 (.el (.root w) k .nil) Oa;refine⟨mk (Ce true Oa (.el (.root w) k .nil)),evs (JK Oa (.el (.root w) k .nil)),?_,?_,?_,?_,htk.symm,?_,?_,?_,GP _ n1,?_,?_⟩
 ·exact L0 (fo true false).1 (co false) (fo true false).2 (by refine rl (hev ..) (rr hd ?_);rfl)
 ·exact L0 (fo true true).1 (co true) (fo true true).2 (by refine rl (hev ..) (rr hd ?_);rfl)
 ·exact L0 f1 (by show A8 (JK Oa (.el (.root w) k .nil))≤_;exact ai hsz n3) (f2.trans htk) rfl
 ·refine L0 (fo false false).1 (co false) ?_ (by refine rl (hev ..) (rr hd ?_);rfl);refine(fo false false).2.trans ?_;refine rr (Ng (by decide+kernel)) (rr (show cl ("<!-- k -->":Str)=Uu by decide+kernel) ?_);exact(t4.trans (List.append_nil _)).symm
 ·obtain⟨⟨x,g0,gx,g3,e1,e2,g5⟩,g6⟩:=n1;exact OR hx (Hs _ _ g5 (by have:tl (JK Oa (.el (.root w) k .nil))=tl (JK (BJ Oa (.root w)) k)+0:=rfl;exact VW hsz n2 this) ⟨hx.nm,fun w=>(nomatch w),trivial⟩ rfl)
 ·have:=Gk (JK Oa (.el (.root w) k .nil));exact Wm hsz n3 this
 ·exact rr (CR ..) (Xh hsz t3)
 ·exact ID.none_in (u:=47) (v:=62) t1 (by decide+kernel)
 ·exact rr (show("\r":Str)=mk [13] by decide+kernel) (rr (JI ..) (decide_eq_false t2))
noncomputable def TJ:List (Str×Str):=[(("z":Str),("1":Str)),(("a":Str),("\t\n<":Str)),(("xmlns":Str),("u":Str))]
noncomputable def eU:List (Str×Str):=[(("xmlns":Str),("":Str))]
noncomputable def cL:List (Str×Str):=[(("xmlns:q":Str),("b":Str)),(("xmlns:r":Str),("a":Str)),(("q:m":Str),("1":Str)),(("r:n":Str),("2":Str))]
noncomputable def kg:Fo:=.cm ("x":Str) (.el ("b":Str) TJ (.tx (">\r":Str) (.el ("c":Str) eU .nil (.el ("d":Str) cL (.el ("e":Str) [] .nil .nil) .nil))) (.pi ("go":Str) ("":Str) .nil))
noncomputable abbrev Rt(p u:Str):Prop:=p≠("xmlns":Str)∧p≠("xml":Str)∧u≠("http://www.w3.org/XML/1998/namespace":Str)∧u≠("http://www.w3.org/2000/xmlns/":Str)∧(p≠("":Str)→Ot p=true∧PM p=true∧p.length≤100∧u≠("":Str))
structure Ks(bs sc:Sc)(n:Str)(a:List (Str×Str)):Prop where
 a1:a.length≤20∧bs.length≤100∧n∈NMK∧∀p∈a,p.1≠("xmlns:":Str)∧p.1.length≤1000∧∀q∈(declL p.1).toList,Rt q p.2
 a2:Dj n≠("":Str)→(AG (enterL bs (foundL a)) (Dj n)).isSome=true
 a3:∀p∈othersL a,p.1∈NMK∧(Dj p.1≠("":Str)→(AG (enterL bs (foundL a)) (Dj p.1)).isSome=true)
 a4:((othersL a).map (JY (enterL bs (foundL a)))).Nodup∧((foundL a).map (·.1)).Nodup∧sc.length≤100
 a5:(withinL sc (foundL a)).length≤30∧∀p∈withinL sc (foundL a),p.1.length≤100∧p.2.length≤100
 a6:(othersL a).length≤4∧∀p∈asOf (enterL bs (foundL a)) a,p.length=4∧(p.getD 2 ("":Str)).length≤100∧(p.getD 3 ("":Str)).length≤100
 a7:(∀p∈sortT (asOf (enterL bs (foundL a)) a),p∈asOf (enterL bs (foundL a)) a)∧(sortT (asOf (enterL bs (foundL a)) a)).length≤4
 a8:(startF n (withinL sc (foundL a)) sc (asOf (enterL bs (foundL a)) a)).length≤5000
theorem Ks.go{bs sc:Sc}{n:Str}{a:List (Str×Str)}(h:Ks bs sc n a):Uf bs sc n a:=by
 obtain⟨⟨h1,h2,h3,h4⟩,h5,h6,⟨h7,h8,h9⟩,⟨h10,h11⟩,⟨h12,h13⟩,⟨h14,h15⟩,h16⟩:=h;have vl:∀v:Str,v.length≤100→(DE v).length≤1000:=fun v h=>by have:=Dv v;exact bI h this
 refine⟨⟨h1,fun p hp=>?_,h2,Ha _ h3,(DP _ h3).1,h5,fun p hp=>?_,h7,h8⟩,h9,⟨h10,fun p hp=>?_⟩,h12,fun p hp=>?_,h14,h15,by have:=(DP _ h3).2;exact R9 this,h16⟩
 ·obtain⟨b1,b2,b3⟩:=h4 p hp;refine⟨b1,b2,fun q hq=>?_⟩;obtain⟨c1,c2,c3,c4,c5⟩:=b3 q (by exact rr hq (.head _));exact⟨c1,c2,c3,c4,c5⟩
 ·obtain⟨b1,b2⟩:=h6 p hp;exact⟨Ha _ b1,(DP _ b1).1,b2⟩
 ·obtain⟨b1,b2⟩:=h11 p hp;exact⟨b1,(CA (by exact ZZ b2)).fv,vl _ b2⟩
 ·obtain⟨b1,b2,b3⟩:=h13 p hp;exact⟨b1,b2,(CA (by exact ZZ b3)).fv,vl _ b3⟩
theorem Yw:Ks Ak Ak ("b":Str) TJ:=by constructor<;>decide+kernel
theorem Z6:Ks (enterL Ak (foundL TJ)) (withinL Ak (foundL TJ)) ("c":Str) eU:=by constructor<;>decide+kernel
theorem Yh:Ks (enterL Ak (foundL TJ)) (withinL Ak (foundL TJ)) ("d":Str) cL:=by constructor<;>decide+kernel
theorem bQ:Ks (enterL (enterL Ak (foundL TJ)) (foundL cL)) (withinL (withinL Ak (foundL TJ)) (foundL cL)) ("e":Str) []:=by constructor<;>decide+kernel
theorem cD:GS true Ak Ak kg:=by
 refine⟨⟨CA (by decide+kernel),by decide+kernel⟩,Yw.go,⟨⟨CA (by decide+kernel),by decide+kernel⟩,Z6.go,trivial,Yh.go,⟨bQ.go,trivial,trivial⟩,trivial⟩,⟨CA (by decide+kernel),by decide+kernel,by decide+kernel⟩,trivial⟩
theorem YP:O2 true kg:=⟨by decide+kernel,by decide+kernel,trivial⟩
theorem Rq:JS:=by
 obtain⟨T,h⟩:=RK YP cD (by decide) (by decide);exact⟨T,_,h,by decide+kernel⟩
set_option tactic.hygienic true
namespace top
theorem tw16878204669230926818:True:=⟨⟩
theorem tw4213018616267185653:True:=⟨⟩
theorem tw11577829705659331004:True:=⟨⟩
theorem tw4547018644641229820:True:=⟨⟩
theorem tw1971433849790844608:True:=⟨⟩
theorem tw13305523845174962083:True:=⟨⟩
theorem tw17788931634197215145:True:=⟨⟩
theorem tw16885616592811714743:True:=⟨⟩
theorem tw2464713573024523455:True:=⟨⟩
theorem tw352232786441526191:True:=⟨⟩
theorem tw4046864289407762814:True:=⟨⟩
theorem tw14632489290957082403:True:=⟨⟩
theorem tw5667650583090716360:True:=⟨⟩
theorem tw14823308797102314842:True:=⟨⟩
theorem tw7008692893051332821:True:=⟨⟩
theorem tw1040915598704419856:True:=⟨⟩
theorem tw775762912060472103:True:=⟨⟩
theorem tw283044589724301:True:=⟨⟩
theorem tw9366391650621772374:True:=⟨⟩
theorem tw1617357707322924660:True:=⟨⟩
theorem tw4796303294375832693:True:=⟨⟩
theorem tw11159431927160009238:True:=⟨⟩
theorem tw11133666699803404755:True:=⟨⟩
theorem tw5244899138074338376:True:=⟨⟩
theorem tw1869187583165140508:True:=⟨⟩
theorem tw3730354652608582461:True:=⟨⟩
theorem tw8679839319945467846:True:=⟨⟩
theorem tw908825868028484722:True:=⟨⟩
theorem tw11620634932572840514:True:=⟨⟩
theorem tw104434173382791472:True:=⟨⟩
theorem tw1814787853859245837:True:=⟨⟩
theorem tw16264823338695392855:True:=⟨⟩
theorem tw13985988839938425345:True:=⟨⟩
theorem tw17576949682797635024:True:=⟨⟩
theorem tw1754339480302792767:True:=⟨⟩
theorem tw13261893007816960818:True:=⟨⟩
theorem tw4383139521930768336:True:=⟨⟩
theorem tw13345470168829271861:True:=⟨⟩
theorem tw13500427573557490136:True:=⟨⟩
theorem tw16439428074185983240:True:=⟨⟩
theorem tw6333448901615975916:True:=⟨⟩
theorem tw8321918168302905379:True:=⟨⟩
theorem tw14371913498598963198:True:=⟨⟩
theorem tw9233335307524088747:True:=⟨⟩
theorem tw12415523145999629524:True:=⟨⟩
theorem tw1195175773429642966:True:=⟨⟩
theorem tw16058212318047004132:True:=⟨⟩
theorem tw5225153198818245361:True:=⟨⟩
theorem tw390997316461189296:True:=⟨⟩
theorem tw4597200072644226624:True:=⟨⟩
theorem tw8645369167282567922:True:=⟨⟩
theorem tw1284575025550258836:True:=⟨⟩
theorem tw8689318265317240412:True:=⟨⟩
theorem tw953821971998124167:True:=⟨⟩
theorem tw6694047246710070196:True:=⟨⟩
theorem tw8817415213059835157:True:=⟨⟩
theorem tw5225916559131626549:True:=⟨⟩
theorem tw7313339093194340965:True:=⟨⟩
theorem tw114735475811551136:True:=⟨⟩
theorem tw5609151216138764652:True:=⟨⟩
theorem tw7681529838311687354:True:=⟨⟩
theorem tw17964300760807480141:True:=⟨⟩
theorem tw13272337422414781067:True:=⟨⟩
theorem tw10801874191123338550:True:=⟨⟩
theorem tw18367679650794681301:True:=⟨⟩
theorem tw8212240652046128837:True:=⟨⟩
theorem tw6659320528611288953:True:=⟨⟩
theorem tw2580922434103091657:True:=⟨⟩
theorem tw602653604445443664:True:=⟨⟩
theorem tw7845129631348957993:True:=⟨⟩
theorem tw14399976873020721970:True:=⟨⟩
theorem tw13899568491130100285:True:=⟨⟩
theorem tw681777741448182936:True:=⟨⟩
theorem tw12904532413392791838:True:=⟨⟩
theorem tw16004416686337608138:True:=⟨⟩
theorem tw8435561252592420358:True:=⟨⟩
theorem tw8139039716903228087:True:=⟨⟩
theorem tw12425085872883035938:True:=⟨⟩
theorem tw5088376156974544275:True:=⟨⟩
theorem tw1149218181149386328:True:=⟨⟩
theorem tw5915399644114372684:True:=⟨⟩
theorem tw9851269098105209369:True:=⟨⟩
theorem tw7325726471975496349:True:=⟨⟩
theorem tw3820434133910038737:True:=⟨⟩
theorem tw14453841093610474573:True:=⟨⟩
theorem tw14901070454687303710:True:=⟨⟩
theorem tw2377541652452675900:True:=⟨⟩
theorem tw3331421620988305804:True:=⟨⟩
theorem tw10006222313960134694:True:=⟨⟩
theorem tw4835499133494076262:True:=⟨⟩
theorem tw7160873610591055699:True:=⟨⟩
theorem tw1275901062530889299:True:=⟨⟩
theorem tw16068562728529669930:True:=⟨⟩
theorem tw10936122117785486979:True:=⟨⟩
theorem tw15245507539482535896:True:=⟨⟩
theorem tw16866024460163772082:True:=⟨⟩
theorem tw5839659824258004927:True:=⟨⟩
theorem tw1697544655201012999:True:=⟨⟩
theorem tw1294077662247117797:True:=⟨⟩
theorem tw3422688185749166683:True:=⟨⟩
theorem tw9961057766049560675:True:=⟨⟩
theorem tw16759092144687519636:True:=⟨⟩
theorem tw7444641836354208208:True:=⟨⟩
theorem tw14263998999751124003:True:=⟨⟩
theorem tw12080426169559351053:True:=⟨⟩
theorem tw10577272966987657301:True:=⟨⟩
theorem tw661290744650703789:True:=⟨⟩
theorem tw12483720753089274532:True:=⟨⟩
theorem tw4695670854781333657:True:=⟨⟩
theorem tw2126296398998916975:True:=⟨⟩
theorem tw17342085116792181814:True:=⟨⟩
theorem tw3739144386018749749:True:=⟨⟩
theorem tw860223938195835975:True:=⟨⟩
theorem tw18085771088847121727:True:=⟨⟩
theorem tw11582926029173025856:True:=⟨⟩
theorem tw18063644159110109576:True:=⟨⟩
theorem tw8237333600419904120:True:=⟨⟩
theorem tw216529984938456764:True:=⟨⟩
theorem tw17810072253543177317:True:=⟨⟩
theorem tw5476889619067714990:True:=⟨⟩
theorem tw17620759639134147866:True:=⟨⟩
theorem tw13090165191389475591:True:=⟨⟩
theorem tw15349318334595610263:True:=⟨⟩
theorem tw11141966352661209427:True:=⟨⟩
theorem tw8622502720953521162:True:=⟨⟩
theorem tw13290321428070320777:True:=⟨⟩
theorem tw17323899518341599180:True:=⟨⟩
theorem tw12287887523310495049:True:=⟨⟩
theorem tw8369368087495890639:True:=⟨⟩
theorem tw1584292188352093569:True:=⟨⟩
theorem tw11072019736110318841:True:=⟨⟩
theorem tw8148004212497801138:True:=⟨⟩
theorem tw4713442408853163898:True:=⟨⟩
theorem tw11116745826364501430:True:=⟨⟩
theorem tw16736118626332596326:True:=⟨⟩
theorem tw411662067469150650:True:=⟨⟩
theorem tw9673933992889287130:True:=⟨⟩
theorem tw13134186033006778460:True:=⟨⟩
theorem tw2822501910515967889:True:=⟨⟩
theorem tw877433047237710547:True:=⟨⟩
theorem tw16414630628198896168:True:=⟨⟩
theorem tw1585457916280141200:True:=⟨⟩
theorem tw2731995056826638727:True:=⟨⟩
theorem tw7830913209206220567:True:=⟨⟩
theorem tw15058813355848621054:True:=⟨⟩
theorem tw708234853630380328:True:=⟨⟩
theorem tw9913501989792142831:True:=⟨⟩
theorem tw18326957874037197240:True:=⟨⟩
theorem tw13968125046926948103:True:=⟨⟩
theorem tw6438537300738474071:True:=⟨⟩
theorem tw15503665604740900718:True:=⟨⟩
theorem tw3767615275625035234:True:=⟨⟩
theorem tw8311017846404947139:True:=⟨⟩
theorem tw1297684725254868899:True:=⟨⟩
theorem tw6662652255960138227:True:=⟨⟩
theorem tw6664487174759623829:True:=⟨⟩
theorem tw7847352863974893604:True:=⟨⟩
theorem tw2835187731363253809:True:=⟨⟩
theorem tw14789260269991461300:True:=⟨⟩
theorem tw1212798325632107971:True:=⟨⟩
theorem tw11613256710310857696:True:=⟨⟩
theorem tw11459358961799972967:True:=⟨⟩
theorem tw8637452081102412489:True:=⟨⟩
theorem tw9382581127745807760:True:=⟨⟩
theorem tw17022078359063049780:True:=⟨⟩
theorem tw8184561461823581802:True:=⟨⟩
theorem tw16933189992391631386:True:=⟨⟩
theorem tw11423202765487971197:True:=⟨⟩
theorem tw9743097575036673082:True:=⟨⟩
theorem tw16352630495959832749:True:=⟨⟩
theorem tw1988063486488863061:True:=⟨⟩
theorem tw14349089067433371257:True:=⟨⟩
theorem tw13890846271309207196:True:=⟨⟩
theorem tw13987285891283452908:True:=⟨⟩
theorem tw4655869559712951663:True:=⟨⟩
theorem tw16155163154822807229:True:=⟨⟩
theorem tw6930518751129746686:True:=⟨⟩
theorem tw14983691940233647259:True:=⟨⟩
theorem tw9601329371697537090:True:=⟨⟩
theorem tw16262243036561855896:True:=⟨⟩
theorem tw10399464001100048223:True:=⟨⟩
theorem tw8800459187187324500:True:=⟨⟩
theorem tw7033079012710635876:True:=⟨⟩
theorem tw10579768621468169598:True:=⟨⟩
theorem tw72247145696351765:True:=⟨⟩
theorem tw1321871150748368714:True:=⟨⟩
theorem tw5118827330378232414:True:=⟨⟩
theorem tw2267912224990424062:True:=⟨⟩
theorem tw8393700709775954928:True:=⟨⟩
theorem tw14235281626263879747:True:=⟨⟩
theorem tw12427389293880184781:True:=⟨⟩
theorem tw6520327441239513222:True:=⟨⟩
theorem tw17828378304095215089:True:=⟨⟩
theorem tw16900427199656544559:True:=⟨⟩
theorem tw8694864300669457046:True:=⟨⟩
theorem tw10774637447528242797:True:=⟨⟩
theorem tw2581206410525282061:True:=⟨⟩
theorem tw9016798869158615873:True:=⟨⟩
theorem tw1886144042066472794:True:=⟨⟩
theorem tw2847958352784047137:True:=⟨⟩
theorem tw15687709949711836451:True:=⟨⟩
theorem tw14459580976405569124:True:=⟨⟩
theorem tw3195522803047326042:True:=⟨⟩
theorem tw6381231289166406305:True:=⟨⟩
theorem tw381845443943030031:True:=⟨⟩
theorem tw2619622883677149074:True:=⟨⟩
theorem tw5766051744304087583:True:=⟨⟩
theorem tw3254097082911018636:True:=⟨⟩
theorem tw7743179893348639699:True:=⟨⟩
theorem tw1108800333578037850:True:=⟨⟩
theorem tw5105846836358774362:True:=⟨⟩
theorem tw9800703332001039478:True:=⟨⟩
theorem tw15985961358823992270:True:=⟨⟩
theorem tw2312856594315299383:True:=⟨⟩
theorem tw705360758644809490:True:=⟨⟩
theorem tw14917401599646851644:True:=⟨⟩
theorem tw13191473780850816973:True:=⟨⟩
theorem tw5597187220613765494:True:=⟨⟩
theorem tw3871027444623705763:True:=⟨⟩
theorem tw12764151676501842404:True:=⟨⟩
theorem tw17046948494117081484:True:=⟨⟩
theorem tw17953984050398360512:True:=⟨⟩
theorem tw2732273902793177162:True:=⟨⟩
theorem tw11430207588045935325:True:=⟨⟩
theorem tw4076138812419527698:True:=⟨⟩
theorem tw3669314199184481253:True:=⟨⟩
theorem tw5728218623943512802:True:=⟨⟩
theorem tw10773188271377071773:True:=⟨⟩
theorem tw4186445540838780016:True:=⟨⟩
theorem tw2601905985415302144:True:=⟨⟩
theorem tw12559286593441436923:True:=⟨⟩
theorem tw13001836021917841797:True:=⟨⟩
theorem tw2812155379371279736:True:=⟨⟩
theorem tw10001883323181062329:True:=⟨⟩
theorem tw14771320824794740959:True:=⟨⟩
theorem tw6749217079512962374:True:=⟨⟩
theorem tw1717825165581474212:True:=⟨⟩
theorem tw1123975283337734383:True:=⟨⟩
theorem tw13501252493785611398:True:=⟨⟩
theorem tw3217022616335106338:True:=⟨⟩
theorem tw6885214360128481674:True:=⟨⟩
theorem tw5303079699428457377:True:=⟨⟩
theorem tw15212760480394562756:True:=⟨⟩
theorem tw2809488002615124206:True:=⟨⟩
theorem tw10195997230039290492:True:=⟨⟩
theorem tw3378803678994701225:True:=⟨⟩
theorem tw8265311939077410998:True:=⟨⟩
theorem tw9335426496214029073:True:=⟨⟩
theorem tw18086089286151905521:True:=⟨⟩
theorem tw6240723676877644813:True:=⟨⟩
theorem tw14248925298954806443:True:=⟨⟩
theorem tw350670483859837877:True:=⟨⟩
theorem tw8410488445778877200:True:=⟨⟩
theorem tw11173010173815179391:True:=⟨⟩
theorem tw13120753694373217308:True:=⟨⟩
theorem tw5155950481276406077:True:=⟨⟩
theorem tw9259421805112917234:True:=⟨⟩
theorem tw1147548669246485465:True:=⟨⟩
theorem tw3315250197877816394:True:=⟨⟩
theorem tw15254643099363442306:True:=⟨⟩
theorem tw6189502492464219833:True:=⟨⟩
theorem tw8538268897159353584:True:=⟨⟩
theorem tw11279390925490393535:True:=⟨⟩
theorem tw15740088241188596515:True:=⟨⟩
theorem tw17886615442053742456:True:=⟨⟩
theorem tw5278709424875269971:True:=⟨⟩
theorem tw17103585973383926153:True:=⟨⟩
theorem tw18289109515434150305:True:=⟨⟩
theorem tw10915162052029792233:True:=⟨⟩
theorem tw4940147422707163885:True:=⟨⟩
theorem tw14796646475526232899:True:=⟨⟩
theorem tw8327351992414209593:True:=⟨⟩
theorem tw6491118196486620199:True:=⟨⟩
theorem tw105208000716104510:True:=⟨⟩
theorem tw3140898538269762758:True:=⟨⟩
theorem tw1492452104121835379:True:=⟨⟩
theorem tw9378254376102152143:True:=⟨⟩
theorem tw6265701101103706036:True:=⟨⟩
theorem tw1736530178072539846:True:=⟨⟩
theorem tw10548783162686979305:True:=⟨⟩
theorem tw3696473221133414273:True:=⟨⟩
theorem tw8968299171318014206:True:=⟨⟩
theorem tw11466170419677230873:True:=⟨⟩
theorem tw17470836177267949868:True:=⟨⟩
theorem tw10956490626425055710:True:=⟨⟩
theorem tw13896958669275611876:True:=⟨⟩
theorem tw9843949296442739443:True:=⟨⟩
theorem tw1112988674713690477:True:=⟨⟩
theorem tw15095372191486117680:True:=⟨⟩
theorem tw8025738503920905074:True:=⟨⟩
theorem tw13983857475226248213:True:=⟨⟩
theorem tw13303987763403120937:True:=⟨⟩
theorem tw13889484949932952446:True:=⟨⟩
theorem tw668136137496459709:True:=⟨⟩
theorem tw18371284783138465269:True:=⟨⟩
theorem tw12609604535291364189:True:=⟨⟩
theorem tw4656485037274611717:True:=⟨⟩
theorem tw8892184565913893157:True:=⟨⟩
theorem tw17545328352263074274:True:=⟨⟩
theorem tw16196420915677631385:True:=⟨⟩
theorem tw10574840078274726829:True:=⟨⟩
theorem tw16273406610938067001:True:=⟨⟩
theorem tw13432635357386499347:True:=⟨⟩
theorem tw12105128591322288922:True:=⟨⟩
theorem tw17582957951858275007:True:=⟨⟩
theorem tw8281120267493503204:True:=⟨⟩
theorem tw13370185576492129568:True:=⟨⟩
theorem tw12643491718579748851:True:=⟨⟩
theorem tw9152664641465651067:True:=⟨⟩
theorem tw11053662475850362967:True:=⟨⟩
theorem tw6572447435987645144:True:=⟨⟩
theorem tw13318506193475082254:True:=⟨⟩
theorem tw9685713192446186341:True:=⟨⟩
theorem tw5176459694589498394:True:=⟨⟩
theorem tw5702910450625016506:True:=⟨⟩
theorem tw6898770573198911631:True:=⟨⟩
theorem tw17050326753033342646:True:=⟨⟩
theorem tw9919435345466941130:True:=⟨⟩
theorem tw17089494485692210459:True:=⟨⟩
theorem tw12166907935582030026:True:=⟨⟩
theorem tw8813761850579938390:True:=⟨⟩
theorem tw14502225709538309166:True:=⟨⟩
theorem tw3484022092364678248:True:=⟨⟩
theorem tw4807692442873511580:True:=⟨⟩
theorem tw17783859843131274014:True:=⟨⟩
theorem tw1245559373397905713:True:=⟨⟩
theorem tw16420938139371093754:True:=⟨⟩
theorem tw10996937224433265937:True:=⟨⟩
theorem tw4840481374290595910:True:=⟨⟩
theorem tw6674990990233134667:True:=⟨⟩
theorem tw6883741973766446791:True:=⟨⟩
theorem tw18186074749648716422:True:=⟨⟩
theorem tw1655259298481077034:True:=⟨⟩
theorem tw8657480035899644758:True:=⟨⟩
theorem tw5648408011753718230:True:=⟨⟩
theorem tw12318557346453588183:True:=⟨⟩
theorem tw3486219094355674750:True:=⟨⟩
theorem tw6503730183909636620:True:=⟨⟩
theorem tw2555065506035805374:True:=⟨⟩
theorem tw16325430554902658873:True:=⟨⟩
theorem tw6583040956863952856:True:=⟨⟩
theorem tw11199710921928265848:True:=⟨⟩
theorem tw2443449257678562572:True:=⟨⟩
theorem tw4331257952254489624:True:=⟨⟩
theorem tw11443710868159068359:True:=⟨⟩
theorem tw18200808041648558556:True:=⟨⟩
theorem tw9739860059890490050:True:=⟨⟩
theorem tw11994683656316670133:True:=⟨⟩
theorem tw8043003576528973991:True:=⟨⟩
theorem tw2867133514656366558:True:=⟨⟩
theorem tw6176384092110617959:True:=⟨⟩
theorem tw3969286963782609292:True:=⟨⟩
theorem tw1833847959688406909:True:=⟨⟩
theorem tw15299407806266782574:True:=⟨⟩
theorem tw9178861053002065721:True:=⟨⟩
theorem tw17492772389151264855:True:=⟨⟩
theorem tw814325599930780420:True:=⟨⟩
theorem tw16734371015571099844:True:=⟨⟩
theorem tw9233715247699887402:True:=⟨⟩
theorem tw2924597203103170677:True:=⟨⟩
theorem tw9631074621892390191:True:=⟨⟩
theorem tw1088946173253831356:True:=⟨⟩
theorem tw17428532607074087071:True:=⟨⟩
theorem tw2878843996050045342:True:=⟨⟩
theorem tw9361663168868926718:True:=⟨⟩
theorem tw10694878333477680388:True:=⟨⟩
theorem tw297971269722091814:True:=⟨⟩
theorem tw4205137553216949640:True:=⟨⟩
theorem tw956942650209027819:True:=⟨⟩
theorem tw9516688046558066552:True:=⟨⟩
theorem tw10079171474624433434:True:=⟨⟩
theorem tw3465488137227279516:True:=⟨⟩
theorem tw15911569825323301435:True:=⟨⟩
theorem tw7273676953221729872:True:=⟨⟩
theorem tw9590735534726013551:True:=⟨⟩
theorem tw12958664272152378060:True:=⟨⟩
theorem tw7381879191629600215:True:=⟨⟩
theorem tw8363718466572441477:True:=⟨⟩
theorem tw17469865338272021226:True:=⟨⟩
theorem tw5596365628329696591:True:=⟨⟩
theorem tw12787338502077490372:True:=⟨⟩
theorem tw14042817526060737062:True:=⟨⟩
theorem tw15169761463676818070:True:=⟨⟩
theorem tw11593399256984752444:True:=⟨⟩
theorem tw594810645892935528:True:=⟨⟩
theorem tw2707679213066786127:True:=⟨⟩
theorem tw6196800358849779857:True:=⟨⟩
theorem tw15638586536077026902:True:=⟨⟩
theorem tw15744752440731449612:True:=⟨⟩
theorem tw17555251805378815213:True:=⟨⟩
theorem tw10296497611174029103:True:=⟨⟩
theorem tw8810280945414196856:True:=⟨⟩
theorem tw10864713392326063847:True:=⟨⟩
theorem tw8507776931139520737:True:=⟨⟩
theorem tw10648311167861321448:True:=⟨⟩
theorem tw370947364307004932:True:=⟨⟩
theorem tw13264354339760550358:True:=⟨⟩
theorem tw3002795768020413707:True:=⟨⟩
theorem tw3548060758652744671:True:=⟨⟩
theorem tw987869383939708018:True:=⟨⟩
theorem tw15918733279669447828:True:=⟨⟩
theorem tw12958502747184954254:True:=⟨⟩
theorem tw15646934709686841381:True:=⟨⟩
theorem tw795583310449317561:True:=⟨⟩
theorem tw9229161468869434483:True:=⟨⟩
theorem tw1400011881503588481:True:=⟨⟩
theorem tw3584897518013459382:True:=⟨⟩
theorem tw13012589842206080548:True:=⟨⟩
theorem tw11542710104232473196:True:=⟨⟩
theorem tw8107780213005350392:True:=⟨⟩
theorem tw8443935842833279946:True:=⟨⟩
theorem tw11189890337720088615:True:=⟨⟩
theorem tw2741389259953327712:True:=⟨⟩
theorem tw16597617366809209970:True:=⟨⟩
theorem tw8874702517807110003:True:=⟨⟩
theorem tw8472579005086612782:True:=⟨⟩
theorem tw16204670001084760307:True:=⟨⟩
theorem tw339143206060000330:True:=⟨⟩
theorem tw7414872774492366064:True:=⟨⟩
theorem tw4166218997396506358:True:=⟨⟩
theorem tw14697636140705633519:True:=⟨⟩
theorem tw2686433634493928565:True:=⟨⟩
theorem tw7458633546980236471:True:=⟨⟩
theorem tw14390669486469195807:True:=⟨⟩
theorem tw887695700811335699:True:=⟨⟩
theorem tw9272544492142499777:True:=⟨⟩
theorem tw9843447840031818808:True:=⟨⟩
theorem tw10448899703829047738:True:=⟨⟩
theorem tw12117888159696746259:True:=⟨⟩
theorem tw2683898200743741643:True:=⟨⟩
theorem tw2514443458684651071:True:=⟨⟩
theorem tw196536941598035525:True:=⟨⟩
theorem tw2405475915293451298:True:=⟨⟩
theorem tw243287103678006315:True:=⟨⟩
theorem tw12385144161495827662:True:=⟨⟩
theorem tw4828031223510198475:True:=⟨⟩
theorem tw9953747333497923681:True:=⟨⟩
theorem tw18134043772397237400:True:=⟨⟩
theorem tw12012865196380796599:True:=⟨⟩
theorem tw517144808224063464:True:=⟨⟩
theorem tw12564220515667953714:True:=⟨⟩
theorem tw11334415319851112604:True:=⟨⟩
theorem tw14615657086365298920:True:=⟨⟩
theorem tw93012567124736588:True:=⟨⟩
theorem tw2007660962349395123:True:=⟨⟩
theorem tw2988451766255067171:True:=⟨⟩
theorem tw17474498911051797155:True:=⟨⟩
theorem tw16713831800681072344:True:=⟨⟩
theorem tw4951766788466123468:True:=⟨⟩
theorem tw17219337458794519322:True:=⟨⟩
theorem tw575894324575664597:True:=⟨⟩
theorem tw11334203419191126389:True:=⟨⟩
theorem tw15362295582089109014:True:=⟨⟩
theorem tw13068111086705522682:True:=⟨⟩
theorem tw18185382058313985135:True:=⟨⟩
theorem tw14861896470697024400:True:=⟨⟩
theorem tw7386116660499605909:True:=⟨⟩
theorem tw9195894827357321740:True:=⟨⟩
theorem tw2029088862249889922:True:=⟨⟩
theorem tw864819663365544661:True:=⟨⟩
theorem tw1706793611546318481:True:=⟨⟩
theorem tw6761616313442571491:True:=⟨⟩
theorem tw15542334942015070624:True:=⟨⟩
theorem tw17177869089781658578:True:=⟨⟩
theorem tw8420165910927482534:True:=⟨⟩
theorem tw10797620697341660853:True:=⟨⟩
theorem tw9166809390415177425:True:=⟨⟩
theorem tw4571971715460732019:True:=⟨⟩
theorem tw17781115878593249900:True:=⟨⟩
theorem tw8973803690348224638:True:=⟨⟩
theorem tw8297286125493194097:True:=⟨⟩
theorem tw9962302188120564619:True:=⟨⟩
theorem tw15569959144833144457:True:=⟨⟩
theorem tw4321519831107876412:True:=⟨⟩
theorem tw14526540143163920134:True:=⟨⟩
theorem tw15271675978053873483:True:=⟨⟩
theorem tw17135812771915316397:True:=⟨⟩
theorem tw16982378080980825192:True:=⟨⟩
theorem tw6370870915552960936:True:=⟨⟩
theorem tw2502181453436431679:True:=⟨⟩
theorem tw9108098604805947806:True:=⟨⟩
theorem tw9951221954081769418:True:=⟨⟩
theorem tw12894197372075662830:True:=⟨⟩
theorem tw8640399195822439974:True:=⟨⟩
theorem tw13091174067606910046:True:=⟨⟩
theorem tw17486766287000646611:True:=⟨⟩
theorem tw4177254973167742082:True:=⟨⟩
theorem tw17030962893124633753:True:=⟨⟩
theorem tw10657950659306570408:True:=⟨⟩
theorem tw8143265674769528471:True:=⟨⟩
theorem tw13713866747541496747:True:=⟨⟩
theorem tw2369445192022557226:True:=⟨⟩
theorem tw12854555631548674099:True:=⟨⟩
theorem tw16541100652227675460:True:=⟨⟩
theorem tw6080035212989037350:True:=⟨⟩
theorem tw11954912124106229261:True:=⟨⟩
theorem tw15379149658297049715:True:=⟨⟩
theorem tw10964019828756983889:True:=⟨⟩
theorem tw18064794426631996164:True:=⟨⟩
theorem tw9383941580308980024:True:=⟨⟩
theorem tw18323345268413454196:True:=⟨⟩
theorem tw13579461331789944906:True:=⟨⟩
theorem tw2961162367911888002:True:=⟨⟩
theorem tw1514300762267966758:True:=⟨⟩
theorem tw1302751319478683191:True:=⟨⟩
theorem tw5434309568573575005:True:=⟨⟩
theorem tw1495599714519013414:True:=⟨⟩
theorem tw7894919865021028795:True:=⟨⟩
theorem tw1863945971648345846:True:=⟨⟩
theorem tw8613191699965854469:True:=⟨⟩
theorem tw2165817408578904141:True:=⟨⟩
theorem tw12798319543541648950:True:=⟨⟩
theorem tw7717162694582976202:True:=⟨⟩
theorem tw10362775142378211054:True:=⟨⟩
theorem tw18121752080927795069:True:=⟨⟩
theorem tw2752453847809088016:True:=⟨⟩
theorem tw10276331973627342096:True:=⟨⟩
theorem tw13420762306968818387:True:=⟨⟩
theorem tw3490714775656875082:True:=⟨⟩
theorem tw8146399340996573465:True:=⟨⟩
theorem tw10008474027749305400:True:=⟨⟩
theorem tw17590223800459381784:True:=⟨⟩
theorem tw9854310039474760501:True:=⟨⟩
theorem tw12379415707883124570:True:=⟨⟩
theorem tw12376051458212225564:True:=⟨⟩
theorem tw7527032243904285869:True:=⟨⟩
theorem tw1353657120722975067:True:=⟨⟩
theorem tw5647976800219259906:True:=⟨⟩
theorem tw9759319705405543751:True:=⟨⟩
theorem tw7855079511596107753:True:=⟨⟩
theorem tw13802547742096326172:True:=⟨⟩
theorem tw11845233108574324481:True:=⟨⟩
theorem tw18237780215024852062:True:=⟨⟩
theorem tw501154541418245514:True:=⟨⟩
theorem tw5692499903750754813:True:=⟨⟩
theorem tw15177526630643400193:True:=⟨⟩
theorem tw18394268562011335289:True:=⟨⟩
theorem tw672699306608606093:True:=⟨⟩
theorem tw14826035006057030972:True:=⟨⟩
theorem tw342308947776675178:True:=⟨⟩
theorem tw10987319290404115282:True:=⟨⟩
theorem tw7429413206186439793:True:=⟨⟩
theorem tw13928562000808390012:True:=⟨⟩
theorem tw15878805988109762761:True:=⟨⟩
theorem tw2249405535684624136:True:=⟨⟩
theorem tw13177472732611162249:True:=⟨⟩
theorem tw427269002284569659:True:=⟨⟩
theorem tw9614876229902214918:True:=⟨⟩
theorem tw9576743257966636567:True:=⟨⟩
theorem tw1486479319815781832:True:=⟨⟩
theorem tw11240886729373846589:True:=⟨⟩
theorem tw17346259052997144950:True:=⟨⟩
theorem tw2770239361232196585:True:=⟨⟩
theorem tw14724332232928298890:True:=⟨⟩
theorem tw5523086135645875356:True:=⟨⟩
theorem tw14282377253939248939:True:=⟨⟩
theorem tw4250876409542091131:True:=⟨⟩
theorem tw2907113945770861938:True:=⟨⟩
theorem tw10361075674979980167:True:=⟨⟩
theorem tw6487610083215253720:True:=⟨⟩
theorem tw9149571693438533347:True:=⟨⟩
theorem tw11045010717311733409:True:=⟨⟩
theorem tw1732150942055357024:True:=⟨⟩
theorem tw4671429814451907529:True:=⟨⟩
theorem tw11584198869435930015:True:=⟨⟩
theorem tw7671549972530922468:True:=⟨⟩
theorem tw7913636548009798097:True:=⟨⟩
theorem tw7092665756404751892:True:=⟨⟩
theorem tw13922054642007902626:True:=⟨⟩
theorem tw1186331607622873149:True:=⟨⟩
theorem tw788273225186049534:True:=⟨⟩
theorem tw12783364522390391256:True:=⟨⟩
theorem tw2220570432770164149:True:=⟨⟩
theorem tw9326722878772556681:True:=⟨⟩
theorem tw9305691244287143441:True:=⟨⟩
theorem tw3776753064480771068:True:=⟨⟩
theorem tw13852830345959847167:True:=⟨⟩
theorem tw649594095290182367:True:=⟨⟩
theorem tw4159251561096739476:True:=⟨⟩
theorem tw81815255157605957:True:=⟨⟩
theorem tw6431110157172167083:True:=⟨⟩
theorem tw8523463495250067690:True:=⟨⟩
theorem tw8204474986945543665:True:=⟨⟩
theorem tw8345894832289464959:True:=⟨⟩
theorem tw2770563814800254177:True:=⟨⟩
theorem tw76412952228603488:True:=⟨⟩
theorem tw15874363893724204672:True:=⟨⟩
theorem tw728428047077509346:True:=⟨⟩
theorem tw146815374380898660:True:=⟨⟩
theorem tw14608685727046917156:True:=⟨⟩
theorem tw15361541807878343388:True:=⟨⟩
theorem tw5058314954733539658:True:=⟨⟩
theorem tw3664424711883983056:True:=⟨⟩
theorem tw12535971307161669396:True:=⟨⟩
theorem tw14145802354927516647:True:=⟨⟩
theorem tw53344730913325255:True:=⟨⟩
theorem tw1638113669730673903:True:=⟨⟩
theorem tw8265191368974092141:True:=⟨⟩
theorem tw7673058066778466091:True:=⟨⟩
theorem tw14142502885225118848:True:=⟨⟩
theorem tw12392516345856041104:True:=⟨⟩
theorem tw8531415777343470585:True:=⟨⟩
theorem tw10617020205504526918:True:=⟨⟩
theorem tw12540527436937284434:True:=⟨⟩
theorem tw3474246075231452896:True:=⟨⟩
theorem tw6893477703608230032:True:=⟨⟩
theorem tw9768079942903668216:True:=⟨⟩
theorem tw15877122091014420850:True:=⟨⟩
theorem tw3261557481417251176:True:=⟨⟩
theorem tw7204998973626084599:True:=⟨⟩
theorem tw2985252069258134486:True:=⟨⟩
theorem tw6286779285267259847:True:=⟨⟩
theorem tw5889316905344633881:True:=⟨⟩
theorem tw15092371282622821202:True:=⟨⟩
theorem tw10187724287525710026:True:=⟨⟩
theorem tw10005945817407372193:True:=⟨⟩
theorem tw8140125068956082859:True:=⟨⟩
theorem tw3712731000106771831:True:=⟨⟩
theorem tw10017263926548143515:True:=⟨⟩
theorem tw1676862907878916244:True:=⟨⟩
theorem tw6746510453823603384:True:=⟨⟩
theorem tw16054190913257422852:True:=⟨⟩
theorem tw9227057690007400460:True:=⟨⟩
theorem tw15451780782824253742:True:=⟨⟩
theorem tw4773702212245658779:True:=⟨⟩
theorem tw4526881389914513428:True:=⟨⟩
theorem tw1522322319653140107:True:=⟨⟩
theorem tw10187264123177260123:True:=⟨⟩
theorem tw2145171640123136144:True:=⟨⟩
theorem tw17795014544551873601:True:=⟨⟩
theorem tw956089473029861405:True:=⟨⟩
theorem tw3453223234828964814:True:=⟨⟩
theorem tw1843344800811705456:True:=⟨⟩
theorem tw11982747722937265360:True:=⟨⟩
theorem tw17542608870123051758:True:=⟨⟩
theorem tw9666326922614434849:True:=⟨⟩
theorem tw6430265229019958763:True:=⟨⟩
theorem tw2544169868661182894:True:=⟨⟩
theorem tw9063741608606530840:True:=⟨⟩
theorem tw5969682004907312646:True:=⟨⟩
theorem tw11546936639936008217:True:=⟨⟩
theorem tw7657828476027519975:True:=⟨⟩
theorem tw16800595933775061595:True:=⟨⟩
theorem tw12819366960792805191:True:=⟨⟩
theorem tw4047667213573674445:True:=⟨⟩
theorem tw14372152842798730730:True:=⟨⟩
theorem tw8054331753737935190:True:=⟨⟩
theorem tw1291508964198565346:True:=⟨⟩
theorem tw13223034962123697568:True:=⟨⟩
theorem tw13549259019975226677:True:=⟨⟩
theorem tw13307591127769906961:True:=⟨⟩
theorem tw8547604310838440241:True:=⟨⟩
theorem tw13359135706311490777:True:=⟨⟩
theorem tw13187519465064655849:True:=⟨⟩
theorem tw4058662728301269685:True:=⟨⟩
theorem tw2722852734226103192:True:=⟨⟩
theorem tw2972514686349903234:True:=⟨⟩
theorem tw2365566498512967660:True:=⟨⟩
theorem tw4392038535549328194:True:=⟨⟩
theorem tw4299629679881509495:True:=⟨⟩
theorem tw17315540178315561739:True:=⟨⟩
theorem tw2968346561183084112:True:=⟨⟩
theorem tw15976228082101565994:True:=⟨⟩
theorem tw15240379268576122478:True:=⟨⟩
theorem tw11922380849998532372:True:=⟨⟩
theorem tw995497684801637723:True:=⟨⟩
theorem tw2758071753971750899:True:=⟨⟩
theorem tw14537839394382259888:True:=⟨⟩
theorem tw1124271682379634556:True:=⟨⟩
theorem tw1394568958698188020:True:=⟨⟩
theorem tw2727672472851901052:True:=⟨⟩
theorem tw3195968871104189447:True:=⟨⟩
theorem tw8729362747519067210:True:=⟨⟩
theorem tw12622177474791663080:True:=⟨⟩
theorem tw6124053682588569230:True:=⟨⟩
theorem tw8693662901424576113:True:=⟨⟩
theorem tw5245862010334584759:True:=⟨⟩
theorem tw1803303928475200142:True:=⟨⟩
theorem tw5398424786039705171:True:=⟨⟩
theorem tw14466935161476858967:True:=⟨⟩
theorem tw11383000496634168614:True:=⟨⟩
theorem tw5983031951866500094:True:=⟨⟩
theorem tw15125931889511115149:True:=⟨⟩
theorem tw4134505453457115739:True:=⟨⟩
theorem tw2506305409684761478:True:=⟨⟩
theorem tw3909029901177050473:True:=⟨⟩
theorem tw12545222027267286695:True:=⟨⟩
theorem tw13385244156195431271:True:=⟨⟩
theorem tw3796891538752321733:True:=⟨⟩
theorem tw10467260515200827399:True:=⟨⟩
theorem tw8999917154711486175:True:=⟨⟩
theorem tw7204493036743257322:True:=⟨⟩
theorem tw6624316729101989866:True:=⟨⟩
theorem tw5581607755468803823:True:=⟨⟩
theorem tw9059832203979395877:True:=⟨⟩
theorem tw13369591340354186047:True:=⟨⟩
theorem tw6919701780365589675:True:=⟨⟩
theorem tw6383614241601562808:True:=⟨⟩
theorem tw1016984595167383106:True:=⟨⟩
theorem tw4010397242664982755:True:=⟨⟩
theorem tw84136930442132756:True:=⟨⟩
theorem tw3479634599624807885:True:=⟨⟩
theorem tw5938664839603501006:True:=⟨⟩
theorem tw2685012915969955173:True:=⟨⟩
theorem tw1601500998369573665:True:=⟨⟩
theorem tw16104615914030681952:True:=⟨⟩
theorem tw6906291655842520137:True:=⟨⟩
theorem tw10567129059001840431:True:=⟨⟩
theorem tw14168018189251442112:True:=⟨⟩
theorem tw16821654228018055803:True:=⟨⟩
theorem tw2617719716777270872:True:=⟨⟩
theorem tw17355269125676882429:True:=⟨⟩
theorem tw16034636559557993077:True:=⟨⟩
theorem tw18177719399980262173:True:=⟨⟩
theorem tw3337584539547039419:True:=⟨⟩
theorem tw13822267516522204269:True:=⟨⟩
theorem tw8823455108540655025:True:=⟨⟩
theorem tw17594962761535629368:True:=⟨⟩
theorem tw12256363837256957063:True:=⟨⟩
theorem tw3995942328266245912:True:=⟨⟩
theorem tw401921906979044612:True:=⟨⟩
theorem tw11760055953109336660:True:=⟨⟩
theorem tw6786057226368545225:True:=⟨⟩
theorem tw4916261283513009128:True:=⟨⟩
theorem tw9589608677651300831:True:=⟨⟩
theorem tw17741875731164886585:True:=⟨⟩
theorem tw13710211086531791108:True:=⟨⟩
theorem tw4791253341166991637:True:=⟨⟩
theorem tw7600245330811189008:True:=⟨⟩
theorem tw2417791160451022400:True:=⟨⟩
theorem tw8735323631387419056:True:=⟨⟩
end top
set_option Elab.async true
set_option maxHeartbeats 8000000 in
theorem top:PySem.Challenge.rw_nu0075_01.Holds:=by
  (w_on;o_law;k_head;(case hw=>w_witness2))
  refine PY Rq ZK (fun P=>?_) rfl
  exact{
    IA:=⟨_,_,_,_,_,_,_,_,_,_,_,by rfl,by kernel_rfl⟩,
    H8:=by kernel_rfl,
    Hz:=by kernel_rfl,
    KO:=⟨_,_,_,_,_,_,_,_,_,_,_,by rfl,by kernel_rfl⟩,
    KZ:=by kernel_rfl,
    KM:=by kernel_rfl,
    KQ:=⟨_,_,_,_,_,_,_,_,_,_,_,by rfl,by kernel_rfl⟩,
    EE:=by kernel_rfl,
    EB:=by kernel_rfl,
    FM:=⟨_,_,_,_,_,_,_,_,_,_,_,by rfl,by kernel_rfl⟩,
    FC:=by kernel_rfl,
    FN:=by kernel_rfl,
    Ed:=⟨_,_,_,_,_,_,_,_,_,_,_,by rfl,by kernel_rfl⟩,
    Cq:=by kernel_rfl,
    Cu:=by kernel_rfl,
    Ca:=⟨_,_,_,_,_,_,_,_,_,_,_,by rfl,by kernel_rfl⟩,
    Cc:=by kernel_rfl,
    Cb:=by kernel_rfl,
    H5:=⟨_,_,_,_,_,_,_,_,_,_,_,by rfl,by kernel_rfl⟩,
    H3:=by kernel_rfl,
    IC:=by kernel_rfl,
    Eg:=⟨_,_,_,_,_,_,_,_,_,_,_,by rfl,by kernel_rfl⟩,
    EU:=by kernel_rfl,
    EZ:=by kernel_rfl,
    FR:=⟨_,_,_,_,_,_,_,_,_,_,_,by rfl,by kernel_rfl⟩,
    C9:=by kernel_rfl,
    C6:=by kernel_rfl,
    GY:=⟨_,_,_,_,_,_,_,_,_,_,_,by rfl,by kernel_rfl⟩,
    Gf:=by kernel_rfl,
    Gc:=by kernel_rfl,
    DX:=⟨_,_,_,_,_,_,_,_,_,_,_,by rfl,by kernel_rfl⟩,
    DY:=by kernel_rfl,
    DZ:=by kernel_rfl,
    FG:=⟨_,_,_,_,_,_,_,_,_,_,_,by rfl,by kernel_rfl⟩,
    FI:=by kernel_rfl,
    FH:=by kernel_rfl,
    Eh:=⟨_,_,_,_,_,_,_,_,_,_,_,by rfl,by kernel_rfl⟩,
    Ea:=by kernel_rfl,
    Ef:=by kernel_rfl,
    F4:=⟨_,_,_,_,_,_,_,_,_,_,_,by rfl,by kernel_rfl⟩,
    DQ:=by kernel_rfl,
    DV:=by kernel_rfl,
    GW:=⟨_,_,_,_,_,_,_,_,_,_,_,by rfl,by kernel_rfl⟩,
    GX:=by kernel_rfl,
    GZ:=by kernel_rfl,
    H1:=⟨_,_,_,_,_,_,_,_,_,_,_,by rfl,by kernel_rfl⟩,
    H4:=by kernel_rfl,
    H6:=by kernel_rfl,
    LF:=⟨_,_,_,_,_,_,_,_,_,_,_,by rfl,by kernel_rfl⟩,
    LI:=by kernel_rfl,
    LL:=by kernel_rfl,
    Il:=⟨_,_,_,_,_,_,_,_,_,_,_,by rfl,by kernel_rfl⟩,
    Gi:=by kernel_rfl,
    Ga:=by kernel_rfl,
    Hx:=⟨_,_,_,_,_,_,_,_,_,_,_,by rfl,by kernel_rfl⟩,
    Fk:=by kernel_rfl,
    Fm:=by kernel_rfl,
    Eb:=⟨_,_,_,_,_,_,_,_,_,_,_,by rfl,by kernel_rfl⟩,
    EV:=by kernel_rfl,
    Ee:=by kernel_rfl,
    Fx:=⟨_,_,_,_,_,_,_,_,_,_,_,by rfl,by kernel_rfl⟩,
    GB:=by kernel_rfl,
    Fz:=by kernel_rfl,
    Io:=⟨_,_,_,_,_,_,_,_,_,_,_,by rfl,by kernel_rfl⟩,
    It:=by kernel_rfl,
    Iw:=by kernel_rfl,
    KN:=⟨_,_,_,_,_,_,_,_,_,_,_,by rfl,by kernel_rfl⟩,
    KR:=by kernel_rfl,
    KW:=by kernel_rfl,
    Ik:=⟨_,_,_,_,_,_,_,_,_,_,_,by rfl,by kernel_rfl⟩,
    I4:=by kernel_rfl,
    Iv:=by kernel_rfl,
    Im:=⟨_,_,_,_,_,_,_,_,_,_,_,by rfl,by kernel_rfl⟩,
    B6:=by kernel_rfl,
    B7:=by kernel_rfl,
    KS:=⟨_,_,_,_,_,_,_,_,_,_,_,by rfl,by kernel_rfl⟩,
    D6:=by kernel_rfl,
    EG:=by kernel_rfl,
    FF:=⟨_,_,_,_,_,_,_,_,_,_,_,by rfl,by kernel_rfl⟩,
    C7:=by kernel_rfl,
    C8:=by kernel_rfl,
    KY:=⟨_,_,_,_,_,_,_,_,_,_,_,by rfl,by kernel_rfl⟩,
    KU:=by kernel_rfl,
    KP:=by kernel_rfl,
    Gd:=⟨_,_,_,_,_,_,_,_,_,_,_,by rfl,by kernel_rfl⟩,
    GV:=by kernel_rfl,
    Gb:=by kernel_rfl,
    G8:=⟨_,_,_,_,_,_,_,_,_,_,_,by rfl,by kernel_rfl⟩,
    Eo:=by kernel_rfl,
    Ep:=by kernel_rfl,
    H9:=⟨_,_,_,_,_,_,_,_,_,_,_,by rfl,by kernel_rfl⟩,
    Df:=by kernel_rfl,
    Dg:=by kernel_rfl,
    Iz:=⟨_,_,_,_,_,_,_,_,_,_,_,by rfl,by kernel_rfl⟩,
    I5:=by kernel_rfl,
    Iy:=by kernel_rfl,
    FL:=⟨_,_,_,_,_,_,_,_,_,_,_,by rfl,by kernel_rfl⟩,
    Bd:=by kernel_rfl,
    Be:=by kernel_rfl,
    FQ:=⟨_,_,_,_,_,_,_,_,_,_,_,by rfl,by kernel_rfl⟩,
    BQ:=by kernel_rfl,
    BP:=by kernel_rfl,
    F3:=⟨_,_,_,_,_,_,_,_,_,_,_,by rfl,by kernel_rfl⟩,
    Fv:=by kernel_rfl,
    F9:=by kernel_rfl,
    To:=⟨_,_,_,_,_,_,_,_,_,_,_,by rfl,by kernel_rfl⟩,
    Tn:=by kernel_rfl,
    cE:=by kernel_rfl,
    Iq:=⟨_,_,_,_,_,_,_,_,_,_,_,by rfl,by kernel_rfl⟩,
    I2:=⟨_,_,_,(),by rfl⟩,
    I1:=by kernel_rfl,
    Ir:=by kernel_rfl,
    Of:=⟨_,_,_,_,_,_,_,_,_,_,_,by rfl,by kernel_rfl⟩,
    Od:=⟨_,_,_,(),by rfl⟩,
    Og:=by kernel_rfl,
    Oe:=by kernel_rfl,
    Ka:=by kernel_rfl,
    KV:=by kernel_rfl,
    I0:=⟨by kernel_rfl,by kernel_rfl,by kernel_rfl⟩,
    Da:=⟨_,_,_,_,_,_,_,_,_,_,_,by rfl,by kernel_rfl⟩,
    FJ:=⟨_,_,_,_,_,_,_,_,_,_,_,by rfl,by kernel_rfl⟩,
    FO:=⟨by kernel_rfl,by kernel_rfl,by kernel_rfl,by kernel_rfl,by kernel_rfl⟩,
    FS:=⟨_,_,_,_,_,_,_,_,_,_,_,by rfl,by kernel_rfl⟩,
    FE:=⟨by kernel_rfl,by kernel_rfl,by kernel_rfl,by kernel_rfl,by kernel_rfl⟩,
    EX:=⟨_,_,_,_,_,_,_,_,_,_,_,by rfl,by kernel_rfl⟩,
    Bu:=⟨by kernel_rfl,by kernel_rfl,by kernel_rfl,by kernel_rfl,by kernel_rfl⟩,
    Bt:=⟨_,_,_,_,_,_,_,_,_,_,_,by rfl,by kernel_rfl⟩,
    Bv:=⟨by kernel_rfl,by kernel_rfl,by kernel_rfl,by kernel_rfl,by kernel_rfl⟩,
    CI:=⟨_,_,_,_,_,_,_,_,_,_,_,by rfl,by kernel_rfl⟩,
    CH:=⟨_,_,_,(),by rfl⟩,
    Ba:=⟨by kernel_rfl,by kernel_rfl,by kernel_rfl,by kernel_rfl,by kernel_rfl⟩,
    BK:=⟨by kernel_rfl,by kernel_rfl,by kernel_rfl⟩,
    EY:=⟨by kernel_rfl,by kernel_rfl,by kernel_rfl,by kernel_rfl⟩,
    DR:=⟨by kernel_rfl,by kernel_rfl,by kernel_rfl⟩,
    F6:=⟨by kernel_rfl,by kernel_rfl,by kernel_rfl,by kernel_rfl⟩,
    RO:=by kernel_rfl,
    RQ:=by kernel_rfl,
    Oh:=⟨by kernel_rfl,by kernel_rfl,by kernel_rfl⟩,
    Fu:=⟨_,_,_,_,_,_,_,_,_,_,_,by rfl,by kernel_rfl⟩,
    Ge:=⟨_,_,_,_,_,_,_,_,_,_,_,by rfl,by kernel_rfl⟩,
    B8:=⟨by kernel_rfl,by kernel_rfl,by kernel_rfl,by kernel_rfl,by kernel_rfl⟩,
    KX:=⟨_,_,_,_,_,_,_,_,_,_,_,by rfl,by kernel_rfl⟩,
    BN:=⟨by kernel_rfl,by kernel_rfl,by kernel_rfl,by kernel_rfl,by kernel_rfl⟩,
    F5:=⟨_,_,_,_,_,_,_,_,_,_,_,by rfl,by kernel_rfl⟩,
    Fy:=⟨by kernel_rfl,by kernel_rfl,by kernel_rfl,by kernel_rfl,by kernel_rfl⟩,
    FB:=⟨_,_,_,_,_,_,_,_,_,_,_,by rfl,by kernel_rfl⟩,
    Bf:=⟨by kernel_rfl,by kernel_rfl,by kernel_rfl,by kernel_rfl,by kernel_rfl⟩,
    EF:=⟨_,_,_,_,_,_,_,_,_,_,_,by rfl,by kernel_rfl⟩,
    EA:=⟨by kernel_rfl,by kernel_rfl,by kernel_rfl,by kernel_rfl,by kernel_rfl⟩,
    F1:=⟨_,_,_,_,_,_,_,_,_,_,_,by rfl,by kernel_rfl⟩,
    F8:=⟨by kernel_rfl,by kernel_rfl,by kernel_rfl,by kernel_rfl,by kernel_rfl⟩,
    ED:=⟨_,_,_,_,_,_,_,_,_,_,_,by rfl,by kernel_rfl⟩,
    EC:=⟨by kernel_rfl,by kernel_rfl,by kernel_rfl,by kernel_rfl,by kernel_rfl⟩,
    Cp:=⟨_,_,_,_,_,_,_,_,_,_,_,by rfl,by kernel_rfl⟩,
    Cs:=⟨by kernel_rfl,by kernel_rfl,by kernel_rfl,by kernel_rfl,by kernel_rfl⟩,
    D5:=⟨_,_,_,_,_,_,_,_,_,_,_,by rfl,by kernel_rfl⟩,
    CS:=⟨by kernel_rfl,by kernel_rfl,by kernel_rfl,by kernel_rfl,by kernel_rfl⟩,
    DK:=⟨_,_,_,_,_,_,_,_,_,_,_,by rfl,by kernel_rfl⟩,
    DL:=⟨by kernel_rfl,by kernel_rfl,by kernel_rfl,by kernel_rfl,by kernel_rfl⟩,
    DI:=⟨_,_,_,_,_,_,_,_,_,_,_,by rfl,by kernel_rfl⟩,
    Bz:=⟨by kernel_rfl,by kernel_rfl,by kernel_rfl,by kernel_rfl,by kernel_rfl⟩,
    I3:=⟨_,_,_,_,_,_,_,_,_,_,_,by rfl,by kernel_rfl⟩,
    CZ:=⟨by kernel_rfl,by kernel_rfl,by kernel_rfl,by kernel_rfl,by kernel_rfl⟩,
    Ix:=⟨_,_,_,_,_,_,_,_,_,_,_,by rfl,by kernel_rfl⟩,
    Bi:=⟨by kernel_rfl,by kernel_rfl,by kernel_rfl,by kernel_rfl,by kernel_rfl⟩,
    KK:=⟨_,_,_,_,_,_,_,_,_,_,_,by rfl,by kernel_rfl⟩,
    KT:=⟨by kernel_rfl,by kernel_rfl,by kernel_rfl,by kernel_rfl,by kernel_rfl⟩,
    IB:=⟨_,_,_,_,_,_,_,_,_,_,_,by rfl,by kernel_rfl⟩,
    H7:=⟨by kernel_rfl,by kernel_rfl,by kernel_rfl,by kernel_rfl,by kernel_rfl⟩,
    Hy:=⟨_,_,_,_,_,_,_,_,_,_,_,by rfl,by kernel_rfl⟩,
    Bm:=⟨by kernel_rfl,by kernel_rfl,by kernel_rfl,by kernel_rfl,by kernel_rfl⟩,
    G7:=⟨_,_,_,_,_,_,_,_,_,_,_,by rfl,by kernel_rfl⟩,
    Er:=⟨by kernel_rfl,by kernel_rfl,by kernel_rfl,by kernel_rfl,by kernel_rfl⟩,
    F7:=⟨_,_,_,_,_,_,_,_,_,_,_,by rfl,by kernel_rfl⟩,
    DS:=⟨by kernel_rfl,by kernel_rfl,by kernel_rfl,by kernel_rfl,by kernel_rfl⟩,
    Ei:=⟨_,_,_,_,_,_,_,_,_,_,_,by rfl,by kernel_rfl⟩,
    EW:=⟨by kernel_rfl,by kernel_rfl,by kernel_rfl,by kernel_rfl,by kernel_rfl⟩,
    Ek:=⟨_,_,_,_,_,_,_,_,_,_,_,by rfl,by kernel_rfl⟩,
    Cr:=⟨by kernel_rfl,by kernel_rfl,by kernel_rfl,by kernel_rfl,by kernel_rfl⟩,
    Bh:=⟨by kernel_rfl,by kernel_rfl,by kernel_rfl⟩,
    Ip:=⟨by kernel_rfl,by kernel_rfl,by kernel_rfl,by kernel_rfl⟩,
    LH:=by kernel_rfl,
    LG:=by kernel_rfl,
    KL:=⟨by kernel_rfl,by kernel_rfl,by kernel_rfl⟩,
    D8:=⟨_,_,_,_,_,_,_,_,_,_,_,by rfl,by kernel_rfl⟩,
    Ct:=⟨by kernel_rfl,by kernel_rfl,by kernel_rfl⟩,
    Gg:=⟨by kernel_rfl,by kernel_rfl,by kernel_rfl,by kernel_rfl⟩,
    D7:=⟨by kernel_rfl,by kernel_rfl,by kernel_rfl⟩,
    Gh:=⟨by kernel_rfl,by kernel_rfl,by kernel_rfl,by kernel_rfl⟩,
    En:=⟨by kernel_rfl,by kernel_rfl,by kernel_rfl⟩,
    G6:=⟨by kernel_rfl,by kernel_rfl,by kernel_rfl,by kernel_rfl⟩,
    DU:=⟨by kernel_rfl,by kernel_rfl,by kernel_rfl⟩,
    Fw:=⟨by kernel_rfl,by kernel_rfl,by kernel_rfl,by kernel_rfl⟩,
    GA:=⟨by kernel_rfl,by kernel_rfl,by kernel_rfl⟩,
    F0:=⟨by kernel_rfl,by kernel_rfl,by kernel_rfl,by kernel_rfl⟩,
    FK:=⟨by kernel_rfl,by kernel_rfl,by kernel_rfl⟩,
    FP:=⟨by kernel_rfl,by kernel_rfl,by kernel_rfl,by kernel_rfl⟩,
    CT:=⟨by kernel_rfl,by kernel_rfl,by kernel_rfl⟩,
    D9:=⟨by kernel_rfl,by kernel_rfl,by kernel_rfl,by kernel_rfl⟩,
    BY:=⟨by kernel_rfl,by kernel_rfl,by kernel_rfl⟩,
    DM:=⟨by kernel_rfl,by kernel_rfl,by kernel_rfl,by kernel_rfl⟩,
    BX:=⟨by kernel_rfl,by kernel_rfl,by kernel_rfl⟩,
    DJ:=⟨by kernel_rfl,by kernel_rfl,by kernel_rfl,by kernel_rfl⟩,
    Ej:=by kernel_rfl,
    Tp:=by kernel_rfl,
    Tq:=by kernel_rfl,
    RS:=by kernel_rfl,
    H0:=by kernel_rfl,
    Ec:=by kernel_rfl,
    Fl:=by kernel_rfl,
    L2:=by kernel_rfl,
    L3:=by kernel_rfl,
    Gx:=by kernel_rfl,
    DT:=⟨_,by rfl⟩,
    CU:=⟨_,by rfl⟩,
    Iu:=⟨_,by rfl⟩,
    D4:=⟨_,by rfl⟩,
    LJ:=by kernel_rfl,
    LK:=⟨_,_,_,_,(),by rfl,.cons _ _ (.cons _ _ .nil)⟩}
end Mine
theorem PySem.Challenge.cw_nu0075_01_holds : PySem.Challenge.rw_nu0075_01.Holds :=
 Mine.top
