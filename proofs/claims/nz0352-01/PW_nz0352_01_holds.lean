import PyProof.Rows.All
import Wide.All
import OpenK.AllK
import Wide.FinOn
import Lean
import PySem.Challenge.RW_nz0352_01
set_option Elab.async false
set_option maxRecDepth 100000
set_option maxHeartbeats 8000000
set_option linter.all false
set_option bootstrap.genMatcherCode false
set_option compiler.extract_closed false
set_option genSizeOf false
set_option autoImplicit true
namespace Internal
open PySem PySem.W PyProof.Rows PySem.Calls
namespace aC
inductive E|n (k:Nat)|v (i:Nat)|a (x y:E)|m (k:Nat) (x:E)
noncomputable def E.den(c:List Nat)(e:E):Nat:=e.rec (λk=>k) (λi=>c.getD i 0) (λ_ _ x y=>x+y) (λk _ x=>k*x)
noncomputable def E.yQ(i:Nat)(e:E):Nat:=e.rec (λ_=>0) (λai=>bif Nat.beq ai i then 1 else 0) (λ_ _ x y=>x+y) (λk _ x=>k*x)
noncomputable def lj(f:Nat->Nat)(c:List Nat):Nat:=(c.rec (λ_=>0) (λx _ aX f=>f 0*x+aX λi=>f (i+1)):(Nat->Nat)->Nat) f
theorem EO(c:List Nat):lj (λ_=>0) c=0:=by
 induction c with
 |nil=>rfl
 |cons x c aX=>exact(congr (congrArg _ (Nat.zero_mul x)) aX:0*x+lj (λ_=>0) c=0+0)
theorem OE(c:List Nat):∀f g,lj (λi=>f i+g i) c=lj f c+lj g c:=by
 induction c with
 |nil=>exactλ_ _=>rfl
 |cons x c aX=>exactλf g=>(congr (congrArg _ (Nat.add_mul ..)) (aX _ _)).trans (Nat.add_add_add_comm ..)
theorem OG(k:Nat)(c:List Nat):∀f,lj (λi=>k*f i) c=k*lj f c:=by
 induction c with
 |nil=>exactλ_=>rfl
 |cons x c aX=>exactλf=>(congr (congrArg _ (Nat.mul_assoc ..)) (aX _)).trans (Nat.mul_add ..).symm
theorem OH(c:List Nat):∀ai,lj (λi=>bif Nat.beq ai i then 1 else 0) c=c.getD ai 0:=by
 induction c with
 |nil=>exactλ_=>rfl
 |cons x c aX=>
  intro ai
  cases ai with
  |zero=>exact(congr (congrArg _ (Nat.one_mul x)) (EO c))
  |succ ai=>exact(congr (congrArg _ (Nat.zero_mul x)) (aX ai)).trans (Nat.zero_add _)
theorem OF(c:List Nat):∀f g,(∀i,i<c.length->f i<=g i)->lj f c<=lj g c:=by
 induction c with
 |nil=>exactλ_ _ _=>Nat.le_refl _
 |cons x c aX=>exactλf g h=>Nat.add_le_add (Nat.mul_le_mul_right _ (h 0 (Nat.zero_lt_succ _))) (aX _ _ λi q=>h (i+1) (Nat.succ_lt_succ q))
theorem EL(c:List Nat)(e:E):e.den c=e.den []+lj (λi=>e.yQ i) c:=by
 induction e with
 |n k=>exact(congrArg (k+·) (EO c)).symm
 |v i=>exact((Nat.zero_add _).trans (OH c i)).symm
 |a x y av bB=>exact(congr (congrArg _ av) bB).trans ((Nat.add_add_add_comm ..).trans (congrArg _ (OE c _ _).symm))
 |m k x av=>exact(congrArg _ av).trans ((Nat.mul_add ..).trans (congrArg _ (OG k c _).symm))
noncomputable def le(f g:Nat->Nat)(n:Nat):Bool:=n.rec true λi b=>Nat.ble (f i) (g i)&&b
theorem SO:le f g n=true->∀i,i<n->f i<=g i:=by
 induction n with
 |zero=>exactλ_ i h=>(Nat.not_lt_zero i h).elim
 |succ n aX=>exactλh i hi=>(Nat.lt_or_eq_of_le (Nat.le_of_lt_succ hi)).elim (aX ((Bool.and_eq_true _ _).mp h).2 i) λe=>e▸Nat.le_of_ble_eq_true ((Bool.and_eq_true _ _).mp h).1
noncomputable def aF(c:List Nat)(l r:E):Prop:=l.den c<=r.den c
noncomputable def Np(n:Nat)(l r:E):Bool:=Nat.ble (r.den []+1) (l.den [])&&le (λi=>r.yQ i) (λi=>l.yQ i) n
theorem no(h:aF c l r)(k:Np c.length l r=true):False:=
 Nat.not_lt_of_le (show l.den c<=r.den c from h) (by
  rw[EL c l,EL c r]
  exact Nat.add_lt_add_of_lt_of_le (Nat.le_of_ble_eq_true ((Bool.and_eq_true _ _).mp k).1) (OF c _ _ (SO ((Bool.and_eq_true _ _).mp k).2)))
theorem aF.a(h:aF c l r)(h':aF c l' cg):aF c (l.a l') (r.a cg):=Nat.add_le_add h h'
theorem aF.m(k:Nat)(h:aF c l r):aF c (l.m k) (r.m k):=Nat.mul_le_mul_left k h
theorem kk(a b:Nat):a<=(a-b)+b:=Nat.le_add_of_sub_le (Nat.le_refl _)
theorem VD(ah:(((0:Int)<b9)/\(b9<cx))):b9≠(0:Int):=by omega
theorem W6{ae aK:Nat}(ah:(((0:Int)<=b9)/\(((b9<=(1000:Int))/\(ae<aK))))):b9<=(1000000:Int):=by omega
theorem Ug(ah:(ab+ae)<=(1000000:Nat)):(ab+ae)<=(16777216:Nat):=Nat.le_of_not_lt λg1=>no (c:=[ab,ae]) (l:=.a (.a (.v 0) (.v 1)) (.a (.n 16777216) (.n 1))) (r:=.a (.n 1000000) (.a (.v 0) (.v 1))) (aF.a ah g1) rfl
theorem Uj:¬((1:Int)<(0:Int)):=by omega
theorem Uq:(-(1:Int))<(0:Int):=by lia
theorem Uz(ah:(1:Nat)<=ab):(max ((-(1:Int))+((ab:Nat):Int)) (0:Int))=(((ab:Nat):Int)-(1:Int)):=by lia
theorem UL:(1:Int)>(0:Int):=by lia
theorem U3(ah:ab<=ae):(min (ab-(1:Nat)) ab)<=ae:=by omega
theorem Vb(ah:(1:Nat)<=ab):(ab-(1:Nat))≠ab:=λg1=>no (c:=[ab,(ab-1)]) (l:=.a (.v 0) (.a (.v 1) (.n 1))) (r:=.a (.v 1) (.v 0)) (aF.a (Nat.le_of_eq (Eq.symm g1)) (Nat.le_of_eq (Nat.sub_add_cancel (Nat.le_of_not_lt λj5=>no (c:=[ab]) (l:=.a (.n 1) (.a (.v 0) (.n 1))) (r:=.a (.v 0) (.n 1)) (aF.a ah j5) rfl)))) rfl
theorem Vm:(Int.toNat ((0:Int)+(((ab:Nat):Int)*(1:Int))))=((0:Nat)+ab):=by lia
theorem Vw(ah:((ab:Nat):Int)<((ae:Nat):Int)):ab<ae:=by lia
theorem VE(ah:ab<=(15:Nat)):ab<(17:Nat):=Nat.lt_of_not_le λg1=>no (c:=[ab]) (l:=.a (.v 0) (.n 17)) (r:=.a (.n 15) (.v 0)) (aF.a ah g1) rfl
theorem VN(ah:ab<=ae)(h1:¬(ab=ae)):(ab+(1:Nat))<=ae:=by lia
theorem I2{ab ae:Nat}(ah:ab<ae)(h1:ae<=ab):False:=no (c:=[ab,ae]) (l:=.a (.a (.v 0) (.n 1)) (.v 1)) (r:=.a (.v 1) (.v 0)) (aF.a ah h1) rfl
theorem Wd(ah:ab<=(1000000:Nat)):ab<=(1099511627776:Nat):=Nat.le_of_not_lt λg1=>no (c:=[ab]) (l:=.a (.v 0) (.a (.n 1099511627776) (.n 1))) (r:=.a (.n 1000000) (.v 0)) (aF.a ah g1) rfl
theorem Wt(ah:b9<=(1000000:Int)):b9<=(16777216:Int):=by lia
theorem wQ(ah:(0:Int)<=b9):¬(b9<(0:Int)):=by omega
theorem WE{ab ae:Nat}(ah:ab<=ae):¬(ab>ae):=λg1=>no (c:=[ab,ae]) (l:=.a (.v 0) (.a (.v 1) (.n 1))) (r:=.a (.v 1) (.v 0)) (aF.a ah g1) rfl
theorem WG(ah:(0:Int)<=b9)(h1:¬(b9>(0:Int))):b9=(0:Int):=by lia
theorem WH(ah:(0:Int)<=b9)(h1:b9<(256:Int)):((¬(b9<(0:Int)))/\(¬(b9≥(256:Int)))):=by lia
theorem WI(ah:(Int.toNat b9)<ae):b9<((ae:Nat):Int):=by lia
theorem WJ(ah:ab<=(1000000:Nat)):ab<=(16777216:Nat):=Nat.le_of_not_lt λg1=>no (c:=[ab]) (l:=.a (.v 0) (.a (.n 16777216) (.n 1))) (r:=.a (.n 1000000) (.v 0)) (aF.a ah g1) rfl
theorem WK(ah:((ab+((8:Nat)*(ae+(1:Nat))))+(8:Nat))<(1000:Nat)):((ab+((8:Nat)*ae))+(8:Nat))<(1000:Nat):=Nat.lt_of_not_le λg1=>no (c:=[ab,ae]) (l:=.a (.a (.a (.a (.v 0) (.m 8 (.a (.v 1) (.n 1)))) (.n 8)) (.n 1)) (.n 1000)) (r:=.a (.n 1000) (.a (.a (.v 0) (.m 8 (.v 1))) (.n 8))) (aF.a ah g1) rfl
theorem WL(ah:((ab+((8:Nat)*ae))+(8:Nat))<(1000:Nat)):ab<(1000:Nat):=Nat.lt_of_not_le λg1=>no (c:=[ab,ae]) (l:=.a (.a (.a (.a (.v 0) (.m 8 (.v 1))) (.n 8)) (.n 1)) (.n 1000)) (r:=.a (.n 1000) (.v 0)) (aF.a ah g1) rfl
theorem WM(ah:(ab+(7:Nat))<=(6:Nat)):False:=no (c:=[ab]) (l:=.a (.v 0) (.n 7)) (r:=.n 6) ah rfl
theorem rt(ah:¬(ab<(2:Nat))):(2:Nat)<=ab:=Nat.le_of_not_lt λg1=>no (c:=[ab]) (l:=.a (.n 2) (.a (.v 0) (.n 1))) (r:=.a (.v 0) (.n 2)) (aF.a (Nat.le_of_not_lt ah) g1) rfl
theorem wR(ah:ab<=(6:Nat)):ab<=(16777216:Nat):=Nat.le_of_not_lt λg1=>no (c:=[ab]) (l:=.a (.v 0) (.a (.n 16777216) (.n 1))) (r:=.a (.n 6) (.v 0)) (aF.a ah g1) rfl
theorem WN(ah:ab<=(6:Nat)):ab<=(1000:Nat):=Nat.le_of_not_lt λg1=>no (c:=[ab]) (l:=.a (.v 0) (.a (.n 1000) (.n 1))) (r:=.a (.n 6) (.v 0)) (aF.a ah g1) rfl
theorem WO(ah:ab<=(6:Nat)):ab<(64:Nat):=Nat.lt_of_not_le λg1=>no (c:=[ab]) (l:=.a (.v 0) (.n 64)) (r:=.a (.n 6) (.v 0)) (aF.a ah g1) rfl
theorem WQ(ah:(2:Nat)<=ab)(h1:ae=ab):(0:Nat)<ae:=Nat.lt_of_not_le λg1=>no (c:=[ab,ae]) (l:=.a (.a (.n 2) (.v 0)) (.v 1)) (r:=.a (.a (.v 0) (.v 1)) (.n 0)) (aF.a (aF.a ah (Nat.le_of_eq (Eq.symm h1))) g1) rfl
theorem I7{ab ae:Nat}(ah:¬(ab<ae)):ae<=ab:=Nat.le_of_not_lt λg1=>no (c:=[ae,ab]) (l:=.a (.v 0) (.a (.v 1) (.n 1))) (r:=.a (.v 1) (.v 0)) (aF.a (Nat.le_of_not_lt ah) g1) rfl
theorem WR(ah:((ab+((64:Nat)*(ae+(1:Nat))))+(200:Nat))<(9900:Nat)):((((ab+(1:Nat))+(1:Nat))+((64:Nat)*ae))+(200:Nat))<(9900:Nat):=Nat.lt_of_not_le λg1=>no (c:=[ab,ae]) (l:=.a (.a (.a (.a (.v 0) (.m 64 (.a (.v 1) (.n 1)))) (.n 200)) (.n 1)) (.n 9900)) (r:=.a (.n 9900) (.a (.a (.a (.a (.v 0) (.n 1)) (.n 1)) (.m 64 (.v 1))) (.n 200))) (aF.a ah g1) rfl
theorem WS(ah:((ab+((8:Nat)*ae))+(8:Nat))<(1000:Nat)):(ab+(1:Nat))<(1000:Nat):=Nat.lt_of_not_le λg1=>no (c:=[ab,ae]) (l:=.a (.a (.a (.a (.v 0) (.m 8 (.v 1))) (.n 8)) (.n 1)) (.n 1000)) (r:=.a (.n 1000) (.a (.v 0) (.n 1))) (aF.a ah g1) rfl
theorem WT(ah:(ab+(1:Nat))<ae):ab<=ae:=Nat.le_of_not_lt λg1=>no (c:=[ab,ae]) (l:=.a (.a (.a (.v 0) (.n 1)) (.n 1)) (.a (.v 1) (.n 1))) (r:=.a (.v 1) (.v 0)) (aF.a ah g1) rfl
theorem WU:¬(ab=(ab+(1:Nat))):=λg1=>no (c:=[ab]) (l:=.a (.v 0) (.n 1)) (r:=.v 0) (Nat.le_of_eq (Eq.symm g1)) rfl
theorem WV(ah:ab<(Int.toNat cx)):((ab:Nat):Int)<cx:=by lia
theorem WW(ah:(Int.toNat b9)<=ae):(b9-((ae:Nat):Int))<=(0:Int):=by lia
theorem WX(ah:((ab:Nat):Int)<cx):(0:Int)<(cx-((ab:Nat):Int)):=by lia
theorem WY:((b9-((ae:Nat):Int))-(1:Int))=(b9-(((ae+(1:Nat)):Nat):Int)):=by lia
theorem WZ{ab ae aK:Nat}(ah:ab=ae)(h1:ae<=aK):ab<=aK:=Nat.le_of_not_lt λg1=>no (c:=[ab,ae,aK]) (l:=.a (.a (.v 0) (.v 1)) (.a (.v 2) (.n 1))) (r:=.a (.a (.v 1) (.v 2)) (.v 0)) (aF.a (aF.a (Nat.le_of_eq ah) h1) g1) rfl
theorem W0(ah:((ab+((8:Nat)*(ae+(1:Nat))))+(8:Nat))<(1000:Nat)):(((ab+(1:Nat))+((8:Nat)*ae))+(8:Nat))<(1000:Nat):=Nat.lt_of_not_le λg1=>no (c:=[ab,ae]) (l:=.a (.a (.a (.a (.v 0) (.m 8 (.a (.v 1) (.n 1)))) (.n 8)) (.n 1)) (.n 1000)) (r:=.a (.n 1000) (.a (.a (.a (.v 0) (.n 1)) (.m 8 (.v 1))) (.n 8))) (aF.a ah g1) rfl
theorem W2(ah:((ab+((64:Nat)*(ae+(1:Nat))))+(200:Nat))<(9900:Nat)):(((ab+(3:Nat))+((64:Nat)*ae))+(200:Nat))<(9900:Nat):=Nat.lt_of_not_le λg1=>no (c:=[ab,ae]) (l:=.a (.a (.a (.a (.v 0) (.m 64 (.a (.v 1) (.n 1)))) (.n 200)) (.n 1)) (.n 9900)) (r:=.a (.n 9900) (.a (.a (.a (.v 0) (.n 3)) (.m 64 (.v 1))) (.n 200))) (aF.a ah g1) rfl
theorem W3:((ab+(1:Nat))+(1:Nat))≠ab:=λg1=>no (c:=[ab]) (l:=.a (.a (.v 0) (.n 1)) (.n 1)) (r:=.v 0) (Nat.le_of_eq g1) rfl
theorem W4:ab≠((ab+(1:Nat))+(1:Nat)):=λg1=>no (c:=[ab]) (l:=.a (.a (.v 0) (.n 1)) (.n 1)) (r:=.v 0) (Nat.le_of_eq (Eq.symm g1)) rfl
theorem W5:((ab+(1:Nat))+(1:Nat))≠(ab+(1:Nat)):=λg1=>no (c:=[ab]) (l:=.a (.a (.v 0) (.n 1)) (.n 1)) (r:=.a (.v 0) (.n 1)) (Nat.le_of_eq g1) rfl
theorem W7:(ab+(1:Nat))≠((ab+(1:Nat))+(1:Nat)):=λg1=>no (c:=[ab]) (l:=.a (.a (.v 0) (.n 1)) (.n 1)) (r:=.a (.v 0) (.n 1)) (Nat.le_of_eq (Eq.symm g1)) rfl
theorem W8:ab<((ab+(1:Nat))+(1:Nat)):=Nat.lt_of_not_le λg1=>no (c:=[ab]) (l:=.a (.a (.v 0) (.n 1)) (.n 1)) (r:=.v 0) g1 rfl
theorem W9(ah:¬((((63:Nat):Nat):Int)<((ab:Nat):Int))):ab<=(63:Nat):=by omega
theorem Xa(ah:(ab+(ae+(1:Nat)))<(1000000:Nat)):(ab+ae)<(1000000:Nat):=Nat.lt_of_not_le λg1=>no (c:=[ab,ae]) (l:=.a (.a (.a (.v 0) (.a (.v 1) (.n 1))) (.n 1)) (.n 1000000)) (r:=.a (.n 1000000) (.a (.v 0) (.v 1))) (aF.a ah g1) rfl
theorem Xb(ah:(ab+(ae+(1:Nat)))<(1000000:Nat)):ab<(1000000:Nat):=Nat.lt_of_not_le λg1=>no (c:=[ab,ae]) (l:=.a (.a (.a (.v 0) (.a (.v 1) (.n 1))) (.n 1)) (.n 1000000)) (r:=.a (.n 1000000) (.v 0)) (aF.a ah g1) rfl
theorem Xc(ah:(ab+(ae+(1:Nat)))<(1000000:Nat)):((ab+(1:Nat))+ae)<(1000000:Nat):=Nat.lt_of_not_le λg1=>no (c:=[ab,ae]) (l:=.a (.a (.a (.v 0) (.a (.v 1) (.n 1))) (.n 1)) (.n 1000000)) (r:=.a (.n 1000000) (.a (.a (.v 0) (.n 1)) (.v 1))) (aF.a ah g1) rfl
theorem tK(ah:(ab+(ae+(1:Nat)))<=(1000:Nat)):((ab+(1:Nat))+ae)<=(1000:Nat):=Nat.le_of_not_lt λg1=>no (c:=[ab,ae]) (l:=.a (.a (.v 0) (.a (.v 1) (.n 1))) (.a (.n 1000) (.n 1))) (r:=.a (.n 1000) (.a (.a (.v 0) (.n 1)) (.v 1))) (aF.a ah g1) rfl
theorem ru(ah:(ab+(ae+(1:Nat)))<=(1000:Nat)):ab<=(1000000:Nat):=Nat.le_of_not_lt λg1=>no (c:=[ab,ae]) (l:=.a (.a (.v 0) (.a (.v 1) (.n 1))) (.a (.n 1000000) (.n 1))) (r:=.a (.n 1000) (.v 0)) (aF.a ah g1) rfl
theorem Xd(ah:ab<=(1000:Nat)):((0:Nat)+ab)<=(1000:Nat):=Nat.le_of_not_lt λg1=>no (c:=[ab]) (l:=.a (.v 0) (.a (.n 1000) (.n 1))) (r:=.a (.n 1000) (.a (.n 0) (.v 0))) (aF.a ah g1) rfl
theorem I8(ah:ab<=(100:Nat)):((0:Nat)+ab)<(1000000:Nat):=Nat.lt_of_not_le λg1=>no (c:=[ab]) (l:=.a (.v 0) (.n 1000000)) (r:=.a (.n 100) (.a (.n 0) (.v 0))) (aF.a ah g1) rfl
theorem Xe(ah:ab<=(100:Nat)):ab<=(1000:Nat):=Nat.le_of_not_lt λg1=>no (c:=[ab]) (l:=.a (.v 0) (.a (.n 1000) (.n 1))) (r:=.a (.n 100) (.v 0)) (aF.a ah g1) rfl
theorem Xf(ah:((ab+(1:Nat))+(1:Nat))=ae)(h1:aK<=ab):aK<=ae:=Nat.le_of_not_lt λg1=>no (c:=[ab,ae,aK]) (l:=.a (.a (.a (.a (.v 0) (.n 1)) (.n 1)) (.v 2)) (.a (.v 1) (.n 1))) (r:=.a (.a (.v 1) (.v 0)) (.v 2)) (aF.a (aF.a (Nat.le_of_eq ah) h1) g1) rfl
theorem Xg(ah:ab<ae)(h1:ae<=aK):ab<(aK+(1:Nat)):=Nat.lt_of_not_le λg1=>no (c:=[ab,ae,aK]) (l:=.a (.a (.a (.v 0) (.n 1)) (.v 1)) (.a (.v 2) (.n 1))) (r:=.a (.a (.v 1) (.v 2)) (.v 0)) (aF.a (aF.a ah h1) g1) rfl
theorem Xh{ab ae aK:Nat}(ah:ab<ae)(h1:ae<=aK):ab≠aK:=λg1=>no (c:=[ab,ae,aK]) (l:=.a (.a (.a (.v 0) (.n 1)) (.v 1)) (.v 2)) (r:=.a (.a (.v 1) (.v 2)) (.v 0)) (aF.a (aF.a ah h1) (Nat.le_of_eq (Eq.symm g1))) rfl
theorem Xi(ah:((ab+(1:Nat))+(1:Nat))=ae)(h1:ae<=aK):(ab+(1:Nat))<aK:=Nat.lt_of_not_le λg1=>no (c:=[ab,ae,aK]) (l:=.a (.a (.a (.a (.v 0) (.n 1)) (.n 1)) (.v 1)) (.v 2)) (r:=.a (.a (.v 1) (.v 2)) (.a (.v 0) (.n 1))) (aF.a (aF.a (Nat.le_of_eq ah) h1) g1) rfl
theorem Xj(ah:((ab+(1:Nat))+(1:Nat))=ae)(h1:ae<=aK):(ab+(1:Nat))<=aK:=Nat.le_of_not_lt λg1=>no (c:=[ab,ae,aK]) (l:=.a (.a (.a (.a (.v 0) (.n 1)) (.n 1)) (.v 1)) (.a (.v 2) (.n 1))) (r:=.a (.a (.v 1) (.v 2)) (.a (.v 0) (.n 1))) (aF.a (aF.a (Nat.le_of_eq ah) h1) g1) rfl
theorem I9(ah:ab<=(100:Nat)):ab<=(1000000:Nat):=Nat.le_of_not_lt λg1=>no (c:=[ab]) (l:=.a (.v 0) (.a (.n 1000000) (.n 1))) (r:=.a (.n 100) (.v 0)) (aF.a ah g1) rfl
theorem Xk(ah:((ab+(1:Nat))+(1:Nat))=ae):(ab+(1:Nat))<ae:=Nat.lt_of_not_le λg1=>no (c:=[ab,ae]) (l:=.a (.a (.a (.v 0) (.n 1)) (.n 1)) (.v 1)) (r:=.a (.v 1) (.a (.v 0) (.n 1))) (aF.a (Nat.le_of_eq ah) g1) rfl
theorem Xl(ah:ab<=(6:Nat)):ab<(7:Nat):=Nat.lt_of_not_le λg1=>no (c:=[ab]) (l:=.a (.v 0) (.n 7)) (r:=.a (.n 6) (.v 0)) (aF.a ah g1) rfl
theorem I'(ah:(ab+(ae+(1:Nat)))<=(100:Nat)):(ab+ae)<=(100:Nat):=Nat.le_of_not_lt λg1=>no (c:=[ab,ae]) (l:=.a (.a (.v 0) (.a (.v 1) (.n 1))) (.a (.n 100) (.n 1))) (r:=.a (.n 100) (.a (.v 0) (.v 1))) (aF.a ah g1) rfl
theorem Xm(ah:(ab+(ae+(1:Nat)))<=(100:Nat)):ab<=(1000000:Nat):=Nat.le_of_not_lt λg1=>no (c:=[ab,ae]) (l:=.a (.a (.v 0) (.a (.v 1) (.n 1))) (.a (.n 1000000) (.n 1))) (r:=.a (.n 100) (.v 0)) (aF.a ah g1) rfl
theorem Xn(ah:(ab+(ae+(1:Nat)))<=(100:Nat)):((ab+(1:Nat))+ae)<=(100:Nat):=Nat.le_of_not_lt λg1=>no (c:=[ab,ae]) (l:=.a (.a (.v 0) (.a (.v 1) (.n 1))) (.a (.n 100) (.n 1))) (r:=.a (.n 100) (.a (.a (.v 0) (.n 1)) (.v 1))) (aF.a ah g1) rfl
theorem BB(ah:ab<=(6:Nat)):((0:Nat)+ab)<(1000000:Nat):=Nat.lt_of_not_le λg1=>no (c:=[ab]) (l:=.a (.v 0) (.n 1000000)) (r:=.a (.n 6) (.a (.n 0) (.v 0))) (aF.a ah g1) rfl
theorem Xo(ah:ab<=(ae-(1:Nat)))(h1:(0:Nat)<ae):(ab+(1:Nat))<=ae:=Nat.le_of_not_lt λg1=>no (c:=[ab,(ae-1),ae]) (l:=.a (.a (.v 0) (.a (.v 2) (.n 1))) (.a (.v 1) (.n 1))) (r:=.a (.a (.v 1) (.a (.v 0) (.n 1))) (.v 2)) (aF.a (aF.a ah g1) (Nat.le_of_eq (Nat.sub_add_cancel (Nat.le_of_not_lt λj5=>no (c:=[ae]) (l:=.a (.a (.n 0) (.n 1)) (.a (.v 0) (.n 1))) (r:=.a (.v 0) (.n 1)) (aF.a h1 j5) rfl)))) rfl
theorem Ja:((b9+(1:Int))+((ae:Nat):Int))=(b9+(((ae:Nat):Int)+(1:Int))):=by lia
theorem Xp:(b9+(((ae:Nat):Int)+(1:Int)))=((b9+(1:Int))+((ae:Nat):Int)):=by lia
theorem Xq(ah:ab<=(ae+aK))(h1:ae<=(bx+(1:Nat))):ab<=(bx+(aK+(1:Nat))):=Nat.le_of_not_lt λg1=>no (c:=[ab,ae,aK,bx]) (l:=.a (.a (.v 0) (.v 1)) (.a (.a (.v 3) (.a (.v 2) (.n 1))) (.n 1))) (r:=.a (.a (.a (.v 1) (.v 2)) (.a (.v 3) (.n 1))) (.v 0)) (aF.a (aF.a ah h1) g1) rfl
theorem Jb(ah:(0:Nat)<ab)(h1:((ab:Nat):Int)=cx):(0:Int)<cx:=by lia
theorem Xr(ah:(0:Int)<=b9)(h1:b9<cx):cx≠(0:Int):=by lia
theorem Xs(ah:((ab:Nat):Int)=cx)(h1:(0:Int)<=eL)(h2:eL<cx):(Int.toNat eL)<ab:=by lia
theorem Uh(ah:(0:Int)<b9):b9≠(0:Int):=by lia
theorem Ui(ah:(0:Int)<=b9):(0:Int)<=(b9+(1:Int)):=by lia
theorem IH(ah:(ab+(ae+(1:Nat)))<=(1000000:Nat)):ab<=(1000000:Nat):=Nat.le_of_not_lt λg1=>no (c:=[ab,ae]) (l:=.a (.a (.v 0) (.a (.v 1) (.n 1))) (.a (.n 1000000) (.n 1))) (r:=.a (.n 1000000) (.v 0)) (aF.a ah g1) rfl
theorem II(ah:(ab+(ae+(1:Nat)))<=(1000000:Nat)):((ab+(1:Nat))+ae)<=(1000000:Nat):=Nat.le_of_not_lt λg1=>no (c:=[ab,ae]) (l:=.a (.a (.v 0) (.a (.v 1) (.n 1))) (.a (.n 1000000) (.n 1))) (r:=.a (.n 1000000) (.a (.a (.v 0) (.n 1)) (.v 1))) (aF.a ah g1) rfl
theorem Bw(ah:(ab+(ae+(1:Nat)))<=(900000:Nat)):ab<=(1000000:Nat):=Nat.le_of_not_lt λg1=>no (c:=[ab,ae]) (l:=.a (.a (.v 0) (.a (.v 1) (.n 1))) (.a (.n 1000000) (.n 1))) (r:=.a (.n 900000) (.v 0)) (aF.a ah g1) rfl
theorem IJ(ah:(ab+((64:Nat)*(ae+(1:Nat))))<=(900000:Nat)):(ab+((64:Nat)*ae))<=(900000:Nat):=Nat.le_of_not_lt λg1=>no (c:=[ab,ae]) (l:=.a (.a (.v 0) (.m 64 (.a (.v 1) (.n 1)))) (.a (.n 900000) (.n 1))) (r:=.a (.n 900000) (.a (.v 0) (.m 64 (.v 1)))) (aF.a ah g1) rfl
theorem ot(ah:(ab+(ae+(1:Nat)))<=(900000:Nat)):(ab+ae)<=(900000:Nat):=Nat.le_of_not_lt λg1=>no (c:=[ab,ae]) (l:=.a (.a (.v 0) (.a (.v 1) (.n 1))) (.a (.n 900000) (.n 1))) (r:=.a (.n 900000) (.a (.v 0) (.v 1))) (aF.a ah g1) rfl
theorem Bx(ah:(ab+(ae+(1:Nat)))<=(900000:Nat)):((ab+(1:Nat))+ae)<=(900000:Nat):=Nat.le_of_not_lt λg1=>no (c:=[ab,ae]) (l:=.a (.a (.v 0) (.a (.v 1) (.n 1))) (.a (.n 900000) (.n 1))) (r:=.a (.n 900000) (.a (.a (.v 0) (.n 1)) (.v 1))) (aF.a ah g1) rfl
theorem wM(ah:(ab+((64:Nat)*(ae+(1:Nat))))<=(900000:Nat))(h1:aK<(64:Nat)):(ab+aK)<=(1000000:Nat):=Nat.le_of_not_lt λg1=>no (c:=[ab,ae,aK]) (l:=.a (.a (.a (.v 0) (.m 64 (.a (.v 1) (.n 1)))) (.a (.v 2) (.n 1))) (.a (.n 1000000) (.n 1))) (r:=.a (.a (.n 900000) (.n 64)) (.a (.v 0) (.v 2))) (aF.a (aF.a ah h1) g1) rfl
theorem tI(ah:(ab+((64:Nat)*(ae+(1:Nat))))<=(900000:Nat))(h1:aK<(64:Nat))(h2:bx<=(ab+aK)):(bx+((64:Nat)*ae))<=(900000:Nat):=Nat.le_of_not_lt λg1=>no (c:=[ab,ae,aK,bx]) (l:=.a (.a (.a (.a (.v 0) (.m 64 (.a (.v 1) (.n 1)))) (.a (.v 2) (.n 1))) (.v 3)) (.a (.n 900000) (.n 1))) (r:=.a (.a (.a (.n 900000) (.n 64)) (.a (.v 0) (.v 2))) (.a (.v 3) (.m 64 (.v 1)))) (aF.a (aF.a (aF.a ah h1) h2) g1) rfl
theorem p6(ah:ab<(64:Nat)):ab<=(1000000:Nat):=Nat.le_of_not_lt λg1=>no (c:=[ab]) (l:=.a (.a (.v 0) (.n 1)) (.a (.n 1000000) (.n 1))) (r:=.a (.n 64) (.v 0)) (aF.a ah g1) rfl
theorem Uk(ah:ab<=(1000:Nat)):((0:Nat)+((64:Nat)*ab))<=(900000:Nat):=Nat.le_of_not_lt λg1=>no (c:=[ab]) (l:=.a (.m 64 (.v 0)) (.a (.n 900000) (.n 1))) (r:=.a (.m 64 (.n 1000)) (.a (.n 0) (.m 64 (.v 0)))) (aF.a (aF.m 64 ah) g1) rfl
theorem Ul(ah:ab<=(1000:Nat)):((0:Nat)+ab)<=(900000:Nat):=Nat.le_of_not_lt λg1=>no (c:=[ab]) (l:=.a (.v 0) (.a (.n 900000) (.n 1))) (r:=.a (.n 1000) (.a (.n 0) (.v 0))) (aF.a ah g1) rfl
theorem Um(ah:ab<=(900:Nat))(h1:ae<=aK)(h2:aK<ab):ae<=(1000000:Nat):=Nat.le_of_not_lt λg1=>no (c:=[ab,ae,aK]) (l:=.a (.a (.a (.v 0) (.v 1)) (.a (.v 2) (.n 1))) (.a (.n 1000000) (.n 1))) (r:=.a (.a (.a (.n 900) (.v 2)) (.v 0)) (.v 1)) (aF.a (aF.a (aF.a ah h1) h2) g1) rfl
theorem Un(ah:ab<=ae)(h1:aK<=(ab+(1:Nat))):aK<=(ae+(1:Nat)):=Nat.le_of_not_lt λg1=>no (c:=[ab,ae,aK]) (l:=.a (.a (.v 0) (.v 2)) (.a (.a (.v 1) (.n 1)) (.n 1))) (r:=.a (.a (.v 1) (.a (.v 0) (.n 1))) (.v 2)) (aF.a (aF.a ah h1) g1) rfl
theorem Uo(ah:ab<=(6:Nat))(h1:ae<=ab):ae<=(6:Nat):=Nat.le_of_not_lt λg1=>no (c:=[ab,ae]) (l:=.a (.a (.v 0) (.v 1)) (.a (.n 6) (.n 1))) (r:=.a (.a (.n 6) (.v 0)) (.v 1)) (aF.a (aF.a ah h1) g1) rfl
theorem Up(ah:ab<=(6:Nat))(h1:ab=ae):((0:Nat)+ae)<(1000000:Nat):=Nat.lt_of_not_le λg1=>no (c:=[ab,ae]) (l:=.a (.a (.v 0) (.v 1)) (.n 1000000)) (r:=.a (.a (.n 6) (.v 0)) (.a (.n 0) (.v 1))) (aF.a (aF.a ah (Nat.le_of_eq (Eq.symm h1))) g1) rfl
theorem Ur(ah:ab<=(900:Nat))(h1:(ae+aK)=ab):ae<=(900:Nat):=Nat.le_of_not_lt λg1=>no (c:=[ab,ae,aK]) (l:=.a (.a (.v 0) (.a (.v 1) (.v 2))) (.a (.n 900) (.n 1))) (r:=.a (.a (.n 900) (.v 0)) (.v 1)) (aF.a (aF.a ah (Nat.le_of_eq h1)) g1) rfl
theorem By(ah:ab<=(900:Nat)):ab<=(1000000:Nat):=Nat.le_of_not_lt λg1=>no (c:=[ab]) (l:=.a (.v 0) (.a (.n 1000000) (.n 1))) (r:=.a (.n 900) (.v 0)) (aF.a ah g1) rfl
theorem Us{ab ae:Nat}(ah:¬(ab<=ae)):ae<ab:=Nat.lt_of_not_le λg1=>no (c:=[ae,ab]) (l:=.a (.a (.v 0) (.n 1)) (.v 1)) (r:=.a (.v 1) (.v 0)) (aF.a (Nat.lt_of_not_le ah) g1) rfl
theorem Ut{ab ae aK bx:Nat}(ah:¬(ab<=ae))(h1:ab=(aK+bx)):ae<(aK+bx):=Nat.lt_of_not_le λg1=>no (c:=[ae,ab,aK,bx]) (l:=.a (.a (.a (.v 0) (.n 1)) (.v 1)) (.a (.v 2) (.v 3))) (r:=.a (.a (.v 1) (.a (.v 2) (.v 3))) (.v 0)) (aF.a (aF.a (Nat.lt_of_not_le ah) (Nat.le_of_eq h1)) g1) rfl
theorem IK{ab ae aK:Nat}(ah:ab<(ae+aK)):(ab-ae)<=aK:=Nat.le_of_not_lt λg1=>Or.elim (Nat.le_total ae ab) (λb8=>no (c:=[ab,ae,aK,(ab-ae)]) (l:=.a (.a (.a (.v 0) (.n 1)) (.a (.v 2) (.n 1))) (.a (.v 3) (.v 1))) (r:=.a (.a (.a (.v 1) (.v 2)) (.v 3)) (.v 0)) (aF.a (aF.a ah g1) (Nat.le_of_eq (Nat.sub_add_cancel (Nat.le_of_not_lt λj5=>no (c:=[ae,ab]) (l:=.a (.v 0) (.a (.v 1) (.n 1))) (r:=.a (.v 1) (.v 0)) (aF.a b8 j5) rfl)))) rfl) (λb8=>no (c:=[aK,(ab-ae)]) (l:=.a (.a (.v 0) (.n 1)) (.v 1)) (r:=.a (.v 1) (.n 0)) (aF.a g1 (Nat.le_of_eq (Nat.sub_eq_zero_of_le (Nat.le_of_not_lt λj5=>no (c:=[ab,ae]) (l:=.a (.v 0) (.a (.v 1) (.n 1))) (r:=.a (.v 1) (.v 0)) (aF.a b8 j5) rfl)))) rfl)
theorem Uu(ah:ab<=ae):(eL+((ae:Nat):Int))=((eL+((ab:Nat):Int))+(((ae-ab):Nat):Int)):=by lia
theorem Uv:((1:Nat)+(ab-(ae-aK)))<=((1:Nat)+ab):=Nat.le_of_not_lt λg1=>no (c:=[ab,(ab-(ae-aK))]) (l:=.a (.a (.a (.n 1) (.v 0)) (.n 1)) (.v 1)) (r:=.a (.a (.n 1) (.v 1)) (.v 0)) (aF.a g1 (Nat.sub_le ab (ae-aK))) rfl
theorem Uw(ah:ab<ae)(h1:ae<(ab+aK)):((1:Nat)+(aK-(ae-ab)))<((1:Nat)+aK):=Nat.lt_of_not_le λg1=>Or.elim (Nat.le_total ab ae) (λb8=>Or.elim (Nat.le_total (ae-ab) aK) (λBL=>no (c:=[ab,ae,aK,(aK-(ae-ab)),(ae-ab)]) (l:=.a (.a (.a (.a (.v 0) (.n 1)) (.a (.n 1) (.v 2))) (.v 1)) (.a (.v 3) (.v 4))) (r:=.a (.a (.a (.v 1) (.a (.n 1) (.v 3))) (.a (.v 4) (.v 0))) (.v 2)) (aF.a (aF.a (aF.a ah g1) (kk ae ab)) (Nat.le_of_eq (Nat.sub_add_cancel (Nat.le_of_not_lt λj5=>no (c:=[(ae-ab),aK]) (l:=.a (.v 0) (.a (.v 1) (.n 1))) (r:=.a (.v 1) (.v 0)) (aF.a BL j5) rfl)))) rfl) (λBL=>no (c:=[ae,ab,aK,(ae-ab)]) (l:=.a (.a (.a (.v 0) (.n 1)) (.v 2)) (.a (.v 3) (.v 1))) (r:=.a (.a (.a (.v 1) (.v 2)) (.v 3)) (.v 0)) (aF.a (aF.a h1 BL) (Nat.le_of_eq (Nat.sub_add_cancel (Nat.le_of_not_lt λj5=>no (c:=[ab,ae]) (l:=.a (.a (.v 0) (.n 1)) (.a (.v 1) (.n 1))) (r:=.a (.v 1) (.v 0)) (aF.a ah j5) rfl)))) rfl)) (λb8=>no (c:=[ab,ae]) (l:=.a (.a (.v 0) (.n 1)) (.v 1)) (r:=.a (.v 1) (.v 0)) (aF.a ah b8) rfl)
theorem Ux{ab ae aK bx dH fw ib:Nat}(ah:((ab<=ae)/\(aK<=(bx-dH))))(h1:fw<=ib):(fw+ab)<=(ib+ae):=Nat.le_of_not_lt λg1=>no (c:=[ab,ae,fw,ib]) (l:=.a (.a (.v 0) (.v 2)) (.a (.a (.v 3) (.v 1)) (.n 1))) (r:=.a (.a (.v 1) (.v 3)) (.a (.v 2) (.v 0))) (aF.a (aF.a ah.1 h1) g1) rfl
theorem Uy{ab ae aK bx dH:Nat}(ah:((ab<=ae)/\(aK<=(bx-dH))))(h1:dH<=bx):(dH+aK)<=bx:=Nat.le_of_not_lt λg1=>no (c:=[aK,(bx-dH),bx,dH]) (l:=.a (.a (.v 0) (.a (.v 2) (.n 1))) (.a (.v 1) (.v 3))) (r:=.a (.a (.v 1) (.a (.v 3) (.v 0))) (.v 2)) (aF.a (aF.a ah.2 g1) (Nat.le_of_eq (Nat.sub_add_cancel (Nat.le_of_not_lt λj5=>no (c:=[dH,bx]) (l:=.a (.v 0) (.a (.v 1) (.n 1))) (r:=.a (.v 1) (.v 0)) (aF.a h1 j5) rfl)))) rfl
theorem UA(ah:(32:Nat)<=ab)(h1:ab<ae)(h2:ae<=(28:Nat)):False:=no (c:=[ab,ae]) (l:=.a (.a (.n 32) (.a (.v 0) (.n 1))) (.v 1)) (r:=.a (.a (.v 0) (.v 1)) (.n 28)) (aF.a (aF.a ah h1) h2) rfl
theorem UB(ah:(32:Nat)<=ab)(h1:ab<=ae)(h2:ae<=(28:Nat)):False:=no (c:=[ab,ae]) (l:=.a (.a (.n 32) (.v 0)) (.v 1)) (r:=.a (.a (.v 0) (.v 1)) (.n 28)) (aF.a (aF.a ah h1) h2) rfl
theorem UC(ah:(32:Nat)<=ab)(h1:ab<=ae)(h2:ae<=(4:Nat)):False:=no (c:=[ab,ae]) (l:=.a (.a (.n 32) (.v 0)) (.v 1)) (r:=.a (.a (.v 0) (.v 1)) (.n 4)) (aF.a (aF.a ah h1) h2) rfl
theorem UD{ab ae aK bx dH fw:Nat}(ah:(ab+ae)=aK)(h1:(bx+dH)=fw):((bx+ab)+(dH+ae))=(fw+aK):=Nat.le_antisymm (Nat.le_of_not_lt λg2=>no (c:=[ab,ae,aK,bx,dH,fw]) (l:=.a (.a (.a (.v 0) (.v 1)) (.a (.v 3) (.v 4))) (.a (.a (.v 5) (.v 2)) (.n 1))) (r:=.a (.a (.v 2) (.v 5)) (.a (.a (.v 3) (.v 0)) (.a (.v 4) (.v 1)))) (aF.a (aF.a (Nat.le_of_eq ah) (Nat.le_of_eq h1)) g2) rfl) (Nat.le_of_not_lt λg3=>no (c:=[aK,ab,ae,fw,bx,dH]) (l:=.a (.a (.v 0) (.v 3)) (.a (.a (.a (.v 4) (.v 1)) (.a (.v 5) (.v 2))) (.n 1))) (r:=.a (.a (.a (.v 1) (.v 2)) (.a (.v 4) (.v 5))) (.a (.v 3) (.v 0))) (aF.a (aF.a (Nat.le_of_eq (Eq.symm ah)) (Nat.le_of_eq (Eq.symm h1))) g3) rfl)
theorem UE{ab ae aK bx:Nat}(ah:ab<ae)(h1:aK<=bx):(ab+aK)<(ae+bx):=Nat.lt_of_not_le λg1=>no (c:=[ab,ae,aK,bx]) (l:=.a (.a (.a (.v 0) (.n 1)) (.v 2)) (.a (.v 1) (.v 3))) (r:=.a (.a (.v 1) (.v 3)) (.a (.v 0) (.v 2))) (aF.a (aF.a ah h1) g1) rfl
theorem UG(ah:(0:Int)<=b9)(h1:b9<(256:Int)):(b9/ (256:Int))=(0:Int):=by lia
theorem UH(ah:(0:Int)<=b9)(h1:b9<(256:Int)):(b9 % (256:Int))=b9:=by omega
theorem UI(ah:ab<=(ae+(1:Nat)))(h1:aK<=(ab+bx)):aK<=(ae+(bx+(1:Nat))):=Nat.le_of_not_lt λg1=>no (c:=[ab,ae,aK,bx]) (l:=.a (.a (.v 0) (.v 2)) (.a (.a (.v 1) (.a (.v 3) (.n 1))) (.n 1))) (r:=.a (.a (.a (.v 1) (.n 1)) (.a (.v 0) (.v 3))) (.v 2)) (aF.a (aF.a ah h1) g1) rfl
theorem UJ(ah:ab<=(13000:Nat))(h1:ae<=aK)(h2:aK<=(1000:Nat)):(ae+((64:Nat)*ab))<=(900000:Nat):=Nat.le_of_not_lt λg1=>no (c:=[ab,ae,aK]) (l:=.a (.a (.a (.m 64 (.v 0)) (.v 1)) (.v 2)) (.a (.n 900000) (.n 1))) (r:=.a (.a (.a (.m 64 (.n 13000)) (.v 2)) (.n 1000)) (.a (.v 1) (.m 64 (.v 0)))) (aF.a (aF.a (aF.a (aF.m 64 ah) h1) h2) g1) rfl
theorem UK(ah:ab<=(13000:Nat))(h1:ae<=aK)(h2:aK<=(1000:Nat)):(ae+ab)<=(900000:Nat):=Nat.le_of_not_lt λg1=>no (c:=[ab,ae,aK]) (l:=.a (.a (.a (.v 0) (.v 1)) (.v 2)) (.a (.n 900000) (.n 1))) (r:=.a (.a (.a (.n 13000) (.v 2)) (.n 1000)) (.a (.v 1) (.v 0))) (aF.a (aF.a (aF.a ah h1) h2) g1) rfl
theorem UM(ah:ab<=(13000:Nat))(h1:ae<=(800000:Nat)):(ae+ab)<=(900000:Nat):=Nat.le_of_not_lt λg1=>no (c:=[ab,ae]) (l:=.a (.a (.v 0) (.v 1)) (.a (.n 900000) (.n 1))) (r:=.a (.a (.n 13000) (.n 800000)) (.a (.v 1) (.v 0))) (aF.a (aF.a ah h1) g1) rfl
theorem UN(ah:ab<=(ae+aK))(h1:aK<=bx)(h2:bx<=dH)(aQ:dH<=(51:Nat))(h4:ae<=fw):ab<=(fw+(51:Nat)):=Nat.le_of_not_lt λg1=>no (c:=[ab,ae,aK,bx,dH,fw]) (l:=.a (.a (.a (.a (.a (.v 0) (.v 2)) (.v 3)) (.v 4)) (.v 1)) (.a (.a (.v 5) (.n 51)) (.n 1))) (r:=.a (.a (.a (.a (.a (.a (.v 1) (.v 2)) (.v 3)) (.v 4)) (.n 51)) (.v 5)) (.v 0)) (aF.a (aF.a (aF.a (aF.a (aF.a ah h1) h2) aQ) h4) g1) rfl
theorem UO(ah:ab<=ae)(h1:ae<=aK)(h2:aK<=(51:Nat))(aQ:bx<=dH):(bx+ab)<=(dH+(51:Nat)):=Nat.le_of_not_lt λg1=>no (c:=[ab,ae,aK,bx,dH]) (l:=.a (.a (.a (.a (.v 0) (.v 1)) (.v 2)) (.v 3)) (.a (.a (.v 4) (.n 51)) (.n 1))) (r:=.a (.a (.a (.a (.v 1) (.v 2)) (.n 51)) (.v 4)) (.a (.v 3) (.v 0))) (aF.a (aF.a (aF.a (aF.a ah h1) h2) aQ) g1) rfl
theorem UP(ah:ab<=(51:Nat))(h1:ae<=ab)(h2:aK<=bx)(aQ:bx<=ae)(h4:dH<=(800000:Nat)):(dH+aK)<=(1000000:Nat):=Nat.le_of_not_lt λg1=>no (c:=[ab,ae,aK,bx,dH]) (l:=.a (.a (.a (.a (.a (.v 0) (.v 1)) (.v 2)) (.v 3)) (.v 4)) (.a (.n 1000000) (.n 1))) (r:=.a (.a (.a (.a (.a (.n 51) (.v 0)) (.v 3)) (.v 1)) (.n 800000)) (.a (.v 4) (.v 2))) (aF.a (aF.a (aF.a (aF.a (aF.a ah h1) h2) aQ) h4) g1) rfl
theorem UQ(ah:ab<=(51:Nat))(h1:ae<=ab)(h2:aK<=bx)(aQ:bx<=ae):((0:Nat)+aK)<(1000000:Nat):=Nat.lt_of_not_le λg1=>no (c:=[ab,ae,aK,bx]) (l:=.a (.a (.a (.a (.v 0) (.v 1)) (.v 2)) (.v 3)) (.n 1000000)) (r:=.a (.a (.a (.a (.n 51) (.v 0)) (.v 3)) (.v 1)) (.a (.n 0) (.v 2))) (aF.a (aF.a (aF.a (aF.a ah h1) h2) aQ) g1) rfl
theorem IL(ah:ab=ae)(h1:ae<=(70:Nat)):ab<=(1000000:Nat):=Nat.le_of_not_lt λg1=>no (c:=[ab,ae]) (l:=.a (.a (.v 0) (.v 1)) (.a (.n 1000000) (.n 1))) (r:=.a (.a (.v 1) (.n 70)) (.v 0)) (aF.a (aF.a (Nat.le_of_eq ah) h1) g1) rfl
theorem UR(ah:ab<=ae):¬(((ae:Nat):Int)<((ab:Nat):Int)):=by omega
theorem IM(ah:ab<=(6:Nat)):ab<=(1000000:Nat):=Nat.le_of_not_lt λg1=>no (c:=[ab]) (l:=.a (.v 0) (.a (.n 1000000) (.n 1))) (r:=.a (.n 6) (.v 0)) (aF.a ah g1) rfl
theorem US(ah:ab<=(51:Nat))(h1:ae<=ab)(h2:aK<=bx)(aQ:bx<=ae):aK<=(13000:Nat):=Nat.le_of_not_lt λg1=>no (c:=[ab,ae,aK,bx]) (l:=.a (.a (.a (.a (.v 0) (.v 1)) (.v 2)) (.v 3)) (.a (.n 13000) (.n 1))) (r:=.a (.a (.a (.a (.n 51) (.v 0)) (.v 3)) (.v 1)) (.v 2)) (aF.a (aF.a (aF.a (aF.a ah h1) h2) aQ) g1) rfl
theorem IP(ah:ab<=(6:Nat)):ab<=(100:Nat):=Nat.le_of_not_lt λg1=>no (c:=[ab]) (l:=.a (.v 0) (.a (.n 100) (.n 1))) (r:=.a (.n 6) (.v 0)) (aF.a ah g1) rfl
theorem UT(ah:(((0:Int)<=b9)/\(b9<(30:Int)))):cx<=((cx+(5:Int))+b9):=by lia
theorem UU(ah:ab<=(320:Nat)):ab<(1000000:Nat):=Nat.lt_of_not_le λg1=>no (c:=[ab]) (l:=.a (.v 0) (.n 1000000)) (r:=.a (.n 320) (.v 0)) (aF.a ah g1) rfl
theorem IQ(ah:ab<=(320:Nat))(h1:ae<=ab):ae<=(900:Nat):=Nat.le_of_not_lt λg1=>no (c:=[ab,ae]) (l:=.a (.a (.v 0) (.v 1)) (.a (.n 900) (.n 1))) (r:=.a (.a (.n 320) (.v 0)) (.v 1)) (aF.a (aF.a ah h1) g1) rfl
theorem UW(ah:ab<=(320:Nat))(h1:ae<=ab):((0:Nat)+ae)<=(320:Nat):=Nat.le_of_not_lt λg1=>no (c:=[ab,ae]) (l:=.a (.a (.v 0) (.v 1)) (.a (.n 320) (.n 1))) (r:=.a (.a (.n 320) (.v 0)) (.a (.n 0) (.v 1))) (aF.a (aF.a ah h1) g1) rfl
theorem UX(ah:ab<=(700000:Nat))(h1:(ae+(aK+(1:Nat)))<=(320:Nat)):(ab+((51:Nat)*ae))<=(800000:Nat):=Nat.le_of_not_lt λg1=>no (c:=[ab,ae,aK]) (l:=.a (.a (.v 0) (.m 51 (.a (.v 1) (.a (.v 2) (.n 1))))) (.a (.n 800000) (.n 1))) (r:=.a (.a (.n 700000) (.m 51 (.n 320))) (.a (.v 0) (.m 51 (.v 1)))) (aF.a (aF.a ah (aF.m 51 h1)) g1) rfl
theorem UY:((ab+((51:Nat)*ae))+(51:Nat))<=(ab+((51:Nat)*(ae+(1:Nat)))):=Nat.le_of_not_lt λg1=>no (c:=[ab,ae]) (l:=.a (.a (.v 0) (.m 51 (.a (.v 1) (.n 1)))) (.n 1)) (r:=.a (.a (.v 0) (.m 51 (.v 1))) (.n 51)) g1 rfl
theorem UZ(ah:(ab+(ae+(1:Nat)))<=(320:Nat)):((ab+(1:Nat))+ae)<=(320:Nat):=Nat.le_of_not_lt λg1=>no (c:=[ab,ae]) (l:=.a (.a (.v 0) (.a (.v 1) (.n 1))) (.a (.n 320) (.n 1))) (r:=.a (.n 320) (.a (.a (.v 0) (.n 1)) (.v 1))) (aF.a ah g1) rfl
theorem U0(ah:(ab+(0:Nat))<=(320:Nat)):(ae+((51:Nat)*ab))<=(ae+((51:Nat)*(320:Nat))):=Nat.le_of_not_lt λg1=>no (c:=[ab,ae]) (l:=.a (.m 51 (.a (.v 0) (.n 0))) (.a (.a (.v 1) (.m 51 (.n 320))) (.n 1))) (r:=.a (.m 51 (.n 320)) (.a (.v 1) (.m 51 (.v 0)))) (aF.a (aF.m 51 ah) g1) rfl
theorem U1(ah:ab<(32:Nat)):((0:Nat)+ab)<(1000000:Nat):=Nat.lt_of_not_le λg1=>no (c:=[ab]) (l:=.a (.a (.v 0) (.n 1)) (.n 1000000)) (r:=.a (.n 32) (.a (.n 0) (.v 0))) (aF.a ah g1) rfl
theorem U2(ah:ab<(32:Nat))(h1:ae=ab):ae<=(1000000:Nat):=Nat.le_of_not_lt λg1=>no (c:=[ab,ae]) (l:=.a (.a (.a (.v 0) (.n 1)) (.v 1)) (.a (.n 1000000) (.n 1))) (r:=.a (.a (.n 32) (.v 0)) (.v 1)) (aF.a (aF.a ah (Nat.le_of_eq h1)) g1) rfl
theorem U4(ah:ab<=(1000:Nat)):ab<=(1000000:Nat):=Nat.le_of_not_lt λg1=>no (c:=[ab]) (l:=.a (.v 0) (.a (.n 1000000) (.n 1))) (r:=.a (.n 1000) (.v 0)) (aF.a ah g1) rfl
theorem wN:((1:Int)+((ab:Nat):Int))=((((1:Nat)+ab):Nat):Int):=by lia
theorem U5(ah:((ab:Nat):Int)<(30:Int)):((1:Nat)+ab)<(32:Nat):=by lia
theorem U6(ah:((ab:Nat):Int)<(30:Int))(h1:ae=((1:Nat)+ab)):ae<=(30:Nat):=by lia
theorem IS(ah:((ab:Nat):Int)<(2:Int)):((1:Nat)+ab)<(32:Nat):=by lia
theorem U7(ah:((ab:Nat):Int)<(2:Int))(h1:ae<((1:Nat)+ab)):((6:Nat)+ae)<=(1000:Nat):=by lia
theorem U8(ah:((ab:Nat):Int)<(20:Int)):((1:Nat)+ab)<(32:Nat):=by lia
theorem U9(ah:((ab:Nat):Int)<(2:Int))(h1:ae<=((1:Nat)+ab)):((6:Nat)+ae)<=(1000:Nat):=by lia
theorem U'(ah:((ab:Nat):Int)<(3:Int)):(((1:Int)<=((1:Int)+((ab:Nat):Int)))/\(((1:Int)+((ab:Nat):Int))<=(3:Int))):=by lia
theorem Va(ah:((ab:Nat):Int)<(2:Int))(h1:ae<=((1:Nat)+ab))(h2:((1:Nat)+ab)<=ae):((ae=(1:Nat))\/(ae=(2:Nat))):=by lia
theorem Vc(ah:((ab:Nat):Int)<(20:Int))(h1:ae=((1:Nat)+ab)):ae<=(20:Nat):=by lia
theorem Vd{ab ae aK:Nat}(ah:ab<=ae):(aK+ab)<=(aK+ae):=Nat.le_of_not_lt λg1=>no (c:=[ab,ae,aK]) (l:=.a (.v 0) (.a (.a (.v 2) (.v 1)) (.n 1))) (r:=.a (.v 1) (.a (.v 2) (.v 0))) (aF.a ah g1) rfl
theorem Ve{ab ae aK:Nat}(ah:ab<=ae):ab<=(aK+ae):=Nat.le_of_not_lt λg1=>no (c:=[ab,ae,aK]) (l:=.a (.v 0) (.a (.a (.v 2) (.v 1)) (.n 1))) (r:=.a (.v 1) (.v 0)) (aF.a ah g1) rfl
theorem Vf(ah:ab<=ae)(h1:aK<=(4:Nat)):(aK+ab)<=(ae+(4:Nat)):=Nat.le_of_not_lt λg1=>no (c:=[ab,ae,aK]) (l:=.a (.a (.v 0) (.v 2)) (.a (.a (.v 1) (.n 4)) (.n 1))) (r:=.a (.a (.v 1) (.n 4)) (.a (.v 2) (.v 0))) (aF.a (aF.a ah h1) g1) rfl
theorem Vg(ah:(ab+((51:Nat)*(ae+(1:Nat))))<=(306:Nat))(h1:aK<=(51:Nat))(h2:bx<=aK)(aQ:dH<=bx)(h4:fw<=ab):(fw+dH)<=(1000000:Nat):=Nat.le_of_not_lt λg1=>no (c:=[ab,ae,aK,bx,dH,fw]) (l:=.a (.a (.a (.a (.a (.a (.v 0) (.m 51 (.a (.v 1) (.n 1)))) (.v 2)) (.v 3)) (.v 4)) (.v 5)) (.a (.n 1000000) (.n 1))) (r:=.a (.a (.a (.a (.a (.n 306) (.n 51)) (.v 2)) (.v 3)) (.v 0)) (.a (.v 5) (.v 4))) (aF.a (aF.a (aF.a (aF.a (aF.a ah h1) h2) aQ) h4) g1) rfl
theorem Vh(ah:(ab+((51:Nat)*(ae+(1:Nat))))<=aK):(ab+((51:Nat)*ae))<=aK:=Nat.le_of_not_lt λg1=>no (c:=[ab,ae,aK]) (l:=.a (.a (.v 0) (.m 51 (.a (.v 1) (.n 1)))) (.a (.v 2) (.n 1))) (r:=.a (.v 2) (.a (.v 0) (.m 51 (.v 1)))) (aF.a ah g1) rfl
theorem Vi(ah:(ab+((51:Nat)*(ae+(1:Nat))))<=(306:Nat))(h1:aK<=(51:Nat))(h2:bx<=aK):((ab+bx)+((51:Nat)*ae))<=(306:Nat):=Nat.le_of_not_lt λg1=>no (c:=[ab,ae,aK,bx]) (l:=.a (.a (.a (.a (.v 0) (.m 51 (.a (.v 1) (.n 1)))) (.v 2)) (.v 3)) (.a (.n 306) (.n 1))) (r:=.a (.a (.a (.n 306) (.n 51)) (.v 2)) (.a (.a (.v 0) (.v 3)) (.m 51 (.v 1)))) (aF.a (aF.a (aF.a ah h1) h2) g1) rfl
theorem Vj(ah:ab<=(51:Nat))(h1:ae<=ab)(h2:aK<=ae):aK<=(13000:Nat):=Nat.le_of_not_lt λg1=>no (c:=[ab,ae,aK]) (l:=.a (.a (.a (.v 0) (.v 1)) (.v 2)) (.a (.n 13000) (.n 1))) (r:=.a (.a (.a (.n 51) (.v 0)) (.v 1)) (.v 2)) (aF.a (aF.a (aF.a ah h1) h2) g1) rfl
theorem Vk(ah:ab<=(700000:Nat))(h1:(ae+((51:Nat)*(aK+(1:Nat))))<=ab)(h2:bx<=ae):bx<=(800000:Nat):=Nat.le_of_not_lt λg1=>no (c:=[ab,ae,aK,bx]) (l:=.a (.a (.a (.v 0) (.a (.v 1) (.m 51 (.a (.v 2) (.n 1))))) (.v 3)) (.a (.n 800000) (.n 1))) (r:=.a (.a (.a (.n 700000) (.v 0)) (.v 1)) (.v 3)) (aF.a (aF.a (aF.a ah h1) h2) g1) rfl
theorem Vl(ah:(ab+((51:Nat)*(ae+(1:Nat))))<=aK):((ab+(51:Nat))+((51:Nat)*ae))<=aK:=Nat.le_of_not_lt λg1=>no (c:=[ab,ae,aK]) (l:=.a (.a (.v 0) (.m 51 (.a (.v 1) (.n 1)))) (.a (.v 2) (.n 1))) (r:=.a (.v 2) (.a (.a (.v 0) (.n 51)) (.m 51 (.v 1)))) (aF.a ah g1) rfl
theorem Vn(ah:(ab+((51:Nat)*(ae+(1:Nat))))<=(306:Nat)):(ab+((51:Nat)*ae))<=(306:Nat):=Nat.le_of_not_lt λg1=>no (c:=[ab,ae]) (l:=.a (.a (.v 0) (.m 51 (.a (.v 1) (.n 1)))) (.a (.n 306) (.n 1))) (r:=.a (.n 306) (.a (.v 0) (.m 51 (.v 1)))) (aF.a ah g1) rfl
theorem Vo(ah:ab<=(900000:Nat)):((0:Nat)+ab)<(1000000:Nat):=by lia
theorem IT(ah:ab<=(306:Nat))(h1:ae<=ab):ae<=(900:Nat):=Nat.le_of_not_lt λg1=>no (c:=[ab,ae]) (l:=.a (.a (.v 0) (.v 1)) (.a (.n 900) (.n 1))) (r:=.a (.a (.n 306) (.v 0)) (.v 1)) (aF.a (aF.a ah h1) g1) rfl
theorem Vp(ah:ab<=(306:Nat))(h1:ae<=(ab+(4:Nat)))(h2:aK<=ae):aK<=(1000000:Nat):=Nat.le_of_not_lt λg1=>no (c:=[ab,ae,aK]) (l:=.a (.a (.a (.v 0) (.v 1)) (.v 2)) (.a (.n 1000000) (.n 1))) (r:=.a (.a (.a (.n 306) (.a (.v 0) (.n 4))) (.v 1)) (.v 2)) (aF.a (aF.a (aF.a ah h1) h2) g1) rfl
theorem Vq(ah:ab<=(306:Nat))(h1:ae<=(ab+(4:Nat)))(h2:aK<=ae):aK<=(900000:Nat):=Nat.le_of_not_lt λg1=>no (c:=[ab,ae,aK]) (l:=.a (.a (.a (.v 0) (.v 1)) (.v 2)) (.a (.n 900000) (.n 1))) (r:=.a (.a (.a (.n 306) (.a (.v 0) (.n 4))) (.v 1)) (.v 2)) (aF.a (aF.a (aF.a ah h1) h2) g1) rfl
theorem Vr(ah:ab<=(306:Nat))(h1:ae<=(ab+(4:Nat))):ae<=(320:Nat):=Nat.le_of_not_lt λg1=>no (c:=[ab,ae]) (l:=.a (.a (.v 0) (.v 1)) (.a (.n 320) (.n 1))) (r:=.a (.a (.n 306) (.a (.v 0) (.n 4))) (.v 1)) (aF.a (aF.a ah h1) g1) rfl
theorem Vs(ah:ab<=(680000:Nat)):ab<=(700000:Nat):=Nat.le_of_not_lt λg1=>no (c:=[ab]) (l:=.a (.v 0) (.a (.n 700000) (.n 1))) (r:=.a (.n 680000) (.v 0)) (aF.a ah g1) rfl
theorem Vt{b9 cx:Int}(ah:b9<=cx):¬(cx<b9):=by lia
theorem Vu(ah:ab<=(6:Nat)):(ae+((51:Nat)*ab))<=(ae+(306:Nat)):=Nat.le_of_not_lt λg1=>no (c:=[ab,ae]) (l:=.a (.m 51 (.v 0)) (.a (.a (.v 1) (.n 306)) (.n 1))) (r:=.a (.m 51 (.n 6)) (.a (.v 1) (.m 51 (.v 0)))) (aF.a (aF.m 51 ah) g1) rfl
theorem Vv(ah:ab<=(6:Nat)):((0:Nat)+((51:Nat)*ab))<=(306:Nat):=Nat.le_of_not_lt λg1=>no (c:=[ab]) (l:=.a (.m 51 (.v 0)) (.a (.n 306) (.n 1))) (r:=.a (.m 51 (.n 6)) (.a (.n 0) (.m 51 (.v 0)))) (aF.a (aF.m 51 ah) g1) rfl
theorem Vx(ah:ab<=(600000:Nat)):(ab+(306:Nat))<=(700000:Nat):=Nat.le_of_not_lt λg1=>no (c:=[ab]) (l:=.a (.v 0) (.a (.n 700000) (.n 1))) (r:=.a (.n 600000) (.a (.v 0) (.n 306))) (aF.a ah g1) rfl
theorem Vy(ah:ab<=(600000:Nat)):(ab+(306:Nat))<=(680000:Nat):=Nat.le_of_not_lt λg1=>no (c:=[ab]) (l:=.a (.v 0) (.a (.n 680000) (.n 1))) (r:=.a (.n 600000) (.a (.v 0) (.n 306))) (aF.a ah g1) rfl
theorem Vz:(ab+((51:Nat)*(326:Nat)))=((ab+(306:Nat))+((51:Nat)*(320:Nat))):=Nat.le_antisymm (Nat.le_of_not_lt λg2=>no (c:=[ab]) (l:=.a (.a (.a (.v 0) (.n 306)) (.m 51 (.n 320))) (.n 1)) (r:=.a (.v 0) (.m 51 (.n 326))) g2 rfl) (Nat.le_of_not_lt λg3=>no (c:=[ab]) (l:=.a (.a (.v 0) (.m 51 (.n 326))) (.n 1)) (r:=.a (.a (.v 0) (.n 306)) (.m 51 (.n 320))) g3 rfl)
theorem VA(ah:ab<=(30:Nat))(h1:ae<=((30:Nat)*aK)):(ab+ae)<=((30:Nat)*(aK+(1:Nat))):=Nat.le_of_not_lt λg1=>no (c:=[ab,ae,aK]) (l:=.a (.a (.v 0) (.v 1)) (.a (.m 30 (.a (.v 2) (.n 1))) (.n 1))) (r:=.a (.a (.n 30) (.m 30 (.v 2))) (.a (.v 0) (.v 1))) (aF.a (aF.a ah h1) g1) rfl
theorem VB(ah:ab<=(3:Nat))(h1:ae<=((30:Nat)*ab)):ae<=(1000:Nat):=Nat.le_of_not_lt λg1=>no (c:=[ab,ae]) (l:=.a (.a (.m 30 (.v 0)) (.v 1)) (.a (.n 1000) (.n 1))) (r:=.a (.a (.m 30 (.n 3)) (.m 30 (.v 0))) (.v 1)) (aF.a (aF.a (aF.m 30 ah) h1) g1) rfl
theorem VC(ah:ab<=(3:Nat)):ab<=(1000:Nat):=Nat.le_of_not_lt λg1=>no (c:=[ab]) (l:=.a (.v 0) (.a (.n 1000) (.n 1))) (r:=.a (.n 3) (.v 0)) (aF.a ah g1) rfl
theorem IU(ah:b9<=cx):(b9+(0:Int))<=cx:=by lia
theorem IV(ah:b9<(cx+((aK:Nat):Int)))(h1:b9<(cx+((bx:Nat):Int))):b9<((cx+(0:Int))+(((min bx aK):Nat):Int)):=by lia
theorem IW(ah:¬(b9<(cx+((aK:Nat):Int)))):(cx+((aK:Nat):Int))<=b9:=by lia
theorem IX(ah:b9<(cx+((aK:Nat):Int))):b9<((cx+((bx:Nat):Int))+(((aK-bx):Nat):Int)):=by lia
theorem IY(ah:b9<=cx)(h1:cx<(b9+((aK:Nat):Int))):(Int.toNat (cx-b9))<aK:=by omega
theorem IZ(ah:b9<=cx):(b9+(((Int.toNat (cx-b9)):Nat):Int))=cx:=by lia
theorem VF(ah:((ab:Nat):Int)<(64:Int)):ab<(64:Nat):=by omega
theorem VG(ah:b9<(64:Int)):b9<(256:Int):=by omega
theorem VH(ah:ab<=(100:Nat))(h1:ae=ab):ae<=(1000000:Nat):=Nat.le_of_not_lt λg1=>no (c:=[ab,ae]) (l:=.a (.a (.v 0) (.v 1)) (.a (.n 1000000) (.n 1))) (r:=.a (.a (.n 100) (.v 0)) (.v 1)) (aF.a (aF.a ah (Nat.le_of_eq h1)) g1) rfl
theorem VI:(0:Int)<=((ab:Nat):Int):=by lia
theorem VJ(ah:ab<(64:Nat)):((ab:Nat):Int)<(64:Int):=by omega
theorem VK(ah:ab<(64:Nat)):((1:Nat)+ab)<=(1000000:Nat):=Nat.le_of_not_lt λg1=>no (c:=[ab]) (l:=.a (.a (.v 0) (.n 1)) (.a (.n 1000000) (.n 1))) (r:=.a (.n 64) (.a (.n 1) (.v 0))) (aF.a ah g1) rfl
theorem VL(ah:(((1:Int)<=b9)/\(b9<=(3:Int)))):(0:Int)<=b9:=by lia
theorem VM(ah:(((1:Int)<=b9)/\(b9<=(3:Int)))):b9<(64:Int):=by omega
theorem I0(ah:ab<=(20:Nat)):ab<=(30:Nat):=Nat.le_of_not_lt λg1=>no (c:=[ab]) (l:=.a (.v 0) (.a (.n 30) (.n 1))) (r:=.a (.n 20) (.v 0)) (aF.a ah g1) rfl
theorem Bz(ah:ab<=(30:Nat)):((0:Int)+((ab:Nat):Int))<(64:Int):=by lia
theorem I1(ah:ab<=(20:Nat)):((0:Int)+((ab:Nat):Int))<(64:Int):=by omega
theorem tJ(ah:b9<((ae:Nat):Int)):b9<((0:Int)+((ae:Nat):Int)):=by lia
theorem VO(ah:ab<=(20:Nat))(h1:ae<=(30:Nat)):((1:Nat)+((1:Nat)+((1:Nat)+((1:Nat)+((1:Nat)+((1:Nat)+(((1:Nat)+ae)+(((1:Nat)+ab)+(0:Nat)))))))))<=(320:Nat):=Nat.le_of_not_lt λg1=>no (c:=[ab,ae]) (l:=.a (.a (.v 0) (.v 1)) (.a (.n 320) (.n 1))) (r:=.a (.a (.n 20) (.n 30)) (.a (.n 1) (.a (.n 1) (.a (.n 1) (.a (.n 1) (.a (.n 1) (.a (.n 1) (.a (.a (.n 1) (.v 1)) (.a (.a (.n 1) (.v 0)) (.n 0)))))))))) (aF.a (aF.a ah h1) g1) rfl
theorem VP(ah:ab<=(20:Nat))(h1:ae<=(30:Nat))(h2:aK<=(30:Nat)):((1:Nat)+((1:Nat)+((1:Nat)+((1:Nat)+((1:Nat)+((1:Nat)+(((1:Nat)+ae)+(((1:Nat)+aK)+(((1:Nat)+ab)+(0:Nat))))))))))<=(320:Nat):=Nat.le_of_not_lt λg1=>no (c:=[ab,ae,aK]) (l:=.a (.a (.a (.v 0) (.v 1)) (.v 2)) (.a (.n 320) (.n 1))) (r:=.a (.a (.a (.n 20) (.n 30)) (.n 30)) (.a (.n 1) (.a (.n 1) (.a (.n 1) (.a (.n 1) (.a (.n 1) (.a (.n 1) (.a (.a (.n 1) (.v 1)) (.a (.a (.n 1) (.v 2)) (.a (.a (.n 1) (.v 0)) (.n 0))))))))))) (aF.a (aF.a (aF.a ah h1) h2) g1) rfl
theorem VQ:¬((((((ab+(1:Nat))+(1:Nat))+(1:Nat))=(1:Nat))\/((((ab+(1:Nat))+(1:Nat))+(1:Nat))=(2:Nat)))):=λg1=>Or.elim g1 (λb8=>no (c:=[ab]) (l:=.a (.a (.a (.v 0) (.n 1)) (.n 1)) (.n 1)) (r:=.n 1) (Nat.le_of_eq b8) rfl) (λb8=>no (c:=[ab]) (l:=.a (.a (.a (.v 0) (.n 1)) (.n 1)) (.n 1)) (r:=.n 2) (Nat.le_of_eq b8) rfl)
theorem VR(ah:ab<ae):((ab:Nat):Int)<((ae:Nat):Int):=by omega
theorem VS(ah:(ab+(ae+(1:Nat)))<=(1000:Nat))(h1:aK<=(ab+(1:Nat))):(aK+ae)<=(1000:Nat):=Nat.le_of_not_lt λg1=>no (c:=[ab,ae,aK]) (l:=.a (.a (.a (.v 0) (.a (.v 1) (.n 1))) (.v 2)) (.a (.n 1000) (.n 1))) (r:=.a (.a (.n 1000) (.a (.v 0) (.n 1))) (.a (.v 2) (.v 1))) (aF.a (aF.a ah h1) g1) rfl
theorem VT:(ab+(ae+(1:Nat)))=((ab+(1:Nat))+ae):=Nat.le_antisymm (Nat.le_of_not_lt λg2=>no (c:=[ab,ae]) (l:=.a (.a (.a (.v 0) (.n 1)) (.v 1)) (.n 1)) (r:=.a (.v 0) (.a (.v 1) (.n 1))) g2 rfl) (Nat.le_of_not_lt λg3=>no (c:=[ab,ae]) (l:=.a (.a (.v 0) (.a (.v 1) (.n 1))) (.n 1)) (r:=.a (.a (.v 0) (.n 1)) (.v 1)) g3 rfl)
theorem VU(ah:ab<=(6:Nat))(h1:ae<=aK):(ae+((51:Nat)*ab))<=(aK+(306:Nat)):=Nat.le_of_not_lt λg1=>no (c:=[ab,ae,aK]) (l:=.a (.a (.m 51 (.v 0)) (.v 1)) (.a (.a (.v 2) (.n 306)) (.n 1))) (r:=.a (.a (.m 51 (.n 6)) (.v 2)) (.a (.v 1) (.m 51 (.v 0)))) (aF.a (aF.a (aF.m 51 ah) h1) g1) rfl
theorem VV(ah:ab<=ae)(h1:ae<=aK)(h2:aK<=(51:Nat)):ab<=(13000:Nat):=Nat.le_of_not_lt λg1=>no (c:=[ab,ae,aK]) (l:=.a (.a (.a (.v 0) (.v 1)) (.v 2)) (.a (.n 13000) (.n 1))) (r:=.a (.a (.a (.v 1) (.v 2)) (.n 51)) (.v 0)) (aF.a (aF.a (aF.a ah h1) h2) g1) rfl
theorem VW(ah:ab<=(700000:Nat))(h1:(ae+((51:Nat)*(aK+(1:Nat))))<=(ab+(306:Nat))):ae<=(800000:Nat):=Nat.le_of_not_lt λg1=>no (c:=[ab,ae,aK]) (l:=.a (.a (.v 0) (.a (.v 1) (.m 51 (.a (.v 2) (.n 1))))) (.a (.n 800000) (.n 1))) (r:=.a (.a (.n 700000) (.a (.v 0) (.n 306))) (.v 1)) (aF.a (aF.a ah h1) g1) rfl
theorem VX(ah:(ab+((51:Nat)*(ae+(1:Nat))))<=(aK+(306:Nat)))(h1:bx<=dH)(h2:dH<=fw)(aQ:fw<=(51:Nat))(h4:ib<=(ab+bx)):(ib+((51:Nat)*ae))<=(aK+(306:Nat)):=Nat.le_of_not_lt λg1=>no (c:=[ab,ae,aK,bx,dH,fw,ib]) (l:=.a (.a (.a (.a (.a (.a (.v 0) (.m 51 (.a (.v 1) (.n 1)))) (.v 3)) (.v 4)) (.v 5)) (.v 6)) (.a (.a (.v 2) (.n 306)) (.n 1))) (r:=.a (.a (.a (.a (.a (.a (.v 2) (.n 306)) (.v 4)) (.v 5)) (.n 51)) (.a (.v 0) (.v 3))) (.a (.v 6) (.m 51 (.v 1)))) (aF.a (aF.a (aF.a (aF.a (aF.a ah h1) h2) aQ) h4) g1) rfl
theorem VY(ah:ab<=ae)(h1:ae<=(320:Nat)):ab<=(1000:Nat):=Nat.le_of_not_lt λg1=>no (c:=[ab,ae]) (l:=.a (.a (.v 0) (.v 1)) (.a (.n 1000) (.n 1))) (r:=.a (.a (.v 1) (.n 320)) (.v 0)) (aF.a (aF.a ah h1) g1) rfl
theorem VZ(ah:ab<=ae)(h1:ae<=(320:Nat)):ab<=(900000:Nat):=Nat.le_of_not_lt λg1=>no (c:=[ab,ae]) (l:=.a (.a (.v 0) (.v 1)) (.a (.n 900000) (.n 1))) (r:=.a (.a (.v 1) (.n 320)) (.v 0)) (aF.a (aF.a ah h1) g1) rfl
theorem V0(ah:ab<=(700000:Nat))(h1:(ae+((51:Nat)*aK))<=(ab+(306:Nat))):ae<=(900000:Nat):=Nat.le_of_not_lt λg1=>no (c:=[ab,ae,aK]) (l:=.a (.a (.v 0) (.a (.v 1) (.m 51 (.v 2)))) (.a (.n 900000) (.n 1))) (r:=.a (.a (.n 700000) (.a (.v 0) (.n 306))) (.v 1)) (aF.a (aF.a ah h1) g1) rfl
theorem V1(ah:ab<(20:Nat)):((32:Nat)+ab)<=(51:Nat):=Nat.le_of_not_lt λg1=>no (c:=[ab]) (l:=.a (.a (.v 0) (.n 1)) (.a (.n 51) (.n 1))) (r:=.a (.n 20) (.a (.n 32) (.v 0))) (aF.a ah g1) rfl
theorem V2(ah:(ab+((17000:Nat)*(ae+(1:Nat))))<=((17000:Nat)*(13:Nat))):ab<=(600000:Nat):=Nat.le_of_not_lt λg1=>no (c:=[ab,ae]) (l:=.a (.a (.v 0) (.m 17000 (.a (.v 1) (.n 1)))) (.a (.n 600000) (.n 1))) (r:=.a (.m 17000 (.n 13)) (.v 0)) (aF.a ah g1) rfl
theorem V3(ah:(ab+((17000:Nat)*(ae+(1:Nat))))<=((17000:Nat)*(13:Nat))):((ab+((51:Nat)*(326:Nat)))+((17000:Nat)*ae))<=((17000:Nat)*(13:Nat)):=by lia
theorem V4(ah:(ab+((17000:Nat)*(ae+(1:Nat))))<=((17000:Nat)*(13:Nat))):(ab+((51:Nat)*(326:Nat)))<=(700000:Nat):=Nat.le_of_not_lt λg1=>no (c:=[ab,ae]) (l:=.a (.a (.v 0) (.m 17000 (.a (.v 1) (.n 1)))) (.a (.n 700000) (.n 1))) (r:=.a (.m 17000 (.n 13)) (.a (.v 0) (.m 51 (.n 326)))) (aF.a ah g1) rfl
theorem V5(ah:(ab+((17000:Nat)*(0:Nat)))<=((17000:Nat)*(13:Nat))):ab<=(700000:Nat):=Nat.le_of_not_lt λg1=>no (c:=[ab]) (l:=.a (.a (.v 0) (.m 17000 (.n 0))) (.a (.n 700000) (.n 1))) (r:=.a (.m 17000 (.n 13)) (.v 0)) (aF.a ah g1) rfl
theorem V6(ah:ab<=(63:Nat)):ab<=(1000000:Nat):=Nat.le_of_not_lt λg1=>no (c:=[ab]) (l:=.a (.v 0) (.a (.n 1000000) (.n 1))) (r:=.a (.n 63) (.v 0)) (aF.a ah g1) rfl
theorem V7:((0:Nat)+(min (24:Nat) ab))<(1000000:Nat):=by omega
theorem V8:(min (24:Nat) ab)<=(24:Nat):=by lia
theorem V9(ah:ab<=(24:Nat)):ab<=(100:Nat):=Nat.le_of_not_lt λg1=>no (c:=[ab]) (l:=.a (.v 0) (.a (.n 100) (.n 1))) (r:=.a (.n 24) (.v 0)) (aF.a ah g1) rfl
theorem V'(ah:(((0:Int)<=((ab:Nat):Int))/\(((ab:Nat):Int)<(20:Int)))):ab<(20:Nat):=by omega
theorem Wa(ah:(((0:Int)<=b9)/\(b9<(64:Int))))(h1:(b9+((ae:Nat):Int))<(64:Int)):ae<(64:Nat):=by lia
theorem Wb(ah:(((0:Int)<=b9)/\(b9<(64:Int))))(h1:(b9+((ae:Nat):Int))<(64:Int))(h2:aK=((1:Nat)+ae))(aQ:bx=(2:Nat)):(bx+aK)<=(1000000:Nat):=by omega
theorem Wc:((2:Nat)+((1:Nat)+ab))=((3:Nat)+ab):=by lia
theorem We(ah:ab=(1:Nat))(h1:ae=(8:Nat)):(ab+ae)<=(1000000:Nat):=Nat.le_of_not_lt λg1=>no (c:=[ab,ae]) (l:=.a (.a (.v 0) (.v 1)) (.a (.n 1000000) (.n 1))) (r:=.a (.a (.n 1) (.n 8)) (.a (.v 0) (.v 1))) (aF.a (aF.a (Nat.le_of_eq ah) (Nat.le_of_eq h1)) g1) rfl
theorem Wf(ah:(0:Int)<=b9)(h1:b9<(64:Int)):(((0:Int)<=b9)/\(b9<(64:Int))):=by lia
theorem Wg(ah:ab=(3:Nat)):ab<=(999999:Nat):=Nat.le_of_not_lt λg1=>no (c:=[ab]) (l:=.a (.v 0) (.a (.n 999999) (.n 1))) (r:=.a (.n 3) (.v 0)) (aF.a (Nat.le_of_eq ah) g1) rfl
theorem Wh(ah:ab=(3:Nat)):ab<=(999991:Nat):=Nat.le_of_not_lt λg1=>no (c:=[ab]) (l:=.a (.v 0) (.a (.n 999991) (.n 1))) (r:=.a (.n 3) (.v 0)) (aF.a (Nat.le_of_eq ah) g1) rfl
theorem Wi(ah:ab=(3:Nat)):ab<=(999975:Nat):=Nat.le_of_not_lt λg1=>no (c:=[ab]) (l:=.a (.v 0) (.a (.n 999975) (.n 1))) (r:=.a (.n 3) (.v 0)) (aF.a (Nat.le_of_eq ah) g1) rfl
theorem Wj(ah:(b9+((ae:Nat):Int))<(64:Int))(h1:(0:Int)<=b9):ae<(64:Nat):=by lia
theorem Wk(ah:(b9+((ae:Nat):Int))<(64:Int))(h1:(0:Int)<=b9)(h2:aK<=(3:Nat))(aQ:bx=((1:Nat)+ae)):(aK+bx)<=(1000000:Nat):=by lia
theorem Wl(ah:ab=(3:Nat)):ab<=(3:Nat):=Nat.le_of_not_lt λg1=>no (c:=[ab]) (l:=.a (.v 0) (.a (.n 3) (.n 1))) (r:=.a (.n 3) (.v 0)) (aF.a (Nat.le_of_eq ah) g1) rfl
theorem Wm:((3:Nat)+((1:Nat)+ab))=(((3:Nat)+(1:Nat))+ab):=Nat.le_antisymm (Nat.le_of_not_lt λg2=>no (c:=[ab]) (l:=.a (.a (.a (.n 3) (.n 1)) (.v 0)) (.n 1)) (r:=.a (.n 3) (.a (.n 1) (.v 0))) g2 rfl) (Nat.le_of_not_lt λg3=>no (c:=[ab]) (l:=.a (.a (.n 3) (.a (.n 1) (.v 0))) (.n 1)) (r:=.a (.a (.n 3) (.n 1)) (.v 0)) g3 rfl)
theorem Wn(ah:ab=(2:Nat)):ab<=(3:Nat):=Nat.le_of_not_lt λg1=>no (c:=[ab]) (l:=.a (.v 0) (.a (.n 3) (.n 1))) (r:=.a (.n 2) (.v 0)) (aF.a (Nat.le_of_eq ah) g1) rfl
theorem Wo:((2:Nat)+((1:Nat)+ab))=(((3:Nat)+(0:Nat))+ab):=by lia
theorem I3(ah:(0:Int)<=b9)(h1:b9<(64:Int)):(((0:Int)<=(b9+(((0:Nat):Nat):Int)))/\((b9+(((0:Nat):Nat):Int))<(64:Int))):=by lia
theorem I4(ah:ab<=ae)(h1:(eL+((ae:Nat):Int))<(64:Int)):((eL+(((0:Nat):Nat):Int))+((ab:Nat):Int))<(64:Int):=by lia
theorem Wq(ah:((ab:Nat):Int)<(((ae+(0:Nat)):Nat):Int)):ab<ae:=by lia
theorem Wr{ab ae aK:Nat}:(min (min ab (ae-aK)) ab)<=ab:=by omega
theorem Ws{ab ae:Nat}(ah:¬(ab<=ae)):¬(ab<ae):=λg1=>no (c:=[ae,ab]) (l:=.a (.a (.v 0) (.n 1)) (.a (.v 1) (.n 1))) (r:=.a (.v 1) (.v 0)) (aF.a (Nat.lt_of_not_le ah) g1) rfl
theorem Wu{ab ae aK bx:Nat}(ah:¬(ab<=ae))(h1:ab=(aK+bx)):(min bx (ae-aK))=(ae-aK):=by lia
theorem Wv(ah:¬(ab<=ae)):¬((((ab-ae):Nat):Int)<(1:Int)):=by lia
theorem I5(ah:ab<=ae)(h1:(eL+((ae:Nat):Int))<(64:Int))(h2:(0:Int)<=eL):(((0:Int)<=(eL+((ab:Nat):Int)))/\((eL+((ab:Nat):Int))<(64:Int))):=by lia
theorem I6(ah:ab<=ae)(h1:(eL+((ae:Nat):Int))<(64:Int)):((eL+((ab:Nat):Int))+(((ae-ab):Nat):Int))<(64:Int):=by omega
theorem Ww{ab ae aK:Nat}:(min (ab-ae) aK)<=aK:=by lia
theorem BA(ah:ab<=(900:Nat)):((0:Nat)+ab)<=(1000:Nat):=Nat.le_of_not_lt λg1=>no (c:=[ab]) (l:=.a (.v 0) (.a (.n 1000) (.n 1))) (r:=.a (.n 900) (.a (.n 0) (.v 0))) (aF.a ah g1) rfl
theorem wO(ah:(ab+(ae+(1:Nat)))<=(1000:Nat)):(ab+ae)<=(1000:Nat):=Nat.le_of_not_lt λg1=>no (c:=[ab,ae]) (l:=.a (.a (.v 0) (.a (.v 1) (.n 1))) (.a (.n 1000) (.n 1))) (r:=.a (.n 1000) (.a (.v 0) (.v 1))) (aF.a ah g1) rfl
theorem Wx(ah:ab<=ae):(((ae:Nat):Int)-((ab:Nat):Int))=(((ae-ab):Nat):Int):=by lia
theorem Wy(ah:((ab<=ae)/\(aK<=ae)))(h1:bx<=(1:Nat))(h2:dH<=(1:Nat)):(((dH+ab)<=(ae+(1:Nat)))/\((bx+aK)<=(ae+(1:Nat)))):=⟨Nat.le_of_not_lt λg2=>no (c:=[ab,ae,dH]) (l:=.a (.a (.v 0) (.v 2)) (.a (.a (.v 1) (.n 1)) (.n 1))) (r:=.a (.a (.v 1) (.n 1)) (.a (.v 2) (.v 0))) (aF.a (aF.a ah.1 h2) g2) rfl,Nat.le_of_not_lt λg3=>no (c:=[aK,ae,bx]) (l:=.a (.a (.v 0) (.v 2)) (.a (.a (.v 1) (.n 1)) (.n 1))) (r:=.a (.a (.v 1) (.n 1)) (.a (.v 2) (.v 0))) (aF.a (aF.a ah.2 h1) g3) rfl⟩
theorem Wz(ah:(0:Nat)<ab):(0:Int)<((ab:Nat):Int):=by omega
theorem WA(ah:ab<=(900:Nat))(h1:((ae<=ab)/\(aK<=ab))):aK<=(1000000:Nat):=Nat.le_of_not_lt λg1=>no (c:=[ab,aK]) (l:=.a (.a (.v 0) (.v 1)) (.a (.n 1000000) (.n 1))) (r:=.a (.a (.n 900) (.v 0)) (.v 1)) (aF.a (aF.a ah h1.2) g1) rfl
theorem WB(ah:(0:Nat)<ab):((ab:Nat):Int)≠(0:Int):=by omega
theorem WC(ah:ab<=(900:Nat))(h1:((ae<=ab)/\(aK<=ab))):ae<=(900:Nat):=Nat.le_of_not_lt λg1=>no (c:=[ab,ae]) (l:=.a (.a (.v 0) (.v 1)) (.a (.n 900) (.n 1))) (r:=.a (.a (.n 900) (.v 0)) (.v 1)) (aF.a (aF.a ah h1.1) g1) rfl
theorem WD(ah:ab<=(900:Nat)):((0:Nat)+ab)<(1000000:Nat):=Nat.lt_of_not_le λg1=>no (c:=[ab]) (l:=.a (.v 0) (.n 1000000)) (r:=.a (.n 900) (.a (.n 0) (.v 0))) (aF.a ah g1) rfl
end aC
theorem aL(h:True:=by rfl):True:=h
theorem d5(h:True:=by exactλ_=>rfl):True:=h
theorem k3(h:True:=by exactλ_ _ _=>rfl):True:=h
theorem abB(h:True:=by exact@id False):True:=h
theorem i1(h:True:=by exactλ_=>@id False):True:=h
theorem rR(h:True:=by exactλ_ _ _=>@id False):True:=h
theorem abC(h:True:=by intro x;cases x):True:=h
theorem cQ(h:True:=by exactλ_ _=>@id False):True:=h
theorem oJ(h:True:=by exactλ_ _ _ _=>@id False):True:=h
theorem rS(h:True:=by decide):True:=h
theorem xh(h:True:=by with_unfolding_all rfl):True:=h
theorem ud(h:True:=by intro _;rfl):True:=h
theorem KW(h:True:=by intro _ _;rfl):True:=h
theorem abz(h:True:=by exactλq=>nomatch q):True:=h
theorem Cq(h:True:=by exactλ_=>id):True:=h
theorem abA(h:True:=by exactλ_ _ _ _=>rfl):True:=h
inductive bp where
 |none
 |int (i:Int)
 |str (x:Str)
 deriving DecidableEq
inductive J where
 |none
 |bool (b:Bool)
 |int (i:Int)
 |str (x:Str)
 |bytes (b:List UInt8)
 |bk (vs:List J)
 |bo (vs:List J)
 |cw (es:List (bp×J))
 |e8 (a b c:Int)
 |ref (c:Nat)
 |bS (v:Value)
inductive c6 where
 |list (vs:List J)
 |cb (es:List (bp×J))
 |b2 (es:List (List bp×J))
 |inst (t:Option J)
 |d7 (b:List UInt8)
structure St where
 cells:Nat->Option c6
 next:Nat
inductive bL where
 |free
 |imm (o:Obj)
 |fix (o:Obj)
 |cell (c:Nat)
 |gw (c:Nat)
 |U
noncomputable def bL.t4:bL->Nat
 |.free=>0
 |.imm _=>1
 |.fix _=>2
 |.cell _=>3
 |.gw _=>4
 |.U=>5
theorem bL.no{x a b:bL}{P:Prop}(r:x=a)(q:x=b)(h:autoParam (Nat.beq a.t4 b.t4=false) aL._auto_1):P:=
 absurd (congrArg bL.t4 (r.symm.trans q)) (Nat.ne_of_beq_eq_false h)
theorem bL.ne{x a b:bL}(r:x=a)(h:autoParam (Nat.beq a.t4 b.t4=false) aL._auto_1):x≠b:=λq=>bL.no r q h
theorem bL.td{x:bL}(r:x=.imm a)(q:x=.imm b):a=b:=bL.imm.inj (r.symm.trans q)
theorem eK{P:Prop}(h:∀G:Prop,(P->G)->G):P:=h P id
theorem aq{α:Type}{a:α}{P:Prop}(e:none=some a):P:=nomatch e
theorem d9{α:Type}{a:α}{P:Prop}(e:some a=none):P:=nomatch e
theorem wG{P:Prop}(e:true=false):P:=nomatch e
theorem G9{α bR:Type}{a c:α}{b d:bR}(e:some (a,b)=some (c,d)):a=c:=(Prod.mk.inj (Option.some.inj e)).1
theorem G'{α bR:Type}{a c:α}{b d:bR}(e:some (a,b)=some (c,d)):b=d:=(Prod.mk.inj (Option.some.inj e)).2
structure az where
 role:Addr->bL
 al:Nat->Addr
noncomputable def az.eM(n:Nat)(W W':az):Prop:=(∀a o,W.role a=.imm o->W'.role a=.imm o)/\∀c,c<n->W'.al c=W.al c
noncomputable def az.le(n:Nat)(W W':az):Prop:=W.eM n W'/\(∀a o,W.role a=.fix o->W'.role a=.fix o)/\∀a,W.role a=.U->W'.role a=.U
theorem az.eM.refl{W:az}:W.eM n W:=⟨λ_ _ e=>e,λ_ _=>rfl⟩
theorem az.eM.trans{W W' sj:az}(h:W.eM n W')(aV:n<=gu)(h':W'.eM gu sj):W.eM n sj:=
 ⟨λa o e=>h'.1 a o (h.1 a o e),λc aw=>(h'.2 c (Nat.lt_of_lt_of_le aw aV)).trans (h.2 c aw)⟩
theorem az.le.refl{W:az}:W.le n W:=⟨az.eM.refl,λ_ _ e=>e,λ_ e=>e⟩
theorem az.le.trans{W W' sj:az}(h:W.le n W')(aV:n<=gu)(h':W'.le gu sj):W.le n sj:=
 ⟨h.1.trans aV h'.1,λa o e=>h'.2.1 a o (h.2.1 a o e),λa e=>h'.2.2 a (h.2.2 a e)⟩
noncomputable def jr:bp->Value->Bool
 |.none,.none=>true
 |.int i,.int ai _=>ai==i
 |.str x,.str y _=>y==x
 |_,_=>false
theorem cM{P:Prop}(e:false=true):P:=nomatch e
inductive gM:bp->Value->Prop
 |none:gM .none .none
 |int (i:Int) (t:Tok):gM (.int i) (.int i t)
 |str (x:Str) (t:Tok):gM (.str x) (.str x t)
theorem gM.of{k:bp}(h:jr k v=true):gM k v:=
 bp.casesOn (motive:=λk=>jr k v=true->gM k v) k
  (Value.casesOn (motive:=λv=>jr .none v=true->gM .none v) v (λ_=>.none) (λh=>cM h) (λh=>cM h) (λ_ h=>cM h) (λ_ _ h=>cM h) (λ_ _ h=>cM h) (λ_ _ h=>cM h) (λ_ _ h=>cM h) (λ_ h=>cM h) (λ_ h=>cM h) (λ_ h=>cM h))
  (λi=>Value.casesOn (motive:=λv=>jr (.int i) v=true->gM (.int i) v) v (λh=>cM h) (λh=>cM h) (λh=>cM h) (λ_ h=>cM h) (λai t h=>eq_of_beq (show(ai==i)=true from h)▸.int ai t) (λ_ _ h=>cM h) (λ_ _ h=>cM h) (λ_ _ h=>cM h) (λ_ h=>cM h) (λ_ h=>cM h) (λ_ h=>cM h))
  (λx=>Value.casesOn (motive:=λv=>jr (.str x) v=true->gM (.str x) v) v (λh=>cM h) (λh=>cM h) (λh=>cM h) (λ_ h=>cM h) (λ_ _ h=>cM h) (λ_ _ h=>cM h) (λy t h=>eq_of_beq (show(y==x)=true from h)▸.str y t) (λ_ _ h=>cM h) (λ_ h=>cM h) (λ_ h=>cM h) (λ_ h=>cM h)) h
theorem DY(h:jr k v=true):(k=.none/\v=.none)\/(∃i t,k=.int i/\v=.int i t)\/∃x t,k=.str x/\v=.str x t:=
 gM.casesOn (motive:=λk v _=>(k=.none/\v=.none)\/(∃i t,k=.int i/\v=.int i t)\/∃x t,k=.str x/\v=.str x t) (.of h) (.inl ⟨rfl,rfl⟩) (λ_ _=>.inr (.inl ⟨_,_,rfl,rfl⟩)) (λ_ _=>.inr (.inr ⟨_,_,rfl,rfl⟩))
noncomputable def DZ:Value->Option bp
 |.none=>some .none
 |.int i _=>some (.int i)
 |.str x _=>some (.str x)
 |_=>none
theorem gM.qI(h:gM k v):DZ v=some k:=gM.casesOn (motive:=λk v _=>DZ v=some k) h rfl (λ_ _=>rfl) (λ_ _=>rfl)
noncomputable def Mp(w:World):bp->Int
 |.none=>0xFCA86420
 |.int i=>hashInt i
 |.str x=>hashStr w x
section
variable{prog:Program}{w:World}{A:Around}{E:Value->Shared->Prop}{s:Shared}
theorem X0(h:Q 0xFCA86420 {s with toks:=s.toks+1}):wpAny (model prog w) A (pyHash .none) Q E s:=by
 have hT:s.TypeIs .none "NoneType":=rfl
 unfold pyHash
 have a0:[Value.none].any Value.onHeap=false:=rfl
 refine wpAny_bind ?_
 rw[cRoomFor,if_neg (by rw[a0];exact Bool.false_ne_true)];refine wpAny_pure ?_
 refine wpAny_bind (wpAny_specialOf hT F.slot_NoneType_hash.lookup ?_)
 show wpAny _ _ (if(some (Value.builtin "NoneType.__hash__")==some Value.none)=true then _ else _) Q E s
 rw[if_neg (by rw[beq_builtin_none];exact Bool.false_ne_true)]
 refine wpAny_bind (wpAny_specialOf hT F.slot_NoneType_hash.lookup ?_)
 show wpAny _ _ (callSpecialIfBoundUnlessNone? .none "__hash__" _>>=_) Q E s
 refine wpAny_bind (wpAny_callSpecialIfBoundUnlessNone?_slot hT F.slot_NoneType_hash
  (wpAny_call_entry F.slot_NoneType_hash hT F.entry_NoneType_hash
    (show wpAny _ _ (do ret (<-mkInt 0xFCA86420)) _ _ s from wpAny_ret_mkInt ?_) (F.args_NoneType_hash_1 _)))
 show wpAny _ _ (if(decide (-(2:Int)^63<=0xFCA86420)&&decide ((0xFCA86420:Int)<2^63))=true then _ else _) Q E _
 rw[if_pos (by decide)]
 exact wpAny_pure h
theorem qM(bV:a≠b)(hf:∀x t,a≠.float x t)
 (h:wpAny (model prog w) A (compareOp .Eq a b) (λv aY=>∃c,v=.bool c/\Q c aY) E s):wpAny (model prog w) A (eqBool a b) Q E s:=by
 unfold eqBool
 have pl:(a==b)=false:=beq_eq_false_iff_ne.mpr bV
 refine wpAny_holding ?_
 rw[pl,if_neg Bool.false_ne_true]
 have key:wpAny (model prog w) A (richCompare .Eq a b>>=truthOfDropped) Q E s:=by
  refine wpAny_bind (wpAny_mono (show wpAny (model prog w) A (richCompare .Eq a b) _ E s from h) (λv aY a0=>?_) λ_ _ e=>e)
  obtain⟨c,rfl,aw⟩:=a0
  exact wpAny_truthy_bool aw
 cases a<;>first|exact key|(exact absurd rfl (hf _ _))
theorem O6(h:Q true s):wpAny (model prog w) A (eqBool a a) Q E s:=by
 unfold eqBool
 refine wpAny_holding ?_
 rw[beq_self_eq_true]
 exact wpAny_bind (wpAny_rule (wpAny_pure h))
theorem O5(ha:jr a u=true)(ag:jr b v=true)(h:Q (decide (a=b)) s):
 wpAny (model prog w) A (eqBool u v) Q E s:=
 gM.casesOn (motive:=λa u _=>∀b v,gM b v->Q (decide (a=b)) s->wpAny (model prog w) A (eqBool u v) Q E s) (.of ha)
  (λb v ag=>gM.casesOn (motive:=λb v _=>Q (decide (bp.none=b)) s->wpAny (model prog w) A (eqBool .none v) Q E s) ag (λh=>O6 h) (λ_ _ h=>qM (λe=>nomatch e) (λ_ _ e=>nomatch e) (EqNone.eq_none_int ⟨_,rfl,h⟩)) (λ_ _ h=>qM (λe=>nomatch e) (λ_ _ e=>nomatch e) (EqNone.eq_none_str ⟨_,rfl,h⟩)))
  (λi t b v ag=>gM.casesOn (motive:=λb v _=>Q (decide (bp.int i=b)) s->wpAny (model prog w) A (eqBool (.int i t) v) Q E s) ag (λh=>qM (λe=>nomatch e) (λ_ _ e=>nomatch e) (EqNone.eq_int_none ⟨_,rfl,h⟩))
    (λai u h=>wpAny_eqBool_int (by rw[show(i==ai)=decide (bp.int i=bp.int ai) from Bool.eq_iff_iff.mpr ⟨λe=>decide_eq_true (congrArg _ (eq_of_beq e)),λe=>beq_iff_eq.mpr (bp.int.inj (of_decide_eq_true e))⟩];exact h)) (λ_ _ h=>qM (λe=>nomatch e) (λ_ _ e=>nomatch e) (EqMixed.eq_int_str ⟨_,rfl,h⟩)))
  (λx t b v ag=>gM.casesOn (motive:=λb v _=>Q (decide (bp.str x=b)) s->wpAny (model prog w) A (eqBool (.str x t) v) Q E s) ag (λh=>qM (λe=>nomatch e) (λ_ _ e=>nomatch e) (EqNone.eq_str_none ⟨_,rfl,h⟩)) (λ_ _ h=>qM (λe=>nomatch e) (λ_ _ e=>nomatch e) (EqMixed.eq_str_int ⟨_,rfl,h⟩))
    (λy u h=>wpAny_eqBool_str (by rw[show decide (x=y)=decide (bp.str x=bp.str y) from Bool.eq_iff_iff.mpr ⟨λe=>decide_eq_true (congrArg _ (of_decide_eq_true e)),λe=>decide_eq_true (bp.str.inj (of_decide_eq_true e))⟩];exact h))) b v (.of ag) h
end
noncomputable def gQ(prog:Program)(w:World):KeyKind prog w bp where
 is:=jr
 hash:=Mp w
 inj:=λv a b ha ag=>Option.some.inj ((gM.of ha).qI.symm.trans (gM.of ag).qI)
 byValue:=λk v h=>gM.casesOn (motive:=λ_ v _=>carriedByValue v=true) (.of h) rfl (λ_ _=>rfl) (λ_ _=>rfl)
 pyHash:=λa0 h=>by
  rcases DY a0 with⟨rfl,rfl⟩|⟨i,t,rfl,rfl⟩|⟨x,t,rfl,rfl⟩
  .exact X0 h
  .exact wpAny_pyHash_int h
  .exact wpAny_pyHash_str h
 eqBool:=λbI a0 h=>O5 bI a0 h
 «strs»:=λk x t v h=>Option.some.inj (gM.of h).qI▸Value.casesOn (motive:=λv=>jr (.str x) v=v.isStr x) v rfl rfl rfl (λ_=>rfl) (λ_ _=>rfl) (λ_ _=>rfl) (λ_ _=>rfl) (λ_ _=>rfl) (λ_=>rfl) (λ_=>rfl) (λ_=>rfl)
noncomputable abbrev tupK(prog:Program)(w:World):HeapKind prog w (List bp):=tupleKind (gQ prog w)
section
variable{M:Model}{A:Around}{E:Value->Shared->Prop}
theorem zQ{bR:Type}(f:Nat->bR->Sem (ForInStep bR))(aO:Nat->bR->Shared->Prop)(Q:bR->Shared->Prop)(n:Nat)
 (turn:∀i b s,i<n->aO i b s->wpAny M A (f i b) (λr aY=>match r with|.yield bP=>aO (i+1) bP aY|.done bP=>Q bP aY) E s)
 (cA:∀b s,aO n b s->Q b s)(b:bR)(h:aO 0 b s):wpAny M A (forIn [0:n] b f) Q E s:=by
 have key:∀m i b s,i+m=n->aO i b s->wpAny M A (forIn (List.range' i m) b f) Q E s:=by
  intro m
  induction m with
  |zero=>exactλi b s e h=>wpAny_pure (cA b s (e▸h))
  |succ m aX=>
   intro i b s e h
   show wpAny M A (forIn (i::List.range' (i+1) m) b f) Q E s
   rw[List.forIn_cons]
   refine wpAny_bind (wpAny_mono (turn i b s (e▸Nat.lt_add_of_pos_right (Nat.succ_pos m)) h) (λr aY h=>?_) λ_ _ h=>h)
   induction r with
   |done bP=>exact wpAny_pure h
   |yield bP=>exact aX _ _ _ ((Nat.succ_add i m).trans e) h
 rw[Std.Legacy.Range.forIn_eq_forIn_range']
 show wpAny M A (forIn (List.range' 0 ((n-0+1-1)/ 1)) b f) Q E s
 rw[Nat.div_one]
 exact key n 0 b s (Nat.zero_add n) h
theorem PH{bR:Type}(f:Nat->bR->Sem (ForInStep bR))(nH:Nat->Prop)(Q:bR->Shared->Prop)(n:Nat)(b:bR)
 (turn:∀i,i<n->nH i->wpAny M A (f i b) (λr aY=>match r with|.yield bP=>bP=b/\aY=s/\nH (i+1)|.done bP=>Q bP aY) E s)
 (cA:nH n->Q b s)(h:nH 0):wpAny M A (forIn [0:n] b f) Q E s:=
 zQ f (λi bP aY=>bP=b/\aY=s/\nH i) Q n (λi bP aY hi ⟨a8,a7,h⟩=>by rw[a8,a7];exact turn i hi h) (λbP aY ⟨a8,a7,h⟩=>by rw[a8,a7];exact cA h) b ⟨rfl,rfl,h⟩
end
noncomputable abbrev fF:Addr:=273
section
variable(prog:Program)(w:World)
noncomputable def kn(o:Obj)(kvs:List (bp×Value)):Prop:=
 o.ExactDict/\∃es ep,o.data=.dict es ep/\KeysOf (gQ prog w) es/\Pairs (gQ prog w) es.toList kvs/\(kvs.map (·.1)).Nodup
noncomputable abbrev t7(items:Array Value)(k:Nat):Obj:={cls:=.type "tuple",data:=.seq items k}
noncomputable abbrev w1(a b c:Int)(t u v:Tok):Obj:={cls:=.type "range",dict:=none,data:=.fields #[.int a t,.int b u,.int c v],slots:= #[]}
mutual
inductive aM (W:az) (n:Nat):J->Value->Prop
 |none:aM W n .none .none
 |bool (b:Bool):aM W n (.bool b) (.bool b)
 |int (i:Int) (t:Tok):aM W n (.int i) (.int i t)
 |str (x:Str) (t:Tok):aM W n (.str x) (.str x t)
 |bytes (b:List UInt8) (t:Tok):aM W n (.bytes b) (.bytes b.toArray t)
 |bk {a:Addr} {items:Array Value} {k:Nat} {vs:List J}:W.role a=.imm (t7 items k)->bt W n vs items.toList->aM W n (.bk vs) (.ref a)
 |bo {a:Addr} {o:Obj} {items:Array Value} {k:Nat} {vs:List J}:W.role a=.imm o->o.cls=.type "list"->o.data=.seq items k->bt W n vs items.toList->aM W n (.bo vs) (.ref a)
 |cw {a:Addr} {o:Obj} {kvs:List (bp×Value)} {es:List (bp×J)}:W.role a=.imm o->(a==sysModules)=false->kn prog w o kvs->d6 W n es kvs->aM W n (.cw es) (.ref a)
 |e8 {r:Addr} {a b c:Int} {t u v:Tok}:W.role r=.imm (w1 a b c t u v)->aM W n (.e8 a b c) (.ref r)
 |ref {c:Nat}:c<n->aM W n (.ref c) (.ref (W.al c))
 |bS (v:Value):aM W n (.bS v) v
inductive bt (W:az) (n:Nat):List J->List Value->Prop
 |nil:bt W n [] []
 |cons {v:J} {ay:Value} {vs:List J} {bG:List Value}:aM W n v ay->bt W n vs bG->bt W n (v::vs) (ay::bG)
inductive d6 (W:az) (n:Nat):List (bp×J)->List (bp×Value)->Prop
 |nil:d6 W n [] []
 |cons {k:bp} {v:J} {ay:Value} {es:List (bp×J)} {kvs:List (bp×Value)}:aM W n v ay->d6 W n es kvs->d6 W n ((k,v)::es) ((k,ay)::kvs)
end
end
section
variable{prog:Program}{w:World}
theorem bt.ind{P:List J->List Value->Prop}(nil:P [] [])(cons:∀{v ay vs bG},aM prog w W n v ay->bt prog w W n vs bG->P vs bG->P (v::vs) (ay::bG))(h:bt prog w W n vs bG):P vs bG:=
 bt.rec (motive_1:=λ_ _ _=>True) (motive_2:=λvs bG _=>P vs bG) (motive_3:=λ_ _ _=>True) trivial (λ_=>trivial) (λ_ _=>trivial) (λ_ _=>trivial) (λ_ _=>trivial) (λ_ _ _=>trivial) (λ_ _ _ _ _=>trivial) (λ_ _ _ _ _=>trivial) (λ_=>trivial) (λ_=>trivial) (λ_=>trivial)
  nil (λa b _ aX=>cons a b aX) trivial (λ_ _ _ _=>trivial) h
theorem d6.ind{P:List (bp×J)->List (bp×Value)->Prop}(nil:P [] [])(cons:∀{k v ay es kvs},aM prog w W n v ay->d6 prog w W n es kvs->P es kvs->P ((k,v)::es) ((k,ay)::kvs))(h:d6 prog w W n es kvs):P es kvs:=
 d6.rec (motive_1:=λ_ _ _=>True) (motive_2:=λ_ _ _=>True) (motive_3:=λvs bG _=>P vs bG) trivial (λ_=>trivial) (λ_ _=>trivial) (λ_ _=>trivial) (λ_ _=>trivial) (λ_ _ _=>trivial) (λ_ _ _ _ _=>trivial) (λ_ _ _ _ _=>trivial) (λ_=>trivial) (λ_=>trivial) (λ_=>trivial)
  trivial (λ_ _ _ _=>trivial) nil (λa b _ aX=>cons a b aX) h
theorem aM.a4(h:W.eM n W')(aV:n<=gu)(r:aM prog w W n v ay):aM prog w W' gu v ay:=
 aM.rec (motive_1:=λv ay _=>aM prog w W' gu v ay) (motive_2:=λv ay _=>bt prog w W' gu v ay) (motive_3:=λv ay _=>d6 prog w W' gu v ay)
  .none .bool .int .str .bytes (λr _ aX=>.bk (h.1 _ _ r) aX) (λr c d _ aX=>.bo (h.1 _ _ r) c d aX) (λr z c _ aX=>.cw (h.1 _ _ r) z c aX) (λr=>.e8 (h.1 _ _ r)) (λ{c} aw=>h.2 c aw▸.ref (Nat.lt_of_lt_of_le aw aV)) .bS
  .nil (λ_ _ a b=>.cons a b) .nil (λ_ _ a b=>.cons a b) r
theorem bt.a4(h:W.eM n W')(aV:n<=gu){v:List J}(r:bt prog w W n v ay):bt prog w W' gu v ay:=r.ind .nil λa _ aX=>.cons (a.a4 h aV) aX
theorem d6.a4(h:W.eM n W')(aV:n<=gu){v:List (bp×J)}(r:d6 prog w W n v ay):d6 prog w W' gu v ay:=r.ind .nil λa _ aX=>.cons (a.a4 h aV) aX
theorem bt.length{vs:List J}(r:bt prog w W n vs bG):bG.length=vs.length:=r.ind (P:=λvs bG=>bG.length=vs.length) rfl λ_ _ aX=>congrArg Nat.succ aX
theorem bt.append{vs cB:List J}(r:bt prog w W n vs bG)(h:bt prog w W n cB Kg):bt prog w W n (vs++cB) (bG++Kg):=r.ind (P:=λvs bG=>bt prog w W n (vs++cB) (bG++Kg)) h λa _ aX=>.cons a aX
theorem bt.rx(h:aM prog w W n v ay):bt prog w W n [v] [ay]:=.cons h .nil
theorem bt.get{vs:List J}(r:bt prog w W n vs bG):∀{i:Nat} {v:J},vs[i]? =some v->∃ay,bG[i]? =some ay/\aM prog w W n v ay:=
 r.ind (P:=λvs bG=>∀{i:Nat} {v:J},vs[i]? =some v->∃ay,bG[i]? =some ay/\aM prog w W n v ay) (λe=>aq e) λ{_ ay _ _} a _ aX {i _}=>Nat.casesOn (motive:=λi=>(_::_)[i]? =some _->∃ay,(_::_)[i]? =some ay/\aM prog w W n _ ay) i (λe=>⟨ay,rfl,Option.some.inj e▸a⟩) λ_ e=>aX e
theorem bt.take{vs:List J}(i:Nat)(r:bt prog w W n vs bG):bt prog w W n (vs.take i) (bG.take i):=
 r.ind (P:=λvs bG=>∀i,bt prog w W n (vs.take i) (bG.take i)) (λi=>Nat.casesOn (motive:=λi=>bt prog w W n (List.take i []) (List.take i [])) i .nil λ_=>.nil) (λa _ aX i=>Nat.casesOn (motive:=λi=>bt prog w W n (List.take i (_::_)) (List.take i (_::_))) i .nil λai=>.cons a (aX ai)) i
theorem bt.drop{vs:List J}(i:Nat)(r:bt prog w W n vs bG):bt prog w W n (vs.drop i) (bG.drop i):=
 r.ind (P:=λvs bG=>∀i,bt prog w W n (vs.drop i) (bG.drop i)) (λi=>Nat.casesOn (motive:=λi=>bt prog w W n (List.drop i []) (List.drop i [])) i .nil λ_=>.nil) (λa b aX i=>Nat.casesOn (motive:=λi=>bt prog w W n (List.drop i (_::_)) (List.drop i (_::_))) i (.cons a b) λai=>aX ai) i
theorem bt.set{v:J}(h:aM prog w W n v ay)(i:Nat)(r:bt prog w W n vs bG):bt prog w W n (vs.set i v) (bG.set i ay):=
 r.ind (P:=λvs bG=>∀i,bt prog w W n (vs.set i v) (bG.set i ay)) (λi=>Nat.casesOn (motive:=λi=>bt prog w W n (List.set [] i v) (List.set [] i ay)) i .nil λ_=>.nil) (λa b aX i=>Nat.casesOn (motive:=λi=>bt prog w W n (List.set (_::_) i v) (List.set (_::_) i ay)) i (.cons h b) λai=>.cons a (aX ai)) i
noncomputable def bt.Spec(prog:Program)(w:World)(W:az)(n:Nat):List J->List Value->Prop
 |[],cB=>cB=[]
 |v::vs,cB=>∃ay bG,cB=ay::bG/\aM prog w W n v ay/\bt prog w W n vs bG
theorem bt.bc{vs:List J}(h:bt prog w W n vs cB):bt.Spec prog w W n vs cB:=h.ind (P:=λvs cB=>bt.Spec prog w W n vs cB) rfl λa b _=>⟨_,_,rfl,a,b⟩
theorem bt.rM(h:bt prog w W n (v::vs) (ay::bG)):aM prog w W n v ay/\bt prog w W n vs bG:=by
 obtain⟨_,_,e,a,b⟩:=h.bc
 exact⟨(List.cons.inj e).1▸a,(List.cons.inj e).2▸b⟩
noncomputable def aM.Spec(prog:Program)(w:World)(W:az)(n:Nat):J->Value->Prop
 |.none,ay=>ay=.none
 |.bool b,ay=>ay=.bool b
 |.int i,ay=>∃t,ay=.int i t
 |.str x,ay=>∃t,ay=.str x t
 |.bytes x,ay=>∃t,ay=.bytes x.toArray t
 |.bk vs,ay=>∃a items k,W.role a=.imm (t7 items k)/\bt prog w W n vs items.toList/\ay=.ref a
 |.bo vs,ay=>∃a o items k,W.role a=.imm o/\o.cls=.type "list"/\o.data=.seq items k/\bt prog w W n vs items.toList/\ay=.ref a
 |.cw es,ay=>∃a o kvs,W.role a=.imm o/\(a==sysModules)=false/\kn prog w o kvs/\d6 prog w W n es kvs/\ay=.ref a
 |.e8 a b c,ay=>∃r t u v,W.role r=.imm (w1 a b c t u v)/\ay=.ref r
 |.ref c,ay=>c<n/\ay=.ref (W.al c)
 |.bS x,ay=>ay=x
theorem aM.bc(h:aM prog w W n v ay):aM.Spec prog w W n v ay:=
 aM.casesOn (motive_1:=λv ay _=>aM.Spec prog w W n v ay) h rfl (λ_=>rfl) (λ_ _=>⟨_,rfl⟩) (λ_ _=>⟨_,rfl⟩) (λ_ _=>⟨_,rfl⟩) (λr q=>⟨_,_,_,r,q,rfl⟩) (λr c d q=>⟨_,_,_,_,r,c,d,q,rfl⟩) (λr z c q=>⟨_,_,_,r,z,c,q,rfl⟩) (λr=>⟨_,_,_,_,r,rfl⟩) (λc=>⟨c,rfl⟩) (λ_=>rfl)
noncomputable def k'(prog:Program)(w:World)(W:az)(k:List bp)(a:Addr):Prop:=∃o items n,W.role a=.imm o/\o.cls=.type "tuple"/\o.data=.seq items n/\ItemsAre (gQ prog w) k items.toList
noncomputable def TRel(prog:Program)(w:World)(W:az)(n:Nat):List (List bp×J)->List (List bp×Addr×Value)->Prop
 |[],[]=>True
 |(k,v)::es,(jA,a,ay)::xs=>jA=k/\k' prog w W k a/\aM prog w W n v ay/\TRel prog w W n es xs
 |_,_=>False
theorem TRel.ind{P:List (List bp×J)->List (List bp×Addr×Value)->Prop}(nil:P [] [])(cons:∀{k v a ay es xs},k' prog w W k a->aM prog w W n v ay->TRel prog w W n es xs->P es xs->P ((k,v)::es) ((k,a,ay)::xs)):
 ∀{es:List (List bp×J)} {xs:List (List bp×Addr×Value)},TRel prog w W n es xs->P es xs:=by
 intro es
 refine List.rec (motive:=λes=>∀{xs},TRel prog w W n es xs->P es xs) (λ{xs}=>?_) (λe es aX {xs}=>?_) es
 .exact List.casesOn (motive:=λxs=>TRel prog w W n [] xs->P [] xs) xs (λ_=>nil) λ_ _ h=>False.elim h
 .exact List.casesOn (motive:=λxs=>TRel prog w W n (e::es) xs->P (e::es) xs) xs (λh=>False.elim h) λ⟨jA,a,ay⟩ xs ⟨h1,h2,aQ,h4⟩=>by cases h1;exact cons h2 aQ h4 (aX h4)
theorem k'.a4(h:W.eM n W')(r:k' prog w W k a):k' prog w W' k a:=by
 obtain⟨o,it,m,r,x⟩:=r;exact⟨o,it,m,h.1 _ _ r,x⟩
theorem TRel.a4(h:W.eM n W')(aV:n<=gu){es:List (List bp×J)}(r:TRel prog w W n es xs):TRel prog w W' gu es xs:=
 TRel.ind (P:=λes xs=>TRel prog w W' gu es xs) trivial (λa b _ aX=>⟨rfl,a.a4 h,b.a4 h aV,aX⟩) r
noncomputable def nL(prog:Program)(w:World)(o:Obj)(xs:List (List bp×Addr×Value)):Prop:=
 o.ExactDict/\∃es ep,o.data=.dict es ep/\es.toList=xs.map (entryOfKey (tupK prog w))/\(xs.map (·.1)).Nodup
inductive CellAt (prog:Program) (w:World) (W:az) (n:Nat) (h:Heap) (c:Nat) (a:Addr):c6->Prop
 |list {vs:List J} {items:Array Value} {k:Nat}:h.get? a=some (listOf items k)->bt prog w W n vs items.toList->CellAt prog w W n h c a (.list vs)
 |cb {es:List (bp×J)} {o:Obj} {kvs:List (bp×Value)}:h.get? a=some o->(a==sysModules)=false->kn prog w o kvs->d6 prog w W n es kvs->CellAt prog w W n h c a (.cb es)
 |b2 {es:List (List bp×J)} {o:Obj} {xs:List (List bp×Addr×Value)}:h.get? a=some o->(a==sysModules)=false->nL prog w o xs->TRel prog w W n es xs->CellAt prog w W n h c a (.b2 es)
 |inst {d:Addr} {t:Option J} {es:List DictEntry} {k:Nat}:h.get? a=some (instObj fF d)->W.role d=.gw c->h.get? d=some (dictOf es k)->
   (match t with|none=>es=[]|some v=>∃(hh:Int) (b7:Tok) (ay:Value),es=[⟨hh,.str "times" b7,ay⟩]/\aM prog w W n v ay)->CellAt prog w W n h c a (.inst t)
 |d7 {b:List UInt8}:h.get? a=some {cls:=.type "bytearray",data:=.bytearray b.toArray 0}->CellAt prog w W n h c a (.d7 b)
theorem CellAt.a4(k:CellAt prog w W n h c a x)(l:W.eM n W')(aV:n<=gu)(e:h'.get? a=h.get? a)(hp:∀d,W.role d=.gw c->W'.role d=.gw c/\h'.get? d=h.get? d):
 CellAt prog w W' gu h' c a x:=by
 cases k with
 |list g r=>exact .list (e.trans g) (r.a4 l aV)
 |cb g z r q=>exact .cb (e.trans g) z r (q.a4 l aV)
 |b2 g z r q=>exact .b2 (e.trans g) z r (q.a4 l aV)
 |@inst d t es dt g r q v=>
  refine .inst (e.trans g) (hp _ r).1 ((hp _ r).2.trans q) ?_
  rcases t with _|t
  .exact v
  .obtain⟨hh,b7,ay,a,b⟩:=v;exact⟨hh,b7,ay,a,b.a4 l aV⟩
 |d7 g=>exact .d7 (e.trans g)
noncomputable def CellAt.Spec(prog:Program)(w:World)(W:az)(n:Nat)(h:Heap)(c:Nat)(a:Addr):c6->Prop
 |.list vs=>∃items k,h.get? a=some (listOf items k)/\bt prog w W n vs items.toList
 |.cb es=>∃o kvs,h.get? a=some o/\(a==sysModules)=false/\kn prog w o kvs/\d6 prog w W n es kvs
 |.b2 es=>∃o xs,h.get? a=some o/\(a==sysModules)=false/\nL prog w o xs/\TRel prog w W n es xs
 |.inst t=>∃d es k,h.get? a=some (instObj fF d)/\W.role d=.gw c/\h.get? d=some (dictOf es k)/\
   (match t with|none=>es=[]|some v=>∃(hh:Int) (b7:Tok) (ay:Value),es=[⟨hh,.str "times" b7,ay⟩]/\aM prog w W n v ay)
 |.d7 b=>h.get? a=some {cls:=.type "bytearray",data:=.bytearray b.toArray 0}
theorem CellAt.bc(k:CellAt prog w W n h c a x):CellAt.Spec prog w W n h c a x:=
 CellAt.casesOn (motive:=λx _=>CellAt.Spec prog w W n h c a x) k (λg r=>⟨_,_,g,r⟩) (λg z r q=>⟨_,_,g,z,r,q⟩) (λg z r q=>⟨_,_,g,z,r,q⟩) (λg r q v=>⟨_,_,_,g,r,q,v⟩) λg=>g
theorem CellAt.some(k:CellAt prog w W n h c a x):∃o,h.get? a=.some o:=by cases k<;>exact⟨_,by assumption⟩
structure bw (prog:Program) (w:World) (h₁:Heap) (W:az) (σ:St) (h:Heap):Prop where
 nz:∃o,h₁.get? 3=.some o
 base:∀a o,h₁.get? a=some o->W.role a=.imm o
 imm:∀a o,W.role a=.imm o->h.get? a=some o
 fix:∀a o,W.role a=.fix o->h.get? a=some o
 live:∀a,W.role a≠.free->∃o,h.get? a=some o
 cell:∀c x,σ.cells c=some x->W.role (W.al c)=.cell c/\CellAt prog w W σ.next h c (W.al c) x
 top:∀c,σ.next<=c->σ.cells c=none
variable{h₁:Heap}
theorem bw.fresh(R:bw prog w h₁ W σ h):(h.objs.size==sysModules)=false:=by
 obtain⟨o,aH⟩:=R.nz
 have:=Heap.lt_size (R.imm 3 o (R.base 3 o aH))
 exact beq_eq_false_iff_ne.mpr (Nat.ne_of_gt (Nat.lt_trans (by decide:(1:Nat)<3) this))
theorem bw.old(R:bw prog w h₁ W σ h):∀b o,h₁.get? b=some o->h.get? b=some o:=λb o e=>R.imm b o (R.base b o e)
theorem bw.lt(R:bw prog w h₁ W σ h)(ha:W.role a≠.free):a<h.objs.size:=let⟨_,e⟩:=R.live a ha;Heap.lt_size e
theorem bw.free(R:bw prog w h₁ W σ h)(ha:h.objs.size<=a):W.role a=.free:=by
 cases e:W.role a with
 |free=>rfl
 |_=>exact absurd (R.lt (a:=a) (bL.ne e)) (Nat.not_lt.mpr ha)
theorem bw.keep(R:bw prog w h₁ W σ h)(e:∀a,W.role a≠.free->W.role a≠.U->h'.get? a=h.get? a)(l:∀a,W.role a=.U->∃o,h'.get? a=some o):bw prog w h₁ W σ h' where
 nz:=R.nz
 base:=R.base
 imm:=λa o r=>(e a (bL.ne r) (bL.ne r)).trans (R.imm a o r)
 fix:=λa o r=>(e a (bL.ne r) (bL.ne r)).trans (R.fix a o r)
 live:=λa r=>by
  by_cases q:W.role a=.U
  .exact l a q
  .rw[e a r q];exact R.live a r
 cell:=λc x aw=>by
  obtain⟨r,k⟩:=R.cell c x aw
  exact⟨r,k.a4 az.eM.refl (Nat.le_refl _) (e _ (bL.ne r) (bL.ne r)) λd aB=>⟨aB,e d (bL.ne aB) (bL.ne aB)⟩⟩
 top:=R.top
theorem get?_push_ne{h:Heap}(ha:a<h.objs.size):(h.push o).get? a=h.get? a:=Heap.get?_push_ne _ _ _ (Nat.ne_of_lt ha)
theorem bw.push{W:az}(R:bw prog w h₁ W σ h)(o:Obj):bw prog w h₁ W σ (h.push o):=
 R.keep (λa r _=>get?_push_ne (R.lt r)) λa r=>by
  have q:W.role a≠.free:=bL.ne r
  rw[get?_push_ne (R.lt q)];exact R.live a q
theorem bw.sameBut(R:bw prog w h₁ W σ h)(hs:Heap.SameBut a h h')(ha:W.role a=.free\/(W.role a=.U/\∃o,h'.get? a=some o)):bw prog w h₁ W σ h':=
 R.keep (λb r l=>hs.2 b (by rintro rfl;exact ha.elim r λq=>l q.1)) λb r=>by
  by_cases ag:b=a
  .subst ag;exact ha.elim (λq=>by exact bL.no q r) λq=>q.2
  .rw[hs.2 b ag];exact R.live b (bL.ne r)
theorem bw.j6(R:bw prog w h₁ W σ h)(e:∀b o,h.get? b=some o->h'.get? b=some o):bw prog w h₁ W σ h':=
 R.keep (λa r _=>by obtain⟨o,aH⟩:=R.live a r;rw[aH,e a o aH]) λa r=>by
  obtain⟨o,aH⟩:=R.live a (bL.ne r)
  exact⟨o,e a o aH⟩
noncomputable def az.aS(W:az)(a:Addr)(r:bL):az:={W with role:=λb=>if b=a then r else W.role b}
theorem az.cX{W:az}:(W.aS a r).role a=r:=by simp[az.aS]
theorem az.b'{W:az}(h:b≠a):(W.aS a r).role b=W.role b:=by simp[az.aS,h]
theorem az.gG{W:az}(h:W.role a=.free):W.le n (W.aS a r):=by
 refine⟨⟨λb o e=>?_,λ_ _=>rfl⟩,λb o e=>?_,λb e=>?_⟩<;>
 .rw[az.b']
  .exact e
  .rintro rfl;exact bL.no h e
theorem bw.hu{W:az}(R:bw prog w h₁ W σ h)(ha:W.role a=.free)(aG:∃o,h.get? a=some o)(hi:∀o,r=.imm o->h.get? a=some o)(hf:∀o,r=.fix o->h.get? a=some o):bw prog w h₁ (W.aS a r) σ h where
 nz:=R.nz
 base:=λb o e=>(az.gG (n:=0) ha).1.1 b o (R.base b o e)
 imm:=λb o e=>by
  by_cases ag:b=a
  .subst ag;rw[az.cX] at e;exact hi o e
  .rw[az.b' ag] at e;exact R.imm b o e
 fix:=λb o e=>by
  by_cases ag:b=a
  .subst ag;rw[az.cX] at e;exact hf o e
  .rw[az.b' ag] at e;exact R.fix b o e
 live:=λb e=>by
  by_cases ag:b=a
  .subst ag;exact aG
  .rw[az.b' ag] at e;exact R.live b e
 cell:=λc x aw=>by
  obtain⟨cg,k⟩:=R.cell c x aw
  have fi:W.al c≠a:=by rintro e;rw[e,ha] at cg;exact nomatch cg
  refine⟨?_,k.a4 (az.gG ha).1 (Nat.le_refl _) rfl λd aB=>⟨?_,rfl⟩⟩
  .show(W.aS a r).role (W.al c)=_
   rw[az.b' fi];exact cg
  .rw[az.b']
   .exact aB
   .rintro rfl;exact bL.no ha aB
 top:=R.top
theorem bw.swap{W:az}(R:bw prog w h₁ W σ h)(ha:W.role a=.fix o)(hs:Heap.SameBut a h h')(aH:h'.get? a=some cO):bw prog w h₁ (W.aS a (.fix cO)) σ h' where
 nz:=R.nz
 base:=λb x e=>by
  have:=R.base b x e
  rw[az.b']
  .exact this
  .rintro rfl;exact bL.no ha this
 imm:=λb x e=>by
  by_cases ag:b=a
  .subst ag;rw[az.cX] at e;exact nomatch e
  .rw[az.b' ag] at e;exact(hs.2 b ag).trans (R.imm b x e)
 fix:=λb x e=>by
  by_cases ag:b=a
  .subst ag;rw[az.cX] at e;cases e;exact aH
  .rw[az.b' ag] at e;exact(hs.2 b ag).trans (R.fix b x e)
 live:=λb e=>by
  by_cases ag:b=a
  .subst ag;exact⟨cO,aH⟩
  .rw[az.b' ag] at e;rw[hs.2 b ag];exact R.live b e
 cell:=λc x aw=>by
  obtain⟨cg,k⟩:=R.cell c x aw
  have fi:W.al c≠a:=by rintro e;rw[e,ha] at cg;exact nomatch cg
  refine⟨?_,?_⟩
  .show(W.aS a _).role (W.al c)=_
   rw[az.b' fi];exact cg
  .refine k.a4 ⟨λb x e=>?_,λ_ _=>rfl⟩ (Nat.le_refl _) (hs.2 _ fi) λd aB=>?_
   .rw[az.b']
    .exact e
    .rintro rfl;exact bL.no ha e
   .have ee:d≠a:=by rintro rfl;exact bL.no ha aB
    exact⟨by rw[az.b' ee];exact aB,hs.2 d ee⟩
 top:=R.top
end
section
variable{prog:Program}{w:World}{h₁:Heap}
theorem bw.rD(R:bw prog w h₁ W σ h)(ju:W'.al=W.al)
 (aI:∀a,W'.role a=W.role a\/((W.role a=.U\/∃o,W.role a=.fix o)/\(W'.role a=.free\/W'.role a=.U\/∃o,W'.role a=.fix o/\h.get? a=some o))):
 bw prog w h₁ W' σ h/\W.eM σ.next W':=by
 have keepR:∀a r,W.role a=r->r≠.U->(∀o,r≠.fix o)->W'.role a=r:=by
  intro a r e h1 h2
  rcases aI a with q|⟨q|⟨o,q⟩,_⟩
  .rw[q,e]
  .rw[e] at q;exact absurd q h1
  .rw[e] at q;exact absurd q (h2 o)
 have MT:∀a r,W'.role a=r->r≠.free->r≠.U->(∀o,r≠.fix o)->W.role a=r:=by
  intro a r e ah h1 h2
  rcases aI a with q|⟨_,q|q|⟨o,q,_⟩⟩
  .rw[<-q,e]
  .rw[e] at q;exact absurd q ah
  .rw[e] at q;exact absurd q h1
  .rw[e] at q;exact absurd q (h2 o)
 have iy:W.eM σ.next W':=⟨λa o e=>keepR a _ e (λq=>nomatch q) (λ_ q=>nomatch q),λc _=>by rw[ju]⟩
 refine⟨⟨R.nz,λa o e=>keepR a _ (R.base a o e) (λq=>nomatch q) (λ_ q=>nomatch q),λa o e=>R.imm a o (MT a _ e (λq=>nomatch q) (λq=>nomatch q) (λ_ q=>nomatch q)),λa o e=>?_,λa e=>?_,λc x aw=>?_,R.top⟩,iy⟩
 .rcases aI a with q|⟨_,q|q|⟨cO,q,g⟩⟩
  .exact R.fix a o (q▸e)
  .exact bL.no e q
  .exact bL.no e q
  .rw[e] at q;cases q;exact g
 .refine R.live a λq=>?_
  rcases aI a with p|⟨p|⟨o,p⟩,_⟩
  .exact e (p.trans q)
  .exact bL.no q p
  .exact bL.no q p
 .obtain⟨r,k⟩:=R.cell c x aw
  rw[ju]
  exact⟨keepR _ _ r (λq=>nomatch q) (λ_ q=>nomatch q),k.a4 iy (Nat.le_refl _) rfl λd aB=>⟨keepR d _ aB (λq=>nomatch q) (λ_ q=>nomatch q),rfl⟩⟩
noncomputable def St.new(σ:St)(x:c6):St:={cells:=λc=>if c=σ.next then some x else σ.cells c,next:=σ.next+1}
noncomputable def St.aS(σ:St)(c:Nat)(x:c6):St:={σ with cells:=λd=>if d=c then some x else σ.cells d}
noncomputable def az.eD(W:az)(n:Nat)(a:Addr):az:={role:=λb=>if b=a then .cell n else W.role b,al:=λc=>if c=n then a else W.al c}
theorem az.oi{W:az}(h:W.role a=.free):W.le n (W.eD n a):=by
 refine⟨⟨λb o e=>?_,λc aw=>?_⟩,λb o e=>?_,λb e=>?_⟩
 .show(if b=a then _ else _)=_
  rw[if_neg (by rintro rfl;exact bL.no h e)];exact e
 .show(if c=n then _ else _)=_
  rw[if_neg (Nat.ne_of_lt aw)]
 .show(if b=a then _ else _)=_
  rw[if_neg (by rintro rfl;exact bL.no h e)];exact e
 .show(if b=a then _ else _)=_
  rw[if_neg (by rintro rfl;exact bL.no h e)];exact e
theorem bw.alloc{W:az}(R:bw prog w h₁ W σ h)(ha:W.role a=.free)(aG:∃o,h.get? a=some o)(av:CellAt prog w (W.eD σ.next a) (σ.next+1) h σ.next a x):
 bw prog w h₁ (W.eD σ.next a) (σ.new x) h:=by
 have l:=az.oi (n:=σ.next) ha
 have rn:∀b,b≠a->(W.eD σ.next a).role b=W.role b:=λb ag=>by show(if b=a then _ else _)=_;rw[if_neg ag]
 have w2:(W.eD σ.next a).role a=.cell σ.next:=by show(if a=a then _ else _)=_;rw[if_pos rfl]
 refine⟨R.nz,λb o e=>l.1.1 b o (R.base b o e),λb o e=>?_,λb o e=>?_,λb e=>?_,λc y aw=>?_,λc aw=>?_⟩
 .by_cases ag:b=a
  .subst ag;exact bL.no w2 e
  .rw[rn b ag] at e;exact R.imm b o e
 .by_cases ag:b=a
  .subst ag;exact bL.no w2 e
  .rw[rn b ag] at e;exact R.fix b o e
 .by_cases ag:b=a
  .subst ag;exact aG
  .rw[rn b ag] at e;exact R.live b e
 .by_cases px:c=σ.next
  .subst px
   have e:y=x:=by
    have:(if σ.next=σ.next then some x else σ.cells σ.next)=some y:=aw
    rw[if_pos rfl] at this;cases this;rfl
   subst e
   have ed:(W.eD σ.next a).al σ.next=a:=by show(if σ.next=σ.next then a else _)=_;rw[if_pos rfl]
   rw[ed];exact⟨w2,av⟩
  .have jv:σ.cells c=some y:=by
    have:(if c=σ.next then some x else σ.cells c)=some y:=aw
    rw[if_neg px] at this;exact this
   obtain⟨r,k⟩:=R.cell c y jv
   have ed:(W.eD σ.next a).al c=W.al c:=by show(if c=σ.next then a else _)=_;rw[if_neg px]
   rw[ed]
   have fi:W.al c≠a:=by rintro e;rw[e,ha] at r;exact nomatch r
   exact⟨(rn _ fi).trans r,k.a4 l.1 (Nat.le_succ _) rfl λd aB=>⟨(rn d (by rintro rfl;exact bL.no ha aB)).trans aB,rfl⟩⟩
 .have h1:¬c=σ.next:=Nat.ne_of_gt aw
  show(if c=σ.next then some x else σ.cells c)=none
  rw[if_neg h1];exact R.top c (Nat.le_of_succ_le aw)
theorem bw.lP(R:bw prog w h₁ W σ h)(aw:σ.cells c=some x)(hs:Heap.SameBut (W.al c) h h')(bB:CellAt prog w W σ.next h' c (W.al c) y):bw prog w h₁ W (σ.aS c y) h':=by
 have d':=(R.cell c x aw).1
 have bF:∀b,W.role b≠.cell c->h'.get? b=h.get? b:=λb ag=>hs.2 b (by rintro rfl;exact ag d')
 refine⟨R.nz,R.base,λb o e=>(bF b (bL.ne e)).trans (R.imm b o e),λb o e=>(bF b (bL.ne e)).trans (R.fix b o e),λb e=>?_,λd z aB=>?_,λd aB=>?_⟩
 .by_cases q:b=W.al c
  .subst q;exact bB.some
  .rw[hs.2 b q];exact R.live b e
 .have ee:(if d=c then some y else σ.cells d)=some z:=aB
  by_cases e:d=c
  .subst e
   rw[if_pos rfl] at ee;cases ee
   exact⟨d',bB⟩
  .rw[if_neg e] at ee
   obtain⟨r,k⟩:=R.cell d z ee
   refine⟨r,k.a4 az.eM.refl (Nat.le_refl _) (bF _ (by rw[r];intro q;injection q with q;exact e q)) λp hp=>⟨hp,bF p (bL.ne hp)⟩⟩
 .show(if d=c then some y else σ.cells d)=none
  have:d≠c:=by
   rintro rfl
   rw[R.top d aB] at aw;exact nomatch aw
  rw[if_neg this];exact R.top d aB
theorem bw.B3(R:bw prog w h₁ W σ h)(aw:σ.cells c=some x)(hp:W.role p=.gw c)(hs:Heap.SameBut p h h')(As:∃o,h'.get? p=some o)(bB:CellAt prog w W σ.next h' c (W.al c) y):bw prog w h₁ W (σ.aS c y) h':=by
 have bF:∀b,W.role b≠.gw c->h'.get? b=h.get? b:=λb ag=>hs.2 b (by rintro rfl;exact ag hp)
 refine⟨R.nz,R.base,λb o e=>(bF b (bL.ne e)).trans (R.imm b o e),λb o e=>(bF b (bL.ne e)).trans (R.fix b o e),λb e=>?_,λd z aB=>?_,λd aB=>?_⟩
 .by_cases q:b=p
  .subst q;exact As
  .rw[hs.2 b q];exact R.live b e
 .have ee:(if d=c then some y else σ.cells d)=some z:=aB
  by_cases e:d=c
  .subst e
   rw[if_pos rfl] at ee;cases ee
   exact⟨(R.cell d x aw).1,bB⟩
  .rw[if_neg e] at ee
   obtain⟨r,k⟩:=R.cell d z ee
   refine⟨r,k.a4 az.eM.refl (Nat.le_refl _) (bF _ (bL.ne r)) λp hp=>⟨hp,bF p (by rw[hp];intro q;injection q with q;exact e q)⟩⟩
 .show(if d=c then some y else σ.cells d)=none
  have:d≠c:=by
   rintro rfl
   rw[R.top d aB] at aw;exact nomatch aw
  rw[if_neg this];exact R.top d aB
theorem aM.aak{bR:Type}{b:bR}(r:aM prog w W n v ay)(f:J->Option bR)(P:Value->Prop)(e:f v=some b)
 (ub:∀vs a o items k,W.role a=.imm o->o.cls=.type "list"->o.data=.seq items k->bt prog w W n vs items.toList->f (.bo vs)=some b->P (.ref a))
 (qh:∀c,c<n->f (.ref c)=some b->P (.ref (W.al c)))
 (hg:autoParam (f .none=Option.none) aL._auto_1)
 (gI:autoParam (∀x,f (.bool x)=Option.none) d5._auto_1)
 (hN:autoParam (∀x,f (.int x)=Option.none) d5._auto_1)
 (gL:autoParam (∀x,f (.str x)=Option.none) d5._auto_1)
 (iz:autoParam (∀x,f (.bytes x)=Option.none) d5._auto_1)
 (iB:autoParam (∀x,f (.bk x)=Option.none) d5._auto_1)
 (hc:autoParam (∀x,f (.cw x)=Option.none) d5._auto_1)
 (gK:autoParam (∀x y z,f (.e8 x y z)=Option.none) k3._auto_1)
 (gJ:autoParam (∀x,f (.bS x)=Option.none) d5._auto_1):P ay:=
 aM.casesOn (motive_1:=λv ay _=>f v=some b->P ay) r (λe=>d9 (e.symm.trans hg)) (λx e=>d9 (e.symm.trans (gI x))) (λx _ e=>d9 (e.symm.trans (hN x))) (λx _ e=>d9 (e.symm.trans (gL x))) (λx _ e=>d9 (e.symm.trans (iz x))) (λ_ _ e=>d9 (e.symm.trans (iB _))) (λr c d q=>ub _ _ _ _ _ r c d q) (λ_ _ _ _ e=>d9 (e.symm.trans (hc _))) (λ_ e=>d9 (e.symm.trans (gK _ _ _))) (λh=>qh _ h) (λx e=>d9 (e.symm.trans (gJ x))) e
theorem aM.aaj{bR:Type}{b:bR}(r:aM prog w W n v ay)(f:J->Option bR)(P:Value->Prop)(e:f v=some b)
 (aa8:∀es a o kvs,W.role a=.imm o->(a==sysModules)=false->kn prog w o kvs->d6 prog w W n es kvs->f (.cw es)=some b->P (.ref a))
 (qh:∀c,c<n->f (.ref c)=some b->P (.ref (W.al c)))
 (hg:autoParam (f .none=Option.none) aL._auto_1)
 (gI:autoParam (∀x,f (.bool x)=Option.none) d5._auto_1)
 (hN:autoParam (∀x,f (.int x)=Option.none) d5._auto_1)
 (gL:autoParam (∀x,f (.str x)=Option.none) d5._auto_1)
 (iz:autoParam (∀x,f (.bytes x)=Option.none) d5._auto_1)
 (iB:autoParam (∀x,f (.bk x)=Option.none) d5._auto_1)
 (iA:autoParam (∀x,f (.bo x)=Option.none) d5._auto_1)
 (gK:autoParam (∀x y z,f (.e8 x y z)=Option.none) k3._auto_1)
 (gJ:autoParam (∀x,f (.bS x)=Option.none) d5._auto_1):P ay:=
 aM.casesOn (motive_1:=λv ay _=>f v=some b->P ay) r (λe=>d9 (e.symm.trans hg)) (λx e=>d9 (e.symm.trans (gI x))) (λx _ e=>d9 (e.symm.trans (hN x))) (λx _ e=>d9 (e.symm.trans (gL x))) (λx _ e=>d9 (e.symm.trans (iz x))) (λ_ _ e=>d9 (e.symm.trans (iB _))) (λ_ _ _ _ e=>d9 (e.symm.trans (iA _))) (λr z c q=>aa8 _ _ _ _ r z c q) (λ_ e=>d9 (e.symm.trans (gK _ _ _))) (λh=>qh _ h) (λx e=>d9 (e.symm.trans (gJ x))) e
theorem aM.aal{bR:Type}{b:bR}(r:aM prog w W n v ay)(f:J->Option bR)(P:Value->Prop)(e:f v=some b)
 (qh:∀c,c<n->f (.ref c)=some b->P (.ref (W.al c)))
 (hg:autoParam (f .none=Option.none) aL._auto_1)
 (gI:autoParam (∀x,f (.bool x)=Option.none) d5._auto_1)
 (hN:autoParam (∀x,f (.int x)=Option.none) d5._auto_1)
 (gL:autoParam (∀x,f (.str x)=Option.none) d5._auto_1)
 (iz:autoParam (∀x,f (.bytes x)=Option.none) d5._auto_1)
 (iB:autoParam (∀x,f (.bk x)=Option.none) d5._auto_1)
 (iA:autoParam (∀x,f (.bo x)=Option.none) d5._auto_1)
 (hc:autoParam (∀x,f (.cw x)=Option.none) d5._auto_1)
 (gK:autoParam (∀x y z,f (.e8 x y z)=Option.none) k3._auto_1)
 (gJ:autoParam (∀x,f (.bS x)=Option.none) d5._auto_1):P ay:=
 aM.casesOn (motive_1:=λv ay _=>f v=some b->P ay) r (λe=>d9 (e.symm.trans hg)) (λx e=>d9 (e.symm.trans (gI x))) (λx _ e=>d9 (e.symm.trans (hN x))) (λx _ e=>d9 (e.symm.trans (gL x))) (λx _ e=>d9 (e.symm.trans (iz x))) (λ_ _ e=>d9 (e.symm.trans (iB _))) (λ_ _ _ _ e=>d9 (e.symm.trans (iA _))) (λ_ _ _ _ e=>d9 (e.symm.trans (hc _))) (λ_ e=>d9 (e.symm.trans (gK _ _ _))) (λh=>qh _ h) (λx e=>d9 (e.symm.trans (gJ x))) e
theorem aM.aam{bR:Type}{b:bR}(r:aM prog w W n v ay)(f:J->Option bR)(P:Value->Prop)(e:f v=some b)
 (uc:∀vs a items k,W.role a=.imm (t7 items k)->bt prog w W n vs items.toList->f (.bk vs)=some b->P (.ref a))
 (hg:autoParam (f .none=Option.none) aL._auto_1)
 (gI:autoParam (∀x,f (.bool x)=Option.none) d5._auto_1)
 (hN:autoParam (∀x,f (.int x)=Option.none) d5._auto_1)
 (gL:autoParam (∀x,f (.str x)=Option.none) d5._auto_1)
 (iz:autoParam (∀x,f (.bytes x)=Option.none) d5._auto_1)
 (iA:autoParam (∀x,f (.bo x)=Option.none) d5._auto_1)
 (hc:autoParam (∀x,f (.cw x)=Option.none) d5._auto_1)
 (gK:autoParam (∀x y z,f (.e8 x y z)=Option.none) k3._auto_1)
 (jh:autoParam (∀x,f (.ref x)=Option.none) d5._auto_1)
 (gJ:autoParam (∀x,f (.bS x)=Option.none) d5._auto_1):P ay:=
 aM.casesOn (motive_1:=λv ay _=>f v=some b->P ay) r (λe=>d9 (e.symm.trans hg)) (λx e=>d9 (e.symm.trans (gI x))) (λx _ e=>d9 (e.symm.trans (hN x))) (λx _ e=>d9 (e.symm.trans (gL x))) (λx _ e=>d9 (e.symm.trans (iz x))) (λr q=>uc _ _ _ _ r q) (λ_ _ _ _ e=>d9 (e.symm.trans (iA _))) (λ_ _ _ _ e=>d9 (e.symm.trans (hc _))) (λ_ e=>d9 (e.symm.trans (gK _ _ _))) (λ_ e=>d9 (e.symm.trans (jh _))) (λx e=>d9 (e.symm.trans (gJ x))) e
theorem aM.z0(r:aM prog w W n v ay)(aF:J->Prop)(h:aF v)
 (NU:autoParam (aF .none->False) abB._auto_1)
 (NS:autoParam (∀x,aF (.int x)->False) i1._auto_1)
 (NY:autoParam (∀x,aF (.str x)->False) i1._auto_1)
 (NQ:autoParam (∀x,aF (.bytes x)->False) i1._auto_1)
 (NZ:autoParam (∀x,aF (.bk x)->False) i1._auto_1)
 (NT:autoParam (∀x,aF (.bo x)->False) i1._auto_1)
 (NR:autoParam (∀x,aF (.cw x)->False) i1._auto_1)
 (NX:autoParam (∀x y z,aF (.e8 x y z)->False) rR._auto_1)
 (NW:autoParam (∀x,aF (.ref x)->False) i1._auto_1)
 (NV:autoParam (∀x,aF (.bS x)->False) i1._auto_1):∃b,ay=.bool b/\aF (.bool b):=
 aM.casesOn (motive_1:=λv ay _=>aF v->∃b,ay=.bool b/\aF (.bool b)) r (λh=>(NU h).elim) (λb h=>⟨b,rfl,h⟩) (λ_ _ h=>(NS _ h).elim) (λ_ _ h=>(NY _ h).elim) (λ_ _ h=>(NQ _ h).elim) (λ_ _ h=>(NZ _ h).elim) (λ_ _ _ _ h=>(NT _ h).elim) (λ_ _ _ _ h=>(NR _ h).elim) (λ_ h=>(NX _ _ _ h).elim) (λ_ h=>(NW _ h).elim) (λ_ h=>(NV _ h).elim) h
end
noncomputable def kU:Code->Bool
 |.builtin id _=> !Builtin.Bytes.decodersThatHold.contains id
 |_=>true
noncomputable def yP(l:List (Code×Pos)):Prop:=∀x∈l,kU x.1=true
noncomputable def ug(cY:Ctx):Prop:=kU cY.code=true/\yP cY.below
noncomputable def wpN{α:Type}(M:Model)(A:Around)(t:Sem α)(Q:α->Shared->Prop)(E:Value->Shared->Prop)(s:Shared):Prop:=
 ∀cY p,cY.In A->ug cY->Sem.wp M cY t (λa _ aY=>Q a aY) (λe _ aY=>E e aY) p s
noncomputable def eQ(M:Model)(A:Around)(c:Code)(R:Result->Shared->Prop)(s:Shared):Prop:=
 ∀cY p,cY.code=c->cY.Below A->yP cY.below->wpCode M cY R p s
section
variable{α bR:Type}{M:Model}{A:Around}{E:Value->Shared->Prop}{s:Shared}
theorem wpN.of{t:Sem α}{Q:α->Shared->Prop}(h:wpAny M A t Q E s):wpN M A t Q E s:=λcY p eT _=>h cY p eT
theorem cq{a:α}{Q:α->Shared->Prop}(h:Q a s):wpN M A (pure a) Q E s:=.of (wpAny_pure h)
theorem cy{t:Sem α}{Q ku:α->Shared->Prop}(h:wpN M A t Q E s)(aP:∀a s,Q a s->ku a s)(hE:∀e s,E e s->K8 e s):wpN M A t ku K8 s:=
 λcY p eT aw=>Sem.wp_mono M cY t (λa _ s=>aP a s) (λe _ s=>hE e s) p s (h cY p eT aw)
theorem a5{m:Sem α}{f:α->Sem bR}{Q:bR->Shared->Prop}(h:wpN M A m (λa aY=>wpN M A (f a) Q E aY) E s):wpN M A (m>>=f) Q E s:=λcY p eT aw=>by
 rw[Sem.wp_bind']
 exact Sem.wp_mono M cY m (λa iV aY h'=>h' cY iV eT aw) (λ_ _ _ h'=>h') p s (h cY p eT aw)
theorem dV{m:Sem α}{Q:α->Shared->Prop}(h:wpN M A m Q E s):wpN M A (holding vs m) Q E s:=λcY p eT aw=>by rw[Sem.wp_holding];exact h cY p eT aw
theorem aaY{m:Sem α}{Q:α->Shared->Prop}(h:wpN M A m Q E s):wpN M A (m.keep vs) Q E s:=λcY p eT aw=>by rw[Sem.wp_keep];exact h cY p eT aw
theorem t'(h:wpN M A m Q E s):wpN M A (operate vs m) Q E s:=λcY p eT aw=>by rw[Sem.wp_operate];exact h cY p eT aw
theorem d0(h:Q () s):wpN M A (standAt pos) Q E s:=.of (wpAny_standAt h)
theorem oH{m:Sem α}{Q:α->Shared->Prop}(h:wpN M A m Q (λ_ _=>False) s):wpN M A (m.onRaise k) Q E s:=λcY p eT aw=>by
 rw[Sem.wp_onRaise]
 exact Sem.wp_mono M cY m (λ_ _ _ h'=>h') (λe iV aY h'=>h'.elim) p s (h cY p eT aw)
theorem aaR{m:Sem α}{Q:Except Value α->Shared->Prop}(h:wpN M A m (λa=>Q (.ok a)) (λe=>Q (.error e)) s):wpN M A m.attempt Q E s:=λcY p eT aw=>by
 rw[Sem.wp_attempt];exact h cY p eT aw
theorem ug.enter(h:ug cY)(c:Code)(aB:Option Value)(p:Pos):yP (cY.enter c aB p).below:=λx av=>by
 rcases List.mem_cons.mp (show x∈(cY.code,p)::cY.below from av) with rfl|av
 .exact h.1
 .exact h.2 x av
theorem Kz
 (aw:eQ M (A.mark h) c (λr aY=>match r with|.ok f=>Q f aY|.error e=>E e aY) s)(vU:autoParam (h≠some byPass) abC._auto_1):wpN M A (run c h) Q E s:=
 λcY p eT jw=>by rw[Sem.wp_run];exact aw _ p rfl (eT.enter c h p vU) (jw.enter c h p)
theorem aaZ
 (aw:eQ M A c (λr aY=>match r with|.ok (.ret v)=>Q v aY|.ok _=>False|.error e=>E e aY) s):wpN M A (runValue c) Q E s:=
 λcY p eT jw=>by rw[Sem.wp_runValue];exact aw _ p rfl (eT.enter c none p (by intro x;cases x)) (jw.enter c none p)
theorem xf
 (aw:eQ M A (.call f ⟨pos,kw⟩) (λr aY=>match r with|.ok (.ret v)=>Q v aY|.ok _=>False|.error e=>E e aY) s):wpN M A (call f pos kw) Q E s:=aaZ aw
theorem Ez(h:eQ M A c R s)(gd:∀r s,R r s->dA r s):eQ M A c dA s:=
 λcY p aw eT jw=>wpCode_mono gd (h cY p aw eT jw)
theorem nU(ok:kU c=true)
 (h:wpN M (A.under c) (M.den c) (λcA aY=>match cA with|.done f=>R (.ok f) aY|.again cc=>cc.quiet=true/\eQ M A cc R aY) (λe aY=>R (.error e) aY) s):eQ M A c R s:=λcY p aw eT jw=>by
 rw[wpCode_iff_wp,aw]
 refine Sem.wp_mono M cY _ (λcA iV aY h'=>?_) (λ_ _ _ h'=>h') p s (h cY p (aw▸eT.in) ⟨by rw[aw];exact ok,jw⟩)
 induction cA with
 |done f=>exact h'
 |again cc=>exact⟨h'.1,h'.2 (cY.goto cc) iV rfl (eT.goto cc) jw⟩
theorem yR(ok:kU c=true)(bZ:c.quiet=true)(aO:Nat->Shared->Prop)
 (turn:∀n s,aO n s->wpN M (A.under c) (M.den c)
   (λcA aY=>match cA with|.done f=>R (.ok f) aY|.again cc=>(cc=c/\∃m,m<n/\aO m aY)\/(cc.quiet=true/\eQ M A cc R aY)) (λe aY=>R (.error e) aY) s)
 (n:Nat)(h:aO n s):eQ M A c R s:=by
 induction n using Nat.strongRecOn generalizing s with
 |ind n aX=>
  refine nU ok (cy (turn n s h) (λcA aY hf=>?_) λ_ _ h'=>h')
  induction cA with
  |done f=>exact hf
  |again cc=>
   rcases hf with⟨rfl,m,hm,h5⟩|hf
   .exact⟨bZ,aX m hm h5⟩
   .exact hf
end
section
variable{M:Model}{A:Around}{E:Value->Shared->Prop}{s:Shared}{env:Env}
theorem aaE{l op r pos}
 (h:wpN M A (eval l env) (λa bh=>wpN M A (eval r env) (λb cS=>wpN M A (binaryOp op a b) Q E cS) E bh) E s):wpN M A (eval (.BinOp l op r pos) env) Q E s:=by
 rw[eval_BinOp]
 exact a5 (cy h (λa bh h₁=>a5 (dV (cy h₁ (λb cS eh=>a5 (d0 (t' eh))) λ_ _ x=>x))) λ_ _ x=>x)
theorem aaG{l op r pos}
 (h:wpN M A (eval l env) (λa bh=>wpN M A (eval r env) (λb cS=>wpN M A (compareOp op a b) Q E cS) E bh) E s)(hm:behindInMarks op r=false):wpN M A (eval (.Compare l [op] [r] pos) env) Q E s:=by
 rw[eval_Compare1,markedBehindIn_of_false hm]
 exact a5 (cy h (λa bh h₁=>a5 (dV (cy h₁ (λb cS eh=>a5 (d0 (t' eh))) λ_ _ x=>x))) λ_ _ x=>x)
theorem aaV{l op r pos hn}
 (h:wpN M A (eval l env) (λa bh=>wpN M A (eval r env) (λb cS=>wpN M A (compareOp op a b) (λc fb=>wpN M A (truthy c) Q E fb) E cS) E bh) E s)
 (hm:behindInMarks op r=false):wpN M A (isTrue (.Compare l [op] [r] pos) env hn) Q E s:=by
 rw[isTrue_Compare1,markedBehindIn_of_false hm]
 exact a5 (cy h (λa bh h₁=>a5 (dV (cy h₁ (λb cS eh=>a5 (d0 (a5 (t' (cy eh (λc fb gr=>dV gr) λ_ _ x=>x))))) λ_ _ x=>x))) λ_ _ x=>x)
theorem aaX(h:wpN M A hn (λv bh=>wpN M A (truthy v) Q E bh) E s)
 (bV:isTrue e env hn=(do let v<-hn;standAt e.pos;holding [v] (truthy v))):wpN M A (isTrue e env hn) Q E s:=by
 rw[bV]
 exact a5 (cy h (λv bh h₁=>a5 (d0 (dV h₁))) λ_ _ x=>x)
theorem aaW(h:wpN M A (isTrue x env (eval x env)) (λb bh=>Q (!b) bh) E s):wpN M A (isTrue (.UnaryOp .Not x pos) env hn) Q E s:=by
 rw[arm_isTrue_UnaryOp]
 exact a5 (cy h (λb bh h₁=>cq h₁) λ_ _ x=>x)
theorem aaU(h:wpN M A (allTrue op values env) Q E s):wpN M A (isTrue (.BoolOp op values pos) env hn) Q E s:=by
 rw[arm_isTrue_BoolOp];exact h
theorem aaP
 (h:wpN M A (isTrue x env (eval x env)) (λb bh=>if b=true then wpN M A (allTrue .And rest env) Q E bh else Q false bh) E s):wpN M A (allTrue .And (x::rest) env) Q E s:=by
 show wpN M A (do match BoolOp.And,<-isTrue x env (eval x env) with|.And,false=>pure false|.Or,true=>pure true|_,_=>allTrue .And rest env) Q E s
 refine a5 (cy h (λb bh h₁=>?_) λ_ _ x=>x)
 cases b
 .exact cq h₁
 .exact h₁
theorem aaQ
 (h:wpN M A (isTrue x env (eval x env)) (λb bh=>if b=true then Q true bh else wpN M A (allTrue .Or rest env) Q E bh) E s):wpN M A (allTrue .Or (x::rest) env) Q E s:=by
 show wpN M A (do match BoolOp.Or,<-isTrue x env (eval x env) with|.And,false=>pure false|.Or,true=>pure true|_,_=>allTrue .Or rest env) Q E s
 refine a5 (cy h (λb bh h₁=>?_) λ_ _ x=>x)
 cases b
 .exact h₁
 .exact cq h₁
theorem aaJ
 (h:wpN M A (isTrue test env (eval test env)) (λb bh=>if b=true then wpN M A (eval body env) Q E bh else wpN M A (eval ie env) Q E bh) E s):wpN M A (eval (.IfExp test body ie pos) env) Q E s:=by
 rw[arm_eval_IfExp]
 refine a5 (cy h (λb bh h₁=>?_) λ_ _ x=>x)
 cases b<;>exact h₁
theorem aaN(h:wpN M A (eval x env) (λv bh=>wpN M A (unaryOp op v) Q E bh) E s):wpN M A (eval (.UnaryOp op x pos) env) Q E s:=by
 rw[arm_eval_UnaryOp]
 exact a5 (cy h (λv bh h₁=>a5 (d0 (dV h₁))) λ_ _ x=>x)
theorem Cf
 (h:wpN M A x (λv bh=>wpN M A (spliced rest) (λvs cS=>Q (v::vs) cS) E bh) E s):wpN M A (spliced ((false,x)::rest)) Q E s:=by
 rw[spliced]
 refine a5 (cy h (λv bh h₁=>?_) λ_ _ x=>x)
 rw[if_neg Bool.false_ne_true]
 exact a5 (cq (a5 (dV (cy h₁ (λvs cS eh=>cq eh) λ_ _ x=>x))))
theorem aaM
 (h:wpN M A (spliced (backTo pos (starEach sC env))) (λvs bh=>wpN M A (newTuple vs) Q E bh) E s):wpN M A (eval (.Tuple sC k pos) env) Q E s:=by
 show wpN M A (do standAt pos;newTuple (<-spliced (backTo pos (starEach sC env)))) Q E s
 exact a5 (d0 (a5 h))
theorem Ku
 (h:wpN M A (spliced (backTo pos (starEach sC env))) (λvs bh=>wpN M A (newList vs) Q E bh) E s):wpN M A (eval (.List sC pos) env) Q E s:=by
 show wpN M A (do standAt pos;newList (<-spliced (backTo pos (starEach sC env)))) Q E s
 exact a5 (d0 (a5 h))
theorem Kv{value slice pos}
 (h:wpN M A (eval value env) (λo bh=>wpN M A (eval slice env) (λi cS=>wpN M A (subscriptTail value slice o i) Q E cS) E bh) E s):wpN M A (eval (.Subscript value slice pos) env) Q E s:=by
 rw[eval_Subscript]
 exact a5 (cy h (λo bh h₁=>a5 (dV (cy h₁ (λi cS eh=>a5 (d0 eh)) λ_ _ x=>x))) λ_ _ x=>x)
theorem rO
 (h:wpN M A (spliced ((false,x)::rest)) (λvs aY=>Q ⟨vs,[]⟩ aY) E s):wpN M A (evalArgs f true ((false,x)::rest) []) Q E s:=by
 unfold evalArgs
 show wpN M A (spliced ((false,x)::rest)>>=_) Q E s
 refine a5 (cy h (λvs aY h'=>?_) λ_ _ x=>x)
 refine dV ?_
 exact a5 (cq (a5 (cq (cq h'))))
theorem Kx(h:Q ⟨[],[]⟩ s):wpN M A (evalArgs f true [] []) Q E s:=.of (PySem.evalArgs_none h)
theorem Cg(h:wpN M A t Q E s):wpN M A (t>>=λr=>holding [r] point>>=λ_=>pure r) Q E s:=
 a5 (cy h (λr cS aI=>a5 (dV (.of (wpAny_point (cq aI))))) λ_ _ x=>x)
theorem rN(hk:keeperOf f=pure .machine)(pF:args.any (·.1)=false)
 (h:wpN M A (evalArgs f true args []) (λa bh=>wpN M A (call f (first++a.pos) a.kw) Q E bh) E s):wpN M A (callWith pos f first args []) Q E s:=by
 unfold callWith
 refine a5 (dV (cy h (λa bh h₁=>a5 (d0 ?_)) λ_ _ x=>x))
 rw[pF,hk]
 refine a5 (cq ?_)
 exact Cg h₁
theorem Kw(pF:args.any (·.1)=false)
 (h:wpN M A (evalArgs (.ref a) true args []) (λx bh=>(bh.heap.get? a=some o/\o.data=.func fd)/\wpN M A (call (.ref a) (first++x.pos) x.kw) Q E bh) E s):wpN M A (callWith pos (.ref a) first args []) Q E s:=by
 unfold callWith
 refine a5 (dV (cy h (λx bh h₁=>a5 (d0 ?_)) λ_ _ x=>x))
 rw[pF]
 refine a5 (m:=keeperOf (.ref a)) ?_
 unfold keeperOf
 refine a5 (.of (wpAny_load h₁.1.1 ?_))
 rw[h₁.1.2]
 refine cq ?_
 show wpN M A (ite (args.length+2*0>30) _ _) Q E _
 by_cases q:args.length+2*0>30
 .rw[if_pos q];exact Cg h₁.2
 .rw[if_neg q];exact Cg (by unfold callMarked;exact aaY h₁.2)
end
noncomputable abbrev gv:Value->Shared->Prop:=λ_ _=>False
section
variable{M:Model}{A:Around}{E:Value->Shared->Prop}{s:Shared}{env:Env}
theorem aaT{st rest}
 (h:wpN M A (exec st env) (λf aY=>match f with|.next=>wpN M A (execs rest env) Q E aY|f=>Q f aY) E s):wpN M A (execs (st::rest) env) Q E s:=λcY p eT aw=>by
 rw[execs_cons,Sem.wp_bind']
 refine Sem.wp_mono M cY _ (λf iV aY h'=>?_) (λ_ _ _ h'=>h') _ _ (h cY p eT aw)
 cases f<;>first|exact h' cY iV eT aw|exact h'
theorem aaK{e pos}(h:wpN M A (eval e env) (λv=>Q (.ret v)) E s):wpN M A (exec (.Return (some e) pos) env) Q E s:=by
 rw[exec_Return_some]
 exact a5 (d0 (a5 (cy h (λv aY h'=>cq h') λ_ _ x=>x)))
theorem aaI{test body ie pos}
 (h:wpN M A (isTrue test env (eval test env)) (λb cS=>if b=true then wpN M A (execs body env) Q E cS else wpN M A (execs ie env) Q E cS) E s):wpN M A (exec (.If test body ie pos) env) Q E s:=by
 rw[exec_If]
 refine a5 (d0 (a5 (cy h (λb cS eh=>?_) λ_ _ x=>x)))
 cases b<;>exact eh
theorem aaD{x iE op value pos}
 (h:wpN M A (loadName env x) (λold bh=>wpN M A (eval value env) (λv cS=>wpN M A (inplaceOp op old v) (λr fb=>wpN M A (bindName env x r) (λ_=>Q .next) E fb) E cS) E bh) E s):
 wpN M A (exec (.AugAssign (.Name x iE) op value pos) env) Q E s:=by
 rw[exec_AugAssign_Name]
 exact a5 (d0 (a5 (cy h (λold bh h₁=>a5 (dV (cy h₁ (λv cS eh=>a5 (d0 (a5 (t' (cy eh (λr fb gr=>
  a5 (d0 (a5 (cy gr (λ_ oB pL=>cq pL) λ_ _ x=>x)))) λ_ _ x=>x))))) λ_ _ x=>x))) λ_ _ x=>x)))
theorem aaB{x iE value pos}
 (h:wpN M A (eval value env) (λv bh=>wpN M A (bindName env x v) (λ_=>Q .next) E bh) E s)
 (hs:autoParam (swapsWith value (some (.Name x iE)) pos.line env=pure false) aL._auto_1):wpN M A (exec (.Assign [.Name x iE] value pos) env) Q E s:=by
 rw[exec_Assign_Name env x iE value pos hs]
 exact a5 (d0 (a5 (cy h (λv bh h₁=>a5 (d0 (a5 (cy h₁ (λ_ cS eh=>cq eh) λ_ _ x=>x)))) λ_ _ x=>x)))
theorem aaC
 (h:wpN M A (eval value env) (λv bh=>wpN M A (assignAll v ((assignEach w9 env).map (·.2))) (λ_=>Q .next) E bh) E s)
 (hs:swapsWithSole w9 value pos.line env=pure false)(hw:swappedStores w9 value env=pure none):wpN M A (exec (.Assign w9 value pos) env) Q E s:=by
 rw[exec_Assign_arm]
 refine a5 (d0 ?_)
 rw[hs]
 refine a5 (cq ?_)
 rw[if_neg (by decide)]
 refine a5 (cy h (λv bh h₁=>?_) λ_ _ x=>x)
 rw[hw]
 refine a5 (cq ?_)
 show wpN M A (do assignAll v ((assignEach w9 env).map (·.2));pure .next) Q E bh
 exact a5 (cy h₁ (λ_ _ x=>cq x) λ_ _ x=>x)
theorem KA
 (aw:eQ M A c (λr aY=>match r with|.ok f=>Q f aY|.error _=>False) s):wpN M A (runOwn c env) Q E s:=by
 unfold runOwn
 refine oH (Kz (h:=none) ?_)
 exact Ez aw λr aY h=>by cases r<;>exact h
theorem aaO{test body ie pos}
 (h:eQ M A (.whileLoop test body ie env) (λr aY=>match r with|.ok f=>Q f aY|.error _=>False) s):wpN M A (exec (.While test body ie pos) env) Q E s:=by
 rw[exec_While];exact a5 (d0 (KA h))
theorem Kt{target iter body ie pos}
 (h:wpN M A (eval iter env) (λx bh=>wpN M A (pyIter x) (λit cS=>eQ M A (.forLoop target it body ie env) (λr aY=>match r with|.ok f=>Q f aY|.error _=>False) cS) E bh) E s)
 (hs:∀x,foldedSetIterable iter env x=pure x):wpN M A (exec (.For target iter body ie pos) env) Q E s:=by
 rw[exec_For]
 refine a5 (d0 (a5 (cy h (λx bh h₁=>?_) λ_ _ h'=>h')))
 rw[hs x]
 exact a5 (cq (a5 (d0 (a5 (dV (cy h₁ (λit cS eh=>KA eh) λ_ _ h'=>h'))))))
end
section
variable{prog:Program}{w:World}{A:Around}{E:Value->Shared->Prop}{s:Shared}{R:Result->Shared->Prop}
theorem NG{test body ie env}(aO:Nat->Shared->Prop)
 (turn:∀n s,aO n s->wpN (model prog w) A (isTrue test env (eval test env)) (λb cS=>
   if b=true then wpN (model prog w) A (execs body env) (λf fb=>match f with
       |.next|.cont=>∃m,m<n/\aO m fb
       |.brk=>R (.ok .next) fb
       |.ret v=>R (.ok (.ret v)) fb) gv cS
   else wpN (model prog w) A (execs ie env) (λf fb=>R (.ok f) fb) gv cS) gv s)
 (n:Nat)(h:aO n s):eQ (model prog w) A (.whileLoop test body ie env) R s:=by
 refine yR rfl rfl aO (λn s h5=>?_) n h
 show wpN _ A ((whileTurn test body ie env).onRaise (λx=>do noteFrame x env;theTreesLotGoes x)) _ _ s
 refine oH ?_
 unfold whileTurn
 refine a5 (cy (turn n s h5) (λb cS eh=>?_) λ_ _ h'=>h')
 induction b with
 |true=>
  refine a5 (cy eh (λf fb gr=>?_) λ_ _ h'=>h')
  induction f with
  |next=>exact cq (.inl ⟨rfl,gr⟩)
  |cont=>exact cq (.inl ⟨rfl,gr⟩)
  |brk=>exact cq gr
  |ret v=>exact cq gr
 |false=>
  exact a5 (cy eh (λf fb gr=>cq gr) λ_ _ h'=>h')
theorem Nz(h:wpN (model prog w) A (execs stmts env) (λf aY=>R (.ok f) aY) gv s):eQ (model prog w) A (.block stmts env) R s:=by
 refine nU rfl ?_
 show wpN _ _ (do return Fin.done (<-(execs stmts env).onRaise (λx=>do noteFrame x env;theTreesLotGoes x))) _ _ s
 exact a5 (oH (cy h (λf aY h'=>cq h') λ_ _ h'=>h'))
theorem Ex{target it body ie env}(aO:Nat->Shared->Prop)
 (turn:∀n s,aO n s->wpN (model prog w) A (pyNext it) (λr bh=>match r with
   |none=>wpN (model prog w) A (execs ie env) (λf fb=>R (.ok f) fb) gv bh
   |some v=>wpN (model prog w) A (letOwnedTupleGo target it v) (λ_ t2=>
     wpN (model prog w) A (assign target env v) (λ_ cS=>wpN (model prog w) A (execs body env) (λf fb=>match f with
      |.next|.cont=>∃m,m<n/\aO m fb
      |.brk=>R (.ok .next) fb
      |.ret v=>R (.ok (.ret v)) fb) gv cS) gv t2) gv bh) gv s)
 (n:Nat)(h:aO n s):eQ (model prog w) A (.forLoop target it body ie env) R s:=by
 refine yR rfl rfl aO (λn s h5=>?_) n h
 show wpN _ A ((forTurn target it body ie env).onRaise (λx=>do noteFrame x env;theTreesLotGoes x)) _ _ s
 refine oH ?_
 unfold forTurn
 refine a5 (d0 (a5 (oH (cy (turn n s h5) (λr bh h₁=>?_) λ_ _ h'=>h'))))
 induction r with
 |none=>exact cq (.inr ⟨rfl,Nz h₁⟩)
 |some v=>
  refine a5 (cy h₁ (λ_ t2 AH=>?_) λ_ _ h'=>h')
  refine a5 (cy AH (λ_ cS eh=>a5 (cy eh (λf fb gr=>?_) λ_ _ h'=>h')) λ_ _ h'=>h')
  induction f with
  |next=>exact cq (.inl ⟨rfl,gr⟩)
  |cont=>exact cq (.inl ⟨rfl,gr⟩)
  |brk=>exact cq gr
  |ret v=>exact cq gr
theorem Ey{body env}(h:wpN (model prog w) (A.deeper env) (execs body env) (λf aY=>R (.ok (.ret (match f with|.ret v=>v|_=>.none))) aY) gv s):eQ (model prog w) A (.func body env) R s:=by
 refine nU rfl ?_
 show wpN _ (A.deeper env) (do point;match<-(execs body env).onRaise (leaving env) with|.ret v=>ret v|_=>ret .none) _ _ s
 refine a5 (.of (wpAny_point ?_))
 refine a5 (oH (cy h (λf aY h'=>?_) λ_ _ h'=>h'))
 cases f<;>exact cq h'
theorem Ew(pH:A.depth<recursionLimit)(aH:s.heap.get? a=some o)
 (ee:o.data=.func fd)(lx:fd.scope.isCoroutine=false)(ly:fd.scope.isGenerator=false)(lr:fd.body=.stmts body)(jb:s.heap.CodeRec fd.code fd.qualname)
 (h:wpN (model prog w) A.in1 (bindArgs fd args) (λbinds bh=>
   wpN (model prog w) A.in1 (newFunctionEnv fd.scope fd.globals fd.closure binds (fd.qualname++".<locals>.") (some a) fd.code none fd.builtins)
    (λenv cS=>cS.heap.NoLimit/\eQ (model prog w) A (.func body env) R cS) gv bh) gv s):
 eQ (model prog w) A (.call (.ref a) args) R s:=by
 refine nU rfl ?_
 show wpN _ A.in1 (callAny (.ref a) args) _ _ s
 unfold callAny
 refine a5 (.of (wpAny_load aH ?_))
 obtain⟨c,oc,vs,ab2,aw,Ap,sR,bZ⟩:=jb
 rw[ee]
 show wpN _ A.in1 (callFunction _ _ _) _ _ _
 unfold callFunction
 rw[lx,ly,lr,aw]
 rw[aw] at h
 refine a5 (m:=field (.ref c) 1) (.of (wpAny_field Ap sR bZ ?_))
 refine a5 (cq ?_)
 exact a5 (cy h (λbinds bh h₁=>a5 (cy h₁ (λenv cS eh=>a5 (.of (wpAny_enterFrame eh.1 pH
  (cq (And.intro rfl eh.2))))) λ_ _ h'=>h'.elim)) λ_ _ h'=>h'.elim)
theorem NC
 (pH:A.depth<recursionLimit)(aH:s.heap.get? a=some o)(z7:o.data=.func fd)(sV:s.heap.NoLimit)(jb:s.heap.CodeRec fd.code fd.qualname)
 (lr:fd.body=.stmts body)(mX:bindArgs fd args=pure binds)
 (lu:∀x∈fd.scope.names,x.2≠.cell)(m3:∀x∈binds,fd.scope.names.lookup x.1=some .local)
 (h:∀h₀,h₀.Ns s.heap.objs.size (λx=>binds.reverse.lookup x)->(∀b o,s.heap.get? b=some o->h₀.get? b=some o)->
   wpN (model prog w) (A.deeper (callEnv fd s.heap.objs.size a)) (execs body (callEnv fd s.heap.objs.size a)) (λf aY=>R (.ok (.ret (match f with|.ret v=>v|_=>.none))) aY) gv
    {s with heap:=h₀,toks:=s.toks+binds.length})
 (lx:fd.scope.isCoroutine=false)(ly:fd.scope.isGenerator=false)(hk:fd.scope.kind=.function):eQ (model prog w) A (.call (.ref a) args) R s:=by
 refine Ew pH aH z7 lx ly lr jb ?_
 rw[mX]
 refine cq (.of (wpAny_newFunctionEnv lu m3 (λh₀ Ry G1=>⟨sV.fresh _ G1,Ey (h h₀ Ry λb o e=>?_)⟩) hk))
 exact G1.extBut b o (Nat.ne_of_lt (Heap.lt_size e)) (Heap.get?_push_of_some _ e)
theorem NB
 (pH:A.depth<recursionLimit)(aH:s.heap.get? a=some o)(z7:o.data=.func fd)(sV:s.heap.NoLimit)(jb:s.heap.CodeRec fd.code fd.qualname)
 (lr:fd.body=.stmts body)(mX:bindArgs fd ⟨oF,[]⟩=pure binds)(pv:fd.closure=[])
 (iu:∀x∈binds,fd.scope.names.lookup x.1=some .local\/(fd.scope.names.lookup x.1=some .cell/\((cellsFrom (s.heap.objs.size+1) fd.scope.names []).lookup x.1).isSome=true))
 (h:∀bh,InCallC s (callEnvC fd s.heap.objs.size a).locals (bindL (callEnvC fd s.heap.objs.size a).kindOf binds λ_=>none) (callEnvC fd s.heap.objs.size a).cells
    (bindC (callEnvC fd s.heap.objs.size a).kindOf binds λ_=>none) bh->
   wpN (model prog w) (A.deeper (callEnvC fd s.heap.objs.size a)) (execs body (callEnvC fd s.heap.objs.size a)) (λf aY=>R (.ok (.ret (match f with|.ret v=>v|_=>.none))) aY) gv bh)
 (lx:fd.scope.isCoroutine=false)(ly:fd.scope.isGenerator=false)(hk:fd.scope.kind=.function):eQ (model prog w) A (.call (.ref a) ⟨oF,[]⟩) R s:=by
 refine Ew pH aH z7 lx ly lr jb ?_
 rw[mX,pv]
 refine cq (.of (wpAny_newFunctionEnv_cells hk iu λenv bV aY x=>?_))
 subst bV
 exact⟨sV.keeps x.toInCall.keep,Ey (h aY x)⟩
theorem NF{dX target iter gs rest scope pos it acc env}
 (ah:eQ (model prog w) A (.compLoop (.ListComp dX (⟨target,iter,gs,0⟩::rest) scope pos) 0 it acc env) R s)
 (h:wpN (model prog w) A (pyIter it) (λHc aY=>eQ (model prog w) A (.compLoop (.ListComp dX (⟨target,iter,gs,0⟩::rest) scope pos) 0 Hc acc env) R aY) gv s):
 eQ (model prog w) A (.compStart (.ListComp dX (⟨target,iter,gs,0⟩::rest) scope pos) 0 it acc env) R s:=by
 refine nU rfl ?_
 show wpN _ _ ((compStart (.ListComp dX (⟨target,iter,gs,0⟩::rest) scope pos) 0 it acc env).onRaise (λx=>do noteFrame x env;standAt theWindowsPlace)) _ _ s
 refine oH ?_
 unfold compStart
 show wpN _ _ (ask>>=_) _ _ s
 refine a5 (.of (wpAny_askSetting ?_))
 split
 .first
   |exact a5 (cq (cq (And.intro rfl ah)))
   |exact cq (And.intro rfl ah)
 .refine a5 (.of (wpAny_rule ?_))
  show wpN _ _ (standAt iter.pos>>=_) _ _ s
  exact a5 (d0 (a5 (cy h (λHc aY h'=>cq (And.intro rfl h')) λ_ _ x=>x)))
end
section
variable{prog:Program}{w:World}{A:Around}{E:Value->Shared->Prop}{s:Shared}{env:Env}
theorem Ks
 (mW:attributeBase o name env (eval o env)=eval o env)
 (pB:((backTo pos (starEach args env)).all (λx=> !x.1)&&(backToKw pos (keywordEach [] env)).all (λx=>x.1.isSome)
   &&decide (args.length+([]:List Keyword).length+(if([]:List Keyword).isEmpty then 0 else 1)<30))=true)
 (m2:(i6.endLine==pos.line)=true)(AD:backTo pos (starEach args env)=B9)
 (h:wpN (model prog w) A (eval o env) (λiD bh=>∃T id,PlainAttrs T/\PySem.Slot T name id/\typeOf (.builtin id)=pure (.type "method_descriptor")/\bh.TypeIs iD T/\(∀a,iD=.ref a->∃ob,bh.heap.get? a=some ob/\ob.dict=none)/\
   wpN (model prog w) A (callWith pos (.builtin id) [iD] B9 []) Q E bh) E s):
 wpN (model prog w) A (eval (.Call (.Attribute o name i6) args [] pos) env) Q E s:=by
 subst AD
 rw[arm_eval_Call,mW]
 refine a5 (cy h (λiD bh h₁=>?_) λ_ _ e=>e)
 obtain⟨T,id,BH,slot,AE,hT,aB,aw⟩:=h₁
 refine a5 (d0 ?_)
 have Af:methodCallForm (args.length+([]:List Keyword).length) (backTo pos (starEach args env)) (backToKw pos (keywordEach [] env))=true:=pB
 have Au:methodCallPos true o env i6 pos=pure pos:=by unfold methodCallPos;simp[m2]
 unfold methodCall
 rw[Af]
 refine a5 (dV (.of (getMethod_builtin hT BH slot AE aB ?_)))
 dsimp only
 rw[Au]
 exact a5 (cq aw)
noncomputable def vh(M:Model)(A:Around)(use:Option (Value->Sem Unit))(Q:Value->Shared->Prop)(acc:Value)(aA:Addr)(r:Result)(aY:Shared):Prop:=
 match r,use with
 |.ok _,none=>∃m,aY.heap.Ns aA m/\∀h',Heap.SameBut aA aY.heap h'->Q acc {aY with heap:=h'}
 |.ok _,some u=>wpN M A (u acc) (λ_ nx=>∃m,nx.heap.Ns aA m/\∀h',Heap.SameBut aA nx.heap h'->Q .none {nx with heap:=h'}) gv aY
 |.error _,_=>False
theorem Ce
 (jw:clausesOf e=g::abO)(hs:∀x,foldedSetIterable g.iter env x=pure x)(pw:closureFor scope env=pure el)
 (iu:scope.kind=.function)(lA:∀x∈scope.names,x.2=.local->scope.names.lookup x.1=some .local)
 (h:wpN M A first (λx bh=>wpN M A (pyIter x) (λit cS=>wpN M A Tz (λacc fb=>
   wpN M A (newFunctionEnv scope env.globals el [] env.qual none .none (some env)) (λcenv oB=>
    eQ M A (.compStart e 0 it acc {cenv with scope:=relabel scope env}) (vh M A use Q acc cenv.locals) oB) E fb) E cS) E bh) E s):
 wpN M A (comprehension e scope env pos Tz false first use) Q E s:=by
 unfold comprehension
 rw[pw,jw]
 refine a5 (cy h (λx bh h₁=>a5 (d0 ?_)) λ_ _ h'=>h')
 dsimp only
 rw[hs x]
 refine a5 (cq (a5 (dV (cy h₁ (λit cS eh=>?_) λ_ _ h'=>h'))))
 have ZV:∀{α:Type} {c:Prop} [Decidable c] {pos:Pos} {k:PUnit->Sem α} {Q:α->Shared->Prop} {s:Shared},wpN M A (k ()) Q E s->wpN M A (if c then(standAt pos>>=k) else k ()) Q E s:=λh=>by
  split
  .exact a5 (d0 h)
  .exact h
 refine ZV (a5 (cy eh (λacc fb gr=>a5 (cq (a5 (cy gr (λcenv oB pL=>?_) λ_ _ h'=>h')))) λ_ _ h'=>h'))
 have a0:∀x∈(scope.names.filter λx=>(x.2==.local||x.2==.cell)&&x.1!=(".0":Str)).reverse,x.2=.local->
  Env.kindOf {cenv with scope:=relabel scope env} x.1=some .local:=λx av aG=>lookup_relabel_local (lA x (List.mem_filter.mp (List.mem_reverse.mp av)).1 aG)
 have ka:∀x∈(scope.names.filter λx=>(x.2==.local||x.2==.cell)&&x.1!=(".0":Str)).reverse.drop 1++(scope.names.filter λx=>(x.2==.local||x.2==.cell)&&x.1!=(".0":Str)).reverse.take 1,
  x.2=.local->Env.kindOf {cenv with scope:=relabel scope env} x.1=some .local:=λx av aG=>by
  rcases List.mem_append.mp av with h1|h1
  .exact a0 x (List.mem_of_mem_drop h1) aG
  .exact a0 x (List.mem_of_mem_take h1) aG
 refine dV (a5 (aaR (dV (Kz (Ez pL λr aY aI=>?_)))))
 induction r with
 |ok f=>
  induction use with
  |none=>
   obtain⟨m,aV,aI⟩:=aI
   exact a5 (dV (.of (wpAny_comp_letGo (cenv:={cenv with scope:=relabel scope env}) iu _ aY m a0 aV λh' Tf _ h7=>cq (aI h' h7))))
  |some u=>
   refine a5 (.of (wpAny_rule (a5 (dV (cy aI (λ_ nx Av=>?_) λ_ _ h'=>h'.elim)))))
   obtain⟨m,aV,Av⟩:=Av
   exact a5 (.of (wpAny_comp_letGo (cenv:={cenv with scope:=relabel scope env}) iu _ nx m ka aV λh' Tf _ h7=>cq (Av h' h7)))
 |error x=>exact aI.elim
end
theorem h8{α:Type}{Q:α->Shared->Prop}{d:Decidable p}{a b:Sem α}(h:¬p)(k:wpAny M A b Q E s):wpAny M A (if p then a else b) Q E s:=(if_neg h:(if p then a else b)=b).symm▸k
theorem iv{α:Type}{Q:α->Shared->Prop}{d:Decidable p}{a b:Sem α}(h:p)(k:wpAny M A a Q E s):wpAny M A (if p then a else b) Q E s:=(if_pos h:(if p then a else b)=a).symm▸k
theorem kc{α:Type}{Q:α->Shared->Prop}{d:Decidable p}{a b:Sem α}(h:¬p)(k:wpN M A b Q E s):wpN M A (if p then a else b) Q E s:=(if_neg h:(if p then a else b)=b).symm▸k
theorem q4{α:Type}{Q:α->Shared->Prop}{d:Decidable p}{a b:Sem α}(h:p)(k:wpN M A a Q E s):wpN M A (if p then a else b) Q E s:=(if_pos h:(if p then a else b)=a).symm▸k
section
noncomputable abbrev Loc:=List (Option J)
noncomputable abbrev cW:=Loc->St->Option (J×St)
noncomputable abbrev gN:=Loc->St->Option (Bool×St)
inductive fy where
 |next|brk|cont
 |ret (v:J)
noncomputable abbrev cf:=Loc->St->Option (fy×Loc×St)
noncomputable abbrev bX:=List J->St->Option (J×St)
structure eC (A:Around) (k:Nat):Prop where
 h:A.handled=.none
 d:A.depth+8*k+8<1000
 u:A.units+64*k+200<9900
 g:A.guards=some []
theorem eC.Hw(R:eC A k):A.depth<recursionLimit:=by have:=R.d;show A.depth<1000;exact aC.WL this
noncomputable def Slot(env:Env)(h:Heap)(m:Str->Option Value)(x:Str)(ay:Value):Prop:=
 (env.kindOf x=some .local/\m x=some ay)\/((env.kindOf x=some .cell\/env.kindOf x=some .free)/\∃c,env.cells.lookup x=some c/\h.IsCell c (some ay))
variable(prog:Program)(w:World)(h₁:Heap)
structure bC (own:Bool) (env:Env) (ns:List Str) (W:az) (U:Loc) (σ:St) (h:Heap):Prop where
 bE:bw prog w h₁ W σ h
 l:W.role env.locals=.U
 cells:∀x c,env.cells.lookup x=some c->(own=true/\W.role c=.U/\c≠env.locals)\/(own=false/\∃o,W.role c=.fix o)
 apart:∀x y c,env.cells.lookup x=some c->env.cells.lookup y=some c->x=y
 mI:∀x c,env.cells.lookup x=some c->∃kZ,h.IsCell c kZ
 U:∃m,h.Ns env.locals m/\∀(i:Nat) v,U[i]? =some (some v)->∃x ay,ns[i]? =some x/\aM prog w W σ.next v ay/\Slot env h m x ay
noncomputable def OpOk(k:Nat)(t:List Value->Sem Value)(F:bX):Prop:=
 ∀(A:Around) (W:az) (σ:St) args v aZ ej (s:Shared) (Q E:Value->Shared->Prop),eC A k->F args σ=some (v,aZ)->bw prog w h₁ W σ s.heap->bt prog w W σ.next args ej->
  (∀W' ay h' cI,W.le σ.next W'->σ.next<=aZ.next->bw prog w h₁ W' aZ h'->aM prog w W' aZ.next v ay->Q ay {s with heap:=h',toks:=cI})->
  wpN (model prog w) A (t ej) Q E s
noncomputable def TOk{α bR:Type}(hU:az->Nat->bR->α->Prop)(own:Bool)(env:Env)(ns:List Str)(k:Nat)(t:Sem α)(D:Loc->St->Option (bR×St)):Prop:=
 ∀(A:Around) (W:az) (U:Loc) (σ:St) v aZ (s:Shared) (Q:α->Shared->Prop) (E:Value->Shared->Prop),eC A k->D U σ=some (v,aZ)->bC prog w h₁ own env ns W U σ s.heap->
  (∀W' ay h' cI,W.le σ.next W'->σ.next<=aZ.next->bC prog w h₁ own env ns W' U aZ h'->hU W' aZ.next v ay->Q ay {s with heap:=h',toks:=cI})->
  wpN (model prog w) A t Q E s
noncomputable abbrev bj:=@TOk prog w h₁ Value J (aM prog w)
noncomputable abbrev BOk:=@TOk prog w h₁ Bool Bool λ_ _ b a=>b=a
noncomputable abbrev k5:=@TOk prog w h₁ (List Value) (List J) (bt prog w)
noncomputable def kr(W:az)(n:Nat):fy->Flow->Prop
 |.next,.next=>True
 |.brk,.brk=>True
 |.cont,.cont=>True
 |.ret v,.ret ay=>aM prog w W n v ay
 |_,_=>False
noncomputable def SOk(env:Env)(ns:List Str)(k:Nat)(t:Sem Flow)(D:cf):Prop:=
 ∀(A:Around) (W:az) (U:Loc) (σ:St) f kQ aZ (s:Shared) (Q:Flow->Shared->Prop) (E:Value->Shared->Prop),eC A k->D U σ=some (f,kQ,aZ)->bC prog w h₁ true env ns W U σ s.heap->
  (∀W' g0 h' cI,W.le σ.next W'->σ.next<=aZ.next->bC prog w h₁ true env ns W' kQ aZ h'->kr prog w W' aZ.next f g0->Q g0 {s with heap:=h',toks:=cI})->
  wpN (model prog w) A t Q E s
variable{prog w h₁}
noncomputable def az.fj(W:az)(h:Heap):az:={W with role:=λa=>match W.role a with|.U=>(match h.get? a with|some o=>.fix o|none=>.U)|r=>r}
noncomputable def az.bT(W W':az):az:={W' with role:=λa=>match W.role a with|.U=>.U|_=>(match W'.role a with|.U=>.free|r=>r)}
theorem bw.fj(R:bw prog w h₁ W σ h):bw prog w h₁ (W.fj h) σ h/\W.eM σ.next (W.fj h):=by
 refine R.rD rfl λa=>?_
 show(match W.role a with|.U=>(match h.get? a with|some o=>bL.fix o|none=>bL.U)|r=>r)=_\/_
 cases e:W.role a with
 |U=>
  obtain⟨o,aH⟩:=R.live a (by rw[e];exactλq=>nomatch q)
  refine .inr ⟨.inl rfl,.inr (.inr ⟨o,?_,aH⟩)⟩
  simp[az.fj,e,aH]
 |_=>exact .inl rfl
theorem bw.GY(R:bw prog w h₁ W σ h)(e:W.role a=.U):∃o,h.get? a=some o/\(W.fj h).role a=.fix o:=by
 obtain⟨o,aH⟩:=R.live a (by rw[e];exactλq=>nomatch q)
 exact⟨o,aH,by simp[az.fj,e,aH]⟩
theorem bw.bT(R:bw prog w h₁ W σ h)(l:(W.fj h).le σ.next W')(dA:bw prog w h₁ W' aZ h'):
 bw prog w h₁ (W.bT W') aZ h'/\W.le σ.next (W.bT W')/\W'.eM aZ.next (W.bT W')/\∀a,W.role a=.U->h'.get? a=h.get? a:=by
 have key:∀a,W.role a=.U->∃o,h.get? a=some o/\W'.role a=.fix o:=λa e=>by
  obtain⟨o,aH,r⟩:=R.GY e
  exact⟨o,aH,l.2.1 a o r⟩
 have K:=dA.rD (W':=W.bT W') rfl λa=>by
  cases e:W.role a with
  |U=>
   obtain⟨o,_,r⟩:=key a e
   exact .inr ⟨.inr ⟨o,r⟩,.inr (.inl (by simp[az.bT,e]))⟩
  |_=>
   cases cZ:W'.role a with
   |U=>exact .inr ⟨.inl rfl,.inl (by simp[az.bT,e,cZ])⟩
   |_=>exact .inl (by simp[az.bT,e,cZ])
 refine⟨K.1,⟨⟨λa o e=>?_,λc aw=>l.1.2 c aw⟩,λa o e=>?_,λa e=>by simp[az.bT,e]⟩,K.2,λa e=>?_⟩
 .have:=l.1.1 a o (by simp[az.fj,e])
  simp[az.bT,e,this]
 .have:=l.2.1 a o (by simp[az.fj,e])
  simp[az.bT,e,this]
 .obtain⟨o,aH,r⟩:=key a e
  rw[aH];exact dA.fix a o r
variable{own:Bool}{env:Env}{ns:List Str}{k:Nat}
theorem bC.next{U:Loc}(R:bC prog w h₁ own env ns W U σ h)(dA:bw prog w h₁ W' aZ h')(l:W.le σ.next W')(aV:σ.next<=aZ.next)
 (e:∀a,W.role a=.U->h'.get? a=h.get? a):bC prog w h₁ own env ns W' U aZ h':=by
 have same:∀x c o,env.cells.lookup x=some c->h.get? c=some o->h'.get? c=some o:=λx c o aw aH=>by
  rcases R.cells x c aw with⟨_,r,_⟩|⟨_,cO,r⟩
  .exact(e c r).trans aH
  .have h1:=R.bE.fix c cO r
   rw[aH] at h1;cases h1
   exact dA.fix c o (l.2.1 _ _ r)
 refine⟨dA,l.2.2 _ R.l,λx c aw=>(R.cells x c aw).imp (λq=>⟨q.1,l.2.2 _ q.2.1,q.2.2⟩) λ⟨q,o,r⟩=>⟨q,o,l.2.1 _ _ r⟩,R.apart,λx c aw=>?_,?_⟩
 .obtain⟨kZ,o,aH,aB⟩:=R.mI x c aw
  exact⟨kZ,o,same x c o aw aH,aB⟩
 obtain⟨m,hm,f⟩:=R.U
 refine⟨m,hm.at' λo aH=>(e _ R.l).trans aH,λi v a0=>?_⟩
 obtain⟨x,ay,av,aI,hs⟩:=f i v a0
 exact⟨x,ay,av,aI.a4 l.1 aV,hs.imp id λ⟨q,c,aw,o,aH,aB⟩=>⟨q,c,aw,o,same x c o aw aH,aB⟩⟩
theorem bC.op{U:Loc}{ej:List Value}{v:J}{Q E:Value->Shared->Prop}
 (gz:OpOk prog w h₁ k t F)(aE:eC A k)(aW:F args σ=some (v,aZ))(R:bC prog w h₁ own env ns W U σ s.heap)(ha:bt prog w W σ.next args ej)
 (aP:∀W' ay h' cI,W.le σ.next W'->σ.next<=aZ.next->bC prog w h₁ own env ns W' U aZ h'->aM prog w W' aZ.next v ay->Q ay {s with heap:=h',toks:=cI}):
 wpN (model prog w) A (t ej) Q E s:=by
 obtain⟨aF,iy⟩:=R.bE.fj
 refine gz A (W.fj s.heap) σ args v aZ ej s Q E aE aW aF (ha.a4 iy (Nat.le_refl _)) λW' ay h' cI l aV dA a0=>?_
 obtain⟨B,a',SR,e⟩:=R.bE.bT l dA
 exact aP _ ay h' cI a' aV (R.next B a' aV e) (a0.a4 SR (Nat.le_refl _))
noncomputable def aJ{α bR:Type}(m:Option (α×bR))(aA:α->bR->Prop):Prop:=match m with
 |some (a,b)=>aA a b
 |none=>False
theorem aJ.of{α bR:Type}{m:Option (α×bR)}{aA:α->bR->Prop}{a:α}{b:bR}(e:m=some (a,b))(h:aA a b):aJ m aA:=e▸h
theorem aJ.imp{α bR:Type}{m:Option (α×bR)}{aA C':α->bR->Prop}(h:aJ m aA)(f:∀a b,aA a b->C' a b):aJ m C':=by
 rcases m with _|⟨a,b⟩
 .exact h
 .exact f _ _ h
theorem aJ.bind{α bR lR oK:Type}{m:Option (α×bR)}{f:α×bR->Option (lR×oK)}{aA:lR->oK->Prop}(h:aJ (m.bind f) aA):aJ m λa b=>aJ (f (a,b)) aA:=by
 rcases m with _|⟨a,b⟩<;>exact h
theorem aJ.cv{α bR:Type}{m:Option (α×bR)}{aA:α->bR->Prop}(h:aJ m aA):∃a b,m=some (a,b)/\aA a b:=by
 rcases m with _|⟨a,b⟩
 .exact h.elim
 .exact⟨_,_,rfl,h⟩
noncomputable def gh{α:Type}(m:Option α)(aA:α->Prop):Prop:=match m with
 |some p=>aA p
 |none=>False
theorem aJ.gR{α lR oK:Type}{m:Option α}{f:α->Option (lR×oK)}{aA:lR->oK->Prop}(h:aJ (m.bind f) aA):gh m λa=>aJ (f a) aA:=by
 cases m<;>exact h
theorem aJ.map{α lR oK:Type}{m:Option α}{f:α->lR×oK}{aA:lR->oK->Prop}(h:aJ (m.map f) aA):gh m λa=>aA (f a).1 (f a).2:=by
 cases m<;>exact h
theorem gh.cv{α:Type}{m:Option α}{aA:α->Prop}(h:gh m aA):∃a,m=some a/\aA a:=by
 cases m with
 |none=>exact h.elim
 |some p=>exact⟨_,rfl,h⟩
theorem aJ.fR{cp:Decidable c}{α bR:Type}{m:Option (α×bR)}{aA:α->bR->Prop}(h:aJ (if c then m else none) aA):c/\aJ m aA:=by
 by_cases e:c
 .rw[if_pos e] at h;exact⟨e,h⟩
 .rw[if_neg e] at h;exact h.elim
variable(prog w h₁) in
noncomputable def c7(W:az)(σ:St)(s:Shared)(Q:Value->Shared->Prop)(v:J)(aZ:St):Prop:=
 ∀W' ay h' cI,W.le σ.next W'->σ.next<=aZ.next->bw prog w h₁ W' aZ h'->aM prog w W' aZ.next v ay->Q ay {s with heap:=h',toks:=cI}
theorem c7.at(h:c7 prog w h₁ W σ s Q v σ)(R:bw prog w h₁ W σ s.heap)(r:aM prog w W σ.next v ay)(b7:Nat):Q ay {s with toks:=b7}:=
 h W ay s.heap b7 az.le.refl (Nat.le_refl _) R r
theorem OpOk.of(h:∀(A:Around) (W:az) (σ:St) args ej (s:Shared) (Q E:Value->Shared->Prop),eC A k->aJ (F args σ) (c7 prog w h₁ W σ s Q)->bw prog w h₁ W σ s.heap->bt prog w W σ.next args ej->wpN (model prog w) A (t ej) Q E s):
 OpOk prog w h₁ k t F:=
 λA W σ args _ _ ej s Q E aE aW R ha aP=>h A W σ args ej s Q E aE (.of aW aP) R ha
noncomputable def c1(prog:Program)(w:World)(h₁:Heap)(k:Nat)(t:List Value->Sem Value)(F:bX)(W:az)(σ:St)(args:List J)(ej:List Value):Prop:=
 ∀(A:Around) (s:Shared) (Q E:Value->Shared->Prop),eC A k->aJ (F args σ) (c7 prog w h₁ W σ s Q)->bw prog w h₁ W σ s.heap->wpN (model prog w) A (t ej) Q E s
section
variable{t:List Value->Sem Value}{F:bX}{W:az}{σ:St}{a:J}{bq:Value}
theorem c1.cH(h:∀aA,aJ (F args σ) aA->False):c1 prog w h₁ k t F W σ args ej:=λ_ _ _ _ _ aW _=>(h _ aW).elim
theorem OpOk.fm(h:∀(W:az) (σ:St) a bq r cg,aM prog w W σ.next a bq->bt prog w W σ.next r cg->c1 prog w h₁ k t F W σ (a::r) (bq::cg))
 (ah:autoParam (∀σ aA,aJ (F [] σ) aA->False) cQ._auto_1):OpOk prog w h₁ k t F:=
 .of λA W σ _ _ s Q E aE aW R ha=>bt.casesOn (motive_2:=λas Mm _=>aJ (F as σ) _->wpN (model prog w) A (t Mm) Q E s) ha (λaW=>(ah _ _ aW).elim) (λbb bJ aW=>h W σ _ _ _ _ bb bJ A s Q E aE aW R) aW
theorem c1.more(c:List J->List J)(cc:List Value->List Value)(aI:bt prog w W σ.next r cg)(y:∀b bP q dE,aM prog w W σ.next b bP->bt prog w W σ.next q dE->c1 prog w h₁ k t F W σ (c (b::q)) (cc (bP::dE)))
 (ah:autoParam (∀aA,aJ (F (c []) σ) aA->False) i1._auto_1):c1 prog w h₁ k t F W σ (c r) (cc cg):=
 bt.casesOn (motive_2:=λr cg _=>c1 prog w h₁ k t F W σ (c r) (cc cg)) aI (.cH ah) (λbb bJ=>y _ _ _ _ bb bJ)
theorem c1.LI(c:List J->List J)(cc:List Value->List Value)(aI:bt prog w W σ.next r cg)(aa1:c1 prog w h₁ k t F W σ (c []) (cc []))(y:∀b bP q dE,aM prog w W σ.next b bP->bt prog w W σ.next q dE->c1 prog w h₁ k t F W σ (c (b::q)) (cc (bP::dE))):c1 prog w h₁ k t F W σ (c r) (cc cg):=
 bt.casesOn (motive_2:=λr cg _=>c1 prog w h₁ k t F W σ (c r) (cc cg)) aI aa1 (λbb bJ=>y _ _ _ _ bb bJ)
theorem c1.end(c:List J->List J)(cc:List Value->List Value)(aI:bt prog w W σ.next r cg)(y:c1 prog w h₁ k t F W σ (c []) (cc []))
 (ah:autoParam (∀b q aA,aJ (F (c (b::q)) σ) aA->False) rR._auto_1):c1 prog w h₁ k t F W σ (c r) (cc cg):=
 bt.casesOn (motive_2:=λr cg _=>c1 prog w h₁ k t F W σ (c r) (cc cg)) aI y (λ_ _=>.cH (ah _ _))
theorem c1.none(c:J->List J)(cc:Value->List Value)(r:aM prog w W σ.next a bq)(abi:c1 prog w h₁ k t F W σ (c .none) (cc .none))
 (gI:autoParam (∀x aA,aJ (F (c (.bool x)) σ) aA->False) cQ._auto_1)
 (hN:autoParam (∀x aA,aJ (F (c (.int x)) σ) aA->False) cQ._auto_1)
 (gL:autoParam (∀x aA,aJ (F (c (.str x)) σ) aA->False) cQ._auto_1)
 (iz:autoParam (∀x aA,aJ (F (c (.bytes x)) σ) aA->False) cQ._auto_1)
 (iB:autoParam (∀x aA,aJ (F (c (.bk x)) σ) aA->False) cQ._auto_1)
 (iA:autoParam (∀x aA,aJ (F (c (.bo x)) σ) aA->False) cQ._auto_1)
 (hc:autoParam (∀x aA,aJ (F (c (.cw x)) σ) aA->False) cQ._auto_1)
 (gK:autoParam (∀x y z aA,aJ (F (c (.e8 x y z)) σ) aA->False) oJ._auto_1)
 (jh:autoParam (∀x aA,aJ (F (c (.ref x)) σ) aA->False) cQ._auto_1)
 (gJ:autoParam (∀x aA,aJ (F (c (.bS x)) σ) aA->False) cQ._auto_1):c1 prog w h₁ k t F W σ (c a) (cc bq):=
 aM.casesOn (motive_1:=λa bq _=>c1 prog w h₁ k t F W σ (c a) (cc bq)) r (abi) (λx=>.cH (gI x)) (λx _=>.cH (hN x)) (λx _=>.cH (gL x)) (λx _=>.cH (iz x)) (λ_ _=>.cH (iB _)) (λ_ _ _ _=>.cH (iA _)) (λ_ _ _ _=>.cH (hc _)) (λ_=>.cH (gK _ _ _)) (λ_=>.cH (jh _)) (λx=>.cH (gJ x))
theorem c1.int(c:J->List J)(cc:Value->List Value)(r:aM prog w W σ.next a bq)(Ck:∀i u,c1 prog w h₁ k t F W σ (c (.int i)) (cc (.int i u)))
 (hg:autoParam (∀aA,aJ (F (c .none) σ) aA->False) i1._auto_1)
 (gI:autoParam (∀x aA,aJ (F (c (.bool x)) σ) aA->False) cQ._auto_1)
 (gL:autoParam (∀x aA,aJ (F (c (.str x)) σ) aA->False) cQ._auto_1)
 (iz:autoParam (∀x aA,aJ (F (c (.bytes x)) σ) aA->False) cQ._auto_1)
 (iB:autoParam (∀x aA,aJ (F (c (.bk x)) σ) aA->False) cQ._auto_1)
 (iA:autoParam (∀x aA,aJ (F (c (.bo x)) σ) aA->False) cQ._auto_1)
 (hc:autoParam (∀x aA,aJ (F (c (.cw x)) σ) aA->False) cQ._auto_1)
 (gK:autoParam (∀x y z aA,aJ (F (c (.e8 x y z)) σ) aA->False) oJ._auto_1)
 (jh:autoParam (∀x aA,aJ (F (c (.ref x)) σ) aA->False) cQ._auto_1)
 (gJ:autoParam (∀x aA,aJ (F (c (.bS x)) σ) aA->False) cQ._auto_1):c1 prog w h₁ k t F W σ (c a) (cc bq):=
 aM.casesOn (motive_1:=λa bq _=>c1 prog w h₁ k t F W σ (c a) (cc bq)) r (.cH (hg)) (λx=>.cH (gI x)) (Ck) (λx _=>.cH (gL x)) (λx _=>.cH (iz x)) (λ_ _=>.cH (iB _)) (λ_ _ _ _=>.cH (iA _)) (λ_ _ _ _=>.cH (hc _)) (λ_=>.cH (gK _ _ _)) (λ_=>.cH (jh _)) (λx=>.cH (gJ x))
theorem c1.bytes(c:J->List J)(cc:Value->List Value)(r:aM prog w W σ.next a bq)(Ci:∀x u,c1 prog w h₁ k t F W σ (c (.bytes x)) (cc (.bytes x.toArray u)))
 (hg:autoParam (∀aA,aJ (F (c .none) σ) aA->False) i1._auto_1)
 (gI:autoParam (∀x aA,aJ (F (c (.bool x)) σ) aA->False) cQ._auto_1)
 (hN:autoParam (∀x aA,aJ (F (c (.int x)) σ) aA->False) cQ._auto_1)
 (gL:autoParam (∀x aA,aJ (F (c (.str x)) σ) aA->False) cQ._auto_1)
 (iB:autoParam (∀x aA,aJ (F (c (.bk x)) σ) aA->False) cQ._auto_1)
 (iA:autoParam (∀x aA,aJ (F (c (.bo x)) σ) aA->False) cQ._auto_1)
 (hc:autoParam (∀x aA,aJ (F (c (.cw x)) σ) aA->False) cQ._auto_1)
 (gK:autoParam (∀x y z aA,aJ (F (c (.e8 x y z)) σ) aA->False) oJ._auto_1)
 (jh:autoParam (∀x aA,aJ (F (c (.ref x)) σ) aA->False) cQ._auto_1)
 (gJ:autoParam (∀x aA,aJ (F (c (.bS x)) σ) aA->False) cQ._auto_1):c1 prog w h₁ k t F W σ (c a) (cc bq):=
 aM.casesOn (motive_1:=λa bq _=>c1 prog w h₁ k t F W σ (c a) (cc bq)) r (.cH (hg)) (λx=>.cH (gI x)) (λx _=>.cH (hN x)) (λx _=>.cH (gL x)) (Ci) (λ_ _=>.cH (iB _)) (λ_ _ _ _=>.cH (iA _)) (λ_ _ _ _=>.cH (hc _)) (λ_=>.cH (gK _ _ _)) (λ_=>.cH (jh _)) (λx=>.cH (gJ x))
theorem c1.bk(c:J->List J)(cc:Value->List Value)(r:aM prog w W σ.next a bq)(uc:∀vs bq,aM prog w W σ.next (.bk vs) bq->c1 prog w h₁ k t F W σ (c (.bk vs)) (cc bq))
 (hg:autoParam (∀aA,aJ (F (c .none) σ) aA->False) i1._auto_1)
 (gI:autoParam (∀x aA,aJ (F (c (.bool x)) σ) aA->False) cQ._auto_1)
 (hN:autoParam (∀x aA,aJ (F (c (.int x)) σ) aA->False) cQ._auto_1)
 (gL:autoParam (∀x aA,aJ (F (c (.str x)) σ) aA->False) cQ._auto_1)
 (iz:autoParam (∀x aA,aJ (F (c (.bytes x)) σ) aA->False) cQ._auto_1)
 (iA:autoParam (∀x aA,aJ (F (c (.bo x)) σ) aA->False) cQ._auto_1)
 (hc:autoParam (∀x aA,aJ (F (c (.cw x)) σ) aA->False) cQ._auto_1)
 (gK:autoParam (∀x y z aA,aJ (F (c (.e8 x y z)) σ) aA->False) oJ._auto_1)
 (jh:autoParam (∀x aA,aJ (F (c (.ref x)) σ) aA->False) cQ._auto_1)
 (gJ:autoParam (∀x aA,aJ (F (c (.bS x)) σ) aA->False) cQ._auto_1):c1 prog w h₁ k t F W σ (c a) (cc bq):=
 aM.casesOn (motive_1:=λa bq _=>c1 prog w h₁ k t F W σ (c a) (cc bq)) r (.cH (hg)) (λx=>.cH (gI x)) (λx _=>.cH (hN x)) (λx _=>.cH (gL x)) (λx _=>.cH (iz x)) (λbb bJ=>uc _ _ (.bk bb bJ)) (λ_ _ _ _=>.cH (iA _)) (λ_ _ _ _=>.cH (hc _)) (λ_=>.cH (gK _ _ _)) (λ_=>.cH (jh _)) (λx=>.cH (gJ x))
theorem c1.bo(c:J->List J)(cc:Value->List Value)(r:aM prog w W σ.next a bq)(ub:∀vs bq,aM prog w W σ.next (.bo vs) bq->c1 prog w h₁ k t F W σ (c (.bo vs)) (cc bq))
 (hg:autoParam (∀aA,aJ (F (c .none) σ) aA->False) i1._auto_1)
 (gI:autoParam (∀x aA,aJ (F (c (.bool x)) σ) aA->False) cQ._auto_1)
 (hN:autoParam (∀x aA,aJ (F (c (.int x)) σ) aA->False) cQ._auto_1)
 (gL:autoParam (∀x aA,aJ (F (c (.str x)) σ) aA->False) cQ._auto_1)
 (iz:autoParam (∀x aA,aJ (F (c (.bytes x)) σ) aA->False) cQ._auto_1)
 (iB:autoParam (∀x aA,aJ (F (c (.bk x)) σ) aA->False) cQ._auto_1)
 (hc:autoParam (∀x aA,aJ (F (c (.cw x)) σ) aA->False) cQ._auto_1)
 (gK:autoParam (∀x y z aA,aJ (F (c (.e8 x y z)) σ) aA->False) oJ._auto_1)
 (jh:autoParam (∀x aA,aJ (F (c (.ref x)) σ) aA->False) cQ._auto_1)
 (gJ:autoParam (∀x aA,aJ (F (c (.bS x)) σ) aA->False) cQ._auto_1):c1 prog w h₁ k t F W σ (c a) (cc bq):=
 aM.casesOn (motive_1:=λa bq _=>c1 prog w h₁ k t F W σ (c a) (cc bq)) r (.cH (hg)) (λx=>.cH (gI x)) (λx _=>.cH (hN x)) (λx _=>.cH (gL x)) (λx _=>.cH (iz x)) (λ_ _=>.cH (iB _)) (λbb bJ dx p8=>ub _ _ (.bo bb bJ dx p8)) (λ_ _ _ _=>.cH (hc _)) (λ_=>.cH (gK _ _ _)) (λ_=>.cH (jh _)) (λx=>.cH (gJ x))
theorem c1.ref(c:J->List J)(cc:Value->List Value)(r:aM prog w W σ.next a bq)(qh:∀x bq,aM prog w W σ.next (.ref x) bq->c1 prog w h₁ k t F W σ (c (.ref x)) (cc bq))
 (hg:autoParam (∀aA,aJ (F (c .none) σ) aA->False) i1._auto_1)
 (gI:autoParam (∀x aA,aJ (F (c (.bool x)) σ) aA->False) cQ._auto_1)
 (hN:autoParam (∀x aA,aJ (F (c (.int x)) σ) aA->False) cQ._auto_1)
 (gL:autoParam (∀x aA,aJ (F (c (.str x)) σ) aA->False) cQ._auto_1)
 (iz:autoParam (∀x aA,aJ (F (c (.bytes x)) σ) aA->False) cQ._auto_1)
 (iB:autoParam (∀x aA,aJ (F (c (.bk x)) σ) aA->False) cQ._auto_1)
 (iA:autoParam (∀x aA,aJ (F (c (.bo x)) σ) aA->False) cQ._auto_1)
 (hc:autoParam (∀x aA,aJ (F (c (.cw x)) σ) aA->False) cQ._auto_1)
 (gK:autoParam (∀x y z aA,aJ (F (c (.e8 x y z)) σ) aA->False) oJ._auto_1)
 (gJ:autoParam (∀x aA,aJ (F (c (.bS x)) σ) aA->False) cQ._auto_1):c1 prog w h₁ k t F W σ (c a) (cc bq):=
 aM.casesOn (motive_1:=λa bq _=>c1 prog w h₁ k t F W σ (c a) (cc bq)) r (.cH (hg)) (λx=>.cH (gI x)) (λx _=>.cH (hN x)) (λx _=>.cH (gL x)) (λx _=>.cH (iz x)) (λ_ _=>.cH (iB _)) (λ_ _ _ _=>.cH (iA _)) (λ_ _ _ _=>.cH (hc _)) (λ_=>.cH (gK _ _ _)) (λbb=>qh _ _ (.ref bb)) (λx=>.cH (gJ x))
theorem c1.add(c:J->List J)(cc:Value->List Value)(r:aM prog w W σ.next a bq)(Ck:∀i u,c1 prog w h₁ k t F W σ (c (.int i)) (cc (.int i u)))(Ci:∀x u,c1 prog w h₁ k t F W σ (c (.bytes x)) (cc (.bytes x.toArray u)))(uc:∀vs bq,aM prog w W σ.next (.bk vs) bq->c1 prog w h₁ k t F W σ (c (.bk vs)) (cc bq))(ub:∀vs bq,aM prog w W σ.next (.bo vs) bq->c1 prog w h₁ k t F W σ (c (.bo vs)) (cc bq))
 (hg:autoParam (∀aA,aJ (F (c .none) σ) aA->False) i1._auto_1)
 (gI:autoParam (∀x aA,aJ (F (c (.bool x)) σ) aA->False) cQ._auto_1)
 (gL:autoParam (∀x aA,aJ (F (c (.str x)) σ) aA->False) cQ._auto_1)
 (hc:autoParam (∀x aA,aJ (F (c (.cw x)) σ) aA->False) cQ._auto_1)
 (gK:autoParam (∀x y z aA,aJ (F (c (.e8 x y z)) σ) aA->False) oJ._auto_1)
 (jh:autoParam (∀x aA,aJ (F (c (.ref x)) σ) aA->False) cQ._auto_1)
 (gJ:autoParam (∀x aA,aJ (F (c (.bS x)) σ) aA->False) cQ._auto_1):c1 prog w h₁ k t F W σ (c a) (cc bq):=
 aM.casesOn (motive_1:=λa bq _=>c1 prog w h₁ k t F W σ (c a) (cc bq)) r (.cH (hg)) (λx=>.cH (gI x)) (Ck) (λx _=>.cH (gL x)) (Ci) (λbb bJ=>uc _ _ (.bk bb bJ)) (λbb bJ dx p8=>ub _ _ (.bo bb bJ dx p8)) (λ_ _ _ _=>.cH (hc _)) (λ_=>.cH (gK _ _ _)) (λ_=>.cH (jh _)) (λx=>.cH (gJ x))
end
variable(prog w h₁) in
noncomputable def du{α bR:Type}(hU:az->Nat->bR->α->Prop)(own:Bool)(env:Env)(ns:List Str)(W:az)(U:Loc)(σ:St)(s:Shared)(Q:α->Shared->Prop)(v:bR)(aZ:St):Prop:=
 ∀W' ay h' cI,W.le σ.next W'->σ.next<=aZ.next->bC prog w h₁ own env ns W' U aZ h'->hU W' aZ.next v ay->Q ay {s with heap:=h',toks:=cI}
theorem TOk.of{α bR:Type}{hU:az->Nat->bR->α->Prop}{t:Sem α}{D:Loc->St->Option (bR×St)}(h:∀(A:Around) (W:az) (U:Loc) (σ:St) (s:Shared) (Q:α->Shared->Prop) (E:Value->Shared->Prop),eC A k->aJ (D U σ) (du prog w h₁ hU own env ns W U σ s Q)->bC prog w h₁ own env ns W U σ s.heap->wpN (model prog w) A t Q E s):
 TOk prog w h₁ hU own env ns k t D:=λA W U σ _ _ s Q E aE ao R aP=>h A W U σ s Q E aE (.of ao aP) R
theorem TOk.go{α bR:Type}{hU:az->Nat->bR->α->Prop}{t:Sem α}{D:Loc->St->Option (bR×St)}(aF:TOk prog w h₁ hU own env ns k t D){Q:α->Shared->Prop}{aA:bR->St->Prop}(aE:eC A k)(ao:aJ (D U σ) aA)(R:bC prog w h₁ own env ns W U σ s.heap)
 (kG:∀v aZ,aA v aZ->du prog w h₁ hU own env ns W U σ s Q v aZ):wpN (model prog w) A t Q E s:=by
 obtain⟨v,aZ,e,c⟩:=ao.cv
 exact aF A W U σ v aZ s Q E aE e R (kG v aZ c)
variable(prog w h₁) in
noncomputable def fT(env:Env)(ns:List Str)(W:az)(σ:St)(s:Shared)(Q:Flow->Shared->Prop)(f:fy)(p:Loc×St):Prop:=
 ∀W' g0 h' cI,W.le σ.next W'->σ.next<=p.2.next->bC prog w h₁ true env ns W' p.1 p.2 h'->kr prog w W' p.2.next f g0->Q g0 {s with heap:=h',toks:=cI}
theorem SOk.of(h:∀(A:Around) (W:az) (U:Loc) (σ:St) (s:Shared) (Q:Flow->Shared->Prop) (E:Value->Shared->Prop),eC A k->aJ (D U σ) (fT prog w h₁ env ns W σ s Q)->bC prog w h₁ true env ns W U σ s.heap->wpN (model prog w) A t Q E s):
 SOk prog w h₁ env ns k t D:=λA W U σ _ _ _ s Q E aE ao R aP=>h A W U σ s Q E aE (.of ao aP) R
theorem SOk.go(aF:SOk prog w h₁ env ns k t D)(aE:eC A k)(ao:aJ (D U σ) aA)(R:bC prog w h₁ true env ns W U σ s.heap)
 (kG:∀f p,aA f p->fT prog w h₁ env ns W σ s Q f p):wpN (model prog w) A t Q E s:=by
 obtain⟨f,p,e,c⟩:=ao.cv
 exact aF A W U σ f p.1 p.2 s Q E aE e R (kG f p c)
@[elab_as_elim] theorem kr.rv{P:fy->Flow->Prop}(r:kr prog w W n f g0)(next:P .next .next)(brk:P .brk .brk)(cont:P .cont .cont)(ret:∀v ay,aM prog w W n v ay->P (.ret v) (.ret ay)):P f g0:=by
  rcases f with _|_|_|v
  .rcases g0 with _|_|_|ay<;>first|exact next|exact False.elim r
  .rcases g0 with _|_|_|ay<;>first|exact brk|exact False.elim r
  .rcases g0 with _|_|_|ay<;>first|exact cont|exact False.elim r
  .rcases g0 with _|_|_|ay<;>first|exact ret _ _ r|exact False.elim r
theorem yZ{α:Type}{l:List α}(h:l.drop i=[]):l[i]? =none:=by
 rw[<-Nat.add_zero i,<-List.getElem?_drop,h];rfl
theorem vn{α:Type}{l r:List α}{x:α}(h:l.drop i=x::r):l[i]? =some x/\l.drop (i+1)=r:=by
 refine⟨?_,?_⟩
 .rw[<-Nat.add_zero i,<-List.getElem?_drop,h];rfl
 .rw[<-List.tail_drop,h];rfl
theorem du.to{α bR:Type}{hU:az->Nat->bR->α->Prop}{Q:α->Shared->Prop}{v:bR}(h:aJ (some (v,aZ)) (du prog w h₁ hU own env ns W U σ s Q)):du prog w h₁ hU own env ns W U σ s Q v aZ:=h
theorem bC.lM{U:Loc}{ej:List Value}{Q E:Value->Shared->Prop}{aA:J->St->Prop}
 (gz:OpOk prog w h₁ k t F)(aE:eC A k)(aW:aJ (F args σ) aA)(R:bC prog w h₁ own env ns W U σ s.heap)(ha:bt prog w W σ.next args ej)
 (kG:∀v aZ,aA v aZ->du prog w h₁ (aM prog w) own env ns W U σ s Q v aZ):wpN (model prog w) A (t ej) Q E s:=by
 obtain⟨v,aZ,e,c⟩:=aW.cv
 exact R.op gz aE e ha (kG v aZ c)
theorem du.at{α bR:Type}{hU:az->Nat->bR->α->Prop}{Q:α->Shared->Prop}{v:bR}(h:aJ (some (v,σ)) (du prog w h₁ hU own env ns W U σ s Q))(R:bC prog w h₁ own env ns W U σ s.heap){ay:α}(r:hU W σ.next v ay)(b7:Nat):Q ay {s with toks:=b7}:=
 du.to h W ay s.heap b7 az.le.refl (Nat.le_refl _) R r
theorem du.then{α bR:Type}{hU:az->Nat->bR->α->Prop}{Q:α->Shared->Prop}{v:bR}(h:du prog w h₁ hU own env ns W U σ s Q v aZ)(bA:W.le σ.next br)(ae:σ.next<=ct.next):du prog w h₁ hU own env ns br U ct {s with heap:=h1,toks:=cE} Q v aZ:=
 λbH gx h2 tk2 a' aK cn bJ=>h bH gx h2 tk2 (bA.trans ae a') (Nat.le_trans ae aK) cn bJ
end
section
structure bK (K:Frag) (h₁:Heap):Prop where
 X:K.In h₁
 Kb:∃jC nf,h₁.Ns mainGlobals jC/\h₁.Ns builtinsNs nf/\∀x:Str,x≠"__name__"->nf x=bootBuiltins x
 nolimit:h₁.NoLimit
variable{prog:Program}{w:World}{h₁:Heap}{K:Frag}{own:Bool}{env:Env}{ns:List Str}{k:Nat}
noncomputable def C(i:Nat):cW:=λU σ=>match U[i]? with
 |some (some v)=>some (v,σ)
 |_=>none
noncomputable def I(v:J):cW:=λ_ σ=>some (v,σ)
theorem HO(e:C i U σ=some (v,aZ)):U[i]? =some (some v)/\aZ=σ:=by
 unfold C at e
 generalize U[i]? =x at e⊢
 rcases x with _|_|u
 .exact aq e
 .exact aq e
 .exact⟨by rw[G9 e],(G' e).symm⟩
theorem au(av:ns[i]? =some x)(hk:autoParam (env.scope.kind=.function) aL._auto_1)(aB:autoParam ((x==("__debug__":Str))=false) rS._auto_1)(aV:autoParam ((x==("__classdict__":Str))=false) rS._auto_1):
 bj prog w h₁ own env ns k (eval (.Name x pos) env) (C i):=
 .of λA W U σ s Q E aE ao R=>wpN.of<|eK λG bT=>by
 obtain⟨u,aZ,e,ao⟩:=ao.cv
 obtain⟨bI,e⟩:=HO e
 rw[e] at ao
 obtain⟨m,hm,f⟩:=R.U
 obtain⟨y,ay,bB,aI,hs⟩:=f i _ bI
 rw[<-Option.some.inj (av.symm.trans bB)] at hs
 have q:Q ay s:=du.at ao R aI s.toks
 refine bT (wpAny_Name ?_ aB)
 rcases hs with⟨h1,h2⟩|⟨h1|h1,c,aw,aQ⟩
 .exact wpAny_loadName_local hk h1 hm h2 q
 .exact wpAny_loadName_cell hk h1 aw aQ q
 .exact wpAny_loadName_free hk h1 aw aQ q aV
theorem dg(B:bK K h₁)(e:nsIn K mainGlobals x=some (some ay))(a0:∀W n,(∀a o,h₁.get? a=some o->W.role a=.imm o)->aM prog w W n v ay)(hk:autoParam (env.scope.kind=.function) aL._auto_1)(aT:autoParam (env.globals=mainGlobals) aL._auto_1)
 (av:autoParam (env.kindOf x=some .globalImplicit) aL._auto_1)(aB:autoParam ((x==("__debug__":Str))=false) rS._auto_1):
 bj prog w h₁ own env ns k (eval (.Name x pos) env) (I v):=
 .of λA W U σ s Q E aE ao R=>by
 obtain⟨jC,nf,g,b,_⟩:=B.Kb
 exact wpN.of<|Name_function_global hk av (loadGlobal_global (env:=env) (by rw[aT];exact g.keeps R.bE.old) (mg_of B.X g e) (du.at ao R (a0 _ _ R.bE.base) s.toks)) aB
theorem kC(B:bK K h₁)(e:nsIn K mainGlobals x=some none)(a0:bootBuiltins x=some ay)(aV:autoParam (x≠"__name__") rS._auto_1)(hk:autoParam (env.scope.kind=.function) aL._auto_1)(aT:autoParam (env.globals=mainGlobals) aL._auto_1)(ag:autoParam (env.builtins=builtinsNs) aL._auto_1)
 (av:autoParam (env.kindOf x=some .globalImplicit) aL._auto_1)(aB:autoParam ((x==("__debug__":Str))=false) rS._auto_1):
 bj prog w h₁ own env ns k (eval (.Name x pos) env) (I (.bS ay)):=
 .of λA W U σ s Q E aE ao R=>by
 obtain⟨jC,nf,g,b,MV⟩:=B.Kb
 exact wpN.of<|Name_function_global hk av (loadGlobal_builtin (env:=env) (by rw[aT];exact g.keeps R.bE.old) (mg_none_of B.X g e) (by rw[ag];exact b.keeps R.bE.old) ((MV x aV).trans a0) (du.at ao R (.bS ay) s.toks)) aB
variable{prog:Program}{w:World}{h₁:Heap}{K:Frag}{own:Bool}{env:Env}{ns:List Str}{k:Nat}
theorem bind_some{α bR:Type}{x:Option α}{f:α->Option bR}{b:bR}(h:x.bind f=some b):∃a,x=some a/\f a=some b:=by
 cases x with
 |none=>cases h
 |some a=>exact⟨a,rfl,h⟩
theorem a9:bj prog w h₁ own env ns k (eval (.Constant (.int i) ai pos) env) (I (.int i)):=
 .of λA W U σ s Q E aE ao R=>wpN.of<|wpAny_Constant_int (du.at ao R (.int _ _) _)
theorem bN:bj prog w h₁ own env ns k (eval (.Constant (.str x) ai pos) env) (I (.str x)):=
 .of λA W U σ s Q E aE ao R=>wpN.of<|Calls.Constant_str (du.at ao R (.str _ _) _)
theorem gb:bj prog w h₁ own env ns k (eval (.Constant .none ai pos) env) (I .none):=
 .of λA W U σ s Q E aE ao R=>wpN.of<|wpAny_Constant_none (du.at ao R .none s.toks)
theorem hY:bj prog w h₁ own env ns k (eval (.Constant (.bool b) ai pos) env) (I (.bool b)):=
 .of λA W U σ s Q E aE ao R=>wpN.of<|wpAny_Constant_bool (du.at ao R (.bool _) s.toks)
theorem qK:bj prog w h₁ own env ns k (eval (.Constant (.bytes b) ai pos) env) (I (.bytes b)):=
 .of λA W U σ s Q E aE ao R=>wpN.of<|Constant_bytes (du.at ao R (.bytes _ _) _)
noncomputable abbrev k4:=Loc->St->Option (List J×St)
noncomputable def ar:k4:=λ_ σ=>some ([],σ)
noncomputable def aa(D:cW)(ei:k4):k4:=λU σ=>(D U σ).bind λr=>(ei U r.2).bind λq=>some (r.1::q.1,q.2)
theorem aN:k5 prog w h₁ own env ns k (spliced (backTo pos (starEach [] env))) ar:=
 .of λA W U σ s Q E aE ao R=>cq (du.at ao R .nil s.toks)
theorem ax(h:bj prog w h₁ own env ns k (eval e env) D)(aI:k5 prog w h₁ own env ns k (spliced (backTo pos (starEach rest env))) ei)
 (hs:autoParam (starEach (e::rest) env=(false,eval e env)::starEach rest env) aL._auto_1):k5 prog w h₁ own env ns k (spliced (backTo pos (starEach (e::rest) env))) (aa D ei):=
 .of λA W U σ s Q E aE ao R=>by
 rw[hs]
 exact Cf (h.go aE ao.bind R λeb ct ao br dz h1 cE bA ae bu bb=>aI.go aE (aJ.bind ao) bu λvs bD ao bH bG h2 tk2 a' aK cn bJ=>
  du.to ao bH _ h2 tk2 (bA.trans ae a') (Nat.le_trans ae aK) cn (.cons (bb.a4 a'.1 aK) bJ))
noncomputable def eG(f:Value->Value->Sem Value):List Value->Sem Value
 |[a,b]=>f a b
 |_=>unsupported ""
noncomputable def nC(f:Value->Sem Value):List Value->Sem Value
 |[a]=>f a
 |_=>unsupported ""
noncomputable def af(F:bX)(eH d1:cW):cW:=λU σ=>(eH U σ).bind λr=>(d1 U r.2).bind λq=>F [r.1,q.1] q.2
theorem c3(h1:bj prog w h₁ own env ns k (eval l env) eH)(h2:bj prog w h₁ own env ns k (eval r env) d1)(gz:OpOk prog w h₁ k (eG (binaryOp op)) F):
 bj prog w h₁ own env ns k (eval (.BinOp l op r pos) env) (af F eH d1):=
 .of λA W U σ s Q E aE ao R=>aaE (h1.go aE ao.bind R λeb ct ao br dz h1 cE bA ae bu bb=>h2.go aE (aJ.bind ao) bu λgx bD ao bH dj h2 tk2 a' aK cn bJ=>
  cn.lM (s:={s with heap:=h2,toks:=tk2}) gz aE ao (.cons (bb.a4 a'.1 aK) (.cons bJ .nil)) λv aZ c=>c.then ((bA.trans ae a')) (Nat.le_trans ae aK))
theorem sy(h1:bj prog w h₁ own env ns k (eval l env) eH)(h2:bj prog w h₁ own env ns k (eval r env) d1)(gz:OpOk prog w h₁ k (eG (compareOp op)) F)
 (hm:autoParam (behindInMarks op r=false) xh._auto_1):
 bj prog w h₁ own env ns k (eval (.Compare l [op] [r] pos) env) (af F eH d1):=
 .of λA W U σ s Q E aE ao R=>aaG (h1.go aE ao.bind R λeb ct ao br dz h1 cE bA ae bu bb=>h2.go aE (aJ.bind ao) bu λgx bD ao bH dj h2 tk2 a' aK cn bJ=>
  cn.lM (s:={s with heap:=h2,toks:=tk2}) gz aE ao (.cons (bb.a4 a'.1 aK) (.cons bJ .nil)) λv aZ c=>c.then ((bA.trans ae a')) (Nat.le_trans ae aK)) hm
noncomputable def boolOf(D:cW):gN:=λU σ=>match D U σ with
 |some (.bool b,aZ)=>some (b,aZ)
 |_=>none
theorem Eh(h:aJ (boolOf D U σ) aA):∃b aZ,D U σ=some (.bool b,aZ)/\aA b aZ:=by
 unfold boolOf at h
 generalize D U σ=x at h⊢
 rcases x with _|⟨_|b|_|_|_|_|_|_|_|_|_,aZ⟩
 .exact h.elim
 .exact h.elim
 .exact⟨b,aZ,rfl,h⟩
 .exact h.elim
 .exact h.elim
 .exact h.elim
 .exact h.elim
 .exact h.elim
 .exact h.elim
 .exact h.elim
 .exact h.elim
 .exact h.elim
theorem M5(aF:bj prog w h₁ own env ns k e D)(aE:eC A k)(ao:aJ (boolOf D U σ) (du prog w h₁ (λ_ _ b a=>b=a) own env ns W U σ s Q))(R:bC prog w h₁ own env ns W U σ s.heap):
 wpN (model prog w) A e (λv aY=>∃b,v=.bool b/\Q b aY) E s:=by
 obtain⟨b,aZ,e,c⟩:=Eh ao
 exact aF A W U σ _ aZ s _ E aE e R λW' ay h' cI l n dA r=>⟨b,r.bc,c W' b h' cI l n dA rfl⟩
theorem b0(h1:bj prog w h₁ own env ns k (eval l env) eH)(h2:bj prog w h₁ own env ns k (eval r env) d1)(gz:OpOk prog w h₁ k (eG (compareOp op)) F)
 (hm:autoParam (behindInMarks op r=false) xh._auto_1):
 BOk prog w h₁ own env ns k (isTrue (.Compare l [op] [r] pos) env hn) (boolOf (af F eH d1)):=
 .of λA W U σ s Q E aE ao R=>by
 obtain⟨b,dk,e,c⟩:=Eh ao
 refine aaV (h1.go aE (aJ.bind (aJ.of e rfl:aJ (af F eH d1 U σ) λv s=>(v,s)=(.bool b,dk))) R λeb ct ao br dz h1 cE bA ae bu bb=>h2.go aE (aJ.bind ao) bu λgx bD ao bH dj h2 tk2 a' aK cn bJ=>
  cn.lM (s:={s with heap:=h2,toks:=tk2}) gz aE ao (.cons (bb.a4 a'.1 aK) (.cons bJ .nil)) λv aZ eq bY ay aQ cN cR bx dc dx=>?_) hm
 rw[(Prod.mk.inj eq).1] at dx
 rw[(Prod.mk.inj eq).2] at bx dc
 rw[show ay=_ from dx.bc]
 exact wpN.of<|wpAny_truthy_bool (c bY b aQ cN ((bA.trans ae a').trans (Nat.le_trans ae aK) cR) (Nat.le_trans ae (Nat.le_trans aK bx)) dc rfl)
theorem mH(h:bj prog w h₁ own env ns k (eval e env) D)(hp:autoParam (isTrue e env (eval e env)=(do let v<-eval e env;standAt e.pos;holding [v] (truthy v))) aL._auto_1):
 BOk prog w h₁ own env ns k (isTrue e env (eval e env)) (boolOf D):=
 .of λA W U σ s Q E aE ao R=>aaX (cy (M5 h aE ao R) (λv aY ⟨b,e,q⟩=>by rw[e];exact wpN.of (wpAny_truthy_bool q)) λ_ _ x=>x) hp
noncomputable def nh(D:gN):gN:=λU σ=>(D U σ).bind λr=>some (!r.1,r.2)
theorem yb(h:BOk prog w h₁ own env ns k (isTrue x env (eval x env)) D):BOk prog w h₁ own env ns k (isTrue (.UnaryOp .Not x pos) env hn) (nh D):=
 .of λA W U σ s Q E aE ao R=>aaW (h.go aE ao.bind R λb ct ao br bP h1 cE bA ae bu bb=>by
  rw[show b=bP from bb] at ao
  exact du.to ao br _ h1 cE bA ae bu rfl)
noncomputable def ff(eH d1:gN):gN:=λU σ=>(eH U σ).bind λr=>if r.1=true then d1 U r.2 else some (false,r.2)
noncomputable def cV(eH d1:gN):gN:=λU σ=>(eH U σ).bind λr=>if r.1=true then some (true,r.2) else d1 U r.2
noncomputable def eN:gN:=λ_ σ=>some (true,σ)
noncomputable def ft:gN:=λ_ σ=>some (false,σ)
theorem qC:BOk prog w h₁ own env ns k (allTrue .And [] env) eN:=
 .of λA W U σ s Q E aE ao R=>cq (du.at ao R rfl s.toks)
theorem j2:BOk prog w h₁ own env ns k (allTrue .Or [] env) ft:=
 .of λA W U σ s Q E aE ao R=>cq (du.at ao R rfl s.toks)
theorem kz(h1:BOk prog w h₁ own env ns k (isTrue x env (eval x env)) eH)(h2:BOk prog w h₁ own env ns k (allTrue .And rest env) d1):
 BOk prog w h₁ own env ns k (allTrue .And (x::rest) env) (ff eH d1):=
 .of λA W U σ s Q E aE ao R=>aaP (h1.go aE ao.bind R λb ct ao br bP h1 cE bA ae bu bb=>by
  rw[show b=bP from bb] at ao
  rcases bP with _|_
  .exact du.to ao br _ h1 cE bA ae bu rfl
  .exact h2.go aE ao bu λv aZ c=>c.then bA ae)
theorem fG(h1:BOk prog w h₁ own env ns k (isTrue x env (eval x env)) eH)(h2:BOk prog w h₁ own env ns k (allTrue .Or rest env) d1):
 BOk prog w h₁ own env ns k (allTrue .Or (x::rest) env) (cV eH d1):=
 .of λA W U σ s Q E aE ao R=>aaQ (h1.go aE ao.bind R λb ct ao br bP h1 cE bA ae bu bb=>by
  rw[show b=bP from bb] at ao
  rcases bP with _|_
  .exact h2.go aE ao bu λv aZ c=>c.then bA ae
  .exact du.to ao br _ h1 cE bA ae bu rfl)
theorem hJ(h:BOk prog w h₁ own env ns k (allTrue op xs env) D):BOk prog w h₁ own env ns k (isTrue (.BoolOp op xs pos) env hn) D:=by
 intro A W U σ b aZ s Q E aE ao R aP
 exact aaU (h A W U σ b aZ s Q E aE ao R aP)
noncomputable def ez(T:gN)(eH d1:cW):cW:=λU σ=>(T U σ).bind λr=>if r.1=true then eH U r.2 else d1 U r.2
theorem hZ(ht:BOk prog w h₁ own env ns k (isTrue t env (eval t env)) T)(h1:bj prog w h₁ own env ns k (eval b env) eH)(h2:bj prog w h₁ own env ns k (eval o env) d1):
 bj prog w h₁ own env ns k (eval (.IfExp t b o pos) env) (ez T eH d1):=
 .of λA W U σ s Q E aE ao R=>aaJ (ht.go aE ao.bind R λb ct ao br bP n5 cE bA ae bu bb=>by
  rw[show b=bP from bb] at ao
  rcases bP with _|_
  .exact h2.go aE ao bu λv aZ c=>c.then bA ae
  .exact h1.go aE ao bu λv aZ c=>c.then bA ae)
noncomputable def bM(ei:k4):cW:=λU σ=>(ei U σ).bind λr=>if r.1.length<=1000000 then some (.bk r.1,r.2) else none
noncomputable def dw(ei:k4):cW:=λU σ=>(ei U σ).bind λr=>if r.1.length<=1000000 then some (.bo r.1,r.2) else none
noncomputable def f'(ei:k4):cW:=λU σ=>(ei U σ).bind λr=>if r.1.length<=1000000 then some (.ref r.2.next,r.2.new (.list r.1)) else none
theorem bC.hu{U:Loc}(R:bC prog w h₁ own env ns W U σ h)(o:Obj)(hf:o.isFreed=false):
 bC prog w h₁ own env ns (W.aS h.objs.size (.imm o)) U σ (h.push o)/\W.le σ.next (W.aS h.objs.size (.imm o)):=by
 have dF:=R.bE.free (Nat.le_refl h.objs.size)
 have l:=az.gG (n:=σ.next) (r:=.imm o) dF
 have bu:bw prog w h₁ (W.aS h.objs.size (.imm o)) σ (h.push o):=(R.bE.push o).hu dF ⟨o,Heap.get?_push_size _ hf⟩ (λcO e=>by cases e;exact Heap.get?_push_size _ hf) (λcO e=>nomatch e)
 exact⟨R.next bu l (Nat.le_refl _) λa ha=>get?_push_ne (R.bE.lt (bL.ne ha)),l⟩
theorem bC.cell{U:Loc}(R:bC prog w h₁ own env ns W U σ h)(o:Obj)(x:c6)(hf:o.isFreed=false)(av:CellAt prog w (W.eD σ.next h.objs.size) (σ.next+1) (h.push o) σ.next h.objs.size x):
 bC prog w h₁ own env ns (W.eD σ.next h.objs.size) U (σ.new x) (h.push o)/\W.le σ.next (W.eD σ.next h.objs.size):=by
 have dF:=R.bE.free (Nat.le_refl h.objs.size)
 have l:=az.oi (n:=σ.next) dF
 exact⟨R.next ((R.bE.push o).alloc dF ⟨o,Heap.get?_push_size _ hf⟩ av) l (Nat.le_succ _) λa ha=>get?_push_ne (R.bE.lt (bL.ne ha)),l⟩
theorem BW(r:bt prog w W n vs bG)(h:vs.length<=1000000):bG.toArray.size<=sizeLine:=by
 rw[List.size_toArray,r.length];exact Nat.le_trans h (by decide)
theorem Bi{W:az}:aM prog w (W.eD n a) (n+1) (.ref n) (.ref a):=by
 have q:aM prog w (W.eD n a) (n+1) (.ref n) (.ref ((W.eD n a).al n)):=.ref (Nat.lt_succ_self _)
 rw[show(W.eD n a).al n=a from if_pos rfl] at q
 exact q
theorem cJ(h:k5 prog w h₁ own env ns k (spliced (backTo pos (starEach es env))) ei):bj prog w h₁ own env ns k (eval (.Tuple es ai pos) env) (bM ei):=
 .of λA W U σ s Q E aE ao R=>aaM (h.go aE ao.bind R λvs ct ao br bG h1 cE bA ae bu bb=>eK λG bT=>by
  obtain⟨aG,ao⟩:=aJ.fR ao
  obtain⟨cn,a'⟩:=bu.hu {cls:=.type "tuple",data:=.seq bG.toArray} rfl
  exact bT<|wpN.of<|wpAny_newObj_type (du.to ao _ _ _ _ (bA.trans ae a') ae cn (.bk (k:=0) az.cX (bb.a4 a'.1 (Nat.le_refl _)))) (BW bb aG))
theorem gD(h:k5 prog w h₁ own env ns k (spliced (backTo pos (starEach es env))) ei):bj prog w h₁ own env ns k (eval (.List es pos) env) (dw ei):=
 .of λA W U σ s Q E aE ao R=>Ku (h.go aE ao.bind R λvs ct ao br bG h1 cE bA ae bu bb=>eK λG bT=>by
  obtain⟨aG,ao⟩:=aJ.fR ao
  obtain⟨cn,a'⟩:=bu.hu {cls:=.type "list",data:=.seq bG.toArray} rfl
  exact bT<|wpN.of<|wpAny_newObj_type (du.to ao _ _ _ _ (bA.trans ae a') ae cn (.bo (az.cX) rfl rfl (bb.a4 a'.1 (Nat.le_refl _)))) (BW bb aG))
theorem js(h:k5 prog w h₁ own env ns k (spliced (backTo pos (starEach es env))) ei):bj prog w h₁ own env ns k (eval (.List es pos) env) (f' ei):=
 .of λA W U σ s Q E aE ao R=>Ku (h.go aE ao.bind R λvs ct ao br bG h1 cE bA ae bu bb=>eK λG bT=>by
  obtain⟨aG,ao⟩:=aJ.fR ao
  have dF:=bu.bE.free (Nat.le_refl h1.objs.size)
  obtain⟨cn,a'⟩:=bu.cell (listOf bG.toArray 0) (.list vs) rfl (.list (Heap.get?_push_size _ rfl) (bb.a4 (az.oi (n:=ct.next) dF).1 (Nat.le_succ _)))
  exact bT<|wpN.of<|wpAny_newObj_type (du.to ao _ _ _ _ (bA.trans ae a') (Nat.le_trans ae (Nat.le_succ _)) cn Bi) (BW bb aG))
noncomputable def ba(F:bX)(ei:k4):cW:=λU σ=>(ei U σ).bind λr=>F r.1 r.2
theorem ir{id:String}(hf:bj prog w h₁ own env ns k (eval f env) (I (.bS (.builtin id))))(h:k5 prog w h₁ own env ns k (spliced (backTo pos (starEach (e::rest) env))) ei)
 (gz:OpOk prog w h₁ k (λvs=>call (.builtin id) vs) F)(ah:autoParam (starEach (e::rest) env=(false,eval e env)::starEach rest env) aL._auto_1)(h2:autoParam (((backTo pos (starEach rest env)).any λx=>x.fst)=false) aL._auto_1)
 (aw:autoParam (eval (f.Call (e::rest) [] pos) env=(do let g<-eval f env;callWith pos g [] (backTo pos (starEach (e::rest) env)) (backToKw pos (keywordEach [] env)))) aL._auto_1):
 bj prog w h₁ own env ns k (eval (.Call f (e::rest) [] pos) env) (ba F ei):=
 .of λA W U σ s Q E aE ao R=>by
 rw[aw]
 refine a5 (hf A W U σ _ σ s _ E aE rfl R λhH iY eg qc iw ab gi kj=>?_)
 rw[show iY=_ from kj.bc]
 refine rN rfl (by rw[ah];exact h2) ?_
 rw[ah] at h⊢
 exact rO (h.go aE ao.bind gi λvs ct ao br bG h1 cE bA ae bu bb=>bu.lM (s:={s with heap:=h1,toks:=cE}) gz aE ao bb λv aZ c=>c.then (iw.trans ab bA) (Nat.le_trans ab ae))
theorem gC(hf:bj prog w h₁ own env ns k (eval f env) (I (.bS (.type T))))(h:k5 prog w h₁ own env ns k (spliced (backTo pos (starEach (e::rest) env))) ei)
 (gz:OpOk prog w h₁ k (λvs=>call (.type T) vs) F)(ah:autoParam (starEach (e::rest) env=(false,eval e env)::starEach rest env) aL._auto_1)(h2:autoParam (((backTo pos (starEach rest env)).any λx=>x.fst)=false) aL._auto_1)
 (aw:autoParam (eval (f.Call (e::rest) [] pos) env=(do let g<-eval f env;callWith pos g [] (backTo pos (starEach (e::rest) env)) (backToKw pos (keywordEach [] env)))) aL._auto_1):
 bj prog w h₁ own env ns k (eval (.Call f (e::rest) [] pos) env) (ba F ei):=
 .of λA W U σ s Q E aE ao R=>by
 rw[aw]
 refine a5 (hf A W U σ _ σ s _ E aE rfl R λhH iY eg qc iw ab gi kj=>?_)
 rw[show iY=_ from kj.bc]
 refine rN rfl (by rw[ah];exact h2) ?_
 rw[ah] at h⊢
 exact rO (h.go aE ao.bind gi λvs ct ao br bG h1 cE bA ae bu bb=>bu.lM (s:={s with heap:=h1,toks:=cE}) gz aE ao bb λv aZ c=>c.then (iw.trans ab bA) (Nat.le_trans ab ae))
theorem cC(aH:h₁.get? fa=some o)(aB:o.data=.func fd)(hf:bj prog w h₁ own env ns k (eval f env) (I (.bS (.ref fa))))(h:k5 prog w h₁ own env ns k (spliced (backTo pos (starEach (e::rest) env))) ei)
 (gz:OpOk prog w h₁ k (λvs=>call (.ref fa) vs) F)(ah:autoParam (starEach (e::rest) env=(false,eval e env)::starEach rest env) aL._auto_1)(h2:autoParam (((backTo pos (starEach rest env)).any λx=>x.fst)=false) aL._auto_1)
 (aw:autoParam (eval (f.Call (e::rest) [] pos) env=(do let g<-eval f env;callWith pos g [] (backTo pos (starEach (e::rest) env)) (backToKw pos (keywordEach [] env)))) aL._auto_1):
 bj prog w h₁ own env ns k (eval (.Call f (e::rest) [] pos) env) (ba F ei):=
 .of λA W U σ s Q E aE ao R=>by
 rw[aw]
 refine a5 (hf A W U σ _ σ s _ E aE rfl R λhH iY eg qc iw ab gi kj=>?_)
 rw[show iY=_ from kj.bc]
 refine Kw (o:=o) (fd:=fd) (by rw[ah];exact h2) ?_
 rw[ah] at h⊢
 exact rO (h.go aE ao.bind gi λvs ct ao br bG h1 cE bA ae bu bb=>⟨⟨bu.bE.old _ _ aH,aB⟩,bu.lM (s:={s with heap:=h1,toks:=cE}) gz aE ao bb λv aZ c=>c.then (iw.trans ab bA) (Nat.le_trans ab ae)⟩)
end
section
variable{prog:Program}{w:World}{h₁:Heap}{K:Frag}{own:Bool}{env:Env}{ns:List Str}{k:Nat}
noncomputable def nI(own:Bool)(env:Env)(x:Str):Prop:=env.kindOf x=some .local\/(own=true/\env.kindOf x=some .cell/\(env.cells.lookup x).isSome=true)
theorem JL{U:Loc}(bI:(U.set i (some v))[ai]? =some (some u)):(ai=i/\u=v)\/(ai≠i/\U[ai]? =some (some u)):=by
 rw[List.getElem?_set] at bI
 by_cases e:i=ai
 .rw[if_pos e] at bI
  by_cases q:i<U.length
  .rw[if_pos q] at bI;exact .inl ⟨e.symm,(Option.some.inj (Option.some.inj bI)).symm⟩
  .rw[if_neg q] at bI;exact aq bI
 .rw[if_neg e] at bI;exact .inr ⟨λq=>e q.symm,bI⟩
theorem Jf{i ai:Nat}(aV:ns.Nodup)(av:ns[i]? =some x)(cD:ai≠i)(bB:ns[ai]? =some y):y≠x:=λe=>
 cD ((List.getElem?_inj (List.getElem?_eq_some_iff.mp bB).1 aV).mp (bB.trans (e▸av.symm)))
theorem bC.Bv{U:Loc}(R:bC prog w h₁ own env ns W U σ h)(aw:env.cells.lookup y=some c):c≠env.locals:=by
 rcases R.cells y c aw with⟨_,_,q⟩|⟨_,o,q⟩
 .exact q
 .exactλe=>bL.no R.l (e▸q)
theorem bC.storeName{A:Around}{U:Loc}{ay:Value}{Q:Unit->Shared->Prop}{E:Value->Shared->Prop}
 (R:bC prog w h₁ own env ns W U σ s.heap)(av:ns[i]? =some x)(aV:ns.Nodup)(a0:aM prog w W σ.next v ay)(hk:nI own env x)(hf:env.scope.kind=.function)
 (aP:∀h' cI,bC prog w h₁ own env ns W (U.set i (some v)) σ h'->Q () {s with heap:=h',toks:=cI}):wpAny (model prog w) A (storeName env x ay) Q E s:=by
 rcases hk with aG|⟨aH,aw,hs⟩
 .obtain⟨m,hm,f⟩:=R.U
  refine wpAny_storeName_local aG hm (λh' GU hs=>aP h' _ ⟨R.bE.sameBut hs (.inr ⟨R.l,?_⟩),R.l,R.cells,R.apart,λy c aw=>?_,_,GU,λai u bI=>?_⟩) (by rw[hf];rfl)
  .obtain⟨o,_,_,aH,_⟩:=GU;exact⟨o,aH⟩
  .obtain⟨kZ,z⟩:=R.mI y c aw
   exact⟨kZ,z.sameBut hs (R.Bv aw)⟩
  .rcases JL bI with⟨e,y8⟩|⟨cD,bI⟩
   .rw[e,y8];exact⟨x,ay,av,a0,.inl ⟨aG,if_pos rfl⟩⟩
   .obtain⟨y,fL,bB,aI,h7⟩:=f ai u bI
    exact⟨y,fL,bB,aI,h7.imp (λq=>⟨q.1,(if_neg (Jf aV av cD bB)).trans q.2⟩) λ⟨q,c,aw,z⟩=>⟨q,c,aw,z.sameBut hs (R.Bv aw)⟩⟩
 .obtain⟨c,jv⟩:=Option.isSome_iff_exists.mp hs
  obtain⟨kZ,z⟩:=R.mI x c jv
  obtain⟨m,hm,f⟩:=R.U
  have fi:=R.Bv jv
  have d':W.role c=.U:=by
   rcases R.cells x c jv with⟨_,a,_⟩|⟨q,_⟩
   .exact a
   .rw[aH] at q;exact wG q
  refine wpAny_storeName_cell hf aw jv z λh' Cp hs=>aP h' s.toks ⟨R.bE.sameBut hs (.inr ⟨d',Cp.elim λo q=>⟨o,q.1⟩⟩),R.l,R.cells,R.apart,λy d aB=>?_,m,hm.sameBut hs (Ne.symm fi),λai u bI=>?_⟩
  .by_cases e:d=c
   .rw[e];exact⟨_,Cp⟩
   .obtain⟨aar,q⟩:=R.mI y d aB
    exact⟨aar,q.sameBut hs e⟩
  .rcases JL bI with⟨e,y8⟩|⟨cD,bI⟩
   .rw[e,y8];exact⟨x,ay,av,a0,.inr ⟨.inl aw,c,jv,Cp⟩⟩
   .obtain⟨y,fL,bB,aI,h7⟩:=f ai u bI
    exact⟨y,fL,bB,aI,h7.imp id λ⟨q,d,aB,p⟩=>⟨q,d,aB,p.sameBut hs λe=>Jf aV av cD bB (R.apart y x _ aB (e▸jv))⟩⟩
noncomputable def aD:cf:=λU σ=>some (.next,U,σ)
noncomputable def aj(D ei:cf):cf:=λU σ=>(D U σ).bind λr=>match r with
 |(.next,U,σ)=>ei U σ
 |r=>some r
theorem fT.to(h:aJ (some (f,p)) (fT prog w h₁ env ns W σ s Q)):fT prog w h₁ env ns W σ s Q f p:=h
theorem fT.here(h:fT prog w h₁ env ns W σ s Q f (U,σ))(R:bC prog w h₁ true env ns W U σ s.heap)(r:kr prog w W σ.next f g0):Q g0 s:=h W g0 s.heap s.toks az.le.refl (Nat.le_refl _) R r
theorem fT.then(h:fT prog w h₁ env ns W σ s Q f p)(bA:W.le σ.next br)(ae:σ.next<=ct.next):fT prog w h₁ env ns br ct {s with heap:=h1,toks:=cE} Q f p:=
 λbH f2 h2 tk2 a' aK cn bJ=>h bH f2 h2 tk2 (bA.trans ae a') (Nat.le_trans ae aK) cn bJ
theorem bf:SOk prog w h₁ env ns k (execs [] env) aD:=
 .of λA W U σ s Q E aE ao R=>wpN.of<|wpAny_execs_nil (fT.here ao R trivial)
theorem aR{st:Stmt}(h:SOk prog w h₁ env ns k (exec st env) D)(aI:SOk prog w h₁ env ns k (execs rest env) ei):SOk prog w h₁ env ns k (execs (st::rest) env) (aj D ei):=
 .of λA W U σ s Q E aE ao R=>aaT (h.go aE ao.bind R λf1 p ao br abN h1 cE bA ae bu bb=>by
  revert ao
  refine kr.rv bb (λao=>?_) (λao=>?_) (λao=>?_) (λv ay e' ao=>?_)
  .exact aI.go aE ao bu λf2 jD c=>c.then bA ae
  .exact fT.to ao br _ h1 cE bA ae bu trivial
  .exact fT.to ao br _ h1 cE bA ae bu trivial
  .exact fT.to ao br _ h1 cE bA ae bu e')
noncomputable def b6(i:Nat)(D:cW):cf:=λU σ=>(D U σ).bind λr=>some (.next,U.set i (some r.1),r.2)
theorem dQ(h:bj prog w h₁ true env ns k (eval e env) D)(av:ns[i]? =some x)(aV:ns.Nodup)(hk:nI true env x)(hf:autoParam (env.scope.kind=.function) aL._auto_1)
 (hs:autoParam (swapsWith e (some (.Name x iV)) pos.line env=pure false) aL._auto_1):SOk prog w h₁ env ns k (exec (.Assign [.Name x iV] e pos) env) (b6 i D):=
 .of λA W U σ s Q E aE ao R=>aaB (h.go aE ao.bind R λeb ct ao br dz h1 cE bA ae bu bb=>
  wpN.of<|wpAny_bindName<|bu.storeName (s:={s with heap:=h1,toks:=cE}) av aV bb hk hf λh2 tk2 cn=>fT.to ao br _ h2 tk2 bA ae cn trivial) hs
noncomputable def bz(D:cW):cf:=λU σ=>(D U σ).bind λr=>some (.ret r.1,U,r.2)
theorem cL(h:bj prog w h₁ true env ns k (eval e env) D):SOk prog w h₁ env ns k (exec (.Return (some e) pos) env) (bz D):=
 .of λA W U σ s Q E aE ao R=>aaK (h.go aE ao.bind R λeb ct ao br dz h1 cE bA ae bu bb=>fT.to ao br _ h1 cE bA ae bu bb)
noncomputable def bQ(T:gN)(eH d1:cf):cf:=λU σ=>(T U σ).bind λr=>if r.1=true then eH U r.2 else d1 U r.2
theorem c9(ht:BOk prog w h₁ true env ns k (isTrue t env (eval t env)) T)(h1:SOk prog w h₁ env ns k (execs b env) eH)(h2:SOk prog w h₁ env ns k (execs o env) d1):
 SOk prog w h₁ env ns k (exec (.If t b o pos) env) (bQ T eH d1):=
 .of λA W U σ s Q E aE ao R=>aaI (ht.go aE ao.bind R λi8 ct ao br bP n5 cE bA ae bu bb=>by
  rw[show i8=bP from bb] at ao
  rcases bP with _|_
  .exact h2.go aE ao bu λf2 jD c=>c.then bA ae
  .exact h1.go aE ao bu λf2 jD c=>c.then bA ae)
noncomputable def so:cf:=λU σ=>some (.brk,U,σ)
noncomputable def sr:cf:=λU σ=>some (.cont,U,σ)
theorem YK:SOk prog w h₁ env ns k (exec (.Break pos) env) so:=.of λA W U σ s Q E aE ao R=>wpN.of<|wpAny_Break (fT.here ao R trivial)
theorem YL:SOk prog w h₁ env ns k (exec (.Continue pos) env) sr:=.of λA W U σ s Q E aE ao R=>wpN.of<|wpAny_Continue (fT.here ao R trivial)
noncomputable def dM(D:cW):cf:=λU σ=>(D U σ).bind λr=>some (.next,U,r.2)
theorem hD(h:bj prog w h₁ true env ns k (eval e env) D)(hi:autoParam (interactive env=false) aL._auto_1)(hs:autoParam (swapsWith e none pos.line env=pure false) aL._auto_1):SOk prog w h₁ env ns k (exec (.Expr e pos) env) (dM D):=by
 refine .of λA W U σ s Q E aE ao R=>?_
 rw[exec_Expr env e pos hi hs]
 exact a5 (d0 (a5 (h.go aE ao.bind R λeb ct ao br dz h1 cE bA ae bu bb=>wpN.of<|wpAny_dropValue (fT.to ao br _ h1 cE bA ae bu trivial))))
noncomputable def o6(i:Nat)(F:bX)(D:cW):cf:=λU σ=>(C i U σ).bind λo=>(D U o.2).bind λr=>(F [o.1,r.1] r.2).bind λq=>some (.next,U.set i (some q.1),q.2)
theorem JG(h:bj prog w h₁ true env ns k (eval e env) D)(gz:OpOk prog w h₁ k (eG (inplaceOp op)) F)(av:ns[i]? =some x)(aV:ns.Nodup)(hk:env.kindOf x=some .local)(hf:autoParam (env.scope.kind=.function) aL._auto_1):
 SOk prog w h₁ env ns k (exec (.AugAssign (.Name x iV) op e pos) env) (o6 i F D):=by
 refine .of λA W U σ s Q E aE ao R=>?_
 obtain⟨iY,abF,gB,ao⟩:=ao.bind.cv
 obtain⟨bI,a7⟩:=HO gB
 rw[a7] at ao
 obtain⟨m,hm,g⟩:=R.U
 obtain⟨y,fL,bB,aI,hs⟩:=g i _ bI
 have Rp:m x=some fL:=by
  rw[Option.some.inj (av.symm.trans bB)] at hk⊢
  rcases hs with⟨_,q⟩|⟨q|q,_⟩
  .exact q
  .exact nomatch hk.symm.trans q
  .exact nomatch hk.symm.trans q
 exact aaD (wpN.of<|wpAny_loadName_local hf hk hm Rp<|h.go aE (aJ.bind ao) R λeb ct ao br dz h1 cE bA ae bu bb=>
  bu.lM (s:={s with heap:=h1,toks:=cE}) gz aE (aJ.bind ao) (.cons (aI.a4 bA.1 ae) (.cons bb .nil)) λgx bD ao bH dj h2 tk2 a' aK cn bJ=>
  wpN.of<|wpAny_bindName<|cn.storeName (s:={s with heap:=h2,toks:=tk2}) av aV bJ (.inl hk) hf λaQ cN dc=>fT.to ao bH _ aQ cN (bA.trans ae a') (Nat.le_trans ae aK) dc trivial)
variable{prog:Program}{w:World}{h₁:Heap}{K:Frag}{own:Bool}{env:Env}{ns:List Str}{k:Nat}
noncomputable def bp.v:bp->J
 |.none=>.none
 |.int i=>.int i
 |.str x=>.str x
noncomputable def nv(a b c:Int):List J:=(List.range (Builtin.Range.rangeSize a b c).toNat).map λi=>J.int (a+(i:Nat)*c)
noncomputable def dO:J->St->Option (List J)
 |.bo vs,_=>some vs
 |.bk vs,_=>some vs
 |.bytes b,_=>some (b.map λx=>.int x.toNat)
 |.e8 a b c,_=>if Builtin.Range.small a b c=true then some (nv a b c) else none
 |.cw es,_=>some (es.map λe=>e.1.v)
 |.ref c,σ=>match σ.cells c with
  |some (.list vs)=>some vs
  |_=>none
 |_,_=>none
structure lX (prog:Program) (w:World) (h₁:Heap) (k:Nat) (src:J) (ay:Value) (items:List J) (aO:Addr) (N:az->Prop) (P:Nat->Obj->Prop):Prop where
 tY:∀W W' n,N W->W.eM n W'->N W'
 cls:∀i o,P i o->∃n,o.cls=.type n/\(["enumerate","zip","dict_itemiterator","dict_reverseitemiterator","odict_iterator","itertools.zip_longest","itertools.pairwise"]:List String).contains n=false
 item:∀(A:Around) (W:az) (σ:St) i x o (s:Shared) (Q:Option Value->Shared->Prop) (E:Value->Shared->Prop),eC A k->N W->bw prog w h₁ W σ s.heap->aM prog w W σ.next src ay->dO src σ=some items->items[i]? =some x->
  s.heap.get? aO=some o->P i o->W.role aO=.fix o->
  (∀dC h' cI cO,aM prog w W σ.next x dC->h'.get? aO=some cO->P (i+1) cO->Heap.SameBut aO s.heap h'->Q (some dC) {s with heap:=h',toks:=cI})->wpAny (model prog w) A (pyNext (.ref aO)) Q E s
 done:∀(A:Around) (W:az) (σ:St) i o (s:Shared) (Q:Option Value->Shared->Prop) (E:Value->Shared->Prop),eC A k->N W->bw prog w h₁ W σ s.heap->aM prog w W σ.next src ay->dO src σ=some items->items[i]? =none->
  i<=items.length->s.heap.get? aO=some o->P i o->W.role aO=.fix o->
  (∀h' cI,Heap.ExtBut aO s.heap h'->Q none {s with heap:=h',toks:=cI})->wpAny (model prog w) A (pyNext (.ref aO)) Q E s
 self:∀(A:Around) i o (s:Shared) (Q:Value->Shared->Prop) (E:Value->Shared->Prop),s.heap.get? aO=some o->P i o->Q (.ref aO) s->wpAny (model prog w) A (pyIter (.ref aO)) Q E s
theorem bt.none(h:bt prog w W n vs bG){i:Nat}(e:vs[i]? =.none):bG[i]? =.none:=by
 rw[List.getElem?_eq_none_iff] at e⊢
 rw[h.length];exact e
theorem A1(R:bw prog w h₁ W σ h)(a0:aM prog w W σ.next src ay)(hs:src=.bo vs\/∃c,src=.ref c/\σ.cells c=some (.list vs)):
 ∃a items,ay=.ref a/\h.IsList a items/\bt prog w W σ.next vs items.toList/\((∃c,W.role a=.cell c)\/∃o,W.role a=.imm o):=by
 rcases hs with e|⟨c,e,aw⟩
 .rw[e] at a0
  obtain⟨a,o,i,m,bb,bJ,dx,p8,fU⟩:=a0.bc
  exact⟨a,i,fU,⟨_,R.imm _ _ bb,bJ,_,dx⟩,p8,.inr ⟨_,bb⟩⟩
 .rw[e] at a0
  obtain⟨_,fU⟩:=a0.bc
  obtain⟨r,q⟩:=R.cell c _ aw
  obtain⟨i,m,g,q⟩:=q.bc
  exact⟨_,i,fU,⟨_,g,rfl,_,rfl⟩,q,.inl ⟨_,r⟩⟩
theorem c6.v9{x:Option c6}(e:(match x with|some (.list vs)=>some vs|_=>none)=some vs):x=some (.list vs):=by
 rcases x with _|(_|_|_|_|_)
 .exact aq e
 .exact congrArg (λx=>some (c6.list x)) (Option.some.inj e)
 .exact aq e
 .exact aq e
 .exact aq e
 .exact aq e
theorem Hf(hs:src=.bo items\/∃c,src=.ref c)(ka:ay=.ref a):
 lX prog w h₁ k src ay items aO (λ_=>True) λi o=>o.cls=.type "list_iterator"/\o.data=.fields #[.ref a,.int i 0]:=by
 subst ka
 have bW:∀{σ:St},dO src σ=some items->src=.bo items\/∃c,src=.ref c/\σ.cells c=some (.list items):=by
  intro σ hi
  rcases hs with e|⟨c,e⟩
  .exact .inl e
  .rw[e] at hi;exact .inr ⟨c,e,c6.v9 hi⟩
 refine⟨λ_ _ _ _ _=>trivial,λ_ _ h=>⟨_,h.1,by decide⟩,?_,?_,?_⟩
 .intro A W σ i x o s Q E aE _ R a0 hi av aH cG cP aP
  obtain⟨bq,dq,e,aG,aI,_⟩:=A1 R a0 (bW hi)
  rw[<-Value.ref.inj e] at aG
  obtain⟨dC,je,AG⟩:=aI.get av
  refine wpAny_pyNext_list_item ⟨o,aH,cG⟩ aG (by simpa using je) λh' hit m4=>?_
  obtain⟨cO,fV,lq⟩:=hit
  exact aP dC h' s.toks cO AG fV lq m4
 .intro A W σ i o s Q E aE _ R a0 hi av m1 aH cG cP aP
  obtain⟨bq,dq,e,aG,aI,_⟩:=A1 R a0 (bW hi)
  rw[<-Value.ref.inj e] at aG
  exact wpAny_pyNext_list_end aE.h ⟨o,aH,cG⟩ aG (by simpa using aI.none av) λh' ag=>aP h' s.toks ag
 .intro A i o s Q E aH cG aP
  exact wpAny_pyIter_listiter ⟨o,aH,cG⟩ aP
theorem Sr(ka:ay=.ref a):lX prog w h₁ k (.bk items) ay items aO (λ_=>True) λi o=>o.cls=.type "tuple_iterator"/\o.data=.fields #[.ref a,.int i 0]:=by
 subst ka
 refine⟨λ_ _ _ _ _=>trivial,λ_ _ h=>⟨_,h.1,by decide⟩,?_,?_,?_⟩
 .intro A W σ i x o s Q E aE _ R a0 hi av aH cG cP aP
  .obtain⟨_,dq,m,bb,aI,e⟩:=a0.bc
   rw[<-Value.ref.inj e] at bb
   obtain⟨dC,je,AG⟩:=aI.get av
   refine wpAny_pyNext_tuple_item ⟨o,aH,cG⟩ ⟨_,R.imm _ _ bb,rfl,_,rfl⟩ (by simpa using je) λh' hit m4=>?_
   obtain⟨cO,fV,lq⟩:=hit
   exact aP dC h' s.toks cO AG fV lq m4
 .intro A W σ i o s Q E aE _ R a0 hi av m1 aH cG cP aP
  .obtain⟨_,dq,m,bb,aI,e⟩:=a0.bc
   rw[<-Value.ref.inj e] at bb
   exact wpAny_pyNext_tuple_end aE.h ⟨o,aH,cG⟩ ⟨_,R.imm _ _ bb,rfl,_,rfl⟩ (by simpa using aI.none av) λh' ag=>aP h' s.toks ag
 .intro A i o s Q E aH cG aP
  exact wpAny_pyIter_tupleiter ⟨o,aH,cG⟩ aP
theorem So(ka:ay=.bytes b.toArray t):lX prog w h₁ k (.bytes b) ay (b.map λx=>J.int x.toNat) aO (λ_=>True) λi o=>o.cls=.type "bytes_iterator"/\o.data=.fields #[.bytes b.toArray t,.int i 0]:=by
 subst ka
 refine⟨λ_ _ _ _ _=>trivial,λ_ _ h=>⟨_,h.1,by decide⟩,?_,?_,?_⟩
 .intro A W σ i x o s Q E aE _ R a0 hi av aH cG cP aP
  rw[List.getElem?_map] at av
  obtain⟨y,bB,rfl⟩:=Option.map_eq_some_iff.mp av
  refine KBw.next_item (b:=b.toArray) ⟨o,aH,cG⟩ (by simpa using bB) λh' hit m4=>?_
  obtain⟨cO,fV,lq⟩:=hit
  exact aP _ h' _ cO (.int _ _) fV lq m4
 .intro A W σ i o s Q E aE _ R a0 hi av m1 aH cG cP aP
  rw[List.getElem?_map,Option.map_eq_none_iff] at av
  exact KBw.next_end (b:=b.toArray) aE.h ⟨o,aH,cG⟩ (by simpa using av) λh' ag=>aP h' s.toks ag
 .intro A i o s Q E aH cG aP
  exact KBw.pyIter_self (b:=b.toArray) (i:=i) ⟨o,aH,cG⟩ aP
theorem YE{x:J}(h:(nv a b c)[i]? =some x):x=.int (a+(i:Nat)*c)/\(i:Int)<Builtin.Range.rangeSize a b c:=by
 unfold nv at h
 rw[List.getElem?_map] at h
 obtain⟨ai,cD,rfl⟩:=Option.map_eq_some_iff.mp h
 obtain⟨h1,h2⟩:=List.getElem?_eq_some_iff.mp cD
 rw[List.getElem_range] at h2
 subst h2
 rw[List.length_range] at h1
 exact⟨rfl,by exact aC.WV h1⟩
theorem YF(h:(nv a b c)[i]? =none)(hi:i<=(nv a b c).length):Builtin.Range.rangeSize a b c-(i:Int)<=0:=by
 rw[List.getElem?_eq_none_iff] at h
 unfold nv at h
 rw[List.length_map,List.length_range] at h
 exact aC.WW h
theorem Sq{aO:Addr}:lX prog w h₁ k (.e8 a b c) ay (nv a b c) aO (λ_=>True) λi o=>o={cls:=.type "range_iterator",dict:=none,data:=.fields #[rawInt (a+(i:Nat)*c),rawInt (Builtin.Range.rangeSize a b c-(i:Nat)),rawInt c],slots:= #[]}:=by
 refine⟨λ_ _ _ _ _=>trivial,λ_ _ h=>by subst h;exact⟨_,rfl,by decide⟩,?_,?_,?_⟩
 .intro A W σ i x o s Q E aE _ R a0 hi av aH cG cP aP
  subst cG
  obtain⟨rfl,df⟩:=YE av
  refine wpAny_pyNext_range_item aH (by exact aC.WX df) λh' hit m4=>?_
  refine aP _ h' _ _ (.int _ _) hit ?_ m4
  have a8:a+(i:Nat)*c+c=a+((i+1:Nat):Int)*c:=by rw[Int.natCast_add,Int.add_mul];simp[Int.add_assoc]
  have a7:Builtin.Range.rangeSize a b c-(i:Nat)-1=Builtin.Range.rangeSize a b c-((i+1:Nat):Int):=by exact aC.WY
  rw[a8,a7]
 .intro A W σ i o s Q E aE _ R a0 hi av m1 aH cG cP aP
  subst cG
  exact wpAny_pyNext_range_end aE.h aH (YF av m1) λh' ag=>aP h' s.toks ag
 .intro A i o s Q E aH cG aP
  subst cG
  exact wpAny_pyIter_rangeiter aH aP
theorem d6.length(r:d6 prog w W n es kvs):kvs.length=es.length:=r.ind (P:=λes kvs=>kvs.length=es.length) rfl λ_ _ aX=>congrArg Nat.succ aX
theorem Mq{k:bp}(h:jr k ay=true):aM prog w W n k.v ay:=by
 rcases DY h with⟨rfl,rfl⟩|⟨i,t,rfl,rfl⟩|⟨x,t,rfl,rfl⟩
 .exact .none
 .exact .int _ _
 .exact .str _ _
theorem Sp{ep:Nat}(ka:ay=.ref d)(G2:wU.ExactDict)(aB:wU.data=.dict eJ ep)(hk:KeysOf (gQ prog w) eJ)(hp:Pairs (gQ prog w) eJ.toList kvs)(aV:(kvs.map (·.1)).Nodup)
 (aG:kvs.map (·.1)=es.map (·.1)):
 lX prog w h₁ k (.cw es) ay (es.map λe=>e.1.v) aO (λW=>W.role d=.imm wU) λi o=>o.cls=.type "dict_keyiterator"/\o.data=.fields #[.ref d,.int i 0,.int kvs.length 0,.int ep 0]:=by
 subst ka
 have len:kvs.length=es.length:=by simpa using congrArg List.length aG
 refine⟨λ_ _ _ h l=>l.1 _ _ h,λ_ _ h=>⟨_,h.1,by decide⟩,?_,?_,?_⟩
 .intro A W σ i x o s Q E aE h6 R a0 hi av aH cG cP aP
  have at':s.heap.DictAt (gQ prog w) d kvs ep:=⟨wU,eJ,R.imm _ _ h6,G2,aB,hk,hp,aV⟩
  rw[List.getElem?_map] at av
  obtain⟨⟨a,u⟩,bB,rfl⟩:=Option.map_eq_some_iff.mp av
  have qS:(kvs.map (·.1))[i]? =some a:=by rw[aG,List.getElem?_map,bB];rfl
  rw[List.getElem?_map] at qS
  obtain⟨⟨bq,fL⟩,hz,e⟩:=Option.map_eq_some_iff.mp qS
  cases e
  refine wpAny_pyNext_dict_item (it:=aO) (i:=i) ⟨o,aH,cG⟩ at' hz λkey h' Rb hit m4=>?_
  obtain⟨cO,fV,lq⟩:=hit
  exact aP _ h' s.toks cO (Mq Rb) fV lq m4
 .intro A W σ i o s Q E aE h6 R a0 hi av m1 aH cG cP aP
  have at':s.heap.DictAt (gQ prog w) d kvs ep:=⟨wU,eJ,R.imm _ _ h6,G2,aB,hk,hp,aV⟩
  refine wpAny_pyNext_dict_end (it:=aO) (i:=i) aE.h ⟨o,aH,cG⟩ at' ?_ λh' ag=>aP h' s.toks ag
  rw[List.getElem?_eq_none_iff] at av⊢
  rw[List.length_map] at av;exact aC.WZ len av
 .intro A i o s Q E aH cG aP
  exact wpAny_pyIter_keyiter (i:=i) ⟨o,aH,cG⟩ aP
theorem d6.h9(r:d6 prog w W n es kvs):kvs.map (·.1)=es.map (·.1):=r.ind (P:=λes kvs=>kvs.map (·.1)=es.map (·.1)) rfl λ_ _ aX=>congrArg (List.cons _) aX
noncomputable def Lb(prog:Program)(w:World)(h₁:Heap)(k:Nat)(W:az)(s:Shared)(Q:Value->Shared->Prop)(items:List J)(src:J)(ay:Value):Prop:=
 ∀o N P,o.isFreed=false->N W->P 0 o->lX prog w h₁ k src ay items s.heap.objs.size N P->Q (.ref s.heap.objs.size) {s with heap:=s.heap.push o}
theorem BK(R:bw prog w h₁ W σ s.heap)(a0:aM prog w W σ.next src ay)(hi:dO src σ=some items)
 (aP:∀o N P,o.isFreed=false->N W->P 0 o->lX prog w h₁ k src ay items s.heap.objs.size N P->Q (.ref s.heap.objs.size) {s with heap:=s.heap.push o}):wpAny (model prog w) A (pyIter ay) Q E s:=
 aM.casesOn (motive_1:=λsrc ay _=>dO src σ=some items->Lb prog w h₁ k W s Q items src ay->wpAny (model prog w) A (pyIter ay) Q E s) a0 (λhi _=>aq hi) (λ_ hi _=>aq hi) (λ_ _ hi _=>aq hi) (λ_ _ hi _=>aq hi)
  (λb t hi aP=>by
    rw[<-Option.some.inj hi] at aP
    exact KBw.pyIter_bytes (aP _ _ _ rfl trivial ⟨rfl,rfl⟩ (So rfl)))
  (λbb _ hi aP=>by
    rw[<-Option.some.inj hi] at aP
    exact wpAny_pyIter_tuple ⟨_,R.imm _ _ bb,rfl,_,rfl⟩ (aP _ _ _ rfl trivial ⟨rfl,rfl⟩ (Sr rfl)))
  (λbb bJ dx _ hi aP=>wpAny_pyIter_list ⟨_,R.imm _ _ bb,bJ,_,dx⟩ (aP _ _ _ rfl trivial ⟨rfl,rfl⟩ (Hf (.inl (congrArg J.bo (Option.some.inj hi))) rfl)))
  (λr z c q hi aP=>by
    obtain⟨l2,eJ,ep,aB,hk,hp,aV⟩:=c
    rw[<-Option.some.inj hi] at aP
    exact wpAny_pyIter_dict z ⟨_,_,R.imm _ _ r,l2,aB,hk,hp,aV⟩ (aP {cls:=.type "dict_keyiterator",data:=.fields #[.ref _,.int 0 0,.int _ 0,.int ep 0]} _ _ rfl r ⟨rfl,rfl⟩ (Sp rfl l2 aB hk hp aV q.h9)))
  (λ{_ a b c _ _ _} r hi aP=>by
    have hi:(if Builtin.Range.small a b c=true then some (nv a b c) else none)=some items:=hi
    by_cases AA:Builtin.Range.small a b c=true
    .rw[if_pos AA] at hi
     rw[<-Option.some.inj hi] at aP
     exact wpAny_pyIter_range (R.imm _ _ r) AA (aP _ _ _ rfl trivial (by simp) Sq)
    .rw[if_neg AA] at hi;exact aq hi)
  (λ{c} _ hi aP=>by
    obtain⟨i,m,g,q⟩:=(R.cell c _ (c6.v9 hi)).2.bc
    exact wpAny_pyIter_list ⟨_,g,rfl,_,rfl⟩ (aP _ _ _ rfl trivial ⟨rfl,rfl⟩ (Hf (.inr ⟨c,rfl⟩) rfl)))
  (λ_ hi _=>aq hi) hi aP
end
section
variable{prog:Program}{w:World}{h₁:Heap}{K:Frag}{own:Bool}{env:Env}{ns:List Str}{k:Nat}
variable(prog w h₁ own env ns k) in
noncomputable def kv(t:Expr)(bind:J->Loc->Option Loc):Prop:=
 ∀(A:Around) (W:az) (U kQ:Loc) (σ:St) v ay (s:Shared) (Q:Unit->Shared->Prop) (E:Value->Shared->Prop),eC A k->bind v U=some kQ->bC prog w h₁ own env ns W U σ s.heap->aM prog w W σ.next v ay->
  (∀h' cI,bC prog w h₁ own env ns W kQ σ h'->Q () {s with heap:=h',toks:=cI})->wpAny (model prog w) A (assign t env ay) Q E s
noncomputable def c2(i:Nat):J->Loc->Option Loc:=λv U=>some (U.set i (some v))
theorem fK(av:ns[i]? =some x)(aV:ns.Nodup)(hk:nI own env x)(hf:autoParam (env.scope.kind=.function) aL._auto_1):kv prog w h₁ own env ns k (.Name x p) (c2 i):=by
 intro A W U kQ σ v ay s Q E aE ag R a0 aP
 cases ag
 exact wpAny_assign_Name (R.storeName av aV a0 hk hf aP)
noncomputable def hj:List Nat->List J->Loc->Loc
 |i::is,v::vs,U=>hj is vs (U.set i (some v))
 |_,_,U=>U
noncomputable def dJ(is:List Nat):J->Loc->Option Loc:=λv U=>match v with
 |.bk vs=>if vs.length=is.length then some (hj is vs U) else none
 |_=>none
variable(own env ns) in
inductive o2:List Expr->List Nat->Prop
 |nil:o2 [] []
 |cons {x:Str} {p:Pos} {i:Nat} {es:List Expr} {is:List Nat}:ns[i]? =some x->nI own env x->o2 es is->o2 (.Name x p::es) (i::is)
theorem o2.E0(h:o2 own env ns es is):(assignEach es env).length=is.length/\(assignEach es env).findIdx? (λx=>x.1)=none:=by
 induction h with
 |nil=>exact⟨rfl,rfl⟩
 |@cons x p i es is _ _ _ aX=>
  have e:assignEach (.Name x p::es) env=(false,assign (.Name x p) env)::assignEach es env:=rfl
  rw[e]
  refine⟨by rw[List.length_cons,List.length_cons,aX.1],?_⟩
  rw[List.findIdx?_cons,aX.2];rfl
theorem ZX(aV:ns.Nodup)(hf:env.scope.kind=.function)(h:o2 own env ns es is):
 ∀{vs:List J} {bG:List Value} {U:Loc} {s:Shared} {Q:Unit->Shared->Prop},vs.length=is.length->bt prog w W σ.next vs bG->bC prog w h₁ own env ns W U σ s.heap->
  (∀h' cI,bC prog w h₁ own env ns W (hj is vs U) σ h'->Q () {s with heap:=h',toks:=cI})->
  wpAny (model prog w) A (assignInOrder ((assignEach es env).map (·.2)) bG) Q E s:=by
 induction h with
 |nil=>
  intro vs bG U s Q aG a0 R aP
  induction vs with
  |nil=>cases a0;exact wpAny_assignInOrder_none (aP s.heap s.toks R)
  |cons _ _=>cases aG
 |@cons x p i es is av hk _ aX=>
  intro vs bG U s Q aG a0 R aP
  cases a0 with
  |nil=>cases aG
  |cons a b=>
   have e:assignEach (.Name x p::es) env=(false,assign (.Name x p) env)::assignEach es env:=rfl
   rw[e]
   refine wpAny_assignInOrder_more (wpAny_assign_Name (R.storeName av aV a hk hf λh1 cE bu=>?_))
   exact aX (s:={s with heap:=h1,toks:=cE}) (by simpa using aG) b bu aP
theorem bC.j6{U:Loc}(R:bC prog w h₁ own env ns W U σ h)(e:∀b o,h.get? b=some o->h'.get? b=some o):bC prog w h₁ own env ns W U σ h':=
 R.next (R.bE.j6 e) az.le.refl (Nat.le_refl _) λa ha=>by
  obtain⟨o,aH⟩:=R.bE.live a (bL.ne ha)
  rw[aH,e a o aH]
theorem Ed(h:dJ is v U=some kQ):∃vs,v=.bk vs/\vs.length=is.length/\kQ=hj is vs U:=
 J.casesOn (motive_1:=λv=>dJ is v U=some kQ->∃vs,v=.bk vs/\vs.length=is.length/\kQ=hj is vs U) v (λh=>aq h) (λ_ h=>aq h) (λ_ h=>aq h) (λ_ h=>aq h) (λ_ h=>aq h) (λvs h=>by
  have h:(if vs.length=is.length then some (hj is vs U) else none)=some kQ:=h
  by_cases e:vs.length=is.length
  .rw[if_pos e] at h;exact⟨vs,rfl,e,(Option.some.inj h).symm⟩
  .rw[if_neg e] at h;exact aq h) (λ_ h=>aq h) (λ_ h=>aq h) (λ_ _ _ h=>aq h) (λ_ h=>aq h) (λ_ h=>aq h) h
theorem ij(h:o2 own env ns es is)(aV:ns.Nodup)(hf:autoParam (env.scope.kind=.function) aL._auto_1):kv prog w h₁ own env ns k (.Tuple es ai p) (dJ is):=by
 intro A W U kQ σ v ay s Q E aE ag R a0 aP
 obtain⟨vs,fU,aG,eI⟩:=Ed ag
 rw[fU] at a0
 rw[eI] at aP
 obtain⟨a,items,m,bb,aI,e⟩:=a0.bc
 rw[e]
 refine wpAny_assign_Tuple aE.h ⟨_,R.bE.imm _ _ bb,rfl,_,rfl⟩ ?_ h.E0.2 λh' ag=>?_
 .rw[h.E0.1,<-aG,<-aI.length,Array.length_toList]
 .exact ZX (s:={s with heap:=h'}) aV hf h aG aI (R.j6 λb o e=>ag b o (Nat.ne_of_lt (Heap.lt_size e)) e) aP
noncomputable def fx(bind:J->Loc->Option Loc)(D:cW):cf:=λU σ=>(D U σ).bind λr=>(bind r.1 U).bind λl=>some (.next,l,r.2)
theorem km{bind:J->Loc->Option Loc}(h:bj prog w h₁ true env ns k (eval e env) D)(ht:kv prog w h₁ true env ns k t bind)(abW:autoParam (starEach [t] env=[(false,eval t env)]) aL._auto_1)
 (ha:autoParam ((assignEach [t] env).map (·.2)=[assign t env]) aL._auto_1)(hs:autoParam (swapsWithSole [t] e pos.line env=pure false) aL._auto_1)(hw:autoParam (swappedStores [t] e env=pure none) aL._auto_1):SOk prog w h₁ env ns k (exec (.Assign [t] e pos) env) (fx bind D):=by
 refine .of λA W U σ s Q E aE ao R=>aaC (h.go aE ao.bind R λeb ct ao br dz h1 cE bA ae bu bb=>?_) hs hw
 obtain⟨a',a7,ao⟩:=(aJ.gR ao).cv
 rw[ha]
 show wpN _ _ (assign t env dz) _ _ _
 exact wpN.of<|ht A br U _ ct eb dz _ _ E aE a7 bu bb λh2 tk2 cn=>fT.to ao br _ h2 tk2 bA ae cn trivial
theorem bt.reverse(r:bt prog w W n vs bG):bt prog w W n vs.reverse bG.reverse:=
 r.ind (P:=λvs bG=>bt prog w W n vs.reverse bG.reverse) .nil λa _ aX=>by rw[List.reverse_cons,List.reverse_cons];exact aX.append (.rx a)
theorem len_ind{α bR:Type}{P:List α->List bR->Prop}(n:P [] [])(c:∀a as b bg,as.length=bg.length->P as bg->P (a::as) (b::bg))(as:List α):∀bg:List bR,as.length=bg.length->P as bg:=by
 induction as with
 |nil=>
  intro bg h
  rcases bg with _|⟨b,bg⟩
  .exact n
  .exact(Nat.succ_ne_zero _ h.symm).elim
 |cons a as aX=>
  intro bg h
  rcases bg with _|⟨b,bg⟩
  .exact(Nat.succ_ne_zero _ h).elim
  .exact c a as b bg (Nat.succ.inj h) (aX bg (Nat.succ.inj h))
theorem Zq(is:List Nat)(vs:List J)(aG:vs.length=is.length):∀U:Loc,i∉is->(hj is vs U).set i (some v)=hj is vs (U.set i (some v)):=
 len_ind (P:=λvs is=>∀U:Loc,i∉is->(hj is vs U).set i (some v)=hj is vs (U.set i (some v))) (λ_ _=>rfl) (λu vs ai is _ aX U GW=>by
  have e:=aX (U.set ai (some u)) λq=>GW (.tail _ q)
  exact e.trans (congrArg (hj is vs) (List.set_comm _ _ λq:ai=i=>GW (by rw[q];exact .head _)))) vs is aG
theorem Zs(is:List Nat)(vs:List J)(aG:vs.length=is.length):∀U:Loc,hj (is++[i]) (vs++[v]) U=(hj is vs U).set i (some v):=
 len_ind (P:=λvs is=>∀U:Loc,hj (is++[i]) (vs++[v]) U=(hj is vs U).set i (some v)) (λ_=>rfl) (λu _ ai _ _ aX U=>aX (U.set ai (some u))) vs is aG
theorem Zr(aG:vs.length=is.length):∀U:Loc,is.Nodup->hj is.reverse vs.reverse U=hj is vs U:=
 len_ind (P:=λvs is=>∀U:Loc,is.Nodup->hj is.reverse vs.reverse U=hj is vs U) (λ_ _=>rfl) (λu vs ai is aG aX U aB=>by
  have h:=List.nodup_cons.mp aB
  rw[List.reverse_cons,List.reverse_cons,Zs _ _ (by rw[List.length_reverse,List.length_reverse];exact aG),aX _ h.2,Zq _ _ aG _ h.1]
  rfl) vs is aG
theorem ZY(aV:ns.Nodup)(hf:env.scope.kind=.function)(a0:bt prog w W σ.next vs bG):∀(xs:List Str) (is:List Nat) (U:Loc) (s:Shared),
 xs.map some=is.map (λi=>ns[i]?)->(∀x∈xs,nI own env x)->vs.length=is.length->bC prog w h₁ own env ns W U σ s.heap->
  (∀h' cI,bC prog w h₁ own env ns W (hj is vs U) σ h'->Q () {s with heap:=h',toks:=cI})->
  wpAny (model prog w) A (assignInOrder (xs.map λn=>bindName env n) bG) Q E s:=
 a0.ind (P:=λvs bG=>∀(xs:List Str) (is:List Nat) (U:Loc) (s:Shared),xs.map some=is.map (λi=>ns[i]?)->(∀x∈xs,nI own env x)->vs.length=is.length->bC prog w h₁ own env ns W U σ s.heap->
  (∀h' cI,bC prog w h₁ own env ns W (hj is vs U) σ h'->Q () {s with heap:=h',toks:=cI})->wpAny (model prog w) A (assignInOrder (xs.map λn=>bindName env n) bG) Q E s) (λxs is U s av _ aG R aP=>by
  rcases is with _|⟨i,is⟩
  .rcases xs with _|⟨x,xs⟩
   .exact wpAny_assignInOrder_none (aP s.heap s.toks R)
   .exact(List.cons_ne_nil _ _ av).elim
  .exact(Nat.succ_ne_zero _ aG.symm).elim) λa _ aX xs is U s av hk aG R aP=>by
  rcases is with _|⟨i,is⟩
  .exact(Nat.succ_ne_zero _ aG).elim
  .rcases xs with _|⟨x,xs⟩
   .exact(List.cons_ne_nil _ _ av.symm).elim
   .obtain⟨h1,h2⟩:=List.cons.inj av
    refine wpAny_assignInOrder_more (wpAny_bindName (R.storeName h1.symm aV a (hk x (.head _)) hf λh1 cE bu=>?_))
    exact aX xs is _ {s with heap:=h1,toks:=cE} h2 (λy bB=>hk y (.tail _ bB)) (Nat.succ.inj aG) bu aP
theorem aM.aaf(r:aM prog w W n (.bk vs) ay)(R:bw prog w h₁ W σ h):∃a items,ay=.ref a/\h.IsTuple a items/\bt prog w W n vs items.toList:=by
 obtain⟨_,_,_,bb,aI,e⟩:=r.bc
 exact⟨_,_,e,⟨_,R.imm _ _ bb,rfl,_,rfl⟩,aI⟩
theorem kl(h:bj prog w h₁ true env ns k (eval e env) D)(av:xs.map some=is.map λi=>ns[i]?)(hk:∀x∈xs,nI true env x)(aV:ns.Nodup)(aB:is.Nodup)
 (hf:autoParam (env.scope.kind=.function) aL._auto_1)(hs:autoParam (swapsWithSole [.Tuple es ai p] e pos.line env=pure false) aL._auto_1)(hw:autoParam (swappedStores [.Tuple es ai p] e env=pure (some xs)) aL._auto_1):
 SOk prog w h₁ env ns k (exec (.Assign [.Tuple es ai p] e pos) env) (fx (dJ is) D):=by
 refine .of λA W U σ s Q E aE ao R=>?_
 show wpN _ _ (do standAt pos;if<-swapsWithSole [.Tuple es ai p] e pos.line env then(do evalThenUse e env λv=>assignAll v ((assignEach [.Tuple es ai p] env).map (·.2));(pure Flow.next:Sem Flow)) else(do let v<-eval e env;assignStores env v (<-swappedStores [.Tuple es ai p] e env) ((assignEach [.Tuple es ai p] env).map (·.2)))) _ _ _
 rw[hs]
 refine a5 (d0 (a5 (cq (kc Bool.false_ne_true (a5 (h.go aE ao.bind R λeb ct ao br dz h1 cE bA ae bu bb=>wpN.of<|wpAny_bind (wpAny_of_eq hw ?_)))))))
 show wpAny _ _ (do rule "assign.swapped-stores";let items<-unpackItems dz xs.length none;assignInOrder (xs.reverse.map λn=>bindName env n) items.reverse;(pure Flow.next:Sem Flow)) _ _ _
 refine eK λG bT=>?_
 obtain⟨a',a7,ao⟩:=(aJ.gR ao).cv
 obtain⟨vs,fU,aG,eI⟩:=Ed a7
 rw[show eb=_ from fU] at bb
 rw[eI] at ao
 obtain⟨a,items,e,ht,aI⟩:=bb.aaf bu.bE
 have R1:xs.length=is.length:=by rw[<-List.length_map (as:=xs) some,av,List.length_map]
 have Q':items.size=vs.length:=by rw[<-Array.length_toList];exact aI.length
 refine bT ?_
 rw[e,show xs.length=items.size from R1.trans (aG.symm.trans Q'.symm)]
 refine wpAny_bind (wpAny_rule (wpAny_bind (wpAny_unpackItems_tuple aE.h ht λh2 ag=>wpAny_bind ?_)))
 have cn:bC prog w h₁ true env ns br U ct h2:=bu.j6 λb o e=>ag b o (Nat.ne_of_lt (Heap.lt_size e)) e
 refine ZY aV hf aI.reverse xs.reverse is.reverse U {s with heap:=h2,toks:=cE} (by rw[List.map_reverse,av,List.map_reverse]) (λx av=>hk x (List.mem_reverse.mp av)) (by rw[List.length_reverse,List.length_reverse];exact aG) cn λh' cI dA=>?_
 rw[Zr aG _ aB] at dA
 exact wpAny_pure (fT.to ao br _ h' cI bA ae dA trivial)
end
section
variable{prog:Program}{w:World}{h₁:Heap}{K:Frag}{own:Bool}{env:Env}{ns:List Str}{k:Nat}
open Classical in
noncomputable def nc(src:J)(items:List J)(bind:J->Loc->Option Loc)(body:cf):List J->cf
 |[],U,σ=>if dO src σ=some items then some (.next,U,σ) else none
 |x::rest,U,σ=>if dO src σ=some items then(bind x U).bind λA'=>(body A' σ).bind λr=>match r with
   |(.next,l,s)=>nc src items bind body rest l s
   |(.cont,l,s)=>nc src items bind body rest l s
   |(.brk,l,s)=>some (.next,l,s)
   |(.ret v,l,s)=>some (.ret v,l,s)
  else none
noncomputable def fh(D:cW)(bind:J->Loc->Option Loc)(body:cf):cf:=λU σ=>(D U σ).bind λr=>(dO r.1 r.2).bind λitems=>nc r.1 items bind body items U r.2
theorem bC.Ib{U:Loc}(R:bC prog w h₁ true env ns W U σ h)(dA:bw prog w h₁ W' aZ h')(l:W.eM σ.next W')(pU:∀a,W.role a=.U->W'.role a=.U)(aV:σ.next<=aZ.next)
 (e:∀a,W.role a=.U->h'.get? a=h.get? a):bC prog w h₁ true env ns W' U aZ h':=by
 have d':∀x c,env.cells.lookup x=some c->W.role c=.U/\c≠env.locals:=λx c aw=>by
  rcases R.cells x c aw with⟨_,a,b⟩|⟨q,_⟩
  .exact⟨a,b⟩
  .cases q
 refine⟨dA,pU _ R.l,λx c aw=>.inl ⟨rfl,pU _ (d' x c aw).1,(d' x c aw).2⟩,R.apart,λx c aw=>?_,?_⟩
 .obtain⟨kZ,o,aH,aB⟩:=R.mI x c aw
  exact⟨kZ,o,(e c (d' x c aw).1).trans aH,aB⟩
 obtain⟨m,hm,f⟩:=R.U
 refine⟨m,hm.at' λo aH=>(e _ R.l).trans aH,λi v a0=>?_⟩
 obtain⟨x,ay,av,aI,hs⟩:=f i v a0
 exact⟨x,ay,av,aI.a4 l aV,hs.imp id λ⟨q,c,aw,o,aH,aB⟩=>⟨q,c,aw,o,(e c (d' x c aw).1).trans aH,aB⟩⟩
theorem az.m8{W W':az}(l:W.le n W')(h:W.role a=.free):W.le n (W'.aS a r):=by
 refine⟨⟨λb o e=>?_,l.1.2⟩,λb o e=>?_,λb e=>?_⟩<;>
 .rw[az.b']
  .first|exact l.1.1 b o e|exact l.2.1 b o e|exact l.2.2 b e
  .rintro rfl;exact bL.no h e
theorem Hu(aH:s.heap.get? aO=some o)(aw:o.cls=.type n)
 (aV:(["enumerate","zip","dict_itemiterator","dict_reverseitemiterator","odict_iterator","itertools.zip_longest","itertools.pairwise"]:List String).contains n=false)(h:Q () s):wpAny M A (letOwnedTupleGo t (.ref aO) v) Q E s:=by
 have key:wpAny M A (do
  let(.ref r,.ref a):=(Value.ref aO,v)|(pure ():Sem Unit)
  let o<-load r
  match o.cls,o.data with
  |.type n,.fields vs=>
   if["enumerate","zip","dict_itemiterator","dict_reverseitemiterator","odict_iterator","itertools.zip_longest","itertools.pairwise"].contains n&&vs[0]? ==some (rawInt a) then
    rule "for.unpacks-the-owned-tuple"
    updateField r 0 .none
  |_,_=>pure ()) Q E s:=by
  cases v<;>try exact wpAny_pure h
  refine wpAny_bind (wpAny_load aH ?_)
  rw[aw]
  cases o.data<;>try exact wpAny_pure h
  dsimp only
  rw[aV]
  exact wpAny_pure h
 cases t<;>first|exact wpAny_pure h|exact key
structure rW (prog:Program) (w:World) (h₁:Heap) (env:Env) (ns:List Str) (aO:Addr) (P:Nat->Obj->Prop) (br:az) (ae:Nat) (i:Nat) (bH:az) (a':Loc) (bD:St) (h2:Heap):Prop where
 R:bC prog w h₁ true env ns bH a' bD h2
 f:∃dI,bH.role aO=.fix dI/\P i dI
 le:br.le ae bH
 e7:ae<=bD.next
theorem bC.letGo{U:Loc}(R:bC prog w h₁ true env ns W U σ h)(cP:W.role aO=.fix o)(ag:∀a x,a≠aO->h.get? a=some x->h'.get? a=some x):bC prog w h₁ true env ns (W.aS aO .free) U σ h':=by
 have jU:=R.bE.rD (W':=W.aS aO .free) rfl λa=>by
  by_cases e:a=aO
  .exact .inr ⟨.inr ⟨o,e▸cP⟩,.inl (e▸az.cX)⟩
  .exact .inl (az.b' e)
 have e3:∀a,(W.aS aO .free).role a≠.free->h'.get? a=h.get? a:=λa ha=>by
  have fi:a≠aO:=λe=>ha (e▸az.cX)
  obtain⟨oa,hL⟩:=jU.1.live a ha
  rw[hL];exact ag a oa fi hL
 have pU:∀a,W.role a=.U->(W.aS aO .free).role a=.U:=λa ha=>(az.b' λe=>bL.no cP (e▸ha)).trans ha
 exact R.Ib (jU.1.keep (λa ha _=>e3 a ha) λa ha=>by rw[e3 a (bL.ne ha)];exact jU.1.live a (bL.ne ha)) jU.2 pU (Nat.le_refl _) λa ha=>e3 a (bL.ne (pU a ha))
theorem az.rb{W:az}(cP:W.role aO=.fix o):W.eM n (W.aS aO r):=⟨λb x e=>(az.b' λq=>bL.no cP (q▸e)).trans e,λ_ _=>rfl⟩
theorem bC.Z1{W:az}{U:Loc}(R:bC prog w h₁ true env ns W U σ h)(cP:W.role aO=.fix o)(aH:h'.get? aO=some cO)(hs:Heap.SameBut aO h h'):bC prog w h₁ true env ns (W.aS aO (.fix cO)) U σ h':=
 R.Ib (R.bE.swap cP hs aH) (az.rb cP) (λa ha=>(az.b' λe=>bL.no cP (e▸ha)).trans ha) (Nat.le_refl _) λa ha=>hs.2 a λe=>bL.no cP (e▸ha)
theorem rW.next{aO:Addr}(J:rW prog w h₁ env ns aO P br ae i bH a' bD h2)(dN:br.role aO=.free)(cG:P (i+1) o)(hy:(bH.aS aO (.fix o)).le bD.next hW)(fw:bD.next<=oL.next)(eP:bC prog w h₁ true env ns hW pQ oL fJ):
 rW prog w h₁ env ns aO P br ae (i+1) hW pQ oL fJ:=
 ⟨eP,⟨o,hy.2.1 _ _ az.cX,cG⟩,(az.m8 J.le dN).trans J.e7 hy,Nat.le_trans J.e7 fw⟩
noncomputable def uV(prog:Program)(w:World)(h₁:Heap)(env:Env)(ns:List Str)(br:az)(ae:Nat)(s:Shared)(R:Result->Shared->Prop)(f:fy)(p:Loc×St):Prop:=
 ∀bH g0 h' cI,br.le ae bH->ae<=p.2.next->bC prog w h₁ true env ns bH p.1 p.2 h'->kr prog w bH p.2.next f g0->R (.ok g0) {s with heap:=h',toks:=cI}
inductive uU (s:Shared) (X:Nat->az->Loc->St->Heap->Prop) (n:Nat) (aY:Shared):Prop
 |mk (bH:az) (a':Loc) (bD:St) (h2:Heap) (tk2:Nat) (es:aY={s with heap:=h2,toks:=tk2}) (h:X n bH a' bD h2)
inductive K' (prog:Program) (w:World) (h₁:Heap) (env:Env) (ns:List Str) (aO:Addr) (P:Nat->Obj->Prop) (br:az) (ae:Nat) (items:List J) (M:List J->Loc->St->Prop) (n:Nat) (bH:az) (a':Loc) (bD:St) (h2:Heap):Prop
 |mk (i:Nat) (rest:List J) (aV:n=rest.length) (aI:items.drop i=rest) (hi:i<=items.length) (J:rW prog w h₁ env ns aO P br ae i bH a' bD h2) (ao:M rest a' bD)
theorem PI{t:Expr}{bind:J->Loc->Option Loc}(ht:kv prog w h₁ true env ns k t bind)(ag:SOk prog w h₁ env ns k (execs body env) jR)(aE:eC A k){items:List J}{N:az->Prop}{P:Nat->Obj->Prop}
 (gP:lX prog w h₁ k src ih items aO N P){br:az}{ae:Nat}(bb:aM prog w br ae src ih)(h6:N br)(dN:br.role aO=.free){s:Shared}{R:Result->Shared->Prop}
 {n i:Nat}{rest:List J}{bH:az}{a':Loc}{bD:St}{h2:Heap}{tk2:Nat}(aV:n=rest.length)(aI:items.drop i=rest)(hi:i<=items.length)(J:rW prog w h₁ env ns aO P br ae i bH a' bD h2)(ao:aJ (nc src items bind jR rest a' bD) (uV prog w h₁ env ns br ae s R)):
 eQ (model prog w) A (.forLoop t (.ref aO) body [] env) R {s with heap:=h2,toks:=tk2}:=by
 refine Ex (uU s (K' prog w h₁ env ns aO P br ae items λrest l σ=>aJ (nc src items bind jR rest l σ) (uV prog w h₁ env ns br ae s R))) ?_ n ⟨bH,a',bD,h2,tk2,rfl,i,rest,aV,aI,hi,J,ao⟩
 clear aV aI hi J ao
 intro n aY h
 obtain⟨bH,a',bD,h2,tk2,es,h⟩:=h
 obtain⟨i,rest,aV,aI,hi,J,ao⟩:=h
 rcases rest with _|⟨x,rest⟩<;>rw[es,aV]<;>refine eK λG bT=>?_<;>
  obtain⟨dI,cP,l8⟩:=J.f<;>
  have mT:=J.R.bE.fix _ _ cP<;>
  have bJ:aM prog w bH bD.next src ih:=bb.a4 J.le.1 J.e7<;>
  have sN:=gP.tY _ _ _ h6 J.le.1
 .obtain⟨hit,ao⟩:=aJ.fR ao
  exact bT<|wpN.of<|gP.done A bH _ i dI _ _ _ aE sN J.R.bE bJ hit (yZ aI) hi mT l8 cP λaQ cN sO=>wpN.of<|wpAny_execs_nil<|
   ao _ .next aQ cN (az.m8 J.le dN) J.e7 (J.R.letGo cP sO) trivial
 .obtain⟨hit,ao⟩:=aJ.fR ao
  obtain⟨cR,e4,ao⟩:=(aJ.gR ao).cv
  obtain⟨av,aI⟩:=vn aI
  refine bT<|wpN.of<|gP.item A bH bD i x dI _ _ _ aE sN J.R.bE bJ hit av mT l8 cP λdC aQ cN ic eB mU mV ma=>eK λG bT=>?_
  obtain⟨c',jw,Ak⟩:=gP.cls _ _ mV
  refine bT<|wpN.of<|Hu mU jw Ak<|wpN.of<|ht A _ a' cR bD x dC _ _ _ aE e4 (J.R.Z1 cP mU ma) (eB.a4 (az.rb cP) (Nat.le_refl _)) λh4 oC dW=>ag.go aE ao.bind dW λvt p ao hW sD fJ mr hy fw eP tT=>?_
  have jY:=J.next dN mV hy fw eP
  have sT:=(List.getElem?_eq_some_iff.mp av).1
  revert ao
  refine kr.rv tT (λao=>?_) (λao=>?_) (λao=>?_) (λv ay e' ao=>?_)
  .exact⟨rest.length,Nat.lt_succ_self _,hW,p.1,p.2,fJ,mr,rfl,i+1,rest,rfl,aI,sT,jY,ao⟩
  .exact ao hW .next fJ mr jY.le jY.e7 eP trivial
  .exact⟨rest.length,Nat.lt_succ_self _,hW,p.1,p.2,fJ,mr,rfl,i+1,rest,rfl,aI,sT,jY,ao⟩
  .exact ao hW _ fJ mr jY.le jY.e7 eP e'
theorem jH{pos:Pos}{bind:J->Loc->Option Loc}(h:bj prog w h₁ true env ns k (eval it env) D)(ht:kv prog w h₁ true env ns k t bind)(ag:SOk prog w h₁ env ns k (execs body env) jR)
 (hf:autoParam (∀x,foldedSetIterable it env x=pure x) ud._auto_1):SOk prog w h₁ env ns k (exec (.For t it body [] pos) env) (fh D bind jR):=
 .of λA W U σ s Q E aE ao R=>Kt (h.go aE ao.bind R λsrc ct ao br ih h1 cE bA ae bu bb=>by
  obtain⟨items,a7,ao⟩:=(aJ.gR ao).cv
  refine wpN.of<|BK (k:=k) (s:={s with heap:=h1,toks:=cE}) bu.bE bb a7 λo N P lB h6 cG gP=>?_
  have dF:br.role h1.objs.size=.free:=bu.bE.free (Nat.le_refl _)
  have h5:(h1.push o).get? h1.objs.size=some o:=Heap.get?_push_size _ lB
  have Lm:bC prog w h₁ true env ns (br.aS h1.objs.size (.fix o)) U ct (h1.push o):=bu.next ((bu.bE.push o).hu dF ⟨o,h5⟩ (λ_ e=>nomatch e) λcO e=>bL.fix.inj e▸h5) (az.gG (n:=ct.next) dF) (Nat.le_refl _) λa ha=>get?_push_ne (bu.bE.lt (bL.ne ha))
  exact PI ht ag aE gP bb h6 dF rfl rfl (Nat.zero_le _) ⟨Lm,⟨o,az.cX,cG⟩,az.gG dF,Nat.le_refl _⟩ (ao.imp λf p c bH g0 h' cI a' aK cn BO=>c bH g0 h' cI (bA.trans ae a') (Nat.le_trans ae aK) cn BO)) hf
noncomputable def mg(T:gN)(body:cf):Nat->cf
 |0,_,_=>none
 |n+1,U,σ=>(T U σ).bind λb=>if b.1=true then(body U b.2).bind λr=>match r with
   |(.next,l,s)=>mg T body n l s
   |(.cont,l,s)=>mg T body n l s
   |(.brk,l,s)=>some (.next,l,s)
   |(.ret v,l,s)=>some (.ret v,l,s)
  else some (.next,U,b.2)
noncomputable def oG(T:gN)(body:cf):cf:=mg T body 1000000
inductive Ly (prog:Program) (w:World) (h₁:Heap) (env:Env) (ns:List Str) (br:az) (ae:Nat) (M:Nat->Loc->St->Prop) (n:Nat) (bH:az) (a':Loc) (bD:St) (h2:Heap):Prop
 |mk (R:bC prog w h₁ true env ns bH a' bD h2) (le:br.le ae bH) (e7:ae<=bD.next) (ao:M n a' bD)
theorem JI(h:BOk prog w h₁ true env ns k (isTrue t env (eval t env)) T)(ag:SOk prog w h₁ env ns k (execs body env) jR):
 SOk prog w h₁ env ns k (exec (.While t body [] pos) env) (oG T jR):=by
 refine .of λA W U σ s Q E aE ao R=>aaO ?_
 unfold oG at ao
 generalize 1000000=ab at ao
 refine NG (uU s (Ly prog w h₁ env ns W σ.next λn l bD=>aJ (mg T jR n l bD) (fT prog w h₁ env ns W σ s Q))) ?_ ab ⟨W,U,σ,s.heap,s.toks,rfl,R,az.le.refl,Nat.le_refl _,ao⟩
 intro m aY h'
 obtain⟨bH,a',bD,h2,tk2,es,h'⟩:=h'
 obtain⟨cn,ix,aK,vK⟩:=h'
 rw[es]
 rcases m with _|m
 .exact vK.elim
 refine h.go aE vK.bind cn λb dk ao bY bP aQ cN cR bx dc cK=>?_
 rw[show b=bP from cK] at ao
 have kO:=ix.trans aK cR
 have Bl:=Nat.le_trans aK bx
 rcases bP with _|_
 .exact wpN.of<|wpAny_execs_nil<|ao bY .next aQ cN kO Bl dc trivial
 .refine ag.go aE (aJ.bind ao) dc λvt p ao hW sD fJ mr hy fw eP tT=>?_
  have wj:=kO.trans Bl hy
  have e7:=Nat.le_trans Bl fw
  revert ao
  refine kr.rv tT (λao=>?_) (λao=>?_) (λao=>?_) (λv ay e' ao=>?_)
  .exact⟨m,Nat.lt_succ_self _,hW,p.1,p.2,fJ,mr,rfl,eP,wj,e7,ao⟩
  .exact ao hW .next fJ mr wj e7 eP trivial
  .exact⟨m,Nat.lt_succ_self _,hW,p.1,p.2,fJ,mr,rfl,eP,wj,e7,ao⟩
  .exact ao hW _ fJ mr wj e7 eP e'
noncomputable def iQ(n:Nat)(cells:Nat->Option c6):J->J
 |.ref c=>if n<=c then(match cells c with
  |some (.list vs)=>.bo vs
  |some (.cb es)=>.cw es
  |_=>.ref c) else .ref c
 |v=>v
noncomputable def l6(n:Nat)(cells:Nat->Option c6):J->J
 |.bk vs=>.bk (vs.map (iQ n cells))
 |v=>iQ n cells v
noncomputable def St.cut(σ:St)(n:Nat):St:={σ with cells:=λc=>if c<n then σ.cells c else none}
noncomputable def q9(h:Heap)(a:Addr):bL:=match h.get? a with
 |some o=>.imm o
 |none=>.free
noncomputable def yO(h:Heap)(a:Addr):Option c6->bL
 |some (.list _)=>q9 h a
 |some (.cb _)=>q9 h a
 |_=>.free
noncomputable def mR(n:Nat)(σ:St)(h:Heap)(a:Addr):bL->bL
 |.cell c=>if c<n then .cell c else yO h a (σ.cells c)
 |.gw c=>if c<n then .gw c else .free
 |r=>r
noncomputable def az.fQ(W:az)(n:Nat)(σ:St)(h:Heap):az:={W with role:=λa=>mR n σ h a (W.role a)}
theorem Hk{P:bL->Prop}(f:P .free)(i:∀o,h.get? a=some o->P (.imm o)):P (q9 h a):=by
 unfold q9
 generalize h.get? a=x at i
 rcases x with _|o
 .exact f
 .exact i o rfl
theorem Hl(e:h.get? a=some o):q9 h a=.imm o:=by unfold q9;rw[e]
theorem Nn{x:Option c6}{P:bL->Prop}(f:P .free)(i:∀o,h.get? a=some o->P (.imm o)):P (yO h a x):=by
 rcases x with _|(_|_|_|_|_)
 .exact f
 .exact Hk f i
 .exact Hk f i
 .exact f
 .exact f
 .exact f
theorem F0{a:Addr}{P:bL->Prop}(same:(∀c,r≠.cell c)->P r)(cell:∀c,P (.cell c))(gw:∀c,P (.gw c))(f:P .free)(i:∀o,h.get? a=some o->P (.imm o)):P (mR n σ h a r):=by
 rcases r with _|_|_|c|c|_
 .exact same λc=>bL.ne rfl
 .exact same λc=>bL.ne rfl
 .exact same λc=>bL.ne rfl
 .show P (ite _ _ _)
  by_cases q:c<n
  .rw[if_pos q];exact cell c
  .rw[if_neg q];exact Nn f i
 .show P (ite _ _ _)
  by_cases q:c<n
  .rw[if_pos q];exact gw c
  .rw[if_neg q];exact f
 .exact same λc=>bL.ne rfl
theorem PJ(e:r=.cell c)(q:c<n):mR n σ h a r=.cell c:=by rw[e];exact if_pos q
theorem PL(e:r=.gw c)(q:c<n):mR n σ h a r=.gw c:=by rw[e];exact if_pos q
theorem PK(e:r=.cell c)(q:¬c<n):mR n σ h a r=yO h a (σ.cells c):=by rw[e];exact if_neg q
theorem bw.fQ(R:bw prog w h₁ W σ h)(n:Nat):bw prog w h₁ (W.fQ n σ h) (σ.cut n) h/\W.eM σ.next (W.fQ n σ h)/\(∀a o,W.role a=.fix o->(W.fQ n σ h).role a=.fix o)/\∀a,W.role a=.U->(W.fQ n σ h).role a=.U:=by
 have JM:∀a o,W.role a=.imm o->(W.fQ n σ h).role a=.imm o:=λa o e=>by show mR n σ h a (W.role a)=_;rw[e];rfl
 have ZC:∀a o,W.role a=.fix o->(W.fQ n σ h).role a=.fix o:=λa o e=>by show mR n σ h a (W.role a)=_;rw[e];rfl
 have kX:∀a,W.role a=.U->(W.fQ n σ h).role a=.U:=λa e=>by show mR n σ h a (W.role a)=_;rw[e];rfl
 have iy:W.eM σ.next (W.fQ n σ h):=⟨JM,λ_ _=>rfl⟩
 refine⟨⟨R.nz,λa o e=>JM a o (R.base a o e),λa o=>?_,λa o=>?_,λa e=>?_,λc x aw=>?_,λc aw=>?_⟩,iy,ZC,kX⟩
 .exact F0 (P:=λr=>r=.imm o->h.get? a=some o) (λ_ e=>R.imm a o e) (λ_ e=>bL.no e rfl) (λ_ e=>bL.no e rfl) (λe=>bL.no e rfl) λcO g e=>bL.imm.inj e▸g
 .exact F0 (P:=λr=>r=.fix o->h.get? a=some o) (λ_ e=>R.fix a o e) (λ_ e=>bL.no e rfl) (λ_ e=>bL.no e rfl) (λe=>bL.no e rfl) λcO g e=>bL.no e rfl
 .refine R.live a λr=>e ?_
  show mR n σ h a (W.role a)=_
  rw[r];rfl
 .have jv:(if c<n then σ.cells c else none)=some x:=aw
  by_cases df:c<n
  .rw[if_pos df] at jv
   obtain⟨r,q⟩:=R.cell c x jv
   exact⟨PJ r df,q.a4 iy (Nat.le_refl _) rfl λd aB=>⟨PL aB df,rfl⟩⟩
  .rw[if_neg df] at jv;exact aq jv
 .show(if c<n then σ.cells c else none)=none
  by_cases df:c<n
  .rw[if_pos df];exact R.top c aw
  .exact if_neg df
theorem PN(R:bw prog w h₁ W σ h)(same:aM prog w (W.fQ n σ h) σ.next (.ref c) (.ref (W.al c))):aM prog w (W.fQ n σ h) σ.next (iQ n σ.cells (.ref c)) (.ref (W.al c)):=by
 have iy:=(R.fQ n).2.1
 show aM prog w (W.fQ n σ h) σ.next (ite _ _ _) _
 by_cases aV:n<=c
 .rw[if_pos aV]
  cases q:σ.cells c with
  |none=>exact same
  |some x=>
   obtain⟨r,g⟩:=R.cell c x q
   have cv:=PK (n:=n) (σ:=σ) (h:=h) (a:=W.al c) r (Nat.not_lt.mpr aV)
   rw[q] at cv
   induction g with
   |@list _ items dt aH aI=>exact .bo (o:=listOf items dt) (k:=dt) (cv.trans (Hl aH)) rfl rfl (aI.a4 iy (Nat.le_refl _))
   |cb aH z a d=>exact .cw (cv.trans (Hl aH)) z a (d.a4 iy (Nat.le_refl _))
   |_=>exact same
 .rw[if_neg aV];exact same
theorem F4(R:bw prog w h₁ W σ h)(a0:aM prog w W σ.next v ay):aM prog w (W.fQ n σ h) σ.next (iQ n σ.cells v) ay:=
 aM.casesOn (motive_1:=λv ay _=>aM prog w (W.fQ n σ h) σ.next v ay->aM prog w (W.fQ n σ h) σ.next (iQ n σ.cells v) ay) a0 id (λ_=>id) (λ_ _=>id) (λ_ _=>id) (λ_ _=>id) (λ_ _=>id) (λ_ _ _ _=>id) (λ_ _ _ _=>id) (λ_=>id) (λ_ s=>PN R s) (λ_=>id) (a0.a4 (R.fQ n).2.1 (Nat.le_refl _))
theorem PQ(R:bw prog w h₁ W σ h)(r:bt prog w W σ.next vs bG):bt prog w (W.fQ n σ h) σ.next (vs.map (iQ n σ.cells)) bG:=
 r.ind (P:=λvs bG=>bt prog w (W.fQ n σ h) σ.next (vs.map (iQ n σ.cells)) bG) .nil λa _ aX=>.cons (F4 R a) aX
theorem F1(R:bw prog w h₁ W σ h)(a0:aM prog w W σ.next v ay):aM prog w (W.fQ n σ h) σ.next (l6 n σ.cells v) ay:=
 aM.casesOn (motive_1:=λv ay _=>aM prog w (W.fQ n σ h) σ.next (iQ n σ.cells v) ay->aM prog w (W.fQ n σ h) σ.next (l6 n σ.cells v) ay) a0 id (λ_=>id) (λ_ _=>id) (λ_ _=>id) (λ_ _=>id) (λa d _=>.bk ((R.fQ n).2.1.1 _ _ a) (PQ R d)) (λ_ _ _ _=>id) (λ_ _ _ _=>id) (λ_=>id) (λ_=>id) (λ_=>id) (F4 R a0)
noncomputable def ea(D:cf)(n m:Nat):bX:=λargs σ=>if args.length=n then(D (args.map some++List.replicate m none) σ).bind λr=>match r with
 |(.ret v,_,aZ)=>some (l6 σ.next aZ.cells v,aZ.cut σ.next)
 |(.next,_,aZ)=>some (.none,aZ.cut σ.next)
 |_=>none
 else none
theorem abE{xs:List Str}(aV:xs.Nodup):∀{i:Nat} {x:Str} {v:Value},xs[i]? =some x->vs[i]? =some v->(xs.zip vs).lookup x=some v:=by
 induction xs generalizing vs with
 |nil=>intro i x v h;simp at h
 |cons y hS aX=>
  intro i x v av a0
  rw[List.nodup_cons] at aV
  induction vs with
  |nil=>simp at a0
  |cons u cB=>
   induction i with
   |zero=>
    simp at av a0;subst av a0
    simp
   |succ i=>
    simp at av a0
    have fi:(x==y)=false:=by
     refine beq_eq_false_iff_ne.mpr ?_
     rintro rfl
     exact aV.1 (List.mem_of_getElem? av)
    rw[List.zip_cons_cons,List.lookup_cons,fi]
    exact aX aV.2 av a0
theorem Ta{l:List (Str×Value)}(aV:(l.map (·.1)).Nodup)(x:Str):l.reverse.lookup x=l.lookup x:=by
 induction l with
 |nil=>rfl
 |cons p r aX=>
  obtain⟨y,v⟩:=p
  simp only[List.map_cons,List.nodup_cons] at aV
  rw[List.reverse_cons,List.lookup_append,aX aV.2]
  have rx:List.lookup x [(y,v)]=if x=y then some v else none:=by
   by_cases e:x=y
   .subst e;simp[List.lookup]
   .have:(x==y)=false:=beq_eq_false_iff_ne.mpr e
    simp[List.lookup,this,e]
  by_cases e:x=y
  .subst e
   have:r.lookup x=none:=by
    cases q:r.lookup x with
    |none=>rfl
    |some u=>exact absurd (List.mem_map.mpr ⟨(x,u),mem_of_lookup q,rfl⟩) aV.1
   rw[this,rx,List.lookup_cons];simp
  .have:(x==y)=false:=beq_eq_false_iff_ne.mpr e
   rw[rx,if_neg e,List.lookup_cons,this]
   cases r.lookup x<;>rfl
theorem ip{P:List Value->Prop}(h:∀fO,P [fO]):∀args:List Value,args.length=1->P args:=by
 intro args e
 rcases args with _|⟨fO,_|⟨b,r⟩⟩
 .exact nomatch e
 .exact h fO
 .exact nomatch e
theorem j0{P:List Value->Prop}(h:∀fO fo,P [fO,fo]):∀args:List Value,args.length=2->P args:=by
 intro args e
 rcases args with _|⟨fO,_|⟨fo,_|⟨b,r⟩⟩⟩
 .exact nomatch e
 .exact nomatch e
 .exact h fO fo
 .exact nomatch e
theorem DV{P:List Value->Prop}(h:∀fO fo i5,P [fO,fo,i5]):∀args:List Value,args.length=3->P args:=by
 intro args e
 rcases args with _|⟨fO,_|⟨fo,_|⟨i5,_|⟨b,r⟩⟩⟩⟩
 .exact nomatch e
 .exact nomatch e
 .exact nomatch e
 .exact h fO fo i5
 .exact nomatch e
theorem DW{P:List Value->Prop}(h:∀fO fo i5 kx,P [fO,fo,i5,kx]):∀args:List Value,args.length=4->P args:=by
 intro args e
 rcases args with _|⟨fO,_|⟨fo,_|⟨i5,_|⟨kx,_|⟨b,r⟩⟩⟩⟩⟩
 .exact nomatch e
 .exact nomatch e
 .exact nomatch e
 .exact nomatch e
 .exact h fO fo i5 kx
 .exact nomatch e
theorem Ml{P:List Value->Prop}(h:∀fO fo i5 kx x3,P [fO,fo,i5,kx,x3]):∀args:List Value,args.length=5->P args:=by
 intro args e
 rcases args with _|⟨fO,_|⟨fo,_|⟨i5,_|⟨kx,_|⟨x3,_|⟨b,r⟩⟩⟩⟩⟩⟩
 .exact nomatch e
 .exact nomatch e
 .exact nomatch e
 .exact nomatch e
 .exact nomatch e
 .exact h fO fo i5 kx x3
 .exact nomatch e
theorem c7.to(h:aJ (some (v,aZ)) (c7 prog w h₁ W σ s Q)):c7 prog w h₁ W σ s Q v aZ:=h
theorem eC.EK(aE:eC A (k+1)):eC (A.deeper env) k:=⟨aE.h,by have:=aE.d;show A.depth+1+8*k+8<1000;exact aC.W0 this,by have:=aE.u;show A.units+3+64*k+200<9900;exact aC.W2 this,aE.g⟩
theorem S'{args:List J}{m i:Nat}(bI:(args.map some++List.replicate m none)[i]? =some (some u)):args[i]? =some u:=by
 rcases Nat.lt_or_ge i args.length with q|q
 .rw[List.getElem?_append_left (by rw[List.length_map];exact q),List.getElem?_map] at bI
  obtain⟨fL,m5,e⟩:=Option.map_eq_some_iff.mp bI
  exact m5.trans e
 .rw[List.getElem?_append_right (by rw[List.length_map];exact q)] at bI
  have h:=List.mem_of_getElem? bI
  rw[List.mem_replicate] at h
  exact nomatch h.2
theorem DU{W:az}{n:Nat}{m i:Nat}(ha:bt prog w W n args ej)(de:args.length=xs.length)(jc:∃hS,ns=xs++hS)(kK:ns.Nodup)(bI:(args.map some++List.replicate m none)[i]? =some (some u)):
 ∃x fL,x∈xs/\xs[i]? =some x/\ej[i]? =some fL/\ns[i]? =some x/\aM prog w W n u fL/\(xs.zip ej).reverse.lookup x=some fL:=by
 have bI:=S' bI
 obtain⟨hS,e⟩:=jc
 obtain⟨fL,m5,r⟩:=ha.get bI
 have pK:i<xs.length:=de▸(List.getElem?_eq_some_iff.mp bI).1
 have av:xs[i]? =some xs[i]:=List.getElem?_eq_getElem pK
 have s7:(xs.zip ej).map (·.1)=xs:=List.map_fst_zip (Nat.le_of_eq (ha.length.trans de).symm)
 have s6:xs.Nodup:=by rw[e] at kK;exact(List.nodup_append.mp kK).1
 exact⟨xs[i],fL,List.getElem_mem _,av,m5,by rw[e,List.getElem?_append_left pK];exact av,r,by rw[Ta (by rw[s7];exact s6)];exact abE s6 av m5⟩
theorem Nk{xs ns:List Str}{ej:List Value}(R:bw prog w h₁ W σ h)(ha:bt prog w W σ.next args ej)(de:args.length=xs.length)(jc:∃hS,ns=xs++hS)(kK:ns.Nodup)
 (pv:fd.closure=[])(m3:∀x∈xs,fd.scope.names.lookup x=some .local)(dF:W.role aU=.free)(hm:h2.Ns aU λx=>(xs.zip ej).reverse.lookup x)(kJ:∀b o,h.get? b=some o->h2.get? b=some o):
 bC prog w h₁ true (callEnv fd aU fa) ns (W.aS aU .U) (args.map some++List.replicate m none) σ h2:=by
 obtain⟨TR,vV⟩:∃o,h2.get? aU=some o:=by obtain⟨o,_,_,h,_⟩:=hm;exact⟨o,h⟩
 have no:∀{x c} {P:Prop},(callEnv fd aU fa).cells.lookup x=some c->P:=λ{x c P} aw=>by
  rw[show(callEnv fd aU fa).cells=[] from pv] at aw;exact aq aw
 refine⟨(R.j6 kJ).hu dF ⟨TR,vV⟩ (λ_ e=>nomatch e) (λ_ e=>nomatch e),az.cX,λx c aw=>no aw,λx y c aw=>no aw,λx c aw=>no aw,_,hm,λi u bI=>?_⟩
 obtain⟨x,fL,av,_,_,aV,r,aG⟩:=DU ha de jc kK bI
 exact⟨x,fL,aV,r.a4 (az.gG dF).1 (Nat.le_refl _),.inl ⟨m3 _ av,aG⟩⟩
theorem fg(B:bK K h₁)(aH:h₁.get? fa=some o)(aB:o.data=.func fd)(jb:h₁.CodeRec fd.code fd.qualname)(lr:fd.body=.stmts body)
 (mX:∀args:List Value,args.length=xs.length->bindArgs fd ⟨args,[]⟩=pure (xs.zip args))(pv:fd.closure=[])(jc:∃hS,ns=xs++hS)(kK:ns.Nodup)(lu:∀x∈fd.scope.names,x.2≠.cell)(m3:∀x∈xs,fd.scope.names.lookup x=some .local)
 (ag:∀aU,SOk prog w h₁ (callEnv fd aU fa) ns k (execs body (callEnv fd aU fa)) D)(lx:autoParam (fd.scope.isCoroutine=false) aL._auto_1)(ly:autoParam (fd.scope.isGenerator=false) aL._auto_1)(hk:autoParam (fd.scope.kind=.function) aL._auto_1):
 OpOk prog w h₁ (k+1) (λvs=>call (.ref fa) vs) (ea D xs.length m):=by
 refine .of λA W σ args ej s Q E aE aW R ha=>?_
 obtain⟨de,aW⟩:=aJ.fR aW
 have n':ej.length=xs.length:=ha.length.trans de
 have s7:(xs.zip ej).map (·.1)=xs:=List.map_fst_zip (Nat.le_of_eq n'.symm)
 refine xf (NC aE.Hw (R.old _ _ aH) aB (B.nolimit.keeps R.old) (jb.keeps R.old) lr (mX ej n') lu (λp hp=>m3 p.1 (s7▸List.mem_map.mpr ⟨p,hp,rfl⟩)) (λh2 hm kJ=>?_) lx ly hk)
 have dF:W.role s.heap.objs.size=.free:=R.free (Nat.le_refl _)
 have ix:W.le σ.next (W.aS s.heap.objs.size .U):=az.gG dF
 refine(ag s.heap.objs.size).go (s:={s with heap:=h2,toks:=s.toks+(xs.zip ej).length}) aE.EK (aJ.bind aW) (Nk (m:=m) R ha de jc kK pv m3 dF hm kJ) λf p aW bY n1 aQ cN cR bx dc dx=>?_
 obtain⟨my,lV,xy,xA⟩:=dc.bE.fQ σ.next
 have tl:W.le σ.next (bY.fQ σ.next p.2 aQ):=⟨(ix.1.trans (Nat.le_refl _) cR.1).trans bx lV,λa o e=>xy a o (cR.2.1 a o (ix.2.1 a o e)),λa e=>xA a (cR.2.2 a (ix.2.2 a e))⟩
 revert aW
 refine kr.rv dx (λaW=>?_) (λaW=>False.elim aW) (λaW=>False.elim aW) (λu fL BQ aW=>?_)
 .exact c7.to aW _ _ aQ cN tl bx my .none
 .exact c7.to aW _ _ aQ cN tl bx my (F1 dc.bE BQ)
theorem H3(a:Nat):a+1≠a:=Nat.succ_ne_self _
theorem Tq(a:Nat):a≠a+1:=(Nat.succ_ne_self _).symm
theorem H5(a:Nat):a+1+1≠a:=by exact aC.W3
theorem Tr(a:Nat):a≠a+1+1:=by exact aC.W4
theorem Ts(a:Nat):a+1+1≠a+1:=by exact aC.W5
theorem H4(a:Nat):a+1≠a+1+1:=by exact aC.W7
theorem wi(a:Nat):a<a+1+1:=by exact aC.W8
noncomputable abbrev mq(gs:List Expr)(env:Env):Sem Bool:=forIn gs true λc r=>if r=true then do let ok<-isTrue c env (eval c env);pure (ForInStep.yield ok) else pure (ForInStep.yield r)
theorem nO:BOk prog w h₁ own env ns k (mq [] env) eN:=by
 intro A W U σ b aZ s Q E aE ao R aP
 cases ao
 exact wpN.of<|wpAny_tests_nil (aP W true s.heap s.toks az.le.refl (Nat.le_refl _) R rfl)
theorem aa0(h:wpN M A (isTrue c env (eval c env)) Q E s):wpN M A (mq [c] env) Q E s:=by
 unfold mq
 simp only[List.forIn_cons,List.forIn_nil,if_true]
 exact a5 (a5 (cy h (λok aY h'=>cq (cq h')) λ_ _ x=>x))
theorem nP(h:BOk prog w h₁ own env ns k (isTrue c env (eval c env)) D):BOk prog w h₁ own env ns k (mq [c] env) D:=by
 intro A W U σ b aZ s Q E aE ao R aP
 exact aa0 (h A W U σ b aZ s Q E aE ao R aP)
theorem ND(aO:Nat->Shared->Prop)
 (turn:∀n s,aO n s->wpN (model prog w) A (pyNext it) (λr bh=>match r with
   |none=>R (.ok .next) bh
   |some v=>wpN (model prog w) A (letOwnedTupleGo target it v) (λ_ t2=>wpN (model prog w) A (assign target env v) (λ_ cS=>
     wpN (model prog w) A (mq gs env) (λok fb=>
      if ok=true then wpN (model prog w) A (eval dX env) (λx oB=>
       wpN (model prog w) A (call (.builtin "list.append") [acc,x]) (λ_ J4=>∃m,m<n/\aO m J4) gv oB) gv fb
      else∃m,m<n/\aO m fb) gv cS) gv t2) gv bh) gv s)
 (n:Nat)(h:aO n s):eQ (model prog w) A (.compLoop (.ListComp dX [⟨target,iter,gs,0⟩] scope pos) 0 it acc env) R s:=by
 refine yR rfl rfl aO (λn s h5=>?_) n h
 show wpN _ A ((compTurn (.ListComp dX [⟨target,iter,gs,0⟩] scope pos) 0 it acc env).onRaise (λx=>do noteFrame x env;theTreesLotGoes x)) _ _ s
 refine oH ?_
 rw[compTurn_list]
 refine a5 (d0 (a5 (cy (turn n s h5) (λr bh h₁=>?_) λ_ _ h'=>h')))
 induction r with
 |none=>exact cq h₁
 |some v=>
  refine a5 (cy h₁ (λ_ t2 AH=>?_) λ_ _ h'=>h')
  refine a5 (cy AH (λ_ cS eh=>a5 (cy eh (λok fb gr=>?_) λ_ _ h'=>h')) λ_ _ h'=>h')
  induction ok with
  |false=>exact cq (.inl ⟨rfl,gr⟩)
  |true=>
   exact a5 (a5 (cy gr (λx oB pL=>a5 (cy pL (λ_ J4 R3=>cq (cq (.inl ⟨rfl,R3⟩))) λ_ _ h'=>h')) λ_ _ h'=>h'))
open Classical in
noncomputable def l1(src:J)(items:List J)(bind:J->Loc->Option Loc)(T:gN)(dX:cW):List J->List J->Loc->St->Option (List J×St)
 |[],acc,_,σ=>if dO src σ=some items then some (acc,σ) else none
 |x::rest,acc,U,σ=>if dO src σ=some items then(bind x U).bind λbA=>(T bA σ).bind λb=>if b.1=true then(dX bA b.2).bind λr=>if acc.length<1000000 then l1 src items bind T dX rest (acc++[r.1]) bA r.2 else none else l1 src items bind T dX rest acc bA b.2 else none
noncomputable def vg(D:cW)(fp:Loc->Loc)(bind:J->Loc->Option Loc)(T:gN)(dX:cW):k4:=λU σ=>(D U σ).bind λr=>(dO r.1 r.2).bind λitems=>l1 r.1 items bind T dX items [] (fp U) r.2
noncomputable def fq(D:cW)(fp:Loc->Loc)(bind:J->Loc->Option Loc)(T:gN)(dX:cW):cW:=λU σ=>(vg D fp bind T dX U σ).bind λq=>some (.bo q.1,q.2)
noncomputable def nV(D:cW)(fp:Loc->Loc)(bind:J->Loc->Option Loc)(T:gN)(dX:cW):cW:=λU σ=>(vg D fp bind T dX U σ).bind λq=>some (.ref q.2.next,q.2.new (.list q.1))
structure oN (env env':Env) (ns ns':List Str) (fp:Loc->Loc):Prop where
 sub:∀x c,env'.cells.lookup x=some c->env.cells.lookup x=some c
 cap:∀U (i:Nat) v,(fp U)[i]? =some (some v)->∃(ai:Nat) (x:Str),U[ai]? =some (some v)/\ns[ai]? =some x/\ns'[i]? =some x/\env.kindOf x=some .cell/\(env'.kindOf x=some .cell\/env'.kindOf x=some .free)/\env'.cells.lookup x=env.cells.lookup x
theorem bw.wY(R:bw prog w h₁ W σ h)(ha:W.role a=.fix o):bw prog w h₁ (W.aS a (.imm o)) σ h/\W.eM σ.next (W.aS a (.imm o)):=by
 have fi:∀b r,W.role b=r->(∀o,r≠.fix o)->(W.aS a (.imm o)).role b=r:=λb r e q=>by
  rw[az.b']
  .exact e
  .rintro rfl;rw[ha] at e;exact q o e.symm
 have iy:W.eM σ.next (W.aS a (.imm o)):=⟨λb x e=>fi b _ e (λ_ q=>nomatch q),λ_ _=>rfl⟩
 refine⟨⟨R.nz,λb x e=>iy.1 b x (R.base b x e),λb x e=>?_,λb x e=>?_,λb e=>?_,λc x aw=>?_,R.top⟩,iy⟩
 .by_cases ag:b=a
  .subst ag;rw[az.cX] at e;cases e;exact R.fix _ _ ha
  .rw[az.b' ag] at e;exact R.imm b x e
 .by_cases ag:b=a
  .subst ag;rw[az.cX] at e;cases e
  .rw[az.b' ag] at e;exact R.fix b x e
 .by_cases ag:b=a
  .subst ag;exact⟨o,R.fix _ _ ha⟩
  .rw[az.b' ag] at e;exact R.live b e
 .obtain⟨r,q⟩:=R.cell c x aw
  exact⟨fi _ _ r (λ_ q=>nomatch q),q.a4 iy (Nat.le_refl _) rfl λd aB=>⟨fi _ _ aB (λ_ q=>nomatch q),rfl⟩⟩
structure jn (prog:Program) (w:World) (h₁:Heap) (env':Env) (ns':List Str) (br:az) (ct:St) (h1:Heap) (aO D:Addr) (P:Nat->Obj->Prop) (i:Nat) (acc:List J) (bH:az) (a':Loc) (bD:St) (h2:Heap):Prop where
 R:bC prog w h₁ false env' ns' bH a' bD h2
 le:(br.fj h1).le ct.next bH
 e7:ct.next<=bD.next
 dN:∃dI,bH.role aO=.fix dI/\P i dI
 mO:∃items dt,bH.role D=.fix (listOf items dt)/\bt prog w bH bD.next acc items.toList
 ne:D≠aO
 c':∀x c,env'.cells.lookup x=some c->c≠aO/\c≠D
theorem bC.TC{U:Loc}(R:bC prog w h₁ false env ns W U σ h)(dA:bw prog w h₁ W' aZ h')(l:W.eM σ.next W')(Hv:∀b o,b≠a->W.role b=.fix o->W'.role b=.fix o)(ha:∀x c,env.cells.lookup x=some c->c≠a)(pU:∀a,W.role a=.U->W'.role a=.U)(aV:σ.next<=aZ.next)
 (e:∀a,W.role a=.U->h'.get? a=h.get? a):bC prog w h₁ false env ns W' U aZ h':=by
 have d':∀x c,env.cells.lookup x=some c->∃o,W.role c=.fix o:=λx c aw=>by
  rcases R.cells x c aw with⟨q,_⟩|⟨_,q⟩
  .cases q
  .exact q
 have same:∀x c o,env.cells.lookup x=some c->h.get? c=some o->h'.get? c=some o:=λx c o aw aH=>by
  obtain⟨cO,r⟩:=d' x c aw
  have h1:=R.bE.fix c cO r
  rw[aH] at h1;cases h1
  exact dA.fix c o (Hv _ _ (ha x c aw) r)
 refine⟨dA,pU _ R.l,λx c aw=>.inr ⟨rfl,?_⟩,R.apart,λx c aw=>?_,?_⟩
 .obtain⟨o,r⟩:=d' x c aw;exact⟨o,Hv _ _ (ha x c aw) r⟩
 .obtain⟨kZ,o,aH,aB⟩:=R.mI x c aw
  exact⟨kZ,o,same x c o aw aH,aB⟩
 obtain⟨m,hm,f⟩:=R.U
 refine⟨m,hm.at' λo aH=>(e _ R.l).trans aH,λi v a0=>?_⟩
 obtain⟨x,ay,av,aI,hs⟩:=f i v a0
 exact⟨x,ay,av,aI.a4 l aV,hs.imp id λ⟨q,c,aw,o,aH,aB⟩=>⟨q,c,aw,o,same x c o aw aH,aB⟩⟩
theorem bC.J3{U:Loc}(R:bC prog w h₁ false env ns W U σ h)(bO:W.role a=.fix o)(hs:Heap.SameBut a h h')(aH:h'.get? a=some cO)(ha:∀x c,env.cells.lookup x=some c->c≠a):
 bC prog w h₁ false env ns (W.aS a (.fix cO)) U σ h':=by
 have ne:∀b r,W.role b=r->(∀o,r≠.fix o)->b≠a:=λb r e q=>by rintro rfl;rw[bO] at e;exact q o e.symm
 refine R.TC (a:=a) (R.bE.swap bO hs aH) ⟨λb x e=>?_,λ_ _=>rfl⟩ (λb x ag e=>?_) ha (λb e=>?_) (Nat.le_refl _) λb e=>hs.2 b (ne b _ e λ_ q=>nomatch q)
 .rw[az.b' (ne b _ e λ_ q=>nomatch q)];exact e
 .rw[az.b' ag];exact e
 .rw[az.b' (ne b _ e λ_ q=>nomatch q)];exact e
noncomputable def az.bF(W:az)(a:Addr):Prop:=(∀o,W.role a≠.imm o)/\(∀o,W.role a≠.fix o)/\W.role a≠.U
theorem az.IG{W W':az}(l:W.le n W')(h:W'.role a=.free):W.bF a:=
 ⟨λo e=>by(rw[l.1.1 _ _ e] at h;cases h),λo e=>by(rw[l.2.1 _ _ e] at h;cases h),λe=>by(rw[l.2.2 _ e] at h;cases h)⟩
theorem az.rd{W W':az}(l:W.le n W')(h:W.bF a):W.le n (W'.aS a r):=by
 refine⟨⟨λb o e=>?_,l.1.2⟩,λb o e=>?_,λb e=>?_⟩
 .rw[az.b' (by rintro rfl;exact h.1 o e)];exact l.1.1 b o e
 .rw[az.b' (by rintro rfl;exact h.2.1 o e)];exact l.2.1 b o e
 .rw[az.b' (by rintro rfl;exact h.2.2 e)];exact l.2.2 b e
theorem bw.A0(R:bw prog w h₁ W σ h)(hC:W.role D=.fix (listOf items dt))(hm:h.Ns aA m):D≠aA:=λe=>by
 obtain⟨_,_,_,h,aB,_⟩:=hm
 rw[<-e,R.fix _ _ hC] at h
 rw[<-Option.some.inj h] at aB
 exact nomatch aB
theorem jn.step(J:jn prog w h₁ env' ns' br ct h1 aO D P i acc bH a' bD h2)(cP:bH.role aO=.fix dI)(mU:aQ.get? aO=some ic)(ma:Heap.SameBut aO h2 aQ):
 bC prog w h₁ false env' ns' (bH.aS aO (.fix ic)) a' bD aQ:=J.R.J3 cP ma mU λx c aw=>(J.c' x c aw).1
theorem jn.next(J:jn prog w h₁ env' ns' br ct h1 aO D P i acc bH a' bD h2)(ph:(br.fj h1).role aO=.free)(cP:bH.role aO=.fix dI)(cG:P (i+1) ic)
 (le:(bH.aS aO (.fix ic)).le bD.next u1)(ib:bD.next<=KY.next)(jW:bC prog w h₁ false env' ns' u1 q' KY c4):jn prog w h₁ env' ns' br ct h1 aO D P (i+1) acc u1 q' KY c4:=by
 obtain⟨dq,dt,hC,j7⟩:=J.mO
 exact⟨jW,(az.m8 J.le ph).trans J.e7 le,Nat.le_trans J.e7 ib,⟨ic,le.2.1 _ _ az.cX,cG⟩,⟨dq,dt,le.2.1 _ _ ((az.b' J.ne).trans hC),(j7.a4 (az.rb cP) (Nat.le_refl _)).a4 le.1 ib⟩,J.ne,J.c'⟩
theorem jn.push(J:jn prog w h₁ env' ns' br ct h1 aO D P i acc bH a' bD h2)(qN:(br.fj h1).role D=.free)
 (le:bH.le bD.next qv)(e7:bD.next<=qi.next)(nJ:bC prog w h₁ false env' ns' qv a' qi n7)(hC:qv.role D=.fix (listOf dq dt))(j7:bt prog w qv qi.next acc dq.toList)(ml:aM prog w qv qi.next y f5)(hs:Heap.SameBut D n7 vJ)(aH:vJ.get? D=some (listOf (dq.push f5) q8)):
 jn prog w h₁ env' ns' br ct h1 aO D P i (acc++[y]) (qv.aS D (.fix (listOf (dq.push f5) q8))) a' qi vJ:=by
 obtain⟨dI,cP,cG⟩:=J.dN
 have iy:=az.rb (n:=qi.next) (r:=.fix (listOf (dq.push f5) q8)) hC
 exact⟨nJ.J3 hC hs aH λx c aw=>(J.c' x c aw).2,az.m8 (J.le.trans J.e7 le) qN,Nat.le_trans J.e7 e7,⟨dI,(az.b' J.ne.symm).trans (le.2.1 _ _ cP),cG⟩,⟨dq.push f5,q8,az.cX,by rw[Array.toList_push];exact(j7.a4 iy (Nat.le_refl _)).append (.rx (ml.a4 iy (Nat.le_refl _)))⟩,J.ne,J.c'⟩
theorem jn.cv(J:jn prog w h₁ env' ns' br ct h1 aO D P i acc bH a' bD h2)(bu:bC prog w h₁ own env ns br U ct h1)(QI:env'.locals≠aO)(pk:D≠env'.locals)
 (dN:br.role aO=.free)(mO:br.role D=.free)(sE:br.role env'.locals=.free)(GI:∀a,br.role a=.free->(br.fj h1).role a=.free)(ag:∀a x,a≠aO->h2.get? a=some x->aQ.get? a=some x):
 ∃bY items dt hP m,br.le ct.next bY/\bC prog w h₁ own env ns bY U bD aQ/\bY.role D=.fix (listOf items dt)/\bt prog w bY bD.next acc items.toList/\bY.role env'.locals=.fix hP/\aQ.Ns env'.locals m:=by
 obtain⟨dI,cP,_⟩:=J.dN
 obtain⟨dq,dt,hC,j7⟩:=J.mO
 obtain⟨Th,Rk,_⟩:=J.R.U
 have rE:=J.R.l
 generalize env'.locals=aA at*
 obtain⟨hP,An⟩:=J.R.bE.live aA (bL.ne rE)
 have jU:=J.R.bE.rD (W':=(bH.aS aO .free).aS aA (.fix hP)) rfl λa=>by
  by_cases a8:a=aA
  .rw[a8];exact .inr ⟨.inl rE,.inr (.inr ⟨hP,az.cX,An⟩)⟩
  .by_cases e:a=aO
   .exact .inr ⟨.inr ⟨dI,by rw[e];exact cP⟩,.inl ((az.b' a8).trans (by rw[e];exact az.cX))⟩
   .exact .inl ((az.b' a8).trans (az.b' e))
 have e3:∀a,((bH.aS aO .free).aS aA (.fix hP)).role a≠.free->aQ.get? a=h2.get? a:=λa ha=>by
  obtain⟨oa,hL⟩:=jU.1.live a ha
  rw[hL];exact ag a oa (λe=>ha (by rw[e];exact(az.b' (Ne.symm QI)).trans az.cX)) hL
 have hG:bw prog w h₁ ((bH.aS aO .free).aS aA (.fix hP)) bD aQ:=jU.1.keep (λa ha _=>e3 a ha) λa ha=>by rw[e3 a (bL.ne ha)];exact jU.1.live a (bL.ne ha)
 obtain⟨K3,C9,K4,K5⟩:=bu.bE.bT (az.m8 (az.m8 J.le (GI _ dN)) (GI _ sE)) hG
 have Ef:∀a hQ,br.role a=.free->((bH.aS aO .free).aS aA (.fix hP)).role a=.fix hQ->(br.bT ((bH.aS aO .free).aS aA (.fix hP))).role a=.fix hQ:=λa hQ a8 a7=>by
  unfold az.bT;dsimp only;rw[a8,a7]
 exact⟨_,dq,dt,hP,Th,C9,bu.next K3 C9 J.e7 K5,Ef _ _ mO ((az.b' pk).trans ((az.b' J.ne).trans hC)),(j7.a4 jU.2 (Nat.le_refl _)).a4 K4 (Nat.le_refl _),Ef _ _ sE az.cX,Rk.at' λhQ aH=>(e3 aA (bL.ne az.cX)).trans aH⟩
theorem az.qX{W:az}(e:W.role a=.free):(W.fj h).role a=.free:=by unfold az.fj;dsimp only;rw[e]
theorem az.RC{W:az}(e:W.role a=.fix o):(W.fj h).role a=.fix o:=by unfold az.fj;dsimp only;rw[e]
inductive K7 (prog:Program) (w:World) (h₁:Heap) (env':Env) (ns':List Str) (br:az) (ct:St) (h1:Heap) (aO D:Addr) (P:Nat->Obj->Prop) (items:List J) (M:List J->List J->Loc->St->Prop) (n:Nat) (bH:az) (a':Loc) (bD:St) (h2:Heap):Prop
 |mk (i:Nat) (rest acc:List J) (aV:n=rest.length) (aI:items.drop i=rest) (hi:i<=items.length) (J:jn prog w h₁ env' ns' br ct h1 aO D P i acc bH a' bD h2) (ao:M rest acc a' bD)
theorem NK{bind:J->Loc->Option Loc}{T:gN}{jS:cW}{aA:List J->St->Prop}{R:Result->Shared->Prop}
 (ht:kv prog w h₁ false env' ns' k t bind)(hT:BOk prog w h₁ false env' ns' k (mq gs env') T)(bV:bj prog w h₁ false env' ns' k (eval dX env') jS)(aE:eC A k){aO D:Addr}{src:J}{ih:Value}{items:List J}{N:az->Prop}{P:Nat->Obj->Prop}
 (gP:lX prog w h₁ k src ih items aO N P){br:az}{ct:St}{h1:Heap}(bb:aM prog w (br.fj h1) ct.next src ih)(h6:N (br.fj h1))(ph:(br.fj h1).role aO=.free)(qN:(br.fj h1).role D=.free){s:Shared}
 (cv:∀i acc bH a' bD h2 aQ cN,aA acc bD->jn prog w h₁ env' ns' br ct h1 aO D P i acc bH a' bD h2->(∀a x,a≠aO->h2.get? a=some x->aQ.get? a=some x)->R (.ok .next) {s with heap:=aQ,toks:=cN})
 {bH:az}{a':Loc}{bD:St}{h2:Heap}{tk2:Nat}(J:jn prog w h₁ env' ns' br ct h1 aO D P 0 [] bH a' bD h2)(ao:aJ (l1 src items bind T jS items [] a' bD) aA):
 eQ (model prog w) A (.compLoop (.ListComp dX [⟨t,it,gs,0⟩] scope pos) 0 (.ref aO) (.ref D) env') R {s with heap:=h2,toks:=tk2}:=by
 refine ND (uU s (K7 prog w h₁ env' ns' br ct h1 aO D P items λrest acc l σ=>aJ (l1 src items bind T jS rest acc l σ) aA)) ?_ items.length ⟨bH,a',bD,h2,tk2,rfl,0,items,[],rfl,rfl,Nat.zero_le _,J,ao⟩
 clear J ao
 intro n aY h
 obtain⟨bH,a',bD,h2,tk2,es,h⟩:=h
 obtain⟨i,rest,x4,aV,aI,hi,J,ao⟩:=h
 rcases rest with _|⟨x,rest⟩<;>rw[es,aV]<;>refine eK λG bT=>?_<;>
  obtain⟨dI,cP,l8⟩:=J.dN<;>
  have mT:=J.R.bE.fix _ _ cP<;>
  have bJ:aM prog w bH bD.next src ih:=bb.a4 J.le.1 J.e7<;>
  have sN:=gP.tY _ _ _ h6 J.le.1
 .obtain⟨hit,ao⟩:=aJ.fR ao
  exact bT<|wpN.of<|gP.done A bH _ i dI _ _ _ aE sN J.R.bE bJ hit (yZ aI) hi mT l8 cP λaQ cN sO=>cv i x4 bH a' bD h2 aQ cN ao J sO
 .obtain⟨hit,ao⟩:=aJ.fR ao
  obtain⟨cR,e4,ao⟩:=(aJ.gR ao).cv
  obtain⟨av,aI⟩:=vn aI
  have sT:=(List.getElem?_eq_some_iff.mp av).1
  refine bT<|wpN.of<|gP.item A bH bD i x dI _ _ _ aE sN J.R.bE bJ hit av mT l8 cP λdC aQ cN ic eB mU mV ma=>eK λG bT=>?_
  obtain⟨c',jw,Ak⟩:=gP.cls _ _ mV
  refine bT<|wpN.of<|Hu mU jw Ak<|wpN.of<|ht A _ a' cR bD x dC _ _ _ aE e4 (J.step cP mU ma) (eB.a4 (az.rb cP) (Nat.le_refl _)) λfJ mr eP=>hT.go aE ao.bind eP λb oL ao u1 bP c4 J9 q' ib jW cK=>?_
  have xK:=J.next ph cP mV q' ib jW
  rw[show b=bP from cK] at ao
  rcases bP with _|_
  .exact⟨rest.length,Nat.lt_succ_self _,u1,cR,oL,c4,J9,rfl,i+1,rest,x4,rfl,aI,sT,xK,ao⟩
  .refine bV.go aE (aJ.bind ao) jW λy qi ao qv f5 n7 rK pR H6 nJ ml=>eK λG bT=>?_
   obtain⟨de,ao⟩:=aJ.fR ao
   obtain⟨dq,dt,X2,z3⟩:=xK.mO
   have Jv:=pR.2.1 _ _ X2
   have Gy:=z3.a4 pR.1 H6
   have hsz:dq.size<=sizeLine:=by
    rw[<-Array.length_toList,Gy.length]
    exact Nat.le_trans (Nat.le_of_lt de) (by decide)
   refine bT<|wpN.of<|wpAny_list_append_plain (hsz:=hsz) ⟨dt,nJ.bE.fix _ _ Jv⟩ λvJ XR RL=>?_
   obtain⟨abY,RA⟩:=XR
   exact⟨rest.length,Nat.lt_succ_self _,_,cR,qi,vJ,rK,rfl,i+1,rest,x4++[y],rfl,aI,sT,xK.push qN pR H6 nJ Jv Gy ml RL RA,ao⟩
theorem NJ{br:az}{fp:Loc->Loc}{m:Str->Option Value}(bu:bC prog w h₁ own env ns br U ct h1)(lB:o.isFreed=false)(cG:P 0 o)
 (eI:env'.locals=h1.objs.size+1+1)(qV:h4.Ns env'.locals m)(fI:∀b,b<h1.objs.size+1+1->h4.get? b=((h1.push o).push (listOf #[] 0)).get? b)(o9:oN env env' ns ns' fp):
 ∃DJ,jn prog w h₁ env' ns' br ct h1 h1.objs.size (h1.objs.size+1) P 0 [] DJ (fp U) ct h4:=by
 have rI:((h1.push o).push (listOf #[] 0)).objs.size=h1.objs.size+1+1:=by rw[Heap.size_push,Heap.size_push]
 have EX:h4.get? (h1.objs.size+1)=some (listOf #[] 0):=by
  rw[fI _ (Nat.lt_succ_self _),<-Heap.size_push h1 o];exact Heap.get?_push_size _ rfl
 have EY:h4.get? h1.objs.size=some o:=by
  rw[fI _ (wi _),get?_push_ne (by rw[Heap.size_push];exact Nat.lt_succ_self _)];exact Heap.get?_push_size _ lB
 have vq:∀b,b<h1.objs.size->h4.get? b=h1.get? b:=λb ag=>by
  rw[fI _ (Nat.lt_trans ag (wi _)),get?_push_ne (by rw[Heap.size_push];exact Nat.lt_succ_of_lt ag),get?_push_ne ag]
 obtain⟨hP,An⟩:∃o,h4.get? (h1.objs.size+1+1)=some o:=by rw[<-eI];obtain⟨o,_,_,h,_⟩:=qV;exact⟨o,h⟩
 have ph:=az.qX (h:=h1) (bu.bE.free (Nat.le_refl _))
 have qN:=az.qX (h:=h1) (bu.bE.free (Nat.le_succ _))
 have PR:=az.qX (h:=h1) (bu.bE.free (Nat.le_of_lt (wi _)))
 have D9:∀c o,(br.fj h1).role c=.fix o->c<h1.objs.size:=λc o e=>bu.bE.fj.1.lt (bL.ne e)
 obtain⟨aF,vT⟩:=bu.bE.fj
 have Ln:bw prog w h₁ (br.fj h1) ct h4:=aF.keep (λa ha _=>vq a (aF.lt ha)) λa ha=>by rw[vq a (aF.lt (bL.ne ha))];exact aF.live a (bL.ne ha)
 generalize h1.objs.size=aO at*
 have Lo:=Ln.hu (r:=.fix o) ph ⟨o,EY⟩ (λ_ e=>nomatch e) (λcO e=>bL.fix.inj e▸EY)
 have Ga:=(az.b' (r:=.fix o) (H3 aO)).trans qN
 have Lp:=Lo.hu (r:=.fix (listOf #[] 0)) Ga ⟨_,EX⟩ (λ_ e=>nomatch e) (λcO e=>bL.fix.inj e▸EX)
 have F':=(az.b' (r:=.fix (listOf #[] 0)) (Ts aO)).trans ((az.b' (r:=.fix o) (H5 aO)).trans PR)
 have Lq:=Lp.hu (r:=.U) F' ⟨hP,An⟩ (λ_ e=>nomatch e) (λ_ e=>nomatch e)
 have SM:=(az.gG (n:=ct.next) (r:=.fix o) ph).trans (Nat.le_refl _) (az.gG (r:=.fix (listOf #[] 0)) Ga)
 have ra:=SM.trans (Nat.le_refl _) (az.gG (r:=.U) F')
 have vz:∀x c,env.cells.lookup x=some c->∃o,(br.fj h1).role c=.fix o:=λx c aw=>by
  rcases bu.cells x c aw with⟨_,r,_⟩|⟨_,o,r⟩
  .obtain⟨o,_,q⟩:=bu.bE.GY r;exact⟨o,q⟩
  .exact⟨o,az.RC r⟩
 refine⟨_,⟨Lq,eI▸az.cX,λx c aw=>.inr ⟨rfl,?_⟩,λx y c av bB=>bu.apart x y c (o9.sub x c av) (o9.sub y c bB),λx c aw=>?_,m,qV,λi v a0=>?_⟩,ra,Nat.le_refl _,⟨o,(az.b' (Tr aO)).trans ((az.b' (Tq aO)).trans az.cX),cG⟩,⟨#[],0,(az.b' (H4 aO)).trans az.cX,.nil⟩,H3 _,λx c aw=>?_⟩
 .obtain⟨cO,r⟩:=vz x c (o9.sub x c aw);exact⟨cO,ra.2.1 _ _ r⟩
 .obtain⟨kZ,cO,fV,ee⟩:=bu.mI x c (o9.sub x c aw)
  obtain⟨_,r⟩:=vz x c (o9.sub x c aw)
  exact⟨kZ,cO,(vq c (D9 _ _ r)).trans fV,ee⟩
 .obtain⟨ai,x,cD,av,je,Ah,kJ,Rc⟩:=o9.cap U i v a0
  obtain⟨m,hm,f⟩:=bu.U
  obtain⟨y,ay,bB,aI,hs⟩:=f ai v cD
  rw[<-Option.some.inj (av.symm.trans bB)] at hs
  refine⟨x,ay,je,(aI.a4 vT (Nat.le_refl _)).a4 ra.1 (Nat.le_refl _),.inr ⟨kJ,?_⟩⟩
  rcases hs with⟨q,_⟩|⟨_,c,aw,cO,fV,ee⟩
  .exact nomatch Ah.symm.trans q
  .obtain⟨_,r⟩:=vz x c aw
   exact⟨c,Rc.trans aw,cO,(vq c (D9 _ _ r)).trans fV,ee⟩
 .obtain⟨cO,r⟩:=vz x c (o9.sub x c aw)
  exact⟨λe=>bL.no ph (e▸r),λe=>bL.no qN (e▸r)⟩
theorem yT{A:Around}{gs:List Expr}{scope:Scope}{pos:Pos}{el:List (Str×Addr)}{ns':List Str}{mw:cW}{fp:Loc->Loc}{bind:J->Loc->Option Loc}{T:gN}{jS:cW}{aA:List J->St->Prop}
 {RR:Value->Addr->Result->Shared->Prop}
 (hit:bj prog w h₁ own env ns k (eval it env) mw)(pq:∀aA,oN env (compEnvC scope el aA env) ns ns' fp)(lu:∀y∈scope.names,y.2≠.cell)(iu:scope.kind=.function)
 (ht:∀aA,kv prog w h₁ false (compEnvC scope el aA env) ns' k t bind)(hT:∀aA,BOk prog w h₁ false (compEnvC scope el aA env) ns' k (mq gs (compEnvC scope el aA env)) T)(bV:∀aA,bj prog w h₁ false (compEnvC scope el aA env) ns' k (eval dX (compEnvC scope el aA env)) jS)
 (aE:eC A k)(ao:aJ (vg mw fp bind T jS U σ) aA)(R:bC prog w h₁ own env ns W U σ s.heap)
 (QL:∀acc aZ,aA acc aZ->∀bY aQ cN D aA hP items dt m,W.bF D->W.bF aA->W.le σ.next bY->σ.next<=aZ.next->bC prog w h₁ own env ns bY U aZ aQ->bY.role D=.fix (listOf items dt)->bt prog w bY aZ.next acc items.toList->bY.role aA=.fix hP->aQ.Ns aA m->RR (.ref D) aA (.ok .next) {s with heap:=aQ,toks:=cN}):
 wpN (model prog w) A (eval it env) (λx bh=>wpN (model prog w) A (pyIter x) (λSs cS=>wpN (model prog w) A (newList []) (λnM fb=>
  wpN (model prog w) A (newFunctionEnv scope env.globals el [] env.qual none .none (some env)) (λcenv oB=>
   eQ (model prog w) A (.compStart (.ListComp dX [⟨t,it,gs,0⟩] scope pos) 0 Ss nM {cenv with scope:=relabel scope env}) (RR nM cenv.locals) oB) E fb) E cS) E bh) E s:=by
 refine hit.go aE ao.bind R λsrc ct ao br ih h1 cE bA ae bu bb=>?_
 obtain⟨items,a7,ao⟩:=(aJ.gR ao).cv
 refine wpN.of<|BK (k:=k) (s:={s with heap:=h1,toks:=cE}) bu.bE bb a7 λo N P lB h6 cG gP=>?_
 refine wpN.of<|wpAny_newObj_type<|wpN.of (wpAny_newFunctionEnv lu (λy bB=>absurd bB (List.not_mem_nil)) (λh4 qV mb=>?_) iu)
 have rI:((h1.push o).push (listOf #[] 0)).objs.size=h1.objs.size+1+1:=by rw[Heap.size_push,Heap.size_push]
 show eQ _ _ (.compStart (.ListComp dX [⟨t,it,gs,0⟩] scope pos) 0 (.ref h1.objs.size) (.ref (h1.push o).objs.size) (compEnvC scope el ((h1.push o).push (listOf #[] 0)).objs.size env)) (RR (.ref (h1.push o).objs.size) ((h1.push o).push (listOf #[] 0)).objs.size) _
 dsimp only at qV mb
 rw[Heap.size_push,Heap.size_push] at qV mb
 rw[rI,Heap.size_push]
 obtain⟨DJ,J⟩:=NJ (env':=compEnvC scope el (h1.objs.size+1+1) env) bu lB cG rfl qV (λb ag=>(mb.2 b (Nat.ne_of_lt ag)).trans (get?_push_ne (by rw[Heap.size_push,Heap.size_push];exact ag))) (pq _)
 have dN:br.role h1.objs.size=.free:=bu.bE.free (Nat.le_refl _)
 have mO:br.role (h1.objs.size+1)=.free:=bu.bE.free (Nat.le_succ _)
 have sE:br.role (h1.objs.size+1+1)=.free:=bu.bE.free (Nat.le_of_lt (wi _))
 have vT:=bu.bE.fj.2
 obtain⟨dI,cP,l8⟩:=J.dN
 have aU:=λb7=>NK (pos:=pos) (it:=it) (scope:=scope) (s:=s) (R:=RR (.ref (h1.objs.size+1)) (h1.objs.size+1+1)) (tk2:=b7) (ht _) (hT _) (bV _) aE gP (bb.a4 vT (Nat.le_refl _)) (gP.tY _ _ _ h6 vT) (az.qX dN) (az.qX mO)
  (λi acc bH a' bD h2 aQ cN c J ag=>by
    obtain⟨bY,items,dt,hP,m,kO,dc,hC,j7,mj,hm⟩:=J.cv bu (H5 _) (H4 _) dN mO sE (λ_ e=>az.qX e) ag
    exact QL acc bD c bY aQ cN _ _ hP items dt m (az.IG bA mO) (az.IG bA sE) (bA.trans ae kO) (Nat.le_trans ae J.e7) dc hC j7 mj hm) J ao
 exact NF (aU _) (wpN.of<|gP.self A 0 dI _ _ _ (J.R.bE.fix _ _ cP) l8 (aU _))
theorem bC.wY{U:Loc}(R:bC prog w h₁ own env ns W U σ h)(ha:W.role D=.fix o)(aw:∀x c,env.cells.lookup x=some c->c≠D):
 bC prog w h₁ own env ns (W.aS D (.imm o)) U σ h/\W.eM σ.next (W.aS D (.imm o)):=by
 obtain⟨xG,sf⟩:=R.bE.wY ha
 have ne:∀b r,W.role b=r->(∀o,r≠.fix o)->(W.aS D (.imm o)).role b=r:=λb r e q=>by
  rw[az.b']
  .exact e
  .rintro rfl;rw[ha] at e;exact q _ e.symm
 refine⟨⟨xG,ne _ _ R.l (λ_ q=>nomatch q),λx c av=>(R.cells x c av).imp (λq=>⟨q.1,ne _ _ q.2.1 (λ_ q=>nomatch q),q.2.2⟩) λ⟨q,hQ,r⟩=>⟨q,hQ,by rw[az.b' (aw x c av)];exact r⟩,R.apart,R.mI,?_⟩,sf⟩
 obtain⟨m,hm,f⟩:=R.U
 exact⟨m,hm,λi v a0=>by obtain⟨x,ay,av,aI,hs⟩:=f i v a0;exact⟨x,ay,av,aI.a4 sf (Nat.le_refl _),hs⟩⟩
theorem bC.drop{U:Loc}(R:bC prog w h₁ own env ns W U σ h)(ha:W.role D=.fix o)(aw:∀x c,env.cells.lookup x=some c->c≠D):
 bC prog w h₁ own env ns (W.aS D .free) U σ h/\W.eM σ.next (W.aS D .free):=by
 obtain⟨xG,sf⟩:=R.bE.rD (W':=W.aS D .free) rfl λa=>by
  by_cases e:a=D
  .subst e;exact .inr ⟨.inr ⟨o,ha⟩,.inl az.cX⟩
  .exact .inl (az.b' e)
 have ne:∀b r,W.role b=r->(∀o,r≠.fix o)->(W.aS D .free).role b=r:=λb r e q=>by
  rw[az.b']
  .exact e
  .rintro rfl;rw[ha] at e;exact q _ e.symm
 refine⟨⟨xG,ne _ _ R.l (λ_ q=>nomatch q),λx c av=>(R.cells x c av).imp (λq=>⟨q.1,ne _ _ q.2.1 (λ_ q=>nomatch q),q.2.2⟩) λ⟨q,hQ,r⟩=>⟨q,hQ,by rw[az.b' (aw x c av)];exact r⟩,R.apart,R.mI,?_⟩,sf⟩
 obtain⟨m,hm,f⟩:=R.U
 exact⟨m,hm,λi v a0=>by obtain⟨x,ay,av,aI,hs⟩:=f i v a0;exact⟨x,ay,av,aI.a4 sf (Nat.le_refl _),hs⟩⟩
theorem bC.toCell{U:Loc}(R:bC prog w h₁ own env ns W U σ h)(ha:W.role D=.free)(aG:∃o,h.get? D=some o)(av:CellAt prog w (W.eD σ.next D) (σ.next+1) h σ.next D x):
 bC prog w h₁ own env ns (W.eD σ.next D) U (σ.new x) h/\W.le σ.next (W.eD σ.next D):=
 have l:=az.oi (n:=σ.next) ha
 ⟨R.next (R.bE.alloc ha aG av) l (Nat.le_succ _) λ_ _=>rfl,l⟩
theorem bC.nR{U:Loc}(R:bC prog w h₁ true env ns W U σ h)(ha:W.role D=.fix o):∀x c,env.cells.lookup x=some c->c≠D:=λx c av=>by
 rcases R.cells x c av with⟨_,r,_⟩|⟨q,_⟩
 .rintro rfl;exact bL.no ha r
 .cases q
section
variable{dX t it:Expr}{gs:List Expr}{scope:Scope}{pos:Pos}{el:List (Str×Addr)}{ns':List Str}{mw:cW}{fp:Loc->Loc}{bind:J->Loc->Option Loc}{T:gN}{jS:cW}
theorem kD(hit:bj prog w h₁ true env ns k (eval it env) mw)(pw:closureFor scope env=pure el)(pq:∀aA,oN env (compEnvC scope el aA env) ns ns' fp)(lu:∀y∈scope.names,y.2≠.cell)(iu:scope.kind=.function)(lA:∀y∈scope.names,y.2=.local->scope.names.lookup y.1=some .local)
 (ht:∀aA,kv prog w h₁ false (compEnvC scope el aA env) ns' k t bind)(hT:∀aA,BOk prog w h₁ false (compEnvC scope el aA env) ns' k (mq gs (compEnvC scope el aA env)) T)(bV:∀aA,bj prog w h₁ false (compEnvC scope el aA env) ns' k (eval dX (compEnvC scope el aA env)) jS)
 (hs:autoParam (∀x,foldedSetIterable it env x=pure x) ud._auto_1):
 bj prog w h₁ true env ns k (eval (.ListComp dX [⟨t,it,gs,0⟩] scope pos) env) (fq mw fp bind T jS):=by
 refine .of λA W U σ s Q E aE ao R=>?_
 rw[eval_ListComp]
 refine Ce (use:=none) rfl hs pw iu lA (yT (RR:=λnM aA=>vh (model prog w) A none Q nM aA) hit pq lu iu ht hT bV aE ao.bind R λacc bD aP bY aQ cN D aA hP items dt m tE tD kO bx dc hC j7 mj hm=>?_)
 refine⟨m,hm,λh4 mb=>?_⟩
 obtain⟨dW,tp⟩:=dc.drop mj (dc.nR mj)
 have pk:=dc.bE.A0 hC hm
 have rC:(bY.aS aA .free).role D=.fix (listOf items dt):=by rw[az.b' pk];exact hC
 have xD:bw prog w h₁ (bY.aS aA .free) bD h4:=dW.bE.sameBut mb (.inl az.cX)
 have eP:bC prog w h₁ true env ns (bY.aS aA .free) U bD h4:=dW.next xD az.le.refl (Nat.le_refl _) λa ha=>mb.2 a (by rintro rfl;rw[az.cX] at ha;exact nomatch ha)
 obtain⟨jW,wo⟩:=eP.wY rC (eP.nR rC)
 exact aP _ _ h4 cN (az.rd (az.rd kO tD) tE) bx jW (.bo az.cX rfl rfl ((j7.a4 tp (Nat.le_refl _)).a4 wo (Nat.le_refl _)))
theorem EZ(hit:bj prog w h₁ true env ns k (eval it env) mw)(pw:closureFor scope env=pure el)(pq:∀aA,oN env (compEnvC scope el aA env) ns ns' fp)(lu:∀y∈scope.names,y.2≠.cell)(iu:scope.kind=.function)(lA:∀y∈scope.names,y.2=.local->scope.names.lookup y.1=some .local)
 (ht:∀aA,kv prog w h₁ false (compEnvC scope el aA env) ns' k t bind)(hT:∀aA,BOk prog w h₁ false (compEnvC scope el aA env) ns' k (mq gs (compEnvC scope el aA env)) T)(bV:∀aA,bj prog w h₁ false (compEnvC scope el aA env) ns' k (eval dX (compEnvC scope el aA env)) jS)
 (hs:autoParam (∀x,foldedSetIterable it env x=pure x) ud._auto_1):
 bj prog w h₁ true env ns k (eval (.ListComp dX [⟨t,it,gs,0⟩] scope pos) env) (nV mw fp bind T jS):=by
 refine .of λA W U σ s Q E aE ao R=>?_
 rw[eval_ListComp]
 refine Ce (use:=none) rfl hs pw iu lA (yT (RR:=λnM aA=>vh (model prog w) A none Q nM aA) hit pq lu iu ht hT bV aE ao.bind R λacc bD aP bY aQ cN D aA hP items dt m tE tD kO bx dc hC j7 mj hm=>?_)
 refine⟨m,hm,λh4 mb=>?_⟩
 obtain⟨dW,tp⟩:=dc.drop mj (dc.nR mj)
 have pk:=dc.bE.A0 hC hm
 have rC:(bY.aS aA .free).role D=.fix (listOf items dt):=by rw[az.b' pk];exact hC
 have xD:bw prog w h₁ (bY.aS aA .free) bD h4:=dW.bE.sameBut mb (.inl az.cX)
 have eP:bC prog w h₁ true env ns (bY.aS aA .free) U bD h4:=dW.next xD az.le.refl (Nat.le_refl _) λa ha=>mb.2 a (by rintro rfl;rw[az.cX] at ha;exact nomatch ha)
 have GX:h4.get? D=some (listOf items dt):=eP.bE.fix _ _ rC
 obtain⟨jW,wo⟩:=eP.drop rC (eP.nR rC)
 have E9:((bY.aS aA .free).aS D .free).role D=.free:=az.cX
 have z3:=(j7.a4 tp (Nat.le_refl _)).a4 wo (Nat.le_refl _)
 obtain⟨nJ,pR⟩:=jW.toCell (x:=.list acc) E9 ⟨_,GX⟩ (.list GX (z3.a4 (az.oi (n:=bD.next) E9).1 (Nat.le_succ _)))
 have ed:(((bY.aS aA .free).aS D .free).eD bD.next D).al bD.next=D:=by show(if bD.next=bD.next then _ else _)=_;rw[if_pos rfl]
 have q:aM prog w (((bY.aS aA .free).aS D .free).eD bD.next D) (bD.next+1) (.ref bD.next) (.ref ((((bY.aS aA .free).aS D .free).eD bD.next D).al bD.next)):=.ref (Nat.lt_succ_self _)
 rw[ed] at q
 exact aP _ _ h4 cN ((az.rd (az.rd kO tD) tE).trans bx pR) (Nat.le_trans bx (Nat.le_succ _)) nJ q
theorem JH{y:Str}(hit:bj prog w h₁ true env ns k (eval it env) mw)(pw:closureFor scope env=pure el)(pq:∀aA,oN env (compEnvC scope el aA env) ns ns' fp)(lu:∀y∈scope.names,y.2≠.cell)(iu:scope.kind=.function)(lA:∀y∈scope.names,y.2=.local->scope.names.lookup y.1=some .local)
 (ht:∀aA,kv prog w h₁ false (compEnvC scope el aA env) ns' k t bind)(hT:∀aA,BOk prog w h₁ false (compEnvC scope el aA env) ns' k (mq gs (compEnvC scope el aA env)) T)(bV:∀aA,bj prog w h₁ false (compEnvC scope el aA env) ns' k (eval dX (compEnvC scope el aA env)) jS)
 (bB:ns[i]? =some y)(aV:ns.Nodup)(hk:nI true env y)(RQ:swapsWith (.ListComp dX [⟨t,it,gs,0⟩] scope pos) (some (.Name y tS)) ZS.line env=pure true)(hf:autoParam (env.scope.kind=.function) aL._auto_1)
 (hs:autoParam (∀x,foldedSetIterable it env x=pure x) ud._auto_1):
 SOk prog w h₁ env ns k (exec (.Assign [.Name y tS] (.ListComp dX [⟨t,it,gs,0⟩] scope pos) ZS) env) (b6 i (fq mw fp bind T jS)):=by
 refine .of λA W U σ s Q E aE ao R=>?_
 rw[exec_Assign_Name_used _ _ _ _ RQ]
 refine a5 (d0 (a5 ?_))
 show wpN _ A (do let _<-comprehension (.ListComp dX [⟨t,it,gs,0⟩] scope pos) scope env _ (newList []) false (eval it env) (some (assign (.Name y tS) env))) _ _ s
 refine a5 (cy (Ce (use:=some (assign (.Name y tS) env)) (Q:=λ_ aY=>Q .next aY) rfl hs pw iu lA
  (yT (RR:=λnM aA=>vh (model prog w) A (some (assign (.Name y tS) env)) (λ_ aY=>Q .next aY) nM aA) hit pq lu iu ht hT bV aE (aJ.bind (aJ.bind ao)) R λacc bD aP bY aQ cN D aA hP items dt m tE tD kO bx dc hC j7 mj hm=>?_)) (λ_ aY bZ=>cq (cq bZ)) λ_ _ e=>e)
 have pk:=dc.bE.A0 hC hm
 obtain⟨dW,tp⟩:=dc.wY hC (dc.nR hC)
 have BN:(bY.aS D (.imm (listOf items dt))).role aA=.fix hP:=by rw[az.b' (Ne.symm pk)];exact mj
 show wpN _ A (assign (.Name y tS) env (.ref D)) _ _ _
 refine wpN.of<|wpAny_assign_Name (dW.storeName (s:={s with heap:=aQ,toks:=cN}) bB aV (.bo az.cX rfl rfl (j7.a4 tp (Nat.le_refl _))) hk hf λh4 oC eP=>?_)
 refine⟨m,hm.at' λo aH=>?_,λfJ q0=>?_⟩
 .have z:=dc.bE.fix _ _ mj
  rw[aH] at z;cases z
  exact eP.bE.fix _ _ BN
 .obtain⟨jW,wo⟩:=eP.drop BN (eP.nR BN)
  have Lc:bw prog w h₁ ((bY.aS D (.imm (listOf items dt))).aS aA .free) bD fJ:=jW.bE.sameBut q0 (.inl az.cX)
  have nJ:=jW.next Lc az.le.refl (Nat.le_refl _) λa ha=>q0.2 a (by rintro rfl;rw[az.cX] at ha;exact nomatch ha)
  exact aP _ _ fJ oC (az.rd (az.rd kO tE) tD) bx nJ trivial
end
theorem Ec{kindOf:Str->Option NameKind}:∀{binds:List (Str×Value)} {m:Str->Option Value} {x:Str},x∉binds.map (·.1)->bindL kindOf binds m x=m x
 |[],_,_,_=>rfl
 |(n,v)::r,m,x,h=>by
  simp only[List.map_cons,List.mem_cons,not_or] at h
  unfold bindL
  rw[Ec h.2]
  split
  .show(if x=n then some v else m x)=m x
   rw[if_neg h.1]
  .rfl
theorem Ea{kindOf:Str->Option NameKind}:∀{binds:List (Str×Value)} {m:Str->Option Value} {x:Str},x∉binds.map (·.1)->bindC kindOf binds m x=m x
 |[],_,_,_=>rfl
 |(n,v)::r,m,x,h=>by
  simp only[List.map_cons,List.mem_cons,not_or] at h
  unfold bindC
  rw[Ea h.2]
  split
  .rfl
  .show(if x=n then some v else m x)=m x
   rw[if_neg h.1]
theorem Eb{kindOf:Str->Option NameKind}:∀{xs:List Str} {vs:List Value} {m:Str->Option Value} {i:Nat} {x:Str} {v:Value},xs.Nodup->xs[i]? =some x->vs[i]? =some v->kindOf x=some .local->bindL kindOf (xs.zip vs) m x=some v
 |[],_,_,_,_,_,_,h,_,_=>by simp at h
 |_::_,[],_,_,_,_,_,_,h,_=>by simp at h
 |y::hS,u::cB,m,0,x,v,aV,av,a0,hk=>by
  simp at av a0;subst av a0
  rw[List.nodup_cons] at aV
  rw[List.zip_cons_cons];unfold bindL
  rw[Ec (λh=>aV.1 (by
   obtain⟨p,hp,e⟩:=List.mem_map.mp h
   have:=List.of_mem_zip (a:=p.1) (b:=p.2) hp
   rw[<-e];exact this.1)),if_pos hk]
  simp
 |y::hS,u::cB,m,i+1,x,v,aV,av,a0,hk=>by
  rw[List.nodup_cons] at aV
  rw[List.zip_cons_cons];unfold bindL
  exact Eb aV.2 (by simpa using av) (by simpa using a0) hk
theorem D'{kindOf:Str->Option NameKind}:∀{xs:List Str} {vs:List Value} {m:Str->Option Value} {i:Nat} {x:Str} {v:Value},xs.Nodup->xs[i]? =some x->vs[i]? =some v->kindOf x≠some .local->bindC kindOf (xs.zip vs) m x=some v
 |[],_,_,_,_,_,_,h,_,_=>by simp at h
 |_::_,[],_,_,_,_,_,_,h,_=>by simp at h
 |y::hS,u::cB,m,0,x,v,aV,av,a0,hk=>by
  simp at av a0;subst av a0
  rw[List.nodup_cons] at aV
  rw[List.zip_cons_cons];unfold bindC
  rw[Ea (λh=>aV.1 (by
   obtain⟨p,hp,e⟩:=List.mem_map.mp h
   have:=List.of_mem_zip (a:=p.1) (b:=p.2) hp
   rw[<-e];exact this.1)),if_neg hk]
  simp
 |y::hS,u::cB,m,i+1,x,v,aV,av,a0,hk=>by
  rw[List.nodup_cons] at aV
  rw[List.zip_cons_cons];unfold bindC
  exact D' aV.2 (by simpa using av) (by simpa using a0) hk
noncomputable def az.pV(W:az)(as:List Addr):az:={W with role:=λa=>if a∈as then .U else W.role a}
theorem Nd{ej:List Value}{hr:List (Str×Addr)}{M:Str->Option Value}{NO:Str->Option Value}(R:bw prog w h₁ W σ h)(ha:bt prog w W σ.next args ej)(de:args.length=xs.length)(jc:∃hS,ns=xs++hS)(kK:ns.Nodup)(pz:(callEnvC fd aU fa).cells=hr)
 (eS:h.objs.size<=aU)(sW:h2.Ns aU M)(kJ:∀b o,h.get? b=some o->h2.get? b=some o)(pM:∀x c,hr.lookup x=some c->h2.IsCell c (NO x))(q3:hr.Pairwise λp q=>p.2≠q.2)(s':∀x c,(x,c)∈hr->aU<c)
 (slot:∀(i:Nat) x fL,x∈xs->xs[i]? =some x->ej[i]? =some fL->Slot (callEnvC fd aU fa) h2 M x fL):
 ∃bH,W.le σ.next bH/\bC prog w h₁ true (callEnvC fd aU fa) ns bH (args.map some++List.replicate m none) σ h2:=by
 have aah:∀x y c,hr.lookup x=some c->hr.lookup y=some c->x=y:=λx y c av bB=>by
  have h1:=mem_of_lookup av
  have h2:=mem_of_lookup bB
  clear pz pM s' av bB
  induction hr with
  |nil=>cases h1
  |cons p r aX=>
   rw[List.pairwise_cons] at q3
   rcases List.mem_cons.mp h1 with a8|n5<;>rcases List.mem_cons.mp h2 with a7|vI
   .rw[<-a8] at a7;cases a7;rfl
   .have:=q3.1 _ vI;rw[<-a8] at this;exact absurd rfl this
   .have:=q3.1 _ n5;rw[<-a7] at this;exact absurd rfl this
   .exact aX q3.2 n5 vI
 have sI:∀a,a∈aU::hr.map (·.2)->W.role a=.free:=λa h=>by
  rcases List.mem_cons.mp h with rfl|h
  .exact R.free eS
  .obtain⟨p,hp,rfl⟩:=List.mem_map.mp h
   exact R.free (Nat.le_trans eS (Nat.le_of_lt (s' p.1 p.2 hp)))
 have ia:∀p∈hr,hr.lookup p.1=some p.2\/∃c,hr.lookup p.1=some c:=λp hp=>by
  cases q:hr.lookup p.1 with
  |some c=>exact .inr ⟨c,rfl⟩
  |none=>rw[List.lookup_eq_none_iff] at q;simpa using q p hp
 let as:List Addr:=aU::(hr.filter λp=>hr.lookup p.1==some p.2).map (·.2)
 have sm:∀a∈as,a∈aU::hr.map (·.2):=λa h=>by
  rcases List.mem_cons.mp h with rfl|h
  .exact .head _
  .obtain⟨p,hp,rfl⟩:=List.mem_map.mp h
   exact .tail _ (List.mem_map.mpr ⟨p,(List.mem_filter.mp hp).1,rfl⟩)
 have Nc:∀x c,hr.lookup x=some c->c∈as:=λx c aw=>.tail _ (List.mem_map.mpr ⟨(x,c),List.mem_filter.mpr ⟨mem_of_lookup aw,by simp[aw]⟩,rfl⟩)
 have rE:∀a,a∈as->(W.pV as).role a=.U:=λa h=>by simp[az.pV,h]
 have rn:∀a,a∉as->(W.pV as).role a=W.role a:=λa h=>by simp[az.pV,h]
 have ix:W.le σ.next (W.pV as):=by
  refine⟨⟨λa hQ e=>?_,λ_ _=>rfl⟩,λa hQ e=>?_,λa e=>?_⟩
  .rw[rn a λh=>by rw[sI a (sm a h)] at e;exact nomatch e];exact e
  .rw[rn a λh=>by rw[sI a (sm a h)] at e;exact nomatch e];exact e
  .rw[rn a λh=>by rw[sI a (sm a h)] at e;exact nomatch e];exact e
 have bT:∀a r,(W.pV as).role a=r->r≠.U->W.role a=r:=λa r e q=>by
  by_cases h:a∈as
  .rw[rE a h] at e;exact absurd e.symm q
  .rw[rn a h] at e;exact e
 have uZ:=R.j6 kJ
 have cn:bw prog w h₁ (W.pV as) σ h2:=by
  refine⟨R.nz,λa hQ e=>ix.1.1 a hQ (R.base a hQ e),λa hQ e=>uZ.imm a hQ (bT _ _ e λq=>nomatch q),λa hQ e=>uZ.fix a hQ (bT _ _ e λq=>nomatch q),λa e=>?_,λc x aw=>?_,R.top⟩
  .by_cases h:a∈as
   .rcases List.mem_cons.mp h with rfl|h
    .obtain⟨o,_,_,h,_⟩:=sW;exact⟨o,h⟩
    .obtain⟨p,hp,rfl⟩:=List.mem_map.mp h
     have aG:=(List.mem_filter.mp hp).2
     obtain⟨o,h,_⟩:=pM p.1 p.2 (by simpa using aG)
     exact⟨o,h⟩
   .rw[rn a h] at e;exact uZ.live a e
  .obtain⟨r,q⟩:=uZ.cell c x aw
   have fi:W.al c∉as:=λh=>by rw[sI _ (sm _ h)] at r;exact nomatch r
   refine⟨(rn _ fi).trans r,q.a4 ix.1 (Nat.le_refl _) rfl λd aB=>⟨(rn d λh=>by rw[sI _ (sm _ h)] at aB;exact nomatch aB).trans aB,rfl⟩⟩
 refine⟨_,ix,cn,rE _ (.head _),λx c aw=>?_,λx y c aw=>?_,λx c aw=>?_,_,sW,λi u bI=>?_⟩
 .rw[pz] at aw
  exact .inl ⟨rfl,rE _ (Nc x c aw),Nat.ne_of_gt (s' x c (mem_of_lookup aw))⟩
 .rw[pz] at aw⊢;exact aah x y c aw
 .rw[pz] at aw;exact⟨_,pM x c aw⟩
 .obtain⟨x,fL,av,pK,m5,aV,r,_⟩:=DU ha de jc kK bI
  exact⟨x,fL,aV,r.a4 ix.1 (Nat.le_refl _),slot i x fL av pK m5⟩
theorem vu{fa:Addr}(B:bK K h₁)(aH:h₁.get? fa=some o)(aB:o.data=.func fd)(jb:h₁.CodeRec fd.code fd.qualname)(lr:fd.body=.stmts body)
 (mX:∀args:List Value,args.length=xs.length->bindArgs fd ⟨args,[]⟩=pure (xs.zip args))(pv:fd.closure=[])(jc:∃hS,ns=xs++hS)(kK:ns.Nodup)(m3:∀x∈xs,fd.scope.names.lookup x=some .local\/fd.scope.names.lookup x=some .cell)
 (ag:∀aU,SOk prog w h₁ (callEnvC fd aU fa) ns k (execs body (callEnvC fd aU fa)) D)(lx:autoParam (fd.scope.isCoroutine=false) aL._auto_1)(ly:autoParam (fd.scope.isGenerator=false) aL._auto_1)(hk:autoParam (fd.scope.kind=.function) aL._auto_1):
 OpOk prog w h₁ (k+1) (λvs=>call (.ref fa) vs) (ea D xs.length m):=by
 refine .of λA W σ args ej s Q E aE aW R ha=>?_
 obtain⟨de,aW⟩:=aJ.fR aW
 have n':ej.length=xs.length:=ha.length.trans de
 have s6:xs.Nodup:=by obtain⟨hS,e⟩:=jc;rw[e] at kK;exact(List.nodup_append.mp kK).1
 have s7:(xs.zip ej).map (·.1)=xs:=List.map_fst_zip (Nat.le_of_eq n'.symm)
 refine xf (NB aE.Hw (R.old _ _ aH) aB (B.nolimit.keeps R.old) (jb.keeps R.old) lr (mX ej n') pv (λp hp=>?_) (λkk La=>?_) lx ly hk)
 .rcases m3 p.1 (s7▸List.mem_map.mpr ⟨p,hp,rfl⟩) with q|q
  .exact .inl q
  .exact .inr ⟨q,cellsFrom_some _ _ _ (.inl q)⟩
 obtain⟨⟨⟨h2,tk2,es⟩,sW,kJ,_⟩,pM,q3,s'⟩:=La
 rw[es] at sW kJ pM⊢
 obtain⟨bH,ix,xH⟩:=Nd (m:=m) R ha de jc kK rfl (Nat.le_refl _) sW kJ pM q3 s' λi x fL av pK m5=>by
  rcases m3 _ av with q|q
  .exact .inl ⟨q,Eb s6 pK m5 q⟩
  .obtain⟨c,aw⟩:=Option.isSome_iff_exists.mp (cellsFrom_some (x:=x) fd.scope.names (s.heap.objs.size+1) [] (.inl q))
   refine .inr ⟨.inl q,c,aw,?_⟩
   have z:=pM _ _ aw
   rw[D' s6 pK m5 (by show fd.scope.names.lookup x≠_;rw[q];exactλe=>nomatch e)] at z
   exact z
 refine(ag s.heap.objs.size).go (s:={s with heap:=h2,toks:=tk2}) aE.EK (aJ.bind aW) xH λf p aW bY n1 aQ cN cR bx dc dx=>?_
 obtain⟨my,lV,xy,xA⟩:=dc.bE.fQ σ.next
 have tl:W.le σ.next (bY.fQ σ.next p.2 aQ):=⟨(ix.1.trans (Nat.le_refl _) cR.1).trans bx lV,λa o e=>xy a o (cR.2.1 a o (ix.2.1 a o e)),λa e=>xA a (cR.2.2 a (ix.2.2 a e))⟩
 revert aW
 refine kr.rv dx (λaW=>?_) (λaW=>False.elim aW) (λaW=>False.elim aW) (λu fL BQ aW=>?_)
 .exact c7.to aW _ _ aQ cN tl bx my .none
 .exact c7.to aW _ _ aQ cN tl bx my (F1 dc.bE BQ)
theorem bt.Ke(h:bt prog w W n [a,b] bG):∃bq bP,bG=[bq,bP]/\aM prog w W n a bq/\aM prog w W n b bP:=by
 cases h with
 |cons h1 h=>cases h with
  |cons h2 h=>cases h;exact⟨_,_,rfl,h1,h2⟩
noncomputable def kL(g:Int->Int->Option J):bX
 |[.int a,.int b],σ=>(g a b).map λv=>(v,σ)
 |_,_=>none
theorem kV
 (h:∀(A:Around) (W:az) (n:Nat) a b t u v (s:Shared) (Q E:Value->Shared->Prop),eC A k->g a b=some v->(∀ay cI,aM prog w W n v ay->Q ay {s with toks:=cI})->wpAny (model prog w) A (f (.int a t) (.int b u)) Q E s):
 OpOk prog w h₁ k (eG f) (kL g):=by
 refine .fm λW σ a bq r cg bO aI=>.int (λa=>a::r) (λa=>a::cg) bO λi t=>.more (λr=>_::r) (λr=>_::r) aI λb bP q dE cK bZ=>.int (λb=>_::b::q) (λb=>_::b::dE) cK λai u=>.end (λq=>_::_::q) (λq=>_::_::q) bZ λA s Q E aE aW R=>?_
 obtain⟨v,e,a0⟩:=aW.map.cv
 exact wpN.of (h A W _ i ai t u v s Q E aE e λ_ b7 r=>a0.at R r b7)
noncomputable def jJ:bX:=kL λa b=>some (.int (a-b))
noncomputable def kS:bX:=kL λa b=>if a.natAbs<2^62 then some (.int (a*b)) else none
noncomputable def sH:bX:=kL λa b=>if 0<b/\b<2^62 then some (.int (a.fdiv b)) else none
noncomputable def gU:bX:=kL λa b=>if b≠0 then some (.int (a.fmod b)) else none
noncomputable def tV:bX:=kL λa b=>if 0<=b/\b<=1000/\a.natAbs<2^62 then some (.int (a*2^b.toNat)) else none
noncomputable def BZ:bX:=kL λa b=>if 0<=b then some (.int (a.fdiv (2^b.toNat))) else none
noncomputable def BD:bX:=kL λa b=>some (.int (Builtin.bitOr a b))
noncomputable def jg:bX:=kL λa b=>some (.bool (decide (a<b)))
noncomputable def pS:bX:=kL λa b=>some (.bool (decide (a<=b)))
noncomputable def iR:bX:=kL λa b=>some (.bool (decide (b<a)))
noncomputable def zZ:bX:=kL λa b=>some (.bool (decide (b<=a)))
theorem wL:OpOk prog w h₁ k (eG (binaryOp .Sub)) jJ:=kV λA W n a b t u v s Q E aE aT aP=>by cases aT;exact sub_int (aP _ _ (.int _ _))
theorem It:OpOk prog w h₁ k (eG (inplaceOp .Sub)) jJ:=kV λA W n a b t u v s Q E aE aT aP=>by cases aT;exact isub_int (aP _ _ (.int _ _))
theorem tG:OpOk prog w h₁ k (eG (binaryOp .Mult)) kS:=kV λA W n a b t u v s Q E aE aT aP=>by
 split at aT
 .rename_i h
  cases aT
  have ag:Builtin.Int.intBits a<=64:=intBits_le_64 (by omega) (by omega)
  exact mul_int (aP _ _ (.int _ _)) (.of_left ag)
 .cases aT
theorem Ip:OpOk prog w h₁ k (eG (binaryOp .FloorDiv)) sH:=kV λA W n a b t u v s Q E aE aT aP=>by
 split at aT
 .rename_i h
  cases aT
  refine floordiv_int (by exact aC.VD h) (aP _ _ (.int _ _)) (.inl ?_)
  have abU:b.natAbs.log2<62:=by
   have:b.natAbs<2^62:=by omega
   exact(Nat.log2_lt (by omega)).mpr this
  unfold Builtin.divisionGoesByPylong
  have aB:(decide ((if b==0 then 0 else b.natAbs.log2/ 30+1)>300))=false:=by
   apply decide_eq_false
   split<;>omega
  simp only[aB,Bool.false_and]
 .cases aT
theorem ni:OpOk prog w h₁ k (eG (binaryOp .Mod)) gU:=kV λA W n a b t u v s Q E aE aT aP=>by
 split at aT
 .rename_i h
  cases aT
  exact mod_int' h (aP _ _ (.int _ _))
 .cases aT
theorem Iu:OpOk prog w h₁ k (eG (binaryOp .LShift)) tV:=kV λA W n a b t u v s Q E aE aT aP=>by
 split at aT
 .rename_i h
  cases aT
  exact lshift_int_small h.1 (by exact aC.W6 h) (by omega) (aP _ _ (.int _ _))
 .cases aT
theorem T6:OpOk prog w h₁ k (eG (binaryOp .RShift)) BZ:=kV λA W n a b t u v s Q E aE aT aP=>by
 split at aT
 .rename_i h
  cases aT
  exact rshift_int h (aP _ _ (.int _ _))
 .cases aT
theorem T5:OpOk prog w h₁ k (eG (binaryOp .BitOr)) BD:=kV λA W n a b t u v s Q E aE aT aP=>by cases aT;exact or_int (aP _ _ (.int _ _))
theorem p5:OpOk prog w h₁ k (eG (compareOp .Lt)) jg:=kV λA W n a b t u v s Q E aE aT aP=>by cases aT;exact lt_int (aP _ s.toks (.bool _))
theorem Bp:OpOk prog w h₁ k (eG (compareOp .LtE)) pS:=kV λA W n a b t u v s Q E aE aT aP=>by cases aT;exact le_int (aP _ s.toks (.bool _))
theorem p3:OpOk prog w h₁ k (eG (compareOp .Gt)) iR:=kV λA W n a b t u v s Q E aE aT aP=>by cases aT;exact gt_int (aP _ s.toks (.bool _))
theorem TZ:OpOk prog w h₁ k (eG (compareOp .GtE)) zZ:=kV λA W n a b t u v s Q E aE aT aP=>by cases aT;exact ge_int (aP _ s.toks (.bool _))
noncomputable def cF:bX
 |[.int a,.int b],σ=>some (.int (a+b),σ)
 |[.bytes a,.bytes b],σ=>if a.length+b.length<=1000000 then some (.bytes (a++b),σ) else none
 |[.bo a,.bo b],σ=>if a.length+b.length<=1000000 then some (.bo (a++b),σ) else none
 |[.bk a,.bk b],σ=>if a.length+b.length<=1000000 then some (.bk (a++b),σ) else none
 |_,_=>none
noncomputable def mP:cW:=λ_ _=>none
noncomputable def ll:cf:=λ_ _=>none
theorem y4:bj prog w h₁ own env ns k t mP:=λA W U σ v aZ s Q E aE ao R aP=>nomatch ao
theorem w4:SOk prog w h₁ env ns k t ll:=λA W U σ f l aZ s Q E aE ao R aP=>nomatch ao
theorem bw.new(R:bw prog w h₁ W σ h)(o:Obj)(hf:o.isFreed=false):
 bw prog w h₁ (W.aS h.objs.size (.imm o)) σ (h.push o)/\W.le σ.next (W.aS h.objs.size (.imm o)):=by
 have dF:=R.free (Nat.le_refl h.objs.size)
 exact⟨(R.push o).hu dF ⟨o,Heap.get?_push_size _ hf⟩ (λcO e=>by cases e;exact Heap.get?_push_size _ hf) (λcO e=>nomatch e),az.gG dF⟩
theorem bw.TA(R:bw prog w h₁ W σ h)(o:Obj)(x:c6)(hf:o.isFreed=false)(av:CellAt prog w (W.eD σ.next h.objs.size) (σ.next+1) (h.push o) σ.next h.objs.size x):
 bw prog w h₁ (W.eD σ.next h.objs.size) (σ.new x) (h.push o)/\W.le σ.next (W.eD σ.next h.objs.size)/\aM prog w (W.eD σ.next h.objs.size) (σ.next+1) (.ref σ.next) (.ref h.objs.size):=by
 have dF:=R.free (Nat.le_refl h.objs.size)
 have ed:(W.eD σ.next h.objs.size).al σ.next=h.objs.size:=by show(if σ.next=σ.next then _ else _)=_;rw[if_pos rfl]
 have q:aM prog w (W.eD σ.next h.objs.size) (σ.next+1) (.ref σ.next) (.ref ((W.eD σ.next h.objs.size).al σ.next)):=.ref (Nat.lt_succ_self _)
 rw[ed] at q
 exact⟨(R.push o).alloc dF ⟨o,Heap.get?_push_size _ hf⟩ av,az.oi dF,q⟩
noncomputable def eW:J->St->Option (List J)
 |.bo vs,_=>some vs
 |.ref c,σ=>match σ.cells c with
  |some (.list vs)=>some vs
  |_=>none
 |_,_=>none
theorem gH(R:bw prog w h₁ W σ h)(a0:aM prog w W σ.next src ay)(hs:eW src σ=some vs):
 ∃a items,ay=.ref a/\h.IsList a items/\bt prog w W σ.next vs items.toList:=
 a0.aak (λv=>eW v σ) (λay=>∃a items,ay=.ref a/\h.IsList a items/\bt prog w W σ.next vs items.toList) hs
  (λ_ a o i m bb bJ dx q e=>⟨a,i,rfl,⟨_,R.imm _ _ bb,bJ,_,dx⟩,Option.some.inj e▸q⟩)
  λc _ e=>by obtain⟨i,m,g,q⟩:=(R.cell c _ (c6.v9 e)).2.bc;exact⟨_,i,rfl,⟨_,g,rfl,_,rfl⟩,q⟩
theorem aM.jL(r:aM prog w W n (.bk vs) ay)(R:bw prog w h₁ W σ h):∃a items m,ay=.ref a/\W.role a=.imm (t7 items m)/\IsT h a items m/\bt prog w W n vs items.toList:=by
 obtain⟨_,_,_,bb,aI,e⟩:=r.bc
 exact⟨_,_,_,e,bb,R.imm _ _ bb,aI⟩
theorem LD(R:bw prog w h₁ W σ s.heap)(bO:aM prog w W σ.next (.bo a) bq)(cK:aM prog w W σ.next (.bo b) bP)(aG:a.length+b.length<=1000000)
 (aP:c7 prog w h₁ W σ s Q (.bo (a++b)) σ):wpAny (model prog w) A (binaryOp .Add bq bP) Q E s:=by
 obtain⟨l,items,rfl,⟨o,aH,aw,n,aB⟩,cj⟩:=gH R bO rfl
 obtain⟨a',dY,rfl,⟨dI,pE,n9,aK,sQ⟩,b8⟩:=gH R cK rfl
 have e:items.size+dY.size<=sizeLine:=by
  have a8:=cj.length;have a7:=b8.length
  rw[Array.length_toList] at a8 a7
  rw[a8,a7];unfold sizeLine;omega
 rcases o with⟨cls,lh,data,kX⟩
 rcases dI with⟨Es,yY,data2,B1⟩
 cases aw;cases aB;cases n9;cases sQ
 refine concat_meets ⟨_,aH,rfl⟩ ⟨_,pE,rfl⟩ noFill_list_add seq_list_add PySem.F.slot_list_add PySem.F.entry_list_add (PySem.F.args_list_add_2 _ _) (list_addW l a' items dY n aK lh yY kX B1 e) ⟨aH,pE,?_⟩
 obtain⟨cn,a'⟩:=R.new {cls:=Value.type "list",data:=Data.seq (items++dY)} rfl
 exact aP _ _ _ _ a' (Nat.le_refl _) cn (.bo (az.cX) rfl rfl (by rw[Array.toList_append];exact(cj.append b8).a4 a'.1 (Nat.le_refl _)))
theorem Ih{items:Array Value}(q:bt prog w W n a items.toList)(c:items.isEmpty=true):a=[]:=by
 have e:=q.length
 rw[Array.length_toList,Array.isEmpty_iff_size_eq_zero.mp c] at e
 exact List.length_eq_zero_iff.mp e.symm
theorem LF(R:bw prog w h₁ W σ s.heap)(bO:aM prog w W σ.next (.bk a) bq)(cK:aM prog w W σ.next (.bk b) bP)(aG:a.length+b.length<=1000000)
 (aP:c7 prog w h₁ W σ s Q (.bk (a++b)) σ):wpAny (model prog w) A (binaryOp .Add bq bP) Q E s:=by
 obtain⟨l,items,n,rfl,Jz,pj,cj⟩:=bO.jL R
 obtain⟨a',dY,aK,rfl,rF,kF,b8⟩:=cK.jL R
 by_cases l0:items.isEmpty=true
 .rw[Ih cj l0,List.nil_append] at aP
  exact concat_meets ⟨_,pj,rfl⟩ ⟨_,kF,rfl⟩ noFill_tuple_add seq_tuple_add PySem.F.slot_tuple_add PySem.F.entry_tuple_add (PySem.F.args_tuple_add_2 _ _) (AutoSeq1.tuple___add___tuple_tuple_0 l items n a' dY aK l0) ⟨pj,kF,aP.at R cK s.toks⟩
 by_cases o7:dY.isEmpty=true
 .rw[Ih b8 o7,List.append_nil] at aP
  exact concat_meets ⟨_,pj,rfl⟩ ⟨_,kF,rfl⟩ noFill_tuple_add seq_tuple_add PySem.F.slot_tuple_add PySem.F.entry_tuple_add (PySem.F.args_tuple_add_2 _ _) (AutoSeq1.tuple___add___tuple_tuple_1 l items n a' dY aK l0 o7) ⟨pj,kF,aP.at R bO s.toks⟩
 refine P.add_tuple pj kF l0 o7 ?_ (by
  have a8:=cj.length;have a7:=b8.length
  rw[Array.length_toList] at a8 a7
  rw[a8,a7];unfold sizeLine;omega)
 obtain⟨cn,a'⟩:=R.new {cls:=Value.type "tuple",data:=Data.seq (items++dY)} rfl
 exact aP _ _ _ s.toks a' (Nat.le_refl _) cn (.bk (k:=0) (az.cX) (by rw[Array.toList_append];exact(cj.append b8).a4 a'.1 (Nat.le_refl _)))
theorem eX:OpOk prog w h₁ k (eG (binaryOp .Add)) cF:=by
 refine .fm λW σ a bq r cg bO aI=>.add (λa=>a::r) (λa=>a::cg) bO (λi t=>?_) (λx t=>?_) (λxs bq bO=>?_) (λxs bq bO=>?_)
 .refine .more (λr=>_::r) (λr=>_::r) aI λb bP q dE cK bZ=>.int (λb=>_::b::q) (λb=>_::b::dE) cK λai u=>.end (λq=>_::_::q) (λq=>_::_::q) bZ λA s Q E aE aW R=>wpN.of ?_
  exact add_int (c7.at aW R (.int _ _) _)
 .refine .more (λr=>_::r) (λr=>_::r) aI λb bP q dE cK bZ=>.bytes (λb=>_::b::q) (λb=>_::b::dE) cK λai u=>.end (λq=>_::_::q) (λq=>_::_::q) bZ λA s Q E aE aW R=>wpN.of ?_
  obtain⟨aG,aW⟩:=aJ.fR aW
  exact bytes_add_K (by rw[List.size_toArray,List.size_toArray];exact aC.Ug aG) rfl λd3 jA=>c7.at aW R (.bytes _ _) _
 .refine .more (λr=>_::r) (λr=>_::r) aI λb bP q dE cK bZ=>.bk (λb=>_::b::q) (λb=>_::b::dE) cK λhS bP cK=>.end (λq=>_::_::q) (λq=>_::_::q) bZ λA s Q E aE aW R=>wpN.of ?_
  obtain⟨aG,aW⟩:=aJ.fR aW
  have aP:c7 prog w h₁ W σ s Q (.bk (xs++hS)) σ:=aW
  exact LF R bO cK aG aP
 .refine .more (λr=>_::r) (λr=>_::r) aI λb bP q dE cK bZ=>.bo (λb=>_::b::q) (λb=>_::b::dE) cK λhS bP cK=>.end (λq=>_::_::q) (λq=>_::_::q) bZ λA s Q E aE aW R=>wpN.of ?_
  obtain⟨aG,aW⟩:=aJ.fR aW
  exact LD R bO cK aG aW
noncomputable def kg:bX
 |[.int a],σ=>some (.int (-a),σ)
 |_,_=>none
noncomputable def jm(F:bX)(D:cW):cW:=λU σ=>(D U σ).bind λr=>F [r.1] r.2
theorem qL(h:bj prog w h₁ own env ns k (eval x env) D)(gz:OpOk prog w h₁ k (nC (unaryOp op)) F):bj prog w h₁ own env ns k (eval (.UnaryOp op x pos) env) (jm F D):=by
 intro A W U σ v aZ s Q E aE ao R aP
 obtain⟨⟨eb,ct⟩,a8,ao⟩:=bind_some ao
 refine aaN ?_
 refine h A W U σ eb ct s _ E aE a8 R λbr dz h1 cE bA ae bu bb=>?_
 exact bu.op (s:={s with heap:=h1,toks:=cE}) gz aE ao (.cons bb .nil) λbY ay aQ cN cR bx dc dx=>aP bY ay aQ cN (bA.trans ae cR) (Nat.le_trans ae bx) dc dx
theorem ro:OpOk prog w h₁ k (nC (unaryOp .USub)) kg:=
 .fm λW σ a bq r cg bO aI=>.int (λa=>a::r) (λa=>a::cg) bO λi t=>.end (λq=>_::q) (λq=>_::q) aI λA s Q E aE aW R=>wpN.of (neg_int (c7.at aW R (.int _ _) _))
end
section
open PySem.SeqAt
section
variable{prog:Program}{w:World}{K:Type}[DecidableEq K]{knd:HeapKind prog w K}{A:Around}{E:Value->Shared->Prop}{s:Shared}
inductive il {K:Type} [DecidableEq K] (A:Around) (s:Shared) (di:List (K×Addr×Value)):List (K×Addr×Value)->Bool->Prop
 |nil:il A s di [] true
 |miss {k:K} {a:Addr} {v:Value} {r:List (K×Addr×Value)}:atKey di k=none->il A s di ((k,a,v)::r) false
 |hit {k:K} {a:Addr} {v:Value} {p:Addr×Value} {r:List (K×Addr×Value)} {e b:Bool}:atKey di k=some p->EqAt A s v p.2 e->il A s di r b->il A s di ((k,a,v)::r) (e&&b)
noncomputable def il.Spec(A:Around)(s:Shared)(di:List (K×Addr×Value)):List (K×Addr×Value)->Bool->Prop
 |[],b=>b=true
 |(k,_,v)::r,b=>(atKey di k=none/\b=false)\/∃y e bP,atKey di k=some y/\EqAt A s v y.2 e/\il A s di r bP/\b=(e&&bP)
theorem il.bc{di l:List (K×Addr×Value)}(h:il A s di l b):il.Spec A s di l b:=
 il.casesOn (motive:=λl b _=>il.Spec A s di l b) h rfl (λaV=>.inl ⟨aV,rfl⟩) λbB bV aI=>.inr ⟨_,_,_,bB,bV,aI,rfl⟩
theorem J8{eU di:List (K×Addr×Value)}(bI:knd.room A)(ha:(a==sysModules)=false)(ag:(b==sysModules)=false)
 (da:s.heap.DictOfH knd a eU)(ec:s.heap.DictOfH knd b di)(hits:eU.length=di.length->il A s di eU r)(h:Q (eU.length==di.length&&r) s):
 wpAny (model prog w) A (Builtin.Dict.samePairs nm a b) Q E s:=by
 obtain⟨oa,es,ep,hL,_,qP,vP,Rf,_⟩:=da
 obtain⟨ob,eJ,abM,Ao,_,z8,Aa,Rg,vU⟩:=ec
 have vS:eU.length=es.size:=(size_of_entries vP).symm
 have GP:di.length=eJ.size:=(size_of_entries Aa).symm
 unfold Builtin.Dict.samePairs Builtin.Dict.showsAll
 rw[if_neg (show ¬(a==sysModules)=true by rw[ha];exact Bool.false_ne_true),if_neg (show ¬(b==sysModules)=true by rw[ag];exact Bool.false_ne_true)]
 refine wpAny_bind (wpAny_pure (wpAny_bind (wpAny_pure ?_)))
 refine wpAny_bind (wpAny_dictEntries hL qP ?_)
 dsimp only
 refine wpAny_bind (wpAny_dictEntries Ao z8 ?_)
 by_cases hsz:es.size=eJ.size
 case neg=>
  first|refine iv (bne_iff_ne.mpr hsz) ?_|refine q4 (bne_iff_ne.mpr hsz) ?_
  rw[vS,GP,beq_eq_false_iff_ne.mpr hsz] at h
  exact wpAny_bind (wpAny_rule (wpAny_pure h))
 case pos=>
  have GR:eU.length=di.length:=by rw[vS,GP,hsz]
  rw[GR,beq_self_eq_true,Bool.true_and] at h
  first|refine h8 (λe=>bne_iff_ne.mp e hsz) ?_|refine kc (λe=>bne_iff_ne.mp e hsz) ?_
  refine wpAny_bind (wpAny_dictEpoch hL qP (wpAny_bind (PH _ (λi=>il A s di (eU.drop i) r) _ _ _ (λx df j'=>?_) (λj'=>?_) (hits GR))))
  .refine wpAny_bind (wpAny_dictEntries hL qP ?_)
   have qU:x<eU.length:=vS▸df
   obtain⟨k,ad,v,Ai⟩:∃k ad v,eU[x]=(k,ad,v):=⟨_,_,_,rfl⟩
   have kI:eU.drop x=(k,ad,v)::eU.drop (x+1):=by rw[<-Ai];exact List.drop_eq_getElem_cons qU
   have Rh:knd.is s.heap k ad:=by have:=Rf _ (List.getElem_mem qU);rw[Ai] at this;exact this
   rw[show es[x]? =some (entryOfKey knd (k,ad,v)) by rw[entry_at vP x,List.getElem?_eq_getElem qU,Ai];rfl]
   rw[kI] at j'
   show wpAny _ _ (holding [Value.ref ad,v] _>>=_) _ _ _
   refine wpAny_bind (wpAny_holding (wpAny_bind (wpAny_dictFind_heap bI Rh Ao z8 Aa Rg vU ?_ ?_)))
   .intro Al
    rcases j'.bc with⟨_,h3⟩|⟨y,_,_,bB,_⟩
    .rw[h3] at h
     exact wpAny_pure (wpAny_pure (wpAny_pure h))
    .rw[atKey_none_of_get Al] at bB;exact aq bB
   .intro ai p cD
    refine wpAny_bind (wpAny_dictEntries Ao z8 ?_)
    rw[show eJ[ai]? =some (entryOfKey knd (k,p)) by rw[entry_at Aa ai,cD];rfl]
    have Gz:=atKey_of_get vU cD
    rcases j'.bc with⟨aV,_⟩|⟨y,e,bP,bB,bV,Ax,h3⟩
    .exact d9 (Gz.symm.trans aV)
    .rw[<-Option.some.inj (Gz.symm.trans bB)] at bV
     refine wpAny_holding (bV prog w _ _ ?_)
     induction e with
     |false=>
      rw[h3] at h
      exact wpAny_pure (wpAny_pure h)
     |true=>
      rw[Bool.true_and] at h3
      rw[<-h3] at Ax
      refine wpAny_bind (wpAny_dictEpoch hL qP ?_)
      first|refine h8 (by rw[bne_self_eq_false];exact Bool.false_ne_true) ?_|refine kc (by rw[bne_self_eq_false];exact Bool.false_ne_true) ?_
      exact wpAny_pure ⟨rfl,rfl,Ax⟩
  .rw[<-vS,List.drop_length] at j'
   rw[show r=true from j'.bc] at h
   exact wpAny_pure h
theorem Z8{eU di:List (K×Addr×Value)}(hk:knd.room A.in1)(ha:(a==sysModules)=false)(ag:(b==sysModules)=false)
 (da:s.heap.DictOfH knd a eU)(ec:s.heap.DictOfH knd b di)(bI:A.units<cLine)(hits:eU.length=di.length->il A.in1 s di eU r)(h:Q (.bool (eU.length==di.length&&r)) s):
 wpAny (model prog w) A (compareOp .Eq (.ref a) (.ref b)) Q E s:=by
 refine wpAny_richCompare_same_room (op:=.Eq) da.typeIs ec.typeIs PySem.F.slot_dict_eq (wpAny_call_entry PySem.F.slot_dict_eq da.typeIs PySem.F.entry_dict_eq ?_ (PySem.F.args_dict_eq_2 _ _)) bI
 show wpAny _ _ (Builtin.Dict.dictSlotArgs "__eq__" ⟨[.ref a,.ref b],[]⟩>>=_) _ _ s
 refine wpAny_bind ?_
 unfold Builtin.Dict.dictSlotArgs
 refine wpAny_bind (wpAny_notOrdered_dict da.typeIs ?_)
 show wpAny _ _ (pure (Value.ref a,Value.ref b)) _ _ s
 refine wpAny_pure ?_
 refine wpAny_bind (wpAny_isInstance (T:="dict") ec.typeIs PySem.F.sub_dict_dict ?_)
 simp only[Bool.not_true,Bool.false_eq_true,if_false]
 refine wpAny_bind (wpAny_pure (wpAny_bind (wpAny_pure ?_)))
 refine wpAny_bind (J8 hk ha ag da ec hits ?_)
 refine wpAny_pure ⟨_,rfl,?_,?_⟩
 .exactλx=>nomatch x
 .simpa using h
theorem Z9{eU di:List (K×Addr×Value)}(hk:knd.room A.in1)(ha:(a==sysModules)=false)(ag:(b==sysModules)=false)
 (da:s.heap.DictOfH knd a eU)(ec:s.heap.DictOfH knd b di)(bI:A.units<cLine)(hits:eU.length=di.length->il A.in1 s di eU r)(h:Q (.bool (!(eU.length==di.length&&r))) s):
 wpAny (model prog w) A (compareOp .NotEq (.ref a) (.ref b)) Q E s:=by
 refine wpAny_richCompare_same_room (op:=.NotEq) da.typeIs ec.typeIs PySem.F.slot_dict_ne (wpAny_call_entry PySem.F.slot_dict_ne da.typeIs PySem.F.entry_dict_ne ?_ (PySem.F.args_dict_ne_2 _ _)) bI
 show wpAny _ _ (Builtin.Dict.dictSlotArgs "__ne__" ⟨[.ref a,.ref b],[]⟩>>=_) _ _ s
 refine wpAny_bind ?_
 unfold Builtin.Dict.dictSlotArgs
 refine wpAny_bind (wpAny_notOrdered_dict da.typeIs ?_)
 show wpAny _ _ (pure (Value.ref a,Value.ref b)) _ _ s
 refine wpAny_pure ?_
 refine wpAny_bind (wpAny_isInstance (T:="dict") ec.typeIs PySem.F.sub_dict_dict ?_)
 simp only[Bool.not_true,Bool.false_eq_true,if_false]
 refine wpAny_bind (wpAny_pure (wpAny_bind (wpAny_pure ?_)))
 refine wpAny_bind (J8 hk ha ag da ec hits ?_)
 refine wpAny_pure ⟨_,rfl,?_,?_⟩
 .exactλx=>nomatch x
 .simpa using h
end
section
variable{A:Around}{s:Shared}
theorem Ei(b:Array UInt8)(t:Tok)(i:Int)(u:Tok):Gives (Builtin.«bytes.__eq__» ⟨[.bytes b t,.int i u],[]⟩) (.val .notImplemented):=
 .of_wp λM A E s Q h=>by
  show wpAny M A (isInstance (.int i u) (.type "bytes")>>=λr=>if(!r)=true then(do rule (toString "bytes."++toString "__eq__"++toString ".declined");ret Value.notImplemented) else(do let p<-Builtin.Bytes.payload (.bytes b t);let q<-Builtin.Bytes.payload (.int i u);ret (Value.bool (Builtin.Bytes.holds "__eq__" (Builtin.Bytes.order p.toList q.toList))))) _ E s
  refine wpAny_bind (wpAny_isInstance (T:="int") (b:=false) (typeIs_int s i u) (by rw[isSubtype_type];kernel_rfl) ?_)
  first|refine iv (by rfl) ?_|refine q4 (by rfl) ?_
  exact wpAny_bind (wpAny_rule (wpAny_pure ⟨_,rfl,h⟩))
theorem Ha(b:Array UInt8)(t:Tok)(i:Int)(u:Tok):Gives (Builtin.«int.__eq__» ⟨[.int i u,.bytes b t],[]⟩) (.val .notImplemented):=
 .of_wp λM A E s Q h=>by obtain⟨hp,g,d,b7,os⟩:=s;wp_walk;exact⟨_,rfl,h⟩
theorem ZZ:isSubtype (.type "bytes") (.type "int")=pure false:=by rw[isSubtype_type];kernel_rfl
theorem sub_int_bytes:isSubtype (.type "int") (.type "bytes")=pure false:=by rw[isSubtype_type];kernel_rfl
theorem w6:PySem.Slot "bytes" (cmpInfo .Eq).2.2 "bytes.__eq__":=FB.slot_bytes_eq
theorem eq_int_bytes(i:Int)(u:Tok)(b:Array UInt8)(t:Tok):EqAt A s (.int i u) (.bytes b t) false:=λprog w E Q h=>by
 unfold eqBool
 refine wpAny_holding ?_
 refine wpAny_ite_split (λpl=>absurd (eq_of_beq pl) nofun) (λ_=>?_)
 refine wpAny_bind (rc_eq_decline_or (k:=false) (typeIs_int s i u) (typeIs_bytes s b t) (by decide) ZZ PySem.F.slot_int_eq w6
  (λ_ bZ=>call_gives PySem.F.slot_int_eq (typeIs_int s i u) PySem.F.entry_int_eq (PySem.F.args_int_eq_2 _ _) (Ha b t i u) bZ)
  (λ_ bZ=>call_gives w6 (typeIs_bytes s b t) FB.entry_bytes_eq (FB.args_bytes_eq_2 _ _) (Ei b t i u) bZ)
  (λ_ bZ=>wpAny_of_eq (rfl:isSame (.int i u) (.bytes b t)=pure false) bZ) (.inl rfl) (wpAny_truthy_bool h))
theorem eq_bytes_int(b:Array UInt8)(t:Tok)(i:Int)(u:Tok):EqAt A s (.bytes b t) (.int i u) false:=λprog w E Q h=>by
 unfold eqBool
 refine wpAny_holding ?_
 refine wpAny_ite_split (λpl=>absurd (eq_of_beq pl) nofun) (λ_=>?_)
 refine wpAny_bind (rc_eq_decline_or (k:=false) (typeIs_bytes s b t) (typeIs_int s i u) (by decide) sub_int_bytes w6 PySem.F.slot_int_eq
  (λ_ bZ=>call_gives w6 (typeIs_bytes s b t) FB.entry_bytes_eq (FB.args_bytes_eq_2 _ _) (Ei b t i u) bZ)
  (λ_ bZ=>call_gives PySem.F.slot_int_eq (typeIs_int s i u) PySem.F.entry_int_eq (PySem.F.args_int_eq_2 _ _) (Ha b t i u) bZ)
  (λ_ bZ=>wpAny_of_eq (rfl:isSame (.bytes b t) (.int i u)=pure false) bZ) (.inl rfl) (wpAny_truthy_bool h))
theorem eq_bytes_bytes(b:List UInt8)(t:Tok)(c:List UInt8)(u:Tok):EqAt A s (.bytes b.toArray t) (.bytes c.toArray u) (decide (b=c)):=λprog w E Q h=>by
 unfold eqBool
 refine wpAny_holding ?_
 refine wpAny_ite_split (λpl=>?_) (λ_=>?_)
 .have e:b=c:=by have:=eq_of_beq pl;injection this with this _;simpa using this
  subst e
  exact wpAny_bind (wpAny_rule (wpAny_pure (by simpa using h)))
 .refine wpAny_bind (eq_bytes (wpAny_truthy_bool ?_))
  have e:((b.toArray.toList==c.toArray.toList):Bool)=decide (b=c):=by by_cases q:b=c<;>simp[q]
  rw[e];exact h
end
end
section
open PySem.SeqAt
variable{prog:Program}{w:World}{h₁:Heap}{K:Frag}{own:Bool}{env:Env}{ns:List Str}{k:Nat}
noncomputable def hF(f:J->J->Option Bool):List J->List J->Option Bool
 |a::as,b::bg=>(f a b).bind λx=>(hF f as bg).map λy=>x&&y
 |_,_=>some true
noncomputable def lQ(f:J->J->Option Bool):J->J->Option Bool
 |.none,.none=>some true
 |.bool a,.bool b=>some (a==b)
 |.int a,.int b=>some (a==b)
 |.str a,.str b=>some (a==b)
 |.bytes a,.bytes b=>some (decide (a=b))
 |.int _,.bytes _=>some false
 |.bytes _,.int _=>some false
 |.bk as,.bk bg=>(hF f as bg).map λr=>r&&decide (as.length=bg.length)
 |.bo as,.bo bg=>if as.length=bg.length then hF f as bg else some false
 |_,_=>none
noncomputable def cT:Nat->J->J->Option Bool
 |0=>λ_ _=>none
 |n+1=>lQ (cT n)
noncomputable def pe(f:J->J->Option Bool)(as bg:List J)(ai:Nat):Bool:=((as[ai]?).bind λa=>(bg[ai]?).bind λb=>f a b).getD false
theorem veqs_ind{P:List J->List J->Bool->Prop}(ae:∀bg,P [] bg true)(aK:∀a as,P (a::as) [] true)(c:∀a as b bg x y,f a b=some x->hF f as bg=some y->P as bg y->P (a::as) (b::bg) (x&&y)):
 ∀(as bg:List J) (r:Bool),hF f as bg=some r->P as bg r:=λas=>
 List.rec (motive:=λas=>∀bg r,hF f as bg=some r->P as bg r) (λbg r h=>Option.some.inj h▸ae bg) (λa as aX bg=>List.casesOn (motive:=λbg=>∀r,hF f (a::as) bg=some r->P (a::as) bg r) bg (λr h=>Option.some.inj h▸aK a as) λb bg r h=>by
  obtain⟨x,av,h⟩:=bind_some (show(f a b).bind _=some r from h)
  obtain⟨y,bB,h⟩:=Option.map_eq_some_iff.mp h
  exact h▸c a as b bg x y av bB (aX bg y bB)) as
theorem xd{as bg:List J}(h:hF f as bg=some r):
 (∀(ai:Nat) a b,as[ai]? =some a->bg[ai]? =some b->∃q,f a b=some q)/\(List.range (min as.length bg.length)).all (pe f as bg)=r:=
 veqs_ind (P:=λas bg r=>(∀(ai:Nat) a b,as[ai]? =some a->bg[ai]? =some b->∃q,f a b=some q)/\(List.range (min as.length bg.length)).all (pe f as bg)=r)
  (λ_=>⟨λ_ _ _ e _=>aq e,by rw[List.length_nil,Nat.zero_min];rfl⟩) (λ_ _=>⟨λ_ _ _ _ e=>aq e,by rw[List.length_nil,Nat.min_zero];rfl⟩) (λa as b bg x y av _ ⟨h1,h2⟩=>by
  refine⟨λai bq bP ha ag=>?_,?_⟩
  .cases ai with
   |zero=>exact⟨x,Option.some.inj ha▸Option.some.inj ag▸av⟩
   |succ ai=>exact h1 ai bq bP ha ag
  .rw[List.length_cons,List.length_cons,Nat.succ_min_succ,List.range_succ_eq_map,List.all_cons,List.all_map]
   exact congr (congrArg and (congrArg (Option.getD · false) av)) h2) as bg r h
theorem Kj{W:az}(hf:∀a b v r,aM prog w W n a v->aM prog w W n b v->f a b=some r->r=true)
 (cj:bt prog w W n as vs)(b8:bt prog w W n bg vs)(h:hF f as bg=some r):r=true:=
 veqs_ind (P:=λas bg r=>∀vs,bt prog w W n as vs->bt prog w W n bg vs->r=true) (λ_ _ _ _=>rfl) (λ_ _ _ _ _=>rfl) (λa as b bg x y av _ aX vs cj b8=>by
  obtain⟨v,bG,e,fO,fo⟩:=cj.bc
  rw[e] at b8
  rw[hf _ _ _ _ fO b8.rM.1 av,aX _ fo b8.rM.2];rfl) as bg r h vs cj b8
inductive e1 (f:J->J->Option Bool):J->J->Bool->Prop
 |none:e1 f .none .none true
 |bool (a b:Bool):e1 f (.bool a) (.bool b) (a==b)
 |int (a b:Int):e1 f (.int a) (.int b) (a==b)
 |str (a b:Str):e1 f (.str a) (.str b) (a==b)
 |bytes (a b:List UInt8):e1 f (.bytes a) (.bytes b) (decide (a=b))
 |R' (a:Int) (b:List UInt8):e1 f (.int a) (.bytes b) false
 |MX (a:List UInt8) (b:Int):e1 f (.bytes a) (.int b) false
 |bk (as bg:List J) (r:Bool):hF f as bg=some r->e1 f (.bk as) (.bk bg) (r&&decide (as.length=bg.length))
 |bo (as bg:List J) (r:Bool):as.length=bg.length->hF f as bg=some r->e1 f (.bo as) (.bo bg) r
 |Te (as bg:List J):¬as.length=bg.length->e1 f (.bo as) (.bo bg) false
theorem e1.jL(h:(hF f x y).map (λr=>r&&decide (x.length=y.length))=some r):e1 f (.bk x) (.bk y) r:=by
 obtain⟨q,bZ,h⟩:=Option.map_eq_some_iff.mp h
 exact h▸.bk _ _ _ bZ
theorem e1.Td(h:(if x.length=y.length then hF f x y else some false)=some r):e1 f (.bo x) (.bo y) r:=by
 by_cases e:x.length=y.length
 .rw[if_pos e] at h;exact .bo _ _ _ e h
 .rw[if_neg e] at h;exact Option.some.inj h▸.Te _ _ e
theorem e1.of(h:lQ f a b=some r):e1 f a b r:=
 J.casesOn (motive_1:=λa=>lQ f a b=some r->e1 f a b r) a
  (J.casesOn (motive_1:=λb=>lQ f .none b=some r->e1 f .none b r) b (λh=>Option.some.inj h▸.none) (λ_ h=>aq h) (λ_ h=>aq h) (λ_ h=>aq h) (λ_ h=>aq h) (λ_ h=>aq h) (λ_ h=>aq h) (λ_ h=>aq h) (λ_ _ _ h=>aq h) (λ_ h=>aq h) (λ_ h=>aq h))
  (λx=>J.casesOn (motive_1:=λb=>lQ f (.bool x) b=some r->e1 f (.bool x) b r) b (λh=>aq h) (λ_ h=>Option.some.inj h▸.bool _ _) (λ_ h=>aq h) (λ_ h=>aq h) (λ_ h=>aq h) (λ_ h=>aq h) (λ_ h=>aq h) (λ_ h=>aq h) (λ_ _ _ h=>aq h) (λ_ h=>aq h) (λ_ h=>aq h))
  (λx=>J.casesOn (motive_1:=λb=>lQ f (.int x) b=some r->e1 f (.int x) b r) b (λh=>aq h) (λ_ h=>aq h) (λ_ h=>Option.some.inj h▸.int _ _) (λ_ h=>aq h) (λ_ h=>Option.some.inj h▸.R' _ _) (λ_ h=>aq h) (λ_ h=>aq h) (λ_ h=>aq h) (λ_ _ _ h=>aq h) (λ_ h=>aq h) (λ_ h=>aq h))
  (λx=>J.casesOn (motive_1:=λb=>lQ f (.str x) b=some r->e1 f (.str x) b r) b (λh=>aq h) (λ_ h=>aq h) (λ_ h=>aq h) (λ_ h=>Option.some.inj h▸.str _ _) (λ_ h=>aq h) (λ_ h=>aq h) (λ_ h=>aq h) (λ_ h=>aq h) (λ_ _ _ h=>aq h) (λ_ h=>aq h) (λ_ h=>aq h))
  (λx=>J.casesOn (motive_1:=λb=>lQ f (.bytes x) b=some r->e1 f (.bytes x) b r) b (λh=>aq h) (λ_ h=>aq h) (λ_ h=>Option.some.inj h▸.MX _ _) (λ_ h=>aq h) (λ_ h=>Option.some.inj h▸.bytes _ _) (λ_ h=>aq h) (λ_ h=>aq h) (λ_ h=>aq h) (λ_ _ _ h=>aq h) (λ_ h=>aq h) (λ_ h=>aq h))
  (λx=>J.casesOn (motive_1:=λb=>lQ f (.bk x) b=some r->e1 f (.bk x) b r) b (λh=>aq h) (λ_ h=>aq h) (λ_ h=>aq h) (λ_ h=>aq h) (λ_ h=>aq h) (λ_ h=>e1.jL h) (λ_ h=>aq h) (λ_ h=>aq h) (λ_ _ _ h=>aq h) (λ_ h=>aq h) (λ_ h=>aq h))
  (λx=>J.casesOn (motive_1:=λb=>lQ f (.bo x) b=some r->e1 f (.bo x) b r) b (λh=>aq h) (λ_ h=>aq h) (λ_ h=>aq h) (λ_ h=>aq h) (λ_ h=>aq h) (λ_ h=>aq h) (λ_ h=>e1.Td h) (λ_ h=>aq h) (λ_ _ _ h=>aq h) (λ_ h=>aq h) (λ_ h=>aq h))
  (λ_ h=>aq h)
  (λ_ _ _ h=>aq h)
  (λ_ h=>aq h)
  (λ_ h=>aq h) h
theorem Cb(d:Nat):∀a b v r,aM prog w W n a v->aM prog w W n b v->cT d a b=some r->r=true:=by
 induction d with
 |zero=>exactλa b v r _ _ h=>aq h
 |succ d aX=>
  intro a b v r ha ag h
  exact e1.casesOn (motive:=λa b r _=>aM prog w W n a v->aM prog w W n b v->r=true) (e1.of h) (λ_ _=>rfl)
   (λx y ha ag=>beq_iff_eq.mpr (Value.bool.inj (ha.bc.symm.trans ag.bc)))
   (λx y ha ag=>by obtain⟨t,e⟩:=ha.bc;obtain⟨u,cZ⟩:=ag.bc;exact beq_iff_eq.mpr (Value.int.inj (e.symm.trans cZ)).1)
   (λx y ha ag=>by obtain⟨t,e⟩:=ha.bc;obtain⟨u,cZ⟩:=ag.bc;exact beq_iff_eq.mpr (Value.str.inj (e.symm.trans cZ)).1)
   (λx y ha ag=>by obtain⟨t,e⟩:=ha.bc;obtain⟨u,cZ⟩:=ag.bc;exact decide_eq_true (congrArg Array.toList (Value.bytes.inj (e.symm.trans cZ)).1))
   (λx y ha ag=>by obtain⟨t,e⟩:=ha.bc;obtain⟨u,cZ⟩:=ag.bc;exact nomatch e.symm.trans cZ)
   (λx y ha ag=>by obtain⟨t,e⟩:=ha.bc;obtain⟨u,cZ⟩:=ag.bc;exact nomatch e.symm.trans cZ)
   (λas bg r aI ha ag=>by
     obtain⟨l,i,m,bb,cj,e⟩:=ha.bc;obtain⟨a',eL,fB,bJ,b8,cZ⟩:=ag.bc
     have eI:=Value.ref.inj (e.symm.trans cZ)
     rw[<-eI] at bJ
     have gc:=bL.td bb bJ
     have O0:Data.seq i m=Data.seq eL fB:=congrArg Obj.data gc
     rw[<-(Data.seq.inj O0).1] at b8
     rw[Kj aX cj b8 aI,<-cj.length,<-b8.length,decide_eq_true rfl];rfl)
   (λas bg r _ aI ha ag=>by
     obtain⟨l,o,i,m,bb,_,iq,cj,e⟩:=ha.bc;obtain⟨a',dI,eL,fB,bJ,_,fP,b8,cZ⟩:=ag.bc
     have eI:=Value.ref.inj (e.symm.trans cZ)
     rw[<-eI] at bJ
     rw[<-bL.td bb bJ,iq] at fP
     rw[<-(Data.seq.inj fP).1] at b8
     exact Kj aX cj b8 aI)
   (λas bg ne ha ag=>by
     obtain⟨l,o,i,m,bb,_,iq,cj,e⟩:=ha.bc;obtain⟨a',dI,eL,fB,bJ,_,fP,b8,cZ⟩:=ag.bc
     have eI:=Value.ref.inj (e.symm.trans cZ)
     rw[<-eI] at bJ
     rw[<-bL.td bb bJ,iq] at fP
     rw[<-(Data.seq.inj fP).1] at b8
     exact absurd (cj.length.symm.trans b8.length) ne) ha ag
theorem AO{σ:St}{A:Around}{items dY:Array Value}
 (aX:∀a b bq bP r,aM prog w W n a bq->aM prog w W n b bP->cT d a b=some r->EqAt A.in1 s bq bP r)
 (cj:bt prog w W n as items.toList)(b8:bt prog w W n bg dY.toList)(h:hF (cT d) as bg=some r):
 ∀ai (h1:ai<items.size) (h2:ai<dY.size),EqAt A.in1 s items[ai] dY[ai] (pe (cT d) as bg ai):=by
 intro ai h1 h2
 have a8:items.size=as.length:=by rw[<-Array.length_toList];exact cj.length
 have a7:dY.size=bg.length:=by rw[<-Array.length_toList];exact b8.length
 have g1:as[ai]? =some (as[ai]'(a8▸h1)):=List.getElem?_eq_getElem _
 have g2:bg[ai]? =some (bg[ai]'(a7▸h2)):=List.getElem?_eq_getElem _
 obtain⟨q,bZ⟩:=(xd h).1 ai _ _ g1 g2
 obtain⟨bq,ja,bO⟩:=cj.get g1
 obtain⟨bP,hK,cK⟩:=b8.get g2
 rw[Array.getElem?_toList,Array.getElem?_eq_getElem h1] at ja
 rw[Array.getElem?_toList,Array.getElem?_eq_getElem h2] at hK
 rw[Option.some.inj ja,Option.some.inj hK,show pe (cT d) as bg ai=q by unfold pe;rw[g1,g2];exact congrArg (Option.getD · false) bZ]
 exact aX _ _ _ _ _ bO cK bZ
theorem qd{σ:St}(R:bw prog w h₁ W σ s.heap)(d:Nat):∀(A:Around),A.units+d<cLine->∀a b bq bP r,aM prog w W σ.next a bq->aM prog w W σ.next b bP->cT d a b=some r->EqAt A s bq bP r:=by
 induction d with
 |zero=>exactλA _ a b bq bP r _ _ h=>aq h
 |succ d aX=>
  intro A bI a b bq bP r ha ag h
  have G7:=aX A.in1 (by show A.units+1+d<cLine;rw[Nat.add_assoc,Nat.add_comm 1 d];exact bI)
  have jd:A.units<cLine:=Nat.lt_of_le_of_lt (Nat.le_add_right _ _) bI
  exact e1.casesOn (motive:=λa b r _=>cT (d+1) a b=some r->aM prog w W σ.next a bq->aM prog w W σ.next b bP->EqAt A s bq bP r) (e1.of h)
   (λ_ ha ag=>by rw[show bq=_ from ha.bc,show bP=_ from ag.bc];exact .same _)
   (λx y _ ha ag=>by rw[show bq=_ from ha.bc,show bP=_ from ag.bc];exact .bool_bool _ _)
   (λx y _ ha ag=>by obtain⟨t,e⟩:=ha.bc;obtain⟨u,cZ⟩:=ag.bc;rw[e,cZ];exact .int_int _ _ _ _)
   (λx y _ ha ag=>by obtain⟨t,e⟩:=ha.bc;obtain⟨u,cZ⟩:=ag.bc;rw[e,cZ];exact .str_str _ _ _ _)
   (λx y _ ha ag=>by obtain⟨t,e⟩:=ha.bc;obtain⟨u,cZ⟩:=ag.bc;rw[e,cZ];exact eq_bytes_bytes _ _ _ _)
   (λx y _ ha ag=>by obtain⟨t,e⟩:=ha.bc;obtain⟨u,cZ⟩:=ag.bc;rw[e,cZ];exact eq_int_bytes _ _ _ _)
   (λx y _ ha ag=>by obtain⟨t,e⟩:=ha.bc;obtain⟨u,cZ⟩:=ag.bc;rw[e,cZ];exact eq_bytes_int _ _ _ _)
   (λas bg y bB h ha ag=>by
     obtain⟨l,items,m,a8,bb,cx,cj⟩:=ha.jL R
     obtain⟨a',dY,fB,a7,bJ,eL,b8⟩:=ag.jL R
     rw[a8] at ha
     rw[a7] at ag
     rw[a8,a7]
     by_cases aG:l=a'
     .rw[aG] at ha
      rw[Cb _ _ _ _ _ ha ag h,aG];exact .same _
     .have key:=RcAt.tuples ⟨_,cx,rfl,_,rfl⟩ ⟨_,eL,rfl,_,rfl⟩ jd (AO (σ:=σ) G7 cj b8 bB)
      rw[<-Array.length_toList,<-Array.length_toList,cj.length,b8.length,(xd bB).2] at key
      exact .of_refs aG key)
   (λas bg y de bB h ha ag=>by
     obtain⟨l,items,a8,cx,cj⟩:=gH R ha rfl
     obtain⟨a',dY,a7,eL,b8⟩:=gH R ag rfl
     rw[a8] at ha
     rw[a7] at ag
     rw[a8,a7]
     by_cases aG:l=a'
     .rw[aG] at ha
      rw[Cb _ _ _ _ _ ha ag h,aG];exact .same _
     .have g1:items.size=as.length:=by rw[<-Array.length_toList];exact cj.length
      have g2:dY.size=bg.length:=by rw[<-Array.length_toList];exact b8.length
      have key:=RcAt.lists cx eL (by rw[g1,g2,de]) jd (AO (σ:=σ) G7 cj b8 bB)
      have h2:=(xd bB).2
      rw[de,Nat.min_self,<-de,<-g1] at h2
      rw[h2] at key
      exact .of_refs aG key)
   (λas bg de h ha ag=>by
     obtain⟨l,items,a8,cx,cj⟩:=gH R ha rfl
     obtain⟨a',dY,a7,eL,b8⟩:=gH R ag rfl
     rw[a8] at ha
     rw[a7] at ag
     rw[a8,a7]
     have aG:¬items.size=dY.size:=by rw[<-Array.length_toList,<-Array.length_toList,cj.length,b8.length];exact de
     by_cases e:l=a'
     .rw[e] at ha
      exact absurd (Cb _ _ _ _ _ ha ag h) Bool.false_ne_true
     .exact .of_refs e (RcAt.lists_lengths cx eL (bne_iff_ne.mpr aG) jd)) h ha ag
noncomputable def dP{dp:Type}[DecidableEq dp](es:List (dp×J))(k:dp):Option J:=(es.find? λe=>decide (e.1=k)).map (·.2)
noncomputable def f7:J->St->Option (List (bp×J))
 |.cw es,_=>some es
 |.ref c,σ=>match σ.cells c with
  |some (.cb es)=>some es
  |_=>none
 |_,_=>none
noncomputable def f3:J->St->Option (List (List bp×J))
 |.ref c,σ=>match σ.cells c with
  |some (.b2 es)=>some es
  |_=>none
 |_,_=>none
theorem c6.LB{x:Option c6}(e:(match x with|some (.cb es)=>some es|_=>none)=some es):x=some (.cb es):=by
 rcases x with _|(_|_|_|_|_)
 .exact aq e
 .exact aq e
 .exact congrArg (λx=>some (c6.cb x)) (Option.some.inj e)
 .exact aq e
 .exact aq e
 .exact aq e
theorem c6.Z6{x:Option c6}(e:(match x with|some (.b2 es)=>some es|_=>none)=some es):x=some (.b2 es):=by
 rcases x with _|(_|_|_|_|_)
 .exact aq e
 .exact aq e
 .exact aq e
 .exact congrArg (λx=>some (c6.b2 x)) (Option.some.inj e)
 .exact aq e
 .exact aq e
theorem kn.bW{h:Heap}(c:kn prog w o kvs)(g:h.get? a=some o):h.DictOf (gQ prog w) a kvs:=by
 obtain⟨l2,eJ,ep,aB,hk,hp,aV⟩:=c;exact⟨_,_,_,g,l2,aB,hk,hp,aV⟩
theorem mD{W:az}(R:bw prog w h₁ W σ h)(a0:aM prog w W σ.next src ay)(hs:f7 src σ=some es):
 ∃a kvs,ay=.ref a/\(a==sysModules)=false/\h.DictOf (gQ prog w) a kvs/\d6 prog w W σ.next es kvs:=
 a0.aaj (λv=>f7 v σ) (λay=>∃a kvs,ay=.ref a/\(a==sysModules)=false/\h.DictOf (gQ prog w) a kvs/\d6 prog w W σ.next es kvs) hs
  (λ_ _ _ _ r z c q e=>⟨_,_,rfl,z,c.bW (R.imm _ _ r),Option.some.inj e▸q⟩)
  λc _ e=>by obtain⟨_,_,g,z,x,q⟩:=(R.cell c _ (c6.LB e)).2.bc;exact⟨_,_,rfl,z,x.bW g,q⟩
theorem k'.is(R:bw prog w h₁ W σ h){k:List bp}(t:k' prog w W k a):(tupK prog w).is h k a:=by
 obtain⟨o,items,n,r,h1,h2,aQ⟩:=t;exact⟨o,items,n,R.imm _ _ r,h1,h2,aQ⟩
theorem TRel.h9(R:bw prog w h₁ W σ h)(r:TRel prog w W σ.next es xs):∀x∈xs,(tupK prog w).is h x.1 x.2.1:=
 r.ind (P:=λ_ xs=>∀x∈xs,(tupK prog w).is h x.1 x.2.1) (List.forall_mem_nil _) λt _ _ aX=>List.forall_mem_cons.mpr ⟨t.is R,aX⟩
theorem nL.bW(c:nL prog w o xs)(g:h.get? a=some o)(q:TRel prog w W σ.next es xs)(R:bw prog w h₁ W σ h):h.DictOfH (tupK prog w) a xs:=by
 obtain⟨l2,eJ,ep,aB,hk,aV⟩:=c;exact⟨_,_,_,g,l2,aB,hk,q.h9 R,aV⟩
theorem mn(R:bw prog w h₁ W σ h)(a0:aM prog w W σ.next src ay)(hs:f3 src σ=some es):
 ∃a xs,ay=.ref a/\(a==sysModules)=false/\h.DictOfH (tupK prog w) a xs/\TRel prog w W σ.next es xs:=
 a0.aal (λv=>f3 v σ) (λay=>∃a xs,ay=.ref a/\(a==sysModules)=false/\h.DictOfH (tupK prog w) a xs/\TRel prog w W σ.next es xs) hs
  λc _ e=>by obtain⟨_,_,g,z,x,q⟩:=(R.cell c _ (c6.Z6 e)).2.bc;exact⟨_,_,rfl,z,x.bW g q R,q⟩
theorem Ho{dp:Type}[DecidableEq dp]{es:List (dp×J)}{q k:dp}(e:q=k):dP ((q,v)::es) k=some v:=by
 unfold dP;rw[List.find?_cons_of_pos (by exact decide_eq_true e)];rfl
theorem Hp{dp:Type}[DecidableEq dp]{es:List (dp×J)}{q k:dp}(e:¬q=k):dP ((q,v)::es) k=dP es k:=by
 unfold dP;rw[List.find?_cons_of_neg (by exactλh=>e (of_decide_eq_true h))]
theorem d6.at(r:d6 prog w W n es kvs)(k:bp):(dP es k=none/\valueAt kvs k=none)\/∃v ay,dP es k=some v/\valueAt kvs k=some ay/\aM prog w W n v ay:=
 r.ind (P:=λes kvs=>(dP es k=none/\valueAt kvs k=none)\/∃v ay,dP es k=some v/\valueAt kvs k=some ay/\aM prog w W n v ay) (.inl ⟨rfl,rfl⟩) λ{q v ay es kvs} a _ aX=>by
  by_cases e:q=k
  .exact .inr ⟨v,ay,Ho e,by simp[valueAt,e],a⟩
  .rw[Hp e,show valueAt ((q,ay)::kvs) k=valueAt kvs k by simp[valueAt,e]];exact aX
theorem TRel.at(r:TRel prog w W n es xs)(k:List bp):(dP es k=none/\atKey xs k=none)\/∃v a ay,dP es k=some v/\atKey xs k=some (a,ay)/\aM prog w W n v ay:=
 r.ind (P:=λes xs=>(dP es k=none/\atKey xs k=none)\/∃v a ay,dP es k=some v/\atKey xs k=some (a,ay)/\aM prog w W n v ay) (.inl ⟨rfl,rfl⟩) λ{q v a ay es xs} _ e' _ aX=>by
  by_cases e:q=k
  .exact .inr ⟨v,a,ay,Ho e,by simp[atKey,e],e'⟩
  .rw[Hp e,show atKey ((q,a,ay)::xs) k=atKey xs k by simp[atKey,e]];exact aX
theorem TRel.length(r:TRel prog w W n es xs):xs.length=es.length:=
 r.ind (P:=λes xs=>xs.length=es.length) rfl λ_ _ _ aX=>congrArg Nat.succ aX
noncomputable def toAtom:J->Option bp
 |.none=>some .none
 |.int i=>some (.int i)
 |.str x=>some (.str x)
 |_=>none
noncomputable def toKey:J->Option (List bp)
 |.bk vs=>vs.mapM toAtom
 |_=>none
theorem toAtom_is{k:bp}(h:aM prog w W n v ay)(e:toAtom v=some k):jr k ay=true:=
 aM.casesOn (motive_1:=λv ay _=>toAtom v=some k->jr k ay=true) h (λe=>Option.some.inj e▸rfl) (λ_ e=>aq e) (λ_ _ e=>Option.some.inj e▸beq_self_eq_true _) (λ_ _ e=>Option.some.inj e▸beq_self_eq_true _) (λ_ _ e=>aq e)
  (λ_ _ e=>aq e) (λ_ _ _ _ e=>aq e) (λ_ _ _ _ e=>aq e) (λ_ e=>aq e) (λ_ e=>aq e) (λ_ e=>aq e) e
theorem toKey_items{k:List bp}(r:bt prog w W n vs bG)(e:vs.mapM toAtom=some k):ItemsAre (gQ prog w) k bG:=
 r.ind (P:=λvs bG=>∀k,vs.mapM toAtom=some k->ItemsAre (gQ prog w) k bG) (λk e=>Option.some.inj e▸.nil) (λa _ aX k e=>by
  rw[List.mapM_cons] at e
  obtain⟨x,av,e⟩:=bind_some e
  obtain⟨y,bB,e⟩:=bind_some e
  exact Option.some.inj e▸.cons (toAtom_is a av) (aX y bB)) k e
theorem toKey_is{v:J}{k:List bp}(R:bw prog w h₁ W σ h)(a0:aM prog w W n v ay)(e:toKey v=some k):∃a,ay=.ref a/\k' prog w W k a/\(tupK prog w).is h k a:=
 a0.aam toKey (λay=>∃a,ay=.ref a/\k' prog w W k a/\(tupK prog w).is h k a) e λ_ _ _ _ r q e=>⟨_,rfl,⟨_,_,_,r,rfl,rfl,toKey_items q e⟩,_,_,_,R.imm _ _ r,rfl,rfl,toKey_items q e⟩
noncomputable def lz{dp:Type}[DecidableEq dp](eJ:List (dp×J)):List (dp×J)->Option Bool
 |[]=>some true
 |(k,v)::r=>match dP eJ k with
  |none=>some false
  |some y=>(cT 4 v y).bind λe=>(lz eJ r).map λb=>e&&b
noncomputable def i9{dp:Type}[DecidableEq dp](es eJ:List (dp×J)):Option Bool:=if es.length=eJ.length then lz eJ es else some false
theorem GJ(R:bw prog w h₁ W σ s.heap)(bI:A.units+4<cLine)(dE:d6 prog w W σ.next eJ di)
 (q:d6 prog w W σ.next es eU)(h:lz eJ es=some r):KeqHits A s di eU r:=
 q.ind (P:=λes eU=>∀r,lz eJ es=some r->KeqHits A s di eU r) (λr h=>Option.some.inj h▸.nil) (λ{BM _ _ _ _} a _ aX r h=>by
  unfold lz at h
  rcases dE.at BM with⟨h1,h2⟩|⟨v,ay,h1,h2,aQ⟩
  .rw[h1] at h;exact Option.some.inj h▸.miss h2
  .rw[h1] at h
   obtain⟨e,bV,h⟩:=bind_some h
   obtain⟨bP,ag,h⟩:=Option.map_eq_some_iff.mp h
   exact h▸.hit h2 (qd R 4 A bI _ _ _ _ _ a aQ bV) (aX _ ag)) r h
theorem GL(R:bw prog w h₁ W σ s.heap)(bI:A.units+4<cLine)(dE:TRel prog w W σ.next eJ di)
 (q:TRel prog w W σ.next es eU)(h:lz eJ es=some r):il A s di eU r:=
 q.ind (P:=λes eU=>∀r,lz eJ es=some r->il A s di eU r) (λr h=>Option.some.inj h▸.nil) (λ{BM _ _ _ _ _} _ a _ aX r h=>by
  unfold lz at h
  rcases dE.at BM with⟨h1,h2⟩|⟨v,fO,ay,h1,h2,aQ⟩
  .rw[h1] at h;exact Option.some.inj h▸.miss h2
  .rw[h1] at h
   obtain⟨e,bV,h⟩:=bind_some h
   obtain⟨bP,ag,h⟩:=Option.map_eq_some_iff.mp h
   exact h▸.hit h2 (qd R 4 A bI _ _ _ _ _ a aQ bV) (aX _ ag)) r h
noncomputable def mL(a b:J)(σ:St):Option Bool:=match f7 a σ,f7 b σ with
 |some x,some y=>i9 x y
 |_,_=>match f3 a σ,f3 b σ with
  |some x,some y=>i9 x y
  |_,_=>match a,b with
   |.int _,.int _=>cT 8 a b
   |.str _,.str _=>cT 8 a b
   |.bo _,.bo _=>cT 8 a b
   |_,_=>none
noncomputable def cm:bX
 |[a,b],σ=>(mL a b σ).map λr=>(.bool r,σ)
 |_,_=>none
noncomputable def fS:bX
 |[a,b],σ=>(mL a b σ).map λr=>(.bool (!r),σ)
 |_,_=>none
theorem g'{A:Around}(bI:A.units+200<cLine)(h:autoParam (Nat.ble k 200=true) aL._auto_1):A.units+k<cLine:=Nat.lt_of_le_of_lt (Nat.add_le_add_left (Nat.le_of_ble_eq_true h) _) bI
theorem eC.line(aE:eC A k):A.units+200<cLine:=Nat.lt_of_le_of_lt (Nat.add_le_add_right (Nat.le_add_right _ _) _) aE.u
noncomputable def pf(oa ob:Option (List (bp×J)))(ta tb:Option (List (List bp×J)))(a b:J):Option Bool:=match oa,ob with
 |some x,some y=>i9 x y
 |_,_=>match ta,tb with
  |some x,some y=>i9 x y
  |_,_=>match a,b with
   |.int _,.int _=>cT 8 a b
   |.str _,.str _=>cT 8 a b
   |.bo _,.bo _=>cT 8 a b
   |_,_=>none
inductive hG:J->J->Prop
 |int (x y:Int):hG (.int x) (.int y)
 |str (x y:Str):hG (.str x) (.str y)
 |bo (x y:List J):hG (.bo x) (.bo y)
theorem E8(h:pf none none none none a b=some r):cT 8 a b=some r/\hG a b:=
 J.casesOn (motive_1:=λa=>pf none none none none a b=some r->cT 8 a b=some r/\hG a b) a (λh=>aq h) (λ_ h=>aq h)
  (λx=>J.casesOn (motive_1:=λb=>pf none none none none (.int x) b=some r->cT 8 (.int x) b=some r/\hG (.int x) b) b (λh=>aq h) (λ_ h=>aq h) (λ_ h=>⟨h,.int _ _⟩) (λ_ h=>aq h) (λ_ h=>aq h) (λ_ h=>aq h) (λ_ h=>aq h) (λ_ h=>aq h) (λ_ _ _ h=>aq h) (λ_ h=>aq h) (λ_ h=>aq h))
  (λx=>J.casesOn (motive_1:=λb=>pf none none none none (.str x) b=some r->cT 8 (.str x) b=some r/\hG (.str x) b) b (λh=>aq h) (λ_ h=>aq h) (λ_ h=>aq h) (λ_ h=>⟨h,.str _ _⟩) (λ_ h=>aq h) (λ_ h=>aq h) (λ_ h=>aq h) (λ_ h=>aq h) (λ_ _ _ h=>aq h) (λ_ h=>aq h) (λ_ h=>aq h))
  (λ_ h=>aq h) (λ_ h=>aq h)
  (λx=>J.casesOn (motive_1:=λb=>pf none none none none (.bo x) b=some r->cT 8 (.bo x) b=some r/\hG (.bo x) b) b (λh=>aq h) (λ_ h=>aq h) (λ_ h=>aq h) (λ_ h=>aq h) (λ_ h=>aq h) (λ_ h=>aq h) (λ_ h=>⟨h,.bo _ _⟩) (λ_ h=>aq h) (λ_ _ _ h=>aq h) (λ_ h=>aq h) (λ_ h=>aq h))
  (λ_ h=>aq h) (λ_ _ _ h=>aq h) (λ_ h=>aq h) (λ_ h=>aq h) h
theorem E7(h:pf none none ta tb a b=some r):(∃x y,ta=some x/\tb=some y/\i9 x y=some r)\/(cT 8 a b=some r/\hG a b):=by
 rcases ta with _|x
 .exact .inr (E8 h)
 rcases tb with _|y
 .exact .inr (E8 h)
 .exact .inl ⟨x,y,rfl,rfl,h⟩
theorem E6(h:pf oa ob ta tb a b=some r):
 (∃x y,oa=some x/\ob=some y/\i9 x y=some r)\/(∃x y,ta=some x/\tb=some y/\i9 x y=some r)\/(cT 8 a b=some r/\hG a b):=by
 rcases oa with _|x
 .exact .inr (E7 h)
 rcases ob with _|y
 .exact .inr (E7 h)
 .exact .inl ⟨x,y,rfl,rfl,h⟩
theorem vk{dp:Type}[DecidableEq dp]{x y:List (dp×J)}(h:i9 x y=some r)(a8:n=x.length)(a7:m=y.length):∃cg,(n=m->lz y x=some cg)/\(n==m&&cg)=r:=by
 subst a8 a7
 unfold i9 at h
 by_cases aG:x.length=y.length
 .rw[if_pos aG] at h;exact⟨r,λ_=>h,by rw[aG,beq_self_eq_true,Bool.true_and]⟩
 .rw[if_neg aG] at h;exact⟨true,λe=>absurd e aG,by rw[beq_eq_false_iff_ne.mpr aG];exact Option.some.inj h⟩
theorem Kh{σ:St}{A:Around}{items dY:Array Value}(aX:∀a b bq bP r,aM prog w W n a bq->aM prog w W n b bP->cT 7 a b=some r->EqAt A.in1 s bq bP r)
 (cj:bt prog w W n as items.toList)(b8:bt prog w W n bg dY.toList)(h:cT 8 (.bo as) (.bo bg)=some r):
 (items.size=dY.size/\(∀ai (h1:ai<items.size) (h2:ai<dY.size),EqAt A.in1 s items[ai] dY[ai] (pe (cT 7) as bg ai))/\(List.range dY.size).all (pe (cT 7) as bg)=r)\/(¬items.size=dY.size/\r=false):=by
 have a8:items.size=as.length:=by rw[<-Array.length_toList];exact cj.length
 have a7:dY.size=bg.length:=by rw[<-Array.length_toList];exact b8.length
 have h':(if as.length=bg.length then hF (cT 7) as bg else some false)=some r:=h
 by_cases de:as.length=bg.length
 .rw[if_pos de] at h'
  have h2:=(xd h').2
  rw[de,Nat.min_self,<-a7] at h2
  exact .inl ⟨by rw[a8,a7,de],AO (σ:=σ) aX cj b8 h',h2⟩
 .rw[if_neg de] at h'
  exact .inr ⟨by rw[a8,a7];exact de,(Option.some.inj h').symm⟩
theorem YB{σ:St}{A:Around}(R:bw prog w h₁ W σ s.heap)(bI:A.units+200<cLine){r:Bool}(bO:aM prog w W σ.next a bq)(cK:aM prog w W σ.next b bP)(h:cT 8 a b=some r)
 (hk:hG a b)(aP:Q (.bool (r)) s):wpAny (model prog w) A (compareOp .Eq bq bP) Q E s:=
 have jd:A.units<cLine:=g' (k:=0) bI
 hG.casesOn (motive:=λa b _=>aM prog w W σ.next a bq->aM prog w W σ.next b bP->cT 8 a b=some r->wpAny (model prog w) A (compareOp .Eq bq bP) Q E s) hk
  (λx y bO cK h=>by obtain⟨t,rfl⟩:=bO.bc;obtain⟨u,rfl⟩:=cK.bc;cases h;exact RcAt.int_int _ _ _ _ prog w E Q aP)
  (λx y bO cK h=>by obtain⟨t,rfl⟩:=bO.bc;obtain⟨u,rfl⟩:=cK.bc;cases h;exact RcAt.str_str _ _ _ _ prog w E Q aP)
  (λas bg bO cK h=>by
    obtain⟨l,items,rfl,cx,cj⟩:=gH R bO rfl
    obtain⟨a',dY,rfl,eL,b8⟩:=gH R cK rfl
    rcases Kh (σ:=σ) (A:=A) (qd R 7 A.in1 (g' (k:=8) bI)) cj b8 h with⟨e,key,rfl⟩|⟨e,rfl⟩
    .have key:=RcAt.lists cx eL e jd key
     rw[e] at key
     exact key prog w E Q aP
    .exact RcAt.lists_lengths cx eL (by simpa using e) jd prog w E Q aP) bO cK h
theorem YC{σ:St}{A:Around}(R:bw prog w h₁ W σ s.heap)(bI:A.units+200<cLine){r:Bool}(bO:aM prog w W σ.next a bq)(cK:aM prog w W σ.next b bP)(h:cT 8 a b=some r)
 (hk:hG a b)(aP:Q (.bool (!r)) s):wpAny (model prog w) A (compareOp .NotEq bq bP) Q E s:=
 have jd:A.units<cLine:=g' (k:=0) bI
 hG.casesOn (motive:=λa b _=>aM prog w W σ.next a bq->aM prog w W σ.next b bP->cT 8 a b=some r->wpAny (model prog w) A (compareOp .NotEq bq bP) Q E s) hk
  (λx y bO cK h=>by obtain⟨t,rfl⟩:=bO.bc;obtain⟨u,rfl⟩:=cK.bc;cases h;exact RcNeAt.int_int _ _ _ _ prog w E Q aP)
  (λx y bO cK h=>by obtain⟨t,rfl⟩:=bO.bc;obtain⟨u,rfl⟩:=cK.bc;cases h;exact RcNeAt.str_str _ _ _ _ prog w E Q aP)
  (λas bg bO cK h=>by
    obtain⟨l,items,rfl,cx,cj⟩:=gH R bO rfl
    obtain⟨a',dY,rfl,eL,b8⟩:=gH R cK rfl
    rcases Kh (σ:=σ) (A:=A) (qd R 7 A.in1 (g' (k:=8) bI)) cj b8 h with⟨e,key,rfl⟩|⟨e,rfl⟩
    .have key:=RcNeAt.lists cx eL e jd key
     rw[e] at key
     exact key prog w E Q aP
    .exact RcNeAt.lists_lengths cx eL (by simpa using e) jd prog w E Q aP) bO cK h
theorem dZ:OpOk prog w h₁ k (eG (compareOp .Eq)) cm:=
 .fm λW σ a bq r cg bO aI=>.more (λr=>a::r) (λr=>bq::r) aI λb bP q dE cK bZ=>.end (λq=>a::b::q) (λq=>bq::bP::q) bZ λA s Q E aE aW R=>wpN.of<|by
 obtain⟨r,aI,aW⟩:=(aJ.map aW).cv
 have q:=c7.at aW R (.bool r) s.toks
 have bI:=aE.line
 have jd:A.units<cLine:=g' (k:=0) bI
 rcases E6 (oa:=f7 a σ) (ob:=f7 b σ) (ta:=f3 a σ) (tb:=f3 b σ) aI with⟨x,y,av,bB,h⟩|⟨x,y,av,bB,h⟩|⟨h,hk⟩
 .obtain⟨l,eU,ed,d5,iq,cj⟩:=mD R bO av
  obtain⟨a',di,e4,k3,fP,b8⟩:=mD R cK bB
  obtain⟨cg,g,h3⟩:=vk h cj.length b8.length
  rw[ed,e4];exact keq_eq d5 k3 iq fP jd (λe=>GJ R (g' (k:=5) bI) b8 cj (g e)) (h3▸q)
 .obtain⟨l,eU,ed,d5,iq,cj⟩:=mn R bO av
  obtain⟨a',di,e4,k3,fP,b8⟩:=mn R cK bB
  obtain⟨cg,g,h3⟩:=vk h cj.length b8.length
  rw[ed,e4];exact Z8 (tupleKind_room_in1 (g' bI)) d5 k3 iq fP jd (λe=>GL R (g' (k:=5) bI) b8 cj (g e)) (h3▸q)
 .exact YB R bI bO cK h hk q
theorem lL:OpOk prog w h₁ k (eG (compareOp .NotEq)) fS:=
 .fm λW σ a bq r cg bO aI=>.more (λr=>a::r) (λr=>bq::r) aI λb bP q dE cK bZ=>.end (λq=>a::b::q) (λq=>bq::bP::q) bZ λA s Q E aE aW R=>wpN.of<|by
 obtain⟨r,aI,aW⟩:=(aJ.map aW).cv
 have q:=c7.at aW R (.bool (!r)) s.toks
 have bI:=aE.line
 have jd:A.units<cLine:=g' (k:=0) bI
 rcases E6 (oa:=f7 a σ) (ob:=f7 b σ) (ta:=f3 a σ) (tb:=f3 b σ) aI with⟨x,y,av,bB,h⟩|⟨x,y,av,bB,h⟩|⟨h,hk⟩
 .obtain⟨l,eU,ed,d5,iq,cj⟩:=mD R bO av
  obtain⟨a',di,e4,k3,fP,b8⟩:=mD R cK bB
  obtain⟨cg,g,h3⟩:=vk h cj.length b8.length
  rw[ed,e4];exact keq_ne d5 k3 iq fP jd (λe=>GJ R (g' (k:=5) bI) b8 cj (g e)) (h3▸q)
 .obtain⟨l,eU,ed,d5,iq,cj⟩:=mn R bO av
  obtain⟨a',di,e4,k3,fP,b8⟩:=mn R cK bB
  obtain⟨cg,g,h3⟩:=vk h cj.length b8.length
  rw[ed,e4];exact Z9 (tupleKind_room_in1 (g' bI)) d5 k3 iq fP jd (λe=>GL R (g' (k:=5) bI) b8 cj (g e)) (h3▸q)
 .exact YC R bI bO cK h hk q
noncomputable def jZ(x:J):List J->Option Bool
 |[]=>some false
 |y::r=>(cT 8 y x).bind λa=>(jZ x r).map λb=>a||b
theorem LJ:∀{r:Bool},jZ x vs=some r->(∀y∈vs,∃q,cT 8 y x=some q)/\(r=true↔∃y∈vs,cT 8 y x=some true):=
 List.rec (motive:=λvs=>∀{r:Bool},jZ x vs=some r->(∀y∈vs,∃q,cT 8 y x=some q)/\(r=true↔∃y∈vs,cT 8 y x=some true))
  (λh=>⟨List.forall_mem_nil _,⟨λe=>cM ((Option.some.inj h).trans e),λ⟨_,h,_⟩=>absurd h List.not_mem_nil⟩⟩) (λy vs aX r h=>by
  obtain⟨a,ha,h⟩:=bind_some (show(cT 8 y x).bind _=some r from h)
  obtain⟨b,ag,h⟩:=Option.map_eq_some_iff.mp h
  obtain⟨h1,h2⟩:=aX ag
  refine⟨List.forall_mem_cons.mpr ⟨⟨a,ha⟩,h1⟩,?_⟩
  rw[<-h,Bool.or_eq_true,h2]
  refine⟨λq=>?_,λq=>?_⟩
  .rcases q with e|⟨z,hz,e⟩
   .exact⟨y,List.mem_cons_self,ha.trans (congrArg some e)⟩
   .exact⟨z,List.mem_cons_of_mem _ hz,e⟩
  .obtain⟨z,hz,e⟩:=q
   rcases List.mem_cons.mp hz with a8|hz
   .rw[a8] at e;exact .inl (Option.some.inj (ha.symm.trans e))
   .exact .inr ⟨z,hz,e⟩) vs
open Classical in
theorem u5{A:Around}(R:bw prog w h₁ W σ s.heap)(bI:A.units+200<cLine){items:Array Value}{r:Bool}(eB:aM prog w W σ.next x dC)(q:bt prog w W σ.next vs items.toList)
 (h:jZ x vs=some r):∃e:Value->Bool,(∀y,y∈items->EqAt A.in1 s y dC (e y))/\items.any e=r:=by
 obtain⟨h1,h2⟩:=LJ h
 have len:=q.length
 have bT:∀(ai:Nat) f5,items.toList[ai]? =some f5->∃y,vs[ai]? =some y/\aM prog w W σ.next y f5:=λai f5 e=>by
  have cD:ai<vs.length:=by rw[<-len];exact(List.getElem?_eq_some_iff.mp e).1
  obtain⟨nG,a7,bJ⟩:=q.get (List.getElem?_eq_getElem cD)
  rw[e] at a7;cases a7
  exact⟨_,List.getElem?_eq_getElem cD,bJ⟩
 have at':=qd R 8 A.in1 (g' (k:=9) bI)
 refine⟨λf5=>decide (∃(ai:Nat) (y:J),items.toList[ai]? =some f5/\vs[ai]? =some y/\cT 8 y x=some true),λf5 bB=>?_,?_⟩
 .by_cases aw:∃(ai:Nat) (y:J),items.toList[ai]? =some f5/\vs[ai]? =some y/\cT 8 y x=some true
  .dsimp only
   rw[show(decide (∃(ai:Nat) (y:J),items.toList[ai]? =some f5/\vs[ai]? =some y/\cT 8 y x=some true))=true from decide_eq_true aw]
   obtain⟨ai,y,a8,a7,e3⟩:=aw
   obtain⟨nG,fI,ml⟩:=bT ai f5 a8
   rw[a7] at fI;cases fI
   exact at' _ _ _ _ _ ml eB e3
  .dsimp only
   rw[show(decide (∃(ai:Nat) (y:J),items.toList[ai]? =some f5/\vs[ai]? =some y/\cT 8 y x=some true))=false from decide_eq_false aw]
   obtain⟨ai,a8⟩:=List.mem_iff_getElem?.mp (Array.mem_toList_iff.mpr bB)
   obtain⟨y,a7,ml⟩:=bT ai f5 a8
   obtain⟨b,ag⟩:=h1 y (List.mem_iff_getElem?.mpr ⟨ai,a7⟩)
   induction b with
   |true=>exact absurd ⟨ai,y,a8,a7,ag⟩ aw
   |false=>exact at' _ _ _ _ _ ml eB ag
 .rw[Bool.eq_iff_iff,Array.any_eq_true,h2]
  constructor
  .rintro⟨i,hi,e⟩
   obtain⟨ai,y,a8,a7,e3⟩:=of_decide_eq_true e
   exact⟨y,List.mem_iff_getElem?.mpr ⟨ai,a7⟩,e3⟩
  .rintro⟨y,bB,e⟩
   obtain⟨ai,a7⟩:=List.mem_iff_getElem?.mp bB
   obtain⟨f5,a8,ml⟩:=q.get a7
   rw[Array.getElem?_toList] at a8
   obtain⟨cD,e3⟩:=Array.getElem?_eq_some_iff.mp a8
   refine⟨ai,cD,?_⟩
   rw[e3]
   exact decide_eq_true ⟨ai,y,by rw[Array.getElem?_toList];exact a8,a7,e⟩
noncomputable def mc(x c:J)(σ:St):Option Bool:=match f7 c σ with
 |some es=>(toAtom x).map λk=>(dP es k).isSome
 |none=>match f3 c σ with
  |some es=>(toKey x).map λk=>(dP es k).isSome
  |none=>match c with
   |.bk vs=>jZ x vs
   |c=>(eW c σ).bind (jZ x)
noncomputable def fA:bX
 |[x,c],σ=>(mc x c σ).map λr=>(.bool r,σ)
 |_,_=>none
noncomputable def oq:bX
 |[x,c],σ=>(mc x c σ).map λr=>(.bool (!r),σ)
 |_,_=>none
noncomputable def AK(oa:Option (List (bp×J)))(ta:Option (List (List bp×J)))(x c:J)(σ:St):Option Bool:=match oa with
 |some es=>(toAtom x).map λk=>(dP es k).isSome
 |none=>match ta with
  |some es=>(toKey x).map λk=>(dP es k).isSome
  |none=>match c with
   |.bk vs=>jZ x vs
   |c=>(eW c σ).bind (jZ x)
inductive mA (x c:J) (σ:St) (r:Bool):Prop
 |ad (es:List (bp×J)) (k:bp) (h1:f7 c σ=some es) (h2:toAtom x=some k) (aQ:(dP es k).isSome=r)
 |qb (es:List (List bp×J)) (k:List bp) (h1:f3 c σ=some es) (h2:toKey x=some k) (aQ:(dP es k).isSome=r)
 |bk (vs:List J) (h1:c=.bk vs) (aQ:jZ x vs=some r)
 |tq (vs:List J) (h1:eW c σ=some vs) (aQ:jZ x vs=some r)
theorem mA.hb(h:((eW c σ).bind (jZ x))=some r):mA x c σ r:=by
 obtain⟨vs,h1,h2⟩:=bind_some h;exact .tq vs h1 h2
theorem mA.Bu(h:AK none none x c σ=some r):mA x c σ r:=
 J.casesOn (motive_1:=λc=>AK none none x c σ=some r->mA x c σ r) c (λh=>.hb h) (λ_ h=>.hb h) (λ_ h=>.hb h) (λ_ h=>.hb h) (λ_ h=>.hb h) (λvs h=>.bk vs rfl h) (λ_ h=>.hb h) (λ_ h=>.hb h) (λ_ _ _ h=>.hb h) (λ_ h=>.hb h) (λ_ h=>.hb h) h
theorem mA.of(h:mc x c σ=some r):mA x c σ r:=by
 have h:AK (f7 c σ) (f3 c σ) x c σ=some r:=h
 rcases ed:f7 c σ with _|es
 .rw[ed] at h
  rcases e4:f3 c σ with _|es
  .rw[e4] at h;exact .Bu h
  .rw[e4] at h
   obtain⟨k,h1,h2⟩:=Option.map_eq_some_iff.mp h
   exact .qb es k e4 h1 h2
 .rw[ed] at h
  obtain⟨k,h1,h2⟩:=Option.map_eq_some_iff.mp h
  exact .ad es k ed h1 h2
theorem JR(q:d6 prog w W n es di)(a:bp):(valueAt di a).isSome=(dP es a).isSome:=by
 rcases q.at a with⟨h1,h2⟩|⟨_,_,h1,h2,_⟩
 .rw[h1,h2];rfl
 .rw[h1,h2];rfl
theorem JS(q:TRel prog w W n es di)(a:List bp):(atKey di a).isSome=(dP es a).isSome:=by
 rcases q.at a with⟨h1,h2⟩|⟨_,_,_,h1,h2,_⟩
 .rw[h1,h2];rfl
 .rw[h1,h2];rfl
theorem iU:OpOk prog w h₁ k (eG (compareOp .In)) fA:=
 .fm λW σ x dC r cg eB aI=>.more (λr=>x::r) (λr=>dC::r) aI λc cc q dE d' bZ=>.end (λq=>x::c::q) (λq=>dC::cc::q) bZ λA s Q E aE aW R=>wpN.of<|eK λG bT=>by
 obtain⟨r,aI,aW⟩:=(aJ.map aW).cv
 have aP:=λb7=>c7.at aW R (.bool r) b7
 rcases mA.of aI with⟨es,a,h1,ha,aQ⟩|⟨es,a,h1,ha,aQ⟩|⟨vs,pb,aQ⟩|⟨vs,h1,aQ⟩
 .obtain⟨l,di,e,z,d,q⟩:=mD R d' h1
  refine bT ?_
  rw[e]
  refine wpAny_in_of (knd:=gQ prog w) (toAtom_is eB ha) z d.mapOf ?_
  rw[JR q,aQ];exact aP _
 .obtain⟨l,di,e,z,d,q⟩:=mn R d' h1
  obtain⟨u9,mM,_,hk⟩:=toKey_is R eB ha
  refine bT ?_
  rw[e,mM]
  refine wpAny_in_heap (tupleKind_room_in1 (g' aE.line)) hk z d ?_
  rw[JS q,aQ];exact aP _
 .rw[pb] at d'
  obtain⟨l,items,m,e,bb,cx,cj⟩:=d'.jL R
  obtain⟨f,h1,h2⟩:=u5 (A:=A) R aE.line eB cj aQ
  refine bT ?_
  rw[e]
  refine in_tupleAt f ⟨_,cx,rfl,_,rfl⟩ h1 ?_
  rw[h2];exact aP s.toks
 .obtain⟨l,items,e,cx,cj⟩:=gH R d' h1
  obtain⟨f,h1,h2⟩:=u5 (A:=A) R aE.line eB cj aQ
  refine bT ?_
  rw[e]
  refine in_listAt f cx h1 ?_
  rw[h2];exact aP s.toks
theorem Br:OpOk prog w h₁ k (eG (compareOp .NotIn)) oq:=
 .fm λW σ x dC r cg eB aI=>.more (λr=>x::r) (λr=>dC::r) aI λc cc q dE d' bZ=>.end (λq=>x::c::q) (λq=>dC::cc::q) bZ λA s Q E aE aW R=>wpN.of<|eK λG bT=>by
 obtain⟨r,aI,aW⟩:=(aJ.map aW).cv
 have aP:=λb7=>c7.at aW R (.bool (!r)) b7
 rcases mA.of aI with⟨es,a,h1,ha,aQ⟩|⟨es,a,h1,ha,aQ⟩|⟨vs,pb,aQ⟩|⟨vs,h1,aQ⟩
 .obtain⟨l,di,e,z,d,q⟩:=mD R d' h1
  refine bT ?_
  rw[e]
  refine wpAny_notIn_of (knd:=gQ prog w) (toAtom_is eB ha) z d.mapOf ?_
  rw[JR q,aQ];exact aP _
 .obtain⟨l,di,e,z,d,q⟩:=mn R d' h1
  obtain⟨u9,mM,_,hk⟩:=toKey_is R eB ha
  refine bT ?_
  rw[e,mM]
  refine wpAny_notIn_heap (tupleKind_room_in1 (g' aE.line)) hk z d ?_
  rw[JS q,aQ];exact aP _
 .rw[pb] at d'
  obtain⟨l,items,m,e,bb,cx,cj⟩:=d'.jL R
  obtain⟨f,h1,h2⟩:=u5 (A:=A) R aE.line eB cj aQ
  refine bT ?_
  rw[e]
  refine notIn_tupleAt f ⟨_,cx,rfl,_,rfl⟩ h1 ?_
  rw[h2];exact aP s.toks
 .obtain⟨l,items,e,cx,cj⟩:=gH R d' h1
  obtain⟨f,h1,h2⟩:=u5 (A:=A) R aE.line eB cj aQ
  refine bT ?_
  rw[e]
  refine notIn_listAt f cx h1 ?_
  rw[h2];exact aP s.toks
noncomputable def ng:J->Option Bool
 |.none=>some true
 |.bS _=>none
 |_=>some false
theorem Ik(h:aM prog w W n v ay)(e:ng v=some b):(ay==.none)=b:=
 aM.casesOn (motive_1:=λv ay _=>ng v=some b->(ay==Value.none)=b) h (λe=>Option.some.inj e) (λ_ e=>Option.some.inj e) (λ_ _ e=>Option.some.inj e) (λ_ _ e=>Option.some.inj e) (λ_ _ e=>Option.some.inj e) (λ_ _ e=>Option.some.inj e) (λ_ _ _ _ e=>Option.some.inj e) (λ_ _ _ _ e=>Option.some.inj e) (λ_ e=>Option.some.inj e) (λ_ e=>Option.some.inj e) (λ_ e=>aq e) e
noncomputable def iS:bX
 |[a,.none],σ=>(ng a).map λr=>(.bool r,σ)
 |_,_=>none
noncomputable def kM:bX
 |[a,.none],σ=>(ng a).map λr=>(.bool (!r),σ)
 |_,_=>none
theorem p4:OpOk prog w h₁ k (eG (compareOp .Is)) iS:=
 .fm λW σ x dC r cg eB aI=>.more (λr=>x::r) (λr=>dC::r) aI λc cc q dE d' bZ=>.none (λc=>x::c::q) (λc=>dC::c::dE) d'<|.end (λq=>x::_::q) (λq=>dC::_::q) bZ λA s Q E aE aW R=>wpN.of<|by
 obtain⟨r,aI,aW⟩:=(aJ.map aW).cv
 exact is_none_gen (by rw[Ik eB aI];exact c7.at aW R (.bool _) s.toks)
theorem tF:OpOk prog w h₁ k (eG (compareOp .IsNot)) kM:=
 .fm λW σ x dC r cg eB aI=>.more (λr=>x::r) (λr=>dC::r) aI λc cc q dE d' bZ=>.none (λc=>x::c::q) (λc=>dC::c::dE) d'<|.end (λq=>x::_::q) (λq=>dC::_::q) bZ λA s Q E aE aW R=>wpN.of<|by
 obtain⟨r,aI,aW⟩:=(aJ.map aW).cv
 exact isNot_none (by rw[Ik eB aI];exact c7.at aW R (.bool _) s.toks)
noncomputable def xa(vs:List J)(i:Int):Option J:=if-2^63<=i/\i<2^63 then(seqIndex? i vs.length).bind λai=>vs[ai]? else none
noncomputable def oj(vs:List J)(i:Int):Option J:=if 0<=i/\i<2^63 then vs[i.toNat]? else none
noncomputable def fW(o i:J)(σ:St):Option J:=match f7 o σ with
 |some es=>(toAtom i).bind λk=>dP es k
 |none=>match f3 o σ with
  |some es=>(toKey i).bind λk=>dP es k
  |none=>match i with
   |.int ai=>(match o with
    |.bk vs=>xa vs ai
    |o=>(eW o σ).bind λvs=>oj vs ai)
   |_=>none
noncomputable def a6:bX
 |[o,i],σ=>(fW o i σ).map λv=>(v,σ)
 |_,_=>none
noncomputable def v'(oa:Option (List (bp×J)))(ta:Option (List (List bp×J)))(o i:J)(σ:St):Option J:=match oa with
 |some es=>(toAtom i).bind λk=>dP es k
 |none=>match ta with
  |some es=>(toKey i).bind λk=>dP es k
  |none=>match i with
   |.int ai=>(match o with
    |.bk vs=>xa vs ai
    |o=>(eW o σ).bind λvs=>oj vs ai)
   |_=>none
inductive mB (o i:J) (σ:St) (r:J):Prop
 |ad (es:List (bp×J)) (k:bp) (h1:f7 o σ=some es) (h2:toAtom i=some k) (aQ:dP es k=some r)
 |qb (es:List (List bp×J)) (k:List bp) (h1:f3 o σ=some es) (h2:toKey i=some k) (aQ:dP es k=some r)
 |bk (vs:List J) (ai:Int) (h1:o=.bk vs) (h2:i=.int ai) (aQ:xa vs ai=some r)
 |tq (vs:List J) (ai:Int) (h1:eW o σ=some vs) (h2:i=.int ai) (aQ:oj vs ai=some r)
theorem mB.hb(h:((eW o σ).bind λvs=>oj vs ai)=some r):mB o (.int ai) σ r:=by
 obtain⟨vs,h1,h2⟩:=bind_some h;exact .tq vs ai h1 rfl h2
theorem mB.Bu(h:v' none none o i σ=some r):mB o i σ r:=
 J.casesOn (motive_1:=λi=>v' none none o i σ=some r->mB o i σ r) i (λh=>aq h) (λ_ h=>aq h) (λai=>J.casesOn (motive_1:=λo=>v' none none o (.int ai) σ=some r->mB o (.int ai) σ r) o (λh=>.hb h) (λ_ h=>.hb h) (λ_ h=>.hb h) (λ_ h=>.hb h) (λ_ h=>.hb h) (λvs h=>.bk vs ai rfl rfl h) (λ_ h=>.hb h) (λ_ h=>.hb h) (λ_ _ _ h=>.hb h) (λ_ h=>.hb h) (λ_ h=>.hb h)) (λ_ h=>aq h) (λ_ h=>aq h) (λ_ h=>aq h) (λ_ h=>aq h) (λ_ h=>aq h) (λ_ _ _ h=>aq h) (λ_ h=>aq h) (λ_ h=>aq h) h
theorem mB.of(h:fW o i σ=some r):mB o i σ r:=by
 have h:v' (f7 o σ) (f3 o σ) o i σ=some r:=h
 rcases ed:f7 o σ with _|es
 .rw[ed] at h
  rcases e4:f3 o σ with _|es
  .rw[e4] at h;exact .Bu h
  .rw[e4] at h
   obtain⟨k,h1,h2⟩:=bind_some h
   exact .qb es k e4 h1 h2
 .rw[ed] at h
  obtain⟨k,h1,h2⟩:=bind_some h
  exact .ad es k ed h1 h2
theorem T2(hs:autoParam (∀o i,subscripted slice false o i=operate [o,i] (getItem o i)) KW._auto_1):OpOk prog w h₁ k (eG (subscriptTail value slice)) a6:=
 .fm λW σ o cO r cg eB aI=>.more (λr=>o::r) (λr=>cO::r) aI λi kb q dE d' bZ=>.end (λq=>o::i::q) (λq=>cO::kb::q) bZ λA s Q E aE aW R=>wpN.of<|eK λG bT=>by
 obtain⟨v,aI,aW⟩:=(aJ.map aW).cv
 rcases mB.of aI with⟨es,a,h1,ha,aQ⟩|⟨es,a,h1,ha,aQ⟩|⟨vs,ai,gZ,gc,aQ⟩|⟨vs,ai,h1,gc,aQ⟩
 .obtain⟨l,di,e,z,d,q⟩:=mD R eB h1
  rcases q.at a with⟨g1,_⟩|⟨gx,ay,g1,g2,g3⟩
  .exact aq (g1.symm.trans aQ)
  .rw[<-Option.some.inj (aQ.symm.trans g1)] at g3
   refine bT ?_
   rw[e]
   exact tail_any d.typeIs slot_dict_getitem.lookup (wpAny_getItem_of (knd:=gQ prog w) (toAtom_is d' ha) d.mapOf g2 (c7.at aW R g3 _)) (hs _ _)
 .obtain⟨l,di,e,z,d,q⟩:=mn R eB h1
  obtain⟨u9,gc,_,hk⟩:=toKey_is R d' ha
  rcases q.at a with⟨g1,_⟩|⟨gx,bq,ay,g1,g2,g3⟩
  .exact aq (g1.symm.trans aQ)
  .rw[<-Option.some.inj (aQ.symm.trans g1)] at g3
   refine bT ?_
   rw[e,gc]
   exact tail_any d.typeIs slot_dict_getitem.lookup (wpAny_getItem_heap (tupleKind_room_in1 (g' aE.line)) hk d g2 (c7.at aW R g3 _)) (hs _ _)
 .rw[gc] at d'
  obtain⟨u,gc⟩:=d'.bc
  rw[gZ] at eB
  obtain⟨l,items,m,e,bb,cx,cj⟩:=eB.jL R
  unfold xa at aQ
  by_cases ag: -2^63<=ai/\ai<2^63
  .rw[if_pos ag] at aQ
   obtain⟨x,cD,aI⟩:=bind_some aQ
   obtain⟨ay,a0,e'⟩:=cj.get aI
   rw[<-cj.length,Array.length_toList] at cD
   rw[Array.getElem?_toList] at a0
   refine bT ?_
   rw[e,gc]
   exact tail_any (T:="tuple") ⟨_,cx,rfl⟩ PySem.F.slot_tuple_getitem.lookup (P.getItem_tuple cx ag.1 ag.2 cD a0 (c7.at aW R e' s.toks)) (hs _ _)
  .rw[if_neg ag] at aQ;exact aq aQ
 .rw[gc] at d'
  obtain⟨u,gc⟩:=d'.bc
  obtain⟨l,items,e,cx,cj⟩:=gH R eB h1
  unfold oj at aQ
  by_cases ag:0<=ai/\ai<2^63
  .rw[if_pos ag] at aQ
   obtain⟨ay,a0,e'⟩:=cj.get aQ
   rw[Array.getElem?_toList] at a0
   refine bT ?_
   rw[e,gc]
   exact tail_any cx.typeIs slot_list_getitem.lookup (wpAny_getItem_list cx ag.1 ag.2 a0 (c7.at aW R e' s.toks)) (hs _ _)
  .rw[if_neg ag] at aQ;exact aq aQ
theorem bU(h1:bj prog w h₁ own env ns k (eval value env) eH)(h2:bj prog w h₁ own env ns k (eval slice env) d1)
 (hs:autoParam (∀o i,subscripted slice false o i=operate [o,i] (getItem o i)) KW._auto_1):
 bj prog w h₁ own env ns k (eval (.Subscript value slice pos) env) (af a6 eH d1):=by
 refine .of λA W U σ s Q E aE ao R=>Kv (h1.go aE ao.bind R λeb ct ao br dz h1 cE bA ae bu bb=>h2.go aE (aJ.bind ao) bu λgx bD ao bH dj h2 tk2 a' aK cn bJ=>?_)
 exact cn.lM (s:={s with heap:=h2,toks:=tk2}) (T2 hs) aE ao (.cons (bb.a4 a'.1 aK) (.cons bJ .nil)) λv aZ c bY ay aQ cN cR bx dc dx=>
  c bY ay aQ cN ((bA.trans ae a').trans (Nat.le_trans ae aK) cR) (Nat.le_trans ae (Nat.le_trans aK bx)) dc dx
noncomputable def iW:J->J->J->Option J
 |.bytes b,.none,.int ai=>if 0<=ai/\b.length<=1000000 then some (.bytes (b.take ai.toNat)) else none
 |.bytes b,.int ai,.none=>if 0<=ai/\b.length<=1000000 then some (.bytes (b.drop ai.toNat)) else none
 |.bk vs,.int ai,.none=>if 1<=ai/\ai.toNat<=vs.length/\vs.length<=1000000 then some (.bk (vs.drop ai.toNat)) else none
 |.bk vs,.none,.int ai=>if ai= -1/\1<=vs.length/\vs.length<=1000000 then some (.bk (vs.take (vs.length-1))) else none
 |.bo vs,.none,.int ai=>if 0<=ai/\vs.length<=1000000 then some (.bo (vs.take ai.toNat)) else none
 |_,_,_=>none
noncomputable def iF(D xv xx:cW):cW:=λU σ=>(D U σ).bind λr=>(xv U r.2).bind λl=>(xx U l.2).bind λu=>(iW r.1 l.1 u.1).map λv=>(v,u.2)
theorem aaL
 (h:wpN M A (evalPart lower env) (λlo bh=>wpN M A (evalPart upper env) (λhi cS=>Q (.ref cS.heap.objs.size) {cS with heap:=cS.heap.push {cls:=.type "slice",data:=.fields #[lo,hi,.none]}}) E bh) E s):
 wpN M A (eval (.Slice lower upper .none p) env) Q E s:=by
 rw[arm_eval_Slice]
 refine a5 (cy h (λl bh h₁=>a5 (dV (cy h₁ (λu cS eh=>?_) λ_ _ x=>x))) λ_ _ x=>x)
 refine a5 (dV ?_)
 exact cq (.of (wpAny_newObj_type eh))
theorem ov:bj prog w h₁ own env ns k (evalPart .none env) (I .none):=.of λA W U σ s Q E aE ao R=>cq (du.to ao W _ s.heap s.toks az.le.refl (Nat.le_refl _) R .none)
theorem ow(h:bj prog w h₁ own env ns k (eval e env) D):bj prog w h₁ own env ns k (evalPart (some e) env) D:=h
theorem ZJ{Q:Int×Int×Nat->Shared->Prop}(hs:s.heap.IsSliceOf kX .none (.int (-1) u) .none)(aV:1<=n)(h:Q (0,1,n-1) s):
 wpAny (model prog w) A (Builtin.Slice.sliceApplied (.ref kX) (pure (n:Int))) Q E s:=by
 obtain⟨os,oh,pz,qQ⟩:=id hs
 unfold Builtin.Slice.sliceApplied Builtin.Slice.sliceFields
 refine wpAny_bind (wpAny_bind (wpAny_field oh qQ (x:=.none) rfl (wpAny_bind (wpAny_field oh qQ (x:=.int (-1) u) rfl (wpAny_bind (wpAny_field oh qQ (x:=.none) rfl (wpAny_pure ?_)))))))
 refine wpAny_bind (slicePart_none ?_)
 show wpAny _ _ (if((1:Int)==0)=true then _ else _) _ _ s
 first|refine h8 (by decide) ?_|refine kc (by decide) ?_
 refine wpAny_bind (slicePart_none (wpAny_bind (slicePart_int (wpAny_bind (wpAny_pure ?_)))))
 show wpAny _ _ (match Builtin.Slice.sliceAdjust none (some (-1)) 1 (n:Int) with|(lo,hi)=>pure (lo,(1:Int),Builtin.Slice.slicePlaces lo hi 1)) _ _ s
 have ed:Builtin.Slice.sliceAdjust none (some (-1)) 1 (n:Int)=(0,(n:Int)-1):=by
  unfold Builtin.Slice.sliceAdjust
  have h1:¬((1:Int)<0):=by exact aC.Uj
  simp only[h1,if_false]
  congr 1
  have aQ:((-1:Int)<0):=by exact aC.Uq
  simp only[aQ,if_true]
  exact aC.Uz aV
 rw[ed]
 show wpAny _ _ (pure ((0:Int),(1:Int),Builtin.Slice.slicePlaces 0 ((n:Int)-1) 1)) _ _ s
 have ep:Builtin.Slice.slicePlaces 0 ((n:Int)-1) 1=n-1:=by
  unfold Builtin.Slice.slicePlaces
  have h1:(1:Int)>0:=by exact aC.UL
  simp only[h1,if_true,Int.ediv_one]
  split<;>omega
 rw[ep]
 exact wpAny_pure h
theorem Qt{Q:Value->Shared->Prop}(ht:IsTup s.heap t items)(hs:s.heap.IsSliceOf kX .none (.int (-1) u) .none)(ha:1<=items.size)
 (h:Q (.ref s.heap.objs.size) {s with heap:=s.heap.push {cls:=.type "tuple",data:=.seq (items.toList.take (items.size-1)).toArray}})
 (hsz:items.size<=sizeLine):wpAny (model prog w) A (getItem (.ref t) (.ref kX)) Q E s:=by
 have kI:sizeOk (.seq (items.toList.take (items.size-1)).toArray):=by
  show(items.toList.take (items.size-1)).toArray.size<=sizeLine
  rw[List.size_toArray,List.length_take,Array.length_toList]
  exact aC.U3 hsz
 obtain⟨os,oh,pz,qQ⟩:=id hs
 have QQ:s.TypeIs (.ref kX) "slice":=⟨os,oh,pz⟩
 unfold getItem
 try with_reducible refine wpAny_holding ?_
 first|refine wpAny_bind (wpAny_pure ?_)|skip
 refine wpAny_bind (wpAny_sequenceKey ht.typeIs (by decide) ?_)
 refine wpAny_bind (wpAny_callSpecial?_slot (name:=Str.ofString "__getitem__") ht.typeIs slot_tuple_getitem
  (wpAny_call_entry slot_tuple_getitem ht.typeIs entry_tuple_getitem ?_ (args_tuple_getitem _ _)))
 show wpAny _ _ (Builtin.Tuple.tupleItemsOf (.ref t)>>=_) _ _ s
 refine wpAny_bind (tupleItemsOf_ ht ?_)
 refine wpAny_bind (wpAny_typeOf QQ ?_)
 first|refine iv (by decide) ?_|refine q4 (by decide) ?_
 refine wpAny_bind (ZJ hs ha ?_)
 have Al:¬(((0:Int)==0&&(1:Int)==1&&(items.size-1)==items.size)=true):=by
  have:((items.size-1)==items.size)=false:=by rw[beq_eq_false_iff_ne];exact aC.Vb ha
  rw[this];simp
 have e:((List.range (items.size-1)).filterMap λ(k:Nat)=>items[((0:Int)+(k:Int)*1).toNat]?).toArray=(items.toList.take (items.size-1)).toArray:=by
  have a8:(λ(k:Nat)=>items[((0:Int)+(k:Int)*1).toNat]?)=λk=>items[0+k]? :=by
   funext k
   have:((0:Int)+(k:Int)*1).toNat=0+k:=by exact aC.Vm
   rw[this]
  rw[a8]
  have:=pick_run items 0 (items.size-1)
  rw[List.filterMap_map] at this
  exact congrArg _ this
 show wpAny _ _ (if((0:Int)==0&&(1:Int)==1&&(items.size-1)==items.size)=true then _ else _) _ _ s
 rw[if_neg Al,e]
 first
  |exact wpAny_bind (m:=Builtin.Tuple.tupleExact _) (wpAny_newObj_type (wpAny_pure ⟨_,rfl,wpAny_pure h⟩) kI)
  |exact wpAny_bind (m:=Builtin.Tuple.tupleExact _) (wpAny_newObj_type (wpAny_bind (wpAny_pure (wpAny_pure ⟨_,rfl,wpAny_pure h⟩))) kI)
  |exact wpAny_bind (wpAny_bind (m:=Builtin.Tuple.tupleExact _) (wpAny_newObj_type (wpAny_pure (wpAny_pure ⟨_,rfl,wpAny_pure h⟩)) kI))
  |exact wpAny_bind (wpAny_bind (m:=Builtin.Tuple.tupleExact _) (wpAny_newObj_type (wpAny_pure ⟨_,rfl,wpAny_pure h⟩) kI))
inductive hV:J->J->J->J->Prop
 |i8 (b:List UInt8) (ai:Int) (h:0<=ai/\b.length<=1000000):hV (.bytes b) .none (.int ai) (.bytes (b.take ai.toNat))
 |nN (b:List UInt8) (ai:Int) (h:0<=ai/\b.length<=1000000):hV (.bytes b) (.int ai) .none (.bytes (b.drop ai.toNat))
 |nC (vs:List J) (ai:Int) (h:1<=ai/\ai.toNat<=vs.length/\vs.length<=1000000):hV (.bk vs) (.int ai) .none (.bk (vs.drop ai.toNat))
 |eG (vs:List J) (ai:Int) (h:ai= -1/\1<=vs.length/\vs.length<=1000000):hV (.bk vs) .none (.int ai) (.bk (vs.take (vs.length-1)))
 |bA (vs:List J) (ai:Int) (h:0<=ai/\vs.length<=1000000):hV (.bo vs) .none (.int ai) (.bo (vs.take ai.toNat))
theorem tc{cp:Decidable c}{P:J->Prop}(h:(if c then some a else none)=some b)(k:c->P a):P b:=by
 by_cases e:c
 .rw[if_pos e] at h;exact Option.some.inj h▸k e
 .rw[if_neg e] at h;exact aq h
theorem hV.of(h:iW a b c=some d):hV a b c d:=
 J.casesOn (motive_1:=λa=>iW a b c=some d->hV a b c d) a (λh=>aq h) (λ_ h=>aq h) (λ_ h=>aq h) (λ_ h=>aq h) (λy=>J.casesOn (motive_1:=λb=>iW (.bytes y) b c=some d->hV (.bytes y) b c d) b (J.casesOn (motive_1:=λc=>iW (.bytes y) (.none) c=some d->hV (.bytes y) (.none) c d) c (λh=>aq h) (λ_ h=>aq h) (λ_ h=>tc h λq=>.i8 _ _ q) (λ_ h=>aq h) (λ_ h=>aq h) (λ_ h=>aq h) (λ_ h=>aq h) (λ_ h=>aq h) (λ_ _ _ h=>aq h) (λ_ h=>aq h) (λ_ h=>aq h)) (λ_ h=>aq h) (λx=>J.casesOn (motive_1:=λc=>iW (.bytes y) (.int x) c=some d->hV (.bytes y) (.int x) c d) c (λh=>tc h λq=>.nN _ _ q) (λ_ h=>aq h) (λ_ h=>aq h) (λ_ h=>aq h) (λ_ h=>aq h) (λ_ h=>aq h) (λ_ h=>aq h) (λ_ h=>aq h) (λ_ _ _ h=>aq h) (λ_ h=>aq h) (λ_ h=>aq h)) (λ_ h=>aq h) (λ_ h=>aq h) (λ_ h=>aq h) (λ_ h=>aq h) (λ_ h=>aq h) (λ_ _ _ h=>aq h) (λ_ h=>aq h) (λ_ h=>aq h)) (λy=>J.casesOn (motive_1:=λb=>iW (.bk y) b c=some d->hV (.bk y) b c d) b (J.casesOn (motive_1:=λc=>iW (.bk y) (.none) c=some d->hV (.bk y) (.none) c d) c (λh=>aq h) (λ_ h=>aq h) (λ_ h=>tc h λq=>.eG _ _ q) (λ_ h=>aq h) (λ_ h=>aq h) (λ_ h=>aq h) (λ_ h=>aq h) (λ_ h=>aq h) (λ_ _ _ h=>aq h) (λ_ h=>aq h) (λ_ h=>aq h)) (λ_ h=>aq h) (λx=>J.casesOn (motive_1:=λc=>iW (.bk y) (.int x) c=some d->hV (.bk y) (.int x) c d) c (λh=>tc h λq=>.nC _ _ q) (λ_ h=>aq h) (λ_ h=>aq h) (λ_ h=>aq h) (λ_ h=>aq h) (λ_ h=>aq h) (λ_ h=>aq h) (λ_ h=>aq h) (λ_ _ _ h=>aq h) (λ_ h=>aq h) (λ_ h=>aq h)) (λ_ h=>aq h) (λ_ h=>aq h) (λ_ h=>aq h) (λ_ h=>aq h) (λ_ h=>aq h) (λ_ _ _ h=>aq h) (λ_ h=>aq h) (λ_ h=>aq h)) (λy=>J.casesOn (motive_1:=λb=>iW (.bo y) b c=some d->hV (.bo y) b c d) b (J.casesOn (motive_1:=λc=>iW (.bo y) (.none) c=some d->hV (.bo y) (.none) c d) c (λh=>aq h) (λ_ h=>aq h) (λ_ h=>tc h λq=>.bA _ _ q) (λ_ h=>aq h) (λ_ h=>aq h) (λ_ h=>aq h) (λ_ h=>aq h) (λ_ h=>aq h) (λ_ _ _ h=>aq h) (λ_ h=>aq h) (λ_ h=>aq h)) (λ_ h=>aq h) (λ_ h=>aq h) (λ_ h=>aq h) (λ_ h=>aq h) (λ_ h=>aq h) (λ_ h=>aq h) (λ_ h=>aq h) (λ_ _ _ h=>aq h) (λ_ h=>aq h) (λ_ h=>aq h)) (λ_ h=>aq h) (λ_ _ _ h=>aq h) (λ_ h=>aq h) (λ_ h=>aq h) h
theorem XO{b:List UInt8}(ag:0<=ai):KBy.picked b.toArray none (some ai)=(b.take ai.toNat).toArray:=by
 rw[KBc.picked_eq]
 obtain⟨ai,rfl⟩:=Int.eq_ofNat_of_zero_le ag
 simp only[Option.elim,clipAt_nat,List.drop_zero,Nat.sub_zero,Int.toNat_natCast,List.size_toArray]
 rcases Nat.le_total ai b.length with q|q
 .rw[Nat.min_eq_left q]
 .rw[Nat.min_eq_right q,List.take_of_length_le q,List.take_of_length_le (Nat.le_refl _)]
theorem XQ{b:List UInt8}(ag:0<=ai):KBy.picked b.toArray (some ai) none=(b.drop ai.toNat).toArray:=by
 rw[KBc.picked_eq]
 obtain⟨ai,rfl⟩:=Int.eq_ofNat_of_zero_le ag
 simp only[Option.elim,clipAt_nat,Int.toNat_natCast,List.size_toArray]
 rcases Nat.le_total ai b.length with q|q
 .rw[Nat.min_eq_left q,List.take_of_length_le (by simp)]
 .rw[Nat.min_eq_right q,List.drop_of_length_le (Nat.le_refl _),List.drop_of_length_le q];simp
theorem rk(h:n<=1000000):n<=sizeLine:=Nat.le_trans h (by decide)
theorem ZE{aQ:Heap}{cN:Nat}{dz dj dU:Value}{Q E:Value->Shared->Prop}(dW:bC prog w h₁ own env ns bY U dk (aQ.push {cls:=.type "slice",data:=.fields #[dj,dU,.none]}))(gf:(aQ.push {cls:=.type "slice",data:=.fields #[dj,dU,.none]}).IsSliceOf aQ.objs.size dj dU .none){b:List UInt8}{ai:Int}(h:0<=ai/\b.length<=1000000)
 (bb:aM prog w bY dk.next (.bytes b) dz)(bJ:aM prog w bY dk.next .none dj)(dx:aM prog w bY dk.next (.int ai) dU)(aP:du prog w h₁ (aM prog w) own env ns bY U dk s Q (.bytes (b.take ai.toNat)) dk):
 wpAny (model prog w) A (subscriptTail value (.Slice lower upper .none p) dz (.ref aQ.objs.size)) Q E {s with heap:=aQ.push {cls:=.type "slice",data:=.fields #[dj,dU,.none]},toks:=cN}:=by
 obtain⟨t,a8⟩:=bb.bc
 have a7:dj=.none:=bJ.bc
 obtain⟨u,e3⟩:=dx.bc
 rw[a7,e3] at gf dW⊢
 rw[a8]
 refine tail_any (typeIs_bytes _ _ _) FB.slot_bytes_getitem.lookup (getItem_meets (typeIs_bytes _ _ _) (by decide) FB.slot_bytes_getitem FB.entry_bytes_getitem (FB.args_bytes_getitem_2 _ _) (KBc.meets_slice2 b.toArray t _ .none (.int ai u))
  ⟨gf,Nat.le_trans (KBc.size_picked_le _ _ _) (rk h.2),λd3 k=>?_⟩) rfl
 rw[XO h.1]
 exact aP bY _ _ _ az.le.refl (Nat.le_refl _) dW (.bytes _ _)
theorem ZF{aQ:Heap}{cN:Nat}{dz dj dU:Value}{Q E:Value->Shared->Prop}(dW:bC prog w h₁ own env ns bY U dk (aQ.push {cls:=.type "slice",data:=.fields #[dj,dU,.none]}))(gf:(aQ.push {cls:=.type "slice",data:=.fields #[dj,dU,.none]}).IsSliceOf aQ.objs.size dj dU .none){b:List UInt8}{ai:Int}(h:0<=ai/\b.length<=1000000)
 (bb:aM prog w bY dk.next (.bytes b) dz)(bJ:aM prog w bY dk.next (.int ai) dj)(dx:aM prog w bY dk.next .none dU)(aP:du prog w h₁ (aM prog w) own env ns bY U dk s Q (.bytes (b.drop ai.toNat)) dk):
 wpAny (model prog w) A (subscriptTail value (.Slice lower upper .none p) dz (.ref aQ.objs.size)) Q E {s with heap:=aQ.push {cls:=.type "slice",data:=.fields #[dj,dU,.none]},toks:=cN}:=by
 obtain⟨t,a8⟩:=bb.bc
 have e3:dU=.none:=dx.bc
 obtain⟨u,a7⟩:=bJ.bc
 rw[a7,e3] at gf dW⊢
 rw[a8]
 refine tail_any (typeIs_bytes _ _ _) FB.slot_bytes_getitem.lookup (getItem_meets (typeIs_bytes _ _ _) (by decide) FB.slot_bytes_getitem FB.entry_bytes_getitem (FB.args_bytes_getitem_2 _ _) (KBc.meets_slice2 b.toArray t _ (.int ai u) .none)
  ⟨gf,Nat.le_trans (KBc.size_picked_le _ _ _) (rk h.2),λd3 k=>?_⟩) rfl
 rw[XQ h.1]
 exact aP bY _ _ _ az.le.refl (Nat.le_refl _) dW (.bytes _ _)
theorem ZH{aQ:Heap}{cN:Nat}{dz dj dU:Value}{Q E:Value->Shared->Prop}(dW:bC prog w h₁ own env ns bY U dk (aQ.push {cls:=.type "slice",data:=.fields #[dj,dU,.none]}))(gf:(aQ.push {cls:=.type "slice",data:=.fields #[dj,dU,.none]}).IsSliceOf aQ.objs.size dj dU .none){vs:List J}{ai:Int}(h:1<=ai/\ai.toNat<=vs.length/\vs.length<=1000000)
 (bb:aM prog w bY dk.next (.bk vs) dz)(bJ:aM prog w bY dk.next (.int ai) dj)(dx:aM prog w bY dk.next .none dU)(aP:du prog w h₁ (aM prog w) own env ns bY U dk s Q (.bk (vs.drop ai.toNat)) dk):
 wpAny (model prog w) A (subscriptTail value (.Slice lower upper .none p) dz (.ref aQ.objs.size)) Q E {s with heap:=aQ.push {cls:=.type "slice",data:=.fields #[dj,dU,.none]},toks:=cN}:=by
 have e3:dU=.none:=dx.bc
 obtain⟨u,a7⟩:=bJ.bc
 rw[a7,e3] at gf dW⊢
 obtain⟨l,items,m,a8,Jz,cx,cj⟩:=bb.jL dW.bE
 rw[a8]
 have eI:items.size=vs.length:=by rw[<-Array.length_toList];exact cj.length
 obtain⟨ai,rfl⟩:=Int.eq_ofNat_of_zero_le (Int.le_trans (by decide) h.1)
 refine tail_any (T:="tuple") ⟨_,cx,rfl⟩ PySem.F.slot_tuple_getitem.lookup (getItem_tuple_from (a:=ai) ⟨_,cx,rfl,_,rfl⟩ gf (Int.ofNat_le.mp h.1) (eI▸h.2.1) ?_ (eI▸rk h.2.2)) rfl
 obtain⟨eP,hy⟩:=dW.hu {cls:=.type "tuple",data:=.seq (items.toList.drop ai).toArray} rfl
 exact aP _ _ _ cN hy (Nat.le_refl _) eP (.bk (k:=0) az.cX ((cj.drop ai).a4 hy.1 (Nat.le_refl _)))
theorem ZI{aQ:Heap}{cN:Nat}{dz dj dU:Value}{Q E:Value->Shared->Prop}(dW:bC prog w h₁ own env ns bY U dk (aQ.push {cls:=.type "slice",data:=.fields #[dj,dU,.none]}))(gf:(aQ.push {cls:=.type "slice",data:=.fields #[dj,dU,.none]}).IsSliceOf aQ.objs.size dj dU .none){vs:List J}{ai:Int}(h:ai= -1/\1<=vs.length/\vs.length<=1000000)
 (bb:aM prog w bY dk.next (.bk vs) dz)(bJ:aM prog w bY dk.next .none dj)(dx:aM prog w bY dk.next (.int ai) dU)(aP:du prog w h₁ (aM prog w) own env ns bY U dk s Q (.bk (vs.take (vs.length-1))) dk):
 wpAny (model prog w) A (subscriptTail value (.Slice lower upper .none p) dz (.ref aQ.objs.size)) Q E {s with heap:=aQ.push {cls:=.type "slice",data:=.fields #[dj,dU,.none]},toks:=cN}:=by
 have a7:dj=.none:=bJ.bc
 obtain⟨u,e3⟩:=dx.bc
 rw[h.1] at e3
 rw[a7,e3] at gf dW⊢
 obtain⟨l,items,m,a8,Jz,cx,cj⟩:=bb.jL dW.bE
 rw[a8]
 have eI:items.size=vs.length:=by rw[<-Array.length_toList];exact cj.length
 have b8:=cj.take (vs.length-1)
 rw[<-eI] at b8 aP
 refine tail_any (T:="tuple") ⟨_,cx,rfl⟩ PySem.F.slot_tuple_getitem.lookup (Qt ⟨_,cx,rfl,_,rfl⟩ gf (eI▸h.2.1) ?_ (eI▸rk h.2.2)) rfl
 obtain⟨eP,hy⟩:=dW.hu {cls:=.type "tuple",data:=.seq (items.toList.take (items.size-1)).toArray} rfl
 exact aP _ _ _ cN hy (Nat.le_refl _) eP (.bk (k:=0) az.cX (b8.a4 hy.1 (Nat.le_refl _)))
theorem ZG{aQ:Heap}{cN:Nat}{dz dj dU:Value}{Q E:Value->Shared->Prop}(dW:bC prog w h₁ own env ns bY U dk (aQ.push {cls:=.type "slice",data:=.fields #[dj,dU,.none]}))(gf:(aQ.push {cls:=.type "slice",data:=.fields #[dj,dU,.none]}).IsSliceOf aQ.objs.size dj dU .none){vs:List J}{ai:Int}(h:0<=ai/\vs.length<=1000000)
 (bb:aM prog w bY dk.next (.bo vs) dz)(bJ:aM prog w bY dk.next .none dj)(dx:aM prog w bY dk.next (.int ai) dU)(aP:du prog w h₁ (aM prog w) own env ns bY U dk s Q (.bo (vs.take ai.toNat)) dk):
 wpAny (model prog w) A (subscriptTail value (.Slice lower upper .none p) dz (.ref aQ.objs.size)) Q E {s with heap:=aQ.push {cls:=.type "slice",data:=.fields #[dj,dU,.none]},toks:=cN}:=by
 have a7:dj=.none:=bJ.bc
 obtain⟨u,e3⟩:=dx.bc
 rw[a7,e3] at gf dW⊢
 obtain⟨l,items,a8,cx,cj⟩:=gH dW.bE bb rfl
 rw[a8]
 have eI:items.size=vs.length:=by rw[<-Array.length_toList];exact cj.length
 obtain⟨ai,rfl⟩:=Int.eq_ofNat_of_zero_le h.1
 refine tail_any (Heap.IsList.typeIs (s:={s with heap:=aQ.push {cls:=.type "slice",data:=.fields #[.none,.int ai u,.none]},toks:=cN}) cx) list_getitem_lookup (wpAny_getItem_list_slice cx gf .none (.int _ _) .none (by simp) ?_ (eI▸rk h.2)) rfl
 rw[slicePick_upto']
 obtain⟨eP,hy⟩:=dW.hu {cls:=.type "list",data:=.seq (items.toList.take ai).toArray} rfl
 exact aP _ _ _ cN hy (Nat.le_refl _) eP (.bo az.cX rfl rfl ((cj.take ai).a4 hy.1 (Nat.le_refl _)))
theorem ZK(dc:bC prog w h₁ own env ns bY U dk aQ)
 (bb:aM prog w bY dk.next eb dz)(bJ:aM prog w bY dk.next gx dj)(dx:aM prog w bY dk.next oE dU)(fI:iW eb gx oE=some t8)
 (aP:du prog w h₁ (aM prog w) own env ns bY U dk s Q t8 dk):wpAny (model prog w) A (subscriptTail value (.Slice lower upper .none p) dz (.ref aQ.objs.size)) Q E {s with heap:=aQ.push {cls:=.type "slice",data:=.fields #[dj,dU,.none]},toks:=cN}:=
 have dW:=dc.j6 (h':=aQ.push {cls:=.type "slice",data:=.fields #[dj,dU,.none]}) λb o e=>Heap.get?_push_of_some _ e
 have gf:(aQ.push {cls:=.type "slice",data:=.fields #[dj,dU,.none]}).IsSliceOf aQ.objs.size dj dU .none:=Heap.IsSliceOf.new _ _ _ _
 hV.casesOn (motive:=λeb gx oE t8 _=>aM prog w bY dk.next eb dz->aM prog w bY dk.next gx dj->aM prog w bY dk.next oE dU->du prog w h₁ (aM prog w) own env ns bY U dk s Q t8 dk->wpAny (model prog w) A (subscriptTail value (.Slice lower upper .none p) dz (.ref aQ.objs.size)) Q E {s with heap:=aQ.push {cls:=.type "slice",data:=.fields #[dj,dU,.none]},toks:=cN}) (hV.of fI)
  (λ_ _ h=>ZE dW gf h) (λ_ _ h=>ZF dW gf h) (λ_ _ h=>ZH dW gf h) (λ_ _ h=>ZI dW gf h) (λ_ _ h=>ZG dW gf h) bb bJ dx aP
theorem nZ(h:bj prog w h₁ own env ns k (eval value env) D)(aG:bj prog w h₁ own env ns k (evalPart lower env) xv)(bI:bj prog w h₁ own env ns k (evalPart upper env) xx):
 bj prog w h₁ own env ns k (eval (.Subscript value (.Slice lower upper .none p) pos) env) (iF D xv xx):=
 .of λA W U σ s Q E aE ao R=>Kv (h.go aE ao.bind R λeb ct ao br dz h1 cE bA ae bu bb=>aaL (aG.go aE (aJ.bind ao) bu λgx bD ao bH dj h2 tk2 a' aK cn bJ=>bI.go aE (aJ.bind ao) cn λoE dk ao bY dU aQ cN cR bx dc dx=>by
  obtain⟨t8,fI,aP⟩:=(aJ.map ao).cv
  exact wpN.of<|ZK dc ((bb.a4 a'.1 aK).a4 cR.1 bx) (bJ.a4 cR.1 bx) dx fI λW' ay h' cI l n dA cg=>aP W' ay h' cI (((bA.trans ae a').trans (Nat.le_trans ae aK) cR).trans (Nat.le_trans ae (Nat.le_trans aK bx)) l) (Nat.le_trans ae (Nat.le_trans aK bx)) dA cg))
noncomputable def dr{dp:Type}[DecidableEq dp](es:List (dp×J))(k:dp)(v:J):List (dp×J):=
 if es.any (λe=>decide (e.1=k))=true then es.map (λe=>if e.1=k then(e.1,v) else e) else es++[(k,v)]
theorem d6.append{k:bp}(h:aM prog w W n v ay)(r:d6 prog w W n es kvs):d6 prog w W n (es++[(k,v)]) (kvs++[(k,ay)]):=
 r.ind (P:=λes kvs=>d6 prog w W n (es++[(k,v)]) (kvs++[(k,ay)])) (.cons h .nil) λa _ aX=>.cons a aX
theorem d6.aS{k:bp}(h:aM prog w W n v ay)(r:d6 prog w W n es kvs):
 d6 prog w W n (es.map λe=>if e.1=k then(e.1,v) else e) (kvs.map λe=>if e.1=k then(e.1,ay) else e)/\(es.any (λe=>decide (e.1=k))=kvs.any (λe=>decide (e.1=k))):=
 r.ind (P:=λes kvs=>d6 prog w W n (es.map λe=>if e.1=k then(e.1,v) else e) (kvs.map λe=>if e.1=k then(e.1,ay) else e)/\(es.any (λe=>decide (e.1=k))=kvs.any (λe=>decide (e.1=k)))) ⟨.nil,rfl⟩
  λ{q _ _ _ _} a _ aX=>⟨by
   rw[List.map_cons,List.map_cons]
   by_cases e:q=k
   .rw[if_pos e,if_pos e];exact .cons h aX.1
   .rw[if_neg e,if_neg e];exact .cons a aX.1,by rw[List.any_cons,List.any_cons,aX.2]⟩
theorem d6.set{k:bp}(h:aM prog w W n v ay)(q:d6 prog w W n es kvs):d6 prog w W n (dr es k v) (stored kvs k ay):=by
 obtain⟨h1,h2⟩:=q.aS h (k:=k)
 unfold dr stored
 by_cases e:es.any (λe=>decide (e.1=k))=true
 .rw[if_pos e,if_pos (by rw[<-h2];exact e)];exact h1
 .rw[if_neg e,if_neg (by rw[<-h2];exact e)];exact q.append h
theorem TRel.append{k:List bp}(hk:k' prog w W k a)(h:aM prog w W n v ay)(r:TRel prog w W n es xs):TRel prog w W n (es++[(k,v)]) (xs++[(k,a,ay)]):=
 r.ind (P:=λes xs=>TRel prog w W n (es++[(k,v)]) (xs++[(k,a,ay)])) ⟨rfl,hk,h,trivial⟩ λf g _ aX=>⟨rfl,f,g,aX⟩
theorem TRel.aS{k:List bp}(h:aM prog w W n v ay)(r:TRel prog w W n es xs):
 TRel prog w W n (es.map λe=>if e.1=k then(e.1,v) else e) (xs.map (putAt k ay))/\(es.any (λe=>decide (e.1=k))=(atKey xs k).isSome):=
 r.ind (P:=λes xs=>TRel prog w W n (es.map λe=>if e.1=k then(e.1,v) else e) (xs.map (putAt k ay))/\(es.any (λe=>decide (e.1=k))=(atKey xs k).isSome)) ⟨trivial,rfl⟩
  λ{q _ a iY es xs} f g _ aX=>by
   refine⟨?_,?_⟩
   .rw[List.map_cons,List.map_cons]
    unfold putAt
    by_cases e:q=k
    .rw[if_pos e,if_pos e];exact⟨rfl,f,h,aX.1⟩
    .rw[if_neg e,if_neg e];exact⟨rfl,f,g,aX.1⟩
   .rw[List.any_cons,aX.2]
    by_cases e:q=k
    .rw[show atKey ((q,a,iY)::xs) k=some (a,iY) by simp[atKey,e],decide_eq_true e];rfl
    .rw[show atKey ((q,a,iY)::xs) k=atKey xs k by simp[atKey,e],decide_eq_false e,Bool.false_or]
theorem TRel.set{k:List bp}(hk:k' prog w W k a)(h:aM prog w W n v ay)(q:TRel prog w W n es xs):
 TRel prog w W n (dr es k v) (storedH xs k a ay):=by
 obtain⟨h1,h2⟩:=TRel.aS h (k:=k) q
 unfold dr
 cases e:atKey xs k with
 |none=>rw[storedH_new e,if_neg (by rw[h2,e];decide)];exact q.append hk h
 |some p=>rw[storedH_old e,if_pos (by rw[h2,e];rfl)];exact h1
noncomputable def jF(o i v:J)(σ:St):Option St:=match o with
 |.ref c=>match σ.cells c with
  |some (.list vs)=>(match i with
   |.int ai=>if 0<=ai/\ai<2^63/\ai.toNat<vs.length then some (σ.aS c (.list (vs.set ai.toNat v))) else none
   |_=>none)
  |some (.cb es)=>(toAtom i).bind λk=>if es.length<=1000000 then some (σ.aS c (.cb (dr es k v))) else none
  |some (.b2 es)=>(toKey i).bind λk=>if es.length<=1000000 then some (σ.aS c (.b2 (dr es k v))) else none
  |_=>none
 |_=>none
theorem bC.lP{U:Loc}(R:bC prog w h₁ own env ns W U σ h)(aw:σ.cells c=some x)(hs:Heap.SameBut (W.al c) h h')(bB:CellAt prog w W σ.next h' c (W.al c) y):
 bC prog w h₁ own env ns W U (σ.aS c y) h':=by
 have d':=(R.bE.cell c x aw).1
 exact R.next (R.bE.lP aw hs bB) az.le.refl (Nat.le_refl _) λa ha=>hs.2 a (by rintro rfl;exact bL.no d' ha)
theorem Zu{k:Int}{v:Value}{Q:Unit->Shared->Prop}(aG:s.heap.get? l=some (listOf items n))(ah:0<=k)(GH:k<2^63)(cD:k<items.size)
 (aP:∀h' gu,h'.get? l=some (listOf (items.setIfInBounds k.toNat v) gu)->Heap.SameBut l s.heap h'->Q () {s with heap:=h'}):wpAny (model prog w) A (setItem (.ref l) (.int k t) v) Q E s:=by
 have eS:s.heap.IsList l items:=⟨_,aG,rfl,n,rfl⟩
 have aB:(listOf items n).data=.seq items n:=rfl
 unfold setItem
 try with_reducible refine wpAny_holding ?_
 first|refine wpAny_bind (wpAny_pure ?_)|skip
 refine wpAny_bind (wpAny_sequenceKey eS.typeIs (by decide) ?_)
 refine wpAny_bind (wpAny_callSpecial?_slot (name:=Str.ofString "__setitem__") eS.typeIs slot_list_setitem (wpAny_call_entry slot_list_setitem eS.typeIs entry_list_setitem ?_ (args_list_setitem _ _ _)))
 show wpAny _ _ (Builtin.List.listSubscript? (.int k t)>>=_) _ _ s
 refine wpAny_bind (wpAny_listSubscript_int (fitsIndex_of ah GH) ?_)
 clear GH
 obtain⟨ai,rfl⟩:=Int.eq_ofNat_of_zero_le ah
 have cD:ai<items.size:=by exact aC.Vw cD
 have je:items[ai]? =some items[ai]:=Array.getElem?_eq_getElem cD
 show wpAny _ _ ((seqItemAt l ai>>=λr=>pure (r.map (ai,·)))>>=_) _ _ s
 refine wpAny_bind (wpAny_bind (wpAny_seqItemAt aG aB (wpAny_pure ?_)))
 rw[je]
 show wpAny _ _ (setSeqItemAt l ai v>>=_) _ _ s
 obtain⟨gu,ee⟩:=Obj.data_mapSeq aB (·.setIfInBounds ai v)
 have e:Obj.mapSeq (·.setIfInBounds ai v) (listOf items n)=listOf (items.setIfInBounds ai v) gu:=by
  have h2:(Obj.mapSeq (·.setIfInBounds ai v) (listOf items n))={(listOf items n) with data:=(Obj.mapSeq (·.setIfInBounds ai v) (listOf items n)).data}:=rfl
  rw[h2,ee]
 have sS:(s.heap.update l (Obj.mapSeq (·.setIfInBounds ai v))).get? l=some (listOf (items.setIfInBounds ai v) gu):=by
  rw[<-e];exact Heap.get?_update_self _ aG (Obj.isFreed_of_seq ee)
 refine wpAny_bind (wpAny_setSeqItemAt aG aB ?_)
 first
  |exact wpAny_bind (wpAny_pure (wpAny_pure ⟨.none,rfl,wpAny_pure (aP _ _ sS (Heap.SameBut.update ..))⟩))
  |exact wpAny_pure ⟨.none,rfl,wpAny_pure (aP _ _ sS (Heap.SameBut.update ..))⟩
inductive o4 (o i v:J) (σ aZ:St):Prop
 |tq (c:Nat) (vs:List J) (ai:Int) (gZ:o=.ref c) (gc:i=.int ai) (aw:σ.cells c=some (.list vs)) (h:0<=ai/\ai<2^63/\ai.toNat<vs.length) (e:aZ=σ.aS c (.list (vs.set ai.toNat v)))
 |ad (c:Nat) (es:List (bp×J)) (k:bp) (gZ:o=.ref c) (aw:σ.cells c=some (.cb es)) (hk:toAtom i=some k) (h:es.length<=1000000) (e:aZ=σ.aS c (.cb (dr es k v)))
 |qb (c:Nat) (es:List (List bp×J)) (k:List bp) (gZ:o=.ref c) (aw:σ.cells c=some (.b2 es)) (hk:toKey i=some k) (h:es.length<=1000000) (e:aZ=σ.aS c (.b2 (dr es k v)))
noncomputable def Jr(x:Option c6)(c:Nat)(i v:J)(σ:St):Option St:=match x with
 |some (.list vs)=>(match i with
  |.int ai=>if 0<=ai/\ai<2^63/\ai.toNat<vs.length then some (σ.aS c (.list (vs.set ai.toNat v))) else none
  |_=>none)
 |some (.cb es)=>(toAtom i).bind λk=>if es.length<=1000000 then some (σ.aS c (.cb (dr es k v))) else none
 |some (.b2 es)=>(toKey i).bind λk=>if es.length<=1000000 then some (σ.aS c (.b2 (dr es k v))) else none
 |_=>none
theorem q5{α:Type}{d:Decidable p}{a b:α}(h:(if p then some a else none)=some b):p/\b=a:=by
 by_cases e:p
 .rw[if_pos e] at h;exact⟨e,(Option.some.inj h).symm⟩
 .rw[if_neg e] at h;exact aq h
theorem o4.fm{i v:J}(h:Jr (σ.cells c) c i v σ=some aZ):o4 (.ref c) i v σ aZ:=by
 rcases aw:σ.cells c with _|(vs|es|es|_|_)
 .rw[aw] at h;exact aq h
 .rw[aw] at h
  exact J.casesOn (motive_1:=λi=>Jr (some (.list vs)) c i v σ=some aZ->o4 (.ref c) i v σ aZ) i (λh=>aq h) (λ_ h=>aq h) (λai h=>have h:=q5 h;.tq c vs ai rfl rfl aw h.1 h.2) (λ_ h=>aq h) (λ_ h=>aq h) (λ_ h=>aq h) (λ_ h=>aq h) (λ_ h=>aq h) (λ_ _ _ h=>aq h) (λ_ h=>aq h) (λ_ h=>aq h) h
 .rw[aw] at h
  obtain⟨k,hk,h⟩:=bind_some h
  have h:=q5 h
  exact .ad c es k rfl aw hk h.1 h.2
 .rw[aw] at h
  obtain⟨k,hk,h⟩:=bind_some h
  have h:=q5 h
  exact .qb c es k rfl aw hk h.1 h.2
 .rw[aw] at h;exact aq h
 .rw[aw] at h;exact aq h
theorem o4.of(h:jF o i v σ=some aZ):o4 o i v σ aZ:=
 J.casesOn (motive_1:=λo=>jF o i v σ=some aZ->o4 o i v σ aZ) o (λh=>aq h) (λ_ h=>aq h) (λ_ h=>aq h) (λ_ h=>aq h) (λ_ h=>aq h) (λ_ h=>aq h) (λ_ h=>aq h) (λ_ h=>aq h) (λ_ _ _ h=>aq h) (λc h=>.fm h) (λ_ h=>aq h) h
theorem kn.rL{h:Heap}(m:h.DictOf (gQ prog w) a kvs):∃o,h.get? a=some o/\kn prog w o kvs:=by
 obtain⟨o,es,ep,g,l2,aB,hk,hp,aV⟩:=m;exact⟨o,g,l2,es,ep,aB,hk,hp,aV⟩
theorem nL.rL{h:Heap}(m:h.DictOfH (tupK prog w) a xs):∃o,h.get? a=some o/\nL prog w o xs:=by
 obtain⟨o,es,ep,g,l2,aB,hk,_,aV⟩:=m;exact⟨o,g,l2,es,ep,aB,hk,aV⟩
theorem pY(e:n=m)(h:m<=1000000):n<=sizeLine:=e▸Nat.le_trans h (by decide)
theorem XY{A:Around}{cO kb ay:Value}{E:Value->Shared->Prop}(bI:A.units+200<cLine)(R:bC prog w h₁ own env ns W U σ s.heap)
 (aH:aM prog w W σ.next o cO)(hi:aM prog w W σ.next i kb)(a0:aM prog w W σ.next v ay)(hp:jF o i v σ=some aZ)
 (aP:∀h' cI,aZ.next=σ.next->bC prog w h₁ own env ns W U aZ h'->Q () {s with heap:=h',toks:=cI}):wpAny (model prog w) A (setItem cO kb ay) Q E s:=by
 refine eK λG bT=>?_
 rcases o4.of hp with⟨c,vs,ai,gZ,gc,aw,ag,e⟩|⟨c,es,jA,gZ,aw,hk,aG,e⟩|⟨c,es,jA,gZ,aw,hk,aG,e⟩
 .rw[gZ] at aH
  rw[gc] at hi
  rw[e] at aP
  obtain⟨_,gZ⟩:=aH.bc
  obtain⟨t,gc⟩:=hi.bc
  obtain⟨items,m,g,q⟩:=(R.bE.cell c _ aw).2.bc
  have eI:items.size=vs.length:=by rw[<-Array.length_toList];exact q.length
  refine bT ?_
  rw[gZ,gc]
  refine Zu g ag.1 ag.2.1 (by rw[eI];exact(Int.toNat_lt ag.1).mp ag.2.2) λh' gu gS hs=>aP h' s.toks rfl (R.lP aw hs (.list gS ?_))
  rw[Array.toList_setIfInBounds]
  exact bt.set a0 _ q
 .rw[gZ] at aH
  rw[e] at aP
  obtain⟨_,gZ⟩:=aH.bc
  obtain⟨_,_,g,z,d,q⟩:=(R.bE.cell c _ aw).2.bc
  refine bT ?_
  rw[gZ]
  refine wpAny_setItem_pairs (knd:=gQ prog w) (toAtom_is hi hk) (d.bW g) (λh' hm hs=>?_) (pY q.length aG)
  obtain⟨dI,g2,fP⟩:=kn.rL hm
  exact aP h' _ rfl (R.lP aw hs (.cb g2 z fP (q.set a0)))
 .rw[gZ] at aH
  rw[e] at aP
  obtain⟨_,gZ⟩:=aH.bc
  obtain⟨a,gc,b7,pN⟩:=toKey_is R.bE hi hk
  obtain⟨_,_,g,z,d,q⟩:=(R.bE.cell c _ aw).2.bc
  refine bT ?_
  rw[gZ,gc]
  refine wpAny_setItem_heap (tupleKind_room_in1 (g' bI)) pN (d.bW g q R.bE) (λh' hm hs=>?_) (pY q.length aG)
  obtain⟨dI,g2,fP⟩:=nL.rL hm
  exact aP h' _ rfl (R.lP aw hs (.b2 g2 z fP (q.set b7 a0)))
theorem Kr
 (h:wpN M A (eval value env) (λv bh=>wpN M A (eval o env) (λiD cS=>wpN M A (eval i env) (λHg fb=>wpN M A (setItem iD Hg v) (λ_=>Q .next) E fb) E cS) E bh) E s)
 (hs:autoParam (swapsWith value (some (.Subscript o i iE)) pos.line env=pure false) aL._auto_1):wpN M A (exec (.Assign [.Subscript o i iE] value pos) env) Q E s:=by
 rw[exec_Assign_Subscript o i iE value pos hs]
 refine a5 (d0 (a5 (cy h (λv bh h₁=>a5 ?_) λ_ _ e=>e)))
 rw[assign_Subscript]
 exact a5 (dV (cy h₁ (λiD cS eh=>a5 (dV (cy eh (λHg fb gr=>a5 (d0 (a5 (dV (cy gr (λ_ _ pL=>.of (wpAny_release' (cq pL))) λ_ _ e=>e))))) λ_ _ e=>e))) λ_ _ e=>e))
noncomputable def gW(D fN oP:cW):cf:=λU σ=>(D U σ).bind λv=>(fN U v.2).bind λo=>(oP U o.2).bind λi=>(jF o.1 i.1 v.1 i.2).map λaZ=>(.next,U,aZ)
theorem ny(h:bj prog w h₁ true env ns k (eval e env) D)(aH:bj prog w h₁ true env ns k (eval o env) fN)(hi:bj prog w h₁ true env ns k (eval i env) oP)
 (hs:autoParam (swapsWith e (some (.Subscript o i iE)) pos.line env=pure false) aL._auto_1):SOk prog w h₁ env ns k (exec (.Assign [.Subscript o i iE] e pos) env) (gW D fN oP):=by
 refine .of λA W U σ s Q E aE ao R=>Kr (h.go aE ao.bind R λeb ct ao br dz h1 cE bA ae bu bb=>aH.go aE (aJ.bind ao) bu λgx bD ao bH dj h2 tk2 a' aK cn bJ=>hi.go aE (aJ.bind ao) cn λoE dk ao bY dU aQ cN cR bx dc dx=>?_) hs
 obtain⟨oL,fI,aP⟩:=(aJ.map ao).cv
 exact wpN.of<|XY (s:={s with heap:=aQ,toks:=cN}) aE.line dc (bJ.a4 cR.1 bx) dx ((bb.a4 a'.1 aK).a4 cR.1 bx) fI λh' cI en dW=>
  fT.to aP bY _ h' cI ((bA.trans ae a').trans (Nat.le_trans ae aK) cR) (by rw[en];exact Nat.le_trans ae (Nat.le_trans aK bx)) dW trivial
theorem DM{h:Heap}(aH:o={cls:=.type "dict",data:=.dict #[]})(z:(h.objs.size==sysModules)=false):CellAt prog w W n (h.push o) c h.objs.size (.cb []):=by
 subst aH
 exact .cb (Heap.get?_push_size _ rfl) z ⟨⟨rfl,rfl,rfl⟩, #[],0,rfl,λe bV=>by simp at bV,.nil,List.nodup_nil⟩ .nil
theorem Z7{h:Heap}(aH:o={cls:=.type "dict",data:=.dict #[]})(z:(h.objs.size==sysModules)=false):CellAt prog w W n (h.push o) c h.objs.size (.b2 []):=by
 subst aH
 exact .b2 (xs:=[]) (Heap.get?_push_size _ rfl) z ⟨⟨rfl,rfl,rfl⟩, #[],0,rfl,rfl,List.nodup_nil⟩ trivial
inductive iJ:c6->Prop
 |a:iJ (.cb [])
 |t:iJ (.b2 [])
theorem iJ.at(e:iJ x){h:Heap}(z:(h.objs.size==sysModules)=false):CellAt prog w W n (h.push {cls:=.type "dict",data:=.dict #[]}) c h.objs.size x:=by
 cases e
 .exact DM rfl z
 .exact Z7 rfl z
noncomputable def gp(x:c6):cW:=λ_ σ=>some (.ref σ.next,σ.new x)
theorem lk(av:iJ x):bj prog w h₁ own env ns k (eval (.Dict [] [] pos) env) (gp x):=
 .of λA W U σ s Q E aE ao R=>wpN.of<|wpAny_Dict_empty<|by
 obtain⟨cn,a'⟩:=R.cell {cls:=.type "dict",data:=.dict #[]} x rfl (av.at R.bE.fresh)
 exact du.to ao _ _ _ s.toks a' (Nat.le_succ _) cn Bi
noncomputable abbrev sg:=Loc->St->Option (List (J×J)×St)
noncomputable def DC(W:az)(n:Nat)(vs:List (J×J))(bG:List (Value×Value)):Prop:=bt prog w W n (vs.map (·.1)) (bG.map (·.1))/\bt prog w W n (vs.map (·.2)) (bG.map (·.2))
noncomputable def kh:sg:=λ_ σ=>some ([],σ)
noncomputable def gA(rV mx:cW)(P:sg):sg:=λU σ=>(rV U σ).bind λk=>(mx U k.2).bind λv=>(P U v.2).bind λr=>some ((k.1,v.1)::r.1,r.2)
noncomputable abbrev o3(prog:Program)(w:World)(h₁:Heap):=@TOk prog w h₁ (List (Value×Value)) (List (J×J)) (DC (prog:=prog) (w:=w))
theorem XF:o3 prog w h₁ own env ns k (evalPairs []) kh:=.of λA W U σ s Q E aE ao R=>cq (du.at ao R ⟨.nil,.nil⟩ s.toks)
theorem XB(hk:bj prog w h₁ own env ns k (eval AS env) rV)(a0:bj prog w h₁ own env ns k (eval B' env) mx)(aI:o3 prog w h₁ own env ns k (evalPairs rest) P):
 o3 prog w h₁ own env ns k (evalPairs ((eval AS env,do let x<-eval B' env;standAt pos;pure x)::rest)) (gA rV mx P):=by
 refine .of λA W U σ s Q E aE ao R=>?_
 unfold evalPairs
 exact a5 (hk.go aE ao.bind R λeb ct ao br dz h1 cE bA ae bu bb=>a5 (dV (a5 (a0.go aE (aJ.bind ao) bu λgx bD ao bH dj h2 tk2 a' aK cn bJ=>a5 (d0 (cq (
  a5 (dV (aI.go aE (aJ.bind ao) cn λvs dk ao bY bG aQ cN cR bx dc dx=>cq (
  du.to ao bY _ aQ cN ((bA.trans ae a').trans (Nat.le_trans ae aK) cR) (Nat.le_trans ae (Nat.le_trans aK bx)) dc ⟨.cons ((bb.a4 a'.1 aK).a4 cR.1 bx) dx.1,.cons (bJ.a4 cR.1 bx) dx.2⟩))))))))))
noncomputable def mJ(c:Nat)(i v:J)(σ:St):Option St:=match σ.cells c with
 |some (.cb es)=>(toAtom i).bind λk=>if es.length<=1000000 then some (σ.aS c (.cb (dr es k v))) else none
 |some (.b2 es)=>(toKey i).bind λk=>if es.length<=1000000 then some (σ.aS c (.b2 (dr es k v))) else none
 |_=>none
noncomputable def nY(c:Nat):List (J×J)->St->Option St
 |[],σ=>some σ
 |(i,v)::r,σ=>(mJ c i v σ).bind (nY c r)
inductive xw (c:Nat) (i v:J) (σ aZ:St):Prop
 |ad (es:List (bp×J)) (k:bp) (aw:σ.cells c=some (.cb es)) (hk:toAtom i=some k) (h:es.length<=1000000) (e:aZ=σ.aS c (.cb (dr es k v)))
 |qb (es:List (List bp×J)) (k:List bp) (aw:σ.cells c=some (.b2 es)) (hk:toKey i=some k) (h:es.length<=1000000) (e:aZ=σ.aS c (.b2 (dr es k v)))
noncomputable def OI(x:Option c6)(c:Nat)(i v:J)(σ:St):Option St:=match x with
 |some (.cb es)=>(toAtom i).bind λk=>if es.length<=1000000 then some (σ.aS c (.cb (dr es k v))) else none
 |some (.b2 es)=>(toKey i).bind λk=>if es.length<=1000000 then some (σ.aS c (.b2 (dr es k v))) else none
 |_=>none
theorem xw.of(h:mJ c i v σ=some aZ):xw c i v σ aZ:=by
 have h:OI (σ.cells c) c i v σ=some aZ:=h
 rcases aw:σ.cells c with _|(vs|es|es|_|_)
 .rw[aw] at h;exact aq h
 .rw[aw] at h;exact aq h
 .rw[aw] at h
  obtain⟨k,hk,h⟩:=bind_some h
  have h:=q5 h
  exact .ad es k aw hk h.1 h.2
 .rw[aw] at h
  obtain⟨k,hk,h⟩:=bind_some h
  have h:=q5 h
  exact .qb es k aw hk h.1 h.2
 .rw[aw] at h;exact aq h
 .rw[aw] at h;exact aq h
theorem OJ(bI:A.units+200<cLine)(R:bC prog w h₁ own env ns W U σ s.heap)
 (hi:aM prog w W σ.next i kb)(a0:aM prog w W σ.next v ay)(hp:mJ c i v σ=some aZ)
 (aP:∀h' cI,aZ.next=σ.next->bC prog w h₁ own env ns W U aZ h'->Q () {s with heap:=h',toks:=cI}):wpAny (model prog w) A (dictSet (W.al c) kb ay) Q E s:=by
 refine eK λG bT=>?_
 rcases xw.of hp with⟨es,jA,aw,hk,aG,e⟩|⟨es,jA,aw,hk,aG,e⟩
 .rw[e] at aP
  obtain⟨_,_,g,z,d,q⟩:=(R.bE.cell c _ aw).2.bc
  refine bT<|wpAny_dictSet_pairs (knd:=gQ prog w) (toAtom_is hi hk) (d.bW g) (λh' hm hs=>?_) (pY q.length aG)
  obtain⟨dI,g2,fP⟩:=kn.rL hm
  exact aP h' _ rfl (R.lP aw hs (.cb g2 z fP (q.set a0)))
 .rw[e] at aP
  obtain⟨a,gc,b7,pN⟩:=toKey_is R.bE hi hk
  obtain⟨_,_,g,z,d,q⟩:=(R.bE.cell c _ aw).2.bc
  refine bT ?_
  rw[gc]
  refine wpAny_dictSet_heap (g' (k:=0) bI) pN (d.bW g q R.bE) (λh' hm hs=>?_) (pY q.length aG)
  obtain⟨dI,g2,fP⟩:=nL.rL hm
  exact aP h' _ rfl (R.lP aw hs (.b2 g2 z fP (q.set b7 a0)))
theorem OL(bI:A.units+200<cLine):∀{bG:List (Value×Value)} {σ aZ:St} {s:Shared} {Q:Unit->Shared->Prop},bC prog w h₁ own env ns W U σ s.heap->DC (prog:=prog) (w:=w) W σ.next vs bG->nY c vs σ=some aZ->
 (∀h' cI,aZ.next=σ.next->bC prog w h₁ own env ns W U aZ h'->Q () {s with heap:=h',toks:=cI})->wpAny (model prog w) A (storeAll (W.al c) bG) Q E s:=by
 induction vs with
 |nil=>
  intro bG σ aZ s Q R r h aP
  rw[show bG=[] from List.map_eq_nil_iff.mp r.1.bc]
  rw[<-Option.some.inj h] at aP
  exact wpAny_pure (aP s.heap s.toks rfl R)
 |cons p vs aX=>
  intro bG σ aZ s Q R r h aP
  obtain⟨ct,h1,h⟩:=bind_some (show(mJ c p.1 p.2 σ).bind _=some aZ from h)
  rcases bG with _|⟨iV,bG⟩
  .exact nomatch r.1.length
  .have a:=r.1.rM
   have b:=r.2.rM
   unfold storeAll
   rw[List.forIn_cons]
   refine wpAny_bind (wpAny_bind (OJ bI R a.1 b.1 h1 λh' cI en dA=>wpAny_pure ?_))
   refine aX (s:={s with heap:=h',toks:=cI}) dA ?_ h λh2 tk2 O2 cn=>aP h2 tk2 (O2.trans en) cn
   rw[en];exact⟨a.2,b.2⟩
noncomputable def kB(x:c6)(P:sg):cW:=λU σ=>(P U (σ.new x)).bind λr=>(nY σ.next r.1 r.2).map λaZ=>(.ref σ.next,aZ)
theorem aaH(pn:h9.all (·.isSome)=true)(aG:h9.length=values.length)(ah:h9≠[])(de:h9.length<=15)
 (h:wpN (model prog w) A (evalPairs (pairTrees h9 values env pos)) (λvs bh=>wpN (model prog w) A (storeAll s.heap.objs.size vs) (λ_ cS=>Q (.ref s.heap.objs.size) cS) E bh) E
   {s with heap:=s.heap.push {cls:=.type "dict",data:=.dict #[]}}):
 wpN (model prog w) A (eval (.Dict h9 values pos) env) Q E s:=by
 have aV:=pairTrees_length h9 values env pos pn aG
 have RE:pairTrees h9 values env pos≠[]:=by
  intro bV
  rw[bV] at aV
  exact ah (List.length_eq_zero_iff.mp aV.symm)
 rw[arm_eval_Dict,zip_pairTrees h9 values env pos pn aG,dictDisplay_pairs _ RE (by rw[aV];exact aC.VE de)]
 refine a5 (d0 (a5 ?_))
 unfold subDict
 refine a5 (.of (wpAny_alloc ?_))
 refine a5 (dV ?_)
 first|refine iv (by rw[aV];exact de) ?_|refine q4 (by rw[aV];exact de) ?_
 refine a5 (cy h (λvs bh h₁=>?_) λ_ _ e=>e)
 refine dV ?_
 exact a5 (cy h₁ (λ_ cS eh=>cq (cq (cq eh))) λ_ _ e=>e)
theorem vr(av:iJ x)(h:o3 prog w h₁ own env ns k (evalPairs (pairTrees h9 values env pos)) P)
 (pn:autoParam (h9.all (·.isSome)=true) aL._auto_1)(aG:autoParam (h9.length=values.length) aL._auto_1)(ah:autoParam (h9≠[]) abz._auto_1)(de:autoParam (h9.length<=15) rS._auto_1):
 bj prog w h₁ own env ns k (eval (.Dict h9 values pos) env) (kB x P):=by
 refine .of λA W U σ s Q E aE ao R=>aaH pn aG ah de<|eK λG bT=>?_
 obtain⟨gi,iw⟩:=R.cell {cls:=.type "dict",data:=.dict #[]} x rfl (av.at R.bE.fresh)
 refine bT<|h.go (s:={s with heap:=s.heap.push {cls:=.type "dict",data:=.dict #[]}}) aE ao.bind gi λvs ct ao br bG h1 cE bA ae bu bb=>?_
 obtain⟨bD,a7,ao⟩:=(aJ.map ao).cv
 have OZ:br.al σ.next=s.heap.objs.size:=(bA.1.2 _ (Nat.lt_succ_self _)).trans (if_pos rfl)
 rw[<-OZ]
 exact wpN.of<|OL (s:={s with heap:=h1,toks:=cE}) aE.line bu bb a7 λh' cI en cn=>
  du.to ao br _ h' cI (iw.trans (Nat.le_succ _) bA) (by rw[en];exact Nat.le_trans (Nat.le_succ _) ae) cn (.ref (by rw[en];exact ae))
theorem Ky
 (h:wpN M A (spliced ((false,x)::rest)) (λvs aY=>Q ⟨vs,[]⟩ aY) E s):wpN M A (evalArgs f true ((false,x)::rest) []) Q E s:=rO h
noncomputable def qt(prog:Program)(w:World)(h₁:Heap)(T:String)(iO:J->St->Bool):Prop:=
 ∀(W:az) (σ:St) (v:J) (ay:Value) (s:Shared),iO v σ=true->bw prog w h₁ W σ s.heap->aM prog w W σ.next v ay->s.TypeIs ay T/\∀a,ay=.ref a->∃ob,s.heap.get? a=some ob/\ob.dict=none
noncomputable def dD(iO:J->St->Bool)(F:bX)(fN:cW)(ei:k4):cW:=λU σ=>(fN U σ).bind λr=>if iO r.1 r.2=true then(ei U r.2).bind λq=>F (r.1::q.1) q.2 else none
theorem gE{T id:String}{args:List Expr}(BH:PlainAttrs T)(slot:PySem.Slot T name id)(AE:typeOf (.builtin id)=pure (.type "method_descriptor"))(hT:qt prog w h₁ T iO)
 (aH:bj prog w h₁ own env ns k (eval o env) fN)(ha:k5 prog w h₁ own env ns k (spliced (backTo pos (starEach args env))) ei)(gz:OpOk prog w h₁ k (λvs=>call (.builtin id) vs) F)
 (mW:autoParam (attributeBase o name env (eval o env)=eval o env) aL._auto_1)
 (pB:autoParam (((backTo pos (starEach args env)).all (λx=> !x.1)&&(backToKw pos (keywordEach [] env)).all (λx=>x.1.isSome)
   &&decide (args.length+([]:List Keyword).length+(if([]:List Keyword).isEmpty then 0 else 1)<30))=true) aL._auto_1)
 (m2:autoParam ((i6.endLine==pos.line)=true) aL._auto_1)(pF:autoParam ((backTo pos (starEach args env)).any (·.1)=false) aL._auto_1)
 (Ab:∀(A:Around) (s:Shared) (Q:Args->Shared->Prop) (E:Value->Shared->Prop),wpN (model prog w) A (spliced (backTo pos (starEach args env))) (λvs aY=>Q ⟨vs,[]⟩ aY) E s->wpN (model prog w) A (evalArgs (.builtin id) true (backTo pos (starEach args env)) []) Q E s:=by
   exactλ_ _ _ _ h=>Ky h):
 bj prog w h₁ own env ns k (eval (.Call (.Attribute o name i6) args [] pos) env) (dD iO F fN ei):=by
 refine .of λA W U σ s Q E aE ao R=>Ks mW pB m2 rfl (aH.go aE ao.bind R λeb ct ao br dz h1 cE bA ae bu bb=>?_)
 obtain⟨aw,ao⟩:=aJ.fR ao
 obtain⟨nC,eG⟩:=hT br ct eb dz {s with heap:=h1,toks:=cE} aw bu.bE bb
 exact⟨T,id,BH,slot,AE,nC,eG,rN rfl pF (Ab _ _ _ _ (ha.go aE (aJ.bind ao) bu λvs bD ao bH bG h2 tk2 a' aK cn bJ=>
  cn.lM (s:={s with heap:=h2,toks:=tk2}) gz aE ao (.cons (bb.a4 a'.1 aK) bJ) λv aZ c=>c.then (bA.trans ae a') (Nat.le_trans ae aK)))⟩
noncomputable def dT:J->St->Bool
 |.ref c,σ=>match σ.cells c with|some (.list _)=>true|_=>false
 |_,_=>false
noncomputable def pO:J->St->Bool:=λv σ=>(f7 v σ).isSome
noncomputable def tf:J->St->Bool:=λv σ=>(f3 v σ).isSome
noncomputable def tg:J->St->Bool
 |.bk _,_=>true
 |_,_=>false
noncomputable def v7:J->St->Bool
 |.bytes _,_=>true
 |_,_=>false
theorem Sl(h:dT v σ=true):∃c vs,v=.ref c/\σ.cells c=some (.list vs):=
 J.casesOn (motive_1:=λv=>dT v σ=true->∃c vs,v=.ref c/\σ.cells c=some (.list vs)) v (λh=>cM h) (λ_ h=>cM h) (λ_ h=>cM h) (λ_ h=>cM h) (λ_ h=>cM h) (λ_ h=>cM h) (λ_ h=>cM h) (λ_ h=>cM h) (λ_ _ _ h=>cM h) (λc h=>by
  have h:(match σ.cells c with|some (.list _)=>true|_=>false)=true:=h
  rcases aw:σ.cells c with _|(vs|_|_|_|_)
  .rw[aw] at h;exact cM h
  .exact⟨c,vs,rfl,aw⟩
  .rw[aw] at h;exact cM h
  .rw[aw] at h;exact cM h
  .rw[aw] at h;exact cM h
  .rw[aw] at h;exact cM h) (λ_ h=>cM h) h
theorem iX:qt prog w h₁ "list" dT:=by
 intro W σ v ay s aw R a0
 obtain⟨c,vs,fU,hs⟩:=Sl aw
 rw[fU] at a0
 obtain⟨_,e⟩:=a0.bc
 obtain⟨items,m,g,q⟩:=(R.cell c _ hs).2.bc
 rw[e]
 exact⟨⟨_,g,rfl⟩,λa e=>Value.ref.inj e▸⟨_,g,rfl⟩⟩
theorem B6:qt prog w h₁ "dict" pO:=by
 intro W σ v ay s aw R a0
 obtain⟨es,bV⟩:=Option.isSome_iff_exists.mp aw
 obtain⟨l,kvs,e,z,d,q⟩:=mD R a0 bV
 rw[e]
 exact⟨d.typeIs,d.mapOf.noDict⟩
theorem Z3:qt prog w h₁ "dict" tf:=by
 intro W σ v ay s aw R a0
 obtain⟨es,bV⟩:=Option.isSome_iff_exists.mp aw
 obtain⟨l,kvs,e,z,d,q⟩:=mn R a0 bV
 rw[e]
 refine⟨d.typeIs,λa e=>?_⟩
 rw[<-Value.ref.inj e]
 obtain⟨o,_,_,g,x,_⟩:=d
 exact⟨o,g,x.2.1⟩
theorem J5:qt prog w h₁ "tuple" tg:=λW σ v ay s aw R a0=>
 aM.casesOn (motive_1:=λv ay _=>tg v σ=true->s.TypeIs ay "tuple"/\∀a,ay=.ref a->∃ob,s.heap.get? a=some ob/\ob.dict=none) a0 (λh=>cM h) (λ_ h=>cM h) (λ_ _ h=>cM h) (λ_ _ h=>cM h) (λ_ _ h=>cM h)
  (λr _ _=>⟨⟨_,R.imm _ _ r,rfl⟩,λa e=>Value.ref.inj e▸⟨_,R.imm _ _ r,rfl⟩⟩) (λ_ _ _ _ h=>cM h) (λ_ _ _ _ h=>cM h) (λ_ h=>cM h) (λ_ h=>cM h) (λ_ h=>cM h) aw
theorem Z2:qt prog w h₁ "bytes" v7:=λW σ v ay s aw R a0=>
 aM.casesOn (motive_1:=λv ay _=>v7 v σ=true->s.TypeIs ay "bytes"/\∀a,ay=.ref a->∃ob,s.heap.get? a=some ob/\ob.dict=none) a0 (λh=>cM h) (λ_ h=>cM h) (λ_ _ h=>cM h) (λ_ _ h=>cM h) (λ_ _ _=>⟨typeIs_bytes _ _ _,λa e=>nomatch e⟩)
  (λ_ _ h=>cM h) (λ_ _ _ _ h=>cM h) (λ_ _ _ _ h=>cM h) (λ_ h=>cM h) (λ_ h=>cM h) (λ_ h=>cM h) aw
noncomputable def e2:bX
 |[.ref c,v],σ=>match σ.cells c with
  |some (.list vs)=>if vs.length<=1000000 then some (.none,σ.aS c (.list (vs++[v]))) else none
  |_=>none
 |_,_=>none
theorem c6.AZ{α:Type}{x:Option c6}{f:List J->Option α}{y:α}(e:(match x with|some (.list vs)=>f vs|_=>none)=some y):∃vs,x=some (.list vs)/\f vs=some y:=by
 rcases x with _|(vs|_|_|_|_)
 .exact aq e
 .exact⟨vs,rfl,e⟩
 .exact aq e
 .exact aq e
 .exact aq e
 .exact aq e
theorem Hd{α bR:Type}{d:Decidable p}{a:α}{b:bR}{bq:α}{bP:bR}(h:(if p then some (a,b) else none)=some (bq,bP)):p/\bq=a/\bP=b:=by
 obtain⟨h,e⟩:=q5 h
 exact⟨h,(Prod.mk.inj e).1,(Prod.mk.inj e).2⟩
theorem ki:OpOk prog w h₁ k (λvs=>call (.builtin "list.append") vs) e2:=
 .fm λW σ a bq r cg bO aI=>.ref (λa=>a::r) (λa=>a::cg) bO λc bq bO=>.more (λr=>_::r) (λr=>_::r) aI λx dC q dE cK bZ=>.end (λq=>_::x::q) (λq=>_::dC::q) bZ λA s Q E aE aW R=>wpN.of<|eK λG bT=>by
 obtain⟨v,aZ,e,aW⟩:=aW.cv
 obtain⟨vs,aw,e⟩:=c6.AZ (f:=λvs=>if vs.length<=1000000 then some (J.none,σ.aS c (.list (vs++[x]))) else none) e
 obtain⟨aG,a8,a7⟩:=Hd e
 rw[a8,a7] at aW
 obtain⟨_,ed⟩:=bO.bc
 obtain⟨items,n,g,q⟩:=(R.cell c _ aw).2.bc
 refine bT ?_
 rw[ed]
 refine call_meets PySem.F.slot_list_append ⟨_,g,rfl⟩ PySem.F.entry_list_append (PySem.F.args_list_append_2 _ _) (list_append (W.al c) items n dC (pY ((Array.length_toList (xs:=items)).symm.trans q.length) aG)) ⟨g,?_⟩
 exact c7.to aW W _ _ s.toks az.le.refl (Nat.le_refl _) (R.lP aw (Heap.SameBut.update ..) (.list (IsL.update g (λxs=>xs.push dC)) (by rw[Array.toList_push];exact q.append (bt.rx cK)))) .none
theorem SV(l:Addr)(items:Array Value)(n:Nat)(b:Addr)(dY:Array Value)(aK:Nat)(lh:Option Addr)(kX:Array (Option Value))(abQ:¬(!items.isEmpty&&Builtin.List.listTooLong (items.size+dY.size))=true)(z5:items.size<=sizeLine)(Az:items.size+dY.size<=sizeLine+1):
 Meets (Builtin.«list.extend» ⟨[.ref l,.ref b],[]⟩) (λ_ R s=>s.heap.get? l=some {cls:=.type "list",dict:=none,data:=.seq items n,slots:= #[]}/\s.heap.get? b=some {cls:=.type "list",dict:=lh,data:=.seq dY aK,slots:=kX}/\R (.ok (.ret Value.none)) {s with heap:=s.heap.update l (Obj.mapSeq λx=>x++dY),toks:=s.toks}):=
 .of_wp λprog w A R s h=>by
  obtain⟨hp,g,d,b7,os⟩:=s;obtain⟨aG,ag,h⟩:=h;have f1:=AutoSeq1.idx_int;have f2:=AutoSeq1.sub_tuple_tuple;have n1:=AutoSeq1.sub_list_list;have vt:=AutoSeq1.sub_tuple_list;have sD:=AutoSeq1.sub_list_tuple
  have R2:(items++dY).size<=sizeLine+1:=by rw[Array.size_append];exact Az
  wp_walk using(wpAny_updateSeq aG rfl (hz:=z5) (_hz':=R2)),AutoSeq1.wpAny_loadPart' aG,AutoSeq1.wpAny_loadPart' ag;exact⟨_,rfl,h⟩
noncomputable def mN:bX
 |[.ref c,x],σ=>match σ.cells c with
  |some (.list vs)=>(match x with
   |.bo cB=>if vs.length+cB.length<=1000000 then some (.none,σ.aS c (.list (vs++cB))) else none
   |_=>none)
  |_=>none
 |_,_=>none
theorem O'{x v:J}{σ aZ:St}(h:(match x with|.bo cB=>if vs.length+cB.length<=1000000 then some (J.none,σ.aS c (.list (vs++cB))) else none|_=>none)=some (v,aZ)):
 ∃cB,x=.bo cB/\vs.length+cB.length<=1000000/\v=.none/\aZ=σ.aS c (.list (vs++cB)):=by
 rcases x with _|_|_|_|_|_|cB|_|_|_|_
 .exact aq h
 .exact aq h
 .exact aq h
 .exact aq h
 .exact aq h
 .exact aq h
 .obtain⟨aG,a8,a7⟩:=Hd h;exact⟨cB,rfl,aG,a8,a7⟩
 .exact aq h
 .exact aq h
 .exact aq h
 .exact aq h
theorem Io:OpOk prog w h₁ k (λvs=>call (.builtin "list.extend") vs) mN:=
 .fm λW σ a bq r cg bO aI=>.ref (λa=>a::r) (λa=>a::cg) bO λc bq bO=>.more (λr=>_::r) (λr=>_::r) aI λx dC q dE cK bZ=>.end (λq=>_::x::q) (λq=>_::dC::q) bZ λA s Q E aE aW R=>wpN.of<|eK λG bT=>by
 obtain⟨v,aZ,e,aW⟩:=aW.cv
 obtain⟨vs,aw,e⟩:=c6.AZ (f:=λvs=>match x with|.bo cB=>if vs.length+cB.length<=1000000 then some (J.none,σ.aS c (.list (vs++cB))) else none|_=>none) e
 obtain⟨cB,mM,aG,a8,a7⟩:=O' e
 rw[a8,a7] at aW
 rw[mM] at cK
 obtain⟨_,ed⟩:=bO.bc
 obtain⟨b,dY,e4,⟨⟨Es,yY,data2,B1⟩,pE,n9,aK,sQ⟩,b8⟩:=gH R cK rfl
 obtain⟨items,n,g,q⟩:=(R.cell c _ aw).2.bc
 have n9:Es=.type "list":=n9
 have sQ:data2=.seq dY aK:=sQ
 rw[n9,sQ] at pE
 have eI:items.size=vs.length:=by rw[<-Array.length_toList];exact q.length
 have E2:dY.size=cB.length:=by rw[<-Array.length_toList];exact b8.length
 have hz:items.size+dY.size<=sizeLine:=by rw[eI,E2];exact rk aG
 refine bT ?_
 rw[ed,e4]
 refine call_meets PySem.F.slot_list_extend ⟨_,g,rfl⟩ PySem.F.entry_list_extend (PySem.F.args_list_extend_2 _ _) (SV (W.al c) items n b dY aK yY B1 ?_ (Nat.le_trans (Nat.le_add_right _ _) hz) (Nat.le_succ_of_le hz)) ⟨g,pE,?_⟩
 .have:Builtin.List.listTooLong (items.size+dY.size)=false:=by
   rw[eI,E2];unfold Builtin.List.listTooLong;simp;unfold sizeLine;omega
  rw[this,Bool.and_false];exact Bool.false_ne_true
 .exact c7.to aW W _ _ s.toks az.le.refl (Nat.le_refl _) (R.lP aw (Heap.SameBut.update ..) (.list (IsL.update g (λxs=>xs++dY)) (by rw[Array.toList_append];exact q.append b8))) .none
noncomputable def n4:bX
 |[d,i],σ=>(f7 d σ).bind λes=>(toAtom i).map λk=>((dP es k).getD .none,σ)
 |_,_=>none
theorem Bo:OpOk prog w h₁ k (λvs=>call (.builtin "dict.get") vs) n4:=
 .fm λW σ d hX r cg lO aI=>.more (λr=>d::r) (λr=>hX::r) aI λi kb q dE BP bZ=>.end (λq=>d::i::q) (λq=>hX::kb::q) bZ λA s Q E aE aW R=>wpN.of<|eK λG bT=>by
 obtain⟨es,mY,aW⟩:=(aJ.gR aW).cv
 obtain⟨a,ja,aW⟩:=(aJ.map aW).cv
 obtain⟨l,kvs,e,z,lh,q⟩:=mD R lO mY
 refine bT ?_
 rw[e]
 refine call_meetsIn PySem.F.slot_dict_get lh.typeIs PySem.F.entry_dict_get (PySem.F.args_dict_get_2 _ _) (meets_dict_get (gQ prog w) l (toAtom_is BP ja) z) ⟨_,lh.mapOf,?_⟩
 rcases q.at a with⟨h1,h2⟩|⟨v,ay,h1,h2,aQ⟩
 .rw[h1] at aW;rw[h2];exact c7.at aW R .none _
 .rw[h1] at aW;rw[h2];exact c7.at aW R aQ _
noncomputable def vG:bX
 |[d,i,x],σ=>(f3 d σ).bind λes=>(toKey i).map λk=>((dP es k).getD x,σ)
 |_,_=>none
theorem T1:OpOk prog w h₁ k (λvs=>call (.builtin "dict.get") vs) vG:=
 .fm λW σ d hX r cg lO aI=>.more (λr=>d::r) (λr=>hX::r) aI λi kb q dE BP bZ=>.more (λq=>d::i::q) (λq=>hX::kb::q) bZ λx dC p iV eB hp=>.end (λp=>d::i::x::p) (λp=>hX::kb::dC::p) hp λA s Q E aE aW R=>wpN.of<|eK λG bT=>by
 obtain⟨es,mY,aW⟩:=(aJ.gR aW).cv
 obtain⟨a,ja,aW⟩:=(aJ.map aW).cv
 obtain⟨l,xs,e,z,lh,q⟩:=mn R lO mY
 obtain⟨u9,gc,_,hk⟩:=toKey_is R BP ja
 refine bT ?_
 rw[e,gc]
 refine call_meetsIn PySem.F.slot_dict_get lh.typeIs PySem.F.entry_dict_get (PySem.F.args_dict_get_3 _ _ _) (meetsH_dict_get_default (tupK prog w) l u9 z dC) ⟨g' (k:=1) aE.line,_,_,hk,lh,?_⟩
 rcases q.at a with⟨h1,h2⟩|⟨v,bq,ay,h1,h2,aQ⟩
 .rw[h1] at aW;rw[h2];exact c7.at aW R eB _
 .rw[h1] at aW;rw[h2];exact c7.at aW R aQ _
theorem Kk(hf:∀a fo b v r bJ,aM prog w W n a v->aM prog w W n fo v->f a b=some r->f fo b=some bJ->r=bJ)
 (cj:bt prog w W n as vs)(b8:bt prog w W n i7 vs)(h:hF f as bg=some r)(h2:hF f i7 bg=some bJ):r=bJ:=
 veqs_ind (P:=λas bg r=>∀i7 bJ vs,bt prog w W n as vs->bt prog w W n i7 vs->hF f i7 bg=some bJ->r=bJ)
  (λbg i7 bJ vs cj b8 h2=>by
    rw[show vs=_ from cj.bc] at b8
    have e:=List.length_eq_zero_iff.mp b8.length.symm
    rw[e] at h2
    exact Option.some.inj h2)
  (λa as i7 bJ vs _ _ h2=>by
    cases i7 with
    |nil=>exact Option.some.inj h2
    |cons _ _=>exact Option.some.inj h2)
  (λa as b bg x y av _ aX i7 bJ vs cj b8 h2=>by
    obtain⟨v,bG,e,fO,fo⟩:=cj.bc
    rw[e] at b8
    cases i7 with
    |nil=>exact nomatch b8.length
    |cons c hr=>
     obtain⟨dR,AF,h2⟩:=bind_some (show(f c b).bind _=some bJ from h2)
     obtain⟨nG,jy,h2⟩:=Option.map_eq_some_iff.mp h2
     rw[<-h2,hf _ _ _ _ _ _ fO b8.rM.1 av AF,aX _ _ _ fo b8.rM.2 jy]) as bg r h i7 bJ vs cj b8 h2
noncomputable def qI:Value->Option J
 |.none=>some .none
 |.bool b=>some (.bool b)
 |.int i _=>some (.int i)
 |.str x _=>some (.str x)
 |.bytes x _=>some (.bytes x.toList)
 |_=>none
theorem EJ(h:aM prog w W n a v):qI v=some a\/(∃l,v=.ref l)\/∃x,a=.bS x:=
 aM.casesOn (motive_1:=λa v _=>qI v=some a\/(∃l,v=.ref l)\/∃x,a=.bS x) h (.inl rfl) (λ_=>.inl rfl) (λ_ _=>.inl rfl) (λ_ _=>.inl rfl) (λ_ _=>.inl rfl) (λ_ _=>.inr (.inl ⟨_,rfl⟩)) (λ_ _ _ _=>.inr (.inl ⟨_,rfl⟩)) (λ_ _ _ _=>.inr (.inl ⟨_,rfl⟩)) (λ_=>.inr (.inl ⟨_,rfl⟩)) (λ_=>.inr (.inl ⟨_,rfl⟩)) (λ_=>.inr (.inr ⟨_,rfl⟩))
noncomputable def RefV(prog:Program)(w:World)(f:J->J->Option Bool)(W:az)(n:Nat)(l:Addr)(b:J)(r:Bool):Prop:=(∃as bg items k y,b=.bk bg/\W.role l=.imm (t7 items k)/\bt prog w W n as items.toList/\hF f as bg=some y/\r=(y&&decide (as.length=bg.length)))\/
 (∃as bg o items k,b=.bo bg/\W.role l=.imm o/\o.data=.seq items k/\bt prog w W n as items.toList/\((as.length=bg.length/\hF f as bg=some r)\/(¬as.length=bg.length/\r=false)))
noncomputable def v8:Value->Bool
 |.ref _=>true
 |_=>false
theorem Il{P:Prop}(e:Value.ref l=v)(h:autoParam (v8 v=false) aL._auto_1):P:=wG ((congrArg v8 e).trans h)
theorem tB{α:Type}{v:α->Value}{P:Prop}(e:∃a,Value.ref l=v a)(h:autoParam (∀a,v8 (v a)=false) d5._auto_1):P:=e.elim λa e=>wG ((congrArg v8 e).trans (h a))
theorem Ca{W:az}{n:Nat}(ha:aM prog w W n a (.ref l))(h:lQ f a b=some r):
 RefV prog w f W n l b r:=
 e1.casesOn (motive:=λa b r _=>aM prog w W n a (.ref l)->RefV prog w f W n l b r) (e1.of h)
  (λha=>Il ha.bc) (λ_ _ ha=>Il ha.bc) (λ_ _ ha=>tB ha.bc) (λ_ _ ha=>tB ha.bc) (λ_ _ ha=>tB ha.bc) (λ_ _ ha=>tB ha.bc) (λ_ _ ha=>tB ha.bc)
  (λas bg y bB ha=>by obtain⟨l',i,k,bb,q,e⟩:=ha.bc;exact .inl ⟨as,bg,i,k,y,rfl,Value.ref.inj e▸bb,q,bB,rfl⟩)
  (λas bg y aG bB ha=>by obtain⟨l',o,i,k,bb,_,d,q,e⟩:=ha.bc;exact .inr ⟨as,bg,o,i,k,rfl,Value.ref.inj e▸bb,d,q,.inl ⟨aG,bB⟩⟩)
  (λas bg aG ha=>by obtain⟨l',o,i,k,bb,_,d,q,e⟩:=ha.bc;exact .inr ⟨as,bg,o,i,k,rfl,Value.ref.inj e▸bb,d,q,.inr ⟨aG,rfl⟩⟩) ha
theorem aaq(d:Nat):∀a fo b v r bJ,aM prog w W n a v->aM prog w W n fo v->cT d a b=some r->cT d fo b=some bJ->r=bJ:=by
 induction d with
 |zero=>exactλ_ _ _ _ _ _ _ _ h=>aq h
 |succ d aX=>
  intro a fo b v r bJ ha vM h h2
  rcases EJ ha with e|⟨l,e⟩|⟨x,e⟩
  .rcases EJ vM with a7|⟨l,a7⟩|⟨x,a7⟩
   .rw[Option.some.inj (e.symm.trans a7)] at h;exact Option.some.inj (h.symm.trans h2)
   .rw[a7] at e;exact aq e
   .rw[a7] at h2;exact aq h2
  .rw[e] at ha vM
   rcases Ca ha h with⟨as,bg,i,k,y,e4,aE,q,bB,h3⟩|⟨as,bg,o,i,k,e4,aE,rp,q,bB⟩
   .rcases Ca vM h2 with⟨i7,yN,eL,fX,nG,pa,rF,b8,jy,y6⟩|⟨i7,yN,dI,eL,fX,pa,rF,Bt,b8,jy⟩
    .rw[<-(Data.seq.inj (congrArg Obj.data (bL.td aE rF))).1] at b8
     rw[<-J.bk.inj (e4.symm.trans pa)] at jy y6
     rw[h3,y6,Kk aX q b8 bB jy,<-q.length,<-b8.length]
    .exact nomatch e4.symm.trans pa
   .rcases Ca vM h2 with⟨i7,yN,eL,fX,nG,pa,rF,b8,jy,y6⟩|⟨i7,yN,dI,eL,fX,pa,rF,Bt,b8,jy⟩
    .exact nomatch e4.symm.trans pa
    .rw[<-bL.td aE rF,rp] at Bt
     rw[<-(Data.seq.inj Bt).1] at b8
     rw[<-J.bo.inj (e4.symm.trans pa),<-b8.length,q.length] at jy
     rcases bB with⟨aG,bB⟩|⟨aG,bB⟩
     .rcases jy with⟨_,jy⟩|⟨mZ,_⟩
      .exact Kk aX q b8 bB jy
      .exact absurd aG mZ
     .rcases jy with⟨mZ,_⟩|⟨_,jy⟩
      .exact absurd mZ aG
      .rw[bB,jy]
  .rw[e] at h;exact aq h
noncomputable def nT(x:J):List J->Option Nat
 |[]=>some 0
 |y::r=>(cT 8 y x).bind λa=>(nT x r).map λn=>if a=true then n+1 else n
theorem Ny{A:Around}(R:bw prog w h₁ W σ s.heap)(bI:A.units+200<cLine)(eB:aM prog w W σ.next x dC)
 (bV:∀y f5 r,aM prog w W σ.next y f5->cT 8 y x=some r->e f5=r){bG:List Value}{n:Nat}(q:bt prog w W σ.next vs bG)(h:nT x vs=some n):(∀y,y∈bG->EqAt A.in1 s y dC (e y))/\bG.countP e=n:=
 q.ind (P:=λvs bG=>∀n,nT x vs=some n->(∀y,y∈bG->EqAt A.in1 s y dC (e y))/\bG.countP e=n) (λn h=>⟨List.forall_mem_nil _,Option.some.inj h⟩) (λ{y f5 _ _} a _ aX n h=>by
  obtain⟨r,aI,h⟩:=bind_some (show(cT 8 y x).bind _=some n from h)
  obtain⟨m,hm,h⟩:=Option.map_eq_some_iff.mp h
  obtain⟨h1,h2⟩:=aX m hm
  have h3:=bV _ _ _ a aI
  refine⟨List.forall_mem_cons.mpr ⟨?_,h1⟩,?_⟩
  .rw[h3];exact qd R 8 A.in1 (g' (k:=9) bI) _ _ _ _ _ a eB aI
  .rw[List.countP_cons,h2,h3,<-h];cases r<;>rfl) n h
noncomputable def vi:bX
 |[.ref c,x],σ=>(eW (.ref c) σ).bind λvs=>(nT x vs).map λ(m:Nat)=>(J.int (m:Int),σ)
 |_,_=>none
open Classical in
theorem NL{A:Around}(R:bw prog w h₁ W σ s.heap)(aE:eC A k){n:Nat}(bO:aM prog w W σ.next a bq)(cK:aM prog w W σ.next x dC)(a0:eW a σ=some vs)(aV:nT x vs=some n)
 (aP:∀b7,Q (.int n b7) {s with toks:=s.toks+1}):wpAny (model prog w) A (call (.builtin "list.count") [bq,dC]) Q E s:=by
 obtain⟨l,items,e,pj,q⟩:=gH R bO a0
 obtain⟨⟨cls,lh,data,kX⟩,aH,aw,m,aB⟩:=pj
 cases aw;cases aB
 obtain⟨h1,h2⟩:=Ny (A:=A) R aE.line cK (e:=λf5=>decide (∃y,aM prog w W σ.next y f5/\cT 8 y x=some true)) (λy f5 r aI e=>by
  cases r with
  |true=>exact decide_eq_true ⟨y,aI,e⟩
  |false=>exact decide_eq_false λ⟨nG,qZ,a7⟩=>Bool.false_ne_true (aaq _ _ _ _ _ _ _ aI qZ e a7)) q aV
 rw[e]
 refine call_meets PySem.F.slot_list_count ⟨_,aH,rfl⟩ PySem.F.entry_list_count (PySem.F.args_list_count_2 _ _) (list_countAt l items m lh kX dC _) ⟨aH,λy bB=>h1 y (Array.mem_toList_iff.mpr bB),?_⟩
 rw[h2]
 exact aP _
theorem TX:OpOk prog w h₁ k (λvs=>call (.builtin "list.count") vs) vi:=
 .fm λW σ a bq r cg bO aI=>.ref (λa=>a::r) (λa=>a::cg) bO λc bq bO=>.more (λr=>_::r) (λr=>_::r) aI λb bP q dE cK bZ=>.end (λq=>_::_::q) (λq=>_::_::q) bZ λA s Q E aE aW R=>wpN.of<|by
 obtain⟨vs,a0,aW⟩:=(aJ.gR aW).cv
 obtain⟨n,aV,aW⟩:=(aJ.map aW).cv
 exact NL R aE bO cK a0 aV λb7=>c7.at aW R (.int _ _) _
theorem aag(l:Addr)(items:Array Value)(n:Nat)(x:Value)(ai:Nat)(cD:ai<items.size):
 Meets (Builtin.«tuple.index» ⟨[.ref l,x],[]⟩)
  (λA R s=>s.heap.get? l=some {cls:=.type "tuple",dict:=none,data:=.seq items n,slots:= #[]}/\(∀m (hm:m<items.size),m<=ai->EqAt A.in1 s items[m] x (m==ai))/\R (.ok (.ret (.int ai s.toks))) {s with toks:=s.toks+1}):=
 .of_wp λprog w A R s h=>by
  obtain⟨hp,g,d,b7,os⟩:=s;obtain⟨aG,bV,h⟩:=h
  wp_walk using AutoSeq1.wpAny_loadPart' aG,zQ _ (λi b aY=>b.1=none/\aY=⟨hp,g,d,b7,os⟩/\i<=ai) _ _
  case turn=>
   rintro i b aY hi ⟨ag,rfl,sU⟩
   have df:i<items.size:=by simpa using hi
   rw[Array.getElem?_eq_getElem df]
   refine wpAny_bind (bV i df sU prog w _ _ ?_)
   by_cases e:i=ai
   .subst e
    rw[beq_self_eq_true]
    wp_walk
    exact⟨_,rfl,h⟩
   .rw[beq_eq_false_iff_ne.mpr e]
    wp_walk
    exact⟨rfl,rfl,by exact aC.VN sU e⟩
  case cA=>
   rintro b aY ⟨ag,rfl,sU⟩
   have:min items.size items.size=items.size:=Nat.min_self _
   rw[this] at sU
   exact(aC.I2 cD sU).elim
  case h=>exact⟨rfl,rfl,Nat.zero_le _⟩
noncomputable def vZ(x:J):List J->Option Nat
 |[]=>none
 |y::r=>(cT 8 y x).bind λa=>if a=true then some 0 else(vZ x r).map λn=>n+1
theorem Sa:∀{ai:Nat},vZ x vs=some ai->ai<vs.length/\∀(m:Nat) y,vs[m]? =some y->m<=ai->cT 8 y x=some (m==ai):=
 List.rec (motive:=λvs=>∀{ai:Nat},vZ x vs=some ai->ai<vs.length/\∀(m:Nat) y,vs[m]? =some y->m<=ai->cT 8 y x=some (m==ai)) (λh=>aq h) (λy r aX ai h=>by
  obtain⟨a,ha,h⟩:=bind_some (show(cT 8 y x).bind _=some ai from h)
  cases a with
  |true=>
   rw[<-Option.some.inj h]
   refine⟨Nat.zero_lt_succ _,λm z hz hm=>?_⟩
   rw[Nat.le_zero.mp hm] at hz⊢
   rw[<-Option.some.inj hz];exact ha
  |false=>
   obtain⟨n,aV,h⟩:=Option.map_eq_some_iff.mp h
   obtain⟨h1,h2⟩:=aX aV
   rw[<-h]
   refine⟨Nat.succ_lt_succ h1,λm z hz hm=>?_⟩
   cases m with
   |zero=>rw[<-Option.some.inj hz];exact ha
   |succ m=>rw[h2 m z hz (Nat.le_of_succ_le_succ hm)];exact congrArg some (Bool.eq_iff_iff.mpr ⟨λe=>beq_iff_eq.mpr (congrArg Nat.succ (beq_iff_eq.mp e)),λe=>beq_iff_eq.mpr (Nat.succ.inj (beq_iff_eq.mp e))⟩)) vs
noncomputable def v3:bX
 |[.bk vs,x],σ=>(vZ x vs).map λ(ai:Nat)=>(J.int (ai:Int),σ)
 |_,_=>none
theorem Iq:OpOk prog w h₁ k (λvs=>call (.builtin "tuple.index") vs) v3:=
 .fm λW σ a bq r cg bO aI=>.bk (λa=>a::r) (λa=>a::cg) bO λvs bq bO=>.more (λr=>_::r) (λr=>_::r) aI λx bP q dE cK bZ=>.end (λq=>_::_::q) (λq=>_::_::q) bZ λA s Q E aE aW R=>wpN.of<|by
 obtain⟨ai,cD,aW⟩:=(aJ.map aW).cv
 obtain⟨l,items,m,e,bb,cx,cj⟩:=bO.jL R
 obtain⟨h1,h2⟩:=Sa cD
 have eI:items.size=vs.length:=by rw[<-Array.length_toList];exact cj.length
 rw[e]
 refine call_meets PySem.F.slot_tuple_index ⟨_,cx,rfl⟩ PySem.F.entry_tuple_index (PySem.F.args_tuple_index_2 _ _) (aag l items m bP ai (eI▸h1)) ⟨cx,λm hm Rn=>?_,c7.at aW R (.int _ _) _⟩
 have g1:vs[m]? =some (vs[m]'(eI▸hm)):=List.getElem?_eq_getElem _
 obtain⟨f5,bB,ml⟩:=cj.get g1
 rw[Array.getElem?_toList,Array.getElem?_eq_getElem hm] at bB
 rw[Option.some.inj bB]
 exact qd R 8 A.in1 (g' (k:=9) aE.line) _ _ _ _ _ ml cK (h2 m _ g1 Rn)
theorem bw.md(R:bw prog w h₁ W σ h)(e:∀b o,h.get? b=some o->h'.get? b=some o):bw prog w h₁ W σ h':=R.j6 e
noncomputable def e5:bX
 |[.bytes b],σ=>if b.length<=1000000 then some (.int b.length,σ) else none
 |[v],σ=>(eW v σ).bind λvs=>if vs.length<=1000000 then some (.int vs.length,σ) else none
 |_,_=>none
theorem SQ(R:bw prog w h₁ W σ s.heap)(bO:aM prog w W σ.next v ay)(aW:aJ ((eW v σ).bind λvs=>if vs.length<=1000000 then some (J.int vs.length,σ) else none) (c7 prog w h₁ W σ s Q)):
 wpAny (model prog w) A (call (.builtin "len") [ay]) Q E s:=by
 obtain⟨vs,a0,aW⟩:=(aJ.gR aW).cv
 obtain⟨ag,aW⟩:=aJ.fR aW
 obtain⟨l,items,e,aG,q⟩:=gH R bO a0
 have eI:items.size=vs.length:=by rw[<-Array.length_toList];exact q.length
 rw[e]
 exact call_len_list aG (by rw[eI];omega) (c7.at aW R (by rw[eI];exact .int _ _) _)
theorem me(bO:aM prog w W σ.next v ay)(aI:bt prog w W σ.next r cg)(h1:autoParam (∀aA,aJ (e5 [v] σ) aA->aJ ((eW v σ).bind λvs=>if vs.length<=1000000 then some (J.int vs.length,σ) else none) aA) Cq._auto_1)
 (ah:autoParam (∀b q aA,aJ (e5 (v::b::q) σ) aA->False) rR._auto_1):c1 prog w h₁ k (λvs=>call (.builtin "len") vs) e5 W σ (v::r) (ay::cg):=
 .end (λq=>v::q) (λq=>ay::q) aI (λA s Q E aE aW R=>wpN.of (SQ R bO (h1 _ aW))) ah
theorem kT:OpOk prog w h₁ k (λvs=>call (.builtin "len") vs) e5:=
 .fm λW σ a bq r cg bO aI=>aM.casesOn (motive_1:=λa bq _=>c1 prog w h₁ k (λvs=>call (.builtin "len") vs) e5 W σ (a::r) (bq::cg)) bO (me .none aI) (λb=>me (.bool b) aI) (λi t=>me (.int i t) aI) (λx t=>me (.str x t) aI) (λb t=>.end (λq=>J.bytes b::q) (λq=>_::q) aI λA s Q E aE aW R=>wpN.of<|by
  obtain⟨ag,aW⟩:=aJ.fR aW
  exact len_bytes (by rw[List.size_toArray];exact aC.Wd ag) (c7.at aW R (by rw[List.size_toArray];exact .int _ _) _)) (λr q=>me (.bk r q) aI) (λr c d q=>me (.bo r c d q) aI) (λr z c q=>me (.cw r z c q) aI) (λr=>me (.e8 r) aI) (λh=>me (.ref h) aI) (λv=>me (.bS v) aI)
noncomputable def u4:bX
 |[.int a],σ=>some (.int (if a<0 then-a else a),σ)
 |_,_=>none
theorem TS:OpOk prog w h₁ k (λvs=>call (.builtin "abs") vs) u4:=
 .fm λW σ a bq r cg bO aI=>.int (λa=>a::r) (λa=>a::cg) bO λi t=>.end (λq=>_::q) (λq=>_::q) aI λA s Q E aE aW R=>wpN.of<|call_abs_int λu b7=>c7.at aW R (.int _ _) _
noncomputable def AM:bX
 |[.int a],σ=>some (.int a,σ)
 |_,_=>none
theorem Ir:OpOk prog w h₁ k (λvs=>call (.type "int") vs) AM:=
 .fm λW σ a bq r cg bO aI=>.int (λa=>a::r) (λa=>a::cg) bO λi t=>.end (λq=>_::q) (λq=>_::q) aI λA s Q E aE aW R=>wpN.of<|call_int_int (c7.at aW R (.int _ _) s.toks)
noncomputable def Bh:bX
 |[.int a,.int b],σ=>some (.int (if b<a then b else a),σ)
 |_,_=>none
theorem T4:OpOk prog w h₁ k (λvs=>call (.builtin "min") vs) Bh:=
 .fm λW σ a bq r cg bO aI=>.int (λa=>a::r) (λa=>a::cg) bO λi t=>.more (λr=>_::r) (λr=>_::r) aI λb bP q dE cK bZ=>.int (λb=>_::b::q) (λb=>_::b::dE) cK λai u=>.end (λq=>_::_::q) (λq=>_::_::q) bZ λA s Q E aE aW R=>wpN.of<|
 min_two_ints aE.h λh' b7 hk=>c7.to aW W _ h' b7 az.le.refl (Nat.le_refl _) (R.md hk) (by
  by_cases e:ai<i
  .rw[if_pos e,if_pos e];exact .int _ _
  .rw[if_neg e,if_neg e];exact .int _ _)
noncomputable def hv:List J->Option (List Int)
 |[]=>some []
 |.int i::r=>(hv r).map λl=>i::l
 |_=>none
theorem Sj(a:aM prog w W n v ay)(e:hv (v::vs)=some l):∃i t q,ay=.int i t/\hv vs=some q/\l=i::q:=
 aM.casesOn (motive_1:=λv ay _=>hv (v::vs)=some l->∃i t q,ay=.int i t/\hv vs=some q/\l=i::q) a (λe=>aq e) (λ_ e=>aq e)
  (λi t e=>by obtain⟨q,bZ,e⟩:=Option.map_eq_some_iff.mp e;exact⟨i,t,q,rfl,bZ,e.symm⟩) (λ_ _ e=>aq e) (λ_ _ e=>aq e) (λ_ _ e=>aq e) (λ_ _ _ _ e=>aq e) (λ_ _ _ _ e=>aq e) (λ_ e=>aq e) (λ_ e=>aq e) (λ_ e=>aq e) e
theorem AN(r:bt prog w W n vs bG)(e:hv vs=some l):IntsAre bG l:=
 r.ind (P:=λvs bG=>∀l,hv vs=some l->IntsAre bG l) (λl e=>Option.some.inj e▸.nil) (λa _ aX l e=>by
  obtain⟨i,t,q,a8,bZ,a7⟩:=Sj a e
  rw[a8,a7];exact .cons i t (aX q bZ)) l e
noncomputable def p':bX
 |[v],σ=>(eW v σ).bind λvs=>(hv vs).map λl=>(J.int l.sum,σ)
 |_,_=>none
theorem Iv:OpOk prog w h₁ k (λvs=>call (.builtin "sum") vs) p':=
 .fm λW σ a bq r cg bO aI=>.end (λq=>a::q) (λq=>bq::q) aI λA s Q E aE aW R=>wpN.of<|eK λG bT=>by
 obtain⟨vs,a0,aW⟩:=(aJ.gR aW).cv
 obtain⟨l,aG,aW⟩:=(aJ.map aW).cv
 obtain⟨b,items,e,eS,q⟩:=gH R bO a0
 have hi:=AN q aG
 have en:=hi.numsOf
 obtain⟨xs,av⟩:=hi.allInts.items
 rw[show items=intItems xs from av] at eS en
 rw[nums_intItems] at en
 refine bT ?_
 rw[e]
 refine sum_intListG aE.h eS λh' b7 d3 hk=>?_
 have a7:preSum (numAt xs) xs.size=l.sum:=by
  rw[preSum_eq,List.take_of_length_le (by simp),<-en]
 rw[a7]
 exact c7.to aW W _ h' b7 az.le.refl (Nat.le_refl _) (R.md hk) (.int _ _)
noncomputable def lN:bX
 |[.int n],σ=>some (.e8 0 n 1,σ)
 |[.int a,.int b,.int c],σ=>if c≠0/\c.natAbs<1073741824 then some (.e8 a b c,σ) else none
 |_,_=>none
theorem tH:OpOk prog w h₁ k (λvs=>call (.type "range") vs) lN:=
 .fm λW σ a bq r cg bO aI=>.int (λa=>a::r) (λa=>a::cg) bO λn t=>.LI (λr=>_::r) (λr=>_::r) aI
  (λA s Q E aE aW R=>wpN.of<|call_range_1<|by
    obtain⟨cn,a'⟩:=R.new (w1 0 n 1 s.toks t (s.toks+1)) rfl
    exact c7.to aW _ _ _ _ a' (Nat.le_refl _) cn (.e8 az.cX))
  λb bP q dE cK bZ=>.int (λb=>_::b::q) (λb=>_::b::dE) cK λm u=>.more (λq=>_::_::q) (λq=>_::_::q) bZ λc cc p iV d' hp=>.int (λc=>_::_::c::p) (λc=>_::_::c::iV) d' λd z=>
   .end (λp=>_::_::_::p) (λp=>_::_::_::p) hp λA s Q E aE aW R=>wpN.of<|by
   obtain⟨aw,aW⟩:=aJ.fR aW
   refine call_range_3 aw.1 ?_ (.inl (PyProof.noPylong_small aw.2))
   obtain⟨cn,a'⟩:=R.new (w1 n m d t u z) rfl
   exact c7.to aW _ _ _ _ a' (Nat.le_refl _) cn (.e8 az.cX)
noncomputable def m9:bX
 |[.bk vs],σ=>if vs.length<=1000000 then some (.bo vs,σ) else none
 |[v],σ=>(eW v σ).bind λvs=>if vs.length<=1000000 then some (.bo vs,σ) else none
 |_,_=>none
theorem Hx(R:bw prog w h₁ W σ s.heap)(hT:T="list"\/T="tuple")(aH:s.heap.get? it=some o)(aw:o.cls=.type T)(aB:o.data=.seq items n)(q:bt prog w W σ.next vs items.toList)
 (aW:aJ (if vs.length<=1000000 then some (J.bo vs,σ) else none) (c7 prog w h₁ W σ s Q)):wpAny (model prog w) A (call (.type "list") [.ref it]) Q E s:=by
 obtain⟨aG,aW⟩:=aJ.fR aW
 refine call_list_seq it hT aH aw aB (λh' cc hk aV=>?_) (pY ((Array.length_toList (xs:=items)).symm.trans q.length) aG)
 have dF:=R.free (Nat.le_refl s.heap.objs.size)
 have a':=az.gG (n:=σ.next) (r:=.imm (listOf items cc)) dF
 exact c7.to aW _ _ h' s.toks a' (Nat.le_refl _) ((R.md hk).hu (r:=.imm (listOf items cc)) dF ⟨_,aV⟩ (λcO e=>bL.imm.inj e▸aV) (λcO e=>nomatch e)) (.bo az.cX rfl rfl (q.a4 a'.1 (Nat.le_refl _)))
theorem SW(R:bw prog w h₁ W σ s.heap)(bO:aM prog w W σ.next v ay)(aW:aJ ((eW v σ).bind λvs=>if vs.length<=1000000 then some (J.bo vs,σ) else none) (c7 prog w h₁ W σ s Q)):
 wpAny (model prog w) A (call (.type "list") [ay]) Q E s:=by
 obtain⟨vs,a0,aW⟩:=(aJ.gR aW).cv
 obtain⟨l,items,e,⟨o,aH,aw,n,aB⟩,q⟩:=gH R bO a0
 rw[e]
 exact Hx R (.inl rfl) aH aw aB q aW
theorem mf(bO:aM prog w W σ.next v ay)(aI:bt prog w W σ.next r cg)(h1:autoParam (∀aA,aJ (m9 [v] σ) aA->aJ ((eW v σ).bind λvs=>if vs.length<=1000000 then some (J.bo vs,σ) else none) aA) Cq._auto_1)
 (ah:autoParam (∀b q aA,aJ (m9 (v::b::q) σ) aA->False) rR._auto_1):c1 prog w h₁ k (λvs=>call (.type "list") vs) m9 W σ (v::r) (ay::cg):=
 .end (λq=>v::q) (λq=>ay::q) aI (λA s Q E aE aW R=>wpN.of (SW R bO (h1 _ aW))) ah
theorem Bq:OpOk prog w h₁ k (λvs=>call (.type "list") vs) m9:=
 .fm λW σ a bq r cg bO aI=>aM.casesOn (motive_1:=λa bq _=>c1 prog w h₁ k (λvs=>call (.type "list") vs) m9 W σ (a::r) (bq::cg)) bO (mf .none aI) (λb=>mf (.bool b) aI) (λi t=>mf (.int i t) aI) (λx t=>mf (.str x t) aI) (λb t=>mf (.bytes b t) aI) (λ{_ _ _ vs} bb cj=>.end (λq=>J.bk vs::q) (λq=>_::q) aI λA s Q E aE aW R=>wpN.of<|Hx R (.inr rfl) (R.imm _ _ bb) rfl rfl cj aW) (λr c d q=>mf (.bo r c d q) aI) (λr z c q=>mf (.cw r z c q) aI) (λr=>mf (.e8 r) aI) (λh=>mf (.ref h) aI) (λv=>mf (.bS v) aI)
theorem Sh:typeLookup (.type "int") "__bytes__"=pure none:=by rw[typeLookup_type,builtinLookup_eq_fast];kernel_rfl
theorem M'(ah:0<=n)(h1:n<=1000000)
 (aP:∀d3 k,Q (.bytes (Array.replicate n.toNat 0) d3) {s with toks:=k}):
 codeAny (model prog w) A (.call (.builtin "bytes.__new__") ⟨[.type "bytes",.int n t],[]⟩) (wants Q E) s:=by
 refine codeAny_of_tree ?_
 show wpAny _ A.in1 (do checkBuiltinCall "bytes.__new__" ⟨[.type "bytes",.int n t],[]⟩;again (.builtin "bytes.__new__" ⟨[.type "bytes",.int n t],[]⟩)) _ _ s
 refine wpAny_bind (wpAny_of_eq (PySem.F.bm_newCall _) (wpAny_pure ⟨plainId_quiet PySem.F.bm_plain _,codeAny_builtin PySem.F.bm_entry ?_⟩))
 rw[Around.under_plainId PySem.F.bm_plain _]
 have hT:s.TypeIs (.int n t) "int":=typeIs_int s n t
 unfold Builtin.«bytes.__new__»
 refine wpAny_bind (wpAny_of_eq (a:=true) rfl ?_)
 refine bm_if_false rfl ?_
 refine wpAny_bind (wpAny_of_eq PySem.F.bm_sub ?_)
 refine bm_if_false rfl ?_
 refine wpAny_bind (wpAny_of_eq (PySem.F.bm_bind _) ?_)
 refine wpAny_bind (wpAny_of_eq (a:=()) rfl ?_)
 refine wpAny_bind (wpAny_of_eq (a:=()) rfl ?_)
 refine bm_if_false rfl ?_
 refine wpAny_bind (wpAny_specialOf hT Sh ?_)
 refine wpAny_bind (wpAny_bind (wpAny_pure (wpAny_pure ?_)))
 refine bm_if_false rfl ?_
 refine wpAny_bind (wpAny_specialOf hT PySem.F.slot_int_index.lookup ?_)
 refine bm_if_false rfl ?_
 refine wpAny_bind (wpAny_attempt (wpAny_of_eq (a:=n) rfl ?_))
 dsimp only
 have hf:Builtin.Bytes.fitsIndex n=true:=by simp only[Builtin.Bytes.fitsIndex,Bool.and_eq_true,decide_eq_true_eq];omega
 have aG:Builtin.Bytes.tooLong n.toNat=false:=by unfold Builtin.Bytes.tooLong sizeLine;simp;exact aC.Wt h1
 rw[hf,aG,if_neg (by decide),if_neg (by exact aC.wQ ah),if_neg (by omega),if_neg (by decide)]
 refine wpAny_bind (wpAny_rule ?_)
 refine wpAny_bind (wpAny_mkBytes ?_ ?_)
 .exact wpAny_pure (aP _ _)
 .rw[Array.size_replicate];unfold sizeLine;omega
noncomputable def f9:bX
 |[.int n],σ=>if 0<=n/\n<=1000000 then some (.bytes (List.replicate n.toNat 0),σ) else none
 |[v],σ=>(eW v σ).bind λvs=>(hv vs).bind λl=>if l.length<=1000000/\l.all (λi=>decide (0<=i/\i<256))=true then some (.bytes (l.map λi=>i.toNat.toUInt8),σ) else none
 |_,_=>none
theorem M8(aE:eC A k)(R:bw prog w h₁ W σ s.heap)(bO:aM prog w W σ.next v ay)(aW:aJ ((eW v σ).bind λvs=>(hv vs).bind λl=>if l.length<=1000000/\l.all (λi=>decide (0<=i/\i<256))=true then some (J.bytes (l.map λi=>i.toNat.toUInt8),σ) else none) (c7 prog w h₁ W σ s Q)):
 wpAny (model prog w) A (call (.type "bytes") [ay]) Q E s:=by
 refine eK λG bT=>?_
 obtain⟨vs,a0,aW⟩:=(aJ.gR aW).cv
 obtain⟨l,aG,aW⟩:=(aJ.gR aW).cv
 obtain⟨aw,aW⟩:=aJ.fR aW
 obtain⟨a,items,e,eS,q⟩:=gH R bO a0
 have hi:=AN q aG
 have aI:∀n∈l,0<=n/\n<256:=λn aV=>of_decide_eq_true (List.all_eq_true.mp aw.2 n aV)
 refine bT ?_
 rw[e]
 exact call_bytes_ints (vs:=items.toList) eS hi aI (by rw[hi.length];unfold sizeLine;omega) aE.h λh' t k hk=>c7.to aW W _ h' _ az.le.refl (Nat.le_refl _) (R.md hk) (.bytes _ _)
theorem lZ(bO:aM prog w W σ.next v ay)(aI:bt prog w W σ.next r cg)(h1:autoParam (∀aA,aJ (f9 [v] σ) aA->aJ ((eW v σ).bind λvs=>(hv vs).bind λl=>if l.length<=1000000/\l.all (λi=>decide (0<=i/\i<256))=true then some (J.bytes (l.map λi=>i.toNat.toUInt8),σ) else none) aA) Cq._auto_1)
 (ah:autoParam (∀b q aA,aJ (f9 (v::b::q) σ) aA->False) rR._auto_1):c1 prog w h₁ k (λvs=>call (.type "bytes") vs) f9 W σ (v::r) (ay::cg):=
 .end (λq=>v::q) (λq=>ay::q) aI (λA s Q E aE aW R=>wpN.of (M8 aE R bO (h1 _ aW))) ah
theorem mh:OpOk prog w h₁ k (λvs=>call (.type "bytes") vs) f9:=
 .fm λW σ a bq r cg bO aI=>aM.casesOn (motive_1:=λa bq _=>c1 prog w h₁ k (λvs=>call (.type "bytes") vs) f9 W σ (a::r) (bq::cg)) bO (lZ .none aI) (λb=>lZ (.bool b) aI) (λn t=>.end (λq=>J.int n::q) (λq=>_::q) aI λA s Q E aE aW R=>wpN.of<|by
  obtain⟨aV,aW⟩:=aJ.fR aW
  refine callType_codes (Q₁:=λobj bh=>bh.TypeIs obj "bytes"/\Q obj bh) PySem.F.bm_called (PySem.F.bm_typeCall _) PySem.F.entry_object_init
   (M' aV.1 aV.2 λd3 k=>⟨PySem.W.typeIs_bytes _ _ _,?_⟩) λobj bh h₁=>?_
  .rw[<-List.toArray_replicate]
   exact c7.at aW R (.bytes _ _) _
  .exact⟨h₁.1,PySem.F.args_object_init_2 obj _,object_init_meets PySem.F.bm_called.init.lookup PySem.F.bm_called.made (by decide) prog w A.in1 _ bh ⟨h₁.1,rfl,h₁.2⟩⟩) (λx t=>lZ (.str x t) aI) (λb t=>lZ (.bytes b t) aI) (λr q=>lZ (.bk r q) aI) (λr c d q=>lZ (.bo r c d q) aI) (λr z c q=>lZ (.cw r z c q) aI) (λr=>lZ (.e8 r) aI) (λh=>lZ (.ref h) aI) (λv=>lZ (.bS v) aI)
theorem D2:mroOf (.type "bytearray")=pure [.type "bytearray",.type "object"]:=by rw[mroOf_type];kernel_rfl
theorem ME:typeLookup (.type "bytearray") "__new__"=pure (some (.builtin "bytearray.__new__")):=by rw[typeLookup_type,builtinLookup_eq_fast];kernel_rfl
theorem MP:PySem.Slot "bytearray" "__init__" "bytearray.__init__":=
 .of (owner:="bytearray") (n:="__init__") (by rw[typeLookup_type,builtinLookup_eq_fast];kernel_rfl) (by decide+kernel) (by decide+kernel) (by decide+kernel)
  (by first|exact .inl (by decide+kernel)|exact .inr (by decide+kernel)) (by rw[isSubtype_type];kernel_rfl)
theorem My:TypeCalled "bytearray" "bytearray.__new__" "bytearray.__init__":=
 ⟨by decide+kernel,by decide+kernel,⟨_,_,D2⟩,madeBy_type D2 ME (by decide+kernel),by decide+kernel,by rw[isSubtype_type];kernel_rfl,MP⟩
theorem MQ(a:Value):checkTypeCall "bytearray" ⟨[a],[]⟩=pure ():=by kernel_rfl
theorem MF(a:Value):checkBuiltinCall "bytearray.__new__" ⟨[.type "bytearray",a],[]⟩=pure ():=by kernel_rfl
theorem D5:plainId "bytearray.__new__"=true:=by decide+kernel
theorem Mz:entryFor table "bytearray.__new__"=some Builtin.«list.__new__»:=entryFor_alias (id':="list.__new__") (by rw[fastTable_eq_tree];kernel_rfl) (by decide+kernel) (by decide+kernel) (by rw[fastTable_eq_tree];kernel_rfl)
theorem MA:entryFor table "bytearray.__init__"=some Builtin.«bytearray.__init__»:=entryFor_of_tree (by kernel_rfl)
theorem MG:typeLookup (.type "bytearray") "__bytes__"=pure none:=by rw[typeLookup_type,builtinLookup_eq_fast];kernel_rfl
theorem MH:typeLookup (.type "bytearray") "__index__"=pure none:=by rw[typeLookup_type,builtinLookup_eq_fast];kernel_rfl
theorem yd:typeLookup (.type "bytearray") "__buffer__"=pure (some (.builtin "bytearray.__buffer__")):=by rw[typeLookup_type,builtinLookup_eq_fast];kernel_rfl
theorem ML:typeLookup (.type "bytearray") "__release_buffer__"=pure (some (.builtin "bytearray.__release_buffer__")):=by rw[typeLookup_type,builtinLookup_eq_fast];kernel_rfl
theorem ye:isSubtype (.type "bytearray") (.type "bytearray")=pure true:=by rw[isSubtype_type];kernel_rfl
theorem Mv(v:Value):Builtin.Bytes.bindOptional "bytearray.__init__" "bytearray" ["source","encoding","errors"] [v] []=pure [some v,none,none]:=by kernel_rfl
theorem D6:PySem.Slot "bytearray" "__setitem__" "bytearray.__setitem__":=
 .of (owner:="bytearray") (n:="__setitem__") (by rw[typeLookup_type,builtinLookup_eq_fast];kernel_rfl) (by decide+kernel) (by decide+kernel) (by decide+kernel)
  (by first|exact .inl (by decide+kernel)|exact .inr (by decide+kernel)) (by rw[isSubtype_type];kernel_rfl)
theorem MB:entryFor table "bytearray.__setitem__"=some Builtin.«bytearray.__setitem__»:=entryFor_of_tree (by kernel_rfl)
theorem Mu(a b c:Value):argsOk "bytearray.__setitem__" ⟨[a,b,c],[]⟩:=by unfold argsOk;kernel_rfl
theorem Mt(a b:Value):argsOk "bytearray.__init__" ⟨[a,b],[]⟩:=by unfold argsOk;kernel_rfl
noncomputable def n0(self:Value):Code×Pos->Bool:=λ
 |(.builtin "bytearray.__contains__" ⟨v::_,_⟩,_)|(.builtin "bytearray.__mod__" ⟨v::_,_⟩,_)
 |(.builtin "bytearray.__rmod__" ⟨_::v::_,_⟩,_)|(.builtin "_struct.pack_into.held" ⟨v::_,_⟩,_)=>Builtin.Bytes.sameRef v self
 |(.builtin "bytearray.find.held" ⟨_::_::held,_⟩,_)=>held.any (Builtin.Bytes.sameRef self)
 |(.builtin id ⟨v::_,_⟩,_)=>Builtin.Bytes.sameRef v self&&Builtin.Bytes.decodersThatHold.contains id
 |_=>false
theorem O7{id:String}(aT:(Code.builtin id a).isGuard=false)(aH:kU (.builtin id a)=true):n0 self (.builtin id a,p)=false:=by
 have n:∀x,guardIds.contains x=true->¬id=x:=λx av e=>wG (av.symm.trans (by rw[<-e];exact aT))
 unfold n0 n0.match_1
 first|dsimp only[n0._sparseCasesOn_1]|dsimp only[kU._sparseCasesOn_1]
 rw[dif_neg (n _ (by decide+kernel)),dif_neg (n _ (by decide+kernel)),dif_neg (n _ (by decide+kernel)),dif_neg (n _ (by decide+kernel)),dif_neg (n _ (by decide+kernel))]
 rcases a with⟨_|⟨v,r⟩,kw⟩
 .rfl
 .have h:(!Builtin.Bytes.decodersThatHold.contains id)=true:=aH
  show(Builtin.Bytes.sameRef v self&&Builtin.Bytes.decodersThatHold.contains id)=false
  rw[(Bool.not_eq_true' _).mp h,Bool.and_false]
theorem O8(aT:c.isGuard=false)(aH:kU c=true):n0 self (c,p)=false:=
 Code.casesOn (motive:=λc=>c.isGuard=false->kU c=true->n0 self (c,p)=false) c (λ_ _ _ _=>rfl) (λ_ _ aT aH=>O7 aT aH) (λ_ _ _ _=>rfl) (λ_ _ _ _=>rfl) (λ_ _ _ _ _=>rfl) (λ_ _ _ _ _ _ _=>rfl) (λ_ _ _ _=>rfl) (λ_ _ _ _=>rfl)
  (λ_ _ _ _ _ _=>rfl) (λ_ _ _ _ _ _ _=>rfl) (λ_ _ _ _ _ _ _=>rfl) (λ_ _ _ _ _ _ _=>rfl) (λ_ _ _ _ _ _ _=>rfl) aT aH
theorem O9(aT:A.guards=some [])(h:Q false s):wpN M A (Builtin.Bytes.exported a) Q E s:=λcY p eT aw=>by
 have g1:guardsOf ((cY.code,p)::cY.below)=[]:=by rw[guardsOf_cons];exact eT.2.2.2.1 [] aT
 show Q (List.any ((cY.code,p)::cY.below) (n0 a)) s
 have e:List.any ((cY.code,p)::cY.below) (n0 a)=false:=by
  rw[List.any_eq_false]
  intro x av
  have Xv:kU x.1=true:=by
   rcases List.mem_cons.mp av with rfl|av
   .exact aw.1
   .exact aw.2 x av
  have Qz:x.1.isGuard=false:=by
   cases q:x.1.isGuard with
   |false=>rfl
   |true=>
    have:x.1∈guardsOf ((cY.code,p)::cY.below):=List.mem_filter.mpr ⟨List.mem_map.mpr ⟨x,av,rfl⟩,q⟩
    rw[g1] at this;cases this
  rw[show x=(x.1,x.2) from rfl,O8 Qz Xv];exact Bool.false_ne_true
 rw[e];exact h
section
variable{A:Around}{E:Value->Shared->Prop}{s:Shared}{R:Result->Shared->Prop}
noncomputable abbrev Fn(M:Model)(A:Around)(R:Result->Shared->Prop):Fin->Shared->Prop:=λcA aY=>match cA with|.done f=>R (.ok f) aY|.again cc=>cc.quiet=true/\eQ M A cc R aY
theorem Eu{id:String}(ok:kU (.builtin id args)=true)(ag:entryFor table id=some b)
 (h:wpN (model prog w) (A.under (.builtin id args)) (b args) (Fn (model prog w) A R) (λe aY=>R (.error e) aY) s):eQ (model prog w) A (.builtin id args) R s:=by
 refine nU ok ?_
 show wpN _ _ (match entryFor table id with|some b=>b args|none=>unsupported ((withoutEnding? id "#data").getD id)) _ _ s
 rw[ag];exact h
theorem NA{id:String}(ok:kU (.builtin id args)=true)(bZ:plainId id=true)(ag:entryFor table id=some b)
 (h:wpN (model prog w) A.in1 (checkBuiltinCall id args) (λ_ bh=>wpN (model prog w) A.in1 (b args) (Fn (model prog w) A R) (λe aY=>R (.error e) aY) bh) (λe aY=>R (.error e) aY) s):eQ (model prog w) A (.call (.builtin id) args) R s:=by
 refine nU rfl ?_
 show wpN _ A.in1 (do checkBuiltinCall id args;again (.builtin id args)) _ _ s
 refine a5 (cy h (λ_ bh h₁=>cq ⟨plainId_quiet bZ args,Eu ok ag ?_⟩) λ_ _ h'=>h')
 rw[Around.under_plainId bZ args];exact h₁
theorem Ng{T H8 v5:String}{Q Q₁:Value->Shared->Prop}(mS:TypeCalled T H8 v5)
 (QY:checkTypeCall T ⟨args,[]⟩=pure ())(O3:entryFor table v5=some K6)(Ud:Builtin.Bytes.decodersThatHold.contains v5=false)
 (Ru:codeAny (model prog w) A.in1 (.call (.builtin H8) ⟨.type T::args,[]⟩) (λr aY=>match r with|.ok (.ret v)=>Q₁ v aY|_=>False) s)
 (Rv:∀obj bh,Q₁ obj bh->bh.TypeIs obj T/\argsOk v5 ⟨obj::args,[]⟩/\wpN (model prog w) A.in1.in1 (K6 ⟨obj::args,[]⟩) (λcA aY=>cA=.done (.ret .none)/\Q obj aY) gv bh):
 wpN (model prog w) A (call (.type T) args) Q E s:=by
 obtain⟨c,ab1,Ro⟩:=mS.mro
 have Rl:=mS.made
 have AB:=mS.sub
 refine xf (nU rfl ?_)
 show wpN _ _ (callAny (.type T) _) _ _ _
 refine cq ⟨Code.quiet_builtin _ (by decide+kernel),Eu (by rfl) F.entry_type_call ?_⟩
 rw[Around.under_plain (weight_type_call_type T args []) rfl]
 have h1:=mS.notType
 have h2:=mS.canCreate
 unfold Builtin.«type.__call__»
 dsimp only
 first|refine h8 (by rw[h1];exact Bool.false_ne_true) ?_|refine kc (by rw[h1];exact Bool.false_ne_true) ?_
 simp only[h2,Bool.false_eq_true,if_false,QY,Ro,Rl]
 refine a5 (cq (a5 (cq ?_)))
 first|refine h8 (by simp) ?_|refine kc (by simp) ?_
 refine a5 (cq ?_)
 dsimp only
 refine a5 (cq (a5 (dV (.of (wpAny_call (codeAny_mono Ru λr bh aI=>?_))))))
 induction r with
 |error e=>exact aI.elim
 |ok fl=>induction fl with
  |ret obj=>
   obtain⟨hT,lC,RO⟩:=Rv _ _ aI
   dsimp only
   refine a5 (.of (wpAny_isInstance hT AB ?_))
   first|refine h8 (by decide) ?_|refine kc (by decide) ?_
   refine a5 (dV ?_)
   simp only[callSpecial?]
   refine a5 (.of (wpAny_specialOf hT mS.init.lookup ?_))
   simp only[mS.init.bind]
   refine dV (a5 (cq (a5 ?_)))
   refine xf (NA (by simpa[kU] using Ud) mS.init.plain O3 (.of (mS.init.check _ _ _ _ _ _ _ _ hT lC ?_)))
   refine cy RO (λcA cS hf=>?_) λ_ _ h=>h.elim
   obtain⟨rfl,bZ⟩:=hf
   refine cq ?_
   dsimp only
   first|refine h8 (by decide) ?_|refine kc (by decide) ?_
   exact cq bZ
  |_=>exact aI.elim
end
end
section
open PySem.SeqAt
set_option maxRecDepth 1000000 in
set_option maxHeartbeats 4000000 in
theorem MI:("bytearray.__new__".splitOn ".__new__").headD ""="bytearray":=by simp+decide [String.splitOn,String.splitOnAux]
theorem MJ:("bytearray.__release_buffer__".endsWith ("."++"__release_buffer__"))=true:=by decide+kernel
set_option linter.deprecated false in
theorem MK:("bytearray.__release_buffer__".dropRight ("__release_buffer__".length+1))="bytearray":=by decide+kernel
theorem Mw:("bytearray.__buffer__".endsWith ("."++"__buffer__"))=true:=by decide+kernel
set_option linter.deprecated false in
theorem Mx:("bytearray.__buffer__".dropRight ("__buffer__".length+1))="bytearray":=by decide+kernel
noncomputable abbrev iM(b:Array UInt8):Obj:={cls:=.type "bytearray",data:=.bytearray b 0}
section
variable{prog:Program}{w:World}{A:Around}{E:Value->Shared->Prop}{s:Shared}
theorem NH(a:Value){Q₁:Value->Shared->Prop}
 (h:Q₁ (.ref s.heap.objs.size) {s with heap:=s.heap.push (iM #[])}):
 codeAny (model prog w) A (.call (.builtin "bytearray.__new__") ⟨[.type "bytearray",a],[]⟩) (λr aY=>match r with|.ok (.ret v)=>Q₁ v aY|_=>False) s:=by
 refine codeAny_of_tree ?_
 show wpAny _ A.in1 (do checkBuiltinCall "bytearray.__new__" ⟨[.type "bytearray",a],[]⟩;again (.builtin "bytearray.__new__" ⟨[.type "bytearray",a],[]⟩)) _ _ s
 refine wpAny_bind (wpAny_of_eq (MF a) (wpAny_pure ⟨plainId_quiet D5 _,codeAny_builtin_stack Mz rfl λp st=>?_⟩))
 rw[Around.under_plainId D5 _]
 have AB:=ye
 have Ar:=MI
 obtain⟨hp,g,d,b7,os⟩:=s
 simp only[Ar]
 wp_walk
 exact h
theorem MO(hT:s.TypeIs (.ref a) "bytearray")(h:Q true s):wpAny (model prog w) A (Builtin.Bytes.slotIsOwn (.ref a) "__release_buffer__") Q E s:=by
 unfold Builtin.Bytes.slotIsOwn
 refine wpAny_bind (wpAny_specialOf hT ML ?_)
 dsimp only
 rw[if_neg (by rw[MJ];decide),MK]
 exact wpAny_isInstance hT ye h
theorem MN(hT:s.TypeIs (.ref a) "bytearray")(h:Q true s):wpAny (model prog w) A (Builtin.Bytes.slotIsOwn (.ref a) "__buffer__") Q E s:=by
 unfold Builtin.Bytes.slotIsOwn
 refine wpAny_bind (wpAny_specialOf hT yd ?_)
 dsimp only
 rw[if_neg (by rw[Mw];decide),Mx]
 exact wpAny_isInstance hT ye h
theorem D3(hT:s.TypeIs (.ref a) "bytearray")(h:Q false s):wpAny (model prog w) A (Builtin.Bytes.ownRelease (.ref a)) Q E s:=by
 unfold Builtin.Bytes.ownRelease
 exact wpAny_bind (MO hT (wpAny_pure h))
theorem yf(aH:s.heap.get? a=some (iM b))(hz:(f b).size<=sizeLine)
 (h:∀h',h'.get? a=some (iM (f b))->Heap.SameBut a s.heap h'->Q () {s with heap:=h'}):wpAny (model prog w) A (Builtin.Bytes.write (.ref a) f) Q E s:=by
 show wpAny _ _ (updateBytearray a f) _ _ _
 unfold updateBytearray
 refine wpAny_bind (wpAny_load aH ?_)
 dsimp only
 refine wpAny_bind (wpAny_update aH ?_)
 have sS:(s.heap.update a (Obj.mapBytearray f)).get? a=some (iM (f b)):=Heap.get?_update_self _ aH rfl
 refine wpAny_lookBehind sS ?_ (h _ sS (Heap.SameBut.update ..))
 show(if(f b).size>sizeLine then _ else _)=none
 rw[if_neg (by exact aC.WE hz)]
theorem D4(aH:s.heap.get? a=some (iM b))(h:Q b s):wpAny (model prog w) A (Builtin.Bytes.payload (.ref a)) Q E s:=by
 unfold Builtin.Bytes.payload Builtin.Bytes.payload?
 refine wpAny_bind (wpAny_bind (wpAny_load aH ?_))
 exact wpAny_pure (wpAny_pure h)
theorem MC(aH:s.heap.get? a=some (iM b))(h:Q 0 s):wpAny (model prog w) A (Builtin.Bytes.exportsOf (.ref a)) Q E s:=by
 unfold Builtin.Bytes.exportsOf
 exact wpAny_bind (wpAny_load aH (wpAny_pure h))
theorem MD(aT:A.guards=some [])(aH:s.heap.get? a=some (iM #[]))(ah:0<=n)(h1:n<=1000000)
 (h:∀h',h'.get? a=some (iM (Array.replicate n.toNat 0))->Heap.SameBut a s.heap h'->Q (.done (.ret .none)) {s with heap:=h'}):
 wpN (model prog w) A (Builtin.«bytearray.__init__» ⟨[.ref a,.int n t],[]⟩) Q gv s:=by
 have hT:s.TypeIs (.ref a) "bytearray":=⟨_,aH,rfl⟩
 unfold Builtin.«bytearray.__init__»
 refine a5 (.of (D3 hT ?_))
 first|refine h8 (by decide) ?_|refine kc (by decide) ?_
 refine a5 (.of (wpAny_of_eq (Mv _) ?_))
 dsimp only
 refine a5 (cq (a5 (cq ?_)))
 refine a5 (a5 (O9 aT ?_))
 refine wpN.of ?_
 refine wpAny_bind (MC aH (wpAny_pure ?_))
 first|refine h8 (by decide) ?_|refine kc (by decide) ?_
 refine wpN.of ?_
 refine wpAny_bind (yf (f:=λ_=> #[]) aH (by simp) λh1 j9 G0=>?_)
 refine wpAny_bind (wpAny_of_eq (a:=none) rfl ?_)
 refine bm_if_false rfl ?_
 refine wpAny_bind ?_
 rw[if_neg (by decide),if_neg (by decide)]
 refine wpAny_pure ?_
 have z2:({s with heap:=h1}:Shared).TypeIs (.int n t) "int":=typeIs_int _ n t
 refine wpAny_bind (wpAny_specialOf z2 PySem.F.slot_int_index.lookup ?_)
 first|refine iv (by rfl) ?_|refine q4 (by rfl) ?_
 refine wpAny_bind (wpAny_attempt (wpAny_of_eq (a:=n) rfl ?_))
 dsimp only
 have hf:Builtin.Bytes.fitsIndex n=true:=by simp only[Builtin.Bytes.fitsIndex,Bool.and_eq_true,decide_eq_true_eq];omega
 have aG:Builtin.Bytes.tooLong n.toNat=false:=by unfold Builtin.Bytes.tooLong sizeLine;simp;omega
 have hm:(n==2^63-1)=false:=by rw[beq_eq_false_iff_ne];omega
 rw[hf,aG,hm,if_neg (by decide),if_neg (by exact aC.wQ ah),if_neg (by decide),if_neg (by decide)]
 refine wpAny_bind (wpAny_rule ?_)
 by_cases aV:n>0
 .first|refine iv aV ?_|refine q4 aV ?_
  refine wpAny_bind (yf (f:=λ_=>Array.replicate n.toNat 0) j9 (by rw[Array.size_replicate];unfold sizeLine;omega) λh2 pE Az=>?_)
  exact wpAny_pure (h _ pE (G0.trans Az))
 .first|refine h8 aV ?_|refine kc aV ?_
  have:n=0:=by exact aC.WG ah aV
  subst this
  exact wpAny_pure (h _ j9 G0)
theorem Nh(aT:A.guards=some [])(ah:0<=n)(h1:n<=1000000)
 (h:∀h',h'.get? s.heap.objs.size=some (iM (Array.replicate n.toNat 0))->(∀b o,s.heap.get? b=some o->h'.get? b=some o)->Q (.ref s.heap.objs.size) {s with heap:=h'}):
 wpN (model prog w) A (call (.type "bytearray") [.int n t]) Q E s:=by
 refine Ng (Q₁:=λobj bh=>obj=.ref s.heap.objs.size/\bh={s with heap:=s.heap.push (iM #[])}) My (MQ _) MA (by decide+kernel) (NH _ ⟨rfl,rfl⟩) λobj bh h₁=>?_
 obtain⟨rfl,rfl⟩:=h₁
 have gT:(s.heap.push (iM #[])).get? s.heap.objs.size=some (iM #[]):=Heap.get?_push_size _ rfl
 refine⟨⟨_,gT,rfl⟩,Mt _ _,MD aT gT ah h1 λh' fV h7=>⟨rfl,h h' fV λb o e=>?_⟩⟩
 exact(h7.2 b (Nat.ne_of_lt (Heap.lt_size e))).trans (Heap.get?_push_of_some _ e)
theorem MM(aH:s.heap.get? a=some (iM b))(ah:0<=i)(h1:i.toNat<b.size)(hz:b.size<=1000000)(RZ:0<=x)(R0:x<256)
 (h:∀h',h'.get? a=some (iM (b.setIfInBounds i.toNat x.toNat.toUInt8))->Heap.SameBut a s.heap h'->Q () {s with heap:=h'}):wpAny (model prog w) A (setItem (.ref a) (.int i t) (.int x u)) Q E s:=by
 have hT:s.TypeIs (.ref a) "bytearray":=⟨_,aH,rfl⟩
 unfold setItem
 refine wpAny_holding ?_
 refine wpAny_bind (wpAny_sequenceKey hT (by decide) ?_)
 refine wpAny_bind (wpAny_callSpecial?_slot (name:=Str.ofString "__setitem__") hT D6 (wpAny_call_entry D6 hT MB ?_ (Mu _ _ _)))
 unfold Builtin.«bytearray.__setitem__»
 refine bm_if_false rfl ?_
 dsimp only
 have z2:s.TypeIs (.int i t) "int":=typeIs_int _ i t
 have hf:Builtin.Bytes.fitsIndex i=true:=by simp only[Builtin.Bytes.fitsIndex,Bool.and_eq_true,decide_eq_true_eq];omega
 refine wpAny_bind ?_
 unfold Builtin.Bytes.subscript?
 refine wpAny_bind (wpAny_specialOf z2 PySem.F.slot_int_index.lookup ?_)
 refine bm_if_false rfl ?_
 refine wpAny_bind (wpAny_of_eq (a:=i) rfl ?_)
 rw[hf]
 refine bm_if_false rfl ?_
 refine wpAny_pure ?_
 dsimp only
 refine wpAny_bind ?_
 unfold Builtin.Bytes.byteValue
 refine wpAny_bind (wpAny_of_eq (a:=x) rfl ?_)
 refine bm_if_false (by simp only[Bool.or_eq_false_iff,decide_eq_false_iff_not];exact aC.WH RZ R0) ?_
 refine wpAny_pure ?_
 refine wpAny_bind (D4 aH ?_)
 have hs:seqIndex? i b.size=some i.toNat:=by
  unfold seqIndex?
  have df:i<(b.size:Int):=by exact aC.WI h1
  simp[show ¬i<0 by exact aC.wQ ah,ah,df]
 rw[hs]
 dsimp only
 refine wpAny_bind (yf aH (by rw[Array.size_setIfInBounds];unfold sizeLine;omega) λh' fV h7=>?_)
 exact wpAny_pure ⟨_,rfl,wpAny_pure (h h' fV h7)⟩
theorem M9(aH:s.heap.get? a=some (iM b))(hz:b.size<=1000000)
 (aP:∀d3 k,Q (.bytes b d3) {s with toks:=k}):
 codeAny (model prog w) A (.call (.builtin "bytes.__new__") ⟨[.type "bytes",.ref a],[]⟩) (wants Q E) s:=by
 refine codeAny_of_tree ?_
 show wpAny _ A.in1 (do checkBuiltinCall "bytes.__new__" ⟨[.type "bytes",.ref a],[]⟩;again (.builtin "bytes.__new__" ⟨[.type "bytes",.ref a],[]⟩)) _ _ s
 refine wpAny_bind (wpAny_of_eq (PySem.F.bm_newCall _) (wpAny_pure ⟨plainId_quiet PySem.F.bm_plain _,codeAny_builtin PySem.F.bm_entry ?_⟩))
 rw[Around.under_plainId PySem.F.bm_plain _]
 have hT:s.TypeIs (.ref a) "bytearray":=⟨_,aH,rfl⟩
 unfold Builtin.«bytes.__new__»
 refine wpAny_bind (wpAny_of_eq (a:=true) rfl ?_)
 refine bm_if_false rfl ?_
 refine wpAny_bind (wpAny_of_eq PySem.F.bm_sub ?_)
 refine bm_if_false rfl ?_
 refine wpAny_bind (wpAny_of_eq (PySem.F.bm_bind _) ?_)
 refine wpAny_bind (wpAny_of_eq (a:=()) rfl ?_)
 refine wpAny_bind (wpAny_of_eq (a:=()) rfl ?_)
 refine bm_if_false rfl ?_
 refine wpAny_bind (wpAny_specialOf hT MG ?_)
 refine wpAny_bind (wpAny_bind ?_)
 show wpAny _ _ (load a>>=_) _ _ _
 refine wpAny_bind (wpAny_load aH ?_)
 refine wpAny_pure (wpAny_pure ?_)
 refine bm_if_false rfl ?_
 refine wpAny_bind (wpAny_specialOf hT MH ?_)
 refine bm_if_true rfl ?_
 first
  |show wpAny _ _ (Builtin.Bytes.buffer? "bytes.__new__" (.ref a) true>>=_) _ _ _
  |(refine wpAny_bind ?_;show wpAny _ _ (Builtin.Bytes.buffer? "bytes.__new__" (.ref a) true>>=_) _ _ _)
 refine wpAny_bind ?_
 unfold Builtin.Bytes.buffer?
 refine wpAny_bind (wpAny_specialOf hT yd ?_)
 refine wpAny_bind (MN hT ?_)
 refine bm_if_false rfl ?_
 refine wpAny_bind (wpAny_specialOf hT yd ?_)
 dsimp only
 refine wpAny_bind (D3 hT ?_)
 refine bm_if_false rfl ?_
 refine wpAny_bind (D4 aH ?_)
 refine wpAny_pure ?_
 refine wpAny_bind (wpAny_rule ?_)
 refine wpAny_bind (wpAny_mkBytes ?_ (by unfold sizeLine;omega))
 show wpAny _ _ (if(Value.type "bytes"==Value.type "bytes")=true then _ else _) _ _ _
 refine bm_if_true (by decide) ?_
 first
  |exact wpAny_pure (aP _ _)
  |exact wpAny_bind (wpAny_pure (wpAny_pure (aP _ _)))
end
section
variable{prog:Program}{w:World}{h₁:Heap}{K:Frag}{own:Bool}{env:Env}{ns:List Str}{k:Nat}
noncomputable def yc:bX
 |[.int n],σ=>if 0<=n/\n<=1000000 then some (.ref σ.next,σ.new (.d7 (List.replicate n.toNat 0))) else none
 |_,_=>none
theorem TU:OpOk prog w h₁ k (λvs=>call (.type "bytearray") vs) yc:=
 .fm λW σ a bq r cg bO aI=>.int (λa=>a::r) (λa=>a::cg) bO λn t=>.end (λq=>_::q) (λq=>_::q) aI λA s Q E aE aW R=>by
 obtain⟨aV,aW⟩:=aJ.fR aW
 refine Nh aE.g aV.1 aV.2 λh' fV hk=>?_
 have dF:=R.free (Nat.le_refl s.heap.objs.size)
 exact c7.to aW _ _ h' s.toks (az.oi dF) (Nat.le_succ _) ((R.md hk).alloc (x:=.d7 (List.replicate n.toNat 0)) dF ⟨_,fV⟩ (.d7 (by rw[fV,List.toArray_replicate]))) Bi
noncomputable def vd:bX
 |[.ref c],σ=>match σ.cells c with
  |some (.d7 b)=>if b.length<=1000000 then some (.bytes b,σ) else none
  |_=>none
 |_,_=>none
theorem c6.D1{α:Type}{x:Option c6}{f:List UInt8->Option α}{y:α}(e:(match x with|some (.d7 b)=>f b|_=>none)=some y):∃b,x=some (.d7 b)/\f b=some y:=by
 rcases x with _|(_|_|_|_|b)
 .exact aq e
 .exact aq e
 .exact aq e
 .exact aq e
 .exact aq e
 .exact⟨b,rfl,e⟩
theorem TV:OpOk prog w h₁ k (λvs=>call (.type "bytes") vs) vd:=
 .fm λW σ a bq r cg bO aI=>.ref (λa=>a::r) (λa=>a::cg) bO λc bq bO=>.end (λq=>_::q) (λq=>_::q) aI λA s Q E aE aW R=>wpN.of<|by
 obtain⟨v,aZ,e,aW⟩:=aW.cv
 obtain⟨b,aw,e⟩:=c6.D1 (f:=λb=>if b.length<=1000000 then some (J.bytes b,σ) else none) e
 by_cases aG:b.length<=1000000
 .rw[if_pos aG] at e
  rw[<-G9 e,<-G' e] at aW
  obtain⟨_,ed⟩:=bO.bc
  rw[ed]
  refine callType_codes (Q₁:=λobj bh=>bh.TypeIs obj "bytes"/\Q obj bh) PySem.F.bm_called (PySem.F.bm_typeCall _) PySem.F.entry_object_init
   (M9 (R.cell c _ aw).2.bc aG λd3 k=>⟨PySem.W.typeIs_bytes _ _ _,c7.at aW R (.bytes _ _) _⟩) λobj bh h₁=>?_
  exact⟨h₁.1,PySem.F.args_object_init_2 obj _,object_init_meets PySem.F.bm_called.init.lookup PySem.F.bm_called.made (by decide) prog w A.in1 _ bh ⟨h₁.1,rfl,h₁.2⟩⟩
 .rw[if_neg aG] at e;exact aq e
noncomputable def nu(o i v:J)(σ:St):Option St:=match o,i,v with
 |.ref c,.int ai,.int x=>match σ.cells c with
  |some (.d7 b)=>if 0<=ai/\ai.toNat<b.length/\b.length<=1000000/\0<=x/\x<256 then some (σ.aS c (.d7 (b.set ai.toNat x.toNat.toUInt8))) else none
  |_=>none
 |_,_,_=>none
inductive k9 (σ aZ:St):J->J->J->Prop
 |mk (c:Nat) (ai x:Int) (b:List UInt8) (aw:σ.cells c=some (.d7 b)) (h:0<=ai/\ai.toNat<b.length/\b.length<=1000000/\0<=x/\x<256) (e:aZ=σ.aS c (.d7 (b.set ai.toNat x.toNat.toUInt8))):k9 σ aZ (.ref c) (.int ai) (.int x)
theorem k9.Ua{σ aZ:St}(h:nu (.ref c) (.int ai) (.int x) σ=some aZ):k9 σ aZ (.ref c) (.int ai) (.int x):=by
 obtain⟨b,aw,e⟩:=c6.D1 (f:=λb=>if 0<=ai/\ai.toNat<b.length/\b.length<=1000000/\0<=x/\x<256 then some (σ.aS c (.d7 (b.set ai.toNat x.toNat.toUInt8))) else none) h
 by_cases q:0<=ai/\ai.toNat<b.length/\b.length<=1000000/\0<=x/\x<256
 .rw[if_pos q] at e;exact .mk c ai x b aw q (Option.some.inj e).symm
 .rw[if_neg q] at e;exact aq e
theorem k9.of(h:nu o i v σ=some aZ):k9 σ aZ o i v:=
 J.casesOn (motive_1:=λo=>nu o i v σ=some aZ->k9 σ aZ (o) (i) (v)) o (λh=>aq h) (λ_ h=>aq h) (λ_ h=>aq h) (λ_ h=>aq h) (λ_ h=>aq h) (λ_ h=>aq h) (λ_ h=>aq h) (λ_ h=>aq h) (λ_ _ _ h=>aq h) (λc=>J.casesOn (motive_1:=λi=>nu (.ref c) i v σ=some aZ->k9 σ aZ (.ref c) (i) (v)) i (λh=>aq h) (λ_ h=>aq h) (λai=>J.casesOn (motive_1:=λv=>nu (.ref c) (.int ai) v σ=some aZ->k9 σ aZ (.ref c) (.int ai) (v)) v (λh=>aq h) (λ_ h=>aq h) (λx h=>k9.Ua h) (λ_ h=>aq h) (λ_ h=>aq h) (λ_ h=>aq h) (λ_ h=>aq h) (λ_ h=>aq h) (λ_ _ _ h=>aq h) (λ_ h=>aq h) (λ_ h=>aq h)) (λ_ h=>aq h) (λ_ h=>aq h) (λ_ h=>aq h) (λ_ h=>aq h) (λ_ h=>aq h) (λ_ _ _ h=>aq h) (λ_ h=>aq h) (λ_ h=>aq h)) (λ_ h=>aq h) h
theorem XW(h:nu o i v σ=some aZ):∃c ai x b,o=.ref c/\i=.int ai/\v=.int x/\σ.cells c=some (.d7 b)/\(0<=ai/\ai.toNat<b.length/\b.length<=1000000/\0<=x/\x<256)/\aZ=σ.aS c (.d7 (b.set ai.toNat x.toNat.toUInt8)):=
 k9.casesOn (motive:=λo i v _=>∃c ai x b,o=.ref c/\i=.int ai/\v=.int x/\σ.cells c=some (.d7 b)/\(0<=ai/\ai.toNat<b.length/\b.length<=1000000/\0<=x/\x<256)/\aZ=σ.aS c (.d7 (b.set ai.toNat x.toNat.toUInt8))) (k9.of h) λc ai x b aw h e=>⟨c,ai,x,b,rfl,rfl,rfl,aw,h,e⟩
noncomputable def tZ(D fN oP:cW):cf:=λU σ=>(D U σ).bind λv=>(fN U v.2).bind λo=>(oP U o.2).bind λi=>(nu o.1 i.1 v.1 i.2).map λaZ=>(.next,U,aZ)
theorem YN(h:bj prog w h₁ true env ns k (eval e env) D)(aH:bj prog w h₁ true env ns k (eval o env) fN)(hi:bj prog w h₁ true env ns k (eval i env) oP)
 (hs:autoParam (swapsWith e (some (.Subscript o i iE)) pos.line env=pure false) aL._auto_1):SOk prog w h₁ env ns k (exec (.Assign [.Subscript o i iE] e pos) env) (tZ D fN oP):=by
 refine .of λA W U σ s Q E aE ao R=>Kr (h.go aE ao.bind R λeb ct ao br dz h1 cE bA ae bu bb=>aH.go aE (aJ.bind ao) bu λgx bD ao bH dj h2 tk2 a' aK cn bJ=>hi.go aE (aJ.bind ao) cn λoE dk ao bY dU aQ cN cR bx dc dx=>wpN.of<|eK λG bT=>?_) hs
 have bb:=(bb.a4 a'.1 aK).a4 cR.1 bx
 have bJ:=bJ.a4 cR.1 bx
 obtain⟨oL,fI,aP⟩:=(aJ.map ao).cv
 obtain⟨c,ai,x,b,mK,y1,y2,aw,ag,OW⟩:=XW fI
 rw[show gx=_ from mK] at bJ
 rw[show oE=_ from y1] at dx
 rw[show eb=_ from y2] at bb
 rw[OW] at aP
 obtain⟨_,mK⟩:=bJ.bc
 obtain⟨t,y1⟩:=dx.bc
 obtain⟨u,y2⟩:=bb.bc
 have g:aQ.get? (bY.al c)=some (iM b.toArray):=(dc.bE.cell c _ aw).2.bc
 refine bT ?_
 rw[mK,y1,y2]
 refine MM (s:={s with heap:=aQ,toks:=cN}) g ag.1 ag.2.1 ag.2.2.1 ag.2.2.2.1 ag.2.2.2.2 λh' gS hs=>?_
 exact fT.to aP bY _ h' cN ((bA.trans ae a').trans (Nat.le_trans ae aK) cR) (Nat.le_trans ae (Nat.le_trans aK bx)) (dc.lP aw hs (.d7 (by rw[gS,List.setIfInBounds_toArray]))) trivial
end
end
section
open PySem.SeqAt
variable{prog:Program}{w:World}{h₁:Heap}{K:Frag}{own:Bool}{env:Env}{ns:List Str}{k:Nat}
noncomputable def andM(d1:cW)(U:Loc):J×St->Option (J×St)
 |(.bool true,ct)=>d1 U ct
 |(.bool false,ct)=>some (.bool false,ct)
 |_=>none
noncomputable def lY(eH d1:cW):cW:=λU σ=>(eH U σ).bind (andM d1 U)
theorem y3(h1:bj prog w h₁ own env ns k (eval a8 env) eH)(h2:bj prog w h₁ own env ns k (eval a7 env) d1):
 bj prog w h₁ own env ns k (eval (.BoolOp .And [a8,a7] pos) env) (lY eH d1):=by
 refine .of λA W U σ s Q E aE ao R=>?_
 show wpN _ A (do
  let v<-eval a8 env
  standAt pos
  let c<-holding [v] (truthy v)
  match BoolOp.And,c with
  |.And,false|.Or,true=>pure v
  |_,_=>eval a7 env) _ _ _
 refine a5 (h1.go aE ao.bind R λeb ct ao br dz n5 cE bA ae bu bb=>?_)
 obtain⟨b,e,ao⟩:=bb.z0 (λv=>aJ (andM d1 U (v,ct)) _) ao
 rw[e]
 refine a5 (d0 (a5 (dV (.of (wpAny_truthy_bool ?_)))))
 rcases b with _|_
 .exact cq (du.to ao br _ n5 cE bA ae bu (.bool _))
 .exact h2.go aE ao bu λv aZ c bH dj h2 tk2 a' aK cn bJ=>c bH dj h2 tk2 (bA.trans ae a') (Nat.le_trans ae aK) cn bJ
noncomputable def Eg:J×St->Option (Bool×St)
 |(.bool x,abG)=>some (x,abG)
 |_=>none
noncomputable def Er(lV:bX)(d1:cW)(U:Loc)(b:J):J×St->Option (Bool×St)
 |(.bool true,dk)=>(d1 U dk).bind λc=>(lV [b,c.1] c.2).bind Eg
 |(.bool false,dk)=>some (false,dk)
 |_=>none
noncomputable def sq(my lV:bX)(xp eH d1:cW):gN:=λU σ=>(xp U σ).bind λa=>(eH U a.2).bind λb=>(my [a.1,b.1] b.2).bind (Er lV d1 U b.1)
theorem Ms(ah:bj prog w h₁ own env ns k (eval l env) xp)(h1:bj prog w h₁ own env ns k (eval bb env) eH)(h2:bj prog w h₁ own env ns k (eval bJ env) d1)
 (Li:OpOk prog w h₁ k (eG (compareOp p1)) my)(Lj:OpOk prog w h₁ k (eG (compareOp dI)) lV)(hm:autoParam (lastMarks [p1,dI] [bb,bJ]=false) xh._auto_1):
 BOk prog w h₁ own env ns k (isTrue (.Compare l [p1,dI] [bb,bJ] pos) env hn) (sq my lV xp eH d1):=by
 refine .of λA W U σ s Q E aE ao R=>?_
 show wpN _ A (do testChain pos (<-eval l env) [p1,dI] (markedEach [p1,dI] [bb,bJ] (evalEach [bb,bJ] env))) Q E s
 rw[markedEach_of_false _ _ _ hm]
 refine a5 (ah.go aE ao.bind R λiY abF ao hH xc eg qc iw ab gi kj=>?_)
 show wpN _ A (do
  let e'<-holding [xc] (eval bb env)
  standAt pos
  let c<-holding [xc,e'] (compareOp p1 xc e')
  release [xc,e'] [c]
  if<-holding [c,e'] (truthy c) then testChain pos e' [dI] [eval bJ env] else pure false) Q E _
 refine a5 (dV (h1.go aE (aJ.bind ao) gi λeb ct ao br dz n5 cE bA ae bu bb=>?_))
 refine a5 (d0 (a5 (dV ?_)))
 refine bu.lM (s:={s with heap:=n5,toks:=cE}) Li aE (aJ.bind ao) (.cons (kj.a4 bA.1 ae) (.cons bb .nil)) λgx bD ao bH dj vI tk2 a' aK cn YJ=>?_
 refine a5 (.of (wpAny_release' (a5 (dV ?_))))
 have ix:=(iw.trans ab bA).trans (Nat.le_trans ab ae) a'
 have wF:=Nat.le_trans ab (Nat.le_trans ae aK)
 obtain⟨b,e,ao⟩:=YJ.z0 (λv=>aJ (Er lV d1 U eb (v,bD)) _) ao
 rw[e]
 refine .of (wpAny_truthy_bool ?_)
 rcases b with _|_
 .exact cq (du.to ao bH _ vI tk2 ix wF cn rfl)
 .show wpN _ A (do
   let e'<-holding [dz] (eval bJ env)
   standAt pos
   let c<-operate [dz,e'] (compareOp dI dz e')
   holding [c] (truthy c)) Q E _
  refine a5 (dV (h2.go aE (aJ.bind ao) cn λoE dk ao bY dU QB cN cR bx dc dx=>?_))
  refine a5 (d0 (a5 (t' ?_)))
  refine dc.lM (s:={s with heap:=QB,toks:=cN}) Lj aE (aJ.bind ao) (.cons ((bb.a4 a'.1 aK).a4 cR.1 bx) (.cons dx .nil)) λt8 oL ao Lx ab3 QD oC pQ dH dW p8=>?_
  obtain⟨b,e,ao⟩:=p8.z0 (λv=>aJ (Eg (v,oL)) _) ao
  rw[e]
  exact dV (.of (wpAny_truthy_bool (du.to ao Lx _ QD oC ((ix.trans wF cR).trans (Nat.le_trans wF bx) pQ) (Nat.le_trans wF (Nat.le_trans bx dH)) dW rfl)))
theorem Ee:PySem.Slot "bytes" "join" "bytes.join":=
 .of (owner:="bytes") (n:="join") (by rw[typeLookup_type,builtinLookup_eq_fast];kernel_rfl) (by decide+kernel) (by decide+kernel) (by decide+kernel)
  (by first|exact .inl (by decide+kernel)|exact .inr (by decide+kernel)) (by rw[isSubtype_type];kernel_rfl)
theorem M3:entryFor table "bytes.join"=some Builtin.«bytes.join»:=by first|exact entryFor_of_fast (by kernel_rfl)|exact entryFor_of_tree (by kernel_rfl)
theorem M0(a b:Value):argsOk "bytes.join" ⟨[a,b],[]⟩:=by
 unfold argsOk;rw[signature?_of (id:="bytes.join") (n:=['n','i','o','j']) (o:=['s','e','t','y','b']) (by kernel_rfl) FB.owner_bytes];kernel_rfl
theorem M4:typeOf (.builtin "bytes.join")=pure (.type "method_descriptor"):=by kernel_rfl
theorem M1:PlainAttrs "bytes":=FB.plainAttrs_bytes
noncomputable def qE(ps:List (Array UInt8)):Array UInt8:=ps.foldl (·++·) #[]
theorem Sw(ps:List (Array UInt8)):Builtin.Bytes.joined #[] ps=qE ps:=by
 unfold Builtin.Bytes.joined qE
 have key:∀(ps:List (Array UInt8)) (n:Nat) (acc:Array UInt8),(ps.zipIdx n).foldl (λcv (x:Array UInt8×Nat)=>(if x.2>0 then cv++ #[] else cv)++x.1) acc=ps.foldl (·++·) acc:=by
  intro ps
  induction ps with
  |nil=>intro n acc;rfl
  |cons p r aX=>
   intro n acc
   rw[List.zipIdx_cons,List.foldl_cons,List.foldl_cons,aX]
   congr 1
   split<;>simp
 exact key ps 0 #[]
theorem Z5{id:String}:Builtin.Bytes.takeBufferQuiet? id (.bytes b t) 0=pure (some (b,none)):=by
 unfold Builtin.Bytes.takeBufferQuiet? Builtin.Bytes.takeBuffer?
 have ag:Builtin.Bytes.buffer? id (.bytes b t) (0==Builtin.Bytes.fullReadOnly)=pure (some b):=KBy.buffer_eq
 rw[KBy.special_eq KBy.look_buffer,KBy.own_buffer,ag]
 rfl
section
variable{A:Around}{E:Value->Shared->Prop}{s:Shared}
inductive lU:List Value->List (Array UInt8)->Prop
 |nil:lU [] []
 |cons {b:Array UInt8} {t:Tok} {vs:List Value} {bg:List (Array UInt8)}:lU vs bg->lU (.bytes b t::vs) (b::bg)
theorem lU.at(h:lU vs bg):∀{i:Nat},i<vs.length->∃b t,vs[i]? =some (.bytes b t)/\bg[i]? =some b:=by
 induction h with
 |nil=>intro i hi;simp at hi
 |@cons b t vs bg _ aX=>
  intro i hi
  induction i with
  |zero=>exact⟨b,t,rfl,rfl⟩
  |succ i=>simpa using aX (by simpa using hi)
theorem lU.length(h:lU vs bg):vs.length=bg.length:=by
 induction h with
 |nil=>rfl
 |cons _ aX=>simp[aX]
noncomputable def tW(bg:List (Array UInt8)):Nat:=bg.foldl (λn b=>n+b.size) 0
theorem JN(bg:List (Array UInt8)):(qE bg).size=tW bg:=by
 have key:∀(bg:List (Array UInt8)) (a:Array UInt8),(bg.foldl (·++·) a).size=bg.foldl (λn b=>n+b.size) a.size:=by
  intro bg
  induction bg with
  |nil=>intro n;rfl
  |cons b r aX=>intro n;rw[List.foldl_cons,aX,List.foldl_cons,Array.size_append]
 exact key bg #[]
theorem aae{ps:Array (Array UInt8)}(h:ps.toList=bg):ps.foldl (λn b=>n+b.size) ((#[]:Array UInt8).size*(ps.size-1))=tW bg:=by
 rw[<-Array.foldl_toList,h]
 unfold tW;congr 1;simp
theorem Hh(h:Q () s):∀{b7:List (Value×Option Value)},(∀p∈b7,∃c u,p=(Value.bytes c u,none))->wpAny M A (Builtin.Bytes.joinLetGo b7 keep) Q E s
 |[],_=>wpAny_pure h
 |p::r,hp=>by
  obtain⟨c,u,rfl⟩:=hp p (.head _)
  unfold Builtin.Bytes.joinLetGo
  exact wpAny_bind (wpAny_letGo (Hh h λq bZ=>hp q (.tail _ bZ)))
theorem Xu{α:Type}{f:Value->α}{b:Array Value->α}{P:α->Prop}(h1:∀x,items= #[x]->P (f x))(ah:P (b items)):P (match(generalizing:=false) items with|#[x]=>f x|y=>b y):=by
 rcases items with⟨_|⟨x,_|⟨y,r⟩⟩⟩
 .exact ah
 .exact h1 x rfl
 .exact ah
theorem TM{b7:List (Value×Option Value)}(q2:∀p∈b7,∃c u,p=(Value.bytes c u,none)):(b7.any λx=>x.1.onHeap)=false:=by
 rw[List.any_eq_false]
 intro p hp
 obtain⟨c,u,e⟩:=q2 p hp
 rw[e];exact Bool.false_ne_true
theorem join_tree{l:Addr}{o:Obj}{items:Array Value}{Q:Value->Shared->Prop}(aH:s.heap.get? l=some o)(aw:o.cls=.type "list")(aB:o.data=.seq items n)(ag:lU items.toList bg)(hz:tW bg<=1000000)
 (aP:∀d3 k,Q (.bytes (qE bg) d3) {s with toks:=k}):
 wpAny (model prog w) A (Builtin.«bytes.join» ⟨[.bytes #[] t,.ref l],[]⟩) (λcA aY=>∃v,cA=.done (.ret v)/\Q v aY) E s:=by
 have hT:s.TypeIs (.ref l) "list":=⟨o,aH,aw⟩
 show wpAny _ _ (Builtin.Bytes.joinM .bytes ⟨[.bytes #[] t,.ref l],[]⟩) _ _ _
 unfold Builtin.Bytes.joinM
 refine wpAny_bind (wpAny_of_eq (a:=(.bytes #[] t,.ref l)) rfl ?_)
 dsimp only
 refine bm_if_true (by decide) ?_
 refine wpAny_bind ?_
 unfold Builtin.Bytes.joinItems
 refine wpAny_bind (wpAny_typeOf hT ?_)
 refine bm_if_true (by decide) ?_
 refine wpAny_pure ?_
 refine wpAny_bind (wpAny_seqItems aH aB ?_)
 dsimp only
 refine bm_if_true (by decide) ?_
 refine Xu (P:=λm=>wpAny (model prog w) A m (λcA aY=>∃v,cA=Fin.done (.ret v)/\Q v aY) E s) (λx e=>?_) ?_
 .rw[e] at ag
  obtain⟨b,u,h1,h2⟩:=ag.at (i:=0) (Nat.zero_lt_one)
  rw[show x=_ from Option.some.inj h1]
  refine wpAny_bind (wpAny_typeOf (typeIs_bytes _ _ _) ?_)
  refine bm_if_true (by decide) ?_
  refine wpAny_bind (wpAny_rule (wpAny_pure ⟨_,rfl,?_⟩))
  have q:=aP u s.toks
  rw[List.length_eq_one_iff.mp ag.length.symm|>.choose_spec] at q h2
  rw[Option.some.inj h2] at q
  unfold qE at q
  rw[List.foldl_cons,List.foldl_nil,Array.empty_append] at q
  exact q
 have hsz:=ag.length
 have RS:∀{i:Nat},i<items.size->∃b t,items.getD i .none=.bytes b t/\bg[i]? =some b:=λ{i} hi=>by
  obtain⟨b,t,h1,h2⟩:=ag.at (i:=i) (by rw[Array.length_toList];exact hi)
  rw[Array.getElem?_toList] at h1
  exact⟨b,t,by rw[Array.getD_eq_getD_getElem?,h1];rfl,h2⟩
 refine wpAny_bind (zQ _ (λi b aY=>aY=s/\i<=bg.length/\b.1.toList=bg.take i/\∀p∈b.2,∃c u,p=(Value.bytes c u,none)) _ _ (λi b aY hi h=>?_) (λb aY h=>?_) _ ⟨rfl,Nat.zero_le _,rfl,λp hp=>nomatch hp⟩)
 .obtain⟨es,_,sX,q2⟩:=h
  rw[es]
  refine wpAny_bind (wpAny_seqItems aH aB ?_)
  dsimp only
  obtain⟨c,u,a8,a7⟩:=RS hi
  rw[a8]
  refine bm_if_false (by rw[TM q2];decide) ?_
  refine wpAny_bind (wpAny_holding (wpAny_of_eq Z5 ?_))
  dsimp only
  refine wpAny_bind (wpAny_seqItems aH aB ?_)
  dsimp only
  refine bm_if_false (bne_self_eq_false _) ?_
  refine wpAny_pure ⟨rfl,by rw[<-hsz,Array.length_toList];exact hi,?_,λp hp=>?_⟩
  .rw[Array.toList_push,sX,List.take_add_one,a7];rfl
  .rcases List.mem_append.mp hp with hp|hp
   .exact q2 p hp
   .rw[List.mem_singleton] at hp;exact⟨_,_,hp⟩
 .obtain⟨es,_,sX,q2⟩:=h
  rw[es]
  rw[<-Array.length_toList,hsz,List.take_length] at sX
  refine wpAny_bind (wpAny_pure ?_)
  refine bm_if_false (by
   rw[aae sX];unfold Builtin.Bytes.tooLong sizeLine;simp;exact aC.WJ hz) ?_
  rw[Sw,sX]
  refine wpAny_bind (wpAny_mkBytes ?_ (by rw[JN];unfold sizeLine;omega))
  refine wpAny_bind (wpAny_holding (wpAny_point ?_))
  refine wpAny_bind (Hh (wpAny_pure ⟨_,rfl,aP _ _⟩) q2)
end
noncomputable def bytesOf:List J->Option (List (List UInt8))
 |[]=>some []
 |.bytes b::r=>(bytesOf r).map λl=>b::l
 |_=>none
theorem Na(a:aM prog w W n v ay)(e:bytesOf (v::vs)=some l):∃b t q,ay=.bytes b t/\bytesOf vs=some q/\l.map List.toArray=b::q.map List.toArray:=
 aM.casesOn (motive_1:=λv ay _=>bytesOf (v::vs)=some l->∃b t q,ay=.bytes b t/\bytesOf vs=some q/\l.map List.toArray=b::q.map List.toArray) a (λe=>aq e) (λ_ e=>aq e) (λ_ _ e=>aq e) (λ_ _ e=>aq e)
  (λb t e=>by obtain⟨q,bZ,e⟩:=Option.map_eq_some_iff.mp e;exact⟨_,t,q,rfl,bZ,e▸rfl⟩) (λ_ _ e=>aq e) (λ_ _ _ _ e=>aq e) (λ_ _ _ _ e=>aq e) (λ_ e=>aq e) (λ_ e=>aq e) (λ_ e=>aq e) e
theorem Nb(r:bt prog w W n vs bG)(e:bytesOf vs=some l):lU bG (l.map List.toArray):=
 r.ind (P:=λvs bG=>∀l,bytesOf vs=some l->lU bG (l.map List.toArray)) (λl e=>Option.some.inj e▸.nil) (λa _ aX l e=>by
  obtain⟨b,t,q,a8,bZ,a7⟩:=Na a e
  rw[a8,a7];exact .cons (aX q bZ)) l e
theorem Em(l:List (List UInt8)):qE (l.map List.toArray)=l.flatten.toArray:=by
 have key:∀(l:List (List UInt8)) (a:List UInt8),(l.map List.toArray).foldl (·++·) a.toArray=(a++l.flatten).toArray:=by
  intro l
  induction l with
  |nil=>intro a;simp
  |cons b r aX=>intro a;rw[List.map_cons,List.foldl_cons,List.append_toArray,aX,List.flatten_cons,List.append_assoc]
 exact key l []
theorem ZD(l:List (List UInt8)):tW (l.map List.toArray)=l.flatten.length:=by
 rw[<-JN,Em];simp
noncomputable def wa:bX
 |[.bytes [],v],σ=>(eW v σ).bind λvs=>(bytesOf vs).bind λl=>if l.flatten.length<=1000000 then some (.bytes l.flatten,σ) else none
 |_,_=>none
theorem c1.TK(c:J->List J)(cc:Value->List Value)(r:aM prog w W σ.next a bq)(y:∀u,c1 prog w h₁ k t F W σ (c (.bytes [])) (cc (.bytes #[] u)))(Tt:autoParam (∀x y aA,aJ (F (c (.bytes (x::y))) σ) aA->False) rR._auto_1)
 (hg:autoParam (∀aA,aJ (F (c .none) σ) aA->False) i1._auto_1)(gI:autoParam (∀x aA,aJ (F (c (.bool x)) σ) aA->False) cQ._auto_1)(hN:autoParam (∀x aA,aJ (F (c (.int x)) σ) aA->False) cQ._auto_1)(gL:autoParam (∀x aA,aJ (F (c (.str x)) σ) aA->False) cQ._auto_1)
 (iB:autoParam (∀x aA,aJ (F (c (.bk x)) σ) aA->False) cQ._auto_1)(iA:autoParam (∀x aA,aJ (F (c (.bo x)) σ) aA->False) cQ._auto_1)(hc:autoParam (∀x aA,aJ (F (c (.cw x)) σ) aA->False) cQ._auto_1)
 (gK:autoParam (∀x y z aA,aJ (F (c (.e8 x y z)) σ) aA->False) oJ._auto_1)(jh:autoParam (∀x aA,aJ (F (c (.ref x)) σ) aA->False) cQ._auto_1)(gJ:autoParam (∀x aA,aJ (F (c (.bS x)) σ) aA->False) cQ._auto_1):c1 prog w h₁ k t F W σ (c a) (cc bq):=
 .bytes c cc r (λx u=>List.casesOn (motive:=λx=>c1 prog w h₁ k t F W σ (c (.bytes x)) (cc (.bytes x.toArray u))) x (y u) λa b=>.cH (Tt a b)) hg gI hN gL iB iA hc gK jh gJ
theorem T3:OpOk prog w h₁ k (λvs=>call (.builtin "bytes.join") vs) wa:=
 .fm λW σ a bq r cg bO aI=>.TK (λa=>a::r) (λa=>a::cg) bO λu=>.more (λr=>_::r) (λr=>_::r) aI λb bP q dE cK bZ=>.end (λq=>_::_::q) (λq=>_::_::q) bZ λA s Q E aE aW R=>wpN.of<|by
 obtain⟨vs,a0,aW⟩:=(aJ.gR aW).cv
 obtain⟨l,aG,aW⟩:=(aJ.gR aW).cv
 obtain⟨hz,aW⟩:=aJ.fR aW
 obtain⟨a,items,e,⟨o,aH,aw,n,aB⟩,q⟩:=gH R cK a0
 rw[e]
 refine wpAny_call_entry Ee (typeIs_bytes _ _ _) M3 (join_tree aH aw aB (Nb q aG) (by rw[ZD];exact hz) λd3 jA=>?_) (M0 _ _)
 rw[Em]
 exact c7.at aW R (.bytes _ _) _
end
section
open PySem.SeqAt
section
variable{prog:Program}{w:World}{A:Around}{E:Value->Shared->Prop}{s:Shared}
theorem TG(hit:KBw.IsBytesIter s.heap it b t i)(av:b[i]? =some c)
 (aP:∀h',KBw.IsBytesIter h' it b t (i+1)->Heap.SameBut it s.heap h'->Q (.int (c.toNat:Int) s.toks) {s with heap:=h',toks:=s.toks+1}):
 wpAny (model prog w) A (Builtin.SmallTypes.nextOf (.ref it)) Q E s:=by
 obtain⟨o,aH,aw,aB⟩:=id hit
 unfold Builtin.SmallTypes.nextOf
 refine wpAny_bind (wpAny_callSpecial?_slot (name:=PySem.Str.ofString "__next__") (KBw.iter_typeIs hit) KBw.slot_next
  (wpAny_call_entry KBw.slot_next (KBw.iter_typeIs hit) KBw.entry_next ?_ (KBw.args_next _)))
 show wpAny _ _ (field (.ref it) 0>>=_) _ _ s
 refine wpAny_bind (wpAny_field aH aB (x:=.bytes b t) rfl ?_)
 show wpAny _ _ (if(Value.bytes b t==Value.none)=true then _ else _) _ _ s
 first|refine h8 (show ¬((Value.bytes b t==Value.none)=true) from Bool.false_ne_true) ?_|refine kc (show ¬((Value.bytes b t==Value.none)=true) from Bool.false_ne_true) ?_
 show wpAny _ _ (field (.ref it) 1>>=_) _ _ s
 refine wpAny_bind (wpAny_field aH aB (x:=.int i 0) rfl ?_)
 refine wpAny_bind (wpAny_of_eq (a:=b) rfl ?_)
 simp only[Int.toNat_natCast,av]
 refine wpAny_bind (wpAny_setField aH aB (by simp) (wpAny_bind (wpAny_mkInt (wpAny_pure ⟨_,rfl,wpAny_pure (aP _ ?_ (Heap.SameBut.update ..))⟩))))
 exact⟨_,Heap.get?_update_self _ aH (Obj.isFreed_of_fields (Obj.data_mapFields aB _)),(Obj.cls_mapFields ..).trans aw,by
  rw[Obj.data_mapFields aB];simp[rawInt]⟩
theorem TF(hh:A.handled=none)(hit:KBw.IsBytesIter s.heap it b t i)(av:b[i]? =none)
 (hE:∀h' e,Heap.ExtBut it s.heap h'->(∃o,h'.get? e=some o/\o.cls=.type "StopIteration")->E (.ref e) {s with heap:=h'}):
 wpAny (model prog w) A (Builtin.SmallTypes.nextOf (.ref it)) Q E s:=by
 obtain⟨o,aH,aw,aB⟩:=id hit
 unfold Builtin.SmallTypes.nextOf
 refine wpAny_bind (wpAny_callSpecial?_slot (name:=PySem.Str.ofString "__next__") (KBw.iter_typeIs hit) KBw.slot_next
  (wpAny_call_entry KBw.slot_next (KBw.iter_typeIs hit) KBw.entry_next ?_ (KBw.args_next _)))
 show wpAny _ _ (field (.ref it) 0>>=_) _ _ s
 refine wpAny_bind (wpAny_field aH aB (x:=.bytes b t) rfl ?_)
 show wpAny _ _ (if(Value.bytes b t==Value.none)=true then _ else _) _ _ s
 first|refine h8 (show ¬((Value.bytes b t==Value.none)=true) from Bool.false_ne_true) ?_|refine kc (show ¬((Value.bytes b t==Value.none)=true) from Bool.false_ne_true) ?_
 show wpAny _ _ (field (.ref it) 1>>=_) _ _ s
 refine wpAny_bind (wpAny_field aH aB (x:=.int i 0) rfl ?_)
 refine wpAny_bind (wpAny_of_eq (a:=b) rfl ?_)
 simp only[Int.toNat_natCast,av]
 refine wpAny_bind (wpAny_rule (wpAny_bind (wpAny_setField aH aB (by simp) ?_)))
 show wpAny _ _ (newExc (.type "StopIteration") []>>=_) _ _ _
 refine wpAny_bind ?_
 simp only[newExc,newTuple]
 refine wpAny_bind (wpAny_newObj_type ?_ (by size_fits))
 refine wpAny_bind (m:=firstArgMember _ _) (wpAny_of_eq (a:=Value.none) (by first|rfl|(simp only[firstArgMember];rfl)) ?_)
 refine wpAny_newObj_type ?_ (by size_fits)
 simp only[raiseNew]
 refine wpAny_bind (wpAny_handled ?_)
 first|rw[show A.in1.handled=none from hh]|rw[hh]
 refine wpAny_bind (wpAny_pure (wpAny_throw ?_))
 exact hE _ _ (((Heap.SameBut.update ..).extBut.push _).push _) ⟨_,Heap.get?_push_size _ rfl,rfl⟩
theorem OO(hh:A.handled=none)(it:Addr)(b:Array UInt8)(t:Tok):
 Draws prog w A it [it] b.size (λi v=>∃c u,b[i]? =some c/\v=.int (c.toNat:Int) u) (λi h=>KBw.IsBytesIter h it b t i) where
 live:=λ_ _ st=>let⟨o,aH,_⟩:=st;⟨o,aH⟩
 frame:=λ_ _ _ st hk=>let⟨o,aH,r⟩:=st;⟨o,hk it (by simp) o aH,r⟩
 item:=λi s Q E hi st aP=>by
  refine TG st (c:=b[i]) (by simp[hi]) λh' pC h7=>?_
  exact aP _ h' (s.toks+1) ⟨_,_,by simp[hi],rfl⟩ pC h7
 done:=λs Q E st hE=>TF hh st (by simp) hE
theorem XU(h:∀b,Q b s):wpAny (model prog w) A (pure b) Q E s:=wpAny_pure (h b)
set_option maxHeartbeats 1000000 in
theorem Tp(x:Array UInt8)(t:Tok):
 Meets (Builtin.«enumerate.__new__» ⟨[.type "enumerate",.bytes x t],[]⟩) (λ_ R s=>
  R (.ok (.ret (.ref (s.heap.push {cls:=.type "bytes_iterator",data:=.fields #[.bytes x t,.int 0 0]}).objs.size)))
    {s with heap:=(s.heap.push {cls:=.type "bytes_iterator",data:=.fields #[.bytes x t,.int 0 0]}).push {cls:=.type "enumerate",data:=.fields #[.none,.bool false,.ref s.heap.objs.size,rawInt 0,.none,.none]}}):=
 .of_wp λprog w A R s h=>by
  obtain⟨hp,g,d,b7,os⟩:=s
  have AB:=sub_enumerate
  wp_walk
  refine wpAny_stack_any λst=>XU λb=>?_
  cases b
  .wp_walk using KBw.pyIter_bytes
   exact⟨_,rfl,h⟩
  .wp_walk using KBw.pyIter_bytes
   exact⟨_,rfl,h⟩
theorem Nj
 (h:∀h',IsEnum h' (s.heap.objs.size+1) s.heap.objs.size 0 .none->KBw.IsBytesIter h' s.heap.objs.size x t 0->h'.objs.size=s.heap.objs.size+2->
   (∀b o,s.heap.get? b=some o->h'.get? b=some o)->Q (.ref (s.heap.objs.size+1)) {s with heap:=h'}):
 wpAny (model prog w) A (call (.type "enumerate") [.bytes x t]) Q E s:=by
 refine callType_new F.called_enumerate (by decide) (F.typeCall_enumerate_1 _) (F.newCall_enumerate_1 _) (λobj=>F.args_object_init_2 obj _) F.entry_enumerate_new
  (Tp x t) ?_
 have hz:(s.heap.push {cls:=.type "bytes_iterator",data:=.fields #[.bytes x t,.int 0 0]}).objs.size=s.heap.objs.size+1:=Heap.size_push ..
 show _/\_
 rw[hz]
 have bV:IsEnum ((s.heap.push {cls:=.type "bytes_iterator",data:=.fields #[.bytes x t,.int 0 0]}).push
  {cls:=.type "enumerate",data:=.fields #[.none,.bool false,.ref s.heap.objs.size,rawInt 0,.none,.none]}) (s.heap.objs.size+1) s.heap.objs.size 0 .none:=by
  have:=Heap.get?_push_size (s.heap.push {cls:=.type "bytes_iterator",data:=.fields #[.bytes x t,.int 0 0]})
   (o:={cls:=.type "enumerate",data:=.fields #[.none,.bool false,.ref s.heap.objs.size,rawInt 0,.none,.none]}) rfl
  rw[hz] at this;exact this
 refine⟨⟨_,bV,rfl⟩,h _ bV ⟨_,Heap.get?_push_of_some _ (Heap.get?_push_size _ rfl),rfl,rfl⟩ (by rw[Heap.size_push,hz]) λb o y=>Heap.get?_push_of_some _ (Heap.get?_push_of_some _ y)⟩
end
end
section
open PySem.SeqAt
variable{prog:Program}{w:World}{h₁:Heap}{K:Frag}{own:Bool}{env:Env}{ns:List Str}{k:Nat}
structure uS (prog:Program) (w:World) (h₁:Heap) (src:J) (ay:Value) (items:List J) (aO:Addr) (P:Nat->Obj->Prop):Prop where
 draw:∀(A:Around) (W:az) (σ:St) (h:Heap) (i:Nat) (o:Obj),A.handled=.none->bw prog w h₁ W σ h->aM prog w W σ.next src ay->dO src σ=some items->h.get? aO=some o->P i o->W.role aO=.fix o->
  ∃vB uY S,Draws prog w A aO vB items.length uY S/\S i h/\(∀ai v,uY ai v->∃x,items[ai]? =some x/\aM prog w W σ.next x v)/\(∀ai h',S ai h'->∃cO,h'.get? aO=some cO/\P ai cO)/\(∀e cO,W.role e=.fix cO->e≠aO->e∉vB)
theorem ON(hs:src=.bo items\/∃c,src=.ref c)(ka:ay=.ref a):
 uS prog w h₁ src ay items aO λi o=>o.cls=.type "list_iterator"/\o.data=.fields #[.ref a,.int i 0]:=by
 have bW:∀{σ:St},dO src σ=some items->src=.bo items\/∃c,src=.ref c/\σ.cells c=some (.list items):=by
  intro σ hi
  rcases hs with e|⟨c,e⟩
  .exact .inl e
  .rw[e] at hi;exact .inr ⟨c,e,c6.v9 hi⟩
 refine⟨λA W σ h i o hh R a0 hi aH cG cP=>?_⟩
 obtain⟨bq,dq,e,aG,aI,GZ⟩:=A1 R a0 (bW hi)
 rw[<-Value.ref.inj (ka.symm.trans e)] at aG GZ
 have D8:∀{b cO},b=a->W.role b=.fix cO->False:=λe oz=>by
  rw[e] at oz
  rcases GZ with⟨_,r⟩|⟨_,r⟩
  .exact bL.no r oz
  .exact bL.no r oz
 have len:dq.size=items.length:=by rw[<-Array.length_toList];exact aI.length
 refine⟨_,_,_,len▸Draws.list hh aO a (λe=>D8 e.symm cP) dq,⟨⟨o,aH,cG⟩,aG⟩,λai v cD=>?_,λai h' gT=>?_,λe cO oz bV hm=>?_⟩
 .have df:ai<items.length:=by rw[<-len];exact(Array.getElem?_eq_some_iff.mp cD).1
  obtain⟨gx,h2,bJ⟩:=aI.get (List.getElem?_eq_getElem df)
  rw[Array.getElem?_toList,cD] at h2
  exact⟨_,List.getElem?_eq_getElem df,Option.some.inj h2▸bJ⟩
 .obtain⟨⟨cO,fV,lq⟩,_⟩:=gT
  exact⟨cO,fV,lq⟩
 .rcases List.mem_cons.mp hm with a8|hm
  .exact bV a8
  .exact D8 (List.mem_singleton.mp hm) oz
theorem OM(ka:ay=.bytes b.toArray t):
 uS prog w h₁ (.bytes b) ay (b.map λx=>J.int x.toNat) aO λi o=>o.cls=.type "bytes_iterator"/\o.data=.fields #[.bytes b.toArray t,.int i 0]:=by
 subst ka
 refine⟨λA W σ h i o hh R a0 hi aH cG cP=>?_⟩
 have ES:=OO (prog:=prog) (w:=w) hh aO b.toArray t
 rw[show b.toArray.size=(b.map λx=>J.int x.toNat).length by simp] at ES
 refine⟨_,_,_,ES,⟨o,aH,cG⟩,λai v cD=>?_,λai h' gT=>?_,λe cO oz bV hm=>?_⟩
 .obtain⟨c,u,aw,rfl⟩:=cD
  exact⟨.int c.toNat,by rw[List.getElem?_map];simp at aw;rw[aw];rfl,.int _ _⟩
 .obtain⟨cO,fV,lq⟩:=gT
  exact⟨cO,fV,lq⟩
 .rw[List.mem_singleton] at hm;exact bV hm
theorem SU(h:eW src σ=some vs)(hi:dO src σ=some items):src=.bo items\/∃c,src=.ref c:=by
 rcases src with _|_|_|_|_|_|x|_|_|c|_
 .exact aq h
 .exact aq h
 .exact aq h
 .exact aq h
 .exact aq h
 .exact aq h
 .exact .inl (congrArg J.bo (Option.some.inj hi))
 .exact aq h
 .exact aq h
 .exact .inr ⟨c,rfl⟩
 .exact aq h
theorem O4(R:bw prog w h₁ W σ s.heap)(a0:aM prog w W σ.next src ay)(hi:dO src σ=some items)(hk:(eW src σ).isSome=true\/∃b,src=.bytes b)
 (aP:∀h' P o,IsEnum h' (s.heap.objs.size+1) s.heap.objs.size 0 .none->h'.get? s.heap.objs.size=some o->P 0 o->(∀b o,s.heap.get? b=some o->h'.get? b=some o)->uS prog w h₁ src ay items s.heap.objs.size P->Q (.ref (s.heap.objs.size+1)) {s with heap:=h'}):
 wpAny (model prog w) A (call (.type "enumerate") [ay]) Q E s:=by
 rcases hk with hk|⟨b,rfl⟩
 .obtain⟨vs,vY⟩:=Option.isSome_iff_exists.mp hk
  obtain⟨a,dq,rfl,aG,aI⟩:=gH R a0 vY
  refine call_enumerate_list aG λh' bV hit hz hk=>?_
  obtain⟨o,aH,cG⟩:=hit
  exact aP h' _ o bV aH cG hk (ON (SU vY hi) rfl)
 .rw[<-Option.some.inj hi] at aP
  obtain⟨t,e⟩:=a0.bc
  rw[e] at aP⊢
  refine Nj λh' bV hit hz hk=>?_
  obtain⟨o,aH,cG⟩:=hit
  exact aP h' _ o bV aH cG hk (OM rfl)
open Classical in
noncomputable def lJ(src:J)(items:List J)(bind:J->Loc->Option Loc)(body:cf):Nat->List J->cf
 |_,[],U,σ=>if dO src σ=some items then some (.next,U,σ) else none
 |i,x::rest,U,σ=>if dO src σ=some items then(bind (.bk [.int i,x]) U).bind λA'=>(body A' σ).bind λr=>match r with
    |(.next,l,s)=>lJ src items bind body (i+1) rest l s
    |(.cont,l,s)=>lJ src items bind body (i+1) rest l s
    |(.brk,l,s)=>some (.next,l,s)
    |(.ret v,l,s)=>some (.ret v,l,s)
  else none
open Classical in
noncomputable def mQ(D:cW)(bind:J->Loc->Option Loc)(body:cf):cf:=λU σ=>(D U σ).bind λr=>(dO r.1 r.2).bind λitems=>if(eW r.1 r.2).isSome=true\/(∃b,r.1=.bytes b) then lJ r.1 items bind body 0 items U r.2 else none
theorem bC.Sz{U:Loc}(R:bC prog w h₁ own env ns W U σ h)(e:∀a o,W.role a≠.free->h.get? a=some o->h'.get? a=some o):bC prog w h₁ own env ns W U σ h':=by
 have cZ:∀a,W.role a≠.free->h'.get? a=h.get? a:=λa ha=>by
  obtain⟨o,aH⟩:=R.bE.live a ha
  rw[aH];exact e a o ha aH
 refine R.next (R.bE.keep (λa ha _=>cZ a ha) λa ha=>?_) az.le.refl (Nat.le_refl _) λa ha=>cZ a (bL.ne ha)
 have:W.role a≠.free:=bL.ne ha
 rw[cZ a this];exact R.bE.live a this
theorem bC.vH{U:Loc}(R:bC prog w h₁ own env ns W U σ h)(ha:W.role a=.free)(aH:h.get? a=some o):bC prog w h₁ own env ns (W.aS a (.fix o)) U σ h:=
 R.next (R.bE.hu ha ⟨o,aH⟩ (λ_ e=>nomatch e) (λcO e=>by cases e;exact aH)) (az.gG ha) (Nat.le_refl _) λ_ _=>rfl
theorem bC.Gp{U:Loc}(R:bC prog w h₁ own env ns W U σ h)(ha:W.role a=.free)(aH:h.get? a=some o):bC prog w h₁ own env ns (W.aS a (.imm o)) U σ h:=
 R.next (R.bE.hu ha ⟨o,aH⟩ (λcO e=>by cases e;exact aH) (λ_ e=>nomatch e)) (az.gG ha) (Nat.le_refl _) λ_ _=>rfl
noncomputable abbrev E3(it:Addr)(i:Int)(old:Value):Obj:={cls:=.type "enumerate",dict:=none,data:=.fields #[.none,.bool false,.ref it,rawInt i,.none,old],slots:= #[]}
structure oQ (prog:Program) (w:World) (h₁:Heap) (env:Env) (ns:List Str) (aO:Addr) (P:Nat->Obj->Prop) (br:az) (ae:Nat) (i:Nat) (bH:az) (a':Loc) (bD:St) (h2:Heap):Prop where
 R:bC prog w h₁ true env ns bH a' bD h2
 f:∃dI old,bH.role aO=.fix dI/\P i dI/\bH.role (aO+1)=.fix (E3 aO i old)
 le:br.le ae bH
 e7:ae<=bD.next
theorem oQ.drop(J:oQ prog w h₁ env ns aO P br ae i bH a' bD h2)(dN:br.role aO=.free)(l4:br.role (aO+1)=.free)(ag:∀a x,a≠aO+1->a≠aO->h2.get? a=some x->h4.get? a=some x):
 bC prog w h₁ true env ns ((bH.aS aO .free).aS (aO+1) .free) a' bD h4/\br.le ae ((bH.aS aO .free).aS (aO+1) .free)/\bH.eM bD.next ((bH.aS aO .free).aS (aO+1) .free):=by
 obtain⟨dI,old,cP,_,w0⟩:=J.f
 have Jw:=(az.b' (r:=.free) (Nat.succ_ne_self aO)).trans w0
 obtain⟨DD,bA⟩:=J.R.drop cP (J.R.nR cP)
 obtain⟨xH,a'⟩:=DD.drop Jw (DD.nR Jw)
 refine⟨xH.Sz λa oa ha hL=>ag a oa (λe=>ha ?_) (λe=>ha ?_) hL,az.m8 (az.m8 J.le dN) l4,bA.trans (Nat.le_refl _) a'⟩
 .rw[e];exact az.cX
 .rw[e];exact(az.b' (Nat.succ_ne_self aO).symm).trans az.cX
theorem oQ.item(J:oQ prog w h₁ env ns aO P br ae i bH a' bD h2)(dN:br.role aO=.free)(l4:br.role (aO+1)=.free)(Pb:bH.role T=.free)(tx:aO≠T)(rl:aO+1≠T)
 (aH:fJ.get? aO=some ic)(bV:fJ.get? (aO+1)=some e3)(ht:fJ.get? T=some Je)(ag:∀a x,a≠aO+1->a≠aO->h2.get? a=some x->fJ.get? a=some x):
 ∃bY,bC prog w h₁ true env ns bY a' bD fJ/\bY.role aO=.fix ic/\bY.role (aO+1)=.fix e3/\bY.role T=.imm Je/\br.le ae bY/\bH.eM bD.next bY:=by
 obtain⟨Ll,SN,SS⟩:=J.drop dN l4 ag
 have ne:=Nat.succ_ne_self aO
 have g1:((bH.aS aO .free).aS (aO+1) .free).role aO=.free:=(az.b' ne.symm).trans az.cX
 have g2:((bH.aS aO .free).aS (aO+1) .free).role (aO+1)=.free:=az.cX
 have g3:((bH.aS aO .free).aS (aO+1) .free).role T=.free:=(az.b' rl.symm).trans ((az.b' tx.symm).trans Pb)
 generalize(bH.aS aO .free).aS (aO+1) .free=abJ at*
 have F8:=(az.b' (r:=.fix ic) ne).trans g2
 have F9:=(az.b' (r:=.fix e3) rl.symm).trans ((az.b' (r:=.fix ic) tx.symm).trans g3)
 have bA:=az.gG (n:=bD.next) (r:=.fix ic) g1
 have a':=az.gG (n:=bD.next) (r:=.fix e3) F8
 have cR:=az.gG (n:=bD.next) (r:=.imm Je) F9
 have l:=(bA.trans (Nat.le_refl _) a').trans (Nat.le_refl _) cR
 exact⟨_,((Ll.vH g1 aH).vH F8 bV).Gp F9 ht,(az.b' tx).trans ((az.b' ne.symm).trans az.cX),(az.b' rl).trans az.cX,az.cX,SN.trans J.e7 l,SS.trans (Nat.le_refl _) l.1⟩
inductive K9 (prog:Program) (w:World) (h₁:Heap) (env:Env) (ns:List Str) (aO:Addr) (P:Nat->Obj->Prop) (br:az) (ae:Nat) (items:List J) (M:Nat->List J->Loc->St->Prop) (n:Nat) (bH:az) (a':Loc) (bD:St) (h2:Heap):Prop
 |mk (i:Nat) (rest:List J) (aV:n=rest.length) (aI:items.drop i=rest) (hi:i<=items.length) (J:oQ prog w h₁ env ns aO P br ae i bH a' bD h2) (ao:M i rest a' bD)
theorem PG{bind:J->Loc->Option Loc}(ht:kv prog w h₁ true env ns k (.Tuple es ai B8) bind)(ag:SOk prog w h₁ env ns k (execs body env) jR)(aE:eC A k){src:J}{ih:Value}{items:List J}{P:Nat->Obj->Prop}
 (uh:uS prog w h₁ src ih items aO P){br:az}{ae:Nat}(bb:aM prog w br ae src ih)(dN:br.role aO=.free)(l4:br.role (aO+1)=.free){s:Shared}{R:Result->Shared->Prop}
 {bH:az}{a':Loc}{bD:St}{h2:Heap}{tk2:Nat}(J:oQ prog w h₁ env ns aO P br ae 0 bH a' bD h2)(ao:aJ (lJ src items bind jR 0 items a' bD) (uV prog w h₁ env ns br ae s R)):
 eQ (model prog w) A (.forLoop (.Tuple es ai B8) (.ref (aO+1)) body [] env) R {s with heap:=h2,toks:=tk2}:=by
 refine Ex (uU s (K9 prog w h₁ env ns aO P br ae items λi rest l σ=>aJ (lJ src items bind jR i rest l σ) (uV prog w h₁ env ns br ae s R))) ?_ items.length ⟨bH,a',bD,h2,tk2,rfl,0,items,rfl,rfl,Nat.zero_le _,J,ao⟩
 clear J ao
 intro n aY h
 obtain⟨bH,a',bD,aQ,tk2,es,h⟩:=h
 obtain⟨i,rest,aV,aI,hi,J,ao⟩:=h
 rcases rest with _|⟨x,rest⟩<;>rw[es,aV]<;>refine eK λG bT=>?_<;>
  obtain⟨dI,old,cP,l8,w0⟩:=J.f<;>
  have mT:=J.R.bE.fix _ _ cP<;>
  have z1:IsEnum aQ (aO+1) aO i old:=J.R.bE.fix _ _ w0<;>
  have bJ:aM prog w bH bD.next src ih:=bb.a4 J.le.1 J.e7<;>
  have fi:=Nat.succ_ne_self aO
 .obtain⟨hit,ao⟩:=aJ.fR ao
  obtain⟨vB,uY,S,xq,gT,_,_,_⟩:=uh.draw A.in1 bH _ aQ i dI aE.h J.R.bE bJ hit mT l8 cP
  rw[Nat.le_antisymm hi (List.drop_eq_nil_iff.mp aI)] at gT
  refine bT<|wpN.of<|wpAny_pyNext_enum_endD (s:={s with heap:=aQ,toks:=tk2}) xq z1 gT λh4 QW=>wpN.of<|wpAny_execs_nil ?_
  obtain⟨sh,le,_⟩:=J.drop dN l4 (h4:=h4) λa oa _ ha hL=>QW a oa ha hL
  exact ao _ .next h4 tk2 le J.e7 sh trivial
 .obtain⟨hit,ao⟩:=aJ.fR ao
  obtain⟨cR,e4,ao⟩:=(aJ.gR ao).cv
  obtain⟨av,aI⟩:=vn aI
  have df:=(List.getElem?_eq_some_iff.mp av).1
  obtain⟨vB,uY,S,xq,gT,QK,QO,Q5⟩:=uh.draw A.in1 bH _ aQ i dI aE.h J.R.bE bJ hit mT l8 cP
  refine bT<|wpN.of<|wpAny_pyNext_enum_itemD (s:={s with heap:=aQ,toks:=tk2}) xq z1 gT df fi (Q5 _ _ w0 fi) λdC h4 oC je QH QN QP abX Rd=>?_
  refine wpN.of<|wpAny_letOwnedTupleGo_enum (s:={s with heap:=h4,toks:=oC+1}) QH λfJ QG q0=>eK λG bT=>?_
  obtain⟨dR,AF,eB⟩:=QK i dC je
  rw[<-Option.some.inj (av.symm.trans AF)] at eB
  have rl:=Nat.ne_of_lt (Heap.lt_size z1)
  have tx:=Nat.ne_of_lt (Heap.lt_size mT)
  obtain⟨ic,Rz,mV⟩:=QO _ _ QN
  obtain⟨bY,Lk,X4,X3,X5,kO,tn⟩:=J.item (e3:=E3 aO ((i+1:Nat):Int) dC) dN l4 (J.R.bE.free (Nat.le_refl _)) tx rl ((q0.2 aO fi.symm).trans Rz) (by rw[QG];rfl) ((q0.2 _ rl.symm).trans QP) λa oa h1 h2 hL=>(q0.2 a h1).trans (Rd a oa h1 h2 hL)
  refine bT<|wpN.of<|ht A bY a' cR bD (.bk [.int i,x]) (.ref aQ.objs.size) _ _ _ aE e4 Lk (.bk X5 (.cons (.int _ _) (.cons (eB.a4 tn (Nat.le_refl _)) .nil))) λc4 J9 jW=>ag.go aE ao.bind jW λvt p ao hW sD n7 rK hy fw eP tT=>?_
  have jY:oQ prog w h₁ env ns aO P br ae (i+1) hW p.1 p.2 n7:=⟨eP,⟨ic,dC,hy.2.1 _ _ X4,mV,hy.2.1 _ _ X3⟩,kO.trans J.e7 hy,Nat.le_trans J.e7 fw⟩
  revert ao
  refine kr.rv tT (λao=>?_) (λao=>?_) (λao=>?_) (λv ay e' ao=>?_)
  .exact⟨rest.length,Nat.lt_succ_self _,hW,p.1,p.2,n7,rK,rfl,i+1,rest,rfl,aI,df,jY,ao⟩
  .exact ao hW .next n7 rK jY.le jY.e7 eP trivial
  .exact⟨rest.length,Nat.lt_succ_self _,hW,p.1,p.2,n7,rK,rfl,i+1,rest,rfl,aI,df,jY,ao⟩
  .exact ao hW _ n7 rK jY.le jY.e7 eP e'
theorem BU{lb:Pos}{bind:J->Loc->Option Loc}{jR:cf}
 (hf:bj prog w h₁ true env ns k (eval fn env) (I (.bS (.type "enumerate"))))(h:bj prog w h₁ true env ns k (eval e env) D)(ht:kv prog w h₁ true env ns k (.Tuple es ai B8) bind)(ag:SOk prog w h₁ env ns k (execs body env) jR)
 (ah:autoParam (starEach [e] env=[(false,eval e env)]) aL._auto_1)
 (aw:autoParam (eval (fn.Call [e] [] lb) env=(do let g<-eval fn env;callWith lb g [] (backTo lb (starEach [e] env)) (backToKw lb (keywordEach [] env)))) aL._auto_1)
 (Q6:autoParam (∀x,foldedSetIterable (fn.Call [e] [] lb) env x=pure x) ud._auto_1):SOk prog w h₁ env ns k (exec (.For (.Tuple es ai B8) (fn.Call [e] [] lb) body [] pos) env) (mQ D bind jR):=by
 refine .of λA W U σ s Q E aE ao R=>Kt ?_ Q6
 rw[aw]
 refine a5 (hf A W U σ _ σ s _ E aE rfl R λhH iY eg qc iw ab gi kj=>?_)
 rw[show iY=_ from kj.bc]
 refine rN rfl (by rw[ah];rfl) ?_
 rw[ah]
 refine rO (Cf (h.go aE ao.bind gi λsrc ct ao br ih h1 cE bA ae bu bb=>.of (wpAny_pure ?_)))
 have bA:=iw.trans ab bA
 have ae:=Nat.le_trans ab ae
 obtain⟨items,a7,ao⟩:=(aJ.gR ao).cv
 obtain⟨iu,ao⟩:=aJ.fR ao
 show wpN _ _ (call (.type "enumerate") [ih]) _ _ _
 refine wpN.of<|O4 (s:={s with heap:=h1,toks:=cE}) bu.bE bb a7 iu λh2 P o hE aH cG hk uh=>?_
 refine wpN.of<|wpAny_pyIter_enum (s:={s with heap:=h2,toks:=cE}) hE ?_
 have dN:br.role h1.objs.size=.free:=bu.bE.free (Nat.le_refl _)
 have l4:br.role (h1.objs.size+1)=.free:=bu.bE.free (Nat.le_succ _)
 have fi:=Nat.succ_ne_self h1.objs.size
 have Pa:=(az.b' (r:=.fix o) fi).trans l4
 exact PG ht ag aE uh bb dN l4 ⟨((bu.j6 hk).vH dN aH).vH Pa hE,⟨o,.none,(az.b' fi.symm).trans az.cX,cG,az.cX⟩,az.m8 (az.gG dN) l4,Nat.le_refl _⟩ (ao.imp λf p c bH g0 h' cI a' aK cn BO=>c bH g0 h' cI (bA.trans ae a') (Nat.le_trans ae aK) cn BO)
end
noncomputable def runK{α:Type}(lt:Nat->Nat->Bool):KasT α->α
 |.ret a=>a
 |.ask i ai k=>runK lt (k (lt i ai))
noncomputable def wk:List (Nat×Nat×Bool)->Nat->Nat->Bool
 |[],_,_=>false
 |(i,ai,true)::r,a,b=>(Nat.beq i a&&Nat.beq ai b)||wk r a b
 |(i,ai,false)::r,a,b=>(Nat.beq ai a&&Nat.beq i b)||wk r a b
noncomputable def AW(g:Nat->Nat->Bool):List (Nat×Nat×Bool)->Nat->Nat->Bool
 |[],_,_=>false
 |(i,ai,true)::r,a,b=>(Nat.beq i a&&g ai b)||AW g r a b
 |(i,ai,false)::r,a,b=>(Nat.beq ai a&&g i b)||AW g r a b
noncomputable def ra(l:List (Nat×Nat×Bool)):Nat->Nat->Nat->Bool
 |0,a,b=>wk l a b
 |f+1,a,b=>wk l a b||AW (ra l f) l a b
noncomputable def DN(l:List (Nat×Nat×Bool)):List Nat->Bool
 |a::b::r=>ra l 4 a b&&DN l (b::r)
 |_=>true
noncomputable def Bg:List Nat->Nat->Bool
 |[],_=>false
 |a::r,i=>Nat.beq a i||Bg r i
noncomputable def x6(p:List Nat):Nat->Bool
 |0=>true
 |n+1=>Bg p n&&x6 p n
noncomputable def wm:List Nat->Nat
 |[]=>0
 |_::r=>wm r+1
noncomputable def AX(n:Nat)(p:List Nat)(l:List (Nat×Nat×Bool)):Bool:=Nat.beq (wm p) n&&x6 p n&&DN l p
noncomputable def j3(n:Nat):KasT (Array Nat)->List (Nat×Nat×Bool)->Bool
 |.ret p,l=>AX n p.toList l
 |.ask i ai k,l=>Nat.ble (i+1) n&&Nat.ble (ai+1) n&&j3 n (k true) ((i,ai,true)::l)&&j3 n (k false) ((i,ai,false)::l)
theorem Nq:j3 2 (kas_sort 2) []=true:=by decide+kernel
theorem Nr:j3 3 (kas_sort 3) []=true:=by decide+kernel
theorem Nt:j3 4 (kas_sort 4) []=true:=by decide+kernel
theorem Nu:j3 5 (kas_sort 5) []=true:=by decide+kernel
set_option maxHeartbeats 0 in
theorem Nv:j3 6 (kas_sort 6) []=true:=by decide+kernel
theorem vf(h2:2<=n)(c4:n<=6):j3 n (kas_sort n) []=true:=by
 match n,h2,c4 with
 |2,_,_=>exact Nq
 |3,_,_=>exact Nr
 |4,_,_=>exact Nt
 |5,_,_=>exact Nu
 |6,_,_=>exact Nv
 |n+7,_,h=>exact(aC.WM h).elim
theorem AR(aw:∀i ai (aA:Bool->Shared->Prop),i<n->ai<n->aA (lt i ai) s->Nx i ai aA s):
 ∀(t:KasT (Array Nat)) (l:List (Nat×Nat×Bool)),j3 n t l=true->G (runK lt t) s->t.kasWp Nx G s
 |.ret a,l,_,h=>h
 |.ask i ai k,l,hk,h=>by
  simp only[j3,Bool.and_eq_true] at hk
  obtain⟨⟨⟨h1,h2⟩,aQ⟩,h4⟩:=hk
  refine aw i ai _ (Nat.le_of_ble_eq_true h1) (Nat.le_of_ble_eq_true h2) ?_
  simp only[runK] at h
  cases e:lt i ai with
  |true=>rw[e] at h;exact AR aw (k true) _ aQ h
  |false=>rw[e] at h;exact AR aw (k false) _ h4 h
noncomputable def jI(lt:Nat->Nat->Bool)(n:Nat):List Nat:=if n<2 then List.range n else(runK lt (kas_sort n)).toList
theorem Hs:∀p:List Nat,wm p=p.length
 |[]=>rfl
 |_::r=>by simp[wm,Hs r]
theorem w3:∀(t:KasT (Array Nat)) (l:List (Nat×Nat×Bool)),j3 n t l=true->(∀x∈l,lt x.1 x.2.1=x.2.2)->∃l',AX n (runK lt t).toList l'=true/\∀x∈l',lt x.1 x.2.1=x.2.2
 |.ret a,l,h,aG=>⟨l,h,aG⟩
 |.ask i ai k,l,hk,aG=>by
  simp only[j3,Bool.and_eq_true] at hk
  obtain⟨⟨_,aQ⟩,h4⟩:=hk
  simp only[runK]
  cases e:lt i ai with
  |true=>
   refine w3 (k true) _ aQ λx av=>?_
   rcases List.mem_cons.mp av with rfl|av
   .exact e
   .exact aG x av
  |false=>
   refine w3 (k false) _ h4 λx av=>?_
   rcases List.mem_cons.mp av with rfl|av
   .exact e
   .exact aG x av
theorem JT(c4:n<=6):(jI lt n).length=n:=by
 unfold jI
 split
 .simp
 .rename_i h
  obtain⟨l',h1,_⟩:=w3 (lt:=lt) _ _ (vf (by exact aC.rt h) c4) (λx av=>nomatch av)
  simp only[AX,Bool.and_eq_true] at h1
  rw[<-Hs];exact Nat.eq_of_beq_eq_true h1.1.1
noncomputable def jl(lt:Nat->Nat->Bool)(vs:List Value):List Value:=(jI lt vs.length).map λi=>vs.getD i .none
section
variable{prog:Program}{w:World}{A:Around}{E:Value->Shared->Prop}{s:Shared}
noncomputable def qj(prog:Program)(w:World)(A:Around)(lt:Nat->Nat->Bool)(vs:List Value)(s:Shared):Prop:=
 ∃dp,(∀Q:SortKind->Shared->Prop,Q dp s->wpAny (model prog w) A (keyKind' vs.toArray) Q (λ_ _=>False) s)/\∀i ai (aA:Bool->Shared->Prop),i<vs.length->ai<vs.length->aA (lt i ai) s->kas_ask prog w A dp vs i ai aA s
theorem range_getD:∀(vs:List Value),(List.range vs.length).map (λi=>vs.getD i .none)=vs:=λvs=>by
 refine List.ext_getElem (by simp) λi h1 h2=>?_
 simp at h1
 simp[h1]
theorem SY(aH:s.heap.get? a=some (seqObj "list" vs.toArray n))(c4:vs.length<=6)
 (hk:2<=vs.length->∀h',(∀b o,b≠a->s.heap.get? b=some o->h'.get? b=some o)->qj prog w A lt vs {s with heap:=h'})
 (h:∀h' c,(∀b o,b≠a->s.heap.get? b=some o->h'.get? b=some o)->h'.get? a=some (seqObj "list" (jl lt vs).toArray c)->P (.done (.ret .none)) {s with heap:=h'}):
 wpAny (model prog w) A (Builtin.«list.sort» ⟨[.ref a],[]⟩) P E s:=by
 have ha:a<s.heap.objs.size:=Heap.lt_size aH
 obtain⟨a8,j9⟩:∃a8,(s.heap.update a (Obj.mapSeq λ_=>(#[]:Array Value))).get? a=some (seqObj "list" #[] a8):=⟨_,get?_update_seq aH λ_=> #[]⟩
 rw[list_sort_plain]
 refine wpAny_bind (listItems_at aH rfl ?_)
 refine wpAny_bind (listUpdate_at aH rfl ?_ (by rw[List.size_toArray,sizeLine_eq];exact aC.wR c4) (Nat.zero_le _))
 refine wpAny_bind (seqEpoch_at j9 rfl ?_)
 refine wpAny_bind (wpAny_newTuple ?_ (by show vs.length<=_;rw[sizeLine_eq];exact aC.wR c4))
 refine wpAny_bind (wpAny_newList ?_ (Nat.zero_le _))
 refine wpAny_holding ?_
 have Am:(((s.heap.update a (Obj.mapSeq λ_=> #[])).push (seqObj "tuple" vs.toArray 0)).push (seqObj "list" #[] 0)).get? a=some (seqObj "list" #[] a8):=by
  rw[Heap.get?_push_ne _ _ _ (by rw[size_push',Heap.size_update];exact Nat.ne_of_lt (Nat.lt_succ_of_lt ha)),Heap.get?_push_ne _ _ _ (by rw[Heap.size_update];exact Nat.ne_of_lt ha)]
  exact j9
 have keep:∀b o,b≠a->s.heap.get? b=some o->(((s.heap.update a (Obj.mapSeq λ_=>(#[]:Array Value))).push (seqObj "tuple" vs.toArray 0)).push (seqObj "list" #[] 0)).get? b=some o:=λb o ag e=>
  Heap.get?_push_of_some _ (Heap.get?_push_of_some _ (((Heap.SameBut.update s.heap a _).2 b ag).trans e))
 show wpAny (model prog w) A _ P E {s with heap:=((s.heap.update a (Obj.mapSeq λ_=>(#[]:Array Value))).push (seqObj "tuple" vs.toArray 0)).push (seqObj "list" #[] 0)}
 generalize hh:((s.heap.update a (Obj.mapSeq λ_=>(#[]:Array Value))).push (seqObj "tuple" vs.toArray 0)).push (seqObj "list" #[] 0)=n6 at*
 dsimp only
 have done:∀cv:List Value,cv=jl lt vs->wpAny (model prog w) A (do
  let touched:=(<-seqEpoch a)!=a8
  Builtin.List.listUpdate (.ref a) λ_=>cv.toArray
  if touched then rule "list.sort.modified";raiseError "ValueError" "list modified during sort"
  ret .none) P E {s with heap:=n6}:=λcv e=>by
  subst e
  have de:(jl lt vs).length<=1000:=by rw[jl,List.length_map,JT c4];exact aC.WN c4
  obtain⟨o7,n9⟩:∃o7,(n6.update a (Obj.mapSeq λ_=>(jl lt vs).toArray)).get? a=some (seqObj "list" (jl lt vs).toArray o7):=⟨_,get?_update_seq Am λ_=>(jl lt vs).toArray⟩
  refine wpAny_bind (seqEpoch_at Am rfl ?_)
  refine wpAny_bind (listUpdate_at Am rfl ?_ (Nat.zero_le _) (by rw[List.size_toArray];unfold sizeLine;omega))
  simp only[bne_self_eq_false,Bool.false_eq_true,if_false]
  refine wpAny_pure (h _ o7 (λb o ag e=>((Heap.SameBut.update n6 a _).2 b ag).trans (keep b o ag e)) n9)
 by_cases h2:vs.toArray.size<2
 .rw[if_pos h2,if_pos h2]
  refine wpAny_bind (wpAny_pure ?_)
  rw[StateT.run_pure]
  refine wpAny_bind (wpAny_pure ?_)
  have e:(arrOf (SortSt.mk' general' (vs.toArray.zip vs.toArray) #[] 7 none)).map (λx=>x.2)=vs.toArray:=by
   show(vs.toArray.zip vs.toArray).map (λx=>x.2)=vs.toArray
   refine Array.ext (by simp) λi h1 h2=>?_
   simp
  show wpAny (model prog w) A (do
   let touched:=(<-seqEpoch a)!=a8
   Builtin.List.listUpdate (.ref a) λ_=>(arrOf (SortSt.mk' general' (vs.toArray.zip vs.toArray) #[] 7 none)).map (λx=>x.2)
   if touched then rule "list.sort.modified";raiseError "ValueError" "list modified during sort"
   ret .none) P E {s with heap:=n6}
  rw[e]
  refine done vs ?_
  unfold jl jI
  rw[List.size_toArray] at h2
  rw[if_pos h2,range_getD]
 .rw[if_neg h2,if_neg h2]
  obtain⟨dp,c8,fX⟩:=hk (by rw[List.size_toArray] at h2;exact aC.rt h2) n6 keep
  refine wpAny_bind (wpAny_mono (c8 _ ⟨rfl,rfl⟩:wpAny (model prog w) A (keyKind' vs.toArray) (λKX aY=>KX=dp/\aY={s with heap:=n6}) _ _) (λKX JC hk=>?_) λ_ _ x=>x.elim)
  obtain⟨rfl,rfl⟩:=hk
  rw[List.size_toArray] at h2
  refine wpAny_bind (wpAny_mono (kat_run (Q:=λw8 aY=>aY={s with heap:=n6}/\arrOf w8=(runK lt (kas_sort vs.length)).map (kas_item (vs.toArray.zip vs.toArray))/\failedOf w8=none)
   (G:=λp aY=>p=runK lt (kas_sort vs.length)/\aY={s with heap:=n6}) rfl (by exact aC.rt h2) (by exact aC.WO c4) (λiV w8 aY fO fo i5 kx=>⟨kx.2,by rw[fo,kx.1],i5⟩) (AR fX _ [] (vf (by exact aC.rt h2) c4) ⟨rfl,rfl⟩)) ?_ λ_ _ e=>e)
  rintro⟨⟨⟩,w8⟩ aY ⟨rfl,QV,hf⟩
  dsimp only
  have RD:=kat_snds (ks:=vs) (vs:=vs) rfl QV
  rw[RD,hf]
  refine done _ ?_
  unfold jl jI
  rw[if_neg h2]
noncomputable def rj(ns:List Int)(i ai:Nat):Bool:=decide (ns.getD i 0<ns.getD ai 0)
theorem Mn(h5:IntsAre vs ns)(h2:2<=vs.length):qj prog w A (rj ns) vs s:=by
 have at':∀{i:Nat},i<vs.length->∃t,vs.getD i .none=.int (ns.getD i 0) t:=λ{i} hi=>by
  obtain⟨n,t,e,aV⟩:=IntsAre.at h5 i vs[i] (List.getElem?_eq_getElem hi)
  refine⟨t,?_⟩
  rw[List.getD_eq_getElem?_getD,List.getElem?_eq_getElem hi,List.getD_eq_getElem?_getD,aV]
  exact e
 refine⟨oneType',λQ aP=>kas_kind (T:=.type "int") h2 (λv a0=>?_) (by decide) (by decide) aP,λi ai aA hi cD kG=>?_⟩
 .obtain⟨i,hi,rfl⟩:=List.getElem_of_mem a0
  obtain⟨n,t,e,aV⟩:=IntsAre.at h5 i vs[i] (List.getElem?_eq_getElem hi)
  rw[e]
  exact Looks.of_pure rfl
 .obtain⟨t,a8⟩:=at' hi
  obtain⟨u,a7⟩:=at' cD
  unfold kas_ask
  rw[a8,a7,keyLt'_oneType]
  exact oneLt_int kG
noncomputable def AY(a b:Int×Int):Bool:=decide (a.1<b.1)||(decide (a.1=b.1)&&decide (a.2<b.2))
noncomputable def pX(ps:List (Int×Int))(i ai:Nat):Bool:=AY (ps.getD i (0,0)) (ps.getD ai (0,0))
noncomputable def jV(h:Heap)(vs:List Value)(ps:List (Int×Int)):Prop:=
 match vs,ps with
 |[],[]=>True
 |v::vs,p::ps=>(∃a o n t u,v=.ref a/\h.get? a=some o/\o.cls=.type "tuple"/\o.data=.seq #[.int p.1 t,.int p.2 u] n)/\jV h vs ps
 |_,_=>False
theorem jV.ind{P:List Value->List (Int×Int)->Prop}(n:P [] [])(c:∀{a o k t u vs} {p:Int×Int} {ps},h.get? a=some o->o.cls=.type "tuple"->o.data=.seq #[.int p.1 t,.int p.2 u] k->P vs ps->P (.ref a::vs) (p::ps)):∀{ps:List (Int×Int)},jV h vs ps->P vs ps:=by
 induction vs with
 |nil=>
  intro ps q
  rcases ps with _|⟨p,ps⟩
  .exact n
  .exact q.elim
 |cons v vs aX=>
  intro ps q
  rcases ps with _|⟨p,ps⟩
  .exact q.elim
  .obtain⟨⟨a,o,k,t,u,e,aH,aw,aB⟩,r⟩:=q
   exact e▸c aH aw aB (aX r)
theorem jV.at{vs:List Value}(q:jV h vs ps):∀{i:Nat},i<vs.length->∃a o n t u,vs.getD i .none=.ref a/\h.get? a=some o/\o.cls=.type "tuple"/\o.data=.seq #[.int (ps.getD i (0,0)).1 t,.int (ps.getD i (0,0)).2 u] n:=
 q.ind (P:=λvs ps=>∀{i:Nat},i<vs.length->∃a o n t u,vs.getD i .none=.ref a/\h.get? a=some o/\o.cls=.type "tuple"/\o.data=.seq #[.int (ps.getD i (0,0)).1 t,.int (ps.getD i (0,0)).2 u] n) (λhi=>(Nat.not_lt_zero _ hi).elim) λ{a o k t u _ _ _} aH aw aB aX {i}=>by
  rcases i with _|i
  .exactλ_=>⟨a,o,k,t,u,rfl,aH,aw,aB⟩
  .exactλhi=>aX (Nat.lt_of_succ_lt_succ hi)
theorem jV.PB{vs:List Value}(q:jV h vs ps):∃fs,KatTups h vs fs/\fs.length=vs.length/\∀v∈fs,∃i t,v=.int i t:=
 q.ind (P:=λvs _=>∃fs,KatTups h vs fs/\fs.length=vs.length/\∀v∈fs,∃i t,v=.int i t) ⟨[],trivial,rfl,λv a0=>nomatch a0⟩ λ{a o k t u vs p ps} aH aw aB aX=>by
  obtain⟨fs,h1,h2,aQ⟩:=aX
  refine⟨.int p.1 t::fs,KatTups.cons aH aw aB rfl h1,congrArg (·+1) h2,λv a0=>?_⟩
  rcases List.mem_cons.mp a0 with rfl|a0
  .exact⟨_,_,rfl⟩
  .exact aQ v a0
theorem Mo(cG:jV s.heap vs ps)(h2:2<=vs.length):qj prog w A (pX ps) vs s:=by
 obtain⟨fs,f1,f2,n1⟩:=cG.PB
 refine⟨tuples' (Value.type "int"!=Value.type "tuple"),λQ aP=>kat_kind (T:=.type "int") f1 (by exact aC.WQ h2 f2) (λv a0=>?_) (by decide) aP,λi ai aA hi cD kG=>?_⟩
 .obtain⟨i,t,rfl⟩:=n1 v a0
  exact Looks.of_pure rfl
 .obtain⟨a,o,n,t,u,a8,aH,aw,aB⟩:=cG.at hi
  obtain⟨bq,cO,gu,d3,fL,y0,fV,jv,ee⟩:=cG.at cD
  unfold kas_ask
  rw[a8,y0]
  unfold pX AY at kG
  generalize ps.getD i (0,0)=p at*
  generalize ps.getD ai (0,0)=q at*
  refine kat_lt aH aB fV ee (kat_cons (wpAny_eqBool_int ?_))
  refine kat_go (λe=>kat_yes (kat_cons (wpAny_eqBool_int (kat_go (λa7=>kat_yes (kat_nil ?_)) λa7=>kat_no ?_)))) λe=>kat_no ?_
  .have h1:p.1=q.1:=by simpa using e
   have h2:p.2=q.2:=by simpa using a7
   simpa[h1,h2] using kG
  .have h1:p.1=q.1:=by simpa using e
   refine kat_one _ _ (lt_int ?_)
   show aA _ _
   simpa[h1] using kG
  .have h1:¬p.1=q.1:=by simpa using e
   refine oneLt_int ?_
   simpa[h1] using kG
end
section
variable{prog:Program}{w:World}{A:Around}{E:Value->Shared->Prop}{s:Shared}
theorem JW{Q:Value->Shared->Prop}(c4:vs.length<=6)(vQ:∀b o,s.heap.get? b=some o->h1.get? b=some o)(hz:s.heap.objs.size<=h1.objs.size)
 (hk:2<=vs.length->∀h' b7,(∀b o,s.heap.get? b=some o->h'.get? b=some o)->qj prog w A.in1.in1 lt vs {s with heap:=h',toks:=b7})
 (h:∀h' b7 D c,(∀b o,s.heap.get? b=some o->h'.get? b=some o)->h'.get? D=some (seqObj "list" (jl lt vs).toArray c)->s.heap.objs.size<=D->Q (.ref D) {s with heap:=h',toks:=b7}):
 wpAny (model prog w) A.in1 (do
  let l<-newList vs
  let _<-holding [l] (call (.builtin "list.sort") [l])
  ret l) (λcA aY=>∃v,cA=.done (.ret v)/\Q v aY) E {s with heap:=h1,toks:=b7}:=by
 refine wpAny_bind (wpAny_newList ?_ (by rw[sizeLine_eq];exact aC.wR c4))
 have vV:(h1.push (seqObj "list" vs.toArray 0)).get? h1.objs.size=some (seqObj "list" vs.toArray 0):=Heap.get?_push_size _ rfl
 have Hj:∀b o,s.heap.get? b=some o->(h1.push (seqObj "list" vs.toArray 0)).get? b=some o:=λb o e=>Heap.get?_push_of_some _ (vQ b o e)
 have ne:∀b o,s.heap.get? b=some o->b≠h1.objs.size:=λb o e=>Nat.ne_of_lt (Nat.lt_of_lt_of_le (Heap.lt_size e) hz)
 refine wpAny_bind (wpAny_holding (wpAny_call_entry slot_list_sort ⟨_,vV,rfl⟩ entry_list_sort ?body (args_list_sort _)))
 case body=>
  refine SY (lt:=lt) (s:={s with heap:=h1.push (seqObj "list" vs.toArray 0),toks:=b7}) vV c4 (λh2 h' qS=>hk h2 h' b7 λb o e=>qS b o (ne b o e) (Hj b o e)) λh' c qS fV=>⟨_,rfl,?_⟩
  exact wpAny_pure ⟨_,rfl,h h' b7 _ c (λb o e=>qS b o (ne b o e) (Hj b o e)) fV hz⟩
theorem ZQ{lt:Nat->Nat->Bool}(aG:s.heap.IsList l vs.toArray)(c4:vs.length<=6)
 (hk:2<=vs.length->∀h' b7,(∀b o,s.heap.get? b=some o->h'.get? b=some o)->qj prog w A.in1.in1 lt vs {s with heap:=h',toks:=b7})
 (h:∀h' b7 D c,(∀b o,s.heap.get? b=some o->h'.get? b=some o)->h'.get? D=some (seqObj "list" (jl lt vs).toArray c)->s.heap.objs.size<=D->Q (.ref D) {s with heap:=h',toks:=b7}):
 wpAny (model prog w) A (call (.builtin "sorted") [.ref l]) Q E s:=by
 refine Calls.call_function_entry kind_sorted plain_sorted entry_sorted (args_sorted1 _) ?_
 unfold Builtin.«sorted»
 refine wpAny_bind (m:=checkCount "sorted" 1 1 _) (wpAny_pure ?_)
 refine wpAny_bind (collect_list aG ?_ (by rw[sizeLine_eq];exact aC.wR c4))
 have hz:((s.heap.push (seqObj "list" #[] 0)).update s.heap.objs.size (Obj.mapSeq (·++vs.toArray))).objs.size=s.heap.objs.size+1:=by rw[Heap.size_update,size_push']
 have keep:∀b o,s.heap.get? b=some o->((s.heap.push (seqObj "list" #[] 0)).update s.heap.objs.size (Obj.mapSeq (·++vs.toArray))).get? b=some o:=λb o q=>by
  have df:b<s.heap.objs.size:=Heap.lt_size q
  rw[Heap.get?_update_ne _ _ _ _ (Nat.ne_of_lt df),Heap.get?_push_ne _ _ _ (Nat.ne_of_lt df)]
  exact q
 exact JW c4 keep (by rw[hz];exact Nat.le_succ _) hk h
noncomputable def iI(h:Heap)(d:Addr)(vs:List Value)(ep:Nat):Prop:=∃o es,h.get? d=some o/\o.ExactDict/\o.data=.dict es ep/\es.toList.map (·.val)=vs
theorem iI.size{es:Array DictEntry}(h:es.toList.map (·.val)=vs):es.size=vs.length:=by rw[<-h,List.length_map,Array.length_toList]
theorem OS{v d:Addr}(a0:s.heap.IsValuesView v d)(hm:iI s.heap d vs ep)
 (aP:Q (.ref s.heap.objs.size) {s with heap:=s.heap.push {cls:=.type "dict_valueiterator",data:=.fields #[.ref d,.int 0 0,.int vs.length 0,.int ep 0]}}):
 wpAny (model prog w) A (pyIter (.ref v)) Q E s:=by
 obtain⟨iD,Aq,abR,Q1⟩:=id a0
 obtain⟨o,es,aH,aw,GD,hp⟩:=id hm
 refine wpAny_pyIter_slot a0.typeIs PySem.F.slot_dict_values_iter (wpAny_call_entry PySem.F.slot_dict_values_iter a0.typeIs PySem.F.entry_dict_values_iter ?_ (PySem.F.args_dict_values_iter_1 _))
 unfold Builtin.«dict_values.__iter__»
 refine wpAny_bind (wpAny_pure ?_)
 refine wpAny_bind ?_
 unfold Builtin.Dict_items.dictOf
 refine wpAny_bind (wpAny_field Aq Q1 (x:=.ref d) rfl (wpAny_pure ?_))
 refine wpAny_bind ?_
 unfold Builtin.Dict_items.newIterator
 refine wpAny_bind (wpAny_dictEntries aH GD ?_)
 refine wpAny_bind (wpAny_dictEpoch aH GD ?_)
 have hsz:=iI.size hp
 have Ar:Builtin.Dict_items.ownsTuple "dict_valueiterator"=false:=by decide
 rw[Ar]
 show wpAny _ _ (newFields "dict_valueiterator" [.ref d,rawInt 0,rawInt es.size,rawInt ep]) _ _ s
 refine wpAny_newObj_type (wpAny_pure ⟨_,rfl,"dict_valueiterator",_,⟨_,Heap.get?_push_size _ rfl,rfl⟩,PySem.F.slot_dict_valueiterator_next.lookup,?_⟩)
 simpa[rawInt,hsz] using aP
theorem OR{it d:Addr}(hit:s.heap.IsValIter it d i vs.length ep)
 (hm:iI s.heap d vs ep)(av:vs[i]? =some v)
 (aP:∀h',h'.IsValIter it d (i+1) vs.length ep->Heap.SameBut it s.heap h'->P (.done (.ret v)) {s with heap:=h'}):
 wpAny (model prog w) A (Builtin.«dict_valueiterator.__next__» ⟨[.ref it],[]⟩) P X s:=by
 obtain⟨o,aH,aw,aB⟩:=id hit
 obtain⟨rp,es,l9,jb,pA,hp⟩:=id hm
 show wpAny _ _ (_>>=_) _ _ s
 refine wpAny_bind (wpAny_pure ?_)
 refine wpAny_bind ?_
 refine wpAny_bind ?_
 first|refine wpAny_bind (wpAny_typeNameOfWhole_valiter hit.typeIs (wpAny_pure ?_))|refine wpAny_bind (wpAny_typeNameOf_valiter hit.typeIs (wpAny_pure ?_))
 refine wpAny_bind (wpAny_fieldsOf aH aB ?_)
 show wpAny _ _ (if(Value.ref d==Value.none)=true then _ else _) _ _ s
 refine h8 (show ¬((Value.ref d==Value.none)=true) from Bool.false_ne_true) ?_
 refine wpAny_bind (wpAny_pure ?_)
 refine wpAny_bind (wpAny_dictEntries l9 pA ?_)
 have hsz:=iI.size hp
 refine h8 (by rw[hsz];simp) ?_
 refine wpAny_bind (wpAny_pure ?_)
 refine wpAny_bind (wpAny_dictEpoch l9 pA ?_)
 refine h8 (by simp) ?_
 refine wpAny_pure ?_
 have df:i<vs.length:=(List.getElem?_eq_some_iff.mp av).1
 have qU:i<es.size:=by rw[hsz];exact df
 have RU:es[i].val=v:=by
  have:(es.toList.map (·.val))[i]? =some v:=by rw[hp];exact av
  simpa[qU] using this
 dsimp only
 rw[if_neg (Int.not_lt.mpr (Int.natCast_nonneg i)),show es[(i:Int).toNat]? =some es[i] from(congrArg (es[·]?) (Int.toNat_natCast i)).trans (Array.getElem?_eq_getElem qU)]
 refine wpAny_bind ?_
 first|refine wpAny_bind (wpAny_typeNameOfWhole_valiter hit.typeIs (wpAny_pure ?_))|refine wpAny_bind (wpAny_typeNameOf_valiter hit.typeIs (wpAny_pure ?_))
 refine wpAny_bind (wpAny_isOneOf_valiter hit.typeIs ?_)
 show wpAny _ _ (setField (.ref it) 1 (rawInt ((i:Int)+1))>>=_) _ _ s
 refine wpAny_bind (wpAny_setField aH aB (by simp) ?_)
 have pC:(s.heap.update it (Obj.mapFields (·.setIfInBounds 1 (rawInt ((i:Int)+1))))).IsValIter it d (i+1) vs.length ep:=
  ⟨_,Heap.get?_update_self _ aH (Obj.isFreed_of_fields (Obj.data_mapFields aB _)),(Obj.cls_mapFields ..).trans aw,by rw[Obj.data_mapFields aB];simp[rawInt]⟩
 refine wpAny_bind (wpAny_holding ?_)
 refine wpAny_bind (wpAny_isOneOf_valiter (s:={s with heap:=s.heap.update it (Obj.mapFields (·.setIfInBounds 1 (rawInt ((i:Int)+1))))}) pC.typeIs ?_)
 refine wpAny_bind (wpAny_isOneOf_valiter (s:={s with heap:=s.heap.update it (Obj.mapFields (·.setIfInBounds 1 (rawInt ((i:Int)+1))))}) pC.typeIs ?_)
 show wpAny _ _ (pure es[i].val) _ _ _
 exact wpAny_pure (wpAny_pure (RU▸aP _ pC (Heap.SameBut.update ..)))
theorem OQ(hit:s.heap.IsValIter it d i vs.length ep)
 (hm:iI s.heap d vs ep)(av:vs[i]? =some v)
 (aP:∀h',h'.IsValIter it d (i+1) vs.length ep->Heap.SameBut it s.heap h'->Q (some v) {s with heap:=h'}):
 wpAny (model prog w) A (pyNext (.ref it)) Q E s:=by
 unfold pyNext
 refine wpAny_bind (wpAny_attempt (wpAny_callSpecial?_slot (name:=Str.ofString "__next__") hit.typeIs PySem.F.slot_dict_valueiterator_next
  (wpAny_call_entry PySem.F.slot_dict_valueiterator_next hit.typeIs PySem.F.entry_dict_valueiterator_next ?_ (PySem.F.args_dict_valueiterator_next_1 _))))
 exact OR hit hm av λh' a b=>⟨_,rfl,wpAny_pure (aP h' a b)⟩
theorem OP{it d:Addr}(hh:A.handled=none)(hit:s.heap.IsValIter it d i vs.length ep)
 (hm:iI s.heap d vs ep)(av:vs[i]? =none)
 (aP:∀h',Heap.ExtBut it s.heap h'->Q none {s with heap:=h'}):wpAny (model prog w) A (pyNext (.ref it)) Q E s:=by
 obtain⟨o,aH,aw,aB⟩:=id hit
 obtain⟨rp,es,l9,jb,pA,hp⟩:=id hm
 unfold pyNext
 refine wpAny_bind (wpAny_attempt (wpAny_callSpecial?_slot (name:=Str.ofString "__next__") hit.typeIs PySem.F.slot_dict_valueiterator_next
  (wpAny_call_entry PySem.F.slot_dict_valueiterator_next hit.typeIs PySem.F.entry_dict_valueiterator_next ?_ (PySem.F.args_dict_valueiterator_next_1 _))))
 refine wpAny_bind (wpAny_pure ?_)
 refine wpAny_bind ?_
 refine wpAny_bind ?_
 first|refine wpAny_bind (wpAny_typeNameOfWhole_valiter hit.typeIs (wpAny_pure ?_))|refine wpAny_bind (wpAny_typeNameOf_valiter hit.typeIs (wpAny_pure ?_))
 refine wpAny_bind (wpAny_fieldsOf aH aB ?_)
 show wpAny _ _ (if(Value.ref d==Value.none)=true then _ else _) _ _ s
 refine h8 (show ¬((Value.ref d==Value.none)=true) from Bool.false_ne_true) ?_
 refine wpAny_bind (wpAny_pure ?_)
 refine wpAny_bind (wpAny_dictEntries l9 pA ?_)
 have hsz:=iI.size hp
 refine h8 (by rw[hsz];simp) ?_
 refine wpAny_bind (wpAny_pure ?_)
 refine wpAny_bind (wpAny_dictEpoch l9 pA ?_)
 refine h8 (by simp) ?_
 refine wpAny_pure ?_
 have Ag:es.size<=i:=by rw[hsz];simpa using av
 dsimp only
 rw[if_neg (Int.not_lt.mpr (Int.natCast_nonneg i)),show es[(i:Int).toNat]? =none from(congrArg (es[·]?) (Int.toNat_natCast i)).trans (Array.getElem?_eq_none Ag)]
 refine wpAny_bind ?_
 first|refine wpAny_bind (wpAny_typeNameOfWhole_valiter hit.typeIs (wpAny_pure ?_))|refine wpAny_bind (wpAny_typeNameOf_valiter hit.typeIs (wpAny_pure ?_))
 show wpAny _ _ (setField (.ref it) 0 .none>>=_) _ _ s
 refine wpAny_bind (wpAny_setField aH aB (by simp) ?_)
 show wpAny _ _ (newExc (.type "StopIteration") []>>=_) _ _ _
 refine wpAny_bind ?_
 simp only[newExc,newTuple]
 refine wpAny_bind (wpAny_newObj_type ?_ (by size_fits))
 refine wpAny_bind (m:=firstArgMember _ _) (wpAny_of_eq (a:=Value.none) (by first|rfl|(simp only[firstArgMember];rfl)) ?_)
 refine wpAny_newObj_type ?_ (by size_fits)
 simp only[raiseNew]
 refine wpAny_bind (wpAny_handled ?_)
 rw[show A.in1.handled=none from hh]
 refine wpAny_bind (wpAny_pure (wpAny_throw ?_))
 refine wpAny_bind (wpAny_isInstance (T:="StopIteration") (b:=true) ⟨_,Heap.get?_push_size _ rfl,rfl⟩ isSubtype_stop ?_)
 exact wpAny_pure (aP _ (((Heap.SameBut.update ..).extBut.push _).push _))
theorem iI.at'(x:iI h d vs ep)(e:∀o,h.get? d=some o->h'.get? d=some o):iI h' d vs ep:=by
 obtain⟨o,es,aH,r⟩:=x;exact⟨o,es,e o aH,r⟩
theorem iI.lt(x:iI h d vs ep):d<h.objs.size:=by obtain⟨o,es,aH,r⟩:=x;exact Heap.lt_size aH
theorem OU(hh:A.handled=none)(aO d:Addr)(fi:d≠aO)(vs:List Value)(ep:Nat):
 Walks prog w A aO [aO,d] [aO] vs.length (λi v=>vs[i]? =some v) (λi h=>h.IsValIter aO d i vs.length ep/\iI h d vs ep) where
 sub:=λb ag=>by simp at ag;simp[ag]
 frame:=λ_ _ _ st hk=>⟨st.1.at λo e=>hk aO (by simp) o e,st.2.at' λo e=>hk d (by simp) o e⟩
 item:=λi s Q E hi st aP=>by
  refine OQ st.1 st.2 (List.getElem?_eq_getElem hi) λh' pC h7=>?_
  exact aP _ h' s.toks (List.getElem?_eq_getElem hi) ⟨pC,st.2.at' λo e=>h7.extBut d o fi e⟩ λb o ag e=>h7.extBut b o (λh=>ag (by simp[h])) e
 done:=λs Q E st aP=>OP hh st.1 st.2 (by simp) λh' Q2=>aP h' s.toks λb o ag e=>Q2 b o (λh=>ag (by simp[h])) e
 self:=λ_ _ _ _ st aP=>wpAny_pyIter_valiter st.1 aP
theorem OT:KdlSrc prog w "dict_values" r d vs.length (λi v=>vs[i]? =some v) (λh=>h.IsValuesView r d/\iI h d vs ep) where
 type:=λ_ hm=>hm.1.typeIs
 there:=λ_ hm=>⟨let⟨_,aH,_⟩:=hm.1;Heap.lt_size aH,hm.2.lt⟩
 keep:=λ_ _ hm hk=>⟨let⟨o,aH,x⟩:=hm.1;⟨o,hk r (.inl rfl) o aH,x⟩,hm.2.at' λo e=>hk d (.inr rfl) o e⟩
 notList:=by decide
 notTuple:=by decide
 hint:=λ_ _ _ _ hm bZ=>kdl_hint_values hm.1.typeIs bZ
 iter:=λ_ _ hh hm=>⟨_,_,(λ_ _ bZ=>OS hm.1 hm.2 bZ),OU hh _ d (Nat.ne_of_lt hm.2.lt) vs ep,⟨⟨_,Heap.get?_push_size _ rfl,rfl,rfl⟩,hm.2.at' λo e=>Heap.get?_push_of_some _ e⟩⟩
theorem ZR{ep:Nat}(hz:s.heap.objs.size=r+1)(hh:A.handled=none)(a0:s.heap.IsValuesView r d)(aB:iI s.heap d vs ep)(c4:vs.length<=6)
 (hk:2<=vs.length->∀h' b7,(∀b o,s.heap.get? b=some o->h'.get? b=some o)->qj prog w A.in1.in1 lt vs {s with heap:=h',toks:=b7})
 (h:∀h' b7 D c,(∀b o,s.heap.get? b=some o->h'.get? b=some o)->h'.get? D=some (seqObj "list" (jl lt vs).toArray c)->s.heap.objs.size<=D->Q (.ref D) {s with heap:=h',toks:=b7}):
 wpAny (model prog w) A (call (.builtin "sorted") [.ref r]) Q E s:=by
 refine Calls.call_function_entry kind_sorted plain_sorted entry_sorted (args_sorted1 _) ?_
 unfold Builtin.«sorted»
 refine wpAny_bind (m:=checkCount "sorted" 1 1 _) (wpAny_pure ?_)
 refine wpAny_bind (kdu_collect (A:=A.in1) OT hh ⟨a0,aB⟩ (by unfold sizeLine;omega) λh' b7 acc vQ z4=>?_)
 have e:acc.toList=vs:=by
  refine List.ext_getElem? λi=>?_
  by_cases hi:i<vs.length
  .have h1:i<acc.size:=by rw[z4.1];exact hi
   have:=z4.2 i acc[i] (Array.getElem?_eq_getElem h1)
   rw[this,Array.getElem?_toList,Array.getElem?_eq_getElem h1]
  .rw[List.getElem?_eq_none (l:=acc.toList) (by rw[Array.length_toList,z4.1];exact aC.I7 hi),List.getElem?_eq_none (l:=vs) (by exact aC.I7 hi)]
 rw[e]
 refine JW c4 vQ ?_ hk h
 obtain⟨iD,Aq,_⟩:=id a0
 have:=Heap.lt_size (vQ r _ Aq)
 rw[hz];exact this
end
section
variable{prog:Program}{w:World}{h₁:Heap}{K:Frag}{own:Bool}{env:Env}{ns:List Str}{k:Nat}
theorem bt.getD(h:bt prog w W n vs bG)(i:Nat):aM prog w W n (vs.getD i .none) (bG.getD i .none):=by
 rw[List.getD_eq_getElem?_getD,List.getD_eq_getElem?_getD]
 cases e:vs[i]? with
 |none=>rw[h.none e];exact .none
 |some v=>
  obtain⟨ay,cZ,r⟩:=h.get e
  rw[cZ];exact r
noncomputable def nA(lt:Nat->Nat->Bool)(vs:List J):List J:=(jI lt vs.length).map λi=>vs.getD i .none
theorem JV(h:bt prog w W n vs bG):bt prog w W n (nA lt vs) (jl lt bG):=by
 unfold nA jl
 rw[h.length]
 induction jI lt vs.length with
 |nil=>exact .nil
 |cons i r aX=>exact .cons (h.getD i) aX
theorem bC.newList{U:Loc}(R:bC prog w h₁ own env ns W U σ h)(hk:∀b o,h.get? b=some o->h'.get? b=some o)(ao:h'.get? D=some (listOf cv c))(hz:h.objs.size<=D)(a0:bt prog w W σ.next vs cv.toList):
 ∃W',W.le σ.next W'/\bC prog w h₁ own env ns W' U σ h'/\aM prog w W' σ.next (.bo vs) (.ref D):=by
 have dF:W.role D=.free:=R.bE.free hz
 have l:=az.gG (n:=σ.next) (r:=.imm (listOf cv c)) dF
 exact⟨_,l,(R.j6 hk).Gp dF ao,.bo az.cX rfl rfl (a0.a4 l.1 (Nat.le_refl _))⟩
noncomputable def jj:List J->Option (List (Int×Int))
 |[]=>some []
 |.bk [.int a,.int b]::r=>(jj r).map λl=>(a,b)::l
 |_=>none
theorem XM(h:jj (v::vs)=some l):∃(m n:Int) (z:List (Int×Int)),v=.bk [.int m,.int n]/\jj vs=some z/\l=(m,n)::z:=
 J.casesOn (motive_1:=λv=>jj (v::vs)=some l->∃(m n:Int) (z:List (Int×Int)),v=.bk [.int m,.int n]/\jj vs=some z/\l=(m,n)::z) v (λh=>aq h) (λ_ h=>aq h) (λ_ h=>aq h) (λ_ h=>aq h) (λ_ h=>aq h) (λxs h=>by
  rcases xs with _|⟨a,t⟩
  .exact aq h
  .exact J.casesOn (motive_1:=λa=>jj (.bk (a::t)::vs)=some l->∃(m n:Int) (z:List (Int×Int)),J.bk (a::t)=.bk [.int m,.int n]/\jj vs=some z/\l=(m,n)::z) a (λh=>aq h) (λ_ h=>aq h) (λi h=>by
   rcases t with _|⟨b,u⟩
   .exact aq h
   .exact J.casesOn (motive_1:=λb=>jj (.bk (.int i::b::u)::vs)=some l->∃(m n:Int) (z:List (Int×Int)),J.bk (.int i::b::u)=.bk [.int m,.int n]/\jj vs=some z/\l=(m,n)::z) b (λh=>aq h) (λ_ h=>aq h) (λai h=>by
    rcases u with _|⟨c,r⟩
    .obtain⟨q,bZ,e⟩:=Option.map_eq_some_iff.mp h
     exact⟨i,ai,q,rfl,bZ,e.symm⟩
    .exact aq h) (λ_ h=>aq h) (λ_ h=>aq h) (λ_ h=>aq h) (λ_ h=>aq h) (λ_ h=>aq h) (λ_ _ _ h=>aq h) (λ_ h=>aq h) (λ_ h=>aq h) h) (λ_ h=>aq h) (λ_ h=>aq h) (λ_ h=>aq h) (λ_ h=>aq h) (λ_ h=>aq h) (λ_ _ _ h=>aq h) (λ_ h=>aq h) (λ_ h=>aq h) h) (λ_ h=>aq h) (λ_ h=>aq h) (λ_ _ _ h=>aq h) (λ_ h=>aq h) (λ_ h=>aq h) h
theorem XN(R:bw prog w h₁ W σ h)(r:bt prog w W σ.next vs bG)(e:jj vs=some l):jV h bG l:=
 r.ind (P:=λvs bG=>∀l,jj vs=some l->jV h bG l) (λl e=>Option.some.inj e▸trivial) (λa _ aX l e=>by
  obtain⟨x,y,r,fU,aI,eI⟩:=XM e
  rw[fU] at a
  obtain⟨ad,items,n,ed,aE,cx,q⟩:=a.jL R
  obtain⟨iV,dE,a7,YI,eE⟩:=q.Ke
  obtain⟨t,ep⟩:=YI.bc
  obtain⟨u,eq⟩:=eE.bc
  rw[eI,ed]
  refine⟨⟨ad,_,n,t,u,rfl,cx,rfl,?_⟩,aX _ aI⟩
  show Data.seq items n=_
  rw[show items= #[.int x t,.int y u] from Array.toList_inj.mp (by rw[a7,ep,eq])]) l e
theorem jV.keep:∀{l:List (Int×Int)},jV h vs l->(∀b o,h.get? b=some o->h'.get? b=some o)->jV h' vs l:=by
 induction vs with
 |nil=>
  intro l p hk
  rcases l with _|⟨x,l⟩
  .trivial
  .exact p.elim
 |cons v vs aX=>
  intro l p hk
  rcases l with _|⟨x,l⟩
  .exact p.elim
  .obtain⟨⟨a,o,n,t,u,e,aH,q⟩,r⟩:=p
   exact⟨⟨a,o,n,t,u,e,hk a o aH,q⟩,aX r hk⟩
noncomputable def w7:bX
 |[v],σ=>(eW v σ).bind λvs=>(jj vs).bind λl=>if vs.length<=6 then some (.bo (nA (pX l) vs),σ) else none
 |_,_=>none
theorem T7:OpOk prog w h₁ k (λvs=>call (.builtin "sorted") vs) w7:=
 .fm λW σ a bq r cg bO aI=>.end (λq=>a::q) (λq=>bq::q) aI λA s Q E aE aW R=>wpN.of<|eK λG bT=>by
 obtain⟨vs,a0,aW⟩:=(aJ.gR aW).cv
 obtain⟨l,aG,aW⟩:=(aJ.gR aW).cv
 obtain⟨c4,aW⟩:=aJ.fR aW
 obtain⟨a,items,e,eS,q⟩:=gH R bO a0
 have cG:=XN R q aG
 refine bT ?_
 rw[e]
 refine ZQ (vs:=items.toList) (lt:=pX l) eS (by rw[q.length];exact c4) (λh2 h' b7 hk=>Mo (cG.keep hk) h2) λh' b7 D c hk ao hz=>?_
 have dF:W.role D=.free:=R.free hz
 have a':=az.gG (n:=σ.next) (r:=.imm (listOf (jl (pX l) items.toList).toArray c)) dF
 exact c7.to aW _ _ h' b7 a' (Nat.le_refl _) ((R.md hk).hu dF ⟨_,ao⟩ (λcO e=>bL.imm.inj e▸ao) (λcO e=>nomatch e)) (.bo az.cX rfl rfl ((JV q).a4 a'.1 (Nat.le_refl _)))
end
section
variable{prog:Program}{w:World}{h₁:Heap}{K:Frag}{own:Bool}{env:Env}{ns:List Str}{k:Nat}
theorem Ni(hT:s.TypeIs (.ref d) "dict")(aB:(d==sysModules)=false)
 (h:Q (.ref s.heap.objs.size) {s with heap:=s.heap.push {cls:=.type "dict_values",data:=.fields #[.ref d]}}):wpAny (model prog w) A (call (.builtin "dict.values") [.ref d]) Q E s:=by
 refine wpAny_call_entry PySem.F.slot_dict_values hT PySem.F.entry_dict_values ?_ (PySem.F.args_dict_values_1 _)
 unfold Builtin.«dict.values»
 refine wpAny_bind ?_
 unfold Builtin.Dict.noArgs
 refine wpAny_bind (wpAny_notOrdered_dict hT ?_)
 show wpAny _ _ (pure d) _ _ s
 refine wpAny_pure ?_
 show wpAny _ _ (Builtin.Dict.showsAll d>>=_) _ _ s
 unfold Builtin.Dict.showsAll
 rw[if_neg (by rw[aB];exact Bool.false_ne_true)]
 refine wpAny_bind (wpAny_pure ?_)
 exact wpAny_bind (wpAny_newObj_type (wpAny_pure ⟨_,rfl,h⟩))
theorem TRel.oF(r:TRel prog w W n es xs):bt prog w W n (es.map (·.2)) (xs.map (·.2.2)):=by
 refine TRel.ind (P:=λes xs=>bt prog w W n (es.map Prod.snd) (xs.map λx=>x.2.2)) ?_ ?_ r
 .exact .nil
 .exactλ_ b _ aX=>.cons b aX
noncomputable def tX(fN:cW):cW:=λU σ=>(fN U σ).bind λr=>(f3 r.1 r.2).bind λes=>(hv (es.map (·.2))).bind λl=>if es.length<=6 then some (.bo (nA (rj l) (es.map (·.2))),r.2) else none
theorem OY(hf:bj prog w h₁ own env ns k (eval fn env) (I (.bS (.builtin "sorted"))))(aH:bj prog w h₁ own env ns k (eval o env) fN)
 (ah:autoParam (starEach [.Call (.Attribute o "values" i6) [] [] tw] env=[(false,eval (.Call (.Attribute o "values" i6) [] [] tw) env)]) aL._auto_1)
 (aw:autoParam (eval (fn.Call [.Call (.Attribute o "values" i6) [] [] tw] [] lb) env=(do let g<-eval fn env;callWith lb g [] (backTo lb (starEach [.Call (.Attribute o "values" i6) [] [] tw] env)) (backToKw lb (keywordEach [] env)))) aL._auto_1)
 (mW:autoParam (attributeBase o "values" env (eval o env)=eval o env) aL._auto_1)
 (m2:autoParam ((i6.endLine==tw.line)=true) aL._auto_1):
 bj prog w h₁ own env ns k (eval (.Call fn [.Call (.Attribute o "values" i6) [] [] tw] [] lb) env) (tX fN):=by
 refine .of λA W U σ s Q E aE ao R=>?_
 rw[aw]
 refine a5 (hf A W U σ _ σ s _ E aE rfl R λhH iY eg qc iw ab gi kj=>?_)
 rw[show iY=_ from kj.bc]
 refine rN rfl (by rw[ah];rfl) ?_
 rw[ah]
 refine rO (Cf (Ks mW rfl m2 rfl (aH.go aE ao.bind gi λeb ct ao br dz h1 cE bA ae bu bb=>eK λG bT=>?_)))
 obtain⟨es,a7,ao⟩:=(aJ.gR ao).cv
 obtain⟨l,e3,ao⟩:=(aJ.gR ao).cv
 obtain⟨c4,ao⟩:=aJ.fR ao
 obtain⟨d,xs,e,z,aB,q⟩:=mn bu.bE bb a7
 have bA:=iw.trans ab bA
 have ae:=Nat.le_trans ab ae
 obtain⟨rp,O1,ep,l9,av,pA,vP,_,_⟩:=id aB
 have vY:(xs.map (·.2.2)).length=es.length:=by rw[List.length_map];exact q.length
 have aI:=q.oF
 refine bT ?_
 rw[e]
 refine⟨"dict","dict.values",PySem.F.plainAttrs_dict,PySem.F.slot_dict_values,by kernel_rfl,aB.typeIs,λa e=>Value.ref.inj e▸⟨rp,l9,av.2.1⟩,?_⟩
 refine rN rfl rfl (Kx (.of (Ni (s:={s with heap:=h1,toks:=cE}) aB.typeIs z (.of (wpAny_pure ?_)))))
 refine .of (ZR (s:={s with heap:=h1.push {cls:=.type "dict_values",data:=.fields #[.ref d]},toks:=cE}) (r:=h1.objs.size) (d:=d) (vs:=xs.map (·.2.2)) (ep:=ep) (lt:=rj l) ?_ aE.h ⟨_,Heap.get?_push_size _ rfl,rfl,rfl⟩ ?_ (by rw[vY];exact c4)
  (λh2 h' b7 hk=>Mn (AN aI e3) h2) λh' b7 D c hk QF hz=>?_)
 .exact Heap.size_push ..
 .refine⟨rp,O1,Heap.get?_push_of_some _ l9,av,pA,?_⟩
  rw[vP,List.map_map];rfl
 .have cn:=bu.j6 (h':=h1.push {cls:=.type "dict_values",data:=.fields #[.ref d]}) λb o e=>Heap.get?_push_of_some _ e
  obtain⟨W',a',dc,dx⟩:=cn.newList hk QF hz (by rw[List.toList_toArray];exact JV aI)
  exact du.to ao W' _ h' b7 (bA.trans ae a') ae dc dx
end
section
variable{prog:Program}{w:World}{h₁:Heap}{K:Frag}{own:Bool}{env:Env}{ns:List Str}{k:Nat}
theorem SX:typeLookup (.type "list") "keys"=pure none:=am_miss_of_fast (by decide+kernel)
theorem Qs(aH:s.heap.get? a=some (listOf items n))(hh:A.handled=none)
 (h:∀h' b7,(∀b o,s.heap.get? b=some o->h'.get? b=some o)->Q none {s with heap:=h',toks:=b7}):wpAny (model prog w) A (getAttr? (.ref a) "keys") Q E s:=by
 obtain⟨hp,g,d,b7,os⟩:=s
 have hT:∀cI,(⟨hp,g,d,cI,os⟩:Shared).TypeIs (.ref a) "list":=λ_=>⟨_,aH,rfl⟩
 have f1:=sub_AttributeError
 have n1:=PySem.F.slot_list_getattribute.lookup
 have vt:=PySem.F.slot_list_getattribute.bind (.ref a)
 have sD:=am_list_getattr_none
 unfold getAttr? getAttrBy? getAttrBy
 repeat (any_goals(first|assumption|exact hT _|((with_reducible show wpAny _ _ (call (Value.builtin "list.__getattribute__") _ _) _ _ _);refine call_meets PySem.F.slot_list_getattribute (hT _) am_entry_list_getattribute (PySem.F.args_list_getattribute_2 _ _) (meets_getattribute_miss_list a items n #[] _ _ SX (by decide) (by decide+kernel)) ⟨aH,hh,λh' cI e je=>?_⟩)|wp_step))
 obtain⟨d3,fL,bV⟩:=je.there
 have Gv:(⟨h',g,d,cI,os⟩:Shared).TypeIs (.ref e) "AttributeError":=⟨_,bV,rfl⟩
 show wpAny _ _ (getattributeRaised _ _ _ _ _ _ _) _ _ _
 unfold getattributeRaised
 refine wpAny_bind (wpAny_isInstance Gv f1 ?_)
 rw[if_pos rfl]
 refine wpAny_bind ?_
 show wpAny _ _ (typeLookup (.type "list") "__getattr__") _ _ _
 refine wpAny_of_eq sD ?_
 unfold hookOrError
 dsimp only
 unfold attributeErrorLeaves
 rw[if_pos (by decide)]
 first
  |refine wpAny_throw ?_
  |refine wpAny_bind (wpAny_throw ?_)
 refine wpAny_bind (wpAny_isInstance Gv f1 ?_)
 rw[if_pos rfl]
 exact wpAny_pure (h _ _ je.keeps)
end
section
variable{prog:Program}{w:World}{h₁:Heap}{K:Frag}{own:Bool}{env:Env}{ns:List Str}{k:Nat}
theorem OK(R:bw prog w h₁ W σ s.heap)(aw:σ.cells c=some (.cb es))
 (hi:jr dt kb=true)(a0:aM prog w W σ.next v ay)(aG:es.length<=1000000)(hp:aZ=σ.aS c (.cb (dr es dt v)))(qP:W.al c=da)
 (aP:∀h' cI,bw prog w h₁ W aZ h'->Heap.SameBut (W.al c) s.heap h'->Q () {s with heap:=h',toks:=cI}):wpAny (model prog w) A (dictSet da kb ay) Q E s:=by
 rw[hp] at aP
 obtain⟨_,_,g,z,d,q⟩:=(R.cell c _ aw).2.bc
 rw[<-qP]
 refine wpAny_dictSet_pairs (knd:=gQ prog w) hi (d.bW g) (λh' hm hs=>?_) (pY q.length aG)
 obtain⟨dI,g2,fP⟩:=kn.rL hm
 exact aP h' _ (R.lP aw hs (.cb g2 z fP (q.set a0))) hs
noncomputable def wX:J->Option (bp×J)
 |.bk [a,b]=>(toAtom a).map λk=>(k,b)
 |_=>none
noncomputable def ky(c:Nat):List J->St->Option St
 |[],σ=>some σ
 |x::r,σ=>(wX x).bind λp=>match σ.cells c with
  |some (.cb es)=>if es.length<=1000000 then ky c r (σ.aS c (.cb (dr es p.1 p.2))) else none
  |_=>none
noncomputable def vl:bX
 |[.ref c],σ=>match σ.cells c with
  |some (.list vs)=>(ky σ.next vs (σ.new (.cb []))).map λaZ=>(.ref σ.next,aZ)
  |_=>none
 |_,_=>none
theorem eC.Sd(R:eC A (k+1)):eC A.in1.in1 k:=⟨R.h,by have:=R.d;show A.depth+8*k+8<1000;exact aC.WK this,by have:=R.u;show A.units+1+1+64*k+200<9900;exact aC.WR this,R.g⟩
theorem Kf:entryFor table "dict.update.loop"=some Builtin.«dict.update.loop»:=entryFor_of_tree (by kernel_rfl)
theorem xb:plainId "dict.update.loop"=true:=by decide+kernel
theorem XK(h:wX x=some p):∃a,x=.bk [a,p.2]/\toAtom a=some p.1:=
 J.casesOn (motive_1:=λx=>wX x=some p->∃a,x=.bk [a,p.2]/\toAtom a=some p.1) x (λh=>aq h) (λ_ h=>aq h) (λ_ h=>aq h) (λ_ h=>aq h) (λ_ h=>aq h) (λvs h=>by
  rcases vs with _|⟨a,_|⟨b,_|⟨c,r⟩⟩⟩
  .exact aq h
  .exact aq h
  .obtain⟨k,hk,e⟩:=Option.map_eq_some_iff.mp h
   rw[<-e];exact⟨a,rfl,hk⟩
  .exact aq h) (λ_ h=>aq h) (λ_ h=>aq h) (λ_ _ _ h=>aq h) (λ_ h=>aq h) (λ_ h=>aq h) h
theorem c6.LC{α:Type}{x:Option c6}{f:List (bp×J)->Option α}{y:α}(e:(match x with|some (.cb es)=>f es|_=>none)=some y):∃es,x=some (.cb es)/\f es=some y:=by
 rcases x with _|(_|es|_|_|_)
 .exact aq e
 .exact aq e
 .exact⟨es,rfl,e⟩
 .exact aq e
 .exact aq e
 .exact aq e
theorem Sb{α:Type}{d:Decidable p}{a:Option α}{b:α}(h:(if p then a else none)=some b):p/\a=some b:=by
 by_cases e:p
 .rw[if_pos e] at h;exact⟨e,h⟩
 .rw[if_neg e] at h;exact aq h
theorem DT{c:Nat}(h:ky c (x::r) σ=some aZ):∃k v a es,x=.bk [a,v]/\toAtom a=some k/\σ.cells c=some (.cb es)/\es.length<=1000000/\ky c r (σ.aS c (.cb (dr es k v)))=some aZ:=by
 obtain⟨p,hp,h⟩:=bind_some (show(wX x).bind _=some aZ from h)
 obtain⟨es,aw,h⟩:=c6.LC (f:=λes=>if es.length<=1000000 then ky c r (σ.aS c (.cb (dr es p.1 p.2))) else none) h
 obtain⟨aG,h⟩:=Sb h
 obtain⟨a,e,hk⟩:=XK hp
 exact⟨p.1,p.2,a,es,e,hk,aw,aG,h⟩
theorem bw.letGo(R:bw prog w h₁ W σ h)(cP:W.role aO=.fix o)(ag:∀a x,a≠aO->h.get? a=some x->h'.get? a=some x):bw prog w h₁ (W.aS aO .free) σ h':=by
 have jU:=R.rD (W':=W.aS aO .free) rfl λa=>by
  by_cases e:a=aO
  .exact .inr ⟨.inr ⟨o,e▸cP⟩,.inl (e▸az.cX)⟩
  .exact .inl (az.b' e)
 have e3:∀a,(W.aS aO .free).role a≠.free->h'.get? a=h.get? a:=λa ha=>by
  obtain⟨oa,hL⟩:=jU.1.live a ha
  rw[hL];exact ag a oa (λe=>ha (e▸az.cX)) hL
 exact jU.1.keep (λa ha _=>e3 a ha) λa ha=>by rw[e3 a (bL.ne ha)];exact jU.1.live a (bL.ne ha)
structure Lv (prog:Program) (w:World) (h₁:Heap) (src:J) (ih:Value) (items:List J) (aO da:Addr) (N:az->Prop) (P:Nat->Obj->Prop) (d ai:Nat) (W:az) (σ:St) (h:Heap):Prop where
 n:N W
 R:bw prog w h₁ W σ h
 r:aM prog w W σ.next src ih
 f:∃o,W.role aO=.fix o/\P ai o
 da:W.al d=da
 aS:∀es,dO src (σ.aS d (.cb es))=some items
 it:dO src σ=some items
noncomputable def Lu(prog:Program)(w:World)(h₁:Heap)(aO:Addr)(W:az)(R:Result->Shared->Prop)(s:Shared)(aZ:St):Prop:=
 ∀W' h' cI,W'.al=W.al->(∀b,b≠aO->W'.role b=W.role b)->W'.role aO=.free->bw prog w h₁ W' aZ h'->R (.ok (.ret .none)) {s with heap:=h',toks:=cI}
theorem St.XZ{σ:St}:(σ.aS d x).aS d y=σ.aS d y:=by
 unfold St.aS
 refine congrArg (λf=>St.mk f σ.next) (funext λe=>?_)
 by_cases q:e=d
 .rw[if_pos q,if_pos q]
 .rw[if_neg q,if_neg q];exact if_neg q
theorem aai{A:Around}{da:Addr}{k:Nat}{R:Result->Shared->Prop}(aE:eC A.in1 k)(gP:lX prog w h₁ k src ih items aO N P)
 (rest:List J):∀(ai:Nat) (W:az) (σ aZ:St) (s:Shared) (i:Int),items.drop ai=rest->ai<=items.length->Lv prog w h₁ src ih items aO da N P d ai W σ s.heap->ky d rest σ=some aZ->Lu prog w h₁ aO W R s aZ->
   codeAny (model prog w) A (.builtin "dict.update.loop" ⟨[.ref da,.ref aO,.int i 0,.none],[]⟩) R s:=by
 induction rest with
 |nil=>
  intro ai W σ aZ s i kI cD J kH aP
  obtain⟨o,cP,cG⟩:=J.f
  rw[<-Option.some.inj kH] at aP
  refine codeAny_builtin Kf ?_
  rw[Around.under_plainId xb _]
  unfold Builtin.«dict.update.loop»
  exact wpAny_bind (gP.done A.in1 W σ ai o _ _ _ aE J.n J.R J.r J.it (yZ kI) cD (J.R.fix _ _ cP) cG cP λaQ cN sO=>wpAny_bind (wpAny_pure (wpAny_pure
   (aP (W.aS aO .free) aQ cN rfl (λb ag=>az.b' ag) az.cX (J.R.letGo cP sO)))))
 |cons x r aX=>
  intro ai W σ aZ s i kI cD J kH aP
  obtain⟨o,cP,cG⟩:=J.f
  obtain⟨av,kI⟩:=vn kI
  obtain⟨dt,v,a,es,mM,hk,mY,aG,kH⟩:=DT kH
  refine codeAny_builtin Kf ?_
  rw[Around.under_plainId xb _]
  unfold Builtin.«dict.update.loop»
  refine wpAny_bind (gP.item A.in1 W σ ai x o _ _ _ aE J.n J.R J.r J.it av (J.R.fix _ _ cP) cG cP λdC aQ cN ic eB mU mV ma=>?_)
  dsimp only
  refine eK λG bT=>?_
  have hG:=J.R.swap cP ma mU
  have tn:W.eM σ.next (W.aS aO (.fix ic)):=az.rb cP
  rw[mM] at eB
  obtain⟨ad,dq,n,e,bb,cx,q⟩:=(eB.a4 tn (Nat.le_refl _)).jL hG
  obtain⟨bq,bP,a7,bO,cK⟩:=q.Ke
  have hT:({s with heap:=aQ,toks:=cN}:Shared).TypeIs (.ref ad) "tuple":=⟨_,cx,rfl⟩
  refine bT ?_
  rw[e]
  refine wpAny_bind (wpAny_holding (wpAny_bind (wpAny_tryCatch ?_)))
  unfold Builtin.Dict.pairItems
  refine wpAny_bind (wpAny_typeOf hT (iv (by decide) (wpAny_bind (wpAny_seqItems cx rfl (wpAny_pure ?_)))))
  show wpAny _ _ (match dq.toList with|[k,v]=>_|l=>_) _ _ _
  rw[a7]
  refine wpAny_holding (OK (W:=W.aS aO (.fix ic)) (σ:=σ) (s:={s with heap:=aQ,toks:=cN}) hG mY (toAtom_is bO hk) cK aG rfl J.da λh4 oC dW mb=>wpAny_pure ⟨plainId_quiet xb _,?_⟩)
  refine aX (ai+1) (W.aS aO (.fix ic)) (σ.aS d (.cb (dr es dt v))) aZ {s with heap:=h4,toks:=oC} (i+1) kI (List.getElem?_eq_some_iff.mp av).1 ⟨gP.tY _ _ _ J.n tn,dW,J.r.a4 tn (Nat.le_refl _),⟨ic,az.cX,mV⟩,J.da,λeJ=>by rw[St.XZ];exact J.aS eJ,J.aS _⟩ kH λW' h' cI a8 a7 e3 dA=>
   aP W' h' cI a8 (λb ag=>(a7 b ag).trans (az.b' ag)) e3 dA
theorem LK:ky c vs σ=some aZ->aZ.next=σ.next:=by
 induction vs generalizing σ with
 |nil=>exactλh=>congrArg St.next (Option.some.inj h).symm
 |cons x r aX=>
  intro h
  obtain⟨_,_,_,_,_,_,_,_,h⟩:=DT h
  have q:=aX h
  exact q
theorem N3(aE:eC A (k+1))(R:bw prog w h₁ W σ s.heap)(bO:aM prog w W σ.next (.ref c) (.ref (W.al c)))(px:c<σ.next)(aw:σ.cells c=some (.list vs))(kH:ky σ.next vs (σ.new (.cb []))=some bD)(aP:c7 prog w h₁ W σ s Q (.ref σ.next) bD):
 wpAny (model prog w) A (call (.type "dict") [.ref (W.al c)]) Q E s:=by
 refine callType_codes (Q₁:=λobj bh=>obj=.ref s.heap.objs.size/\bh={s with heap:=s.heap.push {cls:=.type "dict",data:=.dict #[]}}) PySem.F.kt_called_dict (PySem.F.kt_typeCall_dict_1 _) PySem.F.entry_dict_init (kt_code_dict_new _ ⟨rfl,rfl⟩) λobj bh e=>?_
 rw[e.1,e.2]
 refine eK λG bT=>?_
 obtain⟨items,dt,g,q⟩:=(R.cell c _ aw).2.bc
 obtain⟨bu,bA,bb⟩:=R.TA {cls:=.type "dict",data:=.dict #[]} (.cb []) rfl (DM rfl R.fresh)
 have hT:({s with heap:=s.heap.push {cls:=.type "dict",data:=.dict #[]}}:Shared).TypeIs (.ref s.heap.objs.size) "dict":=⟨_,Heap.get?_push_size _ rfl,rfl⟩
 have Gq:(s.heap.push {cls:=.type "dict",data:=.dict #[]}).get? (W.al c)=some (listOf items dt):=Heap.get?_push_of_some _ g
 have vL:({s with heap:=s.heap.push {cls:=.type "dict",data:=.dict #[]}}:Shared).TypeIs (.ref (W.al c)) "list":=⟨_,Gq,rfl⟩
 have H7:¬c=σ.next:=Nat.ne_of_lt px
 have GC:(σ.new (.cb [])).cells c=some (.list vs):=(if_neg H7).trans aw
 have hit:dO (.ref c) (σ.new (.cb []))=some vs:=by unfold dO;dsimp only;rw[GC]
 have Jy:aM prog w (W.eD σ.next s.heap.objs.size) (σ.new (.cb [])).next (.ref c) (.ref (W.al c)):=bO.a4 bA.1 (Nat.le_succ _)
 refine bT ⟨hT,PySem.F.args_dict_init_2 _ _,?_⟩
 unfold Builtin.«dict.__init__»
 refine wpAny_bind ?_
 unfold Builtin.Dict.selfAndRest
 refine wpAny_bind (wpAny_notOrdered_dict hT ?_)
 show wpAny _ _ (pure (s.heap.objs.size,[Value.ref (W.al c)])) _ _ _
 refine wpAny_pure ?_
 show wpAny _ _ (Builtin.Dict.updateFrom "dict.__init__" s.heap.objs.size (.ref (W.al c)) [] .none) _ _ _
 unfold Builtin.Dict.updateFrom
 refine wpAny_bind (wpAny_typeOf vL (iv (by decide) (wpAny_bind (Qs Gq aE.h λh2 tk2 kJ=>bm_if_true rfl (wpAny_bind (wpAny_rule ?_))))))
 have cn:=bu.j6 kJ
 refine wpAny_bind (BK (k:=k) (s:={s with heap:=h2,toks:=tk2}) cn Jy hit λo N P lB h6 cG gP=>wpAny_pure ⟨plainId_quiet xb _,?_⟩)
 have dF:(W.eD σ.next s.heap.objs.size).role h2.objs.size=.free:=cn.free (Nat.le_refl _)
 have h5:(h2.push o).get? h2.objs.size=some o:=Heap.get?_push_size _ lB
 have dc:=(cn.push o).hu (r:=.fix o) dF ⟨o,h5⟩ (λ_ e=>nomatch e) (λcO e=>bL.fix.inj e▸h5)
 have cR:=az.gG (n:=(σ.new (.cb [])).next) (r:=.fix o) dF
 have ed:((W.eD σ.next s.heap.objs.size).aS h2.objs.size (.fix o)).al σ.next=s.heap.objs.size:=if_pos rfl
 refine aai (da:=s.heap.objs.size) (d:=σ.next) aE.Sd gP vs 0 _ (σ.new (.cb [])) bD {s with heap:=h2.push o,toks:=tk2} 0 rfl (Nat.zero_le _) ⟨gP.tY _ _ _ h6 cR.1,dc,Jy.a4 cR.1 (Nat.le_refl _),⟨o,az.cX,cG⟩,ed,λes=>?_,hit⟩ kH λW' h' cI a8 a7 e3 dA=>?_
 .have:((σ.new (.cb [])).aS σ.next (.cb es)).cells c=some (.list vs):=(if_neg H7).trans GC
  unfold dO;dsimp only;rw[this]
 .have en:bD.next=σ.next+1:=LK kH
  have hA:∀b,b≠s.heap.objs.size->(W.eD σ.next s.heap.objs.size).role b=W.role b:=λb ag=>if_neg ag
  have keepR:∀b r,W.role b=r->r≠.free->W'.role b=r:=λb r e aI=>by
   have ah:b≠s.heap.objs.size:=λq=>aI (e.symm.trans (R.free (Nat.le_of_eq q.symm)))
   have h1:b≠h2.objs.size:=λq=>aI (e.symm.trans ((hA b ah).symm.trans (by rw[q];exact dF)))
   exact((a7 b h1).trans (az.b' h1)).trans ((hA b ah).trans e)
  have le:W.le σ.next W':=⟨⟨λb hQ e=>keepR b _ e (λq=>nomatch q),λEn GB=>by rw[a8];exact cR.1.2 En (Nat.lt_succ_of_lt GB)|>.trans (bA.1.2 En GB)⟩,λb hQ e=>keepR b _ e (λq=>nomatch q),λb e=>keepR b _ e (λq=>nomatch q)⟩
  have q:aM prog w W' bD.next (.ref σ.next) (.ref (W'.al σ.next)):=.ref (by rw[en];exact Nat.lt_succ_self _)
  rw[show W'.al σ.next=s.heap.objs.size by rw[a8];exact ed] at q
  exact⟨rfl,aP W' _ h' cI le (by rw[en];exact Nat.le_succ _) dA q⟩
theorem TY:OpOk prog w h₁ (k+1) (λvs=>call (.type "dict") vs) vl:=
 .fm λW σ a bq r cg bO aI=>.ref (λa=>a::r) (λa=>a::cg) bO λc bq bO=>.end (λq=>_::q) (λq=>_::q) aI λA s Q E aE aW R=>wpN.of<|by
 obtain⟨v,aZ,e,aW⟩:=aW.cv
 obtain⟨vs,aw,e⟩:=c6.AZ (f:=λvs=>(ky σ.next vs (σ.new (.cb []))).map λaZ=>(J.ref σ.next,aZ)) e
 obtain⟨bD,kH,e⟩:=Option.map_eq_some_iff.mp e
 rw[<-(Prod.mk.inj e).1,<-(Prod.mk.inj e).2] at aW
 obtain⟨px,ed⟩:=bO.bc
 rw[ed] at bO⊢
 exact N3 aE R bO px aw kH aW
end
structure oO (K:Frag) (dN:Addr):Prop where
 hga:findIn K (.ref fF) "__getattribute__"=some (some (.builtin "object.__getattribute__"))
 hsa:findIn K (.ref fF) "__setattr__"=some (some (.builtin "object.__setattr__"))
 hk:findIn K (.ref fF) "__getattr__"=some none
 hp:plainOver K fF=true
 ht:takerIn K fF "times"=some none
 hh:hasDictIn K fF=true
 ha:findIn K (.ref fF) "times"=some none
 hm:makesIn K fF=true
 hi:findIn K (.ref fF) "__init__"=some (some (.ref dN))
 hf:typeIn K (.ref dN)=some (.type "function")
section
variable{prog:Program}{w:World}{h₁:Heap}{K:Frag}{own:Bool}{env:Env}{ns:List Str}{k:Nat}{dN:Addr}
theorem bK.sl(B:bK K h₁)(R:bw prog w h₁ W σ h):K.In h:=B.X.keeps R.old
noncomputable def xJ(prog:Program)(w:World)(W:az)(n:Nat)(es:List DictEntry):Option J->Prop
 |none=>es=[]
 |some v=>∃(hh:Int) (b7:Tok) (ay:Value),es=[⟨hh,.str "times" b7,ay⟩]/\aM prog w W n v ay
theorem inst_at(R:bw prog w h₁ W σ h)(aw:σ.cells c=some (.inst t)):
 ∃d es n,h.get? (W.al c)=some (instObj fF d)/\W.role d=.gw c/\h.get? d=some (dictOf es n)/\InstAt h (W.al c) (instObj fF d) fF (some (dictOf es n))/\
  xJ prog w W σ.next es t:=by
 obtain⟨d,es,n,g,r,q,v⟩:=(R.cell c _ aw).2.bc
 exact⟨d,es,n,g,r,q,⟨g,rfl,rfl,q⟩,by rcases t with _|t<;>exact v⟩
noncomputable def j1(fN:cW):cW:=λU σ=>(fN U σ).bind λr=>match r.1 with
 |.ref c=>match r.2.cells c with
  |some (.inst (some (.cw es)))=>some (.cw es,r.2)
  |_=>none
 |_=>none
noncomputable def D0(v:J)(σ:St):Option (J×St):=match v with
 |.ref c=>match σ.cells c with
  |some (.inst (some (.cw es)))=>some (.cw es,σ)
  |_=>none
 |_=>none
theorem instC_inv{x:Option c6}(h:aJ (match x with|some (.inst (some (.cw es)))=>some (J.cw es,σ)|_=>none) aA):∃es,x=some (.inst (some (.cw es)))/\aA (.cw es) σ:=by
 rcases x with _|(_|_|_|(_|(_|_|_|_|_|_|_|es|_|_|_))|_)
 all_goals first|exact False.elim h|exact⟨es,rfl,h⟩
theorem Mr{v:J}(h:aJ (D0 v σ) aA):∃c es,v=.ref c/\σ.cells c=some (.inst (some (.cw es)))/\aA (.cw es) σ:=
 J.casesOn (motive_1:=λv=>aJ (D0 v σ) aA->∃c es,v=.ref c/\σ.cells c=some (.inst (some (.cw es)))/\aA (.cw es) σ) v (λh=>False.elim h) (λ_ h=>False.elim h) (λ_ h=>False.elim h) (λ_ h=>False.elim h) (λ_ h=>False.elim h) (λ_ h=>False.elim h) (λ_ h=>False.elim h) (λ_ h=>False.elim h) (λ_ _ _ h=>False.elim h) (λc h=>have h:=instC_inv h;h.elim λes h=>⟨c,es,rfl,h⟩) (λ_ h=>False.elim h) h
theorem sx(B:bK K h₁)(aA:oO K dN)(aH:bj prog w h₁ own env ns k (eval o env) fN)
 (bV:autoParam (eval (.Attribute o "times" pos) env=(do
    let v<-eval o env
    standAt pos.atName
    let r<-holding [v] (getAttr v "times" true)
    letTemporaryGo o v r
    pure r)) xh._auto_1):bj prog w h₁ own env ns k (eval (.Attribute o "times" pos) env) (j1 fN):=by
 refine .of λA W U σ s Q E aE ao R=>?_
 rw[bV]
 refine a5 (aH.go aE ao.bind R λeb ct ao br dz h1 cE bA ae bu bb=>eK λG bT=>?_)
 obtain⟨c,es,fU,aw,ao⟩:=Mr (v:=eb) ao
 rw[show eb=_ from fU] at bb
 obtain⟨d,dK,n,g,lO,Gn,aO,hh,b7,ay,a7,e'⟩:=inst_at bu.bE aw
 obtain⟨_,fU⟩:=bb.bc
 refine bT ?_
 rw[fU]
 refine a5 (d0 (a5 (dV (.of (get_value (s:={s with heap:=h1,toks:=cE}) (B.sl bu.bE) aO aA.hga (v:=ay) (findObj_own aA.hh aA.ha (by rfl) ?_) ?_ ?_)))))
 .rw[lookIn_dict,a7];rfl
 .obtain⟨_,_,_,_,_,_,_,e⟩:=e'.bc
  rw[e];rfl
 .exact a5 (.of (wpAny_letTemporaryGo (cq (du.to ao br ay h1 _ bA ae bu e'))))
theorem aaA
 (h:wpN M A (eval value env) (λv bh=>wpN M A (eval o env) (λiD cS=>wpN M A (setAttr iD attr v) (λ_=>Q .next) E cS) E bh) E s)
 (hs:autoParam (swapsWith value (some (.Attribute o attr iE)) pos.line env=pure false) aL._auto_1):wpN M A (exec (.Assign [.Attribute o attr iE] value pos) env) Q E s:=by
 rw[plainObj_exec_Assign_Attribute o attr iE value pos hs]
 refine a5 (d0 (a5 (cy h (λv bh h₁=>a5 ?_) λ_ _ e=>e)))
 rw[assign_Attribute]
 exact a5 (dV (cy h₁ (λiD cS eh=>a5 (d0 (a5 (dV (cy eh (λ_ _ gr=>.of (wpAny_release' (cq gr))) λ_ _ e=>e))))) λ_ _ e=>e))
theorem Js(x:PySem.Str)(a:Int)(b v:Value):∀es:List DictEntry,(putL x a b v es).length<=es.length+1
 |[]=>Nat.le_refl _
 |e::r=>by
  unfold putL
  cases e.key.isStr x
  .exact Nat.succ_le_succ (Js x a b v r)
  .exact Nat.le_succ _
theorem Jd(X:K.In s.heap)(aA:oO K dN)(aO:InstAt s.heap x (instObj fF d) fF (some (dictOf es n)))(aG:(lookIn "times" (dictOf es n)).isSome=true)(hz:es.length<=1)
 (h:∀h',h'.get? d=some (dictOf (putL "times" (PyData.keyHash w.params "times") (.str "times" s.toks) v es) (putN "times" es n))->Heap.SameBut d s.heap h'->R (.ok (.ret .none)) {s with heap:=h',toks:=s.toks+1}):
 codeAny (model prog w) A (.call (.builtin "object.__setattr__") ⟨[.ref x,.str "times" b7,v],[]⟩) R s:=by
 refine osa_open X aO aA.hp aA.ht λb=>?_
 obtain⟨nQ,aw,ee⟩:=any_some aA.hh
 have D:s.heap.get? d=some (dictOf es n):=aO.dict
 have av:s.heap.get? x=some (instObj fF d):=aO.at_
 refine wpAny_bind (wpAny_pure (wpAny_bind (wpAny_bind (wpAny_loadPart av (wpAny_bind ((looks_clsIn X aw).here ?_))))))
 rw[ee]
 refine wpAny_pure (a:=some d) (wpAny_bind (wpAny_pure (wpAny_bind ?_)))
 unfold nsSet
 refine wpAny_bind (wpAny_bind (wpAny_askSetting (wpAny_pure (wpAny_bind (wpAny_mkText (wpAny_bind (wpAny_loadPart D ?_)))))))
 dsimp only
 have c:(!es.toArray.any (·.key.isStr "times")&&es.toArray.any (·.refKey))=false:=by
  unfold lookIn at aG
  dsimp only at aG
  rw[<-Array.any_toList,<-Array.any_toList]
  split at aG
  .rename_i en bV
   rw[List.any_eq_true.mpr ⟨en,List.mem_of_find?_eq_some bV,List.find?_some bV⟩];rfl
  .split at aG
   .cases aG
   .rename_i z;rw[Bool.not_eq_true] at z;rw[z,Bool.and_false]
 rw[aRefKeyMayBeTheName_at,c]
 refine wpAny_updatePart D ?_
 have Dc:(s.heap.update d (Obj.putName "times" (PyData.keyHash w.params "times") (.str "times" s.toks) v)).get? d=some (dictOf (putL "times" (PyData.keyHash w.params "times") (.str "times" s.toks) v es) (putN "times" es n)):=by
  rw[<-putName_dict]
  exact Heap.get?_update_self _ D (by rw[putName_dict];rfl)
 refine wpAny_bind (wpAny_lookBehind Dc (pastItsLine_dict (es:=(putL "times" (PyData.keyHash w.params "times") (.str "times" s.toks) v es).toArray) (Nat.le_trans (Js _ _ _ _ es) (Nat.succ_le_succ (Nat.le_trans hz (by rw[sizeLine_eq];decide))))) ?_)
 exact wpAny_pure (h _ Dc (Heap.SameBut.update ..))
theorem bC.B3{U:Loc}(R:bC prog w h₁ own env ns W U σ h)(aw:σ.cells c=some x)(hp:W.role p=.gw c)(hs:Heap.SameBut p h h')(As:∃o,h'.get? p=some o)(bB:CellAt prog w W σ.next h' c (W.al c) y):
 bC prog w h₁ own env ns W U (σ.aS c y) h':=
 R.next (R.bE.B3 aw hp hs As bB) az.le.refl (Nat.le_refl _) λa ha=>hs.2 a (by rintro rfl;exact bL.no hp ha)
noncomputable def tU(mx fN:cW):cf:=λU σ=>(mx U σ).bind λv=>(fN U v.2).bind λo=>match v.1,o.1 with
 |.cw es,.ref c=>match o.2.cells c with
  |some (.inst _)=>some (.next,U,o.2.aS c (.inst (some (.cw es))))
  |_=>none
 |_,_=>none
noncomputable def BY(U:Loc)(v o:J)(σ:St):Option (fy×Loc×St):=match v,o with
 |.cw es,.ref c=>match σ.cells c with
  |some (.inst _)=>some (.next,U,σ.aS c (.inst (some (.cw es))))
  |_=>none
 |_,_=>none
theorem inst_inv{x:Option c6}(h:aJ (match x with|some (.inst _)=>m|_=>none) aA):∃t,x=some (.inst t)/\aJ m aA:=by
 rcases x with _|(_|_|_|t|_)
 all_goals first|exact False.elim h|exact⟨t,rfl,h⟩
theorem Zy{U:Loc}(h:aJ (BY U v o σ) aA):∃es c t,v=.cw es/\o=.ref c/\σ.cells c=some (.inst t)/\aJ (some (fy.next,U,σ.aS c (.inst (some (.cw es))))) aA:=
 J.casesOn (motive_1:=λv=>aJ (BY U v o σ) aA->∃es c t,v=.cw es/\o=.ref c/\σ.cells c=some (.inst t)/\aJ (some (fy.next,U,σ.aS c (.inst (some (.cw es))))) aA) v (λh=>False.elim h) (λ_ h=>False.elim h) (λ_ h=>False.elim h) (λ_ h=>False.elim h) (λ_ h=>False.elim h) (λ_ h=>False.elim h) (λ_ h=>False.elim h) (λes=>J.casesOn (motive_1:=λo=>aJ (BY U (.cw es) o σ) aA->∃eJ c t,J.cw es=.cw eJ/\o=.ref c/\σ.cells c=some (.inst t)/\aJ (some (fy.next,U,σ.aS c (.inst (some (.cw eJ))))) aA) o (λh=>False.elim h) (λ_ h=>False.elim h) (λ_ h=>False.elim h) (λ_ h=>False.elim h) (λ_ h=>False.elim h) (λ_ h=>False.elim h) (λ_ h=>False.elim h) (λ_ h=>False.elim h) (λ_ _ _ h=>False.elim h) (λc h=>(inst_inv h).elim λt h=>⟨es,c,t,rfl,rfl,h⟩) (λ_ h=>False.elim h)) (λ_ _ _ h=>False.elim h) (λ_ h=>False.elim h) (λ_ h=>False.elim h) h
theorem aaa(h:xJ prog w W m es t):(lookIn "times" (dictOf es n)).isSome=true/\es.length<=1/\(es=[]\/∃hh b7 ay,es=[⟨hh,.str "times" b7,ay⟩]):=by
 rcases t with _|v
 .rw[show es=[] from h];exact⟨rfl,Nat.zero_le _,.inl rfl⟩
 .obtain⟨hh,b7,ay,e,_⟩:=h
  rw[e];exact⟨rfl,Nat.le_refl _,.inr ⟨_,_,_,rfl⟩⟩
theorem aab(h:xJ prog w W m es t)(e':aM prog w W m v ay):∃(hh:Int) (cI:Tok) (Kl:Value),putL "times" a (.str "times" b7) ay es=[⟨hh,.str "times" cI,Kl⟩]/\aM prog w W m v Kl:=by
 rcases t with _|u
 .rw[show es=[] from h];exact⟨_,_,_,rfl,e'⟩
 .obtain⟨hh,b7,ay,e,_⟩:=h
  rw[e];exact⟨_,_,_,rfl,e'⟩
theorem YM(B:bK K h₁)(aA:oO K dN)(h:bj prog w h₁ true env ns k (eval e env) mx)(aH:bj prog w h₁ true env ns k (eval o env) fN)
 (hs:autoParam (swapsWith e (some (.Attribute o "times" iE)) pos.line env=pure false) aL._auto_1):SOk prog w h₁ env ns k (exec (.Assign [.Attribute o "times" iE] e pos) env) (tU mx fN):=by
 refine .of λA W U σ s Q E aE ao R=>aaA (h.go aE ao.bind R λeb ct ao br dz h1 cE bA ae bu bb=>aH.go aE (aJ.bind ao) bu λgx bD ao bH dj h2 tk2 a' aK cn bJ=>eK λG bT=>?_) hs
 obtain⟨es,c,t,fM,dR,aw,ao⟩:=Zy (v:=eb) (o:=gx) ao
 rw[show eb=_ from fM] at bb
 rw[show gx=_ from dR] at bJ
 obtain⟨d,dK,n,g,lO,Gn,aO,a0⟩:=inst_at cn.bE aw
 have e':=bb.a4 a'.1 aK
 obtain⟨_,fU⟩:=bJ.bc
 have GS:=aaa (n:=n) a0
 have Tx:bH.al c≠d:=λq=>bL.no (cn.bE.cell c _ aw).1 ((congrArg _ q).trans lO)
 refine bT ?_
 rw[fU]
 refine .of (set_plain (s:={s with heap:=h2,toks:=tk2}) (B.sl cn.bE) aO aA.hsa (Jd (s:={s with heap:=h2,toks:=tk2+1}) (B.sl cn.bE) aA aO GS.1 GS.2.1 λaQ g3 ma=>?_))
 exact fT.to ao bH _ aQ _ (bA.trans ae a') (Nat.le_trans ae aK) (cn.B3 (y:=.inst (some (.cw es))) aw lO ma ⟨_,g3⟩ (.inst (d:=d) ((ma.2 _ Tx).trans g) lO g3 (aab a0 e'))) trivial
end
section
variable{prog:Program}{w:World}{h₁:Heap}{K:Frag}{own:Bool}{env:Env}{ns:List Str}{k:Nat}{dN:Addr}
theorem aaS
 (h:wpN M A (spliced []) (λvs aY=>Q ⟨vs,[]⟩ aY) E s):wpN M A (evalArgs f true [] []) Q E s:=by
 exactλcY p eT aw=>(Kx (show Q ⟨[],[]⟩ s from h cY p eT aw)) cY p eT aw
noncomputable def ke(F:bX)(fN:cW)(ei:k4):cW:=λU σ=>(fN U σ).bind λr=>match r.1 with
 |.ref c=>match r.2.cells c with
  |some (.inst _)=>(ei U r.2).bind λq=>F (.ref c::q.1) q.2
  |_=>none
 |_=>none
theorem aaF
 (mW:attributeBase o name env (eval o env)=eval o env)
 (pB:((backTo pos (starEach args env)).all (λx=> !x.1)&&(backToKw pos (keywordEach [] env)).all (λx=>x.1.isSome)
   &&decide (args.length+([]:List Keyword).length+(if([]:List Keyword).isEmpty then 0 else 1)<30))=true)
 (m2:(i6.endLine==pos.line)=true)(AD:backTo pos (starEach args env)=B9)
 (h:wpN (model prog w) A (eval o env) (λiD bh=>(∀(P:Value×List Value->Shared->Prop) (ox:Sem Bool),P (.ref fa,[iD]) bh->wpAny (model prog w) A (getMethod iD name ox) P E bh)/\
   wpN (model prog w) A (callWith pos (.ref fa) [iD] B9 []) Q E bh) E s):
 wpN (model prog w) A (eval (.Call (.Attribute o name i6) args [] pos) env) Q E s:=by
 subst AD
 rw[arm_eval_Call,mW]
 refine a5 (cy h (λiD bh h₁=>?_) λ_ _ e=>e)
 obtain⟨hm,aw⟩:=h₁
 refine a5 (d0 ?_)
 have Af:methodCallForm (args.length+([]:List Keyword).length) (backTo pos (starEach args env)) (backToKw pos (keywordEach [] env))=true:=pB
 have Au:methodCallPos true o env i6 pos=pure pos:=by unfold methodCallPos;simp[m2]
 unfold methodCall
 rw[Af]
 refine a5 (dV (.of (hm _ _ ?_)))
 dsimp only
 rw[Au]
 exact a5 (cq aw)
theorem sz(B:bK K h₁)(aA:oO K dN)
 (Q4:findIn K (.ref fF) name=some (some (.ref fa)))(Q7:typeIn K (.ref fa)=some (.type "function"))(lB:h₁.get? fa=some of)(Ac:of.data=.func fd)
 (aH:bj prog w h₁ own env ns k (eval o env) fN)(ha:k5 prog w h₁ own env ns k (spliced (backTo pos (starEach args env))) ei)(gz:OpOk prog w h₁ k (λvs=>call (.ref fa) vs) F)
 (Rx:autoParam (∀n,shadowIn (some (dictOf [] n)) name=some false) d5._auto_1)
 (jc:autoParam (∀hh b7 ay n,shadowIn (some (dictOf [⟨hh,.str "times" b7,ay⟩] n)) name=some false) abA._auto_1)
 (mW:autoParam (attributeBase o name env (eval o env)=eval o env) aL._auto_1)
 (pB:autoParam (((backTo pos (starEach args env)).all (λx=> !x.1)&&(backToKw pos (keywordEach [] env)).all (λx=>x.1.isSome)
   &&decide (args.length+([]:List Keyword).length+(if([]:List Keyword).isEmpty then 0 else 1)<30))=true) aL._auto_1)
 (m2:autoParam ((i6.endLine==pos.line)=true) aL._auto_1)(pF:autoParam ((backTo pos (starEach args env)).any (·.1)=false) aL._auto_1)
 (Ab:∀(A:Around) (s:Shared) (Q:Args->Shared->Prop) (E:Value->Shared->Prop),wpN (model prog w) A (spliced (backTo pos (starEach args env))) (λvs aY=>Q ⟨vs,[]⟩ aY) E s->wpN (model prog w) A (evalArgs (.ref fa) true (backTo pos (starEach args env)) []) Q E s:=by
   first|exactλ_ _ _ _ h=>Ky h|exactλ_ _ _ _ h=>aaS h):
 bj prog w h₁ own env ns k (eval (.Call (.Attribute o name i6) args [] pos) env) (ke F fN ei):=by
 intro A W U σ v aZ s Q E aE ao R aP
 obtain⟨⟨eb,ct⟩,a8,ao⟩:=bind_some ao
 dsimp only at ao
 obtain⟨c,t,fM,aw,vK⟩:∃c t,eb=.ref c/\ct.cells c=some (.inst t)/\((ei U ct).bind λq=>F (.ref c::q.1) q.2)=some (v,aZ):=by
  split at ao
  .split at ao
   .exact⟨_,_,rfl,by assumption,ao⟩
   .exact aq ao
  .exact aq ao
 subst fM
 obtain⟨⟨vs,bD⟩,a7,ao⟩:=bind_some vK
 refine aaF (fa:=fa) mW pB m2 rfl ?_
 refine aH A W U σ _ ct s _ E aE a8 R λbr dz h1 cE bA ae bu bb=>?_
 obtain⟨d,dK,n,g,lO,Gn,aO,a0⟩:=inst_at bu.bE aw
 have X1:=bb
 cases bb
 refine⟨λP ox cG=>method_fn (s:={s with heap:=h1,toks:=cE}) (B.sl bu.bE) aO aA.hga aA.hk Q4 Q7 ?_ cG,?_⟩
 .induction t with
  |none=>obtain rfl:dK=[]:=a0;exact Rx n
  |some v=>obtain⟨hh,b7,ay,e,_⟩:=a0;subst e;exact jc hh b7 ay n
 refine Kw (o:=of) (fd:=fd) pF (Ab _ _ _ _ ?_)
 refine ha A br U ct vs bD _ _ E aE a7 bu λbH bG h2 tk2 a' aK cn bJ=>⟨⟨cn.bE.old _ _ lB,Ac⟩,?_⟩
 exact cn.op (s:={s with heap:=h2,toks:=tk2}) gz aE ao (.cons (X1.a4 a'.1 aK) bJ) λbY ay aQ cN cR bx dc dx=>
  aP bY ay aQ cN ((bA.trans ae a').trans (Nat.le_trans ae aK) cR) (Nat.le_trans ae (Nat.le_trans aK bx)) dc dx
end
section
noncomputable abbrev DI(q:Program)(loose:List Str)(XP:(Str->Option Value)->Heap->Prop)(YP:World->Heap->Prop)(r:RowW)(d:DefRec)(wh:List (Str×Expr)):Prop:=
 ∀(w:World) (nB bh:Shared) (jC nf:Str->Option Value),Ground q loose r.records XP w nB jC nf bh.heap->YP w bh.heap->∀(a:Addr) (o:Obj) (nt nQ doc su tj:Value),bh.heap.get? a=some o->
  o.data=.func {docDef d.name d.params d.body d.scope nt nQ doc with defaults:=su,kwdefaults:=tj}->bh.heap.CodeRec nQ d.name->Dflts jC bh.heap d.params wh su tj->jC d.name=some (.ref a)->bh.gens= #[]->
  ∀(args:List WData) (oF:List Value) (as:List Addr),r.claim.pre args=true->WData.layableAll args=true->ReadsAllW r.records (classAt nB.heap) bh.heap oF args as->WellAll w.params bh.heap oF args->(∀a∈as,(a==sysModules)=false)->
   wpN (model r.prog w) callerA (PySem.call (.ref a) oF) (λv aY=>GoodWG r.claim (classAt nB.heap) (ExcName.means nB.heap) args bh (.ok (.ret v)) aY)
    (λe aY=>GoodWG r.claim (classAt nB.heap) (ExcName.means nB.heap) args bh (.error e) aY) bh
noncomputable abbrev ve:Ctx:=⟨.builtin "claim.caller" {},none,none,[],none⟩
theorem Nl:ug ve:=⟨by decide+kernel,λ_ h=>nomatch h⟩
theorem Z'{R:Result->Shared->Prop}(RI:s.asleep)
 (h:wpN (model prog w) callerA t (λcA aY=>∃f,cA=.done f/\(R (.ok f) aY/\AllBare aY.gens)) (λe aY=>R (.error e) aY/\AllBare aY.gens) s):
 ∃n r aY nx,runN (denote table) prog w n s ⟨t,.builtin "claim.caller" {},default,[]⟩=.halted (outcomeOf r) aY/\
  schedN (denote table) prog w n (.single s ⟨t,.builtin "claim.caller" {},default,[]⟩)=.halted (outcomeOf r) aY/\aY.forget=nx.forget/\R r nx:=by
 have hw:Sem.wp (model prog w) ve t (Sem.finPost (model prog w) ve λr aY=>R r aY/\leftWithCleanup aY.gens=false) (λe _ aY=>R (.error e) aY/\leftWithCleanup aY.gens=false) default s:=by
  refine Sem.wp_mono _ _ _ (λcA iV aY h'=>?_) (λ_ _ _ h'=>⟨h'.1,leftWithCleanup_false_of_bare h'.2⟩) _ s (h ve default caller_in Nl)
  obtain⟨f,rfl,g1,g2⟩:=h'
  exact⟨g1,leftWithCleanup_false_of_bare g2⟩
 obtain⟨n,r,bh,cS,hs,aV,Ae,gd⟩:=wp_halts_full (M:=model prog w) (R:=R) RI hw
 exact⟨n,r,cS,bh,aV,hs,Ae,gd⟩
theorem Nf{c:ClaimW}{tree:List Value->Sem Fin}{free:Addr->Prop}(hz:s.asleep)(qR:s.gens= #[])
 (RP:∀args,c.pre args=true->WData.layableAll args=true->∀ord:List DictEntry->List DictEntry,(∀l,(ord l).Perm l)->
   ∃vs bh,layAllW c.records (classAt s.heap) w.params ord args s=some (vs,bh)/\
    wpN (model c.prog w) callerA (tree vs) (λcA aY=>∃f,cA=.done f/\(c.Ends s args vs bh (.ok f) aY/\aY.os=s.os/\AllBare aY.gens/\md aY.heap))
     (λe aY=>c.Ends s args vs bh (.error e) aY/\aY.os=s.os/\AllBare aY.gens/\md aY.heap) bh):
 c.CallFrom (λvs=>⟨tree vs,.builtin "claim.caller" {},default,[]⟩) w free gens md s:=by
 intro args j' qT ord vW
 refine eK λG bT=>?_
 obtain⟨vs,bh,od,QX⟩:=RP args j' qT ord vW
 have ju:=layAllW_rest _ _ _ od
 obtain⟨k,r,aY,nx,RK,RN,Ae,z6,oh,vR⟩:=Z' (prog:=c.prog) (w:=w) (t:=tree vs) (s:=bh) (R:=λr aY=>c.Ends s args vs bh r aY/\aY.os=s.os/\md aY.heap)
  (Shared.asleep_of_life ju.2.2.2 hz) (cy QX (λ_ _ q=>by obtain⟨f,e,a,b,g,k⟩:=q;exact⟨f,e,⟨a,b,k⟩,g⟩) λ_ _ q=>⟨⟨q.1,q.2.1,q.2.2.2⟩,q.2.2.1⟩)
 obtain⟨E1,_,_,gZ,_⟩:=Shared.forget_eq Ae
 have z6:=ClaimW.Ends.congr E1 z6
 rw[<-E1] at vR
 rw[<-gZ] at oh
 have Ri:aY.heap.life=s.heap.life:=(runN_life _ _ _ RK).trans ju.2.2.2
 refine bT ⟨vs,bh,od,k,_,aY,RN,?_,(λ_ i x av=>by rw[qR] at av;simp at av),vR,by rw[Ri],Shared.rest_eq oh⟩
 rcases z6 with⟨v,rfl,iq,fP,yV,yW,yX⟩|⟨e,ob,cls,rfl,iq,fP,yV,yW,yX⟩
 .exact .inl ⟨v,rfl,iq,fP,yV,λb o y _=>yW b o y,yX⟩
 .exact .inr ⟨e,ob,cls,rfl,iq,fP,yV,yW,λb o y _=>yX b o y⟩
end
namespace DB
theorem PySem.W.holds_open{r:OpenRow}{q:Program}{α:Type}{Yf:Shared->α}{Ya:World->α}{N:Nat}
 (left:LeftO r.prog q loose Xt Yf Ya N)(QT:∀w s,Yf s=Ya w->YP w s.heap)(QU:∀w h h',YP w h->(∀b o,h.get? b=some o->h'.get? b=some o)->YP w h')
 (Gw:∀s,Xt s=true->XP (s.heap.nsMap mainGlobals) s.heap)(QS:∀jC h h',XP jC h->(∀b o,h.get? b=some o->h'.get? b=some o)->XP jC h')
 (z9:defOf q r.name=some (d,wh))(hp:r.prog.theDef r.name=some (d.params,d.body,d.scope))(hk:kwWritten? d.params.kwonlyargs d.params.kw_defaults=some wh)(QM:∀s,Xt s=true->RecFacts r.records s.heap)(RY:(!r.writes||r.records.isEmpty)=true)
 (c8:r.wellSaid=true)(ok:(chainsOk q&&opensWell r.prog&&(frees r.toRowW&&r.within.isEmpty))=true)(ag:r.prog.bare)(hw:r.toRowW.promised)
 (call:DI q loose XP YP r.toRowW d wh):r.Holds:=by
 obtain⟨vO,AQ⟩:=Bool.and_eq_true_iff.mp ok
 obtain⟨vO,p1⟩:=Bool.and_eq_true_iff.mp vO
 obtain⟨AQ,lG⟩:=Bool.and_eq_true_iff.mp AQ
 obtain⟨RM,bI,ha,kH,hm⟩:=frees_parts AQ
 refine⟨c8,hw,⟨ag,p1,by show r.toRowW.makers.map _=[];rw[hm];rfl⟩,hw.witness,λw=>⟨(left.behind Gw vO w).1,λaY h7=>?_⟩⟩
 refine eK λabH MR=>?_
 obtain⟨nB,hf,Q8,s,hT,hz,qR,aT,jT,y⟩:=(left.behind (XP:=λjC h=>XP jC h/\RecFacts r.records h) (λs hs=>⟨Gw s hs,QM s hs⟩) vO w).2 aY h7
 have Dx:Ground q loose [] XP w s (s.heap.nsMap mainGlobals) (s.heap.nsMap builtinsNs) s.heap:=⟨jT.T,jT.B,jT.D,jT.TE,jT.TD,jT.W,jT.X.1,jT.cls,jT.has,jT.apart,jT.once,jT.K⟩
 have sh:=jT.X.2
 refine MR ⟨nB,hf,Q8,s,hT,λn aV=>?_,sh.1,sh.2.1,?_⟩
 .obtain rfl:n=r.name:=by split at aV<;>simp_all
  exact pinned_of_view aT Dx z9 hp hk
 have qR:s.gens= #[]:=Array.eq_empty_of_size_eq_zero (beq_iff_eq.mp qR)
 have G:Ground q loose r.records XP w s _ _ s.heap:=sh.ground Dx
 refine Nf hz qR λargs j' qT ord vW=>eK λabI MS=>?_
 obtain⟨⟨vs,bh⟩,od⟩:=Option.isSome_iff_exists.mp (layAllW_isSome (P:=w.params) (ord:=ord) G.has args r.args s (pre_splitW j').1)
 have keeps:=layAllW_keeps _ _ _ od
 have ju:=layAllW_rest _ _ _ od
 obtain⟨as,Aw,Ra,fj⟩:=reads_layAllW vW _ _ _ od qT bh.heap (λ_ _ e=>e)
 have aU:Laid r.records w s bh args vs as:=⟨⟨ord,vW,od⟩,Aw,Ra,fj,keeps,ju.1.trans qR,ju.2.2.1⟩
 have xC:=G.keeps QS keeps
 obtain⟨a,o,nt,nQ,doc,su,tj,a8,a7,e3,fI,mK⟩:=xC.fn z9
 have h:=call w s bh _ _ xC (QU _ _ _ (QT w s y) keeps) a o nt nQ doc su tj a7 e3 fI mK (defOf_name z9▸a8) aU.gens args vs as j' qT aU.reads aU.well (aU.low G.low)
 have hi:=ident_freeW bI ha kH
 have RW:r.toRowW.claim.within=[]:=List.isEmpty_iff.mp lG
 have cA:∀res aY,GoodWG r.toRowW.claim (classAt s.heap) (ExcName.means s.heap) args bh res aY->r.toRowW.claim.Ends s args vs bh res aY/\aY.os=s.os/\AllBare aY.gens/\(r.writes=true->namesKept r.toRowW.claim.prog r.keeps s.heap aY.heap/\∀x∈r.toRowW.claim.records,∀a,classAt s.heap x.1=some a->recordClass aY.heap a x.1 (x.2.map (·.1))=true):=λres aY g=>
  have z:=g.laid (c:=r.toRowW.claim) RM RW hi aU
  ⟨z.1,z.2.1,z.2.2,λq=>⟨namesKept_of hT aT _ keeps g.2.1.old,noTable RY q⟩⟩
 refine MS ⟨vs,bh,od,a5 (.of (wpAny_nsGet xC.T.g ?_))⟩
 rw[show s.heap.nsMap mainGlobals r.name=some (.ref a) from a8]
 refine a5 (cy h (λv aY g=>?_) λe aY g=>cA _ _ g)
 exact cq ⟨_,rfl,cA _ _ g⟩
end DB
@[reducible] def pick{α:Type}{x y:α}(_:x=y):α:=y
noncomputable def b1(i:Nat):Option Stmt:=(Challenge.pw_nz0352_01.main.body.drop i).head?
noncomputable def jf(i ai:Nat):Option Stmt:=match b1 i with
 |some (.ClassDef _ _ _ b ..)=>(b.drop ai).head?
 |_=>none
noncomputable def eu:Option Stmt->List Stmt
 |some (.FunctionDef _ _ b ..)=>b
 |_=>[]
noncomputable def et:Option Stmt->Arguments
 |some (.FunctionDef _ a ..)=>a
 |_=>⟨[],[],none,[],[],none,[]⟩
noncomputable def ew:Option Stmt->Scope
 |some (.FunctionDef _ _ _ _ _ _ c ..)=>c
 |_=>default
noncomputable def b3(P:Params)(x:PySem.Str)(t:Tok)(v:Value):DictEntry:=⟨PyData.keyHash P x,.str x t,v⟩
noncomputable abbrev er(n q:PySem.Str)(a:Arguments)(b:List Stmt)(c:Scope)(m:PySem.Str)(t:Tok)(k:Addr):FuncData:=
 {name:=n,qualname:=q,params:=a,body:=.stmts b,scope:=c,globals:=3,closure:=[],defaults:=.none,kwdefaults:=.none,pyModule:=.str m t,code:=.ref k}
noncomputable abbrev ey(f:FuncData):Obj:={cls:=.type "function",data:=.func f}
noncomputable abbrev oD(l:List Value):Obj:={cls:=.type "tuple",data:=.seq l.toArray}
noncomputable def eo(n q:PySem.Str)(t:Tok)(line args PC:Int)(a:Addr)(x:Int)(b:Addr)(eb gx:Value)(c:Addr)(u:Int)(eG:Tok):Obj:=
 {cls:=.type "code",data:=.fields #[.str n t,.str q (t+1),.str "/claim/cut.py" (t+2),.int line 0,.int args 0,.int 0 0,.int 0 0,.int PC 0,.ref a,.bool true,.int x 0,.ref b,.none,eb,gx,.ref c,.int u 0,.int line 0,.str "/claim/cut.py" eG]}
noncomputable abbrev yx:List Stmt:=pick (x:=eu (b1 5)) (by conv=>lhs;whnf)
noncomputable abbrev L4:Arguments:=pick (x:=et (b1 5)) (by conv=>lhs;whnf)
noncomputable abbrev Y8:Scope:=pick (x:=ew (b1 5)) (by conv=>lhs;whnf)
noncomputable abbrev zx:FuncData:=er "way_of" "way_of" L4 yx Y8 "quic.resend" 187 24
noncomputable abbrev FI:Obj:=ey zx
noncomputable abbrev yF:List Stmt:=pick (x:=eu (b1 6)) (by conv=>lhs;whnf)
noncomputable abbrev Md:Arguments:=pick (x:=et (b1 6)) (by conv=>lhs;whnf)
noncomputable abbrev Zh:Scope:=pick (x:=ew (b1 6)) (by conv=>lhs;whnf)
noncomputable abbrev zF:FuncData:=er "subject_of" "subject_of" Md yF Zh "quic.resend" 187 31
noncomputable abbrev FR:Obj:=ey zF
noncomputable abbrev yG:List Stmt:=pick (x:=eu (b1 7)) (by conv=>lhs;whnf)
noncomputable abbrev Me:Arguments:=pick (x:=et (b1 7)) (by conv=>lhs;whnf)
noncomputable abbrev Zi:Scope:=pick (x:=ew (b1 7)) (by conv=>lhs;whnf)
noncomputable abbrev zG:FuncData:=er "newest" "newest" Me yG Zi "quic.resend" 187 36
noncomputable abbrev FT:Obj:=ey zG
noncomputable abbrev yH:List Stmt:=pick (x:=eu (b1 8)) (by conv=>lhs;whnf)
noncomputable abbrev Mf:Arguments:=pick (x:=et (b1 8)) (by conv=>lhs;whnf)
noncomputable abbrev Zj:Scope:=pick (x:=ew (b1 8)) (by conv=>lhs;whnf)
noncomputable abbrev zH:FuncData:=er "told_again" "told_again" Mf yH Zj "quic.resend" 187 43
noncomputable abbrev FU:Obj:=ey zH
noncomputable abbrev yI:List Stmt:=pick (x:=eu (b1 9)) (by conv=>lhs;whnf)
noncomputable abbrev Mg:Arguments:=pick (x:=et (b1 9)) (by conv=>lhs;whnf)
noncomputable abbrev Zk:Scope:=pick (x:=ew (b1 9)) (by conv=>lhs;whnf)
noncomputable abbrev zI:FuncData:=er "held_data" "held_data" Mg yI Zk "quic.resend" 187 48
noncomputable abbrev FV:Obj:=ey zI
noncomputable abbrev yJ:List Stmt:=pick (x:=eu (b1 41)) (by conv=>lhs;whnf)
noncomputable abbrev Mh:Arguments:=pick (x:=et (b1 41)) (by conv=>lhs;whnf)
noncomputable abbrev Zl:Scope:=pick (x:=ew (b1 41)) (by conv=>lhs;whnf)
noncomputable abbrev zJ:FuncData:=er "put_whole" "put_whole" Mh yJ Zl "quic.varint" 337 76
noncomputable abbrev FW:Obj:=ey zJ
noncomputable abbrev yK:List Stmt:=pick (x:=eu (b1 42)) (by conv=>lhs;whnf)
noncomputable abbrev Mi:Arguments:=pick (x:=et (b1 42)) (by conv=>lhs;whnf)
noncomputable abbrev Zm:Scope:=pick (x:=ew (b1 42)) (by conv=>lhs;whnf)
noncomputable abbrev zK:FuncData:=er "varint_size" "varint_size" Mi yK Zm "quic.varint" 337 83
noncomputable abbrev FX:Obj:=ey zK
noncomputable abbrev yL:List Stmt:=pick (x:=eu (b1 43)) (by conv=>lhs;whnf)
noncomputable abbrev Mj:Arguments:=pick (x:=et (b1 43)) (by conv=>lhs;whnf)
noncomputable abbrev Zn:Scope:=pick (x:=ew (b1 43)) (by conv=>lhs;whnf)
noncomputable abbrev zL:FuncData:=er "put_varint" "put_varint" Mj yL Zn "quic.varint" 337 90
noncomputable abbrev FY:Obj:=ey zL
noncomputable abbrev yM:List Stmt:=pick (x:=eu (b1 46)) (by conv=>lhs;whnf)
noncomputable abbrev Mk:Arguments:=pick (x:=et (b1 46)) (by conv=>lhs;whnf)
noncomputable abbrev Zo:Scope:=pick (x:=ew (b1 46)) (by conv=>lhs;whnf)
noncomputable abbrev zM:FuncData:=er "put_numbers" "put_numbers" Mk yM Zo "quic.framesout" 371 96
noncomputable abbrev FZ:Obj:=ey zM
noncomputable abbrev yg:List Stmt:=pick (x:=eu (b1 47)) (by conv=>lhs;whnf)
noncomputable abbrev LL:Arguments:=pick (x:=et (b1 47)) (by conv=>lhs;whnf)
noncomputable abbrev YQ:Scope:=pick (x:=ew (b1 47)) (by conv=>lhs;whnf)
noncomputable abbrev ze:FuncData:=er "put_counted" "put_counted" LL yg YQ "quic.framesout" 371 103
noncomputable abbrev Fo:Obj:=ey ze
noncomputable abbrev yh:List Stmt:=pick (x:=eu (b1 50)) (by conv=>lhs;whnf)
noncomputable abbrev LM:Arguments:=pick (x:=et (b1 50)) (by conv=>lhs;whnf)
noncomputable abbrev YR:Scope:=pick (x:=ew (b1 50)) (by conv=>lhs;whnf)
noncomputable abbrev zf:FuncData:=er "put_stream" "put_stream" LM yh YR "quic.framesout" 371 124
noncomputable abbrev Fp:Obj:=ey zf
noncomputable abbrev yi:List Stmt:=pick (x:=eu (b1 51)) (by conv=>lhs;whnf)
noncomputable abbrev LN:Arguments:=pick (x:=et (b1 51)) (by conv=>lhs;whnf)
noncomputable abbrev YS:Scope:=pick (x:=ew (b1 51)) (by conv=>lhs;whnf)
noncomputable abbrev zg:FuncData:=er "put_new_cid" "put_new_cid" LN yi YS "quic.framesout" 371 131
noncomputable abbrev Fq:Obj:=ey zg
noncomputable abbrev yj:List Stmt:=pick (x:=eu (b1 53)) (by conv=>lhs;whnf)
noncomputable abbrev LO:Arguments:=pick (x:=et (b1 53)) (by conv=>lhs;whnf)
noncomputable abbrev YT:Scope:=pick (x:=ew (b1 53)) (by conv=>lhs;whnf)
noncomputable abbrev zh:FuncData:=er "put_octets_frame" "put_octets_frame" LO yj YT "quic.framesout" 371 145
noncomputable abbrev Fs:Obj:=ey zh
noncomputable abbrev yk:List Stmt:=pick (x:=eu (b1 54)) (by conv=>lhs;whnf)
noncomputable abbrev LP:Arguments:=pick (x:=et (b1 54)) (by conv=>lhs;whnf)
noncomputable abbrev YU:Scope:=pick (x:=ew (b1 54)) (by conv=>lhs;whnf)
noncomputable abbrev zi:FuncData:=er "put_frame" "put_frame" LP yk YU "quic.framesout" 371 152
noncomputable abbrev Ft:Obj:=ey zi
noncomputable abbrev yl:List Stmt:=pick (x:=eu (b1 55)) (by conv=>lhs;whnf)
noncomputable abbrev LQ:Arguments:=pick (x:=et (b1 55)) (by conv=>lhs;whnf)
noncomputable abbrev YV:Scope:=pick (x:=ew (b1 55)) (by conv=>lhs;whnf)
noncomputable abbrev zj:FuncData:=er "frame_size" "frame_size" LQ yl YV "quic.framesout" 371 159
noncomputable abbrev Fu:Obj:=ey zj
noncomputable abbrev ym:List Stmt:=pick (x:=eu (b1 58)) (by conv=>lhs;whnf)
noncomputable abbrev LR:Arguments:=pick (x:=et (b1 58)) (by conv=>lhs;whnf)
noncomputable abbrev YW:Scope:=pick (x:=ew (b1 58)) (by conv=>lhs;whnf)
noncomputable abbrev zk:FuncData:=er "data_of" "data_of" LR ym YW "quic.packing" 494 167
noncomputable abbrev Fv:Obj:=ey zk
noncomputable abbrev yn:List Stmt:=pick (x:=eu (b1 59)) (by conv=>lhs;whnf)
noncomputable abbrev LS:Arguments:=pick (x:=et (b1 59)) (by conv=>lhs;whnf)
noncomputable abbrev YX:Scope:=pick (x:=ew (b1 59)) (by conv=>lhs;whnf)
noncomputable abbrev zl:FuncData:=er "with_data" "with_data" LS yn YX "quic.packing" 494 174
noncomputable abbrev Fw:Obj:=ey zl
noncomputable abbrev yo:List Stmt:=pick (x:=eu (b1 60)) (by conv=>lhs;whnf)
noncomputable abbrev LU:Arguments:=pick (x:=et (b1 60)) (by conv=>lhs;whnf)
noncomputable abbrev YY:Scope:=pick (x:=ew (b1 60)) (by conv=>lhs;whnf)
noncomputable abbrev zm:FuncData:=er "data_room" "data_room" LU yo YY "quic.packing" 494 181
noncomputable abbrev Fx:Obj:=ey zm
noncomputable abbrev yp:List Stmt:=pick (x:=eu (b1 61)) (by conv=>lhs;whnf)
noncomputable abbrev LV:Arguments:=pick (x:=et (b1 61)) (by conv=>lhs;whnf)
noncomputable abbrev YZ:Scope:=pick (x:=ew (b1 61)) (by conv=>lhs;whnf)
noncomputable abbrev zo:FuncData:=er "cut_frame" "cut_frame" LV yp YZ "quic.packing" 494 188
noncomputable abbrev Fy:Obj:=ey zo
noncomputable abbrev yq:List Stmt:=pick (x:=eu (b1 62)) (by conv=>lhs;whnf)
noncomputable abbrev LW:Arguments:=pick (x:=et (b1 62)) (by conv=>lhs;whnf)
noncomputable abbrev Y0:Scope:=pick (x:=ew (b1 62)) (by conv=>lhs;whnf)
noncomputable abbrev zp:FuncData:=er "filled" "filled" LW yq Y0 "quic.packing" 494 195
noncomputable abbrev Fz:Obj:=ey zp
noncomputable abbrev yr:List Stmt:=pick (x:=eu (b1 63)) (by conv=>lhs;whnf)
noncomputable abbrev LX:Arguments:=pick (x:=et (b1 63)) (by conv=>lhs;whnf)
noncomputable abbrev Y1:Scope:=pick (x:=ew (b1 63)) (by conv=>lhs;whnf)
noncomputable abbrev zq:FuncData:=er "in_rooms" "in_rooms" LX yr Y1 "quic.packing" 494 202
noncomputable abbrev FA:Obj:=ey zq
noncomputable abbrev ys:List Stmt:=pick (x:=eu (b1 66)) (by conv=>lhs;whnf)
noncomputable abbrev LY:Arguments:=pick (x:=et (b1 66)) (by conv=>lhs;whnf)
noncomputable abbrev Y2:Scope:=pick (x:=ew (b1 66)) (by conv=>lhs;whnf)
noncomputable abbrev zr:FuncData:=er "kind_place" "kind_place" LY ys Y2 "quic.timers" 562 210
noncomputable abbrev FC:Obj:=ey zr
noncomputable abbrev yt:List Stmt:=pick (x:=eu (b1 67)) (by conv=>lhs;whnf)
noncomputable abbrev LZ:Arguments:=pick (x:=et (b1 67)) (by conv=>lhs;whnf)
noncomputable abbrev Y3:Scope:=pick (x:=ew (b1 67)) (by conv=>lhs;whnf)
noncomputable abbrev zt:FuncData:=er "next_due" "next_due" LZ yt Y3 "quic.timers" 562 217
noncomputable abbrev FD:Obj:=ey zt
noncomputable abbrev yu:List Stmt:=pick (x:=eu (b1 68)) (by conv=>lhs;whnf)
noncomputable abbrev L0:Arguments:=pick (x:=et (b1 68)) (by conv=>lhs;whnf)
noncomputable abbrev Y4:Scope:=pick (x:=ew (b1 68)) (by conv=>lhs;whnf)
noncomputable abbrev zu:FuncData:=er "all_due" "all_due" L0 yu Y4 "quic.timers" 562 222
noncomputable abbrev FE:Obj:=ey zu
noncomputable abbrev yv:List Stmt:=pick (x:=eu (b1 69)) (by conv=>lhs;whnf)
noncomputable abbrev L1:Arguments:=pick (x:=et (b1 69)) (by conv=>lhs;whnf)
noncomputable abbrev Y5:Scope:=pick (x:=ew (b1 69)) (by conv=>lhs;whnf)
noncomputable abbrev zv:FuncData:=er "with_alarm" "with_alarm" L1 yv Y5 "quic.timers" 562 227
noncomputable abbrev FF:Obj:=ey zv
noncomputable abbrev yw:List Stmt:=pick (x:=eu (jf 70 1)) (by conv=>lhs;whnf)
noncomputable abbrev L3:Arguments:=pick (x:=et (jf 70 1)) (by conv=>lhs;whnf)
noncomputable abbrev Y7:Scope:=pick (x:=ew (jf 70 1)) (by conv=>lhs;whnf)
noncomputable abbrev zw:FuncData:=er "put" "Alarms.put" L3 yw Y7 "quic.timers" 562 248
noncomputable abbrev FH:Obj:=ey zw
noncomputable abbrev yy:List Stmt:=pick (x:=eu (jf 70 2)) (by conv=>lhs;whnf)
noncomputable abbrev L5:Arguments:=pick (x:=et (jf 70 2)) (by conv=>lhs;whnf)
noncomputable abbrev Y9:Scope:=pick (x:=ew (jf 70 2)) (by conv=>lhs;whnf)
noncomputable abbrev zy:FuncData:=er "time_of" "Alarms.time_of" L5 yy Y9 "quic.timers" 562 255
noncomputable abbrev FJ:Obj:=ey zy
noncomputable abbrev yz:List Stmt:=pick (x:=eu (jf 70 3)) (by conv=>lhs;whnf)
noncomputable abbrev L6:Arguments:=pick (x:=et (jf 70 3)) (by conv=>lhs;whnf)
noncomputable abbrev Y':Scope:=pick (x:=ew (jf 70 3)) (by conv=>lhs;whnf)
noncomputable abbrev zz:FuncData:=er "first" "Alarms.first" L6 yz Y' "quic.timers" 562 262
noncomputable abbrev FK:Obj:=ey zz
noncomputable abbrev yA:List Stmt:=pick (x:=eu (jf 70 4)) (by conv=>lhs;whnf)
noncomputable abbrev L7:Arguments:=pick (x:=et (jf 70 4)) (by conv=>lhs;whnf)
noncomputable abbrev Za:Scope:=pick (x:=ew (jf 70 4)) (by conv=>lhs;whnf)
noncomputable abbrev zA:FuncData:=er "take_due" "Alarms.take_due" L7 yA Za "quic.timers" 562 269
noncomputable abbrev FL:Obj:=ey zA
noncomputable abbrev yB:List Stmt:=pick (x:=eu (b1 72)) (by conv=>lhs;whnf)
noncomputable abbrev L8:Arguments:=pick (x:=et (b1 72)) (by conv=>lhs;whnf)
noncomputable abbrev Zb:Scope:=pick (x:=ew (b1 72)) (by conv=>lhs;whnf)
noncomputable abbrev zB:FuncData:=er "_law_draw" "_law_draw" L8 yB Zb "law_nz0352_01" 663 283
noncomputable abbrev FN:Obj:=ey zB
noncomputable abbrev va:List Stmt:=pick (x:=eu (b1 73)) (by conv=>lhs;whnf)
noncomputable abbrev L9:Arguments:=pick (x:=et (b1 73)) (by conv=>lhs;whnf)
noncomputable abbrev Zc:Scope:=pick (x:=ew (b1 73)) (by conv=>lhs;whnf)
noncomputable abbrev vw:FuncData:=er "_law_frames" "_law_frames" L9 va Zc "law_nz0352_01" 663 288
noncomputable abbrev zO:Obj:=ey vw
noncomputable abbrev yC:List Stmt:=pick (x:=eu (b1 74)) (by conv=>lhs;whnf)
noncomputable abbrev L':Arguments:=pick (x:=et (b1 74)) (by conv=>lhs;whnf)
noncomputable abbrev Zd:Scope:=pick (x:=ew (b1 74)) (by conv=>lhs;whnf)
noncomputable abbrev zC:FuncData:=er "_law_comes" "_law_comes" L' yC Zd "law_nz0352_01" 663 295
noncomputable abbrev FO:Obj:=ey zC
noncomputable abbrev yD:List Stmt:=pick (x:=eu (b1 75)) (by conv=>lhs;whnf)
noncomputable abbrev Ma:Arguments:=pick (x:=et (b1 75)) (by conv=>lhs;whnf)
noncomputable abbrev Ze:Scope:=pick (x:=ew (b1 75)) (by conv=>lhs;whnf)
noncomputable abbrev zD:FuncData:=er "_law_places" "_law_places" Ma yD Ze "law_nz0352_01" 663 302
noncomputable abbrev FP:Obj:=ey zD
noncomputable abbrev yE:List Stmt:=pick (x:=eu (b1 76)) (by conv=>lhs;whnf)
noncomputable abbrev Mb:Arguments:=pick (x:=et (b1 76)) (by conv=>lhs;whnf)
noncomputable abbrev Zf:Scope:=pick (x:=ew (b1 76)) (by conv=>lhs;whnf)
noncomputable abbrev zE:FuncData:=er "_law_goes" "_law_goes" Mb yE Zf "law_nz0352_01" 663 307
noncomputable abbrev FQ:Obj:=ey zE
noncomputable abbrev vb:List Stmt:=pick (x:=eu (b1 77)) (by conv=>lhs;whnf)
noncomputable abbrev Mc:Arguments:=pick (x:=et (b1 77)) (by conv=>lhs;whnf)
noncomputable abbrev Zg:Scope:=pick (x:=ew (b1 77)) (by conv=>lhs;whnf)
noncomputable abbrev vx:FuncData:=er "law" "law" Mc vb Zg "law_nz0352_01" 663 312
noncomputable abbrev zP:Obj:=ey vx
noncomputable abbrev MW:List Stmt:=pick (x:=eu (jf 70 0)) (by conv=>lhs;whnf)
noncomputable abbrev L2:Arguments:=pick (x:=et (jf 70 0)) (by conv=>lhs;whnf)
noncomputable abbrev Y6:Scope:=pick (x:=ew (jf 70 0)) (by conv=>lhs;whnf)
noncomputable abbrev Fi:FuncData:=er "__init__" "Alarms.__init__" L2 MW Y6 "quic.timers" 562 241
noncomputable abbrev FG:Obj:=ey Fi
noncomputable abbrev Iw:Obj:=oD [.str "new_connection_id" 189,.str "retire_connection_id" 190,.str "new_token" 191,.str "handshake_done" 192,.str "stop_sending" 193,.str "reset_stream" 194]
noncomputable abbrev Iy:Obj:=oD [.str "crypto" 196,.str "stream" 197]
noncomputable abbrev IA:Obj:=oD [.str "max_data" 199,.str "max_stream_data" 200,.str "max_streams" 201]
noncomputable abbrev IB:Obj:=oD [.str "data_blocked" 203,.str "stream_data_blocked" 204,.str "streams_blocked" 205]
noncomputable abbrev ID:Obj:=oD [.int 1 339,.int 2 340,.int 4 341,.int 8 342]
noncomputable abbrev Iz:Obj:=oD [.str "crypto" 496,.str "stream" 497]
noncomputable abbrev IC:Obj:=oD [.str "closed" 564,.str "idle" 565,.str "loss" 566,.str "probe" 567,.str "ack" 568,.str "path" 569]
noncomputable abbrev T8:Obj:=oD [.str "times" 654]
noncomputable def Bk:List (PySem.Str×Tok×Int×Tok):=[("ping",373,1,285),("reset_stream",374,4,291),("stop_sending",375,5,293),("max_data",376,16,301),("max_stream_data",377,17,303),("data_blocked",378,20,309),("stream_data_blocked",379,21,311),("retire_connection_id",380,25,319),("handshake_done",381,30,329)]
noncomputable def TH(P:Params):List DictEntry:=Bk.map λe=>⟨PyData.keyHash P e.1,.str e.1 e.2.1,.int e.2.2.1 e.2.2.2⟩
noncomputable abbrev Ic(P:Params):Obj:={cls:=.type "dict",data:=.dict (TH P).toArray 9}
noncomputable def Tj(P:Params):Obj:=⟨.type "dict",none,.dict #[b3 P "__name__" 165 (.str "law_nz0352_01" 663),b3 P "__doc__" 166 (.none),b3 P "__package__" 167 (.none),b3 P "__loader__" 168 (.builtin "__main__.__loader__#opaque"),b3 P "__spec__" 169 (.none),b3 P "__annotations__" 170 (.ref 6),b3 P "__builtins__" 171 (.ref 4),b3 P "__file__" 173 (.str "/claim/cut.py" 172),b3 P "__cached__" 174 (.none),b3 P "ANEW" 195 (.ref 15),b3 P "BY_HOLDER" 198 (.ref 16),b3 P "LATEST" 202 (.ref 17),b3 P "WHILE_BLOCKED" 206 (.ref 18),b3 P "way_of" 213 (.ref 25),b3 P "subject_of" 221 (.ref 32),b3 P "newest" 227 (.ref 37),b3 P "told_again" 241 (.ref 44),b3 P "held_data" 247 (.ref 49),b3 P "INTERNAL_ERROR" 251 (.int 1 250),b3 P "QuicError" 284 (.ref 66),b3 P "PING" 286 (.int 1 285),b3 P "ACK" 288 (.int 2 287),b3 P "ACK_ECN" 290 (.int 3 289),b3 P "RESET_STREAM" 292 (.int 4 291),b3 P "STOP_SENDING" 294 (.int 5 293),b3 P "CRYPTO" 296 (.int 6 295),b3 P "NEW_TOKEN" 298 (.int 7 297),b3 P "STREAM" 300 (.int 8 299),b3 P "MAX_DATA" 302 (.int 16 301),b3 P "MAX_STREAM_DATA" 304 (.int 17 303),b3 P "MAX_STREAMS_BIDI" 306 (.int 18 305),b3 P "MAX_STREAMS_UNI" 308 (.int 19 307),b3 P "DATA_BLOCKED" 310 (.int 20 309),b3 P "STREAM_DATA_BLOCKED" 312 (.int 21 311),b3 P "STREAMS_BLOCKED_BIDI" 314 (.int 22 313),b3 P "STREAMS_BLOCKED_UNI" 316 (.int 23 315),b3 P "NEW_CONNECTION_ID" 318 (.int 24 317),b3 P "RETIRE_CONNECTION_ID" 320 (.int 25 319),b3 P "PATH_CHALLENGE" 322 (.int 26 321),b3 P "PATH_RESPONSE" 324 (.int 27 323),b3 P "CLOSE" 326 (.int 28 325),b3 P "CLOSE_APPLICATION" 328 (.int 29 327),b3 P "HANDSHAKE_DONE" 330 (.int 30 329),b3 P "BIT_FIN" 332 (.int 1 331),b3 P "BIT_LENGTH" 334 (.int 2 333),b3 P "BIT_OFFSET" 336 (.int 4 335),b3 P "VARINT_SIZES" 343 (.ref 70),b3 P "put_whole" 353 (.ref 77),b3 P "varint_size" 361 (.ref 84),b3 P "put_varint" 370 (.ref 91),b3 P "NUMBER_FRAMES" 391 (.ref 92),b3 P "put_numbers" 397 (.ref 97),b3 P "put_counted" 404 (.ref 104),b3 P "ack_numbers" 417 (.ref 111),b3 P "put_ack" 431 (.ref 118),b3 P "put_stream" 446 (.ref 125),b3 P "put_new_cid" 458 (.ref 132),b3 P "put_close" 469 (.ref 139),b3 P "put_octets_frame" 477 (.ref 146),b3 P "put_frame" 486 (.ref 153),b3 P "frame_size" 493 (.ref 160),b3 P "DATA_KINDS" 498 (.ref 161),b3 P "data_of" 505 (.ref 168),b3 P "with_data" 515 (.ref 175),b3 P "data_room" 525 (.ref 182),b3 P "cut_frame" 536 (.ref 189),b3 P "filled" 549 (.ref 196),b3 P "in_rooms" 561 (.ref 203),b3 P "KINDS" 570 (.ref 204),b3 P "kind_place" 577 (.ref 211),b3 P "next_due" 587 (.ref 218),b3 P "all_due" 593 (.ref 223),b3 P "with_alarm" 599 (.ref 228),b3 P "Alarms" 662 (.ref 273),b3 P "_law_draw" 674 (.ref 284),b3 P "_law_frames" 680 (.ref 289),b3 P "_law_comes" 694 (.ref 296),b3 P "_law_places" 709 (.ref 303),b3 P "_law_goes" 715 (.ref 308),b3 P "law" 721 (.ref 313)] 80, #[]⟩
noncomputable def LG(P:Params):Obj:=⟨.type "dict",none,.dict #[b3 P "__module__" 607 (.str "quic.timers" 562),b3 P "__firstlineno__" 611 (.int 234 610),b3 P "__init__" 618 (.ref 242),b3 P "put" 627 (.ref 249),b3 P "time_of" 635 (.ref 256),b3 P "first" 643 (.ref 263),b3 P "take_due" 653 (.ref 270),b3 P "__static_attributes__" 655 (.ref 271),b3 P "__dict__" 657 (.ref 274),b3 P "__weakref__" 659 (.ref 275),b3 P "__doc__" 660 (.none)] 4, #[]⟩
noncomputable def LH:Obj:={cls:=.type "type",data:=.cls {name:="Alarms",bases:=[.type "object"],mro:=[.ref 273,.type "object"],ns:=272,qualname:="Alarms"},slots:= #[none,none,some (.str "Alarms" 600),some (.str "Alarms" 608),some (.builtin "object.__new__"),some (.bool true)]}
noncomputable def KK(P:Params):PySem.W.Frag:=[(3,Tj P),(15,Iw),(16,Iy),(17,IA),(18,IB),(24,eo "way_of" "way_of" 207 6 1 3 19 181 20 (.ref 21) (.ref 22) 23 211 212),(25,FI),(31,eo "subject_of" "subject_of" 214 14 1 3 26 181 27 (.ref 28) (.ref 29) 30 219 220),(32,FR),(36,eo "newest" "newest" 222 25 1 3 33 181 34 (.none) (.none) 35 225 226),(37,FT),(43,eo "told_again" "told_again" 228 30 4 3 38 181 39 (.ref 40) (.ref 41) 42 239 240),(44,FU),(48,eo "held_data" "held_data" 242 43 1 3 45 181 46 (.none) (.none) 47 245 246),(49,FV),(70,ID),(76,eo "put_whole" "put_whole" 344 82 2 3 71 181 72 (.ref 73) (.ref 74) 75 351 352),(77,FW),(83,eo "varint_size" "varint_size" 354 90 1 3 78 181 79 (.ref 80) (.ref 81) 82 359 360),(84,FX),(90,eo "put_varint" "put_varint" 362 95 2 3 85 181 86 (.ref 87) (.ref 88) 89 368 369),(91,FY),(92,Ic P),(96,eo "put_numbers" "put_numbers" 392 104 1 3 93 181 94 (.none) (.none) 95 395 396),(97,FZ),(103,eo "put_counted" "put_counted" 398 106 1 3 98 181 99 (.ref 100) (.ref 101) 102 402 403),(104,Fo),(124,eo "put_stream" "put_stream" 432 120 2 3 119 181 120 (.ref 121) (.ref 122) 123 444 445),(125,Fp),(131,eo "put_new_cid" "put_new_cid" 447 125 1 3 126 181 127 (.ref 128) (.ref 129) 130 456 457),(132,Fq),(145,eo "put_octets_frame" "put_octets_frame" 470 133 1 3 140 181 141 (.ref 142) (.ref 143) 144 475 476),(146,Fs),(152,eo "put_frame" "put_frame" 478 146 1 3 147 181 148 (.ref 149) (.ref 150) 151 484 485),(153,Ft),(159,eo "frame_size" "frame_size" 487 164 1 3 154 181 155 (.ref 156) (.ref 157) 158 491 492),(160,Fu),(161,Iz),(167,eo "data_of" "data_of" 499 168 1 3 162 181 163 (.ref 164) (.ref 165) 166 503 504),(168,Fv),(174,eo "with_data" "with_data" 506 170 4 3 169 181 170 (.ref 171) (.ref 172) 173 513 514),(175,Fw),(181,eo "data_room" "data_room" 516 174 2 3 176 181 177 (.ref 178) (.ref 179) 180 523 524),(182,Fx),(188,eo "cut_frame" "cut_frame" 526 182 2 3 183 181 184 (.ref 185) (.ref 186) 187 534 535),(189,Fy),(195,eo "filled" "filled" 537 192 2 3 190 181 191 (.ref 192) (.ref 193) 194 547 548),(196,Fz),(202,eo "in_rooms" "in_rooms" 550 202 2 3 197 181 198 (.ref 199) (.ref 200) 201 559 560),(203,FA),(204,IC),(210,eo "kind_place" "kind_place" 571 213 1 3 205 181 206 (.ref 207) (.ref 208) 209 575 576),(211,FC),(217,eo "next_due" "next_due" 578 215 1 3 212 181 213 (.ref 214) (.ref 215) 216 585 586),(218,FD),(222,eo "all_due" "all_due" 588 222 2 3 219 181 220 (.none) (.none) 221 591 592),(223,FE),(227,eo "with_alarm" "with_alarm" 594 229 3 3 224 181 225 (.none) (.none) 226 597 598),(228,FF),(241,eo "__init__" "Alarms.__init__" 612 236 1 3 236 181 237 (.ref 238) (.ref 239) 240 616 617),(242,FG),(248,eo "put" "Alarms.put" 619 239 3 3 243 181 244 (.ref 245) (.ref 246) 247 625 626),(249,FH),(255,eo "time_of" "Alarms.time_of" 628 242 2 3 250 181 251 (.ref 252) (.ref 253) 254 633 634),(256,FJ),(262,eo "first" "Alarms.first" 636 245 1 3 257 181 258 (.ref 259) (.ref 260) 261 641 642),(263,FK),(269,eo "take_due" "Alarms.take_due" 644 249 2 3 264 181 265 (.ref 266) (.ref 267) 268 651 652),(270,FL),(271,T8),(272,LG P),(273,LH),(283,eo "_law_draw" "_law_draw" 665 255 2 3 278 181 279 (.ref 280) (.ref 281) 282 672 673),(284,FN),(288,eo "_law_frames" "_law_frames" 675 261 1 3 285 181 286 (.none) (.none) 287 678 679),(289,zO),(295,eo "_law_comes" "_law_comes" 681 270 2 3 290 181 291 (.ref 292) (.ref 293) 294 692 693),(296,FO),(302,eo "_law_places" "_law_places" 695 280 2 3 297 181 298 (.ref 299) (.ref 300) 301 707 708),(303,FP),(307,eo "_law_goes" "_law_goes" 710 290 5 3 304 181 305 (.none) (.none) 306 713 714),(308,FQ),(312,eo "law" "law" 716 305 1 3 309 181 310 (.none) (.none) 311 719 720),(313,zP)]
noncomputable def Sy:List Addr:=[3,15,16,17,18,24,25,31,32,36,37,43,44,48,49,70,76,77,83,84,90,91,92,96,97,103,104,124,125,131,132,145,146,152,153,159,160,161,167,168,174,175,181,182,188,189,195,196,202,203,204,210,211,217,218,222,223,227,228,241,242,248,249,255,256,262,263,269,270,271,272,273,283,284,288,289,295,296,302,303,307,308,312,313]
noncomputable def ri:List PySem.Str:=List.map PySem.Str.ofString ["ANEW","BY_HOLDER","LATEST","WHILE_BLOCKED","way_of","subject_of","newest","told_again","held_data","INTERNAL_ERROR","QuicError","PING","ACK","ACK_ECN","RESET_STREAM","STOP_SENDING","CRYPTO","NEW_TOKEN","STREAM","MAX_DATA","MAX_STREAM_DATA","MAX_STREAMS_BIDI","MAX_STREAMS_UNI","DATA_BLOCKED","STREAM_DATA_BLOCKED","STREAMS_BLOCKED_BIDI","STREAMS_BLOCKED_UNI","NEW_CONNECTION_ID","RETIRE_CONNECTION_ID","PATH_CHALLENGE","PATH_RESPONSE","CLOSE","CLOSE_APPLICATION","HANDSHAKE_DONE","BIT_FIN","BIT_LENGTH","BIT_OFFSET","VARINT_SIZES","put_whole","varint_size","put_varint","NUMBER_FRAMES","put_numbers","put_counted","ack_numbers","put_ack","put_stream","put_new_cid","put_close","put_octets_frame","put_frame","frame_size","DATA_KINDS","data_of","with_data","data_room","cut_frame","filled","in_rooms","KINDS","kind_place","next_due","all_due","with_alarm","Alarms","_law_draw","_law_frames","_law_comes","_law_places","_law_goes"]
noncomputable abbrev BJ:Program:=Challenge.pw_nz0352_01
noncomputable def jG:Program:={BJ with main:={BJ.main with body:=BJ.main.body.drop 77}}
noncomputable abbrev hk:Hook:=kHook KK Sy (λ_=>by kernel_rfl)
noncomputable def nX:DefRec:=((defOf jG "law").get (by kernel_rfl)).1
noncomputable abbrev ig:OpenRow:=Challenge.rw_nz0352_01.row
theorem YO:Challenge.rw_nz0352_01.wellSaid=true:=by kernel_rfl
noncomputable def JJ(s:Shared):=(openSeen jG ri (importedModules ig.prog.main.body) (λs=>xlAt jG [] s&&recOk (RowW.records ig.toRowW) s) true s,Hook.obs hk s)
theorem aaw(w:World):((fencedOpening treeTable ig.prog w 4508).bind (topFrom treeTable ig.prog (w.withFollow "special-get-raises" true) 4508)).map JJ=some (openGood jG ri,Hook.val hk (w.withFollow "special-get-raises" true)):=by kernel_rfl
theorem aav(w:World):((fencedOpening treeTable ig.prog w 4508).bind (topFrom treeTable ig.prog (w.withFollow "special-get-raises" false) 4508)).map JJ=some (openGood jG ri,Hook.val hk (w.withFollow "special-get-raises" false)):=by kernel_rfl
theorem M6{α bR lR:Type}{o:Option α}{f g:α->Option bR}{k:bR->lR}{a b:lR}(h1:(o.bind f).map k=some a)(h2:(o.bind g).map k=some b):o.map (λs=>((f s).map k,(g s).map k))=some (some a,some b):=by
 cases o with
 |none=>cases h1
 |some s=>rw[Option.map_some,show(f s).map k=some a from h1,show(g s).map k=some b from h2]
theorem SP:LeftO ig.prog jG ri (λs=>xlAt jG [] s&&recOk (RowW.records ig.toRowW) s) (Hook.obs hk) (Hook.val hk) 4508:=
 LeftO.of_split "special-get-raises" (λw=>M6 (aav w) (aaw w))
theorem N0:defOf jG ig.name=some (nX,[]):=by kernel_rfl
theorem N1:ig.prog.theDef ig.name=some (nX.params,nX.body,nX.scope):=by kernel_rfl
theorem N2:kwWritten? nX.params.kwonlyargs nX.params.kw_defaults=some []:=by kernel_rfl
theorem Uc:(chainsOk jG&&opensWell ig.prog&&(frees ig.toRowW&&ig.within.isEmpty))=true:=by decide+kernel
theorem aaz:ig.toRowW.promised:=⟨[.list []],by decide+kernel,by decide+kernel⟩
theorem MU:ig.prog.bare:=⟨rfl,rfl,rfl,rfl,rfl,by decide+kernel⟩
theorem head(walk:DI jG ri (XL jG []) (Hook.says hk) ig.toRowW nX []):Challenge.rw_nz0352_01.Holds:=
 holds_law YO λsaid=>DB.PySem.W.holds_open (q:=jG) (loose:=ri) (Xt:=λs=>xlAt jG [] s&&recOk (RowW.records ig.toRowW) s) (XP:=XL jG []) (Yf:=Hook.obs hk) (Ya:=Hook.val hk) (YP:=Hook.says hk) (N:=4508)
  SP (Hook.of hk) (Hook.keeps hk) (λs e=>xl_of s (Bool.and_eq_true_iff.mp e).1) XL.keeps N0 N1 N2 (λs e=>recFacts_of (Bool.and_eq_true_iff.mp e).2) (by rfl) said Uc MU aaz walk
section
variable{prog:Program}{w:World}{h₁:Heap}{K:Frag}{own:Bool}{env:Env}{ns:List Str}{k:Nat}{dN:Addr}
theorem Sf(X:K.In s.heap)(aA:oO K dN)
 (hsa:findIn K (.ref fF) "__setattr__"=some (some (.builtin "object.__setattr__")))
 (lB:s.heap.get? dN=some of)(Ac:of.data=.func fd)(sV:s.heap.NoLimit)(jb:s.heap.CodeRec fd.code fd.qualname)(pH:A.depth<recursionLimit)
 (lr:fd.body=.stmts [.Assign [.Attribute (.Name "self" ji) "times" jD] (.Dict [] [] tL) ry])(lA:fd.scope.names=[((("self":Str)),NameKind.local)])
 (mX:bindArgs fd ⟨[.ref x],[]⟩=pure [(("self":Str),Value.ref x)])(lx:fd.scope.isCoroutine=false)(ly:fd.scope.isGenerator=false)(hk:fd.scope.kind=.function)
 (av:s.heap.get? x=some (instObj fF d))(aB:s.heap.get? d=some emptyDict)(fi:x≠d)
 (h:∀h' e b7 d3 n hh,h'.get? x=some (instObj fF d)->h'.get? d=some (dictOf [⟨hh,.str "times" b7,.ref e⟩] n)->h'.get? e=some emptyDict->s.heap.objs.size<=e->(∀b o,b≠d->s.heap.get? b=some o->h'.get? b=some o)->
   R (.ok (.ret .none)) {s with heap:=h',toks:=d3}):
 codeAny (model prog w) A (.call (.ref dN) ⟨[.ref x],[]⟩) R s:=by
 refine codeAny_call_def pH lB Ac sV jb lr (binds:=[(("self":Str),Value.ref x)]) (.of_eq mX) (by rw[lA];intro y bB;cases bB with|head=>exact nofun|tail _ bB=>cases bB)
  (by rw[lA];intro y bB;cases bB with|head=>rfl|tail _ bB=>cases bB) (λah jc GN=>?_) lx ly hk
 refine wpAny_execs_cons ?_
 refine plainObj_wpAny_Assign_Attribute ?_
 refine wpAny_Dict_empty ?_
 refine wpAny_Name ?_ (by decide)
 have Rw:=jc.keeps (h':=ah.push emptyDict) (λb o e=>Heap.get?_push_of_some _ e)
 have dt:∀b o,s.heap.get? b=some o->(ah.push emptyDict).get? b=some o:=λb o e=>Heap.get?_push_of_some _ (GN b o e)
 refine wpAny_loadName_local (v:=.ref x) hk (by show fd.scope.names.lookup ("self":Str)=_;rw[lA];rfl) Rw (by rfl) ?_
 have aO:InstAt (ah.push emptyDict) x (instObj fF d) fF (some (dictOf [] 0)):=⟨dt _ _ av,rfl,rfl,dt _ _ aB⟩
 refine set_plain (X.keeps dt) aO hsa ?_
 refine Jd (X.keeps dt) aA aO (by rfl) (by decide) λh' a8 a7=>?_
 refine wpAny_execs_nil ?_
 have SK:s.heap.objs.size<=ah.objs.size:=by obtain⟨o,_,_,hh,_⟩:=jc;exact Nat.le_of_lt (Heap.lt_size hh)
 have kd:∀b o,b≠d->s.heap.get? b=some o->h'.get? b=some o:=λb o ag e=>(a7.2 b ag).trans (dt b o e)
 refine h h' ah.objs.size _ _ _ _ (kd _ _ fi av) a8 ?_ SK kd
 exact(a7.2 _ (Nat.ne_of_gt (Heap.lt_size (GN _ _ aB)))).trans (Heap.get?_push_size _ rfl)
structure Dy (h₁:Heap) (dN:Addr):Prop where
 all:∃(of:Obj) (fd:FuncData) (ji jD tL ry:Pos),h₁.get? dN=some of/\of.data=.func fd/\h₁.CodeRec fd.code fd.qualname/\
  fd.body=.stmts [.Assign [.Attribute (.Name "self" ji) "times" jD] (.Dict [] [] tL) ry]/\fd.scope.names=[((("self":Str)),NameKind.local)]/\
  (∀v,bindArgs fd ⟨[v],[]⟩=pure [(("self":Str),v)])/\fd.scope.isCoroutine=false/\fd.scope.isGenerator=false/\fd.scope.kind=.function
noncomputable def tA:cW:=λ_ σ=>some (.ref σ.next,σ.new (.inst (some (.cw []))))
theorem OX(B:bK K h₁)(aA:oO K dN)(aO:Dy h₁ dN)(hsa:findIn K (.ref fF) "__setattr__"=some (some (.builtin "object.__setattr__")))(vR:keepIn K (.ref fF)=true)
 (hf:bj prog w h₁ own env ns k (eval f env) (I (.bS (.ref fF))))
 (aw:autoParam (eval (f.Call [] [] pos) env=(do let g<-eval f env;callWith pos g [] (backTo pos (starEach [] env)) (backToKw pos (keywordEach [] env)))) aL._auto_1):
 bj prog w h₁ own env ns k (eval (.Call f [] [] pos) env) tA:=by
 intro A W U σ v aZ s Q E aE ao R aP
 cases ao
 rw[aw]
 refine a5 ?_
 refine hf A W U σ _ σ s _ E aE rfl R λhH iY eg qc iw ab gi kj=>?_
 cases kj
 have sk:=B.sl gi.bE
 refine wpN.of (callWith_K0 (s:={s with heap:=eg,toks:=qc}) sk vR (wpAny_call ?_))
 obtain⟨of,fd,ji,jD,tL,ry,cx,eL,AI,R4,R5,R6,R7,R8,R9⟩:=aO.all
 have tk:∀b o,eg.get? b=some o->((eg.push emptyDict).push (instObj fF eg.objs.size)).get? b=some o:=λb o e=>Heap.get?_push_of_some _ (Heap.get?_push_of_some _ e)
 refine make_core (init:=.ref dN) (makes_of sk aA.hm) (looks_findIn sk aA.hi) (λself=>bind_fn sk self aA.hf) (.inl rfl) ?_
 refine Sf (d:=eg.objs.size) (sk.keeps tk) aA hsa (tk _ _ (gi.bE.old _ _ cx)) eL (B.nolimit.keeps λb o e=>tk _ _ (gi.bE.old _ _ e)) (AI.keeps λb o e=>tk _ _ (gi.bE.old _ _ e)) ?_ R4 R5 (R6 _) R7 R8 R9 ?_ ?_ (Nat.succ_ne_self _) ?_
 .rw[depth_under_make];have:=aE.d;show A.depth+1<1000;exact aC.WS this
 .rw[<-Heap.size_push (h:=eg) (o:=emptyDict)];exact Heap.get?_push_size _ rfl
 .exact Heap.get?_push_of_some _ (Heap.get?_push_size _ rfl)
 intro h' e b7 d3 n hh g1 g2 g3 ge Qx
 refine⟨rfl,?_⟩
 have dF:∀{a:Addr},eg.objs.size<=a->hH.role a=.free:=λha=>gi.bE.free ha
 have lt:∀{b o},eg.get? b=some o->b<eg.objs.size:=λe=>Heap.lt_size e
 have Hi:∀b o,eg.get? b=some o->h'.get? b=some o:=λb o q=>Qx b o (Nat.ne_of_lt (lt q)) (tk b o q)
 have vF:eg.objs.size+1<e:=by
  have:((eg.push emptyDict).push (instObj fF eg.objs.size)).objs.size=eg.objs.size+1+1:=by rw[Heap.size_push,Heap.size_push]
  rw[this] at ge;exact ge
 have bu:bw prog w h₁ hH σ h':=gi.bE.j6 Hi
 have f1:hH.role e=.free:=dF (by exact aC.WT vF)
 have cn:=bu.hu (r:=.imm emptyDict) f1 ⟨_,g3⟩ (λo q=>by cases q;exact g3) (λ_ q=>nomatch q)
 have f2:(hH.aS e (.imm emptyDict)).role eg.objs.size=.free:=by rw[az.b' (Nat.ne_of_lt (Nat.lt_trans (Nat.lt_succ_self _) vF))];exact dF (Nat.le_refl _)
 have dc:=cn.hu (r:=.gw σ.next) f2 ⟨_,g2⟩ (λ_ q=>nomatch q) (λ_ q=>nomatch q)
 have n1:((hH.aS e (.imm emptyDict)).aS eg.objs.size (.gw σ.next)).role (eg.objs.size+1)=.free:=by
  rw[az.b' (Nat.succ_ne_self _),az.b' (Nat.ne_of_lt vF)];exact dF (Nat.le_succ _)
 have bA:hH.le σ.next (hH.aS e (.imm emptyDict)):=az.gG f1
 have a':(hH.aS e (.imm emptyDict)).le σ.next ((hH.aS e (.imm emptyDict)).aS eg.objs.size (.gw σ.next)):=az.gG f2
 have cR:=az.oi (n:=σ.next) n1
 have oz:(((hH.aS e (.imm emptyDict)).aS eg.objs.size (.gw σ.next)).eD σ.next (eg.objs.size+1)).role e=.imm emptyDict:=
  cR.1.1 _ _ (a'.1.1 _ _ az.cX)
 have lO:(((hH.aS e (.imm emptyDict)).aS eg.objs.size (.gw σ.next)).eD σ.next (eg.objs.size+1)).role eg.objs.size=.gw σ.next:=by
  show(if eg.objs.size=eg.objs.size+1 then _ else _)=_
  rw[if_neg (by exact aC.WU)];exact az.cX
 have abD:(e==sysModules)=false:=by
  obtain⟨o,aH⟩:=gi.bE.nz
  have:=lt (gi.bE.old _ _ aH)
  exact beq_eq_false_iff_ne.mpr (Nat.ne_of_gt (Nat.lt_trans (by decide:(1:Nat)<3) (Nat.lt_trans this (Nat.lt_trans (Nat.lt_succ_self _) vF))))
 have dW:=dc.alloc (x:=.inst (some (.cw []))) n1 ⟨_,g1⟩ (.inst g1 lO g2 ⟨_,_,_,rfl,.cw (kvs:=[]) oz abD ⟨⟨rfl,rfl,rfl⟩, #[],0,rfl,λe bV=>by simp at bV,.nil,List.nodup_nil⟩ .nil⟩)
 have Hr:=(bA.trans (Nat.le_refl _) a').trans (Nat.le_refl _) cR
 have ju:(((hH.aS e (.imm emptyDict)).aS eg.objs.size (.gw σ.next)).eD σ.next (eg.objs.size+1)).al σ.next=eg.objs.size+1:=by
  show(if σ.next=σ.next then _ else _)=_
  rw[if_pos rfl]
 refine aP _ (.ref (eg.objs.size+1)) h' d3 (iw.trans ab Hr) (Nat.le_succ _) (gi.next dW Hr (Nat.le_succ _) λa ha=>?_) ?_
 .obtain⟨o,aH⟩:=gi.bE.live a (by rw[ha];exact nofun)
  rw[aH];exact Hi _ _ aH
 .have:=aM.ref (prog:=prog) (w:=w) (W:=((hH.aS e (.imm emptyDict)).aS eg.objs.size (.gw σ.next)).eD σ.next (eg.objs.size+1)) (n:=σ.next+1) (c:=σ.next) (Nat.lt_succ_self _)
  rw[ju] at this;exact this
end
noncomputable abbrev mG:List UInt8:=[49,50,51,52,53,54,55,56]
theorem wu(P:Params):(KK P).lookup 25=some FI:=by kernel_rfl
theorem wy(P:Params):(KK P).lookup 32=some FR:=by kernel_rfl
theorem HJ(P:Params):(KK P).lookup 37=some FT:=by kernel_rfl
theorem HK(P:Params):(KK P).lookup 44=some FU:=by kernel_rfl
theorem HL(P:Params):(KK P).lookup 49=some FV:=by kernel_rfl
theorem HM(P:Params):(KK P).lookup 77=some FW:=by kernel_rfl
theorem HN(P:Params):(KK P).lookup 84=some FX:=by kernel_rfl
theorem A9(P:Params):(KK P).lookup 91=some FY:=by kernel_rfl
theorem m'(P:Params):(KK P).lookup 97=some FZ:=by kernel_rfl
theorem wq(P:Params):(KK P).lookup 104=some Fo:=by kernel_rfl
theorem Hy(P:Params):(KK P).lookup 125=some Fp:=by kernel_rfl
theorem Hz(P:Params):(KK P).lookup 132=some Fq:=by kernel_rfl
theorem HA(P:Params):(KK P).lookup 146=some Fs:=by kernel_rfl
theorem A2(P:Params):(KK P).lookup 153=some Ft:=by kernel_rfl
theorem rg(P:Params):(KK P).lookup 160=some Fu:=by kernel_rfl
theorem wt(P:Params):(KK P).lookup 168=some Fv:=by kernel_rfl
theorem rh(P:Params):(KK P).lookup 175=some Fw:=by kernel_rfl
theorem A3(P:Params):(KK P).lookup 182=some Fx:=by kernel_rfl
theorem A4(P:Params):(KK P).lookup 189=some Fy:=by kernel_rfl
theorem ts(P:Params):(KK P).lookup 196=some Fz:=by kernel_rfl
theorem HB(P:Params):(KK P).lookup 203=some FA:=by kernel_rfl
theorem HC(P:Params):(KK P).lookup 211=some FC:=by kernel_rfl
theorem A5(P:Params):(KK P).lookup 218=some FD:=by kernel_rfl
theorem HD(P:Params):(KK P).lookup 223=some FE:=by kernel_rfl
theorem HE(P:Params):(KK P).lookup 228=some FF:=by kernel_rfl
theorem A6(P:Params):(KK P).lookup 249=some FH:=by kernel_rfl
theorem HF(P:Params):(KK P).lookup 256=some FJ:=by kernel_rfl
theorem HG(P:Params):(KK P).lookup 263=some FK:=by kernel_rfl
theorem HH(P:Params):(KK P).lookup 270=some FL:=by kernel_rfl
theorem lI(P:Params):(KK P).lookup 284=some FN:=by kernel_rfl
theorem A7(P:Params):(KK P).lookup 289=some zO:=by kernel_rfl
theorem wx(P:Params):(KK P).lookup 296=some FO:=by kernel_rfl
theorem HI(P:Params):(KK P).lookup 303=some FP:=by kernel_rfl
theorem A8(P:Params):(KK P).lookup 308=some FQ:=by kernel_rfl
theorem S7(P:Params):(KK P).lookup 313=some zP:=by kernel_rfl
theorem S6(P:Params):(KK P).lookup 242=some FG:=by kernel_rfl
theorem S0(P:Params):(KK P).lookup 15=some Iw:=by kernel_rfl
theorem S1(P:Params):(KK P).lookup 16=some Iy:=by kernel_rfl
theorem S3(P:Params):(KK P).lookup 17=some IA:=by kernel_rfl
theorem S4(P:Params):(KK P).lookup 18=some IB:=by kernel_rfl
theorem S8(P:Params):(KK P).lookup 70=some ID:=by kernel_rfl
theorem S2(P:Params):(KK P).lookup 161=some Iz:=by kernel_rfl
theorem S5(P:Params):(KK P).lookup 204=some IC:=by kernel_rfl
theorem kA(P:Params):oO (KK P) 242 where
 hga:=by kernel_rfl
 hsa:=by kernel_rfl
 hk:=by kernel_rfl
 hp:=by kernel_rfl
 ht:=by kernel_rfl
 hh:=by kernel_rfl
 ha:=by kernel_rfl
 hm:=by kernel_rfl
 hi:=by kernel_rfl
 hf:=by kernel_rfl
section
variable{prog:Program}{w:World}{h₁:Heap}{own:Bool}{env:Env}{ns:List Str}{k:Nat}
theorem Sg(B:bK (KK w.params) h₁):Dy h₁ 242:=
 ⟨_,Fi,_,_,_,_,B.X _ _ (S6 w.params),rfl,codeRec_of B.X (by kernel_rfl),rfl,rfl,λ_=>rfl,rfl,rfl,rfl⟩
noncomputable def ek(l:List (Option Nat)):Loc->Loc:=λU=>l.map λo=>o.bind λai=>(U[ai]?).join
theorem Nm(sub:∀x c,env'.cells.lookup x=some c->env.cells.lookup x=some c)
 (h:∀(i ai:Nat),l[i]? =some (some ai)->∃x,ns[ai]? =some x/\ns'[i]? =some x/\env.kindOf x=some .cell/\(env'.kindOf x=some .cell\/env'.kindOf x=some .free)/\env'.cells.lookup x=env.cells.lookup x):oN env env' ns ns' (ek l) where
 sub:=sub
 cap U i v e:=by
  unfold ek at e
  rw[List.getElem?_map] at e
  obtain⟨o,a8,a7⟩:=Option.map_eq_some_iff.mp e
  cases o with
  |none=>cases a7
  |some ai=>
   obtain⟨x,a,b,c⟩:=h i ai a8
   refine⟨ai,x,?_,a,b,c⟩
   cases q:U[ai]? with
   |none=>rw[Option.bind_some,q] at a7;cases a7
   |some z=>rw[Option.bind_some,q] at a7;rw[<-show z=some v from a7]
theorem Z0{el hr:List (Str×Addr)}(h:∀p∈el,hr.lookup p.1=some p.2):∀x c,el.lookup x=some c->hr.lookup x=some c:=by
 intro x c e
 exact h (x,c) (mem_of_lookup e)
inductive qk (env env':Env) (ns:List Str):List (Option Nat)->List Str->Prop
 |nil {m:List Str}:qk env env' ns [] m
 |none {l:List (Option Nat)} {x:Str} {m:List Str} (h:qk env env' ns l m):qk env env' ns (none::l) (x::m)
 |some {ai:Nat} {l:List (Option Nat)} {x:Str} {m:List Str} (a:ns[ai]? =some x) (b:env.kindOf x=some .cell) (c:env'.kindOf x=some .cell\/env'.kindOf x=some .free) (d:env'.cells.lookup x=env.cells.lookup x) (h:qk env env' ns l m):qk env env' ns (some ai::l) (x::m)
theorem iN{env env':Env}(sub:∀p∈env'.cells,env.cells.lookup p.1=some p.2:=by repeat (first|exact List.forall_mem_nil _|refine List.forall_mem_cons.mpr ⟨rfl,?_⟩))
 (h:qk env env' ns l ns':=by repeat (first|exact .nil|refine .none ?_|refine .some rfl rfl (by first|exact .inl rfl|exact .inr rfl) rfl ?_)):oN env env' ns ns' (ek l):=
 Nm (Z0 sub) (by
  induction h with
  |nil=>exactλi ai e=>aq e
  |none _ aX=>
   intro i ai e
   rcases i with _|i
   .exact aq (Option.some.inj e)
   .exact aX i ai e
  |some a b c d _ aX=>
   intro i ai e
   rcases i with _|i
   .exact⟨_,Option.some.inj (Option.some.inj e)▸a,rfl,b,c,d⟩
   .exact aX i ai e)
noncomputable abbrev DE:J:=.bk [.str "new_connection_id",.str "retire_connection_id",.str "new_token",.str "handshake_done",.str "stop_sending",.str "reset_stream"]
noncomputable abbrev DF:J:=.bk [.str "crypto",.str "stream"]
noncomputable abbrev DG:J:=.bk [.str "max_data",.str "max_stream_data",.str "max_streams"]
noncomputable abbrev DH:J:=.bk [.str "data_blocked",.str "stream_data_blocked",.str "streams_blocked"]
noncomputable abbrev o5:J:=.bk [.int 1,.int 2,.int 4,.int 8]
noncomputable abbrev xX:J:=.int 8
noncomputable abbrev xM:J:=.int 1
noncomputable abbrev xN:J:=.int 2
noncomputable abbrev xO:J:=.int 4
noncomputable abbrev xT:J:=.int 24
noncomputable abbrev xP:J:=.int 6
noncomputable abbrev xU:J:=.int 7
noncomputable abbrev xV:J:=.int 26
noncomputable abbrev xW:J:=.int 27
noncomputable abbrev xS:J:=.int 19
noncomputable abbrev xR:J:=.int 18
noncomputable abbrev xZ:J:=.int 23
noncomputable abbrev xY:J:=.int 22
noncomputable abbrev qu:J:=.cw [(.str "ping",.int 1),(.str "reset_stream",.int 4),(.str "stop_sending",.int 5),(.str "max_data",.int 16),(.str "max_stream_data",.int 17),(.str "data_blocked",.int 20),(.str "stream_data_blocked",.int 21),(.str "retire_connection_id",.int 25),(.str "handshake_done",.int 30)]
noncomputable abbrev xQ:J:=.bk [.str "crypto",.str "stream"]
noncomputable abbrev i4:J:=.bk [.str "closed",.str "idle",.str "loss",.str "probe",.str "ack",.str "path"]
theorem S9(P:Params):(KK P).lookup 92=some (Ic P):=by kernel_rfl
theorem SA:PyData.keyHash w.params x=hashStr w x:=by
 rfl
theorem Ie:∀l:List (Str×Tok×Int×Tok),Pairs (gQ prog w) (l.map λe=>⟨PyData.keyHash w.params e.1,.str e.1 e.2.1,.int e.2.2.1 e.2.2.2⟩) (l.map λe=>(bp.str e.1,Value.int e.2.2.1 e.2.2.2))
 |[]=>.nil
 |e::r=>.cons (by show(e.1==e.1)=true;exact beq_self_eq_true _) rfl (Ie r)
theorem Ig:∀l:List (Str×Tok×Int×Tok),d6 prog w W n (l.map λe=>(bp.str e.1,J.int e.2.2.1)) (l.map λe=>(bp.str e.1,Value.int e.2.2.1 e.2.2.2))
 |[]=>.nil
 |e::r=>.cons (.int _ _) (Ig r)
theorem TJ(B:bK (KK w.params) h₁)(ag:∀a o,h₁.get? a=some o->W.role a=.imm o):aM prog w W n qu (.ref 92):=by
 refine .cw (ag _ _ (B.X _ _ (S9 w.params))) (by decide) ⟨⟨rfl,rfl,rfl⟩,_,_,rfl,?_,Ie Bk,by decide⟩ (Ig Bk)
 intro e bV
 rw[List.mem_toArray] at bV
 obtain⟨x,_,rfl⟩:=List.mem_map.mp bV
 exact⟨.str x.1,beq_self_eq_true _,SA⟩
theorem PS(B:bK (KK w.params) h₁)(hk:autoParam (env.scope.kind=.function) aL._auto_1)(aT:autoParam (env.globals=mainGlobals) aL._auto_1)(av:autoParam (env.kindOf "ANEW"=some .globalImplicit) aL._auto_1):bj prog w h₁ own env ns k (eval (.Name "ANEW" pos) env) (I DE):=by
 exact dg B (by kernel_rfl) (λW n ag=>.bk (ag _ _ (B.X _ _ (S0 w.params))) (.cons (.str _ _) (.cons (.str _ _) (.cons (.str _ _) (.cons (.str _ _) (.cons (.str _ _) (.cons (.str _ _) (.nil)))))))) hk aT av
theorem PX(B:bK (KK w.params) h₁)(hk:autoParam (env.scope.kind=.function) aL._auto_1)(aT:autoParam (env.globals=mainGlobals) aL._auto_1)(av:autoParam (env.kindOf "BY_HOLDER"=some .globalImplicit) aL._auto_1):bj prog w h₁ own env ns k (eval (.Name "BY_HOLDER" pos) env) (I DF):=by
 exact dg B (by kernel_rfl) (λW n ag=>.bk (ag _ _ (B.X _ _ (S1 w.params))) (.cons (.str _ _) (.cons (.str _ _) (.nil)))) hk aT av
theorem P0(B:bK (KK w.params) h₁)(hk:autoParam (env.scope.kind=.function) aL._auto_1)(aT:autoParam (env.globals=mainGlobals) aL._auto_1)(av:autoParam (env.kindOf "LATEST"=some .globalImplicit) aL._auto_1):bj prog w h₁ own env ns k (eval (.Name "LATEST" pos) env) (I DG):=by
 exact dg B (by kernel_rfl) (λW n ag=>.bk (ag _ _ (B.X _ _ (S3 w.params))) (.cons (.str _ _) (.cons (.str _ _) (.cons (.str _ _) (.nil))))) hk aT av
theorem Qa(B:bK (KK w.params) h₁)(hk:autoParam (env.scope.kind=.function) aL._auto_1)(aT:autoParam (env.globals=mainGlobals) aL._auto_1)(av:autoParam (env.kindOf "WHILE_BLOCKED"=some .globalImplicit) aL._auto_1):bj prog w h₁ own env ns k (eval (.Name "WHILE_BLOCKED" pos) env) (I DH):=by
 exact dg B (by kernel_rfl) (λW n ag=>.bk (ag _ _ (B.X _ _ (S4 w.params))) (.cons (.str _ _) (.cons (.str _ _) (.cons (.str _ _) (.nil))))) hk aT av
theorem zR(B:bK (KK w.params) h₁)(hk:autoParam (env.scope.kind=.function) aL._auto_1)(aT:autoParam (env.globals=mainGlobals) aL._auto_1)(av:autoParam (env.kindOf "VARINT_SIZES"=some .globalImplicit) aL._auto_1):bj prog w h₁ own env ns k (eval (.Name "VARINT_SIZES" pos) env) (I o5):=by
 exact dg B (by kernel_rfl) (λW n ag=>.bk (ag _ _ (B.X _ _ (S8 w.params))) (.cons (.int _ _) (.cons (.int _ _) (.cons (.int _ _) (.cons (.int _ _) (.nil)))))) hk aT av
theorem P8(B:bK (KK w.params) h₁)(hk:autoParam (env.scope.kind=.function) aL._auto_1)(aT:autoParam (env.globals=mainGlobals) aL._auto_1)(av:autoParam (env.kindOf "STREAM"=some .globalImplicit) aL._auto_1):bj prog w h₁ own env ns k (eval (.Name "STREAM" pos) env) (I xX):=by
 exact dg B (by kernel_rfl) (λW n ag=>.int _ 299) hk aT av
theorem PU(B:bK (KK w.params) h₁)(hk:autoParam (env.scope.kind=.function) aL._auto_1)(aT:autoParam (env.globals=mainGlobals) aL._auto_1)(av:autoParam (env.kindOf "BIT_FIN"=some .globalImplicit) aL._auto_1):bj prog w h₁ own env ns k (eval (.Name "BIT_FIN" pos) env) (I xM):=by
 exact dg B (by kernel_rfl) (λW n ag=>.int _ 331) hk aT av
theorem PV(B:bK (KK w.params) h₁)(hk:autoParam (env.scope.kind=.function) aL._auto_1)(aT:autoParam (env.globals=mainGlobals) aL._auto_1)(av:autoParam (env.kindOf "BIT_LENGTH"=some .globalImplicit) aL._auto_1):bj prog w h₁ own env ns k (eval (.Name "BIT_LENGTH" pos) env) (I xN):=by
 exact dg B (by kernel_rfl) (λW n ag=>.int _ 333) hk aT av
theorem PW(B:bK (KK w.params) h₁)(hk:autoParam (env.scope.kind=.function) aL._auto_1)(aT:autoParam (env.globals=mainGlobals) aL._auto_1)(av:autoParam (env.kindOf "BIT_OFFSET"=some .globalImplicit) aL._auto_1):bj prog w h₁ own env ns k (eval (.Name "BIT_OFFSET" pos) env) (I xO):=by
 exact dg B (by kernel_rfl) (λW n ag=>.int _ 335) hk aT av
theorem P4(B:bK (KK w.params) h₁)(hk:autoParam (env.scope.kind=.function) aL._auto_1)(aT:autoParam (env.globals=mainGlobals) aL._auto_1)(av:autoParam (env.kindOf "NEW_CONNECTION_ID"=some .globalImplicit) aL._auto_1):bj prog w h₁ own env ns k (eval (.Name "NEW_CONNECTION_ID" pos) env) (I xT):=by
 exact dg B (by kernel_rfl) (λW n ag=>.int _ 317) hk aT av
theorem PY(B:bK (KK w.params) h₁)(hk:autoParam (env.scope.kind=.function) aL._auto_1)(aT:autoParam (env.globals=mainGlobals) aL._auto_1)(av:autoParam (env.kindOf "CRYPTO"=some .globalImplicit) aL._auto_1):bj prog w h₁ own env ns k (eval (.Name "CRYPTO" pos) env) (I xP):=by
 exact dg B (by kernel_rfl) (λW n ag=>.int _ 295) hk aT av
theorem P5(B:bK (KK w.params) h₁)(hk:autoParam (env.scope.kind=.function) aL._auto_1)(aT:autoParam (env.globals=mainGlobals) aL._auto_1)(av:autoParam (env.kindOf "NEW_TOKEN"=some .globalImplicit) aL._auto_1):bj prog w h₁ own env ns k (eval (.Name "NEW_TOKEN" pos) env) (I xU):=by
 exact dg B (by kernel_rfl) (λW n ag=>.int _ 297) hk aT av
theorem P6(B:bK (KK w.params) h₁)(hk:autoParam (env.scope.kind=.function) aL._auto_1)(aT:autoParam (env.globals=mainGlobals) aL._auto_1)(av:autoParam (env.kindOf "PATH_CHALLENGE"=some .globalImplicit) aL._auto_1):bj prog w h₁ own env ns k (eval (.Name "PATH_CHALLENGE" pos) env) (I xV):=by
 exact dg B (by kernel_rfl) (λW n ag=>.int _ 321) hk aT av
theorem P7(B:bK (KK w.params) h₁)(hk:autoParam (env.scope.kind=.function) aL._auto_1)(aT:autoParam (env.globals=mainGlobals) aL._auto_1)(av:autoParam (env.kindOf "PATH_RESPONSE"=some .globalImplicit) aL._auto_1):bj prog w h₁ own env ns k (eval (.Name "PATH_RESPONSE" pos) env) (I xW):=by
 exact dg B (by kernel_rfl) (λW n ag=>.int _ 323) hk aT av
theorem P2(B:bK (KK w.params) h₁)(hk:autoParam (env.scope.kind=.function) aL._auto_1)(aT:autoParam (env.globals=mainGlobals) aL._auto_1)(av:autoParam (env.kindOf "MAX_STREAMS_UNI"=some .globalImplicit) aL._auto_1):bj prog w h₁ own env ns k (eval (.Name "MAX_STREAMS_UNI" pos) env) (I xS):=by
 exact dg B (by kernel_rfl) (λW n ag=>.int _ 307) hk aT av
theorem P1(B:bK (KK w.params) h₁)(hk:autoParam (env.scope.kind=.function) aL._auto_1)(aT:autoParam (env.globals=mainGlobals) aL._auto_1)(av:autoParam (env.kindOf "MAX_STREAMS_BIDI"=some .globalImplicit) aL._auto_1):bj prog w h₁ own env ns k (eval (.Name "MAX_STREAMS_BIDI" pos) env) (I xR):=by
 exact dg B (by kernel_rfl) (λW n ag=>.int _ 305) hk aT av
theorem P'(B:bK (KK w.params) h₁)(hk:autoParam (env.scope.kind=.function) aL._auto_1)(aT:autoParam (env.globals=mainGlobals) aL._auto_1)(av:autoParam (env.kindOf "STREAMS_BLOCKED_UNI"=some .globalImplicit) aL._auto_1):bj prog w h₁ own env ns k (eval (.Name "STREAMS_BLOCKED_UNI" pos) env) (I xZ):=by
 exact dg B (by kernel_rfl) (λW n ag=>.int _ 315) hk aT av
theorem P9(B:bK (KK w.params) h₁)(hk:autoParam (env.scope.kind=.function) aL._auto_1)(aT:autoParam (env.globals=mainGlobals) aL._auto_1)(av:autoParam (env.kindOf "STREAMS_BLOCKED_BIDI"=some .globalImplicit) aL._auto_1):bj prog w h₁ own env ns k (eval (.Name "STREAMS_BLOCKED_BIDI" pos) env) (I xY):=by
 exact dg B (by kernel_rfl) (λW n ag=>.int _ 313) hk aT av
theorem Gb(B:bK (KK w.params) h₁)(hk:autoParam (env.scope.kind=.function) aL._auto_1)(aT:autoParam (env.globals=mainGlobals) aL._auto_1)(av:autoParam (env.kindOf "NUMBER_FRAMES"=some .globalImplicit) aL._auto_1):bj prog w h₁ own env ns k (eval (.Name "NUMBER_FRAMES" pos) env) (I qu):=by
 exact dg B (by kernel_rfl) (λW n ag=>TJ B ag) hk aT av
theorem PZ(B:bK (KK w.params) h₁)(hk:autoParam (env.scope.kind=.function) aL._auto_1)(aT:autoParam (env.globals=mainGlobals) aL._auto_1)(av:autoParam (env.kindOf "DATA_KINDS"=some .globalImplicit) aL._auto_1):bj prog w h₁ own env ns k (eval (.Name "DATA_KINDS" pos) env) (I xQ):=by
 exact dg B (by kernel_rfl) (λW n ag=>.bk (ag _ _ (B.X _ _ (S2 w.params))) (.cons (.str _ _) (.cons (.str _ _) (.nil)))) hk aT av
theorem vD(B:bK (KK w.params) h₁)(hk:autoParam (env.scope.kind=.function) aL._auto_1)(aT:autoParam (env.globals=mainGlobals) aL._auto_1)(av:autoParam (env.kindOf "KINDS"=some .globalImplicit) aL._auto_1):bj prog w h₁ own env ns k (eval (.Name "KINDS" pos) env) (I i4):=by
 exact dg B (by kernel_rfl) (λW n ag=>.bk (ag _ _ (B.X _ _ (S5 w.params))) (.cons (.str _ _) (.cons (.str _ _) (.cons (.str _ _) (.cons (.str _ _) (.cons (.str _ _) (.cons (.str _ _) (.nil)))))))) hk aT av
theorem zY(B:bK (KK w.params) h₁)(hk:autoParam (env.scope.kind=.function) aL._auto_1)(aT:autoParam (env.globals=mainGlobals) aL._auto_1)(av:autoParam (env.kindOf "way_of"=some .globalImplicit) aL._auto_1):bj prog w h₁ own env ns k (eval (.Name "way_of" pos) env) (I (.bS (.ref 25))):=
 dg B (by kernel_rfl) (λW n ag=>.bS _) hk aT av
theorem zX(B:bK (KK w.params) h₁)(hk:autoParam (env.scope.kind=.function) aL._auto_1)(aT:autoParam (env.globals=mainGlobals) aL._auto_1)(av:autoParam (env.kindOf "subject_of"=some .globalImplicit) aL._auto_1):bj prog w h₁ own env ns k (eval (.Name "subject_of" pos) env) (I (.bS (.ref 32))):=
 dg B (by kernel_rfl) (λW n ag=>.bS _) hk aT av
theorem Qk(B:bK (KK w.params) h₁)(hk:autoParam (env.scope.kind=.function) aL._auto_1)(aT:autoParam (env.globals=mainGlobals) aL._auto_1)(av:autoParam (env.kindOf "newest"=some .globalImplicit) aL._auto_1):bj prog w h₁ own env ns k (eval (.Name "newest" pos) env) (I (.bS (.ref 37))):=
 dg B (by kernel_rfl) (λW n ag=>.bS _) hk aT av
theorem Qp(B:bK (KK w.params) h₁)(hk:autoParam (env.scope.kind=.function) aL._auto_1)(aT:autoParam (env.globals=mainGlobals) aL._auto_1)(av:autoParam (env.kindOf "told_again"=some .globalImplicit) aL._auto_1):bj prog w h₁ own env ns k (eval (.Name "told_again" pos) env) (I (.bS (.ref 44))):=
 dg B (by kernel_rfl) (λW n ag=>.bS _) hk aT av
theorem Qg(B:bK (KK w.params) h₁)(hk:autoParam (env.scope.kind=.function) aL._auto_1)(aT:autoParam (env.globals=mainGlobals) aL._auto_1)(av:autoParam (env.kindOf "held_data"=some .globalImplicit) aL._auto_1):bj prog w h₁ own env ns k (eval (.Name "held_data" pos) env) (I (.bS (.ref 49))):=
 dg B (by kernel_rfl) (λW n ag=>.bS _) hk aT av
theorem Qo(B:bK (KK w.params) h₁)(hk:autoParam (env.scope.kind=.function) aL._auto_1)(aT:autoParam (env.globals=mainGlobals) aL._auto_1)(av:autoParam (env.kindOf "put_whole"=some .globalImplicit) aL._auto_1):bj prog w h₁ own env ns k (eval (.Name "put_whole" pos) env) (I (.bS (.ref 77))):=
 dg B (by kernel_rfl) (λW n ag=>.bS _) hk aT av
theorem Qq(B:bK (KK w.params) h₁)(hk:autoParam (env.scope.kind=.function) aL._auto_1)(aT:autoParam (env.globals=mainGlobals) aL._auto_1)(av:autoParam (env.kindOf "varint_size"=some .globalImplicit) aL._auto_1):bj prog w h₁ own env ns k (eval (.Name "varint_size" pos) env) (I (.bS (.ref 84))):=
 dg B (by kernel_rfl) (λW n ag=>.bS _) hk aT av
theorem Gk(B:bK (KK w.params) h₁)(hk:autoParam (env.scope.kind=.function) aL._auto_1)(aT:autoParam (env.globals=mainGlobals) aL._auto_1)(av:autoParam (env.kindOf "put_varint"=some .globalImplicit) aL._auto_1):bj prog w h₁ own env ns k (eval (.Name "put_varint" pos) env) (I (.bS (.ref 91))):=
 dg B (by kernel_rfl) (λW n ag=>.bS _) hk aT av
theorem n3(B:bK (KK w.params) h₁)(hk:autoParam (env.scope.kind=.function) aL._auto_1)(aT:autoParam (env.globals=mainGlobals) aL._auto_1)(av:autoParam (env.kindOf "put_numbers"=some .globalImplicit) aL._auto_1):bj prog w h₁ own env ns k (eval (.Name "put_numbers" pos) env) (I (.bS (.ref 97))):=
 dg B (by kernel_rfl) (λW n ag=>.bS _) hk aT av
theorem zW(B:bK (KK w.params) h₁)(hk:autoParam (env.scope.kind=.function) aL._auto_1)(aT:autoParam (env.globals=mainGlobals) aL._auto_1)(av:autoParam (env.kindOf "put_counted"=some .globalImplicit) aL._auto_1):bj prog w h₁ own env ns k (eval (.Name "put_counted" pos) env) (I (.bS (.ref 104))):=
 dg B (by kernel_rfl) (λW n ag=>.bS _) hk aT av
theorem Qn(B:bK (KK w.params) h₁)(hk:autoParam (env.scope.kind=.function) aL._auto_1)(aT:autoParam (env.globals=mainGlobals) aL._auto_1)(av:autoParam (env.kindOf "put_stream"=some .globalImplicit) aL._auto_1):bj prog w h₁ own env ns k (eval (.Name "put_stream" pos) env) (I (.bS (.ref 125))):=
 dg B (by kernel_rfl) (λW n ag=>.bS _) hk aT av
theorem Ql(B:bK (KK w.params) h₁)(hk:autoParam (env.scope.kind=.function) aL._auto_1)(aT:autoParam (env.globals=mainGlobals) aL._auto_1)(av:autoParam (env.kindOf "put_new_cid"=some .globalImplicit) aL._auto_1):bj prog w h₁ own env ns k (eval (.Name "put_new_cid" pos) env) (I (.bS (.ref 132))):=
 dg B (by kernel_rfl) (λW n ag=>.bS _) hk aT av
theorem Qm(B:bK (KK w.params) h₁)(hk:autoParam (env.scope.kind=.function) aL._auto_1)(aT:autoParam (env.globals=mainGlobals) aL._auto_1)(av:autoParam (env.kindOf "put_octets_frame"=some .globalImplicit) aL._auto_1):bj prog w h₁ own env ns k (eval (.Name "put_octets_frame" pos) env) (I (.bS (.ref 146))):=
 dg B (by kernel_rfl) (λW n ag=>.bS _) hk aT av
theorem Gj(B:bK (KK w.params) h₁)(hk:autoParam (env.scope.kind=.function) aL._auto_1)(aT:autoParam (env.globals=mainGlobals) aL._auto_1)(av:autoParam (env.kindOf "put_frame"=some .globalImplicit) aL._auto_1):bj prog w h₁ own env ns k (eval (.Name "put_frame" pos) env) (I (.bS (.ref 153))):=
 dg B (by kernel_rfl) (λW n ag=>.bS _) hk aT av
theorem sJ(B:bK (KK w.params) h₁)(hk:autoParam (env.scope.kind=.function) aL._auto_1)(aT:autoParam (env.globals=mainGlobals) aL._auto_1)(av:autoParam (env.kindOf "frame_size"=some .globalImplicit) aL._auto_1):bj prog w h₁ own env ns k (eval (.Name "frame_size" pos) env) (I (.bS (.ref 160))):=
 dg B (by kernel_rfl) (λW n ag=>.bS _) hk aT av
theorem zT(B:bK (KK w.params) h₁)(hk:autoParam (env.scope.kind=.function) aL._auto_1)(aT:autoParam (env.globals=mainGlobals) aL._auto_1)(av:autoParam (env.kindOf "data_of"=some .globalImplicit) aL._auto_1):bj prog w h₁ own env ns k (eval (.Name "data_of" pos) env) (I (.bS (.ref 168))):=
 dg B (by kernel_rfl) (λW n ag=>.bS _) hk aT av
theorem sM(B:bK (KK w.params) h₁)(hk:autoParam (env.scope.kind=.function) aL._auto_1)(aT:autoParam (env.globals=mainGlobals) aL._auto_1)(av:autoParam (env.kindOf "with_data"=some .globalImplicit) aL._auto_1):bj prog w h₁ own env ns k (eval (.Name "with_data" pos) env) (I (.bS (.ref 175))):=
 dg B (by kernel_rfl) (λW n ag=>.bS _) hk aT av
theorem Gg(B:bK (KK w.params) h₁)(hk:autoParam (env.scope.kind=.function) aL._auto_1)(aT:autoParam (env.globals=mainGlobals) aL._auto_1)(av:autoParam (env.kindOf "data_room"=some .globalImplicit) aL._auto_1):bj prog w h₁ own env ns k (eval (.Name "data_room" pos) env) (I (.bS (.ref 182))):=
 dg B (by kernel_rfl) (λW n ag=>.bS _) hk aT av
theorem Gf(B:bK (KK w.params) h₁)(hk:autoParam (env.scope.kind=.function) aL._auto_1)(aT:autoParam (env.globals=mainGlobals) aL._auto_1)(av:autoParam (env.kindOf "cut_frame"=some .globalImplicit) aL._auto_1):bj prog w h₁ own env ns k (eval (.Name "cut_frame" pos) env) (I (.bS (.ref 189))):=
 dg B (by kernel_rfl) (λW n ag=>.bS _) hk aT av
theorem vE(B:bK (KK w.params) h₁)(hk:autoParam (env.scope.kind=.function) aL._auto_1)(aT:autoParam (env.globals=mainGlobals) aL._auto_1)(av:autoParam (env.kindOf "filled"=some .globalImplicit) aL._auto_1):bj prog w h₁ own env ns k (eval (.Name "filled" pos) env) (I (.bS (.ref 196))):=
 dg B (by kernel_rfl) (λW n ag=>.bS _) hk aT av
theorem Qh(B:bK (KK w.params) h₁)(hk:autoParam (env.scope.kind=.function) aL._auto_1)(aT:autoParam (env.globals=mainGlobals) aL._auto_1)(av:autoParam (env.kindOf "in_rooms"=some .globalImplicit) aL._auto_1):bj prog w h₁ own env ns k (eval (.Name "in_rooms" pos) env) (I (.bS (.ref 203))):=
 dg B (by kernel_rfl) (λW n ag=>.bS _) hk aT av
theorem Qi(B:bK (KK w.params) h₁)(hk:autoParam (env.scope.kind=.function) aL._auto_1)(aT:autoParam (env.globals=mainGlobals) aL._auto_1)(av:autoParam (env.kindOf "kind_place"=some .globalImplicit) aL._auto_1):bj prog w h₁ own env ns k (eval (.Name "kind_place" pos) env) (I (.bS (.ref 211))):=
 dg B (by kernel_rfl) (λW n ag=>.bS _) hk aT av
theorem Gi(B:bK (KK w.params) h₁)(hk:autoParam (env.scope.kind=.function) aL._auto_1)(aT:autoParam (env.globals=mainGlobals) aL._auto_1)(av:autoParam (env.kindOf "next_due"=some .globalImplicit) aL._auto_1):bj prog w h₁ own env ns k (eval (.Name "next_due" pos) env) (I (.bS (.ref 218))):=
 dg B (by kernel_rfl) (λW n ag=>.bS _) hk aT av
theorem Qd(B:bK (KK w.params) h₁)(hk:autoParam (env.scope.kind=.function) aL._auto_1)(aT:autoParam (env.globals=mainGlobals) aL._auto_1)(av:autoParam (env.kindOf "all_due"=some .globalImplicit) aL._auto_1):bj prog w h₁ own env ns k (eval (.Name "all_due" pos) env) (I (.bS (.ref 223))):=
 dg B (by kernel_rfl) (λW n ag=>.bS _) hk aT av
theorem Qr(B:bK (KK w.params) h₁)(hk:autoParam (env.scope.kind=.function) aL._auto_1)(aT:autoParam (env.globals=mainGlobals) aL._auto_1)(av:autoParam (env.kindOf "with_alarm"=some .globalImplicit) aL._auto_1):bj prog w h₁ own env ns k (eval (.Name "with_alarm" pos) env) (I (.bS (.ref 228))):=
 dg B (by kernel_rfl) (λW n ag=>.bS _) hk aT av
theorem l7(B:bK (KK w.params) h₁)(hk:autoParam (env.scope.kind=.function) aL._auto_1)(aT:autoParam (env.globals=mainGlobals) aL._auto_1)(av:autoParam (env.kindOf "_law_draw"=some .globalImplicit) aL._auto_1):bj prog w h₁ own env ns k (eval (.Name "_law_draw" pos) env) (I (.bS (.ref 284))):=
 dg B (by kernel_rfl) (λW n ag=>.bS _) hk aT av
theorem Gd(B:bK (KK w.params) h₁)(hk:autoParam (env.scope.kind=.function) aL._auto_1)(aT:autoParam (env.globals=mainGlobals) aL._auto_1)(av:autoParam (env.kindOf "_law_frames"=some .globalImplicit) aL._auto_1):bj prog w h₁ own env ns k (eval (.Name "_law_frames" pos) env) (I (.bS (.ref 289))):=
 dg B (by kernel_rfl) (λW n ag=>.bS _) hk aT av
theorem zS(B:bK (KK w.params) h₁)(hk:autoParam (env.scope.kind=.function) aL._auto_1)(aT:autoParam (env.globals=mainGlobals) aL._auto_1)(av:autoParam (env.kindOf "_law_comes"=some .globalImplicit) aL._auto_1):bj prog w h₁ own env ns k (eval (.Name "_law_comes" pos) env) (I (.bS (.ref 296))):=
 dg B (by kernel_rfl) (λW n ag=>.bS _) hk aT av
theorem Qb(B:bK (KK w.params) h₁)(hk:autoParam (env.scope.kind=.function) aL._auto_1)(aT:autoParam (env.globals=mainGlobals) aL._auto_1)(av:autoParam (env.kindOf "_law_places"=some .globalImplicit) aL._auto_1):bj prog w h₁ own env ns k (eval (.Name "_law_places" pos) env) (I (.bS (.ref 303))):=
 dg B (by kernel_rfl) (λW n ag=>.bS _) hk aT av
theorem Ge(B:bK (KK w.params) h₁)(hk:autoParam (env.scope.kind=.function) aL._auto_1)(aT:autoParam (env.globals=mainGlobals) aL._auto_1)(av:autoParam (env.kindOf "_law_goes"=some .globalImplicit) aL._auto_1):bj prog w h₁ own env ns k (eval (.Name "_law_goes" pos) env) (I (.bS (.ref 308))):=
 dg B (by kernel_rfl) (λW n ag=>.bS _) hk aT av
theorem PT(B:bK (KK w.params) h₁)(hk:autoParam (env.scope.kind=.function) aL._auto_1)(aT:autoParam (env.globals=mainGlobals) aL._auto_1)(av:autoParam (env.kindOf "Alarms"=some .globalImplicit) aL._auto_1):bj prog w h₁ own env ns k (eval (.Name "Alarms" pos) env) (I (.bS (.ref 273))):=
 dg B (by kernel_rfl) (λW n ag=>.bS _) hk aT av
theorem kE(B:bK (KK w.params) h₁)(hk:autoParam (env.scope.kind=.function) aL._auto_1)(aT:autoParam (env.globals=mainGlobals) aL._auto_1)(ag:autoParam (env.builtins=builtinsNs) aL._auto_1)(av:autoParam (env.kindOf "len"=some .globalImplicit) aL._auto_1):bj prog w h₁ own env ns k (eval (.Name "len" pos) env) (I (.bS (.builtin "len"))):=
 kC B (by kernel_rfl) (by kernel_rfl) (by decide) hk aT ag av
theorem Qc(B:bK (KK w.params) h₁)(hk:autoParam (env.scope.kind=.function) aL._auto_1)(aT:autoParam (env.globals=mainGlobals) aL._auto_1)(ag:autoParam (env.builtins=builtinsNs) aL._auto_1)(av:autoParam (env.kindOf "abs"=some .globalImplicit) aL._auto_1):bj prog w h₁ own env ns k (eval (.Name "abs" pos) env) (I (.bS (.builtin "abs"))):=
 kC B (by kernel_rfl) (by kernel_rfl) (by decide) hk aT ag av
theorem Qj(B:bK (KK w.params) h₁)(hk:autoParam (env.scope.kind=.function) aL._auto_1)(aT:autoParam (env.globals=mainGlobals) aL._auto_1)(ag:autoParam (env.builtins=builtinsNs) aL._auto_1)(av:autoParam (env.kindOf "min"=some .globalImplicit) aL._auto_1):bj prog w h₁ own env ns k (eval (.Name "min" pos) env) (I (.bS (.builtin "min"))):=
 kC B (by kernel_rfl) (by kernel_rfl) (by decide) hk aT ag av
theorem Gm(B:bK (KK w.params) h₁)(hk:autoParam (env.scope.kind=.function) aL._auto_1)(aT:autoParam (env.globals=mainGlobals) aL._auto_1)(ag:autoParam (env.builtins=builtinsNs) aL._auto_1)(av:autoParam (env.kindOf "sum"=some .globalImplicit) aL._auto_1):bj prog w h₁ own env ns k (eval (.Name "sum" pos) env) (I (.bS (.builtin "sum"))):=
 kC B (by kernel_rfl) (by kernel_rfl) (by decide) hk aT ag av
theorem Gl(B:bK (KK w.params) h₁)(hk:autoParam (env.scope.kind=.function) aL._auto_1)(aT:autoParam (env.globals=mainGlobals) aL._auto_1)(ag:autoParam (env.builtins=builtinsNs) aL._auto_1)(av:autoParam (env.kindOf "sorted"=some .globalImplicit) aL._auto_1):bj prog w h₁ own env ns k (eval (.Name "sorted" pos) env) (I (.bS (.builtin "sorted"))):=
 kC B (by kernel_rfl) (by kernel_rfl) (by decide) hk aT ag av
theorem Gh(B:bK (KK w.params) h₁)(hk:autoParam (env.scope.kind=.function) aL._auto_1)(aT:autoParam (env.globals=mainGlobals) aL._auto_1)(ag:autoParam (env.builtins=builtinsNs) aL._auto_1)(av:autoParam (env.kindOf "int"=some .globalImplicit) aL._auto_1):bj prog w h₁ own env ns k (eval (.Name "int" pos) env) (I (.bS (.type "int"))):=
 kC B (by kernel_rfl) (by kernel_rfl) (by decide) hk aT ag av
theorem sL(B:bK (KK w.params) h₁)(hk:autoParam (env.scope.kind=.function) aL._auto_1)(aT:autoParam (env.globals=mainGlobals) aL._auto_1)(ag:autoParam (env.builtins=builtinsNs) aL._auto_1)(av:autoParam (env.kindOf "range"=some .globalImplicit) aL._auto_1):bj prog w h₁ own env ns k (eval (.Name "range" pos) env) (I (.bS (.type "range"))):=
 kC B (by kernel_rfl) (by kernel_rfl) (by decide) hk aT ag av
theorem zV(B:bK (KK w.params) h₁)(hk:autoParam (env.scope.kind=.function) aL._auto_1)(aT:autoParam (env.globals=mainGlobals) aL._auto_1)(ag:autoParam (env.builtins=builtinsNs) aL._auto_1)(av:autoParam (env.kindOf "list"=some .globalImplicit) aL._auto_1):bj prog w h₁ own env ns k (eval (.Name "list" pos) env) (I (.bS (.type "list"))):=
 kC B (by kernel_rfl) (by kernel_rfl) (by decide) hk aT ag av
theorem lp(B:bK (KK w.params) h₁)(hk:autoParam (env.scope.kind=.function) aL._auto_1)(aT:autoParam (env.globals=mainGlobals) aL._auto_1)(ag:autoParam (env.builtins=builtinsNs) aL._auto_1)(av:autoParam (env.kindOf "bytes"=some .globalImplicit) aL._auto_1):bj prog w h₁ own env ns k (eval (.Name "bytes" pos) env) (I (.bS (.type "bytes"))):=
 kC B (by kernel_rfl) (by kernel_rfl) (by decide) hk aT ag av
theorem Qf(B:bK (KK w.params) h₁)(hk:autoParam (env.scope.kind=.function) aL._auto_1)(aT:autoParam (env.globals=mainGlobals) aL._auto_1)(ag:autoParam (env.builtins=builtinsNs) aL._auto_1)(av:autoParam (env.kindOf "dict"=some .globalImplicit) aL._auto_1):bj prog w h₁ own env ns k (eval (.Name "dict" pos) env) (I (.bS (.type "dict"))):=
 kC B (by kernel_rfl) (by kernel_rfl) (by decide) hk aT ag av
theorem Qe(B:bK (KK w.params) h₁)(hk:autoParam (env.scope.kind=.function) aL._auto_1)(aT:autoParam (env.globals=mainGlobals) aL._auto_1)(ag:autoParam (env.builtins=builtinsNs) aL._auto_1)(av:autoParam (env.kindOf "bytearray"=some .globalImplicit) aL._auto_1):bj prog w h₁ own env ns k (eval (.Name "bytearray" pos) env) (I (.bS (.type "bytearray"))):=
 kC B (by kernel_rfl) (by kernel_rfl) (by decide) hk aT ag av
theorem zU(B:bK (KK w.params) h₁)(hk:autoParam (env.scope.kind=.function) aL._auto_1)(aT:autoParam (env.globals=mainGlobals) aL._auto_1)(ag:autoParam (env.builtins=builtinsNs) aL._auto_1)(av:autoParam (env.kindOf "enumerate"=some .globalImplicit) aL._auto_1):bj prog w h₁ own env ns k (eval (.Name "enumerate" pos) env) (I (.bS (.type "enumerate"))):=
 kC B (by kernel_rfl) (by kernel_rfl) (by decide) hk aT ag av
end
noncomputable def xu:cf:=aj (bQ (boolOf (af fA (C 0) (I DE))) (aj (bz (I (.str "same"))) (aD)) (aD)) (aj (bQ (boolOf (af fA (C 0) (I DF))) (aj (bz (I (.str "holder"))) (aD)) (aD)) (aj (bQ (boolOf (af fA (C 0) (I DG))) (aj (bz (I (.str "latest"))) (aD)) (aD)) (aj (bz (ez (boolOf (af fA (C 0) (I DH))) (I (.str "blocked")) (I (.str "never")))) (aD))))
noncomputable def qo:bX:=ea xu 1 0
noncomputable def xt:cf:=aj (b6 1 (af a6 (C 0) (I (.int 0)))) (aj (bQ (boolOf (af fA (C 1) (bM (aa (I (.str "max_stream_data")) (aa (I (.str "stream_data_blocked")) (aa (I (.str "stop_sending")) (aa (I (.str "reset_stream")) (ar)))))))) (aj (bz (bM (aa (C 1) (aa (af a6 (C 0) (I (.int 1))) (ar))))) (aD)) (aD)) (aj (bQ (boolOf (af fA (C 1) (bM (aa (I (.str "max_streams")) (aa (I (.str "streams_blocked")) (ar)))))) (aj (bz (bM (aa (C 1) (aa (af a6 (C 0) (I (.int 1))) (ar))))) (aD)) (aD)) (aj (bQ (boolOf (af fA (C 1) (bM (aa (I (.str "new_connection_id")) (aa (I (.str "retire_connection_id")) (ar)))))) (aj (bz (bM (aa (C 1) (aa (af a6 (C 0) (I (.int 1))) (ar))))) (aD)) (aD)) (aj (bQ (boolOf (af cm (C 1) (I (.str "new_token")))) (aj (bz (bM (aa (C 1) (aa (af a6 (C 0) (I (.int 1))) (ar))))) (aD)) (aD)) (aj (bz (bM (aa (C 1) (aa (I (.none)) (ar))))) (aD))))))
noncomputable def qn:bX:=ea xt 1 1
noncomputable def Ds:cf:=aj (gW (C 2) (C 1) (ba qn (aa (C 3) (ar)))) (aD)
noncomputable def uD:cf:=aj (b6 1 (gp (.b2 []))) (aj (mQ (C 0) (dJ [2,3]) Ds) (aj (bz (fq (tX (C 1)) (ek [none,some 0]) (c2 0) (eN) (af a6 (C 1) (C 0)))) (aD)))
noncomputable def r8:bX:=ea uD 1 3
noncomputable def Dv:cf:=aj (fx (dJ [6,7]) (bM (aa (ba qo (aa (af a6 (C 5) (I (.int 0))) (ar))) (aa (ba qn (aa (C 5) (ar))) (ar))))) (aj (bQ (cV (boolOf (af fA (C 7) (C 3))) (cV (boolOf (af cm (C 6) (I (.str "holder")))) (cV (boolOf (af cm (C 6) (I (.str "never")))) (ft)))) (aj (sr) (aD)) (aD)) (aj (bQ (boolOf (af cm (C 6) (I (.str "same")))) (aj (dM (dD dT e2 (C 4) (aa (C 5) (ar)))) (aD)) (aj (bQ (boolOf (af cm (C 6) (I (.str "latest")))) (aj (dM (dD dT e2 (C 4) (aa (af cF (iF (C 5) (I .none) (jm kg (I (.int 1)))) (bM (aa (dD tf vG (C 1) (aa (C 7) (aa (af a6 (C 5) (jm kg (I (.int 1)))) (ar)))) (ar)))) (ar)))) (aD)) (aj (bQ (boolOf (af fA (C 7) (C 2))) (aj (dM (dD dT e2 (C 4) (aa (af cF (iF (C 5) (I .none) (jm kg (I (.int 1)))) (bM (aa (af a6 (C 2) (C 7)) (ar)))) (ar)))) (aD)) (aD)) (aD))) (aD))) (aD)))
noncomputable def uN:cf:=aj (b6 4 (f' (ar))) (aj (fh (C 0) (c2 5) Dv) (aj (bz (ba r8 (aa (C 4) (ar)))) (aD)))
noncomputable def sa:bX:=ea uN 4 4
noncomputable def ux:cf:=aj (bz (fq (C 0) (ek [none]) (c2 0) (boolOf (af cm (ba qo (aa (af a6 (C 0) (I (.int 0))) (ar))) (I (.str "holder")))) (C 0))) (aD)
noncomputable def r2:bX:=ea ux 1 0
noncomputable def Du:cf:=aj (tZ (af gU (C 0) (I (.int 256))) (C 2) (C 3)) (aj (b6 0 (af sH (C 0) (I (.int 256)))) (aD))
noncomputable def uM:cf:=aj (bQ (cV (boolOf (af jg (C 0) (I (.int 0)))) (cV (boolOf (af fS (af BZ (C 0) (af kS (I (.int 8)) (C 1))) (I (.int 0)))) (ft))) (aj (ll) (aD)) (aD)) (aj (b6 2 (ba yc (aa (C 1) (ar)))) (aj (fh (ba lN (aa (af jJ (C 1) (I (.int 1))) (aa (jm kg (I (.int 1))) (aa (jm kg (I (.int 1))) (ar))))) (c2 3) Du) (aj (bz (ba vd (aa (C 2) (ar)))) (aD))))
noncomputable def qm:bX:=ea uM 2 2
noncomputable def Dw:cf:=aj (bQ (sq pS jg (I (.int 0)) (C 0) (af tV (I (.int 1)) (af jJ (af kS (I (.int 8)) (C 1)) (I (.int 2))))) (aj (bz (C 1)) (aD)) (aD)) (aD)
noncomputable def uO:cf:=aj (fh (I o5) (c2 1) Dw) (aj (ll) (aD))
noncomputable def sb:bX:=ea uO 1 1
noncomputable def uL:cf:=aj (b6 2 (ba sb (aa (C 0) (ar)))) (aj (bQ (boolOf (af iS (C 1) (I (.none)))) (aj (b6 1 (C 2)) (aD)) (aD)) (aj (bQ (cV (boolOf (af jg (C 1) (C 2))) (cV (boolOf (af oq (C 1) (I o5))) (ft))) (aj (ll) (aD)) (aD)) (aj (bz (ba qm (aa (af BD (af tV (dD tg v3 (I o5) (aa (C 1) (ar))) (af jJ (af kS (I (.int 8)) (C 1)) (I (.int 2)))) (C 0)) (aa (C 1) (ar))))) (aD))))
noncomputable def oW:bX:=ea uL 2 1
noncomputable def uI:cf:=aj (bz (dD v7 wa (I (.bytes [])) (aa (fq (C 0) (ek [none]) (c2 0) (eN) (ba oW (aa (C 0) (aa (I (.none)) (ar))))) (ar)))) (aD)
noncomputable def gO:bX:=ea uI 1 0
noncomputable def uF:cf:=aj (bz (af cF (ba oW (aa (ba e5 (aa (C 0) (ar))) (aa (I (.none)) (ar)))) (C 0))) (aD)
noncomputable def kp:bX:=ea uF 1 0
noncomputable def uK:cf:=aj (fx (dJ [2,3,4,5,6]) (C 0)) (aj (b6 7 (af cF (af cF (af cF (I xX) (ez (boolOf (C 6)) (I xM) (I (.int 0)))) (ez (boolOf (C 1)) (I (.int 0)) (I xN))) (ez (boolOf (af iR (C 4) (I (.int 0)))) (I xO) (I (.int 0))))) (aj (b6 8 (ba gO (aa (af cF (dw (aa (C 7) (aa (C 3) (ar)))) (ez (boolOf (af iR (C 4) (I (.int 0)))) (dw (aa (C 4) (ar))) (dw (ar)))) (ar)))) (aj (bz (af cF (C 8) (ez (boolOf (C 1)) (C 5) (ba kp (aa (C 5) (ar)))))) (aD))))
noncomputable def r':bX:=ea uK 2 7
noncomputable def uH:cf:=aj (fx (dJ [1,2,3,4,5]) (C 0)) (aj (bz (af cF (af cF (af cF (ba gO (aa (dw (aa (I xT) (aa (C 2) (aa (C 3) (ar))))) (ar))) (ba f9 (aa (dw (aa (ba e5 (aa (C 4) (ar))) (ar))) (ar)))) (C 4)) (C 5))) (aD))
noncomputable def r9:bX:=ea uH 1 5
noncomputable def uJ:cf:=aj (b6 1 (af a6 (C 0) (I (.int 0)))) (aj (bQ (boolOf (af cm (C 1) (I (.str "crypto")))) (aj (bz (af cF (ba gO (aa (dw (aa (I xP) (aa (af a6 (C 0) (I (.int 1))) (ar)))) (ar))) (ba kp (aa (af a6 (C 0) (I (.int 2))) (ar))))) (aD)) (aD)) (aj (bQ (boolOf (af cm (C 1) (I (.str "new_token")))) (aj (bz (af cF (ba gO (aa (dw (aa (I xU) (ar))) (ar))) (ba kp (aa (af a6 (C 0) (I (.int 1))) (ar))))) (aD)) (aD)) (aj (bQ (cV (boolOf (af cm (C 1) (I (.str "path_challenge")))) (cV (boolOf (af cm (C 1) (I (.str "path_response")))) (ft))) (aj (bz (af cF (ba gO (aa (dw (aa (ez (boolOf (af cm (C 1) (I (.str "path_challenge")))) (I xV) (I xW)) (ar))) (ar))) (af a6 (C 0) (I (.int 1))))) (aD)) (aD)) (aj (bQ (boolOf (af cm (C 1) (I (.str "max_streams")))) (aj (bz (ba gO (aa (dw (aa (ez (boolOf (af a6 (C 0) (I (.int 1)))) (I xS) (I xR)) (aa (af a6 (C 0) (I (.int 2))) (ar)))) (ar)))) (aD)) (aD)) (aj (bQ (boolOf (af cm (C 1) (I (.str "streams_blocked")))) (aj (bz (ba gO (aa (dw (aa (ez (boolOf (af a6 (C 0) (I (.int 1)))) (I xZ) (I xY)) (aa (af a6 (C 0) (I (.int 2))) (ar)))) (ar)))) (aD)) (aD)) (aj (bz (I (.none))) (aD)))))))
noncomputable def ql:bX:=ea uJ 1 1
noncomputable def uG:cf:=aj (b6 1 (af a6 (C 0) (I (.int 0)))) (aj (bQ (boolOf (af cm (C 1) (I (.str "padding")))) (aj (bz (ba f9 (aa (mP) (ar)))) (aD)) (aD)) (aj (bQ (boolOf (af fA (C 1) (I qu))) (aj (bz (ba gO (aa (af cF (dw (aa (af a6 (I qu) (C 1)) (ar))) (ba m9 (aa (iF (C 0) (I (.int 1)) (I .none)) (ar)))) (ar)))) (aD)) (aD)) (aj (bQ (boolOf (af cm (C 1) (I (.str "ack")))) (aj (bz (mP)) (aD)) (aD)) (aj (bQ (boolOf (af cm (C 1) (I (.str "stream")))) (aj (bz (ba r' (aa (C 0) (aa (I (.bool false)) (ar))))) (aD)) (aD)) (aj (bQ (boolOf (af cm (C 1) (I (.str "new_connection_id")))) (aj (bz (ba r9 (aa (C 0) (ar)))) (aD)) (aD)) (aj (bQ (boolOf (af cm (C 1) (I (.str "close")))) (aj (bz (mP)) (aD)) (aD)) (aj (b6 2 (ba ql (aa (C 0) (ar)))) (aj (bQ (boolOf (af iS (C 2) (I (.none)))) (aj (ll) (aD)) (aD)) (aj (bz (C 2)) (aD))))))))))
noncomputable def mz:bX:=ea uG 1 2
noncomputable def uw:cf:=aj (bz (ba e5 (aa (ba mz (aa (C 0) (ar))) (ar)))) (aD)
noncomputable def jo:bX:=ea uw 1 0
noncomputable def ur:cf:=aj (bz (ez (boolOf (af cm (af a6 (C 0) (I (.int 0))) (I (.str "crypto")))) (af a6 (C 0) (I (.int 2))) (af a6 (C 0) (I (.int 3))))) (aD)
noncomputable def oS:bX:=ea ur 1 0
noncomputable def uQ:cf:=aj (bQ (boolOf (af cm (af a6 (C 0) (I (.int 0))) (I (.str "crypto")))) (aj (bz (bM (aa (I (.str "crypto")) (aa (af cF (af a6 (C 0) (I (.int 1))) (C 1)) (aa (C 2) (ar)))))) (aD)) (aD)) (aj (bz (bM (aa (I (.str "stream")) (aa (af a6 (C 0) (I (.int 1))) (aa (af cF (af a6 (C 0) (I (.int 2))) (C 1)) (aa (C 2) (aa (C 3) (ar)))))))) (aD))
noncomputable def iK:bX:=ea uQ 4 0
noncomputable def Dk:cf:=aj (o6 3 jJ (I (.int 1))) (aD)
noncomputable def uu:cf:=aj (b6 2 (ba oS (aa (C 0) (ar)))) (aj (bQ (boolOf (af iR (ba jo (aa (ba iK (aa (C 0) (aa (I (.int 0)) (aa (I (.bytes [])) (aa (I (.bool false)) (ar)))))) (ar))) (C 1))) (aj (bz (jm kg (I (.int 1)))) (aD)) (aD)) (aj (b6 3 (ba Bh (aa (ba e5 (aa (C 2) (ar))) (aa (af jJ (C 1) (ba jo (aa (ba iK (aa (C 0) (aa (I (.int 0)) (aa (I (.bytes [])) (aa (I (.bool false)) (ar)))))) (ar)))) (ar))))) (aj (oG (boolOf (af iR (ba jo (aa (ba iK (aa (C 0) (aa (I (.int 0)) (aa (iF (C 2) (I .none) (C 3)) (aa (I (.bool false)) (ar)))))) (ar))) (C 1))) Dk) (aj (bz (C 3)) (aD)))))
noncomputable def r1:bX:=ea uu 2 2
noncomputable def uq:cf:=aj (bQ (boolOf (af pS (ba jo (aa (C 0) (ar))) (C 1))) (aj (bz (bM (aa (C 0) (aa (I (.none)) (ar))))) (aD)) (aD)) (aj (bQ (boolOf (af oq (af a6 (C 0) (I (.int 0))) (I xQ))) (aj (bz (bM (aa (I (.none)) (aa (C 0) (ar))))) (aD)) (aD)) (aj (fx (dJ [2,3]) (bM (aa (ba r1 (aa (C 0) (aa (C 1) (ar)))) (aa (ba oS (aa (C 0) (ar))) (ar))))) (aj (bQ (cV (boolOf (af jg (C 2) (I (.int 1)))) (cV (boolOf (af zZ (C 2) (ba e5 (aa (C 3) (ar))))) (ft))) (aj (bz (bM (aa (I (.none)) (aa (C 0) (ar))))) (aD)) (aD)) (aj (b6 4 (lY (af cm (af a6 (C 0) (I (.int 0))) (I (.str "stream"))) (af a6 (C 0) (I (.int 4))))) (aj (bz (bM (aa (ba iK (aa (C 0) (aa (I (.int 0)) (aa (iF (C 3) (I .none) (C 2)) (aa (I (.bool false)) (ar)))))) (aa (ba iK (aa (C 0) (aa (C 2) (aa (iF (C 3) (C 2) (I .none)) (aa (C 4) (ar)))))) (ar))))) (aD))))))
noncomputable def r0:bX:=ea uq 2 3
noncomputable def Dl:cf:=aj (fx (dJ [5,6]) (ba r0 (aa (C 4) (aa (C 1) (ar))))) (aj (bQ (boolOf (af kM (C 5) (I (.none)))) (aj (dM (dD dT e2 (C 2) (aa (C 5) (ar)))) (aj (o6 1 jJ (ba jo (aa (C 5) (ar)))) (aD))) (aD)) (aj (bQ (boolOf (af kM (C 6) (I (.none)))) (aj (dM (dD dT e2 (C 3) (aa (C 6) (ar)))) (aD)) (aD)) (aD)))
noncomputable def uv:cf:=aj (fx (dJ [2,3]) (bM (aa (f' (ar)) (aa (f' (ar)) (ar))))) (aj (fh (C 0) (c2 4) Dl) (aj (bz (bM (aa (C 2) (aa (C 3) (ar))))) (aD)))
noncomputable def oT:bX:=ea uv 2 5
noncomputable def Dm:cf:=aj (fx (dJ [4,5]) (ba oT (aa (C 3) (aa (C 1) (ar))))) (aj (bQ (boolOf (af cm (ba e5 (aa (C 4) (ar))) (I (.int 0)))) (aj (bz (I (.none))) (aD)) (aD)) (aj (dM (dD dT e2 (C 2) (aa (C 4) (ar)))) (aj (b6 3 (C 5)) (aD))))
noncomputable def uy:cf:=aj (fx (dJ [2,3]) (bM (aa (f' (ar)) (aa (ba m9 (aa (C 0) (ar))) (ar))))) (aj (oG (boolOf (af iR (ba e5 (aa (C 3) (ar))) (I (.int 0)))) Dm) (aj (bz (C 2)) (aD)))
noncomputable def r3:bX:=ea uy 2 4
noncomputable def xr:cf:=aj (bz (dD tg v3 (I i4) (aa (C 0) (ar)))) (aD)
noncomputable def r4:bX:=ea xr 1 0
noncomputable def Dt:cf:=aj (b6 3 (dD pO n4 (C 0) (aa (C 2) (ar)))) (aj (bQ (ff (boolOf (af kM (C 3) (I (.none)))) (ff (cV (boolOf (af iS (C 1) (I (.none)))) (cV (boolOf (af jg (C 3) (af a6 (C 1) (I (.int 0))))) (ft))) (eN))) (aj (b6 1 (bM (aa (C 3) (aa (C 2) (ar))))) (aD)) (aD)) (aD))
noncomputable def uE:cf:=aj (b6 1 (I (.none))) (aj (fh (I i4) (c2 2) Dt) (aj (bz (C 1)) (aD)))
noncomputable def oV:bX:=ea uE 1 3
noncomputable def Dj:cf:=aj (b6 4 (dD pO n4 (C 0) (aa (C 3) (ar)))) (aj (bQ (ff (boolOf (af kM (C 4) (I (.none)))) (ff (boolOf (af pS (C 4) (C 1))) (eN))) (aj (dM (dD dT e2 (C 2) (aa (bM (aa (C 4) (aa (ba r4 (aa (C 3) (ar))) (ar)))) (ar)))) (aD)) (aD)) (aD))
noncomputable def uo:cf:=aj (b6 2 (f' (ar))) (aj (fh (I i4) (c2 3) Dj) (aj (bz (fq (ba w7 (aa (C 2) (ar))) (ek [none,none]) (dJ [0,1]) (eN) (af a6 (I i4) (C 1)))) (aD)))
noncomputable def rZ:bX:=ea uo 2 3
noncomputable def uP:cf:=aj (b6 3 (ba vl (aa (nV (C 0) (ek [none,some 0,some 1]) (c2 0) (boolOf (af fS (C 0) (C 2))) (bM (aa (C 0) (aa (af a6 (C 1) (C 0)) (ar))))) ar))) (aj (bQ (boolOf (af kM (C 2) (I (.none)))) (aj (gW (C 2) (C 3) (C 1)) (aD)) (aD)) (aj (bz (C 3)) (aD)))
noncomputable def sd:bX:=ea uP 3 1
noncomputable def uA:cf:=aj (tU (ba sd (aa (j1 (C 0)) (aa (C 1) (aa (C 2) (ar))))) (C 0)) (aD)
noncomputable def oU:bX:=ea uA 3 0
noncomputable def uC:cf:=aj (bz (dD pO n4 (j1 (C 0)) (aa (C 1) (ar)))) (aD)
noncomputable def r7:bX:=ea uC 2 0
noncomputable def uz:cf:=aj (b6 1 (ba oV (aa (j1 (C 0)) (ar)))) (aj (bz (ez (boolOf (af iS (C 1) (I (.none)))) (I (.none)) (af a6 (C 1) (I (.int 0))))) (aD))
noncomputable def r5:bX:=ea uz 1 1
noncomputable def Dr:cf:=aj (dM (ke oU (C 0) (aa (C 3) (aa (I (.none)) (ar))))) (aD)
noncomputable def uB:cf:=aj (b6 2 (ba rZ (aa (j1 (C 0)) (aa (C 1) (ar))))) (aj (fh (C 2) (c2 3) Dr) (aj (bz (C 2)) (aD)))
noncomputable def r6:bX:=ea uB 2 2
noncomputable def uj:cf:=aj (b6 2 (af a6 (C 0) (I (.int 1)))) (aj (b6 3 (ez (boolOf (af fS (C 2) (dw (ar)))) (ba u4 (aa (af a6 (C 2) (af gU (af a6 (C 0) (I (.int 2))) (ba e5 (aa (C 2) (ar))))) (ar))) (I (.int 47)))) (aj (gW (af cF (af a6 (C 0) (I (.int 2))) (I (.int 1))) (C 0) (I (.int 2))) (aj (gW (af gU (af cF (af cF (af kS (af a6 (C 0) (I (.int 0))) (I (.int 48271))) (af gU (C 3) (I (.int 1000003)))) (I (.int 59))) (I (.int 2147483647))) (C 0) (I (.int 0))) (aj (bz (af gU (af sH (af a6 (C 0) (I (.int 0))) (I (.int 13))) (C 1))) (aD)))))
noncomputable def gy:bX:=ea uj 2 2
noncomputable def Df:cf:=aj (b6 3 (af cF (I (.int 1)) (ba gy (aa (C 0) (aa (I (.int 30)) (ar)))))) (aj (dM (dD dT e2 (C 1) (aa (bM (aa (I (.str "stream")) (aa (af kS (I (.int 4)) (C 2)) (aa (I (.int 0)) (aa (ba f9 (aa (fq (ba lN (aa (C 3) (ar))) (ek [none,some 2]) (c2 0) (eN) (af gU (af cF (C 1) (C 0)) (I (.int 256)))) (ar))) (aa (I (.bool true)) (ar))))))) (ar)))) (aD))
noncomputable def rT:cf:=aj (b6 1 (f' (aa (bM (aa (I (.str "max_data")) (aa (I (.int 10)) (ar)))) (aa (bM (aa (I (.str "max_data")) (aa (I (.int 20)) (ar)))) (aa (bM (aa (I (.str "stop_sending")) (aa (I (.int 4)) (aa (I (.int 7)) (ar))))) (aa (bM (aa (I (.str "path_challenge")) (aa (I (.bytes mG)) (ar)))) (ar))))))) (aj (dM (dD dT e2 (C 1) (aa (bM (aa (I (.str "data_blocked")) (aa (I (.int 9)) (ar)))) (ar)))) (aj (dM (dD dT e2 (C 1) (aa (bM (aa (I (.str "new_connection_id")) (aa (af cF (I (.int 1)) (ba gy (aa (C 0) (aa (I (.int 3)) (ar))))) (aa (I (.int 0)) (aa (ba f9 (aa (I (.int 8)) (ar))) (aa (ba f9 (aa (I (.int 16)) (ar))) (ar))))))) (ar)))) (aj (fh (ba lN (aa (af cF (I (.int 1)) (ba gy (aa (C 0) (aa (I (.int 2)) (ar))))) (ar))) (c2 2) Df) (aj (dM (dD dT e2 (C 1) (aa (bM (aa (I (.str "crypto")) (aa (I (.int 0)) (aa (ba f9 (aa (fq (ba lN (aa (af cF (I (.int 1)) (ba gy (aa (C 0) (aa (I (.int 20)) (ar))))) (ar))) (ek [none]) (c2 0) (eN) (af gU (af cF (I (.int 90)) (C 0)) (I (.int 256)))) (ar))) (ar))))) (ar)))) (aj (bz (C 1)) (aD))))))
noncomputable def rX:bX:=ea rT 1 3
noncomputable def Dd:cf:=aj (gW (C 7) (af a6 (C 0) (I (.str "octets"))) (bM (aa (C 3) (aa (af cF (C 4) (C 6)) (ar))))) (aD)
noncomputable def De:cf:=aj (bQ (boolOf (af fA (af a6 (C 2) (I (.int 0))) (bM (aa (I (.str "stream")) (aa (I (.str "crypto")) (ar)))))) (aj (fx (dJ [3,4,5]) (ez (boolOf (af cm (af a6 (C 2) (I (.int 0))) (I (.str "stream")))) (bM (aa (af a6 (C 2) (I (.int 1))) (aa (af a6 (C 2) (I (.int 2))) (aa (af a6 (C 2) (I (.int 3))) (ar))))) (bM (aa (I (.str "crypto")) (aa (af a6 (C 2) (I (.int 1))) (aa (af a6 (C 2) (I (.int 2))) (ar))))))) (aj (mQ (C 5) (dJ [6,7]) Dd) (aj (bQ (ff (boolOf (af cm (af a6 (C 2) (I (.int 0))) (I (.str "stream")))) (ff (boolOf (af a6 (C 2) (I (.int 4)))) (eN))) (aj (gW (af cF (C 4) (ba e5 (aa (C 5) (ar)))) (af a6 (C 0) (I (.str "ends"))) (C 3)) (aD)) (aD)) (aD)))) (aj (dM (dD dT e2 (af a6 (C 0) (I (.str "came"))) (aa (C 2) (ar)))) (aD))) (aD)
noncomputable def ui:cf:=aj (fh (C 1) (c2 2) De) (aD)
noncomputable def k7:bX:=ea ui 2 6
noncomputable def Dh:cf:=aj (gW (C 8) (C 2) (bM (aa (C 5) (aa (C 7) (ar))))) (aD)
noncomputable def Di:cf:=aj (bQ (boolOf (af fA (af a6 (C 4) (I (.int 0))) (bM (aa (I (.str "stream")) (aa (I (.str "crypto")) (ar)))))) (aj (fx (dJ [5,6]) (ez (boolOf (af cm (af a6 (C 4) (I (.int 0))) (I (.str "stream")))) (bM (aa (af a6 (C 4) (I (.int 1))) (aa (af a6 (C 4) (I (.int 3))) (ar)))) (bM (aa (I (.str "crypto")) (aa (af a6 (C 4) (I (.int 2))) (ar)))))) (aj (mQ (C 6) (dJ [7,8]) Dh) (aj (bQ (boolOf (af cm (af a6 (C 4) (I (.int 0))) (I (.str "stream")))) (aj (gW (ba e5 (aa (C 6) (ar))) (C 3) (C 5)) (aD)) (aD)) (aD)))) (aD)) (aD)
noncomputable def um:cf:=aj (fx (dJ [2,3]) (bM (aa (gp (.b2 [])) (aa (gp (.cb [])) (ar))))) (aj (fh (C 1) (c2 4) Di) (aj (bz (lY (af cm (af a6 (C 0) (I (.str "octets"))) (C 2)) (af cm (af a6 (C 0) (I (.str "ends"))) (C 3)))) (aD)))
noncomputable def rY:bX:=ea um 2 7
noncomputable def Dg:cf:=aj (bQ (cV (boolOf (af cm (C 6) (dw (ar)))) (cV (boolOf (af iR (ba p' (aa (fq (C 6) (ek [none]) (c2 0) (eN) (ba e5 (aa (ba mz (aa (C 0) (ar))) (ar)))) (ar))) (C 3))) (ft))) (aj (bz (I (.bool false))) (aD)) (aD)) (aj (b6 7 (af a6 (dw (aa (I (.str "loss")) (aa (I (.str "probe")) (aa (I (.str "ack")) (aa (I (.str "path")) (aa (I (.str "idle")) (aa (I (.str "closed")) (ar)))))))) (af gU (ba e5 (aa (af a6 (C 1) (I (.str "flying"))) (ar))) (I (.int 6))))) (aj (bQ (boolOf (af iS (ke r7 (af a6 (C 1) (I (.str "alarms"))) (aa (C 7) (ar))) (I (.none)))) (aj (dM (ke oU (af a6 (C 1) (I (.str "alarms"))) (aa (C 7) (aa (af cF (af cF (C 4) (I (.int 5))) (ba gy (aa (C 0) (aa (I (.int 30)) (ar))))) (ar))))) (aj (dM (dD dT e2 (af a6 (C 1) (I (.str "flying"))) (aa (bM (aa (C 7) (aa (C 6) (ar)))) (ar)))) (aD))) (aj (dM (ba k7 (aa (C 1) (aa (C 6) (ar))))) (aD))) (aj (dM (dD dT mN (af a6 (C 1) (I (.str "told"))) (aa (C 6) (ar)))) (aD))))
noncomputable def uk:cf:=aj (b6 5 (ba r3 (aa (C 2) (aa (C 3) (ar))))) (aj (bQ (boolOf (af iS (C 5) (I (.none)))) (aj (bz (I (.bool false))) (aD)) (aD)) (aj (fh (C 5) (c2 6) Dg) (aj (bz (I (.bool true))) (aD))))
noncomputable def oR:bX:=ea uk 5 3
noncomputable def Dn:cf:=aj (b6 14 (af a6 (fq (af a6 (C 7) (I (.str "flying"))) (ek [none,some 13]) (c2 0) (boolOf (af cm (af a6 (C 0) (I (.int 0))) (C 1))) (af a6 (C 0) (I (.int 1)))) (I (.int 0)))) (aj (gW (nV (af a6 (C 7) (I (.str "flying"))) (ek [none,some 13]) (c2 0) (boolOf (af fS (af a6 (C 0) (I (.int 0))) (C 1))) (C 0)) (C 7) (I (.str "flying"))) (aj (bQ (cV (ff (boolOf (af jg (C 9) (I (.int 4)))) (ff (boolOf (af iR (ba gy (aa (C 1) (aa (I (.int 3)) (ar)))) (I (.int 0)))) (eN))) (cV (boolOf (af cm (C 9) (I (.int 0)))) (ft))) (aj (dM (dD dT mN (C 12) (aa (C 14) (ar)))) (aD)) (aj (dM (ba k7 (aa (C 7) (aa (C 14) (ar))))) (aD))) (aD)))
noncomputable def Dp:cf:=aj (b6 10 (ba oV (aa (j1 (af a6 (C 7) (I (.str "alarms")))) (ar)))) (aj (bQ (boolOf (af iS (C 10) (I (.none)))) (aj (so) (aD)) (aD)) (aj (bQ (cV (boolOf (af jg (af a6 (C 10) (I (.int 0))) (C 4))) (cV (boolOf (af fS (af a6 (C 10) (I (.int 0))) (ke r5 (af a6 (C 7) (I (.str "alarms"))) (ar)))) (ft))) (aj (bz (I (.bool false))) (aD)) (aD)) (aj (b6 4 (af a6 (C 10) (I (.int 0)))) (aj (b6 11 (ke r6 (af a6 (C 7) (I (.str "alarms"))) (aa (C 4) (ar)))) (aj (bQ (cV (boolOf (af cm (C 11) (dw (ar)))) (cV (boolOf (af fS (af a6 (C 11) (I (.int 0))) (af a6 (C 10) (I (.int 1))))) (ft))) (aj (bz (I (.bool false))) (aD)) (aD)) (aj (b6 12 (f' (ar))) (aj (fh (C 11) (c2 13) Dn) (aj (b6 8 (af cF (ba sa (aa (C 12) (aa (kB (.b2 []) (gA (bM (aa (I (.str "max_data")) (aa (I (.none)) (ar)))) (I (.int 33)) (kh))) (aa (C 6) (aa (C 5) (ar)))))) (ba r2 (aa (C 12) (ar))))) (aj (bQ (cV (boolOf (af oq (fq (C 8) (ek [none]) (c2 0) (boolOf (af cm (af a6 (C 0) (I (.int 0))) (I (.str "max_data")))) (C 0)) (bM (aa (dw (ar)) (aa (dw (aa (bM (aa (I (.str "max_data")) (aa (I (.int 33)) (ar)))) (ar))) (ar)))))) (cV (boolOf (af fA (bM (aa (I (.str "path_challenge")) (aa (I (.bytes mG)) (ar)))) (C 8))) (ft))) (aj (bz (I (.bool false))) (aD)) (aD)) (aj (bQ (cV (ff (boolOf (af fA (bM (aa (I (.str "data_blocked")) (aa (I (.int 9)) (ar)))) (C 8))) (ff (boolOf (af cm (C 6) (gp (.b2 [])))) (eN))) (cV (ff (boolOf (af fA (bM (aa (I (.str "stop_sending")) (aa (I (.int 4)) (aa (I (.int 7)) (ar))))) (C 8))) (ff (boolOf (af fS (C 5) (gp (.b2 [])))) (eN))) (ft))) (aj (bz (I (.bool false))) (aD)) (aD)) (aj (bQ (nh (boolOf (ba oR (aa (C 1) (aa (C 7) (aa (C 8) (aa (C 3) (aa (C 4) (ar))))))))) (aj (bz (I (.bool false))) (aD)) (aD)) (aD))))))))))))
noncomputable def Dq:cf:=aj (dM (ba k7 (aa (C 7) (aa (C 14) (ar))))) (aD)
noncomputable def rU:cf:=aj (b6 0 (fq (iF (C 0) (I .none) (I (.int 24))) (ek [none]) (c2 0) (eN) (ba AM (aa (C 0) (ar))))) (aj (b6 1 (f' (aa (af gU (ba p' (aa (C 0) (ar))) (I (.int 2147483647))) (aa (C 0) (aa (I (.int 0)) (ar)))))) (aj (fx (dJ [2,3,4]) (bM (aa (ba rX (aa (C 1) (ar))) (aa (af cF (I (.int 32)) (ba gy (aa (C 1) (aa (I (.int 20)) (ar))))) (aa (I (.int 0)) (ar)))))) (aj (b6 5 (ez (boolOf (af cm (ba gy (aa (C 1) (aa (I (.int 2)) (ar)))) (I (.int 0)))) (kB (.b2 []) (gA (bM (aa (I (.str "stop_sending")) (aa (I (.int 4)) (ar)))) (I (.bool true)) (kh))) (gp (.b2 [])))) (aj (b6 6 (ez (boolOf (af cm (ba gy (aa (C 1) (aa (I (.int 2)) (ar)))) (I (.int 0)))) (kB (.b2 []) (gA (bM (aa (I (.str "data_blocked")) (aa (I (.none)) (ar)))) (I (.int 9)) (kh))) (gp (.b2 [])))) (aj (b6 7 (kB (.cb []) (gA (I (.str "flying")) (f' (ar)) (gA (I (.str "came")) (f' (ar)) (gA (I (.str "told")) (f' (ar)) (gA (I (.str "octets")) (gp (.b2 [])) (gA (I (.str "ends")) (gp (.cb [])) (gA (I (.str "alarms")) (tA) (kh))))))))) (aj (bQ (nh (boolOf (ba oR (aa (C 1) (aa (C 7) (aa (C 2) (aa (C 3) (aa (C 4) (ar))))))))) (aj (bz (I (.bool false))) (aD)) (aD)) (aj (b6 8 (dw (ar))) (aj (fh (ba lN (aa (I (.int 12)) (ar))) (c2 9) Dp) (aj (fh (af a6 (C 7) (I (.str "flying"))) (dJ [13,14]) Dq) (aj (fx (dJ [15,16]) (ba oT (aa (dw (aa (bM (aa (I (.str "crypto")) (aa (I (.int 0)) (aa (ba f9 (aa (I (.int 9)) (ar))) (ar))))) (aa (bM (aa (I (.str "ping")) (ar))) (ar)))) (aa (I (.int 8)) (ar))))) (aj (bQ (cV (nh (boolOf (ba rY (aa (C 7) (aa (C 2) (ar)))))) (cV (boolOf (af fS (C 15) (dw (aa (bM (aa (I (.str "crypto")) (aa (I (.int 0)) (aa (ba f9 (aa (I (.int 5)) (ar))) (ar))))) (ar))))) (cV (boolOf (af fS (C 16) (dw (aa (bM (aa (I (.str "crypto")) (aa (I (.int 5)) (aa (ba f9 (aa (I (.int 4)) (ar))) (ar))))) (aa (bM (aa (I (.str "ping")) (ar))) (ar)))))) (ft)))) (aj (bz (I (.bool false))) (aD)) (aD)) (aj (bQ (boolOf (af fS (dD dT vi (af a6 (C 7) (I (.str "told"))) (aa (bM (aa (I (.str "path_challenge")) (aa (I (.bytes mG)) (ar)))) (ar))) (I (.int 1)))) (aj (bz (I (.bool false))) (aD)) (aD)) (aj (b6 17 (fq (C 2) (ek [none]) (c2 0) (boolOf (af cm (af a6 (C 0) (I (.int 0))) (I (.str "new_connection_id")))) (C 0))) (aj (bz (lY (af fA (af a6 (C 17) (I (.int 0))) (af a6 (C 7) (I (.str "came")))) (af fS (fq (af a6 (C 7) (I (.str "came"))) (ek [none]) (c2 0) (boolOf (af cm (af a6 (C 0) (I (.int 0))) (I (.str "max_data")))) (C 0)) (dw (ar))))) (aD)))))))))))))))
noncomputable def uT:bX:=ea rU 1 17
section
variable{prog:Program}{w:World}{h₁:Heap}{k:Nat}
theorem zd(B:bK (KK w.params) h₁):OpOk prog w h₁ (k+1) (λvs=>call (.ref 25) vs) qo:=by
 have ag:∀aU,SOk prog w h₁ (callEnv zx aU 25) ["kind"] (k+0) (execs yx (callEnv zx aU 25)) xu:=by
  intro aU
  unfold xu yx pick
  refine aR ?_ ?_
  .refine c9 (b0 (au (by rfl)) (PS B) iU) ?_ ?_
   .refine aR ?_ ?_
    .exact cL (bN)
    exact bf
   .exact bf
  refine aR ?_ ?_
  .refine c9 (b0 (au (by rfl)) (PX B) iU) ?_ ?_
   .refine aR ?_ ?_
    .exact cL (bN)
    exact bf
   .exact bf
  refine aR ?_ ?_
  .refine c9 (b0 (au (by rfl)) (P0 B) iU) ?_ ?_
   .refine aR ?_ ?_
    .exact cL (bN)
    exact bf
   .exact bf
  refine aR ?_ ?_
  .exact cL (hZ (b0 (au (by rfl)) (Qa B) iU) (bN) (bN))
  exact bf
 exact fg (xs:=["kind"]) (m:=0) B (B.X _ _ (wu w.params)) rfl (codeRec_of B.X (by kernel_rfl)) rfl (ip λ_=>rfl) rfl ⟨_,rfl⟩ (by decide) (by decide) (by decide) ag
theorem zc(B:bK (KK w.params) h₁):OpOk prog w h₁ (k+1) (λvs=>call (.ref 32) vs) qn:=by
 have ag:∀aU,SOk prog w h₁ (callEnv zF aU 32) ["frame","kind"] (k+0) (execs yF (callEnv zF aU 32)) xt:=by
  intro aU
  unfold xt yF pick
  refine aR ?_ ?_
  .exact dQ (bU (au (by rfl)) (a9)) (by rfl) (by decide) (.inl rfl)
  refine aR ?_ ?_
  .refine c9 (b0 (au (by rfl)) (cJ (ax (bN) (ax (bN) (ax (bN) (ax (bN) (aN)))))) iU) ?_ ?_
   .refine aR ?_ ?_
    .exact cL (cJ (ax (au (by rfl)) (ax (bU (au (by rfl)) (a9)) (aN))))
    exact bf
   .exact bf
  refine aR ?_ ?_
  .refine c9 (b0 (au (by rfl)) (cJ (ax (bN) (ax (bN) (aN)))) iU) ?_ ?_
   .refine aR ?_ ?_
    .exact cL (cJ (ax (au (by rfl)) (ax (bU (au (by rfl)) (a9)) (aN))))
    exact bf
   .exact bf
  refine aR ?_ ?_
  .refine c9 (b0 (au (by rfl)) (cJ (ax (bN) (ax (bN) (aN)))) iU) ?_ ?_
   .refine aR ?_ ?_
    .exact cL (cJ (ax (au (by rfl)) (ax (bU (au (by rfl)) (a9)) (aN))))
    exact bf
   .exact bf
  refine aR ?_ ?_
  .refine c9 (b0 (au (by rfl)) (bN) dZ) ?_ ?_
   .refine aR ?_ ?_
    .exact cL (cJ (ax (au (by rfl)) (ax (bU (au (by rfl)) (a9)) (aN))))
    exact bf
   .exact bf
  refine aR ?_ ?_
  .exact cL (cJ (ax (au (by rfl)) (ax (gb) (aN))))
  exact bf
 exact fg (xs:=["frame"]) (m:=1) B (B.X _ _ (wy w.params)) rfl (codeRec_of B.X (by kernel_rfl)) rfl (ip λ_=>rfl) rfl ⟨_,rfl⟩ (by decide) (by decide) (by decide) ag
theorem Pe(B:bK (KK w.params) h₁):OpOk prog w h₁ (k+2) (λvs=>call (.ref 49) vs) r2:=by
 have ag:∀aU,SOk prog w h₁ (callEnv zI aU 49) ["lost"] (k+1) (execs yI (callEnv zI aU 49)) ux:=by
  intro aU
  unfold ux yI pick
  refine aR ?_ ?_
  .exact cL (kD (ns':=["frame"]) (au (by rfl)) (by first|rfl|kernel_rfl) (λ_=>iN) (by decide) (by rfl) (by decide) (λ_=>fK (by rfl) (by decide) (.inl rfl)) (λ_=>nP (b0 (cC (B.X _ _ (wu w.params)) rfl (zY B) (ax (bU (au (by rfl)) (a9)) (aN)) (zd (k:=k+0) B)) (bN) dZ)) (λ_=>au (by rfl)))
  exact bf
 exact fg (xs:=["lost"]) (m:=0) B (B.X _ _ (HL w.params)) rfl (codeRec_of B.X (by kernel_rfl)) rfl (ip λ_=>rfl) rfl ⟨_,rfl⟩ (by decide) (by decide) (by decide) ag
end
section
variable{prog:Program}{w:World}{h₁:Heap}{k:Nat}
theorem Pm(B:bK (KK w.params) h₁):OpOk prog w h₁ (k+2) (λvs=>call (.ref 37) vs) r8:=by
 have ag:∀aU,SOk prog w h₁ (callEnvC zG aU 37) ["frames","last","place","frame"] (k+1) (execs yG (callEnvC zG aU 37)) uD:=by
  intro aU
  unfold uD yG pick
  refine aR ?_ ?_
  .exact dQ (lk (.t)) (by rfl) (by decide) (.inl rfl)
  refine aR ?_ ?_
  .refine BU (zU B) (au (by rfl)) (ij (.cons (by rfl) (.inl rfl) (.cons (by rfl) (.inl rfl) (.nil))) (by decide)) ?_
   .unfold Ds
    refine aR ?_ ?_
    .exact ny (au (by rfl)) (au (by rfl)) (cC (B.X _ _ (wy w.params)) rfl (zX B) (ax (au (by rfl)) (aN)) (zc (k:=k+0) B))
    exact bf
  refine aR ?_ ?_
  .exact cL (kD (ns':=["place","frames"]) (OY (Gl B) (au (by rfl))) (by first|rfl|kernel_rfl) (λ_=>iN) (by decide) (by rfl) (by decide) (λ_=>fK (by rfl) (by decide) (.inl rfl)) (λ_=>nO) (λ_=>bU (au (by rfl)) (au (by rfl))))
  exact bf
 exact vu (xs:=["frames"]) (m:=3) B (B.X _ _ (HJ w.params)) rfl (codeRec_of B.X (by kernel_rfl)) rfl (ip λ_=>rfl) rfl ⟨_,rfl⟩ (by decide) (by decide) ag
theorem Pr(B:bK (KK w.params) h₁):OpOk prog w h₁ (k+3) (λvs=>call (.ref 44) vs) sa:=by
 have ag:∀aU,SOk prog w h₁ (callEnv zH aU 44) ["lost","limits","blocked","done","found","frame","way","subject"] (k+2) (execs yH (callEnv zH aU 44)) uN:=by
  intro aU
  unfold uN yH pick
  refine aR ?_ ?_
  .exact dQ (js (aN)) (by rfl) (by decide) (.inl rfl)
  refine aR ?_ ?_
  .refine jH (au (by rfl)) (fK (by rfl) (by decide) (.inl rfl)) ?_
   .unfold Dv
    refine aR ?_ ?_
    .first
      |exact km (cJ (ax (cC (B.X _ _ (wu w.params)) rfl (zY B) (ax (bU (au (by rfl)) (a9)) (aN)) (zd (k:=k+1) B)) (ax (cC (B.X _ _ (wy w.params)) rfl (zX B) (ax (au (by rfl)) (aN)) (zc (k:=k+1) B)) (aN)))) (ij (.cons (by rfl) (.inl rfl) (.cons (by rfl) (.inl rfl) (.nil))) (by decide))
      |exact kl (xs:=["way","subject"]) (cJ (ax (cC (B.X _ _ (wu w.params)) rfl (zY B) (ax (bU (au (by rfl)) (a9)) (aN)) (zd (k:=k+1) B)) (ax (cC (B.X _ _ (wy w.params)) rfl (zX B) (ax (au (by rfl)) (aN)) (zc (k:=k+1) B)) (aN)))) (by rfl) (by repeat (first|exact List.forall_mem_nil _|refine List.forall_mem_cons.mpr ⟨.inl rfl,?_⟩|refine List.forall_mem_cons.mpr ⟨.inr ⟨rfl,rfl,rfl⟩,?_⟩)) (by decide) (by decide)
    refine aR ?_ ?_
    .refine c9 (hJ (fG (b0 (au (by rfl)) (au (by rfl)) iU) (fG (b0 (au (by rfl)) (bN) dZ) (fG (b0 (au (by rfl)) (bN) dZ) (j2))))) ?_ ?_
     .refine aR ?_ ?_
      .exact YL
      exact bf
     .exact bf
    refine aR ?_ ?_
    .refine c9 (b0 (au (by rfl)) (bN) dZ) ?_ ?_
     .refine aR ?_ ?_
      .exact hD (gE PySem.F.plainAttrs_list PySem.F.slot_list_append PySem.F.type_list_append iX (au (by rfl)) (ax (au (by rfl)) (aN)) ki)
      exact bf
     .refine aR ?_ ?_
      .refine c9 (b0 (au (by rfl)) (bN) dZ) ?_ ?_
       .refine aR ?_ ?_
        .exact hD (gE PySem.F.plainAttrs_list PySem.F.slot_list_append PySem.F.type_list_append iX (au (by rfl)) (ax (c3 (nZ (au (by rfl)) (ov) (ow (qL (a9) ro))) (cJ (ax (gE PySem.F.plainAttrs_dict PySem.F.slot_dict_get PySem.F.type_dict_get Z3 (au (by rfl)) (ax (au (by rfl)) (ax (bU (au (by rfl)) (qL (a9) ro)) (aN))) T1) (aN))) eX) (aN)) ki)
        exact bf
       .refine aR ?_ ?_
        .refine c9 (b0 (au (by rfl)) (au (by rfl)) iU) ?_ ?_
         .refine aR ?_ ?_
          .exact hD (gE PySem.F.plainAttrs_list PySem.F.slot_list_append PySem.F.type_list_append iX (au (by rfl)) (ax (c3 (nZ (au (by rfl)) (ov) (ow (qL (a9) ro))) (cJ (ax (bU (au (by rfl)) (au (by rfl))) (aN))) eX) (aN)) ki)
          exact bf
         .exact bf
        exact bf
      exact bf
    exact bf
  refine aR ?_ ?_
  .exact cL (cC (B.X _ _ (HJ w.params)) rfl (Qk B) (ax (au (by rfl)) (aN)) (Pm (k:=k+0) B))
  exact bf
 exact fg (xs:=["lost","limits","blocked","done"]) (m:=4) B (B.X _ _ (HK w.params)) rfl (codeRec_of B.X (by kernel_rfl)) rfl (DW λ_ _ _ _=>rfl) rfl ⟨_,rfl⟩ (by decide) (by decide) (by decide) ag
end
section
variable{prog:Program}{w:World}{h₁:Heap}{k:Nat}
theorem Pq(B:bK (KK w.params) h₁):OpOk prog w h₁ (k+1) (λvs=>call (.ref 77) vs) qm:=by
 have ag:∀aU,SOk prog w h₁ (callEnv zJ aU 77) ["n","size","found","place"] (k+0) (execs yJ (callEnv zJ aU 77)) uM:=by
  intro aU
  unfold uM yJ pick
  refine aR ?_ ?_
  .refine c9 (hJ (fG (b0 (au (by rfl)) (a9) p5) (fG (b0 (c3 (au (by rfl)) (c3 (a9) (au (by rfl)) tG) T6) (a9) lL) (j2)))) ?_ ?_
   .refine aR ?_ ?_
    .exact w4
    exact bf
   .exact bf
  refine aR ?_ ?_
  .exact dQ (gC (Qe B) (ax (au (by rfl)) (aN)) TU) (by rfl) (by decide) (.inl rfl)
  refine aR ?_ ?_
  .refine jH (gC (sL B) (ax (c3 (au (by rfl)) (a9) wL) (ax (qL (a9) ro) (ax (qL (a9) ro) (aN)))) tH) (fK (by rfl) (by decide) (.inl rfl)) ?_
   .unfold Du
    refine aR ?_ ?_
    .exact YN (c3 (au (by rfl)) (a9) ni) (au (by rfl)) (au (by rfl))
    refine aR ?_ ?_
    .exact dQ (c3 (au (by rfl)) (a9) Ip) (by rfl) (by decide) (.inl rfl)
    exact bf
  refine aR ?_ ?_
  .exact cL (gC (lp B) (ax (au (by rfl)) (aN)) TV)
  exact bf
 exact fg (xs:=["n","size"]) (m:=2) B (B.X _ _ (HM w.params)) rfl (codeRec_of B.X (by kernel_rfl)) rfl (j0 λ_ _=>rfl) rfl ⟨_,rfl⟩ (by decide) (by decide) (by decide) ag
theorem Pt(B:bK (KK w.params) h₁):OpOk prog w h₁ (k+1) (λvs=>call (.ref 84) vs) sb:=by
 have ag:∀aU,SOk prog w h₁ (callEnv zK aU 84) ["n","size"] (k+0) (execs yK (callEnv zK aU 84)) uO:=by
  intro aU
  unfold uO yK pick
  refine aR ?_ ?_
  .refine jH (zR B) (fK (by rfl) (by decide) (.inl rfl)) ?_
   .unfold Dw
    refine aR ?_ ?_
    .refine c9 (Ms (a9) (au (by rfl)) (c3 (a9) (c3 (c3 (a9) (au (by rfl)) tG) (a9) wL) Iu) Bp p5) ?_ ?_
     .refine aR ?_ ?_
      .exact cL (au (by rfl))
      exact bf
     .exact bf
    exact bf
  refine aR ?_ ?_
  .exact w4
  exact bf
 exact fg (xs:=["n"]) (m:=1) B (B.X _ _ (HN w.params)) rfl (codeRec_of B.X (by kernel_rfl)) rfl (ip λ_=>rfl) rfl ⟨_,rfl⟩ (by decide) (by decide) (by decide) ag
theorem Fh(B:bK (KK w.params) h₁):OpOk prog w h₁ (k+2) (λvs=>call (.ref 91) vs) oW:=by
 have ag:∀aU,SOk prog w h₁ (callEnv zL aU 91) ["n","size","least"] (k+1) (execs yL (callEnv zL aU 91)) uL:=by
  intro aU
  unfold uL yL pick
  refine aR ?_ ?_
  .exact dQ (cC (B.X _ _ (HN w.params)) rfl (Qq B) (ax (au (by rfl)) (aN)) (Pt (k:=k+0) B)) (by rfl) (by decide) (.inl rfl)
  refine aR ?_ ?_
  .refine c9 (b0 (au (by rfl)) (gb) p4) ?_ ?_
   .refine aR ?_ ?_
    .exact dQ (au (by rfl)) (by rfl) (by decide) (.inl rfl)
    exact bf
   .exact bf
  refine aR ?_ ?_
  .refine c9 (hJ (fG (b0 (au (by rfl)) (au (by rfl)) p5) (fG (b0 (au (by rfl)) (zR B) Br) (j2)))) ?_ ?_
   .refine aR ?_ ?_
    .exact w4
    exact bf
   .exact bf
  refine aR ?_ ?_
  .exact cL (cC (B.X _ _ (HM w.params)) rfl (Qo B) (ax (c3 (c3 (gE PySem.F.plainAttrs_tuple PySem.F.slot_tuple_index PySem.F.type_tuple_index J5 (zR B) (ax (au (by rfl)) (aN)) Iq) (c3 (c3 (a9) (au (by rfl)) tG) (a9) wL) Iu) (au (by rfl)) T5) (ax (au (by rfl)) (aN))) (Pq (k:=k+0) B))
  exact bf
 exact fg (xs:=["n","size"]) (m:=1) B (B.X _ _ (A9 w.params)) rfl (codeRec_of B.X (by kernel_rfl)) rfl (j0 λ_ _=>rfl) rfl ⟨_,rfl⟩ (by decide) (by decide) (by decide) ag
theorem n2(B:bK (KK w.params) h₁):OpOk prog w h₁ (k+3) (λvs=>call (.ref 97) vs) gO:=by
 have ag:∀aU,SOk prog w h₁ (callEnv zM aU 97) ["numbers"] (k+2) (execs yM (callEnv zM aU 97)) uI:=by
  intro aU
  unfold uI yM pick
  refine aR ?_ ?_
  .exact cL (gE M1 Ee M4 Z2 (qK) (ax (kD (ns':=["number"]) (au (by rfl)) (by first|rfl|kernel_rfl) (λ_=>iN) (by decide) (by rfl) (by decide) (λ_=>fK (by rfl) (by decide) (.inl rfl)) (λ_=>nO) (λ_=>cC (B.X _ _ (A9 w.params)) rfl (Gk B) (ax (au (by rfl)) (ax (gb) (aN))) (Fh (k:=k+0) B))) (aN)) T3)
  exact bf
 exact fg (xs:=["numbers"]) (m:=0) B (B.X _ _ (m' w.params)) rfl (codeRec_of B.X (by kernel_rfl)) rfl (ip λ_=>rfl) rfl ⟨_,rfl⟩ (by decide) (by decide) (by decide) ag
theorem zb(B:bK (KK w.params) h₁):OpOk prog w h₁ (k+3) (λvs=>call (.ref 104) vs) kp:=by
 have ag:∀aU,SOk prog w h₁ (callEnv ze aU 104) ["data"] (k+2) (execs yg (callEnv ze aU 104)) uF:=by
  intro aU
  unfold uF yg pick
  refine aR ?_ ?_
  .exact cL (c3 (cC (B.X _ _ (A9 w.params)) rfl (Gk B) (ax (ir (kE B) (ax (au (by rfl)) (aN)) kT) (ax (gb) (aN))) (Fh (k:=k+0) B)) (au (by rfl)) eX)
  exact bf
 exact fg (xs:=["data"]) (m:=0) B (B.X _ _ (wq w.params)) rfl (codeRec_of B.X (by kernel_rfl)) rfl (ip λ_=>rfl) rfl ⟨_,rfl⟩ (by decide) (by decide) (by decide) ag
end
section
variable{prog:Program}{w:World}{h₁:Heap}{k:Nat}
theorem Pp(B:bK (KK w.params) h₁):OpOk prog w h₁ (k+4) (λvs=>call (.ref 125) vs) r':=by
 have ag:∀aU,SOk prog w h₁ (callEnv zf aU 125) ["f","is_last","kind","number","offset","data","fin","told","head"] (k+3) (execs yh (callEnv zf aU 125)) uK:=by
  intro aU
  unfold uK yh pick
  refine aR ?_ ?_
  .first
    |exact km (au (by rfl)) (ij (.cons (by rfl) (.inl rfl) (.cons (by rfl) (.inl rfl) (.cons (by rfl) (.inl rfl) (.cons (by rfl) (.inl rfl) (.cons (by rfl) (.inl rfl) (.nil)))))) (by decide))
    |exact kl (xs:=["kind","number","offset","data","fin"]) (au (by rfl)) (by rfl) (by repeat (first|exact List.forall_mem_nil _|refine List.forall_mem_cons.mpr ⟨.inl rfl,?_⟩|refine List.forall_mem_cons.mpr ⟨.inr ⟨rfl,rfl,rfl⟩,?_⟩)) (by decide) (by decide)
  refine aR ?_ ?_
  .exact dQ (c3 (c3 (c3 (P8 B) (hZ (mH (au (by rfl))) (PU B) (a9)) eX) (hZ (mH (au (by rfl))) (a9) (PV B)) eX) (hZ (b0 (au (by rfl)) (a9) p3) (PW B) (a9)) eX) (by rfl) (by decide) (.inl rfl)
  refine aR ?_ ?_
  .exact dQ (cC (B.X _ _ (m' w.params)) rfl (n3 B) (ax (c3 (gD (ax (au (by rfl)) (ax (au (by rfl)) (aN)))) (hZ (b0 (au (by rfl)) (a9) p3) (gD (ax (au (by rfl)) (aN))) (gD (aN))) eX) (aN)) (n2 (k:=k+0) B)) (by rfl) (by decide) (.inl rfl)
  refine aR ?_ ?_
  .exact cL (c3 (au (by rfl)) (hZ (mH (au (by rfl))) (au (by rfl)) (cC (B.X _ _ (wq w.params)) rfl (zW B) (ax (au (by rfl)) (aN)) (zb (k:=k+0) B))) eX)
  exact bf
 exact fg (xs:=["f","is_last"]) (m:=7) B (B.X _ _ (Hy w.params)) rfl (codeRec_of B.X (by kernel_rfl)) rfl (j0 λ_ _=>rfl) rfl ⟨_,rfl⟩ (by decide) (by decide) (by decide) ag
theorem Pn(B:bK (KK w.params) h₁):OpOk prog w h₁ (k+4) (λvs=>call (.ref 132) vs) r9:=by
 have ag:∀aU,SOk prog w h₁ (callEnv zg aU 132) ["f","kind","sequence","retire_prior","cid","token"] (k+3) (execs yi (callEnv zg aU 132)) uH:=by
  intro aU
  unfold uH yi pick
  refine aR ?_ ?_
  .first
    |exact km (au (by rfl)) (ij (.cons (by rfl) (.inl rfl) (.cons (by rfl) (.inl rfl) (.cons (by rfl) (.inl rfl) (.cons (by rfl) (.inl rfl) (.cons (by rfl) (.inl rfl) (.nil)))))) (by decide))
    |exact kl (xs:=["kind","sequence","retire_prior","cid","token"]) (au (by rfl)) (by rfl) (by repeat (first|exact List.forall_mem_nil _|refine List.forall_mem_cons.mpr ⟨.inl rfl,?_⟩|refine List.forall_mem_cons.mpr ⟨.inr ⟨rfl,rfl,rfl⟩,?_⟩)) (by decide) (by decide)
  refine aR ?_ ?_
  .exact cL (c3 (c3 (c3 (cC (B.X _ _ (m' w.params)) rfl (n3 B) (ax (gD (ax (P4 B) (ax (au (by rfl)) (ax (au (by rfl)) (aN))))) (aN)) (n2 (k:=k+0) B)) (gC (lp B) (ax (gD (ax (ir (kE B) (ax (au (by rfl)) (aN)) kT) (aN))) (aN)) mh) eX) (au (by rfl)) eX) (au (by rfl)) eX)
  exact bf
 exact fg (xs:=["f"]) (m:=5) B (B.X _ _ (Hz w.params)) rfl (codeRec_of B.X (by kernel_rfl)) rfl (ip λ_=>rfl) rfl ⟨_,rfl⟩ (by decide) (by decide) (by decide) ag
theorem Po(B:bK (KK w.params) h₁):OpOk prog w h₁ (k+4) (λvs=>call (.ref 146) vs) ql:=by
 have ag:∀aU,SOk prog w h₁ (callEnv zh aU 146) ["f","kind"] (k+3) (execs yj (callEnv zh aU 146)) uJ:=by
  intro aU
  unfold uJ yj pick
  refine aR ?_ ?_
  .exact dQ (bU (au (by rfl)) (a9)) (by rfl) (by decide) (.inl rfl)
  refine aR ?_ ?_
  .refine c9 (b0 (au (by rfl)) (bN) dZ) ?_ ?_
   .refine aR ?_ ?_
    .exact cL (c3 (cC (B.X _ _ (m' w.params)) rfl (n3 B) (ax (gD (ax (PY B) (ax (bU (au (by rfl)) (a9)) (aN)))) (aN)) (n2 (k:=k+0) B)) (cC (B.X _ _ (wq w.params)) rfl (zW B) (ax (bU (au (by rfl)) (a9)) (aN)) (zb (k:=k+0) B)) eX)
    exact bf
   .exact bf
  refine aR ?_ ?_
  .refine c9 (b0 (au (by rfl)) (bN) dZ) ?_ ?_
   .refine aR ?_ ?_
    .exact cL (c3 (cC (B.X _ _ (m' w.params)) rfl (n3 B) (ax (gD (ax (P5 B) (aN))) (aN)) (n2 (k:=k+0) B)) (cC (B.X _ _ (wq w.params)) rfl (zW B) (ax (bU (au (by rfl)) (a9)) (aN)) (zb (k:=k+0) B)) eX)
    exact bf
   .exact bf
  refine aR ?_ ?_
  .refine c9 (hJ (fG (b0 (au (by rfl)) (bN) dZ) (fG (b0 (au (by rfl)) (bN) dZ) (j2)))) ?_ ?_
   .refine aR ?_ ?_
    .exact cL (c3 (cC (B.X _ _ (m' w.params)) rfl (n3 B) (ax (gD (ax (hZ (b0 (au (by rfl)) (bN) dZ) (P6 B) (P7 B)) (aN))) (aN)) (n2 (k:=k+0) B)) (bU (au (by rfl)) (a9)) eX)
    exact bf
   .exact bf
  refine aR ?_ ?_
  .refine c9 (b0 (au (by rfl)) (bN) dZ) ?_ ?_
   .refine aR ?_ ?_
    .exact cL (cC (B.X _ _ (m' w.params)) rfl (n3 B) (ax (gD (ax (hZ (mH (bU (au (by rfl)) (a9))) (P2 B) (P1 B)) (ax (bU (au (by rfl)) (a9)) (aN)))) (aN)) (n2 (k:=k+0) B))
    exact bf
   .exact bf
  refine aR ?_ ?_
  .refine c9 (b0 (au (by rfl)) (bN) dZ) ?_ ?_
   .refine aR ?_ ?_
    .exact cL (cC (B.X _ _ (m' w.params)) rfl (n3 B) (ax (gD (ax (hZ (mH (bU (au (by rfl)) (a9))) (P' B) (P9 B)) (ax (bU (au (by rfl)) (a9)) (aN)))) (aN)) (n2 (k:=k+0) B))
    exact bf
   .exact bf
  refine aR ?_ ?_
  .exact cL (gb)
  exact bf
 exact fg (xs:=["f"]) (m:=1) B (B.X _ _ (HA w.params)) rfl (codeRec_of B.X (by kernel_rfl)) rfl (ip λ_=>rfl) rfl ⟨_,rfl⟩ (by decide) (by decide) (by decide) ag
theorem Fg(B:bK (KK w.params) h₁):OpOk prog w h₁ (k+5) (λvs=>call (.ref 153) vs) mz:=by
 have ag:∀aU,SOk prog w h₁ (callEnv zi aU 153) ["f","kind","found"] (k+4) (execs yk (callEnv zi aU 153)) uG:=by
  intro aU
  unfold uG yk pick
  refine aR ?_ ?_
  .exact dQ (bU (au (by rfl)) (a9)) (by rfl) (by decide) (.inl rfl)
  refine aR ?_ ?_
  .refine c9 (b0 (au (by rfl)) (bN) dZ) ?_ ?_
   .refine aR ?_ ?_
    .exact cL (gC (lp B) (ax (y4) (aN)) mh)
    exact bf
   .exact bf
  refine aR ?_ ?_
  .refine c9 (b0 (au (by rfl)) (Gb B) iU) ?_ ?_
   .refine aR ?_ ?_
    .exact cL (cC (B.X _ _ (m' w.params)) rfl (n3 B) (ax (c3 (gD (ax (bU (Gb B) (au (by rfl))) (aN))) (gC (zV B) (ax (nZ (au (by rfl)) (ow (a9)) (ov)) (aN)) Bq) eX) (aN)) (n2 (k:=k+1) B))
    exact bf
   .exact bf
  refine aR ?_ ?_
  .refine c9 (b0 (au (by rfl)) (bN) dZ) ?_ ?_
   .refine aR ?_ ?_
    .exact cL (y4)
    exact bf
   .exact bf
  refine aR ?_ ?_
  .refine c9 (b0 (au (by rfl)) (bN) dZ) ?_ ?_
   .refine aR ?_ ?_
    .exact cL (cC (B.X _ _ (Hy w.params)) rfl (Qn B) (ax (au (by rfl)) (ax (hY) (aN))) (Pp (k:=k+0) B))
    exact bf
   .exact bf
  refine aR ?_ ?_
  .refine c9 (b0 (au (by rfl)) (bN) dZ) ?_ ?_
   .refine aR ?_ ?_
    .exact cL (cC (B.X _ _ (Hz w.params)) rfl (Ql B) (ax (au (by rfl)) (aN)) (Pn (k:=k+0) B))
    exact bf
   .exact bf
  refine aR ?_ ?_
  .refine c9 (b0 (au (by rfl)) (bN) dZ) ?_ ?_
   .refine aR ?_ ?_
    .exact cL (y4)
    exact bf
   .exact bf
  refine aR ?_ ?_
  .exact dQ (cC (B.X _ _ (HA w.params)) rfl (Qm B) (ax (au (by rfl)) (aN)) (Po (k:=k+0) B)) (by rfl) (by decide) (.inl rfl)
  refine aR ?_ ?_
  .refine c9 (b0 (au (by rfl)) (gb) p4) ?_ ?_
   .refine aR ?_ ?_
    .exact w4
    exact bf
   .exact bf
  refine aR ?_ ?_
  .exact cL (au (by rfl))
  exact bf
 exact fg (xs:=["f"]) (m:=2) B (B.X _ _ (A2 w.params)) rfl (codeRec_of B.X (by kernel_rfl)) rfl (ip λ_=>rfl) rfl ⟨_,rfl⟩ (by decide) (by decide) (by decide) ag
theorem sF(B:bK (KK w.params) h₁):OpOk prog w h₁ (k+6) (λvs=>call (.ref 160) vs) jo:=by
 have ag:∀aU,SOk prog w h₁ (callEnv zj aU 160) ["f"] (k+5) (execs yl (callEnv zj aU 160)) uw:=by
  intro aU
  unfold uw yl pick
  refine aR ?_ ?_
  .exact cL (ir (kE B) (ax (cC (B.X _ _ (A2 w.params)) rfl (Gj B) (ax (au (by rfl)) (aN)) (Fg (k:=k+0) B)) (aN)) kT)
  exact bf
 exact fg (xs:=["f"]) (m:=0) B (B.X _ _ (rg w.params)) rfl (codeRec_of B.X (by kernel_rfl)) rfl (ip λ_=>rfl) rfl ⟨_,rfl⟩ (by decide) (by decide) (by decide) ag
end
section
variable{prog:Program}{w:World}{h₁:Heap}{k:Nat}
theorem za(B:bK (KK w.params) h₁):OpOk prog w h₁ (k+1) (λvs=>call (.ref 168) vs) oS:=by
 have ag:∀aU,SOk prog w h₁ (callEnv zk aU 168) ["frame"] (k+0) (execs ym (callEnv zk aU 168)) ur:=by
  intro aU
  unfold ur ym pick
  refine aR ?_ ?_
  .exact cL (hZ (b0 (bU (au (by rfl)) (a9)) (bN) dZ) (bU (au (by rfl)) (a9)) (bU (au (by rfl)) (a9)))
  exact bf
 exact fg (xs:=["frame"]) (m:=0) B (B.X _ _ (wt w.params)) rfl (codeRec_of B.X (by kernel_rfl)) rfl (ip λ_=>rfl) rfl ⟨_,rfl⟩ (by decide) (by decide) (by decide) ag
theorem sG(B:bK (KK w.params) h₁):OpOk prog w h₁ (k+1) (λvs=>call (.ref 175) vs) iK:=by
 have ag:∀aU,SOk prog w h₁ (callEnv zl aU 175) ["frame","skipped","data","fin"] (k+0) (execs yn (callEnv zl aU 175)) uQ:=by
  intro aU
  unfold uQ yn pick
  refine aR ?_ ?_
  .refine c9 (b0 (bU (au (by rfl)) (a9)) (bN) dZ) ?_ ?_
   .refine aR ?_ ?_
    .exact cL (cJ (ax (bN) (ax (c3 (bU (au (by rfl)) (a9)) (au (by rfl)) eX) (ax (au (by rfl)) (aN)))))
    exact bf
   .exact bf
  refine aR ?_ ?_
  .exact cL (cJ (ax (bN) (ax (bU (au (by rfl)) (a9)) (ax (c3 (bU (au (by rfl)) (a9)) (au (by rfl)) eX) (ax (au (by rfl)) (ax (au (by rfl)) (aN)))))))
  exact bf
 exact fg (xs:=["frame","skipped","data","fin"]) (m:=0) B (B.X _ _ (rh w.params)) rfl (codeRec_of B.X (by kernel_rfl)) rfl (DW λ_ _ _ _=>rfl) rfl ⟨_,rfl⟩ (by decide) (by decide) (by decide) ag
theorem Fd(B:bK (KK w.params) h₁):OpOk prog w h₁ (k+7) (λvs=>call (.ref 182) vs) r1:=by
 have ag:∀aU,SOk prog w h₁ (callEnv zm aU 182) ["frame","room","data","many"] (k+6) (execs yo (callEnv zm aU 182)) uu:=by
  intro aU
  unfold uu yo pick
  refine aR ?_ ?_
  .exact dQ (cC (B.X _ _ (wt w.params)) rfl (zT B) (ax (au (by rfl)) (aN)) (za (k:=k+5) B)) (by rfl) (by decide) (.inl rfl)
  refine aR ?_ ?_
  .refine c9 (b0 (cC (B.X _ _ (rg w.params)) rfl (sJ B) (ax (cC (B.X _ _ (rh w.params)) rfl (sM B) (ax (au (by rfl)) (ax (a9) (ax (qK) (ax (hY) (aN))))) (sG (k:=k+5) B)) (aN)) (sF (k:=k+0) B)) (au (by rfl)) p3) ?_ ?_
   .refine aR ?_ ?_
    .exact cL (qL (a9) ro)
    exact bf
   .exact bf
  refine aR ?_ ?_
  .exact dQ (ir (Qj B) (ax (ir (kE B) (ax (au (by rfl)) (aN)) kT) (ax (c3 (au (by rfl)) (cC (B.X _ _ (rg w.params)) rfl (sJ B) (ax (cC (B.X _ _ (rh w.params)) rfl (sM B) (ax (au (by rfl)) (ax (a9) (ax (qK) (ax (hY) (aN))))) (sG (k:=k+5) B)) (aN)) (sF (k:=k+0) B)) wL) (aN))) T4) (by rfl) (by decide) (.inl rfl)
  refine aR ?_ ?_
  .refine JI (b0 (cC (B.X _ _ (rg w.params)) rfl (sJ B) (ax (cC (B.X _ _ (rh w.params)) rfl (sM B) (ax (au (by rfl)) (ax (a9) (ax (nZ (au (by rfl)) (ov) (ow (au (by rfl)))) (ax (hY) (aN))))) (sG (k:=k+5) B)) (aN)) (sF (k:=k+0) B)) (au (by rfl)) p3) ?_
   .unfold Dk
    refine aR ?_ ?_
    .exact JG (a9) It (by rfl) (by decide) (by rfl)
    exact bf
  refine aR ?_ ?_
  .exact cL (au (by rfl))
  exact bf
 exact fg (xs:=["frame","room"]) (m:=2) B (B.X _ _ (A3 w.params)) rfl (codeRec_of B.X (by kernel_rfl)) rfl (j0 λ_ _=>rfl) rfl ⟨_,rfl⟩ (by decide) (by decide) (by decide) ag
theorem Fc(B:bK (KK w.params) h₁):OpOk prog w h₁ (k+8) (λvs=>call (.ref 189) vs) r0:=by
 have ag:∀aU,SOk prog w h₁ (callEnv zo aU 189) ["frame","room","many","data","is_end"] (k+7) (execs yp (callEnv zo aU 189)) uq:=by
  intro aU
  unfold uq yp pick
  refine aR ?_ ?_
  .refine c9 (b0 (cC (B.X _ _ (rg w.params)) rfl (sJ B) (ax (au (by rfl)) (aN)) (sF (k:=k+1) B)) (au (by rfl)) Bp) ?_ ?_
   .refine aR ?_ ?_
    .exact cL (cJ (ax (au (by rfl)) (ax (gb) (aN))))
    exact bf
   .exact bf
  refine aR ?_ ?_
  .refine c9 (b0 (bU (au (by rfl)) (a9)) (PZ B) Br) ?_ ?_
   .refine aR ?_ ?_
    .exact cL (cJ (ax (gb) (ax (au (by rfl)) (aN))))
    exact bf
   .exact bf
  refine aR ?_ ?_
  .first
    |exact km (cJ (ax (cC (B.X _ _ (A3 w.params)) rfl (Gg B) (ax (au (by rfl)) (ax (au (by rfl)) (aN))) (Fd (k:=k+0) B)) (ax (cC (B.X _ _ (wt w.params)) rfl (zT B) (ax (au (by rfl)) (aN)) (za (k:=k+6) B)) (aN)))) (ij (.cons (by rfl) (.inl rfl) (.cons (by rfl) (.inl rfl) (.nil))) (by decide))
    |exact kl (xs:=["many","data"]) (cJ (ax (cC (B.X _ _ (A3 w.params)) rfl (Gg B) (ax (au (by rfl)) (ax (au (by rfl)) (aN))) (Fd (k:=k+0) B)) (ax (cC (B.X _ _ (wt w.params)) rfl (zT B) (ax (au (by rfl)) (aN)) (za (k:=k+6) B)) (aN)))) (by rfl) (by repeat (first|exact List.forall_mem_nil _|refine List.forall_mem_cons.mpr ⟨.inl rfl,?_⟩|refine List.forall_mem_cons.mpr ⟨.inr ⟨rfl,rfl,rfl⟩,?_⟩)) (by decide) (by decide)
  refine aR ?_ ?_
  .refine c9 (hJ (fG (b0 (au (by rfl)) (a9) p5) (fG (b0 (au (by rfl)) (ir (kE B) (ax (au (by rfl)) (aN)) kT) TZ) (j2)))) ?_ ?_
   .refine aR ?_ ?_
    .exact cL (cJ (ax (gb) (ax (au (by rfl)) (aN))))
    exact bf
   .exact bf
  refine aR ?_ ?_
  .exact dQ (y3 (sy (bU (au (by rfl)) (a9)) (bN) dZ) (bU (au (by rfl)) (a9))) (by rfl) (by decide) (.inl rfl)
  refine aR ?_ ?_
  .exact cL (cJ (ax (cC (B.X _ _ (rh w.params)) rfl (sM B) (ax (au (by rfl)) (ax (a9) (ax (nZ (au (by rfl)) (ov) (ow (au (by rfl)))) (ax (hY) (aN))))) (sG (k:=k+6) B)) (ax (cC (B.X _ _ (rh w.params)) rfl (sM B) (ax (au (by rfl)) (ax (au (by rfl)) (ax (nZ (au (by rfl)) (ow (au (by rfl))) (ov)) (ax (au (by rfl)) (aN))))) (sG (k:=k+6) B)) (aN))))
  exact bf
 exact fg (xs:=["frame","room"]) (m:=3) B (B.X _ _ (A4 w.params)) rfl (codeRec_of B.X (by kernel_rfl)) rfl (j0 λ_ _=>rfl) rfl ⟨_,rfl⟩ (by decide) (by decide) (by decide) ag
theorem vv(B:bK (KK w.params) h₁):OpOk prog w h₁ (k+9) (λvs=>call (.ref 196) vs) oT:=by
 have ag:∀aU,SOk prog w h₁ (callEnv zp aU 196) ["frames","room","taken","left","frame","part","rest"] (k+8) (execs yq (callEnv zp aU 196)) uv:=by
  intro aU
  unfold uv yq pick
  refine aR ?_ ?_
  .first
    |exact km (cJ (ax (js (aN)) (ax (js (aN)) (aN)))) (ij (.cons (by rfl) (.inl rfl) (.cons (by rfl) (.inl rfl) (.nil))) (by decide))
    |exact kl (xs:=["taken","left"]) (cJ (ax (js (aN)) (ax (js (aN)) (aN)))) (by rfl) (by repeat (first|exact List.forall_mem_nil _|refine List.forall_mem_cons.mpr ⟨.inl rfl,?_⟩|refine List.forall_mem_cons.mpr ⟨.inr ⟨rfl,rfl,rfl⟩,?_⟩)) (by decide) (by decide)
  refine aR ?_ ?_
  .refine jH (au (by rfl)) (fK (by rfl) (by decide) (.inl rfl)) ?_
   .unfold Dl
    refine aR ?_ ?_
    .first
      |exact km (cC (B.X _ _ (A4 w.params)) rfl (Gf B) (ax (au (by rfl)) (ax (au (by rfl)) (aN))) (Fc (k:=k+0) B)) (ij (.cons (by rfl) (.inl rfl) (.cons (by rfl) (.inl rfl) (.nil))) (by decide))
      |exact kl (xs:=["part","rest"]) (cC (B.X _ _ (A4 w.params)) rfl (Gf B) (ax (au (by rfl)) (ax (au (by rfl)) (aN))) (Fc (k:=k+0) B)) (by rfl) (by repeat (first|exact List.forall_mem_nil _|refine List.forall_mem_cons.mpr ⟨.inl rfl,?_⟩|refine List.forall_mem_cons.mpr ⟨.inr ⟨rfl,rfl,rfl⟩,?_⟩)) (by decide) (by decide)
    refine aR ?_ ?_
    .refine c9 (b0 (au (by rfl)) (gb) tF) ?_ ?_
     .refine aR ?_ ?_
      .exact hD (gE PySem.F.plainAttrs_list PySem.F.slot_list_append PySem.F.type_list_append iX (au (by rfl)) (ax (au (by rfl)) (aN)) ki)
      refine aR ?_ ?_
      .exact JG (cC (B.X _ _ (rg w.params)) rfl (sJ B) (ax (au (by rfl)) (aN)) (sF (k:=k+2) B)) It (by rfl) (by decide) (by rfl)
      exact bf
     .exact bf
    refine aR ?_ ?_
    .refine c9 (b0 (au (by rfl)) (gb) tF) ?_ ?_
     .refine aR ?_ ?_
      .exact hD (gE PySem.F.plainAttrs_list PySem.F.slot_list_append PySem.F.type_list_append iX (au (by rfl)) (ax (au (by rfl)) (aN)) ki)
      exact bf
     .exact bf
    exact bf
  refine aR ?_ ?_
  .exact cL (cJ (ax (au (by rfl)) (ax (au (by rfl)) (aN))))
  exact bf
 exact fg (xs:=["frames","room"]) (m:=5) B (B.X _ _ (ts w.params)) rfl (codeRec_of B.X (by kernel_rfl)) rfl (j0 λ_ _=>rfl) rfl ⟨_,rfl⟩ (by decide) (by decide) (by decide) ag
theorem Pf(B:bK (KK w.params) h₁):OpOk prog w h₁ (k+10) (λvs=>call (.ref 203) vs) r3:=by
 have ag:∀aU,SOk prog w h₁ (callEnv zq aU 203) ["frames","room","found","left","taken","rest"] (k+9) (execs yr (callEnv zq aU 203)) uy:=by
  intro aU
  unfold uy yr pick
  refine aR ?_ ?_
  .first
    |exact km (cJ (ax (js (aN)) (ax (gC (zV B) (ax (au (by rfl)) (aN)) Bq) (aN)))) (ij (.cons (by rfl) (.inl rfl) (.cons (by rfl) (.inl rfl) (.nil))) (by decide))
    |exact kl (xs:=["found","left"]) (cJ (ax (js (aN)) (ax (gC (zV B) (ax (au (by rfl)) (aN)) Bq) (aN)))) (by rfl) (by repeat (first|exact List.forall_mem_nil _|refine List.forall_mem_cons.mpr ⟨.inl rfl,?_⟩|refine List.forall_mem_cons.mpr ⟨.inr ⟨rfl,rfl,rfl⟩,?_⟩)) (by decide) (by decide)
  refine aR ?_ ?_
  .refine JI (b0 (ir (kE B) (ax (au (by rfl)) (aN)) kT) (a9) p3) ?_
   .unfold Dm
    refine aR ?_ ?_
    .first
      |exact km (cC (B.X _ _ (ts w.params)) rfl (vE B) (ax (au (by rfl)) (ax (au (by rfl)) (aN))) (vv (k:=k+0) B)) (ij (.cons (by rfl) (.inl rfl) (.cons (by rfl) (.inl rfl) (.nil))) (by decide))
      |exact kl (xs:=["taken","rest"]) (cC (B.X _ _ (ts w.params)) rfl (vE B) (ax (au (by rfl)) (ax (au (by rfl)) (aN))) (vv (k:=k+0) B)) (by rfl) (by repeat (first|exact List.forall_mem_nil _|refine List.forall_mem_cons.mpr ⟨.inl rfl,?_⟩|refine List.forall_mem_cons.mpr ⟨.inr ⟨rfl,rfl,rfl⟩,?_⟩)) (by decide) (by decide)
    refine aR ?_ ?_
    .refine c9 (b0 (ir (kE B) (ax (au (by rfl)) (aN)) kT) (a9) dZ) ?_ ?_
     .refine aR ?_ ?_
      .exact cL (gb)
      exact bf
     .exact bf
    refine aR ?_ ?_
    .exact hD (gE PySem.F.plainAttrs_list PySem.F.slot_list_append PySem.F.type_list_append iX (au (by rfl)) (ax (au (by rfl)) (aN)) ki)
    refine aR ?_ ?_
    .exact dQ (au (by rfl)) (by rfl) (by decide) (.inl rfl)
    exact bf
  refine aR ?_ ?_
  .exact cL (au (by rfl))
  exact bf
 exact fg (xs:=["frames","room"]) (m:=4) B (B.X _ _ (HB w.params)) rfl (codeRec_of B.X (by kernel_rfl)) rfl (j0 λ_ _=>rfl) rfl ⟨_,rfl⟩ (by decide) (by decide) (by decide) ag
end
section
variable{prog:Program}{w:World}{h₁:Heap}{k:Nat}
theorem Pg(B:bK (KK w.params) h₁):OpOk prog w h₁ (k+1) (λvs=>call (.ref 211) vs) r4:=by
 have ag:∀aU,SOk prog w h₁ (callEnv zr aU 211) ["kind"] (k+0) (execs ys (callEnv zr aU 211)) xr:=by
  intro aU
  unfold xr ys pick
  refine aR ?_ ?_
  .exact cL (gE PySem.F.plainAttrs_tuple PySem.F.slot_tuple_index PySem.F.type_tuple_index J5 (vD B) (ax (au (by rfl)) (aN)) Iq)
  exact bf
 exact fg (xs:=["kind"]) (m:=0) B (B.X _ _ (HC w.params)) rfl (codeRec_of B.X (by kernel_rfl)) rfl (ip λ_=>rfl) rfl ⟨_,rfl⟩ (by decide) (by decide) (by decide) ag
theorem Ff(B:bK (KK w.params) h₁):OpOk prog w h₁ (k+1) (λvs=>call (.ref 218) vs) oV:=by
 have ag:∀aU,SOk prog w h₁ (callEnv zt aU 218) ["alarms","found","kind","told"] (k+0) (execs yt (callEnv zt aU 218)) uE:=by
  intro aU
  unfold uE yt pick
  refine aR ?_ ?_
  .exact dQ (gb) (by rfl) (by decide) (.inl rfl)
  refine aR ?_ ?_
  .refine jH (vD B) (fK (by rfl) (by decide) (.inl rfl)) ?_
   .unfold Dt
    refine aR ?_ ?_
    .exact dQ (gE PySem.F.plainAttrs_dict PySem.F.slot_dict_get PySem.F.type_dict_get B6 (au (by rfl)) (ax (au (by rfl)) (aN)) Bo) (by rfl) (by decide) (.inl rfl)
    refine aR ?_ ?_
    .refine c9 (hJ (kz (b0 (au (by rfl)) (gb) tF) (kz (hJ (fG (b0 (au (by rfl)) (gb) p4) (fG (b0 (au (by rfl)) (bU (au (by rfl)) (a9)) p5) (j2)))) (qC)))) ?_ ?_
     .refine aR ?_ ?_
      .exact dQ (cJ (ax (au (by rfl)) (ax (au (by rfl)) (aN)))) (by rfl) (by decide) (.inl rfl)
      exact bf
     .exact bf
    exact bf
  refine aR ?_ ?_
  .exact cL (au (by rfl))
  exact bf
 exact fg (xs:=["alarms"]) (m:=3) B (B.X _ _ (A5 w.params)) rfl (codeRec_of B.X (by kernel_rfl)) rfl (ip λ_=>rfl) rfl ⟨_,rfl⟩ (by decide) (by decide) (by decide) ag
theorem Pd(B:bK (KK w.params) h₁):OpOk prog w h₁ (k+2) (λvs=>call (.ref 223) vs) rZ:=by
 have ag:∀aU,SOk prog w h₁ (callEnv zu aU 223) ["alarms","now","pairs","kind","told"] (k+1) (execs yu (callEnv zu aU 223)) uo:=by
  intro aU
  unfold uo yu pick
  refine aR ?_ ?_
  .exact dQ (js (aN)) (by rfl) (by decide) (.inl rfl)
  refine aR ?_ ?_
  .refine jH (vD B) (fK (by rfl) (by decide) (.inl rfl)) ?_
   .unfold Dj
    refine aR ?_ ?_
    .exact dQ (gE PySem.F.plainAttrs_dict PySem.F.slot_dict_get PySem.F.type_dict_get B6 (au (by rfl)) (ax (au (by rfl)) (aN)) Bo) (by rfl) (by decide) (.inl rfl)
    refine aR ?_ ?_
    .refine c9 (hJ (kz (b0 (au (by rfl)) (gb) tF) (kz (b0 (au (by rfl)) (au (by rfl)) Bp) (qC)))) ?_ ?_
     .refine aR ?_ ?_
      .exact hD (gE PySem.F.plainAttrs_list PySem.F.slot_list_append PySem.F.type_list_append iX (au (by rfl)) (ax (cJ (ax (au (by rfl)) (ax (cC (B.X _ _ (HC w.params)) rfl (Qi B) (ax (au (by rfl)) (aN)) (Pg (k:=k+0) B)) (aN)))) (aN)) ki)
      exact bf
     .exact bf
    exact bf
  refine aR ?_ ?_
  .exact cL (kD (ns':=["told","place"]) (ir (Gl B) (ax (au (by rfl)) (aN)) T7) (by first|rfl|kernel_rfl) (λ_=>iN) (by decide) (by rfl) (by decide) (λ_=>ij (.cons (by rfl) (.inl rfl) (.cons (by rfl) (.inl rfl) (.nil))) (by decide)) (λ_=>nO) (λ_=>bU (vD B) (au (by rfl))))
  exact bf
 exact fg (xs:=["alarms","now"]) (m:=3) B (B.X _ _ (HD w.params)) rfl (codeRec_of B.X (by kernel_rfl)) rfl (j0 λ_ _=>rfl) rfl ⟨_,rfl⟩ (by decide) (by decide) (by decide) ag
theorem Pu(B:bK (KK w.params) h₁):OpOk prog w h₁ (k+2) (λvs=>call (.ref 228) vs) sd:=by
 have ag:∀aU,SOk prog w h₁ (callEnvC zv aU 228) ["alarms","kind","told","found"] (k+1) (execs yv (callEnvC zv aU 228)) uP:=by
  intro aU
  unfold uP yv pick
  refine aR ?_ ?_
  .exact dQ (gC (Qf B) (ax (EZ (ns':=["one","alarms","kind"]) (au (by rfl)) (by first|rfl|kernel_rfl) (λ_=>iN) (by decide) (by rfl) (by decide) (λ_=>fK (by rfl) (by decide) (.inl rfl)) (λ_=>nP (b0 (au (by rfl)) (au (by rfl)) lL)) (λ_=>cJ (ax (au (by rfl)) (ax (bU (au (by rfl)) (au (by rfl))) (aN))))) aN) TY) (by rfl) (by decide) (.inl rfl)
  refine aR ?_ ?_
  .refine c9 (b0 (au (by rfl)) (gb) tF) ?_ ?_
   .refine aR ?_ ?_
    .exact ny (au (by rfl)) (au (by rfl)) (au (by rfl))
    exact bf
   .exact bf
  refine aR ?_ ?_
  .exact cL (au (by rfl))
  exact bf
 exact vu (xs:=["alarms","kind","told"]) (m:=1) B (B.X _ _ (HE w.params)) rfl (codeRec_of B.X (by kernel_rfl)) rfl (DV λ_ _ _=>rfl) rfl ⟨_,rfl⟩ (by decide) (by decide) ag
theorem Fe(B:bK (KK w.params) h₁):OpOk prog w h₁ (k+3) (λvs=>call (.ref 249) vs) oU:=by
 have ag:∀aU,SOk prog w h₁ (callEnv zw aU 249) ["self","kind","told"] (k+2) (execs yw (callEnv zw aU 249)) uA:=by
  intro aU
  unfold uA yw pick
  refine aR ?_ ?_
  .exact YM B (kA w.params) (cC (B.X _ _ (HE w.params)) rfl (Qr B) (ax (sx B (kA w.params) (au (by rfl))) (ax (au (by rfl)) (ax (au (by rfl)) (aN)))) (Pu (k:=k+0) B)) (au (by rfl))
  exact bf
 exact fg (xs:=["self","kind","told"]) (m:=0) B (B.X _ _ (A6 w.params)) rfl (codeRec_of B.X (by kernel_rfl)) rfl (DV λ_ _ _=>rfl) rfl ⟨_,rfl⟩ (by decide) (by decide) (by decide) ag
theorem Pl(B:bK (KK w.params) h₁):OpOk prog w h₁ (k+1) (λvs=>call (.ref 256) vs) r7:=by
 have ag:∀aU,SOk prog w h₁ (callEnv zy aU 256) ["self","kind"] (k+0) (execs yy (callEnv zy aU 256)) uC:=by
  intro aU
  unfold uC yy pick
  refine aR ?_ ?_
  .exact cL (gE PySem.F.plainAttrs_dict PySem.F.slot_dict_get PySem.F.type_dict_get B6 (sx B (kA w.params) (au (by rfl))) (ax (au (by rfl)) (aN)) Bo)
  exact bf
 exact fg (xs:=["self","kind"]) (m:=0) B (B.X _ _ (HF w.params)) rfl (codeRec_of B.X (by kernel_rfl)) rfl (j0 λ_ _=>rfl) rfl ⟨_,rfl⟩ (by decide) (by decide) (by decide) ag
theorem Pj(B:bK (KK w.params) h₁):OpOk prog w h₁ (k+2) (λvs=>call (.ref 263) vs) r5:=by
 have ag:∀aU,SOk prog w h₁ (callEnv zz aU 263) ["self","told"] (k+1) (execs yz (callEnv zz aU 263)) uz:=by
  intro aU
  unfold uz yz pick
  refine aR ?_ ?_
  .exact dQ (cC (B.X _ _ (A5 w.params)) rfl (Gi B) (ax (sx B (kA w.params) (au (by rfl))) (aN)) (Ff (k:=k+0) B)) (by rfl) (by decide) (.inl rfl)
  refine aR ?_ ?_
  .exact cL (hZ (b0 (au (by rfl)) (gb) p4) (gb) (bU (au (by rfl)) (a9)))
  exact bf
 exact fg (xs:=["self"]) (m:=1) B (B.X _ _ (HG w.params)) rfl (codeRec_of B.X (by kernel_rfl)) rfl (ip λ_=>rfl) rfl ⟨_,rfl⟩ (by decide) (by decide) (by decide) ag
theorem Pk(B:bK (KK w.params) h₁):OpOk prog w h₁ (k+4) (λvs=>call (.ref 270) vs) r6:=by
 have ag:∀aU,SOk prog w h₁ (callEnv zA aU 270) ["self","now","found","kind"] (k+3) (execs yA (callEnv zA aU 270)) uB:=by
  intro aU
  unfold uB yA pick
  refine aR ?_ ?_
  .exact dQ (cC (B.X _ _ (HD w.params)) rfl (Qd B) (ax (sx B (kA w.params) (au (by rfl))) (ax (au (by rfl)) (aN))) (Pd (k:=k+1) B)) (by rfl) (by decide) (.inl rfl)
  refine aR ?_ ?_
  .refine jH (au (by rfl)) (fK (by rfl) (by decide) (.inl rfl)) ?_
   .unfold Dr
    refine aR ?_ ?_
    .exact hD (sz B (kA w.params) (by kernel_rfl) (by kernel_rfl) (B.X _ _ (A6 w.params)) rfl (au (by rfl)) (ax (au (by rfl)) (ax (gb) (aN))) (Fe (k:=k+0) B))
    exact bf
  refine aR ?_ ?_
  .exact cL (au (by rfl))
  exact bf
 exact fg (xs:=["self","now"]) (m:=2) B (B.X _ _ (HH w.params)) rfl (codeRec_of B.X (by kernel_rfl)) rfl (j0 λ_ _=>rfl) rfl ⟨_,rfl⟩ (by decide) (by decide) (by decide) ag
end
section
variable{prog:Program}{w:World}{h₁:Heap}{k:Nat}
theorem l5(B:bK (KK w.params) h₁):OpOk prog w h₁ (k+1) (λvs=>call (.ref 284) vs) gy:=by
 have ag:∀aU,SOk prog w h₁ (callEnv zB aU 284) ["pool","many","script","cell"] (k+0) (execs yB (callEnv zB aU 284)) uj:=by
  intro aU
  unfold uj yB pick
  refine aR ?_ ?_
  .exact dQ (bU (au (by rfl)) (a9)) (by rfl) (by decide) (.inl rfl)
  refine aR ?_ ?_
  .exact dQ (hZ (b0 (au (by rfl)) (gD (aN)) lL) (ir (Qc B) (ax (bU (au (by rfl)) (c3 (bU (au (by rfl)) (a9)) (ir (kE B) (ax (au (by rfl)) (aN)) kT) ni)) (aN)) TS) (a9)) (by rfl) (by decide) (.inl rfl)
  refine aR ?_ ?_
  .exact ny (c3 (bU (au (by rfl)) (a9)) (a9) eX) (au (by rfl)) (a9)
  refine aR ?_ ?_
  .exact ny (c3 (c3 (c3 (c3 (bU (au (by rfl)) (a9)) (a9) tG) (c3 (au (by rfl)) (a9) ni) eX) (a9) eX) (a9) ni) (au (by rfl)) (a9)
  refine aR ?_ ?_
  .exact cL (c3 (c3 (bU (au (by rfl)) (a9)) (a9) Ip) (au (by rfl)) ni)
  exact bf
 exact fg (xs:=["pool","many"]) (m:=2) B (B.X _ _ (lI w.params)) rfl (codeRec_of B.X (by kernel_rfl)) rfl (j0 λ_ _=>rfl) rfl ⟨_,rfl⟩ (by decide) (by decide) (by decide) ag
theorem E'(B:bK (KK w.params) h₁):OpOk prog w h₁ (k+2) (λvs=>call (.ref 289) vs) rX:=by
 have ag:∀aU,SOk prog w h₁ (callEnvC vw aU 289) ["pool","found","sid","many"] (k+1) (execs va (callEnvC vw aU 289)) rT:=by
  intro aU
  unfold rT va pick
  refine aR ?_ ?_
  .refine dQ (e:=_) ?_ ?_ ?_ ?_ ?_ ?_
   .refine js ?_
    refine ax ?_ ?_ ?_
    .refine cJ ?_
     refine ax ?_ ?_ ?_
     .exact bN
     .refine ax ?_ ?_ ?_
      .exact a9
      .exact aN
      .rfl
     .rfl
    .refine ax ?_ ?_ ?_
     .refine cJ ?_
      refine ax ?_ ?_ ?_
      .exact bN
      .refine ax ?_ ?_ ?_
       .exact a9
       .exact aN
       .rfl
      .rfl
     .refine ax ?_ ?_ ?_
      .refine cJ ?_
       refine ax ?_ ?_ ?_
       .exact bN
       .refine ax ?_ ?_ ?_
        .exact a9
        .refine ax ?_ ?_ ?_
         .exact a9
         .exact aN
         .rfl
        .rfl
       .rfl
      .refine ax ?_ ?_ ?_
       .refine cJ ?_
        refine ax ?_ ?_ ?_
        .exact bN
        .refine ax ?_ ?_ ?_
         .exact qK
         .exact aN
         .rfl
        .rfl
       .exact aN
       .rfl
      .rfl
     .rfl
    .rfl
   .rfl
   .decide
   .exact .inl rfl
   .rfl
   .rfl
  refine aR ?_ ?_
  .exact hD (gE PySem.F.plainAttrs_list PySem.F.slot_list_append PySem.F.type_list_append iX (au (by rfl)) (ax (cJ (ax (bN) (ax (a9) (aN)))) (aN)) ki)
  refine aR ?_ ?_
  .exact hD (gE PySem.F.plainAttrs_list PySem.F.slot_list_append PySem.F.type_list_append iX (au (by rfl)) (ax (cJ (ax (bN) (ax (c3 (a9) (cC (B.X _ _ (lI w.params)) rfl (l7 B) (ax (au (by rfl)) (ax (a9) (aN))) (l5 (k:=k+0) B)) eX) (ax (a9) (ax (gC (lp B) (ax (a9) (aN)) mh) (ax (gC (lp B) (ax (a9) (aN)) mh) (aN))))))) (aN)) ki)
  refine aR ?_ ?_
  .refine jH (gC (sL B) (ax (c3 (a9) (cC (B.X _ _ (lI w.params)) rfl (l7 B) (ax (au (by rfl)) (ax (a9) (aN))) (l5 (k:=k+0) B)) eX) (aN)) tH) (fK (by rfl) (by decide) (.inr ⟨rfl,rfl,rfl⟩)) ?_
   .unfold Df
    refine aR ?_ ?_
    .exact dQ (c3 (a9) (cC (B.X _ _ (lI w.params)) rfl (l7 B) (ax (au (by rfl)) (ax (a9) (aN))) (l5 (k:=k+0) B)) eX) (by rfl) (by decide) (.inl rfl)
    refine aR ?_ ?_
    .exact hD (gE PySem.F.plainAttrs_list PySem.F.slot_list_append PySem.F.type_list_append iX (au (by rfl)) (ax (cJ (ax (bN) (ax (c3 (a9) (au (by rfl)) tG) (ax (a9) (ax (gC (lp B) (ax (kD (ns':=["at","sid"]) (gC (sL B) (ax (au (by rfl)) (aN)) tH) (by first|rfl|kernel_rfl) (λ_=>iN) (by decide) (by rfl) (by decide) (λ_=>fK (by rfl) (by decide) (.inl rfl)) (λ_=>nO) (λ_=>c3 (c3 (au (by rfl)) (au (by rfl)) eX) (a9) ni)) (aN)) mh) (ax (hY) (aN))))))) (aN)) ki)
    exact bf
  refine aR ?_ ?_
  .exact hD (gE PySem.F.plainAttrs_list PySem.F.slot_list_append PySem.F.type_list_append iX (au (by rfl)) (ax (cJ (ax (bN) (ax (a9) (ax (gC (lp B) (ax (kD (ns':=["at"]) (gC (sL B) (ax (c3 (a9) (cC (B.X _ _ (lI w.params)) rfl (l7 B) (ax (au (by rfl)) (ax (a9) (aN))) (l5 (k:=k+0) B)) eX) (aN)) tH) (by first|rfl|kernel_rfl) (λ_=>iN) (by decide) (by rfl) (by decide) (λ_=>fK (by rfl) (by decide) (.inl rfl)) (λ_=>nO) (λ_=>c3 (c3 (a9) (au (by rfl)) eX) (a9) ni)) (aN)) mh) (aN))))) (aN)) ki)
  refine aR ?_ ?_
  .exact cL (au (by rfl))
  exact bf
 refine vu (prog:=prog) (w:=w) (fa:=289) (o:=zO) (fd:=vw) (body:=va) (xs:=["pool"]) (ns:=["pool","found","sid","many"]) (m:=3) (D:=rT) (k:=k+1) B ?g1 ?g2 ?g3 ?g4 ?g5 ?g6 ?g7 ?g8 ?g9 ?g10 ?g11 ?g12 ?g13
 case g10=>with_reducible exact ag
 case g1=>exact B.X _ _ (A7 w.params)
 case g3=>exact codeRec_of B.X (by kernel_rfl)
 case g5=>exact ip λ_=>rfl
 case g7=>exact⟨_,rfl⟩
 case g8=>decide
 case g9=>decide
 all_goals rfl
theorem y'(B:bK (KK w.params) h₁):OpOk prog w h₁ (k+1) (λvs=>call (.ref 296) vs) k7:=by
 have ag:∀aU,SOk prog w h₁ (callEnv zC aU 296) ["world","frames","frame","name","at","data","step","octet"] (k+0) (execs yC (callEnv zC aU 296)) ui:=by
  intro aU
  unfold ui yC pick
  refine aR ?_ ?_
  .refine jH (au (by rfl)) (fK (by rfl) (by decide) (.inl rfl)) ?_
   .unfold De
    refine aR ?_ ?_
    .refine c9 (b0 (bU (au (by rfl)) (a9)) (cJ (ax (bN) (ax (bN) (aN)))) iU) ?_ ?_
     .refine aR ?_ ?_
      .first
        |exact km (hZ (b0 (bU (au (by rfl)) (a9)) (bN) dZ) (cJ (ax (bU (au (by rfl)) (a9)) (ax (bU (au (by rfl)) (a9)) (ax (bU (au (by rfl)) (a9)) (aN))))) (cJ (ax (bN) (ax (bU (au (by rfl)) (a9)) (ax (bU (au (by rfl)) (a9)) (aN)))))) (ij (.cons (by rfl) (.inl rfl) (.cons (by rfl) (.inl rfl) (.cons (by rfl) (.inl rfl) (.nil)))) (by decide))
        |exact kl (xs:=["name","at","data"]) (hZ (b0 (bU (au (by rfl)) (a9)) (bN) dZ) (cJ (ax (bU (au (by rfl)) (a9)) (ax (bU (au (by rfl)) (a9)) (ax (bU (au (by rfl)) (a9)) (aN))))) (cJ (ax (bN) (ax (bU (au (by rfl)) (a9)) (ax (bU (au (by rfl)) (a9)) (aN)))))) (by rfl) (by repeat (first|exact List.forall_mem_nil _|refine List.forall_mem_cons.mpr ⟨.inl rfl,?_⟩|refine List.forall_mem_cons.mpr ⟨.inr ⟨rfl,rfl,rfl⟩,?_⟩)) (by decide) (by decide)
      refine aR ?_ ?_
      .refine BU (zU B) (au (by rfl)) (ij (.cons (by rfl) (.inl rfl) (.cons (by rfl) (.inl rfl) (.nil))) (by decide)) ?_
       .unfold Dd
        refine aR ?_ ?_
        .exact ny (au (by rfl)) (bU (au (by rfl)) (bN)) (cJ (ax (au (by rfl)) (ax (c3 (au (by rfl)) (au (by rfl)) eX) (aN))))
        exact bf
      refine aR ?_ ?_
      .refine c9 (hJ (kz (b0 (bU (au (by rfl)) (a9)) (bN) dZ) (kz (mH (bU (au (by rfl)) (a9))) (qC)))) ?_ ?_
       .refine aR ?_ ?_
        .exact ny (c3 (au (by rfl)) (ir (kE B) (ax (au (by rfl)) (aN)) kT) eX) (bU (au (by rfl)) (bN)) (au (by rfl))
        exact bf
       .exact bf
      exact bf
     .refine aR ?_ ?_
      .exact hD (gE PySem.F.plainAttrs_list PySem.F.slot_list_append PySem.F.type_list_append iX (bU (au (by rfl)) (bN)) (ax (au (by rfl)) (aN)) ki)
      exact bf
    exact bf
  exact bf
 exact fg (xs:=["world","frames"]) (m:=6) B (B.X _ _ (wx w.params)) rfl (codeRec_of B.X (by kernel_rfl)) rfl (j0 λ_ _=>rfl) rfl ⟨_,rfl⟩ (by decide) (by decide) (by decide) ag
theorem Pc(B:bK (KK w.params) h₁):OpOk prog w h₁ (k+1) (λvs=>call (.ref 303) vs) rY:=by
 have ag:∀aU,SOk prog w h₁ (callEnv zD aU 303) ["world","given","due","ends","frame","name","data","at","octet"] (k+0) (execs yD (callEnv zD aU 303)) um:=by
  intro aU
  unfold um yD pick
  refine aR ?_ ?_
  .first
    |exact km (cJ (ax (lk (.t)) (ax (lk (.a)) (aN)))) (ij (.cons (by rfl) (.inl rfl) (.cons (by rfl) (.inl rfl) (.nil))) (by decide))
    |exact kl (xs:=["due","ends"]) (cJ (ax (lk (.t)) (ax (lk (.a)) (aN)))) (by rfl) (by repeat (first|exact List.forall_mem_nil _|refine List.forall_mem_cons.mpr ⟨.inl rfl,?_⟩|refine List.forall_mem_cons.mpr ⟨.inr ⟨rfl,rfl,rfl⟩,?_⟩)) (by decide) (by decide)
  refine aR ?_ ?_
  .refine jH (au (by rfl)) (fK (by rfl) (by decide) (.inl rfl)) ?_
   .unfold Di
    refine aR ?_ ?_
    .refine c9 (b0 (bU (au (by rfl)) (a9)) (cJ (ax (bN) (ax (bN) (aN)))) iU) ?_ ?_
     .refine aR ?_ ?_
      .first
        |exact km (hZ (b0 (bU (au (by rfl)) (a9)) (bN) dZ) (cJ (ax (bU (au (by rfl)) (a9)) (ax (bU (au (by rfl)) (a9)) (aN)))) (cJ (ax (bN) (ax (bU (au (by rfl)) (a9)) (aN))))) (ij (.cons (by rfl) (.inl rfl) (.cons (by rfl) (.inl rfl) (.nil))) (by decide))
        |exact kl (xs:=["name","data"]) (hZ (b0 (bU (au (by rfl)) (a9)) (bN) dZ) (cJ (ax (bU (au (by rfl)) (a9)) (ax (bU (au (by rfl)) (a9)) (aN)))) (cJ (ax (bN) (ax (bU (au (by rfl)) (a9)) (aN))))) (by rfl) (by repeat (first|exact List.forall_mem_nil _|refine List.forall_mem_cons.mpr ⟨.inl rfl,?_⟩|refine List.forall_mem_cons.mpr ⟨.inr ⟨rfl,rfl,rfl⟩,?_⟩)) (by decide) (by decide)
      refine aR ?_ ?_
      .refine BU (zU B) (au (by rfl)) (ij (.cons (by rfl) (.inl rfl) (.cons (by rfl) (.inl rfl) (.nil))) (by decide)) ?_
       .unfold Dh
        refine aR ?_ ?_
        .exact ny (au (by rfl)) (au (by rfl)) (cJ (ax (au (by rfl)) (ax (au (by rfl)) (aN))))
        exact bf
      refine aR ?_ ?_
      .refine c9 (b0 (bU (au (by rfl)) (a9)) (bN) dZ) ?_ ?_
       .refine aR ?_ ?_
        .exact ny (ir (kE B) (ax (au (by rfl)) (aN)) kT) (au (by rfl)) (au (by rfl))
        exact bf
       .exact bf
      exact bf
     .exact bf
    exact bf
  refine aR ?_ ?_
  .exact cL (y3 (sy (bU (au (by rfl)) (bN)) (au (by rfl)) dZ) (sy (bU (au (by rfl)) (bN)) (au (by rfl)) dZ))
  exact bf
 exact fg (xs:=["world","given"]) (m:=7) B (B.X _ _ (HI w.params)) rfl (codeRec_of B.X (by kernel_rfl)) rfl (j0 λ_ _=>rfl) rfl ⟨_,rfl⟩ (by decide) (by decide) (by decide) ag
end
section
variable{prog:Program}{w:World}{h₁:Heap}{k:Nat}
theorem Fb(B:bK (KK w.params) h₁):OpOk prog w h₁ (k+11) (λvs=>call (.ref 308) vs) oR:=by
 have ag:∀aU,SOk prog w h₁ (callEnv zE aU 308) ["pool","world","frames","room","now","lists","row","kind"] (k+10) (execs yE (callEnv zE aU 308)) uk:=by
  intro aU
  unfold uk yE pick
  refine aR ?_ ?_
  .exact dQ (cC (B.X _ _ (HB w.params)) rfl (Qh B) (ax (au (by rfl)) (ax (au (by rfl)) (aN))) (Pf (k:=k+0) B)) (by rfl) (by decide) (.inl rfl)
  refine aR ?_ ?_
  .refine c9 (b0 (au (by rfl)) (gb) p4) ?_ ?_
   .refine aR ?_ ?_
    .exact cL (hY)
    exact bf
   .exact bf
  refine aR ?_ ?_
  .refine jH (au (by rfl)) (fK (by rfl) (by decide) (.inl rfl)) ?_
   .unfold Dg
    refine aR ?_ ?_
    .refine c9 (hJ (fG (b0 (au (by rfl)) (gD (aN)) dZ) (fG (b0 (ir (Gm B) (ax (kD (ns':=["frame"]) (au (by rfl)) (by first|rfl|kernel_rfl) (λ_=>iN) (by decide) (by rfl) (by decide) (λ_=>fK (by rfl) (by decide) (.inl rfl)) (λ_=>nO) (λ_=>ir (kE B) (ax (cC (B.X _ _ (A2 w.params)) rfl (Gj B) (ax (au (by rfl)) (aN)) (Fg (k:=k+5) B)) (aN)) kT)) (aN)) Iv) (au (by rfl)) p3) (j2)))) ?_ ?_
     .refine aR ?_ ?_
      .exact cL (hY)
      exact bf
     .exact bf
    refine aR ?_ ?_
    .exact dQ (bU (gD (ax (bN) (ax (bN) (ax (bN) (ax (bN) (ax (bN) (ax (bN) (aN)))))))) (c3 (ir (kE B) (ax (bU (au (by rfl)) (bN)) (aN)) kT) (a9) ni)) (by rfl) (by decide) (.inl rfl)
    refine aR ?_ ?_
    .refine c9 (b0 (sz B (kA w.params) (by kernel_rfl) (by kernel_rfl) (B.X _ _ (HF w.params)) rfl (bU (au (by rfl)) (bN)) (ax (au (by rfl)) (aN)) (Pl (k:=k+9) B)) (gb) p4) ?_ ?_
     .refine aR ?_ ?_
      .exact hD (sz B (kA w.params) (by kernel_rfl) (by kernel_rfl) (B.X _ _ (A6 w.params)) rfl (bU (au (by rfl)) (bN)) (ax (au (by rfl)) (ax (c3 (c3 (au (by rfl)) (a9) eX) (cC (B.X _ _ (lI w.params)) rfl (l7 B) (ax (au (by rfl)) (ax (a9) (aN))) (l5 (k:=k+9) B)) eX) (aN))) (Fe (k:=k+7) B))
      refine aR ?_ ?_
      .exact hD (gE PySem.F.plainAttrs_list PySem.F.slot_list_append PySem.F.type_list_append iX (bU (au (by rfl)) (bN)) (ax (cJ (ax (au (by rfl)) (ax (au (by rfl)) (aN)))) (aN)) ki)
      exact bf
     .refine aR ?_ ?_
      .exact hD (cC (B.X _ _ (wx w.params)) rfl (zS B) (ax (au (by rfl)) (ax (au (by rfl)) (aN))) (y' (k:=k+9) B))
      exact bf
    refine aR ?_ ?_
    .exact hD (gE PySem.F.plainAttrs_list PySem.F.slot_list_extend PySem.F.type_list_extend iX (bU (au (by rfl)) (bN)) (ax (au (by rfl)) (aN)) Io)
    exact bf
  refine aR ?_ ?_
  .exact cL (hY)
  exact bf
 exact fg (xs:=["pool","world","frames","room","now"]) (m:=3) B (B.X _ _ (A8 w.params)) rfl (codeRec_of B.X (by kernel_rfl)) rfl (Ml λ_ _ _ _ _=>rfl) rfl ⟨_,rfl⟩ (by decide) (by decide) (by decide) ag
end
section
variable{prog:Program}{w:World}{h₁:Heap}{own:Bool}{env:Env}{ns:List Str}{k:Nat}
theorem wW:o3 prog w h₁ own env ns k (evalPairs (pairTrees [] [] env pos)) kh:=XF
theorem nj(hk:bj prog w h₁ own env ns k (eval AS env) rV)(a0:bj prog w h₁ own env ns k (eval B' env) mx)
 (aI:o3 prog w h₁ own env ns k (evalPairs (pairTrees ks vs env pos)) P):o3 prog w h₁ own env ns k (evalPairs (pairTrees (some AS::ks) (B'::vs) env pos)) (gA rV mx P):=by
 rw[pairTrees]
 exact XB hk a0 aI
end
section
variable{prog:Program}{w:World}{h₁:Heap}{k:Nat}
theorem Ph(B:bK (KK w.params) h₁):OpOk prog w h₁ (k+12) (λvs=>call (.ref 313) vs) uT:=by
 have ag:∀aU,SOk prog w h₁ (callEnvC vx aU 313) ["script","pool","given","room","now","done","blocked","world","anew","turn","first","due","lost","kind","row","part","left","names"] (k+11) (execs vb (callEnvC vx aU 313)) rU:=by
  intro aU
  unfold rU vb pick
  refine aR ?_ ?_
  .first
    |exact JH (ns':=["cell"]) (nZ (au (by rfl)) (ov) (ow (a9))) (by first|rfl|kernel_rfl) (λ_=>iN) (by decide) (by rfl) (by decide) (λ_=>fK (by rfl) (by decide) (.inl rfl)) (λ_=>nO) (λ_=>gC (Gh B) (ax (au (by rfl)) (aN)) Ir) (by rfl) (by decide) (.inl rfl) (by rfl)
    |exact dQ (kD (ns':=["cell"]) (nZ (au (by rfl)) (ov) (ow (a9))) (by first|rfl|kernel_rfl) (λ_=>iN) (by decide) (by rfl) (by decide) (λ_=>fK (by rfl) (by decide) (.inl rfl)) (λ_=>nO) (λ_=>gC (Gh B) (ax (au (by rfl)) (aN)) Ir)) (by rfl) (by decide) (.inl rfl)
  refine aR ?_ ?_
  .exact dQ (js (ax (c3 (ir (Gm B) (ax (au (by rfl)) (aN)) Iv) (a9) ni) (ax (au (by rfl)) (ax (a9) (aN))))) (by rfl) (by decide) (.inl rfl)
  refine aR ?_ ?_
  .first
    |exact km (cJ (ax (cC (B.X _ _ (A7 w.params)) rfl (Gd B) (ax (au (by rfl)) (aN)) (E' (k:=k+9) B)) (ax (c3 (a9) (cC (B.X _ _ (lI w.params)) rfl (l7 B) (ax (au (by rfl)) (ax (a9) (aN))) (l5 (k:=k+10) B)) eX) (ax (a9) (aN))))) (ij (.cons (by rfl) (.inl rfl) (.cons (by rfl) (.inl rfl) (.cons (by rfl) (.inl rfl) (.nil)))) (by decide))
    |exact kl (xs:=["given","room","now"]) (cJ (ax (cC (B.X _ _ (A7 w.params)) rfl (Gd B) (ax (au (by rfl)) (aN)) (E' (k:=k+9) B)) (ax (c3 (a9) (cC (B.X _ _ (lI w.params)) rfl (l7 B) (ax (au (by rfl)) (ax (a9) (aN))) (l5 (k:=k+10) B)) eX) (ax (a9) (aN))))) (by rfl) (by repeat (first|exact List.forall_mem_nil _|refine List.forall_mem_cons.mpr ⟨.inl rfl,?_⟩|refine List.forall_mem_cons.mpr ⟨.inr ⟨rfl,rfl,rfl⟩,?_⟩)) (by decide) (by decide)
  refine aR ?_ ?_
  .exact dQ (hZ (b0 (cC (B.X _ _ (lI w.params)) rfl (l7 B) (ax (au (by rfl)) (ax (a9) (aN))) (l5 (k:=k+10) B)) (a9) dZ) (vr iJ.t (nj (cJ (ax (bN) (ax (a9) (aN)))) (hY) (wW))) (lk iJ.t)) (by rfl) (by decide) (.inl rfl)
  refine aR ?_ ?_
  .exact dQ (hZ (b0 (cC (B.X _ _ (lI w.params)) rfl (l7 B) (ax (au (by rfl)) (ax (a9) (aN))) (l5 (k:=k+10) B)) (a9) dZ) (vr iJ.t (nj (cJ (ax (bN) (ax (gb) (aN)))) (a9) (wW))) (lk iJ.t)) (by rfl) (by decide) (.inl rfl)
  refine aR ?_ ?_
  .refine dQ (e:=_) ?_ ?_ ?_ ?_ ?_ ?_
   .refine@vr _ _ _ _ _ _ _ _ _ _ _ _ iJ.a ?_ ?_ ?_ ?_ ?_
    .refine nj ?_ ?_ ?_
     .exact bN
     .exact js (aN)
     .refine nj ?_ ?_ ?_
      .exact bN
      .exact js (aN)
      .refine nj ?_ ?_ ?_
       .exact bN
       .exact js (aN)
       .refine nj ?_ ?_ ?_
        .exact bN
        .exact lk iJ.t
        .refine nj ?_ ?_ ?_
         .exact bN
         .exact lk iJ.a
         .refine nj ?_ ?_ ?_
          .exact bN
          .exact OX B (kA w.params) (Sg B) (by kernel_rfl) (by kernel_rfl) (PT B)
          .exact wW
    .rfl
    .rfl
    .exactλq=>nomatch q
    .decide
   .rfl
   .decide
   .exact .inl rfl
   .rfl
   .rfl
  refine aR ?_ ?_
  .refine c9 (yb (mH (cC (B.X _ _ (A8 w.params)) rfl (Ge B) (ax (au (by rfl)) (ax (au (by rfl)) (ax (au (by rfl)) (ax (au (by rfl)) (ax (au (by rfl)) (aN)))))) (Fb (k:=k+0) B)))) ?_ ?_
   .refine aR ?_ ?_
    .exact cL (hY)
    exact bf
   .exact bf
  refine aR ?_ ?_
  .exact dQ (gD (aN)) (by rfl) (by decide) (.inl rfl)
  refine aR ?_ ?_
  .refine jH (gC (sL B) (ax (a9) (aN)) tH) (fK (by rfl) (by decide) (.inl rfl)) ?_
   .unfold Dp
    refine aR ?_ ?_
    .exact dQ (cC (B.X _ _ (A5 w.params)) rfl (Gi B) (ax (sx B (kA w.params) (bU (au (by rfl)) (bN))) (aN)) (Ff (k:=k+10) B)) (by rfl) (by decide) (.inl rfl)
    refine aR ?_ ?_
    .refine c9 (b0 (au (by rfl)) (gb) p4) ?_ ?_
     .refine aR ?_ ?_
      .exact YK
      exact bf
     .exact bf
    refine aR ?_ ?_
    .refine c9 (hJ (fG (b0 (bU (au (by rfl)) (a9)) (au (by rfl)) p5) (fG (b0 (bU (au (by rfl)) (a9)) (sz B (kA w.params) (by kernel_rfl) (by kernel_rfl) (B.X _ _ (HG w.params)) rfl (bU (au (by rfl)) (bN)) (aN) (Pj (k:=k+9) B)) lL) (j2)))) ?_ ?_
     .refine aR ?_ ?_
      .exact cL (hY)
      exact bf
     .exact bf
    refine aR ?_ ?_
    .exact dQ (bU (au (by rfl)) (a9)) (by rfl) (by decide) (.inl rfl)
    refine aR ?_ ?_
    .exact dQ (sz B (kA w.params) (by kernel_rfl) (by kernel_rfl) (B.X _ _ (HH w.params)) rfl (bU (au (by rfl)) (bN)) (ax (au (by rfl)) (aN)) (Pk (k:=k+7) B)) (by rfl) (by decide) (.inl rfl)
    refine aR ?_ ?_
    .refine c9 (hJ (fG (b0 (au (by rfl)) (gD (aN)) dZ) (fG (b0 (bU (au (by rfl)) (a9)) (bU (au (by rfl)) (a9)) lL) (j2)))) ?_ ?_
     .refine aR ?_ ?_
      .exact cL (hY)
      exact bf
     .exact bf
    refine aR ?_ ?_
    .exact dQ (js (aN)) (by rfl) (by decide) (.inl rfl)
    refine aR ?_ ?_
    .refine jH (au (by rfl)) (fK (by rfl) (by decide) (.inr ⟨rfl,rfl,rfl⟩)) ?_
     .unfold Dn
      refine aR ?_ ?_
      .exact dQ (bU (kD (ns':=["one","kind"]) (bU (au (by rfl)) (bN)) (by first|rfl|kernel_rfl) (λ_=>iN) (by decide) (by rfl) (by decide) (λ_=>fK (by rfl) (by decide) (.inl rfl)) (λ_=>nP (b0 (bU (au (by rfl)) (a9)) (au (by rfl)) dZ)) (λ_=>bU (au (by rfl)) (a9))) (a9)) (by rfl) (by decide) (.inl rfl)
      refine aR ?_ ?_
      .exact ny (EZ (ns':=["one","kind"]) (bU (au (by rfl)) (bN)) (by first|rfl|kernel_rfl) (λ_=>iN) (by decide) (by rfl) (by decide) (λ_=>fK (by rfl) (by decide) (.inl rfl)) (λ_=>nP (b0 (bU (au (by rfl)) (a9)) (au (by rfl)) lL)) (λ_=>au (by rfl))) (au (by rfl)) (bN)
      refine aR ?_ ?_
      .refine c9 (hJ (fG (hJ (kz (b0 (au (by rfl)) (a9) p5) (kz (b0 (cC (B.X _ _ (lI w.params)) rfl (l7 B) (ax (au (by rfl)) (ax (a9) (aN))) (l5 (k:=k+10) B)) (a9) p3) (qC)))) (fG (b0 (au (by rfl)) (a9) dZ) (j2)))) ?_ ?_
       .refine aR ?_ ?_
        .exact hD (gE PySem.F.plainAttrs_list PySem.F.slot_list_extend PySem.F.type_list_extend iX (au (by rfl)) (ax (au (by rfl)) (aN)) Io)
        exact bf
       .refine aR ?_ ?_
        .exact hD (cC (B.X _ _ (wx w.params)) rfl (zS B) (ax (au (by rfl)) (ax (au (by rfl)) (aN))) (y' (k:=k+10) B))
        exact bf
      exact bf
    refine aR ?_ ?_
    .exact dQ (c3 (cC (B.X _ _ (HK w.params)) rfl (Qp B) (ax (au (by rfl)) (ax (vr iJ.t (nj (cJ (ax (bN) (ax (gb) (aN)))) (a9) (wW))) (ax (au (by rfl)) (ax (au (by rfl)) (aN))))) (Pr (k:=k+8) B)) (cC (B.X _ _ (HL w.params)) rfl (Qg B) (ax (au (by rfl)) (aN)) (Pe (k:=k+9) B)) eX) (by rfl) (by decide) (.inl rfl)
    refine aR ?_ ?_
    .refine c9 (hJ (fG (b0 (kD (ns':=["frame"]) (au (by rfl)) (by first|rfl|kernel_rfl) (λ_=>iN) (by decide) (by rfl) (by decide) (λ_=>fK (by rfl) (by decide) (.inl rfl)) (λ_=>nP (b0 (bU (au (by rfl)) (a9)) (bN) dZ)) (λ_=>au (by rfl))) (cJ (ax (gD (aN)) (ax (gD (ax (cJ (ax (bN) (ax (a9) (aN)))) (aN))) (aN)))) Br) (fG (b0 (cJ (ax (bN) (ax (qK) (aN)))) (au (by rfl)) iU) (j2)))) ?_ ?_
     .refine aR ?_ ?_
      .exact cL (hY)
      exact bf
     .exact bf
    refine aR ?_ ?_
    .refine c9 (hJ (fG (hJ (kz (b0 (cJ (ax (bN) (ax (a9) (aN)))) (au (by rfl)) iU) (kz (b0 (au (by rfl)) (lk iJ.t) dZ) (qC)))) (fG (hJ (kz (b0 (cJ (ax (bN) (ax (a9) (ax (a9) (aN))))) (au (by rfl)) iU) (kz (b0 (au (by rfl)) (lk iJ.t) lL) (qC)))) (j2)))) ?_ ?_
     .refine aR ?_ ?_
      .exact cL (hY)
      exact bf
     .exact bf
    refine aR ?_ ?_
    .refine c9 (yb (mH (cC (B.X _ _ (A8 w.params)) rfl (Ge B) (ax (au (by rfl)) (ax (au (by rfl)) (ax (au (by rfl)) (ax (au (by rfl)) (ax (au (by rfl)) (aN)))))) (Fb (k:=k+0) B)))) ?_ ?_
     .refine aR ?_ ?_
      .exact cL (hY)
      exact bf
     .exact bf
    exact bf
  refine aR ?_ ?_
  .refine jH (bU (au (by rfl)) (bN)) (ij (.cons (by rfl) (.inr ⟨rfl,rfl,rfl⟩) (.cons (by rfl) (.inl rfl) (.nil))) (by decide)) ?_
   .unfold Dq
    refine aR ?_ ?_
    .exact hD (cC (B.X _ _ (wx w.params)) rfl (zS B) (ax (au (by rfl)) (ax (au (by rfl)) (aN))) (y' (k:=k+10) B))
    exact bf
  refine aR ?_ ?_
  .first
    |exact km (cC (B.X _ _ (ts w.params)) rfl (vE B) (ax (gD (ax (cJ (ax (bN) (ax (a9) (ax (gC (lp B) (ax (a9) (aN)) mh) (aN))))) (ax (cJ (ax (bN) (aN))) (aN)))) (ax (a9) (aN))) (vv (k:=k+2) B)) (ij (.cons (by rfl) (.inl rfl) (.cons (by rfl) (.inl rfl) (.nil))) (by decide))
    |exact kl (xs:=["part","left"]) (cC (B.X _ _ (ts w.params)) rfl (vE B) (ax (gD (ax (cJ (ax (bN) (ax (a9) (ax (gC (lp B) (ax (a9) (aN)) mh) (aN))))) (ax (cJ (ax (bN) (aN))) (aN)))) (ax (a9) (aN))) (vv (k:=k+2) B)) (by rfl) (by repeat (first|exact List.forall_mem_nil _|refine List.forall_mem_cons.mpr ⟨.inl rfl,?_⟩|refine List.forall_mem_cons.mpr ⟨.inr ⟨rfl,rfl,rfl⟩,?_⟩)) (by decide) (by decide)
  refine aR ?_ ?_
  .refine c9 (hJ (fG (yb (mH (cC (B.X _ _ (HI w.params)) rfl (Qb B) (ax (au (by rfl)) (ax (au (by rfl)) (aN))) (Pc (k:=k+10) B)))) (fG (b0 (au (by rfl)) (gD (ax (cJ (ax (bN) (ax (a9) (ax (gC (lp B) (ax (a9) (aN)) mh) (aN))))) (aN))) lL) (fG (b0 (au (by rfl)) (gD (ax (cJ (ax (bN) (ax (a9) (ax (gC (lp B) (ax (a9) (aN)) mh) (aN))))) (ax (cJ (ax (bN) (aN))) (aN)))) lL) (j2))))) ?_ ?_
   .refine aR ?_ ?_
    .exact cL (hY)
    exact bf
   .exact bf
  refine aR ?_ ?_
  .refine c9 (b0 (gE PySem.F.plainAttrs_list PySem.F.slot_list_count PySem.F.type_list_count iX (bU (au (by rfl)) (bN)) (ax (cJ (ax (bN) (ax (qK) (aN)))) (aN)) TX) (a9) lL) ?_ ?_
   .refine aR ?_ ?_
    .exact cL (hY)
    exact bf
   .exact bf
  refine aR ?_ ?_
  .first
    |exact JH (ns':=["frame"]) (au (by rfl)) (by first|rfl|kernel_rfl) (λ_=>iN) (by decide) (by rfl) (by decide) (λ_=>fK (by rfl) (by decide) (.inl rfl)) (λ_=>nP (b0 (bU (au (by rfl)) (a9)) (bN) dZ)) (λ_=>au (by rfl)) (by rfl) (by decide) (.inl rfl) (by rfl)
    |exact dQ (kD (ns':=["frame"]) (au (by rfl)) (by first|rfl|kernel_rfl) (λ_=>iN) (by decide) (by rfl) (by decide) (λ_=>fK (by rfl) (by decide) (.inl rfl)) (λ_=>nP (b0 (bU (au (by rfl)) (a9)) (bN) dZ)) (λ_=>au (by rfl))) (by rfl) (by decide) (.inl rfl)
  refine aR ?_ ?_
  .exact cL (y3 (sy (bU (au (by rfl)) (a9)) (bU (au (by rfl)) (bN)) iU) (sy (kD (ns':=["frame"]) (bU (au (by rfl)) (bN)) (by first|rfl|kernel_rfl) (λ_=>iN) (by decide) (by rfl) (by decide) (λ_=>fK (by rfl) (by decide) (.inl rfl)) (λ_=>nP (b0 (bU (au (by rfl)) (a9)) (bN) dZ)) (λ_=>au (by rfl))) (gD (aN)) lL))
  exact bf
 refine vu (prog:=prog) (w:=w) (fa:=313) (o:=zP) (fd:=vx) (body:=vb) (xs:=["script"]) (ns:=["script","pool","given","room","now","done","blocked","world","anew","turn","first","due","lost","kind","row","part","left","names"]) (m:=17) (D:=rU) (k:=k+11) B ?g1 ?g2 ?g3 ?g4 ?g5 ?g6 ?g7 ?g8 ?g9 ?g10 ?g11 ?g12 ?g13
 case g10=>with_reducible exact ag
 case g1=>exact B.X _ _ (S7 w.params)
 case g3=>exact codeRec_of B.X (by kernel_rfl)
 case g5=>exact ip λ_=>rfl
 case g7=>exact⟨_,rfl⟩
 case g8=>decide
 case g9=>decide
 all_goals rfl
end
theorem NP:nX.name="law":=by kernel_rfl
theorem Sv(pure:∀l:List Int,l.length<=63->∃aZ,uT [.bo (l.map J.int)] ⟨λ_=>none,0⟩=some (.bool true,aZ)):PySem.Challenge.rw_nz0352_01.Holds:=by
 refine head ?_
 intro w nB bh jC nf G x2 fa o nt nQ doc su tj aH aB jb ao Aj aT args oF as j' qT Aw RX Rj
 have X:(KK w.params).In bh.heap:=kIn_of x2
 refine Ground.open G ?_
 intro T B D TE Lr
 have ag:bK (KK w.params) bh.heap:=⟨X,⟨jC,nf,T.g,T.b,λx av=>T.builtins x av⟩,T.nolimit⟩
 have Q3:fa=313:=by
  have e:nsIn (KK w.params) mainGlobals "law"=some (some (.ref 313)):=by kernel_rfl
  have:=mg_of X T.g e
  rw[NP] at Aj
  exact(Value.ref.inj (Option.some.inj (this.symm.trans Aj))).symm
 subst Q3
 clear D TE Lr B aH aB jb ao Aj
 wrow_args j' qT Aw RX Rj
 rename_i l hs abT abP pG mZ abK i7 SJ items ab0 QJ abV lD qY h5 Ax z5 n9
 obtain⟨aZ,hp⟩:=pure l (by exact aC.W9 z5)
 have R:bw Challenge.rw_nz0352_01.row.prog w bh.heap ⟨λa=>match bh.heap.get? a with|some o=>.imm o|none=>.free,λ_=>0⟩ ⟨λ_=>none,0⟩ bh.heap:=by
  refine⟨?_,λa o e=>by simp only[e],λa o e=>?_,λa o e=>?_,λa e=>?_,λc x e=>(nomatch e),λc _=>rfl⟩
  .obtain⟨o,es,n,h,_⟩:=T.g
   exact⟨o,h⟩
  .dsimp only at e;split at e
   .rename_i h;cases e;exact h
   .cases e
  .dsimp only at e;split at e<;>cases e
  .dsimp only at e;split at e
   .exact⟨_,by assumption⟩
   .exact absurd rfl e
 have aE:eC callerA 12:=⟨rfl,by decide,by decide,rfl⟩
 have YD:∀{vs:List Value} {is:List Int},IntsAre vs is->∀W n,bt Challenge.rw_nz0352_01.row.prog w W n (is.map J.int) vs:=by
  intro vs is h W n
  induction h with
  |nil=>exact .nil
  |cons _ _ _ aX=>exact .cons (.int _ _) aX
 obtain⟨Ue,RB,Ap,e7,l9⟩:=QJ
 refine Ph (k:=0) ag callerA _ _ _ _ aZ [.ref SJ] bh _ _ aE hp R (.cons (.bo (o:=Ue) (items:=items.toArray) (k:=e7) ?_ Ap l9 (YD h5 _ _)) .nil) ?_
 .simp only[RB]
 intro W' ay h' cI le abZ dA e'
 cases e'
 refine⟨.inl ⟨_,.bool true,[],rfl,λ_=>rfl,.bool _,?_,λ_=>⟨List.nodup_nil,nofun⟩⟩,.of_keep dA.old,rfl,.of_eq aT⟩
 wrow_post
inductive a3 {α:Type} (m:Option (α×St)) (Q:α->St->Prop):Prop
 |mk (a:α) (s:St) (e:m=some (a,s)) (h:Q a s):a3 m Q
inductive dm (m:Option (fy×Loc×St)) (Q:fy->Loc->St->Prop):Prop
 |mk (f:fy) (l:Loc) (s:St) (e:m=some (f,l,s)) (h:Q f l s):dm m Q
section
variable{α bR:Type}{Q:α->St->Prop}{i3:fy->Loc->St->Prop}
theorem a3.a4{m:Option (α×St)}{ku:α->St->Prop}(h:a3 m Q)(bZ:∀a σ,Q a σ->ku a σ):a3 m ku:=by
 obtain⟨a,s,e,h⟩:=h;exact⟨a,s,e,bZ _ _ h⟩
theorem a3.fk{m:Option (α×St)}{x:α}{R:St->Prop}(h:a3 m λv s=>v=x/\R s)(k:∀s,R s->Q x s):a3 m Q:=h.a4 λa s e=>by rw[e.1];exact k s e.2
theorem dm.a4(h:dm m i3)(bZ:∀f l σ,i3 f l σ->ku f l σ):dm m ku:=by
 obtain⟨f,l,s,e,h⟩:=h;exact⟨f,l,s,e,bZ _ _ _ h⟩
theorem a3.bind{m:Option (bR×St)}{f:bR×St->Option (α×St)}(h:a3 m λb s=>a3 (f (b,s)) Q):a3 (m.bind f) Q:=by
 obtain⟨b,s,rfl,a,aY,cZ,h⟩:=h;exact⟨a,aY,cZ,h⟩
theorem a3.fZ{m:Option (bR×St)}{f:bR×St->Option (fy×Loc×St)}(h:a3 m λb s=>dm (f (b,s)) i3):dm (m.bind f) i3:=by
 obtain⟨b,s,rfl,a,l,aY,cZ,h⟩:=h;exact⟨a,l,aY,cZ,h⟩
theorem dm.fZ(h:dm m λa l s=>dm (f (a,l,s)) i3):dm (m.bind f) i3:=by
 obtain⟨b,k,s,rfl,a,l,aY,cZ,h⟩:=h;exact⟨a,l,aY,cZ,h⟩
theorem aJ.wp{m:Option (α×St)}(h:aJ m Q):a3 m Q:=by
 match m,h with
 |some (a,s),h=>exact⟨a,s,rfl,h⟩
theorem gh.map{m:Option bR}{f:bR->α×St}(h:gh m λb=>Q (f b).1 (f b).2):a3 (m.map f) Q:=by
 match m,h with
 |some b,h=>exact⟨_,_,rfl,h⟩
theorem gh.fZ{m:Option bR}{f:bR->Option (fy×Loc×St)}(h:gh m λb=>dm (f b) i3):dm (m.bind f) i3:=by
 match m,h with
 |some b,h=>exact h
theorem gh.JQ{m:Option bR}{f:bR->fy×Loc×St}(h:gh m λb=>i3 (f b).1 (f b).2.1 (f b).2.2):dm (m.map f) i3:=by
 match m,h with
 |some b,h=>exact⟨_,_,_,rfl,h⟩
noncomputable def dv(b:Bool)(A B:Prop):Prop:=match b with
 |true=>A
 |false=>B
theorem a3.some{a:α}(h:Q a s):a3 (some (a,s)) Q:=⟨a,s,rfl,h⟩
theorem dm.some(h:i3 a l s):dm (some (a,l,s)) i3:=⟨a,l,s,rfl,h⟩
theorem dv.wp{m n:Option (α×St)}(h:dv b (a3 m Q) (a3 n Q)):a3 (if b=true then m else n) Q:=by
 cases b<;>exact h
theorem dv.nE(h:dv b (dm m i3) (dm n i3)):dm (if b=true then m else n) i3:=by
 cases b<;>exact h
theorem dv.of(h:dv b A B)(ha:A->KZ)(ag:B->K2):dv b KZ K2:=by
 cases b
 .exact ag h
 .exact ha h
inductive oY (v:J) (s:St) (P:List J->Prop):Prop
 |mk (items:List J) (e:dO v s=some items) (h:P items):oY v s P
theorem dq(e:dO v s=some items)(h:P items):oY v s P:=⟨items,e,h⟩
noncomputable def ou(v:J)(Q:Bool->Prop):Prop:=match v with
 |.bool b=>Q b
 |_=>False
theorem ou.cv{Q:Bool->Prop}(h:ou v Q):∃b,v=.bool b/\Q b:=
 J.casesOn (motive_1:=λv=>ou v Q->∃b,v=.bool b/\Q b) v False.elim (λb h=>⟨b,rfl,h⟩) (λ_ h=>False.elim h) (λ_ h=>False.elim h) (λ_ h=>False.elim h) (λ_ h=>False.elim h) (λ_ h=>False.elim h) (λ_ h=>False.elim h) (λ_ _ _ h=>False.elim h) (λ_ h=>False.elim h) (λ_ h=>False.elim h) h
end
structure TE where
 d:cW
 p:Loc->St->(J->St->Prop)->Prop
 h:∀{U σ Q},p U σ Q->a3 (d U σ) Q
structure fD where
 d:gN
 p:Loc->St->(Bool->St->Prop)->Prop
 h:∀{U σ Q},p U σ Q->a3 (d U σ) Q
structure jX where
 d:k4
 p:Loc->St->(List J->St->Prop)->Prop
 h:∀{U σ Q},p U σ Q->a3 (d U σ) Q
structure qs where
 d:sg
 p:Loc->St->(List (J×J)->St->Prop)->Prop
 h:∀{U σ Q},p U σ Q->a3 (d U σ) Q
structure b5 where
 d:cf
 p:Loc->St->(fy->Loc->St->Prop)->Prop
 h:∀{U σ Q},p U σ Q->dm (d U σ) Q
noncomputable section
namespace TE
noncomputable def mP:TE:=⟨Internal.mP,λ_ _ _=>False,False.elim⟩
noncomputable def C(i:Nat):TE:=⟨Internal.C i,λU σ Q=>match U[i]? with|some (some v)=>Q v σ|_=>False,λ{U σ Q} h=>by
 revert h
 unfold Internal.C
 generalize U[i]? =o
 intro h
 rcases o with _|_|v
 .exact False.elim h
 .exact False.elim h
 .exact .some h⟩
noncomputable def I(v:J):TE:=⟨Internal.I v,λ_ σ Q=>Q v σ,a3.some⟩
noncomputable def af(F:bX)(a b:TE):TE:=⟨Internal.af F a.d b.d,λU σ Q=>a.p U σ λx s=>b.p U s λy t=>aJ (F [x,y] t) Q,
 λh=>a3.bind ((a.h h).a4 λ_ _ h=>a3.bind ((b.h h).a4 λ_ _ h=>h.wp))⟩
noncomputable def jm(F:bX)(a:TE):TE:=⟨Internal.jm F a.d,λU σ Q=>a.p U σ λx s=>aJ (F [x] s) Q,λh=>a3.bind ((a.h h).a4 λ_ _ h=>h.wp)⟩
noncomputable def ez(t:fD)(a b:TE):TE:=⟨Internal.ez t.d a.d b.d,λU σ Q=>t.p U σ λc s=>dv c (a.p U s Q) (b.p U s Q),
 λh=>a3.bind ((t.h h).a4 λ_ _ h=>dv.wp (h.of a.h b.h))⟩
theorem B0(h:dv (Nat.ble n 1000000) (Q v s) False):a3 (if n<=1000000 then some (v,s) else none) Q:=by
 cases e:Nat.ble n 1000000 with
 |false=>rw[e] at h;exact h.elim
 |true=>rw[e] at h;rw[if_pos (Nat.le_of_ble_eq_true e)];exact .some h
noncomputable def bM(l:jX):TE:=⟨Internal.bM l.d,λU σ Q=>l.p U σ λas s=>dv (Nat.ble as.length 1000000) (Q (.bk as) s) False,λh=>a3.bind ((l.h h).a4 λ_ _ h=>B0 h)⟩
noncomputable def dw(l:jX):TE:=⟨Internal.dw l.d,λU σ Q=>l.p U σ λas s=>dv (Nat.ble as.length 1000000) (Q (.bo as) s) False,λh=>a3.bind ((l.h h).a4 λ_ _ h=>B0 h)⟩
noncomputable def f'(l:jX):TE:=⟨Internal.f' l.d,λU σ Q=>l.p U σ λas s=>dv (Nat.ble as.length 1000000) (Q (.ref s.next) (s.new (.list as))) False,λh=>a3.bind ((l.h h).a4 λ_ _ h=>B0 h)⟩
noncomputable def ba(F:bX)(l:jX):TE:=⟨Internal.ba F l.d,λU σ Q=>l.p U σ λas s=>a3 (F as s) Q,λh=>a3.bind (l.h h)⟩
noncomputable def d2(F:bX)(l:jX):TE:=⟨Internal.ba F l.d,λU σ Q=>l.p U σ λas s=>aJ (F as s) Q,λh=>a3.bind ((l.h h).a4 λ_ _ h=>h.wp)⟩
noncomputable def dD(iO:J->St->Bool)(F:bX)(o:TE)(l:jX):TE:=⟨Internal.dD iO F o.d l.d,λU σ Q=>o.p U σ λv s=>dv (iO v s) (l.p U s λas t=>aJ (F (v::as) t) Q) False,
 λh=>a3.bind ((o.h h).a4 λ_ _ h=>dv.wp (h.of (λh=>a3.bind ((l.h h).a4 λ_ _ h=>h.wp)) False.elim))⟩
noncomputable def wC(iO:J->St->Bool)(F:bX)(o:TE)(l:jX):TE:=⟨Internal.dD iO F o.d l.d,λU σ Q=>o.p U σ λv s=>dv (iO v s) (l.p U s λas t=>a3 (F (v::as) t) Q) False,
 λh=>a3.bind ((o.h h).a4 λ_ _ h=>dv.wp (h.of (λh=>a3.bind (l.h h)) False.elim))⟩
inductive BC (v:J) (s:St) (A:Nat->Prop):Prop
 |mk (c:Nat) (x:Option J) (fU:v=.ref c) (e:s.cells c=some (.inst x)) (h:A c):BC v s A
noncomputable def ke(F:bX)(o:TE)(l:jX):TE:=⟨Internal.ke F o.d l.d,λU σ Q=>o.p U σ λv s=>BC v s λc=>l.p U s λas t=>a3 (F (.ref c::as) t) Q,
 λh=>a3.bind ((o.h h).a4 λv s q=>by obtain⟨c,x,fU,e,h⟩:=q;subst fU;dsimp only;rw[e];exact a3.bind (l.h h))⟩
noncomputable def iF(o l u:TE):TE:=⟨Internal.iF o.d l.d u.d,λU σ Q=>o.p U σ λx s=>l.p U s λy t=>u.p U t λz r=>gh (iW x y z) λv=>Q v r,
 λh=>a3.bind ((o.h h).a4 λ_ _ h=>a3.bind ((l.h h).a4 λ_ _ h=>a3.bind ((u.h h).a4 λ_ _ h=>gh.map h)))⟩
noncomputable def gp(x:c6):TE:=⟨Internal.gp x,λ_ σ Q=>Q (.ref σ.next) (σ.new x),a3.some⟩
noncomputable def kB(x:c6)(l:qs):TE:=⟨Internal.kB x l.d,λU σ Q=>l.p U (σ.new x) λps s=>gh (nY σ.next ps s) λaY=>Q (.ref σ.next) aY,λh=>a3.bind ((l.h h).a4 λ_ _ h=>gh.map h)⟩
noncomputable def yS(src:TE)(fp:Loc->Loc)(bind:J->Loc->Option Loc)(t:fD)(dX:TE)(U:Loc)(σ:St)(Q:List J->St->Prop):Prop:=
 src.p U σ λv s=>oY v s λitems=>a3 (l1 v items bind t.d dX.d items [] (fp U) s) Q
theorem ED{bind:J->Loc->Option Loc}(h:yS src fp bind t dX U σ Q):a3 (vg src.d fp bind t.d dX.d U σ) Q:=
 a3.bind ((src.h h).a4 λ_ _ q=>by obtain⟨items,e,h⟩:=q;dsimp only;rw[e];exact h)
noncomputable def fq(src:TE)(fp:Loc->Loc)(bind:J->Loc->Option Loc)(t:fD)(dX:TE):TE:=⟨Internal.fq src.d fp bind t.d dX.d,λU σ Q=>yS src fp bind t dX U σ λvs s=>Q (.bo vs) s,λh=>a3.bind ((ED h).a4 λ_ _ h=>.some h)⟩
noncomputable def nV(src:TE)(fp:Loc->Loc)(bind:J->Loc->Option Loc)(t:fD)(dX:TE):TE:=⟨Internal.nV src.d fp bind t.d dX.d,λU σ Q=>yS src fp bind t dX U σ λvs s=>Q (.ref s.next) (s.new (.list vs)),λh=>a3.bind ((ED h).a4 λ_ _ h=>.some h)⟩
inductive JU (v:J) (s:St) (Q:J->Prop):Prop
 |mk (es:List (List bp×J)) (l:List Int) (e:f3 v s=some es) (gc:hv (es.map (·.2))=some l) (c4:es.length<=6) (h:Q (.bo (nA (rj l) (es.map (·.2))))):JU v s Q
noncomputable def tX(o:TE):TE:=⟨Internal.tX o.d,λU σ Q=>o.p U σ λv s=>JU v s λx=>Q x s,λh=>a3.bind ((o.h h).a4 λv s q=>by
 obtain⟨es,l,e,gc,c4,h⟩:=q
 dsimp only
 rw[e,Option.bind_some,gc,Option.bind_some,if_pos c4];exact .some h)⟩
inductive ya (v:J) (s:St) (Q:J->Prop):Prop
 |mk (c:Nat) (es:List (bp×J)) (fU:v=.ref c) (e:s.cells c=some (.inst (some (.cw es)))) (h:Q (.cw es)):ya v s Q
noncomputable def j1(o:TE):TE:=⟨Internal.j1 o.d,λU σ Q=>o.p U σ λv s=>ya v s λx=>Q x s,λh=>a3.bind ((o.h h).a4 λv s q=>by obtain⟨c,es,fU,e,h⟩:=q;subst fU;dsimp only;rw[e];exact .some h)⟩
noncomputable def lY(a b:TE):TE:=⟨Internal.lY a.d b.d,λU σ Q=>a.p U σ λv s=>ou v λc=>dv c (b.p U s Q) (Q (.bool false) s),λh=>a3.bind ((a.h h).a4 λv s h=>by
 obtain⟨c,e,h⟩:=h.cv
 subst e
 cases c
 .exact .some h
 .exact b.h h)⟩
noncomputable def tA:TE:=⟨Internal.tA,λ_ σ Q=>Q (.ref σ.next) (σ.new (.inst (some (.cw [])))),a3.some⟩
end TE
namespace fD
noncomputable def boolOf(a:TE):fD:=⟨Internal.boolOf a.d,λU σ Q=>a.p U σ λv s=>ou v λb=>Q b s,λ{U σ Q} h=>by
 obtain⟨v,s,e,h⟩:=a.h h
 obtain⟨c,a8,h⟩:=h.cv
 subst a8
 exact⟨_,s,by unfold Internal.boolOf;rw[e],h⟩⟩
noncomputable def nh(a:fD):fD:=⟨Internal.nh a.d,λU σ Q=>a.p U σ λb s=>Q (!b) s,λh=>a3.bind ((a.h h).a4 λ_ _ h=>.some h)⟩
noncomputable def ff(a b:fD):fD:=⟨Internal.ff a.d b.d,λU σ Q=>a.p U σ λc s=>dv c (b.p U s Q) (Q false s),λh=>a3.bind ((a.h h).a4 λ_ _ h=>dv.wp (h.of b.h .some))⟩
noncomputable def cV(a b:fD):fD:=⟨Internal.cV a.d b.d,λU σ Q=>a.p U σ λc s=>dv c (Q true s) (b.p U s Q),λh=>a3.bind ((a.h h).a4 λ_ _ h=>dv.wp (h.of .some b.h))⟩
noncomputable def eN:fD:=⟨Internal.eN,λ_ σ Q=>Q true σ,a3.some⟩
noncomputable def ft:fD:=⟨Internal.ft,λ_ σ Q=>Q false σ,a3.some⟩
noncomputable def sq(F G:bX)(a b c:TE):fD:=⟨Internal.sq F G a.d b.d c.d,λU σ Q=>a.p U σ λx s=>b.p U s λy t=>aJ (F [x,y] t) λr u=>ou r λr=>dv r (c.p U u λz u=>aJ (G [y,z] u) λq u=>ou q λq=>Q q u) (Q false u),
 λh=>a3.bind ((a.h h).a4 λ_ _ h=>a3.bind ((b.h h).a4 λ_ _ h=>a3.bind (h.wp.a4 λv s h=>by
  obtain⟨q,e,h⟩:=h.cv
  subst e
  cases q
  .exact .some h
  .refine a3.bind ((c.h h).a4 λz u h=>a3.bind (h.wp.a4 λv s h=>?_))
   obtain⟨q,e,h⟩:=h.cv
   subst e
   exact .some h)))⟩
end fD
namespace jX
noncomputable def ar:jX:=⟨Internal.ar,λ_ σ Q=>Q [] σ,a3.some⟩
noncomputable def aa(a:TE)(l:jX):jX:=⟨Internal.aa a.d l.d,λU σ Q=>a.p U σ λx s=>l.p U s λxs t=>Q (x::xs) t,λh=>a3.bind ((a.h h).a4 λ_ _ h=>a3.bind ((l.h h).a4 λ_ _ h=>.some h))⟩
end jX
namespace qs
noncomputable def kh:qs:=⟨Internal.kh,λ_ σ Q=>Q [] σ,a3.some⟩
noncomputable def gA(k v:TE)(l:qs):qs:=⟨Internal.gA k.d v.d l.d,λU σ Q=>k.p U σ λx s=>v.p U s λy t=>l.p U t λxs u=>Q ((x,y)::xs) u,
 λh=>a3.bind ((k.h h).a4 λ_ _ h=>a3.bind ((v.h h).a4 λ_ _ h=>a3.bind ((l.h h).a4 λ_ _ h=>.some h)))⟩
end qs
namespace b5
noncomputable def ll:b5:=⟨Internal.ll,λ_ _ _=>False,False.elim⟩
noncomputable def aD:b5:=⟨Internal.aD,λU σ Q=>Q .next U σ,dm.some⟩
noncomputable def BV(b:b5)(Q:fy->Loc->St->Prop)(f:fy)(l:Loc)(s:St):Prop:=match f with
 |.next=>b.p l s Q
 |f=>Q f l s
noncomputable def aj(a b:b5):b5:=⟨Internal.aj a.d b.d,λU σ Q=>a.p U σ (BV b Q),λh=>dm.fZ ((a.h h).a4 λf l s h=>by
 cases f
 .exact b.h h
 all_goals exact .some h)⟩
noncomputable def b6(i:Nat)(a:TE):b5:=⟨Internal.b6 i a.d,λU σ Q=>a.p U σ λv s=>Q .next (U.set i (some v)) s,λh=>a3.fZ ((a.h h).a4 λ_ _ h=>.some h)⟩
noncomputable def bz(a:TE):b5:=⟨Internal.bz a.d,λU σ Q=>a.p U σ λv s=>Q (.ret v) U s,λh=>a3.fZ ((a.h h).a4 λ_ _ h=>.some h)⟩
noncomputable def bQ(t:fD)(a b:b5):b5:=⟨Internal.bQ t.d a.d b.d,λU σ Q=>t.p U σ λc s=>dv c (a.p U s Q) (b.p U s Q),λh=>a3.fZ ((t.h h).a4 λ_ _ h=>dv.nE (h.of a.h b.h))⟩
noncomputable def fh(src:TE)(bind:J->Loc->Option Loc)(body:b5):b5:=⟨Internal.fh src.d bind body.d,λU σ Q=>src.p U σ λv s=>oY v s λitems=>dm (nc v items bind body.d items U s) Q,
 λh=>a3.fZ ((src.h h).a4 λ_ _ q=>by obtain⟨items,e,h⟩:=q;dsimp only;rw[e];exact h)⟩
noncomputable def mQ(src:TE)(bind:J->Loc->Option Loc)(body:b5):b5:=⟨Internal.mQ src.d bind body.d,λU σ Q=>src.p U σ λv s=>oY v s λitems=>((eW v s).isSome=true\/∃b,v=.bytes b)/\dm (lJ v items bind body.d 0 items U s) Q,
 λh=>a3.fZ ((src.h h).a4 λv s q=>by obtain⟨items,e,h1,h2⟩:=q;dsimp only;rw[e,Option.bind_some,if_pos h1];exact h2)⟩
noncomputable def oG(t:fD)(body:b5):b5:=⟨Internal.oG t.d body.d,λU σ Q=>dm (mg t.d body.d 1000000 U σ) Q,id⟩
noncomputable def gW(a o i:TE):b5:=⟨Internal.gW a.d o.d i.d,λU σ Q=>a.p U σ λv s=>o.p U s λx t=>i.p U t λy u=>gh (jF x y v u) λaZ=>Q .next U aZ,
 λh=>a3.fZ ((a.h h).a4 λ_ _ h=>a3.fZ ((o.h h).a4 λ_ _ h=>a3.fZ ((i.h h).a4 λ_ _ h=>gh.JQ h)))⟩
noncomputable def tZ(a o i:TE):b5:=⟨Internal.tZ a.d o.d i.d,λU σ Q=>a.p U σ λv s=>o.p U s λx t=>i.p U t λy u=>gh (nu x y v u) λaZ=>Q .next U aZ,
 λh=>a3.fZ ((a.h h).a4 λ_ _ h=>a3.fZ ((o.h h).a4 λ_ _ h=>a3.fZ ((i.h h).a4 λ_ _ h=>gh.JQ h)))⟩
noncomputable def dM(a:TE):b5:=⟨Internal.dM a.d,λU σ Q=>a.p U σ λ_ s=>Q .next U s,λh=>a3.fZ ((a.h h).a4 λ_ _ h=>.some h)⟩
noncomputable def sr:b5:=⟨Internal.sr,λU σ Q=>Q .cont U σ,dm.some⟩
noncomputable def so:b5:=⟨Internal.so,λU σ Q=>Q .brk U σ,dm.some⟩
noncomputable def o6(i:Nat)(F:bX)(a:TE):b5:=⟨Internal.o6 i F a.d,λU σ Q=>(TE.C i).p U σ λo s=>a.p U s λr t=>aJ (F [o,r] t) λq u=>Q .next (U.set i (some q)) u,
 λh=>a3.fZ (((TE.C i).h h).a4 λ_ _ h=>a3.fZ ((a.h h).a4 λ_ _ h=>a3.fZ (h.wp.a4 λ_ _ h=>.some h)))⟩
noncomputable def fx(bind:J->Loc->Option Loc)(a:TE):b5:=⟨Internal.fx bind a.d,λU σ Q=>a.p U σ λv s=>gh (bind v U) λl=>Q .next l s,λh=>a3.fZ ((a.h h).a4 λ_ _ h=>gh.fZ (by
 revert h;cases bind _ _
 .exact id
 .exact .some))⟩
inductive BX (v o:J) (s:St) (Q:St->Prop):Prop
 |mk (es:List (bp×J)) (c:Nat) (x:Option J) (fU:v=.cw es) (gZ:o=.ref c) (e:s.cells c=some (.inst x)) (h:Q (s.aS c (.inst (some (.cw es))))):BX v o s Q
noncomputable def tU(a o:TE):b5:=⟨Internal.tU a.d o.d,λU σ Q=>a.p U σ λv s=>o.p U s λx t=>BX v x t λu=>Q .next U u,λh=>a3.fZ ((a.h h).a4 λ_ _ h=>a3.fZ ((o.h h).a4 λv s q=>by
 obtain⟨es,c,x,fU,gZ,e,QE⟩:=q
 subst fU gZ;dsimp only;rw[e];exact .some QE))⟩
end b5
end
noncomputable def eE(σ:St)(Q:J->St->Prop)(f:fy)(_:Loc)(s:St):Prop:=match f with
 |.ret v=>Q (l6 σ.next s.cells v) (s.cut σ.next)
 |.next=>Q .none (s.cut σ.next)
 |_=>False
theorem e9{A:b5}(e:D=A.d)(aG:args.length=n)(h:A.p (args.map some++List.replicate m none) σ (eE σ Q)):a3 (ea D n m args σ) Q:=by
 subst e
 unfold ea
 rw[if_pos aG]
 obtain⟨f,l,s,e,h⟩:=A.h h
 rw[e]
 cases f
 .exact .some h
 .exact h.elim
 .exact h.elim
 .exact .some h
noncomputable section
noncomputable def CS:b5:=.aj (.gW (.C 2) (.C 1) (.ba qn (.aa (.C 3) (.ar)))) (.aD)
noncomputable def CR:b5:=.aj (.b6 1 (.gp (.b2 []))) (.aj (.mQ (.C 0) (dJ [2,3]) CS) (.aj (.bz (.fq (.tX (.C 1)) (ek [none,some 0]) (c2 0) (.eN) (.af a6 (.C 1) (.C 0)))) (.aD)))
theorem Om:uD=CR.d:=by kernel_rfl
noncomputable def xo:b5:=.aj (.fx (dJ [6,7]) (.bM (.aa (.ba qo (.aa (.af a6 (.C 5) (.I (.int 0))) (.ar))) (.aa (.ba qn (.aa (.C 5) (.ar))) (.ar))))) (.aj (.bQ (.cV (.boolOf (.af fA (.C 7) (.C 3))) (.cV (.boolOf (.af cm (.C 6) (.I (.str "holder")))) (.cV (.boolOf (.af cm (.C 6) (.I (.str "never")))) (.ft)))) (.aj (.sr) (.aD)) (.aD)) (.aj (.bQ (.boolOf (.af cm (.C 6) (.I (.str "same")))) (.aj (.dM (.dD dT e2 (.C 4) (.aa (.C 5) (.ar)))) (.aD)) (.aj (.bQ (.boolOf (.af cm (.C 6) (.I (.str "latest")))) (.aj (.dM (.dD dT e2 (.C 4) (.aa (.af cF (.iF (.C 5) (.I .none) (.jm kg (.I (.int 1)))) (.bM (.aa (.wC tf vG (.C 1) (.aa (.C 7) (.aa (.af a6 (.C 5) (.jm kg (.I (.int 1)))) (.ar)))) (.ar)))) (.ar)))) (.aD)) (.aj (.bQ (.boolOf (.af fA (.C 7) (.C 2))) (.aj (.dM (.dD dT e2 (.C 4) (.aa (.af cF (.iF (.C 5) (.I .none) (.jm kg (.I (.int 1)))) (.bM (.aa (.af a6 (.C 2) (.C 7)) (.ar)))) (.ar)))) (.aD)) (.aD)) (.aD))) (.aD))) (.aD)))
noncomputable def C4:b5:=.aj (.b6 4 (.f' (.ar))) (.aj (.fh (.C 0) (c2 5) xo) (.aj (.bz (.ba r8 (.aa (.C 4) (.ar)))) (.aD)))
theorem OA:uN=C4.d:=by kernel_rfl
noncomputable def CE:b5:=.aj (.bz (.fq (.C 0) (ek [none]) (c2 0) (.boolOf (.af cm (.ba qo (.aa (.af a6 (.C 0) (.I (.int 0))) (.ar))) (.I (.str "holder")))) (.C 0))) (.aD)
theorem Oe:ux=CE.d:=by kernel_rfl
noncomputable def C3:b5:=.aj (.tZ (.af gU (.C 0) (.I (.int 256))) (.C 2) (.C 3)) (.aj (.b6 0 (.af sH (.C 0) (.I (.int 256)))) (.aD))
noncomputable def C2:b5:=.aj (.bQ (.cV (.boolOf (.af jg (.C 0) (.I (.int 0)))) (.cV (.boolOf (.af fS (.af BZ (.C 0) (.af kS (.I (.int 8)) (.C 1))) (.I (.int 0)))) (.ft))) (.aj (.ll) (.aD)) (.aD)) (.aj (.b6 2 (.d2 yc (.aa (.C 1) (.ar)))) (.aj (.fh (.d2 lN (.aa (.af jJ (.C 1) (.I (.int 1))) (.aa (.jm kg (.I (.int 1))) (.aa (.jm kg (.I (.int 1))) (.ar))))) (c2 3) C3) (.aj (.bz (.d2 vd (.aa (.C 2) (.ar)))) (.aD))))
theorem Oz:uM=C2.d:=by kernel_rfl
noncomputable def C6:b5:=.aj (.bQ (.sq pS jg (.I (.int 0)) (.C 0) (.af tV (.I (.int 1)) (.af jJ (.af kS (.I (.int 8)) (.C 1)) (.I (.int 2))))) (.aj (.bz (.C 1)) (.aD)) (.aD)) (.aD)
noncomputable def C5:b5:=.aj (.fh (.I o5) (c2 1) C6) (.aj (.ll) (.aD))
theorem OB:uO=C5.d:=by kernel_rfl
noncomputable def C1:b5:=.aj (.b6 2 (.ba sb (.aa (.C 0) (.ar)))) (.aj (.bQ (.boolOf (.af iS (.C 1) (.I (.none)))) (.aj (.b6 1 (.C 2)) (.aD)) (.aD)) (.aj (.bQ (.cV (.boolOf (.af jg (.C 1) (.C 2))) (.cV (.boolOf (.af oq (.C 1) (.I o5))) (.ft))) (.aj (.ll) (.aD)) (.aD)) (.aj (.bz (.ba qm (.aa (.af BD (.af tV (.dD tg v3 (.I o5) (.aa (.C 1) (.ar))) (.af jJ (.af kS (.I (.int 8)) (.C 1)) (.I (.int 2)))) (.C 0)) (.aa (.C 1) (.ar))))) (.aD))))
theorem Oy:uL=C1.d:=by kernel_rfl
noncomputable def CY:b5:=.aj (.bz (.dD v7 wa (.I (.bytes [])) (.aa (.fq (.C 0) (ek [none]) (c2 0) (.eN) (.ba oW (.aa (.C 0) (.aa (.I (.none)) (.ar))))) (.ar)))) (.aD)
theorem Ov:uI=CY.d:=by kernel_rfl
noncomputable def CV:b5:=.aj (.bz (.af cF (.ba oW (.aa (.d2 e5 (.aa (.C 0) (.ar))) (.aa (.I (.none)) (.ar)))) (.C 0))) (.aD)
theorem Oq:uF=CV.d:=by kernel_rfl
noncomputable def C0:b5:=.aj (.fx (dJ [2,3,4,5,6]) (.C 0)) (.aj (.b6 7 (.af cF (.af cF (.af cF (.I xX) (.ez (.boolOf (.C 6)) (.I xM) (.I (.int 0)))) (.ez (.boolOf (.C 1)) (.I (.int 0)) (.I xN))) (.ez (.boolOf (.af iR (.C 4) (.I (.int 0)))) (.I xO) (.I (.int 0))))) (.aj (.b6 8 (.ba gO (.aa (.af cF (.dw (.aa (.C 7) (.aa (.C 3) (.ar)))) (.ez (.boolOf (.af iR (.C 4) (.I (.int 0)))) (.dw (.aa (.C 4) (.ar))) (.dw (.ar)))) (.ar)))) (.aj (.bz (.af cF (.C 8) (.ez (.boolOf (.C 1)) (.C 5) (.ba kp (.aa (.C 5) (.ar)))))) (.aD))))
theorem Ox:uK=C0.d:=by kernel_rfl
noncomputable def CX:b5:=.aj (.fx (dJ [1,2,3,4,5]) (.C 0)) (.aj (.bz (.af cF (.af cF (.af cF (.ba gO (.aa (.dw (.aa (.I xT) (.aa (.C 2) (.aa (.C 3) (.ar))))) (.ar))) (.d2 f9 (.aa (.dw (.aa (.d2 e5 (.aa (.C 4) (.ar))) (.ar))) (.ar)))) (.C 4)) (.C 5))) (.aD))
theorem Ou:uH=CX.d:=by kernel_rfl
noncomputable def CZ:b5:=.aj (.b6 1 (.af a6 (.C 0) (.I (.int 0)))) (.aj (.bQ (.boolOf (.af cm (.C 1) (.I (.str "crypto")))) (.aj (.bz (.af cF (.ba gO (.aa (.dw (.aa (.I xP) (.aa (.af a6 (.C 0) (.I (.int 1))) (.ar)))) (.ar))) (.ba kp (.aa (.af a6 (.C 0) (.I (.int 2))) (.ar))))) (.aD)) (.aD)) (.aj (.bQ (.boolOf (.af cm (.C 1) (.I (.str "new_token")))) (.aj (.bz (.af cF (.ba gO (.aa (.dw (.aa (.I xU) (.ar))) (.ar))) (.ba kp (.aa (.af a6 (.C 0) (.I (.int 1))) (.ar))))) (.aD)) (.aD)) (.aj (.bQ (.cV (.boolOf (.af cm (.C 1) (.I (.str "path_challenge")))) (.cV (.boolOf (.af cm (.C 1) (.I (.str "path_response")))) (.ft))) (.aj (.bz (.af cF (.ba gO (.aa (.dw (.aa (.ez (.boolOf (.af cm (.C 1) (.I (.str "path_challenge")))) (.I xV) (.I xW)) (.ar))) (.ar))) (.af a6 (.C 0) (.I (.int 1))))) (.aD)) (.aD)) (.aj (.bQ (.boolOf (.af cm (.C 1) (.I (.str "max_streams")))) (.aj (.bz (.ba gO (.aa (.dw (.aa (.ez (.boolOf (.af a6 (.C 0) (.I (.int 1)))) (.I xS) (.I xR)) (.aa (.af a6 (.C 0) (.I (.int 2))) (.ar)))) (.ar)))) (.aD)) (.aD)) (.aj (.bQ (.boolOf (.af cm (.C 1) (.I (.str "streams_blocked")))) (.aj (.bz (.ba gO (.aa (.dw (.aa (.ez (.boolOf (.af a6 (.C 0) (.I (.int 1)))) (.I xZ) (.I xY)) (.aa (.af a6 (.C 0) (.I (.int 2))) (.ar)))) (.ar)))) (.aD)) (.aD)) (.aj (.bz (.I (.none))) (.aD)))))))
theorem Ow:uJ=CZ.d:=by kernel_rfl
noncomputable def CW:b5:=.aj (.b6 1 (.af a6 (.C 0) (.I (.int 0)))) (.aj (.bQ (.boolOf (.af cm (.C 1) (.I (.str "padding")))) (.aj (.bz (.d2 f9 (.aa (.mP) (.ar)))) (.aD)) (.aD)) (.aj (.bQ (.boolOf (.af fA (.C 1) (.I qu))) (.aj (.bz (.ba gO (.aa (.af cF (.dw (.aa (.af a6 (.I qu) (.C 1)) (.ar))) (.d2 m9 (.aa (.iF (.C 0) (.I (.int 1)) (.I .none)) (.ar)))) (.ar)))) (.aD)) (.aD)) (.aj (.bQ (.boolOf (.af cm (.C 1) (.I (.str "ack")))) (.aj (.bz (.mP)) (.aD)) (.aD)) (.aj (.bQ (.boolOf (.af cm (.C 1) (.I (.str "stream")))) (.aj (.bz (.ba r' (.aa (.C 0) (.aa (.I (.bool false)) (.ar))))) (.aD)) (.aD)) (.aj (.bQ (.boolOf (.af cm (.C 1) (.I (.str "new_connection_id")))) (.aj (.bz (.ba r9 (.aa (.C 0) (.ar)))) (.aD)) (.aD)) (.aj (.bQ (.boolOf (.af cm (.C 1) (.I (.str "close")))) (.aj (.bz (.mP)) (.aD)) (.aD)) (.aj (.b6 2 (.ba ql (.aa (.C 0) (.ar)))) (.aj (.bQ (.boolOf (.af iS (.C 2) (.I (.none)))) (.aj (.ll) (.aD)) (.aD)) (.aj (.bz (.C 2)) (.aD))))))))))
theorem Ot:uG=CW.d:=by kernel_rfl
noncomputable def CD:b5:=.aj (.bz (.d2 e5 (.aa (.ba mz (.aa (.C 0) (.ar))) (.ar)))) (.aD)
theorem Od:uw=CD.d:=by kernel_rfl
noncomputable def Cz:b5:=.aj (.bz (.ez (.boolOf (.af cm (.af a6 (.C 0) (.I (.int 0))) (.I (.str "crypto")))) (.af a6 (.C 0) (.I (.int 2))) (.af a6 (.C 0) (.I (.int 3))))) (.aD)
theorem Oa:ur=Cz.d:=by kernel_rfl
noncomputable def C8:b5:=.aj (.bQ (.boolOf (.af cm (.af a6 (.C 0) (.I (.int 0))) (.I (.str "crypto")))) (.aj (.bz (.bM (.aa (.I (.str "crypto")) (.aa (.af cF (.af a6 (.C 0) (.I (.int 1))) (.C 1)) (.aa (.C 2) (.ar)))))) (.aD)) (.aD)) (.aj (.bz (.bM (.aa (.I (.str "stream")) (.aa (.af a6 (.C 0) (.I (.int 1))) (.aa (.af cF (.af a6 (.C 0) (.I (.int 2))) (.C 1)) (.aa (.C 2) (.aa (.C 3) (.ar)))))))) (.aD))
theorem OD:uQ=C8.d:=by kernel_rfl
noncomputable def K0:b5:=.aj (.o6 3 jJ (.I (.int 1))) (.aD)
noncomputable def CA:b5:=.aj (.b6 2 (.ba oS (.aa (.C 0) (.ar)))) (.aj (.bQ (.boolOf (.af iR (.ba jo (.aa (.ba iK (.aa (.C 0) (.aa (.I (.int 0)) (.aa (.I (.bytes [])) (.aa (.I (.bool false)) (.ar)))))) (.ar))) (.C 1))) (.aj (.bz (.jm kg (.I (.int 1)))) (.aD)) (.aD)) (.aj (.b6 3 (.d2 Bh (.aa (.d2 e5 (.aa (.C 2) (.ar))) (.aa (.af jJ (.C 1) (.ba jo (.aa (.ba iK (.aa (.C 0) (.aa (.I (.int 0)) (.aa (.I (.bytes [])) (.aa (.I (.bool false)) (.ar)))))) (.ar)))) (.ar))))) (.aj (.oG (.boolOf (.af iR (.ba jo (.aa (.ba iK (.aa (.C 0) (.aa (.I (.int 0)) (.aa (.iF (.C 2) (.I .none) (.C 3)) (.aa (.I (.bool false)) (.ar)))))) (.ar))) (.C 1))) K0) (.aj (.bz (.C 3)) (.aD)))))
theorem Ob:uu=CA.d:=by kernel_rfl
noncomputable def Cy:b5:=.aj (.bQ (.boolOf (.af pS (.ba jo (.aa (.C 0) (.ar))) (.C 1))) (.aj (.bz (.bM (.aa (.C 0) (.aa (.I (.none)) (.ar))))) (.aD)) (.aD)) (.aj (.bQ (.boolOf (.af oq (.af a6 (.C 0) (.I (.int 0))) (.I xQ))) (.aj (.bz (.bM (.aa (.I (.none)) (.aa (.C 0) (.ar))))) (.aD)) (.aD)) (.aj (.fx (dJ [2,3]) (.bM (.aa (.ba r1 (.aa (.C 0) (.aa (.C 1) (.ar)))) (.aa (.ba oS (.aa (.C 0) (.ar))) (.ar))))) (.aj (.bQ (.cV (.boolOf (.af jg (.C 2) (.I (.int 1)))) (.cV (.boolOf (.af zZ (.C 2) (.d2 e5 (.aa (.C 3) (.ar))))) (.ft))) (.aj (.bz (.bM (.aa (.I (.none)) (.aa (.C 0) (.ar))))) (.aD)) (.aD)) (.aj (.b6 4 (.lY (.af cm (.af a6 (.C 0) (.I (.int 0))) (.I (.str "stream"))) (.af a6 (.C 0) (.I (.int 4))))) (.aj (.bz (.bM (.aa (.ba iK (.aa (.C 0) (.aa (.I (.int 0)) (.aa (.iF (.C 3) (.I .none) (.C 2)) (.aa (.I (.bool false)) (.ar)))))) (.aa (.ba iK (.aa (.C 0) (.aa (.C 2) (.aa (.iF (.C 3) (.C 2) (.I .none)) (.aa (.C 4) (.ar)))))) (.ar))))) (.aD))))))
theorem N':uq=Cy.d:=by kernel_rfl
noncomputable def CC:b5:=.aj (.fx (dJ [5,6]) (.ba r0 (.aa (.C 4) (.aa (.C 1) (.ar))))) (.aj (.bQ (.boolOf (.af kM (.C 5) (.I (.none)))) (.aj (.dM (.dD dT e2 (.C 2) (.aa (.C 5) (.ar)))) (.aj (.o6 1 jJ (.ba jo (.aa (.C 5) (.ar)))) (.aD))) (.aD)) (.aj (.bQ (.boolOf (.af kM (.C 6) (.I (.none)))) (.aj (.dM (.dD dT e2 (.C 3) (.aa (.C 6) (.ar)))) (.aD)) (.aD)) (.aD)))
noncomputable def CB:b5:=.aj (.fx (dJ [2,3]) (.bM (.aa (.f' (.ar)) (.aa (.f' (.ar)) (.ar))))) (.aj (.fh (.C 0) (c2 4) CC) (.aj (.bz (.bM (.aa (.C 2) (.aa (.C 3) (.ar))))) (.aD)))
theorem Oc:uv=CB.d:=by kernel_rfl
noncomputable def CG:b5:=.aj (.fx (dJ [4,5]) (.ba oT (.aa (.C 3) (.aa (.C 1) (.ar))))) (.aj (.bQ (.boolOf (.af cm (.d2 e5 (.aa (.C 4) (.ar))) (.I (.int 0)))) (.aj (.bz (.I (.none))) (.aD)) (.aD)) (.aj (.dM (.dD dT e2 (.C 2) (.aa (.C 4) (.ar)))) (.aj (.b6 3 (.C 5)) (.aD))))
noncomputable def CF:b5:=.aj (.fx (dJ [2,3]) (.bM (.aa (.f' (.ar)) (.aa (.d2 m9 (.aa (.C 0) (.ar))) (.ar))))) (.aj (.oG (.boolOf (.af iR (.d2 e5 (.aa (.C 3) (.ar))) (.I (.int 0)))) CG) (.aj (.bz (.C 2)) (.aD)))
theorem Of:uy=CF.d:=by kernel_rfl
noncomputable def CU:b5:=.aj (.b6 3 (.wC pO n4 (.C 0) (.aa (.C 2) (.ar)))) (.aj (.bQ (.ff (.boolOf (.af kM (.C 3) (.I (.none)))) (.ff (.cV (.boolOf (.af iS (.C 1) (.I (.none)))) (.cV (.boolOf (.af jg (.C 3) (.af a6 (.C 1) (.I (.int 0))))) (.ft))) (.eN))) (.aj (.b6 1 (.bM (.aa (.C 3) (.aa (.C 2) (.ar))))) (.aD)) (.aD)) (.aD))
noncomputable def CT:b5:=.aj (.b6 1 (.I (.none))) (.aj (.fh (.I i4) (c2 2) CU) (.aj (.bz (.C 1)) (.aD)))
theorem Oo:uE=CT.d:=by kernel_rfl
noncomputable def Cx:b5:=.aj (.b6 4 (.wC pO n4 (.C 0) (.aa (.C 3) (.ar)))) (.aj (.bQ (.ff (.boolOf (.af kM (.C 4) (.I (.none)))) (.ff (.boolOf (.af pS (.C 4) (.C 1))) (.eN))) (.aj (.dM (.dD dT e2 (.C 2) (.aa (.bM (.aa (.C 4) (.aa (.ba r4 (.aa (.C 3) (.ar))) (.ar)))) (.ar)))) (.aD)) (.aD)) (.aD))
noncomputable def Cw:b5:=.aj (.b6 2 (.f' (.ar))) (.aj (.fh (.I i4) (c2 3) Cx) (.aj (.bz (.fq (.d2 w7 (.aa (.C 2) (.ar))) (ek [none,none]) (dJ [0,1]) (.eN) (.af a6 (.I i4) (.C 1)))) (.aD)))
theorem N9:uo=Cw.d:=by kernel_rfl
noncomputable def C7:b5:=.aj (.b6 3 (.d2 vl (.aa (.nV (.C 0) (ek [none,some 0,some 1]) (c2 0) (.boolOf (.af fS (.C 0) (.C 2))) (.bM (.aa (.C 0) (.aa (.af a6 (.C 1) (.C 0)) (.ar))))) .ar))) (.aj (.bQ (.boolOf (.af kM (.C 2) (.I (.none)))) (.aj (.gW (.C 2) (.C 3) (.C 1)) (.aD)) (.aD)) (.aj (.bz (.C 3)) (.aD)))
theorem OC:uP=C7.d:=by kernel_rfl
noncomputable def CN:b5:=.aj (.tU (.ba sd (.aa (.j1 (.C 0)) (.aa (.C 1) (.aa (.C 2) (.ar))))) (.C 0)) (.aD)
theorem Oi:uA=CN.d:=by kernel_rfl
noncomputable def CQ:b5:=.aj (.bz (.wC pO n4 (.j1 (.C 0)) (.aa (.C 1) (.ar)))) (.aD)
theorem Ol:uC=CQ.d:=by kernel_rfl
noncomputable def CM:b5:=.aj (.b6 1 (.ba oV (.aa (.j1 (.C 0)) (.ar)))) (.aj (.bz (.ez (.boolOf (.af iS (.C 1) (.I (.none)))) (.I (.none)) (.af a6 (.C 1) (.I (.int 0))))) (.aD))
theorem Oh:uz=CM.d:=by kernel_rfl
noncomputable def CP:b5:=.aj (.dM (.ke oU (.C 0) (.aa (.C 3) (.aa (.I (.none)) (.ar))))) (.aD)
noncomputable def CO:b5:=.aj (.b6 2 (.ba rZ (.aa (.j1 (.C 0)) (.aa (.C 1) (.ar))))) (.aj (.fh (.C 2) (c2 3) CP) (.aj (.bz (.C 2)) (.aD)))
theorem Oj:uB=CO.d:=by kernel_rfl
noncomputable def Cs:b5:=.aj (.b6 2 (.af a6 (.C 0) (.I (.int 1)))) (.aj (.b6 3 (.ez (.boolOf (.af fS (.C 2) (.dw (.ar)))) (.d2 u4 (.aa (.af a6 (.C 2) (.af gU (.af a6 (.C 0) (.I (.int 2))) (.d2 e5 (.aa (.C 2) (.ar))))) (.ar))) (.I (.int 47)))) (.aj (.gW (.af cF (.af a6 (.C 0) (.I (.int 2))) (.I (.int 1))) (.C 0) (.I (.int 2))) (.aj (.gW (.af gU (.af cF (.af cF (.af kS (.af a6 (.C 0) (.I (.int 0))) (.I (.int 48271))) (.af gU (.C 3) (.I (.int 1000003)))) (.I (.int 59))) (.I (.int 2147483647))) (.C 0) (.I (.int 0))) (.aj (.bz (.af gU (.af sH (.af a6 (.C 0) (.I (.int 0))) (.I (.int 13))) (.C 1))) (.aD)))))
theorem N5:uj=Cs.d:=by kernel_rfl
noncomputable def xj:b5:=.aj (.b6 3 (.af cF (.I (.int 1)) (.ba gy (.aa (.C 0) (.aa (.I (.int 30)) (.ar)))))) (.aj (.dM (.dD dT e2 (.C 1) (.aa (.bM (.aa (.I (.str "stream")) (.aa (.af kS (.I (.int 4)) (.C 2)) (.aa (.I (.int 0)) (.aa (.d2 f9 (.aa (.fq (.d2 lN (.aa (.C 3) (.ar))) (ek [none,some 2]) (c2 0) (.eN) (.af gU (.af cF (.C 1) (.C 0)) (.I (.int 256)))) (.ar))) (.aa (.I (.bool true)) (.ar))))))) (.ar)))) (.aD))
noncomputable def Ct:b5:=.aj (.b6 1 (.f' (.aa (.bM (.aa (.I (.str "max_data")) (.aa (.I (.int 10)) (.ar)))) (.aa (.bM (.aa (.I (.str "max_data")) (.aa (.I (.int 20)) (.ar)))) (.aa (.bM (.aa (.I (.str "stop_sending")) (.aa (.I (.int 4)) (.aa (.I (.int 7)) (.ar))))) (.aa (.bM (.aa (.I (.str "path_challenge")) (.aa (.I (.bytes mG)) (.ar)))) (.ar))))))) (.aj (.dM (.dD dT e2 (.C 1) (.aa (.bM (.aa (.I (.str "data_blocked")) (.aa (.I (.int 9)) (.ar)))) (.ar)))) (.aj (.dM (.dD dT e2 (.C 1) (.aa (.bM (.aa (.I (.str "new_connection_id")) (.aa (.af cF (.I (.int 1)) (.ba gy (.aa (.C 0) (.aa (.I (.int 3)) (.ar))))) (.aa (.I (.int 0)) (.aa (.d2 f9 (.aa (.I (.int 8)) (.ar))) (.aa (.d2 f9 (.aa (.I (.int 16)) (.ar))) (.ar))))))) (.ar)))) (.aj (.fh (.d2 lN (.aa (.af cF (.I (.int 1)) (.ba gy (.aa (.C 0) (.aa (.I (.int 2)) (.ar))))) (.ar))) (c2 2) xj) (.aj (.dM (.dD dT e2 (.C 1) (.aa (.bM (.aa (.I (.str "crypto")) (.aa (.I (.int 0)) (.aa (.d2 f9 (.aa (.fq (.d2 lN (.aa (.af cF (.I (.int 1)) (.ba gy (.aa (.C 0) (.aa (.I (.int 20)) (.ar))))) (.ar))) (ek [none]) (c2 0) (.eN) (.af gU (.af cF (.I (.int 90)) (.C 0)) (.I (.int 256)))) (.ar))) (.ar))))) (.ar)))) (.aj (.bz (.C 1)) (.aD))))))
theorem N6:rT=Ct.d:=by kernel_rfl
noncomputable def xi:b5:=.aj (.gW (.C 7) (.af a6 (.C 0) (.I (.str "octets"))) (.bM (.aa (.C 3) (.aa (.af cF (.C 4) (.C 6)) (.ar))))) (.aD)
noncomputable def ue:b5:=.aj (.bQ (.boolOf (.af fA (.af a6 (.C 2) (.I (.int 0))) (.bM (.aa (.I (.str "stream")) (.aa (.I (.str "crypto")) (.ar)))))) (.aj (.fx (dJ [3,4,5]) (.ez (.boolOf (.af cm (.af a6 (.C 2) (.I (.int 0))) (.I (.str "stream")))) (.bM (.aa (.af a6 (.C 2) (.I (.int 1))) (.aa (.af a6 (.C 2) (.I (.int 2))) (.aa (.af a6 (.C 2) (.I (.int 3))) (.ar))))) (.bM (.aa (.I (.str "crypto")) (.aa (.af a6 (.C 2) (.I (.int 1))) (.aa (.af a6 (.C 2) (.I (.int 2))) (.ar))))))) (.aj (.mQ (.C 5) (dJ [6,7]) xi) (.aj (.bQ (.ff (.boolOf (.af cm (.af a6 (.C 2) (.I (.int 0))) (.I (.str "stream")))) (.ff (.boolOf (.af a6 (.C 2) (.I (.int 4)))) (.eN))) (.aj (.gW (.af cF (.C 4) (.d2 e5 (.aa (.C 5) (.ar)))) (.af a6 (.C 0) (.I (.str "ends"))) (.C 3)) (.aD)) (.aD)) (.aD)))) (.aj (.dM (.dD dT e2 (.af a6 (.C 0) (.I (.str "came"))) (.aa (.C 2) (.ar)))) (.aD))) (.aD)
noncomputable def Cr:b5:=.aj (.fh (.C 1) (c2 2) ue) (.aD)
theorem N4:ui=Cr.d:=by kernel_rfl
noncomputable def xl:b5:=.aj (.gW (.C 8) (.C 2) (.bM (.aa (.C 5) (.aa (.C 7) (.ar))))) (.aD)
noncomputable def uf:b5:=.aj (.bQ (.boolOf (.af fA (.af a6 (.C 4) (.I (.int 0))) (.bM (.aa (.I (.str "stream")) (.aa (.I (.str "crypto")) (.ar)))))) (.aj (.fx (dJ [5,6]) (.ez (.boolOf (.af cm (.af a6 (.C 4) (.I (.int 0))) (.I (.str "stream")))) (.bM (.aa (.af a6 (.C 4) (.I (.int 1))) (.aa (.af a6 (.C 4) (.I (.int 3))) (.ar)))) (.bM (.aa (.I (.str "crypto")) (.aa (.af a6 (.C 4) (.I (.int 2))) (.ar)))))) (.aj (.mQ (.C 6) (dJ [7,8]) xl) (.aj (.bQ (.boolOf (.af cm (.af a6 (.C 4) (.I (.int 0))) (.I (.str "stream")))) (.aj (.gW (.d2 e5 (.aa (.C 6) (.ar))) (.C 3) (.C 5)) (.aD)) (.aD)) (.aD)))) (.aD)) (.aD)
noncomputable def Cv:b5:=.aj (.fx (dJ [2,3]) (.bM (.aa (.gp (.b2 [])) (.aa (.gp (.cb [])) (.ar))))) (.aj (.fh (.C 1) (c2 4) uf) (.aj (.bz (.lY (.af cm (.af a6 (.C 0) (.I (.str "octets"))) (.C 2)) (.af cm (.af a6 (.C 0) (.I (.str "ends"))) (.C 3)))) (.aD)))
theorem N8:um=Cv.d:=by kernel_rfl
noncomputable def xk:b5:=.aj (.bQ (.cV (.boolOf (.af cm (.C 6) (.dw (.ar)))) (.cV (.boolOf (.af iR (.d2 p' (.aa (.fq (.C 6) (ek [none]) (c2 0) (.eN) (.d2 e5 (.aa (.ba mz (.aa (.C 0) (.ar))) (.ar)))) (.ar))) (.C 3))) (.ft))) (.aj (.bz (.I (.bool false))) (.aD)) (.aD)) (.aj (.b6 7 (.af a6 (.dw (.aa (.I (.str "loss")) (.aa (.I (.str "probe")) (.aa (.I (.str "ack")) (.aa (.I (.str "path")) (.aa (.I (.str "idle")) (.aa (.I (.str "closed")) (.ar)))))))) (.af gU (.d2 e5 (.aa (.af a6 (.C 1) (.I (.str "flying"))) (.ar))) (.I (.int 6))))) (.aj (.bQ (.boolOf (.af iS (.ke r7 (.af a6 (.C 1) (.I (.str "alarms"))) (.aa (.C 7) (.ar))) (.I (.none)))) (.aj (.dM (.ke oU (.af a6 (.C 1) (.I (.str "alarms"))) (.aa (.C 7) (.aa (.af cF (.af cF (.C 4) (.I (.int 5))) (.ba gy (.aa (.C 0) (.aa (.I (.int 30)) (.ar))))) (.ar))))) (.aj (.dM (.dD dT e2 (.af a6 (.C 1) (.I (.str "flying"))) (.aa (.bM (.aa (.C 7) (.aa (.C 6) (.ar)))) (.ar)))) (.aD))) (.aj (.dM (.ba k7 (.aa (.C 1) (.aa (.C 6) (.ar))))) (.aD))) (.aj (.dM (.dD dT mN (.af a6 (.C 1) (.I (.str "told"))) (.aa (.C 6) (.ar)))) (.aD))))
noncomputable def Cu:b5:=.aj (.b6 5 (.ba r3 (.aa (.C 2) (.aa (.C 3) (.ar))))) (.aj (.bQ (.boolOf (.af iS (.C 5) (.I (.none)))) (.aj (.bz (.I (.bool false))) (.aD)) (.aD)) (.aj (.fh (.C 5) (c2 6) xk) (.aj (.bz (.I (.bool true))) (.aD))))
theorem N7:uk=Cu.d:=by kernel_rfl
noncomputable def xm:b5:=.aj (.b6 14 (.af a6 (.fq (.af a6 (.C 7) (.I (.str "flying"))) (ek [none,some 13]) (c2 0) (.boolOf (.af cm (.af a6 (.C 0) (.I (.int 0))) (.C 1))) (.af a6 (.C 0) (.I (.int 1)))) (.I (.int 0)))) (.aj (.gW (.nV (.af a6 (.C 7) (.I (.str "flying"))) (ek [none,some 13]) (c2 0) (.boolOf (.af fS (.af a6 (.C 0) (.I (.int 0))) (.C 1))) (.C 0)) (.C 7) (.I (.str "flying"))) (.aj (.bQ (.cV (.ff (.boolOf (.af jg (.C 9) (.I (.int 4)))) (.ff (.boolOf (.af iR (.ba gy (.aa (.C 1) (.aa (.I (.int 3)) (.ar)))) (.I (.int 0)))) (.eN))) (.cV (.boolOf (.af cm (.C 9) (.I (.int 0)))) (.ft))) (.aj (.dM (.dD dT mN (.C 12) (.aa (.C 14) (.ar)))) (.aD)) (.aj (.dM (.ba k7 (.aa (.C 7) (.aa (.C 14) (.ar))))) (.aD))) (.aD)))
noncomputable def CI:b5:=.aj (.b6 8 (.af cF (.ba sa (.aa (.C 12) (.aa (.kB (.b2 []) (.gA (.bM (.aa (.I (.str "max_data")) (.aa (.I (.none)) (.ar)))) (.I (.int 33)) (.kh))) (.aa (.C 6) (.aa (.C 5) (.ar)))))) (.ba r2 (.aa (.C 12) (.ar))))) (.aj (.bQ (.cV (.boolOf (.af oq (.fq (.C 8) (ek [none]) (c2 0) (.boolOf (.af cm (.af a6 (.C 0) (.I (.int 0))) (.I (.str "max_data")))) (.C 0)) (.bM (.aa (.dw (.ar)) (.aa (.dw (.aa (.bM (.aa (.I (.str "max_data")) (.aa (.I (.int 33)) (.ar)))) (.ar))) (.ar)))))) (.cV (.boolOf (.af fA (.bM (.aa (.I (.str "path_challenge")) (.aa (.I (.bytes mG)) (.ar)))) (.C 8))) (.ft))) (.aj (.bz (.I (.bool false))) (.aD)) (.aD)) (.aj (.bQ (.cV (.ff (.boolOf (.af fA (.bM (.aa (.I (.str "data_blocked")) (.aa (.I (.int 9)) (.ar)))) (.C 8))) (.ff (.boolOf (.af cm (.C 6) (.gp (.b2 [])))) (.eN))) (.cV (.ff (.boolOf (.af fA (.bM (.aa (.I (.str "stop_sending")) (.aa (.I (.int 4)) (.aa (.I (.int 7)) (.ar))))) (.C 8))) (.ff (.boolOf (.af fS (.C 5) (.gp (.b2 [])))) (.eN))) (.ft))) (.aj (.bz (.I (.bool false))) (.aD)) (.aD)) (.aj (.bQ (.nh (.boolOf (.ba oR (.aa (.C 1) (.aa (.C 7) (.aa (.C 8) (.aa (.C 3) (.aa (.C 4) (.ar))))))))) (.aj (.bz (.I (.bool false))) (.aD)) (.aD)) (.aD))))
noncomputable def xn:b5:=.aj (.b6 10 (.ba oV (.aa (.j1 (.af a6 (.C 7) (.I (.str "alarms")))) (.ar)))) (.aj (.bQ (.boolOf (.af iS (.C 10) (.I (.none)))) (.aj (.so) (.aD)) (.aD)) (.aj (.bQ (.cV (.boolOf (.af jg (.af a6 (.C 10) (.I (.int 0))) (.C 4))) (.cV (.boolOf (.af fS (.af a6 (.C 10) (.I (.int 0))) (.ke r5 (.af a6 (.C 7) (.I (.str "alarms"))) (.ar)))) (.ft))) (.aj (.bz (.I (.bool false))) (.aD)) (.aD)) (.aj (.b6 4 (.af a6 (.C 10) (.I (.int 0)))) (.aj (.b6 11 (.ke r6 (.af a6 (.C 7) (.I (.str "alarms"))) (.aa (.C 4) (.ar)))) (.aj (.bQ (.cV (.boolOf (.af cm (.C 11) (.dw (.ar)))) (.cV (.boolOf (.af fS (.af a6 (.C 11) (.I (.int 0))) (.af a6 (.C 10) (.I (.int 1))))) (.ft))) (.aj (.bz (.I (.bool false))) (.aD)) (.aD)) (.aj (.b6 12 (.f' (.ar))) (.aj (.fh (.C 11) (c2 13) xm) CI)))))))
noncomputable def CJ:b5:=.aj (.dM (.ba k7 (.aa (.C 7) (.aa (.C 14) (.ar))))) (.aD)
noncomputable def CK:b5:=.aj (.fh (.af a6 (.C 7) (.I (.str "flying"))) (dJ [13,14]) CJ) (.aj (.fx (dJ [15,16]) (.ba oT (.aa (.dw (.aa (.bM (.aa (.I (.str "crypto")) (.aa (.I (.int 0)) (.aa (.d2 f9 (.aa (.I (.int 9)) (.ar))) (.ar))))) (.aa (.bM (.aa (.I (.str "ping")) (.ar))) (.ar)))) (.aa (.I (.int 8)) (.ar))))) (.aj (.bQ (.cV (.nh (.boolOf (.ba rY (.aa (.C 7) (.aa (.C 2) (.ar)))))) (.cV (.boolOf (.af fS (.C 15) (.dw (.aa (.bM (.aa (.I (.str "crypto")) (.aa (.I (.int 0)) (.aa (.d2 f9 (.aa (.I (.int 5)) (.ar))) (.ar))))) (.ar))))) (.cV (.boolOf (.af fS (.C 16) (.dw (.aa (.bM (.aa (.I (.str "crypto")) (.aa (.I (.int 5)) (.aa (.d2 f9 (.aa (.I (.int 4)) (.ar))) (.ar))))) (.aa (.bM (.aa (.I (.str "ping")) (.ar))) (.ar)))))) (.ft)))) (.aj (.bz (.I (.bool false))) (.aD)) (.aD)) (.aj (.bQ (.boolOf (.af fS (.dD dT vi (.af a6 (.C 7) (.I (.str "told"))) (.aa (.bM (.aa (.I (.str "path_challenge")) (.aa (.I (.bytes mG)) (.ar)))) (.ar))) (.I (.int 1)))) (.aj (.bz (.I (.bool false))) (.aD)) (.aD)) (.aj (.b6 17 (.fq (.C 2) (ek [none]) (c2 0) (.boolOf (.af cm (.af a6 (.C 0) (.I (.int 0))) (.I (.str "new_connection_id")))) (.C 0))) (.aj (.bz (.lY (.af fA (.af a6 (.C 17) (.I (.int 0))) (.af a6 (.C 7) (.I (.str "came")))) (.af fS (.fq (.af a6 (.C 7) (.I (.str "came"))) (ek [none]) (c2 0) (.boolOf (.af cm (.af a6 (.C 0) (.I (.int 0))) (.I (.str "max_data")))) (.C 0)) (.dw (.ar))))) (.aD))))))
noncomputable def CL:b5:=.aj (.b6 5 (.ez (.boolOf (.af cm (.ba gy (.aa (.C 1) (.aa (.I (.int 2)) (.ar)))) (.I (.int 0)))) (.kB (.b2 []) (.gA (.bM (.aa (.I (.str "stop_sending")) (.aa (.I (.int 4)) (.ar)))) (.I (.bool true)) (.kh))) (.gp (.b2 [])))) (.aj (.b6 6 (.ez (.boolOf (.af cm (.ba gy (.aa (.C 1) (.aa (.I (.int 2)) (.ar)))) (.I (.int 0)))) (.kB (.b2 []) (.gA (.bM (.aa (.I (.str "data_blocked")) (.aa (.I (.none)) (.ar)))) (.I (.int 9)) (.kh))) (.gp (.b2 [])))) (.aj (.b6 7 (.kB (.cb []) (.gA (.I (.str "flying")) (.f' (.ar)) (.gA (.I (.str "came")) (.f' (.ar)) (.gA (.I (.str "told")) (.f' (.ar)) (.gA (.I (.str "octets")) (.gp (.b2 [])) (.gA (.I (.str "ends")) (.gp (.cb [])) (.gA (.I (.str "alarms")) (.tA) (.kh))))))))) (.aj (.bQ (.nh (.boolOf (.ba oR (.aa (.C 1) (.aa (.C 7) (.aa (.C 2) (.aa (.C 3) (.aa (.C 4) (.ar))))))))) (.aj (.bz (.I (.bool false))) (.aD)) (.aD)) (.aj (.b6 8 (.dw (.ar))) (.aj (.fh (.d2 lN (.aa (.I (.int 12)) (.ar))) (c2 9) xn) CK)))))
noncomputable def CH:b5:=.aj (.b6 0 (.fq (.iF (.C 0) (.I .none) (.I (.int 24))) (ek [none]) (c2 0) (.eN) (.d2 AM (.aa (.C 0) (.ar))))) (.aj (.b6 1 (.f' (.aa (.af gU (.d2 p' (.aa (.C 0) (.ar))) (.I (.int 2147483647))) (.aa (.C 0) (.aa (.I (.int 0)) (.ar)))))) (.aj (.fx (dJ [2,3,4]) (.bM (.aa (.ba rX (.aa (.C 1) (.ar))) (.aa (.af cF (.I (.int 32)) (.ba gy (.aa (.C 1) (.aa (.I (.int 20)) (.ar))))) (.aa (.I (.int 0)) (.ar)))))) CL))
theorem Og:rU=CH.d:=by kernel_rfl
theorem Yp(h:CR.p [some a,none,none,none] σ (eE σ Q)):a3 (r8 [a] σ) Q:=e9 Om rfl h
theorem Yx(h:C4.p [some a,some b,some c,some d,none,none,none,none] σ (eE σ Q)):a3 (sa [a,b,c,d] σ) Q:=e9 OA rfl h
theorem Yi(h:CE.p [some a] σ (eE σ Q)):a3 (r2 [a] σ) Q:=e9 Oe rfl h
theorem Yw(h:C2.p [some a,some b,none,none] σ (eE σ Q)):a3 (qm [a,b] σ) Q:=e9 Oz rfl h
theorem Yy(h:C5.p [some a,none] σ (eE σ Q)):a3 (sb [a] σ) Q:=e9 OB rfl h
theorem Yv(h:C1.p [some a,some b,none] σ (eE σ Q)):a3 (oW [a,b] σ) Q:=e9 Oy rfl h
theorem Yt(h:CY.p [some a] σ (eE σ Q)):a3 (gO [a] σ) Q:=e9 Ov rfl h
theorem Yr(h:CV.p [some a] σ (eE σ Q)):a3 (kp [a] σ) Q:=e9 Oq rfl h
theorem Yu(h:C0.p [some a,some b,none,none,none,none,none,none,none] σ (eE σ Q)):a3 (r' [a,b] σ) Q:=e9 Ox rfl h
theorem Ys(h:CX.p [some a,none,none,none,none,none] σ (eE σ Q)):a3 (r9 [a] σ) Q:=e9 Ou rfl h
theorem Jx(h:CZ.p [some a,none] σ (eE σ Q)):a3 (ql [a] σ) Q:=e9 Ow rfl h
theorem oy(h:CW.p [some a,none,none] σ (eE σ Q)):a3 (mz [a] σ) Q:=e9 Ot rfl h
theorem Yh(h:CD.p [some a] σ (eE σ Q)):a3 (jo [a] σ) Q:=e9 Od rfl h
theorem Yd(h:Cz.p [some a] σ (eE σ Q)):a3 (oS [a] σ) Q:=e9 Oa rfl h
theorem YA(h:C8.p [some a,some b,some c,some d] σ (eE σ Q)):a3 (iK [a,b,c,d] σ) Q:=e9 OD rfl h
theorem Ye(h:CA.p [some a,some b,none,none] σ (eE σ Q)):a3 (r1 [a,b] σ) Q:=e9 Ob rfl h
theorem Yc(h:Cy.p [some a,some b,none,none,none] σ (eE σ Q)):a3 (r0 [a,b] σ) Q:=e9 N' rfl h
theorem Yg(h:CB.p [some a,some b,none,none,none,none,none] σ (eE σ Q)):a3 (oT [a,b] σ) Q:=e9 Oc rfl h
theorem Yj(h:CF.p [some a,some b,none,none,none,none] σ (eE σ Q)):a3 (r3 [a,b] σ) Q:=e9 Of rfl h
theorem Yq(h:CT.p [some a,none,none,none] σ (eE σ Q)):a3 (oV [a] σ) Q:=e9 Oo rfl h
theorem Yb(h:Cw.p [some a,some b,none,none,none] σ (eE σ Q)):a3 (rZ [a,b] σ) Q:=e9 N9 rfl h
theorem Yz(h:C7.p [some a,some b,some c,none] σ (eE σ Q)):a3 (sd [a,b,c] σ) Q:=e9 OC rfl h
theorem Ym(h:CN.p [some a,some b,some c] σ (eE σ Q)):a3 (oU [a,b,c] σ) Q:=e9 Oi rfl h
theorem Yo(h:CQ.p [some a,some b] σ (eE σ Q)):a3 (r7 [a,b] σ) Q:=e9 Ol rfl h
theorem Yl(h:CM.p [some a,none] σ (eE σ Q)):a3 (r5 [a] σ) Q:=e9 Oh rfl h
theorem Yn(h:CO.p [some a,some b,none,none] σ (eE σ Q)):a3 (r6 [a,b] σ) Q:=e9 Oj rfl h
theorem X7(h:Cs.p [some a,some b,none,none] σ (eE σ Q)):a3 (gy [a,b] σ) Q:=e9 N5 rfl h
theorem X8(h:Ct.p [some a,none,none,none] σ (eE σ Q)):a3 (rX [a] σ) Q:=e9 N6 rfl h
theorem X6(h:Cr.p [some a,some b,none,none,none,none,none,none] σ (eE σ Q)):a3 (k7 [a,b] σ) Q:=e9 N4 rfl h
theorem X'(h:Cv.p [some a,some b,none,none,none,none,none,none,none] σ (eE σ Q)):a3 (rY [a,b] σ) Q:=e9 N8 rfl h
theorem X9(h:Cu.p [some a,some b,some c,some d,some e,none,none,none] σ (eE σ Q)):a3 (oR [a,b,c,d,e] σ) Q:=e9 N7 rfl h
theorem Yk(h:CH.p [some a,none,none,none,none,none,none,none,none,none,none,none,none,none,none,none,none,none] σ (eE σ Q)):a3 (uT [a] σ) Q:=e9 Og rfl h
end
set_option genInjectivity false
inductive qw {A B aA:Type} (P:A->B->aA->Prop):Prop
 |mk (a:A) (b:B) (c:aA) (cG:P a b c)
inductive u3 {A B aA D:Type} (P:A->B->aA->D->Prop):Prop
 |mk (a:A) (b:B) (c:aA) (d:D) (cG:P a b c d)
inductive DK {A B aA D E F:Type} (P:A->B->aA->D->E->F->Prop):Prop
 |mk (a:A) (b:B) (c:aA) (d:D) (e:E) (f:F) (cG:P a b c d e f)
inductive LA {A B aA D E F G:Type} (P:A->B->aA->D->E->F->G->Prop):Prop
 |mk (a:A) (b:B) (c:aA) (d:D) (e:E) (f:F) (g:G) (cG:P a b c d e f g)
inductive Lz {A B aA D E F G aF aO nH K:Type} (P:A->B->aA->D->E->F->G->aF->aO->nH->K->Prop):Prop
 |mk (a:A) (b:B) (c:aA) (d:D) (e:E) (f:F) (g:G) (h:aF) (i:aO) (ai:nH) (k:K) (cG:P a b c d e f g h i ai k)
theorem gk(h:b=true)(a:A):dv b A B:=by subst h;exact a
theorem fH(h:b=false)(a:B):dv b A B:=by subst h;exact a
theorem nS{_:Decidable p}(h1:p->A)(h2:¬p->B):dv (decide p) A B:=by
 by_cases h:p
 .exact gk (decide_eq_true h) (h1 h)
 .exact fH (decide_eq_false h) (h2 h)
theorem iL{α:Type}{m:Option α}{a:α}{Q:α->Prop}(e:m=some a)(h:Q a):gh m Q:=by subst e;exact h
theorem gY{α:Type}{m:Option (α×St)}{a:α}{Q:α->St->Prop}(e:m=some (a,s))(h:Q a s):aJ m Q:=by subst e;exact h
theorem jq{α:Type}{_:Decidable p}{a:α}{Q:α->St->Prop}(e:p)(h:Q a s):aJ (if p then some (a,s) else none) Q:=by rw[if_pos e];exact h
theorem ef(e:fW o i s=some v)(h:Q v s):aJ (a6 [o,i] s) Q:=gY (congrArg (Option.map λv=>(v,s)) e) h
theorem qq(e:mc o i s=some r)(h:Q (.bool r) s):aJ (fA [o,i] s) Q:=gY (congrArg (Option.map λr=>(J.bool r,s)) e) h
theorem Lh(e:mc o i s=some r)(h:Q (.bool (!r)) s):aJ (oq [o,i] s) Q:=gY (congrArg (Option.map λr=>(J.bool !r,s)) e) h
theorem uX(e:mL o i s=some r)(h:Q (.bool r) s):aJ (cm [o,i] s) Q:=gY (congrArg (Option.map λr=>(J.bool r,s)) e) h
theorem xF(e:mL o i s=some r)(h:Q (.bool (!r)) s):aJ (fS [o,i] s) Q:=gY (congrArg (Option.map λr=>(J.bool !r,s)) e) h
theorem DA(e:ng o=some r)(h:Q (.bool r) s):aJ (iS [o,.none] s) Q:=gY (congrArg (Option.map λr=>(J.bool r,s)) e) h
theorem xE(e:ng o=some r)(h:Q (.bool (!r)) s):aJ (kM [o,.none] s) Q:=gY (congrArg (Option.map λr=>(J.bool !r,s)) e) h
noncomputable def tu(R:Loc->St->Prop)(Q:fy->Loc->St->Prop)(f:fy)(l:Loc)(s:St):Prop:=match f with
 |.next=>R l s
 |.cont=>R l s
 |.brk=>Q .next l s
 |.ret v=>Q (.ret v) l s
section
variable{src:J}{items:List J}{bind:J->Loc->Option Loc}{A:b5}{Q:fy->Loc->St->Prop}
theorem dm.iv{_:Decidable p}(hp:p)(h:dm m Q):dm (if p then m else z) Q:=by rw[if_pos hp];exact h
theorem dm.vc{α:Type}{o:Option α}{a:α}{f:α->Option (fy×Loc×St)}(e:o=Option.some a)(h:dm (f a) Q):dm (o.bind f) Q:=by rw[e];exact h
theorem a3.iv{bR:Type}{Q:bR->St->Prop}{_:Decidable p}{m z:Option (bR×St)}(hp:p)(h:a3 m Q):a3 (if p then m else z) Q:=by rw[if_pos hp];exact h
theorem a3.vc{α bR:Type}{Q:bR->St->Prop}{o:Option α}{a:α}{f:α->Option (bR×St)}(e:o=Option.some a)(h:a3 (f a) Q):a3 (o.bind f) Q:=by rw[e];exact h
theorem Bb{P:fy->Prop}(q:tu R Q f l s)(a:R l s->P .next)(b:R l s->P .cont)(c:Q .next l s->P .brk)(d:∀v,Q (.ret v) l s->P (.ret v)):P f:=
 fy.casesOn (motive:=λf=>tu R Q f l s->P f) f a c b d q
theorem jB{α:Type}{enc:α->J}(aO:List α->Loc->St->Prop)(hs:∀r l s,aO r l s->dO src s=some items)
 (step:∀x r l s,aO (x::r) l s->∃l',bind (enc x) l=some l'/\A.p l' s (tu (aO r) Q))(done:∀l s,aO [] l s->Q .next l s):∀{xs:List α} {U:Loc} {σ:St},aO xs U σ->dm (nc src items bind A.d (xs.map enc) U σ) Q:=by
 intro xs
 induction xs with
 |nil=>exactλh=>dm.iv (hs _ _ _ h) (.some (done _ _ h))
 |cons x r aX=>
  intro U σ h
  obtain⟨l',e,p⟩:=step x r U σ h
  refine dm.iv (hs _ _ _ h) (dm.vc e (dm.fZ ((A.h p).a4 λf l s q=>?_)))
  exact Bb (P:=λf=>dm (match(f,l,s) with
   |(.next,l,s)=>nc src items bind A.d (r.map enc) l s
   |(.cont,l,s)=>nc src items bind A.d (r.map enc) l s
   |(.brk,l,s)=>some (.next,l,s)
   |(.ret v,l,s)=>some (.ret v,l,s)) Q) q aX aX .some λ_=>.some
theorem Ba{α:Type}{enc:α->J}(aO:Nat->List α->Loc->St->Prop)(hs:∀i r l s,aO i r l s->dO src s=some items)
 (step:∀i x r l s,aO i (x::r) l s->∃l',bind (.bk [.int i,enc x]) l=some l'/\A.p l' s (tu (aO (i+1) r) Q))(done:∀i l s,aO i [] l s->Q .next l s):∀{xs:List α} {i:Nat} {U:Loc} {σ:St},aO i xs U σ->dm (lJ src items bind A.d i (xs.map enc) U σ) Q:=by
 intro xs
 induction xs with
 |nil=>exactλh=>dm.iv (hs _ _ _ _ h) (.some (done _ _ _ h))
 |cons x r aX=>
  intro i U σ h
  obtain⟨l',e,p⟩:=step i x r U σ h
  refine dm.iv (hs _ _ _ _ h) (dm.vc e (dm.fZ ((A.h p).a4 λf l s q=>?_)))
  exact Bb (P:=λf=>dm (match(f,l,s) with
   |(.next,l,s)=>lJ src items bind A.d (i+1) (r.map enc) l s
   |(.cont,l,s)=>lJ src items bind A.d (i+1) (r.map enc) l s
   |(.brk,l,s)=>some (.next,l,s)
   |(.ret v,l,s)=>some (.ret v,l,s)) Q) q aX aX .some λ_=>.some
theorem HP{T:fD}(h:T.p U σ λb s=>dv b (A.p U s (tu (λl s=>dm (mg T.d A.d n l s) Q) Q)) (Q .next U s)):dm (mg T.d A.d (n+1) U σ) Q:=by
 refine a3.fZ ((T.h h).a4 λb s h=>dv.nE (h.of (λp=>dm.fZ ((A.h p).a4 λf l s q=>?_)) .some))
 exact Bb (P:=λf=>dm (match(f,l,s) with
  |(.next,l,s)=>mg T.d A.d n l s
  |(.cont,l,s)=>mg T.d A.d n l s
  |(.brk,l,s)=>some (.next,l,s)
  |(.ret v,l,s)=>some (.ret v,l,s)) Q) q id id .some λ_=>.some
inductive oM {α bR:Type} (P:α->bR->Prop):List α->List bR->Prop
 |nil:oM P [] []
 |cons {a:α} {b:bR} {as:List α} {bg:List bR}:P a b->oM P as bg->oM P (a::as) (b::bg)
theorem la{α:Type}{enc:α->J}{T:fD}{E:TE}(aO:Loc->St->Prop)(p:α->Bool)(g:α->J->Prop)(hs:∀l s,aO l s->dO src s=some items){Q:List J->St->Prop}:∀{xs:List α},
 (∀x∈xs,∀l s,aO l s->∃l',bind (enc x) l=some l'/\T.p l' s λb t=>b=p x/\dv b (E.p l' t λv u=>g x v/\aO l' u) (aO l' t))->
 ∀{acc:List J} {U:Loc} {σ:St},aO U σ->acc.length+xs.length<1000000->(∀cB l t,oM g (xs.filter p) cB->aO l t->Q (acc++cB) t)->a3 (l1 src items bind T.d E.d (xs.map enc) acc U σ) Q:=by
 intro xs
 induction xs with
 |nil=>exactλ_ {acc U σ} h _ q=>a3.iv (hs _ _ h) (.some (List.append_nil acc▸q [] U σ .nil h))
 |cons x r aX=>
  intro step acc U σ h aG q
  obtain⟨l',e,t⟩:=step x (List.mem_cons_self ..) U σ h
  refine a3.iv (hs _ _ h) (a3.vc e ?_)
  rw[List.length_cons] at aG
  have JY:=λy bB=>step y (List.mem_cons_of_mem _ bB)
  refine a3.bind ((T.h t).a4 λb t sA=>dv.wp ?_)
  obtain⟨e4,k⟩:=sA
  cases b
  .refine aX JY k (by exact aC.Xa aG) λcB l t a i=>q cB l t ?_ i
   rw[List.filter_cons_of_neg (by rw[<-e4];exact Bool.false_ne_true)];exact a
  .refine a3.bind ((E.h k).a4 λv u Qv=>a3.iv (aC.Xb aG) ?_)
   obtain⟨gF,Su⟩:=Qv
   refine aX JY Su (by rw[List.length_append];exact(by exact aC.Xc aG:acc.length+1+r.length<1000000)) λcB l t a i=>?_
   rw[List.append_assoc]
   refine q (v::cB) l t ?_ i
   rw[List.filter_cons_of_pos e4.symm];exact .cons gF a
end
structure cu (σ s:St):Prop where
 cells:s.cells=σ.cells
 next:σ.next<=s.next
noncomputable def cz(σ:St):Prop:=∀c,σ.next<=c->σ.cells c=none
theorem cu.refl:cu σ σ:=⟨rfl,Nat.le_refl _⟩
theorem cu.trans(h:cu a b)(h':cu b c):cu a c:=⟨h'.cells.trans h.cells,Nat.le_trans h.next h'.next⟩
theorem cu.wf(h:cu a b)(w:cz a):cz b:=λc aw=>by rw[h.cells];exact w c (Nat.le_trans h.next aw)
theorem cu.cut(w:cz σ)(h:cu σ s):cu σ (s.cut σ.next):=by
 refine⟨?_,h.next⟩
 funext c
 show(if c<σ.next then s.cells c else none)=_
 rw[h.cells]
 by_cases q:c<σ.next
 .exact if_pos q
 .exact(if_neg q).trans (w c (Nat.le_of_not_lt q)).symm
inductive u2 (n:Int) (σ:St):List Unit->Loc->St->Prop
 |go:u2 n σ [()] [some (.int n),some (.int 1),some (.ref σ.next),none] (σ.new (.d7 [0]))
 |cv (a b:Option J):u2 n σ [] [a,some (.int 1),some (.ref σ.next),b] ((σ.new (.d7 [0])).aS σ.next (.d7 [n.toNat.toUInt8]))
theorem aby(w:cz σ)(ah:0<=n)(h1:n<256):a3 (qm [.int n,.int 1] σ) λv s=>v=.bytes [n.toNat.toUInt8]/\cu σ s:=by
 refine Yw ?_
 refine fH (b:=decide (n<0)) (decide_eq_false (by exact aC.wQ ah)) ?_
 refine fH (b:= !(n.fdiv 256==0)) ?_ ?_
 .rw[Int.fdiv_eq_ediv_of_nonneg _ (by decide),show n/ 256=0 by exact aC.UG ah h1];rfl
 refine dq rfl ?_
 refine jB (A:=C3) (xs:=[()]) (enc:=λ_=>.int 0) (u2 n σ) (λr l s _=>rfl) ?_ ?_ .go
 .intro x r l s h
  cases h
  refine⟨_,rfl,?_⟩
  refine iL (m:=nu (.ref σ.next) (.int 0) (.int (n.fmod 256)) (σ.new (.d7 [0]))) (a:=(σ.new (.d7 [0])).aS σ.next (.d7 [n.toNat.toUInt8])) ?_ (u2.cv _ _)
  rw[Int.fmod_eq_emod_of_nonneg _ (by decide),show n % 256=n by exact aC.UH ah h1]
  show(match(σ.new (.d7 [0])).cells σ.next with
   |some (.d7 b)=>if _ then some _ else none
   |_=>none)=_
  rw[show(σ.new (.d7 [0])).cells σ.next=some (.d7 [0]) from if_pos rfl]
  exact if_pos ⟨by decide,by decide,by decide,ah,h1⟩
 .intro l s h
  cases h with|cv a b=>
  refine gY (m:=vd [.ref σ.next] _) (a:=.bytes [n.toNat.toUInt8]) (s:=(σ.new (.d7 [0])).aS σ.next (.d7 [n.toNat.toUInt8])) ?_ ⟨rfl,?_,?_⟩
  .show(match((σ.new (.d7 [0])).aS σ.next (.d7 [n.toNat.toUInt8])).cells σ.next with
    |some (.d7 b)=>if b.length<=1000000 then some (J.bytes b,_) else none
    |_=>none)=_
   rw[show((σ.new (.d7 [0])).aS σ.next (.d7 [n.toNat.toUInt8])).cells σ.next=some (.d7 [n.toNat.toUInt8]) from if_pos rfl]
   rfl
  .refine funext λc=>?_
   by_cases aw:c<σ.next
   .exact(if_pos aw).trans ((if_neg (Nat.ne_of_lt aw)).trans (if_neg (Nat.ne_of_lt aw)))
   .exact(if_neg aw).trans (w c (Nat.le_of_not_lt aw)).symm
  .exact Nat.le_succ _
set_option genInjectivity true
theorem abw(w:cz σ)(ah:0<=n)(h1:n<64):a3 (sb [.int n] σ) λv s=>v=.int 1/\cu σ s:=by
 refine Yy ?_
 refine dq rfl ?_
 refine jB (A:=C6) (xs:=[1,2,4,8]) (enc:=J.int) (λr l s=>r=[1,2,4,8]/\l=[some (.int n),none]/\s=σ) (λ_ _ _ _=>rfl) ?_ (λl s h=>nomatch h.1) ⟨rfl,rfl,rfl⟩
 rintro x r _ _ ⟨h,rfl,rfl⟩
 cases h
 refine⟨_,rfl,?_⟩
 refine gk (b:=decide (0<=n)) (decide_eq_true ah) ?_
 refine gk (b:=decide (n<1*2^(6:Int).toNat)) (decide_eq_true h1) ?_
 exact⟨rfl,cu.refl.cut w⟩
theorem MY:∀m:Fin 64,Builtin.bitOr 0 ((m.val:Nat):Int)=((m.val:Nat):Int):=by decide+kernel
theorem MZ(h:0<=n)(h1:n<64):Builtin.bitOr 0 n=n:=by
 obtain⟨m,rfl⟩:=Int.eq_ofNat_of_zero_le h
 exact MY ⟨m,by exact aC.VF h1⟩
theorem KS(w:cz σ)(ah:0<=n)(h1:n<64):a3 (oW [.int n,.none] σ) λv s=>v=.bytes [n.toNat.toUInt8]/\cu σ s:=by
 refine Yv ?_
 refine(abw w ah h1).fk λs g=>?_
 refine a3.a4 (m:=qm [.int (Builtin.bitOr 0 n),.int 1] s) (Q:=λv t=>v=.bytes [n.toNat.toUInt8]/\cu s t) ?_ ?_
 .rw[MZ ah h1];exact aby (g.wf w) ah (by exact aC.VG h1)
 .rintro _ t ⟨rfl,g2⟩
  exact⟨rfl,(g.trans g2).cut w⟩
theorem M7:∀{cB:List J},oM (λ_ v=>∃b:UInt8,v=J.bytes [b]) l cB->∃bg,bytesOf cB=some bg/\bg.flatten.length=l.length:=by
 induction l with
 |nil=>intro cB h;cases h;exact⟨[],rfl,rfl⟩
 |cons n l aX=>
  intro cB h
  cases h with
  |cons h1 h2=>
   obtain⟨b,rfl⟩:=h1
   obtain⟨bg,a8,a7⟩:=aX h2
   exact⟨[b]::bg,(congrArg (Option.map λl=>[b]::l) a8:_),by rw[List.flatten_cons,List.length_append,a7,List.length_cons];exact Nat.add_comm 1 _⟩
theorem rQ{l:List Int}(a0:vs=l.map J.int)(w:cz σ)(aG:∀n∈l,0<=n/\n<64)(aV:l.length<=100):a3 (gO [.bo vs] σ) λv s=>∃b,v=.bytes b/\b.length=l.length/\cu σ s:=by
 subst a0
 refine Yt ?_
 refine dq rfl ?_
 refine la (src:=.bo (l.map J.int)) (λU s=>(∃z,U=[z])/\cu σ s) (λ_=>true) (λ_ v=>∃b:UInt8,v=J.bytes [b]) (λ_ _ _=>rfl) ?_ ⟨⟨none,rfl⟩,.refl⟩ (by rw[List.length_nil];exact aC.I8 aV) ?_
 .rintro n aV _ s ⟨⟨z,rfl⟩,g⟩
  refine⟨_,rfl,rfl,(KS (g.wf w) (aG n aV).1 (aG n aV).2).a4 ?_⟩
  rintro _ u ⟨rfl,g2⟩
  exact⟨⟨_,rfl⟩,⟨_,rfl⟩,g.trans g2⟩
 .rintro cB _ t a ⟨_,g⟩
  rw[List.filter_eq_self.mpr (λ_ _=>rfl)] at a
  obtain⟨bg,a8,a7⟩:=M7 a
  refine gY (m:=wa [.bytes [],.bo cB] t) (a:=.bytes bg.flatten) ?_ ⟨_,rfl,a7,g.cut w⟩
  show(bytesOf cB).bind (λl=>if l.flatten.length<=1000000 then some (J.bytes l.flatten,t) else none)=_
  rw[a8,Option.bind_some,if_pos (by exact aC.VH aV a7)]
theorem KH(w:cz σ)(aB:d.length<64):a3 (kp [.bytes d] σ) λv s=>∃b,v=.bytes b/\b.length=1+d.length/\cu σ s:=by
 refine Yr ?_
 refine jq (p:=d.length<=1000000) (by exact aC.p6 aB) ?_
 refine(KS w (by exact aC.VI) (by exact aC.VJ aB)).fk λs g=>?_
 refine jq (p:=1+d.length<=1000000) (by exact aC.VK aB) ⟨_,rfl,?_,g.cut w⟩
 rw[List.length_append];rfl
inductive Fr where
 |dG (n:Int)
 |fC
 |c0
 |ec
 |c' (n:Int)
 |st (c5 bF:Int) (d:List UInt8) (cA:Bool)
 |d8 (bF:Int) (d:List UInt8)
 |gg
noncomputable def Fr.code:Fr->Nat×Int×Int×List UInt8×Bool
 |.dG n=>(0,n,0,[],false)
 |.fC=>(1,0,0,[],false)
 |.c0=>(2,0,0,[],false)
 |.ec=>(3,0,0,[],false)
 |.c' n=>(4,n,0,[],false)
 |.st a b d f=>(5,a,b,d,f)
 |.d8 a d=>(6,a,0,d,false)
 |.gg=>(7,0,0,[],false)
noncomputable def Fr.bT(c:Nat×Int×Int×List UInt8×Bool):Fr:=
 if c.1=0 then .dG c.2.1 else if c.1=1 then .fC else if c.1=2 then .c0 else if c.1=3 then .ec else if c.1=4 then .c' c.2.1 else if c.1=5 then .st c.2.1 c.2.2.1 c.2.2.2.1 c.2.2.2.2 else if c.1=6 then .d8 c.2.1 c.2.2.2.1 else .gg
theorem Fr.D7(a:Fr):Fr.bT a.code=a:=by cases a<;>rfl
noncomputable instance:DecidableEq Fr:=λa b=>decidable_of_iff (a.code=b.code) ⟨λh=>a.D7.symm.trans ((congrArg Fr.bT h).trans b.D7),congrArg Fr.code⟩
noncomputable def Fr.v:Fr->J
 |.dG n=>.bk [.str "max_data",.int n]
 |.fC=>.bk [.str "stop_sending",.int 4,.int 7]
 |.c0=>.bk [.str "path_challenge",.bytes mG]
 |.ec=>.bk [.str "data_blocked",.int 9]
 |.c' n=>.bk [.str "new_connection_id",.int n,.int 0,.bytes (List.replicate 8 0),.bytes (List.replicate 16 0)]
 |.st c5 bF d cA=>.bk [.str "stream",.int c5,.int bF,.bytes d,.bool cA]
 |.d8 bF d=>.bk [.str "crypto",.int bF,.bytes d]
 |.gg=>.bk [.str "ping"]
noncomputable def Fr.ok:Fr->Prop
 |.dG n=>0<=n/\n<64
 |.c' n=>0<=n/\n<64
 |.st c5 bF d _=>(0<=c5/\c5<64)/\(0<=bF/\bF<64)/\bF+d.length<64
 |.d8 bF d=>(0<=bF/\bF<64)/\bF+d.length<64
 |_=>True
noncomputable def Fr.size:Fr->Nat
 |.dG _=>2
 |.fC=>3
 |.c0=>9
 |.ec=>2
 |.c' _=>28
 |.st _ bF d _=>3+(if 0<bF then 1 else 0)+d.length
 |.d8 _ d=>3+d.length
 |.gg=>1
theorem all1{P:Int->Prop}(h:P a):∀n∈[a],P n:=List.forall_mem_cons.mpr ⟨h,List.forall_mem_nil _⟩
theorem all2{P:Int->Prop}(h:P a)(h':P b):∀n∈[a,b],P n:=List.forall_mem_cons.mpr ⟨h,all1 h'⟩
theorem x5{P:Int->Prop}(h:P a)(h':P b)(QA:P c):∀n∈[a,b,c],P n:=List.forall_mem_cons.mpr ⟨h,all2 h' QA⟩
theorem qp(aG:p.length+q.length<=1000000)(h:Q (.bytes (p++q)) s):aJ (cF [.bytes p,.bytes q] s) Q:=jq (p:=p.length+q.length<=1000000) aG h
theorem abj{σ:St}(w:cz σ)(h:Fr.ok (.d8 bF d)):a3 (ql [Fr.v (.d8 bF d)] σ) λv s=>∃b,v=.bytes b/\b.length=Fr.size (.d8 bF d)/\cu σ s:=by
 obtain⟨h1,h2⟩:=h
 refine Jx ?_
 refine(rQ (l:=[6,bF]) rfl w (all2 (by decide) (by omega)) (Nat.le_add_left 2 98)).a4 ?_
 rintro _ s ⟨b,rfl,ag,g⟩
 refine(KH (g.wf w) (show d.length<64 by exact aC.Wa h1 h2)).a4 ?_
 rintro _ t ⟨c,rfl,aw,g2⟩
 have hK:b.length=2:=ag
 refine qp (by exact aC.Wb h1 h2 aw hK) ⟨_,rfl,?_,(g.trans g2).cut w⟩
 rw[List.length_append,hK,aw];show 2+(1+d.length)=3+d.length;exact aC.Wc
theorem abk{σ:St}(w:cz σ):a3 (ql [Fr.v .c0] σ) λv s=>∃b,v=.bytes b/\b.length=Fr.size .c0/\cu σ s:=by
 refine Jx ?_
 refine(rQ (l:=[26]) rfl w (all1 (by decide)) (Nat.le_add_left 1 99)).a4 ?_
 rintro _ s ⟨b,rfl,ag,g⟩
 have hK:b.length=1:=ag
 have aG:mG.length=8:=rfl
 refine qp (q:=mG) (by exact aC.We hK aG) ⟨_,rfl,?_,g.cut w⟩
 rw[List.length_append,hK,aG];rfl
theorem abg{σ:St}(w:cz σ)(h:Fr.ok (.c' n)):a3 (r9 [Fr.v (.c' n)] σ) λv s=>∃b,v=.bytes b/\b.length=Fr.size (.c' n)/\cu σ s:=by
 obtain⟨ah,h1⟩:=h
 refine Ys ?_
 refine(rQ (l:=[24,n,0]) rfl w (x5 (by decide) (by exact aC.Wf ah h1) (by decide)) (Nat.le_add_left 3 97)).a4 ?_
 rintro _ s ⟨b,rfl,ag,g⟩
 have hK:b.length=3:=ag
 refine qp (p:=b) (q:=[8]) (by simp;exact aC.Wg hK) ?_
 refine qp (q:=List.replicate 8 0) (by simp;exact aC.Wh hK) ?_
 refine qp (q:=List.replicate 16 0) (by simp;exact aC.Wi hK) ⟨_,rfl,?_,g.cut w⟩
 simp[hK,Fr.size]
theorem abq{σ:St}(w:cz σ)(h:Fr.ok (.st c5 bF d cA)):a3 (r' [Fr.v (.st c5 bF d cA),.bool false] σ) λv s=>∃b,v=.bytes b/\b.length=Fr.size (.st c5 bF d cA)/\cu σ s:=by
 obtain⟨⟨ah,h1⟩,⟨h2,aQ⟩,h4⟩:=h
 have tail:∀{Q:J->St->Prop} {b:List UInt8} {s:St},cu σ s->b.length<=3->(∀c t,c.length=b.length+(1+d.length)->cu σ t->Q (.bytes c) t)->a3 (kp [.bytes d] s) λv t=>aJ (cF [.bytes b,v] t) Q:=by
  intro Q b s g ag q
  refine(KH (g.wf w) (show d.length<64 by exact aC.Wj h4 h2)).a4 ?_
  rintro _ u ⟨c,rfl,aw,g2⟩
  exact qp (by exact aC.Wk h4 h2 ag aw) (q _ _ (by rw[List.length_append,aw]) (g.trans g2))
 refine Yu ?_
 by_cases aH:0<bF
 .have a8:decide (0<bF)=true:=decide_eq_true aH
  have key:∀t:Int,0<=t/\t<64->a3 (gO [.bo [.int t,.int c5,.int bF]] σ) λv s=>a3 (kp [.bytes d] s) λc t=>aJ (cF [v,c] t) λv s=>∃b,l6 σ.next s.cells v=.bytes b/\b.length=Fr.size (.st c5 bF d cA)/\cu σ (s.cut σ.next):=λt ht=>by
   refine(rQ (l:=[t,c5,bF]) rfl w (x5 ht ⟨ah,h1⟩ ⟨h2,aQ⟩) (Nat.le_add_left 3 97)).a4 ?_
   rintro _ s ⟨b,rfl,ag,g⟩
   have hK:b.length=3:=ag
   refine tail g (by exact aC.Wl hK) λc t aw g2=>⟨c,rfl,?_,g2.cut w⟩
   rw[aw,hK,Fr.size,if_pos aH];exact aC.Wm
  cases cA
  .exact gk a8 (gk a8 (key _ (by decide)))
  .exact gk a8 (gk a8 (key _ (by decide)))
 .have a8:decide (0<bF)=false:=decide_eq_false aH
  have key:∀t:Int,0<=t/\t<64->a3 (gO [.bo [.int t,.int c5]] σ) λv s=>a3 (kp [.bytes d] s) λc t=>aJ (cF [v,c] t) λv s=>∃b,l6 σ.next s.cells v=.bytes b/\b.length=Fr.size (.st c5 bF d cA)/\cu σ (s.cut σ.next):=λt ht=>by
   refine(rQ (l:=[t,c5]) rfl w (all2 ht ⟨ah,h1⟩) (Nat.le_add_left 2 98)).a4 ?_
   rintro _ s ⟨b,rfl,ag,g⟩
   have hK:b.length=2:=ag
   refine tail g (by exact aC.Wn hK) λc t aw g2=>⟨c,rfl,?_,g2.cut w⟩
   rw[aw,hK,Fr.size,if_neg aH];exact aC.Wo
  cases cA
  .exact fH a8 (fH a8 (key _ (by decide)))
  .exact fH a8 (fH a8 (key _ (by decide)))
theorem xg{c m:Int}(w:cz σ)(aG:∀n∈c::l,0<=n/\n<64)(aV:l.length<=99)(h:∀Q,a3 (gO [.bo ((c::l).map J.int)] σ) (λv s=>Q (l6 σ.next s.cells v) (s.cut σ.next))->a3 (mz [f] σ) Q):
 a3 (mz [f] σ) λv s=>∃b,v=.bytes b/\b.length=1+l.length/\cu σ s:=by
 refine h _ ((rQ (l:=c::l) rfl w aG (Nat.succ_le_succ aV)).a4 ?_)
 rintro _ s ⟨b,rfl,ag,g⟩
 exact⟨b,rfl,ag.trans (Nat.add_comm _ 1),g.cut w⟩
theorem KN(f:Fr)(w:cz σ)(h:f.ok):a3 (mz [f.v] σ) λv s=>∃b,v=.bytes b/\b.length=f.size/\cu σ s:=by
 cases f with
 |dG n=>exact xg (m:=0) (c:=16) (l:=[n]) w (all2 (by decide) h) (Nat.le_add_left 1 98) λQ h=>oy h
 |fC=>exact xg (m:=0) (c:=5) (l:=[4,7]) w (x5 (by decide) (by decide) (by decide)) (by decide) λQ h=>oy h
 |ec=>exact xg (m:=0) (c:=20) (l:=[9]) w (all2 (by decide) (by decide)) (by decide) λQ h=>oy h
 |gg=>exact xg (m:=0) (c:=1) (l:=[]) w (all1 (by decide)) (by decide) λQ h=>oy h
 |c0=>
  refine oy ((abk w).a4 ?_)
  rintro _ s ⟨b,rfl,ag,g⟩
  exact⟨b,rfl,ag,g.cut w⟩
 |d8 bF d=>
  refine oy ((abj w h).a4 ?_)
  rintro _ s ⟨b,rfl,ag,g⟩
  exact⟨b,rfl,ag,g.cut w⟩
 |st c5 bF d cA=>
  refine oy ((abq w h).a4 ?_)
  rintro _ s ⟨b,rfl,ag,g⟩
  exact⟨b,rfl,ag,g.cut w⟩
 |c' n=>
  refine oy ((abg w h).a4 ?_)
  rintro _ s ⟨b,rfl,ag,g⟩
  exact⟨b,rfl,ag,g.cut w⟩
theorem Fr.JO{f:Fr}(h:f.ok):f.size<=70:=by
 cases f with
 |st a b c d=>
  obtain⟨_,⟨_,_⟩,h⟩:=h
  show 3+(if 0<b then 1 else 0)+c.length<=70
  split<;>omega
 |d8 a b=>
  obtain⟨⟨_,_⟩,h⟩:=h
  show 3+b.length<=70
  omega
 |c'=>exact(by decide:28<=70)
 |c0=>exact(by decide:9<=70)
 |fC=>exact(by decide:3<=70)
 |gg=>exact(by decide:1<=70)
 |_=>exact(by decide:2<=70)
theorem Cm(f:Fr)(w:cz σ)(h:f.ok):a3 (jo [f.v] σ) λv s=>v=.int f.size/\cu σ s:=by
 refine Yh ((KN f w h).a4 ?_)
 rintro _ s ⟨b,rfl,ag,g⟩
 have:=Fr.JO h
 exact jq (p:=b.length<=1000000) (by exact aC.IL ag this) ⟨by rw[<-ag];rfl,g.cut w⟩
noncomputable def Fr.data:Fr->Option (List UInt8)
 |.st _ _ d _=>some d
 |.d8 _ d=>some d
 |_=>none
noncomputable def Fr.hM:Fr->Str
 |.dG _=>"max_data"
 |.fC=>"stop_sending"
 |.c0=>"path_challenge"
 |.ec=>"data_blocked"
 |.c' _=>"new_connection_id"
 |.st _ _ _ _=>"stream"
 |.d8 _ _=>"crypto"
 |.gg=>"ping"
theorem Fr.q6(f:Fr):fW f.v (.int 0) s=some (.str f.hM):=by cases f<;>rfl
theorem KI{f:Fr}(w:cz σ)(aB:f.data=some d):a3 (oS [f.v] σ) λv s=>v=.bytes d/\cu σ s:=by
 cases f<;>cases aB<;>exact Yd ⟨rfl,cu.refl.cut w⟩
noncomputable def Fr.jM(f:Fr)(k:Nat)(d:List UInt8)(cA:Bool):Fr:=match f with
 |.st c5 bF _ _=>.st c5 (bF+k) d cA
 |.d8 bF _=>.d8 (bF+k) d
 |f=>f
theorem Cn{f:Fr}{k:Nat}(w:cz σ)(aB:f.data=some abL):a3 (iK [f.v,.int k,.bytes d,.bool b] σ) λv s=>v=(f.jM k d b).v/\cu σ s:=by
 cases f<;>cases aB<;>exact YA ⟨rfl,cu.refl.cut w⟩
noncomputable def Fr.dh(f:Fr):Nat:=(f.jM 0 [] false).size
theorem Fr.GF(f:Fr)(h:f.data=some d):f.dh<=4/\3<=f.dh:=by
 cases f<;>cases h
 .rename_i bF _
  show 3+(if 0<bF+0 then 1 else 0)+0<=4/\3<=3+(if 0<bF+0 then 1 else 0)+0
  split<;>exact⟨by decide,by decide⟩
 .exact⟨show 3<=4 by decide,show 3<=3 by decide⟩
theorem Fr.Ko(f:Fr)(h:f.data=some d):(f.jM 0 hX b).size=f.dh+hX.length:=by
 cases f<;>cases h<;>rfl
theorem Fr.w5(f:Fr)(h:f.data=some d):f.size=f.dh+d.length:=by
 cases f<;>cases h
 .rename_i c5 bF cA
  show _=(3+(if 0<bF+0 then 1 else 0)+0)+d.length
  rw[Int.add_zero];rfl
 .rfl
theorem Fr.Kn{f:Fr}{d hX:List UInt8}(h:f.data=some d)(aH:f.ok)(aB:hX.length<=d.length):(f.jM 0 hX b).ok:=by
 cases f<;>cases h
 .obtain⟨h1,⟨h2,h4⟩,aQ⟩:=aH;exact⟨h1,by exact aC.I3 h2 h4,by exact aC.I4 aB aQ⟩
 .obtain⟨⟨h2,h4⟩,aQ⟩:=aH;exact⟨by exact aC.I3 h2 h4,by exact aC.I4 aB aQ⟩
theorem Fr.qH{f:Fr}{d:List UInt8}(h:f.data=some d)(aH:f.ok):d.length<64:=by
 cases f<;>cases h
 .obtain⟨_,⟨_,_⟩,h⟩:=aH;omega
 .obtain⟨⟨_,_⟩,h⟩:=aH;omega
theorem JP{ai:Int}{m:Nat}(cD:ai=m)(aG:d.length<=1000000)(h:Q (.bytes (d.take m))):gh (iW (.bytes d) .none (.int ai)) Q:=by
 subst cD
 exact iL (show(if 0<=(m:Int)/\d.length<=1000000 then some (J.bytes (d.take m)) else none)=_ from if_pos ⟨Int.natCast_nonneg _,aG⟩) h
theorem ZL{ai:Int}{m:Nat}(cD:ai=m)(aG:d.length<=1000000)(h:Q (.bytes (d.drop m))):gh (iW (.bytes d) (.int ai) .none) Q:=by
 subst cD
 exact iL (show(if 0<=(m:Int)/\d.length<=1000000 then some (J.bytes (d.drop m)) else none)=_ from if_pos ⟨Int.natCast_nonneg _,aG⟩) h
theorem abo{σ:St}{f:Fr}{d:List UInt8}{R:Nat}(w:cz σ)(aB:f.data=some d)(aH:f.ok):a3 (r1 [f.v,.int R] σ) λv s=>v=.int (if R<f.dh then-1 else((min d.length (R-f.dh):Nat):Int))/\cu σ s:=by
 have aG:=Fr.qH aB aH
 have rI:∀(hX:List UInt8) (s:St) (Q:J->St->Prop),cz s->hX.length<=d.length->(∀t,cu s t->Q (.int (f.dh+hX.length:Nat)) t)->a3 (iK [f.v,.int (0:Nat),.bytes hX,.bool false] s) λv t=>a3 (jo [v] t) Q:=by
  intro hX s Q nE ee q
  refine(Cn nE aB).fk λt g=>?_
  refine(Cm _ (g.wf nE) (Fr.Kn aB aH ee)).fk λu g2=>?_
  rw[Fr.Ko f aB];exact q _ (g.trans g2)
 refine Ye ((KI w aB).a4 ?_)
 rintro _ kk ⟨rfl,g1⟩
 refine rI [] kk _ (g1.wf w) (Nat.zero_le _) λkW g3=>?_
 have g13:=g1.trans g3
 refine nS (p:=(R:Int)<((f.dh+0:Nat):Int)) (λq=>?_) λq=>?_
 .rw[if_pos (by exact aC.Wq q)]
  exact⟨rfl,g13.cut w⟩
 .refine jq (p:=d.length<=1000000) (by exact aC.p6 aG) ?_
  refine rI [] kW _ (g13.wf w) (Nat.zero_le _) λBS g5=>?_
  have F7:=g13.trans g5
  have em:(if(R:Int)-((f.dh+0:Nat):Int)<(d.length:Int) then(R:Int)-((f.dh+0:Nat):Int) else(d.length:Int))=((min d.length (R-f.dh):Nat):Int):=by
   split<;>omega
  refine HP (n:=999999) ?_
  refine JP em (by exact aC.p6 aG) ?_
  refine rI _ BS _ (F7.wf w) (by rw[List.length_take];exact aC.Wr) λmm g6=>?_
  refine fH (decide_eq_false (by rw[List.length_take];omega)) ⟨congrArg J.int ?_,(F7.trans g6).cut w⟩
  exact em.trans (if_neg (by omega)).symm
noncomputable def Fr.cA:Fr->Bool
 |.st _ _ _ b=>b
 |_=>false
noncomputable def dB(f:Fr)(R:Nat):Option Fr×Option Fr:=
 if f.size<=R then(some f,none) else match f.data with
 |none=>(none,some f)
 |some d=>if R<=f.dh then(none,some f) else(some (f.jM 0 (d.take (R-f.dh)) false),some (f.jM (R-f.dh) (d.drop (R-f.dh)) f.cA))
noncomputable def iC:Option Fr->J
 |none=>.none
 |some f=>f.v
theorem PO(f:Fr):iQ n cells f.v=f.v:=by cases f<;>rfl
theorem F3(o:Option Fr):iQ n cells (iC o)=iC o:=by
 cases o with
 |none=>rfl
 |some f=>exact PO f
theorem PM(o p:Option Fr):l6 n cells (.bk [iC o,iC p])=.bk [iC o,iC p]:=by
 show J.bk [iQ n cells (iC o),iQ n cells (iC p)]=_
 rw[F3,F3]
theorem XD{f:Fr}(aB:f.data=some d)(q:Q (.bool f.cA) s):(TE.lY (.af cm (.af a6 (.C 0) (.I (.int 0))) (.I (.str "stream"))) (.af a6 (.C 0) (.I (.int 4)))).p (some f.v::l) s Q:=by
 cases f<;>cases aB<;>exact q
theorem aa7{R:Nat}(w:cz σ)(aH:f.ok):a3 (r0 [f.v,.int R] σ) λv s=>v=.bk [iC (dB f R).1,iC (dB f R).2]/\cu σ s:=by
 have cv:∀{o p:Option Fr} {s:St},cu σ s->dB f R=(o,p)->l6 σ.next s.cells (.bk [iC o,iC p])=.bk [iC (dB f R).1,iC (dB f R).2]/\cu σ (s.cut σ.next):=λg e=>⟨by rw[e];exact PM _ _,g.cut w⟩
 refine Yc ((Cm f w aH).a4 ?_)
 rintro _ kk ⟨rfl,g1⟩
 refine nS (p:=(f.size:Int)<=(R:Int)) (λq=>cv (o:=some f) (p:=none) g1 (if_pos (Int.ofNat_le.mp q))) λq=>?_
 have dE:¬f.size<=R:=λx=>q (Int.ofNat_le.mpr x)
 refine ef f.q6 ?_
 cases aB:f.data with
 |none=>exact gk (by cases f<;>first|rfl|cases aB) (cv (o:=none) (p:=some f) g1 (by unfold dB;rw[if_neg dE,aB]))
 |some d=>
  have aG:=Fr.qH aB aH
  have hz:=Fr.w5 f aB
  refine fH (by cases f<;>first|rfl|cases aB) ?_
  refine(abo (g1.wf w) aB aH).fk λp9 g2=>?_
  have g12:=g1.trans g2
  refine(KI (g12.wf w) aB).fk λkW g3=>?_
  have g13:=g12.trans g3
  by_cases cj:R<=f.dh
  .refine gk (decide_eq_true (by split<;>omega)) ?_
   exact cv (o:=none) (p:=some f) g13 (by unfold dB;rw[if_neg dE,aB];exact if_pos cj)
  .have em:(if R<f.dh then-1 else((min d.length (R-f.dh):Nat):Int))=((R-f.dh:Nat):Int):=by
    rw[if_neg (by exact aC.Ws cj)];congr 1;exact aC.Wu dE hz
   refine fH (decide_eq_false (by rw[em];exact aC.Wv cj)) ?_
   refine jq (p:=d.length<=1000000) (by exact aC.p6 aG) ?_
   refine fH (decide_eq_false (by rw[em];omega)) ?_
   have tail:∀ai:Int,ai=(R-f.dh:Nat)->a3 (iK [f.v,J.int (0:Nat),.bytes (d.take (R-f.dh)),J.bool false] kW) λx s=>a3 (iK [f.v,J.int ai,.bytes (d.drop (R-f.dh)),.bool f.cA] s) λy s=>l6 σ.next s.cells (J.bk [x,y])=J.bk [iC (dB f R).1,iC (dB f R).2]/\cu σ (s.cut σ.next):=by
    rintro ai rfl
    refine(Cn (g13.wf w) aB).fk λJD g4=>?_
    refine(Cn ((g13.trans g4).wf w) aB).fk λBS g5=>?_
    exact cv (o:=some _) (p:=some _) ((g13.trans g4).trans g5) (by unfold dB;rw[if_neg dE,aB];exact if_neg cj)
   have n':d.length<=1000000:=by exact aC.p6 aG
   have eG:=tail _ em
   refine XD aB ?_
   exact JP em n' (eG.a4 λx s h=>ZL em n' h)
noncomputable def lK:Option Fr->Nat
 |none=>0
 |some f=>f.size
noncomputable def eR:List Fr->Nat->List Fr×List Fr
 |[],_=>([],[])
 |f::r,R=>((dB f R).1.toList++(eR r (R-lK (dB f R).1)).1,(dB f R).2.toList++(eR r (R-lK (dB f R).1)).2)
theorem Bn(o:Option Fr):ng (iC o)=some o.isNone:=by
 cases o with
 |none=>rfl
 |some f=>cases f<;>rfl
theorem cutF_ind{P:Option Fr×Option Fr->Prop}(a:f.size<=R->P (some f,none))(b:P (none,some f))(c:∀d,f.data=some d->¬f.size<=R->¬R<=f.dh->P (some (f.jM 0 (d.take (R-f.dh)) false),some (f.jM (R-f.dh) (d.drop (R-f.dh)) f.cA))):P (dB f R):=by
 show P (ite _ _ _)
 by_cases h:f.size<=R
 .rw[if_pos h];exact a h
 .rw[if_neg h]
  generalize f.data=o at c
  rcases o with _|d
  .exact b
  .show P (ite _ _ _)
   by_cases q:R<=f.dh
   .rw[if_pos q];exact b
   .rw[if_neg q];exact c d rfl h q
theorem EF{f:Fr}:lK (dB f R).1<=R:=
 cutF_ind (P:=λp=>lK p.1<=R) id (Nat.zero_le _) λd aB _ h=>by
  show(f.jM 0 _ _).size<=R
  rw[Fr.Ko f aB,List.length_take]
  exact Nat.le_trans (Nat.add_le_add_left (Nat.min_le_left _ _) _) (Nat.le_of_eq (Nat.add_sub_cancel' (Nat.le_of_not_le h)))
theorem wH{α:Type}{P:α->Prop}:∀g∈(none:Option α),P g:=λg h=>(Option.some_ne_none g (Eq.symm h)).elim
theorem rH{α:Type}{P:α->Prop}{x:α}(h:P x):∀g∈some x,P g:=λ_ e=>Option.some.inj e▸h
theorem Fr.aax{f:Fr}(h:f.data=some d)(aH:f.ok)(hk:k<=d.length):(f.jM k (d.drop k) b).ok:=by
 cases f<;>cases h
 .obtain⟨h1,⟨h2,h4⟩,aQ⟩:=aH
  exact⟨h1,by exact aC.I5 hk aQ h2,by rw[List.length_drop];exact aC.I6 hk aQ⟩
 .obtain⟨⟨h2,h4⟩,aQ⟩:=aH
  exact⟨by exact aC.I5 hk aQ h2,by rw[List.length_drop];exact aC.I6 hk aQ⟩
theorem yU{f:Fr}(aH:f.ok):(∀g∈(dB f R).1,g.ok)/\∀g∈(dB f R).2,g.ok:=
 cutF_ind (P:=λp=>(∀g∈p.1,g.ok)/\∀g∈p.2,g.ok) (λ_=>⟨rH aH,wH⟩) ⟨wH,rH aH⟩ λd aB h q=>⟨rH (Fr.Kn aB aH (by rw[List.length_take];exact aC.Ww)),rH (Fr.aax aB aH (Nat.sub_le_of_le_add (by rw[Nat.add_comm,<-Fr.w5 f aB];exact Nat.le_of_not_le h)))⟩
set_option genInjectivity false
theorem b'{σ:St}(h:d≠c):(σ.aS c x).cells d=σ.cells d:=if_neg h
theorem gV{σ:St}:(σ.aS c x).cells c=some x:=if_pos rfl
theorem hA{σ:St}(h:d≠σ.next):(σ.new x).cells d=σ.cells d:=if_neg h
theorem hO{σ:St}:(σ.new x).cells σ.next=some x:=if_pos rfl
theorem cz.aS{σ:St}(w:cz σ)(h:c<σ.next):cz (σ.aS c x):=λd aB=>
 (b' (Nat.ne_of_gt (Nat.lt_of_lt_of_le h aB))).trans (w d aB)
theorem cz.new{σ:St}(w:cz σ):cz (σ.new x):=λd aB=>
 (hA (Nat.ne_of_gt (Nat.lt_of_lt_of_le (Nat.lt_succ_self _) aB))).trans (w d (Nat.le_of_succ_le aB))
theorem cz.lt(w:cz σ)(h:σ.cells c=some x):c<σ.next:=
 Nat.lt_of_not_le λq=>by rw[w c q] at h;cases h
structure Keeps (l:List Nat) (σ s:St):Prop where
 old:∀d,d<σ.next->d∉l->s.cells d=σ.cells d
 next:σ.next<=s.next
 wf:cz s
theorem Keeps.refl(w:cz σ):Keeps l σ σ:=⟨λ_ _ _=>rfl,Nat.le_refl _,w⟩
theorem Keeps.trans(h:Keeps l a b)(h':Keeps l b c):Keeps l a c:=⟨λd aB aG=>(h'.old d (Nat.lt_of_lt_of_le aB h.next) aG).trans (h.old d aB aG),Nat.le_trans h.next h'.next,h'.wf⟩
theorem cu.keeps(w:cz σ)(g:cu σ s):Keeps l σ s:=⟨λd _ _=>by rw[g.cells],g.next,g.wf w⟩
theorem Keeps.gq(h:Keeps l σ s)(g:cu s u):Keeps l σ u:=h.trans (g.keeps h.wf)
theorem Keeps.aS{l:List Nat}(h:Keeps l σ s)(aw:c∈l\/σ.next<=c)(df:c<s.next):Keeps l σ (s.aS c x):=
 ⟨λd aB aG=>(b' (show d≠c fromλq=>by subst q;exact aw.elim aG (Nat.not_le_of_lt aB))).trans (h.old d aB aG),h.next,h.wf.aS df⟩
theorem Keeps.new{l:List Nat}(h:Keeps l σ s):Keeps l σ (s.new x):=
 ⟨λd aB aG=>(hA (Nat.ne_of_lt (Nat.lt_of_lt_of_le aB h.next))).trans (h.old d aB aG),Nat.le_succ_of_le h.next,h.wf.new⟩
theorem Keeps.a4(h:Keeps l σ s)(aG:∀d∈l,d∈l'):Keeps l' σ s:=⟨λd aB q=>h.old d aB λx=>q (aG d x),h.next,h.wf⟩
theorem nW{σ:St}(h:c<n):(σ.cut n).cells c=σ.cells c:=if_pos h
theorem EG{σ:St}(h:¬c<n):(σ.cut n).cells c=none:=if_neg h
theorem Keeps.cut{l:List Nat}(h:Keeps l σ s):Keeps l σ (s.cut σ.next):=
 ⟨λd aB q=>(nW aB).trans (h.old d aB q),h.next,λd aB=>EG (Nat.not_lt_of_le (Nat.le_trans h.next aB))⟩
theorem Keeps.done{σ s:St}(w:cz σ)(h:Keeps [] σ s):cu σ (s.cut σ.next):=by
 refine⟨funext λc=>?_,h.next⟩
 by_cases aw:c<σ.next
 .exact(nW aw).trans (h.old c aw List.not_mem_nil)
 .exact(EG aw).trans (w c (Nat.le_of_not_lt aw)).symm
theorem uW(h:σ.cells c=some (.list vs))(aG:vs.length<=1000000)(q:Q .none (σ.aS c (.list (vs++[v])))):aJ (e2 [.ref c,v] σ) Q:=
 gY (show(match σ.cells c with|some (.list vs)=>if vs.length<=1000000 then some (J.none,σ.aS c (.list (vs++[v]))) else none|_=>none)=_ by rw[h];exact if_pos aG) q
theorem m6(h:σ.cells c=some (.list vs)):dT (.ref c) σ=true:=
 show(match σ.cells c with|some (.list _)=>true|_=>false)=true by rw[h]
theorem rz(h:σ.cells c=some (.list vs))(aG:vs.length<=1000000)(q:Q .none (σ.aS c (.list (vs++[v])))):dv (dT (.ref c) σ) (aJ (e2 [.ref c,v] σ) Q) False:=
 gk (m6 h) (uW h aG q)
theorem vC{σ s:St}(aw:σ.next<=c)(h:s.cells c=some (.list vs)):iQ σ.next s.cells (.ref c)=.bo vs:=by
 show(if σ.next<=c then _ else _)=_
 rw[if_pos aw,h]
structure lS (σ s:St) (t l:List J):Prop where
 a:s.cells σ.next=some (.list t)
 b:s.cells (σ.next+1)=some (.list l)
 k:Keeps [] σ s
theorem lS.gq(h:lS σ s t l)(g:cu s u):lS σ u t l:=⟨by rw[g.cells];exact h.a,by rw[g.cells];exact h.b,h.k.gq g⟩
theorem lS.Jp{σ s:St}(h:lS σ s t l)(v:J):lS σ (s.aS σ.next (.list (t++[v]))) (t++[v]) l:=
 ⟨gV,(b' (Nat.succ_ne_self _)).trans h.b,h.k.aS (.inr (Nat.le_refl _)) (h.k.wf.lt h.a)⟩
theorem lS.Jq{σ s:St}(h:lS σ s t l)(v:J):lS σ (s.aS (σ.next+1) (.list (l++[v]))) t (l++[v]):=
 ⟨(b' (Nat.succ_ne_self _).symm).trans h.a,gV,h.k.aS (.inr (Nat.le_succ _)) (h.k.wf.lt h.b)⟩
theorem u7(e:t++(none:Option Fr).toList.map Fr.v++X=x2):t++X=x2:=(congrArg (·++X) (List.append_nil t).symm).trans e
theorem KL{σ:St}{R:Nat}(w:cz σ)(aH:∀f∈fs,f.ok)(aV:fs.length<=900):a3 (oT [.bo (fs.map Fr.v),.int R] σ) λv s=>v=.bk [.bo ((eR fs R).1.map Fr.v),.bo ((eR fs R).2.map Fr.v)]/\cu σ s:=by
 refine Yg ?_
 obtain⟨T,hT⟩:∃T,eR fs R=T:=⟨_,rfl⟩
 rw[hT]
 refine dq rfl ?_
 refine jB (enc:=Fr.v) (A:=CC) (λr U s=>DK λdA t l fc eY eZ=>U=[some (.bo (fs.map Fr.v)),some (.int (dA:Nat)),some (.ref σ.next),some (.ref (σ.next+1)),fc,eY,eZ]/\lS σ s t l/\(∀f∈r,f.ok)/\(t.length+r.length<=1000/\l.length+r.length<=1000)/\
  t++(eR r dA).1.map Fr.v=T.1.map Fr.v/\l++(eR r dA).2.map Fr.v=T.2.map Fr.v) (λ_ _ _ _=>rfl) ?_ ?_
  ⟨R,[],[],none,none,none,rfl,⟨(hA (Nat.ne_of_lt (Nat.lt_succ_self _))).trans hO,hO,(Keeps.refl w).new.new⟩,aH,⟨by rw[List.length_nil];exact aC.BA aV,by rw[List.length_nil];exact aC.BA aV⟩,by rw[hT];rfl,by rw[hT];rfl⟩
 .rintro f r _ s ⟨dA,t,l,fc,eY,eZ,rfl,h,lC,⟨ae,aK⟩,a8,a7⟩
  obtain⟨hf,lC⟩:=List.forall_mem_cons.mp lC
  have KV:=aa7 (R:=dA) h.k.wf hf
  have hk:=yU (R:=dA) hf
  have m1:=EF (f:=f) (R:=dA)
  unfold eR at a8 a7
  generalize dB f dA=c at KV hk m1 a8 a7
  obtain⟨o,p⟩:=c
  dsimp only at hk m1 a8 a7
  rw[List.map_append,<-List.append_assoc] at a8 a7
  rw[List.length_cons] at ae aK
  refine⟨_,rfl,KV.a4 ?_⟩
  rintro _ kk ⟨rfl,g1⟩
  have h1:=h.gq g1
  refine xE (Bn o) ?_
  cases o with
  |none=>
   refine xE (Bn p) ?_
   cases p with
   |none=>exact⟨dA,t,l,_,_,_,rfl,h1,lC,⟨by exact aC.wO ae,by exact aC.wO aK⟩,u7 a8,u7 a7⟩
   |some g=>exact rz h1.b (by exact aC.ru aK) ⟨dA,t,l++[g.v],_,_,_,rfl,h1.Jq g.v,lC,⟨by exact aC.wO ae,by rw[List.length_append];exact(by exact aC.tK aK:l.length+1+r.length<=1000)⟩,u7 a8,a7⟩
  |some q=>
   have bZ:=hk.1 q rfl
   refine rz h1.a (by exact aC.ru ae) ?_
   refine(Cm q (h1.Jp q.v).k.wf bZ).fk λu g=>?_
   have bI:=(h1.Jp q.v).gq g
   have Gu:((dA:Int)-((q.size:Nat):Int))=((dA-q.size:Nat):Int):=by
    have:q.size<=dA:=m1
    exact aC.Wx this
   have bx:(t++[q.v]).length+r.length<=1000:=by rw[List.length_append];exact(by exact aC.tK ae:t.length+1+r.length<=1000)
   refine xE (Bn p) ?_
   cases p with
   |none=>exact⟨dA-q.size,_,l,_,_,_,by rw[<-Gu];rfl,bI,lC,⟨bx,by exact aC.wO aK⟩,a8,u7 a7⟩
   |some g=>exact rz bI.b (by exact aC.ru aK) ⟨dA-q.size,_,l++[g.v],_,_,_,by rw[<-Gu];rfl,bI.Jq g.v,lC,⟨bx,by rw[List.length_append];exact(by exact aC.tK aK:l.length+1+r.length<=1000)⟩,a8,a7⟩
 .rintro _ u ⟨dA,t,l,fc,eY,eZ,rfl,h,_,_,a8,a7⟩
  have y0:t=T.1.map Fr.v:=(List.append_nil t).symm.trans a8
  have OV:l=T.2.map Fr.v:=(List.append_nil l).symm.trans a7
  subst y0 OV
  refine⟨?_,h.k.done w⟩
  show J.bk [iQ σ.next u.cells (.ref σ.next),iQ σ.next u.cells (.ref (σ.next+1))]=_
  rw[vC (Nat.le_refl _) h.a,vC (Nat.le_succ _) h.b]
noncomputable def rG:Nat->List Fr->Nat->Option (List (List Fr))
 |0,_,_=>none
 |n+1,left,R=>if left=[] then some [] else if(eR left R).1=[] then none else(rG n (eR left R).2 R).map ((eR left R).1::·)
theorem Jc{α:Type}(o:Option α):o.toList.length<=1:=by
 cases o
 .exact Nat.zero_le _
 .exact Nat.le_refl _
theorem Px(fs:List Fr):∀R:Nat,(eR fs R).2.length<=fs.length/\(eR fs R).1.length<=fs.length:=by
 induction fs with
 |nil=>exactλ_=>⟨Nat.le_refl _,Nat.le_refl _⟩
 |cons f fs aX=>
  intro R
  have this:=aX (R-lK (dB f R).1)
  have fO:=Jc (dB f R).1
  have fo:=Jc (dB f R).2
  show List.length (_++_)<=_/\List.length (_++_)<=_
  rw[List.length_append,List.length_append,List.length_cons]
  exact aC.Wy this fO fo
theorem Fl{P:Fr->Prop}(aw:∀f R,P f->(∀g∈(dB f R).1,P g)/\∀g∈(dB f R).2,P g)(fs:List Fr):∀R:Nat,(∀f∈fs,P f)->(∀f∈(eR fs R).1,P f)/\∀f∈(eR fs R).2,P f:=by
 induction fs with
 |nil=>exactλ_ _=>⟨List.forall_mem_nil _,List.forall_mem_nil _⟩
 |cons f fs aX=>
  intro R h
  have k:=aw f R (h f (.head _))
  have aX:=aX (R-lK (dB f R).1) λg q=>h g (.tail _ q)
  exact⟨λg aT=>(List.mem_append.mp aT).elim (λq=>k.1 g (Option.mem_toList.mp q)) (aX.1 g),λg aT=>(List.mem_append.mp aT).elim (λq=>k.2 g (Option.mem_toList.mp q)) (aX.2 g)⟩
noncomputable abbrev dy(r:List Fr):J:=.bo (r.map Fr.v)
theorem tr(h:σ.cells c=some (.list vs)):eW (.ref c) σ=some vs:=
 show(match σ.cells c with|some (.list vs)=>some vs|_=>none)=_ by rw[h]
structure jQ (σ s:St) (t:List J):Prop where
 a:s.cells σ.next=some (.list t)
 k:Keeps [] σ s
theorem jQ.gq(h:jQ σ s t)(g:cu s u):jQ σ u t:=⟨by rw[g.cells];exact h.a,h.k.gq g⟩
theorem jQ.push(h:jQ σ s t)(v:J):jQ σ (s.aS σ.next (.list (t++[v]))) (t++[v]):=
 ⟨gV,h.k.aS (.inr (Nat.le_refl _)) (h.k.wf.lt h.a)⟩
theorem jQ.start(w:cz σ):jQ σ (σ.new (.list t)) t:=⟨hO,(Keeps.refl w).new⟩
theorem YH(hT:T=fD.boolOf (.af iR (.d2 e5 (.aa (.C 3) .ar)) (.I (.int 0)))):∀(n:Nat) (left:List Fr) (rows:List (List Fr)) (t:List J) (s:St) (fc eY:Option J),rG n left R=some rows->jQ σ s t->(∀f∈left,f.ok)->left.length<=900->t.length+rows.length<=1000->
 (∀u jP qg iZ,jQ σ u (t++rows.map dy)->Q .next [eO,some (.int R),some (.ref σ.next),jP,qg,iZ] u)->
 dm (mg T.d CG.d n [eO,some (.int R),some (.ref σ.next),some (dy left),fc,eY] s) Q:=by
 subst hT
 intro n
 induction n with
 |zero=>intro left rows t s fc eY h;cases h
 |succ n aX=>
  intro left rows t s fc eY h ha lC aG ht q
  refine HP ?_
  refine jq (p:=(left.map Fr.v).length<=1000000) (by rw[List.length_map];exact aC.By aG) ?_
  unfold rG at h
  by_cases e:left=[]
  .subst e
   cases h
   refine q _ _ _ _ ?_
   rw[List.map_nil,List.append_nil];exact ha
  .rw[if_neg e] at h
   have hp:=List.length_pos_iff.mpr e
   by_cases e3:(eR left R).1=[]
   .rw[if_pos e3] at h;cases h
   rw[if_neg e3] at h
   obtain⟨JB,aI,rfl⟩:=Option.map_eq_some_iff.mp h
   refine gk (decide_eq_true (by rw[List.length_map];exact aC.Wz hp)) ?_
   refine(KL (fs:=left) (R:=R) ha.k.wf lC aG).fk λkk g1=>?_
   have h1:=ha.gq g1
   have fl:=Px left R
   have PF:=Fl (λf R h=>yU h) left R lC
   have RF:=List.length_pos_iff.mpr e3
   rw[List.length_cons] at ht
   refine jq (p:=((eR left R).1.map Fr.v).length<=1000000) (by rw[List.length_map];exact aC.WA aG fl) ?_
   refine fH (beq_eq_false_iff_ne.mpr (by rw[List.length_map];exact aC.WB RF)) ?_
   refine rz h1.a (by exact aC.ru ht) ?_
   refine aX (eR left R).2 JB (t++[dy (eR left R).1]) _ _ _ aI (h1.push _) PF.2 (by exact aC.WC aG fl) (by rw[List.length_append];exact(by exact aC.tK ht:t.length+1+JB.length<=1000)) λu jP qg iZ bI=>q u jP qg iZ ?_
   rw[List.append_assoc] at bI;exact bI
theorem abp(w:cz σ)(aI:rG 1000000 fs R=some rows)(aH:∀f∈fs,f.ok)(aV:fs.length<=900)(RJ:rows.length<=900):
 a3 (r3 [dy fs,.int R] σ) λv s=>v=.bo (rows.map dy)/\cu σ s:=by
 refine Yj ?_
 refine jq (p:=(fs.map Fr.v).length<=1000000) (by rw[List.length_map];exact aC.By aV) ?_
 refine YH rfl 1000000 fs rows [] _ none none aI (jQ.start w) aH aV (by rw[List.length_nil];exact aC.BA RJ) λu jP qg iZ h=>?_
 exact⟨vC (Nat.le_refl _) h.a,h.k.done w⟩
set_option genInjectivity true
noncomputable def Fr.Cd:Fr->Str
 |.dG _=>"latest"
 |.fC=>"same"
 |.c0=>"never"
 |.ec=>"blocked"
 |.c' _=>"same"
 |.st _ _ _ _=>"holder"
 |.d8 _ _=>"holder"
 |.gg=>"never"
noncomputable def Fr.J1:Fr->bp
 |.fC=>.int 4
 |.c' n=>.int n
 |_=>.none
noncomputable def Fr.B5(f:Fr):J:=.bk [.str f.hM,f.J1.v]
theorem KU(f:Fr)(w:cz σ):a3 (qo [.str f.hM] σ) λv s=>v=.str f.Cd/\cu σ s:=by
 cases f<;>exact⟨_,σ.cut σ.next,rfl,rfl,cu.refl.cut w⟩
theorem KR(f:Fr)(w:cz σ):a3 (qn [f.v] σ) λv s=>v=f.B5/\cu σ s:=by
 cases f<;>exact⟨_,σ.cut σ.next,rfl,rfl,cu.refl.cut w⟩
theorem mF{α:Type}{g:α->J}{xs:List α}(h:oM (λx v=>v=g x) xs cB):cB=xs.map g:=by
 induction h with
 |nil=>rfl
 |cons e _ aX=>rw[List.map_cons,<-e,<-aX]
theorem abd{fs:List Fr}(w:cz σ)(hs:∀s,cu σ s->dO src s=some (fs.map Fr.v))(aV:fs.length<=900):a3 (r2 [src] σ) λv s=>v=dy (fs.filter λf=>f.data.isSome)/\cu σ s:=by
 refine Yi ?_
 refine dq (hs _ .refl) ?_
 refine la (src:=src) (λU s=>(∃z,U=[z])/\cu σ s) (λf:Fr=>f.data.isSome) (λf v=>v=f.v) (λ_ s h=>hs s h.2) ?_ ⟨⟨_,rfl⟩,.refl⟩ (by rw[List.length_nil];exact aC.WD aV) ?_
 .rintro f _ _ s ⟨⟨z,rfl⟩,g⟩
  refine⟨_,rfl,?_⟩
  refine ef f.q6 ?_
  refine(KU f (g.wf w)).fk λt g2=>?_
  refine⟨show(f.Cd==("holder":Str))=f.data.isSome by cases f<;>rfl,?_⟩
  have i:(∃z:Option J,[some f.v]=[z])/\cu σ t:=⟨⟨_,rfl⟩,g.trans g2⟩
  exact dv.of (A:=True) (B:=True) (by cases(f.Cd==("holder":Str))<;>trivial) (λ_=>⟨rfl,i⟩) λ_=>i
 .rintro cB _ t a ⟨_,g⟩
  exact⟨by rw[mF a];rfl,g.cut w⟩
noncomputable abbrev i2:=List (Str×Int)
noncomputable def fz(al:i2):List (bp×J):=al.map λa=>(bp.str a.1,J.int a.2)
noncomputable def tm(al:i2)(k:Str):Option Int:=(al.find? λa=>decide (a.1=k)).map (·.2)
noncomputable def p2:Option Int->J
 |none=>.none
 |some t=>.int t
theorem Hn(al:i2)(k:Str):dP (fz al) (.str k)=(tm al k).map J.int:=by
 unfold dP fz tm
 induction al with
 |nil=>rfl
 |cons a r aX=>
  rw[List.map_cons,List.find?_cons,List.find?_cons]
  by_cases h:a.1=k
  .rw[decide_eq_true (show(bp.str a.1,J.int a.2).1=bp.str k by rw[h]),decide_eq_true h];rfl
  .rw[decide_eq_false (show ¬(bp.str a.1,J.int a.2).1=bp.str k fromλe=>h (bp.str.inj e)),decide_eq_false h];exact aX
theorem x1(q:Q (p2 (tm al k)) σ):a3 (n4 [.cw (fz al),.str k] σ) Q:=by
 refine⟨_,_,show some ((dP (fz al) (.str k)).getD .none,σ)=_ from ?_,q⟩
 rw[Hn];cases tm al k<;>rfl
noncomputable abbrev eV:List Str:=["closed","idle","loss","probe","ack","path"]
noncomputable def kY(al:i2)(acc:Option (Int×Str))(k:Str):Option (Int×Str):=match tm al k,acc with
 |none,acc=>acc
 |some t,none=>some (t,k)
 |some t,some a=>if t<a.1 then some (t,k) else some a
noncomputable def vp:Option (Int×Str)->J
 |none=>.none
 |some a=>.bk [.int a.1,.str a.2]
theorem KP(w:cz σ):a3 (oV [.cw (fz al)] σ) λv s=>v=vp (eV.foldl (kY al) none)/\cu σ s:=by
 refine Yq ?_
 obtain⟨T,hT⟩:∃T,eV.foldl (kY al) none=T:=⟨_,rfl⟩
 rw[hT]
 refine dq rfl ?_
 refine jB (enc:=J.str) (xs:=eV) (A:=CU) (λr U s=>s=σ/\∃acc dR d4,U=[some (.cw (fz al)),some (vp acc),dR,d4]/\r.foldl (kY al) acc=T) (λ_ _ _ _=>rfl) ?_ ?_ ⟨rfl,none,none,none,rfl,hT⟩
 .rintro k r _ _ ⟨rfl,acc,dR,d4,rfl,e⟩
  rw[List.foldl_cons] at e
  refine⟨_,rfl,?_⟩
  refine x1 ?_
  unfold kY at e
  cases h:tm al k with
  |none=>
   rw[h] at e
   exact⟨rfl,acc,_,_,rfl,e⟩
  |some t=>
   rw[h] at e
   cases acc with
   |none=>exact⟨rfl,some (t,k),_,_,rfl,e⟩
   |some a=>
    refine nS (p:=t<a.1) (λq=>?_) λq=>?_
    .dsimp only at e
     rw[if_pos q] at e
     exact⟨rfl,some (t,k),_,_,rfl,e⟩
    .dsimp only at e
     rw[if_neg q] at e
     exact⟨rfl,some a,_,_,rfl,e⟩
 .rintro _ _ ⟨rfl,acc,dR,d4,rfl,e⟩
  have cZ:acc=T:=e
  subst cZ
  exact⟨by cases acc<;>rfl,cu.refl.cut w⟩
theorem Hq(h:k∉al.map (·.1)):dr (fz al) (.str k) (.int t)=fz (al++[(k,t)]):=by
 unfold dr
 rw[if_neg]
 .rw[fz,fz,List.map_append];rfl
 .rw[List.any_eq_true]
  rintro⟨e,bV,aB⟩
  obtain⟨a,ha,rfl⟩:=List.mem_map.mp bV
  exact h (List.mem_map.mpr ⟨a,ha,bp.str.inj (of_decide_eq_true aB)⟩)
theorem Ht:(fz al).length=al.length:=List.length_map ..
theorem DS:∀(ps acc:i2) (σ:St),σ.cells c=some (.cb (fz acc))->((acc++ps).map (·.1)).Nodup->acc.length+ps.length<=1000->
 ∃aZ,ky c (ps.map λa=>J.bk [.str a.1,.int a.2]) σ=some aZ/\aZ.next=σ.next/\aZ.cells c=some (.cb (fz (acc++ps)))/\∀d,d≠c->aZ.cells d=σ.cells d
 |[],acc,σ,h,_,_=>⟨σ,rfl,rfl,by rw[List.append_nil];exact h,λ_ _=>rfl⟩
 |p::ps,acc,σ,h,aV,aG=>by
  rw[List.length_cons] at aG
  have hp:p.1∉acc.map (·.1):=by
   rw[List.map_append,List.nodup_append] at aV
   exactλq=>aV.2.2 _ q _ (List.mem_cons_self ..) rfl
  have aw:acc++p::ps=(acc++[p])++ps:=List.append_cons ..
  rw[aw] at aV
  obtain⟨aZ,a8,a7,e3,fI⟩:=DS ps (acc++[p]) (σ.aS c (.cb (fz (acc++[p])))) gV aV (by rw[List.length_append];exact(by exact aC.tK aG:acc.length+1+ps.length<=1000))
  refine⟨aZ,?_,a7,by rw[aw];exact e3,λd aB=>(fI d aB).trans (b' aB)⟩
  show(match σ.cells c with|some (.cb es)=>if es.length<=1000000 then ky c (ps.map _) (σ.aS c (.cb (dr es (.str p.1) (.int p.2)))) else none|_=>none)=_
  rw[h]
  show(if(fz acc).length<=1000000 then _ else _)=_
  rw[if_pos (by rw[Ht];exact aC.ru aG),Hq hp]
  exact a8
theorem J'(aV:(al.map (·.1)).Nodup)(h:a∈al):tm al a.1=some a.2:=by
 unfold tm
 induction al with
 |nil=>cases h
 |cons b r aX=>
  rw[List.map_cons,List.nodup_cons] at aV
  rw[List.find?_cons]
  rcases List.mem_cons.mp h with rfl|h
  .rw[decide_eq_true rfl];rfl
  .rw[decide_eq_false (show ¬b.1=a.1 fromλe=>aV.1 (by rw[e];exact List.mem_map.mpr ⟨a,h,rfl⟩))]
   exact aX aV.2 h
noncomputable def nD(al:i2)(k:Str)(told:Option Int):i2:=(al.filter λa=> !(a.1==k))++(match told with|none=>[]|some t=>[(k,t)])
theorem Lf(h:σ.cells c=some (.list (ps.map λa=>J.bk [.str a.1,.int a.2])))(aV:(ps.map (·.1)).Nodup)(aG:ps.length<=1000)
 (q:∀s,s.next=σ.next+1->s.cells σ.next=some (.cb (fz ps))->(∀d,d≠σ.next->s.cells d=σ.cells d)->Q (.ref σ.next) s):aJ (vl [.ref c] σ) Q:=by
 obtain⟨aZ,a8,a7,e3,fI⟩:=DS (c:=σ.next) ps [] (σ.new (.cb [])) hO aV (by rw[List.length_nil];exact aC.Xd aG)
 refine gY (show(match σ.cells c with|some (.list vs)=>(ky σ.next vs (σ.new (.cb []))).map λaZ=>(J.ref σ.next,aZ)|_=>none)=some (.ref σ.next,aZ) by rw[h];exact congrArg (Option.map _) a8) (q aZ a7 e3 λd aB=>(fI d aB).trans (hA aB))
theorem F2{σ s:St}(aw:σ.next<=c)(h:s.cells c=some (.cb es)):iQ σ.next s.cells (.ref c)=.cw es:=by
 show(if σ.next<=c then _ else _)=_
 rw[if_pos aw,h]
theorem Jt(h:σ.cells c=some (.b2 es))(aG:es.length<=1000000):jF (.ref c) (.bk [a.v,.int i]) v σ=some (σ.aS c (.b2 (dr es [a,.int i] v))):=by
 unfold jF
 dsimp only
 rw[h]
 cases a<;>exact if_pos aG
theorem wZ(h:σ.cells c=some (.cb es))(aG:es.length<=1000000):jF (.ref c) a.v v σ=some (σ.aS c (.cb (dr es a v))):=by
 unfold jF
 dsimp only
 rw[h]
 cases a<;>exact if_pos aG
theorem EE{bind:J->Loc->Option Loc}{Q:List J->St->Prop}(e:l=l')(h:a3 (l1 src items bind T E l' acc U σ) Q):a3 (l1 src items bind T E l acc U σ) Q:=by
 subst e;exact h
theorem abx{σ:St}{k:Str}(w:cz σ)(aV:(al.map (·.1)).Nodup)(aG:al.length<=100):a3 (sd [.cw (fz al),.str k,p2 told] σ) λv s=>v=.cw (fz (nD al k told))/\cu σ s:=by
 refine Yz ?_
 refine dq rfl ?_
 refine EE (l':=al.map λa=>J.str a.1) (show(al.map λa=>(bp.str a.1,J.int a.2)).map (λe=>e.1.v)=_ by rw[List.map_map];rfl) ?_
 refine la (src:=.cw (fz al)) (enc:=λa:Str×Int=>J.str a.1) (λU s=>(∃z,U=[z,some (.cw (fz al)),some (.str k)])/\cu σ s) (λa=> !(a.1==k)) (λa v=>v=J.bk [.str a.1,.int a.2]) (λ_ _ _=>rfl) ?_ ⟨⟨_,rfl⟩,.refl⟩ (by rw[List.length_nil];exact aC.I8 aG) ?_
 .rintro a ha _ s ⟨⟨z,rfl⟩,g⟩
  refine⟨_,rfl,rfl,?_⟩
  have i:(∃z,[some (J.str a.1),some (.cw (fz al)),some (.str k)]=[z,some (.cw (fz al)),some (.str k)])/\cu σ s:=⟨⟨_,rfl⟩,g⟩
  refine dv.of (A:=True) (B:=True) (by cases(!(a.1==k))<;>trivial) (λ_=>?_) λ_=>i
  refine ef (show dP (fz al) (.str a.1)=some (.int a.2) by rw[Hn,J' aV ha];rfl) ⟨rfl,i⟩
 .rintro cB _ t a ⟨_,g⟩
  have hf:=mF a
  subst hf
  have Rt:((al.filter λa=> !(a.1==k)).map (·.1)).Nodup:=(List.Sublist.map _ List.filter_sublist).nodup aV
  have mZ:(al.filter λa=> !(a.1==k)).length<=100:=Nat.le_trans (List.length_filter_le ..) aG
  refine Lf (ps:=al.filter λa=> !(a.1==k)) hO Rt (by exact aC.Xe mZ) λs h1 h2 aQ=>?_
  have g1:t.next+1+1=s.next:=h1.symm
  have df:σ.next<=t.next+1:=Nat.le_succ_of_le g.next
  have ks:Keeps [] σ s:=by
   refine⟨λd aB _=>?_,by have:=g.next;exact aC.Xf g1 this,λd aB=>?_⟩
   .have:=g.next
    rw[aQ d (Nat.ne_of_lt (by show d<t.next+1;exact aC.Xg aB this)),hA (by exact aC.Xh aB this),g.cells]
   .have e:s.cells d=(t.new _).cells d:=aQ d (Nat.ne_of_gt (by show t.next+1<d;exact aC.Xi g1 aB))
    exact e.trans ((g.wf w).new d (by show t.next+1<=d;exact aC.Xj g1 aB))
  cases told with
  |none=>
   refine⟨(F2 df h2).trans ?_,ks.done w⟩
   unfold nD;rw[List.append_nil]
  |some rJ=>
   have hk:k∉(al.filter λa=> !(a.1==k)).map (·.1):=by
    intro q
    obtain⟨a,ha,rfl⟩:=List.mem_map.mp q
    have:=(List.mem_filter.mp ha).2
    rw[beq_self_eq_true] at this;cases this
   refine iL (wZ (a:=.str k) (v:=.int rJ) h2 (by rw[Ht];exact aC.I9 mZ)) ⟨(F2 df gV).trans ?_,(ks.aS (.inr df) (by exact aC.Xk g1)).done w⟩
   rw[Hq hk];rfl
theorem BR{lt lt':Nat->Nat->Bool}(bV:∀i ai,i<n->ai<n->lt i ai=lt' i ai):∀(t:KasT (Array Nat)) (l:List (Nat×Nat×Bool)),j3 n t l=true->runK lt t=runK lt' t
 |.ret a,l,_=>rfl
 |.ask i ai k,l,hk=>by
  obtain⟨hk,h4⟩:=Bool.and_eq_true_iff.mp hk
  obtain⟨hk,aQ⟩:=Bool.and_eq_true_iff.mp hk
  obtain⟨h1,h2⟩:=Bool.and_eq_true_iff.mp hk
  show runK lt (k (lt i ai))=runK lt' (k (lt' i ai))
  rw[bV i ai (Nat.le_of_ble_eq_true h1) (Nat.le_of_ble_eq_true h2)]
  cases lt' i ai
  .exact BR bV (k false) _ h4
  .exact BR bV (k true) _ aQ
theorem ZO:∀n:Fin 7,jI (λi ai=>decide (i<ai)) n.val=List.range n.val:=by decide+kernel
theorem ZN{lt:Nat->Nat->Bool}(c4:n<=6)(bV:∀i ai,i<n->ai<n->lt i ai=decide (i<ai)):jI lt n=List.range n:=by
 have:jI lt n=jI (λi ai=>decide (i<ai)) n:=by
  unfold jI
  by_cases h:n<2
  .rw[if_pos h,if_pos h]
  .rw[if_neg h,if_neg h,BR bV _ _ (vf (by exact aC.rt h) c4)]
 rw[this];exact ZO ⟨n,by exact aC.Xl c4⟩
noncomputable def hB(k:Str):Nat:=eV.findIdx (λx=>x==k)
theorem kinds_all{P:Str->Prop}(h:P "closed"/\P "idle"/\P "loss"/\P "probe"/\P "ack"/\P "path")(hk:k∈eV):P k:=by
 obtain⟨h1,h2,aQ,h4,fJ,c4⟩:=h
 exact List.forall_mem_cons.mpr ⟨h1,List.forall_mem_cons.mpr ⟨h2,List.forall_mem_cons.mpr ⟨aQ,List.forall_mem_cons.mpr ⟨h4,List.forall_mem_cons.mpr ⟨fJ,List.forall_mem_cons.mpr ⟨c4,List.forall_mem_nil _⟩⟩⟩⟩⟩⟩ k hk
theorem abl{σ:St}(w:cz σ)(hk:k∈eV):a3 (r4 [.str k] σ) λv s=>v=.int (hB k)/\cu σ s:=by
 refine kinds_all (P:=λk=>a3 (r4 [.str k] σ) λv s=>v=.int (hB k)/\cu σ s) ⟨?_,?_,?_,?_,?_,?_⟩ hk<;>exact⟨_,σ.cut σ.next,rfl,rfl,cu.refl.cut w⟩
theorem Sm{s:St}(hk:k∈eV):fW i4 (.int (hB k)) s=some (.str k):=
 kinds_all (P:=λk=>fW i4 (.int (hB k)) s=some (.str k)) ⟨by kernel_rfl,by kernel_rfl,by kernel_rfl,by kernel_rfl,by kernel_rfl,by kernel_rfl⟩ hk
theorem XE(pN:fW i4 (.int i) s=some v)(q:Q v s):(TE.af a6 (.I i4) (.C 1)).p [eO,some (.int i)] s Q:=by
 show aJ (a6 [i4,.int i] s) Q
 exact ef pN q
noncomputable def jz(al:i2)(bW:Int)(k:Str):Bool:=match tm al k with
 |some t=>decide (t<=bW)
 |none=>false
noncomputable def jE(al:i2)(k:Str):J:=.bk [p2 (tm al k),.int (hB k)]
theorem Jj(al:i2)(T:Int):∀ks:List Str,(∀k∈ks,tm al k=some T)->jj (ks.map (jE al))=some (ks.map λk=>(T,(hB k:Int)))
 |[],_=>rfl
 |k::ks,h=>by
  obtain⟨h1,h⟩:=List.forall_mem_cons.mp h
  have aX:=Jj al T ks h
  have e:jE al k=.bk [.int T,.int (hB k)]:=by unfold jE;rw[h1];rfl
  rw[List.map_cons,e]
  show(jj _).map _=_
  rw[aX];rfl
noncomputable def qO(qy i8 nN qz qA qB:Bool):List Str:=(bif qy then[("closed":Str)] else[])++((bif i8 then[("idle":Str)] else[])++((bif nN then[("loss":Str)] else[])++((bif qz then[("probe":Str)] else[])++((bif qA then[("ack":Str)] else[])++(bif qB then[("path":Str)] else[])))))
theorem Qy:∀qy i8 nN qz qA qB:Bool,∀i,i<(qO qy i8 nN qz qA qB).length->∀ai,ai<(qO qy i8 nN qz qA qB).length->decide (hB ((qO qy i8 nN qz qA qB).getD i "")<hB ((qO qy i8 nN qz qA qB).getD ai ""))=decide (i<ai):=by decide+kernel
theorem pg{α:Type}{p:α->Bool}{a:α}{l:List α}:(a::l).filter p=(bif p a then[a] else[])++l.filter p:=by
 rw[List.filter_cons];cases p a<;>rfl
theorem Pz(p:Str->Bool):eV.filter p=qO (p "closed") (p "idle") (p "loss") (p "probe") (p "ack") (p "path"):=by
 unfold eV qO
 rw[pg,pg,pg,pg,pg,pg,List.filter_nil,List.append_nil]
theorem XS(p:Str->Bool):∀i,i<(eV.filter p).length->∀ai,ai<(eV.filter p).length->decide (hB ((eV.filter p).getD i "")<hB ((eV.filter p).getD ai ""))=decide (i<ai):=by
 rw[Pz];exact Qy _ _ _ _ _ _
theorem HV{vs:List J}:(List.range vs.length).map (λi=>vs.getD i .none)=vs:=by
 apply List.ext_getElem (by rw[List.length_map,List.length_range])
 intro i h1 h2
 rw[List.getElem_map,List.getElem_range,List.getD_eq_getElem?_getD,List.getElem?_eq_getElem h2];rfl
theorem ZW(pN:fW i4 (.int i) s=some (.str k))(g:cu u s):∃l',dJ [0,1] (.bk [.int bW,.int i]) [a,b]=some l'/\
 fD.eN.p l' s λb t=>b=true/\dv b ((TE.af a6 (.I i4) (.C 1)).p l' t λv fL=>v=.str k/\(∃a b,l'=[a,b])/\cu u fL) ((∃a b,l'=[a,b])/\cu u t):=
 ⟨[some (.int bW),some (.int i)],rfl,rfl,XE pN ⟨rfl,⟨_,_,rfl⟩,g⟩⟩
theorem aa4(w:cz σ)(qW:∀k t,tm al k=some t->bW<=t):a3 (rZ [.cw (fz al),.int bW] σ) λv s=>v=.bo ((eV.filter (jz al bW)).map J.str)/\cu σ s:=by
 refine Yb ?_
 obtain⟨ks,j8⟩:∃ks,eV.filter (jz al bW)=ks:=⟨_,rfl⟩
 rw[j8]
 refine dq rfl ?_
 refine jB (enc:=J.str) (xs:=eV) (A:=Cx) (λr U s=>qw λt d4 fc=>U=[some (.cw (fz al)),some (.int bW),some (.ref σ.next),d4,fc]/\jQ σ s t/\(∀k∈r,k∈eV)/\t.length+r.length<=100/\t++(r.filter (jz al bW)).map (jE al)=ks.map (jE al)) (λ_ _ _ _=>rfl) ?_ ?_ ⟨[],none,none,rfl,jQ.start w,λ_ h=>h,by decide,by rw[j8];rfl⟩
 .rintro k r _ s ⟨t,d4,fc,rfl,h,hk,aG,e⟩
  obtain⟨Ah,hk⟩:=List.forall_mem_cons.mp hk
  rw[List.length_cons] at aG
  rw[pg] at e
  refine⟨_,rfl,?_⟩
  refine x1 ?_
  cases h1:tm al k with
  |none=>
   rw[show jz al bW k=false by unfold jz;rw[h1]] at e
   exact⟨t,_,_,rfl,h,hk,by exact aC.I' aG,e⟩
  |some rJ=>
   have a7:jz al bW k=decide (rJ<=bW):=by unfold jz;rw[h1]
   rw[a7] at e
   refine nS (p:=rJ<=bW) (λq=>?_) λq=>?_
   .rw[decide_eq_true q] at e
    refine gk (m6 h.a) ?_
    refine(abl h.k.wf Ah).fk λu g=>?_
    have h2:=h.gq g
    refine uW h2.a (by exact aC.Xm aG) ⟨_,_,_,rfl,h2.push _,hk,by rw[List.length_append];exact(by exact aC.Xn aG:t.length+1+r.length<=100),?_⟩
    have e3:jE al k=.bk [p2 (some rJ),.int (hB k)]:=by unfold jE;rw[h1]
    rw[<-e3,List.append_assoc];exact e
   .rw[decide_eq_false q] at e
    exact⟨t,_,_,rfl,h,hk,by exact aC.I' aG,e⟩
 .rintro _ u ⟨t,d4,fc,rfl,h,_,_,e⟩
  have cZ:t=ks.map (jE al):=(List.append_nil t).symm.trans e
  subst cZ
  have aI:∀i,i<ks.length->∀ai,ai<ks.length->decide (hB (ks.getD i "")<hB (ks.getD ai ""))=decide (i<ai):=by rw[<-j8];exact XS _
  have c4:ks.length<=6:=by rw[<-j8];exact List.length_filter_le ..
  have hT:∀k∈ks,tm al k=some bW:=by
   intro k hk
   rw[<-j8] at hk
   have:=(List.mem_filter.mp hk).2
   unfold jz at this
   cases e:tm al k with
   |none=>rw[e] at this;cases this
   |some t=>rw[e] at this;exact congrArg some (Int.le_antisymm (of_decide_eq_true this) (qW k t e))
  have n8:∀k∈ks,k∈eV:=by intro k hk;rw[<-j8] at hk;exact(List.mem_filter.mp hk).1
  have es:nA (pX (ks.map λk=>(bW,(hB k:Int)))) (ks.map (jE al))=ks.map (jE al):=by
   unfold nA
   rw[ZN (by rw[List.length_map];exact c4)]
   .exact HV
   .intro i ai hi cD
    rw[List.length_map] at hi cD
    have a8:=aI i hi ai cD
    rw[List.getD_eq_getElem?_getD,List.getD_eq_getElem?_getD,List.getElem?_eq_getElem hi,List.getElem?_eq_getElem cD] at a8
    unfold pX AY
    rw[List.getD_eq_getElem?_getD,List.getD_eq_getElem?_getD,List.getElem?_map,List.getElem?_map,List.getElem?_eq_getElem hi,List.getElem?_eq_getElem cD]
    rw[<-a8]
    show(decide (bW<bW)||(decide (bW=bW)&&decide ((hB ks[i]:Int)<hB ks[ai])))=decide (hB ks[i]<hB ks[ai])
    rw[decide_eq_false (Int.lt_irrefl bW),decide_eq_true rfl,Bool.false_or,Bool.true_and]
    exact decide_eq_decide.mpr Int.ofNat_lt
  have a7:w7 [.ref σ.next] u=some (.bo (ks.map (jE al)),u):=by
   show(eW (.ref σ.next) u).bind _=_
   rw[tr h.a]
   show(jj _).bind _=_
   rw[Jj al bW ks hT]
   show(if _ then _ else _)=_
   rw[if_pos (by rw[List.length_map];exact c4),es]
  refine gY a7 ?_
  refine dq rfl ?_
  refine la (src:=.bo (ks.map (jE al))) (λU s=>(∃a b,U=[a,b])/\cu u s) (λ_=>true) (λk v=>v=J.str k) (λ_ _ _=>rfl) ?_ ⟨⟨_,_,rfl⟩,.refl⟩ (by rw[List.length_nil];exact aC.BB c4) ?_
  .rintro k hk _ s ⟨⟨a,b,rfl⟩,g⟩
   have mK:jE al k=.bk [.int bW,.int (hB k)]:=by unfold jE;rw[hT k hk];rfl
   rw[mK]
   exact ZW (Sm (n8 k hk)) g
  .rintro cB _ t a ⟨_,g⟩
   rw[List.filter_eq_self.mpr (λ_ _=>rfl)] at a
   exact⟨by rw[mF a];rfl,(h.gq g).k.done w⟩
noncomputable abbrev iG(σ:St)(c:Nat)(al:i2):Prop:=σ.cells c=some (.inst (some (.cw (fz al))))
theorem tM(h:iG σ c al)(q:Q (.cw (fz al))):TE.ya (.ref c) σ Q:=⟨_,_,rfl,h,q⟩
theorem tO(h:iG σ c al)(q:A c):TE.BC (.ref c) σ A:=⟨_,_,rfl,h,q⟩
theorem XH(h:iG σ c al)(q:Q (σ.aS c (.inst (some (.cw es))))):b5.BX (.cw es) (.ref c) σ Q:=⟨_,_,_,rfl,rfl,h,q⟩
theorem abt(w:cz σ)(h:iG σ c al):a3 (r7 [.ref c,.str k] σ) λv s=>v=p2 (tm al k)/\cu σ s:=by
 refine Yo ?_
 refine tM h ?_
 refine x1 ?_
 exact⟨by cases tm al k<;>rfl,cu.refl.cut w⟩
noncomputable def vy(al:i2):J:=match eV.foldl (kY al) none with
 |none=>.none
 |some a=>.int a.1
theorem aa'(w:cz σ)(h:iG σ c al):a3 (r5 [.ref c] σ) λv s=>v=vy al/\cu σ s:=by
 refine Yl ?_
 refine tM h ?_
 refine(KP w).fk λs g=>?_
 unfold vy
 cases eV.foldl (kY al) none with
 |none=>exact⟨rfl,g.cut w⟩
 |some a=>exact⟨rfl,g.cut w⟩
theorem KQ(w:cz σ)(h:iG σ c al)(aV:(al.map (·.1)).Nodup)(aG:al.length<=100):
 a3 (oU [.ref c,.str k,p2 told] σ) λv s=>v=.none/\iG s c (nD al k told)/\Keeps [c] σ s:=by
 refine Ym ?_
 refine tM h ?_
 refine(abx w aV aG).fk λs g=>?_
 have h':iG s c al:=by rw[iG,g.cells];exact h
 have aw:=w.lt h
 refine XH h' ⟨rfl,(nW aw).trans gV,?_⟩
 exact((g.keeps w).aS (.inl (List.mem_singleton.mpr rfl)) (Nat.lt_of_lt_of_le aw g.next)).cut
theorem Cc:nD al k none=al.filter λa=> !(a.1==k):=List.append_nil _
theorem aau(h:(al.map (·.1)).Nodup):((nD al k none).map (·.1)).Nodup:=by
 rw[Cc];exact(List.Sublist.map _ List.filter_sublist).nodup h
theorem JZ:∀{ks:List Str},ks.foldl (λal k=>nD al k none) al=al.filter λa=> !(ks.contains a.1)
 |[]=>(List.filter_eq_self.mpr λ_ _=>rfl).symm
 |k::ks=>by
  rw[List.foldl_cons,Cc,JZ,List.filter_filter]
  congr 1;funext a
  rw[List.contains_cons,Bool.not_or,Bool.and_comm]
theorem abr(w:cz σ)(h:iG σ c al)(aV:(al.map (·.1)).Nodup)(aG:al.length<=100)(qW:∀k t,tm al k=some t->bW<=t)(j8:eV.filter (jz al bW)=ks):
 a3 (r6 [.ref c,.int bW] σ) λv s=>v=.bo (ks.map J.str)/\iG s c (al.filter λa=> !(ks.contains a.1))/\Keeps [c] σ s:=by
 refine Yn ?_
 refine tM h ?_
 refine(aa4 w qW).a4 ?_
 rw[j8]
 rintro _ s ⟨rfl,g⟩
 have h':iG s c al:=by rw[iG,g.cells];exact h
 have aw:=w.lt h
 refine dq rfl ?_
 refine jB (src:=.bo (ks.map J.str)) (enc:=J.str) (xs:=ks) (A:=CP) (λr U u=>(∃z,U=[some (.ref c),some (.int bW),some (.bo (ks.map J.str)),z])/\∃qx,iG u c qx/\(qx.map (·.1)).Nodup/\qx.length<=100/\Keeps [c] σ u/\r.foldl (λal k=>nD al k none) qx=al.filter λa=> !(ks.contains a.1)) (λ_ _ _ _=>rfl) ?_ ?_
  ⟨⟨_,rfl⟩,al,h',aV,aG,g.keeps w,JZ⟩
 .rintro k r _ u ⟨⟨z,rfl⟩,qx,h1,h2,aQ,h4,e⟩
  refine⟨_,rfl,?_⟩
  refine tO h1 ?_
  refine(KQ (told:=none) h4.wf h1 h2 aQ).fk λt gB=>?_
  obtain⟨c8,fX⟩:=gB
  exact⟨⟨_,rfl⟩,_,c8,aau h2,by rw[Cc];exact Nat.le_trans (List.length_filter_le ..) aQ,h4.trans fX,e⟩
 .rintro _ u ⟨⟨z,rfl⟩,qx,h1,_,_,h4,e⟩
  subst e
  exact⟨rfl,(nW aw).trans h1,h4.cut⟩
set_option genInjectivity false
theorem rm{α:Type}[DecidableEq α]:∀{l m:List α},l.Nodup->(∀x∈l,x∈m)->l.length<=m.length
 |[],_,_,_=>Nat.zero_le _
 |x::l,m,aV,h=>by
  rw[List.nodup_cons] at aV
  have av:=h x (List.mem_cons_self ..)
  have aX:l.length<=(m.erase x).length:=rm aV.2 λy bB=>(List.mem_erase_of_ne (show y≠x fromλe=>aV.1 (by rw[<-e];exact bB))).mpr (h y (List.mem_cons_of_mem _ bB))
  rw[List.length_erase_of_mem av] at aX
  have:0<m.length:=List.length_pos_iff.mpr (List.ne_nil_of_mem av)
  simp only[List.length_cons];exact aC.Xo aX this
section
variable{dp:Type}[DecidableEq dp]{es:List (dp×J)}{k jA:dp}{v:J}
theorem DR:(es.any (λe=>decide (e.1=k))=true)↔k∈es.map (·.1):=by
 rw[List.any_eq_true]
 constructor
 .rintro⟨e,bV,h⟩;exact List.mem_map.mpr ⟨e,bV,of_decide_eq_true h⟩
 .intro h;obtain⟨e,bV,rfl⟩:=List.mem_map.mp h;exact⟨e,bV,decide_eq_true rfl⟩
theorem Hm:(es.map (λe=>if e.1=k then(e.1,v) else e)).map (·.1)=es.map (·.1):=by
 rw[List.map_map]
 refine List.map_congr_left λe _=>?_
 simp only[Function.comp];split<;>rfl
theorem wc:jA∈(dr es k v).map (·.1)↔jA=k\/jA∈es.map (·.1):=by
 unfold dr
 split
 .rename_i h
  rw[Hm]
  rw[DR] at h
  exact⟨.inr,λq=>q.elim (λe=>e▸h) id⟩
 .rw[List.map_append,List.mem_append]
  simp only[List.map_cons,List.map_nil,List.mem_cons,List.not_mem_nil,or_false]
  exact⟨λq=>q.elim .inr .inl,λq=>q.elim .inr .inl⟩
theorem Ii(h:(es.map (·.1)).Nodup):((dr es k v).map (·.1)).Nodup:=by
 unfold dr
 split
 .rw[Hm];exact h
 .rename_i q
  rw[DR] at q
  rw[List.map_append,List.nodup_append]
  refine⟨h,by simp,?_⟩
  rintro a ha b ag rfl
  simp only[List.map_cons,List.map_nil,List.mem_cons,List.not_mem_nil,or_false] at ag
  exact q (ag▸ha)
theorem HX{e:dp×J}(h:e∈dr es k v):e=(k,v)\/e∈es:=by
 unfold dr at h
 split at h
 .obtain⟨a,ha,rfl⟩:=List.mem_map.mp h
  split
  .rename_i q;exact .inl (by rw[q])
  .exact .inr ha
 .rcases List.mem_append.mp h with h|h
  .exact .inr h
  .exact .inl (List.mem_singleton.mp h)
theorem pT:(dr es k v).length<=es.length+1:=by
 unfold dr
 split<;>simp
theorem SD(h:dP es k=some v):(k,v)∈es:=by
 unfold dP at h
 obtain⟨e,bV,rfl⟩:=Option.map_eq_some_iff.mp h
 have:=List.find?_some bV
 rw[decide_eq_true_eq] at this
 rw[<-this]
 exact List.mem_of_find?_eq_some bV
theorem SE(h:k∈es.map (·.1)):∃v,dP es k=some v:=by
 unfold dP
 cases e:es.find? (λe=>decide (e.1=k)) with
 |some a=>exact⟨_,rfl⟩
 |none=>
  rw[List.find?_eq_none] at e
  obtain⟨a,ha,rfl⟩:=List.mem_map.mp h
  exact absurd (decide_eq_true rfl) (e a ha)
structure Sane (T:dp->Option Int) (es:List (dp×J)):Prop where
 nd:(es.map (·.1)).Nodup
 ok:∀e∈es,∃i,T e.1=some i/\e.2=.int i
structure oX (T:dp->Option Int) (es:List (dp×J)):Prop extends Sane T es where
 all:∀k i,T k=some i->k∈es.map (·.1)
theorem Sane.nil{T:dp->Option Int}:Sane T ([]:List (dp×J)):=⟨List.nodup_nil,List.forall_mem_nil _⟩
theorem Sane.dr{T:dp->Option Int}(h:Sane T es)(hk:T k=some i):Sane T (dr es k (.int i)):=
 ⟨Ii h.nd,λe bV=>(HX bV).elim (λq=>by subst q;exact⟨i,hk,rfl⟩) (h.ok e)⟩
theorem Sane.len{T:dp->Option Int}{dom:List dp}(h:Sane T es)(aB:∀k i,T k=some i->k∈dom):es.length<=dom.length:=by
 have:=rm h.nd (m:=dom) λx av=>by
  obtain⟨e,bV,rfl⟩:=List.mem_map.mp av
  obtain⟨i,hi,_⟩:=h.ok e bV
  exact aB _ _ hi
 simpa using this
theorem GK{T:dp->Option Int}{eJ:List (dp×J)}(h':oX T eJ):∀{es:List (dp×J)},(∀e∈es,∃i,T e.1=some i/\e.2=.int i)->lz eJ es=some true
 |[],_=>rfl
 |(k,v)::r,h=>by
  obtain⟨i,hi,a0⟩:=h (k,v) (List.mem_cons_self ..)
  dsimp only at hi a0
  subst a0
  obtain⟨y,bB⟩:=SE (h'.all k i hi)
  obtain⟨ai,cD,G3⟩:=h'.ok _ (SD bB)
  dsimp only at cD G3
  rw[hi] at cD;cases cD
  subst G3
  have aX:=GK h' (es:=r) λe bV=>h e (List.mem_cons_of_mem _ bV)
  rw[lz,bB]
  dsimp only
  rw[aX,show cT 4 (.int i) (.int i)=some (i==i) from rfl,beq_self_eq_true]
  rfl
theorem EM{T:dp->Option Int}{eJ:List (dp×J)}(h:oX T es)(h':oX T eJ):i9 es eJ=some true:=by
 have le:∀{a b:List (dp×J)},oX T a->oX T b->a.length<=b.length:=λ{a b} ha ag=>by
  have:=ha.toSane.len (dom:=b.map (·.1)) ag.all
  simpa using this
 unfold i9
 rw[if_pos (Nat.le_antisymm (le h h') (le h' h))]
 exact GK h' h.ok
end
noncomputable def fY(nm:bp):List (List bp×J)->Int->List UInt8->List (List bp×J)
 |oc,_,[]=>oc
 |oc,a,b::d=>fY nm (dr oc [nm,.int a] (.int b.toNat)) (a+1) d
theorem tQ:∀{d:List UInt8} {oc:List (List bp×J)} {a:Int},k∈(fY nm oc a d).map (·.1)↔(∃i:Nat,i<d.length/\k=[nm,.int (a+i)])\/k∈oc.map (·.1)
 |[],oc,a=>⟨.inr,λh=>h.elim (λ⟨_,h,_⟩=>absurd h (Nat.not_lt_zero _)) id⟩
 |b::d,oc,a=>by
  rw[fY,tQ,wc,List.length_cons]
  constructor
  .rintro(⟨i,hi,rfl⟩|rfl|h)
   .exact .inl ⟨i+1,Nat.succ_lt_succ hi,by rw[Int.natCast_succ];congr 3;exact aC.Ja⟩
   .exact .inl ⟨0,Nat.zero_lt_succ _,by rw[show a+((0:Nat):Int)=a from Int.add_zero a]⟩
   .exact .inr h
  .rintro(⟨i,hi,rfl⟩|h)
   .cases i with
    |zero=>exact .inr (.inl (by rw[show a+((0:Nat):Int)=a from Int.add_zero a]))
    |succ i=>exact .inl ⟨i,Nat.lt_of_succ_lt_succ hi,by rw[Int.natCast_succ];congr 3;exact aC.Xp⟩
   .exact .inr (.inr h)
theorem BI:∀{d:List UInt8} {oc:List (List bp×J)} {a:Int},Sane T oc->(∀(i:Nat) b,d[i]? =some b->T [nm,.int (a+i)]=some (b.toNat:Int))->Sane T (fY nm oc a d)
 |[],oc,a,h,_=>h
 |b::d,oc,a,h,aB=>by
  rw[fY]
  have ah:=aB 0 b rfl
  rw[show a+((0:Nat):Int)=a from Int.add_zero a] at ah
  refine BI (h.dr ah) λi c hi=>?_
  have:=aB (i+1) c hi
  rw[<-this,Int.natCast_succ];congr 4;exact aC.Ja
theorem tR:∀{d:List UInt8} {oc:List (List bp×J)} {a:Int},(fY nm oc a d).length<=oc.length+d.length
 |[],oc,a=>Nat.le_refl _
 |b::d,oc,a=>by
  rw[fY]
  have h1:=tR (nm:=nm) (d:=d) (oc:=dr oc [nm,.int a] (.int b.toNat)) (a:=a+1)
  have h2:=pT (es:=oc) (k:=[nm,.int a]) (v:=.int b.toNat)
  rw[List.length_cons];exact aC.Xq h1 h2
set_option genInjectivity true
theorem y5(vs:List J)(σ:St):mL (.bo vs) (.bo []) σ=some (decide (vs=[])):=by
 cases vs<;>rfl
theorem q7(h:σ.cells c=some (.list vs))(ah:0<=i)(h1:i<2^63)(a0:vs[i.toNat]? =some v):fW (.ref c) (.int i) σ=some v:=by
 unfold fW f7 f3 eW
 dsimp only
 rw[h]
 dsimp only
 rw[Option.bind_some,oj,if_pos ⟨ah,h1⟩,a0]
theorem He(ah:0<=i)(h1:i<2^63)(a0:vs[i.toNat]? =some v):fW (.bo vs) (.int i) σ=some v:=by
 show oj vs i=_
 rw[oj,if_pos ⟨ah,h1⟩,a0]
theorem Ju(h:σ.cells c=some (.list vs))(ah:0<=i)(h1:i<2^63)(a0:i.toNat<vs.length):jF (.ref c) (.int i) v σ=some (σ.aS c (.list (vs.set i.toNat v))):=by
 unfold jF
 dsimp only
 rw[h]
 exact if_pos ⟨ah,h1,a0⟩
noncomputable abbrev rB(a b:Int)(eF:List Int):List J:=[.int a,.bo (eF.map J.int),.int b]
noncomputable def f6(σ:St)(p:Nat):Prop:=∃(a b:Int) (eF:List Int),σ.cells p=some (.list (rB a b eF))/\(0<=a/\a<2147483647)/\0<=b/\eF.length<=100
theorem XA(h:σ.cells p=some (.list (rB a b eF)))(ag:0<=b)(pI:eF.length<=100)(aP:∀q,Q (.int q) σ):
 (TE.ez (.boolOf (.af fS (.C 2) (.dw .ar))) (.d2 u4 (.aa (.af a6 (.C 2) (.af gU (.af a6 (.C 0) (.I (.int 2))) (.d2 e5 (.aa (.C 2) .ar)))) .ar)) (.I (.int 47))).p
   [some (.ref p),some m,some (.bo (eF.map J.int)),none] σ Q:=by
 refine xF (y5 _ _) ?_
 cases eF with
 |nil=>exact aP 47
 |cons c r=>
  have a7:fW (.ref p) (.int 2) σ=some (.int b):=q7 h (by decide) (by decide) rfl
  refine ef a7 ?_
  have aG:((c::r).map J.int).length=(c::r).length:=List.length_map ..
  refine jq (p:=((c::r).map J.int).length<=1000000) (by rw[aG];exact aC.I9 pI) ?_
  have hp:0<(c::r).length:=Nat.zero_lt_succ _
  rw[aG]
  generalize eS:((c::r).length:Int)=aU
  have qY:0<=b.fmod aU:=Int.fmod_nonneg_of_pos _ (by exact aC.Jb hp eS)
  have pG:b.fmod aU<aU:=Int.fmod_lt_of_pos _ (by exact aC.Jb hp eS)
  refine gY (m:=gU [.int b,.int aU] σ) (a:=.int (b.fmod aU)) (congrArg (Option.map λv=>(v,σ)) (if_pos (show aU≠0 by exact aC.Xr qY pG))) ?_
  refine ef (v:=.int ((c::r)[(b.fmod aU).toNat]'(by exact aC.Xs eS qY pG))) (He qY (by omega) ?_) (aP _)
  rw[List.getElem?_map,List.getElem?_eq_getElem];rfl
theorem ua(w:cz σ)(hp:f6 σ p)(hm:0<m):a3 (gy [.ref p,.int m] σ) λv s=>∃n,v=.int n/\(0<=n/\n<m)/\f6 s p/\Keeps [p] σ s:=by
 obtain⟨a,b,eF,h,⟨ha,ja⟩,ag,pI⟩:=hp
 have df:=w.lt h
 have a8:fW (.ref p) (.int 1) σ=some (.bo (eF.map J.int)):=q7 h (by decide) (by decide) rfl
 have a7:fW (.ref p) (.int 2) σ=some (.int b):=q7 h (by decide) (by decide) rfl
 have fI:jF (.ref p) (.int 2) (.int (b+1)) σ=some (σ.aS p (.list (rB a (b+1) eF))):=Ju h (by decide) (by decide) (Nat.lt_succ_self 2)
 have mK:fW (.ref p) (.int 0) (σ.aS p (.list (rB a (b+1) eF)))=some (.int a):=q7 gV (by decide) (by decide) rfl
 refine X7 ?_
 refine ef a8 ?_
 refine XA h ag pI λq=>?_
 refine ef a7 ?_
 refine iL fI ?_
 refine ef mK ?_
 refine gY (m:=kS [.int a,.int 48271] _) (a:=.int (a*48271)) (congrArg (Option.map λv=>(v,_)) (if_pos (by omega))) ?_
 have Rq:0<=(a*48271+q.fmod 1000003+59).fmod 2147483647:=Int.fmod_nonneg_of_pos _ (by decide)
 have Rr:(a*48271+q.fmod 1000003+59).fmod 2147483647<2147483647:=Int.fmod_lt_of_pos _ (by decide)
 refine iL (Ju gV (by decide) (by decide) (Nat.zero_lt_succ 2)) ?_
 refine ef (q7 gV (by decide) (by decide) rfl) ?_
 refine gY (m:=gU [.int _,.int m] _) (a:=.int (((a*48271+q.fmod 1000003+59).fmod 2147483647).fdiv 13|>.fmod m)) (congrArg (Option.map λv=>(v,_)) (if_pos (show m≠0 by exact aC.Uh hm))) ?_
 refine⟨_,rfl,⟨Int.fmod_nonneg_of_pos _ hm,Int.fmod_lt_of_pos _ hm⟩,⟨_,b+1,eF,(nW df).trans gV,⟨Rq,Rr⟩,by exact aC.Ui ag,pI⟩,?_⟩
 exact(((Keeps.refl w).aS (.inl (List.mem_singleton.mpr rfl)) df).aS (.inl (List.mem_singleton.mpr rfl)) df).cut
set_option genInjectivity false
structure fE where
 fl:List (Str×List Fr)
 cU:List Fr
 to:List Fr
 oc:List (List bp×J)
 en:List (bp×J)
 al:i2
structure hq where
 w:Nat
 fl:Nat
 cU:Nat
 to:Nat
 oc:Nat
 en:Nat
 al:Nat
noncomputable def hq.all(c:hq):List Nat:=[c.w,c.fl,c.cU,c.to,c.oc,c.en,c.al]
noncomputable def qe(c:hq):List (bp×J):=[(.str "flying",.ref c.fl),(.str "came",.ref c.cU),(.str "told",.ref c.to),(.str "octets",.ref c.oc),(.str "ends",.ref c.en),(.str "alarms",.ref c.al)]
noncomputable abbrev j4(a:Str×List Fr):J:=.bk [.str a.1,dy a.2]
noncomputable def fE.cells(c:hq)(S:fE):List (Nat×c6):=[(c.w,.cb (qe c)),(c.fl,.list (S.fl.map j4)),(c.cU,.list (S.cU.map Fr.v)),(c.to,.list (S.to.map Fr.v)),(c.oc,.b2 S.oc),(c.en,.cb S.en),(c.al,.inst (some (.cw (fz S.al))))]
structure b4 (σ:St) (c:hq) (S:fE):Prop where
 at_:∀p∈S.cells c,σ.cells p.1=some p.2
 nd:c.all.Nodup
theorem b4.rq(h:b4 σ c S)(e:∀d∈c.all,s.cells d=σ.cells d):b4 s c S:=
 ⟨λp hp=>(e p.1 (List.mem_map.mpr ⟨p,hp,rfl⟩)).trans (h.at_ p hp),h.nd⟩
theorem b4.set(h:b4 σ c S)(hi:(c.all)[i]? =some d)(bV:ck.cells c=(S.cells c).set i (d,x)):b4 (σ.aS d x) c ck:=by
 refine⟨λp hp=>?_,h.nd⟩
 rw[bV] at hp
 obtain⟨ai,cD,hp⟩:=List.mem_iff_getElem.mp hp
 rw[List.getElem_set] at hp
 obtain⟨abS,Q9⟩:=List.getElem?_eq_some_iff.mp hi
 split at hp
 .rw[<-hp];exact gV
 .rename_i fi
  rw[List.length_set] at cD
  have a8:(c.all)[ai]=p.1:=by rw[<-hp];exact List.getElem_map (f:=λp:Nat×c6=>p.1) (l:=S.cells c) (i:=ai) (h:=cD)
  have:p.1≠d:=λq=>fi ((List.getElem_inj h.nd).mp (Q9.trans (q.symm.trans a8.symm)))
  rw[b' this]
  exact h.at_ p (by rw[<-hp];exact List.getElem_mem _)
section
variable{σ s:St}{c:hq}{S:fE}
theorem b4.w(h:b4 σ c S):σ.cells c.w=some (.cb (qe c)):=h.at_ _ (.head _)
theorem b4.fl(h:b4 σ c S):σ.cells c.fl=some (.list (S.fl.map j4)):=h.at_ _ (.tail _ (.head _))
theorem b4.cU(h:b4 σ c S):σ.cells c.cU=some (.list (S.cU.map Fr.v)):=h.at_ _ (.tail _ (.tail _ (.head _)))
theorem b4.to(h:b4 σ c S):σ.cells c.to=some (.list (S.to.map Fr.v)):=h.at_ _ (.tail _ (.tail _ (.tail _ (.head _))))
theorem b4.oc(h:b4 σ c S):σ.cells c.oc=some (.b2 S.oc):=h.at_ _ (.tail _ (.tail _ (.tail _ (.tail _ (.head _)))))
theorem b4.en(h:b4 σ c S):σ.cells c.en=some (.cb S.en):=h.at_ _ (.tail _ (.tail _ (.tail _ (.tail _ (.tail _ (.head _))))))
theorem b4.al(h:b4 σ c S):iG σ c.al S.al:=h.at_ _ (.tail _ (.tail _ (.tail _ (.tail _ (.tail _ (.tail _ (.head _)))))))
theorem b4.Zx(h:b4 σ c S)(l:List (Str×List Fr)):b4 (σ.aS c.fl (.list (l.map j4))) c {S with fl:=l}:=h.set (i:=1) rfl rfl
theorem b4.Zv(h:b4 σ c S)(l:List Fr):b4 (σ.aS c.cU (.list (l.map Fr.v))) c {S with cU:=l}:=h.set (i:=2) rfl rfl
theorem b4.ZA(h:b4 σ c S)(l:List Fr):b4 (σ.aS c.to (.list (l.map Fr.v))) c {S with to:=l}:=h.set (i:=3) rfl rfl
theorem b4.Zz(h:b4 σ c S)(l:List (List bp×J)):b4 (σ.aS c.oc (.b2 l)) c {S with oc:=l}:=h.set (i:=4) rfl rfl
theorem b4.Zw(h:b4 σ c S)(l:List (bp×J)):b4 (σ.aS c.en (.cb l)) c {S with en:=l}:=h.set (i:=5) rfl rfl
theorem b4.gq(h:b4 σ c S)(g:cu σ s):b4 s c S:=h.rq λd _=>by rw[g.cells]
theorem b4.lt(w:cz σ)(h:b4 σ c S):∀d∈c.all,d<σ.next:=λd aB=>by
 obtain⟨p,hp,rfl⟩:=List.mem_map.mp (show d∈(S.cells c).map (·.1) from aB)
 exact w.lt (h.at_ p hp)
theorem b4.keeps(h:b4 σ c S)(w:cz σ)(k:Keeps l σ s)(aG:∀d∈c.all,d∉l):b4 s c S:=h.rq λd aB=>k.old d (h.lt w d aB) (aG d aB)
theorem b4.cut(h:b4 s c S)(aG:∀d∈c.all,d<n):b4 (s.cut n) c S:=h.rq λd aB=>nW (aG d aB)
theorem b4.JK{al:i2}(h:b4 σ c S)(w:cz σ)(k:Keeps [c.al] σ s)(ha:iG s c.al al):b4 s c {S with al:=al}:=by
 have h1:b4 (σ.aS c.al (.inst (some (.cw (fz al))))) c {S with al:=al}:=h.set (i:=6) rfl rfl
 refine h1.rq λd aB=>?_
 by_cases e:d=c.al
 .subst e;exact ha.trans gV.symm
 .rw[b' e];exact k.old d (h.lt w d aB) λq=>e (List.mem_singleton.mp q)
theorem hq.wB:c.w∈c.all:=.head _
theorem hq.Bd:c.fl∈c.all:=.tail _ (.head _)
theorem hq.HS:c.cU∈c.all:=.tail _ (.tail _ (.head _))
theorem hq.Be:c.to∈c.all:=.tail _ (.tail _ (.tail _ (.head _)))
theorem hq.HU:c.oc∈c.all:=.tail _ (.tail _ (.tail _ (.tail _ (.head _))))
theorem hq.HT:c.en∈c.all:=.tail _ (.tail _ (.tail _ (.tail _ (.tail _ (.head _)))))
theorem hq.wA:c.al∈c.all:=.tail _ (.tail _ (.tail _ (.tail _ (.tail _ (.tail _ (.head _))))))
theorem b4.item(h:b4 σ c S)(e:dP (qe c) (.str k)=some v):fW (.ref c.w) (.str k) σ=some v:=by
 unfold fW f7
 dsimp only
 rw[h.w];exact e
theorem b4.s9(h:b4 σ c S):fW (.ref c.w) (.str "flying") σ=some (.ref c.fl):=h.item rfl
theorem b4.AJ(h:b4 σ c S):fW (.ref c.w) (.str "came") σ=some (.ref c.cU):=h.item rfl
theorem b4.G6(h:b4 σ c S):fW (.ref c.w) (.str "told") σ=some (.ref c.to):=h.item rfl
theorem b4.G5(h:b4 σ c S):fW (.ref c.w) (.str "octets") σ=some (.ref c.oc):=h.item rfl
theorem b4.G4(h:b4 σ c S):fW (.ref c.w) (.str "ends") σ=some (.ref c.en):=h.item rfl
theorem b4.s8(h:b4 σ c S):fW (.ref c.w) (.str "alarms") σ=some (.ref c.al):=h.item rfl
end
noncomputable def gm(S:fE):Fr->fE
 |.st c5 bF d cA=>{S with oc:=fY (.int c5) S.oc bF d,en:=if cA=true then dr S.en (.int c5) (.int (bF+d.length)) else S.en}
 |.d8 bF d=>{S with oc:=fY (.str "crypto") S.oc bF d}
 |f=>{S with cU:=S.cU++[f]}
noncomputable def gn(S:fE)(fs:List Fr):fE:=fs.foldl gm S
structure si (S:fE) (n:Nat):Prop where
 oc:S.oc.length+64*n<=900000
 en:S.en.length+n<=900000
 cU:S.cU.length+n<=900000
theorem IF(hs:∀s,dO src s=some items)(w:cz σ)(h:b4 σ c S)(aG:S.oc.length+d.length<=1000000)
 (q:∀fe dS u,b4 u c {S with oc:=fY a S.oc bF d}->Keeps c.all σ u->Q .next [some (.ref c.w),fM,dR,some a.v,some (.int bF),eY,fe,dS] u):
 dm (lJ src items (dJ [6,7]) xi.d 0 (d.map λb=>J.int b.toNat) [some (.ref c.w),fM,dR,some a.v,some (.int bF),eY,eZ,ho] σ) Q:=by
 refine Ba (enc:=λb:UInt8=>J.int b.toNat) (A:=xi) (λi r l s=>qw λoc fe dS=>l=[some (.ref c.w),fM,dR,some a.v,some (.int bF),eY,fe,dS]/\b4 s c {S with oc:=oc}/\Keeps c.all σ s/\oc.length+r.length<=1000000/\fY a oc (bF+i) r=fY a S.oc bF d) (λ_ _ _ _ _=>hs _) ?_ ?_
  ⟨S.oc,eZ,ho,rfl,h,Keeps.refl w,aG,by rw[show bF+((0:Nat):Int)=bF from Int.add_zero bF]⟩
 .rintro i b r _ s ⟨oc,fe,dS,rfl,h1,c8,pD,e⟩
  rw[List.length_cons] at pD
  rw[fY] at e
  have hk:=pT (es:=oc) (k:=[a,.int (bF+i)]) (v:=.int b.toNat)
  refine⟨_,rfl,?_⟩
  refine ef h1.G5 ?_
  refine iL (Jt (a:=a) h1.oc (by show oc.length<=_;exact aC.IH pD)) ⟨_,_,_,rfl,h1.Zz _,c8.aS (.inl c.HU) (h1.lt c8.wf _ c.HU),Nat.le_trans (Nat.add_le_add_right hk _) (by exact aC.II pD),?_⟩
  rw[Int.natCast_succ,<-Int.add_assoc];exact e
 .rintro i _ u ⟨oc,fe,dS,rfl,h1,c8,_,e⟩
  have cZ:oc=fY a S.oc bF d:=e
  subst cZ
  exact q _ _ _ h1 c8
theorem aa6(w:cz σ)(h:b4 σ c S)(aH:f.ok)(hm:si S (n+1))
 (q:∀jP qg iZ fe dS u,b4 u c (gm S f)->Keeps c.all σ u->si (gm S f) n->Q .next [some (.ref c.w),fM,some f.v,jP,qg,iZ,fe,dS] u):
 ue.p [some (.ref c.w),fM,some f.v,d4,fc,eY,eZ,ho] σ Q:=by
 obtain⟨eA,fB,tv⟩:=hm
 have Bm:f.data=none->ue.p [some (.ref c.w),fM,some f.v,d4,fc,eY,eZ,ho] σ Q:=λaB=>by
  have aw:gm S f={S with cU:=S.cU++[f]}:=by cases f<;>first|rfl|cases aB
  rw[aw] at q
  refine ef f.q6 ?_
  refine fH (by cases f<;>first|rfl|cases aB) ?_
  refine ef h.AJ ?_
  have h2:=h.Zv (S.cU++[f])
  rw[List.map_append] at h2
  refine rz h.cU (by rw[List.length_map];exact aC.Bw tv) (q _ _ _ _ _ _ h2 ((Keeps.refl w).aS (.inl c.HS) (h.lt w _ c.HS)) ⟨by show S.oc.length+_<=_;exact aC.IJ eA,by show S.en.length+_<=_;exact aC.ot fB,?_⟩)
  show(S.cU++[f]).length+_<=_
  rw[List.length_append];exact(by exact aC.Bx tv:S.cU.length+1+n<=900000)
 cases f with
 |st c5 bF d cA=>
  have jx:d.length<64:=Fr.qH (f:=.st c5 bF d cA) rfl aH
  have om:=tR (nm:=.int c5) (d:=d) (oc:=S.oc) (a:=bF)
  refine dq rfl ⟨.inr ⟨_,rfl⟩,?_⟩
  refine IF (c:=c) (a:=.int c5) (λ_=>rfl) w h (by exact aC.wM eA jx) λfe dS u h1 c8=>?_
  cases cA with
  |false=>exact q _ _ _ _ _ _ h1 c8 ⟨by show(fY _ _ _ _).length+_<=_;exact aC.tI eA jx om,by show S.en.length+_<=_;exact aC.ot fB,by show S.cU.length+_<=_;exact aC.ot tv⟩
  |true=>
   refine jq (p:=d.length<=1000000) (by exact aC.p6 jx) ?_
   refine ef h1.G4 ?_
   have hk:=pT (es:=S.en) (k:=.int c5) (v:=.int (bF+d.length))
   refine iL (wZ (a:=.int c5) h1.en (by show S.en.length<=_;exact aC.Bw fB)) (q _ _ _ _ _ _ (h1.Zw _) (c8.aS (.inl c.HT) (h1.lt c8.wf _ c.HT)) ⟨by show(fY _ _ _ _).length+_<=_;exact aC.tI eA jx om,Nat.le_trans (Nat.add_le_add_right hk _) (by exact aC.Bx fB),by show S.cU.length+_<=_;exact aC.ot tv⟩)
 |d8 bF d=>
  have jx:d.length<64:=Fr.qH (f:=.d8 bF d) rfl aH
  have om:=tR (nm:=.str "crypto") (d:=d) (oc:=S.oc) (a:=bF)
  refine dq rfl ⟨.inr ⟨_,rfl⟩,?_⟩
  refine IF (c:=c) (a:=.str "crypto") (λ_=>rfl) w h (by exact aC.wM eA jx) λfe dS u h1 c8=>?_
  exact q _ _ _ _ _ _ h1 c8 ⟨by show(fY _ _ _ _).length+_<=_;exact aC.tI eA jx om,by show S.en.length+_<=_;exact aC.ot fB,by show S.cU.length+_<=_;exact aC.ot tv⟩
 |_=>exact Bm rfl
theorem Cj(w:cz σ)(h:b4 σ c S)(aH:∀f∈fs,f.ok)(hm:si S fs.length):a3 (k7 [.ref c.w,dy fs] σ) λv s=>v=.none/\b4 s c (gn S fs)/\Keeps c.all σ s:=by
 refine X6 ?_
 obtain⟨T,hT⟩:∃T,gn S fs=T:=⟨_,rfl⟩
 rw[hT]
 refine dq rfl ?_
 refine jB (src:=dy fs) (enc:=Fr.v) (A:=ue) (λr l s=>LA λck dR d4 fc eY eZ ho=>l=[some (.ref c.w),some (dy fs),dR,d4,fc,eY,eZ,ho]/\b4 s c ck/\Keeps c.all σ s/\(∀f∈r,f.ok)/\si ck r.length/\gn ck r=T) (λ_ _ _ _=>rfl) ?_ ?_
  ⟨S,_,_,_,_,_,_,rfl,h,Keeps.refl w,aH,hm,hT⟩
 .rintro f r _ s ⟨ck,dR,d4,fc,eY,eZ,ho,rfl,h1,c8,j9,eA,e⟩
  obtain⟨hf,j9⟩:=List.forall_mem_cons.mp j9
  refine⟨_,rfl,?_⟩
  refine aa6 c8.wf h1 hf eA λjP qg iZ fe dS u h2 fX fB=>⟨_,_,_,_,_,_,_,rfl,h2,c8.trans fX,j9,fB,e⟩
 .rintro _ u ⟨ck,dR,d4,fc,eY,eZ,ho,rfl,h1,c8,_,_,e⟩
  have cZ:ck=T:=e
  subst cZ
  exact⟨rfl,h1.cut (h.lt w),c8.cut⟩
noncomputable abbrev uR:=List (List bp×J)×List (bp×J)
noncomputable def l3(x:uR):Fr->uR
 |.st c5 _ d _=>(fY (.int c5) x.1 0 d,dr x.2 (.int c5) (.int d.length))
 |.d8 _ d=>(fY (.str "crypto") x.1 0 d,x.2)
 |_=>x
structure ko (σ s:St) (x:uR):Prop where
 a:s.cells σ.next=some (.b2 x.1)
 b:s.cells (σ.next+1)=some (.cb x.2)
 k:Keeps [] σ s
theorem ko.Zp(h:ko σ s x)(t:List (List bp×J)):ko σ (s.aS σ.next (.b2 t)) (t,x.2):=
 ⟨gV,(b' (Nat.succ_ne_self _)).trans h.b,h.k.aS (.inr (Nat.le_refl _)) (h.k.wf.lt h.a)⟩
theorem ko.Zt(h:ko σ s x)(t:List (bp×J)):ko σ (s.aS (σ.next+1) (.cb t)) (x.1,t):=
 ⟨(b' (Nat.succ_ne_self _).symm).trans h.a,gV,h.k.aS (.inr (Nat.le_succ _)) (h.k.wf.lt h.b)⟩
theorem EV(hs:∀s,dO src s=some items)(h:ko σ s x)(aG:x.1.length+d.length<=1000000)
 (q:∀dS i0 u,ko σ u (fY a x.1 0 d,x.2)->Q .next [eO,fM,some (.ref σ.next),d4,fc,some a.v,eZ,dS,i0] u):
 dm (lJ src items (dJ [7,8]) xl.d 0 (d.map λb=>J.int b.toNat) [eO,fM,some (.ref σ.next),d4,fc,some a.v,eZ,ho,gX] s) Q:=by
 refine Ba (enc:=λb:UInt8=>J.int b.toNat) (A:=xl) (λi r l s=>qw λoc dS i0=>l=[eO,fM,some (.ref σ.next),d4,fc,some a.v,eZ,dS,i0]/\ko σ s (oc,x.2)/\oc.length+r.length<=1000000/\fY a oc i r=fY a x.1 0 d) (λ_ _ _ _ _=>hs _) ?_ ?_
  ⟨x.1,ho,gX,rfl,h,aG,rfl⟩
 .rintro i b r _ s ⟨oc,dS,i0,rfl,h1,pD,e⟩
  rw[List.length_cons] at pD
  rw[fY] at e
  have hk:=pT (es:=oc) (k:=[a,.int i]) (v:=.int b.toNat)
  exact⟨_,rfl,iL (Jt (a:=a) h1.a (by dsimp only;exact aC.IH pD)) ⟨_,_,_,rfl,h1.Zp _,Nat.le_trans (Nat.add_le_add_right hk _) (by exact aC.II pD),e⟩⟩
 .rintro i _ u ⟨oc,dS,i0,rfl,h1,_,e⟩
  have cZ:oc=fY a x.1 0 d:=e
  subst cZ
  exact q _ _ _ h1
structure xI (x:uR) (n:Nat):Prop where
 oc:x.1.length+64*n<=900000
 en:x.2.length+n<=900000
theorem abm(h:ko σ s x)(aH:f.ok)(m:xI x (n+1))
 (q:∀iZ fe dS i0 u,ko σ u (l3 x f)->xI (l3 x f) n->Q .next [eO,fM,some (.ref σ.next),some (.ref (σ.next+1)),some f.v,iZ,fe,dS,i0] u):
 uf.p [eO,fM,some (.ref σ.next),some (.ref (σ.next+1)),some f.v,eY,eZ,ho,gX] s Q:=by
 obtain⟨eA,fB⟩:=m
 have Bm:f.data=none->uf.p [eO,fM,some (.ref σ.next),some (.ref (σ.next+1)),some f.v,eY,eZ,ho,gX] s Q:=λaB=>by
  have aw:l3 x f=x:=by cases f<;>first|rfl|cases aB
  rw[aw] at q
  refine ef f.q6 ?_
  exact fH (by cases f<;>first|rfl|cases aB) (q _ _ _ _ _ h ⟨by exact aC.IJ eA,by exact aC.ot fB⟩)
 cases f with
 |st c5 bF d cA=>
  have jx:d.length<64:=Fr.qH (f:=.st c5 bF d cA) rfl aH
  have om:=tR (nm:=.int c5) (d:=d) (oc:=x.1) (a:=0)
  refine dq rfl ⟨.inr ⟨_,rfl⟩,?_⟩
  refine EV (a:=.int c5) (λ_=>rfl) h (by exact aC.wM eA jx) λdS i0 u h1=>?_
  refine jq (p:=d.length<=1000000) (by exact aC.p6 jx) ?_
  have hk:=pT (es:=x.2) (k:=.int c5) (v:=.int d.length)
  exact iL (wZ (a:=.int c5) h1.b (by dsimp only;exact aC.Bw fB)) (q _ _ _ _ _ (h1.Zt _) ⟨by show(fY _ _ _ _).length+_<=_;exact aC.tI eA jx om,Nat.le_trans (Nat.add_le_add_right hk _) (by exact aC.Bx fB)⟩)
 |d8 bF d=>
  have jx:d.length<64:=Fr.qH (f:=.d8 bF d) rfl aH
  have om:=tR (nm:=.str "crypto") (d:=d) (oc:=x.1) (a:=0)
  refine dq rfl ⟨.inr ⟨_,rfl⟩,?_⟩
  exact EV (a:=.str "crypto") (λ_=>rfl) h (by exact aC.wM eA jx) λdS i0 u h1=>q _ _ _ _ _ h1 ⟨by show(fY _ _ _ _).length+_<=_;exact aC.tI eA jx om,by show x.2.length+_<=_;exact aC.ot fB⟩
 |_=>exact Bm rfl
theorem eq_td(h:σ.cells c=some (.b2 x))(h':σ.cells d=some (.b2 y)):mL (.ref c) (.ref d) σ=i9 x y:=by
 unfold mL f7 f3
 dsimp only
 rw[h,h']
theorem eq_ad(h:σ.cells c=some (.cb x))(h':σ.cells d=some (.cb y)):mL (.ref c) (.ref d) σ=i9 x y:=by
 unfold mL f7
 dsimp only
 rw[h,h']
theorem abn(w:cz σ)(h:b4 σ c S)(aH:∀f∈fs,f.ok)(hm:fs.length<=1000)(h1:i9 S.oc (fs.foldl l3 ([],[])).1=some true)(h2:i9 S.en (fs.foldl l3 ([],[])).2=some true):
 a3 (rY [.ref c.w,dy fs] σ) λv s=>v=.bool true/\cu σ s:=by
 refine X' ?_
 obtain⟨T,hT⟩:∃T,fs.foldl l3 ([],[])=T:=⟨_,rfl⟩
 rw[hT] at h1 h2
 refine dq rfl ?_
 refine jB (src:=dy fs) (enc:=Fr.v) (A:=uf) (λr l s=>DK λx fc eY eZ ho gX=>l=[some (.ref c.w),some (dy fs),some (.ref σ.next),some (.ref (σ.next+1)),fc,eY,eZ,ho,gX]/\ko σ s x/\(∀f∈r,f.ok)/\xI x r.length/\r.foldl l3 x=T) (λ_ _ _ _=>rfl) ?_ ?_
  ⟨([],[]),_,_,_,_,_,rfl,⟨(hA (Nat.ne_of_lt (Nat.lt_succ_self _))).trans hO,hO,(Keeps.refl w).new.new⟩,aH,⟨by rw[List.length_nil];exact aC.Uk hm,by rw[List.length_nil];exact aC.Ul hm⟩,hT⟩
 .rintro f r _ s ⟨x,fc,eY,eZ,ho,gX,rfl,g,j9,eA,e⟩
  obtain⟨hf,j9⟩:=List.forall_mem_cons.mp j9
  exact⟨_,rfl,abm g hf eA λiZ fe dS i0 u h2 fB=>⟨_,_,_,_,_,_,rfl,h2,j9,fB,e⟩⟩
 .rintro _ u ⟨x,fc,eY,eZ,ho,gX,rfl,g,_,_,e⟩
  have cZ:x=T:=e
  subst cZ
  have hw:b4 u c S:=h.keeps w g.k λ_ _=>List.not_mem_nil
  refine ef hw.G5 ?_
  refine uX ((eq_td hw.oc g.a).trans h1) ?_
  refine ef hw.G4 ?_
  exact uX ((eq_ad hw.en g.b).trans h2) ⟨rfl,g.k.done w⟩
theorem HW:∀{p:List Nat} {i:Nat},Bg p i=true->i∈p
 |[],_,h=>nomatch h
 |a::r,i,h=>(Bool.or_eq_true_iff.mp h).elim (λe=>by rw[Nat.eq_of_beq_eq_true e];exact .head _) λe=>.tail _ (HW e)
theorem DQ:∀{n:Nat},x6 p n=true->∀i,i<n->i∈p
 |0,_,i,h=>absurd h (Nat.not_lt_zero _)
 |n+1,e,i,h=>by
  obtain⟨a8,a7⟩:=Bool.and_eq_true_iff.mp e
  rcases Nat.lt_succ_iff_lt_or_eq.mp h with h|rfl
  .exact DQ a7 i h
  .exact HW a8
theorem Jm{α:Type}[DecidableEq α]:∀{l m:List α},l.Nodup->(∀x∈l,x∈m)->m.length=l.length->l.Perm m
 |[],m,_,_,h=>by rw[List.length_nil,List.length_eq_zero_iff] at h;subst h;exact .nil
 |x::l,m,nd,hs,h=>by
  obtain⟨h1,nd⟩:=List.nodup_cons.mp nd
  obtain⟨av,hs⟩:=List.forall_mem_cons.mp hs
  refine .trans (.cons x (Jm nd (λy bB=>(List.mem_erase_of_ne (show y≠x fromλe=>h1 (by rw[<-e];exact bB))).mpr (hs y bB)) ?_)) (List.perm_cons_erase av).symm
  rw[List.length_erase_of_mem av,h];rfl
theorem ZM(c4:n<=6):(List.range n).Perm (jI lt n):=by
 have aG:=JT (lt:=lt) c4
 refine Jm List.nodup_range (λi hi=>?_) (by rw[aG,List.length_range])
 rw[List.mem_range] at hi
 unfold jI
 split
 .exact List.mem_range.mpr hi
 .rename_i h
  obtain⟨l',h1,_⟩:=w3 (lt:=lt) _ _ (vf (by exact aC.rt h) c4) (λx av=>nomatch av)
  exact DQ (Bool.and_eq_true_iff.mp (Bool.and_eq_true_iff.mp h1).1).2 i hi
theorem ZP{vs:List J}(c4:vs.length<=6):vs.Perm (nA lt vs):=by
 have:=(ZM (lt:=lt) c4).map λi=>vs.getD i J.none
 rwa [HV] at this
theorem Si(h:∀v∈vs,∃i,v=J.int i):∃l,hv vs=some l:=by
 induction vs with
 |nil=>exact⟨[],rfl⟩
 |cons v vs aX=>
  obtain⟨⟨i,rfl⟩,h'⟩:=List.forall_mem_cons.mp h
  obtain⟨l,e⟩:=aX h'
  exact⟨i::l,congrArg (Option.map λl=>i::l) e⟩
noncomputable def Fr.key(f:Fr):List bp:=[.str f.hM,f.J1]
theorem XX{f:Fr}(h:σ.cells c=some (.b2 es))(aG:es.length<=1000000):jF (.ref c) f.B5 v σ=some (σ.aS c (.b2 (dr es f.key v))):=by
 unfold jF
 dsimp only
 rw[h]
 cases f<;>exact if_pos aG
structure qr (fs ns:List Fr):Prop where
 nd:(ns.map Fr.key).Nodup
 sub:∀f∈ns,f∈fs
 all:∀f∈fs,f.key∈ns.map Fr.key
noncomputable def nr(fs:List Fr)(v:J):Fr:=match v with
 |.int p=>fs.getD p.toNat .gg
 |_=>.gg
structure o1 (fs:List Fr) (i:Nat) (es:List (List bp×J)):Prop where
 nd:(es.map (·.1)).Nodup
 ok:∀e∈es,∃(p:Nat) (f:Fr),e.2=.int p/\fs[p]? =some f/\e.1=f.key
 all:∀ai f,ai<i->fs[ai]? =some f->f.key∈es.map (·.1)
theorem o1.step(h:o1 fs i es)(hf:fs[i]? =some f):o1 fs (i+1) (dr es f.key (.int i)) where
 nd:=Ii h.nd
 ok e bV:=(HX bV).elim (λq=>⟨i,f,by rw[q],hf,by rw[q]⟩) (h.ok e)
 all ai g cD aT:=by
  rw[wc]
  rcases Nat.lt_succ_iff_lt_or_eq.mp cD with cD|rfl
  .exact .inr (h.all ai g cD aT)
  .rw[hf] at aT;cases aT;exact .inl rfl
theorem o1.done(h:o1 fs fs.length es)(hp:(es.map (·.2)).Perm vs):qr fs (vs.map (nr fs)):=by
 have a8:∀e∈es,(nr fs e.2).key=e.1/\nr fs e.2∈fs:=by
  intro e bV
  obtain⟨p,f,a,b,c⟩:=h.ok e bV
  have:nr fs e.2=f:=by
   rw[a];show fs.getD p .gg=f
   rw[List.getD_eq_getElem?_getD,b];rfl
  rw[this];exact⟨c.symm,List.mem_of_getElem? b⟩
 have a7:(es.map (·.1)).Perm ((vs.map (nr fs)).map Fr.key):=by
  have q:=(hp.map (nr fs)).map Fr.key
  rw[List.map_map,List.map_map] at q
  have e3:es.map ((Fr.key∘nr fs)∘λx=>x.2)=es.map (·.1):=List.map_congr_left λe bV=>(a8 e bV).1
  rwa [e3] at q
 refine⟨a7.nodup_iff.mp h.nd,λf hf=>?_,λf hf=>?_⟩
 .obtain⟨v,a0,rfl⟩:=List.mem_map.mp hf
  obtain⟨e,bV,rfl⟩:=List.mem_map.mp (hp.mem_iff.mpr a0)
  exact(a8 e bV).2
 .obtain⟨ai,cD,rfl⟩:=List.mem_iff_getElem.mp hf
  exact a7.mem_iff.mp (h.all ai _ cD (List.getElem?_eq_getElem cD))
theorem t5(h:σ.cells c=some (.b2 es)):f3 (.ref c) σ=some es:=by
 unfold f3;dsimp only;rw[h]
theorem abh{c:Nat}{K:List (List bp)}(w:cz σ)(aw:σ.cells c=some (.list (fs.map Fr.v)))(aV:fs.length<=900)(n8:∀f∈fs,f.key∈K)(c4:K.length<=6):
 a3 (r8 [.ref c] σ) λv s=>∃ns,v=dy ns/\qr fs ns/\cu σ s:=by
 have df:=w.lt aw
 refine Yp ?_
 have at_:∀{s},Keeps [] σ s->s.cells c=some (.list (fs.map Fr.v)):=λk=>(k.old c df List.not_mem_nil).trans aw
 have kN:Keeps [] σ (σ.new (.b2 [])):=(Keeps.refl w).new
 have te:∀{s},Keeps [] σ s->dO (.ref c) s=some (fs.map Fr.v):=λk=>by
  unfold dO;dsimp only;rw[at_ k]
 refine dq (te kN) ⟨.inl (by rw[tr (at_ kN)];rfl),?_⟩
 refine Ba (enc:=Fr.v) (xs:=fs) (A:=CS) (λi r l s=>qw λes nG jP=>l=[some (.ref c),some (.ref σ.next),nG,jP]/\s.cells σ.next=some (.b2 es)/\Keeps [] σ s/\r=fs.drop i/\es.length<=i/\o1 fs i es) (λi r l s h=>by obtain⟨_,_,_,_,_,k,_⟩:=h;exact te k) ?_ ?_
  ⟨[],_,_,rfl,hO,kN,rfl,Nat.le_refl _,⟨List.nodup_nil,List.forall_mem_nil _,λ_ _ h=>absurd h (Nat.not_lt_zero _)⟩⟩
 .rintro i f r _ s ⟨es,nG,jP,rfl,h1,c8,aI,aG,ok⟩
  have hi:i<fs.length:=by
   refine Nat.lt_of_not_le λq=>?_
   rw[List.drop_eq_nil_of_le q] at aI;cases aI
  rw[List.drop_eq_getElem_cons hi] at aI
  obtain⟨rfl,rfl⟩:=List.cons.inj aI
  refine⟨_,rfl,?_⟩
  refine(KR fs[i] c8.wf).fk λu g=>?_
  have h2:u.cells σ.next=some (.b2 es):=by rw[g.cells];exact h1
  have hk:=pT (es:=es) (k:=(fs[i]).key) (v:=.int i)
  have fX:=c8.gq g
  exact iL (XX h2 (by exact aC.Um aV aG hi)) ⟨_,_,_,rfl,gV,fX.aS (.inr (Nat.le_refl _)) (fX.wf.lt h2),rfl,by exact aC.Un aG hk,ok.step (List.getElem?_eq_getElem hi)⟩
 .rintro i _ s ⟨es,nG,jP,rfl,h1,c8,aI,_,ok⟩
  have hi:fs.length<=i:=List.drop_eq_nil_iff.mp aI.symm
  have Ub:o1 fs fs.length es:=⟨ok.nd,ok.ok,λai f cD=>ok.all ai f (Nat.lt_of_lt_of_le cD hi)⟩
  have mY:es.length<=6:=by
   have:=rm ok.nd (m:=K) λk hk=>by
    obtain⟨e,bV,rfl⟩:=List.mem_map.mp hk
    obtain⟨p,f,_,b,c⟩:=ok.ok e bV
    rw[c];exact n8 f (List.mem_of_getElem? b)
   rw[List.length_map] at this;exact aC.Uo c4 this
  obtain⟨l,aG⟩:=Si (vs:=es.map (·.2)) λv a0=>by
   obtain⟨e,bV,rfl⟩:=List.mem_map.mp a0
   obtain⟨p,f,a,_⟩:=ok.ok e bV
   exact⟨p,a⟩
  have nt:=ZP (lt:=rj l) (vs:=es.map (·.2)) (by rw[List.length_map];exact mY)
  have de:=nt.length_eq
  rw[List.length_map] at de
  refine⟨es,l,t5 h1,aG,mY,?_⟩
  generalize nA (rj l) (es.map (·.2))=vs at nt de
  refine dq rfl ?_
  refine EE (List.map_id vs).symm ?_
  refine la (src:=.bo vs) (xs:=vs) (enc:=id) (λU t=>(∃z,U=[z,some (.ref c)])/\Keeps [] σ t) (λ_=>true) (λv u=>u=(nr fs v).v) (λ_ _ _=>rfl) ?_ ⟨⟨_,rfl⟩,c8⟩ (by rw[List.length_nil];exact aC.Up mY de) ?_
  .rintro v a0 _ t ⟨⟨z,rfl⟩,k⟩
   obtain⟨e,bV,rfl⟩:=List.mem_map.mp (nt.mem_iff.mpr a0)
   obtain⟨p,f,a,b,_⟩:=ok.ok e bV
   rw[a]
   have hp:p<fs.length:=(List.getElem?_eq_some_iff.mp b).1
   refine⟨_,rfl,rfl,?_⟩
   refine ef (v:=f.v) (q7 (at_ k) (Int.natCast_nonneg _) (by omega) ?_) ⟨?_,⟨_,rfl⟩,k⟩
   .rw[List.getElem?_map];show(fs[p]?).map _=_;rw[b];rfl
   .show f.v=(fs.getD p .gg).v
    rw[List.getD_eq_getElem?_getD,b];rfl
  .rintro cB _ t a ⟨_,k⟩
   rw[List.filter_eq_self.mpr (λ_ _=>rfl)] at a
   refine⟨vs.map (nr fs),?_,Ub.done nt,k.done w⟩
   rw[mF a]
   show J.bo ([]++_)=J.bo _
   rw[List.map_map];rfl
set_option genInjectivity true
noncomputable def rf:List (List bp×J):=[([.str "max_data",.none],.int 33)]
noncomputable def qJ:Bool->List (List bp×J)
 |true=>[([.str "stop_sending",.int 4],.bool true)]
 |false=>[]
noncomputable def qD:Bool->List (List bp×J)
 |true=>[([.str "data_blocked",.none],.int 9)]
 |false=>[]
noncomputable def hR(dn bl:Bool):Fr->Option Fr
 |.dG _=>some (.dG 33)
 |.fC=>if dn=true then none else some .fC
 |.ec=>if bl=true then some .ec else none
 |.c' n=>some (.c' n)
 |_=>none
theorem DL(h:σ.cells c=some (.b2 es)):f7 (.ref c) σ=none:=by
 unfold f7;dsimp only;rw[h]
theorem G8(h:σ.cells c=some (.b2 es))(hk:toKey v=some k):mc v (.ref c) σ=some (dP es k).isSome:=by
 unfold mc
 rw[DL h,t5 h]
 dsimp only
 rw[hk];rfl
theorem Sn(h:σ.cells c=some (.b2 es))(hk:toKey v=some k)(av:dP es k=some x):fW (.ref c) v σ=some x:=by
 unfold fW
 rw[DL h,t5 h]
 dsimp only
 rw[hk];exact av
theorem Qu(h:σ.cells c=some (.b2 es))(hk:toKey v=some k)(av:dP es k=some x)(q:Q x σ):dv (tf (.ref c) σ) (a3 (vG [.ref c,v,d] σ) Q) False:=by
 refine gk (by unfold tf;rw[t5 h];rfl) ⟨x,σ,?_,q⟩
 show(f3 (.ref c) σ).bind _=_
 rw[t5 h,Option.bind_some,hk]
 show some ((dP es k).getD d,σ)=_
 rw[av];rfl
theorem Fr.toKey(f:Fr):toKey f.B5=some f.key:=by cases f<;>rfl
theorem Z4(w:cz s)(h1:s.cells fM=some (.b2 rf))(h2:s.cells dR=some (.b2 (qD bl)))(aQ:s.cells d4=some (.b2 (qJ dn)))(aw:s.cells c=some (.list vs))(aG:vs.length<=1000000)
 (q:∀fe dS u,(cu s u/\hR dn bl f=none)\/(∃g t,cu s t/\u=t.aS c (.list (vs++[g.v]))/\hR dn bl f=some g)->∀fl,fl=.next\/fl=.cont->Q fl [some (.ref eO),some (.ref fM),some (.ref dR),some (.ref d4),some (.ref c),some f.v,fe,dS] u):
 xo.p [some (.ref eO),some (.ref fM),some (.ref dR),some (.ref d4),some (.ref c),some f.v,eZ,ho] s Q:=by
 refine ef f.q6 ?_
 refine(KU f w).fk λkk g1=>?_
 refine(KR f (g1.wf w)).fk λt g2=>?_
 have g:=g1.trans g2
 rw[<-g.cells] at h1 h2 aQ aw
 have no:hR dn bl f=none->∀fe dS fl,fl=.next\/fl=.cont->Q fl [some (.ref eO),some (.ref fM),some (.ref dR),some (.ref d4),some (.ref c),some f.v,fe,dS] t:=λe fe dS=>q fe dS t (.inl ⟨g,e⟩)
 have Co:∀gS,hR dn bl f=some gS->∀fe dS,aJ (e2 [.ref c,gS.v] t) λ_ u=>Q .next [some (.ref eO),some (.ref fM),some (.ref dR),some (.ref d4),some (.ref c),some f.v,fe,dS] u:=
  λgS e fe dS=>uW aw aG (q _ _ _ (.inr ⟨gS,t,g,rfl,e⟩) _ (.inl rfl))
 have yes:∀gS,hR dn bl f=some gS->∀fe dS,dv (dT (.ref c) t) (aJ (e2 [.ref c,gS.v] t) λ_ u=>Q .next [some (.ref eO),some (.ref fM),some (.ref dR),some (.ref d4),some (.ref c),some f.v,fe,dS] u) False:=
  λgS e fe dS=>gk (m6 aw) (Co gS e fe dS)
 refine qq (G8 aQ f.toKey) ?_
 cases f with
 |dG n=>
  refine fH (by cases dn<;>rfl) ?_
  refine gk (m6 aw) ?_
  refine Qu (x:=.int 33) h1 (Fr.toKey (.dG n)) rfl ?_
  exact Co (.dG 33) rfl _ _
 |fC=>
  cases dn with
  |true=>exact no rfl _ _ _ (.inr rfl)
  |false=>exact yes .fC rfl _ _
 |ec=>
  refine fH (by cases dn<;>rfl) ?_
  refine qq (G8 h2 (Fr.toKey .ec)) ?_
  cases bl with
  |true=>
   refine gk (m6 aw) ?_
   refine ef (Sn (x:=.int 9) h2 (Fr.toKey .ec) rfl) ?_
   exact Co .ec rfl _ _
  |false=>exact no rfl _ _ _ (.inl rfl)
 |c' n=>
  refine fH (by cases dn<;>rfl) ?_
  exact yes (.c' n) rfl _ _
 |_=>exact fH (by cases dn<;>rfl) (no rfl _ _ _ (.inr rfl))
theorem Py:(f::fs).filterMap (hR dn bl)=(hR dn bl f).toList++fs.filterMap (hR dn bl):=by
 rw[List.filterMap_cons];cases hR dn bl f<;>rfl
theorem abu{fs:List Fr}{K:List (List bp)}(w:cz σ)(ah:σ.cells eO=some (.list (fs.map Fr.v)))(h1:σ.cells fM=some (.b2 rf))(h2:σ.cells dR=some (.b2 (qD bl)))(aQ:σ.cells d4=some (.b2 (qJ dn)))
 (aV:fs.length<=900)(n8:∀f∈fs.filterMap (hR dn bl),f.key∈K)(c4:K.length<=6):
 a3 (sa [.ref eO,.ref fM,.ref dR,.ref d4] σ) λv s=>∃ns,v=dy ns/\qr (fs.filterMap (hR dn bl)) ns/\cu σ s:=by
 refine Yx ?_
 obtain⟨T,hT⟩:∃T,fs.filterMap (hR dn bl)=T:=⟨_,rfl⟩
 have vL:T.length<=900:=by rw[<-hT];exact Nat.le_trans (List.length_filterMap_le ..) aV
 rw[hT] at n8⊢
 have at_:∀{c x s},σ.cells c=some x->Keeps [] σ s->s.cells c=some x:=λh k=>(k.old _ (w.lt h) List.not_mem_nil).trans h
 have kN:Keeps [] σ (σ.new (.list [])):=(Keeps.refl w).new
 have te:∀{s},Keeps [] σ s->dO (.ref eO) s=some (fs.map Fr.v):=λk=>by
  unfold dO;dsimp only;rw[at_ ah k]
 refine dq (te kN) ?_
 refine jB (enc:=Fr.v) (xs:=fs) (A:=xo) (λr l s=>u3 λfd iZ fe dS=>l=[some (.ref eO),some (.ref fM),some (.ref dR),some (.ref d4),some (.ref σ.next),iZ,fe,dS]/\s.cells σ.next=some (.list (fd.map Fr.v))/\Keeps [] σ s/\fd++r.filterMap (hR dn bl)=T) (λr l s h=>by obtain⟨_,_,_,_,_,_,k,_⟩:=h;exact te k) ?_ ?_
  ⟨[],_,_,_,rfl,hO,kN,hT⟩
 .rintro f r _ s ⟨fd,iZ,fe,dS,rfl,l0,c8,e⟩
  rw[Py] at e
  have aG:fd.length<=900:=by
   have:=congrArg List.length e
   rw[List.length_append] at this;exact aC.Ur vL this
  refine⟨_,rfl,?_⟩
  refine Z4 c8.wf (at_ h1 c8) (at_ h2 c8) (at_ aQ c8) l0 (by rw[List.length_map];exact aC.By aG) ?_
  intro fe dS u bI fl Ad
  have key:u3 λ(fd:List Fr) (iZ aa2 aa3:Option J)=>[some (.ref eO),some (.ref fM),some (.ref dR),some (.ref d4),some (.ref σ.next),some f.v,fe,dS]=[some (.ref eO),some (.ref fM),some (.ref dR),some (.ref d4),some (.ref σ.next),iZ,aa2,aa3]/\u.cells σ.next=some (.list (fd.map Fr.v))/\Keeps [] σ u/\fd++r.filterMap (hR dn bl)=T:=by
   rcases bI with⟨g,a8⟩|⟨gS,t,g,rfl,a8⟩
   .rw[a8] at e
    exact⟨fd,_,_,_,rfl,by rw[g.cells];exact l0,c8.gq g,e⟩
   .rw[a8] at e
    have fX:=c8.gq g
    refine⟨fd++[gS],_,_,_,rfl,by rw[List.map_append];exact gV,fX.aS (.inr (Nat.le_refl _)) (fX.wf.lt (by rw[g.cells];exact l0)),?_⟩
    rw[List.append_assoc];exact e
  rcases Ad with rfl|rfl
  .exact key
  .exact key
 .rintro _ s ⟨fd,iZ,fe,dS,rfl,l0,c8,e⟩
  have cZ:fd=T:=(List.append_nil fd).symm.trans e
  subst cZ
  refine(abh c8.wf l0 vL n8 c4).a4 ?_
  rintro _ u ⟨ns,rfl,Bj,g⟩
  exact⟨ns,rfl,Bj,(c8.gq g).done w⟩
section
set_option genInjectivity false
structure gj where
 T:List bp->Option Int
 E:bp->Option Int
 N:Int
 domT:List (List bp)
 domE:List bp
 hT:∀k i,T k=some i->k∈domT
 hE:∀k i,E k=some i->k∈domE
 lT:domT.length<=1000
 lE:domE.length<=1000
noncomputable def gj.fu(G:gj)(f:Fr):Prop:=f.ok/\match f with
 |.st c5 bF d cA=>(∀(i:Nat) b,d[i]? =some b->G.T [.int c5,.int (bF+i)]=some (b.toNat:Int))/\(cA=true->G.E (.int c5)=some (bF+d.length))
 |.d8 bF d=>∀(i:Nat) b,d[i]? =some b->G.T [.str "crypto",.int (bF+i)]=some (b.toNat:Int)
 |.c' n=>n=G.N
 |.gg=>False
 |_=>True
theorem o'(f:Fr)(R:Nat):(f.size<=R/\dB f R=(some f,none))\/(dB f R=(none,some f)/\(f.data=none/\R<f.size\/R<=f.dh))\/
 ∃d,f.data=some d/\f.dh<R/\R<f.dh+d.length/\dB f R=(some (f.jM 0 (d.take (R-f.dh)) false),some (f.jM (R-f.dh) (d.drop (R-f.dh)) f.cA)):=by
 unfold dB
 by_cases h:f.size<=R
 .rw[if_pos h];exact .inl ⟨h,rfl⟩
 .rw[if_neg h]
  cases aB:f.data with
  |none=>exact .inr (.inl ⟨rfl,.inl ⟨rfl,Nat.lt_of_not_le h⟩⟩)
  |some d=>
   have:=Fr.w5 f aB
   by_cases h2:R<=f.dh
   .exact .inr (.inl ⟨if_pos h2,.inr h2⟩)
   .exact .inr (.inr ⟨d,rfl,by exact aC.Us h2,by exact aC.Ut h this,if_neg h2⟩)
theorem J7{d:List UInt8}{i k:Nat}(h:(d.take k)[i]? =some b):d[i]? =some b:=by
 rw[List.getElem?_take] at h
 split at h
 .exact h
 .cases h
theorem gj.cut{G:gj}(f:Fr)(R:Nat)(h:G.fu f):(∀g∈(dB f R).1,G.fu g)/\∀g∈(dB f R).2,G.fu g:=by
 have ok:=yU (R:=R) h.1
 rcases o' f R with⟨_,e⟩|⟨e,_⟩|⟨d,aB,h1,h2,e⟩
 .rw[e];exact⟨rH h,wH⟩
 .rw[e];exact⟨wH,rH h⟩
 .rw[e] at ok⊢
  have hk:R-f.dh<=d.length:=by exact aC.IK h2
  generalize R-f.dh=k at ok hk⊢
  refine⟨λg aT=>⟨ok.1 g aT,?_⟩,λg aT=>⟨ok.2 g aT,?_⟩⟩
  .cases aT
   cases f<;>cases aB
   .refine⟨λi b ag=>?_,nofun⟩
    have:=h.2.1 i b (J7 ag)
    rw[<-this,show((0:Nat):Int)=0 from rfl,Int.add_zero]
   .intro i b ag
    have:=h.2 i b (J7 ag)
    rw[<-this,show((0:Nat):Int)=0 from rfl,Int.add_zero]
  .cases aT
   cases f<;>cases aB
   .rename_i c5 bF cA
    refine⟨λi b ag=>?_,λhf=>?_⟩
    .rw[List.getElem?_drop] at ag
     have:=h.2.1 (k+i) b ag
     rw[<-this,Int.natCast_add,Int.add_assoc]
    .rw[h.2.2 hf,List.length_drop];congr 1;exact aC.Uu hk
   .intro i b ag
    rw[List.getElem?_drop] at ag
    have:=h.2 (k+i) b ag
    rw[<-this,Int.natCast_add,Int.add_assoc]
structure e0 (G:gj) where
 does:Fr->Prop
 done:fE->Prop
 cut:∀f R,G.fu f->does f->(∃g∈(dB f R).1,does g)\/∃g∈(dB f R).2,does g
 keep:∀S f,done S->done (gm S f)
 come:∀S f,does f->done (gm S f)
 told:∀f,does f->f.data.isSome=true\/∀dn bl,∃g,hR dn bl f=some g/\∀h,G.fu h->h.key=g.key->does h
 other:∀S ck:fE,ck.oc=S.oc->ck.en=S.en->ck.cU=S.cU->done S->done ck
variable{G:gj}
theorem e0.Fj(D:e0 G):∀{fs:List Fr} {R:Nat},(∀f∈fs,G.fu f)->(∃f∈fs,D.does f)->(∃g∈(eR fs R).1,D.does g)\/∃g∈(eR fs R).2,D.does g
 |[],_,_,⟨_,h,_⟩=>nomatch h
 |f::fs,R,aT,⟨g,hm,aB⟩=>by
  obtain⟨h1,aT⟩:=List.forall_mem_cons.mp aT
  rcases List.mem_cons.mp hm with rfl|hm
  .rcases D.cut g R h1 aB with⟨x,av,d⟩|⟨x,av,d⟩
   .exact .inl ⟨x,List.mem_append_left _ (Option.mem_toList.mpr av),d⟩
   .exact .inr ⟨x,List.mem_append_left _ (Option.mem_toList.mpr av),d⟩
  .rcases D.Fj (R:=R-lK (dB f R).1) aT ⟨g,hm,aB⟩ with⟨x,av,d⟩|⟨x,av,d⟩
   .exact .inl ⟨x,List.mem_append_right _ av,d⟩
   .exact .inr ⟨x,List.mem_append_right _ av,d⟩
noncomputable def Fr.eA(f:Fr):Nat:=match f.data with
 |none=>1
 |some d=>1+d.length
noncomputable def fv(fs:List Fr):Nat:=(fs.map Fr.eA).sum
noncomputable def hl(fs:List Fr):Nat:=(fs.map Fr.size).sum
noncomputable def wK(o:Option Fr):Nat:=match o with
 |none=>0
 |some f=>f.eA
theorem oo(f:Fr)(fs:List Fr):fv (f::fs)=f.eA+fv fs:=by unfold fv;rw[List.map_cons,List.sum_cons]
theorem wD(a b:List Fr):fv (a++b)=fv a+fv b:=by unfold fv;rw[List.map_append,List.sum_append]
theorem JX(f:Fr)(fs:List Fr):hl (f::fs)=f.size+hl fs:=by unfold hl;rw[List.map_cons,List.sum_cons]
theorem ZT(a b:List Fr):hl (a++b)=hl a+hl b:=by unfold hl;rw[List.map_append,List.sum_append]
theorem H0(o:Option Fr):fv o.toList=wK o:=by cases o<;>rfl
theorem ZU(o:Option Fr):hl o.toList=lK o:=by cases o<;>rfl
theorem HR(f:Fr):1<=f.eA:=by
 unfold Fr.eA
 split
 .exact Nat.le_refl _
 .exact Nat.le_add_right _ _
theorem kP:∀fs:List Fr,fs.length<=fv fs
 |[]=>Nat.le_refl _
 |f::fs=>by rw[oo,List.length_cons];have:=kP fs;have:=HR f;omega
theorem Tg(f:Fr):f.eA<=f.size:=by
 unfold Fr.eA
 cases aB:f.data with
 |none=>cases f<;>first|(exact Nat.le_add_left 1 _)|cases aB
 |some d=>
  have:=Fr.w5 f aB
  have:=(Fr.GF f aB).2
  show 1+d.length<=_
  omega
theorem pZ:∀fs:List Fr,fv fs<=hl fs
 |[]=>Nat.le_refl _
 |f::fs=>by rw[oo,JX];have:=pZ fs;have:=Tg f;omega
theorem EH(f:Fr)(R:Nat):wK (dB f R).2<=f.eA/\((dB f R).1≠none->wK (dB f R).2<f.eA):=by
 rcases o' f R with⟨_,e⟩|⟨e,_⟩|⟨d,aB,h1,h2,e⟩
 .rw[e];exact⟨Nat.zero_le _,λ_=>HR f⟩
 .rw[e];exact⟨Nat.le_refl _,λh=>absurd rfl h⟩
 .rw[e]
  have:(f.jM (R-f.dh) (d.drop (R-f.dh)) f.cA).eA=1+(d.length-(R-f.dh)):=by
   rw[<-List.length_drop]
   cases f<;>cases aB<;>rfl
  have aQ:f.eA=1+d.length:=by unfold Fr.eA;rw[aB]
  have h4:wK (some (f.jM (R-f.dh) (d.drop (R-f.dh)) f.cA))=1+(d.length-(R-f.dh)):=this
  rw[aQ]
  dsimp only
  rw[h4]
  exact⟨by exact aC.Uv,λ_=>by exact aC.Uw h1 h2⟩
theorem zN:∀(fs:List Fr) (R:Nat),fv (eR fs R).2<=fv fs/\hl (eR fs R).1<=R
 |[],R=>⟨Nat.le_refl _,Nat.zero_le _⟩
 |f::fs,R=>by
  have:=zN fs (R-lK (dB f R).1)
  have h1:=(EH f R).1
  have h2:=EF (f:=f) (R:=R)
  rw[eR,wD,ZT,H0,ZU,oo]
  exact⟨by exact aC.Ux this h1,by exact aC.Uy this h2⟩
theorem NN(gd:32<=R):(dB f R).1≠none:=by
 rcases o' f R with⟨_,e⟩|⟨e,h⟩|⟨d,aB,h1,h2,e⟩
 .rw[e];exact nofun
 .rcases h with⟨aB,h⟩|h
  .exfalso
   have:f.size<=28:=by cases f<;>first|exact(by decide:2<=28)|exact(by decide:3<=28)|exact(by decide:9<=28)|exact(by decide:28<=28)|exact(by decide:1<=28)|cases aB
   exact(aC.UA gd h this).elim
  .cases aB:f.data with
   |none=>
    exfalso
    have:f.dh<=28:=by cases f<;>first|exact(by decide:2<=28)|exact(by decide:3<=28)|exact(by decide:9<=28)|exact(by decide:28<=28)|exact(by decide:1<=28)|cases aB
    exact(aC.UB gd h this).elim
   |some d=>have:=(Fr.GF f aB).1;exact(aC.UC gd h this).elim
 .rw[e];exact nofun
structure Rows (G:gj) (fs:List Fr) (R:Nat) (rows:List (List Fr)):Prop where
 len:rows.length<=fv fs
 row:∀r∈rows,r≠[]/\hl r<=R/\∀f∈r,G.fu f
 duty:∀D:e0 G,(∃f∈fs,D.does f)->∃r∈rows,∃f∈r,D.does f
 jk:(rows.flatten).countP (λf=>decide (f=.c0))=fs.countP λf=>decide (f=.c0)
theorem NM(f:Fr)(R:Nat):((dB f R).1.toList).countP (λf=>decide (f=Fr.c0))+((dB f R).2.toList).countP (λf=>decide (f=Fr.c0))=[f].countP λf=>decide (f=Fr.c0):=by
 rcases o' f R with⟨_,e⟩|⟨e,_⟩|⟨d,aB,h1,h2,e⟩
 .rw[e];exact Nat.add_zero _
 .rw[e];exact Nat.zero_add _
 .rw[e]
  cases f<;>cases aB<;>rfl
theorem Fm:∀(fs:List Fr) (R:Nat),((eR fs R).1).countP (λf=>decide (f=Fr.c0))+((eR fs R).2).countP (λf=>decide (f=Fr.c0))=fs.countP λf=>decide (f=Fr.c0)
 |[],_=>rfl
 |f::fs,R=>by
  have h1:=Fm fs (R-lK (dB f R).1)
  have h2:=NM f R
  rw[eR,List.countP_append,List.countP_append,<-List.singleton_append (x:=f),List.countP_append]
  exact aC.UD h1 h2
theorem JA(gd:32<=R):∀(n:Nat) (fs:List Fr),(∀f∈fs,G.fu f)->fv fs<n->∃rows,rG n fs R=some rows/\Rows G fs R rows
 |0,_,_,h=>absurd h (Nat.not_lt_zero _)
 |n+1,fs,aT,h=>by
  unfold rG
  by_cases e:fs=[]
  .subst e
   exact⟨[],if_pos rfl,⟨Nat.zero_le _,nofun,(λD ⟨_,h,_⟩=>nomatch h),rfl⟩⟩
  .rw[if_neg e]
   have GG:(eR fs R).1≠[]/\fv (eR fs R).2<fv fs:=by
    cases fs with
    |nil=>exact absurd rfl e
    |cons f fs=>
     have h1:=NN (f:=f) gd
     have h2:=(EH f R).2 h1
     have aQ:=(zN fs (R-lK (dB f R).1)).1
     rw[eR,wD,H0,oo]
     refine⟨?_,by exact aC.UE h2 aQ⟩
     cases e:(dB f R).1 with
     |none=>exact absurd e h1
     |some g=>exact nofun
   rw[if_neg GG.1]
   have pn:=Fl gj.cut fs R aT
   obtain⟨rows,a7,aI⟩:=JA gd n (eR fs R).2 pn.2 (by omega)
   refine⟨(eR fs R).1::rows,by rw[a7];rfl,?_,?_,λD aB=>?_,?_⟩
   .rw[List.length_cons];have:=aI.len;omega
   .exact List.forall_mem_cons.mpr ⟨⟨GG.1,(zN fs R).2,pn.1⟩,aI.row⟩
   .rcases D.Fj (R:=R) aT aB with⟨g,aT,d⟩|⟨g,aT,d⟩
    .exact⟨_,List.mem_cons_self ..,g,aT,d⟩
    .obtain⟨r,aI,x⟩:=aI.duty D ⟨g,aT,d⟩
     exact⟨r,List.mem_cons_of_mem _ aI,x⟩
   .rw[List.flatten_cons,List.countP_append,aI.jk];exact Fm fs R
end
section
variable{G:gj}
noncomputable def e0.PE(D:e0 G)(S:fE):Prop:=∃a∈S.fl,∃f∈a.2,D.does f
noncomputable def e0.live(D:e0 G)(S:fE):Prop:=D.done S\/D.PE S
theorem e0.keeps(D:e0 G):∀{fs:List Fr} {S:fE},D.done S->D.done (gn S fs)
 |[],_,h=>h
 |f::fs,S,h=>(D.keeps (fs:=fs) (D.keep S f h):D.done (gn (gm S f) fs))
theorem e0.iP(D:e0 G):∀{fs:List Fr} {S:fE},(∃f∈fs,D.does f)->D.done (gn S fs)
 |[],_,⟨_,h,_⟩=>nomatch h
 |f::fs,S,⟨g,hm,d⟩=>(List.mem_cons.mp hm).elim (λe=>D.keeps (fs:=fs) (S:=gm S f) (D.come S f (e▸d))) λhm=>D.iP (fs:=fs) (S:=gm S f) ⟨g,hm,d⟩
theorem Ij{α:Type}{l:List α}{x:α}(h:l.Nodup)(av:x∉l):(l++[x]).Nodup:=
 List.nodup_append.mpr ⟨h,List.nodup_cons.mpr ⟨List.not_mem_nil,List.nodup_nil⟩,λy bB z hz e=>av (by rw[<-List.mem_singleton.mp hz,<-e];exact bB)⟩
theorem NI(S:fE)(f:Fr):(gm S f).fl=S.fl/\(gm S f).to=S.to/\(gm S f).al=S.al:=by cases f<;>exact⟨rfl,rfl,rfl⟩
theorem o8:∀(fs:List Fr) (S:fE),(gn S fs).fl=S.fl/\(gn S fs).to=S.to/\(gn S fs).al=S.al
 |[],_=>⟨rfl,rfl,rfl⟩
 |f::fs,S=>by
  obtain⟨a,b,c⟩:=o8 fs (gm S f)
  obtain⟨bq,bP,cc⟩:=NI S f
  exact⟨a.trans bq,b.trans bP,c.trans cc⟩
structure iH (G:gj) (S:fE):Prop where
 oc:Sane G.T S.oc
 en:Sane G.E S.en
 cU:∀f∈S.cU,f.data=none
theorem iH.come(h:iH G S)(hf:G.fu f):iH G (gm S f)/\(gm S f).cU.length<=S.cU.length+1:=by
 have no:f.data=none->gm S f={S with cU:=S.cU++[f]}->iH G (gm S f)/\(gm S f).cU.length<=S.cU.length+1:=λaB e=>by
  rw[e]
  exact⟨⟨h.oc,h.en,λg aT=>(List.mem_append.mp aT).elim (h.cU g) λq=>by rw[List.mem_singleton.mp q];exact aB⟩,Nat.le_of_eq List.length_append⟩
 cases f with
 |st c5 bF d cA=>
  refine⟨⟨BI h.oc hf.2.1,?_,h.cU⟩,Nat.le_succ _⟩
  cases cA with
  |false=>exact h.en
  |true=>exact h.en.dr (hf.2.2 rfl)
 |d8 bF d=>exact⟨⟨BI h.oc hf.2,h.en,h.cU⟩,Nat.le_succ _⟩
 |_=>exact no rfl rfl
theorem iH.iP:∀{fs:List Fr} {S:fE},iH G S->(∀f∈fs,G.fu f)->iH G (gn S fs)/\(gn S fs).cU.length<=S.cU.length+fs.length
 |[],_,h,_=>⟨h,Nat.le_refl _⟩
 |f::fs,S,h,aT=>by
  obtain⟨h1,aT⟩:=List.forall_mem_cons.mp aT
  obtain⟨a,b⟩:=h.come h1
  obtain⟨c,d⟩:=iH.iP (fs:=fs) a aT
  rw[List.length_cons]
  exact⟨c,by show(gn (gm S f) fs).cU.length<=_;exact aC.UI b d⟩
theorem iH.B2(h:iH G S)(aV:n<=13000)(aw:S.cU.length<=800000):si S n:=by
 have h1:=h.oc.len G.hT
 have h2:=h.en.len G.hE
 have aQ:=G.lT
 have h4:=G.lE
 exact⟨by exact aC.UJ aV h1 aQ,by exact aC.UK aV h2 h4,by exact aC.UM aV aw⟩
structure Bse (G:gj) (S:fE) (bW:Int) (b:Nat):Prop where
 nd:(S.fl.map (·.1)).Nodup
 kd:∀a∈S.fl,a.1∈eV
 an:(S.al.map (·.1)).Nodup
 tm:∀a∈S.al,bW<=a.2
 row:∀a∈S.fl,(∀f∈a.2,G.fu f)/\hl a.2<=51
 came:iH G S
 lca:S.cU.length<=b
 lto:S.to.length<=b
structure Inv (G:gj) (S:fE) (bW:Int) (b:Nat):Prop extends Bse G S bW b where
 ak:∀k,k∈S.al.map (·.1)↔k∈S.fl.map (·.1)
theorem Bse.vA(h:Bse G S bW b):S.fl.length<=6:=by
 have:=rm h.nd (m:=eV) λk hk=>by
  obtain⟨a,ha,rfl⟩:=List.mem_map.mp hk
  exact h.kd a ha
 rw[List.length_map] at this;exact this
theorem Inv.DP(h:Inv G S bW b):S.al.length<=6:=by
 have:=rm h.an (m:=S.fl.map (·.1)) λk hk=>(h.ak k).mp hk
 rw[List.length_map,List.length_map] at this
 exact Nat.le_trans this h.vA
theorem aac:tm al k=none↔k∉al.map (·.1):=by
 unfold tm
 rw[Option.map_eq_none_iff,List.find?_eq_none]
 constructor
 .rintro h hk
  obtain⟨a,ha,rfl⟩:=List.mem_map.mp hk
  exact h a ha (decide_eq_true rfl)
 .intro h a ha aB
  exact h (List.mem_map.mpr ⟨a,ha,of_decide_eq_true aB⟩)
theorem B7(h:tm al k=some t):(k,t)∈al:=by
 unfold tm at h
 obtain⟨a,ha,rfl⟩:=Option.map_eq_some_iff.mp h
 have q:=List.find?_some (p:=λa:Str×Int=>decide (a.1=k)) ha
 rw[<-(of_decide_eq_true q:a.1=k)];exact List.mem_of_find?_eq_some ha
theorem aat(h:k∉al.map (·.1)):nD al k (some t)=al++[(k,t)]:=by
 unfold nD
 rw[List.filter_eq_self.mpr]
 intro a ha
 rw[Bool.not_eq_true',beq_eq_false_iff_ne]
 rintro rfl
 exact h (List.mem_map.mpr ⟨a,ha,rfl⟩)
theorem Inv.PD(h:Inv G S bW b)(hk:k∈eV)(aV:k∉S.al.map (·.1))(ht:bW<=t)(aI:(∀f∈r,G.fu f)/\hl r<=51):
 Inv G {S with al:=S.al++[(k,t)],fl:=S.fl++[(k,r)],to:=S.to++r} bW (b+51) where
 nd:=by
  rw[List.map_append]
  exact Ij h.nd λq=>aV ((h.ak k).mpr q)
 kd a ha:=(List.mem_append.mp ha).elim (h.kd a) λq=>by rw[List.mem_singleton.mp q];exact hk
 an:=by
  rw[List.map_append]
  exact Ij h.an aV
 ak x:=by
  rw[List.map_append,List.map_append,List.mem_append,List.mem_append]
  exact or_congr (h.ak x) Iff.rfl
 tm a ha:=(List.mem_append.mp ha).elim (h.tm a) λq=>by rw[List.mem_singleton.mp q];exact ht
 row a ha:=(List.mem_append.mp ha).elim (h.row a) λq=>by rw[List.mem_singleton.mp q];exact aI
 came:=⟨h.came.oc,h.came.en,h.came.cU⟩
 lca:=Nat.le_trans h.lca (Nat.le_add_right _ _)
 lto:=by
  have:=h.lto
  have:=kP r
  have:=pZ r
  have:=aI.2
  rw[List.length_append];omega
theorem Bse.iP(h:Bse G S bW b)(aI:(∀f∈r,G.fu f)/\hl r<=51):Bse G (gn S r) bW (b+51):=by
 obtain⟨c,l⟩:=h.came.iP aI.1
 obtain⟨a8,a7,e3⟩:=o8 r S
 have h1:=kP r
 have h2:=pZ r
 have aQ:=aI.2
 have h4:=h.lca
 exact⟨by rw[a8];exact h.nd,by rw[a8];exact h.kd,by rw[e3];exact h.an,by rw[e3];exact h.tm,by rw[a8];exact h.row,c,by exact aC.UN l h1 h2 aQ h4,by rw[a7];exact Nat.le_trans h.lto (Nat.le_add_right _ _)⟩
theorem Inv.iP(h:Inv G S bW b)(aI:(∀f∈r,G.fu f)/\hl r<=51):Inv G {gn S r with to:=(gn S r).to++r} bW (b+51):=by
 obtain⟨a8,a7,e3⟩:=o8 r S
 have g:=h.toBse.iP aI
 have h1:=kP r
 have h2:=pZ r
 have aQ:=aI.2
 have fJ:=h.lto
 refine⟨⟨g.nd,g.kd,g.an,g.tm,g.row,⟨g.came.oc,g.came.en,g.came.cU⟩,g.lca,?_⟩,?_⟩
 .show((gn S r).to++r).length<=_
  rw[a7,List.length_append];exact aC.UO h1 h2 aQ fJ
 .show∀k,k∈(gn S r).al.map _↔k∈(gn S r).fl.map _
  rw[a8,e3];exact h.ak
theorem Lg(h:σ.cells c=some (.list vs))(aG:vs.length<=1000000)(q:Q (.int vs.length) σ):aJ (e5 [.ref c] σ) Q:=
 gY (show(eW (.ref c) σ).bind _=some (.int vs.length,σ) by rw[tr h];exact if_pos aG) q
theorem Dz(h:σ.cells c=some (.list vs))(aG:vs.length+cB.length<=1000000)(q:Q .none (σ.aS c (.list (vs++cB)))):aJ (mN [.ref c,.bo cB] σ) Q:=
 gY (show(match σ.cells c with|some (.list vs)=>if vs.length+cB.length<=1000000 then some (J.none,σ.aS c (.list (vs++cB))) else none|_=>none)=_ by rw[h];exact if_pos aG) q
theorem Hb:∀r:List Fr,hv (r.map λf=>J.int f.size)=some (r.map λf=>(f.size:Int))
 |[]=>rfl
 |f::r=>congrArg (Option.map λl=>(f.size:Int)::l) (Hb r)
theorem J2:∀r:List Fr,(r.map λf=>(f.size:Int)).sum=(hl r:Int)
 |[]=>rfl
 |f::r=>by rw[List.map_cons,List.sum_cons,J2 r,JX,Int.natCast_add]
noncomputable def AV(n:Nat):Str:=match n with
 |0=>"loss"|1=>"probe"|2=>"ack"|3=>"path"|4=>"idle"|5=>"closed"|_=>"loss"
theorem SG{n:Nat}(h:n<=6):fW (.bo [.str "loss",.str "probe",.str "ack",.str "path",.str "idle",.str "closed"]) (.int ((n:Int).fmod 6)) s=some (.str (AV n))/\AV n∈eV:=by
 match n,h with
 |0,_=>exact⟨rfl,by decide⟩
 |1,_=>exact⟨rfl,by decide⟩
 |2,_=>exact⟨rfl,by decide⟩
 |3,_=>exact⟨rfl,by decide⟩
 |4,_=>exact⟨rfl,by decide⟩
 |5,_=>exact⟨rfl,by decide⟩
 |6,_=>exact⟨rfl,by decide⟩
 |n+7,h=>exact absurd h (Nat.not_le_of_lt (Nat.lt_of_lt_of_le (by decide:6<7) (Nat.le_add_left 7 n)))
theorem TP(o:Option Int):ng (p2 o)=some o.isNone:=by cases o<;>rfl
structure k8 (G:gj) (σ:St) (p:Nat) (c:hq) (S:fE) (bW:Int) (b:Nat):Prop where
 hw:b4 σ c S
 pool:f6 σ p
 bc:Inv G S bW b
 wf:cz σ
theorem abc{σ:St}{Q:fy->Loc->St->Prop}(hp:p∉c.all)(h:k8 G σ p c S bW b)(ag:b<=800000)(aI:r≠[]/\hl r<=R/\∀f∈r,G.fu f)(gd:R<=51)
 (q:∀u dS ck,k8 G u p c ck bW (b+51)->Keeps (p::c.all) σ u->(∀D:e0 G,D.live S\/(∃f∈r,D.does f)->D.live ck)->ck.to=S.to++r->Q .next [some (.ref p),some (.ref c.w),dR,some (.int R),some (.int bW),eY,some (dy r),dS] u):
 xk.p [some (.ref p),some (.ref c.w),dR,some (.int R),some (.int bW),eY,some (dy r),ho] σ Q:=by
 obtain⟨hw,RH,bc,wf⟩:=h
 obtain⟨qY,sY,vX⟩:=aI
 have Gs:(∀f∈r,G.fu f)/\hl r<=51:=⟨vX,Nat.le_trans sY gd⟩
 have de:=kP r
 have oe:=pZ r
 have wg:∀{d},d∈c.all->d∈p::c.all:=λh=>.tail _ h
 have last:∀{u:St} {ck:fE} {z:J},b4 u c ck->cz u->f6 u p->Keeps (p::c.all) σ u->Inv G {ck with to:=ck.to++r} bW (b+51)->ck.to=S.to->(∀D:e0 G,D.live S\/(∃f∈r,D.does f)->D.live ck)->
  aJ (a6 [.ref c.w,.str "told"] u) λv s=>dv (dT v s) (aJ (mN [v,dy r] s) λ_ s=>Q .next [some (.ref p),some (.ref c.w),dR,some (.int R),some (.int bW),eY,some (dy r),some z] s) False:=by
  intro u ck z t9 f1 ji c8 cx nC iq
  refine ef t9.G6 ?_
  have aG:ck.to.length<=800000:=by rw[nC];exact Nat.le_trans bc.lto ag
  have h2:=t9.ZA (ck.to++r)
  rw[List.map_append] at h2
  have df:=t9.lt f1 _ c.Be
  refine gk (m6 t9.to) ?_
  refine Dz t9.to (by rw[List.length_map,List.length_map];exact aC.UP gd sY de oe aG) (q _ _ _ ⟨h2,?_,cx,f1.aS df⟩ (c8.aS (.inl (wg c.Be)) df) (λD aB=>?_) (by show ck.to++r=_;rw[nC]))
  .obtain⟨a,b,eF,e,x⟩:=ji
   exact⟨a,b,eF,(b' (show p≠c.to fromλe=>hp (by rw[e];exact c.Be))).trans e,x⟩
  .exact(iq D aB).elim (λx=>.inl (D.other ck _ rfl rfl rfl x)) .inr
 refine uX (y5 _ _) ?_
 refine fH (decide_eq_false λe=>qY (List.map_eq_nil_iff.mp e)) ?_
 refine dq rfl ?_
 refine la (src:=dy r) (λU s=>(∃z,U=[z])/\cu σ s) (λ_=>true) (λf v=>v=J.int f.size) (λ_ _ _=>rfl) ?_ ⟨⟨_,rfl⟩,.refl⟩ (by rw[List.length_nil];exact aC.UQ gd sY de oe) ?_
 .rintro f hf _ s ⟨⟨z,rfl⟩,g⟩
  refine⟨_,rfl,rfl,?_⟩
  refine(KN f (g.wf wf) (vX f hf).1).a4 ?_
  rintro _ t ⟨bg,rfl,ag,g2⟩
  have:=Fr.JO (vX f hf).1
  exact jq (p:=bg.length<=1000000) (by exact aC.IL ag this) ⟨by rw[ag],⟨_,rfl⟩,g.trans g2⟩
 rintro cB _ s a ⟨_,g⟩
 rw[List.filter_eq_self.mpr (λ_ _=>rfl)] at a
 rw[mF a]
 refine gY (m:=p' [.bo ([]++r.map λf=>J.int f.size)] s) (a:=.int (hl r)) (s:=s) ?_ ?_
 .show((hv (r.map λf=>J.int f.size)).map λl=>(J.int l.sum,s))=_
  rw[Hb,<-J2];rfl
 refine fH (decide_eq_false (by exact aC.UR sY)) ?_
 have lD:=hw.gq g
 have Kp:=g.wf wf
 have ji:f6 s p:=by
  obtain⟨a,b,eF,e,x⟩:=RH
  exact⟨a,b,eF,by rw[g.cells];exact e,x⟩
 have ib:=bc.vA
 refine ef lD.s9 ?_
 refine Lg lD.fl (by rw[List.length_map];exact aC.IM ib) ?_
 rw[List.length_map]
 obtain⟨SF,dt⟩:=SG ib (s:=s)
 refine ef SF ?_
 generalize AV S.fl.length=k at dt
 refine ef lD.s8 ?_
 refine tO lD.al ?_
 refine(abt Kp lD.al).fk λt g2=>?_
 have lF:=lD.gq g2
 have xe:=g2.wf Kp
 have jD:f6 t p:=by
  obtain⟨a,b,eF,e,x⟩:=ji
  exact⟨a,b,eF,by rw[g2.cells];exact e,x⟩
 have fX:Keeps (p::c.all) σ t:=(g.trans g2).keeps wf
 refine DA (TP _) ?_
 cases RT:tm S.al k with
 |some rJ=>
  refine(Cj (fs:=r) xe lF (λf hf=>(vX f hf).1) (bc.came.B2 (by exact aC.US gd sY de oe) (Nat.le_trans bc.lca ag))).fk λu gB=>?_
  obtain⟨pJ,hx⟩:=gB
  have AI:=bc.iP Gs
  refine last pJ hx.wf ?_ (fX.trans (hx.a4 λd=>wg)) AI (o8 r S).2.1 λD aB=>?_
  .obtain⟨a,b,eF,e,x⟩:=jD
   exact⟨a,b,eF,(hx.old p (xe.lt e) hp).trans e,x⟩
  .rcases aB with(aB|⟨a,ha,x⟩)|aB
   .exact .inl (D.keeps aB)
   .exact .inr ⟨a,by rw[(o8 r S).1];exact ha,x⟩
   .exact .inl (D.iP aB)
 |none=>
  have hk:=aac.mp RT
  refine ef lF.s8 ?_
  refine tO lF.al ?_
  refine(ua xe jD (by decide)).a4 ?_
  rintro _ u ⟨n,rfl,aV,tL,hx⟩
  have pJ:b4 u c S:=lF.keeps xe hx λd aB q=>hp (by rw[<-List.mem_singleton.mp q];exact aB)
  refine(KQ (told:=some (bW+5+n)) hx.wf pJ.al bc.an (by have:=bc.DP;exact aC.IP this)).fk λv gB=>?_
  obtain⟨kx,m7⟩:=gB
  have sZ:=pJ.JK hx.wf m7 kx
  rw[aat hk] at sZ
  refine ef sZ.s9 ?_
  have fJ:=sZ.Zx (S.fl++[(k,r)])
  rw[List.map_append] at fJ
  have df:=sZ.lt m7.wf _ c.Bd
  have Sx:Keeps (p::c.all) σ v:=(fX.trans (hx.a4 λd aB=>by rw[List.mem_singleton.mp aB];exact .head _)).trans (m7.a4 λd aB=>by rw[List.mem_singleton.mp aB];exact wg c.wA)
  refine rz sZ.fl (by show(S.fl.map j4).length<=_;rw[List.length_map];exact aC.IM ib) ?_
  refine last fJ (m7.wf.aS df) ?_ (Sx.aS (.inl (wg c.Bd)) df) (bc.PD dt hk (by exact aC.UT aV) Gs) rfl λD aB=>?_
  .obtain⟨a,b,eF,e,x⟩:=tL
   refine⟨a,b,eF,(b' (show p≠c.fl fromλe=>hp (by rw[e];exact c.Bd))).trans ((m7.old p (hx.wf.lt e) λq=>hp ?_).trans e),x⟩
   rw[List.mem_singleton.mp q];exact c.wA
  .rcases aB with(aB|⟨a,ha,x⟩)|aB
   .exact .inl (D.other S _ rfl rfl rfl aB)
   .exact .inr ⟨a,List.mem_append_left _ ha,x⟩
   .exact .inr ⟨(k,r),List.mem_append_right _ (List.mem_singleton.mpr rfl),aB⟩
set_option genInjectivity true
theorem Inv.a4(h:Inv G S bW b)(ag:b<=bP):Inv G S bW bP:=
 ⟨⟨h.nd,h.kd,h.an,h.tm,h.row,h.came,Nat.le_trans h.lca ag,Nat.le_trans h.lto ag⟩,h.ak⟩
theorem f6.keeps(h:f6 σ p)(e:s.cells p=σ.cells p):f6 s p:=by
 obtain⟨a,b,eF,h,x⟩:=h
 exact⟨a,b,eF,e.trans h,x⟩
theorem f6.lt(w:cz σ)(h:f6 σ p):p<σ.next:=by
 obtain⟨a,b,eF,h,x⟩:=h
 exact w.lt h
theorem k8.cut(h:k8 G s p c S bW b)(ag:b<=bP)(k:Keeps l σ s)(aG:∀d∈p::c.all,d<σ.next):k8 G (s.cut σ.next) p c S bW bP:=
 ⟨h.hw.cut λd aB=>aG d (.tail _ aB),h.pool.keeps (nW (aG p (.head _))),h.bc.a4 ag,k.cut.wf⟩
theorem KO{b R:Nat}(hp:p∉c.all)(h:k8 G σ p c S bW b)(hm:fv fs<=320)(ag:b<=700000)(aT:∀f∈fs,G.fu f)(gd:32<=R/\R<=51):
 a3 (oR [.ref p,.ref c.w,dy fs,.int R,.int bW] σ) λv s=>v=.bool true/\∃ck,k8 G s p c ck bW (b+51*320)/\Keeps (p::c.all) σ s/\(∀D:e0 G,D.live S\/(∃f∈fs,D.does f)->D.live ck)/\
  ck.to.countP (λf=>decide (f=.c0))=S.to.countP (λf=>decide (f=.c0))+fs.countP λf=>decide (f=.c0):=by
 refine X9 ?_
 obtain⟨rows,e,aI⟩:=JA gd.1 1000000 fs aT (by exact aC.UU hm)
 have aG:=aI.len
 have hf:=kP fs
 refine(abp h.wf e (λf hf=>(aT f hf).1) (by exact aC.IQ hm hf) (by exact aC.IQ hm aG)).fk λJC g=>?_
 have ab:k8 G JC p c S bW b:=⟨h.hw.gq g,h.pool.keeps (by rw[g.cells]),h.bc,g.wf h.wf⟩
 have RG:∀d∈p::c.all,d<σ.next:=List.forall_mem_cons.mpr ⟨h.pool.lt h.wf,h.hw.lt h.wf⟩
 have key:∃aU:St->Nat->fE->List (List Fr)->Prop,∀s n ck r,aU s n ck r↔(k8 G s p c ck bW (b+51*n)/\n+r.length<=320/\Keeps (p::c.all) σ s/\(∀D:e0 G,D.live S\/(∃f∈fs,D.does f)->D.live ck\/∃x∈r,∃f∈x,D.does f)/\
  ck.to.countP (λf=>decide (f=.c0))+(r.flatten).countP (λf=>decide (f=.c0))=S.to.countP (λf=>decide (f=.c0))+fs.countP (λf=>decide (f=.c0))/\∀x∈r,x≠[]/\hl x<=R/\∀f∈x,G.fu f):=⟨_,λ_ _ _ _=>Iff.rfl⟩
 obtain⟨aU,eS⟩:=key
 refine dq rfl ?_
 refine jB (src:=.bo (rows.map dy)) (enc:=dy) (xs:=rows) (A:=xk) (λr l s=>u3 λn ck ho eZ=>l=[some (.ref p),some (.ref c.w),some (dy fs),some (.int R),some (.int bW),some (.bo (rows.map dy)),eZ,ho]/\aU s n ck r) (λ_ _ _ _=>rfl) ?_ ?_
  ⟨0,S,_,_,rfl,(eS _ _ _ _).mpr ⟨ab,by exact aC.UW hm aG,g.keeps h.wf,λD aB=>aB.elim .inl λx=>.inr (aI.duty D x),by rw[aI.jk],aI.row⟩⟩
 .rintro r w2 _ s ⟨n,ck,ho,eZ,rfl,hs⟩
  obtain⟨p0,aV,k,i',c0,Ay⟩:=(eS _ _ _ _).mp hs
  obtain⟨h1,Ay⟩:=List.forall_mem_cons.mp Ay
  rw[List.length_cons] at aV
  refine⟨_,rfl,abc hp p0 (by exact aC.UX ag aV) h1 gd.2 λu dS nK wJ fX vo aad=>⟨n+1,nK,_,_,rfl,(eS _ _ _ _).mpr ⟨⟨wJ.hw,wJ.pool,wJ.bc.a4 (by exact aC.UY),wJ.wf⟩,by exact aC.UZ aV,k.trans fX,λD aB=>?_,?_,Ay⟩⟩⟩
  .rcases i' D aB with aB|⟨x,av,y⟩
   .exact .inl (vo D (.inl aB))
   .rcases List.mem_cons.mp av with rfl|av
    .exact .inl (vo D (.inr y))
    .exact .inr ⟨x,av,y⟩
  .rw[aad,List.countP_append,<-c0,List.flatten_cons,List.countP_append,Nat.add_assoc]
 .rintro _ u ⟨n,ck,ho,eZ,rfl,hs⟩
  obtain⟨p0,aV,k,i',c0,_⟩:=(eS _ _ _ _).mp hs
  rw[List.length_nil] at aV
  exact⟨rfl,ck,p0.cut (by exact aC.U0 aV) k RG,k.cut,(λD aB=>(i' D aB).elim id λh=>by obtain⟨_,h,_⟩:=h;cases h),c0⟩
end
set_option genInjectivity false
theorem YG:∀m:Fin 32,Builtin.Range.small 0 (m.val:Nat) 1=true/\(Builtin.Range.rangeSize 0 (m.val:Nat) 1).toNat=m.val:=by decide+kernel
noncomputable abbrev pd(i:Nat):J:=J.int (0+(i:Int)*1)
theorem th{m:Nat}{z:Int}(hz:z=m)(h:m<32):dO (.e8 0 z 1) s=some ((List.range m).map pd):=by
 subst hz
 obtain⟨h1,h2⟩:=YG ⟨m,h⟩
 show(if Builtin.Range.small 0 m 1=true then some (nv 0 m 1) else none)=_
 rw[if_pos h1]
 show some ((List.range (Builtin.Range.rangeSize 0 m 1).toNat).map _)=_
 rw[h2]
theorem T'{α:Type}{xs:List α}:∀{cB:List J},oM (λ_ v=>∃z:Int,v=.int z/\0<=z/\z<256) xs cB->∃l,hv cB=some l/\l.length=xs.length/\l.all (λi=>decide (0<=i/\i<256))=true:=by
 induction xs with
 |nil=>intro cB h;cases h;exact⟨[],rfl,rfl,rfl⟩
 |cons n l aX=>
  intro cB h
  cases h with
  |cons h1 h2=>
   obtain⟨z,rfl,hz⟩:=h1
   obtain⟨l',a8,a7,e3⟩:=aX h2
   exact⟨z::l',congrArg (Option.map λl=>z::l) a8,congrArg Nat.succ a7,by rw[List.all_cons,e3,decide_eq_true hz];rfl⟩
theorem Ji{m:Nat}{z:Int}(hz:z=m)(hm:m<32){E:TE}(h:∀(i:Int) (ku:J->St->Prop),(∀z:Int,0<=z/\z<256->ku (.int z) s)->E.p (some (.int i)::kR) s ku)(q:∀d:List UInt8,d.length=m->Q (.bytes d) s):
 oY (.e8 0 z 1) s λitems=>a3 (l1 (.e8 0 z 1) items (c2 0) fD.eN.d E.d items [] (none::kR) s) λvs t=>aJ (f9 [.bo vs] t) Q:=by
 subst hz
 have hi:=th rfl hm (s:=s)
 generalize gT:J.e8 0 m 1=S at hi⊢
 refine dq hi ?_
 refine la (src:=S) (xs:=List.range m) (enc:=pd) (λU t=>(∃z,U=z::kR)/\t=s) (λ_=>true) (λ_ v=>∃z:Int,v=.int z/\0<=z/\z<256) (λ_ _ h=>by rw[h.2];exact hi) ?_ ⟨⟨_,rfl⟩,rfl⟩ (by rw[List.length_nil,List.length_range];exact aC.U1 hm) ?_
 .rintro i _ _ _ ⟨⟨z,rfl⟩,rfl⟩
  exact⟨_,rfl,rfl,h _ _ λz hz=>⟨⟨z,rfl,hz⟩,⟨_,rfl⟩,rfl⟩⟩
 .rintro cB _ _ a ⟨_,rfl⟩
  rw[List.filter_eq_self.mpr (λ_ _=>rfl)] at a
  obtain⟨l,a8,a7,e3⟩:=T' a
  rw[List.length_range] at a7
  refine gY (m:=f9 [.bo ([]++cB)] _) (a:=.bytes (l.map λi=>i.toNat.toUInt8)) ?_ (q _ (by rw[List.length_map,a7]))
  show(hv cB).bind _=_
  rw[a8]
  exact if_pos ⟨by exact aC.U2 hm a7,e3⟩
noncomputable def oA:Nat->List (List UInt8)->List Fr
 |_,[]=>[]
 |i,d::r=>.st (4*(i:Int)) 0 d true::oA (i+1) r
theorem B4(d:List UInt8):∀(dK:List (List UInt8)) (i:Nat),oA i (dK++[d])=oA i dK++[.st (4*((i+dK.length:Nat):Int)) 0 d true]
 |[],_=>rfl
 |x::dK,i=>by
  rw[List.cons_append,oA,B4 d dK (i+1),oA,List.cons_append,List.length_cons,Nat.add_assoc,Nat.add_comm 1]
noncomputable abbrev z'(N:Int):List Fr:=[.dG 10,.dG 20,.fC,.c0,.ec,.c' N]
noncomputable def given(N:Int)(dK:List (List UInt8))(cp:List UInt8):List Fr:=z' N++oA 0 dK++[.d8 0 cp]
structure kq (σ s:St) (p:Nat) (fs:List Fr):Prop where
 c:s.cells σ.next=some (.list (fs.map Fr.v))
 k:Keeps [p] σ s
 ox:f6 s p
 ne:σ.next≠p
section
variable{σ s:St}{p:Nat}{fs:List Fr}
theorem kq.iO(h:kq σ s p fs):dT (.ref σ.next) s=true:=m6 h.c
theorem kq.u6(h:kq σ s p fs)(f:Fr)(a0:v=f.v)(aG:fs.length<=1000)(q:∀u,kq σ u p (fs++[f])->Q .none u):aJ (e2 [.ref σ.next,v] s) Q:=by
 subst a0
 refine uW h.c (by rw[List.length_map];exact aC.U4 aG) (q _ ⟨?_,h.k.aS (.inr (Nat.le_refl _)) (h.k.wf.lt h.c),h.ox.keeps (b' h.ne.symm),h.ne⟩)
 rw[List.map_append];exact gV
theorem kq.draw(h:kq σ s p fs)(hm:0<m)(q:∀(n:Nat) u,(n:Int)<m->kq σ u p fs->Q (.int n) u):a3 (gy [.ref p,.int m] s) Q:=by
 refine(ua h.k.wf h.ox hm).a4 ?_
 rintro _ u ⟨n,rfl,⟨ah,h1⟩,ji,c8⟩
 obtain⟨n,rfl⟩:=Int.eq_ofNat_of_zero_le ah
 exact q n u h1 ⟨(c8.old σ.next (h.k.wf.lt h.c) λq=>h.ne (List.mem_singleton.mp q)).trans h.c,h.k.trans c8,ji,h.ne⟩
end
theorem abb{σ s:St}{p i:Nat}(h:kq σ s p fs)(aG:fs.length<=1000)(q:∀u d jP,d.length<=30->kq σ u p (fs++[.st (4*(0+(i:Int)*1)) 0 d true])->Q .next [some (.ref p),some (.ref σ.next),some (pd i),jP] u):
 xj.p [some (.ref p),some (.ref σ.next),some (pd i),d4] s Q:=by
 refine h.draw (by decide) λn u aV h1=>?_
 refine gk h1.iO ?_
 refine Ji (m:=1+n) (z:=1+(n:Int)) (by exact aC.wN) (by exact aC.U5 aV) (λi ku bZ=>?_) λd aB=>?_
 .exact bZ _ ⟨Int.fmod_nonneg_of_pos _ (by decide),Int.fmod_lt_of_pos _ (by decide)⟩
 .exact h1.u6 (.st (4*(0+(i:Int)*1)) 0 d true) rfl aG λv h2=>q v d _ (by exact aC.U6 aV aB) h2
theorem aba{σ:St}{p:Nat}(w:cz σ)(hp:f6 σ p):a3 (rX [.ref p] σ) λv s=>∃N dK cp,v=dy (given N dK cp)/\(1<=N/\N<=3)/\(dK.length=1\/dK.length=2)/\(∀d∈dK,d.length<=30)/\cp.length<=20/\f6 s p/\Keeps [p] σ s:=by
 have df:=hp.lt w
 have ah:kq σ (σ.new (.list (([.dG 10,.dG 20,.fC,.c0]:List Fr).map Fr.v))) p [.dG 10,.dG 20,.fC,.c0]:=⟨hO,(Keeps.refl w).new,hp.keeps (hA (Nat.ne_of_lt df)),Nat.ne_of_gt df⟩
 refine X8 ?_
 refine gk ah.iO ?_
 refine ah.u6 .ec rfl (Nat.le_add_left 4 996) λkk h1=>?_
 refine gk h1.iO ?_
 refine h1.draw (by decide) λn p9 aV h2=>?_
 refine h2.u6 (.c' (1+n)) rfl (Nat.le_add_left 5 995) λkW aQ=>?_
 refine aQ.draw (by decide) λk JD hk h4=>?_
 refine dq (th (m:=1+k) (z:=1+(k:Int)) (by exact aC.wN) (by exact aC.IS hk)) ?_
 refine jB (src:=.e8 0 (1+(k:Int)) 1) (enc:=pd) (xs:=List.range (1+k)) (A:=xj) (λr l s=>qw λdK dR d4=>l=[some (.ref p),some (.ref σ.next),dR,d4]/\kq σ s p (z' (1+n)++oA 0 dK)/\(∀d∈dK,d.length<=30)/\dK.length<=1+k/\(oA 0 dK).length=dK.length/\r=(List.range (1+k)).drop dK.length) (λ_ _ _ _=>th (by exact aC.wN) (by exact aC.IS hk)) ?_ ?_
  ⟨[],_,_,rfl,h4,List.forall_mem_nil _,Nat.zero_le _,rfl,rfl⟩
 .rintro i r _ s ⟨dK,dR,d4,rfl,g,aB,aG,gf,aI⟩
  have hi:dK.length<(List.range (1+k)).length:=by
   refine Nat.lt_of_not_le λq=>?_
   rw[List.drop_eq_nil_of_le q] at aI;cases aI
  rw[List.drop_eq_getElem_cons hi,List.getElem_range] at aI
  obtain⟨rfl,rfl⟩:=List.cons.inj aI
  rw[List.length_range] at hi
  refine⟨_,rfl,abb g (by rw[List.length_append,gf];exact(by exact aC.U7 hk hi:6+dK.length<=1000)) λu d jP QC g2=>⟨dK++[d],_,_,rfl,?_,λx av=>(List.mem_append.mp av).elim (aB x) λq=>by rw[List.mem_singleton.mp q];exact QC,?_,?_,?_⟩⟩
  .rw[B4,<-List.append_assoc,Nat.zero_add]
   rw[Int.mul_one,Int.zero_add] at g2
   exact g2
  .rw[List.length_append];exact hi
  .rw[B4,List.length_append,gf,List.length_append];rfl
  .rw[List.length_append];rfl
 .rintro _ s ⟨dK,dR,d4,rfl,g,aB,aG,gf,aI⟩
  have de:=List.drop_eq_nil_iff.mp aI.symm
  rw[List.length_range] at de
  refine gk g.iO ?_
  refine g.draw (by decide) λm BS hm g5=>?_
  refine Ji (m:=1+m) (z:=1+(m:Int)) (by exact aC.wN) (by exact aC.U8 hm) (λi ku bZ=>bZ _ ⟨Int.fmod_nonneg_of_pos _ (by decide),Int.fmod_lt_of_pos _ (by decide)⟩) λcp sR=>?_
  refine g5.u6 (.d8 0 cp) rfl (by rw[List.length_append,gf];exact(by exact aC.U9 hk aG:6+dK.length<=1000)) λu g6=>?_
  exact⟨1+n,dK,cp,vC (Nat.le_refl _) g6.c,by exact aC.U' aV,by exact aC.Va hk aG de,aB,by exact aC.Vc hm sR,g6.ox.keeps (nW df),g6.k.cut⟩
section
variable{G:gj}
noncomputable def k6(al:i2)(pre:List Str):Option (Int×Str)->Prop
 |none=>∀k∈pre,tm al k=none
 |some (t,k)=>∃bA a',pre=bA++k::a'/\tm al k=some t/\(∀x∈bA,∀d3,tm al x=some d3->t<d3)/\∀x∈a',∀d3,tm al x=some d3->t<=d3
theorem k6.step(h:k6 al pre acc):k6 al (pre++[x]) (kY al acc x):=by
 unfold kY
 cases e:tm al x with
 |none=>
  cases acc with
  |none=>exactλk hk=>(List.mem_append.mp hk).elim (h k) λq=>by rw[List.mem_singleton.mp q];exact e
  |some a=>
   obtain⟨bA,a',rfl,h1,h2,aQ⟩:=h
   refine⟨bA,a'++[x],List.append_assoc ..,h1,h2,λy bB d3 ht=>(List.mem_append.mp bB).elim (λq=>aQ y q d3 ht) λq=>?_⟩
   rw[List.mem_singleton.mp q,e] at ht;cases ht
 |some t=>
  cases acc with
  |none=>
   refine⟨pre,[],rfl,e,λy bB d3 ht=>?_,List.forall_mem_nil _⟩
   rw[h y bB] at ht;cases ht
  |some a=>
   obtain⟨bA,a',rfl,h1,h2,aQ⟩:=h
   by_cases q:t<a.1
   .refine(show k6 al _ (if t<a.1 then some (t,x) else some a) from ?_)
    rw[if_pos q]
    refine⟨bA++a.2::a',[],rfl,e,λy bB d3 ht=>?_,List.forall_mem_nil _⟩
    rcases List.mem_append.mp bB with bB|bB
    .exact Int.lt_trans q (h2 y bB d3 ht)
    .rcases List.mem_cons.mp bB with rfl|bB
     .rw[h1] at ht;cases ht;exact q
     .exact Int.lt_of_lt_of_le q (aQ y bB d3 ht)
   .refine(show k6 al _ (if t<a.1 then some (t,x) else some a) from ?_)
    rw[if_neg q]
    refine⟨bA,a'++[x],List.append_assoc ..,h1,h2,λy bB d3 ht=>(List.mem_append.mp bB).elim (λq=>aQ y q d3 ht) λp=>?_⟩
    rw[List.mem_singleton.mp p,e] at ht;cases ht;exact Int.not_lt.mp q
theorem k6.fold:∀{l pre:List Str} {acc:Option (Int×Str)},k6 al pre acc->k6 al (pre++l) (l.foldl (kY al) acc)
 |[],pre,_,h=>by rw[List.append_nil];exact h
 |x::l,pre,acc,h=>by
  have:=k6.fold (l:=l) (h.step (x:=x))
  rw[List.append_assoc] at this;exact this
theorem PA(hk:∀a∈al,a.1∈eV)(h:eV.foldl (kY al) none=some (t,k)):(∀x d3,tm al x=some d3->t<=d3)/\(k,t)∈al/\∃ks,eV.filter (jz al t)=k::ks:=by
 have b:k6 al ([]++eV) (eV.foldl (kY al) none):=k6.fold (pre:=[]) (acc:=none) (l:=eV) (List.forall_mem_nil _)
 rw[h,List.nil_append] at b
 obtain⟨bA,a',e,h1,h2,aQ⟩:=b
 refine⟨λx d3 ht=>?_,B7 h1,(a'.filter (jz al t)),?_⟩
 .have av:=hk _ (B7 ht)
  rw[e] at av
  rcases List.mem_append.mp av with av|av
  .exact Int.le_of_lt (h2 x av d3 ht)
  .rcases List.mem_cons.mp av with rfl|av
   .rw[h1] at ht;cases ht;exact Int.le_refl _
   .exact aQ x av d3 ht
 .rw[e,List.filter_append,List.filter_cons_of_pos (by unfold jz;rw[h1];exact decide_eq_true (Int.le_refl _)),List.filter_eq_nil_iff.mpr,List.nil_append]
  intro x av
  unfold jz
  cases e:tm al x with
  |none=>exact Bool.false_ne_true
  |some d3=>exactλq=>absurd (h2 x av d3 e) (Int.not_lt.mpr (of_decide_eq_true q))
theorem Ki(f:Fr):cT 8 f.v Fr.c0.v=some (decide (f=.c0)):=by cases f<;>rfl
theorem aan(f:Fr):cT 8 f.v Fr.ec.v=some (decide (f=.ec)):=by cases f<;>rfl
theorem aap(f:Fr):cT 8 f.v Fr.fC.v=some (decide (f=.fC)):=by cases f<;>rfl
theorem aao{f:Fr}(hf:f.data=none):cT 8 f.v (Fr.c' N).v=some (decide (f=.c' N)):=by
 cases f with
 |c' m=>
  by_cases h:m=N
  .subst h
   rw[decide_eq_true rfl]
   show some (_&&((m==m)&&_)&&_)=_
   rw[beq_self_eq_true m];rfl
  .rw[decide_eq_false λe=>h (Fr.c'.inj e)]
   show some (_&&((m==N)&&_)&&_)=_
   rw[beq_eq_false_iff_ne.mpr h];rfl
 |st=>cases hf
 |d8=>cases hf
 |_=>rfl
theorem x7:∀{fs:List Fr},(∀f∈fs,cT 8 f.v x=some (decide (f=g)))->jZ x (fs.map Fr.v)=some (decide (g∈fs))
 |[],_=>(congrArg some (decide_eq_false (List.not_mem_nil))).symm
 |f::fs,h=>by
  obtain⟨h1,h⟩:=List.forall_mem_cons.mp h
  have aX:=x7 h
  show((cT 8 f.v x).bind λa=>(jZ x (fs.map Fr.v)).map λb=>a||b)=_
  rw[h1,aX]
  show some (decide (f=g)||decide (g∈fs))=_
  rw[<-Bool.decide_or]
  exact congrArg some (decide_eq_decide.mpr (by rw[List.mem_cons,eq_comm]))
theorem Et:∀{fs:List Fr},(∀f∈fs,cT 8 f.v x=some (decide (f=g)))->nT x (fs.map Fr.v)=some (fs.countP λf=>decide (f=g))
 |[],_=>rfl
 |f::fs,h=>by
  obtain⟨h1,h⟩:=List.forall_mem_cons.mp h
  have aX:=Et h
  show((cT 8 f.v x).bind λa=>(nT x (fs.map Fr.v)).map λn=>if a=true then n+1 else n)=_
  rw[h1,aX,List.countP_cons]
  show some (if decide (f=g)=true then _ else _)=_
  split<;>rfl
theorem AL(h:∀f∈fs,cT 8 f.v g.v=some (decide (f=g))):mc g.v (dy fs) s=some (decide (g∈fs)):=x7 h
theorem qr.To(h:qr fs ns)(hm:∀f∈fs,∀n,f=.dG n->n=33):ns.filter (λf=>f.hM==("max_data":Str))=[]\/ns.filter (λf=>f.hM==("max_data":Str))=[.dG 33]:=by
 have e:∀f∈ns.filter (λf=>f.hM==("max_data":Str)),f=.dG 33:=λf hf=>by
  obtain⟨h1,h2⟩:=List.mem_filter.mp hf
  cases f with
  |dG n=>rw[hm _ (h.sub _ h1) n rfl]
  |_=>cases h2
 have nd:((ns.filter (λf=>f.hM==("max_data":Str))).map Fr.key).Nodup:=(List.Sublist.map _ List.filter_sublist).nodup h.nd
 revert e nd
 generalize ns.filter (λf=>f.hM==("max_data":Str))=l
 intro e nd
 match l with
 |[]=>exact .inl rfl
 |[f]=>exact .inr (by rw[e f (.head _)])
 |f::g::r=>
  rw[e f (.head _),e g (.tail _ (.head _)),List.map_cons,List.map_cons,List.nodup_cons] at nd
  exact absurd (.head _) nd.1
theorem qa(h:G.fu f)(e:hR dn bl f=some g):G.fu g/\g.data=none/\(∀n,g=.dG n->n=33)/\g≠.c0/\(g=.ec->bl=true)/\(g=.fC->dn=false):=by
 cases f with
 |dG n=>cases e;exact⟨⟨⟨by decide,by decide⟩,trivial⟩,rfl,λn e=>by cases e;rfl,nofun,nofun,nofun⟩
 |fC=>
  cases dn with
  |true=>cases e
  |false=>cases e;exact⟨⟨trivial,trivial⟩,rfl,nofun,nofun,nofun,λ_=>rfl⟩
 |ec=>
  cases bl with
  |true=>cases e;exact⟨⟨trivial,trivial⟩,rfl,nofun,nofun,λ_=>rfl,nofun⟩
  |false=>cases e
 |c' n=>cases e;exact⟨h,rfl,nofun,nofun,nofun,nofun⟩
 |_=>cases e
noncomputable abbrev AU(N:Int):List (List bp):=[Fr.key (.dG 33),Fr.key .fC,Fr.key .ec,Fr.key (.c' N)]
theorem J6(h:G.fu f)(e:hR dn bl f=some g):g.key∈AU G.N:=by
 cases f with
 |dG n=>cases e;exact .head _
 |fC=>
  cases dn with
  |true=>cases e
  |false=>cases e;exact .tail _ (.head _)
 |ec=>
  cases bl with
  |true=>cases e;exact .tail _ (.tail _ (.head _))
  |false=>cases e
 |c' n=>cases e;rw[show n=G.N from h.2];exact .tail _ (.tail _ (.tail _ (.head _)))
 |_=>cases e
structure K1 (G:gj) (dn bl:Bool) (e6 anew:List Fr):Prop where
 fu:∀f∈anew,G.fu f
 dG:anew.filter (λf=>f.hM==("max_data":Str))=[]\/anew.filter (λf=>f.hM==("max_data":Str))=[.dG 33]
 c0:Fr.c0∉anew
 ec:Fr.ec∈anew->bl=true
 fC:Fr.fC∈anew->dn=false
 duty:∀D:e0 G,(∃f∈e6,D.does f)->∃f∈anew,D.does f
 fv:fv anew<=fv e6+4
theorem HZ(p:Fr->Bool):∀fs:List Fr,fv (fs.filter p)<=fv fs
 |[]=>Nat.le_refl _
 |f::fs=>by
  have:=HZ p fs
  rw[List.filter_cons]
  split
  .rw[oo,oo];exact aC.Vd this
  .rw[oo];exact aC.Ve this
theorem H2:∀{fs:List Fr},(∀f∈fs,f.data=none)->fv fs=fs.length
 |[],_=>rfl
 |f::fs,h=>by
  obtain⟨h1,h⟩:=List.forall_mem_cons.mp h
  rw[oo,H2 h,List.length_cons,Nat.add_comm]
  unfold Fr.eA;rw[h1]
theorem again(aT:∀f∈e6,G.fu f)(h:qr (e6.filterMap (hR dn bl)) ns):K1 G dn bl e6 (ns++e6.filter λf=>f.data.isSome):=by
 have t:∀g∈ns,∃f,G.fu f/\hR dn bl f=some g:=λg hm=>by
  obtain⟨f,hf,e⟩:=List.mem_filterMap.mp (h.sub g hm)
  exact⟨f,aT f hf,e⟩
 have plain:∀g∈ns,g.data=none:=λg hm=>by obtain⟨f,a,e⟩:=t g hm;exact(qa a e).2.1
 have held:∀g∈e6.filter (λf=>f.data.isSome),G.fu g/\g.data.isSome=true:=λg hm=>⟨aT g (List.mem_filter.mp hm).1,(List.mem_filter.mp hm).2⟩
 have no:∀g,g.data=none->g∈ns++e6.filter (λf=>f.data.isSome)->g∈ns:=λg aB hm=>(List.mem_append.mp hm).elim id λq=>by
  have:=(held g q).2
  rw[aB] at this;cases this
 refine⟨λg hm=>(List.mem_append.mp hm).elim (λq=>?_) λq=>(held g q).1,?_,λhm=>?_,λhm=>?_,λhm=>?_,λD ⟨f,hf,d⟩=>?_,?_⟩
 .obtain⟨f,a,e⟩:=t g q
  exact(qa a e).1
 .have gB:(e6.filter λf=>f.data.isSome).filter (λf=>f.hM==("max_data":Str))=[]:=List.filter_eq_nil_iff.mpr λg hm q=>by
   have:=(held g hm).2
   cases g<;>first|exact Bool.false_ne_true this|exact Bool.false_ne_true q
  rw[List.filter_append,gB,List.append_nil]
  refine h.To λf hf n e=>?_
  obtain⟨x,av,cZ⟩:=List.mem_filterMap.mp hf
  exact(qa (aT x av) cZ).2.2.1 n e
 .obtain⟨f,a,e⟩:=t _ (no _ rfl hm)
  exact(qa a e).2.2.2.1 rfl
 .obtain⟨f,a,e⟩:=t _ (no _ rfl hm)
  exact(qa a e).2.2.2.2.1 rfl
 .obtain⟨f,a,e⟩:=t _ (no _ rfl hm)
  exact(qa a e).2.2.2.2.2 rfl
 .rcases D.told f d with q|q
  .exact⟨f,List.mem_append_right _ (List.mem_filter.mpr ⟨hf,q⟩),d⟩
  .obtain⟨g,e,k⟩:=q dn bl
   obtain⟨x,av,sA⟩:=List.mem_map.mp (h.all g (List.mem_filterMap.mpr ⟨f,hf,e⟩))
   obtain⟨y,a,a7⟩:=t x av
   exact⟨x,List.mem_append_left _ av,k x (qa a a7).1 sA⟩
 .have h1:=HZ (λf=>f.data.isSome) e6
  have h2:=rm h.nd (m:=AU G.N) λk hk=>by
   obtain⟨x,av,rfl⟩:=List.mem_map.mp hk
   obtain⟨y,a,a7⟩:=t x av
   exact J6 a a7
  rw[List.length_map] at h2
  have aQ:ns.length<=4:=h2
  rw[wD,H2 plain];exact aC.Vf h1 aQ
theorem TN{α bR:Type}{a b:α×bR}{l:List (α×bR)}(nd:(l.map (·.1)).Nodup)(ha:a∈l)(ag:b∈l)(e:a.1=b.1):a=b:=by
 obtain⟨i,hi,rfl⟩:=List.mem_iff_getElem.mp ha
 obtain⟨ai,cD,rfl⟩:=List.mem_iff_getElem.mp ag
 have:i=ai:=(List.getElem_inj (h₀:=by rw[List.length_map];exact hi) (h₁:=by rw[List.length_map];exact cD) nd).mp (by rw[List.getElem_map,List.getElem_map];exact e)
 subst this;rfl
theorem b4.TB(h:b4 σ c S)(w:cz σ)(l:List (Str×List Fr)):b4 ((σ.new (.list (l.map j4))).aS c.w (.cb (qe {c with fl:=σ.next}))) {c with fl:=σ.next} {S with fl:=l}:=by
 have lt:=h.lt w
 have nd:=h.nd
 have old:∀{d x},σ.cells d=some x->d≠c.w->((σ.new (.list (l.map j4))).aS c.w (.cb (qe {c with fl:=σ.next}))).cells d=some x:=λe aB=>(b' aB).trans ((hA (Nat.ne_of_lt (w.lt e))).trans e)
 unfold hq.all at nd
 obtain⟨ae,aK⟩:=List.nodup_cons.mp nd
 obtain⟨bx,dH⟩:=List.nodup_cons.mp aK
 have hw:∀d∈[c.cU,c.to,c.oc,c.en,c.al],d≠c.w:=λd aB e=>ae (e▸.tail _ aB)
 refine⟨?_,?_⟩
 .refine List.forall_mem_cons.mpr ⟨gV,List.forall_mem_cons.mpr ⟨(b' (Nat.ne_of_gt (lt _ c.wB))).trans hO,List.forall_mem_cons.mpr ⟨old h.cU (hw _ (.head _)),List.forall_mem_cons.mpr ⟨old h.to (hw _ (.tail _ (.head _))),List.forall_mem_cons.mpr ⟨old h.oc (hw _ (.tail _ (.tail _ (.head _)))),
   List.forall_mem_cons.mpr ⟨old h.en (hw _ (.tail _ (.tail _ (.tail _ (.head _))))),List.forall_mem_cons.mpr ⟨old h.al (hw _ (.tail _ (.tail _ (.tail _ (.tail _ (.head _)))))),List.forall_mem_nil _⟩⟩⟩⟩⟩⟩⟩
 .refine List.nodup_cons.mpr ⟨λq=>?_,List.nodup_cons.mpr ⟨λq=>?_,dH⟩⟩
  .rcases List.mem_cons.mp q with e|q
   .exact Nat.ne_of_lt (lt _ c.wB) e
   .exact ae (.tail _ q)
  .exact Nat.lt_irrefl _ (lt σ.next (.tail _ (.tail _ q)))
structure se (G:gj) (s:St) (p w aU cp dd:Nat) (dn bl:Bool) (mC S:fE) (ks:List Str) (e6:List Fr) (bW:Int) (B:Nat):Prop where
 hw:∃c:hq,c.w=w/\b4 s c S/\∀d∈[p,cp,dd,aU],d∉c.all
 pool:f6 s p
 wf:cz s
 bse:∃b,Bse G S bW b/\b+51*ks.length<=B
 ak:∀k,k∈S.al.map (·.1)↔k∈S.fl.map (·.1)/\k∉ks
 lo:s.cells aU=some (.list (e6.map Fr.v))
 lg:∀f∈e6,G.fu f
 lm:fv e6+51*ks.length<=306
 nk:ks.Nodup
 kf:∀k∈ks,k∈S.fl.map (·.1)
 dce:s.cells cp=some (.b2 (qJ dn))
 bce:s.cells dd=some (.b2 (qD bl))
 ne:cp≠p/\dd≠p/\aU≠p/\cp≠aU/\dd≠aU
 duty:∀D:e0 G,D.live mC->D.live S\/∃f∈e6,D.does f
 to:S.to=mC.to
theorem AP(h:s.cells c=some (.list vs))(q:P vs):oY (.ref c) s P:=by
 refine dq ?_ q
 unfold dO;dsimp only;rw[h]
theorem nq(h:E.p U s λv s=>R.p (U.set i (some v)) s Q):(b5.aj (b5.b6 i E) R).p U s Q:=h
theorem p7(h:A.p U s (b5.BV R Q)):(b5.aj A R).p U s Q:=h
theorem XG(h:b4 s c S)(c4:S.fl.length<=6)(aG:∃a b,ek [none,some 13] kR=[a,b]/\b=some (.str k))(hw:kR[7]? =some (some w))(y9:w=.ref c.w)(hk:k∈S.fl.map (·.1))
 (q:∀a∈S.fl,a.1=k->Q (dy a.2) s):
 (TE.af a6 (.fq (.af a6 (.C 7) (.I (.str "flying"))) (ek [none,some 13]) (c2 0) (.boolOf (.af cm (.af a6 (.C 0) (.I (.int 0))) (.C 1))) (.af a6 (.C 0) (.I (.int 1)))) (.I (.int 0))).p kR s Q:=by
 subst y9
 obtain⟨hI,_,pb,rfl⟩:=aG
 show(match kR[7]? with|some (some v)=>_|_=>False)
 rw[hw]
 refine ef h.s9 ?_
 refine AP h.fl ?_
 rw[pb]
 refine la (enc:=j4) (xs:=S.fl) (λU t=>(∃z,U=[z,some (.str k)])/\t=s) (λa=>a.1==k) (λa v=>v=dy a.2) (λ_ t ht=>by rw[ht.2];unfold dO;dsimp only;rw[h.fl]) ?_ ⟨⟨_,rfl⟩,rfl⟩ (by rw[List.length_nil];exact aC.BB c4) ?_
 .rintro a ha _ t ⟨⟨z,rfl⟩,ht⟩
  refine⟨_,rfl,rfl,?_⟩
  have i:(∃z,[some (j4 a),some (.str k)]=[z,some (J.str k)])/\t=s:=⟨⟨_,rfl⟩,ht⟩
  exact dv.of (A:=True) (B:=True) (by cases(a.1==k)<;>trivial) (λ_=>⟨rfl,i⟩) λ_=>i
 .rintro cB _ _ a ⟨_,rfl⟩
  rw[mF a]
  obtain⟨x,av,mM⟩:=List.mem_map.mp hk
  have je:x∈S.fl.filter λa=>a.1==k:=List.mem_filter.mpr ⟨av,by rw[mM];exact beq_self_eq_true k⟩
  cases hf:S.fl.filter λa=>a.1==k with
  |nil=>rw[hf] at je;cases je
  |cons y r=>
   have bB:y∈S.fl.filter λa=>a.1==k:=by rw[hf];exact .head _
   obtain⟨eA,fB⟩:=List.mem_filter.mp bB
   exact ef (He (vs:=dy y.2::r.map λa=>dy a.2) (i:=0) (by decide) (by decide) rfl) (q y eA (beq_iff_eq.mp fB))
theorem XI(h:b4 s c S)(wf:cz s)(c4:S.fl.length<=6)(aG:∃a b,ek [none,some 13] kR=[a,b]/\b=some (.str k))(hw:kR[7]? =some (some w))(y9:w=.ref c.w)
 (q:∀u,b4 u {c with fl:=s.next} {S with fl:=S.fl.filter λa=> !(a.1==k)}->Keeps [c.w] s u->s.next<u.next->Q .next kR u):
 (b5.gW (.nV (.af a6 (.C 7) (.I (.str "flying"))) (ek [none,some 13]) (c2 0) (.boolOf (.af fS (.af a6 (.C 0) (.I (.int 0))) (.C 1))) (.C 0)) (.C 7) (.I (.str "flying"))).p kR s Q:=by
 subst y9
 obtain⟨hI,_,pb,rfl⟩:=aG
 show(match kR[7]? with|some (some v)=>_|_=>False)
 rw[hw]
 refine ef h.s9 ?_
 refine AP h.fl ?_
 rw[pb]
 refine la (enc:=j4) (xs:=S.fl) (λU t=>(∃z,U=[z,some (.str k)])/\t=s) (λa=> !(a.1==k)) (λa v=>v=j4 a) (λ_ t ht=>by rw[ht.2];unfold dO;dsimp only;rw[h.fl]) ?_ ⟨⟨_,rfl⟩,rfl⟩ (by rw[List.length_nil];exact aC.BB c4) ?_
 .rintro a ha _ t ⟨⟨z,rfl⟩,ht⟩
  refine⟨_,rfl,rfl,?_⟩
  have i:(∃z,[some (j4 a),some (.str k)]=[z,some (J.str k)])/\t=s:=⟨⟨_,rfl⟩,ht⟩
  exact dv.of (A:=True) (B:=True) (by cases(!(a.1==k))<;>trivial) (λ_=>⟨rfl,i⟩) λ_=>i
 .rintro cB _ _ a ⟨_,rfl⟩
  rw[mF a]
  rename_i t _
  have h2:=h.TB wf (S.fl.filter λa=> !(a.1==k))
  have df:=h.lt wf _ c.wB
  show(match kR[7]? with|some (some v)=>_|_=>False)
  rw[hw]
  have lF:(t.new (.list ([]++(S.fl.filter λa=> !(a.1==k)).map j4))).cells c.w=some (.cb (qe c)):=(hA (Nat.ne_of_lt df)).trans h.w
  refine iL (wZ (a:=.str "flying") (v:=.ref t.next) lF (show 6<=1000000 by decide)) (q _ h2 ((Keeps.refl wf).new.aS (.inl (.head _)) (Nat.lt_succ_of_lt df)) (Nat.lt_succ_self _))
set_option genInjectivity true
theorem aa9
 (h:se G s p w aU cp dd dn bl mC S (k::ks) e6 bW B)(kF:B<=700000)
 (q:∀u ck Tb mv,se G u p w aU cp dd dn bl mC ck ks Tb bW B->Q .next [eO,some (.ref p),dR,d4,fc,eY,eZ,some (.ref w),gX,some (.int turn),jN,jO,some (.ref aU),some (.str k),mv,k0,k1,k2] u):
 xm.p [eO,some (.ref p),dR,d4,fc,eY,eZ,some (.ref w),gX,some (.int turn),jN,jO,some (.ref aU),some (.str k),mu,k0,k1,k2] s Q:=by
 obtain⟨⟨c,rfl,hw,aB⟩,pool,wf,⟨b,bse,ag⟩,ak,lo,lg,lm,nk,kf,dce,bce,⟨ae,aK,bx,dH,fw⟩,duty,to⟩:=h
 rw[List.length_cons] at ag lm
 obtain⟨TL,nk⟩:=List.nodup_cons.mp nk
 obtain⟨wd,kf⟩:=List.forall_mem_cons.mp kf
 have c4:=bse.vA
 refine nq ?_
 refine XG (w:=.ref c.w) hw c4 ?_ ?_ rfl wd λhI Gx sA=>?_
 .exact⟨_,_,rfl,rfl⟩
 .rfl
 refine p7 ?_
 refine XI (k:=k) (w:=.ref c.w) hw wf c4 ?_ ?_ rfl λt ht pP _=>?_
 .exact⟨_,_,rfl,rfl⟩
 .rfl
 obtain⟨pG,qZ⟩:=bse.row hI Gx
 have hm:=pZ hI.2
 have de:=kP hI.2
 have oe:=kP e6
 have ee:∀d∈[p,cp,dd,aU],d∉({c with fl:=s.next}:hq).all:=λd hm q=>by
  have a8:=aB d hm
  have all:∀d∈[p,cp,dd,aU],d<s.next:=List.forall_mem_cons.mpr ⟨pool.lt wf,List.forall_mem_cons.mpr ⟨wf.lt dce,List.forall_mem_cons.mpr ⟨wf.lt bce,List.forall_mem_cons.mpr ⟨wf.lt lo,List.forall_mem_nil _⟩⟩⟩⟩
  have a7:=all d hm
  rcases List.mem_cons.mp q with e|q
  .exact a8 (by rw[e];exact .head _)
  .rcases List.mem_cons.mp q with e|q
   .exact Nat.ne_of_lt a7 e
   .exact a8 (.tail _ (.tail _ q))
 have b7:∀{d x},d∈[p,cp,dd,aU]->s.cells d=some x->t.cells d=some x:=λhm e=>(pP.old _ (wf.lt e) λq=>aB _ hm (by rw[List.mem_singleton.mp q];exact c.wB)).trans e
 have mp:p∈[p,cp,dd,aU]:=.head _
 have dG:cp∈[p,cp,dd,aU]:=.tail _ (.head _)
 have nf:dd∈[p,cp,dd,aU]:=.tail _ (.tail _ (.head _))
 have Ti:aU∈[p,cp,dd,aU]:=.tail _ (.tail _ (.tail _ (.head _)))
 have Jo:f6 t p:=by obtain⟨x,y,z,e,r⟩:=pool;exact⟨x,y,z,b7 mp e,r⟩
 generalize aw:({c with fl:=s.next}:hq)=cc at ht ee
 have sP:cc.w=c.w:=by rw[<-aw]
 rw[<-sP]
 generalize gT:({S with fl:=S.fl.filter λa=> !(a.1==k)}:fE)=ik at ht
 have i8:Bse G ik bW b:=by
  rw[<-gT]
  exact⟨(List.Sublist.map _ List.filter_sublist).nodup bse.nd,λa ha=>bse.kd a (List.mem_filter.mp ha).1,bse.an,bse.tm,λa ha=>bse.row a (List.mem_filter.mp ha).1,⟨bse.came.oc,bse.came.en,bse.came.cU⟩,bse.lca,bse.lto⟩
 have Bf:∀x,x∈ik.fl.map (·.1)↔x∈S.fl.map (·.1)/\x≠k:=λx=>by
  rw[<-gT]
  constructor
  .intro av
   obtain⟨a,ha,rfl⟩:=List.mem_map.mp av
   obtain⟨eA,fB⟩:=List.mem_filter.mp ha
   exact⟨List.mem_map.mpr ⟨a,eA,rfl⟩,λe=>by rw[e,beq_self_eq_true] at fB;cases fB⟩
  .rintro⟨av,e⟩
   obtain⟨a,ha,rfl⟩:=List.mem_map.mp av
   exact List.mem_map.mpr ⟨a,List.mem_filter.mpr ⟨ha,by rw[beq_eq_false_iff_ne.mpr e];rfl⟩,rfl⟩
 have DO:∀x,x∈ik.al.map (·.1)↔x∈ik.fl.map (·.1)/\x∉ks:=λx=>by
  rw[Bf,show ik.al=S.al by rw[<-gT],ak,List.mem_cons,not_or,and_assoc]
 have wd:∀x∈ks,x∈ik.fl.map (·.1):=λx av=>(Bf x).mpr ⟨kf x av,λe=>TL (e▸av)⟩
 have EW:∀D:e0 G,D.live mC->(D.live ik\/∃f∈e6,D.does f)\/∃f∈hI.2,D.does f:=λD ao=>by
  rcases duty D ao with(x|⟨a,ha,x⟩)|x
  .exact .inl (.inl (.inl (D.other S ik (by rw[<-gT]) (by rw[<-gT]) (by rw[<-gT]) x)))
  .by_cases e:a.1=k
   .rw[TN bse.nd ha Gx (e.trans sA.symm)] at x
    exact .inr x
   .exact .inl (.inl (.inr ⟨a,by rw[<-gT];exact List.mem_filter.mpr ⟨ha,by rw[beq_eq_false_iff_ne.mpr e];rfl⟩,x⟩))
  .exact .inl (.inr x)
 have Ka:ik.to=mC.to:=by rw[<-gT];exact to
 clear gT Bf duty ak kf to
 have ext:∀u,b4 u cc ik->cz u->f6 u p->(∀{d x},d∈[cp,dd,aU]->s.cells d=some x->u.cells d=some x)->
  dv (dT (.ref aU) u) (aJ (mN [.ref aU,dy hI.2] u) λ_ v=>Q .next [eO,some (.ref p),dR,d4,fc,eY,eZ,some (.ref cc.w),gX,some (.int turn),jN,jO,some (.ref aU),some (.str k),some (dy hI.2),k0,k1,k2] v) False:=λu bI jt mi iT=>by
  have Bc:=iT (.tail _ (.tail _ (.head _))) lo
  refine gk (m6 Bc) ?_
  refine Dz Bc (by rw[List.length_map,List.length_map];exact aC.Vg lm qZ hm de oe) ?_
  have eS:∀{d},d≠aU->(u.aS aU (.list (e6.map Fr.v++hI.2.map Fr.v))).cells d=u.cells d:=b'
  rw[sP]
  refine q _ ik (e6++hI.2) _ ⟨⟨cc,sP,bI.rq λd hm=>eS λe=>ee aU Ti (e▸hm),ee⟩,mi.keeps (eS bx.symm),jt.aS (jt.lt Bc),⟨b,i8,by exact aC.Vh ag⟩,DO,by rw[List.map_append];exact gV,λf hf=>(List.mem_append.mp hf).elim (lg f) (pG f),by rw[wD];exact aC.Vi lm qZ hm,nk,wd,
   (eS dH).trans (iT (.head _) dce),(eS fw).trans (iT (.tail _ (.head _)) bce),⟨ae,aK,bx,dH,fw⟩,λD ao=>?_,Ka⟩
  rcases EW D ao with(x|⟨f,hf,x⟩)|⟨f,hf,x⟩
  .exact .inl x
  .exact .inr ⟨f,List.mem_append_left _ hf,x⟩
  .exact .inr ⟨f,List.mem_append_right _ hf,x⟩
 have come:∀u,b4 u cc ik->cz u->f6 u p->(∀{d x},d∈[cp,dd,aU]->s.cells d=some x->u.cells d=some x)->
  a3 (k7 [.ref cc.w,dy hI.2] u) λ_ v=>Q .next [eO,some (.ref p),dR,d4,fc,eY,eZ,some (.ref cc.w),gX,some (.int turn),jN,jO,some (.ref aU),some (.str k),some (dy hI.2),k0,k1,k2] v:=λu bI jt mi iT=>by
  refine(Cj (fs:=hI.2) jt bI (λf hf=>(pG f hf).1) (i8.came.B2 (by exact aC.Vj qZ hm de) (by have:=i8.lca;exact aC.Vk kF ag this))).fk λv gB=>?_
  obtain⟨a0,lH⟩:=gB
  obtain⟨a8,a7,e3⟩:=o8 hI.2 ik
  have dt:∀{d x},d∈[cp,dd,aU]->s.cells d=some x->v.cells d=some x:=λhm e=>(lH.old _ (jt.lt (iT hm e)) (ee _ (.tail _ hm))).trans (iT hm e)
  rw[sP]
  refine q _ (gn ik hI.2) e6 _ ⟨⟨cc,sP,a0,ee⟩,mi.keeps (lH.old p (mi.lt jt) (ee p mp)),lH.wf,⟨b+51,i8.iP ⟨pG,qZ⟩,by exact aC.Vl ag⟩,by rw[a8,e3];exact DO,dt (.tail _ (.tail _ (.head _))) lo,lg,by exact aC.Vn lm,nk,by rw[a8];exact wd,dt (.head _) dce,dt (.tail _ (.head _)) bce,⟨ae,aK,bx,dH,fw⟩,λD ao=>?_,a7.trans Ka⟩
  rcases EW D ao with((x|⟨a,ha,x⟩)|x)|x
  .exact .inl (.inl (D.keeps x))
  .exact .inl (.inr ⟨a,by rw[a8];exact ha,x⟩)
  .exact .inr x
  .exact .inl (.inl (D.iP x))
 have hx:∀{d x},d∈[cp,dd,aU]->s.cells d=some x->t.cells d=some x:=λhm e=>b7 (.tail _ hm) e
 have last:∀u,b4 u cc ik->cz u->f6 u p->(∀{d x},d∈[cp,dd,aU]->s.cells d=some x->u.cells d=some x)->
  dv ((turn:Int)==0) (dv (dT (.ref aU) u) (aJ (mN [.ref aU,dy hI.2] u) λ_ v=>Q .next [eO,some (.ref p),dR,d4,fc,eY,eZ,some (.ref cc.w),gX,some (.int turn),jN,jO,some (.ref aU),some (.str k),some (dy hI.2),k0,k1,k2] v) False)
   (a3 (k7 [.ref cc.w,dy hI.2] u) λ_ v=>Q .next [eO,some (.ref p),dR,d4,fc,eY,eZ,some (.ref cc.w),gX,some (.int turn),jN,jO,some (.ref aU),some (.str k),some (dy hI.2),k0,k1,k2] v):=λu bI jt mi iT=>by
  cases(turn:Int)==0
  .exact come u bI jt mi iT
  .exact ext u bI jt mi iT
 refine nS (p:=(turn:Int)<4) (λ_=>?_) λ_=>last t ht pP.wf Jo hx
 refine(ua pP.wf Jo (by decide)).a4 ?_
 rintro _ u ⟨n,rfl,_,mi,iT⟩
 have bI:=ht.keeps pP.wf iT λd hm e=>ee p mp (by rw[<-List.mem_singleton.mp e];exact hm)
 have dt:∀{d x},d∈[cp,dd,aU]->s.cells d=some x->u.cells d=some x:=λhm e=>(iT.old _ (pP.wf.lt (hx hm e)) λq=>by
  have all:∀d∈[cp,dd,aU],d≠p:=List.forall_mem_cons.mpr ⟨ae,List.forall_mem_cons.mpr ⟨aK,List.forall_mem_cons.mpr ⟨bx,List.forall_mem_nil _⟩⟩⟩
  exact all _ hm (List.mem_singleton.mp q)).trans (hx hm e)
 exact nS (p:=0<n) (λ_=>ext u bI iT.wf mi dt) λ_=>last u bI iT.wf mi dt
set_option genInjectivity false
theorem ER(h:s.cells c=some (.b2 []))(hk:toKey i=some k):nY c [(i,v)] s=some (s.aS c (.b2 [(k,v)])):=by
 show(mJ c i v s).bind (nY c [])=_
 unfold mJ
 rw[h]
 dsimp only
 rw[hk];rfl
theorem Xy(aG:cB.length+vs.length<=1000000)(q:Q (.bo (cB++vs)) s):aJ (cF [.bo cB,.bo vs] s) Q:=jq (p:=cB.length+vs.length<=1000000) aG q
structure oZ (G:gj) (s:St) (p w cp dd:Nat) (dn bl:Bool) (S:fE) (bW:Int) (b:Nat):Prop where
 hw:∃c:hq,c.w=w/\b4 s c S/\∀d∈[p,cp,dd],d∉c.all
 pool:f6 s p
 wf:cz s
 bc:Inv G S bW b
 dce:s.cells cp=some (.b2 (qJ dn))
 bce:s.cells dd=some (.b2 (qD bl))
 ne:cp≠p/\dd≠p
theorem TO(o:Option (Int×Str)):ng (vp o)=some o.isNone:=by cases o<;>rfl
theorem tN(h:T.p U s λc t=>dv c (A.p U t Q) (B.p U t Q)):(b5.bQ T A B).p U s Q:=h
theorem tP(h:R.p U s Q):b5.aD.p U s (b5.BV R Q):=h
theorem BF{K:Bool->St->Prop}(h:K false s):fD.ft.p U s K:=h
theorem rA(h:T.p U s λc t=>dv c (Q true t) (Ls.p U t Q)):(fD.cV T Ls).p U s Q:=h
theorem BE(h:E.p U s λv t=>ou v λb=>Q b t):(fD.boolOf E).p U s Q:=h
theorem Jg(h:A.p U s λx t=>B.p U t λy u=>aJ (F [x,y] u) Q):(TE.af F A B).p U s Q:=h
theorem BG{fs:List Fr}(h:∀P:J->St->Prop,P src s->E.p U s P)(hs:dO src s=some (fs.map Fr.v))(aG:fs.length<=900000)(q:Q (dy (fs.filter λf=>f.hM==kd)) s):
 (TE.fq E (ek [none]) (c2 0) (.boolOf (.af cm (.af a6 (.C 0) (.I (.int 0))) (.I (.str kd)))) (.C 0)).p U s Q:=by
 refine h _ ?_
 refine dq hs ?_
 refine la (src:=src) (λl t=>(∃z,l=[z])/\t=s) (λf:Fr=>f.hM==kd) (λf v=>v=f.v) (λ_ t h=>by rw[h.2];exact hs) ?_ ⟨⟨_,rfl⟩,rfl⟩ (by rw[List.length_nil];exact aC.Vo aG) ?_
 .rintro f _ _ t ⟨⟨z,rfl⟩,ht⟩
  refine⟨_,rfl,?_⟩
  refine ef f.q6 ⟨rfl,?_⟩
  have i:(∃z,[some f.v]=[z])/\t=s:=⟨⟨_,rfl⟩,ht⟩
  exact dv.of (A:=True) (B:=True) (by cases(f.hM==kd)<;>trivial) (λ_=>⟨rfl,i⟩) λ_=>i
 .rintro cB _ t a ⟨_,ht⟩
  rw[mF a,ht];exact q
theorem Xz{K:Bool->St->Prop}(ag:s.cells dd=some (.b2 (qD bl)))(nE:cz s)(k:Keeps [] s u)(h:Fr.ec∈anew->bl=true)(q:∀t,Keeps [] s t->K false t):
 (fD.ff (.boolOf (.af fA (.bM (.aa (.I (.str "data_blocked")) (.aa (.I (.int 9)) (.ar)))) (.C 8))) (.ff (.boolOf (.af cm (.C 6) (.gp (.b2 [])))) (.eN))).p (iw::bA::a'::cR::pQ::hy::some (.ref dd)::pR::some (dy anew)::l) u K:=by
 have bI:=(k.old dd (nE.lt ag) List.not_mem_nil).trans ag
 refine qq (AL (g:=.ec) λf _=>aan f) ?_
 refine nS (λm=>?_) λ_=>q u k
 have e:=h m
 subst e
 exact uX (eq_td ((hA (Nat.ne_of_lt (k.wf.lt bI))).trans bI) hO) (q _ k.new)
theorem XC{K:Bool->St->Prop}(ag:s.cells cp=some (.b2 (qJ dn)))(nE:cz s)(k:Keeps [] s u)(h:Fr.fC∈anew->dn=false)(q:∀t,Keeps [] s t->K false t):
 (fD.ff (.boolOf (.af fA (.bM (.aa (.I (.str "stop_sending")) (.aa (.I (.int 4)) (.aa (.I (.int 7)) (.ar))))) (.C 8))) (.ff (.boolOf (.af fS (.C 5) (.gp (.b2 [])))) (.eN))).p (iw::bA::a'::cR::pQ::some (.ref cp)::q'::pR::some (dy anew)::l) u K:=by
 have bI:=(k.old cp (nE.lt ag) List.not_mem_nil).trans ag
 refine qq (AL (g:=.fC) λf _=>aap f) ?_
 refine nS (λm=>?_) λ_=>q u k
 have e:=h m
 subst e
 exact xF (eq_td ((hA (Nat.ne_of_lt (k.wf.lt bI))).trans bI) hO) (q _ k.new)
theorem aa5{s:St}{dn bl:Bool}{R B:Nat}{Q:fy->Loc->St->Prop}
 (h:se G s p w aU cp dd dn bl mC S [] e6 bW B)(kF:B<=680000)(gd:32<=R/\R<=51)
 (q:∀u ck i0,oZ G u p w cp dd dn bl ck bW (B+51*320)->(∀D:e0 G,D.live mC->D.live ck)->ck.to.countP (λf=>decide (f=.c0))=mC.to.countP (λf=>decide (f=.c0))->
   Q .next [eO,some (.ref p),dR,some (.int R),some (.int bW),some (.ref cp),some (.ref dd),some (.ref w),i0,qf,jN,jO,some (.ref aU),nF,mu,k0,k1,k2] u):
 CI.p [eO,some (.ref p),dR,some (.int R),some (.int bW),some (.ref cp),some (.ref dd),some (.ref w),gX,qf,jN,jO,some (.ref aU),nF,mu,k0,k1,k2] s Q:=by
 obtain⟨⟨c,rfl,hw,aB⟩,pool,wf,⟨b,bse,ag⟩,ak,lo,lg,lm,nk,kf,dce,bce,⟨ae,aK,bx,dH,fw⟩,duty,to⟩:=h
 have og:fv e6<=306:=lm
 have de:=kP e6
 refine nq ?_
 refine iL (ER hO rfl) ?_
 have c8:Keeps [] s ((s.new (.b2 [])).aS s.next (.b2 rf)):=(Keeps.refl wf).new.aS (.inr (Nat.le_refl _)) (Nat.lt_succ_self _)
 have a8:((s.new (.b2 [])).aS s.next (.b2 rf)).cells s.next=some (.b2 rf):=gV
 have x8:∀{d x},s.cells d=some x->((s.new (.b2 [])).aS s.next (.b2 rf)).cells d=some x:=λe=>(c8.old _ (wf.lt e) List.not_mem_nil).trans e
 refine(abu (dn:=dn) (bl:=bl) (fs:=e6) (K:=AU G.N) c8.wf (x8 lo) a8 (x8 bce) (x8 dce) (by exact aC.IT og de) (λf hf=>?_) (Nat.le_add_left 4 2)).a4 ?_
 .obtain⟨x,av,e⟩:=List.mem_filterMap.mp hf
  exact J6 (lg x av) e
 rintro _ kk ⟨ns,rfl,Bj,g1⟩
 have fX:=c8.gq g1
 have mE:=again lg Bj
 refine(abd (src:=.ref aU) (fs:=e6) fX.wf (λu g=>?_) (by exact aC.IT og de)).a4 ?_
 .unfold dO;dsimp only;rw[g.cells,fX.old aU (wf.lt lo) List.not_mem_nil,lo]
 rintro _ p9 ⟨rfl,g2⟩
 have hx:=fX.gq g2
 have vN:=mE.fv
 have ju:=kP (ns++e6.filter λf=>f.data.isSome)
 refine Xy (by rw[<-List.length_append,<-List.map_append,List.length_map];exact aC.Vp og vN ju) ?_
 rw[<-List.map_append]
 generalize ns++e6.filter (λf=>f.data.isSome)=anew at mE vN ju
 refine p7 ?_
 refine tN ?_
 refine rA ?_
 refine BE ?_
 refine Jg ?_
 refine BG (fs:=anew) (src:=dy anew) (λP h=>h) rfl (by exact aC.Vq og vN ju) ?_
 refine Lh (r:=true) (by rcases mE.dG with e|e<;>rw[e]<;>rfl) ?_
 refine qq (AL (g:=.c0) λf _=>Ki f) ?_
 refine fH (decide_eq_false mE.c0) ?_
 refine BF ?_
 refine fH rfl ?_
 refine tP ?_
 refine p7 ?_
 refine tN ?_
 refine rA ?_
 refine Xz bce wf hx mE.ec λu iT=>?_
 refine rA ?_
 refine XC dce wf iT mE.fC λv lH=>?_
 have at_:∀{d x},s.cells d=some x->v.cells d=some x:=λe=>(lH.old _ (wf.lt e) List.not_mem_nil).trans e
 have p0:k8 G v p c S bW B:=⟨hw.keeps wf lH λ_ _=>List.not_mem_nil,pool.keeps (lH.old p (pool.lt wf) List.not_mem_nil),⟨⟨bse.nd,bse.kd,bse.an,bse.tm,bse.row,bse.came,Nat.le_trans bse.lca ag,Nat.le_trans bse.lto ag⟩,λx=>(ak x).trans ⟨λh=>h.1,λh=>⟨h,List.not_mem_nil⟩⟩⟩,lH.wf⟩
 refine(KO (fs:=anew) (aB p (.head _)) p0 (by exact aC.Vr og vN) (by exact aC.Vs kF) mE.fu gd).fk λt gB=>?_
 obtain⟨ck,wI,pP,i',jk⟩:=gB
 have al:∀d∈[cp,dd],∀x,s.cells d=some x->t.cells d=some x:=λd hm x e=>(pP.old d (lH.wf.lt (at_ e)) λq=>by
  rcases List.mem_cons.mp q with e|q
  .have:∀d∈[cp,dd],d≠p:=List.forall_mem_cons.mpr ⟨ae,List.forall_mem_cons.mpr ⟨aK,List.forall_mem_nil _⟩⟩
   exact this d hm e
  .have:∀d∈[cp,dd],d∉c.all:=List.forall_mem_cons.mpr ⟨aB cp (.tail _ (.head _)),List.forall_mem_cons.mpr ⟨aB dd (.tail _ (.tail _ (.head _))),List.forall_mem_nil _⟩⟩
   exact this d hm q).trans (at_ e)
 refine q _ ck _ ⟨⟨c,rfl,wI.hw,List.forall_mem_cons.mpr ⟨aB p (.head _),List.forall_mem_cons.mpr ⟨aB cp (.tail _ (.head _)),List.forall_mem_cons.mpr ⟨aB dd (.tail _ (.tail _ (.head _))),List.forall_mem_nil _⟩⟩⟩⟩,wI.pool,wI.wf,wI.bc,al cp (.head _) _ dce,al dd (.tail _ (.head _)) _ bce,⟨ae,aK⟩⟩ (λD ao=>i' D ?_) ?_
 .rcases duty D ao with x|x
  .exact .inl x
  .exact .inr (mE.duty D x)
 .have gB:anew.countP (λf=>decide (f=.c0))=0:=List.countP_eq_zero.mpr λf hf e=>by
   rw[of_decide_eq_true e] at hf
   exact mE.c0 hf
  rw[jk,to,gB,Nat.add_zero]
set_option genInjectivity true
theorem abv{p w cp dd turn:Nat}{R b:Nat}
 (h:oZ G s p w cp dd dn bl S bW b)(kF:b<=600000)(gd:32<=R/\R<=51)
 (q:∀u ck Im i0 KC KD KG oI mv fl,oZ G u p w cp dd dn bl ck Im (b+51*326)->(∀D:e0 G,D.live S->D.live ck)->ck.to.countP (λf=>decide (f=.c0))=S.to.countP (λf=>decide (f=.c0))->(fl=.next\/fl=.brk)->
   Q fl [eO,some (.ref p),dR,some (.int R),some (.int Im),some (.ref cp),some (.ref dd),some (.ref w),i0,some (.int turn),KC,KD,KG,oI,mv,k0,k1,k2] u):
 xn.p [eO,some (.ref p),dR,some (.int R),some (.int bW),some (.ref cp),some (.ref dd),some (.ref w),gX,some (.int turn),jN,jO,rP,nF,mu,k0,k1,k2] s Q:=by
 obtain⟨⟨c,rfl,hw,aB⟩,pool,wf,bc,dce,bce,⟨ae,aK⟩⟩:=h
 have kd:∀a∈S.al,a.1∈eV:=λa ha=>by
  obtain⟨x,av,e⟩:=List.mem_map.mp ((bc.ak a.1).mp (List.mem_map.mpr ⟨a,ha,rfl⟩))
  rw[<-e];exact bc.kd x av
 have keep:∀{u} (g:cu s u),oZ G u p c.w cp dd dn bl S bW b:=λg=>⟨⟨c,rfl,hw.gq g,aB⟩,pool.keeps (by rw[g.cells]),g.wf wf,bc,by rw[g.cells];exact dce,by rw[g.cells];exact bce,⟨ae,aK⟩⟩
 refine nq ?_
 refine ef hw.s8 ?_
 refine tM hw.al ?_
 refine(KP wf).fk λkk g1=>?_
 refine p7 ?_
 refine tN ?_
 refine DA (TO _) ?_
 cases hf:eV.foldl (kY S.al) none with
 |none=>
  obtain⟨RV,XT,aay,Sk,hX,bP,Tw⟩:=keep g1
  exact q kk S bW _ _ _ _ _ _ .brk ⟨RV,XT,aay,Sk.a4 (Nat.le_add_right _ _),hX,bP,Tw⟩ (λD ao=>ao) rfl (.inr rfl)
 |some b7=>
  obtain⟨t,k⟩:=b7
  obtain⟨qW,Rm,ks,j8⟩:=PA kd hf
  have Ag:=bc.tm _ Rm
  have lD:=hw.gq g1
  refine tP ?_
  refine p7 ?_
  refine tN ?_
  refine rA ?_
  refine fH (b:=decide (t<bW)) (decide_eq_false (by have:bW<=t:=Ag;exact aC.Vt this)) ?_
  refine rA ?_
  refine BE ?_
  refine ef lD.s8 ?_
  refine tO lD.al ?_
  refine(aa' (g1.wf wf) lD.al).fk λp9 g2=>?_
  rw[show vy S.al=.int t by unfold vy;rw[hf]]
  refine fH (b:= !(t==t)) (by rw[beq_self_eq_true];rfl) ?_
  have g12:=g1.trans g2
  have lF:=hw.gq g12
  refine BF ?_
  refine fH rfl ?_
  refine tP ?_
  refine nq ?_
  refine ef lF.s8 ?_
  refine tO lF.al ?_
  refine(abr (g12.wf wf) lF.al bc.an (by have:=bc.DP;exact aC.IP this) qW j8).fk λkW gB=>?_
  obtain⟨i5,hx⟩:=gB
  refine p7 ?_
  refine tN ?_
  refine rA ?_
  refine BE ?_
  refine fH (b:= !(k==k)) (by rw[beq_self_eq_true];rfl) ?_
  refine BF ?_
  refine fH rfl ?_
  refine tP ?_
  have pJ:=lF.JK (g12.wf wf) hx i5
  have ti:Keeps [c.al] s kW:=(g12.keeps wf).trans hx
  have DX:∀{d x},d∈[p,cp,dd]->s.cells d=some x->kW.cells d=some x:=λhm e=>(ti.old _ (wf.lt e) λq=>aB _ hm (by rw[List.mem_singleton.mp q];exact c.wA)).trans e
  have cR:∀d∈[p,cp,dd],d<kW.next:=List.forall_mem_cons.mpr ⟨Nat.lt_of_lt_of_le (pool.lt wf) ti.next,List.forall_mem_cons.mpr ⟨Nat.lt_of_lt_of_le (wf.lt dce) ti.next,List.forall_mem_cons.mpr ⟨Nat.lt_of_lt_of_le (wf.lt bce) ti.next,List.forall_mem_nil _⟩⟩⟩
  have GA:=pJ.lt hx.wf
  have GO:(k::ks).length<=6:=by rw[<-j8];exact List.length_filter_le ..
  have Q0:∀x∈k::ks,x∈S.al.map (·.1):=λx av=>by
   rw[<-j8] at av
   have:=(List.mem_filter.mp av).2
   unfold jz at this
   cases e:tm S.al x with
   |none=>rw[e] at this;cases this
   |some y=>exact List.mem_map.mpr ⟨_,B7 e,rfl⟩
  have HY:se G (kW.new (.list [])) p c.w kW.next cp dd dn bl S {S with al:=S.al.filter λa=> !((k::ks).contains a.1)} (k::ks) [] t (b+306):={
   hw:=⟨c,rfl,pJ.rq λd hm=>hA (Nat.ne_of_lt (GA d hm)),List.forall_mem_cons.mpr ⟨aB p (.head _),List.forall_mem_cons.mpr ⟨aB cp (.tail _ (.head _)),List.forall_mem_cons.mpr ⟨aB dd (.tail _ (.tail _ (.head _))),List.forall_mem_cons.mpr ⟨λq=>Nat.lt_irrefl _ (GA _ q),List.forall_mem_nil _⟩⟩⟩⟩⟩
   pool:=pool.keeps ((hA (Nat.ne_of_lt (cR p (.head _)))).trans (ti.old p (pool.lt wf) λq=>aB p (.head _) (by rw[List.mem_singleton.mp q];exact c.wA)))
   wf:=hx.wf.new
   bse:=⟨b,⟨bc.nd,bc.kd,(List.Sublist.map _ List.filter_sublist).nodup bc.an,λa ha=>qW a.1 a.2 (J' bc.an (List.mem_filter.mp ha).1),bc.row,⟨bc.came.oc,bc.came.en,bc.came.cU⟩,bc.lca,bc.lto⟩,by exact aC.Vu GO⟩
   ak:=λx=>by
    rw[<-bc.ak]
    constructor
    .intro av
     obtain⟨a,ha,rfl⟩:=List.mem_map.mp av
     obtain⟨eA,fB⟩:=List.mem_filter.mp ha
     exact⟨List.mem_map.mpr ⟨a,eA,rfl⟩,λq=>by rw[List.contains_iff_mem.mpr q] at fB;cases fB⟩
    .rintro⟨av,aV⟩
     obtain⟨a,ha,rfl⟩:=List.mem_map.mp av
     exact List.mem_map.mpr ⟨a,List.mem_filter.mpr ⟨ha,by rw[Bool.eq_false_iff.mpr λq=>aV (List.contains_iff_mem.mp q)];rfl⟩,rfl⟩
   lo:=hO
   lg:=List.forall_mem_nil _
   lm:=by show 0+_<=_;exact aC.Vv GO
   nk:=by rw[<-j8];exact List.Sublist.nodup List.filter_sublist (by decide)
   kf:=λx av=>(bc.ak x).mp (Q0 x av)
   dce:=(hA (Nat.ne_of_lt (cR cp (.tail _ (.head _))))).trans (DX (.tail _ (.head _)) dce)
   bce:=(hA (Nat.ne_of_lt (cR dd (.tail _ (.tail _ (.head _)))))).trans (DX (.tail _ (.tail _ (.head _))) bce)
   ne:=⟨ae,aK,Nat.ne_of_gt (cR p (.head _)),Nat.ne_of_lt (cR cp (.tail _ (.head _))),Nat.ne_of_lt (cR dd (.tail _ (.tail _ (.head _))))⟩
   duty:=λD ao=>.inl (ao.elim (λx=>.inl (D.other S _ rfl rfl rfl x)) .inr)
   to:=rfl}
  generalize{S with al:=S.al.filter λa=> !((k::ks).contains a.1)}=ik at HY
  refine nq ?_
  refine dq rfl ?_
  refine jB (src:=.bo ((k::ks).map J.str)) (enc:=J.str) (xs:=k::ks) (A:=xm) (λr l u=>u3 λck e6 oI mv=>l=[eO,some (.ref p),dR,some (.int R),some (.int t),some (.ref cp),some (.ref dd),some (.ref c.w),gX,some (.int turn),some (vp (some (t,k))),some (.bo ((k::ks).map J.str)),some (.ref kW.next),oI,mv,k0,k1,k2]/\
   se G u p c.w kW.next cp dd dn bl S ck r e6 t (b+306)) (λ_ _ _ _=>rfl) ?_ ?_ ⟨ik,[],_,_,rfl,HY⟩
  .rintro x r _ u ⟨ck,e6,oI,mv,rfl,m⟩
   exact⟨_,rfl,aa9 m (by exact aC.Vx kF) λv nK Tc y fB=>⟨nK,Tc,_,_,rfl,fB⟩⟩
  .rintro _ u ⟨ck,e6,oI,mv,rfl,m⟩
   exact aa5 m (by exact aC.Vy kF) gd λv nK i0 pW i' jk=>q v nK t _ _ _ _ _ _ .next (by rw[show b+51*326=b+306+51*320 by exact aC.Vz];exact pW) i' jk (.inl rfl)
end
section
noncomputable abbrev lW:=List (bp×List UInt8)
noncomputable def ia(hs:lW)(nm:bp):Option (List UInt8):=(hs.find? λe=>decide (e.1=nm)).map (·.2)
theorem wz(h:ia hs nm=some d):(nm,d)∈hs:=by
 unfold ia at h
 obtain⟨a,ha,rfl⟩:=Option.map_eq_some_iff.mp h
 have q:=List.find?_some (p:=λe:bp×List UInt8=>decide (e.1=nm)) ha
 rw[<-(of_decide_eq_true q:a.1=nm)];exact List.mem_of_find?_eq_some ha
noncomputable def t6(hs:lW):List bp->Option Int
 |[nm,.int i]=>(ia hs nm).bind λd=>if 0<=i then(d[i.toNat]?).map λb=>(b.toNat:Int) else none
 |_=>none
noncomputable def w'(hs:lW):bp->Option Int
 |.int s=>(ia hs (.int s)).map λd=>(d.length:Int)
 |_=>none
noncomputable def vm(e:bp×List UInt8):List (List bp):=(List.range e.2.length).map λi:Nat=>[e.1,.int (i:Int)]
theorem Kd(h:t6 hs k=some v):∃nm d,∃i:Nat,k=[nm,.int i]/\ia hs nm=some d/\i<d.length:=by
 rcases k with _|⟨nm,_|⟨_|i|_,_|_⟩⟩
 .exact aq h
 .exact aq h
 .exact aq h
 .exact aq h
 .obtain⟨d,e,h⟩:=Option.bind_eq_some_iff.mp h
  by_cases hi:0<=i
  .rw[if_pos hi] at h
   obtain⟨b,ag,_⟩:=Option.map_eq_some_iff.mp h
   obtain⟨n,rfl⟩:=Int.eq_ofNat_of_zero_le hi
   exact⟨nm,d,n,rfl,e,(List.getElem?_eq_some_iff.mp ag).1⟩
  .rw[if_neg hi] at h;exact aq h
 .exact aq h
 .exact aq h
 .exact aq h
theorem Kc(h:w' hs k=some v):∃s d,k=.int s/\ia hs (.int s)=some d:=by
 rcases k with _|s|_
 .exact aq h
 .obtain⟨d,e,_⟩:=Option.map_eq_some_iff.mp h
  exact⟨s,d,rfl,e⟩
 .exact aq h
theorem EN:∀{hs:lW},(∀e∈hs,e.2.length<=30)->(hs.flatMap vm).length<=30*hs.length
 |[],_=>Nat.le_refl _
 |e::hs,h=>by
  obtain⟨h1,h⟩:=List.forall_mem_cons.mp h
  have:=EN h
  rw[List.flatMap_cons,List.length_append,List.length_cons]
  unfold vm
  rw[List.length_map,List.length_range]
  unfold vm at this
  exact aC.VA h1 this
noncomputable def jK(N:Int)(hs:lW)(h1:∀e∈hs,e.2.length<=30)(h2:hs.length<=3):gj where
 T:=t6 hs
 E:=w' hs
 N:=N
 domT:=hs.flatMap vm
 domE:=hs.map (·.1)
 hT k i h:=by
  obtain⟨nm,d,ai,rfl,e,cD⟩:=Kd h
  exact List.mem_flatMap.mpr ⟨_,wz e,List.mem_map.mpr ⟨ai,List.mem_range.mpr cD,rfl⟩⟩
 hE k i h:=by
  obtain⟨s,d,rfl,e⟩:=Kc h
  exact List.mem_map.mpr ⟨_,wz e,rfl⟩
 lT:=by have:=EN h1;exact aC.VB h2 this
 lE:=by rw[List.length_map];exact aC.VC h2
variable{G:gj}
noncomputable def Bs(nm:bp)(i:Int):Fr->Prop
 |.st c5 bF d _=>nm=.int c5/\bF<=i/\i<bF+d.length
 |.d8 bF d=>nm=.str "crypto"/\bF<=i/\i<bF+d.length
 |_=>False
theorem T9(h:Bs nm i f):f.data.isSome=true:=by
 cases f<;>first|rfl|exact h.elim
noncomputable def IE(G:gj)(nm:bp)(i:Int):e0 G where
 does:=Bs nm i
 done S:=[nm,.int i]∈S.oc.map (·.1)
 cut f R aT h:=by
  rcases o' f R with⟨_,e⟩|⟨e,_⟩|⟨d,aB,h1,h2,e⟩
  .rw[e];exact .inl ⟨f,rfl,h⟩
  .rw[e];exact .inr ⟨f,rfl,h⟩
  .rw[e]
   have hk:R-f.dh<=d.length:=by exact aC.IK h2
   generalize R-f.dh=k at hk
   cases f<;>cases aB
   .rename_i c5 bF cA
    obtain⟨a,b,c⟩:=h
    by_cases q:i<bF+k
    .exact .inl ⟨_,rfl,a,by rw[show((0:Nat):Int)=0 from rfl];exact aC.IU b,by rw[List.length_take,show((0:Nat):Int)=0 from rfl];exact aC.IV c q⟩
    .exact .inr ⟨_,rfl,a,by exact aC.IW q,by rw[List.length_drop];exact aC.IX c⟩
   .rename_i bF
    obtain⟨a,b,c⟩:=h
    by_cases q:i<bF+k
    .exact .inl ⟨_,rfl,a,by rw[show((0:Nat):Int)=0 from rfl];exact aC.IU b,by rw[List.length_take,show((0:Nat):Int)=0 from rfl];exact aC.IV c q⟩
    .exact .inr ⟨_,rfl,a,by exact aC.IW q,by rw[List.length_drop];exact aC.IX c⟩
 keep S f h:=by
  cases f with
  |st=>exact tQ.mpr (.inr h)
  |d8=>exact tQ.mpr (.inr h)
  |_=>exact h
 come S f h:=by
  cases f with
  |st c5 bF d cA=>
   obtain⟨rfl,b,c⟩:=h
   exact tQ.mpr (.inl ⟨(i-bF).toNat,by exact aC.IY b c,by rw[show bF+((i-bF).toNat:Int)=i by exact aC.IZ b]⟩)
  |d8 bF d=>
   obtain⟨rfl,b,c⟩:=h
   exact tQ.mpr (.inl ⟨(i-bF).toNat,by exact aC.IY b c,by rw[show bF+((i-bF).toNat:Int)=i by exact aC.IZ b]⟩)
  |_=>exact h.elim
 told f h:=.inl (T9 h)
 other S ck a8 _ _ h:=by rw[a8];exact h
noncomputable def E5(s:Int):Fr->Prop
 |.st c5 _ _ cA=>c5=s/\cA=true
 |_=>False
noncomputable def E4(G:gj)(s:Int):e0 G where
 does:=E5 s
 done S:=.int s∈S.en.map (·.1)
 cut f R _ h:=by
  rcases o' f R with⟨_,e⟩|⟨e,_⟩|⟨d,aB,h1,h2,e⟩
  .rw[e];exact .inl ⟨f,rfl,h⟩
  .rw[e];exact .inr ⟨f,rfl,h⟩
  .rw[e]
   cases f<;>first|exact .inr ⟨_,rfl,h⟩|exact h.elim
 keep S f h:=by
  cases f with
  |st c5 bF d cA=>
   cases cA
   .exact h
   .exact wc.mpr (.inr h)
  |_=>exact h
 come S f h:=by
  cases f with
  |st c5 bF d cA=>
   obtain⟨rfl,rfl⟩:=h
   exact wc.mpr (.inl rfl)
  |_=>exact h.elim
 told f h:=.inl (by cases f<;>first|rfl|exact h.elim)
 other S ck _ a7 _ h:=by rw[a7];exact h
theorem EI(aB:f.data=none):(∃g∈(dB f R).1,g=f)\/∃g∈(dB f R).2,g=f:=by
 rcases o' f R with⟨_,e⟩|⟨e,_⟩|⟨d,ee,_⟩
 .rw[e];exact .inl ⟨f,rfl,rfl⟩
 .rw[e];exact .inr ⟨f,rfl,rfl⟩
 .rw[aB] at ee;cases ee
theorem EA(h:g∈S.cU):g∈(gm S f).cU:=by
 cases f with
 |st=>exact h
 |d8=>exact h
 |_=>exact List.mem_append_left _ h
theorem EC(h:f.data=none):f∈(gm S f).cU:=by
 cases f<;>first|exact List.mem_append_right _ (List.mem_singleton.mpr rfl)|cases h
theorem SI{x:Fr}(h:(x.hM==("new_connection_id":Str))=true):∃n,x=.c' n:=by
 cases x<;>first|exact⟨_,rfl⟩|exact(Bool.false_ne_true h).elim
theorem SH{x:Fr}(h:(x.hM==("max_data":Str))=true):∃n,x=.dG n:=by
 cases x<;>first|exact⟨_,rfl⟩|exact(Bool.false_ne_true h).elim
noncomputable def Tu(G:gj):e0 G where
 does f:=f=.c' G.N
 done S:=Fr.c' G.N∈S.cU
 cut f R _ h:=by subst h;exact EI rfl
 keep S f h:=EA h
 come S f h:=by subst h;exact EC rfl
 told f h:=.inr λdn bl=>⟨f,by subst h;rfl,λx av e=>by
  subst h
  obtain⟨n,rfl⟩:=SI (x:=x) (by rw[bp.str.inj (List.cons.inj e).1];rfl)
  rw[show n=G.N from av.2]⟩
 other S ck _ _ e3 h:=by rw[e3];exact h
noncomputable def Tn(G:gj):e0 G where
 does f:=∃n,f=.dG n
 done S:=∃n,Fr.dG n∈S.cU
 cut f R _ h:=by
  obtain⟨n,rfl⟩:=h
  exact(EI (R:=R) (f:=.dG n) rfl).imp (λ⟨g,aT,e⟩=>⟨g,aT,n,e⟩) λ⟨g,aT,e⟩=>⟨g,aT,n,e⟩
 keep S f h:=h.imp λn h=>EA h
 come S f h:=by obtain⟨n,rfl⟩:=h;exact⟨n,EC rfl⟩
 told f h:=.inr λdn bl=>⟨.dG 33,by obtain⟨n,rfl⟩:=h;rfl,λx _ e=>SH (x:=x) (by rw[bp.str.inj (List.cons.inj e).1];rfl)⟩
 other S ck _ _ e3 h:=by rw[e3];exact h
end
set_option genInjectivity false
noncomputable def J0:Nat->List (List UInt8)->lW
 |_,[]=>[]
 |i,d::r=>(.int (4*(i:Int)),d)::J0 (i+1) r
noncomputable def q1(dK:List (List UInt8))(cp:List UInt8):lW:=J0 0 dK++[(.str "crypto",cp)]
noncomputable def hn(hs:lW):Fr->Prop
 |.st c5 bF d cA=>bF=0/\cA=true/\ia hs (.int c5)=some d
 |.d8 bF d=>bF=0/\ia hs (.str "crypto")=some d
 |_=>True
structure xB (hs:lW) (N:Int) (fs:List Fr):Prop where
 ok:∀f∈fs,f.ok/\hn hs f/\(∀n,f=.c' n->n=N)/\f≠.gg
 oc:∀nm d,ia hs nm=some d->∃f∈fs,∀i:Int,0<=i->i<d.length->Bs nm i f
 en:∀s d,ia hs (.int s)=some d->∃f∈fs,E5 s f
 c':Fr.c' N∈fs
 dG:Fr.dG 10∈fs
 c0:fs.countP (λf=>decide (f=.c0))=1
 Tv:fs.filter (λf=>f.hM==("new_connection_id":Str))=[.c' N]
 fv:fv fs<=320
theorem Qw(h6:1<=N/\N<=3)(h2:dK.length=1\/dK.length=2)(aB:∀d∈dK,d.length<=30)(aw:cp.length<=20):
 (∀e∈q1 dK cp,e.2.length<=30)/\(q1 dK cp).length<=3/\xB (q1 dK cp) N (given N dK cp):=by
 have six:∀{P:Fr->Prop} {l:List Fr},(P (.dG 10)/\P (.dG 20)/\P .fC/\P .c0/\P .ec/\P (.c' N))->(∀f∈l,P f)->∀f∈z' N++l,P f:=λ⟨a,b,c,d,e,f⟩ h=>List.forall_mem_cons.mpr ⟨a,List.forall_mem_cons.mpr ⟨b,List.forall_mem_cons.mpr ⟨c,List.forall_mem_cons.mpr ⟨d,List.forall_mem_cons.mpr ⟨e,List.forall_mem_cons.mpr ⟨f,h⟩⟩⟩⟩⟩⟩
 have head:∀{hs:lW},(λf:Fr=>f.ok/\hn hs f/\(∀n,f=.c' n->n=N)/\f≠.gg) (.dG 10)/\(λf:Fr=>f.ok/\hn hs f/\(∀n,f=.c' n->n=N)/\f≠.gg) (.dG 20)/\(λf:Fr=>f.ok/\hn hs f/\(∀n,f=.c' n->n=N)/\f≠.gg) .fC/\
  (λf:Fr=>f.ok/\hn hs f/\(∀n,f=.c' n->n=N)/\f≠.gg) .c0/\(λf:Fr=>f.ok/\hn hs f/\(∀n,f=.c' n->n=N)/\f≠.gg) .ec/\(λf:Fr=>f.ok/\hn hs f/\(∀n,f=.c' n->n=N)/\f≠.gg) (.c' N):=
  ⟨⟨⟨by decide,by decide⟩,trivial,nofun,nofun⟩,⟨⟨by decide,by decide⟩,trivial,nofun,nofun⟩,⟨trivial,trivial,nofun,nofun⟩,⟨trivial,trivial,nofun,nofun⟩,⟨trivial,trivial,nofun,nofun⟩,⟨⟨by exact aC.VL h6,by exact aC.VM h6⟩,trivial,λn e=>(Fr.c'.inj e).symm,nofun⟩⟩
 match dK,h2,aB with
 |[a],_,aB=>
  have ha:a.length<=30:=aB a (.head _)
  have eS:∀nm d,ia (q1 [a] cp) nm=some d->(nm=.int (4*((0:Nat):Int))/\d=a)\/(nm=.str "crypto"/\d=cp):=λnm d h=>by
   rcases List.mem_cons.mp (wz h) with e|e
   .exact .inl ⟨congrArg Prod.fst e,congrArg Prod.snd e⟩
   .have:=List.mem_singleton.mp e
    exact .inr ⟨congrArg Prod.fst this,congrArg Prod.snd this⟩
  refine⟨List.forall_mem_cons.mpr ⟨ha,List.forall_mem_cons.mpr ⟨by show cp.length<=30;exact aC.I0 aw,List.forall_mem_nil _⟩⟩,(by decide:2<=3),?_⟩
  refine⟨?_,λnm d h=>?_,λs d h=>?_,?_,.head _,rfl,rfl,?_⟩
  .exact six head (List.forall_mem_cons.mpr ⟨⟨⟨⟨by decide,by decide⟩,⟨by decide,by decide⟩,by exact aC.Bz ha⟩,⟨rfl,rfl,rfl⟩,nofun,nofun⟩,List.forall_mem_cons.mpr ⟨⟨⟨⟨by decide,by decide⟩,by exact aC.I1 aw⟩,⟨rfl,rfl⟩,nofun,nofun⟩,List.forall_mem_nil _⟩⟩)
  .rcases eS nm d h with⟨rfl,rfl⟩|⟨rfl,rfl⟩
   .exact⟨.st (4*((0:Nat):Int)) 0 d true,List.mem_append_left _ (List.mem_append_right _ (.head _)),λi ah h1=>⟨rfl,ah,by exact aC.tJ h1⟩⟩
   .exact⟨.d8 0 d,List.mem_append_right _ (.head _),λi ah h1=>⟨rfl,ah,by exact aC.tJ h1⟩⟩
  .rcases eS _ d h with⟨e,rfl⟩|⟨e,_⟩
   .exact⟨.st (4*((0:Nat):Int)) 0 d true,List.mem_append_left _ (List.mem_append_right _ (.head _)),(bp.int.inj e).symm,rfl⟩
   .cases e
  .exact .tail _ (.tail _ (.tail _ (.tail _ (.tail _ (.head _)))))
  .show 1+(1+(1+(1+(1+(1+((1+a.length)+((1+cp.length)+0)))))))<=320
   exact aC.VO aw ha
 |[a,bq],_,aB=>
  have ha:a.length<=30:=aB a (.head _)
  have ja:bq.length<=30:=aB bq (.tail _ (.head _))
  have eS:∀nm d,ia (q1 [a,bq] cp) nm=some d->(nm=.int (4*((0:Nat):Int))/\d=a)\/(nm=.int (4*((0+1:Nat):Int))/\d=bq)\/(nm=.str "crypto"/\d=cp):=λnm d h=>by
   rcases List.mem_cons.mp (wz h) with e|e
   .exact .inl ⟨congrArg Prod.fst e,congrArg Prod.snd e⟩
   .rcases List.mem_cons.mp e with e|e
    .exact .inr (.inl ⟨congrArg Prod.fst e,congrArg Prod.snd e⟩)
    .have:=List.mem_singleton.mp e
     exact .inr (.inr ⟨congrArg Prod.fst this,congrArg Prod.snd this⟩)
  refine⟨List.forall_mem_cons.mpr ⟨ha,List.forall_mem_cons.mpr ⟨ja,List.forall_mem_cons.mpr ⟨by show cp.length<=30;exact aC.I0 aw,List.forall_mem_nil _⟩⟩⟩,(by decide:3<=3),?_⟩
  refine⟨?_,λnm d h=>?_,λs d h=>?_,?_,.head _,rfl,rfl,?_⟩
  .exact six head (List.forall_mem_cons.mpr ⟨⟨⟨⟨by decide,by decide⟩,⟨by decide,by decide⟩,by exact aC.Bz ha⟩,⟨rfl,rfl,rfl⟩,nofun,nofun⟩,List.forall_mem_cons.mpr ⟨⟨⟨⟨by decide,by decide⟩,⟨by decide,by decide⟩,by exact aC.Bz ja⟩,⟨rfl,rfl,rfl⟩,nofun,nofun⟩,List.forall_mem_cons.mpr ⟨⟨⟨⟨by decide,by decide⟩,by exact aC.I1 aw⟩,⟨rfl,rfl⟩,nofun,nofun⟩,List.forall_mem_nil _⟩⟩⟩)
  .rcases eS nm d h with⟨rfl,rfl⟩|⟨rfl,rfl⟩|⟨rfl,rfl⟩
   .exact⟨.st (4*((0:Nat):Int)) 0 d true,List.mem_append_left _ (List.mem_append_right _ (.head _)),λi ah h1=>⟨rfl,ah,by exact aC.tJ h1⟩⟩
   .exact⟨.st (4*((0+1:Nat):Int)) 0 d true,List.mem_append_left _ (List.mem_append_right _ (.tail _ (.head _))),λi ah h1=>⟨rfl,ah,by exact aC.tJ h1⟩⟩
   .exact⟨.d8 0 d,List.mem_append_right _ (.head _),λi ah h1=>⟨rfl,ah,by exact aC.tJ h1⟩⟩
  .rcases eS _ d h with⟨e,rfl⟩|⟨e,rfl⟩|⟨e,_⟩
   .exact⟨.st (4*((0:Nat):Int)) 0 d true,List.mem_append_left _ (List.mem_append_right _ (.head _)),(bp.int.inj e).symm,rfl⟩
   .exact⟨.st (4*((0+1:Nat):Int)) 0 d true,List.mem_append_left _ (List.mem_append_right _ (.tail _ (.head _))),(bp.int.inj e).symm,rfl⟩
   .cases e
  .exact .tail _ (.tail _ (.tail _ (.tail _ (.tail _ (.head _)))))
  .show 1+(1+(1+(1+(1+(1+((1+a.length)+((1+bq.length)+((1+cp.length)+0))))))))<=320
   exact aC.VP aw ha ja
 |[],h,_=>exact absurd h (by decide)
 |_::_::_::r,h,_=>exact absurd h (by rw[List.length_cons,List.length_cons,List.length_cons];exact aC.VQ)
theorem EB:∀{fs:List Fr} {S:fE},(∀f∈fs,hn hs f)->fs.foldl l3 (S.oc,S.en)=((gn S fs).oc,(gn S fs).en)
 |[],_,_=>rfl
 |f::fs,S,h=>by
  obtain⟨h1,h⟩:=List.forall_mem_cons.mp h
  have e:l3 (S.oc,S.en) f=((gm S f).oc,(gm S f).en):=by
   cases f with
   |st c5 bF d cA=>
    obtain⟨rfl,rfl,_⟩:=h1
    show(_,dr S.en (.int c5) (.int d.length))=(_,dr S.en (.int c5) (.int (0+d.length)))
    rw[Int.zero_add];rfl
   |d8 bF d=>obtain⟨rfl,_⟩:=h1;rfl
   |_=>rfl
  rw[List.foldl_cons,e]
  exact EB (fs:=fs) (S:=gm S f) h
theorem Kq(h:f.ok/\hn hs f/\(∀n,f=.c' n->n=N)/\f≠.gg):(jK N hs h1 h2).fu f:=by
 have val:∀{nm:bp} {d:List UInt8},ia hs nm=some d->∀(i:Nat) (b:UInt8),d[i]? =some b->t6 hs [nm,.int (0+(i:Int))]=some (b.toNat:Int):=λe i b ag=>by
  show(ia hs _).bind (λd=>if 0<=(0+(i:Int)) then(d[(0+(i:Int)).toNat]?).map λb=>(b.toNat:Int) else none)=_
  rw[e,Option.bind_some,Int.zero_add,if_pos (Int.natCast_nonneg i),Int.toNat_natCast,ag];rfl
 obtain⟨ok,w,aV,hp⟩:=h
 refine⟨ok,?_⟩
 cases f with
 |st c5 bF d cA=>
  obtain⟨rfl,rfl,e⟩:=w
  refine⟨val e,λ_=>?_⟩
  show(ia hs (.int c5)).map (λd=>(d.length:Int))=_
  rw[e,Int.zero_add];rfl
 |d8 bF d=>obtain⟨rfl,e⟩:=w;exact val e
 |c' n=>exact aV n rfl
 |gg=>exact hp rfl
 |_=>trivial
theorem F6(e:G.T=t6 hs)(h:iH G S)(d:∀nm d (i:Int),ia hs nm=some d->0<=i->i<d.length->(IE G nm i).done S):oX (t6 hs) S.oc:=
 ⟨by rw[<-e];exact h.oc,λk v hk=>by
   obtain⟨nm,x,ai,rfl,av,cD⟩:=Kd hk
   exact d nm x ai av (Int.natCast_nonneg ai) (by exact aC.VR cD)⟩
theorem F5(e:G.E=w' hs)(h:iH G S)(d:∀s d,ia hs (.int s)=some d->(E4 G s).done S):oX (w' hs) S.en:=
 ⟨by rw[<-e];exact h.en,λk v hk=>by
   obtain⟨s,x,rfl,av⟩:=Kc hk
   exact d s x av⟩
set_option genInjectivity true
theorem ints_map:∀l:List Int,hv (l.map J.int)=some l
 |[]=>rfl
 |i::l=>congrArg (Option.map λl=>i::l) (ints_map l)
theorem EP:∀(ps:List (bp×J)) (es:List (bp×J)) (s:St),s.cells c=some (.cb es)->es.length+ps.length<=1000->
 ∃aY,nY c (ps.map λp=>(p.1.v,p.2)) s=some aY/\aY.next=s.next/\aY.cells c=some (.cb (ps.foldl (λes p=>dr es p.1 p.2) es))/\∀d,d≠c->aY.cells d=s.cells d
 |[],es,s,h,_=>⟨s,rfl,rfl,h,λ_ _=>rfl⟩
 |p::ps,es,s,h,aG=>by
  rw[List.length_cons] at aG
  have hk:=pT (es:=es) (k:=p.1) (v:=p.2)
  obtain⟨aY,a8,a7,e3,fI⟩:=EP ps (dr es p.1 p.2) (s.aS c (.cb (dr es p.1 p.2))) gV (by exact aC.VS aG hk)
  refine⟨aY,?_,a7,e3,λd aB=>(fI d aB).trans (b' aB)⟩
  have e:mJ c p.1.v p.2 s=some (s.aS c (.cb (dr es p.1 p.2))):=by
   unfold mJ
   rw[h]
   cases p.1<;>exact if_pos (by exact aC.ru aG)
  show(mJ c p.1.v p.2 s).bind _=_
  rw[e];exact a8
theorem Jh{f:Bool->List (List bp×J)}(hp:U[1]? =some (some (.ref p)))(n8:∀u (P:J->St->Prop),P k u->Ld.p U u P)(QR:∀u (P:J->St->Prop),P v u->Lw.p U u P)
 (hk:toKey k=some jA)(ht:f true=[(jA,v)])(hf:f false=[])(w:cz s)(ox:f6 s p)(q:∀b t c,t.cells c=some (.b2 (f b))->s.next<=c->Keeps [p] s t->f6 t p->Q (.ref c) t):
 (TE.ez (.boolOf (.af cm (.ba gy (.aa (.C 1) (.aa (.I (.int 2)) (.ar)))) (.I (.int 0)))) (.kB (.b2 []) (.gA Ld Lw (.kh))) (.gp (.b2 []))).p U s Q:=by
 show(match U[1]? with|some (some v)=>_|_=>False)
 rw[hp]
 refine(ua w ox (by decide)).a4 ?_
 rintro _ u ⟨n,rfl,_,ji,c8⟩
 have Jn:f6 (u.new (.b2 [])) p:=ji.keeps (hA (Nat.ne_of_lt (ji.lt c8.wf)))
 show dv (n==0) _ _
 cases n==0
 .exact q false _ _ (by rw[hf];exact hO) c8.next c8.new Jn
 .refine n8 _ _ (QR _ _ ?_)
  exact iL (ER hO hk) (q true _ _ (by rw[ht];exact gV) c8.next (c8.new.aS (.inr c8.next) (Nat.lt_succ_self _)) (Jn.keeps (b' (Nat.ne_of_lt (ji.lt c8.wf)))))
theorem Ia:∀{xs:List c6} {u:St},d<u.next->(xs.foldl St.new u).cells d=u.cells d
 |[],_,_=>rfl
 |_::xs,_,h=>(Ia (xs:=xs) (Nat.lt_succ_of_lt h)).trans (hA (Nat.ne_of_lt h))
theorem H9:∀{xs:List c6} {u:St} {i:Nat},xs[i]? =some x->(xs.foldl St.new u).cells (u.next+i)=some x
 |[],_,_,h=>nomatch h
 |y::xs,u,0,h=>by
  cases h
  exact(Ia (xs:=xs) (u:=u.new x) (Nat.lt_succ_self u.next)).trans hO
 |y::xs,u,i+1,h=>by
  have:=H9 (xs:=xs) (u:=u.new y) (i:=i) h
  rw[show u.next+(i+1)=u.next+1+i by exact aC.VT];exact this
theorem H':∀{xs:List c6} {u:St},Keeps l s u->Keeps l s (xs.foldl St.new u)
 |[],_,h=>h
 |_::xs,_,h=>H' (xs:=xs) h.new
noncomputable abbrev qF:List c6:=[.cb [],.list [],.list [],.list [],.b2 [],.cb [],.inst (some (.cw []))]
noncomputable abbrev vj(n:Nat):hq:=⟨n,n+1,n+2,n+3,n+4,n+5,n+6⟩
theorem XJ(w:cz u)(q:∀t,b4 t (vj u.next) ⟨[],[],[],[],[],[]⟩->Keeps [] u t->Q t):
 gh (nY u.next [(.str "flying",.ref (u.next+1)),(.str "came",.ref (u.next+2)),(.str "told",.ref (u.next+3)),(.str "octets",.ref (u.next+4)),(.str "ends",.ref (u.next+5)),(.str "alarms",.ref (u.next+6))] (qF.foldl St.new u)) Q:=by
 have kN:Keeps [] u (qF.foldl St.new u):=H' (Keeps.refl w)
 have g:∀(i:Nat) {x:c6},qF[i]? =some x->(qF.foldl St.new u).cells (u.next+i)=some x:=λi x h=>H9 h
 generalize qF.foldl St.new u=s at kN g
 obtain⟨t,a8,a7,e3,fI⟩:=EP (c:=u.next) (qe (vj u.next)) [] s (g 0 rfl) (Nat.le_add_left 6 994)
 have gS:∀(i:Nat) {x:c6},qF[i+1]? =some x->t.cells (u.next+(i+1))=some x:=λi x h=>(fI _ (Nat.ne_of_gt (Nat.lt_add_of_pos_right (Nat.succ_pos i)))).trans (g _ h)
 refine iL a8 (q t ⟨List.forall_mem_cons.mpr ⟨e3,List.forall_mem_cons.mpr ⟨gS 0 rfl,List.forall_mem_cons.mpr ⟨gS 1 rfl,List.forall_mem_cons.mpr ⟨gS 2 rfl,List.forall_mem_cons.mpr ⟨gS 3 rfl,List.forall_mem_cons.mpr ⟨gS 4 rfl,List.forall_mem_cons.mpr ⟨gS 5 rfl,List.forall_mem_nil _⟩⟩⟩⟩⟩⟩⟩,List.nodup_range' (s:=u.next) (n:=7)⟩ ⟨λd aB _=>(fI d (Nat.ne_of_lt aB)).trans (kN.old d aB List.not_mem_nil),by rw[a7];exact kN.next,λd aB=>?_⟩)
 rw[a7] at aB
 exact(fI d (Nat.ne_of_gt (Nat.lt_of_lt_of_le (kN.wf.lt (g 0 rfl)) aB))).trans (kN.wf d aB)
section
variable{G:gj}
theorem Le{fs:List Fr}(h:σ.cells c=some (.list (fs.map Fr.v)))(q:Q (.int (fs.countP λf=>decide (f=.c0):Nat)) σ):aJ (vi [.ref c,Fr.c0.v] σ) Q:=by
 refine gY (show(eW (.ref c) σ).bind (λvs=>(nT Fr.c0.v vs).map λ(m:Nat)=>(J.int (m:Int),σ))=_ from ?_) q
 rw[tr h,Option.bind_some,Et (g:=.c0) λf _=>Ki f];rfl
theorem Se{fs:List Fr}(aw:s.cells c=some (.list (fs.map Fr.v)))(h:∀f∈fs,cT 8 f.v g.v=some (decide (f=g))):mc g.v (.ref c) s=some (decide (g∈fs)):=by
 unfold mc f7 f3
 dsimp only
 rw[aw]
 dsimp only
 rw[tr aw,Option.bind_some,x7 h]
theorem Pw:eR [.d8 0 (List.replicate 9 0),.gg] 8=([.d8 0 (List.replicate 5 0)],[.d8 5 (List.replicate 4 0),.gg]):=by decide
theorem KJ
 (h:oZ (jK N hs h1 h2) s p w cp dd dn bl S bW b)(ag:b<=700000)(gF:xB hs N fs)(i':∀D:e0 (jK N hs h1 h2),(∃f∈fs,D.does f)->D.live S)(jk:S.to.countP (λf=>decide (f=.c0))=1)
 (q:∀l u,Q (.ret (.bool true)) l u):
 CK.p [eO,fM,some (dy fs),d4,fc,eY,eZ,some (.ref w),gX,qf,jN,jO,rP,nF,mu,k0,k1,k2] s Q:=by
 obtain⟨⟨c,rfl,hw,aB⟩,pool,wf,bc,dce,bce,ne⟩:=h
 have c4:=bc.vA
 refine p7 ?_
 refine ef hw.s9 ?_
 refine AP hw.fl ?_
 refine jB (src:=.ref c.fl) (enc:=j4) (xs:=S.fl) (A:=CJ) (λr l u=>qw λck nF mu=>l=[eO,fM,some (dy fs),d4,fc,eY,eZ,some (.ref c.w),gX,qf,jN,jO,rP,nF,mu,k0,k1,k2]/\b4 u c ck/\cz u/\ck.fl=S.fl/\iH (jK N hs h1 h2) ck/\ck.cU.length+51*r.length<=b+306/\ck.to=S.to/\
  (∀a∈r,(∀f∈a.2,(jK N hs h1 h2).fu f)/\hl a.2<=51)/\∀D:e0 (jK N hs h1 h2),D.live S->D.done ck\/∃a∈r,∃f∈a.2,D.does f) (λr l u h=>by obtain⟨ck,_,_,_,bI,_,e,_⟩:=h;unfold dO;dsimp only;rw[bI.fl,e]) ?_ ?_
  ⟨S,_,_,rfl,hw,wf,rfl,bc.came,by have:=bc.lca;exact aC.VU c4 this,rfl,bc.row,λD ao=>ao⟩
 .rintro a r _ u ⟨ck,oI,mv,rfl,bI,jt,e,qG,aG,y7,aI,d⟩
  obtain⟨ha,aI⟩:=List.forall_mem_cons.mp aI
  rw[List.length_cons] at aG
  have de:=kP a.2
  have oe:=pZ a.2
  have GQ:=ha.2
  obtain⟨Nw,mZ⟩:=qG.iP ha.1
  obtain⟨a8,a7,e3⟩:=o8 a.2 ck
  refine⟨_,rfl,?_⟩
  refine(Cj (fs:=a.2) jt bI (λf hf=>(ha.1 f hf).1) (qG.B2 (by exact aC.VV de oe GQ) (by exact aC.VW ag aG))).fk λv gB=>?_
  obtain⟨a0,lH⟩:=gB
  refine⟨_,_,_,rfl,a0,lH.wf,a8.trans e,Nw,by exact aC.VX aG de oe GQ mZ,a7.trans y7,aI,λD ao=>?_⟩
  rcases d D ao with x|⟨bq,ja,x⟩
  .exact .inl (D.keeps x)
  .rcases List.mem_cons.mp ja with rfl|ja
   .exact .inl (D.iP x)
   .exact .inr ⟨bq,ja,x⟩
 .rintro _ u ⟨ck,oI,mv,rfl,bI,jt,e,qG,aG,y7,_,d⟩
  have done:∀D:e0 (jK N hs h1 h2),(∃f∈fs,D.does f)->D.done ck:=λD ao=>(d D (i' D ao)).elim id λh=>by obtain⟨_,h,_⟩:=h;cases h
  have og:=kP fs
  have GV:=gF.fv
  refine(KL (fs:=[.d8 0 (List.replicate 9 0),.gg]) (R:=8) jt (List.forall_mem_cons.mpr ⟨⟨⟨by decide,by decide⟩,by decide⟩,List.forall_mem_cons.mpr ⟨trivial,List.forall_mem_nil _⟩⟩) (by decide)).fk λv Gr=>?_
  rw[Pw]
  have a0:=bI.gq Gr
  have Ep:iH (jK N hs h1 h2) (gn ⟨[],[],[],[],[],[]⟩ fs):=(iH.iP ⟨Sane.nil,Sane.nil,λf hf=>absurd hf List.not_mem_nil⟩ λf hf=>Kq (gF.ok f hf)).1
  have nQ:=EB (hs:=hs) (fs:=fs) (S:=⟨[],[],[],[],[],[]⟩) λf hf=>(gF.ok f hf).2.1
  have f1:=F6 rfl qG λnm d i e ah hi=>done _ (by obtain⟨f,hf,x⟩:=gF.oc nm d e;exact⟨f,hf,x i ah hi⟩)
  have f2:=F6 rfl Ep λnm d i e ah hi=>e0.iP (IE _ nm i) (by obtain⟨f,hf,x⟩:=gF.oc nm d e;exact⟨f,hf,x i ah hi⟩)
  have g1:=F5 rfl qG λs d e=>done _ (gF.en s d e)
  have g2:=F5 rfl Ep λs d e=>e0.iP (E4 _ s) (gF.en s d e)
  have Eo:fs.foldl l3 ([],[])=((gn ⟨[],[],[],[],[],[]⟩ fs).oc,(gn ⟨[],[],[],[],[],[]⟩ fs).en):=nQ
  refine(abn (fs:=fs) (Gr.wf jt) a0 (λf hf=>(gF.ok f hf).1) (by exact aC.VY og GV) (by rw[Eo];exact EM f1 f2) (by rw[Eo];exact EM g1 g2)).fk λt gt=>?_
  have ht:=a0.gq gt
  refine ef ht.G6 ?_
  refine gk (m6 ht.to) ?_
  refine Le ht.to ?_
  refine fH (b:= !(((ck.to.countP λf=>decide (f=.c0):Nat):Int)==1)) (by rw[y7,jk];rfl) ?_
  refine tP ?_
  refine nq ?_
  refine BG (fs:=fs) (src:=dy fs) (λP h=>h) rfl (by exact aC.VZ og GV) ?_
  rw[gF.Tv]
  refine ef ht.AJ ?_
  refine qq (Se (g:=.c' N) ht.cU λf hf=>aao (qG.cU f hf)) ?_
  refine gk (decide_eq_true (done (Tu _) ⟨_,gF.c',rfl⟩)) ?_
  refine Jg ?_
  refine BG (fs:=ck.cU) (src:=.ref c.cU) (λP h=>ef ht.AJ h) (by unfold dO;dsimp only;rw[ht.cU]) (by exact aC.V0 ag aG) ?_
  refine xF (r:=false) ((y5 _ _).trans (congrArg some (decide_eq_false λe=>?_))) (q _ _)
  obtain⟨n,aV⟩:=done (Tn _) ⟨_,gF.dG,10,rfl⟩
  have m:Fr.dG n∈ck.cU.filter λf=>f.hM==("max_data":Str):=List.mem_filter.mpr ⟨aV,rfl⟩
  rw[List.map_eq_nil_iff.mp e] at m
  cases m
end
theorem abf{h1:∀e∈hs,e.2.length<=30}{h2:hs.length<=3}{Q:fy->Loc->St->Prop}(Km:cz p9)(jD:f6 p9 p)(gF:xB hs N fs)(aI:rn<20)(q:∀l u,Q (.ret (.bool true)) l u):
 CL.p [eO,some (.ref p),some (dy fs),some (.int (32+rn:Nat)),some (.int 0),none,none,none,none,none,none,none,none,none,none,none,none,none] p9 Q:=by
 refine nq ?_
 refine Jh (p:=p) (k:=.bk [.str "stop_sending",.int 4]) (v:=.bool true) (f:=qJ) rfl (λ_ _ h=>h) (λ_ _ h=>h) rfl rfl rfl Km jD λdn JD sv Ej pQ m7 ry=>?_
 refine nq ?_
 refine Jh (p:=p) (k:=.bk [.str "data_blocked",.none]) (v:=.int 9) (f:=qD) rfl (λ_ _ h=>h) (λ_ _ h=>h) rfl rfl rfl m7.wf ry λbl mm u' El q' lG wV=>?_
 have dH:sv≠p:=Nat.ne_of_gt (Nat.lt_of_lt_of_le (jD.lt Km) pQ)
 have ib:u'≠p:=Nat.ne_of_gt (Nat.lt_of_lt_of_le (ry.lt m7.wf) q')
 have Ek:=(lG.old sv (m7.wf.lt Ej) λq=>dH (List.mem_singleton.mp q)).trans Ej
 refine XJ lG.wf λJE hw wb=>?_
 have x9:∀{d x},mm.cells d=some x->JE.cells d=some x:=λe=>(wb.old _ (lG.wf.lt e) List.not_mem_nil).trans e
 have rr:∀d,d<mm.next->d∉(vj mm.next).all:=λd aB q=>by
  have:=(List.mem_range'_1.mp (show d∈List.range' mm.next 7 from q)).1
  exact(aC.I2 aB this).elim
 have Xx:=wV.keeps (wb.old _ (wV.lt lG.wf) List.not_mem_nil)
 have p0:k8 (jK N hs h1 h2) JE p (vj mm.next) ⟨[],[],[],[],[],[]⟩ 0 0:=⟨hw,Xx,⟨⟨List.nodup_nil,List.forall_mem_nil _,List.nodup_nil,List.forall_mem_nil _,List.forall_mem_nil _,⟨Sane.nil,Sane.nil,List.forall_mem_nil _⟩,Nat.le_refl _,Nat.le_refl _⟩,λ_=>Iff.rfl⟩,wb.wf⟩
 have gd:32<=32+rn/\32+rn<=51:=⟨Nat.le_add_right _ _,by exact aC.V1 aI⟩
 refine(KO (fs:=fs) (rr _ (wV.lt lG.wf)) p0 gF.fv (by decide) (λf hf=>Kq (gF.ok f hf)) gd).fk λJF gB=>?_
 obtain⟨u0,tC,q8,EU,Jl⟩:=gB
 have x':∀{d x},d≠p->mm.cells d=some x->JF.cells d=some x:=λaB e=>(q8.old _ (wb.wf.lt (x9 e)) λq=>by
  rcases List.mem_cons.mp q with cZ|q
  .exact aB cZ
  .exact rr _ (lG.wf.lt e) q).trans (x9 e)
 have pW:oZ (jK N hs h1 h2) JF p mm.next sv u' dn bl u0 0 (0+51*320):=⟨⟨_,rfl,tC.hw,List.forall_mem_cons.mpr ⟨rr _ (wV.lt lG.wf),List.forall_mem_cons.mpr ⟨rr _ (lG.wf.lt Ek),List.forall_mem_cons.mpr ⟨rr _ (lG.wf.lt El),List.forall_mem_nil _⟩⟩⟩⟩,tC.pool,tC.wf,tC.bc,x' dH Ek,x' ib El,⟨dH,ib⟩⟩
 have i':∀D:e0 (jK N hs h1 h2),(∃f∈fs,D.does f)->D.live u0:=λD ao=>EU D (.inr ao)
 have jk:u0.to.countP (λf=>decide (f=.c0))=1:=Jl.trans ((Nat.zero_add _).trans gF.c0)
 clear EU Jl tC q8 x' rr x9
 refine dq (th (m:=12) (z:=12) rfl (by decide)) ?_
 refine jB (src:=.e8 0 12 1) (enc:=pd) (xs:=List.range 12) (A:=xn) (λr l u=>Lz λn ck bW b gX qf jN jO rP nF mu=>l=[eO,some (.ref p),some (dy fs),some (.int (32+rn:Nat)),some (.int bW),some (.ref sv),some (.ref u'),some (.ref mm.next),gX,qf,jN,jO,rP,nF,mu,none,none,none]/\
  oZ (jK N hs h1 h2) u p mm.next sv u' dn bl ck bW b/\b+17000*r.length<=17000*13/\r=(List.range 12).drop n/\(∀D:e0 (jK N hs h1 h2),(∃f∈fs,D.does f)->D.live ck)/\ck.to.countP (λf=>decide (f=.c0))=1) (λ_ _ _ _=>th (m:=12) rfl (by decide)) ?_ ?_
  ⟨0,u0,0,_,_,_,_,_,_,_,_,rfl,pW,by decide,rfl,i',jk⟩
 .rintro i r _ u ⟨n,ck,bW,b,gX,qf,jN,jO,rP,nF,mu,rfl,pW,ag,dh,i',jk⟩
  rw[List.length_cons] at ag
  have aV:n<(List.range 12).length:=by
   refine Nat.lt_of_not_le λq=>?_
   rw[List.drop_eq_nil_of_le q] at dh;cases dh
  rw[List.drop_eq_getElem_cons aV] at dh
  obtain⟨_,dh⟩:=List.cons.inj dh
  rw[show pd i=J.int (i:Int) by show J.int _=_;rw[Int.mul_one,Int.zero_add]]
  refine⟨_,rfl,?_⟩
  refine abv (R:=32+rn) pW (by exact aC.V2 ag) gd λv nK TQ i0 KC KD KG oI mv fl HQ vo Jk Ad=>?_
  have ET:∀D:e0 (jK N hs h1 h2),(∃f∈fs,D.does f)->D.live nK:=λD ao=>vo D (i' D ao)
  rcases Ad with rfl|rfl
  .exact⟨n+1,nK,TQ,_,_,_,_,_,_,_,_,rfl,HQ,by exact aC.V3 ag,dh,ET,Jk.trans jk⟩
  .exact KJ HQ (by exact aC.V4 ag) gF ET (Jk.trans jk) q
 .rintro _ u ⟨n,ck,bW,b,gX,qf,jN,jO,rP,nF,mu,rfl,pW,ag,aI,i',jk⟩
  rw[List.length_nil] at ag
  exact KJ pW (by exact aC.V5 ag) gF i' jk q
theorem abe{l:List Int}(aG:l.length<=63)(w:cz σ):a3 (uT [.bo (l.map J.int)] σ) λv _=>v=.bool true:=by
 refine Yk ?_
 refine nq ?_
 have gB:iW (.bo (l.map J.int)) .none (.int 24)=some (.bo ((l.take 24).map J.int)):=by
  rw[List.map_take];exact if_pos ⟨by decide,by rw[List.length_map];exact aC.V6 aG⟩
 refine iL gB ?_
 refine dq rfl ?_
 refine la (src:=.bo ((l.take 24).map J.int)) (λU s=>(∃z,U=[z])/\s=σ) (λ_=>true) (λi v=>v=J.int i) (λ_ _ _=>rfl) ?_ ⟨⟨_,rfl⟩,rfl⟩ (by rw[List.length_nil,List.length_take];exact aC.V7) ?_
 .rintro i _ _ s ⟨⟨z,rfl⟩,hs⟩
  exact⟨_,rfl,rfl,rfl,⟨_,rfl⟩,hs⟩
 rintro cB _ s ha ⟨_,hs⟩
 subst hs
 rw[List.filter_eq_self.mpr (λ_ _=>rfl)] at ha
 rw[mF ha]
 have pI:(l.take 24).length<=24:=by rw[List.length_take];exact aC.V8
 generalize l.take 24=eF at pI
 refine gY (m:=p' [.bo ([]++eF.map J.int)] s) (a:=.int eF.sum) (s:=s) ?_ ?_
 .show((hv (eF.map J.int)).map λl=>(J.int l.sum,s))=_
  rw[ints_map];rfl
 have Xw:f6 (s.new (.list (rB (eF.sum.fmod 2147483647) 0 eF))) s.next:=⟨_,0,eF,hO,⟨Int.fmod_nonneg_of_pos _ (by decide),Int.fmod_lt_of_pos _ (by decide)⟩,Int.le_refl _,by exact aC.V9 pI⟩
 have aas:cz (s.new (.list (rB (eF.sum.fmod 2147483647) 0 eF))):=w.new
 refine(aba aas Xw).a4 ?_
 rintro _ kk ⟨N,dK,cp,rfl,h6,qQ,QZ,sR,ji,c8⟩
 obtain⟨h1,h2,gF⟩:=Qw h6 qQ QZ sR
 generalize given N dK cp=fs at gF
 generalize q1 dK cp=hs at h1 h2 gF
 refine(ua c8.wf ji (by decide)).a4 ?_
 rintro _ p9 ⟨r,rfl,aI,jD,fX⟩
 obtain⟨rn,rfl⟩:=Int.eq_ofNat_of_zero_le aI.1
 exact abf (rn:=rn) (h1:=h1) (h2:=h2) fX.wf jD gF (by exact aC.V' aI) λl u=>rfl
theorem all:PySem.Challenge.rw_nz0352_01.Holds:=Sv λl aG=>by
 obtain⟨v,s,e,rfl⟩:=abe aG (σ:=⟨λ_=>none,0⟩) λ_ _=>rfl
 exact⟨s,e⟩
end Internal
theorem PySem.Challenge.cw_nz0352_01_holds : PySem.Challenge.rw_nz0352_01.Holds :=
 Internal.all
