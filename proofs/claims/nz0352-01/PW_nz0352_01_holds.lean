import PyProof.Rows.All
import Wide.All
import OpenK.AllK
import Wide.FinOn
import Lean
import PySem.Challenge.RW_nz0352_01
set_option Elab.async false
set_option maxRecDepth 100000
set_option maxHeartbeats 8000000
set_option linter.all false
set_option bootstrap.genMatcherCode false
set_option compiler.extract_closed false
set_option genSizeOf false
set_option autoImplicit true
namespace Internal
open PySem PySem.W PyProof.Rows PySem.Calls
abbrev aM:=@PySem.wpAny_bind
abbrev bt:=@Nat.le_refl
abbrev bx:=@PySem.wpAny_pure
abbrev bz:=@Nat.le_of_not_lt
abbrev bO:=@List.forall_mem_cons
abbrev b9:=@Option.some.inj
abbrev cm:=@Nat.le_trans
abbrev dI:=@List.mem_map
abbrev dJ:=@List.forall_mem_nil
abbrev dR:=@Nat.le_of_eq
abbrev dW:=@List.length_map
abbrev d9:=@Nat.ne_of_lt
abbrev eP:=@Nat.lt_of_not_le
abbrev eQ:=@PySem.W.codeRec_of
abbrev e6:=@Array.length_toList
abbrev fj:=@List.mem_cons
abbrev fB:=@List.mem_singleton
abbrev fJ:=@List.length_cons
abbrev fS:=@Option.map_eq_some_iff
abbrev fY:=@Bool.false_ne_true
abbrev fZ:=@PySem.wpAny_of_eq
abbrev gn:=@List.length_append
abbrev gp:=@Nat.le_succ
abbrev gA:=@PySem.Heap.get?_push_size
abbrev gB:=@Nat.lt_succ_self
abbrev gZ:=@List.mem_filter
abbrev hN:=@List.getElem?_eq_getElem
abbrev hO:=@List.length_nil
abbrev hP:=@List.not_mem_nil
abbrev h7:=@List.mem_append
abbrev iG:=@List.map_append
abbrev iH:=@List.map_cons
abbrev i2:=@PySem.Heap.get?_push_of_some
abbrev i3:=@PySem.Heap.size_push
abbrev jj:=@List.nodup_cons
abbrev jH:=@Nat.lt_of_lt_of_le
abbrev jI:=@PySem.F.plainAttrs_list
abbrev j5:=@PySem.wpAny_newObj_type
abbrev kD:=@List.mem_append_right
abbrev kE:=@PySem.F.slot_list_append
abbrev la:=@PySem.F.type_list_append
abbrev l4:=@Bool.and_eq_true_iff
abbrev l5:=@List.getElem?_eq_some_iff
abbrev l6:=@List.mem_append_left
abbrev mN:=@List.getD_eq_getElem?_getD
namespace aC
inductive E|n (k:Nat)|v (i:Nat)|a (x y:E)|m (k:Nat) (x:E)
noncomputable def E.den(c:List Nat)(e:E):Nat:=e.rec (λk=>k) (λi=>c.getD i 0) (λ_ _ x y=>x+y) (λk _ x=>k*x)
noncomputable def E.zZ(i:Nat)(e:E):Nat:=e.rec (λ_=>0) (λai=>bif Nat.beq ai i then 1 else 0) (λ_ _ x y=>x+y) (λk _ x=>k*x)
noncomputable def mh(f:Nat->Nat)(c:List Nat):Nat:=(c.rec (λ_=>0) (λx _ aZ f=>f 0*x+aZ λi=>f (i+1)):(Nat->Nat)->Nat) f
theorem F'(c:List Nat):mh (λ_=>0) c=0:=by
 induction c with
 |nil=>rfl
 |cons x c aZ=>exact(congr (congrArg _ (Nat.zero_mul x)) aZ:0*x+mh (λ_=>0) c=0+0)
theorem PM(c:List Nat):∀f g,mh (λi=>f i+g i) c=mh f c+mh g c:=by
 induction c with
 |nil=>exactλ_ _=>rfl
 |cons x c aZ=>exactλf g=>(congr (congrArg _ (Nat.add_mul ..)) (aZ _ _)).trans (Nat.add_add_add_comm ..)
theorem PO(k:Nat)(c:List Nat):∀f,mh (λi=>k*f i) c=k*mh f c:=by
 induction c with
 |nil=>exactλ_=>rfl
 |cons x c aZ=>exactλf=>(congr (congrArg _ (Nat.mul_assoc ..)) (aZ _)).trans (Nat.mul_add ..).symm
theorem PQ(c:List Nat):∀ai,mh (λi=>bif Nat.beq ai i then 1 else 0) c=c.getD ai 0:=by
 induction c with
 |nil=>exactλ_=>rfl
 |cons x c aZ=>
  intro ai
  cases ai with
  |zero=>exact(congr (congrArg _ (Nat.one_mul x)) (F' c))
  |succ ai=>exact(congr (congrArg _ (Nat.zero_mul x)) (aZ ai)).trans (Nat.zero_add _)
theorem PN(c:List Nat):∀f g,(∀i,i<c.length->f i<=g i)->mh f c<=mh g c:=by
 induction c with
 |nil=>exactλ_ _ _=>bt _
 |cons x c aZ=>exactλf g h=>Nat.add_le_add (Nat.mul_le_mul_right _ (h 0 (Nat.zero_lt_succ _))) (aZ _ _ λi q=>h (i+1) (Nat.succ_lt_succ q))
theorem F7(c:List Nat)(e:E):e.den c=e.den []+mh (λi=>e.zZ i) c:=by
 induction e with
 |n k=>exact(congrArg (k+·) (F' c)).symm
 |v i=>exact((Nat.zero_add _).trans (PQ c i)).symm
 |a x y av bF=>exact(congr (congrArg _ av) bF).trans ((Nat.add_add_add_comm ..).trans (congrArg _ (PM c _ _).symm))
 |m k x av=>exact(congrArg _ av).trans ((Nat.mul_add ..).trans (congrArg _ (PO k c _).symm))
noncomputable def le(f g:Nat->Nat)(n:Nat):Bool:=n.rec true λi b=>Nat.ble (f i) (g i)&&b
theorem T5:le f g n=true->∀i,i<n->f i<=g i:=by
 induction n with
 |zero=>exactλ_ i h=>(Nat.not_lt_zero i h).elim
 |succ n aZ=>exactλh i hi=>(Nat.lt_or_eq_of_le (Nat.le_of_lt_succ hi)).elim (aZ ((Bool.and_eq_true _ _).mp h).2 i) λe=>e▸Nat.le_of_ble_eq_true ((Bool.and_eq_true _ _).mp h).1
noncomputable def aF(c:List Nat)(l r:E):Prop:=l.den c<=r.den c
noncomputable def OB(n:Nat)(l r:E):Bool:=Nat.ble (r.den []+1) (l.den [])&&le (λi=>r.zZ i) (λi=>l.zZ i) n
theorem no(h:aF c l r)(k:OB c.length l r=true):False:=
 Nat.not_lt_of_le (show l.den c<=r.den c from h) (by
  rw[F7 c l,F7 c r]
  exact Nat.add_lt_add_of_lt_of_le (Nat.le_of_ble_eq_true ((Bool.and_eq_true _ _).mp k).1) (PN c _ _ (T5 ((Bool.and_eq_true _ _).mp k).2)))
theorem aF.a(h:aF c l r)(h':aF c l' cu):aF c (l.a l') (r.a cu):=Nat.add_le_add h h'
theorem aF.m(k:Nat)(h:aF c l r):aF c (l.m k) (r.m k):=Nat.mul_le_mul_left k h
theorem k8(a b:Nat):a<=(a-b)+b:=Nat.le_add_of_sub_le (bt _)
theorem WJ(ah:(((0:Int)<cj)/\(cj<cE))):cj≠(0:Int):=by omega
theorem Yg{ae aK:Nat}(ah:(((0:Int)<=cj)/\(((cj<=(1000:Int))/\(ae<aK))))):cj<=(1000000:Int):=by omega
theorem Vm(ah:(ab+ae)<=(1000000:Nat)):(ab+ae)<=(16777216:Nat):=bz λg1=>no (c:=[ab,ae]) (l:=.a (.a (.v 0) (.v 1)) (.a (.n 16777216) (.n 1))) (r:=.a (.n 1000000) (.a (.v 0) (.v 1))) (aF.a ah g1) rfl
theorem Vp:¬((1:Int)<(0:Int)):=by omega
theorem Vw:(-(1:Int))<(0:Int):=by lia
theorem VF(ah:(1:Nat)<=ab):(max ((-(1:Int))+((ab:Nat):Int)) (0:Int))=(((ab:Nat):Int)-(1:Int)):=by lia
theorem VQ:(1:Int)>(0:Int):=by lia
theorem V7(ah:ab<=ae):(min (ab-(1:Nat)) ab)<=ae:=by omega
theorem Wf(ah:(1:Nat)<=ab):(ab-(1:Nat))≠ab:=λg1=>no (c:=[ab,(ab-1)]) (l:=.a (.v 0) (.a (.v 1) (.n 1))) (r:=.a (.v 1) (.v 0)) (aF.a (dR (Eq.symm g1)) (dR (Nat.sub_add_cancel (bz λkU=>no (c:=[ab]) (l:=.a (.n 1) (.a (.v 0) (.n 1))) (r:=.a (.v 0) (.n 1)) (aF.a ah kU) rfl)))) rfl
theorem Wr:(Int.toNat ((0:Int)+(((ab:Nat):Int)*(1:Int))))=((0:Nat)+ab):=by lia
theorem WB(ah:((ab:Nat):Int)<((ae:Nat):Int)):ab<ae:=by lia
theorem WK(ah:ab<=(15:Nat)):ab<(17:Nat):=eP λg1=>no (c:=[ab]) (l:=.a (.v 0) (.n 17)) (r:=.a (.n 15) (.v 0)) (aF.a ah g1) rfl
theorem WU(ah:ab<=ae)(h1:¬(ab=ae)):(ab+(1:Nat))<=ae:=by lia
theorem J5{ab ae:Nat}(ah:ab<ae)(h1:ae<=ab):False:=no (c:=[ab,ae]) (l:=.a (.a (.v 0) (.n 1)) (.v 1)) (r:=.a (.v 1) (.v 0)) (aF.a ah h1) rfl
theorem Xm(ah:ab<=(1000000:Nat)):ab<=(1099511627776:Nat):=bz λg1=>no (c:=[ab]) (l:=.a (.v 0) (.a (.n 1099511627776) (.n 1))) (r:=.a (.n 1000000) (.v 0)) (aF.a ah g1) rfl
theorem XC(ah:cj<=(1000000:Int)):cj<=(16777216:Int):=by lia
theorem x1(ah:(0:Int)<=cj):¬(cj<(0:Int)):=by omega
theorem XO{ab ae:Nat}(ah:ab<=ae):¬(ab>ae):=λg1=>no (c:=[ab,ae]) (l:=.a (.v 0) (.a (.v 1) (.n 1))) (r:=.a (.v 1) (.v 0)) (aF.a ah g1) rfl
theorem XQ(ah:(0:Int)<=cj)(h1:¬(cj>(0:Int))):cj=(0:Int):=by lia
theorem XR(ah:(0:Int)<=cj)(h1:cj<(256:Int)):((¬(cj<(0:Int)))/\(¬(cj≥(256:Int)))):=by lia
theorem XS(ah:(Int.toNat cj)<ae):cj<((ae:Nat):Int):=by lia
theorem XT(ah:ab<=(1000000:Nat)):ab<=(16777216:Nat):=bz λg1=>no (c:=[ab]) (l:=.a (.v 0) (.a (.n 16777216) (.n 1))) (r:=.a (.n 1000000) (.v 0)) (aF.a ah g1) rfl
theorem XU(ah:((ab+((8:Nat)*(ae+(1:Nat))))+(8:Nat))<(1000:Nat)):((ab+((8:Nat)*ae))+(8:Nat))<(1000:Nat):=eP λg1=>no (c:=[ab,ae]) (l:=.a (.a (.a (.a (.v 0) (.m 8 (.a (.v 1) (.n 1)))) (.n 8)) (.n 1)) (.n 1000)) (r:=.a (.n 1000) (.a (.a (.v 0) (.m 8 (.v 1))) (.n 8))) (aF.a ah g1) rfl
theorem XW(ah:((ab+((8:Nat)*ae))+(8:Nat))<(1000:Nat)):ab<(1000:Nat):=eP λg1=>no (c:=[ab,ae]) (l:=.a (.a (.a (.a (.v 0) (.m 8 (.v 1))) (.n 8)) (.n 1)) (.n 1000)) (r:=.a (.n 1000) (.v 0)) (aF.a ah g1) rfl
theorem XX(ah:(ab+(7:Nat))<=(6:Nat)):False:=no (c:=[ab]) (l:=.a (.v 0) (.n 7)) (r:=.n 6) ah rfl
theorem sm(ah:¬(ab<(2:Nat))):(2:Nat)<=ab:=bz λg1=>no (c:=[ab]) (l:=.a (.n 2) (.a (.v 0) (.n 1))) (r:=.a (.v 0) (.n 2)) (aF.a (bz ah) g1) rfl
theorem x2(ah:ab<=(6:Nat)):ab<=(16777216:Nat):=bz λg1=>no (c:=[ab]) (l:=.a (.v 0) (.a (.n 16777216) (.n 1))) (r:=.a (.n 6) (.v 0)) (aF.a ah g1) rfl
theorem XY(ah:ab<=(6:Nat)):ab<=(1000:Nat):=bz λg1=>no (c:=[ab]) (l:=.a (.v 0) (.a (.n 1000) (.n 1))) (r:=.a (.n 6) (.v 0)) (aF.a ah g1) rfl
theorem XZ(ah:ab<=(6:Nat)):ab<(64:Nat):=eP λg1=>no (c:=[ab]) (l:=.a (.v 0) (.n 64)) (r:=.a (.n 6) (.v 0)) (aF.a ah g1) rfl
theorem X0(ah:(2:Nat)<=ab)(h1:ae=ab):(0:Nat)<ae:=eP λg1=>no (c:=[ab,ae]) (l:=.a (.a (.n 2) (.v 0)) (.v 1)) (r:=.a (.a (.v 0) (.v 1)) (.n 0)) (aF.a (aF.a ah (dR (Eq.symm h1))) g1) rfl
theorem J'{ab ae:Nat}(ah:¬(ab<ae)):ae<=ab:=bz λg1=>no (c:=[ae,ab]) (l:=.a (.v 0) (.a (.v 1) (.n 1))) (r:=.a (.v 1) (.v 0)) (aF.a (bz ah) g1) rfl
theorem X1(ah:((ab+((64:Nat)*(ae+(1:Nat))))+(200:Nat))<(9900:Nat)):((((ab+(1:Nat))+(1:Nat))+((64:Nat)*ae))+(200:Nat))<(9900:Nat):=eP λg1=>no (c:=[ab,ae]) (l:=.a (.a (.a (.a (.v 0) (.m 64 (.a (.v 1) (.n 1)))) (.n 200)) (.n 1)) (.n 9900)) (r:=.a (.n 9900) (.a (.a (.a (.a (.v 0) (.n 1)) (.n 1)) (.m 64 (.v 1))) (.n 200))) (aF.a ah g1) rfl
theorem X2(ah:((ab+((8:Nat)*ae))+(8:Nat))<(1000:Nat)):(ab+(1:Nat))<(1000:Nat):=eP λg1=>no (c:=[ab,ae]) (l:=.a (.a (.a (.a (.v 0) (.m 8 (.v 1))) (.n 8)) (.n 1)) (.n 1000)) (r:=.a (.n 1000) (.a (.v 0) (.n 1))) (aF.a ah g1) rfl
theorem X3(ah:(ab+(1:Nat))<ae):ab<=ae:=bz λg1=>no (c:=[ab,ae]) (l:=.a (.a (.a (.v 0) (.n 1)) (.n 1)) (.a (.v 1) (.n 1))) (r:=.a (.v 1) (.v 0)) (aF.a ah g1) rfl
theorem X4:¬(ab=(ab+(1:Nat))):=λg1=>no (c:=[ab]) (l:=.a (.v 0) (.n 1)) (r:=.v 0) (dR (Eq.symm g1)) rfl
theorem X5(ah:ab<(Int.toNat cE)):((ab:Nat):Int)<cE:=by lia
theorem X6(ah:(Int.toNat cj)<=ae):(cj-((ae:Nat):Int))<=(0:Int):=by lia
theorem X7(ah:((ab:Nat):Int)<cE):(0:Int)<(cE-((ab:Nat):Int)):=by lia
theorem X8:((cj-((ae:Nat):Int))-(1:Int))=(cj-(((ae+(1:Nat)):Nat):Int)):=by lia
theorem X9{ab ae aK:Nat}(ah:ab=ae)(h1:ae<=aK):ab<=aK:=bz λg1=>no (c:=[ab,ae,aK]) (l:=.a (.a (.v 0) (.v 1)) (.a (.v 2) (.n 1))) (r:=.a (.a (.v 1) (.v 2)) (.v 0)) (aF.a (aF.a (dR ah) h1) g1) rfl
theorem X'(ah:((ab+((8:Nat)*(ae+(1:Nat))))+(8:Nat))<(1000:Nat)):(((ab+(1:Nat))+((8:Nat)*ae))+(8:Nat))<(1000:Nat):=eP λg1=>no (c:=[ab,ae]) (l:=.a (.a (.a (.a (.v 0) (.m 8 (.a (.v 1) (.n 1)))) (.n 8)) (.n 1)) (.n 1000)) (r:=.a (.n 1000) (.a (.a (.a (.v 0) (.n 1)) (.m 8 (.v 1))) (.n 8))) (aF.a ah g1) rfl
theorem Yb(ah:((ab+((64:Nat)*(ae+(1:Nat))))+(200:Nat))<(9900:Nat)):(((ab+(3:Nat))+((64:Nat)*ae))+(200:Nat))<(9900:Nat):=eP λg1=>no (c:=[ab,ae]) (l:=.a (.a (.a (.a (.v 0) (.m 64 (.a (.v 1) (.n 1)))) (.n 200)) (.n 1)) (.n 9900)) (r:=.a (.n 9900) (.a (.a (.a (.v 0) (.n 3)) (.m 64 (.v 1))) (.n 200))) (aF.a ah g1) rfl
theorem Yc:((ab+(1:Nat))+(1:Nat))≠ab:=λg1=>no (c:=[ab]) (l:=.a (.a (.v 0) (.n 1)) (.n 1)) (r:=.v 0) (dR g1) rfl
theorem Yd:ab≠((ab+(1:Nat))+(1:Nat)):=λg1=>no (c:=[ab]) (l:=.a (.a (.v 0) (.n 1)) (.n 1)) (r:=.v 0) (dR (Eq.symm g1)) rfl
theorem Ye:((ab+(1:Nat))+(1:Nat))≠(ab+(1:Nat)):=λg1=>no (c:=[ab]) (l:=.a (.a (.v 0) (.n 1)) (.n 1)) (r:=.a (.v 0) (.n 1)) (dR g1) rfl
theorem Yh:(ab+(1:Nat))≠((ab+(1:Nat))+(1:Nat)):=λg1=>no (c:=[ab]) (l:=.a (.a (.v 0) (.n 1)) (.n 1)) (r:=.a (.v 0) (.n 1)) (dR (Eq.symm g1)) rfl
theorem Yi:ab<((ab+(1:Nat))+(1:Nat)):=eP λg1=>no (c:=[ab]) (l:=.a (.a (.v 0) (.n 1)) (.n 1)) (r:=.v 0) g1 rfl
theorem Yj(ah:¬((((63:Nat):Nat):Int)<((ab:Nat):Int))):ab<=(63:Nat):=by omega
theorem Yk(ah:(ab+(ae+(1:Nat)))<(1000000:Nat)):(ab+ae)<(1000000:Nat):=eP λg1=>no (c:=[ab,ae]) (l:=.a (.a (.a (.v 0) (.a (.v 1) (.n 1))) (.n 1)) (.n 1000000)) (r:=.a (.n 1000000) (.a (.v 0) (.v 1))) (aF.a ah g1) rfl
theorem Yl(ah:(ab+(ae+(1:Nat)))<(1000000:Nat)):ab<(1000000:Nat):=eP λg1=>no (c:=[ab,ae]) (l:=.a (.a (.a (.v 0) (.a (.v 1) (.n 1))) (.n 1)) (.n 1000000)) (r:=.a (.n 1000000) (.v 0)) (aF.a ah g1) rfl
theorem Ym(ah:(ab+(ae+(1:Nat)))<(1000000:Nat)):((ab+(1:Nat))+ae)<(1000000:Nat):=eP λg1=>no (c:=[ab,ae]) (l:=.a (.a (.a (.v 0) (.a (.v 1) (.n 1))) (.n 1)) (.n 1000000)) (r:=.a (.n 1000000) (.a (.a (.v 0) (.n 1)) (.v 1))) (aF.a ah g1) rfl
theorem uM(ah:(ab+(ae+(1:Nat)))<=(1000:Nat)):((ab+(1:Nat))+ae)<=(1000:Nat):=bz λg1=>no (c:=[ab,ae]) (l:=.a (.a (.v 0) (.a (.v 1) (.n 1))) (.a (.n 1000) (.n 1))) (r:=.a (.n 1000) (.a (.a (.v 0) (.n 1)) (.v 1))) (aF.a ah g1) rfl
theorem so(ah:(ab+(ae+(1:Nat)))<=(1000:Nat)):ab<=(1000000:Nat):=bz λg1=>no (c:=[ab,ae]) (l:=.a (.a (.v 0) (.a (.v 1) (.n 1))) (.a (.n 1000000) (.n 1))) (r:=.a (.n 1000) (.v 0)) (aF.a ah g1) rfl
theorem Yn(ah:ab<=(1000:Nat)):((0:Nat)+ab)<=(1000:Nat):=bz λg1=>no (c:=[ab]) (l:=.a (.v 0) (.a (.n 1000) (.n 1))) (r:=.a (.n 1000) (.a (.n 0) (.v 0))) (aF.a ah g1) rfl
theorem Ka(ah:ab<=(100:Nat)):((0:Nat)+ab)<(1000000:Nat):=eP λg1=>no (c:=[ab]) (l:=.a (.v 0) (.n 1000000)) (r:=.a (.n 100) (.a (.n 0) (.v 0))) (aF.a ah g1) rfl
theorem Yo(ah:ab<=(100:Nat)):ab<=(1000:Nat):=bz λg1=>no (c:=[ab]) (l:=.a (.v 0) (.a (.n 1000) (.n 1))) (r:=.a (.n 100) (.v 0)) (aF.a ah g1) rfl
theorem Yp(ah:((ab+(1:Nat))+(1:Nat))=ae)(h1:aK<=ab):aK<=ae:=bz λg1=>no (c:=[ab,ae,aK]) (l:=.a (.a (.a (.a (.v 0) (.n 1)) (.n 1)) (.v 2)) (.a (.v 1) (.n 1))) (r:=.a (.a (.v 1) (.v 0)) (.v 2)) (aF.a (aF.a (dR ah) h1) g1) rfl
theorem Yq(ah:ab<ae)(h1:ae<=aK):ab<(aK+(1:Nat)):=eP λg1=>no (c:=[ab,ae,aK]) (l:=.a (.a (.a (.v 0) (.n 1)) (.v 1)) (.a (.v 2) (.n 1))) (r:=.a (.a (.v 1) (.v 2)) (.v 0)) (aF.a (aF.a ah h1) g1) rfl
theorem Yr{ab ae aK:Nat}(ah:ab<ae)(h1:ae<=aK):ab≠aK:=λg1=>no (c:=[ab,ae,aK]) (l:=.a (.a (.a (.v 0) (.n 1)) (.v 1)) (.v 2)) (r:=.a (.a (.v 1) (.v 2)) (.v 0)) (aF.a (aF.a ah h1) (dR (Eq.symm g1))) rfl
theorem Ys(ah:((ab+(1:Nat))+(1:Nat))=ae)(h1:ae<=aK):(ab+(1:Nat))<aK:=eP λg1=>no (c:=[ab,ae,aK]) (l:=.a (.a (.a (.a (.v 0) (.n 1)) (.n 1)) (.v 1)) (.v 2)) (r:=.a (.a (.v 1) (.v 2)) (.a (.v 0) (.n 1))) (aF.a (aF.a (dR ah) h1) g1) rfl
theorem Yt(ah:((ab+(1:Nat))+(1:Nat))=ae)(h1:ae<=aK):(ab+(1:Nat))<=aK:=bz λg1=>no (c:=[ab,ae,aK]) (l:=.a (.a (.a (.a (.v 0) (.n 1)) (.n 1)) (.v 1)) (.a (.v 2) (.n 1))) (r:=.a (.a (.v 1) (.v 2)) (.a (.v 0) (.n 1))) (aF.a (aF.a (dR ah) h1) g1) rfl
theorem Kb(ah:ab<=(100:Nat)):ab<=(1000000:Nat):=bz λg1=>no (c:=[ab]) (l:=.a (.v 0) (.a (.n 1000000) (.n 1))) (r:=.a (.n 100) (.v 0)) (aF.a ah g1) rfl
theorem Yu(ah:((ab+(1:Nat))+(1:Nat))=ae):(ab+(1:Nat))<ae:=eP λg1=>no (c:=[ab,ae]) (l:=.a (.a (.a (.v 0) (.n 1)) (.n 1)) (.v 1)) (r:=.a (.v 1) (.a (.v 0) (.n 1))) (aF.a (dR ah) g1) rfl
theorem Yv(ah:ab<=(6:Nat)):ab<(7:Nat):=eP λg1=>no (c:=[ab]) (l:=.a (.v 0) (.n 7)) (r:=.a (.n 6) (.v 0)) (aF.a ah g1) rfl
theorem Kc(ah:(ab+(ae+(1:Nat)))<=(100:Nat)):(ab+ae)<=(100:Nat):=bz λg1=>no (c:=[ab,ae]) (l:=.a (.a (.v 0) (.a (.v 1) (.n 1))) (.a (.n 100) (.n 1))) (r:=.a (.n 100) (.a (.v 0) (.v 1))) (aF.a ah g1) rfl
theorem Yw(ah:(ab+(ae+(1:Nat)))<=(100:Nat)):ab<=(1000000:Nat):=bz λg1=>no (c:=[ab,ae]) (l:=.a (.a (.v 0) (.a (.v 1) (.n 1))) (.a (.n 1000000) (.n 1))) (r:=.a (.n 100) (.v 0)) (aF.a ah g1) rfl
theorem Yx(ah:(ab+(ae+(1:Nat)))<=(100:Nat)):((ab+(1:Nat))+ae)<=(100:Nat):=bz λg1=>no (c:=[ab,ae]) (l:=.a (.a (.v 0) (.a (.v 1) (.n 1))) (.a (.n 100) (.n 1))) (r:=.a (.n 100) (.a (.a (.v 0) (.n 1)) (.v 1))) (aF.a ah g1) rfl
theorem CR(ah:ab<=(6:Nat)):((0:Nat)+ab)<(1000000:Nat):=eP λg1=>no (c:=[ab]) (l:=.a (.v 0) (.n 1000000)) (r:=.a (.n 6) (.a (.n 0) (.v 0))) (aF.a ah g1) rfl
theorem Yy(ah:ab<=(ae-(1:Nat)))(h1:(0:Nat)<ae):(ab+(1:Nat))<=ae:=bz λg1=>no (c:=[ab,(ae-1),ae]) (l:=.a (.a (.v 0) (.a (.v 2) (.n 1))) (.a (.v 1) (.n 1))) (r:=.a (.a (.v 1) (.a (.v 0) (.n 1))) (.v 2)) (aF.a (aF.a ah g1) (dR (Nat.sub_add_cancel (bz λkU=>no (c:=[ae]) (l:=.a (.a (.n 0) (.n 1)) (.a (.v 0) (.n 1))) (r:=.a (.v 0) (.n 1)) (aF.a h1 kU) rfl)))) rfl
theorem Kd:((cj+(1:Int))+((ae:Nat):Int))=(cj+(((ae:Nat):Int)+(1:Int))):=by lia
theorem Yz:(cj+(((ae:Nat):Int)+(1:Int)))=((cj+(1:Int))+((ae:Nat):Int)):=by lia
theorem YA(ah:ab<=(ae+aK))(h1:ae<=(bC+(1:Nat))):ab<=(bC+(aK+(1:Nat))):=bz λg1=>no (c:=[ab,ae,aK,bC]) (l:=.a (.a (.v 0) (.v 1)) (.a (.a (.v 3) (.a (.v 2) (.n 1))) (.n 1))) (r:=.a (.a (.a (.v 1) (.v 2)) (.a (.v 3) (.n 1))) (.v 0)) (aF.a (aF.a ah h1) g1) rfl
theorem Ke(ah:(0:Nat)<ab)(h1:((ab:Nat):Int)=cE):(0:Int)<cE:=by lia
theorem YB(ah:(0:Int)<=cj)(h1:cj<cE):cE≠(0:Int):=by lia
theorem YC(ah:((ab:Nat):Int)=cE)(h1:(0:Int)<=e1)(h2:e1<cE):(Int.toNat e1)<ab:=by lia
theorem Vn(ah:(0:Int)<cj):cj≠(0:Int):=by lia
theorem Vo(ah:(0:Int)<=cj):(0:Int)<=(cj+(1:Int)):=by lia
theorem JN(ah:(ab+(ae+(1:Nat)))<=(1000000:Nat)):ab<=(1000000:Nat):=bz λg1=>no (c:=[ab,ae]) (l:=.a (.a (.v 0) (.a (.v 1) (.n 1))) (.a (.n 1000000) (.n 1))) (r:=.a (.n 1000000) (.v 0)) (aF.a ah g1) rfl
theorem JO(ah:(ab+(ae+(1:Nat)))<=(1000000:Nat)):((ab+(1:Nat))+ae)<=(1000000:Nat):=bz λg1=>no (c:=[ab,ae]) (l:=.a (.a (.v 0) (.a (.v 1) (.n 1))) (.a (.n 1000000) (.n 1))) (r:=.a (.n 1000000) (.a (.a (.v 0) (.n 1)) (.v 1))) (aF.a ah g1) rfl
theorem CM(ah:(ab+(ae+(1:Nat)))<=(900000:Nat)):ab<=(1000000:Nat):=bz λg1=>no (c:=[ab,ae]) (l:=.a (.a (.v 0) (.a (.v 1) (.n 1))) (.a (.n 1000000) (.n 1))) (r:=.a (.n 900000) (.v 0)) (aF.a ah g1) rfl
theorem JP(ah:(ab+((64:Nat)*(ae+(1:Nat))))<=(900000:Nat)):(ab+((64:Nat)*ae))<=(900000:Nat):=bz λg1=>no (c:=[ab,ae]) (l:=.a (.a (.v 0) (.m 64 (.a (.v 1) (.n 1)))) (.a (.n 900000) (.n 1))) (r:=.a (.n 900000) (.a (.v 0) (.m 64 (.v 1)))) (aF.a ah g1) rfl
theorem pn(ah:(ab+(ae+(1:Nat)))<=(900000:Nat)):(ab+ae)<=(900000:Nat):=bz λg1=>no (c:=[ab,ae]) (l:=.a (.a (.v 0) (.a (.v 1) (.n 1))) (.a (.n 900000) (.n 1))) (r:=.a (.n 900000) (.a (.v 0) (.v 1))) (aF.a ah g1) rfl
theorem CN(ah:(ab+(ae+(1:Nat)))<=(900000:Nat)):((ab+(1:Nat))+ae)<=(900000:Nat):=bz λg1=>no (c:=[ab,ae]) (l:=.a (.a (.v 0) (.a (.v 1) (.n 1))) (.a (.n 900000) (.n 1))) (r:=.a (.n 900000) (.a (.a (.v 0) (.n 1)) (.v 1))) (aF.a ah g1) rfl
theorem xX(ah:(ab+((64:Nat)*(ae+(1:Nat))))<=(900000:Nat))(h1:aK<(64:Nat)):(ab+aK)<=(1000000:Nat):=bz λg1=>no (c:=[ab,ae,aK]) (l:=.a (.a (.a (.v 0) (.m 64 (.a (.v 1) (.n 1)))) (.a (.v 2) (.n 1))) (.a (.n 1000000) (.n 1))) (r:=.a (.a (.n 900000) (.n 64)) (.a (.v 0) (.v 2))) (aF.a (aF.a ah h1) g1) rfl
theorem uK(ah:(ab+((64:Nat)*(ae+(1:Nat))))<=(900000:Nat))(h1:aK<(64:Nat))(h2:bC<=(ab+aK)):(bC+((64:Nat)*ae))<=(900000:Nat):=bz λg1=>no (c:=[ab,ae,aK,bC]) (l:=.a (.a (.a (.a (.v 0) (.m 64 (.a (.v 1) (.n 1)))) (.a (.v 2) (.n 1))) (.v 3)) (.a (.n 900000) (.n 1))) (r:=.a (.a (.a (.n 900000) (.n 64)) (.a (.v 0) (.v 2))) (.a (.v 3) (.m 64 (.v 1)))) (aF.a (aF.a (aF.a ah h1) h2) g1) rfl
theorem qW(ah:ab<(64:Nat)):ab<=(1000000:Nat):=bz λg1=>no (c:=[ab]) (l:=.a (.a (.v 0) (.n 1)) (.a (.n 1000000) (.n 1))) (r:=.a (.n 64) (.v 0)) (aF.a ah g1) rfl
theorem Vq(ah:ab<=(1000:Nat)):((0:Nat)+((64:Nat)*ab))<=(900000:Nat):=bz λg1=>no (c:=[ab]) (l:=.a (.m 64 (.v 0)) (.a (.n 900000) (.n 1))) (r:=.a (.m 64 (.n 1000)) (.a (.n 0) (.m 64 (.v 0)))) (aF.a (aF.m 64 ah) g1) rfl
theorem Vr(ah:ab<=(1000:Nat)):((0:Nat)+ab)<=(900000:Nat):=bz λg1=>no (c:=[ab]) (l:=.a (.v 0) (.a (.n 900000) (.n 1))) (r:=.a (.n 1000) (.a (.n 0) (.v 0))) (aF.a ah g1) rfl
theorem Vs(ah:ab<=(900:Nat))(h1:ae<=aK)(h2:aK<ab):ae<=(1000000:Nat):=bz λg1=>no (c:=[ab,ae,aK]) (l:=.a (.a (.a (.v 0) (.v 1)) (.a (.v 2) (.n 1))) (.a (.n 1000000) (.n 1))) (r:=.a (.a (.a (.n 900) (.v 2)) (.v 0)) (.v 1)) (aF.a (aF.a (aF.a ah h1) h2) g1) rfl
theorem Vt(ah:ab<=ae)(h1:aK<=(ab+(1:Nat))):aK<=(ae+(1:Nat)):=bz λg1=>no (c:=[ab,ae,aK]) (l:=.a (.a (.v 0) (.v 2)) (.a (.a (.v 1) (.n 1)) (.n 1))) (r:=.a (.a (.v 1) (.a (.v 0) (.n 1))) (.v 2)) (aF.a (aF.a ah h1) g1) rfl
theorem Vu(ah:ab<=(6:Nat))(h1:ae<=ab):ae<=(6:Nat):=bz λg1=>no (c:=[ab,ae]) (l:=.a (.a (.v 0) (.v 1)) (.a (.n 6) (.n 1))) (r:=.a (.a (.n 6) (.v 0)) (.v 1)) (aF.a (aF.a ah h1) g1) rfl
theorem Vv(ah:ab<=(6:Nat))(h1:ab=ae):((0:Nat)+ae)<(1000000:Nat):=eP λg1=>no (c:=[ab,ae]) (l:=.a (.a (.v 0) (.v 1)) (.n 1000000)) (r:=.a (.a (.n 6) (.v 0)) (.a (.n 0) (.v 1))) (aF.a (aF.a ah (dR (Eq.symm h1))) g1) rfl
theorem Vx(ah:ab<=(900:Nat))(h1:(ae+aK)=ab):ae<=(900:Nat):=bz λg1=>no (c:=[ab,ae,aK]) (l:=.a (.a (.v 0) (.a (.v 1) (.v 2))) (.a (.n 900) (.n 1))) (r:=.a (.a (.n 900) (.v 0)) (.v 1)) (aF.a (aF.a ah (dR h1)) g1) rfl
theorem CO(ah:ab<=(900:Nat)):ab<=(1000000:Nat):=bz λg1=>no (c:=[ab]) (l:=.a (.v 0) (.a (.n 1000000) (.n 1))) (r:=.a (.n 900) (.v 0)) (aF.a ah g1) rfl
theorem Vy{ab ae:Nat}(ah:¬(ab<=ae)):ae<ab:=eP λg1=>no (c:=[ae,ab]) (l:=.a (.a (.v 0) (.n 1)) (.v 1)) (r:=.a (.v 1) (.v 0)) (aF.a (eP ah) g1) rfl
theorem Vz{ab ae aK bC:Nat}(ah:¬(ab<=ae))(h1:ab=(aK+bC)):ae<(aK+bC):=eP λg1=>no (c:=[ae,ab,aK,bC]) (l:=.a (.a (.a (.v 0) (.n 1)) (.v 1)) (.a (.v 2) (.v 3))) (r:=.a (.a (.v 1) (.a (.v 2) (.v 3))) (.v 0)) (aF.a (aF.a (eP ah) (dR h1)) g1) rfl
theorem JQ{ab ae aK:Nat}(ah:ab<(ae+aK)):(ab-ae)<=aK:=bz λg1=>Or.elim (Nat.le_total ae ab) (λcg=>no (c:=[ab,ae,aK,(ab-ae)]) (l:=.a (.a (.a (.v 0) (.n 1)) (.a (.v 2) (.n 1))) (.a (.v 3) (.v 1))) (r:=.a (.a (.a (.v 1) (.v 2)) (.v 3)) (.v 0)) (aF.a (aF.a ah g1) (dR (Nat.sub_add_cancel (bz λkU=>no (c:=[ae,ab]) (l:=.a (.v 0) (.a (.v 1) (.n 1))) (r:=.a (.v 1) (.v 0)) (aF.a cg kU) rfl)))) rfl) (λcg=>no (c:=[aK,(ab-ae)]) (l:=.a (.a (.v 0) (.n 1)) (.v 1)) (r:=.a (.v 1) (.n 0)) (aF.a g1 (dR (Nat.sub_eq_zero_of_le (bz λkU=>no (c:=[ab,ae]) (l:=.a (.v 0) (.a (.v 1) (.n 1))) (r:=.a (.v 1) (.v 0)) (aF.a cg kU) rfl)))) rfl)
theorem VA(ah:ab<=ae):(e1+((ae:Nat):Int))=((e1+((ab:Nat):Int))+(((ae-ab):Nat):Int)):=by lia
theorem VB:((1:Nat)+(ab-(ae-aK)))<=((1:Nat)+ab):=bz λg1=>no (c:=[ab,(ab-(ae-aK))]) (l:=.a (.a (.a (.n 1) (.v 0)) (.n 1)) (.v 1)) (r:=.a (.a (.n 1) (.v 1)) (.v 0)) (aF.a g1 (Nat.sub_le ab (ae-aK))) rfl
theorem VC(ah:ab<ae)(h1:ae<(ab+aK)):((1:Nat)+(aK-(ae-ab)))<((1:Nat)+aK):=eP λg1=>Or.elim (Nat.le_total ab ae) (λcg=>Or.elim (Nat.le_total (ae-ab) aK) (λC1=>no (c:=[ab,ae,aK,(aK-(ae-ab)),(ae-ab)]) (l:=.a (.a (.a (.a (.v 0) (.n 1)) (.a (.n 1) (.v 2))) (.v 1)) (.a (.v 3) (.v 4))) (r:=.a (.a (.a (.v 1) (.a (.n 1) (.v 3))) (.a (.v 4) (.v 0))) (.v 2)) (aF.a (aF.a (aF.a ah g1) (k8 ae ab)) (dR (Nat.sub_add_cancel (bz λkU=>no (c:=[(ae-ab),aK]) (l:=.a (.v 0) (.a (.v 1) (.n 1))) (r:=.a (.v 1) (.v 0)) (aF.a C1 kU) rfl)))) rfl) (λC1=>no (c:=[ae,ab,aK,(ae-ab)]) (l:=.a (.a (.a (.v 0) (.n 1)) (.v 2)) (.a (.v 3) (.v 1))) (r:=.a (.a (.a (.v 1) (.v 2)) (.v 3)) (.v 0)) (aF.a (aF.a h1 C1) (dR (Nat.sub_add_cancel (bz λkU=>no (c:=[ab,ae]) (l:=.a (.a (.v 0) (.n 1)) (.a (.v 1) (.n 1))) (r:=.a (.v 1) (.v 0)) (aF.a ah kU) rfl)))) rfl)) (λcg=>no (c:=[ab,ae]) (l:=.a (.a (.v 0) (.n 1)) (.v 1)) (r:=.a (.v 1) (.v 0)) (aF.a ah cg) rfl)
theorem VD{ab ae aK bC dU fQ iW:Nat}(ah:((ab<=ae)/\(aK<=(bC-dU))))(h1:fQ<=iW):(fQ+ab)<=(iW+ae):=bz λg1=>no (c:=[ab,ae,fQ,iW]) (l:=.a (.a (.v 0) (.v 2)) (.a (.a (.v 3) (.v 1)) (.n 1))) (r:=.a (.a (.v 1) (.v 3)) (.a (.v 2) (.v 0))) (aF.a (aF.a ah.1 h1) g1) rfl
theorem VE{ab ae aK bC dU:Nat}(ah:((ab<=ae)/\(aK<=(bC-dU))))(h1:dU<=bC):(dU+aK)<=bC:=bz λg1=>no (c:=[aK,(bC-dU),bC,dU]) (l:=.a (.a (.v 0) (.a (.v 2) (.n 1))) (.a (.v 1) (.v 3))) (r:=.a (.a (.v 1) (.a (.v 3) (.v 0))) (.v 2)) (aF.a (aF.a ah.2 g1) (dR (Nat.sub_add_cancel (bz λkU=>no (c:=[dU,bC]) (l:=.a (.v 0) (.a (.v 1) (.n 1))) (r:=.a (.v 1) (.v 0)) (aF.a h1 kU) rfl)))) rfl
theorem VG(ah:(32:Nat)<=ab)(h1:ab<ae)(h2:ae<=(28:Nat)):False:=no (c:=[ab,ae]) (l:=.a (.a (.n 32) (.a (.v 0) (.n 1))) (.v 1)) (r:=.a (.a (.v 0) (.v 1)) (.n 28)) (aF.a (aF.a ah h1) h2) rfl
theorem VH(ah:(32:Nat)<=ab)(h1:ab<=ae)(h2:ae<=(28:Nat)):False:=no (c:=[ab,ae]) (l:=.a (.a (.n 32) (.v 0)) (.v 1)) (r:=.a (.a (.v 0) (.v 1)) (.n 28)) (aF.a (aF.a ah h1) h2) rfl
theorem VI(ah:(32:Nat)<=ab)(h1:ab<=ae)(h2:ae<=(4:Nat)):False:=no (c:=[ab,ae]) (l:=.a (.a (.n 32) (.v 0)) (.v 1)) (r:=.a (.a (.v 0) (.v 1)) (.n 4)) (aF.a (aF.a ah h1) h2) rfl
theorem VJ{ab ae aK bC dU fQ:Nat}(ah:(ab+ae)=aK)(h1:(bC+dU)=fQ):((bC+ab)+(dU+ae))=(fQ+aK):=Nat.le_antisymm (bz λg2=>no (c:=[ab,ae,aK,bC,dU,fQ]) (l:=.a (.a (.a (.v 0) (.v 1)) (.a (.v 3) (.v 4))) (.a (.a (.v 5) (.v 2)) (.n 1))) (r:=.a (.a (.v 2) (.v 5)) (.a (.a (.v 3) (.v 0)) (.a (.v 4) (.v 1)))) (aF.a (aF.a (dR ah) (dR h1)) g2) rfl) (bz λg3=>no (c:=[aK,ab,ae,fQ,bC,dU]) (l:=.a (.a (.v 0) (.v 3)) (.a (.a (.a (.v 4) (.v 1)) (.a (.v 5) (.v 2))) (.n 1))) (r:=.a (.a (.a (.v 1) (.v 2)) (.a (.v 4) (.v 5))) (.a (.v 3) (.v 0))) (aF.a (aF.a (dR (Eq.symm ah)) (dR (Eq.symm h1))) g3) rfl)
theorem VK{ab ae aK bC:Nat}(ah:ab<ae)(h1:aK<=bC):(ab+aK)<(ae+bC):=eP λg1=>no (c:=[ab,ae,aK,bC]) (l:=.a (.a (.a (.v 0) (.n 1)) (.v 2)) (.a (.v 1) (.v 3))) (r:=.a (.a (.v 1) (.v 3)) (.a (.v 0) (.v 2))) (aF.a (aF.a ah h1) g1) rfl
theorem VL(ah:(0:Int)<=cj)(h1:cj<(256:Int)):(cj/ (256:Int))=(0:Int):=by lia
theorem VM(ah:(0:Int)<=cj)(h1:cj<(256:Int)):(cj % (256:Int))=cj:=by omega
theorem VN(ah:ab<=(ae+(1:Nat)))(h1:aK<=(ab+bC)):aK<=(ae+(bC+(1:Nat))):=bz λg1=>no (c:=[ab,ae,aK,bC]) (l:=.a (.a (.v 0) (.v 2)) (.a (.a (.v 1) (.a (.v 3) (.n 1))) (.n 1))) (r:=.a (.a (.a (.v 1) (.n 1)) (.a (.v 0) (.v 3))) (.v 2)) (aF.a (aF.a ah h1) g1) rfl
theorem VO(ah:ab<=(13000:Nat))(h1:ae<=aK)(h2:aK<=(1000:Nat)):(ae+((64:Nat)*ab))<=(900000:Nat):=bz λg1=>no (c:=[ab,ae,aK]) (l:=.a (.a (.a (.m 64 (.v 0)) (.v 1)) (.v 2)) (.a (.n 900000) (.n 1))) (r:=.a (.a (.a (.m 64 (.n 13000)) (.v 2)) (.n 1000)) (.a (.v 1) (.m 64 (.v 0)))) (aF.a (aF.a (aF.a (aF.m 64 ah) h1) h2) g1) rfl
theorem VP(ah:ab<=(13000:Nat))(h1:ae<=aK)(h2:aK<=(1000:Nat)):(ae+ab)<=(900000:Nat):=bz λg1=>no (c:=[ab,ae,aK]) (l:=.a (.a (.a (.v 0) (.v 1)) (.v 2)) (.a (.n 900000) (.n 1))) (r:=.a (.a (.a (.n 13000) (.v 2)) (.n 1000)) (.a (.v 1) (.v 0))) (aF.a (aF.a (aF.a ah h1) h2) g1) rfl
theorem VR(ah:ab<=(13000:Nat))(h1:ae<=(800000:Nat)):(ae+ab)<=(900000:Nat):=bz λg1=>no (c:=[ab,ae]) (l:=.a (.a (.v 0) (.v 1)) (.a (.n 900000) (.n 1))) (r:=.a (.a (.n 13000) (.n 800000)) (.a (.v 1) (.v 0))) (aF.a (aF.a ah h1) g1) rfl
theorem VS(ah:ab<=(ae+aK))(h1:aK<=bC)(h2:bC<=dU)(aR:dU<=(51:Nat))(h4:ae<=fQ):ab<=(fQ+(51:Nat)):=bz λg1=>no (c:=[ab,ae,aK,bC,dU,fQ]) (l:=.a (.a (.a (.a (.a (.v 0) (.v 2)) (.v 3)) (.v 4)) (.v 1)) (.a (.a (.v 5) (.n 51)) (.n 1))) (r:=.a (.a (.a (.a (.a (.a (.v 1) (.v 2)) (.v 3)) (.v 4)) (.n 51)) (.v 5)) (.v 0)) (aF.a (aF.a (aF.a (aF.a (aF.a ah h1) h2) aR) h4) g1) rfl
theorem VT(ah:ab<=ae)(h1:ae<=aK)(h2:aK<=(51:Nat))(aR:bC<=dU):(bC+ab)<=(dU+(51:Nat)):=bz λg1=>no (c:=[ab,ae,aK,bC,dU]) (l:=.a (.a (.a (.a (.v 0) (.v 1)) (.v 2)) (.v 3)) (.a (.a (.v 4) (.n 51)) (.n 1))) (r:=.a (.a (.a (.a (.v 1) (.v 2)) (.n 51)) (.v 4)) (.a (.v 3) (.v 0))) (aF.a (aF.a (aF.a (aF.a ah h1) h2) aR) g1) rfl
theorem VU(ah:ab<=(51:Nat))(h1:ae<=ab)(h2:aK<=bC)(aR:bC<=ae)(h4:dU<=(800000:Nat)):(dU+aK)<=(1000000:Nat):=bz λg1=>no (c:=[ab,ae,aK,bC,dU]) (l:=.a (.a (.a (.a (.a (.v 0) (.v 1)) (.v 2)) (.v 3)) (.v 4)) (.a (.n 1000000) (.n 1))) (r:=.a (.a (.a (.a (.a (.n 51) (.v 0)) (.v 3)) (.v 1)) (.n 800000)) (.a (.v 4) (.v 2))) (aF.a (aF.a (aF.a (aF.a (aF.a ah h1) h2) aR) h4) g1) rfl
theorem VV(ah:ab<=(51:Nat))(h1:ae<=ab)(h2:aK<=bC)(aR:bC<=ae):((0:Nat)+aK)<(1000000:Nat):=eP λg1=>no (c:=[ab,ae,aK,bC]) (l:=.a (.a (.a (.a (.v 0) (.v 1)) (.v 2)) (.v 3)) (.n 1000000)) (r:=.a (.a (.a (.a (.n 51) (.v 0)) (.v 3)) (.v 1)) (.a (.n 0) (.v 2))) (aF.a (aF.a (aF.a (aF.a ah h1) h2) aR) g1) rfl
theorem JR(ah:ab=ae)(h1:ae<=(70:Nat)):ab<=(1000000:Nat):=bz λg1=>no (c:=[ab,ae]) (l:=.a (.a (.v 0) (.v 1)) (.a (.n 1000000) (.n 1))) (r:=.a (.a (.v 1) (.n 70)) (.v 0)) (aF.a (aF.a (dR ah) h1) g1) rfl
theorem VW(ah:ab<=ae):¬(((ae:Nat):Int)<((ab:Nat):Int)):=by omega
theorem JS(ah:ab<=(6:Nat)):ab<=(1000000:Nat):=bz λg1=>no (c:=[ab]) (l:=.a (.v 0) (.a (.n 1000000) (.n 1))) (r:=.a (.n 6) (.v 0)) (aF.a ah g1) rfl
theorem VX(ah:ab<=(51:Nat))(h1:ae<=ab)(h2:aK<=bC)(aR:bC<=ae):aK<=(13000:Nat):=bz λg1=>no (c:=[ab,ae,aK,bC]) (l:=.a (.a (.a (.a (.v 0) (.v 1)) (.v 2)) (.v 3)) (.a (.n 13000) (.n 1))) (r:=.a (.a (.a (.a (.n 51) (.v 0)) (.v 3)) (.v 1)) (.v 2)) (aF.a (aF.a (aF.a (aF.a ah h1) h2) aR) g1) rfl
theorem JT(ah:ab<=(6:Nat)):ab<=(100:Nat):=bz λg1=>no (c:=[ab]) (l:=.a (.v 0) (.a (.n 100) (.n 1))) (r:=.a (.n 6) (.v 0)) (aF.a ah g1) rfl
theorem VY(ah:(((0:Int)<=cj)/\(cj<(30:Int)))):cE<=((cE+(5:Int))+cj):=by lia
theorem VZ(ah:ab<=(320:Nat)):ab<(1000000:Nat):=eP λg1=>no (c:=[ab]) (l:=.a (.v 0) (.n 1000000)) (r:=.a (.n 320) (.v 0)) (aF.a ah g1) rfl
theorem JU(ah:ab<=(320:Nat))(h1:ae<=ab):ae<=(900:Nat):=bz λg1=>no (c:=[ab,ae]) (l:=.a (.a (.v 0) (.v 1)) (.a (.n 900) (.n 1))) (r:=.a (.a (.n 320) (.v 0)) (.v 1)) (aF.a (aF.a ah h1) g1) rfl
theorem V0(ah:ab<=(320:Nat))(h1:ae<=ab):((0:Nat)+ae)<=(320:Nat):=bz λg1=>no (c:=[ab,ae]) (l:=.a (.a (.v 0) (.v 1)) (.a (.n 320) (.n 1))) (r:=.a (.a (.n 320) (.v 0)) (.a (.n 0) (.v 1))) (aF.a (aF.a ah h1) g1) rfl
theorem V1(ah:ab<=(700000:Nat))(h1:(ae+(aK+(1:Nat)))<=(320:Nat)):(ab+((51:Nat)*ae))<=(800000:Nat):=bz λg1=>no (c:=[ab,ae,aK]) (l:=.a (.a (.v 0) (.m 51 (.a (.v 1) (.a (.v 2) (.n 1))))) (.a (.n 800000) (.n 1))) (r:=.a (.a (.n 700000) (.m 51 (.n 320))) (.a (.v 0) (.m 51 (.v 1)))) (aF.a (aF.a ah (aF.m 51 h1)) g1) rfl
theorem V2:((ab+((51:Nat)*ae))+(51:Nat))<=(ab+((51:Nat)*(ae+(1:Nat)))):=bz λg1=>no (c:=[ab,ae]) (l:=.a (.a (.v 0) (.m 51 (.a (.v 1) (.n 1)))) (.n 1)) (r:=.a (.a (.v 0) (.m 51 (.v 1))) (.n 51)) g1 rfl
theorem V3(ah:(ab+(ae+(1:Nat)))<=(320:Nat)):((ab+(1:Nat))+ae)<=(320:Nat):=bz λg1=>no (c:=[ab,ae]) (l:=.a (.a (.v 0) (.a (.v 1) (.n 1))) (.a (.n 320) (.n 1))) (r:=.a (.n 320) (.a (.a (.v 0) (.n 1)) (.v 1))) (aF.a ah g1) rfl
theorem V4(ah:(ab+(0:Nat))<=(320:Nat)):(ae+((51:Nat)*ab))<=(ae+((51:Nat)*(320:Nat))):=bz λg1=>no (c:=[ab,ae]) (l:=.a (.m 51 (.a (.v 0) (.n 0))) (.a (.a (.v 1) (.m 51 (.n 320))) (.n 1))) (r:=.a (.m 51 (.n 320)) (.a (.v 1) (.m 51 (.v 0)))) (aF.a (aF.m 51 ah) g1) rfl
theorem V5(ah:ab<(32:Nat)):((0:Nat)+ab)<(1000000:Nat):=eP λg1=>no (c:=[ab]) (l:=.a (.a (.v 0) (.n 1)) (.n 1000000)) (r:=.a (.n 32) (.a (.n 0) (.v 0))) (aF.a ah g1) rfl
theorem V6(ah:ab<(32:Nat))(h1:ae=ab):ae<=(1000000:Nat):=bz λg1=>no (c:=[ab,ae]) (l:=.a (.a (.a (.v 0) (.n 1)) (.v 1)) (.a (.n 1000000) (.n 1))) (r:=.a (.a (.n 32) (.v 0)) (.v 1)) (aF.a (aF.a ah (dR h1)) g1) rfl
theorem V8(ah:ab<=(1000:Nat)):ab<=(1000000:Nat):=bz λg1=>no (c:=[ab]) (l:=.a (.v 0) (.a (.n 1000000) (.n 1))) (r:=.a (.n 1000) (.v 0)) (aF.a ah g1) rfl
theorem xY:((1:Int)+((ab:Nat):Int))=((((1:Nat)+ab):Nat):Int):=by lia
theorem V9(ah:((ab:Nat):Int)<(30:Int)):((1:Nat)+ab)<(32:Nat):=by lia
theorem V'(ah:((ab:Nat):Int)<(30:Int))(h1:ae=((1:Nat)+ab)):ae<=(30:Nat):=by lia
theorem JV(ah:((ab:Nat):Int)<(2:Int)):((1:Nat)+ab)<(32:Nat):=by lia
theorem Wa(ah:((ab:Nat):Int)<(2:Int))(h1:ae<((1:Nat)+ab)):((6:Nat)+ae)<=(1000:Nat):=by lia
theorem Wb(ah:((ab:Nat):Int)<(20:Int)):((1:Nat)+ab)<(32:Nat):=by lia
theorem Wc(ah:((ab:Nat):Int)<(2:Int))(h1:ae<=((1:Nat)+ab)):((6:Nat)+ae)<=(1000:Nat):=by lia
theorem Wd(ah:((ab:Nat):Int)<(3:Int)):(((1:Int)<=((1:Int)+((ab:Nat):Int)))/\(((1:Int)+((ab:Nat):Int))<=(3:Int))):=by lia
theorem We(ah:((ab:Nat):Int)<(2:Int))(h1:ae<=((1:Nat)+ab))(h2:((1:Nat)+ab)<=ae):((ae=(1:Nat))\/(ae=(2:Nat))):=by lia
theorem Wg(ah:((ab:Nat):Int)<(20:Int))(h1:ae=((1:Nat)+ab)):ae<=(20:Nat):=by lia
theorem Wh{ab ae aK:Nat}(ah:ab<=ae):(aK+ab)<=(aK+ae):=bz λg1=>no (c:=[ab,ae,aK]) (l:=.a (.v 0) (.a (.a (.v 2) (.v 1)) (.n 1))) (r:=.a (.v 1) (.a (.v 2) (.v 0))) (aF.a ah g1) rfl
theorem Wi{ab ae aK:Nat}(ah:ab<=ae):ab<=(aK+ae):=bz λg1=>no (c:=[ab,ae,aK]) (l:=.a (.v 0) (.a (.a (.v 2) (.v 1)) (.n 1))) (r:=.a (.v 1) (.v 0)) (aF.a ah g1) rfl
theorem Wj(ah:ab<=ae)(h1:aK<=(4:Nat)):(aK+ab)<=(ae+(4:Nat)):=bz λg1=>no (c:=[ab,ae,aK]) (l:=.a (.a (.v 0) (.v 2)) (.a (.a (.v 1) (.n 4)) (.n 1))) (r:=.a (.a (.v 1) (.n 4)) (.a (.v 2) (.v 0))) (aF.a (aF.a ah h1) g1) rfl
theorem Wk(ah:(ab+((51:Nat)*(ae+(1:Nat))))<=(306:Nat))(h1:aK<=(51:Nat))(h2:bC<=aK)(aR:dU<=bC)(h4:fQ<=ab):(fQ+dU)<=(1000000:Nat):=bz λg1=>no (c:=[ab,ae,aK,bC,dU,fQ]) (l:=.a (.a (.a (.a (.a (.a (.v 0) (.m 51 (.a (.v 1) (.n 1)))) (.v 2)) (.v 3)) (.v 4)) (.v 5)) (.a (.n 1000000) (.n 1))) (r:=.a (.a (.a (.a (.a (.n 306) (.n 51)) (.v 2)) (.v 3)) (.v 0)) (.a (.v 5) (.v 4))) (aF.a (aF.a (aF.a (aF.a (aF.a ah h1) h2) aR) h4) g1) rfl
theorem Wl(ah:(ab+((51:Nat)*(ae+(1:Nat))))<=aK):(ab+((51:Nat)*ae))<=aK:=bz λg1=>no (c:=[ab,ae,aK]) (l:=.a (.a (.v 0) (.m 51 (.a (.v 1) (.n 1)))) (.a (.v 2) (.n 1))) (r:=.a (.v 2) (.a (.v 0) (.m 51 (.v 1)))) (aF.a ah g1) rfl
theorem Wm(ah:(ab+((51:Nat)*(ae+(1:Nat))))<=(306:Nat))(h1:aK<=(51:Nat))(h2:bC<=aK):((ab+bC)+((51:Nat)*ae))<=(306:Nat):=bz λg1=>no (c:=[ab,ae,aK,bC]) (l:=.a (.a (.a (.a (.v 0) (.m 51 (.a (.v 1) (.n 1)))) (.v 2)) (.v 3)) (.a (.n 306) (.n 1))) (r:=.a (.a (.a (.n 306) (.n 51)) (.v 2)) (.a (.a (.v 0) (.v 3)) (.m 51 (.v 1)))) (aF.a (aF.a (aF.a ah h1) h2) g1) rfl
theorem Wn(ah:ab<=(51:Nat))(h1:ae<=ab)(h2:aK<=ae):aK<=(13000:Nat):=bz λg1=>no (c:=[ab,ae,aK]) (l:=.a (.a (.a (.v 0) (.v 1)) (.v 2)) (.a (.n 13000) (.n 1))) (r:=.a (.a (.a (.n 51) (.v 0)) (.v 1)) (.v 2)) (aF.a (aF.a (aF.a ah h1) h2) g1) rfl
theorem Wo(ah:ab<=(700000:Nat))(h1:(ae+((51:Nat)*(aK+(1:Nat))))<=ab)(h2:bC<=ae):bC<=(800000:Nat):=bz λg1=>no (c:=[ab,ae,aK,bC]) (l:=.a (.a (.a (.v 0) (.a (.v 1) (.m 51 (.a (.v 2) (.n 1))))) (.v 3)) (.a (.n 800000) (.n 1))) (r:=.a (.a (.a (.n 700000) (.v 0)) (.v 1)) (.v 3)) (aF.a (aF.a (aF.a ah h1) h2) g1) rfl
theorem Wq(ah:(ab+((51:Nat)*(ae+(1:Nat))))<=aK):((ab+(51:Nat))+((51:Nat)*ae))<=aK:=bz λg1=>no (c:=[ab,ae,aK]) (l:=.a (.a (.v 0) (.m 51 (.a (.v 1) (.n 1)))) (.a (.v 2) (.n 1))) (r:=.a (.v 2) (.a (.a (.v 0) (.n 51)) (.m 51 (.v 1)))) (aF.a ah g1) rfl
theorem Ws(ah:(ab+((51:Nat)*(ae+(1:Nat))))<=(306:Nat)):(ab+((51:Nat)*ae))<=(306:Nat):=bz λg1=>no (c:=[ab,ae]) (l:=.a (.a (.v 0) (.m 51 (.a (.v 1) (.n 1)))) (.a (.n 306) (.n 1))) (r:=.a (.n 306) (.a (.v 0) (.m 51 (.v 1)))) (aF.a ah g1) rfl
theorem Wt(ah:ab<=(900000:Nat)):((0:Nat)+ab)<(1000000:Nat):=by lia
theorem JW(ah:ab<=(306:Nat))(h1:ae<=ab):ae<=(900:Nat):=bz λg1=>no (c:=[ab,ae]) (l:=.a (.a (.v 0) (.v 1)) (.a (.n 900) (.n 1))) (r:=.a (.a (.n 306) (.v 0)) (.v 1)) (aF.a (aF.a ah h1) g1) rfl
theorem Wu(ah:ab<=(306:Nat))(h1:ae<=(ab+(4:Nat)))(h2:aK<=ae):aK<=(1000000:Nat):=bz λg1=>no (c:=[ab,ae,aK]) (l:=.a (.a (.a (.v 0) (.v 1)) (.v 2)) (.a (.n 1000000) (.n 1))) (r:=.a (.a (.a (.n 306) (.a (.v 0) (.n 4))) (.v 1)) (.v 2)) (aF.a (aF.a (aF.a ah h1) h2) g1) rfl
theorem Wv(ah:ab<=(306:Nat))(h1:ae<=(ab+(4:Nat)))(h2:aK<=ae):aK<=(900000:Nat):=bz λg1=>no (c:=[ab,ae,aK]) (l:=.a (.a (.a (.v 0) (.v 1)) (.v 2)) (.a (.n 900000) (.n 1))) (r:=.a (.a (.a (.n 306) (.a (.v 0) (.n 4))) (.v 1)) (.v 2)) (aF.a (aF.a (aF.a ah h1) h2) g1) rfl
theorem Ww(ah:ab<=(306:Nat))(h1:ae<=(ab+(4:Nat))):ae<=(320:Nat):=bz λg1=>no (c:=[ab,ae]) (l:=.a (.a (.v 0) (.v 1)) (.a (.n 320) (.n 1))) (r:=.a (.a (.n 306) (.a (.v 0) (.n 4))) (.v 1)) (aF.a (aF.a ah h1) g1) rfl
theorem Wx(ah:ab<=(680000:Nat)):ab<=(700000:Nat):=bz λg1=>no (c:=[ab]) (l:=.a (.v 0) (.a (.n 700000) (.n 1))) (r:=.a (.n 680000) (.v 0)) (aF.a ah g1) rfl
theorem Wy{cj cE:Int}(ah:cj<=cE):¬(cE<cj):=by lia
theorem Wz(ah:ab<=(6:Nat)):(ae+((51:Nat)*ab))<=(ae+(306:Nat)):=bz λg1=>no (c:=[ab,ae]) (l:=.a (.m 51 (.v 0)) (.a (.a (.v 1) (.n 306)) (.n 1))) (r:=.a (.m 51 (.n 6)) (.a (.v 1) (.m 51 (.v 0)))) (aF.a (aF.m 51 ah) g1) rfl
theorem WA(ah:ab<=(6:Nat)):((0:Nat)+((51:Nat)*ab))<=(306:Nat):=bz λg1=>no (c:=[ab]) (l:=.a (.m 51 (.v 0)) (.a (.n 306) (.n 1))) (r:=.a (.m 51 (.n 6)) (.a (.n 0) (.m 51 (.v 0)))) (aF.a (aF.m 51 ah) g1) rfl
theorem WC(ah:ab<=(600000:Nat)):(ab+(306:Nat))<=(700000:Nat):=bz λg1=>no (c:=[ab]) (l:=.a (.v 0) (.a (.n 700000) (.n 1))) (r:=.a (.n 600000) (.a (.v 0) (.n 306))) (aF.a ah g1) rfl
theorem WD(ah:ab<=(600000:Nat)):(ab+(306:Nat))<=(680000:Nat):=bz λg1=>no (c:=[ab]) (l:=.a (.v 0) (.a (.n 680000) (.n 1))) (r:=.a (.n 600000) (.a (.v 0) (.n 306))) (aF.a ah g1) rfl
theorem WE:(ab+((51:Nat)*(326:Nat)))=((ab+(306:Nat))+((51:Nat)*(320:Nat))):=Nat.le_antisymm (bz λg2=>no (c:=[ab]) (l:=.a (.a (.a (.v 0) (.n 306)) (.m 51 (.n 320))) (.n 1)) (r:=.a (.v 0) (.m 51 (.n 326))) g2 rfl) (bz λg3=>no (c:=[ab]) (l:=.a (.a (.v 0) (.m 51 (.n 326))) (.n 1)) (r:=.a (.a (.v 0) (.n 306)) (.m 51 (.n 320))) g3 rfl)
theorem WG(ah:ab<=(30:Nat))(h1:ae<=((30:Nat)*aK)):(ab+ae)<=((30:Nat)*(aK+(1:Nat))):=bz λg1=>no (c:=[ab,ae,aK]) (l:=.a (.a (.v 0) (.v 1)) (.a (.m 30 (.a (.v 2) (.n 1))) (.n 1))) (r:=.a (.a (.n 30) (.m 30 (.v 2))) (.a (.v 0) (.v 1))) (aF.a (aF.a ah h1) g1) rfl
theorem WH(ah:ab<=(3:Nat))(h1:ae<=((30:Nat)*ab)):ae<=(1000:Nat):=bz λg1=>no (c:=[ab,ae]) (l:=.a (.a (.m 30 (.v 0)) (.v 1)) (.a (.n 1000) (.n 1))) (r:=.a (.a (.m 30 (.n 3)) (.m 30 (.v 0))) (.v 1)) (aF.a (aF.a (aF.m 30 ah) h1) g1) rfl
theorem WI(ah:ab<=(3:Nat)):ab<=(1000:Nat):=bz λg1=>no (c:=[ab]) (l:=.a (.v 0) (.a (.n 1000) (.n 1))) (r:=.a (.n 3) (.v 0)) (aF.a ah g1) rfl
theorem JX(ah:cj<=cE):(cj+(0:Int))<=cE:=by lia
theorem JY(ah:cj<(cE+((aK:Nat):Int)))(h1:cj<(cE+((bC:Nat):Int))):cj<((cE+(0:Int))+(((min bC aK):Nat):Int)):=by lia
theorem JZ(ah:¬(cj<(cE+((aK:Nat):Int)))):(cE+((aK:Nat):Int))<=cj:=by lia
theorem J0(ah:cj<(cE+((aK:Nat):Int))):cj<((cE+((bC:Nat):Int))+(((aK-bC):Nat):Int)):=by lia
theorem J1(ah:cj<=cE)(h1:cE<(cj+((aK:Nat):Int))):(Int.toNat (cE-cj))<aK:=by omega
theorem J2(ah:cj<=cE):(cj+(((Int.toNat (cE-cj)):Nat):Int))=cE:=by lia
theorem WL(ah:((ab:Nat):Int)<(64:Int)):ab<(64:Nat):=by omega
theorem WM(ah:cj<(64:Int)):cj<(256:Int):=by omega
theorem WN(ah:ab<=(100:Nat))(h1:ae=ab):ae<=(1000000:Nat):=bz λg1=>no (c:=[ab,ae]) (l:=.a (.a (.v 0) (.v 1)) (.a (.n 1000000) (.n 1))) (r:=.a (.a (.n 100) (.v 0)) (.v 1)) (aF.a (aF.a ah (dR h1)) g1) rfl
theorem WO:(0:Int)<=((ab:Nat):Int):=by lia
theorem WQ(ah:ab<(64:Nat)):((ab:Nat):Int)<(64:Int):=by omega
theorem WR(ah:ab<(64:Nat)):((1:Nat)+ab)<=(1000000:Nat):=bz λg1=>no (c:=[ab]) (l:=.a (.a (.v 0) (.n 1)) (.a (.n 1000000) (.n 1))) (r:=.a (.n 64) (.a (.n 1) (.v 0))) (aF.a ah g1) rfl
theorem WS(ah:(((1:Int)<=cj)/\(cj<=(3:Int)))):(0:Int)<=cj:=by lia
theorem WT(ah:(((1:Int)<=cj)/\(cj<=(3:Int)))):cj<(64:Int):=by omega
theorem J3(ah:ab<=(20:Nat)):ab<=(30:Nat):=bz λg1=>no (c:=[ab]) (l:=.a (.v 0) (.a (.n 30) (.n 1))) (r:=.a (.n 20) (.v 0)) (aF.a ah g1) rfl
theorem CP(ah:ab<=(30:Nat)):((0:Int)+((ab:Nat):Int))<(64:Int):=by lia
theorem J4(ah:ab<=(20:Nat)):((0:Int)+((ab:Nat):Int))<(64:Int):=by omega
theorem uL(ah:cj<((ae:Nat):Int)):cj<((0:Int)+((ae:Nat):Int)):=by lia
theorem WV(ah:ab<=(20:Nat))(h1:ae<=(30:Nat)):((1:Nat)+((1:Nat)+((1:Nat)+((1:Nat)+((1:Nat)+((1:Nat)+(((1:Nat)+ae)+(((1:Nat)+ab)+(0:Nat)))))))))<=(320:Nat):=bz λg1=>no (c:=[ab,ae]) (l:=.a (.a (.v 0) (.v 1)) (.a (.n 320) (.n 1))) (r:=.a (.a (.n 20) (.n 30)) (.a (.n 1) (.a (.n 1) (.a (.n 1) (.a (.n 1) (.a (.n 1) (.a (.n 1) (.a (.a (.n 1) (.v 1)) (.a (.a (.n 1) (.v 0)) (.n 0)))))))))) (aF.a (aF.a ah h1) g1) rfl
theorem WW(ah:ab<=(20:Nat))(h1:ae<=(30:Nat))(h2:aK<=(30:Nat)):((1:Nat)+((1:Nat)+((1:Nat)+((1:Nat)+((1:Nat)+((1:Nat)+(((1:Nat)+ae)+(((1:Nat)+aK)+(((1:Nat)+ab)+(0:Nat))))))))))<=(320:Nat):=bz λg1=>no (c:=[ab,ae,aK]) (l:=.a (.a (.a (.v 0) (.v 1)) (.v 2)) (.a (.n 320) (.n 1))) (r:=.a (.a (.a (.n 20) (.n 30)) (.n 30)) (.a (.n 1) (.a (.n 1) (.a (.n 1) (.a (.n 1) (.a (.n 1) (.a (.n 1) (.a (.a (.n 1) (.v 1)) (.a (.a (.n 1) (.v 2)) (.a (.a (.n 1) (.v 0)) (.n 0))))))))))) (aF.a (aF.a (aF.a ah h1) h2) g1) rfl
theorem WX:¬((((((ab+(1:Nat))+(1:Nat))+(1:Nat))=(1:Nat))\/((((ab+(1:Nat))+(1:Nat))+(1:Nat))=(2:Nat)))):=λg1=>Or.elim g1 (λcg=>no (c:=[ab]) (l:=.a (.a (.a (.v 0) (.n 1)) (.n 1)) (.n 1)) (r:=.n 1) (dR cg) rfl) (λcg=>no (c:=[ab]) (l:=.a (.a (.a (.v 0) (.n 1)) (.n 1)) (.n 1)) (r:=.n 2) (dR cg) rfl)
theorem WY(ah:ab<ae):((ab:Nat):Int)<((ae:Nat):Int):=by omega
theorem WZ(ah:(ab+(ae+(1:Nat)))<=(1000:Nat))(h1:aK<=(ab+(1:Nat))):(aK+ae)<=(1000:Nat):=bz λg1=>no (c:=[ab,ae,aK]) (l:=.a (.a (.a (.v 0) (.a (.v 1) (.n 1))) (.v 2)) (.a (.n 1000) (.n 1))) (r:=.a (.a (.n 1000) (.a (.v 0) (.n 1))) (.a (.v 2) (.v 1))) (aF.a (aF.a ah h1) g1) rfl
theorem W0:(ab+(ae+(1:Nat)))=((ab+(1:Nat))+ae):=Nat.le_antisymm (bz λg2=>no (c:=[ab,ae]) (l:=.a (.a (.a (.v 0) (.n 1)) (.v 1)) (.n 1)) (r:=.a (.v 0) (.a (.v 1) (.n 1))) g2 rfl) (bz λg3=>no (c:=[ab,ae]) (l:=.a (.a (.v 0) (.a (.v 1) (.n 1))) (.n 1)) (r:=.a (.a (.v 0) (.n 1)) (.v 1)) g3 rfl)
theorem W2(ah:ab<=(6:Nat))(h1:ae<=aK):(ae+((51:Nat)*ab))<=(aK+(306:Nat)):=bz λg1=>no (c:=[ab,ae,aK]) (l:=.a (.a (.m 51 (.v 0)) (.v 1)) (.a (.a (.v 2) (.n 306)) (.n 1))) (r:=.a (.a (.m 51 (.n 6)) (.v 2)) (.a (.v 1) (.m 51 (.v 0)))) (aF.a (aF.a (aF.m 51 ah) h1) g1) rfl
theorem W3(ah:ab<=ae)(h1:ae<=aK)(h2:aK<=(51:Nat)):ab<=(13000:Nat):=bz λg1=>no (c:=[ab,ae,aK]) (l:=.a (.a (.a (.v 0) (.v 1)) (.v 2)) (.a (.n 13000) (.n 1))) (r:=.a (.a (.a (.v 1) (.v 2)) (.n 51)) (.v 0)) (aF.a (aF.a (aF.a ah h1) h2) g1) rfl
theorem W4(ah:ab<=(700000:Nat))(h1:(ae+((51:Nat)*(aK+(1:Nat))))<=(ab+(306:Nat))):ae<=(800000:Nat):=bz λg1=>no (c:=[ab,ae,aK]) (l:=.a (.a (.v 0) (.a (.v 1) (.m 51 (.a (.v 2) (.n 1))))) (.a (.n 800000) (.n 1))) (r:=.a (.a (.n 700000) (.a (.v 0) (.n 306))) (.v 1)) (aF.a (aF.a ah h1) g1) rfl
theorem W5(ah:(ab+((51:Nat)*(ae+(1:Nat))))<=(aK+(306:Nat)))(h1:bC<=dU)(h2:dU<=fQ)(aR:fQ<=(51:Nat))(h4:iW<=(ab+bC)):(iW+((51:Nat)*ae))<=(aK+(306:Nat)):=bz λg1=>no (c:=[ab,ae,aK,bC,dU,fQ,iW]) (l:=.a (.a (.a (.a (.a (.a (.v 0) (.m 51 (.a (.v 1) (.n 1)))) (.v 3)) (.v 4)) (.v 5)) (.v 6)) (.a (.a (.v 2) (.n 306)) (.n 1))) (r:=.a (.a (.a (.a (.a (.a (.v 2) (.n 306)) (.v 4)) (.v 5)) (.n 51)) (.a (.v 0) (.v 3))) (.a (.v 6) (.m 51 (.v 1)))) (aF.a (aF.a (aF.a (aF.a (aF.a ah h1) h2) aR) h4) g1) rfl
theorem W6(ah:ab<=ae)(h1:ae<=(320:Nat)):ab<=(1000:Nat):=bz λg1=>no (c:=[ab,ae]) (l:=.a (.a (.v 0) (.v 1)) (.a (.n 1000) (.n 1))) (r:=.a (.a (.v 1) (.n 320)) (.v 0)) (aF.a (aF.a ah h1) g1) rfl
theorem W7(ah:ab<=ae)(h1:ae<=(320:Nat)):ab<=(900000:Nat):=bz λg1=>no (c:=[ab,ae]) (l:=.a (.a (.v 0) (.v 1)) (.a (.n 900000) (.n 1))) (r:=.a (.a (.v 1) (.n 320)) (.v 0)) (aF.a (aF.a ah h1) g1) rfl
theorem W8(ah:ab<=(700000:Nat))(h1:(ae+((51:Nat)*aK))<=(ab+(306:Nat))):ae<=(900000:Nat):=bz λg1=>no (c:=[ab,ae,aK]) (l:=.a (.a (.v 0) (.a (.v 1) (.m 51 (.v 2)))) (.a (.n 900000) (.n 1))) (r:=.a (.a (.n 700000) (.a (.v 0) (.n 306))) (.v 1)) (aF.a (aF.a ah h1) g1) rfl
theorem W9(ah:ab<(20:Nat)):((32:Nat)+ab)<=(51:Nat):=bz λg1=>no (c:=[ab]) (l:=.a (.a (.v 0) (.n 1)) (.a (.n 51) (.n 1))) (r:=.a (.n 20) (.a (.n 32) (.v 0))) (aF.a ah g1) rfl
theorem Xa(ah:(ab+((17000:Nat)*(ae+(1:Nat))))<=((17000:Nat)*(13:Nat))):ab<=(600000:Nat):=bz λg1=>no (c:=[ab,ae]) (l:=.a (.a (.v 0) (.m 17000 (.a (.v 1) (.n 1)))) (.a (.n 600000) (.n 1))) (r:=.a (.m 17000 (.n 13)) (.v 0)) (aF.a ah g1) rfl
theorem Xb(ah:(ab+((17000:Nat)*(ae+(1:Nat))))<=((17000:Nat)*(13:Nat))):((ab+((51:Nat)*(326:Nat)))+((17000:Nat)*ae))<=((17000:Nat)*(13:Nat)):=by lia
theorem Xc(ah:(ab+((17000:Nat)*(ae+(1:Nat))))<=((17000:Nat)*(13:Nat))):(ab+((51:Nat)*(326:Nat)))<=(700000:Nat):=bz λg1=>no (c:=[ab,ae]) (l:=.a (.a (.v 0) (.m 17000 (.a (.v 1) (.n 1)))) (.a (.n 700000) (.n 1))) (r:=.a (.m 17000 (.n 13)) (.a (.v 0) (.m 51 (.n 326)))) (aF.a ah g1) rfl
theorem Xd(ah:(ab+((17000:Nat)*(0:Nat)))<=((17000:Nat)*(13:Nat))):ab<=(700000:Nat):=bz λg1=>no (c:=[ab]) (l:=.a (.a (.v 0) (.m 17000 (.n 0))) (.a (.n 700000) (.n 1))) (r:=.a (.m 17000 (.n 13)) (.v 0)) (aF.a ah g1) rfl
theorem Xe(ah:ab<=(63:Nat)):ab<=(1000000:Nat):=bz λg1=>no (c:=[ab]) (l:=.a (.v 0) (.a (.n 1000000) (.n 1))) (r:=.a (.n 63) (.v 0)) (aF.a ah g1) rfl
theorem Xf:((0:Nat)+(min (24:Nat) ab))<(1000000:Nat):=by omega
theorem Xg:(min (24:Nat) ab)<=(24:Nat):=by lia
theorem Xh(ah:ab<=(24:Nat)):ab<=(100:Nat):=bz λg1=>no (c:=[ab]) (l:=.a (.v 0) (.a (.n 100) (.n 1))) (r:=.a (.n 24) (.v 0)) (aF.a ah g1) rfl
theorem Xi(ah:(((0:Int)<=((ab:Nat):Int))/\(((ab:Nat):Int)<(20:Int)))):ab<(20:Nat):=by omega
theorem Xj(ah:(((0:Int)<=cj)/\(cj<(64:Int))))(h1:(cj+((ae:Nat):Int))<(64:Int)):ae<(64:Nat):=by lia
theorem Xk(ah:(((0:Int)<=cj)/\(cj<(64:Int))))(h1:(cj+((ae:Nat):Int))<(64:Int))(h2:aK=((1:Nat)+ae))(aR:bC=(2:Nat)):(bC+aK)<=(1000000:Nat):=by omega
theorem Xl:((2:Nat)+((1:Nat)+ab))=((3:Nat)+ab):=by lia
theorem Xn(ah:ab=(1:Nat))(h1:ae=(8:Nat)):(ab+ae)<=(1000000:Nat):=bz λg1=>no (c:=[ab,ae]) (l:=.a (.a (.v 0) (.v 1)) (.a (.n 1000000) (.n 1))) (r:=.a (.a (.n 1) (.n 8)) (.a (.v 0) (.v 1))) (aF.a (aF.a (dR ah) (dR h1)) g1) rfl
theorem Xo(ah:(0:Int)<=cj)(h1:cj<(64:Int)):(((0:Int)<=cj)/\(cj<(64:Int))):=by lia
theorem Xp(ah:ab=(3:Nat)):ab<=(999999:Nat):=bz λg1=>no (c:=[ab]) (l:=.a (.v 0) (.a (.n 999999) (.n 1))) (r:=.a (.n 3) (.v 0)) (aF.a (dR ah) g1) rfl
theorem Xq(ah:ab=(3:Nat)):ab<=(999991:Nat):=bz λg1=>no (c:=[ab]) (l:=.a (.v 0) (.a (.n 999991) (.n 1))) (r:=.a (.n 3) (.v 0)) (aF.a (dR ah) g1) rfl
theorem Xr(ah:ab=(3:Nat)):ab<=(999975:Nat):=bz λg1=>no (c:=[ab]) (l:=.a (.v 0) (.a (.n 999975) (.n 1))) (r:=.a (.n 3) (.v 0)) (aF.a (dR ah) g1) rfl
theorem Xs(ah:(cj+((ae:Nat):Int))<(64:Int))(h1:(0:Int)<=cj):ae<(64:Nat):=by lia
theorem Xu(ah:(cj+((ae:Nat):Int))<(64:Int))(h1:(0:Int)<=cj)(h2:aK<=(3:Nat))(aR:bC=((1:Nat)+ae)):(aK+bC)<=(1000000:Nat):=by lia
theorem Xv(ah:ab=(3:Nat)):ab<=(3:Nat):=bz λg1=>no (c:=[ab]) (l:=.a (.v 0) (.a (.n 3) (.n 1))) (r:=.a (.n 3) (.v 0)) (aF.a (dR ah) g1) rfl
theorem Xw:((3:Nat)+((1:Nat)+ab))=(((3:Nat)+(1:Nat))+ab):=Nat.le_antisymm (bz λg2=>no (c:=[ab]) (l:=.a (.a (.a (.n 3) (.n 1)) (.v 0)) (.n 1)) (r:=.a (.n 3) (.a (.n 1) (.v 0))) g2 rfl) (bz λg3=>no (c:=[ab]) (l:=.a (.a (.n 3) (.a (.n 1) (.v 0))) (.n 1)) (r:=.a (.a (.n 3) (.n 1)) (.v 0)) g3 rfl)
theorem Xx(ah:ab=(2:Nat)):ab<=(3:Nat):=bz λg1=>no (c:=[ab]) (l:=.a (.v 0) (.a (.n 3) (.n 1))) (r:=.a (.n 2) (.v 0)) (aF.a (dR ah) g1) rfl
theorem Xy:((2:Nat)+((1:Nat)+ab))=(((3:Nat)+(0:Nat))+ab):=by lia
theorem J6(ah:(0:Int)<=cj)(h1:cj<(64:Int)):(((0:Int)<=(cj+(((0:Nat):Nat):Int)))/\((cj+(((0:Nat):Nat):Int))<(64:Int))):=by lia
theorem J7(ah:ab<=ae)(h1:(e1+((ae:Nat):Int))<(64:Int)):((e1+(((0:Nat):Nat):Int))+((ab:Nat):Int))<(64:Int):=by lia
theorem Xz(ah:((ab:Nat):Int)<(((ae+(0:Nat)):Nat):Int)):ab<ae:=by lia
theorem XA{ab ae aK:Nat}:(min (min ab (ae-aK)) ab)<=ab:=by omega
theorem XB{ab ae:Nat}(ah:¬(ab<=ae)):¬(ab<ae):=λg1=>no (c:=[ae,ab]) (l:=.a (.a (.v 0) (.n 1)) (.a (.v 1) (.n 1))) (r:=.a (.v 1) (.v 0)) (aF.a (eP ah) g1) rfl
theorem XD{ab ae aK bC:Nat}(ah:¬(ab<=ae))(h1:ab=(aK+bC)):(min bC (ae-aK))=(ae-aK):=by lia
theorem XE(ah:¬(ab<=ae)):¬((((ab-ae):Nat):Int)<(1:Int)):=by lia
theorem J8(ah:ab<=ae)(h1:(e1+((ae:Nat):Int))<(64:Int))(h2:(0:Int)<=e1):(((0:Int)<=(e1+((ab:Nat):Int)))/\((e1+((ab:Nat):Int))<(64:Int))):=by lia
theorem J9(ah:ab<=ae)(h1:(e1+((ae:Nat):Int))<(64:Int)):((e1+((ab:Nat):Int))+(((ae-ab):Nat):Int))<(64:Int):=by omega
theorem XF{ab ae aK:Nat}:(min (ab-ae) aK)<=aK:=by lia
theorem CQ(ah:ab<=(900:Nat)):((0:Nat)+ab)<=(1000:Nat):=bz λg1=>no (c:=[ab]) (l:=.a (.v 0) (.a (.n 1000) (.n 1))) (r:=.a (.n 900) (.a (.n 0) (.v 0))) (aF.a ah g1) rfl
theorem xZ(ah:(ab+(ae+(1:Nat)))<=(1000:Nat)):(ab+ae)<=(1000:Nat):=bz λg1=>no (c:=[ab,ae]) (l:=.a (.a (.v 0) (.a (.v 1) (.n 1))) (.a (.n 1000) (.n 1))) (r:=.a (.n 1000) (.a (.v 0) (.v 1))) (aF.a ah g1) rfl
theorem XG(ah:ab<=ae):(((ae:Nat):Int)-((ab:Nat):Int))=(((ae-ab):Nat):Int):=by lia
theorem XH(ah:((ab<=ae)/\(aK<=ae)))(h1:bC<=(1:Nat))(h2:dU<=(1:Nat)):(((dU+ab)<=(ae+(1:Nat)))/\((bC+aK)<=(ae+(1:Nat)))):=⟨bz λg2=>no (c:=[ab,ae,dU]) (l:=.a (.a (.v 0) (.v 2)) (.a (.a (.v 1) (.n 1)) (.n 1))) (r:=.a (.a (.v 1) (.n 1)) (.a (.v 2) (.v 0))) (aF.a (aF.a ah.1 h2) g2) rfl,bz λg3=>no (c:=[aK,ae,bC]) (l:=.a (.a (.v 0) (.v 2)) (.a (.a (.v 1) (.n 1)) (.n 1))) (r:=.a (.a (.v 1) (.n 1)) (.a (.v 2) (.v 0))) (aF.a (aF.a ah.2 h1) g3) rfl⟩
theorem XI(ah:(0:Nat)<ab):(0:Int)<((ab:Nat):Int):=by omega
theorem XJ(ah:ab<=(900:Nat))(h1:((ae<=ab)/\(aK<=ab))):aK<=(1000000:Nat):=bz λg1=>no (c:=[ab,aK]) (l:=.a (.a (.v 0) (.v 1)) (.a (.n 1000000) (.n 1))) (r:=.a (.a (.n 900) (.v 0)) (.v 1)) (aF.a (aF.a ah h1.2) g1) rfl
theorem XK(ah:(0:Nat)<ab):((ab:Nat):Int)≠(0:Int):=by omega
theorem XM(ah:ab<=(900:Nat))(h1:((ae<=ab)/\(aK<=ab))):ae<=(900:Nat):=bz λg1=>no (c:=[ab,ae]) (l:=.a (.a (.v 0) (.v 1)) (.a (.n 900) (.n 1))) (r:=.a (.a (.n 900) (.v 0)) (.v 1)) (aF.a (aF.a ah h1.1) g1) rfl
theorem XN(ah:ab<=(900:Nat)):((0:Nat)+ab)<(1000000:Nat):=eP λg1=>no (c:=[ab]) (l:=.a (.v 0) (.n 1000000)) (r:=.a (.n 900) (.a (.n 0) (.v 0))) (aF.a ah g1) rfl
end aC
theorem aL(h:True:=by rfl):True:=h
theorem eh(h:True:=by exactλ_=>rfl):True:=h
theorem l3(h:True:=by exactλ_ _ _=>rfl):True:=h
theorem ac6(h:True:=by exact@id False):True:=h
theorem jG(h:True:=by exactλ_=>@id False):True:=h
theorem sT(h:True:=by exactλ_ _ _=>@id False):True:=h
theorem ac7(h:True:=by intro x;cases x):True:=h
theorem cX(h:True:=by exactλ_ _=>@id False):True:=h
theorem pJ(h:True:=by exactλ_ _ _ _=>@id False):True:=h
theorem sU(h:True:=by decide):True:=h
theorem ys(h:True:=by with_unfolding_all rfl):True:=h
theorem vg(h:True:=by intro _;rfl):True:=h
theorem L5(h:True:=by intro _ _;rfl):True:=h
theorem ac4(h:True:=by exactλq=>nomatch q):True:=h
theorem DI(h:True:=by exactλ_=>id):True:=h
theorem ac5(h:True:=by exactλ_ _ _ _=>rfl):True:=h
inductive bq where
 |none
 |int (i:Int)
 |str (x:Str)
 deriving DecidableEq
inductive J where
 |none
 |bool (b:Bool)
 |int (i:Int)
 |str (x:Str)
 |bytes (b:List UInt8)
 |bo (vs:List J)
 |bp (vs:List J)
 |cD (es:List (bq×J))
 |fv (a b c:Int)
 |ref (c:Nat)
 |bY (v:Value)
inductive df where
 |list (vs:List J)
 |cn (es:List (bq×J))
 |b8 (es:List (List bq×J))
 |inst (t:Option J)
 |ej (b:List UInt8)
structure St where
 cells:Nat->Option df
 next:Nat
inductive bQ where
 |free
 |imm (o:Obj)
 |fix (o:Obj)
 |cell (c:Nat)
 |gX (c:Nat)
 |U
noncomputable def bQ.u4:bQ->Nat
 |.free=>0
 |.imm _=>1
 |.fix _=>2
 |.cell _=>3
 |.gX _=>4
 |.U=>5
theorem bQ.no{x a b:bQ}{P:Prop}(r:x=a)(q:x=b)(h:autoParam (Nat.beq a.u4 b.u4=false) aL._auto_1):P:=
 absurd (congrArg bQ.u4 (r.symm.trans q)) (Nat.ne_of_beq_eq_false h)
theorem bQ.ne{x a b:bQ}(r:x=a)(h:autoParam (Nat.beq a.u4 b.u4=false) aL._auto_1):x≠b:=λq=>bQ.no r q h
theorem bQ.uf{x:bQ}(r:x=.imm a)(q:x=.imm b):a=b:=bQ.imm.inj (r.symm.trans q)
theorem e0{P:Prop}(h:∀G:Prop,(P->G)->G):P:=h P id
theorem aq{α:Type}{a:α}{P:Prop}(e:none=some a):P:=nomatch e
theorem el{α:Type}{a:α}{P:Prop}(e:some a=none):P:=nomatch e
theorem xR{P:Prop}(e:true=false):P:=nomatch e
theorem Ij{α bW:Type}{a c:α}{b d:bW}(e:some (a,b)=some (c,d)):a=c:=(Prod.mk.inj (b9 e)).1
theorem Ik{α bW:Type}{a c:α}{b d:bW}(e:some (a,b)=some (c,d)):b=d:=(Prod.mk.inj (b9 e)).2
structure az where
 role:Addr->bQ
 al:Nat->Addr
noncomputable def az.e2(n:Nat)(W W':az):Prop:=(∀a o,W.role a=.imm o->W'.role a=.imm o)/\∀c,c<n->W'.al c=W.al c
noncomputable def az.le(n:Nat)(W W':az):Prop:=W.e2 n W'/\(∀a o,W.role a=.fix o->W'.role a=.fix o)/\∀a,W.role a=.U->W'.role a=.U
theorem az.e2.refl{W:az}:W.e2 n W:=⟨λ_ _ e=>e,λ_ _=>rfl⟩
theorem az.e2.trans{W W' tv:az}(h:W.e2 n W')(aW:n<=gV)(h':W'.e2 gV tv):W.e2 n tv:=
 ⟨λa o e=>h'.1 a o (h.1 a o e),λc aw=>(h'.2 c (jH aw aW)).trans (h.2 c aw)⟩
theorem az.le.refl{W:az}:W.le n W:=⟨az.e2.refl,λ_ _ e=>e,λ_ e=>e⟩
theorem az.le.trans{W W' tv:az}(h:W.le n W')(aW:n<=gV)(h':W'.le gV tv):W.le n tv:=
 ⟨h.1.trans aW h'.1,λa o e=>h'.2.1 a o (h.2.1 a o e),λa e=>h'.2.2 a (h.2.2 a e)⟩
noncomputable def j9:bq->Value->Bool
 |.none,.none=>true
 |.int i,.int ai _=>ai==i
 |.str x,.str y _=>y==x
 |_,_=>false
theorem cT{P:Prop}(e:false=true):P:=nomatch e
inductive hA:bq->Value->Prop
 |none:hA .none .none
 |int (i:Int) (t:Tok):hA (.int i) (.int i t)
 |str (x:Str) (t:Tok):hA (.str x) (.str x t)
theorem hA.of{k:bq}(h:j9 k v=true):hA k v:=
 bq.casesOn (motive:=λk=>j9 k v=true->hA k v) k
  (Value.casesOn (motive:=λv=>j9 .none v=true->hA .none v) v (λ_=>.none) (λh=>cT h) (λh=>cT h) (λ_ h=>cT h) (λ_ _ h=>cT h) (λ_ _ h=>cT h) (λ_ _ h=>cT h) (λ_ _ h=>cT h) (λ_ h=>cT h) (λ_ h=>cT h) (λ_ h=>cT h))
  (λi=>Value.casesOn (motive:=λv=>j9 (.int i) v=true->hA (.int i) v) v (λh=>cT h) (λh=>cT h) (λh=>cT h) (λ_ h=>cT h) (λai t h=>eq_of_beq (show(ai==i)=true from h)▸.int ai t) (λ_ _ h=>cT h) (λ_ _ h=>cT h) (λ_ _ h=>cT h) (λ_ h=>cT h) (λ_ h=>cT h) (λ_ h=>cT h))
  (λx=>Value.casesOn (motive:=λv=>j9 (.str x) v=true->hA (.str x) v) v (λh=>cT h) (λh=>cT h) (λh=>cT h) (λ_ h=>cT h) (λ_ _ h=>cT h) (λ_ _ h=>cT h) (λy t h=>eq_of_beq (show(y==x)=true from h)▸.str y t) (λ_ _ h=>cT h) (λ_ h=>cT h) (λ_ h=>cT h) (λ_ h=>cT h)) h
theorem Fg(h:j9 k v=true):(k=.none/\v=.none)\/(∃i t,k=.int i/\v=.int i t)\/∃x t,k=.str x/\v=.str x t:=
 hA.casesOn (motive:=λk v _=>(k=.none/\v=.none)\/(∃i t,k=.int i/\v=.int i t)\/∃x t,k=.str x/\v=.str x t) (.of h) (.inl ⟨rfl,rfl⟩) (λ_ _=>.inr (.inl ⟨_,_,rfl,rfl⟩)) (λ_ _=>.inr (.inr ⟨_,_,rfl,rfl⟩))
noncomputable def Fh:Value->Option bq
 |.none=>some .none
 |.int i _=>some (.int i)
 |.str x _=>some (.str x)
 |_=>none
theorem hA.rE(h:hA k v):Fh v=some k:=hA.casesOn (motive:=λk v _=>Fh v=some k) h rfl (λ_ _=>rfl) (λ_ _=>rfl)
noncomputable def Nz(w:World):bq->Int
 |.none=>0xFCA86420
 |.int i=>hashInt i
 |.str x=>hashStr w x
section
variable{prog:Program}{w:World}{A:Around}{E:Value->Shared->Prop}{s:Shared}
theorem Y7(h:Q 0xFCA86420 {s with toks:=s.toks+1}):wpAny (model prog w) A (pyHash .none) Q E s:=by
 have hT:s.TypeIs .none "NoneType":=rfl
 unfold pyHash
 have a3:[Value.none].any Value.onHeap=false:=rfl
 refine aM ?_
 rw[cRoomFor,if_neg (by rw[a3];exact fY)];refine bx ?_
 refine aM (wpAny_specialOf hT F.slot_NoneType_hash.lookup ?_)
 show wpAny _ _ (if(some (Value.builtin "NoneType.__hash__")==some Value.none)=true then _ else _) Q E s
 rw[if_neg (by rw[beq_builtin_none];exact fY)]
 refine aM (wpAny_specialOf hT F.slot_NoneType_hash.lookup ?_)
 show wpAny _ _ (callSpecialIfBoundUnlessNone? .none "__hash__" _>>=_) Q E s
 refine aM (wpAny_callSpecialIfBoundUnlessNone?_slot hT F.slot_NoneType_hash
  (wpAny_call_entry F.slot_NoneType_hash hT F.entry_NoneType_hash
    (show wpAny _ _ (do ret (<-mkInt 0xFCA86420)) _ _ s from wpAny_ret_mkInt ?_) (F.args_NoneType_hash_1 _)))
 show wpAny _ _ (if(decide (-(2:Int)^63<=0xFCA86420)&&decide ((0xFCA86420:Int)<2^63))=true then _ else _) Q E _
 rw[if_pos (by decide)]
 exact bx h
theorem rI(b1:a≠b)(hf:∀x t,a≠.float x t)
 (h:wpAny (model prog w) A (compareOp .Eq a b) (λv aY=>∃c,v=.bool c/\Q c aY) E s):wpAny (model prog w) A (eqBool a b) Q E s:=by
 unfold eqBool
 have qj:(a==b)=false:=beq_eq_false_iff_ne.mpr b1
 refine wpAny_holding ?_
 rw[qj,if_neg fY]
 have key:wpAny (model prog w) A (richCompare .Eq a b>>=truthOfDropped) Q E s:=by
  refine aM (wpAny_mono (show wpAny (model prog w) A (richCompare .Eq a b) _ E s from h) (λv aY a3=>?_) λ_ _ e=>e)
  obtain⟨c,rfl,aw⟩:=a3
  exact wpAny_truthy_bool aw
 cases a<;>first|exact key|(exact absurd rfl (hf _ _))
theorem Qf(h:Q true s):wpAny (model prog w) A (eqBool a a) Q E s:=by
 unfold eqBool
 refine wpAny_holding ?_
 rw[beq_self_eq_true]
 exact aM (wpAny_rule (bx h))
theorem Qe(ha:j9 a u=true)(ag:j9 b v=true)(h:Q (decide (a=b)) s):
 wpAny (model prog w) A (eqBool u v) Q E s:=
 hA.casesOn (motive:=λa u _=>∀b v,hA b v->Q (decide (a=b)) s->wpAny (model prog w) A (eqBool u v) Q E s) (.of ha)
  (λb v ag=>hA.casesOn (motive:=λb v _=>Q (decide (bq.none=b)) s->wpAny (model prog w) A (eqBool .none v) Q E s) ag (λh=>Qf h) (λ_ _ h=>rI (λe=>nomatch e) (λ_ _ e=>nomatch e) (EqNone.eq_none_int ⟨_,rfl,h⟩)) (λ_ _ h=>rI (λe=>nomatch e) (λ_ _ e=>nomatch e) (EqNone.eq_none_str ⟨_,rfl,h⟩)))
  (λi t b v ag=>hA.casesOn (motive:=λb v _=>Q (decide (bq.int i=b)) s->wpAny (model prog w) A (eqBool (.int i t) v) Q E s) ag (λh=>rI (λe=>nomatch e) (λ_ _ e=>nomatch e) (EqNone.eq_int_none ⟨_,rfl,h⟩))
    (λai u h=>wpAny_eqBool_int (by rw[show(i==ai)=decide (bq.int i=bq.int ai) from Bool.eq_iff_iff.mpr ⟨λe=>decide_eq_true (congrArg _ (eq_of_beq e)),λe=>beq_iff_eq.mpr (bq.int.inj (of_decide_eq_true e))⟩];exact h)) (λ_ _ h=>rI (λe=>nomatch e) (λ_ _ e=>nomatch e) (EqMixed.eq_int_str ⟨_,rfl,h⟩)))
  (λx t b v ag=>hA.casesOn (motive:=λb v _=>Q (decide (bq.str x=b)) s->wpAny (model prog w) A (eqBool (.str x t) v) Q E s) ag (λh=>rI (λe=>nomatch e) (λ_ _ e=>nomatch e) (EqNone.eq_str_none ⟨_,rfl,h⟩)) (λ_ _ h=>rI (λe=>nomatch e) (λ_ _ e=>nomatch e) (EqMixed.eq_str_int ⟨_,rfl,h⟩))
    (λy u h=>wpAny_eqBool_str (by rw[show decide (x=y)=decide (bq.str x=bq.str y) from Bool.eq_iff_iff.mpr ⟨λe=>decide_eq_true (congrArg _ (of_decide_eq_true e)),λe=>decide_eq_true (bq.str.inj (of_decide_eq_true e))⟩];exact h))) b v (.of ag) h
end
noncomputable def hF(prog:Program)(w:World):KeyKind prog w bq where
 is:=j9
 hash:=Nz w
 inj:=λv a b ha ag=>b9 ((hA.of ha).rE.symm.trans (hA.of ag).rE)
 byValue:=λk v h=>hA.casesOn (motive:=λ_ v _=>carriedByValue v=true) (.of h) rfl (λ_ _=>rfl) (λ_ _=>rfl)
 pyHash:=λa3 h=>by
  rcases Fg a3 with⟨rfl,rfl⟩|⟨i,t,rfl,rfl⟩|⟨x,t,rfl,rfl⟩
  .exact Y7 h
  .exact wpAny_pyHash_int h
  .exact wpAny_pyHash_str h
 eqBool:=λbM a3 h=>Qe bM a3 h
 «strs»:=λk x t v h=>b9 (hA.of h).rE▸Value.casesOn (motive:=λv=>j9 (.str x) v=v.isStr x) v rfl rfl rfl (λ_=>rfl) (λ_ _=>rfl) (λ_ _=>rfl) (λ_ _=>rfl) (λ_ _=>rfl) (λ_=>rfl) (λ_=>rfl) (λ_=>rfl)
noncomputable abbrev tupK(prog:Program)(w:World):HeapKind prog w (List bq):=tupleKind (hF prog w)
section
variable{M:Model}{A:Around}{E:Value->Shared->Prop}
theorem A0{bW:Type}(f:Nat->bW->Sem (ForInStep bW))(aP:Nat->bW->Shared->Prop)(Q:bW->Shared->Prop)(n:Nat)
 (turn:∀i b s,i<n->aP i b s->wpAny M A (f i b) (λr aY=>match r with|.yield bU=>aP (i+1) bU aY|.done bU=>Q bU aY) E s)
 (cH:∀b s,aP n b s->Q b s)(b:bW)(h:aP 0 b s):wpAny M A (forIn [0:n] b f) Q E s:=by
 have key:∀m i b s,i+m=n->aP i b s->wpAny M A (forIn (List.range' i m) b f) Q E s:=by
  intro m
  induction m with
  |zero=>exactλi b s e h=>bx (cH b s (e▸h))
  |succ m aZ=>
   intro i b s e h
   show wpAny M A (forIn (i::List.range' (i+1) m) b f) Q E s
   rw[List.forIn_cons]
   refine aM (wpAny_mono (turn i b s (e▸Nat.lt_add_of_pos_right (Nat.succ_pos m)) h) (λr aY h=>?_) λ_ _ h=>h)
   induction r with
   |done bU=>exact bx h
   |yield bU=>exact aZ _ _ _ ((Nat.succ_add i m).trans e) h
 rw[Std.Legacy.Range.forIn_eq_forIn_range']
 show wpAny M A (forIn (List.range' 0 ((n-0+1-1)/ 1)) b f) Q E s
 rw[Nat.div_one]
 exact key n 0 b s (Nat.zero_add n) h
theorem QO{bW:Type}(f:Nat->bW->Sem (ForInStep bW))(oH:Nat->Prop)(Q:bW->Shared->Prop)(n:Nat)(b:bW)
 (turn:∀i,i<n->oH i->wpAny M A (f i b) (λr aY=>match r with|.yield bU=>bU=b/\aY=s/\oH (i+1)|.done bU=>Q bU aY) E s)
 (cH:oH n->Q b s)(h:oH 0):wpAny M A (forIn [0:n] b f) Q E s:=
 A0 f (λi bU aY=>bU=b/\aY=s/\oH i) Q n (λi bU aY hi ⟨a9,a7,h⟩=>by rw[a9,a7];exact turn i hi h) (λbU aY ⟨a9,a7,h⟩=>by rw[a9,a7];exact cH h) b ⟨rfl,rfl,h⟩
end
noncomputable abbrev f6:Addr:=273
section
variable(prog:Program)(w:World)
noncomputable def lb(o:Obj)(kvs:List (bq×Value)):Prop:=
 o.ExactDict/\∃es ep,o.data=.dict es ep/\KeysOf (hF prog w) es/\Pairs (hF prog w) es.toList kvs/\(kvs.map (·.1)).Nodup
noncomputable abbrev u'(items:Array Value)(k:Nat):Obj:={cls:=.type "tuple",data:=.seq items k}
noncomputable abbrev x'(a b c:Int)(t u v:Tok):Obj:={cls:=.type "range",dict:=none,data:=.fields #[.int a t,.int b u,.int c v],slots:= #[]}
mutual
inductive aN (W:az) (n:Nat):J->Value->Prop
 |none:aN W n .none .none
 |bool (b:Bool):aN W n (.bool b) (.bool b)
 |int (i:Int) (t:Tok):aN W n (.int i) (.int i t)
 |str (x:Str) (t:Tok):aN W n (.str x) (.str x t)
 |bytes (b:List UInt8) (t:Tok):aN W n (.bytes b) (.bytes b.toArray t)
 |bo {a:Addr} {items:Array Value} {k:Nat} {vs:List J}:W.role a=.imm (u' items k)->bw W n vs items.toList->aN W n (.bo vs) (.ref a)
 |bp {a:Addr} {o:Obj} {items:Array Value} {k:Nat} {vs:List J}:W.role a=.imm o->o.cls=.type "list"->o.data=.seq items k->bw W n vs items.toList->aN W n (.bp vs) (.ref a)
 |cD {a:Addr} {o:Obj} {kvs:List (bq×Value)} {es:List (bq×J)}:W.role a=.imm o->(a==sysModules)=false->lb prog w o kvs->ei W n es kvs->aN W n (.cD es) (.ref a)
 |fv {r:Addr} {a b c:Int} {t u v:Tok}:W.role r=.imm (x' a b c t u v)->aN W n (.fv a b c) (.ref r)
 |ref {c:Nat}:c<n->aN W n (.ref c) (.ref (W.al c))
 |bY (v:Value):aN W n (.bY v) v
inductive bw (W:az) (n:Nat):List J->List Value->Prop
 |nil:bw W n [] []
 |cons {v:J} {ay:Value} {vs:List J} {bK:List Value}:aN W n v ay->bw W n vs bK->bw W n (v::vs) (ay::bK)
inductive ei (W:az) (n:Nat):List (bq×J)->List (bq×Value)->Prop
 |nil:ei W n [] []
 |cons {k:bq} {v:J} {ay:Value} {es:List (bq×J)} {kvs:List (bq×Value)}:aN W n v ay->ei W n es kvs->ei W n ((k,v)::es) ((k,ay)::kvs)
end
end
section
variable{prog:Program}{w:World}
theorem bw.ind{P:List J->List Value->Prop}(nil:P [] [])(cons:∀{v ay vs bK},aN prog w W n v ay->bw prog w W n vs bK->P vs bK->P (v::vs) (ay::bK))(h:bw prog w W n vs bK):P vs bK:=
 bw.rec (motive_1:=λ_ _ _=>True) (motive_2:=λvs bK _=>P vs bK) (motive_3:=λ_ _ _=>True) trivial (λ_=>trivial) (λ_ _=>trivial) (λ_ _=>trivial) (λ_ _=>trivial) (λ_ _ _=>trivial) (λ_ _ _ _ _=>trivial) (λ_ _ _ _ _=>trivial) (λ_=>trivial) (λ_=>trivial) (λ_=>trivial)
  nil (λa b _ aZ=>cons a b aZ) trivial (λ_ _ _ _=>trivial) h
theorem ei.ind{P:List (bq×J)->List (bq×Value)->Prop}(nil:P [] [])(cons:∀{k v ay es kvs},aN prog w W n v ay->ei prog w W n es kvs->P es kvs->P ((k,v)::es) ((k,ay)::kvs))(h:ei prog w W n es kvs):P es kvs:=
 ei.rec (motive_1:=λ_ _ _=>True) (motive_2:=λ_ _ _=>True) (motive_3:=λvs bK _=>P vs bK) trivial (λ_=>trivial) (λ_ _=>trivial) (λ_ _=>trivial) (λ_ _=>trivial) (λ_ _ _=>trivial) (λ_ _ _ _ _=>trivial) (λ_ _ _ _ _=>trivial) (λ_=>trivial) (λ_=>trivial) (λ_=>trivial)
  trivial (λ_ _ _ _=>trivial) nil (λa b _ aZ=>cons a b aZ) h
theorem aN.a5(h:W.e2 n W')(aW:n<=gV)(r:aN prog w W n v ay):aN prog w W' gV v ay:=
 aN.rec (motive_1:=λv ay _=>aN prog w W' gV v ay) (motive_2:=λv ay _=>bw prog w W' gV v ay) (motive_3:=λv ay _=>ei prog w W' gV v ay)
  .none .bool .int .str .bytes (λr _ aZ=>.bo (h.1 _ _ r) aZ) (λr c d _ aZ=>.bp (h.1 _ _ r) c d aZ) (λr z c _ aZ=>.cD (h.1 _ _ r) z c aZ) (λr=>.fv (h.1 _ _ r)) (λ{c} aw=>h.2 c aw▸.ref (jH aw aW)) .bY
  .nil (λ_ _ a b=>.cons a b) .nil (λ_ _ a b=>.cons a b) r
theorem bw.a5(h:W.e2 n W')(aW:n<=gV){v:List J}(r:bw prog w W n v ay):bw prog w W' gV v ay:=r.ind .nil λa _ aZ=>.cons (a.a5 h aW) aZ
theorem ei.a5(h:W.e2 n W')(aW:n<=gV){v:List (bq×J)}(r:ei prog w W n v ay):ei prog w W' gV v ay:=r.ind .nil λa _ aZ=>.cons (a.a5 h aW) aZ
theorem bw.length{vs:List J}(r:bw prog w W n vs bK):bK.length=vs.length:=r.ind (P:=λvs bK=>bK.length=vs.length) rfl λ_ _ aZ=>congrArg Nat.succ aZ
theorem bw.append{vs cI:List J}(r:bw prog w W n vs bK)(h:bw prog w W n cI Ls):bw prog w W n (vs++cI) (bK++Ls):=r.ind (P:=λvs bK=>bw prog w W n (vs++cI) (bK++Ls)) h λa _ aZ=>.cons a aZ
theorem bw.sr(h:aN prog w W n v ay):bw prog w W n [v] [ay]:=.cons h .nil
theorem bw.get{vs:List J}(r:bw prog w W n vs bK):∀{i:Nat} {v:J},vs[i]? =some v->∃ay,bK[i]? =some ay/\aN prog w W n v ay:=
 r.ind (P:=λvs bK=>∀{i:Nat} {v:J},vs[i]? =some v->∃ay,bK[i]? =some ay/\aN prog w W n v ay) (λe=>aq e) λ{_ ay _ _} a _ aZ {i _}=>Nat.casesOn (motive:=λi=>(_::_)[i]? =some _->∃ay,(_::_)[i]? =some ay/\aN prog w W n _ ay) i (λe=>⟨ay,rfl,b9 e▸a⟩) λ_ e=>aZ e
theorem bw.take{vs:List J}(i:Nat)(r:bw prog w W n vs bK):bw prog w W n (vs.take i) (bK.take i):=
 r.ind (P:=λvs bK=>∀i,bw prog w W n (vs.take i) (bK.take i)) (λi=>Nat.casesOn (motive:=λi=>bw prog w W n (List.take i []) (List.take i [])) i .nil λ_=>.nil) (λa _ aZ i=>Nat.casesOn (motive:=λi=>bw prog w W n (List.take i (_::_)) (List.take i (_::_))) i .nil λai=>.cons a (aZ ai)) i
theorem bw.drop{vs:List J}(i:Nat)(r:bw prog w W n vs bK):bw prog w W n (vs.drop i) (bK.drop i):=
 r.ind (P:=λvs bK=>∀i,bw prog w W n (vs.drop i) (bK.drop i)) (λi=>Nat.casesOn (motive:=λi=>bw prog w W n (List.drop i []) (List.drop i [])) i .nil λ_=>.nil) (λa b aZ i=>Nat.casesOn (motive:=λi=>bw prog w W n (List.drop i (_::_)) (List.drop i (_::_))) i (.cons a b) λai=>aZ ai) i
theorem bw.set{v:J}(h:aN prog w W n v ay)(i:Nat)(r:bw prog w W n vs bK):bw prog w W n (vs.set i v) (bK.set i ay):=
 r.ind (P:=λvs bK=>∀i,bw prog w W n (vs.set i v) (bK.set i ay)) (λi=>Nat.casesOn (motive:=λi=>bw prog w W n (List.set [] i v) (List.set [] i ay)) i .nil λ_=>.nil) (λa b aZ i=>Nat.casesOn (motive:=λi=>bw prog w W n (List.set (_::_) i v) (List.set (_::_) i ay)) i (.cons h b) λai=>.cons a (aZ ai)) i
noncomputable def bw.Spec(prog:Program)(w:World)(W:az)(n:Nat):List J->List Value->Prop
 |[],cI=>cI=[]
 |v::vs,cI=>∃ay bK,cI=ay::bK/\aN prog w W n v ay/\bw prog w W n vs bK
theorem bw.bf{vs:List J}(h:bw prog w W n vs cI):bw.Spec prog w W n vs cI:=h.ind (P:=λvs cI=>bw.Spec prog w W n vs cI) rfl λa b _=>⟨_,_,rfl,a,b⟩
theorem bw.sO(h:bw prog w W n (v::vs) (ay::bK)):aN prog w W n v ay/\bw prog w W n vs bK:=by
 obtain⟨_,_,e,a,b⟩:=h.bf
 exact⟨(List.cons.inj e).1▸a,(List.cons.inj e).2▸b⟩
noncomputable def aN.Spec(prog:Program)(w:World)(W:az)(n:Nat):J->Value->Prop
 |.none,ay=>ay=.none
 |.bool b,ay=>ay=.bool b
 |.int i,ay=>∃t,ay=.int i t
 |.str x,ay=>∃t,ay=.str x t
 |.bytes x,ay=>∃t,ay=.bytes x.toArray t
 |.bo vs,ay=>∃a items k,W.role a=.imm (u' items k)/\bw prog w W n vs items.toList/\ay=.ref a
 |.bp vs,ay=>∃a o items k,W.role a=.imm o/\o.cls=.type "list"/\o.data=.seq items k/\bw prog w W n vs items.toList/\ay=.ref a
 |.cD es,ay=>∃a o kvs,W.role a=.imm o/\(a==sysModules)=false/\lb prog w o kvs/\ei prog w W n es kvs/\ay=.ref a
 |.fv a b c,ay=>∃r t u v,W.role r=.imm (x' a b c t u v)/\ay=.ref r
 |.ref c,ay=>c<n/\ay=.ref (W.al c)
 |.bY x,ay=>ay=x
theorem aN.bf(h:aN prog w W n v ay):aN.Spec prog w W n v ay:=
 aN.casesOn (motive_1:=λv ay _=>aN.Spec prog w W n v ay) h rfl (λ_=>rfl) (λ_ _=>⟨_,rfl⟩) (λ_ _=>⟨_,rfl⟩) (λ_ _=>⟨_,rfl⟩) (λr q=>⟨_,_,_,r,q,rfl⟩) (λr c d q=>⟨_,_,_,_,r,c,d,q,rfl⟩) (λr z c q=>⟨_,_,_,r,z,c,q,rfl⟩) (λr=>⟨_,_,_,_,r,rfl⟩) (λc=>⟨c,rfl⟩) (λ_=>rfl)
noncomputable def md(prog:Program)(w:World)(W:az)(k:List bq)(a:Addr):Prop:=∃o items n,W.role a=.imm o/\o.cls=.type "tuple"/\o.data=.seq items n/\ItemsAre (hF prog w) k items.toList
noncomputable def TRel(prog:Program)(w:World)(W:az)(n:Nat):List (List bq×J)->List (List bq×Addr×Value)->Prop
 |[],[]=>True
 |(k,v)::es,(kj,a,ay)::xs=>kj=k/\md prog w W k a/\aN prog w W n v ay/\TRel prog w W n es xs
 |_,_=>False
theorem TRel.ind{P:List (List bq×J)->List (List bq×Addr×Value)->Prop}(nil:P [] [])(cons:∀{k v a ay es xs},md prog w W k a->aN prog w W n v ay->TRel prog w W n es xs->P es xs->P ((k,v)::es) ((k,a,ay)::xs)):
 ∀{es:List (List bq×J)} {xs:List (List bq×Addr×Value)},TRel prog w W n es xs->P es xs:=by
 intro es
 refine List.rec (motive:=λes=>∀{xs},TRel prog w W n es xs->P es xs) (λ{xs}=>?_) (λe es aZ {xs}=>?_) es
 .exact List.casesOn (motive:=λxs=>TRel prog w W n [] xs->P [] xs) xs (λ_=>nil) λ_ _ h=>False.elim h
 .exact List.casesOn (motive:=λxs=>TRel prog w W n (e::es) xs->P (e::es) xs) xs (λh=>False.elim h) λ⟨kj,a,ay⟩ xs ⟨h1,h2,aR,h4⟩=>by cases h1;exact cons h2 aR h4 (aZ h4)
theorem md.a5(h:W.e2 n W')(r:md prog w W k a):md prog w W' k a:=by
 obtain⟨o,it,m,r,x⟩:=r;exact⟨o,it,m,h.1 _ _ r,x⟩
theorem TRel.a5(h:W.e2 n W')(aW:n<=gV){es:List (List bq×J)}(r:TRel prog w W n es xs):TRel prog w W' gV es xs:=
 TRel.ind (P:=λes xs=>TRel prog w W' gV es xs) trivial (λa b _ aZ=>⟨rfl,a.a5 h,b.a5 h aW,aZ⟩) r
noncomputable def oL(prog:Program)(w:World)(o:Obj)(xs:List (List bq×Addr×Value)):Prop:=
 o.ExactDict/\∃es ep,o.data=.dict es ep/\es.toList=xs.map (entryOfKey (tupK prog w))/\(xs.map (·.1)).Nodup
inductive CellAt (prog:Program) (w:World) (W:az) (n:Nat) (h:Heap) (c:Nat) (a:Addr):df->Prop
 |list {vs:List J} {items:Array Value} {k:Nat}:h.get? a=some (listOf items k)->bw prog w W n vs items.toList->CellAt prog w W n h c a (.list vs)
 |cn {es:List (bq×J)} {o:Obj} {kvs:List (bq×Value)}:h.get? a=some o->(a==sysModules)=false->lb prog w o kvs->ei prog w W n es kvs->CellAt prog w W n h c a (.cn es)
 |b8 {es:List (List bq×J)} {o:Obj} {xs:List (List bq×Addr×Value)}:h.get? a=some o->(a==sysModules)=false->oL prog w o xs->TRel prog w W n es xs->CellAt prog w W n h c a (.b8 es)
 |inst {d:Addr} {t:Option J} {es:List DictEntry} {k:Nat}:h.get? a=some (instObj f6 d)->W.role d=.gX c->h.get? d=some (dictOf es k)->
   (match t with|none=>es=[]|some v=>∃(hh:Int) (cf:Tok) (ay:Value),es=[⟨hh,.str "times" cf,ay⟩]/\aN prog w W n v ay)->CellAt prog w W n h c a (.inst t)
 |ej {b:List UInt8}:h.get? a=some {cls:=.type "bytearray",data:=.bytearray b.toArray 0}->CellAt prog w W n h c a (.ej b)
theorem CellAt.a5(k:CellAt prog w W n h c a x)(l:W.e2 n W')(aW:n<=gV)(e:h'.get? a=h.get? a)(hp:∀d,W.role d=.gX c->W'.role d=.gX c/\h'.get? d=h.get? d):
 CellAt prog w W' gV h' c a x:=by
 cases k with
 |list g r=>exact .list (e.trans g) (r.a5 l aW)
 |cn g z r q=>exact .cn (e.trans g) z r (q.a5 l aW)
 |b8 g z r q=>exact .b8 (e.trans g) z r (q.a5 l aW)
 |@inst d t es dB g r q v=>
  refine .inst (e.trans g) (hp _ r).1 ((hp _ r).2.trans q) ?_
  rcases t with _|t
  .exact v
  .obtain⟨hh,cf,ay,a,b⟩:=v;exact⟨hh,cf,ay,a,b.a5 l aW⟩
 |ej g=>exact .ej (e.trans g)
noncomputable def CellAt.Spec(prog:Program)(w:World)(W:az)(n:Nat)(h:Heap)(c:Nat)(a:Addr):df->Prop
 |.list vs=>∃items k,h.get? a=some (listOf items k)/\bw prog w W n vs items.toList
 |.cn es=>∃o kvs,h.get? a=some o/\(a==sysModules)=false/\lb prog w o kvs/\ei prog w W n es kvs
 |.b8 es=>∃o xs,h.get? a=some o/\(a==sysModules)=false/\oL prog w o xs/\TRel prog w W n es xs
 |.inst t=>∃d es k,h.get? a=some (instObj f6 d)/\W.role d=.gX c/\h.get? d=some (dictOf es k)/\
   (match t with|none=>es=[]|some v=>∃(hh:Int) (cf:Tok) (ay:Value),es=[⟨hh,.str "times" cf,ay⟩]/\aN prog w W n v ay)
 |.ej b=>h.get? a=some {cls:=.type "bytearray",data:=.bytearray b.toArray 0}
theorem CellAt.bf(k:CellAt prog w W n h c a x):CellAt.Spec prog w W n h c a x:=
 CellAt.casesOn (motive:=λx _=>CellAt.Spec prog w W n h c a x) k (λg r=>⟨_,_,g,r⟩) (λg z r q=>⟨_,_,g,z,r,q⟩) (λg z r q=>⟨_,_,g,z,r,q⟩) (λg r q v=>⟨_,_,_,g,r,q,v⟩) λg=>g
theorem CellAt.some(k:CellAt prog w W n h c a x):∃o,h.get? a=.some o:=by cases k<;>exact⟨_,by assumption⟩
structure bB (prog:Program) (w:World) (h₁:Heap) (W:az) (σ:St) (h:Heap):Prop where
 nz:∃o,h₁.get? 3=.some o
 base:∀a o,h₁.get? a=some o->W.role a=.imm o
 imm:∀a o,W.role a=.imm o->h.get? a=some o
 fix:∀a o,W.role a=.fix o->h.get? a=some o
 live:∀a,W.role a≠.free->∃o,h.get? a=some o
 cell:∀c x,σ.cells c=some x->W.role (W.al c)=.cell c/\CellAt prog w W σ.next h c (W.al c) x
 top:∀c,σ.next<=c->σ.cells c=none
variable{h₁:Heap}
theorem bB.fresh(R:bB prog w h₁ W σ h):(h.objs.size==sysModules)=false:=by
 obtain⟨o,aH⟩:=R.nz
 have:=Heap.lt_size (R.imm 3 o (R.base 3 o aH))
 exact beq_eq_false_iff_ne.mpr (Nat.ne_of_gt (Nat.lt_trans (by decide:(1:Nat)<3) this))
theorem bB.old(R:bB prog w h₁ W σ h):∀b o,h₁.get? b=some o->h.get? b=some o:=λb o e=>R.imm b o (R.base b o e)
theorem bB.lt(R:bB prog w h₁ W σ h)(ha:W.role a≠.free):a<h.objs.size:=let⟨_,e⟩:=R.live a ha;Heap.lt_size e
theorem bB.free(R:bB prog w h₁ W σ h)(ha:h.objs.size<=a):W.role a=.free:=by
 cases e:W.role a with
 |free=>rfl
 |_=>exact absurd (R.lt (a:=a) (bQ.ne e)) (Nat.not_lt.mpr ha)
theorem bB.keep(R:bB prog w h₁ W σ h)(e:∀a,W.role a≠.free->W.role a≠.U->h'.get? a=h.get? a)(l:∀a,W.role a=.U->∃o,h'.get? a=some o):bB prog w h₁ W σ h' where
 nz:=R.nz
 base:=R.base
 imm:=λa o r=>(e a (bQ.ne r) (bQ.ne r)).trans (R.imm a o r)
 fix:=λa o r=>(e a (bQ.ne r) (bQ.ne r)).trans (R.fix a o r)
 live:=λa r=>by
  by_cases q:W.role a=.U
  .exact l a q
  .rw[e a r q];exact R.live a r
 cell:=λc x aw=>by
  obtain⟨r,k⟩:=R.cell c x aw
  exact⟨r,k.a5 az.e2.refl (bt _) (e _ (bQ.ne r) (bQ.ne r)) λd aB=>⟨aB,e d (bQ.ne aB) (bQ.ne aB)⟩⟩
 top:=R.top
theorem get?_push_ne{h:Heap}(ha:a<h.objs.size):(h.push o).get? a=h.get? a:=Heap.get?_push_ne _ _ _ (d9 ha)
theorem bB.push{W:az}(R:bB prog w h₁ W σ h)(o:Obj):bB prog w h₁ W σ (h.push o):=
 R.keep (λa r _=>get?_push_ne (R.lt r)) λa r=>by
  have q:W.role a≠.free:=bQ.ne r
  rw[get?_push_ne (R.lt q)];exact R.live a q
theorem bB.sameBut(R:bB prog w h₁ W σ h)(hs:Heap.SameBut a h h')(ha:W.role a=.free\/(W.role a=.U/\∃o,h'.get? a=some o)):bB prog w h₁ W σ h':=
 R.keep (λb r l=>hs.2 b (by rintro rfl;exact ha.elim r λq=>l q.1)) λb r=>by
  by_cases ag:b=a
  .subst ag;exact ha.elim (λq=>by exact bQ.no q r) λq=>q.2
  .rw[hs.2 b ag];exact R.live b (bQ.ne r)
theorem bB.kV(R:bB prog w h₁ W σ h)(e:∀b o,h.get? b=some o->h'.get? b=some o):bB prog w h₁ W σ h':=
 R.keep (λa r _=>by obtain⟨o,aH⟩:=R.live a r;rw[aH,e a o aH]) λa r=>by
  obtain⟨o,aH⟩:=R.live a (bQ.ne r)
  exact⟨o,e a o aH⟩
noncomputable def az.aT(W:az)(a:Addr)(r:bQ):az:={W with role:=λb=>if b=a then r else W.role b}
theorem az.c5{W:az}:(W.aT a r).role a=r:=by simp[az.aT]
theorem az.ck{W:az}(h:b≠a):(W.aT a r).role b=W.role b:=by simp[az.aT,h]
theorem az.ho{W:az}(h:W.role a=.free):W.le n (W.aT a r):=by
 refine⟨⟨λb o e=>?_,λ_ _=>rfl⟩,λb o e=>?_,λb e=>?_⟩<;>
 .rw[az.ck]
  .exact e
  .rintro rfl;exact bQ.no h e
theorem bB.ia{W:az}(R:bB prog w h₁ W σ h)(ha:W.role a=.free)(aG:∃o,h.get? a=some o)(hi:∀o,r=.imm o->h.get? a=some o)(hf:∀o,r=.fix o->h.get? a=some o):bB prog w h₁ (W.aT a r) σ h where
 nz:=R.nz
 base:=λb o e=>(az.ho (n:=0) ha).1.1 b o (R.base b o e)
 imm:=λb o e=>by
  by_cases ag:b=a
  .subst ag;rw[az.c5] at e;exact hi o e
  .rw[az.ck ag] at e;exact R.imm b o e
 fix:=λb o e=>by
  by_cases ag:b=a
  .subst ag;rw[az.c5] at e;exact hf o e
  .rw[az.ck ag] at e;exact R.fix b o e
 live:=λb e=>by
  by_cases ag:b=a
  .subst ag;exact aG
  .rw[az.ck ag] at e;exact R.live b e
 cell:=λc x aw=>by
  obtain⟨cu,k⟩:=R.cell c x aw
  have fF:W.al c≠a:=by rintro e;rw[e,ha] at cu;exact nomatch cu
  refine⟨?_,k.a5 (az.ho ha).1 (bt _) rfl λd aB=>⟨?_,rfl⟩⟩
  .show(W.aT a r).role (W.al c)=_
   rw[az.ck fF];exact cu
  .rw[az.ck]
   .exact aB
   .rintro rfl;exact bQ.no ha aB
 top:=R.top
theorem bB.swap{W:az}(R:bB prog w h₁ W σ h)(ha:W.role a=.fix o)(hs:Heap.SameBut a h h')(aH:h'.get? a=some cV):bB prog w h₁ (W.aT a (.fix cV)) σ h' where
 nz:=R.nz
 base:=λb x e=>by
  have:=R.base b x e
  rw[az.ck]
  .exact this
  .rintro rfl;exact bQ.no ha this
 imm:=λb x e=>by
  by_cases ag:b=a
  .subst ag;rw[az.c5] at e;exact nomatch e
  .rw[az.ck ag] at e;exact(hs.2 b ag).trans (R.imm b x e)
 fix:=λb x e=>by
  by_cases ag:b=a
  .subst ag;rw[az.c5] at e;cases e;exact aH
  .rw[az.ck ag] at e;exact(hs.2 b ag).trans (R.fix b x e)
 live:=λb e=>by
  by_cases ag:b=a
  .subst ag;exact⟨cV,aH⟩
  .rw[az.ck ag] at e;rw[hs.2 b ag];exact R.live b e
 cell:=λc x aw=>by
  obtain⟨cu,k⟩:=R.cell c x aw
  have fF:W.al c≠a:=by rintro e;rw[e,ha] at cu;exact nomatch cu
  refine⟨?_,?_⟩
  .show(W.aT a _).role (W.al c)=_
   rw[az.ck fF];exact cu
  .refine k.a5 ⟨λb x e=>?_,λ_ _=>rfl⟩ (bt _) (hs.2 _ fF) λd aB=>?_
   .rw[az.ck]
    .exact e
    .rintro rfl;exact bQ.no ha e
   .have ey:d≠a:=by rintro rfl;exact bQ.no ha aB
    exact⟨by rw[az.ck ey];exact aB,hs.2 d ey⟩
 top:=R.top
end
section
variable{prog:Program}{w:World}{h₁:Heap}
theorem bB.sA(R:bB prog w h₁ W σ h)(kb:W'.al=W.al)
 (aI:∀a,W'.role a=W.role a\/((W.role a=.U\/∃o,W.role a=.fix o)/\(W'.role a=.free\/W'.role a=.U\/∃o,W'.role a=.fix o/\h.get? a=some o))):
 bB prog w h₁ W' σ h/\W.e2 σ.next W':=by
 have keepR:∀a r,W.role a=r->r≠.U->(∀o,r≠.fix o)->W'.role a=r:=by
  intro a r e h1 h2
  rcases aI a with q|⟨q|⟨o,q⟩,_⟩
  .rw[q,e]
  .rw[e] at q;exact absurd q h1
  .rw[e] at q;exact absurd q (h2 o)
 have N4:∀a r,W'.role a=r->r≠.free->r≠.U->(∀o,r≠.fix o)->W.role a=r:=by
  intro a r e ah h1 h2
  rcases aI a with q|⟨_,q|q|⟨o,q,_⟩⟩
  .rw[<-q,e]
  .rw[e] at q;exact absurd q ah
  .rw[e] at q;exact absurd q h1
  .rw[e] at q;exact absurd q (h2 o)
 have jb:W.e2 σ.next W':=⟨λa o e=>keepR a _ e (λq=>nomatch q) (λ_ q=>nomatch q),λc _=>by rw[kb]⟩
 refine⟨⟨R.nz,λa o e=>keepR a _ (R.base a o e) (λq=>nomatch q) (λ_ q=>nomatch q),λa o e=>R.imm a o (N4 a _ e (λq=>nomatch q) (λq=>nomatch q) (λ_ q=>nomatch q)),λa o e=>?_,λa e=>?_,λc x aw=>?_,R.top⟩,jb⟩
 .rcases aI a with q|⟨_,q|q|⟨cV,q,g⟩⟩
  .exact R.fix a o (q▸e)
  .exact bQ.no e q
  .exact bQ.no e q
  .rw[e] at q;cases q;exact g
 .refine R.live a λq=>?_
  rcases aI a with p|⟨p|⟨o,p⟩,_⟩
  .exact e (p.trans q)
  .exact bQ.no q p
  .exact bQ.no q p
 .obtain⟨r,k⟩:=R.cell c x aw
  rw[kb]
  exact⟨keepR _ _ r (λq=>nomatch q) (λ_ q=>nomatch q),k.a5 jb (bt _) rfl λd aB=>⟨keepR d _ aB (λq=>nomatch q) (λ_ q=>nomatch q),rfl⟩⟩
noncomputable def St.new(σ:St)(x:df):St:={cells:=λc=>if c=σ.next then some x else σ.cells c,next:=σ.next+1}
noncomputable def St.aT(σ:St)(c:Nat)(x:df):St:={σ with cells:=λd=>if d=c then some x else σ.cells d}
noncomputable def az.eS(W:az)(n:Nat)(a:Addr):az:={role:=λb=>if b=a then .cell n else W.role b,al:=λc=>if c=n then a else W.al c}
theorem az.pg{W:az}(h:W.role a=.free):W.le n (W.eS n a):=by
 refine⟨⟨λb o e=>?_,λc aw=>?_⟩,λb o e=>?_,λb e=>?_⟩
 .show(if b=a then _ else _)=_
  rw[if_neg (by rintro rfl;exact bQ.no h e)];exact e
 .show(if c=n then _ else _)=_
  rw[if_neg (d9 aw)]
 .show(if b=a then _ else _)=_
  rw[if_neg (by rintro rfl;exact bQ.no h e)];exact e
 .show(if b=a then _ else _)=_
  rw[if_neg (by rintro rfl;exact bQ.no h e)];exact e
theorem bB.alloc{W:az}(R:bB prog w h₁ W σ h)(ha:W.role a=.free)(aG:∃o,h.get? a=some o)(av:CellAt prog w (W.eS σ.next a) (σ.next+1) h σ.next a x):
 bB prog w h₁ (W.eS σ.next a) (σ.new x) h:=by
 have l:=az.pg (n:=σ.next) ha
 have rn:∀b,b≠a->(W.eS σ.next a).role b=W.role b:=λb ag=>by show(if b=a then _ else _)=_;rw[if_neg ag]
 have ya:(W.eS σ.next a).role a=.cell σ.next:=by show(if a=a then _ else _)=_;rw[if_pos rfl]
 refine⟨R.nz,λb o e=>l.1.1 b o (R.base b o e),λb o e=>?_,λb o e=>?_,λb e=>?_,λc y aw=>?_,λc aw=>?_⟩
 .by_cases ag:b=a
  .subst ag;exact bQ.no ya e
  .rw[rn b ag] at e;exact R.imm b o e
 .by_cases ag:b=a
  .subst ag;exact bQ.no ya e
  .rw[rn b ag] at e;exact R.fix b o e
 .by_cases ag:b=a
  .subst ag;exact aG
  .rw[rn b ag] at e;exact R.live b e
 .by_cases qo:c=σ.next
  .subst qo
   have e:y=x:=by
    have:(if σ.next=σ.next then some x else σ.cells σ.next)=some y:=aw
    rw[if_pos rfl] at this;cases this;rfl
   subst e
   have ew:(W.eS σ.next a).al σ.next=a:=by show(if σ.next=σ.next then a else _)=_;rw[if_pos rfl]
   rw[ew];exact⟨ya,av⟩
  .have kc:σ.cells c=some y:=by
    have:(if c=σ.next then some x else σ.cells c)=some y:=aw
    rw[if_neg qo] at this;exact this
   obtain⟨r,k⟩:=R.cell c y kc
   have ew:(W.eS σ.next a).al c=W.al c:=by show(if c=σ.next then a else _)=_;rw[if_neg qo]
   rw[ew]
   have fF:W.al c≠a:=by rintro e;rw[e,ha] at r;exact nomatch r
   exact⟨(rn _ fF).trans r,k.a5 l.1 (gp _) rfl λd aB=>⟨(rn d (by rintro rfl;exact bQ.no ha aB)).trans aB,rfl⟩⟩
 .have h1:¬c=σ.next:=Nat.ne_of_gt aw
  show(if c=σ.next then some x else σ.cells c)=none
  rw[if_neg h1];exact R.top c (Nat.le_of_succ_le aw)
theorem bB.mL(R:bB prog w h₁ W σ h)(aw:σ.cells c=some x)(hs:Heap.SameBut (W.al c) h h')(bF:CellAt prog w W σ.next h' c (W.al c) y):bB prog w h₁ W (σ.aT c y) h':=by
 have eo:=(R.cell c x aw).1
 have bJ:∀b,W.role b≠.cell c->h'.get? b=h.get? b:=λb ag=>hs.2 b (by rintro rfl;exact ag eo)
 refine⟨R.nz,R.base,λb o e=>(bJ b (bQ.ne e)).trans (R.imm b o e),λb o e=>(bJ b (bQ.ne e)).trans (R.fix b o e),λb e=>?_,λd z aB=>?_,λd aB=>?_⟩
 .by_cases q:b=W.al c
  .subst q;exact bF.some
  .rw[hs.2 b q];exact R.live b e
 .have ey:(if d=c then some y else σ.cells d)=some z:=aB
  by_cases e:d=c
  .subst e
   rw[if_pos rfl] at ey;cases ey
   exact⟨eo,bF⟩
  .rw[if_neg e] at ey
   obtain⟨r,k⟩:=R.cell d z ey
   refine⟨r,k.a5 az.e2.refl (bt _) (bJ _ (by rw[r];intro q;injection q with q;exact e q)) λp hp=>⟨hp,bJ p (bQ.ne hp)⟩⟩
 .show(if d=c then some y else σ.cells d)=none
  have:d≠c:=by
   rintro rfl
   rw[R.top d aB] at aw;exact nomatch aw
  rw[if_neg this];exact R.top d aB
theorem bB.Dj(R:bB prog w h₁ W σ h)(aw:σ.cells c=some x)(hp:W.role p=.gX c)(hs:Heap.SameBut p h h')(BC:∃o,h'.get? p=some o)(bF:CellAt prog w W σ.next h' c (W.al c) y):bB prog w h₁ W (σ.aT c y) h':=by
 have bJ:∀b,W.role b≠.gX c->h'.get? b=h.get? b:=λb ag=>hs.2 b (by rintro rfl;exact ag hp)
 refine⟨R.nz,R.base,λb o e=>(bJ b (bQ.ne e)).trans (R.imm b o e),λb o e=>(bJ b (bQ.ne e)).trans (R.fix b o e),λb e=>?_,λd z aB=>?_,λd aB=>?_⟩
 .by_cases q:b=p
  .subst q;exact BC
  .rw[hs.2 b q];exact R.live b e
 .have ey:(if d=c then some y else σ.cells d)=some z:=aB
  by_cases e:d=c
  .subst e
   rw[if_pos rfl] at ey;cases ey
   exact⟨(R.cell d x aw).1,bF⟩
  .rw[if_neg e] at ey
   obtain⟨r,k⟩:=R.cell d z ey
   refine⟨r,k.a5 az.e2.refl (bt _) (bJ _ (bQ.ne r)) λp hp=>⟨hp,bJ p (by rw[hp];intro q;injection q with q;exact e q)⟩⟩
 .show(if d=c then some y else σ.cells d)=none
  have:d≠c:=by
   rintro rfl
   rw[R.top d aB] at aw;exact nomatch aw
  rw[if_neg this];exact R.top d aB
theorem aN.abR{bW:Type}{b:bW}(r:aN prog w W n v ay)(f:J->Option bW)(P:Value->Prop)(e:f v=some b)
 (ve:∀vs a o items k,W.role a=.imm o->o.cls=.type "list"->o.data=.seq items k->bw prog w W n vs items.toList->f (.bp vs)=some b->P (.ref a))
 (q9:∀c,c<n->f (.ref c)=some b->P (.ref (W.al c)))
 (hX:autoParam (f .none=Option.none) aL._auto_1)
 (hr:autoParam (∀x,f (.bool x)=Option.none) eh._auto_1)
 (iz:autoParam (∀x,f (.int x)=Option.none) eh._auto_1)
 (hx:autoParam (∀x,f (.str x)=Option.none) eh._auto_1)
 (jc:autoParam (∀x,f (.bytes x)=Option.none) eh._auto_1)
 (je:autoParam (∀x,f (.bo x)=Option.none) eh._auto_1)
 (hW:autoParam (∀x,f (.cD x)=Option.none) eh._auto_1)
 (hv:autoParam (∀x y z,f (.fv x y z)=Option.none) l3._auto_1)
 (hu:autoParam (∀x,f (.bY x)=Option.none) eh._auto_1):P ay:=
 aN.casesOn (motive_1:=λv ay _=>f v=some b->P ay) r (λe=>el (e.symm.trans hX)) (λx e=>el (e.symm.trans (hr x))) (λx _ e=>el (e.symm.trans (iz x))) (λx _ e=>el (e.symm.trans (hx x))) (λx _ e=>el (e.symm.trans (jc x))) (λ_ _ e=>el (e.symm.trans (je _))) (λr c d q=>ve _ _ _ _ _ r c d q) (λ_ _ _ _ e=>el (e.symm.trans (hW _))) (λ_ e=>el (e.symm.trans (hv _ _ _))) (λh=>q9 _ h) (λx e=>el (e.symm.trans (hu x))) e
theorem aN.abQ{bW:Type}{b:bW}(r:aN prog w W n v ay)(f:J->Option bW)(P:Value->Prop)(e:f v=some b)
 (acD:∀es a o kvs,W.role a=.imm o->(a==sysModules)=false->lb prog w o kvs->ei prog w W n es kvs->f (.cD es)=some b->P (.ref a))
 (q9:∀c,c<n->f (.ref c)=some b->P (.ref (W.al c)))
 (hX:autoParam (f .none=Option.none) aL._auto_1)
 (hr:autoParam (∀x,f (.bool x)=Option.none) eh._auto_1)
 (iz:autoParam (∀x,f (.int x)=Option.none) eh._auto_1)
 (hx:autoParam (∀x,f (.str x)=Option.none) eh._auto_1)
 (jc:autoParam (∀x,f (.bytes x)=Option.none) eh._auto_1)
 (je:autoParam (∀x,f (.bo x)=Option.none) eh._auto_1)
 (jd:autoParam (∀x,f (.bp x)=Option.none) eh._auto_1)
 (hv:autoParam (∀x y z,f (.fv x y z)=Option.none) l3._auto_1)
 (hu:autoParam (∀x,f (.bY x)=Option.none) eh._auto_1):P ay:=
 aN.casesOn (motive_1:=λv ay _=>f v=some b->P ay) r (λe=>el (e.symm.trans hX)) (λx e=>el (e.symm.trans (hr x))) (λx _ e=>el (e.symm.trans (iz x))) (λx _ e=>el (e.symm.trans (hx x))) (λx _ e=>el (e.symm.trans (jc x))) (λ_ _ e=>el (e.symm.trans (je _))) (λ_ _ _ _ e=>el (e.symm.trans (jd _))) (λr z c q=>acD _ _ _ _ r z c q) (λ_ e=>el (e.symm.trans (hv _ _ _))) (λh=>q9 _ h) (λx e=>el (e.symm.trans (hu x))) e
theorem aN.abS{bW:Type}{b:bW}(r:aN prog w W n v ay)(f:J->Option bW)(P:Value->Prop)(e:f v=some b)
 (q9:∀c,c<n->f (.ref c)=some b->P (.ref (W.al c)))
 (hX:autoParam (f .none=Option.none) aL._auto_1)
 (hr:autoParam (∀x,f (.bool x)=Option.none) eh._auto_1)
 (iz:autoParam (∀x,f (.int x)=Option.none) eh._auto_1)
 (hx:autoParam (∀x,f (.str x)=Option.none) eh._auto_1)
 (jc:autoParam (∀x,f (.bytes x)=Option.none) eh._auto_1)
 (je:autoParam (∀x,f (.bo x)=Option.none) eh._auto_1)
 (jd:autoParam (∀x,f (.bp x)=Option.none) eh._auto_1)
 (hW:autoParam (∀x,f (.cD x)=Option.none) eh._auto_1)
 (hv:autoParam (∀x y z,f (.fv x y z)=Option.none) l3._auto_1)
 (hu:autoParam (∀x,f (.bY x)=Option.none) eh._auto_1):P ay:=
 aN.casesOn (motive_1:=λv ay _=>f v=some b->P ay) r (λe=>el (e.symm.trans hX)) (λx e=>el (e.symm.trans (hr x))) (λx _ e=>el (e.symm.trans (iz x))) (λx _ e=>el (e.symm.trans (hx x))) (λx _ e=>el (e.symm.trans (jc x))) (λ_ _ e=>el (e.symm.trans (je _))) (λ_ _ _ _ e=>el (e.symm.trans (jd _))) (λ_ _ _ _ e=>el (e.symm.trans (hW _))) (λ_ e=>el (e.symm.trans (hv _ _ _))) (λh=>q9 _ h) (λx e=>el (e.symm.trans (hu x))) e
theorem aN.abT{bW:Type}{b:bW}(r:aN prog w W n v ay)(f:J->Option bW)(P:Value->Prop)(e:f v=some b)
 (vf:∀vs a items k,W.role a=.imm (u' items k)->bw prog w W n vs items.toList->f (.bo vs)=some b->P (.ref a))
 (hX:autoParam (f .none=Option.none) aL._auto_1)
 (hr:autoParam (∀x,f (.bool x)=Option.none) eh._auto_1)
 (iz:autoParam (∀x,f (.int x)=Option.none) eh._auto_1)
 (hx:autoParam (∀x,f (.str x)=Option.none) eh._auto_1)
 (jc:autoParam (∀x,f (.bytes x)=Option.none) eh._auto_1)
 (jd:autoParam (∀x,f (.bp x)=Option.none) eh._auto_1)
 (hW:autoParam (∀x,f (.cD x)=Option.none) eh._auto_1)
 (hv:autoParam (∀x y z,f (.fv x y z)=Option.none) l3._auto_1)
 (jY:autoParam (∀x,f (.ref x)=Option.none) eh._auto_1)
 (hu:autoParam (∀x,f (.bY x)=Option.none) eh._auto_1):P ay:=
 aN.casesOn (motive_1:=λv ay _=>f v=some b->P ay) r (λe=>el (e.symm.trans hX)) (λx e=>el (e.symm.trans (hr x))) (λx _ e=>el (e.symm.trans (iz x))) (λx _ e=>el (e.symm.trans (hx x))) (λx _ e=>el (e.symm.trans (jc x))) (λr q=>vf _ _ _ _ r q) (λ_ _ _ _ e=>el (e.symm.trans (jd _))) (λ_ _ _ _ e=>el (e.symm.trans (hW _))) (λ_ e=>el (e.symm.trans (hv _ _ _))) (λ_ e=>el (e.symm.trans (jY _))) (λx e=>el (e.symm.trans (hu x))) e
theorem aN.A'(r:aN prog w W n v ay)(aF:J->Prop)(h:aF v)
 (O4:autoParam (aF .none->False) ac6._auto_1)
 (O2:autoParam (∀x,aF (.int x)->False) jG._auto_1)
 (O8:autoParam (∀x,aF (.str x)->False) jG._auto_1)
 (O0:autoParam (∀x,aF (.bytes x)->False) jG._auto_1)
 (O9:autoParam (∀x,aF (.bo x)->False) jG._auto_1)
 (O3:autoParam (∀x,aF (.bp x)->False) jG._auto_1)
 (O1:autoParam (∀x,aF (.cD x)->False) jG._auto_1)
 (O7:autoParam (∀x y z,aF (.fv x y z)->False) sT._auto_1)
 (O6:autoParam (∀x,aF (.ref x)->False) jG._auto_1)
 (O5:autoParam (∀x,aF (.bY x)->False) jG._auto_1):∃b,ay=.bool b/\aF (.bool b):=
 aN.casesOn (motive_1:=λv ay _=>aF v->∃b,ay=.bool b/\aF (.bool b)) r (λh=>(O4 h).elim) (λb h=>⟨b,rfl,h⟩) (λ_ _ h=>(O2 _ h).elim) (λ_ _ h=>(O8 _ h).elim) (λ_ _ h=>(O0 _ h).elim) (λ_ _ h=>(O9 _ h).elim) (λ_ _ _ _ h=>(O3 _ h).elim) (λ_ _ _ _ h=>(O1 _ h).elim) (λ_ h=>(O7 _ _ _ h).elim) (λ_ h=>(O6 _ h).elim) (λ_ h=>(O5 _ h).elim) h
end
noncomputable def lU:Code->Bool
 |.builtin id _=> !Builtin.Bytes.decodersThatHold.contains id
 |_=>true
noncomputable def zY(l:List (Code×Pos)):Prop:=∀x∈l,lU x.1=true
noncomputable def vj(c6:Ctx):Prop:=lU c6.code=true/\zY c6.below
noncomputable def wpN{α:Type}(M:Model)(A:Around)(t:Sem α)(Q:α->Shared->Prop)(E:Value->Shared->Prop)(s:Shared):Prop:=
 ∀c6 p,c6.In A->vj c6->Sem.wp M c6 t (λa _ aY=>Q a aY) (λe _ aY=>E e aY) p s
noncomputable def e8(M:Model)(A:Around)(c:Code)(R:Result->Shared->Prop)(s:Shared):Prop:=
 ∀c6 p,c6.code=c->c6.Below A->zY c6.below->wpCode M c6 R p s
section
variable{α bW:Type}{M:Model}{A:Around}{E:Value->Shared->Prop}{s:Shared}
theorem wpN.of{t:Sem α}{Q:α->Shared->Prop}(h:wpAny M A t Q E s):wpN M A t Q E s:=λc6 p fb _=>h c6 p fb
theorem cz{a:α}{Q:α->Shared->Prop}(h:Q a s):wpN M A (pure a) Q E s:=.of (bx h)
theorem cF{t:Sem α}{Q lp:α->Shared->Prop}(h:wpN M A t Q E s)(aQ:∀a s,Q a s->lp a s)(hE:∀e s,E e s->Mg e s):wpN M A t lp Mg s:=
 λc6 p fb aw=>Sem.wp_mono M c6 t (λa _ s=>aQ a s) (λe _ s=>hE e s) p s (h c6 p fb aw)
theorem a6{m:Sem α}{f:α->Sem bW}{Q:bW->Shared->Prop}(h:wpN M A m (λa aY=>wpN M A (f a) Q E aY) E s):wpN M A (m>>=f) Q E s:=λc6 p fb aw=>by
 rw[Sem.wp_bind']
 exact Sem.wp_mono M c6 m (λa jA aY h'=>h' c6 jA fb aw) (λ_ _ _ h'=>h') p s (h c6 p fb aw)
theorem d8{m:Sem α}{Q:α->Shared->Prop}(h:wpN M A m Q E s):wpN M A (holding vs m) Q E s:=λc6 p fb aw=>by rw[Sem.wp_holding];exact h c6 p fb aw
theorem act{m:Sem α}{Q:α->Shared->Prop}(h:wpN M A m Q E s):wpN M A (m.keep vs) Q E s:=λc6 p fb aw=>by rw[Sem.wp_keep];exact h c6 p fb aw
theorem vc(h:wpN M A m Q E s):wpN M A (operate vs m) Q E s:=λc6 p fb aw=>by rw[Sem.wp_operate];exact h c6 p fb aw
theorem ed(h:Q () s):wpN M A (standAt pos) Q E s:=.of (wpAny_standAt h)
theorem pH{m:Sem α}{Q:α->Shared->Prop}(h:wpN M A m Q (λ_ _=>False) s):wpN M A (m.onRaise k) Q E s:=λc6 p fb aw=>by
 rw[Sem.wp_onRaise]
 exact Sem.wp_mono M c6 m (λ_ _ _ h'=>h') (λe jA aY h'=>h'.elim) p s (h c6 p fb aw)
theorem acm{m:Sem α}{Q:Except Value α->Shared->Prop}(h:wpN M A m (λa=>Q (.ok a)) (λe=>Q (.error e)) s):wpN M A m.attempt Q E s:=λc6 p fb aw=>by
 rw[Sem.wp_attempt];exact h c6 p fb aw
theorem vj.enter(h:vj c6)(c:Code)(aB:Option Value)(p:Pos):zY (c6.enter c aB p).below:=λx av=>by
 rcases fj.mp (show x∈(c6.code,p)::c6.below from av) with rfl|av
 .exact h.1
 .exact h.2 x av
theorem LN
 (aw:e8 M (A.mark h) c (λr aY=>match r with|.ok f=>Q f aY|.error e=>E e aY) s)(xg:autoParam (h≠some byPass) ac7._auto_1):wpN M A (run c h) Q E s:=
 λc6 p fb ke=>by rw[Sem.wp_run];exact aw _ p rfl (fb.enter c h p xg) (ke.enter c h p)
theorem acu
 (aw:e8 M A c (λr aY=>match r with|.ok (.ret v)=>Q v aY|.ok _=>False|.error e=>E e aY) s):wpN M A (runValue c) Q E s:=
 λc6 p fb ke=>by rw[Sem.wp_runValue];exact aw _ p rfl (fb.enter c none p (by intro x;cases x)) (ke.enter c none p)
theorem yq
 (aw:e8 M A (.call f ⟨pos,kw⟩) (λr aY=>match r with|.ok (.ret v)=>Q v aY|.ok _=>False|.error e=>E e aY) s):wpN M A (call f pos kw) Q E s:=acu aw
theorem FV(h:e8 M A c R s)(gI:∀r s,R r s->dK r s):e8 M A c dK s:=
 λc6 p aw fb ke=>wpCode_mono gI (h c6 p aw fb ke)
theorem oU(ok:lU c=true)
 (h:wpN M (A.under c) (M.den c) (λcH aY=>match cH with|.done f=>R (.ok f) aY|.again cp=>cp.quiet=true/\e8 M A cp R aY) (λe aY=>R (.error e) aY) s):e8 M A c R s:=λc6 p aw fb ke=>by
 rw[wpCode_iff_wp,aw]
 refine Sem.wp_mono M c6 _ (λcH jA aY h'=>?_) (λ_ _ _ h'=>h') p s (h c6 p (aw▸fb.in) ⟨by rw[aw];exact ok,ke⟩)
 induction cH with
 |done f=>exact h'
 |again cp=>exact⟨h'.1,h'.2 (c6.goto cp) jA rfl (fb.goto cp) ke⟩
theorem z0(ok:lU c=true)(b5:c.quiet=true)(aP:Nat->Shared->Prop)
 (turn:∀n s,aP n s->wpN M (A.under c) (M.den c)
   (λcH aY=>match cH with|.done f=>R (.ok f) aY|.again cp=>(cp=c/\∃m,m<n/\aP m aY)\/(cp.quiet=true/\e8 M A cp R aY)) (λe aY=>R (.error e) aY) s)
 (n:Nat)(h:aP n s):e8 M A c R s:=by
 induction n using Nat.strongRecOn generalizing s with
 |ind n aZ=>
  refine oU ok (cF (turn n s h) (λcH aY hf=>?_) λ_ _ h'=>h')
  induction cH with
  |done f=>exact hf
  |again cp=>
   rcases hf with⟨rfl,m,hm,iP⟩|hf
   .exact⟨b5,aZ m hm iP⟩
   .exact hf
end
section
variable{M:Model}{A:Around}{E:Value->Shared->Prop}{s:Shared}{env:Env}
theorem ab9{l op r pos}
 (h:wpN M A (eval l env) (λa bj=>wpN M A (eval r env) (λb cZ=>wpN M A (binaryOp op a b) Q E cZ) E bj) E s):wpN M A (eval (.BinOp l op r pos) env) Q E s:=by
 rw[eval_BinOp]
 exact a6 (cF h (λa bj h₁=>a6 (d8 (cF h₁ (λb cZ eG=>a6 (ed (vc eG))) λ_ _ x=>x))) λ_ _ x=>x)
theorem aca{l op r pos}
 (h:wpN M A (eval l env) (λa bj=>wpN M A (eval r env) (λb cZ=>wpN M A (compareOp op a b) Q E cZ) E bj) E s)(hm:behindInMarks op r=false):wpN M A (eval (.Compare l [op] [r] pos) env) Q E s:=by
 rw[eval_Compare1,markedBehindIn_of_false hm]
 exact a6 (cF h (λa bj h₁=>a6 (d8 (cF h₁ (λb cZ eG=>a6 (ed (vc eG))) λ_ _ x=>x))) λ_ _ x=>x)
theorem acq{l op r pos h5}
 (h:wpN M A (eval l env) (λa bj=>wpN M A (eval r env) (λb cZ=>wpN M A (compareOp op a b) (λc fy=>wpN M A (truthy c) Q E fy) E cZ) E bj) E s)
 (hm:behindInMarks op r=false):wpN M A (isTrue (.Compare l [op] [r] pos) env h5) Q E s:=by
 rw[isTrue_Compare1,markedBehindIn_of_false hm]
 exact a6 (cF h (λa bj h₁=>a6 (d8 (cF h₁ (λb cZ eG=>a6 (ed (a6 (vc (cF eG (λc fy gT=>d8 gT) λ_ _ x=>x))))) λ_ _ x=>x))) λ_ _ x=>x)
theorem acs(h:wpN M A h5 (λv bj=>wpN M A (truthy v) Q E bj) E s)
 (b1:isTrue e env h5=(do let v<-h5;standAt e.pos;holding [v] (truthy v))):wpN M A (isTrue e env h5) Q E s:=by
 rw[b1]
 exact a6 (cF h (λv bj h₁=>a6 (ed (d8 h₁))) λ_ _ x=>x)
theorem acr(h:wpN M A (isTrue x env (eval x env)) (λb bj=>Q (!b) bj) E s):wpN M A (isTrue (.UnaryOp .Not x pos) env h5) Q E s:=by
 rw[arm_isTrue_UnaryOp]
 exact a6 (cF h (λb bj h₁=>cz h₁) λ_ _ x=>x)
theorem acp(h:wpN M A (allTrue op values env) Q E s):wpN M A (isTrue (.BoolOp op values pos) env h5) Q E s:=by
 rw[arm_isTrue_BoolOp];exact h
theorem ack
 (h:wpN M A (isTrue x env (eval x env)) (λb bj=>if b=true then wpN M A (allTrue .And rest env) Q E bj else Q false bj) E s):wpN M A (allTrue .And (x::rest) env) Q E s:=by
 show wpN M A (do match BoolOp.And,<-isTrue x env (eval x env) with|.And,false=>pure false|.Or,true=>pure true|_,_=>allTrue .And rest env) Q E s
 refine a6 (cF h (λb bj h₁=>?_) λ_ _ x=>x)
 cases b
 .exact cz h₁
 .exact h₁
theorem acl
 (h:wpN M A (isTrue x env (eval x env)) (λb bj=>if b=true then Q true bj else wpN M A (allTrue .Or rest env) Q E bj) E s):wpN M A (allTrue .Or (x::rest) env) Q E s:=by
 show wpN M A (do match BoolOp.Or,<-isTrue x env (eval x env) with|.And,false=>pure false|.Or,true=>pure true|_,_=>allTrue .Or rest env) Q E s
 refine a6 (cF h (λb bj h₁=>?_) λ_ _ x=>x)
 cases b
 .exact h₁
 .exact cz h₁
theorem ace
 (h:wpN M A (isTrue test env (eval test env)) (λb bj=>if b=true then wpN M A (eval body env) Q E bj else wpN M A (eval iY env) Q E bj) E s):wpN M A (eval (.IfExp test body iY pos) env) Q E s:=by
 rw[arm_eval_IfExp]
 refine a6 (cF h (λb bj h₁=>?_) λ_ _ x=>x)
 cases b<;>exact h₁
theorem aci(h:wpN M A (eval x env) (λv bj=>wpN M A (unaryOp op v) Q E bj) E s):wpN M A (eval (.UnaryOp op x pos) env) Q E s:=by
 rw[arm_eval_UnaryOp]
 exact a6 (cF h (λv bj h₁=>a6 (ed (d8 h₁))) λ_ _ x=>x)
theorem Dz
 (h:wpN M A x (λv bj=>wpN M A (spliced rest) (λvs cZ=>Q (v::vs) cZ) E bj) E s):wpN M A (spliced ((false,x)::rest)) Q E s:=by
 rw[spliced]
 refine a6 (cF h (λv bj h₁=>?_) λ_ _ x=>x)
 rw[if_neg fY]
 exact a6 (cz (a6 (d8 (cF h₁ (λvs cZ eG=>cz eG) λ_ _ x=>x))))
theorem ach
 (h:wpN M A (spliced (backTo pos (starEach tK env))) (λvs bj=>wpN M A (newTuple vs) Q E bj) E s):wpN M A (eval (.Tuple tK k pos) env) Q E s:=by
 show wpN M A (do standAt pos;newTuple (<-spliced (backTo pos (starEach tK env)))) Q E s
 exact a6 (ed (a6 h))
theorem LI
 (h:wpN M A (spliced (backTo pos (starEach tK env))) (λvs bj=>wpN M A (newList vs) Q E bj) E s):wpN M A (eval (.List tK pos) env) Q E s:=by
 show wpN M A (do standAt pos;newList (<-spliced (backTo pos (starEach tK env)))) Q E s
 exact a6 (ed (a6 h))
theorem LJ{value slice pos}
 (h:wpN M A (eval value env) (λo bj=>wpN M A (eval slice env) (λi cZ=>wpN M A (subscriptTail value slice o i) Q E cZ) E bj) E s):wpN M A (eval (.Subscript value slice pos) env) Q E s:=by
 rw[eval_Subscript]
 exact a6 (cF h (λo bj h₁=>a6 (d8 (cF h₁ (λi cZ eG=>a6 (ed eG)) λ_ _ x=>x))) λ_ _ x=>x)
theorem sQ
 (h:wpN M A (spliced ((false,x)::rest)) (λvs aY=>Q ⟨vs,[]⟩ aY) E s):wpN M A (evalArgs f true ((false,x)::rest) []) Q E s:=by
 unfold evalArgs
 show wpN M A (spliced ((false,x)::rest)>>=_) Q E s
 refine a6 (cF h (λvs aY h'=>?_) λ_ _ x=>x)
 refine d8 ?_
 exact a6 (cz (a6 (cz (cz h'))))
theorem LL(h:Q ⟨[],[]⟩ s):wpN M A (evalArgs f true [] []) Q E s:=.of (PySem.evalArgs_none h)
theorem DA(h:wpN M A t Q E s):wpN M A (t>>=λr=>holding [r] point>>=λ_=>pure r) Q E s:=
 a6 (cF h (λr cZ aI=>a6 (d8 (.of (wpAny_point (cz aI))))) λ_ _ x=>x)
theorem sP(hk:keeperOf f=pure .machine)(qv:args.any (·.1)=false)
 (h:wpN M A (evalArgs f true args []) (λa bj=>wpN M A (call f (first++a.pos) a.kw) Q E bj) E s):wpN M A (callWith pos f first args []) Q E s:=by
 unfold callWith
 refine a6 (d8 (cF h (λa bj h₁=>a6 (ed ?_)) λ_ _ x=>x))
 rw[qv,hk]
 refine a6 (cz ?_)
 exact DA h₁
theorem LK(qv:args.any (·.1)=false)
 (h:wpN M A (evalArgs (.ref a) true args []) (λx bj=>(bj.heap.get? a=some o/\o.data=.func fd)/\wpN M A (call (.ref a) (first++x.pos) x.kw) Q E bj) E s):wpN M A (callWith pos (.ref a) first args []) Q E s:=by
 unfold callWith
 refine a6 (d8 (cF h (λx bj h₁=>a6 (ed ?_)) λ_ _ x=>x))
 rw[qv]
 refine a6 (m:=keeperOf (.ref a)) ?_
 unfold keeperOf
 refine a6 (.of (wpAny_load h₁.1.1 ?_))
 rw[h₁.1.2]
 refine cz ?_
 show wpN M A (ite (args.length+2*0>30) _ _) Q E _
 by_cases q:args.length+2*0>30
 .rw[if_pos q];exact DA h₁.2
 .rw[if_neg q];exact DA (by unfold callMarked;exact act h₁.2)
end
noncomputable abbrev gW:Value->Shared->Prop:=λ_ _=>False
section
variable{M:Model}{A:Around}{E:Value->Shared->Prop}{s:Shared}{env:Env}
theorem aco{st rest}
 (h:wpN M A (exec st env) (λf aY=>match f with|.next=>wpN M A (execs rest env) Q E aY|f=>Q f aY) E s):wpN M A (execs (st::rest) env) Q E s:=λc6 p fb aw=>by
 rw[execs_cons,Sem.wp_bind']
 refine Sem.wp_mono M c6 _ (λf jA aY h'=>?_) (λ_ _ _ h'=>h') _ _ (h c6 p fb aw)
 cases f<;>first|exact h' c6 jA fb aw|exact h'
theorem acf{e pos}(h:wpN M A (eval e env) (λv=>Q (.ret v)) E s):wpN M A (exec (.Return (some e) pos) env) Q E s:=by
 rw[exec_Return_some]
 exact a6 (ed (a6 (cF h (λv aY h'=>cz h') λ_ _ x=>x)))
theorem acd{test body iY pos}
 (h:wpN M A (isTrue test env (eval test env)) (λb cZ=>if b=true then wpN M A (execs body env) Q E cZ else wpN M A (execs iY env) Q E cZ) E s):wpN M A (exec (.If test body iY pos) env) Q E s:=by
 rw[exec_If]
 refine a6 (ed (a6 (cF h (λb cZ eG=>?_) λ_ _ x=>x)))
 cases b<;>exact eG
theorem ab8{x jh op value pos}
 (h:wpN M A (loadName env x) (λold bj=>wpN M A (eval value env) (λv cZ=>wpN M A (inplaceOp op old v) (λr fy=>wpN M A (bindName env x r) (λ_=>Q .next) E fy) E cZ) E bj) E s):
 wpN M A (exec (.AugAssign (.Name x jh) op value pos) env) Q E s:=by
 rw[exec_AugAssign_Name]
 exact a6 (ed (a6 (cF h (λold bj h₁=>a6 (d8 (cF h₁ (λv cZ eG=>a6 (ed (a6 (vc (cF eG (λr fy gT=>
  a6 (ed (a6 (cF gT (λ_ pC qB=>cz qB) λ_ _ x=>x)))) λ_ _ x=>x))))) λ_ _ x=>x))) λ_ _ x=>x)))
theorem ab6{x jh value pos}
 (h:wpN M A (eval value env) (λv bj=>wpN M A (bindName env x v) (λ_=>Q .next) E bj) E s)
 (hs:autoParam (swapsWith value (some (.Name x jh)) pos.line env=pure false) aL._auto_1):wpN M A (exec (.Assign [.Name x jh] value pos) env) Q E s:=by
 rw[exec_Assign_Name env x jh value pos hs]
 exact a6 (ed (a6 (cF h (λv bj h₁=>a6 (ed (a6 (cF h₁ (λ_ cZ eG=>cz eG) λ_ _ x=>x)))) λ_ _ x=>x)))
theorem ab7
 (h:wpN M A (eval value env) (λv bj=>wpN M A (assignAll v ((assignEach yh env).map (·.2))) (λ_=>Q .next) E bj) E s)
 (hs:swapsWithSole yh value pos.line env=pure false)(hw:swappedStores yh value env=pure none):wpN M A (exec (.Assign yh value pos) env) Q E s:=by
 rw[exec_Assign_arm]
 refine a6 (ed ?_)
 rw[hs]
 refine a6 (cz ?_)
 rw[if_neg (by decide)]
 refine a6 (cF h (λv bj h₁=>?_) λ_ _ x=>x)
 rw[hw]
 refine a6 (cz ?_)
 show wpN M A (do assignAll v ((assignEach yh env).map (·.2));pure .next) Q E bj
 exact a6 (cF h₁ (λ_ _ x=>cz x) λ_ _ x=>x)
theorem LO
 (aw:e8 M A c (λr aY=>match r with|.ok f=>Q f aY|.error _=>False) s):wpN M A (runOwn c env) Q E s:=by
 unfold runOwn
 refine pH (LN (h:=none) ?_)
 exact FV aw λr aY h=>by cases r<;>exact h
theorem acj{test body iY pos}
 (h:e8 M A (.whileLoop test body iY env) (λr aY=>match r with|.ok f=>Q f aY|.error _=>False) s):wpN M A (exec (.While test body iY pos) env) Q E s:=by
 rw[exec_While];exact a6 (ed (LO h))
theorem LH{target iter body iY pos}
 (h:wpN M A (eval iter env) (λx bj=>wpN M A (pyIter x) (λit cZ=>e8 M A (.forLoop target it body iY env) (λr aY=>match r with|.ok f=>Q f aY|.error _=>False) cZ) E bj) E s)
 (hs:∀x,foldedSetIterable iter env x=pure x):wpN M A (exec (.For target iter body iY pos) env) Q E s:=by
 rw[exec_For]
 refine a6 (ed (a6 (cF h (λx bj h₁=>?_) λ_ _ h'=>h')))
 rw[hs x]
 exact a6 (cz (a6 (ed (a6 (d8 (cF h₁ (λit cZ eG=>LO eG) λ_ _ h'=>h'))))))
end
section
variable{prog:Program}{w:World}{A:Around}{E:Value->Shared->Prop}{s:Shared}{R:Result->Shared->Prop}
theorem OQ{test body iY env}(aP:Nat->Shared->Prop)
 (turn:∀n s,aP n s->wpN (model prog w) A (isTrue test env (eval test env)) (λb cZ=>
   if b=true then wpN (model prog w) A (execs body env) (λf fy=>match f with
       |.next|.cont=>∃m,m<n/\aP m fy
       |.brk=>R (.ok .next) fy
       |.ret v=>R (.ok (.ret v)) fy) gW cZ
   else wpN (model prog w) A (execs iY env) (λf fy=>R (.ok f) fy) gW cZ) gW s)
 (n:Nat)(h:aP n s):e8 (model prog w) A (.whileLoop test body iY env) R s:=by
 refine z0 rfl rfl aP (λn s iP=>?_) n h
 show wpN _ A ((whileTurn test body iY env).onRaise (λx=>do noteFrame x env;theTreesLotGoes x)) _ _ s
 refine pH ?_
 unfold whileTurn
 refine a6 (cF (turn n s iP) (λb cZ eG=>?_) λ_ _ h'=>h')
 induction b with
 |true=>
  refine a6 (cF eG (λf fy gT=>?_) λ_ _ h'=>h')
  induction f with
  |next=>exact cz (.inl ⟨rfl,gT⟩)
  |cont=>exact cz (.inl ⟨rfl,gT⟩)
  |brk=>exact cz gT
  |ret v=>exact cz gT
 |false=>
  exact a6 (cF eG (λf fy gT=>cz gT) λ_ _ h'=>h')
theorem OK(h:wpN (model prog w) A (execs stmts env) (λf aY=>R (.ok f) aY) gW s):e8 (model prog w) A (.block stmts env) R s:=by
 refine oU rfl ?_
 show wpN _ _ (do return Fin.done (<-(execs stmts env).onRaise (λx=>do noteFrame x env;theTreesLotGoes x))) _ _ s
 exact a6 (pH (cF h (λf aY h'=>cz h') λ_ _ h'=>h'))
theorem FT{target it body iY env}(aP:Nat->Shared->Prop)
 (turn:∀n s,aP n s->wpN (model prog w) A (pyNext it) (λr bj=>match r with
   |none=>wpN (model prog w) A (execs iY env) (λf fy=>R (.ok f) fy) gW bj
   |some v=>wpN (model prog w) A (letOwnedTupleGo target it v) (λ_ u3=>
     wpN (model prog w) A (assign target env v) (λ_ cZ=>wpN (model prog w) A (execs body env) (λf fy=>match f with
      |.next|.cont=>∃m,m<n/\aP m fy
      |.brk=>R (.ok .next) fy
      |.ret v=>R (.ok (.ret v)) fy) gW cZ) gW u3) gW bj) gW s)
 (n:Nat)(h:aP n s):e8 (model prog w) A (.forLoop target it body iY env) R s:=by
 refine z0 rfl rfl aP (λn s iP=>?_) n h
 show wpN _ A ((forTurn target it body iY env).onRaise (λx=>do noteFrame x env;theTreesLotGoes x)) _ _ s
 refine pH ?_
 unfold forTurn
 refine a6 (ed (a6 (pH (cF (turn n s iP) (λr bj h₁=>?_) λ_ _ h'=>h'))))
 induction r with
 |none=>exact cz (.inr ⟨rfl,OK h₁⟩)
 |some v=>
  refine a6 (cF h₁ (λ_ u3 BP=>?_) λ_ _ h'=>h')
  refine a6 (cF BP (λ_ cZ eG=>a6 (cF eG (λf fy gT=>?_) λ_ _ h'=>h')) λ_ _ h'=>h')
  induction f with
  |next=>exact cz (.inl ⟨rfl,gT⟩)
  |cont=>exact cz (.inl ⟨rfl,gT⟩)
  |brk=>exact cz gT
  |ret v=>exact cz gT
theorem FU{body env}(h:wpN (model prog w) (A.deeper env) (execs body env) (λf aY=>R (.ok (.ret (match f with|.ret v=>v|_=>.none))) aY) gW s):e8 (model prog w) A (.func body env) R s:=by
 refine oU rfl ?_
 show wpN _ (A.deeper env) (do point;match<-(execs body env).onRaise (leaving env) with|.ret v=>ret v|_=>ret .none) _ _ s
 refine a6 (.of (wpAny_point ?_))
 refine a6 (pH (cF h (λf aY h'=>?_) λ_ _ h'=>h'))
 cases f<;>exact cz h'
theorem FR(qx:A.depth<recursionLimit)(aH:s.heap.get? a=some o)
 (ey:o.data=.func fd)(mu:fd.scope.isCoroutine=false)(mv:fd.scope.isGenerator=false)(mq:fd.body=.stmts body)(jT:s.heap.CodeRec fd.code fd.qualname)
 (h:wpN (model prog w) A.in1 (bindArgs fd args) (λbinds bj=>
   wpN (model prog w) A.in1 (newFunctionEnv fd.scope fd.globals fd.closure binds (fd.qualname++".<locals>.") (some a) fd.code none fd.builtins)
    (λenv cZ=>cZ.heap.NoLimit/\e8 (model prog w) A (.func body env) R cZ) gW bj) gW s):
 e8 (model prog w) A (.call (.ref a) args) R s:=by
 refine oU rfl ?_
 show wpN _ A.in1 (callAny (.ref a) args) _ _ s
 unfold callAny
 refine a6 (.of (wpAny_load aH ?_))
 obtain⟨c,oc,vs,adx,aw,Bz,tY,b5⟩:=jT
 rw[ey]
 show wpN _ A.in1 (callFunction _ _ _) _ _ _
 unfold callFunction
 rw[mu,mv,mq,aw]
 rw[aw] at h
 refine a6 (m:=field (.ref c) 1) (.of (wpAny_field Bz tY b5 ?_))
 refine a6 (cz ?_)
 exact a6 (cF h (λbinds bj h₁=>a6 (cF h₁ (λenv cZ eG=>a6 (.of (wpAny_enterFrame eG.1 qx
  (cz (And.intro rfl eG.2))))) λ_ _ h'=>h'.elim)) λ_ _ h'=>h'.elim)
theorem ON
 (qx:A.depth<recursionLimit)(aH:s.heap.get? a=some o)(Bg:o.data=.func fd)(t5:s.heap.NoLimit)(jT:s.heap.CodeRec fd.code fd.qualname)
 (mq:fd.body=.stmts body)(nZ:bindArgs fd args=pure binds)
 (mr:∀x∈fd.scope.names,x.2≠.cell)(n4:∀x∈binds,fd.scope.names.lookup x.1=some .local)
 (h:∀h₀,h₀.Ns s.heap.objs.size (λx=>binds.reverse.lookup x)->(∀b o,s.heap.get? b=some o->h₀.get? b=some o)->
   wpN (model prog w) (A.deeper (callEnv fd s.heap.objs.size a)) (execs body (callEnv fd s.heap.objs.size a)) (λf aY=>R (.ok (.ret (match f with|.ret v=>v|_=>.none))) aY) gW
    {s with heap:=h₀,toks:=s.toks+binds.length})
 (mu:fd.scope.isCoroutine=false)(mv:fd.scope.isGenerator=false)(hk:fd.scope.kind=.function):e8 (model prog w) A (.call (.ref a) args) R s:=by
 refine FR qx aH Bg mu mv mq jT ?_
 rw[nZ]
 refine cz (.of (wpAny_newFunctionEnv mr n4 (λh₀ SI H'=>⟨t5.fresh _ H',FU (h h₀ SI λb o e=>?_)⟩) hk))
 exact H'.extBut b o (d9 (Heap.lt_size e)) (i2 _ e)
theorem OM
 (qx:A.depth<recursionLimit)(aH:s.heap.get? a=some o)(Bg:o.data=.func fd)(t5:s.heap.NoLimit)(jT:s.heap.CodeRec fd.code fd.qualname)
 (mq:fd.body=.stmts body)(nZ:bindArgs fd ⟨pF,[]⟩=pure binds)(qm:fd.closure=[])
 (i8:∀x∈binds,fd.scope.names.lookup x.1=some .local\/(fd.scope.names.lookup x.1=some .cell/\((cellsFrom (s.heap.objs.size+1) fd.scope.names []).lookup x.1).isSome=true))
 (h:∀bj,InCallC s (callEnvC fd s.heap.objs.size a).locals (bindL (callEnvC fd s.heap.objs.size a).kindOf binds λ_=>none) (callEnvC fd s.heap.objs.size a).cells
    (bindC (callEnvC fd s.heap.objs.size a).kindOf binds λ_=>none) bj->
   wpN (model prog w) (A.deeper (callEnvC fd s.heap.objs.size a)) (execs body (callEnvC fd s.heap.objs.size a)) (λf aY=>R (.ok (.ret (match f with|.ret v=>v|_=>.none))) aY) gW bj)
 (mu:fd.scope.isCoroutine=false)(mv:fd.scope.isGenerator=false)(hk:fd.scope.kind=.function):e8 (model prog w) A (.call (.ref a) ⟨pF,[]⟩) R s:=by
 refine FR qx aH Bg mu mv mq jT ?_
 rw[nZ,qm]
 refine cz (.of (wpAny_newFunctionEnv_cells hk i8 λenv b1 aY x=>?_))
 subst b1
 exact⟨t5.keeps x.toInCall.keep,FU (h aY x)⟩
theorem OP{ea target iter gU rest scope pos it acc env}
 (ah:e8 (model prog w) A (.compLoop (.ListComp ea (⟨target,iter,gU,0⟩::rest) scope pos) 0 it acc env) R s)
 (h:wpN (model prog w) A (pyIter it) (λIo aY=>e8 (model prog w) A (.compLoop (.ListComp ea (⟨target,iter,gU,0⟩::rest) scope pos) 0 Io acc env) R aY) gW s):
 e8 (model prog w) A (.compStart (.ListComp ea (⟨target,iter,gU,0⟩::rest) scope pos) 0 it acc env) R s:=by
 refine oU rfl ?_
 show wpN _ _ ((compStart (.ListComp ea (⟨target,iter,gU,0⟩::rest) scope pos) 0 it acc env).onRaise (λx=>do noteFrame x env;standAt theWindowsPlace)) _ _ s
 refine pH ?_
 unfold compStart
 show wpN _ _ (ask>>=_) _ _ s
 refine a6 (.of (wpAny_askSetting ?_))
 split
 .first
   |exact a6 (cz (cz (And.intro rfl ah)))
   |exact cz (And.intro rfl ah)
 .refine a6 (.of (wpAny_rule ?_))
  show wpN _ _ (standAt iter.pos>>=_) _ _ s
  exact a6 (ed (a6 (cF h (λIo aY h'=>cz (And.intro rfl h')) λ_ _ x=>x)))
end
section
variable{prog:Program}{w:World}{A:Around}{E:Value->Shared->Prop}{s:Shared}{env:Env}
theorem LG
 (nY:attributeBase o name env (eval o env)=eval o env)
 (qr:((backTo pos (starEach args env)).all (λx=> !x.1)&&(backToKw pos (keywordEach [] env)).all (λx=>x.1.isSome)
   &&decide (args.length+([]:List Keyword).length+(if([]:List Keyword).isEmpty then 0 else 1)<30))=true)
 (n3:(jN.endLine==pos.line)=true)(BL:backTo pos (starEach args env)=Ds)
 (h:wpN (model prog w) A (eval o env) (λjg bj=>∃T id,PlainAttrs T/\PySem.Slot T name id/\typeOf (.builtin id)=pure (.type "method_descriptor")/\bj.TypeIs jg T/\(∀a,jg=.ref a->∃ob,bj.heap.get? a=some ob/\ob.dict=none)/\
   wpN (model prog w) A (callWith pos (.builtin id) [jg] Ds []) Q E bj) E s):
 wpN (model prog w) A (eval (.Call (.Attribute o name jN) args [] pos) env) Q E s:=by
 subst BL
 rw[arm_eval_Call,nY]
 refine a6 (cF h (λjg bj h₁=>?_) λ_ _ e=>e)
 obtain⟨T,id,CX,slot,BM,hT,aB,aw⟩:=h₁
 refine a6 (ed ?_)
 have Bp:methodCallForm (args.length+([]:List Keyword).length) (backTo pos (starEach args env)) (backToKw pos (keywordEach [] env))=true:=qr
 have BD:methodCallPos true o env jN pos=pure pos:=by unfold methodCallPos;simp[n3]
 unfold methodCall
 rw[Bp]
 refine a6 (d8 (.of (getMethod_builtin hT CX slot BM aB ?_)))
 dsimp only
 rw[BD]
 exact a6 (cz aw)
noncomputable def wo(M:Model)(A:Around)(use:Option (Value->Sem Unit))(Q:Value->Shared->Prop)(acc:Value)(aA:Addr)(r:Result)(aY:Shared):Prop:=
 match r,use with
 |.ok _,none=>∃m,aY.heap.Ns aA m/\∀h',Heap.SameBut aA aY.heap h'->Q acc {aY with heap:=h'}
 |.ok _,some u=>wpN M A (u acc) (λ_ ow=>∃m,ow.heap.Ns aA m/\∀h',Heap.SameBut aA ow.heap h'->Q .none {ow with heap:=h'}) gW aY
 |.error _,_=>False
theorem Dy
 (ke:clausesOf e=g::adj)(hs:∀x,foldedSetIterable g.iter env x=pure x)(qn:closureFor scope env=pure eK)
 (i8:scope.kind=.function)(mx:∀x∈scope.names,x.2=.local->scope.names.lookup x.1=some .local)
 (h:wpN M A first (λx bj=>wpN M A (pyIter x) (λit cZ=>wpN M A UL (λacc fy=>
   wpN M A (newFunctionEnv scope env.globals eK [] env.qual none .none (some env)) (λcenv pC=>
    e8 M A (.compStart e 0 it acc {cenv with scope:=relabel scope env}) (wo M A use Q acc cenv.locals) pC) E fy) E cZ) E bj) E s):
 wpN M A (comprehension e scope env pos UL false first use) Q E s:=by
 unfold comprehension
 rw[qn,ke]
 refine a6 (cF h (λx bj h₁=>a6 (ed ?_)) λ_ _ h'=>h')
 dsimp only
 rw[hs x]
 refine a6 (cz (a6 (d8 (cF h₁ (λit cZ eG=>?_) λ_ _ h'=>h'))))
 have aaZ:∀{α:Type} {c:Prop} [Decidable c] {pos:Pos} {k:PUnit->Sem α} {Q:α->Shared->Prop} {s:Shared},wpN M A (k ()) Q E s->wpN M A (if c then(standAt pos>>=k) else k ()) Q E s:=λh=>by
  split
  .exact a6 (ed h)
  .exact h
 refine aaZ (a6 (cF eG (λacc fy gT=>a6 (cz (a6 (cF gT (λcenv pC qB=>?_) λ_ _ h'=>h')))) λ_ _ h'=>h'))
 have a3:∀x∈(scope.names.filter λx=>(x.2==.local||x.2==.cell)&&x.1!=(".0":Str)).reverse,x.2=.local->
  Env.kindOf {cenv with scope:=relabel scope env} x.1=some .local:=λx av aG=>lookup_relabel_local (mx x (gZ.mp (List.mem_reverse.mp av)).1 aG)
 have k0:∀x∈(scope.names.filter λx=>(x.2==.local||x.2==.cell)&&x.1!=(".0":Str)).reverse.drop 1++(scope.names.filter λx=>(x.2==.local||x.2==.cell)&&x.1!=(".0":Str)).reverse.take 1,
  x.2=.local->Env.kindOf {cenv with scope:=relabel scope env} x.1=some .local:=λx av aG=>by
  rcases h7.mp av with h1|h1
  .exact a3 x (List.mem_of_mem_drop h1) aG
  .exact a3 x (List.mem_of_mem_take h1) aG
 refine d8 (a6 (acm (d8 (LN (FV qB λr aY aI=>?_)))))
 induction r with
 |ok f=>
  induction use with
  |none=>
   obtain⟨m,aW,aI⟩:=aI
   exact a6 (d8 (.of (wpAny_comp_letGo (cenv:={cenv with scope:=relabel scope env}) i8 _ aY m a3 aW λh' Uv _ iR=>cz (aI h' iR))))
  |some u=>
   refine a6 (.of (wpAny_rule (a6 (d8 (cF aI (λ_ ow BE=>?_) λ_ _ h'=>h'.elim)))))
   obtain⟨m,aW,BE⟩:=BE
   exact a6 (.of (wpAny_comp_letGo (cenv:={cenv with scope:=relabel scope env}) i8 _ ow m k0 aW λh' Uv _ iR=>cz (BE h' iR)))
 |error x=>exact aI.elim
end
theorem iS{α:Type}{Q:α->Shared->Prop}{d:Decidable p}{a b:Sem α}(h:¬p)(k:wpAny M A b Q E s):wpAny M A (if p then a else b) Q E s:=(if_neg h:(if p then a else b)=b).symm▸k
theorem i9{α:Type}{Q:α->Shared->Prop}{d:Decidable p}{a b:Sem α}(h:p)(k:wpAny M A a Q E s):wpAny M A (if p then a else b) Q E s:=(if_pos h:(if p then a else b)=a).symm▸k
theorem k2{α:Type}{Q:α->Shared->Prop}{d:Decidable p}{a b:Sem α}(h:¬p)(k:wpN M A b Q E s):wpN M A (if p then a else b) Q E s:=(if_neg h:(if p then a else b)=b).symm▸k
theorem r0{α:Type}{Q:α->Shared->Prop}{d:Decidable p}{a b:Sem α}(h:p)(k:wpN M A a Q E s):wpN M A (if p then a else b) Q E s:=(if_pos h:(if p then a else b)=a).symm▸k
section
noncomputable abbrev Loc:=List (Option J)
noncomputable abbrev c4:=Loc->St->Option (J×St)
noncomputable abbrev hB:=Loc->St->Option (Bool×St)
inductive fT where
 |next|brk|cont
 |ret (v:J)
noncomputable abbrev ct:=Loc->St->Option (fT×Loc×St)
noncomputable abbrev b3:=List J->St->Option (J×St)
structure eR (A:Around) (k:Nat):Prop where
 h:A.handled=.none
 d:A.depth+8*k+8<1000
 u:A.units+64*k+200<9900
 g:A.guards=some []
theorem eR.IK(R:eR A k):A.depth<recursionLimit:=by have:=R.d;show A.depth<1000;exact aC.XW this
noncomputable def Slot(env:Env)(h:Heap)(m:Str->Option Value)(x:Str)(ay:Value):Prop:=
 (env.kindOf x=some .local/\m x=some ay)\/((env.kindOf x=some .cell\/env.kindOf x=some .free)/\∃c,env.cells.lookup x=some c/\h.IsCell c (some ay))
variable(prog:Program)(w:World)(h₁:Heap)
structure bG (own:Bool) (env:Env) (ns:List Str) (W:az) (U:Loc) (σ:St) (h:Heap):Prop where
 bI:bB prog w h₁ W σ h
 l:W.role env.locals=.U
 cells:∀x c,env.cells.lookup x=some c->(own=true/\W.role c=.U/\c≠env.locals)\/(own=false/\∃o,W.role c=.fix o)
 apart:∀x y c,env.cells.lookup x=some c->env.cells.lookup y=some c->x=y
 nL:∀x c,env.cells.lookup x=some c->∃lZ,h.IsCell c lZ
 U:∃m,h.Ns env.locals m/\∀(i:Nat) v,U[i]? =some (some v)->∃x ay,ns[i]? =some x/\aN prog w W σ.next v ay/\Slot env h m x ay
noncomputable def OpOk(k:Nat)(t:List Value->Sem Value)(F:b3):Prop:=
 ∀(A:Around) (W:az) (σ:St) args v a0 eI (s:Shared) (Q E:Value->Shared->Prop),eR A k->F args σ=some (v,a0)->bB prog w h₁ W σ s.heap->bw prog w W σ.next args eI->
  (∀W' ay h' cP,W.le σ.next W'->σ.next<=a0.next->bB prog w h₁ W' a0 h'->aN prog w W' a0.next v ay->Q ay {s with heap:=h',toks:=cP})->
  wpN (model prog w) A (t eI) Q E s
noncomputable def TOk{α bW:Type}(iI:az->Nat->bW->α->Prop)(own:Bool)(env:Env)(ns:List Str)(k:Nat)(t:Sem α)(D:Loc->St->Option (bW×St)):Prop:=
 ∀(A:Around) (W:az) (U:Loc) (σ:St) v a0 (s:Shared) (Q:α->Shared->Prop) (E:Value->Shared->Prop),eR A k->D U σ=some (v,a0)->bG prog w h₁ own env ns W U σ s.heap->
  (∀W' ay h' cP,W.le σ.next W'->σ.next<=a0.next->bG prog w h₁ own env ns W' U a0 h'->iI W' a0.next v ay->Q ay {s with heap:=h',toks:=cP})->
  wpN (model prog w) A t Q E s
noncomputable abbrev bk:=@TOk prog w h₁ Value J (aN prog w)
noncomputable abbrev BOk:=@TOk prog w h₁ Bool Bool λ_ _ b a=>b=a
noncomputable abbrev l8:=@TOk prog w h₁ (List Value) (List J) (bw prog w)
noncomputable def ll(W:az)(n:Nat):fT->Flow->Prop
 |.next,.next=>True
 |.brk,.brk=>True
 |.cont,.cont=>True
 |.ret v,.ret ay=>aN prog w W n v ay
 |_,_=>False
noncomputable def SOk(env:Env)(ns:List Str)(k:Nat)(t:Sem Flow)(D:ct):Prop:=
 ∀(A:Around) (W:az) (U:Loc) (σ:St) f lP a0 (s:Shared) (Q:Flow->Shared->Prop) (E:Value->Shared->Prop),eR A k->D U σ=some (f,lP,a0)->bG prog w h₁ true env ns W U σ s.heap->
  (∀W' hS h' cP,W.le σ.next W'->σ.next<=a0.next->bG prog w h₁ true env ns W' lP a0 h'->ll prog w W' a0.next f hS->Q hS {s with heap:=h',toks:=cP})->
  wpN (model prog w) A t Q E s
variable{prog w h₁}
noncomputable def az.fG(W:az)(h:Heap):az:={W with role:=λa=>match W.role a with|.U=>(match h.get? a with|some o=>.fix o|none=>.U)|r=>r}
noncomputable def az.bZ(W W':az):az:={W' with role:=λa=>match W.role a with|.U=>.U|_=>(match W'.role a with|.U=>.free|r=>r)}
theorem bB.fG(R:bB prog w h₁ W σ h):bB prog w h₁ (W.fG h) σ h/\W.e2 σ.next (W.fG h):=by
 refine R.sA rfl λa=>?_
 show(match W.role a with|.U=>(match h.get? a with|some o=>bQ.fix o|none=>bQ.U)|r=>r)=_\/_
 cases e:W.role a with
 |U=>
  obtain⟨o,aH⟩:=R.live a (by rw[e];exactλq=>nomatch q)
  refine .inr ⟨.inl rfl,.inr (.inr ⟨o,?_,aH⟩)⟩
  simp[az.fG,e,aH]
 |_=>exact .inl rfl
theorem bB.H7(R:bB prog w h₁ W σ h)(e:W.role a=.U):∃o,h.get? a=some o/\(W.fG h).role a=.fix o:=by
 obtain⟨o,aH⟩:=R.live a (by rw[e];exactλq=>nomatch q)
 exact⟨o,aH,by simp[az.fG,e,aH]⟩
theorem bB.bZ(R:bB prog w h₁ W σ h)(l:(W.fG h).le σ.next W')(dK:bB prog w h₁ W' a0 h'):
 bB prog w h₁ (W.bZ W') a0 h'/\W.le σ.next (W.bZ W')/\W'.e2 a0.next (W.bZ W')/\∀a,W.role a=.U->h'.get? a=h.get? a:=by
 have key:∀a,W.role a=.U->∃o,h.get? a=some o/\W'.role a=.fix o:=λa e=>by
  obtain⟨o,aH,r⟩:=R.H7 e
  exact⟨o,aH,l.2.1 a o r⟩
 have K:=dK.sA (W':=W.bZ W') rfl λa=>by
  cases e:W.role a with
  |U=>
   obtain⟨o,_,r⟩:=key a e
   exact .inr ⟨.inr ⟨o,r⟩,.inr (.inl (by simp[az.bZ,e]))⟩
  |_=>
   cases c2:W'.role a with
   |U=>exact .inr ⟨.inl rfl,.inl (by simp[az.bZ,e,c2])⟩
   |_=>exact .inl (by simp[az.bZ,e,c2])
 refine⟨K.1,⟨⟨λa o e=>?_,λc aw=>l.1.2 c aw⟩,λa o e=>?_,λa e=>by simp[az.bZ,e]⟩,K.2,λa e=>?_⟩
 .have:=l.1.1 a o (by simp[az.fG,e])
  simp[az.bZ,e,this]
 .have:=l.2.1 a o (by simp[az.fG,e])
  simp[az.bZ,e,this]
 .obtain⟨o,aH,r⟩:=key a e
  rw[aH];exact dK.fix a o r
variable{own:Bool}{env:Env}{ns:List Str}{k:Nat}
theorem bG.next{U:Loc}(R:bG prog w h₁ own env ns W U σ h)(dK:bB prog w h₁ W' a0 h')(l:W.le σ.next W')(aW:σ.next<=a0.next)
 (e:∀a,W.role a=.U->h'.get? a=h.get? a):bG prog w h₁ own env ns W' U a0 h':=by
 have same:∀x c o,env.cells.lookup x=some c->h.get? c=some o->h'.get? c=some o:=λx c o aw aH=>by
  rcases R.cells x c aw with⟨_,r,_⟩|⟨_,cV,r⟩
  .exact(e c r).trans aH
  .have h1:=R.bI.fix c cV r
   rw[aH] at h1;cases h1
   exact dK.fix c o (l.2.1 _ _ r)
 refine⟨dK,l.2.2 _ R.l,λx c aw=>(R.cells x c aw).imp (λq=>⟨q.1,l.2.2 _ q.2.1,q.2.2⟩) λ⟨q,o,r⟩=>⟨q,o,l.2.1 _ _ r⟩,R.apart,λx c aw=>?_,?_⟩
 .obtain⟨lZ,o,aH,aB⟩:=R.nL x c aw
  exact⟨lZ,o,same x c o aw aH,aB⟩
 obtain⟨m,hm,f⟩:=R.U
 refine⟨m,hm.at' λo aH=>(e _ R.l).trans aH,λi v a3=>?_⟩
 obtain⟨x,ay,av,aI,hs⟩:=f i v a3
 exact⟨x,ay,av,aI.a5 l.1 aW,hs.imp id λ⟨q,c,aw,o,aH,aB⟩=>⟨q,c,aw,o,same x c o aw aH,aB⟩⟩
theorem bG.op{U:Loc}{eI:List Value}{v:J}{Q E:Value->Shared->Prop}
 (g':OpOk prog w h₁ k t F)(aE:eR A k)(aX:F args σ=some (v,a0))(R:bG prog w h₁ own env ns W U σ s.heap)(ha:bw prog w W σ.next args eI)
 (aQ:∀W' ay h' cP,W.le σ.next W'->σ.next<=a0.next->bG prog w h₁ own env ns W' U a0 h'->aN prog w W' a0.next v ay->Q ay {s with heap:=h',toks:=cP}):
 wpN (model prog w) A (t eI) Q E s:=by
 obtain⟨aF,jb⟩:=R.bI.fG
 refine g' A (W.fG s.heap) σ args v a0 eI s Q E aE aX aF (ha.a5 jb (bt _)) λW' ay h' cP l aW dK a3=>?_
 obtain⟨B,ba,T8,e⟩:=R.bI.bZ l dK
 exact aQ _ ay h' cP ba aW (R.next B ba aW e) (a3.a5 T8 (bt _))
noncomputable def aJ{α bW:Type}(m:Option (α×bW))(aA:α->bW->Prop):Prop:=match m with
 |some (a,b)=>aA a b
 |none=>False
theorem aJ.of{α bW:Type}{m:Option (α×bW)}{aA:α->bW->Prop}{a:α}{b:bW}(e:m=some (a,b))(h:aA a b):aJ m aA:=e▸h
theorem aJ.imp{α bW:Type}{m:Option (α×bW)}{aA Es:α->bW->Prop}(h:aJ m aA)(f:∀a b,aA a b->Es a b):aJ m Es:=by
 rcases m with _|⟨a,b⟩
 .exact h
 .exact f _ _ h
theorem aJ.bind{α bW pK pL:Type}{m:Option (α×bW)}{f:α×bW->Option (pK×pL)}{aA:pK->pL->Prop}(h:aJ (m.bind f) aA):aJ m λa b=>aJ (f (a,b)) aA:=by
 rcases m with _|⟨a,b⟩<;>exact h
theorem aJ.cC{α bW:Type}{m:Option (α×bW)}{aA:α->bW->Prop}(h:aJ m aA):∃a b,m=some (a,b)/\aA a b:=by
 rcases m with _|⟨a,b⟩
 .exact h.elim
 .exact⟨_,_,rfl,h⟩
noncomputable def gL{α:Type}(m:Option α)(aA:α->Prop):Prop:=match m with
 |some p=>aA p
 |none=>False
theorem aJ.hG{α pK pL:Type}{m:Option α}{f:α->Option (pK×pL)}{aA:pK->pL->Prop}(h:aJ (m.bind f) aA):gL m λa=>aJ (f a) aA:=by
 cases m<;>exact h
theorem aJ.map{α pK pL:Type}{m:Option α}{f:α->pK×pL}{aA:pK->pL->Prop}(h:aJ (m.map f) aA):gL m λa=>aA (f a).1 (f a).2:=by
 cases m<;>exact h
theorem gL.cC{α:Type}{m:Option α}{aA:α->Prop}(h:gL m aA):∃a,m=some a/\aA a:=by
 cases m with
 |none=>exact h.elim
 |some p=>exact⟨_,rfl,h⟩
theorem aJ.gj{cy:Decidable c}{α bW:Type}{m:Option (α×bW)}{aA:α->bW->Prop}(h:aJ (if c then m else none) aA):c/\aJ m aA:=by
 by_cases e:c
 .rw[if_pos e] at h;exact⟨e,h⟩
 .rw[if_neg e] at h;exact h.elim
variable(prog w h₁) in
noncomputable def dg(W:az)(σ:St)(s:Shared)(Q:Value->Shared->Prop)(v:J)(a0:St):Prop:=
 ∀W' ay h' cP,W.le σ.next W'->σ.next<=a0.next->bB prog w h₁ W' a0 h'->aN prog w W' a0.next v ay->Q ay {s with heap:=h',toks:=cP}
theorem dg.at(h:dg prog w h₁ W σ s Q v σ)(R:bB prog w h₁ W σ s.heap)(r:aN prog w W σ.next v ay)(cf:Nat):Q ay {s with toks:=cf}:=
 h W ay s.heap cf az.le.refl (bt _) R r
theorem OpOk.of(h:∀(A:Around) (W:az) (σ:St) args eI (s:Shared) (Q E:Value->Shared->Prop),eR A k->aJ (F args σ) (dg prog w h₁ W σ s Q)->bB prog w h₁ W σ s.heap->bw prog w W σ.next args eI->wpN (model prog w) A (t eI) Q E s):
 OpOk prog w h₁ k t F:=
 λA W σ args _ _ eI s Q E aE aX R ha aQ=>h A W σ args eI s Q E aE (.of aX aQ) R ha
noncomputable def c8(prog:Program)(w:World)(h₁:Heap)(k:Nat)(t:List Value->Sem Value)(F:b3)(W:az)(σ:St)(args:List J)(eI:List Value):Prop:=
 ∀(A:Around) (s:Shared) (Q E:Value->Shared->Prop),eR A k->aJ (F args σ) (dg prog w h₁ W σ s Q)->bB prog w h₁ W σ s.heap->wpN (model prog w) A (t eI) Q E s
section
variable{t:List Value->Sem Value}{F:b3}{W:az}{σ:St}{a:J}{br:Value}
theorem c8.cO(h:∀aA,aJ (F args σ) aA->False):c8 prog w h₁ k t F W σ args eI:=λ_ _ _ _ _ aX _=>(h _ aX).elim
theorem OpOk.fI(h:∀(W:az) (σ:St) a br r cu,aN prog w W σ.next a br->bw prog w W σ.next r cu->c8 prog w h₁ k t F W σ (a::r) (br::cu))
 (ah:autoParam (∀σ aA,aJ (F [] σ) aA->False) cX._auto_1):OpOk prog w h₁ k t F:=
 .of λA W σ _ _ s Q E aE aX R ha=>bw.casesOn (motive_2:=λas Nw _=>aJ (F as σ) _->wpN (model prog w) A (t Nw) Q E s) ha (λaX=>(ah _ _ aX).elim) (λbc bN aX=>h W σ _ _ _ _ bc bN A s Q E aE aX R) aX
theorem c8.more(c:List J->List J)(cp:List Value->List Value)(aI:bw prog w W σ.next r cu)(y:∀b bU q dx,aN prog w W σ.next b bU->bw prog w W σ.next q dx->c8 prog w h₁ k t F W σ (c (b::q)) (cp (bU::dx)))
 (ah:autoParam (∀aA,aJ (F (c []) σ) aA->False) jG._auto_1):c8 prog w h₁ k t F W σ (c r) (cp cu):=
 bw.casesOn (motive_2:=λr cu _=>c8 prog w h₁ k t F W σ (c r) (cp cu)) aI (.cO ah) (λbc bN=>y _ _ _ _ bc bN)
theorem c8.MP(c:List J->List J)(cp:List Value->List Value)(aI:bw prog w W σ.next r cu)(acw:c8 prog w h₁ k t F W σ (c []) (cp []))(y:∀b bU q dx,aN prog w W σ.next b bU->bw prog w W σ.next q dx->c8 prog w h₁ k t F W σ (c (b::q)) (cp (bU::dx))):c8 prog w h₁ k t F W σ (c r) (cp cu):=
 bw.casesOn (motive_2:=λr cu _=>c8 prog w h₁ k t F W σ (c r) (cp cu)) aI acw (λbc bN=>y _ _ _ _ bc bN)
theorem c8.end(c:List J->List J)(cp:List Value->List Value)(aI:bw prog w W σ.next r cu)(y:c8 prog w h₁ k t F W σ (c []) (cp []))
 (ah:autoParam (∀b q aA,aJ (F (c (b::q)) σ) aA->False) sT._auto_1):c8 prog w h₁ k t F W σ (c r) (cp cu):=
 bw.casesOn (motive_2:=λr cu _=>c8 prog w h₁ k t F W σ (c r) (cp cu)) aI y (λ_ _=>.cO (ah _ _))
theorem c8.none(c:J->List J)(cp:Value->List Value)(r:aN prog w W σ.next a br)(acO:c8 prog w h₁ k t F W σ (c .none) (cp .none))
 (hr:autoParam (∀x aA,aJ (F (c (.bool x)) σ) aA->False) cX._auto_1)
 (iz:autoParam (∀x aA,aJ (F (c (.int x)) σ) aA->False) cX._auto_1)
 (hx:autoParam (∀x aA,aJ (F (c (.str x)) σ) aA->False) cX._auto_1)
 (jc:autoParam (∀x aA,aJ (F (c (.bytes x)) σ) aA->False) cX._auto_1)
 (je:autoParam (∀x aA,aJ (F (c (.bo x)) σ) aA->False) cX._auto_1)
 (jd:autoParam (∀x aA,aJ (F (c (.bp x)) σ) aA->False) cX._auto_1)
 (hW:autoParam (∀x aA,aJ (F (c (.cD x)) σ) aA->False) cX._auto_1)
 (hv:autoParam (∀x y z aA,aJ (F (c (.fv x y z)) σ) aA->False) pJ._auto_1)
 (jY:autoParam (∀x aA,aJ (F (c (.ref x)) σ) aA->False) cX._auto_1)
 (hu:autoParam (∀x aA,aJ (F (c (.bY x)) σ) aA->False) cX._auto_1):c8 prog w h₁ k t F W σ (c a) (cp br):=
 aN.casesOn (motive_1:=λa br _=>c8 prog w h₁ k t F W σ (c a) (cp br)) r (acO) (λx=>.cO (hr x)) (λx _=>.cO (iz x)) (λx _=>.cO (hx x)) (λx _=>.cO (jc x)) (λ_ _=>.cO (je _)) (λ_ _ _ _=>.cO (jd _)) (λ_ _ _ _=>.cO (hW _)) (λ_=>.cO (hv _ _ _)) (λ_=>.cO (jY _)) (λx=>.cO (hu x))
theorem c8.int(c:J->List J)(cp:Value->List Value)(r:aN prog w W σ.next a br)(DD:∀i u,c8 prog w h₁ k t F W σ (c (.int i)) (cp (.int i u)))
 (hX:autoParam (∀aA,aJ (F (c .none) σ) aA->False) jG._auto_1)
 (hr:autoParam (∀x aA,aJ (F (c (.bool x)) σ) aA->False) cX._auto_1)
 (hx:autoParam (∀x aA,aJ (F (c (.str x)) σ) aA->False) cX._auto_1)
 (jc:autoParam (∀x aA,aJ (F (c (.bytes x)) σ) aA->False) cX._auto_1)
 (je:autoParam (∀x aA,aJ (F (c (.bo x)) σ) aA->False) cX._auto_1)
 (jd:autoParam (∀x aA,aJ (F (c (.bp x)) σ) aA->False) cX._auto_1)
 (hW:autoParam (∀x aA,aJ (F (c (.cD x)) σ) aA->False) cX._auto_1)
 (hv:autoParam (∀x y z aA,aJ (F (c (.fv x y z)) σ) aA->False) pJ._auto_1)
 (jY:autoParam (∀x aA,aJ (F (c (.ref x)) σ) aA->False) cX._auto_1)
 (hu:autoParam (∀x aA,aJ (F (c (.bY x)) σ) aA->False) cX._auto_1):c8 prog w h₁ k t F W σ (c a) (cp br):=
 aN.casesOn (motive_1:=λa br _=>c8 prog w h₁ k t F W σ (c a) (cp br)) r (.cO (hX)) (λx=>.cO (hr x)) (DD) (λx _=>.cO (hx x)) (λx _=>.cO (jc x)) (λ_ _=>.cO (je _)) (λ_ _ _ _=>.cO (jd _)) (λ_ _ _ _=>.cO (hW _)) (λ_=>.cO (hv _ _ _)) (λ_=>.cO (jY _)) (λx=>.cO (hu x))
theorem c8.bytes(c:J->List J)(cp:Value->List Value)(r:aN prog w W σ.next a br)(DB:∀x u,c8 prog w h₁ k t F W σ (c (.bytes x)) (cp (.bytes x.toArray u)))
 (hX:autoParam (∀aA,aJ (F (c .none) σ) aA->False) jG._auto_1)
 (hr:autoParam (∀x aA,aJ (F (c (.bool x)) σ) aA->False) cX._auto_1)
 (iz:autoParam (∀x aA,aJ (F (c (.int x)) σ) aA->False) cX._auto_1)
 (hx:autoParam (∀x aA,aJ (F (c (.str x)) σ) aA->False) cX._auto_1)
 (je:autoParam (∀x aA,aJ (F (c (.bo x)) σ) aA->False) cX._auto_1)
 (jd:autoParam (∀x aA,aJ (F (c (.bp x)) σ) aA->False) cX._auto_1)
 (hW:autoParam (∀x aA,aJ (F (c (.cD x)) σ) aA->False) cX._auto_1)
 (hv:autoParam (∀x y z aA,aJ (F (c (.fv x y z)) σ) aA->False) pJ._auto_1)
 (jY:autoParam (∀x aA,aJ (F (c (.ref x)) σ) aA->False) cX._auto_1)
 (hu:autoParam (∀x aA,aJ (F (c (.bY x)) σ) aA->False) cX._auto_1):c8 prog w h₁ k t F W σ (c a) (cp br):=
 aN.casesOn (motive_1:=λa br _=>c8 prog w h₁ k t F W σ (c a) (cp br)) r (.cO (hX)) (λx=>.cO (hr x)) (λx _=>.cO (iz x)) (λx _=>.cO (hx x)) (DB) (λ_ _=>.cO (je _)) (λ_ _ _ _=>.cO (jd _)) (λ_ _ _ _=>.cO (hW _)) (λ_=>.cO (hv _ _ _)) (λ_=>.cO (jY _)) (λx=>.cO (hu x))
theorem c8.bo(c:J->List J)(cp:Value->List Value)(r:aN prog w W σ.next a br)(vf:∀vs br,aN prog w W σ.next (.bo vs) br->c8 prog w h₁ k t F W σ (c (.bo vs)) (cp br))
 (hX:autoParam (∀aA,aJ (F (c .none) σ) aA->False) jG._auto_1)
 (hr:autoParam (∀x aA,aJ (F (c (.bool x)) σ) aA->False) cX._auto_1)
 (iz:autoParam (∀x aA,aJ (F (c (.int x)) σ) aA->False) cX._auto_1)
 (hx:autoParam (∀x aA,aJ (F (c (.str x)) σ) aA->False) cX._auto_1)
 (jc:autoParam (∀x aA,aJ (F (c (.bytes x)) σ) aA->False) cX._auto_1)
 (jd:autoParam (∀x aA,aJ (F (c (.bp x)) σ) aA->False) cX._auto_1)
 (hW:autoParam (∀x aA,aJ (F (c (.cD x)) σ) aA->False) cX._auto_1)
 (hv:autoParam (∀x y z aA,aJ (F (c (.fv x y z)) σ) aA->False) pJ._auto_1)
 (jY:autoParam (∀x aA,aJ (F (c (.ref x)) σ) aA->False) cX._auto_1)
 (hu:autoParam (∀x aA,aJ (F (c (.bY x)) σ) aA->False) cX._auto_1):c8 prog w h₁ k t F W σ (c a) (cp br):=
 aN.casesOn (motive_1:=λa br _=>c8 prog w h₁ k t F W σ (c a) (cp br)) r (.cO (hX)) (λx=>.cO (hr x)) (λx _=>.cO (iz x)) (λx _=>.cO (hx x)) (λx _=>.cO (jc x)) (λbc bN=>vf _ _ (.bo bc bN)) (λ_ _ _ _=>.cO (jd _)) (λ_ _ _ _=>.cO (hW _)) (λ_=>.cO (hv _ _ _)) (λ_=>.cO (jY _)) (λx=>.cO (hu x))
theorem c8.bp(c:J->List J)(cp:Value->List Value)(r:aN prog w W σ.next a br)(ve:∀vs br,aN prog w W σ.next (.bp vs) br->c8 prog w h₁ k t F W σ (c (.bp vs)) (cp br))
 (hX:autoParam (∀aA,aJ (F (c .none) σ) aA->False) jG._auto_1)
 (hr:autoParam (∀x aA,aJ (F (c (.bool x)) σ) aA->False) cX._auto_1)
 (iz:autoParam (∀x aA,aJ (F (c (.int x)) σ) aA->False) cX._auto_1)
 (hx:autoParam (∀x aA,aJ (F (c (.str x)) σ) aA->False) cX._auto_1)
 (jc:autoParam (∀x aA,aJ (F (c (.bytes x)) σ) aA->False) cX._auto_1)
 (je:autoParam (∀x aA,aJ (F (c (.bo x)) σ) aA->False) cX._auto_1)
 (hW:autoParam (∀x aA,aJ (F (c (.cD x)) σ) aA->False) cX._auto_1)
 (hv:autoParam (∀x y z aA,aJ (F (c (.fv x y z)) σ) aA->False) pJ._auto_1)
 (jY:autoParam (∀x aA,aJ (F (c (.ref x)) σ) aA->False) cX._auto_1)
 (hu:autoParam (∀x aA,aJ (F (c (.bY x)) σ) aA->False) cX._auto_1):c8 prog w h₁ k t F W σ (c a) (cp br):=
 aN.casesOn (motive_1:=λa br _=>c8 prog w h₁ k t F W σ (c a) (cp br)) r (.cO (hX)) (λx=>.cO (hr x)) (λx _=>.cO (iz x)) (λx _=>.cO (hx x)) (λx _=>.cO (jc x)) (λ_ _=>.cO (je _)) (λbc bN dF qY=>ve _ _ (.bp bc bN dF qY)) (λ_ _ _ _=>.cO (hW _)) (λ_=>.cO (hv _ _ _)) (λ_=>.cO (jY _)) (λx=>.cO (hu x))
theorem c8.ref(c:J->List J)(cp:Value->List Value)(r:aN prog w W σ.next a br)(q9:∀x br,aN prog w W σ.next (.ref x) br->c8 prog w h₁ k t F W σ (c (.ref x)) (cp br))
 (hX:autoParam (∀aA,aJ (F (c .none) σ) aA->False) jG._auto_1)
 (hr:autoParam (∀x aA,aJ (F (c (.bool x)) σ) aA->False) cX._auto_1)
 (iz:autoParam (∀x aA,aJ (F (c (.int x)) σ) aA->False) cX._auto_1)
 (hx:autoParam (∀x aA,aJ (F (c (.str x)) σ) aA->False) cX._auto_1)
 (jc:autoParam (∀x aA,aJ (F (c (.bytes x)) σ) aA->False) cX._auto_1)
 (je:autoParam (∀x aA,aJ (F (c (.bo x)) σ) aA->False) cX._auto_1)
 (jd:autoParam (∀x aA,aJ (F (c (.bp x)) σ) aA->False) cX._auto_1)
 (hW:autoParam (∀x aA,aJ (F (c (.cD x)) σ) aA->False) cX._auto_1)
 (hv:autoParam (∀x y z aA,aJ (F (c (.fv x y z)) σ) aA->False) pJ._auto_1)
 (hu:autoParam (∀x aA,aJ (F (c (.bY x)) σ) aA->False) cX._auto_1):c8 prog w h₁ k t F W σ (c a) (cp br):=
 aN.casesOn (motive_1:=λa br _=>c8 prog w h₁ k t F W σ (c a) (cp br)) r (.cO (hX)) (λx=>.cO (hr x)) (λx _=>.cO (iz x)) (λx _=>.cO (hx x)) (λx _=>.cO (jc x)) (λ_ _=>.cO (je _)) (λ_ _ _ _=>.cO (jd _)) (λ_ _ _ _=>.cO (hW _)) (λ_=>.cO (hv _ _ _)) (λbc=>q9 _ _ (.ref bc)) (λx=>.cO (hu x))
theorem c8.add(c:J->List J)(cp:Value->List Value)(r:aN prog w W σ.next a br)(DD:∀i u,c8 prog w h₁ k t F W σ (c (.int i)) (cp (.int i u)))(DB:∀x u,c8 prog w h₁ k t F W σ (c (.bytes x)) (cp (.bytes x.toArray u)))(vf:∀vs br,aN prog w W σ.next (.bo vs) br->c8 prog w h₁ k t F W σ (c (.bo vs)) (cp br))(ve:∀vs br,aN prog w W σ.next (.bp vs) br->c8 prog w h₁ k t F W σ (c (.bp vs)) (cp br))
 (hX:autoParam (∀aA,aJ (F (c .none) σ) aA->False) jG._auto_1)
 (hr:autoParam (∀x aA,aJ (F (c (.bool x)) σ) aA->False) cX._auto_1)
 (hx:autoParam (∀x aA,aJ (F (c (.str x)) σ) aA->False) cX._auto_1)
 (hW:autoParam (∀x aA,aJ (F (c (.cD x)) σ) aA->False) cX._auto_1)
 (hv:autoParam (∀x y z aA,aJ (F (c (.fv x y z)) σ) aA->False) pJ._auto_1)
 (jY:autoParam (∀x aA,aJ (F (c (.ref x)) σ) aA->False) cX._auto_1)
 (hu:autoParam (∀x aA,aJ (F (c (.bY x)) σ) aA->False) cX._auto_1):c8 prog w h₁ k t F W σ (c a) (cp br):=
 aN.casesOn (motive_1:=λa br _=>c8 prog w h₁ k t F W σ (c a) (cp br)) r (.cO (hX)) (λx=>.cO (hr x)) (DD) (λx _=>.cO (hx x)) (DB) (λbc bN=>vf _ _ (.bo bc bN)) (λbc bN dF qY=>ve _ _ (.bp bc bN dF qY)) (λ_ _ _ _=>.cO (hW _)) (λ_=>.cO (hv _ _ _)) (λ_=>.cO (jY _)) (λx=>.cO (hu x))
end
variable(prog w h₁) in
noncomputable def dC{α bW:Type}(iI:az->Nat->bW->α->Prop)(own:Bool)(env:Env)(ns:List Str)(W:az)(U:Loc)(σ:St)(s:Shared)(Q:α->Shared->Prop)(v:bW)(a0:St):Prop:=
 ∀W' ay h' cP,W.le σ.next W'->σ.next<=a0.next->bG prog w h₁ own env ns W' U a0 h'->iI W' a0.next v ay->Q ay {s with heap:=h',toks:=cP}
theorem TOk.of{α bW:Type}{iI:az->Nat->bW->α->Prop}{t:Sem α}{D:Loc->St->Option (bW×St)}(h:∀(A:Around) (W:az) (U:Loc) (σ:St) (s:Shared) (Q:α->Shared->Prop) (E:Value->Shared->Prop),eR A k->aJ (D U σ) (dC prog w h₁ iI own env ns W U σ s Q)->bG prog w h₁ own env ns W U σ s.heap->wpN (model prog w) A t Q E s):
 TOk prog w h₁ iI own env ns k t D:=λA W U σ _ _ s Q E aE ao R aQ=>h A W U σ s Q E aE (.of ao aQ) R
theorem TOk.go{α bW:Type}{iI:az->Nat->bW->α->Prop}{t:Sem α}{D:Loc->St->Option (bW×St)}(aF:TOk prog w h₁ iI own env ns k t D){Q:α->Shared->Prop}{aA:bW->St->Prop}(aE:eR A k)(ao:aJ (D U σ) aA)(R:bG prog w h₁ own env ns W U σ s.heap)
 (lF:∀v a0,aA v a0->dC prog w h₁ iI own env ns W U σ s Q v a0):wpN (model prog w) A t Q E s:=by
 obtain⟨v,a0,e,c⟩:=ao.cC
 exact aF A W U σ v a0 s Q E aE e R (lF v a0 c)
variable(prog w h₁) in
noncomputable def gq(env:Env)(ns:List Str)(W:az)(σ:St)(s:Shared)(Q:Flow->Shared->Prop)(f:fT)(p:Loc×St):Prop:=
 ∀W' hS h' cP,W.le σ.next W'->σ.next<=p.2.next->bG prog w h₁ true env ns W' p.1 p.2 h'->ll prog w W' p.2.next f hS->Q hS {s with heap:=h',toks:=cP}
theorem SOk.of(h:∀(A:Around) (W:az) (U:Loc) (σ:St) (s:Shared) (Q:Flow->Shared->Prop) (E:Value->Shared->Prop),eR A k->aJ (D U σ) (gq prog w h₁ env ns W σ s Q)->bG prog w h₁ true env ns W U σ s.heap->wpN (model prog w) A t Q E s):
 SOk prog w h₁ env ns k t D:=λA W U σ _ _ _ s Q E aE ao R aQ=>h A W U σ s Q E aE (.of ao aQ) R
theorem SOk.go(aF:SOk prog w h₁ env ns k t D)(aE:eR A k)(ao:aJ (D U σ) aA)(R:bG prog w h₁ true env ns W U σ s.heap)
 (lF:∀f p,aA f p->gq prog w h₁ env ns W σ s Q f p):wpN (model prog w) A t Q E s:=by
 obtain⟨f,p,e,c⟩:=ao.cC
 exact aF A W U σ f p.1 p.2 s Q E aE e R (lF f p c)
@[elab_as_elim] theorem ll.sq{P:fT->Flow->Prop}(r:ll prog w W n f hS)(next:P .next .next)(brk:P .brk .brk)(cont:P .cont .cont)(ret:∀v ay,aN prog w W n v ay->P (.ret v) (.ret ay)):P f hS:=by
  rcases f with _|_|_|v
  .rcases hS with _|_|_|ay<;>first|exact next|exact False.elim r
  .rcases hS with _|_|_|ay<;>first|exact brk|exact False.elim r
  .rcases hS with _|_|_|ay<;>first|exact cont|exact False.elim r
  .rcases hS with _|_|_|ay<;>first|exact ret _ _ r|exact False.elim r
theorem z8{α:Type}{l:List α}(h:l.drop i=[]):l[i]? =none:=by
 rw[<-Nat.add_zero i,<-List.getElem?_drop,h];rfl
theorem wz{α:Type}{l r:List α}{x:α}(h:l.drop i=x::r):l[i]? =some x/\l.drop (i+1)=r:=by
 refine⟨?_,?_⟩
 .rw[<-Nat.add_zero i,<-List.getElem?_drop,h];rfl
 .rw[<-List.tail_drop,h];rfl
theorem dC.to{α bW:Type}{iI:az->Nat->bW->α->Prop}{Q:α->Shared->Prop}{v:bW}(h:aJ (some (v,a0)) (dC prog w h₁ iI own env ns W U σ s Q)):dC prog w h₁ iI own env ns W U σ s Q v a0:=h
theorem bG.mI{U:Loc}{eI:List Value}{Q E:Value->Shared->Prop}{aA:J->St->Prop}
 (g':OpOk prog w h₁ k t F)(aE:eR A k)(aX:aJ (F args σ) aA)(R:bG prog w h₁ own env ns W U σ s.heap)(ha:bw prog w W σ.next args eI)
 (lF:∀v a0,aA v a0->dC prog w h₁ (aN prog w) own env ns W U σ s Q v a0):wpN (model prog w) A (t eI) Q E s:=by
 obtain⟨v,a0,e,c⟩:=aX.cC
 exact R.op g' aE e ha (lF v a0 c)
theorem dC.at{α bW:Type}{iI:az->Nat->bW->α->Prop}{Q:α->Shared->Prop}{v:bW}(h:aJ (some (v,σ)) (dC prog w h₁ iI own env ns W U σ s Q))(R:bG prog w h₁ own env ns W U σ s.heap){ay:α}(r:iI W σ.next v ay)(cf:Nat):Q ay {s with toks:=cf}:=
 dC.to h W ay s.heap cf az.le.refl (bt _) R r
theorem dC.then{α bW:Type}{iI:az->Nat->bW->α->Prop}{Q:α->Shared->Prop}{v:bW}(h:dC prog w h₁ iI own env ns W U σ s Q v a0)(bE:W.le σ.next bu)(ae:σ.next<=cA.next):dC prog w h₁ iI own env ns bu U cA {s with heap:=h1,toks:=cL} Q v a0:=
 λbL gY h2 tk2 ba aK cx bN=>h bL gY h2 tk2 (bE.trans ae ba) (cm ae aK) cx bN
end
section
structure bP (K:Frag) (h₁:Heap):Prop where
 X:K.In h₁
 Lj:∃kl og,h₁.Ns mainGlobals kl/\h₁.Ns builtinsNs og/\∀x:Str,x≠"__name__"->og x=bootBuiltins x
 nolimit:h₁.NoLimit
variable{prog:Program}{w:World}{h₁:Heap}{K:Frag}{own:Bool}{env:Env}{ns:List Str}{k:Nat}
noncomputable def C(i:Nat):c4:=λU σ=>match U[i]? with
 |some (some v)=>some (v,σ)
 |_=>none
noncomputable def I(v:J):c4:=λ_ σ=>some (v,σ)
theorem I5(e:C i U σ=some (v,a0)):U[i]? =some (some v)/\a0=σ:=by
 unfold C at e
 generalize U[i]? =x at e⊢
 rcases x with _|_|u
 .exact aq e
 .exact aq e
 .exact⟨by rw[Ij e],(Ik e).symm⟩
theorem au(av:ns[i]? =some x)(hk:autoParam (env.scope.kind=.function) aL._auto_1)(aB:autoParam ((x==("__debug__":Str))=false) sU._auto_1)(aW:autoParam ((x==("__classdict__":Str))=false) sU._auto_1):
 bk prog w h₁ own env ns k (eval (.Name x pos) env) (C i):=
 .of λA W U σ s Q E aE ao R=>wpN.of<|e0 λG bZ=>by
 obtain⟨u,a0,e,ao⟩:=ao.cC
 obtain⟨bM,e⟩:=I5 e
 rw[e] at ao
 obtain⟨m,hm,f⟩:=R.U
 obtain⟨y,ay,bF,aI,hs⟩:=f i _ bM
 rw[<-b9 (av.symm.trans bF)] at hs
 have q:Q ay s:=dC.at ao R aI s.toks
 refine bZ (wpAny_Name ?_ aB)
 rcases hs with⟨h1,h2⟩|⟨h1|h1,c,aw,aR⟩
 .exact wpAny_loadName_local hk h1 hm h2 q
 .exact wpAny_loadName_cell hk h1 aw aR q
 .exact wpAny_loadName_free hk h1 aw aR q aW
theorem dq(B:bP K h₁)(e:nsIn K mainGlobals x=some (some ay))(a3:∀W n,(∀a o,h₁.get? a=some o->W.role a=.imm o)->aN prog w W n v ay)(hk:autoParam (env.scope.kind=.function) aL._auto_1)(aU:autoParam (env.globals=mainGlobals) aL._auto_1)
 (av:autoParam (env.kindOf x=some .globalImplicit) aL._auto_1)(aB:autoParam ((x==("__debug__":Str))=false) sU._auto_1):
 bk prog w h₁ own env ns k (eval (.Name x pos) env) (I v):=
 .of λA W U σ s Q E aE ao R=>by
 obtain⟨kl,og,g,b,_⟩:=B.Lj
 exact wpN.of<|Name_function_global hk av (loadGlobal_global (env:=env) (by rw[aU];exact g.keeps R.bI.old) (mg_of B.X g e) (dC.at ao R (a3 _ _ R.bI.base) s.toks)) aB
theorem lA(B:bP K h₁)(e:nsIn K mainGlobals x=some none)(a3:bootBuiltins x=some ay)(aW:autoParam (x≠"__name__") sU._auto_1)(hk:autoParam (env.scope.kind=.function) aL._auto_1)(aU:autoParam (env.globals=mainGlobals) aL._auto_1)(ag:autoParam (env.builtins=builtinsNs) aL._auto_1)
 (av:autoParam (env.kindOf x=some .globalImplicit) aL._auto_1)(aB:autoParam ((x==("__debug__":Str))=false) sU._auto_1):
 bk prog w h₁ own env ns k (eval (.Name x pos) env) (I (.bY ay)):=
 .of λA W U σ s Q E aE ao R=>by
 obtain⟨kl,og,g,b,N6⟩:=B.Lj
 exact wpN.of<|Name_function_global hk av (loadGlobal_builtin (env:=env) (by rw[aU];exact g.keeps R.bI.old) (mg_none_of B.X g e) (by rw[ag];exact b.keeps R.bI.old) ((N6 x aW).trans a3) (dC.at ao R (.bY ay) s.toks)) aB
variable{prog:Program}{w:World}{h₁:Heap}{K:Frag}{own:Bool}{env:Env}{ns:List Str}{k:Nat}
theorem bind_some{α bW:Type}{x:Option α}{f:α->Option bW}{b:bW}(h:x.bind f=some b):∃a,x=some a/\f a=some b:=by
 cases x with
 |none=>cases h
 |some a=>exact⟨a,rfl,h⟩
theorem a':bk prog w h₁ own env ns k (eval (.Constant (.int i) ai pos) env) (I (.int i)):=
 .of λA W U σ s Q E aE ao R=>wpN.of<|wpAny_Constant_int (dC.at ao R (.int _ _) _)
theorem bS:bk prog w h₁ own env ns k (eval (.Constant (.str x) ai pos) env) (I (.str x)):=
 .of λA W U σ s Q E aE ao R=>wpN.of<|Calls.Constant_str (dC.at ao R (.str _ _) _)
theorem gG:bk prog w h₁ own env ns k (eval (.Constant .none ai pos) env) (I .none):=
 .of λA W U σ s Q E aE ao R=>wpN.of<|wpAny_Constant_none (dC.at ao R .none s.toks)
theorem iM:bk prog w h₁ own env ns k (eval (.Constant (.bool b) ai pos) env) (I (.bool b)):=
 .of λA W U σ s Q E aE ao R=>wpN.of<|wpAny_Constant_bool (dC.at ao R (.bool _) s.toks)
theorem rG:bk prog w h₁ own env ns k (eval (.Constant (.bytes b) ai pos) env) (I (.bytes b)):=
 .of λA W U σ s Q E aE ao R=>wpN.of<|Constant_bytes (dC.at ao R (.bytes _ _) _)
noncomputable abbrev l7:=Loc->St->Option (List J×St)
noncomputable def ar:l7:=λ_ σ=>some ([],σ)
noncomputable def aa(D:c4)(eH:l7):l7:=λU σ=>(D U σ).bind λr=>(eH U r.2).bind λq=>some (r.1::q.1,q.2)
theorem aO:l8 prog w h₁ own env ns k (spliced (backTo pos (starEach [] env))) ar:=
 .of λA W U σ s Q E aE ao R=>cz (dC.at ao R .nil s.toks)
theorem ax(h:bk prog w h₁ own env ns k (eval e env) D)(aI:l8 prog w h₁ own env ns k (spliced (backTo pos (starEach rest env))) eH)
 (hs:autoParam (starEach (e::rest) env=(false,eval e env)::starEach rest env) aL._auto_1):l8 prog w h₁ own env ns k (spliced (backTo pos (starEach (e::rest) env))) (aa D eH):=
 .of λA W U σ s Q E aE ao R=>by
 rw[hs]
 exact Dz (h.go aE ao.bind R λet cA ao bu dH h1 cL bE ae bA bc=>aI.go aE (aJ.bind ao) bA λvs bH ao bL bK h2 tk2 ba aK cx bN=>
  dC.to ao bL _ h2 tk2 (bE.trans ae ba) (cm ae aK) cx (.cons (bc.a5 ba.1 aK) bN))
noncomputable def eV(f:Value->Value->Sem Value):List Value->Sem Value
 |[a,b]=>f a b
 |_=>unsupported ""
noncomputable def oA(f:Value->Sem Value):List Value->Sem Value
 |[a]=>f a
 |_=>unsupported ""
noncomputable def af(F:b3)(eW ee:c4):c4:=λU σ=>(eW U σ).bind λr=>(ee U r.2).bind λq=>F [r.1,q.1] q.2
theorem c'(h1:bk prog w h₁ own env ns k (eval l env) eW)(h2:bk prog w h₁ own env ns k (eval r env) ee)(g':OpOk prog w h₁ k (eV (binaryOp op)) F):
 bk prog w h₁ own env ns k (eval (.BinOp l op r pos) env) (af F eW ee):=
 .of λA W U σ s Q E aE ao R=>ab9 (h1.go aE ao.bind R λet cA ao bu dH h1 cL bE ae bA bc=>h2.go aE (aJ.bind ao) bA λgY bH ao bL du h2 tk2 ba aK cx bN=>
  cx.mI (s:={s with heap:=h2,toks:=tk2}) g' aE ao (.cons (bc.a5 ba.1 aK) (.cons bN .nil)) λv a0 c=>c.then ((bE.trans ae ba)) (cm ae aK))
theorem tH(h1:bk prog w h₁ own env ns k (eval l env) eW)(h2:bk prog w h₁ own env ns k (eval r env) ee)(g':OpOk prog w h₁ k (eV (compareOp op)) F)
 (hm:autoParam (behindInMarks op r=false) ys._auto_1):
 bk prog w h₁ own env ns k (eval (.Compare l [op] [r] pos) env) (af F eW ee):=
 .of λA W U σ s Q E aE ao R=>aca (h1.go aE ao.bind R λet cA ao bu dH h1 cL bE ae bA bc=>h2.go aE (aJ.bind ao) bA λgY bH ao bL du h2 tk2 ba aK cx bN=>
  cx.mI (s:={s with heap:=h2,toks:=tk2}) g' aE ao (.cons (bc.a5 ba.1 aK) (.cons bN .nil)) λv a0 c=>c.then ((bE.trans ae ba)) (cm ae aK)) hm
noncomputable def boolOf(D:c4):hB:=λU σ=>match D U σ with
 |some (.bool b,a0)=>some (b,a0)
 |_=>none
theorem FD(h:aJ (boolOf D U σ) aA):∃b a0,D U σ=some (.bool b,a0)/\aA b a0:=by
 unfold boolOf at h
 generalize D U σ=x at h⊢
 rcases x with _|⟨_|b|_|_|_|_|_|_|_|_|_,a0⟩
 .exact h.elim
 .exact h.elim
 .exact⟨b,a0,rfl,h⟩
 .exact h.elim
 .exact h.elim
 .exact h.elim
 .exact h.elim
 .exact h.elim
 .exact h.elim
 .exact h.elim
 .exact h.elim
 .exact h.elim
theorem Oe(aF:bk prog w h₁ own env ns k e D)(aE:eR A k)(ao:aJ (boolOf D U σ) (dC prog w h₁ (λ_ _ b a=>b=a) own env ns W U σ s Q))(R:bG prog w h₁ own env ns W U σ s.heap):
 wpN (model prog w) A e (λv aY=>∃b,v=.bool b/\Q b aY) E s:=by
 obtain⟨b,a0,e,c⟩:=FD ao
 exact aF A W U σ _ a0 s _ E aE e R λW' ay h' cP l n dK r=>⟨b,r.bf,c W' b h' cP l n dK rfl⟩
theorem b6(h1:bk prog w h₁ own env ns k (eval l env) eW)(h2:bk prog w h₁ own env ns k (eval r env) ee)(g':OpOk prog w h₁ k (eV (compareOp op)) F)
 (hm:autoParam (behindInMarks op r=false) ys._auto_1):
 BOk prog w h₁ own env ns k (isTrue (.Compare l [op] [r] pos) env h5) (boolOf (af F eW ee)):=
 .of λA W U σ s Q E aE ao R=>by
 obtain⟨b,dv,e,c⟩:=FD ao
 refine acq (h1.go aE (aJ.bind (aJ.of e rfl:aJ (af F eW ee U σ) λv s=>(v,s)=(.bool b,dv))) R λet cA ao bu dH h1 cL bE ae bA bc=>h2.go aE (aJ.bind ao) bA λgY bH ao bL du h2 tk2 ba aK cx bN=>
  cx.mI (s:={s with heap:=h2,toks:=tk2}) g' aE ao (.cons (bc.a5 ba.1 aK) (.cons bN .nil)) λv a0 eq b4 ay aR cU cY bC dj dF=>?_) hm
 rw[(Prod.mk.inj eq).1] at dF
 rw[(Prod.mk.inj eq).2] at bC dj
 rw[show ay=_ from dF.bf]
 exact wpN.of<|wpAny_truthy_bool (c b4 b aR cU ((bE.trans ae ba).trans (cm ae aK) cY) (cm ae (cm aK bC)) dj rfl)
theorem nK(h:bk prog w h₁ own env ns k (eval e env) D)(hp:autoParam (isTrue e env (eval e env)=(do let v<-eval e env;standAt e.pos;holding [v] (truthy v))) aL._auto_1):
 BOk prog w h₁ own env ns k (isTrue e env (eval e env)) (boolOf D):=
 .of λA W U σ s Q E aE ao R=>acs (cF (Oe h aE ao R) (λv aY ⟨b,e,q⟩=>by rw[e];exact wpN.of (wpAny_truthy_bool q)) λ_ _ x=>x) hp
noncomputable def oi(D:hB):hB:=λU σ=>(D U σ).bind λr=>some (!r.1,r.2)
theorem zi(h:BOk prog w h₁ own env ns k (isTrue x env (eval x env)) D):BOk prog w h₁ own env ns k (isTrue (.UnaryOp .Not x pos) env h5) (oi D):=
 .of λA W U σ s Q E aE ao R=>acr (h.go aE ao.bind R λb cA ao bu bU h1 cL bE ae bA bc=>by
  rw[show b=bU from bc] at ao
  exact dC.to ao bu _ h1 cL bE ae bA rfl)
noncomputable def fC(eW ee:hB):hB:=λU σ=>(eW U σ).bind λr=>if r.1=true then ee U r.2 else some (false,r.2)
noncomputable def c3(eW ee:hB):hB:=λU σ=>(eW U σ).bind λr=>if r.1=true then some (true,r.2) else ee U r.2
noncomputable def e4:hB:=λ_ σ=>some (true,σ)
noncomputable def fN:hB:=λ_ σ=>some (false,σ)
theorem ry:BOk prog w h₁ own env ns k (allTrue .And [] env) e4:=
 .of λA W U σ s Q E aE ao R=>cz (dC.at ao R rfl s.toks)
theorem kR:BOk prog w h₁ own env ns k (allTrue .Or [] env) fN:=
 .of λA W U σ s Q E aE ao R=>cz (dC.at ao R rfl s.toks)
theorem lx(h1:BOk prog w h₁ own env ns k (isTrue x env (eval x env)) eW)(h2:BOk prog w h₁ own env ns k (allTrue .And rest env) ee):
 BOk prog w h₁ own env ns k (allTrue .And (x::rest) env) (fC eW ee):=
 .of λA W U σ s Q E aE ao R=>ack (h1.go aE ao.bind R λb cA ao bu bU h1 cL bE ae bA bc=>by
  rw[show b=bU from bc] at ao
  rcases bU with _|_
  .exact dC.to ao bu _ h1 cL bE ae bA rfl
  .exact h2.go aE ao bA λv a0 c=>c.then bE ae)
theorem f7(h1:BOk prog w h₁ own env ns k (isTrue x env (eval x env)) eW)(h2:BOk prog w h₁ own env ns k (allTrue .Or rest env) ee):
 BOk prog w h₁ own env ns k (allTrue .Or (x::rest) env) (c3 eW ee):=
 .of λA W U σ s Q E aE ao R=>acl (h1.go aE ao.bind R λb cA ao bu bU h1 cL bE ae bA bc=>by
  rw[show b=bU from bc] at ao
  rcases bU with _|_
  .exact h2.go aE ao bA λv a0 c=>c.then bE ae
  .exact dC.to ao bu _ h1 cL bE ae bA rfl)
theorem iu(h:BOk prog w h₁ own env ns k (allTrue op xs env) D):BOk prog w h₁ own env ns k (isTrue (.BoolOp op xs pos) env h5) D:=by
 intro A W U σ b a0 s Q E aE ao R aQ
 exact acp (h A W U σ b a0 s Q E aE ao R aQ)
noncomputable def eL(T:hB)(eW ee:c4):c4:=λU σ=>(T U σ).bind λr=>if r.1=true then eW U r.2 else ee U r.2
theorem iN(ht:BOk prog w h₁ own env ns k (isTrue t env (eval t env)) T)(h1:bk prog w h₁ own env ns k (eval b env) eW)(h2:bk prog w h₁ own env ns k (eval o env) ee):
 bk prog w h₁ own env ns k (eval (.IfExp t b o pos) env) (eL T eW ee):=
 .of λA W U σ s Q E aE ao R=>ace (ht.go aE ao.bind R λb cA ao bu bU o6 cL bE ae bA bc=>by
  rw[show b=bU from bc] at ao
  rcases bU with _|_
  .exact h2.go aE ao bA λv a0 c=>c.then bE ae
  .exact h1.go aE ao bA λv a0 c=>c.then bE ae)
noncomputable def bR(eH:l7):c4:=λU σ=>(eH U σ).bind λr=>if r.1.length<=1000000 then some (.bo r.1,r.2) else none
noncomputable def dE(eH:l7):c4:=λU σ=>(eH U σ).bind λr=>if r.1.length<=1000000 then some (.bp r.1,r.2) else none
noncomputable def gF(eH:l7):c4:=λU σ=>(eH U σ).bind λr=>if r.1.length<=1000000 then some (.ref r.2.next,r.2.new (.list r.1)) else none
theorem bG.ia{U:Loc}(R:bG prog w h₁ own env ns W U σ h)(o:Obj)(hf:o.isFreed=false):
 bG prog w h₁ own env ns (W.aT h.objs.size (.imm o)) U σ (h.push o)/\W.le σ.next (W.aT h.objs.size (.imm o)):=by
 have dS:=R.bI.free (bt h.objs.size)
 have l:=az.ho (n:=σ.next) (r:=.imm o) dS
 have bA:bB prog w h₁ (W.aT h.objs.size (.imm o)) σ (h.push o):=(R.bI.push o).ia dS ⟨o,gA _ hf⟩ (λcV e=>by cases e;exact gA _ hf) (λcV e=>nomatch e)
 exact⟨R.next bA l (bt _) λa ha=>get?_push_ne (R.bI.lt (bQ.ne ha)),l⟩
theorem bG.cell{U:Loc}(R:bG prog w h₁ own env ns W U σ h)(o:Obj)(x:df)(hf:o.isFreed=false)(av:CellAt prog w (W.eS σ.next h.objs.size) (σ.next+1) (h.push o) σ.next h.objs.size x):
 bG prog w h₁ own env ns (W.eS σ.next h.objs.size) U (σ.new x) (h.push o)/\W.le σ.next (W.eS σ.next h.objs.size):=by
 have dS:=R.bI.free (bt h.objs.size)
 have l:=az.pg (n:=σ.next) dS
 exact⟨R.next ((R.bI.push o).alloc dS ⟨o,gA _ hf⟩ av) l (gp _) λa ha=>get?_push_ne (R.bI.lt (bQ.ne ha)),l⟩
theorem Dc(r:bw prog w W n vs bK)(h:vs.length<=1000000):bK.toArray.size<=sizeLine:=by
 rw[List.size_toArray,r.length];exact cm h (by decide)
theorem Cs{W:az}:aN prog w (W.eS n a) (n+1) (.ref n) (.ref a):=by
 have q:aN prog w (W.eS n a) (n+1) (.ref n) (.ref ((W.eS n a).al n)):=.ref (gB _)
 rw[show(W.eS n a).al n=a from if_pos rfl] at q
 exact q
theorem cQ(h:l8 prog w h₁ own env ns k (spliced (backTo pos (starEach es env))) eH):bk prog w h₁ own env ns k (eval (.Tuple es ai pos) env) (bR eH):=
 .of λA W U σ s Q E aE ao R=>ach (h.go aE ao.bind R λvs cA ao bu bK h1 cL bE ae bA bc=>e0 λG bZ=>by
  obtain⟨aG,ao⟩:=aJ.gj ao
  obtain⟨cx,ba⟩:=bA.ia {cls:=.type "tuple",data:=.seq bK.toArray} rfl
  exact bZ<|wpN.of<|j5 (dC.to ao _ _ _ _ (bE.trans ae ba) ae cx (.bo (k:=0) az.c5 (bc.a5 ba.1 (bt _)))) (Dc bc aG))
theorem hj(h:l8 prog w h₁ own env ns k (spliced (backTo pos (starEach es env))) eH):bk prog w h₁ own env ns k (eval (.List es pos) env) (dE eH):=
 .of λA W U σ s Q E aE ao R=>LI (h.go aE ao.bind R λvs cA ao bu bK h1 cL bE ae bA bc=>e0 λG bZ=>by
  obtain⟨aG,ao⟩:=aJ.gj ao
  obtain⟨cx,ba⟩:=bA.ia {cls:=.type "list",data:=.seq bK.toArray} rfl
  exact bZ<|wpN.of<|j5 (dC.to ao _ _ _ _ (bE.trans ae ba) ae cx (.bp (az.c5) rfl rfl (bc.a5 ba.1 (bt _)))) (Dc bc aG))
theorem j'(h:l8 prog w h₁ own env ns k (spliced (backTo pos (starEach es env))) eH):bk prog w h₁ own env ns k (eval (.List es pos) env) (gF eH):=
 .of λA W U σ s Q E aE ao R=>LI (h.go aE ao.bind R λvs cA ao bu bK h1 cL bE ae bA bc=>e0 λG bZ=>by
  obtain⟨aG,ao⟩:=aJ.gj ao
  have dS:=bA.bI.free (bt h1.objs.size)
  obtain⟨cx,ba⟩:=bA.cell (listOf bK.toArray 0) (.list vs) rfl (.list (gA _ rfl) (bc.a5 (az.pg (n:=cA.next) dS).1 (gp _)))
  exact bZ<|wpN.of<|j5 (dC.to ao _ _ _ _ (bE.trans ae ba) (cm ae (gp _)) cx Cs) (Dc bc aG))
noncomputable def bb(F:b3)(eH:l7):c4:=λU σ=>(eH U σ).bind λr=>F r.1 r.2
theorem i7{id:String}(hf:bk prog w h₁ own env ns k (eval f env) (I (.bY (.builtin id))))(h:l8 prog w h₁ own env ns k (spliced (backTo pos (starEach (e::rest) env))) eH)
 (g':OpOk prog w h₁ k (λvs=>call (.builtin id) vs) F)(ah:autoParam (starEach (e::rest) env=(false,eval e env)::starEach rest env) aL._auto_1)(h2:autoParam (((backTo pos (starEach rest env)).any λx=>x.fst)=false) aL._auto_1)
 (aw:autoParam (eval (f.Call (e::rest) [] pos) env=(do let g<-eval f env;callWith pos g [] (backTo pos (starEach (e::rest) env)) (backToKw pos (keywordEach [] env)))) aL._auto_1):
 bk prog w h₁ own env ns k (eval (.Call f (e::rest) [] pos) env) (bb F eH):=
 .of λA W U σ s Q E aE ao R=>by
 rw[aw]
 refine a6 (hf A W U σ _ σ s _ E aE rfl R λiq jD eF q3 i' ab gM k7=>?_)
 rw[show jD=_ from k7.bf]
 refine sP rfl (by rw[ah];exact h2) ?_
 rw[ah] at h⊢
 exact sQ (h.go aE ao.bind gM λvs cA ao bu bK h1 cL bE ae bA bc=>bA.mI (s:={s with heap:=h1,toks:=cL}) g' aE ao bc λv a0 c=>c.then (i'.trans ab bE) (cm ab ae))
theorem hg(hf:bk prog w h₁ own env ns k (eval f env) (I (.bY (.type T))))(h:l8 prog w h₁ own env ns k (spliced (backTo pos (starEach (e::rest) env))) eH)
 (g':OpOk prog w h₁ k (λvs=>call (.type T) vs) F)(ah:autoParam (starEach (e::rest) env=(false,eval e env)::starEach rest env) aL._auto_1)(h2:autoParam (((backTo pos (starEach rest env)).any λx=>x.fst)=false) aL._auto_1)
 (aw:autoParam (eval (f.Call (e::rest) [] pos) env=(do let g<-eval f env;callWith pos g [] (backTo pos (starEach (e::rest) env)) (backToKw pos (keywordEach [] env)))) aL._auto_1):
 bk prog w h₁ own env ns k (eval (.Call f (e::rest) [] pos) env) (bb F eH):=
 .of λA W U σ s Q E aE ao R=>by
 rw[aw]
 refine a6 (hf A W U σ _ σ s _ E aE rfl R λiq jD eF q3 i' ab gM k7=>?_)
 rw[show jD=_ from k7.bf]
 refine sP rfl (by rw[ah];exact h2) ?_
 rw[ah] at h⊢
 exact sQ (h.go aE ao.bind gM λvs cA ao bu bK h1 cL bE ae bA bc=>bA.mI (s:={s with heap:=h1,toks:=cL}) g' aE ao bc λv a0 c=>c.then (i'.trans ab bE) (cm ab ae))
theorem cJ(aH:h₁.get? fa=some o)(aB:o.data=.func fd)(hf:bk prog w h₁ own env ns k (eval f env) (I (.bY (.ref fa))))(h:l8 prog w h₁ own env ns k (spliced (backTo pos (starEach (e::rest) env))) eH)
 (g':OpOk prog w h₁ k (λvs=>call (.ref fa) vs) F)(ah:autoParam (starEach (e::rest) env=(false,eval e env)::starEach rest env) aL._auto_1)(h2:autoParam (((backTo pos (starEach rest env)).any λx=>x.fst)=false) aL._auto_1)
 (aw:autoParam (eval (f.Call (e::rest) [] pos) env=(do let g<-eval f env;callWith pos g [] (backTo pos (starEach (e::rest) env)) (backToKw pos (keywordEach [] env)))) aL._auto_1):
 bk prog w h₁ own env ns k (eval (.Call f (e::rest) [] pos) env) (bb F eH):=
 .of λA W U σ s Q E aE ao R=>by
 rw[aw]
 refine a6 (hf A W U σ _ σ s _ E aE rfl R λiq jD eF q3 i' ab gM k7=>?_)
 rw[show jD=_ from k7.bf]
 refine LK (o:=o) (fd:=fd) (by rw[ah];exact h2) ?_
 rw[ah] at h⊢
 exact sQ (h.go aE ao.bind gM λvs cA ao bu bK h1 cL bE ae bA bc=>⟨⟨bA.bI.old _ _ aH,aB⟩,bA.mI (s:={s with heap:=h1,toks:=cL}) g' aE ao bc λv a0 c=>c.then (i'.trans ab bE) (cm ab ae)⟩)
end
section
variable{prog:Program}{w:World}{h₁:Heap}{K:Frag}{own:Bool}{env:Env}{ns:List Str}{k:Nat}
noncomputable def oI(own:Bool)(env:Env)(x:Str):Prop:=env.kindOf x=some .local\/(own=true/\env.kindOf x=some .cell/\(env.cells.lookup x).isSome=true)
theorem KS{U:Loc}(bM:(U.set i (some v))[ai]? =some (some u)):(ai=i/\u=v)\/(ai≠i/\U[ai]? =some (some u)):=by
 rw[List.getElem?_set] at bM
 by_cases e:i=ai
 .rw[if_pos e] at bM
  by_cases q:i<U.length
  .rw[if_pos q] at bM;exact .inl ⟨e.symm,(b9 (b9 bM)).symm⟩
  .rw[if_neg q] at bM;exact aq bM
 .rw[if_neg e] at bM;exact .inr ⟨λq=>e q.symm,bM⟩
theorem Ki{i ai:Nat}(aW:ns.Nodup)(av:ns[i]? =some x)(cK:ai≠i)(bF:ns[ai]? =some y):y≠x:=λe=>
 cK ((List.getElem?_inj (l5.mp bF).1 aW).mp (bF.trans (e▸av.symm)))
theorem bG.CL{U:Loc}(R:bG prog w h₁ own env ns W U σ h)(aw:env.cells.lookup y=some c):c≠env.locals:=by
 rcases R.cells y c aw with⟨_,_,q⟩|⟨_,o,q⟩
 .exact q
 .exactλe=>bQ.no R.l (e▸q)
theorem bG.storeName{A:Around}{U:Loc}{ay:Value}{Q:Unit->Shared->Prop}{E:Value->Shared->Prop}
 (R:bG prog w h₁ own env ns W U σ s.heap)(av:ns[i]? =some x)(aW:ns.Nodup)(a3:aN prog w W σ.next v ay)(hk:oI own env x)(hf:env.scope.kind=.function)
 (aQ:∀h' cP,bG prog w h₁ own env ns W (U.set i (some v)) σ h'->Q () {s with heap:=h',toks:=cP}):wpAny (model prog w) A (storeName env x ay) Q E s:=by
 rcases hk with aG|⟨aH,aw,hs⟩
 .obtain⟨m,hm,f⟩:=R.U
  refine wpAny_storeName_local aG hm (λh' H3 hs=>aQ h' _ ⟨R.bI.sameBut hs (.inr ⟨R.l,?_⟩),R.l,R.cells,R.apart,λy c aw=>?_,_,H3,λai u bM=>?_⟩) (by rw[hf];rfl)
  .obtain⟨o,_,_,aH,_⟩:=H3;exact⟨o,aH⟩
  .obtain⟨lZ,z⟩:=R.nL y c aw
   exact⟨lZ,z.sameBut hs (R.CL aw)⟩
  .rcases KS bM with⟨e,Ag⟩|⟨cK,bM⟩
   .rw[e,Ag];exact⟨x,ay,av,a3,.inl ⟨aG,if_pos rfl⟩⟩
   .obtain⟨y,gc,bF,aI,iR⟩:=f ai u bM
    exact⟨y,gc,bF,aI,iR.imp (λq=>⟨q.1,(if_neg (Ki aW av cK bF)).trans q.2⟩) λ⟨q,c,aw,z⟩=>⟨q,c,aw,z.sameBut hs (R.CL aw)⟩⟩
 .obtain⟨c,kc⟩:=Option.isSome_iff_exists.mp hs
  obtain⟨lZ,z⟩:=R.nL x c kc
  obtain⟨m,hm,f⟩:=R.U
  have fF:=R.CL kc
  have eo:W.role c=.U:=by
   rcases R.cells x c kc with⟨_,a,_⟩|⟨q,_⟩
   .exact a
   .rw[aH] at q;exact xR q
  refine wpAny_storeName_cell hf aw kc z λh' DH hs=>aQ h' s.toks ⟨R.bI.sameBut hs (.inr ⟨eo,DH.elim λo q=>⟨o,q.1⟩⟩),R.l,R.cells,R.apart,λy d aB=>?_,m,hm.sameBut hs (Ne.symm fF),λai u bM=>?_⟩
  .by_cases e:d=c
   .rw[e];exact⟨_,DH⟩
   .obtain⟨abY,q⟩:=R.nL y d aB
    exact⟨abY,q.sameBut hs e⟩
  .rcases KS bM with⟨e,Ag⟩|⟨cK,bM⟩
   .rw[e,Ag];exact⟨x,ay,av,a3,.inr ⟨.inl aw,c,kc,DH⟩⟩
   .obtain⟨y,gc,bF,aI,iR⟩:=f ai u bM
    exact⟨y,gc,bF,aI,iR.imp id λ⟨q,d,aB,p⟩=>⟨q,d,aB,p.sameBut hs λe=>Ki aW av cK bF (R.apart y x _ aB (e▸kc))⟩⟩
noncomputable def aD:ct:=λU σ=>some (.next,U,σ)
noncomputable def aj(D eH:ct):ct:=λU σ=>(D U σ).bind λr=>match r with
 |(.next,U,σ)=>eH U σ
 |r=>some r
theorem gq.to(h:aJ (some (f,p)) (gq prog w h₁ env ns W σ s Q)):gq prog w h₁ env ns W σ s Q f p:=h
theorem gq.here(h:gq prog w h₁ env ns W σ s Q f (U,σ))(R:bG prog w h₁ true env ns W U σ s.heap)(r:ll prog w W σ.next f hS):Q hS s:=h W hS s.heap s.toks az.le.refl (bt _) R r
theorem gq.then(h:gq prog w h₁ env ns W σ s Q f p)(bE:W.le σ.next bu)(ae:σ.next<=cA.next):gq prog w h₁ env ns bu cA {s with heap:=h1,toks:=cL} Q f p:=
 λbL f2 h2 tk2 ba aK cx bN=>h bL f2 h2 tk2 (bE.trans ae ba) (cm ae aK) cx bN
theorem bg:SOk prog w h₁ env ns k (execs [] env) aD:=
 .of λA W U σ s Q E aE ao R=>wpN.of<|wpAny_execs_nil (gq.here ao R trivial)
theorem aS{st:Stmt}(h:SOk prog w h₁ env ns k (exec st env) D)(aI:SOk prog w h₁ env ns k (execs rest env) eH):SOk prog w h₁ env ns k (execs (st::rest) env) (aj D eH):=
 .of λA W U σ s Q E aE ao R=>aco (h.go aE ao.bind R λf1 p ao bu adi h1 cL bE ae bA bc=>by
  revert ao
  refine ll.sq bc (λao=>?_) (λao=>?_) (λao=>?_) (λv ay fx ao=>?_)
  .exact aI.go aE ao bA λf2 km c=>c.then bE ae
  .exact gq.to ao bu _ h1 cL bE ae bA trivial
  .exact gq.to ao bu _ h1 cL bE ae bA trivial
  .exact gq.to ao bu _ h1 cL bE ae bA fx)
noncomputable def cc(i:Nat)(D:c4):ct:=λU σ=>(D U σ).bind λr=>some (.next,U.set i (some r.1),r.2)
theorem d3(h:bk prog w h₁ true env ns k (eval e env) D)(av:ns[i]? =some x)(aW:ns.Nodup)(hk:oI true env x)(hf:autoParam (env.scope.kind=.function) aL._auto_1)
 (hs:autoParam (swapsWith e (some (.Name x jA)) pos.line env=pure false) aL._auto_1):SOk prog w h₁ env ns k (exec (.Assign [.Name x jA] e pos) env) (cc i D):=
 .of λA W U σ s Q E aE ao R=>ab6 (h.go aE ao.bind R λet cA ao bu dH h1 cL bE ae bA bc=>
  wpN.of<|wpAny_bindName<|bA.storeName (s:={s with heap:=h1,toks:=cL}) av aW bc hk hf λh2 tk2 cx=>gq.to ao bu _ h2 tk2 bE ae cx trivial) hs
noncomputable def bD(D:c4):ct:=λU σ=>(D U σ).bind λr=>some (.ret r.1,U,r.2)
theorem cS(h:bk prog w h₁ true env ns k (eval e env) D):SOk prog w h₁ env ns k (exec (.Return (some e) pos) env) (bD D):=
 .of λA W U σ s Q E aE ao R=>acf (h.go aE ao.bind R λet cA ao bu dH h1 cL bE ae bA bc=>gq.to ao bu _ h1 cL bE ae bA bc)
noncomputable def bV(T:hB)(eW ee:ct):ct:=λU σ=>(T U σ).bind λr=>if r.1=true then eW U r.2 else ee U r.2
theorem dh(ht:BOk prog w h₁ true env ns k (isTrue t env (eval t env)) T)(h1:SOk prog w h₁ env ns k (execs b env) eW)(h2:SOk prog w h₁ env ns k (execs o env) ee):
 SOk prog w h₁ env ns k (exec (.If t b o pos) env) (bV T eW ee):=
 .of λA W U σ s Q E aE ao R=>acd (ht.go aE ao.bind R λjP cA ao bu bU o6 cL bE ae bA bc=>by
  rw[show jP=bU from bc] at ao
  rcases bU with _|_
  .exact h2.go aE ao bA λf2 km c=>c.then bE ae
  .exact h1.go aE ao bA λf2 km c=>c.then bE ae)
noncomputable def tB:ct:=λU σ=>some (.brk,U,σ)
noncomputable def tD:ct:=λU σ=>some (.cont,U,σ)
theorem ZQ:SOk prog w h₁ env ns k (exec (.Break pos) env) tB:=.of λA W U σ s Q E aE ao R=>wpN.of<|wpAny_Break (gq.here ao R trivial)
theorem ZR:SOk prog w h₁ env ns k (exec (.Continue pos) env) tD:=.of λA W U σ s Q E aE ao R=>wpN.of<|wpAny_Continue (gq.here ao R trivial)
noncomputable def dZ(D:c4):ct:=λU σ=>(D U σ).bind λr=>some (.next,U,r.2)
theorem ik(h:bk prog w h₁ true env ns k (eval e env) D)(hi:autoParam (interactive env=false) aL._auto_1)(hs:autoParam (swapsWith e none pos.line env=pure false) aL._auto_1):SOk prog w h₁ env ns k (exec (.Expr e pos) env) (dZ D):=by
 refine .of λA W U σ s Q E aE ao R=>?_
 rw[exec_Expr env e pos hi hs]
 exact a6 (ed (a6 (h.go aE ao.bind R λet cA ao bu dH h1 cL bE ae bA bc=>wpN.of<|wpAny_dropValue (gq.to ao bu _ h1 cL bE ae bA trivial))))
noncomputable def p6(i:Nat)(F:b3)(D:c4):ct:=λU σ=>(C i U σ).bind λo=>(D U o.2).bind λr=>(F [o.1,r.1] r.2).bind λq=>some (.next,U.set i (some q.1),q.2)
theorem KO(h:bk prog w h₁ true env ns k (eval e env) D)(g':OpOk prog w h₁ k (eV (inplaceOp op)) F)(av:ns[i]? =some x)(aW:ns.Nodup)(hk:env.kindOf x=some .local)(hf:autoParam (env.scope.kind=.function) aL._auto_1):
 SOk prog w h₁ env ns k (exec (.AugAssign (.Name x jA) op e pos) env) (p6 i F D):=by
 refine .of λA W U σ s Q E aE ao R=>?_
 obtain⟨jD,ac',hc,ao⟩:=ao.bind.cC
 obtain⟨bM,a7⟩:=I5 hc
 rw[a7] at ao
 obtain⟨m,hm,g⟩:=R.U
 obtain⟨y,gc,bF,aI,hs⟩:=g i _ bM
 have Sy:m x=some gc:=by
  rw[b9 (av.symm.trans bF)] at hk⊢
  rcases hs with⟨_,q⟩|⟨q|q,_⟩
  .exact q
  .exact nomatch hk.symm.trans q
  .exact nomatch hk.symm.trans q
 exact ab8 (wpN.of<|wpAny_loadName_local hf hk hm Sy<|h.go aE (aJ.bind ao) R λet cA ao bu dH h1 cL bE ae bA bc=>
  bA.mI (s:={s with heap:=h1,toks:=cL}) g' aE (aJ.bind ao) (.cons (aI.a5 bE.1 ae) (.cons bc .nil)) λgY bH ao bL du h2 tk2 ba aK cx bN=>
  wpN.of<|wpAny_bindName<|cx.storeName (s:={s with heap:=h2,toks:=tk2}) av aW bN (.inl hk) hf λaR cU dj=>gq.to ao bL _ aR cU (bE.trans ae ba) (cm ae aK) dj trivial)
variable{prog:Program}{w:World}{h₁:Heap}{K:Frag}{own:Bool}{env:Env}{ns:List Str}{k:Nat}
noncomputable def bq.v:bq->J
 |.none=>.none
 |.int i=>.int i
 |.str x=>.str x
noncomputable def ov(a b c:Int):List J:=(List.range (Builtin.Range.rangeSize a b c).toNat).map λi=>J.int (a+(i:Nat)*c)
noncomputable def d1:J->St->Option (List J)
 |.bp vs,_=>some vs
 |.bo vs,_=>some vs
 |.bytes b,_=>some (b.map λx=>.int x.toNat)
 |.fv a b c,_=>if Builtin.Range.small a b c=true then some (ov a b c) else none
 |.cD es,_=>some (es.map λe=>e.1.v)
 |.ref c,σ=>match σ.cells c with
  |some (.list vs)=>some vs
  |_=>none
 |_,_=>none
structure mS (prog:Program) (w:World) (h₁:Heap) (k:Nat) (src:J) (ay:Value) (items:List J) (aP:Addr) (N:az->Prop) (P:Nat->Obj->Prop):Prop where
 u1:∀W W' n,N W->W.e2 n W'->N W'
 cls:∀i o,P i o->∃n,o.cls=.type n/\(["enumerate","zip","dict_itemiterator","dict_reverseitemiterator","odict_iterator","itertools.zip_longest","itertools.pairwise"]:List String).contains n=false
 item:∀(A:Around) (W:az) (σ:St) i x o (s:Shared) (Q:Option Value->Shared->Prop) (E:Value->Shared->Prop),eR A k->N W->bB prog w h₁ W σ s.heap->aN prog w W σ.next src ay->d1 src σ=some items->items[i]? =some x->
  s.heap.get? aP=some o->P i o->W.role aP=.fix o->
  (∀dN h' cP cV,aN prog w W σ.next x dN->h'.get? aP=some cV->P (i+1) cV->Heap.SameBut aP s.heap h'->Q (some dN) {s with heap:=h',toks:=cP})->wpAny (model prog w) A (pyNext (.ref aP)) Q E s
 done:∀(A:Around) (W:az) (σ:St) i o (s:Shared) (Q:Option Value->Shared->Prop) (E:Value->Shared->Prop),eR A k->N W->bB prog w h₁ W σ s.heap->aN prog w W σ.next src ay->d1 src σ=some items->items[i]? =none->
  i<=items.length->s.heap.get? aP=some o->P i o->W.role aP=.fix o->
  (∀h' cP,Heap.ExtBut aP s.heap h'->Q none {s with heap:=h',toks:=cP})->wpAny (model prog w) A (pyNext (.ref aP)) Q E s
 self:∀(A:Around) i o (s:Shared) (Q:Value->Shared->Prop) (E:Value->Shared->Prop),s.heap.get? aP=some o->P i o->Q (.ref aP) s->wpAny (model prog w) A (pyIter (.ref aP)) Q E s
theorem bw.none(h:bw prog w W n vs bK){i:Nat}(e:vs[i]? =.none):bK[i]? =.none:=by
 rw[List.getElem?_eq_none_iff] at e⊢
 rw[h.length];exact e
theorem B9(R:bB prog w h₁ W σ h)(a3:aN prog w W σ.next src ay)(hs:src=.bp vs\/∃c,src=.ref c/\σ.cells c=some (.list vs)):
 ∃a items,ay=.ref a/\h.IsList a items/\bw prog w W σ.next vs items.toList/\((∃c,W.role a=.cell c)\/∃o,W.role a=.imm o):=by
 rcases hs with e|⟨c,e,aw⟩
 .rw[e] at a3
  obtain⟨a,o,i,m,bc,bN,dF,qY,gr⟩:=a3.bf
  exact⟨a,i,gr,⟨_,R.imm _ _ bc,bN,_,dF⟩,qY,.inr ⟨_,bc⟩⟩
 .rw[e] at a3
  obtain⟨_,gr⟩:=a3.bf
  obtain⟨r,q⟩:=R.cell c _ aw
  obtain⟨i,m,g,q⟩:=q.bf
  exact⟨_,i,gr,⟨_,g,rfl,_,rfl⟩,q,.inl ⟨_,r⟩⟩
theorem df.xq{x:Option df}(e:(match x with|some (.list vs)=>some vs|_=>none)=some vs):x=some (.list vs):=by
 rcases x with _|(_|_|_|_|_)
 .exact aq e
 .exact congrArg (λx=>some (df.list x)) (b9 e)
 .exact aq e
 .exact aq e
 .exact aq e
 .exact aq e
theorem Ir(hs:src=.bp items\/∃c,src=.ref c)(k0:ay=.ref a):
 mS prog w h₁ k src ay items aP (λ_=>True) λi o=>o.cls=.type "list_iterator"/\o.data=.fields #[.ref a,.int i 0]:=by
 subst k0
 have b2:∀{σ:St},d1 src σ=some items->src=.bp items\/∃c,src=.ref c/\σ.cells c=some (.list items):=by
  intro σ hi
  rcases hs with e|⟨c,e⟩
  .exact .inl e
  .rw[e] at hi;exact .inr ⟨c,e,df.xq hi⟩
 refine⟨λ_ _ _ _ _=>trivial,λ_ _ h=>⟨_,h.1,by decide⟩,?_,?_,?_⟩
 .intro A W σ i x o s Q E aE _ R a3 hi av aH cN cW aQ
  obtain⟨br,dz,e,aG,aI,_⟩:=B9 R a3 (b2 hi)
  rw[<-Value.ref.inj e] at aG
  obtain⟨dN,jW,BO⟩:=aI.get av
  refine wpAny_pyNext_list_item ⟨o,aH,cN⟩ aG (by simpa using jW) λh' hit n5=>?_
  obtain⟨cV,gs,mn⟩:=hit
  exact aQ dN h' s.toks cV BO gs mn n5
 .intro A W σ i o s Q E aE _ R a3 hi av n2 aH cN cW aQ
  obtain⟨br,dz,e,aG,aI,_⟩:=B9 R a3 (b2 hi)
  rw[<-Value.ref.inj e] at aG
  exact wpAny_pyNext_list_end aE.h ⟨o,aH,cN⟩ aG (by simpa using aI.none av) λh' ag=>aQ h' s.toks ag
 .intro A i o s Q E aH cN aQ
  exact wpAny_pyIter_listiter ⟨o,aH,cN⟩ aQ
theorem TJ(k0:ay=.ref a):mS prog w h₁ k (.bo items) ay items aP (λ_=>True) λi o=>o.cls=.type "tuple_iterator"/\o.data=.fields #[.ref a,.int i 0]:=by
 subst k0
 refine⟨λ_ _ _ _ _=>trivial,λ_ _ h=>⟨_,h.1,by decide⟩,?_,?_,?_⟩
 .intro A W σ i x o s Q E aE _ R a3 hi av aH cN cW aQ
  .obtain⟨_,dz,m,bc,aI,e⟩:=a3.bf
   rw[<-Value.ref.inj e] at bc
   obtain⟨dN,jW,BO⟩:=aI.get av
   refine wpAny_pyNext_tuple_item ⟨o,aH,cN⟩ ⟨_,R.imm _ _ bc,rfl,_,rfl⟩ (by simpa using jW) λh' hit n5=>?_
   obtain⟨cV,gs,mn⟩:=hit
   exact aQ dN h' s.toks cV BO gs mn n5
 .intro A W σ i o s Q E aE _ R a3 hi av n2 aH cN cW aQ
  .obtain⟨_,dz,m,bc,aI,e⟩:=a3.bf
   rw[<-Value.ref.inj e] at bc
   exact wpAny_pyNext_tuple_end aE.h ⟨o,aH,cN⟩ ⟨_,R.imm _ _ bc,rfl,_,rfl⟩ (by simpa using aI.none av) λh' ag=>aQ h' s.toks ag
 .intro A i o s Q E aH cN aQ
  exact wpAny_pyIter_tupleiter ⟨o,aH,cN⟩ aQ
theorem TF(k0:ay=.bytes b.toArray t):mS prog w h₁ k (.bytes b) ay (b.map λx=>J.int x.toNat) aP (λ_=>True) λi o=>o.cls=.type "bytes_iterator"/\o.data=.fields #[.bytes b.toArray t,.int i 0]:=by
 subst k0
 refine⟨λ_ _ _ _ _=>trivial,λ_ _ h=>⟨_,h.1,by decide⟩,?_,?_,?_⟩
 .intro A W σ i x o s Q E aE _ R a3 hi av aH cN cW aQ
  rw[List.getElem?_map] at av
  obtain⟨y,bF,rfl⟩:=fS.mp av
  refine KBw.next_item (b:=b.toArray) ⟨o,aH,cN⟩ (by simpa using bF) λh' hit n5=>?_
  obtain⟨cV,gs,mn⟩:=hit
  exact aQ _ h' _ cV (.int _ _) gs mn n5
 .intro A W σ i o s Q E aE _ R a3 hi av n2 aH cN cW aQ
  rw[List.getElem?_map,Option.map_eq_none_iff] at av
  exact KBw.next_end (b:=b.toArray) aE.h ⟨o,aH,cN⟩ (by simpa using av) λh' ag=>aQ h' s.toks ag
 .intro A i o s Q E aH cN aQ
  exact KBw.pyIter_self (b:=b.toArray) (i:=i) ⟨o,aH,cN⟩ aQ
theorem ZK{x:J}(h:(ov a b c)[i]? =some x):x=.int (a+(i:Nat)*c)/\(i:Int)<Builtin.Range.rangeSize a b c:=by
 unfold ov at h
 rw[List.getElem?_map] at h
 obtain⟨ai,cK,rfl⟩:=fS.mp h
 obtain⟨h1,h2⟩:=l5.mp cK
 rw[List.getElem_range] at h2
 subst h2
 rw[List.length_range] at h1
 exact⟨rfl,by exact aC.X5 h1⟩
theorem ZL(h:(ov a b c)[i]? =none)(hi:i<=(ov a b c).length):Builtin.Range.rangeSize a b c-(i:Int)<=0:=by
 rw[List.getElem?_eq_none_iff] at h
 unfold ov at h
 rw[dW,List.length_range] at h
 exact aC.X6 h
theorem TH{aP:Addr}:mS prog w h₁ k (.fv a b c) ay (ov a b c) aP (λ_=>True) λi o=>o={cls:=.type "range_iterator",dict:=none,data:=.fields #[rawInt (a+(i:Nat)*c),rawInt (Builtin.Range.rangeSize a b c-(i:Nat)),rawInt c],slots:= #[]}:=by
 refine⟨λ_ _ _ _ _=>trivial,λ_ _ h=>by subst h;exact⟨_,rfl,by decide⟩,?_,?_,?_⟩
 .intro A W σ i x o s Q E aE _ R a3 hi av aH cN cW aQ
  subst cN
  obtain⟨rfl,dp⟩:=ZK av
  refine wpAny_pyNext_range_item aH (by exact aC.X7 dp) λh' hit n5=>?_
  refine aQ _ h' _ _ (.int _ _) hit ?_ n5
  have a9:a+(i:Nat)*c+c=a+((i+1:Nat):Int)*c:=by rw[Int.natCast_add,Int.add_mul];simp[Int.add_assoc]
  have a7:Builtin.Range.rangeSize a b c-(i:Nat)-1=Builtin.Range.rangeSize a b c-((i+1:Nat):Int):=by exact aC.X8
  rw[a9,a7]
 .intro A W σ i o s Q E aE _ R a3 hi av n2 aH cN cW aQ
  subst cN
  exact wpAny_pyNext_range_end aE.h aH (ZL av n2) λh' ag=>aQ h' s.toks ag
 .intro A i o s Q E aH cN aQ
  subst cN
  exact wpAny_pyIter_rangeiter aH aQ
theorem ei.length(r:ei prog w W n es kvs):kvs.length=es.length:=r.ind (P:=λes kvs=>kvs.length=es.length) rfl λ_ _ aZ=>congrArg Nat.succ aZ
theorem NA{k:bq}(h:j9 k ay=true):aN prog w W n k.v ay:=by
 rcases Fg h with⟨rfl,rfl⟩|⟨i,t,rfl,rfl⟩|⟨x,t,rfl,rfl⟩
 .exact .none
 .exact .int _ _
 .exact .str _ _
theorem TG{ep:Nat}(k0:ay=.ref d)(Ia:x3.ExactDict)(aB:x3.data=.dict eZ ep)(hk:KeysOf (hF prog w) eZ)(hp:Pairs (hF prog w) eZ.toList kvs)(aW:(kvs.map (·.1)).Nodup)
 (aG:kvs.map (·.1)=es.map (·.1)):
 mS prog w h₁ k (.cD es) ay (es.map λe=>e.1.v) aP (λW=>W.role d=.imm x3) λi o=>o.cls=.type "dict_keyiterator"/\o.data=.fields #[.ref d,.int i 0,.int kvs.length 0,.int ep 0]:=by
 subst k0
 have len:kvs.length=es.length:=by simpa using congrArg List.length aG
 refine⟨λ_ _ _ h l=>l.1 _ _ h,λ_ _ h=>⟨_,h.1,by decide⟩,?_,?_,?_⟩
 .intro A W σ i x o s Q E aE iQ R a3 hi av aH cN cW aQ
  have at':s.heap.DictAt (hF prog w) d kvs ep:=⟨x3,eZ,R.imm _ _ iQ,Ia,aB,hk,hp,aW⟩
  rw[List.getElem?_map] at av
  obtain⟨⟨a,u⟩,bF,rfl⟩:=fS.mp av
  have rO:(kvs.map (·.1))[i]? =some a:=by rw[aG,List.getElem?_map,bF];rfl
  rw[List.getElem?_map] at rO
  obtain⟨⟨br,gc⟩,hz,e⟩:=fS.mp rO
  cases e
  refine wpAny_pyNext_dict_item (it:=aP) (i:=i) ⟨o,aH,cN⟩ at' hz λkey h' Sk hit n5=>?_
  obtain⟨cV,gs,mn⟩:=hit
  exact aQ _ h' s.toks cV (NA Sk) gs mn n5
 .intro A W σ i o s Q E aE iQ R a3 hi av n2 aH cN cW aQ
  have at':s.heap.DictAt (hF prog w) d kvs ep:=⟨x3,eZ,R.imm _ _ iQ,Ia,aB,hk,hp,aW⟩
  refine wpAny_pyNext_dict_end (it:=aP) (i:=i) aE.h ⟨o,aH,cN⟩ at' ?_ λh' ag=>aQ h' s.toks ag
  rw[List.getElem?_eq_none_iff] at av⊢
  rw[dW] at av;exact aC.X9 len av
 .intro A i o s Q E aH cN aQ
  exact wpAny_pyIter_keyiter (i:=i) ⟨o,aH,cN⟩ aQ
theorem ei.iU(r:ei prog w W n es kvs):kvs.map (·.1)=es.map (·.1):=r.ind (P:=λes kvs=>kvs.map (·.1)=es.map (·.1)) rfl λ_ _ aZ=>congrArg (List.cons _) aZ
noncomputable def Mk(prog:Program)(w:World)(h₁:Heap)(k:Nat)(W:az)(s:Shared)(Q:Value->Shared->Prop)(items:List J)(src:J)(ay:Value):Prop:=
 ∀o N P,o.isFreed=false->N W->P 0 o->mS prog w h₁ k src ay items s.heap.objs.size N P->Q (.ref s.heap.objs.size) {s with heap:=s.heap.push o}
theorem C0(R:bB prog w h₁ W σ s.heap)(a3:aN prog w W σ.next src ay)(hi:d1 src σ=some items)
 (aQ:∀o N P,o.isFreed=false->N W->P 0 o->mS prog w h₁ k src ay items s.heap.objs.size N P->Q (.ref s.heap.objs.size) {s with heap:=s.heap.push o}):wpAny (model prog w) A (pyIter ay) Q E s:=
 aN.casesOn (motive_1:=λsrc ay _=>d1 src σ=some items->Mk prog w h₁ k W s Q items src ay->wpAny (model prog w) A (pyIter ay) Q E s) a3 (λhi _=>aq hi) (λ_ hi _=>aq hi) (λ_ _ hi _=>aq hi) (λ_ _ hi _=>aq hi)
  (λb t hi aQ=>by
    rw[<-b9 hi] at aQ
    exact KBw.pyIter_bytes (aQ _ _ _ rfl trivial ⟨rfl,rfl⟩ (TF rfl)))
  (λbc _ hi aQ=>by
    rw[<-b9 hi] at aQ
    exact wpAny_pyIter_tuple ⟨_,R.imm _ _ bc,rfl,_,rfl⟩ (aQ _ _ _ rfl trivial ⟨rfl,rfl⟩ (TJ rfl)))
  (λbc bN dF _ hi aQ=>wpAny_pyIter_list ⟨_,R.imm _ _ bc,bN,_,dF⟩ (aQ _ _ _ rfl trivial ⟨rfl,rfl⟩ (Ir (.inl (congrArg J.bp (b9 hi))) rfl)))
  (λr z c q hi aQ=>by
    obtain⟨mX,eZ,ep,aB,hk,hp,aW⟩:=c
    rw[<-b9 hi] at aQ
    exact wpAny_pyIter_dict z ⟨_,_,R.imm _ _ r,mX,aB,hk,hp,aW⟩ (aQ {cls:=.type "dict_keyiterator",data:=.fields #[.ref _,.int 0 0,.int _ 0,.int ep 0]} _ _ rfl r ⟨rfl,rfl⟩ (TG rfl mX aB hk hp aW q.iU)))
  (λ{_ a b c _ _ _} r hi aQ=>by
    have hi:(if Builtin.Range.small a b c=true then some (ov a b c) else none)=some items:=hi
    by_cases BJ:Builtin.Range.small a b c=true
    .rw[if_pos BJ] at hi
     rw[<-b9 hi] at aQ
     exact wpAny_pyIter_range (R.imm _ _ r) BJ (aQ _ _ _ rfl trivial (by simp) TH)
    .rw[if_neg BJ] at hi;exact aq hi)
  (λ{c} _ hi aQ=>by
    obtain⟨i,m,g,q⟩:=(R.cell c _ (df.xq hi)).2.bf
    exact wpAny_pyIter_list ⟨_,g,rfl,_,rfl⟩ (aQ _ _ _ rfl trivial ⟨rfl,rfl⟩ (Ir (.inr ⟨c,rfl⟩) rfl)))
  (λ_ hi _=>aq hi) hi aQ
end
section
variable{prog:Program}{w:World}{h₁:Heap}{K:Frag}{own:Bool}{env:Env}{ns:List Str}{k:Nat}
variable(prog w h₁ own env ns k) in
noncomputable def lq(t:Expr)(bind:J->Loc->Option Loc):Prop:=
 ∀(A:Around) (W:az) (U lP:Loc) (σ:St) v ay (s:Shared) (Q:Unit->Shared->Prop) (E:Value->Shared->Prop),eR A k->bind v U=some lP->bG prog w h₁ own env ns W U σ s.heap->aN prog w W σ.next v ay->
  (∀h' cP,bG prog w h₁ own env ns W lP σ h'->Q () {s with heap:=h',toks:=cP})->wpAny (model prog w) A (assign t env ay) Q E s
noncomputable def c9(i:Nat):J->Loc->Option Loc:=λv U=>some (U.set i (some v))
theorem gb(av:ns[i]? =some x)(aW:ns.Nodup)(hk:oI own env x)(hf:autoParam (env.scope.kind=.function) aL._auto_1):lq prog w h₁ own env ns k (.Name x p) (c9 i):=by
 intro A W U lP σ v ay s Q E aE ag R a3 aQ
 cases ag
 exact wpAny_assign_Name (R.storeName av aW a3 hk hf aQ)
noncomputable def hY:List Nat->List J->Loc->Loc
 |i::is,v::vs,U=>hY is vs (U.set i (some v))
 |_,_,U=>U
noncomputable def dX(is:List Nat):J->Loc->Option Loc:=λv U=>match v with
 |.bo vs=>if vs.length=is.length then some (hY is vs U) else none
 |_=>none
variable(own env ns) in
inductive p2:List Expr->List Nat->Prop
 |nil:p2 [] []
 |cons {x:Str} {p:Pos} {i:Nat} {es:List Expr} {is:List Nat}:ns[i]? =some x->oI own env x->p2 es is->p2 (.Name x p::es) (i::is)
theorem p2.Gl(h:p2 own env ns es is):(assignEach es env).length=is.length/\(assignEach es env).findIdx? (λx=>x.1)=none:=by
 induction h with
 |nil=>exact⟨rfl,rfl⟩
 |@cons x p i es is _ _ _ aZ=>
  have e:assignEach (.Name x p::es) env=(false,assign (.Name x p) env)::assignEach es env:=rfl
  rw[e]
  refine⟨by rw[fJ,fJ,aZ.1],?_⟩
  rw[List.findIdx?_cons,aZ.2];rfl
theorem aa1(aW:ns.Nodup)(hf:env.scope.kind=.function)(h:p2 own env ns es is):
 ∀{vs:List J} {bK:List Value} {U:Loc} {s:Shared} {Q:Unit->Shared->Prop},vs.length=is.length->bw prog w W σ.next vs bK->bG prog w h₁ own env ns W U σ s.heap->
  (∀h' cP,bG prog w h₁ own env ns W (hY is vs U) σ h'->Q () {s with heap:=h',toks:=cP})->
  wpAny (model prog w) A (assignInOrder ((assignEach es env).map (·.2)) bK) Q E s:=by
 induction h with
 |nil=>
  intro vs bK U s Q aG a3 R aQ
  induction vs with
  |nil=>cases a3;exact wpAny_assignInOrder_none (aQ s.heap s.toks R)
  |cons _ _=>cases aG
 |@cons x p i es is av hk _ aZ=>
  intro vs bK U s Q aG a3 R aQ
  cases a3 with
  |nil=>cases aG
  |cons a b=>
   have e:assignEach (.Name x p::es) env=(false,assign (.Name x p) env)::assignEach es env:=rfl
   rw[e]
   refine wpAny_assignInOrder_more (wpAny_assign_Name (R.storeName av aW a hk hf λh1 cL bA=>?_))
   exact aZ (s:={s with heap:=h1,toks:=cL}) (by simpa using aG) b bA aQ
theorem bG.kV{U:Loc}(R:bG prog w h₁ own env ns W U σ h)(e:∀b o,h.get? b=some o->h'.get? b=some o):bG prog w h₁ own env ns W U σ h':=
 R.next (R.bI.kV e) az.le.refl (bt _) λa ha=>by
  obtain⟨o,aH⟩:=R.bI.live a (bQ.ne ha)
  rw[aH,e a o aH]
theorem Fy(h:dX is v U=some lP):∃vs,v=.bo vs/\vs.length=is.length/\lP=hY is vs U:=
 J.casesOn (motive_1:=λv=>dX is v U=some lP->∃vs,v=.bo vs/\vs.length=is.length/\lP=hY is vs U) v (λh=>aq h) (λ_ h=>aq h) (λ_ h=>aq h) (λ_ h=>aq h) (λ_ h=>aq h) (λvs h=>by
  have h:(if vs.length=is.length then some (hY is vs U) else none)=some lP:=h
  by_cases e:vs.length=is.length
  .rw[if_pos e] at h;exact⟨vs,rfl,e,(b9 h).symm⟩
  .rw[if_neg e] at h;exact aq h) (λ_ h=>aq h) (λ_ h=>aq h) (λ_ _ _ h=>aq h) (λ_ h=>aq h) (λ_ h=>aq h) h
theorem i0(h:p2 own env ns es is)(aW:ns.Nodup)(hf:autoParam (env.scope.kind=.function) aL._auto_1):lq prog w h₁ own env ns k (.Tuple es ai p) (dX is):=by
 intro A W U lP σ v ay s Q E aE ag R a3 aQ
 obtain⟨vs,gr,aG,eY⟩:=Fy ag
 rw[gr] at a3
 rw[eY] at aQ
 obtain⟨a,items,m,bc,aI,e⟩:=a3.bf
 rw[e]
 refine wpAny_assign_Tuple aE.h ⟨_,R.bI.imm _ _ bc,rfl,_,rfl⟩ ?_ h.Gl.2 λh' ag=>?_
 .rw[h.Gl.1,<-aG,<-aI.length,e6]
 .exact aa1 (s:={s with heap:=h'}) aW hf h aG aI (R.kV λb o e=>ag b o (d9 (Heap.lt_size e)) e) aQ
noncomputable def fR(bind:J->Loc->Option Loc)(D:c4):ct:=λU σ=>(D U σ).bind λr=>(bind r.1 U).bind λl=>some (.next,l,r.2)
theorem k'{bind:J->Loc->Option Loc}(h:bk prog w h₁ true env ns k (eval e env) D)(ht:lq prog w h₁ true env ns k t bind)(adr:autoParam (starEach [t] env=[(false,eval t env)]) aL._auto_1)
 (ha:autoParam ((assignEach [t] env).map (·.2)=[assign t env]) aL._auto_1)(hs:autoParam (swapsWithSole [t] e pos.line env=pure false) aL._auto_1)(hw:autoParam (swappedStores [t] e env=pure none) aL._auto_1):SOk prog w h₁ env ns k (exec (.Assign [t] e pos) env) (fR bind D):=by
 refine .of λA W U σ s Q E aE ao R=>ab7 (h.go aE ao.bind R λet cA ao bu dH h1 cL bE ae bA bc=>?_) hs hw
 obtain⟨ba,a7,ao⟩:=(aJ.hG ao).cC
 rw[ha]
 show wpN _ _ (assign t env dH) _ _ _
 exact wpN.of<|ht A bu U _ cA et dH _ _ E aE a7 bA bc λh2 tk2 cx=>gq.to ao bu _ h2 tk2 bE ae cx trivial
theorem bw.reverse(r:bw prog w W n vs bK):bw prog w W n vs.reverse bK.reverse:=
 r.ind (P:=λvs bK=>bw prog w W n vs.reverse bK.reverse) .nil λa _ aZ=>by rw[List.reverse_cons,List.reverse_cons];exact aZ.append (.sr a)
theorem len_ind{α bW:Type}{P:List α->List bW->Prop}(n:P [] [])(c:∀a as b bh,as.length=bh.length->P as bh->P (a::as) (b::bh))(as:List α):∀bh:List bW,as.length=bh.length->P as bh:=by
 induction as with
 |nil=>
  intro bh h
  rcases bh with _|⟨b,bh⟩
  .exact n
  .exact(Nat.succ_ne_zero _ h.symm).elim
 |cons a as aZ=>
  intro bh h
  rcases bh with _|⟨b,bh⟩
  .exact(Nat.succ_ne_zero _ h).elim
  .exact c a as b bh (Nat.succ.inj h) (aZ bh (Nat.succ.inj h))
theorem aav(is:List Nat)(vs:List J)(aG:vs.length=is.length):∀U:Loc,i∉is->(hY is vs U).set i (some v)=hY is vs (U.set i (some v)):=
 len_ind (P:=λvs is=>∀U:Loc,i∉is->(hY is vs U).set i (some v)=hY is vs (U.set i (some v))) (λ_ _=>rfl) (λu vs ai is _ aZ U H5=>by
  have e:=aZ (U.set ai (some u)) λq=>H5 (.tail _ q)
  exact e.trans (congrArg (hY is vs) (List.set_comm _ _ λq:ai=i=>H5 (by rw[q];exact .head _)))) vs is aG
theorem aax(is:List Nat)(vs:List J)(aG:vs.length=is.length):∀U:Loc,hY (is++[i]) (vs++[v]) U=(hY is vs U).set i (some v):=
 len_ind (P:=λvs is=>∀U:Loc,hY (is++[i]) (vs++[v]) U=(hY is vs U).set i (some v)) (λ_=>rfl) (λu _ ai _ _ aZ U=>aZ (U.set ai (some u))) vs is aG
theorem aaw(aG:vs.length=is.length):∀U:Loc,is.Nodup->hY is.reverse vs.reverse U=hY is vs U:=
 len_ind (P:=λvs is=>∀U:Loc,is.Nodup->hY is.reverse vs.reverse U=hY is vs U) (λ_ _=>rfl) (λu vs ai is aG aZ U aB=>by
  have h:=jj.mp aB
  rw[List.reverse_cons,List.reverse_cons,aax _ _ (by rw[List.length_reverse,List.length_reverse];exact aG),aZ _ h.2,aav _ _ aG _ h.1]
  rfl) vs is aG
theorem aa2(aW:ns.Nodup)(hf:env.scope.kind=.function)(a3:bw prog w W σ.next vs bK):∀(xs:List Str) (is:List Nat) (U:Loc) (s:Shared),
 xs.map some=is.map (λi=>ns[i]?)->(∀x∈xs,oI own env x)->vs.length=is.length->bG prog w h₁ own env ns W U σ s.heap->
  (∀h' cP,bG prog w h₁ own env ns W (hY is vs U) σ h'->Q () {s with heap:=h',toks:=cP})->
  wpAny (model prog w) A (assignInOrder (xs.map λn=>bindName env n) bK) Q E s:=
 a3.ind (P:=λvs bK=>∀(xs:List Str) (is:List Nat) (U:Loc) (s:Shared),xs.map some=is.map (λi=>ns[i]?)->(∀x∈xs,oI own env x)->vs.length=is.length->bG prog w h₁ own env ns W U σ s.heap->
  (∀h' cP,bG prog w h₁ own env ns W (hY is vs U) σ h'->Q () {s with heap:=h',toks:=cP})->wpAny (model prog w) A (assignInOrder (xs.map λn=>bindName env n) bK) Q E s) (λxs is U s av _ aG R aQ=>by
  rcases is with _|⟨i,is⟩
  .rcases xs with _|⟨x,xs⟩
   .exact wpAny_assignInOrder_none (aQ s.heap s.toks R)
   .exact(List.cons_ne_nil _ _ av).elim
  .exact(Nat.succ_ne_zero _ aG.symm).elim) λa _ aZ xs is U s av hk aG R aQ=>by
  rcases is with _|⟨i,is⟩
  .exact(Nat.succ_ne_zero _ aG).elim
  .rcases xs with _|⟨x,xs⟩
   .exact(List.cons_ne_nil _ _ av.symm).elim
   .obtain⟨h1,h2⟩:=List.cons.inj av
    refine wpAny_assignInOrder_more (wpAny_bindName (R.storeName h1.symm aW a (hk x (.head _)) hf λh1 cL bA=>?_))
    exact aZ xs is _ {s with heap:=h1,toks:=cL} h2 (λy bF=>hk y (.tail _ bF)) (Nat.succ.inj aG) bA aQ
theorem aN.abM(r:aN prog w W n (.bo vs) ay)(R:bB prog w h₁ W σ h):∃a items,ay=.ref a/\h.IsTuple a items/\bw prog w W n vs items.toList:=by
 obtain⟨_,_,_,bc,aI,e⟩:=r.bf
 exact⟨_,_,e,⟨_,R.imm _ _ bc,rfl,_,rfl⟩,aI⟩
theorem k9(h:bk prog w h₁ true env ns k (eval e env) D)(av:xs.map some=is.map λi=>ns[i]?)(hk:∀x∈xs,oI true env x)(aW:ns.Nodup)(aB:is.Nodup)
 (hf:autoParam (env.scope.kind=.function) aL._auto_1)(hs:autoParam (swapsWithSole [.Tuple es ai p] e pos.line env=pure false) aL._auto_1)(hw:autoParam (swappedStores [.Tuple es ai p] e env=pure (some xs)) aL._auto_1):
 SOk prog w h₁ env ns k (exec (.Assign [.Tuple es ai p] e pos) env) (fR (dX is) D):=by
 refine .of λA W U σ s Q E aE ao R=>?_
 show wpN _ _ (do standAt pos;if<-swapsWithSole [.Tuple es ai p] e pos.line env then(do evalThenUse e env λv=>assignAll v ((assignEach [.Tuple es ai p] env).map (·.2));(pure Flow.next:Sem Flow)) else(do let v<-eval e env;assignStores env v (<-swappedStores [.Tuple es ai p] e env) ((assignEach [.Tuple es ai p] env).map (·.2)))) _ _ _
 rw[hs]
 refine a6 (ed (a6 (cz (k2 fY (a6 (h.go aE ao.bind R λet cA ao bu dH h1 cL bE ae bA bc=>wpN.of<|aM (fZ hw ?_)))))))
 show wpAny _ _ (do rule "assign.swapped-stores";let items<-unpackItems dH xs.length none;assignInOrder (xs.reverse.map λn=>bindName env n) items.reverse;(pure Flow.next:Sem Flow)) _ _ _
 refine e0 λG bZ=>?_
 obtain⟨ba,a7,ao⟩:=(aJ.hG ao).cC
 obtain⟨vs,gr,aG,eY⟩:=Fy a7
 rw[show et=_ from gr] at bc
 rw[eY] at ao
 obtain⟨a,items,e,ht,aI⟩:=bc.abM bA.bI
 have Tc:xs.length=is.length:=by rw[<-dW (as:=xs) some,av,dW]
 have Si:items.size=vs.length:=by rw[<-e6];exact aI.length
 refine bZ ?_
 rw[e,show xs.length=items.size from Tc.trans (aG.symm.trans Si.symm)]
 refine aM (wpAny_rule (aM (wpAny_unpackItems_tuple aE.h ht λh2 ag=>aM ?_)))
 have cx:bG prog w h₁ true env ns bu U cA h2:=bA.kV λb o e=>ag b o (d9 (Heap.lt_size e)) e
 refine aa2 aW hf aI.reverse xs.reverse is.reverse U {s with heap:=h2,toks:=cL} (by rw[List.map_reverse,av,List.map_reverse]) (λx av=>hk x (List.mem_reverse.mp av)) (by rw[List.length_reverse,List.length_reverse];exact aG) cx λh' cP dK=>?_
 rw[aaw aG _ aB] at dK
 exact bx (gq.to ao bu _ h' cP bE ae dK trivial)
end
section
variable{prog:Program}{w:World}{h₁:Heap}{K:Frag}{own:Bool}{env:Env}{ns:List Str}{k:Nat}
open Classical in
noncomputable def oe(src:J)(items:List J)(bind:J->Loc->Option Loc)(body:ct):List J->ct
 |[],U,σ=>if d1 src σ=some items then some (.next,U,σ) else none
 |x::rest,U,σ=>if d1 src σ=some items then(bind x U).bind λCi=>(body Ci σ).bind λr=>match r with
   |(.next,l,s)=>oe src items bind body rest l s
   |(.cont,l,s)=>oe src items bind body rest l s
   |(.brk,l,s)=>some (.next,l,s)
   |(.ret v,l,s)=>some (.ret v,l,s)
  else none
noncomputable def fE(D:c4)(bind:J->Loc->Option Loc)(body:ct):ct:=λU σ=>(D U σ).bind λr=>(d1 r.1 r.2).bind λitems=>oe r.1 items bind body items U r.2
theorem bG.Js{U:Loc}(R:bG prog w h₁ true env ns W U σ h)(dK:bB prog w h₁ W' a0 h')(l:W.e2 σ.next W')(qK:∀a,W.role a=.U->W'.role a=.U)(aW:σ.next<=a0.next)
 (e:∀a,W.role a=.U->h'.get? a=h.get? a):bG prog w h₁ true env ns W' U a0 h':=by
 have eo:∀x c,env.cells.lookup x=some c->W.role c=.U/\c≠env.locals:=λx c aw=>by
  rcases R.cells x c aw with⟨_,a,b⟩|⟨q,_⟩
  .exact⟨a,b⟩
  .cases q
 refine⟨dK,qK _ R.l,λx c aw=>.inl ⟨rfl,qK _ (eo x c aw).1,(eo x c aw).2⟩,R.apart,λx c aw=>?_,?_⟩
 .obtain⟨lZ,o,aH,aB⟩:=R.nL x c aw
  exact⟨lZ,o,(e c (eo x c aw).1).trans aH,aB⟩
 obtain⟨m,hm,f⟩:=R.U
 refine⟨m,hm.at' λo aH=>(e _ R.l).trans aH,λi v a3=>?_⟩
 obtain⟨x,ay,av,aI,hs⟩:=f i v a3
 exact⟨x,ay,av,aI.a5 l aW,hs.imp id λ⟨q,c,aw,o,aH,aB⟩=>⟨q,c,aw,o,(e c (eo x c aw).1).trans aH,aB⟩⟩
theorem az.n9{W W':az}(l:W.le n W')(h:W.role a=.free):W.le n (W'.aT a r):=by
 refine⟨⟨λb o e=>?_,l.1.2⟩,λb o e=>?_,λb e=>?_⟩<;>
 .rw[az.ck]
  .first|exact l.1.1 b o e|exact l.2.1 b o e|exact l.2.2 b e
  .rintro rfl;exact bQ.no h e
theorem II(aH:s.heap.get? aP=some o)(aw:o.cls=.type n)
 (aW:(["enumerate","zip","dict_itemiterator","dict_reverseitemiterator","odict_iterator","itertools.zip_longest","itertools.pairwise"]:List String).contains n=false)(h:Q () s):wpAny M A (letOwnedTupleGo t (.ref aP) v) Q E s:=by
 have key:wpAny M A (do
  let(.ref r,.ref a):=(Value.ref aP,v)|(pure ():Sem Unit)
  let o<-load r
  match o.cls,o.data with
  |.type n,.fields vs=>
   if["enumerate","zip","dict_itemiterator","dict_reverseitemiterator","odict_iterator","itertools.zip_longest","itertools.pairwise"].contains n&&vs[0]? ==some (rawInt a) then
    rule "for.unpacks-the-owned-tuple"
    updateField r 0 .none
  |_,_=>pure ()) Q E s:=by
  cases v<;>try exact bx h
  refine aM (wpAny_load aH ?_)
  rw[aw]
  cases o.data<;>try exact bx h
  dsimp only
  rw[aW]
  exact bx h
 cases t<;>first|exact bx h|exact key
structure sY (prog:Program) (w:World) (h₁:Heap) (env:Env) (ns:List Str) (aP:Addr) (P:Nat->Obj->Prop) (bu:az) (ae:Nat) (i:Nat) (bL:az) (ba:Loc) (bH:St) (h2:Heap):Prop where
 R:bG prog w h₁ true env ns bL ba bH h2
 f:∃dV,bL.role aP=.fix dV/\P i dV
 le:bu.le ae bL
 fu:ae<=bH.next
theorem bG.letGo{U:Loc}(R:bG prog w h₁ true env ns W U σ h)(cW:W.role aP=.fix o)(ag:∀a x,a≠aP->h.get? a=some x->h'.get? a=some x):bG prog w h₁ true env ns (W.aT aP .free) U σ h':=by
 have kJ:=R.bI.sA (W':=W.aT aP .free) rfl λa=>by
  by_cases e:a=aP
  .exact .inr ⟨.inr ⟨o,e▸cW⟩,.inl (e▸az.c5)⟩
  .exact .inl (az.ck e)
 have e3:∀a,(W.aT aP .free).role a≠.free->h'.get? a=h.get? a:=λa ha=>by
  have fF:a≠aP:=λe=>ha (e▸az.c5)
  obtain⟨oa,ix⟩:=kJ.1.live a ha
  rw[ix];exact ag a oa fF ix
 have qK:∀a,W.role a=.U->(W.aT aP .free).role a=.U:=λa ha=>(az.ck λe=>bQ.no cW (e▸ha)).trans ha
 exact R.Js (kJ.1.keep (λa ha _=>e3 a ha) λa ha=>by rw[e3 a (bQ.ne ha)];exact kJ.1.live a (bQ.ne ha)) kJ.2 qK (bt _) λa ha=>e3 a (bQ.ne (qK a ha))
theorem az.r8{W:az}(cW:W.role aP=.fix o):W.e2 n (W.aT aP r):=⟨λb x e=>(az.ck λq=>bQ.no cW (q▸e)).trans e,λ_ _=>rfl⟩
theorem bG.aa5{W:az}{U:Loc}(R:bG prog w h₁ true env ns W U σ h)(cW:W.role aP=.fix o)(aH:h'.get? aP=some cV)(hs:Heap.SameBut aP h h'):bG prog w h₁ true env ns (W.aT aP (.fix cV)) U σ h':=
 R.Js (R.bI.swap cW hs aH) (az.r8 cW) (λa ha=>(az.ck λe=>bQ.no cW (e▸ha)).trans ha) (bt _) λa ha=>hs.2 a λe=>bQ.no cW (e▸ha)
theorem sY.next{aP:Addr}(J:sY prog w h₁ env ns aP P bu ae i bL ba bH h2)(d0:bu.role aP=.free)(cN:P (i+1) o)(ie:(bL.aT aP (.fix o)).le bH.next iK)(fQ:bH.next<=pM.next)(e7:bG prog w h₁ true env ns iK qG pM f'):
 sY prog w h₁ env ns aP P bu ae (i+1) iK qG pM f':=
 ⟨e7,⟨o,ie.2.1 _ _ az.c5,cN⟩,(az.n9 J.le d0).trans J.fu ie,cm J.fu fQ⟩
noncomputable def vU(prog:Program)(w:World)(h₁:Heap)(env:Env)(ns:List Str)(bu:az)(ae:Nat)(s:Shared)(R:Result->Shared->Prop)(f:fT)(p:Loc×St):Prop:=
 ∀bL hS h' cP,bu.le ae bL->ae<=p.2.next->bG prog w h₁ true env ns bL p.1 p.2 h'->ll prog w bL p.2.next f hS->R (.ok hS) {s with heap:=h',toks:=cP}
inductive vT (s:Shared) (X:Nat->az->Loc->St->Heap->Prop) (n:Nat) (aY:Shared):Prop
 |mk (bL:az) (ba:Loc) (bH:St) (h2:Heap) (tk2:Nat) (es:aY={s with heap:=h2,toks:=tk2}) (h:X n bL ba bH h2)
inductive Mi (prog:Program) (w:World) (h₁:Heap) (env:Env) (ns:List Str) (aP:Addr) (P:Nat->Obj->Prop) (bu:az) (ae:Nat) (items:List J) (M:List J->Loc->St->Prop) (n:Nat) (bL:az) (ba:Loc) (bH:St) (h2:Heap):Prop
 |mk (i:Nat) (rest:List J) (aW:n=rest.length) (aI:items.drop i=rest) (hi:i<=items.length) (J:sY prog w h₁ env ns aP P bu ae i bL ba bH h2) (ao:M rest ba bH)
theorem QP{t:Expr}{bind:J->Loc->Option Loc}(ht:lq prog w h₁ true env ns k t bind)(ag:SOk prog w h₁ env ns k (execs body env) kG)(aE:eR A k){items:List J}{N:az->Prop}{P:Nat->Obj->Prop}
 (hD:mS prog w h₁ k src iZ items aP N P){bu:az}{ae:Nat}(bc:aN prog w bu ae src iZ)(iQ:N bu)(d0:bu.role aP=.free){s:Shared}{R:Result->Shared->Prop}
 {n i:Nat}{rest:List J}{bL:az}{ba:Loc}{bH:St}{h2:Heap}{tk2:Nat}(aW:n=rest.length)(aI:items.drop i=rest)(hi:i<=items.length)(J:sY prog w h₁ env ns aP P bu ae i bL ba bH h2)(ao:aJ (oe src items bind kG rest ba bH) (vU prog w h₁ env ns bu ae s R)):
 e8 (model prog w) A (.forLoop t (.ref aP) body [] env) R {s with heap:=h2,toks:=tk2}:=by
 refine FT (vT s (Mi prog w h₁ env ns aP P bu ae items λrest l σ=>aJ (oe src items bind kG rest l σ) (vU prog w h₁ env ns bu ae s R))) ?_ n ⟨bL,ba,bH,h2,tk2,rfl,i,rest,aW,aI,hi,J,ao⟩
 clear aW aI hi J ao
 intro n aY h
 obtain⟨bL,ba,bH,h2,tk2,es,h⟩:=h
 obtain⟨i,rest,aW,aI,hi,J,ao⟩:=h
 rcases rest with _|⟨x,rest⟩<;>rw[es,aW]<;>refine e0 λG bZ=>?_<;>
  obtain⟨dV,cW,m4⟩:=J.f<;>
  have nV:=J.R.bI.fix _ _ cW<;>
  have bN:aN prog w bL bH.next src iZ:=bc.a5 J.le.1 J.fu<;>
  have tU:=hD.u1 _ _ _ iQ J.le.1
 .obtain⟨hit,ao⟩:=aJ.gj ao
  exact bZ<|wpN.of<|hD.done A bL _ i dV _ _ _ aE tU J.R.bI bN hit (z8 aI) hi nV m4 cW λaR cU tV=>wpN.of<|wpAny_execs_nil<|
   ao _ .next aR cU (az.n9 J.le d0) J.fu (J.R.letGo cW tV) trivial
 .obtain⟨hit,ao⟩:=aJ.gj ao
  obtain⟨cY,fp,ao⟩:=(aJ.hG ao).cC
  obtain⟨av,aI⟩:=wz aI
  refine bZ<|wpN.of<|hD.item A bL bH i x dV _ _ _ aE tU J.R.bI bN hit av nV m4 cW λdN aR cU iX eN nW nX m6=>e0 λG bZ=>?_
  obtain⟨di,ke,Bu⟩:=hD.cls _ _ nX
  refine bZ<|wpN.of<|II nW ke Bu<|wpN.of<|ht A _ ba cY bH x dN _ _ _ aE fp (J.R.aa5 cW nW m6) (eN.a5 (az.r8 cW) (bt _)) λh4 pD d'=>ag.go aE ao.bind d' λwF p ao iK tL f' nu ie fQ e7 uV=>?_
  have kN:=J.next d0 nX ie fQ e7
  have t2:=(l5.mp av).1
  revert ao
  refine ll.sq uV (λao=>?_) (λao=>?_) (λao=>?_) (λv ay fx ao=>?_)
  .exact⟨rest.length,gB _,iK,p.1,p.2,f',nu,rfl,i+1,rest,rfl,aI,t2,kN,ao⟩
  .exact ao iK .next f' nu kN.le kN.fu e7 trivial
  .exact⟨rest.length,gB _,iK,p.1,p.2,f',nu,rfl,i+1,rest,rfl,aI,t2,kN,ao⟩
  .exact ao iK _ f' nu kN.le kN.fu e7 fx
theorem kq{pos:Pos}{bind:J->Loc->Option Loc}(h:bk prog w h₁ true env ns k (eval it env) D)(ht:lq prog w h₁ true env ns k t bind)(ag:SOk prog w h₁ env ns k (execs body env) kG)
 (hf:autoParam (∀x,foldedSetIterable it env x=pure x) vg._auto_1):SOk prog w h₁ env ns k (exec (.For t it body [] pos) env) (fE D bind kG):=
 .of λA W U σ s Q E aE ao R=>LH (h.go aE ao.bind R λsrc cA ao bu iZ h1 cL bE ae bA bc=>by
  obtain⟨items,a7,ao⟩:=(aJ.hG ao).cC
  refine wpN.of<|C0 (k:=k) (s:={s with heap:=h1,toks:=cL}) bA.bI bc a7 λo N P my iQ cN hD=>?_
  have dS:bu.role h1.objs.size=.free:=bA.bI.free (bt _)
  have iP:(h1.push o).get? h1.objs.size=some o:=gA _ my
  have Mv:bG prog w h₁ true env ns (bu.aT h1.objs.size (.fix o)) U cA (h1.push o):=bA.next ((bA.bI.push o).ia dS ⟨o,iP⟩ (λ_ e=>nomatch e) λcV e=>bQ.fix.inj e▸iP) (az.ho (n:=cA.next) dS) (bt _) λa ha=>get?_push_ne (bA.bI.lt (bQ.ne ha))
  exact QP ht ag aE hD bc iQ dS rfl rfl (Nat.zero_le _) ⟨Mv,⟨o,az.c5,cN⟩,az.ho dS,bt _⟩ (ao.imp λf p c bL hS h' cP ba aK cx C4=>c bL hS h' cP (bE.trans ae ba) (cm ae aK) cx C4)) hf
noncomputable def nf(T:hB)(body:ct):Nat->ct
 |0,_,_=>none
 |n+1,U,σ=>(T U σ).bind λb=>if b.1=true then(body U b.2).bind λr=>match r with
   |(.next,l,s)=>nf T body n l s
   |(.cont,l,s)=>nf T body n l s
   |(.brk,l,s)=>some (.next,l,s)
   |(.ret v,l,s)=>some (.ret v,l,s)
  else some (.next,U,b.2)
noncomputable def pG(T:hB)(body:ct):ct:=nf T body 1000000
inductive MG (prog:Program) (w:World) (h₁:Heap) (env:Env) (ns:List Str) (bu:az) (ae:Nat) (M:Nat->Loc->St->Prop) (n:Nat) (bL:az) (ba:Loc) (bH:St) (h2:Heap):Prop
 |mk (R:bG prog w h₁ true env ns bL ba bH h2) (le:bu.le ae bL) (fu:ae<=bH.next) (ao:M n ba bH)
theorem KQ(h:BOk prog w h₁ true env ns k (isTrue t env (eval t env)) T)(ag:SOk prog w h₁ env ns k (execs body env) kG):
 SOk prog w h₁ env ns k (exec (.While t body [] pos) env) (pG T kG):=by
 refine .of λA W U σ s Q E aE ao R=>acj ?_
 unfold pG at ao
 generalize 1000000=ab at ao
 refine OQ (vT s (MG prog w h₁ env ns W σ.next λn l bH=>aJ (nf T kG n l bH) (gq prog w h₁ env ns W σ s Q))) ?_ ab ⟨W,U,σ,s.heap,s.toks,rfl,R,az.le.refl,bt _,ao⟩
 intro m aY h'
 obtain⟨bL,ba,bH,h2,tk2,es,h'⟩:=h'
 obtain⟨cx,ja,aK,w7⟩:=h'
 rw[es]
 rcases m with _|m
 .exact w7.elim
 refine h.go aE w7.bind cx λb dv ao b4 bU aR cU cY bC dj cR=>?_
 rw[show b=bU from cR] at ao
 have lN:=ja.trans aK cY
 have Cw:=cm aK bC
 rcases bU with _|_
 .exact wpN.of<|wpAny_execs_nil<|ao b4 .next aR cU lN Cw dj trivial
 .refine ag.go aE (aJ.bind ao) dj λwF p ao iK tL f' nu ie fQ e7 uV=>?_
  have xB:=lN.trans Cw ie
  have fu:=cm Cw fQ
  revert ao
  refine ll.sq uV (λao=>?_) (λao=>?_) (λao=>?_) (λv ay fx ao=>?_)
  .exact⟨m,gB _,iK,p.1,p.2,f',nu,rfl,e7,xB,fu,ao⟩
  .exact ao iK .next f' nu xB fu e7 trivial
  .exact⟨m,gB _,iK,p.1,p.2,f',nu,rfl,e7,xB,fu,ao⟩
  .exact ao iK _ f' nu xB fu e7 fx
noncomputable def jv(n:Nat)(cells:Nat->Option df):J->J
 |.ref c=>if n<=c then(match cells c with
  |some (.list vs)=>.bp vs
  |some (.cn es)=>.cD es
  |_=>.ref c) else .ref c
 |v=>v
noncomputable def m2(n:Nat)(cells:Nat->Option df):J->J
 |.bo vs=>.bo (vs.map (jv n cells))
 |v=>jv n cells v
noncomputable def St.cut(σ:St)(n:Nat):St:={σ with cells:=λc=>if c<n then σ.cells c else none}
noncomputable def r5(h:Heap)(a:Addr):bQ:=match h.get? a with
 |some o=>.imm o
 |none=>.free
noncomputable def zX(h:Heap)(a:Addr):Option df->bQ
 |some (.list _)=>r5 h a
 |some (.cn _)=>r5 h a
 |_=>.free
noncomputable def nT(n:Nat)(σ:St)(h:Heap)(a:Addr):bQ->bQ
 |.cell c=>if c<n then .cell c else zX h a (σ.cells c)
 |.gX c=>if c<n then .gX c else .free
 |r=>r
noncomputable def az.gi(W:az)(n:Nat)(σ:St)(h:Heap):az:={W with role:=λa=>nT n σ h a (W.role a)}
theorem Iy{P:bQ->Prop}(f:P .free)(i:∀o,h.get? a=some o->P (.imm o)):P (r5 h a):=by
 unfold r5
 generalize h.get? a=x at i
 rcases x with _|o
 .exact f
 .exact i o rfl
theorem Iz(e:h.get? a=some o):r5 h a=.imm o:=by unfold r5;rw[e]
theorem OA{x:Option df}{P:bQ->Prop}(f:P .free)(i:∀o,h.get? a=some o->P (.imm o)):P (zX h a x):=by
 rcases x with _|(_|_|_|_|_)
 .exact f
 .exact Iy f i
 .exact Iy f i
 .exact f
 .exact f
 .exact f
theorem Hd{a:Addr}{P:bQ->Prop}(same:(∀c,r≠.cell c)->P r)(cell:∀c,P (.cell c))(gX:∀c,P (.gX c))(f:P .free)(i:∀o,h.get? a=some o->P (.imm o)):P (nT n σ h a r):=by
 rcases r with _|_|_|c|c|_
 .exact same λc=>bQ.ne rfl
 .exact same λc=>bQ.ne rfl
 .exact same λc=>bQ.ne rfl
 .show P (ite _ _ _)
  by_cases q:c<n
  .rw[if_pos q];exact cell c
  .rw[if_neg q];exact OA f i
 .show P (ite _ _ _)
  by_cases q:c<n
  .rw[if_pos q];exact gX c
  .rw[if_neg q];exact f
 .exact same λc=>bQ.ne rfl
theorem QQ(e:r=.cell c)(q:c<n):nT n σ h a r=.cell c:=by rw[e];exact if_pos q
theorem QS(e:r=.gX c)(q:c<n):nT n σ h a r=.gX c:=by rw[e];exact if_pos q
theorem QR(e:r=.cell c)(q:¬c<n):nT n σ h a r=zX h a (σ.cells c):=by rw[e];exact if_neg q
theorem bB.gi(R:bB prog w h₁ W σ h)(n:Nat):bB prog w h₁ (W.gi n σ h) (σ.cut n) h/\W.e2 σ.next (W.gi n σ h)/\(∀a o,W.role a=.fix o->(W.gi n σ h).role a=.fix o)/\∀a,W.role a=.U->(W.gi n σ h).role a=.U:=by
 have KU:∀a o,W.role a=.imm o->(W.gi n σ h).role a=.imm o:=λa o e=>by show nT n σ h a (W.role a)=_;rw[e];rfl
 have aaG:∀a o,W.role a=.fix o->(W.gi n σ h).role a=.fix o:=λa o e=>by show nT n σ h a (W.role a)=_;rw[e];rfl
 have lX:∀a,W.role a=.U->(W.gi n σ h).role a=.U:=λa e=>by show nT n σ h a (W.role a)=_;rw[e];rfl
 have jb:W.e2 σ.next (W.gi n σ h):=⟨KU,λ_ _=>rfl⟩
 refine⟨⟨R.nz,λa o e=>KU a o (R.base a o e),λa o=>?_,λa o=>?_,λa e=>?_,λc x aw=>?_,λc aw=>?_⟩,jb,aaG,lX⟩
 .exact Hd (P:=λr=>r=.imm o->h.get? a=some o) (λ_ e=>R.imm a o e) (λ_ e=>bQ.no e rfl) (λ_ e=>bQ.no e rfl) (λe=>bQ.no e rfl) λcV g e=>bQ.imm.inj e▸g
 .exact Hd (P:=λr=>r=.fix o->h.get? a=some o) (λ_ e=>R.fix a o e) (λ_ e=>bQ.no e rfl) (λ_ e=>bQ.no e rfl) (λe=>bQ.no e rfl) λcV g e=>bQ.no e rfl
 .refine R.live a λr=>e ?_
  show nT n σ h a (W.role a)=_
  rw[r];rfl
 .have kc:(if c<n then σ.cells c else none)=some x:=aw
  by_cases dp:c<n
  .rw[if_pos dp] at kc
   obtain⟨r,q⟩:=R.cell c x kc
   exact⟨QQ r dp,q.a5 jb (bt _) rfl λd aB=>⟨QS aB dp,rfl⟩⟩
  .rw[if_neg dp] at kc;exact aq kc
 .show(if c<n then σ.cells c else none)=none
  by_cases dp:c<n
  .rw[if_pos dp];exact R.top c aw
  .exact if_neg dp
theorem QU(R:bB prog w h₁ W σ h)(same:aN prog w (W.gi n σ h) σ.next (.ref c) (.ref (W.al c))):aN prog w (W.gi n σ h) σ.next (jv n σ.cells (.ref c)) (.ref (W.al c)):=by
 have jb:=(R.gi n).2.1
 show aN prog w (W.gi n σ h) σ.next (ite _ _ _) _
 by_cases aW:n<=c
 .rw[if_pos aW]
  cases q:σ.cells c with
  |none=>exact same
  |some x=>
   obtain⟨r,g⟩:=R.cell c x q
   have cC:=QR (n:=n) (σ:=σ) (h:=h) (a:=W.al c) r (Nat.not_lt.mpr aW)
   rw[q] at cC
   induction g with
   |@list _ items dB aH aI=>exact .bp (o:=listOf items dB) (k:=dB) (cC.trans (Iz aH)) rfl rfl (aI.a5 jb (bt _))
   |cn aH z a d=>exact .cD (cC.trans (Iz aH)) z a (d.a5 jb (bt _))
   |_=>exact same
 .rw[if_neg aW];exact same
theorem Hh(R:bB prog w h₁ W σ h)(a3:aN prog w W σ.next v ay):aN prog w (W.gi n σ h) σ.next (jv n σ.cells v) ay:=
 aN.casesOn (motive_1:=λv ay _=>aN prog w (W.gi n σ h) σ.next v ay->aN prog w (W.gi n σ h) σ.next (jv n σ.cells v) ay) a3 id (λ_=>id) (λ_ _=>id) (λ_ _=>id) (λ_ _=>id) (λ_ _=>id) (λ_ _ _ _=>id) (λ_ _ _ _=>id) (λ_=>id) (λ_ s=>QU R s) (λ_=>id) (a3.a5 (R.gi n).2.1 (bt _))
theorem QW(R:bB prog w h₁ W σ h)(r:bw prog w W σ.next vs bK):bw prog w (W.gi n σ h) σ.next (vs.map (jv n σ.cells)) bK:=
 r.ind (P:=λvs bK=>bw prog w (W.gi n σ h) σ.next (vs.map (jv n σ.cells)) bK) .nil λa _ aZ=>.cons (Hh R a) aZ
theorem He(R:bB prog w h₁ W σ h)(a3:aN prog w W σ.next v ay):aN prog w (W.gi n σ h) σ.next (m2 n σ.cells v) ay:=
 aN.casesOn (motive_1:=λv ay _=>aN prog w (W.gi n σ h) σ.next (jv n σ.cells v) ay->aN prog w (W.gi n σ h) σ.next (m2 n σ.cells v) ay) a3 id (λ_=>id) (λ_ _=>id) (λ_ _=>id) (λ_ _=>id) (λa d _=>.bo ((R.gi n).2.1.1 _ _ a) (QW R d)) (λ_ _ _ _=>id) (λ_ _ _ _=>id) (λ_=>id) (λ_=>id) (λ_=>id) (Hh R a3)
noncomputable def er(D:ct)(n m:Nat):b3:=λargs σ=>if args.length=n then(D (args.map some++List.replicate m none) σ).bind λr=>match r with
 |(.ret v,_,a0)=>some (m2 σ.next a0.cells v,a0.cut σ.next)
 |(.next,_,a0)=>some (.none,a0.cut σ.next)
 |_=>none
 else none
theorem ac9{xs:List Str}(aW:xs.Nodup):∀{i:Nat} {x:Str} {v:Value},xs[i]? =some x->vs[i]? =some v->(xs.zip vs).lookup x=some v:=by
 induction xs generalizing vs with
 |nil=>intro i x v h;simp at h
 |cons y iF aZ=>
  intro i x v av a3
  rw[jj] at aW
  induction vs with
  |nil=>simp at a3
  |cons u cI=>
   induction i with
   |zero=>
    simp at av a3;subst av a3
    simp
   |succ i=>
    simp at av a3
    have fF:(x==y)=false:=by
     refine beq_eq_false_iff_ne.mpr ?_
     rintro rfl
     exact aW.1 (List.mem_of_getElem? av)
    rw[List.zip_cons_cons,List.lookup_cons,fF]
    exact aZ aW.2 av a3
theorem Uq{l:List (Str×Value)}(aW:(l.map (·.1)).Nodup)(x:Str):l.reverse.lookup x=l.lookup x:=by
 induction l with
 |nil=>rfl
 |cons p r aZ=>
  obtain⟨y,v⟩:=p
  simp only[iH,jj] at aW
  rw[List.reverse_cons,List.lookup_append,aZ aW.2]
  have sr:List.lookup x [(y,v)]=if x=y then some v else none:=by
   by_cases e:x=y
   .subst e;simp[List.lookup]
   .have:(x==y)=false:=beq_eq_false_iff_ne.mpr e
    simp[List.lookup,this,e]
  by_cases e:x=y
  .subst e
   have:r.lookup x=none:=by
    cases q:r.lookup x with
    |none=>rfl
    |some u=>exact absurd (dI.mpr ⟨(x,u),mem_of_lookup q,rfl⟩) aW.1
   rw[this,sr,List.lookup_cons];simp
  .have:(x==y)=false:=beq_eq_false_iff_ne.mpr e
   rw[sr,if_neg e,List.lookup_cons,this]
   cases r.lookup x<;>rfl
theorem i6{P:List Value->Prop}(h:∀gg,P [gg]):∀args:List Value,args.length=1->P args:=by
 intro args e
 rcases args with _|⟨gg,_|⟨b,r⟩⟩
 .exact nomatch e
 .exact h gg
 .exact nomatch e
theorem kP{P:List Value->Prop}(h:∀gg fK,P [gg,fK]):∀args:List Value,args.length=2->P args:=by
 intro args e
 rcases args with _|⟨gg,_|⟨fK,_|⟨b,r⟩⟩⟩
 .exact nomatch e
 .exact nomatch e
 .exact h gg fK
 .exact nomatch e
theorem Fd{P:List Value->Prop}(h:∀gg fK jM,P [gg,fK,jM]):∀args:List Value,args.length=3->P args:=by
 intro args e
 rcases args with _|⟨gg,_|⟨fK,_|⟨jM,_|⟨b,r⟩⟩⟩⟩
 .exact nomatch e
 .exact nomatch e
 .exact nomatch e
 .exact h gg fK jM
 .exact nomatch e
theorem Fe{P:List Value->Prop}(h:∀gg fK jM lr,P [gg,fK,jM,lr]):∀args:List Value,args.length=4->P args:=by
 intro args e
 rcases args with _|⟨gg,_|⟨fK,_|⟨jM,_|⟨lr,_|⟨b,r⟩⟩⟩⟩⟩
 .exact nomatch e
 .exact nomatch e
 .exact nomatch e
 .exact nomatch e
 .exact h gg fK jM lr
 .exact nomatch e
theorem Nv{P:List Value->Prop}(h:∀gg fK jM lr y',P [gg,fK,jM,lr,y']):∀args:List Value,args.length=5->P args:=by
 intro args e
 rcases args with _|⟨gg,_|⟨fK,_|⟨jM,_|⟨lr,_|⟨y',_|⟨b,r⟩⟩⟩⟩⟩⟩
 .exact nomatch e
 .exact nomatch e
 .exact nomatch e
 .exact nomatch e
 .exact nomatch e
 .exact h gg fK jM lr y'
 .exact nomatch e
theorem dg.to(h:aJ (some (v,a0)) (dg prog w h₁ W σ s Q)):dg prog w h₁ W σ s Q v a0:=h
theorem eR.F6(aE:eR A (k+1)):eR (A.deeper env) k:=⟨aE.h,by have:=aE.d;show A.depth+1+8*k+8<1000;exact aC.X' this,by have:=aE.u;show A.units+3+64*k+200<9900;exact aC.Yb this,aE.g⟩
theorem Up{args:List J}{m i:Nat}(bM:(args.map some++List.replicate m none)[i]? =some (some u)):args[i]? =some u:=by
 rcases Nat.lt_or_ge i args.length with q|q
 .rw[List.getElem?_append_left (by rw[dW];exact q),List.getElem?_map] at bM
  obtain⟨gc,n6,e⟩:=fS.mp bM
  exact n6.trans e
 .rw[List.getElem?_append_right (by rw[dW];exact q)] at bM
  have h:=List.mem_of_getElem? bM
  rw[List.mem_replicate] at h
  exact nomatch h.2
theorem Fc{W:az}{n:Nat}{m i:Nat}(ha:bw prog w W n args eI)(dm:args.length=xs.length)(jU:∃iF,ns=xs++iF)(lJ:ns.Nodup)(bM:(args.map some++List.replicate m none)[i]? =some (some u)):
 ∃x gc,x∈xs/\xs[i]? =some x/\eI[i]? =some gc/\ns[i]? =some x/\aN prog w W n u gc/\(xs.zip eI).reverse.lookup x=some gc:=by
 have bM:=Up bM
 obtain⟨iF,e⟩:=jU
 obtain⟨gc,n6,r⟩:=ha.get bM
 have qA:i<xs.length:=dm▸(l5.mp bM).1
 have av:xs[i]? =some xs[i]:=hN qA
 have ua:(xs.zip eI).map (·.1)=xs:=List.map_fst_zip (dR (ha.length.trans dm).symm)
 have t':xs.Nodup:=by rw[e] at lJ;exact(List.nodup_append.mp lJ).1
 exact⟨xs[i],gc,List.getElem_mem _,av,n6,by rw[e,List.getElem?_append_left qA];exact av,r,by rw[Uq (by rw[ua];exact t')];exact ac9 t' av n6⟩
theorem Ox{xs ns:List Str}{eI:List Value}(R:bB prog w h₁ W σ h)(ha:bw prog w W σ.next args eI)(dm:args.length=xs.length)(jU:∃iF,ns=xs++iF)(lJ:ns.Nodup)
 (qm:fd.closure=[])(n4:∀x∈xs,fd.scope.names.lookup x=some .local)(dS:W.role aV=.free)(hm:h2.Ns aV λx=>(xs.zip eI).reverse.lookup x)(lI:∀b o,h.get? b=some o->h2.get? b=some o):
 bG prog w h₁ true (callEnv fd aV fa) ns (W.aT aV .U) (args.map some++List.replicate m none) σ h2:=by
 obtain⟨U1,xh⟩:∃o,h2.get? aV=some o:=by obtain⟨o,_,_,h,_⟩:=hm;exact⟨o,h⟩
 have no:∀{x c} {P:Prop},(callEnv fd aV fa).cells.lookup x=some c->P:=λ{x c P} aw=>by
  rw[show(callEnv fd aV fa).cells=[] from qm] at aw;exact aq aw
 refine⟨(R.kV lI).ia dS ⟨U1,xh⟩ (λ_ e=>nomatch e) (λ_ e=>nomatch e),az.c5,λx c aw=>no aw,λx y c aw=>no aw,λx c aw=>no aw,_,hm,λi u bM=>?_⟩
 obtain⟨x,gc,av,_,_,aW,r,aG⟩:=Fc ha dm jU lJ bM
 exact⟨x,gc,aW,r.a5 (az.ho dS).1 (bt _),.inl ⟨n4 _ av,aG⟩⟩
theorem fD(B:bP K h₁)(aH:h₁.get? fa=some o)(aB:o.data=.func fd)(jT:h₁.CodeRec fd.code fd.qualname)(mq:fd.body=.stmts body)
 (nZ:∀args:List Value,args.length=xs.length->bindArgs fd ⟨args,[]⟩=pure (xs.zip args))(qm:fd.closure=[])(jU:∃iF,ns=xs++iF)(lJ:ns.Nodup)(mr:∀x∈fd.scope.names,x.2≠.cell)(n4:∀x∈xs,fd.scope.names.lookup x=some .local)
 (ag:∀aV,SOk prog w h₁ (callEnv fd aV fa) ns k (execs body (callEnv fd aV fa)) D)(mu:autoParam (fd.scope.isCoroutine=false) aL._auto_1)(mv:autoParam (fd.scope.isGenerator=false) aL._auto_1)(hk:autoParam (fd.scope.kind=.function) aL._auto_1):
 OpOk prog w h₁ (k+1) (λvs=>call (.ref fa) vs) (er D xs.length m):=by
 refine .of λA W σ args eI s Q E aE aX R ha=>?_
 obtain⟨dm,aX⟩:=aJ.gj aX
 have pa:eI.length=xs.length:=ha.length.trans dm
 have ua:(xs.zip eI).map (·.1)=xs:=List.map_fst_zip (dR pa.symm)
 refine yq (ON aE.IK (R.old _ _ aH) aB (B.nolimit.keeps R.old) (jT.keeps R.old) mq (nZ eI pa) mr (λp hp=>n4 p.1 (ua▸dI.mpr ⟨p,hp,rfl⟩)) (λh2 hm lI=>?_) mu mv hk)
 have dS:W.role s.heap.objs.size=.free:=R.free (bt _)
 have ja:W.le σ.next (W.aT s.heap.objs.size .U):=az.ho dS
 refine(ag s.heap.objs.size).go (s:={s with heap:=h2,toks:=s.toks+(xs.zip eI).length}) aE.F6 (aJ.bind aX) (Ox (m:=m) R ha dm jU lJ qm n4 dS hm lI) λf p aX b4 o2 aR cU cY bC dj dF=>?_
 obtain⟨nB,mQ,yI,yJ⟩:=dj.bI.gi σ.next
 have uq:W.le σ.next (b4.gi σ.next p.2 aR):=⟨(ja.1.trans (bt _) cY.1).trans bC mQ,λa o e=>yI a o (cY.2.1 a o (ja.2.1 a o e)),λa e=>yJ a (cY.2.2 a (ja.2.2 a e))⟩
 revert aX
 refine ll.sq dF (λaX=>?_) (λaX=>False.elim aX) (λaX=>False.elim aX) (λu gc C6 aX=>?_)
 .exact dg.to aX _ _ aR cU uq bC nB .none
 .exact dg.to aX _ _ aR cU uq bC nB (He dj.bI C6)
theorem Jj(a:Nat):a+1≠a:=Nat.succ_ne_self _
theorem UC(a:Nat):a≠a+1:=(Nat.succ_ne_self _).symm
theorem Jl(a:Nat):a+1+1≠a:=by exact aC.Yc
theorem UD(a:Nat):a≠a+1+1:=by exact aC.Yd
theorem UE(a:Nat):a+1+1≠a+1:=by exact aC.Ye
theorem Jk(a:Nat):a+1≠a+1+1:=by exact aC.Yh
theorem xA(a:Nat):a<a+1+1:=by exact aC.Yi
noncomputable abbrev nt(gU:List Expr)(env:Env):Sem Bool:=forIn gU true λc r=>if r=true then do let ok<-isTrue c env (eval c env);pure (ForInStep.yield ok) else pure (ForInStep.yield r)
theorem oO:BOk prog w h₁ own env ns k (nt [] env) e4:=by
 intro A W U σ b a0 s Q E aE ao R aQ
 cases ao
 exact wpN.of<|wpAny_tests_nil (aQ W true s.heap s.toks az.le.refl (bt _) R rfl)
theorem acv(h:wpN M A (isTrue c env (eval c env)) Q E s):wpN M A (nt [c] env) Q E s:=by
 unfold nt
 simp only[List.forIn_cons,List.forIn_nil,if_true]
 exact a6 (a6 (cF h (λok aY h'=>cz (cz h')) λ_ _ x=>x))
theorem oP(h:BOk prog w h₁ own env ns k (isTrue c env (eval c env)) D):BOk prog w h₁ own env ns k (nt [c] env) D:=by
 intro A W U σ b a0 s Q E aE ao R aQ
 exact acv (h A W U σ b a0 s Q E aE ao R aQ)
theorem OO(aP:Nat->Shared->Prop)
 (turn:∀n s,aP n s->wpN (model prog w) A (pyNext it) (λr bj=>match r with
   |none=>R (.ok .next) bj
   |some v=>wpN (model prog w) A (letOwnedTupleGo target it v) (λ_ u3=>wpN (model prog w) A (assign target env v) (λ_ cZ=>
     wpN (model prog w) A (nt gU env) (λok fy=>
      if ok=true then wpN (model prog w) A (eval ea env) (λx pC=>
       wpN (model prog w) A (call (.builtin "list.append") [acc,x]) (λ_ Lb=>∃m,m<n/\aP m Lb) gW pC) gW fy
      else∃m,m<n/\aP m fy) gW cZ) gW u3) gW bj) gW s)
 (n:Nat)(h:aP n s):e8 (model prog w) A (.compLoop (.ListComp ea [⟨target,iter,gU,0⟩] scope pos) 0 it acc env) R s:=by
 refine z0 rfl rfl aP (λn s iP=>?_) n h
 show wpN _ A ((compTurn (.ListComp ea [⟨target,iter,gU,0⟩] scope pos) 0 it acc env).onRaise (λx=>do noteFrame x env;theTreesLotGoes x)) _ _ s
 refine pH ?_
 rw[compTurn_list]
 refine a6 (ed (a6 (cF (turn n s iP) (λr bj h₁=>?_) λ_ _ h'=>h')))
 induction r with
 |none=>exact cz h₁
 |some v=>
  refine a6 (cF h₁ (λ_ u3 BP=>?_) λ_ _ h'=>h')
  refine a6 (cF BP (λ_ cZ eG=>a6 (cF eG (λok fy gT=>?_) λ_ _ h'=>h')) λ_ _ h'=>h')
  induction ok with
  |false=>exact cz (.inl ⟨rfl,gT⟩)
  |true=>
   exact a6 (a6 (cF gT (λx pC qB=>a6 (cF qB (λ_ Lb Te=>cz (cz (.inl ⟨rfl,Te⟩))) λ_ _ h'=>h')) λ_ _ h'=>h'))
open Classical in
noncomputable def mW(src:J)(items:List J)(bind:J->Loc->Option Loc)(T:hB)(ea:c4):List J->List J->Loc->St->Option (List J×St)
 |[],acc,_,σ=>if d1 src σ=some items then some (acc,σ) else none
 |x::rest,acc,U,σ=>if d1 src σ=some items then(bind x U).bind λbE=>(T bE σ).bind λb=>if b.1=true then(ea bE b.2).bind λr=>if acc.length<1000000 then mW src items bind T ea rest (acc++[r.1]) bE r.2 else none else mW src items bind T ea rest acc bE b.2 else none
noncomputable def wm(D:c4)(fL:Loc->Loc)(bind:J->Loc->Option Loc)(T:hB)(ea:c4):l7:=λU σ=>(D U σ).bind λr=>(d1 r.1 r.2).bind λitems=>mW r.1 items bind T ea items [] (fL U) r.2
noncomputable def fM(D:c4)(fL:Loc->Loc)(bind:J->Loc->Option Loc)(T:hB)(ea:c4):c4:=λU σ=>(wm D fL bind T ea U σ).bind λq=>some (.bp q.1,q.2)
noncomputable def oV(D:c4)(fL:Loc->Loc)(bind:J->Loc->Option Loc)(T:hB)(ea:c4):c4:=λU σ=>(wm D fL bind T ea U σ).bind λq=>some (.ref q.2.next,q.2.new (.list q.1))
structure pO (env env':Env) (ns ns':List Str) (fL:Loc->Loc):Prop where
 sub:∀x c,env'.cells.lookup x=some c->env.cells.lookup x=some c
 cap:∀U (i:Nat) v,(fL U)[i]? =some (some v)->∃(ai:Nat) (x:Str),U[ai]? =some (some v)/\ns[ai]? =some x/\ns'[i]? =some x/\env.kindOf x=some .cell/\(env'.kindOf x=some .cell\/env'.kindOf x=some .free)/\env'.cells.lookup x=env.cells.lookup x
theorem bB.x7(R:bB prog w h₁ W σ h)(ha:W.role a=.fix o):bB prog w h₁ (W.aT a (.imm o)) σ h/\W.e2 σ.next (W.aT a (.imm o)):=by
 have fF:∀b r,W.role b=r->(∀o,r≠.fix o)->(W.aT a (.imm o)).role b=r:=λb r e q=>by
  rw[az.ck]
  .exact e
  .rintro rfl;rw[ha] at e;exact q o e.symm
 have jb:W.e2 σ.next (W.aT a (.imm o)):=⟨λb x e=>fF b _ e (λ_ q=>nomatch q),λ_ _=>rfl⟩
 refine⟨⟨R.nz,λb x e=>jb.1 b x (R.base b x e),λb x e=>?_,λb x e=>?_,λb e=>?_,λc x aw=>?_,R.top⟩,jb⟩
 .by_cases ag:b=a
  .subst ag;rw[az.c5] at e;cases e;exact R.fix _ _ ha
  .rw[az.ck ag] at e;exact R.imm b x e
 .by_cases ag:b=a
  .subst ag;rw[az.c5] at e;cases e
  .rw[az.ck ag] at e;exact R.fix b x e
 .by_cases ag:b=a
  .subst ag;exact⟨o,R.fix _ _ ha⟩
  .rw[az.ck ag] at e;exact R.live b e
 .obtain⟨r,q⟩:=R.cell c x aw
  exact⟨fF _ _ r (λ_ q=>nomatch q),q.a5 jb (bt _) rfl λd aB=>⟨fF _ _ aB (λ_ q=>nomatch q),rfl⟩⟩
structure j6 (prog:Program) (w:World) (h₁:Heap) (env':Env) (ns':List Str) (bu:az) (cA:St) (h1:Heap) (aP D:Addr) (P:Nat->Obj->Prop) (i:Nat) (acc:List J) (bL:az) (ba:Loc) (bH:St) (h2:Heap):Prop where
 R:bG prog w h₁ false env' ns' bL ba bH h2
 le:(bu.fG h1).le cA.next bL
 fu:cA.next<=bH.next
 d0:∃dV,bL.role aP=.fix dV/\P i dV
 nQ:∃items dB,bL.role D=.fix (listOf items dB)/\bw prog w bL bH.next acc items.toList
 ne:D≠aP
 di:∀x c,env'.cells.lookup x=some c->c≠aP/\c≠D
theorem bG.UO{U:Loc}(R:bG prog w h₁ false env ns W U σ h)(dK:bB prog w h₁ W' a0 h')(l:W.e2 σ.next W')(IJ:∀b o,b≠a->W.role b=.fix o->W'.role b=.fix o)(ha:∀x c,env.cells.lookup x=some c->c≠a)(qK:∀a,W.role a=.U->W'.role a=.U)(aW:σ.next<=a0.next)
 (e:∀a,W.role a=.U->h'.get? a=h.get? a):bG prog w h₁ false env ns W' U a0 h':=by
 have eo:∀x c,env.cells.lookup x=some c->∃o,W.role c=.fix o:=λx c aw=>by
  rcases R.cells x c aw with⟨q,_⟩|⟨_,q⟩
  .cases q
  .exact q
 have same:∀x c o,env.cells.lookup x=some c->h.get? c=some o->h'.get? c=some o:=λx c o aw aH=>by
  obtain⟨cV,r⟩:=eo x c aw
  have h1:=R.bI.fix c cV r
  rw[aH] at h1;cases h1
  exact dK.fix c o (IJ _ _ (ha x c aw) r)
 refine⟨dK,qK _ R.l,λx c aw=>.inr ⟨rfl,?_⟩,R.apart,λx c aw=>?_,?_⟩
 .obtain⟨o,r⟩:=eo x c aw;exact⟨o,IJ _ _ (ha x c aw) r⟩
 .obtain⟨lZ,o,aH,aB⟩:=R.nL x c aw
  exact⟨lZ,o,same x c o aw aH,aB⟩
 obtain⟨m,hm,f⟩:=R.U
 refine⟨m,hm.at' λo aH=>(e _ R.l).trans aH,λi v a3=>?_⟩
 obtain⟨x,ay,av,aI,hs⟩:=f i v a3
 exact⟨x,ay,av,aI.a5 l aW,hs.imp id λ⟨q,c,aw,o,aH,aB⟩=>⟨q,c,aw,o,same x c o aw aH,aB⟩⟩
theorem bG.La{U:Loc}(R:bG prog w h₁ false env ns W U σ h)(bT:W.role a=.fix o)(hs:Heap.SameBut a h h')(aH:h'.get? a=some cV)(ha:∀x c,env.cells.lookup x=some c->c≠a):
 bG prog w h₁ false env ns (W.aT a (.fix cV)) U σ h':=by
 have ne:∀b r,W.role b=r->(∀o,r≠.fix o)->b≠a:=λb r e q=>by rintro rfl;rw[bT] at e;exact q o e.symm
 refine R.UO (a:=a) (R.bI.swap bT hs aH) ⟨λb x e=>?_,λ_ _=>rfl⟩ (λb x ag e=>?_) ha (λb e=>?_) (bt _) λb e=>hs.2 b (ne b _ e λ_ q=>nomatch q)
 .rw[az.ck (ne b _ e λ_ q=>nomatch q)];exact e
 .rw[az.ck ag];exact e
 .rw[az.ck (ne b _ e λ_ q=>nomatch q)];exact e
noncomputable def az.bJ(W:az)(a:Addr):Prop:=(∀o,W.role a≠.imm o)/\(∀o,W.role a≠.fix o)/\W.role a≠.U
theorem az.JM{W W':az}(l:W.le n W')(h:W'.role a=.free):W.bJ a:=
 ⟨λo e=>by(rw[l.1.1 _ _ e] at h;cases h),λo e=>by(rw[l.2.1 _ _ e] at h;cases h),λe=>by(rw[l.2.2 _ e] at h;cases h)⟩
theorem az.r9{W W':az}(l:W.le n W')(h:W.bJ a):W.le n (W'.aT a r):=by
 refine⟨⟨λb o e=>?_,l.1.2⟩,λb o e=>?_,λb e=>?_⟩
 .rw[az.ck (by rintro rfl;exact h.1 o e)];exact l.1.1 b o e
 .rw[az.ck (by rintro rfl;exact h.2.1 o e)];exact l.2.1 b o e
 .rw[az.ck (by rintro rfl;exact h.2.2 e)];exact l.2.2 b e
theorem bB.B8(R:bB prog w h₁ W σ h)(ij:W.role D=.fix (listOf items dB))(hm:h.Ns aA m):D≠aA:=λe=>by
 obtain⟨_,_,_,h,aB,_⟩:=hm
 rw[<-e,R.fix _ _ ij] at h
 rw[<-b9 h] at aB
 exact nomatch aB
theorem j6.step(J:j6 prog w h₁ env' ns' bu cA h1 aP D P i acc bL ba bH h2)(cW:bL.role aP=.fix dV)(nW:aR.get? aP=some iX)(m6:Heap.SameBut aP h2 aR):
 bG prog w h₁ false env' ns' (bL.aT aP (.fix iX)) ba bH aR:=J.R.La cW m6 nW λx c aw=>(J.di x c aw).1
theorem j6.next(J:j6 prog w h₁ env' ns' bu cA h1 aP D P i acc bL ba bH h2)(qg:(bu.fG h1).role aP=.free)(cW:bL.role aP=.fix dV)(cN:P (i+1) iX)
 (le:(bL.aT aP (.fix iX)).le bH.next v3)(iW:bH.next<=L7.next)(kL:bG prog w h₁ false env' ns' v3 r6 L7 dc):j6 prog w h₁ env' ns' bu cA h1 aP D P (i+1) acc v3 r6 L7 dc:=by
 obtain⟨dz,dB,ij,kW⟩:=J.nQ
 exact⟨kL,(az.n9 J.le qg).trans J.fu le,cm J.fu iW,⟨iX,le.2.1 _ _ az.c5,cN⟩,⟨dz,dB,le.2.1 _ _ ((az.ck J.ne).trans ij),(kW.a5 (az.r8 cW) (bt _)).a5 le.1 iW⟩,J.ne,J.di⟩
theorem j6.push(J:j6 prog w h₁ env' ns' bu cA h1 aP D P i acc bL ba bH h2)(rJ:(bu.fG h1).role D=.free)
 (le:bL.le bH.next rp)(fu:bH.next<=q'.next)(oJ:bG prog w h₁ false env' ns' rp ba q' o8)(ij:rp.role D=.fix (listOf dz dB))(kW:bw prog w rp q'.next acc dz.toList)(nj:aN prog w rp q'.next y gz)(hs:Heap.SameBut D o8 w6)(aH:w6.get? D=some (listOf (dz.push gz) r4)):
 j6 prog w h₁ env' ns' bu cA h1 aP D P i (acc++[y]) (rp.aT D (.fix (listOf (dz.push gz) r4))) ba q' w6:=by
 obtain⟨dV,cW,cN⟩:=J.d0
 have jb:=az.r8 (n:=q'.next) (r:=.fix (listOf (dz.push gz) r4)) ij
 exact⟨oJ.La ij hs aH λx c aw=>(J.di x c aw).2,az.n9 (J.le.trans J.fu le) rJ,cm J.fu fu,⟨dV,(az.ck J.ne.symm).trans (le.2.1 _ _ cW),cN⟩,⟨dz.push gz,r4,az.c5,by rw[Array.toList_push];exact(kW.a5 jb (bt _)).append (.sr (nj.a5 jb (bt _)))⟩,J.ne,J.di⟩
theorem j6.cC(J:j6 prog w h₁ env' ns' bu cA h1 aP D P i acc bL ba bH h2)(bA:bG prog w h₁ own env ns bu U cA h1)(RP:env'.locals≠aP)(qi:D≠env'.locals)
 (d0:bu.role aP=.free)(nQ:bu.role D=.free)(tM:bu.role env'.locals=.free)(HS:∀a,bu.role a=.free->(bu.fG h1).role a=.free)(ag:∀a x,a≠aP->h2.get? a=some x->aR.get? a=some x):
 ∃b4 items dB iB m,bu.le cA.next b4/\bG prog w h₁ own env ns b4 U bH aR/\b4.role D=.fix (listOf items dB)/\bw prog w b4 bH.next acc items.toList/\b4.role env'.locals=.fix iB/\aR.Ns env'.locals m:=by
 obtain⟨dV,cW,_⟩:=J.d0
 obtain⟨dz,dB,ij,kW⟩:=J.nQ
 obtain⟨Ux,Ss,_⟩:=J.R.U
 have sC:=J.R.l
 generalize env'.locals=aA at*
 obtain⟨iB,Bx⟩:=J.R.bI.live aA (bQ.ne sC)
 have kJ:=J.R.bI.sA (W':=(bL.aT aP .free).aT aA (.fix iB)) rfl λa=>by
  by_cases a9:a=aA
  .rw[a9];exact .inr ⟨.inl sC,.inr (.inr ⟨iB,az.c5,Bx⟩)⟩
  .by_cases e:a=aP
   .exact .inr ⟨.inr ⟨dV,by rw[e];exact cW⟩,.inl ((az.ck a9).trans (by rw[e];exact az.c5))⟩
   .exact .inl ((az.ck a9).trans (az.ck e))
 have e3:∀a,((bL.aT aP .free).aT aA (.fix iB)).role a≠.free->aR.get? a=h2.get? a:=λa ha=>by
  obtain⟨oa,ix⟩:=kJ.1.live a ha
  rw[ix];exact ag a oa (λe=>ha (by rw[e];exact(az.ck (Ne.symm RP)).trans az.c5)) ix
 have ip:bB prog w h₁ ((bL.aT aP .free).aT aA (.fix iB)) bH aR:=kJ.1.keep (λa ha _=>e3 a ha) λa ha=>by rw[e3 a (bQ.ne ha)];exact kJ.1.live a (bQ.ne ha)
 obtain⟨Mb,Er,Mc,Md⟩:=bA.bI.bZ (az.n9 (az.n9 J.le (HS _ d0)) (HS _ tM)) ip
 have FA:∀a iC,bu.role a=.free->((bL.aT aP .free).aT aA (.fix iB)).role a=.fix iC->(bu.bZ ((bL.aT aP .free).aT aA (.fix iB))).role a=.fix iC:=λa iC a9 a7=>by
  unfold az.bZ;dsimp only;rw[a9,a7]
 exact⟨_,dz,dB,iB,Ux,Er,bA.next Mb Er J.fu Md,FA _ _ nQ ((az.ck qi).trans ((az.ck J.ne).trans ij)),(kW.a5 kJ.2 (bt _)).a5 Mc (bt _),FA _ _ tM az.c5,Ss.at' λiC aH=>(e3 aA (bQ.ne az.c5)).trans aH⟩
theorem az.rT{W:az}(e:W.role a=.free):(W.fG h).role a=.free:=by unfold az.fG;dsimp only;rw[e]
theorem az.SN{W:az}(e:W.role a=.fix o):(W.fG h).role a=.fix o:=by unfold az.fG;dsimp only;rw[e]
inductive Mf (prog:Program) (w:World) (h₁:Heap) (env':Env) (ns':List Str) (bu:az) (cA:St) (h1:Heap) (aP D:Addr) (P:Nat->Obj->Prop) (items:List J) (M:List J->List J->Loc->St->Prop) (n:Nat) (bL:az) (ba:Loc) (bH:St) (h2:Heap):Prop
 |mk (i:Nat) (rest acc:List J) (aW:n=rest.length) (aI:items.drop i=rest) (hi:i<=items.length) (J:j6 prog w h₁ env' ns' bu cA h1 aP D P i acc bL ba bH h2) (ao:M rest acc ba bH)
theorem OU{bind:J->Loc->Option Loc}{T:hB}{kH:c4}{aA:List J->St->Prop}{R:Result->Shared->Prop}
 (ht:lq prog w h₁ false env' ns' k t bind)(hT:BOk prog w h₁ false env' ns' k (nt gU env') T)(b1:bk prog w h₁ false env' ns' k (eval ea env') kH)(aE:eR A k){aP D:Addr}{src:J}{iZ:Value}{items:List J}{N:az->Prop}{P:Nat->Obj->Prop}
 (hD:mS prog w h₁ k src iZ items aP N P){bu:az}{cA:St}{h1:Heap}(bc:aN prog w (bu.fG h1) cA.next src iZ)(iQ:N (bu.fG h1))(qg:(bu.fG h1).role aP=.free)(rJ:(bu.fG h1).role D=.free){s:Shared}
 (cC:∀i acc bL ba bH h2 aR cU,aA acc bH->j6 prog w h₁ env' ns' bu cA h1 aP D P i acc bL ba bH h2->(∀a x,a≠aP->h2.get? a=some x->aR.get? a=some x)->R (.ok .next) {s with heap:=aR,toks:=cU})
 {bL:az}{ba:Loc}{bH:St}{h2:Heap}{tk2:Nat}(J:j6 prog w h₁ env' ns' bu cA h1 aP D P 0 [] bL ba bH h2)(ao:aJ (mW src items bind T kH items [] ba bH) aA):
 e8 (model prog w) A (.compLoop (.ListComp ea [⟨t,it,gU,0⟩] scope pos) 0 (.ref aP) (.ref D) env') R {s with heap:=h2,toks:=tk2}:=by
 refine OO (vT s (Mf prog w h₁ env' ns' bu cA h1 aP D P items λrest acc l σ=>aJ (mW src items bind T kH rest acc l σ) aA)) ?_ items.length ⟨bL,ba,bH,h2,tk2,rfl,0,items,[],rfl,rfl,Nat.zero_le _,J,ao⟩
 clear J ao
 intro n aY h
 obtain⟨bL,ba,bH,h2,tk2,es,h⟩:=h
 obtain⟨i,rest,za,aW,aI,hi,J,ao⟩:=h
 rcases rest with _|⟨x,rest⟩<;>rw[es,aW]<;>refine e0 λG bZ=>?_<;>
  obtain⟨dV,cW,m4⟩:=J.d0<;>
  have nV:=J.R.bI.fix _ _ cW<;>
  have bN:aN prog w bL bH.next src iZ:=bc.a5 J.le.1 J.fu<;>
  have tU:=hD.u1 _ _ _ iQ J.le.1
 .obtain⟨hit,ao⟩:=aJ.gj ao
  exact bZ<|wpN.of<|hD.done A bL _ i dV _ _ _ aE tU J.R.bI bN hit (z8 aI) hi nV m4 cW λaR cU tV=>cC i za bL ba bH h2 aR cU ao J tV
 .obtain⟨hit,ao⟩:=aJ.gj ao
  obtain⟨cY,fp,ao⟩:=(aJ.hG ao).cC
  obtain⟨av,aI⟩:=wz aI
  have t2:=(l5.mp av).1
  refine bZ<|wpN.of<|hD.item A bL bH i x dV _ _ _ aE tU J.R.bI bN hit av nV m4 cW λdN aR cU iX eN nW nX m6=>e0 λG bZ=>?_
  obtain⟨di,ke,Bu⟩:=hD.cls _ _ nX
  refine bZ<|wpN.of<|II nW ke Bu<|wpN.of<|ht A _ ba cY bH x dN _ _ _ aE fp (J.step cW nW m6) (eN.a5 (az.r8 cW) (bt _)) λf' nu e7=>hT.go aE ao.bind e7 λb pM ao v3 bU dc Lg r6 iW kL cR=>?_
  have yT:=J.next qg cW nX r6 iW kL
  rw[show b=bU from cR] at ao
  rcases bU with _|_
  .exact⟨rest.length,gB _,v3,cY,pM,dc,Lg,rfl,i+1,rest,za,rfl,aI,t2,yT,ao⟩
  .refine b1.go aE (aJ.bind ao) kL λy q' ao rp gz o8 sI qH Jm oJ nj=>e0 λG bZ=>?_
   obtain⟨dm,ao⟩:=aJ.gj ao
   obtain⟨dz,dB,Y9,Bc⟩:=yT.nQ
   have Ky:=qH.2.1 _ _ Y9
   have HJ:=Bc.a5 qH.1 Jm
   have hsz:dz.size<=sizeLine:=by
    rw[<-e6,HJ.length]
    exact cm (Nat.le_of_lt dm) (by decide)
   refine bZ<|wpN.of<|wpAny_list_append_plain (hsz:=hsz) ⟨dB,oJ.bI.fix _ _ Ky⟩ λw6 YZ SX=>?_
   obtain⟨adt,SK⟩:=YZ
   exact⟨rest.length,gB _,_,cY,q',w6,sI,rfl,i+1,rest,za++[y],rfl,aI,t2,yT.push rJ qH Jm oJ Ky HJ nj SX SK,ao⟩
theorem OT{bu:az}{fL:Loc->Loc}{m:Str->Option Value}(bA:bG prog w h₁ own env ns bu U cA h1)(my:o.isFreed=false)(cN:P 0 o)
 (eY:env'.locals=h1.objs.size+1+1)(rR:h4.Ns env'.locals m)(eX:∀b,b<h1.objs.size+1+1->h4.get? b=((h1.push o).push (listOf #[] 0)).get? b)(p9:pO env env' ns ns' fL):
 ∃E1,j6 prog w h₁ env' ns' bu cA h1 h1.objs.size (h1.objs.size+1) P 0 [] E1 (fL U) cA h4:=by
 have sG:((h1.push o).push (listOf #[] 0)).objs.size=h1.objs.size+1+1:=by rw[i3,i3]
 have Gi:h4.get? (h1.objs.size+1)=some (listOf #[] 0):=by
  rw[eX _ (gB _),<-i3 h1 o];exact gA _ rfl
 have Gj:h4.get? h1.objs.size=some o:=by
  rw[eX _ (xA _),get?_push_ne (by rw[i3];exact gB _)];exact gA _ my
 have wC:∀b,b<h1.objs.size->h4.get? b=h1.get? b:=λb ag=>by
  rw[eX _ (Nat.lt_trans ag (xA _)),get?_push_ne (by rw[i3];exact Nat.lt_succ_of_lt ag),get?_push_ne ag]
 obtain⟨iB,Bx⟩:∃o,h4.get? (h1.objs.size+1+1)=some o:=by rw[<-eY];obtain⟨o,_,_,h,_⟩:=rR;exact⟨o,h⟩
 have qg:=az.rT (h:=h1) (bA.bI.free (bt _))
 have rJ:=az.rT (h:=h1) (bA.bI.free (gp _))
 have QX:=az.rT (h:=h1) (bA.bI.free (Nat.le_of_lt (xA _)))
 have Ft:∀c o,(bu.fG h1).role c=.fix o->c<h1.objs.size:=λc o e=>bA.bI.fG.1.lt (bQ.ne e)
 obtain⟨aF,xf⟩:=bA.bI.fG
 have Mw:bB prog w h₁ (bu.fG h1) cA h4:=aF.keep (λa ha _=>wC a (aF.lt ha)) λa ha=>by rw[wC a (aF.lt (bQ.ne ha))];exact aF.live a (bQ.ne ha)
 generalize h1.objs.size=aP at*
 have Mx:=Mw.ia (r:=.fix o) qg ⟨o,Gj⟩ (λ_ e=>nomatch e) (λcV e=>bQ.fix.inj e▸Gj)
 have Ho:=(az.ck (r:=.fix o) (Jj aP)).trans rJ
 have My:=Mx.ia (r:=.fix (listOf #[] 0)) Ho ⟨_,Gi⟩ (λ_ e=>nomatch e) (λcV e=>bQ.fix.inj e▸Gi)
 have Hn:=(az.ck (r:=.fix (listOf #[] 0)) (UE aP)).trans ((az.ck (r:=.fix o) (Jl aP)).trans QX)
 have Mz:=My.ia (r:=.U) Hn ⟨iB,Bx⟩ (λ_ e=>nomatch e) (λ_ e=>nomatch e)
 have T3:=(az.ho (n:=cA.next) (r:=.fix o) qg).trans (bt _) (az.ho (r:=.fix (listOf #[] 0)) Ho)
 have r7:=T3.trans (bt _) (az.ho (r:=.U) Hn)
 have wW:∀x c,env.cells.lookup x=some c->∃o,(bu.fG h1).role c=.fix o:=λx c aw=>by
  rcases bA.cells x c aw with⟨_,r,_⟩|⟨_,o,r⟩
  .obtain⟨o,_,q⟩:=bA.bI.H7 r;exact⟨o,q⟩
  .exact⟨o,az.SN r⟩
 refine⟨_,⟨Mz,eY▸az.c5,λx c aw=>.inr ⟨rfl,?_⟩,λx y c av bF=>bA.apart x y c (p9.sub x c av) (p9.sub y c bF),λx c aw=>?_,m,rR,λi v a3=>?_⟩,r7,bt _,⟨o,(az.ck (UD aP)).trans ((az.ck (UC aP)).trans az.c5),cN⟩,⟨#[],0,(az.ck (Jk aP)).trans az.c5,.nil⟩,Jj _,λx c aw=>?_⟩
 .obtain⟨cV,r⟩:=wW x c (p9.sub x c aw);exact⟨cV,r7.2.1 _ _ r⟩
 .obtain⟨lZ,cV,gs,ey⟩:=bA.nL x c (p9.sub x c aw)
  obtain⟨_,r⟩:=wW x c (p9.sub x c aw)
  exact⟨lZ,cV,(wC c (Ft _ _ r)).trans gs,ey⟩
 .obtain⟨ai,x,cK,av,jW,Br,lI,Sl⟩:=p9.cap U i v a3
  obtain⟨m,hm,f⟩:=bA.U
  obtain⟨y,ay,bF,aI,hs⟩:=f ai v cK
  rw[<-b9 (av.symm.trans bF)] at hs
  refine⟨x,ay,jW,(aI.a5 xf (bt _)).a5 r7.1 (bt _),.inr ⟨lI,?_⟩⟩
  rcases hs with⟨q,_⟩|⟨_,c,aw,cV,gs,ey⟩
  .exact nomatch Br.symm.trans q
  .obtain⟨_,r⟩:=wW x c aw
   exact⟨c,Sl.trans aw,cV,(wC c (Ft _ _ r)).trans gs,ey⟩
 .obtain⟨cV,r⟩:=wW x c (p9.sub x c aw)
  exact⟨λe=>bQ.no qg (e▸r),λe=>bQ.no rJ (e▸r)⟩
theorem z2{A:Around}{gU:List Expr}{scope:Scope}{pos:Pos}{eK:List (Str×Addr)}{ns':List Str}{ny:c4}{fL:Loc->Loc}{bind:J->Loc->Option Loc}{T:hB}{kH:c4}{aA:List J->St->Prop}
 {RR:Value->Addr->Result->Shared->Prop}
 (hit:bk prog w h₁ own env ns k (eval it env) ny)(ql:∀aA,pO env (compEnvC scope eK aA env) ns ns' fL)(mr:∀y∈scope.names,y.2≠.cell)(i8:scope.kind=.function)
 (ht:∀aA,lq prog w h₁ false (compEnvC scope eK aA env) ns' k t bind)(hT:∀aA,BOk prog w h₁ false (compEnvC scope eK aA env) ns' k (nt gU (compEnvC scope eK aA env)) T)(b1:∀aA,bk prog w h₁ false (compEnvC scope eK aA env) ns' k (eval ea (compEnvC scope eK aA env)) kH)
 (aE:eR A k)(ao:aJ (wm ny fL bind T kH U σ) aA)(R:bG prog w h₁ own env ns W U σ s.heap)
 (RT:∀acc a0,aA acc a0->∀b4 aR cU D aA iB items dB m,W.bJ D->W.bJ aA->W.le σ.next b4->σ.next<=a0.next->bG prog w h₁ own env ns b4 U a0 aR->b4.role D=.fix (listOf items dB)->bw prog w b4 a0.next acc items.toList->b4.role aA=.fix iB->aR.Ns aA m->RR (.ref D) aA (.ok .next) {s with heap:=aR,toks:=cU}):
 wpN (model prog w) A (eval it env) (λx bj=>wpN (model prog w) A (pyIter x) (λTK cZ=>wpN (model prog w) A (newList []) (λoM fy=>
  wpN (model prog w) A (newFunctionEnv scope env.globals eK [] env.qual none .none (some env)) (λcenv pC=>
   e8 (model prog w) A (.compStart (.ListComp ea [⟨t,it,gU,0⟩] scope pos) 0 TK oM {cenv with scope:=relabel scope env}) (RR oM cenv.locals) pC) E fy) E cZ) E bj) E s:=by
 refine hit.go aE ao.bind R λsrc cA ao bu iZ h1 cL bE ae bA bc=>?_
 obtain⟨items,a7,ao⟩:=(aJ.hG ao).cC
 refine wpN.of<|C0 (k:=k) (s:={s with heap:=h1,toks:=cL}) bA.bI bc a7 λo N P my iQ cN hD=>?_
 refine wpN.of<|j5<|wpN.of (wpAny_newFunctionEnv mr (λy bF=>absurd bF (hP)) (λh4 rR m7=>?_) i8)
 have sG:((h1.push o).push (listOf #[] 0)).objs.size=h1.objs.size+1+1:=by rw[i3,i3]
 show e8 _ _ (.compStart (.ListComp ea [⟨t,it,gU,0⟩] scope pos) 0 (.ref h1.objs.size) (.ref (h1.push o).objs.size) (compEnvC scope eK ((h1.push o).push (listOf #[] 0)).objs.size env)) (RR (.ref (h1.push o).objs.size) ((h1.push o).push (listOf #[] 0)).objs.size) _
 dsimp only at rR m7
 rw[i3,i3] at rR m7
 rw[sG,i3]
 obtain⟨E1,J⟩:=OT (env':=compEnvC scope eK (h1.objs.size+1+1) env) bA my cN rfl rR (λb ag=>(m7.2 b (d9 ag)).trans (get?_push_ne (by rw[i3,i3];exact ag))) (ql _)
 have d0:bu.role h1.objs.size=.free:=bA.bI.free (bt _)
 have nQ:bu.role (h1.objs.size+1)=.free:=bA.bI.free (gp _)
 have tM:bu.role (h1.objs.size+1+1)=.free:=bA.bI.free (Nat.le_of_lt (xA _))
 have xf:=bA.bI.fG.2
 obtain⟨dV,cW,m4⟩:=J.d0
 have aV:=λcf=>OU (pos:=pos) (it:=it) (scope:=scope) (s:=s) (R:=RR (.ref (h1.objs.size+1)) (h1.objs.size+1+1)) (tk2:=cf) (ht _) (hT _) (b1 _) aE hD (bc.a5 xf (bt _)) (hD.u1 _ _ _ iQ xf) (az.rT d0) (az.rT nQ)
  (λi acc bL ba bH h2 aR cU c J ag=>by
    obtain⟨b4,items,dB,iB,m,lN,dj,ij,kW,ni,hm⟩:=J.cC bA (Jl _) (Jk _) d0 nQ tM (λ_ e=>az.rT e) ag
    exact RT acc bH c b4 aR cU _ _ iB items dB m (az.JM bE nQ) (az.JM bE tM) (bE.trans ae lN) (cm ae J.fu) dj ij kW ni hm) J ao
 exact OP (aV _) (wpN.of<|hD.self A 0 dV _ _ _ (J.R.bI.fix _ _ cW) m4 (aV _))
theorem bG.x7{U:Loc}(R:bG prog w h₁ own env ns W U σ h)(ha:W.role D=.fix o)(aw:∀x c,env.cells.lookup x=some c->c≠D):
 bG prog w h₁ own env ns (W.aT D (.imm o)) U σ h/\W.e2 σ.next (W.aT D (.imm o)):=by
 obtain⟨yP,tq⟩:=R.bI.x7 ha
 have ne:∀b r,W.role b=r->(∀o,r≠.fix o)->(W.aT D (.imm o)).role b=r:=λb r e q=>by
  rw[az.ck]
  .exact e
  .rintro rfl;rw[ha] at e;exact q _ e.symm
 refine⟨⟨yP,ne _ _ R.l (λ_ q=>nomatch q),λx c av=>(R.cells x c av).imp (λq=>⟨q.1,ne _ _ q.2.1 (λ_ q=>nomatch q),q.2.2⟩) λ⟨q,iC,r⟩=>⟨q,iC,by rw[az.ck (aw x c av)];exact r⟩,R.apart,R.nL,?_⟩,tq⟩
 obtain⟨m,hm,f⟩:=R.U
 exact⟨m,hm,λi v a3=>by obtain⟨x,ay,av,aI,hs⟩:=f i v a3;exact⟨x,ay,av,aI.a5 tq (bt _),hs⟩⟩
theorem bG.drop{U:Loc}(R:bG prog w h₁ own env ns W U σ h)(ha:W.role D=.fix o)(aw:∀x c,env.cells.lookup x=some c->c≠D):
 bG prog w h₁ own env ns (W.aT D .free) U σ h/\W.e2 σ.next (W.aT D .free):=by
 obtain⟨yP,tq⟩:=R.bI.sA (W':=W.aT D .free) rfl λa=>by
  by_cases e:a=D
  .subst e;exact .inr ⟨.inr ⟨o,ha⟩,.inl az.c5⟩
  .exact .inl (az.ck e)
 have ne:∀b r,W.role b=r->(∀o,r≠.fix o)->(W.aT D .free).role b=r:=λb r e q=>by
  rw[az.ck]
  .exact e
  .rintro rfl;rw[ha] at e;exact q _ e.symm
 refine⟨⟨yP,ne _ _ R.l (λ_ q=>nomatch q),λx c av=>(R.cells x c av).imp (λq=>⟨q.1,ne _ _ q.2.1 (λ_ q=>nomatch q),q.2.2⟩) λ⟨q,iC,r⟩=>⟨q,iC,by rw[az.ck (aw x c av)];exact r⟩,R.apart,R.nL,?_⟩,tq⟩
 obtain⟨m,hm,f⟩:=R.U
 exact⟨m,hm,λi v a3=>by obtain⟨x,ay,av,aI,hs⟩:=f i v a3;exact⟨x,ay,av,aI.a5 tq (bt _),hs⟩⟩
theorem bG.toCell{U:Loc}(R:bG prog w h₁ own env ns W U σ h)(ha:W.role D=.free)(aG:∃o,h.get? D=some o)(av:CellAt prog w (W.eS σ.next D) (σ.next+1) h σ.next D x):
 bG prog w h₁ own env ns (W.eS σ.next D) U (σ.new x) h/\W.le σ.next (W.eS σ.next D):=
 have l:=az.pg (n:=σ.next) ha
 ⟨R.next (R.bI.alloc ha aG av) l (gp _) λ_ _=>rfl,l⟩
theorem bG.oR{U:Loc}(R:bG prog w h₁ true env ns W U σ h)(ha:W.role D=.fix o):∀x c,env.cells.lookup x=some c->c≠D:=λx c av=>by
 rcases R.cells x c av with⟨_,r,_⟩|⟨q,_⟩
 .rintro rfl;exact bQ.no ha r
 .cases q
section
variable{ea t it:Expr}{gU:List Expr}{scope:Scope}{pos:Pos}{eK:List (Str×Addr)}{ns':List Str}{ny:c4}{fL:Loc->Loc}{bind:J->Loc->Option Loc}{T:hB}{kH:c4}
theorem lB(hit:bk prog w h₁ true env ns k (eval it env) ny)(qn:closureFor scope env=pure eK)(ql:∀aA,pO env (compEnvC scope eK aA env) ns ns' fL)(mr:∀y∈scope.names,y.2≠.cell)(i8:scope.kind=.function)(mx:∀y∈scope.names,y.2=.local->scope.names.lookup y.1=some .local)
 (ht:∀aA,lq prog w h₁ false (compEnvC scope eK aA env) ns' k t bind)(hT:∀aA,BOk prog w h₁ false (compEnvC scope eK aA env) ns' k (nt gU (compEnvC scope eK aA env)) T)(b1:∀aA,bk prog w h₁ false (compEnvC scope eK aA env) ns' k (eval ea (compEnvC scope eK aA env)) kH)
 (hs:autoParam (∀x,foldedSetIterable it env x=pure x) vg._auto_1):
 bk prog w h₁ true env ns k (eval (.ListComp ea [⟨t,it,gU,0⟩] scope pos) env) (fM ny fL bind T kH):=by
 refine .of λA W U σ s Q E aE ao R=>?_
 rw[eval_ListComp]
 refine Dy (use:=none) rfl hs qn i8 mx (z2 (RR:=λoM aA=>wo (model prog w) A none Q oM aA) hit ql mr i8 ht hT b1 aE ao.bind R λacc bH aQ b4 aR cU D aA iB items dB m uG uF lN bC dj ij kW ni hm=>?_)
 refine⟨m,hm,λh4 m7=>?_⟩
 obtain⟨d',uu⟩:=dj.drop ni (dj.oR ni)
 have qi:=dj.bI.B8 ij hm
 have sz:(b4.aT aA .free).role D=.fix (listOf items dB):=by rw[az.ck qi];exact ij
 have yM:bB prog w h₁ (b4.aT aA .free) bH h4:=d'.bI.sameBut m7 (.inl az.c5)
 have e7:bG prog w h₁ true env ns (b4.aT aA .free) U bH h4:=d'.next yM az.le.refl (bt _) λa ha=>m7.2 a (by rintro rfl;rw[az.c5] at ha;exact nomatch ha)
 obtain⟨kL,xE⟩:=e7.x7 sz (e7.oR sz)
 exact aQ _ _ h4 cU (az.r9 (az.r9 lN uF) uG) bC kL (.bp az.c5 rfl rfl ((kW.a5 uu (bt _)).a5 xE (bt _)))
theorem Gk(hit:bk prog w h₁ true env ns k (eval it env) ny)(qn:closureFor scope env=pure eK)(ql:∀aA,pO env (compEnvC scope eK aA env) ns ns' fL)(mr:∀y∈scope.names,y.2≠.cell)(i8:scope.kind=.function)(mx:∀y∈scope.names,y.2=.local->scope.names.lookup y.1=some .local)
 (ht:∀aA,lq prog w h₁ false (compEnvC scope eK aA env) ns' k t bind)(hT:∀aA,BOk prog w h₁ false (compEnvC scope eK aA env) ns' k (nt gU (compEnvC scope eK aA env)) T)(b1:∀aA,bk prog w h₁ false (compEnvC scope eK aA env) ns' k (eval ea (compEnvC scope eK aA env)) kH)
 (hs:autoParam (∀x,foldedSetIterable it env x=pure x) vg._auto_1):
 bk prog w h₁ true env ns k (eval (.ListComp ea [⟨t,it,gU,0⟩] scope pos) env) (oV ny fL bind T kH):=by
 refine .of λA W U σ s Q E aE ao R=>?_
 rw[eval_ListComp]
 refine Dy (use:=none) rfl hs qn i8 mx (z2 (RR:=λoM aA=>wo (model prog w) A none Q oM aA) hit ql mr i8 ht hT b1 aE ao.bind R λacc bH aQ b4 aR cU D aA iB items dB m uG uF lN bC dj ij kW ni hm=>?_)
 refine⟨m,hm,λh4 m7=>?_⟩
 obtain⟨d',uu⟩:=dj.drop ni (dj.oR ni)
 have qi:=dj.bI.B8 ij hm
 have sz:(b4.aT aA .free).role D=.fix (listOf items dB):=by rw[az.ck qi];exact ij
 have yM:bB prog w h₁ (b4.aT aA .free) bH h4:=d'.bI.sameBut m7 (.inl az.c5)
 have e7:bG prog w h₁ true env ns (b4.aT aA .free) U bH h4:=d'.next yM az.le.refl (bt _) λa ha=>m7.2 a (by rintro rfl;rw[az.c5] at ha;exact nomatch ha)
 have H6:h4.get? D=some (listOf items dB):=e7.bI.fix _ _ sz
 obtain⟨kL,xE⟩:=e7.drop sz (e7.oR sz)
 have Gw:((b4.aT aA .free).aT D .free).role D=.free:=az.c5
 have Bc:=(kW.a5 uu (bt _)).a5 xE (bt _)
 obtain⟨oJ,qH⟩:=kL.toCell (x:=.list acc) Gw ⟨_,H6⟩ (.list H6 (Bc.a5 (az.pg (n:=bH.next) Gw).1 (gp _)))
 have ew:(((b4.aT aA .free).aT D .free).eS bH.next D).al bH.next=D:=by show(if bH.next=bH.next then _ else _)=_;rw[if_pos rfl]
 have q:aN prog w (((b4.aT aA .free).aT D .free).eS bH.next D) (bH.next+1) (.ref bH.next) (.ref ((((b4.aT aA .free).aT D .free).eS bH.next D).al bH.next)):=.ref (gB _)
 rw[ew] at q
 exact aQ _ _ h4 cU ((az.r9 (az.r9 lN uF) uG).trans bC qH) (cm bC (gp _)) oJ q
theorem KP{y:Str}(hit:bk prog w h₁ true env ns k (eval it env) ny)(qn:closureFor scope env=pure eK)(ql:∀aA,pO env (compEnvC scope eK aA env) ns ns' fL)(mr:∀y∈scope.names,y.2≠.cell)(i8:scope.kind=.function)(mx:∀y∈scope.names,y.2=.local->scope.names.lookup y.1=some .local)
 (ht:∀aA,lq prog w h₁ false (compEnvC scope eK aA env) ns' k t bind)(hT:∀aA,BOk prog w h₁ false (compEnvC scope eK aA env) ns' k (nt gU (compEnvC scope eK aA env)) T)(b1:∀aA,bk prog w h₁ false (compEnvC scope eK aA env) ns' k (eval ea (compEnvC scope eK aA env)) kH)
 (bF:ns[i]? =some y)(aW:ns.Nodup)(hk:oI true env y)(S3:swapsWith (.ListComp ea [⟨t,it,gU,0⟩] scope pos) (some (.Name y uU)) aaW.line env=pure true)(hf:autoParam (env.scope.kind=.function) aL._auto_1)
 (hs:autoParam (∀x,foldedSetIterable it env x=pure x) vg._auto_1):
 SOk prog w h₁ env ns k (exec (.Assign [.Name y uU] (.ListComp ea [⟨t,it,gU,0⟩] scope pos) aaW) env) (cc i (fM ny fL bind T kH)):=by
 refine .of λA W U σ s Q E aE ao R=>?_
 rw[exec_Assign_Name_used _ _ _ _ S3]
 refine a6 (ed (a6 ?_))
 show wpN _ A (do let _<-comprehension (.ListComp ea [⟨t,it,gU,0⟩] scope pos) scope env _ (newList []) false (eval it env) (some (assign (.Name y uU) env))) _ _ s
 refine a6 (cF (Dy (use:=some (assign (.Name y uU) env)) (Q:=λ_ aY=>Q .next aY) rfl hs qn i8 mx
  (z2 (RR:=λoM aA=>wo (model prog w) A (some (assign (.Name y uU) env)) (λ_ aY=>Q .next aY) oM aA) hit ql mr i8 ht hT b1 aE (aJ.bind (aJ.bind ao)) R λacc bH aQ b4 aR cU D aA iB items dB m uG uF lN bC dj ij kW ni hm=>?_)) (λ_ aY b5=>cz (cz b5)) λ_ _ e=>e)
 have qi:=dj.bI.B8 ij hm
 obtain⟨d',uu⟩:=dj.x7 ij (dj.oR ij)
 have C3:(b4.aT D (.imm (listOf items dB))).role aA=.fix iB:=by rw[az.ck (Ne.symm qi)];exact ni
 show wpN _ A (assign (.Name y uU) env (.ref D)) _ _ _
 refine wpN.of<|wpAny_assign_Name (d'.storeName (s:={s with heap:=aR,toks:=cU}) bF aW (.bp az.c5 rfl rfl (kW.a5 uu (bt _))) hk hf λh4 pD e7=>?_)
 refine⟨m,hm.at' λo aH=>?_,λf' rW=>?_⟩
 .have z:=dj.bI.fix _ _ ni
  rw[aH] at z;cases z
  exact e7.bI.fix _ _ C3
 .obtain⟨kL,xE⟩:=e7.drop C3 (e7.oR C3)
  have Ml:bB prog w h₁ ((b4.aT D (.imm (listOf items dB))).aT aA .free) bH f':=kL.bI.sameBut rW (.inl az.c5)
  have oJ:=kL.next Ml az.le.refl (bt _) λa ha=>rW.2 a (by rintro rfl;rw[az.c5] at ha;exact nomatch ha)
  exact aQ _ _ f' pD (az.r9 (az.r9 lN uG) uF) bC oJ trivial
end
theorem Fx{kindOf:Str->Option NameKind}:∀{binds:List (Str×Value)} {m:Str->Option Value} {x:Str},x∉binds.map (·.1)->bindL kindOf binds m x=m x
 |[],_,_,_=>rfl
 |(n,v)::r,m,x,h=>by
  simp only[iH,fj,not_or] at h
  unfold bindL
  rw[Fx h.2]
  split
  .show(if x=n then some v else m x)=m x
   rw[if_neg h.1]
  .rfl
theorem Fv{kindOf:Str->Option NameKind}:∀{binds:List (Str×Value)} {m:Str->Option Value} {x:Str},x∉binds.map (·.1)->bindC kindOf binds m x=m x
 |[],_,_,_=>rfl
 |(n,v)::r,m,x,h=>by
  simp only[iH,fj,not_or] at h
  unfold bindC
  rw[Fv h.2]
  split
  .rfl
  .show(if x=n then some v else m x)=m x
   rw[if_neg h.1]
theorem Fw{kindOf:Str->Option NameKind}:∀{xs:List Str} {vs:List Value} {m:Str->Option Value} {i:Nat} {x:Str} {v:Value},xs.Nodup->xs[i]? =some x->vs[i]? =some v->kindOf x=some .local->bindL kindOf (xs.zip vs) m x=some v
 |[],_,_,_,_,_,_,h,_,_=>by simp at h
 |_::_,[],_,_,_,_,_,_,h,_=>by simp at h
 |y::iF,u::cI,m,0,x,v,aW,av,a3,hk=>by
  simp at av a3;subst av a3
  rw[jj] at aW
  rw[List.zip_cons_cons];unfold bindL
  rw[Fx (λh=>aW.1 (by
   obtain⟨p,hp,e⟩:=dI.mp h
   have:=List.of_mem_zip (a:=p.1) (b:=p.2) hp
   rw[<-e];exact this.1)),if_pos hk]
  simp
 |y::iF,u::cI,m,i+1,x,v,aW,av,a3,hk=>by
  rw[jj] at aW
  rw[List.zip_cons_cons];unfold bindL
  exact Fw aW.2 (by simpa using av) (by simpa using a3) hk
theorem Fu{kindOf:Str->Option NameKind}:∀{xs:List Str} {vs:List Value} {m:Str->Option Value} {i:Nat} {x:Str} {v:Value},xs.Nodup->xs[i]? =some x->vs[i]? =some v->kindOf x≠some .local->bindC kindOf (xs.zip vs) m x=some v
 |[],_,_,_,_,_,_,h,_,_=>by simp at h
 |_::_,[],_,_,_,_,_,_,h,_=>by simp at h
 |y::iF,u::cI,m,0,x,v,aW,av,a3,hk=>by
  simp at av a3;subst av a3
  rw[jj] at aW
  rw[List.zip_cons_cons];unfold bindC
  rw[Fv (λh=>aW.1 (by
   obtain⟨p,hp,e⟩:=dI.mp h
   have:=List.of_mem_zip (a:=p.1) (b:=p.2) hp
   rw[<-e];exact this.1)),if_neg hk]
  simp
 |y::iF,u::cI,m,i+1,x,v,aW,av,a3,hk=>by
  rw[jj] at aW
  rw[List.zip_cons_cons];unfold bindC
  exact Fu aW.2 (by simpa using av) (by simpa using a3) hk
noncomputable def az.qL(W:az)(as:List Addr):az:={W with role:=λa=>if a∈as then .U else W.role a}
theorem Oo{eI:List Value}{h9:List (Str×Addr)}{M:Str->Option Value}{OY:Str->Option Value}(R:bB prog w h₁ W σ h)(ha:bw prog w W σ.next args eI)(dm:args.length=xs.length)(jU:∃iF,ns=xs++iF)(lJ:ns.Nodup)(qp:(callEnvC fd aV fa).cells=h9)
 (e':h.objs.size<=aV)(t6:h2.Ns aV M)(lI:∀b o,h.get? b=some o->h2.get? b=some o)(qC:∀x c,h9.lookup x=some c->h2.IsCell c (OY x))(rZ:h9.Pairwise λp q=>p.2≠q.2)(ud:∀x c,(x,c)∈h9->aV<c)
 (slot:∀(i:Nat) x gc,x∈xs->xs[i]? =some x->eI[i]? =some gc->Slot (callEnvC fd aV fa) h2 M x gc):
 ∃bL,W.le σ.next bL/\bG prog w h₁ true (callEnvC fd aV fa) ns bL (args.map some++List.replicate m none) σ h2:=by
 have abO:∀x y c,h9.lookup x=some c->h9.lookup y=some c->x=y:=λx y c av bF=>by
  have h1:=mem_of_lookup av
  have h2:=mem_of_lookup bF
  clear qp qC ud av bF
  induction h9 with
  |nil=>cases h1
  |cons p r aZ=>
   rw[List.pairwise_cons] at rZ
   rcases fj.mp h1 with a9|o6<;>rcases fj.mp h2 with a7|w5
   .rw[<-a9] at a7;cases a7;rfl
   .have:=rZ.1 _ w5;rw[<-a9] at this;exact absurd rfl this
   .have:=rZ.1 _ o6;rw[<-a7] at this;exact absurd rfl this
   .exact aZ rZ.2 o6 w5
 have tQ:∀a,a∈aV::h9.map (·.2)->W.role a=.free:=λa h=>by
  rcases fj.mp h with rfl|h
  .exact R.free e'
  .obtain⟨p,hp,rfl⟩:=dI.mp h
   exact R.free (cm e' (Nat.le_of_lt (ud p.1 p.2 hp)))
 have iV:∀p∈h9,h9.lookup p.1=some p.2\/∃c,h9.lookup p.1=some c:=λp hp=>by
  cases q:h9.lookup p.1 with
  |some c=>exact .inr ⟨c,rfl⟩
  |none=>rw[List.lookup_eq_none_iff] at q;simpa using q p hp
 let as:List Addr:=aV::(h9.filter λp=>h9.lookup p.1==some p.2).map (·.2)
 have tA:∀a∈as,a∈aV::h9.map (·.2):=λa h=>by
  rcases fj.mp h with rfl|h
  .exact .head _
  .obtain⟨p,hp,rfl⟩:=dI.mp h
   exact .tail _ (dI.mpr ⟨p,(gZ.mp hp).1,rfl⟩)
 have Om:∀x c,h9.lookup x=some c->c∈as:=λx c aw=>.tail _ (dI.mpr ⟨(x,c),gZ.mpr ⟨mem_of_lookup aw,by simp[aw]⟩,rfl⟩)
 have sC:∀a,a∈as->(W.qL as).role a=.U:=λa h=>by simp[az.qL,h]
 have rn:∀a,a∉as->(W.qL as).role a=W.role a:=λa h=>by simp[az.qL,h]
 have ja:W.le σ.next (W.qL as):=by
  refine⟨⟨λa iC e=>?_,λ_ _=>rfl⟩,λa iC e=>?_,λa e=>?_⟩
  .rw[rn a λh=>by rw[tQ a (tA a h)] at e;exact nomatch e];exact e
  .rw[rn a λh=>by rw[tQ a (tA a h)] at e;exact nomatch e];exact e
  .rw[rn a λh=>by rw[tQ a (tA a h)] at e;exact nomatch e];exact e
 have bZ:∀a r,(W.qL as).role a=r->r≠.U->W.role a=r:=λa r e q=>by
  by_cases h:a∈as
  .rw[sC a h] at e;exact absurd e.symm q
  .rw[rn a h] at e;exact e
 have vY:=R.kV lI
 have cx:bB prog w h₁ (W.qL as) σ h2:=by
  refine⟨R.nz,λa iC e=>ja.1.1 a iC (R.base a iC e),λa iC e=>vY.imm a iC (bZ _ _ e λq=>nomatch q),λa iC e=>vY.fix a iC (bZ _ _ e λq=>nomatch q),λa e=>?_,λc x aw=>?_,R.top⟩
  .by_cases h:a∈as
   .rcases fj.mp h with rfl|h
    .obtain⟨o,_,_,h,_⟩:=t6;exact⟨o,h⟩
    .obtain⟨p,hp,rfl⟩:=dI.mp h
     have aG:=(gZ.mp hp).2
     obtain⟨o,h,_⟩:=qC p.1 p.2 (by simpa using aG)
     exact⟨o,h⟩
   .rw[rn a h] at e;exact vY.live a e
  .obtain⟨r,q⟩:=vY.cell c x aw
   have fF:W.al c∉as:=λh=>by rw[tQ _ (tA _ h)] at r;exact nomatch r
   refine⟨(rn _ fF).trans r,q.a5 ja.1 (bt _) rfl λd aB=>⟨(rn d λh=>by rw[tQ _ (tA _ h)] at aB;exact nomatch aB).trans aB,rfl⟩⟩
 refine⟨_,ja,cx,sC _ (.head _),λx c aw=>?_,λx y c aw=>?_,λx c aw=>?_,_,t6,λi u bM=>?_⟩
 .rw[qp] at aw
  exact .inl ⟨rfl,sC _ (Om x c aw),Nat.ne_of_gt (ud x c (mem_of_lookup aw))⟩
 .rw[qp] at aw⊢;exact abO x y c aw
 .rw[qp] at aw;exact⟨_,qC x c aw⟩
 .obtain⟨x,gc,av,qA,n6,aW,r,_⟩:=Fc ha dm jU lJ bM
  exact⟨x,gc,aW,r.a5 ja.1 (bt _),slot i x gc av qA n6⟩
theorem wG{fa:Addr}(B:bP K h₁)(aH:h₁.get? fa=some o)(aB:o.data=.func fd)(jT:h₁.CodeRec fd.code fd.qualname)(mq:fd.body=.stmts body)
 (nZ:∀args:List Value,args.length=xs.length->bindArgs fd ⟨args,[]⟩=pure (xs.zip args))(qm:fd.closure=[])(jU:∃iF,ns=xs++iF)(lJ:ns.Nodup)(n4:∀x∈xs,fd.scope.names.lookup x=some .local\/fd.scope.names.lookup x=some .cell)
 (ag:∀aV,SOk prog w h₁ (callEnvC fd aV fa) ns k (execs body (callEnvC fd aV fa)) D)(mu:autoParam (fd.scope.isCoroutine=false) aL._auto_1)(mv:autoParam (fd.scope.isGenerator=false) aL._auto_1)(hk:autoParam (fd.scope.kind=.function) aL._auto_1):
 OpOk prog w h₁ (k+1) (λvs=>call (.ref fa) vs) (er D xs.length m):=by
 refine .of λA W σ args eI s Q E aE aX R ha=>?_
 obtain⟨dm,aX⟩:=aJ.gj aX
 have pa:eI.length=xs.length:=ha.length.trans dm
 have t':xs.Nodup:=by obtain⟨iF,e⟩:=jU;rw[e] at lJ;exact(List.nodup_append.mp lJ).1
 have ua:(xs.zip eI).map (·.1)=xs:=List.map_fst_zip (dR pa.symm)
 refine yq (OM aE.IK (R.old _ _ aH) aB (B.nolimit.keeps R.old) (jT.keeps R.old) mq (nZ eI pa) qm (λp hp=>?_) (λk8 Mj=>?_) mu mv hk)
 .rcases n4 p.1 (ua▸dI.mpr ⟨p,hp,rfl⟩) with q|q
  .exact .inl q
  .exact .inr ⟨q,cellsFrom_some _ _ _ (.inl q)⟩
 obtain⟨⟨⟨h2,tk2,es⟩,t6,lI,_⟩,qC,rZ,ud⟩:=Mj
 rw[es] at t6 lI qC⊢
 obtain⟨bL,ja,yQ⟩:=Oo (m:=m) R ha dm jU lJ rfl (bt _) t6 lI qC rZ ud λi x gc av qA n6=>by
  rcases n4 _ av with q|q
  .exact .inl ⟨q,Fw t' qA n6 q⟩
  .obtain⟨c,aw⟩:=Option.isSome_iff_exists.mp (cellsFrom_some (x:=x) fd.scope.names (s.heap.objs.size+1) [] (.inl q))
   refine .inr ⟨.inl q,c,aw,?_⟩
   have z:=qC _ _ aw
   rw[Fu t' qA n6 (by show fd.scope.names.lookup x≠_;rw[q];exactλe=>nomatch e)] at z
   exact z
 refine(ag s.heap.objs.size).go (s:={s with heap:=h2,toks:=tk2}) aE.F6 (aJ.bind aX) yQ λf p aX b4 o2 aR cU cY bC dj dF=>?_
 obtain⟨nB,mQ,yI,yJ⟩:=dj.bI.gi σ.next
 have uq:W.le σ.next (b4.gi σ.next p.2 aR):=⟨(ja.1.trans (bt _) cY.1).trans bC mQ,λa o e=>yI a o (cY.2.1 a o (ja.2.1 a o e)),λa e=>yJ a (cY.2.2 a (ja.2.2 a e))⟩
 revert aX
 refine ll.sq dF (λaX=>?_) (λaX=>False.elim aX) (λaX=>False.elim aX) (λu gc C6 aX=>?_)
 .exact dg.to aX _ _ aR cU uq bC nB .none
 .exact dg.to aX _ _ aR cU uq bC nB (He dj.bI C6)
theorem bw.Lq(h:bw prog w W n [a,b] bK):∃br bU,bK=[br,bU]/\aN prog w W n a br/\aN prog w W n b bU:=by
 cases h with
 |cons h1 h=>cases h with
  |cons h2 h=>cases h;exact⟨_,_,rfl,h1,h2⟩
noncomputable def lK(g:Int->Int->Option J):b3
 |[.int a,.int b],σ=>(g a b).map λv=>(v,σ)
 |_,_=>none
theorem lV
 (h:∀(A:Around) (W:az) (n:Nat) a b t u v (s:Shared) (Q E:Value->Shared->Prop),eR A k->g a b=some v->(∀ay cP,aN prog w W n v ay->Q ay {s with toks:=cP})->wpAny (model prog w) A (f (.int a t) (.int b u)) Q E s):
 OpOk prog w h₁ k (eV f) (lK g):=by
 refine .fI λW σ a br r cu bT aI=>.int (λa=>a::r) (λa=>a::cu) bT λi t=>.more (λr=>_::r) (λr=>_::r) aI λb bU q dx cR b5=>.int (λb=>_::b::q) (λb=>_::b::dx) cR λai u=>.end (λq=>_::_::q) (λq=>_::_::q) b5 λA s Q E aE aX R=>?_
 obtain⟨v,e,a3⟩:=aX.map.cC
 exact wpN.of (h A W _ i ai t u v s Q E aE e λ_ cf r=>a3.at R r cf)
noncomputable def ku:b3:=lK λa b=>some (.int (a-b))
noncomputable def lR:b3:=lK λa b=>if a.natAbs<2^62 then some (.int (a*b)) else none
noncomputable def tP:b3:=lK λa b=>if 0<b/\b<2^62 then some (.int (a.fdiv b)) else none
noncomputable def hJ:b3:=lK λa b=>if b≠0 then some (.int (a.fmod b)) else none
noncomputable def uX:b3:=lK λa b=>if 0<=b/\b<=1000/\a.natAbs<2^62 then some (.int (a*2^b.toNat)) else none
noncomputable def Df:b3:=lK λa b=>if 0<=b then some (.int (a.fdiv (2^b.toNat))) else none
noncomputable def CT:b3:=lK λa b=>some (.int (Builtin.bitOr a b))
noncomputable def jX:b3:=lK λa b=>some (.bool (decide (a<b)))
noncomputable def qI:b3:=lK λa b=>some (.bool (decide (a<=b)))
noncomputable def jw:b3:=lK λa b=>some (.bool (decide (b<a)))
noncomputable def A9:b3:=lK λa b=>some (.bool (decide (b<=a)))
theorem xW:OpOk prog w h₁ k (eV (binaryOp .Sub)) ku:=lV λA W n a b t u v s Q E aE aU aQ=>by cases aU;exact sub_int (aQ _ _ (.int _ _))
theorem JF:OpOk prog w h₁ k (eV (inplaceOp .Sub)) ku:=lV λA W n a b t u v s Q E aE aU aQ=>by cases aU;exact isub_int (aQ _ _ (.int _ _))
theorem uI:OpOk prog w h₁ k (eV (binaryOp .Mult)) lR:=lV λA W n a b t u v s Q E aE aU aQ=>by
 split at aU
 .rename_i h
  cases aU
  have ag:Builtin.Int.intBits a<=64:=intBits_le_64 (by omega) (by omega)
  exact mul_int (aQ _ _ (.int _ _)) (.of_left ag)
 .cases aU
theorem JC:OpOk prog w h₁ k (eV (binaryOp .FloorDiv)) tP:=lV λA W n a b t u v s Q E aE aU aQ=>by
 split at aU
 .rename_i h
  cases aU
  refine floordiv_int (by exact aC.WJ h) (aQ _ _ (.int _ _)) (.inl ?_)
  have adp:b.natAbs.log2<62:=by
   have:b.natAbs<2^62:=by omega
   exact(Nat.log2_lt (by omega)).mpr this
  unfold Builtin.divisionGoesByPylong
  have aB:(decide ((if b==0 then 0 else b.natAbs.log2/ 30+1)>300))=false:=by
   apply decide_eq_false
   split<;>omega
  simp only[aB,Bool.false_and]
 .cases aU
theorem oj:OpOk prog w h₁ k (eV (binaryOp .Mod)) hJ:=lV λA W n a b t u v s Q E aE aU aQ=>by
 split at aU
 .rename_i h
  cases aU
  exact mod_int' h (aQ _ _ (.int _ _))
 .cases aU
theorem JG:OpOk prog w h₁ k (eV (binaryOp .LShift)) uX:=lV λA W n a b t u v s Q E aE aU aQ=>by
 split at aU
 .rename_i h
  cases aU
  exact lshift_int_small h.1 (by exact aC.Yg h) (by omega) (aQ _ _ (.int _ _))
 .cases aU
theorem Vc:OpOk prog w h₁ k (eV (binaryOp .RShift)) Df:=lV λA W n a b t u v s Q E aE aU aQ=>by
 split at aU
 .rename_i h
  cases aU
  exact rshift_int h (aQ _ _ (.int _ _))
 .cases aU
theorem Vb:OpOk prog w h₁ k (eV (binaryOp .BitOr)) CT:=lV λA W n a b t u v s Q E aE aU aQ=>by cases aU;exact or_int (aQ _ _ (.int _ _))
theorem qV:OpOk prog w h₁ k (eV (compareOp .Lt)) jX:=lV λA W n a b t u v s Q E aE aU aQ=>by cases aU;exact lt_int (aQ _ s.toks (.bool _))
theorem CA:OpOk prog w h₁ k (eV (compareOp .LtE)) qI:=lV λA W n a b t u v s Q E aE aU aQ=>by cases aU;exact le_int (aQ _ s.toks (.bool _))
theorem qT:OpOk prog w h₁ k (eV (compareOp .Gt)) jw:=lV λA W n a b t u v s Q E aE aU aQ=>by cases aU;exact gt_int (aQ _ s.toks (.bool _))
theorem U7:OpOk prog w h₁ k (eV (compareOp .GtE)) A9:=lV λA W n a b t u v s Q E aE aU aQ=>by cases aU;exact ge_int (aQ _ s.toks (.bool _))
noncomputable def cM:b3
 |[.int a,.int b],σ=>some (.int (a+b),σ)
 |[.bytes a,.bytes b],σ=>if a.length+b.length<=1000000 then some (.bytes (a++b),σ) else none
 |[.bp a,.bp b],σ=>if a.length+b.length<=1000000 then some (.bp (a++b),σ) else none
 |[.bo a,.bo b],σ=>if a.length+b.length<=1000000 then some (.bo (a++b),σ) else none
 |_,_=>none
noncomputable def nR:c4:=λ_ _=>none
noncomputable def ml:ct:=λ_ _=>none
theorem Ac:bk prog w h₁ own env ns k t nR:=λA W U σ v a0 s Q E aE ao R aQ=>nomatch ao
theorem yc:SOk prog w h₁ env ns k t ml:=λA W U σ f l a0 s Q E aE ao R aQ=>nomatch ao
theorem bB.new(R:bB prog w h₁ W σ h)(o:Obj)(hf:o.isFreed=false):
 bB prog w h₁ (W.aT h.objs.size (.imm o)) σ (h.push o)/\W.le σ.next (W.aT h.objs.size (.imm o)):=by
 have dS:=R.free (bt h.objs.size)
 exact⟨(R.push o).ia dS ⟨o,gA _ hf⟩ (λcV e=>by cases e;exact gA _ hf) (λcV e=>nomatch e),az.ho dS⟩
theorem bB.UM(R:bB prog w h₁ W σ h)(o:Obj)(x:df)(hf:o.isFreed=false)(av:CellAt prog w (W.eS σ.next h.objs.size) (σ.next+1) (h.push o) σ.next h.objs.size x):
 bB prog w h₁ (W.eS σ.next h.objs.size) (σ.new x) (h.push o)/\W.le σ.next (W.eS σ.next h.objs.size)/\aN prog w (W.eS σ.next h.objs.size) (σ.next+1) (.ref σ.next) (.ref h.objs.size):=by
 have dS:=R.free (bt h.objs.size)
 have ew:(W.eS σ.next h.objs.size).al σ.next=h.objs.size:=by show(if σ.next=σ.next then _ else _)=_;rw[if_pos rfl]
 have q:aN prog w (W.eS σ.next h.objs.size) (σ.next+1) (.ref σ.next) (.ref ((W.eS σ.next h.objs.size).al σ.next)):=.ref (gB _)
 rw[ew] at q
 exact⟨(R.push o).alloc dS ⟨o,gA _ hf⟩ av,az.pg dS,q⟩
noncomputable def ff:J->St->Option (List J)
 |.bp vs,_=>some vs
 |.ref c,σ=>match σ.cells c with
  |some (.list vs)=>some vs
  |_=>none
 |_,_=>none
theorem hq(R:bB prog w h₁ W σ h)(a3:aN prog w W σ.next src ay)(hs:ff src σ=some vs):
 ∃a items,ay=.ref a/\h.IsList a items/\bw prog w W σ.next vs items.toList:=
 a3.abR (λv=>ff v σ) (λay=>∃a items,ay=.ref a/\h.IsList a items/\bw prog w W σ.next vs items.toList) hs
  (λ_ a o i m bc bN dF q e=>⟨a,i,rfl,⟨_,R.imm _ _ bc,bN,_,dF⟩,b9 e▸q⟩)
  λc _ e=>by obtain⟨i,m,g,q⟩:=(R.cell c _ (df.xq e)).2.bf;exact⟨_,i,rfl,⟨_,g,rfl,_,rfl⟩,q⟩
theorem aN.ky(r:aN prog w W n (.bo vs) ay)(R:bB prog w h₁ W σ h):∃a items m,ay=.ref a/\W.role a=.imm (u' items m)/\IsT h a items m/\bw prog w W n vs items.toList:=by
 obtain⟨_,_,_,bc,aI,e⟩:=r.bf
 exact⟨_,_,_,e,bc,R.imm _ _ bc,aI⟩
theorem ML(R:bB prog w h₁ W σ s.heap)(bT:aN prog w W σ.next (.bp a) br)(cR:aN prog w W σ.next (.bp b) bU)(aG:a.length+b.length<=1000000)
 (aQ:dg prog w h₁ W σ s Q (.bp (a++b)) σ):wpAny (model prog w) A (binaryOp .Add br bU) Q E s:=by
 obtain⟨l,items,rfl,⟨o,aH,aw,n,aB⟩,cq⟩:=hq R bT rfl
 obtain⟨ba,eb,rfl,⟨dV,qu,o',aK,tX⟩,cg⟩:=hq R cR rfl
 have e:items.size+eb.size<=sizeLine:=by
  have a9:=cq.length;have a7:=cg.length
  rw[e6] at a9 a7
  rw[a9,a7];unfold sizeLine;omega
 rcases o with⟨cls,mg,data,lX⟩
 rcases dV with⟨FO,z7,data2,Dh⟩
 cases aw;cases aB;cases o';cases tX
 refine concat_meets ⟨_,aH,rfl⟩ ⟨_,qu,rfl⟩ noFill_list_add seq_list_add PySem.F.slot_list_add PySem.F.entry_list_add (PySem.F.args_list_add_2 _ _) (list_addW l ba items eb n aK mg z7 lX Dh e) ⟨aH,qu,?_⟩
 obtain⟨cx,ba⟩:=R.new {cls:=Value.type "list",data:=Data.seq (items++eb)} rfl
 exact aQ _ _ _ _ ba (bt _) cx (.bp (az.c5) rfl rfl (by rw[Array.toList_append];exact(cq.append cg).a5 ba.1 (bt _)))
theorem Jv{items:Array Value}(q:bw prog w W n a items.toList)(c:items.isEmpty=true):a=[]:=by
 have e:=q.length
 rw[e6,Array.isEmpty_iff_size_eq_zero.mp c] at e
 exact List.length_eq_zero_iff.mp e.symm
theorem MM(R:bB prog w h₁ W σ s.heap)(bT:aN prog w W σ.next (.bo a) br)(cR:aN prog w W σ.next (.bo b) bU)(aG:a.length+b.length<=1000000)
 (aQ:dg prog w h₁ W σ s Q (.bo (a++b)) σ):wpAny (model prog w) A (binaryOp .Add br bU) Q E s:=by
 obtain⟨l,items,n,rfl,KD,qh,cq⟩:=bT.ky R
 obtain⟨ba,eb,aK,rfl,sD,lD,cg⟩:=cR.ky R
 by_cases mV:items.isEmpty=true
 .rw[Jv cq mV,List.nil_append] at aQ
  exact concat_meets ⟨_,qh,rfl⟩ ⟨_,lD,rfl⟩ noFill_tuple_add seq_tuple_add PySem.F.slot_tuple_add PySem.F.entry_tuple_add (PySem.F.args_tuple_add_2 _ _) (AutoSeq1.tuple___add___tuple_tuple_0 l items n ba eb aK mV) ⟨qh,lD,aQ.at R cR s.toks⟩
 by_cases p7:eb.isEmpty=true
 .rw[Jv cg p7,List.append_nil] at aQ
  exact concat_meets ⟨_,qh,rfl⟩ ⟨_,lD,rfl⟩ noFill_tuple_add seq_tuple_add PySem.F.slot_tuple_add PySem.F.entry_tuple_add (PySem.F.args_tuple_add_2 _ _) (AutoSeq1.tuple___add___tuple_tuple_1 l items n ba eb aK mV p7) ⟨qh,lD,aQ.at R bT s.toks⟩
 refine P.add_tuple qh lD mV p7 ?_ (by
  have a9:=cq.length;have a7:=cg.length
  rw[e6] at a9 a7
  rw[a9,a7];unfold sizeLine;omega)
 obtain⟨cx,ba⟩:=R.new {cls:=Value.type "tuple",data:=Data.seq (items++eb)} rfl
 exact aQ _ _ _ s.toks ba (bt _) cx (.bo (k:=0) (az.c5) (by rw[Array.toList_append];exact(cq.append cg).a5 ba.1 (bt _)))
theorem fg:OpOk prog w h₁ k (eV (binaryOp .Add)) cM:=by
 refine .fI λW σ a br r cu bT aI=>.add (λa=>a::r) (λa=>a::cu) bT (λi t=>?_) (λx t=>?_) (λxs br bT=>?_) (λxs br bT=>?_)
 .refine .more (λr=>_::r) (λr=>_::r) aI λb bU q dx cR b5=>.int (λb=>_::b::q) (λb=>_::b::dx) cR λai u=>.end (λq=>_::_::q) (λq=>_::_::q) b5 λA s Q E aE aX R=>wpN.of ?_
  exact add_int (dg.at aX R (.int _ _) _)
 .refine .more (λr=>_::r) (λr=>_::r) aI λb bU q dx cR b5=>.bytes (λb=>_::b::q) (λb=>_::b::dx) cR λai u=>.end (λq=>_::_::q) (λq=>_::_::q) b5 λA s Q E aE aX R=>wpN.of ?_
  obtain⟨aG,aX⟩:=aJ.gj aX
  exact bytes_add_K (by rw[List.size_toArray,List.size_toArray];exact aC.Vm aG) rfl λdQ kj=>dg.at aX R (.bytes _ _) _
 .refine .more (λr=>_::r) (λr=>_::r) aI λb bU q dx cR b5=>.bo (λb=>_::b::q) (λb=>_::b::dx) cR λiF bU cR=>.end (λq=>_::_::q) (λq=>_::_::q) b5 λA s Q E aE aX R=>wpN.of ?_
  obtain⟨aG,aX⟩:=aJ.gj aX
  have aQ:dg prog w h₁ W σ s Q (.bo (xs++iF)) σ:=aX
  exact MM R bT cR aG aQ
 .refine .more (λr=>_::r) (λr=>_::r) aI λb bU q dx cR b5=>.bp (λb=>_::b::q) (λb=>_::b::dx) cR λiF bU cR=>.end (λq=>_::_::q) (λq=>_::_::q) b5 λA s Q E aE aX R=>wpN.of ?_
  obtain⟨aG,aX⟩:=aJ.gj aX
  exact ML R bT cR aG aX
noncomputable def k4:b3
 |[.int a],σ=>some (.int (-a),σ)
 |_,_=>none
noncomputable def j4(F:b3)(D:c4):c4:=λU σ=>(D U σ).bind λr=>F [r.1] r.2
theorem rH(h:bk prog w h₁ own env ns k (eval x env) D)(g':OpOk prog w h₁ k (oA (unaryOp op)) F):bk prog w h₁ own env ns k (eval (.UnaryOp op x pos) env) (j4 F D):=by
 intro A W U σ v a0 s Q E aE ao R aQ
 obtain⟨⟨et,cA⟩,a9,ao⟩:=bind_some ao
 refine aci ?_
 refine h A W U σ et cA s _ E aE a9 R λbu dH h1 cL bE ae bA bc=>?_
 exact bA.op (s:={s with heap:=h1,toks:=cL}) g' aE ao (.cons bc .nil) λb4 ay aR cU cY bC dj dF=>aQ b4 ay aR cU (bE.trans ae cY) (cm ae bC) dj dF
theorem si:OpOk prog w h₁ k (oA (unaryOp .USub)) k4:=
 .fI λW σ a br r cu bT aI=>.int (λa=>a::r) (λa=>a::cu) bT λi t=>.end (λq=>_::q) (λq=>_::q) aI λA s Q E aE aX R=>wpN.of (neg_int (dg.at aX R (.int _ _) _))
end
section
open PySem.SeqAt
section
variable{prog:Program}{w:World}{K:Type}[DecidableEq K]{knd:HeapKind prog w K}{A:Around}{E:Value->Shared->Prop}{s:Shared}
inductive i5 {K:Type} [DecidableEq K] (A:Around) (s:Shared) (dt:List (K×Addr×Value)):List (K×Addr×Value)->Bool->Prop
 |nil:i5 A s dt [] true
 |miss {k:K} {a:Addr} {v:Value} {r:List (K×Addr×Value)}:atKey dt k=none->i5 A s dt ((k,a,v)::r) false
 |hit {k:K} {a:Addr} {v:Value} {p:Addr×Value} {r:List (K×Addr×Value)} {e b:Bool}:atKey dt k=some p->EqAt A s v p.2 e->i5 A s dt r b->i5 A s dt ((k,a,v)::r) (e&&b)
noncomputable def i5.Spec(A:Around)(s:Shared)(dt:List (K×Addr×Value)):List (K×Addr×Value)->Bool->Prop
 |[],b=>b=true
 |(k,_,v)::r,b=>(atKey dt k=none/\b=false)\/∃y e bU,atKey dt k=some y/\EqAt A s v y.2 e/\i5 A s dt r bU/\b=(e&&bU)
theorem i5.bf{dt l:List (K×Addr×Value)}(h:i5 A s dt l b):i5.Spec A s dt l b:=
 i5.casesOn (motive:=λl b _=>i5.Spec A s dt l b) h rfl (λaW=>.inl ⟨aW,rfl⟩) λbF b1 aI=>.inr ⟨_,_,_,bF,b1,aI,rfl⟩
theorem Lf{fc dt:List (K×Addr×Value)}(bM:knd.room A)(ha:(a==sysModules)=false)(ag:(b==sysModules)=false)
 (da:s.heap.DictOfH knd a fc)(eu:s.heap.DictOfH knd b dt)(hits:fc.length=dt.length->i5 A s dt fc r)(h:Q (fc.length==dt.length&&r) s):
 wpAny (model prog w) A (Builtin.Dict.samePairs nm a b) Q E s:=by
 obtain⟨oa,es,ep,ix,_,rL,xb,Sn,_⟩:=da
 obtain⟨ob,eZ,adh,By,_,Bh,Bk,So,xg⟩:=eu
 have xe:fc.length=es.size:=(size_of_entries xb).symm
 have HY:dt.length=eZ.size:=(size_of_entries Bk).symm
 unfold Builtin.Dict.samePairs Builtin.Dict.showsAll
 rw[if_neg (show ¬(a==sysModules)=true by rw[ha];exact fY),if_neg (show ¬(b==sysModules)=true by rw[ag];exact fY)]
 refine aM (bx (aM (bx ?_)))
 refine aM (wpAny_dictEntries ix rL ?_)
 dsimp only
 refine aM (wpAny_dictEntries By Bh ?_)
 by_cases hsz:es.size=eZ.size
 case neg=>
  first|refine i9 (bne_iff_ne.mpr hsz) ?_|refine r0 (bne_iff_ne.mpr hsz) ?_
  rw[xe,HY,beq_eq_false_iff_ne.mpr hsz] at h
  exact aM (wpAny_rule (bx h))
 case pos=>
  have H0:fc.length=dt.length:=by rw[xe,HY,hsz]
  rw[H0,beq_self_eq_true,Bool.true_and] at h
  first|refine iS (λe=>bne_iff_ne.mp e hsz) ?_|refine k2 (λe=>bne_iff_ne.mp e hsz) ?_
  refine aM (wpAny_dictEpoch ix rL (aM (QO _ (λi=>i5 A s dt (fc.drop i) r) _ _ _ (λx dp kZ=>?_) (λkZ=>?_) (hits H0))))
  .refine aM (wpAny_dictEntries ix rL ?_)
   have rQ:x<fc.length:=xe▸dp
   obtain⟨k,ad,v,Bs⟩:∃k ad v,fc[x]=(k,ad,v):=⟨_,_,_,rfl⟩
   have lH:fc.drop x=(k,ad,v)::fc.drop (x+1):=by rw[<-Bs];exact List.drop_eq_getElem_cons rQ
   have Sp:knd.is s.heap k ad:=by have:=Sn _ (List.getElem_mem rQ);rw[Bs] at this;exact this
   rw[show es[x]? =some (entryOfKey knd (k,ad,v)) by rw[entry_at xb x,hN rQ,Bs];rfl]
   rw[lH] at kZ
   show wpAny _ _ (holding [Value.ref ad,v] _>>=_) _ _ _
   refine aM (wpAny_holding (aM (wpAny_dictFind_heap bM Sp By Bh Bk So xg ?_ ?_)))
   .intro Bv
    rcases kZ.bf with⟨_,iO⟩|⟨y,_,_,bF,_⟩
    .rw[iO] at h
     exact bx (bx (bx h))
    .rw[atKey_none_of_get Bv] at bF;exact aq bF
   .intro ai p cK
    refine aM (wpAny_dictEntries By Bh ?_)
    rw[show eZ[ai]? =some (entryOfKey knd (k,p)) by rw[entry_at Bk ai,cK];rfl]
    have HK:=atKey_of_get xg cK
    rcases kZ.bf with⟨aW,_⟩|⟨y,e,bU,bF,b1,BG,iO⟩
    .exact el (HK.symm.trans aW)
    .rw[<-b9 (HK.symm.trans bF)] at b1
     refine wpAny_holding (b1 prog w _ _ ?_)
     induction e with
     |false=>
      rw[iO] at h
      exact bx (bx h)
     |true=>
      rw[Bool.true_and] at iO
      rw[<-iO] at BG
      refine aM (wpAny_dictEpoch ix rL ?_)
      first|refine iS (by rw[bne_self_eq_false];exact fY) ?_|refine k2 (by rw[bne_self_eq_false];exact fY) ?_
      exact bx ⟨rfl,rfl,BG⟩
  .rw[<-xe,List.drop_length] at kZ
   rw[show r=true from kZ.bf] at h
   exact bx h
theorem abb{fc dt:List (K×Addr×Value)}(hk:knd.room A.in1)(ha:(a==sysModules)=false)(ag:(b==sysModules)=false)
 (da:s.heap.DictOfH knd a fc)(eu:s.heap.DictOfH knd b dt)(bM:A.units<cLine)(hits:fc.length=dt.length->i5 A.in1 s dt fc r)(h:Q (.bool (fc.length==dt.length&&r)) s):
 wpAny (model prog w) A (compareOp .Eq (.ref a) (.ref b)) Q E s:=by
 refine wpAny_richCompare_same_room (op:=.Eq) da.typeIs eu.typeIs PySem.F.slot_dict_eq (wpAny_call_entry PySem.F.slot_dict_eq da.typeIs PySem.F.entry_dict_eq ?_ (PySem.F.args_dict_eq_2 _ _)) bM
 show wpAny _ _ (Builtin.Dict.dictSlotArgs "__eq__" ⟨[.ref a,.ref b],[]⟩>>=_) _ _ s
 refine aM ?_
 unfold Builtin.Dict.dictSlotArgs
 refine aM (wpAny_notOrdered_dict da.typeIs ?_)
 show wpAny _ _ (pure (Value.ref a,Value.ref b)) _ _ s
 refine bx ?_
 refine aM (wpAny_isInstance (T:="dict") eu.typeIs PySem.F.sub_dict_dict ?_)
 simp only[Bool.not_true,Bool.false_eq_true,if_false]
 refine aM (bx (aM (bx ?_)))
 refine aM (Lf hk ha ag da eu hits ?_)
 refine bx ⟨_,rfl,?_,?_⟩
 .exactλx=>nomatch x
 .simpa using h
theorem abc{fc dt:List (K×Addr×Value)}(hk:knd.room A.in1)(ha:(a==sysModules)=false)(ag:(b==sysModules)=false)
 (da:s.heap.DictOfH knd a fc)(eu:s.heap.DictOfH knd b dt)(bM:A.units<cLine)(hits:fc.length=dt.length->i5 A.in1 s dt fc r)(h:Q (.bool (!(fc.length==dt.length&&r))) s):
 wpAny (model prog w) A (compareOp .NotEq (.ref a) (.ref b)) Q E s:=by
 refine wpAny_richCompare_same_room (op:=.NotEq) da.typeIs eu.typeIs PySem.F.slot_dict_ne (wpAny_call_entry PySem.F.slot_dict_ne da.typeIs PySem.F.entry_dict_ne ?_ (PySem.F.args_dict_ne_2 _ _)) bM
 show wpAny _ _ (Builtin.Dict.dictSlotArgs "__ne__" ⟨[.ref a,.ref b],[]⟩>>=_) _ _ s
 refine aM ?_
 unfold Builtin.Dict.dictSlotArgs
 refine aM (wpAny_notOrdered_dict da.typeIs ?_)
 show wpAny _ _ (pure (Value.ref a,Value.ref b)) _ _ s
 refine bx ?_
 refine aM (wpAny_isInstance (T:="dict") eu.typeIs PySem.F.sub_dict_dict ?_)
 simp only[Bool.not_true,Bool.false_eq_true,if_false]
 refine aM (bx (aM (bx ?_)))
 refine aM (Lf hk ha ag da eu hits ?_)
 refine bx ⟨_,rfl,?_,?_⟩
 .exactλx=>nomatch x
 .simpa using h
end
section
variable{A:Around}{s:Shared}
theorem FE(b:Array UInt8)(t:Tok)(i:Int)(u:Tok):Gives (Builtin.«bytes.__eq__» ⟨[.bytes b t,.int i u],[]⟩) (.val .notImplemented):=
 .of_wp λM A E s Q h=>by
  show wpAny M A (isInstance (.int i u) (.type "bytes")>>=λr=>if(!r)=true then(do rule (toString "bytes."++toString "__eq__"++toString ".declined");ret Value.notImplemented) else(do let p<-Builtin.Bytes.payload (.bytes b t);let q<-Builtin.Bytes.payload (.int i u);ret (Value.bool (Builtin.Bytes.holds "__eq__" (Builtin.Bytes.order p.toList q.toList))))) _ E s
  refine aM (wpAny_isInstance (T:="int") (b:=false) (typeIs_int s i u) (by rw[isSubtype_type];kernel_rfl) ?_)
  first|refine i9 (by rfl) ?_|refine r0 (by rfl) ?_
  exact aM (wpAny_rule (bx ⟨_,rfl,h⟩))
theorem Il(b:Array UInt8)(t:Tok)(i:Int)(u:Tok):Gives (Builtin.«int.__eq__» ⟨[.int i u,.bytes b t],[]⟩) (.val .notImplemented):=
 .of_wp λM A E s Q h=>by obtain⟨hp,g,d,cf,os⟩:=s;wp_walk;exact⟨_,rfl,h⟩
theorem aa3:isSubtype (.type "bytes") (.type "int")=pure false:=by rw[isSubtype_type];kernel_rfl
theorem sub_int_bytes:isSubtype (.type "int") (.type "bytes")=pure false:=by rw[isSubtype_type];kernel_rfl
theorem yf:PySem.Slot "bytes" (cmpInfo .Eq).2.2 "bytes.__eq__":=FB.slot_bytes_eq
theorem eq_int_bytes(i:Int)(u:Tok)(b:Array UInt8)(t:Tok):EqAt A s (.int i u) (.bytes b t) false:=λprog w E Q h=>by
 unfold eqBool
 refine wpAny_holding ?_
 refine wpAny_ite_split (λqj=>absurd (eq_of_beq qj) nofun) (λ_=>?_)
 refine aM (rc_eq_decline_or (k:=false) (typeIs_int s i u) (typeIs_bytes s b t) (by decide) aa3 PySem.F.slot_int_eq yf
  (λ_ b5=>call_gives PySem.F.slot_int_eq (typeIs_int s i u) PySem.F.entry_int_eq (PySem.F.args_int_eq_2 _ _) (Il b t i u) b5)
  (λ_ b5=>call_gives yf (typeIs_bytes s b t) FB.entry_bytes_eq (FB.args_bytes_eq_2 _ _) (FE b t i u) b5)
  (λ_ b5=>fZ (rfl:isSame (.int i u) (.bytes b t)=pure false) b5) (.inl rfl) (wpAny_truthy_bool h))
theorem eq_bytes_int(b:Array UInt8)(t:Tok)(i:Int)(u:Tok):EqAt A s (.bytes b t) (.int i u) false:=λprog w E Q h=>by
 unfold eqBool
 refine wpAny_holding ?_
 refine wpAny_ite_split (λqj=>absurd (eq_of_beq qj) nofun) (λ_=>?_)
 refine aM (rc_eq_decline_or (k:=false) (typeIs_bytes s b t) (typeIs_int s i u) (by decide) sub_int_bytes yf PySem.F.slot_int_eq
  (λ_ b5=>call_gives yf (typeIs_bytes s b t) FB.entry_bytes_eq (FB.args_bytes_eq_2 _ _) (FE b t i u) b5)
  (λ_ b5=>call_gives PySem.F.slot_int_eq (typeIs_int s i u) PySem.F.entry_int_eq (PySem.F.args_int_eq_2 _ _) (Il b t i u) b5)
  (λ_ b5=>fZ (rfl:isSame (.bytes b t) (.int i u)=pure false) b5) (.inl rfl) (wpAny_truthy_bool h))
theorem eq_bytes_bytes(b:List UInt8)(t:Tok)(c:List UInt8)(u:Tok):EqAt A s (.bytes b.toArray t) (.bytes c.toArray u) (decide (b=c)):=λprog w E Q h=>by
 unfold eqBool
 refine wpAny_holding ?_
 refine wpAny_ite_split (λqj=>?_) (λ_=>?_)
 .have e:b=c:=by have:=eq_of_beq qj;injection this with this _;simpa using this
  subst e
  exact aM (wpAny_rule (bx (by simpa using h)))
 .refine aM (eq_bytes (wpAny_truthy_bool ?_))
  have e:((b.toArray.toList==c.toArray.toList):Bool)=decide (b=c):=by by_cases q:b=c<;>simp[q]
  rw[e];exact h
end
end
section
open PySem.SeqAt
variable{prog:Program}{w:World}{h₁:Heap}{K:Frag}{own:Bool}{env:Env}{ns:List Str}{k:Nat}
noncomputable def il(f:J->J->Option Bool):List J->List J->Option Bool
 |a::as,b::bh=>(f a b).bind λx=>(il f as bh).map λy=>x&&y
 |_,_=>some true
noncomputable def mM(f:J->J->Option Bool):J->J->Option Bool
 |.none,.none=>some true
 |.bool a,.bool b=>some (a==b)
 |.int a,.int b=>some (a==b)
 |.str a,.str b=>some (a==b)
 |.bytes a,.bytes b=>some (decide (a=b))
 |.int _,.bytes _=>some false
 |.bytes _,.int _=>some false
 |.bo as,.bo bh=>(il f as bh).map λr=>r&&decide (as.length=bh.length)
 |.bp as,.bp bh=>if as.length=bh.length then il f as bh else some false
 |_,_=>none
noncomputable def c0:Nat->J->J->Option Bool
 |0=>λ_ _=>none
 |n+1=>mM (c0 n)
noncomputable def qd(f:J->J->Option Bool)(as bh:List J)(ai:Nat):Bool:=((as[ai]?).bind λa=>(bh[ai]?).bind λb=>f a b).getD false
theorem veqs_ind{P:List J->List J->Bool->Prop}(ae:∀bh,P [] bh true)(aK:∀a as,P (a::as) [] true)(c:∀a as b bh x y,f a b=some x->il f as bh=some y->P as bh y->P (a::as) (b::bh) (x&&y)):
 ∀(as bh:List J) (r:Bool),il f as bh=some r->P as bh r:=λas=>
 List.rec (motive:=λas=>∀bh r,il f as bh=some r->P as bh r) (λbh r h=>b9 h▸ae bh) (λa as aZ bh=>List.casesOn (motive:=λbh=>∀r,il f (a::as) bh=some r->P (a::as) bh r) bh (λr h=>b9 h▸aK a as) λb bh r h=>by
  obtain⟨x,av,h⟩:=bind_some (show(f a b).bind _=some r from h)
  obtain⟨y,bF,h⟩:=fS.mp h
  exact h▸c a as b bh x y av bF (aZ bh y bF)) as
theorem yo{as bh:List J}(h:il f as bh=some r):
 (∀(ai:Nat) a b,as[ai]? =some a->bh[ai]? =some b->∃q,f a b=some q)/\(List.range (min as.length bh.length)).all (qd f as bh)=r:=
 veqs_ind (P:=λas bh r=>(∀(ai:Nat) a b,as[ai]? =some a->bh[ai]? =some b->∃q,f a b=some q)/\(List.range (min as.length bh.length)).all (qd f as bh)=r)
  (λ_=>⟨λ_ _ _ e _=>aq e,by rw[hO,Nat.zero_min];rfl⟩) (λ_ _=>⟨λ_ _ _ _ e=>aq e,by rw[hO,Nat.min_zero];rfl⟩) (λa as b bh x y av _ ⟨h1,h2⟩=>by
  refine⟨λai br bU ha ag=>?_,?_⟩
  .cases ai with
   |zero=>exact⟨x,b9 ha▸b9 ag▸av⟩
   |succ ai=>exact h1 ai br bU ha ag
  .rw[fJ,fJ,Nat.succ_min_succ,List.range_succ_eq_map,List.all_cons,List.all_map]
   exact congr (congrArg and (congrArg (Option.getD · false) av)) h2) as bh r h
theorem Lw{W:az}(hf:∀a b v r,aN prog w W n a v->aN prog w W n b v->f a b=some r->r=true)
 (cq:bw prog w W n as vs)(cg:bw prog w W n bh vs)(h:il f as bh=some r):r=true:=
 veqs_ind (P:=λas bh r=>∀vs,bw prog w W n as vs->bw prog w W n bh vs->r=true) (λ_ _ _ _=>rfl) (λ_ _ _ _ _=>rfl) (λa as b bh x y av _ aZ vs cq cg=>by
  obtain⟨v,bK,e,gg,fK⟩:=cq.bf
  rw[e] at cg
  rw[hf _ _ _ _ gg cg.sO.1 av,aZ _ fK cg.sO.2];rfl) as bh r h vs cq cg
inductive fm (f:J->J->Option Bool):J->J->Bool->Prop
 |none:fm f .none .none true
 |bool (a b:Bool):fm f (.bool a) (.bool b) (a==b)
 |int (a b:Int):fm f (.int a) (.int b) (a==b)
 |str (a b:Str):fm f (.str a) (.str b) (a==b)
 |bytes (a b:List UInt8):fm f (.bytes a) (.bytes b) (decide (a=b))
 |To (a:Int) (b:List UInt8):fm f (.int a) (.bytes b) false
 |N8 (a:List UInt8) (b:Int):fm f (.bytes a) (.int b) false
 |bo (as bh:List J) (r:Bool):il f as bh=some r->fm f (.bo as) (.bo bh) (r&&decide (as.length=bh.length))
 |bp (as bh:List J) (r:Bool):as.length=bh.length->il f as bh=some r->fm f (.bp as) (.bp bh) r
 |Uu (as bh:List J):¬as.length=bh.length->fm f (.bp as) (.bp bh) false
theorem fm.ky(h:(il f x y).map (λr=>r&&decide (x.length=y.length))=some r):fm f (.bo x) (.bo y) r:=by
 obtain⟨q,b5,h⟩:=fS.mp h
 exact h▸.bo _ _ _ b5
theorem fm.Ut(h:(if x.length=y.length then il f x y else some false)=some r):fm f (.bp x) (.bp y) r:=by
 by_cases e:x.length=y.length
 .rw[if_pos e] at h;exact .bp _ _ _ e h
 .rw[if_neg e] at h;exact b9 h▸.Uu _ _ e
theorem fm.of(h:mM f a b=some r):fm f a b r:=
 J.casesOn (motive_1:=λa=>mM f a b=some r->fm f a b r) a
  (J.casesOn (motive_1:=λb=>mM f .none b=some r->fm f .none b r) b (λh=>b9 h▸.none) (λ_ h=>aq h) (λ_ h=>aq h) (λ_ h=>aq h) (λ_ h=>aq h) (λ_ h=>aq h) (λ_ h=>aq h) (λ_ h=>aq h) (λ_ _ _ h=>aq h) (λ_ h=>aq h) (λ_ h=>aq h))
  (λx=>J.casesOn (motive_1:=λb=>mM f (.bool x) b=some r->fm f (.bool x) b r) b (λh=>aq h) (λ_ h=>b9 h▸.bool _ _) (λ_ h=>aq h) (λ_ h=>aq h) (λ_ h=>aq h) (λ_ h=>aq h) (λ_ h=>aq h) (λ_ h=>aq h) (λ_ _ _ h=>aq h) (λ_ h=>aq h) (λ_ h=>aq h))
  (λx=>J.casesOn (motive_1:=λb=>mM f (.int x) b=some r->fm f (.int x) b r) b (λh=>aq h) (λ_ h=>aq h) (λ_ h=>b9 h▸.int _ _) (λ_ h=>aq h) (λ_ h=>b9 h▸.To _ _) (λ_ h=>aq h) (λ_ h=>aq h) (λ_ h=>aq h) (λ_ _ _ h=>aq h) (λ_ h=>aq h) (λ_ h=>aq h))
  (λx=>J.casesOn (motive_1:=λb=>mM f (.str x) b=some r->fm f (.str x) b r) b (λh=>aq h) (λ_ h=>aq h) (λ_ h=>aq h) (λ_ h=>b9 h▸.str _ _) (λ_ h=>aq h) (λ_ h=>aq h) (λ_ h=>aq h) (λ_ h=>aq h) (λ_ _ _ h=>aq h) (λ_ h=>aq h) (λ_ h=>aq h))
  (λx=>J.casesOn (motive_1:=λb=>mM f (.bytes x) b=some r->fm f (.bytes x) b r) b (λh=>aq h) (λ_ h=>aq h) (λ_ h=>b9 h▸.N8 _ _) (λ_ h=>aq h) (λ_ h=>b9 h▸.bytes _ _) (λ_ h=>aq h) (λ_ h=>aq h) (λ_ h=>aq h) (λ_ _ _ h=>aq h) (λ_ h=>aq h) (λ_ h=>aq h))
  (λx=>J.casesOn (motive_1:=λb=>mM f (.bo x) b=some r->fm f (.bo x) b r) b (λh=>aq h) (λ_ h=>aq h) (λ_ h=>aq h) (λ_ h=>aq h) (λ_ h=>aq h) (λ_ h=>fm.ky h) (λ_ h=>aq h) (λ_ h=>aq h) (λ_ _ _ h=>aq h) (λ_ h=>aq h) (λ_ h=>aq h))
  (λx=>J.casesOn (motive_1:=λb=>mM f (.bp x) b=some r->fm f (.bp x) b r) b (λh=>aq h) (λ_ h=>aq h) (λ_ h=>aq h) (λ_ h=>aq h) (λ_ h=>aq h) (λ_ h=>aq h) (λ_ h=>fm.Ut h) (λ_ h=>aq h) (λ_ _ _ h=>aq h) (λ_ h=>aq h) (λ_ h=>aq h))
  (λ_ h=>aq h)
  (λ_ _ _ h=>aq h)
  (λ_ h=>aq h)
  (λ_ h=>aq h) h
theorem Dv(d:Nat):∀a b v r,aN prog w W n a v->aN prog w W n b v->c0 d a b=some r->r=true:=by
 induction d with
 |zero=>exactλa b v r _ _ h=>aq h
 |succ d aZ=>
  intro a b v r ha ag h
  exact fm.casesOn (motive:=λa b r _=>aN prog w W n a v->aN prog w W n b v->r=true) (fm.of h) (λ_ _=>rfl)
   (λx y ha ag=>beq_iff_eq.mpr (Value.bool.inj (ha.bf.symm.trans ag.bf)))
   (λx y ha ag=>by obtain⟨t,e⟩:=ha.bf;obtain⟨u,c2⟩:=ag.bf;exact beq_iff_eq.mpr (Value.int.inj (e.symm.trans c2)).1)
   (λx y ha ag=>by obtain⟨t,e⟩:=ha.bf;obtain⟨u,c2⟩:=ag.bf;exact beq_iff_eq.mpr (Value.str.inj (e.symm.trans c2)).1)
   (λx y ha ag=>by obtain⟨t,e⟩:=ha.bf;obtain⟨u,c2⟩:=ag.bf;exact decide_eq_true (congrArg Array.toList (Value.bytes.inj (e.symm.trans c2)).1))
   (λx y ha ag=>by obtain⟨t,e⟩:=ha.bf;obtain⟨u,c2⟩:=ag.bf;exact nomatch e.symm.trans c2)
   (λx y ha ag=>by obtain⟨t,e⟩:=ha.bf;obtain⟨u,c2⟩:=ag.bf;exact nomatch e.symm.trans c2)
   (λas bh r aI ha ag=>by
     obtain⟨l,i,m,bc,cq,e⟩:=ha.bf;obtain⟨ba,e1,fW,bN,cg,c2⟩:=ag.bf
     have eY:=Value.ref.inj (e.symm.trans c2)
     rw[<-eY] at bN
     have gH:=bQ.uf bc bN
     have P':Data.seq i m=Data.seq e1 fW:=congrArg Obj.data gH
     rw[<-(Data.seq.inj P').1] at cg
     rw[Lw aZ cq cg aI,<-cq.length,<-cg.length,decide_eq_true rfl];rfl)
   (λas bh r _ aI ha ag=>by
     obtain⟨l,o,i,m,bc,_,iv,cq,e⟩:=ha.bf;obtain⟨ba,dV,e1,fW,bN,_,gh,cg,c2⟩:=ag.bf
     have eY:=Value.ref.inj (e.symm.trans c2)
     rw[<-eY] at bN
     rw[<-bQ.uf bc bN,iv] at gh
     rw[<-(Data.seq.inj gh).1] at cg
     exact Lw aZ cq cg aI)
   (λas bh ne ha ag=>by
     obtain⟨l,o,i,m,bc,_,iv,cq,e⟩:=ha.bf;obtain⟨ba,dV,e1,fW,bN,_,gh,cg,c2⟩:=ag.bf
     have eY:=Value.ref.inj (e.symm.trans c2)
     rw[<-eY] at bN
     rw[<-bQ.uf bc bN,iv] at gh
     rw[<-(Data.seq.inj gh).1] at cg
     exact absurd (cq.length.symm.trans cg.length) ne) ha ag
theorem BX{σ:St}{A:Around}{items eb:Array Value}
 (aZ:∀a b br bU r,aN prog w W n a br->aN prog w W n b bU->c0 d a b=some r->EqAt A.in1 s br bU r)
 (cq:bw prog w W n as items.toList)(cg:bw prog w W n bh eb.toList)(h:il (c0 d) as bh=some r):
 ∀ai (h1:ai<items.size) (h2:ai<eb.size),EqAt A.in1 s items[ai] eb[ai] (qd (c0 d) as bh ai):=by
 intro ai h1 h2
 have a9:items.size=as.length:=by rw[<-e6];exact cq.length
 have a7:eb.size=bh.length:=by rw[<-e6];exact cg.length
 have g1:as[ai]? =some (as[ai]'(a9▸h1)):=hN _
 have g2:bh[ai]? =some (bh[ai]'(a7▸h2)):=hN _
 obtain⟨q,b5⟩:=(yo h).1 ai _ _ g1 g2
 obtain⟨br,jS,bT⟩:=cq.get g1
 obtain⟨bU,iw,cR⟩:=cg.get g2
 rw[Array.getElem?_toList,Array.getElem?_eq_getElem h1] at jS
 rw[Array.getElem?_toList,Array.getElem?_eq_getElem h2] at iw
 rw[b9 jS,b9 iw,show qd (c0 d) as bh ai=q by unfold qd;rw[g1,g2];exact congrArg (Option.getD · false) b5]
 exact aZ _ _ _ _ _ bT cR b5
theorem q5{σ:St}(R:bB prog w h₁ W σ s.heap)(d:Nat):∀(A:Around),A.units+d<cLine->∀a b br bU r,aN prog w W σ.next a br->aN prog w W σ.next b bU->c0 d a b=some r->EqAt A s br bU r:=by
 induction d with
 |zero=>exactλA _ a b br bU r _ _ h=>aq h
 |succ d aZ=>
  intro A bM a b br bU r ha ag h
  have Ih:=aZ A.in1 (by show A.units+1+d<cLine;rw[Nat.add_assoc,Nat.add_comm 1 d];exact bM)
  have jV:A.units<cLine:=Nat.lt_of_le_of_lt (Nat.le_add_right _ _) bM
  exact fm.casesOn (motive:=λa b r _=>c0 (d+1) a b=some r->aN prog w W σ.next a br->aN prog w W σ.next b bU->EqAt A s br bU r) (fm.of h)
   (λ_ ha ag=>by rw[show br=_ from ha.bf,show bU=_ from ag.bf];exact .same _)
   (λx y _ ha ag=>by rw[show br=_ from ha.bf,show bU=_ from ag.bf];exact .bool_bool _ _)
   (λx y _ ha ag=>by obtain⟨t,e⟩:=ha.bf;obtain⟨u,c2⟩:=ag.bf;rw[e,c2];exact .int_int _ _ _ _)
   (λx y _ ha ag=>by obtain⟨t,e⟩:=ha.bf;obtain⟨u,c2⟩:=ag.bf;rw[e,c2];exact .str_str _ _ _ _)
   (λx y _ ha ag=>by obtain⟨t,e⟩:=ha.bf;obtain⟨u,c2⟩:=ag.bf;rw[e,c2];exact eq_bytes_bytes _ _ _ _)
   (λx y _ ha ag=>by obtain⟨t,e⟩:=ha.bf;obtain⟨u,c2⟩:=ag.bf;rw[e,c2];exact eq_int_bytes _ _ _ _)
   (λx y _ ha ag=>by obtain⟨t,e⟩:=ha.bf;obtain⟨u,c2⟩:=ag.bf;rw[e,c2];exact eq_bytes_int _ _ _ _)
   (λas bh y bF h ha ag=>by
     obtain⟨l,items,m,a9,bc,cE,cq⟩:=ha.ky R
     obtain⟨ba,eb,fW,a7,bN,e1,cg⟩:=ag.ky R
     rw[a9] at ha
     rw[a7] at ag
     rw[a9,a7]
     by_cases aG:l=ba
     .rw[aG] at ha
      rw[Dv _ _ _ _ _ ha ag h,aG];exact .same _
     .have key:=RcAt.tuples ⟨_,cE,rfl,_,rfl⟩ ⟨_,e1,rfl,_,rfl⟩ jV (BX (σ:=σ) Ih cq cg bF)
      rw[<-e6,<-e6,cq.length,cg.length,(yo bF).2] at key
      exact .of_refs aG key)
   (λas bh y dm bF h ha ag=>by
     obtain⟨l,items,a9,cE,cq⟩:=hq R ha rfl
     obtain⟨ba,eb,a7,e1,cg⟩:=hq R ag rfl
     rw[a9] at ha
     rw[a7] at ag
     rw[a9,a7]
     by_cases aG:l=ba
     .rw[aG] at ha
      rw[Dv _ _ _ _ _ ha ag h,aG];exact .same _
     .have g1:items.size=as.length:=by rw[<-e6];exact cq.length
      have g2:eb.size=bh.length:=by rw[<-e6];exact cg.length
      have key:=RcAt.lists cE e1 (by rw[g1,g2,dm]) jV (BX (σ:=σ) Ih cq cg bF)
      have h2:=(yo bF).2
      rw[dm,Nat.min_self,<-dm,<-g1] at h2
      rw[h2] at key
      exact .of_refs aG key)
   (λas bh dm h ha ag=>by
     obtain⟨l,items,a9,cE,cq⟩:=hq R ha rfl
     obtain⟨ba,eb,a7,e1,cg⟩:=hq R ag rfl
     rw[a9] at ha
     rw[a7] at ag
     rw[a9,a7]
     have aG:¬items.size=eb.size:=by rw[<-e6,<-e6,cq.length,cg.length];exact dm
     by_cases e:l=ba
     .rw[e] at ha
      exact absurd (Dv _ _ _ _ _ ha ag h) fY
     .exact .of_refs e (RcAt.lists_lengths cE e1 (bne_iff_ne.mpr aG) jV)) h ha ag
noncomputable def d2{dy:Type}[DecidableEq dy](es:List (dy×J))(k:dy):Option J:=(es.find? λe=>decide (e.1=k)).map (·.2)
noncomputable def gD:J->St->Option (List (bq×J))
 |.cD es,_=>some es
 |.ref c,σ=>match σ.cells c with
  |some (.cn es)=>some es
  |_=>none
 |_,_=>none
noncomputable def gy:J->St->Option (List (List bq×J))
 |.ref c,σ=>match σ.cells c with
  |some (.b8 es)=>some es
  |_=>none
 |_,_=>none
theorem df.MJ{x:Option df}(e:(match x with|some (.cn es)=>some es|_=>none)=some es):x=some (.cn es):=by
 rcases x with _|(_|_|_|_|_)
 .exact aq e
 .exact aq e
 .exact congrArg (λx=>some (df.cn x)) (b9 e)
 .exact aq e
 .exact aq e
 .exact aq e
theorem df.aa'{x:Option df}(e:(match x with|some (.b8 es)=>some es|_=>none)=some es):x=some (.b8 es):=by
 rcases x with _|(_|_|_|_|_)
 .exact aq e
 .exact aq e
 .exact aq e
 .exact congrArg (λx=>some (df.b8 x)) (b9 e)
 .exact aq e
 .exact aq e
theorem lb.b2{h:Heap}(c:lb prog w o kvs)(g:h.get? a=some o):h.DictOf (hF prog w) a kvs:=by
 obtain⟨mX,eZ,ep,aB,hk,hp,aW⟩:=c;exact⟨_,_,_,g,mX,aB,hk,hp,aW⟩
theorem nG{W:az}(R:bB prog w h₁ W σ h)(a3:aN prog w W σ.next src ay)(hs:gD src σ=some es):
 ∃a kvs,ay=.ref a/\(a==sysModules)=false/\h.DictOf (hF prog w) a kvs/\ei prog w W σ.next es kvs:=
 a3.abQ (λv=>gD v σ) (λay=>∃a kvs,ay=.ref a/\(a==sysModules)=false/\h.DictOf (hF prog w) a kvs/\ei prog w W σ.next es kvs) hs
  (λ_ _ _ _ r z c q e=>⟨_,_,rfl,z,c.b2 (R.imm _ _ r),b9 e▸q⟩)
  λc _ e=>by obtain⟨_,_,g,z,x,q⟩:=(R.cell c _ (df.MJ e)).2.bf;exact⟨_,_,rfl,z,x.b2 g,q⟩
theorem md.is(R:bB prog w h₁ W σ h){k:List bq}(t:md prog w W k a):(tupK prog w).is h k a:=by
 obtain⟨o,items,n,r,h1,h2,aR⟩:=t;exact⟨o,items,n,R.imm _ _ r,h1,h2,aR⟩
theorem TRel.iU(R:bB prog w h₁ W σ h)(r:TRel prog w W σ.next es xs):∀x∈xs,(tupK prog w).is h x.1 x.2.1:=
 r.ind (P:=λ_ xs=>∀x∈xs,(tupK prog w).is h x.1 x.2.1) (dJ _) λt _ _ aZ=>bO.mpr ⟨t.is R,aZ⟩
theorem oL.b2(c:oL prog w o xs)(g:h.get? a=some o)(q:TRel prog w W σ.next es xs)(R:bB prog w h₁ W σ h):h.DictOfH (tupK prog w) a xs:=by
 obtain⟨mX,eZ,ep,aB,hk,aW⟩:=c;exact⟨_,_,_,g,mX,aB,hk,q.iU R,aW⟩
theorem nr(R:bB prog w h₁ W σ h)(a3:aN prog w W σ.next src ay)(hs:gy src σ=some es):
 ∃a xs,ay=.ref a/\(a==sysModules)=false/\h.DictOfH (tupK prog w) a xs/\TRel prog w W σ.next es xs:=
 a3.abS (λv=>gy v σ) (λay=>∃a xs,ay=.ref a/\(a==sysModules)=false/\h.DictOfH (tupK prog w) a xs/\TRel prog w W σ.next es xs) hs
  λc _ e=>by obtain⟨_,_,g,z,x,q⟩:=(R.cell c _ (df.aa' e)).2.bf;exact⟨_,_,rfl,z,x.b2 g q R,q⟩
theorem IC{dy:Type}[DecidableEq dy]{es:List (dy×J)}{q k:dy}(e:q=k):d2 ((q,v)::es) k=some v:=by
 unfold d2;rw[List.find?_cons_of_pos (by exact decide_eq_true e)];rfl
theorem ID{dy:Type}[DecidableEq dy]{es:List (dy×J)}{q k:dy}(e:¬q=k):d2 ((q,v)::es) k=d2 es k:=by
 unfold d2;rw[List.find?_cons_of_neg (by exactλh=>e (of_decide_eq_true h))]
theorem ei.at(r:ei prog w W n es kvs)(k:bq):(d2 es k=none/\valueAt kvs k=none)\/∃v ay,d2 es k=some v/\valueAt kvs k=some ay/\aN prog w W n v ay:=
 r.ind (P:=λes kvs=>(d2 es k=none/\valueAt kvs k=none)\/∃v ay,d2 es k=some v/\valueAt kvs k=some ay/\aN prog w W n v ay) (.inl ⟨rfl,rfl⟩) λ{q v ay es kvs} a _ aZ=>by
  by_cases e:q=k
  .exact .inr ⟨v,ay,IC e,by simp[valueAt,e],a⟩
  .rw[ID e,show valueAt ((q,ay)::kvs) k=valueAt kvs k by simp[valueAt,e]];exact aZ
theorem TRel.at(r:TRel prog w W n es xs)(k:List bq):(d2 es k=none/\atKey xs k=none)\/∃v a ay,d2 es k=some v/\atKey xs k=some (a,ay)/\aN prog w W n v ay:=
 r.ind (P:=λes xs=>(d2 es k=none/\atKey xs k=none)\/∃v a ay,d2 es k=some v/\atKey xs k=some (a,ay)/\aN prog w W n v ay) (.inl ⟨rfl,rfl⟩) λ{q v a ay es xs} _ fx _ aZ=>by
  by_cases e:q=k
  .exact .inr ⟨v,a,ay,IC e,by simp[atKey,e],fx⟩
  .rw[ID e,show atKey ((q,a,ay)::xs) k=atKey xs k by simp[atKey,e]];exact aZ
theorem TRel.length(r:TRel prog w W n es xs):xs.length=es.length:=
 r.ind (P:=λes xs=>xs.length=es.length) rfl λ_ _ _ aZ=>congrArg Nat.succ aZ
noncomputable def toAtom:J->Option bq
 |.none=>some .none
 |.int i=>some (.int i)
 |.str x=>some (.str x)
 |_=>none
noncomputable def toKey:J->Option (List bq)
 |.bo vs=>vs.mapM toAtom
 |_=>none
theorem toAtom_is{k:bq}(h:aN prog w W n v ay)(e:toAtom v=some k):j9 k ay=true:=
 aN.casesOn (motive_1:=λv ay _=>toAtom v=some k->j9 k ay=true) h (λe=>b9 e▸rfl) (λ_ e=>aq e) (λ_ _ e=>b9 e▸beq_self_eq_true _) (λ_ _ e=>b9 e▸beq_self_eq_true _) (λ_ _ e=>aq e)
  (λ_ _ e=>aq e) (λ_ _ _ _ e=>aq e) (λ_ _ _ _ e=>aq e) (λ_ e=>aq e) (λ_ e=>aq e) (λ_ e=>aq e) e
theorem toKey_items{k:List bq}(r:bw prog w W n vs bK)(e:vs.mapM toAtom=some k):ItemsAre (hF prog w) k bK:=
 r.ind (P:=λvs bK=>∀k,vs.mapM toAtom=some k->ItemsAre (hF prog w) k bK) (λk e=>b9 e▸.nil) (λa _ aZ k e=>by
  rw[List.mapM_cons] at e
  obtain⟨x,av,e⟩:=bind_some e
  obtain⟨y,bF,e⟩:=bind_some e
  exact b9 e▸.cons (toAtom_is a av) (aZ y bF)) k e
theorem toKey_is{v:J}{k:List bq}(R:bB prog w h₁ W σ h)(a3:aN prog w W n v ay)(e:toKey v=some k):∃a,ay=.ref a/\md prog w W k a/\(tupK prog w).is h k a:=
 a3.abT toKey (λay=>∃a,ay=.ref a/\md prog w W k a/\(tupK prog w).is h k a) e λ_ _ _ _ r q e=>⟨_,rfl,⟨_,_,_,r,rfl,rfl,toKey_items q e⟩,_,_,_,R.imm _ _ r,rfl,rfl,toKey_items q e⟩
noncomputable def mw{dy:Type}[DecidableEq dy](eZ:List (dy×J)):List (dy×J)->Option Bool
 |[]=>some true
 |(k,v)::r=>match d2 eZ k with
  |none=>some false
  |some y=>(c0 4 v y).bind λe=>(mw eZ r).map λb=>e&&b
noncomputable def jQ{dy:Type}[DecidableEq dy](es eZ:List (dy×J)):Option Bool:=if es.length=eZ.length then mw eZ es else some false
theorem HT(R:bB prog w h₁ W σ s.heap)(bM:A.units+4<cLine)(dx:ei prog w W σ.next eZ dt)
 (q:ei prog w W σ.next es fc)(h:mw eZ es=some r):KeqHits A s dt fc r:=
 q.ind (P:=λes fc=>∀r,mw eZ es=some r->KeqHits A s dt fc r) (λr h=>b9 h▸.nil) (λ{C2 _ _ _ _} a _ aZ r h=>by
  unfold mw at h
  rcases dx.at C2 with⟨h1,h2⟩|⟨v,ay,h1,h2,aR⟩
  .rw[h1] at h;exact b9 h▸.miss h2
  .rw[h1] at h
   obtain⟨e,b1,h⟩:=bind_some h
   obtain⟨bU,ag,h⟩:=fS.mp h
   exact h▸.hit h2 (q5 R 4 A bM _ _ _ _ _ a aR b1) (aZ _ ag)) r h
theorem HV(R:bB prog w h₁ W σ s.heap)(bM:A.units+4<cLine)(dx:TRel prog w W σ.next eZ dt)
 (q:TRel prog w W σ.next es fc)(h:mw eZ es=some r):i5 A s dt fc r:=
 q.ind (P:=λes fc=>∀r,mw eZ es=some r->i5 A s dt fc r) (λr h=>b9 h▸.nil) (λ{C2 _ _ _ _ _} _ a _ aZ r h=>by
  unfold mw at h
  rcases dx.at C2 with⟨h1,h2⟩|⟨v,gg,ay,h1,h2,aR⟩
  .rw[h1] at h;exact b9 h▸.miss h2
  .rw[h1] at h
   obtain⟨e,b1,h⟩:=bind_some h
   obtain⟨bU,ag,h⟩:=fS.mp h
   exact h▸.hit h2 (q5 R 4 A bM _ _ _ _ _ a aR b1) (aZ _ ag)) r h
noncomputable def nN(a b:J)(σ:St):Option Bool:=match gD a σ,gD b σ with
 |some x,some y=>jQ x y
 |_,_=>match gy a σ,gy b σ with
  |some x,some y=>jQ x y
  |_,_=>match a,b with
   |.int _,.int _=>c0 8 a b
   |.str _,.str _=>c0 8 a b
   |.bp _,.bp _=>c0 8 a b
   |_,_=>none
noncomputable def cw:b3
 |[a,b],σ=>(nN a b σ).map λr=>(.bool r,σ)
 |_,_=>none
noncomputable def gk:b3
 |[a,b],σ=>(nN a b σ).map λr=>(.bool (!r),σ)
 |_,_=>none
theorem hU{A:Around}(bM:A.units+200<cLine)(h:autoParam (Nat.ble k 200=true) aL._auto_1):A.units+k<cLine:=Nat.lt_of_le_of_lt (Nat.add_le_add_left (Nat.le_of_ble_eq_true h) _) bM
theorem eR.line(aE:eR A k):A.units+200<cLine:=Nat.lt_of_le_of_lt (Nat.add_le_add_right (Nat.le_add_right _ _) _) aE.u
noncomputable def qe(oa ob:Option (List (bq×J)))(ta tb:Option (List (List bq×J)))(a b:J):Option Bool:=match oa,ob with
 |some x,some y=>jQ x y
 |_,_=>match ta,tb with
  |some x,some y=>jQ x y
  |_,_=>match a,b with
   |.int _,.int _=>c0 8 a b
   |.str _,.str _=>c0 8 a b
   |.bp _,.bp _=>c0 8 a b
   |_,_=>none
inductive ip:J->J->Prop
 |int (x y:Int):ip (.int x) (.int y)
 |str (x y:Str):ip (.str x) (.str y)
 |bp (x y:List J):ip (.bp x) (.bp y)
theorem Gv(h:qe none none none none a b=some r):c0 8 a b=some r/\ip a b:=
 J.casesOn (motive_1:=λa=>qe none none none none a b=some r->c0 8 a b=some r/\ip a b) a (λh=>aq h) (λ_ h=>aq h)
  (λx=>J.casesOn (motive_1:=λb=>qe none none none none (.int x) b=some r->c0 8 (.int x) b=some r/\ip (.int x) b) b (λh=>aq h) (λ_ h=>aq h) (λ_ h=>⟨h,.int _ _⟩) (λ_ h=>aq h) (λ_ h=>aq h) (λ_ h=>aq h) (λ_ h=>aq h) (λ_ h=>aq h) (λ_ _ _ h=>aq h) (λ_ h=>aq h) (λ_ h=>aq h))
  (λx=>J.casesOn (motive_1:=λb=>qe none none none none (.str x) b=some r->c0 8 (.str x) b=some r/\ip (.str x) b) b (λh=>aq h) (λ_ h=>aq h) (λ_ h=>aq h) (λ_ h=>⟨h,.str _ _⟩) (λ_ h=>aq h) (λ_ h=>aq h) (λ_ h=>aq h) (λ_ h=>aq h) (λ_ _ _ h=>aq h) (λ_ h=>aq h) (λ_ h=>aq h))
  (λ_ h=>aq h) (λ_ h=>aq h)
  (λx=>J.casesOn (motive_1:=λb=>qe none none none none (.bp x) b=some r->c0 8 (.bp x) b=some r/\ip (.bp x) b) b (λh=>aq h) (λ_ h=>aq h) (λ_ h=>aq h) (λ_ h=>aq h) (λ_ h=>aq h) (λ_ h=>aq h) (λ_ h=>⟨h,.bp _ _⟩) (λ_ h=>aq h) (λ_ _ _ h=>aq h) (λ_ h=>aq h) (λ_ h=>aq h))
  (λ_ h=>aq h) (λ_ _ _ h=>aq h) (λ_ h=>aq h) (λ_ h=>aq h) h
theorem Gu(h:qe none none ta tb a b=some r):(∃x y,ta=some x/\tb=some y/\jQ x y=some r)\/(c0 8 a b=some r/\ip a b):=by
 rcases ta with _|x
 .exact .inr (Gv h)
 rcases tb with _|y
 .exact .inr (Gv h)
 .exact .inl ⟨x,y,rfl,rfl,h⟩
theorem Gs(h:qe oa ob ta tb a b=some r):
 (∃x y,oa=some x/\ob=some y/\jQ x y=some r)\/(∃x y,ta=some x/\tb=some y/\jQ x y=some r)\/(c0 8 a b=some r/\ip a b):=by
 rcases oa with _|x
 .exact .inr (Gu h)
 rcases ob with _|y
 .exact .inr (Gu h)
 .exact .inl ⟨x,y,rfl,rfl,h⟩
theorem wu{dy:Type}[DecidableEq dy]{x y:List (dy×J)}(h:jQ x y=some r)(a9:n=x.length)(a7:m=y.length):∃cu,(n=m->mw y x=some cu)/\(n==m&&cu)=r:=by
 subst a9 a7
 unfold jQ at h
 by_cases aG:x.length=y.length
 .rw[if_pos aG] at h;exact⟨r,λ_=>h,by rw[aG,beq_self_eq_true,Bool.true_and]⟩
 .rw[if_neg aG] at h;exact⟨true,λe=>absurd e aG,by rw[beq_eq_false_iff_ne.mpr aG];exact b9 h⟩
theorem Lu{σ:St}{A:Around}{items eb:Array Value}(aZ:∀a b br bU r,aN prog w W n a br->aN prog w W n b bU->c0 7 a b=some r->EqAt A.in1 s br bU r)
 (cq:bw prog w W n as items.toList)(cg:bw prog w W n bh eb.toList)(h:c0 8 (.bp as) (.bp bh)=some r):
 (items.size=eb.size/\(∀ai (h1:ai<items.size) (h2:ai<eb.size),EqAt A.in1 s items[ai] eb[ai] (qd (c0 7) as bh ai))/\(List.range eb.size).all (qd (c0 7) as bh)=r)\/(¬items.size=eb.size/\r=false):=by
 have a9:items.size=as.length:=by rw[<-e6];exact cq.length
 have a7:eb.size=bh.length:=by rw[<-e6];exact cg.length
 have h':(if as.length=bh.length then il (c0 7) as bh else some false)=some r:=h
 by_cases dm:as.length=bh.length
 .rw[if_pos dm] at h'
  have h2:=(yo h').2
  rw[dm,Nat.min_self,<-a7] at h2
  exact .inl ⟨by rw[a9,a7,dm],BX (σ:=σ) aZ cq cg h',h2⟩
 .rw[if_neg dm] at h'
  exact .inr ⟨by rw[a9,a7];exact dm,(b9 h').symm⟩
theorem ZH{σ:St}{A:Around}(R:bB prog w h₁ W σ s.heap)(bM:A.units+200<cLine){r:Bool}(bT:aN prog w W σ.next a br)(cR:aN prog w W σ.next b bU)(h:c0 8 a b=some r)
 (hk:ip a b)(aQ:Q (.bool (r)) s):wpAny (model prog w) A (compareOp .Eq br bU) Q E s:=
 have jV:A.units<cLine:=hU (k:=0) bM
 ip.casesOn (motive:=λa b _=>aN prog w W σ.next a br->aN prog w W σ.next b bU->c0 8 a b=some r->wpAny (model prog w) A (compareOp .Eq br bU) Q E s) hk
  (λx y bT cR h=>by obtain⟨t,rfl⟩:=bT.bf;obtain⟨u,rfl⟩:=cR.bf;cases h;exact RcAt.int_int _ _ _ _ prog w E Q aQ)
  (λx y bT cR h=>by obtain⟨t,rfl⟩:=bT.bf;obtain⟨u,rfl⟩:=cR.bf;cases h;exact RcAt.str_str _ _ _ _ prog w E Q aQ)
  (λas bh bT cR h=>by
    obtain⟨l,items,rfl,cE,cq⟩:=hq R bT rfl
    obtain⟨ba,eb,rfl,e1,cg⟩:=hq R cR rfl
    rcases Lu (σ:=σ) (A:=A) (q5 R 7 A.in1 (hU (k:=8) bM)) cq cg h with⟨e,key,rfl⟩|⟨e,rfl⟩
    .have key:=RcAt.lists cE e1 e jV key
     rw[e] at key
     exact key prog w E Q aQ
    .exact RcAt.lists_lengths cE e1 (by simpa using e) jV prog w E Q aQ) bT cR h
theorem ZI{σ:St}{A:Around}(R:bB prog w h₁ W σ s.heap)(bM:A.units+200<cLine){r:Bool}(bT:aN prog w W σ.next a br)(cR:aN prog w W σ.next b bU)(h:c0 8 a b=some r)
 (hk:ip a b)(aQ:Q (.bool (!r)) s):wpAny (model prog w) A (compareOp .NotEq br bU) Q E s:=
 have jV:A.units<cLine:=hU (k:=0) bM
 ip.casesOn (motive:=λa b _=>aN prog w W σ.next a br->aN prog w W σ.next b bU->c0 8 a b=some r->wpAny (model prog w) A (compareOp .NotEq br bU) Q E s) hk
  (λx y bT cR h=>by obtain⟨t,rfl⟩:=bT.bf;obtain⟨u,rfl⟩:=cR.bf;cases h;exact RcNeAt.int_int _ _ _ _ prog w E Q aQ)
  (λx y bT cR h=>by obtain⟨t,rfl⟩:=bT.bf;obtain⟨u,rfl⟩:=cR.bf;cases h;exact RcNeAt.str_str _ _ _ _ prog w E Q aQ)
  (λas bh bT cR h=>by
    obtain⟨l,items,rfl,cE,cq⟩:=hq R bT rfl
    obtain⟨ba,eb,rfl,e1,cg⟩:=hq R cR rfl
    rcases Lu (σ:=σ) (A:=A) (q5 R 7 A.in1 (hU (k:=8) bM)) cq cg h with⟨e,key,rfl⟩|⟨e,rfl⟩
    .have key:=RcNeAt.lists cE e1 e jV key
     rw[e] at key
     exact key prog w E Q aQ
    .exact RcNeAt.lists_lengths cE e1 (by simpa using e) jV prog w E Q aQ) bT cR h
theorem ec:OpOk prog w h₁ k (eV (compareOp .Eq)) cw:=
 .fI λW σ a br r cu bT aI=>.more (λr=>a::r) (λr=>br::r) aI λb bU q dx cR b5=>.end (λq=>a::b::q) (λq=>br::bU::q) b5 λA s Q E aE aX R=>wpN.of<|by
 obtain⟨r,aI,aX⟩:=(aJ.map aX).cC
 have q:=dg.at aX R (.bool r) s.toks
 have bM:=aE.line
 have jV:A.units<cLine:=hU (k:=0) bM
 rcases Gs (oa:=gD a σ) (ob:=gD b σ) (ta:=gy a σ) (tb:=gy b σ) aI with⟨x,y,av,bF,h⟩|⟨x,y,av,bF,h⟩|⟨h,hk⟩
 .obtain⟨l,fc,ew,eh,iv,cq⟩:=nG R bT av
  obtain⟨ba,dt,fp,l3,gh,cg⟩:=nG R cR bF
  obtain⟨cu,g,iO⟩:=wu h cq.length cg.length
  rw[ew,fp];exact keq_eq eh l3 iv gh jV (λe=>HT R (hU (k:=5) bM) cg cq (g e)) (iO▸q)
 .obtain⟨l,fc,ew,eh,iv,cq⟩:=nr R bT av
  obtain⟨ba,dt,fp,l3,gh,cg⟩:=nr R cR bF
  obtain⟨cu,g,iO⟩:=wu h cq.length cg.length
  rw[ew,fp];exact abb (tupleKind_room_in1 (hU bM)) eh l3 iv gh jV (λe=>HV R (hU (k:=5) bM) cg cq (g e)) (iO▸q)
 .exact ZH R bM bT cR h hk q
theorem mH:OpOk prog w h₁ k (eV (compareOp .NotEq)) gk:=
 .fI λW σ a br r cu bT aI=>.more (λr=>a::r) (λr=>br::r) aI λb bU q dx cR b5=>.end (λq=>a::b::q) (λq=>br::bU::q) b5 λA s Q E aE aX R=>wpN.of<|by
 obtain⟨r,aI,aX⟩:=(aJ.map aX).cC
 have q:=dg.at aX R (.bool (!r)) s.toks
 have bM:=aE.line
 have jV:A.units<cLine:=hU (k:=0) bM
 rcases Gs (oa:=gD a σ) (ob:=gD b σ) (ta:=gy a σ) (tb:=gy b σ) aI with⟨x,y,av,bF,h⟩|⟨x,y,av,bF,h⟩|⟨h,hk⟩
 .obtain⟨l,fc,ew,eh,iv,cq⟩:=nG R bT av
  obtain⟨ba,dt,fp,l3,gh,cg⟩:=nG R cR bF
  obtain⟨cu,g,iO⟩:=wu h cq.length cg.length
  rw[ew,fp];exact keq_ne eh l3 iv gh jV (λe=>HT R (hU (k:=5) bM) cg cq (g e)) (iO▸q)
 .obtain⟨l,fc,ew,eh,iv,cq⟩:=nr R bT av
  obtain⟨ba,dt,fp,l3,gh,cg⟩:=nr R cR bF
  obtain⟨cu,g,iO⟩:=wu h cq.length cg.length
  rw[ew,fp];exact abc (tupleKind_room_in1 (hU bM)) eh l3 iv gh jV (λe=>HV R (hU (k:=5) bM) cg cq (g e)) (iO▸q)
 .exact ZI R bM bT cR h hk q
noncomputable def kO(x:J):List J->Option Bool
 |[]=>some false
 |y::r=>(c0 8 y x).bind λa=>(kO x r).map λb=>a||b
theorem MQ:∀{r:Bool},kO x vs=some r->(∀y∈vs,∃q,c0 8 y x=some q)/\(r=true↔∃y∈vs,c0 8 y x=some true):=
 List.rec (motive:=λvs=>∀{r:Bool},kO x vs=some r->(∀y∈vs,∃q,c0 8 y x=some q)/\(r=true↔∃y∈vs,c0 8 y x=some true))
  (λh=>⟨dJ _,⟨λe=>cT ((b9 h).trans e),λ⟨_,h,_⟩=>absurd h hP⟩⟩) (λy vs aZ r h=>by
  obtain⟨a,ha,h⟩:=bind_some (show(c0 8 y x).bind _=some r from h)
  obtain⟨b,ag,h⟩:=fS.mp h
  obtain⟨h1,h2⟩:=aZ ag
  refine⟨bO.mpr ⟨⟨a,ha⟩,h1⟩,?_⟩
  rw[<-h,Bool.or_eq_true,h2]
  refine⟨λq=>?_,λq=>?_⟩
  .rcases q with e|⟨z,hz,e⟩
   .exact⟨y,List.mem_cons_self,ha.trans (congrArg some e)⟩
   .exact⟨z,List.mem_cons_of_mem _ hz,e⟩
  .obtain⟨z,hz,e⟩:=q
   rcases fj.mp hz with a9|hz
   .rw[a9] at e;exact .inl (b9 (ha.symm.trans e))
   .exact .inr ⟨z,hz,e⟩) vs
open Classical in
theorem v9{A:Around}(R:bB prog w h₁ W σ s.heap)(bM:A.units+200<cLine){items:Array Value}{r:Bool}(eN:aN prog w W σ.next x dN)(q:bw prog w W σ.next vs items.toList)
 (h:kO x vs=some r):∃e:Value->Bool,(∀y,y∈items->EqAt A.in1 s y dN (e y))/\items.any e=r:=by
 obtain⟨h1,h2⟩:=MQ h
 have len:=q.length
 have bZ:∀(ai:Nat) gz,items.toList[ai]? =some gz->∃y,vs[ai]? =some y/\aN prog w W σ.next y gz:=λai gz e=>by
  have cK:ai<vs.length:=by rw[<-len];exact(l5.mp e).1
  obtain⟨oG,a7,bN⟩:=q.get (hN cK)
  rw[e] at a7;cases a7
  exact⟨_,hN cK,bN⟩
 have at':=q5 R 8 A.in1 (hU (k:=9) bM)
 refine⟨λgz=>decide (∃(ai:Nat) (y:J),items.toList[ai]? =some gz/\vs[ai]? =some y/\c0 8 y x=some true),λgz bF=>?_,?_⟩
 .by_cases aw:∃(ai:Nat) (y:J),items.toList[ai]? =some gz/\vs[ai]? =some y/\c0 8 y x=some true
  .dsimp only
   rw[show(decide (∃(ai:Nat) (y:J),items.toList[ai]? =some gz/\vs[ai]? =some y/\c0 8 y x=some true))=true from decide_eq_true aw]
   obtain⟨ai,y,a9,a7,e3⟩:=aw
   obtain⟨oG,eX,nj⟩:=bZ ai gz a9
   rw[a7] at eX;cases eX
   exact at' _ _ _ _ _ nj eN e3
  .dsimp only
   rw[show(decide (∃(ai:Nat) (y:J),items.toList[ai]? =some gz/\vs[ai]? =some y/\c0 8 y x=some true))=false from decide_eq_false aw]
   obtain⟨ai,a9⟩:=List.mem_iff_getElem?.mp (Array.mem_toList_iff.mpr bF)
   obtain⟨y,a7,nj⟩:=bZ ai gz a9
   obtain⟨b,ag⟩:=h1 y (List.mem_iff_getElem?.mpr ⟨ai,a7⟩)
   induction b with
   |true=>exact absurd ⟨ai,y,a9,a7,ag⟩ aw
   |false=>exact at' _ _ _ _ _ nj eN ag
 .rw[Bool.eq_iff_iff,Array.any_eq_true,h2]
  constructor
  .rintro⟨i,hi,e⟩
   obtain⟨ai,y,a9,a7,e3⟩:=of_decide_eq_true e
   exact⟨y,List.mem_iff_getElem?.mpr ⟨ai,a7⟩,e3⟩
  .rintro⟨y,bF,e⟩
   obtain⟨ai,a7⟩:=List.mem_iff_getElem?.mp bF
   obtain⟨gz,a9,nj⟩:=q.get a7
   rw[Array.getElem?_toList] at a9
   obtain⟨cK,e3⟩:=Array.getElem?_eq_some_iff.mp a9
   refine⟨ai,cK,?_⟩
   rw[e3]
   exact decide_eq_true ⟨ai,y,by rw[Array.getElem?_toList];exact a9,a7,e⟩
noncomputable def m8(x c:J)(σ:St):Option Bool:=match gD c σ with
 |some es=>(toAtom x).map λk=>(d2 es k).isSome
 |none=>match gy c σ with
  |some es=>(toKey x).map λk=>(d2 es k).isSome
  |none=>match c with
   |.bo vs=>kO x vs
   |c=>(ff c σ).bind (kO x)
noncomputable def fV:b3
 |[x,c],σ=>(m8 x c σ).map λr=>(.bool r,σ)
 |_,_=>none
noncomputable def pl:b3
 |[x,c],σ=>(m8 x c σ).map λr=>(.bool (!r),σ)
 |_,_=>none
noncomputable def BS(oa:Option (List (bq×J)))(ta:Option (List (List bq×J)))(x c:J)(σ:St):Option Bool:=match oa with
 |some es=>(toAtom x).map λk=>(d2 es k).isSome
 |none=>match ta with
  |some es=>(toKey x).map λk=>(d2 es k).isSome
  |none=>match c with
   |.bo vs=>kO x vs
   |c=>(ff c σ).bind (kO x)
inductive nD (x c:J) (σ:St) (r:Bool):Prop
 |ad (es:List (bq×J)) (k:bq) (h1:gD c σ=some es) (h2:toAtom x=some k) (aR:(d2 es k).isSome=r)
 |q2 (es:List (List bq×J)) (k:List bq) (h1:gy c σ=some es) (h2:toKey x=some k) (aR:(d2 es k).isSome=r)
 |bo (vs:List J) (h1:c=.bo vs) (aR:kO x vs=some r)
 |uv (vs:List J) (h1:ff c σ=some vs) (aR:kO x vs=some r)
theorem nD.hV(h:((ff c σ).bind (kO x))=some r):nD x c σ r:=by
 obtain⟨vs,h1,h2⟩:=bind_some h;exact .uv vs h1 h2
theorem nD.CK(h:BS none none x c σ=some r):nD x c σ r:=
 J.casesOn (motive_1:=λc=>BS none none x c σ=some r->nD x c σ r) c (λh=>.hV h) (λ_ h=>.hV h) (λ_ h=>.hV h) (λ_ h=>.hV h) (λ_ h=>.hV h) (λvs h=>.bo vs rfl h) (λ_ h=>.hV h) (λ_ h=>.hV h) (λ_ _ _ h=>.hV h) (λ_ h=>.hV h) (λ_ h=>.hV h) h
theorem nD.of(h:m8 x c σ=some r):nD x c σ r:=by
 have h:BS (gD c σ) (gy c σ) x c σ=some r:=h
 rcases ew:gD c σ with _|es
 .rw[ew] at h
  rcases fp:gy c σ with _|es
  .rw[fp] at h;exact .CK h
  .rw[fp] at h
   obtain⟨k,h1,h2⟩:=fS.mp h
   exact .q2 es k fp h1 h2
 .rw[ew] at h
  obtain⟨k,h1,h2⟩:=fS.mp h
  exact .ad es k ew h1 h2
theorem KZ(q:ei prog w W n es dt)(a:bq):(valueAt dt a).isSome=(d2 es a).isSome:=by
 rcases q.at a with⟨h1,h2⟩|⟨_,_,h1,h2,_⟩
 .rw[h1,h2];rfl
 .rw[h1,h2];rfl
theorem K0(q:TRel prog w W n es dt)(a:List bq):(atKey dt a).isSome=(d2 es a).isSome:=by
 rcases q.at a with⟨h1,h2⟩|⟨_,_,_,h1,h2,_⟩
 .rw[h1,h2];rfl
 .rw[h1,h2];rfl
theorem jz:OpOk prog w h₁ k (eV (compareOp .In)) fV:=
 .fI λW σ x dN r cu eN aI=>.more (λr=>x::r) (λr=>dN::r) aI λc cp q dx eo b5=>.end (λq=>x::c::q) (λq=>dN::cp::q) b5 λA s Q E aE aX R=>wpN.of<|e0 λG bZ=>by
 obtain⟨r,aI,aX⟩:=(aJ.map aX).cC
 have aQ:=λcf=>dg.at aX R (.bool r) cf
 rcases nD.of aI with⟨es,a,h1,ha,aR⟩|⟨es,a,h1,ha,aR⟩|⟨vs,qb,aR⟩|⟨vs,h1,aR⟩
 .obtain⟨l,dt,e,z,d,q⟩:=nG R eo h1
  refine bZ ?_
  rw[e]
  refine wpAny_in_of (knd:=hF prog w) (toAtom_is eN ha) z d.mapOf ?_
  rw[KZ q,aR];exact aQ _
 .obtain⟨l,dt,e,z,d,q⟩:=nr R eo h1
  obtain⟨wb,nO,_,hk⟩:=toKey_is R eN ha
  refine bZ ?_
  rw[e,nO]
  refine wpAny_in_heap (tupleKind_room_in1 (hU aE.line)) hk z d ?_
  rw[K0 q,aR];exact aQ _
 .rw[qb] at eo
  obtain⟨l,items,m,e,bc,cE,cq⟩:=eo.ky R
  obtain⟨f,h1,h2⟩:=v9 (A:=A) R aE.line eN cq aR
  refine bZ ?_
  rw[e]
  refine in_tupleAt f ⟨_,cE,rfl,_,rfl⟩ h1 ?_
  rw[h2];exact aQ s.toks
 .obtain⟨l,items,e,cE,cq⟩:=hq R eo h1
  obtain⟨f,h1,h2⟩:=v9 (A:=A) R aE.line eN cq aR
  refine bZ ?_
  rw[e]
  refine in_listAt f cE h1 ?_
  rw[h2];exact aQ s.toks
theorem CC:OpOk prog w h₁ k (eV (compareOp .NotIn)) pl:=
 .fI λW σ x dN r cu eN aI=>.more (λr=>x::r) (λr=>dN::r) aI λc cp q dx eo b5=>.end (λq=>x::c::q) (λq=>dN::cp::q) b5 λA s Q E aE aX R=>wpN.of<|e0 λG bZ=>by
 obtain⟨r,aI,aX⟩:=(aJ.map aX).cC
 have aQ:=λcf=>dg.at aX R (.bool (!r)) cf
 rcases nD.of aI with⟨es,a,h1,ha,aR⟩|⟨es,a,h1,ha,aR⟩|⟨vs,qb,aR⟩|⟨vs,h1,aR⟩
 .obtain⟨l,dt,e,z,d,q⟩:=nG R eo h1
  refine bZ ?_
  rw[e]
  refine wpAny_notIn_of (knd:=hF prog w) (toAtom_is eN ha) z d.mapOf ?_
  rw[KZ q,aR];exact aQ _
 .obtain⟨l,dt,e,z,d,q⟩:=nr R eo h1
  obtain⟨wb,nO,_,hk⟩:=toKey_is R eN ha
  refine bZ ?_
  rw[e,nO]
  refine wpAny_notIn_heap (tupleKind_room_in1 (hU aE.line)) hk z d ?_
  rw[K0 q,aR];exact aQ _
 .rw[qb] at eo
  obtain⟨l,items,m,e,bc,cE,cq⟩:=eo.ky R
  obtain⟨f,h1,h2⟩:=v9 (A:=A) R aE.line eN cq aR
  refine bZ ?_
  rw[e]
  refine notIn_tupleAt f ⟨_,cE,rfl,_,rfl⟩ h1 ?_
  rw[h2];exact aQ s.toks
 .obtain⟨l,items,e,cE,cq⟩:=hq R eo h1
  obtain⟨f,h1,h2⟩:=v9 (A:=A) R aE.line eN cq aR
  refine bZ ?_
  rw[e]
  refine notIn_listAt f cE h1 ?_
  rw[h2];exact aQ s.toks
noncomputable def oh:J->Option Bool
 |.none=>some true
 |.bY _=>none
 |_=>some false
theorem Jy(h:aN prog w W n v ay)(e:oh v=some b):(ay==.none)=b:=
 aN.casesOn (motive_1:=λv ay _=>oh v=some b->(ay==Value.none)=b) h (λe=>b9 e) (λ_ e=>b9 e) (λ_ _ e=>b9 e) (λ_ _ e=>b9 e) (λ_ _ e=>b9 e) (λ_ _ e=>b9 e) (λ_ _ _ _ e=>b9 e) (λ_ _ _ _ e=>b9 e) (λ_ e=>b9 e) (λ_ e=>b9 e) (λ_ e=>aq e) e
noncomputable def jx:b3
 |[a,.none],σ=>(oh a).map λr=>(.bool r,σ)
 |_,_=>none
noncomputable def lL:b3
 |[a,.none],σ=>(oh a).map λr=>(.bool (!r),σ)
 |_,_=>none
theorem qU:OpOk prog w h₁ k (eV (compareOp .Is)) jx:=
 .fI λW σ x dN r cu eN aI=>.more (λr=>x::r) (λr=>dN::r) aI λc cp q dx eo b5=>.none (λc=>x::c::q) (λc=>dN::c::dx) eo<|.end (λq=>x::_::q) (λq=>dN::_::q) b5 λA s Q E aE aX R=>wpN.of<|by
 obtain⟨r,aI,aX⟩:=(aJ.map aX).cC
 exact is_none_gen (by rw[Jy eN aI];exact dg.at aX R (.bool _) s.toks)
theorem uH:OpOk prog w h₁ k (eV (compareOp .IsNot)) lL:=
 .fI λW σ x dN r cu eN aI=>.more (λr=>x::r) (λr=>dN::r) aI λc cp q dx eo b5=>.none (λc=>x::c::q) (λc=>dN::c::dx) eo<|.end (λq=>x::_::q) (λq=>dN::_::q) b5 λA s Q E aE aX R=>wpN.of<|by
 obtain⟨r,aI,aX⟩:=(aJ.map aX).cC
 exact isNot_none (by rw[Jy eN aI];exact dg.at aX R (.bool _) s.toks)
noncomputable def yl(vs:List J)(i:Int):Option J:=if-2^63<=i/\i<2^63 then(seqIndex? i vs.length).bind λai=>vs[ai]? else none
noncomputable def ph(vs:List J)(i:Int):Option J:=if 0<=i/\i<2^63 then vs[i.toNat]? else none
noncomputable def gu(o i:J)(σ:St):Option J:=match gD o σ with
 |some es=>(toAtom i).bind λk=>d2 es k
 |none=>match gy o σ with
  |some es=>(toKey i).bind λk=>d2 es k
  |none=>match i with
   |.int ai=>(match o with
    |.bo vs=>yl vs ai
    |o=>(ff o σ).bind λvs=>ph vs ai)
   |_=>none
noncomputable def a8:b3
 |[o,i],σ=>(gu o i σ).map λv=>(v,σ)
 |_,_=>none
noncomputable def xr(oa:Option (List (bq×J)))(ta:Option (List (List bq×J)))(o i:J)(σ:St):Option J:=match oa with
 |some es=>(toAtom i).bind λk=>d2 es k
 |none=>match ta with
  |some es=>(toKey i).bind λk=>d2 es k
  |none=>match i with
   |.int ai=>(match o with
    |.bo vs=>yl vs ai
    |o=>(ff o σ).bind λvs=>ph vs ai)
   |_=>none
inductive nE (o i:J) (σ:St) (r:J):Prop
 |ad (es:List (bq×J)) (k:bq) (h1:gD o σ=some es) (h2:toAtom i=some k) (aR:d2 es k=some r)
 |q2 (es:List (List bq×J)) (k:List bq) (h1:gy o σ=some es) (h2:toKey i=some k) (aR:d2 es k=some r)
 |bo (vs:List J) (ai:Int) (h1:o=.bo vs) (h2:i=.int ai) (aR:yl vs ai=some r)
 |uv (vs:List J) (ai:Int) (h1:ff o σ=some vs) (h2:i=.int ai) (aR:ph vs ai=some r)
theorem nE.hV(h:((ff o σ).bind λvs=>ph vs ai)=some r):nE o (.int ai) σ r:=by
 obtain⟨vs,h1,h2⟩:=bind_some h;exact .uv vs ai h1 rfl h2
theorem nE.CK(h:xr none none o i σ=some r):nE o i σ r:=
 J.casesOn (motive_1:=λi=>xr none none o i σ=some r->nE o i σ r) i (λh=>aq h) (λ_ h=>aq h) (λai=>J.casesOn (motive_1:=λo=>xr none none o (.int ai) σ=some r->nE o (.int ai) σ r) o (λh=>.hV h) (λ_ h=>.hV h) (λ_ h=>.hV h) (λ_ h=>.hV h) (λ_ h=>.hV h) (λvs h=>.bo vs ai rfl rfl h) (λ_ h=>.hV h) (λ_ h=>.hV h) (λ_ _ _ h=>.hV h) (λ_ h=>.hV h) (λ_ h=>.hV h)) (λ_ h=>aq h) (λ_ h=>aq h) (λ_ h=>aq h) (λ_ h=>aq h) (λ_ h=>aq h) (λ_ _ _ h=>aq h) (λ_ h=>aq h) (λ_ h=>aq h) h
theorem nE.of(h:gu o i σ=some r):nE o i σ r:=by
 have h:xr (gD o σ) (gy o σ) o i σ=some r:=h
 rcases ew:gD o σ with _|es
 .rw[ew] at h
  rcases fp:gy o σ with _|es
  .rw[fp] at h;exact .CK h
  .rw[fp] at h
   obtain⟨k,h1,h2⟩:=bind_some h
   exact .q2 es k fp h1 h2
 .rw[ew] at h
  obtain⟨k,h1,h2⟩:=bind_some h
  exact .ad es k ew h1 h2
theorem U9(hs:autoParam (∀o i,subscripted slice false o i=operate [o,i] (getItem o i)) L5._auto_1):OpOk prog w h₁ k (eV (subscriptTail value slice)) a8:=
 .fI λW σ o cV r cu eN aI=>.more (λr=>o::r) (λr=>cV::r) aI λi k1 q dx eo b5=>.end (λq=>o::i::q) (λq=>cV::k1::q) b5 λA s Q E aE aX R=>wpN.of<|e0 λG bZ=>by
 obtain⟨v,aI,aX⟩:=(aJ.map aX).cC
 rcases nE.of aI with⟨es,a,h1,ha,aR⟩|⟨es,a,h1,ha,aR⟩|⟨vs,ai,hR,gH,aR⟩|⟨vs,ai,h1,gH,aR⟩
 .obtain⟨l,dt,e,z,d,q⟩:=nG R eN h1
  rcases q.at a with⟨g1,_⟩|⟨gY,ay,g1,g2,g3⟩
  .exact aq (g1.symm.trans aR)
  .rw[<-b9 (aR.symm.trans g1)] at g3
   refine bZ ?_
   rw[e]
   exact tail_any d.typeIs slot_dict_getitem.lookup (wpAny_getItem_of (knd:=hF prog w) (toAtom_is eo ha) d.mapOf g2 (dg.at aX R g3 _)) (hs _ _)
 .obtain⟨l,dt,e,z,d,q⟩:=nr R eN h1
  obtain⟨wb,gH,_,hk⟩:=toKey_is R eo ha
  rcases q.at a with⟨g1,_⟩|⟨gY,br,ay,g1,g2,g3⟩
  .exact aq (g1.symm.trans aR)
  .rw[<-b9 (aR.symm.trans g1)] at g3
   refine bZ ?_
   rw[e,gH]
   exact tail_any d.typeIs slot_dict_getitem.lookup (wpAny_getItem_heap (tupleKind_room_in1 (hU aE.line)) hk d g2 (dg.at aX R g3 _)) (hs _ _)
 .rw[gH] at eo
  obtain⟨u,gH⟩:=eo.bf
  rw[hR] at eN
  obtain⟨l,items,m,e,bc,cE,cq⟩:=eN.ky R
  unfold yl at aR
  by_cases ag: -2^63<=ai/\ai<2^63
  .rw[if_pos ag] at aR
   obtain⟨x,cK,aI⟩:=bind_some aR
   obtain⟨ay,a3,fx⟩:=cq.get aI
   rw[<-cq.length,e6] at cK
   rw[Array.getElem?_toList] at a3
   refine bZ ?_
   rw[e,gH]
   exact tail_any (T:="tuple") ⟨_,cE,rfl⟩ PySem.F.slot_tuple_getitem.lookup (P.getItem_tuple cE ag.1 ag.2 cK a3 (dg.at aX R fx s.toks)) (hs _ _)
  .rw[if_neg ag] at aR;exact aq aR
 .rw[gH] at eo
  obtain⟨u,gH⟩:=eo.bf
  obtain⟨l,items,e,cE,cq⟩:=hq R eN h1
  unfold ph at aR
  by_cases ag:0<=ai/\ai<2^63
  .rw[if_pos ag] at aR
   obtain⟨ay,a3,fx⟩:=cq.get aR
   rw[Array.getElem?_toList] at a3
   refine bZ ?_
   rw[e,gH]
   exact tail_any cE.typeIs slot_list_getitem.lookup (wpAny_getItem_list cE ag.1 ag.2 a3 (dg.at aX R fx s.toks)) (hs _ _)
  .rw[if_neg ag] at aR;exact aq aR
theorem b0(h1:bk prog w h₁ own env ns k (eval value env) eW)(h2:bk prog w h₁ own env ns k (eval slice env) ee)
 (hs:autoParam (∀o i,subscripted slice false o i=operate [o,i] (getItem o i)) L5._auto_1):
 bk prog w h₁ own env ns k (eval (.Subscript value slice pos) env) (af a8 eW ee):=by
 refine .of λA W U σ s Q E aE ao R=>LJ (h1.go aE ao.bind R λet cA ao bu dH h1 cL bE ae bA bc=>h2.go aE (aJ.bind ao) bA λgY bH ao bL du h2 tk2 ba aK cx bN=>?_)
 exact cx.mI (s:={s with heap:=h2,toks:=tk2}) (U9 hs) aE ao (.cons (bc.a5 ba.1 aK) (.cons bN .nil)) λv a0 c b4 ay aR cU cY bC dj dF=>
  c b4 ay aR cU ((bE.trans ae ba).trans (cm ae aK) cY) (cm ae (cm aK bC)) dj dF
noncomputable def jB:J->J->J->Option J
 |.bytes b,.none,.int ai=>if 0<=ai/\b.length<=1000000 then some (.bytes (b.take ai.toNat)) else none
 |.bytes b,.int ai,.none=>if 0<=ai/\b.length<=1000000 then some (.bytes (b.drop ai.toNat)) else none
 |.bo vs,.int ai,.none=>if 1<=ai/\ai.toNat<=vs.length/\vs.length<=1000000 then some (.bo (vs.drop ai.toNat)) else none
 |.bo vs,.none,.int ai=>if ai= -1/\1<=vs.length/\vs.length<=1000000 then some (.bo (vs.take (vs.length-1))) else none
 |.bp vs,.none,.int ai=>if 0<=ai/\vs.length<=1000000 then some (.bp (vs.take ai.toNat)) else none
 |_,_,_=>none
noncomputable def ji(D yF yH:c4):c4:=λU σ=>(D U σ).bind λr=>(yF U r.2).bind λl=>(yH U l.2).bind λu=>(jB r.1 l.1 u.1).map λv=>(v,u.2)
theorem acg
 (h:wpN M A (evalPart lower env) (λlo bj=>wpN M A (evalPart upper env) (λhi cZ=>Q (.ref cZ.heap.objs.size) {cZ with heap:=cZ.heap.push {cls:=.type "slice",data:=.fields #[lo,hi,.none]}}) E bj) E s):
 wpN M A (eval (.Slice lower upper .none p) env) Q E s:=by
 rw[arm_eval_Slice]
 refine a6 (cF h (λl bj h₁=>a6 (d8 (cF h₁ (λu cZ eG=>?_) λ_ _ x=>x))) λ_ _ x=>x)
 refine a6 (d8 ?_)
 exact cz (.of (j5 eG))
theorem pv:bk prog w h₁ own env ns k (evalPart .none env) (I .none):=.of λA W U σ s Q E aE ao R=>cz (dC.to ao W _ s.heap s.toks az.le.refl (bt _) R .none)
theorem pw(h:bk prog w h₁ own env ns k (eval e env) D):bk prog w h₁ own env ns k (evalPart (some e) env) D:=h
theorem aaN{Q:Int×Int×Nat->Shared->Prop}(hs:s.heap.IsSliceOf lX .none (.int (-1) u) .none)(aW:1<=n)(h:Q (0,1,n-1) s):
 wpAny (model prog w) A (Builtin.Slice.sliceApplied (.ref lX) (pure (n:Int))) Q E s:=by
 obtain⟨os,pf,qp,rM⟩:=id hs
 unfold Builtin.Slice.sliceApplied Builtin.Slice.sliceFields
 refine aM (aM (wpAny_field pf rM (x:=.none) rfl (aM (wpAny_field pf rM (x:=.int (-1) u) rfl (aM (wpAny_field pf rM (x:=.none) rfl (bx ?_)))))))
 refine aM (slicePart_none ?_)
 show wpAny _ _ (if((1:Int)==0)=true then _ else _) _ _ s
 first|refine iS (by decide) ?_|refine k2 (by decide) ?_
 refine aM (slicePart_none (aM (slicePart_int (aM (bx ?_)))))
 show wpAny _ _ (match Builtin.Slice.sliceAdjust none (some (-1)) 1 (n:Int) with|(lo,hi)=>pure (lo,(1:Int),Builtin.Slice.slicePlaces lo hi 1)) _ _ s
 have ew:Builtin.Slice.sliceAdjust none (some (-1)) 1 (n:Int)=(0,(n:Int)-1):=by
  unfold Builtin.Slice.sliceAdjust
  have h1:¬((1:Int)<0):=by exact aC.Vp
  simp only[h1,if_false]
  congr 1
  have aR:((-1:Int)<0):=by exact aC.Vw
  simp only[aR,if_true]
  exact aC.VF aW
 rw[ew]
 show wpAny _ _ (pure ((0:Int),(1:Int),Builtin.Slice.slicePlaces 0 ((n:Int)-1) 1)) _ _ s
 have ep:Builtin.Slice.slicePlaces 0 ((n:Int)-1) 1=n-1:=by
  unfold Builtin.Slice.slicePlaces
  have h1:(1:Int)>0:=by exact aC.VQ
  simp only[h1,if_true,Int.ediv_one]
  split<;>omega
 rw[ep]
 exact bx h
theorem RA{Q:Value->Shared->Prop}(ht:IsTup s.heap t items)(hs:s.heap.IsSliceOf lX .none (.int (-1) u) .none)(ha:1<=items.size)
 (h:Q (.ref s.heap.objs.size) {s with heap:=s.heap.push {cls:=.type "tuple",data:=.seq (items.toList.take (items.size-1)).toArray}})
 (hsz:items.size<=sizeLine):wpAny (model prog w) A (getItem (.ref t) (.ref lX)) Q E s:=by
 have lH:sizeOk (.seq (items.toList.take (items.size-1)).toArray):=by
  show(items.toList.take (items.size-1)).toArray.size<=sizeLine
  rw[List.size_toArray,List.length_take,e6]
  exact aC.V7 hsz
 obtain⟨os,pf,qp,rM⟩:=id hs
 have RY:s.TypeIs (.ref lX) "slice":=⟨os,pf,qp⟩
 unfold getItem
 try with_reducible refine wpAny_holding ?_
 first|refine aM (bx ?_)|skip
 refine aM (wpAny_sequenceKey ht.typeIs (by decide) ?_)
 refine aM (wpAny_callSpecial?_slot (name:=Str.ofString "__getitem__") ht.typeIs slot_tuple_getitem
  (wpAny_call_entry slot_tuple_getitem ht.typeIs entry_tuple_getitem ?_ (args_tuple_getitem _ _)))
 show wpAny _ _ (Builtin.Tuple.tupleItemsOf (.ref t)>>=_) _ _ s
 refine aM (tupleItemsOf_ ht ?_)
 refine aM (wpAny_typeOf RY ?_)
 first|refine i9 (by decide) ?_|refine r0 (by decide) ?_
 refine aM (aaN hs ha ?_)
 have Bv:¬(((0:Int)==0&&(1:Int)==1&&(items.size-1)==items.size)=true):=by
  have:((items.size-1)==items.size)=false:=by rw[beq_eq_false_iff_ne];exact aC.Wf ha
  rw[this];simp
 have e:((List.range (items.size-1)).filterMap λ(k:Nat)=>items[((0:Int)+(k:Int)*1).toNat]?).toArray=(items.toList.take (items.size-1)).toArray:=by
  have a9:(λ(k:Nat)=>items[((0:Int)+(k:Int)*1).toNat]?)=λk=>items[0+k]? :=by
   funext k
   have:((0:Int)+(k:Int)*1).toNat=0+k:=by exact aC.Wr
   rw[this]
  rw[a9]
  have:=pick_run items 0 (items.size-1)
  rw[List.filterMap_map] at this
  exact congrArg _ this
 show wpAny _ _ (if((0:Int)==0&&(1:Int)==1&&(items.size-1)==items.size)=true then _ else _) _ _ s
 rw[if_neg Bv,e]
 first
  |exact aM (m:=Builtin.Tuple.tupleExact _) (j5 (bx ⟨_,rfl,bx h⟩) lH)
  |exact aM (m:=Builtin.Tuple.tupleExact _) (j5 (aM (bx (bx ⟨_,rfl,bx h⟩))) lH)
  |exact aM (aM (m:=Builtin.Tuple.tupleExact _) (j5 (bx (bx ⟨_,rfl,bx h⟩)) lH))
  |exact aM (aM (m:=Builtin.Tuple.tupleExact _) (j5 (bx ⟨_,rfl,bx h⟩) lH))
inductive iJ:J->J->J->J->Prop
 |jP (b:List UInt8) (ai:Int) (h:0<=ai/\b.length<=1000000):iJ (.bytes b) .none (.int ai) (.bytes (b.take ai.toNat))
 |oN (b:List UInt8) (ai:Int) (h:0<=ai/\b.length<=1000000):iJ (.bytes b) (.int ai) .none (.bytes (b.drop ai.toNat))
 |oA (vs:List J) (ai:Int) (h:1<=ai/\ai.toNat<=vs.length/\vs.length<=1000000):iJ (.bo vs) (.int ai) .none (.bo (vs.drop ai.toNat))
 |eV (vs:List J) (ai:Int) (h:ai= -1/\1<=vs.length/\vs.length<=1000000):iJ (.bo vs) .none (.int ai) (.bo (vs.take (vs.length-1)))
 |bE (vs:List J) (ai:Int) (h:0<=ai/\vs.length<=1000000):iJ (.bp vs) .none (.int ai) (.bp (vs.take ai.toNat))
theorem ue{cy:Decidable c}{P:J->Prop}(h:(if c then some a else none)=some b)(k:c->P a):P b:=by
 by_cases e:c
 .rw[if_pos e] at h;exact b9 h▸k e
 .rw[if_neg e] at h;exact aq h
theorem iJ.of(h:jB a b c=some d):iJ a b c d:=
 J.casesOn (motive_1:=λa=>jB a b c=some d->iJ a b c d) a (λh=>aq h) (λ_ h=>aq h) (λ_ h=>aq h) (λ_ h=>aq h) (λy=>J.casesOn (motive_1:=λb=>jB (.bytes y) b c=some d->iJ (.bytes y) b c d) b (J.casesOn (motive_1:=λc=>jB (.bytes y) (.none) c=some d->iJ (.bytes y) (.none) c d) c (λh=>aq h) (λ_ h=>aq h) (λ_ h=>ue h λq=>.jP _ _ q) (λ_ h=>aq h) (λ_ h=>aq h) (λ_ h=>aq h) (λ_ h=>aq h) (λ_ h=>aq h) (λ_ _ _ h=>aq h) (λ_ h=>aq h) (λ_ h=>aq h)) (λ_ h=>aq h) (λx=>J.casesOn (motive_1:=λc=>jB (.bytes y) (.int x) c=some d->iJ (.bytes y) (.int x) c d) c (λh=>ue h λq=>.oN _ _ q) (λ_ h=>aq h) (λ_ h=>aq h) (λ_ h=>aq h) (λ_ h=>aq h) (λ_ h=>aq h) (λ_ h=>aq h) (λ_ h=>aq h) (λ_ _ _ h=>aq h) (λ_ h=>aq h) (λ_ h=>aq h)) (λ_ h=>aq h) (λ_ h=>aq h) (λ_ h=>aq h) (λ_ h=>aq h) (λ_ h=>aq h) (λ_ _ _ h=>aq h) (λ_ h=>aq h) (λ_ h=>aq h)) (λy=>J.casesOn (motive_1:=λb=>jB (.bo y) b c=some d->iJ (.bo y) b c d) b (J.casesOn (motive_1:=λc=>jB (.bo y) (.none) c=some d->iJ (.bo y) (.none) c d) c (λh=>aq h) (λ_ h=>aq h) (λ_ h=>ue h λq=>.eV _ _ q) (λ_ h=>aq h) (λ_ h=>aq h) (λ_ h=>aq h) (λ_ h=>aq h) (λ_ h=>aq h) (λ_ _ _ h=>aq h) (λ_ h=>aq h) (λ_ h=>aq h)) (λ_ h=>aq h) (λx=>J.casesOn (motive_1:=λc=>jB (.bo y) (.int x) c=some d->iJ (.bo y) (.int x) c d) c (λh=>ue h λq=>.oA _ _ q) (λ_ h=>aq h) (λ_ h=>aq h) (λ_ h=>aq h) (λ_ h=>aq h) (λ_ h=>aq h) (λ_ h=>aq h) (λ_ h=>aq h) (λ_ _ _ h=>aq h) (λ_ h=>aq h) (λ_ h=>aq h)) (λ_ h=>aq h) (λ_ h=>aq h) (λ_ h=>aq h) (λ_ h=>aq h) (λ_ h=>aq h) (λ_ _ _ h=>aq h) (λ_ h=>aq h) (λ_ h=>aq h)) (λy=>J.casesOn (motive_1:=λb=>jB (.bp y) b c=some d->iJ (.bp y) b c d) b (J.casesOn (motive_1:=λc=>jB (.bp y) (.none) c=some d->iJ (.bp y) (.none) c d) c (λh=>aq h) (λ_ h=>aq h) (λ_ h=>ue h λq=>.bE _ _ q) (λ_ h=>aq h) (λ_ h=>aq h) (λ_ h=>aq h) (λ_ h=>aq h) (λ_ h=>aq h) (λ_ _ _ h=>aq h) (λ_ h=>aq h) (λ_ h=>aq h)) (λ_ h=>aq h) (λ_ h=>aq h) (λ_ h=>aq h) (λ_ h=>aq h) (λ_ h=>aq h) (λ_ h=>aq h) (λ_ h=>aq h) (λ_ _ _ h=>aq h) (λ_ h=>aq h) (λ_ h=>aq h)) (λ_ h=>aq h) (λ_ _ _ h=>aq h) (λ_ h=>aq h) (λ_ h=>aq h) h
theorem YX{b:List UInt8}(ag:0<=ai):KBy.picked b.toArray none (some ai)=(b.take ai.toNat).toArray:=by
 rw[KBc.picked_eq]
 obtain⟨ai,rfl⟩:=Int.eq_ofNat_of_zero_le ag
 simp only[Option.elim,clipAt_nat,List.drop_zero,Nat.sub_zero,Int.toNat_natCast,List.size_toArray]
 rcases Nat.le_total ai b.length with q|q
 .rw[Nat.min_eq_left q]
 .rw[Nat.min_eq_right q,List.take_of_length_le q,List.take_of_length_le (bt _)]
theorem YY{b:List UInt8}(ag:0<=ai):KBy.picked b.toArray (some ai) none=(b.drop ai.toNat).toArray:=by
 rw[KBc.picked_eq]
 obtain⟨ai,rfl⟩:=Int.eq_ofNat_of_zero_le ag
 simp only[Option.elim,clipAt_nat,Int.toNat_natCast,List.size_toArray]
 rcases Nat.le_total ai b.length with q|q
 .rw[Nat.min_eq_left q,List.take_of_length_le (by simp)]
 .rw[Nat.min_eq_right q,List.drop_of_length_le (bt _),List.drop_of_length_le q];simp
theorem sf(h:n<=1000000):n<=sizeLine:=cm h (by decide)
theorem aaI{aR:Heap}{cU:Nat}{dH du d7:Value}{Q E:Value->Shared->Prop}(d':bG prog w h₁ own env ns b4 U dv (aR.push {cls:=.type "slice",data:=.fields #[du,d7,.none]}))(gJ:(aR.push {cls:=.type "slice",data:=.fields #[du,d7,.none]}).IsSliceOf aR.objs.size du d7 .none){b:List UInt8}{ai:Int}(h:0<=ai/\b.length<=1000000)
 (bc:aN prog w b4 dv.next (.bytes b) dH)(bN:aN prog w b4 dv.next .none du)(dF:aN prog w b4 dv.next (.int ai) d7)(aQ:dC prog w h₁ (aN prog w) own env ns b4 U dv s Q (.bytes (b.take ai.toNat)) dv):
 wpAny (model prog w) A (subscriptTail value (.Slice lower upper .none p) dH (.ref aR.objs.size)) Q E {s with heap:=aR.push {cls:=.type "slice",data:=.fields #[du,d7,.none]},toks:=cU}:=by
 obtain⟨t,a9⟩:=bc.bf
 have a7:du=.none:=bN.bf
 obtain⟨u,e3⟩:=dF.bf
 rw[a7,e3] at gJ d'⊢
 rw[a9]
 refine tail_any (typeIs_bytes _ _ _) FB.slot_bytes_getitem.lookup (getItem_meets (typeIs_bytes _ _ _) (by decide) FB.slot_bytes_getitem FB.entry_bytes_getitem (FB.args_bytes_getitem_2 _ _) (KBc.meets_slice2 b.toArray t _ .none (.int ai u))
  ⟨gJ,cm (KBc.size_picked_le _ _ _) (sf h.2),λdQ k=>?_⟩) rfl
 rw[YX h.1]
 exact aQ b4 _ _ _ az.le.refl (bt _) d' (.bytes _ _)
theorem aaJ{aR:Heap}{cU:Nat}{dH du d7:Value}{Q E:Value->Shared->Prop}(d':bG prog w h₁ own env ns b4 U dv (aR.push {cls:=.type "slice",data:=.fields #[du,d7,.none]}))(gJ:(aR.push {cls:=.type "slice",data:=.fields #[du,d7,.none]}).IsSliceOf aR.objs.size du d7 .none){b:List UInt8}{ai:Int}(h:0<=ai/\b.length<=1000000)
 (bc:aN prog w b4 dv.next (.bytes b) dH)(bN:aN prog w b4 dv.next (.int ai) du)(dF:aN prog w b4 dv.next .none d7)(aQ:dC prog w h₁ (aN prog w) own env ns b4 U dv s Q (.bytes (b.drop ai.toNat)) dv):
 wpAny (model prog w) A (subscriptTail value (.Slice lower upper .none p) dH (.ref aR.objs.size)) Q E {s with heap:=aR.push {cls:=.type "slice",data:=.fields #[du,d7,.none]},toks:=cU}:=by
 obtain⟨t,a9⟩:=bc.bf
 have e3:d7=.none:=dF.bf
 obtain⟨u,a7⟩:=bN.bf
 rw[a7,e3] at gJ d'⊢
 rw[a9]
 refine tail_any (typeIs_bytes _ _ _) FB.slot_bytes_getitem.lookup (getItem_meets (typeIs_bytes _ _ _) (by decide) FB.slot_bytes_getitem FB.entry_bytes_getitem (FB.args_bytes_getitem_2 _ _) (KBc.meets_slice2 b.toArray t _ (.int ai u) .none)
  ⟨gJ,cm (KBc.size_picked_le _ _ _) (sf h.2),λdQ k=>?_⟩) rfl
 rw[YY h.1]
 exact aQ b4 _ _ _ az.le.refl (bt _) d' (.bytes _ _)
theorem aaL{aR:Heap}{cU:Nat}{dH du d7:Value}{Q E:Value->Shared->Prop}(d':bG prog w h₁ own env ns b4 U dv (aR.push {cls:=.type "slice",data:=.fields #[du,d7,.none]}))(gJ:(aR.push {cls:=.type "slice",data:=.fields #[du,d7,.none]}).IsSliceOf aR.objs.size du d7 .none){vs:List J}{ai:Int}(h:1<=ai/\ai.toNat<=vs.length/\vs.length<=1000000)
 (bc:aN prog w b4 dv.next (.bo vs) dH)(bN:aN prog w b4 dv.next (.int ai) du)(dF:aN prog w b4 dv.next .none d7)(aQ:dC prog w h₁ (aN prog w) own env ns b4 U dv s Q (.bo (vs.drop ai.toNat)) dv):
 wpAny (model prog w) A (subscriptTail value (.Slice lower upper .none p) dH (.ref aR.objs.size)) Q E {s with heap:=aR.push {cls:=.type "slice",data:=.fields #[du,d7,.none]},toks:=cU}:=by
 have e3:d7=.none:=dF.bf
 obtain⟨u,a7⟩:=bN.bf
 rw[a7,e3] at gJ d'⊢
 obtain⟨l,items,m,a9,KD,cE,cq⟩:=bc.ky d'.bI
 rw[a9]
 have eY:items.size=vs.length:=by rw[<-e6];exact cq.length
 obtain⟨ai,rfl⟩:=Int.eq_ofNat_of_zero_le (Int.le_trans (by decide) h.1)
 refine tail_any (T:="tuple") ⟨_,cE,rfl⟩ PySem.F.slot_tuple_getitem.lookup (getItem_tuple_from (a:=ai) ⟨_,cE,rfl,_,rfl⟩ gJ (Int.ofNat_le.mp h.1) (eY▸h.2.1) ?_ (eY▸sf h.2.2)) rfl
 obtain⟨e7,ie⟩:=d'.ia {cls:=.type "tuple",data:=.seq (items.toList.drop ai).toArray} rfl
 exact aQ _ _ _ cU ie (bt _) e7 (.bo (k:=0) az.c5 ((cq.drop ai).a5 ie.1 (bt _)))
theorem aaM{aR:Heap}{cU:Nat}{dH du d7:Value}{Q E:Value->Shared->Prop}(d':bG prog w h₁ own env ns b4 U dv (aR.push {cls:=.type "slice",data:=.fields #[du,d7,.none]}))(gJ:(aR.push {cls:=.type "slice",data:=.fields #[du,d7,.none]}).IsSliceOf aR.objs.size du d7 .none){vs:List J}{ai:Int}(h:ai= -1/\1<=vs.length/\vs.length<=1000000)
 (bc:aN prog w b4 dv.next (.bo vs) dH)(bN:aN prog w b4 dv.next .none du)(dF:aN prog w b4 dv.next (.int ai) d7)(aQ:dC prog w h₁ (aN prog w) own env ns b4 U dv s Q (.bo (vs.take (vs.length-1))) dv):
 wpAny (model prog w) A (subscriptTail value (.Slice lower upper .none p) dH (.ref aR.objs.size)) Q E {s with heap:=aR.push {cls:=.type "slice",data:=.fields #[du,d7,.none]},toks:=cU}:=by
 have a7:du=.none:=bN.bf
 obtain⟨u,e3⟩:=dF.bf
 rw[h.1] at e3
 rw[a7,e3] at gJ d'⊢
 obtain⟨l,items,m,a9,KD,cE,cq⟩:=bc.ky d'.bI
 rw[a9]
 have eY:items.size=vs.length:=by rw[<-e6];exact cq.length
 have cg:=cq.take (vs.length-1)
 rw[<-eY] at cg aQ
 refine tail_any (T:="tuple") ⟨_,cE,rfl⟩ PySem.F.slot_tuple_getitem.lookup (RA ⟨_,cE,rfl,_,rfl⟩ gJ (eY▸h.2.1) ?_ (eY▸sf h.2.2)) rfl
 obtain⟨e7,ie⟩:=d'.ia {cls:=.type "tuple",data:=.seq (items.toList.take (items.size-1)).toArray} rfl
 exact aQ _ _ _ cU ie (bt _) e7 (.bo (k:=0) az.c5 (cg.a5 ie.1 (bt _)))
theorem aaK{aR:Heap}{cU:Nat}{dH du d7:Value}{Q E:Value->Shared->Prop}(d':bG prog w h₁ own env ns b4 U dv (aR.push {cls:=.type "slice",data:=.fields #[du,d7,.none]}))(gJ:(aR.push {cls:=.type "slice",data:=.fields #[du,d7,.none]}).IsSliceOf aR.objs.size du d7 .none){vs:List J}{ai:Int}(h:0<=ai/\vs.length<=1000000)
 (bc:aN prog w b4 dv.next (.bp vs) dH)(bN:aN prog w b4 dv.next .none du)(dF:aN prog w b4 dv.next (.int ai) d7)(aQ:dC prog w h₁ (aN prog w) own env ns b4 U dv s Q (.bp (vs.take ai.toNat)) dv):
 wpAny (model prog w) A (subscriptTail value (.Slice lower upper .none p) dH (.ref aR.objs.size)) Q E {s with heap:=aR.push {cls:=.type "slice",data:=.fields #[du,d7,.none]},toks:=cU}:=by
 have a7:du=.none:=bN.bf
 obtain⟨u,e3⟩:=dF.bf
 rw[a7,e3] at gJ d'⊢
 obtain⟨l,items,a9,cE,cq⟩:=hq d'.bI bc rfl
 rw[a9]
 have eY:items.size=vs.length:=by rw[<-e6];exact cq.length
 obtain⟨ai,rfl⟩:=Int.eq_ofNat_of_zero_le h.1
 refine tail_any (Heap.IsList.typeIs (s:={s with heap:=aR.push {cls:=.type "slice",data:=.fields #[.none,.int ai u,.none]},toks:=cU}) cE) list_getitem_lookup (wpAny_getItem_list_slice cE gJ .none (.int _ _) .none (by simp) ?_ (eY▸sf h.2)) rfl
 rw[slicePick_upto']
 obtain⟨e7,ie⟩:=d'.ia {cls:=.type "list",data:=.seq (items.toList.take ai).toArray} rfl
 exact aQ _ _ _ cU ie (bt _) e7 (.bp az.c5 rfl rfl ((cq.take ai).a5 ie.1 (bt _)))
theorem aaO(dj:bG prog w h₁ own env ns b4 U dv aR)
 (bc:aN prog w b4 dv.next et dH)(bN:aN prog w b4 dv.next gY du)(dF:aN prog w b4 dv.next pE d7)(eX:jB et gY pE=some va)
 (aQ:dC prog w h₁ (aN prog w) own env ns b4 U dv s Q va dv):wpAny (model prog w) A (subscriptTail value (.Slice lower upper .none p) dH (.ref aR.objs.size)) Q E {s with heap:=aR.push {cls:=.type "slice",data:=.fields #[du,d7,.none]},toks:=cU}:=
 have d':=dj.kV (h':=aR.push {cls:=.type "slice",data:=.fields #[du,d7,.none]}) λb o e=>i2 _ e
 have gJ:(aR.push {cls:=.type "slice",data:=.fields #[du,d7,.none]}).IsSliceOf aR.objs.size du d7 .none:=Heap.IsSliceOf.new _ _ _ _
 iJ.casesOn (motive:=λet gY pE va _=>aN prog w b4 dv.next et dH->aN prog w b4 dv.next gY du->aN prog w b4 dv.next pE d7->dC prog w h₁ (aN prog w) own env ns b4 U dv s Q va dv->wpAny (model prog w) A (subscriptTail value (.Slice lower upper .none p) dH (.ref aR.objs.size)) Q E {s with heap:=aR.push {cls:=.type "slice",data:=.fields #[du,d7,.none]},toks:=cU}) (iJ.of eX)
  (λ_ _ h=>aaI d' gJ h) (λ_ _ h=>aaJ d' gJ h) (λ_ _ h=>aaL d' gJ h) (λ_ _ h=>aaM d' gJ h) (λ_ _ h=>aaK d' gJ h) bc bN dF aQ
theorem oZ(h:bk prog w h₁ own env ns k (eval value env) D)(aG:bk prog w h₁ own env ns k (evalPart lower env) yF)(bM:bk prog w h₁ own env ns k (evalPart upper env) yH):
 bk prog w h₁ own env ns k (eval (.Subscript value (.Slice lower upper .none p) pos) env) (ji D yF yH):=
 .of λA W U σ s Q E aE ao R=>LJ (h.go aE ao.bind R λet cA ao bu dH h1 cL bE ae bA bc=>acg (aG.go aE (aJ.bind ao) bA λgY bH ao bL du h2 tk2 ba aK cx bN=>bM.go aE (aJ.bind ao) cx λpE dv ao b4 d7 aR cU cY bC dj dF=>by
  obtain⟨va,eX,aQ⟩:=(aJ.map ao).cC
  exact wpN.of<|aaO dj ((bc.a5 ba.1 aK).a5 cY.1 bC) (bN.a5 cY.1 bC) dF eX λW' ay h' cP l n dK cu=>aQ W' ay h' cP (((bE.trans ae ba).trans (cm ae aK) cY).trans (cm ae (cm aK bC)) l) (cm ae (cm aK bC)) dK cu))
noncomputable def dA{dy:Type}[DecidableEq dy](es:List (dy×J))(k:dy)(v:J):List (dy×J):=
 if es.any (λe=>decide (e.1=k))=true then es.map (λe=>if e.1=k then(e.1,v) else e) else es++[(k,v)]
theorem ei.append{k:bq}(h:aN prog w W n v ay)(r:ei prog w W n es kvs):ei prog w W n (es++[(k,v)]) (kvs++[(k,ay)]):=
 r.ind (P:=λes kvs=>ei prog w W n (es++[(k,v)]) (kvs++[(k,ay)])) (.cons h .nil) λa _ aZ=>.cons a aZ
theorem ei.aT{k:bq}(h:aN prog w W n v ay)(r:ei prog w W n es kvs):
 ei prog w W n (es.map λe=>if e.1=k then(e.1,v) else e) (kvs.map λe=>if e.1=k then(e.1,ay) else e)/\(es.any (λe=>decide (e.1=k))=kvs.any (λe=>decide (e.1=k))):=
 r.ind (P:=λes kvs=>ei prog w W n (es.map λe=>if e.1=k then(e.1,v) else e) (kvs.map λe=>if e.1=k then(e.1,ay) else e)/\(es.any (λe=>decide (e.1=k))=kvs.any (λe=>decide (e.1=k)))) ⟨.nil,rfl⟩
  λ{q _ _ _ _} a _ aZ=>⟨by
   rw[iH,iH]
   by_cases e:q=k
   .rw[if_pos e,if_pos e];exact .cons h aZ.1
   .rw[if_neg e,if_neg e];exact .cons a aZ.1,by rw[List.any_cons,List.any_cons,aZ.2]⟩
theorem ei.set{k:bq}(h:aN prog w W n v ay)(q:ei prog w W n es kvs):ei prog w W n (dA es k v) (stored kvs k ay):=by
 obtain⟨h1,h2⟩:=q.aT h (k:=k)
 unfold dA stored
 by_cases e:es.any (λe=>decide (e.1=k))=true
 .rw[if_pos e,if_pos (by rw[<-h2];exact e)];exact h1
 .rw[if_neg e,if_neg (by rw[<-h2];exact e)];exact q.append h
theorem TRel.append{k:List bq}(hk:md prog w W k a)(h:aN prog w W n v ay)(r:TRel prog w W n es xs):TRel prog w W n (es++[(k,v)]) (xs++[(k,a,ay)]):=
 r.ind (P:=λes xs=>TRel prog w W n (es++[(k,v)]) (xs++[(k,a,ay)])) ⟨rfl,hk,h,trivial⟩ λf g _ aZ=>⟨rfl,f,g,aZ⟩
theorem TRel.aT{k:List bq}(h:aN prog w W n v ay)(r:TRel prog w W n es xs):
 TRel prog w W n (es.map λe=>if e.1=k then(e.1,v) else e) (xs.map (putAt k ay))/\(es.any (λe=>decide (e.1=k))=(atKey xs k).isSome):=
 r.ind (P:=λes xs=>TRel prog w W n (es.map λe=>if e.1=k then(e.1,v) else e) (xs.map (putAt k ay))/\(es.any (λe=>decide (e.1=k))=(atKey xs k).isSome)) ⟨trivial,rfl⟩
  λ{q _ a jD es xs} f g _ aZ=>by
   refine⟨?_,?_⟩
   .rw[iH,iH]
    unfold putAt
    by_cases e:q=k
    .rw[if_pos e,if_pos e];exact⟨rfl,f,h,aZ.1⟩
    .rw[if_neg e,if_neg e];exact⟨rfl,f,g,aZ.1⟩
   .rw[List.any_cons,aZ.2]
    by_cases e:q=k
    .rw[show atKey ((q,a,jD)::xs) k=some (a,jD) by simp[atKey,e],decide_eq_true e];rfl
    .rw[show atKey ((q,a,jD)::xs) k=atKey xs k by simp[atKey,e],decide_eq_false e,Bool.false_or]
theorem TRel.set{k:List bq}(hk:md prog w W k a)(h:aN prog w W n v ay)(q:TRel prog w W n es xs):
 TRel prog w W n (dA es k v) (storedH xs k a ay):=by
 obtain⟨h1,h2⟩:=TRel.aT h (k:=k) q
 unfold dA
 cases e:atKey xs k with
 |none=>rw[storedH_new e,if_neg (by rw[h2,e];decide)];exact q.append hk h
 |some p=>rw[storedH_old e,if_pos (by rw[h2,e];rfl)];exact h1
noncomputable def ko(o i v:J)(σ:St):Option St:=match o with
 |.ref c=>match σ.cells c with
  |some (.list vs)=>(match i with
   |.int ai=>if 0<=ai/\ai<2^63/\ai.toNat<vs.length then some (σ.aT c (.list (vs.set ai.toNat v))) else none
   |_=>none)
  |some (.cn es)=>(toAtom i).bind λk=>if es.length<=1000000 then some (σ.aT c (.cn (dA es k v))) else none
  |some (.b8 es)=>(toKey i).bind λk=>if es.length<=1000000 then some (σ.aT c (.b8 (dA es k v))) else none
  |_=>none
 |_=>none
theorem bG.mL{U:Loc}(R:bG prog w h₁ own env ns W U σ h)(aw:σ.cells c=some x)(hs:Heap.SameBut (W.al c) h h')(bF:CellAt prog w W σ.next h' c (W.al c) y):
 bG prog w h₁ own env ns W U (σ.aT c y) h':=by
 have eo:=(R.bI.cell c x aw).1
 exact R.next (R.bI.mL aw hs bF) az.le.refl (bt _) λa ha=>hs.2 a (by rintro rfl;exact bQ.no eo ha)
theorem aaz{k:Int}{v:Value}{Q:Unit->Shared->Prop}(aG:s.heap.get? l=some (listOf items n))(ah:0<=k)(HR:k<2^63)(cK:k<items.size)
 (aQ:∀h' gV,h'.get? l=some (listOf (items.setIfInBounds k.toNat v) gV)->Heap.SameBut l s.heap h'->Q () {s with heap:=h'}):wpAny (model prog w) A (setItem (.ref l) (.int k t) v) Q E s:=by
 have e':s.heap.IsList l items:=⟨_,aG,rfl,n,rfl⟩
 have aB:(listOf items n).data=.seq items n:=rfl
 unfold setItem
 try with_reducible refine wpAny_holding ?_
 first|refine aM (bx ?_)|skip
 refine aM (wpAny_sequenceKey e'.typeIs (by decide) ?_)
 refine aM (wpAny_callSpecial?_slot (name:=Str.ofString "__setitem__") e'.typeIs slot_list_setitem (wpAny_call_entry slot_list_setitem e'.typeIs entry_list_setitem ?_ (args_list_setitem _ _ _)))
 show wpAny _ _ (Builtin.List.listSubscript? (.int k t)>>=_) _ _ s
 refine aM (wpAny_listSubscript_int (fitsIndex_of ah HR) ?_)
 clear HR
 obtain⟨ai,rfl⟩:=Int.eq_ofNat_of_zero_le ah
 have cK:ai<items.size:=by exact aC.WB cK
 have jW:items[ai]? =some items[ai]:=Array.getElem?_eq_getElem cK
 show wpAny _ _ ((seqItemAt l ai>>=λr=>pure (r.map (ai,·)))>>=_) _ _ s
 refine aM (aM (wpAny_seqItemAt aG aB (bx ?_)))
 rw[jW]
 show wpAny _ _ (setSeqItemAt l ai v>>=_) _ _ s
 obtain⟨gV,ey⟩:=Obj.data_mapSeq aB (·.setIfInBounds ai v)
 have e:Obj.mapSeq (·.setIfInBounds ai v) (listOf items n)=listOf (items.setIfInBounds ai v) gV:=by
  have h2:(Obj.mapSeq (·.setIfInBounds ai v) (listOf items n))={(listOf items n) with data:=(Obj.mapSeq (·.setIfInBounds ai v) (listOf items n)).data}:=rfl
  rw[h2,ey]
 have tZ:(s.heap.update l (Obj.mapSeq (·.setIfInBounds ai v))).get? l=some (listOf (items.setIfInBounds ai v) gV):=by
  rw[<-e];exact Heap.get?_update_self _ aG (Obj.isFreed_of_seq ey)
 refine aM (wpAny_setSeqItemAt aG aB ?_)
 first
  |exact aM (bx (bx ⟨.none,rfl,bx (aQ _ _ tZ (Heap.SameBut.update ..))⟩))
  |exact bx ⟨.none,rfl,bx (aQ _ _ tZ (Heap.SameBut.update ..))⟩
inductive p4 (o i v:J) (σ a0:St):Prop
 |uv (c:Nat) (vs:List J) (ai:Int) (hR:o=.ref c) (gH:i=.int ai) (aw:σ.cells c=some (.list vs)) (h:0<=ai/\ai<2^63/\ai.toNat<vs.length) (e:a0=σ.aT c (.list (vs.set ai.toNat v)))
 |ad (c:Nat) (es:List (bq×J)) (k:bq) (hR:o=.ref c) (aw:σ.cells c=some (.cn es)) (hk:toAtom i=some k) (h:es.length<=1000000) (e:a0=σ.aT c (.cn (dA es k v)))
 |q2 (c:Nat) (es:List (List bq×J)) (k:List bq) (hR:o=.ref c) (aw:σ.cells c=some (.b8 es)) (hk:toKey i=some k) (h:es.length<=1000000) (e:a0=σ.aT c (.b8 (dA es k v)))
noncomputable def Ku(x:Option df)(c:Nat)(i v:J)(σ:St):Option St:=match x with
 |some (.list vs)=>(match i with
  |.int ai=>if 0<=ai/\ai<2^63/\ai.toNat<vs.length then some (σ.aT c (.list (vs.set ai.toNat v))) else none
  |_=>none)
 |some (.cn es)=>(toAtom i).bind λk=>if es.length<=1000000 then some (σ.aT c (.cn (dA es k v))) else none
 |some (.b8 es)=>(toKey i).bind λk=>if es.length<=1000000 then some (σ.aT c (.b8 (dA es k v))) else none
 |_=>none
theorem r1{α:Type}{d:Decidable p}{a b:α}(h:(if p then some a else none)=some b):p/\b=a:=by
 by_cases e:p
 .rw[if_pos e] at h;exact⟨e,(b9 h).symm⟩
 .rw[if_neg e] at h;exact aq h
theorem p4.fI{i v:J}(h:Ku (σ.cells c) c i v σ=some a0):p4 (.ref c) i v σ a0:=by
 rcases aw:σ.cells c with _|(vs|es|es|_|_)
 .rw[aw] at h;exact aq h
 .rw[aw] at h
  exact J.casesOn (motive_1:=λi=>Ku (some (.list vs)) c i v σ=some a0->p4 (.ref c) i v σ a0) i (λh=>aq h) (λ_ h=>aq h) (λai h=>have h:=r1 h;.uv c vs ai rfl rfl aw h.1 h.2) (λ_ h=>aq h) (λ_ h=>aq h) (λ_ h=>aq h) (λ_ h=>aq h) (λ_ h=>aq h) (λ_ _ _ h=>aq h) (λ_ h=>aq h) (λ_ h=>aq h) h
 .rw[aw] at h
  obtain⟨k,hk,h⟩:=bind_some h
  have h:=r1 h
  exact .ad c es k rfl aw hk h.1 h.2
 .rw[aw] at h
  obtain⟨k,hk,h⟩:=bind_some h
  have h:=r1 h
  exact .q2 c es k rfl aw hk h.1 h.2
 .rw[aw] at h;exact aq h
 .rw[aw] at h;exact aq h
theorem p4.of(h:ko o i v σ=some a0):p4 o i v σ a0:=
 J.casesOn (motive_1:=λo=>ko o i v σ=some a0->p4 o i v σ a0) o (λh=>aq h) (λ_ h=>aq h) (λ_ h=>aq h) (λ_ h=>aq h) (λ_ h=>aq h) (λ_ h=>aq h) (λ_ h=>aq h) (λ_ h=>aq h) (λ_ _ _ h=>aq h) (λc h=>.fI h) (λ_ h=>aq h) h
theorem lb.sN{h:Heap}(m:h.DictOf (hF prog w) a kvs):∃o,h.get? a=some o/\lb prog w o kvs:=by
 obtain⟨o,es,ep,g,mX,aB,hk,hp,aW⟩:=m;exact⟨o,g,mX,es,ep,aB,hk,hp,aW⟩
theorem oL.sN{h:Heap}(m:h.DictOfH (tupK prog w) a xs):∃o,h.get? a=some o/\oL prog w o xs:=by
 obtain⟨o,es,ep,g,mX,aB,hk,_,aW⟩:=m;exact⟨o,g,mX,es,ep,aB,hk,aW⟩
theorem qO(e:n=m)(h:m<=1000000):n<=sizeLine:=e▸cm h (by decide)
theorem Y5{A:Around}{cV k1 ay:Value}{E:Value->Shared->Prop}(bM:A.units+200<cLine)(R:bG prog w h₁ own env ns W U σ s.heap)
 (aH:aN prog w W σ.next o cV)(hi:aN prog w W σ.next i k1)(a3:aN prog w W σ.next v ay)(hp:ko o i v σ=some a0)
 (aQ:∀h' cP,a0.next=σ.next->bG prog w h₁ own env ns W U a0 h'->Q () {s with heap:=h',toks:=cP}):wpAny (model prog w) A (setItem cV k1 ay) Q E s:=by
 refine e0 λG bZ=>?_
 rcases p4.of hp with⟨c,vs,ai,hR,gH,aw,ag,e⟩|⟨c,es,kj,hR,aw,hk,aG,e⟩|⟨c,es,kj,hR,aw,hk,aG,e⟩
 .rw[hR] at aH
  rw[gH] at hi
  rw[e] at aQ
  obtain⟨_,hR⟩:=aH.bf
  obtain⟨t,gH⟩:=hi.bf
  obtain⟨items,m,g,q⟩:=(R.bI.cell c _ aw).2.bf
  have eY:items.size=vs.length:=by rw[<-e6];exact q.length
  refine bZ ?_
  rw[hR,gH]
  refine aaz g ag.1 ag.2.1 (by rw[eY];exact(Int.toNat_lt ag.1).mp ag.2.2) λh' gV hH hs=>aQ h' s.toks rfl (R.mL aw hs (.list hH ?_))
  rw[Array.toList_setIfInBounds]
  exact bw.set a3 _ q
 .rw[hR] at aH
  rw[e] at aQ
  obtain⟨_,hR⟩:=aH.bf
  obtain⟨_,_,g,z,d,q⟩:=(R.bI.cell c _ aw).2.bf
  refine bZ ?_
  rw[hR]
  refine wpAny_setItem_pairs (knd:=hF prog w) (toAtom_is hi hk) (d.b2 g) (λh' hm hs=>?_) (qO q.length aG)
  obtain⟨dV,g2,gh⟩:=lb.sN hm
  exact aQ h' _ rfl (R.mL aw hs (.cn g2 z gh (q.set a3)))
 .rw[hR] at aH
  rw[e] at aQ
  obtain⟨_,hR⟩:=aH.bf
  obtain⟨a,gH,cf,qD⟩:=toKey_is R.bI hi hk
  obtain⟨_,_,g,z,d,q⟩:=(R.bI.cell c _ aw).2.bf
  refine bZ ?_
  rw[hR,gH]
  refine wpAny_setItem_heap (tupleKind_room_in1 (hU bM)) qD (d.b2 g q R.bI) (λh' hm hs=>?_) (qO q.length aG)
  obtain⟨dV,g2,gh⟩:=oL.sN hm
  exact aQ h' _ rfl (R.mL aw hs (.b8 g2 z gh (q.set cf a3)))
theorem LF
 (h:wpN M A (eval value env) (λv bj=>wpN M A (eval o env) (λjg cZ=>wpN M A (eval i env) (λIt fy=>wpN M A (setItem jg It v) (λ_=>Q .next) E fy) E cZ) E bj) E s)
 (hs:autoParam (swapsWith value (some (.Subscript o i jh)) pos.line env=pure false) aL._auto_1):wpN M A (exec (.Assign [.Subscript o i jh] value pos) env) Q E s:=by
 rw[exec_Assign_Subscript o i jh value pos hs]
 refine a6 (ed (a6 (cF h (λv bj h₁=>a6 ?_) λ_ _ e=>e)))
 rw[assign_Subscript]
 exact a6 (d8 (cF h₁ (λjg cZ eG=>a6 (d8 (cF eG (λIt fy gT=>a6 (ed (a6 (d8 (cF gT (λ_ _ qB=>.of (wpAny_release' (cz qB))) λ_ _ e=>e))))) λ_ _ e=>e))) λ_ _ e=>e))
noncomputable def hL(D gf pQ:c4):ct:=λU σ=>(D U σ).bind λv=>(gf U v.2).bind λo=>(pQ U o.2).bind λi=>(ko o.1 i.1 v.1 i.2).map λa0=>(.next,U,a0)
theorem ox(h:bk prog w h₁ true env ns k (eval e env) D)(aH:bk prog w h₁ true env ns k (eval o env) gf)(hi:bk prog w h₁ true env ns k (eval i env) pQ)
 (hs:autoParam (swapsWith e (some (.Subscript o i jh)) pos.line env=pure false) aL._auto_1):SOk prog w h₁ env ns k (exec (.Assign [.Subscript o i jh] e pos) env) (hL D gf pQ):=by
 refine .of λA W U σ s Q E aE ao R=>LF (h.go aE ao.bind R λet cA ao bu dH h1 cL bE ae bA bc=>aH.go aE (aJ.bind ao) bA λgY bH ao bL du h2 tk2 ba aK cx bN=>hi.go aE (aJ.bind ao) cx λpE dv ao b4 d7 aR cU cY bC dj dF=>?_) hs
 obtain⟨pM,eX,aQ⟩:=(aJ.map ao).cC
 exact wpN.of<|Y5 (s:={s with heap:=aR,toks:=cU}) aE.line dj (bN.a5 cY.1 bC) dF ((bc.a5 ba.1 aK).a5 cY.1 bC) eX λh' cP en d'=>
  gq.to aQ b4 _ h' cP ((bE.trans ae ba).trans (cm ae aK) cY) (by rw[en];exact cm ae (cm aK bC)) d' trivial
theorem E4{h:Heap}(aH:o={cls:=.type "dict",data:=.dict #[]})(z:(h.objs.size==sysModules)=false):CellAt prog w W n (h.push o) c h.objs.size (.cn []):=by
 subst aH
 exact .cn (gA _ rfl) z ⟨⟨rfl,rfl,rfl⟩, #[],0,rfl,λe b1=>by simp at b1,.nil,List.nodup_nil⟩ .nil
theorem aba{h:Heap}(aH:o={cls:=.type "dict",data:=.dict #[]})(z:(h.objs.size==sysModules)=false):CellAt prog w W n (h.push o) c h.objs.size (.b8 []):=by
 subst aH
 exact .b8 (xs:=[]) (gA _ rfl) z ⟨⟨rfl,rfl,rfl⟩, #[],0,rfl,rfl,List.nodup_nil⟩ trivial
inductive jn:df->Prop
 |a:jn (.cn [])
 |t:jn (.b8 [])
theorem jn.at(e:jn x){h:Heap}(z:(h.objs.size==sysModules)=false):CellAt prog w W n (h.push {cls:=.type "dict",data:=.dict #[]}) c h.objs.size x:=by
 cases e
 .exact E4 rfl z
 .exact aba rfl z
noncomputable def gR(x:df):c4:=λ_ σ=>some (.ref σ.next,σ.new x)
theorem mj(av:jn x):bk prog w h₁ own env ns k (eval (.Dict [] [] pos) env) (gR x):=
 .of λA W U σ s Q E aE ao R=>wpN.of<|wpAny_Dict_empty<|by
 obtain⟨cx,ba⟩:=R.cell {cls:=.type "dict",data:=.dict #[]} x rfl (av.at R.bI.fresh)
 exact dC.to ao _ _ _ s.toks ba (gp _) cx Cs
noncomputable abbrev tr:=Loc->St->Option (List (J×J)×St)
noncomputable def EU(W:az)(n:Nat)(vs:List (J×J))(bK:List (Value×Value)):Prop:=bw prog w W n (vs.map (·.1)) (bK.map (·.1))/\bw prog w W n (vs.map (·.2)) (bK.map (·.2))
noncomputable def k5:tr:=λ_ σ=>some ([],σ)
noncomputable def hb(sX nA:c4)(P:tr):tr:=λU σ=>(sX U σ).bind λk=>(nA U k.2).bind λv=>(P U v.2).bind λr=>some ((k.1,v.1)::r.1,r.2)
noncomputable abbrev p3(prog:Program)(w:World)(h₁:Heap):=@TOk prog w h₁ (List (Value×Value)) (List (J×J)) (EU (prog:=prog) (w:=w))
theorem YO:p3 prog w h₁ own env ns k (evalPairs []) k5:=.of λA W U σ s Q E aE ao R=>cz (dC.at ao R ⟨.nil,.nil⟩ s.toks)
theorem YK(hk:bk prog w h₁ own env ns k (eval B1 env) sX)(a3:bk prog w h₁ own env ns k (eval Dt env) nA)(aI:p3 prog w h₁ own env ns k (evalPairs rest) P):
 p3 prog w h₁ own env ns k (evalPairs ((eval B1 env,do let x<-eval Dt env;standAt pos;pure x)::rest)) (hb sX nA P):=by
 refine .of λA W U σ s Q E aE ao R=>?_
 unfold evalPairs
 exact a6 (hk.go aE ao.bind R λet cA ao bu dH h1 cL bE ae bA bc=>a6 (d8 (a6 (a3.go aE (aJ.bind ao) bA λgY bH ao bL du h2 tk2 ba aK cx bN=>a6 (ed (cz (
  a6 (d8 (aI.go aE (aJ.bind ao) cx λvs dv ao b4 bK aR cU cY bC dj dF=>cz (
  dC.to ao b4 _ aR cU ((bE.trans ae ba).trans (cm ae aK) cY) (cm ae (cm aK bC)) dj ⟨.cons ((bc.a5 ba.1 aK).a5 cY.1 bC) dF.1,.cons (bN.a5 cY.1 bC) dF.2⟩))))))))))
noncomputable def nM(c:Nat)(i v:J)(σ:St):Option St:=match σ.cells c with
 |some (.cn es)=>(toAtom i).bind λk=>if es.length<=1000000 then some (σ.aT c (.cn (dA es k v))) else none
 |some (.b8 es)=>(toKey i).bind λk=>if es.length<=1000000 then some (σ.aT c (.b8 (dA es k v))) else none
 |_=>none
noncomputable def oY(c:Nat):List (J×J)->St->Option St
 |[],σ=>some σ
 |(i,v)::r,σ=>(nM c i v σ).bind (oY c r)
inductive yG (c:Nat) (i v:J) (σ a0:St):Prop
 |ad (es:List (bq×J)) (k:bq) (aw:σ.cells c=some (.cn es)) (hk:toAtom i=some k) (h:es.length<=1000000) (e:a0=σ.aT c (.cn (dA es k v)))
 |q2 (es:List (List bq×J)) (k:List bq) (aw:σ.cells c=some (.b8 es)) (hk:toKey i=some k) (h:es.length<=1000000) (e:a0=σ.aT c (.b8 (dA es k v)))
noncomputable def PR(x:Option df)(c:Nat)(i v:J)(σ:St):Option St:=match x with
 |some (.cn es)=>(toAtom i).bind λk=>if es.length<=1000000 then some (σ.aT c (.cn (dA es k v))) else none
 |some (.b8 es)=>(toKey i).bind λk=>if es.length<=1000000 then some (σ.aT c (.b8 (dA es k v))) else none
 |_=>none
theorem yG.of(h:nM c i v σ=some a0):yG c i v σ a0:=by
 have h:PR (σ.cells c) c i v σ=some a0:=h
 rcases aw:σ.cells c with _|(vs|es|es|_|_)
 .rw[aw] at h;exact aq h
 .rw[aw] at h;exact aq h
 .rw[aw] at h
  obtain⟨k,hk,h⟩:=bind_some h
  have h:=r1 h
  exact .ad es k aw hk h.1 h.2
 .rw[aw] at h
  obtain⟨k,hk,h⟩:=bind_some h
  have h:=r1 h
  exact .q2 es k aw hk h.1 h.2
 .rw[aw] at h;exact aq h
 .rw[aw] at h;exact aq h
theorem PS(bM:A.units+200<cLine)(R:bG prog w h₁ own env ns W U σ s.heap)
 (hi:aN prog w W σ.next i k1)(a3:aN prog w W σ.next v ay)(hp:nM c i v σ=some a0)
 (aQ:∀h' cP,a0.next=σ.next->bG prog w h₁ own env ns W U a0 h'->Q () {s with heap:=h',toks:=cP}):wpAny (model prog w) A (dictSet (W.al c) k1 ay) Q E s:=by
 refine e0 λG bZ=>?_
 rcases yG.of hp with⟨es,kj,aw,hk,aG,e⟩|⟨es,kj,aw,hk,aG,e⟩
 .rw[e] at aQ
  obtain⟨_,_,g,z,d,q⟩:=(R.bI.cell c _ aw).2.bf
  refine bZ<|wpAny_dictSet_pairs (knd:=hF prog w) (toAtom_is hi hk) (d.b2 g) (λh' hm hs=>?_) (qO q.length aG)
  obtain⟨dV,g2,gh⟩:=lb.sN hm
  exact aQ h' _ rfl (R.mL aw hs (.cn g2 z gh (q.set a3)))
 .rw[e] at aQ
  obtain⟨a,gH,cf,qD⟩:=toKey_is R.bI hi hk
  obtain⟨_,_,g,z,d,q⟩:=(R.bI.cell c _ aw).2.bf
  refine bZ ?_
  rw[gH]
  refine wpAny_dictSet_heap (hU (k:=0) bM) qD (d.b2 g q R.bI) (λh' hm hs=>?_) (qO q.length aG)
  obtain⟨dV,g2,gh⟩:=oL.sN hm
  exact aQ h' _ rfl (R.mL aw hs (.b8 g2 z gh (q.set cf a3)))
theorem PU(bM:A.units+200<cLine):∀{bK:List (Value×Value)} {σ a0:St} {s:Shared} {Q:Unit->Shared->Prop},bG prog w h₁ own env ns W U σ s.heap->EU (prog:=prog) (w:=w) W σ.next vs bK->oY c vs σ=some a0->
 (∀h' cP,a0.next=σ.next->bG prog w h₁ own env ns W U a0 h'->Q () {s with heap:=h',toks:=cP})->wpAny (model prog w) A (storeAll (W.al c) bK) Q E s:=by
 induction vs with
 |nil=>
  intro bK σ a0 s Q R r h aQ
  rw[show bK=[] from List.map_eq_nil_iff.mp r.1.bf]
  rw[<-b9 h] at aQ
  exact bx (aQ s.heap s.toks rfl R)
 |cons p vs aZ=>
  intro bK σ a0 s Q R r h aQ
  obtain⟨cA,h1,h⟩:=bind_some (show(nM c p.1 p.2 σ).bind _=some a0 from h)
  rcases bK with _|⟨jA,bK⟩
  .exact nomatch r.1.length
  .have a:=r.1.sO
   have b:=r.2.sO
   unfold storeAll
   rw[List.forIn_cons]
   refine aM (aM (PS bM R a.1 b.1 h1 λh' cP en dK=>bx ?_))
   refine aZ (s:={s with heap:=h',toks:=cP}) dK ?_ h λh2 tk2 Qb cx=>aQ h2 tk2 (Qb.trans en) cx
   rw[en];exact⟨a.2,b.2⟩
noncomputable def lz(x:df)(P:tr):c4:=λU σ=>(P U (σ.new x)).bind λr=>(oY σ.next r.1 r.2).map λa0=>(.ref σ.next,a0)
theorem acb(qk:iU.all (·.isSome)=true)(aG:iU.length=values.length)(ah:iU≠[])(dm:iU.length<=15)
 (h:wpN (model prog w) A (evalPairs (pairTrees iU values env pos)) (λvs bj=>wpN (model prog w) A (storeAll s.heap.objs.size vs) (λ_ cZ=>Q (.ref s.heap.objs.size) cZ) E bj) E
   {s with heap:=s.heap.push {cls:=.type "dict",data:=.dict #[]}}):
 wpN (model prog w) A (eval (.Dict iU values pos) env) Q E s:=by
 have aW:=pairTrees_length iU values env pos qk aG
 have SP:pairTrees iU values env pos≠[]:=by
  intro b1
  rw[b1] at aW
  exact ah (List.length_eq_zero_iff.mp aW.symm)
 rw[arm_eval_Dict,zip_pairTrees iU values env pos qk aG,dictDisplay_pairs _ SP (by rw[aW];exact aC.WK dm)]
 refine a6 (ed (a6 ?_))
 unfold subDict
 refine a6 (.of (wpAny_alloc ?_))
 refine a6 (d8 ?_)
 first|refine i9 (by rw[aW];exact dm) ?_|refine r0 (by rw[aW];exact dm) ?_
 refine a6 (cF h (λvs bj h₁=>?_) λ_ _ e=>e)
 refine d8 ?_
 exact a6 (cF h₁ (λ_ cZ eG=>cz (cz (cz eG))) λ_ _ e=>e)
theorem wD(av:jn x)(h:p3 prog w h₁ own env ns k (evalPairs (pairTrees iU values env pos)) P)
 (qk:autoParam (iU.all (·.isSome)=true) aL._auto_1)(aG:autoParam (iU.length=values.length) aL._auto_1)(ah:autoParam (iU≠[]) ac4._auto_1)(dm:autoParam (iU.length<=15) sU._auto_1):
 bk prog w h₁ own env ns k (eval (.Dict iU values pos) env) (lz x P):=by
 refine .of λA W U σ s Q E aE ao R=>acb qk aG ah dm<|e0 λG bZ=>?_
 obtain⟨gM,i'⟩:=R.cell {cls:=.type "dict",data:=.dict #[]} x rfl (av.at R.bI.fresh)
 refine bZ<|h.go (s:={s with heap:=s.heap.push {cls:=.type "dict",data:=.dict #[]}}) aE ao.bind gM λvs cA ao bu bK h1 cL bE ae bA bc=>?_
 obtain⟨bH,a7,ao⟩:=(aJ.map ao).cC
 have P9:bu.al σ.next=s.heap.objs.size:=(bE.1.2 _ (gB _)).trans (if_pos rfl)
 rw[<-P9]
 exact wpN.of<|PU (s:={s with heap:=h1,toks:=cL}) aE.line bA bc a7 λh' cP en cx=>
  dC.to ao bu _ h' cP (i'.trans (gp _) bE) (by rw[en];exact cm (gp _) ae) cx (.ref (by rw[en];exact ae))
theorem LM
 (h:wpN M A (spliced ((false,x)::rest)) (λvs aY=>Q ⟨vs,[]⟩ aY) E s):wpN M A (evalArgs f true ((false,x)::rest) []) Q E s:=sQ h
noncomputable def rm(prog:Program)(w:World)(h₁:Heap)(T:String)(jt:J->St->Bool):Prop:=
 ∀(W:az) (σ:St) (v:J) (ay:Value) (s:Shared),jt v σ=true->bB prog w h₁ W σ s.heap->aN prog w W σ.next v ay->s.TypeIs ay T/\∀a,ay=.ref a->∃ob,s.heap.get? a=some ob/\ob.dict=none
noncomputable def dP(jt:J->St->Bool)(F:b3)(gf:c4)(eH:l7):c4:=λU σ=>(gf U σ).bind λr=>if jt r.1 r.2=true then(eH U r.2).bind λq=>F (r.1::q.1) q.2 else none
theorem hl{T id:String}{args:List Expr}(CX:PlainAttrs T)(slot:PySem.Slot T name id)(BM:typeOf (.builtin id)=pure (.type "method_descriptor"))(hT:rm prog w h₁ T jt)
 (aH:bk prog w h₁ own env ns k (eval o env) gf)(ha:l8 prog w h₁ own env ns k (spliced (backTo pos (starEach args env))) eH)(g':OpOk prog w h₁ k (λvs=>call (.builtin id) vs) F)
 (nY:autoParam (attributeBase o name env (eval o env)=eval o env) aL._auto_1)
 (qr:autoParam (((backTo pos (starEach args env)).all (λx=> !x.1)&&(backToKw pos (keywordEach [] env)).all (λx=>x.1.isSome)
   &&decide (args.length+([]:List Keyword).length+(if([]:List Keyword).isEmpty then 0 else 1)<30))=true) aL._auto_1)
 (n3:autoParam ((jN.endLine==pos.line)=true) aL._auto_1)(qv:autoParam ((backTo pos (starEach args env)).any (·.1)=false) aL._auto_1)
 (Bl:∀(A:Around) (s:Shared) (Q:Args->Shared->Prop) (E:Value->Shared->Prop),wpN (model prog w) A (spliced (backTo pos (starEach args env))) (λvs aY=>Q ⟨vs,[]⟩ aY) E s->wpN (model prog w) A (evalArgs (.builtin id) true (backTo pos (starEach args env)) []) Q E s:=by
   exactλ_ _ _ _ h=>LM h):
 bk prog w h₁ own env ns k (eval (.Call (.Attribute o name jN) args [] pos) env) (dP jt F gf eH):=by
 refine .of λA W U σ s Q E aE ao R=>LG nY qr n3 rfl (aH.go aE ao.bind R λet cA ao bu dH h1 cL bE ae bA bc=>?_)
 obtain⟨aw,ao⟩:=aJ.gj ao
 obtain⟨oA,eV⟩:=hT bu cA et dH {s with heap:=h1,toks:=cL} aw bA.bI bc
 exact⟨T,id,CX,slot,BM,oA,eV,sP rfl qv (Bl _ _ _ _ (ha.go aE (aJ.bind ao) bA λvs bH ao bL bK h2 tk2 ba aK cx bN=>
  cx.mI (s:={s with heap:=h2,toks:=tk2}) g' aE ao (.cons (bc.a5 ba.1 aK) bN) λv a0 c=>c.then (bE.trans ae ba) (cm ae aK)))⟩
noncomputable def d6:J->St->Bool
 |.ref c,σ=>match σ.cells c with|some (.list _)=>true|_=>false
 |_,_=>false
noncomputable def qE:J->St->Bool:=λv σ=>(gD v σ).isSome
noncomputable def uh:J->St->Bool:=λv σ=>(gy v σ).isSome
noncomputable def ui:J->St->Bool
 |.bo _,_=>true
 |_,_=>false
noncomputable def xo:J->St->Bool
 |.bytes _,_=>true
 |_,_=>false
theorem TA(h:d6 v σ=true):∃c vs,v=.ref c/\σ.cells c=some (.list vs):=
 J.casesOn (motive_1:=λv=>d6 v σ=true->∃c vs,v=.ref c/\σ.cells c=some (.list vs)) v (λh=>cT h) (λ_ h=>cT h) (λ_ h=>cT h) (λ_ h=>cT h) (λ_ h=>cT h) (λ_ h=>cT h) (λ_ h=>cT h) (λ_ h=>cT h) (λ_ _ _ h=>cT h) (λc h=>by
  have h:(match σ.cells c with|some (.list _)=>true|_=>false)=true:=h
  rcases aw:σ.cells c with _|(vs|_|_|_|_)
  .rw[aw] at h;exact cT h
  .exact⟨c,vs,rfl,aw⟩
  .rw[aw] at h;exact cT h
  .rw[aw] at h;exact cT h
  .rw[aw] at h;exact cT h
  .rw[aw] at h;exact cT h) (λ_ h=>cT h) h
theorem jC:rm prog w h₁ "list" d6:=by
 intro W σ v ay s aw R a3
 obtain⟨c,vs,gr,hs⟩:=TA aw
 rw[gr] at a3
 obtain⟨_,e⟩:=a3.bf
 obtain⟨items,m,g,q⟩:=(R.cell c _ hs).2.bf
 rw[e]
 exact⟨⟨_,g,rfl⟩,λa e=>Value.ref.inj e▸⟨_,g,rfl⟩⟩
theorem Dm:rm prog w h₁ "dict" qE:=by
 intro W σ v ay s aw R a3
 obtain⟨es,b1⟩:=Option.isSome_iff_exists.mp aw
 obtain⟨l,kvs,e,z,d,q⟩:=nG R a3 b1
 rw[e]
 exact⟨d.typeIs,d.mapOf.noDict⟩
theorem aa7:rm prog w h₁ "dict" uh:=by
 intro W σ v ay s aw R a3
 obtain⟨es,b1⟩:=Option.isSome_iff_exists.mp aw
 obtain⟨l,kvs,e,z,d,q⟩:=nr R a3 b1
 rw[e]
 refine⟨d.typeIs,λa e=>?_⟩
 rw[<-Value.ref.inj e]
 obtain⟨o,_,_,g,x,_⟩:=d
 exact⟨o,g,x.2.1⟩
theorem Lc:rm prog w h₁ "tuple" ui:=λW σ v ay s aw R a3=>
 aN.casesOn (motive_1:=λv ay _=>ui v σ=true->s.TypeIs ay "tuple"/\∀a,ay=.ref a->∃ob,s.heap.get? a=some ob/\ob.dict=none) a3 (λh=>cT h) (λ_ h=>cT h) (λ_ _ h=>cT h) (λ_ _ h=>cT h) (λ_ _ h=>cT h)
  (λr _ _=>⟨⟨_,R.imm _ _ r,rfl⟩,λa e=>Value.ref.inj e▸⟨_,R.imm _ _ r,rfl⟩⟩) (λ_ _ _ _ h=>cT h) (λ_ _ _ _ h=>cT h) (λ_ h=>cT h) (λ_ h=>cT h) (λ_ h=>cT h) aw
theorem aa6:rm prog w h₁ "bytes" xo:=λW σ v ay s aw R a3=>
 aN.casesOn (motive_1:=λv ay _=>xo v σ=true->s.TypeIs ay "bytes"/\∀a,ay=.ref a->∃ob,s.heap.get? a=some ob/\ob.dict=none) a3 (λh=>cT h) (λ_ h=>cT h) (λ_ _ h=>cT h) (λ_ _ h=>cT h) (λ_ _ _=>⟨typeIs_bytes _ _ _,λa e=>nomatch e⟩)
  (λ_ _ h=>cT h) (λ_ _ _ _ h=>cT h) (λ_ _ _ _ h=>cT h) (λ_ h=>cT h) (λ_ h=>cT h) (λ_ h=>cT h) aw
noncomputable def fo:b3
 |[.ref c,v],σ=>match σ.cells c with
  |some (.list vs)=>if vs.length<=1000000 then some (.none,σ.aT c (.list (vs++[v]))) else none
  |_=>none
 |_,_=>none
theorem df.B7{α:Type}{x:Option df}{f:List J->Option α}{y:α}(e:(match x with|some (.list vs)=>f vs|_=>none)=some y):∃vs,x=some (.list vs)/\f vs=some y:=by
 rcases x with _|(vs|_|_|_|_)
 .exact aq e
 .exact⟨vs,rfl,e⟩
 .exact aq e
 .exact aq e
 .exact aq e
 .exact aq e
theorem Ip{α bW:Type}{d:Decidable p}{a:α}{b:bW}{br:α}{bU:bW}(h:(if p then some (a,b) else none)=some (br,bU)):p/\br=a/\bU=b:=by
 obtain⟨h,e⟩:=r1 h
 exact⟨h,(Prod.mk.inj e).1,(Prod.mk.inj e).2⟩
theorem k6:OpOk prog w h₁ k (λvs=>call (.builtin "list.append") vs) fo:=
 .fI λW σ a br r cu bT aI=>.ref (λa=>a::r) (λa=>a::cu) bT λc br bT=>.more (λr=>_::r) (λr=>_::r) aI λx dN q dx cR b5=>.end (λq=>_::x::q) (λq=>_::dN::q) b5 λA s Q E aE aX R=>wpN.of<|e0 λG bZ=>by
 obtain⟨v,a0,e,aX⟩:=aX.cC
 obtain⟨vs,aw,e⟩:=df.B7 (f:=λvs=>if vs.length<=1000000 then some (J.none,σ.aT c (.list (vs++[x]))) else none) e
 obtain⟨aG,a9,a7⟩:=Ip e
 rw[a9,a7] at aX
 obtain⟨_,ew⟩:=bT.bf
 obtain⟨items,n,g,q⟩:=(R.cell c _ aw).2.bf
 refine bZ ?_
 rw[ew]
 refine call_meets kE ⟨_,g,rfl⟩ PySem.F.entry_list_append (PySem.F.args_list_append_2 _ _) (list_append (W.al c) items n dN (qO ((e6 (xs:=items)).symm.trans q.length) aG)) ⟨g,?_⟩
 exact dg.to aX W _ _ s.toks az.le.refl (bt _) (R.mL aw (Heap.SameBut.update ..) (.list (IsL.update g (λxs=>xs.push dN)) (by rw[Array.toList_push];exact q.append (bw.sr cR)))) .none
theorem Ua(l:Addr)(items:Array Value)(n:Nat)(b:Addr)(eb:Array Value)(aK:Nat)(mg:Option Addr)(lX:Array (Option Value))(adl:¬(!items.isEmpty&&Builtin.List.listTooLong (items.size+eb.size))=true)(Be:items.size<=sizeLine)(BI:items.size+eb.size<=sizeLine+1):
 Meets (Builtin.«list.extend» ⟨[.ref l,.ref b],[]⟩) (λ_ R s=>s.heap.get? l=some {cls:=.type "list",dict:=none,data:=.seq items n,slots:= #[]}/\s.heap.get? b=some {cls:=.type "list",dict:=mg,data:=.seq eb aK,slots:=lX}/\R (.ok (.ret Value.none)) {s with heap:=s.heap.update l (Obj.mapSeq λx=>x++eb),toks:=s.toks}):=
 .of_wp λprog w A R s h=>by
  obtain⟨hp,g,d,cf,os⟩:=s;obtain⟨aG,ag,h⟩:=h;have f1:=AutoSeq1.idx_int;have f2:=AutoSeq1.sub_tuple_tuple;have o2:=AutoSeq1.sub_list_list;have wF:=AutoSeq1.sub_tuple_list;have tL:=AutoSeq1.sub_list_tuple
  have Td:(items++eb).size<=sizeLine+1:=by rw[Array.size_append];exact BI
  wp_walk using(wpAny_updateSeq aG rfl (hz:=Be) (_hz':=Td)),AutoSeq1.wpAny_loadPart' aG,AutoSeq1.wpAny_loadPart' ag;exact⟨_,rfl,h⟩
noncomputable def nP:b3
 |[.ref c,x],σ=>match σ.cells c with
  |some (.list vs)=>(match x with
   |.bp cI=>if vs.length+cI.length<=1000000 then some (.none,σ.aT c (.list (vs++cI))) else none
   |_=>none)
  |_=>none
 |_,_=>none
theorem Qj{x v:J}{σ a0:St}(h:(match x with|.bp cI=>if vs.length+cI.length<=1000000 then some (J.none,σ.aT c (.list (vs++cI))) else none|_=>none)=some (v,a0)):
 ∃cI,x=.bp cI/\vs.length+cI.length<=1000000/\v=.none/\a0=σ.aT c (.list (vs++cI)):=by
 rcases x with _|_|_|_|_|_|cI|_|_|_|_
 .exact aq h
 .exact aq h
 .exact aq h
 .exact aq h
 .exact aq h
 .exact aq h
 .obtain⟨aG,a9,a7⟩:=Ip h;exact⟨cI,rfl,aG,a9,a7⟩
 .exact aq h
 .exact aq h
 .exact aq h
 .exact aq h
theorem JB:OpOk prog w h₁ k (λvs=>call (.builtin "list.extend") vs) nP:=
 .fI λW σ a br r cu bT aI=>.ref (λa=>a::r) (λa=>a::cu) bT λc br bT=>.more (λr=>_::r) (λr=>_::r) aI λx dN q dx cR b5=>.end (λq=>_::x::q) (λq=>_::dN::q) b5 λA s Q E aE aX R=>wpN.of<|e0 λG bZ=>by
 obtain⟨v,a0,e,aX⟩:=aX.cC
 obtain⟨vs,aw,e⟩:=df.B7 (f:=λvs=>match x with|.bp cI=>if vs.length+cI.length<=1000000 then some (J.none,σ.aT c (.list (vs++cI))) else none|_=>none) e
 obtain⟨cI,nO,aG,a9,a7⟩:=Qj e
 rw[a9,a7] at aX
 rw[nO] at cR
 obtain⟨_,ew⟩:=bT.bf
 obtain⟨b,eb,fp,⟨⟨FO,z7,data2,Dh⟩,qu,o',aK,tX⟩,cg⟩:=hq R cR rfl
 obtain⟨items,n,g,q⟩:=(R.cell c _ aw).2.bf
 have o':FO=.type "list":=o'
 have tX:data2=.seq eb aK:=tX
 rw[o',tX] at qu
 have eY:items.size=vs.length:=by rw[<-e6];exact q.length
 have Gn:eb.size=cI.length:=by rw[<-e6];exact cg.length
 have hz:items.size+eb.size<=sizeLine:=by rw[eY,Gn];exact sf aG
 refine bZ ?_
 rw[ew,fp]
 refine call_meets PySem.F.slot_list_extend ⟨_,g,rfl⟩ PySem.F.entry_list_extend (PySem.F.args_list_extend_2 _ _) (Ua (W.al c) items n b eb aK z7 Dh ?_ (cm (Nat.le_add_right _ _) hz) (Nat.le_succ_of_le hz)) ⟨g,qu,?_⟩
 .have:Builtin.List.listTooLong (items.size+eb.size)=false:=by
   rw[eY,Gn];unfold Builtin.List.listTooLong;simp;unfold sizeLine;omega
  rw[this,Bool.and_false];exact fY
 .exact dg.to aX W _ _ s.toks az.le.refl (bt _) (R.mL aw (Heap.SameBut.update ..) (.list (IsL.update g (λxs=>xs++eb)) (by rw[Array.toList_append];exact q.append cg))) .none
noncomputable def o5:b3
 |[d,i],σ=>(gD d σ).bind λes=>(toAtom i).map λk=>((d2 es k).getD .none,σ)
 |_,_=>none
theorem Cz:OpOk prog w h₁ k (λvs=>call (.builtin "dict.get") vs) o5:=
 .fI λW σ d iL r cu mK aI=>.more (λr=>d::r) (λr=>iL::r) aI λi k1 q dx C5 b5=>.end (λq=>d::i::q) (λq=>iL::k1::q) b5 λA s Q E aE aX R=>wpN.of<|e0 λG bZ=>by
 obtain⟨es,n0,aX⟩:=(aJ.hG aX).cC
 obtain⟨a,jS,aX⟩:=(aJ.map aX).cC
 obtain⟨l,kvs,e,z,mg,q⟩:=nG R mK n0
 refine bZ ?_
 rw[e]
 refine call_meetsIn PySem.F.slot_dict_get mg.typeIs PySem.F.entry_dict_get (PySem.F.args_dict_get_2 _ _) (meets_dict_get (hF prog w) l (toAtom_is C5 jS) z) ⟨_,mg.mapOf,?_⟩
 rcases q.at a with⟨h1,h2⟩|⟨v,ay,h1,h2,aR⟩
 .rw[h1] at aX;rw[h2];exact dg.at aX R .none _
 .rw[h1] at aX;rw[h2];exact dg.at aX R aR _
noncomputable def w3:b3
 |[d,i,x],σ=>(gy d σ).bind λes=>(toKey i).map λk=>((d2 es k).getD x,σ)
 |_,_=>none
theorem U8:OpOk prog w h₁ k (λvs=>call (.builtin "dict.get") vs) w3:=
 .fI λW σ d iL r cu mK aI=>.more (λr=>d::r) (λr=>iL::r) aI λi k1 q dx C5 b5=>.more (λq=>d::i::q) (λq=>iL::k1::q) b5 λx dN p jA eN hp=>.end (λp=>d::i::x::p) (λp=>iL::k1::dN::p) hp λA s Q E aE aX R=>wpN.of<|e0 λG bZ=>by
 obtain⟨es,n0,aX⟩:=(aJ.hG aX).cC
 obtain⟨a,jS,aX⟩:=(aJ.map aX).cC
 obtain⟨l,xs,e,z,mg,q⟩:=nr R mK n0
 obtain⟨wb,gH,_,hk⟩:=toKey_is R C5 jS
 refine bZ ?_
 rw[e,gH]
 refine call_meetsIn PySem.F.slot_dict_get mg.typeIs PySem.F.entry_dict_get (PySem.F.args_dict_get_3 _ _ _) (meetsH_dict_get_default (tupK prog w) l wb z dN) ⟨hU (k:=1) aE.line,_,_,hk,mg,?_⟩
 rcases q.at a with⟨h1,h2⟩|⟨v,br,ay,h1,h2,aR⟩
 .rw[h1] at aX;rw[h2];exact dg.at aX R eN _
 .rw[h1] at aX;rw[h2];exact dg.at aX R aR _
theorem Lx(hf:∀a fK b v r bN,aN prog w W n a v->aN prog w W n fK v->f a b=some r->f fK b=some bN->r=bN)
 (cq:bw prog w W n as vs)(cg:bw prog w W n jO vs)(h:il f as bh=some r)(h2:il f jO bh=some bN):r=bN:=
 veqs_ind (P:=λas bh r=>∀jO bN vs,bw prog w W n as vs->bw prog w W n jO vs->il f jO bh=some bN->r=bN)
  (λbh jO bN vs cq cg h2=>by
    rw[show vs=_ from cq.bf] at cg
    have e:=List.length_eq_zero_iff.mp cg.length.symm
    rw[e] at h2
    exact b9 h2)
  (λa as jO bN vs _ _ h2=>by
    cases jO with
    |nil=>exact b9 h2
    |cons _ _=>exact b9 h2)
  (λa as b bh x y av _ aZ jO bN vs cq cg h2=>by
    obtain⟨v,bK,e,gg,fK⟩:=cq.bf
    rw[e] at cg
    cases jO with
    |nil=>exact nomatch cg.length
    |cons c h9=>
     obtain⟨d4,BN,h2⟩:=bind_some (show(f c b).bind _=some bN from h2)
     obtain⟨oG,kh,h2⟩:=fS.mp h2
     rw[<-h2,hf _ _ _ _ _ _ gg cg.sO.1 av BN,aZ _ _ _ fK cg.sO.2 kh]) as bh r h jO bN vs cq cg h2
noncomputable def rE:Value->Option J
 |.none=>some .none
 |.bool b=>some (.bool b)
 |.int i _=>some (.int i)
 |.str x _=>some (.str x)
 |.bytes x _=>some (.bytes x.toList)
 |_=>none
theorem F5(h:aN prog w W n a v):rE v=some a\/(∃l,v=.ref l)\/∃x,a=.bY x:=
 aN.casesOn (motive_1:=λa v _=>rE v=some a\/(∃l,v=.ref l)\/∃x,a=.bY x) h (.inl rfl) (λ_=>.inl rfl) (λ_ _=>.inl rfl) (λ_ _=>.inl rfl) (λ_ _=>.inl rfl) (λ_ _=>.inr (.inl ⟨_,rfl⟩)) (λ_ _ _ _=>.inr (.inl ⟨_,rfl⟩)) (λ_ _ _ _=>.inr (.inl ⟨_,rfl⟩)) (λ_=>.inr (.inl ⟨_,rfl⟩)) (λ_=>.inr (.inl ⟨_,rfl⟩)) (λ_=>.inr (.inr ⟨_,rfl⟩))
noncomputable def RefV(prog:Program)(w:World)(f:J->J->Option Bool)(W:az)(n:Nat)(l:Addr)(b:J)(r:Bool):Prop:=(∃as bh items k y,b=.bo bh/\W.role l=.imm (u' items k)/\bw prog w W n as items.toList/\il f as bh=some y/\r=(y&&decide (as.length=bh.length)))\/
 (∃as bh o items k,b=.bp bh/\W.role l=.imm o/\o.data=.seq items k/\bw prog w W n as items.toList/\((as.length=bh.length/\il f as bh=some r)\/(¬as.length=bh.length/\r=false)))
noncomputable def xp:Value->Bool
 |.ref _=>true
 |_=>false
theorem Jz{P:Prop}(e:Value.ref l=v)(h:autoParam (xp v=false) aL._auto_1):P:=xR ((congrArg xp e).trans h)
theorem uD{α:Type}{v:α->Value}{P:Prop}(e:∃a,Value.ref l=v a)(h:autoParam (∀a,xp (v a)=false) eh._auto_1):P:=e.elim λa e=>xR ((congrArg xp e).trans (h a))
theorem Du{W:az}{n:Nat}(ha:aN prog w W n a (.ref l))(h:mM f a b=some r):
 RefV prog w f W n l b r:=
 fm.casesOn (motive:=λa b r _=>aN prog w W n a (.ref l)->RefV prog w f W n l b r) (fm.of h)
  (λha=>Jz ha.bf) (λ_ _ ha=>Jz ha.bf) (λ_ _ ha=>uD ha.bf) (λ_ _ ha=>uD ha.bf) (λ_ _ ha=>uD ha.bf) (λ_ _ ha=>uD ha.bf) (λ_ _ ha=>uD ha.bf)
  (λas bh y bF ha=>by obtain⟨l',i,k,bc,q,e⟩:=ha.bf;exact .inl ⟨as,bh,i,k,y,rfl,Value.ref.inj e▸bc,q,bF,rfl⟩)
  (λas bh y aG bF ha=>by obtain⟨l',o,i,k,bc,_,d,q,e⟩:=ha.bf;exact .inr ⟨as,bh,o,i,k,rfl,Value.ref.inj e▸bc,d,q,.inl ⟨aG,bF⟩⟩)
  (λas bh aG ha=>by obtain⟨l',o,i,k,bc,_,d,q,e⟩:=ha.bf;exact .inr ⟨as,bh,o,i,k,rfl,Value.ref.inj e▸bc,d,q,.inr ⟨aG,rfl⟩⟩) ha
theorem abX(d:Nat):∀a fK b v r bN,aN prog w W n a v->aN prog w W n fK v->c0 d a b=some r->c0 d fK b=some bN->r=bN:=by
 induction d with
 |zero=>exactλ_ _ _ _ _ _ _ _ h=>aq h
 |succ d aZ=>
  intro a fK b v r bN ha w9 h h2
  rcases F5 ha with e|⟨l,e⟩|⟨x,e⟩
  .rcases F5 w9 with a7|⟨l,a7⟩|⟨x,a7⟩
   .rw[b9 (e.symm.trans a7)] at h;exact b9 (h.symm.trans h2)
   .rw[a7] at e;exact aq e
   .rw[a7] at h2;exact aq h2
  .rw[e] at ha w9
   rcases Du ha h with⟨as,bh,i,k,y,fp,aE,q,bF,iO⟩|⟨as,bh,o,i,k,fp,aE,sj,q,bF⟩
   .rcases Du w9 h2 with⟨jO,zW,e1,gv,oG,qa,sD,cg,kh,Ae⟩|⟨jO,zW,dV,e1,gv,qa,sD,CJ,cg,kh⟩
    .rw[<-(Data.seq.inj (congrArg Obj.data (bQ.uf aE sD))).1] at cg
     rw[<-J.bo.inj (fp.symm.trans qa)] at kh Ae
     rw[iO,Ae,Lx aZ q cg bF kh,<-q.length,<-cg.length]
    .exact nomatch fp.symm.trans qa
   .rcases Du w9 h2 with⟨jO,zW,e1,gv,oG,qa,sD,cg,kh,Ae⟩|⟨jO,zW,dV,e1,gv,qa,sD,CJ,cg,kh⟩
    .exact nomatch fp.symm.trans qa
    .rw[<-bQ.uf aE sD,sj] at CJ
     rw[<-(Data.seq.inj CJ).1] at cg
     rw[<-J.bp.inj (fp.symm.trans qa),<-cg.length,q.length] at kh
     rcases bF with⟨aG,bF⟩|⟨aG,bF⟩
     .rcases kh with⟨_,kh⟩|⟨n1,_⟩
      .exact Lx aZ q cg bF kh
      .exact absurd aG n1
     .rcases kh with⟨n1,_⟩|⟨_,kh⟩
      .exact absurd n1 aG
      .rw[bF,kh]
  .rw[e] at h;exact aq h
noncomputable def oT(x:J):List J->Option Nat
 |[]=>some 0
 |y::r=>(c0 8 y x).bind λa=>(oT x r).map λn=>if a=true then n+1 else n
theorem OJ{A:Around}(R:bB prog w h₁ W σ s.heap)(bM:A.units+200<cLine)(eN:aN prog w W σ.next x dN)
 (b1:∀y gz r,aN prog w W σ.next y gz->c0 8 y x=some r->e gz=r){bK:List Value}{n:Nat}(q:bw prog w W σ.next vs bK)(h:oT x vs=some n):(∀y,y∈bK->EqAt A.in1 s y dN (e y))/\bK.countP e=n:=
 q.ind (P:=λvs bK=>∀n,oT x vs=some n->(∀y,y∈bK->EqAt A.in1 s y dN (e y))/\bK.countP e=n) (λn h=>⟨dJ _,b9 h⟩) (λ{y gz _ _} a _ aZ n h=>by
  obtain⟨r,aI,h⟩:=bind_some (show(c0 8 y x).bind _=some n from h)
  obtain⟨m,hm,h⟩:=fS.mp h
  obtain⟨h1,h2⟩:=aZ m hm
  have iO:=b1 _ _ _ a aI
  refine⟨bO.mpr ⟨?_,h1⟩,?_⟩
  .rw[iO];exact q5 R 8 A.in1 (hU (k:=9) bM) _ _ _ _ _ a eN aI
  .rw[List.countP_cons,h2,iO,<-h];cases r<;>rfl) n h
noncomputable def wq:b3
 |[.ref c,x],σ=>(ff (.ref c) σ).bind λvs=>(oT x vs).map λ(m:Nat)=>(J.int (m:Int),σ)
 |_,_=>none
open Classical in
theorem OV{A:Around}(R:bB prog w h₁ W σ s.heap)(aE:eR A k){n:Nat}(bT:aN prog w W σ.next a br)(cR:aN prog w W σ.next x dN)(a3:ff a σ=some vs)(aW:oT x vs=some n)
 (aQ:∀cf,Q (.int n cf) {s with toks:=s.toks+1}):wpAny (model prog w) A (call (.builtin "list.count") [br,dN]) Q E s:=by
 obtain⟨l,items,e,qh,q⟩:=hq R bT a3
 obtain⟨⟨cls,mg,data,lX⟩,aH,aw,m,aB⟩:=qh
 cases aw;cases aB
 obtain⟨h1,h2⟩:=OJ (A:=A) R aE.line cR (e:=λgz=>decide (∃y,aN prog w W σ.next y gz/\c0 8 y x=some true)) (λy gz r aI e=>by
  cases r with
  |true=>exact decide_eq_true ⟨y,aI,e⟩
  |false=>exact decide_eq_false λ⟨oG,rV,a7⟩=>fY (abX _ _ _ _ _ _ _ aI rV e a7)) q aW
 rw[e]
 refine call_meets PySem.F.slot_list_count ⟨_,aH,rfl⟩ PySem.F.entry_list_count (PySem.F.args_list_count_2 _ _) (list_countAt l items m mg lX dN _) ⟨aH,λy bF=>h1 y (Array.mem_toList_iff.mpr bF),?_⟩
 rw[h2]
 exact aQ _
theorem U5:OpOk prog w h₁ k (λvs=>call (.builtin "list.count") vs) wq:=
 .fI λW σ a br r cu bT aI=>.ref (λa=>a::r) (λa=>a::cu) bT λc br bT=>.more (λr=>_::r) (λr=>_::r) aI λb bU q dx cR b5=>.end (λq=>_::_::q) (λq=>_::_::q) b5 λA s Q E aE aX R=>wpN.of<|by
 obtain⟨vs,a3,aX⟩:=(aJ.hG aX).cC
 obtain⟨n,aW,aX⟩:=(aJ.map aX).cC
 exact OV R aE bT cR a3 aW λcf=>dg.at aX R (.int _ _) _
theorem abN(l:Addr)(items:Array Value)(n:Nat)(x:Value)(ai:Nat)(cK:ai<items.size):
 Meets (Builtin.«tuple.index» ⟨[.ref l,x],[]⟩)
  (λA R s=>s.heap.get? l=some {cls:=.type "tuple",dict:=none,data:=.seq items n,slots:= #[]}/\(∀m (hm:m<items.size),m<=ai->EqAt A.in1 s items[m] x (m==ai))/\R (.ok (.ret (.int ai s.toks))) {s with toks:=s.toks+1}):=
 .of_wp λprog w A R s h=>by
  obtain⟨hp,g,d,cf,os⟩:=s;obtain⟨aG,b1,h⟩:=h
  wp_walk using AutoSeq1.wpAny_loadPart' aG,A0 _ (λi b aY=>b.1=none/\aY=⟨hp,g,d,cf,os⟩/\i<=ai) _ _
  case turn=>
   rintro i b aY hi ⟨ag,rfl,t4⟩
   have dp:i<items.size:=by simpa using hi
   rw[Array.getElem?_eq_getElem dp]
   refine aM (b1 i dp t4 prog w _ _ ?_)
   by_cases e:i=ai
   .subst e
    rw[beq_self_eq_true]
    wp_walk
    exact⟨_,rfl,h⟩
   .rw[beq_eq_false_iff_ne.mpr e]
    wp_walk
    exact⟨rfl,rfl,by exact aC.WU t4 e⟩
  case cH=>
   rintro b aY ⟨ag,rfl,t4⟩
   have:min items.size items.size=items.size:=Nat.min_self _
   rw[this] at t4
   exact(aC.J5 cK t4).elim
  case h=>exact⟨rfl,rfl,Nat.zero_le _⟩
noncomputable def xl(x:J):List J->Option Nat
 |[]=>none
 |y::r=>(c0 8 y x).bind λa=>if a=true then some 0 else(xl x r).map λn=>n+1
theorem Tp:∀{ai:Nat},xl x vs=some ai->ai<vs.length/\∀(m:Nat) y,vs[m]? =some y->m<=ai->c0 8 y x=some (m==ai):=
 List.rec (motive:=λvs=>∀{ai:Nat},xl x vs=some ai->ai<vs.length/\∀(m:Nat) y,vs[m]? =some y->m<=ai->c0 8 y x=some (m==ai)) (λh=>aq h) (λy r aZ ai h=>by
  obtain⟨a,ha,h⟩:=bind_some (show(c0 8 y x).bind _=some ai from h)
  cases a with
  |true=>
   rw[<-b9 h]
   refine⟨Nat.zero_lt_succ _,λm z hz hm=>?_⟩
   rw[Nat.le_zero.mp hm] at hz⊢
   rw[<-b9 hz];exact ha
  |false=>
   obtain⟨n,aW,h⟩:=fS.mp h
   obtain⟨h1,h2⟩:=aZ aW
   rw[<-h]
   refine⟨Nat.succ_lt_succ h1,λm z hz hm=>?_⟩
   cases m with
   |zero=>rw[<-b9 hz];exact ha
   |succ m=>rw[h2 m z hz (Nat.le_of_succ_le_succ hm)];exact congrArg some (Bool.eq_iff_iff.mpr ⟨λe=>beq_iff_eq.mpr (congrArg Nat.succ (beq_iff_eq.mp e)),λe=>beq_iff_eq.mpr (Nat.succ.inj (beq_iff_eq.mp e))⟩)) vs
noncomputable def xm:b3
 |[.bo vs,x],σ=>(xl x vs).map λ(ai:Nat)=>(J.int (ai:Int),σ)
 |_,_=>none
theorem JD:OpOk prog w h₁ k (λvs=>call (.builtin "tuple.index") vs) xm:=
 .fI λW σ a br r cu bT aI=>.bo (λa=>a::r) (λa=>a::cu) bT λvs br bT=>.more (λr=>_::r) (λr=>_::r) aI λx bU q dx cR b5=>.end (λq=>_::_::q) (λq=>_::_::q) b5 λA s Q E aE aX R=>wpN.of<|by
 obtain⟨ai,cK,aX⟩:=(aJ.map aX).cC
 obtain⟨l,items,m,e,bc,cE,cq⟩:=bT.ky R
 obtain⟨h1,h2⟩:=Tp cK
 have eY:items.size=vs.length:=by rw[<-e6];exact cq.length
 rw[e]
 refine call_meets PySem.F.slot_tuple_index ⟨_,cE,rfl⟩ PySem.F.entry_tuple_index (PySem.F.args_tuple_index_2 _ _) (abN l items m bU ai (eY▸h1)) ⟨cE,λm hm Sw=>?_,dg.at aX R (.int _ _) _⟩
 have g1:vs[m]? =some (vs[m]'(eY▸hm)):=hN _
 obtain⟨gz,bF,nj⟩:=cq.get g1
 rw[Array.getElem?_toList,Array.getElem?_eq_getElem hm] at bF
 rw[b9 bF]
 exact q5 R 8 A.in1 (hU (k:=9) aE.line) _ _ _ _ _ nj cR (h2 m _ g1 Sw)
theorem bB.m9(R:bB prog w h₁ W σ h)(e:∀b o,h.get? b=some o->h'.get? b=some o):bB prog w h₁ W σ h':=R.kV e
noncomputable def fq:b3
 |[.bytes b],σ=>if b.length<=1000000 then some (.int b.length,σ) else none
 |[v],σ=>(ff v σ).bind λvs=>if vs.length<=1000000 then some (.int vs.length,σ) else none
 |_,_=>none
theorem T7(R:bB prog w h₁ W σ s.heap)(bT:aN prog w W σ.next v ay)(aX:aJ ((ff v σ).bind λvs=>if vs.length<=1000000 then some (J.int vs.length,σ) else none) (dg prog w h₁ W σ s Q)):
 wpAny (model prog w) A (call (.builtin "len") [ay]) Q E s:=by
 obtain⟨vs,a3,aX⟩:=(aJ.hG aX).cC
 obtain⟨ag,aX⟩:=aJ.gj aX
 obtain⟨l,items,e,aG,q⟩:=hq R bT a3
 have eY:items.size=vs.length:=by rw[<-e6];exact q.length
 rw[e]
 exact call_len_list aG (by rw[eY];omega) (dg.at aX R (by rw[eY];exact .int _ _) _)
theorem m'(bT:aN prog w W σ.next v ay)(aI:bw prog w W σ.next r cu)(h1:autoParam (∀aA,aJ (fq [v] σ) aA->aJ ((ff v σ).bind λvs=>if vs.length<=1000000 then some (J.int vs.length,σ) else none) aA) DI._auto_1)
 (ah:autoParam (∀b q aA,aJ (fq (v::b::q) σ) aA->False) sT._auto_1):c8 prog w h₁ k (λvs=>call (.builtin "len") vs) fq W σ (v::r) (ay::cu):=
 .end (λq=>v::q) (λq=>ay::q) aI (λA s Q E aE aX R=>wpN.of (T7 R bT (h1 _ aX))) ah
theorem lS:OpOk prog w h₁ k (λvs=>call (.builtin "len") vs) fq:=
 .fI λW σ a br r cu bT aI=>aN.casesOn (motive_1:=λa br _=>c8 prog w h₁ k (λvs=>call (.builtin "len") vs) fq W σ (a::r) (br::cu)) bT (m' .none aI) (λb=>m' (.bool b) aI) (λi t=>m' (.int i t) aI) (λx t=>m' (.str x t) aI) (λb t=>.end (λq=>J.bytes b::q) (λq=>_::q) aI λA s Q E aE aX R=>wpN.of<|by
  obtain⟨ag,aX⟩:=aJ.gj aX
  exact len_bytes (by rw[List.size_toArray];exact aC.Xm ag) (dg.at aX R (by rw[List.size_toArray];exact .int _ _) _)) (λr q=>m' (.bo r q) aI) (λr c d q=>m' (.bp r c d q) aI) (λr z c q=>m' (.cD r z c q) aI) (λr=>m' (.fv r) aI) (λh=>m' (.ref h) aI) (λv=>m' (.bY v) aI)
noncomputable def v8:b3
 |[.int a],σ=>some (.int (if a<0 then-a else a),σ)
 |_,_=>none
theorem U2:OpOk prog w h₁ k (λvs=>call (.builtin "abs") vs) v8:=
 .fI λW σ a br r cu bT aI=>.int (λa=>a::r) (λa=>a::cu) bT λi t=>.end (λq=>_::q) (λq=>_::q) aI λA s Q E aE aX R=>wpN.of<|call_abs_int λu cf=>dg.at aX R (.int _ _) _
noncomputable def BV:b3
 |[.int a],σ=>some (.int a,σ)
 |_,_=>none
theorem JE:OpOk prog w h₁ k (λvs=>call (.type "int") vs) BV:=
 .fI λW σ a br r cu bT aI=>.int (λa=>a::r) (λa=>a::cu) bT λi t=>.end (λq=>_::q) (λq=>_::q) aI λA s Q E aE aX R=>wpN.of<|call_int_int (dg.at aX R (.int _ _) s.toks)
noncomputable def Cr:b3
 |[.int a,.int b],σ=>some (.int (if b<a then b else a),σ)
 |_,_=>none
theorem Va:OpOk prog w h₁ k (λvs=>call (.builtin "min") vs) Cr:=
 .fI λW σ a br r cu bT aI=>.int (λa=>a::r) (λa=>a::cu) bT λi t=>.more (λr=>_::r) (λr=>_::r) aI λb bU q dx cR b5=>.int (λb=>_::b::q) (λb=>_::b::dx) cR λai u=>.end (λq=>_::_::q) (λq=>_::_::q) b5 λA s Q E aE aX R=>wpN.of<|
 min_two_ints aE.h λh' cf hk=>dg.to aX W _ h' cf az.le.refl (bt _) (R.m9 hk) (by
  by_cases e:ai<i
  .rw[if_pos e,if_pos e];exact .int _ _
  .rw[if_neg e,if_neg e];exact .int _ _)
noncomputable def ib:List J->Option (List Int)
 |[]=>some []
 |.int i::r=>(ib r).map λl=>i::l
 |_=>none
theorem Tx(a:aN prog w W n v ay)(e:ib (v::vs)=some l):∃i t q,ay=.int i t/\ib vs=some q/\l=i::q:=
 aN.casesOn (motive_1:=λv ay _=>ib (v::vs)=some l->∃i t q,ay=.int i t/\ib vs=some q/\l=i::q) a (λe=>aq e) (λ_ e=>aq e)
  (λi t e=>by obtain⟨q,b5,e⟩:=fS.mp e;exact⟨i,t,q,rfl,b5,e.symm⟩) (λ_ _ e=>aq e) (λ_ _ e=>aq e) (λ_ _ e=>aq e) (λ_ _ _ _ e=>aq e) (λ_ _ _ _ e=>aq e) (λ_ e=>aq e) (λ_ e=>aq e) (λ_ e=>aq e) e
theorem BW(r:bw prog w W n vs bK)(e:ib vs=some l):IntsAre bK l:=
 r.ind (P:=λvs bK=>∀l,ib vs=some l->IntsAre bK l) (λl e=>b9 e▸.nil) (λa _ aZ l e=>by
  obtain⟨i,t,q,a9,b5,a7⟩:=Tx a e
  rw[a9,a7];exact .cons i t (aZ q b5)) l e
noncomputable def q0:b3
 |[v],σ=>(ff v σ).bind λvs=>(ib vs).map λl=>(J.int l.sum,σ)
 |_,_=>none
theorem JH:OpOk prog w h₁ k (λvs=>call (.builtin "sum") vs) q0:=
 .fI λW σ a br r cu bT aI=>.end (λq=>a::q) (λq=>br::q) aI λA s Q E aE aX R=>wpN.of<|e0 λG bZ=>by
 obtain⟨vs,a3,aX⟩:=(aJ.hG aX).cC
 obtain⟨l,aG,aX⟩:=(aJ.map aX).cC
 obtain⟨b,items,e,e',q⟩:=hq R bT a3
 have hi:=BW q aG
 have en:=hi.numsOf
 obtain⟨xs,av⟩:=hi.allInts.items
 rw[show items=intItems xs from av] at e' en
 rw[nums_intItems] at en
 refine bZ ?_
 rw[e]
 refine sum_intListG aE.h e' λh' cf dQ hk=>?_
 have a7:preSum (numAt xs) xs.size=l.sum:=by
  rw[preSum_eq,List.take_of_length_le (by simp),<-en]
 rw[a7]
 exact dg.to aX W _ h' cf az.le.refl (bt _) (R.m9 hk) (.int _ _)
noncomputable def mJ:b3
 |[.int n],σ=>some (.fv 0 n 1,σ)
 |[.int a,.int b,.int c],σ=>if c≠0/\c.natAbs<1073741824 then some (.fv a b c,σ) else none
 |_,_=>none
theorem uJ:OpOk prog w h₁ k (λvs=>call (.type "range") vs) mJ:=
 .fI λW σ a br r cu bT aI=>.int (λa=>a::r) (λa=>a::cu) bT λn t=>.MP (λr=>_::r) (λr=>_::r) aI
  (λA s Q E aE aX R=>wpN.of<|call_range_1<|by
    obtain⟨cx,ba⟩:=R.new (x' 0 n 1 s.toks t (s.toks+1)) rfl
    exact dg.to aX _ _ _ _ ba (bt _) cx (.fv az.c5))
  λb bU q dx cR b5=>.int (λb=>_::b::q) (λb=>_::b::dx) cR λm u=>.more (λq=>_::_::q) (λq=>_::_::q) b5 λc cp p jA eo hp=>.int (λc=>_::_::c::p) (λc=>_::_::c::jA) eo λd z=>
   .end (λp=>_::_::_::p) (λp=>_::_::_::p) hp λA s Q E aE aX R=>wpN.of<|by
   obtain⟨aw,aX⟩:=aJ.gj aX
   refine call_range_3 aw.1 ?_ (.inl (PyProof.noPylong_small aw.2))
   obtain⟨cx,ba⟩:=R.new (x' n m d t u z) rfl
   exact dg.to aX _ _ _ _ ba (bt _) cx (.fv az.c5)
noncomputable def n':b3
 |[.bo vs],σ=>if vs.length<=1000000 then some (.bp vs,σ) else none
 |[v],σ=>(ff v σ).bind λvs=>if vs.length<=1000000 then some (.bp vs,σ) else none
 |_,_=>none
theorem IL(R:bB prog w h₁ W σ s.heap)(hT:T="list"\/T="tuple")(aH:s.heap.get? it=some o)(aw:o.cls=.type T)(aB:o.data=.seq items n)(q:bw prog w W σ.next vs items.toList)
 (aX:aJ (if vs.length<=1000000 then some (J.bp vs,σ) else none) (dg prog w h₁ W σ s Q)):wpAny (model prog w) A (call (.type "list") [.ref it]) Q E s:=by
 obtain⟨aG,aX⟩:=aJ.gj aX
 refine call_list_seq it hT aH aw aB (λh' cp hk aW=>?_) (qO ((e6 (xs:=items)).symm.trans q.length) aG)
 have dS:=R.free (bt s.heap.objs.size)
 have ba:=az.ho (n:=σ.next) (r:=.imm (listOf items cp)) dS
 exact dg.to aX _ _ h' s.toks ba (bt _) ((R.m9 hk).ia (r:=.imm (listOf items cp)) dS ⟨_,aW⟩ (λcV e=>bQ.imm.inj e▸aW) (λcV e=>nomatch e)) (.bp az.c5 rfl rfl (q.a5 ba.1 (bt _)))
theorem Ub(R:bB prog w h₁ W σ s.heap)(bT:aN prog w W σ.next v ay)(aX:aJ ((ff v σ).bind λvs=>if vs.length<=1000000 then some (J.bp vs,σ) else none) (dg prog w h₁ W σ s Q)):
 wpAny (model prog w) A (call (.type "list") [ay]) Q E s:=by
 obtain⟨vs,a3,aX⟩:=(aJ.hG aX).cC
 obtain⟨l,items,e,⟨o,aH,aw,n,aB⟩,q⟩:=hq R bT a3
 rw[e]
 exact IL R (.inl rfl) aH aw aB q aX
theorem nc(bT:aN prog w W σ.next v ay)(aI:bw prog w W σ.next r cu)(h1:autoParam (∀aA,aJ (n' [v] σ) aA->aJ ((ff v σ).bind λvs=>if vs.length<=1000000 then some (J.bp vs,σ) else none) aA) DI._auto_1)
 (ah:autoParam (∀b q aA,aJ (n' (v::b::q) σ) aA->False) sT._auto_1):c8 prog w h₁ k (λvs=>call (.type "list") vs) n' W σ (v::r) (ay::cu):=
 .end (λq=>v::q) (λq=>ay::q) aI (λA s Q E aE aX R=>wpN.of (Ub R bT (h1 _ aX))) ah
theorem CB:OpOk prog w h₁ k (λvs=>call (.type "list") vs) n':=
 .fI λW σ a br r cu bT aI=>aN.casesOn (motive_1:=λa br _=>c8 prog w h₁ k (λvs=>call (.type "list") vs) n' W σ (a::r) (br::cu)) bT (nc .none aI) (λb=>nc (.bool b) aI) (λi t=>nc (.int i t) aI) (λx t=>nc (.str x t) aI) (λb t=>nc (.bytes b t) aI) (λ{_ _ _ vs} bc cq=>.end (λq=>J.bo vs::q) (λq=>_::q) aI λA s Q E aE aX R=>wpN.of<|IL R (.inr rfl) (R.imm _ _ bc) rfl rfl cq aX) (λr c d q=>nc (.bp r c d q) aI) (λr z c q=>nc (.cD r z c q) aI) (λr=>nc (.fv r) aI) (λh=>nc (.ref h) aI) (λv=>nc (.bY v) aI)
theorem Tv:typeLookup (.type "int") "__bytes__"=pure none:=by rw[typeLookup_type,builtinLookup_eq_fast];kernel_rfl
theorem Oi(ah:0<=n)(h1:n<=1000000)
 (aQ:∀dQ k,Q (.bytes (Array.replicate n.toNat 0) dQ) {s with toks:=k}):
 codeAny (model prog w) A (.call (.builtin "bytes.__new__") ⟨[.type "bytes",.int n t],[]⟩) (wants Q E) s:=by
 refine codeAny_of_tree ?_
 show wpAny _ A.in1 (do checkBuiltinCall "bytes.__new__" ⟨[.type "bytes",.int n t],[]⟩;again (.builtin "bytes.__new__" ⟨[.type "bytes",.int n t],[]⟩)) _ _ s
 refine aM (fZ (PySem.F.bm_newCall _) (bx ⟨plainId_quiet PySem.F.bm_plain _,codeAny_builtin PySem.F.bm_entry ?_⟩))
 rw[Around.under_plainId PySem.F.bm_plain _]
 have hT:s.TypeIs (.int n t) "int":=typeIs_int s n t
 unfold Builtin.«bytes.__new__»
 refine aM (fZ (a:=true) rfl ?_)
 refine bm_if_false rfl ?_
 refine aM (fZ PySem.F.bm_sub ?_)
 refine bm_if_false rfl ?_
 refine aM (fZ (PySem.F.bm_bind _) ?_)
 refine aM (fZ (a:=()) rfl ?_)
 refine aM (fZ (a:=()) rfl ?_)
 refine bm_if_false rfl ?_
 refine aM (wpAny_specialOf hT Tv ?_)
 refine aM (aM (bx (bx ?_)))
 refine bm_if_false rfl ?_
 refine aM (wpAny_specialOf hT PySem.F.slot_int_index.lookup ?_)
 refine bm_if_false rfl ?_
 refine aM (wpAny_attempt (fZ (a:=n) rfl ?_))
 dsimp only
 have hf:Builtin.Bytes.fitsIndex n=true:=by simp only[Builtin.Bytes.fitsIndex,Bool.and_eq_true,decide_eq_true_eq];omega
 have aG:Builtin.Bytes.tooLong n.toNat=false:=by unfold Builtin.Bytes.tooLong sizeLine;simp;exact aC.XC h1
 rw[hf,aG,if_neg (by decide),if_neg (by exact aC.x1 ah),if_neg (by omega),if_neg (by decide)]
 refine aM (wpAny_rule ?_)
 refine aM (wpAny_mkBytes ?_ ?_)
 .exact bx (aQ _ _)
 .rw[Array.size_replicate];unfold sizeLine;omega
noncomputable def gE:b3
 |[.int n],σ=>if 0<=n/\n<=1000000 then some (.bytes (List.replicate n.toNat 0),σ) else none
 |[v],σ=>(ff v σ).bind λvs=>(ib vs).bind λl=>if l.length<=1000000/\l.all (λi=>decide (0<=i/\i<256))=true then some (.bytes (l.map λi=>i.toNat.toUInt8),σ) else none
 |_,_=>none
theorem Og(aE:eR A k)(R:bB prog w h₁ W σ s.heap)(bT:aN prog w W σ.next v ay)(aX:aJ ((ff v σ).bind λvs=>(ib vs).bind λl=>if l.length<=1000000/\l.all (λi=>decide (0<=i/\i<256))=true then some (J.bytes (l.map λi=>i.toNat.toUInt8),σ) else none) (dg prog w h₁ W σ s Q)):
 wpAny (model prog w) A (call (.type "bytes") [ay]) Q E s:=by
 refine e0 λG bZ=>?_
 obtain⟨vs,a3,aX⟩:=(aJ.hG aX).cC
 obtain⟨l,aG,aX⟩:=(aJ.hG aX).cC
 obtain⟨aw,aX⟩:=aJ.gj aX
 obtain⟨a,items,e,e',q⟩:=hq R bT a3
 have hi:=BW q aG
 have aI:∀n∈l,0<=n/\n<256:=λn aW=>of_decide_eq_true (List.all_eq_true.mp aw.2 n aW)
 refine bZ ?_
 rw[e]
 exact call_bytes_ints (vs:=items.toList) e' hi aI (by rw[hi.length];unfold sizeLine;omega) aE.h λh' t k hk=>dg.to aX W _ h' _ az.le.refl (bt _) (R.m9 hk) (.bytes _ _)
theorem mU(bT:aN prog w W σ.next v ay)(aI:bw prog w W σ.next r cu)(h1:autoParam (∀aA,aJ (gE [v] σ) aA->aJ ((ff v σ).bind λvs=>(ib vs).bind λl=>if l.length<=1000000/\l.all (λi=>decide (0<=i/\i<256))=true then some (J.bytes (l.map λi=>i.toNat.toUInt8),σ) else none) aA) DI._auto_1)
 (ah:autoParam (∀b q aA,aJ (gE (v::b::q) σ) aA->False) sT._auto_1):c8 prog w h₁ k (λvs=>call (.type "bytes") vs) gE W σ (v::r) (ay::cu):=
 .end (λq=>v::q) (λq=>ay::q) aI (λA s Q E aE aX R=>wpN.of (Og aE R bT (h1 _ aX))) ah
theorem ng:OpOk prog w h₁ k (λvs=>call (.type "bytes") vs) gE:=
 .fI λW σ a br r cu bT aI=>aN.casesOn (motive_1:=λa br _=>c8 prog w h₁ k (λvs=>call (.type "bytes") vs) gE W σ (a::r) (br::cu)) bT (mU .none aI) (λb=>mU (.bool b) aI) (λn t=>.end (λq=>J.int n::q) (λq=>_::q) aI λA s Q E aE aX R=>wpN.of<|by
  obtain⟨aW,aX⟩:=aJ.gj aX
  refine callType_codes (Q₁:=λobj bj=>bj.TypeIs obj "bytes"/\Q obj bj) PySem.F.bm_called (PySem.F.bm_typeCall _) PySem.F.entry_object_init
   (Oi aW.1 aW.2 λdQ k=>⟨PySem.W.typeIs_bytes _ _ _,?_⟩) λobj bj h₁=>?_
  .rw[<-List.toArray_replicate]
   exact dg.at aX R (.bytes _ _) _
  .exact⟨h₁.1,PySem.F.args_object_init_2 obj _,object_init_meets PySem.F.bm_called.init.lookup PySem.F.bm_called.made (by decide) prog w A.in1 _ bj ⟨h₁.1,rfl,h₁.2⟩⟩) (λx t=>mU (.str x t) aI) (λb t=>mU (.bytes b t) aI) (λr q=>mU (.bo r q) aI) (λr c d q=>mU (.bp r c d q) aI) (λr z c q=>mU (.cD r z c q) aI) (λr=>mU (.fv r) aI) (λh=>mU (.ref h) aI) (λv=>mU (.bY v) aI)
theorem Fl:mroOf (.type "bytearray")=pure [.type "bytearray",.type "object"]:=by rw[mroOf_type];kernel_rfl
theorem NP:typeLookup (.type "bytearray") "__new__"=pure (some (.builtin "bytearray.__new__")):=by rw[typeLookup_type,builtinLookup_eq_fast];kernel_rfl
theorem N0:PySem.Slot "bytearray" "__init__" "bytearray.__init__":=
 .of (owner:="bytearray") (n:="__init__") (by rw[typeLookup_type,builtinLookup_eq_fast];kernel_rfl) (by decide+kernel) (by decide+kernel) (by decide+kernel)
  (by first|exact .inl (by decide+kernel)|exact .inr (by decide+kernel)) (by rw[isSubtype_type];kernel_rfl)
theorem NJ:TypeCalled "bytearray" "bytearray.__new__" "bytearray.__init__":=
 ⟨by decide+kernel,by decide+kernel,⟨_,_,Fl⟩,madeBy_type Fl NP (by decide+kernel),by decide+kernel,by rw[isSubtype_type];kernel_rfl,N0⟩
theorem N1(a:Value):checkTypeCall "bytearray" ⟨[a],[]⟩=pure ():=by kernel_rfl
theorem NQ(a:Value):checkBuiltinCall "bytearray.__new__" ⟨[.type "bytearray",a],[]⟩=pure ():=by kernel_rfl
theorem Fo:plainId "bytearray.__new__"=true:=by decide+kernel
theorem NK:entryFor table "bytearray.__new__"=some Builtin.«list.__new__»:=entryFor_alias (id':="list.__new__") (by rw[fastTable_eq_tree];kernel_rfl) (by decide+kernel) (by decide+kernel) (by rw[fastTable_eq_tree];kernel_rfl)
theorem NL:entryFor table "bytearray.__init__"=some Builtin.«bytearray.__init__»:=entryFor_of_tree (by kernel_rfl)
theorem NR:typeLookup (.type "bytearray") "__bytes__"=pure none:=by rw[typeLookup_type,builtinLookup_eq_fast];kernel_rfl
theorem NS:typeLookup (.type "bytearray") "__index__"=pure none:=by rw[typeLookup_type,builtinLookup_eq_fast];kernel_rfl
theorem zk:typeLookup (.type "bytearray") "__buffer__"=pure (some (.builtin "bytearray.__buffer__")):=by rw[typeLookup_type,builtinLookup_eq_fast];kernel_rfl
theorem NW:typeLookup (.type "bytearray") "__release_buffer__"=pure (some (.builtin "bytearray.__release_buffer__")):=by rw[typeLookup_type,builtinLookup_eq_fast];kernel_rfl
theorem zl:isSubtype (.type "bytearray") (.type "bytearray")=pure true:=by rw[isSubtype_type];kernel_rfl
theorem NG(v:Value):Builtin.Bytes.bindOptional "bytearray.__init__" "bytearray" ["source","encoding","errors"] [v] []=pure [some v,none,none]:=by kernel_rfl
theorem Fp:PySem.Slot "bytearray" "__setitem__" "bytearray.__setitem__":=
 .of (owner:="bytearray") (n:="__setitem__") (by rw[typeLookup_type,builtinLookup_eq_fast];kernel_rfl) (by decide+kernel) (by decide+kernel) (by decide+kernel)
  (by first|exact .inl (by decide+kernel)|exact .inr (by decide+kernel)) (by rw[isSubtype_type];kernel_rfl)
theorem NM:entryFor table "bytearray.__setitem__"=some Builtin.«bytearray.__setitem__»:=entryFor_of_tree (by kernel_rfl)
theorem NF(a b c:Value):argsOk "bytearray.__setitem__" ⟨[a,b,c],[]⟩:=by unfold argsOk;kernel_rfl
theorem ND(a b:Value):argsOk "bytearray.__init__" ⟨[a,b],[]⟩:=by unfold argsOk;kernel_rfl
noncomputable def o1(self:Value):Code×Pos->Bool:=λ
 |(.builtin "bytearray.__contains__" ⟨v::_,_⟩,_)|(.builtin "bytearray.__mod__" ⟨v::_,_⟩,_)
 |(.builtin "bytearray.__rmod__" ⟨_::v::_,_⟩,_)|(.builtin "_struct.pack_into.held" ⟨v::_,_⟩,_)=>Builtin.Bytes.sameRef v self
 |(.builtin "bytearray.find.held" ⟨_::_::held,_⟩,_)=>held.any (Builtin.Bytes.sameRef self)
 |(.builtin id ⟨v::_,_⟩,_)=>Builtin.Bytes.sameRef v self&&Builtin.Bytes.decodersThatHold.contains id
 |_=>false
theorem Qg{id:String}(aU:(Code.builtin id a).isGuard=false)(aH:lU (.builtin id a)=true):o1 self (.builtin id a,p)=false:=by
 have n:∀x,guardIds.contains x=true->¬id=x:=λx av e=>xR (av.symm.trans (by rw[<-e];exact aU))
 unfold o1 o1.match_1
 first|dsimp only[o1._sparseCasesOn_1]|dsimp only[lU._sparseCasesOn_1]
 rw[dif_neg (n _ (by decide+kernel)),dif_neg (n _ (by decide+kernel)),dif_neg (n _ (by decide+kernel)),dif_neg (n _ (by decide+kernel)),dif_neg (n _ (by decide+kernel))]
 rcases a with⟨_|⟨v,r⟩,kw⟩
 .rfl
 .have h:(!Builtin.Bytes.decodersThatHold.contains id)=true:=aH
  show(Builtin.Bytes.sameRef v self&&Builtin.Bytes.decodersThatHold.contains id)=false
  rw[(Bool.not_eq_true' _).mp h,Bool.and_false]
theorem Qh(aU:c.isGuard=false)(aH:lU c=true):o1 self (c,p)=false:=
 Code.casesOn (motive:=λc=>c.isGuard=false->lU c=true->o1 self (c,p)=false) c (λ_ _ _ _=>rfl) (λ_ _ aU aH=>Qg aU aH) (λ_ _ _ _=>rfl) (λ_ _ _ _=>rfl) (λ_ _ _ _ _=>rfl) (λ_ _ _ _ _ _ _=>rfl) (λ_ _ _ _=>rfl) (λ_ _ _ _=>rfl)
  (λ_ _ _ _ _ _=>rfl) (λ_ _ _ _ _ _ _=>rfl) (λ_ _ _ _ _ _ _=>rfl) (λ_ _ _ _ _ _ _=>rfl) (λ_ _ _ _ _ _ _=>rfl) aU aH
theorem Qi(aU:A.guards=some [])(h:Q false s):wpN M A (Builtin.Bytes.exported a) Q E s:=λc6 p fb aw=>by
 have g1:guardsOf ((c6.code,p)::c6.below)=[]:=by rw[guardsOf_cons];exact fb.2.2.2.1 [] aU
 show Q (List.any ((c6.code,p)::c6.below) (o1 a)) s
 have e:List.any ((c6.code,p)::c6.below) (o1 a)=false:=by
  rw[List.any_eq_false]
  intro x av
  have YE:lU x.1=true:=by
   rcases fj.mp av with rfl|av
   .exact aw.1
   .exact aw.2 x av
  have RG:x.1.isGuard=false:=by
   cases q:x.1.isGuard with
   |false=>rfl
   |true=>
    have:x.1∈guardsOf ((c6.code,p)::c6.below):=gZ.mpr ⟨dI.mpr ⟨x,av,rfl⟩,q⟩
    rw[g1] at this;cases this
  rw[show x=(x.1,x.2) from rfl,Qh RG YE];exact fY
 rw[e];exact h
section
variable{A:Around}{E:Value->Shared->Prop}{s:Shared}{R:Result->Shared->Prop}
noncomputable abbrev GL(M:Model)(A:Around)(R:Result->Shared->Prop):Fin->Shared->Prop:=λcH aY=>match cH with|.done f=>R (.ok f) aY|.again cp=>cp.quiet=true/\e8 M A cp R aY
theorem FQ{id:String}(ok:lU (.builtin id args)=true)(ag:entryFor table id=some b)
 (h:wpN (model prog w) (A.under (.builtin id args)) (b args) (GL (model prog w) A R) (λe aY=>R (.error e) aY) s):e8 (model prog w) A (.builtin id args) R s:=by
 refine oU ok ?_
 show wpN _ _ (match entryFor table id with|some b=>b args|none=>unsupported ((withoutEnding? id "#data").getD id)) _ _ s
 rw[ag];exact h
theorem OL{id:String}(ok:lU (.builtin id args)=true)(b5:plainId id=true)(ag:entryFor table id=some b)
 (h:wpN (model prog w) A.in1 (checkBuiltinCall id args) (λ_ bj=>wpN (model prog w) A.in1 (b args) (GL (model prog w) A R) (λe aY=>R (.error e) aY) bj) (λe aY=>R (.error e) aY) s):e8 (model prog w) A (.call (.builtin id) args) R s:=by
 refine oU rfl ?_
 show wpN _ A.in1 (do checkBuiltinCall id args;again (.builtin id args)) _ _ s
 refine a6 (cF h (λ_ bj h₁=>cz ⟨plainId_quiet b5 args,FQ ok ag ?_⟩) λ_ _ h'=>h')
 rw[Around.under_plainId b5 args];exact h₁
theorem Ot{T Jo xn:String}{Q Q₁:Value->Shared->Prop}(nU:TypeCalled T Jo xn)
 (R6:checkTypeCall T ⟨args,[]⟩=pure ())(Qc:entryFor table xn=some Me)(Vk:Builtin.Bytes.decodersThatHold.contains xn=false)
 (SE:codeAny (model prog w) A.in1 (.call (.builtin Jo) ⟨.type T::args,[]⟩) (λr aY=>match r with|.ok (.ret v)=>Q₁ v aY|_=>False) s)
 (SF:∀obj bj,Q₁ obj bj->bj.TypeIs obj T/\argsOk xn ⟨obj::args,[]⟩/\wpN (model prog w) A.in1.in1 (Me ⟨obj::args,[]⟩) (λcH aY=>cH=.done (.ret .none)/\Q obj aY) gW bj):
 wpN (model prog w) A (call (.type T) args) Q E s:=by
 obtain⟨c,adw,Sx⟩:=nU.mro
 have Su:=nU.made
 have BK:=nU.sub
 refine yq (oU rfl ?_)
 show wpN _ _ (callAny (.type T) _) _ _ _
 refine cz ⟨Code.quiet_builtin _ (by decide+kernel),FQ (by rfl) F.entry_type_call ?_⟩
 rw[Around.under_plain (weight_type_call_type T args []) rfl]
 have h1:=nU.notType
 have h2:=nU.canCreate
 unfold Builtin.«type.__call__»
 dsimp only
 first|refine iS (by rw[h1];exact fY) ?_|refine k2 (by rw[h1];exact fY) ?_
 simp only[h2,Bool.false_eq_true,if_false,R6,Sx,Su]
 refine a6 (cz (a6 (cz ?_)))
 first|refine iS (by simp) ?_|refine k2 (by simp) ?_
 refine a6 (cz ?_)
 dsimp only
 refine a6 (cz (a6 (d8 (.of (wpAny_call (codeAny_mono SE λr bj aI=>?_))))))
 induction r with
 |error e=>exact aI.elim
 |ok fl=>induction fl with
  |ret obj=>
   obtain⟨hT,mz,S1⟩:=SF _ _ aI
   dsimp only
   refine a6 (.of (wpAny_isInstance hT BK ?_))
   first|refine iS (by decide) ?_|refine k2 (by decide) ?_
   refine a6 (d8 ?_)
   simp only[callSpecial?]
   refine a6 (.of (wpAny_specialOf hT nU.init.lookup ?_))
   simp only[nU.init.bind]
   refine d8 (a6 (cz (a6 ?_)))
   refine yq (OL (by simpa[lU] using Vk) nU.init.plain Qc (.of (nU.init.check _ _ _ _ _ _ _ _ hT mz ?_)))
   refine cF S1 (λcH cZ hf=>?_) λ_ _ h=>h.elim
   obtain⟨rfl,b5⟩:=hf
   refine cz ?_
   dsimp only
   first|refine iS (by decide) ?_|refine k2 (by decide) ?_
   exact cz b5
  |_=>exact aI.elim
end
end
section
open PySem.SeqAt
set_option maxRecDepth 1000000 in
set_option maxHeartbeats 4000000 in
theorem NT:("bytearray.__new__".splitOn ".__new__").headD ""="bytearray":=by simp+decide [String.splitOn,String.splitOnAux]
theorem NU:("bytearray.__release_buffer__".endsWith ("."++"__release_buffer__"))=true:=by decide+kernel
set_option linter.deprecated false in
theorem NV:("bytearray.__release_buffer__".dropRight ("__release_buffer__".length+1))="bytearray":=by decide+kernel
theorem NH:("bytearray.__buffer__".endsWith ("."++"__buffer__"))=true:=by decide+kernel
set_option linter.deprecated false in
theorem NI:("bytearray.__buffer__".dropRight ("__buffer__".length+1))="bytearray":=by decide+kernel
noncomputable abbrev jr(b:Array UInt8):Obj:={cls:=.type "bytearray",data:=.bytearray b 0}
section
variable{prog:Program}{w:World}{A:Around}{E:Value->Shared->Prop}{s:Shared}
theorem OR(a:Value){Q₁:Value->Shared->Prop}
 (h:Q₁ (.ref s.heap.objs.size) {s with heap:=s.heap.push (jr #[])}):
 codeAny (model prog w) A (.call (.builtin "bytearray.__new__") ⟨[.type "bytearray",a],[]⟩) (λr aY=>match r with|.ok (.ret v)=>Q₁ v aY|_=>False) s:=by
 refine codeAny_of_tree ?_
 show wpAny _ A.in1 (do checkBuiltinCall "bytearray.__new__" ⟨[.type "bytearray",a],[]⟩;again (.builtin "bytearray.__new__" ⟨[.type "bytearray",a],[]⟩)) _ _ s
 refine aM (fZ (NQ a) (bx ⟨plainId_quiet Fo _,codeAny_builtin_stack NK rfl λp st=>?_⟩))
 rw[Around.under_plainId Fo _]
 have BK:=zl
 have BB:=NT
 obtain⟨hp,g,d,cf,os⟩:=s
 simp only[BB]
 wp_walk
 exact h
theorem NZ(hT:s.TypeIs (.ref a) "bytearray")(h:Q true s):wpAny (model prog w) A (Builtin.Bytes.slotIsOwn (.ref a) "__release_buffer__") Q E s:=by
 unfold Builtin.Bytes.slotIsOwn
 refine aM (wpAny_specialOf hT NW ?_)
 dsimp only
 rw[if_neg (by rw[NU];decide),NV]
 exact wpAny_isInstance hT zl h
theorem NY(hT:s.TypeIs (.ref a) "bytearray")(h:Q true s):wpAny (model prog w) A (Builtin.Bytes.slotIsOwn (.ref a) "__buffer__") Q E s:=by
 unfold Builtin.Bytes.slotIsOwn
 refine aM (wpAny_specialOf hT zk ?_)
 dsimp only
 rw[if_neg (by rw[NH];decide),NI]
 exact wpAny_isInstance hT zl h
theorem Fm(hT:s.TypeIs (.ref a) "bytearray")(h:Q false s):wpAny (model prog w) A (Builtin.Bytes.ownRelease (.ref a)) Q E s:=by
 unfold Builtin.Bytes.ownRelease
 exact aM (NZ hT (bx h))
theorem zm(aH:s.heap.get? a=some (jr b))(hz:(f b).size<=sizeLine)
 (h:∀h',h'.get? a=some (jr (f b))->Heap.SameBut a s.heap h'->Q () {s with heap:=h'}):wpAny (model prog w) A (Builtin.Bytes.write (.ref a) f) Q E s:=by
 show wpAny _ _ (updateBytearray a f) _ _ _
 unfold updateBytearray
 refine aM (wpAny_load aH ?_)
 dsimp only
 refine aM (wpAny_update aH ?_)
 have tZ:(s.heap.update a (Obj.mapBytearray f)).get? a=some (jr (f b)):=Heap.get?_update_self _ aH rfl
 refine wpAny_lookBehind tZ ?_ (h _ tZ (Heap.SameBut.update ..))
 show(if(f b).size>sizeLine then _ else _)=none
 rw[if_neg (by exact aC.XO hz)]
theorem Fn(aH:s.heap.get? a=some (jr b))(h:Q b s):wpAny (model prog w) A (Builtin.Bytes.payload (.ref a)) Q E s:=by
 unfold Builtin.Bytes.payload Builtin.Bytes.payload?
 refine aM (aM (wpAny_load aH ?_))
 exact bx (bx h)
theorem NN(aH:s.heap.get? a=some (jr b))(h:Q 0 s):wpAny (model prog w) A (Builtin.Bytes.exportsOf (.ref a)) Q E s:=by
 unfold Builtin.Bytes.exportsOf
 exact aM (wpAny_load aH (bx h))
theorem NO(aU:A.guards=some [])(aH:s.heap.get? a=some (jr #[]))(ah:0<=n)(h1:n<=1000000)
 (h:∀h',h'.get? a=some (jr (Array.replicate n.toNat 0))->Heap.SameBut a s.heap h'->Q (.done (.ret .none)) {s with heap:=h'}):
 wpN (model prog w) A (Builtin.«bytearray.__init__» ⟨[.ref a,.int n t],[]⟩) Q gW s:=by
 have hT:s.TypeIs (.ref a) "bytearray":=⟨_,aH,rfl⟩
 unfold Builtin.«bytearray.__init__»
 refine a6 (.of (Fm hT ?_))
 first|refine iS (by decide) ?_|refine k2 (by decide) ?_
 refine a6 (.of (fZ (NG _) ?_))
 dsimp only
 refine a6 (cz (a6 (cz ?_)))
 refine a6 (a6 (Qi aU ?_))
 refine wpN.of ?_
 refine aM (NN aH (bx ?_))
 first|refine iS (by decide) ?_|refine k2 (by decide) ?_
 refine wpN.of ?_
 refine aM (zm (f:=λ_=> #[]) aH (by simp) λh1 kY H9=>?_)
 refine aM (fZ (a:=none) rfl ?_)
 refine bm_if_false rfl ?_
 refine aM ?_
 rw[if_neg (by decide),if_neg (by decide)]
 refine bx ?_
 have Bb:({s with heap:=h1}:Shared).TypeIs (.int n t) "int":=typeIs_int _ n t
 refine aM (wpAny_specialOf Bb PySem.F.slot_int_index.lookup ?_)
 first|refine i9 (by rfl) ?_|refine r0 (by rfl) ?_
 refine aM (wpAny_attempt (fZ (a:=n) rfl ?_))
 dsimp only
 have hf:Builtin.Bytes.fitsIndex n=true:=by simp only[Builtin.Bytes.fitsIndex,Bool.and_eq_true,decide_eq_true_eq];omega
 have aG:Builtin.Bytes.tooLong n.toNat=false:=by unfold Builtin.Bytes.tooLong sizeLine;simp;omega
 have hm:(n==2^63-1)=false:=by rw[beq_eq_false_iff_ne];omega
 rw[hf,aG,hm,if_neg (by decide),if_neg (by exact aC.x1 ah),if_neg (by decide),if_neg (by decide)]
 refine aM (wpAny_rule ?_)
 by_cases aW:n>0
 .first|refine i9 aW ?_|refine r0 aW ?_
  refine aM (zm (f:=λ_=>Array.replicate n.toNat 0) kY (by rw[Array.size_replicate];unfold sizeLine;omega) λh2 qu BI=>?_)
  exact bx (h _ qu (H9.trans BI))
 .first|refine iS aW ?_|refine k2 aW ?_
  have:n=0:=by exact aC.XQ ah aW
  subst this
  exact bx (h _ kY H9)
theorem Ou(aU:A.guards=some [])(ah:0<=n)(h1:n<=1000000)
 (h:∀h',h'.get? s.heap.objs.size=some (jr (Array.replicate n.toNat 0))->(∀b o,s.heap.get? b=some o->h'.get? b=some o)->Q (.ref s.heap.objs.size) {s with heap:=h'}):
 wpN (model prog w) A (call (.type "bytearray") [.int n t]) Q E s:=by
 refine Ot (Q₁:=λobj bj=>obj=.ref s.heap.objs.size/\bj={s with heap:=s.heap.push (jr #[])}) NJ (N1 _) NL (by decide+kernel) (OR _ ⟨rfl,rfl⟩) λobj bj h₁=>?_
 obtain⟨rfl,rfl⟩:=h₁
 have hI:(s.heap.push (jr #[])).get? s.heap.objs.size=some (jr #[]):=gA _ rfl
 refine⟨⟨_,hI,rfl⟩,ND _ _,NO aU hI ah h1 λh' gs iR=>⟨rfl,h h' gs λb o e=>?_⟩⟩
 exact(iR.2 b (d9 (Heap.lt_size e))).trans (i2 _ e)
theorem NX(aH:s.heap.get? a=some (jr b))(ah:0<=i)(h1:i.toNat<b.size)(hz:b.size<=1000000)(Ta:0<=x)(Tb:x<256)
 (h:∀h',h'.get? a=some (jr (b.setIfInBounds i.toNat x.toNat.toUInt8))->Heap.SameBut a s.heap h'->Q () {s with heap:=h'}):wpAny (model prog w) A (setItem (.ref a) (.int i t) (.int x u)) Q E s:=by
 have hT:s.TypeIs (.ref a) "bytearray":=⟨_,aH,rfl⟩
 unfold setItem
 refine wpAny_holding ?_
 refine aM (wpAny_sequenceKey hT (by decide) ?_)
 refine aM (wpAny_callSpecial?_slot (name:=Str.ofString "__setitem__") hT Fp (wpAny_call_entry Fp hT NM ?_ (NF _ _ _)))
 unfold Builtin.«bytearray.__setitem__»
 refine bm_if_false rfl ?_
 dsimp only
 have Bb:s.TypeIs (.int i t) "int":=typeIs_int _ i t
 have hf:Builtin.Bytes.fitsIndex i=true:=by simp only[Builtin.Bytes.fitsIndex,Bool.and_eq_true,decide_eq_true_eq];omega
 refine aM ?_
 unfold Builtin.Bytes.subscript?
 refine aM (wpAny_specialOf Bb PySem.F.slot_int_index.lookup ?_)
 refine bm_if_false rfl ?_
 refine aM (fZ (a:=i) rfl ?_)
 rw[hf]
 refine bm_if_false rfl ?_
 refine bx ?_
 dsimp only
 refine aM ?_
 unfold Builtin.Bytes.byteValue
 refine aM (fZ (a:=x) rfl ?_)
 refine bm_if_false (by simp only[Bool.or_eq_false_iff,decide_eq_false_iff_not];exact aC.XR Ta Tb) ?_
 refine bx ?_
 refine aM (Fn aH ?_)
 have hs:seqIndex? i b.size=some i.toNat:=by
  unfold seqIndex?
  have dp:i<(b.size:Int):=by exact aC.XS h1
  simp[show ¬i<0 by exact aC.x1 ah,ah,dp]
 rw[hs]
 dsimp only
 refine aM (zm aH (by rw[Array.size_setIfInBounds];unfold sizeLine;omega) λh' gs iR=>?_)
 exact bx ⟨_,rfl,bx (h h' gs iR)⟩
theorem Oh(aH:s.heap.get? a=some (jr b))(hz:b.size<=1000000)
 (aQ:∀dQ k,Q (.bytes b dQ) {s with toks:=k}):
 codeAny (model prog w) A (.call (.builtin "bytes.__new__") ⟨[.type "bytes",.ref a],[]⟩) (wants Q E) s:=by
 refine codeAny_of_tree ?_
 show wpAny _ A.in1 (do checkBuiltinCall "bytes.__new__" ⟨[.type "bytes",.ref a],[]⟩;again (.builtin "bytes.__new__" ⟨[.type "bytes",.ref a],[]⟩)) _ _ s
 refine aM (fZ (PySem.F.bm_newCall _) (bx ⟨plainId_quiet PySem.F.bm_plain _,codeAny_builtin PySem.F.bm_entry ?_⟩))
 rw[Around.under_plainId PySem.F.bm_plain _]
 have hT:s.TypeIs (.ref a) "bytearray":=⟨_,aH,rfl⟩
 unfold Builtin.«bytes.__new__»
 refine aM (fZ (a:=true) rfl ?_)
 refine bm_if_false rfl ?_
 refine aM (fZ PySem.F.bm_sub ?_)
 refine bm_if_false rfl ?_
 refine aM (fZ (PySem.F.bm_bind _) ?_)
 refine aM (fZ (a:=()) rfl ?_)
 refine aM (fZ (a:=()) rfl ?_)
 refine bm_if_false rfl ?_
 refine aM (wpAny_specialOf hT NR ?_)
 refine aM (aM ?_)
 show wpAny _ _ (load a>>=_) _ _ _
 refine aM (wpAny_load aH ?_)
 refine bx (bx ?_)
 refine bm_if_false rfl ?_
 refine aM (wpAny_specialOf hT NS ?_)
 refine bm_if_true rfl ?_
 first
  |show wpAny _ _ (Builtin.Bytes.buffer? "bytes.__new__" (.ref a) true>>=_) _ _ _
  |(refine aM ?_;show wpAny _ _ (Builtin.Bytes.buffer? "bytes.__new__" (.ref a) true>>=_) _ _ _)
 refine aM ?_
 unfold Builtin.Bytes.buffer?
 refine aM (wpAny_specialOf hT zk ?_)
 refine aM (NY hT ?_)
 refine bm_if_false rfl ?_
 refine aM (wpAny_specialOf hT zk ?_)
 dsimp only
 refine aM (Fm hT ?_)
 refine bm_if_false rfl ?_
 refine aM (Fn aH ?_)
 refine bx ?_
 refine aM (wpAny_rule ?_)
 refine aM (wpAny_mkBytes ?_ (by unfold sizeLine;omega))
 show wpAny _ _ (if(Value.type "bytes"==Value.type "bytes")=true then _ else _) _ _ _
 refine bm_if_true (by decide) ?_
 first
  |exact bx (aQ _ _)
  |exact aM (bx (bx (aQ _ _)))
end
section
variable{prog:Program}{w:World}{h₁:Heap}{K:Frag}{own:Bool}{env:Env}{ns:List Str}{k:Nat}
noncomputable def zj:b3
 |[.int n],σ=>if 0<=n/\n<=1000000 then some (.ref σ.next,σ.new (.ej (List.replicate n.toNat 0))) else none
 |_,_=>none
theorem U3:OpOk prog w h₁ k (λvs=>call (.type "bytearray") vs) zj:=
 .fI λW σ a br r cu bT aI=>.int (λa=>a::r) (λa=>a::cu) bT λn t=>.end (λq=>_::q) (λq=>_::q) aI λA s Q E aE aX R=>by
 obtain⟨aW,aX⟩:=aJ.gj aX
 refine Ou aE.g aW.1 aW.2 λh' gs hk=>?_
 have dS:=R.free (bt s.heap.objs.size)
 exact dg.to aX _ _ h' s.toks (az.pg dS) (gp _) ((R.m9 hk).alloc (x:=.ej (List.replicate n.toNat 0)) dS ⟨_,gs⟩ (.ej (by rw[gs,List.toArray_replicate]))) Cs
noncomputable def wi:b3
 |[.ref c],σ=>match σ.cells c with
  |some (.ej b)=>if b.length<=1000000 then some (.bytes b,σ) else none
  |_=>none
 |_,_=>none
theorem df.Fj{α:Type}{x:Option df}{f:List UInt8->Option α}{y:α}(e:(match x with|some (.ej b)=>f b|_=>none)=some y):∃b,x=some (.ej b)/\f b=some y:=by
 rcases x with _|(_|_|_|_|b)
 .exact aq e
 .exact aq e
 .exact aq e
 .exact aq e
 .exact aq e
 .exact⟨b,rfl,e⟩
theorem U4:OpOk prog w h₁ k (λvs=>call (.type "bytes") vs) wi:=
 .fI λW σ a br r cu bT aI=>.ref (λa=>a::r) (λa=>a::cu) bT λc br bT=>.end (λq=>_::q) (λq=>_::q) aI λA s Q E aE aX R=>wpN.of<|by
 obtain⟨v,a0,e,aX⟩:=aX.cC
 obtain⟨b,aw,e⟩:=df.Fj (f:=λb=>if b.length<=1000000 then some (J.bytes b,σ) else none) e
 by_cases aG:b.length<=1000000
 .rw[if_pos aG] at e
  rw[<-Ij e,<-Ik e] at aX
  obtain⟨_,ew⟩:=bT.bf
  rw[ew]
  refine callType_codes (Q₁:=λobj bj=>bj.TypeIs obj "bytes"/\Q obj bj) PySem.F.bm_called (PySem.F.bm_typeCall _) PySem.F.entry_object_init
   (Oh (R.cell c _ aw).2.bf aG λdQ k=>⟨PySem.W.typeIs_bytes _ _ _,dg.at aX R (.bytes _ _) _⟩) λobj bj h₁=>?_
  exact⟨h₁.1,PySem.F.args_object_init_2 obj _,object_init_meets PySem.F.bm_called.init.lookup PySem.F.bm_called.made (by decide) prog w A.in1 _ bj ⟨h₁.1,rfl,h₁.2⟩⟩
 .rw[if_neg aG] at e;exact aq e
noncomputable def ou(o i v:J)(σ:St):Option St:=match o,i,v with
 |.ref c,.int ai,.int x=>match σ.cells c with
  |some (.ej b)=>if 0<=ai/\ai.toNat<b.length/\b.length<=1000000/\0<=x/\x<256 then some (σ.aT c (.ej (b.set ai.toNat x.toNat.toUInt8))) else none
  |_=>none
 |_,_,_=>none
inductive mc (σ a0:St):J->J->J->Prop
 |mk (c:Nat) (ai x:Int) (b:List UInt8) (aw:σ.cells c=some (.ej b)) (h:0<=ai/\ai.toNat<b.length/\b.length<=1000000/\0<=x/\x<256) (e:a0=σ.aT c (.ej (b.set ai.toNat x.toNat.toUInt8))):mc σ a0 (.ref c) (.int ai) (.int x)
theorem mc.Vh{σ a0:St}(h:ou (.ref c) (.int ai) (.int x) σ=some a0):mc σ a0 (.ref c) (.int ai) (.int x):=by
 obtain⟨b,aw,e⟩:=df.Fj (f:=λb=>if 0<=ai/\ai.toNat<b.length/\b.length<=1000000/\0<=x/\x<256 then some (σ.aT c (.ej (b.set ai.toNat x.toNat.toUInt8))) else none) h
 by_cases q:0<=ai/\ai.toNat<b.length/\b.length<=1000000/\0<=x/\x<256
 .rw[if_pos q] at e;exact .mk c ai x b aw q (b9 e).symm
 .rw[if_neg q] at e;exact aq e
theorem mc.of(h:ou o i v σ=some a0):mc σ a0 o i v:=
 J.casesOn (motive_1:=λo=>ou o i v σ=some a0->mc σ a0 (o) (i) (v)) o (λh=>aq h) (λ_ h=>aq h) (λ_ h=>aq h) (λ_ h=>aq h) (λ_ h=>aq h) (λ_ h=>aq h) (λ_ h=>aq h) (λ_ h=>aq h) (λ_ _ _ h=>aq h) (λc=>J.casesOn (motive_1:=λi=>ou (.ref c) i v σ=some a0->mc σ a0 (.ref c) (i) (v)) i (λh=>aq h) (λ_ h=>aq h) (λai=>J.casesOn (motive_1:=λv=>ou (.ref c) (.int ai) v σ=some a0->mc σ a0 (.ref c) (.int ai) (v)) v (λh=>aq h) (λ_ h=>aq h) (λx h=>mc.Vh h) (λ_ h=>aq h) (λ_ h=>aq h) (λ_ h=>aq h) (λ_ h=>aq h) (λ_ h=>aq h) (λ_ _ _ h=>aq h) (λ_ h=>aq h) (λ_ h=>aq h)) (λ_ h=>aq h) (λ_ h=>aq h) (λ_ h=>aq h) (λ_ h=>aq h) (λ_ h=>aq h) (λ_ _ _ h=>aq h) (λ_ h=>aq h) (λ_ h=>aq h)) (λ_ h=>aq h) h
theorem Y3(h:ou o i v σ=some a0):∃c ai x b,o=.ref c/\i=.int ai/\v=.int x/\σ.cells c=some (.ej b)/\(0<=ai/\ai.toNat<b.length/\b.length<=1000000/\0<=x/\x<256)/\a0=σ.aT c (.ej (b.set ai.toNat x.toNat.toUInt8)):=
 mc.casesOn (motive:=λo i v _=>∃c ai x b,o=.ref c/\i=.int ai/\v=.int x/\σ.cells c=some (.ej b)/\(0<=ai/\ai.toNat<b.length/\b.length<=1000000/\0<=x/\x<256)/\a0=σ.aT c (.ej (b.set ai.toNat x.toNat.toUInt8))) (mc.of h) λc ai x b aw h e=>⟨c,ai,x,b,rfl,rfl,rfl,aw,h,e⟩
noncomputable def u2(D gf pQ:c4):ct:=λU σ=>(D U σ).bind λv=>(gf U v.2).bind λo=>(pQ U o.2).bind λi=>(ou o.1 i.1 v.1 i.2).map λa0=>(.next,U,a0)
theorem ZT(h:bk prog w h₁ true env ns k (eval e env) D)(aH:bk prog w h₁ true env ns k (eval o env) gf)(hi:bk prog w h₁ true env ns k (eval i env) pQ)
 (hs:autoParam (swapsWith e (some (.Subscript o i jh)) pos.line env=pure false) aL._auto_1):SOk prog w h₁ env ns k (exec (.Assign [.Subscript o i jh] e pos) env) (u2 D gf pQ):=by
 refine .of λA W U σ s Q E aE ao R=>LF (h.go aE ao.bind R λet cA ao bu dH h1 cL bE ae bA bc=>aH.go aE (aJ.bind ao) bA λgY bH ao bL du h2 tk2 ba aK cx bN=>hi.go aE (aJ.bind ao) cx λpE dv ao b4 d7 aR cU cY bC dj dF=>wpN.of<|e0 λG bZ=>?_) hs
 have bc:=(bc.a5 ba.1 aK).a5 cY.1 bC
 have bN:=bN.a5 cY.1 bC
 obtain⟨pM,eX,aQ⟩:=(aJ.map ao).cC
 obtain⟨c,ai,x,b,mi,z',Aa,aw,ag,P6⟩:=Y3 eX
 rw[show gY=_ from mi] at bN
 rw[show pE=_ from z'] at dF
 rw[show et=_ from Aa] at bc
 rw[P6] at aQ
 obtain⟨_,mi⟩:=bN.bf
 obtain⟨t,z'⟩:=dF.bf
 obtain⟨u,Aa⟩:=bc.bf
 have g:aR.get? (b4.al c)=some (jr b.toArray):=(dj.bI.cell c _ aw).2.bf
 refine bZ ?_
 rw[mi,z',Aa]
 refine NX (s:={s with heap:=aR,toks:=cU}) g ag.1 ag.2.1 ag.2.2.1 ag.2.2.2.1 ag.2.2.2.2 λh' hH hs=>?_
 exact gq.to aQ b4 _ h' cU ((bE.trans ae ba).trans (cm ae aK) cY) (cm ae (cm aK bC)) (dj.mL aw hs (.ej (by rw[hH,List.setIfInBounds_toArray]))) trivial
end
end
section
open PySem.SeqAt
variable{prog:Program}{w:World}{h₁:Heap}{K:Frag}{own:Bool}{env:Env}{ns:List Str}{k:Nat}
noncomputable def andM(ee:c4)(U:Loc):J×St->Option (J×St)
 |(.bool true,cA)=>ee U cA
 |(.bool false,cA)=>some (.bool false,cA)
 |_=>none
noncomputable def mT(eW ee:c4):c4:=λU σ=>(eW U σ).bind (andM ee U)
theorem Ab(h1:bk prog w h₁ own env ns k (eval a9 env) eW)(h2:bk prog w h₁ own env ns k (eval a7 env) ee):
 bk prog w h₁ own env ns k (eval (.BoolOp .And [a9,a7] pos) env) (mT eW ee):=by
 refine .of λA W U σ s Q E aE ao R=>?_
 show wpN _ A (do
  let v<-eval a9 env
  standAt pos
  let c<-holding [v] (truthy v)
  match BoolOp.And,c with
  |.And,false|.Or,true=>pure v
  |_,_=>eval a7 env) _ _ _
 refine a6 (h1.go aE ao.bind R λet cA ao bu dH o6 cL bE ae bA bc=>?_)
 obtain⟨b,e,ao⟩:=bc.A' (λv=>aJ (andM ee U (v,cA)) _) ao
 rw[e]
 refine a6 (ed (a6 (d8 (.of (wpAny_truthy_bool ?_)))))
 rcases b with _|_
 .exact cz (dC.to ao bu _ o6 cL bE ae bA (.bool _))
 .exact h2.go aE ao bA λv a0 c bL du h2 tk2 ba aK cx bN=>c bL du h2 tk2 (bE.trans ae ba) (cm ae aK) cx bN
noncomputable def FC:J×St->Option (Bool×St)
 |(.bool x,ada)=>some (x,ada)
 |_=>none
noncomputable def FN(mQ:b3)(ee:c4)(U:Loc)(b:J):J×St->Option (Bool×St)
 |(.bool true,dv)=>(ee U dv).bind λc=>(mQ [b,c.1] c.2).bind FC
 |(.bool false,dv)=>some (false,dv)
 |_=>none
noncomputable def tC(nB mQ:b3)(yA eW ee:c4):hB:=λU σ=>(yA U σ).bind λa=>(eW U a.2).bind λb=>(nB [a.1,b.1] b.2).bind (FN mQ ee U b.1)
theorem NC(ah:bk prog w h₁ own env ns k (eval l env) yA)(h1:bk prog w h₁ own env ns k (eval bc env) eW)(h2:bk prog w h₁ own env ns k (eval bN env) ee)
 (Mr:OpOk prog w h₁ k (eV (compareOp qR)) nB)(Ms:OpOk prog w h₁ k (eV (compareOp dV)) mQ)(hm:autoParam (lastMarks [qR,dV] [bc,bN]=false) ys._auto_1):
 BOk prog w h₁ own env ns k (isTrue (.Compare l [qR,dV] [bc,bN] pos) env h5) (tC nB mQ yA eW ee):=by
 refine .of λA W U σ s Q E aE ao R=>?_
 show wpN _ A (do testChain pos (<-eval l env) [qR,dV] (markedEach [qR,dV] [bc,bN] (evalEach [bc,bN] env))) Q E s
 rw[markedEach_of_false _ _ _ hm]
 refine a6 (ah.go aE ao.bind R λjD ac' ao iq yn eF q3 i' ab gM k7=>?_)
 show wpN _ A (do
  let fx<-holding [yn] (eval bc env)
  standAt pos
  let c<-holding [yn,fx] (compareOp qR yn fx)
  release [yn,fx] [c]
  if<-holding [c,fx] (truthy c) then testChain pos fx [dV] [eval bN env] else pure false) Q E _
 refine a6 (d8 (h1.go aE (aJ.bind ao) gM λet cA ao bu dH o6 cL bE ae bA bc=>?_))
 refine a6 (ed (a6 (d8 ?_)))
 refine bA.mI (s:={s with heap:=o6,toks:=cL}) Mr aE (aJ.bind ao) (.cons (k7.a5 bE.1 ae) (.cons bc .nil)) λgY bH ao bL du w5 tk2 ba aK cx ZP=>?_
 refine a6 (.of (wpAny_release' (a6 (d8 ?_))))
 have ja:=(i'.trans ab bE).trans (cm ab ae) ba
 have xQ:=cm ab (cm ae aK)
 obtain⟨b,e,ao⟩:=ZP.A' (λv=>aJ (FN mQ ee U et (v,bH)) _) ao
 rw[e]
 refine .of (wpAny_truthy_bool ?_)
 rcases b with _|_
 .exact cz (dC.to ao bL _ w5 tk2 ja xQ cx rfl)
 .show wpN _ A (do
   let fx<-holding [dH] (eval bN env)
   standAt pos
   let c<-operate [dH,fx] (compareOp dV dH fx)
   holding [c] (truthy c)) Q E _
  refine a6 (d8 (h2.go aE (aJ.bind ao) cx λpE dv ao b4 d7 RI cU cY bC dj dF=>?_))
  refine a6 (ed (a6 (vc ?_)))
  refine dj.mI (s:={s with heap:=RI,toks:=cU}) Ms aE (aJ.bind ao) (.cons ((bc.a5 ba.1 aK).a5 cY.1 bC) (.cons dF .nil)) λva pM ao MF ady RK pD qG dU d' qY=>?_
  obtain⟨b,e,ao⟩:=qY.A' (λv=>aJ (FC (v,pM)) _) ao
  rw[e]
  exact d8 (.of (wpAny_truthy_bool (dC.to ao MF _ RK pD ((ja.trans xQ cY).trans (cm xQ bC) qG) (cm xQ (cm bC dU)) d' rfl)))
theorem Fz:PySem.Slot "bytes" "join" "bytes.join":=
 .of (owner:="bytes") (n:="join") (by rw[typeLookup_type,builtinLookup_eq_fast];kernel_rfl) (by decide+kernel) (by decide+kernel) (by decide+kernel)
  (by first|exact .inl (by decide+kernel)|exact .inr (by decide+kernel)) (by rw[isSubtype_type];kernel_rfl)
theorem Oc:entryFor table "bytes.join"=some Builtin.«bytes.join»:=by first|exact entryFor_of_fast (by kernel_rfl)|exact entryFor_of_tree (by kernel_rfl)
theorem Oa(a b:Value):argsOk "bytes.join" ⟨[a,b],[]⟩:=by
 unfold argsOk;rw[signature?_of (id:="bytes.join") (n:=['n','i','o','j']) (o:=['s','e','t','y','b']) (by kernel_rfl) FB.owner_bytes];kernel_rfl
theorem Od:typeOf (.builtin "bytes.join")=pure (.type "method_descriptor"):=by kernel_rfl
theorem Ob:PlainAttrs "bytes":=FB.plainAttrs_bytes
noncomputable def rA(ps:List (Array UInt8)):Array UInt8:=ps.foldl (·++·) #[]
theorem TN(ps:List (Array UInt8)):Builtin.Bytes.joined #[] ps=rA ps:=by
 unfold Builtin.Bytes.joined rA
 have key:∀(ps:List (Array UInt8)) (n:Nat) (acc:Array UInt8),(ps.zipIdx n).foldl (λcC (x:Array UInt8×Nat)=>(if x.2>0 then cC++ #[] else cC)++x.1) acc=ps.foldl (·++·) acc:=by
  intro ps
  induction ps with
  |nil=>intro n acc;rfl
  |cons p r aZ=>
   intro n acc
   rw[List.zipIdx_cons,List.foldl_cons,List.foldl_cons,aZ]
   congr 1
   split<;>simp
 exact key ps 0 #[]
theorem aa9{id:String}:Builtin.Bytes.takeBufferQuiet? id (.bytes b t) 0=pure (some (b,none)):=by
 unfold Builtin.Bytes.takeBufferQuiet? Builtin.Bytes.takeBuffer?
 have ag:Builtin.Bytes.buffer? id (.bytes b t) (0==Builtin.Bytes.fullReadOnly)=pure (some b):=KBy.buffer_eq
 rw[KBy.special_eq KBy.look_buffer,KBy.own_buffer,ag]
 rfl
section
variable{A:Around}{E:Value->Shared->Prop}{s:Shared}
inductive mP:List Value->List (Array UInt8)->Prop
 |nil:mP [] []
 |cons {b:Array UInt8} {t:Tok} {vs:List Value} {bh:List (Array UInt8)}:mP vs bh->mP (.bytes b t::vs) (b::bh)
theorem mP.at(h:mP vs bh):∀{i:Nat},i<vs.length->∃b t,vs[i]? =some (.bytes b t)/\bh[i]? =some b:=by
 induction h with
 |nil=>intro i hi;simp at hi
 |@cons b t vs bh _ aZ=>
  intro i hi
  induction i with
  |zero=>exact⟨b,t,rfl,rfl⟩
  |succ i=>simpa using aZ (by simpa using hi)
theorem mP.length(h:mP vs bh):vs.length=bh.length:=by
 induction h with
 |nil=>rfl
 |cons _ aZ=>simp[aZ]
noncomputable def uY(bh:List (Array UInt8)):Nat:=bh.foldl (λn b=>n+b.size) 0
theorem KV(bh:List (Array UInt8)):(rA bh).size=uY bh:=by
 have key:∀(bh:List (Array UInt8)) (a:Array UInt8),(bh.foldl (·++·) a).size=bh.foldl (λn b=>n+b.size) a.size:=by
  intro bh
  induction bh with
  |nil=>intro n;rfl
  |cons b r aZ=>intro n;rw[List.foldl_cons,aZ,List.foldl_cons,Array.size_append]
 exact key bh #[]
theorem abi{ps:Array (Array UInt8)}(h:ps.toList=bh):ps.foldl (λn b=>n+b.size) ((#[]:Array UInt8).size*(ps.size-1))=uY bh:=by
 rw[<-Array.foldl_toList,h]
 unfold uY;congr 1;simp
theorem Iu(h:Q () s):∀{cf:List (Value×Option Value)},(∀p∈cf,∃c u,p=(Value.bytes c u,none))->wpAny M A (Builtin.Bytes.joinLetGo cf keep) Q E s
 |[],_=>bx h
 |p::r,hp=>by
  obtain⟨c,u,rfl⟩:=hp p (.head _)
  unfold Builtin.Bytes.joinLetGo
  exact aM (wpAny_letGo (Iu h λq b5=>hp q (.tail _ b5)))
theorem YD{α:Type}{f:Value->α}{b:Array Value->α}{P:α->Prop}(h1:∀x,items= #[x]->P (f x))(ah:P (b items)):P (match(generalizing:=false) items with|#[x]=>f x|y=>b y):=by
 rcases items with⟨_|⟨x,_|⟨y,r⟩⟩⟩
 .exact ah
 .exact h1 x rfl
 .exact ah
theorem UW{cf:List (Value×Option Value)}(rY:∀p∈cf,∃c u,p=(Value.bytes c u,none)):(cf.any λx=>x.1.onHeap)=false:=by
 rw[List.any_eq_false]
 intro p hp
 obtain⟨c,u,e⟩:=rY p hp
 rw[e];exact fY
theorem join_tree{l:Addr}{o:Obj}{items:Array Value}{Q:Value->Shared->Prop}(aH:s.heap.get? l=some o)(aw:o.cls=.type "list")(aB:o.data=.seq items n)(ag:mP items.toList bh)(hz:uY bh<=1000000)
 (aQ:∀dQ k,Q (.bytes (rA bh) dQ) {s with toks:=k}):
 wpAny (model prog w) A (Builtin.«bytes.join» ⟨[.bytes #[] t,.ref l],[]⟩) (λcH aY=>∃v,cH=.done (.ret v)/\Q v aY) E s:=by
 have hT:s.TypeIs (.ref l) "list":=⟨o,aH,aw⟩
 show wpAny _ _ (Builtin.Bytes.joinM .bytes ⟨[.bytes #[] t,.ref l],[]⟩) _ _ _
 unfold Builtin.Bytes.joinM
 refine aM (fZ (a:=(.bytes #[] t,.ref l)) rfl ?_)
 dsimp only
 refine bm_if_true (by decide) ?_
 refine aM ?_
 unfold Builtin.Bytes.joinItems
 refine aM (wpAny_typeOf hT ?_)
 refine bm_if_true (by decide) ?_
 refine bx ?_
 refine aM (wpAny_seqItems aH aB ?_)
 dsimp only
 refine bm_if_true (by decide) ?_
 refine YD (P:=λm=>wpAny (model prog w) A m (λcH aY=>∃v,cH=Fin.done (.ret v)/\Q v aY) E s) (λx e=>?_) ?_
 .rw[e] at ag
  obtain⟨b,u,h1,h2⟩:=ag.at (i:=0) (Nat.zero_lt_one)
  rw[show x=_ from b9 h1]
  refine aM (wpAny_typeOf (typeIs_bytes _ _ _) ?_)
  refine bm_if_true (by decide) ?_
  refine aM (wpAny_rule (bx ⟨_,rfl,?_⟩))
  have q:=aQ u s.toks
  rw[List.length_eq_one_iff.mp ag.length.symm|>.choose_spec] at q h2
  rw[b9 h2] at q
  unfold rA at q
  rw[List.foldl_cons,List.foldl_nil,Array.empty_append] at q
  exact q
 have hsz:=ag.length
 have S4:∀{i:Nat},i<items.size->∃b t,items.getD i .none=.bytes b t/\bh[i]? =some b:=λ{i} hi=>by
  obtain⟨b,t,h1,h2⟩:=ag.at (i:=i) (by rw[e6];exact hi)
  rw[Array.getElem?_toList] at h1
  exact⟨b,t,by rw[Array.getD_eq_getD_getElem?,h1];rfl,h2⟩
 refine aM (A0 _ (λi b aY=>aY=s/\i<=bh.length/\b.1.toList=bh.take i/\∀p∈b.2,∃c u,p=(Value.bytes c u,none)) _ _ (λi b aY hi h=>?_) (λb aY h=>?_) _ ⟨rfl,Nat.zero_le _,rfl,λp hp=>nomatch hp⟩)
 .obtain⟨es,_,t7,rY⟩:=h
  rw[es]
  refine aM (wpAny_seqItems aH aB ?_)
  dsimp only
  obtain⟨c,u,a9,a7⟩:=S4 hi
  rw[a9]
  refine bm_if_false (by rw[UW rY];decide) ?_
  refine aM (wpAny_holding (fZ aa9 ?_))
  dsimp only
  refine aM (wpAny_seqItems aH aB ?_)
  dsimp only
  refine bm_if_false (bne_self_eq_false _) ?_
  refine bx ⟨rfl,by rw[<-hsz,e6];exact hi,?_,λp hp=>?_⟩
  .rw[Array.toList_push,t7,List.take_add_one,a7];rfl
  .rcases h7.mp hp with hp|hp
   .exact rY p hp
   .rw[fB] at hp;exact⟨_,_,hp⟩
 .obtain⟨es,_,t7,rY⟩:=h
  rw[es]
  rw[<-e6,hsz,List.take_length] at t7
  refine aM (bx ?_)
  refine bm_if_false (by
   rw[abi t7];unfold Builtin.Bytes.tooLong sizeLine;simp;exact aC.XT hz) ?_
  rw[TN,t7]
  refine aM (wpAny_mkBytes ?_ (by rw[KV];unfold sizeLine;omega))
  refine aM (wpAny_holding (wpAny_point ?_))
  refine aM (Iu (bx ⟨_,rfl,aQ _ _⟩) rY)
end
noncomputable def bytesOf:List J->Option (List (List UInt8))
 |[]=>some []
 |.bytes b::r=>(bytesOf r).map λl=>b::l
 |_=>none
theorem Oj(a:aN prog w W n v ay)(e:bytesOf (v::vs)=some l):∃b t q,ay=.bytes b t/\bytesOf vs=some q/\l.map List.toArray=b::q.map List.toArray:=
 aN.casesOn (motive_1:=λv ay _=>bytesOf (v::vs)=some l->∃b t q,ay=.bytes b t/\bytesOf vs=some q/\l.map List.toArray=b::q.map List.toArray) a (λe=>aq e) (λ_ e=>aq e) (λ_ _ e=>aq e) (λ_ _ e=>aq e)
  (λb t e=>by obtain⟨q,b5,e⟩:=fS.mp e;exact⟨_,t,q,rfl,b5,e▸rfl⟩) (λ_ _ e=>aq e) (λ_ _ _ _ e=>aq e) (λ_ _ _ _ e=>aq e) (λ_ e=>aq e) (λ_ e=>aq e) (λ_ e=>aq e) e
theorem Ol(r:bw prog w W n vs bK)(e:bytesOf vs=some l):mP bK (l.map List.toArray):=
 r.ind (P:=λvs bK=>∀l,bytesOf vs=some l->mP bK (l.map List.toArray)) (λl e=>b9 e▸.nil) (λa _ aZ l e=>by
  obtain⟨b,t,q,a9,b5,a7⟩:=Oj a e
  rw[a9,a7];exact .cons (aZ q b5)) l e
theorem FI(l:List (List UInt8)):rA (l.map List.toArray)=l.flatten.toArray:=by
 have key:∀(l:List (List UInt8)) (a:List UInt8),(l.map List.toArray).foldl (·++·) a.toArray=(a++l.flatten).toArray:=by
  intro l
  induction l with
  |nil=>intro a;simp
  |cons b r aZ=>intro a;rw[iH,List.foldl_cons,List.append_toArray,aZ,List.flatten_cons,List.append_assoc]
 exact key l []
theorem aaH(l:List (List UInt8)):uY (l.map List.toArray)=l.flatten.length:=by
 rw[<-KV,FI];simp
noncomputable def xt:b3
 |[.bytes [],v],σ=>(ff v σ).bind λvs=>(bytesOf vs).bind λl=>if l.flatten.length<=1000000 then some (.bytes l.flatten,σ) else none
 |_,_=>none
theorem c8.UT(c:J->List J)(cp:Value->List Value)(r:aN prog w W σ.next a br)(y:∀u,c8 prog w h₁ k t F W σ (c (.bytes [])) (cp (.bytes #[] u)))(UG:autoParam (∀x y aA,aJ (F (c (.bytes (x::y))) σ) aA->False) sT._auto_1)
 (hX:autoParam (∀aA,aJ (F (c .none) σ) aA->False) jG._auto_1)(hr:autoParam (∀x aA,aJ (F (c (.bool x)) σ) aA->False) cX._auto_1)(iz:autoParam (∀x aA,aJ (F (c (.int x)) σ) aA->False) cX._auto_1)(hx:autoParam (∀x aA,aJ (F (c (.str x)) σ) aA->False) cX._auto_1)
 (je:autoParam (∀x aA,aJ (F (c (.bo x)) σ) aA->False) cX._auto_1)(jd:autoParam (∀x aA,aJ (F (c (.bp x)) σ) aA->False) cX._auto_1)(hW:autoParam (∀x aA,aJ (F (c (.cD x)) σ) aA->False) cX._auto_1)
 (hv:autoParam (∀x y z aA,aJ (F (c (.fv x y z)) σ) aA->False) pJ._auto_1)(jY:autoParam (∀x aA,aJ (F (c (.ref x)) σ) aA->False) cX._auto_1)(hu:autoParam (∀x aA,aJ (F (c (.bY x)) σ) aA->False) cX._auto_1):c8 prog w h₁ k t F W σ (c a) (cp br):=
 .bytes c cp r (λx u=>List.casesOn (motive:=λx=>c8 prog w h₁ k t F W σ (c (.bytes x)) (cp (.bytes x.toArray u))) x (y u) λa b=>.cO (UG a b)) hX hr iz hx je jd hW hv jY hu
theorem U':OpOk prog w h₁ k (λvs=>call (.builtin "bytes.join") vs) xt:=
 .fI λW σ a br r cu bT aI=>.UT (λa=>a::r) (λa=>a::cu) bT λu=>.more (λr=>_::r) (λr=>_::r) aI λb bU q dx cR b5=>.end (λq=>_::_::q) (λq=>_::_::q) b5 λA s Q E aE aX R=>wpN.of<|by
 obtain⟨vs,a3,aX⟩:=(aJ.hG aX).cC
 obtain⟨l,aG,aX⟩:=(aJ.hG aX).cC
 obtain⟨hz,aX⟩:=aJ.gj aX
 obtain⟨a,items,e,⟨o,aH,aw,n,aB⟩,q⟩:=hq R cR a3
 rw[e]
 refine wpAny_call_entry Fz (typeIs_bytes _ _ _) Oc (join_tree aH aw aB (Ol q aG) (by rw[aaH];exact hz) λdQ kj=>?_) (Oa _ _)
 rw[FI]
 exact dg.at aX R (.bytes _ _) _
end
section
open PySem.SeqAt
section
variable{prog:Program}{w:World}{A:Around}{E:Value->Shared->Prop}{s:Shared}
theorem UQ(hit:KBw.IsBytesIter s.heap it b t i)(av:b[i]? =some c)
 (aQ:∀h',KBw.IsBytesIter h' it b t (i+1)->Heap.SameBut it s.heap h'->Q (.int (c.toNat:Int) s.toks) {s with heap:=h',toks:=s.toks+1}):
 wpAny (model prog w) A (Builtin.SmallTypes.nextOf (.ref it)) Q E s:=by
 obtain⟨o,aH,aw,aB⟩:=id hit
 unfold Builtin.SmallTypes.nextOf
 refine aM (wpAny_callSpecial?_slot (name:=PySem.Str.ofString "__next__") (KBw.iter_typeIs hit) KBw.slot_next
  (wpAny_call_entry KBw.slot_next (KBw.iter_typeIs hit) KBw.entry_next ?_ (KBw.args_next _)))
 show wpAny _ _ (field (.ref it) 0>>=_) _ _ s
 refine aM (wpAny_field aH aB (x:=.bytes b t) rfl ?_)
 show wpAny _ _ (if(Value.bytes b t==Value.none)=true then _ else _) _ _ s
 first|refine iS (show ¬((Value.bytes b t==Value.none)=true) from fY) ?_|refine k2 (show ¬((Value.bytes b t==Value.none)=true) from fY) ?_
 show wpAny _ _ (field (.ref it) 1>>=_) _ _ s
 refine aM (wpAny_field aH aB (x:=.int i 0) rfl ?_)
 refine aM (fZ (a:=b) rfl ?_)
 simp only[Int.toNat_natCast,av]
 refine aM (wpAny_setField aH aB (by simp) (aM (wpAny_mkInt (bx ⟨_,rfl,bx (aQ _ ?_ (Heap.SameBut.update ..))⟩))))
 exact⟨_,Heap.get?_update_self _ aH (Obj.isFreed_of_fields (Obj.data_mapFields aB _)),(Obj.cls_mapFields ..).trans aw,by
  rw[Obj.data_mapFields aB];simp[rawInt]⟩
theorem UP(hh:A.handled=none)(hit:KBw.IsBytesIter s.heap it b t i)(av:b[i]? =none)
 (hE:∀h' e,Heap.ExtBut it s.heap h'->(∃o,h'.get? e=some o/\o.cls=.type "StopIteration")->E (.ref e) {s with heap:=h'}):
 wpAny (model prog w) A (Builtin.SmallTypes.nextOf (.ref it)) Q E s:=by
 obtain⟨o,aH,aw,aB⟩:=id hit
 unfold Builtin.SmallTypes.nextOf
 refine aM (wpAny_callSpecial?_slot (name:=PySem.Str.ofString "__next__") (KBw.iter_typeIs hit) KBw.slot_next
  (wpAny_call_entry KBw.slot_next (KBw.iter_typeIs hit) KBw.entry_next ?_ (KBw.args_next _)))
 show wpAny _ _ (field (.ref it) 0>>=_) _ _ s
 refine aM (wpAny_field aH aB (x:=.bytes b t) rfl ?_)
 show wpAny _ _ (if(Value.bytes b t==Value.none)=true then _ else _) _ _ s
 first|refine iS (show ¬((Value.bytes b t==Value.none)=true) from fY) ?_|refine k2 (show ¬((Value.bytes b t==Value.none)=true) from fY) ?_
 show wpAny _ _ (field (.ref it) 1>>=_) _ _ s
 refine aM (wpAny_field aH aB (x:=.int i 0) rfl ?_)
 refine aM (fZ (a:=b) rfl ?_)
 simp only[Int.toNat_natCast,av]
 refine aM (wpAny_rule (aM (wpAny_setField aH aB (by simp) ?_)))
 show wpAny _ _ (newExc (.type "StopIteration") []>>=_) _ _ _
 refine aM ?_
 simp only[newExc,newTuple]
 refine aM (j5 ?_ (by size_fits))
 refine aM (m:=firstArgMember _ _) (fZ (a:=Value.none) (by first|rfl|(simp only[firstArgMember];rfl)) ?_)
 refine j5 ?_ (by size_fits)
 simp only[raiseNew]
 refine aM (wpAny_handled ?_)
 first|rw[show A.in1.handled=none from hh]|rw[hh]
 refine aM (bx (wpAny_throw ?_))
 exact hE _ _ (((Heap.SameBut.update ..).extBut.push _).push _) ⟨_,gA _ rfl,rfl⟩
theorem PX(hh:A.handled=none)(it:Addr)(b:Array UInt8)(t:Tok):
 Draws prog w A it [it] b.size (λi v=>∃c u,b[i]? =some c/\v=.int (c.toNat:Int) u) (λi h=>KBw.IsBytesIter h it b t i) where
 live:=λ_ _ st=>let⟨o,aH,_⟩:=st;⟨o,aH⟩
 frame:=λ_ _ _ st hk=>let⟨o,aH,r⟩:=st;⟨o,hk it (by simp) o aH,r⟩
 item:=λi s Q E hi st aQ=>by
  refine UQ st (c:=b[i]) (by simp[hi]) λh' qs iR=>?_
  exact aQ _ h' (s.toks+1) ⟨_,_,by simp[hi],rfl⟩ qs iR
 done:=λs Q E st hE=>UP hh st (by simp) hE
theorem Y2(h:∀b,Q b s):wpAny (model prog w) A (pure b) Q E s:=bx (h b)
set_option maxHeartbeats 1000000 in
theorem UB(x:Array UInt8)(t:Tok):
 Meets (Builtin.«enumerate.__new__» ⟨[.type "enumerate",.bytes x t],[]⟩) (λ_ R s=>
  R (.ok (.ret (.ref (s.heap.push {cls:=.type "bytes_iterator",data:=.fields #[.bytes x t,.int 0 0]}).objs.size)))
    {s with heap:=(s.heap.push {cls:=.type "bytes_iterator",data:=.fields #[.bytes x t,.int 0 0]}).push {cls:=.type "enumerate",data:=.fields #[.none,.bool false,.ref s.heap.objs.size,rawInt 0,.none,.none]}}):=
 .of_wp λprog w A R s h=>by
  obtain⟨hp,g,d,cf,os⟩:=s
  have BK:=sub_enumerate
  wp_walk
  refine wpAny_stack_any λst=>Y2 λb=>?_
  cases b
  .wp_walk using KBw.pyIter_bytes
   exact⟨_,rfl,h⟩
  .wp_walk using KBw.pyIter_bytes
   exact⟨_,rfl,h⟩
theorem Ow
 (h:∀h',IsEnum h' (s.heap.objs.size+1) s.heap.objs.size 0 .none->KBw.IsBytesIter h' s.heap.objs.size x t 0->h'.objs.size=s.heap.objs.size+2->
   (∀b o,s.heap.get? b=some o->h'.get? b=some o)->Q (.ref (s.heap.objs.size+1)) {s with heap:=h'}):
 wpAny (model prog w) A (call (.type "enumerate") [.bytes x t]) Q E s:=by
 refine callType_new F.called_enumerate (by decide) (F.typeCall_enumerate_1 _) (F.newCall_enumerate_1 _) (λobj=>F.args_object_init_2 obj _) F.entry_enumerate_new
  (UB x t) ?_
 have hz:(s.heap.push {cls:=.type "bytes_iterator",data:=.fields #[.bytes x t,.int 0 0]}).objs.size=s.heap.objs.size+1:=i3 ..
 show _/\_
 rw[hz]
 have b1:IsEnum ((s.heap.push {cls:=.type "bytes_iterator",data:=.fields #[.bytes x t,.int 0 0]}).push
  {cls:=.type "enumerate",data:=.fields #[.none,.bool false,.ref s.heap.objs.size,rawInt 0,.none,.none]}) (s.heap.objs.size+1) s.heap.objs.size 0 .none:=by
  have:=gA (s.heap.push {cls:=.type "bytes_iterator",data:=.fields #[.bytes x t,.int 0 0]})
   (o:={cls:=.type "enumerate",data:=.fields #[.none,.bool false,.ref s.heap.objs.size,rawInt 0,.none,.none]}) rfl
  rw[hz] at this;exact this
 refine⟨⟨_,b1,rfl⟩,h _ b1 ⟨_,i2 _ (gA _ rfl),rfl,rfl⟩ (by rw[i3,hz]) λb o y=>i2 _ (i2 _ y)⟩
end
end
section
open PySem.SeqAt
variable{prog:Program}{w:World}{h₁:Heap}{K:Frag}{own:Bool}{env:Env}{ns:List Str}{k:Nat}
structure vR (prog:Program) (w:World) (h₁:Heap) (src:J) (ay:Value) (items:List J) (aP:Addr) (P:Nat->Obj->Prop):Prop where
 draw:∀(A:Around) (W:az) (σ:St) (h:Heap) (i:Nat) (o:Obj),A.handled=.none->bB prog w h₁ W σ h->aN prog w W σ.next src ay->d1 src σ=some items->h.get? aP=some o->P i o->W.role aP=.fix o->
  ∃wY vX S,Draws prog w A aP wY items.length vX S/\S i h/\(∀ai v,vX ai v->∃x,items[ai]? =some x/\aN prog w W σ.next x v)/\(∀ai h',S ai h'->∃cV,h'.get? aP=some cV/\P ai cV)/\(∀e cV,W.role e=.fix cV->e≠aP->e∉wY)
theorem PW(hs:src=.bp items\/∃c,src=.ref c)(k0:ay=.ref a):
 vR prog w h₁ src ay items aP λi o=>o.cls=.type "list_iterator"/\o.data=.fields #[.ref a,.int i 0]:=by
 have b2:∀{σ:St},d1 src σ=some items->src=.bp items\/∃c,src=.ref c/\σ.cells c=some (.list items):=by
  intro σ hi
  rcases hs with e|⟨c,e⟩
  .exact .inl e
  .rw[e] at hi;exact .inr ⟨c,e,df.xq hi⟩
 refine⟨λA W σ h i o hh R a3 hi aH cN cW=>?_⟩
 obtain⟨br,dz,e,aG,aI,H8⟩:=B9 R a3 (b2 hi)
 rw[<-Value.ref.inj (k0.symm.trans e)] at aG H8
 have Fs:∀{b cV},b=a->W.role b=.fix cV->False:=λe pA=>by
  rw[e] at pA
  rcases H8 with⟨_,r⟩|⟨_,r⟩
  .exact bQ.no r pA
  .exact bQ.no r pA
 have len:dz.size=items.length:=by rw[<-e6];exact aI.length
 refine⟨_,_,_,len▸Draws.list hh aP a (λe=>Fs e.symm cW) dz,⟨⟨o,aH,cN⟩,aG⟩,λai v cK=>?_,λai h' hI=>?_,λe cV pA b1 hm=>?_⟩
 .have dp:ai<items.length:=by rw[<-len];exact(Array.getElem?_eq_some_iff.mp cK).1
  obtain⟨gY,h2,bN⟩:=aI.get (hN dp)
  rw[Array.getElem?_toList,cK] at h2
  exact⟨_,hN dp,b9 h2▸bN⟩
 .obtain⟨⟨cV,gs,mn⟩,_⟩:=hI
  exact⟨cV,gs,mn⟩
 .rcases fj.mp hm with a9|hm
  .exact b1 a9
  .exact Fs (fB.mp hm) pA
theorem PV(k0:ay=.bytes b.toArray t):
 vR prog w h₁ (.bytes b) ay (b.map λx=>J.int x.toNat) aP λi o=>o.cls=.type "bytes_iterator"/\o.data=.fields #[.bytes b.toArray t,.int i 0]:=by
 subst k0
 refine⟨λA W σ h i o hh R a3 hi aH cN cW=>?_⟩
 have Gd:=PX (prog:=prog) (w:=w) hh aP b.toArray t
 rw[show b.toArray.size=(b.map λx=>J.int x.toNat).length by simp] at Gd
 refine⟨_,_,_,Gd,⟨o,aH,cN⟩,λai v cK=>?_,λai h' hI=>?_,λe cV pA b1 hm=>?_⟩
 .obtain⟨c,u,aw,rfl⟩:=cK
  exact⟨.int c.toNat,by rw[List.getElem?_map];simp at aw;rw[aw];rfl,.int _ _⟩
 .obtain⟨cV,gs,mn⟩:=hI
  exact⟨cV,gs,mn⟩
 .rw[fB] at hm;exact b1 hm
theorem T'(h:ff src σ=some vs)(hi:d1 src σ=some items):src=.bp items\/∃c,src=.ref c:=by
 rcases src with _|_|_|_|_|_|x|_|_|c|_
 .exact aq h
 .exact aq h
 .exact aq h
 .exact aq h
 .exact aq h
 .exact aq h
 .exact .inl (congrArg J.bp (b9 hi))
 .exact aq h
 .exact aq h
 .exact .inr ⟨c,rfl⟩
 .exact aq h
theorem Qd(R:bB prog w h₁ W σ s.heap)(a3:aN prog w W σ.next src ay)(hi:d1 src σ=some items)(hk:(ff src σ).isSome=true\/∃b,src=.bytes b)
 (aQ:∀h' P o,IsEnum h' (s.heap.objs.size+1) s.heap.objs.size 0 .none->h'.get? s.heap.objs.size=some o->P 0 o->(∀b o,s.heap.get? b=some o->h'.get? b=some o)->vR prog w h₁ src ay items s.heap.objs.size P->Q (.ref (s.heap.objs.size+1)) {s with heap:=h'}):
 wpAny (model prog w) A (call (.type "enumerate") [ay]) Q E s:=by
 rcases hk with hk|⟨b,rfl⟩
 .obtain⟨vs,xk⟩:=Option.isSome_iff_exists.mp hk
  obtain⟨a,dz,rfl,aG,aI⟩:=hq R a3 xk
  refine call_enumerate_list aG λh' b1 hit hz hk=>?_
  obtain⟨o,aH,cN⟩:=hit
  exact aQ h' _ o b1 aH cN hk (PW (T' xk hi) rfl)
 .rw[<-b9 hi] at aQ
  obtain⟨t,e⟩:=a3.bf
  rw[e] at aQ⊢
  refine Ow λh' b1 hit hz hk=>?_
  obtain⟨o,aH,cN⟩:=hit
  exact aQ h' _ o b1 aH cN hk (PV rfl)
open Classical in
noncomputable def mF(src:J)(items:List J)(bind:J->Loc->Option Loc)(body:ct):Nat->List J->ct
 |_,[],U,σ=>if d1 src σ=some items then some (.next,U,σ) else none
 |i,x::rest,U,σ=>if d1 src σ=some items then(bind (.bo [.int i,x]) U).bind λCi=>(body Ci σ).bind λr=>match r with
    |(.next,l,s)=>mF src items bind body (i+1) rest l s
    |(.cont,l,s)=>mF src items bind body (i+1) rest l s
    |(.brk,l,s)=>some (.next,l,s)
    |(.ret v,l,s)=>some (.ret v,l,s)
  else none
open Classical in
noncomputable def nS(D:c4)(bind:J->Loc->Option Loc)(body:ct):ct:=λU σ=>(D U σ).bind λr=>(d1 r.1 r.2).bind λitems=>if(ff r.1 r.2).isSome=true\/(∃b,r.1=.bytes b) then mF r.1 items bind body 0 items U r.2 else none
theorem bG.TQ{U:Loc}(R:bG prog w h₁ own env ns W U σ h)(e:∀a o,W.role a≠.free->h.get? a=some o->h'.get? a=some o):bG prog w h₁ own env ns W U σ h':=by
 have c2:∀a,W.role a≠.free->h'.get? a=h.get? a:=λa ha=>by
  obtain⟨o,aH⟩:=R.bI.live a ha
  rw[aH];exact e a o ha aH
 refine R.next (R.bI.keep (λa ha _=>c2 a ha) λa ha=>?_) az.le.refl (bt _) λa ha=>c2 a (bQ.ne ha)
 have:W.role a≠.free:=bQ.ne ha
 rw[c2 a this];exact R.bI.live a this
theorem bG.w4{U:Loc}(R:bG prog w h₁ own env ns W U σ h)(ha:W.role a=.free)(aH:h.get? a=some o):bG prog w h₁ own env ns (W.aT a (.fix o)) U σ h:=
 R.next (R.bI.ia ha ⟨o,aH⟩ (λ_ e=>nomatch e) (λcV e=>by cases e;exact aH)) (az.ho ha) (bt _) λ_ _=>rfl
theorem bG.HB{U:Loc}(R:bG prog w h₁ own env ns W U σ h)(ha:W.role a=.free)(aH:h.get? a=some o):bG prog w h₁ own env ns (W.aT a (.imm o)) U σ h:=
 R.next (R.bI.ia ha ⟨o,aH⟩ (λcV e=>by cases e;exact aH) (λ_ e=>nomatch e)) (az.ho ha) (bt _) λ_ _=>rfl
noncomputable abbrev Gp(it:Addr)(i:Int)(old:Value):Obj:={cls:=.type "enumerate",dict:=none,data:=.fields #[.none,.bool false,.ref it,rawInt i,.none,old],slots:= #[]}
structure pR (prog:Program) (w:World) (h₁:Heap) (env:Env) (ns:List Str) (aP:Addr) (P:Nat->Obj->Prop) (bu:az) (ae:Nat) (i:Nat) (bL:az) (ba:Loc) (bH:St) (h2:Heap):Prop where
 R:bG prog w h₁ true env ns bL ba bH h2
 f:∃dV old,bL.role aP=.fix dV/\P i dV/\bL.role (aP+1)=.fix (Gp aP i old)
 le:bu.le ae bL
 fu:ae<=bH.next
theorem pR.drop(J:pR prog w h₁ env ns aP P bu ae i bL ba bH h2)(d0:bu.role aP=.free)(mZ:bu.role (aP+1)=.free)(ag:∀a x,a≠aP+1->a≠aP->h2.get? a=some x->h4.get? a=some x):
 bG prog w h₁ true env ns ((bL.aT aP .free).aT (aP+1) .free) ba bH h4/\bu.le ae ((bL.aT aP .free).aT (aP+1) .free)/\bL.e2 bH.next ((bL.aT aP .free).aT (aP+1) .free):=by
 obtain⟨dV,old,cW,_,x9⟩:=J.f
 have Kz:=(az.ck (r:=.free) (Nat.succ_ne_self aP)).trans x9
 obtain⟨EV,bE⟩:=J.R.drop cW (J.R.oR cW)
 obtain⟨yQ,ba⟩:=EV.drop Kz (EV.oR Kz)
 refine⟨yQ.TQ λa oa ha ix=>ag a oa (λe=>ha ?_) (λe=>ha ?_) ix,az.n9 (az.n9 J.le d0) mZ,bE.trans (bt _) ba⟩
 .rw[e];exact az.c5
 .rw[e];exact(az.ck (Nat.succ_ne_self aP).symm).trans az.c5
theorem pR.item(J:pR prog w h₁ env ns aP P bu ae i bL ba bH h2)(d0:bu.role aP=.free)(mZ:bu.role (aP+1)=.free)(Ql:bL.role T=.free)(uB:aP≠T)(sg:aP+1≠T)
 (aH:f'.get? aP=some iX)(b1:f'.get? (aP+1)=some e3)(ht:f'.get? T=some Kh)(ag:∀a x,a≠aP+1->a≠aP->h2.get? a=some x->f'.get? a=some x):
 ∃b4,bG prog w h₁ true env ns b4 ba bH f'/\b4.role aP=.fix iX/\b4.role (aP+1)=.fix e3/\b4.role T=.imm Kh/\bu.le ae b4/\bL.e2 bH.next b4:=by
 obtain⟨Mu,T4,T9⟩:=J.drop d0 mZ ag
 have ne:=Nat.succ_ne_self aP
 have g1:((bL.aT aP .free).aT (aP+1) .free).role aP=.free:=(az.ck ne.symm).trans az.c5
 have g2:((bL.aT aP .free).aT (aP+1) .free).role (aP+1)=.free:=az.c5
 have g3:((bL.aT aP .free).aT (aP+1) .free).role T=.free:=(az.ck sg.symm).trans ((az.ck uB.symm).trans Ql)
 generalize(bL.aT aP .free).aT (aP+1) .free=ade at*
 have Hl:=(az.ck (r:=.fix iX) ne).trans g2
 have Hm:=(az.ck (r:=.fix e3) sg.symm).trans ((az.ck (r:=.fix iX) uB.symm).trans g3)
 have bE:=az.ho (n:=bH.next) (r:=.fix iX) g1
 have ba:=az.ho (n:=bH.next) (r:=.fix e3) Hl
 have cY:=az.ho (n:=bH.next) (r:=.imm Kh) Hm
 have l:=(bE.trans (bt _) ba).trans (bt _) cY
 exact⟨_,((Mu.w4 g1 aH).w4 Hl b1).HB Hm ht,(az.ck uB).trans ((az.ck ne.symm).trans az.c5),(az.ck sg).trans az.c5,az.c5,T4.trans J.fu l,T9.trans (bt _) l.1⟩
inductive Mh (prog:Program) (w:World) (h₁:Heap) (env:Env) (ns:List Str) (aP:Addr) (P:Nat->Obj->Prop) (bu:az) (ae:Nat) (items:List J) (M:Nat->List J->Loc->St->Prop) (n:Nat) (bL:az) (ba:Loc) (bH:St) (h2:Heap):Prop
 |mk (i:Nat) (rest:List J) (aW:n=rest.length) (aI:items.drop i=rest) (hi:i<=items.length) (J:pR prog w h₁ env ns aP P bu ae i bL ba bH h2) (ao:M i rest ba bH)
theorem QN{bind:J->Loc->Option Loc}(ht:lq prog w h₁ true env ns k (.Tuple es ai Dp) bind)(ag:SOk prog w h₁ env ns k (execs body env) kG)(aE:eR A k){src:J}{iZ:Value}{items:List J}{P:Nat->Obj->Prop}
 (vk:vR prog w h₁ src iZ items aP P){bu:az}{ae:Nat}(bc:aN prog w bu ae src iZ)(d0:bu.role aP=.free)(mZ:bu.role (aP+1)=.free){s:Shared}{R:Result->Shared->Prop}
 {bL:az}{ba:Loc}{bH:St}{h2:Heap}{tk2:Nat}(J:pR prog w h₁ env ns aP P bu ae 0 bL ba bH h2)(ao:aJ (mF src items bind kG 0 items ba bH) (vU prog w h₁ env ns bu ae s R)):
 e8 (model prog w) A (.forLoop (.Tuple es ai Dp) (.ref (aP+1)) body [] env) R {s with heap:=h2,toks:=tk2}:=by
 refine FT (vT s (Mh prog w h₁ env ns aP P bu ae items λi rest l σ=>aJ (mF src items bind kG i rest l σ) (vU prog w h₁ env ns bu ae s R))) ?_ items.length ⟨bL,ba,bH,h2,tk2,rfl,0,items,rfl,rfl,Nat.zero_le _,J,ao⟩
 clear J ao
 intro n aY h
 obtain⟨bL,ba,bH,aR,tk2,es,h⟩:=h
 obtain⟨i,rest,aW,aI,hi,J,ao⟩:=h
 rcases rest with _|⟨x,rest⟩<;>rw[es,aW]<;>refine e0 λG bZ=>?_<;>
  obtain⟨dV,old,cW,m4,x9⟩:=J.f<;>
  have nV:=J.R.bI.fix _ _ cW<;>
  have Ba:IsEnum aR (aP+1) aP i old:=J.R.bI.fix _ _ x9<;>
  have bN:aN prog w bL bH.next src iZ:=bc.a5 J.le.1 J.fu<;>
  have fF:=Nat.succ_ne_self aP
 .obtain⟨hit,ao⟩:=aJ.gj ao
  obtain⟨wY,vX,S,yB,hI,_,_,_⟩:=vk.draw A.in1 bL _ aR i dV aE.h J.R.bI bN hit nV m4 cW
  rw[Nat.le_antisymm hi (List.drop_eq_nil_iff.mp aI)] at hI
  refine bZ<|wpN.of<|wpAny_pyNext_enum_endD (s:={s with heap:=aR,toks:=tk2}) yB Ba hI λh4 R4=>wpN.of<|wpAny_execs_nil ?_
  obtain⟨ts,le,_⟩:=J.drop d0 mZ (h4:=h4) λa oa _ ha ix=>R4 a oa ha ix
  exact ao _ .next h4 tk2 le J.fu ts trivial
 .obtain⟨hit,ao⟩:=aJ.gj ao
  obtain⟨cY,fp,ao⟩:=(aJ.hG ao).cC
  obtain⟨av,aI⟩:=wz aI
  have dp:=(l5.mp av).1
  obtain⟨wY,vX,S,yB,hI,RS,RW,Sd⟩:=vk.draw A.in1 bL _ aR i dV aE.h J.R.bI bN hit nV m4 cW
  refine bZ<|wpN.of<|wpAny_pyNext_enum_itemD (s:={s with heap:=aR,toks:=tk2}) yB Ba hI dp fF (Sd _ _ x9 fF) λdN h4 pD jW RO RV RX ads Sm=>?_
  refine wpN.of<|wpAny_letOwnedTupleGo_enum (s:={s with heap:=h4,toks:=pD+1}) RO λf' RN rW=>e0 λG bZ=>?_
  obtain⟨d4,BN,eN⟩:=RS i dN jW
  rw[<-b9 (av.symm.trans BN)] at eN
  have sg:=d9 (Heap.lt_size Ba)
  have uB:=d9 (Heap.lt_size nV)
  obtain⟨iX,SJ,nX⟩:=RW _ _ RV
  obtain⟨b4,Mt,Za,Y',Zb,lN,ur⟩:=J.item (e3:=Gp aP ((i+1:Nat):Int) dN) d0 mZ (J.R.bI.free (bt _)) uB sg ((rW.2 aP fF.symm).trans SJ) (by rw[RN];rfl) ((rW.2 _ sg.symm).trans RX) λa oa h1 h2 ix=>(rW.2 a h1).trans (Sm a oa h1 h2 ix)
  refine bZ<|wpN.of<|ht A b4 ba cY bH (.bo [.int i,x]) (.ref aR.objs.size) _ _ _ aE fp Mt (.bo Zb (.cons (.int _ _) (.cons (eN.a5 ur (bt _)) .nil))) λdc Lg kL=>ag.go aE ao.bind kL λwF p ao iK tL o8 sI ie fQ e7 uV=>?_
  have kN:pR prog w h₁ env ns aP P bu ae (i+1) iK p.1 p.2 o8:=⟨e7,⟨iX,dN,ie.2.1 _ _ Za,nX,ie.2.1 _ _ Y'⟩,lN.trans J.fu ie,cm J.fu fQ⟩
  revert ao
  refine ll.sq uV (λao=>?_) (λao=>?_) (λao=>?_) (λv ay fx ao=>?_)
  .exact⟨rest.length,gB _,iK,p.1,p.2,o8,sI,rfl,i+1,rest,rfl,aI,dp,kN,ao⟩
  .exact ao iK .next o8 sI kN.le kN.fu e7 trivial
  .exact⟨rest.length,gB _,iK,p.1,p.2,o8,sI,rfl,i+1,rest,rfl,aI,dp,kN,ao⟩
  .exact ao iK _ o8 sI kN.le kN.fu e7 fx
theorem C9{mf:Pos}{bind:J->Loc->Option Loc}{kG:ct}
 (hf:bk prog w h₁ true env ns k (eval fn env) (I (.bY (.type "enumerate"))))(h:bk prog w h₁ true env ns k (eval e env) D)(ht:lq prog w h₁ true env ns k (.Tuple es ai Dp) bind)(ag:SOk prog w h₁ env ns k (execs body env) kG)
 (ah:autoParam (starEach [e] env=[(false,eval e env)]) aL._auto_1)
 (aw:autoParam (eval (fn.Call [e] [] mf) env=(do let g<-eval fn env;callWith mf g [] (backTo mf (starEach [e] env)) (backToKw mf (keywordEach [] env)))) aL._auto_1)
 (Se:autoParam (∀x,foldedSetIterable (fn.Call [e] [] mf) env x=pure x) vg._auto_1):SOk prog w h₁ env ns k (exec (.For (.Tuple es ai Dp) (fn.Call [e] [] mf) body [] pos) env) (nS D bind kG):=by
 refine .of λA W U σ s Q E aE ao R=>LH ?_ Se
 rw[aw]
 refine a6 (hf A W U σ _ σ s _ E aE rfl R λiq jD eF q3 i' ab gM k7=>?_)
 rw[show jD=_ from k7.bf]
 refine sP rfl (by rw[ah];rfl) ?_
 rw[ah]
 refine sQ (Dz (h.go aE ao.bind gM λsrc cA ao bu iZ h1 cL bE ae bA bc=>.of (bx ?_)))
 have bE:=i'.trans ab bE
 have ae:=cm ab ae
 obtain⟨items,a7,ao⟩:=(aJ.hG ao).cC
 obtain⟨i8,ao⟩:=aJ.gj ao
 show wpN _ _ (call (.type "enumerate") [iZ]) _ _ _
 refine wpN.of<|Qd (s:={s with heap:=h1,toks:=cL}) bA.bI bc a7 i8 λh2 P o hE aH cN hk vk=>?_
 refine wpN.of<|wpAny_pyIter_enum (s:={s with heap:=h2,toks:=cL}) hE ?_
 have d0:bu.role h1.objs.size=.free:=bA.bI.free (bt _)
 have mZ:bu.role (h1.objs.size+1)=.free:=bA.bI.free (gp _)
 have fF:=Nat.succ_ne_self h1.objs.size
 have Qk:=(az.ck (r:=.fix o) fF).trans mZ
 exact QN ht ag aE vk bc d0 mZ ⟨((bA.kV hk).w4 d0 aH).w4 Qk hE,⟨o,.none,(az.ck fF.symm).trans az.c5,cN,az.c5⟩,az.n9 (az.ho d0) mZ,bt _⟩ (ao.imp λf p c bL hS h' cP ba aK cx C4=>c bL hS h' cP (bE.trans ae ba) (cm ae aK) cx C4)
end
noncomputable def runK{α:Type}(lt:Nat->Nat->Bool):KasT α->α
 |.ret a=>a
 |.ask i ai k=>runK lt (k (lt i ai))
noncomputable def xC:List (Nat×Nat×Bool)->Nat->Nat->Bool
 |[],_,_=>false
 |(i,ai,true)::r,a,b=>(Nat.beq i a&&Nat.beq ai b)||xC r a b
 |(i,ai,false)::r,a,b=>(Nat.beq ai a&&Nat.beq i b)||xC r a b
noncomputable def B4(g:Nat->Nat->Bool):List (Nat×Nat×Bool)->Nat->Nat->Bool
 |[],_,_=>false
 |(i,ai,true)::r,a,b=>(Nat.beq i a&&g ai b)||B4 g r a b
 |(i,ai,false)::r,a,b=>(Nat.beq ai a&&g i b)||B4 g r a b
noncomputable def r7(l:List (Nat×Nat×Bool)):Nat->Nat->Nat->Bool
 |0,a,b=>xC l a b
 |f+1,a,b=>xC l a b||B4 (r7 l f) l a b
noncomputable def E5(l:List (Nat×Nat×Bool)):List Nat->Bool
 |a::b::r=>r7 l 4 a b&&E5 l (b::r)
 |_=>true
noncomputable def Cq:List Nat->Nat->Bool
 |[],_=>false
 |a::r,i=>Nat.beq a i||Cq r i
noncomputable def zc(p:List Nat):Nat->Bool
 |0=>true
 |n+1=>Cq p n&&zc p n
noncomputable def xD:List Nat->Nat
 |[]=>0
 |_::r=>xD r+1
noncomputable def B5(n:Nat)(p:List Nat)(l:List (Nat×Nat×Bool)):Bool:=Nat.beq (xD p) n&&zc p n&&E5 l p
noncomputable def kS(n:Nat):KasT (Array Nat)->List (Nat×Nat×Bool)->Bool
 |.ret p,l=>B5 n p.toList l
 |.ask i ai k,l=>Nat.ble (i+1) n&&Nat.ble (ai+1) n&&kS n (k true) ((i,ai,true)::l)&&kS n (k false) ((i,ai,false)::l)
theorem OC:kS 2 (kas_sort 2) []=true:=by decide+kernel
theorem OD:kS 3 (kas_sort 3) []=true:=by decide+kernel
theorem OE:kS 4 (kas_sort 4) []=true:=by decide+kernel
theorem OF:kS 5 (kas_sort 5) []=true:=by decide+kernel
set_option maxHeartbeats 0 in
theorem OG:kS 6 (kas_sort 6) []=true:=by decide+kernel
theorem wk(h2:2<=n)(dc:n<=6):kS n (kas_sort n) []=true:=by
 match n,h2,dc with
 |2,_,_=>exact OC
 |3,_,_=>exact OD
 |4,_,_=>exact OE
 |5,_,_=>exact OF
 |6,_,_=>exact OG
 |n+7,_,h=>exact(aC.XX h).elim
theorem B0(aw:∀i ai (aA:Bool->Shared->Prop),i<n->ai<n->aA (lt i ai) s->OI i ai aA s):
 ∀(t:KasT (Array Nat)) (l:List (Nat×Nat×Bool)),kS n t l=true->G (runK lt t) s->t.kasWp OI G s
 |.ret a,l,_,h=>h
 |.ask i ai k,l,hk,h=>by
  simp only[kS,Bool.and_eq_true] at hk
  obtain⟨⟨⟨h1,h2⟩,aR⟩,h4⟩:=hk
  refine aw i ai _ (Nat.le_of_ble_eq_true h1) (Nat.le_of_ble_eq_true h2) ?_
  simp only[runK] at h
  cases e:lt i ai with
  |true=>rw[e] at h;exact B0 aw (k true) _ aR h
  |false=>rw[e] at h;exact B0 aw (k false) _ h4 h
noncomputable def kr(lt:Nat->Nat->Bool)(n:Nat):List Nat:=if n<2 then List.range n else(runK lt (kas_sort n)).toList
theorem IG:∀p:List Nat,xD p=p.length
 |[]=>rfl
 |_::r=>by simp[xD,IG r]
theorem yb:∀(t:KasT (Array Nat)) (l:List (Nat×Nat×Bool)),kS n t l=true->(∀x∈l,lt x.1 x.2.1=x.2.2)->∃l',B5 n (runK lt t).toList l'=true/\∀x∈l',lt x.1 x.2.1=x.2.2
 |.ret a,l,h,aG=>⟨l,h,aG⟩
 |.ask i ai k,l,hk,aG=>by
  simp only[kS,Bool.and_eq_true] at hk
  obtain⟨⟨_,aR⟩,h4⟩:=hk
  simp only[runK]
  cases e:lt i ai with
  |true=>
   refine yb (k true) _ aR λx av=>?_
   rcases fj.mp av with rfl|av
   .exact e
   .exact aG x av
  |false=>
   refine yb (k false) _ h4 λx av=>?_
   rcases fj.mp av with rfl|av
   .exact e
   .exact aG x av
theorem K1(dc:n<=6):(kr lt n).length=n:=by
 unfold kr
 split
 .simp
 .rename_i h
  obtain⟨l',h1,_⟩:=yb (lt:=lt) _ _ (wk (by exact aC.sm h) dc) (λx av=>nomatch av)
  simp only[B5,Bool.and_eq_true] at h1
  rw[<-IG];exact Nat.eq_of_beq_eq_true h1.1.1
noncomputable def j3(lt:Nat->Nat->Bool)(vs:List Value):List Value:=(kr lt vs.length).map λi=>vs.getD i .none
section
variable{prog:Program}{w:World}{A:Around}{E:Value->Shared->Prop}{s:Shared}
noncomputable def ra(prog:Program)(w:World)(A:Around)(lt:Nat->Nat->Bool)(vs:List Value)(s:Shared):Prop:=
 ∃dy,(∀Q:SortKind->Shared->Prop,Q dy s->wpAny (model prog w) A (keyKind' vs.toArray) Q (λ_ _=>False) s)/\∀i ai (aA:Bool->Shared->Prop),i<vs.length->ai<vs.length->aA (lt i ai) s->kas_ask prog w A dy vs i ai aA s
theorem range_getD:∀(vs:List Value),(List.range vs.length).map (λi=>vs.getD i .none)=vs:=λvs=>by
 refine List.ext_getElem (by simp) λi h1 h2=>?_
 simp at h1
 simp[h1]
theorem Ud(aH:s.heap.get? a=some (seqObj "list" vs.toArray n))(dc:vs.length<=6)
 (hk:2<=vs.length->∀h',(∀b o,b≠a->s.heap.get? b=some o->h'.get? b=some o)->ra prog w A lt vs {s with heap:=h'})
 (h:∀h' c,(∀b o,b≠a->s.heap.get? b=some o->h'.get? b=some o)->h'.get? a=some (seqObj "list" (j3 lt vs).toArray c)->P (.done (.ret .none)) {s with heap:=h'}):
 wpAny (model prog w) A (Builtin.«list.sort» ⟨[.ref a],[]⟩) P E s:=by
 have ha:a<s.heap.objs.size:=Heap.lt_size aH
 obtain⟨a9,kY⟩:∃a9,(s.heap.update a (Obj.mapSeq λ_=>(#[]:Array Value))).get? a=some (seqObj "list" #[] a9):=⟨_,get?_update_seq aH λ_=> #[]⟩
 rw[list_sort_plain]
 refine aM (listItems_at aH rfl ?_)
 refine aM (listUpdate_at aH rfl ?_ (by rw[List.size_toArray,sizeLine_eq];exact aC.x2 dc) (Nat.zero_le _))
 refine aM (seqEpoch_at kY rfl ?_)
 refine aM (wpAny_newTuple ?_ (by show vs.length<=_;rw[sizeLine_eq];exact aC.x2 dc))
 refine aM (wpAny_newList ?_ (Nat.zero_le _))
 refine wpAny_holding ?_
 have Bw:(((s.heap.update a (Obj.mapSeq λ_=> #[])).push (seqObj "tuple" vs.toArray 0)).push (seqObj "list" #[] 0)).get? a=some (seqObj "list" #[] a9):=by
  rw[Heap.get?_push_ne _ _ _ (by rw[size_push',Heap.size_update];exact d9 (Nat.lt_succ_of_lt ha)),Heap.get?_push_ne _ _ _ (by rw[Heap.size_update];exact d9 ha)]
  exact kY
 have keep:∀b o,b≠a->s.heap.get? b=some o->(((s.heap.update a (Obj.mapSeq λ_=>(#[]:Array Value))).push (seqObj "tuple" vs.toArray 0)).push (seqObj "list" #[] 0)).get? b=some o:=λb o ag e=>
  i2 _ (i2 _ (((Heap.SameBut.update s.heap a _).2 b ag).trans e))
 show wpAny (model prog w) A _ P E {s with heap:=((s.heap.update a (Obj.mapSeq λ_=>(#[]:Array Value))).push (seqObj "tuple" vs.toArray 0)).push (seqObj "list" #[] 0)}
 generalize hh:((s.heap.update a (Obj.mapSeq λ_=>(#[]:Array Value))).push (seqObj "tuple" vs.toArray 0)).push (seqObj "list" #[] 0)=o7 at*
 dsimp only
 have done:∀cC:List Value,cC=j3 lt vs->wpAny (model prog w) A (do
  let touched:=(<-seqEpoch a)!=a9
  Builtin.List.listUpdate (.ref a) λ_=>cC.toArray
  if touched then rule "list.sort.modified";raiseError "ValueError" "list modified during sort"
  ret .none) P E {s with heap:=o7}:=λcC e=>by
  subst e
  have dm:(j3 lt vs).length<=1000:=by rw[j3,dW,K1 dc];exact aC.XY dc
  obtain⟨p7,o'⟩:∃p7,(o7.update a (Obj.mapSeq λ_=>(j3 lt vs).toArray)).get? a=some (seqObj "list" (j3 lt vs).toArray p7):=⟨_,get?_update_seq Bw λ_=>(j3 lt vs).toArray⟩
  refine aM (seqEpoch_at Bw rfl ?_)
  refine aM (listUpdate_at Bw rfl ?_ (Nat.zero_le _) (by rw[List.size_toArray];unfold sizeLine;omega))
  simp only[bne_self_eq_false,Bool.false_eq_true,if_false]
  refine bx (h _ p7 (λb o ag e=>((Heap.SameBut.update o7 a _).2 b ag).trans (keep b o ag e)) o')
 by_cases h2:vs.toArray.size<2
 .rw[if_pos h2,if_pos h2]
  refine aM (bx ?_)
  rw[StateT.run_pure]
  refine aM (bx ?_)
  have e:(arrOf (SortSt.mk' general' (vs.toArray.zip vs.toArray) #[] 7 none)).map (λx=>x.2)=vs.toArray:=by
   show(vs.toArray.zip vs.toArray).map (λx=>x.2)=vs.toArray
   refine Array.ext (by simp) λi h1 h2=>?_
   simp
  show wpAny (model prog w) A (do
   let touched:=(<-seqEpoch a)!=a9
   Builtin.List.listUpdate (.ref a) λ_=>(arrOf (SortSt.mk' general' (vs.toArray.zip vs.toArray) #[] 7 none)).map (λx=>x.2)
   if touched then rule "list.sort.modified";raiseError "ValueError" "list modified during sort"
   ret .none) P E {s with heap:=o7}
  rw[e]
  refine done vs ?_
  unfold j3 kr
  rw[List.size_toArray] at h2
  rw[if_pos h2,range_getD]
 .rw[if_neg h2,if_neg h2]
  obtain⟨dy,dd,gv⟩:=hk (by rw[List.size_toArray] at h2;exact aC.sm h2) o7 keep
  refine aM (wpAny_mono (dd _ ⟨rfl,rfl⟩:wpAny (model prog w) A (keyKind' vs.toArray) (λL6 aY=>L6=dy/\aY={s with heap:=o7}) _ _) (λL6 KI hk=>?_) λ_ _ x=>x.elim)
  obtain⟨rfl,rfl⟩:=hk
  rw[List.size_toArray] at h2
  refine aM (wpAny_mono (kat_run (Q:=λu0 aY=>aY={s with heap:=o7}/\arrOf u0=(runK lt (kas_sort vs.length)).map (kas_item (vs.toArray.zip vs.toArray))/\failedOf u0=none)
   (G:=λp aY=>p=runK lt (kas_sort vs.length)/\aY={s with heap:=o7}) rfl (by exact aC.sm h2) (by exact aC.XZ dc) (λjA u0 aY gg fK jM lr=>⟨lr.2,by rw[fK,lr.1],jM⟩) (B0 gv _ [] (wk (by exact aC.sm h2) dc) ⟨rfl,rfl⟩)) ?_ λ_ _ e=>e)
  rintro⟨⟨⟩,u0⟩ aY ⟨rfl,R3,hf⟩
  dsimp only
  have SO:=kat_snds (ks:=vs) (vs:=vs) rfl R3
  rw[SO,hf]
  refine done _ ?_
  unfold j3 kr
  rw[if_neg h2]
noncomputable def se(ns:List Int)(i ai:Nat):Bool:=decide (ns.getD i 0<ns.getD ai 0)
theorem Nx(iP:IntsAre vs ns)(h2:2<=vs.length):ra prog w A (se ns) vs s:=by
 have at':∀{i:Nat},i<vs.length->∃t,vs.getD i .none=.int (ns.getD i 0) t:=λ{i} hi=>by
  obtain⟨n,t,e,aW⟩:=IntsAre.at iP i vs[i] (hN hi)
  refine⟨t,?_⟩
  rw[mN,hN hi,mN,aW]
  exact e
 refine⟨oneType',λQ aQ=>kas_kind (T:=.type "int") h2 (λv a3=>?_) (by decide) (by decide) aQ,λi ai aA hi cK lF=>?_⟩
 .obtain⟨i,hi,rfl⟩:=List.getElem_of_mem a3
  obtain⟨n,t,e,aW⟩:=IntsAre.at iP i vs[i] (hN hi)
  rw[e]
  exact Looks.of_pure rfl
 .obtain⟨t,a9⟩:=at' hi
  obtain⟨u,a7⟩:=at' cK
  unfold kas_ask
  rw[a9,a7,keyLt'_oneType]
  exact oneLt_int lF
noncomputable def B6(a b:Int×Int):Bool:=decide (a.1<b.1)||(decide (a.1=b.1)&&decide (a.2<b.2))
noncomputable def qN(ps:List (Int×Int))(i ai:Nat):Bool:=B6 (ps.getD i (0,0)) (ps.getD ai (0,0))
noncomputable def kK(h:Heap)(vs:List Value)(ps:List (Int×Int)):Prop:=
 match vs,ps with
 |[],[]=>True
 |v::vs,p::ps=>(∃a o n t u,v=.ref a/\h.get? a=some o/\o.cls=.type "tuple"/\o.data=.seq #[.int p.1 t,.int p.2 u] n)/\kK h vs ps
 |_,_=>False
theorem kK.ind{P:List Value->List (Int×Int)->Prop}(n:P [] [])(c:∀{a o k t u vs} {p:Int×Int} {ps},h.get? a=some o->o.cls=.type "tuple"->o.data=.seq #[.int p.1 t,.int p.2 u] k->P vs ps->P (.ref a::vs) (p::ps)):∀{ps:List (Int×Int)},kK h vs ps->P vs ps:=by
 induction vs with
 |nil=>
  intro ps q
  rcases ps with _|⟨p,ps⟩
  .exact n
  .exact q.elim
 |cons v vs aZ=>
  intro ps q
  rcases ps with _|⟨p,ps⟩
  .exact q.elim
  .obtain⟨⟨a,o,k,t,u,e,aH,aw,aB⟩,r⟩:=q
   exact e▸c aH aw aB (aZ r)
theorem kK.at{vs:List Value}(q:kK h vs ps):∀{i:Nat},i<vs.length->∃a o n t u,vs.getD i .none=.ref a/\h.get? a=some o/\o.cls=.type "tuple"/\o.data=.seq #[.int (ps.getD i (0,0)).1 t,.int (ps.getD i (0,0)).2 u] n:=
 q.ind (P:=λvs ps=>∀{i:Nat},i<vs.length->∃a o n t u,vs.getD i .none=.ref a/\h.get? a=some o/\o.cls=.type "tuple"/\o.data=.seq #[.int (ps.getD i (0,0)).1 t,.int (ps.getD i (0,0)).2 u] n) (λhi=>(Nat.not_lt_zero _ hi).elim) λ{a o k t u _ _ _} aH aw aB aZ {i}=>by
  rcases i with _|i
  .exactλ_=>⟨a,o,k,t,u,rfl,aH,aw,aB⟩
  .exactλhi=>aZ (Nat.lt_of_succ_lt_succ hi)
theorem kK.QI{vs:List Value}(q:kK h vs ps):∃fs,KatTups h vs fs/\fs.length=vs.length/\∀v∈fs,∃i t,v=.int i t:=
 q.ind (P:=λvs _=>∃fs,KatTups h vs fs/\fs.length=vs.length/\∀v∈fs,∃i t,v=.int i t) ⟨[],trivial,rfl,λv a3=>nomatch a3⟩ λ{a o k t u vs p ps} aH aw aB aZ=>by
  obtain⟨fs,h1,h2,aR⟩:=aZ
  refine⟨.int p.1 t::fs,KatTups.cons aH aw aB rfl h1,congrArg (·+1) h2,λv a3=>?_⟩
  rcases fj.mp a3 with rfl|a3
  .exact⟨_,_,rfl⟩
  .exact aR v a3
theorem Ny(cN:kK s.heap vs ps)(h2:2<=vs.length):ra prog w A (qN ps) vs s:=by
 obtain⟨fs,f1,f2,o2⟩:=cN.QI
 refine⟨tuples' (Value.type "int"!=Value.type "tuple"),λQ aQ=>kat_kind (T:=.type "int") f1 (by exact aC.X0 h2 f2) (λv a3=>?_) (by decide) aQ,λi ai aA hi cK lF=>?_⟩
 .obtain⟨i,t,rfl⟩:=o2 v a3
  exact Looks.of_pure rfl
 .obtain⟨a,o,n,t,u,a9,aH,aw,aB⟩:=cN.at hi
  obtain⟨br,cV,gV,dQ,gc,z9,gs,kc,ey⟩:=cN.at cK
  unfold kas_ask
  rw[a9,z9]
  unfold qN B6 at lF
  generalize ps.getD i (0,0)=p at*
  generalize ps.getD ai (0,0)=q at*
  refine kat_lt aH aB gs ey (kat_cons (wpAny_eqBool_int ?_))
  refine kat_go (λe=>kat_yes (kat_cons (wpAny_eqBool_int (kat_go (λa7=>kat_yes (kat_nil ?_)) λa7=>kat_no ?_)))) λe=>kat_no ?_
  .have h1:p.1=q.1:=by simpa using e
   have h2:p.2=q.2:=by simpa using a7
   simpa[h1,h2] using lF
  .have h1:p.1=q.1:=by simpa using e
   refine kat_one _ _ (lt_int ?_)
   show aA _ _
   simpa[h1] using lF
  .have h1:¬p.1=q.1:=by simpa using e
   refine oneLt_int ?_
   simpa[h1] using lF
end
section
variable{prog:Program}{w:World}{A:Around}{E:Value->Shared->Prop}{s:Shared}
theorem K4{Q:Value->Shared->Prop}(dc:vs.length<=6)(xc:∀b o,s.heap.get? b=some o->h1.get? b=some o)(hz:s.heap.objs.size<=h1.objs.size)
 (hk:2<=vs.length->∀h' cf,(∀b o,s.heap.get? b=some o->h'.get? b=some o)->ra prog w A.in1.in1 lt vs {s with heap:=h',toks:=cf})
 (h:∀h' cf D c,(∀b o,s.heap.get? b=some o->h'.get? b=some o)->h'.get? D=some (seqObj "list" (j3 lt vs).toArray c)->s.heap.objs.size<=D->Q (.ref D) {s with heap:=h',toks:=cf}):
 wpAny (model prog w) A.in1 (do
  let l<-newList vs
  let _<-holding [l] (call (.builtin "list.sort") [l])
  ret l) (λcH aY=>∃v,cH=.done (.ret v)/\Q v aY) E {s with heap:=h1,toks:=cf}:=by
 refine aM (wpAny_newList ?_ (by rw[sizeLine_eq];exact aC.x2 dc))
 have xh:(h1.push (seqObj "list" vs.toArray 0)).get? h1.objs.size=some (seqObj "list" vs.toArray 0):=gA _ rfl
 have Iw:∀b o,s.heap.get? b=some o->(h1.push (seqObj "list" vs.toArray 0)).get? b=some o:=λb o e=>i2 _ (xc b o e)
 have ne:∀b o,s.heap.get? b=some o->b≠h1.objs.size:=λb o e=>d9 (jH (Heap.lt_size e) hz)
 refine aM (wpAny_holding (wpAny_call_entry slot_list_sort ⟨_,xh,rfl⟩ entry_list_sort ?body (args_list_sort _)))
 case body=>
  refine Ud (lt:=lt) (s:={s with heap:=h1.push (seqObj "list" vs.toArray 0),toks:=cf}) xh dc (λh2 h' rO=>hk h2 h' cf λb o e=>rO b o (ne b o e) (Iw b o e)) λh' c rO gs=>⟨_,rfl,?_⟩
  exact bx ⟨_,rfl,h h' cf _ c (λb o e=>rO b o (ne b o e) (Iw b o e)) gs hz⟩
theorem aaU{lt:Nat->Nat->Bool}(aG:s.heap.IsList l vs.toArray)(dc:vs.length<=6)
 (hk:2<=vs.length->∀h' cf,(∀b o,s.heap.get? b=some o->h'.get? b=some o)->ra prog w A.in1.in1 lt vs {s with heap:=h',toks:=cf})
 (h:∀h' cf D c,(∀b o,s.heap.get? b=some o->h'.get? b=some o)->h'.get? D=some (seqObj "list" (j3 lt vs).toArray c)->s.heap.objs.size<=D->Q (.ref D) {s with heap:=h',toks:=cf}):
 wpAny (model prog w) A (call (.builtin "sorted") [.ref l]) Q E s:=by
 refine Calls.call_function_entry kind_sorted plain_sorted entry_sorted (args_sorted1 _) ?_
 unfold Builtin.«sorted»
 refine aM (m:=checkCount "sorted" 1 1 _) (bx ?_)
 refine aM (collect_list aG ?_ (by rw[sizeLine_eq];exact aC.x2 dc))
 have hz:((s.heap.push (seqObj "list" #[] 0)).update s.heap.objs.size (Obj.mapSeq (·++vs.toArray))).objs.size=s.heap.objs.size+1:=by rw[Heap.size_update,size_push']
 have keep:∀b o,s.heap.get? b=some o->((s.heap.push (seqObj "list" #[] 0)).update s.heap.objs.size (Obj.mapSeq (·++vs.toArray))).get? b=some o:=λb o q=>by
  have dp:b<s.heap.objs.size:=Heap.lt_size q
  rw[Heap.get?_update_ne _ _ _ _ (d9 dp),Heap.get?_push_ne _ _ _ (d9 dp)]
  exact q
 exact K4 dc keep (by rw[hz];exact gp _) hk h
noncomputable def jm(h:Heap)(d:Addr)(vs:List Value)(ep:Nat):Prop:=∃o es,h.get? d=some o/\o.ExactDict/\o.data=.dict es ep/\es.toList.map (·.val)=vs
theorem jm.size{es:Array DictEntry}(h:es.toList.map (·.val)=vs):es.size=vs.length:=by rw[<-h,dW,e6]
theorem P1{v d:Addr}(a3:s.heap.IsValuesView v d)(hm:jm s.heap d vs ep)
 (aQ:Q (.ref s.heap.objs.size) {s with heap:=s.heap.push {cls:=.type "dict_valueiterator",data:=.fields #[.ref d,.int 0 0,.int vs.length 0,.int ep 0]}}):
 wpAny (model prog w) A (pyIter (.ref v)) Q E s:=by
 obtain⟨jg,BA,adm,R9⟩:=id a3
 obtain⟨o,es,aH,aw,HO,hp⟩:=id hm
 refine wpAny_pyIter_slot a3.typeIs PySem.F.slot_dict_values_iter (wpAny_call_entry PySem.F.slot_dict_values_iter a3.typeIs PySem.F.entry_dict_values_iter ?_ (PySem.F.args_dict_values_iter_1 _))
 unfold Builtin.«dict_values.__iter__»
 refine aM (bx ?_)
 refine aM ?_
 unfold Builtin.Dict_items.dictOf
 refine aM (wpAny_field BA R9 (x:=.ref d) rfl (bx ?_))
 refine aM ?_
 unfold Builtin.Dict_items.newIterator
 refine aM (wpAny_dictEntries aH HO ?_)
 refine aM (wpAny_dictEpoch aH HO ?_)
 have hsz:=jm.size hp
 have BB:Builtin.Dict_items.ownsTuple "dict_valueiterator"=false:=by decide
 rw[BB]
 show wpAny _ _ (newFields "dict_valueiterator" [.ref d,rawInt 0,rawInt es.size,rawInt ep]) _ _ s
 refine j5 (bx ⟨_,rfl,"dict_valueiterator",_,⟨_,gA _ rfl,rfl⟩,PySem.F.slot_dict_valueiterator_next.lookup,?_⟩)
 simpa[rawInt,hsz] using aQ
theorem P0{it d:Addr}(hit:s.heap.IsValIter it d i vs.length ep)
 (hm:jm s.heap d vs ep)(av:vs[i]? =some v)
 (aQ:∀h',h'.IsValIter it d (i+1) vs.length ep->Heap.SameBut it s.heap h'->P (.done (.ret v)) {s with heap:=h'}):
 wpAny (model prog w) A (Builtin.«dict_valueiterator.__next__» ⟨[.ref it],[]⟩) P X s:=by
 obtain⟨o,aH,aw,aB⟩:=id hit
 obtain⟨sj,es,m5,jT,qq,hp⟩:=id hm
 show wpAny _ _ (_>>=_) _ _ s
 refine aM (bx ?_)
 refine aM ?_
 refine aM ?_
 first|refine aM (wpAny_typeNameOfWhole_valiter hit.typeIs (bx ?_))|refine aM (wpAny_typeNameOf_valiter hit.typeIs (bx ?_))
 refine aM (wpAny_fieldsOf aH aB ?_)
 show wpAny _ _ (if(Value.ref d==Value.none)=true then _ else _) _ _ s
 refine iS (show ¬((Value.ref d==Value.none)=true) from fY) ?_
 refine aM (bx ?_)
 refine aM (wpAny_dictEntries m5 qq ?_)
 have hsz:=jm.size hp
 refine iS (by rw[hsz];simp) ?_
 refine aM (bx ?_)
 refine aM (wpAny_dictEpoch m5 qq ?_)
 refine iS (by simp) ?_
 refine bx ?_
 have dp:i<vs.length:=(l5.mp av).1
 have rQ:i<es.size:=by rw[hsz];exact dp
 have S6:es[i].val=v:=by
  have:(es.toList.map (·.val))[i]? =some v:=by rw[hp];exact av
  simpa[rQ] using this
 dsimp only
 rw[if_neg (Int.not_lt.mpr (Int.natCast_nonneg i)),show es[(i:Int).toNat]? =some es[i] from(congrArg (es[·]?) (Int.toNat_natCast i)).trans (Array.getElem?_eq_getElem rQ)]
 refine aM ?_
 first|refine aM (wpAny_typeNameOfWhole_valiter hit.typeIs (bx ?_))|refine aM (wpAny_typeNameOf_valiter hit.typeIs (bx ?_))
 refine aM (wpAny_isOneOf_valiter hit.typeIs ?_)
 show wpAny _ _ (setField (.ref it) 1 (rawInt ((i:Int)+1))>>=_) _ _ s
 refine aM (wpAny_setField aH aB (by simp) ?_)
 have qs:(s.heap.update it (Obj.mapFields (·.setIfInBounds 1 (rawInt ((i:Int)+1))))).IsValIter it d (i+1) vs.length ep:=
  ⟨_,Heap.get?_update_self _ aH (Obj.isFreed_of_fields (Obj.data_mapFields aB _)),(Obj.cls_mapFields ..).trans aw,by rw[Obj.data_mapFields aB];simp[rawInt]⟩
 refine aM (wpAny_holding ?_)
 refine aM (wpAny_isOneOf_valiter (s:={s with heap:=s.heap.update it (Obj.mapFields (·.setIfInBounds 1 (rawInt ((i:Int)+1))))}) qs.typeIs ?_)
 refine aM (wpAny_isOneOf_valiter (s:={s with heap:=s.heap.update it (Obj.mapFields (·.setIfInBounds 1 (rawInt ((i:Int)+1))))}) qs.typeIs ?_)
 show wpAny _ _ (pure es[i].val) _ _ _
 exact bx (bx (S6▸aQ _ qs (Heap.SameBut.update ..)))
theorem PZ(hit:s.heap.IsValIter it d i vs.length ep)
 (hm:jm s.heap d vs ep)(av:vs[i]? =some v)
 (aQ:∀h',h'.IsValIter it d (i+1) vs.length ep->Heap.SameBut it s.heap h'->Q (some v) {s with heap:=h'}):
 wpAny (model prog w) A (pyNext (.ref it)) Q E s:=by
 unfold pyNext
 refine aM (wpAny_attempt (wpAny_callSpecial?_slot (name:=Str.ofString "__next__") hit.typeIs PySem.F.slot_dict_valueiterator_next
  (wpAny_call_entry PySem.F.slot_dict_valueiterator_next hit.typeIs PySem.F.entry_dict_valueiterator_next ?_ (PySem.F.args_dict_valueiterator_next_1 _))))
 exact P0 hit hm av λh' a b=>⟨_,rfl,bx (aQ h' a b)⟩
theorem PY{it d:Addr}(hh:A.handled=none)(hit:s.heap.IsValIter it d i vs.length ep)
 (hm:jm s.heap d vs ep)(av:vs[i]? =none)
 (aQ:∀h',Heap.ExtBut it s.heap h'->Q none {s with heap:=h'}):wpAny (model prog w) A (pyNext (.ref it)) Q E s:=by
 obtain⟨o,aH,aw,aB⟩:=id hit
 obtain⟨sj,es,m5,jT,qq,hp⟩:=id hm
 unfold pyNext
 refine aM (wpAny_attempt (wpAny_callSpecial?_slot (name:=Str.ofString "__next__") hit.typeIs PySem.F.slot_dict_valueiterator_next
  (wpAny_call_entry PySem.F.slot_dict_valueiterator_next hit.typeIs PySem.F.entry_dict_valueiterator_next ?_ (PySem.F.args_dict_valueiterator_next_1 _))))
 refine aM (bx ?_)
 refine aM ?_
 refine aM ?_
 first|refine aM (wpAny_typeNameOfWhole_valiter hit.typeIs (bx ?_))|refine aM (wpAny_typeNameOf_valiter hit.typeIs (bx ?_))
 refine aM (wpAny_fieldsOf aH aB ?_)
 show wpAny _ _ (if(Value.ref d==Value.none)=true then _ else _) _ _ s
 refine iS (show ¬((Value.ref d==Value.none)=true) from fY) ?_
 refine aM (bx ?_)
 refine aM (wpAny_dictEntries m5 qq ?_)
 have hsz:=jm.size hp
 refine iS (by rw[hsz];simp) ?_
 refine aM (bx ?_)
 refine aM (wpAny_dictEpoch m5 qq ?_)
 refine iS (by simp) ?_
 refine bx ?_
 have Bq:es.size<=i:=by rw[hsz];simpa using av
 dsimp only
 rw[if_neg (Int.not_lt.mpr (Int.natCast_nonneg i)),show es[(i:Int).toNat]? =none from(congrArg (es[·]?) (Int.toNat_natCast i)).trans (Array.getElem?_eq_none Bq)]
 refine aM ?_
 first|refine aM (wpAny_typeNameOfWhole_valiter hit.typeIs (bx ?_))|refine aM (wpAny_typeNameOf_valiter hit.typeIs (bx ?_))
 show wpAny _ _ (setField (.ref it) 0 .none>>=_) _ _ s
 refine aM (wpAny_setField aH aB (by simp) ?_)
 show wpAny _ _ (newExc (.type "StopIteration") []>>=_) _ _ _
 refine aM ?_
 simp only[newExc,newTuple]
 refine aM (j5 ?_ (by size_fits))
 refine aM (m:=firstArgMember _ _) (fZ (a:=Value.none) (by first|rfl|(simp only[firstArgMember];rfl)) ?_)
 refine j5 ?_ (by size_fits)
 simp only[raiseNew]
 refine aM (wpAny_handled ?_)
 rw[show A.in1.handled=none from hh]
 refine aM (bx (wpAny_throw ?_))
 refine aM (wpAny_isInstance (T:="StopIteration") (b:=true) ⟨_,gA _ rfl,rfl⟩ isSubtype_stop ?_)
 exact bx (aQ _ (((Heap.SameBut.update ..).extBut.push _).push _))
theorem jm.at'(x:jm h d vs ep)(e:∀o,h.get? d=some o->h'.get? d=some o):jm h' d vs ep:=by
 obtain⟨o,es,aH,r⟩:=x;exact⟨o,es,e o aH,r⟩
theorem jm.lt(x:jm h d vs ep):d<h.objs.size:=by obtain⟨o,es,aH,r⟩:=x;exact Heap.lt_size aH
theorem P4(hh:A.handled=none)(aP d:Addr)(fF:d≠aP)(vs:List Value)(ep:Nat):
 Walks prog w A aP [aP,d] [aP] vs.length (λi v=>vs[i]? =some v) (λi h=>h.IsValIter aP d i vs.length ep/\jm h d vs ep) where
 sub:=λb ag=>by simp at ag;simp[ag]
 frame:=λ_ _ _ st hk=>⟨st.1.at λo e=>hk aP (by simp) o e,st.2.at' λo e=>hk d (by simp) o e⟩
 item:=λi s Q E hi st aQ=>by
  refine PZ st.1 st.2 (hN hi) λh' qs iR=>?_
  exact aQ _ h' s.toks (hN hi) ⟨qs,st.2.at' λo e=>iR.extBut d o fF e⟩ λb o ag e=>iR.extBut b o (λh=>ag (by simp[h])) e
 done:=λs Q E st aQ=>PY hh st.1 st.2 (by simp) λh' R'=>aQ h' s.toks λb o ag e=>R' b o (λh=>ag (by simp[h])) e
 self:=λ_ _ _ _ st aQ=>wpAny_pyIter_valiter st.1 aQ
theorem P2:KdlSrc prog w "dict_values" r d vs.length (λi v=>vs[i]? =some v) (λh=>h.IsValuesView r d/\jm h d vs ep) where
 type:=λ_ hm=>hm.1.typeIs
 there:=λ_ hm=>⟨let⟨_,aH,_⟩:=hm.1;Heap.lt_size aH,hm.2.lt⟩
 keep:=λ_ _ hm hk=>⟨let⟨o,aH,x⟩:=hm.1;⟨o,hk r (.inl rfl) o aH,x⟩,hm.2.at' λo e=>hk d (.inr rfl) o e⟩
 notList:=by decide
 notTuple:=by decide
 hint:=λ_ _ _ _ hm b5=>kdl_hint_values hm.1.typeIs b5
 iter:=λ_ _ hh hm=>⟨_,_,(λ_ _ b5=>P1 hm.1 hm.2 b5),P4 hh _ d (d9 hm.2.lt) vs ep,⟨⟨_,gA _ rfl,rfl,rfl⟩,hm.2.at' λo e=>i2 _ e⟩⟩
theorem aaV{ep:Nat}(hz:s.heap.objs.size=r+1)(hh:A.handled=none)(a3:s.heap.IsValuesView r d)(aB:jm s.heap d vs ep)(dc:vs.length<=6)
 (hk:2<=vs.length->∀h' cf,(∀b o,s.heap.get? b=some o->h'.get? b=some o)->ra prog w A.in1.in1 lt vs {s with heap:=h',toks:=cf})
 (h:∀h' cf D c,(∀b o,s.heap.get? b=some o->h'.get? b=some o)->h'.get? D=some (seqObj "list" (j3 lt vs).toArray c)->s.heap.objs.size<=D->Q (.ref D) {s with heap:=h',toks:=cf}):
 wpAny (model prog w) A (call (.builtin "sorted") [.ref r]) Q E s:=by
 refine Calls.call_function_entry kind_sorted plain_sorted entry_sorted (args_sorted1 _) ?_
 unfold Builtin.«sorted»
 refine aM (m:=checkCount "sorted" 1 1 _) (bx ?_)
 refine aM (kdu_collect (A:=A.in1) P2 hh ⟨a3,aB⟩ (by unfold sizeLine;omega) λh' cf acc xc Bd=>?_)
 have e:acc.toList=vs:=by
  refine List.ext_getElem? λi=>?_
  by_cases hi:i<vs.length
  .have h1:i<acc.size:=by rw[Bd.1];exact hi
   have:=Bd.2 i acc[i] (Array.getElem?_eq_getElem h1)
   rw[this,Array.getElem?_toList,Array.getElem?_eq_getElem h1]
  .rw[List.getElem?_eq_none (l:=acc.toList) (by rw[e6,Bd.1];exact aC.J' hi),List.getElem?_eq_none (l:=vs) (by exact aC.J' hi)]
 rw[e]
 refine K4 dc xc ?_ hk h
 obtain⟨jg,BA,_⟩:=id a3
 have:=Heap.lt_size (xc r _ BA)
 rw[hz];exact this
end
section
variable{prog:Program}{w:World}{h₁:Heap}{K:Frag}{own:Bool}{env:Env}{ns:List Str}{k:Nat}
theorem bw.getD(h:bw prog w W n vs bK)(i:Nat):aN prog w W n (vs.getD i .none) (bK.getD i .none):=by
 rw[mN,mN]
 cases e:vs[i]? with
 |none=>rw[h.none e];exact .none
 |some v=>
  obtain⟨ay,c2,r⟩:=h.get e
  rw[c2];exact r
noncomputable def oy(lt:Nat->Nat->Bool)(vs:List J):List J:=(kr lt vs.length).map λi=>vs.getD i .none
theorem K3(h:bw prog w W n vs bK):bw prog w W n (oy lt vs) (j3 lt bK):=by
 unfold oy j3
 rw[h.length]
 induction kr lt vs.length with
 |nil=>exact .nil
 |cons i r aZ=>exact .cons (h.getD i) aZ
theorem bG.newList{U:Loc}(R:bG prog w h₁ own env ns W U σ h)(hk:∀b o,h.get? b=some o->h'.get? b=some o)(ao:h'.get? D=some (listOf cC c))(hz:h.objs.size<=D)(a3:bw prog w W σ.next vs cC.toList):
 ∃W',W.le σ.next W'/\bG prog w h₁ own env ns W' U σ h'/\aN prog w W' σ.next (.bp vs) (.ref D):=by
 have dS:W.role D=.free:=R.bI.free hz
 have l:=az.ho (n:=σ.next) (r:=.imm (listOf cC c)) dS
 exact⟨_,l,(R.kV hk).HB dS ao,.bp az.c5 rfl rfl (a3.a5 l.1 (bt _))⟩
noncomputable def j0:List J->Option (List (Int×Int))
 |[]=>some []
 |.bo [.int a,.int b]::r=>(j0 r).map λl=>(a,b)::l
 |_=>none
theorem YV(h:j0 (v::vs)=some l):∃(m n:Int) (z:List (Int×Int)),v=.bo [.int m,.int n]/\j0 vs=some z/\l=(m,n)::z:=
 J.casesOn (motive_1:=λv=>j0 (v::vs)=some l->∃(m n:Int) (z:List (Int×Int)),v=.bo [.int m,.int n]/\j0 vs=some z/\l=(m,n)::z) v (λh=>aq h) (λ_ h=>aq h) (λ_ h=>aq h) (λ_ h=>aq h) (λ_ h=>aq h) (λxs h=>by
  rcases xs with _|⟨a,t⟩
  .exact aq h
  .exact J.casesOn (motive_1:=λa=>j0 (.bo (a::t)::vs)=some l->∃(m n:Int) (z:List (Int×Int)),J.bo (a::t)=.bo [.int m,.int n]/\j0 vs=some z/\l=(m,n)::z) a (λh=>aq h) (λ_ h=>aq h) (λi h=>by
   rcases t with _|⟨b,u⟩
   .exact aq h
   .exact J.casesOn (motive_1:=λb=>j0 (.bo (.int i::b::u)::vs)=some l->∃(m n:Int) (z:List (Int×Int)),J.bo (.int i::b::u)=.bo [.int m,.int n]/\j0 vs=some z/\l=(m,n)::z) b (λh=>aq h) (λ_ h=>aq h) (λai h=>by
    rcases u with _|⟨c,r⟩
    .obtain⟨q,b5,e⟩:=fS.mp h
     exact⟨i,ai,q,rfl,b5,e.symm⟩
    .exact aq h) (λ_ h=>aq h) (λ_ h=>aq h) (λ_ h=>aq h) (λ_ h=>aq h) (λ_ h=>aq h) (λ_ _ _ h=>aq h) (λ_ h=>aq h) (λ_ h=>aq h) h) (λ_ h=>aq h) (λ_ h=>aq h) (λ_ h=>aq h) (λ_ h=>aq h) (λ_ h=>aq h) (λ_ _ _ h=>aq h) (λ_ h=>aq h) (λ_ h=>aq h) h) (λ_ h=>aq h) (λ_ h=>aq h) (λ_ _ _ h=>aq h) (λ_ h=>aq h) (λ_ h=>aq h) h
theorem YW(R:bB prog w h₁ W σ h)(r:bw prog w W σ.next vs bK)(e:j0 vs=some l):kK h bK l:=
 r.ind (P:=λvs bK=>∀l,j0 vs=some l->kK h bK l) (λl e=>b9 e▸trivial) (λa _ aZ l e=>by
  obtain⟨x,y,r,gr,aI,eY⟩:=YV e
  rw[gr] at a
  obtain⟨ad,items,n,ew,aE,cE,q⟩:=a.ky R
  obtain⟨jA,dx,a7,ZO,eT⟩:=q.Lq
  obtain⟨t,ep⟩:=ZO.bf
  obtain⟨u,eq⟩:=eT.bf
  rw[eY,ew]
  refine⟨⟨ad,_,n,t,u,rfl,cE,rfl,?_⟩,aZ _ aI⟩
  show Data.seq items n=_
  rw[show items= #[.int x t,.int y u] from Array.toList_inj.mp (by rw[a7,ep,eq])]) l e
theorem kK.keep:∀{l:List (Int×Int)},kK h vs l->(∀b o,h.get? b=some o->h'.get? b=some o)->kK h' vs l:=by
 induction vs with
 |nil=>
  intro l p hk
  rcases l with _|⟨x,l⟩
  .trivial
  .exact p.elim
 |cons v vs aZ=>
  intro l p hk
  rcases l with _|⟨x,l⟩
  .exact p.elim
  .obtain⟨⟨a,o,n,t,u,e,aH,q⟩,r⟩:=p
   exact⟨⟨a,o,n,t,u,e,hk a o aH,q⟩,aZ r hk⟩
noncomputable def yg:b3
 |[v],σ=>(ff v σ).bind λvs=>(j0 vs).bind λl=>if vs.length<=6 then some (.bp (oy (qN l) vs),σ) else none
 |_,_=>none
theorem Vd:OpOk prog w h₁ k (λvs=>call (.builtin "sorted") vs) yg:=
 .fI λW σ a br r cu bT aI=>.end (λq=>a::q) (λq=>br::q) aI λA s Q E aE aX R=>wpN.of<|e0 λG bZ=>by
 obtain⟨vs,a3,aX⟩:=(aJ.hG aX).cC
 obtain⟨l,aG,aX⟩:=(aJ.hG aX).cC
 obtain⟨dc,aX⟩:=aJ.gj aX
 obtain⟨a,items,e,e',q⟩:=hq R bT a3
 have cN:=YW R q aG
 refine bZ ?_
 rw[e]
 refine aaU (vs:=items.toList) (lt:=qN l) e' (by rw[q.length];exact dc) (λh2 h' cf hk=>Ny (cN.keep hk) h2) λh' cf D c hk ao hz=>?_
 have dS:W.role D=.free:=R.free hz
 have ba:=az.ho (n:=σ.next) (r:=.imm (listOf (j3 (qN l) items.toList).toArray c)) dS
 exact dg.to aX _ _ h' cf ba (bt _) ((R.m9 hk).ia dS ⟨_,ao⟩ (λcV e=>bQ.imm.inj e▸ao) (λcV e=>nomatch e)) (.bp az.c5 rfl rfl ((K3 q).a5 ba.1 (bt _)))
end
section
variable{prog:Program}{w:World}{h₁:Heap}{K:Frag}{own:Bool}{env:Env}{ns:List Str}{k:Nat}
theorem Ov(hT:s.TypeIs (.ref d) "dict")(aB:(d==sysModules)=false)
 (h:Q (.ref s.heap.objs.size) {s with heap:=s.heap.push {cls:=.type "dict_values",data:=.fields #[.ref d]}}):wpAny (model prog w) A (call (.builtin "dict.values") [.ref d]) Q E s:=by
 refine wpAny_call_entry PySem.F.slot_dict_values hT PySem.F.entry_dict_values ?_ (PySem.F.args_dict_values_1 _)
 unfold Builtin.«dict.values»
 refine aM ?_
 unfold Builtin.Dict.noArgs
 refine aM (wpAny_notOrdered_dict hT ?_)
 show wpAny _ _ (pure d) _ _ s
 refine bx ?_
 show wpAny _ _ (Builtin.Dict.showsAll d>>=_) _ _ s
 unfold Builtin.Dict.showsAll
 rw[if_neg (by rw[aB];exact fY)]
 refine aM (bx ?_)
 exact aM (j5 (bx ⟨_,rfl,h⟩))
theorem TRel.pF(r:TRel prog w W n es xs):bw prog w W n (es.map (·.2)) (xs.map (·.2.2)):=by
 refine TRel.ind (P:=λes xs=>bw prog w W n (es.map Prod.snd) (xs.map λx=>x.2.2)) ?_ ?_ r
 .exact .nil
 .exactλ_ b _ aZ=>.cons b aZ
noncomputable def uZ(gf:c4):c4:=λU σ=>(gf U σ).bind λr=>(gy r.1 r.2).bind λes=>(ib (es.map (·.2))).bind λl=>if es.length<=6 then some (.bp (oy (se l) (es.map (·.2))),r.2) else none
theorem P8(hf:bk prog w h₁ own env ns k (eval fn env) (I (.bY (.builtin "sorted"))))(aH:bk prog w h₁ own env ns k (eval o env) gf)
 (ah:autoParam (starEach [.Call (.Attribute o "values" jN) [] [] uA] env=[(false,eval (.Call (.Attribute o "values" jN) [] [] uA) env)]) aL._auto_1)
 (aw:autoParam (eval (fn.Call [.Call (.Attribute o "values" jN) [] [] uA] [] mf) env=(do let g<-eval fn env;callWith mf g [] (backTo mf (starEach [.Call (.Attribute o "values" jN) [] [] uA] env)) (backToKw mf (keywordEach [] env)))) aL._auto_1)
 (nY:autoParam (attributeBase o "values" env (eval o env)=eval o env) aL._auto_1)
 (n3:autoParam ((jN.endLine==uA.line)=true) aL._auto_1):
 bk prog w h₁ own env ns k (eval (.Call fn [.Call (.Attribute o "values" jN) [] [] uA] [] mf) env) (uZ gf):=by
 refine .of λA W U σ s Q E aE ao R=>?_
 rw[aw]
 refine a6 (hf A W U σ _ σ s _ E aE rfl R λiq jD eF q3 i' ab gM k7=>?_)
 rw[show jD=_ from k7.bf]
 refine sP rfl (by rw[ah];rfl) ?_
 rw[ah]
 refine sQ (Dz (LG nY rfl n3 rfl (aH.go aE ao.bind gM λet cA ao bu dH h1 cL bE ae bA bc=>e0 λG bZ=>?_)))
 obtain⟨es,a7,ao⟩:=(aJ.hG ao).cC
 obtain⟨l,e3,ao⟩:=(aJ.hG ao).cC
 obtain⟨dc,ao⟩:=aJ.gj ao
 obtain⟨d,xs,e,z,aB,q⟩:=nr bA.bI bc a7
 have bE:=i'.trans ab bE
 have ae:=cm ab ae
 obtain⟨sj,Qa,ep,m5,av,qq,xb,_,_⟩:=id aB
 have xk:(xs.map (·.2.2)).length=es.length:=by rw[dW];exact q.length
 have aI:=q.pF
 refine bZ ?_
 rw[e]
 refine⟨"dict","dict.values",PySem.F.plainAttrs_dict,PySem.F.slot_dict_values,by kernel_rfl,aB.typeIs,λa e=>Value.ref.inj e▸⟨sj,m5,av.2.1⟩,?_⟩
 refine sP rfl rfl (LL (.of (Ov (s:={s with heap:=h1,toks:=cL}) aB.typeIs z (.of (bx ?_)))))
 refine .of (aaV (s:={s with heap:=h1.push {cls:=.type "dict_values",data:=.fields #[.ref d]},toks:=cL}) (r:=h1.objs.size) (d:=d) (vs:=xs.map (·.2.2)) (ep:=ep) (lt:=se l) ?_ aE.h ⟨_,gA _ rfl,rfl,rfl⟩ ?_ (by rw[xk];exact dc)
  (λh2 h' cf hk=>Nx (BW aI e3) h2) λh' cf D c hk RM hz=>?_)
 .exact i3 ..
 .refine⟨sj,Qa,i2 _ m5,av,qq,?_⟩
  rw[xb,List.map_map];rfl
 .have cx:=bA.kV (h':=h1.push {cls:=.type "dict_values",data:=.fields #[.ref d]}) λb o e=>i2 _ e
  obtain⟨W',ba,dj,dF⟩:=cx.newList hk RM hz (by rw[List.toList_toArray];exact K3 aI)
  exact dC.to ao W' _ h' cf (bE.trans ae ba) ae dj dF
end
section
variable{prog:Program}{w:World}{h₁:Heap}{K:Frag}{own:Bool}{env:Env}{ns:List Str}{k:Nat}
theorem Uc:typeLookup (.type "list") "keys"=pure none:=am_miss_of_fast (by decide+kernel)
theorem Rz(aH:s.heap.get? a=some (listOf items n))(hh:A.handled=none)
 (h:∀h' cf,(∀b o,s.heap.get? b=some o->h'.get? b=some o)->Q none {s with heap:=h',toks:=cf}):wpAny (model prog w) A (getAttr? (.ref a) "keys") Q E s:=by
 obtain⟨hp,g,d,cf,os⟩:=s
 have hT:∀cP,(⟨hp,g,d,cP,os⟩:Shared).TypeIs (.ref a) "list":=λ_=>⟨_,aH,rfl⟩
 have f1:=sub_AttributeError
 have o2:=PySem.F.slot_list_getattribute.lookup
 have wF:=PySem.F.slot_list_getattribute.bind (.ref a)
 have tL:=am_list_getattr_none
 unfold getAttr? getAttrBy? getAttrBy
 repeat (any_goals(first|assumption|exact hT _|((with_reducible show wpAny _ _ (call (Value.builtin "list.__getattribute__") _ _) _ _ _);refine call_meets PySem.F.slot_list_getattribute (hT _) am_entry_list_getattribute (PySem.F.args_list_getattribute_2 _ _) (meets_getattribute_miss_list a items n #[] _ _ Uc (by decide) (by decide+kernel)) ⟨aH,hh,λh' cP e jW=>?_⟩)|wp_step))
 obtain⟨dQ,gc,b1⟩:=jW.there
 have HG:(⟨h',g,d,cP,os⟩:Shared).TypeIs (.ref e) "AttributeError":=⟨_,b1,rfl⟩
 show wpAny _ _ (getattributeRaised _ _ _ _ _ _ _) _ _ _
 unfold getattributeRaised
 refine aM (wpAny_isInstance HG f1 ?_)
 rw[if_pos rfl]
 refine aM ?_
 show wpAny _ _ (typeLookup (.type "list") "__getattr__") _ _ _
 refine fZ tL ?_
 unfold hookOrError
 dsimp only
 unfold attributeErrorLeaves
 rw[if_pos (by decide)]
 first
  |refine wpAny_throw ?_
  |refine aM (wpAny_throw ?_)
 refine aM (wpAny_isInstance HG f1 ?_)
 rw[if_pos rfl]
 exact bx (h _ _ jW.keeps)
end
section
variable{prog:Program}{w:World}{h₁:Heap}{K:Frag}{own:Bool}{env:Env}{ns:List Str}{k:Nat}
theorem PT(R:bB prog w h₁ W σ s.heap)(aw:σ.cells c=some (.cn es))
 (hi:j9 dB k1=true)(a3:aN prog w W σ.next v ay)(aG:es.length<=1000000)(hp:a0=σ.aT c (.cn (dA es dB v)))(rL:W.al c=da)
 (aQ:∀h' cP,bB prog w h₁ W a0 h'->Heap.SameBut (W.al c) s.heap h'->Q () {s with heap:=h',toks:=cP}):wpAny (model prog w) A (dictSet da k1 ay) Q E s:=by
 rw[hp] at aQ
 obtain⟨_,_,g,z,d,q⟩:=(R.cell c _ aw).2.bf
 rw[<-rL]
 refine wpAny_dictSet_pairs (knd:=hF prog w) hi (d.b2 g) (λh' hm hs=>?_) (qO q.length aG)
 obtain⟨dV,g2,gh⟩:=lb.sN hm
 exact aQ h' _ (R.mL aw hs (.cn g2 z gh (q.set a3))) hs
noncomputable def x6:J->Option (bq×J)
 |.bo [a,b]=>(toAtom a).map λk=>(k,b)
 |_=>none
noncomputable def lu(c:Nat):List J->St->Option St
 |[],σ=>some σ
 |x::r,σ=>(x6 x).bind λp=>match σ.cells c with
  |some (.cn es)=>if es.length<=1000000 then lu c r (σ.aT c (.cn (dA es p.1 p.2))) else none
  |_=>none
noncomputable def wx:b3
 |[.ref c],σ=>match σ.cells c with
  |some (.list vs)=>(lu σ.next vs (σ.new (.cn []))).map λa0=>(.ref σ.next,a0)
  |_=>none
 |_,_=>none
theorem eR.Tr(R:eR A (k+1)):eR A.in1.in1 k:=⟨R.h,by have:=R.d;show A.depth+8*k+8<1000;exact aC.XU this,by have:=R.u;show A.units+1+1+64*k+200<9900;exact aC.X1 this,R.g⟩
theorem Lr:entryFor table "dict.update.loop"=some Builtin.«dict.update.loop»:=entryFor_of_tree (by kernel_rfl)
theorem ym:plainId "dict.update.loop"=true:=by decide+kernel
theorem YU(h:x6 x=some p):∃a,x=.bo [a,p.2]/\toAtom a=some p.1:=
 J.casesOn (motive_1:=λx=>x6 x=some p->∃a,x=.bo [a,p.2]/\toAtom a=some p.1) x (λh=>aq h) (λ_ h=>aq h) (λ_ h=>aq h) (λ_ h=>aq h) (λ_ h=>aq h) (λvs h=>by
  rcases vs with _|⟨a,_|⟨b,_|⟨c,r⟩⟩⟩
  .exact aq h
  .exact aq h
  .obtain⟨k,hk,e⟩:=fS.mp h
   rw[<-e];exact⟨a,rfl,hk⟩
  .exact aq h) (λ_ h=>aq h) (λ_ h=>aq h) (λ_ _ _ h=>aq h) (λ_ h=>aq h) (λ_ h=>aq h) h
theorem df.MK{α:Type}{x:Option df}{f:List (bq×J)->Option α}{y:α}(e:(match x with|some (.cn es)=>f es|_=>none)=some y):∃es,x=some (.cn es)/\f es=some y:=by
 rcases x with _|(_|es|_|_|_)
 .exact aq e
 .exact aq e
 .exact⟨es,rfl,e⟩
 .exact aq e
 .exact aq e
 .exact aq e
theorem Tq{α:Type}{d:Decidable p}{a:Option α}{b:α}(h:(if p then a else none)=some b):p/\a=some b:=by
 by_cases e:p
 .rw[if_pos e] at h;exact⟨e,h⟩
 .rw[if_neg e] at h;exact aq h
theorem Fb{c:Nat}(h:lu c (x::r) σ=some a0):∃k v a es,x=.bo [a,v]/\toAtom a=some k/\σ.cells c=some (.cn es)/\es.length<=1000000/\lu c r (σ.aT c (.cn (dA es k v)))=some a0:=by
 obtain⟨p,hp,h⟩:=bind_some (show(x6 x).bind _=some a0 from h)
 obtain⟨es,aw,h⟩:=df.MK (f:=λes=>if es.length<=1000000 then lu c r (σ.aT c (.cn (dA es p.1 p.2))) else none) h
 obtain⟨aG,h⟩:=Tq h
 obtain⟨a,e,hk⟩:=YU hp
 exact⟨p.1,p.2,a,es,e,hk,aw,aG,h⟩
theorem bB.letGo(R:bB prog w h₁ W σ h)(cW:W.role aP=.fix o)(ag:∀a x,a≠aP->h.get? a=some x->h'.get? a=some x):bB prog w h₁ (W.aT aP .free) σ h':=by
 have kJ:=R.sA (W':=W.aT aP .free) rfl λa=>by
  by_cases e:a=aP
  .exact .inr ⟨.inr ⟨o,e▸cW⟩,.inl (e▸az.c5)⟩
  .exact .inl (az.ck e)
 have e3:∀a,(W.aT aP .free).role a≠.free->h'.get? a=h.get? a:=λa ha=>by
  obtain⟨oa,ix⟩:=kJ.1.live a ha
  rw[ix];exact ag a oa (λe=>ha (e▸az.c5)) ix
 exact kJ.1.keep (λa ha _=>e3 a ha) λa ha=>by rw[e3 a (bQ.ne ha)];exact kJ.1.live a (bQ.ne ha)
structure MD (prog:Program) (w:World) (h₁:Heap) (src:J) (iZ:Value) (items:List J) (aP da:Addr) (N:az->Prop) (P:Nat->Obj->Prop) (d ai:Nat) (W:az) (σ:St) (h:Heap):Prop where
 n:N W
 R:bB prog w h₁ W σ h
 r:aN prog w W σ.next src iZ
 f:∃o,W.role aP=.fix o/\P ai o
 da:W.al d=da
 aT:∀es,d1 src (σ.aT d (.cn es))=some items
 it:d1 src σ=some items
noncomputable def MC(prog:Program)(w:World)(h₁:Heap)(aP:Addr)(W:az)(R:Result->Shared->Prop)(s:Shared)(a0:St):Prop:=
 ∀W' h' cP,W'.al=W.al->(∀b,b≠aP->W'.role b=W.role b)->W'.role aP=.free->bB prog w h₁ W' a0 h'->R (.ok (.ret .none)) {s with heap:=h',toks:=cP}
theorem St.Y6{σ:St}:(σ.aT d x).aT d y=σ.aT d y:=by
 unfold St.aT
 refine congrArg (λf=>St.mk f σ.next) (funext λe=>?_)
 by_cases q:e=d
 .rw[if_pos q,if_pos q]
 .rw[if_neg q,if_neg q];exact if_neg q
theorem abP{A:Around}{da:Addr}{k:Nat}{R:Result->Shared->Prop}(aE:eR A.in1 k)(hD:mS prog w h₁ k src iZ items aP N P)
 (rest:List J):∀(ai:Nat) (W:az) (σ a0:St) (s:Shared) (i:Int),items.drop ai=rest->ai<=items.length->MD prog w h₁ src iZ items aP da N P d ai W σ s.heap->lu d rest σ=some a0->MC prog w h₁ aP W R s a0->
   codeAny (model prog w) A (.builtin "dict.update.loop" ⟨[.ref da,.ref aP,.int i 0,.none],[]⟩) R s:=by
 induction rest with
 |nil=>
  intro ai W σ a0 s i lH cK J lG aQ
  obtain⟨o,cW,cN⟩:=J.f
  rw[<-b9 lG] at aQ
  refine codeAny_builtin Lr ?_
  rw[Around.under_plainId ym _]
  unfold Builtin.«dict.update.loop»
  exact aM (hD.done A.in1 W σ ai o _ _ _ aE J.n J.R J.r J.it (z8 lH) cK (J.R.fix _ _ cW) cN cW λaR cU tV=>aM (bx (bx
   (aQ (W.aT aP .free) aR cU rfl (λb ag=>az.ck ag) az.c5 (J.R.letGo cW tV)))))
 |cons x r aZ=>
  intro ai W σ a0 s i lH cK J lG aQ
  obtain⟨o,cW,cN⟩:=J.f
  obtain⟨av,lH⟩:=wz lH
  obtain⟨dB,v,a,es,nO,hk,n0,aG,lG⟩:=Fb lG
  refine codeAny_builtin Lr ?_
  rw[Around.under_plainId ym _]
  unfold Builtin.«dict.update.loop»
  refine aM (hD.item A.in1 W σ ai x o _ _ _ aE J.n J.R J.r J.it av (J.R.fix _ _ cW) cN cW λdN aR cU iX eN nW nX m6=>?_)
  dsimp only
  refine e0 λG bZ=>?_
  have ip:=J.R.swap cW m6 nW
  have ur:W.e2 σ.next (W.aT aP (.fix iX)):=az.r8 cW
  rw[nO] at eN
  obtain⟨ad,dz,n,e,bc,cE,q⟩:=(eN.a5 ur (bt _)).ky ip
  obtain⟨br,bU,a7,bT,cR⟩:=q.Lq
  have hT:({s with heap:=aR,toks:=cU}:Shared).TypeIs (.ref ad) "tuple":=⟨_,cE,rfl⟩
  refine bZ ?_
  rw[e]
  refine aM (wpAny_holding (aM (wpAny_tryCatch ?_)))
  unfold Builtin.Dict.pairItems
  refine aM (wpAny_typeOf hT (i9 (by decide) (aM (wpAny_seqItems cE rfl (bx ?_)))))
  show wpAny _ _ (match dz.toList with|[k,v]=>_|l=>_) _ _ _
  rw[a7]
  refine wpAny_holding (PT (W:=W.aT aP (.fix iX)) (σ:=σ) (s:={s with heap:=aR,toks:=cU}) ip n0 (toAtom_is bT hk) cR aG rfl J.da λh4 pD d' m7=>bx ⟨plainId_quiet ym _,?_⟩)
  refine aZ (ai+1) (W.aT aP (.fix iX)) (σ.aT d (.cn (dA es dB v))) a0 {s with heap:=h4,toks:=pD} (i+1) lH (l5.mp av).1 ⟨hD.u1 _ _ _ J.n ur,d',J.r.a5 ur (bt _),⟨iX,az.c5,nX⟩,J.da,λeZ=>by rw[St.Y6];exact J.aT eZ,J.aT _⟩ lG λW' h' cP a9 a7 e3 dK=>
   aQ W' h' cP a9 (λb ag=>(a7 b ag).trans (az.ck ag)) e3 dK
theorem MR:lu c vs σ=some a0->a0.next=σ.next:=by
 induction vs generalizing σ with
 |nil=>exactλh=>congrArg St.next (b9 h).symm
 |cons x r aZ=>
  intro h
  obtain⟨_,_,_,_,_,_,_,_,h⟩:=Fb h
  have q:=aZ h
  exact q
theorem Pc(aE:eR A (k+1))(R:bB prog w h₁ W σ s.heap)(bT:aN prog w W σ.next (.ref c) (.ref (W.al c)))(qo:c<σ.next)(aw:σ.cells c=some (.list vs))(lG:lu σ.next vs (σ.new (.cn []))=some bH)(aQ:dg prog w h₁ W σ s Q (.ref σ.next) bH):
 wpAny (model prog w) A (call (.type "dict") [.ref (W.al c)]) Q E s:=by
 refine callType_codes (Q₁:=λobj bj=>obj=.ref s.heap.objs.size/\bj={s with heap:=s.heap.push {cls:=.type "dict",data:=.dict #[]}}) PySem.F.kt_called_dict (PySem.F.kt_typeCall_dict_1 _) PySem.F.entry_dict_init (kt_code_dict_new _ ⟨rfl,rfl⟩) λobj bj e=>?_
 rw[e.1,e.2]
 refine e0 λG bZ=>?_
 obtain⟨items,dB,g,q⟩:=(R.cell c _ aw).2.bf
 obtain⟨bA,bE,bc⟩:=R.UM {cls:=.type "dict",data:=.dict #[]} (.cn []) rfl (E4 rfl R.fresh)
 have hT:({s with heap:=s.heap.push {cls:=.type "dict",data:=.dict #[]}}:Shared).TypeIs (.ref s.heap.objs.size) "dict":=⟨_,gA _ rfl,rfl⟩
 have HC:(s.heap.push {cls:=.type "dict",data:=.dict #[]}).get? (W.al c)=some (listOf items dB):=i2 _ g
 have w8:({s with heap:=s.heap.push {cls:=.type "dict",data:=.dict #[]}}:Shared).TypeIs (.ref (W.al c)) "list":=⟨_,HC,rfl⟩
 have Jn:¬c=σ.next:=d9 qo
 have HN:(σ.new (.cn [])).cells c=some (.list vs):=(if_neg Jn).trans aw
 have hit:d1 (.ref c) (σ.new (.cn []))=some vs:=by unfold d1;dsimp only;rw[HN]
 have KC:aN prog w (W.eS σ.next s.heap.objs.size) (σ.new (.cn [])).next (.ref c) (.ref (W.al c)):=bT.a5 bE.1 (gp _)
 refine bZ ⟨hT,PySem.F.args_dict_init_2 _ _,?_⟩
 unfold Builtin.«dict.__init__»
 refine aM ?_
 unfold Builtin.Dict.selfAndRest
 refine aM (wpAny_notOrdered_dict hT ?_)
 show wpAny _ _ (pure (s.heap.objs.size,[Value.ref (W.al c)])) _ _ _
 refine bx ?_
 show wpAny _ _ (Builtin.Dict.updateFrom "dict.__init__" s.heap.objs.size (.ref (W.al c)) [] .none) _ _ _
 unfold Builtin.Dict.updateFrom
 refine aM (wpAny_typeOf w8 (i9 (by decide) (aM (Rz HC aE.h λh2 tk2 lI=>bm_if_true rfl (aM (wpAny_rule ?_))))))
 have cx:=bA.kV lI
 refine aM (C0 (k:=k) (s:={s with heap:=h2,toks:=tk2}) cx KC hit λo N P my iQ cN hD=>bx ⟨plainId_quiet ym _,?_⟩)
 have dS:(W.eS σ.next s.heap.objs.size).role h2.objs.size=.free:=cx.free (bt _)
 have iP:(h2.push o).get? h2.objs.size=some o:=gA _ my
 have dj:=(cx.push o).ia (r:=.fix o) dS ⟨o,iP⟩ (λ_ e=>nomatch e) (λcV e=>bQ.fix.inj e▸iP)
 have cY:=az.ho (n:=(σ.new (.cn [])).next) (r:=.fix o) dS
 have ew:((W.eS σ.next s.heap.objs.size).aT h2.objs.size (.fix o)).al σ.next=s.heap.objs.size:=if_pos rfl
 refine abP (da:=s.heap.objs.size) (d:=σ.next) aE.Tr hD vs 0 _ (σ.new (.cn [])) bH {s with heap:=h2.push o,toks:=tk2} 0 rfl (Nat.zero_le _) ⟨hD.u1 _ _ _ iQ cY.1,dj,KC.a5 cY.1 (bt _),⟨o,az.c5,cN⟩,ew,λes=>?_,hit⟩ lG λW' h' cP a9 a7 e3 dK=>?_
 .have:((σ.new (.cn [])).aT σ.next (.cn es)).cells c=some (.list vs):=(if_neg Jn).trans HN
  unfold d1;dsimp only;rw[this]
 .have en:bH.next=σ.next+1:=MR lG
  have ig:∀b,b≠s.heap.objs.size->(W.eS σ.next s.heap.objs.size).role b=W.role b:=λb ag=>if_neg ag
  have keepR:∀b r,W.role b=r->r≠.free->W'.role b=r:=λb r e aI=>by
   have ah:b≠s.heap.objs.size:=λq=>aI (e.symm.trans (R.free (dR q.symm)))
   have h1:b≠h2.objs.size:=λq=>aI (e.symm.trans ((ig b ah).symm.trans (by rw[q];exact dS)))
   exact((a7 b h1).trans (az.ck h1)).trans ((ig b ah).trans e)
  have le:W.le σ.next W':=⟨⟨λb iC e=>keepR b _ e (λq=>nomatch q),λFJ HM=>by rw[a9];exact cY.1.2 FJ (Nat.lt_succ_of_lt HM)|>.trans (bE.1.2 FJ HM)⟩,λb iC e=>keepR b _ e (λq=>nomatch q),λb e=>keepR b _ e (λq=>nomatch q)⟩
  have q:aN prog w W' bH.next (.ref σ.next) (.ref (W'.al σ.next)):=.ref (by rw[en];exact gB _)
  rw[show W'.al σ.next=s.heap.objs.size by rw[a9];exact ew] at q
  exact⟨rfl,aQ W' _ h' cP le (by rw[en];exact gp _) dK q⟩
theorem U6:OpOk prog w h₁ (k+1) (λvs=>call (.type "dict") vs) wx:=
 .fI λW σ a br r cu bT aI=>.ref (λa=>a::r) (λa=>a::cu) bT λc br bT=>.end (λq=>_::q) (λq=>_::q) aI λA s Q E aE aX R=>wpN.of<|by
 obtain⟨v,a0,e,aX⟩:=aX.cC
 obtain⟨vs,aw,e⟩:=df.B7 (f:=λvs=>(lu σ.next vs (σ.new (.cn []))).map λa0=>(J.ref σ.next,a0)) e
 obtain⟨bH,lG,e⟩:=fS.mp e
 rw[<-(Prod.mk.inj e).1,<-(Prod.mk.inj e).2] at aX
 obtain⟨qo,ew⟩:=bT.bf
 rw[ew] at bT⊢
 exact Pc aE R bT qo aw lG aX
end
structure pP (K:Frag) (d0:Addr):Prop where
 hga:findIn K (.ref f6) "__getattribute__"=some (some (.builtin "object.__getattribute__"))
 hsa:findIn K (.ref f6) "__setattr__"=some (some (.builtin "object.__setattr__"))
 hk:findIn K (.ref f6) "__getattr__"=some none
 hp:plainOver K f6=true
 ht:takerIn K f6 "times"=some none
 hh:hasDictIn K f6=true
 ha:findIn K (.ref f6) "times"=some none
 hm:makesIn K f6=true
 hi:findIn K (.ref f6) "__init__"=some (some (.ref d0))
 hf:typeIn K (.ref d0)=some (.type "function")
section
variable{prog:Program}{w:World}{h₁:Heap}{K:Frag}{own:Bool}{env:Env}{ns:List Str}{k:Nat}{d0:Addr}
theorem bP.tx(B:bP K h₁)(R:bB prog w h₁ W σ h):K.In h:=B.X.keeps R.old
noncomputable def yS(prog:Program)(w:World)(W:az)(n:Nat)(es:List DictEntry):Option J->Prop
 |none=>es=[]
 |some v=>∃(hh:Int) (cf:Tok) (ay:Value),es=[⟨hh,.str "times" cf,ay⟩]/\aN prog w W n v ay
theorem inst_at(R:bB prog w h₁ W σ h)(aw:σ.cells c=some (.inst t)):
 ∃d es n,h.get? (W.al c)=some (instObj f6 d)/\W.role d=.gX c/\h.get? d=some (dictOf es n)/\InstAt h (W.al c) (instObj f6 d) f6 (some (dictOf es n))/\
  yS prog w W σ.next es t:=by
 obtain⟨d,es,n,g,r,q,v⟩:=(R.cell c _ aw).2.bf
 exact⟨d,es,n,g,r,q,⟨g,rfl,rfl,q⟩,by rcases t with _|t<;>exact v⟩
noncomputable def kQ(gf:c4):c4:=λU σ=>(gf U σ).bind λr=>match r.1 with
 |.ref c=>match r.2.cells c with
  |some (.inst (some (.cD es)))=>some (.cD es,r.2)
  |_=>none
 |_=>none
noncomputable def Fi(v:J)(σ:St):Option (J×St):=match v with
 |.ref c=>match σ.cells c with
  |some (.inst (some (.cD es)))=>some (.cD es,σ)
  |_=>none
 |_=>none
theorem instC_inv{x:Option df}(h:aJ (match x with|some (.inst (some (.cD es)))=>some (J.cD es,σ)|_=>none) aA):∃es,x=some (.inst (some (.cD es)))/\aA (.cD es) σ:=by
 rcases x with _|(_|_|_|(_|(_|_|_|_|_|_|_|es|_|_|_))|_)
 all_goals first|exact False.elim h|exact⟨es,rfl,h⟩
theorem NB{v:J}(h:aJ (Fi v σ) aA):∃c es,v=.ref c/\σ.cells c=some (.inst (some (.cD es)))/\aA (.cD es) σ:=
 J.casesOn (motive_1:=λv=>aJ (Fi v σ) aA->∃c es,v=.ref c/\σ.cells c=some (.inst (some (.cD es)))/\aA (.cD es) σ) v (λh=>False.elim h) (λ_ h=>False.elim h) (λ_ h=>False.elim h) (λ_ h=>False.elim h) (λ_ h=>False.elim h) (λ_ h=>False.elim h) (λ_ h=>False.elim h) (λ_ h=>False.elim h) (λ_ _ _ h=>False.elim h) (λc h=>have h:=instC_inv h;h.elim λes h=>⟨c,es,rfl,h⟩) (λ_ h=>False.elim h) h
theorem tG(B:bP K h₁)(aA:pP K d0)(aH:bk prog w h₁ own env ns k (eval o env) gf)
 (b1:autoParam (eval (.Attribute o "times" pos) env=(do
    let v<-eval o env
    standAt pos.atName
    let r<-holding [v] (getAttr v "times" true)
    letTemporaryGo o v r
    pure r)) ys._auto_1):bk prog w h₁ own env ns k (eval (.Attribute o "times" pos) env) (kQ gf):=by
 refine .of λA W U σ s Q E aE ao R=>?_
 rw[b1]
 refine a6 (aH.go aE ao.bind R λet cA ao bu dH h1 cL bE ae bA bc=>e0 λG bZ=>?_)
 obtain⟨c,es,gr,aw,ao⟩:=NB (v:=et) ao
 rw[show et=_ from gr] at bc
 obtain⟨d,dY,n,g,mK,HA,aP,hh,cf,ay,a7,fx⟩:=inst_at bA.bI aw
 obtain⟨_,gr⟩:=bc.bf
 refine bZ ?_
 rw[gr]
 refine a6 (ed (a6 (d8 (.of (get_value (s:={s with heap:=h1,toks:=cL}) (B.tx bA.bI) aP aA.hga (v:=ay) (findObj_own aA.hh aA.ha (by rfl) ?_) ?_ ?_)))))
 .rw[lookIn_dict,a7];rfl
 .obtain⟨_,_,_,_,_,_,_,e⟩:=fx.bf
  rw[e];rfl
 .exact a6 (.of (wpAny_letTemporaryGo (cz (dC.to ao bu ay h1 _ bE ae bA fx))))
theorem ab5
 (h:wpN M A (eval value env) (λv bj=>wpN M A (eval o env) (λjg cZ=>wpN M A (setAttr jg attr v) (λ_=>Q .next) E cZ) E bj) E s)
 (hs:autoParam (swapsWith value (some (.Attribute o attr jh)) pos.line env=pure false) aL._auto_1):wpN M A (exec (.Assign [.Attribute o attr jh] value pos) env) Q E s:=by
 rw[plainObj_exec_Assign_Attribute o attr jh value pos hs]
 refine a6 (ed (a6 (cF h (λv bj h₁=>a6 ?_) λ_ _ e=>e)))
 rw[assign_Attribute]
 exact a6 (d8 (cF h₁ (λjg cZ eG=>a6 (ed (a6 (d8 (cF eG (λ_ _ gT=>.of (wpAny_release' (cz gT))) λ_ _ e=>e))))) λ_ _ e=>e))
theorem Kv(x:PySem.Str)(a:Int)(b v:Value):∀es:List DictEntry,(putL x a b v es).length<=es.length+1
 |[]=>bt _
 |e::r=>by
  unfold putL
  cases e.key.isStr x
  .exact Nat.succ_le_succ (Kv x a b v r)
  .exact gp _
theorem Kg(X:K.In s.heap)(aA:pP K d0)(aP:InstAt s.heap x (instObj f6 d) f6 (some (dictOf es n)))(aG:(lookIn "times" (dictOf es n)).isSome=true)(hz:es.length<=1)
 (h:∀h',h'.get? d=some (dictOf (putL "times" (PyData.keyHash w.params "times") (.str "times" s.toks) v es) (putN "times" es n))->Heap.SameBut d s.heap h'->R (.ok (.ret .none)) {s with heap:=h',toks:=s.toks+1}):
 codeAny (model prog w) A (.call (.builtin "object.__setattr__") ⟨[.ref x,.str "times" cf,v],[]⟩) R s:=by
 refine osa_open X aP aA.hp aA.ht λb=>?_
 obtain⟨oQ,aw,ey⟩:=any_some aA.hh
 have D:s.heap.get? d=some (dictOf es n):=aP.dict
 have av:s.heap.get? x=some (instObj f6 d):=aP.at_
 refine aM (bx (aM (aM (wpAny_loadPart av (aM ((looks_clsIn X aw).here ?_))))))
 rw[ey]
 refine bx (a:=some d) (aM (bx (aM ?_)))
 unfold nsSet
 refine aM (aM (wpAny_askSetting (bx (aM (wpAny_mkText (aM (wpAny_loadPart D ?_)))))))
 dsimp only
 have c:(!es.toArray.any (·.key.isStr "times")&&es.toArray.any (·.refKey))=false:=by
  unfold lookIn at aG
  dsimp only at aG
  rw[<-Array.any_toList,<-Array.any_toList]
  split at aG
  .rename_i en b1
   rw[List.any_eq_true.mpr ⟨en,List.mem_of_find?_eq_some b1,List.find?_some b1⟩];rfl
  .split at aG
   .cases aG
   .rename_i z;rw[Bool.not_eq_true] at z;rw[z,Bool.and_false]
 rw[aRefKeyMayBeTheName_at,c]
 refine wpAny_updatePart D ?_
 have Et:(s.heap.update d (Obj.putName "times" (PyData.keyHash w.params "times") (.str "times" s.toks) v)).get? d=some (dictOf (putL "times" (PyData.keyHash w.params "times") (.str "times" s.toks) v es) (putN "times" es n)):=by
  rw[<-putName_dict]
  exact Heap.get?_update_self _ D (by rw[putName_dict];rfl)
 refine aM (wpAny_lookBehind Et (pastItsLine_dict (es:=(putL "times" (PyData.keyHash w.params "times") (.str "times" s.toks) v es).toArray) (cm (Kv _ _ _ _ es) (Nat.succ_le_succ (cm hz (by rw[sizeLine_eq];decide))))) ?_)
 exact bx (h _ Et (Heap.SameBut.update ..))
theorem bG.Dj{U:Loc}(R:bG prog w h₁ own env ns W U σ h)(aw:σ.cells c=some x)(hp:W.role p=.gX c)(hs:Heap.SameBut p h h')(BC:∃o,h'.get? p=some o)(bF:CellAt prog w W σ.next h' c (W.al c) y):
 bG prog w h₁ own env ns W U (σ.aT c y) h':=
 R.next (R.bI.Dj aw hp hs BC bF) az.le.refl (bt _) λa ha=>hs.2 a (by rintro rfl;exact bQ.no hp ha)
noncomputable def uW(nA gf:c4):ct:=λU σ=>(nA U σ).bind λv=>(gf U v.2).bind λo=>match v.1,o.1 with
 |.cD es,.ref c=>match o.2.cells c with
  |some (.inst _)=>some (.next,U,o.2.aT c (.inst (some (.cD es))))
  |_=>none
 |_,_=>none
noncomputable def De(U:Loc)(v o:J)(σ:St):Option (fT×Loc×St):=match v,o with
 |.cD es,.ref c=>match σ.cells c with
  |some (.inst _)=>some (.next,U,σ.aT c (.inst (some (.cD es))))
  |_=>none
 |_,_=>none
theorem inst_inv{x:Option df}(h:aJ (match x with|some (.inst _)=>m|_=>none) aA):∃t,x=some (.inst t)/\aJ m aA:=by
 rcases x with _|(_|_|_|t|_)
 all_goals first|exact False.elim h|exact⟨t,rfl,h⟩
theorem aaD{U:Loc}(h:aJ (De U v o σ) aA):∃es c t,v=.cD es/\o=.ref c/\σ.cells c=some (.inst t)/\aJ (some (fT.next,U,σ.aT c (.inst (some (.cD es))))) aA:=
 J.casesOn (motive_1:=λv=>aJ (De U v o σ) aA->∃es c t,v=.cD es/\o=.ref c/\σ.cells c=some (.inst t)/\aJ (some (fT.next,U,σ.aT c (.inst (some (.cD es))))) aA) v (λh=>False.elim h) (λ_ h=>False.elim h) (λ_ h=>False.elim h) (λ_ h=>False.elim h) (λ_ h=>False.elim h) (λ_ h=>False.elim h) (λ_ h=>False.elim h) (λes=>J.casesOn (motive_1:=λo=>aJ (De U (.cD es) o σ) aA->∃eZ c t,J.cD es=.cD eZ/\o=.ref c/\σ.cells c=some (.inst t)/\aJ (some (fT.next,U,σ.aT c (.inst (some (.cD eZ))))) aA) o (λh=>False.elim h) (λ_ h=>False.elim h) (λ_ h=>False.elim h) (λ_ h=>False.elim h) (λ_ h=>False.elim h) (λ_ h=>False.elim h) (λ_ h=>False.elim h) (λ_ h=>False.elim h) (λ_ _ _ h=>False.elim h) (λc h=>(inst_inv h).elim λt h=>⟨es,c,t,rfl,rfl,h⟩) (λ_ h=>False.elim h)) (λ_ _ _ h=>False.elim h) (λ_ h=>False.elim h) (λ_ h=>False.elim h) h
theorem abe(h:yS prog w W m es t):(lookIn "times" (dictOf es n)).isSome=true/\es.length<=1/\(es=[]\/∃hh cf ay,es=[⟨hh,.str "times" cf,ay⟩]):=by
 rcases t with _|v
 .rw[show es=[] from h];exact⟨rfl,Nat.zero_le _,.inl rfl⟩
 .obtain⟨hh,cf,ay,e,_⟩:=h
  rw[e];exact⟨rfl,bt _,.inr ⟨_,_,_,rfl⟩⟩
theorem abf(h:yS prog w W m es t)(fx:aN prog w W m v ay):∃(hh:Int) (cP:Tok) (Ly:Value),putL "times" a (.str "times" cf) ay es=[⟨hh,.str "times" cP,Ly⟩]/\aN prog w W m v Ly:=by
 rcases t with _|u
 .rw[show es=[] from h];exact⟨_,_,_,rfl,fx⟩
 .obtain⟨hh,cf,ay,e,_⟩:=h
  rw[e];exact⟨_,_,_,rfl,fx⟩
theorem ZS(B:bP K h₁)(aA:pP K d0)(h:bk prog w h₁ true env ns k (eval e env) nA)(aH:bk prog w h₁ true env ns k (eval o env) gf)
 (hs:autoParam (swapsWith e (some (.Attribute o "times" jh)) pos.line env=pure false) aL._auto_1):SOk prog w h₁ env ns k (exec (.Assign [.Attribute o "times" jh] e pos) env) (uW nA gf):=by
 refine .of λA W U σ s Q E aE ao R=>ab5 (h.go aE ao.bind R λet cA ao bu dH h1 cL bE ae bA bc=>aH.go aE (aJ.bind ao) bA λgY bH ao bL du h2 tk2 ba aK cx bN=>e0 λG bZ=>?_) hs
 obtain⟨es,c,t,gd,d4,aw,ao⟩:=aaD (v:=et) (o:=gY) ao
 rw[show et=_ from gd] at bc
 rw[show gY=_ from d4] at bN
 obtain⟨d,dY,n,g,mK,HA,aP,a3⟩:=inst_at cx.bI aw
 have fx:=bc.a5 ba.1 aK
 obtain⟨_,gr⟩:=bN.bf
 have H2:=abe (n:=n) a3
 have UK:bL.al c≠d:=λq=>bQ.no (cx.bI.cell c _ aw).1 ((congrArg _ q).trans mK)
 refine bZ ?_
 rw[gr]
 refine .of (set_plain (s:={s with heap:=h2,toks:=tk2}) (B.tx cx.bI) aP aA.hsa (Kg (s:={s with heap:=h2,toks:=tk2+1}) (B.tx cx.bI) aA aP H2.1 H2.2.1 λaR g3 m6=>?_))
 exact gq.to ao bL _ aR _ (bE.trans ae ba) (cm ae aK) (cx.Dj (y:=.inst (some (.cD es))) aw mK m6 ⟨_,g3⟩ (.inst (d:=d) ((m6.2 _ UK).trans g) mK g3 (abf a3 fx))) trivial
end
section
variable{prog:Program}{w:World}{h₁:Heap}{K:Frag}{own:Bool}{env:Env}{ns:List Str}{k:Nat}{d0:Addr}
theorem acn
 (h:wpN M A (spliced []) (λvs aY=>Q ⟨vs,[]⟩ aY) E s):wpN M A (evalArgs f true [] []) Q E s:=by
 exactλc6 p fb aw=>(LL (show Q ⟨[],[]⟩ s from h c6 p fb aw)) c6 p fb aw
noncomputable def k3(F:b3)(gf:c4)(eH:l7):c4:=λU σ=>(gf U σ).bind λr=>match r.1 with
 |.ref c=>match r.2.cells c with
  |some (.inst _)=>(eH U r.2).bind λq=>F (.ref c::q.1) q.2
  |_=>none
 |_=>none
theorem ab'
 (nY:attributeBase o name env (eval o env)=eval o env)
 (qr:((backTo pos (starEach args env)).all (λx=> !x.1)&&(backToKw pos (keywordEach [] env)).all (λx=>x.1.isSome)
   &&decide (args.length+([]:List Keyword).length+(if([]:List Keyword).isEmpty then 0 else 1)<30))=true)
 (n3:(jN.endLine==pos.line)=true)(BL:backTo pos (starEach args env)=Ds)
 (h:wpN (model prog w) A (eval o env) (λjg bj=>(∀(P:Value×List Value->Shared->Prop) (px:Sem Bool),P (.ref fa,[jg]) bj->wpAny (model prog w) A (getMethod jg name px) P E bj)/\
   wpN (model prog w) A (callWith pos (.ref fa) [jg] Ds []) Q E bj) E s):
 wpN (model prog w) A (eval (.Call (.Attribute o name jN) args [] pos) env) Q E s:=by
 subst BL
 rw[arm_eval_Call,nY]
 refine a6 (cF h (λjg bj h₁=>?_) λ_ _ e=>e)
 obtain⟨hm,aw⟩:=h₁
 refine a6 (ed ?_)
 have Bp:methodCallForm (args.length+([]:List Keyword).length) (backTo pos (starEach args env)) (backToKw pos (keywordEach [] env))=true:=qr
 have BD:methodCallPos true o env jN pos=pure pos:=by unfold methodCallPos;simp[n3]
 unfold methodCall
 rw[Bp]
 refine a6 (d8 (.of (hm _ _ ?_)))
 dsimp only
 rw[BD]
 exact a6 (cz aw)
theorem tI(B:bP K h₁)(aA:pP K d0)
 (Sb:findIn K (.ref f6) name=some (some (.ref fa)))(Sf:typeIn K (.ref fa)=some (.type "function"))(my:h₁.get? fa=some of)(Bm:of.data=.func fd)
 (aH:bk prog w h₁ own env ns k (eval o env) gf)(ha:l8 prog w h₁ own env ns k (spliced (backTo pos (starEach args env))) eH)(g':OpOk prog w h₁ k (λvs=>call (.ref fa) vs) F)
 (SH:autoParam (∀n,shadowIn (some (dictOf [] n)) name=some false) eh._auto_1)
 (jU:autoParam (∀hh cf ay n,shadowIn (some (dictOf [⟨hh,.str "times" cf,ay⟩] n)) name=some false) ac5._auto_1)
 (nY:autoParam (attributeBase o name env (eval o env)=eval o env) aL._auto_1)
 (qr:autoParam (((backTo pos (starEach args env)).all (λx=> !x.1)&&(backToKw pos (keywordEach [] env)).all (λx=>x.1.isSome)
   &&decide (args.length+([]:List Keyword).length+(if([]:List Keyword).isEmpty then 0 else 1)<30))=true) aL._auto_1)
 (n3:autoParam ((jN.endLine==pos.line)=true) aL._auto_1)(qv:autoParam ((backTo pos (starEach args env)).any (·.1)=false) aL._auto_1)
 (Bl:∀(A:Around) (s:Shared) (Q:Args->Shared->Prop) (E:Value->Shared->Prop),wpN (model prog w) A (spliced (backTo pos (starEach args env))) (λvs aY=>Q ⟨vs,[]⟩ aY) E s->wpN (model prog w) A (evalArgs (.ref fa) true (backTo pos (starEach args env)) []) Q E s:=by
   first|exactλ_ _ _ _ h=>LM h|exactλ_ _ _ _ h=>acn h):
 bk prog w h₁ own env ns k (eval (.Call (.Attribute o name jN) args [] pos) env) (k3 F gf eH):=by
 intro A W U σ v a0 s Q E aE ao R aQ
 obtain⟨⟨et,cA⟩,a9,ao⟩:=bind_some ao
 dsimp only at ao
 obtain⟨c,t,gd,aw,w7⟩:∃c t,et=.ref c/\cA.cells c=some (.inst t)/\((eH U cA).bind λq=>F (.ref c::q.1) q.2)=some (v,a0):=by
  split at ao
  .split at ao
   .exact⟨_,_,rfl,by assumption,ao⟩
   .exact aq ao
  .exact aq ao
 subst gd
 obtain⟨⟨vs,bH⟩,a7,ao⟩:=bind_some w7
 refine ab' (fa:=fa) nY qr n3 rfl ?_
 refine aH A W U σ _ cA s _ E aE a9 R λbu dH h1 cL bE ae bA bc=>?_
 obtain⟨d,dY,n,g,mK,HA,aP,a3⟩:=inst_at bA.bI aw
 have Y8:=bc
 cases bc
 refine⟨λP px cN=>method_fn (s:={s with heap:=h1,toks:=cL}) (B.tx bA.bI) aP aA.hga aA.hk Sb Sf ?_ cN,?_⟩
 .induction t with
  |none=>obtain rfl:dY=[]:=a3;exact SH n
  |some v=>obtain⟨hh,cf,ay,e,_⟩:=a3;subst e;exact jU hh cf ay n
 refine LK (o:=of) (fd:=fd) qv (Bl _ _ _ _ ?_)
 refine ha A bu U cA vs bH _ _ E aE a7 bA λbL bK h2 tk2 ba aK cx bN=>⟨⟨cx.bI.old _ _ my,Bm⟩,?_⟩
 exact cx.op (s:={s with heap:=h2,toks:=tk2}) g' aE ao (.cons (Y8.a5 ba.1 aK) bN) λb4 ay aR cU cY bC dj dF=>
  aQ b4 ay aR cU ((bE.trans ae ba).trans (cm ae aK) cY) (cm ae (cm aK bC)) dj dF
end
section
noncomputable abbrev E0(q:Program)(loose:List Str)(XP:(Str->Option Value)->Heap->Prop)(YP:World->Heap->Prop)(r:RowW)(d:DefRec)(xy:List (Str×Expr)):Prop:=
 ∀(w:World) (oz bj:Shared) (kl og:Str->Option Value),Ground q loose r.records XP w oz kl og bj.heap->YP w bj.heap->∀(a:Addr) (o:Obj) (ot oQ doc tE um:Value),bj.heap.get? a=some o->
  o.data=.func {docDef d.name d.params d.body d.scope ot oQ doc with defaults:=tE,kwdefaults:=um}->bj.heap.CodeRec oQ d.name->Dflts kl bj.heap d.params xy tE um->kl d.name=some (.ref a)->bj.gens= #[]->
  ∀(args:List WData) (pF:List Value) (as:List Addr),r.claim.pre args=true->WData.layableAll args=true->ReadsAllW r.records (classAt oz.heap) bj.heap pF args as->WellAll w.params bj.heap pF args->(∀a∈as,(a==sysModules)=false)->
   wpN (model r.prog w) callerA (PySem.call (.ref a) pF) (λv aY=>GoodWG r.claim (classAt oz.heap) (ExcName.means oz.heap) args bj (.ok (.ret v)) aY)
    (λe aY=>GoodWG r.claim (classAt oz.heap) (ExcName.means oz.heap) args bj (.error e) aY) bj
noncomputable abbrev wj:Ctx:=⟨.builtin "claim.caller" {},none,none,[],none⟩
theorem Oy:vj wj:=⟨by decide+kernel,λ_ h=>nomatch h⟩
theorem abd{R:Result->Shared->Prop}(SU:s.asleep)
 (h:wpN (model prog w) callerA t (λcH aY=>∃f,cH=.done f/\(R (.ok f) aY/\AllBare aY.gens)) (λe aY=>R (.error e) aY/\AllBare aY.gens) s):
 ∃n r aY ow,runN (denote table) prog w n s ⟨t,.builtin "claim.caller" {},default,[]⟩=.halted (outcomeOf r) aY/\
  schedN (denote table) prog w n (.single s ⟨t,.builtin "claim.caller" {},default,[]⟩)=.halted (outcomeOf r) aY/\aY.forget=ow.forget/\R r ow:=by
 have hw:Sem.wp (model prog w) wj t (Sem.finPost (model prog w) wj λr aY=>R r aY/\leftWithCleanup aY.gens=false) (λe _ aY=>R (.error e) aY/\leftWithCleanup aY.gens=false) default s:=by
  refine Sem.wp_mono _ _ _ (λcH jA aY h'=>?_) (λ_ _ _ h'=>⟨h'.1,leftWithCleanup_false_of_bare h'.2⟩) _ s (h wj default caller_in Oy)
  obtain⟨f,rfl,g1,g2⟩:=h'
  exact⟨g1,leftWithCleanup_false_of_bare g2⟩
 obtain⟨n,r,bj,cZ,hs,aW,Bo,gI⟩:=wp_halts_full (M:=model prog w) (R:=R) SU hw
 exact⟨n,r,cZ,bj,aW,hs,Bo,gI⟩
theorem Oq{c:ClaimW}{tree:List Value->Sem Fin}{free:Addr->Prop}(hz:s.asleep)(rN:s.gens= #[])
 (S2:∀args,c.pre args=true->WData.layableAll args=true->∀ord:List DictEntry->List DictEntry,(∀l,(ord l).Perm l)->
   ∃vs bj,layAllW c.records (classAt s.heap) w.params ord args s=some (vs,bj)/\
    wpN (model c.prog w) callerA (tree vs) (λcH aY=>∃f,cH=.done f/\(c.Ends s args vs bj (.ok f) aY/\aY.os=s.os/\AllBare aY.gens/\m9 aY.heap))
     (λe aY=>c.Ends s args vs bj (.error e) aY/\aY.os=s.os/\AllBare aY.gens/\m9 aY.heap) bj):
 c.CallFrom (λvs=>⟨tree vs,.builtin "claim.caller" {},default,[]⟩) w free gens m9 s:=by
 intro args kZ rP ord xi
 refine e0 λG bZ=>?_
 obtain⟨vs,bj,pb,R5⟩:=S2 args kZ rP ord xi
 have kb:=layAllW_rest _ _ _ pb
 obtain⟨k,r,aY,ow,SW,S0,Bo,Bf,pf,xd⟩:=abd (prog:=c.prog) (w:=w) (t:=tree vs) (s:=bj) (R:=λr aY=>c.Ends s args vs bj r aY/\aY.os=s.os/\m9 aY.heap)
  (Shared.asleep_of_life kb.2.2.2 hz) (cF R5 (λ_ _ q=>by obtain⟨f,e,a,b,g,k⟩:=q;exact⟨f,e,⟨a,b,k⟩,g⟩) λ_ _ q=>⟨⟨q.1,q.2.1,q.2.2.2⟩,q.2.2.1⟩)
 obtain⟨Gm,_,_,hR,_⟩:=Shared.forget_eq Bo
 have Bf:=ClaimW.Ends.congr Gm Bf
 rw[<-Gm] at xd
 rw[<-hR] at pf
 have Sq:aY.heap.life=s.heap.life:=(runN_life _ _ _ SW).trans kb.2.2.2
 refine bZ ⟨vs,bj,pb,k,_,aY,S0,?_,(λ_ i x av=>by rw[rN] at av;simp at av),xd,by rw[Sq],Shared.rest_eq pf⟩
 rcases Bf with⟨v,rfl,iv,gh,z4,z5,z6⟩|⟨e,ob,cls,rfl,iv,gh,z4,z5,z6⟩
 .exact .inl ⟨v,rfl,iv,gh,z4,λb o y _=>z5 b o y,z6⟩
 .exact .inr ⟨e,ob,cls,rfl,iv,gh,z4,z5,λb o y _=>z6 b o y⟩
end
namespace ET
theorem PySem.W.holds_open{r:OpenRow}{q:Program}{α:Type}{Yf:Shared->α}{Ya:World->α}{N:Nat}
 (left:LeftO r.prog q loose Xt Yf Ya N)(R1:∀w s,Yf s=Ya w->YP w s.heap)(R2:∀w h h',YP w h->(∀b o,h.get? b=some o->h'.get? b=some o)->YP w h')
 (HH:∀s,Xt s=true->XP (s.heap.nsMap mainGlobals) s.heap)(R0:∀kl h h',XP kl h->(∀b o,h.get? b=some o->h'.get? b=some o)->XP kl h')
 (Bi:defOf q r.name=some (d,xy))(hp:r.prog.theDef r.name=some (d.params,d.body,d.scope))(hk:kwWritten? d.params.kwonlyargs d.params.kw_defaults=some xy)(RU:∀s,Xt s=true->RecFacts r.records s.heap)(S':(!r.writes||r.records.isEmpty)=true)
 (dd:r.wellSaid=true)(ok:(chainsOk q&&opensWell r.prog&&(frees r.toRowW&&r.within.isEmpty))=true)(ag:r.prog.bare)(hw:r.toRowW.promised)
 (call:E0 q loose XP YP r.toRowW d xy):r.Holds:=by
 obtain⟨xa,BZ⟩:=l4.mp ok
 obtain⟨xa,qR⟩:=l4.mp xa
 obtain⟨BZ,mC⟩:=l4.mp BZ
 obtain⟨SY,bM,ha,lG,hm⟩:=frees_parts BZ
 refine⟨dd,hw,⟨ag,qR,by show r.toRowW.makers.map _=[];rw[hm];rfl⟩,hw.witness,λw=>⟨(left.behind HH xa w).1,λaY iR=>?_⟩⟩
 refine e0 λadb N2=>?_
 obtain⟨oz,hf,Sg,s,hT,hz,rN,aU,kI,y⟩:=(left.behind (XP:=λkl h=>XP kl h/\RecFacts r.records h) (λs hs=>⟨HH s hs,RU s hs⟩) xa w).2 aY iR
 have EO:Ground q loose [] XP w s (s.heap.nsMap mainGlobals) (s.heap.nsMap builtinsNs) s.heap:=⟨kI.T,kI.B,kI.D,kI.TE,kI.TD,kI.W,kI.X.1,kI.cls,kI.has,kI.apart,kI.once,kI.K⟩
 have ts:=kI.X.2
 refine N2 ⟨oz,hf,Sg,s,hT,λn aW=>?_,ts.1,ts.2.1,?_⟩
 .obtain rfl:n=r.name:=by split at aW<;>simp_all
  exact pinned_of_view aU EO Bi hp hk
 have rN:s.gens= #[]:=Array.eq_empty_of_size_eq_zero (beq_iff_eq.mp rN)
 have G:Ground q loose r.records XP w s _ _ s.heap:=ts.ground EO
 refine Oq hz rN λargs kZ rP ord xi=>e0 λadc N3=>?_
 obtain⟨⟨vs,bj⟩,pb⟩:=Option.isSome_iff_exists.mp (layAllW_isSome (P:=w.params) (ord:=ord) G.has args r.args s (pre_splitW kZ).1)
 have keeps:=layAllW_keeps _ _ _ pb
 have kb:=layAllW_rest _ _ _ pb
 obtain⟨as,BF,Sj,fG⟩:=reads_layAllW xi _ _ _ pb rP bj.heap (λ_ _ e=>e)
 have aV:Laid r.records w s bj args vs as:=⟨⟨ord,xi,pb⟩,BF,Sj,fG,keeps,kb.1.trans rN,kb.2.2.1⟩
 have yL:=G.keeps R0 keeps
 obtain⟨a,o,ot,oQ,doc,tE,um,a9,a7,e3,eX,mi⟩:=yL.fn Bi
 have h:=call w s bj _ _ yL (R2 _ _ _ (R1 w s y) keeps) a o ot oQ doc tE um a7 e3 eX mi (defOf_name Bi▸a9) aV.gens args vs as kZ rP aV.reads aV.well (aV.low G.low)
 have hi:=ident_freeW bM ha lG
 have S8:r.toRowW.claim.within=[]:=List.isEmpty_iff.mp mC
 have cH:∀res aY,GoodWG r.toRowW.claim (classAt s.heap) (ExcName.means s.heap) args bj res aY->r.toRowW.claim.Ends s args vs bj res aY/\aY.os=s.os/\AllBare aY.gens/\(r.writes=true->namesKept r.toRowW.claim.prog r.keeps s.heap aY.heap/\∀x∈r.toRowW.claim.records,∀a,classAt s.heap x.1=some a->recordClass aY.heap a x.1 (x.2.map (·.1))=true):=λres aY g=>
  have z:=g.laid (c:=r.toRowW.claim) SY S8 hi aV
  ⟨z.1,z.2.1,z.2.2,λq=>⟨namesKept_of hT aU _ keeps g.2.1.old,noTable S' q⟩⟩
 refine N3 ⟨vs,bj,pb,a6 (.of (wpAny_nsGet yL.T.g ?_))⟩
 rw[show s.heap.nsMap mainGlobals r.name=some (.ref a) from a9]
 refine a6 (cF h (λv aY g=>?_) λe aY g=>cH _ _ g)
 exact cz ⟨_,rfl,cH _ _ g⟩
end ET
@[reducible] def pick{α:Type}{x y:α}(_:x=y):α:=y
noncomputable def b7(i:Nat):Option Stmt:=(Challenge.pw_nz0352_01.main.body.drop i).head?
noncomputable def iT(i ai:Nat):Option Stmt:=match b7 i with
 |some (.ClassDef _ _ _ b ..)=>(b.drop ai).head?
 |_=>none
noncomputable def eC:Option Stmt->List Stmt
 |some (.FunctionDef _ _ b ..)=>b
 |_=>[]
noncomputable def eB:Option Stmt->Arguments
 |some (.FunctionDef _ a ..)=>a
 |_=>⟨[],[],none,[],[],none,[]⟩
noncomputable def eD:Option Stmt->Scope
 |some (.FunctionDef _ _ _ _ _ _ c ..)=>c
 |_=>default
noncomputable def bX(P:Params)(x:PySem.Str)(t:Tok)(v:Value):DictEntry:=⟨PyData.keyHash P x,.str x t,v⟩
noncomputable abbrev eA(n q:PySem.Str)(a:Arguments)(b:List Stmt)(c:Scope)(m:PySem.Str)(t:Tok)(k:Addr):FuncData:=
 {name:=n,qualname:=q,params:=a,body:=.stmts b,scope:=c,globals:=3,closure:=[],defaults:=.none,kwdefaults:=.none,pyModule:=.str m t,code:=.ref k}
noncomputable abbrev eE(f:FuncData):Obj:={cls:=.type "function",data:=.func f}
noncomputable abbrev eO(l:List Value):Obj:={cls:=.type "tuple",data:=.seq l.toArray}
noncomputable def dO(n q:PySem.Str)(t:Tok)(line args QJ:Int)(a:Addr)(x:Int)(b:Addr)(et gY:Value)(c:Addr)(u:Int)(eV:Tok):Obj:=
 {cls:=.type "code",data:=.fields #[.str n t,.str q (t+1),.str "/claim/cut.py" (t+2),.int line 0,.int args 0,.int 0 0,.int 0 0,.int QJ 0,.ref a,.bool true,.int x 0,.ref b,.none,et,gY,.ref c,.int u 0,.int line 0,.str "/claim/cut.py" eV]}
noncomputable abbrev zG:List Stmt:=pick (x:=eC (b7 5)) (by conv=>lhs;whnf)
noncomputable abbrev Na:Arguments:=pick (x:=eB (b7 5)) (by conv=>lhs;whnf)
noncomputable abbrev aac:Scope:=pick (x:=eD (b7 5)) (by conv=>lhs;whnf)
noncomputable abbrev wI:FuncData:=eA "way_of" "way_of" Na zG aac "quic.resend" 187 24
noncomputable abbrev AP:Obj:=eE wI
noncomputable abbrev zO:List Stmt:=pick (x:=eC (b7 6)) (by conv=>lhs;whnf)
noncomputable abbrev Nl:Arguments:=pick (x:=eB (b7 6)) (by conv=>lhs;whnf)
noncomputable abbrev aam:Scope:=pick (x:=eD (b7 6)) (by conv=>lhs;whnf)
noncomputable abbrev wL:FuncData:=eA "subject_of" "subject_of" Nl zO aam "quic.resend" 187 31
noncomputable abbrev AS:Obj:=eE wL
noncomputable abbrev zP:List Stmt:=pick (x:=eC (b7 7)) (by conv=>lhs;whnf)
noncomputable abbrev Nm:Arguments:=pick (x:=eB (b7 7)) (by conv=>lhs;whnf)
noncomputable abbrev aan:Scope:=pick (x:=eD (b7 7)) (by conv=>lhs;whnf)
noncomputable abbrev wM:FuncData:=eA "newest" "newest" Nm zP aan "quic.resend" 187 36
noncomputable abbrev AU:Obj:=eE wM
noncomputable abbrev zQ:List Stmt:=pick (x:=eC (b7 8)) (by conv=>lhs;whnf)
noncomputable abbrev Nn:Arguments:=pick (x:=eB (b7 8)) (by conv=>lhs;whnf)
noncomputable abbrev aao:Scope:=pick (x:=eD (b7 8)) (by conv=>lhs;whnf)
noncomputable abbrev wN:FuncData:=eA "told_again" "told_again" Nn zQ aao "quic.resend" 187 43
noncomputable abbrev AV:Obj:=eE wN
noncomputable abbrev zR:List Stmt:=pick (x:=eC (b7 9)) (by conv=>lhs;whnf)
noncomputable abbrev Np:Arguments:=pick (x:=eB (b7 9)) (by conv=>lhs;whnf)
noncomputable abbrev aap:Scope:=pick (x:=eD (b7 9)) (by conv=>lhs;whnf)
noncomputable abbrev wO:FuncData:=eA "held_data" "held_data" Np zR aap "quic.resend" 187 48
noncomputable abbrev AW:Obj:=eE wO
noncomputable abbrev zS:List Stmt:=pick (x:=eC (b7 41)) (by conv=>lhs;whnf)
noncomputable abbrev Nq:Arguments:=pick (x:=eB (b7 41)) (by conv=>lhs;whnf)
noncomputable abbrev aaq:Scope:=pick (x:=eD (b7 41)) (by conv=>lhs;whnf)
noncomputable abbrev wQ:FuncData:=eA "put_whole" "put_whole" Nq zS aaq "quic.varint" 337 76
noncomputable abbrev AX:Obj:=eE wQ
noncomputable abbrev zT:List Stmt:=pick (x:=eC (b7 42)) (by conv=>lhs;whnf)
noncomputable abbrev Nr:Arguments:=pick (x:=eB (b7 42)) (by conv=>lhs;whnf)
noncomputable abbrev aar:Scope:=pick (x:=eD (b7 42)) (by conv=>lhs;whnf)
noncomputable abbrev wR:FuncData:=eA "varint_size" "varint_size" Nr zT aar "quic.varint" 337 83
noncomputable abbrev AY:Obj:=eE wR
noncomputable abbrev zU:List Stmt:=pick (x:=eC (b7 43)) (by conv=>lhs;whnf)
noncomputable abbrev Nt:Arguments:=pick (x:=eB (b7 43)) (by conv=>lhs;whnf)
noncomputable abbrev aas:Scope:=pick (x:=eD (b7 43)) (by conv=>lhs;whnf)
noncomputable abbrev wU:FuncData:=eA "put_varint" "put_varint" Nt zU aas "quic.varint" 337 90
noncomputable abbrev AZ:Obj:=eE wU
noncomputable abbrev zV:List Stmt:=pick (x:=eC (b7 46)) (by conv=>lhs;whnf)
noncomputable abbrev Nu:Arguments:=pick (x:=eB (b7 46)) (by conv=>lhs;whnf)
noncomputable abbrev aat:Scope:=pick (x:=eD (b7 46)) (by conv=>lhs;whnf)
noncomputable abbrev AN:FuncData:=eA "put_numbers" "put_numbers" Nu zV aat "quic.framesout" 371 96
noncomputable abbrev Hc:Obj:=eE AN
noncomputable abbrev zo:List Stmt:=pick (x:=eC (b7 47)) (by conv=>lhs;whnf)
noncomputable abbrev MS:Arguments:=pick (x:=eB (b7 47)) (by conv=>lhs;whnf)
noncomputable abbrev ZV:Scope:=pick (x:=eD (b7 47)) (by conv=>lhs;whnf)
noncomputable abbrev An:FuncData:=eA "put_counted" "put_counted" MS zo ZV "quic.framesout" 371 103
noncomputable abbrev GN:Obj:=eE An
noncomputable abbrev zp:List Stmt:=pick (x:=eC (b7 50)) (by conv=>lhs;whnf)
noncomputable abbrev MT:Arguments:=pick (x:=eB (b7 50)) (by conv=>lhs;whnf)
noncomputable abbrev ZW:Scope:=pick (x:=eD (b7 50)) (by conv=>lhs;whnf)
noncomputable abbrev Ao:FuncData:=eA "put_stream" "put_stream" MT zp ZW "quic.framesout" 371 124
noncomputable abbrev GO:Obj:=eE Ao
noncomputable abbrev zq:List Stmt:=pick (x:=eC (b7 51)) (by conv=>lhs;whnf)
noncomputable abbrev MU:Arguments:=pick (x:=eB (b7 51)) (by conv=>lhs;whnf)
noncomputable abbrev ZX:Scope:=pick (x:=eD (b7 51)) (by conv=>lhs;whnf)
noncomputable abbrev Ap:FuncData:=eA "put_new_cid" "put_new_cid" MU zq ZX "quic.framesout" 371 131
noncomputable abbrev GP:Obj:=eE Ap
noncomputable abbrev zr:List Stmt:=pick (x:=eC (b7 53)) (by conv=>lhs;whnf)
noncomputable abbrev MV:Arguments:=pick (x:=eB (b7 53)) (by conv=>lhs;whnf)
noncomputable abbrev ZY:Scope:=pick (x:=eD (b7 53)) (by conv=>lhs;whnf)
noncomputable abbrev Aq:FuncData:=eA "put_octets_frame" "put_octets_frame" MV zr ZY "quic.framesout" 371 145
noncomputable abbrev GQ:Obj:=eE Aq
noncomputable abbrev zt:List Stmt:=pick (x:=eC (b7 54)) (by conv=>lhs;whnf)
noncomputable abbrev MW:Arguments:=pick (x:=eB (b7 54)) (by conv=>lhs;whnf)
noncomputable abbrev ZZ:Scope:=pick (x:=eD (b7 54)) (by conv=>lhs;whnf)
noncomputable abbrev Ar:FuncData:=eA "put_frame" "put_frame" MW zt ZZ "quic.framesout" 371 152
noncomputable abbrev GR:Obj:=eE Ar
noncomputable abbrev zu:List Stmt:=pick (x:=eC (b7 55)) (by conv=>lhs;whnf)
noncomputable abbrev MX:Arguments:=pick (x:=eB (b7 55)) (by conv=>lhs;whnf)
noncomputable abbrev Z0:Scope:=pick (x:=eD (b7 55)) (by conv=>lhs;whnf)
noncomputable abbrev As:FuncData:=eA "frame_size" "frame_size" MX zu Z0 "quic.framesout" 371 159
noncomputable abbrev GS:Obj:=eE As
noncomputable abbrev zv:List Stmt:=pick (x:=eC (b7 58)) (by conv=>lhs;whnf)
noncomputable abbrev MY:Arguments:=pick (x:=eB (b7 58)) (by conv=>lhs;whnf)
noncomputable abbrev Z1:Scope:=pick (x:=eD (b7 58)) (by conv=>lhs;whnf)
noncomputable abbrev Au:FuncData:=eA "data_of" "data_of" MY zv Z1 "quic.packing" 494 167
noncomputable abbrev GU:Obj:=eE Au
noncomputable abbrev zw:List Stmt:=pick (x:=eC (b7 59)) (by conv=>lhs;whnf)
noncomputable abbrev MZ:Arguments:=pick (x:=eB (b7 59)) (by conv=>lhs;whnf)
noncomputable abbrev Z2:Scope:=pick (x:=eD (b7 59)) (by conv=>lhs;whnf)
noncomputable abbrev Av:FuncData:=eA "with_data" "with_data" MZ zw Z2 "quic.packing" 494 174
noncomputable abbrev GV:Obj:=eE Av
noncomputable abbrev zx:List Stmt:=pick (x:=eC (b7 60)) (by conv=>lhs;whnf)
noncomputable abbrev M0:Arguments:=pick (x:=eB (b7 60)) (by conv=>lhs;whnf)
noncomputable abbrev Z3:Scope:=pick (x:=eD (b7 60)) (by conv=>lhs;whnf)
noncomputable abbrev Aw:FuncData:=eA "data_room" "data_room" M0 zx Z3 "quic.packing" 494 181
noncomputable abbrev GW:Obj:=eE Aw
noncomputable abbrev zy:List Stmt:=pick (x:=eC (b7 61)) (by conv=>lhs;whnf)
noncomputable abbrev M1:Arguments:=pick (x:=eB (b7 61)) (by conv=>lhs;whnf)
noncomputable abbrev Z4:Scope:=pick (x:=eD (b7 61)) (by conv=>lhs;whnf)
noncomputable abbrev Ax:FuncData:=eA "cut_frame" "cut_frame" M1 zy Z4 "quic.packing" 494 188
noncomputable abbrev GX:Obj:=eE Ax
noncomputable abbrev zz:List Stmt:=pick (x:=eC (b7 62)) (by conv=>lhs;whnf)
noncomputable abbrev M3:Arguments:=pick (x:=eB (b7 62)) (by conv=>lhs;whnf)
noncomputable abbrev Z5:Scope:=pick (x:=eD (b7 62)) (by conv=>lhs;whnf)
noncomputable abbrev Ay:FuncData:=eA "filled" "filled" M3 zz Z5 "quic.packing" 494 195
noncomputable abbrev GY:Obj:=eE Ay
noncomputable abbrev zA:List Stmt:=pick (x:=eC (b7 63)) (by conv=>lhs;whnf)
noncomputable abbrev M4:Arguments:=pick (x:=eB (b7 63)) (by conv=>lhs;whnf)
noncomputable abbrev Z6:Scope:=pick (x:=eD (b7 63)) (by conv=>lhs;whnf)
noncomputable abbrev Az:FuncData:=eA "in_rooms" "in_rooms" M4 zA Z6 "quic.packing" 494 202
noncomputable abbrev GZ:Obj:=eE Az
noncomputable abbrev zB:List Stmt:=pick (x:=eC (b7 66)) (by conv=>lhs;whnf)
noncomputable abbrev M5:Arguments:=pick (x:=eB (b7 66)) (by conv=>lhs;whnf)
noncomputable abbrev Z7:Scope:=pick (x:=eD (b7 66)) (by conv=>lhs;whnf)
noncomputable abbrev AA:FuncData:=eA "kind_place" "kind_place" M5 zB Z7 "quic.timers" 562 210
noncomputable abbrev G0:Obj:=eE AA
noncomputable abbrev zC:List Stmt:=pick (x:=eC (b7 67)) (by conv=>lhs;whnf)
noncomputable abbrev M6:Arguments:=pick (x:=eB (b7 67)) (by conv=>lhs;whnf)
noncomputable abbrev Z8:Scope:=pick (x:=eD (b7 67)) (by conv=>lhs;whnf)
noncomputable abbrev AB:FuncData:=eA "next_due" "next_due" M6 zC Z8 "quic.timers" 562 217
noncomputable abbrev G1:Obj:=eE AB
noncomputable abbrev zD:List Stmt:=pick (x:=eC (b7 68)) (by conv=>lhs;whnf)
noncomputable abbrev M7:Arguments:=pick (x:=eB (b7 68)) (by conv=>lhs;whnf)
noncomputable abbrev Z9:Scope:=pick (x:=eD (b7 68)) (by conv=>lhs;whnf)
noncomputable abbrev AD:FuncData:=eA "all_due" "all_due" M7 zD Z9 "quic.timers" 562 222
noncomputable abbrev G2:Obj:=eE AD
noncomputable abbrev zE:List Stmt:=pick (x:=eC (b7 69)) (by conv=>lhs;whnf)
noncomputable abbrev M8:Arguments:=pick (x:=eB (b7 69)) (by conv=>lhs;whnf)
noncomputable abbrev Z':Scope:=pick (x:=eD (b7 69)) (by conv=>lhs;whnf)
noncomputable abbrev AE:FuncData:=eA "with_alarm" "with_alarm" M8 zE Z' "quic.timers" 562 227
noncomputable abbrev G3:Obj:=eE AE
noncomputable abbrev zF:List Stmt:=pick (x:=eC (iT 70 1)) (by conv=>lhs;whnf)
noncomputable abbrev M':Arguments:=pick (x:=eB (iT 70 1)) (by conv=>lhs;whnf)
noncomputable abbrev aab:Scope:=pick (x:=eD (iT 70 1)) (by conv=>lhs;whnf)
noncomputable abbrev AF:FuncData:=eA "put" "Alarms.put" M' zF aab "quic.timers" 562 248
noncomputable abbrev G5:Obj:=eE AF
noncomputable abbrev zH:List Stmt:=pick (x:=eC (iT 70 2)) (by conv=>lhs;whnf)
noncomputable abbrev Nb:Arguments:=pick (x:=eB (iT 70 2)) (by conv=>lhs;whnf)
noncomputable abbrev aad:Scope:=pick (x:=eD (iT 70 2)) (by conv=>lhs;whnf)
noncomputable abbrev AG:FuncData:=eA "time_of" "Alarms.time_of" Nb zH aad "quic.timers" 562 255
noncomputable abbrev G6:Obj:=eE AG
noncomputable abbrev zI:List Stmt:=pick (x:=eC (iT 70 3)) (by conv=>lhs;whnf)
noncomputable abbrev Nc:Arguments:=pick (x:=eB (iT 70 3)) (by conv=>lhs;whnf)
noncomputable abbrev aae:Scope:=pick (x:=eD (iT 70 3)) (by conv=>lhs;whnf)
noncomputable abbrev AH:FuncData:=eA "first" "Alarms.first" Nc zI aae "quic.timers" 562 262
noncomputable abbrev G7:Obj:=eE AH
noncomputable abbrev zJ:List Stmt:=pick (x:=eC (iT 70 4)) (by conv=>lhs;whnf)
noncomputable abbrev Nd:Arguments:=pick (x:=eB (iT 70 4)) (by conv=>lhs;whnf)
noncomputable abbrev aaf:Scope:=pick (x:=eD (iT 70 4)) (by conv=>lhs;whnf)
noncomputable abbrev AI:FuncData:=eA "take_due" "Alarms.take_due" Nd zJ aaf "quic.timers" 562 269
noncomputable abbrev G8:Obj:=eE AI
noncomputable abbrev zK:List Stmt:=pick (x:=eC (b7 72)) (by conv=>lhs;whnf)
noncomputable abbrev Nf:Arguments:=pick (x:=eB (b7 72)) (by conv=>lhs;whnf)
noncomputable abbrev aag:Scope:=pick (x:=eD (b7 72)) (by conv=>lhs;whnf)
noncomputable abbrev AJ:FuncData:=eA "_law_draw" "_law_draw" Nf zK aag "law_nz0352_01" 663 283
noncomputable abbrev G9:Obj:=eE AJ
noncomputable abbrev wd:List Stmt:=pick (x:=eC (b7 73)) (by conv=>lhs;whnf)
noncomputable abbrev Ng:Arguments:=pick (x:=eB (b7 73)) (by conv=>lhs;whnf)
noncomputable abbrev aah:Scope:=pick (x:=eD (b7 73)) (by conv=>lhs;whnf)
noncomputable abbrev wJ:FuncData:=eA "_law_frames" "_law_frames" Ng wd aah "law_nz0352_01" 663 288
noncomputable abbrev AQ:Obj:=eE wJ
noncomputable abbrev zL:List Stmt:=pick (x:=eC (b7 74)) (by conv=>lhs;whnf)
noncomputable abbrev Nh:Arguments:=pick (x:=eB (b7 74)) (by conv=>lhs;whnf)
noncomputable abbrev aai:Scope:=pick (x:=eD (b7 74)) (by conv=>lhs;whnf)
noncomputable abbrev AK:FuncData:=eA "_law_comes" "_law_comes" Nh zL aai "law_nz0352_01" 663 295
noncomputable abbrev G':Obj:=eE AK
noncomputable abbrev zM:List Stmt:=pick (x:=eC (b7 75)) (by conv=>lhs;whnf)
noncomputable abbrev Ni:Arguments:=pick (x:=eB (b7 75)) (by conv=>lhs;whnf)
noncomputable abbrev aaj:Scope:=pick (x:=eD (b7 75)) (by conv=>lhs;whnf)
noncomputable abbrev AL:FuncData:=eA "_law_places" "_law_places" Ni zM aaj "law_nz0352_01" 663 302
noncomputable abbrev Ha:Obj:=eE AL
noncomputable abbrev zN:List Stmt:=pick (x:=eC (b7 76)) (by conv=>lhs;whnf)
noncomputable abbrev Nj:Arguments:=pick (x:=eB (b7 76)) (by conv=>lhs;whnf)
noncomputable abbrev aak:Scope:=pick (x:=eD (b7 76)) (by conv=>lhs;whnf)
noncomputable abbrev AM:FuncData:=eA "_law_goes" "_law_goes" Nj zN aak "law_nz0352_01" 663 307
noncomputable abbrev Hb:Obj:=eE AM
noncomputable abbrev wg:List Stmt:=pick (x:=eC (b7 77)) (by conv=>lhs;whnf)
noncomputable abbrev Nk:Arguments:=pick (x:=eB (b7 77)) (by conv=>lhs;whnf)
noncomputable abbrev aal:Scope:=pick (x:=eD (b7 77)) (by conv=>lhs;whnf)
noncomputable abbrev wK:FuncData:=eA "law" "law" Nk wg aal "law_nz0352_01" 663 312
noncomputable abbrev AR:Obj:=eE wK
noncomputable abbrev N7:List Stmt:=pick (x:=eC (iT 70 0)) (by conv=>lhs;whnf)
noncomputable abbrev M9:Arguments:=pick (x:=eB (iT 70 0)) (by conv=>lhs;whnf)
noncomputable abbrev aaa:Scope:=pick (x:=eD (iT 70 0)) (by conv=>lhs;whnf)
noncomputable abbrev GG:FuncData:=eA "__init__" "Alarms.__init__" M9 N7 aaa "quic.timers" 562 241
noncomputable abbrev G4:Obj:=eE GG
noncomputable abbrev CD:Obj:=eO [.str "new_connection_id" 189,.str "retire_connection_id" 190,.str "new_token" 191,.str "handshake_done" 192,.str "stop_sending" 193,.str "reset_stream" 194]
noncomputable abbrev CE:Obj:=eO [.str "crypto" 196,.str "stream" 197]
noncomputable abbrev CF:Obj:=eO [.str "max_data" 199,.str "max_stream_data" 200,.str "max_streams" 201]
noncomputable abbrev CG:Obj:=eO [.str "data_blocked" 203,.str "stream_data_blocked" 204,.str "streams_blocked" 205]
noncomputable abbrev CH:Obj:=eO [.int 1 339,.int 2 340,.int 4 341,.int 8 342]
noncomputable abbrev JI:Obj:=eO [.str "crypto" 496,.str "stream" 497]
noncomputable abbrev JJ:Obj:=eO [.str "closed" 564,.str "idle" 565,.str "loss" 566,.str "probe" 567,.str "ack" 568,.str "path" 569]
noncomputable abbrev Ve:Obj:=eO [.str "times" 654]
noncomputable def Cu:List (PySem.Str×Tok×Int×Tok):=[("ping",373,1,285),("reset_stream",374,4,291),("stop_sending",375,5,293),("max_data",376,16,301),("max_stream_data",377,17,303),("data_blocked",378,20,309),("stream_data_blocked",379,21,311),("retire_connection_id",380,25,319),("handshake_done",381,30,329)]
noncomputable def UR(P:Params):List DictEntry:=Cu.map λe=>⟨PyData.keyHash P e.1,.str e.1 e.2.1,.int e.2.2.1 e.2.2.2⟩
noncomputable abbrev Cv(P:Params):Obj:={cls:=.type "dict",data:=.dict (UR P).toArray 9}
noncomputable def Jb(P:Params):Obj:=⟨.type "dict",none,.dict #[bX P "__name__" 165 (.str "law_nz0352_01" 663),bX P "__doc__" 166 (.none),bX P "__package__" 167 (.none),bX P "__loader__" 168 (.builtin "__main__.__loader__#opaque"),bX P "__spec__" 169 (.none),bX P "__annotations__" 170 (.ref 6),bX P "__builtins__" 171 (.ref 4),bX P "__file__" 173 (.str "/claim/cut.py" 172),bX P "__cached__" 174 (.none),bX P "ANEW" 195 (.ref 15),bX P "BY_HOLDER" 198 (.ref 16),bX P "LATEST" 202 (.ref 17),bX P "WHILE_BLOCKED" 206 (.ref 18),bX P "way_of" 213 (.ref 25),bX P "subject_of" 221 (.ref 32),bX P "newest" 227 (.ref 37),bX P "told_again" 241 (.ref 44),bX P "held_data" 247 (.ref 49),bX P "INTERNAL_ERROR" 251 (.int 1 250),bX P "QuicError" 284 (.ref 66),bX P "PING" 286 (.int 1 285),bX P "ACK" 288 (.int 2 287),bX P "ACK_ECN" 290 (.int 3 289),bX P "RESET_STREAM" 292 (.int 4 291),bX P "STOP_SENDING" 294 (.int 5 293),bX P "CRYPTO" 296 (.int 6 295),bX P "NEW_TOKEN" 298 (.int 7 297),bX P "STREAM" 300 (.int 8 299),bX P "MAX_DATA" 302 (.int 16 301),bX P "MAX_STREAM_DATA" 304 (.int 17 303),bX P "MAX_STREAMS_BIDI" 306 (.int 18 305),bX P "MAX_STREAMS_UNI" 308 (.int 19 307),bX P "DATA_BLOCKED" 310 (.int 20 309),bX P "STREAM_DATA_BLOCKED" 312 (.int 21 311),bX P "STREAMS_BLOCKED_BIDI" 314 (.int 22 313),bX P "STREAMS_BLOCKED_UNI" 316 (.int 23 315),bX P "NEW_CONNECTION_ID" 318 (.int 24 317),bX P "RETIRE_CONNECTION_ID" 320 (.int 25 319),bX P "PATH_CHALLENGE" 322 (.int 26 321),bX P "PATH_RESPONSE" 324 (.int 27 323),bX P "CLOSE" 326 (.int 28 325),bX P "CLOSE_APPLICATION" 328 (.int 29 327),bX P "HANDSHAKE_DONE" 330 (.int 30 329),bX P "BIT_FIN" 332 (.int 1 331),bX P "BIT_LENGTH" 334 (.int 2 333),bX P "BIT_OFFSET" 336 (.int 4 335),bX P "VARINT_SIZES" 343 (.ref 70),bX P "put_whole" 353 (.ref 77),bX P "varint_size" 361 (.ref 84),bX P "put_varint" 370 (.ref 91),bX P "NUMBER_FRAMES" 391 (.ref 92),bX P "put_numbers" 397 (.ref 97),bX P "put_counted" 404 (.ref 104),bX P "ack_numbers" 417 (.ref 111),bX P "put_ack" 431 (.ref 118),bX P "put_stream" 446 (.ref 125),bX P "put_new_cid" 458 (.ref 132),bX P "put_close" 469 (.ref 139),bX P "put_octets_frame" 477 (.ref 146),bX P "put_frame" 486 (.ref 153),bX P "frame_size" 493 (.ref 160),bX P "DATA_KINDS" 498 (.ref 161),bX P "data_of" 505 (.ref 168),bX P "with_data" 515 (.ref 175),bX P "data_room" 525 (.ref 182),bX P "cut_frame" 536 (.ref 189),bX P "filled" 549 (.ref 196),bX P "in_rooms" 561 (.ref 203),bX P "KINDS" 570 (.ref 204),bX P "kind_place" 577 (.ref 211),bX P "next_due" 587 (.ref 218),bX P "all_due" 593 (.ref 223),bX P "with_alarm" 599 (.ref 228),bX P "Alarms" 662 (.ref 273),bX P "_law_draw" 674 (.ref 284),bX P "_law_frames" 680 (.ref 289),bX P "_law_comes" 694 (.ref 296),bX P "_law_places" 709 (.ref 303),bX P "_law_goes" 715 (.ref 308),bX P "law" 721 (.ref 313)] 80, #[]⟩
noncomputable def MN(P:Params):Obj:=⟨.type "dict",none,.dict #[bX P "__module__" 607 (.str "quic.timers" 562),bX P "__firstlineno__" 611 (.int 234 610),bX P "__init__" 618 (.ref 242),bX P "put" 627 (.ref 249),bX P "time_of" 635 (.ref 256),bX P "first" 643 (.ref 263),bX P "take_due" 653 (.ref 270),bX P "__static_attributes__" 655 (.ref 271),bX P "__dict__" 657 (.ref 274),bX P "__weakref__" 659 (.ref 275),bX P "__doc__" 660 (.none)] 4, #[]⟩
noncomputable def MO:Obj:={cls:=.type "type",data:=.cls {name:="Alarms",bases:=[.type "object"],mro:=[.ref 273,.type "object"],ns:=272,qualname:="Alarms"},slots:= #[none,none,some (.str "Alarms" 600),some (.str "Alarms" 608),some (.builtin "object.__new__"),some (.bool true)]}
noncomputable def KK(P:Params):PySem.W.Frag:=[(3,Jb P),(15,CD),(16,CE),(17,CF),(18,CG),(24,dO "way_of" "way_of" 207 6 1 3 19 181 20 (.ref 21) (.ref 22) 23 211 212),(25,AP),(31,dO "subject_of" "subject_of" 214 14 1 3 26 181 27 (.ref 28) (.ref 29) 30 219 220),(32,AS),(36,dO "newest" "newest" 222 25 1 3 33 181 34 (.none) (.none) 35 225 226),(37,AU),(43,dO "told_again" "told_again" 228 30 4 3 38 181 39 (.ref 40) (.ref 41) 42 239 240),(44,AV),(48,dO "held_data" "held_data" 242 43 1 3 45 181 46 (.none) (.none) 47 245 246),(49,AW),(70,CH),(76,dO "put_whole" "put_whole" 344 82 2 3 71 181 72 (.ref 73) (.ref 74) 75 351 352),(77,AX),(83,dO "varint_size" "varint_size" 354 90 1 3 78 181 79 (.ref 80) (.ref 81) 82 359 360),(84,AY),(90,dO "put_varint" "put_varint" 362 95 2 3 85 181 86 (.ref 87) (.ref 88) 89 368 369),(91,AZ),(92,Cv P),(96,dO "put_numbers" "put_numbers" 392 104 1 3 93 181 94 (.none) (.none) 95 395 396),(97,Hc),(103,dO "put_counted" "put_counted" 398 106 1 3 98 181 99 (.ref 100) (.ref 101) 102 402 403),(104,GN),(124,dO "put_stream" "put_stream" 432 120 2 3 119 181 120 (.ref 121) (.ref 122) 123 444 445),(125,GO),(131,dO "put_new_cid" "put_new_cid" 447 125 1 3 126 181 127 (.ref 128) (.ref 129) 130 456 457),(132,GP),(145,dO "put_octets_frame" "put_octets_frame" 470 133 1 3 140 181 141 (.ref 142) (.ref 143) 144 475 476),(146,GQ),(152,dO "put_frame" "put_frame" 478 146 1 3 147 181 148 (.ref 149) (.ref 150) 151 484 485),(153,GR),(159,dO "frame_size" "frame_size" 487 164 1 3 154 181 155 (.ref 156) (.ref 157) 158 491 492),(160,GS),(161,JI),(167,dO "data_of" "data_of" 499 168 1 3 162 181 163 (.ref 164) (.ref 165) 166 503 504),(168,GU),(174,dO "with_data" "with_data" 506 170 4 3 169 181 170 (.ref 171) (.ref 172) 173 513 514),(175,GV),(181,dO "data_room" "data_room" 516 174 2 3 176 181 177 (.ref 178) (.ref 179) 180 523 524),(182,GW),(188,dO "cut_frame" "cut_frame" 526 182 2 3 183 181 184 (.ref 185) (.ref 186) 187 534 535),(189,GX),(195,dO "filled" "filled" 537 192 2 3 190 181 191 (.ref 192) (.ref 193) 194 547 548),(196,GY),(202,dO "in_rooms" "in_rooms" 550 202 2 3 197 181 198 (.ref 199) (.ref 200) 201 559 560),(203,GZ),(204,JJ),(210,dO "kind_place" "kind_place" 571 213 1 3 205 181 206 (.ref 207) (.ref 208) 209 575 576),(211,G0),(217,dO "next_due" "next_due" 578 215 1 3 212 181 213 (.ref 214) (.ref 215) 216 585 586),(218,G1),(222,dO "all_due" "all_due" 588 222 2 3 219 181 220 (.none) (.none) 221 591 592),(223,G2),(227,dO "with_alarm" "with_alarm" 594 229 3 3 224 181 225 (.none) (.none) 226 597 598),(228,G3),(241,dO "__init__" "Alarms.__init__" 612 236 1 3 236 181 237 (.ref 238) (.ref 239) 240 616 617),(242,G4),(248,dO "put" "Alarms.put" 619 239 3 3 243 181 244 (.ref 245) (.ref 246) 247 625 626),(249,G5),(255,dO "time_of" "Alarms.time_of" 628 242 2 3 250 181 251 (.ref 252) (.ref 253) 254 633 634),(256,G6),(262,dO "first" "Alarms.first" 636 245 1 3 257 181 258 (.ref 259) (.ref 260) 261 641 642),(263,G7),(269,dO "take_due" "Alarms.take_due" 644 249 2 3 264 181 265 (.ref 266) (.ref 267) 268 651 652),(270,G8),(271,Ve),(272,MN P),(273,MO),(283,dO "_law_draw" "_law_draw" 665 255 2 3 278 181 279 (.ref 280) (.ref 281) 282 672 673),(284,G9),(288,dO "_law_frames" "_law_frames" 675 261 1 3 285 181 286 (.none) (.none) 287 678 679),(289,AQ),(295,dO "_law_comes" "_law_comes" 681 270 2 3 290 181 291 (.ref 292) (.ref 293) 294 692 693),(296,G'),(302,dO "_law_places" "_law_places" 695 280 2 3 297 181 298 (.ref 299) (.ref 300) 301 707 708),(303,Ha),(307,dO "_law_goes" "_law_goes" 710 290 5 3 304 181 305 (.none) (.none) 306 713 714),(308,Hb),(312,dO "law" "law" 716 305 1 3 309 181 310 (.none) (.none) 311 719 720),(313,AR)]
noncomputable def TP:List Addr:=[3,15,16,17,18,24,25,31,32,36,37,43,44,48,49,70,76,77,83,84,90,91,92,96,97,103,104,124,125,131,132,145,146,152,153,159,160,161,167,168,174,175,181,182,188,189,195,196,202,203,204,210,211,217,218,222,223,227,228,241,242,248,249,255,256,262,263,269,270,271,272,273,283,284,288,289,295,296,302,303,307,308,312,313]
noncomputable def sd:List PySem.Str:=List.map PySem.Str.ofString ["ANEW","BY_HOLDER","LATEST","WHILE_BLOCKED","way_of","subject_of","newest","told_again","held_data","INTERNAL_ERROR","QuicError","PING","ACK","ACK_ECN","RESET_STREAM","STOP_SENDING","CRYPTO","NEW_TOKEN","STREAM","MAX_DATA","MAX_STREAM_DATA","MAX_STREAMS_BIDI","MAX_STREAMS_UNI","DATA_BLOCKED","STREAM_DATA_BLOCKED","STREAMS_BLOCKED_BIDI","STREAMS_BLOCKED_UNI","NEW_CONNECTION_ID","RETIRE_CONNECTION_ID","PATH_CHALLENGE","PATH_RESPONSE","CLOSE","CLOSE_APPLICATION","HANDSHAKE_DONE","BIT_FIN","BIT_LENGTH","BIT_OFFSET","VARINT_SIZES","put_whole","varint_size","put_varint","NUMBER_FRAMES","put_numbers","put_counted","ack_numbers","put_ack","put_stream","put_new_cid","put_close","put_octets_frame","put_frame","frame_size","DATA_KINDS","data_of","with_data","data_room","cut_frame","filled","in_rooms","KINDS","kind_place","next_due","all_due","with_alarm","Alarms","_law_draw","_law_frames","_law_comes","_law_places","_law_goes"]
noncomputable abbrev CZ:Program:=Challenge.pw_nz0352_01
noncomputable def kp:Program:={CZ with main:={CZ.main with body:=CZ.main.body.drop 77}}
noncomputable abbrev hk:Hook:=kHook KK TP (λ_=>by kernel_rfl)
noncomputable def oX:DefRec:=((defOf kp "law").get (by kernel_rfl)).1
noncomputable abbrev j2:OpenRow:=Challenge.rw_nz0352_01.row
noncomputable abbrev hy:OpenLaw:=Challenge.rw_nz0352_01
noncomputable abbrev yi:List Stmt:=hy.prog.main.body
theorem sJ{a b:Bool}(h:a=true)(k:b=true):(a&&b)=true:=l4.mpr ⟨h,k⟩
theorem abC:namesResolve hy.prog=true:=by kernel_rfl
theorem abD:(hy.prog.boundNames.all (λn=> !worldNames.contains n))=true:=by kernel_rfl
theorem abE:noRoadLSs {strict:= !(importedModules yi).all cThrough.contains,foot:=none,bare:=(["vars","dir","locals"]:List Str).filter (readsOut hy.prog yi)} yi=true:=by kernel_rfl
theorem abF:namesMeet hy.prog yi (λ_ n=>attrL n)=true:=by kernel_rfl
theorem abG:looksOpen hy.prog=true:=sJ (sJ (sJ (sJ (by kernel_rfl) abC) abD) abE) abF
theorem abH:OpenRow.partSaid hy.row=true:=by
 unfold OpenRow.partSaid
 rw[show looksOpen hy.row.prog=true from abG]
 kernel_rfl
theorem abI:OpenRow.wellSaid hy.row=true:=sJ (sJ abH (by kernel_rfl)) (by kernel_rfl)
theorem abJ:noRoadLSs {strict:=true,foot:=some hy.bound',writes:=hy.writes,may:=hy.may} hy.footing=true:=by kernel_rfl
theorem abK:namesMeet hy.prog hy.above (λ_ n=> !hy.own.contains n)=true:=by kernel_rfl
theorem ZU:Challenge.rw_nz0352_01.wellSaid=true:=by
 unfold OpenLaw.wellSaid
 rw[show OpenRow.wellSaid Challenge.rw_nz0352_01.row=true from abI,show noRoadLSs {strict:=true,foot:=some hy.bound',writes:=hy.writes,may:=hy.may} hy.footing=true from abJ,show namesMeet hy.prog hy.above (λ_ n=> !hy.own.contains n)=true from abK]
 kernel_rfl
noncomputable def yd(s:Shared):=(openSeen kp sd (importedModules j2.prog.main.body) (λs=>xlAt kp [] s&&recOk (RowW.records j2.toRowW) s) true s,Hook.obs hk s)
noncomputable def Dq(l:List Obj):BT->Nat->Option BT:=l.rec (λt _=>some t) λo _ r t n=>bif ((t.ins n o).get n).isSome then r (t.ins n o) (n+1) else none
theorem abw{life:Life}{dQ:BT}(l:List Obj):∀{t:BT} {n:Nat},Dq l t n=some dQ->absHeap dQ (n+l.length) life=⟨(absHeap t n life).objs++l.toArray,life⟩:=by
 induction l with
 |nil=>intro t n h;cases(show some t=some dQ from h);exact congrArg (Heap.mk · life) (Array.append_empty).symm
 |cons o l aZ=>
  intro t n h
  have h:(bif ((t.ins n o).get n).isSome then Dq l (t.ins n o) (n+1) else none)=some dQ:=h
  cases e:((t.ins n o).get n).isSome with
  |false=>rw[e] at h;exact aq h
  |true=>
   rw[e] at h
   have:=aZ h
   rw[absHeap_ins e,show n+1+l.length=n+(o::l).length by rw[fJ,Nat.add_assoc,Nat.add_comm 1]] at this
   rw[this]
   exact congrArg (Heap.mk · life) (by show(absHeap t n life).objs.push o++l.toArray=_;simp)
noncomputable def Lk(s:Shared):Option SharedT:=(Dq s.heap.objs.toList .nil 0).map λt=>⟨t,s.heap.objs.size,s.heap.life,s.gens,s.drawn,s.toks,s.os⟩
theorem abn{s:Shared}{st:SharedT}(h:Lk s=some st):st.abs=s:=by
 obtain⟨t,q,rfl⟩:=fS.mp h
 have e:=abw (life:=s.heap.life) _ q
 obtain⟨⟨objs,life⟩,gens,drawn,toks,os⟩:=s
 show Shared.mk (absHeap t objs.size life) gens drawn toks os=_
 have e:absHeap t (0+objs.toList.length) life=⟨(absHeap .nil 0 life).objs++objs.toList.toArray,life⟩:=e
 rw[Nat.zero_add,show objs.toList.length=objs.size from rfl] at e
 rw[e]
 exact congrArg (λa=>Shared.mk (Heap.mk a life) gens drawn toks os) (by show#[]++_=_;simp)
noncomputable abbrev iE(c:Value)(l:List Value):Obj:={cls:=c,data:=.fields l.toArray}
noncomputable abbrev oC(f:FuncData):Obj:={cls:=.none,data:=.func {name:=f.name,qualname:=f.qualname,params:=f.params,body:=f.body,scope:=f.scope,globals:=0,closure:=[],defaults:=.none,kwdefaults:=.none}}
noncomputable abbrev GH:FuncData:=eA "__init__" "QuicError.__init__" (eB (iT 12 0)) (eC (iT 12 0)) (eD (iT 12 0)) "quic.errors" 248 62
noncomputable abbrev abr(o:Obj):List DictEntry:=match o.data with
 |.dict es _=>es.toList
 |_=>[]
noncomputable def Ll(n:Nat)(P:Params):Obj:=⟨.type "dict",none,.dict (bX P "__name__" 165 (.str "quic.framesout" 371)::((abr (Jb P)).take n).tail).toArray n, #[]⟩
noncomputable abbrev abx(P:Params):Obj:=Ll 50 P
noncomputable def oB(P:Params):List Obj:=[boot_o_0 P,boot_o_1 P,boot_o_2 P,boot_o_3 P,boot_o_4 P,boot_o_5 P,boot_o_6 P,boot_o_7 P,boot_o_8 P,boot_o_9 P,boot_o_10 P]
noncomputable def sL(P:Params):List Obj:=oB P++[eO [],iE .none [],iE (.type "code") [.str "<module>" 182,.str "<module>" 183,.str "/claim/cut.py" 184,.int 1 0,.int 0 0,.int 0 0,.int 0 0,.int 0 0,.ref 11,.bool false,.int 181 0,.ref 12,.none,.none,.none,.none,.int 185 0,.int 1 0,.str "/claim/cut.py" 186],{cls:=.type "frame",slots:= #[some (.ref 13),some (.ref 3),some (.ref 3),none,some (.str "__main__" 164),none,some (.ref 0)]}]
noncomputable def Dr(P:Params):List Obj:=[boot_o_0 P,boot_o_1 P,⟨.none,none,.dict #[bX P "type.__subclasses__.Exception.0" 281 (.int 66 0),bX P "type.__subclasses__.Exception.n" 282 (.int 1 0)] 2, #[]⟩,abx P,boot_o_4 P,boot_o_5 P,boot_o_6 P,boot_o_7 P,boot_o_8 P,boot_o_9 P,boot_o_10 P,eO [],iE .none [.int 6 0,.int 0 0,.ref 24,.int 14 0,.int 0 0,.ref 31,.int 25 0,.int 0 0,.ref 36,.int 30 0,.int 0 0,.ref 43,.int 43 0,.int 0 0,.ref 48,.int 47 0,.int 0 0,.ref 55,.int 82 0,.int 0 0,.ref 76,.int 90 0,.int 0 0,.ref 83,.int 95 0,.int 0 0,.ref 90],iE (.type "code") [.str "<module>" 182,.str "<module>" 183,.str "/claim/cut.py" 184,.int 1 0,.int 0 0,.int 0 0,.int 0 0,.int 0 0,.ref 11,.bool false,.int 181 0,.ref 12,.none,.none,.none,.none,.int 185 0,.int 1 0,.str "/claim/cut.py" 186],{cls:=.type "frame",slots:= #[some (.ref 13),some (.ref 3),some (.ref 3),none,some (.str "__main__" 164),none,some (.ref 0)]},CD,CE,CF,CG,eO [],iE .none [],eO [.str "kind" 210],eO [],oC wI,dO "way_of" "way_of" 207 6 1 3 19 181 20 (.ref 21) (.ref 22) 23 211 212,AP,eO [],iE .none [],eO [.str "frame" 217,.str "kind" 218],eO [],oC wL,dO "subject_of" "subject_of" 214 14 1 3 26 181 27 (.ref 28) (.ref 29) 30 219 220,AS,eO [],iE .none [],oC wM,dO "newest" "newest" 222 25 1 3 33 181 34 (.none) (.none) 35 225 226,AU,eO [],iE .none [],eO [.str "lost" 231,.str "limits" 232,.str "blocked" 233,.str "done" 234,.str "found" 235,.str "frame" 236,.str "way" 237,.str "subject" 238],eO [],oC wN,dO "told_again" "told_again" 228 30 4 3 38 181 39 (.ref 40) (.ref 41) 42 239 240,AV,eO [],iE .none [],oC wO,dO "held_data" "held_data" 242 43 1 3 45 181 46 (.none) (.none) 47 245 246,AW,eO [.type "Exception"],iE (.type "builtin_function_or_method") [.builtin "type.__prepare__",.type "type"],⟨.type "dict",none,.dict #[bX P "__module__" 259 (.str "quic.errors" 248),bX P "__qualname__" 261 (.str "QuicError" 260),bX P "__firstlineno__" 263 (.int 47 262),bX P "__init__" 273 (.ref 63),bX P "__static_attributes__" 277 (.ref 64)] 5, #[]⟩,eO [],iE .none [.int 49 0,.int 4 0,.ref 62],iE (.type "code") [.str "QuicError" 254,.str "QuicError" 255,.str "/claim/cut.py" 256,.int 47 0,.int 0 0,.int 0 0,.int 0 0,.int 0 0,.ref 53,.bool false,.int 181 0,.ref 54,.none,.none,.none,.none,.int 257 0,.int 47 0,.str "/claim/cut.py" 258],{cls:=.type "frame",slots:= #[some (.ref 55),some (.ref 3),some (.ref 52),none,some (.str "quic.errors" 248),none,some (.ref 0)]},eO [],iE .none [],eO [.str "self" 267,.str "code" 268,.str "frame_type" 269,.str "text" 270],eO [],oC GH,dO "__init__" "QuicError.__init__" 264 49 4 3 57 181 58 (.ref 59) (.ref 60) 61 271 272,eE GH,eO [.str "code" 274,.str "frame_type" 275,.str "text" 276],⟨.type "dict",none,.dict #[bX P "__module__" 259 (.str "quic.errors" 248),bX P "__firstlineno__" 263 (.int 47 262),bX P "__init__" 273 (.ref 63),bX P "__static_attributes__" 277 (.ref 64),bX P "__weakref__" 279 (.ref 67),bX P "__doc__" 280 (.none)] 3, #[]⟩,{cls:=.type "type",data:=.cls {name:="QuicError",bases:=[.type "Exception"],mro:=[.ref 66,.type "Exception",.type "BaseException",.type "object"],ns:=65,qualname:="QuicError"},slots:= #[some (.ref 50),none,some (.str "QuicError" 252),some (.str "QuicError" 260),some (.builtin "Exception.__new__"),some (.bool true)]},iE (.type "getset_descriptor") [.str "__weakref__" 278,.ref 66,.builtin "ExceptionGroup.__weakref__",.none],iE (.type "super") [.ref 66,.ref 66,.ref 66],iE (.type "builtin_function_or_method") [.builtin "object.__init_subclass__",.ref 66],CH,eO [],iE .none [],eO [.str "n" 347,.str "size" 348,.str "found" 349,.str "place" 350],eO [],oC wQ,dO "put_whole" "put_whole" 344 82 2 3 71 181 72 (.ref 73) (.ref 74) 75 351 352,AX,eO [],iE .none [],eO [.str "n" 357,.str "size" 358],eO [],oC wR,dO "varint_size" "varint_size" 354 90 1 3 78 181 79 (.ref 80) (.ref 81) 82 359 360,AY,eO [],iE .none [],eO [.str "n" 365,.str "size" 366,.str "least" 367],eO [],oC wU,dO "put_varint" "put_varint" 362 95 2 3 85 181 86 (.ref 87) (.ref 88) 89 368 369,AZ]
noncomputable def u6(P:Params):List Obj:=(Dr P).set 3 (Ll 51 P)++[Cv P]
noncomputable abbrev gm:Program:=j2.prog
noncomputable abbrev kv:List Stmt:=behindTheImports gm
noncomputable abbrev q4:Env:={scope:=gm.main.scope,locals:=mainNs,globals:=mainNs,cells:=[],code:=.ref 13,frame:=some 14}
noncomputable abbrev i1:Code:=.body kv q4
noncomputable abbrev yj(l:List Stmt)(q:Pos):Thread:=piecesOf l q4 i1 q [topFrame default]
noncomputable abbrev h3(l:List Obj)(n:Nat)(os:OsState):Shared:=⟨⟨⟨l⟩,{}⟩, #[],boot_drawn,n,os⟩
noncomputable abbrev u7(w:World)(n:Nat)(s:Shared)(l:List Stmt)(q:Pos):=(Lk s).bind λst=>segRunT treeTable gm w 11 (some (.ref 6)) 1 n st (yj l q)
theorem Ln{w:World}{n:Nat}{s:Shared}{l:List Stmt}{q dx:Pos}{α:Type}{k:Shared->α}{a:α}(h:(u7 w n s l q).map (λr=>(r.1,r.2.2,k r.2.1.abs))=some (.next,(i1,dx),a)):∃aY,segRun treeTable gm w 11 (some (.ref 6)) 1 n s (yj l q)=some (.next,aY,i1,dx)/\k aY=a:=by
 obtain⟨⟨f,u0,c,x⟩,g,e⟩:=fS.mp h
 obtain⟨st,cq,g⟩:=Option.bind_eq_some_iff.mp g
 obtain⟨a9,e⟩:=Prod.mk.inj e
 obtain⟨a7,e3⟩:=Prod.mk.inj e
 obtain⟨eX,mi⟩:=Prod.mk.inj a7
 subst a9;subst eX;subst mi
 have:=segRun_of g
 rw[abn cq] at this
 exact⟨_,this,e3⟩
theorem Lm{w:World}{n:Nat}{s aY:Shared}{l:List Stmt}{q dx:Pos}(h:(u7 w n s l q).map (λr=>(r.1,r.2.2,r.2.1.abs))=some (.next,(i1,dx),aY)):segRun treeTable gm w 11 (some (.ref 6)) 1 n s (yj l q)=some (.next,aY,i1,dx):=by
 obtain⟨_,h,e⟩:=Ln (k:=id) h
 exact e▸h
theorem abk(w:World)(os:OsState):topGo treeTable gm w 11 (some (.ref 6)) 12 (h3 (oB w.params) 181 os) (topStub gm)=some (h3 (sL w.params) 187 os,⟨denote treeTable i1,i1,default,[topFrame default]⟩):=by kernel_rfl
theorem abl(w:World)(os:OsState):segRun treeTable gm w 11 (some (.ref 6)) 1 1 (h3 (sL w.params) 187 os) (blockOf kv q4 i1 default [topFrame default])=some (.next,h3 (sL w.params) 187 os,i1,default):=by kernel_rfl
theorem abo(w:World)(os:OsState):(u7 w 820 (h3 (sL w.params) 187 os) (kv.take 45) default).map (λr=>(r.1,r.2.2,r.2.1.abs))=some (.next,(i1,⟨102,0,102,8⟩),h3 (Dr w.params) 373 os):=by kernel_rfl
noncomputable abbrev abj(w:World):Prop:=∀os:OsState,(u7 w 155 (h3 (Dr w.params) 373 os) ((kv.drop 45).take 1) ⟨102,0,102,8⟩).map (λr=>(r.1,r.2.2,r.2.1.abs))=some (.next,(i1,⟨103,0,103,13⟩),h3 (u6 w.params) 392 os)
theorem abp:∀w:World,abj w:=byRow2 "special-get-raises" (λw os=>by kernel_rfl) (λw os=>by kernel_rfl)
noncomputable abbrev sM(w:World)(s:Shared):Bool:=staticsOk (importedModules gm.main.body) (boot_heap w.params) s.heap&&namesBound gm s.heap&&gensDone s&&laidKept (boot_heap w.params) s.heap
theorem abq(w:World)(os:OsState):(u7 w 1219 (h3 (u6 w.params) 392 os) (kv.drop 46) ⟨103,0,103,13⟩).map (λr=>(r.1,r.2.2,(sM w r.2.1.abs,yd r.2.1.abs)))=some (.next,(i1,⟨305,0,348,107⟩),(true,openGood kp sd,Hook.val hk w)):=by kernel_rfl
theorem abu(w:World)(q:Pos)(s:Shared):topRun treeTable gm w 11 (some (.ref 6)) 2 s ⟨doneF .next,i1,q,[topFrame default]⟩=some s:=by rfl
theorem abz{w:World}{os:OsState}{s:Shared}(r:segRun treeTable gm w 11 (some (.ref 6)) 1 1219 (h3 (u6 w.params) 392 os) (yj (kv.drop 46) ⟨103,0,103,13⟩)=some (.next,s,i1,⟨305,0,348,107⟩)):
 topRun treeTable gm w 11 (some (.ref 6)) (1219+2) (h3 (u6 w.params) 392 os) (restOf (kv.drop 46++[]) q4 i1 ⟨103,0,103,13⟩ [topFrame default])=some s:=
 piece_app r (abu w _ s)
theorem abA{w:World}{os:OsState}{s:Shared}(h:topRun treeTable gm w 11 (some (.ref 6)) (1219+2) (h3 (u6 w.params) 392 os) (restOf (kv.drop 46) q4 i1 ⟨103,0,103,13⟩ [topFrame default])=some s):
 topRun treeTable gm w 11 (some (.ref 6)) (820+(155+(1219+2))) (h3 (sL w.params) 187 os) (restOf (kv.take 45++((kv.drop 45).take 1++kv.drop 46)) q4 i1 default [topFrame default])=some s:=
 piece_app (Lm (abo w os)) (piece_app (Lm (abp w os)) h)
theorem abB{w:World}{os:OsState}{s:Shared}(h:topRun treeTable gm w 11 (some (.ref 6)) (820+(155+(1219+2))) (h3 (sL w.params) 187 os) (restOf kv q4 i1 default [topFrame default])=some s):
 topRun treeTable gm w 11 (some (.ref 6)) (12+(1+(820+(155+(1219+2))))) (h3 (oB w.params) 181 os) (topStub gm)=some s:=
 go_top (abk w os) (piece_block (abl w os) h)
theorem abm(w:World)(os:OsState):∃s,topRun treeTable gm w 11 (some (.ref 6)) (12+(1+(820+(155+(1219+2))))+2299) (h3 (oB w.params) 181 os) (topStub gm)=some s/\sM w s=true/\yd s=(openGood kp sd,Hook.val hk w):=by
 obtain⟨s,r,e⟩:=Ln (k:=λs=>(sM w s,yd s)) (abq w os)
 refine⟨s,topRun_mono 2299 _ _ _ _ (abB ?_),(Prod.mk.inj e).1,(Prod.mk.inj e).2⟩
 have h:=abz r
 rw[List.append_nil] at h
 have h:=abA h
 rw[show(kv.drop 46)=(kv.drop 45).drop 1 from by rw[List.drop_drop],List.take_append_drop,List.take_append_drop] at h
 exact h
theorem abv{w:World}{os:OsState}{s:Shared}(r:topRun treeTable gm w 11 (some (.ref 6)) (12+(1+(820+(155+(1219+2))))+2299) (h3 (oB w.params) 181 os) (topStub gm)=some s)(o:sM w s=true):topFrom treeTable gm w 4508 (h3 (oB w.params) 181 os)=some s:=by
 have z:topFrom treeTable gm w 4508 (h3 (oB w.params) 181 os)=(topRun treeTable gm w 11 (some (.ref 6)) (12+(1+(820+(155+(1219+2))))+2299) (h3 (oB w.params) 181 os) (topStub gm)).bind λs=>match sM w s with
  |true=>some s
  |false=>none:=by kernel_rfl
 rw[z,r]
 show(match sM w s with
  |true=>some s
  |false=>none)=_
 rw[o]
theorem abL{P:Params}{s:Shared}(h:(s.heap,s.gens,s.drawn,s.toks)=(boot_heap P,Array.mk [],boot_drawn,boot_toks)):s=h3 (oB P) 181 s.os:=by
 obtain⟨h1,g1,iv,dd,os⟩:=s
 obtain⟨a9,h⟩:=Prod.mk.inj h
 obtain⟨a7,h⟩:=Prod.mk.inj h
 obtain⟨e3,eX⟩:=Prod.mk.inj h
 have a9:h1=boot_heap P:=a9
 have a7:g1=Array.mk []:=a7
 have e3:iv=boot_drawn:=e3
 have eX:dd=boot_toks:=eX
 rw[a9,a7,e3,eX];rfl
theorem aby(w:World):(fencedOpening treeTable gm w 4508).map (λs=>(s.heap,s.gens,s.drawn,s.toks))=some (boot_heap w.params,Array.mk [],boot_drawn,boot_toks):=boot_open (by rfl) (by rfl) (λ_=>rfl) w
theorem abt{o:Option Shared}{f:Shared->Option Shared}{bW:Type}{k:Shared->bW}{x y:Shared}{a:bW}(e:o=some x)(t:f x=some y)(v:k y=a):(o.bind f).map k=some a:=by
 rw[e,Option.bind_some,t,Option.map_some,v]
theorem T6:LeftO j2.prog kp sd (λs=>xlAt kp [] s&&recOk (RowW.records j2.toRowW) s) (Hook.obs hk) (Hook.val hk) 4508:=λw=>by
 obtain⟨s,e,c2⟩:=fS.mp (aby w)
 obtain⟨t,r,o,v⟩:=abm w s.os
 rw[abL c2] at e
 exact abt (k:=yd) e (abv r o) v
theorem O':defOf kp j2.name=some (oX,[]):=by kernel_rfl
theorem Pa:j2.prog.theDef j2.name=some (oX.params,oX.body,oX.scope):=by kernel_rfl
theorem Pb:kwWritten? oX.params.kwonlyargs oX.params.kw_defaults=some []:=by kernel_rfl
theorem Vj:(chainsOk kp&&opensWell j2.prog&&(frees j2.toRowW&&j2.within.isEmpty))=true:=by decide+kernel
theorem ab4:j2.toRowW.promised:=⟨[.list []],by decide+kernel,by decide+kernel⟩
theorem N5:j2.prog.bare:=⟨rfl,rfl,rfl,rfl,rfl,by decide+kernel⟩
theorem head(walk:E0 kp sd (XL kp []) (Hook.says hk) j2.toRowW oX []):Challenge.rw_nz0352_01.Holds:=
 holds_law ZU λsaid=>ET.PySem.W.holds_open (q:=kp) (loose:=sd) (Xt:=λs=>xlAt kp [] s&&recOk (RowW.records j2.toRowW) s) (XP:=XL kp []) (Yf:=Hook.obs hk) (Ya:=Hook.val hk) (YP:=Hook.says hk) (N:=4508)
  T6 (Hook.of hk) (Hook.keeps hk) (λs e=>xl_of s (l4.mp e).1) XL.keeps O' Pa Pb (λs e=>recFacts_of (l4.mp e).2) (by rfl) said Vj N5 ab4 walk
section
variable{prog:Program}{w:World}{h₁:Heap}{K:Frag}{own:Bool}{env:Env}{ns:List Str}{k:Nat}{d0:Addr}
theorem Tt(X:K.In s.heap)(aA:pP K d0)
 (hsa:findIn K (.ref f6) "__setattr__"=some (some (.builtin "object.__setattr__")))
 (my:s.heap.get? d0=some of)(Bm:of.data=.func fd)(t5:s.heap.NoLimit)(jT:s.heap.CodeRec fd.code fd.qualname)(qx:A.depth<recursionLimit)
 (mq:fd.body=.stmts [.Assign [.Attribute (.Name "self" jZ) "times" km] (.Dict [] [] uN) su])(mx:fd.scope.names=[((("self":Str)),NameKind.local)])
 (nZ:bindArgs fd ⟨[.ref x],[]⟩=pure [(("self":Str),Value.ref x)])(mu:fd.scope.isCoroutine=false)(mv:fd.scope.isGenerator=false)(hk:fd.scope.kind=.function)
 (av:s.heap.get? x=some (instObj f6 d))(aB:s.heap.get? d=some emptyDict)(fF:x≠d)
 (h:∀h' e cf dQ n hh,h'.get? x=some (instObj f6 d)->h'.get? d=some (dictOf [⟨hh,.str "times" cf,.ref e⟩] n)->h'.get? e=some emptyDict->s.heap.objs.size<=e->(∀b o,b≠d->s.heap.get? b=some o->h'.get? b=some o)->
   R (.ok (.ret .none)) {s with heap:=h',toks:=dQ}):
 codeAny (model prog w) A (.call (.ref d0) ⟨[.ref x],[]⟩) R s:=by
 refine codeAny_call_def qx my Bm t5 jT mq (binds:=[(("self":Str),Value.ref x)]) (.of_eq nZ) (by rw[mx];intro y bF;cases bF with|head=>exact nofun|tail _ bF=>cases bF)
  (by rw[mx];intro y bF;cases bF with|head=>rfl|tail _ bF=>cases bF) (λah jU HW=>?_) mu mv hk
 refine wpAny_execs_cons ?_
 refine plainObj_wpAny_Assign_Attribute ?_
 refine wpAny_Dict_empty ?_
 refine wpAny_Name ?_ (by decide)
 have SG:=jU.keeps (h':=ah.push emptyDict) (λb o e=>i2 _ e)
 have dB:∀b o,s.heap.get? b=some o->(ah.push emptyDict).get? b=some o:=λb o e=>i2 _ (HW b o e)
 refine wpAny_loadName_local (v:=.ref x) hk (by show fd.scope.names.lookup ("self":Str)=_;rw[mx];rfl) SG (by rfl) ?_
 have aP:InstAt (ah.push emptyDict) x (instObj f6 d) f6 (some (dictOf [] 0)):=⟨dB _ _ av,rfl,rfl,dB _ _ aB⟩
 refine set_plain (X.keeps dB) aP hsa ?_
 refine Kg (X.keeps dB) aA aP (by rfl) (by decide) λh' a9 a7=>?_
 refine wpAny_execs_nil ?_
 have T2:s.heap.objs.size<=ah.objs.size:=by obtain⟨o,_,_,hh,_⟩:=jU;exact Nat.le_of_lt (Heap.lt_size hh)
 have kd:∀b o,b≠d->s.heap.get? b=some o->h'.get? b=some o:=λb o ag e=>(a7.2 b ag).trans (dB b o e)
 refine h h' ah.objs.size _ _ _ _ (kd _ _ fF av) a9 ?_ T2 kd
 exact(a7.2 _ (Nat.ne_of_gt (Heap.lt_size (HW _ _ aB)))).trans (gA _ rfl)
structure EP (h₁:Heap) (d0:Addr):Prop where
 all:∃(of:Obj) (fd:FuncData) (jZ km uN su:Pos),h₁.get? d0=some of/\of.data=.func fd/\h₁.CodeRec fd.code fd.qualname/\
  fd.body=.stmts [.Assign [.Attribute (.Name "self" jZ) "times" km] (.Dict [] [] uN) su]/\fd.scope.names=[((("self":Str)),NameKind.local)]/\
  (∀v,bindArgs fd ⟨[v],[]⟩=pure [(("self":Str),v)])/\fd.scope.isCoroutine=false/\fd.scope.isGenerator=false/\fd.scope.kind=.function
noncomputable def uC:c4:=λ_ σ=>some (.ref σ.next,σ.new (.inst (some (.cD []))))
theorem P7(B:bP K h₁)(aA:pP K d0)(aP:EP h₁ d0)(hsa:findIn K (.ref f6) "__setattr__"=some (some (.builtin "object.__setattr__")))(xd:keepIn K (.ref f6)=true)
 (hf:bk prog w h₁ own env ns k (eval f env) (I (.bY (.ref f6))))
 (aw:autoParam (eval (f.Call [] [] pos) env=(do let g<-eval f env;callWith pos g [] (backTo pos (starEach [] env)) (backToKw pos (keywordEach [] env)))) aL._auto_1):
 bk prog w h₁ own env ns k (eval (.Call f [] [] pos) env) uC:=by
 intro A W U σ v a0 s Q E aE ao R aQ
 cases ao
 rw[aw]
 refine a6 ?_
 refine hf A W U σ _ σ s _ E aE rfl R λiq jD eF q3 i' ab gM k7=>?_
 cases k7
 have tw:=B.tx gM.bI
 refine wpN.of (callWith_K0 (s:={s with heap:=eF,toks:=q3}) tw xd (wpAny_call ?_))
 obtain⟨of,fd,jZ,km,uN,su,cE,e1,BQ,Tf,Tg,Th,Ti,Tj,Tn⟩:=aP.all
 have uo:∀b o,eF.get? b=some o->((eF.push emptyDict).push (instObj f6 eF.objs.size)).get? b=some o:=λb o e=>i2 _ (i2 _ e)
 refine make_core (init:=.ref d0) (makes_of tw aA.hm) (looks_findIn tw aA.hi) (λself=>bind_fn tw self aA.hf) (.inl rfl) ?_
 refine Tt (d:=eF.objs.size) (tw.keeps uo) aA hsa (uo _ _ (gM.bI.old _ _ cE)) e1 (B.nolimit.keeps λb o e=>uo _ _ (gM.bI.old _ _ e)) (BQ.keeps λb o e=>uo _ _ (gM.bI.old _ _ e)) ?_ Tf Tg (Th _) Ti Tj Tn ?_ ?_ (Nat.succ_ne_self _) ?_
 .rw[depth_under_make];have:=aE.d;show A.depth+1<1000;exact aC.X2 this
 .rw[<-i3 (h:=eF) (o:=emptyDict)];exact gA _ rfl
 .exact i2 _ (gA _ rfl)
 intro h' e cf dQ n hh g1 g2 g3 ge RE
 refine⟨rfl,?_⟩
 have dS:∀{a:Addr},eF.objs.size<=a->iq.role a=.free:=λha=>gM.bI.free ha
 have lt:∀{b o},eF.get? b=some o->b<eF.objs.size:=λe=>Heap.lt_size e
 have Iv:∀b o,eF.get? b=some o->h'.get? b=some o:=λb o q=>RE b o (d9 (lt q)) (uo b o q)
 have w2:eF.objs.size+1<e:=by
  have:((eF.push emptyDict).push (instObj f6 eF.objs.size)).objs.size=eF.objs.size+1+1:=by rw[i3,i3]
  rw[this] at ge;exact ge
 have bA:bB prog w h₁ iq σ h':=gM.bI.kV Iv
 have f1:iq.role e=.free:=dS (by exact aC.X3 w2)
 have cx:=bA.ia (r:=.imm emptyDict) f1 ⟨_,g3⟩ (λo q=>by cases q;exact g3) (λ_ q=>nomatch q)
 have f2:(iq.aT e (.imm emptyDict)).role eF.objs.size=.free:=by rw[az.ck (d9 (Nat.lt_trans (gB _) w2))];exact dS (bt _)
 have dj:=cx.ia (r:=.gX σ.next) f2 ⟨_,g2⟩ (λ_ q=>nomatch q) (λ_ q=>nomatch q)
 have o2:((iq.aT e (.imm emptyDict)).aT eF.objs.size (.gX σ.next)).role (eF.objs.size+1)=.free:=by
  rw[az.ck (Nat.succ_ne_self _),az.ck (d9 w2)];exact dS (gp _)
 have bE:iq.le σ.next (iq.aT e (.imm emptyDict)):=az.ho f1
 have ba:(iq.aT e (.imm emptyDict)).le σ.next ((iq.aT e (.imm emptyDict)).aT eF.objs.size (.gX σ.next)):=az.ho f2
 have cY:=az.pg (n:=σ.next) o2
 have pA:(((iq.aT e (.imm emptyDict)).aT eF.objs.size (.gX σ.next)).eS σ.next (eF.objs.size+1)).role e=.imm emptyDict:=
  cY.1.1 _ _ (ba.1.1 _ _ az.c5)
 have mK:(((iq.aT e (.imm emptyDict)).aT eF.objs.size (.gX σ.next)).eS σ.next (eF.objs.size+1)).role eF.objs.size=.gX σ.next:=by
  show(if eF.objs.size=eF.objs.size+1 then _ else _)=_
  rw[if_neg (by exact aC.X4)];exact az.c5
 have ac8:(e==sysModules)=false:=by
  obtain⟨o,aH⟩:=gM.bI.nz
  have:=lt (gM.bI.old _ _ aH)
  exact beq_eq_false_iff_ne.mpr (Nat.ne_of_gt (Nat.lt_trans (by decide:(1:Nat)<3) (Nat.lt_trans this (Nat.lt_trans (gB _) w2))))
 have d':=dj.alloc (x:=.inst (some (.cD []))) o2 ⟨_,g1⟩ (.inst g1 mK g2 ⟨_,_,_,rfl,.cD (kvs:=[]) pA ac8 ⟨⟨rfl,rfl,rfl⟩, #[],0,rfl,λe b1=>by simp at b1,.nil,List.nodup_nil⟩ .nil⟩)
 have IF:=(bE.trans (bt _) ba).trans (bt _) cY
 have kb:(((iq.aT e (.imm emptyDict)).aT eF.objs.size (.gX σ.next)).eS σ.next (eF.objs.size+1)).al σ.next=eF.objs.size+1:=by
  show(if σ.next=σ.next then _ else _)=_
  rw[if_pos rfl]
 refine aQ _ (.ref (eF.objs.size+1)) h' dQ (i'.trans ab IF) (gp _) (gM.next d' IF (gp _) λa ha=>?_) ?_
 .obtain⟨o,aH⟩:=gM.bI.live a (by rw[ha];exact nofun)
  rw[aH];exact Iv _ _ aH
 .have:=aN.ref (prog:=prog) (w:=w) (W:=((iq.aT e (.imm emptyDict)).aT eF.objs.size (.gX σ.next)).eS σ.next (eF.objs.size+1)) (n:=σ.next+1) (c:=σ.next) (gB _)
  rw[kb] at this;exact this
end
noncomputable abbrev nJ:List UInt8:=[49,50,51,52,53,54,55,56]
theorem xH(P:Params):(KK P).lookup 25=some AP:=by kernel_rfl
theorem xJ(P:Params):(KK P).lookup 32=some AS:=by kernel_rfl
theorem I0(P:Params):(KK P).lookup 37=some AU:=by kernel_rfl
theorem I1(P:Params):(KK P).lookup 44=some AV:=by kernel_rfl
theorem I2(P:Params):(KK P).lookup 49=some AW:=by kernel_rfl
theorem I3(P:Params):(KK P).lookup 77=some AX:=by kernel_rfl
theorem I4(P:Params):(KK P).lookup 84=some AY:=by kernel_rfl
theorem Cg(P:Params):(KK P).lookup 91=some AZ:=by kernel_rfl
theorem od(P:Params):(KK P).lookup 97=some Hc:=by kernel_rfl
theorem xF(P:Params):(KK P).lookup 104=some GN:=by kernel_rfl
theorem IM(P:Params):(KK P).lookup 125=some GO:=by kernel_rfl
theorem IP(P:Params):(KK P).lookup 132=some GP:=by kernel_rfl
theorem IQ(P:Params):(KK P).lookup 146=some GQ:=by kernel_rfl
theorem B'(P:Params):(KK P).lookup 153=some GR:=by kernel_rfl
theorem sa(P:Params):(KK P).lookup 160=some GS:=by kernel_rfl
theorem xG(P:Params):(KK P).lookup 168=some GU:=by kernel_rfl
theorem sb(P:Params):(KK P).lookup 175=some GV:=by kernel_rfl
theorem Ca(P:Params):(KK P).lookup 182=some GW:=by kernel_rfl
theorem Cb(P:Params):(KK P).lookup 189=some GX:=by kernel_rfl
theorem ux(P:Params):(KK P).lookup 196=some GY:=by kernel_rfl
theorem IS(P:Params):(KK P).lookup 203=some GZ:=by kernel_rfl
theorem IT(P:Params):(KK P).lookup 211=some G0:=by kernel_rfl
theorem Cc(P:Params):(KK P).lookup 218=some G1:=by kernel_rfl
theorem IU(P:Params):(KK P).lookup 223=some G2:=by kernel_rfl
theorem IV(P:Params):(KK P).lookup 228=some G3:=by kernel_rfl
theorem Cd(P:Params):(KK P).lookup 249=some G5:=by kernel_rfl
theorem IW(P:Params):(KK P).lookup 256=some G6:=by kernel_rfl
theorem IX(P:Params):(KK P).lookup 263=some G7:=by kernel_rfl
theorem IY(P:Params):(KK P).lookup 270=some G8:=by kernel_rfl
theorem mE(P:Params):(KK P).lookup 284=some G9:=by kernel_rfl
theorem Ce(P:Params):(KK P).lookup 289=some AQ:=by kernel_rfl
theorem xI(P:Params):(KK P).lookup 296=some G':=by kernel_rfl
theorem IZ(P:Params):(KK P).lookup 303=some Ha:=by kernel_rfl
theorem Cf(P:Params):(KK P).lookup 308=some Hb:=by kernel_rfl
theorem Um(P:Params):(KK P).lookup 313=some AR:=by kernel_rfl
theorem Ul(P:Params):(KK P).lookup 242=some G4:=by kernel_rfl
theorem Ue(P:Params):(KK P).lookup 15=some CD:=by kernel_rfl
theorem Ug(P:Params):(KK P).lookup 16=some CE:=by kernel_rfl
theorem Ui(P:Params):(KK P).lookup 17=some CF:=by kernel_rfl
theorem Uj(P:Params):(KK P).lookup 18=some CG:=by kernel_rfl
theorem Un(P:Params):(KK P).lookup 70=some CH:=by kernel_rfl
theorem Uh(P:Params):(KK P).lookup 161=some JI:=by kernel_rfl
theorem Uk(P:Params):(KK P).lookup 204=some JJ:=by kernel_rfl
theorem ly(P:Params):pP (KK P) 242 where
 hga:=by kernel_rfl
 hsa:=by kernel_rfl
 hk:=by kernel_rfl
 hp:=by kernel_rfl
 ht:=by kernel_rfl
 hh:=by kernel_rfl
 ha:=by kernel_rfl
 hm:=by kernel_rfl
 hi:=by kernel_rfl
 hf:=by kernel_rfl
section
variable{prog:Program}{w:World}{h₁:Heap}{own:Bool}{env:Env}{ns:List Str}{k:Nat}
theorem Tu(B:bP (KK w.params) h₁):EP h₁ 242:=
 ⟨_,GG,_,_,_,_,B.X _ _ (Ul w.params),rfl,eQ B.X (by kernel_rfl),rfl,rfl,λ_=>rfl,rfl,rfl,rfl⟩
noncomputable def eJ(l:List (Option Nat)):Loc->Loc:=λU=>l.map λo=>o.bind λai=>(U[ai]?).join
theorem Oz(sub:∀x c,env'.cells.lookup x=some c->env.cells.lookup x=some c)
 (h:∀(i ai:Nat),l[i]? =some (some ai)->∃x,ns[ai]? =some x/\ns'[i]? =some x/\env.kindOf x=some .cell/\(env'.kindOf x=some .cell\/env'.kindOf x=some .free)/\env'.cells.lookup x=env.cells.lookup x):pO env env' ns ns' (eJ l) where
 sub:=sub
 cap U i v e:=by
  unfold eJ at e
  rw[List.getElem?_map] at e
  obtain⟨o,a9,a7⟩:=fS.mp e
  cases o with
  |none=>cases a7
  |some ai=>
   obtain⟨x,a,b,c⟩:=h i ai a9
   refine⟨ai,x,?_,a,b,c⟩
   cases q:U[ai]? with
   |none=>rw[Option.bind_some,q] at a7;cases a7
   |some z=>rw[Option.bind_some,q] at a7;rw[<-show z=some v from a7]
theorem aa4{eK h9:List (Str×Addr)}(h:∀p∈eK,h9.lookup p.1=some p.2):∀x c,eK.lookup x=some c->h9.lookup x=some c:=by
 intro x c e
 exact h (x,c) (mem_of_lookup e)
inductive rb (env env':Env) (ns:List Str):List (Option Nat)->List Str->Prop
 |nil {m:List Str}:rb env env' ns [] m
 |none {l:List (Option Nat)} {x:Str} {m:List Str} (h:rb env env' ns l m):rb env env' ns (none::l) (x::m)
 |some {ai:Nat} {l:List (Option Nat)} {x:Str} {m:List Str} (a:ns[ai]? =some x) (b:env.kindOf x=some .cell) (c:env'.kindOf x=some .cell\/env'.kindOf x=some .free) (d:env'.cells.lookup x=env.cells.lookup x) (h:rb env env' ns l m):rb env env' ns (some ai::l) (x::m)
theorem js{env env':Env}(sub:∀p∈env'.cells,env.cells.lookup p.1=some p.2:=by repeat (first|exact dJ _|refine bO.mpr ⟨rfl,?_⟩))
 (h:rb env env' ns l ns':=by repeat (first|exact .nil|refine .none ?_|refine .some rfl rfl (by first|exact .inl rfl|exact .inr rfl) rfl ?_)):pO env env' ns ns' (eJ l):=
 Oz (aa4 sub) (by
  induction h with
  |nil=>exactλi ai e=>aq e
  |none _ aZ=>
   intro i ai e
   rcases i with _|i
   .exact aq (b9 e)
   .exact aZ i ai e
  |some a b c d _ aZ=>
   intro i ai e
   rcases i with _|i
   .exact⟨_,b9 (b9 e)▸a,rfl,b,c,d⟩
   .exact aZ i ai e)
noncomputable abbrev EW:J:=.bo [.str "new_connection_id",.str "retire_connection_id",.str "new_token",.str "handshake_done",.str "stop_sending",.str "reset_stream"]
noncomputable abbrev EX:J:=.bo [.str "crypto",.str "stream"]
noncomputable abbrev EY:J:=.bo [.str "max_data",.str "max_stream_data",.str "max_streams"]
noncomputable abbrev EZ:J:=.bo [.str "data_blocked",.str "stream_data_blocked",.str "streams_blocked"]
noncomputable abbrev p5:J:=.bo [.int 1,.int 2,.int 4,.int 8]
noncomputable abbrev y5:J:=.int 8
noncomputable abbrev yU:J:=.int 1
noncomputable abbrev yV:J:=.int 2
noncomputable abbrev yW:J:=.int 4
noncomputable abbrev y1:J:=.int 24
noncomputable abbrev yX:J:=.int 6
noncomputable abbrev y2:J:=.int 7
noncomputable abbrev y3:J:=.int 26
noncomputable abbrev y4:J:=.int 27
noncomputable abbrev y0:J:=.int 19
noncomputable abbrev yZ:J:=.int 18
noncomputable abbrev y7:J:=.int 23
noncomputable abbrev y6:J:=.int 22
noncomputable abbrev ro:J:=.cD [(.str "ping",.int 1),(.str "reset_stream",.int 4),(.str "stop_sending",.int 5),(.str "max_data",.int 16),(.str "max_stream_data",.int 17),(.str "data_blocked",.int 20),(.str "stream_data_blocked",.int 21),(.str "retire_connection_id",.int 25),(.str "handshake_done",.int 30)]
noncomputable abbrev yY:J:=.bo [.str "crypto",.str "stream"]
noncomputable abbrev jL:J:=.bo [.str "closed",.str "idle",.str "loss",.str "probe",.str "ack",.str "path"]
theorem Uo(P:Params):(KK P).lookup 92=some (Cv P):=by kernel_rfl
theorem TR:PyData.keyHash w.params x=hashStr w x:=by
 rfl
theorem Jt:∀l:List (Str×Tok×Int×Tok),Pairs (hF prog w) (l.map λe=>⟨PyData.keyHash w.params e.1,.str e.1 e.2.1,.int e.2.2.1 e.2.2.2⟩) (l.map λe=>(bq.str e.1,Value.int e.2.2.1 e.2.2.2))
 |[]=>.nil
 |e::r=>.cons (by show(e.1==e.1)=true;exact beq_self_eq_true _) rfl (Jt r)
theorem Ju:∀l:List (Str×Tok×Int×Tok),ei prog w W n (l.map λe=>(bq.str e.1,J.int e.2.2.1)) (l.map λe=>(bq.str e.1,Value.int e.2.2.1 e.2.2.2))
 |[]=>.nil
 |e::r=>.cons (.int _ _) (Ju r)
theorem US(B:bP (KK w.params) h₁)(ag:∀a o,h₁.get? a=some o->W.role a=.imm o):aN prog w W n ro (.ref 92):=by
 refine .cD (ag _ _ (B.X _ _ (Uo w.params))) (by decide) ⟨⟨rfl,rfl,rfl⟩,_,_,rfl,?_,Jt Cu,by decide⟩ (Ju Cu)
 intro e b1
 rw[List.mem_toArray] at b1
 obtain⟨x,_,rfl⟩:=dI.mp b1
 exact⟨.str x.1,beq_self_eq_true _,TR⟩
theorem QY(B:bP (KK w.params) h₁)(hk:autoParam (env.scope.kind=.function) aL._auto_1)(aU:autoParam (env.globals=mainGlobals) aL._auto_1)(av:autoParam (env.kindOf "ANEW"=some .globalImplicit) aL._auto_1):bk prog w h₁ own env ns k (eval (.Name "ANEW" pos) env) (I EW):=by
 exact dq B (by kernel_rfl) (λW n ag=>.bo (ag _ _ (B.X _ _ (Ue w.params))) (.cons (.str _ _) (.cons (.str _ _) (.cons (.str _ _) (.cons (.str _ _) (.cons (.str _ _) (.cons (.str _ _) (.nil)))))))) hk aU av
theorem Q3(B:bP (KK w.params) h₁)(hk:autoParam (env.scope.kind=.function) aL._auto_1)(aU:autoParam (env.globals=mainGlobals) aL._auto_1)(av:autoParam (env.kindOf "BY_HOLDER"=some .globalImplicit) aL._auto_1):bk prog w h₁ own env ns k (eval (.Name "BY_HOLDER" pos) env) (I EX):=by
 exact dq B (by kernel_rfl) (λW n ag=>.bo (ag _ _ (B.X _ _ (Ug w.params))) (.cons (.str _ _) (.cons (.str _ _) (.nil)))) hk aU av
theorem Q6(B:bP (KK w.params) h₁)(hk:autoParam (env.scope.kind=.function) aL._auto_1)(aU:autoParam (env.globals=mainGlobals) aL._auto_1)(av:autoParam (env.kindOf "LATEST"=some .globalImplicit) aL._auto_1):bk prog w h₁ own env ns k (eval (.Name "LATEST" pos) env) (I EY):=by
 exact dq B (by kernel_rfl) (λW n ag=>.bo (ag _ _ (B.X _ _ (Ui w.params))) (.cons (.str _ _) (.cons (.str _ _) (.cons (.str _ _) (.nil))))) hk aU av
theorem Rg(B:bP (KK w.params) h₁)(hk:autoParam (env.scope.kind=.function) aL._auto_1)(aU:autoParam (env.globals=mainGlobals) aL._auto_1)(av:autoParam (env.kindOf "WHILE_BLOCKED"=some .globalImplicit) aL._auto_1):bk prog w h₁ own env ns k (eval (.Name "WHILE_BLOCKED" pos) env) (I EZ):=by
 exact dq B (by kernel_rfl) (λW n ag=>.bo (ag _ _ (B.X _ _ (Uj w.params))) (.cons (.str _ _) (.cons (.str _ _) (.cons (.str _ _) (.nil))))) hk aU av
theorem A1(B:bP (KK w.params) h₁)(hk:autoParam (env.scope.kind=.function) aL._auto_1)(aU:autoParam (env.globals=mainGlobals) aL._auto_1)(av:autoParam (env.kindOf "VARINT_SIZES"=some .globalImplicit) aL._auto_1):bk prog w h₁ own env ns k (eval (.Name "VARINT_SIZES" pos) env) (I p5):=by
 exact dq B (by kernel_rfl) (λW n ag=>.bo (ag _ _ (B.X _ _ (Un w.params))) (.cons (.int _ _) (.cons (.int _ _) (.cons (.int _ _) (.cons (.int _ _) (.nil)))))) hk aU av
theorem Rc(B:bP (KK w.params) h₁)(hk:autoParam (env.scope.kind=.function) aL._auto_1)(aU:autoParam (env.globals=mainGlobals) aL._auto_1)(av:autoParam (env.kindOf "STREAM"=some .globalImplicit) aL._auto_1):bk prog w h₁ own env ns k (eval (.Name "STREAM" pos) env) (I y5):=by
 exact dq B (by kernel_rfl) (λW n ag=>.int _ 299) hk aU av
theorem Q0(B:bP (KK w.params) h₁)(hk:autoParam (env.scope.kind=.function) aL._auto_1)(aU:autoParam (env.globals=mainGlobals) aL._auto_1)(av:autoParam (env.kindOf "BIT_FIN"=some .globalImplicit) aL._auto_1):bk prog w h₁ own env ns k (eval (.Name "BIT_FIN" pos) env) (I yU):=by
 exact dq B (by kernel_rfl) (λW n ag=>.int _ 331) hk aU av
theorem Q1(B:bP (KK w.params) h₁)(hk:autoParam (env.scope.kind=.function) aL._auto_1)(aU:autoParam (env.globals=mainGlobals) aL._auto_1)(av:autoParam (env.kindOf "BIT_LENGTH"=some .globalImplicit) aL._auto_1):bk prog w h₁ own env ns k (eval (.Name "BIT_LENGTH" pos) env) (I yV):=by
 exact dq B (by kernel_rfl) (λW n ag=>.int _ 333) hk aU av
theorem Q2(B:bP (KK w.params) h₁)(hk:autoParam (env.scope.kind=.function) aL._auto_1)(aU:autoParam (env.globals=mainGlobals) aL._auto_1)(av:autoParam (env.kindOf "BIT_OFFSET"=some .globalImplicit) aL._auto_1):bk prog w h₁ own env ns k (eval (.Name "BIT_OFFSET" pos) env) (I yW):=by
 exact dq B (by kernel_rfl) (λW n ag=>.int _ 335) hk aU av
theorem Q9(B:bP (KK w.params) h₁)(hk:autoParam (env.scope.kind=.function) aL._auto_1)(aU:autoParam (env.globals=mainGlobals) aL._auto_1)(av:autoParam (env.kindOf "NEW_CONNECTION_ID"=some .globalImplicit) aL._auto_1):bk prog w h₁ own env ns k (eval (.Name "NEW_CONNECTION_ID" pos) env) (I y1):=by
 exact dq B (by kernel_rfl) (λW n ag=>.int _ 317) hk aU av
theorem Q4(B:bP (KK w.params) h₁)(hk:autoParam (env.scope.kind=.function) aL._auto_1)(aU:autoParam (env.globals=mainGlobals) aL._auto_1)(av:autoParam (env.kindOf "CRYPTO"=some .globalImplicit) aL._auto_1):bk prog w h₁ own env ns k (eval (.Name "CRYPTO" pos) env) (I yX):=by
 exact dq B (by kernel_rfl) (λW n ag=>.int _ 295) hk aU av
theorem Q'(B:bP (KK w.params) h₁)(hk:autoParam (env.scope.kind=.function) aL._auto_1)(aU:autoParam (env.globals=mainGlobals) aL._auto_1)(av:autoParam (env.kindOf "NEW_TOKEN"=some .globalImplicit) aL._auto_1):bk prog w h₁ own env ns k (eval (.Name "NEW_TOKEN" pos) env) (I y2):=by
 exact dq B (by kernel_rfl) (λW n ag=>.int _ 297) hk aU av
theorem Ra(B:bP (KK w.params) h₁)(hk:autoParam (env.scope.kind=.function) aL._auto_1)(aU:autoParam (env.globals=mainGlobals) aL._auto_1)(av:autoParam (env.kindOf "PATH_CHALLENGE"=some .globalImplicit) aL._auto_1):bk prog w h₁ own env ns k (eval (.Name "PATH_CHALLENGE" pos) env) (I y3):=by
 exact dq B (by kernel_rfl) (λW n ag=>.int _ 321) hk aU av
theorem Rb(B:bP (KK w.params) h₁)(hk:autoParam (env.scope.kind=.function) aL._auto_1)(aU:autoParam (env.globals=mainGlobals) aL._auto_1)(av:autoParam (env.kindOf "PATH_RESPONSE"=some .globalImplicit) aL._auto_1):bk prog w h₁ own env ns k (eval (.Name "PATH_RESPONSE" pos) env) (I y4):=by
 exact dq B (by kernel_rfl) (λW n ag=>.int _ 323) hk aU av
theorem Q8(B:bP (KK w.params) h₁)(hk:autoParam (env.scope.kind=.function) aL._auto_1)(aU:autoParam (env.globals=mainGlobals) aL._auto_1)(av:autoParam (env.kindOf "MAX_STREAMS_UNI"=some .globalImplicit) aL._auto_1):bk prog w h₁ own env ns k (eval (.Name "MAX_STREAMS_UNI" pos) env) (I y0):=by
 exact dq B (by kernel_rfl) (λW n ag=>.int _ 307) hk aU av
theorem Q7(B:bP (KK w.params) h₁)(hk:autoParam (env.scope.kind=.function) aL._auto_1)(aU:autoParam (env.globals=mainGlobals) aL._auto_1)(av:autoParam (env.kindOf "MAX_STREAMS_BIDI"=some .globalImplicit) aL._auto_1):bk prog w h₁ own env ns k (eval (.Name "MAX_STREAMS_BIDI" pos) env) (I yZ):=by
 exact dq B (by kernel_rfl) (λW n ag=>.int _ 305) hk aU av
theorem Rf(B:bP (KK w.params) h₁)(hk:autoParam (env.scope.kind=.function) aL._auto_1)(aU:autoParam (env.globals=mainGlobals) aL._auto_1)(av:autoParam (env.kindOf "STREAMS_BLOCKED_UNI"=some .globalImplicit) aL._auto_1):bk prog w h₁ own env ns k (eval (.Name "STREAMS_BLOCKED_UNI" pos) env) (I y7):=by
 exact dq B (by kernel_rfl) (λW n ag=>.int _ 315) hk aU av
theorem Rd(B:bP (KK w.params) h₁)(hk:autoParam (env.scope.kind=.function) aL._auto_1)(aU:autoParam (env.globals=mainGlobals) aL._auto_1)(av:autoParam (env.kindOf "STREAMS_BLOCKED_BIDI"=some .globalImplicit) aL._auto_1):bk prog w h₁ own env ns k (eval (.Name "STREAMS_BLOCKED_BIDI" pos) env) (I y6):=by
 exact dq B (by kernel_rfl) (λW n ag=>.int _ 313) hk aU av
theorem Hp(B:bP (KK w.params) h₁)(hk:autoParam (env.scope.kind=.function) aL._auto_1)(aU:autoParam (env.globals=mainGlobals) aL._auto_1)(av:autoParam (env.kindOf "NUMBER_FRAMES"=some .globalImplicit) aL._auto_1):bk prog w h₁ own env ns k (eval (.Name "NUMBER_FRAMES" pos) env) (I ro):=by
 exact dq B (by kernel_rfl) (λW n ag=>US B ag) hk aU av
theorem Q5(B:bP (KK w.params) h₁)(hk:autoParam (env.scope.kind=.function) aL._auto_1)(aU:autoParam (env.globals=mainGlobals) aL._auto_1)(av:autoParam (env.kindOf "DATA_KINDS"=some .globalImplicit) aL._auto_1):bk prog w h₁ own env ns k (eval (.Name "DATA_KINDS" pos) env) (I yY):=by
 exact dq B (by kernel_rfl) (λW n ag=>.bo (ag _ _ (B.X _ _ (Uh w.params))) (.cons (.str _ _) (.cons (.str _ _) (.nil)))) hk aU av
theorem w0(B:bP (KK w.params) h₁)(hk:autoParam (env.scope.kind=.function) aL._auto_1)(aU:autoParam (env.globals=mainGlobals) aL._auto_1)(av:autoParam (env.kindOf "KINDS"=some .globalImplicit) aL._auto_1):bk prog w h₁ own env ns k (eval (.Name "KINDS" pos) env) (I jL):=by
 exact dq B (by kernel_rfl) (λW n ag=>.bo (ag _ _ (B.X _ _ (Uk w.params))) (.cons (.str _ _) (.cons (.str _ _) (.cons (.str _ _) (.cons (.str _ _) (.cons (.str _ _) (.cons (.str _ _) (.nil)))))))) hk aU av
theorem A8(B:bP (KK w.params) h₁)(hk:autoParam (env.scope.kind=.function) aL._auto_1)(aU:autoParam (env.globals=mainGlobals) aL._auto_1)(av:autoParam (env.kindOf "way_of"=some .globalImplicit) aL._auto_1):bk prog w h₁ own env ns k (eval (.Name "way_of" pos) env) (I (.bY (.ref 25))):=
 dq B (by kernel_rfl) (λW n ag=>.bY _) hk aU av
theorem A7(B:bP (KK w.params) h₁)(hk:autoParam (env.scope.kind=.function) aL._auto_1)(aU:autoParam (env.globals=mainGlobals) aL._auto_1)(av:autoParam (env.kindOf "subject_of"=some .globalImplicit) aL._auto_1):bk prog w h₁ own env ns k (eval (.Name "subject_of" pos) env) (I (.bY (.ref 32))):=
 dq B (by kernel_rfl) (λW n ag=>.bY _) hk aU av
theorem Rq(B:bP (KK w.params) h₁)(hk:autoParam (env.scope.kind=.function) aL._auto_1)(aU:autoParam (env.globals=mainGlobals) aL._auto_1)(av:autoParam (env.kindOf "newest"=some .globalImplicit) aL._auto_1):bk prog w h₁ own env ns k (eval (.Name "newest" pos) env) (I (.bY (.ref 37))):=
 dq B (by kernel_rfl) (λW n ag=>.bY _) hk aU av
theorem Rw(B:bP (KK w.params) h₁)(hk:autoParam (env.scope.kind=.function) aL._auto_1)(aU:autoParam (env.globals=mainGlobals) aL._auto_1)(av:autoParam (env.kindOf "told_again"=some .globalImplicit) aL._auto_1):bk prog w h₁ own env ns k (eval (.Name "told_again" pos) env) (I (.bY (.ref 44))):=
 dq B (by kernel_rfl) (λW n ag=>.bY _) hk aU av
theorem Rm(B:bP (KK w.params) h₁)(hk:autoParam (env.scope.kind=.function) aL._auto_1)(aU:autoParam (env.globals=mainGlobals) aL._auto_1)(av:autoParam (env.kindOf "held_data"=some .globalImplicit) aL._auto_1):bk prog w h₁ own env ns k (eval (.Name "held_data" pos) env) (I (.bY (.ref 49))):=
 dq B (by kernel_rfl) (λW n ag=>.bY _) hk aU av
theorem Rv(B:bP (KK w.params) h₁)(hk:autoParam (env.scope.kind=.function) aL._auto_1)(aU:autoParam (env.globals=mainGlobals) aL._auto_1)(av:autoParam (env.kindOf "put_whole"=some .globalImplicit) aL._auto_1):bk prog w h₁ own env ns k (eval (.Name "put_whole" pos) env) (I (.bY (.ref 77))):=
 dq B (by kernel_rfl) (λW n ag=>.bY _) hk aU av
theorem Rx(B:bP (KK w.params) h₁)(hk:autoParam (env.scope.kind=.function) aL._auto_1)(aU:autoParam (env.globals=mainGlobals) aL._auto_1)(av:autoParam (env.kindOf "varint_size"=some .globalImplicit) aL._auto_1):bk prog w h₁ own env ns k (eval (.Name "varint_size" pos) env) (I (.bY (.ref 84))):=
 dq B (by kernel_rfl) (λW n ag=>.bY _) hk aU av
theorem Hx(B:bP (KK w.params) h₁)(hk:autoParam (env.scope.kind=.function) aL._auto_1)(aU:autoParam (env.globals=mainGlobals) aL._auto_1)(av:autoParam (env.kindOf "put_varint"=some .globalImplicit) aL._auto_1):bk prog w h₁ own env ns k (eval (.Name "put_varint" pos) env) (I (.bY (.ref 91))):=
 dq B (by kernel_rfl) (λW n ag=>.bY _) hk aU av
theorem o4(B:bP (KK w.params) h₁)(hk:autoParam (env.scope.kind=.function) aL._auto_1)(aU:autoParam (env.globals=mainGlobals) aL._auto_1)(av:autoParam (env.kindOf "put_numbers"=some .globalImplicit) aL._auto_1):bk prog w h₁ own env ns k (eval (.Name "put_numbers" pos) env) (I (.bY (.ref 97))):=
 dq B (by kernel_rfl) (λW n ag=>.bY _) hk aU av
theorem A6(B:bP (KK w.params) h₁)(hk:autoParam (env.scope.kind=.function) aL._auto_1)(aU:autoParam (env.globals=mainGlobals) aL._auto_1)(av:autoParam (env.kindOf "put_counted"=some .globalImplicit) aL._auto_1):bk prog w h₁ own env ns k (eval (.Name "put_counted" pos) env) (I (.bY (.ref 104))):=
 dq B (by kernel_rfl) (λW n ag=>.bY _) hk aU av
theorem Ru(B:bP (KK w.params) h₁)(hk:autoParam (env.scope.kind=.function) aL._auto_1)(aU:autoParam (env.globals=mainGlobals) aL._auto_1)(av:autoParam (env.kindOf "put_stream"=some .globalImplicit) aL._auto_1):bk prog w h₁ own env ns k (eval (.Name "put_stream" pos) env) (I (.bY (.ref 125))):=
 dq B (by kernel_rfl) (λW n ag=>.bY _) hk aU av
theorem Rr(B:bP (KK w.params) h₁)(hk:autoParam (env.scope.kind=.function) aL._auto_1)(aU:autoParam (env.globals=mainGlobals) aL._auto_1)(av:autoParam (env.kindOf "put_new_cid"=some .globalImplicit) aL._auto_1):bk prog w h₁ own env ns k (eval (.Name "put_new_cid" pos) env) (I (.bY (.ref 132))):=
 dq B (by kernel_rfl) (λW n ag=>.bY _) hk aU av
theorem Rt(B:bP (KK w.params) h₁)(hk:autoParam (env.scope.kind=.function) aL._auto_1)(aU:autoParam (env.globals=mainGlobals) aL._auto_1)(av:autoParam (env.kindOf "put_octets_frame"=some .globalImplicit) aL._auto_1):bk prog w h₁ own env ns k (eval (.Name "put_octets_frame" pos) env) (I (.bY (.ref 146))):=
 dq B (by kernel_rfl) (λW n ag=>.bY _) hk aU av
theorem Hw(B:bP (KK w.params) h₁)(hk:autoParam (env.scope.kind=.function) aL._auto_1)(aU:autoParam (env.globals=mainGlobals) aL._auto_1)(av:autoParam (env.kindOf "put_frame"=some .globalImplicit) aL._auto_1):bk prog w h₁ own env ns k (eval (.Name "put_frame" pos) env) (I (.bY (.ref 153))):=
 dq B (by kernel_rfl) (λW n ag=>.bY _) hk aU av
theorem tR(B:bP (KK w.params) h₁)(hk:autoParam (env.scope.kind=.function) aL._auto_1)(aU:autoParam (env.globals=mainGlobals) aL._auto_1)(av:autoParam (env.kindOf "frame_size"=some .globalImplicit) aL._auto_1):bk prog w h₁ own env ns k (eval (.Name "frame_size" pos) env) (I (.bY (.ref 160))):=
 dq B (by kernel_rfl) (λW n ag=>.bY _) hk aU av
theorem A3(B:bP (KK w.params) h₁)(hk:autoParam (env.scope.kind=.function) aL._auto_1)(aU:autoParam (env.globals=mainGlobals) aL._auto_1)(av:autoParam (env.kindOf "data_of"=some .globalImplicit) aL._auto_1):bk prog w h₁ own env ns k (eval (.Name "data_of" pos) env) (I (.bY (.ref 168))):=
 dq B (by kernel_rfl) (λW n ag=>.bY _) hk aU av
theorem tT(B:bP (KK w.params) h₁)(hk:autoParam (env.scope.kind=.function) aL._auto_1)(aU:autoParam (env.globals=mainGlobals) aL._auto_1)(av:autoParam (env.kindOf "with_data"=some .globalImplicit) aL._auto_1):bk prog w h₁ own env ns k (eval (.Name "with_data" pos) env) (I (.bY (.ref 175))):=
 dq B (by kernel_rfl) (λW n ag=>.bY _) hk aU av
theorem Ht(B:bP (KK w.params) h₁)(hk:autoParam (env.scope.kind=.function) aL._auto_1)(aU:autoParam (env.globals=mainGlobals) aL._auto_1)(av:autoParam (env.kindOf "data_room"=some .globalImplicit) aL._auto_1):bk prog w h₁ own env ns k (eval (.Name "data_room" pos) env) (I (.bY (.ref 182))):=
 dq B (by kernel_rfl) (λW n ag=>.bY _) hk aU av
theorem Hs(B:bP (KK w.params) h₁)(hk:autoParam (env.scope.kind=.function) aL._auto_1)(aU:autoParam (env.globals=mainGlobals) aL._auto_1)(av:autoParam (env.kindOf "cut_frame"=some .globalImplicit) aL._auto_1):bk prog w h₁ own env ns k (eval (.Name "cut_frame" pos) env) (I (.bY (.ref 189))):=
 dq B (by kernel_rfl) (λW n ag=>.bY _) hk aU av
theorem w1(B:bP (KK w.params) h₁)(hk:autoParam (env.scope.kind=.function) aL._auto_1)(aU:autoParam (env.globals=mainGlobals) aL._auto_1)(av:autoParam (env.kindOf "filled"=some .globalImplicit) aL._auto_1):bk prog w h₁ own env ns k (eval (.Name "filled" pos) env) (I (.bY (.ref 196))):=
 dq B (by kernel_rfl) (λW n ag=>.bY _) hk aU av
theorem Rn(B:bP (KK w.params) h₁)(hk:autoParam (env.scope.kind=.function) aL._auto_1)(aU:autoParam (env.globals=mainGlobals) aL._auto_1)(av:autoParam (env.kindOf "in_rooms"=some .globalImplicit) aL._auto_1):bk prog w h₁ own env ns k (eval (.Name "in_rooms" pos) env) (I (.bY (.ref 203))):=
 dq B (by kernel_rfl) (λW n ag=>.bY _) hk aU av
theorem Ro(B:bP (KK w.params) h₁)(hk:autoParam (env.scope.kind=.function) aL._auto_1)(aU:autoParam (env.globals=mainGlobals) aL._auto_1)(av:autoParam (env.kindOf "kind_place"=some .globalImplicit) aL._auto_1):bk prog w h₁ own env ns k (eval (.Name "kind_place" pos) env) (I (.bY (.ref 211))):=
 dq B (by kernel_rfl) (λW n ag=>.bY _) hk aU av
theorem Hv(B:bP (KK w.params) h₁)(hk:autoParam (env.scope.kind=.function) aL._auto_1)(aU:autoParam (env.globals=mainGlobals) aL._auto_1)(av:autoParam (env.kindOf "next_due"=some .globalImplicit) aL._auto_1):bk prog w h₁ own env ns k (eval (.Name "next_due" pos) env) (I (.bY (.ref 218))):=
 dq B (by kernel_rfl) (λW n ag=>.bY _) hk aU av
theorem Rj(B:bP (KK w.params) h₁)(hk:autoParam (env.scope.kind=.function) aL._auto_1)(aU:autoParam (env.globals=mainGlobals) aL._auto_1)(av:autoParam (env.kindOf "all_due"=some .globalImplicit) aL._auto_1):bk prog w h₁ own env ns k (eval (.Name "all_due" pos) env) (I (.bY (.ref 223))):=
 dq B (by kernel_rfl) (λW n ag=>.bY _) hk aU av
theorem Ry(B:bP (KK w.params) h₁)(hk:autoParam (env.scope.kind=.function) aL._auto_1)(aU:autoParam (env.globals=mainGlobals) aL._auto_1)(av:autoParam (env.kindOf "with_alarm"=some .globalImplicit) aL._auto_1):bk prog w h₁ own env ns k (eval (.Name "with_alarm" pos) env) (I (.bY (.ref 228))):=
 dq B (by kernel_rfl) (λW n ag=>.bY _) hk aU av
theorem m3(B:bP (KK w.params) h₁)(hk:autoParam (env.scope.kind=.function) aL._auto_1)(aU:autoParam (env.globals=mainGlobals) aL._auto_1)(av:autoParam (env.kindOf "_law_draw"=some .globalImplicit) aL._auto_1):bk prog w h₁ own env ns k (eval (.Name "_law_draw" pos) env) (I (.bY (.ref 284))):=
 dq B (by kernel_rfl) (λW n ag=>.bY _) hk aU av
theorem Hq(B:bP (KK w.params) h₁)(hk:autoParam (env.scope.kind=.function) aL._auto_1)(aU:autoParam (env.globals=mainGlobals) aL._auto_1)(av:autoParam (env.kindOf "_law_frames"=some .globalImplicit) aL._auto_1):bk prog w h₁ own env ns k (eval (.Name "_law_frames" pos) env) (I (.bY (.ref 289))):=
 dq B (by kernel_rfl) (λW n ag=>.bY _) hk aU av
theorem A2(B:bP (KK w.params) h₁)(hk:autoParam (env.scope.kind=.function) aL._auto_1)(aU:autoParam (env.globals=mainGlobals) aL._auto_1)(av:autoParam (env.kindOf "_law_comes"=some .globalImplicit) aL._auto_1):bk prog w h₁ own env ns k (eval (.Name "_law_comes" pos) env) (I (.bY (.ref 296))):=
 dq B (by kernel_rfl) (λW n ag=>.bY _) hk aU av
theorem Rh(B:bP (KK w.params) h₁)(hk:autoParam (env.scope.kind=.function) aL._auto_1)(aU:autoParam (env.globals=mainGlobals) aL._auto_1)(av:autoParam (env.kindOf "_law_places"=some .globalImplicit) aL._auto_1):bk prog w h₁ own env ns k (eval (.Name "_law_places" pos) env) (I (.bY (.ref 303))):=
 dq B (by kernel_rfl) (λW n ag=>.bY _) hk aU av
theorem Hr(B:bP (KK w.params) h₁)(hk:autoParam (env.scope.kind=.function) aL._auto_1)(aU:autoParam (env.globals=mainGlobals) aL._auto_1)(av:autoParam (env.kindOf "_law_goes"=some .globalImplicit) aL._auto_1):bk prog w h₁ own env ns k (eval (.Name "_law_goes" pos) env) (I (.bY (.ref 308))):=
 dq B (by kernel_rfl) (λW n ag=>.bY _) hk aU av
theorem QZ(B:bP (KK w.params) h₁)(hk:autoParam (env.scope.kind=.function) aL._auto_1)(aU:autoParam (env.globals=mainGlobals) aL._auto_1)(av:autoParam (env.kindOf "Alarms"=some .globalImplicit) aL._auto_1):bk prog w h₁ own env ns k (eval (.Name "Alarms" pos) env) (I (.bY (.ref 273))):=
 dq B (by kernel_rfl) (λW n ag=>.bY _) hk aU av
theorem lC(B:bP (KK w.params) h₁)(hk:autoParam (env.scope.kind=.function) aL._auto_1)(aU:autoParam (env.globals=mainGlobals) aL._auto_1)(ag:autoParam (env.builtins=builtinsNs) aL._auto_1)(av:autoParam (env.kindOf "len"=some .globalImplicit) aL._auto_1):bk prog w h₁ own env ns k (eval (.Name "len" pos) env) (I (.bY (.builtin "len"))):=
 lA B (by kernel_rfl) (by kernel_rfl) (by decide) hk aU ag av
theorem Ri(B:bP (KK w.params) h₁)(hk:autoParam (env.scope.kind=.function) aL._auto_1)(aU:autoParam (env.globals=mainGlobals) aL._auto_1)(ag:autoParam (env.builtins=builtinsNs) aL._auto_1)(av:autoParam (env.kindOf "abs"=some .globalImplicit) aL._auto_1):bk prog w h₁ own env ns k (eval (.Name "abs" pos) env) (I (.bY (.builtin "abs"))):=
 lA B (by kernel_rfl) (by kernel_rfl) (by decide) hk aU ag av
theorem Rp(B:bP (KK w.params) h₁)(hk:autoParam (env.scope.kind=.function) aL._auto_1)(aU:autoParam (env.globals=mainGlobals) aL._auto_1)(ag:autoParam (env.builtins=builtinsNs) aL._auto_1)(av:autoParam (env.kindOf "min"=some .globalImplicit) aL._auto_1):bk prog w h₁ own env ns k (eval (.Name "min" pos) env) (I (.bY (.builtin "min"))):=
 lA B (by kernel_rfl) (by kernel_rfl) (by decide) hk aU ag av
theorem Hz(B:bP (KK w.params) h₁)(hk:autoParam (env.scope.kind=.function) aL._auto_1)(aU:autoParam (env.globals=mainGlobals) aL._auto_1)(ag:autoParam (env.builtins=builtinsNs) aL._auto_1)(av:autoParam (env.kindOf "sum"=some .globalImplicit) aL._auto_1):bk prog w h₁ own env ns k (eval (.Name "sum" pos) env) (I (.bY (.builtin "sum"))):=
 lA B (by kernel_rfl) (by kernel_rfl) (by decide) hk aU ag av
theorem Hy(B:bP (KK w.params) h₁)(hk:autoParam (env.scope.kind=.function) aL._auto_1)(aU:autoParam (env.globals=mainGlobals) aL._auto_1)(ag:autoParam (env.builtins=builtinsNs) aL._auto_1)(av:autoParam (env.kindOf "sorted"=some .globalImplicit) aL._auto_1):bk prog w h₁ own env ns k (eval (.Name "sorted" pos) env) (I (.bY (.builtin "sorted"))):=
 lA B (by kernel_rfl) (by kernel_rfl) (by decide) hk aU ag av
theorem Hu(B:bP (KK w.params) h₁)(hk:autoParam (env.scope.kind=.function) aL._auto_1)(aU:autoParam (env.globals=mainGlobals) aL._auto_1)(ag:autoParam (env.builtins=builtinsNs) aL._auto_1)(av:autoParam (env.kindOf "int"=some .globalImplicit) aL._auto_1):bk prog w h₁ own env ns k (eval (.Name "int" pos) env) (I (.bY (.type "int"))):=
 lA B (by kernel_rfl) (by kernel_rfl) (by decide) hk aU ag av
theorem tS(B:bP (KK w.params) h₁)(hk:autoParam (env.scope.kind=.function) aL._auto_1)(aU:autoParam (env.globals=mainGlobals) aL._auto_1)(ag:autoParam (env.builtins=builtinsNs) aL._auto_1)(av:autoParam (env.kindOf "range"=some .globalImplicit) aL._auto_1):bk prog w h₁ own env ns k (eval (.Name "range" pos) env) (I (.bY (.type "range"))):=
 lA B (by kernel_rfl) (by kernel_rfl) (by decide) hk aU ag av
theorem A5(B:bP (KK w.params) h₁)(hk:autoParam (env.scope.kind=.function) aL._auto_1)(aU:autoParam (env.globals=mainGlobals) aL._auto_1)(ag:autoParam (env.builtins=builtinsNs) aL._auto_1)(av:autoParam (env.kindOf "list"=some .globalImplicit) aL._auto_1):bk prog w h₁ own env ns k (eval (.Name "list" pos) env) (I (.bY (.type "list"))):=
 lA B (by kernel_rfl) (by kernel_rfl) (by decide) hk aU ag av
theorem mm(B:bP (KK w.params) h₁)(hk:autoParam (env.scope.kind=.function) aL._auto_1)(aU:autoParam (env.globals=mainGlobals) aL._auto_1)(ag:autoParam (env.builtins=builtinsNs) aL._auto_1)(av:autoParam (env.kindOf "bytes"=some .globalImplicit) aL._auto_1):bk prog w h₁ own env ns k (eval (.Name "bytes" pos) env) (I (.bY (.type "bytes"))):=
 lA B (by kernel_rfl) (by kernel_rfl) (by decide) hk aU ag av
theorem Rl(B:bP (KK w.params) h₁)(hk:autoParam (env.scope.kind=.function) aL._auto_1)(aU:autoParam (env.globals=mainGlobals) aL._auto_1)(ag:autoParam (env.builtins=builtinsNs) aL._auto_1)(av:autoParam (env.kindOf "dict"=some .globalImplicit) aL._auto_1):bk prog w h₁ own env ns k (eval (.Name "dict" pos) env) (I (.bY (.type "dict"))):=
 lA B (by kernel_rfl) (by kernel_rfl) (by decide) hk aU ag av
theorem Rk(B:bP (KK w.params) h₁)(hk:autoParam (env.scope.kind=.function) aL._auto_1)(aU:autoParam (env.globals=mainGlobals) aL._auto_1)(ag:autoParam (env.builtins=builtinsNs) aL._auto_1)(av:autoParam (env.kindOf "bytearray"=some .globalImplicit) aL._auto_1):bk prog w h₁ own env ns k (eval (.Name "bytearray" pos) env) (I (.bY (.type "bytearray"))):=
 lA B (by kernel_rfl) (by kernel_rfl) (by decide) hk aU ag av
theorem A4(B:bP (KK w.params) h₁)(hk:autoParam (env.scope.kind=.function) aL._auto_1)(aU:autoParam (env.globals=mainGlobals) aL._auto_1)(ag:autoParam (env.builtins=builtinsNs) aL._auto_1)(av:autoParam (env.kindOf "enumerate"=some .globalImplicit) aL._auto_1):bk prog w h₁ own env ns k (eval (.Name "enumerate" pos) env) (I (.bY (.type "enumerate"))):=
 lA B (by kernel_rfl) (by kernel_rfl) (by decide) hk aU ag av
end
noncomputable def yE:ct:=aj (bV (boolOf (af fV (C 0) (I EW))) (aj (bD (I (.str "same"))) (aD)) (aD)) (aj (bV (boolOf (af fV (C 0) (I EX))) (aj (bD (I (.str "holder"))) (aD)) (aD)) (aj (bV (boolOf (af fV (C 0) (I EY))) (aj (bD (I (.str "latest"))) (aD)) (aD)) (aj (bD (eL (boolOf (af fV (C 0) (I EZ))) (I (.str "blocked")) (I (.str "never")))) (aD))))
noncomputable def rh:b3:=er yE 1 0
noncomputable def yD:ct:=aj (cc 1 (af a8 (C 0) (I (.int 0)))) (aj (bV (boolOf (af fV (C 1) (bR (aa (I (.str "max_stream_data")) (aa (I (.str "stream_data_blocked")) (aa (I (.str "stop_sending")) (aa (I (.str "reset_stream")) (ar)))))))) (aj (bD (bR (aa (C 1) (aa (af a8 (C 0) (I (.int 1))) (ar))))) (aD)) (aD)) (aj (bV (boolOf (af fV (C 1) (bR (aa (I (.str "max_streams")) (aa (I (.str "streams_blocked")) (ar)))))) (aj (bD (bR (aa (C 1) (aa (af a8 (C 0) (I (.int 1))) (ar))))) (aD)) (aD)) (aj (bV (boolOf (af fV (C 1) (bR (aa (I (.str "new_connection_id")) (aa (I (.str "retire_connection_id")) (ar)))))) (aj (bD (bR (aa (C 1) (aa (af a8 (C 0) (I (.int 1))) (ar))))) (aD)) (aD)) (aj (bV (boolOf (af cw (C 1) (I (.str "new_token")))) (aj (bD (bR (aa (C 1) (aa (af a8 (C 0) (I (.int 1))) (ar))))) (aD)) (aD)) (aj (bD (bR (aa (C 1) (aa (I (.none)) (ar))))) (aD))))))
noncomputable def rg:b3:=er yD 1 1
noncomputable def EJ:ct:=aj (hL (C 2) (C 1) (bb rg (aa (C 3) (ar)))) (aD)
noncomputable def vC:ct:=aj (cc 1 (gR (.b8 []))) (aj (nS (C 0) (dX [2,3]) EJ) (aj (bD (fM (uZ (C 1)) (eJ [none,some 0]) (c9 0) (e4) (af a8 (C 1) (C 0)))) (aD)))
noncomputable def th:b3:=er vC 1 3
noncomputable def EM:ct:=aj (fR (dX [6,7]) (bR (aa (bb rh (aa (af a8 (C 5) (I (.int 0))) (ar))) (aa (bb rg (aa (C 5) (ar))) (ar))))) (aj (bV (c3 (boolOf (af fV (C 7) (C 3))) (c3 (boolOf (af cw (C 6) (I (.str "holder")))) (c3 (boolOf (af cw (C 6) (I (.str "never")))) (fN)))) (aj (tD) (aD)) (aD)) (aj (bV (boolOf (af cw (C 6) (I (.str "same")))) (aj (dZ (dP d6 fo (C 4) (aa (C 5) (ar)))) (aD)) (aj (bV (boolOf (af cw (C 6) (I (.str "latest")))) (aj (dZ (dP d6 fo (C 4) (aa (af cM (ji (C 5) (I .none) (j4 k4 (I (.int 1)))) (bR (aa (dP uh w3 (C 1) (aa (C 7) (aa (af a8 (C 5) (j4 k4 (I (.int 1)))) (ar)))) (ar)))) (ar)))) (aD)) (aj (bV (boolOf (af fV (C 7) (C 2))) (aj (dZ (dP d6 fo (C 4) (aa (af cM (ji (C 5) (I .none) (j4 k4 (I (.int 1)))) (bR (aa (af a8 (C 2) (C 7)) (ar)))) (ar)))) (aD)) (aD)) (aD))) (aD))) (aD)))
noncomputable def vM:ct:=aj (cc 4 (gF (ar))) (aj (fE (C 0) (c9 5) EM) (aj (bD (bb th (aa (C 4) (ar)))) (aD)))
noncomputable def tk:b3:=er vM 4 4
noncomputable def vw:ct:=aj (bD (fM (C 0) (eJ [none]) (c9 0) (boolOf (af cw (bb rh (aa (af a8 (C 0) (I (.int 0))) (ar))) (I (.str "holder")))) (C 0))) (aD)
noncomputable def s':b3:=er vw 1 0
noncomputable def EL:ct:=aj (u2 (af hJ (C 0) (I (.int 256))) (C 2) (C 3)) (aj (cc 0 (af tP (C 0) (I (.int 256)))) (aD))
noncomputable def vL:ct:=aj (bV (c3 (boolOf (af jX (C 0) (I (.int 0)))) (c3 (boolOf (af gk (af Df (C 0) (af lR (I (.int 8)) (C 1))) (I (.int 0)))) (fN))) (aj (ml) (aD)) (aD)) (aj (cc 2 (bb zj (aa (C 1) (ar)))) (aj (fE (bb mJ (aa (af ku (C 1) (I (.int 1))) (aa (j4 k4 (I (.int 1))) (aa (j4 k4 (I (.int 1))) (ar))))) (c9 3) EL) (aj (bD (bb wi (aa (C 2) (ar)))) (aD))))
noncomputable def rf:b3:=er vL 2 2
noncomputable def EN:ct:=aj (bV (tC qI jX (I (.int 0)) (C 0) (af uX (I (.int 1)) (af ku (af lR (I (.int 8)) (C 1)) (I (.int 2))))) (aj (bD (C 1)) (aD)) (aD)) (aD)
noncomputable def vN:ct:=aj (fE (I p5) (c9 1) EN) (aj (ml) (aD))
noncomputable def tl:b3:=er vN 1 1
noncomputable def vK:ct:=aj (cc 2 (bb tl (aa (C 0) (ar)))) (aj (bV (boolOf (af jx (C 1) (I (.none)))) (aj (cc 1 (C 2)) (aD)) (aD)) (aj (bV (c3 (boolOf (af jX (C 1) (C 2))) (c3 (boolOf (af pl (C 1) (I p5))) (fN))) (aj (ml) (aD)) (aD)) (aj (bD (bb rf (aa (af CT (af uX (dP ui xm (I p5) (aa (C 1) (ar))) (af ku (af lR (I (.int 8)) (C 1)) (I (.int 2)))) (C 0)) (aa (C 1) (ar))))) (aD))))
noncomputable def pX:b3:=er vK 2 1
noncomputable def vH:ct:=aj (bD (dP xo xt (I (.bytes [])) (aa (fM (C 0) (eJ [none]) (c9 0) (e4) (bb pX (aa (C 0) (aa (I (.none)) (ar))))) (ar)))) (aD)
noncomputable def hC:b3:=er vH 1 0
noncomputable def vE:ct:=aj (bD (af cM (bb pX (aa (bb fq (aa (C 0) (ar))) (aa (I (.none)) (ar)))) (C 0))) (aD)
noncomputable def lj:b3:=er vE 1 0
noncomputable def vJ:ct:=aj (fR (dX [2,3,4,5,6]) (C 0)) (aj (cc 7 (af cM (af cM (af cM (I y5) (eL (boolOf (C 6)) (I yU) (I (.int 0)))) (eL (boolOf (C 1)) (I (.int 0)) (I yV))) (eL (boolOf (af jw (C 4) (I (.int 0)))) (I yW) (I (.int 0))))) (aj (cc 8 (bb hC (aa (af cM (dE (aa (C 7) (aa (C 3) (ar)))) (eL (boolOf (af jw (C 4) (I (.int 0)))) (dE (aa (C 4) (ar))) (dE (ar)))) (ar)))) (aj (bD (af cM (C 8) (eL (boolOf (C 1)) (C 5) (bb lj (aa (C 5) (ar)))))) (aD))))
noncomputable def tj:b3:=er vJ 2 7
noncomputable def vG:ct:=aj (fR (dX [1,2,3,4,5]) (C 0)) (aj (bD (af cM (af cM (af cM (bb hC (aa (dE (aa (I y1) (aa (C 2) (aa (C 3) (ar))))) (ar))) (bb gE (aa (dE (aa (bb fq (aa (C 4) (ar))) (ar))) (ar)))) (C 4)) (C 5))) (aD))
noncomputable def ti:b3:=er vG 1 5
noncomputable def vI:ct:=aj (cc 1 (af a8 (C 0) (I (.int 0)))) (aj (bV (boolOf (af cw (C 1) (I (.str "crypto")))) (aj (bD (af cM (bb hC (aa (dE (aa (I yX) (aa (af a8 (C 0) (I (.int 1))) (ar)))) (ar))) (bb lj (aa (af a8 (C 0) (I (.int 2))) (ar))))) (aD)) (aD)) (aj (bV (boolOf (af cw (C 1) (I (.str "new_token")))) (aj (bD (af cM (bb hC (aa (dE (aa (I y2) (ar))) (ar))) (bb lj (aa (af a8 (C 0) (I (.int 1))) (ar))))) (aD)) (aD)) (aj (bV (c3 (boolOf (af cw (C 1) (I (.str "path_challenge")))) (c3 (boolOf (af cw (C 1) (I (.str "path_response")))) (fN))) (aj (bD (af cM (bb hC (aa (dE (aa (eL (boolOf (af cw (C 1) (I (.str "path_challenge")))) (I y3) (I y4)) (ar))) (ar))) (af a8 (C 0) (I (.int 1))))) (aD)) (aD)) (aj (bV (boolOf (af cw (C 1) (I (.str "max_streams")))) (aj (bD (bb hC (aa (dE (aa (eL (boolOf (af a8 (C 0) (I (.int 1)))) (I y0) (I yZ)) (aa (af a8 (C 0) (I (.int 2))) (ar)))) (ar)))) (aD)) (aD)) (aj (bV (boolOf (af cw (C 1) (I (.str "streams_blocked")))) (aj (bD (bb hC (aa (dE (aa (eL (boolOf (af a8 (C 0) (I (.int 1)))) (I y7) (I y6)) (aa (af a8 (C 0) (I (.int 2))) (ar)))) (ar)))) (aD)) (aD)) (aj (bD (I (.none))) (aD)))))))
noncomputable def rd:b3:=er vI 1 1
noncomputable def vF:ct:=aj (cc 1 (af a8 (C 0) (I (.int 0)))) (aj (bV (boolOf (af cw (C 1) (I (.str "padding")))) (aj (bD (bb gE (aa (nR) (ar)))) (aD)) (aD)) (aj (bV (boolOf (af fV (C 1) (I ro))) (aj (bD (bb hC (aa (af cM (dE (aa (af a8 (I ro) (C 1)) (ar))) (bb n' (aa (ji (C 0) (I (.int 1)) (I .none)) (ar)))) (ar)))) (aD)) (aD)) (aj (bV (boolOf (af cw (C 1) (I (.str "ack")))) (aj (bD (nR)) (aD)) (aD)) (aj (bV (boolOf (af cw (C 1) (I (.str "stream")))) (aj (bD (bb tj (aa (C 0) (aa (I (.bool false)) (ar))))) (aD)) (aD)) (aj (bV (boolOf (af cw (C 1) (I (.str "new_connection_id")))) (aj (bD (bb ti (aa (C 0) (ar)))) (aD)) (aD)) (aj (bV (boolOf (af cw (C 1) (I (.str "close")))) (aj (bD (nR)) (aD)) (aD)) (aj (cc 2 (bb rd (aa (C 0) (ar)))) (aj (bV (boolOf (af jx (C 2) (I (.none)))) (aj (ml) (aD)) (aD)) (aj (bD (C 2)) (aD))))))))))
noncomputable def nC:b3:=er vF 1 2
noncomputable def vv:ct:=aj (bD (bb fq (aa (bb nC (aa (C 0) (ar))) (ar)))) (aD)
noncomputable def j7:b3:=er vv 1 0
noncomputable def vr:ct:=aj (bD (eL (boolOf (af cw (af a8 (C 0) (I (.int 0))) (I (.str "crypto")))) (af a8 (C 0) (I (.int 2))) (af a8 (C 0) (I (.int 3))))) (aD)
noncomputable def pT:b3:=er vr 1 0
noncomputable def vP:ct:=aj (bV (boolOf (af cw (af a8 (C 0) (I (.int 0))) (I (.str "crypto")))) (aj (bD (bR (aa (I (.str "crypto")) (aa (af cM (af a8 (C 0) (I (.int 1))) (C 1)) (aa (C 2) (ar)))))) (aD)) (aD)) (aj (bD (bR (aa (I (.str "stream")) (aa (af a8 (C 0) (I (.int 1))) (aa (af cM (af a8 (C 0) (I (.int 2))) (C 1)) (aa (C 2) (aa (C 3) (ar)))))))) (aD))
noncomputable def jo:b3:=er vP 4 0
noncomputable def EC:ct:=aj (p6 3 ku (I (.int 1))) (aD)
noncomputable def vt:ct:=aj (cc 2 (bb pT (aa (C 0) (ar)))) (aj (bV (boolOf (af jw (bb j7 (aa (bb jo (aa (C 0) (aa (I (.int 0)) (aa (I (.bytes [])) (aa (I (.bool false)) (ar)))))) (ar))) (C 1))) (aj (bD (j4 k4 (I (.int 1)))) (aD)) (aD)) (aj (cc 3 (bb Cr (aa (bb fq (aa (C 2) (ar))) (aa (af ku (C 1) (bb j7 (aa (bb jo (aa (C 0) (aa (I (.int 0)) (aa (I (.bytes [])) (aa (I (.bool false)) (ar)))))) (ar)))) (ar))))) (aj (pG (boolOf (af jw (bb j7 (aa (bb jo (aa (C 0) (aa (I (.int 0)) (aa (ji (C 2) (I .none) (C 3)) (aa (I (.bool false)) (ar)))))) (ar))) (C 1))) EC) (aj (bD (C 3)) (aD)))))
noncomputable def s9:b3:=er vt 2 2
noncomputable def vq:ct:=aj (bV (boolOf (af qI (bb j7 (aa (C 0) (ar))) (C 1))) (aj (bD (bR (aa (C 0) (aa (I (.none)) (ar))))) (aD)) (aD)) (aj (bV (boolOf (af pl (af a8 (C 0) (I (.int 0))) (I yY))) (aj (bD (bR (aa (I (.none)) (aa (C 0) (ar))))) (aD)) (aD)) (aj (fR (dX [2,3]) (bR (aa (bb s9 (aa (C 0) (aa (C 1) (ar)))) (aa (bb pT (aa (C 0) (ar))) (ar))))) (aj (bV (c3 (boolOf (af jX (C 2) (I (.int 1)))) (c3 (boolOf (af A9 (C 2) (bb fq (aa (C 3) (ar))))) (fN))) (aj (bD (bR (aa (I (.none)) (aa (C 0) (ar))))) (aD)) (aD)) (aj (cc 4 (mT (af cw (af a8 (C 0) (I (.int 0))) (I (.str "stream"))) (af a8 (C 0) (I (.int 4))))) (aj (bD (bR (aa (bb jo (aa (C 0) (aa (I (.int 0)) (aa (ji (C 3) (I .none) (C 2)) (aa (I (.bool false)) (ar)))))) (aa (bb jo (aa (C 0) (aa (C 2) (aa (ji (C 3) (C 2) (I .none)) (aa (C 4) (ar)))))) (ar))))) (aD))))))
noncomputable def s8:b3:=er vq 2 3
noncomputable def ED:ct:=aj (fR (dX [5,6]) (bb s8 (aa (C 4) (aa (C 1) (ar))))) (aj (bV (boolOf (af lL (C 5) (I (.none)))) (aj (dZ (dP d6 fo (C 2) (aa (C 5) (ar)))) (aj (p6 1 ku (bb j7 (aa (C 5) (ar)))) (aD))) (aD)) (aj (bV (boolOf (af lL (C 6) (I (.none)))) (aj (dZ (dP d6 fo (C 3) (aa (C 6) (ar)))) (aD)) (aD)) (aD)))
noncomputable def vu:ct:=aj (fR (dX [2,3]) (bR (aa (gF (ar)) (aa (gF (ar)) (ar))))) (aj (fE (C 0) (c9 4) ED) (aj (bD (bR (aa (C 2) (aa (C 3) (ar))))) (aD)))
noncomputable def pU:b3:=er vu 2 5
noncomputable def EE:ct:=aj (fR (dX [4,5]) (bb pU (aa (C 3) (aa (C 1) (ar))))) (aj (bV (boolOf (af cw (bb fq (aa (C 4) (ar))) (I (.int 0)))) (aj (bD (I (.none))) (aD)) (aD)) (aj (dZ (dP d6 fo (C 2) (aa (C 4) (ar)))) (aj (cc 3 (C 5)) (aD))))
noncomputable def vx:ct:=aj (fR (dX [2,3]) (bR (aa (gF (ar)) (aa (bb n' (aa (C 0) (ar))) (ar))))) (aj (pG (boolOf (af jw (bb fq (aa (C 3) (ar))) (I (.int 0)))) EE) (aj (bD (C 2)) (aD)))
noncomputable def tc:b3:=er vx 2 4
noncomputable def yC:ct:=aj (bD (dP ui xm (I jL) (aa (C 0) (ar)))) (aD)
noncomputable def td:b3:=er yC 1 0
noncomputable def EK:ct:=aj (cc 3 (dP qE o5 (C 0) (aa (C 2) (ar)))) (aj (bV (fC (boolOf (af lL (C 3) (I (.none)))) (fC (c3 (boolOf (af jx (C 1) (I (.none)))) (c3 (boolOf (af jX (C 3) (af a8 (C 1) (I (.int 0))))) (fN))) (e4))) (aj (cc 1 (bR (aa (C 3) (aa (C 2) (ar))))) (aD)) (aD)) (aD))
noncomputable def vD:ct:=aj (cc 1 (I (.none))) (aj (fE (I jL) (c9 2) EK) (aj (bD (C 1)) (aD)))
noncomputable def pW:b3:=er vD 1 3
noncomputable def EB:ct:=aj (cc 4 (dP qE o5 (C 0) (aa (C 3) (ar)))) (aj (bV (fC (boolOf (af lL (C 4) (I (.none)))) (fC (boolOf (af qI (C 4) (C 1))) (e4))) (aj (dZ (dP d6 fo (C 2) (aa (bR (aa (C 4) (aa (bb td (aa (C 3) (ar))) (ar)))) (ar)))) (aD)) (aD)) (aD))
noncomputable def vp:ct:=aj (cc 2 (gF (ar))) (aj (fE (I jL) (c9 3) EB) (aj (bD (fM (bb yg (aa (C 2) (ar))) (eJ [none,none]) (dX [0,1]) (e4) (af a8 (I jL) (C 1)))) (aD)))
noncomputable def s7:b3:=er vp 2 3
noncomputable def vO:ct:=aj (cc 3 (bb wx (aa (oV (C 0) (eJ [none,some 0,some 1]) (c9 0) (boolOf (af gk (C 0) (C 2))) (bR (aa (C 0) (aa (af a8 (C 1) (C 0)) (ar))))) ar))) (aj (bV (boolOf (af lL (C 2) (I (.none)))) (aj (hL (C 2) (C 3) (C 1)) (aD)) (aD)) (aj (bD (C 3)) (aD)))
noncomputable def tn:b3:=er vO 3 1
noncomputable def vz:ct:=aj (uW (bb tn (aa (kQ (C 0)) (aa (C 1) (aa (C 2) (ar))))) (C 0)) (aD)
noncomputable def pV:b3:=er vz 3 0
noncomputable def vB:ct:=aj (bD (dP qE o5 (kQ (C 0)) (aa (C 1) (ar)))) (aD)
noncomputable def tg:b3:=er vB 2 0
noncomputable def vy:ct:=aj (cc 1 (bb pW (aa (kQ (C 0)) (ar)))) (aj (bD (eL (boolOf (af jx (C 1) (I (.none)))) (I (.none)) (af a8 (C 1) (I (.int 0))))) (aD))
noncomputable def te:b3:=er vy 1 1
noncomputable def EI:ct:=aj (dZ (k3 pV (C 0) (aa (C 3) (aa (I (.none)) (ar))))) (aD)
noncomputable def vA:ct:=aj (cc 2 (bb s7 (aa (kQ (C 0)) (aa (C 1) (ar))))) (aj (fE (C 2) (c9 3) EI) (aj (bD (C 2)) (aD)))
noncomputable def tf:b3:=er vA 2 2
noncomputable def vm:ct:=aj (cc 2 (af a8 (C 0) (I (.int 1)))) (aj (cc 3 (eL (boolOf (af gk (C 2) (dE (ar)))) (bb v8 (aa (af a8 (C 2) (af hJ (af a8 (C 0) (I (.int 2))) (bb fq (aa (C 2) (ar))))) (ar))) (I (.int 47)))) (aj (hL (af cM (af a8 (C 0) (I (.int 2))) (I (.int 1))) (C 0) (I (.int 2))) (aj (hL (af hJ (af cM (af cM (af lR (af a8 (C 0) (I (.int 0))) (I (.int 48271))) (af hJ (C 3) (I (.int 1000003)))) (I (.int 59))) (I (.int 2147483647))) (C 0) (I (.int 0))) (aj (bD (af hJ (af tP (af a8 (C 0) (I (.int 0))) (I (.int 13))) (C 1))) (aD)))))
noncomputable def g0:b3:=er vm 2 2
noncomputable def Ex:ct:=aj (cc 3 (af cM (I (.int 1)) (bb g0 (aa (C 0) (aa (I (.int 30)) (ar)))))) (aj (dZ (dP d6 fo (C 1) (aa (bR (aa (I (.str "stream")) (aa (af lR (I (.int 4)) (C 2)) (aa (I (.int 0)) (aa (bb gE (aa (fM (bb mJ (aa (C 3) (ar))) (eJ [none,some 2]) (c9 0) (e4) (af hJ (af cM (C 1) (C 0)) (I (.int 256)))) (ar))) (aa (I (.bool true)) (ar))))))) (ar)))) (aD))
noncomputable def sV:ct:=aj (cc 1 (gF (aa (bR (aa (I (.str "max_data")) (aa (I (.int 10)) (ar)))) (aa (bR (aa (I (.str "max_data")) (aa (I (.int 20)) (ar)))) (aa (bR (aa (I (.str "stop_sending")) (aa (I (.int 4)) (aa (I (.int 7)) (ar))))) (aa (bR (aa (I (.str "path_challenge")) (aa (I (.bytes nJ)) (ar)))) (ar))))))) (aj (dZ (dP d6 fo (C 1) (aa (bR (aa (I (.str "data_blocked")) (aa (I (.int 9)) (ar)))) (ar)))) (aj (dZ (dP d6 fo (C 1) (aa (bR (aa (I (.str "new_connection_id")) (aa (af cM (I (.int 1)) (bb g0 (aa (C 0) (aa (I (.int 3)) (ar))))) (aa (I (.int 0)) (aa (bb gE (aa (I (.int 8)) (ar))) (aa (bb gE (aa (I (.int 16)) (ar))) (ar))))))) (ar)))) (aj (fE (bb mJ (aa (af cM (I (.int 1)) (bb g0 (aa (C 0) (aa (I (.int 2)) (ar))))) (ar))) (c9 2) Ex) (aj (dZ (dP d6 fo (C 1) (aa (bR (aa (I (.str "crypto")) (aa (I (.int 0)) (aa (bb gE (aa (fM (bb mJ (aa (af cM (I (.int 1)) (bb g0 (aa (C 0) (aa (I (.int 20)) (ar))))) (ar))) (eJ [none]) (c9 0) (e4) (af hJ (af cM (I (.int 90)) (C 0)) (I (.int 256)))) (ar))) (ar))))) (ar)))) (aj (bD (C 1)) (aD))))))
noncomputable def sZ:b3:=er sV 1 3
noncomputable def Eu:ct:=aj (hL (C 7) (af a8 (C 0) (I (.str "octets"))) (bR (aa (C 3) (aa (af cM (C 4) (C 6)) (ar))))) (aD)
noncomputable def Ew:ct:=aj (bV (boolOf (af fV (af a8 (C 2) (I (.int 0))) (bR (aa (I (.str "stream")) (aa (I (.str "crypto")) (ar)))))) (aj (fR (dX [3,4,5]) (eL (boolOf (af cw (af a8 (C 2) (I (.int 0))) (I (.str "stream")))) (bR (aa (af a8 (C 2) (I (.int 1))) (aa (af a8 (C 2) (I (.int 2))) (aa (af a8 (C 2) (I (.int 3))) (ar))))) (bR (aa (I (.str "crypto")) (aa (af a8 (C 2) (I (.int 1))) (aa (af a8 (C 2) (I (.int 2))) (ar))))))) (aj (nS (C 5) (dX [6,7]) Eu) (aj (bV (fC (boolOf (af cw (af a8 (C 2) (I (.int 0))) (I (.str "stream")))) (fC (boolOf (af a8 (C 2) (I (.int 4)))) (e4))) (aj (hL (af cM (C 4) (bb fq (aa (C 5) (ar)))) (af a8 (C 0) (I (.str "ends"))) (C 3)) (aD)) (aD)) (aD)))) (aj (dZ (dP d6 fo (af a8 (C 0) (I (.str "came"))) (aa (C 2) (ar)))) (aD))) (aD)
noncomputable def vl:ct:=aj (fE (C 1) (c9 2) Ew) (aD)
noncomputable def ma:b3:=er vl 2 6
noncomputable def Ez:ct:=aj (hL (C 8) (C 2) (bR (aa (C 5) (aa (C 7) (ar))))) (aD)
noncomputable def EA:ct:=aj (bV (boolOf (af fV (af a8 (C 4) (I (.int 0))) (bR (aa (I (.str "stream")) (aa (I (.str "crypto")) (ar)))))) (aj (fR (dX [5,6]) (eL (boolOf (af cw (af a8 (C 4) (I (.int 0))) (I (.str "stream")))) (bR (aa (af a8 (C 4) (I (.int 1))) (aa (af a8 (C 4) (I (.int 3))) (ar)))) (bR (aa (I (.str "crypto")) (aa (af a8 (C 4) (I (.int 2))) (ar)))))) (aj (nS (C 6) (dX [7,8]) Ez) (aj (bV (boolOf (af cw (af a8 (C 4) (I (.int 0))) (I (.str "stream")))) (aj (hL (bb fq (aa (C 6) (ar))) (C 3) (C 5)) (aD)) (aD)) (aD)))) (aD)) (aD)
noncomputable def vo:ct:=aj (fR (dX [2,3]) (bR (aa (gR (.b8 [])) (aa (gR (.cn [])) (ar))))) (aj (fE (C 1) (c9 4) EA) (aj (bD (mT (af cw (af a8 (C 0) (I (.str "octets"))) (C 2)) (af cw (af a8 (C 0) (I (.str "ends"))) (C 3)))) (aD)))
noncomputable def s6:b3:=er vo 2 7
noncomputable def Ey:ct:=aj (bV (c3 (boolOf (af cw (C 6) (dE (ar)))) (c3 (boolOf (af jw (bb q0 (aa (fM (C 6) (eJ [none]) (c9 0) (e4) (bb fq (aa (bb nC (aa (C 0) (ar))) (ar)))) (ar))) (C 3))) (fN))) (aj (bD (I (.bool false))) (aD)) (aD)) (aj (cc 7 (af a8 (dE (aa (I (.str "loss")) (aa (I (.str "probe")) (aa (I (.str "ack")) (aa (I (.str "path")) (aa (I (.str "idle")) (aa (I (.str "closed")) (ar)))))))) (af hJ (bb fq (aa (af a8 (C 1) (I (.str "flying"))) (ar))) (I (.int 6))))) (aj (bV (boolOf (af jx (k3 tg (af a8 (C 1) (I (.str "alarms"))) (aa (C 7) (ar))) (I (.none)))) (aj (dZ (k3 pV (af a8 (C 1) (I (.str "alarms"))) (aa (C 7) (aa (af cM (af cM (C 4) (I (.int 5))) (bb g0 (aa (C 0) (aa (I (.int 30)) (ar))))) (ar))))) (aj (dZ (dP d6 fo (af a8 (C 1) (I (.str "flying"))) (aa (bR (aa (C 7) (aa (C 6) (ar)))) (ar)))) (aD))) (aj (dZ (bb ma (aa (C 1) (aa (C 6) (ar))))) (aD))) (aj (dZ (dP d6 nP (af a8 (C 1) (I (.str "told"))) (aa (C 6) (ar)))) (aD))))
noncomputable def vn:ct:=aj (cc 5 (bb tc (aa (C 2) (aa (C 3) (ar))))) (aj (bV (boolOf (af jx (C 5) (I (.none)))) (aj (bD (I (.bool false))) (aD)) (aD)) (aj (fE (C 5) (c9 6) Ey) (aj (bD (I (.bool true))) (aD))))
noncomputable def pS:b3:=er vn 5 3
noncomputable def EF:ct:=aj (cc 14 (af a8 (fM (af a8 (C 7) (I (.str "flying"))) (eJ [none,some 13]) (c9 0) (boolOf (af cw (af a8 (C 0) (I (.int 0))) (C 1))) (af a8 (C 0) (I (.int 1)))) (I (.int 0)))) (aj (hL (oV (af a8 (C 7) (I (.str "flying"))) (eJ [none,some 13]) (c9 0) (boolOf (af gk (af a8 (C 0) (I (.int 0))) (C 1))) (C 0)) (C 7) (I (.str "flying"))) (aj (bV (c3 (fC (boolOf (af jX (C 9) (I (.int 4)))) (fC (boolOf (af jw (bb g0 (aa (C 1) (aa (I (.int 3)) (ar)))) (I (.int 0)))) (e4))) (c3 (boolOf (af cw (C 9) (I (.int 0)))) (fN))) (aj (dZ (dP d6 nP (C 12) (aa (C 14) (ar)))) (aD)) (aj (dZ (bb ma (aa (C 7) (aa (C 14) (ar))))) (aD))) (aD)))
noncomputable def EG:ct:=aj (cc 10 (bb pW (aa (kQ (af a8 (C 7) (I (.str "alarms")))) (ar)))) (aj (bV (boolOf (af jx (C 10) (I (.none)))) (aj (tB) (aD)) (aD)) (aj (bV (c3 (boolOf (af jX (af a8 (C 10) (I (.int 0))) (C 4))) (c3 (boolOf (af gk (af a8 (C 10) (I (.int 0))) (k3 te (af a8 (C 7) (I (.str "alarms"))) (ar)))) (fN))) (aj (bD (I (.bool false))) (aD)) (aD)) (aj (cc 4 (af a8 (C 10) (I (.int 0)))) (aj (cc 11 (k3 tf (af a8 (C 7) (I (.str "alarms"))) (aa (C 4) (ar)))) (aj (bV (c3 (boolOf (af cw (C 11) (dE (ar)))) (c3 (boolOf (af gk (af a8 (C 11) (I (.int 0))) (af a8 (C 10) (I (.int 1))))) (fN))) (aj (bD (I (.bool false))) (aD)) (aD)) (aj (cc 12 (gF (ar))) (aj (fE (C 11) (c9 13) EF) (aj (cc 8 (af cM (bb tk (aa (C 12) (aa (lz (.b8 []) (hb (bR (aa (I (.str "max_data")) (aa (I (.none)) (ar)))) (I (.int 33)) (k5))) (aa (C 6) (aa (C 5) (ar)))))) (bb s' (aa (C 12) (ar))))) (aj (bV (c3 (boolOf (af pl (fM (C 8) (eJ [none]) (c9 0) (boolOf (af cw (af a8 (C 0) (I (.int 0))) (I (.str "max_data")))) (C 0)) (bR (aa (dE (ar)) (aa (dE (aa (bR (aa (I (.str "max_data")) (aa (I (.int 33)) (ar)))) (ar))) (ar)))))) (c3 (boolOf (af fV (bR (aa (I (.str "path_challenge")) (aa (I (.bytes nJ)) (ar)))) (C 8))) (fN))) (aj (bD (I (.bool false))) (aD)) (aD)) (aj (bV (c3 (fC (boolOf (af fV (bR (aa (I (.str "data_blocked")) (aa (I (.int 9)) (ar)))) (C 8))) (fC (boolOf (af cw (C 6) (gR (.b8 [])))) (e4))) (c3 (fC (boolOf (af fV (bR (aa (I (.str "stop_sending")) (aa (I (.int 4)) (aa (I (.int 7)) (ar))))) (C 8))) (fC (boolOf (af gk (C 5) (gR (.b8 [])))) (e4))) (fN))) (aj (bD (I (.bool false))) (aD)) (aD)) (aj (bV (oi (boolOf (bb pS (aa (C 1) (aa (C 7) (aa (C 8) (aa (C 3) (aa (C 4) (ar))))))))) (aj (bD (I (.bool false))) (aD)) (aD)) (aD))))))))))))
noncomputable def EH:ct:=aj (dZ (bb ma (aa (C 7) (aa (C 14) (ar))))) (aD)
noncomputable def sW:ct:=aj (cc 0 (fM (ji (C 0) (I .none) (I (.int 24))) (eJ [none]) (c9 0) (e4) (bb BV (aa (C 0) (ar))))) (aj (cc 1 (gF (aa (af hJ (bb q0 (aa (C 0) (ar))) (I (.int 2147483647))) (aa (C 0) (aa (I (.int 0)) (ar)))))) (aj (fR (dX [2,3,4]) (bR (aa (bb sZ (aa (C 1) (ar))) (aa (af cM (I (.int 32)) (bb g0 (aa (C 1) (aa (I (.int 20)) (ar))))) (aa (I (.int 0)) (ar)))))) (aj (cc 5 (eL (boolOf (af cw (bb g0 (aa (C 1) (aa (I (.int 2)) (ar)))) (I (.int 0)))) (lz (.b8 []) (hb (bR (aa (I (.str "stop_sending")) (aa (I (.int 4)) (ar)))) (I (.bool true)) (k5))) (gR (.b8 [])))) (aj (cc 6 (eL (boolOf (af cw (bb g0 (aa (C 1) (aa (I (.int 2)) (ar)))) (I (.int 0)))) (lz (.b8 []) (hb (bR (aa (I (.str "data_blocked")) (aa (I (.none)) (ar)))) (I (.int 9)) (k5))) (gR (.b8 [])))) (aj (cc 7 (lz (.cn []) (hb (I (.str "flying")) (gF (ar)) (hb (I (.str "came")) (gF (ar)) (hb (I (.str "told")) (gF (ar)) (hb (I (.str "octets")) (gR (.b8 [])) (hb (I (.str "ends")) (gR (.cn [])) (hb (I (.str "alarms")) (uC) (k5))))))))) (aj (bV (oi (boolOf (bb pS (aa (C 1) (aa (C 7) (aa (C 2) (aa (C 3) (aa (C 4) (ar))))))))) (aj (bD (I (.bool false))) (aD)) (aD)) (aj (cc 8 (dE (ar))) (aj (fE (bb mJ (aa (I (.int 12)) (ar))) (c9 9) EG) (aj (fE (af a8 (C 7) (I (.str "flying"))) (dX [13,14]) EH) (aj (fR (dX [15,16]) (bb pU (aa (dE (aa (bR (aa (I (.str "crypto")) (aa (I (.int 0)) (aa (bb gE (aa (I (.int 9)) (ar))) (ar))))) (aa (bR (aa (I (.str "ping")) (ar))) (ar)))) (aa (I (.int 8)) (ar))))) (aj (bV (c3 (oi (boolOf (bb s6 (aa (C 7) (aa (C 2) (ar)))))) (c3 (boolOf (af gk (C 15) (dE (aa (bR (aa (I (.str "crypto")) (aa (I (.int 0)) (aa (bb gE (aa (I (.int 5)) (ar))) (ar))))) (ar))))) (c3 (boolOf (af gk (C 16) (dE (aa (bR (aa (I (.str "crypto")) (aa (I (.int 5)) (aa (bb gE (aa (I (.int 4)) (ar))) (ar))))) (aa (bR (aa (I (.str "ping")) (ar))) (ar)))))) (fN)))) (aj (bD (I (.bool false))) (aD)) (aD)) (aj (bV (boolOf (af gk (dP d6 wq (af a8 (C 7) (I (.str "told"))) (aa (bR (aa (I (.str "path_challenge")) (aa (I (.bytes nJ)) (ar)))) (ar))) (I (.int 1)))) (aj (bD (I (.bool false))) (aD)) (aD)) (aj (cc 17 (fM (C 2) (eJ [none]) (c9 0) (boolOf (af cw (af a8 (C 0) (I (.int 0))) (I (.str "new_connection_id")))) (C 0))) (aj (bD (mT (af fV (af a8 (C 17) (I (.int 0))) (af a8 (C 7) (I (.str "came")))) (af gk (fM (af a8 (C 7) (I (.str "came"))) (eJ [none]) (c9 0) (boolOf (af cw (af a8 (C 0) (I (.int 0))) (I (.str "max_data")))) (C 0)) (dE (ar))))) (aD)))))))))))))))
noncomputable def vS:b3:=er sW 1 17
section
variable{prog:Program}{w:World}{h₁:Heap}{k:Nat}
theorem Am(B:bP (KK w.params) h₁):OpOk prog w h₁ (k+1) (λvs=>call (.ref 25) vs) rh:=by
 have ag:∀aV,SOk prog w h₁ (callEnv wI aV 25) ["kind"] (k+0) (execs zG (callEnv wI aV 25)) yE:=by
  intro aV
  unfold yE zG pick
  refine aS ?_ ?_
  .refine dh (b6 (au (by rfl)) (QY B) jz) ?_ ?_
   .refine aS ?_ ?_
    .exact cS (bS)
    exact bg
   .exact bg
  refine aS ?_ ?_
  .refine dh (b6 (au (by rfl)) (Q3 B) jz) ?_ ?_
   .refine aS ?_ ?_
    .exact cS (bS)
    exact bg
   .exact bg
  refine aS ?_ ?_
  .refine dh (b6 (au (by rfl)) (Q6 B) jz) ?_ ?_
   .refine aS ?_ ?_
    .exact cS (bS)
    exact bg
   .exact bg
  refine aS ?_ ?_
  .exact cS (iN (b6 (au (by rfl)) (Rg B) jz) (bS) (bS))
  exact bg
 exact fD (xs:=["kind"]) (m:=0) B (B.X _ _ (xH w.params)) rfl (eQ B.X (by kernel_rfl)) rfl (i6 λ_=>rfl) rfl ⟨_,rfl⟩ (by decide) (by decide) (by decide) ag
theorem Al(B:bP (KK w.params) h₁):OpOk prog w h₁ (k+1) (λvs=>call (.ref 32) vs) rg:=by
 have ag:∀aV,SOk prog w h₁ (callEnv wL aV 32) ["frame","kind"] (k+0) (execs zO (callEnv wL aV 32)) yD:=by
  intro aV
  unfold yD zO pick
  refine aS ?_ ?_
  .exact d3 (b0 (au (by rfl)) (a')) (by rfl) (by decide) (.inl rfl)
  refine aS ?_ ?_
  .refine dh (b6 (au (by rfl)) (cQ (ax (bS) (ax (bS) (ax (bS) (ax (bS) (aO)))))) jz) ?_ ?_
   .refine aS ?_ ?_
    .exact cS (cQ (ax (au (by rfl)) (ax (b0 (au (by rfl)) (a')) (aO))))
    exact bg
   .exact bg
  refine aS ?_ ?_
  .refine dh (b6 (au (by rfl)) (cQ (ax (bS) (ax (bS) (aO)))) jz) ?_ ?_
   .refine aS ?_ ?_
    .exact cS (cQ (ax (au (by rfl)) (ax (b0 (au (by rfl)) (a')) (aO))))
    exact bg
   .exact bg
  refine aS ?_ ?_
  .refine dh (b6 (au (by rfl)) (cQ (ax (bS) (ax (bS) (aO)))) jz) ?_ ?_
   .refine aS ?_ ?_
    .exact cS (cQ (ax (au (by rfl)) (ax (b0 (au (by rfl)) (a')) (aO))))
    exact bg
   .exact bg
  refine aS ?_ ?_
  .refine dh (b6 (au (by rfl)) (bS) ec) ?_ ?_
   .refine aS ?_ ?_
    .exact cS (cQ (ax (au (by rfl)) (ax (b0 (au (by rfl)) (a')) (aO))))
    exact bg
   .exact bg
  refine aS ?_ ?_
  .exact cS (cQ (ax (au (by rfl)) (ax (gG) (aO))))
  exact bg
 exact fD (xs:=["frame"]) (m:=1) B (B.X _ _ (xJ w.params)) rfl (eQ B.X (by kernel_rfl)) rfl (i6 λ_=>rfl) rfl ⟨_,rfl⟩ (by decide) (by decide) (by decide) ag
theorem Qo(B:bP (KK w.params) h₁):OpOk prog w h₁ (k+2) (λvs=>call (.ref 49) vs) s':=by
 have ag:∀aV,SOk prog w h₁ (callEnv wO aV 49) ["lost"] (k+1) (execs zR (callEnv wO aV 49)) vw:=by
  intro aV
  unfold vw zR pick
  refine aS ?_ ?_
  .exact cS (lB (ns':=["frame"]) (au (by rfl)) (by first|rfl|kernel_rfl) (λ_=>js) (by decide) (by rfl) (by decide) (λ_=>gb (by rfl) (by decide) (.inl rfl)) (λ_=>oP (b6 (cJ (B.X _ _ (xH w.params)) rfl (A8 B) (ax (b0 (au (by rfl)) (a')) (aO)) (Am (k:=k+0) B)) (bS) ec)) (λ_=>au (by rfl)))
  exact bg
 exact fD (xs:=["lost"]) (m:=0) B (B.X _ _ (I2 w.params)) rfl (eQ B.X (by kernel_rfl)) rfl (i6 λ_=>rfl) rfl ⟨_,rfl⟩ (by decide) (by decide) (by decide) ag
end
section
variable{prog:Program}{w:World}{h₁:Heap}{k:Nat}
theorem Qv(B:bP (KK w.params) h₁):OpOk prog w h₁ (k+2) (λvs=>call (.ref 37) vs) th:=by
 have ag:∀aV,SOk prog w h₁ (callEnvC wM aV 37) ["frames","last","place","frame"] (k+1) (execs zP (callEnvC wM aV 37)) vC:=by
  intro aV
  unfold vC zP pick
  refine aS ?_ ?_
  .exact d3 (mj (.t)) (by rfl) (by decide) (.inl rfl)
  refine aS ?_ ?_
  .refine C9 (A4 B) (au (by rfl)) (i0 (.cons (by rfl) (.inl rfl) (.cons (by rfl) (.inl rfl) (.nil))) (by decide)) ?_
   .unfold EJ
    refine aS ?_ ?_
    .exact ox (au (by rfl)) (au (by rfl)) (cJ (B.X _ _ (xJ w.params)) rfl (A7 B) (ax (au (by rfl)) (aO)) (Al (k:=k+0) B))
    exact bg
  refine aS ?_ ?_
  .exact cS (lB (ns':=["place","frames"]) (P8 (Hy B) (au (by rfl))) (by first|rfl|kernel_rfl) (λ_=>js) (by decide) (by rfl) (by decide) (λ_=>gb (by rfl) (by decide) (.inl rfl)) (λ_=>oO) (λ_=>b0 (au (by rfl)) (au (by rfl))))
  exact bg
 exact wG (xs:=["frames"]) (m:=3) B (B.X _ _ (I0 w.params)) rfl (eQ B.X (by kernel_rfl)) rfl (i6 λ_=>rfl) rfl ⟨_,rfl⟩ (by decide) (by decide) ag
theorem QA(B:bP (KK w.params) h₁):OpOk prog w h₁ (k+3) (λvs=>call (.ref 44) vs) tk:=by
 have ag:∀aV,SOk prog w h₁ (callEnv wN aV 44) ["lost","limits","blocked","done","found","frame","way","subject"] (k+2) (execs zQ (callEnv wN aV 44)) vM:=by
  intro aV
  unfold vM zQ pick
  refine aS ?_ ?_
  .exact d3 (j' (aO)) (by rfl) (by decide) (.inl rfl)
  refine aS ?_ ?_
  .refine kq (au (by rfl)) (gb (by rfl) (by decide) (.inl rfl)) ?_
   .unfold EM
    refine aS ?_ ?_
    .first
      |exact k' (cQ (ax (cJ (B.X _ _ (xH w.params)) rfl (A8 B) (ax (b0 (au (by rfl)) (a')) (aO)) (Am (k:=k+1) B)) (ax (cJ (B.X _ _ (xJ w.params)) rfl (A7 B) (ax (au (by rfl)) (aO)) (Al (k:=k+1) B)) (aO)))) (i0 (.cons (by rfl) (.inl rfl) (.cons (by rfl) (.inl rfl) (.nil))) (by decide))
      |exact k9 (xs:=["way","subject"]) (cQ (ax (cJ (B.X _ _ (xH w.params)) rfl (A8 B) (ax (b0 (au (by rfl)) (a')) (aO)) (Am (k:=k+1) B)) (ax (cJ (B.X _ _ (xJ w.params)) rfl (A7 B) (ax (au (by rfl)) (aO)) (Al (k:=k+1) B)) (aO)))) (by rfl) (by repeat (first|exact dJ _|refine bO.mpr ⟨.inl rfl,?_⟩|refine bO.mpr ⟨.inr ⟨rfl,rfl,rfl⟩,?_⟩)) (by decide) (by decide)
    refine aS ?_ ?_
    .refine dh (iu (f7 (b6 (au (by rfl)) (au (by rfl)) jz) (f7 (b6 (au (by rfl)) (bS) ec) (f7 (b6 (au (by rfl)) (bS) ec) (kR))))) ?_ ?_
     .refine aS ?_ ?_
      .exact ZR
      exact bg
     .exact bg
    refine aS ?_ ?_
    .refine dh (b6 (au (by rfl)) (bS) ec) ?_ ?_
     .refine aS ?_ ?_
      .exact ik (hl jI kE la jC (au (by rfl)) (ax (au (by rfl)) (aO)) k6)
      exact bg
     .refine aS ?_ ?_
      .refine dh (b6 (au (by rfl)) (bS) ec) ?_ ?_
       .refine aS ?_ ?_
        .exact ik (hl jI kE la jC (au (by rfl)) (ax (c' (oZ (au (by rfl)) (pv) (pw (rH (a') si))) (cQ (ax (hl PySem.F.plainAttrs_dict PySem.F.slot_dict_get PySem.F.type_dict_get aa7 (au (by rfl)) (ax (au (by rfl)) (ax (b0 (au (by rfl)) (rH (a') si)) (aO))) U8) (aO))) fg) (aO)) k6)
        exact bg
       .refine aS ?_ ?_
        .refine dh (b6 (au (by rfl)) (au (by rfl)) jz) ?_ ?_
         .refine aS ?_ ?_
          .exact ik (hl jI kE la jC (au (by rfl)) (ax (c' (oZ (au (by rfl)) (pv) (pw (rH (a') si))) (cQ (ax (b0 (au (by rfl)) (au (by rfl))) (aO))) fg) (aO)) k6)
          exact bg
         .exact bg
        exact bg
      exact bg
    exact bg
  refine aS ?_ ?_
  .exact cS (cJ (B.X _ _ (I0 w.params)) rfl (Rq B) (ax (au (by rfl)) (aO)) (Qv (k:=k+0) B))
  exact bg
 exact fD (xs:=["lost","limits","blocked","done"]) (m:=4) B (B.X _ _ (I1 w.params)) rfl (eQ B.X (by kernel_rfl)) rfl (Fe λ_ _ _ _=>rfl) rfl ⟨_,rfl⟩ (by decide) (by decide) (by decide) ag
end
section
variable{prog:Program}{w:World}{h₁:Heap}{k:Nat}
theorem Qz(B:bP (KK w.params) h₁):OpOk prog w h₁ (k+1) (λvs=>call (.ref 77) vs) rf:=by
 have ag:∀aV,SOk prog w h₁ (callEnv wQ aV 77) ["n","size","found","place"] (k+0) (execs zS (callEnv wQ aV 77)) vL:=by
  intro aV
  unfold vL zS pick
  refine aS ?_ ?_
  .refine dh (iu (f7 (b6 (au (by rfl)) (a') qV) (f7 (b6 (c' (au (by rfl)) (c' (a') (au (by rfl)) uI) Vc) (a') mH) (kR)))) ?_ ?_
   .refine aS ?_ ?_
    .exact yc
    exact bg
   .exact bg
  refine aS ?_ ?_
  .exact d3 (hg (Rk B) (ax (au (by rfl)) (aO)) U3) (by rfl) (by decide) (.inl rfl)
  refine aS ?_ ?_
  .refine kq (hg (tS B) (ax (c' (au (by rfl)) (a') xW) (ax (rH (a') si) (ax (rH (a') si) (aO)))) uJ) (gb (by rfl) (by decide) (.inl rfl)) ?_
   .unfold EL
    refine aS ?_ ?_
    .exact ZT (c' (au (by rfl)) (a') oj) (au (by rfl)) (au (by rfl))
    refine aS ?_ ?_
    .exact d3 (c' (au (by rfl)) (a') JC) (by rfl) (by decide) (.inl rfl)
    exact bg
  refine aS ?_ ?_
  .exact cS (hg (mm B) (ax (au (by rfl)) (aO)) U4)
  exact bg
 exact fD (xs:=["n","size"]) (m:=2) B (B.X _ _ (I3 w.params)) rfl (eQ B.X (by kernel_rfl)) rfl (kP λ_ _=>rfl) rfl ⟨_,rfl⟩ (by decide) (by decide) (by decide) ag
theorem QB(B:bP (KK w.params) h₁):OpOk prog w h₁ (k+1) (λvs=>call (.ref 84) vs) tl:=by
 have ag:∀aV,SOk prog w h₁ (callEnv wR aV 84) ["n","size"] (k+0) (execs zT (callEnv wR aV 84)) vN:=by
  intro aV
  unfold vN zT pick
  refine aS ?_ ?_
  .refine kq (A1 B) (gb (by rfl) (by decide) (.inl rfl)) ?_
   .unfold EN
    refine aS ?_ ?_
    .refine dh (NC (a') (au (by rfl)) (c' (a') (c' (c' (a') (au (by rfl)) uI) (a') xW) JG) CA qV) ?_ ?_
     .refine aS ?_ ?_
      .exact cS (au (by rfl))
      exact bg
     .exact bg
    exact bg
  refine aS ?_ ?_
  .exact yc
  exact bg
 exact fD (xs:=["n"]) (m:=1) B (B.X _ _ (I4 w.params)) rfl (eQ B.X (by kernel_rfl)) rfl (i6 λ_=>rfl) rfl ⟨_,rfl⟩ (by decide) (by decide) (by decide) ag
theorem GF(B:bP (KK w.params) h₁):OpOk prog w h₁ (k+2) (λvs=>call (.ref 91) vs) pX:=by
 have ag:∀aV,SOk prog w h₁ (callEnv wU aV 91) ["n","size","least"] (k+1) (execs zU (callEnv wU aV 91)) vK:=by
  intro aV
  unfold vK zU pick
  refine aS ?_ ?_
  .exact d3 (cJ (B.X _ _ (I4 w.params)) rfl (Rx B) (ax (au (by rfl)) (aO)) (QB (k:=k+0) B)) (by rfl) (by decide) (.inl rfl)
  refine aS ?_ ?_
  .refine dh (b6 (au (by rfl)) (gG) qU) ?_ ?_
   .refine aS ?_ ?_
    .exact d3 (au (by rfl)) (by rfl) (by decide) (.inl rfl)
    exact bg
   .exact bg
  refine aS ?_ ?_
  .refine dh (iu (f7 (b6 (au (by rfl)) (au (by rfl)) qV) (f7 (b6 (au (by rfl)) (A1 B) CC) (kR)))) ?_ ?_
   .refine aS ?_ ?_
    .exact yc
    exact bg
   .exact bg
  refine aS ?_ ?_
  .exact cS (cJ (B.X _ _ (I3 w.params)) rfl (Rv B) (ax (c' (c' (hl PySem.F.plainAttrs_tuple PySem.F.slot_tuple_index PySem.F.type_tuple_index Lc (A1 B) (ax (au (by rfl)) (aO)) JD) (c' (c' (a') (au (by rfl)) uI) (a') xW) JG) (au (by rfl)) Vb) (ax (au (by rfl)) (aO))) (Qz (k:=k+0) B))
  exact bg
 exact fD (xs:=["n","size"]) (m:=1) B (B.X _ _ (Cg w.params)) rfl (eQ B.X (by kernel_rfl)) rfl (kP λ_ _=>rfl) rfl ⟨_,rfl⟩ (by decide) (by decide) (by decide) ag
theorem o3(B:bP (KK w.params) h₁):OpOk prog w h₁ (k+3) (λvs=>call (.ref 97) vs) hC:=by
 have ag:∀aV,SOk prog w h₁ (callEnv AN aV 97) ["numbers"] (k+2) (execs zV (callEnv AN aV 97)) vH:=by
  intro aV
  unfold vH zV pick
  refine aS ?_ ?_
  .exact cS (hl Ob Fz Od aa6 (rG) (ax (lB (ns':=["number"]) (au (by rfl)) (by first|rfl|kernel_rfl) (λ_=>js) (by decide) (by rfl) (by decide) (λ_=>gb (by rfl) (by decide) (.inl rfl)) (λ_=>oO) (λ_=>cJ (B.X _ _ (Cg w.params)) rfl (Hx B) (ax (au (by rfl)) (ax (gG) (aO))) (GF (k:=k+0) B))) (aO)) U')
  exact bg
 exact fD (xs:=["numbers"]) (m:=0) B (B.X _ _ (od w.params)) rfl (eQ B.X (by kernel_rfl)) rfl (i6 λ_=>rfl) rfl ⟨_,rfl⟩ (by decide) (by decide) (by decide) ag
theorem Ak(B:bP (KK w.params) h₁):OpOk prog w h₁ (k+3) (λvs=>call (.ref 104) vs) lj:=by
 have ag:∀aV,SOk prog w h₁ (callEnv An aV 104) ["data"] (k+2) (execs zo (callEnv An aV 104)) vE:=by
  intro aV
  unfold vE zo pick
  refine aS ?_ ?_
  .exact cS (c' (cJ (B.X _ _ (Cg w.params)) rfl (Hx B) (ax (i7 (lC B) (ax (au (by rfl)) (aO)) lS) (ax (gG) (aO))) (GF (k:=k+0) B)) (au (by rfl)) fg)
  exact bg
 exact fD (xs:=["data"]) (m:=0) B (B.X _ _ (xF w.params)) rfl (eQ B.X (by kernel_rfl)) rfl (i6 λ_=>rfl) rfl ⟨_,rfl⟩ (by decide) (by decide) (by decide) ag
end
section
variable{prog:Program}{w:World}{h₁:Heap}{k:Nat}
theorem Qy(B:bP (KK w.params) h₁):OpOk prog w h₁ (k+4) (λvs=>call (.ref 125) vs) tj:=by
 have ag:∀aV,SOk prog w h₁ (callEnv Ao aV 125) ["f","is_last","kind","number","offset","data","fin","told","head"] (k+3) (execs zp (callEnv Ao aV 125)) vJ:=by
  intro aV
  unfold vJ zp pick
  refine aS ?_ ?_
  .first
    |exact k' (au (by rfl)) (i0 (.cons (by rfl) (.inl rfl) (.cons (by rfl) (.inl rfl) (.cons (by rfl) (.inl rfl) (.cons (by rfl) (.inl rfl) (.cons (by rfl) (.inl rfl) (.nil)))))) (by decide))
    |exact k9 (xs:=["kind","number","offset","data","fin"]) (au (by rfl)) (by rfl) (by repeat (first|exact dJ _|refine bO.mpr ⟨.inl rfl,?_⟩|refine bO.mpr ⟨.inr ⟨rfl,rfl,rfl⟩,?_⟩)) (by decide) (by decide)
  refine aS ?_ ?_
  .exact d3 (c' (c' (c' (Rc B) (iN (nK (au (by rfl))) (Q0 B) (a')) fg) (iN (nK (au (by rfl))) (a') (Q1 B)) fg) (iN (b6 (au (by rfl)) (a') qT) (Q2 B) (a')) fg) (by rfl) (by decide) (.inl rfl)
  refine aS ?_ ?_
  .exact d3 (cJ (B.X _ _ (od w.params)) rfl (o4 B) (ax (c' (hj (ax (au (by rfl)) (ax (au (by rfl)) (aO)))) (iN (b6 (au (by rfl)) (a') qT) (hj (ax (au (by rfl)) (aO))) (hj (aO))) fg) (aO)) (o3 (k:=k+0) B)) (by rfl) (by decide) (.inl rfl)
  refine aS ?_ ?_
  .exact cS (c' (au (by rfl)) (iN (nK (au (by rfl))) (au (by rfl)) (cJ (B.X _ _ (xF w.params)) rfl (A6 B) (ax (au (by rfl)) (aO)) (Ak (k:=k+0) B))) fg)
  exact bg
 exact fD (xs:=["f","is_last"]) (m:=7) B (B.X _ _ (IM w.params)) rfl (eQ B.X (by kernel_rfl)) rfl (kP λ_ _=>rfl) rfl ⟨_,rfl⟩ (by decide) (by decide) (by decide) ag
theorem Qw(B:bP (KK w.params) h₁):OpOk prog w h₁ (k+4) (λvs=>call (.ref 132) vs) ti:=by
 have ag:∀aV,SOk prog w h₁ (callEnv Ap aV 132) ["f","kind","sequence","retire_prior","cid","token"] (k+3) (execs zq (callEnv Ap aV 132)) vG:=by
  intro aV
  unfold vG zq pick
  refine aS ?_ ?_
  .first
    |exact k' (au (by rfl)) (i0 (.cons (by rfl) (.inl rfl) (.cons (by rfl) (.inl rfl) (.cons (by rfl) (.inl rfl) (.cons (by rfl) (.inl rfl) (.cons (by rfl) (.inl rfl) (.nil)))))) (by decide))
    |exact k9 (xs:=["kind","sequence","retire_prior","cid","token"]) (au (by rfl)) (by rfl) (by repeat (first|exact dJ _|refine bO.mpr ⟨.inl rfl,?_⟩|refine bO.mpr ⟨.inr ⟨rfl,rfl,rfl⟩,?_⟩)) (by decide) (by decide)
  refine aS ?_ ?_
  .exact cS (c' (c' (c' (cJ (B.X _ _ (od w.params)) rfl (o4 B) (ax (hj (ax (Q9 B) (ax (au (by rfl)) (ax (au (by rfl)) (aO))))) (aO)) (o3 (k:=k+0) B)) (hg (mm B) (ax (hj (ax (i7 (lC B) (ax (au (by rfl)) (aO)) lS) (aO))) (aO)) ng) fg) (au (by rfl)) fg) (au (by rfl)) fg)
  exact bg
 exact fD (xs:=["f"]) (m:=5) B (B.X _ _ (IP w.params)) rfl (eQ B.X (by kernel_rfl)) rfl (i6 λ_=>rfl) rfl ⟨_,rfl⟩ (by decide) (by decide) (by decide) ag
theorem Qx(B:bP (KK w.params) h₁):OpOk prog w h₁ (k+4) (λvs=>call (.ref 146) vs) rd:=by
 have ag:∀aV,SOk prog w h₁ (callEnv Aq aV 146) ["f","kind"] (k+3) (execs zr (callEnv Aq aV 146)) vI:=by
  intro aV
  unfold vI zr pick
  refine aS ?_ ?_
  .exact d3 (b0 (au (by rfl)) (a')) (by rfl) (by decide) (.inl rfl)
  refine aS ?_ ?_
  .refine dh (b6 (au (by rfl)) (bS) ec) ?_ ?_
   .refine aS ?_ ?_
    .exact cS (c' (cJ (B.X _ _ (od w.params)) rfl (o4 B) (ax (hj (ax (Q4 B) (ax (b0 (au (by rfl)) (a')) (aO)))) (aO)) (o3 (k:=k+0) B)) (cJ (B.X _ _ (xF w.params)) rfl (A6 B) (ax (b0 (au (by rfl)) (a')) (aO)) (Ak (k:=k+0) B)) fg)
    exact bg
   .exact bg
  refine aS ?_ ?_
  .refine dh (b6 (au (by rfl)) (bS) ec) ?_ ?_
   .refine aS ?_ ?_
    .exact cS (c' (cJ (B.X _ _ (od w.params)) rfl (o4 B) (ax (hj (ax (Q' B) (aO))) (aO)) (o3 (k:=k+0) B)) (cJ (B.X _ _ (xF w.params)) rfl (A6 B) (ax (b0 (au (by rfl)) (a')) (aO)) (Ak (k:=k+0) B)) fg)
    exact bg
   .exact bg
  refine aS ?_ ?_
  .refine dh (iu (f7 (b6 (au (by rfl)) (bS) ec) (f7 (b6 (au (by rfl)) (bS) ec) (kR)))) ?_ ?_
   .refine aS ?_ ?_
    .exact cS (c' (cJ (B.X _ _ (od w.params)) rfl (o4 B) (ax (hj (ax (iN (b6 (au (by rfl)) (bS) ec) (Ra B) (Rb B)) (aO))) (aO)) (o3 (k:=k+0) B)) (b0 (au (by rfl)) (a')) fg)
    exact bg
   .exact bg
  refine aS ?_ ?_
  .refine dh (b6 (au (by rfl)) (bS) ec) ?_ ?_
   .refine aS ?_ ?_
    .exact cS (cJ (B.X _ _ (od w.params)) rfl (o4 B) (ax (hj (ax (iN (nK (b0 (au (by rfl)) (a'))) (Q8 B) (Q7 B)) (ax (b0 (au (by rfl)) (a')) (aO)))) (aO)) (o3 (k:=k+0) B))
    exact bg
   .exact bg
  refine aS ?_ ?_
  .refine dh (b6 (au (by rfl)) (bS) ec) ?_ ?_
   .refine aS ?_ ?_
    .exact cS (cJ (B.X _ _ (od w.params)) rfl (o4 B) (ax (hj (ax (iN (nK (b0 (au (by rfl)) (a'))) (Rf B) (Rd B)) (ax (b0 (au (by rfl)) (a')) (aO)))) (aO)) (o3 (k:=k+0) B))
    exact bg
   .exact bg
  refine aS ?_ ?_
  .exact cS (gG)
  exact bg
 exact fD (xs:=["f"]) (m:=1) B (B.X _ _ (IQ w.params)) rfl (eQ B.X (by kernel_rfl)) rfl (i6 λ_=>rfl) rfl ⟨_,rfl⟩ (by decide) (by decide) (by decide) ag
theorem GD(B:bP (KK w.params) h₁):OpOk prog w h₁ (k+5) (λvs=>call (.ref 153) vs) nC:=by
 have ag:∀aV,SOk prog w h₁ (callEnv Ar aV 153) ["f","kind","found"] (k+4) (execs zt (callEnv Ar aV 153)) vF:=by
  intro aV
  unfold vF zt pick
  refine aS ?_ ?_
  .exact d3 (b0 (au (by rfl)) (a')) (by rfl) (by decide) (.inl rfl)
  refine aS ?_ ?_
  .refine dh (b6 (au (by rfl)) (bS) ec) ?_ ?_
   .refine aS ?_ ?_
    .exact cS (hg (mm B) (ax (Ac) (aO)) ng)
    exact bg
   .exact bg
  refine aS ?_ ?_
  .refine dh (b6 (au (by rfl)) (Hp B) jz) ?_ ?_
   .refine aS ?_ ?_
    .exact cS (cJ (B.X _ _ (od w.params)) rfl (o4 B) (ax (c' (hj (ax (b0 (Hp B) (au (by rfl))) (aO))) (hg (A5 B) (ax (oZ (au (by rfl)) (pw (a')) (pv)) (aO)) CB) fg) (aO)) (o3 (k:=k+1) B))
    exact bg
   .exact bg
  refine aS ?_ ?_
  .refine dh (b6 (au (by rfl)) (bS) ec) ?_ ?_
   .refine aS ?_ ?_
    .exact cS (Ac)
    exact bg
   .exact bg
  refine aS ?_ ?_
  .refine dh (b6 (au (by rfl)) (bS) ec) ?_ ?_
   .refine aS ?_ ?_
    .exact cS (cJ (B.X _ _ (IM w.params)) rfl (Ru B) (ax (au (by rfl)) (ax (iM) (aO))) (Qy (k:=k+0) B))
    exact bg
   .exact bg
  refine aS ?_ ?_
  .refine dh (b6 (au (by rfl)) (bS) ec) ?_ ?_
   .refine aS ?_ ?_
    .exact cS (cJ (B.X _ _ (IP w.params)) rfl (Rr B) (ax (au (by rfl)) (aO)) (Qw (k:=k+0) B))
    exact bg
   .exact bg
  refine aS ?_ ?_
  .refine dh (b6 (au (by rfl)) (bS) ec) ?_ ?_
   .refine aS ?_ ?_
    .exact cS (Ac)
    exact bg
   .exact bg
  refine aS ?_ ?_
  .exact d3 (cJ (B.X _ _ (IQ w.params)) rfl (Rt B) (ax (au (by rfl)) (aO)) (Qx (k:=k+0) B)) (by rfl) (by decide) (.inl rfl)
  refine aS ?_ ?_
  .refine dh (b6 (au (by rfl)) (gG) qU) ?_ ?_
   .refine aS ?_ ?_
    .exact yc
    exact bg
   .exact bg
  refine aS ?_ ?_
  .exact cS (au (by rfl))
  exact bg
 exact fD (xs:=["f"]) (m:=2) B (B.X _ _ (B' w.params)) rfl (eQ B.X (by kernel_rfl)) rfl (i6 λ_=>rfl) rfl ⟨_,rfl⟩ (by decide) (by decide) (by decide) ag
theorem tN(B:bP (KK w.params) h₁):OpOk prog w h₁ (k+6) (λvs=>call (.ref 160) vs) j7:=by
 have ag:∀aV,SOk prog w h₁ (callEnv As aV 160) ["f"] (k+5) (execs zu (callEnv As aV 160)) vv:=by
  intro aV
  unfold vv zu pick
  refine aS ?_ ?_
  .exact cS (i7 (lC B) (ax (cJ (B.X _ _ (B' w.params)) rfl (Hw B) (ax (au (by rfl)) (aO)) (GD (k:=k+0) B)) (aO)) lS)
  exact bg
 exact fD (xs:=["f"]) (m:=0) B (B.X _ _ (sa w.params)) rfl (eQ B.X (by kernel_rfl)) rfl (i6 λ_=>rfl) rfl ⟨_,rfl⟩ (by decide) (by decide) (by decide) ag
end
section
variable{prog:Program}{w:World}{h₁:Heap}{k:Nat}
theorem Aj(B:bP (KK w.params) h₁):OpOk prog w h₁ (k+1) (λvs=>call (.ref 168) vs) pT:=by
 have ag:∀aV,SOk prog w h₁ (callEnv Au aV 168) ["frame"] (k+0) (execs zv (callEnv Au aV 168)) vr:=by
  intro aV
  unfold vr zv pick
  refine aS ?_ ?_
  .exact cS (iN (b6 (b0 (au (by rfl)) (a')) (bS) ec) (b0 (au (by rfl)) (a')) (b0 (au (by rfl)) (a')))
  exact bg
 exact fD (xs:=["frame"]) (m:=0) B (B.X _ _ (xG w.params)) rfl (eQ B.X (by kernel_rfl)) rfl (i6 λ_=>rfl) rfl ⟨_,rfl⟩ (by decide) (by decide) (by decide) ag
theorem tO(B:bP (KK w.params) h₁):OpOk prog w h₁ (k+1) (λvs=>call (.ref 175) vs) jo:=by
 have ag:∀aV,SOk prog w h₁ (callEnv Av aV 175) ["frame","skipped","data","fin"] (k+0) (execs zw (callEnv Av aV 175)) vP:=by
  intro aV
  unfold vP zw pick
  refine aS ?_ ?_
  .refine dh (b6 (b0 (au (by rfl)) (a')) (bS) ec) ?_ ?_
   .refine aS ?_ ?_
    .exact cS (cQ (ax (bS) (ax (c' (b0 (au (by rfl)) (a')) (au (by rfl)) fg) (ax (au (by rfl)) (aO)))))
    exact bg
   .exact bg
  refine aS ?_ ?_
  .exact cS (cQ (ax (bS) (ax (b0 (au (by rfl)) (a')) (ax (c' (b0 (au (by rfl)) (a')) (au (by rfl)) fg) (ax (au (by rfl)) (ax (au (by rfl)) (aO)))))))
  exact bg
 exact fD (xs:=["frame","skipped","data","fin"]) (m:=0) B (B.X _ _ (sb w.params)) rfl (eQ B.X (by kernel_rfl)) rfl (Fe λ_ _ _ _=>rfl) rfl ⟨_,rfl⟩ (by decide) (by decide) (by decide) ag
theorem GA(B:bP (KK w.params) h₁):OpOk prog w h₁ (k+7) (λvs=>call (.ref 182) vs) s9:=by
 have ag:∀aV,SOk prog w h₁ (callEnv Aw aV 182) ["frame","room","data","many"] (k+6) (execs zx (callEnv Aw aV 182)) vt:=by
  intro aV
  unfold vt zx pick
  refine aS ?_ ?_
  .exact d3 (cJ (B.X _ _ (xG w.params)) rfl (A3 B) (ax (au (by rfl)) (aO)) (Aj (k:=k+5) B)) (by rfl) (by decide) (.inl rfl)
  refine aS ?_ ?_
  .refine dh (b6 (cJ (B.X _ _ (sa w.params)) rfl (tR B) (ax (cJ (B.X _ _ (sb w.params)) rfl (tT B) (ax (au (by rfl)) (ax (a') (ax (rG) (ax (iM) (aO))))) (tO (k:=k+5) B)) (aO)) (tN (k:=k+0) B)) (au (by rfl)) qT) ?_ ?_
   .refine aS ?_ ?_
    .exact cS (rH (a') si)
    exact bg
   .exact bg
  refine aS ?_ ?_
  .exact d3 (i7 (Rp B) (ax (i7 (lC B) (ax (au (by rfl)) (aO)) lS) (ax (c' (au (by rfl)) (cJ (B.X _ _ (sa w.params)) rfl (tR B) (ax (cJ (B.X _ _ (sb w.params)) rfl (tT B) (ax (au (by rfl)) (ax (a') (ax (rG) (ax (iM) (aO))))) (tO (k:=k+5) B)) (aO)) (tN (k:=k+0) B)) xW) (aO))) Va) (by rfl) (by decide) (.inl rfl)
  refine aS ?_ ?_
  .refine KQ (b6 (cJ (B.X _ _ (sa w.params)) rfl (tR B) (ax (cJ (B.X _ _ (sb w.params)) rfl (tT B) (ax (au (by rfl)) (ax (a') (ax (oZ (au (by rfl)) (pv) (pw (au (by rfl)))) (ax (iM) (aO))))) (tO (k:=k+5) B)) (aO)) (tN (k:=k+0) B)) (au (by rfl)) qT) ?_
   .unfold EC
    refine aS ?_ ?_
    .exact KO (a') JF (by rfl) (by decide) (by rfl)
    exact bg
  refine aS ?_ ?_
  .exact cS (au (by rfl))
  exact bg
 exact fD (xs:=["frame","room"]) (m:=2) B (B.X _ _ (Ca w.params)) rfl (eQ B.X (by kernel_rfl)) rfl (kP λ_ _=>rfl) rfl ⟨_,rfl⟩ (by decide) (by decide) (by decide) ag
theorem Gz(B:bP (KK w.params) h₁):OpOk prog w h₁ (k+8) (λvs=>call (.ref 189) vs) s8:=by
 have ag:∀aV,SOk prog w h₁ (callEnv Ax aV 189) ["frame","room","many","data","is_end"] (k+7) (execs zy (callEnv Ax aV 189)) vq:=by
  intro aV
  unfold vq zy pick
  refine aS ?_ ?_
  .refine dh (b6 (cJ (B.X _ _ (sa w.params)) rfl (tR B) (ax (au (by rfl)) (aO)) (tN (k:=k+1) B)) (au (by rfl)) CA) ?_ ?_
   .refine aS ?_ ?_
    .exact cS (cQ (ax (au (by rfl)) (ax (gG) (aO))))
    exact bg
   .exact bg
  refine aS ?_ ?_
  .refine dh (b6 (b0 (au (by rfl)) (a')) (Q5 B) CC) ?_ ?_
   .refine aS ?_ ?_
    .exact cS (cQ (ax (gG) (ax (au (by rfl)) (aO))))
    exact bg
   .exact bg
  refine aS ?_ ?_
  .first
    |exact k' (cQ (ax (cJ (B.X _ _ (Ca w.params)) rfl (Ht B) (ax (au (by rfl)) (ax (au (by rfl)) (aO))) (GA (k:=k+0) B)) (ax (cJ (B.X _ _ (xG w.params)) rfl (A3 B) (ax (au (by rfl)) (aO)) (Aj (k:=k+6) B)) (aO)))) (i0 (.cons (by rfl) (.inl rfl) (.cons (by rfl) (.inl rfl) (.nil))) (by decide))
    |exact k9 (xs:=["many","data"]) (cQ (ax (cJ (B.X _ _ (Ca w.params)) rfl (Ht B) (ax (au (by rfl)) (ax (au (by rfl)) (aO))) (GA (k:=k+0) B)) (ax (cJ (B.X _ _ (xG w.params)) rfl (A3 B) (ax (au (by rfl)) (aO)) (Aj (k:=k+6) B)) (aO)))) (by rfl) (by repeat (first|exact dJ _|refine bO.mpr ⟨.inl rfl,?_⟩|refine bO.mpr ⟨.inr ⟨rfl,rfl,rfl⟩,?_⟩)) (by decide) (by decide)
  refine aS ?_ ?_
  .refine dh (iu (f7 (b6 (au (by rfl)) (a') qV) (f7 (b6 (au (by rfl)) (i7 (lC B) (ax (au (by rfl)) (aO)) lS) U7) (kR)))) ?_ ?_
   .refine aS ?_ ?_
    .exact cS (cQ (ax (gG) (ax (au (by rfl)) (aO))))
    exact bg
   .exact bg
  refine aS ?_ ?_
  .exact d3 (Ab (tH (b0 (au (by rfl)) (a')) (bS) ec) (b0 (au (by rfl)) (a'))) (by rfl) (by decide) (.inl rfl)
  refine aS ?_ ?_
  .exact cS (cQ (ax (cJ (B.X _ _ (sb w.params)) rfl (tT B) (ax (au (by rfl)) (ax (a') (ax (oZ (au (by rfl)) (pv) (pw (au (by rfl)))) (ax (iM) (aO))))) (tO (k:=k+6) B)) (ax (cJ (B.X _ _ (sb w.params)) rfl (tT B) (ax (au (by rfl)) (ax (au (by rfl)) (ax (oZ (au (by rfl)) (pw (au (by rfl))) (pv)) (ax (au (by rfl)) (aO))))) (tO (k:=k+6) B)) (aO))))
  exact bg
 exact fD (xs:=["frame","room"]) (m:=3) B (B.X _ _ (Cb w.params)) rfl (eQ B.X (by kernel_rfl)) rfl (kP λ_ _=>rfl) rfl ⟨_,rfl⟩ (by decide) (by decide) (by decide) ag
theorem wH(B:bP (KK w.params) h₁):OpOk prog w h₁ (k+9) (λvs=>call (.ref 196) vs) pU:=by
 have ag:∀aV,SOk prog w h₁ (callEnv Ay aV 196) ["frames","room","taken","left","frame","part","rest"] (k+8) (execs zz (callEnv Ay aV 196)) vu:=by
  intro aV
  unfold vu zz pick
  refine aS ?_ ?_
  .first
    |exact k' (cQ (ax (j' (aO)) (ax (j' (aO)) (aO)))) (i0 (.cons (by rfl) (.inl rfl) (.cons (by rfl) (.inl rfl) (.nil))) (by decide))
    |exact k9 (xs:=["taken","left"]) (cQ (ax (j' (aO)) (ax (j' (aO)) (aO)))) (by rfl) (by repeat (first|exact dJ _|refine bO.mpr ⟨.inl rfl,?_⟩|refine bO.mpr ⟨.inr ⟨rfl,rfl,rfl⟩,?_⟩)) (by decide) (by decide)
  refine aS ?_ ?_
  .refine kq (au (by rfl)) (gb (by rfl) (by decide) (.inl rfl)) ?_
   .unfold ED
    refine aS ?_ ?_
    .first
      |exact k' (cJ (B.X _ _ (Cb w.params)) rfl (Hs B) (ax (au (by rfl)) (ax (au (by rfl)) (aO))) (Gz (k:=k+0) B)) (i0 (.cons (by rfl) (.inl rfl) (.cons (by rfl) (.inl rfl) (.nil))) (by decide))
      |exact k9 (xs:=["part","rest"]) (cJ (B.X _ _ (Cb w.params)) rfl (Hs B) (ax (au (by rfl)) (ax (au (by rfl)) (aO))) (Gz (k:=k+0) B)) (by rfl) (by repeat (first|exact dJ _|refine bO.mpr ⟨.inl rfl,?_⟩|refine bO.mpr ⟨.inr ⟨rfl,rfl,rfl⟩,?_⟩)) (by decide) (by decide)
    refine aS ?_ ?_
    .refine dh (b6 (au (by rfl)) (gG) uH) ?_ ?_
     .refine aS ?_ ?_
      .exact ik (hl jI kE la jC (au (by rfl)) (ax (au (by rfl)) (aO)) k6)
      refine aS ?_ ?_
      .exact KO (cJ (B.X _ _ (sa w.params)) rfl (tR B) (ax (au (by rfl)) (aO)) (tN (k:=k+2) B)) JF (by rfl) (by decide) (by rfl)
      exact bg
     .exact bg
    refine aS ?_ ?_
    .refine dh (b6 (au (by rfl)) (gG) uH) ?_ ?_
     .refine aS ?_ ?_
      .exact ik (hl jI kE la jC (au (by rfl)) (ax (au (by rfl)) (aO)) k6)
      exact bg
     .exact bg
    exact bg
  refine aS ?_ ?_
  .exact cS (cQ (ax (au (by rfl)) (ax (au (by rfl)) (aO))))
  exact bg
 exact fD (xs:=["frames","room"]) (m:=5) B (B.X _ _ (ux w.params)) rfl (eQ B.X (by kernel_rfl)) rfl (kP λ_ _=>rfl) rfl ⟨_,rfl⟩ (by decide) (by decide) (by decide) ag
theorem Qp(B:bP (KK w.params) h₁):OpOk prog w h₁ (k+10) (λvs=>call (.ref 203) vs) tc:=by
 have ag:∀aV,SOk prog w h₁ (callEnv Az aV 203) ["frames","room","found","left","taken","rest"] (k+9) (execs zA (callEnv Az aV 203)) vx:=by
  intro aV
  unfold vx zA pick
  refine aS ?_ ?_
  .first
    |exact k' (cQ (ax (j' (aO)) (ax (hg (A5 B) (ax (au (by rfl)) (aO)) CB) (aO)))) (i0 (.cons (by rfl) (.inl rfl) (.cons (by rfl) (.inl rfl) (.nil))) (by decide))
    |exact k9 (xs:=["found","left"]) (cQ (ax (j' (aO)) (ax (hg (A5 B) (ax (au (by rfl)) (aO)) CB) (aO)))) (by rfl) (by repeat (first|exact dJ _|refine bO.mpr ⟨.inl rfl,?_⟩|refine bO.mpr ⟨.inr ⟨rfl,rfl,rfl⟩,?_⟩)) (by decide) (by decide)
  refine aS ?_ ?_
  .refine KQ (b6 (i7 (lC B) (ax (au (by rfl)) (aO)) lS) (a') qT) ?_
   .unfold EE
    refine aS ?_ ?_
    .first
      |exact k' (cJ (B.X _ _ (ux w.params)) rfl (w1 B) (ax (au (by rfl)) (ax (au (by rfl)) (aO))) (wH (k:=k+0) B)) (i0 (.cons (by rfl) (.inl rfl) (.cons (by rfl) (.inl rfl) (.nil))) (by decide))
      |exact k9 (xs:=["taken","rest"]) (cJ (B.X _ _ (ux w.params)) rfl (w1 B) (ax (au (by rfl)) (ax (au (by rfl)) (aO))) (wH (k:=k+0) B)) (by rfl) (by repeat (first|exact dJ _|refine bO.mpr ⟨.inl rfl,?_⟩|refine bO.mpr ⟨.inr ⟨rfl,rfl,rfl⟩,?_⟩)) (by decide) (by decide)
    refine aS ?_ ?_
    .refine dh (b6 (i7 (lC B) (ax (au (by rfl)) (aO)) lS) (a') ec) ?_ ?_
     .refine aS ?_ ?_
      .exact cS (gG)
      exact bg
     .exact bg
    refine aS ?_ ?_
    .exact ik (hl jI kE la jC (au (by rfl)) (ax (au (by rfl)) (aO)) k6)
    refine aS ?_ ?_
    .exact d3 (au (by rfl)) (by rfl) (by decide) (.inl rfl)
    exact bg
  refine aS ?_ ?_
  .exact cS (au (by rfl))
  exact bg
 exact fD (xs:=["frames","room"]) (m:=4) B (B.X _ _ (IS w.params)) rfl (eQ B.X (by kernel_rfl)) rfl (kP λ_ _=>rfl) rfl ⟨_,rfl⟩ (by decide) (by decide) (by decide) ag
end
section
variable{prog:Program}{w:World}{h₁:Heap}{k:Nat}
theorem Qq(B:bP (KK w.params) h₁):OpOk prog w h₁ (k+1) (λvs=>call (.ref 211) vs) td:=by
 have ag:∀aV,SOk prog w h₁ (callEnv AA aV 211) ["kind"] (k+0) (execs zB (callEnv AA aV 211)) yC:=by
  intro aV
  unfold yC zB pick
  refine aS ?_ ?_
  .exact cS (hl PySem.F.plainAttrs_tuple PySem.F.slot_tuple_index PySem.F.type_tuple_index Lc (w0 B) (ax (au (by rfl)) (aO)) JD)
  exact bg
 exact fD (xs:=["kind"]) (m:=0) B (B.X _ _ (IT w.params)) rfl (eQ B.X (by kernel_rfl)) rfl (i6 λ_=>rfl) rfl ⟨_,rfl⟩ (by decide) (by decide) (by decide) ag
theorem GC(B:bP (KK w.params) h₁):OpOk prog w h₁ (k+1) (λvs=>call (.ref 218) vs) pW:=by
 have ag:∀aV,SOk prog w h₁ (callEnv AB aV 218) ["alarms","found","kind","told"] (k+0) (execs zC (callEnv AB aV 218)) vD:=by
  intro aV
  unfold vD zC pick
  refine aS ?_ ?_
  .exact d3 (gG) (by rfl) (by decide) (.inl rfl)
  refine aS ?_ ?_
  .refine kq (w0 B) (gb (by rfl) (by decide) (.inl rfl)) ?_
   .unfold EK
    refine aS ?_ ?_
    .exact d3 (hl PySem.F.plainAttrs_dict PySem.F.slot_dict_get PySem.F.type_dict_get Dm (au (by rfl)) (ax (au (by rfl)) (aO)) Cz) (by rfl) (by decide) (.inl rfl)
    refine aS ?_ ?_
    .refine dh (iu (lx (b6 (au (by rfl)) (gG) uH) (lx (iu (f7 (b6 (au (by rfl)) (gG) qU) (f7 (b6 (au (by rfl)) (b0 (au (by rfl)) (a')) qV) (kR)))) (ry)))) ?_ ?_
     .refine aS ?_ ?_
      .exact d3 (cQ (ax (au (by rfl)) (ax (au (by rfl)) (aO)))) (by rfl) (by decide) (.inl rfl)
      exact bg
     .exact bg
    exact bg
  refine aS ?_ ?_
  .exact cS (au (by rfl))
  exact bg
 exact fD (xs:=["alarms"]) (m:=3) B (B.X _ _ (Cc w.params)) rfl (eQ B.X (by kernel_rfl)) rfl (i6 λ_=>rfl) rfl ⟨_,rfl⟩ (by decide) (by decide) (by decide) ag
theorem Qn(B:bP (KK w.params) h₁):OpOk prog w h₁ (k+2) (λvs=>call (.ref 223) vs) s7:=by
 have ag:∀aV,SOk prog w h₁ (callEnv AD aV 223) ["alarms","now","pairs","kind","told"] (k+1) (execs zD (callEnv AD aV 223)) vp:=by
  intro aV
  unfold vp zD pick
  refine aS ?_ ?_
  .exact d3 (j' (aO)) (by rfl) (by decide) (.inl rfl)
  refine aS ?_ ?_
  .refine kq (w0 B) (gb (by rfl) (by decide) (.inl rfl)) ?_
   .unfold EB
    refine aS ?_ ?_
    .exact d3 (hl PySem.F.plainAttrs_dict PySem.F.slot_dict_get PySem.F.type_dict_get Dm (au (by rfl)) (ax (au (by rfl)) (aO)) Cz) (by rfl) (by decide) (.inl rfl)
    refine aS ?_ ?_
    .refine dh (iu (lx (b6 (au (by rfl)) (gG) uH) (lx (b6 (au (by rfl)) (au (by rfl)) CA) (ry)))) ?_ ?_
     .refine aS ?_ ?_
      .exact ik (hl jI kE la jC (au (by rfl)) (ax (cQ (ax (au (by rfl)) (ax (cJ (B.X _ _ (IT w.params)) rfl (Ro B) (ax (au (by rfl)) (aO)) (Qq (k:=k+0) B)) (aO)))) (aO)) k6)
      exact bg
     .exact bg
    exact bg
  refine aS ?_ ?_
  .exact cS (lB (ns':=["told","place"]) (i7 (Hy B) (ax (au (by rfl)) (aO)) Vd) (by first|rfl|kernel_rfl) (λ_=>js) (by decide) (by rfl) (by decide) (λ_=>i0 (.cons (by rfl) (.inl rfl) (.cons (by rfl) (.inl rfl) (.nil))) (by decide)) (λ_=>oO) (λ_=>b0 (w0 B) (au (by rfl))))
  exact bg
 exact fD (xs:=["alarms","now"]) (m:=3) B (B.X _ _ (IU w.params)) rfl (eQ B.X (by kernel_rfl)) rfl (kP λ_ _=>rfl) rfl ⟨_,rfl⟩ (by decide) (by decide) (by decide) ag
theorem QC(B:bP (KK w.params) h₁):OpOk prog w h₁ (k+2) (λvs=>call (.ref 228) vs) tn:=by
 have ag:∀aV,SOk prog w h₁ (callEnvC AE aV 228) ["alarms","kind","told","found"] (k+1) (execs zE (callEnvC AE aV 228)) vO:=by
  intro aV
  unfold vO zE pick
  refine aS ?_ ?_
  .exact d3 (hg (Rl B) (ax (Gk (ns':=["one","alarms","kind"]) (au (by rfl)) (by first|rfl|kernel_rfl) (λ_=>js) (by decide) (by rfl) (by decide) (λ_=>gb (by rfl) (by decide) (.inl rfl)) (λ_=>oP (b6 (au (by rfl)) (au (by rfl)) mH)) (λ_=>cQ (ax (au (by rfl)) (ax (b0 (au (by rfl)) (au (by rfl))) (aO))))) aO) U6) (by rfl) (by decide) (.inl rfl)
  refine aS ?_ ?_
  .refine dh (b6 (au (by rfl)) (gG) uH) ?_ ?_
   .refine aS ?_ ?_
    .exact ox (au (by rfl)) (au (by rfl)) (au (by rfl))
    exact bg
   .exact bg
  refine aS ?_ ?_
  .exact cS (au (by rfl))
  exact bg
 exact wG (xs:=["alarms","kind","told"]) (m:=1) B (B.X _ _ (IV w.params)) rfl (eQ B.X (by kernel_rfl)) rfl (Fd λ_ _ _=>rfl) rfl ⟨_,rfl⟩ (by decide) (by decide) ag
theorem GB(B:bP (KK w.params) h₁):OpOk prog w h₁ (k+3) (λvs=>call (.ref 249) vs) pV:=by
 have ag:∀aV,SOk prog w h₁ (callEnv AF aV 249) ["self","kind","told"] (k+2) (execs zF (callEnv AF aV 249)) vz:=by
  intro aV
  unfold vz zF pick
  refine aS ?_ ?_
  .exact ZS B (ly w.params) (cJ (B.X _ _ (IV w.params)) rfl (Ry B) (ax (tG B (ly w.params) (au (by rfl))) (ax (au (by rfl)) (ax (au (by rfl)) (aO)))) (QC (k:=k+0) B)) (au (by rfl))
  exact bg
 exact fD (xs:=["self","kind","told"]) (m:=0) B (B.X _ _ (Cd w.params)) rfl (eQ B.X (by kernel_rfl)) rfl (Fd λ_ _ _=>rfl) rfl ⟨_,rfl⟩ (by decide) (by decide) (by decide) ag
theorem Qu(B:bP (KK w.params) h₁):OpOk prog w h₁ (k+1) (λvs=>call (.ref 256) vs) tg:=by
 have ag:∀aV,SOk prog w h₁ (callEnv AG aV 256) ["self","kind"] (k+0) (execs zH (callEnv AG aV 256)) vB:=by
  intro aV
  unfold vB zH pick
  refine aS ?_ ?_
  .exact cS (hl PySem.F.plainAttrs_dict PySem.F.slot_dict_get PySem.F.type_dict_get Dm (tG B (ly w.params) (au (by rfl))) (ax (au (by rfl)) (aO)) Cz)
  exact bg
 exact fD (xs:=["self","kind"]) (m:=0) B (B.X _ _ (IW w.params)) rfl (eQ B.X (by kernel_rfl)) rfl (kP λ_ _=>rfl) rfl ⟨_,rfl⟩ (by decide) (by decide) (by decide) ag
theorem Qs(B:bP (KK w.params) h₁):OpOk prog w h₁ (k+2) (λvs=>call (.ref 263) vs) te:=by
 have ag:∀aV,SOk prog w h₁ (callEnv AH aV 263) ["self","told"] (k+1) (execs zI (callEnv AH aV 263)) vy:=by
  intro aV
  unfold vy zI pick
  refine aS ?_ ?_
  .exact d3 (cJ (B.X _ _ (Cc w.params)) rfl (Hv B) (ax (tG B (ly w.params) (au (by rfl))) (aO)) (GC (k:=k+0) B)) (by rfl) (by decide) (.inl rfl)
  refine aS ?_ ?_
  .exact cS (iN (b6 (au (by rfl)) (gG) qU) (gG) (b0 (au (by rfl)) (a')))
  exact bg
 exact fD (xs:=["self"]) (m:=1) B (B.X _ _ (IX w.params)) rfl (eQ B.X (by kernel_rfl)) rfl (i6 λ_=>rfl) rfl ⟨_,rfl⟩ (by decide) (by decide) (by decide) ag
theorem Qt(B:bP (KK w.params) h₁):OpOk prog w h₁ (k+4) (λvs=>call (.ref 270) vs) tf:=by
 have ag:∀aV,SOk prog w h₁ (callEnv AI aV 270) ["self","now","found","kind"] (k+3) (execs zJ (callEnv AI aV 270)) vA:=by
  intro aV
  unfold vA zJ pick
  refine aS ?_ ?_
  .exact d3 (cJ (B.X _ _ (IU w.params)) rfl (Rj B) (ax (tG B (ly w.params) (au (by rfl))) (ax (au (by rfl)) (aO))) (Qn (k:=k+1) B)) (by rfl) (by decide) (.inl rfl)
  refine aS ?_ ?_
  .refine kq (au (by rfl)) (gb (by rfl) (by decide) (.inl rfl)) ?_
   .unfold EI
    refine aS ?_ ?_
    .exact ik (tI B (ly w.params) (by kernel_rfl) (by kernel_rfl) (B.X _ _ (Cd w.params)) rfl (au (by rfl)) (ax (au (by rfl)) (ax (gG) (aO))) (GB (k:=k+0) B))
    exact bg
  refine aS ?_ ?_
  .exact cS (au (by rfl))
  exact bg
 exact fD (xs:=["self","now"]) (m:=2) B (B.X _ _ (IY w.params)) rfl (eQ B.X (by kernel_rfl)) rfl (kP λ_ _=>rfl) rfl ⟨_,rfl⟩ (by decide) (by decide) (by decide) ag
end
section
variable{prog:Program}{w:World}{h₁:Heap}{k:Nat}
theorem m1(B:bP (KK w.params) h₁):OpOk prog w h₁ (k+1) (λvs=>call (.ref 284) vs) g0:=by
 have ag:∀aV,SOk prog w h₁ (callEnv AJ aV 284) ["pool","many","script","cell"] (k+0) (execs zK (callEnv AJ aV 284)) vm:=by
  intro aV
  unfold vm zK pick
  refine aS ?_ ?_
  .exact d3 (b0 (au (by rfl)) (a')) (by rfl) (by decide) (.inl rfl)
  refine aS ?_ ?_
  .exact d3 (iN (b6 (au (by rfl)) (hj (aO)) mH) (i7 (Ri B) (ax (b0 (au (by rfl)) (c' (b0 (au (by rfl)) (a')) (i7 (lC B) (ax (au (by rfl)) (aO)) lS) oj)) (aO)) U2) (a')) (by rfl) (by decide) (.inl rfl)
  refine aS ?_ ?_
  .exact ox (c' (b0 (au (by rfl)) (a')) (a') fg) (au (by rfl)) (a')
  refine aS ?_ ?_
  .exact ox (c' (c' (c' (c' (b0 (au (by rfl)) (a')) (a') uI) (c' (au (by rfl)) (a') oj) fg) (a') fg) (a') oj) (au (by rfl)) (a')
  refine aS ?_ ?_
  .exact cS (c' (c' (b0 (au (by rfl)) (a')) (a') JC) (au (by rfl)) oj)
  exact bg
 exact fD (xs:=["pool","many"]) (m:=2) B (B.X _ _ (mE w.params)) rfl (eQ B.X (by kernel_rfl)) rfl (kP λ_ _=>rfl) rfl ⟨_,rfl⟩ (by decide) (by decide) (by decide) ag
theorem Gx(B:bP (KK w.params) h₁):OpOk prog w h₁ (k+2) (λvs=>call (.ref 289) vs) sZ:=by
 have ag:∀aV,SOk prog w h₁ (callEnvC wJ aV 289) ["pool","found","sid","many"] (k+1) (execs wd (callEnvC wJ aV 289)) sV:=by
  intro aV
  unfold sV wd pick
  refine aS ?_ ?_
  .refine d3 (e:=_) ?_ ?_ ?_ ?_ ?_ ?_
   .refine j' ?_
    refine ax ?_ ?_ ?_
    .refine cQ ?_
     refine ax ?_ ?_ ?_
     .exact bS
     .refine ax ?_ ?_ ?_
      .exact a'
      .exact aO
      .rfl
     .rfl
    .refine ax ?_ ?_ ?_
     .refine cQ ?_
      refine ax ?_ ?_ ?_
      .exact bS
      .refine ax ?_ ?_ ?_
       .exact a'
       .exact aO
       .rfl
      .rfl
     .refine ax ?_ ?_ ?_
      .refine cQ ?_
       refine ax ?_ ?_ ?_
       .exact bS
       .refine ax ?_ ?_ ?_
        .exact a'
        .refine ax ?_ ?_ ?_
         .exact a'
         .exact aO
         .rfl
        .rfl
       .rfl
      .refine ax ?_ ?_ ?_
       .refine cQ ?_
        refine ax ?_ ?_ ?_
        .exact bS
        .refine ax ?_ ?_ ?_
         .exact rG
         .exact aO
         .rfl
        .rfl
       .exact aO
       .rfl
      .rfl
     .rfl
    .rfl
   .rfl
   .decide
   .exact .inl rfl
   .rfl
   .rfl
  refine aS ?_ ?_
  .exact ik (hl jI kE la jC (au (by rfl)) (ax (cQ (ax (bS) (ax (a') (aO)))) (aO)) k6)
  refine aS ?_ ?_
  .exact ik (hl jI kE la jC (au (by rfl)) (ax (cQ (ax (bS) (ax (c' (a') (cJ (B.X _ _ (mE w.params)) rfl (m3 B) (ax (au (by rfl)) (ax (a') (aO))) (m1 (k:=k+0) B)) fg) (ax (a') (ax (hg (mm B) (ax (a') (aO)) ng) (ax (hg (mm B) (ax (a') (aO)) ng) (aO))))))) (aO)) k6)
  refine aS ?_ ?_
  .refine kq (hg (tS B) (ax (c' (a') (cJ (B.X _ _ (mE w.params)) rfl (m3 B) (ax (au (by rfl)) (ax (a') (aO))) (m1 (k:=k+0) B)) fg) (aO)) uJ) (gb (by rfl) (by decide) (.inr ⟨rfl,rfl,rfl⟩)) ?_
   .unfold Ex
    refine aS ?_ ?_
    .exact d3 (c' (a') (cJ (B.X _ _ (mE w.params)) rfl (m3 B) (ax (au (by rfl)) (ax (a') (aO))) (m1 (k:=k+0) B)) fg) (by rfl) (by decide) (.inl rfl)
    refine aS ?_ ?_
    .exact ik (hl jI kE la jC (au (by rfl)) (ax (cQ (ax (bS) (ax (c' (a') (au (by rfl)) uI) (ax (a') (ax (hg (mm B) (ax (lB (ns':=["at","sid"]) (hg (tS B) (ax (au (by rfl)) (aO)) uJ) (by first|rfl|kernel_rfl) (λ_=>js) (by decide) (by rfl) (by decide) (λ_=>gb (by rfl) (by decide) (.inl rfl)) (λ_=>oO) (λ_=>c' (c' (au (by rfl)) (au (by rfl)) fg) (a') oj)) (aO)) ng) (ax (iM) (aO))))))) (aO)) k6)
    exact bg
  refine aS ?_ ?_
  .exact ik (hl jI kE la jC (au (by rfl)) (ax (cQ (ax (bS) (ax (a') (ax (hg (mm B) (ax (lB (ns':=["at"]) (hg (tS B) (ax (c' (a') (cJ (B.X _ _ (mE w.params)) rfl (m3 B) (ax (au (by rfl)) (ax (a') (aO))) (m1 (k:=k+0) B)) fg) (aO)) uJ) (by first|rfl|kernel_rfl) (λ_=>js) (by decide) (by rfl) (by decide) (λ_=>gb (by rfl) (by decide) (.inl rfl)) (λ_=>oO) (λ_=>c' (c' (a') (au (by rfl)) fg) (a') oj)) (aO)) ng) (aO))))) (aO)) k6)
  refine aS ?_ ?_
  .exact cS (au (by rfl))
  exact bg
 refine wG (prog:=prog) (w:=w) (fa:=289) (o:=AQ) (fd:=wJ) (body:=wd) (xs:=["pool"]) (ns:=["pool","found","sid","many"]) (m:=3) (D:=sV) (k:=k+1) B ?g1 ?g2 ?g3 ?g4 ?g5 ?g6 ?g7 ?g8 ?g9 ?g10 ?g11 ?g12 ?g13
 case g10=>with_reducible exact ag
 case g1=>exact B.X _ _ (Ce w.params)
 case g3=>exact eQ B.X (by kernel_rfl)
 case g5=>exact i6 λ_=>rfl
 case g7=>exact⟨_,rfl⟩
 case g8=>decide
 case g9=>decide
 all_goals rfl
theorem Ai(B:bP (KK w.params) h₁):OpOk prog w h₁ (k+1) (λvs=>call (.ref 296) vs) ma:=by
 have ag:∀aV,SOk prog w h₁ (callEnv AK aV 296) ["world","frames","frame","name","at","data","step","octet"] (k+0) (execs zL (callEnv AK aV 296)) vl:=by
  intro aV
  unfold vl zL pick
  refine aS ?_ ?_
  .refine kq (au (by rfl)) (gb (by rfl) (by decide) (.inl rfl)) ?_
   .unfold Ew
    refine aS ?_ ?_
    .refine dh (b6 (b0 (au (by rfl)) (a')) (cQ (ax (bS) (ax (bS) (aO)))) jz) ?_ ?_
     .refine aS ?_ ?_
      .first
        |exact k' (iN (b6 (b0 (au (by rfl)) (a')) (bS) ec) (cQ (ax (b0 (au (by rfl)) (a')) (ax (b0 (au (by rfl)) (a')) (ax (b0 (au (by rfl)) (a')) (aO))))) (cQ (ax (bS) (ax (b0 (au (by rfl)) (a')) (ax (b0 (au (by rfl)) (a')) (aO)))))) (i0 (.cons (by rfl) (.inl rfl) (.cons (by rfl) (.inl rfl) (.cons (by rfl) (.inl rfl) (.nil)))) (by decide))
        |exact k9 (xs:=["name","at","data"]) (iN (b6 (b0 (au (by rfl)) (a')) (bS) ec) (cQ (ax (b0 (au (by rfl)) (a')) (ax (b0 (au (by rfl)) (a')) (ax (b0 (au (by rfl)) (a')) (aO))))) (cQ (ax (bS) (ax (b0 (au (by rfl)) (a')) (ax (b0 (au (by rfl)) (a')) (aO)))))) (by rfl) (by repeat (first|exact dJ _|refine bO.mpr ⟨.inl rfl,?_⟩|refine bO.mpr ⟨.inr ⟨rfl,rfl,rfl⟩,?_⟩)) (by decide) (by decide)
      refine aS ?_ ?_
      .refine C9 (A4 B) (au (by rfl)) (i0 (.cons (by rfl) (.inl rfl) (.cons (by rfl) (.inl rfl) (.nil))) (by decide)) ?_
       .unfold Eu
        refine aS ?_ ?_
        .exact ox (au (by rfl)) (b0 (au (by rfl)) (bS)) (cQ (ax (au (by rfl)) (ax (c' (au (by rfl)) (au (by rfl)) fg) (aO))))
        exact bg
      refine aS ?_ ?_
      .refine dh (iu (lx (b6 (b0 (au (by rfl)) (a')) (bS) ec) (lx (nK (b0 (au (by rfl)) (a'))) (ry)))) ?_ ?_
       .refine aS ?_ ?_
        .exact ox (c' (au (by rfl)) (i7 (lC B) (ax (au (by rfl)) (aO)) lS) fg) (b0 (au (by rfl)) (bS)) (au (by rfl))
        exact bg
       .exact bg
      exact bg
     .refine aS ?_ ?_
      .exact ik (hl jI kE la jC (b0 (au (by rfl)) (bS)) (ax (au (by rfl)) (aO)) k6)
      exact bg
    exact bg
  exact bg
 exact fD (xs:=["world","frames"]) (m:=6) B (B.X _ _ (xI w.params)) rfl (eQ B.X (by kernel_rfl)) rfl (kP λ_ _=>rfl) rfl ⟨_,rfl⟩ (by decide) (by decide) (by decide) ag
theorem Qm(B:bP (KK w.params) h₁):OpOk prog w h₁ (k+1) (λvs=>call (.ref 303) vs) s6:=by
 have ag:∀aV,SOk prog w h₁ (callEnv AL aV 303) ["world","given","due","ends","frame","name","data","at","octet"] (k+0) (execs zM (callEnv AL aV 303)) vo:=by
  intro aV
  unfold vo zM pick
  refine aS ?_ ?_
  .first
    |exact k' (cQ (ax (mj (.t)) (ax (mj (.a)) (aO)))) (i0 (.cons (by rfl) (.inl rfl) (.cons (by rfl) (.inl rfl) (.nil))) (by decide))
    |exact k9 (xs:=["due","ends"]) (cQ (ax (mj (.t)) (ax (mj (.a)) (aO)))) (by rfl) (by repeat (first|exact dJ _|refine bO.mpr ⟨.inl rfl,?_⟩|refine bO.mpr ⟨.inr ⟨rfl,rfl,rfl⟩,?_⟩)) (by decide) (by decide)
  refine aS ?_ ?_
  .refine kq (au (by rfl)) (gb (by rfl) (by decide) (.inl rfl)) ?_
   .unfold EA
    refine aS ?_ ?_
    .refine dh (b6 (b0 (au (by rfl)) (a')) (cQ (ax (bS) (ax (bS) (aO)))) jz) ?_ ?_
     .refine aS ?_ ?_
      .first
        |exact k' (iN (b6 (b0 (au (by rfl)) (a')) (bS) ec) (cQ (ax (b0 (au (by rfl)) (a')) (ax (b0 (au (by rfl)) (a')) (aO)))) (cQ (ax (bS) (ax (b0 (au (by rfl)) (a')) (aO))))) (i0 (.cons (by rfl) (.inl rfl) (.cons (by rfl) (.inl rfl) (.nil))) (by decide))
        |exact k9 (xs:=["name","data"]) (iN (b6 (b0 (au (by rfl)) (a')) (bS) ec) (cQ (ax (b0 (au (by rfl)) (a')) (ax (b0 (au (by rfl)) (a')) (aO)))) (cQ (ax (bS) (ax (b0 (au (by rfl)) (a')) (aO))))) (by rfl) (by repeat (first|exact dJ _|refine bO.mpr ⟨.inl rfl,?_⟩|refine bO.mpr ⟨.inr ⟨rfl,rfl,rfl⟩,?_⟩)) (by decide) (by decide)
      refine aS ?_ ?_
      .refine C9 (A4 B) (au (by rfl)) (i0 (.cons (by rfl) (.inl rfl) (.cons (by rfl) (.inl rfl) (.nil))) (by decide)) ?_
       .unfold Ez
        refine aS ?_ ?_
        .exact ox (au (by rfl)) (au (by rfl)) (cQ (ax (au (by rfl)) (ax (au (by rfl)) (aO))))
        exact bg
      refine aS ?_ ?_
      .refine dh (b6 (b0 (au (by rfl)) (a')) (bS) ec) ?_ ?_
       .refine aS ?_ ?_
        .exact ox (i7 (lC B) (ax (au (by rfl)) (aO)) lS) (au (by rfl)) (au (by rfl))
        exact bg
       .exact bg
      exact bg
     .exact bg
    exact bg
  refine aS ?_ ?_
  .exact cS (Ab (tH (b0 (au (by rfl)) (bS)) (au (by rfl)) ec) (tH (b0 (au (by rfl)) (bS)) (au (by rfl)) ec))
  exact bg
 exact fD (xs:=["world","given"]) (m:=7) B (B.X _ _ (IZ w.params)) rfl (eQ B.X (by kernel_rfl)) rfl (kP λ_ _=>rfl) rfl ⟨_,rfl⟩ (by decide) (by decide) (by decide) ag
end
section
variable{prog:Program}{w:World}{h₁:Heap}{k:Nat}
theorem Gy(B:bP (KK w.params) h₁):OpOk prog w h₁ (k+11) (λvs=>call (.ref 308) vs) pS:=by
 have ag:∀aV,SOk prog w h₁ (callEnv AM aV 308) ["pool","world","frames","room","now","lists","row","kind"] (k+10) (execs zN (callEnv AM aV 308)) vn:=by
  intro aV
  unfold vn zN pick
  refine aS ?_ ?_
  .exact d3 (cJ (B.X _ _ (IS w.params)) rfl (Rn B) (ax (au (by rfl)) (ax (au (by rfl)) (aO))) (Qp (k:=k+0) B)) (by rfl) (by decide) (.inl rfl)
  refine aS ?_ ?_
  .refine dh (b6 (au (by rfl)) (gG) qU) ?_ ?_
   .refine aS ?_ ?_
    .exact cS (iM)
    exact bg
   .exact bg
  refine aS ?_ ?_
  .refine kq (au (by rfl)) (gb (by rfl) (by decide) (.inl rfl)) ?_
   .unfold Ey
    refine aS ?_ ?_
    .refine dh (iu (f7 (b6 (au (by rfl)) (hj (aO)) ec) (f7 (b6 (i7 (Hz B) (ax (lB (ns':=["frame"]) (au (by rfl)) (by first|rfl|kernel_rfl) (λ_=>js) (by decide) (by rfl) (by decide) (λ_=>gb (by rfl) (by decide) (.inl rfl)) (λ_=>oO) (λ_=>i7 (lC B) (ax (cJ (B.X _ _ (B' w.params)) rfl (Hw B) (ax (au (by rfl)) (aO)) (GD (k:=k+5) B)) (aO)) lS)) (aO)) JH) (au (by rfl)) qT) (kR)))) ?_ ?_
     .refine aS ?_ ?_
      .exact cS (iM)
      exact bg
     .exact bg
    refine aS ?_ ?_
    .exact d3 (b0 (hj (ax (bS) (ax (bS) (ax (bS) (ax (bS) (ax (bS) (ax (bS) (aO)))))))) (c' (i7 (lC B) (ax (b0 (au (by rfl)) (bS)) (aO)) lS) (a') oj)) (by rfl) (by decide) (.inl rfl)
    refine aS ?_ ?_
    .refine dh (b6 (tI B (ly w.params) (by kernel_rfl) (by kernel_rfl) (B.X _ _ (IW w.params)) rfl (b0 (au (by rfl)) (bS)) (ax (au (by rfl)) (aO)) (Qu (k:=k+9) B)) (gG) qU) ?_ ?_
     .refine aS ?_ ?_
      .exact ik (tI B (ly w.params) (by kernel_rfl) (by kernel_rfl) (B.X _ _ (Cd w.params)) rfl (b0 (au (by rfl)) (bS)) (ax (au (by rfl)) (ax (c' (c' (au (by rfl)) (a') fg) (cJ (B.X _ _ (mE w.params)) rfl (m3 B) (ax (au (by rfl)) (ax (a') (aO))) (m1 (k:=k+9) B)) fg) (aO))) (GB (k:=k+7) B))
      refine aS ?_ ?_
      .exact ik (hl jI kE la jC (b0 (au (by rfl)) (bS)) (ax (cQ (ax (au (by rfl)) (ax (au (by rfl)) (aO)))) (aO)) k6)
      exact bg
     .refine aS ?_ ?_
      .exact ik (cJ (B.X _ _ (xI w.params)) rfl (A2 B) (ax (au (by rfl)) (ax (au (by rfl)) (aO))) (Ai (k:=k+9) B))
      exact bg
    refine aS ?_ ?_
    .exact ik (hl jI PySem.F.slot_list_extend PySem.F.type_list_extend jC (b0 (au (by rfl)) (bS)) (ax (au (by rfl)) (aO)) JB)
    exact bg
  refine aS ?_ ?_
  .exact cS (iM)
  exact bg
 exact fD (xs:=["pool","world","frames","room","now"]) (m:=3) B (B.X _ _ (Cf w.params)) rfl (eQ B.X (by kernel_rfl)) rfl (Nv λ_ _ _ _ _=>rfl) rfl ⟨_,rfl⟩ (by decide) (by decide) (by decide) ag
end
section
variable{prog:Program}{w:World}{h₁:Heap}{own:Bool}{env:Env}{ns:List Str}{k:Nat}
theorem x5:p3 prog w h₁ own env ns k (evalPairs (pairTrees [] [] env pos)) k5:=YO
theorem om(hk:bk prog w h₁ own env ns k (eval B1 env) sX)(a3:bk prog w h₁ own env ns k (eval Dt env) nA)
 (aI:p3 prog w h₁ own env ns k (evalPairs (pairTrees ks vs env pos)) P):p3 prog w h₁ own env ns k (evalPairs (pairTrees (some B1::ks) (Dt::vs) env pos)) (hb sX nA P):=by
 rw[pairTrees]
 exact YK hk a3 aI
end
section
variable{prog:Program}{w:World}{h₁:Heap}{k:Nat}
theorem Qr(B:bP (KK w.params) h₁):OpOk prog w h₁ (k+12) (λvs=>call (.ref 313) vs) vS:=by
 have ag:∀aV,SOk prog w h₁ (callEnvC wK aV 313) ["script","pool","given","room","now","done","blocked","world","anew","turn","first","due","lost","kind","row","part","left","names"] (k+11) (execs wg (callEnvC wK aV 313)) sW:=by
  intro aV
  unfold sW wg pick
  refine aS ?_ ?_
  .first
    |exact KP (ns':=["cell"]) (oZ (au (by rfl)) (pv) (pw (a'))) (by first|rfl|kernel_rfl) (λ_=>js) (by decide) (by rfl) (by decide) (λ_=>gb (by rfl) (by decide) (.inl rfl)) (λ_=>oO) (λ_=>hg (Hu B) (ax (au (by rfl)) (aO)) JE) (by rfl) (by decide) (.inl rfl) (by rfl)
    |exact d3 (lB (ns':=["cell"]) (oZ (au (by rfl)) (pv) (pw (a'))) (by first|rfl|kernel_rfl) (λ_=>js) (by decide) (by rfl) (by decide) (λ_=>gb (by rfl) (by decide) (.inl rfl)) (λ_=>oO) (λ_=>hg (Hu B) (ax (au (by rfl)) (aO)) JE)) (by rfl) (by decide) (.inl rfl)
  refine aS ?_ ?_
  .exact d3 (j' (ax (c' (i7 (Hz B) (ax (au (by rfl)) (aO)) JH) (a') oj) (ax (au (by rfl)) (ax (a') (aO))))) (by rfl) (by decide) (.inl rfl)
  refine aS ?_ ?_
  .first
    |exact k' (cQ (ax (cJ (B.X _ _ (Ce w.params)) rfl (Hq B) (ax (au (by rfl)) (aO)) (Gx (k:=k+9) B)) (ax (c' (a') (cJ (B.X _ _ (mE w.params)) rfl (m3 B) (ax (au (by rfl)) (ax (a') (aO))) (m1 (k:=k+10) B)) fg) (ax (a') (aO))))) (i0 (.cons (by rfl) (.inl rfl) (.cons (by rfl) (.inl rfl) (.cons (by rfl) (.inl rfl) (.nil)))) (by decide))
    |exact k9 (xs:=["given","room","now"]) (cQ (ax (cJ (B.X _ _ (Ce w.params)) rfl (Hq B) (ax (au (by rfl)) (aO)) (Gx (k:=k+9) B)) (ax (c' (a') (cJ (B.X _ _ (mE w.params)) rfl (m3 B) (ax (au (by rfl)) (ax (a') (aO))) (m1 (k:=k+10) B)) fg) (ax (a') (aO))))) (by rfl) (by repeat (first|exact dJ _|refine bO.mpr ⟨.inl rfl,?_⟩|refine bO.mpr ⟨.inr ⟨rfl,rfl,rfl⟩,?_⟩)) (by decide) (by decide)
  refine aS ?_ ?_
  .exact d3 (iN (b6 (cJ (B.X _ _ (mE w.params)) rfl (m3 B) (ax (au (by rfl)) (ax (a') (aO))) (m1 (k:=k+10) B)) (a') ec) (wD jn.t (om (cQ (ax (bS) (ax (a') (aO)))) (iM) (x5))) (mj jn.t)) (by rfl) (by decide) (.inl rfl)
  refine aS ?_ ?_
  .exact d3 (iN (b6 (cJ (B.X _ _ (mE w.params)) rfl (m3 B) (ax (au (by rfl)) (ax (a') (aO))) (m1 (k:=k+10) B)) (a') ec) (wD jn.t (om (cQ (ax (bS) (ax (gG) (aO)))) (a') (x5))) (mj jn.t)) (by rfl) (by decide) (.inl rfl)
  refine aS ?_ ?_
  .refine d3 (e:=_) ?_ ?_ ?_ ?_ ?_ ?_
   .refine@wD _ _ _ _ _ _ _ _ _ _ _ _ jn.a ?_ ?_ ?_ ?_ ?_
    .refine om ?_ ?_ ?_
     .exact bS
     .exact j' (aO)
     .refine om ?_ ?_ ?_
      .exact bS
      .exact j' (aO)
      .refine om ?_ ?_ ?_
       .exact bS
       .exact j' (aO)
       .refine om ?_ ?_ ?_
        .exact bS
        .exact mj jn.t
        .refine om ?_ ?_ ?_
         .exact bS
         .exact mj jn.a
         .refine om ?_ ?_ ?_
          .exact bS
          .exact P7 B (ly w.params) (Tu B) (by kernel_rfl) (by kernel_rfl) (QZ B)
          .exact x5
    .rfl
    .rfl
    .exactλq=>nomatch q
    .decide
   .rfl
   .decide
   .exact .inl rfl
   .rfl
   .rfl
  refine aS ?_ ?_
  .refine dh (zi (nK (cJ (B.X _ _ (Cf w.params)) rfl (Hr B) (ax (au (by rfl)) (ax (au (by rfl)) (ax (au (by rfl)) (ax (au (by rfl)) (ax (au (by rfl)) (aO)))))) (Gy (k:=k+0) B)))) ?_ ?_
   .refine aS ?_ ?_
    .exact cS (iM)
    exact bg
   .exact bg
  refine aS ?_ ?_
  .exact d3 (hj (aO)) (by rfl) (by decide) (.inl rfl)
  refine aS ?_ ?_
  .refine kq (hg (tS B) (ax (a') (aO)) uJ) (gb (by rfl) (by decide) (.inl rfl)) ?_
   .unfold EG
    refine aS ?_ ?_
    .exact d3 (cJ (B.X _ _ (Cc w.params)) rfl (Hv B) (ax (tG B (ly w.params) (b0 (au (by rfl)) (bS))) (aO)) (GC (k:=k+10) B)) (by rfl) (by decide) (.inl rfl)
    refine aS ?_ ?_
    .refine dh (b6 (au (by rfl)) (gG) qU) ?_ ?_
     .refine aS ?_ ?_
      .exact ZQ
      exact bg
     .exact bg
    refine aS ?_ ?_
    .refine dh (iu (f7 (b6 (b0 (au (by rfl)) (a')) (au (by rfl)) qV) (f7 (b6 (b0 (au (by rfl)) (a')) (tI B (ly w.params) (by kernel_rfl) (by kernel_rfl) (B.X _ _ (IX w.params)) rfl (b0 (au (by rfl)) (bS)) (aO) (Qs (k:=k+9) B)) mH) (kR)))) ?_ ?_
     .refine aS ?_ ?_
      .exact cS (iM)
      exact bg
     .exact bg
    refine aS ?_ ?_
    .exact d3 (b0 (au (by rfl)) (a')) (by rfl) (by decide) (.inl rfl)
    refine aS ?_ ?_
    .exact d3 (tI B (ly w.params) (by kernel_rfl) (by kernel_rfl) (B.X _ _ (IY w.params)) rfl (b0 (au (by rfl)) (bS)) (ax (au (by rfl)) (aO)) (Qt (k:=k+7) B)) (by rfl) (by decide) (.inl rfl)
    refine aS ?_ ?_
    .refine dh (iu (f7 (b6 (au (by rfl)) (hj (aO)) ec) (f7 (b6 (b0 (au (by rfl)) (a')) (b0 (au (by rfl)) (a')) mH) (kR)))) ?_ ?_
     .refine aS ?_ ?_
      .exact cS (iM)
      exact bg
     .exact bg
    refine aS ?_ ?_
    .exact d3 (j' (aO)) (by rfl) (by decide) (.inl rfl)
    refine aS ?_ ?_
    .refine kq (au (by rfl)) (gb (by rfl) (by decide) (.inr ⟨rfl,rfl,rfl⟩)) ?_
     .unfold EF
      refine aS ?_ ?_
      .exact d3 (b0 (lB (ns':=["one","kind"]) (b0 (au (by rfl)) (bS)) (by first|rfl|kernel_rfl) (λ_=>js) (by decide) (by rfl) (by decide) (λ_=>gb (by rfl) (by decide) (.inl rfl)) (λ_=>oP (b6 (b0 (au (by rfl)) (a')) (au (by rfl)) ec)) (λ_=>b0 (au (by rfl)) (a'))) (a')) (by rfl) (by decide) (.inl rfl)
      refine aS ?_ ?_
      .exact ox (Gk (ns':=["one","kind"]) (b0 (au (by rfl)) (bS)) (by first|rfl|kernel_rfl) (λ_=>js) (by decide) (by rfl) (by decide) (λ_=>gb (by rfl) (by decide) (.inl rfl)) (λ_=>oP (b6 (b0 (au (by rfl)) (a')) (au (by rfl)) mH)) (λ_=>au (by rfl))) (au (by rfl)) (bS)
      refine aS ?_ ?_
      .refine dh (iu (f7 (iu (lx (b6 (au (by rfl)) (a') qV) (lx (b6 (cJ (B.X _ _ (mE w.params)) rfl (m3 B) (ax (au (by rfl)) (ax (a') (aO))) (m1 (k:=k+10) B)) (a') qT) (ry)))) (f7 (b6 (au (by rfl)) (a') ec) (kR)))) ?_ ?_
       .refine aS ?_ ?_
        .exact ik (hl jI PySem.F.slot_list_extend PySem.F.type_list_extend jC (au (by rfl)) (ax (au (by rfl)) (aO)) JB)
        exact bg
       .refine aS ?_ ?_
        .exact ik (cJ (B.X _ _ (xI w.params)) rfl (A2 B) (ax (au (by rfl)) (ax (au (by rfl)) (aO))) (Ai (k:=k+10) B))
        exact bg
      exact bg
    refine aS ?_ ?_
    .exact d3 (c' (cJ (B.X _ _ (I1 w.params)) rfl (Rw B) (ax (au (by rfl)) (ax (wD jn.t (om (cQ (ax (bS) (ax (gG) (aO)))) (a') (x5))) (ax (au (by rfl)) (ax (au (by rfl)) (aO))))) (QA (k:=k+8) B)) (cJ (B.X _ _ (I2 w.params)) rfl (Rm B) (ax (au (by rfl)) (aO)) (Qo (k:=k+9) B)) fg) (by rfl) (by decide) (.inl rfl)
    refine aS ?_ ?_
    .refine dh (iu (f7 (b6 (lB (ns':=["frame"]) (au (by rfl)) (by first|rfl|kernel_rfl) (λ_=>js) (by decide) (by rfl) (by decide) (λ_=>gb (by rfl) (by decide) (.inl rfl)) (λ_=>oP (b6 (b0 (au (by rfl)) (a')) (bS) ec)) (λ_=>au (by rfl))) (cQ (ax (hj (aO)) (ax (hj (ax (cQ (ax (bS) (ax (a') (aO)))) (aO))) (aO)))) CC) (f7 (b6 (cQ (ax (bS) (ax (rG) (aO)))) (au (by rfl)) jz) (kR)))) ?_ ?_
     .refine aS ?_ ?_
      .exact cS (iM)
      exact bg
     .exact bg
    refine aS ?_ ?_
    .refine dh (iu (f7 (iu (lx (b6 (cQ (ax (bS) (ax (a') (aO)))) (au (by rfl)) jz) (lx (b6 (au (by rfl)) (mj jn.t) ec) (ry)))) (f7 (iu (lx (b6 (cQ (ax (bS) (ax (a') (ax (a') (aO))))) (au (by rfl)) jz) (lx (b6 (au (by rfl)) (mj jn.t) mH) (ry)))) (kR)))) ?_ ?_
     .refine aS ?_ ?_
      .exact cS (iM)
      exact bg
     .exact bg
    refine aS ?_ ?_
    .refine dh (zi (nK (cJ (B.X _ _ (Cf w.params)) rfl (Hr B) (ax (au (by rfl)) (ax (au (by rfl)) (ax (au (by rfl)) (ax (au (by rfl)) (ax (au (by rfl)) (aO)))))) (Gy (k:=k+0) B)))) ?_ ?_
     .refine aS ?_ ?_
      .exact cS (iM)
      exact bg
     .exact bg
    exact bg
  refine aS ?_ ?_
  .refine kq (b0 (au (by rfl)) (bS)) (i0 (.cons (by rfl) (.inr ⟨rfl,rfl,rfl⟩) (.cons (by rfl) (.inl rfl) (.nil))) (by decide)) ?_
   .unfold EH
    refine aS ?_ ?_
    .exact ik (cJ (B.X _ _ (xI w.params)) rfl (A2 B) (ax (au (by rfl)) (ax (au (by rfl)) (aO))) (Ai (k:=k+10) B))
    exact bg
  refine aS ?_ ?_
  .first
    |exact k' (cJ (B.X _ _ (ux w.params)) rfl (w1 B) (ax (hj (ax (cQ (ax (bS) (ax (a') (ax (hg (mm B) (ax (a') (aO)) ng) (aO))))) (ax (cQ (ax (bS) (aO))) (aO)))) (ax (a') (aO))) (wH (k:=k+2) B)) (i0 (.cons (by rfl) (.inl rfl) (.cons (by rfl) (.inl rfl) (.nil))) (by decide))
    |exact k9 (xs:=["part","left"]) (cJ (B.X _ _ (ux w.params)) rfl (w1 B) (ax (hj (ax (cQ (ax (bS) (ax (a') (ax (hg (mm B) (ax (a') (aO)) ng) (aO))))) (ax (cQ (ax (bS) (aO))) (aO)))) (ax (a') (aO))) (wH (k:=k+2) B)) (by rfl) (by repeat (first|exact dJ _|refine bO.mpr ⟨.inl rfl,?_⟩|refine bO.mpr ⟨.inr ⟨rfl,rfl,rfl⟩,?_⟩)) (by decide) (by decide)
  refine aS ?_ ?_
  .refine dh (iu (f7 (zi (nK (cJ (B.X _ _ (IZ w.params)) rfl (Rh B) (ax (au (by rfl)) (ax (au (by rfl)) (aO))) (Qm (k:=k+10) B)))) (f7 (b6 (au (by rfl)) (hj (ax (cQ (ax (bS) (ax (a') (ax (hg (mm B) (ax (a') (aO)) ng) (aO))))) (aO))) mH) (f7 (b6 (au (by rfl)) (hj (ax (cQ (ax (bS) (ax (a') (ax (hg (mm B) (ax (a') (aO)) ng) (aO))))) (ax (cQ (ax (bS) (aO))) (aO)))) mH) (kR))))) ?_ ?_
   .refine aS ?_ ?_
    .exact cS (iM)
    exact bg
   .exact bg
  refine aS ?_ ?_
  .refine dh (b6 (hl jI PySem.F.slot_list_count PySem.F.type_list_count jC (b0 (au (by rfl)) (bS)) (ax (cQ (ax (bS) (ax (rG) (aO)))) (aO)) U5) (a') mH) ?_ ?_
   .refine aS ?_ ?_
    .exact cS (iM)
    exact bg
   .exact bg
  refine aS ?_ ?_
  .first
    |exact KP (ns':=["frame"]) (au (by rfl)) (by first|rfl|kernel_rfl) (λ_=>js) (by decide) (by rfl) (by decide) (λ_=>gb (by rfl) (by decide) (.inl rfl)) (λ_=>oP (b6 (b0 (au (by rfl)) (a')) (bS) ec)) (λ_=>au (by rfl)) (by rfl) (by decide) (.inl rfl) (by rfl)
    |exact d3 (lB (ns':=["frame"]) (au (by rfl)) (by first|rfl|kernel_rfl) (λ_=>js) (by decide) (by rfl) (by decide) (λ_=>gb (by rfl) (by decide) (.inl rfl)) (λ_=>oP (b6 (b0 (au (by rfl)) (a')) (bS) ec)) (λ_=>au (by rfl))) (by rfl) (by decide) (.inl rfl)
  refine aS ?_ ?_
  .exact cS (Ab (tH (b0 (au (by rfl)) (a')) (b0 (au (by rfl)) (bS)) jz) (tH (lB (ns':=["frame"]) (b0 (au (by rfl)) (bS)) (by first|rfl|kernel_rfl) (λ_=>js) (by decide) (by rfl) (by decide) (λ_=>gb (by rfl) (by decide) (.inl rfl)) (λ_=>oP (b6 (b0 (au (by rfl)) (a')) (bS) ec)) (λ_=>au (by rfl))) (hj (aO)) mH))
  exact bg
 refine wG (prog:=prog) (w:=w) (fa:=313) (o:=AR) (fd:=wK) (body:=wg) (xs:=["script"]) (ns:=["script","pool","given","room","now","done","blocked","world","anew","turn","first","due","lost","kind","row","part","left","names"]) (m:=17) (D:=sW) (k:=k+11) B ?g1 ?g2 ?g3 ?g4 ?g5 ?g6 ?g7 ?g8 ?g9 ?g10 ?g11 ?g12 ?g13
 case g10=>with_reducible exact ag
 case g1=>exact B.X _ _ (Um w.params)
 case g3=>exact eQ B.X (by kernel_rfl)
 case g5=>exact i6 λ_=>rfl
 case g7=>exact⟨_,rfl⟩
 case g8=>decide
 case g9=>decide
 all_goals rfl
end
theorem OZ:oX.name="law":=by kernel_rfl
theorem TM(pure:∀l:List Int,l.length<=63->∃a0,vS [.bp (l.map J.int)] ⟨λ_=>none,0⟩=some (.bool true,a0)):PySem.Challenge.rw_nz0352_01.Holds:=by
 refine head ?_
 intro w oz bj kl og G y9 fa o ot oQ doc tE um aH aB jT ao Bt aU args pF as kZ rP BF S9 Sr
 have X:(KK w.params).In bj.heap:=kIn_of y9
 refine Ground.open G ?_
 intro T B D TE MA
 have ag:bP (KK w.params) bj.heap:=⟨X,⟨kl,og,T.g,T.b,λx av=>T.builtins x av⟩,T.nolimit⟩
 have Sa:fa=313:=by
  have e:nsIn (KK w.params) mainGlobals "law"=some (some (.ref 313)):=by kernel_rfl
  have:=mg_of X T.g e
  rw[OZ] at Bt
  exact(Value.ref.inj (b9 (this.symm.trans Bt))).symm
 subst Sa
 clear D TE MA B aH aB jT ao Bt
 wrow_args kZ rP BF S9 Sr
 rename_i l hs ado adk qw n1 adf jO T1 items adv RQ adq mA rU iP BG Be o'
 obtain⟨a0,hp⟩:=pure l (by exact aC.Yj Be)
 have R:bB Challenge.rw_nz0352_01.row.prog w bj.heap ⟨λa=>match bj.heap.get? a with|some o=>.imm o|none=>.free,λ_=>0⟩ ⟨λ_=>none,0⟩ bj.heap:=by
  refine⟨?_,λa o e=>by simp only[e],λa o e=>?_,λa o e=>?_,λa e=>?_,λc x e=>(nomatch e),λc _=>rfl⟩
  .obtain⟨o,es,n,h,_⟩:=T.g
   exact⟨o,h⟩
  .dsimp only at e;split at e
   .rename_i h;cases e;exact h
   .cases e
  .dsimp only at e;split at e<;>cases e
  .dsimp only at e;split at e
   .exact⟨_,by assumption⟩
   .exact absurd rfl e
 have aE:eR callerA 12:=⟨rfl,by decide,by decide,rfl⟩
 have ZJ:∀{vs:List Value} {is:List Int},IntsAre vs is->∀W n,bw Challenge.rw_nz0352_01.row.prog w W n (is.map J.int) vs:=by
  intro vs is h W n
  induction h with
  |nil=>exact .nil
  |cons _ _ _ aZ=>exact .cons (.int _ _) aZ
 obtain⟨Vl,SM,Bz,fu,m5⟩:=RQ
 refine Qr (k:=0) ag callerA _ _ _ _ a0 [.ref T1] bj _ _ aE hp R (.cons (.bp (o:=Vl) (items:=items.toArray) (k:=fu) ?_ Bz m5 (ZJ iP _ _)) .nil) ?_
 .simp only[SM]
 intro W' ay h' cP le adu dK fx
 cases fx
 refine⟨.inl ⟨_,.bool true,[],rfl,λ_=>rfl,.bool _,?_,λ_=>⟨List.nodup_nil,nofun⟩⟩,.of_keep dK.old,rfl,.of_eq aU⟩
 wrow_post
inductive a4 {α:Type} (m:Option (α×St)) (Q:α->St->Prop):Prop
 |mk (a:α) (s:St) (e:m=some (a,s)) (h:Q a s):a4 m Q
inductive dw (m:Option (fT×Loc×St)) (Q:fT->Loc->St->Prop):Prop
 |mk (f:fT) (l:Loc) (s:St) (e:m=some (f,l,s)) (h:Q f l s):dw m Q
section
variable{α bW:Type}{Q:α->St->Prop}{jK:fT->Loc->St->Prop}
theorem a4.a5{m:Option (α×St)}{lp:α->St->Prop}(h:a4 m Q)(b5:∀a σ,Q a σ->lp a σ):a4 m lp:=by
 obtain⟨a,s,e,h⟩:=h;exact⟨a,s,e,b5 _ _ h⟩
theorem a4.fH{m:Option (α×St)}{x:α}{R:St->Prop}(h:a4 m λv s=>v=x/\R s)(k:∀s,R s->Q x s):a4 m Q:=h.a5 λa s e=>by rw[e.1];exact k s e.2
theorem dw.a5(h:dw m jK)(b5:∀f l σ,jK f l σ->lp f l σ):dw m lp:=by
 obtain⟨f,l,s,e,h⟩:=h;exact⟨f,l,s,e,b5 _ _ _ h⟩
theorem a4.bind{m:Option (bW×St)}{f:bW×St->Option (α×St)}(h:a4 m λb s=>a4 (f (b,s)) Q):a4 (m.bind f) Q:=by
 obtain⟨b,s,rfl,a,aY,c2,h⟩:=h;exact⟨a,aY,c2,h⟩
theorem a4.gx{m:Option (bW×St)}{f:bW×St->Option (fT×Loc×St)}(h:a4 m λb s=>dw (f (b,s)) jK):dw (m.bind f) jK:=by
 obtain⟨b,s,rfl,a,l,aY,c2,h⟩:=h;exact⟨a,l,aY,c2,h⟩
theorem dw.gx(h:dw m λa l s=>dw (f (a,l,s)) jK):dw (m.bind f) jK:=by
 obtain⟨b,k,s,rfl,a,l,aY,c2,h⟩:=h;exact⟨a,l,aY,c2,h⟩
theorem aJ.wp{m:Option (α×St)}(h:aJ m Q):a4 m Q:=by
 match m,h with
 |some (a,s),h=>exact⟨a,s,rfl,h⟩
theorem gL.map{m:Option bW}{f:bW->α×St}(h:gL m λb=>Q (f b).1 (f b).2):a4 (m.map f) Q:=by
 match m,h with
 |some b,h=>exact⟨_,_,rfl,h⟩
theorem gL.gx{m:Option bW}{f:bW->Option (fT×Loc×St)}(h:gL m λb=>dw (f b) jK):dw (m.bind f) jK:=by
 match m,h with
 |some b,h=>exact h
theorem gL.KY{m:Option bW}{f:bW->fT×Loc×St}(h:gL m λb=>jK (f b).1 (f b).2.1 (f b).2.2):dw (m.map f) jK:=by
 match m,h with
 |some b,h=>exact⟨_,_,_,rfl,h⟩
noncomputable def dD(b:Bool)(A B:Prop):Prop:=match b with
 |true=>A
 |false=>B
theorem a4.some{a:α}(h:Q a s):a4 (some (a,s)) Q:=⟨a,s,rfl,h⟩
theorem dw.some(h:jK a l s):dw (some (a,l,s)) jK:=⟨a,l,s,rfl,h⟩
theorem dD.wp{m n:Option (α×St)}(h:dD b (a4 m Q) (a4 n Q)):a4 (if b=true then m else n) Q:=by
 cases b<;>exact h
theorem dD.oE(h:dD b (dw m jK) (dw n jK)):dw (if b=true then m else n) jK:=by
 cases b<;>exact h
theorem dD.of(h:dD b A B)(ha:A->L8)(ag:B->Ma):dD b L8 Ma:=by
 cases b
 .exact ag h
 .exact ha h
inductive pZ (v:J) (s:St) (P:List J->Prop):Prop
 |mk (items:List J) (e:d1 v s=some items) (h:P items):pZ v s P
theorem dz(e:d1 v s=some items)(h:P items):pZ v s P:=⟨items,e,h⟩
noncomputable def pq(v:J)(Q:Bool->Prop):Prop:=match v with
 |.bool b=>Q b
 |_=>False
theorem pq.cC{Q:Bool->Prop}(h:pq v Q):∃b,v=.bool b/\Q b:=
 J.casesOn (motive_1:=λv=>pq v Q->∃b,v=.bool b/\Q b) v False.elim (λb h=>⟨b,rfl,h⟩) (λ_ h=>False.elim h) (λ_ h=>False.elim h) (λ_ h=>False.elim h) (λ_ h=>False.elim h) (λ_ h=>False.elim h) (λ_ h=>False.elim h) (λ_ _ _ h=>False.elim h) (λ_ h=>False.elim h) (λ_ h=>False.elim h) h
end
structure TE where
 d:c4
 p:Loc->St->(J->St->Prop)->Prop
 h:∀{U σ Q},p U σ Q->a4 (d U σ) Q
structure f3 where
 d:hB
 p:Loc->St->(Bool->St->Prop)->Prop
 h:∀{U σ Q},p U σ Q->a4 (d U σ) Q
structure kM where
 d:l7
 p:Loc->St->(List J->St->Prop)->Prop
 h:∀{U σ Q},p U σ Q->a4 (d U σ) Q
structure rl where
 d:tr
 p:Loc->St->(List (J×J)->St->Prop)->Prop
 h:∀{U σ Q},p U σ Q->a4 (d U σ) Q
structure cb where
 d:ct
 p:Loc->St->(fT->Loc->St->Prop)->Prop
 h:∀{U σ Q},p U σ Q->dw (d U σ) Q
noncomputable section
namespace TE
noncomputable def nR:TE:=⟨Internal.nR,λ_ _ _=>False,False.elim⟩
noncomputable def C(i:Nat):TE:=⟨Internal.C i,λU σ Q=>match U[i]? with|some (some v)=>Q v σ|_=>False,λ{U σ Q} h=>by
 revert h
 unfold Internal.C
 generalize U[i]? =o
 intro h
 rcases o with _|_|v
 .exact False.elim h
 .exact False.elim h
 .exact .some h⟩
noncomputable def I(v:J):TE:=⟨Internal.I v,λ_ σ Q=>Q v σ,a4.some⟩
noncomputable def af(F:b3)(a b:TE):TE:=⟨Internal.af F a.d b.d,λU σ Q=>a.p U σ λx s=>b.p U s λy t=>aJ (F [x,y] t) Q,
 λh=>a4.bind ((a.h h).a5 λ_ _ h=>a4.bind ((b.h h).a5 λ_ _ h=>h.wp))⟩
noncomputable def j4(F:b3)(a:TE):TE:=⟨Internal.j4 F a.d,λU σ Q=>a.p U σ λx s=>aJ (F [x] s) Q,λh=>a4.bind ((a.h h).a5 λ_ _ h=>h.wp)⟩
noncomputable def eL(t:f3)(a b:TE):TE:=⟨Internal.eL t.d a.d b.d,λU σ Q=>t.p U σ λc s=>dD c (a.p U s Q) (b.p U s Q),
 λh=>a4.bind ((t.h h).a5 λ_ _ h=>dD.wp (h.of a.h b.h))⟩
theorem Dg(h:dD (Nat.ble n 1000000) (Q v s) False):a4 (if n<=1000000 then some (v,s) else none) Q:=by
 cases e:Nat.ble n 1000000 with
 |false=>rw[e] at h;exact h.elim
 |true=>rw[e] at h;rw[if_pos (Nat.le_of_ble_eq_true e)];exact .some h
noncomputable def bR(l:kM):TE:=⟨Internal.bR l.d,λU σ Q=>l.p U σ λas s=>dD (Nat.ble as.length 1000000) (Q (.bo as) s) False,λh=>a4.bind ((l.h h).a5 λ_ _ h=>Dg h)⟩
noncomputable def dE(l:kM):TE:=⟨Internal.dE l.d,λU σ Q=>l.p U σ λas s=>dD (Nat.ble as.length 1000000) (Q (.bp as) s) False,λh=>a4.bind ((l.h h).a5 λ_ _ h=>Dg h)⟩
noncomputable def gF(l:kM):TE:=⟨Internal.gF l.d,λU σ Q=>l.p U σ λas s=>dD (Nat.ble as.length 1000000) (Q (.ref s.next) (s.new (.list as))) False,λh=>a4.bind ((l.h h).a5 λ_ _ h=>Dg h)⟩
noncomputable def bb(F:b3)(l:kM):TE:=⟨Internal.bb F l.d,λU σ Q=>l.p U σ λas s=>a4 (F as s) Q,λh=>a4.bind (l.h h)⟩
noncomputable def ef(F:b3)(l:kM):TE:=⟨Internal.bb F l.d,λU σ Q=>l.p U σ λas s=>aJ (F as s) Q,λh=>a4.bind ((l.h h).a5 λ_ _ h=>h.wp)⟩
noncomputable def dP(jt:J->St->Bool)(F:b3)(o:TE)(l:kM):TE:=⟨Internal.dP jt F o.d l.d,λU σ Q=>o.p U σ λv s=>dD (jt v s) (l.p U s λas t=>aJ (F (v::as) t) Q) False,
 λh=>a4.bind ((o.h h).a5 λ_ _ h=>dD.wp (h.of (λh=>a4.bind ((l.h h).a5 λ_ _ h=>h.wp)) False.elim))⟩
noncomputable def xO(jt:J->St->Bool)(F:b3)(o:TE)(l:kM):TE:=⟨Internal.dP jt F o.d l.d,λU σ Q=>o.p U σ λv s=>dD (jt v s) (l.p U s λas t=>a4 (F (v::as) t) Q) False,
 λh=>a4.bind ((o.h h).a5 λ_ _ h=>dD.wp (h.of (λh=>a4.bind (l.h h)) False.elim))⟩
inductive CS (v:J) (s:St) (A:Nat->Prop):Prop
 |mk (c:Nat) (x:Option J) (gr:v=.ref c) (e:s.cells c=some (.inst x)) (h:A c):CS v s A
noncomputable def k3(F:b3)(o:TE)(l:kM):TE:=⟨Internal.k3 F o.d l.d,λU σ Q=>o.p U σ λv s=>CS v s λc=>l.p U s λas t=>a4 (F (.ref c::as) t) Q,
 λh=>a4.bind ((o.h h).a5 λv s q=>by obtain⟨c,x,gr,e,h⟩:=q;subst gr;dsimp only;rw[e];exact a4.bind (l.h h))⟩
noncomputable def ji(o l u:TE):TE:=⟨Internal.ji o.d l.d u.d,λU σ Q=>o.p U σ λx s=>l.p U s λy t=>u.p U t λz r=>gL (jB x y z) λv=>Q v r,
 λh=>a4.bind ((o.h h).a5 λ_ _ h=>a4.bind ((l.h h).a5 λ_ _ h=>a4.bind ((u.h h).a5 λ_ _ h=>gL.map h)))⟩
noncomputable def gR(x:df):TE:=⟨Internal.gR x,λ_ σ Q=>Q (.ref σ.next) (σ.new x),a4.some⟩
noncomputable def lz(x:df)(l:rl):TE:=⟨Internal.lz x l.d,λU σ Q=>l.p U (σ.new x) λps s=>gL (oY σ.next ps s) λaY=>Q (.ref σ.next) aY,λh=>a4.bind ((l.h h).a5 λ_ _ h=>gL.map h)⟩
noncomputable def z1(src:TE)(fL:Loc->Loc)(bind:J->Loc->Option Loc)(t:f3)(ea:TE)(U:Loc)(σ:St)(Q:List J->St->Prop):Prop:=
 src.p U σ λv s=>pZ v s λitems=>a4 (mW v items bind t.d ea.d items [] (fL U) s) Q
theorem FZ{bind:J->Loc->Option Loc}(h:z1 src fL bind t ea U σ Q):a4 (wm src.d fL bind t.d ea.d U σ) Q:=
 a4.bind ((src.h h).a5 λ_ _ q=>by obtain⟨items,e,h⟩:=q;dsimp only;rw[e];exact h)
noncomputable def fM(src:TE)(fL:Loc->Loc)(bind:J->Loc->Option Loc)(t:f3)(ea:TE):TE:=⟨Internal.fM src.d fL bind t.d ea.d,λU σ Q=>z1 src fL bind t ea U σ λvs s=>Q (.bp vs) s,λh=>a4.bind ((FZ h).a5 λ_ _ h=>.some h)⟩
noncomputable def oV(src:TE)(fL:Loc->Loc)(bind:J->Loc->Option Loc)(t:f3)(ea:TE):TE:=⟨Internal.oV src.d fL bind t.d ea.d,λU σ Q=>z1 src fL bind t ea U σ λvs s=>Q (.ref s.next) (s.new (.list vs)),λh=>a4.bind ((FZ h).a5 λ_ _ h=>.some h)⟩
inductive K2 (v:J) (s:St) (Q:J->Prop):Prop
 |mk (es:List (List bq×J)) (l:List Int) (e:gy v s=some es) (gH:ib (es.map (·.2))=some l) (dc:es.length<=6) (h:Q (.bp (oy (se l) (es.map (·.2))))):K2 v s Q
noncomputable def uZ(o:TE):TE:=⟨Internal.uZ o.d,λU σ Q=>o.p U σ λv s=>K2 v s λx=>Q x s,λh=>a4.bind ((o.h h).a5 λv s q=>by
 obtain⟨es,l,e,gH,dc,h⟩:=q
 dsimp only
 rw[e,Option.bind_some,gH,Option.bind_some,if_pos dc];exact .some h)⟩
inductive zh (v:J) (s:St) (Q:J->Prop):Prop
 |mk (c:Nat) (es:List (bq×J)) (gr:v=.ref c) (e:s.cells c=some (.inst (some (.cD es)))) (h:Q (.cD es)):zh v s Q
noncomputable def kQ(o:TE):TE:=⟨Internal.kQ o.d,λU σ Q=>o.p U σ λv s=>zh v s λx=>Q x s,λh=>a4.bind ((o.h h).a5 λv s q=>by obtain⟨c,es,gr,e,h⟩:=q;subst gr;dsimp only;rw[e];exact .some h)⟩
noncomputable def mT(a b:TE):TE:=⟨Internal.mT a.d b.d,λU σ Q=>a.p U σ λv s=>pq v λc=>dD c (b.p U s Q) (Q (.bool false) s),λh=>a4.bind ((a.h h).a5 λv s h=>by
 obtain⟨c,e,h⟩:=h.cC
 subst e
 cases c
 .exact .some h
 .exact b.h h)⟩
noncomputable def uC:TE:=⟨Internal.uC,λ_ σ Q=>Q (.ref σ.next) (σ.new (.inst (some (.cD [])))),a4.some⟩
end TE
namespace f3
noncomputable def boolOf(a:TE):f3:=⟨Internal.boolOf a.d,λU σ Q=>a.p U σ λv s=>pq v λb=>Q b s,λ{U σ Q} h=>by
 obtain⟨v,s,e,h⟩:=a.h h
 obtain⟨c,a9,h⟩:=h.cC
 subst a9
 exact⟨_,s,by unfold Internal.boolOf;rw[e],h⟩⟩
noncomputable def oi(a:f3):f3:=⟨Internal.oi a.d,λU σ Q=>a.p U σ λb s=>Q (!b) s,λh=>a4.bind ((a.h h).a5 λ_ _ h=>.some h)⟩
noncomputable def fC(a b:f3):f3:=⟨Internal.fC a.d b.d,λU σ Q=>a.p U σ λc s=>dD c (b.p U s Q) (Q false s),λh=>a4.bind ((a.h h).a5 λ_ _ h=>dD.wp (h.of b.h .some))⟩
noncomputable def c3(a b:f3):f3:=⟨Internal.c3 a.d b.d,λU σ Q=>a.p U σ λc s=>dD c (Q true s) (b.p U s Q),λh=>a4.bind ((a.h h).a5 λ_ _ h=>dD.wp (h.of .some b.h))⟩
noncomputable def e4:f3:=⟨Internal.e4,λ_ σ Q=>Q true σ,a4.some⟩
noncomputable def fN:f3:=⟨Internal.fN,λ_ σ Q=>Q false σ,a4.some⟩
noncomputable def tC(F G:b3)(a b c:TE):f3:=⟨Internal.tC F G a.d b.d c.d,λU σ Q=>a.p U σ λx s=>b.p U s λy t=>aJ (F [x,y] t) λr u=>pq r λr=>dD r (c.p U u λz u=>aJ (G [y,z] u) λq u=>pq q λq=>Q q u) (Q false u),
 λh=>a4.bind ((a.h h).a5 λ_ _ h=>a4.bind ((b.h h).a5 λ_ _ h=>a4.bind (h.wp.a5 λv s h=>by
  obtain⟨q,e,h⟩:=h.cC
  subst e
  cases q
  .exact .some h
  .refine a4.bind ((c.h h).a5 λz u h=>a4.bind (h.wp.a5 λv s h=>?_))
   obtain⟨q,e,h⟩:=h.cC
   subst e
   exact .some h)))⟩
end f3
namespace kM
noncomputable def ar:kM:=⟨Internal.ar,λ_ σ Q=>Q [] σ,a4.some⟩
noncomputable def aa(a:TE)(l:kM):kM:=⟨Internal.aa a.d l.d,λU σ Q=>a.p U σ λx s=>l.p U s λxs t=>Q (x::xs) t,λh=>a4.bind ((a.h h).a5 λ_ _ h=>a4.bind ((l.h h).a5 λ_ _ h=>.some h))⟩
end kM
namespace rl
noncomputable def k5:rl:=⟨Internal.k5,λ_ σ Q=>Q [] σ,a4.some⟩
noncomputable def hb(k v:TE)(l:rl):rl:=⟨Internal.hb k.d v.d l.d,λU σ Q=>k.p U σ λx s=>v.p U s λy t=>l.p U t λxs u=>Q ((x,y)::xs) u,
 λh=>a4.bind ((k.h h).a5 λ_ _ h=>a4.bind ((v.h h).a5 λ_ _ h=>a4.bind ((l.h h).a5 λ_ _ h=>.some h)))⟩
end rl
namespace cb
noncomputable def ml:cb:=⟨Internal.ml,λ_ _ _=>False,False.elim⟩
noncomputable def aD:cb:=⟨Internal.aD,λU σ Q=>Q .next U σ,dw.some⟩
noncomputable def C'(b:cb)(Q:fT->Loc->St->Prop)(f:fT)(l:Loc)(s:St):Prop:=match f with
 |.next=>b.p l s Q
 |f=>Q f l s
noncomputable def aj(a b:cb):cb:=⟨Internal.aj a.d b.d,λU σ Q=>a.p U σ (C' b Q),λh=>dw.gx ((a.h h).a5 λf l s h=>by
 cases f
 .exact b.h h
 all_goals exact .some h)⟩
noncomputable def cc(i:Nat)(a:TE):cb:=⟨Internal.cc i a.d,λU σ Q=>a.p U σ λv s=>Q .next (U.set i (some v)) s,λh=>a4.gx ((a.h h).a5 λ_ _ h=>.some h)⟩
noncomputable def bD(a:TE):cb:=⟨Internal.bD a.d,λU σ Q=>a.p U σ λv s=>Q (.ret v) U s,λh=>a4.gx ((a.h h).a5 λ_ _ h=>.some h)⟩
noncomputable def bV(t:f3)(a b:cb):cb:=⟨Internal.bV t.d a.d b.d,λU σ Q=>t.p U σ λc s=>dD c (a.p U s Q) (b.p U s Q),λh=>a4.gx ((t.h h).a5 λ_ _ h=>dD.oE (h.of a.h b.h))⟩
noncomputable def fE(src:TE)(bind:J->Loc->Option Loc)(body:cb):cb:=⟨Internal.fE src.d bind body.d,λU σ Q=>src.p U σ λv s=>pZ v s λitems=>dw (oe v items bind body.d items U s) Q,
 λh=>a4.gx ((src.h h).a5 λ_ _ q=>by obtain⟨items,e,h⟩:=q;dsimp only;rw[e];exact h)⟩
noncomputable def nS(src:TE)(bind:J->Loc->Option Loc)(body:cb):cb:=⟨Internal.nS src.d bind body.d,λU σ Q=>src.p U σ λv s=>pZ v s λitems=>((ff v s).isSome=true\/∃b,v=.bytes b)/\dw (mF v items bind body.d 0 items U s) Q,
 λh=>a4.gx ((src.h h).a5 λv s q=>by obtain⟨items,e,h1,h2⟩:=q;dsimp only;rw[e,Option.bind_some,if_pos h1];exact h2)⟩
noncomputable def pG(t:f3)(body:cb):cb:=⟨Internal.pG t.d body.d,λU σ Q=>dw (nf t.d body.d 1000000 U σ) Q,id⟩
noncomputable def hL(a o i:TE):cb:=⟨Internal.hL a.d o.d i.d,λU σ Q=>a.p U σ λv s=>o.p U s λx t=>i.p U t λy u=>gL (ko x y v u) λa0=>Q .next U a0,
 λh=>a4.gx ((a.h h).a5 λ_ _ h=>a4.gx ((o.h h).a5 λ_ _ h=>a4.gx ((i.h h).a5 λ_ _ h=>gL.KY h)))⟩
noncomputable def u2(a o i:TE):cb:=⟨Internal.u2 a.d o.d i.d,λU σ Q=>a.p U σ λv s=>o.p U s λx t=>i.p U t λy u=>gL (ou x y v u) λa0=>Q .next U a0,
 λh=>a4.gx ((a.h h).a5 λ_ _ h=>a4.gx ((o.h h).a5 λ_ _ h=>a4.gx ((i.h h).a5 λ_ _ h=>gL.KY h)))⟩
noncomputable def dZ(a:TE):cb:=⟨Internal.dZ a.d,λU σ Q=>a.p U σ λ_ s=>Q .next U s,λh=>a4.gx ((a.h h).a5 λ_ _ h=>.some h)⟩
noncomputable def tD:cb:=⟨Internal.tD,λU σ Q=>Q .cont U σ,dw.some⟩
noncomputable def tB:cb:=⟨Internal.tB,λU σ Q=>Q .brk U σ,dw.some⟩
noncomputable def p6(i:Nat)(F:b3)(a:TE):cb:=⟨Internal.p6 i F a.d,λU σ Q=>(TE.C i).p U σ λo s=>a.p U s λr t=>aJ (F [o,r] t) λq u=>Q .next (U.set i (some q)) u,
 λh=>a4.gx (((TE.C i).h h).a5 λ_ _ h=>a4.gx ((a.h h).a5 λ_ _ h=>a4.gx (h.wp.a5 λ_ _ h=>.some h)))⟩
noncomputable def fR(bind:J->Loc->Option Loc)(a:TE):cb:=⟨Internal.fR bind a.d,λU σ Q=>a.p U σ λv s=>gL (bind v U) λl=>Q .next l s,λh=>a4.gx ((a.h h).a5 λ_ _ h=>gL.gx (by
 revert h;cases bind _ _
 .exact id
 .exact .some))⟩
inductive Dd (v o:J) (s:St) (Q:St->Prop):Prop
 |mk (es:List (bq×J)) (c:Nat) (x:Option J) (gr:v=.cD es) (hR:o=.ref c) (e:s.cells c=some (.inst x)) (h:Q (s.aT c (.inst (some (.cD es))))):Dd v o s Q
noncomputable def uW(a o:TE):cb:=⟨Internal.uW a.d o.d,λU σ Q=>a.p U σ λv s=>o.p U s λx t=>Dd v x t λu=>Q .next U u,λh=>a4.gx ((a.h h).a5 λ_ _ h=>a4.gx ((o.h h).a5 λv s q=>by
 obtain⟨es,c,x,gr,hR,e,RL⟩:=q
 subst gr hR;dsimp only;rw[e];exact .some RL))⟩
end cb
end
noncomputable def eT(σ:St)(Q:J->St->Prop)(f:fT)(_:Loc)(s:St):Prop:=match f with
 |.ret v=>Q (m2 σ.next s.cells v) (s.cut σ.next)
 |.next=>Q .none (s.cut σ.next)
 |_=>False
theorem fw{A:cb}(e:D=A.d)(aG:args.length=n)(h:A.p (args.map some++List.replicate m none) σ (eT σ Q)):a4 (er D n m args σ) Q:=by
 subst e
 unfold er
 rw[if_pos aG]
 obtain⟨f,l,s,e,h⟩:=A.h h
 rw[e]
 cases f
 .exact .some h
 .exact h.elim
 .exact h.elim
 .exact .some h
noncomputable section
noncomputable def D':cb:=.aj (.hL (.C 2) (.C 1) (.bb rg (.aa (.C 3) (.ar)))) (.aD)
noncomputable def D9:cb:=.aj (.cc 1 (.gR (.b8 []))) (.aj (.nS (.C 0) (dX [2,3]) D') (.aj (.bD (.fM (.uZ (.C 1)) (eJ [none,some 0]) (c9 0) (.e4) (.af a8 (.C 1) (.C 0)))) (.aD)))
theorem Py:vC=D9.d:=by kernel_rfl
noncomputable def yz:cb:=.aj (.fR (dX [6,7]) (.bR (.aa (.bb rh (.aa (.af a8 (.C 5) (.I (.int 0))) (.ar))) (.aa (.bb rg (.aa (.C 5) (.ar))) (.ar))))) (.aj (.bV (.c3 (.boolOf (.af fV (.C 7) (.C 3))) (.c3 (.boolOf (.af cw (.C 6) (.I (.str "holder")))) (.c3 (.boolOf (.af cw (.C 6) (.I (.str "never")))) (.fN)))) (.aj (.tD) (.aD)) (.aD)) (.aj (.bV (.boolOf (.af cw (.C 6) (.I (.str "same")))) (.aj (.dZ (.dP d6 fo (.C 4) (.aa (.C 5) (.ar)))) (.aD)) (.aj (.bV (.boolOf (.af cw (.C 6) (.I (.str "latest")))) (.aj (.dZ (.dP d6 fo (.C 4) (.aa (.af cM (.ji (.C 5) (.I .none) (.j4 k4 (.I (.int 1)))) (.bR (.aa (.xO uh w3 (.C 1) (.aa (.C 7) (.aa (.af a8 (.C 5) (.j4 k4 (.I (.int 1)))) (.ar)))) (.ar)))) (.ar)))) (.aD)) (.aj (.bV (.boolOf (.af fV (.C 7) (.C 2))) (.aj (.dZ (.dP d6 fo (.C 4) (.aa (.af cM (.ji (.C 5) (.I .none) (.j4 k4 (.I (.int 1)))) (.bR (.aa (.af a8 (.C 2) (.C 7)) (.ar)))) (.ar)))) (.aD)) (.aD)) (.aD))) (.aD))) (.aD)))
noncomputable def El:cb:=.aj (.cc 4 (.gF (.ar))) (.aj (.fE (.C 0) (c9 5) yz) (.aj (.bD (.bb th (.aa (.C 4) (.ar)))) (.aD)))
theorem PI:vM=El.d:=by kernel_rfl
noncomputable def DW:cb:=.aj (.bD (.fM (.C 0) (eJ [none]) (c9 0) (.boolOf (.af cw (.bb rh (.aa (.af a8 (.C 0) (.I (.int 0))) (.ar))) (.I (.str "holder")))) (.C 0))) (.aD)
theorem Pp:vw=DW.d:=by kernel_rfl
noncomputable def Ek:cb:=.aj (.u2 (.af hJ (.C 0) (.I (.int 256))) (.C 2) (.C 3)) (.aj (.cc 0 (.af tP (.C 0) (.I (.int 256)))) (.aD))
noncomputable def Ej:cb:=.aj (.bV (.c3 (.boolOf (.af jX (.C 0) (.I (.int 0)))) (.c3 (.boolOf (.af gk (.af Df (.C 0) (.af lR (.I (.int 8)) (.C 1))) (.I (.int 0)))) (.fN))) (.aj (.ml) (.aD)) (.aD)) (.aj (.cc 2 (.ef zj (.aa (.C 1) (.ar)))) (.aj (.fE (.ef mJ (.aa (.af ku (.C 1) (.I (.int 1))) (.aa (.j4 k4 (.I (.int 1))) (.aa (.j4 k4 (.I (.int 1))) (.ar))))) (c9 3) Ek) (.aj (.bD (.ef wi (.aa (.C 2) (.ar)))) (.aD))))
theorem PH:vL=Ej.d:=by kernel_rfl
noncomputable def En:cb:=.aj (.bV (.tC qI jX (.I (.int 0)) (.C 0) (.af uX (.I (.int 1)) (.af ku (.af lR (.I (.int 8)) (.C 1)) (.I (.int 2))))) (.aj (.bD (.C 1)) (.aD)) (.aD)) (.aD)
noncomputable def Em:cb:=.aj (.fE (.I p5) (c9 1) En) (.aj (.ml) (.aD))
theorem PJ:vN=Em.d:=by kernel_rfl
noncomputable def Ei:cb:=.aj (.cc 2 (.bb tl (.aa (.C 0) (.ar)))) (.aj (.bV (.boolOf (.af jx (.C 1) (.I (.none)))) (.aj (.cc 1 (.C 2)) (.aD)) (.aD)) (.aj (.bV (.c3 (.boolOf (.af jX (.C 1) (.C 2))) (.c3 (.boolOf (.af pl (.C 1) (.I p5))) (.fN))) (.aj (.ml) (.aD)) (.aD)) (.aj (.bD (.bb rf (.aa (.af CT (.af uX (.dP ui xm (.I p5) (.aa (.C 1) (.ar))) (.af ku (.af lR (.I (.int 8)) (.C 1)) (.I (.int 2)))) (.C 0)) (.aa (.C 1) (.ar))))) (.aD))))
theorem PG:vK=Ei.d:=by kernel_rfl
noncomputable def Ef:cb:=.aj (.bD (.dP xo xt (.I (.bytes [])) (.aa (.fM (.C 0) (eJ [none]) (c9 0) (.e4) (.bb pX (.aa (.C 0) (.aa (.I (.none)) (.ar))))) (.ar)))) (.aD)
theorem PD:vH=Ef.d:=by kernel_rfl
noncomputable def Ec:cb:=.aj (.bD (.af cM (.bb pX (.aa (.ef fq (.aa (.C 0) (.ar))) (.aa (.I (.none)) (.ar)))) (.C 0))) (.aD)
theorem PA:vE=Ec.d:=by kernel_rfl
noncomputable def Eh:cb:=.aj (.fR (dX [2,3,4,5,6]) (.C 0)) (.aj (.cc 7 (.af cM (.af cM (.af cM (.I y5) (.eL (.boolOf (.C 6)) (.I yU) (.I (.int 0)))) (.eL (.boolOf (.C 1)) (.I (.int 0)) (.I yV))) (.eL (.boolOf (.af jw (.C 4) (.I (.int 0)))) (.I yW) (.I (.int 0))))) (.aj (.cc 8 (.bb hC (.aa (.af cM (.dE (.aa (.C 7) (.aa (.C 3) (.ar)))) (.eL (.boolOf (.af jw (.C 4) (.I (.int 0)))) (.dE (.aa (.C 4) (.ar))) (.dE (.ar)))) (.ar)))) (.aj (.bD (.af cM (.C 8) (.eL (.boolOf (.C 1)) (.C 5) (.bb lj (.aa (.C 5) (.ar)))))) (.aD))))
theorem PF:vJ=Eh.d:=by kernel_rfl
noncomputable def Ee:cb:=.aj (.fR (dX [1,2,3,4,5]) (.C 0)) (.aj (.bD (.af cM (.af cM (.af cM (.bb hC (.aa (.dE (.aa (.I y1) (.aa (.C 2) (.aa (.C 3) (.ar))))) (.ar))) (.ef gE (.aa (.dE (.aa (.ef fq (.aa (.C 4) (.ar))) (.ar))) (.ar)))) (.C 4)) (.C 5))) (.aD))
theorem PC:vG=Ee.d:=by kernel_rfl
noncomputable def Eg:cb:=.aj (.cc 1 (.af a8 (.C 0) (.I (.int 0)))) (.aj (.bV (.boolOf (.af cw (.C 1) (.I (.str "crypto")))) (.aj (.bD (.af cM (.bb hC (.aa (.dE (.aa (.I yX) (.aa (.af a8 (.C 0) (.I (.int 1))) (.ar)))) (.ar))) (.bb lj (.aa (.af a8 (.C 0) (.I (.int 2))) (.ar))))) (.aD)) (.aD)) (.aj (.bV (.boolOf (.af cw (.C 1) (.I (.str "new_token")))) (.aj (.bD (.af cM (.bb hC (.aa (.dE (.aa (.I y2) (.ar))) (.ar))) (.bb lj (.aa (.af a8 (.C 0) (.I (.int 1))) (.ar))))) (.aD)) (.aD)) (.aj (.bV (.c3 (.boolOf (.af cw (.C 1) (.I (.str "path_challenge")))) (.c3 (.boolOf (.af cw (.C 1) (.I (.str "path_response")))) (.fN))) (.aj (.bD (.af cM (.bb hC (.aa (.dE (.aa (.eL (.boolOf (.af cw (.C 1) (.I (.str "path_challenge")))) (.I y3) (.I y4)) (.ar))) (.ar))) (.af a8 (.C 0) (.I (.int 1))))) (.aD)) (.aD)) (.aj (.bV (.boolOf (.af cw (.C 1) (.I (.str "max_streams")))) (.aj (.bD (.bb hC (.aa (.dE (.aa (.eL (.boolOf (.af a8 (.C 0) (.I (.int 1)))) (.I y0) (.I yZ)) (.aa (.af a8 (.C 0) (.I (.int 2))) (.ar)))) (.ar)))) (.aD)) (.aD)) (.aj (.bV (.boolOf (.af cw (.C 1) (.I (.str "streams_blocked")))) (.aj (.bD (.bb hC (.aa (.dE (.aa (.eL (.boolOf (.af a8 (.C 0) (.I (.int 1)))) (.I y7) (.I y6)) (.aa (.af a8 (.C 0) (.I (.int 2))) (.ar)))) (.ar)))) (.aD)) (.aD)) (.aj (.bD (.I (.none))) (.aD)))))))
theorem PE:vI=Eg.d:=by kernel_rfl
noncomputable def Ed:cb:=.aj (.cc 1 (.af a8 (.C 0) (.I (.int 0)))) (.aj (.bV (.boolOf (.af cw (.C 1) (.I (.str "padding")))) (.aj (.bD (.ef gE (.aa (.nR) (.ar)))) (.aD)) (.aD)) (.aj (.bV (.boolOf (.af fV (.C 1) (.I ro))) (.aj (.bD (.bb hC (.aa (.af cM (.dE (.aa (.af a8 (.I ro) (.C 1)) (.ar))) (.ef n' (.aa (.ji (.C 0) (.I (.int 1)) (.I .none)) (.ar)))) (.ar)))) (.aD)) (.aD)) (.aj (.bV (.boolOf (.af cw (.C 1) (.I (.str "ack")))) (.aj (.bD (.nR)) (.aD)) (.aD)) (.aj (.bV (.boolOf (.af cw (.C 1) (.I (.str "stream")))) (.aj (.bD (.bb tj (.aa (.C 0) (.aa (.I (.bool false)) (.ar))))) (.aD)) (.aD)) (.aj (.bV (.boolOf (.af cw (.C 1) (.I (.str "new_connection_id")))) (.aj (.bD (.bb ti (.aa (.C 0) (.ar)))) (.aD)) (.aD)) (.aj (.bV (.boolOf (.af cw (.C 1) (.I (.str "close")))) (.aj (.bD (.nR)) (.aD)) (.aD)) (.aj (.cc 2 (.bb rd (.aa (.C 0) (.ar)))) (.aj (.bV (.boolOf (.af jx (.C 2) (.I (.none)))) (.aj (.ml) (.aD)) (.aD)) (.aj (.bD (.C 2)) (.aD))))))))))
theorem PB:vF=Ed.d:=by kernel_rfl
noncomputable def DV:cb:=.aj (.bD (.ef fq (.aa (.bb nC (.aa (.C 0) (.ar))) (.ar)))) (.aD)
theorem Po:vv=DV.d:=by kernel_rfl
noncomputable def DR:cb:=.aj (.bD (.eL (.boolOf (.af cw (.af a8 (.C 0) (.I (.int 0))) (.I (.str "crypto")))) (.af a8 (.C 0) (.I (.int 2))) (.af a8 (.C 0) (.I (.int 3))))) (.aD)
theorem Pl:vr=DR.d:=by kernel_rfl
noncomputable def Ep:cb:=.aj (.bV (.boolOf (.af cw (.af a8 (.C 0) (.I (.int 0))) (.I (.str "crypto")))) (.aj (.bD (.bR (.aa (.I (.str "crypto")) (.aa (.af cM (.af a8 (.C 0) (.I (.int 1))) (.C 1)) (.aa (.C 2) (.ar)))))) (.aD)) (.aD)) (.aj (.bD (.bR (.aa (.I (.str "stream")) (.aa (.af a8 (.C 0) (.I (.int 1))) (.aa (.af cM (.af a8 (.C 0) (.I (.int 2))) (.C 1)) (.aa (.C 2) (.aa (.C 3) (.ar)))))))) (.aD))
theorem PL:vP=Ep.d:=by kernel_rfl
noncomputable def L9:cb:=.aj (.p6 3 ku (.I (.int 1))) (.aD)
noncomputable def DS:cb:=.aj (.cc 2 (.bb pT (.aa (.C 0) (.ar)))) (.aj (.bV (.boolOf (.af jw (.bb j7 (.aa (.bb jo (.aa (.C 0) (.aa (.I (.int 0)) (.aa (.I (.bytes [])) (.aa (.I (.bool false)) (.ar)))))) (.ar))) (.C 1))) (.aj (.bD (.j4 k4 (.I (.int 1)))) (.aD)) (.aD)) (.aj (.cc 3 (.ef Cr (.aa (.ef fq (.aa (.C 2) (.ar))) (.aa (.af ku (.C 1) (.bb j7 (.aa (.bb jo (.aa (.C 0) (.aa (.I (.int 0)) (.aa (.I (.bytes [])) (.aa (.I (.bool false)) (.ar)))))) (.ar)))) (.ar))))) (.aj (.pG (.boolOf (.af jw (.bb j7 (.aa (.bb jo (.aa (.C 0) (.aa (.I (.int 0)) (.aa (.ji (.C 2) (.I .none) (.C 3)) (.aa (.I (.bool false)) (.ar)))))) (.ar))) (.C 1))) L9) (.aj (.bD (.C 3)) (.aD)))))
theorem Pm:vt=DS.d:=by kernel_rfl
noncomputable def DQ:cb:=.aj (.bV (.boolOf (.af qI (.bb j7 (.aa (.C 0) (.ar))) (.C 1))) (.aj (.bD (.bR (.aa (.C 0) (.aa (.I (.none)) (.ar))))) (.aD)) (.aD)) (.aj (.bV (.boolOf (.af pl (.af a8 (.C 0) (.I (.int 0))) (.I yY))) (.aj (.bD (.bR (.aa (.I (.none)) (.aa (.C 0) (.ar))))) (.aD)) (.aD)) (.aj (.fR (dX [2,3]) (.bR (.aa (.bb s9 (.aa (.C 0) (.aa (.C 1) (.ar)))) (.aa (.bb pT (.aa (.C 0) (.ar))) (.ar))))) (.aj (.bV (.c3 (.boolOf (.af jX (.C 2) (.I (.int 1)))) (.c3 (.boolOf (.af A9 (.C 2) (.ef fq (.aa (.C 3) (.ar))))) (.fN))) (.aj (.bD (.bR (.aa (.I (.none)) (.aa (.C 0) (.ar))))) (.aD)) (.aD)) (.aj (.cc 4 (.mT (.af cw (.af a8 (.C 0) (.I (.int 0))) (.I (.str "stream"))) (.af a8 (.C 0) (.I (.int 4))))) (.aj (.bD (.bR (.aa (.bb jo (.aa (.C 0) (.aa (.I (.int 0)) (.aa (.ji (.C 3) (.I .none) (.C 2)) (.aa (.I (.bool false)) (.ar)))))) (.aa (.bb jo (.aa (.C 0) (.aa (.C 2) (.aa (.ji (.C 3) (.C 2) (.I .none)) (.aa (.C 4) (.ar)))))) (.ar))))) (.aD))))))
theorem Pk:vq=DQ.d:=by kernel_rfl
noncomputable def DU:cb:=.aj (.fR (dX [5,6]) (.bb s8 (.aa (.C 4) (.aa (.C 1) (.ar))))) (.aj (.bV (.boolOf (.af lL (.C 5) (.I (.none)))) (.aj (.dZ (.dP d6 fo (.C 2) (.aa (.C 5) (.ar)))) (.aj (.p6 1 ku (.bb j7 (.aa (.C 5) (.ar)))) (.aD))) (.aD)) (.aj (.bV (.boolOf (.af lL (.C 6) (.I (.none)))) (.aj (.dZ (.dP d6 fo (.C 3) (.aa (.C 6) (.ar)))) (.aD)) (.aD)) (.aD)))
noncomputable def DT:cb:=.aj (.fR (dX [2,3]) (.bR (.aa (.gF (.ar)) (.aa (.gF (.ar)) (.ar))))) (.aj (.fE (.C 0) (c9 4) DU) (.aj (.bD (.bR (.aa (.C 2) (.aa (.C 3) (.ar))))) (.aD)))
theorem Pn:vu=DT.d:=by kernel_rfl
noncomputable def DY:cb:=.aj (.fR (dX [4,5]) (.bb pU (.aa (.C 3) (.aa (.C 1) (.ar))))) (.aj (.bV (.boolOf (.af cw (.ef fq (.aa (.C 4) (.ar))) (.I (.int 0)))) (.aj (.bD (.I (.none))) (.aD)) (.aD)) (.aj (.dZ (.dP d6 fo (.C 2) (.aa (.C 4) (.ar)))) (.aj (.cc 3 (.C 5)) (.aD))))
noncomputable def DX:cb:=.aj (.fR (dX [2,3]) (.bR (.aa (.gF (.ar)) (.aa (.ef n' (.aa (.C 0) (.ar))) (.ar))))) (.aj (.pG (.boolOf (.af jw (.ef fq (.aa (.C 3) (.ar))) (.I (.int 0)))) DY) (.aj (.bD (.C 2)) (.aD)))
theorem Pq:vx=DX.d:=by kernel_rfl
noncomputable def Eb:cb:=.aj (.cc 3 (.xO qE o5 (.C 0) (.aa (.C 2) (.ar)))) (.aj (.bV (.fC (.boolOf (.af lL (.C 3) (.I (.none)))) (.fC (.c3 (.boolOf (.af jx (.C 1) (.I (.none)))) (.c3 (.boolOf (.af jX (.C 3) (.af a8 (.C 1) (.I (.int 0))))) (.fN))) (.e4))) (.aj (.cc 1 (.bR (.aa (.C 3) (.aa (.C 2) (.ar))))) (.aD)) (.aD)) (.aD))
noncomputable def Ea:cb:=.aj (.cc 1 (.I (.none))) (.aj (.fE (.I jL) (c9 2) Eb) (.aj (.bD (.C 1)) (.aD)))
theorem Pz:vD=Ea.d:=by kernel_rfl
noncomputable def DP:cb:=.aj (.cc 4 (.xO qE o5 (.C 0) (.aa (.C 3) (.ar)))) (.aj (.bV (.fC (.boolOf (.af lL (.C 4) (.I (.none)))) (.fC (.boolOf (.af qI (.C 4) (.C 1))) (.e4))) (.aj (.dZ (.dP d6 fo (.C 2) (.aa (.bR (.aa (.C 4) (.aa (.bb td (.aa (.C 3) (.ar))) (.ar)))) (.ar)))) (.aD)) (.aD)) (.aD))
noncomputable def DO:cb:=.aj (.cc 2 (.gF (.ar))) (.aj (.fE (.I jL) (c9 3) DP) (.aj (.bD (.fM (.ef yg (.aa (.C 2) (.ar))) (eJ [none,none]) (dX [0,1]) (.e4) (.af a8 (.I jL) (.C 1)))) (.aD)))
theorem Pj:vp=DO.d:=by kernel_rfl
noncomputable def Eo:cb:=.aj (.cc 3 (.ef wx (.aa (.oV (.C 0) (eJ [none,some 0,some 1]) (c9 0) (.boolOf (.af gk (.C 0) (.C 2))) (.bR (.aa (.C 0) (.aa (.af a8 (.C 1) (.C 0)) (.ar))))) .ar))) (.aj (.bV (.boolOf (.af lL (.C 2) (.I (.none)))) (.aj (.hL (.C 2) (.C 3) (.C 1)) (.aD)) (.aD)) (.aj (.bD (.C 3)) (.aD)))
theorem PK:vO=Eo.d:=by kernel_rfl
noncomputable def D5:cb:=.aj (.uW (.bb tn (.aa (.kQ (.C 0)) (.aa (.C 1) (.aa (.C 2) (.ar))))) (.C 0)) (.aD)
theorem Pu:vz=D5.d:=by kernel_rfl
noncomputable def D8:cb:=.aj (.bD (.xO qE o5 (.kQ (.C 0)) (.aa (.C 1) (.ar)))) (.aD)
theorem Px:vB=D8.d:=by kernel_rfl
noncomputable def D4:cb:=.aj (.cc 1 (.bb pW (.aa (.kQ (.C 0)) (.ar)))) (.aj (.bD (.eL (.boolOf (.af jx (.C 1) (.I (.none)))) (.I (.none)) (.af a8 (.C 1) (.I (.int 0))))) (.aD))
theorem Pt:vy=D4.d:=by kernel_rfl
noncomputable def D7:cb:=.aj (.dZ (.k3 pV (.C 0) (.aa (.C 3) (.aa (.I (.none)) (.ar))))) (.aD)
noncomputable def D6:cb:=.aj (.cc 2 (.bb s7 (.aa (.kQ (.C 0)) (.aa (.C 1) (.ar))))) (.aj (.fE (.C 2) (c9 3) D7) (.aj (.bD (.C 2)) (.aD)))
theorem Pw:vA=D6.d:=by kernel_rfl
noncomputable def DK:cb:=.aj (.cc 2 (.af a8 (.C 0) (.I (.int 1)))) (.aj (.cc 3 (.eL (.boolOf (.af gk (.C 2) (.dE (.ar)))) (.ef v8 (.aa (.af a8 (.C 2) (.af hJ (.af a8 (.C 0) (.I (.int 2))) (.ef fq (.aa (.C 2) (.ar))))) (.ar))) (.I (.int 47)))) (.aj (.hL (.af cM (.af a8 (.C 0) (.I (.int 2))) (.I (.int 1))) (.C 0) (.I (.int 2))) (.aj (.hL (.af hJ (.af cM (.af cM (.af lR (.af a8 (.C 0) (.I (.int 0))) (.I (.int 48271))) (.af hJ (.C 3) (.I (.int 1000003)))) (.I (.int 59))) (.I (.int 2147483647))) (.C 0) (.I (.int 0))) (.aj (.bD (.af hJ (.af tP (.af a8 (.C 0) (.I (.int 0))) (.I (.int 13))) (.C 1))) (.aD)))))
theorem Pe:vm=DK.d:=by kernel_rfl
noncomputable def yu:cb:=.aj (.cc 3 (.af cM (.I (.int 1)) (.bb g0 (.aa (.C 0) (.aa (.I (.int 30)) (.ar)))))) (.aj (.dZ (.dP d6 fo (.C 1) (.aa (.bR (.aa (.I (.str "stream")) (.aa (.af lR (.I (.int 4)) (.C 2)) (.aa (.I (.int 0)) (.aa (.ef gE (.aa (.fM (.ef mJ (.aa (.C 3) (.ar))) (eJ [none,some 2]) (c9 0) (.e4) (.af hJ (.af cM (.C 1) (.C 0)) (.I (.int 256)))) (.ar))) (.aa (.I (.bool true)) (.ar))))))) (.ar)))) (.aD))
noncomputable def DL:cb:=.aj (.cc 1 (.gF (.aa (.bR (.aa (.I (.str "max_data")) (.aa (.I (.int 10)) (.ar)))) (.aa (.bR (.aa (.I (.str "max_data")) (.aa (.I (.int 20)) (.ar)))) (.aa (.bR (.aa (.I (.str "stop_sending")) (.aa (.I (.int 4)) (.aa (.I (.int 7)) (.ar))))) (.aa (.bR (.aa (.I (.str "path_challenge")) (.aa (.I (.bytes nJ)) (.ar)))) (.ar))))))) (.aj (.dZ (.dP d6 fo (.C 1) (.aa (.bR (.aa (.I (.str "data_blocked")) (.aa (.I (.int 9)) (.ar)))) (.ar)))) (.aj (.dZ (.dP d6 fo (.C 1) (.aa (.bR (.aa (.I (.str "new_connection_id")) (.aa (.af cM (.I (.int 1)) (.bb g0 (.aa (.C 0) (.aa (.I (.int 3)) (.ar))))) (.aa (.I (.int 0)) (.aa (.ef gE (.aa (.I (.int 8)) (.ar))) (.aa (.ef gE (.aa (.I (.int 16)) (.ar))) (.ar))))))) (.ar)))) (.aj (.fE (.ef mJ (.aa (.af cM (.I (.int 1)) (.bb g0 (.aa (.C 0) (.aa (.I (.int 2)) (.ar))))) (.ar))) (c9 2) yu) (.aj (.dZ (.dP d6 fo (.C 1) (.aa (.bR (.aa (.I (.str "crypto")) (.aa (.I (.int 0)) (.aa (.ef gE (.aa (.fM (.ef mJ (.aa (.af cM (.I (.int 1)) (.bb g0 (.aa (.C 0) (.aa (.I (.int 20)) (.ar))))) (.ar))) (eJ [none]) (c9 0) (.e4) (.af hJ (.af cM (.I (.int 90)) (.C 0)) (.I (.int 256)))) (.ar))) (.ar))))) (.ar)))) (.aj (.bD (.C 1)) (.aD))))))
theorem Pf:sV=DL.d:=by kernel_rfl
noncomputable def yt:cb:=.aj (.hL (.C 7) (.af a8 (.C 0) (.I (.str "octets"))) (.bR (.aa (.C 3) (.aa (.af cM (.C 4) (.C 6)) (.ar))))) (.aD)
noncomputable def vh:cb:=.aj (.bV (.boolOf (.af fV (.af a8 (.C 2) (.I (.int 0))) (.bR (.aa (.I (.str "stream")) (.aa (.I (.str "crypto")) (.ar)))))) (.aj (.fR (dX [3,4,5]) (.eL (.boolOf (.af cw (.af a8 (.C 2) (.I (.int 0))) (.I (.str "stream")))) (.bR (.aa (.af a8 (.C 2) (.I (.int 1))) (.aa (.af a8 (.C 2) (.I (.int 2))) (.aa (.af a8 (.C 2) (.I (.int 3))) (.ar))))) (.bR (.aa (.I (.str "crypto")) (.aa (.af a8 (.C 2) (.I (.int 1))) (.aa (.af a8 (.C 2) (.I (.int 2))) (.ar))))))) (.aj (.nS (.C 5) (dX [6,7]) yt) (.aj (.bV (.fC (.boolOf (.af cw (.af a8 (.C 2) (.I (.int 0))) (.I (.str "stream")))) (.fC (.boolOf (.af a8 (.C 2) (.I (.int 4)))) (.e4))) (.aj (.hL (.af cM (.C 4) (.ef fq (.aa (.C 5) (.ar)))) (.af a8 (.C 0) (.I (.str "ends"))) (.C 3)) (.aD)) (.aD)) (.aD)))) (.aj (.dZ (.dP d6 fo (.af a8 (.C 0) (.I (.str "came"))) (.aa (.C 2) (.ar)))) (.aD))) (.aD)
noncomputable def DJ:cb:=.aj (.fE (.C 1) (c9 2) vh) (.aD)
theorem Pd:vl=DJ.d:=by kernel_rfl
noncomputable def yw:cb:=.aj (.hL (.C 8) (.C 2) (.bR (.aa (.C 5) (.aa (.C 7) (.ar))))) (.aD)
noncomputable def vi:cb:=.aj (.bV (.boolOf (.af fV (.af a8 (.C 4) (.I (.int 0))) (.bR (.aa (.I (.str "stream")) (.aa (.I (.str "crypto")) (.ar)))))) (.aj (.fR (dX [5,6]) (.eL (.boolOf (.af cw (.af a8 (.C 4) (.I (.int 0))) (.I (.str "stream")))) (.bR (.aa (.af a8 (.C 4) (.I (.int 1))) (.aa (.af a8 (.C 4) (.I (.int 3))) (.ar)))) (.bR (.aa (.I (.str "crypto")) (.aa (.af a8 (.C 4) (.I (.int 2))) (.ar)))))) (.aj (.nS (.C 6) (dX [7,8]) yw) (.aj (.bV (.boolOf (.af cw (.af a8 (.C 4) (.I (.int 0))) (.I (.str "stream")))) (.aj (.hL (.ef fq (.aa (.C 6) (.ar))) (.C 3) (.C 5)) (.aD)) (.aD)) (.aD)))) (.aD)) (.aD)
noncomputable def DN:cb:=.aj (.fR (dX [2,3]) (.bR (.aa (.gR (.b8 [])) (.aa (.gR (.cn [])) (.ar))))) (.aj (.fE (.C 1) (c9 4) vi) (.aj (.bD (.mT (.af cw (.af a8 (.C 0) (.I (.str "octets"))) (.C 2)) (.af cw (.af a8 (.C 0) (.I (.str "ends"))) (.C 3)))) (.aD)))
theorem Ph:vo=DN.d:=by kernel_rfl
noncomputable def yv:cb:=.aj (.bV (.c3 (.boolOf (.af cw (.C 6) (.dE (.ar)))) (.c3 (.boolOf (.af jw (.ef q0 (.aa (.fM (.C 6) (eJ [none]) (c9 0) (.e4) (.ef fq (.aa (.bb nC (.aa (.C 0) (.ar))) (.ar)))) (.ar))) (.C 3))) (.fN))) (.aj (.bD (.I (.bool false))) (.aD)) (.aD)) (.aj (.cc 7 (.af a8 (.dE (.aa (.I (.str "loss")) (.aa (.I (.str "probe")) (.aa (.I (.str "ack")) (.aa (.I (.str "path")) (.aa (.I (.str "idle")) (.aa (.I (.str "closed")) (.ar)))))))) (.af hJ (.ef fq (.aa (.af a8 (.C 1) (.I (.str "flying"))) (.ar))) (.I (.int 6))))) (.aj (.bV (.boolOf (.af jx (.k3 tg (.af a8 (.C 1) (.I (.str "alarms"))) (.aa (.C 7) (.ar))) (.I (.none)))) (.aj (.dZ (.k3 pV (.af a8 (.C 1) (.I (.str "alarms"))) (.aa (.C 7) (.aa (.af cM (.af cM (.C 4) (.I (.int 5))) (.bb g0 (.aa (.C 0) (.aa (.I (.int 30)) (.ar))))) (.ar))))) (.aj (.dZ (.dP d6 fo (.af a8 (.C 1) (.I (.str "flying"))) (.aa (.bR (.aa (.C 7) (.aa (.C 6) (.ar)))) (.ar)))) (.aD))) (.aj (.dZ (.bb ma (.aa (.C 1) (.aa (.C 6) (.ar))))) (.aD))) (.aj (.dZ (.dP d6 nP (.af a8 (.C 1) (.I (.str "told"))) (.aa (.C 6) (.ar)))) (.aD))))
noncomputable def DM:cb:=.aj (.cc 5 (.bb tc (.aa (.C 2) (.aa (.C 3) (.ar))))) (.aj (.bV (.boolOf (.af jx (.C 5) (.I (.none)))) (.aj (.bD (.I (.bool false))) (.aD)) (.aD)) (.aj (.fE (.C 5) (c9 6) yv) (.aj (.bD (.I (.bool true))) (.aD))))
theorem Pg:vn=DM.d:=by kernel_rfl
noncomputable def yx:cb:=.aj (.cc 14 (.af a8 (.fM (.af a8 (.C 7) (.I (.str "flying"))) (eJ [none,some 13]) (c9 0) (.boolOf (.af cw (.af a8 (.C 0) (.I (.int 0))) (.C 1))) (.af a8 (.C 0) (.I (.int 1)))) (.I (.int 0)))) (.aj (.hL (.oV (.af a8 (.C 7) (.I (.str "flying"))) (eJ [none,some 13]) (c9 0) (.boolOf (.af gk (.af a8 (.C 0) (.I (.int 0))) (.C 1))) (.C 0)) (.C 7) (.I (.str "flying"))) (.aj (.bV (.c3 (.fC (.boolOf (.af jX (.C 9) (.I (.int 4)))) (.fC (.boolOf (.af jw (.bb g0 (.aa (.C 1) (.aa (.I (.int 3)) (.ar)))) (.I (.int 0)))) (.e4))) (.c3 (.boolOf (.af cw (.C 9) (.I (.int 0)))) (.fN))) (.aj (.dZ (.dP d6 nP (.C 12) (.aa (.C 14) (.ar)))) (.aD)) (.aj (.dZ (.bb ma (.aa (.C 7) (.aa (.C 14) (.ar))))) (.aD))) (.aD)))
noncomputable def D0:cb:=.aj (.cc 8 (.af cM (.bb tk (.aa (.C 12) (.aa (.lz (.b8 []) (.hb (.bR (.aa (.I (.str "max_data")) (.aa (.I (.none)) (.ar)))) (.I (.int 33)) (.k5))) (.aa (.C 6) (.aa (.C 5) (.ar)))))) (.bb s' (.aa (.C 12) (.ar))))) (.aj (.bV (.c3 (.boolOf (.af pl (.fM (.C 8) (eJ [none]) (c9 0) (.boolOf (.af cw (.af a8 (.C 0) (.I (.int 0))) (.I (.str "max_data")))) (.C 0)) (.bR (.aa (.dE (.ar)) (.aa (.dE (.aa (.bR (.aa (.I (.str "max_data")) (.aa (.I (.int 33)) (.ar)))) (.ar))) (.ar)))))) (.c3 (.boolOf (.af fV (.bR (.aa (.I (.str "path_challenge")) (.aa (.I (.bytes nJ)) (.ar)))) (.C 8))) (.fN))) (.aj (.bD (.I (.bool false))) (.aD)) (.aD)) (.aj (.bV (.c3 (.fC (.boolOf (.af fV (.bR (.aa (.I (.str "data_blocked")) (.aa (.I (.int 9)) (.ar)))) (.C 8))) (.fC (.boolOf (.af cw (.C 6) (.gR (.b8 [])))) (.e4))) (.c3 (.fC (.boolOf (.af fV (.bR (.aa (.I (.str "stop_sending")) (.aa (.I (.int 4)) (.aa (.I (.int 7)) (.ar))))) (.C 8))) (.fC (.boolOf (.af gk (.C 5) (.gR (.b8 [])))) (.e4))) (.fN))) (.aj (.bD (.I (.bool false))) (.aD)) (.aD)) (.aj (.bV (.oi (.boolOf (.bb pS (.aa (.C 1) (.aa (.C 7) (.aa (.C 8) (.aa (.C 3) (.aa (.C 4) (.ar))))))))) (.aj (.bD (.I (.bool false))) (.aD)) (.aD)) (.aD))))
noncomputable def yy:cb:=.aj (.cc 10 (.bb pW (.aa (.kQ (.af a8 (.C 7) (.I (.str "alarms")))) (.ar)))) (.aj (.bV (.boolOf (.af jx (.C 10) (.I (.none)))) (.aj (.tB) (.aD)) (.aD)) (.aj (.bV (.c3 (.boolOf (.af jX (.af a8 (.C 10) (.I (.int 0))) (.C 4))) (.c3 (.boolOf (.af gk (.af a8 (.C 10) (.I (.int 0))) (.k3 te (.af a8 (.C 7) (.I (.str "alarms"))) (.ar)))) (.fN))) (.aj (.bD (.I (.bool false))) (.aD)) (.aD)) (.aj (.cc 4 (.af a8 (.C 10) (.I (.int 0)))) (.aj (.cc 11 (.k3 tf (.af a8 (.C 7) (.I (.str "alarms"))) (.aa (.C 4) (.ar)))) (.aj (.bV (.c3 (.boolOf (.af cw (.C 11) (.dE (.ar)))) (.c3 (.boolOf (.af gk (.af a8 (.C 11) (.I (.int 0))) (.af a8 (.C 10) (.I (.int 1))))) (.fN))) (.aj (.bD (.I (.bool false))) (.aD)) (.aD)) (.aj (.cc 12 (.gF (.ar))) (.aj (.fE (.C 11) (c9 13) yx) D0)))))))
noncomputable def D1:cb:=.aj (.dZ (.bb ma (.aa (.C 7) (.aa (.C 14) (.ar))))) (.aD)
noncomputable def D2:cb:=.aj (.fE (.af a8 (.C 7) (.I (.str "flying"))) (dX [13,14]) D1) (.aj (.fR (dX [15,16]) (.bb pU (.aa (.dE (.aa (.bR (.aa (.I (.str "crypto")) (.aa (.I (.int 0)) (.aa (.ef gE (.aa (.I (.int 9)) (.ar))) (.ar))))) (.aa (.bR (.aa (.I (.str "ping")) (.ar))) (.ar)))) (.aa (.I (.int 8)) (.ar))))) (.aj (.bV (.c3 (.oi (.boolOf (.bb s6 (.aa (.C 7) (.aa (.C 2) (.ar)))))) (.c3 (.boolOf (.af gk (.C 15) (.dE (.aa (.bR (.aa (.I (.str "crypto")) (.aa (.I (.int 0)) (.aa (.ef gE (.aa (.I (.int 5)) (.ar))) (.ar))))) (.ar))))) (.c3 (.boolOf (.af gk (.C 16) (.dE (.aa (.bR (.aa (.I (.str "crypto")) (.aa (.I (.int 5)) (.aa (.ef gE (.aa (.I (.int 4)) (.ar))) (.ar))))) (.aa (.bR (.aa (.I (.str "ping")) (.ar))) (.ar)))))) (.fN)))) (.aj (.bD (.I (.bool false))) (.aD)) (.aD)) (.aj (.bV (.boolOf (.af gk (.dP d6 wq (.af a8 (.C 7) (.I (.str "told"))) (.aa (.bR (.aa (.I (.str "path_challenge")) (.aa (.I (.bytes nJ)) (.ar)))) (.ar))) (.I (.int 1)))) (.aj (.bD (.I (.bool false))) (.aD)) (.aD)) (.aj (.cc 17 (.fM (.C 2) (eJ [none]) (c9 0) (.boolOf (.af cw (.af a8 (.C 0) (.I (.int 0))) (.I (.str "new_connection_id")))) (.C 0))) (.aj (.bD (.mT (.af fV (.af a8 (.C 17) (.I (.int 0))) (.af a8 (.C 7) (.I (.str "came")))) (.af gk (.fM (.af a8 (.C 7) (.I (.str "came"))) (eJ [none]) (c9 0) (.boolOf (.af cw (.af a8 (.C 0) (.I (.int 0))) (.I (.str "max_data")))) (.C 0)) (.dE (.ar))))) (.aD))))))
noncomputable def D3:cb:=.aj (.cc 5 (.eL (.boolOf (.af cw (.bb g0 (.aa (.C 1) (.aa (.I (.int 2)) (.ar)))) (.I (.int 0)))) (.lz (.b8 []) (.hb (.bR (.aa (.I (.str "stop_sending")) (.aa (.I (.int 4)) (.ar)))) (.I (.bool true)) (.k5))) (.gR (.b8 [])))) (.aj (.cc 6 (.eL (.boolOf (.af cw (.bb g0 (.aa (.C 1) (.aa (.I (.int 2)) (.ar)))) (.I (.int 0)))) (.lz (.b8 []) (.hb (.bR (.aa (.I (.str "data_blocked")) (.aa (.I (.none)) (.ar)))) (.I (.int 9)) (.k5))) (.gR (.b8 [])))) (.aj (.cc 7 (.lz (.cn []) (.hb (.I (.str "flying")) (.gF (.ar)) (.hb (.I (.str "came")) (.gF (.ar)) (.hb (.I (.str "told")) (.gF (.ar)) (.hb (.I (.str "octets")) (.gR (.b8 [])) (.hb (.I (.str "ends")) (.gR (.cn [])) (.hb (.I (.str "alarms")) (.uC) (.k5))))))))) (.aj (.bV (.oi (.boolOf (.bb pS (.aa (.C 1) (.aa (.C 7) (.aa (.C 2) (.aa (.C 3) (.aa (.C 4) (.ar))))))))) (.aj (.bD (.I (.bool false))) (.aD)) (.aD)) (.aj (.cc 8 (.dE (.ar))) (.aj (.fE (.ef mJ (.aa (.I (.int 12)) (.ar))) (c9 9) yy) D2)))))
noncomputable def DZ:cb:=.aj (.cc 0 (.fM (.ji (.C 0) (.I .none) (.I (.int 24))) (eJ [none]) (c9 0) (.e4) (.ef BV (.aa (.C 0) (.ar))))) (.aj (.cc 1 (.gF (.aa (.af hJ (.ef q0 (.aa (.C 0) (.ar))) (.I (.int 2147483647))) (.aa (.C 0) (.aa (.I (.int 0)) (.ar)))))) (.aj (.fR (dX [2,3,4]) (.bR (.aa (.bb sZ (.aa (.C 1) (.ar))) (.aa (.af cM (.I (.int 32)) (.bb g0 (.aa (.C 1) (.aa (.I (.int 20)) (.ar))))) (.aa (.I (.int 0)) (.ar)))))) D3))
theorem Pr:sW=DZ.d:=by kernel_rfl
theorem Zu(h:D9.p [some a,none,none,none] σ (eT σ Q)):a4 (th [a] σ) Q:=fw Py rfl h
theorem ZD(h:El.p [some a,some b,some c,some d,none,none,none,none] σ (eT σ Q)):a4 (tk [a,b,c,d] σ) Q:=fw PI rfl h
theorem Zn(h:DW.p [some a] σ (eT σ Q)):a4 (s' [a] σ) Q:=fw Pp rfl h
theorem ZC(h:Ej.p [some a,some b,none,none] σ (eT σ Q)):a4 (rf [a,b] σ) Q:=fw PH rfl h
theorem ZE(h:Em.p [some a,none] σ (eT σ Q)):a4 (tl [a] σ) Q:=fw PJ rfl h
theorem ZA(h:Ei.p [some a,some b,none] σ (eT σ Q)):a4 (pX [a,b] σ) Q:=fw PG rfl h
theorem Zy(h:Ef.p [some a] σ (eT σ Q)):a4 (hC [a] σ) Q:=fw PD rfl h
theorem Zw(h:Ec.p [some a] σ (eT σ Q)):a4 (lj [a] σ) Q:=fw PA rfl h
theorem Zz(h:Eh.p [some a,some b,none,none,none,none,none,none,none] σ (eT σ Q)):a4 (tj [a,b] σ) Q:=fw PF rfl h
theorem Zx(h:Ee.p [some a,none,none,none,none,none] σ (eT σ Q)):a4 (ti [a] σ) Q:=fw PC rfl h
theorem KA(h:Eg.p [some a,none] σ (eT σ Q)):a4 (rd [a] σ) Q:=fw PE rfl h
theorem pz(h:Ed.p [some a,none,none] σ (eT σ Q)):a4 (nC [a] σ) Q:=fw PB rfl h
theorem Zm(h:DV.p [some a] σ (eT σ Q)):a4 (j7 [a] σ) Q:=fw Po rfl h
theorem Zj(h:DR.p [some a] σ (eT σ Q)):a4 (pT [a] σ) Q:=fw Pl rfl h
theorem ZG(h:Ep.p [some a,some b,some c,some d] σ (eT σ Q)):a4 (jo [a,b,c,d] σ) Q:=fw PL rfl h
theorem Zk(h:DS.p [some a,some b,none,none] σ (eT σ Q)):a4 (s9 [a,b] σ) Q:=fw Pm rfl h
theorem Zi(h:DQ.p [some a,some b,none,none,none] σ (eT σ Q)):a4 (s8 [a,b] σ) Q:=fw Pk rfl h
theorem Zl(h:DT.p [some a,some b,none,none,none,none,none] σ (eT σ Q)):a4 (pU [a,b] σ) Q:=fw Pn rfl h
theorem Zo(h:DX.p [some a,some b,none,none,none,none] σ (eT σ Q)):a4 (tc [a,b] σ) Q:=fw Pq rfl h
theorem Zv(h:Ea.p [some a,none,none,none] σ (eT σ Q)):a4 (pW [a] σ) Q:=fw Pz rfl h
theorem Zh(h:DO.p [some a,some b,none,none,none] σ (eT σ Q)):a4 (s7 [a,b] σ) Q:=fw Pj rfl h
theorem ZF(h:Eo.p [some a,some b,some c,none] σ (eT σ Q)):a4 (tn [a,b,c] σ) Q:=fw PK rfl h
theorem Zr(h:D5.p [some a,some b,some c] σ (eT σ Q)):a4 (pV [a,b,c] σ) Q:=fw Pu rfl h
theorem Zt(h:D8.p [some a,some b] σ (eT σ Q)):a4 (tg [a,b] σ) Q:=fw Px rfl h
theorem Zq(h:D4.p [some a,none] σ (eT σ Q)):a4 (te [a] σ) Q:=fw Pt rfl h
theorem Zs(h:D6.p [some a,some b,none,none] σ (eT σ Q)):a4 (tf [a,b] σ) Q:=fw Pw rfl h
theorem Zd(h:DK.p [some a,some b,none,none] σ (eT σ Q)):a4 (g0 [a,b] σ) Q:=fw Pe rfl h
theorem Ze(h:DL.p [some a,none,none,none] σ (eT σ Q)):a4 (sZ [a] σ) Q:=fw Pf rfl h
theorem Zc(h:DJ.p [some a,some b,none,none,none,none,none,none] σ (eT σ Q)):a4 (ma [a,b] σ) Q:=fw Pd rfl h
theorem Zg(h:DN.p [some a,some b,none,none,none,none,none,none,none] σ (eT σ Q)):a4 (s6 [a,b] σ) Q:=fw Ph rfl h
theorem Zf(h:DM.p [some a,some b,some c,some d,some e,none,none,none] σ (eT σ Q)):a4 (pS [a,b,c,d,e] σ) Q:=fw Pg rfl h
theorem Zp(h:DZ.p [some a,none,none,none,none,none,none,none,none,none,none,none,none,none,none,none,none,none] σ (eT σ Q)):a4 (vS [a] σ) Q:=fw Pr rfl h
end
set_option genInjectivity false
inductive rq {A B aA:Type} (P:A->B->aA->Prop):Prop
 |mk (a:A) (b:B) (c:aA) (cN:P a b c)
inductive v7 {A B aA D:Type} (P:A->B->aA->D->Prop):Prop
 |mk (a:A) (b:B) (c:aA) (d:D) (cN:P a b c d)
inductive E2 {A B aA D E F:Type} (P:A->B->aA->D->E->F->Prop):Prop
 |mk (a:A) (b:B) (c:aA) (d:D) (e:E) (f:F) (cN:P a b c d e f)
inductive MI {A B aA D E F G:Type} (P:A->B->aA->D->E->F->G->Prop):Prop
 |mk (a:A) (b:B) (c:aA) (d:D) (e:E) (f:F) (g:G) (cN:P a b c d e f g)
inductive MH {A B aA D E F G aF aP oH K:Type} (P:A->B->aA->D->E->F->G->aF->aP->oH->K->Prop):Prop
 |mk (a:A) (b:B) (c:aA) (d:D) (e:E) (f:F) (g:G) (h:aF) (i:aP) (ai:oH) (k:K) (cN:P a b c d e f g h i ai k)
theorem gO(h:b=true)(a:A):dD b A B:=by subst h;exact a
theorem f9(h:b=false)(a:B):dD b A B:=by subst h;exact a
theorem oS{_:Decidable p}(h1:p->A)(h2:¬p->B):dD (decide p) A B:=by
 by_cases h:p
 .exact gO (decide_eq_true h) (h1 h)
 .exact f9 (decide_eq_false h) (h2 h)
theorem jq{α:Type}{m:Option α}{a:α}{Q:α->Prop}(e:m=some a)(h:Q a):gL m Q:=by subst e;exact h
theorem hQ{α:Type}{m:Option (α×St)}{a:α}{Q:α->St->Prop}(e:m=some (a,s))(h:Q a s):aJ m Q:=by subst e;exact h
theorem j8{α:Type}{_:Decidable p}{a:α}{Q:α->St->Prop}(e:p)(h:Q a s):aJ (if p then some (a,s) else none) Q:=by rw[if_pos e];exact h
theorem ez(e:gu o i s=some v)(h:Q v s):aJ (a8 [o,i] s) Q:=hQ (congrArg (Option.map λv=>(v,s)) e) h
theorem rj(e:m8 o i s=some r)(h:Q (.bool r) s):aJ (fV [o,i] s) Q:=hQ (congrArg (Option.map λr=>(J.bool r,s)) e) h
theorem Mq(e:m8 o i s=some r)(h:Q (.bool (!r)) s):aJ (pl [o,i] s) Q:=hQ (congrArg (Option.map λr=>(J.bool !r,s)) e) h
theorem vW(e:nN o i s=some r)(h:Q (.bool r) s):aJ (cw [o,i] s) Q:=hQ (congrArg (Option.map λr=>(J.bool r,s)) e) h
theorem yO(e:nN o i s=some r)(h:Q (.bool (!r)) s):aJ (gk [o,i] s) Q:=hQ (congrArg (Option.map λr=>(J.bool !r,s)) e) h
theorem ES(e:oh o=some r)(h:Q (.bool r) s):aJ (jx [o,.none] s) Q:=hQ (congrArg (Option.map λr=>(J.bool r,s)) e) h
theorem yN(e:oh o=some r)(h:Q (.bool (!r)) s):aJ (lL [o,.none] s) Q:=hQ (congrArg (Option.map λr=>(J.bool !r,s)) e) h
noncomputable def uy(R:Loc->St->Prop)(Q:fT->Loc->St->Prop)(f:fT)(l:Loc)(s:St):Prop:=match f with
 |.next=>R l s
 |.cont=>R l s
 |.brk=>Q .next l s
 |.ret v=>Q (.ret v) l s
section
variable{src:J}{items:List J}{bind:J->Loc->Option Loc}{A:cb}{Q:fT->Loc->St->Prop}
theorem dw.i9{_:Decidable p}(hp:p)(h:dw m Q):dw (if p then m else z) Q:=by rw[if_pos hp];exact h
theorem dw.wh{α:Type}{o:Option α}{a:α}{f:α->Option (fT×Loc×St)}(e:o=Option.some a)(h:dw (f a) Q):dw (o.bind f) Q:=by rw[e];exact h
theorem a4.i9{bW:Type}{Q:bW->St->Prop}{_:Decidable p}{m z:Option (bW×St)}(hp:p)(h:a4 m Q):a4 (if p then m else z) Q:=by rw[if_pos hp];exact h
theorem a4.wh{α bW:Type}{Q:bW->St->Prop}{o:Option α}{a:α}{f:α->Option (bW×St)}(e:o=Option.some a)(h:a4 (f a) Q):a4 (o.bind f) Q:=by rw[e];exact h
theorem Ck{P:fT->Prop}(q:uy R Q f l s)(a:R l s->P .next)(b:R l s->P .cont)(c:Q .next l s->P .brk)(d:∀v,Q (.ret v) l s->P (.ret v)):P f:=
 fT.casesOn (motive:=λf=>uy R Q f l s->P f) f a c b d q
theorem kk{α:Type}{enc:α->J}(aP:List α->Loc->St->Prop)(hs:∀r l s,aP r l s->d1 src s=some items)
 (step:∀x r l s,aP (x::r) l s->∃l',bind (enc x) l=some l'/\A.p l' s (uy (aP r) Q))(done:∀l s,aP [] l s->Q .next l s):∀{xs:List α} {U:Loc} {σ:St},aP xs U σ->dw (oe src items bind A.d (xs.map enc) U σ) Q:=by
 intro xs
 induction xs with
 |nil=>exactλh=>dw.i9 (hs _ _ _ h) (.some (done _ _ h))
 |cons x r aZ=>
  intro U σ h
  obtain⟨l',e,p⟩:=step x r U σ h
  refine dw.i9 (hs _ _ _ h) (dw.wh e (dw.gx ((A.h p).a5 λf l s q=>?_)))
  exact Ck (P:=λf=>dw (match(f,l,s) with
   |(.next,l,s)=>oe src items bind A.d (r.map enc) l s
   |(.cont,l,s)=>oe src items bind A.d (r.map enc) l s
   |(.brk,l,s)=>some (.next,l,s)
   |(.ret v,l,s)=>some (.ret v,l,s)) Q) q aZ aZ .some λ_=>.some
theorem Cj{α:Type}{enc:α->J}(aP:Nat->List α->Loc->St->Prop)(hs:∀i r l s,aP i r l s->d1 src s=some items)
 (step:∀i x r l s,aP i (x::r) l s->∃l',bind (.bo [.int i,enc x]) l=some l'/\A.p l' s (uy (aP (i+1) r) Q))(done:∀i l s,aP i [] l s->Q .next l s):∀{xs:List α} {i:Nat} {U:Loc} {σ:St},aP i xs U σ->dw (mF src items bind A.d i (xs.map enc) U σ) Q:=by
 intro xs
 induction xs with
 |nil=>exactλh=>dw.i9 (hs _ _ _ _ h) (.some (done _ _ _ h))
 |cons x r aZ=>
  intro i U σ h
  obtain⟨l',e,p⟩:=step i x r U σ h
  refine dw.i9 (hs _ _ _ _ h) (dw.wh e (dw.gx ((A.h p).a5 λf l s q=>?_)))
  exact Ck (P:=λf=>dw (match(f,l,s) with
   |(.next,l,s)=>mF src items bind A.d (i+1) (r.map enc) l s
   |(.cont,l,s)=>mF src items bind A.d (i+1) (r.map enc) l s
   |(.brk,l,s)=>some (.next,l,s)
   |(.ret v,l,s)=>some (.ret v,l,s)) Q) q aZ aZ .some λ_=>.some
theorem I6{T:f3}(h:T.p U σ λb s=>dD b (A.p U s (uy (λl s=>dw (nf T.d A.d n l s) Q) Q)) (Q .next U s)):dw (nf T.d A.d (n+1) U σ) Q:=by
 refine a4.gx ((T.h h).a5 λb s h=>dD.oE (h.of (λp=>dw.gx ((A.h p).a5 λf l s q=>?_)) .some))
 exact Ck (P:=λf=>dw (match(f,l,s) with
  |(.next,l,s)=>nf T.d A.d n l s
  |(.cont,l,s)=>nf T.d A.d n l s
  |(.brk,l,s)=>some (.next,l,s)
  |(.ret v,l,s)=>some (.ret v,l,s)) Q) q id id .some λ_=>.some
inductive pN {α bW:Type} (P:α->bW->Prop):List α->List bW->Prop
 |nil:pN P [] []
 |cons {a:α} {b:bW} {as:List α} {bh:List bW}:P a b->pN P as bh->pN P (a::as) (b::bh)
theorem me{α:Type}{enc:α->J}{T:f3}{E:TE}(aP:Loc->St->Prop)(p:α->Bool)(g:α->J->Prop)(hs:∀l s,aP l s->d1 src s=some items){Q:List J->St->Prop}:∀{xs:List α},
 (∀x∈xs,∀l s,aP l s->∃l',bind (enc x) l=some l'/\T.p l' s λb t=>b=p x/\dD b (E.p l' t λv u=>g x v/\aP l' u) (aP l' t))->
 ∀{acc:List J} {U:Loc} {σ:St},aP U σ->acc.length+xs.length<1000000->(∀cI l t,pN g (xs.filter p) cI->aP l t->Q (acc++cI) t)->a4 (mW src items bind T.d E.d (xs.map enc) acc U σ) Q:=by
 intro xs
 induction xs with
 |nil=>exactλ_ {acc U σ} h _ q=>a4.i9 (hs _ _ h) (.some (List.append_nil acc▸q [] U σ .nil h))
 |cons x r aZ=>
  intro step acc U σ h aG q
  obtain⟨l',e,t⟩:=step x (List.mem_cons_self ..) U σ h
  refine a4.i9 (hs _ _ h) (a4.wh e ?_)
  rw[fJ] at aG
  have K6:=λy bF=>step y (List.mem_cons_of_mem _ bF)
  refine a4.bind ((T.h t).a5 λb t tJ=>dD.wp ?_)
  obtain⟨fp,k⟩:=tJ
  cases b
  .refine aZ K6 k (by exact aC.Yk aG) λcI l t a i=>q cI l t ?_ i
   rw[List.filter_cons_of_neg (by rw[<-fp];exact fY)];exact a
  .refine a4.bind ((E.h k).a5 λv u RC=>a4.i9 (aC.Yl aG) ?_)
   obtain⟨hn,TL⟩:=RC
   refine aZ K6 TL (by rw[gn];exact(by exact aC.Ym aG:acc.length+1+r.length<1000000)) λcI l t a i=>?_
   rw[List.append_assoc]
   refine q (v::cI) l t ?_ i
   rw[List.filter_cons_of_pos fp.symm];exact .cons hn a
end
structure cB (σ s:St):Prop where
 cells:s.cells=σ.cells
 next:σ.next<=s.next
noncomputable def cG(σ:St):Prop:=∀c,σ.next<=c->σ.cells c=none
theorem cB.refl:cB σ σ:=⟨rfl,bt _⟩
theorem cB.trans(h:cB a b)(h':cB b c):cB a c:=⟨h'.cells.trans h.cells,cm h.next h'.next⟩
theorem cB.wf(h:cB a b)(w:cG a):cG b:=λc aw=>by rw[h.cells];exact w c (cm h.next aw)
theorem cB.cut(w:cG σ)(h:cB σ s):cB σ (s.cut σ.next):=by
 refine⟨?_,h.next⟩
 funext c
 show(if c<σ.next then s.cells c else none)=_
 rw[h.cells]
 by_cases q:c<σ.next
 .exact if_pos q
 .exact(if_neg q).trans (w c (bz q)).symm
inductive v5 (n:Int) (σ:St):List Unit->Loc->St->Prop
 |go:v5 n σ [()] [some (.int n),some (.int 1),some (.ref σ.next),none] (σ.new (.ej [0]))
 |cC (a b:Option J):v5 n σ [] [a,some (.int 1),some (.ref σ.next),b] ((σ.new (.ej [0])).aT σ.next (.ej [n.toNat.toUInt8]))
theorem ac3(w:cG σ)(ah:0<=n)(h1:n<256):a4 (rf [.int n,.int 1] σ) λv s=>v=.bytes [n.toNat.toUInt8]/\cB σ s:=by
 refine ZC ?_
 refine f9 (b:=decide (n<0)) (decide_eq_false (by exact aC.x1 ah)) ?_
 refine f9 (b:= !(n.fdiv 256==0)) ?_ ?_
 .rw[Int.fdiv_eq_ediv_of_nonneg _ (by decide),show n/ 256=0 by exact aC.VL ah h1];rfl
 refine dz rfl ?_
 refine kk (A:=Ek) (xs:=[()]) (enc:=λ_=>.int 0) (v5 n σ) (λr l s _=>rfl) ?_ ?_ .go
 .intro x r l s h
  cases h
  refine⟨_,rfl,?_⟩
  refine jq (m:=ou (.ref σ.next) (.int 0) (.int (n.fmod 256)) (σ.new (.ej [0]))) (a:=(σ.new (.ej [0])).aT σ.next (.ej [n.toNat.toUInt8])) ?_ (v5.cC _ _)
  rw[Int.fmod_eq_emod_of_nonneg _ (by decide),show n % 256=n by exact aC.VM ah h1]
  show(match(σ.new (.ej [0])).cells σ.next with
   |some (.ej b)=>if _ then some _ else none
   |_=>none)=_
  rw[show(σ.new (.ej [0])).cells σ.next=some (.ej [0]) from if_pos rfl]
  exact if_pos ⟨by decide,by decide,by decide,ah,h1⟩
 .intro l s h
  cases h with|cC a b=>
  refine hQ (m:=wi [.ref σ.next] _) (a:=.bytes [n.toNat.toUInt8]) (s:=(σ.new (.ej [0])).aT σ.next (.ej [n.toNat.toUInt8])) ?_ ⟨rfl,?_,?_⟩
  .show(match((σ.new (.ej [0])).aT σ.next (.ej [n.toNat.toUInt8])).cells σ.next with
    |some (.ej b)=>if b.length<=1000000 then some (J.bytes b,_) else none
    |_=>none)=_
   rw[show((σ.new (.ej [0])).aT σ.next (.ej [n.toNat.toUInt8])).cells σ.next=some (.ej [n.toNat.toUInt8]) from if_pos rfl]
   rfl
  .refine funext λc=>?_
   by_cases aw:c<σ.next
   .exact(if_pos aw).trans ((if_neg (d9 aw)).trans (if_neg (d9 aw)))
   .exact(if_neg aw).trans (w c (bz aw)).symm
  .exact gp _
set_option genInjectivity true
theorem ac1(w:cG σ)(ah:0<=n)(h1:n<64):a4 (tl [.int n] σ) λv s=>v=.int 1/\cB σ s:=by
 refine ZE ?_
 refine dz rfl ?_
 refine kk (A:=En) (xs:=[1,2,4,8]) (enc:=J.int) (λr l s=>r=[1,2,4,8]/\l=[some (.int n),none]/\s=σ) (λ_ _ _ _=>rfl) ?_ (λl s h=>nomatch h.1) ⟨rfl,rfl,rfl⟩
 rintro x r _ _ ⟨h,rfl,rfl⟩
 cases h
 refine⟨_,rfl,?_⟩
 refine gO (b:=decide (0<=n)) (decide_eq_true ah) ?_
 refine gO (b:=decide (n<1*2^(6:Int).toNat)) (decide_eq_true h1) ?_
 exact⟨rfl,cB.refl.cut w⟩
theorem N9:∀m:Fin 64,Builtin.bitOr 0 ((m.val:Nat):Int)=((m.val:Nat):Int):=by decide+kernel
theorem N'(h:0<=n)(h1:n<64):Builtin.bitOr 0 n=n:=by
 obtain⟨m,rfl⟩:=Int.eq_ofNat_of_zero_le h
 exact N9 ⟨m,by exact aC.WL h1⟩
theorem L2(w:cG σ)(ah:0<=n)(h1:n<64):a4 (pX [.int n,.none] σ) λv s=>v=.bytes [n.toNat.toUInt8]/\cB σ s:=by
 refine ZA ?_
 refine(ac1 w ah h1).fH λs g=>?_
 refine a4.a5 (m:=rf [.int (Builtin.bitOr 0 n),.int 1] s) (Q:=λv t=>v=.bytes [n.toNat.toUInt8]/\cB s t) ?_ ?_
 .rw[N' ah h1];exact ac3 (g.wf w) ah (by exact aC.WM h1)
 .rintro _ t ⟨rfl,g2⟩
  exact⟨rfl,(g.trans g2).cut w⟩
theorem Of:∀{cI:List J},pN (λ_ v=>∃b:UInt8,v=J.bytes [b]) l cI->∃bh,bytesOf cI=some bh/\bh.flatten.length=l.length:=by
 induction l with
 |nil=>intro cI h;cases h;exact⟨[],rfl,rfl⟩
 |cons n l aZ=>
  intro cI h
  cases h with
  |cons h1 h2=>
   obtain⟨b,rfl⟩:=h1
   obtain⟨bh,a9,a7⟩:=aZ h2
   exact⟨[b]::bh,(congrArg (Option.map λl=>[b]::l) a9:_),by rw[List.flatten_cons,gn,a7,fJ];exact Nat.add_comm 1 _⟩
theorem sS{l:List Int}(a3:vs=l.map J.int)(w:cG σ)(aG:∀n∈l,0<=n/\n<64)(aW:l.length<=100):a4 (hC [.bp vs] σ) λv s=>∃b,v=.bytes b/\b.length=l.length/\cB σ s:=by
 subst a3
 refine Zy ?_
 refine dz rfl ?_
 refine me (src:=.bp (l.map J.int)) (λU s=>(∃z,U=[z])/\cB σ s) (λ_=>true) (λ_ v=>∃b:UInt8,v=J.bytes [b]) (λ_ _ _=>rfl) ?_ ⟨⟨none,rfl⟩,.refl⟩ (by rw[hO];exact aC.Ka aW) ?_
 .rintro n aW _ s ⟨⟨z,rfl⟩,g⟩
  refine⟨_,rfl,rfl,(L2 (g.wf w) (aG n aW).1 (aG n aW).2).a5 ?_⟩
  rintro _ u ⟨rfl,g2⟩
  exact⟨⟨_,rfl⟩,⟨_,rfl⟩,g.trans g2⟩
 .rintro cI _ t a ⟨_,g⟩
  rw[List.filter_eq_self.mpr (λ_ _=>rfl)] at a
  obtain⟨bh,a9,a7⟩:=Of a
  refine hQ (m:=xt [.bytes [],.bp cI] t) (a:=.bytes bh.flatten) ?_ ⟨_,rfl,a7,g.cut w⟩
  show(bytesOf cI).bind (λl=>if l.flatten.length<=1000000 then some (J.bytes l.flatten,t) else none)=_
  rw[a9,Option.bind_some,if_pos (by exact aC.WN aW a7)]
theorem LS(w:cG σ)(aB:d.length<64):a4 (lj [.bytes d] σ) λv s=>∃b,v=.bytes b/\b.length=1+d.length/\cB σ s:=by
 refine Zw ?_
 refine j8 (p:=d.length<=1000000) (by exact aC.qW aB) ?_
 refine(L2 w (by exact aC.WO) (by exact aC.WQ aB)).fH λs g=>?_
 refine j8 (p:=1+d.length<=1000000) (by exact aC.WR aB) ⟨_,rfl,?_,g.cut w⟩
 rw[gn];rfl
inductive Fr where
 |dT (n:Int)
 |fX
 |c7
 |eu
 |di (n:Int)
 |st (de bJ:Int) (d:List UInt8) (cH:Bool)
 |ek (bJ:Int) (d:List UInt8)
 |gK
noncomputable def Fr.code:Fr->Nat×Int×Int×List UInt8×Bool
 |.dT n=>(0,n,0,[],false)
 |.fX=>(1,0,0,[],false)
 |.c7=>(2,0,0,[],false)
 |.eu=>(3,0,0,[],false)
 |.di n=>(4,n,0,[],false)
 |.st a b d f=>(5,a,b,d,f)
 |.ek a d=>(6,a,0,d,false)
 |.gK=>(7,0,0,[],false)
noncomputable def Fr.bZ(c:Nat×Int×Int×List UInt8×Bool):Fr:=
 if c.1=0 then .dT c.2.1 else if c.1=1 then .fX else if c.1=2 then .c7 else if c.1=3 then .eu else if c.1=4 then .di c.2.1 else if c.1=5 then .st c.2.1 c.2.2.1 c.2.2.2.1 c.2.2.2.2 else if c.1=6 then .ek c.2.1 c.2.2.2.1 else .gK
theorem Fr.Fq(a:Fr):Fr.bZ a.code=a:=by cases a<;>rfl
noncomputable instance:DecidableEq Fr:=λa b=>decidable_of_iff (a.code=b.code) ⟨λh=>a.Fq.symm.trans ((congrArg Fr.bZ h).trans b.Fq),congrArg Fr.code⟩
noncomputable def Fr.v:Fr->J
 |.dT n=>.bo [.str "max_data",.int n]
 |.fX=>.bo [.str "stop_sending",.int 4,.int 7]
 |.c7=>.bo [.str "path_challenge",.bytes nJ]
 |.eu=>.bo [.str "data_blocked",.int 9]
 |.di n=>.bo [.str "new_connection_id",.int n,.int 0,.bytes (List.replicate 8 0),.bytes (List.replicate 16 0)]
 |.st de bJ d cH=>.bo [.str "stream",.int de,.int bJ,.bytes d,.bool cH]
 |.ek bJ d=>.bo [.str "crypto",.int bJ,.bytes d]
 |.gK=>.bo [.str "ping"]
noncomputable def Fr.ok:Fr->Prop
 |.dT n=>0<=n/\n<64
 |.di n=>0<=n/\n<64
 |.st de bJ d _=>(0<=de/\de<64)/\(0<=bJ/\bJ<64)/\bJ+d.length<64
 |.ek bJ d=>(0<=bJ/\bJ<64)/\bJ+d.length<64
 |_=>True
noncomputable def Fr.size:Fr->Nat
 |.dT _=>2
 |.fX=>3
 |.c7=>9
 |.eu=>2
 |.di _=>28
 |.st _ bJ d _=>3+(if 0<bJ then 1 else 0)+d.length
 |.ek _ d=>3+d.length
 |.gK=>1
theorem all1{P:Int->Prop}(h:P a):∀n∈[a],P n:=bO.mpr ⟨h,dJ _⟩
theorem all2{P:Int->Prop}(h:P a)(h':P b):∀n∈[a,b],P n:=bO.mpr ⟨h,all1 h'⟩
theorem zb{P:Int->Prop}(h:P a)(h':P b)(RH:P c):∀n∈[a,b,c],P n:=bO.mpr ⟨h,all2 h' RH⟩
theorem ri(aG:p.length+q.length<=1000000)(h:Q (.bytes (p++q)) s):aJ (cM [.bytes p,.bytes q] s) Q:=j8 (p:=p.length+q.length<=1000000) aG h
theorem acP{σ:St}(w:cG σ)(h:Fr.ok (.ek bJ d)):a4 (rd [Fr.v (.ek bJ d)] σ) λv s=>∃b,v=.bytes b/\b.length=Fr.size (.ek bJ d)/\cB σ s:=by
 obtain⟨h1,h2⟩:=h
 refine KA ?_
 refine(sS (l:=[6,bJ]) rfl w (all2 (by decide) (by omega)) (Nat.le_add_left 2 98)).a5 ?_
 rintro _ s ⟨b,rfl,ag,g⟩
 refine(LS (g.wf w) (show d.length<64 by exact aC.Xj h1 h2)).a5 ?_
 rintro _ t ⟨c,rfl,aw,g2⟩
 have iw:b.length=2:=ag
 refine ri (by exact aC.Xk h1 h2 aw iw) ⟨_,rfl,?_,(g.trans g2).cut w⟩
 rw[gn,iw,aw];show 2+(1+d.length)=3+d.length;exact aC.Xl
theorem acQ{σ:St}(w:cG σ):a4 (rd [Fr.v .c7] σ) λv s=>∃b,v=.bytes b/\b.length=Fr.size .c7/\cB σ s:=by
 refine KA ?_
 refine(sS (l:=[26]) rfl w (all1 (by decide)) (Nat.le_add_left 1 99)).a5 ?_
 rintro _ s ⟨b,rfl,ag,g⟩
 have iw:b.length=1:=ag
 have aG:nJ.length=8:=rfl
 refine ri (q:=nJ) (by exact aC.Xn iw aG) ⟨_,rfl,?_,g.cut w⟩
 rw[gn,iw,aG];rfl
theorem acM{σ:St}(w:cG σ)(h:Fr.ok (.di n)):a4 (ti [Fr.v (.di n)] σ) λv s=>∃b,v=.bytes b/\b.length=Fr.size (.di n)/\cB σ s:=by
 obtain⟨ah,h1⟩:=h
 refine Zx ?_
 refine(sS (l:=[24,n,0]) rfl w (zb (by decide) (by exact aC.Xo ah h1) (by decide)) (Nat.le_add_left 3 97)).a5 ?_
 rintro _ s ⟨b,rfl,ag,g⟩
 have iw:b.length=3:=ag
 refine ri (p:=b) (q:=[8]) (by simp;exact aC.Xp iw) ?_
 refine ri (q:=List.replicate 8 0) (by simp;exact aC.Xq iw) ?_
 refine ri (q:=List.replicate 16 0) (by simp;exact aC.Xr iw) ⟨_,rfl,?_,g.cut w⟩
 simp[iw,Fr.size]
theorem acW{σ:St}(w:cG σ)(h:Fr.ok (.st de bJ d cH)):a4 (tj [Fr.v (.st de bJ d cH),.bool false] σ) λv s=>∃b,v=.bytes b/\b.length=Fr.size (.st de bJ d cH)/\cB σ s:=by
 obtain⟨⟨ah,h1⟩,⟨h2,aR⟩,h4⟩:=h
 have tail:∀{Q:J->St->Prop} {b:List UInt8} {s:St},cB σ s->b.length<=3->(∀c t,c.length=b.length+(1+d.length)->cB σ t->Q (.bytes c) t)->a4 (lj [.bytes d] s) λv t=>aJ (cM [.bytes b,v] t) Q:=by
  intro Q b s g ag q
  refine(LS (g.wf w) (show d.length<64 by exact aC.Xs h4 h2)).a5 ?_
  rintro _ u ⟨c,rfl,aw,g2⟩
  exact ri (by exact aC.Xu h4 h2 ag aw) (q _ _ (by rw[gn,aw]) (g.trans g2))
 refine Zz ?_
 by_cases aH:0<bJ
 .have a9:decide (0<bJ)=true:=decide_eq_true aH
  have key:∀t:Int,0<=t/\t<64->a4 (hC [.bp [.int t,.int de,.int bJ]] σ) λv s=>a4 (lj [.bytes d] s) λc t=>aJ (cM [v,c] t) λv s=>∃b,m2 σ.next s.cells v=.bytes b/\b.length=Fr.size (.st de bJ d cH)/\cB σ (s.cut σ.next):=λt ht=>by
   refine(sS (l:=[t,de,bJ]) rfl w (zb ht ⟨ah,h1⟩ ⟨h2,aR⟩) (Nat.le_add_left 3 97)).a5 ?_
   rintro _ s ⟨b,rfl,ag,g⟩
   have iw:b.length=3:=ag
   refine tail g (by exact aC.Xv iw) λc t aw g2=>⟨c,rfl,?_,g2.cut w⟩
   rw[aw,iw,Fr.size,if_pos aH];exact aC.Xw
  cases cH
  .exact gO a9 (gO a9 (key _ (by decide)))
  .exact gO a9 (gO a9 (key _ (by decide)))
 .have a9:decide (0<bJ)=false:=decide_eq_false aH
  have key:∀t:Int,0<=t/\t<64->a4 (hC [.bp [.int t,.int de]] σ) λv s=>a4 (lj [.bytes d] s) λc t=>aJ (cM [v,c] t) λv s=>∃b,m2 σ.next s.cells v=.bytes b/\b.length=Fr.size (.st de bJ d cH)/\cB σ (s.cut σ.next):=λt ht=>by
   refine(sS (l:=[t,de]) rfl w (all2 ht ⟨ah,h1⟩) (Nat.le_add_left 2 98)).a5 ?_
   rintro _ s ⟨b,rfl,ag,g⟩
   have iw:b.length=2:=ag
   refine tail g (by exact aC.Xx iw) λc t aw g2=>⟨c,rfl,?_,g2.cut w⟩
   rw[aw,iw,Fr.size,if_neg aH];exact aC.Xy
  cases cH
  .exact f9 a9 (f9 a9 (key _ (by decide)))
  .exact f9 a9 (f9 a9 (key _ (by decide)))
theorem yr{c m:Int}(w:cG σ)(aG:∀n∈c::l,0<=n/\n<64)(aW:l.length<=99)(h:∀Q,a4 (hC [.bp ((c::l).map J.int)] σ) (λv s=>Q (m2 σ.next s.cells v) (s.cut σ.next))->a4 (nC [f] σ) Q):
 a4 (nC [f] σ) λv s=>∃b,v=.bytes b/\b.length=1+l.length/\cB σ s:=by
 refine h _ ((sS (l:=c::l) rfl w aG (Nat.succ_le_succ aW)).a5 ?_)
 rintro _ s ⟨b,rfl,ag,g⟩
 exact⟨b,rfl,ag.trans (Nat.add_comm _ 1),g.cut w⟩
theorem LX(f:Fr)(w:cG σ)(h:f.ok):a4 (nC [f.v] σ) λv s=>∃b,v=.bytes b/\b.length=f.size/\cB σ s:=by
 cases f with
 |dT n=>exact yr (m:=0) (c:=16) (l:=[n]) w (all2 (by decide) h) (Nat.le_add_left 1 98) λQ h=>pz h
 |fX=>exact yr (m:=0) (c:=5) (l:=[4,7]) w (zb (by decide) (by decide) (by decide)) (by decide) λQ h=>pz h
 |eu=>exact yr (m:=0) (c:=20) (l:=[9]) w (all2 (by decide) (by decide)) (by decide) λQ h=>pz h
 |gK=>exact yr (m:=0) (c:=1) (l:=[]) w (all1 (by decide)) (by decide) λQ h=>pz h
 |c7=>
  refine pz ((acQ w).a5 ?_)
  rintro _ s ⟨b,rfl,ag,g⟩
  exact⟨b,rfl,ag,g.cut w⟩
 |ek bJ d=>
  refine pz ((acP w h).a5 ?_)
  rintro _ s ⟨b,rfl,ag,g⟩
  exact⟨b,rfl,ag,g.cut w⟩
 |st de bJ d cH=>
  refine pz ((acW w h).a5 ?_)
  rintro _ s ⟨b,rfl,ag,g⟩
  exact⟨b,rfl,ag,g.cut w⟩
 |di n=>
  refine pz ((acM w h).a5 ?_)
  rintro _ s ⟨b,rfl,ag,g⟩
  exact⟨b,rfl,ag,g.cut w⟩
theorem Fr.KW{f:Fr}(h:f.ok):f.size<=70:=by
 cases f with
 |st a b c d=>
  obtain⟨_,⟨_,_⟩,h⟩:=h
  show 3+(if 0<b then 1 else 0)+c.length<=70
  split<;>omega
 |ek a b=>
  obtain⟨⟨_,_⟩,h⟩:=h
  show 3+b.length<=70
  omega
 |di=>exact(by decide:28<=70)
 |c7=>exact(by decide:9<=70)
 |fX=>exact(by decide:3<=70)
 |gK=>exact(by decide:1<=70)
 |_=>exact(by decide:2<=70)
theorem DE(f:Fr)(w:cG σ)(h:f.ok):a4 (j7 [f.v] σ) λv s=>v=.int f.size/\cB σ s:=by
 refine Zm ((LX f w h).a5 ?_)
 rintro _ s ⟨b,rfl,ag,g⟩
 have:=Fr.KW h
 exact j8 (p:=b.length<=1000000) (by exact aC.JR ag this) ⟨by rw[<-ag];rfl,g.cut w⟩
noncomputable def Fr.data:Fr->Option (List UInt8)
 |.st _ _ d _=>some d
 |.ek _ d=>some d
 |_=>none
noncomputable def Fr.iy:Fr->Str
 |.dT _=>"max_data"
 |.fX=>"stop_sending"
 |.c7=>"path_challenge"
 |.eu=>"data_blocked"
 |.di _=>"new_connection_id"
 |.st _ _ _ _=>"stream"
 |.ek _ _=>"crypto"
 |.gK=>"ping"
theorem Fr.r2(f:Fr):gu f.v (.int 0) s=some (.str f.iy):=by cases f<;>rfl
theorem LU{f:Fr}(w:cG σ)(aB:f.data=some d):a4 (pT [f.v] σ) λv s=>v=.bytes d/\cB σ s:=by
 cases f<;>cases aB<;>exact Zj ⟨rfl,cB.refl.cut w⟩
noncomputable def Fr.kz(f:Fr)(k:Nat)(d:List UInt8)(cH:Bool):Fr:=match f with
 |.st de bJ _ _=>.st de (bJ+k) d cH
 |.ek bJ _=>.ek (bJ+k) d
 |f=>f
theorem DF{f:Fr}{k:Nat}(w:cG σ)(aB:f.data=some adg):a4 (jo [f.v,.int k,.bytes d,.bool b] σ) λv s=>v=(f.kz k d b).v/\cB σ s:=by
 cases f<;>cases aB<;>exact ZG ⟨rfl,cB.refl.cut w⟩
noncomputable def Fr.dr(f:Fr):Nat:=(f.kz 0 [] false).size
theorem Fr.HP(f:Fr)(h:f.data=some d):f.dr<=4/\3<=f.dr:=by
 cases f<;>cases h
 .rename_i bJ _
  show 3+(if 0<bJ+0 then 1 else 0)+0<=4/\3<=3+(if 0<bJ+0 then 1 else 0)+0
  split<;>exact⟨by decide,by decide⟩
 .exact⟨show 3<=4 by decide,show 3<=3 by decide⟩
theorem Fr.LB(f:Fr)(h:f.data=some d):(f.kz 0 iL b).size=f.dr+iL.length:=by
 cases f<;>cases h<;>rfl
theorem Fr.ye(f:Fr)(h:f.data=some d):f.size=f.dr+d.length:=by
 cases f<;>cases h
 .rename_i de bJ cH
  show _=(3+(if 0<bJ+0 then 1 else 0)+0)+d.length
  rw[Int.add_zero];rfl
 .rfl
theorem Fr.LA{f:Fr}{d iL:List UInt8}(h:f.data=some d)(aH:f.ok)(aB:iL.length<=d.length):(f.kz 0 iL b).ok:=by
 cases f<;>cases h
 .obtain⟨h1,⟨h2,h4⟩,aR⟩:=aH;exact⟨h1,by exact aC.J6 h2 h4,by exact aC.J7 aB aR⟩
 .obtain⟨⟨h2,h4⟩,aR⟩:=aH;exact⟨by exact aC.J6 h2 h4,by exact aC.J7 aB aR⟩
theorem Fr.rD{f:Fr}{d:List UInt8}(h:f.data=some d)(aH:f.ok):d.length<64:=by
 cases f<;>cases h
 .obtain⟨_,⟨_,_⟩,h⟩:=aH;omega
 .obtain⟨⟨_,_⟩,h⟩:=aH;omega
theorem KX{ai:Int}{m:Nat}(cK:ai=m)(aG:d.length<=1000000)(h:Q (.bytes (d.take m))):gL (jB (.bytes d) .none (.int ai)) Q:=by
 subst cK
 exact jq (show(if 0<=(m:Int)/\d.length<=1000000 then some (J.bytes (d.take m)) else none)=_ from if_pos ⟨Int.natCast_nonneg _,aG⟩) h
theorem aaP{ai:Int}{m:Nat}(cK:ai=m)(aG:d.length<=1000000)(h:Q (.bytes (d.drop m))):gL (jB (.bytes d) (.int ai) .none) Q:=by
 subst cK
 exact jq (show(if 0<=(m:Int)/\d.length<=1000000 then some (J.bytes (d.drop m)) else none)=_ from if_pos ⟨Int.natCast_nonneg _,aG⟩) h
theorem acU{σ:St}{f:Fr}{d:List UInt8}{R:Nat}(w:cG σ)(aB:f.data=some d)(aH:f.ok):a4 (s9 [f.v,.int R] σ) λv s=>v=.int (if R<f.dr then-1 else((min d.length (R-f.dr):Nat):Int))/\cB σ s:=by
 have aG:=Fr.rD aB aH
 have sG:∀(iL:List UInt8) (s:St) (Q:J->St->Prop),cG s->iL.length<=d.length->(∀t,cB s t->Q (.int (f.dr+iL.length:Nat)) t)->a4 (jo [f.v,.int (0:Nat),.bytes iL,.bool false] s) λv t=>a4 (j7 [v] t) Q:=by
  intro iL s Q oE ey q
  refine(DF oE aB).fH λt g=>?_
  refine(DE _ (g.wf oE) (Fr.LA aB aH ey)).fH λu g2=>?_
  rw[Fr.LB f aB];exact q _ (g.trans g2)
 refine Zk ((LU w aB).a5 ?_)
 rintro _ k8 ⟨rfl,g1⟩
 refine sG [] k8 _ (g1.wf w) (Nat.zero_le _) λlW g3=>?_
 have g13:=g1.trans g3
 refine oS (p:=(R:Int)<((f.dr+0:Nat):Int)) (λq=>?_) λq=>?_
 .rw[if_pos (by exact aC.Xz q)]
  exact⟨rfl,g13.cut w⟩
 .refine j8 (p:=d.length<=1000000) (by exact aC.qW aG) ?_
  refine sG [] lW _ (g13.wf w) (Nat.zero_le _) λC8 g5=>?_
  have Hk:=g13.trans g5
  have em:(if(R:Int)-((f.dr+0:Nat):Int)<(d.length:Int) then(R:Int)-((f.dr+0:Nat):Int) else(d.length:Int))=((min d.length (R-f.dr):Nat):Int):=by
   split<;>omega
  refine I6 (n:=999999) ?_
  refine KX em (by exact aC.qW aG) ?_
  refine sG _ C8 _ (Hk.wf w) (by rw[List.length_take];exact aC.XA) λnq g6=>?_
  refine f9 (decide_eq_false (by rw[List.length_take];omega)) ⟨congrArg J.int ?_,(Hk.trans g6).cut w⟩
  exact em.trans (if_neg (by omega)).symm
noncomputable def Fr.cH:Fr->Bool
 |.st _ _ _ b=>b
 |_=>false
noncomputable def dM(f:Fr)(R:Nat):Option Fr×Option Fr:=
 if f.size<=R then(some f,none) else match f.data with
 |none=>(none,some f)
 |some d=>if R<=f.dr then(none,some f) else(some (f.kz 0 (d.take (R-f.dr)) false),some (f.kz (R-f.dr) (d.drop (R-f.dr)) f.cH))
noncomputable def jf:Option Fr->J
 |none=>.none
 |some f=>f.v
theorem QV(f:Fr):jv n cells f.v=f.v:=by cases f<;>rfl
theorem Hg(o:Option Fr):jv n cells (jf o)=jf o:=by
 cases o with
 |none=>rfl
 |some f=>exact QV f
theorem QT(o p:Option Fr):m2 n cells (.bo [jf o,jf p])=.bo [jf o,jf p]:=by
 show J.bo [jv n cells (jf o),jv n cells (jf p)]=_
 rw[Hg,Hg]
theorem YM{f:Fr}(aB:f.data=some d)(q:Q (.bool f.cH) s):(TE.mT (.af cw (.af a8 (.C 0) (.I (.int 0))) (.I (.str "stream"))) (.af a8 (.C 0) (.I (.int 4)))).p (some f.v::l) s Q:=by
 cases f<;>cases aB<;>exact q
theorem acC{R:Nat}(w:cG σ)(aH:f.ok):a4 (s8 [f.v,.int R] σ) λv s=>v=.bo [jf (dM f R).1,jf (dM f R).2]/\cB σ s:=by
 have cC:∀{o p:Option Fr} {s:St},cB σ s->dM f R=(o,p)->m2 σ.next s.cells (.bo [jf o,jf p])=.bo [jf (dM f R).1,jf (dM f R).2]/\cB σ (s.cut σ.next):=λg e=>⟨by rw[e];exact QT _ _,g.cut w⟩
 refine Zi ((DE f w aH).a5 ?_)
 rintro _ k8 ⟨rfl,g1⟩
 refine oS (p:=(f.size:Int)<=(R:Int)) (λq=>cC (o:=some f) (p:=none) g1 (if_pos (Int.ofNat_le.mp q))) λq=>?_
 have dx:¬f.size<=R:=λx=>q (Int.ofNat_le.mpr x)
 refine ez f.r2 ?_
 cases aB:f.data with
 |none=>exact gO (by cases f<;>first|rfl|cases aB) (cC (o:=none) (p:=some f) g1 (by unfold dM;rw[if_neg dx,aB]))
 |some d=>
  have aG:=Fr.rD aB aH
  have hz:=Fr.ye f aB
  refine f9 (by cases f<;>first|rfl|cases aB) ?_
  refine(acU (g1.wf w) aB aH).fH λqZ g2=>?_
  have g12:=g1.trans g2
  refine(LU (g12.wf w) aB).fH λlW g3=>?_
  have g13:=g12.trans g3
  by_cases cq:R<=f.dr
  .refine gO (decide_eq_true (by split<;>omega)) ?_
   exact cC (o:=none) (p:=some f) g13 (by unfold dM;rw[if_neg dx,aB];exact if_pos cq)
  .have em:(if R<f.dr then-1 else((min d.length (R-f.dr):Nat):Int))=((R-f.dr:Nat):Int):=by
    rw[if_neg (by exact aC.XB cq)];congr 1;exact aC.XD dx hz
   refine f9 (decide_eq_false (by rw[em];exact aC.XE cq)) ?_
   refine j8 (p:=d.length<=1000000) (by exact aC.qW aG) ?_
   refine f9 (decide_eq_false (by rw[em];omega)) ?_
   have tail:∀ai:Int,ai=(R-f.dr:Nat)->a4 (jo [f.v,J.int (0:Nat),.bytes (d.take (R-f.dr)),J.bool false] lW) λx s=>a4 (jo [f.v,J.int ai,.bytes (d.drop (R-f.dr)),.bool f.cH] s) λy s=>m2 σ.next s.cells (J.bo [x,y])=J.bo [jf (dM f R).1,jf (dM f R).2]/\cB σ (s.cut σ.next):=by
    rintro ai rfl
    refine(DF (g13.wf w) aB).fH λKJ g4=>?_
    refine(DF ((g13.trans g4).wf w) aB).fH λC8 g5=>?_
    exact cC (o:=some _) (p:=some _) ((g13.trans g4).trans g5) (by unfold dM;rw[if_neg dx,aB];exact if_neg cq)
   have pa:d.length<=1000000:=by exact aC.qW aG
   have eV:=tail _ em
   refine YM aB ?_
   exact KX em pa (eV.a5 λx s h=>aaP em pa h)
noncomputable def mG:Option Fr->Nat
 |none=>0
 |some f=>f.size
noncomputable def e9:List Fr->Nat->List Fr×List Fr
 |[],_=>([],[])
 |f::r,R=>((dM f R).1.toList++(e9 r (R-mG (dM f R).1)).1,(dM f R).2.toList++(e9 r (R-mG (dM f R).1)).2)
theorem Cy(o:Option Fr):oh (jf o)=some o.isNone:=by
 cases o with
 |none=>rfl
 |some f=>cases f<;>rfl
theorem cutF_ind{P:Option Fr×Option Fr->Prop}(a:f.size<=R->P (some f,none))(b:P (none,some f))(c:∀d,f.data=some d->¬f.size<=R->¬R<=f.dr->P (some (f.kz 0 (d.take (R-f.dr)) false),some (f.kz (R-f.dr) (d.drop (R-f.dr)) f.cH))):P (dM f R):=by
 show P (ite _ _ _)
 by_cases h:f.size<=R
 .rw[if_pos h];exact a h
 .rw[if_neg h]
  generalize f.data=o at c
  rcases o with _|d
  .exact b
  .show P (ite _ _ _)
   by_cases q:R<=f.dr
   .rw[if_pos q];exact b
   .rw[if_neg q];exact c d rfl h q
theorem F1{f:Fr}:mG (dM f R).1<=R:=
 cutF_ind (P:=λp=>mG p.1<=R) id (Nat.zero_le _) λd aB _ h=>by
  show(f.kz 0 _ _).size<=R
  rw[Fr.LB f aB,List.length_take]
  exact cm (Nat.add_le_add_left (Nat.min_le_left _ _) _) (dR (Nat.add_sub_cancel' (Nat.le_of_not_le h)))
theorem xS{α:Type}{P:α->Prop}:∀g∈(none:Option α),P g:=λg h=>(Option.some_ne_none g (Eq.symm h)).elim
theorem sF{α:Type}{P:α->Prop}{x:α}(h:P x):∀g∈some x,P g:=λ_ e=>b9 e▸h
theorem Fr.ab2{f:Fr}(h:f.data=some d)(aH:f.ok)(hk:k<=d.length):(f.kz k (d.drop k) b).ok:=by
 cases f<;>cases h
 .obtain⟨h1,⟨h2,h4⟩,aR⟩:=aH
  exact⟨h1,by exact aC.J8 hk aR h2,by rw[List.length_drop];exact aC.J9 hk aR⟩
 .obtain⟨⟨h2,h4⟩,aR⟩:=aH
  exact⟨by exact aC.J8 hk aR h2,by rw[List.length_drop];exact aC.J9 hk aR⟩
theorem z3{f:Fr}(aH:f.ok):(∀g∈(dM f R).1,g.ok)/\∀g∈(dM f R).2,g.ok:=
 cutF_ind (P:=λp=>(∀g∈p.1,g.ok)/\∀g∈p.2,g.ok) (λ_=>⟨sF aH,xS⟩) ⟨xS,sF aH⟩ λd aB h q=>⟨sF (Fr.LA aB aH (by rw[List.length_take];exact aC.XF)),sF (Fr.ab2 aB aH (Nat.sub_le_of_le_add (by rw[Nat.add_comm,<-Fr.ye f aB];exact Nat.le_of_not_le h)))⟩
set_option genInjectivity false
theorem ck{σ:St}(h:d≠c):(σ.aT c x).cells d=σ.cells d:=if_neg h
theorem hK{σ:St}:(σ.aT c x).cells c=some x:=if_pos rfl
theorem ig{σ:St}(h:d≠σ.next):(σ.new x).cells d=σ.cells d:=if_neg h
theorem iA{σ:St}:(σ.new x).cells σ.next=some x:=if_pos rfl
theorem cG.aT{σ:St}(w:cG σ)(h:c<σ.next):cG (σ.aT c x):=λd aB=>
 (ck (Nat.ne_of_gt (jH h aB))).trans (w d aB)
theorem cG.new{σ:St}(w:cG σ):cG (σ.new x):=λd aB=>
 (ig (Nat.ne_of_gt (jH (gB _) aB))).trans (w d (Nat.le_of_succ_le aB))
theorem cG.lt(w:cG σ)(h:σ.cells c=some x):c<σ.next:=
 eP λq=>by rw[w c q] at h;cases h
structure Keeps (l:List Nat) (σ s:St):Prop where
 old:∀d,d<σ.next->d∉l->s.cells d=σ.cells d
 next:σ.next<=s.next
 wf:cG s
theorem Keeps.refl(w:cG σ):Keeps l σ σ:=⟨λ_ _ _=>rfl,bt _,w⟩
theorem Keeps.trans(h:Keeps l a b)(h':Keeps l b c):Keeps l a c:=⟨λd aB aG=>(h'.old d (jH aB h.next) aG).trans (h.old d aB aG),cm h.next h'.next,h'.wf⟩
theorem cB.keeps(w:cG σ)(g:cB σ s):Keeps l σ s:=⟨λd _ _=>by rw[g.cells],g.next,g.wf w⟩
theorem Keeps.gS(h:Keeps l σ s)(g:cB s u):Keeps l σ u:=h.trans (g.keeps h.wf)
theorem Keeps.aT{l:List Nat}(h:Keeps l σ s)(aw:c∈l\/σ.next<=c)(dp:c<s.next):Keeps l σ (s.aT c x):=
 ⟨λd aB aG=>(ck (show d≠c fromλq=>by subst q;exact aw.elim aG (Nat.not_le_of_lt aB))).trans (h.old d aB aG),h.next,h.wf.aT dp⟩
theorem Keeps.new{l:List Nat}(h:Keeps l σ s):Keeps l σ (s.new x):=
 ⟨λd aB aG=>(ig (d9 (jH aB h.next))).trans (h.old d aB aG),Nat.le_succ_of_le h.next,h.wf.new⟩
theorem Keeps.a5(h:Keeps l σ s)(aG:∀d∈l,d∈l'):Keeps l' σ s:=⟨λd aB q=>h.old d aB λx=>q (aG d x),h.next,h.wf⟩
theorem oW{σ:St}(h:c<n):(σ.cut n).cells c=σ.cells c:=if_pos h
theorem F2{σ:St}(h:¬c<n):(σ.cut n).cells c=none:=if_neg h
theorem Keeps.cut{l:List Nat}(h:Keeps l σ s):Keeps l σ (s.cut σ.next):=
 ⟨λd aB q=>(oW aB).trans (h.old d aB q),h.next,λd aB=>F2 (Nat.not_lt_of_le (cm h.next aB))⟩
theorem Keeps.done{σ s:St}(w:cG σ)(h:Keeps [] σ s):cB σ (s.cut σ.next):=by
 refine⟨funext λc=>?_,h.next⟩
 by_cases aw:c<σ.next
 .exact(oW aw).trans (h.old c aw hP)
 .exact(F2 aw).trans (w c (bz aw)).symm
theorem vV(h:σ.cells c=some (.list vs))(aG:vs.length<=1000000)(q:Q .none (σ.aT c (.list (vs++[v])))):aJ (fo [.ref c,v] σ) Q:=
 hQ (show(match σ.cells c with|some (.list vs)=>if vs.length<=1000000 then some (J.none,σ.aT c (.list (vs++[v]))) else none|_=>none)=_ by rw[h];exact if_pos aG) q
theorem n7(h:σ.cells c=some (.list vs)):d6 (.ref c) σ=true:=
 show(match σ.cells c with|some (.list _)=>true|_=>false)=true by rw[h]
theorem sv(h:σ.cells c=some (.list vs))(aG:vs.length<=1000000)(q:Q .none (σ.aT c (.list (vs++[v])))):dD (d6 (.ref c) σ) (aJ (fo [.ref c,v] σ) Q) False:=
 gO (n7 h) (vV h aG q)
theorem wZ{σ s:St}(aw:σ.next<=c)(h:s.cells c=some (.list vs)):jv σ.next s.cells (.ref c)=.bp vs:=by
 show(if σ.next<=c then _ else _)=_
 rw[if_pos aw,h]
structure mO (σ s:St) (t l:List J):Prop where
 a:s.cells σ.next=some (.list t)
 b:s.cells (σ.next+1)=some (.list l)
 k:Keeps [] σ s
theorem mO.gS(h:mO σ s t l)(g:cB s u):mO σ u t l:=⟨by rw[g.cells];exact h.a,by rw[g.cells];exact h.b,h.k.gS g⟩
theorem mO.Ks{σ s:St}(h:mO σ s t l)(v:J):mO σ (s.aT σ.next (.list (t++[v]))) (t++[v]) l:=
 ⟨hK,(ck (Nat.succ_ne_self _)).trans h.b,h.k.aT (.inr (bt _)) (h.k.wf.lt h.a)⟩
theorem mO.Kt{σ s:St}(h:mO σ s t l)(v:J):mO σ (s.aT (σ.next+1) (.list (l++[v]))) t (l++[v]):=
 ⟨(ck (Nat.succ_ne_self _).symm).trans h.a,hK,h.k.aT (.inr (gp _)) (h.k.wf.lt h.b)⟩
theorem wa(e:t++(none:Option Fr).toList.map Fr.v++X=y9):t++X=y9:=(congrArg (·++X) (List.append_nil t).symm).trans e
theorem LW{σ:St}{R:Nat}(w:cG σ)(aH:∀f∈fs,f.ok)(aW:fs.length<=900):a4 (pU [.bp (fs.map Fr.v),.int R] σ) λv s=>v=.bo [.bp ((e9 fs R).1.map Fr.v),.bp ((e9 fs R).2.map Fr.v)]/\cB σ s:=by
 refine Zl ?_
 obtain⟨T,hT⟩:∃T,e9 fs R=T:=⟨_,rfl⟩
 rw[hT]
 refine dz rfl ?_
 refine kk (enc:=Fr.v) (A:=DU) (λr U s=>E2 λdK t l fz fh fi=>U=[some (.bp (fs.map Fr.v)),some (.int (dK:Nat)),some (.ref σ.next),some (.ref (σ.next+1)),fz,fh,fi]/\mO σ s t l/\(∀f∈r,f.ok)/\(t.length+r.length<=1000/\l.length+r.length<=1000)/\
  t++(e9 r dK).1.map Fr.v=T.1.map Fr.v/\l++(e9 r dK).2.map Fr.v=T.2.map Fr.v) (λ_ _ _ _=>rfl) ?_ ?_
  ⟨R,[],[],none,none,none,rfl,⟨(ig (d9 (gB _))).trans iA,iA,(Keeps.refl w).new.new⟩,aH,⟨by rw[hO];exact aC.CQ aW,by rw[hO];exact aC.CQ aW⟩,by rw[hT];rfl,by rw[hT];rfl⟩
 .rintro f r _ s ⟨dK,t,l,fz,fh,fi,rfl,h,mz,⟨ae,aK⟩,a9,a7⟩
  obtain⟨hf,mz⟩:=bO.mp mz
  have L4:=acC (R:=dK) h.k.wf hf
  have hk:=z3 (R:=dK) hf
  have n2:=F1 (f:=f) (R:=dK)
  unfold e9 at a9 a7
  generalize dM f dK=c at L4 hk n2 a9 a7
  obtain⟨o,p⟩:=c
  dsimp only at hk n2 a9 a7
  rw[iG,<-List.append_assoc] at a9 a7
  rw[fJ] at ae aK
  refine⟨_,rfl,L4.a5 ?_⟩
  rintro _ k8 ⟨rfl,g1⟩
  have h1:=h.gS g1
  refine yN (Cy o) ?_
  cases o with
  |none=>
   refine yN (Cy p) ?_
   cases p with
   |none=>exact⟨dK,t,l,_,_,_,rfl,h1,mz,⟨by exact aC.xZ ae,by exact aC.xZ aK⟩,wa a9,wa a7⟩
   |some g=>exact sv h1.b (by exact aC.so aK) ⟨dK,t,l++[g.v],_,_,_,rfl,h1.Kt g.v,mz,⟨by exact aC.xZ ae,by rw[gn];exact(by exact aC.uM aK:l.length+1+r.length<=1000)⟩,wa a9,a7⟩
  |some q=>
   have b5:=hk.1 q rfl
   refine sv h1.a (by exact aC.so ae) ?_
   refine(DE q (h1.Ks q.v).k.wf b5).fH λu g=>?_
   have bM:=(h1.Ks q.v).gS g
   have HF:((dK:Int)-((q.size:Nat):Int))=((dK-q.size:Nat):Int):=by
    have:q.size<=dK:=n2
    exact aC.XG this
   have bC:(t++[q.v]).length+r.length<=1000:=by rw[gn];exact(by exact aC.uM ae:t.length+1+r.length<=1000)
   refine yN (Cy p) ?_
   cases p with
   |none=>exact⟨dK-q.size,_,l,_,_,_,by rw[<-HF];rfl,bM,mz,⟨bC,by exact aC.xZ aK⟩,a9,wa a7⟩
   |some g=>exact sv bM.b (by exact aC.so aK) ⟨dK-q.size,_,l++[g.v],_,_,_,by rw[<-HF];rfl,bM.Kt g.v,mz,⟨bC,by rw[gn];exact(by exact aC.uM aK:l.length+1+r.length<=1000)⟩,a9,a7⟩
 .rintro _ u ⟨dK,t,l,fz,fh,fi,rfl,h,_,_,a9,a7⟩
  have z9:t=T.1.map Fr.v:=(List.append_nil t).symm.trans a9
  have P5:l=T.2.map Fr.v:=(List.append_nil l).symm.trans a7
  subst z9 P5
  refine⟨?_,h.k.done w⟩
  show J.bo [jv σ.next u.cells (.ref σ.next),jv σ.next u.cells (.ref (σ.next+1))]=_
  rw[wZ (bt _) h.a,wZ (gp _) h.b]
noncomputable def sE:Nat->List Fr->Nat->Option (List (List Fr))
 |0,_,_=>none
 |n+1,left,R=>if left=[] then some [] else if(e9 left R).1=[] then none else(sE n (e9 left R).2 R).map ((e9 left R).1::·)
theorem Kf{α:Type}(o:Option α):o.toList.length<=1:=by
 cases o
 .exact Nat.zero_le _
 .exact bt _
theorem QE(fs:List Fr):∀R:Nat,(e9 fs R).2.length<=fs.length/\(e9 fs R).1.length<=fs.length:=by
 induction fs with
 |nil=>exactλ_=>⟨bt _,bt _⟩
 |cons f fs aZ=>
  intro R
  have this:=aZ (R-mG (dM f R).1)
  have gg:=Kf (dM f R).1
  have fK:=Kf (dM f R).2
  show List.length (_++_)<=_/\List.length (_++_)<=_
  rw[gn,gn,fJ]
  exact aC.XH this gg fK
theorem GJ{P:Fr->Prop}(aw:∀f R,P f->(∀g∈(dM f R).1,P g)/\∀g∈(dM f R).2,P g)(fs:List Fr):∀R:Nat,(∀f∈fs,P f)->(∀f∈(e9 fs R).1,P f)/\∀f∈(e9 fs R).2,P f:=by
 induction fs with
 |nil=>exactλ_ _=>⟨dJ _,dJ _⟩
 |cons f fs aZ=>
  intro R h
  have k:=aw f R (h f (.head _))
  have aZ:=aZ (R-mG (dM f R).1) λg q=>h g (.tail _ q)
  exact⟨λg aU=>(h7.mp aU).elim (λq=>k.1 g (Option.mem_toList.mp q)) (aZ.1 g),λg aU=>(h7.mp aU).elim (λq=>k.2 g (Option.mem_toList.mp q)) (aZ.2 g)⟩
noncomputable abbrev dG(r:List Fr):J:=.bp (r.map Fr.v)
theorem uw(h:σ.cells c=some (.list vs)):ff (.ref c) σ=some vs:=
 show(match σ.cells c with|some (.list vs)=>some vs|_=>none)=_ by rw[h]
structure kF (σ s:St) (t:List J):Prop where
 a:s.cells σ.next=some (.list t)
 k:Keeps [] σ s
theorem kF.gS(h:kF σ s t)(g:cB s u):kF σ u t:=⟨by rw[g.cells];exact h.a,h.k.gS g⟩
theorem kF.push(h:kF σ s t)(v:J):kF σ (s.aT σ.next (.list (t++[v]))) (t++[v]):=
 ⟨hK,h.k.aT (.inr (bt _)) (h.k.wf.lt h.a)⟩
theorem kF.start(w:cG σ):kF σ (σ.new (.list t)) t:=⟨iA,(Keeps.refl w).new⟩
theorem ZN(hT:T=f3.boolOf (.af jw (.ef fq (.aa (.C 3) .ar)) (.I (.int 0)))):∀(n:Nat) (left:List Fr) (rows:List (List Fr)) (t:List J) (s:St) (fz fh:Option J),sE n left R=some rows->kF σ s t->(∀f∈left,f.ok)->left.length<=900->t.length+rows.length<=1000->
 (∀u kC q8 jE,kF σ u (t++rows.map dG)->Q .next [e5,some (.int R),some (.ref σ.next),kC,q8,jE] u)->
 dw (nf T.d DY.d n [e5,some (.int R),some (.ref σ.next),some (dG left),fz,fh] s) Q:=by
 subst hT
 intro n
 induction n with
 |zero=>intro left rows t s fz fh h;cases h
 |succ n aZ=>
  intro left rows t s fz fh h ha mz aG ht q
  refine I6 ?_
  refine j8 (p:=(left.map Fr.v).length<=1000000) (by rw[dW];exact aC.CO aG) ?_
  unfold sE at h
  by_cases e:left=[]
  .subst e
   cases h
   refine q _ _ _ _ ?_
   rw[List.map_nil,List.append_nil];exact ha
  .rw[if_neg e] at h
   have hp:=List.length_pos_iff.mpr e
   by_cases e3:(e9 left R).1=[]
   .rw[if_pos e3] at h;cases h
   rw[if_neg e3] at h
   obtain⟨KH,aI,rfl⟩:=fS.mp h
   refine gO (decide_eq_true (by rw[dW];exact aC.XI hp)) ?_
   refine(LW (fs:=left) (R:=R) ha.k.wf mz aG).fH λk8 g1=>?_
   have h1:=ha.gS g1
   have fl:=QE left R
   have QM:=GJ (λf R h=>z3 h) left R mz
   have SQ:=List.length_pos_iff.mpr e3
   rw[fJ] at ht
   refine j8 (p:=((e9 left R).1.map Fr.v).length<=1000000) (by rw[dW];exact aC.XJ aG fl) ?_
   refine f9 (beq_eq_false_iff_ne.mpr (by rw[dW];exact aC.XK SQ)) ?_
   refine sv h1.a (by exact aC.so ht) ?_
   refine aZ (e9 left R).2 KH (t++[dG (e9 left R).1]) _ _ _ aI (h1.push _) QM.2 (by exact aC.XM aG fl) (by rw[gn];exact(by exact aC.uM ht:t.length+1+KH.length<=1000)) λu kC q8 jE bM=>q u kC q8 jE ?_
   rw[List.append_assoc] at bM;exact bM
theorem acV(w:cG σ)(aI:sE 1000000 fs R=some rows)(aH:∀f∈fs,f.ok)(aW:fs.length<=900)(SV:rows.length<=900):
 a4 (tc [dG fs,.int R] σ) λv s=>v=.bp (rows.map dG)/\cB σ s:=by
 refine Zo ?_
 refine j8 (p:=(fs.map Fr.v).length<=1000000) (by rw[dW];exact aC.CO aW) ?_
 refine ZN rfl 1000000 fs rows [] _ none none aI (kF.start w) aH aW (by rw[hO];exact aC.CQ SV) λu kC q8 jE h=>?_
 exact⟨wZ (bt _) h.a,h.k.done w⟩
set_option genInjectivity true
noncomputable def Fr.Dx:Fr->Str
 |.dT _=>"latest"
 |.fX=>"same"
 |.c7=>"never"
 |.eu=>"blocked"
 |.di _=>"same"
 |.st _ _ _ _=>"holder"
 |.ek _ _=>"holder"
 |.gK=>"never"
noncomputable def Fr.K9:Fr->bq
 |.fX=>.int 4
 |.di n=>.int n
 |_=>.none
noncomputable def Fr.Dl(f:Fr):J:=.bo [.str f.iy,f.K9.v]
theorem L3(f:Fr)(w:cG σ):a4 (rh [.str f.iy] σ) λv s=>v=.str f.Dx/\cB σ s:=by
 cases f<;>exact⟨_,σ.cut σ.next,rfl,rfl,cB.refl.cut w⟩
theorem L1(f:Fr)(w:cG σ):a4 (rg [f.v] σ) λv s=>v=f.Dl/\cB σ s:=by
 cases f<;>exact⟨_,σ.cut σ.next,rfl,rfl,cB.refl.cut w⟩
theorem nI{α:Type}{g:α->J}{xs:List α}(h:pN (λx v=>v=g x) xs cI):cI=xs.map g:=by
 induction h with
 |nil=>rfl
 |cons e _ aZ=>rw[iH,<-e,<-aZ]
theorem acJ{fs:List Fr}(w:cG σ)(hs:∀s,cB σ s->d1 src s=some (fs.map Fr.v))(aW:fs.length<=900):a4 (s' [src] σ) λv s=>v=dG (fs.filter λf=>f.data.isSome)/\cB σ s:=by
 refine Zn ?_
 refine dz (hs _ .refl) ?_
 refine me (src:=src) (λU s=>(∃z,U=[z])/\cB σ s) (λf:Fr=>f.data.isSome) (λf v=>v=f.v) (λ_ s h=>hs s h.2) ?_ ⟨⟨_,rfl⟩,.refl⟩ (by rw[hO];exact aC.XN aW) ?_
 .rintro f _ _ s ⟨⟨z,rfl⟩,g⟩
  refine⟨_,rfl,?_⟩
  refine ez f.r2 ?_
  refine(L3 f (g.wf w)).fH λt g2=>?_
  refine⟨show(f.Dx==("holder":Str))=f.data.isSome by cases f<;>rfl,?_⟩
  have i:(∃z:Option J,[some f.v]=[z])/\cB σ t:=⟨⟨_,rfl⟩,g.trans g2⟩
  exact dD.of (A:=True) (B:=True) (by cases(f.Dx==("holder":Str))<;>trivial) (λ_=>⟨rfl,i⟩) λ_=>i
 .rintro cI _ t a ⟨_,g⟩
  exact⟨by rw[nI a];rfl,g.cut w⟩
noncomputable abbrev jJ:=List (Str×Int)
noncomputable def fU(al:jJ):List (bq×J):=al.map λa=>(bq.str a.1,J.int a.2)
noncomputable def tm(al:jJ)(k:Str):Option Int:=(al.find? λa=>decide (a.1=k)).map (·.2)
noncomputable def qS:Option Int->J
 |none=>.none
 |some t=>.int t
theorem IB(al:jJ)(k:Str):d2 (fU al) (.str k)=(tm al k).map J.int:=by
 unfold d2 fU tm
 induction al with
 |nil=>rfl
 |cons a r aZ=>
  rw[iH,List.find?_cons,List.find?_cons]
  by_cases h:a.1=k
  .rw[decide_eq_true (show(bq.str a.1,J.int a.2).1=bq.str k by rw[h]),decide_eq_true h];rfl
  .rw[decide_eq_false (show ¬(bq.str a.1,J.int a.2).1=bq.str k fromλe=>h (bq.str.inj e)),decide_eq_false h];exact aZ
theorem y8(q:Q (qS (tm al k)) σ):a4 (o5 [.cD (fU al),.str k] σ) Q:=by
 refine⟨_,_,show some ((d2 (fU al) (.str k)).getD .none,σ)=_ from ?_,q⟩
 rw[IB];cases tm al k<;>rfl
noncomputable abbrev fe:List Str:=["closed","idle","loss","probe","ack","path"]
noncomputable def lY(al:jJ)(acc:Option (Int×Str))(k:Str):Option (Int×Str):=match tm al k,acc with
 |none,acc=>acc
 |some t,none=>some (t,k)
 |some t,some a=>if t<a.1 then some (t,k) else some a
noncomputable def wB:Option (Int×Str)->J
 |none=>.none
 |some a=>.bo [.int a.1,.str a.2]
theorem LZ(w:cG σ):a4 (pW [.cD (fU al)] σ) λv s=>v=wB (fe.foldl (lY al) none)/\cB σ s:=by
 refine Zv ?_
 obtain⟨T,hT⟩:∃T,fe.foldl (lY al) none=T:=⟨_,rfl⟩
 rw[hT]
 refine dz rfl ?_
 refine kk (enc:=J.str) (xs:=fe) (A:=Eb) (λr U s=>s=σ/\∃acc d4 eg,U=[some (.cD (fU al)),some (wB acc),d4,eg]/\r.foldl (lY al) acc=T) (λ_ _ _ _=>rfl) ?_ ?_ ⟨rfl,none,none,none,rfl,hT⟩
 .rintro k r _ _ ⟨rfl,acc,d4,eg,rfl,e⟩
  rw[List.foldl_cons] at e
  refine⟨_,rfl,?_⟩
  refine y8 ?_
  unfold lY at e
  cases h:tm al k with
  |none=>
   rw[h] at e
   exact⟨rfl,acc,_,_,rfl,e⟩
  |some t=>
   rw[h] at e
   cases acc with
   |none=>exact⟨rfl,some (t,k),_,_,rfl,e⟩
   |some a=>
    refine oS (p:=t<a.1) (λq=>?_) λq=>?_
    .dsimp only at e
     rw[if_pos q] at e
     exact⟨rfl,some (t,k),_,_,rfl,e⟩
    .dsimp only at e
     rw[if_neg q] at e
     exact⟨rfl,some a,_,_,rfl,e⟩
 .rintro _ _ ⟨rfl,acc,d4,eg,rfl,e⟩
  have c2:acc=T:=e
  subst c2
  exact⟨by cases acc<;>rfl,cB.refl.cut w⟩
theorem IE(h:k∉al.map (·.1)):dA (fU al) (.str k) (.int t)=fU (al++[(k,t)]):=by
 unfold dA
 rw[if_neg]
 .rw[fU,fU,iG];rfl
 .rw[List.any_eq_true]
  rintro⟨e,b1,aB⟩
  obtain⟨a,ha,rfl⟩:=dI.mp b1
  exact h (dI.mpr ⟨a,ha,bq.str.inj (of_decide_eq_true aB)⟩)
theorem IH:(fU al).length=al.length:=dW ..
theorem E':∀(ps acc:jJ) (σ:St),σ.cells c=some (.cn (fU acc))->((acc++ps).map (·.1)).Nodup->acc.length+ps.length<=1000->
 ∃a0,lu c (ps.map λa=>J.bo [.str a.1,.int a.2]) σ=some a0/\a0.next=σ.next/\a0.cells c=some (.cn (fU (acc++ps)))/\∀d,d≠c->a0.cells d=σ.cells d
 |[],acc,σ,h,_,_=>⟨σ,rfl,rfl,by rw[List.append_nil];exact h,λ_ _=>rfl⟩
 |p::ps,acc,σ,h,aW,aG=>by
  rw[fJ] at aG
  have hp:p.1∉acc.map (·.1):=by
   rw[iG,List.nodup_append] at aW
   exactλq=>aW.2.2 _ q _ (List.mem_cons_self ..) rfl
  have aw:acc++p::ps=(acc++[p])++ps:=List.append_cons ..
  rw[aw] at aW
  obtain⟨a0,a9,a7,e3,eX⟩:=E' ps (acc++[p]) (σ.aT c (.cn (fU (acc++[p])))) hK aW (by rw[gn];exact(by exact aC.uM aG:acc.length+1+ps.length<=1000))
  refine⟨a0,?_,a7,by rw[aw];exact e3,λd aB=>(eX d aB).trans (ck aB)⟩
  show(match σ.cells c with|some (.cn es)=>if es.length<=1000000 then lu c (ps.map _) (σ.aT c (.cn (dA es (.str p.1) (.int p.2)))) else none|_=>none)=_
  rw[h]
  show(if(fU acc).length<=1000000 then _ else _)=_
  rw[if_pos (by rw[IH];exact aC.so aG),IE hp]
  exact a9
theorem Lh(aW:(al.map (·.1)).Nodup)(h:a∈al):tm al a.1=some a.2:=by
 unfold tm
 induction al with
 |nil=>cases h
 |cons b r aZ=>
  rw[iH,jj] at aW
  rw[List.find?_cons]
  rcases fj.mp h with rfl|h
  .rw[decide_eq_true rfl];rfl
  .rw[decide_eq_false (show ¬b.1=a.1 fromλe=>aW.1 (by rw[e];exact dI.mpr ⟨a,h,rfl⟩))]
   exact aZ aW.2 h
noncomputable def oD(al:jJ)(k:Str)(told:Option Int):jJ:=(al.filter λa=> !(a.1==k))++(match told with|none=>[]|some t=>[(k,t)])
theorem Mo(h:σ.cells c=some (.list (ps.map λa=>J.bo [.str a.1,.int a.2])))(aW:(ps.map (·.1)).Nodup)(aG:ps.length<=1000)
 (q:∀s,s.next=σ.next+1->s.cells σ.next=some (.cn (fU ps))->(∀d,d≠σ.next->s.cells d=σ.cells d)->Q (.ref σ.next) s):aJ (wx [.ref c] σ) Q:=by
 obtain⟨a0,a9,a7,e3,eX⟩:=E' (c:=σ.next) ps [] (σ.new (.cn [])) iA aW (by rw[hO];exact aC.Yn aG)
 refine hQ (show(match σ.cells c with|some (.list vs)=>(lu σ.next vs (σ.new (.cn []))).map λa0=>(J.ref σ.next,a0)|_=>none)=some (.ref σ.next,a0) by rw[h];exact congrArg (Option.map _) a9) (q a0 a7 e3 λd aB=>(eX d aB).trans (ig aB))
theorem Hf{σ s:St}(aw:σ.next<=c)(h:s.cells c=some (.cn es)):jv σ.next s.cells (.ref c)=.cD es:=by
 show(if σ.next<=c then _ else _)=_
 rw[if_pos aw,h]
theorem Kw(h:σ.cells c=some (.b8 es))(aG:es.length<=1000000):ko (.ref c) (.bo [a.v,.int i]) v σ=some (σ.aT c (.b8 (dA es [a,.int i] v))):=by
 unfold ko
 dsimp only
 rw[h]
 cases a<;>exact if_pos aG
theorem x8(h:σ.cells c=some (.cn es))(aG:es.length<=1000000):ko (.ref c) a.v v σ=some (σ.aT c (.cn (dA es a v))):=by
 unfold ko
 dsimp only
 rw[h]
 cases a<;>exact if_pos aG
theorem F0{bind:J->Loc->Option Loc}{Q:List J->St->Prop}(e:l=l')(h:a4 (mW src items bind T E l' acc U σ) Q):a4 (mW src items bind T E l acc U σ) Q:=by
 subst e;exact h
theorem ac2{σ:St}{k:Str}(w:cG σ)(aW:(al.map (·.1)).Nodup)(aG:al.length<=100):a4 (tn [.cD (fU al),.str k,qS told] σ) λv s=>v=.cD (fU (oD al k told))/\cB σ s:=by
 refine ZF ?_
 refine dz rfl ?_
 refine F0 (l':=al.map λa=>J.str a.1) (show(al.map λa=>(bq.str a.1,J.int a.2)).map (λe=>e.1.v)=_ by rw[List.map_map];rfl) ?_
 refine me (src:=.cD (fU al)) (enc:=λa:Str×Int=>J.str a.1) (λU s=>(∃z,U=[z,some (.cD (fU al)),some (.str k)])/\cB σ s) (λa=> !(a.1==k)) (λa v=>v=J.bo [.str a.1,.int a.2]) (λ_ _ _=>rfl) ?_ ⟨⟨_,rfl⟩,.refl⟩ (by rw[hO];exact aC.Ka aG) ?_
 .rintro a ha _ s ⟨⟨z,rfl⟩,g⟩
  refine⟨_,rfl,rfl,?_⟩
  have i:(∃z,[some (J.str a.1),some (.cD (fU al)),some (.str k)]=[z,some (.cD (fU al)),some (.str k)])/\cB σ s:=⟨⟨_,rfl⟩,g⟩
  refine dD.of (A:=True) (B:=True) (by cases(!(a.1==k))<;>trivial) (λ_=>?_) λ_=>i
  refine ez (show d2 (fU al) (.str a.1)=some (.int a.2) by rw[IB,Lh aW ha];rfl) ⟨rfl,i⟩
 .rintro cI _ t a ⟨_,g⟩
  have hf:=nI a
  subst hf
  have SD:((al.filter λa=> !(a.1==k)).map (·.1)).Nodup:=(List.Sublist.map _ List.filter_sublist).nodup aW
  have n1:(al.filter λa=> !(a.1==k)).length<=100:=cm (List.length_filter_le ..) aG
  refine Mo (ps:=al.filter λa=> !(a.1==k)) iA SD (by exact aC.Yo n1) λs h1 h2 aR=>?_
  have g1:t.next+1+1=s.next:=h1.symm
  have dp:σ.next<=t.next+1:=Nat.le_succ_of_le g.next
  have ks:Keeps [] σ s:=by
   refine⟨λd aB _=>?_,by have:=g.next;exact aC.Yp g1 this,λd aB=>?_⟩
   .have:=g.next
    rw[aR d (d9 (by show d<t.next+1;exact aC.Yq aB this)),ig (by exact aC.Yr aB this),g.cells]
   .have e:s.cells d=(t.new _).cells d:=aR d (Nat.ne_of_gt (by show t.next+1<d;exact aC.Ys g1 aB))
    exact e.trans ((g.wf w).new d (by show t.next+1<=d;exact aC.Yt g1 aB))
  cases told with
  |none=>
   refine⟨(Hf dp h2).trans ?_,ks.done w⟩
   unfold oD;rw[List.append_nil]
  |some sH=>
   have hk:k∉(al.filter λa=> !(a.1==k)).map (·.1):=by
    intro q
    obtain⟨a,ha,rfl⟩:=dI.mp q
    have:=(gZ.mp ha).2
    rw[beq_self_eq_true] at this;cases this
   refine jq (x8 (a:=.str k) (v:=.int sH) h2 (by rw[IH];exact aC.Kb n1)) ⟨(Hf dp hK).trans ?_,(ks.aT (.inr dp) (by exact aC.Yu g1)).done w⟩
   rw[IE hk];rfl
theorem C7{lt lt':Nat->Nat->Bool}(b1:∀i ai,i<n->ai<n->lt i ai=lt' i ai):∀(t:KasT (Array Nat)) (l:List (Nat×Nat×Bool)),kS n t l=true->runK lt t=runK lt' t
 |.ret a,l,_=>rfl
 |.ask i ai k,l,hk=>by
  obtain⟨hk,h4⟩:=l4.mp hk
  obtain⟨hk,aR⟩:=l4.mp hk
  obtain⟨h1,h2⟩:=l4.mp hk
  show runK lt (k (lt i ai))=runK lt' (k (lt' i ai))
  rw[b1 i ai (Nat.le_of_ble_eq_true h1) (Nat.le_of_ble_eq_true h2)]
  cases lt' i ai
  .exact C7 b1 (k false) _ h4
  .exact C7 b1 (k true) _ aR
theorem aaS:∀n:Fin 7,kr (λi ai=>decide (i<ai)) n.val=List.range n.val:=by decide+kernel
theorem aaR{lt:Nat->Nat->Bool}(dc:n<=6)(b1:∀i ai,i<n->ai<n->lt i ai=decide (i<ai)):kr lt n=List.range n:=by
 have:kr lt n=kr (λi ai=>decide (i<ai)) n:=by
  unfold kr
  by_cases h:n<2
  .rw[if_pos h,if_pos h]
  .rw[if_neg h,if_neg h,C7 b1 _ _ (wk (by exact aC.sm h) dc)]
 rw[this];exact aaS ⟨n,by exact aC.Yv dc⟩
noncomputable def ih(k:Str):Nat:=fe.findIdx (λx=>x==k)
theorem kinds_all{P:Str->Prop}(h:P "closed"/\P "idle"/\P "loss"/\P "probe"/\P "ack"/\P "path")(hk:k∈fe):P k:=by
 obtain⟨h1,h2,aR,h4,f',dc⟩:=h
 exact bO.mpr ⟨h1,bO.mpr ⟨h2,bO.mpr ⟨aR,bO.mpr ⟨h4,bO.mpr ⟨f',bO.mpr ⟨dc,dJ _⟩⟩⟩⟩⟩⟩ k hk
theorem acR{σ:St}(w:cG σ)(hk:k∈fe):a4 (td [.str k] σ) λv s=>v=.int (ih k)/\cB σ s:=by
 refine kinds_all (P:=λk=>a4 (td [.str k] σ) λv s=>v=.int (ih k)/\cB σ s) ⟨?_,?_,?_,?_,?_,?_⟩ hk<;>exact⟨_,σ.cut σ.next,rfl,rfl,cB.refl.cut w⟩
theorem TB{s:St}(hk:k∈fe):gu jL (.int (ih k)) s=some (.str k):=
 kinds_all (P:=λk=>gu jL (.int (ih k)) s=some (.str k)) ⟨by kernel_rfl,by kernel_rfl,by kernel_rfl,by kernel_rfl,by kernel_rfl,by kernel_rfl⟩ hk
theorem YN(qD:gu jL (.int i) s=some v)(q:Q v s):(TE.af a8 (.I jL) (.C 1)).p [e5,some (.int i)] s Q:=by
 show aJ (a8 [jL,.int i] s) Q
 exact ez qD q
noncomputable def ki(al:jJ)(b2:Int)(k:Str):Bool:=match tm al k with
 |some t=>decide (t<=b2)
 |none=>false
noncomputable def kn(al:jJ)(k:Str):J:=.bo [qS (tm al k),.int (ih k)]
theorem Km(al:jJ)(T:Int):∀ks:List Str,(∀k∈ks,tm al k=some T)->j0 (ks.map (kn al))=some (ks.map λk=>(T,(ih k:Int)))
 |[],_=>rfl
 |k::ks,h=>by
  obtain⟨h1,h⟩:=bO.mp h
  have aZ:=Km al T ks h
  have e:kn al k=.bo [.int T,.int (ih k)]:=by unfold kn;rw[h1];rfl
  rw[iH,e]
  show(j0 _).map _=_
  rw[aZ];rfl
noncomputable def rK(rt jP oN ru rv rx:Bool):List Str:=(bif rt then[("closed":Str)] else[])++((bif jP then[("idle":Str)] else[])++((bif oN then[("loss":Str)] else[])++((bif ru then[("probe":Str)] else[])++((bif rv then[("ack":Str)] else[])++(bif rx then[("path":Str)] else[])))))
theorem RF:∀rt jP oN ru rv rx:Bool,∀i,i<(rK rt jP oN ru rv rx).length->∀ai,ai<(rK rt jP oN ru rv rx).length->decide (ih ((rK rt jP oN ru rv rx).getD i "")<ih ((rK rt jP oN ru rv rx).getD ai ""))=decide (i<ai):=by decide+kernel
theorem qf{α:Type}{p:α->Bool}{a:α}{l:List α}:(a::l).filter p=(bif p a then[a] else[])++l.filter p:=by
 rw[List.filter_cons];cases p a<;>rfl
theorem QG(p:Str->Bool):fe.filter p=rK (p "closed") (p "idle") (p "loss") (p "probe") (p "ack") (p "path"):=by
 unfold fe rK
 rw[qf,qf,qf,qf,qf,qf,List.filter_nil,List.append_nil]
theorem Y0(p:Str->Bool):∀i,i<(fe.filter p).length->∀ai,ai<(fe.filter p).length->decide (ih ((fe.filter p).getD i "")<ih ((fe.filter p).getD ai ""))=decide (i<ai):=by
 rw[QG];exact RF _ _ _ _ _ _
theorem Jc{vs:List J}:(List.range vs.length).map (λi=>vs.getD i .none)=vs:=by
 apply List.ext_getElem (by rw[dW,List.length_range])
 intro i h1 h2
 rw[List.getElem_map,List.getElem_range,mN,hN h2];rfl
theorem aa0(qD:gu jL (.int i) s=some (.str k))(g:cB u s):∃l',dX [0,1] (.bo [.int b2,.int i]) [a,b]=some l'/\
 f3.e4.p l' s λb t=>b=true/\dD b ((TE.af a8 (.I jL) (.C 1)).p l' t λv gc=>v=.str k/\(∃a b,l'=[a,b])/\cB u gc) ((∃a b,l'=[a,b])/\cB u t):=
 ⟨[some (.int b2),some (.int i)],rfl,rfl,YN qD ⟨rfl,⟨_,_,rfl⟩,g⟩⟩
theorem acz(w:cG σ)(rS:∀k t,tm al k=some t->b2<=t):a4 (s7 [.cD (fU al),.int b2] σ) λv s=>v=.bp ((fe.filter (ki al b2)).map J.str)/\cB σ s:=by
 refine Zh ?_
 obtain⟨ks,kX⟩:∃ks,fe.filter (ki al b2)=ks:=⟨_,rfl⟩
 rw[kX]
 refine dz rfl ?_
 refine kk (enc:=J.str) (xs:=fe) (A:=DP) (λr U s=>rq λt eg fz=>U=[some (.cD (fU al)),some (.int b2),some (.ref σ.next),eg,fz]/\kF σ s t/\(∀k∈r,k∈fe)/\t.length+r.length<=100/\t++(r.filter (ki al b2)).map (kn al)=ks.map (kn al)) (λ_ _ _ _=>rfl) ?_ ?_ ⟨[],none,none,rfl,kF.start w,λ_ h=>h,by decide,by rw[kX];rfl⟩
 .rintro k r _ s ⟨t,eg,fz,rfl,h,hk,aG,e⟩
  obtain⟨Br,hk⟩:=bO.mp hk
  rw[fJ] at aG
  rw[qf] at e
  refine⟨_,rfl,?_⟩
  refine y8 ?_
  cases h1:tm al k with
  |none=>
   rw[show ki al b2 k=false by unfold ki;rw[h1]] at e
   exact⟨t,_,_,rfl,h,hk,by exact aC.Kc aG,e⟩
  |some sH=>
   have a7:ki al b2 k=decide (sH<=b2):=by unfold ki;rw[h1]
   rw[a7] at e
   refine oS (p:=sH<=b2) (λq=>?_) λq=>?_
   .rw[decide_eq_true q] at e
    refine gO (n7 h.a) ?_
    refine(acR h.k.wf Br).fH λu g=>?_
    have h2:=h.gS g
    refine vV h2.a (by exact aC.Yw aG) ⟨_,_,_,rfl,h2.push _,hk,by rw[gn];exact(by exact aC.Yx aG:t.length+1+r.length<=100),?_⟩
    have e3:kn al k=.bo [qS (some sH),.int (ih k)]:=by unfold kn;rw[h1]
    rw[<-e3,List.append_assoc];exact e
   .rw[decide_eq_false q] at e
    exact⟨t,_,_,rfl,h,hk,by exact aC.Kc aG,e⟩
 .rintro _ u ⟨t,eg,fz,rfl,h,_,_,e⟩
  have c2:t=ks.map (kn al):=(List.append_nil t).symm.trans e
  subst c2
  have aI:∀i,i<ks.length->∀ai,ai<ks.length->decide (ih (ks.getD i "")<ih (ks.getD ai ""))=decide (i<ai):=by rw[<-kX];exact Y0 _
  have dc:ks.length<=6:=by rw[<-kX];exact List.length_filter_le ..
  have hT:∀k∈ks,tm al k=some b2:=by
   intro k hk
   rw[<-kX] at hk
   have:=(gZ.mp hk).2
   unfold ki at this
   cases e:tm al k with
   |none=>rw[e] at this;cases this
   |some t=>rw[e] at this;exact congrArg some (Int.le_antisymm (of_decide_eq_true this) (rS k t e))
  have o9:∀k∈ks,k∈fe:=by intro k hk;rw[<-kX] at hk;exact(gZ.mp hk).1
  have es:oy (qN (ks.map λk=>(b2,(ih k:Int)))) (ks.map (kn al))=ks.map (kn al):=by
   unfold oy
   rw[aaR (by rw[dW];exact dc)]
   .exact Jc
   .intro i ai hi cK
    rw[dW] at hi cK
    have a9:=aI i hi ai cK
    rw[mN,mN,hN hi,hN cK] at a9
    unfold qN B6
    rw[mN,mN,List.getElem?_map,List.getElem?_map,hN hi,hN cK]
    rw[<-a9]
    show(decide (b2<b2)||(decide (b2=b2)&&decide ((ih ks[i]:Int)<ih ks[ai])))=decide (ih ks[i]<ih ks[ai])
    rw[decide_eq_false (Int.lt_irrefl b2),decide_eq_true rfl,Bool.false_or,Bool.true_and]
    exact decide_eq_decide.mpr Int.ofNat_lt
  have a7:yg [.ref σ.next] u=some (.bp (ks.map (kn al)),u):=by
   show(ff (.ref σ.next) u).bind _=_
   rw[uw h.a]
   show(j0 _).bind _=_
   rw[Km al b2 ks hT]
   show(if _ then _ else _)=_
   rw[if_pos (by rw[dW];exact dc),es]
  refine hQ a7 ?_
  refine dz rfl ?_
  refine me (src:=.bp (ks.map (kn al))) (λU s=>(∃a b,U=[a,b])/\cB u s) (λ_=>true) (λk v=>v=J.str k) (λ_ _ _=>rfl) ?_ ⟨⟨_,_,rfl⟩,.refl⟩ (by rw[hO];exact aC.CR dc) ?_
  .rintro k hk _ s ⟨⟨a,b,rfl⟩,g⟩
   have mi:kn al k=.bo [.int b2,.int (ih k)]:=by unfold kn;rw[hT k hk];rfl
   rw[mi]
   exact aa0 (TB (o9 k hk)) g
  .rintro cI _ t a ⟨_,g⟩
   rw[List.filter_eq_self.mpr (λ_ _=>rfl)] at a
   exact⟨by rw[nI a];rfl,(h.gS g).k.done w⟩
noncomputable abbrev jk(σ:St)(c:Nat)(al:jJ):Prop:=σ.cells c=some (.inst (some (.cD (fU al))))
theorem uO(h:jk σ c al)(q:Q (.cD (fU al))):TE.zh (.ref c) σ Q:=⟨_,_,rfl,h,q⟩
theorem uQ(h:jk σ c al)(q:A c):TE.CS (.ref c) σ A:=⟨_,_,rfl,h,q⟩
theorem YR(h:jk σ c al)(q:Q (σ.aT c (.inst (some (.cD es))))):cb.Dd (.cD es) (.ref c) σ Q:=⟨_,_,_,rfl,rfl,h,q⟩
theorem acY(w:cG σ)(h:jk σ c al):a4 (tg [.ref c,.str k] σ) λv s=>v=qS (tm al k)/\cB σ s:=by
 refine Zt ?_
 refine uO h ?_
 refine y8 ?_
 exact⟨by cases tm al k<;>rfl,cB.refl.cut w⟩
noncomputable def wV(al:jJ):J:=match fe.foldl (lY al) none with
 |none=>.none
 |some a=>.int a.1
theorem acF(w:cG σ)(h:jk σ c al):a4 (te [.ref c] σ) λv s=>v=wV al/\cB σ s:=by
 refine Zq ?_
 refine uO h ?_
 refine(LZ w).fH λs g=>?_
 unfold wV
 cases fe.foldl (lY al) none with
 |none=>exact⟨rfl,g.cut w⟩
 |some a=>exact⟨rfl,g.cut w⟩
theorem L0(w:cG σ)(h:jk σ c al)(aW:(al.map (·.1)).Nodup)(aG:al.length<=100):
 a4 (pV [.ref c,.str k,qS told] σ) λv s=>v=.none/\jk s c (oD al k told)/\Keeps [c] σ s:=by
 refine Zr ?_
 refine uO h ?_
 refine(ac2 w aW aG).fH λs g=>?_
 have h':jk s c al:=by rw[jk,g.cells];exact h
 have aw:=w.lt h
 refine YR h' ⟨rfl,(oW aw).trans hK,?_⟩
 exact((g.keeps w).aT (.inl (fB.mpr rfl)) (jH aw g.next)).cut
theorem Dw:oD al k none=al.filter λa=> !(a.1==k):=List.append_nil _
theorem ab1(h:(al.map (·.1)).Nodup):((oD al k none).map (·.1)).Nodup:=by
 rw[Dw];exact(List.Sublist.map _ List.filter_sublist).nodup h
theorem K7:∀{ks:List Str},ks.foldl (λal k=>oD al k none) al=al.filter λa=> !(ks.contains a.1)
 |[]=>(List.filter_eq_self.mpr λ_ _=>rfl).symm
 |k::ks=>by
  rw[List.foldl_cons,Dw,K7,List.filter_filter]
  congr 1;funext a
  rw[List.contains_cons,Bool.not_or,Bool.and_comm]
theorem acX(w:cG σ)(h:jk σ c al)(aW:(al.map (·.1)).Nodup)(aG:al.length<=100)(rS:∀k t,tm al k=some t->b2<=t)(kX:fe.filter (ki al b2)=ks):
 a4 (tf [.ref c,.int b2] σ) λv s=>v=.bp (ks.map J.str)/\jk s c (al.filter λa=> !(ks.contains a.1))/\Keeps [c] σ s:=by
 refine Zs ?_
 refine uO h ?_
 refine(acz w rS).a5 ?_
 rw[kX]
 rintro _ s ⟨rfl,g⟩
 have h':jk s c al:=by rw[jk,g.cells];exact h
 have aw:=w.lt h
 refine dz rfl ?_
 refine kk (src:=.bp (ks.map J.str)) (enc:=J.str) (xs:=ks) (A:=D7) (λr U u=>(∃z,U=[some (.ref c),some (.int b2),some (.bp (ks.map J.str)),z])/\∃rr,jk u c rr/\(rr.map (·.1)).Nodup/\rr.length<=100/\Keeps [c] σ u/\r.foldl (λal k=>oD al k none) rr=al.filter λa=> !(ks.contains a.1)) (λ_ _ _ _=>rfl) ?_ ?_
  ⟨⟨_,rfl⟩,al,h',aW,aG,g.keeps w,K7⟩
 .rintro k r _ u ⟨⟨z,rfl⟩,rr,h1,h2,aR,h4,e⟩
  refine⟨_,rfl,?_⟩
  refine uQ h1 ?_
  refine(L0 (told:=none) h4.wf h1 h2 aR).fH λt hc=>?_
  obtain⟨dd,gv⟩:=hc
  exact⟨⟨_,rfl⟩,_,dd,ab1 h2,by rw[Dw];exact cm (List.length_filter_le ..) aR,h4.trans gv,e⟩
 .rintro _ u ⟨⟨z,rfl⟩,rr,h1,_,_,h4,e⟩
  subst e
  exact⟨rfl,(oW aw).trans h1,h4.cut⟩
set_option genInjectivity false
theorem sh{α:Type}[DecidableEq α]:∀{l m:List α},l.Nodup->(∀x∈l,x∈m)->l.length<=m.length
 |[],_,_,_=>Nat.zero_le _
 |x::l,m,aW,h=>by
  rw[jj] at aW
  have av:=h x (List.mem_cons_self ..)
  have aZ:l.length<=(m.erase x).length:=sh aW.2 λy bF=>(List.mem_erase_of_ne (show y≠x fromλe=>aW.1 (by rw[<-e];exact bF))).mpr (h y (List.mem_cons_of_mem _ bF))
  rw[List.length_erase_of_mem av] at aZ
  have:0<m.length:=List.length_pos_iff.mpr (List.ne_nil_of_mem av)
  simp only[fJ];exact aC.Yy aZ this
section
variable{dy:Type}[DecidableEq dy]{es:List (dy×J)}{k kj:dy}{v:J}
theorem E9:(es.any (λe=>decide (e.1=k))=true)↔k∈es.map (·.1):=by
 rw[List.any_eq_true]
 constructor
 .rintro⟨e,b1,h⟩;exact dI.mpr ⟨e,b1,of_decide_eq_true h⟩
 .intro h;obtain⟨e,b1,rfl⟩:=dI.mp h;exact⟨e,b1,decide_eq_true rfl⟩
theorem IA:(es.map (λe=>if e.1=k then(e.1,v) else e)).map (·.1)=es.map (·.1):=by
 rw[List.map_map]
 refine List.map_congr_left λe _=>?_
 simp only[Function.comp];split<;>rfl
theorem xv:kj∈(dA es k v).map (·.1)↔kj=k\/kj∈es.map (·.1):=by
 unfold dA
 split
 .rename_i h
  rw[IA]
  rw[E9] at h
  exact⟨.inr,λq=>q.elim (λe=>e▸h) id⟩
 .rw[iG,h7]
  simp only[iH,List.map_nil,fj,hP,or_false]
  exact⟨λq=>q.elim .inr .inl,λq=>q.elim .inr .inl⟩
theorem Jw(h:(es.map (·.1)).Nodup):((dA es k v).map (·.1)).Nodup:=by
 unfold dA
 split
 .rw[IA];exact h
 .rename_i q
  rw[E9] at q
  rw[iG,List.nodup_append]
  refine⟨h,by simp,?_⟩
  rintro a ha b ag rfl
  simp only[iH,List.map_nil,fj,hP,or_false] at ag
  exact q (ag▸ha)
theorem Je{e:dy×J}(h:e∈dA es k v):e=(k,v)\/e∈es:=by
 unfold dA at h
 split at h
 .obtain⟨a,ha,rfl⟩:=dI.mp h
  split
  .rename_i q;exact .inl (by rw[q])
  .exact .inr ha
 .rcases h7.mp h with h|h
  .exact .inr h
  .exact .inl (fB.mp h)
theorem qJ:(dA es k v).length<=es.length+1:=by
 unfold dA
 split<;>simp
theorem TS(h:d2 es k=some v):(k,v)∈es:=by
 unfold d2 at h
 obtain⟨e,b1,rfl⟩:=fS.mp h
 have:=List.find?_some b1
 rw[decide_eq_true_eq] at this
 rw[<-this]
 exact List.mem_of_find?_eq_some b1
theorem TU(h:k∈es.map (·.1)):∃v,d2 es k=some v:=by
 unfold d2
 cases e:es.find? (λe=>decide (e.1=k)) with
 |some a=>exact⟨_,rfl⟩
 |none=>
  rw[List.find?_eq_none] at e
  obtain⟨a,ha,rfl⟩:=dI.mp h
  exact absurd (decide_eq_true rfl) (e a ha)
structure Sane (T:dy->Option Int) (es:List (dy×J)):Prop where
 nd:(es.map (·.1)).Nodup
 ok:∀e∈es,∃i,T e.1=some i/\e.2=.int i
structure pY (T:dy->Option Int) (es:List (dy×J)):Prop extends Sane T es where
 all:∀k i,T k=some i->k∈es.map (·.1)
theorem Sane.nil{T:dy->Option Int}:Sane T ([]:List (dy×J)):=⟨List.nodup_nil,dJ _⟩
theorem Sane.dA{T:dy->Option Int}(h:Sane T es)(hk:T k=some i):Sane T (dA es k (.int i)):=
 ⟨Jw h.nd,λe b1=>(Je b1).elim (λq=>by subst q;exact⟨i,hk,rfl⟩) (h.ok e)⟩
theorem Sane.len{T:dy->Option Int}{dom:List dy}(h:Sane T es)(aB:∀k i,T k=some i->k∈dom):es.length<=dom.length:=by
 have:=sh h.nd (m:=dom) λx av=>by
  obtain⟨e,b1,rfl⟩:=dI.mp av
  obtain⟨i,hi,_⟩:=h.ok e b1
  exact aB _ _ hi
 simpa using this
theorem HU{T:dy->Option Int}{eZ:List (dy×J)}(h':pY T eZ):∀{es:List (dy×J)},(∀e∈es,∃i,T e.1=some i/\e.2=.int i)->mw eZ es=some true
 |[],_=>rfl
 |(k,v)::r,h=>by
  obtain⟨i,hi,a3⟩:=h (k,v) (List.mem_cons_self ..)
  dsimp only at hi a3
  subst a3
  obtain⟨y,bF⟩:=TU (h'.all k i hi)
  obtain⟨ai,cK,Ib⟩:=h'.ok _ (TS bF)
  dsimp only at cK Ib
  rw[hi] at cK;cases cK
  subst Ib
  have aZ:=HU h' (es:=r) λe b1=>h e (List.mem_cons_of_mem _ b1)
  rw[mw,bF]
  dsimp only
  rw[aZ,show c0 4 (.int i) (.int i)=some (i==i) from rfl,beq_self_eq_true]
  rfl
theorem F8{T:dy->Option Int}{eZ:List (dy×J)}(h:pY T es)(h':pY T eZ):jQ es eZ=some true:=by
 have le:∀{a b:List (dy×J)},pY T a->pY T b->a.length<=b.length:=λ{a b} ha ag=>by
  have:=ha.toSane.len (dom:=b.map (·.1)) ag.all
  simpa using this
 unfold jQ
 rw[if_pos (Nat.le_antisymm (le h h') (le h' h))]
 exact HU h' h.ok
end
noncomputable def gw(nm:bq):List (List bq×J)->Int->List UInt8->List (List bq×J)
 |oc,_,[]=>oc
 |oc,a,b::d=>gw nm (dA oc [nm,.int a] (.int b.toNat)) (a+1) d
theorem uS:∀{d:List UInt8} {oc:List (List bq×J)} {a:Int},k∈(gw nm oc a d).map (·.1)↔(∃i:Nat,i<d.length/\k=[nm,.int (a+i)])\/k∈oc.map (·.1)
 |[],oc,a=>⟨.inr,λh=>h.elim (λ⟨_,h,_⟩=>absurd h (Nat.not_lt_zero _)) id⟩
 |b::d,oc,a=>by
  rw[gw,uS,xv,fJ]
  constructor
  .rintro(⟨i,hi,rfl⟩|rfl|h)
   .exact .inl ⟨i+1,Nat.succ_lt_succ hi,by rw[Int.natCast_succ];congr 3;exact aC.Kd⟩
   .exact .inl ⟨0,Nat.zero_lt_succ _,by rw[show a+((0:Nat):Int)=a from Int.add_zero a]⟩
   .exact .inr h
  .rintro(⟨i,hi,rfl⟩|h)
   .cases i with
    |zero=>exact .inr (.inl (by rw[show a+((0:Nat):Int)=a from Int.add_zero a]))
    |succ i=>exact .inl ⟨i,Nat.lt_of_succ_lt_succ hi,by rw[Int.natCast_succ];congr 3;exact aC.Yz⟩
   .exact .inr (.inr h)
theorem CY:∀{d:List UInt8} {oc:List (List bq×J)} {a:Int},Sane T oc->(∀(i:Nat) b,d[i]? =some b->T [nm,.int (a+i)]=some (b.toNat:Int))->Sane T (gw nm oc a d)
 |[],oc,a,h,_=>h
 |b::d,oc,a,h,aB=>by
  rw[gw]
  have ah:=aB 0 b rfl
  rw[show a+((0:Nat):Int)=a from Int.add_zero a] at ah
  refine CY (h.dA ah) λi c hi=>?_
  have:=aB (i+1) c hi
  rw[<-this,Int.natCast_succ];congr 4;exact aC.Kd
theorem uT:∀{d:List UInt8} {oc:List (List bq×J)} {a:Int},(gw nm oc a d).length<=oc.length+d.length
 |[],oc,a=>bt _
 |b::d,oc,a=>by
  rw[gw]
  have h1:=uT (nm:=nm) (d:=d) (oc:=dA oc [nm,.int a] (.int b.toNat)) (a:=a+1)
  have h2:=qJ (es:=oc) (k:=[nm,.int a]) (v:=.int b.toNat)
  rw[fJ];exact aC.YA h1 h2
set_option genInjectivity true
theorem Ad(vs:List J)(σ:St):nN (.bp vs) (.bp []) σ=some (decide (vs=[])):=by
 cases vs<;>rfl
theorem r3(h:σ.cells c=some (.list vs))(ah:0<=i)(h1:i<2^63)(a3:vs[i.toNat]? =some v):gu (.ref c) (.int i) σ=some v:=by
 unfold gu gD gy ff
 dsimp only
 rw[h]
 dsimp only
 rw[Option.bind_some,ph,if_pos ⟨ah,h1⟩,a3]
theorem Iq(ah:0<=i)(h1:i<2^63)(a3:vs[i.toNat]? =some v):gu (.bp vs) (.int i) σ=some v:=by
 show ph vs i=_
 rw[ph,if_pos ⟨ah,h1⟩,a3]
theorem Kx(h:σ.cells c=some (.list vs))(ah:0<=i)(h1:i<2^63)(a3:i.toNat<vs.length):ko (.ref c) (.int i) v σ=some (σ.aT c (.list (vs.set i.toNat v))):=by
 unfold ko
 dsimp only
 rw[h]
 exact if_pos ⟨ah,h1,a3⟩
noncomputable abbrev sy(a b:Int)(eU:List Int):List J:=[.int a,.bp (eU.map J.int),.int b]
noncomputable def gC(σ:St)(p:Nat):Prop:=∃(a b:Int) (eU:List Int),σ.cells p=some (.list (sy a b eU))/\(0<=a/\a<2147483647)/\0<=b/\eU.length<=100
theorem YJ(h:σ.cells p=some (.list (sy a b eU)))(ag:0<=b)(qy:eU.length<=100)(aQ:∀q,Q (.int q) σ):
 (TE.eL (.boolOf (.af gk (.C 2) (.dE .ar))) (.ef v8 (.aa (.af a8 (.C 2) (.af hJ (.af a8 (.C 0) (.I (.int 2))) (.ef fq (.aa (.C 2) .ar)))) .ar)) (.I (.int 47))).p
   [some (.ref p),some m,some (.bp (eU.map J.int)),none] σ Q:=by
 refine yO (Ad _ _) ?_
 cases eU with
 |nil=>exact aQ 47
 |cons c r=>
  have a7:gu (.ref p) (.int 2) σ=some (.int b):=r3 h (by decide) (by decide) rfl
  refine ez a7 ?_
  have aG:((c::r).map J.int).length=(c::r).length:=dW ..
  refine j8 (p:=((c::r).map J.int).length<=1000000) (by rw[aG];exact aC.Kb qy) ?_
  have hp:0<(c::r).length:=Nat.zero_lt_succ _
  rw[aG]
  generalize e':((c::r).length:Int)=aV
  have rU:0<=b.fmod aV:=Int.fmod_nonneg_of_pos _ (by exact aC.Ke hp e')
  have qw:b.fmod aV<aV:=Int.fmod_lt_of_pos _ (by exact aC.Ke hp e')
  refine hQ (m:=hJ [.int b,.int aV] σ) (a:=.int (b.fmod aV)) (congrArg (Option.map λv=>(v,σ)) (if_pos (show aV≠0 by exact aC.YB rU qw))) ?_
  refine ez (v:=.int ((c::r)[(b.fmod aV).toNat]'(by exact aC.YC e' rU qw))) (Iq rU (by omega) ?_) (aQ _)
  rw[List.getElem?_map,hN];rfl
theorem vd(w:cG σ)(hp:gC σ p)(hm:0<m):a4 (g0 [.ref p,.int m] σ) λv s=>∃n,v=.int n/\(0<=n/\n<m)/\gC s p/\Keeps [p] σ s:=by
 obtain⟨a,b,eU,h,⟨ha,jS⟩,ag,qy⟩:=hp
 have dp:=w.lt h
 have a9:gu (.ref p) (.int 1) σ=some (.bp (eU.map J.int)):=r3 h (by decide) (by decide) rfl
 have a7:gu (.ref p) (.int 2) σ=some (.int b):=r3 h (by decide) (by decide) rfl
 have eX:ko (.ref p) (.int 2) (.int (b+1)) σ=some (σ.aT p (.list (sy a (b+1) eU))):=Kx h (by decide) (by decide) (gB 2)
 have mi:gu (.ref p) (.int 0) (σ.aT p (.list (sy a (b+1) eU)))=some (.int a):=r3 hK (by decide) (by decide) rfl
 refine Zd ?_
 refine ez a9 ?_
 refine YJ h ag qy λq=>?_
 refine ez a7 ?_
 refine jq eX ?_
 refine ez mi ?_
 refine hQ (m:=lR [.int a,.int 48271] _) (a:=.int (a*48271)) (congrArg (Option.map λv=>(v,_)) (if_pos (by omega))) ?_
 have Sz:0<=(a*48271+q.fmod 1000003+59).fmod 2147483647:=Int.fmod_nonneg_of_pos _ (by decide)
 have SA:(a*48271+q.fmod 1000003+59).fmod 2147483647<2147483647:=Int.fmod_lt_of_pos _ (by decide)
 refine jq (Kx hK (by decide) (by decide) (Nat.zero_lt_succ 2)) ?_
 refine ez (r3 hK (by decide) (by decide) rfl) ?_
 refine hQ (m:=hJ [.int _,.int m] _) (a:=.int (((a*48271+q.fmod 1000003+59).fmod 2147483647).fdiv 13|>.fmod m)) (congrArg (Option.map λv=>(v,_)) (if_pos (show m≠0 by exact aC.Vn hm))) ?_
 refine⟨_,rfl,⟨Int.fmod_nonneg_of_pos _ hm,Int.fmod_lt_of_pos _ hm⟩,⟨_,b+1,eU,(oW dp).trans hK,⟨Sz,SA⟩,by exact aC.Vo ag,qy⟩,?_⟩
 exact(((Keeps.refl w).aT (.inl (fB.mpr rfl)) dp).aT (.inl (fB.mpr rfl)) dp).cut
set_option genInjectivity false
structure f5 where
 fl:List (Str×List Fr)
 c1:List Fr
 to:List Fr
 oc:List (List bq×J)
 en:List (bq×J)
 al:jJ
structure h8 where
 w:Nat
 fl:Nat
 c1:Nat
 to:Nat
 oc:Nat
 en:Nat
 al:Nat
noncomputable def h8.all(c:h8):List Nat:=[c.w,c.fl,c.c1,c.to,c.oc,c.en,c.al]
noncomputable def q6(c:h8):List (bq×J):=[(.str "flying",.ref c.fl),(.str "came",.ref c.c1),(.str "told",.ref c.to),(.str "octets",.ref c.oc),(.str "ends",.ref c.en),(.str "alarms",.ref c.al)]
noncomputable abbrev kT(a:Str×List Fr):J:=.bo [.str a.1,dG a.2]
noncomputable def f5.cells(c:h8)(S:f5):List (Nat×df):=[(c.w,.cn (q6 c)),(c.fl,.list (S.fl.map kT)),(c.c1,.list (S.c1.map Fr.v)),(c.to,.list (S.to.map Fr.v)),(c.oc,.b8 S.oc),(c.en,.cn S.en),(c.al,.inst (some (.cD (fU S.al))))]
structure b' (σ:St) (c:h8) (S:f5):Prop where
 at_:∀p∈S.cells c,σ.cells p.1=some p.2
 nd:c.all.Nodup
theorem b'.sk(h:b' σ c S)(e:∀d∈c.all,s.cells d=σ.cells d):b' s c S:=
 ⟨λp hp=>(e p.1 (dI.mpr ⟨p,hp,rfl⟩)).trans (h.at_ p hp),h.nd⟩
theorem b'.set(h:b' σ c S)(hi:(c.all)[i]? =some d)(b1:cv.cells c=(S.cells c).set i (d,x)):b' (σ.aT d x) c cv:=by
 refine⟨λp hp=>?_,h.nd⟩
 rw[b1] at hp
 obtain⟨ai,cK,hp⟩:=List.mem_iff_getElem.mp hp
 rw[List.getElem_set] at hp
 obtain⟨adn,Sh⟩:=l5.mp hi
 split at hp
 .rw[<-hp];exact hK
 .rename_i fF
  rw[List.length_set] at cK
  have a9:(c.all)[ai]=p.1:=by rw[<-hp];exact List.getElem_map (f:=λp:Nat×df=>p.1) (l:=S.cells c) (i:=ai) (h:=cK)
  have:p.1≠d:=λq=>fF ((List.getElem_inj h.nd).mp (Sh.trans (q.symm.trans a9.symm)))
  rw[ck this]
  exact h.at_ p (by rw[<-hp];exact List.getElem_mem _)
section
variable{σ s:St}{c:h8}{S:f5}
theorem b'.w(h:b' σ c S):σ.cells c.w=some (.cn (q6 c)):=h.at_ _ (.head _)
theorem b'.fl(h:b' σ c S):σ.cells c.fl=some (.list (S.fl.map kT)):=h.at_ _ (.tail _ (.head _))
theorem b'.c1(h:b' σ c S):σ.cells c.c1=some (.list (S.c1.map Fr.v)):=h.at_ _ (.tail _ (.tail _ (.head _)))
theorem b'.to(h:b' σ c S):σ.cells c.to=some (.list (S.to.map Fr.v)):=h.at_ _ (.tail _ (.tail _ (.tail _ (.head _))))
theorem b'.oc(h:b' σ c S):σ.cells c.oc=some (.b8 S.oc):=h.at_ _ (.tail _ (.tail _ (.tail _ (.tail _ (.head _)))))
theorem b'.en(h:b' σ c S):σ.cells c.en=some (.cn S.en):=h.at_ _ (.tail _ (.tail _ (.tail _ (.tail _ (.tail _ (.head _))))))
theorem b'.al(h:b' σ c S):jk σ c.al S.al:=h.at_ _ (.tail _ (.tail _ (.tail _ (.tail _ (.tail _ (.tail _ (.head _)))))))
theorem b'.aaC(h:b' σ c S)(l:List (Str×List Fr)):b' (σ.aT c.fl (.list (l.map kT))) c {S with fl:=l}:=h.set (i:=1) rfl rfl
theorem b'.aaA(h:b' σ c S)(l:List Fr):b' (σ.aT c.c1 (.list (l.map Fr.v))) c {S with c1:=l}:=h.set (i:=2) rfl rfl
theorem b'.aaF(h:b' σ c S)(l:List Fr):b' (σ.aT c.to (.list (l.map Fr.v))) c {S with to:=l}:=h.set (i:=3) rfl rfl
theorem b'.aaE(h:b' σ c S)(l:List (List bq×J)):b' (σ.aT c.oc (.b8 l)) c {S with oc:=l}:=h.set (i:=4) rfl rfl
theorem b'.aaB(h:b' σ c S)(l:List (bq×J)):b' (σ.aT c.en (.cn l)) c {S with en:=l}:=h.set (i:=5) rfl rfl
theorem b'.gS(h:b' σ c S)(g:cB σ s):b' s c S:=h.sk λd _=>by rw[g.cells]
theorem b'.lt(w:cG σ)(h:b' σ c S):∀d∈c.all,d<σ.next:=λd aB=>by
 obtain⟨p,hp,rfl⟩:=dI.mp (show d∈(S.cells c).map (·.1) from aB)
 exact w.lt (h.at_ p hp)
theorem b'.keeps(h:b' σ c S)(w:cG σ)(k:Keeps l σ s)(aG:∀d∈c.all,d∉l):b' s c S:=h.sk λd aB=>k.old d (h.lt w d aB) (aG d aB)
theorem b'.cut(h:b' s c S)(aG:∀d∈c.all,d<n):b' (s.cut n) c S:=h.sk λd aB=>oW (aG d aB)
theorem b'.KR{al:jJ}(h:b' σ c S)(w:cG σ)(k:Keeps [c.al] σ s)(ha:jk s c.al al):b' s c {S with al:=al}:=by
 have h1:b' (σ.aT c.al (.inst (some (.cD (fU al))))) c {S with al:=al}:=h.set (i:=6) rfl rfl
 refine h1.sk λd aB=>?_
 by_cases e:d=c.al
 .subst e;exact ha.trans hK.symm
 .rw[ck e];exact k.old d (h.lt w d aB) λq=>e (fB.mp q)
theorem h8.xN:c.w∈c.all:=.head _
theorem h8.Cn:c.fl∈c.all:=.tail _ (.head _)
theorem h8.I9:c.c1∈c.all:=.tail _ (.tail _ (.head _))
theorem h8.Co:c.to∈c.all:=.tail _ (.tail _ (.tail _ (.head _)))
theorem h8.Ja:c.oc∈c.all:=.tail _ (.tail _ (.tail _ (.tail _ (.head _))))
theorem h8.I':c.en∈c.all:=.tail _ (.tail _ (.tail _ (.tail _ (.tail _ (.head _)))))
theorem h8.xM:c.al∈c.all:=.tail _ (.tail _ (.tail _ (.tail _ (.tail _ (.tail _ (.head _))))))
theorem b'.item(h:b' σ c S)(e:d2 (q6 c) (.str k)=some v):gu (.ref c.w) (.str k) σ=some v:=by
 unfold gu gD
 dsimp only
 rw[h.w];exact e
theorem b'.uc(h:b' σ c S):gu (.ref c.w) (.str "flying") σ=some (.ref c.fl):=h.item rfl
theorem b'.BR(h:b' σ c S):gu (.ref c.w) (.str "came") σ=some (.ref c.c1):=h.item rfl
theorem b'.Ig(h:b' σ c S):gu (.ref c.w) (.str "told") σ=some (.ref c.to):=h.item rfl
theorem b'.Ie(h:b' σ c S):gu (.ref c.w) (.str "octets") σ=some (.ref c.oc):=h.item rfl
theorem b'.Ic(h:b' σ c S):gu (.ref c.w) (.str "ends") σ=some (.ref c.en):=h.item rfl
theorem b'.ub(h:b' σ c S):gu (.ref c.w) (.str "alarms") σ=some (.ref c.al):=h.item rfl
end
noncomputable def gP(S:f5):Fr->f5
 |.st de bJ d cH=>{S with oc:=gw (.int de) S.oc bJ d,en:=if cH=true then dA S.en (.int de) (.int (bJ+d.length)) else S.en}
 |.ek bJ d=>{S with oc:=gw (.str "crypto") S.oc bJ d}
 |f=>{S with c1:=S.c1++[f]}
noncomputable def gQ(S:f5)(fs:List Fr):f5:=fs.foldl gP S
structure tu (S:f5) (n:Nat):Prop where
 oc:S.oc.length+64*n<=900000
 en:S.en.length+n<=900000
 c1:S.c1.length+n<=900000
theorem JL(hs:∀s,d1 src s=some items)(w:cG σ)(h:b' σ c S)(aG:S.oc.length+d.length<=1000000)
 (q:∀fA d5 u,b' u c {S with oc:=gw a S.oc bJ d}->Keeps c.all σ u->Q .next [some (.ref c.w),gd,d4,some a.v,some (.int bJ),fh,fA,d5] u):
 dw (mF src items (dX [6,7]) yt.d 0 (d.map λb=>J.int b.toNat) [some (.ref c.w),gd,d4,some a.v,some (.int bJ),fh,fi,h6] σ) Q:=by
 refine Cj (enc:=λb:UInt8=>J.int b.toNat) (A:=yt) (λi r l s=>rq λoc fA d5=>l=[some (.ref c.w),gd,d4,some a.v,some (.int bJ),fh,fA,d5]/\b' s c {S with oc:=oc}/\Keeps c.all σ s/\oc.length+r.length<=1000000/\gw a oc (bJ+i) r=gw a S.oc bJ d) (λ_ _ _ _ _=>hs _) ?_ ?_
  ⟨S.oc,fi,h6,rfl,h,Keeps.refl w,aG,by rw[show bJ+((0:Nat):Int)=bJ from Int.add_zero bJ]⟩
 .rintro i b r _ s ⟨oc,fA,d5,rfl,h1,dd,qt,e⟩
  rw[fJ] at qt
  rw[gw] at e
  have hk:=qJ (es:=oc) (k:=[a,.int (bJ+i)]) (v:=.int b.toNat)
  refine⟨_,rfl,?_⟩
  refine ez h1.Ie ?_
  refine jq (Kw (a:=a) h1.oc (by show oc.length<=_;exact aC.JN qt)) ⟨_,_,_,rfl,h1.aaE _,dd.aT (.inl c.Ja) (h1.lt dd.wf _ c.Ja),cm (Nat.add_le_add_right hk _) (by exact aC.JO qt),?_⟩
  rw[Int.natCast_succ,<-Int.add_assoc];exact e
 .rintro i _ u ⟨oc,fA,d5,rfl,h1,dd,_,e⟩
  have c2:oc=gw a S.oc bJ d:=e
  subst c2
  exact q _ _ _ h1 dd
theorem acB(w:cG σ)(h:b' σ c S)(aH:f.ok)(hm:tu S (n+1))
 (q:∀kC q8 jE fA d5 u,b' u c (gP S f)->Keeps c.all σ u->tu (gP S f) n->Q .next [some (.ref c.w),gd,some f.v,kC,q8,jE,fA,d5] u):
 vh.p [some (.ref c.w),gd,some f.v,eg,fz,fh,fi,h6] σ Q:=by
 obtain⟨eM,fW,uz⟩:=hm
 have Cx:f.data=none->vh.p [some (.ref c.w),gd,some f.v,eg,fz,fh,fi,h6] σ Q:=λaB=>by
  have aw:gP S f={S with c1:=S.c1++[f]}:=by cases f<;>first|rfl|cases aB
  rw[aw] at q
  refine ez f.r2 ?_
  refine f9 (by cases f<;>first|rfl|cases aB) ?_
  refine ez h.BR ?_
  have h2:=h.aaA (S.c1++[f])
  rw[iG] at h2
  refine sv h.c1 (by rw[dW];exact aC.CM uz) (q _ _ _ _ _ _ h2 ((Keeps.refl w).aT (.inl c.I9) (h.lt w _ c.I9)) ⟨by show S.oc.length+_<=_;exact aC.JP eM,by show S.en.length+_<=_;exact aC.pn fW,?_⟩)
  show(S.c1++[f]).length+_<=_
  rw[gn];exact(by exact aC.CN uz:S.c1.length+1+n<=900000)
 cases f with
 |st de bJ d cH=>
  have kg:d.length<64:=Fr.rD (f:=.st de bJ d cH) rfl aH
  have pj:=uT (nm:=.int de) (d:=d) (oc:=S.oc) (a:=bJ)
  refine dz rfl ⟨.inr ⟨_,rfl⟩,?_⟩
  refine JL (c:=c) (a:=.int de) (λ_=>rfl) w h (by exact aC.xX eM kg) λfA d5 u h1 dd=>?_
  cases cH with
  |false=>exact q _ _ _ _ _ _ h1 dd ⟨by show(gw _ _ _ _).length+_<=_;exact aC.uK eM kg pj,by show S.en.length+_<=_;exact aC.pn fW,by show S.c1.length+_<=_;exact aC.pn uz⟩
  |true=>
   refine j8 (p:=d.length<=1000000) (by exact aC.qW kg) ?_
   refine ez h1.Ic ?_
   have hk:=qJ (es:=S.en) (k:=.int de) (v:=.int (bJ+d.length))
   refine jq (x8 (a:=.int de) h1.en (by show S.en.length<=_;exact aC.CM fW)) (q _ _ _ _ _ _ (h1.aaB _) (dd.aT (.inl c.I') (h1.lt dd.wf _ c.I')) ⟨by show(gw _ _ _ _).length+_<=_;exact aC.uK eM kg pj,cm (Nat.add_le_add_right hk _) (by exact aC.CN fW),by show S.c1.length+_<=_;exact aC.pn uz⟩)
 |ek bJ d=>
  have kg:d.length<64:=Fr.rD (f:=.ek bJ d) rfl aH
  have pj:=uT (nm:=.str "crypto") (d:=d) (oc:=S.oc) (a:=bJ)
  refine dz rfl ⟨.inr ⟨_,rfl⟩,?_⟩
  refine JL (c:=c) (a:=.str "crypto") (λ_=>rfl) w h (by exact aC.xX eM kg) λfA d5 u h1 dd=>?_
  exact q _ _ _ _ _ _ h1 dd ⟨by show(gw _ _ _ _).length+_<=_;exact aC.uK eM kg pj,by show S.en.length+_<=_;exact aC.pn fW,by show S.c1.length+_<=_;exact aC.pn uz⟩
 |_=>exact Cx rfl
theorem DC(w:cG σ)(h:b' σ c S)(aH:∀f∈fs,f.ok)(hm:tu S fs.length):a4 (ma [.ref c.w,dG fs] σ) λv s=>v=.none/\b' s c (gQ S fs)/\Keeps c.all σ s:=by
 refine Zc ?_
 obtain⟨T,hT⟩:∃T,gQ S fs=T:=⟨_,rfl⟩
 rw[hT]
 refine dz rfl ?_
 refine kk (src:=dG fs) (enc:=Fr.v) (A:=vh) (λr l s=>MI λcv d4 eg fz fh fi h6=>l=[some (.ref c.w),some (dG fs),d4,eg,fz,fh,fi,h6]/\b' s c cv/\Keeps c.all σ s/\(∀f∈r,f.ok)/\tu cv r.length/\gQ cv r=T) (λ_ _ _ _=>rfl) ?_ ?_
  ⟨S,_,_,_,_,_,_,rfl,h,Keeps.refl w,aH,hm,hT⟩
 .rintro f r _ s ⟨cv,d4,eg,fz,fh,fi,h6,rfl,h1,dd,kY,eM,e⟩
  obtain⟨hf,kY⟩:=bO.mp kY
  refine⟨_,rfl,?_⟩
  refine acB dd.wf h1 hf eM λkC q8 jE fA d5 u h2 gv fW=>⟨_,_,_,_,_,_,_,rfl,h2,dd.trans gv,kY,fW,e⟩
 .rintro _ u ⟨cv,d4,eg,fz,fh,fi,h6,rfl,h1,dd,_,_,e⟩
  have c2:cv=T:=e
  subst c2
  exact⟨rfl,h1.cut (h.lt w),dd.cut⟩
noncomputable abbrev vQ:=List (List bq×J)×List (bq×J)
noncomputable def mY(x:vQ):Fr->vQ
 |.st de _ d _=>(gw (.int de) x.1 0 d,dA x.2 (.int de) (.int d.length))
 |.ek _ d=>(gw (.str "crypto") x.1 0 d,x.2)
 |_=>x
structure lh (σ s:St) (x:vQ):Prop where
 a:s.cells σ.next=some (.b8 x.1)
 b:s.cells (σ.next+1)=some (.cn x.2)
 k:Keeps [] σ s
theorem lh.aau(h:lh σ s x)(t:List (List bq×J)):lh σ (s.aT σ.next (.b8 t)) (t,x.2):=
 ⟨hK,(ck (Nat.succ_ne_self _)).trans h.b,h.k.aT (.inr (bt _)) (h.k.wf.lt h.a)⟩
theorem lh.aay(h:lh σ s x)(t:List (bq×J)):lh σ (s.aT (σ.next+1) (.cn t)) (x.1,t):=
 ⟨(ck (Nat.succ_ne_self _).symm).trans h.a,hK,h.k.aT (.inr (gp _)) (h.k.wf.lt h.b)⟩
theorem Gg(hs:∀s,d1 src s=some items)(h:lh σ s x)(aG:x.1.length+d.length<=1000000)
 (q:∀d5 jF u,lh σ u (gw a x.1 0 d,x.2)->Q .next [e5,gd,some (.ref σ.next),eg,fz,some a.v,fi,d5,jF] u):
 dw (mF src items (dX [7,8]) yw.d 0 (d.map λb=>J.int b.toNat) [e5,gd,some (.ref σ.next),eg,fz,some a.v,fi,h6,hM] s) Q:=by
 refine Cj (enc:=λb:UInt8=>J.int b.toNat) (A:=yw) (λi r l s=>rq λoc d5 jF=>l=[e5,gd,some (.ref σ.next),eg,fz,some a.v,fi,d5,jF]/\lh σ s (oc,x.2)/\oc.length+r.length<=1000000/\gw a oc i r=gw a x.1 0 d) (λ_ _ _ _ _=>hs _) ?_ ?_
  ⟨x.1,h6,hM,rfl,h,aG,rfl⟩
 .rintro i b r _ s ⟨oc,d5,jF,rfl,h1,qt,e⟩
  rw[fJ] at qt
  rw[gw] at e
  have hk:=qJ (es:=oc) (k:=[a,.int i]) (v:=.int b.toNat)
  exact⟨_,rfl,jq (Kw (a:=a) h1.a (by dsimp only;exact aC.JN qt)) ⟨_,_,_,rfl,h1.aau _,cm (Nat.add_le_add_right hk _) (by exact aC.JO qt),e⟩⟩
 .rintro i _ u ⟨oc,d5,jF,rfl,h1,_,e⟩
  have c2:oc=gw a x.1 0 d:=e
  subst c2
  exact q _ _ _ h1
structure yR (x:vQ) (n:Nat):Prop where
 oc:x.1.length+64*n<=900000
 en:x.2.length+n<=900000
theorem acS(h:lh σ s x)(aH:f.ok)(m:yR x (n+1))
 (q:∀jE fA d5 jF u,lh σ u (mY x f)->yR (mY x f) n->Q .next [e5,gd,some (.ref σ.next),some (.ref (σ.next+1)),some f.v,jE,fA,d5,jF] u):
 vi.p [e5,gd,some (.ref σ.next),some (.ref (σ.next+1)),some f.v,fh,fi,h6,hM] s Q:=by
 obtain⟨eM,fW⟩:=m
 have Cx:f.data=none->vi.p [e5,gd,some (.ref σ.next),some (.ref (σ.next+1)),some f.v,fh,fi,h6,hM] s Q:=λaB=>by
  have aw:mY x f=x:=by cases f<;>first|rfl|cases aB
  rw[aw] at q
  refine ez f.r2 ?_
  exact f9 (by cases f<;>first|rfl|cases aB) (q _ _ _ _ _ h ⟨by exact aC.JP eM,by exact aC.pn fW⟩)
 cases f with
 |st de bJ d cH=>
  have kg:d.length<64:=Fr.rD (f:=.st de bJ d cH) rfl aH
  have pj:=uT (nm:=.int de) (d:=d) (oc:=x.1) (a:=0)
  refine dz rfl ⟨.inr ⟨_,rfl⟩,?_⟩
  refine Gg (a:=.int de) (λ_=>rfl) h (by exact aC.xX eM kg) λd5 jF u h1=>?_
  refine j8 (p:=d.length<=1000000) (by exact aC.qW kg) ?_
  have hk:=qJ (es:=x.2) (k:=.int de) (v:=.int d.length)
  exact jq (x8 (a:=.int de) h1.b (by dsimp only;exact aC.CM fW)) (q _ _ _ _ _ (h1.aay _) ⟨by show(gw _ _ _ _).length+_<=_;exact aC.uK eM kg pj,cm (Nat.add_le_add_right hk _) (by exact aC.CN fW)⟩)
 |ek bJ d=>
  have kg:d.length<64:=Fr.rD (f:=.ek bJ d) rfl aH
  have pj:=uT (nm:=.str "crypto") (d:=d) (oc:=x.1) (a:=0)
  refine dz rfl ⟨.inr ⟨_,rfl⟩,?_⟩
  exact Gg (a:=.str "crypto") (λ_=>rfl) h (by exact aC.xX eM kg) λd5 jF u h1=>q _ _ _ _ _ h1 ⟨by show(gw _ _ _ _).length+_<=_;exact aC.uK eM kg pj,by show x.2.length+_<=_;exact aC.pn fW⟩
 |_=>exact Cx rfl
theorem eq_td(h:σ.cells c=some (.b8 x))(h':σ.cells d=some (.b8 y)):nN (.ref c) (.ref d) σ=jQ x y:=by
 unfold nN gD gy
 dsimp only
 rw[h,h']
theorem eq_ad(h:σ.cells c=some (.cn x))(h':σ.cells d=some (.cn y)):nN (.ref c) (.ref d) σ=jQ x y:=by
 unfold nN gD
 dsimp only
 rw[h,h']
theorem acT(w:cG σ)(h:b' σ c S)(aH:∀f∈fs,f.ok)(hm:fs.length<=1000)(h1:jQ S.oc (fs.foldl mY ([],[])).1=some true)(h2:jQ S.en (fs.foldl mY ([],[])).2=some true):
 a4 (s6 [.ref c.w,dG fs] σ) λv s=>v=.bool true/\cB σ s:=by
 refine Zg ?_
 obtain⟨T,hT⟩:∃T,fs.foldl mY ([],[])=T:=⟨_,rfl⟩
 rw[hT] at h1 h2
 refine dz rfl ?_
 refine kk (src:=dG fs) (enc:=Fr.v) (A:=vi) (λr l s=>E2 λx fz fh fi h6 hM=>l=[some (.ref c.w),some (dG fs),some (.ref σ.next),some (.ref (σ.next+1)),fz,fh,fi,h6,hM]/\lh σ s x/\(∀f∈r,f.ok)/\yR x r.length/\r.foldl mY x=T) (λ_ _ _ _=>rfl) ?_ ?_
  ⟨([],[]),_,_,_,_,_,rfl,⟨(ig (d9 (gB _))).trans iA,iA,(Keeps.refl w).new.new⟩,aH,⟨by rw[hO];exact aC.Vq hm,by rw[hO];exact aC.Vr hm⟩,hT⟩
 .rintro f r _ s ⟨x,fz,fh,fi,h6,hM,rfl,g,kY,eM,e⟩
  obtain⟨hf,kY⟩:=bO.mp kY
  exact⟨_,rfl,acS g hf eM λjE fA d5 jF u h2 fW=>⟨_,_,_,_,_,_,rfl,h2,kY,fW,e⟩⟩
 .rintro _ u ⟨x,fz,fh,fi,h6,hM,rfl,g,_,_,e⟩
  have c2:x=T:=e
  subst c2
  have hw:b' u c S:=h.keeps w g.k λ_ _=>hP
  refine ez hw.Ie ?_
  refine vW ((eq_td hw.oc g.a).trans h1) ?_
  refine ez hw.Ic ?_
  exact vW ((eq_ad hw.en g.b).trans h2) ⟨rfl,g.k.done w⟩
theorem Jd:∀{p:List Nat} {i:Nat},Cq p i=true->i∈p
 |[],_,h=>nomatch h
 |a::r,i,h=>(Bool.or_eq_true_iff.mp h).elim (λe=>by rw[Nat.eq_of_beq_eq_true e];exact .head _) λe=>.tail _ (Jd e)
theorem E8:∀{n:Nat},zc p n=true->∀i,i<n->i∈p
 |0,_,i,h=>absurd h (Nat.not_lt_zero _)
 |n+1,e,i,h=>by
  obtain⟨a9,a7⟩:=l4.mp e
  rcases Nat.lt_succ_iff_lt_or_eq.mp h with h|rfl
  .exact E8 a7 i h
  .exact Jd a9
theorem Kp{α:Type}[DecidableEq α]:∀{l m:List α},l.Nodup->(∀x∈l,x∈m)->m.length=l.length->l.Perm m
 |[],m,_,_,h=>by rw[hO,List.length_eq_zero_iff] at h;subst h;exact .nil
 |x::l,m,nd,hs,h=>by
  obtain⟨h1,nd⟩:=jj.mp nd
  obtain⟨av,hs⟩:=bO.mp hs
  refine .trans (.cons x (Kp nd (λy bF=>(List.mem_erase_of_ne (show y≠x fromλe=>h1 (by rw[<-e];exact bF))).mpr (hs y bF)) ?_)) (List.perm_cons_erase av).symm
  rw[List.length_erase_of_mem av,h];rfl
theorem aaQ(dc:n<=6):(List.range n).Perm (kr lt n):=by
 have aG:=K1 (lt:=lt) dc
 refine Kp List.nodup_range (λi hi=>?_) (by rw[aG,List.length_range])
 rw[List.mem_range] at hi
 unfold kr
 split
 .exact List.mem_range.mpr hi
 .rename_i h
  obtain⟨l',h1,_⟩:=yb (lt:=lt) _ _ (wk (by exact aC.sm h) dc) (λx av=>nomatch av)
  exact E8 (l4.mp (l4.mp h1).1).2 i hi
theorem aaT{vs:List J}(dc:vs.length<=6):vs.Perm (oy lt vs):=by
 have:=(aaQ (lt:=lt) dc).map λi=>vs.getD i J.none
 rwa [Jc] at this
theorem Tw(h:∀v∈vs,∃i,v=J.int i):∃l,ib vs=some l:=by
 induction vs with
 |nil=>exact⟨[],rfl⟩
 |cons v vs aZ=>
  obtain⟨⟨i,rfl⟩,h'⟩:=bO.mp h
  obtain⟨l,e⟩:=aZ h'
  exact⟨i::l,congrArg (Option.map λl=>i::l) e⟩
noncomputable def Fr.key(f:Fr):List bq:=[.str f.iy,f.K9]
theorem Y4{f:Fr}(h:σ.cells c=some (.b8 es))(aG:es.length<=1000000):ko (.ref c) f.Dl v σ=some (σ.aT c (.b8 (dA es f.key v))):=by
 unfold ko
 dsimp only
 rw[h]
 cases f<;>exact if_pos aG
structure rk (fs ns:List Fr):Prop where
 nd:(ns.map Fr.key).Nodup
 sub:∀f∈ns,f∈fs
 all:∀f∈fs,f.key∈ns.map Fr.key
noncomputable def oq(fs:List Fr)(v:J):Fr:=match v with
 |.int p=>fs.getD p.toNat .gK
 |_=>.gK
structure p1 (fs:List Fr) (i:Nat) (es:List (List bq×J)):Prop where
 nd:(es.map (·.1)).Nodup
 ok:∀e∈es,∃(p:Nat) (f:Fr),e.2=.int p/\fs[p]? =some f/\e.1=f.key
 all:∀ai f,ai<i->fs[ai]? =some f->f.key∈es.map (·.1)
theorem p1.step(h:p1 fs i es)(hf:fs[i]? =some f):p1 fs (i+1) (dA es f.key (.int i)) where
 nd:=Jw h.nd
 ok e b1:=(Je b1).elim (λq=>⟨i,f,by rw[q],hf,by rw[q]⟩) (h.ok e)
 all ai g cK aU:=by
  rw[xv]
  rcases Nat.lt_succ_iff_lt_or_eq.mp cK with cK|rfl
  .exact .inr (h.all ai g cK aU)
  .rw[hf] at aU;cases aU;exact .inl rfl
theorem p1.done(h:p1 fs fs.length es)(hp:(es.map (·.2)).Perm vs):rk fs (vs.map (oq fs)):=by
 have a9:∀e∈es,(oq fs e.2).key=e.1/\oq fs e.2∈fs:=by
  intro e b1
  obtain⟨p,f,a,b,c⟩:=h.ok e b1
  have:oq fs e.2=f:=by
   rw[a];show fs.getD p .gK=f
   rw[mN,b];rfl
  rw[this];exact⟨c.symm,List.mem_of_getElem? b⟩
 have a7:(es.map (·.1)).Perm ((vs.map (oq fs)).map Fr.key):=by
  have q:=(hp.map (oq fs)).map Fr.key
  rw[List.map_map,List.map_map] at q
  have e3:es.map ((Fr.key∘oq fs)∘λx=>x.2)=es.map (·.1):=List.map_congr_left λe b1=>(a9 e b1).1
  rwa [e3] at q
 refine⟨a7.nodup_iff.mp h.nd,λf hf=>?_,λf hf=>?_⟩
 .obtain⟨v,a3,rfl⟩:=dI.mp hf
  obtain⟨e,b1,rfl⟩:=dI.mp (hp.mem_iff.mpr a3)
  exact(a9 e b1).2
 .obtain⟨ai,cK,rfl⟩:=List.mem_iff_getElem.mp hf
  exact a7.mem_iff.mp (h.all ai _ cK (hN cK))
theorem u5(h:σ.cells c=some (.b8 es)):gy (.ref c) σ=some es:=by
 unfold gy;dsimp only;rw[h]
theorem acN{c:Nat}{K:List (List bq)}(w:cG σ)(aw:σ.cells c=some (.list (fs.map Fr.v)))(aW:fs.length<=900)(o9:∀f∈fs,f.key∈K)(dc:K.length<=6):
 a4 (th [.ref c] σ) λv s=>∃ns,v=dG ns/\rk fs ns/\cB σ s:=by
 have dp:=w.lt aw
 refine Zu ?_
 have at_:∀{s},Keeps [] σ s->s.cells c=some (.list (fs.map Fr.v)):=λk=>(k.old c dp hP).trans aw
 have lM:Keeps [] σ (σ.new (.b8 [])):=(Keeps.refl w).new
 have ug:∀{s},Keeps [] σ s->d1 (.ref c) s=some (fs.map Fr.v):=λk=>by
  unfold d1;dsimp only;rw[at_ k]
 refine dz (ug lM) ⟨.inl (by rw[uw (at_ lM)];rfl),?_⟩
 refine Cj (enc:=Fr.v) (xs:=fs) (A:=D') (λi r l s=>rq λes oG kC=>l=[some (.ref c),some (.ref σ.next),oG,kC]/\s.cells σ.next=some (.b8 es)/\Keeps [] σ s/\r=fs.drop i/\es.length<=i/\p1 fs i es) (λi r l s h=>by obtain⟨_,_,_,_,_,k,_⟩:=h;exact ug k) ?_ ?_
  ⟨[],_,_,rfl,iA,lM,rfl,bt _,⟨List.nodup_nil,dJ _,λ_ _ h=>absurd h (Nat.not_lt_zero _)⟩⟩
 .rintro i f r _ s ⟨es,oG,kC,rfl,h1,dd,aI,aG,ok⟩
  have hi:i<fs.length:=by
   refine eP λq=>?_
   rw[List.drop_eq_nil_of_le q] at aI;cases aI
  rw[List.drop_eq_getElem_cons hi] at aI
  obtain⟨rfl,rfl⟩:=List.cons.inj aI
  refine⟨_,rfl,?_⟩
  refine(L1 fs[i] dd.wf).fH λu g=>?_
  have h2:u.cells σ.next=some (.b8 es):=by rw[g.cells];exact h1
  have hk:=qJ (es:=es) (k:=(fs[i]).key) (v:=.int i)
  have gv:=dd.gS g
  exact jq (Y4 h2 (by exact aC.Vs aW aG hi)) ⟨_,_,_,rfl,hK,gv.aT (.inr (bt _)) (gv.wf.lt h2),rfl,by exact aC.Vt aG hk,ok.step (hN hi)⟩
 .rintro i _ s ⟨es,oG,kC,rfl,h1,dd,aI,_,ok⟩
  have hi:fs.length<=i:=List.drop_eq_nil_iff.mp aI.symm
  have Vi:p1 fs fs.length es:=⟨ok.nd,ok.ok,λai f cK=>ok.all ai f (jH cK hi)⟩
  have n0:es.length<=6:=by
   have:=sh ok.nd (m:=K) λk hk=>by
    obtain⟨e,b1,rfl⟩:=dI.mp hk
    obtain⟨p,f,_,b,c⟩:=ok.ok e b1
    rw[c];exact o9 f (List.mem_of_getElem? b)
   rw[dW] at this;exact aC.Vu dc this
  obtain⟨l,aG⟩:=Tw (vs:=es.map (·.2)) λv a3=>by
   obtain⟨e,b1,rfl⟩:=dI.mp a3
   obtain⟨p,f,a,_⟩:=ok.ok e b1
   exact⟨p,a⟩
  have ot:=aaT (lt:=se l) (vs:=es.map (·.2)) (by rw[dW];exact n0)
  have dm:=ot.length_eq
  rw[dW] at dm
  refine⟨es,l,u5 h1,aG,n0,?_⟩
  generalize oy (se l) (es.map (·.2))=vs at ot dm
  refine dz rfl ?_
  refine F0 (List.map_id vs).symm ?_
  refine me (src:=.bp vs) (xs:=vs) (enc:=id) (λU t=>(∃z,U=[z,some (.ref c)])/\Keeps [] σ t) (λ_=>true) (λv u=>u=(oq fs v).v) (λ_ _ _=>rfl) ?_ ⟨⟨_,rfl⟩,dd⟩ (by rw[hO];exact aC.Vv n0 dm) ?_
  .rintro v a3 _ t ⟨⟨z,rfl⟩,k⟩
   obtain⟨e,b1,rfl⟩:=dI.mp (ot.mem_iff.mpr a3)
   obtain⟨p,f,a,b,_⟩:=ok.ok e b1
   rw[a]
   have hp:p<fs.length:=(l5.mp b).1
   refine⟨_,rfl,rfl,?_⟩
   refine ez (v:=f.v) (r3 (at_ k) (Int.natCast_nonneg _) (by omega) ?_) ⟨?_,⟨_,rfl⟩,k⟩
   .rw[List.getElem?_map];show(fs[p]?).map _=_;rw[b];rfl
   .show f.v=(fs.getD p .gK).v
    rw[mN,b];rfl
  .rintro cI _ t a ⟨_,k⟩
   rw[List.filter_eq_self.mpr (λ_ _=>rfl)] at a
   refine⟨vs.map (oq fs),?_,Vi.done ot,k.done w⟩
   rw[nI a]
   show J.bp ([]++_)=J.bp _
   rw[List.map_map];rfl
set_option genInjectivity true
noncomputable def r':List (List bq×J):=[([.str "max_data",.none],.int 33)]
noncomputable def rF:Bool->List (List bq×J)
 |true=>[([.str "stop_sending",.int 4],.bool true)]
 |false=>[]
noncomputable def rz:Bool->List (List bq×J)
 |true=>[([.str "data_blocked",.none],.int 9)]
 |false=>[]
noncomputable def iD(dn bl:Bool):Fr->Option Fr
 |.dT _=>some (.dT 33)
 |.fX=>if dn=true then none else some .fX
 |.eu=>if bl=true then some .eu else none
 |.di n=>some (.di n)
 |_=>none
theorem E3(h:σ.cells c=some (.b8 es)):gD (.ref c) σ=none:=by
 unfold gD;dsimp only;rw[h]
theorem Ii(h:σ.cells c=some (.b8 es))(hk:toKey v=some k):m8 v (.ref c) σ=some (d2 es k).isSome:=by
 unfold m8
 rw[E3 h,u5 h]
 dsimp only
 rw[hk];rfl
theorem TC(h:σ.cells c=some (.b8 es))(hk:toKey v=some k)(av:d2 es k=some x):gu (.ref c) v σ=some x:=by
 unfold gu
 rw[E3 h,u5 h]
 dsimp only
 rw[hk];exact av
theorem RB(h:σ.cells c=some (.b8 es))(hk:toKey v=some k)(av:d2 es k=some x)(q:Q x σ):dD (uh (.ref c) σ) (a4 (w3 [.ref c,v,d] σ) Q) False:=by
 refine gO (by unfold uh;rw[u5 h];rfl) ⟨x,σ,?_,q⟩
 show(gy (.ref c) σ).bind _=_
 rw[u5 h,Option.bind_some,hk]
 show some ((d2 es k).getD d,σ)=_
 rw[av];rfl
theorem Fr.toKey(f:Fr):toKey f.Dl=some f.key:=by cases f<;>rfl
theorem aa8(w:cG s)(h1:s.cells gd=some (.b8 r'))(h2:s.cells d4=some (.b8 (rz bl)))(aR:s.cells eg=some (.b8 (rF dn)))(aw:s.cells c=some (.list vs))(aG:vs.length<=1000000)
 (q:∀fA d5 u,(cB s u/\iD dn bl f=none)\/(∃g t,cB s t/\u=t.aT c (.list (vs++[g.v]))/\iD dn bl f=some g)->∀fl,fl=.next\/fl=.cont->Q fl [some (.ref e5),some (.ref gd),some (.ref d4),some (.ref eg),some (.ref c),some f.v,fA,d5] u):
 yz.p [some (.ref e5),some (.ref gd),some (.ref d4),some (.ref eg),some (.ref c),some f.v,fi,h6] s Q:=by
 refine ez f.r2 ?_
 refine(L3 f w).fH λk8 g1=>?_
 refine(L1 f (g1.wf w)).fH λt g2=>?_
 have g:=g1.trans g2
 rw[<-g.cells] at h1 h2 aR aw
 have no:iD dn bl f=none->∀fA d5 fl,fl=.next\/fl=.cont->Q fl [some (.ref e5),some (.ref gd),some (.ref d4),some (.ref eg),some (.ref c),some f.v,fA,d5] t:=λe fA d5=>q fA d5 t (.inl ⟨g,e⟩)
 have DG:∀hH,iD dn bl f=some hH->∀fA d5,aJ (fo [.ref c,hH.v] t) λ_ u=>Q .next [some (.ref e5),some (.ref gd),some (.ref d4),some (.ref eg),some (.ref c),some f.v,fA,d5] u:=
  λhH e fA d5=>vV aw aG (q _ _ _ (.inr ⟨hH,t,g,rfl,e⟩) _ (.inl rfl))
 have yes:∀hH,iD dn bl f=some hH->∀fA d5,dD (d6 (.ref c) t) (aJ (fo [.ref c,hH.v] t) λ_ u=>Q .next [some (.ref e5),some (.ref gd),some (.ref d4),some (.ref eg),some (.ref c),some f.v,fA,d5] u) False:=
  λhH e fA d5=>gO (n7 aw) (DG hH e fA d5)
 refine rj (Ii aR f.toKey) ?_
 cases f with
 |dT n=>
  refine f9 (by cases dn<;>rfl) ?_
  refine gO (n7 aw) ?_
  refine RB (x:=.int 33) h1 (Fr.toKey (.dT n)) rfl ?_
  exact DG (.dT 33) rfl _ _
 |fX=>
  cases dn with
  |true=>exact no rfl _ _ _ (.inr rfl)
  |false=>exact yes .fX rfl _ _
 |eu=>
  refine f9 (by cases dn<;>rfl) ?_
  refine rj (Ii h2 (Fr.toKey .eu)) ?_
  cases bl with
  |true=>
   refine gO (n7 aw) ?_
   refine ez (TC (x:=.int 9) h2 (Fr.toKey .eu) rfl) ?_
   exact DG .eu rfl _ _
  |false=>exact no rfl _ _ _ (.inl rfl)
 |di n=>
  refine f9 (by cases dn<;>rfl) ?_
  exact yes (.di n) rfl _ _
 |_=>exact f9 (by cases dn<;>rfl) (no rfl _ _ _ (.inr rfl))
theorem QF:(f::fs).filterMap (iD dn bl)=(iD dn bl f).toList++fs.filterMap (iD dn bl):=by
 rw[List.filterMap_cons];cases iD dn bl f<;>rfl
theorem acZ{fs:List Fr}{K:List (List bq)}(w:cG σ)(ah:σ.cells e5=some (.list (fs.map Fr.v)))(h1:σ.cells gd=some (.b8 r'))(h2:σ.cells d4=some (.b8 (rz bl)))(aR:σ.cells eg=some (.b8 (rF dn)))
 (aW:fs.length<=900)(o9:∀f∈fs.filterMap (iD dn bl),f.key∈K)(dc:K.length<=6):
 a4 (tk [.ref e5,.ref gd,.ref d4,.ref eg] σ) λv s=>∃ns,v=dG ns/\rk (fs.filterMap (iD dn bl)) ns/\cB σ s:=by
 refine ZD ?_
 obtain⟨T,hT⟩:∃T,fs.filterMap (iD dn bl)=T:=⟨_,rfl⟩
 have w8:T.length<=900:=by rw[<-hT];exact cm (List.length_filterMap_le ..) aW
 rw[hT] at o9⊢
 have at_:∀{c x s},σ.cells c=some x->Keeps [] σ s->s.cells c=some x:=λh k=>(k.old _ (w.lt h) hP).trans h
 have lM:Keeps [] σ (σ.new (.list [])):=(Keeps.refl w).new
 have ug:∀{s},Keeps [] σ s->d1 (.ref e5) s=some (fs.map Fr.v):=λk=>by
  unfold d1;dsimp only;rw[at_ ah k]
 refine dz (ug lM) ?_
 refine kk (enc:=Fr.v) (xs:=fs) (A:=yz) (λr l s=>v7 λfd jE fA d5=>l=[some (.ref e5),some (.ref gd),some (.ref d4),some (.ref eg),some (.ref σ.next),jE,fA,d5]/\s.cells σ.next=some (.list (fd.map Fr.v))/\Keeps [] σ s/\fd++r.filterMap (iD dn bl)=T) (λr l s h=>by obtain⟨_,_,_,_,_,_,k,_⟩:=h;exact ug k) ?_ ?_
  ⟨[],_,_,_,rfl,iA,lM,hT⟩
 .rintro f r _ s ⟨fd,jE,fA,d5,rfl,mV,dd,e⟩
  rw[QF] at e
  have aG:fd.length<=900:=by
   have:=congrArg List.length e
   rw[gn] at this;exact aC.Vx w8 this
  refine⟨_,rfl,?_⟩
  refine aa8 dd.wf (at_ h1 dd) (at_ h2 dd) (at_ aR dd) mV (by rw[dW];exact aC.CO aG) ?_
  intro fA d5 u bM fl Bn
  have key:v7 λ(fd:List Fr) (jE acx acy:Option J)=>[some (.ref e5),some (.ref gd),some (.ref d4),some (.ref eg),some (.ref σ.next),some f.v,fA,d5]=[some (.ref e5),some (.ref gd),some (.ref d4),some (.ref eg),some (.ref σ.next),jE,acx,acy]/\u.cells σ.next=some (.list (fd.map Fr.v))/\Keeps [] σ u/\fd++r.filterMap (iD dn bl)=T:=by
   rcases bM with⟨g,a9⟩|⟨hH,t,g,rfl,a9⟩
   .rw[a9] at e
    exact⟨fd,_,_,_,rfl,by rw[g.cells];exact mV,dd.gS g,e⟩
   .rw[a9] at e
    have gv:=dd.gS g
    refine⟨fd++[hH],_,_,_,rfl,by rw[iG];exact hK,gv.aT (.inr (bt _)) (gv.wf.lt (by rw[g.cells];exact mV)),?_⟩
    rw[List.append_assoc];exact e
  rcases Bn with rfl|rfl
  .exact key
  .exact key
 .rintro _ s ⟨fd,jE,fA,d5,rfl,mV,dd,e⟩
  have c2:fd=T:=(List.append_nil fd).symm.trans e
  subst c2
  refine(acN dd.wf mV w8 o9 dc).a5 ?_
  rintro _ u ⟨ns,rfl,Ct,g⟩
  exact⟨ns,rfl,Ct,(dd.gS g).done w⟩
section
set_option genInjectivity false
structure gN where
 T:List bq->Option Int
 E:bq->Option Int
 N:Int
 domT:List (List bq)
 domE:List bq
 hT:∀k i,T k=some i->k∈domT
 hE:∀k i,E k=some i->k∈domE
 lT:domT.length<=1000
 lE:domE.length<=1000
noncomputable def gN.fO(G:gN)(f:Fr):Prop:=f.ok/\match f with
 |.st de bJ d cH=>(∀(i:Nat) b,d[i]? =some b->G.T [.int de,.int (bJ+i)]=some (b.toNat:Int))/\(cH=true->G.E (.int de)=some (bJ+d.length))
 |.ek bJ d=>∀(i:Nat) b,d[i]? =some b->G.T [.str "crypto",.int (bJ+i)]=some (b.toNat:Int)
 |.di n=>n=G.N
 |.gK=>False
 |_=>True
theorem p'(f:Fr)(R:Nat):(f.size<=R/\dM f R=(some f,none))\/(dM f R=(none,some f)/\(f.data=none/\R<f.size\/R<=f.dr))\/
 ∃d,f.data=some d/\f.dr<R/\R<f.dr+d.length/\dM f R=(some (f.kz 0 (d.take (R-f.dr)) false),some (f.kz (R-f.dr) (d.drop (R-f.dr)) f.cH)):=by
 unfold dM
 by_cases h:f.size<=R
 .rw[if_pos h];exact .inl ⟨h,rfl⟩
 .rw[if_neg h]
  cases aB:f.data with
  |none=>exact .inr (.inl ⟨rfl,.inl ⟨rfl,eP h⟩⟩)
  |some d=>
   have:=Fr.ye f aB
   by_cases h2:R<=f.dr
   .exact .inr (.inl ⟨if_pos h2,.inr h2⟩)
   .exact .inr (.inr ⟨d,rfl,by exact aC.Vy h2,by exact aC.Vz h this,if_neg h2⟩)
theorem Le{d:List UInt8}{i k:Nat}(h:(d.take k)[i]? =some b):d[i]? =some b:=by
 rw[List.getElem?_take] at h
 split at h
 .exact h
 .cases h
theorem gN.cut{G:gN}(f:Fr)(R:Nat)(h:G.fO f):(∀g∈(dM f R).1,G.fO g)/\∀g∈(dM f R).2,G.fO g:=by
 have ok:=z3 (R:=R) h.1
 rcases p' f R with⟨_,e⟩|⟨e,_⟩|⟨d,aB,h1,h2,e⟩
 .rw[e];exact⟨sF h,xS⟩
 .rw[e];exact⟨xS,sF h⟩
 .rw[e] at ok⊢
  have hk:R-f.dr<=d.length:=by exact aC.JQ h2
  generalize R-f.dr=k at ok hk⊢
  refine⟨λg aU=>⟨ok.1 g aU,?_⟩,λg aU=>⟨ok.2 g aU,?_⟩⟩
  .cases aU
   cases f<;>cases aB
   .refine⟨λi b ag=>?_,nofun⟩
    have:=h.2.1 i b (Le ag)
    rw[<-this,show((0:Nat):Int)=0 from rfl,Int.add_zero]
   .intro i b ag
    have:=h.2 i b (Le ag)
    rw[<-this,show((0:Nat):Int)=0 from rfl,Int.add_zero]
  .cases aU
   cases f<;>cases aB
   .rename_i de bJ cH
    refine⟨λi b ag=>?_,λhf=>?_⟩
    .rw[List.getElem?_drop] at ag
     have:=h.2.1 (k+i) b ag
     rw[<-this,Int.natCast_add,Int.add_assoc]
    .rw[h.2.2 hf,List.length_drop];congr 1;exact aC.VA hk
   .intro i b ag
    rw[List.getElem?_drop] at ag
    have:=h.2 (k+i) b ag
    rw[<-this,Int.natCast_add,Int.add_assoc]
structure fk (G:gN) where
 does:Fr->Prop
 done:f5->Prop
 cut:∀f R,G.fO f->does f->(∃g∈(dM f R).1,does g)\/∃g∈(dM f R).2,does g
 keep:∀S f,done S->done (gP S f)
 come:∀S f,does f->done (gP S f)
 told:∀f,does f->f.data.isSome=true\/∀dn bl,∃g,iD dn bl f=some g/\∀h,G.fO h->h.key=g.key->does h
 other:∀S cv:f5,cv.oc=S.oc->cv.en=S.en->cv.c1=S.c1->done S->done cv
variable{G:gN}
theorem fk.GI(D:fk G):∀{fs:List Fr} {R:Nat},(∀f∈fs,G.fO f)->(∃f∈fs,D.does f)->(∃g∈(e9 fs R).1,D.does g)\/∃g∈(e9 fs R).2,D.does g
 |[],_,_,⟨_,h,_⟩=>nomatch h
 |f::fs,R,aU,⟨g,hm,aB⟩=>by
  obtain⟨h1,aU⟩:=bO.mp aU
  rcases fj.mp hm with rfl|hm
  .rcases D.cut g R h1 aB with⟨x,av,d⟩|⟨x,av,d⟩
   .exact .inl ⟨x,l6 _ (Option.mem_toList.mpr av),d⟩
   .exact .inr ⟨x,l6 _ (Option.mem_toList.mpr av),d⟩
  .rcases D.GI (R:=R-mG (dM f R).1) aU ⟨g,hm,aB⟩ with⟨x,av,d⟩|⟨x,av,d⟩
   .exact .inl ⟨x,kD _ av,d⟩
   .exact .inr ⟨x,kD _ av,d⟩
noncomputable def Fr.eM(f:Fr):Nat:=match f.data with
 |none=>1
 |some d=>1+d.length
noncomputable def fP(fs:List Fr):Nat:=(fs.map Fr.eM).sum
noncomputable def hZ(fs:List Fr):Nat:=(fs.map Fr.size).sum
noncomputable def xV(o:Option Fr):Nat:=match o with
 |none=>0
 |some f=>f.eM
theorem pk(f:Fr)(fs:List Fr):fP (f::fs)=f.eM+fP fs:=by unfold fP;rw[iH,List.sum_cons]
theorem xP(a b:List Fr):fP (a++b)=fP a+fP b:=by unfold fP;rw[iG,List.sum_append]
theorem K5(f:Fr)(fs:List Fr):hZ (f::fs)=f.size+hZ fs:=by unfold hZ;rw[iH,List.sum_cons]
theorem aaX(a b:List Fr):hZ (a++b)=hZ a+hZ b:=by unfold hZ;rw[iG,List.sum_append]
theorem Jh(o:Option Fr):fP o.toList=xV o:=by cases o<;>rfl
theorem aaY(o:Option Fr):hZ o.toList=mG o:=by cases o<;>rfl
theorem I8(f:Fr):1<=f.eM:=by
 unfold Fr.eM
 split
 .exact bt _
 .exact Nat.le_add_right _ _
theorem lO:∀fs:List Fr,fs.length<=fP fs
 |[]=>bt _
 |f::fs=>by rw[pk,fJ];have:=lO fs;have:=I8 f;omega
theorem Uw(f:Fr):f.eM<=f.size:=by
 unfold Fr.eM
 cases aB:f.data with
 |none=>cases f<;>first|(exact Nat.le_add_left 1 _)|cases aB
 |some d=>
  have:=Fr.ye f aB
  have:=(Fr.HP f aB).2
  show 1+d.length<=_
  omega
theorem qP:∀fs:List Fr,fP fs<=hZ fs
 |[]=>bt _
 |f::fs=>by rw[pk,K5];have:=qP fs;have:=Uw f;omega
theorem F3(f:Fr)(R:Nat):xV (dM f R).2<=f.eM/\((dM f R).1≠none->xV (dM f R).2<f.eM):=by
 rcases p' f R with⟨_,e⟩|⟨e,_⟩|⟨d,aB,h1,h2,e⟩
 .rw[e];exact⟨Nat.zero_le _,λ_=>I8 f⟩
 .rw[e];exact⟨bt _,λh=>absurd rfl h⟩
 .rw[e]
  have:(f.kz (R-f.dr) (d.drop (R-f.dr)) f.cH).eM=1+(d.length-(R-f.dr)):=by
   rw[<-List.length_drop]
   cases f<;>cases aB<;>rfl
  have aR:f.eM=1+d.length:=by unfold Fr.eM;rw[aB]
  have h4:xV (some (f.kz (R-f.dr) (d.drop (R-f.dr)) f.cH))=1+(d.length-(R-f.dr)):=this
  rw[aR]
  dsimp only
  rw[h4]
  exact⟨by exact aC.VB,λ_=>by exact aC.VC h1 h2⟩
theorem AO:∀(fs:List Fr) (R:Nat),fP (e9 fs R).2<=fP fs/\hZ (e9 fs R).1<=R
 |[],R=>⟨bt _,Nat.zero_le _⟩
 |f::fs,R=>by
  have:=AO fs (R-mG (dM f R).1)
  have h1:=(F3 f R).1
  have h2:=F1 (f:=f) (R:=R)
  rw[e9,xP,aaX,Jh,aaY,pk]
  exact⟨by exact aC.VD this h1,by exact aC.VE this h2⟩
theorem OX(gI:32<=R):(dM f R).1≠none:=by
 rcases p' f R with⟨_,e⟩|⟨e,h⟩|⟨d,aB,h1,h2,e⟩
 .rw[e];exact nofun
 .rcases h with⟨aB,h⟩|h
  .exfalso
   have:f.size<=28:=by cases f<;>first|exact(by decide:2<=28)|exact(by decide:3<=28)|exact(by decide:9<=28)|exact(by decide:28<=28)|exact(by decide:1<=28)|cases aB
   exact(aC.VG gI h this).elim
  .cases aB:f.data with
   |none=>
    exfalso
    have:f.dr<=28:=by cases f<;>first|exact(by decide:2<=28)|exact(by decide:3<=28)|exact(by decide:9<=28)|exact(by decide:28<=28)|exact(by decide:1<=28)|cases aB
    exact(aC.VH gI h this).elim
   |some d=>have:=(Fr.HP f aB).1;exact(aC.VI gI h this).elim
 .rw[e];exact nofun
structure Rows (G:gN) (fs:List Fr) (R:Nat) (rows:List (List Fr)):Prop where
 len:rows.length<=fP fs
 row:∀r∈rows,r≠[]/\hZ r<=R/\∀f∈r,G.fO f
 duty:∀D:fk G,(∃f∈fs,D.does f)->∃r∈rows,∃f∈r,D.does f
 j1:(rows.flatten).countP (λf=>decide (f=.c7))=fs.countP λf=>decide (f=.c7)
theorem OW(f:Fr)(R:Nat):((dM f R).1.toList).countP (λf=>decide (f=Fr.c7))+((dM f R).2.toList).countP (λf=>decide (f=Fr.c7))=[f].countP λf=>decide (f=Fr.c7):=by
 rcases p' f R with⟨_,e⟩|⟨e,_⟩|⟨d,aB,h1,h2,e⟩
 .rw[e];exact Nat.add_zero _
 .rw[e];exact Nat.zero_add _
 .rw[e]
  cases f<;>cases aB<;>rfl
theorem GK:∀(fs:List Fr) (R:Nat),((e9 fs R).1).countP (λf=>decide (f=Fr.c7))+((e9 fs R).2).countP (λf=>decide (f=Fr.c7))=fs.countP λf=>decide (f=Fr.c7)
 |[],_=>rfl
 |f::fs,R=>by
  have h1:=GK fs (R-mG (dM f R).1)
  have h2:=OW f R
  rw[e9,List.countP_append,List.countP_append,<-List.singleton_append (x:=f),List.countP_append]
  exact aC.VJ h1 h2
theorem KG(gI:32<=R):∀(n:Nat) (fs:List Fr),(∀f∈fs,G.fO f)->fP fs<n->∃rows,sE n fs R=some rows/\Rows G fs R rows
 |0,_,_,h=>absurd h (Nat.not_lt_zero _)
 |n+1,fs,aU,h=>by
  unfold sE
  by_cases e:fs=[]
  .subst e
   exact⟨[],if_pos rfl,⟨Nat.zero_le _,nofun,(λD ⟨_,h,_⟩=>nomatch h),rfl⟩⟩
  .rw[if_neg e]
   have HQ:(e9 fs R).1≠[]/\fP (e9 fs R).2<fP fs:=by
    cases fs with
    |nil=>exact absurd rfl e
    |cons f fs=>
     have h1:=OX (f:=f) gI
     have h2:=(F3 f R).2 h1
     have aR:=(AO fs (R-mG (dM f R).1)).1
     rw[e9,xP,Jh,pk]
     refine⟨?_,by exact aC.VK h2 aR⟩
     cases e:(dM f R).1 with
     |none=>exact absurd e h1
     |some g=>exact nofun
   rw[if_neg HQ.1]
   have qk:=GJ gN.cut fs R aU
   obtain⟨rows,a7,aI⟩:=KG gI n (e9 fs R).2 qk.2 (by omega)
   refine⟨(e9 fs R).1::rows,by rw[a7];rfl,?_,?_,λD aB=>?_,?_⟩
   .rw[fJ];have:=aI.len;omega
   .exact bO.mpr ⟨⟨HQ.1,(AO fs R).2,qk.1⟩,aI.row⟩
   .rcases D.GI (R:=R) aU aB with⟨g,aU,d⟩|⟨g,aU,d⟩
    .exact⟨_,List.mem_cons_self ..,g,aU,d⟩
    .obtain⟨r,aI,x⟩:=aI.duty D ⟨g,aU,d⟩
     exact⟨r,List.mem_cons_of_mem _ aI,x⟩
   .rw[List.flatten_cons,List.countP_append,aI.j1];exact GK fs R
end
section
variable{G:gN}
noncomputable def fk.QL(D:fk G)(S:f5):Prop:=∃a∈S.fl,∃f∈a.2,D.does f
noncomputable def fk.live(D:fk G)(S:f5):Prop:=D.done S\/D.QL S
theorem fk.keeps(D:fk G):∀{fs:List Fr} {S:f5},D.done S->D.done (gQ S fs)
 |[],_,h=>h
 |f::fs,S,h=>(D.keeps (fs:=fs) (D.keep S f h):D.done (gQ (gP S f) fs))
theorem fk.ju(D:fk G):∀{fs:List Fr} {S:f5},(∃f∈fs,D.does f)->D.done (gQ S fs)
 |[],_,⟨_,h,_⟩=>nomatch h
 |f::fs,S,⟨g,hm,d⟩=>(fj.mp hm).elim (λe=>D.keeps (fs:=fs) (S:=gP S f) (D.come S f (e▸d))) λhm=>D.ju (fs:=fs) (S:=gP S f) ⟨g,hm,d⟩
theorem Jx{α:Type}{l:List α}{x:α}(h:l.Nodup)(av:x∉l):(l++[x]).Nodup:=
 List.nodup_append.mpr ⟨h,jj.mpr ⟨hP,List.nodup_nil⟩,λy bF z hz e=>av (by rw[<-fB.mp hz,<-e];exact bF)⟩
theorem OS(S:f5)(f:Fr):(gP S f).fl=S.fl/\(gP S f).to=S.to/\(gP S f).al=S.al:=by cases f<;>exact⟨rfl,rfl,rfl⟩
theorem p8:∀(fs:List Fr) (S:f5),(gQ S fs).fl=S.fl/\(gQ S fs).to=S.to/\(gQ S fs).al=S.al
 |[],_=>⟨rfl,rfl,rfl⟩
 |f::fs,S=>by
  obtain⟨a,b,c⟩:=p8 fs (gP S f)
  obtain⟨br,bU,cp⟩:=OS S f
  exact⟨a.trans br,b.trans bU,c.trans cp⟩
structure jl (G:gN) (S:f5):Prop where
 oc:Sane G.T S.oc
 en:Sane G.E S.en
 c1:∀f∈S.c1,f.data=none
theorem jl.come(h:jl G S)(hf:G.fO f):jl G (gP S f)/\(gP S f).c1.length<=S.c1.length+1:=by
 have no:f.data=none->gP S f={S with c1:=S.c1++[f]}->jl G (gP S f)/\(gP S f).c1.length<=S.c1.length+1:=λaB e=>by
  rw[e]
  exact⟨⟨h.oc,h.en,λg aU=>(h7.mp aU).elim (h.c1 g) λq=>by rw[fB.mp q];exact aB⟩,dR gn⟩
 cases f with
 |st de bJ d cH=>
  refine⟨⟨CY h.oc hf.2.1,?_,h.c1⟩,gp _⟩
  cases cH with
  |false=>exact h.en
  |true=>exact h.en.dA (hf.2.2 rfl)
 |ek bJ d=>exact⟨⟨CY h.oc hf.2,h.en,h.c1⟩,gp _⟩
 |_=>exact no rfl rfl
theorem jl.ju:∀{fs:List Fr} {S:f5},jl G S->(∀f∈fs,G.fO f)->jl G (gQ S fs)/\(gQ S fs).c1.length<=S.c1.length+fs.length
 |[],_,h,_=>⟨h,bt _⟩
 |f::fs,S,h,aU=>by
  obtain⟨h1,aU⟩:=bO.mp aU
  obtain⟨a,b⟩:=h.come h1
  obtain⟨c,d⟩:=jl.ju (fs:=fs) a aU
  rw[fJ]
  exact⟨c,by show(gQ (gP S f) fs).c1.length<=_;exact aC.VN b d⟩
theorem jl.Di(h:jl G S)(aW:n<=13000)(aw:S.c1.length<=800000):tu S n:=by
 have h1:=h.oc.len G.hT
 have h2:=h.en.len G.hE
 have aR:=G.lT
 have h4:=G.lE
 exact⟨by exact aC.VO aW h1 aR,by exact aC.VP aW h2 h4,by exact aC.VR aW aw⟩
structure Bse (G:gN) (S:f5) (b2:Int) (b:Nat):Prop where
 nd:(S.fl.map (·.1)).Nodup
 kd:∀a∈S.fl,a.1∈fe
 an:(S.al.map (·.1)).Nodup
 tm:∀a∈S.al,b2<=a.2
 row:∀a∈S.fl,(∀f∈a.2,G.fO f)/\hZ a.2<=51
 came:jl G S
 lca:S.c1.length<=b
 lto:S.to.length<=b
structure Inv (G:gN) (S:f5) (b2:Int) (b:Nat):Prop extends Bse G S b2 b where
 ak:∀k,k∈S.al.map (·.1)↔k∈S.fl.map (·.1)
theorem Bse.wX(h:Bse G S b2 b):S.fl.length<=6:=by
 have:=sh h.nd (m:=fe) λk hk=>by
  obtain⟨a,ha,rfl⟩:=dI.mp hk
  exact h.kd a ha
 rw[dW] at this;exact this
theorem Inv.E7(h:Inv G S b2 b):S.al.length<=6:=by
 have:=sh h.an (m:=S.fl.map (·.1)) λk hk=>(h.ak k).mp hk
 rw[dW,dW] at this
 exact cm this h.wX
theorem abg:tm al k=none↔k∉al.map (·.1):=by
 unfold tm
 rw[Option.map_eq_none_iff,List.find?_eq_none]
 constructor
 .rintro h hk
  obtain⟨a,ha,rfl⟩:=dI.mp hk
  exact h a ha (decide_eq_true rfl)
 .intro h a ha aB
  exact h (dI.mpr ⟨a,ha,of_decide_eq_true aB⟩)
theorem Dn(h:tm al k=some t):(k,t)∈al:=by
 unfold tm at h
 obtain⟨a,ha,rfl⟩:=fS.mp h
 have q:=List.find?_some (p:=λa:Str×Int=>decide (a.1=k)) ha
 rw[<-(of_decide_eq_true q:a.1=k)];exact List.mem_of_find?_eq_some ha
theorem ab0(h:k∉al.map (·.1)):oD al k (some t)=al++[(k,t)]:=by
 unfold oD
 rw[List.filter_eq_self.mpr]
 intro a ha
 rw[Bool.not_eq_true',beq_eq_false_iff_ne]
 rintro rfl
 exact h (dI.mpr ⟨a,ha,rfl⟩)
theorem Inv.QK(h:Inv G S b2 b)(hk:k∈fe)(aW:k∉S.al.map (·.1))(ht:b2<=t)(aI:(∀f∈r,G.fO f)/\hZ r<=51):
 Inv G {S with al:=S.al++[(k,t)],fl:=S.fl++[(k,r)],to:=S.to++r} b2 (b+51) where
 nd:=by
  rw[iG]
  exact Jx h.nd λq=>aW ((h.ak k).mpr q)
 kd a ha:=(h7.mp ha).elim (h.kd a) λq=>by rw[fB.mp q];exact hk
 an:=by
  rw[iG]
  exact Jx h.an aW
 ak x:=by
  rw[iG,iG,h7,h7]
  exact or_congr (h.ak x) Iff.rfl
 tm a ha:=(h7.mp ha).elim (h.tm a) λq=>by rw[fB.mp q];exact ht
 row a ha:=(h7.mp ha).elim (h.row a) λq=>by rw[fB.mp q];exact aI
 came:=⟨h.came.oc,h.came.en,h.came.c1⟩
 lca:=cm h.lca (Nat.le_add_right _ _)
 lto:=by
  have:=h.lto
  have:=lO r
  have:=qP r
  have:=aI.2
  rw[gn];omega
theorem Bse.ju(h:Bse G S b2 b)(aI:(∀f∈r,G.fO f)/\hZ r<=51):Bse G (gQ S r) b2 (b+51):=by
 obtain⟨c,l⟩:=h.came.ju aI.1
 obtain⟨a9,a7,e3⟩:=p8 r S
 have h1:=lO r
 have h2:=qP r
 have aR:=aI.2
 have h4:=h.lca
 exact⟨by rw[a9];exact h.nd,by rw[a9];exact h.kd,by rw[e3];exact h.an,by rw[e3];exact h.tm,by rw[a9];exact h.row,c,by exact aC.VS l h1 h2 aR h4,by rw[a7];exact cm h.lto (Nat.le_add_right _ _)⟩
theorem Inv.ju(h:Inv G S b2 b)(aI:(∀f∈r,G.fO f)/\hZ r<=51):Inv G {gQ S r with to:=(gQ S r).to++r} b2 (b+51):=by
 obtain⟨a9,a7,e3⟩:=p8 r S
 have g:=h.toBse.ju aI
 have h1:=lO r
 have h2:=qP r
 have aR:=aI.2
 have f':=h.lto
 refine⟨⟨g.nd,g.kd,g.an,g.tm,g.row,⟨g.came.oc,g.came.en,g.came.c1⟩,g.lca,?_⟩,?_⟩
 .show((gQ S r).to++r).length<=_
  rw[a7,gn];exact aC.VT h1 h2 aR f'
 .show∀k,k∈(gQ S r).al.map _↔k∈(gQ S r).fl.map _
  rw[a9,e3];exact h.ak
theorem Mp(h:σ.cells c=some (.list vs))(aG:vs.length<=1000000)(q:Q (.int vs.length) σ):aJ (fq [.ref c] σ) Q:=
 hQ (show(ff (.ref c) σ).bind _=some (.int vs.length,σ) by rw[uw h];exact if_pos aG) q
theorem ER(h:σ.cells c=some (.list vs))(aG:vs.length+cI.length<=1000000)(q:Q .none (σ.aT c (.list (vs++cI)))):aJ (nP [.ref c,.bp cI] σ) Q:=
 hQ (show(match σ.cells c with|some (.list vs)=>if vs.length+cI.length<=1000000 then some (J.none,σ.aT c (.list (vs++cI))) else none|_=>none)=_ by rw[h];exact if_pos aG) q
theorem Im:∀r:List Fr,ib (r.map λf=>J.int f.size)=some (r.map λf=>(f.size:Int))
 |[]=>rfl
 |f::r=>congrArg (Option.map λl=>(f.size:Int)::l) (Im r)
theorem K':∀r:List Fr,(r.map λf=>(f.size:Int)).sum=(hZ r:Int)
 |[]=>rfl
 |f::r=>by rw[iH,List.sum_cons,K' r,K5,Int.natCast_add]
noncomputable def B3(n:Nat):Str:=match n with
 |0=>"loss"|1=>"probe"|2=>"ack"|3=>"path"|4=>"idle"|5=>"closed"|_=>"loss"
theorem TX{n:Nat}(h:n<=6):gu (.bp [.str "loss",.str "probe",.str "ack",.str "path",.str "idle",.str "closed"]) (.int ((n:Int).fmod 6)) s=some (.str (B3 n))/\B3 n∈fe:=by
 match n,h with
 |0,_=>exact⟨rfl,by decide⟩
 |1,_=>exact⟨rfl,by decide⟩
 |2,_=>exact⟨rfl,by decide⟩
 |3,_=>exact⟨rfl,by decide⟩
 |4,_=>exact⟨rfl,by decide⟩
 |5,_=>exact⟨rfl,by decide⟩
 |6,_=>exact⟨rfl,by decide⟩
 |n+7,h=>exact absurd h (Nat.not_le_of_lt (jH (by decide:6<7) (Nat.le_add_left 7 n)))
theorem UZ(o:Option Int):oh (qS o)=some o.isNone:=by cases o<;>rfl
structure mb (G:gN) (σ:St) (p:Nat) (c:h8) (S:f5) (b2:Int) (b:Nat):Prop where
 hw:b' σ c S
 pool:gC σ p
 bf:Inv G S b2 b
 wf:cG σ
theorem acI{σ:St}{Q:fT->Loc->St->Prop}(hp:p∉c.all)(h:mb G σ p c S b2 b)(ag:b<=800000)(aI:r≠[]/\hZ r<=R/\∀f∈r,G.fO f)(gI:R<=51)
 (q:∀u d5 cv,mb G u p c cv b2 (b+51)->Keeps (p::c.all) σ u->(∀D:fk G,D.live S\/(∃f∈r,D.does f)->D.live cv)->cv.to=S.to++r->Q .next [some (.ref p),some (.ref c.w),d4,some (.int R),some (.int b2),fh,some (dG r),d5] u):
 yv.p [some (.ref p),some (.ref c.w),d4,some (.int R),some (.int b2),fh,some (dG r),h6] σ Q:=by
 obtain⟨hw,SS,bf,wf⟩:=h
 obtain⟨rU,t8,xj⟩:=aI
 have HE:(∀f∈r,G.fO f)/\hZ r<=51:=⟨xj,cm t8 gI⟩
 have dm:=lO r
 have pd:=qP r
 have xx:∀{d},d∈c.all->d∈p::c.all:=λh=>.tail _ h
 have last:∀{u:St} {cv:f5} {z:J},b' u c cv->cG u->gC u p->Keeps (p::c.all) σ u->Inv G {cv with to:=cv.to++r} b2 (b+51)->cv.to=S.to->(∀D:fk G,D.live S\/(∃f∈r,D.does f)->D.live cv)->
  aJ (a8 [.ref c.w,.str "told"] u) λv s=>dD (d6 v s) (aJ (nP [v,dG r] s) λ_ s=>Q .next [some (.ref p),some (.ref c.w),d4,some (.int R),some (.int b2),fh,some (dG r),some z] s) False:=by
  intro u cv z vb f1 jZ dd cE oA iv
  refine ez vb.Ig ?_
  have aG:cv.to.length<=800000:=by rw[oA];exact cm bf.lto ag
  have h2:=vb.aaF (cv.to++r)
  rw[iG] at h2
  have dp:=vb.lt f1 _ c.Co
  refine gO (n7 vb.to) ?_
  refine ER vb.to (by rw[dW,dW];exact aC.VU gI t8 dm pd aG) (q _ _ _ ⟨h2,?_,cE,f1.aT dp⟩ (dd.aT (.inl (xx c.Co)) dp) (λD aB=>?_) (by show cv.to++r=_;rw[oA]))
  .obtain⟨a,b,eU,e,x⟩:=jZ
   exact⟨a,b,eU,(ck (show p≠c.to fromλe=>hp (by rw[e];exact c.Co))).trans e,x⟩
  .exact(iv D aB).elim (λx=>.inl (D.other cv _ rfl rfl rfl x)) .inr
 refine vW (Ad _ _) ?_
 refine f9 (decide_eq_false λe=>rU (List.map_eq_nil_iff.mp e)) ?_
 refine dz rfl ?_
 refine me (src:=dG r) (λU s=>(∃z,U=[z])/\cB σ s) (λ_=>true) (λf v=>v=J.int f.size) (λ_ _ _=>rfl) ?_ ⟨⟨_,rfl⟩,.refl⟩ (by rw[hO];exact aC.VV gI t8 dm pd) ?_
 .rintro f hf _ s ⟨⟨z,rfl⟩,g⟩
  refine⟨_,rfl,rfl,?_⟩
  refine(LX f (g.wf wf) (xj f hf).1).a5 ?_
  rintro _ t ⟨bh,rfl,ag,g2⟩
  have:=Fr.KW (xj f hf).1
  exact j8 (p:=bh.length<=1000000) (by exact aC.JR ag this) ⟨by rw[ag],⟨_,rfl⟩,g.trans g2⟩
 rintro cI _ s a ⟨_,g⟩
 rw[List.filter_eq_self.mpr (λ_ _=>rfl)] at a
 rw[nI a]
 refine hQ (m:=q0 [.bp ([]++r.map λf=>J.int f.size)] s) (a:=.int (hZ r)) (s:=s) ?_ ?_
 .show((ib (r.map λf=>J.int f.size)).map λl=>(J.int l.sum,s))=_
  rw[Im,<-K'];rfl
 refine f9 (decide_eq_false (by exact aC.VW t8)) ?_
 have mA:=hw.gS g
 have LC:=g.wf wf
 have jZ:gC s p:=by
  obtain⟨a,b,eU,e,x⟩:=SS
  exact⟨a,b,eU,by rw[g.cells];exact e,x⟩
 have iW:=bf.wX
 refine ez mA.uc ?_
 refine Mp mA.fl (by rw[dW];exact aC.JS iW) ?_
 rw[dW]
 obtain⟨TV,dB⟩:=TX iW (s:=s)
 refine ez TV ?_
 generalize B3 S.fl.length=k at dB
 refine ez mA.ub ?_
 refine uQ mA.al ?_
 refine(acY LC mA.al).fH λt g2=>?_
 have mB:=mA.gS g2
 have yp:=g2.wf LC
 have km:gC t p:=by
  obtain⟨a,b,eU,e,x⟩:=jZ
  exact⟨a,b,eU,by rw[g2.cells];exact e,x⟩
 have gv:Keeps (p::c.all) σ t:=(g.trans g2).keeps wf
 refine ES (UZ _) ?_
 cases S5:tm S.al k with
 |some sH=>
  refine(DC (fs:=r) yp mB (λf hf=>(xj f hf).1) (bf.came.Di (by exact aC.VX gI t8 dm pd) (cm bf.lca ag))).fH λu hc=>?_
  obtain⟨qz,ic⟩:=hc
  have BQ:=bf.ju HE
  refine last qz ic.wf ?_ (gv.trans (ic.a5 λd=>xx)) BQ (p8 r S).2.1 λD aB=>?_
  .obtain⟨a,b,eU,e,x⟩:=km
   exact⟨a,b,eU,(ic.old p (yp.lt e) hp).trans e,x⟩
  .rcases aB with(aB|⟨a,ha,x⟩)|aB
   .exact .inl (D.keeps aB)
   .exact .inr ⟨a,by rw[(p8 r S).1];exact ha,x⟩
   .exact .inl (D.ju aB)
 |none=>
  have hk:=abg.mp S5
  refine ez mB.ub ?_
  refine uQ mB.al ?_
  refine(vd yp km (by decide)).a5 ?_
  rintro _ u ⟨n,rfl,aW,uN,ic⟩
  have qz:b' u c S:=mB.keeps yp ic λd aB q=>hp (by rw[<-fB.mp q];exact aB)
  refine(L0 (told:=some (b2+5+n)) ic.wf qz.al bf.an (by have:=bf.E7;exact aC.JT this)).fH λv hc=>?_
  obtain⟨lr,n8⟩:=hc
  have t9:=qz.KR ic.wf n8 lr
  rw[ab0 hk] at t9
  refine ez t9.uc ?_
  have f':=t9.aaC (S.fl++[(k,r)])
  rw[iG] at f'
  have dp:=t9.lt n8.wf _ c.Cn
  have TO:Keeps (p::c.all) σ v:=(gv.trans (ic.a5 λd aB=>by rw[fB.mp aB];exact .head _)).trans (n8.a5 λd aB=>by rw[fB.mp aB];exact xx c.xM)
  refine sv t9.fl (by show(S.fl.map kT).length<=_;rw[dW];exact aC.JS iW) ?_
  refine last f' (n8.wf.aT dp) ?_ (TO.aT (.inl (xx c.Cn)) dp) (bf.QK dB hk (by exact aC.VY aW) HE) rfl λD aB=>?_
  .obtain⟨a,b,eU,e,x⟩:=uN
   refine⟨a,b,eU,(ck (show p≠c.fl fromλe=>hp (by rw[e];exact c.Cn))).trans ((n8.old p (ic.wf.lt e) λq=>hp ?_).trans e),x⟩
   rw[fB.mp q];exact c.xM
  .rcases aB with(aB|⟨a,ha,x⟩)|aB
   .exact .inl (D.other S _ rfl rfl rfl aB)
   .exact .inr ⟨a,l6 _ ha,x⟩
   .exact .inr ⟨(k,r),kD _ (fB.mpr rfl),aB⟩
set_option genInjectivity true
theorem Inv.a5(h:Inv G S b2 b)(ag:b<=bU):Inv G S b2 bU:=
 ⟨⟨h.nd,h.kd,h.an,h.tm,h.row,h.came,cm h.lca ag,cm h.lto ag⟩,h.ak⟩
theorem gC.keeps(h:gC σ p)(e:s.cells p=σ.cells p):gC s p:=by
 obtain⟨a,b,eU,h,x⟩:=h
 exact⟨a,b,eU,e.trans h,x⟩
theorem gC.lt(w:cG σ)(h:gC σ p):p<σ.next:=by
 obtain⟨a,b,eU,h,x⟩:=h
 exact w.lt h
theorem mb.cut(h:mb G s p c S b2 b)(ag:b<=bU)(k:Keeps l σ s)(aG:∀d∈p::c.all,d<σ.next):mb G (s.cut σ.next) p c S b2 bU:=
 ⟨h.hw.cut λd aB=>aG d (.tail _ aB),h.pool.keeps (oW (aG p (.head _))),h.bf.a5 ag,k.cut.wf⟩
theorem LY{b R:Nat}(hp:p∉c.all)(h:mb G σ p c S b2 b)(hm:fP fs<=320)(ag:b<=700000)(aU:∀f∈fs,G.fO f)(gI:32<=R/\R<=51):
 a4 (pS [.ref p,.ref c.w,dG fs,.int R,.int b2] σ) λv s=>v=.bool true/\∃cv,mb G s p c cv b2 (b+51*320)/\Keeps (p::c.all) σ s/\(∀D:fk G,D.live S\/(∃f∈fs,D.does f)->D.live cv)/\
  cv.to.countP (λf=>decide (f=.c7))=S.to.countP (λf=>decide (f=.c7))+fs.countP λf=>decide (f=.c7):=by
 refine Zf ?_
 obtain⟨rows,e,aI⟩:=KG gI.1 1000000 fs aU (by exact aC.VZ hm)
 have aG:=aI.len
 have hf:=lO fs
 refine(acV h.wf e (λf hf=>(aU f hf).1) (by exact aC.JU hm hf) (by exact aC.JU hm aG)).fH λKI g=>?_
 have ab:mb G KI p c S b2 b:=⟨h.hw.gS g,h.pool.keeps (by rw[g.cells]),h.bf,g.wf h.wf⟩
 have SR:∀d∈p::c.all,d<σ.next:=bO.mpr ⟨h.pool.lt h.wf,h.hw.lt h.wf⟩
 have key:∃aV:St->Nat->f5->List (List Fr)->Prop,∀s n cv r,aV s n cv r↔(mb G s p c cv b2 (b+51*n)/\n+r.length<=320/\Keeps (p::c.all) σ s/\(∀D:fk G,D.live S\/(∃f∈fs,D.does f)->D.live cv\/∃x∈r,∃f∈x,D.does f)/\
  cv.to.countP (λf=>decide (f=.c7))+(r.flatten).countP (λf=>decide (f=.c7))=S.to.countP (λf=>decide (f=.c7))+fs.countP (λf=>decide (f=.c7))/\∀x∈r,x≠[]/\hZ x<=R/\∀f∈x,G.fO f):=⟨_,λ_ _ _ _=>Iff.rfl⟩
 obtain⟨aV,e'⟩:=key
 refine dz rfl ?_
 refine kk (src:=.bp (rows.map dG)) (enc:=dG) (xs:=rows) (A:=yv) (λr l s=>v7 λn cv h6 fi=>l=[some (.ref p),some (.ref c.w),some (dG fs),some (.int R),some (.int b2),some (.bp (rows.map dG)),fi,h6]/\aV s n cv r) (λ_ _ _ _=>rfl) ?_ ?_
  ⟨0,S,_,_,rfl,(e' _ _ _ _).mpr ⟨ab,by exact aC.V0 hm aG,g.keeps h.wf,λD aB=>aB.elim .inl λx=>.inr (aI.duty D x),by rw[aI.j1],aI.row⟩⟩
 .rintro r ya _ s ⟨n,cv,h6,fi,rfl,hs⟩
  obtain⟨qQ,aW,k,jR,c7,BH⟩:=(e' _ _ _ _).mp hs
  obtain⟨h1,BH⟩:=bO.mp BH
  rw[fJ] at aW
  refine⟨_,rfl,acI hp qQ (by exact aC.V1 ag aW) h1 gI.2 λu d5 oK xU gv wA abh=>⟨n+1,oK,_,_,rfl,(e' _ _ _ _).mpr ⟨⟨xU.hw,xU.pool,xU.bf.a5 (by exact aC.V2),xU.wf⟩,by exact aC.V3 aW,k.trans gv,λD aB=>?_,?_,BH⟩⟩⟩
  .rcases jR D aB with aB|⟨x,av,y⟩
   .exact .inl (wA D (.inl aB))
   .rcases fj.mp av with rfl|av
    .exact .inl (wA D (.inr y))
    .exact .inr ⟨x,av,y⟩
  .rw[abh,List.countP_append,<-c7,List.flatten_cons,List.countP_append,Nat.add_assoc]
 .rintro _ u ⟨n,cv,h6,fi,rfl,hs⟩
  obtain⟨qQ,aW,k,jR,c7,_⟩:=(e' _ _ _ _).mp hs
  rw[hO] at aW
  exact⟨rfl,cv,qQ.cut (by exact aC.V4 aW) k SR,k.cut,(λD aB=>(jR D aB).elim id λh=>by obtain⟨_,h,_⟩:=h;cases h),c7⟩
end
set_option genInjectivity false
theorem ZM:∀m:Fin 32,Builtin.Range.small 0 (m.val:Nat) 1=true/\(Builtin.Range.rangeSize 0 (m.val:Nat) 1).toNat=m.val:=by decide+kernel
noncomputable abbrev qc(i:Nat):J:=J.int (0+(i:Int)*1)
theorem uj{m:Nat}{z:Int}(hz:z=m)(h:m<32):d1 (.fv 0 z 1) s=some ((List.range m).map qc):=by
 subst hz
 obtain⟨h1,h2⟩:=ZM ⟨m,h⟩
 show(if Builtin.Range.small 0 m 1=true then some (ov 0 m 1) else none)=_
 rw[if_pos h1]
 show some ((List.range (Builtin.Range.rangeSize 0 m 1).toNat).map _)=_
 rw[h2]
theorem Vg{α:Type}{xs:List α}:∀{cI:List J},pN (λ_ v=>∃z:Int,v=.int z/\0<=z/\z<256) xs cI->∃l,ib cI=some l/\l.length=xs.length/\l.all (λi=>decide (0<=i/\i<256))=true:=by
 induction xs with
 |nil=>intro cI h;cases h;exact⟨[],rfl,rfl,rfl⟩
 |cons n l aZ=>
  intro cI h
  cases h with
  |cons h1 h2=>
   obtain⟨z,rfl,hz⟩:=h1
   obtain⟨l',a9,a7,e3⟩:=aZ h2
   exact⟨z::l',congrArg (Option.map λl=>z::l) a9,congrArg Nat.succ a7,by rw[List.all_cons,e3,decide_eq_true hz];rfl⟩
theorem Kl{m:Nat}{z:Int}(hz:z=m)(hm:m<32){E:TE}(h:∀(i:Int) (lp:J->St->Prop),(∀z:Int,0<=z/\z<256->lp (.int z) s)->E.p (some (.int i)::lQ) s lp)(q:∀d:List UInt8,d.length=m->Q (.bytes d) s):
 pZ (.fv 0 z 1) s λitems=>a4 (mW (.fv 0 z 1) items (c9 0) f3.e4.d E.d items [] (none::lQ) s) λvs t=>aJ (gE [.bp vs] t) Q:=by
 subst hz
 have hi:=uj rfl hm (s:=s)
 generalize hI:J.fv 0 m 1=S at hi⊢
 refine dz hi ?_
 refine me (src:=S) (xs:=List.range m) (enc:=qc) (λU t=>(∃z,U=z::lQ)/\t=s) (λ_=>true) (λ_ v=>∃z:Int,v=.int z/\0<=z/\z<256) (λ_ _ h=>by rw[h.2];exact hi) ?_ ⟨⟨_,rfl⟩,rfl⟩ (by rw[hO,List.length_range];exact aC.V5 hm) ?_
 .rintro i _ _ _ ⟨⟨z,rfl⟩,rfl⟩
  exact⟨_,rfl,rfl,h _ _ λz hz=>⟨⟨z,rfl,hz⟩,⟨_,rfl⟩,rfl⟩⟩
 .rintro cI _ _ a ⟨_,rfl⟩
  rw[List.filter_eq_self.mpr (λ_ _=>rfl)] at a
  obtain⟨l,a9,a7,e3⟩:=Vg a
  rw[List.length_range] at a7
  refine hQ (m:=gE [.bp ([]++cI)] _) (a:=.bytes (l.map λi=>i.toNat.toUInt8)) ?_ (q _ (by rw[dW,a7]))
  show(ib cI).bind _=_
  rw[a9]
  exact if_pos ⟨by exact aC.V6 hm a7,e3⟩
noncomputable def pB:Nat->List (List UInt8)->List Fr
 |_,[]=>[]
 |i,d::r=>.st (4*(i:Int)) 0 d true::pB (i+1) r
theorem Dk(d:List UInt8):∀(dY:List (List UInt8)) (i:Nat),pB i (dY++[d])=pB i dY++[.st (4*((i+dY.length:Nat):Int)) 0 d true]
 |[],_=>rfl
 |x::dY,i=>by
  rw[List.cons_append,pB,Dk d dY (i+1),pB,List.cons_append,fJ,Nat.add_assoc,Nat.add_comm 1]
noncomputable abbrev Bj(N:Int):List Fr:=[.dT 10,.dT 20,.fX,.c7,.eu,.di N]
noncomputable def given(N:Int)(dY:List (List UInt8))(cy:List UInt8):List Fr:=Bj N++pB 0 dY++[.ek 0 cy]
structure lk (σ s:St) (p:Nat) (fs:List Fr):Prop where
 c:s.cells σ.next=some (.list (fs.map Fr.v))
 k:Keeps [p] σ s
 px:gC s p
 ne:σ.next≠p
section
variable{σ s:St}{p:Nat}{fs:List Fr}
theorem lk.jt(h:lk σ s p fs):d6 (.ref σ.next) s=true:=n7 h.c
theorem lk.v'(h:lk σ s p fs)(f:Fr)(a3:v=f.v)(aG:fs.length<=1000)(q:∀u,lk σ u p (fs++[f])->Q .none u):aJ (fo [.ref σ.next,v] s) Q:=by
 subst a3
 refine vV h.c (by rw[dW];exact aC.V8 aG) (q _ ⟨?_,h.k.aT (.inr (bt _)) (h.k.wf.lt h.c),h.px.keeps (ck h.ne.symm),h.ne⟩)
 rw[iG];exact hK
theorem lk.draw(h:lk σ s p fs)(hm:0<m)(q:∀(n:Nat) u,(n:Int)<m->lk σ u p fs->Q (.int n) u):a4 (g0 [.ref p,.int m] s) Q:=by
 refine(vd h.k.wf h.px hm).a5 ?_
 rintro _ u ⟨n,rfl,⟨ah,h1⟩,jZ,dd⟩
 obtain⟨n,rfl⟩:=Int.eq_ofNat_of_zero_le ah
 exact q n u h1 ⟨(dd.old σ.next (h.k.wf.lt h.c) λq=>h.ne (fB.mp q)).trans h.c,h.k.trans dd,jZ,h.ne⟩
end
theorem acH{σ s:St}{p i:Nat}(h:lk σ s p fs)(aG:fs.length<=1000)(q:∀u d kC,d.length<=30->lk σ u p (fs++[.st (4*(0+(i:Int)*1)) 0 d true])->Q .next [some (.ref p),some (.ref σ.next),some (qc i),kC] u):
 yu.p [some (.ref p),some (.ref σ.next),some (qc i),eg] s Q:=by
 refine h.draw (by decide) λn u aW h1=>?_
 refine gO h1.jt ?_
 refine Kl (m:=1+n) (z:=1+(n:Int)) (by exact aC.xY) (by exact aC.V9 aW) (λi lp b5=>?_) λd aB=>?_
 .exact b5 _ ⟨Int.fmod_nonneg_of_pos _ (by decide),Int.fmod_lt_of_pos _ (by decide)⟩
 .exact h1.v' (.st (4*(0+(i:Int)*1)) 0 d true) rfl aG λv h2=>q v d _ (by exact aC.V' aW aB) h2
theorem acG{σ:St}{p:Nat}(w:cG σ)(hp:gC σ p):a4 (sZ [.ref p] σ) λv s=>∃N dY cy,v=dG (given N dY cy)/\(1<=N/\N<=3)/\(dY.length=1\/dY.length=2)/\(∀d∈dY,d.length<=30)/\cy.length<=20/\gC s p/\Keeps [p] σ s:=by
 have dp:=hp.lt w
 have ah:lk σ (σ.new (.list (([.dT 10,.dT 20,.fX,.c7]:List Fr).map Fr.v))) p [.dT 10,.dT 20,.fX,.c7]:=⟨iA,(Keeps.refl w).new,hp.keeps (ig (d9 dp)),Nat.ne_of_gt dp⟩
 refine Ze ?_
 refine gO ah.jt ?_
 refine ah.v' .eu rfl (Nat.le_add_left 4 996) λk8 h1=>?_
 refine gO h1.jt ?_
 refine h1.draw (by decide) λn qZ aW h2=>?_
 refine h2.v' (.di (1+n)) rfl (Nat.le_add_left 5 995) λlW aR=>?_
 refine aR.draw (by decide) λk KJ hk h4=>?_
 refine dz (uj (m:=1+k) (z:=1+(k:Int)) (by exact aC.xY) (by exact aC.JV hk)) ?_
 refine kk (src:=.fv 0 (1+(k:Int)) 1) (enc:=qc) (xs:=List.range (1+k)) (A:=yu) (λr l s=>rq λdY d4 eg=>l=[some (.ref p),some (.ref σ.next),d4,eg]/\lk σ s p (Bj (1+n)++pB 0 dY)/\(∀d∈dY,d.length<=30)/\dY.length<=1+k/\(pB 0 dY).length=dY.length/\r=(List.range (1+k)).drop dY.length) (λ_ _ _ _=>uj (by exact aC.xY) (by exact aC.JV hk)) ?_ ?_
  ⟨[],_,_,rfl,h4,dJ _,Nat.zero_le _,rfl,rfl⟩
 .rintro i r _ s ⟨dY,d4,eg,rfl,g,aB,aG,gJ,aI⟩
  have hi:dY.length<(List.range (1+k)).length:=by
   refine eP λq=>?_
   rw[List.drop_eq_nil_of_le q] at aI;cases aI
  rw[List.drop_eq_getElem_cons hi,List.getElem_range] at aI
  obtain⟨rfl,rfl⟩:=List.cons.inj aI
  rw[List.length_range] at hi
  refine⟨_,rfl,acH g (by rw[gn,gJ];exact(by exact aC.Wa hk hi:6+dY.length<=1000)) λu d kC RJ g2=>⟨dY++[d],_,_,rfl,?_,λx av=>(h7.mp av).elim (aB x) λq=>by rw[fB.mp q];exact RJ,?_,?_,?_⟩⟩
  .rw[Dk,<-List.append_assoc,Nat.zero_add]
   rw[Int.mul_one,Int.zero_add] at g2
   exact g2
  .rw[gn];exact hi
  .rw[Dk,gn,gJ,gn];rfl
  .rw[gn];rfl
 .rintro _ s ⟨dY,d4,eg,rfl,g,aB,aG,gJ,aI⟩
  have dm:=List.drop_eq_nil_iff.mp aI.symm
  rw[List.length_range] at dm
  refine gO g.jt ?_
  refine g.draw (by decide) λm C8 hm g5=>?_
  refine Kl (m:=1+m) (z:=1+(m:Int)) (by exact aC.xY) (by exact aC.Wb hm) (λi lp b5=>b5 _ ⟨Int.fmod_nonneg_of_pos _ (by decide),Int.fmod_lt_of_pos _ (by decide)⟩) λcy tY=>?_
  refine g5.v' (.ek 0 cy) rfl (by rw[gn,gJ];exact(by exact aC.Wc hk aG:6+dY.length<=1000)) λu g6=>?_
  exact⟨1+n,dY,cy,wZ (bt _) g6.c,by exact aC.Wd aW,by exact aC.We hk aG dm,aB,by exact aC.Wg hm tY,g6.px.keeps (oW dp),g6.k.cut⟩
section
variable{G:gN}
noncomputable def l9(al:jJ)(pre:List Str):Option (Int×Str)->Prop
 |none=>∀k∈pre,tm al k=none
 |some (t,k)=>∃bE ba,pre=bE++k::ba/\tm al k=some t/\(∀x∈bE,∀dQ,tm al x=some dQ->t<dQ)/\∀x∈ba,∀dQ,tm al x=some dQ->t<=dQ
theorem l9.step(h:l9 al pre acc):l9 al (pre++[x]) (lY al acc x):=by
 unfold lY
 cases e:tm al x with
 |none=>
  cases acc with
  |none=>exactλk hk=>(h7.mp hk).elim (h k) λq=>by rw[fB.mp q];exact e
  |some a=>
   obtain⟨bE,ba,rfl,h1,h2,aR⟩:=h
   refine⟨bE,ba++[x],List.append_assoc ..,h1,h2,λy bF dQ ht=>(h7.mp bF).elim (λq=>aR y q dQ ht) λq=>?_⟩
   rw[fB.mp q,e] at ht;cases ht
 |some t=>
  cases acc with
  |none=>
   refine⟨pre,[],rfl,e,λy bF dQ ht=>?_,dJ _⟩
   rw[h y bF] at ht;cases ht
  |some a=>
   obtain⟨bE,ba,rfl,h1,h2,aR⟩:=h
   by_cases q:t<a.1
   .refine(show l9 al _ (if t<a.1 then some (t,x) else some a) from ?_)
    rw[if_pos q]
    refine⟨bE++a.2::ba,[],rfl,e,λy bF dQ ht=>?_,dJ _⟩
    rcases h7.mp bF with bF|bF
    .exact Int.lt_trans q (h2 y bF dQ ht)
    .rcases fj.mp bF with rfl|bF
     .rw[h1] at ht;cases ht;exact q
     .exact Int.lt_of_lt_of_le q (aR y bF dQ ht)
   .refine(show l9 al _ (if t<a.1 then some (t,x) else some a) from ?_)
    rw[if_neg q]
    refine⟨bE,ba++[x],List.append_assoc ..,h1,h2,λy bF dQ ht=>(h7.mp bF).elim (λq=>aR y q dQ ht) λp=>?_⟩
    rw[fB.mp p,e] at ht;cases ht;exact Int.not_lt.mp q
theorem l9.fold:∀{l pre:List Str} {acc:Option (Int×Str)},l9 al pre acc->l9 al (pre++l) (l.foldl (lY al) acc)
 |[],pre,_,h=>by rw[List.append_nil];exact h
 |x::l,pre,acc,h=>by
  have:=l9.fold (l:=l) (h.step (x:=x))
  rw[List.append_assoc] at this;exact this
theorem QH(hk:∀a∈al,a.1∈fe)(h:fe.foldl (lY al) none=some (t,k)):(∀x dQ,tm al x=some dQ->t<=dQ)/\(k,t)∈al/\∃ks,fe.filter (ki al t)=k::ks:=by
 have b:l9 al ([]++fe) (fe.foldl (lY al) none):=l9.fold (pre:=[]) (acc:=none) (l:=fe) (dJ _)
 rw[h,List.nil_append] at b
 obtain⟨bE,ba,e,h1,h2,aR⟩:=b
 refine⟨λx dQ ht=>?_,Dn h1,(ba.filter (ki al t)),?_⟩
 .have av:=hk _ (Dn ht)
  rw[e] at av
  rcases h7.mp av with av|av
  .exact Int.le_of_lt (h2 x av dQ ht)
  .rcases fj.mp av with rfl|av
   .rw[h1] at ht;cases ht;exact Int.le_refl _
   .exact aR x av dQ ht
 .rw[e,List.filter_append,List.filter_cons_of_pos (by unfold ki;rw[h1];exact decide_eq_true (Int.le_refl _)),List.filter_eq_nil_iff.mpr,List.nil_append]
  intro x av
  unfold ki
  cases e:tm al x with
  |none=>exact fY
  |some dQ=>exactλq=>absurd (h2 x av dQ e) (Int.not_lt.mpr (of_decide_eq_true q))
theorem Lv(f:Fr):c0 8 f.v Fr.c7.v=some (decide (f=.c7)):=by cases f<;>rfl
theorem abU(f:Fr):c0 8 f.v Fr.eu.v=some (decide (f=.eu)):=by cases f<;>rfl
theorem abW(f:Fr):c0 8 f.v Fr.fX.v=some (decide (f=.fX)):=by cases f<;>rfl
theorem abV{f:Fr}(hf:f.data=none):c0 8 f.v (Fr.di N).v=some (decide (f=.di N)):=by
 cases f with
 |di m=>
  by_cases h:m=N
  .subst h
   rw[decide_eq_true rfl]
   show some (_&&((m==m)&&_)&&_)=_
   rw[beq_self_eq_true m];rfl
  .rw[decide_eq_false λe=>h (Fr.di.inj e)]
   show some (_&&((m==N)&&_)&&_)=_
   rw[beq_eq_false_iff_ne.mpr h];rfl
 |st=>cases hf
 |ek=>cases hf
 |_=>rfl
theorem zd:∀{fs:List Fr},(∀f∈fs,c0 8 f.v x=some (decide (f=g)))->kO x (fs.map Fr.v)=some (decide (g∈fs))
 |[],_=>(congrArg some (decide_eq_false (hP))).symm
 |f::fs,h=>by
  obtain⟨h1,h⟩:=bO.mp h
  have aZ:=zd h
  show((c0 8 f.v x).bind λa=>(kO x (fs.map Fr.v)).map λb=>a||b)=_
  rw[h1,aZ]
  show some (decide (f=g)||decide (g∈fs))=_
  rw[<-Bool.decide_or]
  exact congrArg some (decide_eq_decide.mpr (by rw[fj,eq_comm]))
theorem FP:∀{fs:List Fr},(∀f∈fs,c0 8 f.v x=some (decide (f=g)))->oT x (fs.map Fr.v)=some (fs.countP λf=>decide (f=g))
 |[],_=>rfl
 |f::fs,h=>by
  obtain⟨h1,h⟩:=bO.mp h
  have aZ:=FP h
  show((c0 8 f.v x).bind λa=>(oT x (fs.map Fr.v)).map λn=>if a=true then n+1 else n)=_
  rw[h1,aZ,List.countP_cons]
  show some (if decide (f=g)=true then _ else _)=_
  split<;>rfl
theorem BU(h:∀f∈fs,c0 8 f.v g.v=some (decide (f=g))):m8 g.v (dG fs) s=some (decide (g∈fs)):=zd h
theorem rk.UA(h:rk fs ns)(hm:∀f∈fs,∀n,f=.dT n->n=33):ns.filter (λf=>f.iy==("max_data":Str))=[]\/ns.filter (λf=>f.iy==("max_data":Str))=[.dT 33]:=by
 have e:∀f∈ns.filter (λf=>f.iy==("max_data":Str)),f=.dT 33:=λf hf=>by
  obtain⟨h1,h2⟩:=gZ.mp hf
  cases f with
  |dT n=>rw[hm _ (h.sub _ h1) n rfl]
  |_=>cases h2
 have nd:((ns.filter (λf=>f.iy==("max_data":Str))).map Fr.key).Nodup:=(List.Sublist.map _ List.filter_sublist).nodup h.nd
 revert e nd
 generalize ns.filter (λf=>f.iy==("max_data":Str))=l
 intro e nd
 match l with
 |[]=>exact .inl rfl
 |[f]=>exact .inr (by rw[e f (.head _)])
 |f::g::r=>
  rw[e f (.head _),e g (.tail _ (.head _)),iH,iH,jj] at nd
  exact absurd (.head _) nd.1
theorem q1(h:G.fO f)(e:iD dn bl f=some g):G.fO g/\g.data=none/\(∀n,g=.dT n->n=33)/\g≠.c7/\(g=.eu->bl=true)/\(g=.fX->dn=false):=by
 cases f with
 |dT n=>cases e;exact⟨⟨⟨by decide,by decide⟩,trivial⟩,rfl,λn e=>by cases e;rfl,nofun,nofun,nofun⟩
 |fX=>
  cases dn with
  |true=>cases e
  |false=>cases e;exact⟨⟨trivial,trivial⟩,rfl,nofun,nofun,nofun,λ_=>rfl⟩
 |eu=>
  cases bl with
  |true=>cases e;exact⟨⟨trivial,trivial⟩,rfl,nofun,nofun,λ_=>rfl,nofun⟩
  |false=>cases e
 |di n=>cases e;exact⟨h,rfl,nofun,nofun,nofun,nofun⟩
 |_=>cases e
noncomputable abbrev B2(N:Int):List (List bq):=[Fr.key (.dT 33),Fr.key .fX,Fr.key .eu,Fr.key (.di N)]
theorem Ld(h:G.fO f)(e:iD dn bl f=some g):g.key∈B2 G.N:=by
 cases f with
 |dT n=>cases e;exact .head _
 |fX=>
  cases dn with
  |true=>cases e
  |false=>cases e;exact .tail _ (.head _)
 |eu=>
  cases bl with
  |true=>cases e;exact .tail _ (.tail _ (.head _))
  |false=>cases e
 |di n=>cases e;rw[show n=G.N from h.2];exact .tail _ (.tail _ (.tail _ (.head _)))
 |_=>cases e
structure L' (G:gN) (dn bl:Bool) (ft anew:List Fr):Prop where
 fO:∀f∈anew,G.fO f
 dT:anew.filter (λf=>f.iy==("max_data":Str))=[]\/anew.filter (λf=>f.iy==("max_data":Str))=[.dT 33]
 c7:Fr.c7∉anew
 eu:Fr.eu∈anew->bl=true
 fX:Fr.fX∈anew->dn=false
 duty:∀D:fk G,(∃f∈ft,D.does f)->∃f∈anew,D.does f
 fP:fP anew<=fP ft+4
theorem Jg(p:Fr->Bool):∀fs:List Fr,fP (fs.filter p)<=fP fs
 |[]=>bt _
 |f::fs=>by
  have:=Jg p fs
  rw[List.filter_cons]
  split
  .rw[pk,pk];exact aC.Wh this
  .rw[pk];exact aC.Wi this
theorem Ji:∀{fs:List Fr},(∀f∈fs,f.data=none)->fP fs=fs.length
 |[],_=>rfl
 |f::fs,h=>by
  obtain⟨h1,h⟩:=bO.mp h
  rw[pk,Ji h,fJ,Nat.add_comm]
  unfold Fr.eM;rw[h1]
theorem again(aU:∀f∈ft,G.fO f)(h:rk (ft.filterMap (iD dn bl)) ns):L' G dn bl ft (ns++ft.filter λf=>f.data.isSome):=by
 have t:∀g∈ns,∃f,G.fO f/\iD dn bl f=some g:=λg hm=>by
  obtain⟨f,hf,e⟩:=List.mem_filterMap.mp (h.sub g hm)
  exact⟨f,aU f hf,e⟩
 have plain:∀g∈ns,g.data=none:=λg hm=>by obtain⟨f,a,e⟩:=t g hm;exact(q1 a e).2.1
 have held:∀g∈ft.filter (λf=>f.data.isSome),G.fO g/\g.data.isSome=true:=λg hm=>⟨aU g (gZ.mp hm).1,(gZ.mp hm).2⟩
 have no:∀g,g.data=none->g∈ns++ft.filter (λf=>f.data.isSome)->g∈ns:=λg aB hm=>(h7.mp hm).elim id λq=>by
  have:=(held g q).2
  rw[aB] at this;cases this
 refine⟨λg hm=>(h7.mp hm).elim (λq=>?_) λq=>(held g q).1,?_,λhm=>?_,λhm=>?_,λhm=>?_,λD ⟨f,hf,d⟩=>?_,?_⟩
 .obtain⟨f,a,e⟩:=t g q
  exact(q1 a e).1
 .have hc:(ft.filter λf=>f.data.isSome).filter (λf=>f.iy==("max_data":Str))=[]:=List.filter_eq_nil_iff.mpr λg hm q=>by
   have:=(held g hm).2
   cases g<;>first|exact fY this|exact fY q
  rw[List.filter_append,hc,List.append_nil]
  refine h.UA λf hf n e=>?_
  obtain⟨x,av,c2⟩:=List.mem_filterMap.mp hf
  exact(q1 (aU x av) c2).2.2.1 n e
 .obtain⟨f,a,e⟩:=t _ (no _ rfl hm)
  exact(q1 a e).2.2.2.1 rfl
 .obtain⟨f,a,e⟩:=t _ (no _ rfl hm)
  exact(q1 a e).2.2.2.2.1 rfl
 .obtain⟨f,a,e⟩:=t _ (no _ rfl hm)
  exact(q1 a e).2.2.2.2.2 rfl
 .rcases D.told f d with q|q
  .exact⟨f,kD _ (gZ.mpr ⟨hf,q⟩),d⟩
  .obtain⟨g,e,k⟩:=q dn bl
   obtain⟨x,av,tJ⟩:=dI.mp (h.all g (List.mem_filterMap.mpr ⟨f,hf,e⟩))
   obtain⟨y,a,a7⟩:=t x av
   exact⟨x,l6 _ av,k x (q1 a a7).1 tJ⟩
 .have h1:=Jg (λf=>f.data.isSome) ft
  have h2:=sh h.nd (m:=B2 G.N) λk hk=>by
   obtain⟨x,av,rfl⟩:=dI.mp hk
   obtain⟨y,a,a7⟩:=t x av
   exact Ld a a7
  rw[dW] at h2
  have aR:ns.length<=4:=h2
  rw[xP,Ji plain];exact aC.Wj h1 aR
theorem UX{α bW:Type}{a b:α×bW}{l:List (α×bW)}(nd:(l.map (·.1)).Nodup)(ha:a∈l)(ag:b∈l)(e:a.1=b.1):a=b:=by
 obtain⟨i,hi,rfl⟩:=List.mem_iff_getElem.mp ha
 obtain⟨ai,cK,rfl⟩:=List.mem_iff_getElem.mp ag
 have:i=ai:=(List.getElem_inj (h₀:=by rw[dW];exact hi) (h₁:=by rw[dW];exact cK) nd).mp (by rw[List.getElem_map,List.getElem_map];exact e)
 subst this;rfl
theorem b'.UN(h:b' σ c S)(w:cG σ)(l:List (Str×List Fr)):b' ((σ.new (.list (l.map kT))).aT c.w (.cn (q6 {c with fl:=σ.next}))) {c with fl:=σ.next} {S with fl:=l}:=by
 have lt:=h.lt w
 have nd:=h.nd
 have old:∀{d x},σ.cells d=some x->d≠c.w->((σ.new (.list (l.map kT))).aT c.w (.cn (q6 {c with fl:=σ.next}))).cells d=some x:=λe aB=>(ck aB).trans ((ig (d9 (w.lt e))).trans e)
 unfold h8.all at nd
 obtain⟨ae,aK⟩:=jj.mp nd
 obtain⟨bC,dU⟩:=jj.mp aK
 have hw:∀d∈[c.c1,c.to,c.oc,c.en,c.al],d≠c.w:=λd aB e=>ae (e▸.tail _ aB)
 refine⟨?_,?_⟩
 .refine bO.mpr ⟨hK,bO.mpr ⟨(ck (Nat.ne_of_gt (lt _ c.xN))).trans iA,bO.mpr ⟨old h.c1 (hw _ (.head _)),bO.mpr ⟨old h.to (hw _ (.tail _ (.head _))),bO.mpr ⟨old h.oc (hw _ (.tail _ (.tail _ (.head _)))),
   bO.mpr ⟨old h.en (hw _ (.tail _ (.tail _ (.tail _ (.head _))))),bO.mpr ⟨old h.al (hw _ (.tail _ (.tail _ (.tail _ (.tail _ (.head _)))))),dJ _⟩⟩⟩⟩⟩⟩⟩
 .refine jj.mpr ⟨λq=>?_,jj.mpr ⟨λq=>?_,dU⟩⟩
  .rcases fj.mp q with e|q
   .exact d9 (lt _ c.xN) e
   .exact ae (.tail _ q)
  .exact Nat.lt_irrefl _ (lt σ.next (.tail _ (.tail _ q)))
structure tp (G:gN) (s:St) (p w aV cy dk:Nat) (dn bl:Bool) (nF S:f5) (ks:List Str) (ft:List Fr) (b2:Int) (B:Nat):Prop where
 hw:∃c:h8,c.w=w/\b' s c S/\∀d∈[p,cy,dk,aV],d∉c.all
 pool:gC s p
 wf:cG s
 bse:∃b,Bse G S b2 b/\b+51*ks.length<=B
 ak:∀k,k∈S.al.map (·.1)↔k∈S.fl.map (·.1)/\k∉ks
 lo:s.cells aV=some (.list (ft.map Fr.v))
 lg:∀f∈ft,G.fO f
 lm:fP ft+51*ks.length<=306
 nk:ks.Nodup
 kf:∀k∈ks,k∈S.fl.map (·.1)
 dce:s.cells cy=some (.b8 (rF dn))
 bce:s.cells dk=some (.b8 (rz bl))
 ne:cy≠p/\dk≠p/\aV≠p/\cy≠aV/\dk≠aV
 duty:∀D:fk G,D.live nF->D.live S\/∃f∈ft,D.does f
 to:S.to=nF.to
theorem BY(h:s.cells c=some (.list vs))(q:P vs):pZ (.ref c) s P:=by
 refine dz ?_ q
 unfold d1;dsimp only;rw[h]
theorem oo(h:E.p U s λv s=>R.p (U.set i (some v)) s Q):(cb.aj (cb.cc i E) R).p U s Q:=h
theorem qX(h:A.p U s (cb.C' R Q)):(cb.aj A R).p U s Q:=h
theorem YQ(h:b' s c S)(dc:S.fl.length<=6)(aG:∃a b,eJ [none,some 13] lQ=[a,b]/\b=some (.str k))(hw:lQ[7]? =some (some w))(Ah:w=.ref c.w)(hk:k∈S.fl.map (·.1))
 (q:∀a∈S.fl,a.1=k->Q (dG a.2) s):
 (TE.af a8 (.fM (.af a8 (.C 7) (.I (.str "flying"))) (eJ [none,some 13]) (c9 0) (.boolOf (.af cw (.af a8 (.C 0) (.I (.int 0))) (.C 1))) (.af a8 (.C 0) (.I (.int 1)))) (.I (.int 0))).p lQ s Q:=by
 subst Ah
 obtain⟨ir,_,qb,rfl⟩:=aG
 show(match lQ[7]? with|some (some v)=>_|_=>False)
 rw[hw]
 refine ez h.uc ?_
 refine BY h.fl ?_
 rw[qb]
 refine me (enc:=kT) (xs:=S.fl) (λU t=>(∃z,U=[z,some (.str k)])/\t=s) (λa=>a.1==k) (λa v=>v=dG a.2) (λ_ t ht=>by rw[ht.2];unfold d1;dsimp only;rw[h.fl]) ?_ ⟨⟨_,rfl⟩,rfl⟩ (by rw[hO];exact aC.CR dc) ?_
 .rintro a ha _ t ⟨⟨z,rfl⟩,ht⟩
  refine⟨_,rfl,rfl,?_⟩
  have i:(∃z,[some (kT a),some (.str k)]=[z,some (J.str k)])/\t=s:=⟨⟨_,rfl⟩,ht⟩
  exact dD.of (A:=True) (B:=True) (by cases(a.1==k)<;>trivial) (λ_=>⟨rfl,i⟩) λ_=>i
 .rintro cI _ _ a ⟨_,rfl⟩
  rw[nI a]
  obtain⟨x,av,nO⟩:=dI.mp hk
  have jW:x∈S.fl.filter λa=>a.1==k:=gZ.mpr ⟨av,by rw[nO];exact beq_self_eq_true k⟩
  cases hf:S.fl.filter λa=>a.1==k with
  |nil=>rw[hf] at jW;cases jW
  |cons y r=>
   have bF:y∈S.fl.filter λa=>a.1==k:=by rw[hf];exact .head _
   obtain⟨eM,fW⟩:=gZ.mp bF
   exact ez (Iq (vs:=dG y.2::r.map λa=>dG a.2) (i:=0) (by decide) (by decide) rfl) (q y eM (beq_iff_eq.mp fW))
theorem YS(h:b' s c S)(wf:cG s)(dc:S.fl.length<=6)(aG:∃a b,eJ [none,some 13] lQ=[a,b]/\b=some (.str k))(hw:lQ[7]? =some (some w))(Ah:w=.ref c.w)
 (q:∀u,b' u {c with fl:=s.next} {S with fl:=S.fl.filter λa=> !(a.1==k)}->Keeps [c.w] s u->s.next<u.next->Q .next lQ u):
 (cb.hL (.oV (.af a8 (.C 7) (.I (.str "flying"))) (eJ [none,some 13]) (c9 0) (.boolOf (.af gk (.af a8 (.C 0) (.I (.int 0))) (.C 1))) (.C 0)) (.C 7) (.I (.str "flying"))).p lQ s Q:=by
 subst Ah
 obtain⟨ir,_,qb,rfl⟩:=aG
 show(match lQ[7]? with|some (some v)=>_|_=>False)
 rw[hw]
 refine ez h.uc ?_
 refine BY h.fl ?_
 rw[qb]
 refine me (enc:=kT) (xs:=S.fl) (λU t=>(∃z,U=[z,some (.str k)])/\t=s) (λa=> !(a.1==k)) (λa v=>v=kT a) (λ_ t ht=>by rw[ht.2];unfold d1;dsimp only;rw[h.fl]) ?_ ⟨⟨_,rfl⟩,rfl⟩ (by rw[hO];exact aC.CR dc) ?_
 .rintro a ha _ t ⟨⟨z,rfl⟩,ht⟩
  refine⟨_,rfl,rfl,?_⟩
  have i:(∃z,[some (kT a),some (.str k)]=[z,some (J.str k)])/\t=s:=⟨⟨_,rfl⟩,ht⟩
  exact dD.of (A:=True) (B:=True) (by cases(!(a.1==k))<;>trivial) (λ_=>⟨rfl,i⟩) λ_=>i
 .rintro cI _ _ a ⟨_,rfl⟩
  rw[nI a]
  rename_i t _
  have h2:=h.UN wf (S.fl.filter λa=> !(a.1==k))
  have dp:=h.lt wf _ c.xN
  show(match lQ[7]? with|some (some v)=>_|_=>False)
  rw[hw]
  have mB:(t.new (.list ([]++(S.fl.filter λa=> !(a.1==k)).map kT))).cells c.w=some (.cn (q6 c)):=(ig (d9 dp)).trans h.w
  refine jq (x8 (a:=.str "flying") (v:=.ref t.next) mB (show 6<=1000000 by decide)) (q _ h2 ((Keeps.refl wf).new.aT (.inl (.head _)) (Nat.lt_succ_of_lt dp)) (gB _))
set_option genInjectivity true
theorem acE
 (h:tp G s p w aV cy dk dn bl nF S (k::ks) ft b2 B)(lD:B<=700000)
 (q:∀u cv Ur nx,tp G u p w aV cy dk dn bl nF cv ks Ur b2 B->Q .next [e5,some (.ref p),d4,eg,fz,fh,fi,some (.ref w),hM,some (.int turn),kA,kB,some (.ref aV),some (.str k),nx,l0,l1,l2] u):
 yx.p [e5,some (.ref p),d4,eg,fz,fh,fi,some (.ref w),hM,some (.int turn),kA,kB,some (.ref aV),some (.str k),nv,l0,l1,l2] s Q:=by
 obtain⟨⟨c,rfl,hw,aB⟩,pool,wf,⟨b,bse,ag⟩,ak,lo,lg,lm,nk,kf,dce,bce,⟨ae,aK,bC,dU,fQ⟩,duty,to⟩:=h
 rw[fJ] at ag lm
 obtain⟨UU,nk⟩:=jj.mp nk
 obtain⟨xw,kf⟩:=bO.mp kf
 have dc:=bse.wX
 refine oo ?_
 refine YQ (w:=.ref c.w) hw dc ?_ ?_ rfl xw λir HI tJ=>?_
 .exact⟨_,_,rfl,rfl⟩
 .rfl
 refine qX ?_
 refine YS (k:=k) (w:=.ref c.w) hw wf dc ?_ ?_ rfl λt ht qF _=>?_
 .exact⟨_,_,rfl,rfl⟩
 .rfl
 obtain⟨qw,rV⟩:=bse.row ir HI
 have hm:=qP ir.2
 have dm:=lO ir.2
 have pd:=lO ft
 have ey:∀d∈[p,cy,dk,aV],d∉({c with fl:=s.next}:h8).all:=λd hm q=>by
  have a9:=aB d hm
  have all:∀d∈[p,cy,dk,aV],d<s.next:=bO.mpr ⟨pool.lt wf,bO.mpr ⟨wf.lt dce,bO.mpr ⟨wf.lt bce,bO.mpr ⟨wf.lt lo,dJ _⟩⟩⟩⟩
  have a7:=all d hm
  rcases fj.mp q with e|q
  .exact a9 (by rw[e];exact .head _)
  .rcases fj.mp q with e|q
   .exact d9 a7 e
   .exact a9 (.tail _ (.tail _ q))
 have cf:∀{d x},d∈[p,cy,dk,aV]->s.cells d=some x->t.cells d=some x:=λhm e=>(qF.old _ (wf.lt e) λq=>aB _ hm (by rw[fB.mp q];exact c.xN)).trans e
 have mp:p∈[p,cy,dk,aV]:=.head _
 have dT:cy∈[p,cy,dk,aV]:=.tail _ (.head _)
 have og:dk∈[p,cy,dk,aV]:=.tail _ (.tail _ (.head _))
 have Uy:aV∈[p,cy,dk,aV]:=.tail _ (.tail _ (.tail _ (.head _)))
 have Kr:gC t p:=by obtain⟨x,y,z,e,r⟩:=pool;exact⟨x,y,z,cf mp e,r⟩
 generalize aw:({c with fl:=s.next}:h8)=cp at ht ey
 have tW:cp.w=c.w:=by rw[<-aw]
 rw[<-tW]
 generalize hI:({S with fl:=S.fl.filter λa=> !(a.1==k)}:f5)=i4 at ht
 have jP:Bse G i4 b2 b:=by
  rw[<-hI]
  exact⟨(List.Sublist.map _ List.filter_sublist).nodup bse.nd,λa ha=>bse.kd a (gZ.mp ha).1,bse.an,bse.tm,λa ha=>bse.row a (gZ.mp ha).1,⟨bse.came.oc,bse.came.en,bse.came.c1⟩,bse.lca,bse.lto⟩
 have Cp:∀x,x∈i4.fl.map (·.1)↔x∈S.fl.map (·.1)/\x≠k:=λx=>by
  rw[<-hI]
  constructor
  .intro av
   obtain⟨a,ha,rfl⟩:=dI.mp av
   obtain⟨eM,fW⟩:=gZ.mp ha
   exact⟨dI.mpr ⟨a,eM,rfl⟩,λe=>by rw[e,beq_self_eq_true] at fW;cases fW⟩
  .rintro⟨av,e⟩
   obtain⟨a,ha,rfl⟩:=dI.mp av
   exact dI.mpr ⟨a,gZ.mpr ⟨ha,by rw[beq_eq_false_iff_ne.mpr e];rfl⟩,rfl⟩
 have E6:∀x,x∈i4.al.map (·.1)↔x∈i4.fl.map (·.1)/\x∉ks:=λx=>by
  rw[Cp,show i4.al=S.al by rw[<-hI],ak,fj,not_or,and_assoc]
 have xw:∀x∈ks,x∈i4.fl.map (·.1):=λx av=>(Cp x).mpr ⟨kf x av,λe=>UU (e▸av)⟩
 have Gh:∀D:fk G,D.live nF->(D.live i4\/∃f∈ft,D.does f)\/∃f∈ir.2,D.does f:=λD ao=>by
  rcases duty D ao with(x|⟨a,ha,x⟩)|x
  .exact .inl (.inl (.inl (D.other S i4 (by rw[<-hI]) (by rw[<-hI]) (by rw[<-hI]) x)))
  .by_cases e:a.1=k
   .rw[UX bse.nd ha HI (e.trans tJ.symm)] at x
    exact .inr x
   .exact .inl (.inl (.inr ⟨a,by rw[<-hI];exact gZ.mpr ⟨ha,by rw[beq_eq_false_iff_ne.mpr e];rfl⟩,x⟩))
  .exact .inl (.inr x)
 have Li:i4.to=nF.to:=by rw[<-hI];exact to
 clear hI Cp duty ak kf to
 have ext:∀u,b' u cp i4->cG u->gC u p->(∀{d x},d∈[cy,dk,aV]->s.cells d=some x->u.cells d=some x)->
  dD (d6 (.ref aV) u) (aJ (nP [.ref aV,dG ir.2] u) λ_ v=>Q .next [e5,some (.ref p),d4,eg,fz,fh,fi,some (.ref cp.w),hM,some (.int turn),kA,kB,some (.ref aV),some (.str k),some (dG ir.2),l0,l1,l2] v) False:=λu bM ka nh jy=>by
  have Cm:=jy (.tail _ (.tail _ (.head _))) lo
  refine gO (n7 Cm) ?_
  refine ER Cm (by rw[dW,dW];exact aC.Wk lm rV hm dm pd) ?_
  have e':∀{d},d≠aV->(u.aT aV (.list (ft.map Fr.v++ir.2.map Fr.v))).cells d=u.cells d:=ck
  rw[tW]
  refine q _ i4 (ft++ir.2) _ ⟨⟨cp,tW,bM.sk λd hm=>e' λe=>ey aV Uy (e▸hm),ey⟩,nh.keeps (e' bC.symm),ka.aT (ka.lt Cm),⟨b,jP,by exact aC.Wl ag⟩,E6,by rw[iG];exact hK,λf hf=>(h7.mp hf).elim (lg f) (qw f),by rw[xP];exact aC.Wm lm rV hm,nk,xw,
   (e' dU).trans (jy (.head _) dce),(e' fQ).trans (jy (.tail _ (.head _)) bce),⟨ae,aK,bC,dU,fQ⟩,λD ao=>?_,Li⟩
  rcases Gh D ao with(x|⟨f,hf,x⟩)|⟨f,hf,x⟩
  .exact .inl x
  .exact .inr ⟨f,l6 _ hf,x⟩
  .exact .inr ⟨f,kD _ hf,x⟩
 have come:∀u,b' u cp i4->cG u->gC u p->(∀{d x},d∈[cy,dk,aV]->s.cells d=some x->u.cells d=some x)->
  a4 (ma [.ref cp.w,dG ir.2] u) λ_ v=>Q .next [e5,some (.ref p),d4,eg,fz,fh,fi,some (.ref cp.w),hM,some (.int turn),kA,kB,some (.ref aV),some (.str k),some (dG ir.2),l0,l1,l2] v:=λu bM ka nh jy=>by
  refine(DC (fs:=ir.2) ka bM (λf hf=>(qw f hf).1) (jP.came.Di (by exact aC.Wn rV hm dm) (by have:=jP.lca;exact aC.Wo lD ag this))).fH λv hc=>?_
  obtain⟨a3,mD⟩:=hc
  obtain⟨a9,a7,e3⟩:=p8 ir.2 i4
  have dB:∀{d x},d∈[cy,dk,aV]->s.cells d=some x->v.cells d=some x:=λhm e=>(mD.old _ (ka.lt (jy hm e)) (ey _ (.tail _ hm))).trans (jy hm e)
  rw[tW]
  refine q _ (gQ i4 ir.2) ft _ ⟨⟨cp,tW,a3,ey⟩,nh.keeps (mD.old p (nh.lt ka) (ey p mp)),mD.wf,⟨b+51,jP.ju ⟨qw,rV⟩,by exact aC.Wq ag⟩,by rw[a9,e3];exact E6,dB (.tail _ (.tail _ (.head _))) lo,lg,by exact aC.Ws lm,nk,by rw[a9];exact xw,dB (.head _) dce,dB (.tail _ (.head _)) bce,⟨ae,aK,bC,dU,fQ⟩,λD ao=>?_,a7.trans Li⟩
  rcases Gh D ao with((x|⟨a,ha,x⟩)|x)|x
  .exact .inl (.inl (D.keeps x))
  .exact .inl (.inr ⟨a,by rw[a9];exact ha,x⟩)
  .exact .inr x
  .exact .inl (.inl (D.ju x))
 have ic:∀{d x},d∈[cy,dk,aV]->s.cells d=some x->t.cells d=some x:=λhm e=>cf (.tail _ hm) e
 have last:∀u,b' u cp i4->cG u->gC u p->(∀{d x},d∈[cy,dk,aV]->s.cells d=some x->u.cells d=some x)->
  dD ((turn:Int)==0) (dD (d6 (.ref aV) u) (aJ (nP [.ref aV,dG ir.2] u) λ_ v=>Q .next [e5,some (.ref p),d4,eg,fz,fh,fi,some (.ref cp.w),hM,some (.int turn),kA,kB,some (.ref aV),some (.str k),some (dG ir.2),l0,l1,l2] v) False)
   (a4 (ma [.ref cp.w,dG ir.2] u) λ_ v=>Q .next [e5,some (.ref p),d4,eg,fz,fh,fi,some (.ref cp.w),hM,some (.int turn),kA,kB,some (.ref aV),some (.str k),some (dG ir.2),l0,l1,l2] v):=λu bM ka nh jy=>by
  cases(turn:Int)==0
  .exact come u bM ka nh jy
  .exact ext u bM ka nh jy
 refine oS (p:=(turn:Int)<4) (λ_=>?_) λ_=>last t ht qF.wf Kr ic
 refine(vd qF.wf Kr (by decide)).a5 ?_
 rintro _ u ⟨n,rfl,_,nh,jy⟩
 have bM:=ht.keeps qF.wf jy λd hm e=>ey p mp (by rw[<-fB.mp e];exact hm)
 have dB:∀{d x},d∈[cy,dk,aV]->s.cells d=some x->u.cells d=some x:=λhm e=>(jy.old _ (qF.wf.lt (ic hm e)) λq=>by
  have all:∀d∈[cy,dk,aV],d≠p:=bO.mpr ⟨ae,bO.mpr ⟨aK,bO.mpr ⟨bC,dJ _⟩⟩⟩
  exact all _ hm (fB.mp q)).trans (ic hm e)
 exact oS (p:=0<n) (λ_=>ext u bM jy.wf nh dB) λ_=>last u bM jy.wf nh dB
set_option genInjectivity false
theorem Gb(h:s.cells c=some (.b8 []))(hk:toKey i=some k):oY c [(i,v)] s=some (s.aT c (.b8 [(k,v)])):=by
 show(nM c i v s).bind (oY c [])=_
 unfold nM
 rw[h]
 dsimp only
 rw[hk];rfl
theorem YH(aG:cI.length+vs.length<=1000000)(q:Q (.bp (cI++vs)) s):aJ (cM [.bp cI,.bp vs] s) Q:=j8 (p:=cI.length+vs.length<=1000000) aG q
structure p0 (G:gN) (s:St) (p w cy dk:Nat) (dn bl:Bool) (S:f5) (b2:Int) (b:Nat):Prop where
 hw:∃c:h8,c.w=w/\b' s c S/\∀d∈[p,cy,dk],d∉c.all
 pool:gC s p
 wf:cG s
 bf:Inv G S b2 b
 dce:s.cells cy=some (.b8 (rF dn))
 bce:s.cells dk=some (.b8 (rz bl))
 ne:cy≠p/\dk≠p
theorem UY(o:Option (Int×Str)):oh (wB o)=some o.isNone:=by cases o<;>rfl
theorem uP(h:T.p U s λc t=>dD c (A.p U t Q) (B.p U t Q)):(cb.bV T A B).p U s Q:=h
theorem uR(h:R.p U s Q):cb.aD.p U s (cb.C' R Q):=h
theorem CV{K:Bool->St->Prop}(h:K false s):f3.fN.p U s K:=h
theorem sx(h:T.p U s λc t=>dD c (Q true t) (MB.p U t Q)):(f3.c3 T MB).p U s Q:=h
theorem CU(h:E.p U s λv t=>pq v λb=>Q b t):(f3.boolOf E).p U s Q:=h
theorem Kj(h:A.p U s λx t=>B.p U t λy u=>aJ (F [x,y] u) Q):(TE.af F A B).p U s Q:=h
theorem CW{fs:List Fr}(h:∀P:J->St->Prop,P src s->E.p U s P)(hs:d1 src s=some (fs.map Fr.v))(aG:fs.length<=900000)(q:Q (dG (fs.filter λf=>f.iy==kd)) s):
 (TE.fM E (eJ [none]) (c9 0) (.boolOf (.af cw (.af a8 (.C 0) (.I (.int 0))) (.I (.str kd)))) (.C 0)).p U s Q:=by
 refine h _ ?_
 refine dz hs ?_
 refine me (src:=src) (λl t=>(∃z,l=[z])/\t=s) (λf:Fr=>f.iy==kd) (λf v=>v=f.v) (λ_ t h=>by rw[h.2];exact hs) ?_ ⟨⟨_,rfl⟩,rfl⟩ (by rw[hO];exact aC.Wt aG) ?_
 .rintro f _ _ t ⟨⟨z,rfl⟩,ht⟩
  refine⟨_,rfl,?_⟩
  refine ez f.r2 ⟨rfl,?_⟩
  have i:(∃z,[some f.v]=[z])/\t=s:=⟨⟨_,rfl⟩,ht⟩
  exact dD.of (A:=True) (B:=True) (by cases(f.iy==kd)<;>trivial) (λ_=>⟨rfl,i⟩) λ_=>i
 .rintro cI _ t a ⟨_,ht⟩
  rw[nI a,ht];exact q
theorem YI{K:Bool->St->Prop}(ag:s.cells dk=some (.b8 (rz bl)))(oE:cG s)(k:Keeps [] s u)(h:Fr.eu∈anew->bl=true)(q:∀t,Keeps [] s t->K false t):
 (f3.fC (.boolOf (.af fV (.bR (.aa (.I (.str "data_blocked")) (.aa (.I (.int 9)) (.ar)))) (.C 8))) (.fC (.boolOf (.af cw (.C 6) (.gR (.b8 [])))) (.e4))).p (i'::bE::ba::cY::qG::ie::some (.ref dk)::qH::some (dG anew)::l) u K:=by
 have bM:=(k.old dk (oE.lt ag) hP).trans ag
 refine rj (BU (g:=.eu) λf _=>abU f) ?_
 refine oS (λm=>?_) λ_=>q u k
 have e:=h m
 subst e
 exact vW (eq_td ((ig (d9 (k.wf.lt bM))).trans bM) iA) (q _ k.new)
theorem YL{K:Bool->St->Prop}(ag:s.cells cy=some (.b8 (rF dn)))(oE:cG s)(k:Keeps [] s u)(h:Fr.fX∈anew->dn=false)(q:∀t,Keeps [] s t->K false t):
 (f3.fC (.boolOf (.af fV (.bR (.aa (.I (.str "stop_sending")) (.aa (.I (.int 4)) (.aa (.I (.int 7)) (.ar))))) (.C 8))) (.fC (.boolOf (.af gk (.C 5) (.gR (.b8 [])))) (.e4))).p (i'::bE::ba::cY::qG::some (.ref cy)::r6::qH::some (dG anew)::l) u K:=by
 have bM:=(k.old cy (oE.lt ag) hP).trans ag
 refine rj (BU (g:=.fX) λf _=>abW f) ?_
 refine oS (λm=>?_) λ_=>q u k
 have e:=h m
 subst e
 exact yO (eq_td ((ig (d9 (k.wf.lt bM))).trans bM) iA) (q _ k.new)
theorem acA{s:St}{dn bl:Bool}{R B:Nat}{Q:fT->Loc->St->Prop}
 (h:tp G s p w aV cy dk dn bl nF S [] ft b2 B)(lD:B<=680000)(gI:32<=R/\R<=51)
 (q:∀u cv jF,p0 G u p w cy dk dn bl cv b2 (B+51*320)->(∀D:fk G,D.live nF->D.live cv)->cv.to.countP (λf=>decide (f=.c7))=nF.to.countP (λf=>decide (f=.c7))->
   Q .next [e5,some (.ref p),d4,some (.int R),some (.int b2),some (.ref cy),some (.ref dk),some (.ref w),jF,q7,kA,kB,some (.ref aV),oF,nv,l0,l1,l2] u):
 D0.p [e5,some (.ref p),d4,some (.int R),some (.int b2),some (.ref cy),some (.ref dk),some (.ref w),hM,q7,kA,kB,some (.ref aV),oF,nv,l0,l1,l2] s Q:=by
 obtain⟨⟨c,rfl,hw,aB⟩,pool,wf,⟨b,bse,ag⟩,ak,lo,lg,lm,nk,kf,dce,bce,⟨ae,aK,bC,dU,fQ⟩,duty,to⟩:=h
 have pe:fP ft<=306:=lm
 have dm:=lO ft
 refine oo ?_
 refine jq (Gb iA rfl) ?_
 have dd:Keeps [] s ((s.new (.b8 [])).aT s.next (.b8 r')):=(Keeps.refl wf).new.aT (.inr (bt _)) (gB _)
 have a9:((s.new (.b8 [])).aT s.next (.b8 r')).cells s.next=some (.b8 r'):=hK
 have ze:∀{d x},s.cells d=some x->((s.new (.b8 [])).aT s.next (.b8 r')).cells d=some x:=λe=>(dd.old _ (wf.lt e) hP).trans e
 refine(acZ (dn:=dn) (bl:=bl) (fs:=ft) (K:=B2 G.N) dd.wf (ze lo) a9 (ze bce) (ze dce) (by exact aC.JW pe dm) (λf hf=>?_) (Nat.le_add_left 4 2)).a5 ?_
 .obtain⟨x,av,e⟩:=List.mem_filterMap.mp hf
  exact Ld (lg x av) e
 rintro _ k8 ⟨ns,rfl,Ct,g1⟩
 have gv:=dd.gS g1
 have nH:=again lg Ct
 refine(acJ (src:=.ref aV) (fs:=ft) gv.wf (λu g=>?_) (by exact aC.JW pe dm)).a5 ?_
 .unfold d1;dsimp only;rw[g.cells,gv.old aV (wf.lt lo) hP,lo]
 rintro _ qZ ⟨rfl,g2⟩
 have ic:=gv.gS g2
 have w':=nH.fP
 have kb:=lO (ns++ft.filter λf=>f.data.isSome)
 refine YH (by rw[<-gn,<-iG,dW];exact aC.Wu pe w' kb) ?_
 rw[<-iG]
 generalize ns++ft.filter (λf=>f.data.isSome)=anew at nH w' kb
 refine qX ?_
 refine uP ?_
 refine sx ?_
 refine CU ?_
 refine Kj ?_
 refine CW (fs:=anew) (src:=dG anew) (λP h=>h) rfl (by exact aC.Wv pe w' kb) ?_
 refine Mq (r:=true) (by rcases nH.dT with e|e<;>rw[e]<;>rfl) ?_
 refine rj (BU (g:=.c7) λf _=>Lv f) ?_
 refine f9 (decide_eq_false nH.c7) ?_
 refine CV ?_
 refine f9 rfl ?_
 refine uR ?_
 refine qX ?_
 refine uP ?_
 refine sx ?_
 refine YI bce wf ic nH.eu λu jy=>?_
 refine sx ?_
 refine YL dce wf jy nH.fX λv mD=>?_
 have at_:∀{d x},s.cells d=some x->v.cells d=some x:=λe=>(mD.old _ (wf.lt e) hP).trans e
 have qQ:mb G v p c S b2 B:=⟨hw.keeps wf mD λ_ _=>hP,pool.keeps (mD.old p (pool.lt wf) hP),⟨⟨bse.nd,bse.kd,bse.an,bse.tm,bse.row,bse.came,cm bse.lca ag,cm bse.lto ag⟩,λx=>(ak x).trans ⟨λh=>h.1,λh=>⟨h,hP⟩⟩⟩,mD.wf⟩
 refine(LY (fs:=anew) (aB p (.head _)) qQ (by exact aC.Ww pe w') (by exact aC.Wx lD) nH.fO gI).fH λt hc=>?_
 obtain⟨cv,xT,qF,jR,j1⟩:=hc
 have al:∀d∈[cy,dk],∀x,s.cells d=some x->t.cells d=some x:=λd hm x e=>(qF.old d (mD.wf.lt (at_ e)) λq=>by
  rcases fj.mp q with e|q
  .have:∀d∈[cy,dk],d≠p:=bO.mpr ⟨ae,bO.mpr ⟨aK,dJ _⟩⟩
   exact this d hm e
  .have:∀d∈[cy,dk],d∉c.all:=bO.mpr ⟨aB cy (.tail _ (.head _)),bO.mpr ⟨aB dk (.tail _ (.tail _ (.head _))),dJ _⟩⟩
   exact this d hm q).trans (at_ e)
 refine q _ cv _ ⟨⟨c,rfl,xT.hw,bO.mpr ⟨aB p (.head _),bO.mpr ⟨aB cy (.tail _ (.head _)),bO.mpr ⟨aB dk (.tail _ (.tail _ (.head _))),dJ _⟩⟩⟩⟩,xT.pool,xT.wf,xT.bf,al cy (.head _) _ dce,al dk (.tail _ (.head _)) _ bce,⟨ae,aK⟩⟩ (λD ao=>jR D ?_) ?_
 .rcases duty D ao with x|x
  .exact .inl x
  .exact .inr (nH.duty D x)
 .have hc:anew.countP (λf=>decide (f=.c7))=0:=List.countP_eq_zero.mpr λf hf e=>by
   rw[of_decide_eq_true e] at hf
   exact nH.c7 hf
  rw[j1,to,hc,Nat.add_zero]
set_option genInjectivity true
theorem ac0{p w cy dk turn:Nat}{R b:Nat}
 (h:p0 G s p w cy dk dn bl S b2 b)(lD:b<=600000)(gI:32<=R/\R<=51)
 (q:∀u cv JA jF LP LQ LR pI nx fl,p0 G u p w cy dk dn bl cv JA (b+51*326)->(∀D:fk G,D.live S->D.live cv)->cv.to.countP (λf=>decide (f=.c7))=S.to.countP (λf=>decide (f=.c7))->(fl=.next\/fl=.brk)->
   Q fl [e5,some (.ref p),d4,some (.int R),some (.int JA),some (.ref cy),some (.ref dk),some (.ref w),jF,some (.int turn),LP,LQ,LR,pI,nx,l0,l1,l2] u):
 yy.p [e5,some (.ref p),d4,some (.int R),some (.int b2),some (.ref cy),some (.ref dk),some (.ref w),hM,some (.int turn),kA,kB,sR,oF,nv,l0,l1,l2] s Q:=by
 obtain⟨⟨c,rfl,hw,aB⟩,pool,wf,bf,dce,bce,⟨ae,aK⟩⟩:=h
 have kd:∀a∈S.al,a.1∈fe:=λa ha=>by
  obtain⟨x,av,e⟩:=dI.mp ((bf.ak a.1).mp (dI.mpr ⟨a,ha,rfl⟩))
  rw[<-e];exact bf.kd x av
 have keep:∀{u} (g:cB s u),p0 G u p c.w cy dk dn bl S b2 b:=λg=>⟨⟨c,rfl,hw.gS g,aB⟩,pool.keeps (by rw[g.cells]),g.wf wf,bf,by rw[g.cells];exact dce,by rw[g.cells];exact bce,⟨ae,aK⟩⟩
 refine oo ?_
 refine ez hw.ub ?_
 refine uO hw.al ?_
 refine(LZ wf).fH λk8 g1=>?_
 refine qX ?_
 refine uP ?_
 refine ES (UY _) ?_
 cases hf:fe.foldl (lY S.al) none with
 |none=>
  obtain⟨S7,Y1,ab3,Tz,iL,bU,UJ⟩:=keep g1
  exact q k8 S b2 _ _ _ _ _ _ .brk ⟨S7,Y1,ab3,Tz.a5 (Nat.le_add_right _ _),iL,bU,UJ⟩ (λD ao=>ao) rfl (.inr rfl)
 |some cf=>
  obtain⟨t,k⟩:=cf
  obtain⟨rS,Sv,ks,kX⟩:=QH kd hf
  have Bq:=bf.tm _ Sv
  have mA:=hw.gS g1
  refine uR ?_
  refine qX ?_
  refine uP ?_
  refine sx ?_
  refine f9 (b:=decide (t<b2)) (decide_eq_false (by have:b2<=t:=Bq;exact aC.Wy this)) ?_
  refine sx ?_
  refine CU ?_
  refine ez mA.ub ?_
  refine uQ mA.al ?_
  refine(acF (g1.wf wf) mA.al).fH λqZ g2=>?_
  rw[show wV S.al=.int t by unfold wV;rw[hf]]
  refine f9 (b:= !(t==t)) (by rw[beq_self_eq_true];rfl) ?_
  have g12:=g1.trans g2
  have mB:=hw.gS g12
  refine CV ?_
  refine f9 rfl ?_
  refine uR ?_
  refine oo ?_
  refine ez mB.ub ?_
  refine uQ mB.al ?_
  refine(acX (g12.wf wf) mB.al bf.an (by have:=bf.E7;exact aC.JT this) rS kX).fH λlW hc=>?_
  obtain⟨jM,ic⟩:=hc
  refine qX ?_
  refine uP ?_
  refine sx ?_
  refine CU ?_
  refine f9 (b:= !(k==k)) (by rw[beq_self_eq_true];rfl) ?_
  refine CV ?_
  refine f9 rfl ?_
  refine uR ?_
  have qz:=mB.KR (g12.wf wf) ic jM
  have uk:Keeps [c.al] s lW:=(g12.keeps wf).trans ic
  have Ff:∀{d x},d∈[p,cy,dk]->s.cells d=some x->lW.cells d=some x:=λhm e=>(uk.old _ (wf.lt e) λq=>aB _ hm (by rw[fB.mp q];exact c.xM)).trans e
  have cY:∀d∈[p,cy,dk],d<lW.next:=bO.mpr ⟨jH (pool.lt wf) uk.next,bO.mpr ⟨jH (wf.lt dce) uk.next,bO.mpr ⟨jH (wf.lt bce) uk.next,dJ _⟩⟩⟩
  have HL:=qz.lt ic.wf
  have HX:(k::ks).length<=6:=by rw[<-kX];exact List.length_filter_le ..
  have R8:∀x∈k::ks,x∈S.al.map (·.1):=λx av=>by
   rw[<-kX] at av
   have:=(gZ.mp av).2
   unfold ki at this
   cases e:tm S.al x with
   |none=>rw[e] at this;cases this
   |some y=>exact dI.mpr ⟨_,Dn e,rfl⟩
  have Jf:tp G (lW.new (.list [])) p c.w lW.next cy dk dn bl S {S with al:=S.al.filter λa=> !((k::ks).contains a.1)} (k::ks) [] t (b+306):={
   hw:=⟨c,rfl,qz.sk λd hm=>ig (d9 (HL d hm)),bO.mpr ⟨aB p (.head _),bO.mpr ⟨aB cy (.tail _ (.head _)),bO.mpr ⟨aB dk (.tail _ (.tail _ (.head _))),bO.mpr ⟨λq=>Nat.lt_irrefl _ (HL _ q),dJ _⟩⟩⟩⟩⟩
   pool:=pool.keeps ((ig (d9 (cY p (.head _)))).trans (uk.old p (pool.lt wf) λq=>aB p (.head _) (by rw[fB.mp q];exact c.xM)))
   wf:=ic.wf.new
   bse:=⟨b,⟨bf.nd,bf.kd,(List.Sublist.map _ List.filter_sublist).nodup bf.an,λa ha=>rS a.1 a.2 (Lh bf.an (gZ.mp ha).1),bf.row,⟨bf.came.oc,bf.came.en,bf.came.c1⟩,bf.lca,bf.lto⟩,by exact aC.Wz HX⟩
   ak:=λx=>by
    rw[<-bf.ak]
    constructor
    .intro av
     obtain⟨a,ha,rfl⟩:=dI.mp av
     obtain⟨eM,fW⟩:=gZ.mp ha
     exact⟨dI.mpr ⟨a,eM,rfl⟩,λq=>by rw[List.contains_iff_mem.mpr q] at fW;cases fW⟩
    .rintro⟨av,aW⟩
     obtain⟨a,ha,rfl⟩:=dI.mp av
     exact dI.mpr ⟨a,gZ.mpr ⟨ha,by rw[Bool.eq_false_iff.mpr λq=>aW (List.contains_iff_mem.mp q)];rfl⟩,rfl⟩
   lo:=iA
   lg:=dJ _
   lm:=by show 0+_<=_;exact aC.WA HX
   nk:=by rw[<-kX];exact List.Sublist.nodup List.filter_sublist (by decide)
   kf:=λx av=>(bf.ak x).mp (R8 x av)
   dce:=(ig (d9 (cY cy (.tail _ (.head _))))).trans (Ff (.tail _ (.head _)) dce)
   bce:=(ig (d9 (cY dk (.tail _ (.tail _ (.head _)))))).trans (Ff (.tail _ (.tail _ (.head _))) bce)
   ne:=⟨ae,aK,Nat.ne_of_gt (cY p (.head _)),d9 (cY cy (.tail _ (.head _))),d9 (cY dk (.tail _ (.tail _ (.head _))))⟩
   duty:=λD ao=>.inl (ao.elim (λx=>.inl (D.other S _ rfl rfl rfl x)) .inr)
   to:=rfl}
  generalize{S with al:=S.al.filter λa=> !((k::ks).contains a.1)}=i4 at Jf
  refine oo ?_
  refine dz rfl ?_
  refine kk (src:=.bp ((k::ks).map J.str)) (enc:=J.str) (xs:=k::ks) (A:=yx) (λr l u=>v7 λcv ft pI nx=>l=[e5,some (.ref p),d4,some (.int R),some (.int t),some (.ref cy),some (.ref dk),some (.ref c.w),hM,some (.int turn),some (wB (some (t,k))),some (.bp ((k::ks).map J.str)),some (.ref lW.next),pI,nx,l0,l1,l2]/\
   tp G u p c.w lW.next cy dk dn bl S cv r ft t (b+306)) (λ_ _ _ _=>rfl) ?_ ?_ ⟨i4,[],_,_,rfl,Jf⟩
  .rintro x r _ u ⟨cv,ft,pI,nx,rfl,m⟩
   exact⟨_,rfl,acE m (by exact aC.WC lD) λv oK Us y fW=>⟨oK,Us,_,_,rfl,fW⟩⟩
  .rintro _ u ⟨cv,ft,pI,nx,rfl,m⟩
   exact acA m (by exact aC.WD lD) gI λv oK jF qM jR j1=>q v oK t _ _ _ _ _ _ .next (by rw[show b+51*326=b+306+51*320 by exact aC.WE];exact qM) jR j1 (.inl rfl)
end
section
noncomputable abbrev mR:=List (bq×List UInt8)
noncomputable def iV(hs:mR)(nm:bq):Option (List UInt8):=(hs.find? λe=>decide (e.1=nm)).map (·.2)
theorem xK(h:iV hs nm=some d):(nm,d)∈hs:=by
 unfold iV at h
 obtain⟨a,ha,rfl⟩:=fS.mp h
 have q:=List.find?_some (p:=λe:bq×List UInt8=>decide (e.1=nm)) ha
 rw[<-(of_decide_eq_true q:a.1=nm)];exact List.mem_of_find?_eq_some ha
noncomputable def u9(hs:mR):List bq->Option Int
 |[nm,.int i]=>(iV hs nm).bind λd=>if 0<=i then(d[i.toNat]?).map λb=>(b.toNat:Int) else none
 |_=>none
noncomputable def yk(hs:mR):bq->Option Int
 |.int s=>(iV hs (.int s)).map λd=>(d.length:Int)
 |_=>none
noncomputable def wy(e:bq×List UInt8):List (List bq):=(List.range e.2.length).map λi:Nat=>[e.1,.int (i:Int)]
theorem Lp(h:u9 hs k=some v):∃nm d,∃i:Nat,k=[nm,.int i]/\iV hs nm=some d/\i<d.length:=by
 rcases k with _|⟨nm,_|⟨_|i|_,_|_⟩⟩
 .exact aq h
 .exact aq h
 .exact aq h
 .exact aq h
 .obtain⟨d,e,h⟩:=Option.bind_eq_some_iff.mp h
  by_cases hi:0<=i
  .rw[if_pos hi] at h
   obtain⟨b,ag,_⟩:=fS.mp h
   obtain⟨n,rfl⟩:=Int.eq_ofNat_of_zero_le hi
   exact⟨nm,d,n,rfl,e,(l5.mp ag).1⟩
  .rw[if_neg hi] at h;exact aq h
 .exact aq h
 .exact aq h
 .exact aq h
theorem Lo(h:yk hs k=some v):∃s d,k=.int s/\iV hs (.int s)=some d:=by
 rcases k with _|s|_
 .exact aq h
 .obtain⟨d,e,_⟩:=fS.mp h
  exact⟨s,d,rfl,e⟩
 .exact aq h
theorem F9:∀{hs:mR},(∀e∈hs,e.2.length<=30)->(hs.flatMap wy).length<=30*hs.length
 |[],_=>bt _
 |e::hs,h=>by
  obtain⟨h1,h⟩:=bO.mp h
  have:=F9 h
  rw[List.flatMap_cons,gn,fJ]
  unfold wy
  rw[dW,List.length_range]
  unfold wy at this
  exact aC.WG h1 this
noncomputable def kx(N:Int)(hs:mR)(h1:∀e∈hs,e.2.length<=30)(h2:hs.length<=3):gN where
 T:=u9 hs
 E:=yk hs
 N:=N
 domT:=hs.flatMap wy
 domE:=hs.map (·.1)
 hT k i h:=by
  obtain⟨nm,d,ai,rfl,e,cK⟩:=Lp h
  exact List.mem_flatMap.mpr ⟨_,xK e,dI.mpr ⟨ai,List.mem_range.mpr cK,rfl⟩⟩
 hE k i h:=by
  obtain⟨s,d,rfl,e⟩:=Lo h
  exact dI.mpr ⟨_,xK e,rfl⟩
 lT:=by have:=F9 h1;exact aC.WH h2 this
 lE:=by rw[dW];exact aC.WI h2
variable{G:gN}
noncomputable def CI(nm:bq)(i:Int):Fr->Prop
 |.st de bJ d _=>nm=.int de/\bJ<=i/\i<bJ+d.length
 |.ek bJ d=>nm=.str "crypto"/\bJ<=i/\i<bJ+d.length
 |_=>False
theorem Vf(h:CI nm i f):f.data.isSome=true:=by
 cases f<;>first|rfl|exact h.elim
noncomputable def JK(G:gN)(nm:bq)(i:Int):fk G where
 does:=CI nm i
 done S:=[nm,.int i]∈S.oc.map (·.1)
 cut f R aU h:=by
  rcases p' f R with⟨_,e⟩|⟨e,_⟩|⟨d,aB,h1,h2,e⟩
  .rw[e];exact .inl ⟨f,rfl,h⟩
  .rw[e];exact .inr ⟨f,rfl,h⟩
  .rw[e]
   have hk:R-f.dr<=d.length:=by exact aC.JQ h2
   generalize R-f.dr=k at hk
   cases f<;>cases aB
   .rename_i de bJ cH
    obtain⟨a,b,c⟩:=h
    by_cases q:i<bJ+k
    .exact .inl ⟨_,rfl,a,by rw[show((0:Nat):Int)=0 from rfl];exact aC.JX b,by rw[List.length_take,show((0:Nat):Int)=0 from rfl];exact aC.JY c q⟩
    .exact .inr ⟨_,rfl,a,by exact aC.JZ q,by rw[List.length_drop];exact aC.J0 c⟩
   .rename_i bJ
    obtain⟨a,b,c⟩:=h
    by_cases q:i<bJ+k
    .exact .inl ⟨_,rfl,a,by rw[show((0:Nat):Int)=0 from rfl];exact aC.JX b,by rw[List.length_take,show((0:Nat):Int)=0 from rfl];exact aC.JY c q⟩
    .exact .inr ⟨_,rfl,a,by exact aC.JZ q,by rw[List.length_drop];exact aC.J0 c⟩
 keep S f h:=by
  cases f with
  |st=>exact uS.mpr (.inr h)
  |ek=>exact uS.mpr (.inr h)
  |_=>exact h
 come S f h:=by
  cases f with
  |st de bJ d cH=>
   obtain⟨rfl,b,c⟩:=h
   exact uS.mpr (.inl ⟨(i-bJ).toNat,by exact aC.J1 b c,by rw[show bJ+((i-bJ).toNat:Int)=i by exact aC.J2 b]⟩)
  |ek bJ d=>
   obtain⟨rfl,b,c⟩:=h
   exact uS.mpr (.inl ⟨(i-bJ).toNat,by exact aC.J1 b c,by rw[show bJ+((i-bJ).toNat:Int)=i by exact aC.J2 b]⟩)
  |_=>exact h.elim
 told f h:=.inl (Vf h)
 other S cv a9 _ _ h:=by rw[a9];exact h
noncomputable def Gr(s:Int):Fr->Prop
 |.st de _ _ cH=>de=s/\cH=true
 |_=>False
noncomputable def Gq(G:gN)(s:Int):fk G where
 does:=Gr s
 done S:=.int s∈S.en.map (·.1)
 cut f R _ h:=by
  rcases p' f R with⟨_,e⟩|⟨e,_⟩|⟨d,aB,h1,h2,e⟩
  .rw[e];exact .inl ⟨f,rfl,h⟩
  .rw[e];exact .inr ⟨f,rfl,h⟩
  .rw[e]
   cases f<;>first|exact .inr ⟨_,rfl,h⟩|exact h.elim
 keep S f h:=by
  cases f with
  |st de bJ d cH=>
   cases cH
   .exact h
   .exact xv.mpr (.inr h)
  |_=>exact h
 come S f h:=by
  cases f with
  |st de bJ d cH=>
   obtain⟨rfl,rfl⟩:=h
   exact xv.mpr (.inl rfl)
  |_=>exact h.elim
 told f h:=.inl (by cases f<;>first|rfl|exact h.elim)
 other S cv _ a7 _ h:=by rw[a7];exact h
theorem F4(aB:f.data=none):(∃g∈(dM f R).1,g=f)\/∃g∈(dM f R).2,g=f:=by
 rcases p' f R with⟨_,e⟩|⟨e,_⟩|⟨d,ey,_⟩
 .rw[e];exact .inl ⟨f,rfl,rfl⟩
 .rw[e];exact .inr ⟨f,rfl,rfl⟩
 .rw[aB] at ey;cases ey
theorem FW(h:g∈S.c1):g∈(gP S f).c1:=by
 cases f with
 |st=>exact h
 |ek=>exact h
 |_=>exact l6 _ h
theorem FY(h:f.data=none):f∈(gP S f).c1:=by
 cases f<;>first|exact kD _ (fB.mpr rfl)|cases h
theorem TZ{x:Fr}(h:(x.iy==("new_connection_id":Str))=true):∃n,x=.di n:=by
 cases x<;>first|exact⟨_,rfl⟩|exact(fY h).elim
theorem TY{x:Fr}(h:(x.iy==("max_data":Str))=true):∃n,x=.dT n:=by
 cases x<;>first|exact⟨_,rfl⟩|exact(fY h).elim
noncomputable def UH(G:gN):fk G where
 does f:=f=.di G.N
 done S:=Fr.di G.N∈S.c1
 cut f R _ h:=by subst h;exact F4 rfl
 keep S f h:=FW h
 come S f h:=by subst h;exact FY rfl
 told f h:=.inr λdn bl=>⟨f,by subst h;rfl,λx av e=>by
  subst h
  obtain⟨n,rfl⟩:=TZ (x:=x) (by rw[bq.str.inj (List.cons.inj e).1];rfl)
  rw[show n=G.N from av.2]⟩
 other S cv _ _ e3 h:=by rw[e3];exact h
noncomputable def Uz(G:gN):fk G where
 does f:=∃n,f=.dT n
 done S:=∃n,Fr.dT n∈S.c1
 cut f R _ h:=by
  obtain⟨n,rfl⟩:=h
  exact(F4 (R:=R) (f:=.dT n) rfl).imp (λ⟨g,aU,e⟩=>⟨g,aU,n,e⟩) λ⟨g,aU,e⟩=>⟨g,aU,n,e⟩
 keep S f h:=h.imp λn h=>FW h
 come S f h:=by obtain⟨n,rfl⟩:=h;exact⟨n,FY rfl⟩
 told f h:=.inr λdn bl=>⟨.dT 33,by obtain⟨n,rfl⟩:=h;rfl,λx _ e=>TY (x:=x) (by rw[bq.str.inj (List.cons.inj e).1];rfl)⟩
 other S cv _ _ e3 h:=by rw[e3];exact h
end
set_option genInjectivity false
noncomputable def K8:Nat->List (List UInt8)->mR
 |_,[]=>[]
 |i,d::r=>(.int (4*(i:Int)),d)::K8 (i+1) r
noncomputable def rX(dY:List (List UInt8))(cy:List UInt8):mR:=K8 0 dY++[(.str "crypto",cy)]
noncomputable def h5(hs:mR):Fr->Prop
 |.st de bJ d cH=>bJ=0/\cH=true/\iV hs (.int de)=some d
 |.ek bJ d=>bJ=0/\iV hs (.str "crypto")=some d
 |_=>True
structure yK (hs:mR) (N:Int) (fs:List Fr):Prop where
 ok:∀f∈fs,f.ok/\h5 hs f/\(∀n,f=.di n->n=N)/\f≠.gK
 oc:∀nm d,iV hs nm=some d->∃f∈fs,∀i:Int,0<=i->i<d.length->CI nm i f
 en:∀s d,iV hs (.int s)=some d->∃f∈fs,Gr s f
 di:Fr.di N∈fs
 dT:Fr.dT 10∈fs
 c7:fs.countP (λf=>decide (f=.c7))=1
 UI:fs.filter (λf=>f.iy==("new_connection_id":Str))=[.di N]
 fP:fP fs<=320
theorem RD(iQ:1<=N/\N<=3)(h2:dY.length=1\/dY.length=2)(aB:∀d∈dY,d.length<=30)(aw:cy.length<=20):
 (∀e∈rX dY cy,e.2.length<=30)/\(rX dY cy).length<=3/\yK (rX dY cy) N (given N dY cy):=by
 have six:∀{P:Fr->Prop} {l:List Fr},(P (.dT 10)/\P (.dT 20)/\P .fX/\P .c7/\P .eu/\P (.di N))->(∀f∈l,P f)->∀f∈Bj N++l,P f:=λ⟨a,b,c,d,e,f⟩ h=>bO.mpr ⟨a,bO.mpr ⟨b,bO.mpr ⟨c,bO.mpr ⟨d,bO.mpr ⟨e,bO.mpr ⟨f,h⟩⟩⟩⟩⟩⟩
 have head:∀{hs:mR},(λf:Fr=>f.ok/\h5 hs f/\(∀n,f=.di n->n=N)/\f≠.gK) (.dT 10)/\(λf:Fr=>f.ok/\h5 hs f/\(∀n,f=.di n->n=N)/\f≠.gK) (.dT 20)/\(λf:Fr=>f.ok/\h5 hs f/\(∀n,f=.di n->n=N)/\f≠.gK) .fX/\
  (λf:Fr=>f.ok/\h5 hs f/\(∀n,f=.di n->n=N)/\f≠.gK) .c7/\(λf:Fr=>f.ok/\h5 hs f/\(∀n,f=.di n->n=N)/\f≠.gK) .eu/\(λf:Fr=>f.ok/\h5 hs f/\(∀n,f=.di n->n=N)/\f≠.gK) (.di N):=
  ⟨⟨⟨by decide,by decide⟩,trivial,nofun,nofun⟩,⟨⟨by decide,by decide⟩,trivial,nofun,nofun⟩,⟨trivial,trivial,nofun,nofun⟩,⟨trivial,trivial,nofun,nofun⟩,⟨trivial,trivial,nofun,nofun⟩,⟨⟨by exact aC.WS iQ,by exact aC.WT iQ⟩,trivial,λn e=>(Fr.di.inj e).symm,nofun⟩⟩
 match dY,h2,aB with
 |[a],_,aB=>
  have ha:a.length<=30:=aB a (.head _)
  have e':∀nm d,iV (rX [a] cy) nm=some d->(nm=.int (4*((0:Nat):Int))/\d=a)\/(nm=.str "crypto"/\d=cy):=λnm d h=>by
   rcases fj.mp (xK h) with e|e
   .exact .inl ⟨congrArg Prod.fst e,congrArg Prod.snd e⟩
   .have:=fB.mp e
    exact .inr ⟨congrArg Prod.fst this,congrArg Prod.snd this⟩
  refine⟨bO.mpr ⟨ha,bO.mpr ⟨by show cy.length<=30;exact aC.J3 aw,dJ _⟩⟩,(by decide:2<=3),?_⟩
  refine⟨?_,λnm d h=>?_,λs d h=>?_,?_,.head _,rfl,rfl,?_⟩
  .exact six head (bO.mpr ⟨⟨⟨⟨by decide,by decide⟩,⟨by decide,by decide⟩,by exact aC.CP ha⟩,⟨rfl,rfl,rfl⟩,nofun,nofun⟩,bO.mpr ⟨⟨⟨⟨by decide,by decide⟩,by exact aC.J4 aw⟩,⟨rfl,rfl⟩,nofun,nofun⟩,dJ _⟩⟩)
  .rcases e' nm d h with⟨rfl,rfl⟩|⟨rfl,rfl⟩
   .exact⟨.st (4*((0:Nat):Int)) 0 d true,l6 _ (kD _ (.head _)),λi ah h1=>⟨rfl,ah,by exact aC.uL h1⟩⟩
   .exact⟨.ek 0 d,kD _ (.head _),λi ah h1=>⟨rfl,ah,by exact aC.uL h1⟩⟩
  .rcases e' _ d h with⟨e,rfl⟩|⟨e,_⟩
   .exact⟨.st (4*((0:Nat):Int)) 0 d true,l6 _ (kD _ (.head _)),(bq.int.inj e).symm,rfl⟩
   .cases e
  .exact .tail _ (.tail _ (.tail _ (.tail _ (.tail _ (.head _)))))
  .show 1+(1+(1+(1+(1+(1+((1+a.length)+((1+cy.length)+0)))))))<=320
   exact aC.WV aw ha
 |[a,br],_,aB=>
  have ha:a.length<=30:=aB a (.head _)
  have jS:br.length<=30:=aB br (.tail _ (.head _))
  have e':∀nm d,iV (rX [a,br] cy) nm=some d->(nm=.int (4*((0:Nat):Int))/\d=a)\/(nm=.int (4*((0+1:Nat):Int))/\d=br)\/(nm=.str "crypto"/\d=cy):=λnm d h=>by
   rcases fj.mp (xK h) with e|e
   .exact .inl ⟨congrArg Prod.fst e,congrArg Prod.snd e⟩
   .rcases fj.mp e with e|e
    .exact .inr (.inl ⟨congrArg Prod.fst e,congrArg Prod.snd e⟩)
    .have:=fB.mp e
     exact .inr (.inr ⟨congrArg Prod.fst this,congrArg Prod.snd this⟩)
  refine⟨bO.mpr ⟨ha,bO.mpr ⟨jS,bO.mpr ⟨by show cy.length<=30;exact aC.J3 aw,dJ _⟩⟩⟩,(by decide:3<=3),?_⟩
  refine⟨?_,λnm d h=>?_,λs d h=>?_,?_,.head _,rfl,rfl,?_⟩
  .exact six head (bO.mpr ⟨⟨⟨⟨by decide,by decide⟩,⟨by decide,by decide⟩,by exact aC.CP ha⟩,⟨rfl,rfl,rfl⟩,nofun,nofun⟩,bO.mpr ⟨⟨⟨⟨by decide,by decide⟩,⟨by decide,by decide⟩,by exact aC.CP jS⟩,⟨rfl,rfl,rfl⟩,nofun,nofun⟩,bO.mpr ⟨⟨⟨⟨by decide,by decide⟩,by exact aC.J4 aw⟩,⟨rfl,rfl⟩,nofun,nofun⟩,dJ _⟩⟩⟩)
  .rcases e' nm d h with⟨rfl,rfl⟩|⟨rfl,rfl⟩|⟨rfl,rfl⟩
   .exact⟨.st (4*((0:Nat):Int)) 0 d true,l6 _ (kD _ (.head _)),λi ah h1=>⟨rfl,ah,by exact aC.uL h1⟩⟩
   .exact⟨.st (4*((0+1:Nat):Int)) 0 d true,l6 _ (kD _ (.tail _ (.head _))),λi ah h1=>⟨rfl,ah,by exact aC.uL h1⟩⟩
   .exact⟨.ek 0 d,kD _ (.head _),λi ah h1=>⟨rfl,ah,by exact aC.uL h1⟩⟩
  .rcases e' _ d h with⟨e,rfl⟩|⟨e,rfl⟩|⟨e,_⟩
   .exact⟨.st (4*((0:Nat):Int)) 0 d true,l6 _ (kD _ (.head _)),(bq.int.inj e).symm,rfl⟩
   .exact⟨.st (4*((0+1:Nat):Int)) 0 d true,l6 _ (kD _ (.tail _ (.head _))),(bq.int.inj e).symm,rfl⟩
   .cases e
  .exact .tail _ (.tail _ (.tail _ (.tail _ (.tail _ (.head _)))))
  .show 1+(1+(1+(1+(1+(1+((1+a.length)+((1+br.length)+((1+cy.length)+0))))))))<=320
   exact aC.WW aw ha jS
 |[],h,_=>exact absurd h (by decide)
 |_::_::_::r,h,_=>exact absurd h (by rw[fJ,fJ,fJ];exact aC.WX)
theorem FX:∀{fs:List Fr} {S:f5},(∀f∈fs,h5 hs f)->fs.foldl mY (S.oc,S.en)=((gQ S fs).oc,(gQ S fs).en)
 |[],_,_=>rfl
 |f::fs,S,h=>by
  obtain⟨h1,h⟩:=bO.mp h
  have e:mY (S.oc,S.en) f=((gP S f).oc,(gP S f).en):=by
   cases f with
   |st de bJ d cH=>
    obtain⟨rfl,rfl,_⟩:=h1
    show(_,dA S.en (.int de) (.int d.length))=(_,dA S.en (.int de) (.int (0+d.length)))
    rw[Int.zero_add];rfl
   |ek bJ d=>obtain⟨rfl,_⟩:=h1;rfl
   |_=>rfl
  rw[List.foldl_cons,e]
  exact FX (fs:=fs) (S:=gP S f) h
theorem LD(h:f.ok/\h5 hs f/\(∀n,f=.di n->n=N)/\f≠.gK):(kx N hs h1 h2).fO f:=by
 have val:∀{nm:bq} {d:List UInt8},iV hs nm=some d->∀(i:Nat) (b:UInt8),d[i]? =some b->u9 hs [nm,.int (0+(i:Int))]=some (b.toNat:Int):=λe i b ag=>by
  show(iV hs _).bind (λd=>if 0<=(0+(i:Int)) then(d[(0+(i:Int)).toNat]?).map λb=>(b.toNat:Int) else none)=_
  rw[e,Option.bind_some,Int.zero_add,if_pos (Int.natCast_nonneg i),Int.toNat_natCast,ag];rfl
 obtain⟨ok,w,aW,hp⟩:=h
 refine⟨ok,?_⟩
 cases f with
 |st de bJ d cH=>
  obtain⟨rfl,rfl,e⟩:=w
  refine⟨val e,λ_=>?_⟩
  show(iV hs (.int de)).map (λd=>(d.length:Int))=_
  rw[e,Int.zero_add];rfl
 |ek bJ d=>obtain⟨rfl,e⟩:=w;exact val e
 |di n=>exact aW n rfl
 |gK=>exact hp rfl
 |_=>trivial
theorem Hj(e:G.T=u9 hs)(h:jl G S)(d:∀nm d (i:Int),iV hs nm=some d->0<=i->i<d.length->(JK G nm i).done S):pY (u9 hs) S.oc:=
 ⟨by rw[<-e];exact h.oc,λk v hk=>by
   obtain⟨nm,x,ai,rfl,av,cK⟩:=Lp hk
   exact d nm x ai av (Int.natCast_nonneg ai) (by exact aC.WY cK)⟩
theorem Hi(e:G.E=yk hs)(h:jl G S)(d:∀s d,iV hs (.int s)=some d->(Gq G s).done S):pY (yk hs) S.en:=
 ⟨by rw[<-e];exact h.en,λk v hk=>by
   obtain⟨s,x,rfl,av⟩:=Lo hk
   exact d s x av⟩
set_option genInjectivity true
theorem ints_map:∀l:List Int,ib (l.map J.int)=some l
 |[]=>rfl
 |i::l=>congrArg (Option.map λl=>i::l) (ints_map l)
theorem Ga:∀(ps:List (bq×J)) (es:List (bq×J)) (s:St),s.cells c=some (.cn es)->es.length+ps.length<=1000->
 ∃aY,oY c (ps.map λp=>(p.1.v,p.2)) s=some aY/\aY.next=s.next/\aY.cells c=some (.cn (ps.foldl (λes p=>dA es p.1 p.2) es))/\∀d,d≠c->aY.cells d=s.cells d
 |[],es,s,h,_=>⟨s,rfl,rfl,h,λ_ _=>rfl⟩
 |p::ps,es,s,h,aG=>by
  rw[fJ] at aG
  have hk:=qJ (es:=es) (k:=p.1) (v:=p.2)
  obtain⟨aY,a9,a7,e3,eX⟩:=Ga ps (dA es p.1 p.2) (s.aT c (.cn (dA es p.1 p.2))) hK (by exact aC.WZ aG hk)
  refine⟨aY,?_,a7,e3,λd aB=>(eX d aB).trans (ck aB)⟩
  have e:nM c p.1.v p.2 s=some (s.aT c (.cn (dA es p.1 p.2))):=by
   unfold nM
   rw[h]
   cases p.1<;>exact if_pos (by exact aC.so aG)
  show(nM c p.1.v p.2 s).bind _=_
  rw[e];exact a9
theorem Kk{f:Bool->List (List bq×J)}(hp:U[1]? =some (some (.ref p)))(o9:∀u (P:J->St->Prop),P k u->Mm.p U u P)(RZ:∀u (P:J->St->Prop),P v u->ME.p U u P)
 (hk:toKey k=some kj)(ht:f true=[(kj,v)])(hf:f false=[])(w:cG s)(px:gC s p)(q:∀b t c,t.cells c=some (.b8 (f b))->s.next<=c->Keeps [p] s t->gC t p->Q (.ref c) t):
 (TE.eL (.boolOf (.af cw (.bb g0 (.aa (.C 1) (.aa (.I (.int 2)) (.ar)))) (.I (.int 0)))) (.lz (.b8 []) (.hb Mm ME (.k5))) (.gR (.b8 []))).p U s Q:=by
 show(match U[1]? with|some (some v)=>_|_=>False)
 rw[hp]
 refine(vd w px (by decide)).a5 ?_
 rintro _ u ⟨n,rfl,_,jZ,dd⟩
 have Kq:gC (u.new (.b8 [])) p:=jZ.keeps (ig (d9 (jZ.lt dd.wf)))
 show dD (n==0) _ _
 cases n==0
 .exact q false _ _ (by rw[hf];exact iA) dd.next dd.new Kq
 .refine o9 _ _ (RZ _ _ ?_)
  exact jq (Gb iA hk) (q true _ _ (by rw[ht];exact hK) dd.next (dd.new.aT (.inr dd.next) (gB _)) (Kq.keeps (ck (d9 (jZ.lt dd.wf)))))
theorem Jr:∀{xs:List df} {u:St},d<u.next->(xs.foldl St.new u).cells d=u.cells d
 |[],_,_=>rfl
 |_::xs,_,h=>(Jr (xs:=xs) (Nat.lt_succ_of_lt h)).trans (ig (d9 h))
theorem Jp:∀{xs:List df} {u:St} {i:Nat},xs[i]? =some x->(xs.foldl St.new u).cells (u.next+i)=some x
 |[],_,_,h=>nomatch h
 |y::xs,u,0,h=>by
  cases h
  exact(Jr (xs:=xs) (u:=u.new x) (gB u.next)).trans iA
 |y::xs,u,i+1,h=>by
  have:=Jp (xs:=xs) (u:=u.new y) (i:=i) h
  rw[show u.next+(i+1)=u.next+1+i by exact aC.W0];exact this
theorem Jq:∀{xs:List df} {u:St},Keeps l s u->Keeps l s (xs.foldl St.new u)
 |[],_,h=>h
 |_::xs,_,h=>Jq (xs:=xs) h.new
noncomputable abbrev rB:List df:=[.cn [],.list [],.list [],.list [],.b8 [],.cn [],.inst (some (.cD []))]
noncomputable abbrev wt(n:Nat):h8:=⟨n,n+1,n+2,n+3,n+4,n+5,n+6⟩
theorem YT(w:cG u)(q:∀t,b' t (wt u.next) ⟨[],[],[],[],[],[]⟩->Keeps [] u t->Q t):
 gL (oY u.next [(.str "flying",.ref (u.next+1)),(.str "came",.ref (u.next+2)),(.str "told",.ref (u.next+3)),(.str "octets",.ref (u.next+4)),(.str "ends",.ref (u.next+5)),(.str "alarms",.ref (u.next+6))] (rB.foldl St.new u)) Q:=by
 have lM:Keeps [] u (rB.foldl St.new u):=Jq (Keeps.refl w)
 have g:∀(i:Nat) {x:df},rB[i]? =some x->(rB.foldl St.new u).cells (u.next+i)=some x:=λi x h=>Jp h
 generalize rB.foldl St.new u=s at lM g
 obtain⟨t,a9,a7,e3,eX⟩:=Ga (c:=u.next) (q6 (wt u.next)) [] s (g 0 rfl) (Nat.le_add_left 6 994)
 have hH:∀(i:Nat) {x:df},rB[i+1]? =some x->t.cells (u.next+(i+1))=some x:=λi x h=>(eX _ (Nat.ne_of_gt (Nat.lt_add_of_pos_right (Nat.succ_pos i)))).trans (g _ h)
 refine jq a9 (q t ⟨bO.mpr ⟨e3,bO.mpr ⟨hH 0 rfl,bO.mpr ⟨hH 1 rfl,bO.mpr ⟨hH 2 rfl,bO.mpr ⟨hH 3 rfl,bO.mpr ⟨hH 4 rfl,bO.mpr ⟨hH 5 rfl,dJ _⟩⟩⟩⟩⟩⟩⟩,List.nodup_range' (s:=u.next) (n:=7)⟩ ⟨λd aB _=>(eX d (d9 aB)).trans (lM.old d aB hP),by rw[a7];exact lM.next,λd aB=>?_⟩)
 rw[a7] at aB
 exact(eX d (Nat.ne_of_gt (jH (lM.wf.lt (g 0 rfl)) aB))).trans (lM.wf d aB)
section
variable{G:gN}
theorem Mn{fs:List Fr}(h:σ.cells c=some (.list (fs.map Fr.v)))(q:Q (.int (fs.countP λf=>decide (f=.c7):Nat)) σ):aJ (wq [.ref c,Fr.c7.v] σ) Q:=by
 refine hQ (show(ff (.ref c) σ).bind (λvs=>(oT Fr.c7.v vs).map λ(m:Nat)=>(J.int (m:Int),σ))=_ from ?_) q
 rw[uw h,Option.bind_some,FP (g:=.c7) λf _=>Lv f];rfl
theorem Ts{fs:List Fr}(aw:s.cells c=some (.list (fs.map Fr.v)))(h:∀f∈fs,c0 8 f.v g.v=some (decide (f=g))):m8 g.v (.ref c) s=some (decide (g∈fs)):=by
 unfold m8 gD gy
 dsimp only
 rw[aw]
 dsimp only
 rw[uw aw,Option.bind_some,zd h]
theorem QD:e9 [.ek 0 (List.replicate 9 0),.gK] 8=([.ek 0 (List.replicate 5 0)],[.ek 5 (List.replicate 4 0),.gK]):=by decide
theorem LV
 (h:p0 (kx N hs h1 h2) s p w cy dk dn bl S b2 b)(ag:b<=700000)(hn:yK hs N fs)(jR:∀D:fk (kx N hs h1 h2),(∃f∈fs,D.does f)->D.live S)(j1:S.to.countP (λf=>decide (f=.c7))=1)
 (q:∀l u,Q (.ret (.bool true)) l u):
 D2.p [e5,gd,some (dG fs),eg,fz,fh,fi,some (.ref w),hM,q7,kA,kB,sR,oF,nv,l0,l1,l2] s Q:=by
 obtain⟨⟨c,rfl,hw,aB⟩,pool,wf,bf,dce,bce,ne⟩:=h
 have dc:=bf.wX
 refine qX ?_
 refine ez hw.uc ?_
 refine BY hw.fl ?_
 refine kk (src:=.ref c.fl) (enc:=kT) (xs:=S.fl) (A:=D1) (λr l u=>rq λcv oF nv=>l=[e5,gd,some (dG fs),eg,fz,fh,fi,some (.ref c.w),hM,q7,kA,kB,sR,oF,nv,l0,l1,l2]/\b' u c cv/\cG u/\cv.fl=S.fl/\jl (kx N hs h1 h2) cv/\cv.c1.length+51*r.length<=b+306/\cv.to=S.to/\
  (∀a∈r,(∀f∈a.2,(kx N hs h1 h2).fO f)/\hZ a.2<=51)/\∀D:fk (kx N hs h1 h2),D.live S->D.done cv\/∃a∈r,∃f∈a.2,D.does f) (λr l u h=>by obtain⟨cv,_,_,_,bM,_,e,_⟩:=h;unfold d1;dsimp only;rw[bM.fl,e]) ?_ ?_
  ⟨S,_,_,rfl,hw,wf,rfl,bf.came,by have:=bf.lca;exact aC.W2 dc this,rfl,bf.row,λD ao=>ao⟩
 .rintro a r _ u ⟨cv,pI,nx,rfl,bM,ka,e,rC,aG,Af,aI,d⟩
  obtain⟨ha,aI⟩:=bO.mp aI
  rw[fJ] at aG
  have dm:=lO a.2
  have pd:=qP a.2
  have HZ:=ha.2
  obtain⟨OH,n1⟩:=rC.ju ha.1
  obtain⟨a9,a7,e3⟩:=p8 a.2 cv
  refine⟨_,rfl,?_⟩
  refine(DC (fs:=a.2) ka bM (λf hf=>(ha.1 f hf).1) (rC.Di (by exact aC.W3 dm pd HZ) (by exact aC.W4 ag aG))).fH λv hc=>?_
  obtain⟨a3,mD⟩:=hc
  refine⟨_,_,_,rfl,a3,mD.wf,a9.trans e,OH,by exact aC.W5 aG dm pd HZ n1,a7.trans Af,aI,λD ao=>?_⟩
  rcases d D ao with x|⟨br,jS,x⟩
  .exact .inl (D.keeps x)
  .rcases fj.mp jS with rfl|jS
   .exact .inl (D.ju x)
   .exact .inr ⟨br,jS,x⟩
 .rintro _ u ⟨cv,pI,nx,rfl,bM,ka,e,rC,aG,Af,_,d⟩
  have done:∀D:fk (kx N hs h1 h2),(∃f∈fs,D.does f)->D.done cv:=λD ao=>(d D (jR D ao)).elim id λh=>by obtain⟨_,h,_⟩:=h;cases h
  have pe:=lO fs
  have H4:=hn.fP
  refine(LW (fs:=[.ek 0 (List.replicate 9 0),.gK]) (R:=8) ka (bO.mpr ⟨⟨⟨by decide,by decide⟩,by decide⟩,bO.mpr ⟨trivial,dJ _⟩⟩) (by decide)).fH λv HD=>?_
  rw[QD]
  have a3:=bM.gS HD
  have FL:jl (kx N hs h1 h2) (gQ ⟨[],[],[],[],[],[]⟩ fs):=(jl.ju ⟨Sane.nil,Sane.nil,λf hf=>absurd hf hP⟩ λf hf=>LD (hn.ok f hf)).1
  have oQ:=FX (hs:=hs) (fs:=fs) (S:=⟨[],[],[],[],[],[]⟩) λf hf=>(hn.ok f hf).2.1
  have f1:=Hj rfl rC λnm d i e ah hi=>done _ (by obtain⟨f,hf,x⟩:=hn.oc nm d e;exact⟨f,hf,x i ah hi⟩)
  have f2:=Hj rfl FL λnm d i e ah hi=>fk.ju (JK _ nm i) (by obtain⟨f,hf,x⟩:=hn.oc nm d e;exact⟨f,hf,x i ah hi⟩)
  have g1:=Hi rfl rC λs d e=>done _ (hn.en s d e)
  have g2:=Hi rfl FL λs d e=>fk.ju (Gq _ s) (hn.en s d e)
  have FK:fs.foldl mY ([],[])=((gQ ⟨[],[],[],[],[],[]⟩ fs).oc,(gQ ⟨[],[],[],[],[],[]⟩ fs).en):=oQ
  refine(acT (fs:=fs) (HD.wf ka) a3 (λf hf=>(hn.ok f hf).1) (by exact aC.W6 pe H4) (by rw[FK];exact F8 f1 f2) (by rw[FK];exact F8 g1 g2)).fH λt gt=>?_
  have ht:=a3.gS gt
  refine ez ht.Ig ?_
  refine gO (n7 ht.to) ?_
  refine Mn ht.to ?_
  refine f9 (b:= !(((cv.to.countP λf=>decide (f=.c7):Nat):Int)==1)) (by rw[Af,j1];rfl) ?_
  refine uR ?_
  refine oo ?_
  refine CW (fs:=fs) (src:=dG fs) (λP h=>h) rfl (by exact aC.W7 pe H4) ?_
  rw[hn.UI]
  refine ez ht.BR ?_
  refine rj (Ts (g:=.di N) ht.c1 λf hf=>abV (rC.c1 f hf)) ?_
  refine gO (decide_eq_true (done (UH _) ⟨_,hn.di,rfl⟩)) ?_
  refine Kj ?_
  refine CW (fs:=cv.c1) (src:=.ref c.c1) (λP h=>ez ht.BR h) (by unfold d1;dsimp only;rw[ht.c1]) (by exact aC.W8 ag aG) ?_
  refine yO (r:=false) ((Ad _ _).trans (congrArg some (decide_eq_false λe=>?_))) (q _ _)
  obtain⟨n,aW⟩:=done (Uz _) ⟨_,hn.dT,10,rfl⟩
  have m:Fr.dT n∈cv.c1.filter λf=>f.iy==("max_data":Str):=gZ.mpr ⟨aW,rfl⟩
  rw[List.map_eq_nil_iff.mp e] at m
  cases m
end
theorem acL{h1:∀e∈hs,e.2.length<=30}{h2:hs.length<=3}{Q:fT->Loc->St->Prop}(Lz:cG qZ)(km:gC qZ p)(hn:yK hs N fs)(aI:rn<20)(q:∀l u,Q (.ret (.bool true)) l u):
 D3.p [e5,some (.ref p),some (dG fs),some (.int (32+rn:Nat)),some (.int 0),none,none,none,none,none,none,none,none,none,none,none,none,none] qZ Q:=by
 refine oo ?_
 refine Kk (p:=p) (k:=.bo [.str "stop_sending",.int 4]) (v:=.bool true) (f:=rF) rfl (λ_ _ h=>h) (λ_ _ h=>h) rfl rfl rfl Lz km λdn KJ tF FF qG n8 su=>?_
 refine oo ?_
 refine Kk (p:=p) (k:=.bo [.str "data_blocked",.none]) (v:=.int 9) (f:=rz) rfl (λ_ _ h=>h) (λ_ _ h=>h) rfl rfl rfl n8.wf su λbl nq wc FH r6 mC x4=>?_
 have dU:tF≠p:=Nat.ne_of_gt (jH (km.lt Lz) qG)
 have iW:wc≠p:=Nat.ne_of_gt (jH (su.lt n8.wf) r6)
 have FG:=(mC.old tF (n8.wf.lt FF) λq=>dU (fB.mp q)).trans FF
 refine YT mC.wf λKL hw xu=>?_
 have zf:∀{d x},nq.cells d=some x->KL.cells d=some x:=λe=>(xu.old _ (mC.wf.lt e) hP).trans e
 have sl:∀d,d<nq.next->d∉(wt nq.next).all:=λd aB q=>by
  have:=(List.mem_range'_1.mp (show d∈List.range' nq.next 7 from q)).1
  exact(aC.J5 aB this).elim
 have YG:=x4.keeps (xu.old _ (x4.lt mC.wf) hP)
 have qQ:mb (kx N hs h1 h2) KL p (wt nq.next) ⟨[],[],[],[],[],[]⟩ 0 0:=⟨hw,YG,⟨⟨List.nodup_nil,dJ _,List.nodup_nil,dJ _,dJ _,⟨Sane.nil,Sane.nil,dJ _⟩,bt _,bt _⟩,λ_=>Iff.rfl⟩,xu.wf⟩
 have gI:32<=32+rn/\32+rn<=51:=⟨Nat.le_add_right _ _,by exact aC.W9 aI⟩
 refine(LY (fs:=fs) (sl _ (x4.lt mC.wf)) qQ hn.fP (by decide) (λf hf=>LD (hn.ok f hf)) gI).fH λKN hc=>?_
 obtain⟨vZ,uE,r4,Gf,Ko⟩:=hc
 have zg:∀{d x},d≠p->nq.cells d=some x->KN.cells d=some x:=λaB e=>(r4.old _ (xu.wf.lt (zf e)) λq=>by
  rcases fj.mp q with c2|q
  .exact aB c2
  .exact sl _ (mC.wf.lt e) q).trans (zf e)
 have qM:p0 (kx N hs h1 h2) KN p nq.next tF wc dn bl vZ 0 (0+51*320):=⟨⟨_,rfl,uE.hw,bO.mpr ⟨sl _ (x4.lt mC.wf),bO.mpr ⟨sl _ (mC.wf.lt FG),bO.mpr ⟨sl _ (mC.wf.lt FH),dJ _⟩⟩⟩⟩,uE.pool,uE.wf,uE.bf,zg dU FG,zg iW FH,⟨dU,iW⟩⟩
 have jR:∀D:fk (kx N hs h1 h2),(∃f∈fs,D.does f)->D.live vZ:=λD ao=>Gf D (.inr ao)
 have j1:vZ.to.countP (λf=>decide (f=.c7))=1:=Ko.trans ((Nat.zero_add _).trans hn.c7)
 clear Gf Ko uE r4 zg sl zf
 refine dz (uj (m:=12) (z:=12) rfl (by decide)) ?_
 refine kk (src:=.fv 0 12 1) (enc:=qc) (xs:=List.range 12) (A:=yy) (λr l u=>MH λn cv b2 b hM q7 kA kB sR oF nv=>l=[e5,some (.ref p),some (dG fs),some (.int (32+rn:Nat)),some (.int b2),some (.ref tF),some (.ref wc),some (.ref nq.next),hM,q7,kA,kB,sR,oF,nv,none,none,none]/\
  p0 (kx N hs h1 h2) u p nq.next tF wc dn bl cv b2 b/\b+17000*r.length<=17000*13/\r=(List.range 12).drop n/\(∀D:fk (kx N hs h1 h2),(∃f∈fs,D.does f)->D.live cv)/\cv.to.countP (λf=>decide (f=.c7))=1) (λ_ _ _ _=>uj (m:=12) rfl (by decide)) ?_ ?_
  ⟨0,vZ,0,_,_,_,_,_,_,_,_,rfl,qM,by decide,rfl,jR,j1⟩
 .rintro i r _ u ⟨n,cv,b2,b,hM,q7,kA,kB,sR,oF,nv,rfl,qM,ag,dr,jR,j1⟩
  rw[fJ] at ag
  have aW:n<(List.range 12).length:=by
   refine eP λq=>?_
   rw[List.drop_eq_nil_of_le q] at dr;cases dr
  rw[List.drop_eq_getElem_cons aW] at dr
  obtain⟨_,dr⟩:=List.cons.inj dr
  rw[show qc i=J.int (i:Int) by show J.int _=_;rw[Int.mul_one,Int.zero_add]]
  refine⟨_,rfl,?_⟩
  refine ac0 (R:=32+rn) qM (by exact aC.Xa ag) gI λv oK U0 jF LP LQ LR pI nx fl I7 wA Kn Bn=>?_
  have Ge:∀D:fk (kx N hs h1 h2),(∃f∈fs,D.does f)->D.live oK:=λD ao=>wA D (jR D ao)
  rcases Bn with rfl|rfl
  .exact⟨n+1,oK,U0,_,_,_,_,_,_,_,_,rfl,I7,by exact aC.Xb ag,dr,Ge,Kn.trans j1⟩
  .exact LV I7 (by exact aC.Xc ag) hn Ge (Kn.trans j1) q
 .rintro _ u ⟨n,cv,b2,b,hM,q7,kA,kB,sR,oF,nv,rfl,qM,ag,aI,jR,j1⟩
  rw[hO] at ag
  exact LV qM (by exact aC.Xd ag) hn jR j1 q
theorem acK{l:List Int}(aG:l.length<=63)(w:cG σ):a4 (vS [.bp (l.map J.int)] σ) λv _=>v=.bool true:=by
 refine Zp ?_
 refine oo ?_
 have hc:jB (.bp (l.map J.int)) .none (.int 24)=some (.bp ((l.take 24).map J.int)):=by
  rw[List.map_take];exact if_pos ⟨by decide,by rw[dW];exact aC.Xe aG⟩
 refine jq hc ?_
 refine dz rfl ?_
 refine me (src:=.bp ((l.take 24).map J.int)) (λU s=>(∃z,U=[z])/\s=σ) (λ_=>true) (λi v=>v=J.int i) (λ_ _ _=>rfl) ?_ ⟨⟨_,rfl⟩,rfl⟩ (by rw[hO,List.length_take];exact aC.Xf) ?_
 .rintro i _ _ s ⟨⟨z,rfl⟩,hs⟩
  exact⟨_,rfl,rfl,rfl,⟨_,rfl⟩,hs⟩
 rintro cI _ s ha ⟨_,hs⟩
 subst hs
 rw[List.filter_eq_self.mpr (λ_ _=>rfl)] at ha
 rw[nI ha]
 have qy:(l.take 24).length<=24:=by rw[List.length_take];exact aC.Xg
 generalize l.take 24=eU at qy
 refine hQ (m:=q0 [.bp ([]++eU.map J.int)] s) (a:=.int eU.sum) (s:=s) ?_ ?_
 .show((ib (eU.map J.int)).map λl=>(J.int l.sum,s))=_
  rw[ints_map];rfl
 have YF:gC (s.new (.list (sy (eU.sum.fmod 2147483647) 0 eU))) s.next:=⟨_,0,eU,iA,⟨Int.fmod_nonneg_of_pos _ (by decide),Int.fmod_lt_of_pos _ (by decide)⟩,Int.le_refl _,by exact aC.Xh qy⟩
 have abZ:cG (s.new (.list (sy (eU.sum.fmod 2147483647) 0 eU))):=w.new
 refine(acG abZ YF).a5 ?_
 rintro _ k8 ⟨N,dY,cy,rfl,iQ,rM,R7,tY,jZ,dd⟩
 obtain⟨h1,h2,hn⟩:=RD iQ rM R7 tY
 generalize given N dY cy=fs at hn
 generalize rX dY cy=hs at h1 h2 hn
 refine(vd dd.wf jZ (by decide)).a5 ?_
 rintro _ qZ ⟨r,rfl,aI,km,gv⟩
 obtain⟨rn,rfl⟩:=Int.eq_ofNat_of_zero_le aI.1
 exact acL (rn:=rn) (h1:=h1) (h2:=h2) gv.wf km hn (by exact aC.Xi aI) λl u=>rfl
theorem all:PySem.Challenge.rw_nz0352_01.Holds:=TM λl aG=>by
 obtain⟨v,s,e,rfl⟩:=acK aG (σ:=⟨λ_=>none,0⟩) λ_ _=>rfl
 exact⟨s,e⟩
end Internal
theorem PySem.Challenge.cw_nz0352_01_holds : PySem.Challenge.rw_nz0352_01.Holds :=
 Internal.all
