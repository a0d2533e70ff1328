import PyProof.Rows.All
import Wide.All
import OpenK.AllK
import Wide.FinOn
import Lean
import PySem.Challenge.RW_nz0352_01
open Array renaming length_toList → fN, getElem?_toList → o3, getElem?_eq_getElem → rE, replicate → Bc, toList_append → Hg, toList_push → Hh
open Bool renaming false_ne_true → gI, and_eq_true_iff → om, and_eq_true → o4, eq_iff_iff → Bd, false_eq_true → Be, true_and → Bf
open False renaming elim → dA
open Int renaming eq_ofNat_of_zero_le → qh, add_zero → tr, natCast_nonneg → ts, toNat → tu, toNat_natCast → tv, fmod_lt_of_pos → vl, fmod_nonneg_of_pos → vm, zero_add → x', add_assoc → Bs, natCast_add → Bt, natCast_succ → Bu
open List renaming forall_mem_cons → b0, mem_map → ec, forall_mem_nil → eg, length_map → ez, mem_cons → fX, mem_singleton → gi, length_cons → gD, length_append → g', mem_filter → h5, getElem?_eq_getElem → iG, length_nil → iH, not_mem_nil → iI, mem_append → iV, range → iW, map_append → jv, map_cons → jw, nodup_cons → kb, replicate → kc, append_nil → lQ, mem_append_right → lR, getElem?_map → mz, size_toArray → mA, getElem?_eq_some_iff → nu, mem_append_left → nv, getD_eq_getElem?_getD → oo, append_assoc → o6, foldl_cons → qi, length_range → qj, length_take → qk, nodup_nil → ql, toArray → qm, filter_eq_self → rH, countP_append → vn, filter_sublist → vo, length_drop → vp, map_map → vq, mem_cons_self → vr, mem_cons_of_mem → yc, nodup_append → yd, reverse_cons → ye, zip_cons_cons → yf, casesOn → Bx, drop_eq_getElem_cons → By, find?_some → Bz, flatten_cons → BA, getElem?_drop → BB, getElem_map → BC, length_eq_zero_iff → BD, length_filter_le → BE, length_reverse → BF, mem_filterMap → BG, mem_iff_getElem → BH, mem_iff_getElem? → BI, mem_of_find?_eq_some → BJ, mem_of_getElem? → BK, take_of_length_le → BL, drop_eq_nil_iff → Hl, drop_eq_nil_of_le → Hm, getElem?_eq_none_iff → Hn, getElem_range → Ho, length_pos_iff → Hp, map_eq_nil_iff → Hq
open List.Sublist renaming map → yb
open List.cons renaming inj → rG
open Nat renaming le_refl → bF, le_of_not_lt → bJ, le_trans → cI, le_of_eq → er, ne_of_lt → eL, lt_of_not_le → fy, le_succ → hb, lt_succ_self → hB, zero_le → jx, lt_of_lt_of_le → kI, ne_of_gt → k9, succ_ne_self → mB, beq → nx, le_add_left → ny, ble → o7, le_add_right → rI, le_of_ble_eq_true → rJ, casesOn → tw, add_comm → vt, le_antisymm → vu, lt_trans → vv, not_lt_zero → vw, sub_add_cancel → vx, zero_add → vy, add_le_add_right → yg, le_of_lt → yh, le_total → yi, lt_succ_of_lt → yj, zero_lt_succ → yk, succ_ne_zero → BN, lt_of_le_of_lt → Hr
open Nat.succ renaming inj → BM
open Option renaming none → e', map_eq_some_iff → hc, map → kJ, bind_some → oq, isSome_iff_exists → vz, mem_toList → BP
open Option.some renaming inj → cx
open Prod renaming snd → vA
open Prod.mk renaming inj → rK
open PyProof.Rows renaming seqObj → iK, subscriptTail → qt, tail_any → qv
open PySem renaming Value → af, Shared → aB, wpAny_bind → aP, eval → aR, Str → aV, Addr → a6, Heap → a9, model → bp, Pos → bz, wpAny_pure → bI, Obj → bM, Expr → bX, Around → b8, World → cm, Program → cD, call → cF, mainGlobals → c1, Sem → c8, callEnv → c9, Env → dc, execs → dr, Stmt → dG, Params → dY, FuncData → d3, Tok → d4, starEach → d7, Scope → eI, Arguments → e9, backTo → fb, Flow → gJ, wpAny_of_eq → gK, isTrue → gT, exec → hg, sizeLine → hj, compEnvC → hC, sysModules → hD, compareOp → hP, spliced → h6, Model → iJ, atKey → iX, cLine → iY, Result → jy, bm_if_false → jz, callEnvC → jA, rawInt → jT, wpAny_holding → ke, builtinsNs → la, wpAny_newObj_type → lb, allTrue → lU, standAt → lW, wpAny_call_entry → lX, holding → mE, wpAny_rule → mF, wpAny_specialOf → mG, DictEntry → nr, assignEach → nA, backToKw → nB, binaryOp → nC, callWith → nD, keywordEach → nE, assign → ot, Keyword → o5, builtinLookup_eq_fast → qo, entryFor → qp, evalArgs → qq, evalPairs → qr, swapsWith → qu, typeLookup_type → qw, valueAt → qx, wpAny_field → qy, wpAny_isInstance → qz, wpAny_truthy_bool → qA, isSubtype_type → rM, typeIs_int → rN, typeLookup → rO, Str → tx, bindArgs → tA, bm_if_true → tB, foldedSetIterable → tC, pairTrees → tD, wpAny_callSpecial?_slot → tE, wpAny_dictEntries → tF, wpAny_load → tG, Slot → vD, checkBuiltinCall → vG, plainId_quiet → vH, tupleKind_room_in1 → vI, attributeBase → yo, recursionLimit → yp, sizeLine_eq → yq, wpAny_dictEpoch → yr, wpAny_execs_nil → ys, wpAny_typeOf → yt, codeAny_builtin → BV, entryFor_of_tree → BW, firstArgMember → BX, theTreesLotGoes → BY, wpAny_notOrdered_dict → BZ, wpAny_seqItems → B0, wpAny_setField → B1, wpAny_typeNameOfWhole_valiter → B2, wpAny_typeNameOf_valiter → B3, wpAny_isOneOf_valiter → Hy, wpAny_loadName_local → Hz
open PySem.Around renaming under_plainId → vj
open PySem.AutoSeq1 renaming wpAny_loadPart' → Hf
open PySem.Builtin renaming bitOr → Bo
open PySem.Builtin.Bytes renaming fitsIndex → vk, decodersThatHold → x5, tooLong → x6, buffer? → Bg, payload → Bh, sameRef → Bi, slotIsOwn → Bj, exportsOf → Qe, joinLetGo → Qf, ownRelease → Qg, takeBufferQuiet? → Qh
open PySem.Builtin.Dict renaming dictSlotArgs → Bk, showsAll → Hi
open PySem.Builtin.List renaming listTooLong → Hj
open PySem.Builtin.Range renaming rangeSize → rF, small → x7
open PySem.Builtin.Slice renaming slicePlaces → Bl, sliceAdjust → Hk, sliceApplied → Qi
open PySem.Builtin.SmallTypes renaming nextOf → Bm
open PySem.Builtin.Tuple renaming tupleExact → Bn
open PySem.Data.seq renaming inj → x8
open PySem.F renaming plainAttrs_list → kK, slot_list_append → lS, type_list_append → mD, bm_called → vB, slot_dict_get → vC, plainAttrs_dict → yl, slot_dict_valueiterator_next → ym, slot_NoneType_hash → Bp, bm_plain → BQ, slot_int_eq → BR, type_dict_get → BS, slot_int_index → Hs, slot_list_extend → Ht, slot_list_getattribute → Hu, slot_tuple_getitem → Hv, slot_tuple_index → Hw, args_dict_valueiterator_next_1 → Qj, entry_dict_valueiterator_next → Qk, slot_dict_values_iter → Ql
open PySem.Heap renaming get?_push_size → hA, SameBut → iF, get?_push_of_some → jR, size_push → jS, lt_size → ka, get?_update_self → x9, get?_push_ne → Br
open PySem.Heap.SameBut renaming update → nt
open PySem.Obj renaming mapSeq → mC, data_mapFields → BO
open PySem.PyData renaming keyHash → rL
open PySem.Sem renaming wp_mono → vE
open PySem.Str renaming ofString → yn, ofString → Hx
open PySem.Value renaming none → kL, ref → k', bytes → qn, type → vF, casesOn → BU
open PySem.Value.ref renaming inj → kM
open PySem.W renaming codeRec_of → fz, Frag → fH, emptyDict → jB, dictOf → lV, instObj → ou, typeIs_bytes → ov, kas_sort → qs
open PySem.W.FB renaming slot_bytes_getitem → Bq
open PySem.W.KBw renaming IsBytesIter → ya, iter_typeIs → Bv, slot_next → Bw
set_option Elab.async false
set_option maxRecDepth 100000
set_option maxHeartbeats 8000000
set_option linter.all false
set_option bootstrap.genMatcherCode false
set_option compiler.extract_closed false
set_option genSizeOf false
namespace Internal.aE
inductive E|n (k:Nat)|v (i:Nat)|a (x y:E)|m (k:Nat) (x:E)
noncomputable def E.den(c:List Nat)(e:E):Nat:=e.rec (λk=>k) (λi=>c.getD i 0) (λ_ _ x y=>x+y) (λk _ x=>k*x)
noncomputable def E.Dy(i:Nat)(e:E):Nat:=e.rec (λ_=>0) (λaj=>bif nx aj i then 1 else 0) (λ_ _ x y=>x+y) (λk _ x=>k*x)
noncomputable def nP(f:Nat->Nat)(c:List Nat):Nat:=(c.rec (λ_=>0) (λx _ a7 f=>f 0*x+a7 λi=>f (i+1)):(Nat->Nat)->Nat) f
theorem J9(c:List Nat):nP (λ_=>0) c=0:=by
 induction c with
 |nil=>rfl
 |cons x c a7=>exact(congr (congrArg _ (Nat.zero_mul x)) a7:0*x+nP (λ_=>0) c=0+0)
theorem T2(c:List Nat):∀f g,nP (λi=>f i+g i) c=nP f c+nP g c:=by
 induction c with
 |nil=>exactλ_ _=>rfl
 |cons x c a7=>exactλf g=>(congr (congrArg _ (Nat.add_mul ..)) (a7 _ _)).trans (Nat.add_add_add_comm ..)
theorem T4(k:Nat)(c:List Nat):∀f,nP (λi=>k*f i) c=k*nP f c:=by
 induction c with
 |nil=>exactλ_=>rfl
 |cons x c a7=>exactλf=>(congr (congrArg _ (Nat.mul_assoc ..)) (a7 _)).trans (Nat.mul_add ..).symm
theorem T5(c:List Nat):∀aj,nP (λi=>bif nx aj i then 1 else 0) c=c.getD aj 0:=by
 induction c with
 |nil=>exactλ_=>rfl
 |cons x c a7=>
  intro aj
  cases aj with
  |zero=>exact(congr (congrArg _ (Nat.one_mul x)) (J9 c))
  |succ aj=>exact(congr (congrArg _ (Nat.zero_mul x)) (a7 aj)).trans (vy _)
theorem T3(c:List Nat):∀f g,(∀i,i<c.length->f i<=g i)->nP f c<=nP g c:=by
 induction c with
 |nil=>exactλ_ _ _=>bF _
 |cons x c a7=>exactλf g h=>Nat.add_le_add (Nat.mul_le_mul_right _ (h 0 (yk _))) (a7 _ _ λi q=>h (i+1) (Nat.succ_lt_succ q))
theorem J6(c:List Nat)(e:E):e.den c=e.den []+nP (λi=>e.Dy i) c:=by
 induction e with
 |n k=>exact(congrArg (k+·) (J9 c)).symm
 |v i=>exact((vy _).trans (T5 c i)).symm
 |a x y ay bQ=>exact(congr (congrArg _ ay) bQ).trans ((Nat.add_add_add_comm ..).trans (congrArg _ (T2 c _ _).symm))
 |m k x ay=>exact(congrArg _ ay).trans ((Nat.mul_add ..).trans (congrArg _ (T4 k c _).symm))
noncomputable def le(f g:Nat->Nat)(n:Nat):Bool:=n.rec true λi b=>o7 (f i) (g i)&&b
theorem Yc{f g:Nat->Nat}{n:Nat}:le f g n=true->∀i,i<n->f i<=g i:=by
 induction n with
 |zero=>exactλ_ i h=>(vw i h).elim
 |succ n a7=>exactλh i hi=>(Nat.lt_or_eq_of_le (Nat.le_of_lt_succ hi)).elim (a7 ((o4 _ _).mp h).2 i) λe=>e▸rJ ((o4 _ _).mp h).1
noncomputable def aI(c:List Nat)(l r:E):Prop:=l.den c<=r.den c
noncomputable def SH(n:Nat)(l r:E):Bool:=o7 (r.den []+1) (l.den [])&&le (λi=>r.Dy i) (λi=>l.Dy i) n
theorem no{c:List Nat}{l r:E}(h:aI c l r)(k:SH c.length l r=true):False:=
 Nat.not_lt_of_le (show l.den c<=r.den c from h) (by
  rw[J6 c l,J6 c r]
  exact Nat.add_lt_add_of_lt_of_le (rJ ((o4 _ _).mp k).1) (T3 c _ _ (Yc ((o4 _ _).mp k).2)))
theorem aI.a{c:List Nat}{l r l' cu:E}(h:aI c l r)(h':aI c l' cu):aI c (l.a l') (r.a cu):=Nat.add_le_add h h'
theorem aI.m{c:List Nat}{l r:E}(k:Nat)(h:aI c l r):aI c (l.m k) (r.m k):=Nat.mul_le_mul_left k h
theorem mw(a b:Nat):a<=(a-b)+b:=Nat.le_add_of_sub_le (bF _)
theorem aaP{bU cB:Int}(ao:(((0:Int)<bU)/\(bU<cB))):bU≠(0:Int):=by omega
theorem acf{ab aF:Nat}{bU:Int}(ao:(((0:Int)<=bU)/\(((bU<=(1000:Int))/\(ab<aF))))):bU<=(1000000:Int):=by omega
theorem Zt{I ab:Nat}(ao:(I+ab)<=(1000000:Nat)):(I+ab)<=(16777216:Nat):=bJ λg1=>no (c:=[I,ab]) (l:=.a (.a (.v 0) (.v 1)) (.a (.n 16777216) (.n 1))) (r:=.a (.n 1000000) (.a (.v 0) (.v 1))) (aI.a ao g1) rfl
theorem Zw:¬((1:Int)<(0:Int)):=by omega
theorem ZE:(-(1:Int))<(0:Int):=by lia
theorem ZN{I:Nat}(ao:(1:Nat)<=I):(max ((-(1:Int))+((I:Nat):Int)) (0:Int))=(((I:Nat):Int)-(1:Int)):=by lia
theorem ZY:(1:Int)>(0:Int):=by lia
theorem aae{I ab:Nat}(ao:I<=ab):(min (I-(1:Nat)) I)<=ab:=by omega
theorem aan{I:Nat}(ao:(1:Nat)<=I):(I-(1:Nat))≠I:=λg1=>no (c:=[I,(I-1)]) (l:=.a (.v 0) (.a (.v 1) (.n 1))) (r:=.a (.v 1) (.v 0)) (aI.a (er (Eq.symm g1)) (er (vx (bJ λmd=>no (c:=[I]) (l:=.a (.n 1) (.a (.v 0) (.n 1))) (r:=.a (.v 0) (.n 1)) (aI.a ao md) rfl)))) rfl
theorem aay{I:Nat}:(tu ((0:Int)+(((I:Nat):Int)*(1:Int))))=((0:Nat)+I):=by lia
theorem aaI{I ab:Nat}(ao:((I:Nat):Int)<((ab:Nat):Int)):I<ab:=by lia
theorem aaQ{I:Nat}(ao:I<=(15:Nat)):I<(17:Nat):=fy λg1=>no (c:=[I]) (l:=.a (.v 0) (.n 17)) (r:=.a (.n 15) (.v 0)) (aI.a ao g1) rfl
theorem aaZ{I ab:Nat}(ao:I<=ab)(h1:¬(I=ab)):(I+(1:Nat))<=ab:=by lia
theorem Of{I ab:Nat}(ao:I<ab)(h1:ab<=I):False:=no (c:=[I,ab]) (l:=.a (.a (.v 0) (.n 1)) (.v 1)) (r:=.a (.v 1) (.v 0)) (aI.a ao h1) rfl
theorem abp{I:Nat}(ao:I<=(1000000:Nat)):I<=(1099511627776:Nat):=bJ λg1=>no (c:=[I]) (l:=.a (.v 0) (.a (.n 1099511627776) (.n 1))) (r:=.a (.n 1000000) (.v 0)) (aI.a ao g1) rfl
theorem abF{bU:Int}(ao:bU<=(1000000:Int)):bU<=(16777216:Int):=by lia
theorem AN{bU:Int}(ao:(0:Int)<=bU):¬(bU<(0:Int)):=by omega
theorem abQ{I ab:Nat}(ao:I<=ab):¬(I>ab):=λg1=>no (c:=[I,ab]) (l:=.a (.v 0) (.a (.v 1) (.n 1))) (r:=.a (.v 1) (.v 0)) (aI.a ao g1) rfl
theorem abR{bU:Int}(ao:(0:Int)<=bU)(h1:¬(bU>(0:Int))):bU=(0:Int):=by lia
theorem abS{bU:Int}(ao:(0:Int)<=bU)(h1:bU<(256:Int)):((¬(bU<(0:Int)))/\(¬(bU≥(256:Int)))):=by lia
theorem abT{ab:Nat}{bU:Int}(ao:(tu bU)<ab):bU<((ab:Nat):Int):=by lia
theorem abU{I:Nat}(ao:I<=(1000000:Nat)):I<=(16777216:Nat):=bJ λg1=>no (c:=[I]) (l:=.a (.v 0) (.a (.n 16777216) (.n 1))) (r:=.a (.n 1000000) (.v 0)) (aI.a ao g1) rfl
theorem abV{I ab:Nat}(ao:((I+((8:Nat)*(ab+(1:Nat))))+(8:Nat))<(1000:Nat)):((I+((8:Nat)*ab))+(8:Nat))<(1000:Nat):=fy λg1=>no (c:=[I,ab]) (l:=.a (.a (.a (.a (.v 0) (.m 8 (.a (.v 1) (.n 1)))) (.n 8)) (.n 1)) (.n 1000)) (r:=.a (.n 1000) (.a (.a (.v 0) (.m 8 (.v 1))) (.n 8))) (aI.a ao g1) rfl
theorem abW{I ab:Nat}(ao:((I+((8:Nat)*ab))+(8:Nat))<(1000:Nat)):I<(1000:Nat):=fy λg1=>no (c:=[I,ab]) (l:=.a (.a (.a (.a (.v 0) (.m 8 (.v 1))) (.n 8)) (.n 1)) (.n 1000)) (r:=.a (.n 1000) (.v 0)) (aI.a ao g1) rfl
theorem abX{I:Nat}(ao:(I+(7:Nat))<=(6:Nat)):False:=no (c:=[I]) (l:=.a (.v 0) (.n 7)) (r:=.n 6) ao rfl
theorem uT{I:Nat}(ao:¬(I<(2:Nat))):(2:Nat)<=I:=bJ λg1=>no (c:=[I]) (l:=.a (.n 2) (.a (.v 0) (.n 1))) (r:=.a (.v 0) (.n 2)) (aI.a (bJ ao) g1) rfl
theorem AO{I:Nat}(ao:I<=(6:Nat)):I<=(16777216:Nat):=bJ λg1=>no (c:=[I]) (l:=.a (.v 0) (.a (.n 16777216) (.n 1))) (r:=.a (.n 6) (.v 0)) (aI.a ao g1) rfl
theorem abY{I:Nat}(ao:I<=(6:Nat)):I<=(1000:Nat):=bJ λg1=>no (c:=[I]) (l:=.a (.v 0) (.a (.n 1000) (.n 1))) (r:=.a (.n 6) (.v 0)) (aI.a ao g1) rfl
theorem abZ{I:Nat}(ao:I<=(6:Nat)):I<(64:Nat):=fy λg1=>no (c:=[I]) (l:=.a (.v 0) (.n 64)) (r:=.a (.n 6) (.v 0)) (aI.a ao g1) rfl
theorem ab0{I ab:Nat}(ao:(2:Nat)<=I)(h1:ab=I):(0:Nat)<ab:=fy λg1=>no (c:=[I,ab]) (l:=.a (.a (.n 2) (.v 0)) (.v 1)) (r:=.a (.a (.v 0) (.v 1)) (.n 0)) (aI.a (aI.a ao (er (Eq.symm h1))) g1) rfl
theorem Ol{I ab:Nat}(ao:¬(I<ab)):ab<=I:=bJ λg1=>no (c:=[ab,I]) (l:=.a (.v 0) (.a (.v 1) (.n 1))) (r:=.a (.v 1) (.v 0)) (aI.a (bJ ao) g1) rfl
theorem ab1{I ab:Nat}(ao:((I+((64:Nat)*(ab+(1:Nat))))+(200:Nat))<(9900:Nat)):((((I+(1:Nat))+(1:Nat))+((64:Nat)*ab))+(200:Nat))<(9900:Nat):=fy λg1=>no (c:=[I,ab]) (l:=.a (.a (.a (.a (.v 0) (.m 64 (.a (.v 1) (.n 1)))) (.n 200)) (.n 1)) (.n 9900)) (r:=.a (.n 9900) (.a (.a (.a (.a (.v 0) (.n 1)) (.n 1)) (.m 64 (.v 1))) (.n 200))) (aI.a ao g1) rfl
theorem ab2{I ab:Nat}(ao:((I+((8:Nat)*ab))+(8:Nat))<(1000:Nat)):(I+(1:Nat))<(1000:Nat):=fy λg1=>no (c:=[I,ab]) (l:=.a (.a (.a (.a (.v 0) (.m 8 (.v 1))) (.n 8)) (.n 1)) (.n 1000)) (r:=.a (.n 1000) (.a (.v 0) (.n 1))) (aI.a ao g1) rfl
theorem ab3{I ab:Nat}(ao:(I+(1:Nat))<ab):I<=ab:=bJ λg1=>no (c:=[I,ab]) (l:=.a (.a (.a (.v 0) (.n 1)) (.n 1)) (.a (.v 1) (.n 1))) (r:=.a (.v 1) (.v 0)) (aI.a ao g1) rfl
theorem ab4{I:Nat}:¬(I=(I+(1:Nat))):=λg1=>no (c:=[I]) (l:=.a (.v 0) (.n 1)) (r:=.v 0) (er (Eq.symm g1)) rfl
theorem ab5{I:Nat}{cB:Int}(ao:I<(tu cB)):((I:Nat):Int)<cB:=by lia
theorem ab6{ab:Nat}{bU:Int}(ao:(tu bU)<=ab):(bU-((ab:Nat):Int))<=(0:Int):=by lia
theorem ab7{I:Nat}{cB:Int}(ao:((I:Nat):Int)<cB):(0:Int)<(cB-((I:Nat):Int)):=by lia
theorem ab8{ab:Nat}{bU:Int}:((bU-((ab:Nat):Int))-(1:Int))=(bU-(((ab+(1:Nat)):Nat):Int)):=by lia
theorem ab9{I ab aF:Nat}(ao:I=ab)(h1:ab<=aF):I<=aF:=bJ λg1=>no (c:=[I,ab,aF]) (l:=.a (.a (.v 0) (.v 1)) (.a (.v 2) (.n 1))) (r:=.a (.a (.v 1) (.v 2)) (.v 0)) (aI.a (aI.a (er ao) h1) g1) rfl
theorem ab'{I ab:Nat}(ao:((I+((8:Nat)*(ab+(1:Nat))))+(8:Nat))<(1000:Nat)):(((I+(1:Nat))+((8:Nat)*ab))+(8:Nat))<(1000:Nat):=fy λg1=>no (c:=[I,ab]) (l:=.a (.a (.a (.a (.v 0) (.m 8 (.a (.v 1) (.n 1)))) (.n 8)) (.n 1)) (.n 1000)) (r:=.a (.n 1000) (.a (.a (.a (.v 0) (.n 1)) (.m 8 (.v 1))) (.n 8))) (aI.a ao g1) rfl
theorem aca{I ab:Nat}(ao:((I+((64:Nat)*(ab+(1:Nat))))+(200:Nat))<(9900:Nat)):(((I+(3:Nat))+((64:Nat)*ab))+(200:Nat))<(9900:Nat):=fy λg1=>no (c:=[I,ab]) (l:=.a (.a (.a (.a (.v 0) (.m 64 (.a (.v 1) (.n 1)))) (.n 200)) (.n 1)) (.n 9900)) (r:=.a (.n 9900) (.a (.a (.a (.v 0) (.n 3)) (.m 64 (.v 1))) (.n 200))) (aI.a ao g1) rfl
theorem acb{I:Nat}:((I+(1:Nat))+(1:Nat))≠I:=λg1=>no (c:=[I]) (l:=.a (.a (.v 0) (.n 1)) (.n 1)) (r:=.v 0) (er g1) rfl
theorem acd{I:Nat}:I≠((I+(1:Nat))+(1:Nat)):=λg1=>no (c:=[I]) (l:=.a (.a (.v 0) (.n 1)) (.n 1)) (r:=.v 0) (er (Eq.symm g1)) rfl
theorem ace{I:Nat}:((I+(1:Nat))+(1:Nat))≠(I+(1:Nat)):=λg1=>no (c:=[I]) (l:=.a (.a (.v 0) (.n 1)) (.n 1)) (r:=.a (.v 0) (.n 1)) (er g1) rfl
theorem acg{I:Nat}:(I+(1:Nat))≠((I+(1:Nat))+(1:Nat)):=λg1=>no (c:=[I]) (l:=.a (.a (.v 0) (.n 1)) (.n 1)) (r:=.a (.v 0) (.n 1)) (er (Eq.symm g1)) rfl
theorem ach{I:Nat}:I<((I+(1:Nat))+(1:Nat)):=fy λg1=>no (c:=[I]) (l:=.a (.a (.v 0) (.n 1)) (.n 1)) (r:=.v 0) g1 rfl
theorem aci{I:Nat}(ao:¬((((63:Nat):Nat):Int)<((I:Nat):Int))):I<=(63:Nat):=by omega
theorem acj{I ab:Nat}(ao:(I+(ab+(1:Nat)))<(1000000:Nat)):(I+ab)<(1000000:Nat):=fy λg1=>no (c:=[I,ab]) (l:=.a (.a (.a (.v 0) (.a (.v 1) (.n 1))) (.n 1)) (.n 1000000)) (r:=.a (.n 1000000) (.a (.v 0) (.v 1))) (aI.a ao g1) rfl
theorem ack{I ab:Nat}(ao:(I+(ab+(1:Nat)))<(1000000:Nat)):I<(1000000:Nat):=fy λg1=>no (c:=[I,ab]) (l:=.a (.a (.a (.v 0) (.a (.v 1) (.n 1))) (.n 1)) (.n 1000000)) (r:=.a (.n 1000000) (.v 0)) (aI.a ao g1) rfl
theorem acl{I ab:Nat}(ao:(I+(ab+(1:Nat)))<(1000000:Nat)):((I+(1:Nat))+ab)<(1000000:Nat):=fy λg1=>no (c:=[I,ab]) (l:=.a (.a (.a (.v 0) (.a (.v 1) (.n 1))) (.n 1)) (.n 1000000)) (r:=.a (.n 1000000) (.a (.a (.v 0) (.n 1)) (.v 1))) (aI.a ao g1) rfl
theorem xy{I ab:Nat}(ao:(I+(ab+(1:Nat)))<=(1000:Nat)):((I+(1:Nat))+ab)<=(1000:Nat):=bJ λg1=>no (c:=[I,ab]) (l:=.a (.a (.v 0) (.a (.v 1) (.n 1))) (.a (.n 1000) (.n 1))) (r:=.a (.n 1000) (.a (.a (.v 0) (.n 1)) (.v 1))) (aI.a ao g1) rfl
theorem uU{I ab:Nat}(ao:(I+(ab+(1:Nat)))<=(1000:Nat)):I<=(1000000:Nat):=bJ λg1=>no (c:=[I,ab]) (l:=.a (.a (.v 0) (.a (.v 1) (.n 1))) (.a (.n 1000000) (.n 1))) (r:=.a (.n 1000) (.v 0)) (aI.a ao g1) rfl
theorem acm{I:Nat}(ao:I<=(1000:Nat)):((0:Nat)+I)<=(1000:Nat):=bJ λg1=>no (c:=[I]) (l:=.a (.v 0) (.a (.n 1000) (.n 1))) (r:=.a (.n 1000) (.a (.n 0) (.v 0))) (aI.a ao g1) rfl
theorem Om{I:Nat}(ao:I<=(100:Nat)):((0:Nat)+I)<(1000000:Nat):=fy λg1=>no (c:=[I]) (l:=.a (.v 0) (.n 1000000)) (r:=.a (.n 100) (.a (.n 0) (.v 0))) (aI.a ao g1) rfl
theorem acn{I:Nat}(ao:I<=(100:Nat)):I<=(1000:Nat):=bJ λg1=>no (c:=[I]) (l:=.a (.v 0) (.a (.n 1000) (.n 1))) (r:=.a (.n 100) (.v 0)) (aI.a ao g1) rfl
theorem aco{I ab aF:Nat}(ao:((I+(1:Nat))+(1:Nat))=ab)(h1:aF<=I):aF<=ab:=bJ λg1=>no (c:=[I,ab,aF]) (l:=.a (.a (.a (.a (.v 0) (.n 1)) (.n 1)) (.v 2)) (.a (.v 1) (.n 1))) (r:=.a (.a (.v 1) (.v 0)) (.v 2)) (aI.a (aI.a (er ao) h1) g1) rfl
theorem acp{I ab aF:Nat}(ao:I<ab)(h1:ab<=aF):I<(aF+(1:Nat)):=fy λg1=>no (c:=[I,ab,aF]) (l:=.a (.a (.a (.v 0) (.n 1)) (.v 1)) (.a (.v 2) (.n 1))) (r:=.a (.a (.v 1) (.v 2)) (.v 0)) (aI.a (aI.a ao h1) g1) rfl
theorem acq{I ab aF:Nat}(ao:I<ab)(h1:ab<=aF):I≠aF:=λg1=>no (c:=[I,ab,aF]) (l:=.a (.a (.a (.v 0) (.n 1)) (.v 1)) (.v 2)) (r:=.a (.a (.v 1) (.v 2)) (.v 0)) (aI.a (aI.a ao h1) (er (Eq.symm g1))) rfl
theorem acr{I ab aF:Nat}(ao:((I+(1:Nat))+(1:Nat))=ab)(h1:ab<=aF):(I+(1:Nat))<aF:=fy λg1=>no (c:=[I,ab,aF]) (l:=.a (.a (.a (.a (.v 0) (.n 1)) (.n 1)) (.v 1)) (.v 2)) (r:=.a (.a (.v 1) (.v 2)) (.a (.v 0) (.n 1))) (aI.a (aI.a (er ao) h1) g1) rfl
theorem acs{I ab aF:Nat}(ao:((I+(1:Nat))+(1:Nat))=ab)(h1:ab<=aF):(I+(1:Nat))<=aF:=bJ λg1=>no (c:=[I,ab,aF]) (l:=.a (.a (.a (.a (.v 0) (.n 1)) (.n 1)) (.v 1)) (.a (.v 2) (.n 1))) (r:=.a (.a (.v 1) (.v 2)) (.a (.v 0) (.n 1))) (aI.a (aI.a (er ao) h1) g1) rfl
theorem Oo{I:Nat}(ao:I<=(100:Nat)):I<=(1000000:Nat):=bJ λg1=>no (c:=[I]) (l:=.a (.v 0) (.a (.n 1000000) (.n 1))) (r:=.a (.n 100) (.v 0)) (aI.a ao g1) rfl
theorem act{I ab:Nat}(ao:((I+(1:Nat))+(1:Nat))=ab):(I+(1:Nat))<ab:=fy λg1=>no (c:=[I,ab]) (l:=.a (.a (.a (.v 0) (.n 1)) (.n 1)) (.v 1)) (r:=.a (.v 1) (.a (.v 0) (.n 1))) (aI.a (er ao) g1) rfl
theorem acu{I:Nat}(ao:I<=(6:Nat)):I<(7:Nat):=fy λg1=>no (c:=[I]) (l:=.a (.v 0) (.n 7)) (r:=.a (.n 6) (.v 0)) (aI.a ao g1) rfl
theorem Oq{I ab:Nat}(ao:(I+(ab+(1:Nat)))<=(100:Nat)):(I+ab)<=(100:Nat):=bJ λg1=>no (c:=[I,ab]) (l:=.a (.a (.v 0) (.a (.v 1) (.n 1))) (.a (.n 100) (.n 1))) (r:=.a (.n 100) (.a (.v 0) (.v 1))) (aI.a ao g1) rfl
theorem acv{I ab:Nat}(ao:(I+(ab+(1:Nat)))<=(100:Nat)):I<=(1000000:Nat):=bJ λg1=>no (c:=[I,ab]) (l:=.a (.a (.v 0) (.a (.v 1) (.n 1))) (.a (.n 1000000) (.n 1))) (r:=.a (.n 100) (.v 0)) (aI.a ao g1) rfl
theorem acw{I ab:Nat}(ao:(I+(ab+(1:Nat)))<=(100:Nat)):((I+(1:Nat))+ab)<=(100:Nat):=bJ λg1=>no (c:=[I,ab]) (l:=.a (.a (.v 0) (.a (.v 1) (.n 1))) (.a (.n 100) (.n 1))) (r:=.a (.n 100) (.a (.a (.v 0) (.n 1)) (.v 1))) (aI.a ao g1) rfl
theorem Gn{I:Nat}(ao:I<=(6:Nat)):((0:Nat)+I)<(1000000:Nat):=fy λg1=>no (c:=[I]) (l:=.a (.v 0) (.n 1000000)) (r:=.a (.n 6) (.a (.n 0) (.v 0))) (aI.a ao g1) rfl
theorem acx{I ab:Nat}(ao:I<=(ab-(1:Nat)))(h1:(0:Nat)<ab):(I+(1:Nat))<=ab:=bJ λg1=>no (c:=[I,(ab-1),ab]) (l:=.a (.a (.v 0) (.a (.v 2) (.n 1))) (.a (.v 1) (.n 1))) (r:=.a (.a (.v 1) (.a (.v 0) (.n 1))) (.v 2)) (aI.a (aI.a ao g1) (er (vx (bJ λmd=>no (c:=[ab]) (l:=.a (.a (.n 0) (.n 1)) (.a (.v 0) (.n 1))) (r:=.a (.v 0) (.n 1)) (aI.a h1 md) rfl)))) rfl
theorem Ot{ab:Nat}{bU:Int}:((bU+(1:Int))+((ab:Nat):Int))=(bU+(((ab:Nat):Int)+(1:Int))):=by lia
theorem acy{ab:Nat}{bU:Int}:(bU+(((ab:Nat):Int)+(1:Int)))=((bU+(1:Int))+((ab:Nat):Int)):=by lia
theorem acz{I ab aF bE:Nat}(ao:I<=(ab+aF))(h1:ab<=(bE+(1:Nat))):I<=(bE+(aF+(1:Nat))):=bJ λg1=>no (c:=[I,ab,aF,bE]) (l:=.a (.a (.v 0) (.v 1)) (.a (.a (.v 3) (.a (.v 2) (.n 1))) (.n 1))) (r:=.a (.a (.a (.v 1) (.v 2)) (.a (.v 3) (.n 1))) (.v 0)) (aI.a (aI.a ao h1) g1) rfl
theorem Ou{I:Nat}{cB:Int}(ao:(0:Nat)<I)(h1:((I:Nat):Int)=cB):(0:Int)<cB:=by lia
theorem acA{bU cB:Int}(ao:(0:Int)<=bU)(h1:bU<cB):cB≠(0:Int):=by lia
theorem acB{I:Nat}{cB eZ:Int}(ao:((I:Nat):Int)=cB)(h1:(0:Int)<=eZ)(h2:eZ<cB):(tu eZ)<I:=by lia
theorem Zu{bU:Int}(ao:(0:Int)<bU):bU≠(0:Int):=by lia
theorem Zv{bU:Int}(ao:(0:Int)<=bU):(0:Int)<=(bU+(1:Int)):=by lia
theorem NY{I ab:Nat}(ao:(I+(ab+(1:Nat)))<=(1000000:Nat)):I<=(1000000:Nat):=bJ λg1=>no (c:=[I,ab]) (l:=.a (.a (.v 0) (.a (.v 1) (.n 1))) (.a (.n 1000000) (.n 1))) (r:=.a (.n 1000000) (.v 0)) (aI.a ao g1) rfl
theorem NZ{I ab:Nat}(ao:(I+(ab+(1:Nat)))<=(1000000:Nat)):((I+(1:Nat))+ab)<=(1000000:Nat):=bJ λg1=>no (c:=[I,ab]) (l:=.a (.a (.v 0) (.a (.v 1) (.n 1))) (.a (.n 1000000) (.n 1))) (r:=.a (.n 1000000) (.a (.a (.v 0) (.n 1)) (.v 1))) (aI.a ao g1) rfl
theorem Gi{I ab:Nat}(ao:(I+(ab+(1:Nat)))<=(900000:Nat)):I<=(1000000:Nat):=bJ λg1=>no (c:=[I,ab]) (l:=.a (.a (.v 0) (.a (.v 1) (.n 1))) (.a (.n 1000000) (.n 1))) (r:=.a (.n 900000) (.v 0)) (aI.a ao g1) rfl
theorem N0{I ab:Nat}(ao:(I+((64:Nat)*(ab+(1:Nat))))<=(900000:Nat)):(I+((64:Nat)*ab))<=(900000:Nat):=bJ λg1=>no (c:=[I,ab]) (l:=.a (.a (.v 0) (.m 64 (.a (.v 1) (.n 1)))) (.a (.n 900000) (.n 1))) (r:=.a (.n 900000) (.a (.v 0) (.m 64 (.v 1)))) (aI.a ao g1) rfl
theorem ri{I ab:Nat}(ao:(I+(ab+(1:Nat)))<=(900000:Nat)):(I+ab)<=(900000:Nat):=bJ λg1=>no (c:=[I,ab]) (l:=.a (.a (.v 0) (.a (.v 1) (.n 1))) (.a (.n 900000) (.n 1))) (r:=.a (.n 900000) (.a (.v 0) (.v 1))) (aI.a ao g1) rfl
theorem Gj{I ab:Nat}(ao:(I+(ab+(1:Nat)))<=(900000:Nat)):((I+(1:Nat))+ab)<=(900000:Nat):=bJ λg1=>no (c:=[I,ab]) (l:=.a (.a (.v 0) (.a (.v 1) (.n 1))) (.a (.n 900000) (.n 1))) (r:=.a (.n 900000) (.a (.a (.v 0) (.n 1)) (.v 1))) (aI.a ao g1) rfl
theorem AK{I ab aF:Nat}(ao:(I+((64:Nat)*(ab+(1:Nat))))<=(900000:Nat))(h1:aF<(64:Nat)):(I+aF)<=(1000000:Nat):=bJ λg1=>no (c:=[I,ab,aF]) (l:=.a (.a (.a (.v 0) (.m 64 (.a (.v 1) (.n 1)))) (.a (.v 2) (.n 1))) (.a (.n 1000000) (.n 1))) (r:=.a (.a (.n 900000) (.n 64)) (.a (.v 0) (.v 2))) (aI.a (aI.a ao h1) g1) rfl
theorem xw{I ab aF bE:Nat}(ao:(I+((64:Nat)*(ab+(1:Nat))))<=(900000:Nat))(h1:aF<(64:Nat))(h2:bE<=(I+aF)):(bE+((64:Nat)*ab))<=(900000:Nat):=bJ λg1=>no (c:=[I,ab,aF,bE]) (l:=.a (.a (.a (.a (.v 0) (.m 64 (.a (.v 1) (.n 1)))) (.a (.v 2) (.n 1))) (.v 3)) (.a (.n 900000) (.n 1))) (r:=.a (.a (.a (.n 900000) (.n 64)) (.a (.v 0) (.v 2))) (.a (.v 3) (.m 64 (.v 1)))) (aI.a (aI.a (aI.a ao h1) h2) g1) rfl
theorem td{I:Nat}(ao:I<(64:Nat)):I<=(1000000:Nat):=bJ λg1=>no (c:=[I]) (l:=.a (.a (.v 0) (.n 1)) (.a (.n 1000000) (.n 1))) (r:=.a (.n 64) (.v 0)) (aI.a ao g1) rfl
theorem Zx{I:Nat}(ao:I<=(1000:Nat)):((0:Nat)+((64:Nat)*I))<=(900000:Nat):=bJ λg1=>no (c:=[I]) (l:=.a (.m 64 (.v 0)) (.a (.n 900000) (.n 1))) (r:=.a (.m 64 (.n 1000)) (.a (.n 0) (.m 64 (.v 0)))) (aI.a (aI.m 64 ao) g1) rfl
theorem Zy{I:Nat}(ao:I<=(1000:Nat)):((0:Nat)+I)<=(900000:Nat):=bJ λg1=>no (c:=[I]) (l:=.a (.v 0) (.a (.n 900000) (.n 1))) (r:=.a (.n 1000) (.a (.n 0) (.v 0))) (aI.a ao g1) rfl
theorem Zz{I ab aF:Nat}(ao:I<=(900:Nat))(h1:ab<=aF)(h2:aF<I):ab<=(1000000:Nat):=bJ λg1=>no (c:=[I,ab,aF]) (l:=.a (.a (.a (.v 0) (.v 1)) (.a (.v 2) (.n 1))) (.a (.n 1000000) (.n 1))) (r:=.a (.a (.a (.n 900) (.v 2)) (.v 0)) (.v 1)) (aI.a (aI.a (aI.a ao h1) h2) g1) rfl
theorem ZA{I ab aF:Nat}(ao:I<=ab)(h1:aF<=(I+(1:Nat))):aF<=(ab+(1:Nat)):=bJ λg1=>no (c:=[I,ab,aF]) (l:=.a (.a (.v 0) (.v 2)) (.a (.a (.v 1) (.n 1)) (.n 1))) (r:=.a (.a (.v 1) (.a (.v 0) (.n 1))) (.v 2)) (aI.a (aI.a ao h1) g1) rfl
theorem ZC{I ab:Nat}(ao:I<=(6:Nat))(h1:ab<=I):ab<=(6:Nat):=bJ λg1=>no (c:=[I,ab]) (l:=.a (.a (.v 0) (.v 1)) (.a (.n 6) (.n 1))) (r:=.a (.a (.n 6) (.v 0)) (.v 1)) (aI.a (aI.a ao h1) g1) rfl
theorem ZD{I ab:Nat}(ao:I<=(6:Nat))(h1:I=ab):((0:Nat)+ab)<(1000000:Nat):=fy λg1=>no (c:=[I,ab]) (l:=.a (.a (.v 0) (.v 1)) (.n 1000000)) (r:=.a (.a (.n 6) (.v 0)) (.a (.n 0) (.v 1))) (aI.a (aI.a ao (er (Eq.symm h1))) g1) rfl
theorem ZF{I ab aF:Nat}(ao:I<=(900:Nat))(h1:(ab+aF)=I):ab<=(900:Nat):=bJ λg1=>no (c:=[I,ab,aF]) (l:=.a (.a (.v 0) (.a (.v 1) (.v 2))) (.a (.n 900) (.n 1))) (r:=.a (.a (.n 900) (.v 0)) (.v 1)) (aI.a (aI.a ao (er h1)) g1) rfl
theorem Gk{I:Nat}(ao:I<=(900:Nat)):I<=(1000000:Nat):=bJ λg1=>no (c:=[I]) (l:=.a (.v 0) (.a (.n 1000000) (.n 1))) (r:=.a (.n 900) (.v 0)) (aI.a ao g1) rfl
theorem ZG{I ab:Nat}(ao:¬(I<=ab)):ab<I:=fy λg1=>no (c:=[ab,I]) (l:=.a (.a (.v 0) (.n 1)) (.v 1)) (r:=.a (.v 1) (.v 0)) (aI.a (fy ao) g1) rfl
theorem ZH{I ab aF bE:Nat}(ao:¬(I<=ab))(h1:I=(aF+bE)):ab<(aF+bE):=fy λg1=>no (c:=[ab,I,aF,bE]) (l:=.a (.a (.a (.v 0) (.n 1)) (.v 1)) (.a (.v 2) (.v 3))) (r:=.a (.a (.v 1) (.a (.v 2) (.v 3))) (.v 0)) (aI.a (aI.a (fy ao) (er h1)) g1) rfl
theorem N1{I ab aF:Nat}(ao:I<(ab+aF)):(I-ab)<=aF:=bJ λg1=>Or.elim (yi ab I) (λcE=>no (c:=[I,ab,aF,(I-ab)]) (l:=.a (.a (.a (.v 0) (.n 1)) (.a (.v 2) (.n 1))) (.a (.v 3) (.v 1))) (r:=.a (.a (.a (.v 1) (.v 2)) (.v 3)) (.v 0)) (aI.a (aI.a ao g1) (er (vx (bJ λmd=>no (c:=[ab,I]) (l:=.a (.v 0) (.a (.v 1) (.n 1))) (r:=.a (.v 1) (.v 0)) (aI.a cE md) rfl)))) rfl) (λcE=>no (c:=[aF,(I-ab)]) (l:=.a (.a (.v 0) (.n 1)) (.v 1)) (r:=.a (.v 1) (.n 0)) (aI.a g1 (er (Nat.sub_eq_zero_of_le (bJ λmd=>no (c:=[I,ab]) (l:=.a (.v 0) (.a (.v 1) (.n 1))) (r:=.a (.v 1) (.v 0)) (aI.a cE md) rfl)))) rfl)
theorem ZI{I ab:Nat}{eZ:Int}(ao:I<=ab):(eZ+((ab:Nat):Int))=((eZ+((I:Nat):Int))+(((ab-I):Nat):Int)):=by lia
theorem ZJ{I ab aF:Nat}:((1:Nat)+(I-(ab-aF)))<=((1:Nat)+I):=bJ λg1=>no (c:=[I,(I-(ab-aF))]) (l:=.a (.a (.a (.n 1) (.v 0)) (.n 1)) (.v 1)) (r:=.a (.a (.n 1) (.v 1)) (.v 0)) (aI.a g1 (Nat.sub_le I (ab-aF))) rfl
theorem ZK{I ab aF:Nat}(ao:I<ab)(h1:ab<(I+aF)):((1:Nat)+(aF-(ab-I)))<((1:Nat)+aF):=fy λg1=>Or.elim (yi I ab) (λcE=>Or.elim (yi (ab-I) aF) (λGA=>no (c:=[I,ab,aF,(aF-(ab-I)),(ab-I)]) (l:=.a (.a (.a (.a (.v 0) (.n 1)) (.a (.n 1) (.v 2))) (.v 1)) (.a (.v 3) (.v 4))) (r:=.a (.a (.a (.v 1) (.a (.n 1) (.v 3))) (.a (.v 4) (.v 0))) (.v 2)) (aI.a (aI.a (aI.a ao g1) (mw ab I)) (er (vx (bJ λmd=>no (c:=[(ab-I),aF]) (l:=.a (.v 0) (.a (.v 1) (.n 1))) (r:=.a (.v 1) (.v 0)) (aI.a GA md) rfl)))) rfl) (λGA=>no (c:=[ab,I,aF,(ab-I)]) (l:=.a (.a (.a (.v 0) (.n 1)) (.v 2)) (.a (.v 3) (.v 1))) (r:=.a (.a (.a (.v 1) (.v 2)) (.v 3)) (.v 0)) (aI.a (aI.a h1 GA) (er (vx (bJ λmd=>no (c:=[I,ab]) (l:=.a (.a (.v 0) (.n 1)) (.a (.v 1) (.n 1))) (r:=.a (.v 1) (.v 0)) (aI.a ao md) rfl)))) rfl)) (λcE=>no (c:=[I,ab]) (l:=.a (.a (.v 0) (.n 1)) (.v 1)) (r:=.a (.v 1) (.v 0)) (aI.a ao cE) rfl)
theorem ZL{I ab aF bE d1 fV jm:Nat}(ao:((I<=ab)/\(aF<=(bE-d1))))(h1:fV<=jm):(fV+I)<=(jm+ab):=bJ λg1=>no (c:=[I,ab,fV,jm]) (l:=.a (.a (.v 0) (.v 2)) (.a (.a (.v 3) (.v 1)) (.n 1))) (r:=.a (.a (.v 1) (.v 3)) (.a (.v 2) (.v 0))) (aI.a (aI.a ao.1 h1) g1) rfl
theorem ZM{I ab aF bE d1:Nat}(ao:((I<=ab)/\(aF<=(bE-d1))))(h1:d1<=bE):(d1+aF)<=bE:=bJ λg1=>no (c:=[aF,(bE-d1),bE,d1]) (l:=.a (.a (.v 0) (.a (.v 2) (.n 1))) (.a (.v 1) (.v 3))) (r:=.a (.a (.v 1) (.a (.v 3) (.v 0))) (.v 2)) (aI.a (aI.a ao.2 g1) (er (vx (bJ λmd=>no (c:=[d1,bE]) (l:=.a (.v 0) (.a (.v 1) (.n 1))) (r:=.a (.v 1) (.v 0)) (aI.a h1 md) rfl)))) rfl
theorem ZO{I ab:Nat}(ao:(32:Nat)<=I)(h1:I<ab)(h2:ab<=(28:Nat)):False:=no (c:=[I,ab]) (l:=.a (.a (.n 32) (.a (.v 0) (.n 1))) (.v 1)) (r:=.a (.a (.v 0) (.v 1)) (.n 28)) (aI.a (aI.a ao h1) h2) rfl
theorem ZP{I ab:Nat}(ao:(32:Nat)<=I)(h1:I<=ab)(h2:ab<=(28:Nat)):False:=no (c:=[I,ab]) (l:=.a (.a (.n 32) (.v 0)) (.v 1)) (r:=.a (.a (.v 0) (.v 1)) (.n 28)) (aI.a (aI.a ao h1) h2) rfl
theorem ZQ{I ab:Nat}(ao:(32:Nat)<=I)(h1:I<=ab)(h2:ab<=(4:Nat)):False:=no (c:=[I,ab]) (l:=.a (.a (.n 32) (.v 0)) (.v 1)) (r:=.a (.a (.v 0) (.v 1)) (.n 4)) (aI.a (aI.a ao h1) h2) rfl
theorem ZR{I ab aF bE d1 fV:Nat}(ao:(I+ab)=aF)(h1:(bE+d1)=fV):((bE+I)+(d1+ab))=(fV+aF):=vu (bJ λg2=>no (c:=[I,ab,aF,bE,d1,fV]) (l:=.a (.a (.a (.v 0) (.v 1)) (.a (.v 3) (.v 4))) (.a (.a (.v 5) (.v 2)) (.n 1))) (r:=.a (.a (.v 2) (.v 5)) (.a (.a (.v 3) (.v 0)) (.a (.v 4) (.v 1)))) (aI.a (aI.a (er ao) (er h1)) g2) rfl) (bJ λg3=>no (c:=[aF,I,ab,fV,bE,d1]) (l:=.a (.a (.v 0) (.v 3)) (.a (.a (.a (.v 4) (.v 1)) (.a (.v 5) (.v 2))) (.n 1))) (r:=.a (.a (.a (.v 1) (.v 2)) (.a (.v 4) (.v 5))) (.a (.v 3) (.v 0))) (aI.a (aI.a (er (Eq.symm ao)) (er (Eq.symm h1))) g3) rfl)
theorem ZS{I ab aF bE:Nat}(ao:I<ab)(h1:aF<=bE):(I+aF)<(ab+bE):=fy λg1=>no (c:=[I,ab,aF,bE]) (l:=.a (.a (.a (.v 0) (.n 1)) (.v 2)) (.a (.v 1) (.v 3))) (r:=.a (.a (.v 1) (.v 3)) (.a (.v 0) (.v 2))) (aI.a (aI.a ao h1) g1) rfl
theorem ZT{bU:Int}(ao:(0:Int)<=bU)(h1:bU<(256:Int)):(bU/ (256:Int))=(0:Int):=by lia
theorem ZU{bU:Int}(ao:(0:Int)<=bU)(h1:bU<(256:Int)):(bU % (256:Int))=bU:=by omega
theorem ZV{I ab aF bE:Nat}(ao:I<=(ab+(1:Nat)))(h1:aF<=(I+bE)):aF<=(ab+(bE+(1:Nat))):=bJ λg1=>no (c:=[I,ab,aF,bE]) (l:=.a (.a (.v 0) (.v 2)) (.a (.a (.v 1) (.a (.v 3) (.n 1))) (.n 1))) (r:=.a (.a (.a (.v 1) (.n 1)) (.a (.v 0) (.v 3))) (.v 2)) (aI.a (aI.a ao h1) g1) rfl
theorem ZW{I ab aF:Nat}(ao:I<=(13000:Nat))(h1:ab<=aF)(h2:aF<=(1000:Nat)):(ab+((64:Nat)*I))<=(900000:Nat):=bJ λg1=>no (c:=[I,ab,aF]) (l:=.a (.a (.a (.m 64 (.v 0)) (.v 1)) (.v 2)) (.a (.n 900000) (.n 1))) (r:=.a (.a (.a (.m 64 (.n 13000)) (.v 2)) (.n 1000)) (.a (.v 1) (.m 64 (.v 0)))) (aI.a (aI.a (aI.a (aI.m 64 ao) h1) h2) g1) rfl
theorem ZX{I ab aF:Nat}(ao:I<=(13000:Nat))(h1:ab<=aF)(h2:aF<=(1000:Nat)):(ab+I)<=(900000:Nat):=bJ λg1=>no (c:=[I,ab,aF]) (l:=.a (.a (.a (.v 0) (.v 1)) (.v 2)) (.a (.n 900000) (.n 1))) (r:=.a (.a (.a (.n 13000) (.v 2)) (.n 1000)) (.a (.v 1) (.v 0))) (aI.a (aI.a (aI.a ao h1) h2) g1) rfl
theorem ZZ{I ab:Nat}(ao:I<=(13000:Nat))(h1:ab<=(800000:Nat)):(ab+I)<=(900000:Nat):=bJ λg1=>no (c:=[I,ab]) (l:=.a (.a (.v 0) (.v 1)) (.a (.n 900000) (.n 1))) (r:=.a (.a (.n 13000) (.n 800000)) (.a (.v 1) (.v 0))) (aI.a (aI.a ao h1) g1) rfl
theorem Z0{I ab aF bE d1 fV:Nat}(ao:I<=(ab+aF))(h1:aF<=bE)(h2:bE<=d1)(aU:d1<=(51:Nat))(h4:ab<=fV):I<=(fV+(51:Nat)):=bJ λg1=>no (c:=[I,ab,aF,bE,d1,fV]) (l:=.a (.a (.a (.a (.a (.v 0) (.v 2)) (.v 3)) (.v 4)) (.v 1)) (.a (.a (.v 5) (.n 51)) (.n 1))) (r:=.a (.a (.a (.a (.a (.a (.v 1) (.v 2)) (.v 3)) (.v 4)) (.n 51)) (.v 5)) (.v 0)) (aI.a (aI.a (aI.a (aI.a (aI.a ao h1) h2) aU) h4) g1) rfl
theorem Z1{I ab aF bE d1:Nat}(ao:I<=ab)(h1:ab<=aF)(h2:aF<=(51:Nat))(aU:bE<=d1):(bE+I)<=(d1+(51:Nat)):=bJ λg1=>no (c:=[I,ab,aF,bE,d1]) (l:=.a (.a (.a (.a (.v 0) (.v 1)) (.v 2)) (.v 3)) (.a (.a (.v 4) (.n 51)) (.n 1))) (r:=.a (.a (.a (.a (.v 1) (.v 2)) (.n 51)) (.v 4)) (.a (.v 3) (.v 0))) (aI.a (aI.a (aI.a (aI.a ao h1) h2) aU) g1) rfl
theorem Z2{I ab aF bE d1:Nat}(ao:I<=(51:Nat))(h1:ab<=I)(h2:aF<=bE)(aU:bE<=ab)(h4:d1<=(800000:Nat)):(d1+aF)<=(1000000:Nat):=bJ λg1=>no (c:=[I,ab,aF,bE,d1]) (l:=.a (.a (.a (.a (.a (.v 0) (.v 1)) (.v 2)) (.v 3)) (.v 4)) (.a (.n 1000000) (.n 1))) (r:=.a (.a (.a (.a (.a (.n 51) (.v 0)) (.v 3)) (.v 1)) (.n 800000)) (.a (.v 4) (.v 2))) (aI.a (aI.a (aI.a (aI.a (aI.a ao h1) h2) aU) h4) g1) rfl
theorem Z3{I ab aF bE:Nat}(ao:I<=(51:Nat))(h1:ab<=I)(h2:aF<=bE)(aU:bE<=ab):((0:Nat)+aF)<(1000000:Nat):=fy λg1=>no (c:=[I,ab,aF,bE]) (l:=.a (.a (.a (.a (.v 0) (.v 1)) (.v 2)) (.v 3)) (.n 1000000)) (r:=.a (.a (.a (.a (.n 51) (.v 0)) (.v 3)) (.v 1)) (.a (.n 0) (.v 2))) (aI.a (aI.a (aI.a (aI.a ao h1) h2) aU) g1) rfl
theorem N2{I ab:Nat}(ao:I=ab)(h1:ab<=(70:Nat)):I<=(1000000:Nat):=bJ λg1=>no (c:=[I,ab]) (l:=.a (.a (.v 0) (.v 1)) (.a (.n 1000000) (.n 1))) (r:=.a (.a (.v 1) (.n 70)) (.v 0)) (aI.a (aI.a (er ao) h1) g1) rfl
theorem Z4{I ab:Nat}(ao:I<=ab):¬(((ab:Nat):Int)<((I:Nat):Int)):=by omega
theorem N3{I:Nat}(ao:I<=(6:Nat)):I<=(1000000:Nat):=bJ λg1=>no (c:=[I]) (l:=.a (.v 0) (.a (.n 1000000) (.n 1))) (r:=.a (.n 6) (.v 0)) (aI.a ao g1) rfl
theorem Z5{I ab aF bE:Nat}(ao:I<=(51:Nat))(h1:ab<=I)(h2:aF<=bE)(aU:bE<=ab):aF<=(13000:Nat):=bJ λg1=>no (c:=[I,ab,aF,bE]) (l:=.a (.a (.a (.a (.v 0) (.v 1)) (.v 2)) (.v 3)) (.a (.n 13000) (.n 1))) (r:=.a (.a (.a (.a (.n 51) (.v 0)) (.v 3)) (.v 1)) (.v 2)) (aI.a (aI.a (aI.a (aI.a ao h1) h2) aU) g1) rfl
theorem N4{I:Nat}(ao:I<=(6:Nat)):I<=(100:Nat):=bJ λg1=>no (c:=[I]) (l:=.a (.v 0) (.a (.n 100) (.n 1))) (r:=.a (.n 6) (.v 0)) (aI.a ao g1) rfl
theorem Z6{bU cB:Int}(ao:(((0:Int)<=bU)/\(bU<(30:Int)))):cB<=((cB+(5:Int))+bU):=by lia
theorem Z7{I:Nat}(ao:I<=(320:Nat)):I<(1000000:Nat):=fy λg1=>no (c:=[I]) (l:=.a (.v 0) (.n 1000000)) (r:=.a (.n 320) (.v 0)) (aI.a ao g1) rfl
theorem N5{I ab:Nat}(ao:I<=(320:Nat))(h1:ab<=I):ab<=(900:Nat):=bJ λg1=>no (c:=[I,ab]) (l:=.a (.a (.v 0) (.v 1)) (.a (.n 900) (.n 1))) (r:=.a (.a (.n 320) (.v 0)) (.v 1)) (aI.a (aI.a ao h1) g1) rfl
theorem Z8{I ab:Nat}(ao:I<=(320:Nat))(h1:ab<=I):((0:Nat)+ab)<=(320:Nat):=bJ λg1=>no (c:=[I,ab]) (l:=.a (.a (.v 0) (.v 1)) (.a (.n 320) (.n 1))) (r:=.a (.a (.n 320) (.v 0)) (.a (.n 0) (.v 1))) (aI.a (aI.a ao h1) g1) rfl
theorem Z9{I ab aF:Nat}(ao:I<=(700000:Nat))(h1:(ab+(aF+(1:Nat)))<=(320:Nat)):(I+((51:Nat)*ab))<=(800000:Nat):=bJ λg1=>no (c:=[I,ab,aF]) (l:=.a (.a (.v 0) (.m 51 (.a (.v 1) (.a (.v 2) (.n 1))))) (.a (.n 800000) (.n 1))) (r:=.a (.a (.n 700000) (.m 51 (.n 320))) (.a (.v 0) (.m 51 (.v 1)))) (aI.a (aI.a ao (aI.m 51 h1)) g1) rfl
theorem Z'{I ab:Nat}:((I+((51:Nat)*ab))+(51:Nat))<=(I+((51:Nat)*(ab+(1:Nat)))):=bJ λg1=>no (c:=[I,ab]) (l:=.a (.a (.v 0) (.m 51 (.a (.v 1) (.n 1)))) (.n 1)) (r:=.a (.a (.v 0) (.m 51 (.v 1))) (.n 51)) g1 rfl
theorem aaa{I ab:Nat}(ao:(I+(ab+(1:Nat)))<=(320:Nat)):((I+(1:Nat))+ab)<=(320:Nat):=bJ λg1=>no (c:=[I,ab]) (l:=.a (.a (.v 0) (.a (.v 1) (.n 1))) (.a (.n 320) (.n 1))) (r:=.a (.n 320) (.a (.a (.v 0) (.n 1)) (.v 1))) (aI.a ao g1) rfl
theorem aab{I ab:Nat}(ao:(I+(0:Nat))<=(320:Nat)):(ab+((51:Nat)*I))<=(ab+((51:Nat)*(320:Nat))):=bJ λg1=>no (c:=[I,ab]) (l:=.a (.m 51 (.a (.v 0) (.n 0))) (.a (.a (.v 1) (.m 51 (.n 320))) (.n 1))) (r:=.a (.m 51 (.n 320)) (.a (.v 1) (.m 51 (.v 0)))) (aI.a (aI.m 51 ao) g1) rfl
theorem aac{I:Nat}(ao:I<(32:Nat)):((0:Nat)+I)<(1000000:Nat):=fy λg1=>no (c:=[I]) (l:=.a (.a (.v 0) (.n 1)) (.n 1000000)) (r:=.a (.n 32) (.a (.n 0) (.v 0))) (aI.a ao g1) rfl
theorem aad{I ab:Nat}(ao:I<(32:Nat))(h1:ab=I):ab<=(1000000:Nat):=bJ λg1=>no (c:=[I,ab]) (l:=.a (.a (.a (.v 0) (.n 1)) (.v 1)) (.a (.n 1000000) (.n 1))) (r:=.a (.a (.n 32) (.v 0)) (.v 1)) (aI.a (aI.a ao (er h1)) g1) rfl
theorem aaf{I:Nat}(ao:I<=(1000:Nat)):I<=(1000000:Nat):=bJ λg1=>no (c:=[I]) (l:=.a (.v 0) (.a (.n 1000000) (.n 1))) (r:=.a (.n 1000) (.v 0)) (aI.a ao g1) rfl
theorem AL{I:Nat}:((1:Int)+((I:Nat):Int))=((((1:Nat)+I):Nat):Int):=by lia
theorem aag{I:Nat}(ao:((I:Nat):Int)<(30:Int)):((1:Nat)+I)<(32:Nat):=by lia
theorem aah{I ab:Nat}(ao:((I:Nat):Int)<(30:Int))(h1:ab=((1:Nat)+I)):ab<=(30:Nat):=by lia
theorem N6{I:Nat}(ao:((I:Nat):Int)<(2:Int)):((1:Nat)+I)<(32:Nat):=by lia
theorem aai{I ab:Nat}(ao:((I:Nat):Int)<(2:Int))(h1:ab<((1:Nat)+I)):((6:Nat)+ab)<=(1000:Nat):=by lia
theorem aaj{I:Nat}(ao:((I:Nat):Int)<(20:Int)):((1:Nat)+I)<(32:Nat):=by lia
theorem aak{I ab:Nat}(ao:((I:Nat):Int)<(2:Int))(h1:ab<=((1:Nat)+I)):((6:Nat)+ab)<=(1000:Nat):=by lia
theorem aal{I:Nat}(ao:((I:Nat):Int)<(3:Int)):(((1:Int)<=((1:Int)+((I:Nat):Int)))/\(((1:Int)+((I:Nat):Int))<=(3:Int))):=by lia
theorem aam{I ab:Nat}(ao:((I:Nat):Int)<(2:Int))(h1:ab<=((1:Nat)+I))(h2:((1:Nat)+I)<=ab):((ab=(1:Nat))\/(ab=(2:Nat))):=by lia
theorem aao{I ab:Nat}(ao:((I:Nat):Int)<(20:Int))(h1:ab=((1:Nat)+I)):ab<=(20:Nat):=by lia
theorem aap{I ab aF:Nat}(ao:I<=ab):(aF+I)<=(aF+ab):=bJ λg1=>no (c:=[I,ab,aF]) (l:=.a (.v 0) (.a (.a (.v 2) (.v 1)) (.n 1))) (r:=.a (.v 1) (.a (.v 2) (.v 0))) (aI.a ao g1) rfl
theorem aaq{I ab aF:Nat}(ao:I<=ab):I<=(aF+ab):=bJ λg1=>no (c:=[I,ab,aF]) (l:=.a (.v 0) (.a (.a (.v 2) (.v 1)) (.n 1))) (r:=.a (.v 1) (.v 0)) (aI.a ao g1) rfl
theorem aar{I ab aF:Nat}(ao:I<=ab)(h1:aF<=(4:Nat)):(aF+I)<=(ab+(4:Nat)):=bJ λg1=>no (c:=[I,ab,aF]) (l:=.a (.a (.v 0) (.v 2)) (.a (.a (.v 1) (.n 4)) (.n 1))) (r:=.a (.a (.v 1) (.n 4)) (.a (.v 2) (.v 0))) (aI.a (aI.a ao h1) g1) rfl
theorem aas{I ab aF bE d1 fV:Nat}(ao:(I+((51:Nat)*(ab+(1:Nat))))<=(306:Nat))(h1:aF<=(51:Nat))(h2:bE<=aF)(aU:d1<=bE)(h4:fV<=I):(fV+d1)<=(1000000:Nat):=bJ λg1=>no (c:=[I,ab,aF,bE,d1,fV]) (l:=.a (.a (.a (.a (.a (.a (.v 0) (.m 51 (.a (.v 1) (.n 1)))) (.v 2)) (.v 3)) (.v 4)) (.v 5)) (.a (.n 1000000) (.n 1))) (r:=.a (.a (.a (.a (.a (.n 306) (.n 51)) (.v 2)) (.v 3)) (.v 0)) (.a (.v 5) (.v 4))) (aI.a (aI.a (aI.a (aI.a (aI.a ao h1) h2) aU) h4) g1) rfl
theorem aat{I ab aF:Nat}(ao:(I+((51:Nat)*(ab+(1:Nat))))<=aF):(I+((51:Nat)*ab))<=aF:=bJ λg1=>no (c:=[I,ab,aF]) (l:=.a (.a (.v 0) (.m 51 (.a (.v 1) (.n 1)))) (.a (.v 2) (.n 1))) (r:=.a (.v 2) (.a (.v 0) (.m 51 (.v 1)))) (aI.a ao g1) rfl
theorem aau{I ab aF bE:Nat}(ao:(I+((51:Nat)*(ab+(1:Nat))))<=(306:Nat))(h1:aF<=(51:Nat))(h2:bE<=aF):((I+bE)+((51:Nat)*ab))<=(306:Nat):=bJ λg1=>no (c:=[I,ab,aF,bE]) (l:=.a (.a (.a (.a (.v 0) (.m 51 (.a (.v 1) (.n 1)))) (.v 2)) (.v 3)) (.a (.n 306) (.n 1))) (r:=.a (.a (.a (.n 306) (.n 51)) (.v 2)) (.a (.a (.v 0) (.v 3)) (.m 51 (.v 1)))) (aI.a (aI.a (aI.a ao h1) h2) g1) rfl
theorem aav{I ab aF:Nat}(ao:I<=(51:Nat))(h1:ab<=I)(h2:aF<=ab):aF<=(13000:Nat):=bJ λg1=>no (c:=[I,ab,aF]) (l:=.a (.a (.a (.v 0) (.v 1)) (.v 2)) (.a (.n 13000) (.n 1))) (r:=.a (.a (.a (.n 51) (.v 0)) (.v 1)) (.v 2)) (aI.a (aI.a (aI.a ao h1) h2) g1) rfl
theorem aaw{I ab aF bE:Nat}(ao:I<=(700000:Nat))(h1:(ab+((51:Nat)*(aF+(1:Nat))))<=I)(h2:bE<=ab):bE<=(800000:Nat):=bJ λg1=>no (c:=[I,ab,aF,bE]) (l:=.a (.a (.a (.v 0) (.a (.v 1) (.m 51 (.a (.v 2) (.n 1))))) (.v 3)) (.a (.n 800000) (.n 1))) (r:=.a (.a (.a (.n 700000) (.v 0)) (.v 1)) (.v 3)) (aI.a (aI.a (aI.a ao h1) h2) g1) rfl
theorem aax{I ab aF:Nat}(ao:(I+((51:Nat)*(ab+(1:Nat))))<=aF):((I+(51:Nat))+((51:Nat)*ab))<=aF:=bJ λg1=>no (c:=[I,ab,aF]) (l:=.a (.a (.v 0) (.m 51 (.a (.v 1) (.n 1)))) (.a (.v 2) (.n 1))) (r:=.a (.v 2) (.a (.a (.v 0) (.n 51)) (.m 51 (.v 1)))) (aI.a ao g1) rfl
theorem aaz{I ab:Nat}(ao:(I+((51:Nat)*(ab+(1:Nat))))<=(306:Nat)):(I+((51:Nat)*ab))<=(306:Nat):=bJ λg1=>no (c:=[I,ab]) (l:=.a (.a (.v 0) (.m 51 (.a (.v 1) (.n 1)))) (.a (.n 306) (.n 1))) (r:=.a (.n 306) (.a (.v 0) (.m 51 (.v 1)))) (aI.a ao g1) rfl
theorem aaA{I:Nat}(ao:I<=(900000:Nat)):((0:Nat)+I)<(1000000:Nat):=by lia
theorem N7{I ab:Nat}(ao:I<=(306:Nat))(h1:ab<=I):ab<=(900:Nat):=bJ λg1=>no (c:=[I,ab]) (l:=.a (.a (.v 0) (.v 1)) (.a (.n 900) (.n 1))) (r:=.a (.a (.n 306) (.v 0)) (.v 1)) (aI.a (aI.a ao h1) g1) rfl
theorem aaB{I ab aF:Nat}(ao:I<=(306:Nat))(h1:ab<=(I+(4:Nat)))(h2:aF<=ab):aF<=(1000000:Nat):=bJ λg1=>no (c:=[I,ab,aF]) (l:=.a (.a (.a (.v 0) (.v 1)) (.v 2)) (.a (.n 1000000) (.n 1))) (r:=.a (.a (.a (.n 306) (.a (.v 0) (.n 4))) (.v 1)) (.v 2)) (aI.a (aI.a (aI.a ao h1) h2) g1) rfl
theorem aaC{I ab aF:Nat}(ao:I<=(306:Nat))(h1:ab<=(I+(4:Nat)))(h2:aF<=ab):aF<=(900000:Nat):=bJ λg1=>no (c:=[I,ab,aF]) (l:=.a (.a (.a (.v 0) (.v 1)) (.v 2)) (.a (.n 900000) (.n 1))) (r:=.a (.a (.a (.n 306) (.a (.v 0) (.n 4))) (.v 1)) (.v 2)) (aI.a (aI.a (aI.a ao h1) h2) g1) rfl
theorem aaD{I ab:Nat}(ao:I<=(306:Nat))(h1:ab<=(I+(4:Nat))):ab<=(320:Nat):=bJ λg1=>no (c:=[I,ab]) (l:=.a (.a (.v 0) (.v 1)) (.a (.n 320) (.n 1))) (r:=.a (.a (.n 306) (.a (.v 0) (.n 4))) (.v 1)) (aI.a (aI.a ao h1) g1) rfl
theorem aaE{I:Nat}(ao:I<=(680000:Nat)):I<=(700000:Nat):=bJ λg1=>no (c:=[I]) (l:=.a (.v 0) (.a (.n 700000) (.n 1))) (r:=.a (.n 680000) (.v 0)) (aI.a ao g1) rfl
theorem aaF{bU cB:Int}(ao:bU<=cB):¬(cB<bU):=by lia
theorem aaG{I ab:Nat}(ao:I<=(6:Nat)):(ab+((51:Nat)*I))<=(ab+(306:Nat)):=bJ λg1=>no (c:=[I,ab]) (l:=.a (.m 51 (.v 0)) (.a (.a (.v 1) (.n 306)) (.n 1))) (r:=.a (.m 51 (.n 6)) (.a (.v 1) (.m 51 (.v 0)))) (aI.a (aI.m 51 ao) g1) rfl
theorem aaH{I:Nat}(ao:I<=(6:Nat)):((0:Nat)+((51:Nat)*I))<=(306:Nat):=bJ λg1=>no (c:=[I]) (l:=.a (.m 51 (.v 0)) (.a (.n 306) (.n 1))) (r:=.a (.m 51 (.n 6)) (.a (.n 0) (.m 51 (.v 0)))) (aI.a (aI.m 51 ao) g1) rfl
theorem aaJ{I:Nat}(ao:I<=(600000:Nat)):(I+(306:Nat))<=(700000:Nat):=bJ λg1=>no (c:=[I]) (l:=.a (.v 0) (.a (.n 700000) (.n 1))) (r:=.a (.n 600000) (.a (.v 0) (.n 306))) (aI.a ao g1) rfl
theorem aaK{I:Nat}(ao:I<=(600000:Nat)):(I+(306:Nat))<=(680000:Nat):=bJ λg1=>no (c:=[I]) (l:=.a (.v 0) (.a (.n 680000) (.n 1))) (r:=.a (.n 600000) (.a (.v 0) (.n 306))) (aI.a ao g1) rfl
theorem aaL{I:Nat}:(I+((51:Nat)*(326:Nat)))=((I+(306:Nat))+((51:Nat)*(320:Nat))):=vu (bJ λg2=>no (c:=[I]) (l:=.a (.a (.a (.v 0) (.n 306)) (.m 51 (.n 320))) (.n 1)) (r:=.a (.v 0) (.m 51 (.n 326))) g2 rfl) (bJ λg3=>no (c:=[I]) (l:=.a (.a (.v 0) (.m 51 (.n 326))) (.n 1)) (r:=.a (.a (.v 0) (.n 306)) (.m 51 (.n 320))) g3 rfl)
theorem aaM{I ab aF:Nat}(ao:I<=(30:Nat))(h1:ab<=((30:Nat)*aF)):(I+ab)<=((30:Nat)*(aF+(1:Nat))):=bJ λg1=>no (c:=[I,ab,aF]) (l:=.a (.a (.v 0) (.v 1)) (.a (.m 30 (.a (.v 2) (.n 1))) (.n 1))) (r:=.a (.a (.n 30) (.m 30 (.v 2))) (.a (.v 0) (.v 1))) (aI.a (aI.a ao h1) g1) rfl
theorem aaN{I ab:Nat}(ao:I<=(3:Nat))(h1:ab<=((30:Nat)*I)):ab<=(1000:Nat):=bJ λg1=>no (c:=[I,ab]) (l:=.a (.a (.m 30 (.v 0)) (.v 1)) (.a (.n 1000) (.n 1))) (r:=.a (.a (.m 30 (.n 3)) (.m 30 (.v 0))) (.v 1)) (aI.a (aI.a (aI.m 30 ao) h1) g1) rfl
theorem aaO{I:Nat}(ao:I<=(3:Nat)):I<=(1000:Nat):=bJ λg1=>no (c:=[I]) (l:=.a (.v 0) (.a (.n 1000) (.n 1))) (r:=.a (.n 3) (.v 0)) (aI.a ao g1) rfl
theorem N8{bU cB:Int}(ao:bU<=cB):(bU+(0:Int))<=cB:=by lia
theorem N9{aF bE:Nat}{bU cB:Int}(ao:bU<(cB+((aF:Nat):Int)))(h1:bU<(cB+((bE:Nat):Int))):bU<((cB+(0:Int))+(((min bE aF):Nat):Int)):=by lia
theorem N'{aF:Nat}{bU cB:Int}(ao:¬(bU<(cB+((aF:Nat):Int)))):(cB+((aF:Nat):Int))<=bU:=by lia
theorem Oa{aF bE:Nat}{bU cB:Int}(ao:bU<(cB+((aF:Nat):Int))):bU<((cB+((bE:Nat):Int))+(((aF-bE):Nat):Int)):=by lia
theorem Ob{aF:Nat}{bU cB:Int}(ao:bU<=cB)(h1:cB<(bU+((aF:Nat):Int))):(tu (cB-bU))<aF:=by omega
theorem Oc{bU cB:Int}(ao:bU<=cB):(bU+(((tu (cB-bU)):Nat):Int))=cB:=by lia
theorem aaR{I:Nat}(ao:((I:Nat):Int)<(64:Int)):I<(64:Nat):=by omega
theorem aaS{bU:Int}(ao:bU<(64:Int)):bU<(256:Int):=by omega
theorem aaT{I ab:Nat}(ao:I<=(100:Nat))(h1:ab=I):ab<=(1000000:Nat):=bJ λg1=>no (c:=[I,ab]) (l:=.a (.a (.v 0) (.v 1)) (.a (.n 1000000) (.n 1))) (r:=.a (.a (.n 100) (.v 0)) (.v 1)) (aI.a (aI.a ao (er h1)) g1) rfl
theorem aaU{I:Nat}:(0:Int)<=((I:Nat):Int):=by lia
theorem aaV{I:Nat}(ao:I<(64:Nat)):((I:Nat):Int)<(64:Int):=by omega
theorem aaW{I:Nat}(ao:I<(64:Nat)):((1:Nat)+I)<=(1000000:Nat):=bJ λg1=>no (c:=[I]) (l:=.a (.a (.v 0) (.n 1)) (.a (.n 1000000) (.n 1))) (r:=.a (.n 64) (.a (.n 1) (.v 0))) (aI.a ao g1) rfl
theorem aaX{bU:Int}(ao:(((1:Int)<=bU)/\(bU<=(3:Int)))):(0:Int)<=bU:=by lia
theorem aaY{bU:Int}(ao:(((1:Int)<=bU)/\(bU<=(3:Int)))):bU<(64:Int):=by omega
theorem Od{I:Nat}(ao:I<=(20:Nat)):I<=(30:Nat):=bJ λg1=>no (c:=[I]) (l:=.a (.v 0) (.a (.n 30) (.n 1))) (r:=.a (.n 20) (.v 0)) (aI.a ao g1) rfl
theorem Gl{I:Nat}(ao:I<=(30:Nat)):((0:Int)+((I:Nat):Int))<(64:Int):=by lia
theorem Oe{I:Nat}(ao:I<=(20:Nat)):((0:Int)+((I:Nat):Int))<(64:Int):=by omega
theorem xx{ab:Nat}{bU:Int}(ao:bU<((ab:Nat):Int)):bU<((0:Int)+((ab:Nat):Int)):=by lia
theorem aa0{I ab:Nat}(ao:I<=(20:Nat))(h1:ab<=(30:Nat)):((1:Nat)+((1:Nat)+((1:Nat)+((1:Nat)+((1:Nat)+((1:Nat)+(((1:Nat)+ab)+(((1:Nat)+I)+(0:Nat)))))))))<=(320:Nat):=bJ λg1=>no (c:=[I,ab]) (l:=.a (.a (.v 0) (.v 1)) (.a (.n 320) (.n 1))) (r:=.a (.a (.n 20) (.n 30)) (.a (.n 1) (.a (.n 1) (.a (.n 1) (.a (.n 1) (.a (.n 1) (.a (.n 1) (.a (.a (.n 1) (.v 1)) (.a (.a (.n 1) (.v 0)) (.n 0)))))))))) (aI.a (aI.a ao h1) g1) rfl
theorem aa1{I ab aF:Nat}(ao:I<=(20:Nat))(h1:ab<=(30:Nat))(h2:aF<=(30:Nat)):((1:Nat)+((1:Nat)+((1:Nat)+((1:Nat)+((1:Nat)+((1:Nat)+(((1:Nat)+ab)+(((1:Nat)+aF)+(((1:Nat)+I)+(0:Nat))))))))))<=(320:Nat):=bJ λg1=>no (c:=[I,ab,aF]) (l:=.a (.a (.a (.v 0) (.v 1)) (.v 2)) (.a (.n 320) (.n 1))) (r:=.a (.a (.a (.n 20) (.n 30)) (.n 30)) (.a (.n 1) (.a (.n 1) (.a (.n 1) (.a (.n 1) (.a (.n 1) (.a (.n 1) (.a (.a (.n 1) (.v 1)) (.a (.a (.n 1) (.v 2)) (.a (.a (.n 1) (.v 0)) (.n 0))))))))))) (aI.a (aI.a (aI.a ao h1) h2) g1) rfl
theorem aa2{I:Nat}:¬((((((I+(1:Nat))+(1:Nat))+(1:Nat))=(1:Nat))\/((((I+(1:Nat))+(1:Nat))+(1:Nat))=(2:Nat)))):=λg1=>Or.elim g1 (λcE=>no (c:=[I]) (l:=.a (.a (.a (.v 0) (.n 1)) (.n 1)) (.n 1)) (r:=.n 1) (er cE) rfl) (λcE=>no (c:=[I]) (l:=.a (.a (.a (.v 0) (.n 1)) (.n 1)) (.n 1)) (r:=.n 2) (er cE) rfl)
theorem aa3{I ab:Nat}(ao:I<ab):((I:Nat):Int)<((ab:Nat):Int):=by omega
theorem aa4{I ab aF:Nat}(ao:(I+(ab+(1:Nat)))<=(1000:Nat))(h1:aF<=(I+(1:Nat))):(aF+ab)<=(1000:Nat):=bJ λg1=>no (c:=[I,ab,aF]) (l:=.a (.a (.a (.v 0) (.a (.v 1) (.n 1))) (.v 2)) (.a (.n 1000) (.n 1))) (r:=.a (.a (.n 1000) (.a (.v 0) (.n 1))) (.a (.v 2) (.v 1))) (aI.a (aI.a ao h1) g1) rfl
theorem aa5{I ab:Nat}:(I+(ab+(1:Nat)))=((I+(1:Nat))+ab):=vu (bJ λg2=>no (c:=[I,ab]) (l:=.a (.a (.a (.v 0) (.n 1)) (.v 1)) (.n 1)) (r:=.a (.v 0) (.a (.v 1) (.n 1))) g2 rfl) (bJ λg3=>no (c:=[I,ab]) (l:=.a (.a (.v 0) (.a (.v 1) (.n 1))) (.n 1)) (r:=.a (.a (.v 0) (.n 1)) (.v 1)) g3 rfl)
theorem aa6{I ab aF:Nat}(ao:I<=(6:Nat))(h1:ab<=aF):(ab+((51:Nat)*I))<=(aF+(306:Nat)):=bJ λg1=>no (c:=[I,ab,aF]) (l:=.a (.a (.m 51 (.v 0)) (.v 1)) (.a (.a (.v 2) (.n 306)) (.n 1))) (r:=.a (.a (.m 51 (.n 6)) (.v 2)) (.a (.v 1) (.m 51 (.v 0)))) (aI.a (aI.a (aI.m 51 ao) h1) g1) rfl
theorem aa7{I ab aF:Nat}(ao:I<=ab)(h1:ab<=aF)(h2:aF<=(51:Nat)):I<=(13000:Nat):=bJ λg1=>no (c:=[I,ab,aF]) (l:=.a (.a (.a (.v 0) (.v 1)) (.v 2)) (.a (.n 13000) (.n 1))) (r:=.a (.a (.a (.v 1) (.v 2)) (.n 51)) (.v 0)) (aI.a (aI.a (aI.a ao h1) h2) g1) rfl
theorem aa8{I ab aF:Nat}(ao:I<=(700000:Nat))(h1:(ab+((51:Nat)*(aF+(1:Nat))))<=(I+(306:Nat))):ab<=(800000:Nat):=bJ λg1=>no (c:=[I,ab,aF]) (l:=.a (.a (.v 0) (.a (.v 1) (.m 51 (.a (.v 2) (.n 1))))) (.a (.n 800000) (.n 1))) (r:=.a (.a (.n 700000) (.a (.v 0) (.n 306))) (.v 1)) (aI.a (aI.a ao h1) g1) rfl
theorem aa9{I ab aF bE d1 fV jm:Nat}(ao:(I+((51:Nat)*(ab+(1:Nat))))<=(aF+(306:Nat)))(h1:bE<=d1)(h2:d1<=fV)(aU:fV<=(51:Nat))(h4:jm<=(I+bE)):(jm+((51:Nat)*ab))<=(aF+(306:Nat)):=bJ λg1=>no (c:=[I,ab,aF,bE,d1,fV,jm]) (l:=.a (.a (.a (.a (.a (.a (.v 0) (.m 51 (.a (.v 1) (.n 1)))) (.v 3)) (.v 4)) (.v 5)) (.v 6)) (.a (.a (.v 2) (.n 306)) (.n 1))) (r:=.a (.a (.a (.a (.a (.a (.v 2) (.n 306)) (.v 4)) (.v 5)) (.n 51)) (.a (.v 0) (.v 3))) (.a (.v 6) (.m 51 (.v 1)))) (aI.a (aI.a (aI.a (aI.a (aI.a ao h1) h2) aU) h4) g1) rfl
theorem aa'{I ab:Nat}(ao:I<=ab)(h1:ab<=(320:Nat)):I<=(1000:Nat):=bJ λg1=>no (c:=[I,ab]) (l:=.a (.a (.v 0) (.v 1)) (.a (.n 1000) (.n 1))) (r:=.a (.a (.v 1) (.n 320)) (.v 0)) (aI.a (aI.a ao h1) g1) rfl
theorem aba{I ab:Nat}(ao:I<=ab)(h1:ab<=(320:Nat)):I<=(900000:Nat):=bJ λg1=>no (c:=[I,ab]) (l:=.a (.a (.v 0) (.v 1)) (.a (.n 900000) (.n 1))) (r:=.a (.a (.v 1) (.n 320)) (.v 0)) (aI.a (aI.a ao h1) g1) rfl
theorem abb{I ab aF:Nat}(ao:I<=(700000:Nat))(h1:(ab+((51:Nat)*aF))<=(I+(306:Nat))):ab<=(900000:Nat):=bJ λg1=>no (c:=[I,ab,aF]) (l:=.a (.a (.v 0) (.a (.v 1) (.m 51 (.v 2)))) (.a (.n 900000) (.n 1))) (r:=.a (.a (.n 700000) (.a (.v 0) (.n 306))) (.v 1)) (aI.a (aI.a ao h1) g1) rfl
theorem abc{I:Nat}(ao:I<(20:Nat)):((32:Nat)+I)<=(51:Nat):=bJ λg1=>no (c:=[I]) (l:=.a (.a (.v 0) (.n 1)) (.a (.n 51) (.n 1))) (r:=.a (.n 20) (.a (.n 32) (.v 0))) (aI.a ao g1) rfl
theorem abd{I ab:Nat}(ao:(I+((17000:Nat)*(ab+(1:Nat))))<=((17000:Nat)*(13:Nat))):I<=(600000:Nat):=bJ λg1=>no (c:=[I,ab]) (l:=.a (.a (.v 0) (.m 17000 (.a (.v 1) (.n 1)))) (.a (.n 600000) (.n 1))) (r:=.a (.m 17000 (.n 13)) (.v 0)) (aI.a ao g1) rfl
theorem abe{I ab:Nat}(ao:(I+((17000:Nat)*(ab+(1:Nat))))<=((17000:Nat)*(13:Nat))):((I+((51:Nat)*(326:Nat)))+((17000:Nat)*ab))<=((17000:Nat)*(13:Nat)):=by lia
theorem abf{I ab:Nat}(ao:(I+((17000:Nat)*(ab+(1:Nat))))<=((17000:Nat)*(13:Nat))):(I+((51:Nat)*(326:Nat)))<=(700000:Nat):=bJ λg1=>no (c:=[I,ab]) (l:=.a (.a (.v 0) (.m 17000 (.a (.v 1) (.n 1)))) (.a (.n 700000) (.n 1))) (r:=.a (.m 17000 (.n 13)) (.a (.v 0) (.m 51 (.n 326)))) (aI.a ao g1) rfl
theorem abg{I:Nat}(ao:(I+((17000:Nat)*(0:Nat)))<=((17000:Nat)*(13:Nat))):I<=(700000:Nat):=bJ λg1=>no (c:=[I]) (l:=.a (.a (.v 0) (.m 17000 (.n 0))) (.a (.n 700000) (.n 1))) (r:=.a (.m 17000 (.n 13)) (.v 0)) (aI.a ao g1) rfl
theorem abh{I:Nat}(ao:I<=(63:Nat)):I<=(1000000:Nat):=bJ λg1=>no (c:=[I]) (l:=.a (.v 0) (.a (.n 1000000) (.n 1))) (r:=.a (.n 63) (.v 0)) (aI.a ao g1) rfl
theorem abi{I:Nat}:((0:Nat)+(min (24:Nat) I))<(1000000:Nat):=by omega
theorem abj{I:Nat}:(min (24:Nat) I)<=(24:Nat):=by lia
theorem abk{I:Nat}(ao:I<=(24:Nat)):I<=(100:Nat):=bJ λg1=>no (c:=[I]) (l:=.a (.v 0) (.a (.n 100) (.n 1))) (r:=.a (.n 24) (.v 0)) (aI.a ao g1) rfl
theorem abl{I:Nat}(ao:(((0:Int)<=((I:Nat):Int))/\(((I:Nat):Int)<(20:Int)))):I<(20:Nat):=by omega
theorem abm{ab:Nat}{bU:Int}(ao:(((0:Int)<=bU)/\(bU<(64:Int))))(h1:(bU+((ab:Nat):Int))<(64:Int)):ab<(64:Nat):=by lia
theorem abn{ab aF bE:Nat}{bU:Int}(ao:(((0:Int)<=bU)/\(bU<(64:Int))))(h1:(bU+((ab:Nat):Int))<(64:Int))(h2:aF=((1:Nat)+ab))(aU:bE=(2:Nat)):(bE+aF)<=(1000000:Nat):=by omega
theorem abo{I:Nat}:((2:Nat)+((1:Nat)+I))=((3:Nat)+I):=by lia
theorem abq{I ab:Nat}(ao:I=(1:Nat))(h1:ab=(8:Nat)):(I+ab)<=(1000000:Nat):=bJ λg1=>no (c:=[I,ab]) (l:=.a (.a (.v 0) (.v 1)) (.a (.n 1000000) (.n 1))) (r:=.a (.a (.n 1) (.n 8)) (.a (.v 0) (.v 1))) (aI.a (aI.a (er ao) (er h1)) g1) rfl
theorem abr{bU:Int}(ao:(0:Int)<=bU)(h1:bU<(64:Int)):(((0:Int)<=bU)/\(bU<(64:Int))):=by lia
theorem abt{I:Nat}(ao:I=(3:Nat)):I<=(999999:Nat):=bJ λg1=>no (c:=[I]) (l:=.a (.v 0) (.a (.n 999999) (.n 1))) (r:=.a (.n 3) (.v 0)) (aI.a (er ao) g1) rfl
theorem abu{I:Nat}(ao:I=(3:Nat)):I<=(999991:Nat):=bJ λg1=>no (c:=[I]) (l:=.a (.v 0) (.a (.n 999991) (.n 1))) (r:=.a (.n 3) (.v 0)) (aI.a (er ao) g1) rfl
theorem abv{I:Nat}(ao:I=(3:Nat)):I<=(999975:Nat):=bJ λg1=>no (c:=[I]) (l:=.a (.v 0) (.a (.n 999975) (.n 1))) (r:=.a (.n 3) (.v 0)) (aI.a (er ao) g1) rfl
theorem abw{ab:Nat}{bU:Int}(ao:(bU+((ab:Nat):Int))<(64:Int))(h1:(0:Int)<=bU):ab<(64:Nat):=by lia
theorem abx{ab aF bE:Nat}{bU:Int}(ao:(bU+((ab:Nat):Int))<(64:Int))(h1:(0:Int)<=bU)(h2:aF<=(3:Nat))(aU:bE=((1:Nat)+ab)):(aF+bE)<=(1000000:Nat):=by lia
theorem aby{I:Nat}(ao:I=(3:Nat)):I<=(3:Nat):=bJ λg1=>no (c:=[I]) (l:=.a (.v 0) (.a (.n 3) (.n 1))) (r:=.a (.n 3) (.v 0)) (aI.a (er ao) g1) rfl
theorem abz{I:Nat}:((3:Nat)+((1:Nat)+I))=(((3:Nat)+(1:Nat))+I):=vu (bJ λg2=>no (c:=[I]) (l:=.a (.a (.a (.n 3) (.n 1)) (.v 0)) (.n 1)) (r:=.a (.n 3) (.a (.n 1) (.v 0))) g2 rfl) (bJ λg3=>no (c:=[I]) (l:=.a (.a (.n 3) (.a (.n 1) (.v 0))) (.n 1)) (r:=.a (.a (.n 3) (.n 1)) (.v 0)) g3 rfl)
theorem abA{I:Nat}(ao:I=(2:Nat)):I<=(3:Nat):=bJ λg1=>no (c:=[I]) (l:=.a (.v 0) (.a (.n 3) (.n 1))) (r:=.a (.n 2) (.v 0)) (aI.a (er ao) g1) rfl
theorem abB{I:Nat}:((2:Nat)+((1:Nat)+I))=(((3:Nat)+(0:Nat))+I):=by lia
theorem Og{bU:Int}(ao:(0:Int)<=bU)(h1:bU<(64:Int)):(((0:Int)<=(bU+(((0:Nat):Nat):Int)))/\((bU+(((0:Nat):Nat):Int))<(64:Int))):=by lia
theorem Oh{I ab:Nat}{eZ:Int}(ao:I<=ab)(h1:(eZ+((ab:Nat):Int))<(64:Int)):((eZ+(((0:Nat):Nat):Int))+((I:Nat):Int))<(64:Int):=by lia
theorem abC{I ab:Nat}(ao:((I:Nat):Int)<(((ab+(0:Nat)):Nat):Int)):I<ab:=by lia
theorem abD{I ab aF:Nat}:(min (min I (ab-aF)) I)<=I:=by omega
theorem abE{I ab:Nat}(ao:¬(I<=ab)):¬(I<ab):=λg1=>no (c:=[ab,I]) (l:=.a (.a (.v 0) (.n 1)) (.a (.v 1) (.n 1))) (r:=.a (.v 1) (.v 0)) (aI.a (fy ao) g1) rfl
theorem abG{I ab aF bE:Nat}(ao:¬(I<=ab))(h1:I=(aF+bE)):(min bE (ab-aF))=(ab-aF):=by lia
theorem abH{I ab:Nat}(ao:¬(I<=ab)):¬((((I-ab):Nat):Int)<(1:Int)):=by lia
theorem Oi{I ab:Nat}{eZ:Int}(ao:I<=ab)(h1:(eZ+((ab:Nat):Int))<(64:Int))(h2:(0:Int)<=eZ):(((0:Int)<=(eZ+((I:Nat):Int)))/\((eZ+((I:Nat):Int))<(64:Int))):=by lia
theorem Oj{I ab:Nat}{eZ:Int}(ao:I<=ab)(h1:(eZ+((ab:Nat):Int))<(64:Int)):((eZ+((I:Nat):Int))+(((ab-I):Nat):Int))<(64:Int):=by omega
theorem abI{I ab aF:Nat}:(min (I-ab) aF)<=aF:=by lia
theorem Gm{I:Nat}(ao:I<=(900:Nat)):((0:Nat)+I)<=(1000:Nat):=bJ λg1=>no (c:=[I]) (l:=.a (.v 0) (.a (.n 1000) (.n 1))) (r:=.a (.n 900) (.a (.n 0) (.v 0))) (aI.a ao g1) rfl
theorem AM{I ab:Nat}(ao:(I+(ab+(1:Nat)))<=(1000:Nat)):(I+ab)<=(1000:Nat):=bJ λg1=>no (c:=[I,ab]) (l:=.a (.a (.v 0) (.a (.v 1) (.n 1))) (.a (.n 1000) (.n 1))) (r:=.a (.n 1000) (.a (.v 0) (.v 1))) (aI.a ao g1) rfl
theorem abJ{I ab:Nat}(ao:I<=ab):(((ab:Nat):Int)-((I:Nat):Int))=(((ab-I):Nat):Int):=by lia
theorem abK{I ab aF bE d1:Nat}(ao:((I<=ab)/\(aF<=ab)))(h1:bE<=(1:Nat))(h2:d1<=(1:Nat)):(((d1+I)<=(ab+(1:Nat)))/\((bE+aF)<=(ab+(1:Nat)))):=⟨bJ λg2=>no (c:=[I,ab,d1]) (l:=.a (.a (.v 0) (.v 2)) (.a (.a (.v 1) (.n 1)) (.n 1))) (r:=.a (.a (.v 1) (.n 1)) (.a (.v 2) (.v 0))) (aI.a (aI.a ao.1 h2) g2) rfl,bJ λg3=>no (c:=[aF,ab,bE]) (l:=.a (.a (.v 0) (.v 2)) (.a (.a (.v 1) (.n 1)) (.n 1))) (r:=.a (.a (.v 1) (.n 1)) (.a (.v 2) (.v 0))) (aI.a (aI.a ao.2 h1) g3) rfl⟩
theorem abL{I:Nat}(ao:(0:Nat)<I):(0:Int)<((I:Nat):Int):=by omega
theorem abM{I ab aF:Nat}(ao:I<=(900:Nat))(h1:((ab<=I)/\(aF<=I))):aF<=(1000000:Nat):=bJ λg1=>no (c:=[I,aF]) (l:=.a (.a (.v 0) (.v 1)) (.a (.n 1000000) (.n 1))) (r:=.a (.a (.n 900) (.v 0)) (.v 1)) (aI.a (aI.a ao h1.2) g1) rfl
theorem abN{I:Nat}(ao:(0:Nat)<I):((I:Nat):Int)≠(0:Int):=by omega
theorem abO{I ab aF:Nat}(ao:I<=(900:Nat))(h1:((ab<=I)/\(aF<=I))):ab<=(900:Nat):=bJ λg1=>no (c:=[I,ab]) (l:=.a (.a (.v 0) (.v 1)) (.a (.n 900) (.n 1))) (r:=.a (.a (.n 900) (.v 0)) (.v 1)) (aI.a (aI.a ao h1.1) g1) rfl
theorem abP{I:Nat}(ao:I<=(900:Nat)):((0:Nat)+I)<(1000000:Nat):=fy λg1=>no (c:=[I]) (l:=.a (.v 0) (.n 1000000)) (r:=.a (.n 900) (.a (.n 0) (.v 0))) (aI.a ao g1) rfl
end Internal.aE
namespace Internal
open PySem PySem.W PyProof.Rows
theorem aN(h:True:=by rfl):True:=h
theorem eU(h:True:=by exactλ_=>rfl):True:=h
theorem nq(h:True:=by exactλ_ _ _=>rfl):True:=h
theorem agB(h:True:=by exact@id False):True:=h
theorem kH(h:True:=by exactλ_=>@id False):True:=h
theorem vh(h:True:=by exactλ_ _ _=>@id False):True:=h
theorem agC(h:True:=by intro x;cases x):True:=h
theorem dj(h:True:=by exactλ_ _=>@id False):True:=h
theorem rB(h:True:=by exactλ_ _ _ _=>@id False):True:=h
theorem vi(h:True:=by decide):True:=h
theorem Bb(h:True:=by with_unfolding_all rfl):True:=h
theorem x4(h:True:=by intro _;rfl):True:=h
theorem Qc(h:True:=by intro _ _;rfl):True:=h
theorem agz(h:True:=by exactλq=>nomatch q):True:=h
theorem Hd(h:True:=by exactλ_=>id):True:=h
theorem agA(h:True:=by exactλ_ _ _ _=>rfl):True:=h
inductive aT where
 |none
 |int (i:Int)
 |str (x:aV)
 deriving DecidableEq
inductive C where
 |none
 |bool (b:Bool)
 |int (i:Int)
 |str (x:aV)
 |bytes (b:List UInt8)
 |bA (vs:List C)
 |bB (vs:List C)
 |cV (es:List (aT×C))
 |gc (a b c:Int)
 |ref (c:Nat)
 |cb (v:af)
inductive cO where
 |list (vs:List C)
 |cJ (es:List (aT×C))
 |cv (es:List (List aT×C))
 |inst (t:Option C)
 |eX (b:List UInt8)
structure St where
 cells:Nat->Option cO
 next:Nat
inductive bS where
 |free
 |imm (o:bM)
 |fix (o:bM)
 |cell (c:Nat)
 |h3 (c:Nat)
 |aa
noncomputable def bS.xQ:bS->Nat
 |.free=>0
 |.imm _=>1
 |.fix _=>2
 |.cell _=>3
 |.h3 _=>4
 |.aa=>5
theorem bS.no{x a b:bS}{P:Prop}(r:x=a)(q:x=b)(h:autoParam (nx a.xQ b.xQ=false) aN._auto_1):P:=
 absurd (congrArg bS.xQ (r.symm.trans q)) (Nat.ne_of_beq_eq_false h)
theorem bS.ne{x a b:bS}(r:x=a)(h:autoParam (nx a.xQ b.xQ=false) aN._auto_1):x≠b:=λq=>bS.no r q h
theorem bS.w5{x:bS}{a b:bM}(r:x=.imm a)(q:x=.imm b):a=b:=bS.imm.inj (r.symm.trans q)
theorem fK{P:Prop}(h:∀G:Prop,(P->G)->G):P:=h P id
theorem au{α:Type}{a:α}{P:Prop}(e:none=some a):P:=nomatch e
theorem e0{α:Type}{a:α}{P:Prop}(e:some a=none):P:=nomatch e
theorem AE{P:Prop}(e:true=false):P:=nomatch e
theorem Mp{α b':Type}{a c:α}{b d:b'}(e:some (a,b)=some (c,d)):a=c:=(rK (cx e)).1
theorem Mq{α b':Type}{a c:α}{b d:b'}(e:some (a,b)=some (c,d)):b=d:=(rK (cx e)).2
structure ag where
 role:a6->bS
 al:Nat->a6
noncomputable def ag.fL(n:Nat)(W W':ag):Prop:=(∀a o,W.role a=.imm o->W'.role a=.imm o)/\∀c,c<n->W'.al c=W.al c
noncomputable def ag.le(n:Nat)(W W':ag):Prop:=W.fL n W'/\(∀a o,W.role a=.fix o->W'.role a=.fix o)/\∀a,W.role a=.aa->W'.role a=.aa
theorem ag.fL.refl{n:Nat}{W:ag}:W.fL n W:=⟨λ_ _ e=>e,λ_ _=>rfl⟩
theorem ag.fL.trans{n gu:Nat}{W W' wb:ag}(h:W.fL n W')(a3:n<=gu)(h':W'.fL gu wb):W.fL n wb:=
 ⟨λa o e=>h'.1 a o (h.1 a o e),λc az=>(h'.2 c (kI az a3)).trans (h.2 c az)⟩
theorem ag.le.refl{n:Nat}{W:ag}:W.le n W:=⟨ag.fL.refl,λ_ _ e=>e,λ_ e=>e⟩
theorem ag.le.trans{n gu:Nat}{W W' wb:ag}(h:W.le n W')(a3:n<=gu)(h':W'.le gu wb):W.le n wb:=
 ⟨h.1.trans a3 h'.1,λa o e=>h'.2.1 a o (h.2.1 a o e),λa e=>h'.2.2 a (h.2.2 a e)⟩
noncomputable def ll:aT->af->Bool
 |.none,.none=>true
 |.int i,.int aj _=>aj==i
 |.str x,.str y _=>y==x
 |_,_=>false
theorem dg{P:Prop}(e:false=true):P:=nomatch e
inductive iu:aT->af->Prop
 |none:iu .none .none
 |int (i:Int) (t:d4):iu (.int i) (.int i t)
 |str (x:aV) (t:d4):iu (.str x) (.str x t)
theorem iu.of{k:aT}{v:af}(h:ll k v=true):iu k v:=
 aT.casesOn (motive:=λk=>ll k v=true->iu k v) k
  (BU (motive:=λv=>ll .none v=true->iu .none v) v (λ_=>.none) (λh=>dg h) (λh=>dg h) (λ_ h=>dg h) (λ_ _ h=>dg h) (λ_ _ h=>dg h) (λ_ _ h=>dg h) (λ_ _ h=>dg h) (λ_ h=>dg h) (λ_ h=>dg h) (λ_ h=>dg h))
  (λi=>BU (motive:=λv=>ll (.int i) v=true->iu (.int i) v) v (λh=>dg h) (λh=>dg h) (λh=>dg h) (λ_ h=>dg h) (λaj t h=>eq_of_beq (show(aj==i)=true from h)▸.int aj t) (λ_ _ h=>dg h) (λ_ _ h=>dg h) (λ_ _ h=>dg h) (λ_ h=>dg h) (λ_ h=>dg h) (λ_ h=>dg h))
  (λx=>BU (motive:=λv=>ll (.str x) v=true->iu (.str x) v) v (λh=>dg h) (λh=>dg h) (λh=>dg h) (λ_ h=>dg h) (λ_ _ h=>dg h) (λ_ _ h=>dg h) (λy t h=>eq_of_beq (show(y==x)=true from h)▸.str y t) (λ_ _ h=>dg h) (λ_ h=>dg h) (λ_ h=>dg h) (λ_ h=>dg h)) h
theorem Jj{k:aT}{v:af}(h:ll k v=true):(k=.none/\v=.none)\/(∃i t,k=.int i/\v=.int i t)\/∃x t,k=.str x/\v=.str x t:=
 iu.casesOn (motive:=λk v _=>(k=.none/\v=.none)\/(∃i t,k=.int i/\v=.int i t)\/∃x t,k=.str x/\v=.str x t) (.of h) (.inl ⟨rfl,rfl⟩) (λ_ _=>.inr (.inl ⟨_,_,rfl,rfl⟩)) (λ_ _=>.inr (.inr ⟨_,_,rfl,rfl⟩))
noncomputable def Jk:af->Option aT
 |.none=>some .none
 |.int i _=>some (.int i)
 |.str x _=>some (.str x)
 |_=>none
theorem iu.t8{k:aT}{v:af}(h:iu k v):Jk v=some k:=iu.casesOn (motive:=λk v _=>Jk v=some k) h rfl (λ_ _=>rfl) (λ_ _=>rfl)
noncomputable def RF(w:cm):aT->Int
 |.none=>0xFCA86420
 |.int i=>hashInt i
 |.str x=>hashStr w x
section
variable{prog:cD}{w:cm}{A:b8}{E:af->aB->Prop}{s:aB}
theorem ac5{Q:Int->aB->Prop}(h:Q 0xFCA86420 {s with toks:=s.toks+1}):wpAny (bp prog w) A (pyHash .none) Q E s:=by
 have hT:s.TypeIs .none "NoneType":=rfl
 unfold pyHash
 have a':[kL].any Value.onHeap=false:=rfl
 refine aP ?_
 rw[cRoomFor,if_neg (by rw[a'];exact gI)];refine bI ?_
 refine aP (mG hT Bp.lookup ?_)
 show wpAny _ _ (if(some (Value.builtin "NoneType.__hash__")==some kL)=true then _ else _) Q E s
 rw[if_neg (by rw[beq_builtin_none];exact gI)]
 refine aP (mG hT Bp.lookup ?_)
 show wpAny _ _ (callSpecialIfBoundUnlessNone? .none "__hash__" _>>=_) Q E s
 refine aP (wpAny_callSpecialIfBoundUnlessNone?_slot hT Bp
  (lX Bp hT F.entry_NoneType_hash
    (show wpAny _ _ (do ret (<-mkInt 0xFCA86420)) _ _ s from wpAny_ret_mkInt ?_) (F.args_NoneType_hash_1 _)))
 show wpAny _ _ (if(decide (-(2:Int)^63<=0xFCA86420)&&decide ((0xFCA86420:Int)<2^63))=true then _ else _) Q E _
 rw[if_pos (by decide)]
 exact bI h
theorem ub{a b:af}{Q:Bool->aB->Prop}(cj:a≠b)(hf:∀x t,a≠.float x t)
 (h:wpAny (bp prog w) A (hP .Eq a b) (λv a8=>∃c,v=.bool c/\Q c a8) E s):wpAny (bp prog w) A (eqBool a b) Q E s:=by
 unfold eqBool
 have sq:(a==b)=false:=beq_eq_false_iff_ne.mpr cj
 refine ke ?_
 rw[sq,if_neg gI]
 have key:wpAny (bp prog w) A (richCompare .Eq a b>>=truthOfDropped) Q E s:=by
  refine aP (wpAny_mono (show wpAny (bp prog w) A (richCompare .Eq a b) _ E s from h) (λv a8 a'=>?_) λ_ _ e=>e)
  obtain⟨c,rfl,az⟩:=a'
  exact qA az
 cases a<;>first|exact key|(exact absurd rfl (hf _ _))
theorem Uu{a:af}{Q:Bool->aB->Prop}(h:Q true s):wpAny (bp prog w) A (eqBool a a) Q E s:=by
 unfold eqBool
 refine ke ?_
 rw[beq_self_eq_true]
 exact aP (mF (bI h))
theorem Ut{a b:aT}{u v:af}{Q:Bool->aB->Prop}(ha:ll a u=true)(ai:ll b v=true)(h:Q (decide (a=b)) s):
 wpAny (bp prog w) A (eqBool u v) Q E s:=
 iu.casesOn (motive:=λa u _=>∀b v,iu b v->Q (decide (a=b)) s->wpAny (bp prog w) A (eqBool u v) Q E s) (.of ha)
  (λb v ai=>iu.casesOn (motive:=λb v _=>Q (decide (aT.none=b)) s->wpAny (bp prog w) A (eqBool .none v) Q E s) ai (λh=>Uu h) (λ_ _ h=>ub (λe=>nomatch e) (λ_ _ e=>nomatch e) (EqNone.eq_none_int ⟨_,rfl,h⟩)) (λ_ _ h=>ub (λe=>nomatch e) (λ_ _ e=>nomatch e) (EqNone.eq_none_str ⟨_,rfl,h⟩)))
  (λi t b v ai=>iu.casesOn (motive:=λb v _=>Q (decide (aT.int i=b)) s->wpAny (bp prog w) A (eqBool (.int i t) v) Q E s) ai (λh=>ub (λe=>nomatch e) (λ_ _ e=>nomatch e) (EqNone.eq_int_none ⟨_,rfl,h⟩))
    (λaj u h=>wpAny_eqBool_int (by rw[show(i==aj)=decide (aT.int i=aT.int aj) from Bd.mpr ⟨λe=>decide_eq_true (congrArg _ (eq_of_beq e)),λe=>beq_iff_eq.mpr (aT.int.inj (of_decide_eq_true e))⟩];exact h)) (λ_ _ h=>ub (λe=>nomatch e) (λ_ _ e=>nomatch e) (EqMixed.eq_int_str ⟨_,rfl,h⟩)))
  (λx t b v ai=>iu.casesOn (motive:=λb v _=>Q (decide (aT.str x=b)) s->wpAny (bp prog w) A (eqBool (.str x t) v) Q E s) ai (λh=>ub (λe=>nomatch e) (λ_ _ e=>nomatch e) (EqNone.eq_str_none ⟨_,rfl,h⟩)) (λ_ _ h=>ub (λe=>nomatch e) (λ_ _ e=>nomatch e) (EqMixed.eq_str_int ⟨_,rfl,h⟩))
    (λy u h=>wpAny_eqBool_str (by rw[show decide (x=y)=decide (aT.str x=aT.str y) from Bd.mpr ⟨λe=>decide_eq_true (congrArg _ (of_decide_eq_true e)),λe=>decide_eq_true (aT.str.inj (of_decide_eq_true e))⟩];exact h))) b v (.of ai) h
end
noncomputable def ix(prog:cD)(w:cm):KeyKind prog w aT where
 is:=ll
 hash:=RF w
 inj:=λv a b ha ai=>cx ((iu.of ha).t8.symm.trans (iu.of ai).t8)
 byValue:=λk v h=>iu.casesOn (motive:=λ_ v _=>carriedByValue v=true) (.of h) rfl (λ_ _=>rfl) (λ_ _=>rfl)
 pyHash:=λa' h=>by
  rcases Jj a' with⟨rfl,rfl⟩|⟨i,t,rfl,rfl⟩|⟨x,t,rfl,rfl⟩
  .exact ac5 h
  .exact wpAny_pyHash_int h
  .exact wpAny_pyHash_str h
 eqBool:=λbZ a' h=>Ut bZ a' h
 «strs»:=λk x t v h=>cx (iu.of h).t8▸BU (motive:=λv=>ll (.str x) v=v.isStr x) v rfl rfl rfl (λ_=>rfl) (λ_ _=>rfl) (λ_ _=>rfl) (λ_ _=>rfl) (λ_ _=>rfl) (λ_=>rfl) (λ_=>rfl) (λ_=>rfl)
noncomputable abbrev tupK(prog:cD)(w:cm):HeapKind prog w (List aT):=tupleKind (ix prog w)
section
variable{M:iJ}{A:b8}{E:af->aB->Prop}
theorem Ey{s:aB}{b':Type}(f:Nat->b'->c8 (ForInStep b'))(aO:Nat->b'->aB->Prop)(Q:b'->aB->Prop)(n:Nat)
 (turn:∀i b s,i<n->aO i b s->wpAny M A (f i b) (λr a8=>match r with|.yield b1=>aO (i+1) b1 a8|.done b1=>Q b1 a8) E s)
 (cW:∀b s,aO n b s->Q b s)(b:b')(h:aO 0 b s):wpAny M A (forIn [0:n] b f) Q E s:=by
 have key:∀m i b s,i+m=n->aO i b s->wpAny M A (forIn (List.range' i m) b f) Q E s:=by
  intro m
  induction m with
  |zero=>exactλi b s e h=>bI (cW b s (e▸h))
  |succ m a7=>
   intro i b s e h
   show wpAny M A (forIn (i::List.range' (i+1) m) b f) Q E s
   rw[List.forIn_cons]
   refine aP (wpAny_mono (turn i b s (e▸Nat.lt_add_of_pos_right (Nat.succ_pos m)) h) (λr a8 h=>?_) λ_ _ h=>h)
   induction r with
   |done b1=>exact bI h
   |yield b1=>exact a7 _ _ _ ((Nat.succ_add i m).trans e) h
 rw[Std.Legacy.Range.forIn_eq_forIn_range']
 show wpAny M A (forIn (List.range' 0 ((n-0+1-1)/ 1)) b f) Q E s
 rw[Nat.div_one]
 exact key n 0 b s (vy n) h
theorem U5{s:aB}{b':Type}(f:Nat->b'->c8 (ForInStep b'))(qC:Nat->Prop)(Q:b'->aB->Prop)(n:Nat)(b:b')
 (turn:∀i,i<n->qC i->wpAny M A (f i b) (λr a8=>match r with|.yield b1=>b1=b/\a8=s/\qC (i+1)|.done b1=>Q b1 a8) E s)
 (cW:qC n->Q b s)(h:qC 0):wpAny M A (forIn [0:n] b f) Q E s:=
 Ey f (λi b1 a8=>b1=b/\a8=s/\qC i) Q n (λi b1 a8 hi ⟨bj,bg,h⟩=>by rw[bj,bg];exact turn i hi h) (λb1 a8 ⟨bj,bg,h⟩=>by rw[bj,bg];exact cW h) b ⟨rfl,rfl,h⟩
end
end Internal
namespace Internal
open PySem PySem.W PyProof.Rows
noncomputable abbrev gL:a6:=273
section
variable(prog:cD)(w:cm)
noncomputable def mH(o:bM)(kvs:List (aT×af)):Prop:=
 o.ExactDict/\∃es ep,o.data=.dict es ep/\KeysOf (ix prog w) es/\Pairs (ix prog w) es.toList kvs/\(kvs.map (·.1)).Nodup
noncomputable abbrev xW(items:Array af)(k:Nat):bM:={cls:=.type "tuple",data:=.seq items k}
noncomputable abbrev AW(a b c:Int)(t u v:d4):bM:={cls:=.type "range",dict:=none,data:=.fields #[.int a t,.int b u,.int c v],slots:= #[]}
mutual
inductive aQ (W:ag) (n:Nat):C->af->Prop
 |none:aQ W n .none .none
 |bool (b:Bool):aQ W n (.bool b) (.bool b)
 |int (i:Int) (t:d4):aQ W n (.int i) (.int i t)
 |str (x:aV) (t:d4):aQ W n (.str x) (.str x t)
 |bytes (b:List UInt8) (t:d4):aQ W n (.bytes b) (.bytes b.toArray t)
 |bA {a:a6} {items:Array af} {k:Nat} {vs:List C}:W.role a=.imm (xW items k)->bH W n vs items.toList->aQ W n (.bA vs) (.ref a)
 |bB {a:a6} {o:bM} {items:Array af} {k:Nat} {vs:List C}:W.role a=.imm o->o.cls=.type "list"->o.data=.seq items k->bH W n vs items.toList->aQ W n (.bB vs) (.ref a)
 |cV {a:a6} {o:bM} {kvs:List (aT×af)} {es:List (aT×C)}:W.role a=.imm o->(a==hD)=false->mH prog w o kvs->eW W n es kvs->aQ W n (.cV es) (.ref a)
 |gc {r:a6} {a b c:Int} {t u v:d4}:W.role r=.imm (AW a b c t u v)->aQ W n (.gc a b c) (.ref r)
 |ref {c:Nat}:c<n->aQ W n (.ref c) (.ref (W.al c))
 |cb (v:af):aQ W n (.cb v) v
inductive bH (W:ag) (n:Nat):List C->List af->Prop
 |nil:bH W n [] []
 |cons {v:C} {ax:af} {vs:List C} {bG:List af}:aQ W n v ax->bH W n vs bG->bH W n (v::vs) (ax::bG)
inductive eW (W:ag) (n:Nat):List (aT×C)->List (aT×af)->Prop
 |nil:eW W n [] []
 |cons {k:aT} {v:C} {ax:af} {es:List (aT×C)} {kvs:List (aT×af)}:aQ W n v ax->eW W n es kvs->eW W n ((k,v)::es) ((k,ax)::kvs)
end
end
section
variable{prog:cD}{w:cm}
theorem bH.ind{W:ag}{n:Nat}{P:List C->List af->Prop}(nil:P [] [])(cons:∀{v ax vs bG},aQ prog w W n v ax->bH prog w W n vs bG->P vs bG->P (v::vs) (ax::bG)){vs:List C}{bG:List af}(h:bH prog w W n vs bG):P vs bG:=
 bH.rec (motive_1:=λ_ _ _=>True) (motive_2:=λvs bG _=>P vs bG) (motive_3:=λ_ _ _=>True) trivial (λ_=>trivial) (λ_ _=>trivial) (λ_ _=>trivial) (λ_ _=>trivial) (λ_ _ _=>trivial) (λ_ _ _ _ _=>trivial) (λ_ _ _ _ _=>trivial) (λ_=>trivial) (λ_=>trivial) (λ_=>trivial)
  nil (λa b _ a7=>cons a b a7) trivial (λ_ _ _ _=>trivial) h
theorem eW.ind{W:ag}{n:Nat}{P:List (aT×C)->List (aT×af)->Prop}(nil:P [] [])(cons:∀{k v ax es kvs},aQ prog w W n v ax->eW prog w W n es kvs->P es kvs->P ((k,v)::es) ((k,ax)::kvs)){es:List (aT×C)}{kvs:List (aT×af)}(h:eW prog w W n es kvs):P es kvs:=
 eW.rec (motive_1:=λ_ _ _=>True) (motive_2:=λ_ _ _=>True) (motive_3:=λvs bG _=>P vs bG) trivial (λ_=>trivial) (λ_ _=>trivial) (λ_ _=>trivial) (λ_ _=>trivial) (λ_ _ _=>trivial) (λ_ _ _ _ _=>trivial) (λ_ _ _ _ _=>trivial) (λ_=>trivial) (λ_=>trivial) (λ_=>trivial)
  trivial (λ_ _ _ _=>trivial) nil (λa b _ a7=>cons a b a7) h
theorem aQ.bb{W W':ag}{n gu:Nat}(h:W.fL n W')(a3:n<=gu){v:C}{ax:af}(r:aQ prog w W n v ax):aQ prog w W' gu v ax:=
 aQ.rec (motive_1:=λv ax _=>aQ prog w W' gu v ax) (motive_2:=λv ax _=>bH prog w W' gu v ax) (motive_3:=λv ax _=>eW prog w W' gu v ax)
  .none .bool .int .str .bytes (λr _ a7=>.bA (h.1 _ _ r) a7) (λr c d _ a7=>.bB (h.1 _ _ r) c d a7) (λr z c _ a7=>.cV (h.1 _ _ r) z c a7) (λr=>.gc (h.1 _ _ r)) (λ{c} az=>h.2 c az▸.ref (kI az a3)) .cb
  .nil (λ_ _ a b=>.cons a b) .nil (λ_ _ a b=>.cons a b) r
theorem bH.bb{W W':ag}{n gu:Nat}(h:W.fL n W')(a3:n<=gu){v:List C}{ax:List af}(r:bH prog w W n v ax):bH prog w W' gu v ax:=r.ind .nil λa _ a7=>.cons (a.bb h a3) a7
theorem eW.bb{W W':ag}{n gu:Nat}(h:W.fL n W')(a3:n<=gu){v:List (aT×C)}{ax:List (aT×af)}(r:eW prog w W n v ax):eW prog w W' gu v ax:=r.ind .nil λa _ a7=>.cons (a.bb h a3) a7
theorem bH.length{W:ag}{n:Nat}{vs:List C}{bG:List af}(r:bH prog w W n vs bG):bG.length=vs.length:=r.ind (P:=λvs bG=>bG.length=vs.length) rfl λ_ _ a7=>congrArg Nat.succ a7
theorem bH.append{W:ag}{n:Nat}{vs cU:List C}{bG GZ:List af}(r:bH prog w W n vs bG)(h:bH prog w W n cU GZ):bH prog w W n (vs++cU) (bG++GZ):=r.ind (P:=λvs bG=>bH prog w W n (vs++cU) (bG++GZ)) h λa _ a7=>.cons a a7
theorem bH.uW{W:ag}{n:Nat}{v:C}{ax:af}(h:aQ prog w W n v ax):bH prog w W n [v] [ax]:=.cons h .nil
theorem bH.get{W:ag}{n:Nat}{vs:List C}{bG:List af}(r:bH prog w W n vs bG):∀{i:Nat} {v:C},vs[i]? =some v->∃ax,bG[i]? =some ax/\aQ prog w W n v ax:=
 r.ind (P:=λvs bG=>∀{i:Nat} {v:C},vs[i]? =some v->∃ax,bG[i]? =some ax/\aQ prog w W n v ax) (λe=>au e) λ{_ ax _ _} a _ a7 {i _}=>tw (motive:=λi=>(_::_)[i]? =some _->∃ax,(_::_)[i]? =some ax/\aQ prog w W n _ ax) i (λe=>⟨ax,rfl,cx e▸a⟩) λ_ e=>a7 e
theorem bH.take{W:ag}{n:Nat}{vs:List C}{bG:List af}(i:Nat)(r:bH prog w W n vs bG):bH prog w W n (vs.take i) (bG.take i):=
 r.ind (P:=λvs bG=>∀i,bH prog w W n (vs.take i) (bG.take i)) (λi=>tw (motive:=λi=>bH prog w W n (List.take i []) (List.take i [])) i .nil λ_=>.nil) (λa _ a7 i=>tw (motive:=λi=>bH prog w W n (List.take i (_::_)) (List.take i (_::_))) i .nil λaj=>.cons a (a7 aj)) i
theorem bH.drop{W:ag}{n:Nat}{vs:List C}{bG:List af}(i:Nat)(r:bH prog w W n vs bG):bH prog w W n (vs.drop i) (bG.drop i):=
 r.ind (P:=λvs bG=>∀i,bH prog w W n (vs.drop i) (bG.drop i)) (λi=>tw (motive:=λi=>bH prog w W n (List.drop i []) (List.drop i [])) i .nil λ_=>.nil) (λa b a7 i=>tw (motive:=λi=>bH prog w W n (List.drop i (_::_)) (List.drop i (_::_))) i (.cons a b) λaj=>a7 aj) i
theorem bH.set{W:ag}{n:Nat}{v:C}{ax:af}(h:aQ prog w W n v ax){vs:List C}{bG:List af}(i:Nat)(r:bH prog w W n vs bG):bH prog w W n (vs.set i v) (bG.set i ax):=
 r.ind (P:=λvs bG=>∀i,bH prog w W n (vs.set i v) (bG.set i ax)) (λi=>tw (motive:=λi=>bH prog w W n (List.set [] i v) (List.set [] i ax)) i .nil λ_=>.nil) (λa b a7 i=>tw (motive:=λi=>bH prog w W n (List.set (_::_) i v) (List.set (_::_) i ax)) i (.cons h b) λaj=>.cons a (a7 aj)) i
noncomputable def bH.Spec(prog:cD)(w:cm)(W:ag)(n:Nat):List C->List af->Prop
 |[],cU=>cU=[]
 |v::vs,cU=>∃ax bG,cU=ax::bG/\aQ prog w W n v ax/\bH prog w W n vs bG
theorem bH.bt{W:ag}{n:Nat}{vs:List C}{cU:List af}(h:bH prog w W n vs cU):bH.Spec prog w W n vs cU:=h.ind (P:=λvs cU=>bH.Spec prog w W n vs cU) rfl λa b _=>⟨_,_,rfl,a,b⟩
theorem bH.vc{W:ag}{n:Nat}{v:C}{ax:af}{vs:List C}{bG:List af}(h:bH prog w W n (v::vs) (ax::bG)):aQ prog w W n v ax/\bH prog w W n vs bG:=by
 obtain⟨_,_,e,a,b⟩:=h.bt
 exact⟨(rG e).1▸a,(rG e).2▸b⟩
noncomputable def aQ.Spec(prog:cD)(w:cm)(W:ag)(n:Nat):C->af->Prop
 |.none,ax=>ax=.none
 |.bool b,ax=>ax=.bool b
 |.int i,ax=>∃t,ax=.int i t
 |.str x,ax=>∃t,ax=.str x t
 |.bytes x,ax=>∃t,ax=.bytes x.toArray t
 |.bA vs,ax=>∃a items k,W.role a=.imm (xW items k)/\bH prog w W n vs items.toList/\ax=.ref a
 |.bB vs,ax=>∃a o items k,W.role a=.imm o/\o.cls=.type "list"/\o.data=.seq items k/\bH prog w W n vs items.toList/\ax=.ref a
 |.cV es,ax=>∃a o kvs,W.role a=.imm o/\(a==hD)=false/\mH prog w o kvs/\eW prog w W n es kvs/\ax=.ref a
 |.gc a b c,ax=>∃r t u v,W.role r=.imm (AW a b c t u v)/\ax=.ref r
 |.ref c,ax=>c<n/\ax=.ref (W.al c)
 |.cb x,ax=>ax=x
theorem aQ.bt{W:ag}{n:Nat}{v:C}{ax:af}(h:aQ prog w W n v ax):aQ.Spec prog w W n v ax:=
 aQ.casesOn (motive_1:=λv ax _=>aQ.Spec prog w W n v ax) h rfl (λ_=>rfl) (λ_ _=>⟨_,rfl⟩) (λ_ _=>⟨_,rfl⟩) (λ_ _=>⟨_,rfl⟩) (λr q=>⟨_,_,_,r,q,rfl⟩) (λr c d q=>⟨_,_,_,_,r,c,d,q,rfl⟩) (λr z c q=>⟨_,_,_,r,z,c,q,rfl⟩) (λr=>⟨_,_,_,_,r,rfl⟩) (λc=>⟨c,rfl⟩) (λ_=>rfl)
noncomputable def nM(prog:cD)(w:cm)(W:ag)(k:List aT)(a:a6):Prop:=∃o items n,W.role a=.imm o/\o.cls=.type "tuple"/\o.data=.seq items n/\ItemsAre (ix prog w) k items.toList
noncomputable def TRel(prog:cD)(w:cm)(W:ag)(n:Nat):List (List aT×C)->List (List aT×a6×af)->Prop
 |[],[]=>True
 |(k,v)::es,(k0,a,ax)::xs=>k0=k/\nM prog w W k a/\aQ prog w W n v ax/\TRel prog w W n es xs
 |_,_=>False
theorem TRel.ind{W:ag}{n:Nat}{P:List (List aT×C)->List (List aT×a6×af)->Prop}(nil:P [] [])(cons:∀{k v a ax es xs},nM prog w W k a->aQ prog w W n v ax->TRel prog w W n es xs->P es xs->P ((k,v)::es) ((k,a,ax)::xs)):
 ∀{es:List (List aT×C)} {xs:List (List aT×a6×af)},TRel prog w W n es xs->P es xs:=by
 intro es
 refine List.rec (motive:=λes=>∀{xs},TRel prog w W n es xs->P es xs) (λ{xs}=>?_) (λe es a7 {xs}=>?_) es
 .exact Bx (motive:=λxs=>TRel prog w W n [] xs->P [] xs) xs (λ_=>nil) λ_ _ h=>dA h
 .exact Bx (motive:=λxs=>TRel prog w W n (e::es) xs->P (e::es) xs) xs (λh=>dA h) λ⟨k0,a,ax⟩ xs ⟨h1,h2,aU,h4⟩=>by cases h1;exact cons h2 aU h4 (a7 h4)
theorem nM.bb{W W':ag}{n:Nat}(h:W.fL n W'){k:List aT}{a:a6}(r:nM prog w W k a):nM prog w W' k a:=by
 obtain⟨o,it,m,r,x⟩:=r;exact⟨o,it,m,h.1 _ _ r,x⟩
theorem TRel.bb{W W':ag}{n gu:Nat}(h:W.fL n W')(a3:n<=gu){es:List (List aT×C)}{xs:List (List aT×a6×af)}(r:TRel prog w W n es xs):TRel prog w W' gu es xs:=
 TRel.ind (P:=λes xs=>TRel prog w W' gu es xs) trivial (λa b _ a7=>⟨rfl,a.bb h,b.bb h a3,a7⟩) r
noncomputable def qH(prog:cD)(w:cm)(o:bM)(xs:List (List aT×a6×af)):Prop:=
 o.ExactDict/\∃es ep,o.data=.dict es ep/\es.toList=xs.map (entryOfKey (tupK prog w))/\(xs.map (·.1)).Nodup
inductive CellAt (prog:cD) (w:cm) (W:ag) (n:Nat) (h:a9) (c:Nat) (a:a6):cO->Prop
 |list {vs:List C} {items:Array af} {k:Nat}:h.get? a=some (listOf items k)->bH prog w W n vs items.toList->CellAt prog w W n h c a (.list vs)
 |cJ {es:List (aT×C)} {o:bM} {kvs:List (aT×af)}:h.get? a=some o->(a==hD)=false->mH prog w o kvs->eW prog w W n es kvs->CellAt prog w W n h c a (.cJ es)
 |cv {es:List (List aT×C)} {o:bM} {xs:List (List aT×a6×af)}:h.get? a=some o->(a==hD)=false->qH prog w o xs->TRel prog w W n es xs->CellAt prog w W n h c a (.cv es)
 |inst {d:a6} {t:Option C} {es:List nr} {k:Nat}:h.get? a=some (ou gL d)->W.role d=.h3 c->h.get? d=some (lV es k)->
   (match t with|none=>es=[]|some v=>∃(hh:Int) (cw:d4) (ax:af),es=[⟨hh,.str "times" cw,ax⟩]/\aQ prog w W n v ax)->CellAt prog w W n h c a (.inst t)
 |eX {b:List UInt8}:h.get? a=some {cls:=.type "bytearray",data:=.bytearray b.toArray 0}->CellAt prog w W n h c a (.eX b)
theorem CellAt.bb{W W':ag}{n gu:Nat}{h h':a9}{c:Nat}{a:a6}{x:cO}(k:CellAt prog w W n h c a x)(l:W.fL n W')(a3:n<=gu)(e:h'.get? a=h.get? a)(hp:∀d,W.role d=.h3 c->W'.role d=.h3 c/\h'.get? d=h.get? d):
 CellAt prog w W' gu h' c a x:=by
 cases k with
 |list g r=>exact .list (e.trans g) (r.bb l a3)
 |cJ g z r q=>exact .cJ (e.trans g) z r (q.bb l a3)
 |cv g z r q=>exact .cv (e.trans g) z r (q.bb l a3)
 |@inst d t es dU g r q v=>
  refine .inst (e.trans g) (hp _ r).1 ((hp _ r).2.trans q) ?_
  rcases t with _|t
  .exact v
  .obtain⟨hh,cw,ax,a,b⟩:=v;exact⟨hh,cw,ax,a,b.bb l a3⟩
 |eX g=>exact .eX (e.trans g)
noncomputable def CellAt.Spec(prog:cD)(w:cm)(W:ag)(n:Nat)(h:a9)(c:Nat)(a:a6):cO->Prop
 |.list vs=>∃items k,h.get? a=some (listOf items k)/\bH prog w W n vs items.toList
 |.cJ es=>∃o kvs,h.get? a=some o/\(a==hD)=false/\mH prog w o kvs/\eW prog w W n es kvs
 |.cv es=>∃o xs,h.get? a=some o/\(a==hD)=false/\qH prog w o xs/\TRel prog w W n es xs
 |.inst t=>∃d es k,h.get? a=some (ou gL d)/\W.role d=.h3 c/\h.get? d=some (lV es k)/\
   (match t with|none=>es=[]|some v=>∃(hh:Int) (cw:d4) (ax:af),es=[⟨hh,.str "times" cw,ax⟩]/\aQ prog w W n v ax)
 |.eX b=>h.get? a=some {cls:=.type "bytearray",data:=.bytearray b.toArray 0}
theorem CellAt.bt{W:ag}{n:Nat}{h:a9}{c:Nat}{a:a6}{x:cO}(k:CellAt prog w W n h c a x):CellAt.Spec prog w W n h c a x:=
 CellAt.casesOn (motive:=λx _=>CellAt.Spec prog w W n h c a x) k (λg r=>⟨_,_,g,r⟩) (λg z r q=>⟨_,_,g,z,r,q⟩) (λg z r q=>⟨_,_,g,z,r,q⟩) (λg r q v=>⟨_,_,_,g,r,q,v⟩) λg=>g
theorem CellAt.some{W:ag}{n:Nat}{h:a9}{c:Nat}{a:a6}{x:cO}(k:CellAt prog w W n h c a x):∃o,h.get? a=.some o:=by cases k<;>exact⟨_,by assumption⟩
structure bL (prog:cD) (w:cm) (h₁:a9) (W:ag) (σ:St) (h:a9):Prop where
 nz:∃o,h₁.get? 3=.some o
 base:∀a o,h₁.get? a=some o->W.role a=.imm o
 imm:∀a o,W.role a=.imm o->h.get? a=some o
 fix:∀a o,W.role a=.fix o->h.get? a=some o
 live:∀a,W.role a≠.free->∃o,h.get? a=some o
 cell:∀c x,σ.cells c=some x->W.role (W.al c)=.cell c/\CellAt prog w W σ.next h c (W.al c) x
 top:∀c,σ.next<=c->σ.cells c=none
variable{h₁:a9}
theorem bL.fresh{W:ag}{σ:St}{h:a9}(R:bL prog w h₁ W σ h):(h.objs.size==hD)=false:=by
 obtain⟨o,aK⟩:=R.nz
 have:=ka (R.imm 3 o (R.base 3 o aK))
 exact beq_eq_false_iff_ne.mpr (k9 (vv (by decide:(1:Nat)<3) this))
theorem bL.old{W:ag}{σ:St}{h:a9}(R:bL prog w h₁ W σ h):∀b o,h₁.get? b=some o->h.get? b=some o:=λb o e=>R.imm b o (R.base b o e)
theorem bL.lt{W:ag}{σ:St}{h:a9}(R:bL prog w h₁ W σ h){a:a6}(ha:W.role a≠.free):a<h.objs.size:=let⟨_,e⟩:=R.live a ha;ka e
theorem bL.free{W:ag}{σ:St}{h:a9}(R:bL prog w h₁ W σ h){a:a6}(ha:h.objs.size<=a):W.role a=.free:=by
 cases e:W.role a with
 |free=>rfl
 |_=>exact absurd (R.lt (a:=a) (bS.ne e)) (Nat.not_lt.mpr ha)
theorem bL.keep{W:ag}{σ:St}{h h':a9}(R:bL prog w h₁ W σ h)(e:∀a,W.role a≠.free->W.role a≠.aa->h'.get? a=h.get? a)(l:∀a,W.role a=.aa->∃o,h'.get? a=some o):bL prog w h₁ W σ h' where
 nz:=R.nz
 base:=R.base
 imm:=λa o r=>(e a (bS.ne r) (bS.ne r)).trans (R.imm a o r)
 fix:=λa o r=>(e a (bS.ne r) (bS.ne r)).trans (R.fix a o r)
 live:=λa r=>by
  by_cases q:W.role a=.aa
  .exact l a q
  .rw[e a r q];exact R.live a r
 cell:=λc x az=>by
  obtain⟨r,k⟩:=R.cell c x az
  exact⟨r,k.bb ag.fL.refl (bF _) (e _ (bS.ne r) (bS.ne r)) λd aD=>⟨aD,e d (bS.ne aD) (bS.ne aD)⟩⟩
 top:=R.top
theorem get?_push_ne{h:a9}{o:bM}{a:a6}(ha:a<h.objs.size):(h.push o).get? a=h.get? a:=Br _ _ _ (eL ha)
theorem bL.push{W:ag}{σ:St}{h:a9}(R:bL prog w h₁ W σ h)(o:bM):bL prog w h₁ W σ (h.push o):=
 R.keep (λa r _=>get?_push_ne (R.lt r)) λa r=>by
  have q:W.role a≠.free:=bS.ne r
  rw[get?_push_ne (R.lt q)];exact R.live a q
theorem bL.sameBut{W:ag}{σ:St}{h h':a9}{a:a6}(R:bL prog w h₁ W σ h)(hs:iF a h h')(ha:W.role a=.free\/(W.role a=.aa/\∃o,h'.get? a=some o)):bL prog w h₁ W σ h':=
 R.keep (λb r l=>hs.2 b (by rintro rfl;exact ha.elim r λq=>l q.1)) λb r=>by
  by_cases ai:b=a
  .subst ai;exact ha.elim (λq=>by exact bS.no q r) λq=>q.2
  .rw[hs.2 b ai];exact R.live b (bS.ne r)
theorem bL.me{W:ag}{σ:St}{h h':a9}(R:bL prog w h₁ W σ h)(e:∀b o,h.get? b=some o->h'.get? b=some o):bL prog w h₁ W σ h':=
 R.keep (λa r _=>by obtain⟨o,aK⟩:=R.live a r;rw[aK,e a o aK]) λa r=>by
  obtain⟨o,aK⟩:=R.live a (bS.ne r)
  exact⟨o,e a o aK⟩
noncomputable def ag.aY(W:ag)(a:a6)(r:bS):ag:={W with role:=λb=>if b=a then r else W.role b}
theorem ag.dv{W:ag}{a:a6}{r:bS}:(W.aY a r).role a=r:=by simp[ag.aY]
theorem ag.cG{W:ag}{a b:a6}{r:bS}(h:b≠a):(W.aY a r).role b=W.role b:=by simp[ag.aY,h]
theorem ag.ij{W:ag}{a:a6}{r:bS}{n:Nat}(h:W.role a=.free):W.le n (W.aY a r):=by
 refine⟨⟨λb o e=>?_,λ_ _=>rfl⟩,λb o e=>?_,λb e=>?_⟩<;>
 .rw[ag.cG]
  .exact e
  .rintro rfl;exact bS.no h e
theorem bL.i2{W:ag}{σ:St}{h:a9}{a:a6}{r:bS}(R:bL prog w h₁ W σ h)(ha:W.role a=.free)(aJ:∃o,h.get? a=some o)(hi:∀o,r=.imm o->h.get? a=some o)(hf:∀o,r=.fix o->h.get? a=some o):bL prog w h₁ (W.aY a r) σ h where
 nz:=R.nz
 base:=λb o e=>(ag.ij (n:=0) ha).1.1 b o (R.base b o e)
 imm:=λb o e=>by
  by_cases ai:b=a
  .subst ai;rw[ag.dv] at e;exact hi o e
  .rw[ag.cG ai] at e;exact R.imm b o e
 fix:=λb o e=>by
  by_cases ai:b=a
  .subst ai;rw[ag.dv] at e;exact hf o e
  .rw[ag.cG ai] at e;exact R.fix b o e
 live:=λb e=>by
  by_cases ai:b=a
  .subst ai;exact aJ
  .rw[ag.cG ai] at e;exact R.live b e
 cell:=λc x az=>by
  obtain⟨cu,k⟩:=R.cell c x az
  have gq:W.al c≠a:=by rintro e;rw[e,ha] at cu;exact nomatch cu
  refine⟨?_,k.bb (ag.ij ha).1 (bF _) rfl λd aD=>⟨?_,rfl⟩⟩
  .show(W.aY a r).role (W.al c)=_
   rw[ag.cG gq];exact cu
  .rw[ag.cG]
   .exact aD
   .rintro rfl;exact bS.no ha aD
 top:=R.top
theorem bL.swap{W:ag}{σ:St}{h h':a9}{a:a6}{o c':bM}(R:bL prog w h₁ W σ h)(ha:W.role a=.fix o)(hs:iF a h h')(aK:h'.get? a=some c'):bL prog w h₁ (W.aY a (.fix c')) σ h' where
 nz:=R.nz
 base:=λb x e=>by
  have:=R.base b x e
  rw[ag.cG]
  .exact this
  .rintro rfl;exact bS.no ha this
 imm:=λb x e=>by
  by_cases ai:b=a
  .subst ai;rw[ag.dv] at e;exact nomatch e
  .rw[ag.cG ai] at e;exact(hs.2 b ai).trans (R.imm b x e)
 fix:=λb x e=>by
  by_cases ai:b=a
  .subst ai;rw[ag.dv] at e;cases e;exact aK
  .rw[ag.cG ai] at e;exact(hs.2 b ai).trans (R.fix b x e)
 live:=λb e=>by
  by_cases ai:b=a
  .subst ai;exact⟨c',aK⟩
  .rw[ag.cG ai] at e;rw[hs.2 b ai];exact R.live b e
 cell:=λc x az=>by
  obtain⟨cu,k⟩:=R.cell c x az
  have gq:W.al c≠a:=by rintro e;rw[e,ha] at cu;exact nomatch cu
  refine⟨?_,?_⟩
  .show(W.aY a _).role (W.al c)=_
   rw[ag.cG gq];exact cu
  .refine k.bb ⟨λb x e=>?_,λ_ _=>rfl⟩ (bF _) (hs.2 _ gq) λd aD=>?_
   .rw[ag.cG]
    .exact e
    .rintro rfl;exact bS.no ha e
   .have e8:d≠a:=by rintro rfl;exact bS.no ha aD
    exact⟨by rw[ag.cG e8];exact aD,hs.2 d e8⟩
 top:=R.top
end
end Internal
namespace Internal
open PySem PySem.W PyProof.Rows
section
variable{prog:cD}{w:cm}{h₁:a9}
theorem bL.u3{W W':ag}{σ:St}{h:a9}(R:bL prog w h₁ W σ h)(lr:W'.al=W.al)
 (aL:∀a,W'.role a=W.role a\/((W.role a=.aa\/∃o,W.role a=.fix o)/\(W'.role a=.free\/W'.role a=.aa\/∃o,W'.role a=.fix o/\h.get? a=some o))):
 bL prog w h₁ W' σ h/\W.fL σ.next W':=by
 have keepR:∀a r,W.role a=r->r≠.aa->(∀o,r≠.fix o)->W'.role a=r:=by
  intro a r e h1 h2
  rcases aL a with q|⟨q|⟨o,q⟩,_⟩
  .rw[q,e]
  .rw[e] at q;exact absurd q h1
  .rw[e] at q;exact absurd q (h2 o)
 have R':∀a r,W'.role a=r->r≠.free->r≠.aa->(∀o,r≠.fix o)->W.role a=r:=by
  intro a r e ao h1 h2
  rcases aL a with q|⟨_,q|q|⟨o,q,_⟩⟩
  .rw[<-q,e]
  .rw[e] at q;exact absurd q ao
  .rw[e] at q;exact absurd q h1
  .rw[e] at q;exact absurd q (h2 o)
 have j4:W.fL σ.next W':=⟨λa o e=>keepR a _ e (λq=>nomatch q) (λ_ q=>nomatch q),λc _=>by rw[lr]⟩
 refine⟨⟨R.nz,λa o e=>keepR a _ (R.base a o e) (λq=>nomatch q) (λ_ q=>nomatch q),λa o e=>R.imm a o (R' a _ e (λq=>nomatch q) (λq=>nomatch q) (λ_ q=>nomatch q)),λa o e=>?_,λa e=>?_,λc x az=>?_,R.top⟩,j4⟩
 .rcases aL a with q|⟨_,q|q|⟨c',q,g⟩⟩
  .exact R.fix a o (q▸e)
  .exact bS.no e q
  .exact bS.no e q
  .rw[e] at q;cases q;exact g
 .refine R.live a λq=>?_
  rcases aL a with p|⟨p|⟨o,p⟩,_⟩
  .exact e (p.trans q)
  .exact bS.no q p
  .exact bS.no q p
 .obtain⟨r,k⟩:=R.cell c x az
  rw[lr]
  exact⟨keepR _ _ r (λq=>nomatch q) (λ_ q=>nomatch q),k.bb j4 (bF _) rfl λd aD=>⟨keepR d _ aD (λq=>nomatch q) (λ_ q=>nomatch q),rfl⟩⟩
noncomputable def St.new(σ:St)(x:cO):St:={cells:=λc=>if c=σ.next then some x else σ.cells c,next:=σ.next+1}
noncomputable def St.aY(σ:St)(c:Nat)(x:cO):St:={σ with cells:=λd=>if d=c then some x else σ.cells d}
noncomputable def ag.fD(W:ag)(n:Nat)(a:a6):ag:={role:=λb=>if b=a then .cell n else W.role b,al:=λc=>if c=n then a else W.al c}
theorem ag.ra{W:ag}{n:Nat}{a:a6}(h:W.role a=.free):W.le n (W.fD n a):=by
 refine⟨⟨λb o e=>?_,λc az=>?_⟩,λb o e=>?_,λb e=>?_⟩
 .show(if b=a then _ else _)=_
  rw[if_neg (by rintro rfl;exact bS.no h e)];exact e
 .show(if c=n then _ else _)=_
  rw[if_neg (eL az)]
 .show(if b=a then _ else _)=_
  rw[if_neg (by rintro rfl;exact bS.no h e)];exact e
 .show(if b=a then _ else _)=_
  rw[if_neg (by rintro rfl;exact bS.no h e)];exact e
theorem bL.alloc{W:ag}{σ:St}{h:a9}{a:a6}{x:cO}(R:bL prog w h₁ W σ h)(ha:W.role a=.free)(aJ:∃o,h.get? a=some o)(ay:CellAt prog w (W.fD σ.next a) (σ.next+1) h σ.next a x):
 bL prog w h₁ (W.fD σ.next a) (σ.new x) h:=by
 have l:=ag.ra (n:=σ.next) ha
 have rn:∀b,b≠a->(W.fD σ.next a).role b=W.role b:=λb ai=>by show(if b=a then _ else _)=_;rw[if_neg ai]
 have AX:(W.fD σ.next a).role a=.cell σ.next:=by show(if a=a then _ else _)=_;rw[if_pos rfl]
 refine⟨R.nz,λb o e=>l.1.1 b o (R.base b o e),λb o e=>?_,λb o e=>?_,λb e=>?_,λc y az=>?_,λc az=>?_⟩
 .by_cases ai:b=a
  .subst ai;exact bS.no AX e
  .rw[rn b ai] at e;exact R.imm b o e
 .by_cases ai:b=a
  .subst ai;exact bS.no AX e
  .rw[rn b ai] at e;exact R.fix b o e
 .by_cases ai:b=a
  .subst ai;exact aJ
  .rw[rn b ai] at e;exact R.live b e
 .by_cases sy:c=σ.next
  .subst sy
   have e:y=x:=by
    have:(if σ.next=σ.next then some x else σ.cells σ.next)=some y:=az
    rw[if_pos rfl] at this;cases this;rfl
   subst e
   have e7:(W.fD σ.next a).al σ.next=a:=by show(if σ.next=σ.next then a else _)=_;rw[if_pos rfl]
   rw[e7];exact⟨AX,ay⟩
  .have lu:σ.cells c=some y:=by
    have:(if c=σ.next then some x else σ.cells c)=some y:=az
    rw[if_neg sy] at this;exact this
   obtain⟨r,k⟩:=R.cell c y lu
   have e7:(W.fD σ.next a).al c=W.al c:=by show(if c=σ.next then a else _)=_;rw[if_neg sy]
   rw[e7]
   have gq:W.al c≠a:=by rintro e;rw[e,ha] at r;exact nomatch r
   exact⟨(rn _ gq).trans r,k.bb l.1 (hb _) rfl λd aD=>⟨(rn d (by rintro rfl;exact bS.no ha aD)).trans aD,rfl⟩⟩
 .have h1:¬c=σ.next:=k9 az
  show(if c=σ.next then some x else σ.cells c)=none
  rw[if_neg h1];exact R.top c (Nat.le_of_succ_le az)
theorem bL.oh{W:ag}{σ:St}{h h':a9}{c:Nat}{x y:cO}(R:bL prog w h₁ W σ h)(az:σ.cells c=some x)(hs:iF (W.al c) h h')(bQ:CellAt prog w W σ.next h' c (W.al c) y):bL prog w h₁ W (σ.aY c y) h':=by
 have e1:=(R.cell c x az).1
 have bV:∀b,W.role b≠.cell c->h'.get? b=h.get? b:=λb ai=>hs.2 b (by rintro rfl;exact ai e1)
 refine⟨R.nz,R.base,λb o e=>(bV b (bS.ne e)).trans (R.imm b o e),λb o e=>(bV b (bS.ne e)).trans (R.fix b o e),λb e=>?_,λd z aD=>?_,λd aD=>?_⟩
 .by_cases q:b=W.al c
  .subst q;exact bQ.some
  .rw[hs.2 b q];exact R.live b e
 .have e8:(if d=c then some y else σ.cells d)=some z:=aD
  by_cases e:d=c
  .subst e
   rw[if_pos rfl] at e8;cases e8
   exact⟨e1,bQ⟩
  .rw[if_neg e] at e8
   obtain⟨r,k⟩:=R.cell d z e8
   refine⟨r,k.bb ag.fL.refl (bF _) (bV _ (by rw[r];intro q;injection q with q;exact e q)) λp hp=>⟨hp,bV p (bS.ne hp)⟩⟩
 .show(if d=c then some y else σ.cells d)=none
  have:d≠c:=by
   rintro rfl
   rw[R.top d aD] at az;exact nomatch az
  rw[if_neg this];exact R.top d aD
theorem bL.GU{W:ag}{σ:St}{h h':a9}{c:Nat}{p:a6}{x y:cO}(R:bL prog w h₁ W σ h)(az:σ.cells c=some x)(hp:W.role p=.h3 c)(hs:iF p h h')(Fc:∃o,h'.get? p=some o)(bQ:CellAt prog w W σ.next h' c (W.al c) y):bL prog w h₁ W (σ.aY c y) h':=by
 have bV:∀b,W.role b≠.h3 c->h'.get? b=h.get? b:=λb ai=>hs.2 b (by rintro rfl;exact ai hp)
 refine⟨R.nz,R.base,λb o e=>(bV b (bS.ne e)).trans (R.imm b o e),λb o e=>(bV b (bS.ne e)).trans (R.fix b o e),λb e=>?_,λd z aD=>?_,λd aD=>?_⟩
 .by_cases q:b=p
  .subst q;exact Fc
  .rw[hs.2 b q];exact R.live b e
 .have e8:(if d=c then some y else σ.cells d)=some z:=aD
  by_cases e:d=c
  .subst e
   rw[if_pos rfl] at e8;cases e8
   exact⟨(R.cell d x az).1,bQ⟩
  .rw[if_neg e] at e8
   obtain⟨r,k⟩:=R.cell d z e8
   refine⟨r,k.bb ag.fL.refl (bF _) (bV _ (bS.ne r)) λp hp=>⟨hp,bV p (by rw[hp];intro q;injection q with q;exact e q)⟩⟩
 .show(if d=c then some y else σ.cells d)=none
  have:d≠c:=by
   rintro rfl
   rw[R.top d aD] at az;exact nomatch az
  rw[if_neg this];exact R.top d aD
theorem aQ.afl{b':Type}{W:ag}{n:Nat}{v:C}{ax:af}{b:b'}(r:aQ prog w W n v ax)(f:C->Option b')(P:af->Prop)(e:f v=some b)
 (x2:∀vs a o items k,W.role a=.imm o->o.cls=.type "list"->o.data=.seq items k->bH prog w W n vs items.toList->f (.bB vs)=some b->P (.ref a))
 (tq:∀c,c<n->f (.ref c)=some b->P (.ref (W.al c)))
 (iR:autoParam (f .none=e') aN._auto_1)
 (il:autoParam (∀x,f (.bool x)=e') eU._auto_1)
 (jn:autoParam (∀x,f (.int x)=e') eU._auto_1)
 (ir:autoParam (∀x,f (.str x)=e') eU._auto_1)
 (j5:autoParam (∀x,f (.bytes x)=e') eU._auto_1)
 (j7:autoParam (∀x,f (.bA x)=e') eU._auto_1)
 (iQ:autoParam (∀x,f (.cV x)=e') eU._auto_1)
 (iq:autoParam (∀x y z,f (.gc x y z)=e') nq._auto_1)
 (ip:autoParam (∀x,f (.cb x)=e') eU._auto_1):P ax:=
 aQ.casesOn (motive_1:=λv ax _=>f v=some b->P ax) r (λe=>e0 (e.symm.trans iR)) (λx e=>e0 (e.symm.trans (il x))) (λx _ e=>e0 (e.symm.trans (jn x))) (λx _ e=>e0 (e.symm.trans (ir x))) (λx _ e=>e0 (e.symm.trans (j5 x))) (λ_ _ e=>e0 (e.symm.trans (j7 _))) (λr c d q=>x2 _ _ _ _ _ r c d q) (λ_ _ _ _ e=>e0 (e.symm.trans (iQ _))) (λ_ e=>e0 (e.symm.trans (iq _ _ _))) (λh=>tq _ h) (λx e=>e0 (e.symm.trans (ip x))) e
theorem aQ.afk{b':Type}{W:ag}{n:Nat}{v:C}{ax:af}{b:b'}(r:aQ prog w W n v ax)(f:C->Option b')(P:af->Prop)(e:f v=some b)
 (af9:∀es a o kvs,W.role a=.imm o->(a==hD)=false->mH prog w o kvs->eW prog w W n es kvs->f (.cV es)=some b->P (.ref a))
 (tq:∀c,c<n->f (.ref c)=some b->P (.ref (W.al c)))
 (iR:autoParam (f .none=e') aN._auto_1)
 (il:autoParam (∀x,f (.bool x)=e') eU._auto_1)
 (jn:autoParam (∀x,f (.int x)=e') eU._auto_1)
 (ir:autoParam (∀x,f (.str x)=e') eU._auto_1)
 (j5:autoParam (∀x,f (.bytes x)=e') eU._auto_1)
 (j7:autoParam (∀x,f (.bA x)=e') eU._auto_1)
 (j6:autoParam (∀x,f (.bB x)=e') eU._auto_1)
 (iq:autoParam (∀x y z,f (.gc x y z)=e') nq._auto_1)
 (ip:autoParam (∀x,f (.cb x)=e') eU._auto_1):P ax:=
 aQ.casesOn (motive_1:=λv ax _=>f v=some b->P ax) r (λe=>e0 (e.symm.trans iR)) (λx e=>e0 (e.symm.trans (il x))) (λx _ e=>e0 (e.symm.trans (jn x))) (λx _ e=>e0 (e.symm.trans (ir x))) (λx _ e=>e0 (e.symm.trans (j5 x))) (λ_ _ e=>e0 (e.symm.trans (j7 _))) (λ_ _ _ _ e=>e0 (e.symm.trans (j6 _))) (λr z c q=>af9 _ _ _ _ r z c q) (λ_ e=>e0 (e.symm.trans (iq _ _ _))) (λh=>tq _ h) (λx e=>e0 (e.symm.trans (ip x))) e
theorem aQ.afm{b':Type}{W:ag}{n:Nat}{v:C}{ax:af}{b:b'}(r:aQ prog w W n v ax)(f:C->Option b')(P:af->Prop)(e:f v=some b)
 (tq:∀c,c<n->f (.ref c)=some b->P (.ref (W.al c)))
 (iR:autoParam (f .none=e') aN._auto_1)
 (il:autoParam (∀x,f (.bool x)=e') eU._auto_1)
 (jn:autoParam (∀x,f (.int x)=e') eU._auto_1)
 (ir:autoParam (∀x,f (.str x)=e') eU._auto_1)
 (j5:autoParam (∀x,f (.bytes x)=e') eU._auto_1)
 (j7:autoParam (∀x,f (.bA x)=e') eU._auto_1)
 (j6:autoParam (∀x,f (.bB x)=e') eU._auto_1)
 (iQ:autoParam (∀x,f (.cV x)=e') eU._auto_1)
 (iq:autoParam (∀x y z,f (.gc x y z)=e') nq._auto_1)
 (ip:autoParam (∀x,f (.cb x)=e') eU._auto_1):P ax:=
 aQ.casesOn (motive_1:=λv ax _=>f v=some b->P ax) r (λe=>e0 (e.symm.trans iR)) (λx e=>e0 (e.symm.trans (il x))) (λx _ e=>e0 (e.symm.trans (jn x))) (λx _ e=>e0 (e.symm.trans (ir x))) (λx _ e=>e0 (e.symm.trans (j5 x))) (λ_ _ e=>e0 (e.symm.trans (j7 _))) (λ_ _ _ _ e=>e0 (e.symm.trans (j6 _))) (λ_ _ _ _ e=>e0 (e.symm.trans (iQ _))) (λ_ e=>e0 (e.symm.trans (iq _ _ _))) (λh=>tq _ h) (λx e=>e0 (e.symm.trans (ip x))) e
theorem aQ.afn{b':Type}{W:ag}{n:Nat}{v:C}{ax:af}{b:b'}(r:aQ prog w W n v ax)(f:C->Option b')(P:af->Prop)(e:f v=some b)
 (x3:∀vs a items k,W.role a=.imm (xW items k)->bH prog w W n vs items.toList->f (.bA vs)=some b->P (.ref a))
 (iR:autoParam (f .none=e') aN._auto_1)
 (il:autoParam (∀x,f (.bool x)=e') eU._auto_1)
 (jn:autoParam (∀x,f (.int x)=e') eU._auto_1)
 (ir:autoParam (∀x,f (.str x)=e') eU._auto_1)
 (j5:autoParam (∀x,f (.bytes x)=e') eU._auto_1)
 (j6:autoParam (∀x,f (.bB x)=e') eU._auto_1)
 (iQ:autoParam (∀x,f (.cV x)=e') eU._auto_1)
 (iq:autoParam (∀x y z,f (.gc x y z)=e') nq._auto_1)
 (k3:autoParam (∀x,f (.ref x)=e') eU._auto_1)
 (ip:autoParam (∀x,f (.cb x)=e') eU._auto_1):P ax:=
 aQ.casesOn (motive_1:=λv ax _=>f v=some b->P ax) r (λe=>e0 (e.symm.trans iR)) (λx e=>e0 (e.symm.trans (il x))) (λx _ e=>e0 (e.symm.trans (jn x))) (λx _ e=>e0 (e.symm.trans (ir x))) (λx _ e=>e0 (e.symm.trans (j5 x))) (λr q=>x3 _ _ _ _ r q) (λ_ _ _ _ e=>e0 (e.symm.trans (j6 _))) (λ_ _ _ _ e=>e0 (e.symm.trans (iQ _))) (λ_ e=>e0 (e.symm.trans (iq _ _ _))) (λ_ e=>e0 (e.symm.trans (k3 _))) (λx e=>e0 (e.symm.trans (ip x))) e
theorem aQ.EI{W:ag}{n:Nat}{v:C}{ax:af}(r:aQ prog w W n v ax)(aI:C->Prop)(h:aI v)
 (Tc:autoParam (aI .none->False) agB._auto_1)
 (Ta:autoParam (∀x,aI (.int x)->False) kH._auto_1)
 (Tg:autoParam (∀x,aI (.str x)->False) kH._auto_1)
 (S9:autoParam (∀x,aI (.bytes x)->False) kH._auto_1)
 (Th:autoParam (∀x,aI (.bA x)->False) kH._auto_1)
 (Tb:autoParam (∀x,aI (.bB x)->False) kH._auto_1)
 (S':autoParam (∀x,aI (.cV x)->False) kH._auto_1)
 (Tf:autoParam (∀x y z,aI (.gc x y z)->False) vh._auto_1)
 (Te:autoParam (∀x,aI (.ref x)->False) kH._auto_1)
 (Td:autoParam (∀x,aI (.cb x)->False) kH._auto_1):∃b,ax=.bool b/\aI (.bool b):=
 aQ.casesOn (motive_1:=λv ax _=>aI v->∃b,ax=.bool b/\aI (.bool b)) r (λh=>(Tc h).elim) (λb h=>⟨b,rfl,h⟩) (λ_ _ h=>(Ta _ h).elim) (λ_ _ h=>(Tg _ h).elim) (λ_ _ h=>(S9 _ h).elim) (λ_ _ h=>(Th _ h).elim) (λ_ _ _ _ h=>(Tb _ h).elim) (λ_ _ _ _ h=>(S' _ h).elim) (λ_ h=>(Tf _ _ _ h).elim) (λ_ h=>(Te _ h).elim) (λ_ h=>(Td _ h).elim) h
end
end Internal
namespace Internal
open PySem PySem.W PyProof.Rows PySem.Calls
noncomputable def nc:Code->Bool
 |.builtin id _=> !x5.contains id
 |_=>true
noncomputable def Dx(l:List (Code×bz)):Prop:=∀x∈l,nc x.1=true
noncomputable def yw(du:Ctx):Prop:=nc du.code=true/\Dx du.below
noncomputable def wpN{α:Type}(M:iJ)(A:b8)(t:c8 α)(Q:α->aB->Prop)(E:af->aB->Prop)(s:aB):Prop:=
 ∀du p,du.In A->yw du->Sem.wp M du t (λa _ a8=>Q a a8) (λe _ a8=>E e a8) p s
noncomputable def fP(M:iJ)(A:b8)(c:Code)(R:jy->aB->Prop)(s:aB):Prop:=
 ∀du p,du.code=c->du.Below A->Dx du.below->wpCode M du R p s
section
variable{α b':Type}{M:iJ}{A:b8}{E:af->aB->Prop}{s:aB}
theorem wpN.of{t:c8 α}{Q:α->aB->Prop}(h:wpAny M A t Q E s):wpN M A t Q E s:=λdu p fS _=>h du p fS
theorem cS{a:α}{Q:α->aB->Prop}(h:Q a s):wpN M A (pure a) Q E s:=.of (bI h)
theorem cX{t:c8 α}{Q l3:α->aB->Prop}{IM:af->aB->Prop}(h:wpN M A t Q E s)(aW:∀a s,Q a s->l3 a s)(hE:∀e s,E e s->IM e s):wpN M A t l3 IM s:=
 λdu p fS az=>vE M du t (λa _ s=>aW a s) (λe _ s=>hE e s) p s (h du p fS az)
theorem bc{m:c8 α}{f:α->c8 b'}{Q:b'->aB->Prop}(h:wpN M A m (λa a8=>wpN M A (f a) Q E a8) E s):wpN M A (m>>=f) Q E s:=λdu p fS az=>by
 rw[Sem.wp_bind']
 exact vE M du m (λa jM a8 h'=>h' du jM fS az) (λ_ _ _ h'=>h') p s (h du p fS az)
theorem eK{vs:List af}{m:c8 α}{Q:α->aB->Prop}(h:wpN M A m Q E s):wpN M A (mE vs m) Q E s:=λdu p fS az=>by rw[Sem.wp_holding];exact h du p fS az
theorem afZ{vs:List af}{m:c8 α}{Q:α->aB->Prop}(h:wpN M A m Q E s):wpN M A (m.keep vs) Q E s:=λdu p fS az=>by rw[Sem.wp_keep];exact h du p fS az
theorem xZ{vs:List af}{m:c8 af}{Q:af->aB->Prop}(h:wpN M A m Q E s):wpN M A (operate vs m) Q E s:=λdu p fS az=>by rw[Sem.wp_operate];exact h du p fS az
theorem eP{pos:bz}{Q:Unit->aB->Prop}(h:Q () s):wpN M A (lW pos) Q E s:=.of (wpAny_standAt h)
theorem ry{m:c8 α}{k:af->c8 Unit}{Q:α->aB->Prop}(h:wpN M A m Q (λ_ _=>False) s):wpN M A (m.onRaise k) Q E s:=λdu p fS az=>by
 rw[Sem.wp_onRaise]
 exact vE M du m (λ_ _ _ h'=>h') (λe jM a8 h'=>h'.elim) p s (h du p fS az)
theorem afS{m:c8 α}{Q:Except af α->aB->Prop}(h:wpN M A m (λa=>Q (.ok a)) (λe=>Q (.error e)) s):wpN M A m.attempt Q E s:=λdu p fS az=>by
 rw[Sem.wp_attempt];exact h du p fS az
theorem yw.enter{du:Ctx}(h:yw du)(c:Code)(aD:Option af)(p:bz):Dx (du.enter c aD p).below:=λx ay=>by
 rcases fX.mp (show x∈(du.code,p)::du.below from ay) with rfl|ay
 .exact h.1
 .exact h.2 x ay
theorem PV{c:Code}{h:Option af}{Q:gJ->aB->Prop}
 (az:fP M (A.mark h) c (λr a8=>match r with|.ok f=>Q f a8|.error e=>E e a8) s)(z6:autoParam (h≠some byPass) agC._auto_1):wpN M A (run c h) Q E s:=
 λdu p fS lx=>by rw[Sem.wp_run];exact az _ p rfl (fS.enter c h p z6) (lx.enter c h p)
theorem af0{c:Code}{Q:af->aB->Prop}
 (az:fP M A c (λr a8=>match r with|.ok (.ret v)=>Q v a8|.ok _=>False|.error e=>E e a8) s):wpN M A (runValue c) Q E s:=
 λdu p fS lx=>by rw[Sem.wp_runValue];exact az _ p rfl (fS.enter c none p (by intro x;cases x)) (lx.enter c none p)
theorem A'{f:af}{pos:List af}{kw:List (aV×af)}{Q:af->aB->Prop}
 (az:fP M A (.call f ⟨pos,kw⟩) (λr a8=>match r with|.ok (.ret v)=>Q v a8|.ok _=>False|.error e=>E e a8) s):wpN M A (cF f pos kw) Q E s:=af0 az
theorem JU{c:Code}{R ed:jy->aB->Prop}(h:fP M A c R s)(hL:∀r s,R r s->ed r s):fP M A c ed s:=
 λdu p az fS lx=>wpCode_mono hL (h du p az fS lx)
theorem qQ{c:Code}{R:jy->aB->Prop}(ok:nc c=true)
 (h:wpN M (A.under c) (M.den c) (λcW a8=>match cW with|.done f=>R (.ok f) a8|.again cK=>cK.quiet=true/\fP M A cK R a8) (λe a8=>R (.error e) a8) s):fP M A c R s:=λdu p az fS lx=>by
 rw[wpCode_iff_wp,az]
 refine vE M du _ (λcW jM a8 h'=>?_) (λ_ _ _ h'=>h') p s (h du p (az▸fS.in) ⟨by rw[az];exact ok,lx⟩)
 induction cW with
 |done f=>exact h'
 |again cK=>exact⟨h'.1,h'.2 (du.goto cK) jM rfl (fS.goto cK) lx⟩
theorem Dz{c:Code}{R:jy->aB->Prop}(ok:nc c=true)(cn:c.quiet=true)(aO:Nat->aB->Prop)
 (turn:∀n s,aO n s->wpN M (A.under c) (M.den c)
   (λcW a8=>match cW with|.done f=>R (.ok f) a8|.again cK=>(cK=c/\∃m,m<n/\aO m a8)\/(cK.quiet=true/\fP M A cK R a8)) (λe a8=>R (.error e) a8) s)
 (n:Nat)(h:aO n s):fP M A c R s:=by
 induction n using Nat.strongRecOn generalizing s with
 |ind n a7=>
  refine qQ ok (cX (turn n s h) (λcW a8 hf=>?_) λ_ _ h'=>h')
  induction cW with
  |done f=>exact hf
  |again cK=>
   rcases hf with⟨rfl,m,hm,jH⟩|hf
   .exact⟨cn,a7 m hm jH⟩
   .exact hf
end
section
variable{M:iJ}{A:b8}{E:af->aB->Prop}{s:aB}{env:dc}
theorem afF{l op r pos}{Q:af->aB->Prop}
 (h:wpN M A (aR l env) (λa bw=>wpN M A (aR r env) (λb dk=>wpN M A (nC op a b) Q E dk) E bw) E s):wpN M A (aR (.BinOp l op r pos) env) Q E s:=by
 rw[eval_BinOp]
 exact bc (cX h (λa bw h₁=>bc (eK (cX h₁ (λb dk fh=>bc (eP (xZ fh))) λ_ _ x=>x))) λ_ _ x=>x)
theorem afH{l op r pos}{Q:af->aB->Prop}
 (h:wpN M A (aR l env) (λa bw=>wpN M A (aR r env) (λb dk=>wpN M A (hP op a b) Q E dk) E bw) E s)(hm:behindInMarks op r=false):wpN M A (aR (.Compare l [op] [r] pos) env) Q E s:=by
 rw[eval_Compare1,markedBehindIn_of_false hm]
 exact bc (cX h (λa bw h₁=>bc (eK (cX h₁ (λb dk fh=>bc (eP (xZ fh))) λ_ _ x=>x))) λ_ _ x=>x)
theorem afW{l op r pos gR}{Q:Bool->aB->Prop}
 (h:wpN M A (aR l env) (λa bw=>wpN M A (aR r env) (λb dk=>wpN M A (hP op a b) (λc gg=>wpN M A (truthy c) Q E gg) E dk) E bw) E s)
 (hm:behindInMarks op r=false):wpN M A (gT (.Compare l [op] [r] pos) env gR) Q E s:=by
 rw[isTrue_Compare1,markedBehindIn_of_false hm]
 exact bc (cX h (λa bw h₁=>bc (eK (cX h₁ (λb dk fh=>bc (eP (bc (xZ (cX fh (λc gg hY=>eK hY) λ_ _ x=>x))))) λ_ _ x=>x))) λ_ _ x=>x)
theorem afY{e:bX}{gR:c8 af}{Q:Bool->aB->Prop}(h:wpN M A gR (λv bw=>wpN M A (truthy v) Q E bw) E s)
 (cj:gT e env gR=(do let v<-gR;lW e.pos;mE [v] (truthy v))):wpN M A (gT e env gR) Q E s:=by
 rw[cj]
 exact bc (cX h (λv bw h₁=>bc (eP (eK h₁))) λ_ _ x=>x)
theorem afX{x:bX}{pos:bz}{gR:c8 af}{Q:Bool->aB->Prop}(h:wpN M A (gT x env (aR x env)) (λb bw=>Q (!b) bw) E s):wpN M A (gT (.UnaryOp .Not x pos) env gR) Q E s:=by
 rw[arm_isTrue_UnaryOp]
 exact bc (cX h (λb bw h₁=>cS h₁) λ_ _ x=>x)
theorem afV{op:BoolOp}{values:List bX}{pos:bz}{gR:c8 af}{Q:Bool->aB->Prop}(h:wpN M A (lU op values env) Q E s):wpN M A (gT (.BoolOp op values pos) env gR) Q E s:=by
 rw[arm_isTrue_BoolOp];exact h
theorem afQ{x:bX}{rest:List bX}{Q:Bool->aB->Prop}
 (h:wpN M A (gT x env (aR x env)) (λb bw=>if b=true then wpN M A (lU .And rest env) Q E bw else Q false bw) E s):wpN M A (lU .And (x::rest) env) Q E s:=by
 show wpN M A (do match BoolOp.And,<-gT x env (aR x env) with|.And,false=>pure false|.Or,true=>pure true|_,_=>lU .And rest env) Q E s
 refine bc (cX h (λb bw h₁=>?_) λ_ _ x=>x)
 cases b
 .exact cS h₁
 .exact h₁
theorem afR{x:bX}{rest:List bX}{Q:Bool->aB->Prop}
 (h:wpN M A (gT x env (aR x env)) (λb bw=>if b=true then Q true bw else wpN M A (lU .Or rest env) Q E bw) E s):wpN M A (lU .Or (x::rest) env) Q E s:=by
 show wpN M A (do match BoolOp.Or,<-gT x env (aR x env) with|.And,false=>pure false|.Or,true=>pure true|_,_=>lU .Or rest env) Q E s
 refine bc (cX h (λb bw h₁=>?_) λ_ _ x=>x)
 cases b
 .exact h₁
 .exact cS h₁
theorem afK{test body js:bX}{pos:bz}{Q:af->aB->Prop}
 (h:wpN M A (gT test env (aR test env)) (λb bw=>if b=true then wpN M A (aR body env) Q E bw else wpN M A (aR js env) Q E bw) E s):wpN M A (aR (.IfExp test body js pos) env) Q E s:=by
 rw[arm_eval_IfExp]
 refine bc (cX h (λb bw h₁=>?_) λ_ _ x=>x)
 cases b<;>exact h₁
theorem afO{op:UnaryOp}{x:bX}{pos:bz}{Q:af->aB->Prop}(h:wpN M A (aR x env) (λv bw=>wpN M A (unaryOp op v) Q E bw) E s):wpN M A (aR (.UnaryOp op x pos) env) Q E s:=by
 rw[arm_eval_UnaryOp]
 exact bc (cX h (λv bw h₁=>bc (eP (eK h₁))) λ_ _ x=>x)
theorem G5{x:c8 af}{rest:List (Bool×c8 af)}{Q:List af->aB->Prop}
 (h:wpN M A x (λv bw=>wpN M A (h6 rest) (λvs dk=>Q (v::vs) dk) E bw) E s):wpN M A (h6 ((false,x)::rest)) Q E s:=by
 rw[h6]
 refine bc (cX h (λv bw h₁=>?_) λ_ _ x=>x)
 rw[if_neg gI]
 exact bc (cS (bc (eK (cX h₁ (λvs dk fh=>cS fh) λ_ _ x=>x))))
theorem afN{sg:List bX}{k:Nat}{pos:bz}{Q:af->aB->Prop}
 (h:wpN M A (h6 (fb pos (d7 sg env))) (λvs bw=>wpN M A (newTuple vs) Q E bw) E s):wpN M A (aR (.Tuple sg k pos) env) Q E s:=by
 show wpN M A (do lW pos;newTuple (<-h6 (fb pos (d7 sg env)))) Q E s
 exact bc (eP (bc h))
theorem PQ{sg:List bX}{pos:bz}{Q:af->aB->Prop}
 (h:wpN M A (h6 (fb pos (d7 sg env))) (λvs bw=>wpN M A (newList vs) Q E bw) E s):wpN M A (aR (.List sg pos) env) Q E s:=by
 show wpN M A (do lW pos;newList (<-h6 (fb pos (d7 sg env)))) Q E s
 exact bc (eP (bc h))
theorem PR{value slice pos}{Q:af->aB->Prop}
 (h:wpN M A (aR value env) (λo bw=>wpN M A (aR slice env) (λi dk=>wpN M A (qt value slice o i) Q E dk) E bw) E s):wpN M A (aR (.Subscript value slice pos) env) Q E s:=by
 rw[eval_Subscript]
 exact bc (cX h (λo bw h₁=>bc (eK (cX h₁ (λi dk fh=>bc (eP fh)) λ_ _ x=>x))) λ_ _ x=>x)
theorem vf{f:af}{x:c8 af}{rest:List (Bool×c8 af)}{Q:Args->aB->Prop}
 (h:wpN M A (h6 ((false,x)::rest)) (λvs a8=>Q ⟨vs,[]⟩ a8) E s):wpN M A (qq f true ((false,x)::rest) []) Q E s:=by
 unfold qq
 show wpN M A (h6 ((false,x)::rest)>>=_) Q E s
 refine bc (cX h (λvs a8 h'=>?_) λ_ _ x=>x)
 refine eK ?_
 exact bc (cS (bc (cS (cS h'))))
theorem PT{f:af}{Q:Args->aB->Prop}(h:Q ⟨[],[]⟩ s):wpN M A (qq f true [] []) Q E s:=.of (PySem.evalArgs_none h)
theorem G6{t:c8 af}{Q:af->aB->Prop}(h:wpN M A t Q E s):wpN M A (t>>=λr=>mE [r] point>>=λ_=>pure r) Q E s:=
 bc (cX h (λr dk aL=>bc (eK (.of (wpAny_point (cS aL))))) λ_ _ x=>x)
theorem ve{pos:bz}{f:af}{first:List af}{args:List (Bool×c8 af)}{Q:af->aB->Prop}(hk:keeperOf f=pure .machine)(sG:args.any (·.1)=false)
 (h:wpN M A (qq f true args []) (λa bw=>wpN M A (cF f (first++a.pos) a.kw) Q E bw) E s):wpN M A (nD pos f first args []) Q E s:=by
 unfold nD
 refine bc (eK (cX h (λa bw h₁=>bc (eP ?_)) λ_ _ x=>x))
 rw[sG,hk]
 refine bc (cS ?_)
 exact G6 h₁
theorem PS{pos:bz}{a:a6}{o:bM}{fd:d3}{first:List af}{args:List (Bool×c8 af)}{Q:af->aB->Prop}(sG:args.any (·.1)=false)
 (h:wpN M A (qq (.ref a) true args []) (λx bw=>(bw.heap.get? a=some o/\o.data=.func fd)/\wpN M A (cF (.ref a) (first++x.pos) x.kw) Q E bw) E s):wpN M A (nD pos (.ref a) first args []) Q E s:=by
 unfold nD
 refine bc (eK (cX h (λx bw h₁=>bc (eP ?_)) λ_ _ x=>x))
 rw[sG]
 refine bc (m:=keeperOf (.ref a)) ?_
 unfold keeperOf
 refine bc (.of (tG h₁.1.1 ?_))
 rw[h₁.1.2]
 refine cS ?_
 show wpN M A (ite (args.length+2*0>30) _ _) Q E _
 by_cases q:args.length+2*0>30
 .rw[if_pos q];exact G6 h₁.2
 .rw[if_neg q];exact G6 (by unfold callMarked;exact afZ h₁.2)
end
noncomputable abbrev hZ:af->aB->Prop:=λ_ _=>False
section
variable{M:iJ}{A:b8}{E:af->aB->Prop}{s:aB}{env:dc}
theorem afU{st rest}{Q:gJ->aB->Prop}
 (h:wpN M A (hg st env) (λf a8=>match f with|.next=>wpN M A (dr rest env) Q E a8|f=>Q f a8) E s):wpN M A (dr (st::rest) env) Q E s:=λdu p fS az=>by
 rw[execs_cons,Sem.wp_bind']
 refine vE M du _ (λf jM a8 h'=>?_) (λ_ _ _ h'=>h') _ _ (h du p fS az)
 cases f<;>first|exact h' du jM fS az|exact h'
theorem afL{e pos}{Q:gJ->aB->Prop}(h:wpN M A (aR e env) (λv=>Q (.ret v)) E s):wpN M A (hg (.Return (some e) pos) env) Q E s:=by
 rw[exec_Return_some]
 exact bc (eP (bc (cX h (λv a8 h'=>cS h') λ_ _ x=>x)))
theorem afJ{test body js pos}{Q:gJ->aB->Prop}
 (h:wpN M A (gT test env (aR test env)) (λb dk=>if b=true then wpN M A (dr body env) Q E dk else wpN M A (dr js env) Q E dk) E s):wpN M A (hg (.If test body js pos) env) Q E s:=by
 rw[exec_If]
 refine bc (eP (bc (cX h (λb dk fh=>?_) λ_ _ x=>x)))
 cases b<;>exact fh
theorem afE{x iC op value pos}{Q:gJ->aB->Prop}
 (h:wpN M A (loadName env x) (λold bw=>wpN M A (aR value env) (λv dk=>wpN M A (inplaceOp op old v) (λr gg=>wpN M A (bindName env x r) (λ_=>Q .next) E gg) E dk) E bw) E s):
 wpN M A (hg (.AugAssign (.Name x iC) op value pos) env) Q E s:=by
 rw[exec_AugAssign_Name]
 exact bc (eP (bc (cX h (λold bw h₁=>bc (eK (cX h₁ (λv dk fh=>bc (eP (bc (xZ (cX fh (λr gg hY=>
  bc (eP (bc (cX hY (λ_ rt sN=>cS sN) λ_ _ x=>x)))) λ_ _ x=>x))))) λ_ _ x=>x))) λ_ _ x=>x)))
theorem afC{x iC value pos}{Q:gJ->aB->Prop}
 (h:wpN M A (aR value env) (λv bw=>wpN M A (bindName env x v) (λ_=>Q .next) E bw) E s)
 (hs:autoParam (qu value (some (.Name x iC)) pos.line env=pure false) aN._auto_1):wpN M A (hg (.Assign [.Name x iC] value pos) env) Q E s:=by
 rw[exec_Assign_Name env x iC value pos hs]
 exact bc (eP (bc (cX h (λv bw h₁=>bc (eP (bc (cX h₁ (λ_ dk fh=>cS fh) λ_ _ x=>x)))) λ_ _ x=>x)))
theorem afD{xR:List bX}{value:bX}{pos:bz}{Q:gJ->aB->Prop}
 (h:wpN M A (aR value env) (λv bw=>wpN M A (assignAll v ((nA xR env).map (·.2))) (λ_=>Q .next) E bw) E s)
 (hs:swapsWithSole xR value pos.line env=pure false)(hw:swappedStores xR value env=pure none):wpN M A (hg (.Assign xR value pos) env) Q E s:=by
 rw[exec_Assign_arm]
 refine bc (eP ?_)
 rw[hs]
 refine bc (cS ?_)
 rw[if_neg (by decide)]
 refine bc (cX h (λv bw h₁=>?_) λ_ _ x=>x)
 rw[hw]
 refine bc (cS ?_)
 show wpN M A (do assignAll v ((nA xR env).map (·.2));pure .next) Q E bw
 exact bc (cX h₁ (λ_ _ x=>cS x) λ_ _ x=>x)
theorem PW{c:Code}{Q:gJ->aB->Prop}
 (az:fP M A c (λr a8=>match r with|.ok f=>Q f a8|.error _=>False) s):wpN M A (runOwn c env) Q E s:=by
 unfold runOwn
 refine ry (PV (h:=none) ?_)
 exact JU az λr a8 h=>by cases r<;>exact h
theorem afP{test body js pos}{Q:gJ->aB->Prop}
 (h:fP M A (.whileLoop test body js env) (λr a8=>match r with|.ok f=>Q f a8|.error _=>False) s):wpN M A (hg (.While test body js pos) env) Q E s:=by
 rw[exec_While];exact bc (eP (PW h))
theorem PO{target iter body js pos}{Q:gJ->aB->Prop}
 (h:wpN M A (aR iter env) (λx bw=>wpN M A (pyIter x) (λit dk=>fP M A (.forLoop target it body js env) (λr a8=>match r with|.ok f=>Q f a8|.error _=>False) dk) E bw) E s)
 (hs:∀x,tC iter env x=pure x):wpN M A (hg (.For target iter body js pos) env) Q E s:=by
 rw[exec_For]
 refine bc (eP (bc (cX h (λx bw h₁=>?_) λ_ _ h'=>h')))
 rw[hs x]
 exact bc (cS (bc (eP (bc (eK (cX h₁ (λit dk fh=>PW fh) λ_ _ h'=>h'))))))
end
section
variable{prog:cD}{w:cm}{A:b8}{E:af->aB->Prop}{s:aB}{R:jy->aB->Prop}
theorem SX{test body js env}(aO:Nat->aB->Prop)
 (turn:∀n s,aO n s->wpN (bp prog w) A (gT test env (aR test env)) (λb dk=>
   if b=true then wpN (bp prog w) A (dr body env) (λf gg=>match f with
       |.next|.cont=>∃m,m<n/\aO m gg
       |.brk=>R (.ok .next) gg
       |.ret v=>R (.ok (.ret v)) gg) hZ dk
   else wpN (bp prog w) A (dr js env) (λf gg=>R (.ok f) gg) hZ dk) hZ s)
 (n:Nat)(h:aO n s):fP (bp prog w) A (.whileLoop test body js env) R s:=by
 refine Dz rfl rfl aO (λn s jH=>?_) n h
 show wpN _ A ((whileTurn test body js env).onRaise (λx=>do noteFrame x env;BY x)) _ _ s
 refine ry ?_
 unfold whileTurn
 refine bc (cX (turn n s jH) (λb dk fh=>?_) λ_ _ h'=>h')
 induction b with
 |true=>
  refine bc (cX fh (λf gg hY=>?_) λ_ _ h'=>h')
  induction f with
  |next=>exact cS (.inl ⟨rfl,hY⟩)
  |cont=>exact cS (.inl ⟨rfl,hY⟩)
  |brk=>exact cS hY
  |ret v=>exact cS hY
 |false=>
  exact bc (cX fh (λf gg hY=>cS hY) λ_ _ h'=>h')
theorem SQ{stmts:List dG}{env:dc}(h:wpN (bp prog w) A (dr stmts env) (λf a8=>R (.ok f) a8) hZ s):fP (bp prog w) A (.block stmts env) R s:=by
 refine qQ rfl ?_
 show wpN _ _ (do return Fin.done (<-(dr stmts env).onRaise (λx=>do noteFrame x env;BY x))) _ _ s
 exact bc (ry (cX h (λf a8 h'=>cS h') λ_ _ h'=>h'))
theorem JS{target it body js env}(aO:Nat->aB->Prop)
 (turn:∀n s,aO n s->wpN (bp prog w) A (pyNext it) (λr bw=>match r with
   |none=>wpN (bp prog w) A (dr js env) (λf gg=>R (.ok f) gg) hZ bw
   |some v=>wpN (bp prog w) A (letOwnedTupleGo target it v) (λ_ xP=>
     wpN (bp prog w) A (ot target env v) (λ_ dk=>wpN (bp prog w) A (dr body env) (λf gg=>match f with
      |.next|.cont=>∃m,m<n/\aO m gg
      |.brk=>R (.ok .next) gg
      |.ret v=>R (.ok (.ret v)) gg) hZ dk) hZ xP) hZ bw) hZ s)
 (n:Nat)(h:aO n s):fP (bp prog w) A (.forLoop target it body js env) R s:=by
 refine Dz rfl rfl aO (λn s jH=>?_) n h
 show wpN _ A ((forTurn target it body js env).onRaise (λx=>do noteFrame x env;BY x)) _ _ s
 refine ry ?_
 unfold forTurn
 refine bc (eP (bc (ry (cX (turn n s jH) (λr bw h₁=>?_) λ_ _ h'=>h'))))
 induction r with
 |none=>exact cS (.inr ⟨rfl,SQ h₁⟩)
 |some v=>
  refine bc (cX h₁ (λ_ xP Fq=>?_) λ_ _ h'=>h')
  refine bc (cX Fq (λ_ dk fh=>bc (cX fh (λf gg hY=>?_) λ_ _ h'=>h')) λ_ _ h'=>h')
  induction f with
  |next=>exact cS (.inl ⟨rfl,hY⟩)
  |cont=>exact cS (.inl ⟨rfl,hY⟩)
  |brk=>exact cS hY
  |ret v=>exact cS hY
theorem JT{body env}(h:wpN (bp prog w) (A.deeper env) (dr body env) (λf a8=>R (.ok (.ret (match f with|.ret v=>v|_=>.none))) a8) hZ s):fP (bp prog w) A (.func body env) R s:=by
 refine qQ rfl ?_
 show wpN _ (A.deeper env) (do point;match<-(dr body env).onRaise (leaving env) with|.ret v=>ret v|_=>ret .none) _ _ s
 refine bc (.of (wpAny_point ?_))
 refine bc (ry (cX h (λf a8 h'=>?_) λ_ _ h'=>h'))
 cases f<;>exact cS h'
theorem JR{a:a6}{args:Args}{o:bM}{fd:d3}{body:List dG}(sI:A.depth<yp)(aK:s.heap.get? a=some o)
 (e8:o.data=.func fd)(nW:fd.scope.isCoroutine=false)(nX:fd.scope.isGenerator=false)(nU:fd.body=.stmts body)(kU:s.heap.CodeRec fd.code fd.qualname)
 (h:wpN (bp prog w) A.in1 (tA fd args) (λbinds bw=>
   wpN (bp prog w) A.in1 (newFunctionEnv fd.scope fd.globals fd.closure binds (fd.qualname++".<locals>.") (some a) fd.code none fd.builtins)
    (λenv dk=>dk.heap.NoLimit/\fP (bp prog w) A (.func body env) R dk) hZ bw) hZ s):
 fP (bp prog w) A (.call (.ref a) args) R s:=by
 refine qQ rfl ?_
 show wpN _ A.in1 (callAny (.ref a) args) _ _ s
 unfold callAny
 refine bc (.of (tG aK ?_))
 obtain⟨c,oc,vs,ag0,az,E9,wN,cn⟩:=kU
 rw[e8]
 show wpN _ A.in1 (callFunction _ _ _) _ _ _
 unfold callFunction
 rw[nW,nX,nU,az]
 rw[az] at h
 refine bc (m:=field (.ref c) 1) (.of (qy E9 wN cn ?_))
 refine bc (cS ?_)
 exact bc (cX h (λbinds bw h₁=>bc (cX h₁ (λenv dk fh=>bc (.of (wpAny_enterFrame fh.1 sI
  (cS (And.intro rfl fh.2))))) λ_ _ h'=>h'.elim)) λ_ _ h'=>h'.elim)
theorem SU{a:a6}{o:bM}{fd:d3}{body:List dG}{args:Args}{binds:List (aV×af)}
 (sI:A.depth<yp)(aK:s.heap.get? a=some o)(EP:o.data=.func fd)(wU:s.heap.NoLimit)(kU:s.heap.CodeRec fd.code fd.qualname)
 (nU:fd.body=.stmts body)(pH:tA fd args=pure binds)
 (nV:∀x∈fd.scope.names,x.2≠.cell)(pM:∀x∈binds,fd.scope.names.lookup x.1=some .local)
 (h:∀h₀,h₀.Ns s.heap.objs.size (λx=>binds.reverse.lookup x)->(∀b o,s.heap.get? b=some o->h₀.get? b=some o)->
   wpN (bp prog w) (A.deeper (c9 fd s.heap.objs.size a)) (dr body (c9 fd s.heap.objs.size a)) (λf a8=>R (.ok (.ret (match f with|.ret v=>v|_=>.none))) a8) hZ
    {s with heap:=h₀,toks:=s.toks+binds.length})
 (nW:fd.scope.isCoroutine=false)(nX:fd.scope.isGenerator=false)(hk:fd.scope.kind=.function):fP (bp prog w) A (.call (.ref a) args) R s:=by
 refine JR sI aK EP nW nX nU kU ?_
 rw[pH]
 refine cS (.of (wpAny_newFunctionEnv nV pM (λh₀ WW Mh=>⟨wU.fresh _ Mh,JT (h h₀ WW λb o e=>?_)⟩) hk))
 exact Mh.extBut b o (eL (ka e)) (jR _ e)
theorem SS{a:a6}{o:bM}{fd:d3}{body:List dG}{qb:List af}{binds:List (aV×af)}
 (sI:A.depth<yp)(aK:s.heap.get? a=some o)(EP:o.data=.func fd)(wU:s.heap.NoLimit)(kU:s.heap.CodeRec fd.code fd.qualname)
 (nU:fd.body=.stmts body)(pH:tA fd ⟨qb,[]⟩=pure binds)(sv:fd.closure=[])
 (j1:∀x∈binds,fd.scope.names.lookup x.1=some .local\/(fd.scope.names.lookup x.1=some .cell/\((cellsFrom (s.heap.objs.size+1) fd.scope.names []).lookup x.1).isSome=true))
 (h:∀bw,InCallC s (jA fd s.heap.objs.size a).locals (bindL (jA fd s.heap.objs.size a).kindOf binds λ_=>none) (jA fd s.heap.objs.size a).cells
    (bindC (jA fd s.heap.objs.size a).kindOf binds λ_=>none) bw->
   wpN (bp prog w) (A.deeper (jA fd s.heap.objs.size a)) (dr body (jA fd s.heap.objs.size a)) (λf a8=>R (.ok (.ret (match f with|.ret v=>v|_=>.none))) a8) hZ bw)
 (nW:fd.scope.isCoroutine=false)(nX:fd.scope.isGenerator=false)(hk:fd.scope.kind=.function):fP (bp prog w) A (.call (.ref a) ⟨qb,[]⟩) R s:=by
 refine JR sI aK EP nW nX nU kU ?_
 rw[pH,sv]
 refine cS (.of (wpAny_newFunctionEnv_cells hk j1 λenv cj a8 x=>?_))
 subst cj
 exact⟨wU.keeps x.toInCall.keep,JT (h a8 x)⟩
theorem SW{ej target iter hq rest scope pos it acc env}
 (ao:fP (bp prog w) A (.compLoop (.ListComp ej (⟨target,iter,hq,0⟩::rest) scope pos) 0 it acc env) R s)
 (h:wpN (bp prog w) A (pyIter it) (λMt a8=>fP (bp prog w) A (.compLoop (.ListComp ej (⟨target,iter,hq,0⟩::rest) scope pos) 0 Mt acc env) R a8) hZ s):
 fP (bp prog w) A (.compStart (.ListComp ej (⟨target,iter,hq,0⟩::rest) scope pos) 0 it acc env) R s:=by
 refine qQ rfl ?_
 show wpN _ _ ((compStart (.ListComp ej (⟨target,iter,hq,0⟩::rest) scope pos) 0 it acc env).onRaise (λx=>do noteFrame x env;lW theWindowsPlace)) _ _ s
 refine ry ?_
 unfold compStart
 show wpN _ _ (ask>>=_) _ _ s
 refine bc (.of (wpAny_askSetting ?_))
 split
 .first
   |exact bc (cS (cS (And.intro rfl ao)))
   |exact cS (And.intro rfl ao)
 .refine bc (.of (mF ?_))
  show wpN _ _ (lW iter.pos>>=_) _ _ s
  exact bc (eP (bc (cX h (λMt a8 h'=>cS (And.intro rfl h')) λ_ _ x=>x)))
end
section
variable{prog:cD}{w:cm}{A:b8}{E:af->aB->Prop}{s:aB}{env:dc}
theorem PN{o:bX}{name:aV}{i0 pos:bz}{args:List bX}{xU:List (Bool×c8 af)}{Q:af->aB->Prop}
 (pG:yo o name env (aR o env)=aR o env)
 (sC:((fb pos (d7 args env)).all (λx=> !x.1)&&(nB pos (nE [] env)).all (λx=>x.1.isSome)
   &&decide (args.length+([]:List o5).length+(if([]:List o5).isEmpty then 0 else 1)<30))=true)
 (pL:(i0.endLine==pos.line)=true)(Fm:fb pos (d7 args env)=xU)
 (h:wpN (bp prog w) A (aR o env) (λj9 bw=>∃T id,PlainAttrs T/\vD T name id/\typeOf (.builtin id)=pure (.type "method_descriptor")/\bw.TypeIs j9 T/\(∀a,j9=.ref a->∃ob,bw.heap.get? a=some ob/\ob.dict=none)/\
   wpN (bp prog w) A (nD pos (.builtin id) [j9] xU []) Q E bw) E s):
 wpN (bp prog w) A (aR (.Call (.Attribute o name i0) args [] pos) env) Q E s:=by
 subst Fm
 rw[arm_eval_Call,pG]
 refine bc (cX h (λj9 bw h₁=>?_) λ_ _ e=>e)
 obtain⟨T,id,Gw,slot,Fn,hT,aD,az⟩:=h₁
 refine bc (eP ?_)
 have EZ:methodCallForm (args.length+([]:List o5).length) (fb pos (d7 args env)) (nB pos (nE [] env))=true:=sC
 have Fd:methodCallPos true o env i0 pos=pure pos:=by unfold methodCallPos;simp[pL]
 unfold methodCall
 rw[EZ]
 refine bc (eK (.of (getMethod_builtin hT Gw slot Fn aD ?_)))
 dsimp only
 rw[Fd]
 exact bc (cS az)
noncomputable def zv(M:iJ)(A:b8)(use:Option (af->c8 Unit))(Q:af->aB->Prop)(acc:af)(aC:a6)(r:jy)(a8:aB):Prop:=
 match r,use with
 |.ok _,none=>∃m,a8.heap.Ns aC m/\∀h',iF aC a8.heap h'->Q acc {a8 with heap:=h'}
 |.ok _,some u=>wpN M A (u acc) (λ_ p6=>∃m,p6.heap.Ns aC m/\∀h',iF aC p6.heap h'->Q .none {p6 with heap:=h'}) hZ a8
 |.error _,_=>False
theorem G4{M:iJ}{e:bX}{scope:eI}{pos:bz}{Nq first:c8 af}{g:Comprehension}{VV:List Comprehension}{fe:List (aV×a6)}{use:Option (af->c8 Unit)}
 {Q:af->aB->Prop}(lx:clausesOf e=g::VV)(hs:∀x,tC g.iter env x=pure x)(sx:closureFor scope env=pure fe)
 (j1:scope.kind=.function)(nZ:∀x∈scope.names,x.2=.local->scope.names.lookup x.1=some .local)
 (h:wpN M A first (λx bw=>wpN M A (pyIter x) (λit dk=>wpN M A Nq (λacc gg=>
   wpN M A (newFunctionEnv scope env.globals fe [] env.qual none .none (some env)) (λcenv rt=>
    fP M A (.compStart e 0 it acc {cenv with scope:=relabel scope env}) (zv M A use Q acc cenv.locals) rt) E gg) E dk) E bw) E s):
 wpN M A (comprehension e scope env pos Nq false first use) Q E s:=by
 unfold comprehension
 rw[sx,lx]
 refine bc (cX h (λx bw h₁=>bc (eP ?_)) λ_ _ h'=>h')
 dsimp only
 rw[hs x]
 refine bc (cS (bc (eK (cX h₁ (λit dk fh=>?_) λ_ _ h'=>h'))))
 have aeW:∀{α:Type} {c:Prop} [Decidable c] {pos:bz} {k:PUnit->c8 α} {Q:α->aB->Prop} {s:aB},wpN M A (k ()) Q E s->wpN M A (if c then(lW pos>>=k) else k ()) Q E s:=λh=>by
  split
  .exact bc (eP h)
  .exact h
 refine aeW (bc (cX fh (λacc gg hY=>bc (cS (bc (cX hY (λcenv rt sN=>?_) λ_ _ h'=>h')))) λ_ _ h'=>h'))
 have a':∀x∈(scope.names.filter λx=>(x.2==.local||x.2==.cell)&&x.1!=(".0":aV)).reverse,x.2=.local->
  Env.kindOf {cenv with scope:=relabel scope env} x.1=some .local:=λx ay aJ=>lookup_relabel_local (nZ x (h5.mp (List.mem_reverse.mp ay)).1 aJ)
 have mj:∀x∈(scope.names.filter λx=>(x.2==.local||x.2==.cell)&&x.1!=(".0":aV)).reverse.drop 1++(scope.names.filter λx=>(x.2==.local||x.2==.cell)&&x.1!=(".0":aV)).reverse.take 1,
  x.2=.local->Env.kindOf {cenv with scope:=relabel scope env} x.1=some .local:=λx ay aJ=>by
  rcases iV.mp ay with h1|h1
  .exact a' x (List.mem_of_mem_drop h1) aJ
  .exact a' x (List.mem_of_mem_take h1) aJ
 refine eK (bc (afS (eK (PV (JU sN λr a8 aL=>?_)))))
 induction r with
 |ok f=>
  induction use with
  |none=>
   obtain⟨m,a3,aL⟩:=aL
   exact bc (eK (.of (wpAny_comp_letGo (cenv:={cenv with scope:=relabel scope env}) j1 _ a8 m a' a3 λh' YD _ jJ=>cS (aL h' jJ))))
  |some u=>
   refine bc (.of (mF (bc (eK (cX aL (λ_ p6 Fe=>?_) λ_ _ h'=>h'.elim)))))
   obtain⟨m,a3,Fe⟩:=Fe
   exact bc (.of (wpAny_comp_letGo (cenv:={cenv with scope:=relabel scope env}) j1 _ p6 m mj a3 λh' YD _ jJ=>cS (Fe h' jJ)))
 |error x=>exact aL.elim
end
theorem jK{α:Type}{M:iJ}{A:b8}{Q:α->aB->Prop}{E:af->aB->Prop}{s:aB}{p:Prop}{d:Decidable p}{a b:c8 α}(h:¬p)(k:wpAny M A b Q E s):wpAny M A (if p then a else b) Q E s:=(if_neg h:(if p then a else b)=b).symm▸k
theorem j2{α:Type}{M:iJ}{A:b8}{Q:α->aB->Prop}{E:af->aB->Prop}{s:aB}{p:Prop}{d:Decidable p}{a b:c8 α}(h:p)(k:wpAny M A a Q E s):wpAny M A (if p then a else b) Q E s:=(if_pos h:(if p then a else b)=a).symm▸k
theorem ml{α:Type}{M:iJ}{A:b8}{Q:α->aB->Prop}{E:af->aB->Prop}{s:aB}{p:Prop}{d:Decidable p}{a b:c8 α}(h:¬p)(k:wpN M A b Q E s):wpN M A (if p then a else b) Q E s:=(if_neg h:(if p then a else b)=b).symm▸k
theorem uy{α:Type}{M:iJ}{A:b8}{Q:α->aB->Prop}{E:af->aB->Prop}{s:aB}{p:Prop}{d:Decidable p}{a b:c8 α}(h:p)(k:wpN M A a Q E s):wpN M A (if p then a else b) Q E s:=(if_pos h:(if p then a else b)=a).symm▸k
end Internal
namespace Internal
open PySem PySem.W PyProof.Rows
noncomputable abbrev Loc:=List (Option C)
noncomputable abbrev cy:=Loc->St->Option (C×St)
noncomputable abbrev gj:=Loc->St->Option (Bool×St)
inductive dp where
 |next|brk|cont
 |ret (v:C)
noncomputable abbrev ck:=Loc->St->Option (dp×Loc×St)
noncomputable abbrev b4:=List C->St->Option (C×St)
structure fA (A:b8) (k:Nat):Prop where
 h:A.handled=.none
 d:A.depth+8*k+8<1000
 u:A.units+64*k+200<9900
 g:A.guards=some []
theorem fA.MN{A:b8}{k:Nat}(R:fA A k):A.depth<yp:=by have:=R.d;show A.depth<1000;exact aE.abW this
noncomputable def Slot(env:dc)(h:a9)(m:aV->Option af)(x:aV)(ax:af):Prop:=
 (env.kindOf x=some .local/\m x=some ax)\/((env.kindOf x=some .cell\/env.kindOf x=some .free)/\∃c,env.cells.lookup x=some c/\h.IsCell c (some ax))
variable(prog:cD)(w:cm)(h₁:a9)
structure bT (own:Bool) (env:dc) (ns:List aV) (W:ag) (aa:Loc) (σ:St) (h:a9):Prop where
 bW:bL prog w h₁ W σ h
 l:W.role env.locals=.aa
 cells:∀x c,env.cells.lookup x=some c->(own=true/\W.role c=.aa/\c≠env.locals)\/(own=false/\∃o,W.role c=.fix o)
 apart:∀x y c,env.cells.lookup x=some c->env.cells.lookup y=some c->x=y
 pj:∀x c,env.cells.lookup x=some c->∃ni,h.IsCell c ni
 aa:∃m,h.Ns env.locals m/\∀(i:Nat) v,aa[i]? =some (some v)->∃x ax,ns[i]? =some x/\aQ prog w W σ.next v ax/\Slot env h m x ax
noncomputable def OpOk(k:Nat)(t:List af->c8 af)(F:b4):Prop:=
 ∀(A:b8) (W:ag) (σ:St) args v a4 e5 (s:aB) (Q E:af->aB->Prop),fA A k->F args σ=some (v,a4)->bL prog w h₁ W σ s.heap->bH prog w W σ.next args e5->
  (∀W' ax h' c6,W.le σ.next W'->σ.next<=a4.next->bL prog w h₁ W' a4 h'->aQ prog w W' a4.next v ax->Q ax {s with heap:=h',toks:=c6})->
  wpN (bp prog w) A (t e5) Q E s
noncomputable def TOk{α b':Type}(jC:ag->Nat->b'->α->Prop)(own:Bool)(env:dc)(ns:List aV)(k:Nat)(t:c8 α)(D:Loc->St->Option (b'×St)):Prop:=
 ∀(A:b8) (W:ag) (aa:Loc) (σ:St) v a4 (s:aB) (Q:α->aB->Prop) (E:af->aB->Prop),fA A k->D aa σ=some (v,a4)->bT prog w h₁ own env ns W aa σ s.heap->
  (∀W' ax h' c6,W.le σ.next W'->σ.next<=a4.next->bT prog w h₁ own env ns W' aa a4 h'->jC W' a4.next v ax->Q ax {s with heap:=h',toks:=c6})->
  wpN (bp prog w) A t Q E s
noncomputable abbrev bx:=@TOk prog w h₁ af C (aQ prog w)
noncomputable abbrev BOk:=@TOk prog w h₁ Bool Bool λ_ _ b a=>b=a
noncomputable abbrev nF:=@TOk prog w h₁ (List af) (List C) (bH prog w)
noncomputable def mM(W:ag)(n:Nat):dp->gJ->Prop
 |.next,.next=>True
 |.brk,.brk=>True
 |.cont,.cont=>True
 |.ret v,.ret ax=>aQ prog w W n v ax
 |_,_=>False
noncomputable def SOk(env:dc)(ns:List aV)(k:Nat)(t:c8 gJ)(D:ck):Prop:=
 ∀(A:b8) (W:ag) (aa:Loc) (σ:St) f mm a4 (s:aB) (Q:gJ->aB->Prop) (E:af->aB->Prop),fA A k->D aa σ=some (f,mm,a4)->bT prog w h₁ true env ns W aa σ s.heap->
  (∀W' ig h' c6,W.le σ.next W'->σ.next<=a4.next->bT prog w h₁ true env ns W' mm a4 h'->mM prog w W' a4.next f ig->Q ig {s with heap:=h',toks:=c6})->
  wpN (bp prog w) A t Q E s
variable{prog w h₁}
noncomputable def ag.gr(W:ag)(h:a9):ag:={W with role:=λa=>match W.role a with|.aa=>(match h.get? a with|some o=>.fix o|none=>.aa)|r=>r}
noncomputable def ag.cc(W W':ag):ag:={W' with role:=λa=>match W.role a with|.aa=>.aa|_=>(match W'.role a with|.aa=>.free|r=>r)}
theorem bL.gr{W:ag}{σ:St}{h:a9}(R:bL prog w h₁ W σ h):bL prog w h₁ (W.gr h) σ h/\W.fL σ.next (W.gr h):=by
 refine R.u3 rfl λa=>?_
 show(match W.role a with|.aa=>(match h.get? a with|some o=>bS.fix o|none=>bS.aa)|r=>r)=_\/_
 cases e:W.role a with
 |aa=>
  obtain⟨o,aK⟩:=R.live a (by rw[e];exactλq=>nomatch q)
  refine .inr ⟨.inl rfl,.inr (.inr ⟨o,?_,aK⟩)⟩
  simp[ag.gr,e,aK]
 |_=>exact .inl rfl
theorem bL.Me{W:ag}{σ:St}{h:a9}(R:bL prog w h₁ W σ h){a:a6}(e:W.role a=.aa):∃o,h.get? a=some o/\(W.gr h).role a=.fix o:=by
 obtain⟨o,aK⟩:=R.live a (by rw[e];exactλq=>nomatch q)
 exact⟨o,aK,by simp[ag.gr,e,aK]⟩
theorem bL.cc{W W':ag}{σ a4:St}{h h':a9}(R:bL prog w h₁ W σ h)(l:(W.gr h).le σ.next W')(ed:bL prog w h₁ W' a4 h'):
 bL prog w h₁ (W.cc W') a4 h'/\W.le σ.next (W.cc W')/\W'.fL a4.next (W.cc W')/\∀a,W.role a=.aa->h'.get? a=h.get? a:=by
 have key:∀a,W.role a=.aa->∃o,h.get? a=some o/\W'.role a=.fix o:=λa e=>by
  obtain⟨o,aK,r⟩:=R.Me e
  exact⟨o,aK,l.2.1 a o r⟩
 have K:=ed.u3 (W':=W.cc W') rfl λa=>by
  cases e:W.role a with
  |aa=>
   obtain⟨o,_,r⟩:=key a e
   exact .inr ⟨.inr ⟨o,r⟩,.inr (.inl (by simp[ag.cc,e]))⟩
  |_=>
   cases dw:W'.role a with
   |aa=>exact .inr ⟨.inl rfl,.inl (by simp[ag.cc,e,dw])⟩
   |_=>exact .inl (by simp[ag.cc,e,dw])
 refine⟨K.1,⟨⟨λa o e=>?_,λc az=>l.1.2 c az⟩,λa o e=>?_,λa e=>by simp[ag.cc,e]⟩,K.2,λa e=>?_⟩
 .have:=l.1.1 a o (by simp[ag.gr,e])
  simp[ag.cc,e,this]
 .have:=l.2.1 a o (by simp[ag.gr,e])
  simp[ag.cc,e,this]
 .obtain⟨o,aK,r⟩:=key a e
  rw[aK];exact ed.fix a o r
variable{own:Bool}{env:dc}{ns:List aV}{k:Nat}
theorem bT.next{W W':ag}{aa:Loc}{σ a4:St}{h h':a9}(R:bT prog w h₁ own env ns W aa σ h)(ed:bL prog w h₁ W' a4 h')(l:W.le σ.next W')(a3:σ.next<=a4.next)
 (e:∀a,W.role a=.aa->h'.get? a=h.get? a):bT prog w h₁ own env ns W' aa a4 h':=by
 have same:∀x c o,env.cells.lookup x=some c->h.get? c=some o->h'.get? c=some o:=λx c o az aK=>by
  rcases R.cells x c az with⟨_,r,_⟩|⟨_,c',r⟩
  .exact(e c r).trans aK
  .have h1:=R.bW.fix c c' r
   rw[aK] at h1;cases h1
   exact ed.fix c o (l.2.1 _ _ r)
 refine⟨ed,l.2.2 _ R.l,λx c az=>(R.cells x c az).imp (λq=>⟨q.1,l.2.2 _ q.2.1,q.2.2⟩) λ⟨q,o,r⟩=>⟨q,o,l.2.1 _ _ r⟩,R.apart,λx c az=>?_,?_⟩
 .obtain⟨ni,o,aK,aD⟩:=R.pj x c az
  exact⟨ni,o,same x c o az aK,aD⟩
 obtain⟨m,hm,f⟩:=R.aa
 refine⟨m,hm.at' λo aK=>(e _ R.l).trans aK,λi v a'=>?_⟩
 obtain⟨x,ax,ay,aL,hs⟩:=f i v a'
 exact⟨x,ax,ay,aL.bb l.1 a3,hs.imp id λ⟨q,c,az,o,aK,aD⟩=>⟨q,c,az,o,same x c o az aK,aD⟩⟩
theorem bT.op{A:b8}{W:ag}{aa:Loc}{σ a4:St}{s:aB}{t:List af->c8 af}{F:b4}{args:List C}{e5:List af}{v:C}{Q E:af->aB->Prop}
 (h8:OpOk prog w h₁ k t F)(aH:fA A k)(a5:F args σ=some (v,a4))(R:bT prog w h₁ own env ns W aa σ s.heap)(ha:bH prog w W σ.next args e5)
 (aW:∀W' ax h' c6,W.le σ.next W'->σ.next<=a4.next->bT prog w h₁ own env ns W' aa a4 h'->aQ prog w W' a4.next v ax->Q ax {s with heap:=h',toks:=c6}):
 wpN (bp prog w) A (t e5) Q E s:=by
 obtain⟨aI,j4⟩:=R.bW.gr
 refine h8 A (W.gr s.heap) σ args v a4 e5 s Q E aH a5 aI (ha.bb j4 (bF _)) λW' ax h' c6 l a3 ed a'=>?_
 obtain⟨B,bh,Yg,e⟩:=R.bW.cc l ed
 exact aW _ ax h' c6 bh a3 (R.next B bh a3 e) (a'.bb Yg (bF _))
noncomputable def aM{α b':Type}(m:Option (α×b'))(aC:α->b'->Prop):Prop:=match m with
 |some (a,b)=>aC a b
 |none=>False
theorem aM.of{α b':Type}{m:Option (α×b')}{aC:α->b'->Prop}{a:α}{b:b'}(e:m=some (a,b))(h:aC a b):aM m aC:=e▸h
theorem aM.imp{α b':Type}{m:Option (α×b')}{aC Ip:α->b'->Prop}(h:aM m aC)(f:∀a b,aC a b->Ip a b):aM m Ip:=by
 rcases m with _|⟨a,b⟩
 .exact h
 .exact f _ _ h
theorem aM.bind{α b' oj rC:Type}{m:Option (α×b')}{f:α×b'->Option (oj×rC)}{aC:oj->rC->Prop}(h:aM (m.bind f) aC):aM m λa b=>aM (f (a,b)) aC:=by
 rcases m with _|⟨a,b⟩<;>exact h
theorem aM.cR{α b':Type}{m:Option (α×b')}{aC:α->b'->Prop}(h:aM m aC):∃a b,m=some (a,b)/\aC a b:=by
 rcases m with _|⟨a,b⟩
 .exact h.elim
 .exact⟨_,_,rfl,h⟩
noncomputable def hQ{α:Type}(m:Option α)(aC:α->Prop):Prop:=match m with
 |some p=>aC p
 |none=>False
theorem aM.iy{α oj rC:Type}{m:Option α}{f:α->Option (oj×rC)}{aC:oj->rC->Prop}(h:aM (m.bind f) aC):hQ m λa=>aM (f a) aC:=by
 cases m<;>exact h
theorem aM.map{α oj rC:Type}{m:Option α}{f:α->oj×rC}{aC:oj->rC->Prop}(h:aM (m.map f) aC):hQ m λa=>aC (f a).1 (f a).2:=by
 cases m<;>exact h
theorem hQ.cR{α:Type}{m:Option α}{aC:α->Prop}(h:hQ m aC):∃a,m=some a/\aC a:=by
 cases m with
 |none=>exact h.elim
 |some p=>exact⟨_,rfl,h⟩
theorem aM.gX{c:Prop}{cL:Decidable c}{α b':Type}{m:Option (α×b')}{aC:α->b'->Prop}(h:aM (if c then m else none) aC):c/\aM m aC:=by
 by_cases e:c
 .rw[if_pos e] at h;exact⟨e,h⟩
 .rw[if_neg e] at h;exact h.elim
variable(prog w h₁) in
noncomputable def dJ(W:ag)(σ:St)(s:aB)(Q:af->aB->Prop)(v:C)(a4:St):Prop:=
 ∀W' ax h' c6,W.le σ.next W'->σ.next<=a4.next->bL prog w h₁ W' a4 h'->aQ prog w W' a4.next v ax->Q ax {s with heap:=h',toks:=c6}
theorem dJ.at{W:ag}{σ:St}{s:aB}{Q:af->aB->Prop}{v:C}(h:dJ prog w h₁ W σ s Q v σ)(R:bL prog w h₁ W σ s.heap){ax:af}(r:aQ prog w W σ.next v ax)(cw:Nat):Q ax {s with toks:=cw}:=
 h W ax s.heap cw ag.le.refl (bF _) R r
theorem OpOk.of{t:List af->c8 af}{F:b4}(h:∀(A:b8) (W:ag) (σ:St) args e5 (s:aB) (Q E:af->aB->Prop),fA A k->aM (F args σ) (dJ prog w h₁ W σ s Q)->bL prog w h₁ W σ s.heap->bH prog w W σ.next args e5->wpN (bp prog w) A (t e5) Q E s):
 OpOk prog w h₁ k t F:=
 λA W σ args _ _ e5 s Q E aH a5 R ha aW=>h A W σ args e5 s Q E aH (.of a5 aW) R ha
noncomputable def dB(prog:cD)(w:cm)(h₁:a9)(k:Nat)(t:List af->c8 af)(F:b4)(W:ag)(σ:St)(args:List C)(e5:List af):Prop:=
 ∀(A:b8) (s:aB) (Q E:af->aB->Prop),fA A k->aM (F args σ) (dJ prog w h₁ W σ s Q)->bL prog w h₁ W σ s.heap->wpN (bp prog w) A (t e5) Q E s
section
variable{t:List af->c8 af}{F:b4}{W:ag}{σ:St}{a:C}{bD:af}
theorem dB.c5{args:List C}{e5:List af}(h:∀aC,aM (F args σ) aC->False):dB prog w h₁ k t F W σ args e5:=λ_ _ _ _ _ a5 _=>(h _ a5).elim
theorem OpOk.gv(h:∀(W:ag) (σ:St) a bD r cu,aQ prog w W σ.next a bD->bH prog w W σ.next r cu->dB prog w h₁ k t F W σ (a::r) (bD::cu))
 (ao:autoParam (∀σ aC,aM (F [] σ) aC->False) dj._auto_1):OpOk prog w h₁ k t F:=
 .of λA W σ _ _ s Q E aH a5 R ha=>bH.casesOn (motive_2:=λas RC _=>aM (F as σ) _->wpN (bp prog w) A (t RC) Q E s) ha (λa5=>(ao _ _ a5).elim) (λbo bY a5=>h W σ _ _ _ _ bo bY A s Q E aH a5 R) a5
theorem dB.more(c:List C->List C)(cK:List af->List af){r:List C}{cu:List af}(aL:bH prog w W σ.next r cu)(y:∀b b1 q el,aQ prog w W σ.next b b1->bH prog w W σ.next q el->dB prog w h₁ k t F W σ (c (b::q)) (cK (b1::el)))
 (ao:autoParam (∀aC,aM (F (c []) σ) aC->False) kH._auto_1):dB prog w h₁ k t F W σ (c r) (cK cu):=
 bH.casesOn (motive_2:=λr cu _=>dB prog w h₁ k t F W σ (c r) (cK cu)) aL (.c5 ao) (λbo bY=>y _ _ _ _ bo bY)
theorem dB.QX(c:List C->List C)(cK:List af->List af){r:List C}{cu:List af}(aL:bH prog w W σ.next r cu)(af2:dB prog w h₁ k t F W σ (c []) (cK []))(y:∀b b1 q el,aQ prog w W σ.next b b1->bH prog w W σ.next q el->dB prog w h₁ k t F W σ (c (b::q)) (cK (b1::el))):dB prog w h₁ k t F W σ (c r) (cK cu):=
 bH.casesOn (motive_2:=λr cu _=>dB prog w h₁ k t F W σ (c r) (cK cu)) aL af2 (λbo bY=>y _ _ _ _ bo bY)
theorem dB.end(c:List C->List C)(cK:List af->List af){r:List C}{cu:List af}(aL:bH prog w W σ.next r cu)(y:dB prog w h₁ k t F W σ (c []) (cK []))
 (ao:autoParam (∀b q aC,aM (F (c (b::q)) σ) aC->False) vh._auto_1):dB prog w h₁ k t F W σ (c r) (cK cu):=
 bH.casesOn (motive_2:=λr cu _=>dB prog w h₁ k t F W σ (c r) (cK cu)) aL y (λ_ _=>.c5 (ao _ _))
theorem dB.none(c:C->List C)(cK:af->List af)(r:aQ prog w W σ.next a bD)(agj:dB prog w h₁ k t F W σ (c .none) (cK .none))
 (il:autoParam (∀x aC,aM (F (c (.bool x)) σ) aC->False) dj._auto_1)
 (jn:autoParam (∀x aC,aM (F (c (.int x)) σ) aC->False) dj._auto_1)
 (ir:autoParam (∀x aC,aM (F (c (.str x)) σ) aC->False) dj._auto_1)
 (j5:autoParam (∀x aC,aM (F (c (.bytes x)) σ) aC->False) dj._auto_1)
 (j7:autoParam (∀x aC,aM (F (c (.bA x)) σ) aC->False) dj._auto_1)
 (j6:autoParam (∀x aC,aM (F (c (.bB x)) σ) aC->False) dj._auto_1)
 (iQ:autoParam (∀x aC,aM (F (c (.cV x)) σ) aC->False) dj._auto_1)
 (iq:autoParam (∀x y z aC,aM (F (c (.gc x y z)) σ) aC->False) rB._auto_1)
 (k3:autoParam (∀x aC,aM (F (c (.ref x)) σ) aC->False) dj._auto_1)
 (ip:autoParam (∀x aC,aM (F (c (.cb x)) σ) aC->False) dj._auto_1):dB prog w h₁ k t F W σ (c a) (cK bD):=
 aQ.casesOn (motive_1:=λa bD _=>dB prog w h₁ k t F W σ (c a) (cK bD)) r (agj) (λx=>.c5 (il x)) (λx _=>.c5 (jn x)) (λx _=>.c5 (ir x)) (λx _=>.c5 (j5 x)) (λ_ _=>.c5 (j7 _)) (λ_ _ _ _=>.c5 (j6 _)) (λ_ _ _ _=>.c5 (iQ _)) (λ_=>.c5 (iq _ _ _)) (λ_=>.c5 (k3 _)) (λx=>.c5 (ip x))
theorem dB.int(c:C->List C)(cK:af->List af)(r:aQ prog w W σ.next a bD)(G9:∀i u,dB prog w h₁ k t F W σ (c (.int i)) (cK (.int i u)))
 (iR:autoParam (∀aC,aM (F (c .none) σ) aC->False) kH._auto_1)
 (il:autoParam (∀x aC,aM (F (c (.bool x)) σ) aC->False) dj._auto_1)
 (ir:autoParam (∀x aC,aM (F (c (.str x)) σ) aC->False) dj._auto_1)
 (j5:autoParam (∀x aC,aM (F (c (.bytes x)) σ) aC->False) dj._auto_1)
 (j7:autoParam (∀x aC,aM (F (c (.bA x)) σ) aC->False) dj._auto_1)
 (j6:autoParam (∀x aC,aM (F (c (.bB x)) σ) aC->False) dj._auto_1)
 (iQ:autoParam (∀x aC,aM (F (c (.cV x)) σ) aC->False) dj._auto_1)
 (iq:autoParam (∀x y z aC,aM (F (c (.gc x y z)) σ) aC->False) rB._auto_1)
 (k3:autoParam (∀x aC,aM (F (c (.ref x)) σ) aC->False) dj._auto_1)
 (ip:autoParam (∀x aC,aM (F (c (.cb x)) σ) aC->False) dj._auto_1):dB prog w h₁ k t F W σ (c a) (cK bD):=
 aQ.casesOn (motive_1:=λa bD _=>dB prog w h₁ k t F W σ (c a) (cK bD)) r (.c5 (iR)) (λx=>.c5 (il x)) (G9) (λx _=>.c5 (ir x)) (λx _=>.c5 (j5 x)) (λ_ _=>.c5 (j7 _)) (λ_ _ _ _=>.c5 (j6 _)) (λ_ _ _ _=>.c5 (iQ _)) (λ_=>.c5 (iq _ _ _)) (λ_=>.c5 (k3 _)) (λx=>.c5 (ip x))
theorem dB.bytes(c:C->List C)(cK:af->List af)(r:aQ prog w W σ.next a bD)(G7:∀x u,dB prog w h₁ k t F W σ (c (.bytes x)) (cK (.bytes x.toArray u)))
 (iR:autoParam (∀aC,aM (F (c .none) σ) aC->False) kH._auto_1)
 (il:autoParam (∀x aC,aM (F (c (.bool x)) σ) aC->False) dj._auto_1)
 (jn:autoParam (∀x aC,aM (F (c (.int x)) σ) aC->False) dj._auto_1)
 (ir:autoParam (∀x aC,aM (F (c (.str x)) σ) aC->False) dj._auto_1)
 (j7:autoParam (∀x aC,aM (F (c (.bA x)) σ) aC->False) dj._auto_1)
 (j6:autoParam (∀x aC,aM (F (c (.bB x)) σ) aC->False) dj._auto_1)
 (iQ:autoParam (∀x aC,aM (F (c (.cV x)) σ) aC->False) dj._auto_1)
 (iq:autoParam (∀x y z aC,aM (F (c (.gc x y z)) σ) aC->False) rB._auto_1)
 (k3:autoParam (∀x aC,aM (F (c (.ref x)) σ) aC->False) dj._auto_1)
 (ip:autoParam (∀x aC,aM (F (c (.cb x)) σ) aC->False) dj._auto_1):dB prog w h₁ k t F W σ (c a) (cK bD):=
 aQ.casesOn (motive_1:=λa bD _=>dB prog w h₁ k t F W σ (c a) (cK bD)) r (.c5 (iR)) (λx=>.c5 (il x)) (λx _=>.c5 (jn x)) (λx _=>.c5 (ir x)) (G7) (λ_ _=>.c5 (j7 _)) (λ_ _ _ _=>.c5 (j6 _)) (λ_ _ _ _=>.c5 (iQ _)) (λ_=>.c5 (iq _ _ _)) (λ_=>.c5 (k3 _)) (λx=>.c5 (ip x))
theorem dB.bA(c:C->List C)(cK:af->List af)(r:aQ prog w W σ.next a bD)(x3:∀vs bD,aQ prog w W σ.next (.bA vs) bD->dB prog w h₁ k t F W σ (c (.bA vs)) (cK bD))
 (iR:autoParam (∀aC,aM (F (c .none) σ) aC->False) kH._auto_1)
 (il:autoParam (∀x aC,aM (F (c (.bool x)) σ) aC->False) dj._auto_1)
 (jn:autoParam (∀x aC,aM (F (c (.int x)) σ) aC->False) dj._auto_1)
 (ir:autoParam (∀x aC,aM (F (c (.str x)) σ) aC->False) dj._auto_1)
 (j5:autoParam (∀x aC,aM (F (c (.bytes x)) σ) aC->False) dj._auto_1)
 (j6:autoParam (∀x aC,aM (F (c (.bB x)) σ) aC->False) dj._auto_1)
 (iQ:autoParam (∀x aC,aM (F (c (.cV x)) σ) aC->False) dj._auto_1)
 (iq:autoParam (∀x y z aC,aM (F (c (.gc x y z)) σ) aC->False) rB._auto_1)
 (k3:autoParam (∀x aC,aM (F (c (.ref x)) σ) aC->False) dj._auto_1)
 (ip:autoParam (∀x aC,aM (F (c (.cb x)) σ) aC->False) dj._auto_1):dB prog w h₁ k t F W σ (c a) (cK bD):=
 aQ.casesOn (motive_1:=λa bD _=>dB prog w h₁ k t F W σ (c a) (cK bD)) r (.c5 (iR)) (λx=>.c5 (il x)) (λx _=>.c5 (jn x)) (λx _=>.c5 (ir x)) (λx _=>.c5 (j5 x)) (λbo bY=>x3 _ _ (.bA bo bY)) (λ_ _ _ _=>.c5 (j6 _)) (λ_ _ _ _=>.c5 (iQ _)) (λ_=>.c5 (iq _ _ _)) (λ_=>.c5 (k3 _)) (λx=>.c5 (ip x))
theorem dB.bB(c:C->List C)(cK:af->List af)(r:aQ prog w W σ.next a bD)(x2:∀vs bD,aQ prog w W σ.next (.bB vs) bD->dB prog w h₁ k t F W σ (c (.bB vs)) (cK bD))
 (iR:autoParam (∀aC,aM (F (c .none) σ) aC->False) kH._auto_1)
 (il:autoParam (∀x aC,aM (F (c (.bool x)) σ) aC->False) dj._auto_1)
 (jn:autoParam (∀x aC,aM (F (c (.int x)) σ) aC->False) dj._auto_1)
 (ir:autoParam (∀x aC,aM (F (c (.str x)) σ) aC->False) dj._auto_1)
 (j5:autoParam (∀x aC,aM (F (c (.bytes x)) σ) aC->False) dj._auto_1)
 (j7:autoParam (∀x aC,aM (F (c (.bA x)) σ) aC->False) dj._auto_1)
 (iQ:autoParam (∀x aC,aM (F (c (.cV x)) σ) aC->False) dj._auto_1)
 (iq:autoParam (∀x y z aC,aM (F (c (.gc x y z)) σ) aC->False) rB._auto_1)
 (k3:autoParam (∀x aC,aM (F (c (.ref x)) σ) aC->False) dj._auto_1)
 (ip:autoParam (∀x aC,aM (F (c (.cb x)) σ) aC->False) dj._auto_1):dB prog w h₁ k t F W σ (c a) (cK bD):=
 aQ.casesOn (motive_1:=λa bD _=>dB prog w h₁ k t F W σ (c a) (cK bD)) r (.c5 (iR)) (λx=>.c5 (il x)) (λx _=>.c5 (jn x)) (λx _=>.c5 (ir x)) (λx _=>.c5 (j5 x)) (λ_ _=>.c5 (j7 _)) (λbo bY ea tg=>x2 _ _ (.bB bo bY ea tg)) (λ_ _ _ _=>.c5 (iQ _)) (λ_=>.c5 (iq _ _ _)) (λ_=>.c5 (k3 _)) (λx=>.c5 (ip x))
theorem dB.ref(c:C->List C)(cK:af->List af)(r:aQ prog w W σ.next a bD)(tq:∀x bD,aQ prog w W σ.next (.ref x) bD->dB prog w h₁ k t F W σ (c (.ref x)) (cK bD))
 (iR:autoParam (∀aC,aM (F (c .none) σ) aC->False) kH._auto_1)
 (il:autoParam (∀x aC,aM (F (c (.bool x)) σ) aC->False) dj._auto_1)
 (jn:autoParam (∀x aC,aM (F (c (.int x)) σ) aC->False) dj._auto_1)
 (ir:autoParam (∀x aC,aM (F (c (.str x)) σ) aC->False) dj._auto_1)
 (j5:autoParam (∀x aC,aM (F (c (.bytes x)) σ) aC->False) dj._auto_1)
 (j7:autoParam (∀x aC,aM (F (c (.bA x)) σ) aC->False) dj._auto_1)
 (j6:autoParam (∀x aC,aM (F (c (.bB x)) σ) aC->False) dj._auto_1)
 (iQ:autoParam (∀x aC,aM (F (c (.cV x)) σ) aC->False) dj._auto_1)
 (iq:autoParam (∀x y z aC,aM (F (c (.gc x y z)) σ) aC->False) rB._auto_1)
 (ip:autoParam (∀x aC,aM (F (c (.cb x)) σ) aC->False) dj._auto_1):dB prog w h₁ k t F W σ (c a) (cK bD):=
 aQ.casesOn (motive_1:=λa bD _=>dB prog w h₁ k t F W σ (c a) (cK bD)) r (.c5 (iR)) (λx=>.c5 (il x)) (λx _=>.c5 (jn x)) (λx _=>.c5 (ir x)) (λx _=>.c5 (j5 x)) (λ_ _=>.c5 (j7 _)) (λ_ _ _ _=>.c5 (j6 _)) (λ_ _ _ _=>.c5 (iQ _)) (λ_=>.c5 (iq _ _ _)) (λbo=>tq _ _ (.ref bo)) (λx=>.c5 (ip x))
theorem dB.add(c:C->List C)(cK:af->List af)(r:aQ prog w W σ.next a bD)(G9:∀i u,dB prog w h₁ k t F W σ (c (.int i)) (cK (.int i u)))(G7:∀x u,dB prog w h₁ k t F W σ (c (.bytes x)) (cK (.bytes x.toArray u)))(x3:∀vs bD,aQ prog w W σ.next (.bA vs) bD->dB prog w h₁ k t F W σ (c (.bA vs)) (cK bD))(x2:∀vs bD,aQ prog w W σ.next (.bB vs) bD->dB prog w h₁ k t F W σ (c (.bB vs)) (cK bD))
 (iR:autoParam (∀aC,aM (F (c .none) σ) aC->False) kH._auto_1)
 (il:autoParam (∀x aC,aM (F (c (.bool x)) σ) aC->False) dj._auto_1)
 (ir:autoParam (∀x aC,aM (F (c (.str x)) σ) aC->False) dj._auto_1)
 (iQ:autoParam (∀x aC,aM (F (c (.cV x)) σ) aC->False) dj._auto_1)
 (iq:autoParam (∀x y z aC,aM (F (c (.gc x y z)) σ) aC->False) rB._auto_1)
 (k3:autoParam (∀x aC,aM (F (c (.ref x)) σ) aC->False) dj._auto_1)
 (ip:autoParam (∀x aC,aM (F (c (.cb x)) σ) aC->False) dj._auto_1):dB prog w h₁ k t F W σ (c a) (cK bD):=
 aQ.casesOn (motive_1:=λa bD _=>dB prog w h₁ k t F W σ (c a) (cK bD)) r (.c5 (iR)) (λx=>.c5 (il x)) (G9) (λx _=>.c5 (ir x)) (G7) (λbo bY=>x3 _ _ (.bA bo bY)) (λbo bY ea tg=>x2 _ _ (.bB bo bY ea tg)) (λ_ _ _ _=>.c5 (iQ _)) (λ_=>.c5 (iq _ _ _)) (λ_=>.c5 (k3 _)) (λx=>.c5 (ip x))
end
variable(prog w h₁) in
noncomputable def d8{α b':Type}(jC:ag->Nat->b'->α->Prop)(own:Bool)(env:dc)(ns:List aV)(W:ag)(aa:Loc)(σ:St)(s:aB)(Q:α->aB->Prop)(v:b')(a4:St):Prop:=
 ∀W' ax h' c6,W.le σ.next W'->σ.next<=a4.next->bT prog w h₁ own env ns W' aa a4 h'->jC W' a4.next v ax->Q ax {s with heap:=h',toks:=c6}
theorem TOk.of{α b':Type}{jC:ag->Nat->b'->α->Prop}{t:c8 α}{D:Loc->St->Option (b'×St)}(h:∀(A:b8) (W:ag) (aa:Loc) (σ:St) (s:aB) (Q:α->aB->Prop) (E:af->aB->Prop),fA A k->aM (D aa σ) (d8 prog w h₁ jC own env ns W aa σ s Q)->bT prog w h₁ own env ns W aa σ s.heap->wpN (bp prog w) A t Q E s):
 TOk prog w h₁ jC own env ns k t D:=λA W aa σ _ _ s Q E aH ar R aW=>h A W aa σ s Q E aH (.of ar aW) R
theorem TOk.go{α b':Type}{jC:ag->Nat->b'->α->Prop}{t:c8 α}{D:Loc->St->Option (b'×St)}(aI:TOk prog w h₁ jC own env ns k t D){A:b8}{W:ag}{aa:Loc}{σ:St}{s:aB}{Q:α->aB->Prop}{E:af->aB->Prop}{aC:b'->St->Prop}(aH:fA A k)(ar:aM (D aa σ) aC)(R:bT prog w h₁ own env ns W aa σ s.heap)
 (mY:∀v a4,aC v a4->d8 prog w h₁ jC own env ns W aa σ s Q v a4):wpN (bp prog w) A t Q E s:=by
 obtain⟨v,a4,e,c⟩:=ar.cR
 exact aI A W aa σ v a4 s Q E aH e R (mY v a4 c)
variable(prog w h₁) in
noncomputable def hl(env:dc)(ns:List aV)(W:ag)(σ:St)(s:aB)(Q:gJ->aB->Prop)(f:dp)(p:Loc×St):Prop:=
 ∀W' ig h' c6,W.le σ.next W'->σ.next<=p.2.next->bT prog w h₁ true env ns W' p.1 p.2 h'->mM prog w W' p.2.next f ig->Q ig {s with heap:=h',toks:=c6}
theorem SOk.of{t:c8 gJ}{D:ck}(h:∀(A:b8) (W:ag) (aa:Loc) (σ:St) (s:aB) (Q:gJ->aB->Prop) (E:af->aB->Prop),fA A k->aM (D aa σ) (hl prog w h₁ env ns W σ s Q)->bT prog w h₁ true env ns W aa σ s.heap->wpN (bp prog w) A t Q E s):
 SOk prog w h₁ env ns k t D:=λA W aa σ _ _ _ s Q E aH ar R aW=>h A W aa σ s Q E aH (.of ar aW) R
theorem SOk.go{t:c8 gJ}{D:ck}(aI:SOk prog w h₁ env ns k t D){A:b8}{W:ag}{aa:Loc}{σ:St}{s:aB}{Q:gJ->aB->Prop}{E:af->aB->Prop}{aC:dp->Loc×St->Prop}(aH:fA A k)(ar:aM (D aa σ) aC)(R:bT prog w h₁ true env ns W aa σ s.heap)
 (mY:∀f p,aC f p->hl prog w h₁ env ns W σ s Q f p):wpN (bp prog w) A t Q E s:=by
 obtain⟨f,p,e,c⟩:=ar.cR
 exact aI A W aa σ f p.1 p.2 s Q E aH e R (mY f p c)
@[elab_as_elim] theorem mM.uV{W:ag}{n:Nat}{P:dp->gJ->Prop}{f:dp}{ig:gJ}(r:mM prog w W n f ig)(next:P .next .next)(brk:P .brk .brk)(cont:P .cont .cont)(ret:∀v ax,aQ prog w W n v ax->P (.ret v) (.ret ax)):P f ig:=by
  rcases f with _|_|_|v
  .rcases ig with _|_|_|ax<;>first|exact next|exact dA r
  .rcases ig with _|_|_|ax<;>first|exact brk|exact dA r
  .rcases ig with _|_|_|ax<;>first|exact cont|exact dA r
  .rcases ig with _|_|_|ax<;>first|exact ret _ _ r|exact dA r
theorem DH{α:Type}{l:List α}{i:Nat}(h:l.drop i=[]):l[i]? =none:=by
 rw[<-Nat.add_zero i,<-BB,h];rfl
theorem zB{α:Type}{l r:List α}{i:Nat}{x:α}(h:l.drop i=x::r):l[i]? =some x/\l.drop (i+1)=r:=by
 refine⟨?_,?_⟩
 .rw[<-Nat.add_zero i,<-BB,h];rfl
 .rw[<-List.tail_drop,h];rfl
theorem d8.to{α b':Type}{jC:ag->Nat->b'->α->Prop}{W:ag}{aa:Loc}{σ:St}{s:aB}{Q:α->aB->Prop}{v:b'}{a4:St}(h:aM (some (v,a4)) (d8 prog w h₁ jC own env ns W aa σ s Q)):d8 prog w h₁ jC own env ns W aa σ s Q v a4:=h
theorem bT.od{A:b8}{W:ag}{aa:Loc}{σ:St}{s:aB}{t:List af->c8 af}{F:b4}{args:List C}{e5:List af}{Q E:af->aB->Prop}{aC:C->St->Prop}
 (h8:OpOk prog w h₁ k t F)(aH:fA A k)(a5:aM (F args σ) aC)(R:bT prog w h₁ own env ns W aa σ s.heap)(ha:bH prog w W σ.next args e5)
 (mY:∀v a4,aC v a4->d8 prog w h₁ (aQ prog w) own env ns W aa σ s Q v a4):wpN (bp prog w) A (t e5) Q E s:=by
 obtain⟨v,a4,e,c⟩:=a5.cR
 exact R.op h8 aH e ha (mY v a4 c)
theorem d8.at{α b':Type}{jC:ag->Nat->b'->α->Prop}{W:ag}{aa:Loc}{σ:St}{s:aB}{Q:α->aB->Prop}{v:b'}(h:aM (some (v,σ)) (d8 prog w h₁ jC own env ns W aa σ s Q))(R:bT prog w h₁ own env ns W aa σ s.heap){ax:α}(r:jC W σ.next v ax)(cw:Nat):Q ax {s with toks:=cw}:=
 d8.to h W ax s.heap cw ag.le.refl (bF _) R r
theorem d8.then{α b':Type}{jC:ag->Nat->b'->α->Prop}{W bC:ag}{aa:Loc}{σ cH:St}{s:aB}{h1:a9}{c0:Nat}{Q:α->aB->Prop}{v:b'}{a4:St}(h:d8 prog w h₁ jC own env ns W aa σ s Q v a4)(bO:W.le σ.next bC)(ab:σ.next<=cH.next):d8 prog w h₁ jC own env ns bC aa cH {s with heap:=h1,toks:=c0} Q v a4:=
 λbR hO h2 tk2 bh aF cQ bY=>h bR hO h2 tk2 (bO.trans ab bh) (cI ab aF) cQ bY
end Internal
namespace Internal
open PySem PySem.W PyProof.Rows PySem.Calls
structure b3 (K:fH) (h₁:a9):Prop where
 X:K.In h₁
 Px:∃lC pW,h₁.Ns c1 lC/\h₁.Ns la pW/\∀x:aV,x≠"__name__"->pW x=bootBuiltins x
 nolimit:h₁.NoLimit
variable{prog:cD}{w:cm}{h₁:a9}{K:fH}{own:Bool}{env:dc}{ns:List aV}{k:Nat}
noncomputable def J(i:Nat):cy:=λaa σ=>match aa[i]? with
 |some (some v)=>some (v,σ)
 |_=>none
noncomputable def U(v:C):cy:=λ_ σ=>some (v,σ)
theorem M6{i:Nat}{aa:Loc}{σ a4:St}{v:C}(e:J i aa σ=some (v,a4)):aa[i]? =some (some v)/\a4=σ:=by
 unfold J at e
 generalize aa[i]? =x at e⊢
 rcases x with _|_|u
 .exact au e
 .exact au e
 .exact⟨by rw[Mp e],(Mq e).symm⟩
theorem aw{i:Nat}{x:aV}{pos:bz}(ay:ns[i]? =some x)(hk:autoParam (env.scope.kind=.function) aN._auto_1)(aD:autoParam ((x==("__debug__":aV))=false) vi._auto_1)(a3:autoParam ((x==("__classdict__":aV))=false) vi._auto_1):
 bx prog w h₁ own env ns k (aR (.Name x pos) env) (J i):=
 .of λA W aa σ s Q E aH ar R=>wpN.of<|fK λG cc=>by
 obtain⟨u,a4,e,ar⟩:=ar.cR
 obtain⟨bZ,e⟩:=M6 e
 rw[e] at ar
 obtain⟨m,hm,f⟩:=R.aa
 obtain⟨y,ax,bQ,aL,hs⟩:=f i _ bZ
 rw[<-cx (ay.symm.trans bQ)] at hs
 have q:Q ax s:=d8.at ar R aL s.toks
 refine cc (wpAny_Name ?_ aD)
 rcases hs with⟨h1,h2⟩|⟨h1|h1,c,az,aU⟩
 .exact Hz hk h1 hm h2 q
 .exact wpAny_loadName_cell hk h1 az aU q
 .exact wpAny_loadName_free hk h1 az aU q a3
theorem dS{x:aV}{pos:bz}{ax:af}{v:C}(B:b3 K h₁)(e:nsIn K c1 x=some (some ax))(a':∀W n,(∀a o,h₁.get? a=some o->W.role a=.imm o)->aQ prog w W n v ax)(hk:autoParam (env.scope.kind=.function) aN._auto_1)(a0:autoParam (env.globals=c1) aN._auto_1)
 (ay:autoParam (env.kindOf x=some .globalImplicit) aN._auto_1)(aD:autoParam ((x==("__debug__":aV))=false) vi._auto_1):
 bx prog w h₁ own env ns k (aR (.Name x pos) env) (U v):=
 .of λA W aa σ s Q E aH ar R=>by
 obtain⟨lC,pW,g,b,_⟩:=B.Px
 exact wpN.of<|Name_function_global hk ay (loadGlobal_global (env:=env) (by rw[a0];exact g.keeps R.bW.old) (mg_of B.X g e) (d8.at ar R (a' _ _ R.bW.base) s.toks)) aD
theorem mU{x:aV}{pos:bz}{ax:af}(B:b3 K h₁)(e:nsIn K c1 x=some none)(a':bootBuiltins x=some ax)(a3:autoParam (x≠"__name__") vi._auto_1)(hk:autoParam (env.scope.kind=.function) aN._auto_1)(a0:autoParam (env.globals=c1) aN._auto_1)(ai:autoParam (env.builtins=la) aN._auto_1)
 (ay:autoParam (env.kindOf x=some .globalImplicit) aN._auto_1)(aD:autoParam ((x==("__debug__":aV))=false) vi._auto_1):
 bx prog w h₁ own env ns k (aR (.Name x pos) env) (U (.cb ax)):=
 .of λA W aa σ s Q E aH ar R=>by
 obtain⟨lC,pW,g,b,Sb⟩:=B.Px
 exact wpN.of<|Name_function_global hk ay (loadGlobal_builtin (env:=env) (by rw[a0];exact g.keeps R.bW.old) (mg_none_of B.X g e) (by rw[ai];exact b.keeps R.bW.old) ((Sb x a3).trans a') (d8.at ar R (.cb ax) s.toks)) aD
end Internal
namespace Internal
open PySem PySem.W PyProof.Rows PySem.Calls
variable{prog:cD}{w:cm}{h₁:a9}{K:fH}{own:Bool}{env:dc}{ns:List aV}{k:Nat}
theorem bind_some{α b':Type}{x:Option α}{f:α->Option b'}{b:b'}(h:x.bind f=some b):∃a,x=some a/\f a=some b:=by
 cases x with
 |none=>cases h
 |some a=>exact⟨a,rfl,h⟩
theorem bk{i:Int}{aj:Nat}{pos:bz}:bx prog w h₁ own env ns k (aR (.Constant (.int i) aj pos) env) (U (.int i)):=
 .of λA W aa σ s Q E aH ar R=>wpN.of<|wpAny_Constant_int (d8.at ar R (.int _ _) _)
theorem b6{x:aV}{aj:Nat}{pos:bz}:bx prog w h₁ own env ns k (aR (.Constant (.str x) aj pos) env) (U (.str x)):=
 .of λA W aa σ s Q E aH ar R=>wpN.of<|Calls.Constant_str (d8.at ar R (.str _ _) _)
theorem hJ{aj:Nat}{pos:bz}:bx prog w h₁ own env ns k (aR (.Constant .none aj pos) env) (U .none):=
 .of λA W aa σ s Q E aH ar R=>wpN.of<|wpAny_Constant_none (d8.at ar R .none s.toks)
theorem jE{b:Bool}{aj:Nat}{pos:bz}:bx prog w h₁ own env ns k (aR (.Constant (.bool b) aj pos) env) (U (.bool b)):=
 .of λA W aa σ s Q E aH ar R=>wpN.of<|wpAny_Constant_bool (d8.at ar R (.bool _) s.toks)
theorem t'{b:List UInt8}{aj:Nat}{pos:bz}:bx prog w h₁ own env ns k (aR (.Constant (.bytes b) aj pos) env) (U (.bytes b)):=
 .of λA W aa σ s Q E aH ar R=>wpN.of<|Constant_bytes (d8.at ar R (.bytes _ _) _)
noncomputable abbrev iZ:=Loc->St->Option (List C×St)
noncomputable def av:iZ:=λ_ σ=>some ([],σ)
noncomputable def ae(D:cy)(eh:iZ):iZ:=λaa σ=>(D aa σ).bind λr=>(eh aa r.2).bind λq=>some (r.1::q.1,q.2)
theorem aS{pos:bz}:nF prog w h₁ own env ns k (h6 (fb pos (d7 [] env))) av:=
 .of λA W aa σ s Q E aH ar R=>cS (d8.at ar R .nil s.toks)
theorem aA{pos:bz}{e:bX}{rest:List bX}{D:cy}{eh:iZ}(h:bx prog w h₁ own env ns k (aR e env) D)(aL:nF prog w h₁ own env ns k (h6 (fb pos (d7 rest env))) eh)
 (hs:autoParam (d7 (e::rest) env=(false,aR e env)::d7 rest env) aN._auto_1):nF prog w h₁ own env ns k (h6 (fb pos (d7 (e::rest) env))) (ae D eh):=
 .of λA W aa σ s Q E aH ar R=>by
 rw[hs]
 exact G5 (h.go aH ar.bind R λeS cH ar bC d5 h1 c0 bO ab bK bo=>aL.go aH (aM.bind ar) bK λvs bN ar bR bG h2 tk2 bh aF cQ bY=>
  d8.to ar bR _ h2 tk2 (bO.trans ab bh) (cI ab aF) cQ (.cons (bo.bb bh.1 aF) bY))
noncomputable def fF(f:af->af->c8 af):List af->c8 af
 |[a,b]=>f a b
 |_=>unsupported ""
noncomputable def p'(f:af->c8 af):List af->c8 af
 |[a]=>f a
 |_=>unsupported ""
noncomputable def ah(F:b4)(et dZ:cy):cy:=λaa σ=>(et aa σ).bind λr=>(dZ aa r.2).bind λq=>F [r.1,q.1] q.2
theorem dE{op:Operator}{l r:bX}{pos:bz}{et dZ:cy}{F:b4}(h1:bx prog w h₁ own env ns k (aR l env) et)(h2:bx prog w h₁ own env ns k (aR r env) dZ)(h8:OpOk prog w h₁ k (fF (nC op)) F):
 bx prog w h₁ own env ns k (aR (.BinOp l op r pos) env) (ah F et dZ):=
 .of λA W aa σ s Q E aH ar R=>afF (h1.go aH ar.bind R λeS cH ar bC d5 h1 c0 bO ab bK bo=>h2.go aH (aM.bind ar) bK λhO bN ar bR dR h2 tk2 bh aF cQ bY=>
  cQ.od (s:={s with heap:=h2,toks:=tk2}) h8 aH ar (.cons (bo.bb bh.1 aF) (.cons bY .nil)) λv a4 c=>c.then ((bO.trans ab bh)) (cI ab aF))
theorem wt{op:CmpOp}{l r:bX}{pos:bz}{et dZ:cy}{F:b4}(h1:bx prog w h₁ own env ns k (aR l env) et)(h2:bx prog w h₁ own env ns k (aR r env) dZ)(h8:OpOk prog w h₁ k (fF (hP op)) F)
 (hm:autoParam (behindInMarks op r=false) Bb._auto_1):
 bx prog w h₁ own env ns k (aR (.Compare l [op] [r] pos) env) (ah F et dZ):=
 .of λA W aa σ s Q E aH ar R=>afH (h1.go aH ar.bind R λeS cH ar bC d5 h1 c0 bO ab bK bo=>h2.go aH (aM.bind ar) bK λhO bN ar bR dR h2 tk2 bh aF cQ bY=>
  cQ.od (s:={s with heap:=h2,toks:=tk2}) h8 aH ar (.cons (bo.bb bh.1 aF) (.cons bY .nil)) λv a4 c=>c.then ((bO.trans ab bh)) (cI ab aF)) hm
noncomputable def boolOf(D:cy):gj:=λaa σ=>match D aa σ with
 |some (.bool b,a4)=>some (b,a4)
 |_=>none
theorem JD{D:cy}{aa:Loc}{σ:St}{aC:Bool->St->Prop}(h:aM (boolOf D aa σ) aC):∃b a4,D aa σ=some (.bool b,a4)/\aC b a4:=by
 unfold boolOf at h
 generalize D aa σ=x at h⊢
 rcases x with _|⟨_|b|_|_|_|_|_|_|_|_|_,a4⟩
 .exact h.elim
 .exact h.elim
 .exact⟨b,a4,rfl,h⟩
 .exact h.elim
 .exact h.elim
 .exact h.elim
 .exact h.elim
 .exact h.elim
 .exact h.elim
 .exact h.elim
 .exact h.elim
 .exact h.elim
theorem Sl{e:c8 af}{D:cy}(aI:bx prog w h₁ own env ns k e D){A:b8}{W:ag}{aa:Loc}{σ:St}{s:aB}{Q:Bool->aB->Prop}{E:af->aB->Prop}(aH:fA A k)(ar:aM (boolOf D aa σ) (d8 prog w h₁ (λ_ _ b a=>b=a) own env ns W aa σ s Q))(R:bT prog w h₁ own env ns W aa σ s.heap):
 wpN (bp prog w) A e (λv a8=>∃b,v=.bool b/\Q b a8) E s:=by
 obtain⟨b,a4,e,c⟩:=JD ar
 exact aI A W aa σ _ a4 s _ E aH e R λW' ax h' c6 l n ed r=>⟨b,r.bt,c W' b h' c6 l n ed rfl⟩
theorem cq{op:CmpOp}{l r:bX}{pos:bz}{gR:c8 af}{et dZ:cy}{F:b4}(h1:bx prog w h₁ own env ns k (aR l env) et)(h2:bx prog w h₁ own env ns k (aR r env) dZ)(h8:OpOk prog w h₁ k (fF (hP op)) F)
 (hm:autoParam (behindInMarks op r=false) Bb._auto_1):
 BOk prog w h₁ own env ns k (gT (.Compare l [op] [r] pos) env gR) (boolOf (ah F et dZ)):=
 .of λA W aa σ s Q E aH ar R=>by
 obtain⟨b,dz,e,c⟩:=JD ar
 refine afW (h1.go aH (aM.bind (aM.of e rfl:aM (ah F et dZ aa σ) λv s=>(v,s)=(.bool b,dz))) R λeS cH ar bC d5 h1 c0 bO ab bK bo=>h2.go aH (aM.bind ar) bK λhO bN ar bR dR h2 tk2 bh aF cQ bY=>
  cQ.od (s:={s with heap:=h2,toks:=tk2}) h8 aH ar (.cons (bo.bb bh.1 aF) (.cons bY .nil)) λv a4 eq cf ax aU df dh bE dO ea=>?_) hm
 rw[(rK eq).1] at ea
 rw[(rK eq).2] at bE dO
 rw[show ax=_ from ea.bt]
 exact wpN.of<|qA (c cf b aU df ((bO.trans ab bh).trans (cI ab aF) dh) (cI ab (cI aF bE)) dO rfl)
theorem ph{e:bX}{D:cy}(h:bx prog w h₁ own env ns k (aR e env) D)(hp:autoParam (gT e env (aR e env)=(do let v<-aR e env;lW e.pos;mE [v] (truthy v))) aN._auto_1):
 BOk prog w h₁ own env ns k (gT e env (aR e env)) (boolOf D):=
 .of λA W aa σ s Q E aH ar R=>afY (cX (Sl h aH ar R) (λv a8 ⟨b,e,q⟩=>by rw[e];exact wpN.of (qA q)) λ_ _ x=>x) hp
noncomputable def pY(D:gj):gj:=λaa σ=>(D aa σ).bind λr=>some (!r.1,r.2)
theorem CR{x:bX}{pos:bz}{gR:c8 af}{D:gj}(h:BOk prog w h₁ own env ns k (gT x env (aR x env)) D):BOk prog w h₁ own env ns k (gT (.UnaryOp .Not x pos) env gR) (pY D):=
 .of λA W aa σ s Q E aH ar R=>afX (h.go aH ar.bind R λb cH ar bC b1 h1 c0 bO ab bK bo=>by
  rw[show b=b1 from bo] at ar
  exact d8.to ar bC _ h1 c0 bO ab bK rfl)
noncomputable def gk(et dZ:gj):gj:=λaa σ=>(et aa σ).bind λr=>if r.1=true then dZ aa r.2 else some (false,r.2)
noncomputable def dt(et dZ:gj):gj:=λaa σ=>(et aa σ).bind λr=>if r.1=true then some (true,r.2) else dZ aa r.2
noncomputable def fM:gj:=λ_ σ=>some (true,σ)
noncomputable def gy:gj:=λ_ σ=>some (false,σ)
theorem tZ:BOk prog w h₁ own env ns k (lU .And [] env) fM:=
 .of λA W aa σ s Q E aH ar R=>cS (d8.at ar R rfl s.toks)
theorem ma:BOk prog w h₁ own env ns k (lU .Or [] env) gy:=
 .of λA W aa σ s Q E aH ar R=>cS (d8.at ar R rfl s.toks)
theorem mQ{x:bX}{rest:List bX}{et dZ:gj}(h1:BOk prog w h₁ own env ns k (gT x env (aR x env)) et)(h2:BOk prog w h₁ own env ns k (lU .And rest env) dZ):
 BOk prog w h₁ own env ns k (lU .And (x::rest) env) (gk et dZ):=
 .of λA W aa σ s Q E aH ar R=>afQ (h1.go aH ar.bind R λb cH ar bC b1 h1 c0 bO ab bK bo=>by
  rw[show b=b1 from bo] at ar
  rcases b1 with _|_
  .exact d8.to ar bC _ h1 c0 bO ab bK rfl
  .exact h2.go aH ar bK λv a4 c=>c.then bO ab)
theorem gM{x:bX}{rest:List bX}{et dZ:gj}(h1:BOk prog w h₁ own env ns k (gT x env (aR x env)) et)(h2:BOk prog w h₁ own env ns k (lU .Or rest env) dZ):
 BOk prog w h₁ own env ns k (lU .Or (x::rest) env) (dt et dZ):=
 .of λA W aa σ s Q E aH ar R=>afR (h1.go aH ar.bind R λb cH ar bC b1 h1 c0 bO ab bK bo=>by
  rw[show b=b1 from bo] at ar
  rcases b1 with _|_
  .exact h2.go aH ar bK λv a4 c=>c.then bO ab
  .exact d8.to ar bC _ h1 c0 bO ab bK rfl)
theorem jg{op:BoolOp}{xs:List bX}{pos:bz}{gR:c8 af}{D:gj}(h:BOk prog w h₁ own env ns k (lU op xs env) D):BOk prog w h₁ own env ns k (gT (.BoolOp op xs pos) env gR) D:=by
 intro A W aa σ b a4 s Q E aH ar R aW
 exact afV (h A W aa σ b a4 s Q E aH ar R aW)
noncomputable def ft(T:gj)(et dZ:cy):cy:=λaa σ=>(T aa σ).bind λr=>if r.1=true then et aa r.2 else dZ aa r.2
theorem jF{t b o:bX}{pos:bz}{T:gj}{et dZ:cy}(ht:BOk prog w h₁ own env ns k (gT t env (aR t env)) T)(h1:bx prog w h₁ own env ns k (aR b env) et)(h2:bx prog w h₁ own env ns k (aR o env) dZ):
 bx prog w h₁ own env ns k (aR (.IfExp t b o pos) env) (ft T et dZ):=
 .of λA W aa σ s Q E aH ar R=>afK (ht.go aH ar.bind R λb cH ar bC b1 q1 c0 bO ab bK bo=>by
  rw[show b=b1 from bo] at ar
  rcases b1 with _|_
  .exact h2.go aH ar bK λv a4 c=>c.then bO ab
  .exact h1.go aH ar bK λv a4 c=>c.then bO ab)
noncomputable def b5(eh:iZ):cy:=λaa σ=>(eh aa σ).bind λr=>if r.1.length<=1000000 then some (.bA r.1,r.2) else none
noncomputable def d'(eh:iZ):cy:=λaa σ=>(eh aa σ).bind λr=>if r.1.length<=1000000 then some (.bB r.1,r.2) else none
noncomputable def hI(eh:iZ):cy:=λaa σ=>(eh aa σ).bind λr=>if r.1.length<=1000000 then some (.ref r.2.next,r.2.new (.list r.1)) else none
theorem bT.i2{W:ag}{aa:Loc}{σ:St}{h:a9}(R:bT prog w h₁ own env ns W aa σ h)(o:bM)(hf:o.isFreed=false):
 bT prog w h₁ own env ns (W.aY h.objs.size (.imm o)) aa σ (h.push o)/\W.le σ.next (W.aY h.objs.size (.imm o)):=by
 have ew:=R.bW.free (bF h.objs.size)
 have l:=ag.ij (n:=σ.next) (r:=.imm o) ew
 have bK:bL prog w h₁ (W.aY h.objs.size (.imm o)) σ (h.push o):=(R.bW.push o).i2 ew ⟨o,hA _ hf⟩ (λc' e=>by cases e;exact hA _ hf) (λc' e=>nomatch e)
 exact⟨R.next bK l (bF _) λa ha=>get?_push_ne (R.bW.lt (bS.ne ha)),l⟩
theorem bT.cell{W:ag}{aa:Loc}{σ:St}{h:a9}(R:bT prog w h₁ own env ns W aa σ h)(o:bM)(x:cO)(hf:o.isFreed=false)(ay:CellAt prog w (W.fD σ.next h.objs.size) (σ.next+1) (h.push o) σ.next h.objs.size x):
 bT prog w h₁ own env ns (W.fD σ.next h.objs.size) aa (σ.new x) (h.push o)/\W.le σ.next (W.fD σ.next h.objs.size):=by
 have ew:=R.bW.free (bF h.objs.size)
 have l:=ag.ra (n:=σ.next) ew
 exact⟨R.next ((R.bW.push o).alloc ew ⟨o,hA _ hf⟩ ay) l (hb _) λa ha=>get?_push_ne (R.bW.lt (bS.ne ha)),l⟩
theorem GL{W:ag}{n:Nat}{vs:List C}{bG:List af}(r:bH prog w W n vs bG)(h:vs.length<=1000000):bG.toArray.size<=hj:=by
 rw[mA,r.length];exact cI h (by decide)
theorem F4{W:ag}{n:Nat}{a:a6}:aQ prog w (W.fD n a) (n+1) (.ref n) (.ref a):=by
 have q:aQ prog w (W.fD n a) (n+1) (.ref n) (.ref ((W.fD n a).al n)):=.ref (hB _)
 rw[show(W.fD n a).al n=a from if_pos rfl] at q
 exact q
theorem c7{es:List bX}{aj:Nat}{pos:bz}{eh:iZ}(h:nF prog w h₁ own env ns k (h6 (fb pos (d7 es env))) eh):bx prog w h₁ own env ns k (aR (.Tuple es aj pos) env) (b5 eh):=
 .of λA W aa σ s Q E aH ar R=>afN (h.go aH ar.bind R λvs cH ar bC bG h1 c0 bO ab bK bo=>fK λG cc=>by
  obtain⟨aJ,ar⟩:=aM.gX ar
  obtain⟨cQ,bh⟩:=bK.i2 {cls:=.type "tuple",data:=.seq bG.toArray} rfl
  exact cc<|wpN.of<|lb (d8.to ar _ _ _ _ (bO.trans ab bh) ab cQ (.bA (k:=0) ag.dv (bo.bb bh.1 (bF _)))) (GL bo aJ))
theorem ic{es:List bX}{pos:bz}{eh:iZ}(h:nF prog w h₁ own env ns k (h6 (fb pos (d7 es env))) eh):bx prog w h₁ own env ns k (aR (.List es pos) env) (d' eh):=
 .of λA W aa σ s Q E aH ar R=>PQ (h.go aH ar.bind R λvs cH ar bC bG h1 c0 bO ab bK bo=>fK λG cc=>by
  obtain⟨aJ,ar⟩:=aM.gX ar
  obtain⟨cQ,bh⟩:=bK.i2 {cls:=.type "list",data:=.seq bG.toArray} rfl
  exact cc<|wpN.of<|lb (d8.to ar _ _ _ _ (bO.trans ab bh) ab cQ (.bB (ag.dv) rfl rfl (bo.bb bh.1 (bF _)))) (GL bo aJ))
theorem lp{es:List bX}{pos:bz}{eh:iZ}(h:nF prog w h₁ own env ns k (h6 (fb pos (d7 es env))) eh):bx prog w h₁ own env ns k (aR (.List es pos) env) (hI eh):=
 .of λA W aa σ s Q E aH ar R=>PQ (h.go aH ar.bind R λvs cH ar bC bG h1 c0 bO ab bK bo=>fK λG cc=>by
  obtain⟨aJ,ar⟩:=aM.gX ar
  have ew:=bK.bW.free (bF h1.objs.size)
  obtain⟨cQ,bh⟩:=bK.cell (listOf bG.toArray 0) (.list vs) rfl (.list (hA _ rfl) (bo.bb (ag.ra (n:=cH.next) ew).1 (hb _)))
  exact cc<|wpN.of<|lb (d8.to ar _ _ _ _ (bO.trans ab bh) (cI ab (hb _)) cQ F4) (GL bo aJ))
noncomputable def bq(F:b4)(eh:iZ):cy:=λaa σ=>(eh aa σ).bind λr=>F r.1 r.2
theorem j0{f e:bX}{rest:List bX}{pos:bz}{id:String}{eh:iZ}{F:b4}(hf:bx prog w h₁ own env ns k (aR f env) (U (.cb (.builtin id))))(h:nF prog w h₁ own env ns k (h6 (fb pos (d7 (e::rest) env))) eh)
 (h8:OpOk prog w h₁ k (λvs=>cF (.builtin id) vs) F)(ao:autoParam (d7 (e::rest) env=(false,aR e env)::d7 rest env) aN._auto_1)(h2:autoParam (((fb pos (d7 rest env)).any λx=>x.fst)=false) aN._auto_1)
 (az:autoParam (aR (f.Call (e::rest) [] pos) env=(do let g<-aR f env;nD pos g [] (fb pos (d7 (e::rest) env)) (nB pos (nE [] env)))) aN._auto_1):
 bx prog w h₁ own env ns k (aR (.Call f (e::rest) [] pos) env) (bq F eh):=
 .of λA W aa σ s Q E aH ar R=>by
 rw[az]
 refine bc (hf A W aa σ _ σ s _ E aH rfl R λjd kB fg tk jl I hR mv=>?_)
 rw[show kB=_ from mv.bt]
 refine ve rfl (by rw[ao];exact h2) ?_
 rw[ao] at h⊢
 exact vf (h.go aH ar.bind hR λvs cH ar bC bG h1 c0 bO ab bK bo=>bK.od (s:={s with heap:=h1,toks:=c0}) h8 aH ar bo λv a4 c=>c.then (jl.trans I bO) (cI I ab))
theorem ib{f e:bX}{rest:List bX}{pos:bz}{T:String}{eh:iZ}{F:b4}(hf:bx prog w h₁ own env ns k (aR f env) (U (.cb (.type T))))(h:nF prog w h₁ own env ns k (h6 (fb pos (d7 (e::rest) env))) eh)
 (h8:OpOk prog w h₁ k (λvs=>cF (.type T) vs) F)(ao:autoParam (d7 (e::rest) env=(false,aR e env)::d7 rest env) aN._auto_1)(h2:autoParam (((fb pos (d7 rest env)).any λx=>x.fst)=false) aN._auto_1)
 (az:autoParam (aR (f.Call (e::rest) [] pos) env=(do let g<-aR f env;nD pos g [] (fb pos (d7 (e::rest) env)) (nB pos (nE [] env)))) aN._auto_1):
 bx prog w h₁ own env ns k (aR (.Call f (e::rest) [] pos) env) (bq F eh):=
 .of λA W aa σ s Q E aH ar R=>by
 rw[az]
 refine bc (hf A W aa σ _ σ s _ E aH rfl R λjd kB fg tk jl I hR mv=>?_)
 rw[show kB=_ from mv.bt]
 refine ve rfl (by rw[ao];exact h2) ?_
 rw[ao] at h⊢
 exact vf (h.go aH ar.bind hR λvs cH ar bC bG h1 c0 bO ab bK bo=>bK.od (s:={s with heap:=h1,toks:=c0}) h8 aH ar bo λv a4 c=>c.then (jl.trans I bO) (cI I ab))
theorem cZ{f e:bX}{rest:List bX}{pos:bz}{fa:a6}{o:bM}{fd:d3}{eh:iZ}{F:b4}(aK:h₁.get? fa=some o)(aD:o.data=.func fd)(hf:bx prog w h₁ own env ns k (aR f env) (U (.cb (.ref fa))))(h:nF prog w h₁ own env ns k (h6 (fb pos (d7 (e::rest) env))) eh)
 (h8:OpOk prog w h₁ k (λvs=>cF (.ref fa) vs) F)(ao:autoParam (d7 (e::rest) env=(false,aR e env)::d7 rest env) aN._auto_1)(h2:autoParam (((fb pos (d7 rest env)).any λx=>x.fst)=false) aN._auto_1)
 (az:autoParam (aR (f.Call (e::rest) [] pos) env=(do let g<-aR f env;nD pos g [] (fb pos (d7 (e::rest) env)) (nB pos (nE [] env)))) aN._auto_1):
 bx prog w h₁ own env ns k (aR (.Call f (e::rest) [] pos) env) (bq F eh):=
 .of λA W aa σ s Q E aH ar R=>by
 rw[az]
 refine bc (hf A W aa σ _ σ s _ E aH rfl R λjd kB fg tk jl I hR mv=>?_)
 rw[show kB=_ from mv.bt]
 refine PS (o:=o) (fd:=fd) (by rw[ao];exact h2) ?_
 rw[ao] at h⊢
 exact vf (h.go aH ar.bind hR λvs cH ar bC bG h1 c0 bO ab bK bo=>⟨⟨bK.bW.old _ _ aK,aD⟩,bK.od (s:={s with heap:=h1,toks:=c0}) h8 aH ar bo λv a4 c=>c.then (jl.trans I bO) (cI I ab)⟩)
end Internal
namespace Internal
open PySem PySem.W PyProof.Rows PySem.Calls
variable{prog:cD}{w:cm}{h₁:a9}{K:fH}{own:Bool}{env:dc}{ns:List aV}{k:Nat}
noncomputable def qD(own:Bool)(env:dc)(x:aV):Prop:=env.kindOf x=some .local\/(own=true/\env.kindOf x=some .cell/\(env.cells.lookup x).isSome=true)
theorem O3{aa:Loc}{i aj:Nat}{v u:C}(bZ:(aa.set i (some v))[aj]? =some (some u)):(aj=i/\u=v)\/(aj≠i/\aa[aj]? =some (some u)):=by
 rw[List.getElem?_set] at bZ
 by_cases e:i=aj
 .rw[if_pos e] at bZ
  by_cases q:i<aa.length
  .rw[if_pos q] at bZ;exact .inl ⟨e.symm,(cx (cx bZ)).symm⟩
  .rw[if_neg q] at bZ;exact au bZ
 .rw[if_neg e] at bZ;exact .inr ⟨λq=>e q.symm,bZ⟩
theorem Ox{i aj:Nat}{x y:aV}(a3:ns.Nodup)(ay:ns[i]? =some x)(c2:aj≠i)(bQ:ns[aj]? =some y):y≠x:=λe=>
 c2 ((List.getElem?_inj (nu.mp bQ).1 a3).mp (bQ.trans (e▸ay.symm)))
theorem bT.Gh{W:ag}{aa:Loc}{σ:St}{h:a9}(R:bT prog w h₁ own env ns W aa σ h){y:aV}{c:a6}(az:env.cells.lookup y=some c):c≠env.locals:=by
 rcases R.cells y c az with⟨_,_,q⟩|⟨_,o,q⟩
 .exact q
 .exactλe=>bS.no R.l (e▸q)
theorem bT.storeName{A:b8}{W:ag}{aa:Loc}{σ:St}{s:aB}{i:Nat}{x:aV}{v:C}{ax:af}{Q:Unit->aB->Prop}{E:af->aB->Prop}
 (R:bT prog w h₁ own env ns W aa σ s.heap)(ay:ns[i]? =some x)(a3:ns.Nodup)(a':aQ prog w W σ.next v ax)(hk:qD own env x)(hf:env.scope.kind=.function)
 (aW:∀h' c6,bT prog w h₁ own env ns W (aa.set i (some v)) σ h'->Q () {s with heap:=h',toks:=c6}):wpAny (bp prog w) A (storeName env x ax) Q E s:=by
 rcases hk with aJ|⟨aK,az,hs⟩
 .obtain⟨m,hm,f⟩:=R.aa
  refine wpAny_storeName_local aJ hm (λh' Ma hs=>aW h' _ ⟨R.bW.sameBut hs (.inr ⟨R.l,?_⟩),R.l,R.cells,R.apart,λy c az=>?_,_,Ma,λaj u bZ=>?_⟩) (by rw[hf];rfl)
  .obtain⟨o,_,_,aK,_⟩:=Ma;exact⟨o,aK⟩
  .obtain⟨ni,z⟩:=R.pj y c az
   exact⟨ni,z.sameBut hs (R.Gh az)⟩
  .rcases O3 bZ with⟨e,DQ⟩|⟨c2,bZ⟩
   .rw[e,DQ];exact⟨x,ax,ay,a',.inl ⟨aJ,if_pos rfl⟩⟩
   .obtain⟨y,gQ,bQ,aL,jJ⟩:=f aj u bZ
    exact⟨y,gQ,bQ,aL,jJ.imp (λq=>⟨q.1,(if_neg (Ox a3 ay c2 bQ)).trans q.2⟩) λ⟨q,c,az,z⟩=>⟨q,c,az,z.sameBut hs (R.Gh az)⟩⟩
 .obtain⟨c,lu⟩:=vz.mp hs
  obtain⟨ni,z⟩:=R.pj x c lu
  obtain⟨m,hm,f⟩:=R.aa
  have gq:=R.Gh lu
  have e1:W.role c=.aa:=by
   rcases R.cells x c lu with⟨_,a,_⟩|⟨q,_⟩
   .exact a
   .rw[aK] at q;exact AE q
  refine wpAny_storeName_cell hf az lu z λh' Hc hs=>aW h' s.toks ⟨R.bW.sameBut hs (.inr ⟨e1,Hc.elim λo q=>⟨o,q.1⟩⟩),R.l,R.cells,R.apart,λy d aD=>?_,m,hm.sameBut hs (Ne.symm gq),λaj u bZ=>?_⟩
  .by_cases e:d=c
   .rw[e];exact⟨_,Hc⟩
   .obtain⟨afs,q⟩:=R.pj y d aD
    exact⟨afs,q.sameBut hs e⟩
  .rcases O3 bZ with⟨e,DQ⟩|⟨c2,bZ⟩
   .rw[e,DQ];exact⟨x,ax,ay,a',.inr ⟨.inl az,c,lu,Hc⟩⟩
   .obtain⟨y,gQ,bQ,aL,jJ⟩:=f aj u bZ
    exact⟨y,gQ,bQ,aL,jJ.imp id λ⟨q,d,aD,p⟩=>⟨q,d,aD,p.sameBut hs λe=>Ox a3 ay c2 bQ (R.apart y x _ aD (e▸lu))⟩⟩
noncomputable def aG:ck:=λaa σ=>some (.next,aa,σ)
noncomputable def aq(D eh:ck):ck:=λaa σ=>(D aa σ).bind λr=>match r with
 |(.next,aa,σ)=>eh aa σ
 |r=>some r
theorem hl.to{W:ag}{σ:St}{s:aB}{Q:gJ->aB->Prop}{f:dp}{p:Loc×St}(h:aM (some (f,p)) (hl prog w h₁ env ns W σ s Q)):hl prog w h₁ env ns W σ s Q f p:=h
theorem hl.here{W:ag}{aa:Loc}{σ:St}{s:aB}{Q:gJ->aB->Prop}{f:dp}{ig:gJ}(h:hl prog w h₁ env ns W σ s Q f (aa,σ))(R:bT prog w h₁ true env ns W aa σ s.heap)(r:mM prog w W σ.next f ig):Q ig s:=h W ig s.heap s.toks ag.le.refl (bF _) R r
theorem hl.then{W bC:ag}{σ cH:St}{s:aB}{h1:a9}{c0:Nat}{Q:gJ->aB->Prop}{f:dp}{p:Loc×St}(h:hl prog w h₁ env ns W σ s Q f p)(bO:W.le σ.next bC)(ab:σ.next<=cH.next):hl prog w h₁ env ns bC cH {s with heap:=h1,toks:=c0} Q f p:=
 λbR f2 h2 tk2 bh aF cQ bY=>h bR f2 h2 tk2 (bO.trans ab bh) (cI ab aF) cQ bY
theorem bu:SOk prog w h₁ env ns k (dr [] env) aG:=
 .of λA W aa σ s Q E aH ar R=>wpN.of<|ys (hl.here ar R trivial)
theorem aX{st:dG}{rest:List dG}{D eh:ck}(h:SOk prog w h₁ env ns k (hg st env) D)(aL:SOk prog w h₁ env ns k (dr rest env) eh):SOk prog w h₁ env ns k (dr (st::rest) env) (aq D eh):=
 .of λA W aa σ s Q E aH ar R=>afU (h.go aH ar.bind R λf1 p ar bC agM h1 c0 bO ab bK bo=>by
  revert ar
  refine mM.uV bo (λar=>?_) (λar=>?_) (λar=>?_) (λv ax gf ar=>?_)
  .exact aL.go aH ar bK λf2 k4 c=>c.then bO ab
  .exact hl.to ar bC _ h1 c0 bO ab bK trivial
  .exact hl.to ar bC _ h1 c0 bO ab bK trivial
  .exact hl.to ar bC _ h1 c0 bO ab bK gf)
noncomputable def cC(i:Nat)(D:cy):ck:=λaa σ=>(D aa σ).bind λr=>some (.next,aa.set i (some r.1),r.2)
theorem eF{x:aV}{i:Nat}{jM pos:bz}{e:bX}{D:cy}(h:bx prog w h₁ true env ns k (aR e env) D)(ay:ns[i]? =some x)(a3:ns.Nodup)(hk:qD true env x)(hf:autoParam (env.scope.kind=.function) aN._auto_1)
 (hs:autoParam (qu e (some (.Name x jM)) pos.line env=pure false) aN._auto_1):SOk prog w h₁ env ns k (hg (.Assign [.Name x jM] e pos) env) (cC i D):=
 .of λA W aa σ s Q E aH ar R=>afC (h.go aH ar.bind R λeS cH ar bC d5 h1 c0 bO ab bK bo=>
  wpN.of<|wpAny_bindName<|bK.storeName (s:={s with heap:=h1,toks:=c0}) ay a3 bo hk hf λh2 tk2 cQ=>hl.to ar bC _ h2 tk2 bO ab cQ trivial) hs
noncomputable def bP(D:cy):ck:=λaa σ=>(D aa σ).bind λr=>some (.ret r.1,aa,r.2)
theorem de{e:bX}{pos:bz}{D:cy}(h:bx prog w h₁ true env ns k (aR e env) D):SOk prog w h₁ env ns k (hg (.Return (some e) pos) env) (bP D):=
 .of λA W aa σ s Q E aH ar R=>afL (h.go aH ar.bind R λeS cH ar bC d5 h1 c0 bO ab bK bo=>hl.to ar bC _ h1 c0 bO ab bK bo)
noncomputable def b9(T:gj)(et dZ:ck):ck:=λaa σ=>(T aa σ).bind λr=>if r.1=true then et aa r.2 else dZ aa r.2
theorem dM{t:bX}{b o:List dG}{pos:bz}{T:gj}{et dZ:ck}(ht:BOk prog w h₁ true env ns k (gT t env (aR t env)) T)(h1:SOk prog w h₁ env ns k (dr b env) et)(h2:SOk prog w h₁ env ns k (dr o env) dZ):
 SOk prog w h₁ env ns k (hg (.If t b o pos) env) (b9 T et dZ):=
 .of λA W aa σ s Q E aH ar R=>afJ (ht.go aH ar.bind R λkQ cH ar bC b1 q1 c0 bO ab bK bo=>by
  rw[show kQ=b1 from bo] at ar
  rcases b1 with _|_
  .exact h2.go aH ar bK λf2 k4 c=>c.then bO ab
  .exact h1.go aH ar bK λf2 k4 c=>c.then bO ab)
noncomputable def wi:ck:=λaa σ=>some (.brk,aa,σ)
noncomputable def wk:ck:=λaa σ=>some (.cont,aa,σ)
theorem adO{pos:bz}:SOk prog w h₁ env ns k (hg (.Break pos) env) wi:=.of λA W aa σ s Q E aH ar R=>wpN.of<|wpAny_Break (hl.here ar R trivial)
theorem adP{pos:bz}:SOk prog w h₁ env ns k (hg (.Continue pos) env) wk:=.of λA W aa σ s Q E aH ar R=>wpN.of<|wpAny_Continue (hl.here ar R trivial)
noncomputable def eB(D:cy):ck:=λaa σ=>(D aa σ).bind λr=>some (.next,aa,r.2)
theorem i9{e:bX}{pos:bz}{D:cy}(h:bx prog w h₁ true env ns k (aR e env) D)(hi:autoParam (interactive env=false) aN._auto_1)(hs:autoParam (qu e none pos.line env=pure false) aN._auto_1):SOk prog w h₁ env ns k (hg (.Expr e pos) env) (eB D):=by
 refine .of λA W aa σ s Q E aH ar R=>?_
 rw[exec_Expr env e pos hi hs]
 exact bc (eP (bc (h.go aH ar.bind R λeS cH ar bC d5 h1 c0 bO ab bK bo=>wpN.of<|wpAny_dropValue (hl.to ar bC _ h1 c0 bO ab bK trivial))))
noncomputable def r9(i:Nat)(F:b4)(D:cy):ck:=λaa σ=>(J i aa σ).bind λo=>(D aa o.2).bind λr=>(F [o.1,r.1] r.2).bind λq=>some (.next,aa.set i (some q.1),q.2)
theorem OY{x:aV}{i:Nat}{jM pos:bz}{op:Operator}{e:bX}{D:cy}{F:b4}(h:bx prog w h₁ true env ns k (aR e env) D)(h8:OpOk prog w h₁ k (fF (inplaceOp op)) F)(ay:ns[i]? =some x)(a3:ns.Nodup)(hk:env.kindOf x=some .local)(hf:autoParam (env.scope.kind=.function) aN._auto_1):
 SOk prog w h₁ env ns k (hg (.AugAssign (.Name x jM) op e pos) env) (r9 i F D):=by
 refine .of λA W aa σ s Q E aH ar R=>?_
 obtain⟨kB,agF,ia,ar⟩:=ar.bind.cR
 obtain⟨bZ,bg⟩:=M6 ia
 rw[bg] at ar
 obtain⟨m,hm,g⟩:=R.aa
 obtain⟨y,gQ,bQ,aL,hs⟩:=g i _ bZ
 have WN:m x=some gQ:=by
  rw[cx (ay.symm.trans bQ)] at hk⊢
  rcases hs with⟨_,q⟩|⟨q|q,_⟩
  .exact q
  .exact nomatch hk.symm.trans q
  .exact nomatch hk.symm.trans q
 exact afE (wpN.of<|Hz hf hk hm WN<|h.go aH (aM.bind ar) R λeS cH ar bC d5 h1 c0 bO ab bK bo=>
  bK.od (s:={s with heap:=h1,toks:=c0}) h8 aH (aM.bind ar) (.cons (aL.bb bO.1 ab) (.cons bo .nil)) λhO bN ar bR dR h2 tk2 bh aF cQ bY=>
  wpN.of<|wpAny_bindName<|cQ.storeName (s:={s with heap:=h2,toks:=tk2}) ay a3 bY (.inl hk) hf λaU df dO=>hl.to ar bR _ aU df (bO.trans ab bh) (cI ab aF) dO trivial)
end Internal
namespace Internal
open PySem PySem.W PyProof.Rows PySem.Calls
variable{prog:cD}{w:cm}{h₁:a9}{K:fH}{own:Bool}{env:dc}{ns:List aV}{k:Nat}
noncomputable def aT.v:aT->C
 |.none=>.none
 |.int i=>.int i
 |.str x=>.str x
noncomputable def p5(a b c:Int):List C:=(iW (rF a b c).toNat).map λi=>C.int (a+(i:Nat)*c)
noncomputable def eD:C->St->Option (List C)
 |.bB vs,_=>some vs
 |.bA vs,_=>some vs
 |.bytes b,_=>some (b.map λx=>.int x.toNat)
 |.gc a b c,_=>if x7 a b c=true then some (p5 a b c) else none
 |.cV es,_=>some (es.map λe=>e.1.v)
 |.ref c,σ=>match σ.cells c with
  |some (.list vs)=>some vs
  |_=>none
 |_,_=>none
structure oz (prog:cD) (w:cm) (h₁:a9) (k:Nat) (src:C) (ax:af) (items:List C) (aO:a6) (N:ag->Prop) (P:Nat->bM->Prop):Prop where
 xN:∀W W' n,N W->W.fL n W'->N W'
 cls:∀i o,P i o->∃n,o.cls=.type n/\(["enumerate","zip","dict_itemiterator","dict_reverseitemiterator","odict_iterator","itertools.zip_longest","itertools.pairwise"]:List String).contains n=false
 item:∀(A:b8) (W:ag) (σ:St) i x o (s:aB) (Q:Option af->aB->Prop) (E:af->aB->Prop),fA A k->N W->bL prog w h₁ W σ s.heap->aQ prog w W σ.next src ax->eD src σ=some items->items[i]? =some x->
  s.heap.get? aO=some o->P i o->W.role aO=.fix o->
  (∀d6 h' c6 c',aQ prog w W σ.next x d6->h'.get? aO=some c'->P (i+1) c'->iF aO s.heap h'->Q (some d6) {s with heap:=h',toks:=c6})->wpAny (bp prog w) A (pyNext (.ref aO)) Q E s
 done:∀(A:b8) (W:ag) (σ:St) i o (s:aB) (Q:Option af->aB->Prop) (E:af->aB->Prop),fA A k->N W->bL prog w h₁ W σ s.heap->aQ prog w W σ.next src ax->eD src σ=some items->items[i]? =none->
  i<=items.length->s.heap.get? aO=some o->P i o->W.role aO=.fix o->
  (∀h' c6,Heap.ExtBut aO s.heap h'->Q none {s with heap:=h',toks:=c6})->wpAny (bp prog w) A (pyNext (.ref aO)) Q E s
 self:∀(A:b8) i o (s:aB) (Q:af->aB->Prop) (E:af->aB->Prop),s.heap.get? aO=some o->P i o->Q (.ref aO) s->wpAny (bp prog w) A (pyIter (.ref aO)) Q E s
theorem bH.none{W:ag}{n:Nat}{vs:List C}{bG:List af}(h:bH prog w W n vs bG){i:Nat}(e:vs[i]? =.none):bG[i]? =.none:=by
 rw[Hn] at e⊢
 rw[h.length];exact e
theorem FK{W:ag}{σ:St}{h:a9}{src:C}{ax:af}(R:bL prog w h₁ W σ h)(a':aQ prog w W σ.next src ax){vs:List C}(hs:src=.bB vs\/∃c,src=.ref c/\σ.cells c=some (.list vs)):
 ∃a items,ax=.ref a/\h.IsList a items/\bH prog w W σ.next vs items.toList/\((∃c,W.role a=.cell c)\/∃o,W.role a=.imm o):=by
 rcases hs with e|⟨c,e,az⟩
 .rw[e] at a'
  obtain⟨a,o,i,m,bo,bY,ea,tg,hn⟩:=a'.bt
  exact⟨a,i,hn,⟨_,R.imm _ _ bo,bY,_,ea⟩,tg,.inr ⟨_,bo⟩⟩
 .rw[e] at a'
  obtain⟨_,hn⟩:=a'.bt
  obtain⟨r,q⟩:=R.cell c _ az
  obtain⟨i,m,g,q⟩:=q.bt
  exact⟨_,i,hn,⟨_,g,rfl,_,rfl⟩,q,.inl ⟨_,r⟩⟩
theorem cO.Af{x:Option cO}{vs:List C}(e:(match x with|some (.list vs)=>some vs|_=>none)=some vs):x=some (.list vs):=by
 rcases x with _|(_|_|_|_|_)
 .exact au e
 .exact congrArg (λx=>some (cO.list x)) (cx e)
 .exact au e
 .exact au e
 .exact au e
 .exact au e
theorem Mw{src:C}{ax:af}{items:List C}{a aO:a6}(hs:src=.bB items\/∃c,src=.ref c)(mj:ax=.ref a):
 oz prog w h₁ k src ax items aO (λ_=>True) λi o=>o.cls=.type "list_iterator"/\o.data=.fields #[.ref a,.int i 0]:=by
 subst mj
 have b2:∀{σ:St},eD src σ=some items->src=.bB items\/∃c,src=.ref c/\σ.cells c=some (.list items):=by
  intro σ hi
  rcases hs with e|⟨c,e⟩
  .exact .inl e
  .rw[e] at hi;exact .inr ⟨c,e,cO.Af hi⟩
 refine⟨λ_ _ _ _ _=>trivial,λ_ _ h=>⟨_,h.1,by decide⟩,?_,?_,?_⟩
 .intro A W σ i x o s Q E aH _ R a' hi ay aK c4 di aW
  obtain⟨bD,dW,e,aJ,aL,_⟩:=FK R a' (b2 hi)
  rw[<-kM e] at aJ
  obtain⟨d6,kX,Fp⟩:=aL.get ay
  refine wpAny_pyNext_list_item ⟨o,aK,c4⟩ aJ (by simpa using kX) λh' hit pN=>?_
  obtain⟨c',ho,nT⟩:=hit
  exact aW d6 h' s.toks c' Fp ho nT pN
 .intro A W σ i o s Q E aH _ R a' hi ay pK aK c4 di aW
  obtain⟨bD,dW,e,aJ,aL,_⟩:=FK R a' (b2 hi)
  rw[<-kM e] at aJ
  exact wpAny_pyNext_list_end aH.h ⟨o,aK,c4⟩ aJ (by simpa using aL.none ay) λh' ai=>aW h' s.toks ai
 .intro A i o s Q E aK c4 aW
  exact wpAny_pyIter_listiter ⟨o,aK,c4⟩ aW
theorem XS{ax:af}{items:List C}{a aO:a6}(mj:ax=.ref a):oz prog w h₁ k (.bA items) ax items aO (λ_=>True) λi o=>o.cls=.type "tuple_iterator"/\o.data=.fields #[.ref a,.int i 0]:=by
 subst mj
 refine⟨λ_ _ _ _ _=>trivial,λ_ _ h=>⟨_,h.1,by decide⟩,?_,?_,?_⟩
 .intro A W σ i x o s Q E aH _ R a' hi ay aK c4 di aW
  .obtain⟨_,dW,m,bo,aL,e⟩:=a'.bt
   rw[<-kM e] at bo
   obtain⟨d6,kX,Fp⟩:=aL.get ay
   refine wpAny_pyNext_tuple_item ⟨o,aK,c4⟩ ⟨_,R.imm _ _ bo,rfl,_,rfl⟩ (by simpa using kX) λh' hit pN=>?_
   obtain⟨c',ho,nT⟩:=hit
   exact aW d6 h' s.toks c' Fp ho nT pN
 .intro A W σ i o s Q E aH _ R a' hi ay pK aK c4 di aW
  .obtain⟨_,dW,m,bo,aL,e⟩:=a'.bt
   rw[<-kM e] at bo
   exact wpAny_pyNext_tuple_end aH.h ⟨o,aK,c4⟩ ⟨_,R.imm _ _ bo,rfl,_,rfl⟩ (by simpa using aL.none ay) λh' ai=>aW h' s.toks ai
 .intro A i o s Q E aK c4 aW
  exact wpAny_pyIter_tupleiter ⟨o,aK,c4⟩ aW
theorem XO{ax:af}{b:List UInt8}{t:d4}{aO:a6}(mj:ax=.bytes b.toArray t):oz prog w h₁ k (.bytes b) ax (b.map λx=>C.int x.toNat) aO (λ_=>True) λi o=>o.cls=.type "bytes_iterator"/\o.data=.fields #[.bytes b.toArray t,.int i 0]:=by
 subst mj
 refine⟨λ_ _ _ _ _=>trivial,λ_ _ h=>⟨_,h.1,by decide⟩,?_,?_,?_⟩
 .intro A W σ i x o s Q E aH _ R a' hi ay aK c4 di aW
  rw[mz] at ay
  obtain⟨y,bQ,rfl⟩:=hc.mp ay
  refine KBw.next_item (b:=b.toArray) ⟨o,aK,c4⟩ (by simpa using bQ) λh' hit pN=>?_
  obtain⟨c',ho,nT⟩:=hit
  exact aW _ h' _ c' (.int _ _) ho nT pN
 .intro A W σ i o s Q E aH _ R a' hi ay pK aK c4 di aW
  rw[mz,Option.map_eq_none_iff] at ay
  exact KBw.next_end (b:=b.toArray) aH.h ⟨o,aK,c4⟩ (by simpa using ay) λh' ai=>aW h' s.toks ai
 .intro A i o s Q E aK c4 aW
  exact KBw.pyIter_self (b:=b.toArray) (i:=i) ⟨o,aK,c4⟩ aW
theorem adI{a b c:Int}{i:Nat}{x:C}(h:(p5 a b c)[i]? =some x):x=.int (a+(i:Nat)*c)/\(i:Int)<rF a b c:=by
 unfold p5 at h
 rw[mz] at h
 obtain⟨aj,c2,rfl⟩:=hc.mp h
 obtain⟨h1,h2⟩:=nu.mp c2
 rw[Ho] at h2
 subst h2
 rw[qj] at h1
 exact⟨rfl,by exact aE.ab5 h1⟩
theorem adJ{a b c:Int}{i:Nat}(h:(p5 a b c)[i]? =none)(hi:i<=(p5 a b c).length):rF a b c-(i:Int)<=0:=by
 rw[Hn] at h
 unfold p5 at h
 rw[ez,qj] at h
 exact aE.ab6 h
theorem XR{ax:af}{a b c:Int}{aO:a6}:oz prog w h₁ k (.gc a b c) ax (p5 a b c) aO (λ_=>True) λi o=>o={cls:=.type "range_iterator",dict:=none,data:=.fields #[jT (a+(i:Nat)*c),jT (rF a b c-(i:Nat)),jT c],slots:= #[]}:=by
 refine⟨λ_ _ _ _ _=>trivial,λ_ _ h=>by subst h;exact⟨_,rfl,by decide⟩,?_,?_,?_⟩
 .intro A W σ i x o s Q E aH _ R a' hi ay aK c4 di aW
  subst c4
  obtain⟨rfl,dQ⟩:=adI ay
  refine wpAny_pyNext_range_item aK (by exact aE.ab7 dQ) λh' hit pN=>?_
  refine aW _ h' _ _ (.int _ _) hit ?_ pN
  have bj:a+(i:Nat)*c+c=a+((i+1:Nat):Int)*c:=by rw[Bt,Int.add_mul];simp[Bs]
  have bg:rF a b c-(i:Nat)-1=rF a b c-((i+1:Nat):Int):=by exact aE.ab8
  rw[bj,bg]
 .intro A W σ i o s Q E aH _ R a' hi ay pK aK c4 di aW
  subst c4
  exact wpAny_pyNext_range_end aH.h aK (adJ ay pK) λh' ai=>aW h' s.toks ai
 .intro A i o s Q E aK c4 aW
  subst c4
  exact wpAny_pyIter_rangeiter aK aW
theorem eW.length{W:ag}{n:Nat}{es:List (aT×C)}{kvs:List (aT×af)}(r:eW prog w W n es kvs):kvs.length=es.length:=r.ind (P:=λes kvs=>kvs.length=es.length) rfl λ_ _ a7=>congrArg Nat.succ a7
theorem RG{W:ag}{n:Nat}{k:aT}{ax:af}(h:ll k ax=true):aQ prog w W n k.v ax:=by
 rcases Jj h with⟨rfl,rfl⟩|⟨i,t,rfl,rfl⟩|⟨x,t,rfl,rfl⟩
 .exact .none
 .exact .int _ _
 .exact .str _ _
theorem XQ{es:List (aT×C)}{ax:af}{d aO:a6}{xA:bM}{ep:Nat}{ff:Array nr}{kvs:List (aT×af)}(mj:ax=.ref d)(Mi:xA.ExactDict)(aD:xA.data=.dict ff ep)(hk:KeysOf (ix prog w) ff)(hp:Pairs (ix prog w) ff.toList kvs)(a3:(kvs.map (·.1)).Nodup)
 (aJ:kvs.map (·.1)=es.map (·.1)):
 oz prog w h₁ k (.cV es) ax (es.map λe=>e.1.v) aO (λW=>W.role d=.imm xA) λi o=>o.cls=.type "dict_keyiterator"/\o.data=.fields #[.ref d,.int i 0,.int kvs.length 0,.int ep 0]:=by
 subst mj
 have len:kvs.length=es.length:=by simpa using congrArg List.length aJ
 refine⟨λ_ _ _ h l=>l.1 _ _ h,λ_ _ h=>⟨_,h.1,by decide⟩,?_,?_,?_⟩
 .intro A W σ i x o s Q E aH jI R a' hi ay aK c4 di aW
  have at':s.heap.DictAt (ix prog w) d kvs ep:=⟨xA,ff,R.imm _ _ jI,Mi,aD,hk,hp,a3⟩
  rw[mz] at ay
  obtain⟨⟨a,u⟩,bQ,rfl⟩:=hc.mp ay
  have uh:(kvs.map (·.1))[i]? =some a:=by rw[aJ,mz,bQ];rfl
  rw[mz] at uh
  obtain⟨⟨bD,gQ⟩,hz,e⟩:=hc.mp uh
  cases e
  refine wpAny_pyNext_dict_item (it:=aO) (i:=i) ⟨o,aK,c4⟩ at' hz λkey h' Wz hit pN=>?_
  obtain⟨c',ho,nT⟩:=hit
  exact aW _ h' s.toks c' (RG Wz) ho nT pN
 .intro A W σ i o s Q E aH jI R a' hi ay pK aK c4 di aW
  have at':s.heap.DictAt (ix prog w) d kvs ep:=⟨xA,ff,R.imm _ _ jI,Mi,aD,hk,hp,a3⟩
  refine wpAny_pyNext_dict_end (it:=aO) (i:=i) aH.h ⟨o,aK,c4⟩ at' ?_ λh' ai=>aW h' s.toks ai
  rw[Hn] at ay⊢
  rw[ez] at ay;exact aE.ab9 len ay
 .intro A i o s Q E aK c4 aW
  exact wpAny_pyIter_keyiter (i:=i) ⟨o,aK,c4⟩ aW
theorem eW.i5{W:ag}{n:Nat}{es:List (aT×C)}{kvs:List (aT×af)}(r:eW prog w W n es kvs):kvs.map (·.1)=es.map (·.1):=r.ind (P:=λes kvs=>kvs.map (·.1)=es.map (·.1)) rfl λ_ _ a7=>congrArg (List.cons _) a7
noncomputable def Qv(prog:cD)(w:cm)(h₁:a9)(k:Nat)(W:ag)(s:aB)(Q:af->aB->Prop)(items:List C)(src:C)(ax:af):Prop:=
 ∀o N P,o.isFreed=false->N W->P 0 o->oz prog w h₁ k src ax items s.heap.objs.size N P->Q (.ref s.heap.objs.size) {s with heap:=s.heap.push o}
theorem Gz{A:b8}{W:ag}{σ:St}{s:aB}{src:C}{ax:af}{items:List C}{Q E:af->aB->Prop}(R:bL prog w h₁ W σ s.heap)(a':aQ prog w W σ.next src ax)(hi:eD src σ=some items)
 (aW:∀o N P,o.isFreed=false->N W->P 0 o->oz prog w h₁ k src ax items s.heap.objs.size N P->Q (.ref s.heap.objs.size) {s with heap:=s.heap.push o}):wpAny (bp prog w) A (pyIter ax) Q E s:=
 aQ.casesOn (motive_1:=λsrc ax _=>eD src σ=some items->Qv prog w h₁ k W s Q items src ax->wpAny (bp prog w) A (pyIter ax) Q E s) a' (λhi _=>au hi) (λ_ hi _=>au hi) (λ_ _ hi _=>au hi) (λ_ _ hi _=>au hi)
  (λb t hi aW=>by
    rw[<-cx hi] at aW
    exact KBw.pyIter_bytes (aW _ _ _ rfl trivial ⟨rfl,rfl⟩ (XO rfl)))
  (λbo _ hi aW=>by
    rw[<-cx hi] at aW
    exact wpAny_pyIter_tuple ⟨_,R.imm _ _ bo,rfl,_,rfl⟩ (aW _ _ _ rfl trivial ⟨rfl,rfl⟩ (XS rfl)))
  (λbo bY ea _ hi aW=>wpAny_pyIter_list ⟨_,R.imm _ _ bo,bY,_,ea⟩ (aW _ _ _ rfl trivial ⟨rfl,rfl⟩ (Mw (.inl (congrArg C.bB (cx hi))) rfl)))
  (λr z c q hi aW=>by
    obtain⟨oE,ff,ep,aD,hk,hp,a3⟩:=c
    rw[<-cx hi] at aW
    exact wpAny_pyIter_dict z ⟨_,_,R.imm _ _ r,oE,aD,hk,hp,a3⟩ (aW {cls:=.type "dict_keyiterator",data:=.fields #[.ref _,.int 0 0,.int _ 0,.int ep 0]} _ _ rfl r ⟨rfl,rfl⟩ (XQ rfl oE aD hk hp a3 q.i5)))
  (λ{_ a b c _ _ _} r hi aW=>by
    have hi:(if x7 a b c=true then some (p5 a b c) else none)=some items:=hi
    by_cases Fj:x7 a b c=true
    .rw[if_pos Fj] at hi
     rw[<-cx hi] at aW
     exact wpAny_pyIter_range (R.imm _ _ r) Fj (aW _ _ _ rfl trivial (by simp) XR)
    .rw[if_neg Fj] at hi;exact au hi)
  (λ{c} _ hi aW=>by
    obtain⟨i,m,g,q⟩:=(R.cell c _ (cO.Af hi)).2.bt
    exact wpAny_pyIter_list ⟨_,g,rfl,_,rfl⟩ (aW _ _ _ rfl trivial ⟨rfl,rfl⟩ (Mw (.inr ⟨c,rfl⟩) rfl)))
  (λ_ hi _=>au hi) hi aW
end Internal
namespace Internal
open PySem PySem.W PyProof.Rows PySem.Calls
variable{prog:cD}{w:cm}{h₁:a9}{K:fH}{own:Bool}{env:dc}{ns:List aV}{k:Nat}
variable(prog w h₁ own env ns k) in
noncomputable def mN(t:bX)(bind:C->Loc->Option Loc):Prop:=
 ∀(A:b8) (W:ag) (aa mm:Loc) (σ:St) v ax (s:aB) (Q:Unit->aB->Prop) (E:af->aB->Prop),fA A k->bind v aa=some mm->bT prog w h₁ own env ns W aa σ s.heap->aQ prog w W σ.next v ax->
  (∀h' c6,bT prog w h₁ own env ns W mm σ h'->Q () {s with heap:=h',toks:=c6})->wpAny (bp prog w) A (ot t env ax) Q E s
noncomputable def dD(i:Nat):C->Loc->Option Loc:=λv aa=>some (aa.set i (some v))
theorem gP{x:aV}{p:bz}{i:Nat}(ay:ns[i]? =some x)(a3:ns.Nodup)(hk:qD own env x)(hf:autoParam (env.scope.kind=.function) aN._auto_1):mN prog w h₁ own env ns k (.Name x p) (dD i):=by
 intro A W aa mm σ v ax s Q E aH ai R a' aW
 cases ai
 exact wpAny_assign_Name (R.storeName ay a3 a' hk hf aW)
noncomputable def iT:List Nat->List C->Loc->Loc
 |i::is,v::vs,aa=>iT is vs (aa.set i (some v))
 |_,_,aa=>aa
noncomputable def eA(is:List Nat):C->Loc->Option Loc:=λv aa=>match v with
 |.bA vs=>if vs.length=is.length then some (iT is vs aa) else none
 |_=>none
variable(own env ns) in
inductive r4:List bX->List Nat->Prop
 |nil:r4 [] []
 |cons {x:aV} {p:bz} {i:Nat} {es:List bX} {is:List Nat}:ns[i]? =some x->qD own env x->r4 es is->r4 (.Name x p::es) (i::is)
theorem r4.Kj{es:List bX}{is:List Nat}(h:r4 own env ns es is):(nA es env).length=is.length/\(nA es env).findIdx? (λx=>x.1)=none:=by
 induction h with
 |nil=>exact⟨rfl,rfl⟩
 |@cons x p i es is _ _ _ a7=>
  have e:nA (.Name x p::es) env=(false,ot (.Name x p) env)::nA es env:=rfl
  rw[e]
  refine⟨by rw[gD,gD,a7.1],?_⟩
  rw[List.findIdx?_cons,a7.2];rfl
theorem aeY{A:b8}{W:ag}{σ:St}{E:af->aB->Prop}(a3:ns.Nodup)(hf:env.scope.kind=.function){es:List bX}{is:List Nat}(h:r4 own env ns es is):
 ∀{vs:List C} {bG:List af} {aa:Loc} {s:aB} {Q:Unit->aB->Prop},vs.length=is.length->bH prog w W σ.next vs bG->bT prog w h₁ own env ns W aa σ s.heap->
  (∀h' c6,bT prog w h₁ own env ns W (iT is vs aa) σ h'->Q () {s with heap:=h',toks:=c6})->
  wpAny (bp prog w) A (assignInOrder ((nA es env).map (·.2)) bG) Q E s:=by
 induction h with
 |nil=>
  intro vs bG aa s Q aJ a' R aW
  induction vs with
  |nil=>cases a';exact wpAny_assignInOrder_none (aW s.heap s.toks R)
  |cons _ _=>cases aJ
 |@cons x p i es is ay hk _ a7=>
  intro vs bG aa s Q aJ a' R aW
  cases a' with
  |nil=>cases aJ
  |cons a b=>
   have e:nA (.Name x p::es) env=(false,ot (.Name x p) env)::nA es env:=rfl
   rw[e]
   refine wpAny_assignInOrder_more (wpAny_assign_Name (R.storeName ay a3 a hk hf λh1 c0 bK=>?_))
   exact a7 (s:={s with heap:=h1,toks:=c0}) (by simpa using aJ) b bK aW
theorem bT.me{W:ag}{aa:Loc}{σ:St}{h h':a9}(R:bT prog w h₁ own env ns W aa σ h)(e:∀b o,h.get? b=some o->h'.get? b=some o):bT prog w h₁ own env ns W aa σ h':=
 R.next (R.bW.me e) ag.le.refl (bF _) λa ha=>by
  obtain⟨o,aK⟩:=R.bW.live a (bS.ne ha)
  rw[aK,e a o aK]
theorem Jz{is:List Nat}{v:C}{aa mm:Loc}(h:eA is v aa=some mm):∃vs,v=.bA vs/\vs.length=is.length/\mm=iT is vs aa:=
 C.casesOn (motive_1:=λv=>eA is v aa=some mm->∃vs,v=.bA vs/\vs.length=is.length/\mm=iT is vs aa) v (λh=>au h) (λ_ h=>au h) (λ_ h=>au h) (λ_ h=>au h) (λ_ h=>au h) (λvs h=>by
  have h:(if vs.length=is.length then some (iT is vs aa) else none)=some mm:=h
  by_cases e:vs.length=is.length
  .rw[if_pos e] at h;exact⟨vs,rfl,e,(cx h).symm⟩
  .rw[if_neg e] at h;exact au h) (λ_ h=>au h) (λ_ h=>au h) (λ_ _ _ h=>au h) (λ_ h=>au h) (λ_ h=>au h) h
theorem jO{es:List bX}{is:List Nat}{aj:Nat}{p:bz}(h:r4 own env ns es is)(a3:ns.Nodup)(hf:autoParam (env.scope.kind=.function) aN._auto_1):mN prog w h₁ own env ns k (.Tuple es aj p) (eA is):=by
 intro A W aa mm σ v ax s Q E aH ai R a' aW
 obtain⟨vs,hn,aJ,fJ⟩:=Jz ai
 rw[hn] at a'
 rw[fJ] at aW
 obtain⟨a,items,m,bo,aL,e⟩:=a'.bt
 rw[e]
 refine wpAny_assign_Tuple aH.h ⟨_,R.bW.imm _ _ bo,rfl,_,rfl⟩ ?_ h.Kj.2 λh' ai=>?_
 .rw[h.Kj.1,<-aJ,<-aL.length,fN]
 .exact aeY (s:={s with heap:=h'}) a3 hf h aJ aL (R.me λb o e=>ai b o (eL (ka e)) e) aW
noncomputable def gC(bind:C->Loc->Option Loc)(D:cy):ck:=λaa σ=>(D aa σ).bind λr=>(bind r.1 aa).bind λl=>some (.next,l,r.2)
theorem my{t:bX}{e:bX}{pos:bz}{bind:C->Loc->Option Loc}{D:cy}(h:bx prog w h₁ true env ns k (aR e env) D)(ht:mN prog w h₁ true env ns k t bind)(agU:autoParam (d7 [t] env=[(false,aR t env)]) aN._auto_1)
 (ha:autoParam ((nA [t] env).map (·.2)=[ot t env]) aN._auto_1)(hs:autoParam (swapsWithSole [t] e pos.line env=pure false) aN._auto_1)(hw:autoParam (swappedStores [t] e env=pure none) aN._auto_1):SOk prog w h₁ env ns k (hg (.Assign [t] e pos) env) (gC bind D):=by
 refine .of λA W aa σ s Q E aH ar R=>afD (h.go aH ar.bind R λeS cH ar bC d5 h1 c0 bO ab bK bo=>?_) hs hw
 obtain⟨bh,bg,ar⟩:=(aM.iy ar).cR
 rw[ha]
 show wpN _ _ (ot t env d5) _ _ _
 exact wpN.of<|ht A bC aa _ cH eS d5 _ _ E aH bg bK bo λh2 tk2 cQ=>hl.to ar bC _ h2 tk2 bO ab cQ trivial
theorem bH.reverse{W:ag}{n:Nat}{vs:List C}{bG:List af}(r:bH prog w W n vs bG):bH prog w W n vs.reverse bG.reverse:=
 r.ind (P:=λvs bG=>bH prog w W n vs.reverse bG.reverse) .nil λa _ a7=>by rw[ye,ye];exact a7.append (.uW a)
theorem len_ind{α b':Type}{P:List α->List b'->Prop}(n:P [] [])(c:∀a as b br,as.length=br.length->P as br->P (a::as) (b::br))(as:List α):∀br:List b',as.length=br.length->P as br:=by
 induction as with
 |nil=>
  intro br h
  rcases br with _|⟨b,br⟩
  .exact n
  .exact(BN _ h.symm).elim
 |cons a as a7=>
  intro br h
  rcases br with _|⟨b,br⟩
  .exact(BN _ h).elim
  .exact c a as b br (BM h) (a7 br (BM h))
theorem aet{i:Nat}{v:C}(is:List Nat)(vs:List C)(aJ:vs.length=is.length):∀aa:Loc,i∉is->(iT is vs aa).set i (some v)=iT is vs (aa.set i (some v)):=
 len_ind (P:=λvs is=>∀aa:Loc,i∉is->(iT is vs aa).set i (some v)=iT is vs (aa.set i (some v))) (λ_ _=>rfl) (λu vs aj is _ a7 aa Mc=>by
  have e:=a7 (aa.set aj (some u)) λq=>Mc (.tail _ q)
  exact e.trans (congrArg (iT is vs) (List.set_comm _ _ λq:aj=i=>Mc (by rw[q];exact .head _)))) vs is aJ
theorem aev{i:Nat}{v:C}(is:List Nat)(vs:List C)(aJ:vs.length=is.length):∀aa:Loc,iT (is++[i]) (vs++[v]) aa=(iT is vs aa).set i (some v):=
 len_ind (P:=λvs is=>∀aa:Loc,iT (is++[i]) (vs++[v]) aa=(iT is vs aa).set i (some v)) (λ_=>rfl) (λu _ aj _ _ a7 aa=>a7 (aa.set aj (some u))) vs is aJ
theorem aeu{is:List Nat}{vs:List C}(aJ:vs.length=is.length):∀aa:Loc,is.Nodup->iT is.reverse vs.reverse aa=iT is vs aa:=
 len_ind (P:=λvs is=>∀aa:Loc,is.Nodup->iT is.reverse vs.reverse aa=iT is vs aa) (λ_ _=>rfl) (λu vs aj is aJ a7 aa aD=>by
  have h:=kb.mp aD
  rw[ye,ye,aev _ _ (by rw[BF,BF];exact aJ),a7 _ h.2,aet _ _ aJ _ h.1]
  rfl) vs is aJ
theorem aeZ{A:b8}{W:ag}{σ:St}{E:af->aB->Prop}{Q:Unit->aB->Prop}(a3:ns.Nodup)(hf:env.scope.kind=.function){vs:List C}{bG:List af}(a':bH prog w W σ.next vs bG):∀(xs:List aV) (is:List Nat) (aa:Loc) (s:aB),
 xs.map some=is.map (λi=>ns[i]?)->(∀x∈xs,qD own env x)->vs.length=is.length->bT prog w h₁ own env ns W aa σ s.heap->
  (∀h' c6,bT prog w h₁ own env ns W (iT is vs aa) σ h'->Q () {s with heap:=h',toks:=c6})->
  wpAny (bp prog w) A (assignInOrder (xs.map λn=>bindName env n) bG) Q E s:=
 a'.ind (P:=λvs bG=>∀(xs:List aV) (is:List Nat) (aa:Loc) (s:aB),xs.map some=is.map (λi=>ns[i]?)->(∀x∈xs,qD own env x)->vs.length=is.length->bT prog w h₁ own env ns W aa σ s.heap->
  (∀h' c6,bT prog w h₁ own env ns W (iT is vs aa) σ h'->Q () {s with heap:=h',toks:=c6})->wpAny (bp prog w) A (assignInOrder (xs.map λn=>bindName env n) bG) Q E s) (λxs is aa s ay _ aJ R aW=>by
  rcases is with _|⟨i,is⟩
  .rcases xs with _|⟨x,xs⟩
   .exact wpAny_assignInOrder_none (aW s.heap s.toks R)
   .exact(List.cons_ne_nil _ _ ay).elim
  .exact(BN _ aJ.symm).elim) λa _ a7 xs is aa s ay hk aJ R aW=>by
  rcases is with _|⟨i,is⟩
  .exact(BN _ aJ).elim
  .rcases xs with _|⟨x,xs⟩
   .exact(List.cons_ne_nil _ _ ay.symm).elim
   .obtain⟨h1,h2⟩:=rG ay
    refine wpAny_assignInOrder_more (wpAny_bindName (R.storeName h1.symm a3 a (hk x (.head _)) hf λh1 c0 bK=>?_))
    exact a7 xs is _ {s with heap:=h1,toks:=c0} h2 (λy bQ=>hk y (.tail _ bQ)) (BM aJ) bK aW
theorem aQ.afg{W:ag}{σ:St}{h:a9}{n:Nat}{vs:List C}{ax:af}(r:aQ prog w W n (.bA vs) ax)(R:bL prog w h₁ W σ h):∃a items,ax=.ref a/\h.IsTuple a items/\bH prog w W n vs items.toList:=by
 obtain⟨_,_,_,bo,aL,e⟩:=r.bt
 exact⟨_,_,e,⟨_,R.imm _ _ bo,rfl,_,rfl⟩,aL⟩
theorem mx{es:List bX}{is:List Nat}{e:bX}{aj:Nat}{p pos:bz}{D:cy}{xs:List aV}(h:bx prog w h₁ true env ns k (aR e env) D)(ay:xs.map some=is.map λi=>ns[i]?)(hk:∀x∈xs,qD true env x)(a3:ns.Nodup)(aD:is.Nodup)
 (hf:autoParam (env.scope.kind=.function) aN._auto_1)(hs:autoParam (swapsWithSole [.Tuple es aj p] e pos.line env=pure false) aN._auto_1)(hw:autoParam (swappedStores [.Tuple es aj p] e env=pure (some xs)) aN._auto_1):
 SOk prog w h₁ env ns k (hg (.Assign [.Tuple es aj p] e pos) env) (gC (eA is) D):=by
 refine .of λA W aa σ s Q E aH ar R=>?_
 show wpN _ _ (do lW pos;if<-swapsWithSole [.Tuple es aj p] e pos.line env then(do evalThenUse e env λv=>assignAll v ((nA [.Tuple es aj p] env).map (·.2));(pure Flow.next:c8 gJ)) else(do let v<-aR e env;assignStores env v (<-swappedStores [.Tuple es aj p] e env) ((nA [.Tuple es aj p] env).map (·.2)))) _ _ _
 rw[hs]
 refine bc (eP (bc (cS (ml gI (bc (h.go aH ar.bind R λeS cH ar bC d5 h1 c0 bO ab bK bo=>wpN.of<|aP (gK hw ?_)))))))
 show wpAny _ _ (do rule "assign.swapped-stores";let items<-unpackItems d5 xs.length none;assignInOrder (xs.reverse.map λn=>bindName env n) items.reverse;(pure Flow.next:c8 gJ)) _ _ _
 refine fK λG cc=>?_
 obtain⟨bh,bg,ar⟩:=(aM.iy ar).cR
 obtain⟨vs,hn,aJ,fJ⟩:=Jz bg
 rw[show eS=_ from hn] at bo
 rw[fJ] at ar
 obtain⟨a,items,e,ht,aL⟩:=bo.afg bK.bW
 have Xp:xs.length=is.length:=by rw[<-ez (as:=xs) some,ay,ez]
 have Wx:items.size=vs.length:=by rw[<-fN];exact aL.length
 refine cc ?_
 rw[e,show xs.length=items.size from Xp.trans (aJ.symm.trans Wx.symm)]
 refine aP (mF (aP (wpAny_unpackItems_tuple aH.h ht λh2 ai=>aP ?_)))
 have cQ:bT prog w h₁ true env ns bC aa cH h2:=bK.me λb o e=>ai b o (eL (ka e)) e
 refine aeZ a3 hf aL.reverse xs.reverse is.reverse aa {s with heap:=h2,toks:=c0} (by rw[List.map_reverse,ay,List.map_reverse]) (λx ay=>hk x (List.mem_reverse.mp ay)) (by rw[BF,BF];exact aJ) cQ λh' c6 ed=>?_
 rw[aeu aJ _ aD] at ed
 exact bI (hl.to ar bC _ h' c6 bO ab ed trivial)
end Internal
namespace Internal
open PySem PySem.W PyProof.Rows PySem.Calls
variable{prog:cD}{w:cm}{h₁:a9}{K:fH}{own:Bool}{env:dc}{ns:List aV}{k:Nat}
open Classical in
noncomputable def pV(src:C)(items:List C)(bind:C->Loc->Option Loc)(body:ck):List C->ck
 |[],aa,σ=>if eD src σ=some items then some (.next,aa,σ) else none
 |x::rest,aa,σ=>if eD src σ=some items then(bind x aa).bind λFV=>(body FV σ).bind λr=>match r with
   |(.next,l,s)=>pV src items bind body rest l s
   |(.cont,l,s)=>pV src items bind body rest l s
   |(.brk,l,s)=>some (.next,l,s)
   |(.ret v,l,s)=>some (.ret v,l,s)
  else none
noncomputable def gp(D:cy)(bind:C->Loc->Option Loc)(body:ck):ck:=λaa σ=>(D aa σ).bind λr=>(eD r.1 r.2).bind λitems=>pV r.1 items bind body items aa r.2
theorem bT.Nw{W W':ag}{aa:Loc}{σ a4:St}{h h':a9}(R:bT prog w h₁ true env ns W aa σ h)(ed:bL prog w h₁ W' a4 h')(l:W.fL σ.next W')(sV:∀a,W.role a=.aa->W'.role a=.aa)(a3:σ.next<=a4.next)
 (e:∀a,W.role a=.aa->h'.get? a=h.get? a):bT prog w h₁ true env ns W' aa a4 h':=by
 have e1:∀x c,env.cells.lookup x=some c->W.role c=.aa/\c≠env.locals:=λx c az=>by
  rcases R.cells x c az with⟨_,a,b⟩|⟨q,_⟩
  .exact⟨a,b⟩
  .cases q
 refine⟨ed,sV _ R.l,λx c az=>.inl ⟨rfl,sV _ (e1 x c az).1,(e1 x c az).2⟩,R.apart,λx c az=>?_,?_⟩
 .obtain⟨ni,o,aK,aD⟩:=R.pj x c az
  exact⟨ni,o,(e c (e1 x c az).1).trans aK,aD⟩
 obtain⟨m,hm,f⟩:=R.aa
 refine⟨m,hm.at' λo aK=>(e _ R.l).trans aK,λi v a'=>?_⟩
 obtain⟨x,ax,ay,aL,hs⟩:=f i v a'
 exact⟨x,ax,ay,aL.bb l a3,hs.imp id λ⟨q,c,az,o,aK,aD⟩=>⟨q,c,az,o,(e c (e1 x c az).1).trans aK,aD⟩⟩
theorem ag.pS{W W':ag}{a:a6}{r:bS}{n:Nat}(l:W.le n W')(h:W.role a=.free):W.le n (W'.aY a r):=by
 refine⟨⟨λb o e=>?_,l.1.2⟩,λb o e=>?_,λb e=>?_⟩<;>
 .rw[ag.cG]
  .first|exact l.1.1 b o e|exact l.2.1 b o e|exact l.2.2 b e
  .rintro rfl;exact bS.no h e
theorem ML{M:iJ}{A:b8}{s:aB}{E:af->aB->Prop}{Q:Unit->aB->Prop}{t:bX}{aO:a6}{o:bM}{v:af}{n:String}(aK:s.heap.get? aO=some o)(az:o.cls=.type n)
 (a3:(["enumerate","zip","dict_itemiterator","dict_reverseitemiterator","odict_iterator","itertools.zip_longest","itertools.pairwise"]:List String).contains n=false)(h:Q () s):wpAny M A (letOwnedTupleGo t (.ref aO) v) Q E s:=by
 have key:wpAny M A (do
  let(.ref r,.ref a):=(k' aO,v)|(pure ():c8 Unit)
  let o<-load r
  match o.cls,o.data with
  |.type n,.fields vs=>
   if["enumerate","zip","dict_itemiterator","dict_reverseitemiterator","odict_iterator","itertools.zip_longest","itertools.pairwise"].contains n&&vs[0]? ==some (jT a) then
    rule "for.unpacks-the-owned-tuple"
    updateField r 0 .none
  |_,_=>pure ()) Q E s:=by
  cases v<;>try exact bI h
  refine aP (tG aK ?_)
  rw[az]
  cases o.data<;>try exact bI h
  dsimp only
  rw[a3]
  exact bI h
 cases t<;>first|exact bI h|exact key
structure vL (prog:cD) (w:cm) (h₁:a9) (env:dc) (ns:List aV) (aO:a6) (P:Nat->bM->Prop) (bC:ag) (ab:Nat) (i:Nat) (bR:ag) (bh:Loc) (bN:St) (h2:a9):Prop where
 R:bT prog w h₁ true env ns bR bh bN h2
 f:∃ee,bR.role aO=.fix ee/\P i ee
 le:bC.le ab bR
 gb:ab<=bN.next
theorem bT.letGo{W:ag}{aa:Loc}{σ:St}{h h':a9}{aO:a6}{o:bM}(R:bT prog w h₁ true env ns W aa σ h)(di:W.role aO=.fix o)(ai:∀a x,a≠aO->h.get? a=some x->h'.get? a=some x):bT prog w h₁ true env ns (W.aY aO .free) aa σ h':=by
 have l1:=R.bW.u3 (W':=W.aY aO .free) rfl λa=>by
  by_cases e:a=aO
  .exact .inr ⟨.inr ⟨o,e▸di⟩,.inl (e▸ag.dv)⟩
  .exact .inl (ag.cG e)
 have e3:∀a,(W.aY aO .free).role a≠.free->h'.get? a=h.get? a:=λa ha=>by
  have gq:a≠aO:=λe=>ha (e▸ag.dv)
  obtain⟨oa,jj⟩:=l1.1.live a ha
  rw[jj];exact ai a oa gq jj
 have sV:∀a,W.role a=.aa->(W.aY aO .free).role a=.aa:=λa ha=>(ag.cG λe=>bS.no di (e▸ha)).trans ha
 exact R.Nw (l1.1.keep (λa ha _=>e3 a ha) λa ha=>by rw[e3 a (bS.ne ha)];exact l1.1.live a (bS.ne ha)) l1.2 sV (bF _) λa ha=>e3 a (bS.ne (sV a ha))
theorem ag.uE{W:ag}{aO:a6}{o:bM}{r:bS}{n:Nat}(di:W.role aO=.fix o):W.fL n (W.aY aO r):=⟨λb x e=>(ag.cG λq=>bS.no di (q▸e)).trans e,λ_ _=>rfl⟩
theorem bT.ae2{W:ag}{aa:Loc}{σ:St}{h h':a9}{aO:a6}{o c':bM}(R:bT prog w h₁ true env ns W aa σ h)(di:W.role aO=.fix o)(aK:h'.get? aO=some c')(hs:iF aO h h'):bT prog w h₁ true env ns (W.aY aO (.fix c')) aa σ h':=
 R.Nw (R.bW.swap di hs aK) (ag.uE di) (λa ha=>(ag.cG λe=>bS.no di (e▸ha)).trans ha) (bF _) λa ha=>hs.2 a λe=>bS.no di (e▸ha)
theorem vL.next{aO:a6}{P:Nat->bM->Prop}{bC bR je:ag}{ab i:Nat}{bh oP:Loc}{bN qg:St}{h2 gA:a9}{o:bM}(C:vL prog w h₁ env ns aO P bC ab i bR bh bN h2)(eC:bC.role aO=.free)(c4:P (i+1) o)(iO:(bR.aY aO (.fix o)).le bN.next je)(fV:bN.next<=qg.next)(fO:bT prog w h₁ true env ns je oP qg gA):
 vL prog w h₁ env ns aO P bC ab (i+1) je oP qg gA:=
 ⟨fO,⟨o,iO.2.1 _ _ ag.dv,c4⟩,(ag.pS C.le eC).trans C.gb iO,cI C.gb fV⟩
noncomputable def y8(prog:cD)(w:cm)(h₁:a9)(env:dc)(ns:List aV)(bC:ag)(ab:Nat)(s:aB)(R:jy->aB->Prop)(f:dp)(p:Loc×St):Prop:=
 ∀bR ig h' c6,bC.le ab bR->ab<=p.2.next->bT prog w h₁ true env ns bR p.1 p.2 h'->mM prog w bR p.2.next f ig->R (.ok ig) {s with heap:=h',toks:=c6}
inductive y7 (s:aB) (X:Nat->ag->Loc->St->a9->Prop) (n:Nat) (a8:aB):Prop
 |mk (bR:ag) (bh:Loc) (bN:St) (h2:a9) (tk2:Nat) (es:a8={s with heap:=h2,toks:=tk2}) (h:X n bR bh bN h2)
inductive Qt (prog:cD) (w:cm) (h₁:a9) (env:dc) (ns:List aV) (aO:a6) (P:Nat->bM->Prop) (bC:ag) (ab:Nat) (items:List C) (M:List C->Loc->St->Prop) (n:Nat) (bR:ag) (bh:Loc) (bN:St) (h2:a9):Prop
 |mk (i:Nat) (rest:List C) (a3:n=rest.length) (aL:items.drop i=rest) (hi:i<=items.length) (C:vL prog w h₁ env ns aO P bC ab i bR bh bN h2) (ar:M rest bh bN)
theorem U6{t:bX}{body:List dG}{bind:C->Loc->Option Loc}{jU:ck}(ht:mN prog w h₁ true env ns k t bind)(ai:SOk prog w h₁ env ns k (dr body env) jU){A:b8}(aH:fA A k){aO:a6}{src:C}{i':af}{items:List C}{N:ag->Prop}{P:Nat->bM->Prop}
 (iw:oz prog w h₁ k src i' items aO N P){bC:ag}{ab:Nat}(bo:aQ prog w bC ab src i')(jI:N bC)(eC:bC.role aO=.free){s:aB}{R:jy->aB->Prop}
 {n i:Nat}{rest:List C}{bR:ag}{bh:Loc}{bN:St}{h2:a9}{tk2:Nat}(a3:n=rest.length)(aL:items.drop i=rest)(hi:i<=items.length)(C:vL prog w h₁ env ns aO P bC ab i bR bh bN h2)(ar:aM (pV src items bind jU rest bh bN) (y8 prog w h₁ env ns bC ab s R)):
 fP (bp prog w) A (.forLoop t (.ref aO) body [] env) R {s with heap:=h2,toks:=tk2}:=by
 refine JS (y7 s (Qt prog w h₁ env ns aO P bC ab items λrest l σ=>aM (pV src items bind jU rest l σ) (y8 prog w h₁ env ns bC ab s R))) ?_ n ⟨bR,bh,bN,h2,tk2,rfl,i,rest,a3,aL,hi,C,ar⟩
 clear a3 aL hi C ar
 intro n a8 h
 obtain⟨bR,bh,bN,h2,tk2,es,h⟩:=h
 obtain⟨i,rest,a3,aL,hi,C,ar⟩:=h
 rcases rest with _|⟨x,rest⟩<;>rw[es,a3]<;>refine fK λG cc=>?_<;>
  obtain⟨ee,di,oK⟩:=C.f<;>
  have pD:=C.R.bW.fix _ _ di<;>
  have bY:aQ prog w bR bN.next src i':=bo.bb C.le.1 C.gb<;>
  have wJ:=iw.xN _ _ _ jI C.le.1
 .obtain⟨hit,ar⟩:=aM.gX ar
  exact cc<|wpN.of<|iw.done A bR _ i ee _ _ _ aH wJ C.R.bW bY hit (DH aL) hi pD oK di λaU df wK=>wpN.of<|ys<|
   ar _ .next aU df (ag.pS C.le eC) C.gb (C.R.letGo di wK) trivial
 .obtain⟨hit,ar⟩:=aM.gX ar
  obtain⟨dh,f9,ar⟩:=(aM.iy ar).cR
  obtain⟨ay,aL⟩:=zB aL
  refine cc<|wpN.of<|iw.item A bR bN i x ee _ _ _ aH wJ C.R.bW bY hit ay pD oK di λd6 aU df iS fv pE pF oM=>fK λG cc=>?_
  obtain⟨dN,lx,E4⟩:=iw.cls _ _ pF
  refine cc<|wpN.of<|ML pE lx E4<|wpN.of<|ht A _ bh dh bN x d6 _ _ _ aH f9 (C.R.ae2 di pE oM) (fv.bb (ag.uE di) (bF _)) λh4 ru eM=>ai.go aH ar.bind eM λzG p ar je wy gA o1 iO fV fO xH=>?_
  have l6:=C.next eC pF iO fV fO
  have wQ:=(nu.mp ay).1
  revert ar
  refine mM.uV xH (λar=>?_) (λar=>?_) (λar=>?_) (λv ax gf ar=>?_)
  .exact⟨rest.length,hB _,je,p.1,p.2,gA,o1,rfl,i+1,rest,rfl,aL,wQ,l6,ar⟩
  .exact ar je .next gA o1 l6.le l6.gb fO trivial
  .exact⟨rest.length,hB _,je,p.1,p.2,gA,o1,rfl,i+1,rest,rfl,aL,wQ,l6,ar⟩
  .exact ar je _ gA o1 l6.le l6.gb fO gf
theorem lH{t it:bX}{body:List dG}{pos:bz}{D:cy}{bind:C->Loc->Option Loc}{jU:ck}(h:bx prog w h₁ true env ns k (aR it env) D)(ht:mN prog w h₁ true env ns k t bind)(ai:SOk prog w h₁ env ns k (dr body env) jU)
 (hf:autoParam (∀x,tC it env x=pure x) x4._auto_1):SOk prog w h₁ env ns k (hg (.For t it body [] pos) env) (gp D bind jU):=
 .of λA W aa σ s Q E aH ar R=>PO (h.go aH ar.bind R λsrc cH ar bC i' h1 c0 bO ab bK bo=>by
  obtain⟨items,bg,ar⟩:=(aM.iy ar).cR
  refine wpN.of<|Gz (k:=k) (s:={s with heap:=h1,toks:=c0}) bK.bW bo bg λo N P n0 jI c4 iw=>?_
  have ew:bC.role h1.objs.size=.free:=bK.bW.free (bF _)
  have jH:(h1.push o).get? h1.objs.size=some o:=hA _ n0
  have QF:bT prog w h₁ true env ns (bC.aY h1.objs.size (.fix o)) aa cH (h1.push o):=bK.next ((bK.bW.push o).i2 ew ⟨o,jH⟩ (λ_ e=>nomatch e) λc' e=>bS.fix.inj e▸jH) (ag.ij (n:=cH.next) ew) (bF _) λa ha=>get?_push_ne (bK.bW.lt (bS.ne ha))
  exact U6 ht ai aH iw bo jI ew rfl rfl (jx _) ⟨QF,⟨o,ag.dv,c4⟩,ag.ij ew,bF _⟩ (ar.imp λf p c bR ig h' c6 bh aF cQ GD=>c bR ig h' c6 (bO.trans ab bh) (cI ab aF) cQ GD)) hf
noncomputable def oS(T:gj)(body:ck):Nat->ck
 |0,_,_=>none
 |n+1,aa,σ=>(T aa σ).bind λb=>if b.1=true then(body aa b.2).bind λr=>match r with
   |(.next,l,s)=>oS T body n l s
   |(.cont,l,s)=>oS T body n l s
   |(.brk,l,s)=>some (.next,l,s)
   |(.ret v,l,s)=>some (.ret v,l,s)
  else some (.next,aa,b.2)
noncomputable def rx(T:gj)(body:ck):ck:=oS T body 1000000
inductive QO (prog:cD) (w:cm) (h₁:a9) (env:dc) (ns:List aV) (bC:ag) (ab:Nat) (M:Nat->Loc->St->Prop) (n:Nat) (bR:ag) (bh:Loc) (bN:St) (h2:a9):Prop
 |mk (R:bT prog w h₁ true env ns bR bh bN h2) (le:bC.le ab bR) (gb:ab<=bN.next) (ar:M n bh bN)
theorem O0{t:bX}{body:List dG}{pos:bz}{T:gj}{jU:ck}(h:BOk prog w h₁ true env ns k (gT t env (aR t env)) T)(ai:SOk prog w h₁ env ns k (dr body env) jU):
 SOk prog w h₁ env ns k (hg (.While t body [] pos) env) (rx T jU):=by
 refine .of λA W aa σ s Q E aH ar R=>afP ?_
 unfold rx at ar
 generalize 1000000=I at ar
 refine SX (y7 s (QO prog w h₁ env ns W σ.next λn l bN=>aM (oS T jU n l bN) (hl prog w h₁ env ns W σ s Q))) ?_ I ⟨W,aa,σ,s.heap,s.toks,rfl,R,ag.le.refl,bF _,ar⟩
 intro m a8 h'
 obtain⟨bR,bh,bN,h2,tk2,es,h'⟩:=h'
 obtain⟨cQ,j3,aF,zW⟩:=h'
 rw[es]
 rcases m with _|m
 .exact zW.elim
 refine h.go aH zW.bind cQ λb dz ar cf b1 aU df dh bE dO dd=>?_
 rw[show b=b1 from dd] at ar
 have m7:=j3.trans aF dh
 have F7:=cI aF bE
 rcases b1 with _|_
 .exact wpN.of<|ys<|ar cf .next aU df m7 F7 dO trivial
 .refine ai.go aH (aM.bind ar) dO λzG p ar je wy gA o1 iO fV fO xH=>?_
  have An:=m7.trans F7 iO
  have gb:=cI F7 fV
  revert ar
  refine mM.uV xH (λar=>?_) (λar=>?_) (λar=>?_) (λv ax gf ar=>?_)
  .exact⟨m,hB _,je,p.1,p.2,gA,o1,rfl,fO,An,gb,ar⟩
  .exact ar je .next gA o1 An gb fO trivial
  .exact⟨m,hB _,je,p.1,p.2,gA,o1,rfl,fO,An,gb,ar⟩
  .exact ar je _ gA o1 An gb fO gf
end Internal
namespace Internal
open PySem PySem.W PyProof.Rows PySem.Calls
variable{prog:cD}{w:cm}{h₁:a9}{K:fH}{own:Bool}{env:dc}{ns:List aV}{k:Nat}
noncomputable def kq(n:Nat)(cells:Nat->Option cO):C->C
 |.ref c=>if n<=c then(match cells c with
  |some (.list vs)=>.bB vs
  |some (.cJ es)=>.cV es
  |_=>.ref c) else .ref c
 |v=>v
noncomputable def oI(n:Nat)(cells:Nat->Option cO):C->C
 |.bA vs=>.bA (vs.map (kq n cells))
 |v=>kq n cells v
noncomputable def St.cut(σ:St)(n:Nat):St:={σ with cells:=λc=>if c<n then σ.cells c else none}
noncomputable def uC(h:a9)(a:a6):bS:=match h.get? a with
 |some o=>.imm o
 |none=>.free
noncomputable def Dw(h:a9)(a:a6):Option cO->bS
 |some (.list _)=>uC h a
 |some (.cJ _)=>uC h a
 |_=>.free
noncomputable def pA(n:Nat)(σ:St)(h:a9)(a:a6):bS->bS
 |.cell c=>if c<n then .cell c else Dw h a (σ.cells c)
 |.h3 c=>if c<n then .h3 c else .free
 |r=>r
noncomputable def ag.gW(W:ag)(n:Nat)(σ:St)(h:a9):ag:={W with role:=λa=>pA n σ h a (W.role a)}
theorem MB{h:a9}{a:a6}{P:bS->Prop}(f:P .free)(i:∀o,h.get? a=some o->P (.imm o)):P (uC h a):=by
 unfold uC
 generalize h.get? a=x at i
 rcases x with _|o
 .exact f
 .exact i o rfl
theorem MC{h:a9}{a:a6}{o:bM}(e:h.get? a=some o):uC h a=.imm o:=by unfold uC;rw[e]
theorem SG{h:a9}{a:a6}{x:Option cO}{P:bS->Prop}(f:P .free)(i:∀o,h.get? a=some o->P (.imm o)):P (Dw h a x):=by
 rcases x with _|(_|_|_|_|_)
 .exact f
 .exact MB f i
 .exact MB f i
 .exact f
 .exact f
 .exact f
theorem Lj{n:Nat}{σ:St}{h:a9}{a:a6}{r:bS}{P:bS->Prop}(same:(∀c,r≠.cell c)->P r)(cell:∀c,P (.cell c))(h3:∀c,P (.h3 c))(f:P .free)(i:∀o,h.get? a=some o->P (.imm o)):P (pA n σ h a r):=by
 rcases r with _|_|_|c|c|_
 .exact same λc=>bS.ne rfl
 .exact same λc=>bS.ne rfl
 .exact same λc=>bS.ne rfl
 .show P (ite _ _ _)
  by_cases q:c<n
  .rw[if_pos q];exact cell c
  .rw[if_neg q];exact SG f i
 .show P (ite _ _ _)
  by_cases q:c<n
  .rw[if_pos q];exact h3 c
  .rw[if_neg q];exact f
 .exact same λc=>bS.ne rfl
theorem U7{n:Nat}{σ:St}{h:a9}{a:a6}{c:Nat}{r:bS}(e:r=.cell c)(q:c<n):pA n σ h a r=.cell c:=by rw[e];exact if_pos q
theorem U9{n:Nat}{σ:St}{h:a9}{a:a6}{c:Nat}{r:bS}(e:r=.h3 c)(q:c<n):pA n σ h a r=.h3 c:=by rw[e];exact if_pos q
theorem U8{n:Nat}{σ:St}{h:a9}{a:a6}{c:Nat}{r:bS}(e:r=.cell c)(q:¬c<n):pA n σ h a r=Dw h a (σ.cells c):=by rw[e];exact if_neg q
theorem bL.gW{W:ag}{σ:St}{h:a9}(R:bL prog w h₁ W σ h)(n:Nat):bL prog w h₁ (W.gW n σ h) (σ.cut n) h/\W.fL σ.next (W.gW n σ h)/\(∀a o,W.role a=.fix o->(W.gW n σ h).role a=.fix o)/\∀a,W.role a=.aa->(W.gW n σ h).role a=.aa:=by
 have O4:∀a o,W.role a=.imm o->(W.gW n σ h).role a=.imm o:=λa o e=>by show pA n σ h a (W.role a)=_;rw[e];rfl
 have aeE:∀a o,W.role a=.fix o->(W.gW n σ h).role a=.fix o:=λa o e=>by show pA n σ h a (W.role a)=_;rw[e];rfl
 have lI:∀a,W.role a=.aa->(W.gW n σ h).role a=.aa:=λa e=>by show pA n σ h a (W.role a)=_;rw[e];rfl
 have j4:W.fL σ.next (W.gW n σ h):=⟨O4,λ_ _=>rfl⟩
 refine⟨⟨R.nz,λa o e=>O4 a o (R.base a o e),λa o=>?_,λa o=>?_,λa e=>?_,λc x az=>?_,λc az=>?_⟩,j4,aeE,lI⟩
 .exact Lj (P:=λr=>r=.imm o->h.get? a=some o) (λ_ e=>R.imm a o e) (λ_ e=>bS.no e rfl) (λ_ e=>bS.no e rfl) (λe=>bS.no e rfl) λc' g e=>bS.imm.inj e▸g
 .exact Lj (P:=λr=>r=.fix o->h.get? a=some o) (λ_ e=>R.fix a o e) (λ_ e=>bS.no e rfl) (λ_ e=>bS.no e rfl) (λe=>bS.no e rfl) λc' g e=>bS.no e rfl
 .refine R.live a λr=>e ?_
  show pA n σ h a (W.role a)=_
  rw[r];rfl
 .have lu:(if c<n then σ.cells c else none)=some x:=az
  by_cases dQ:c<n
  .rw[if_pos dQ] at lu
   obtain⟨r,q⟩:=R.cell c x lu
   exact⟨U7 r dQ,q.bb j4 (bF _) rfl λd aD=>⟨U9 aD dQ,rfl⟩⟩
  .rw[if_neg dQ] at lu;exact au lu
 .show(if c<n then σ.cells c else none)=none
  by_cases dQ:c<n
  .rw[if_pos dQ];exact R.top c az
  .exact if_neg dQ
theorem Va{W:ag}{σ:St}{h:a9}(R:bL prog w h₁ W σ h){n c:Nat}(same:aQ prog w (W.gW n σ h) σ.next (.ref c) (.ref (W.al c))):aQ prog w (W.gW n σ h) σ.next (kq n σ.cells (.ref c)) (.ref (W.al c)):=by
 have j4:=(R.gW n).2.1
 show aQ prog w (W.gW n σ h) σ.next (ite _ _ _) _
 by_cases a3:n<=c
 .rw[if_pos a3]
  cases q:σ.cells c with
  |none=>exact same
  |some x=>
   obtain⟨r,g⟩:=R.cell c x q
   have cR:=U8 (n:=n) (σ:=σ) (h:=h) (a:=W.al c) r (Nat.not_lt.mpr a3)
   rw[q] at cR
   induction g with
   |@list _ items dU aK aL=>exact .bB (o:=listOf items dU) (k:=dU) (cR.trans (MC aK)) rfl rfl (aL.bb j4 (bF _))
   |cJ aK z a d=>exact .cV (cR.trans (MC aK)) z a (d.bb j4 (bF _))
   |_=>exact same
 .rw[if_neg a3];exact same
theorem Ln{W:ag}{σ:St}{h:a9}(R:bL prog w h₁ W σ h){n:Nat}{v:C}{ax:af}(a':aQ prog w W σ.next v ax):aQ prog w (W.gW n σ h) σ.next (kq n σ.cells v) ax:=
 aQ.casesOn (motive_1:=λv ax _=>aQ prog w (W.gW n σ h) σ.next v ax->aQ prog w (W.gW n σ h) σ.next (kq n σ.cells v) ax) a' id (λ_=>id) (λ_ _=>id) (λ_ _=>id) (λ_ _=>id) (λ_ _=>id) (λ_ _ _ _=>id) (λ_ _ _ _=>id) (λ_=>id) (λ_ s=>Va R s) (λ_=>id) (a'.bb (R.gW n).2.1 (bF _))
theorem Vc{W:ag}{σ:St}{h:a9}(R:bL prog w h₁ W σ h){n:Nat}{vs:List C}{bG:List af}(r:bH prog w W σ.next vs bG):bH prog w (W.gW n σ h) σ.next (vs.map (kq n σ.cells)) bG:=
 r.ind (P:=λvs bG=>bH prog w (W.gW n σ h) σ.next (vs.map (kq n σ.cells)) bG) .nil λa _ a7=>.cons (Ln R a) a7
theorem Lk{W:ag}{σ:St}{h:a9}(R:bL prog w h₁ W σ h){n:Nat}{v:C}{ax:af}(a':aQ prog w W σ.next v ax):aQ prog w (W.gW n σ h) σ.next (oI n σ.cells v) ax:=
 aQ.casesOn (motive_1:=λv ax _=>aQ prog w (W.gW n σ h) σ.next (kq n σ.cells v) ax->aQ prog w (W.gW n σ h) σ.next (oI n σ.cells v) ax) a' id (λ_=>id) (λ_ _=>id) (λ_ _=>id) (λ_ _=>id) (λa d _=>.bA ((R.gW n).2.1.1 _ _ a) (Vc R d)) (λ_ _ _ _=>id) (λ_ _ _ _=>id) (λ_=>id) (λ_=>id) (λ_=>id) (Ln R a')
noncomputable def e2(D:ck)(n m:Nat):b4:=λargs σ=>if args.length=n then(D (args.map some++kc m none) σ).bind λr=>match r with
 |(.ret v,_,a4)=>some (oI σ.next a4.cells v,a4.cut σ.next)
 |(.next,_,a4)=>some (.none,a4.cut σ.next)
 |_=>none
 else none
theorem agE{xs:List aV}{vs:List af}(a3:xs.Nodup):∀{i:Nat} {x:aV} {v:af},xs[i]? =some x->vs[i]? =some v->(xs.zip vs).lookup x=some v:=by
 induction xs generalizing vs with
 |nil=>intro i x v h;simp at h
 |cons y ju a7=>
  intro i x v ay a'
  rw[kb] at a3
  induction vs with
  |nil=>simp at a'
  |cons u cU=>
   induction i with
   |zero=>
    simp at ay a';subst ay a'
    simp
   |succ i=>
    simp at ay a'
    have gq:(x==y)=false:=by
     refine beq_eq_false_iff_ne.mpr ?_
     rintro rfl
     exact a3.1 (BK ay)
    rw[yf,List.lookup_cons,gq]
    exact a7 a3.2 ay a'
theorem Yy{l:List (aV×af)}(a3:(l.map (·.1)).Nodup)(x:aV):l.reverse.lookup x=l.lookup x:=by
 induction l with
 |nil=>rfl
 |cons p r a7=>
  obtain⟨y,v⟩:=p
  simp only[jw,kb] at a3
  rw[ye,List.lookup_append,a7 a3.2]
  have uW:List.lookup x [(y,v)]=if x=y then some v else none:=by
   by_cases e:x=y
   .subst e;simp[List.lookup]
   .have:(x==y)=false:=beq_eq_false_iff_ne.mpr e
    simp[List.lookup,this,e]
  by_cases e:x=y
  .subst e
   have:r.lookup x=none:=by
    cases q:r.lookup x with
    |none=>rfl
    |some u=>exact absurd (ec.mpr ⟨(x,u),mem_of_lookup q,rfl⟩) a3.1
   rw[this,uW,List.lookup_cons];simp
  .have:(x==y)=false:=beq_eq_false_iff_ne.mpr e
   rw[uW,if_neg e,List.lookup_cons,this]
   cases r.lookup x<;>rfl
theorem jX{P:List af->Prop}(h:∀gU,P [gU]):∀args:List af,args.length=1->P args:=by
 intro args e
 rcases args with _|⟨gU,_|⟨b,r⟩⟩
 .exact nomatch e
 .exact h gU
 .exact nomatch e
theorem l8{P:List af->Prop}(h:∀gU gw,P [gU,gw]):∀args:List af,args.length=2->P args:=by
 intro args e
 rcases args with _|⟨gU,_|⟨gw,_|⟨b,r⟩⟩⟩
 .exact nomatch e
 .exact nomatch e
 .exact h gU gw
 .exact nomatch e
theorem Jg{P:List af->Prop}(h:∀gU gw kP,P [gU,gw,kP]):∀args:List af,args.length=3->P args:=by
 intro args e
 rcases args with _|⟨gU,_|⟨gw,_|⟨kP,_|⟨b,r⟩⟩⟩⟩
 .exact nomatch e
 .exact nomatch e
 .exact nomatch e
 .exact h gU gw kP
 .exact nomatch e
theorem Jh{P:List af->Prop}(h:∀gU gw kP mO,P [gU,gw,kP,mO]):∀args:List af,args.length=4->P args:=by
 intro args e
 rcases args with _|⟨gU,_|⟨gw,_|⟨kP,_|⟨mO,_|⟨b,r⟩⟩⟩⟩⟩
 .exact nomatch e
 .exact nomatch e
 .exact nomatch e
 .exact nomatch e
 .exact h gU gw kP mO
 .exact nomatch e
theorem RB{P:List af->Prop}(h:∀gU gw kP mO CI,P [gU,gw,kP,mO,CI]):∀args:List af,args.length=5->P args:=by
 intro args e
 rcases args with _|⟨gU,_|⟨gw,_|⟨kP,_|⟨mO,_|⟨CI,_|⟨b,r⟩⟩⟩⟩⟩⟩
 .exact nomatch e
 .exact nomatch e
 .exact nomatch e
 .exact nomatch e
 .exact nomatch e
 .exact h gU gw kP mO CI
 .exact nomatch e
theorem dJ.to{W:ag}{σ:St}{s:aB}{Q:af->aB->Prop}{v:C}{a4:St}(h:aM (some (v,a4)) (dJ prog w h₁ W σ s Q)):dJ prog w h₁ W σ s Q v a4:=h
theorem fA.J5{A:b8}{env:dc}(aH:fA A (k+1)):fA (A.deeper env) k:=⟨aH.h,by have:=aH.d;show A.depth+1+8*k+8<1000;exact aE.ab' this,by have:=aH.u;show A.units+3+64*k+200<9900;exact aE.aca this,aH.g⟩
theorem Yx{args:List C}{m i:Nat}{u:C}(bZ:(args.map some++kc m none)[i]? =some (some u)):args[i]? =some u:=by
 rcases Nat.lt_or_ge i args.length with q|q
 .rw[List.getElem?_append_left (by rw[ez];exact q),mz] at bZ
  obtain⟨gQ,pO,e⟩:=hc.mp bZ
  exact pO.trans e
 .rw[List.getElem?_append_right (by rw[ez];exact q)] at bZ
  have h:=BK bZ
  rw[List.mem_replicate] at h
  exact nomatch h.2
theorem Jf{W:ag}{n:Nat}{args:List C}{e5:List af}{xs ns:List aV}{m i:Nat}{u:C}(ha:bH prog w W n args e5)(dP:args.length=xs.length)(kV:∃ju,ns=xs++ju)(m3:ns.Nodup)(bZ:(args.map some++kc m none)[i]? =some (some u)):
 ∃x gQ,x∈xs/\xs[i]? =some x/\e5[i]? =some gQ/\ns[i]? =some x/\aQ prog w W n u gQ/\(xs.zip e5).reverse.lookup x=some gQ:=by
 have bZ:=Yx bZ
 obtain⟨ju,e⟩:=kV
 obtain⟨gQ,pO,r⟩:=ha.get bZ
 have sM:i<xs.length:=dP▸(nu.mp bZ).1
 have ay:xs[i]? =some xs[i]:=iG sM
 have w0:(xs.zip e5).map (·.1)=xs:=List.map_fst_zip (er (ha.length.trans dP).symm)
 have wZ:xs.Nodup:=by rw[e] at m3;exact(yd.mp m3).1
 exact⟨xs[i],gQ,List.getElem_mem _,ay,pO,by rw[e,List.getElem?_append_left sM];exact ay,r,by rw[Yy (by rw[w0];exact wZ)];exact agE wZ ay pO⟩
theorem SD{W:ag}{σ:St}{h h2:a9}{aZ fa:a6}{fd:d3}{xs ns:List aV}{m:Nat}{args:List C}{e5:List af}(R:bL prog w h₁ W σ h)(ha:bH prog w W σ.next args e5)(dP:args.length=xs.length)(kV:∃ju,ns=xs++ju)(m3:ns.Nodup)
 (sv:fd.closure=[])(pM:∀x∈xs,fd.scope.names.lookup x=some .local)(ew:W.role aZ=.free)(hm:h2.Ns aZ λx=>(xs.zip e5).reverse.lookup x)(m2:∀b o,h.get? b=some o->h2.get? b=some o):
 bT prog w h₁ true (c9 fd aZ fa) ns (W.aY aZ .aa) (args.map some++kc m none) σ h2:=by
 obtain⟨Y8,z7⟩:∃o,h2.get? aZ=some o:=by obtain⟨o,_,_,h,_⟩:=hm;exact⟨o,h⟩
 have no:∀{x c} {P:Prop},(c9 fd aZ fa).cells.lookup x=some c->P:=λ{x c P} az=>by
  rw[show(c9 fd aZ fa).cells=[] from sv] at az;exact au az
 refine⟨(R.me m2).i2 ew ⟨Y8,z7⟩ (λ_ e=>nomatch e) (λ_ e=>nomatch e),ag.dv,λx c az=>no az,λx y c az=>no az,λx c az=>no az,_,hm,λi u bZ=>?_⟩
 obtain⟨x,gQ,ay,_,_,a3,r,aJ⟩:=Jf ha dP kV m3 bZ
 exact⟨x,gQ,a3,r.bb (ag.ij ew).1 (bF _),.inl ⟨pM _ ay,aJ⟩⟩
theorem gn{fa:a6}{o:bM}{fd:d3}{body:List dG}{xs ns:List aV}{m:Nat}{D:ck}(B:b3 K h₁)(aK:h₁.get? fa=some o)(aD:o.data=.func fd)(kU:h₁.CodeRec fd.code fd.qualname)(nU:fd.body=.stmts body)
 (pH:∀args:List af,args.length=xs.length->tA fd ⟨args,[]⟩=pure (xs.zip args))(sv:fd.closure=[])(kV:∃ju,ns=xs++ju)(m3:ns.Nodup)(nV:∀x∈fd.scope.names,x.2≠.cell)(pM:∀x∈xs,fd.scope.names.lookup x=some .local)
 (ai:∀aZ,SOk prog w h₁ (c9 fd aZ fa) ns k (dr body (c9 fd aZ fa)) D)(nW:autoParam (fd.scope.isCoroutine=false) aN._auto_1)(nX:autoParam (fd.scope.isGenerator=false) aN._auto_1)(hk:autoParam (fd.scope.kind=.function) aN._auto_1):
 OpOk prog w h₁ (k+1) (λvs=>cF (.ref fa) vs) (e2 D xs.length m):=by
 refine .of λA W σ args e5 s Q E aH a5 R ha=>?_
 obtain⟨dP,a5⟩:=aM.gX a5
 have q5:e5.length=xs.length:=ha.length.trans dP
 have w0:(xs.zip e5).map (·.1)=xs:=List.map_fst_zip (er q5.symm)
 refine A' (SU aH.MN (R.old _ _ aK) aD (B.nolimit.keeps R.old) (kU.keeps R.old) nU (pH e5 q5) nV (λp hp=>pM p.1 (w0▸ec.mpr ⟨p,hp,rfl⟩)) (λh2 hm m2=>?_) nW nX hk)
 have ew:W.role s.heap.objs.size=.free:=R.free (bF _)
 have j3:W.le σ.next (W.aY s.heap.objs.size .aa):=ag.ij ew
 refine(ai s.heap.objs.size).go (s:={s with heap:=h2,toks:=s.toks+(xs.zip e5).length}) aH.J5 (aM.bind a5) (SD (m:=m) R ha dP kV m3 sv pM ew hm m2) λf p a5 cf qX aU df dh bE dO ea=>?_
 obtain⟨oy,nH,Cf,Cg⟩:=dO.bW.gW σ.next
 have xe:W.le σ.next (cf.gW σ.next p.2 aU):=⟨(j3.1.trans (bF _) dh.1).trans bE nH,λa o e=>Cf a o (dh.2.1 a o (j3.2.1 a o e)),λa e=>Cg a (dh.2.2 a (j3.2.2 a e))⟩
 revert a5
 refine mM.uV ea (λa5=>?_) (λa5=>dA a5) (λa5=>dA a5) (λu gQ GG a5=>?_)
 .exact dJ.to a5 _ _ aU df xe bE oy .none
 .exact dJ.to a5 _ _ aU df xe bE oy (Lk dO.bW GG)
end Internal
namespace Internal
open PySem PySem.W PyProof.Rows PySem.Calls
variable{prog:cD}{w:cm}{h₁:a9}{K:fH}{own:Bool}{env:dc}{ns:List aV}{k:Nat}
theorem Nk(a:Nat):a+1≠a:=mB _
theorem YL(a:Nat):a≠a+1:=(mB _).symm
theorem Nm(a:Nat):a+1+1≠a:=by exact aE.acb
theorem YM(a:Nat):a≠a+1+1:=by exact aE.acd
theorem YN(a:Nat):a+1+1≠a+1:=by exact aE.ace
theorem Nl(a:Nat):a+1≠a+1+1:=by exact aE.acg
theorem Am(a:Nat):a<a+1+1:=by exact aE.ach
noncomputable abbrev oZ(hq:List bX)(env:dc):c8 Bool:=forIn hq true λc r=>if r=true then do let ok<-gT c env (aR c env);pure (ForInStep.yield ok) else pure (ForInStep.yield r)
theorem qK:BOk prog w h₁ own env ns k (oZ [] env) fM:=by
 intro A W aa σ b a4 s Q E aH ar R aW
 cases ar
 exact wpN.of<|wpAny_tests_nil (aW W true s.heap s.toks ag.le.refl (bF _) R rfl)
theorem af1{M:iJ}{A:b8}{E:af->aB->Prop}{s:aB}{c:bX}{Q:Bool->aB->Prop}(h:wpN M A (gT c env (aR c env)) Q E s):wpN M A (oZ [c] env) Q E s:=by
 unfold oZ
 simp only[List.forIn_cons,List.forIn_nil,if_true]
 exact bc (bc (cX h (λok a8 h'=>cS (cS h')) λ_ _ x=>x))
theorem qL{c:bX}{D:gj}(h:BOk prog w h₁ own env ns k (gT c env (aR c env)) D):BOk prog w h₁ own env ns k (oZ [c] env) D:=by
 intro A W aa σ b a4 s Q E aH ar R aW
 exact af1 (h A W aa σ b a4 s Q E aH ar R aW)
theorem SV{A:b8}{R:jy->aB->Prop}{s:aB}{ej target iter:bX}{hq:List bX}{scope:eI}{pos:bz}{it acc:af}{env:dc}(aO:Nat->aB->Prop)
 (turn:∀n s,aO n s->wpN (bp prog w) A (pyNext it) (λr bw=>match r with
   |none=>R (.ok .next) bw
   |some v=>wpN (bp prog w) A (letOwnedTupleGo target it v) (λ_ xP=>wpN (bp prog w) A (ot target env v) (λ_ dk=>
     wpN (bp prog w) A (oZ hq env) (λok gg=>
      if ok=true then wpN (bp prog w) A (aR ej env) (λx rt=>
       wpN (bp prog w) A (cF (.builtin "list.append") [acc,x]) (λ_ Pn=>∃m,m<n/\aO m Pn) hZ rt) hZ gg
      else∃m,m<n/\aO m gg) hZ dk) hZ xP) hZ bw) hZ s)
 (n:Nat)(h:aO n s):fP (bp prog w) A (.compLoop (.ListComp ej [⟨target,iter,hq,0⟩] scope pos) 0 it acc env) R s:=by
 refine Dz rfl rfl aO (λn s jH=>?_) n h
 show wpN _ A ((compTurn (.ListComp ej [⟨target,iter,hq,0⟩] scope pos) 0 it acc env).onRaise (λx=>do noteFrame x env;BY x)) _ _ s
 refine ry ?_
 rw[compTurn_list]
 refine bc (eP (bc (cX (turn n s jH) (λr bw h₁=>?_) λ_ _ h'=>h')))
 induction r with
 |none=>exact cS h₁
 |some v=>
  refine bc (cX h₁ (λ_ xP Fq=>?_) λ_ _ h'=>h')
  refine bc (cX Fq (λ_ dk fh=>bc (cX fh (λok gg hY=>?_) λ_ _ h'=>h')) λ_ _ h'=>h')
  induction ok with
  |false=>exact cS (.inl ⟨rfl,hY⟩)
  |true=>
   exact bc (bc (cX hY (λx rt sN=>bc (cX sN (λ_ Pn Xr=>cS (cS (.inl ⟨rfl,Xr⟩))) λ_ _ h'=>h')) λ_ _ h'=>h'))
open Classical in
noncomputable def oD(src:C)(items:List C)(bind:C->Loc->Option Loc)(T:gj)(ej:cy):List C->List C->Loc->St->Option (List C×St)
 |[],acc,_,σ=>if eD src σ=some items then some (acc,σ) else none
 |x::rest,acc,aa,σ=>if eD src σ=some items then(bind x aa).bind λbO=>(T bO σ).bind λb=>if b.1=true then(ej bO b.2).bind λr=>if acc.length<1000000 then oD src items bind T ej rest (acc++[r.1]) bO r.2 else none else oD src items bind T ej rest acc bO b.2 else none
noncomputable def zu(D:cy)(gm:Loc->Loc)(bind:C->Loc->Option Loc)(T:gj)(ej:cy):iZ:=λaa σ=>(D aa σ).bind λr=>(eD r.1 r.2).bind λitems=>oD r.1 items bind T ej items [] (gm aa) r.2
noncomputable def gx(D:cy)(gm:Loc->Loc)(bind:C->Loc->Option Loc)(T:gj)(ej:cy):cy:=λaa σ=>(zu D gm bind T ej aa σ).bind λq=>some (.bB q.1,q.2)
noncomputable def qR(D:cy)(gm:Loc->Loc)(bind:C->Loc->Option Loc)(T:gj)(ej:cy):cy:=λaa σ=>(zu D gm bind T ej aa σ).bind λq=>some (.ref q.2.next,q.2.new (.list q.1))
structure rQ (env env':dc) (ns ns':List aV) (gm:Loc->Loc):Prop where
 sub:∀x c,env'.cells.lookup x=some c->env.cells.lookup x=some c
 cap:∀aa (i:Nat) v,(gm aa)[i]? =some (some v)->∃(aj:Nat) (x:aV),aa[aj]? =some (some v)/\ns[aj]? =some x/\ns'[i]? =some x/\env.kindOf x=some .cell/\(env'.kindOf x=some .cell\/env'.kindOf x=some .free)/\env'.cells.lookup x=env.cells.lookup x
theorem bL.AS{W:ag}{σ:St}{h:a9}{a:a6}{o:bM}(R:bL prog w h₁ W σ h)(ha:W.role a=.fix o):bL prog w h₁ (W.aY a (.imm o)) σ h/\W.fL σ.next (W.aY a (.imm o)):=by
 have gq:∀b r,W.role b=r->(∀o,r≠.fix o)->(W.aY a (.imm o)).role b=r:=λb r e q=>by
  rw[ag.cG]
  .exact e
  .rintro rfl;rw[ha] at e;exact q o e.symm
 have j4:W.fL σ.next (W.aY a (.imm o)):=⟨λb x e=>gq b _ e (λ_ q=>nomatch q),λ_ _=>rfl⟩
 refine⟨⟨R.nz,λb x e=>j4.1 b x (R.base b x e),λb x e=>?_,λb x e=>?_,λb e=>?_,λc x az=>?_,R.top⟩,j4⟩
 .by_cases ai:b=a
  .subst ai;rw[ag.dv] at e;cases e;exact R.fix _ _ ha
  .rw[ag.cG ai] at e;exact R.imm b x e
 .by_cases ai:b=a
  .subst ai;rw[ag.dv] at e;cases e
  .rw[ag.cG ai] at e;exact R.fix b x e
 .by_cases ai:b=a
  .subst ai;exact⟨o,R.fix _ _ ha⟩
  .rw[ag.cG ai] at e;exact R.live b e
 .obtain⟨r,q⟩:=R.cell c x az
  exact⟨gq _ _ r (λ_ q=>nomatch q),q.bb j4 (bF _) rfl λd aD=>⟨gq _ _ aD (λ_ q=>nomatch q),rfl⟩⟩
structure lh (prog:cD) (w:cm) (h₁:a9) (env':dc) (ns':List aV) (bC:ag) (cH:St) (h1:a9) (aO D:a6) (P:Nat->bM->Prop) (i:Nat) (acc:List C) (bR:ag) (bh:Loc) (bN:St) (h2:a9):Prop where
 R:bT prog w h₁ false env' ns' bR bh bN h2
 le:(bC.gr h1).le cH.next bR
 gb:cH.next<=bN.next
 eC:∃ee,bR.role aO=.fix ee/\P i ee
 pw:∃items dU,bR.role D=.fix (listOf items dU)/\bH prog w bR bN.next acc items.toList
 ne:D≠aO
 dN:∀x c,env'.cells.lookup x=some c->c≠aO/\c≠D
theorem bT.YW{W W':ag}{aa:Loc}{σ a4:St}{h h':a9}{a:a6}(R:bT prog w h₁ false env ns W aa σ h)(ed:bL prog w h₁ W' a4 h')(l:W.fL σ.next W')(MM:∀b o,b≠a->W.role b=.fix o->W'.role b=.fix o)(ha:∀x c,env.cells.lookup x=some c->c≠a)(sV:∀a,W.role a=.aa->W'.role a=.aa)(a3:σ.next<=a4.next)
 (e:∀a,W.role a=.aa->h'.get? a=h.get? a):bT prog w h₁ false env ns W' aa a4 h':=by
 have e1:∀x c,env.cells.lookup x=some c->∃o,W.role c=.fix o:=λx c az=>by
  rcases R.cells x c az with⟨q,_⟩|⟨_,q⟩
  .cases q
  .exact q
 have same:∀x c o,env.cells.lookup x=some c->h.get? c=some o->h'.get? c=some o:=λx c o az aK=>by
  obtain⟨c',r⟩:=e1 x c az
  have h1:=R.bW.fix c c' r
  rw[aK] at h1;cases h1
  exact ed.fix c o (MM _ _ (ha x c az) r)
 refine⟨ed,sV _ R.l,λx c az=>.inr ⟨rfl,?_⟩,R.apart,λx c az=>?_,?_⟩
 .obtain⟨o,r⟩:=e1 x c az;exact⟨o,MM _ _ (ha x c az) r⟩
 .obtain⟨ni,o,aK,aD⟩:=R.pj x c az
  exact⟨ni,o,same x c o az aK,aD⟩
 obtain⟨m,hm,f⟩:=R.aa
 refine⟨m,hm.at' λo aK=>(e _ R.l).trans aK,λi v a'=>?_⟩
 obtain⟨x,ax,ay,aL,hs⟩:=f i v a'
 exact⟨x,ax,ay,aL.bb l a3,hs.imp id λ⟨q,c,az,o,aK,aD⟩=>⟨q,c,az,o,same x c o az aK,aD⟩⟩
theorem bT.Pm{W:ag}{aa:Loc}{σ:St}{h h':a9}{a:a6}{o c':bM}(R:bT prog w h₁ false env ns W aa σ h)(b7:W.role a=.fix o)(hs:iF a h h')(aK:h'.get? a=some c')(ha:∀x c,env.cells.lookup x=some c->c≠a):
 bT prog w h₁ false env ns (W.aY a (.fix c')) aa σ h':=by
 have ne:∀b r,W.role b=r->(∀o,r≠.fix o)->b≠a:=λb r e q=>by rintro rfl;rw[b7] at e;exact q o e.symm
 refine R.YW (a:=a) (R.bW.swap b7 hs aK) ⟨λb x e=>?_,λ_ _=>rfl⟩ (λb x ai e=>?_) ha (λb e=>?_) (bF _) λb e=>hs.2 b (ne b _ e λ_ q=>nomatch q)
 .rw[ag.cG (ne b _ e λ_ q=>nomatch q)];exact e
 .rw[ag.cG ai];exact e
 .rw[ag.cG (ne b _ e λ_ q=>nomatch q)];exact e
noncomputable def ag.bV(W:ag)(a:a6):Prop:=(∀o,W.role a≠.imm o)/\(∀o,W.role a≠.fix o)/\W.role a≠.aa
theorem ag.NX{W W':ag}{a:a6}{n:Nat}(l:W.le n W')(h:W'.role a=.free):W.bV a:=
 ⟨λo e=>by(rw[l.1.1 _ _ e] at h;cases h),λo e=>by(rw[l.2.1 _ _ e] at h;cases h),λe=>by(rw[l.2.2 _ e] at h;cases h)⟩
theorem ag.uF{W W':ag}{a:a6}{r:bS}{n:Nat}(l:W.le n W')(h:W.bV a):W.le n (W'.aY a r):=by
 refine⟨⟨λb o e=>?_,l.1.2⟩,λb o e=>?_,λb e=>?_⟩
 .rw[ag.cG (by rintro rfl;exact h.1 o e)];exact l.1.1 b o e
 .rw[ag.cG (by rintro rfl;exact h.2.1 o e)];exact l.2.1 b o e
 .rw[ag.cG (by rintro rfl;exact h.2.2 e)];exact l.2.2 b e
theorem bL.FJ{W:ag}{σ:St}{h:a9}{D aC:a6}{items:Array af}{dU:Nat}{m:aV->Option af}(R:bL prog w h₁ W σ h)(i8:W.role D=.fix (listOf items dU))(hm:h.Ns aC m):D≠aC:=λe=>by
 obtain⟨_,_,_,h,aD,_⟩:=hm
 rw[<-e,R.fix _ _ i8] at h
 rw[<-cx h] at aD
 exact nomatch aD
theorem lh.step{env':dc}{ns':List aV}{bC bR:ag}{cH bN:St}{h1 h2 aU:a9}{aO D:a6}{P:Nat->bM->Prop}{i:Nat}{acc:List C}{bh:Loc}{ee iS:bM}(C:lh prog w h₁ env' ns' bC cH h1 aO D P i acc bR bh bN h2)(di:bR.role aO=.fix ee)(pE:aU.get? aO=some iS)(oM:iF aO h2 aU):
 bT prog w h₁ false env' ns' (bR.aY aO (.fix iS)) bh bN aU:=C.R.Pm di oM pE λx c az=>(C.dN x c az).1
theorem lh.next{env':dc}{ns':List aV}{bC bR wc:ag}{cH bN He:St}{h1 h2 dx:a9}{aO D:a6}{P:Nat->bM->Prop}{i:Nat}{acc:List C}{bh q':Loc}{ee iS:bM}(C:lh prog w h₁ env' ns' bC cH h1 aO D P i acc bR bh bN h2)(sl:(bC.gr h1).role aO=.free)(di:bR.role aO=.fix ee)(c4:P (i+1) iS)
 (le:(bR.aY aO (.fix iS)).le bN.next wc)(jm:bN.next<=He.next)(l4:bT prog w h₁ false env' ns' wc q' He dx):lh prog w h₁ env' ns' bC cH h1 aO D P (i+1) acc wc q' He dx:=by
 obtain⟨dW,dU,i8,mf⟩:=C.pw
 exact⟨l4,(ag.pS C.le sl).trans C.gb le,cI C.gb jm,⟨iS,le.2.1 _ _ ag.dv,c4⟩,⟨dW,dU,le.2.1 _ _ ((ag.cG C.ne).trans i8),(mf.bb (ag.uE di) (bF _)).bb le.1 jm⟩,C.ne,C.dN⟩
theorem lh.push{env':dc}{ns':List aV}{bC bR r8:ag}{cH bN rD:St}{h1 h2 pC wI:a9}{aO D:a6}{P:Nat->bM->Prop}{i:Nat}{acc:List C}{bh:Loc}{y:C}{g0:af}{dW:Array af}{dU sR:Nat}(C:lh prog w h₁ env' ns' bC cH h1 aO D P i acc bR bh bN h2)(uc:(bC.gr h1).role D=.free)
 (le:bR.le bN.next r8)(gb:bN.next<=rD.next)(qF:bT prog w h₁ false env' ns' r8 bh rD pC)(i8:r8.role D=.fix (listOf dW dU))(mf:bH prog w r8 rD.next acc dW.toList)(oW:aQ prog w r8 rD.next y g0)(hs:iF D pC wI)(aK:wI.get? D=some (listOf (dW.push g0) sR)):
 lh prog w h₁ env' ns' bC cH h1 aO D P i (acc++[y]) (r8.aY D (.fix (listOf (dW.push g0) sR))) bh rD wI:=by
 obtain⟨ee,di,c4⟩:=C.eC
 have j4:=ag.uE (n:=rD.next) (r:=.fix (listOf (dW.push g0) sR)) i8
 exact⟨qF.Pm i8 hs aK λx c az=>(C.dN x c az).2,ag.pS (C.le.trans C.gb le) uc,cI C.gb gb,⟨ee,(ag.cG C.ne.symm).trans (le.2.1 _ _ di),c4⟩,⟨dW.push g0,sR,ag.dv,by rw[Hh];exact(mf.bb j4 (bF _)).append (.uW (oW.bb j4 (bF _)))⟩,C.ne,C.dN⟩
theorem lh.cR{env':dc}{ns':List aV}{bC bR:ag}{aa:Loc}{cH bN:St}{h1 h2 aU:a9}{aO D:a6}{P:Nat->bM->Prop}{i:Nat}{acc:List C}{bh:Loc}(C:lh prog w h₁ env' ns' bC cH h1 aO D P i acc bR bh bN h2)(bK:bT prog w h₁ own env ns bC aa cH h1)(V5:env'.locals≠aO)(so:D≠env'.locals)
 (eC:bC.role aO=.free)(pw:bC.role D=.free)(wz:bC.role env'.locals=.free)(L1:∀a,bC.role a=.free->(bC.gr h1).role a=.free)(ai:∀a x,a≠aO->h2.get? a=some x->aU.get? a=some x):
 ∃cf items dU jq m,bC.le cH.next cf/\bT prog w h₁ own env ns cf aa bN aU/\cf.role D=.fix (listOf items dU)/\bH prog w cf bN.next acc items.toList/\cf.role env'.locals=.fix jq/\aU.Ns env'.locals m:=by
 obtain⟨ee,di,_⟩:=C.eC
 obtain⟨dW,dU,i8,mf⟩:=C.pw
 obtain⟨YF,WI,_⟩:=C.R.aa
 have u4:=C.R.l
 generalize env'.locals=aC at*
 obtain⟨jq,E7⟩:=C.R.bW.live aC (bS.ne u4)
 have l1:=C.R.bW.u3 (W':=(bR.aY aO .free).aY aC (.fix jq)) rfl λa=>by
  by_cases bj:a=aC
  .rw[bj];exact .inr ⟨.inl u4,.inr (.inr ⟨jq,ag.dv,E7⟩)⟩
  .by_cases e:a=aO
   .exact .inr ⟨.inr ⟨ee,by rw[e];exact di⟩,.inl ((ag.cG bj).trans (by rw[e];exact ag.dv))⟩
   .exact .inl ((ag.cG bj).trans (ag.cG e))
 have e3:∀a,((bR.aY aO .free).aY aC (.fix jq)).role a≠.free->aU.get? a=h2.get? a:=λa ha=>by
  obtain⟨oa,jj⟩:=l1.1.live a ha
  rw[jj];exact ai a oa (λe=>ha (by rw[e];exact(ag.cG (Ne.symm V5)).trans ag.dv)) jj
 have jc:bL prog w h₁ ((bR.aY aO .free).aY aC (.fix jq)) bN aU:=l1.1.keep (λa ha _=>e3 a ha) λa ha=>by rw[e3 a (bS.ne ha)];exact l1.1.live a (bS.ne ha)
 obtain⟨Qo,Im,Qp,Qq⟩:=bK.bW.cc (ag.pS (ag.pS C.le (L1 _ eC)) (L1 _ wz)) jc
 have JB:∀a jr,bC.role a=.free->((bR.aY aO .free).aY aC (.fix jq)).role a=.fix jr->(bC.cc ((bR.aY aO .free).aY aC (.fix jq))).role a=.fix jr:=λa jr bj bg=>by
  unfold ag.cc;dsimp only;rw[bj,bg]
 exact⟨_,dW,dU,jq,YF,Im,bK.next Qo Im C.gb Qq,JB _ _ pw ((ag.cG so).trans ((ag.cG C.ne).trans i8)),(mf.bb l1.2 (bF _)).bb Qp (bF _),JB _ _ wz ag.dv,WI.at' λjr aK=>(e3 aC (bS.ne ag.dv)).trans aK⟩
theorem ag.uo{W:ag}{h:a9}{a:a6}(e:W.role a=.free):(W.gr h).role a=.free:=by unfold ag.gr;dsimp only;rw[e]
theorem ag.W0{W:ag}{h:a9}{a:a6}{o:bM}(e:W.role a=.fix o):(W.gr h).role a=.fix o:=by unfold ag.gr;dsimp only;rw[e]
inductive Qr (prog:cD) (w:cm) (h₁:a9) (env':dc) (ns':List aV) (bC:ag) (cH:St) (h1:a9) (aO D:a6) (P:Nat->bM->Prop) (items:List C) (M:List C->List C->Loc->St->Prop) (n:Nat) (bR:ag) (bh:Loc) (bN:St) (h2:a9):Prop
 |mk (i:Nat) (rest acc:List C) (a3:n=rest.length) (aL:items.drop i=rest) (hi:i<=items.length) (C:lh prog w h₁ env' ns' bC cH h1 aO D P i acc bR bh bN h2) (ar:M rest acc bh bN)
theorem S2{A:b8}{ej t it:bX}{hq:List bX}{scope:eI}{pos:bz}{env':dc}{ns':List aV}{bind:C->Loc->Option Loc}{T:gj}{lZ:cy}{aC:List C->St->Prop}{R:jy->aB->Prop}
 (ht:mN prog w h₁ false env' ns' k t bind)(hT:BOk prog w h₁ false env' ns' k (oZ hq env') T)(cj:bx prog w h₁ false env' ns' k (aR ej env') lZ)(aH:fA A k){aO D:a6}{src:C}{i':af}{items:List C}{N:ag->Prop}{P:Nat->bM->Prop}
 (iw:oz prog w h₁ k src i' items aO N P){bC:ag}{cH:St}{h1:a9}(bo:aQ prog w (bC.gr h1) cH.next src i')(jI:N (bC.gr h1))(sl:(bC.gr h1).role aO=.free)(uc:(bC.gr h1).role D=.free){s:aB}
 (cR:∀i acc bR bh bN h2 aU df,aC acc bN->lh prog w h₁ env' ns' bC cH h1 aO D P i acc bR bh bN h2->(∀a x,a≠aO->h2.get? a=some x->aU.get? a=some x)->R (.ok .next) {s with heap:=aU,toks:=df})
 {bR:ag}{bh:Loc}{bN:St}{h2:a9}{tk2:Nat}(C:lh prog w h₁ env' ns' bC cH h1 aO D P 0 [] bR bh bN h2)(ar:aM (oD src items bind T lZ items [] bh bN) aC):
 fP (bp prog w) A (.compLoop (.ListComp ej [⟨t,it,hq,0⟩] scope pos) 0 (.ref aO) (.ref D) env') R {s with heap:=h2,toks:=tk2}:=by
 refine SV (y7 s (Qr prog w h₁ env' ns' bC cH h1 aO D P items λrest acc l σ=>aM (oD src items bind T lZ rest acc l σ) aC)) ?_ items.length ⟨bR,bh,bN,h2,tk2,rfl,0,items,[],rfl,rfl,jx _,C,ar⟩
 clear C ar
 intro n a8 h
 obtain⟨bR,bh,bN,h2,tk2,es,h⟩:=h
 obtain⟨i,rest,CJ,a3,aL,hi,C,ar⟩:=h
 rcases rest with _|⟨x,rest⟩<;>rw[es,a3]<;>refine fK λG cc=>?_<;>
  obtain⟨ee,di,oK⟩:=C.eC<;>
  have pD:=C.R.bW.fix _ _ di<;>
  have bY:aQ prog w bR bN.next src i':=bo.bb C.le.1 C.gb<;>
  have wJ:=iw.xN _ _ _ jI C.le.1
 .obtain⟨hit,ar⟩:=aM.gX ar
  exact cc<|wpN.of<|iw.done A bR _ i ee _ _ _ aH wJ C.R.bW bY hit (DH aL) hi pD oK di λaU df wK=>cR i CJ bR bh bN h2 aU df ar C wK
 .obtain⟨hit,ar⟩:=aM.gX ar
  obtain⟨dh,f9,ar⟩:=(aM.iy ar).cR
  obtain⟨ay,aL⟩:=zB aL
  have wQ:=(nu.mp ay).1
  refine cc<|wpN.of<|iw.item A bR bN i x ee _ _ _ aH wJ C.R.bW bY hit ay pD oK di λd6 aU df iS fv pE pF oM=>fK λG cc=>?_
  obtain⟨dN,lx,E4⟩:=iw.cls _ _ pF
  refine cc<|wpN.of<|ML pE lx E4<|wpN.of<|ht A _ bh dh bN x d6 _ _ _ aH f9 (C.step di pE oM) (fv.bb (ag.uE di) (bF _)) λgA o1 fO=>hT.go aH ar.bind fO λb qg ar wc b1 dx Pt q' jm l4 dd=>?_
  have Cs:=C.next sl di pF q' jm l4
  rw[show b=b1 from dd] at ar
  rcases b1 with _|_
  .exact⟨rest.length,hB _,wc,dh,qg,dx,Pt,rfl,i+1,rest,CJ,rfl,aL,wQ,Cs,ar⟩
  .refine cj.go aH (aM.bind ar) l4 λy rD ar r8 g0 pC va pR Nn qF oW=>fK λG cc=>?_
   obtain⟨dP,ar⟩:=aM.gX ar
   obtain⟨dW,dU,ac7,EL⟩:=Cs.pw
   have ON:=pR.2.1 _ _ ac7
   have LR:=EL.bb pR.1 Nn
   have hsz:dW.size<=hj:=by
    rw[<-fN,LR.length]
    exact cI (yh dP) (by decide)
   refine cc<|wpN.of<|wpAny_list_append_plain (hsz:=hsz) ⟨dU,qF.bW.fix _ _ ON⟩ λwI acX Xa=>?_
   obtain⟨agW,WY⟩:=acX
   exact⟨rest.length,hB _,_,dh,rD,wI,va,rfl,i+1,rest,CJ++[y],rfl,aL,wQ,Cs.push uc pR Nn qF ON LR oW Xa WY,ar⟩
theorem S1{bC:ag}{aa:Loc}{cH:St}{h1 h4:a9}{o:bM}{P:Nat->bM->Prop}{env':dc}{ns':List aV}{gm:Loc->Loc}{m:aV->Option af}(bK:bT prog w h₁ own env ns bC aa cH h1)(n0:o.isFreed=false)(c4:P 0 o)
 (fJ:env'.locals=h1.objs.size+1+1)(uk:h4.Ns env'.locals m)(gO:∀b,b<h1.objs.size+1+1->h4.get? b=((h1.push o).push (listOf #[] 0)).get? b)(sb:rQ env env' ns ns' gm):
 ∃I5,lh prog w h₁ env' ns' bC cH h1 h1.objs.size (h1.objs.size+1) P 0 [] I5 (gm aa) cH h4:=by
 have u9:((h1.push o).push (listOf #[] 0)).objs.size=h1.objs.size+1+1:=by rw[jS,jS]
 have Kg:h4.get? (h1.objs.size+1)=some (listOf #[] 0):=by
  rw[gO _ (hB _),<-jS h1 o];exact hA _ rfl
 have Kh:h4.get? h1.objs.size=some o:=by
  rw[gO _ (Am _),get?_push_ne (by rw[jS];exact hB _)];exact hA _ n0
 have zE:∀b,b<h1.objs.size->h4.get? b=h1.get? b:=λb ai=>by
  rw[gO _ (vv ai (Am _)),get?_push_ne (by rw[jS];exact yj ai),get?_push_ne ai]
 obtain⟨jq,E7⟩:∃o,h4.get? (h1.objs.size+1+1)=some o:=by rw[<-fJ];obtain⟨o,_,_,h,_⟩:=uk;exact⟨o,h⟩
 have sl:=ag.uo (h:=h1) (bK.bW.free (bF _))
 have uc:=ag.uo (h:=h1) (bK.bW.free (hb _))
 have Vd:=ag.uo (h:=h1) (bK.bW.free (yh (Am _)))
 have Ju:∀c o,(bC.gr h1).role c=.fix o->c<h1.objs.size:=λc o e=>bK.bW.gr.1.lt (bS.ne e)
 obtain⟨aI,z5⟩:=bK.bW.gr
 have QG:bL prog w h₁ (bC.gr h1) cH h4:=aI.keep (λa ha _=>zE a (aI.lt ha)) λa ha=>by rw[zE a (aI.lt (bS.ne ha))];exact aI.live a (bS.ne ha)
 generalize h1.objs.size=aO at*
 have QH:=QG.i2 (r:=.fix o) sl ⟨o,Kh⟩ (λ_ e=>nomatch e) (λc' e=>bS.fix.inj e▸Kh)
 have Lv:=(ag.cG (r:=.fix o) (Nk aO)).trans uc
 have QI:=QH.i2 (r:=.fix (listOf #[] 0)) Lv ⟨_,Kg⟩ (λ_ e=>nomatch e) (λc' e=>bS.fix.inj e▸Kg)
 have Lu:=(ag.cG (r:=.fix (listOf #[] 0)) (YN aO)).trans ((ag.cG (r:=.fix o) (Nm aO)).trans Vd)
 have QJ:=QI.i2 (r:=.aa) Lu ⟨jq,E7⟩ (λ_ e=>nomatch e) (λ_ e=>nomatch e)
 have X':=(ag.ij (n:=cH.next) (r:=.fix o) sl).trans (bF _) (ag.ij (r:=.fix (listOf #[] 0)) Lv)
 have uD:=X'.trans (bF _) (ag.ij (r:=.aa) Lu)
 have zM:∀x c,env.cells.lookup x=some c->∃o,(bC.gr h1).role c=.fix o:=λx c az=>by
  rcases bK.cells x c az with⟨_,r,_⟩|⟨_,o,r⟩
  .obtain⟨o,_,q⟩:=bK.bW.Me r;exact⟨o,q⟩
  .exact⟨o,ag.W0 r⟩
 refine⟨_,⟨QJ,fJ▸ag.dv,λx c az=>.inr ⟨rfl,?_⟩,λx y c ay bQ=>bK.apart x y c (sb.sub x c ay) (sb.sub y c bQ),λx c az=>?_,m,uk,λi v a'=>?_⟩,uD,bF _,⟨o,(ag.cG (YM aO)).trans ((ag.cG (YL aO)).trans ag.dv),c4⟩,⟨#[],0,(ag.cG (Nl aO)).trans ag.dv,.nil⟩,Nk _,λx c az=>?_⟩
 .obtain⟨c',r⟩:=zM x c (sb.sub x c az);exact⟨c',uD.2.1 _ _ r⟩
 .obtain⟨ni,c',ho,e8⟩:=bK.pj x c (sb.sub x c az)
  obtain⟨_,r⟩:=zM x c (sb.sub x c az)
  exact⟨ni,c',(zE c (Ju _ _ r)).trans ho,e8⟩
 .obtain⟨aj,x,c2,ay,kX,E1,m2,WA⟩:=sb.cap aa i v a'
  obtain⟨m,hm,f⟩:=bK.aa
  obtain⟨y,ax,bQ,aL,hs⟩:=f aj v c2
  rw[<-cx (ay.symm.trans bQ)] at hs
  refine⟨x,ax,kX,(aL.bb z5 (bF _)).bb uD.1 (bF _),.inr ⟨m2,?_⟩⟩
  rcases hs with⟨q,_⟩|⟨_,c,az,c',ho,e8⟩
  .exact nomatch E1.symm.trans q
  .obtain⟨_,r⟩:=zM x c az
   exact⟨c,WA.trans az,c',(zE c (Ju _ _ r)).trans ho,e8⟩
 .obtain⟨c',r⟩:=zM x c (sb.sub x c az)
  exact⟨λe=>bS.no sl (e▸r),λe=>bS.no uc (e▸r)⟩
theorem DB{A:b8}{W:ag}{aa:Loc}{σ:St}{s:aB}{E:af->aB->Prop}{ej t it:bX}{hq:List bX}{scope:eI}{pos:bz}{fe:List (aV×a6)}{ns':List aV}{o9:cy}{gm:Loc->Loc}{bind:C->Loc->Option Loc}{T:gj}{lZ:cy}{aC:List C->St->Prop}
 {RR:af->a6->jy->aB->Prop}
 (hit:bx prog w h₁ own env ns k (aR it env) o9)(su:∀aC,rQ env (hC scope fe aC env) ns ns' gm)(nV:∀y∈scope.names,y.2≠.cell)(j1:scope.kind=.function)
 (ht:∀aC,mN prog w h₁ false (hC scope fe aC env) ns' k t bind)(hT:∀aC,BOk prog w h₁ false (hC scope fe aC env) ns' k (oZ hq (hC scope fe aC env)) T)(cj:∀aC,bx prog w h₁ false (hC scope fe aC env) ns' k (aR ej (hC scope fe aC env)) lZ)
 (aH:fA A k)(ar:aM (zu o9 gm bind T lZ aa σ) aC)(R:bT prog w h₁ own env ns W aa σ s.heap)
 (V8:∀acc a4,aC acc a4->∀cf aU df D aC jq items dU m,W.bV D->W.bV aC->W.le σ.next cf->σ.next<=a4.next->bT prog w h₁ own env ns cf aa a4 aU->cf.role D=.fix (listOf items dU)->bH prog w cf a4.next acc items.toList->cf.role aC=.fix jq->aU.Ns aC m->RR (.ref D) aC (.ok .next) {s with heap:=aU,toks:=df}):
 wpN (bp prog w) A (aR it env) (λx bw=>wpN (bp prog w) A (pyIter x) (λXT dk=>wpN (bp prog w) A (newList []) (λqI gg=>
  wpN (bp prog w) A (newFunctionEnv scope env.globals fe [] env.qual none .none (some env)) (λcenv rt=>
   fP (bp prog w) A (.compStart (.ListComp ej [⟨t,it,hq,0⟩] scope pos) 0 XT qI {cenv with scope:=relabel scope env}) (RR qI cenv.locals) rt) E gg) E dk) E bw) E s:=by
 refine hit.go aH ar.bind R λsrc cH ar bC i' h1 c0 bO ab bK bo=>?_
 obtain⟨items,bg,ar⟩:=(aM.iy ar).cR
 refine wpN.of<|Gz (k:=k) (s:={s with heap:=h1,toks:=c0}) bK.bW bo bg λo N P n0 jI c4 iw=>?_
 refine wpN.of<|lb<|wpN.of (wpAny_newFunctionEnv nV (λy bQ=>absurd bQ (iI)) (λh4 uk oN=>?_) j1)
 have u9:((h1.push o).push (listOf #[] 0)).objs.size=h1.objs.size+1+1:=by rw[jS,jS]
 show fP _ _ (.compStart (.ListComp ej [⟨t,it,hq,0⟩] scope pos) 0 (.ref h1.objs.size) (.ref (h1.push o).objs.size) (hC scope fe ((h1.push o).push (listOf #[] 0)).objs.size env)) (RR (.ref (h1.push o).objs.size) ((h1.push o).push (listOf #[] 0)).objs.size) _
 dsimp only at uk oN
 rw[jS,jS] at uk oN
 rw[u9,jS]
 obtain⟨I5,C⟩:=S1 (env':=hC scope fe (h1.objs.size+1+1) env) bK n0 c4 rfl uk (λb ai=>(oN.2 b (eL ai)).trans (get?_push_ne (by rw[jS,jS];exact ai))) (su _)
 have eC:bC.role h1.objs.size=.free:=bK.bW.free (bF _)
 have pw:bC.role (h1.objs.size+1)=.free:=bK.bW.free (hb _)
 have wz:bC.role (h1.objs.size+1+1)=.free:=bK.bW.free (yh (Am _))
 have z5:=bK.bW.gr.2
 obtain⟨ee,di,oK⟩:=C.eC
 have aZ:=λcw=>S2 (pos:=pos) (it:=it) (scope:=scope) (s:=s) (R:=RR (.ref (h1.objs.size+1)) (h1.objs.size+1+1)) (tk2:=cw) (ht _) (hT _) (cj _) aH iw (bo.bb z5 (bF _)) (iw.xN _ _ _ jI z5) (ag.uo eC) (ag.uo pw)
  (λi acc bR bh bN h2 aU df c C ai=>by
    obtain⟨cf,items,dU,jq,m,m7,dO,i8,mf,oV,hm⟩:=C.cR bK (Nm _) (Nl _) eC pw wz (λ_ e=>ag.uo e) ai
    exact V8 acc bN c cf aU df _ _ jq items dU m (ag.NX bO pw) (ag.NX bO wz) (bO.trans ab m7) (cI ab C.gb) dO i8 mf oV hm) C ar
 exact SW (aZ _) (wpN.of<|iw.self A 0 ee _ _ _ (C.R.bW.fix _ _ di) oK (aZ _))
theorem bT.AS{W:ag}{aa:Loc}{σ:St}{h:a9}{D:a6}{o:bM}(R:bT prog w h₁ own env ns W aa σ h)(ha:W.role D=.fix o)(az:∀x c,env.cells.lookup x=some c->c≠D):
 bT prog w h₁ own env ns (W.aY D (.imm o)) aa σ h/\W.fL σ.next (W.aY D (.imm o)):=by
 obtain⟨Co,v9⟩:=R.bW.AS ha
 have ne:∀b r,W.role b=r->(∀o,r≠.fix o)->(W.aY D (.imm o)).role b=r:=λb r e q=>by
  rw[ag.cG]
  .exact e
  .rintro rfl;rw[ha] at e;exact q _ e.symm
 refine⟨⟨Co,ne _ _ R.l (λ_ q=>nomatch q),λx c ay=>(R.cells x c ay).imp (λq=>⟨q.1,ne _ _ q.2.1 (λ_ q=>nomatch q),q.2.2⟩) λ⟨q,jr,r⟩=>⟨q,jr,by rw[ag.cG (az x c ay)];exact r⟩,R.apart,R.pj,?_⟩,v9⟩
 obtain⟨m,hm,f⟩:=R.aa
 exact⟨m,hm,λi v a'=>by obtain⟨x,ax,ay,aL,hs⟩:=f i v a';exact⟨x,ax,ay,aL.bb v9 (bF _),hs⟩⟩
theorem bT.drop{W:ag}{aa:Loc}{σ:St}{h:a9}{D:a6}{o:bM}(R:bT prog w h₁ own env ns W aa σ h)(ha:W.role D=.fix o)(az:∀x c,env.cells.lookup x=some c->c≠D):
 bT prog w h₁ own env ns (W.aY D .free) aa σ h/\W.fL σ.next (W.aY D .free):=by
 obtain⟨Co,v9⟩:=R.bW.u3 (W':=W.aY D .free) rfl λa=>by
  by_cases e:a=D
  .subst e;exact .inr ⟨.inr ⟨o,ha⟩,.inl ag.dv⟩
  .exact .inl (ag.cG e)
 have ne:∀b r,W.role b=r->(∀o,r≠.fix o)->(W.aY D .free).role b=r:=λb r e q=>by
  rw[ag.cG]
  .exact e
  .rintro rfl;rw[ha] at e;exact q _ e.symm
 refine⟨⟨Co,ne _ _ R.l (λ_ q=>nomatch q),λx c ay=>(R.cells x c ay).imp (λq=>⟨q.1,ne _ _ q.2.1 (λ_ q=>nomatch q),q.2.2⟩) λ⟨q,jr,r⟩=>⟨q,jr,by rw[ag.cG (az x c ay)];exact r⟩,R.apart,R.pj,?_⟩,v9⟩
 obtain⟨m,hm,f⟩:=R.aa
 exact⟨m,hm,λi v a'=>by obtain⟨x,ax,ay,aL,hs⟩:=f i v a';exact⟨x,ax,ay,aL.bb v9 (bF _),hs⟩⟩
theorem bT.toCell{W:ag}{aa:Loc}{σ:St}{h:a9}{D:a6}{x:cO}(R:bT prog w h₁ own env ns W aa σ h)(ha:W.role D=.free)(aJ:∃o,h.get? D=some o)(ay:CellAt prog w (W.fD σ.next D) (σ.next+1) h σ.next D x):
 bT prog w h₁ own env ns (W.fD σ.next D) aa (σ.new x) h/\W.le σ.next (W.fD σ.next D):=
 have l:=ag.ra (n:=σ.next) ha
 ⟨R.next (R.bW.alloc ha aJ ay) l (hb _) λ_ _=>rfl,l⟩
theorem bT.qN{W:ag}{aa:Loc}{σ:St}{h:a9}{D:a6}{o:bM}(R:bT prog w h₁ true env ns W aa σ h)(ha:W.role D=.fix o):∀x c,env.cells.lookup x=some c->c≠D:=λx c ay=>by
 rcases R.cells x c ay with⟨_,r,_⟩|⟨q,_⟩
 .rintro rfl;exact bS.no ha r
 .cases q
section
variable{ej t it:bX}{hq:List bX}{scope:eI}{pos:bz}{fe:List (aV×a6)}{ns':List aV}{o9:cy}{gm:Loc->Loc}{bind:C->Loc->Option Loc}{T:gj}{lZ:cy}
theorem mV(hit:bx prog w h₁ true env ns k (aR it env) o9)(sx:closureFor scope env=pure fe)(su:∀aC,rQ env (hC scope fe aC env) ns ns' gm)(nV:∀y∈scope.names,y.2≠.cell)(j1:scope.kind=.function)(nZ:∀y∈scope.names,y.2=.local->scope.names.lookup y.1=some .local)
 (ht:∀aC,mN prog w h₁ false (hC scope fe aC env) ns' k t bind)(hT:∀aC,BOk prog w h₁ false (hC scope fe aC env) ns' k (oZ hq (hC scope fe aC env)) T)(cj:∀aC,bx prog w h₁ false (hC scope fe aC env) ns' k (aR ej (hC scope fe aC env)) lZ)
 (hs:autoParam (∀x,tC it env x=pure x) x4._auto_1):
 bx prog w h₁ true env ns k (aR (.ListComp ej [⟨t,it,hq,0⟩] scope pos) env) (gx o9 gm bind T lZ):=by
 refine .of λA W aa σ s Q E aH ar R=>?_
 rw[eval_ListComp]
 refine G4 (use:=none) rfl hs sx j1 nZ (DB (RR:=λqI aC=>zv (bp prog w) A none Q qI aC) hit su nV j1 ht hT cj aH ar.bind R λacc bN aW cf aU df D aC jq items dU m xr xq m7 bE dO i8 mf oV hm=>?_)
 refine⟨m,hm,λh4 oN=>?_⟩
 obtain⟨eM,xg⟩:=dO.drop oV (dO.qN oV)
 have so:=dO.bW.FJ i8 hm
 have u2:(cf.aY aC .free).role D=.fix (listOf items dU):=by rw[ag.cG so];exact i8
 have Ck:bL prog w h₁ (cf.aY aC .free) bN h4:=eM.bW.sameBut oN (.inl ag.dv)
 have fO:bT prog w h₁ true env ns (cf.aY aC .free) aa bN h4:=eM.next Ck ag.le.refl (bF _) λa ha=>oN.2 a (by rintro rfl;rw[ag.dv] at ha;exact nomatch ha)
 obtain⟨l4,Aq⟩:=fO.AS u2 (fO.qN u2)
 exact aW _ _ h4 df (ag.uF (ag.uF m7 xq) xr) bE l4 (.bB ag.dv rfl rfl ((mf.bb xg (bF _)).bb Aq (bF _)))
theorem Ki(hit:bx prog w h₁ true env ns k (aR it env) o9)(sx:closureFor scope env=pure fe)(su:∀aC,rQ env (hC scope fe aC env) ns ns' gm)(nV:∀y∈scope.names,y.2≠.cell)(j1:scope.kind=.function)(nZ:∀y∈scope.names,y.2=.local->scope.names.lookup y.1=some .local)
 (ht:∀aC,mN prog w h₁ false (hC scope fe aC env) ns' k t bind)(hT:∀aC,BOk prog w h₁ false (hC scope fe aC env) ns' k (oZ hq (hC scope fe aC env)) T)(cj:∀aC,bx prog w h₁ false (hC scope fe aC env) ns' k (aR ej (hC scope fe aC env)) lZ)
 (hs:autoParam (∀x,tC it env x=pure x) x4._auto_1):
 bx prog w h₁ true env ns k (aR (.ListComp ej [⟨t,it,hq,0⟩] scope pos) env) (qR o9 gm bind T lZ):=by
 refine .of λA W aa σ s Q E aH ar R=>?_
 rw[eval_ListComp]
 refine G4 (use:=none) rfl hs sx j1 nZ (DB (RR:=λqI aC=>zv (bp prog w) A none Q qI aC) hit su nV j1 ht hT cj aH ar.bind R λacc bN aW cf aU df D aC jq items dU m xr xq m7 bE dO i8 mf oV hm=>?_)
 refine⟨m,hm,λh4 oN=>?_⟩
 obtain⟨eM,xg⟩:=dO.drop oV (dO.qN oV)
 have so:=dO.bW.FJ i8 hm
 have u2:(cf.aY aC .free).role D=.fix (listOf items dU):=by rw[ag.cG so];exact i8
 have Ck:bL prog w h₁ (cf.aY aC .free) bN h4:=eM.bW.sameBut oN (.inl ag.dv)
 have fO:bT prog w h₁ true env ns (cf.aY aC .free) aa bN h4:=eM.next Ck ag.le.refl (bF _) λa ha=>oN.2 a (by rintro rfl;rw[ag.dv] at ha;exact nomatch ha)
 have Md:h4.get? D=some (listOf items dU):=fO.bW.fix _ _ u2
 obtain⟨l4,Aq⟩:=fO.drop u2 (fO.qN u2)
 have Ks:((cf.aY aC .free).aY D .free).role D=.free:=ag.dv
 have EL:=(mf.bb xg (bF _)).bb Aq (bF _)
 obtain⟨qF,pR⟩:=l4.toCell (x:=.list acc) Ks ⟨_,Md⟩ (.list Md (EL.bb (ag.ra (n:=bN.next) Ks).1 (hb _)))
 have e7:(((cf.aY aC .free).aY D .free).fD bN.next D).al bN.next=D:=by show(if bN.next=bN.next then _ else _)=_;rw[if_pos rfl]
 have q:aQ prog w (((cf.aY aC .free).aY D .free).fD bN.next D) (bN.next+1) (.ref bN.next) (.ref ((((cf.aY aC .free).aY D .free).fD bN.next D).al bN.next)):=.ref (hB _)
 rw[e7] at q
 exact aW _ _ h4 df ((ag.uF (ag.uF m7 xq) xr).trans bE pR) (cI bE (hb _)) qF q
theorem OZ{y:aV}{u1 Pe:bz}{i:Nat}(hit:bx prog w h₁ true env ns k (aR it env) o9)(sx:closureFor scope env=pure fe)(su:∀aC,rQ env (hC scope fe aC env) ns ns' gm)(nV:∀y∈scope.names,y.2≠.cell)(j1:scope.kind=.function)(nZ:∀y∈scope.names,y.2=.local->scope.names.lookup y.1=some .local)
 (ht:∀aC,mN prog w h₁ false (hC scope fe aC env) ns' k t bind)(hT:∀aC,BOk prog w h₁ false (hC scope fe aC env) ns' k (oZ hq (hC scope fe aC env)) T)(cj:∀aC,bx prog w h₁ false (hC scope fe aC env) ns' k (aR ej (hC scope fe aC env)) lZ)
 (bQ:ns[i]? =some y)(a3:ns.Nodup)(hk:qD true env y)(Xf:qu (.ListComp ej [⟨t,it,hq,0⟩] scope pos) (some (.Name y u1)) Pe.line env=pure true)(hf:autoParam (env.scope.kind=.function) aN._auto_1)
 (hs:autoParam (∀x,tC it env x=pure x) x4._auto_1):
 SOk prog w h₁ env ns k (hg (.Assign [.Name y u1] (.ListComp ej [⟨t,it,hq,0⟩] scope pos) Pe) env) (cC i (gx o9 gm bind T lZ)):=by
 refine .of λA W aa σ s Q E aH ar R=>?_
 rw[exec_Assign_Name_used _ _ _ _ Xf]
 refine bc (eP (bc ?_))
 show wpN _ A (do let _<-comprehension (.ListComp ej [⟨t,it,hq,0⟩] scope pos) scope env _ (newList []) false (aR it env) (some (ot (.Name y u1) env))) _ _ s
 refine bc (cX (G4 (use:=some (ot (.Name y u1) env)) (Q:=λ_ a8=>Q .next a8) rfl hs sx j1 nZ
  (DB (RR:=λqI aC=>zv (bp prog w) A (some (ot (.Name y u1) env)) (λ_ a8=>Q .next a8) qI aC) hit su nV j1 ht hT cj aH (aM.bind (aM.bind ar)) R λacc bN aW cf aU df D aC jq items dU m xr xq m7 bE dO i8 mf oV hm=>?_)) (λ_ a8 cn=>cS (cS cn)) λ_ _ e=>e)
 have so:=dO.bW.FJ i8 hm
 obtain⟨eM,xg⟩:=dO.AS i8 (dO.qN i8)
 have GC:(cf.aY D (.imm (listOf items dU))).role aC=.fix jq:=by rw[ag.cG (Ne.symm so)];exact oV
 show wpN _ A (ot (.Name y u1) env (.ref D)) _ _ _
 refine wpN.of<|wpAny_assign_Name (eM.storeName (s:={s with heap:=aU,toks:=df}) bQ a3 (.bB ag.dv rfl rfl (mf.bb xg (bF _))) hk hf λh4 ru fO=>?_)
 refine⟨m,hm.at' λo aK=>?_,λgA uu=>?_⟩
 .have z:=dO.bW.fix _ _ oV
  rw[aK] at z;cases z
  exact fO.bW.fix _ _ GC
 .obtain⟨l4,Aq⟩:=fO.drop GC (fO.qN GC)
  have Qw:bL prog w h₁ ((cf.aY D (.imm (listOf items dU))).aY aC .free) bN gA:=l4.bW.sameBut uu (.inl ag.dv)
  have qF:=l4.next Qw ag.le.refl (bF _) λa ha=>uu.2 a (by rintro rfl;rw[ag.dv] at ha;exact nomatch ha)
  exact aW _ _ gA ru (ag.uF (ag.uF m7 xr) xq) bE qF trivial
end
end Internal
namespace Internal
open PySem PySem.W PyProof.Rows PySem.Calls
variable{prog:cD}{w:cm}{h₁:a9}{K:fH}{own:Bool}{env:dc}{ns:List aV}{k:Nat}
theorem Jy{kindOf:aV->Option NameKind}:∀{binds:List (aV×af)} {m:aV->Option af} {x:aV},x∉binds.map (·.1)->bindL kindOf binds m x=m x
 |[],_,_,_=>rfl
 |(n,v)::r,m,x,h=>by
  simp only[jw,fX,not_or] at h
  unfold bindL
  rw[Jy h.2]
  split
  .show(if x=n then some v else m x)=m x
   rw[if_neg h.1]
  .rfl
theorem Jw{kindOf:aV->Option NameKind}:∀{binds:List (aV×af)} {m:aV->Option af} {x:aV},x∉binds.map (·.1)->bindC kindOf binds m x=m x
 |[],_,_,_=>rfl
 |(n,v)::r,m,x,h=>by
  simp only[jw,fX,not_or] at h
  unfold bindC
  rw[Jw h.2]
  split
  .rfl
  .show(if x=n then some v else m x)=m x
   rw[if_neg h.1]
theorem Jx{kindOf:aV->Option NameKind}:∀{xs:List aV} {vs:List af} {m:aV->Option af} {i:Nat} {x:aV} {v:af},xs.Nodup->xs[i]? =some x->vs[i]? =some v->kindOf x=some .local->bindL kindOf (xs.zip vs) m x=some v
 |[],_,_,_,_,_,_,h,_,_=>by simp at h
 |_::_,[],_,_,_,_,_,_,h,_=>by simp at h
 |y::ju,u::cU,m,0,x,v,a3,ay,a',hk=>by
  simp at ay a';subst ay a'
  rw[kb] at a3
  rw[yf];unfold bindL
  rw[Jy (λh=>a3.1 (by
   obtain⟨p,hp,e⟩:=ec.mp h
   have:=List.of_mem_zip (a:=p.1) (b:=p.2) hp
   rw[<-e];exact this.1)),if_pos hk]
  simp
 |y::ju,u::cU,m,i+1,x,v,a3,ay,a',hk=>by
  rw[kb] at a3
  rw[yf];unfold bindL
  exact Jx a3.2 (by simpa using ay) (by simpa using a') hk
theorem Jv{kindOf:aV->Option NameKind}:∀{xs:List aV} {vs:List af} {m:aV->Option af} {i:Nat} {x:aV} {v:af},xs.Nodup->xs[i]? =some x->vs[i]? =some v->kindOf x≠some .local->bindC kindOf (xs.zip vs) m x=some v
 |[],_,_,_,_,_,_,h,_,_=>by simp at h
 |_::_,[],_,_,_,_,_,_,h,_=>by simp at h
 |y::ju,u::cU,m,0,x,v,a3,ay,a',hk=>by
  simp at ay a';subst ay a'
  rw[kb] at a3
  rw[yf];unfold bindC
  rw[Jw (λh=>a3.1 (by
   obtain⟨p,hp,e⟩:=ec.mp h
   have:=List.of_mem_zip (a:=p.1) (b:=p.2) hp
   rw[<-e];exact this.1)),if_neg hk]
  simp
 |y::ju,u::cU,m,i+1,x,v,a3,ay,a',hk=>by
  rw[kb] at a3
  rw[yf];unfold bindC
  exact Jv a3.2 (by simpa using ay) (by simpa using a') hk
noncomputable def ag.sW(W:ag)(as:List a6):ag:={W with role:=λa=>if a∈as then .aa else W.role a}
theorem Sv{W:ag}{σ:St}{h h2:a9}{aZ fa:a6}{fd:d3}{xs ns:List aV}{m:Nat}{args:List C}{e5:List af}{i1:List (aV×a6)}{M:aV->Option af}{S6:aV->Option af}(R:bL prog w h₁ W σ h)(ha:bH prog w W σ.next args e5)(dP:args.length=xs.length)(kV:∃ju,ns=xs++ju)(m3:ns.Nodup)(sz:(jA fd aZ fa).cells=i1)
 (fR:h.objs.size<=aZ)(wV:h2.Ns aZ M)(m2:∀b o,h.get? b=some o->h2.get? b=some o)(sO:∀x c,i1.lookup x=some c->h2.IsCell c (S6 x))(ux:i1.Pairwise λp q=>p.2≠q.2)(w3:∀x c,(x,c)∈i1->aZ<c)
 (slot:∀(i:Nat) x gQ,x∈xs->xs[i]? =some x->e5[i]? =some gQ->Slot (jA fd aZ fa) h2 M x gQ):
 ∃bR,W.le σ.next bR/\bT prog w h₁ true (jA fd aZ fa) ns bR (args.map some++kc m none) σ h2:=by
 have afi:∀x y c,i1.lookup x=some c->i1.lookup y=some c->x=y:=λx y c ay bQ=>by
  have h1:=mem_of_lookup ay
  have h2:=mem_of_lookup bQ
  clear sz sO w3 ay bQ
  induction i1 with
  |nil=>cases h1
  |cons p r a7=>
   rw[List.pairwise_cons] at ux
   rcases fX.mp h1 with bj|q1<;>rcases fX.mp h2 with bg|zV
   .rw[<-bj] at bg;cases bg;rfl
   .have:=ux.1 _ zV;rw[<-bj] at this;exact absurd rfl this
   .have:=ux.1 _ q1;rw[<-bg] at this;exact absurd rfl this
   .exact a7 ux.2 q1 zV
 have wD:∀a,a∈aZ::i1.map (·.2)->W.role a=.free:=λa h=>by
  rcases fX.mp h with rfl|h
  .exact R.free fR
  .obtain⟨p,hp,rfl⟩:=ec.mp h
   exact R.free (cI fR (yh (w3 p.1 p.2 hp)))
 have jL:∀p∈i1,i1.lookup p.1=some p.2\/∃c,i1.lookup p.1=some c:=λp hp=>by
  cases q:i1.lookup p.1 with
  |some c=>exact .inr ⟨c,rfl⟩
  |none=>rw[List.lookup_eq_none_iff] at q;simpa using q p hp
 let as:List a6:=aZ::(i1.filter λp=>i1.lookup p.1==some p.2).map (·.2)
 have wh:∀a∈as,a∈aZ::i1.map (·.2):=λa h=>by
  rcases fX.mp h with rfl|h
  .exact .head _
  .obtain⟨p,hp,rfl⟩:=ec.mp h
   exact .tail _ (ec.mpr ⟨p,(h5.mp hp).1,rfl⟩)
 have Su:∀x c,i1.lookup x=some c->c∈as:=λx c az=>.tail _ (ec.mpr ⟨(x,c),h5.mpr ⟨mem_of_lookup az,by simp[az]⟩,rfl⟩)
 have u4:∀a,a∈as->(W.sW as).role a=.aa:=λa h=>by simp[ag.sW,h]
 have rn:∀a,a∉as->(W.sW as).role a=W.role a:=λa h=>by simp[ag.sW,h]
 have j3:W.le σ.next (W.sW as):=by
  refine⟨⟨λa jr e=>?_,λ_ _=>rfl⟩,λa jr e=>?_,λa e=>?_⟩
  .rw[rn a λh=>by rw[wD a (wh a h)] at e;exact nomatch e];exact e
  .rw[rn a λh=>by rw[wD a (wh a h)] at e;exact nomatch e];exact e
  .rw[rn a λh=>by rw[wD a (wh a h)] at e;exact nomatch e];exact e
 have cc:∀a r,(W.sW as).role a=r->r≠.aa->W.role a=r:=λa r e q=>by
  by_cases h:a∈as
  .rw[u4 a h] at e;exact absurd e.symm q
  .rw[rn a h] at e;exact e
 have zb:=R.me m2
 have cQ:bL prog w h₁ (W.sW as) σ h2:=by
  refine⟨R.nz,λa jr e=>j3.1.1 a jr (R.base a jr e),λa jr e=>zb.imm a jr (cc _ _ e λq=>nomatch q),λa jr e=>zb.fix a jr (cc _ _ e λq=>nomatch q),λa e=>?_,λc x az=>?_,R.top⟩
  .by_cases h:a∈as
   .rcases fX.mp h with rfl|h
    .obtain⟨o,_,_,h,_⟩:=wV;exact⟨o,h⟩
    .obtain⟨p,hp,rfl⟩:=ec.mp h
     have aJ:=(h5.mp hp).2
     obtain⟨o,h,_⟩:=sO p.1 p.2 (by simpa using aJ)
     exact⟨o,h⟩
   .rw[rn a h] at e;exact zb.live a e
  .obtain⟨r,q⟩:=zb.cell c x az
   have gq:W.al c∉as:=λh=>by rw[wD _ (wh _ h)] at r;exact nomatch r
   refine⟨(rn _ gq).trans r,q.bb j3.1 (bF _) rfl λd aD=>⟨(rn d λh=>by rw[wD _ (wh _ h)] at aD;exact nomatch aD).trans aD,rfl⟩⟩
 refine⟨_,j3,cQ,u4 _ (.head _),λx c az=>?_,λx y c az=>?_,λx c az=>?_,_,wV,λi u bZ=>?_⟩
 .rw[sz] at az
  exact .inl ⟨rfl,u4 _ (Su x c az),k9 (w3 x c (mem_of_lookup az))⟩
 .rw[sz] at az⊢;exact afi x y c az
 .rw[sz] at az;exact⟨_,sO x c az⟩
 .obtain⟨x,gQ,ay,sM,pO,a3,r,_⟩:=Jf ha dP kV m3 bZ
  exact⟨x,gQ,a3,r.bb j3.1 (bF _),slot i x gQ ay sM pO⟩
theorem zH{fa:a6}{o:bM}{fd:d3}{body:List dG}{xs ns:List aV}{m:Nat}{D:ck}(B:b3 K h₁)(aK:h₁.get? fa=some o)(aD:o.data=.func fd)(kU:h₁.CodeRec fd.code fd.qualname)(nU:fd.body=.stmts body)
 (pH:∀args:List af,args.length=xs.length->tA fd ⟨args,[]⟩=pure (xs.zip args))(sv:fd.closure=[])(kV:∃ju,ns=xs++ju)(m3:ns.Nodup)(pM:∀x∈xs,fd.scope.names.lookup x=some .local\/fd.scope.names.lookup x=some .cell)
 (ai:∀aZ,SOk prog w h₁ (jA fd aZ fa) ns k (dr body (jA fd aZ fa)) D)(nW:autoParam (fd.scope.isCoroutine=false) aN._auto_1)(nX:autoParam (fd.scope.isGenerator=false) aN._auto_1)(hk:autoParam (fd.scope.kind=.function) aN._auto_1):
 OpOk prog w h₁ (k+1) (λvs=>cF (.ref fa) vs) (e2 D xs.length m):=by
 refine .of λA W σ args e5 s Q E aH a5 R ha=>?_
 obtain⟨dP,a5⟩:=aM.gX a5
 have q5:e5.length=xs.length:=ha.length.trans dP
 have wZ:xs.Nodup:=by obtain⟨ju,e⟩:=kV;rw[e] at m3;exact(yd.mp m3).1
 have w0:(xs.zip e5).map (·.1)=xs:=List.map_fst_zip (er q5.symm)
 refine A' (SS aH.MN (R.old _ _ aK) aD (B.nolimit.keeps R.old) (kU.keeps R.old) nU (pH e5 q5) sv (λp hp=>?_) (λmw Qu=>?_) nW nX hk)
 .rcases pM p.1 (w0▸ec.mpr ⟨p,hp,rfl⟩) with q|q
  .exact .inl q
  .exact .inr ⟨q,cellsFrom_some _ _ _ (.inl q)⟩
 obtain⟨⟨⟨h2,tk2,es⟩,wV,m2,_⟩,sO,ux,w3⟩:=Qu
 rw[es] at wV m2 sO⊢
 obtain⟨bR,j3,Cp⟩:=Sv (m:=m) R ha dP kV m3 rfl (bF _) wV m2 sO ux w3 λi x gQ ay sM pO=>by
  rcases pM _ ay with q|q
  .exact .inl ⟨q,Jx wZ sM pO q⟩
  .obtain⟨c,az⟩:=vz.mp (cellsFrom_some (x:=x) fd.scope.names (s.heap.objs.size+1) [] (.inl q))
   refine .inr ⟨.inl q,c,az,?_⟩
   have z:=sO _ _ az
   rw[Jv wZ sM pO (by show fd.scope.names.lookup x≠_;rw[q];exactλe=>nomatch e)] at z
   exact z
 refine(ai s.heap.objs.size).go (s:={s with heap:=h2,toks:=tk2}) aH.J5 (aM.bind a5) Cp λf p a5 cf qX aU df dh bE dO ea=>?_
 obtain⟨oy,nH,Cf,Cg⟩:=dO.bW.gW σ.next
 have xe:W.le σ.next (cf.gW σ.next p.2 aU):=⟨(j3.1.trans (bF _) dh.1).trans bE nH,λa o e=>Cf a o (dh.2.1 a o (j3.2.1 a o e)),λa e=>Cg a (dh.2.2 a (j3.2.2 a e))⟩
 revert a5
 refine mM.uV ea (λa5=>?_) (λa5=>dA a5) (λa5=>dA a5) (λu gQ GG a5=>?_)
 .exact dJ.to a5 _ _ aU df xe bE oy .none
 .exact dJ.to a5 _ _ aU df xe bE oy (Lk dO.bW GG)
end Internal
namespace Internal
open PySem PySem.W PyProof.Rows PySem.Calls
variable{prog:cD}{w:cm}{h₁:a9}{K:fH}{own:Bool}{env:dc}{ns:List aV}{k:Nat}
theorem bH.PA{W:ag}{n:Nat}{a b:C}{bG:List af}(h:bH prog w W n [a,b] bG):∃bD b1,bG=[bD,b1]/\aQ prog w W n a bD/\aQ prog w W n b b1:=by
 cases h with
 |cons h1 h=>cases h with
  |cons h2 h=>cases h;exact⟨_,_,rfl,h1,h2⟩
noncomputable def m4(g:Int->Int->Option C):b4
 |[.int a,.int b],σ=>(g a b).map λv=>(v,σ)
 |_,_=>none
theorem nf{f:af->af->c8 af}{g:Int->Int->Option C}
 (h:∀(A:b8) (W:ag) (n:Nat) a b t u v (s:aB) (Q E:af->aB->Prop),fA A k->g a b=some v->(∀ax c6,aQ prog w W n v ax->Q ax {s with toks:=c6})->wpAny (bp prog w) A (f (.int a t) (.int b u)) Q E s):
 OpOk prog w h₁ k (fF f) (m4 g):=by
 refine .gv λW σ a bD r cu b7 aL=>.int (λa=>a::r) (λa=>a::cu) b7 λi t=>.more (λr=>_::r) (λr=>_::r) aL λb b1 q el dd cn=>.int (λb=>_::b::q) (λb=>_::b::el) dd λaj u=>.end (λq=>_::_::q) (λq=>_::_::q) cn λA s Q E aH a5 R=>?_
 obtain⟨v,e,a'⟩:=a5.map.cR
 exact wpN.of (h A W _ i aj t u v s Q E aH e λ_ cw r=>a'.at R r cw)
noncomputable def lK:b4:=m4 λa b=>some (.int (a-b))
noncomputable def m9:b4:=m4 λa b=>if a.natAbs<2^62 then some (.int (a*b)) else none
noncomputable def wC:b4:=m4 λa b=>if 0<b/\b<2^62 then some (.int (a.fdiv b)) else none
noncomputable def iB:b4:=m4 λa b=>if b≠0 then some (.int (a.fmod b)) else none
noncomputable def xJ:b4:=m4 λa b=>if 0<=b/\b<=1000/\a.natAbs<2^62 then some (.int (a*2^b.toNat)) else none
noncomputable def GP:b4:=m4 λa b=>if 0<=b then some (.int (a.fdiv (2^b.toNat))) else none
noncomputable def Gq:b4:=m4 λa b=>some (.int (Bo a b))
noncomputable def k2:b4:=m4 λa b=>some (.bool (decide (a<b)))
noncomputable def sT:b4:=m4 λa b=>some (.bool (decide (a<=b)))
noncomputable def kr:b4:=m4 λa b=>some (.bool (decide (b<a)))
noncomputable def EH:b4:=m4 λa b=>some (.bool (decide (b<=a)))
theorem AJ:OpOk prog w h₁ k (fF (nC .Sub)) lK:=nf λA W n a b t u v s Q E aH a0 aW=>by cases a0;exact sub_int (aW _ _ (.int _ _))
theorem NL:OpOk prog w h₁ k (fF (inplaceOp .Sub)) lK:=nf λA W n a b t u v s Q E aH a0 aW=>by cases a0;exact isub_int (aW _ _ (.int _ _))
theorem xu:OpOk prog w h₁ k (fF (nC .Mult)) m9:=nf λA W n a b t u v s Q E aH a0 aW=>by
 split at a0
 .rename_i h
  cases a0
  have ai:Builtin.Int.intBits a<=64:=intBits_le_64 (by omega) (by omega)
  exact mul_int (aW _ _ (.int _ _)) (.of_left ai)
 .cases a0
theorem NI:OpOk prog w h₁ k (fF (nC .FloorDiv)) wC:=nf λA W n a b t u v s Q E aH a0 aW=>by
 split at a0
 .rename_i h
  cases a0
  refine floordiv_int (by exact aE.aaP h) (aW _ _ (.int _ _)) (.inl ?_)
  have agS:b.natAbs.log2<62:=by
   have:b.natAbs<2^62:=by omega
   exact(Nat.log2_lt (by omega)).mpr this
  unfold Builtin.divisionGoesByPylong
  have aD:(decide ((if b==0 then 0 else b.natAbs.log2/ 30+1)>300))=false:=by
   apply decide_eq_false
   split<;>omega
  simp only[aD,Bool.false_and]
 .cases a0
theorem pZ:OpOk prog w h₁ k (fF (nC .Mod)) iB:=nf λA W n a b t u v s Q E aH a0 aW=>by
 split at a0
 .rename_i h
  cases a0
  exact mod_int' h (aW _ _ (.int _ _))
 .cases a0
theorem NM:OpOk prog w h₁ k (fF (nC .LShift)) xJ:=nf λA W n a b t u v s Q E aH a0 aW=>by
 split at a0
 .rename_i h
  cases a0
  exact lshift_int_small h.1 (by exact aE.acf h) (by omega) (aW _ _ (.int _ _))
 .cases a0
theorem Zj:OpOk prog w h₁ k (fF (nC .RShift)) GP:=nf λA W n a b t u v s Q E aH a0 aW=>by
 split at a0
 .rename_i h
  cases a0
  exact rshift_int h (aW _ _ (.int _ _))
 .cases a0
theorem Zi:OpOk prog w h₁ k (fF (nC .BitOr)) Gq:=nf λA W n a b t u v s Q E aH a0 aW=>by cases a0;exact or_int (aW _ _ (.int _ _))
theorem tc:OpOk prog w h₁ k (fF (hP .Lt)) k2:=nf λA W n a b t u v s Q E aH a0 aW=>by cases a0;exact lt_int (aW _ s.toks (.bool _))
theorem Ga:OpOk prog w h₁ k (fF (hP .LtE)) sT:=nf λA W n a b t u v s Q E aH a0 aW=>by cases a0;exact le_int (aW _ s.toks (.bool _))
theorem s9:OpOk prog w h₁ k (fF (hP .Gt)) kr:=nf λA W n a b t u v s Q E aH a0 aW=>by cases a0;exact gt_int (aW _ s.toks (.bool _))
theorem Zd:OpOk prog w h₁ k (fF (hP .GtE)) EH:=nf λA W n a b t u v s Q E aH a0 aW=>by cases a0;exact ge_int (aW _ s.toks (.bool _))
noncomputable def c3:b4
 |[.int a,.int b],σ=>some (.int (a+b),σ)
 |[.bytes a,.bytes b],σ=>if a.length+b.length<=1000000 then some (.bytes (a++b),σ) else none
 |[.bB a,.bB b],σ=>if a.length+b.length<=1000000 then some (.bB (a++b),σ) else none
 |[.bA a,.bA b],σ=>if a.length+b.length<=1000000 then some (.bA (a++b),σ) else none
 |_,_=>none
end Internal
namespace Internal
open PySem PySem.W PyProof.Rows PySem.Calls
variable{prog:cD}{w:cm}{h₁:a9}{K:fH}{own:Bool}{env:dc}{ns:List aV}{k:Nat}
noncomputable def px:cy:=λ_ _=>none
noncomputable def nR:ck:=λ_ _=>none
theorem DM{t:c8 af}:bx prog w h₁ own env ns k t px:=λA W aa σ v a4 s Q E aH ar R aW=>nomatch ar
theorem AZ{t:c8 gJ}:SOk prog w h₁ env ns k t nR:=λA W aa σ f l a4 s Q E aH ar R aW=>nomatch ar
theorem bL.new{W:ag}{σ:St}{h:a9}(R:bL prog w h₁ W σ h)(o:bM)(hf:o.isFreed=false):
 bL prog w h₁ (W.aY h.objs.size (.imm o)) σ (h.push o)/\W.le σ.next (W.aY h.objs.size (.imm o)):=by
 have ew:=R.free (bF h.objs.size)
 exact⟨(R.push o).i2 ew ⟨o,hA _ hf⟩ (λc' e=>by cases e;exact hA _ hf) (λc' e=>nomatch e),ag.ij ew⟩
theorem bL.YU{W:ag}{σ:St}{h:a9}(R:bL prog w h₁ W σ h)(o:bM)(x:cO)(hf:o.isFreed=false)(ay:CellAt prog w (W.fD σ.next h.objs.size) (σ.next+1) (h.push o) σ.next h.objs.size x):
 bL prog w h₁ (W.fD σ.next h.objs.size) (σ.new x) (h.push o)/\W.le σ.next (W.fD σ.next h.objs.size)/\aQ prog w (W.fD σ.next h.objs.size) (σ.next+1) (.ref σ.next) (.ref h.objs.size):=by
 have ew:=R.free (bF h.objs.size)
 have e7:(W.fD σ.next h.objs.size).al σ.next=h.objs.size:=by show(if σ.next=σ.next then _ else _)=_;rw[if_pos rfl]
 have q:aQ prog w (W.fD σ.next h.objs.size) (σ.next+1) (.ref σ.next) (.ref ((W.fD σ.next h.objs.size).al σ.next)):=.ref (hB _)
 rw[e7] at q
 exact⟨(R.push o).alloc ew ⟨o,hA _ hf⟩ ay,ag.ra ew,q⟩
noncomputable def fU:C->St->Option (List C)
 |.bB vs,_=>some vs
 |.ref c,σ=>match σ.cells c with
  |some (.list vs)=>some vs
  |_=>none
 |_,_=>none
theorem ik{W:ag}{σ:St}{h:a9}{src:C}{ax:af}{vs:List C}(R:bL prog w h₁ W σ h)(a':aQ prog w W σ.next src ax)(hs:fU src σ=some vs):
 ∃a items,ax=.ref a/\h.IsList a items/\bH prog w W σ.next vs items.toList:=
 a'.afl (λv=>fU v σ) (λax=>∃a items,ax=.ref a/\h.IsList a items/\bH prog w W σ.next vs items.toList) hs
  (λ_ a o i m bo bY ea q e=>⟨a,i,rfl,⟨_,R.imm _ _ bo,bY,_,ea⟩,cx e▸q⟩)
  λc _ e=>by obtain⟨i,m,g,q⟩:=(R.cell c _ (cO.Af e)).2.bt;exact⟨_,i,rfl,⟨_,g,rfl,_,rfl⟩,q⟩
theorem aQ.lM{W:ag}{σ:St}{h:a9}{n:Nat}{vs:List C}{ax:af}(r:aQ prog w W n (.bA vs) ax)(R:bL prog w h₁ W σ h):∃a items m,ax=.ref a/\W.role a=.imm (xW items m)/\IsT h a items m/\bH prog w W n vs items.toList:=by
 obtain⟨_,_,_,bo,aL,e⟩:=r.bt
 exact⟨_,_,_,e,bo,R.imm _ _ bo,aL⟩
theorem QT{A:b8}{W:ag}{σ:St}{s:aB}{Q E:af->aB->Prop}{a b:List C}{bD b1:af}(R:bL prog w h₁ W σ s.heap)(b7:aQ prog w W σ.next (.bB a) bD)(dd:aQ prog w W σ.next (.bB b) b1)(aJ:a.length+b.length<=1000000)
 (aW:dJ prog w h₁ W σ s Q (.bB (a++b)) σ):wpAny (bp prog w) A (nC .Add bD b1) Q E s:=by
 obtain⟨l,items,rfl,⟨o,aK,az,n,aD⟩,cM⟩:=ik R b7 rfl
 obtain⟨bh,eN,rfl,⟨ee,sF,q4,aF,wM⟩,cE⟩:=ik R dd rfl
 have e:items.size+eN.size<=hj:=by
  have bj:=cM.length;have bg:=cE.length
  rw[fN] at bj bg
  rw[bj,bg];unfold hj;omega
 rcases o with⟨cls,nO,data,lI⟩
 rcases ee with⟨JN,DG,data2,GR⟩
 cases az;cases aD;cases q4;cases wM
 refine concat_meets ⟨_,aK,rfl⟩ ⟨_,sF,rfl⟩ noFill_list_add seq_list_add PySem.F.slot_list_add PySem.F.entry_list_add (PySem.F.args_list_add_2 _ _) (list_addW l bh items eN n aF nO DG lI GR e) ⟨aK,sF,?_⟩
 obtain⟨cQ,bh⟩:=R.new {cls:=vF "list",data:=Data.seq (items++eN)} rfl
 exact aW _ _ _ _ bh (bF _) cQ (.bB (ag.dv) rfl rfl (by rw[Hg];exact(cM.append cE).bb bh.1 (bF _)))
theorem NA{a:List C}{items:Array af}{W:ag}{n:Nat}(q:bH prog w W n a items.toList)(c:items.isEmpty=true):a=[]:=by
 have e:=q.length
 rw[fN,Array.isEmpty_iff_size_eq_zero.mp c] at e
 exact BD.mp e.symm
theorem QU{A:b8}{W:ag}{σ:St}{s:aB}{Q E:af->aB->Prop}{a b:List C}{bD b1:af}(R:bL prog w h₁ W σ s.heap)(b7:aQ prog w W σ.next (.bA a) bD)(dd:aQ prog w W σ.next (.bA b) b1)(aJ:a.length+b.length<=1000000)
 (aW:dJ prog w h₁ W σ s Q (.bA (a++b)) σ):wpAny (bp prog w) A (nC .Add bD b1) Q E s:=by
 obtain⟨l,items,n,rfl,OR,sm,cM⟩:=b7.lM R
 obtain⟨bh,eN,aF,rfl,u5,mX,cE⟩:=dd.lM R
 by_cases oC:items.isEmpty=true
 .rw[NA cM oC,List.nil_append] at aW
  exact concat_meets ⟨_,sm,rfl⟩ ⟨_,mX,rfl⟩ noFill_tuple_add seq_tuple_add PySem.F.slot_tuple_add PySem.F.entry_tuple_add (PySem.F.args_tuple_add_2 _ _) (AutoSeq1.tuple___add___tuple_tuple_0 l items n bh eN aF oC) ⟨sm,mX,aW.at R dd s.toks⟩
 by_cases r':eN.isEmpty=true
 .rw[NA cE r',lQ] at aW
  exact concat_meets ⟨_,sm,rfl⟩ ⟨_,mX,rfl⟩ noFill_tuple_add seq_tuple_add PySem.F.slot_tuple_add PySem.F.entry_tuple_add (PySem.F.args_tuple_add_2 _ _) (AutoSeq1.tuple___add___tuple_tuple_1 l items n bh eN aF oC r') ⟨sm,mX,aW.at R b7 s.toks⟩
 refine P.add_tuple sm mX oC r' ?_ (by
  have bj:=cM.length;have bg:=cE.length
  rw[fN] at bj bg
  rw[bj,bg];unfold hj;omega)
 obtain⟨cQ,bh⟩:=R.new {cls:=vF "tuple",data:=Data.seq (items++eN)} rfl
 exact aW _ _ _ s.toks bh (bF _) cQ (.bA (k:=0) (ag.dv) (by rw[Hg];exact(cM.append cE).bb bh.1 (bF _)))
theorem fW:OpOk prog w h₁ k (fF (nC .Add)) c3:=by
 refine .gv λW σ a bD r cu b7 aL=>.add (λa=>a::r) (λa=>a::cu) b7 (λi t=>?_) (λx t=>?_) (λxs bD b7=>?_) (λxs bD b7=>?_)
 .refine .more (λr=>_::r) (λr=>_::r) aL λb b1 q el dd cn=>.int (λb=>_::b::q) (λb=>_::b::el) dd λaj u=>.end (λq=>_::_::q) (λq=>_::_::q) cn λA s Q E aH a5 R=>wpN.of ?_
  exact add_int (dJ.at a5 R (.int _ _) _)
 .refine .more (λr=>_::r) (λr=>_::r) aL λb b1 q el dd cn=>.bytes (λb=>_::b::q) (λb=>_::b::el) dd λaj u=>.end (λq=>_::_::q) (λq=>_::_::q) cn λA s Q E aH a5 R=>wpN.of ?_
  obtain⟨aJ,a5⟩:=aM.gX a5
  exact bytes_add_K (by rw[mA,mA];exact aE.Zt aJ) rfl λeR k0=>dJ.at a5 R (.bytes _ _) _
 .refine .more (λr=>_::r) (λr=>_::r) aL λb b1 q el dd cn=>.bA (λb=>_::b::q) (λb=>_::b::el) dd λju b1 dd=>.end (λq=>_::_::q) (λq=>_::_::q) cn λA s Q E aH a5 R=>wpN.of ?_
  obtain⟨aJ,a5⟩:=aM.gX a5
  have aW:dJ prog w h₁ W σ s Q (.bA (xs++ju)) σ:=a5
  exact QU R b7 dd aJ aW
 .refine .more (λr=>_::r) (λr=>_::r) aL λb b1 q el dd cn=>.bB (λb=>_::b::q) (λb=>_::b::el) dd λju b1 dd=>.end (λq=>_::_::q) (λq=>_::_::q) cn λA s Q E aH a5 R=>wpN.of ?_
  obtain⟨aJ,a5⟩:=aM.gX a5
  exact QT R b7 dd aJ a5
noncomputable def mq:b4
 |[.int a],σ=>some (.int (-a),σ)
 |_,_=>none
noncomputable def k8(F:b4)(D:cy):cy:=λaa σ=>(D aa σ).bind λr=>F [r.1] r.2
theorem ua{op:UnaryOp}{x:bX}{pos:bz}{D:cy}{F:b4}(h:bx prog w h₁ own env ns k (aR x env) D)(h8:OpOk prog w h₁ k (p' (unaryOp op)) F):bx prog w h₁ own env ns k (aR (.UnaryOp op x pos) env) (k8 F D):=by
 intro A W aa σ v a4 s Q E aH ar R aW
 obtain⟨⟨eS,cH⟩,bj,ar⟩:=bind_some ar
 refine afO ?_
 refine h A W aa σ eS cH s _ E aH bj R λbC d5 h1 c0 bO ab bK bo=>?_
 exact bK.op (s:={s with heap:=h1,toks:=c0}) h8 aH ar (.cons bo .nil) λcf ax aU df dh bE dO ea=>aW cf ax aU df (bO.trans ab dh) (cI ab bE) dO ea
theorem uP:OpOk prog w h₁ k (p' (unaryOp .USub)) mq:=
 .gv λW σ a bD r cu b7 aL=>.int (λa=>a::r) (λa=>a::cu) b7 λi t=>.end (λq=>_::q) (λq=>_::q) aL λA s Q E aH a5 R=>wpN.of (neg_int (dJ.at a5 R (.int _ _) _))
end Internal
namespace Internal
open PySem PySem.W PyProof.Rows PySem.Calls PySem.SeqAt
section
variable{prog:cD}{w:cm}{K:Type}[DecidableEq K]{knd:HeapKind prog w K}{A:b8}{E:af->aB->Prop}{s:aB}
inductive jW {K:Type} [DecidableEq K] (A:b8) (s:aB) (dI:List (K×a6×af)):List (K×a6×af)->Bool->Prop
 |nil:jW A s dI [] true
 |miss {k:K} {a:a6} {v:af} {r:List (K×a6×af)}:iX dI k=none->jW A s dI ((k,a,v)::r) false
 |hit {k:K} {a:a6} {v:af} {p:a6×af} {r:List (K×a6×af)} {e b:Bool}:iX dI k=some p->EqAt A s v p.2 e->jW A s dI r b->jW A s dI ((k,a,v)::r) (e&&b)
noncomputable def jW.Spec(A:b8)(s:aB)(dI:List (K×a6×af)):List (K×a6×af)->Bool->Prop
 |[],b=>b=true
 |(k,_,v)::r,b=>(iX dI k=none/\b=false)\/∃y e b1,iX dI k=some y/\EqAt A s v y.2 e/\jW A s dI r b1/\b=(e&&b1)
theorem jW.bt{dI l:List (K×a6×af)}{b:Bool}(h:jW A s dI l b):jW.Spec A s dI l b:=
 jW.casesOn (motive:=λl b _=>jW.Spec A s dI l b) h rfl (λa3=>.inl ⟨a3,rfl⟩) λbQ cj aL=>.inr ⟨_,_,_,bQ,cj,aL,rfl⟩
theorem Pr{nm:String}{a b:a6}{fB dI:List (K×a6×af)}{r:Bool}{Q:Bool->aB->Prop}(bZ:knd.room A)(ha:(a==hD)=false)(ai:(b==hD)=false)
 (da:s.heap.DictOfH knd a fB)(e6:s.heap.DictOfH knd b dI)(hits:fB.length=dI.length->jW A s dI fB r)(h:Q (fB.length==dI.length&&r) s):
 wpAny (bp prog w) A (Builtin.Dict.samePairs nm a b) Q E s:=by
 obtain⟨oa,es,ep,jj,_,ue,z1,WC,_⟩:=da
 obtain⟨ob,ff,agL,E8,_,ER,EU,WD,z6⟩:=e6
 have z4:fB.length=es.size:=(size_of_entries z1).symm
 have L7:dI.length=ff.size:=(size_of_entries EU).symm
 unfold Builtin.Dict.samePairs Hi
 rw[if_neg (show ¬(a==hD)=true by rw[ha];exact gI),if_neg (show ¬(b==hD)=true by rw[ai];exact gI)]
 refine aP (bI (aP (bI ?_)))
 refine aP (tF jj ue ?_)
 dsimp only
 refine aP (tF E8 ER ?_)
 by_cases hsz:es.size=ff.size
 case neg=>
  first|refine j2 (bne_iff_ne.mpr hsz) ?_|refine uy (bne_iff_ne.mpr hsz) ?_
  rw[z4,L7,beq_eq_false_iff_ne.mpr hsz] at h
  exact aP (mF (bI h))
 case pos=>
  have L9:fB.length=dI.length:=by rw[z4,L7,hsz]
  rw[L9,beq_self_eq_true,Bf] at h
  first|refine jK (λe=>bne_iff_ne.mp e hsz) ?_|refine ml (λe=>bne_iff_ne.mp e hsz) ?_
  refine aP (yr jj ue (aP (U5 _ (λi=>jW A s dI (fB.drop i) r) _ _ _ (λx dQ mi=>?_) (λmi=>?_) (hits L9))))
  .refine aP (tF jj ue ?_)
   have uj:x<fB.length:=z4▸dQ
   obtain⟨k,ad,v,E2⟩:∃k ad v,fB[x]=(k,ad,v):=⟨_,_,_,rfl⟩
   have m1:fB.drop x=(k,ad,v)::fB.drop (x+1):=by rw[<-E2];exact By uj
   have WE:knd.is s.heap k ad:=by have:=WC _ (List.getElem_mem uj);rw[E2] at this;exact this
   rw[show es[x]? =some (entryOfKey knd (k,ad,v)) by rw[entry_at z1 x,iG uj,E2];rfl]
   rw[m1] at mi
   show wpAny _ _ (mE [k' ad,v] _>>=_) _ _ _
   refine aP (ke (aP (wpAny_dictFind_heap bZ WE E8 ER EU WD z6 ?_ ?_)))
   .intro E5
    rcases mi.bt with⟨_,jG⟩|⟨y,_,_,bQ,_⟩
    .rw[jG] at h
     exact bI (bI (bI h))
    .rw[atKey_none_of_get E5] at bQ;exact au bQ
   .intro aj p c2
    refine aP (tF E8 ER ?_)
    rw[show ff[aj]? =some (entryOfKey knd (k,p)) by rw[entry_at EU aj,c2];rfl]
    have LS:=atKey_of_get z6 c2
    rcases mi.bt with⟨a3,_⟩|⟨y,e,b1,bQ,cj,Fg,jG⟩
    .exact e0 (LS.symm.trans a3)
    .rw[<-cx (LS.symm.trans bQ)] at cj
     refine ke (cj prog w _ _ ?_)
     induction e with
     |false=>
      rw[jG] at h
      exact bI (bI h)
     |true=>
      rw[Bf] at jG
      rw[<-jG] at Fg
      refine aP (yr jj ue ?_)
      first|refine jK (by rw[bne_self_eq_false];exact gI) ?_|refine ml (by rw[bne_self_eq_false];exact gI) ?_
      exact bI ⟨rfl,rfl,Fg⟩
  .rw[<-z4,List.drop_length] at mi
   rw[show r=true from mi.bt] at h
   exact bI h
theorem ae9{a b:a6}{fB dI:List (K×a6×af)}{r:Bool}{Q:af->aB->Prop}(hk:knd.room A.in1)(ha:(a==hD)=false)(ai:(b==hD)=false)
 (da:s.heap.DictOfH knd a fB)(e6:s.heap.DictOfH knd b dI)(bZ:A.units<iY)(hits:fB.length=dI.length->jW A.in1 s dI fB r)(h:Q (.bool (fB.length==dI.length&&r)) s):
 wpAny (bp prog w) A (hP .Eq (.ref a) (.ref b)) Q E s:=by
 refine wpAny_richCompare_same_room (op:=.Eq) da.typeIs e6.typeIs PySem.F.slot_dict_eq (lX PySem.F.slot_dict_eq da.typeIs PySem.F.entry_dict_eq ?_ (PySem.F.args_dict_eq_2 _ _)) bZ
 show wpAny _ _ (Bk "__eq__" ⟨[.ref a,.ref b],[]⟩>>=_) _ _ s
 refine aP ?_
 unfold Bk
 refine aP (BZ da.typeIs ?_)
 show wpAny _ _ (pure (k' a,k' b)) _ _ s
 refine bI ?_
 refine aP (qz (T:="dict") e6.typeIs PySem.F.sub_dict_dict ?_)
 simp only[Bool.not_true,Be,if_false]
 refine aP (bI (aP (bI ?_)))
 refine aP (Pr hk ha ai da e6 hits ?_)
 refine bI ⟨_,rfl,?_,?_⟩
 .exactλx=>nomatch x
 .simpa using h
theorem ae'{a b:a6}{fB dI:List (K×a6×af)}{r:Bool}{Q:af->aB->Prop}(hk:knd.room A.in1)(ha:(a==hD)=false)(ai:(b==hD)=false)
 (da:s.heap.DictOfH knd a fB)(e6:s.heap.DictOfH knd b dI)(bZ:A.units<iY)(hits:fB.length=dI.length->jW A.in1 s dI fB r)(h:Q (.bool (!(fB.length==dI.length&&r))) s):
 wpAny (bp prog w) A (hP .NotEq (.ref a) (.ref b)) Q E s:=by
 refine wpAny_richCompare_same_room (op:=.NotEq) da.typeIs e6.typeIs PySem.F.slot_dict_ne (lX PySem.F.slot_dict_ne da.typeIs PySem.F.entry_dict_ne ?_ (PySem.F.args_dict_ne_2 _ _)) bZ
 show wpAny _ _ (Bk "__ne__" ⟨[.ref a,.ref b],[]⟩>>=_) _ _ s
 refine aP ?_
 unfold Bk
 refine aP (BZ da.typeIs ?_)
 show wpAny _ _ (pure (k' a,k' b)) _ _ s
 refine bI ?_
 refine aP (qz (T:="dict") e6.typeIs PySem.F.sub_dict_dict ?_)
 simp only[Bool.not_true,Be,if_false]
 refine aP (bI (aP (bI ?_)))
 refine aP (Pr hk ha ai da e6 hits ?_)
 refine bI ⟨_,rfl,?_,?_⟩
 .exactλx=>nomatch x
 .simpa using h
end
section
variable{A:b8}{s:aB}
theorem JE(b:Array UInt8)(t:d4)(i:Int)(u:d4):Gives (Builtin.«bytes.__eq__» ⟨[.bytes b t,.int i u],[]⟩) (.val .notImplemented):=
 .of_wp λM A E s Q h=>by
  show wpAny M A (isInstance (.int i u) (.type "bytes")>>=λr=>if(!r)=true then(do rule (toString "bytes."++toString "__eq__"++toString ".declined");ret Value.notImplemented) else(do let p<-Bh (.bytes b t);let q<-Bh (.int i u);ret (Value.bool (Builtin.Bytes.holds "__eq__" (Builtin.Bytes.order p.toList q.toList))))) _ E s
  refine aP (qz (T:="int") (b:=false) (rN s i u) (by rw[rM];kernel_rfl) ?_)
  first|refine j2 (by rfl) ?_|refine uy (by rfl) ?_
  exact aP (mF (bI ⟨_,rfl,h⟩))
theorem Mr(b:Array UInt8)(t:d4)(i:Int)(u:d4):Gives (Builtin.«int.__eq__» ⟨[.int i u,.bytes b t],[]⟩) (.val .notImplemented):=
 .of_wp λM A E s Q h=>by obtain⟨hp,g,d,cw,os⟩:=s;wp_walk;exact⟨_,rfl,h⟩
theorem ae0:isSubtype (.type "bytes") (.type "int")=pure false:=by rw[rM];kernel_rfl
theorem sub_int_bytes:isSubtype (.type "int") (.type "bytes")=pure false:=by rw[rM];kernel_rfl
theorem A1:vD "bytes" (cmpInfo .Eq).2.2 "bytes.__eq__":=FB.slot_bytes_eq
theorem eq_int_bytes(i:Int)(u:d4)(b:Array UInt8)(t:d4):EqAt A s (.int i u) (.bytes b t) false:=λprog w E Q h=>by
 unfold eqBool
 refine ke ?_
 refine wpAny_ite_split (λsq=>absurd (eq_of_beq sq) nofun) (λ_=>?_)
 refine aP (rc_eq_decline_or (k:=false) (rN s i u) (ov s b t) (by decide) ae0 BR A1
  (λ_ cn=>call_gives BR (rN s i u) PySem.F.entry_int_eq (PySem.F.args_int_eq_2 _ _) (Mr b t i u) cn)
  (λ_ cn=>call_gives A1 (ov s b t) FB.entry_bytes_eq (FB.args_bytes_eq_2 _ _) (JE b t i u) cn)
  (λ_ cn=>gK (rfl:isSame (.int i u) (.bytes b t)=pure false) cn) (.inl rfl) (qA h))
theorem eq_bytes_int(b:Array UInt8)(t:d4)(i:Int)(u:d4):EqAt A s (.bytes b t) (.int i u) false:=λprog w E Q h=>by
 unfold eqBool
 refine ke ?_
 refine wpAny_ite_split (λsq=>absurd (eq_of_beq sq) nofun) (λ_=>?_)
 refine aP (rc_eq_decline_or (k:=false) (ov s b t) (rN s i u) (by decide) sub_int_bytes A1 BR
  (λ_ cn=>call_gives A1 (ov s b t) FB.entry_bytes_eq (FB.args_bytes_eq_2 _ _) (JE b t i u) cn)
  (λ_ cn=>call_gives BR (rN s i u) PySem.F.entry_int_eq (PySem.F.args_int_eq_2 _ _) (Mr b t i u) cn)
  (λ_ cn=>gK (rfl:isSame (.bytes b t) (.int i u)=pure false) cn) (.inl rfl) (qA h))
theorem eq_bytes_bytes(b:List UInt8)(t:d4)(c:List UInt8)(u:d4):EqAt A s (.bytes b.toArray t) (.bytes c.toArray u) (decide (b=c)):=λprog w E Q h=>by
 unfold eqBool
 refine ke ?_
 refine wpAny_ite_split (λsq=>?_) (λ_=>?_)
 .have e:b=c:=by have:=eq_of_beq sq;injection this with this _;simpa using this
  subst e
  exact aP (mF (bI (by simpa using h)))
 .refine aP (eq_bytes (qA ?_))
  have e:((b.toArray.toList==c.toArray.toList):Bool)=decide (b=c):=by by_cases q:b=c<;>simp[q]
  rw[e];exact h
end
end Internal
namespace Internal
open PySem PySem.W PyProof.Rows PySem.Calls PySem.SeqAt
variable{prog:cD}{w:cm}{h₁:a9}{K:fH}{own:Bool}{env:dc}{ns:List aV}{k:Nat}
noncomputable def ja(f:C->C->Option Bool):List C->List C->Option Bool
 |a::as,b::br=>(f a b).bind λx=>(ja f as br).map λy=>x&&y
 |_,_=>some true
noncomputable def oi(f:C->C->Option Bool):C->C->Option Bool
 |.none,.none=>some true
 |.bool a,.bool b=>some (a==b)
 |.int a,.int b=>some (a==b)
 |.str a,.str b=>some (a==b)
 |.bytes a,.bytes b=>some (decide (a=b))
 |.int _,.bytes _=>some false
 |.bytes _,.int _=>some false
 |.bA as,.bA br=>(ja f as br).map λr=>r&&decide (as.length=br.length)
 |.bB as,.bB br=>if as.length=br.length then ja f as br else some false
 |_,_=>none
noncomputable def dm:Nat->C->C->Option Bool
 |0=>λ_ _=>none
 |n+1=>oi (dm n)
noncomputable def si(f:C->C->Option Bool)(as br:List C)(aj:Nat):Bool:=((as[aj]?).bind λa=>(br[aj]?).bind λb=>f a b).getD false
theorem veqs_ind{f:C->C->Option Bool}{P:List C->List C->Bool->Prop}(ab:∀br,P [] br true)(aF:∀a as,P (a::as) [] true)(c:∀a as b br x y,f a b=some x->ja f as br=some y->P as br y->P (a::as) (b::br) (x&&y)):
 ∀(as br:List C) (r:Bool),ja f as br=some r->P as br r:=λas=>
 List.rec (motive:=λas=>∀br r,ja f as br=some r->P as br r) (λbr r h=>cx h▸ab br) (λa as a7 br=>Bx (motive:=λbr=>∀r,ja f (a::as) br=some r->P (a::as) br r) br (λr h=>cx h▸aF a as) λb br r h=>by
  obtain⟨x,ay,h⟩:=bind_some (show(f a b).bind _=some r from h)
  obtain⟨y,bQ,h⟩:=hc.mp h
  exact h▸c a as b br x y ay bQ (a7 br y bQ)) as
theorem A8{f:C->C->Option Bool}{as br:List C}{r:Bool}(h:ja f as br=some r):
 (∀(aj:Nat) a b,as[aj]? =some a->br[aj]? =some b->∃q,f a b=some q)/\(iW (min as.length br.length)).all (si f as br)=r:=
 veqs_ind (P:=λas br r=>(∀(aj:Nat) a b,as[aj]? =some a->br[aj]? =some b->∃q,f a b=some q)/\(iW (min as.length br.length)).all (si f as br)=r)
  (λ_=>⟨λ_ _ _ e _=>au e,by rw[iH,Nat.zero_min];rfl⟩) (λ_ _=>⟨λ_ _ _ _ e=>au e,by rw[iH,Nat.min_zero];rfl⟩) (λa as b br x y ay _ ⟨h1,h2⟩=>by
  refine⟨λaj bD b1 ha ai=>?_,?_⟩
  .cases aj with
   |zero=>exact⟨x,cx ha▸cx ai▸ay⟩
   |succ aj=>exact h1 aj bD b1 ha ai
  .rw[gD,gD,Nat.succ_min_succ,List.range_succ_eq_map,List.all_cons,List.all_map]
   exact congr (congrArg and (congrArg (Option.getD · false) ay)) h2) as br r h
theorem PE{f:C->C->Option Bool}{W:ag}{n:Nat}(hf:∀a b v r,aQ prog w W n a v->aQ prog w W n b v->f a b=some r->r=true)
 {as br:List C}{vs:List af}{r:Bool}(cM:bH prog w W n as vs)(cE:bH prog w W n br vs)(h:ja f as br=some r):r=true:=
 veqs_ind (P:=λas br r=>∀vs,bH prog w W n as vs->bH prog w W n br vs->r=true) (λ_ _ _ _=>rfl) (λ_ _ _ _ _=>rfl) (λa as b br x y ay _ a7 vs cM cE=>by
  obtain⟨v,bG,e,gU,gw⟩:=cM.bt
  rw[e] at cE
  rw[hf _ _ _ _ gU cE.vc.1 ay,a7 _ gw cE.vc.2];rfl) as br r h vs cM cE
inductive f6 (f:C->C->Option Bool):C->C->Bool->Prop
 |none:f6 f .none .none true
 |bool (a b:Bool):f6 f (.bool a) (.bool b) (a==b)
 |int (a b:Int):f6 f (.int a) (.int b) (a==b)
 |str (a b:aV):f6 f (.str a) (.str b) (a==b)
 |bytes (a b:List UInt8):f6 f (.bytes a) (.bytes b) (decide (a=b))
 |Xz (a:Int) (b:List UInt8):f6 f (.int a) (.bytes b) false
 |Se (a:List UInt8) (b:Int):f6 f (.bytes a) (.int b) false
 |bA (as br:List C) (r:Bool):ja f as br=some r->f6 f (.bA as) (.bA br) (r&&decide (as.length=br.length))
 |bB (as br:List C) (r:Bool):as.length=br.length->ja f as br=some r->f6 f (.bB as) (.bB br) r
 |YC (as br:List C):¬as.length=br.length->f6 f (.bB as) (.bB br) false
theorem f6.lM{f:C->C->Option Bool}{x y:List C}{r:Bool}(h:(ja f x y).map (λr=>r&&decide (x.length=y.length))=some r):f6 f (.bA x) (.bA y) r:=by
 obtain⟨q,cn,h⟩:=hc.mp h
 exact h▸.bA _ _ _ cn
theorem f6.YB{f:C->C->Option Bool}{x y:List C}{r:Bool}(h:(if x.length=y.length then ja f x y else some false)=some r):f6 f (.bB x) (.bB y) r:=by
 by_cases e:x.length=y.length
 .rw[if_pos e] at h;exact .bB _ _ _ e h
 .rw[if_neg e] at h;exact cx h▸.YC _ _ e
theorem f6.of{f:C->C->Option Bool}{a b:C}{r:Bool}(h:oi f a b=some r):f6 f a b r:=
 C.casesOn (motive_1:=λa=>oi f a b=some r->f6 f a b r) a
  (C.casesOn (motive_1:=λb=>oi f .none b=some r->f6 f .none b r) b (λh=>cx h▸.none) (λ_ h=>au h) (λ_ h=>au h) (λ_ h=>au h) (λ_ h=>au h) (λ_ h=>au h) (λ_ h=>au h) (λ_ h=>au h) (λ_ _ _ h=>au h) (λ_ h=>au h) (λ_ h=>au h))
  (λx=>C.casesOn (motive_1:=λb=>oi f (.bool x) b=some r->f6 f (.bool x) b r) b (λh=>au h) (λ_ h=>cx h▸.bool _ _) (λ_ h=>au h) (λ_ h=>au h) (λ_ h=>au h) (λ_ h=>au h) (λ_ h=>au h) (λ_ h=>au h) (λ_ _ _ h=>au h) (λ_ h=>au h) (λ_ h=>au h))
  (λx=>C.casesOn (motive_1:=λb=>oi f (.int x) b=some r->f6 f (.int x) b r) b (λh=>au h) (λ_ h=>au h) (λ_ h=>cx h▸.int _ _) (λ_ h=>au h) (λ_ h=>cx h▸.Xz _ _) (λ_ h=>au h) (λ_ h=>au h) (λ_ h=>au h) (λ_ _ _ h=>au h) (λ_ h=>au h) (λ_ h=>au h))
  (λx=>C.casesOn (motive_1:=λb=>oi f (.str x) b=some r->f6 f (.str x) b r) b (λh=>au h) (λ_ h=>au h) (λ_ h=>au h) (λ_ h=>cx h▸.str _ _) (λ_ h=>au h) (λ_ h=>au h) (λ_ h=>au h) (λ_ h=>au h) (λ_ _ _ h=>au h) (λ_ h=>au h) (λ_ h=>au h))
  (λx=>C.casesOn (motive_1:=λb=>oi f (.bytes x) b=some r->f6 f (.bytes x) b r) b (λh=>au h) (λ_ h=>au h) (λ_ h=>cx h▸.Se _ _) (λ_ h=>au h) (λ_ h=>cx h▸.bytes _ _) (λ_ h=>au h) (λ_ h=>au h) (λ_ h=>au h) (λ_ _ _ h=>au h) (λ_ h=>au h) (λ_ h=>au h))
  (λx=>C.casesOn (motive_1:=λb=>oi f (.bA x) b=some r->f6 f (.bA x) b r) b (λh=>au h) (λ_ h=>au h) (λ_ h=>au h) (λ_ h=>au h) (λ_ h=>au h) (λ_ h=>f6.lM h) (λ_ h=>au h) (λ_ h=>au h) (λ_ _ _ h=>au h) (λ_ h=>au h) (λ_ h=>au h))
  (λx=>C.casesOn (motive_1:=λb=>oi f (.bB x) b=some r->f6 f (.bB x) b r) b (λh=>au h) (λ_ h=>au h) (λ_ h=>au h) (λ_ h=>au h) (λ_ h=>au h) (λ_ h=>au h) (λ_ h=>f6.YB h) (λ_ h=>au h) (λ_ _ _ h=>au h) (λ_ h=>au h) (λ_ h=>au h))
  (λ_ h=>au h)
  (λ_ _ _ h=>au h)
  (λ_ h=>au h)
  (λ_ h=>au h) h
theorem G1{W:ag}{n:Nat}(d:Nat):∀a b v r,aQ prog w W n a v->aQ prog w W n b v->dm d a b=some r->r=true:=by
 induction d with
 |zero=>exactλa b v r _ _ h=>au h
 |succ d a7=>
  intro a b v r ha ai h
  exact f6.casesOn (motive:=λa b r _=>aQ prog w W n a v->aQ prog w W n b v->r=true) (f6.of h) (λ_ _=>rfl)
   (λx y ha ai=>beq_iff_eq.mpr (Value.bool.inj (ha.bt.symm.trans ai.bt)))
   (λx y ha ai=>by obtain⟨t,e⟩:=ha.bt;obtain⟨u,dw⟩:=ai.bt;exact beq_iff_eq.mpr (Value.int.inj (e.symm.trans dw)).1)
   (λx y ha ai=>by obtain⟨t,e⟩:=ha.bt;obtain⟨u,dw⟩:=ai.bt;exact beq_iff_eq.mpr (Value.str.inj (e.symm.trans dw)).1)
   (λx y ha ai=>by obtain⟨t,e⟩:=ha.bt;obtain⟨u,dw⟩:=ai.bt;exact decide_eq_true (congrArg Array.toList (Value.bytes.inj (e.symm.trans dw)).1))
   (λx y ha ai=>by obtain⟨t,e⟩:=ha.bt;obtain⟨u,dw⟩:=ai.bt;exact nomatch e.symm.trans dw)
   (λx y ha ai=>by obtain⟨t,e⟩:=ha.bt;obtain⟨u,dw⟩:=ai.bt;exact nomatch e.symm.trans dw)
   (λas br r aL ha ai=>by
     obtain⟨l,i,m,bo,cM,e⟩:=ha.bt;obtain⟨bh,eZ,gG,bY,cE,dw⟩:=ai.bt
     have fJ:=kM (e.symm.trans dw)
     rw[<-fJ] at bY
     have hK:=bS.w5 bo bY
     have Uo:Data.seq i m=Data.seq eZ gG:=congrArg Obj.data hK
     rw[<-(x8 Uo).1] at cE
     rw[PE a7 cM cE aL,<-cM.length,<-cE.length,decide_eq_true rfl];rfl)
   (λas br r _ aL ha ai=>by
     obtain⟨l,o,i,m,bo,_,jZ,cM,e⟩:=ha.bt;obtain⟨bh,ee,eZ,gG,bY,_,gV,cE,dw⟩:=ai.bt
     have fJ:=kM (e.symm.trans dw)
     rw[<-fJ] at bY
     rw[<-bS.w5 bo bY,jZ] at gV
     rw[<-(x8 gV).1] at cE
     exact PE a7 cM cE aL)
   (λas br ne ha ai=>by
     obtain⟨l,o,i,m,bo,_,jZ,cM,e⟩:=ha.bt;obtain⟨bh,ee,eZ,gG,bY,_,gV,cE,dw⟩:=ai.bt
     have fJ:=kM (e.symm.trans dw)
     rw[<-fJ] at bY
     rw[<-bS.w5 bo bY,jZ] at gV
     rw[<-(x8 gV).1] at cE
     exact absurd (cM.length.symm.trans cE.length) ne) ha ai
theorem Fy{W:ag}{σ:St}{n d:Nat}{A:b8}{s:aB}{as br:List C}{items eN:Array af}{r:Bool}
 (a7:∀a b bD b1 r,aQ prog w W n a bD->aQ prog w W n b b1->dm d a b=some r->EqAt A.in1 s bD b1 r)
 (cM:bH prog w W n as items.toList)(cE:bH prog w W n br eN.toList)(h:ja (dm d) as br=some r):
 ∀aj (h1:aj<items.size) (h2:aj<eN.size),EqAt A.in1 s items[aj] eN[aj] (si (dm d) as br aj):=by
 intro aj h1 h2
 have bj:items.size=as.length:=by rw[<-fN];exact cM.length
 have bg:eN.size=br.length:=by rw[<-fN];exact cE.length
 have g1:as[aj]? =some (as[aj]'(bj▸h1)):=iG _
 have g2:br[aj]? =some (br[aj]'(bg▸h2)):=iG _
 obtain⟨q,cn⟩:=(A8 h).1 aj _ _ g1 g2
 obtain⟨bD,kT,b7⟩:=cM.get g1
 obtain⟨b1,ji,dd⟩:=cE.get g2
 rw[o3,rE h1] at kT
 rw[o3,rE h2] at ji
 rw[cx kT,cx ji,show si (dm d) as br aj=q by unfold si;rw[g1,g2];exact congrArg (Option.getD · false) cn]
 exact a7 _ _ _ _ _ b7 dd cn
theorem tl{W:ag}{σ:St}{s:aB}(R:bL prog w h₁ W σ s.heap)(d:Nat):∀(A:b8),A.units+d<iY->∀a b bD b1 r,aQ prog w W σ.next a bD->aQ prog w W σ.next b b1->dm d a b=some r->EqAt A s bD b1 r:=by
 induction d with
 |zero=>exactλA _ a b bD b1 r _ _ h=>au h
 |succ d a7=>
  intro A bZ a b bD b1 r ha ai h
  have Mn:=a7 A.in1 (by show A.units+1+d<iY;rw[Nat.add_assoc,vt 1 d];exact bZ)
  have kW:A.units<iY:=Hr (rI _ _) bZ
  exact f6.casesOn (motive:=λa b r _=>dm (d+1) a b=some r->aQ prog w W σ.next a bD->aQ prog w W σ.next b b1->EqAt A s bD b1 r) (f6.of h)
   (λ_ ha ai=>by rw[show bD=_ from ha.bt,show b1=_ from ai.bt];exact .same _)
   (λx y _ ha ai=>by rw[show bD=_ from ha.bt,show b1=_ from ai.bt];exact .bool_bool _ _)
   (λx y _ ha ai=>by obtain⟨t,e⟩:=ha.bt;obtain⟨u,dw⟩:=ai.bt;rw[e,dw];exact .int_int _ _ _ _)
   (λx y _ ha ai=>by obtain⟨t,e⟩:=ha.bt;obtain⟨u,dw⟩:=ai.bt;rw[e,dw];exact .str_str _ _ _ _)
   (λx y _ ha ai=>by obtain⟨t,e⟩:=ha.bt;obtain⟨u,dw⟩:=ai.bt;rw[e,dw];exact eq_bytes_bytes _ _ _ _)
   (λx y _ ha ai=>by obtain⟨t,e⟩:=ha.bt;obtain⟨u,dw⟩:=ai.bt;rw[e,dw];exact eq_int_bytes _ _ _ _)
   (λx y _ ha ai=>by obtain⟨t,e⟩:=ha.bt;obtain⟨u,dw⟩:=ai.bt;rw[e,dw];exact eq_bytes_int _ _ _ _)
   (λas br y bQ h ha ai=>by
     obtain⟨l,items,m,bj,bo,cB,cM⟩:=ha.lM R
     obtain⟨bh,eN,gG,bg,bY,eZ,cE⟩:=ai.lM R
     rw[bj] at ha
     rw[bg] at ai
     rw[bj,bg]
     by_cases aJ:l=bh
     .rw[aJ] at ha
      rw[G1 _ _ _ _ _ ha ai h,aJ];exact .same _
     .have key:=RcAt.tuples ⟨_,cB,rfl,_,rfl⟩ ⟨_,eZ,rfl,_,rfl⟩ kW (Fy (σ:=σ) Mn cM cE bQ)
      rw[<-fN,<-fN,cM.length,cE.length,(A8 bQ).2] at key
      exact .of_refs aJ key)
   (λas br y dP bQ h ha ai=>by
     obtain⟨l,items,bj,cB,cM⟩:=ik R ha rfl
     obtain⟨bh,eN,bg,eZ,cE⟩:=ik R ai rfl
     rw[bj] at ha
     rw[bg] at ai
     rw[bj,bg]
     by_cases aJ:l=bh
     .rw[aJ] at ha
      rw[G1 _ _ _ _ _ ha ai h,aJ];exact .same _
     .have g1:items.size=as.length:=by rw[<-fN];exact cM.length
      have g2:eN.size=br.length:=by rw[<-fN];exact cE.length
      have key:=RcAt.lists cB eZ (by rw[g1,g2,dP]) kW (Fy (σ:=σ) Mn cM cE bQ)
      have h2:=(A8 bQ).2
      rw[dP,Nat.min_self,<-dP,<-g1] at h2
      rw[h2] at key
      exact .of_refs aJ key)
   (λas br dP h ha ai=>by
     obtain⟨l,items,bj,cB,cM⟩:=ik R ha rfl
     obtain⟨bh,eN,bg,eZ,cE⟩:=ik R ai rfl
     rw[bj] at ha
     rw[bg] at ai
     rw[bj,bg]
     have aJ:¬items.size=eN.size:=by rw[<-fN,<-fN,cM.length,cE.length];exact dP
     by_cases e:l=bh
     .rw[e] at ha
      exact absurd (G1 _ _ _ _ _ ha ai h) gI
     .exact .of_refs e (RcAt.lists_lengths cB eZ (bne_iff_ne.mpr aJ) kW)) h ha ai
end Internal
namespace Internal
open PySem PySem.W PyProof.Rows PySem.Calls PySem.SeqAt
variable{prog:cD}{w:cm}{h₁:a9}{K:fH}{own:Bool}{env:dc}{ns:List aV}{k:Nat}
noncomputable def eE{dX:Type}[DecidableEq dX](es:List (dX×C))(k:dX):Option C:=(es.find? λe=>decide (e.1=k)).map (·.2)
noncomputable def hG:C->St->Option (List (aT×C))
 |.cV es,_=>some es
 |.ref c,σ=>match σ.cells c with
  |some (.cJ es)=>some es
  |_=>none
 |_,_=>none
noncomputable def hy:C->St->Option (List (List aT×C))
 |.ref c,σ=>match σ.cells c with
  |some (.cv es)=>some es
  |_=>none
 |_,_=>none
theorem cO.QR{x:Option cO}{es:List (aT×C)}(e:(match x with|some (.cJ es)=>some es|_=>none)=some es):x=some (.cJ es):=by
 rcases x with _|(_|_|_|_|_)
 .exact au e
 .exact au e
 .exact congrArg (λx=>some (cO.cJ x)) (cx e)
 .exact au e
 .exact au e
 .exact au e
theorem cO.ae7{x:Option cO}{es:List (List aT×C)}(e:(match x with|some (.cv es)=>some es|_=>none)=some es):x=some (.cv es):=by
 rcases x with _|(_|_|_|_|_)
 .exact au e
 .exact au e
 .exact au e
 .exact congrArg (λx=>some (cO.cv x)) (cx e)
 .exact au e
 .exact au e
theorem mH.b2{h:a9}{a:a6}{o:bM}{kvs:List (aT×af)}(c:mH prog w o kvs)(g:h.get? a=some o):h.DictOf (ix prog w) a kvs:=by
 obtain⟨oE,ff,ep,aD,hk,hp,a3⟩:=c;exact⟨_,_,_,g,oE,aD,hk,hp,a3⟩
theorem pd{W:ag}{σ:St}{h:a9}{src:C}{ax:af}{es:List (aT×C)}(R:bL prog w h₁ W σ h)(a':aQ prog w W σ.next src ax)(hs:hG src σ=some es):
 ∃a kvs,ax=.ref a/\(a==hD)=false/\h.DictOf (ix prog w) a kvs/\eW prog w W σ.next es kvs:=
 a'.afk (λv=>hG v σ) (λax=>∃a kvs,ax=.ref a/\(a==hD)=false/\h.DictOf (ix prog w) a kvs/\eW prog w W σ.next es kvs) hs
  (λ_ _ _ _ r z c q e=>⟨_,_,rfl,z,c.b2 (R.imm _ _ r),cx e▸q⟩)
  λc _ e=>by obtain⟨_,_,g,z,x,q⟩:=(R.cell c _ (cO.QR e)).2.bt;exact⟨_,_,rfl,z,x.b2 g,q⟩
theorem nM.is{W:ag}{σ:St}{h:a9}(R:bL prog w h₁ W σ h){k:List aT}{a:a6}(t:nM prog w W k a):(tupK prog w).is h k a:=by
 obtain⟨o,items,n,r,h1,h2,aU⟩:=t;exact⟨o,items,n,R.imm _ _ r,h1,h2,aU⟩
theorem TRel.i5{W:ag}{σ:St}{h:a9}(R:bL prog w h₁ W σ h){es:List (List aT×C)}{xs:List (List aT×a6×af)}(r:TRel prog w W σ.next es xs):∀x∈xs,(tupK prog w).is h x.1 x.2.1:=
 r.ind (P:=λ_ xs=>∀x∈xs,(tupK prog w).is h x.1 x.2.1) (eg _) λt _ _ a7=>b0.mpr ⟨t.is R,a7⟩
theorem qH.b2{W:ag}{σ:St}{h:a9}{a:a6}{o:bM}{es:List (List aT×C)}{xs:List (List aT×a6×af)}(c:qH prog w o xs)(g:h.get? a=some o)(q:TRel prog w W σ.next es xs)(R:bL prog w h₁ W σ h):h.DictOfH (tupK prog w) a xs:=by
 obtain⟨oE,ff,ep,aD,hk,a3⟩:=c;exact⟨_,_,_,g,oE,aD,hk,q.i5 R,a3⟩
theorem oY{W:ag}{σ:St}{h:a9}{src:C}{ax:af}{es:List (List aT×C)}(R:bL prog w h₁ W σ h)(a':aQ prog w W σ.next src ax)(hs:hy src σ=some es):
 ∃a xs,ax=.ref a/\(a==hD)=false/\h.DictOfH (tupK prog w) a xs/\TRel prog w W σ.next es xs:=
 a'.afm (λv=>hy v σ) (λax=>∃a xs,ax=.ref a/\(a==hD)=false/\h.DictOfH (tupK prog w) a xs/\TRel prog w W σ.next es xs) hs
  λc _ e=>by obtain⟨_,_,g,z,x,q⟩:=(R.cell c _ (cO.ae7 e)).2.bt;exact⟨_,_,rfl,z,x.b2 g q R,q⟩
theorem MF{dX:Type}[DecidableEq dX]{es:List (dX×C)}{q k:dX}{v:C}(e:q=k):eE ((q,v)::es) k=some v:=by
 unfold eE;rw[List.find?_cons_of_pos (by exact decide_eq_true e)];rfl
theorem MG{dX:Type}[DecidableEq dX]{es:List (dX×C)}{q k:dX}{v:C}(e:¬q=k):eE ((q,v)::es) k=eE es k:=by
 unfold eE;rw[List.find?_cons_of_neg (by exactλh=>e (of_decide_eq_true h))]
theorem eW.at{W:ag}{n:Nat}{es:List (aT×C)}{kvs:List (aT×af)}(r:eW prog w W n es kvs)(k:aT):(eE es k=none/\qx kvs k=none)\/∃v ax,eE es k=some v/\qx kvs k=some ax/\aQ prog w W n v ax:=
 r.ind (P:=λes kvs=>(eE es k=none/\qx kvs k=none)\/∃v ax,eE es k=some v/\qx kvs k=some ax/\aQ prog w W n v ax) (.inl ⟨rfl,rfl⟩) λ{q v ax es kvs} a _ a7=>by
  by_cases e:q=k
  .exact .inr ⟨v,ax,MF e,by simp[qx,e],a⟩
  .rw[MG e,show qx ((q,ax)::kvs) k=qx kvs k by simp[qx,e]];exact a7
theorem TRel.at{W:ag}{n:Nat}{es:List (List aT×C)}{xs:List (List aT×a6×af)}(r:TRel prog w W n es xs)(k:List aT):(eE es k=none/\iX xs k=none)\/∃v a ax,eE es k=some v/\iX xs k=some (a,ax)/\aQ prog w W n v ax:=
 r.ind (P:=λes xs=>(eE es k=none/\iX xs k=none)\/∃v a ax,eE es k=some v/\iX xs k=some (a,ax)/\aQ prog w W n v ax) (.inl ⟨rfl,rfl⟩) λ{q v a ax es xs} _ gf _ a7=>by
  by_cases e:q=k
  .exact .inr ⟨v,a,ax,MF e,by simp[iX,e],gf⟩
  .rw[MG e,show iX ((q,a,ax)::xs) k=iX xs k by simp[iX,e]];exact a7
theorem TRel.length{W:ag}{n:Nat}{es:List (List aT×C)}{xs:List (List aT×a6×af)}(r:TRel prog w W n es xs):xs.length=es.length:=
 r.ind (P:=λes xs=>xs.length=es.length) rfl λ_ _ _ a7=>congrArg Nat.succ a7
noncomputable def toAtom:C->Option aT
 |.none=>some .none
 |.int i=>some (.int i)
 |.str x=>some (.str x)
 |_=>none
noncomputable def toKey:C->Option (List aT)
 |.bA vs=>vs.mapM toAtom
 |_=>none
theorem toAtom_is{W:ag}{n:Nat}{v:C}{ax:af}{k:aT}(h:aQ prog w W n v ax)(e:toAtom v=some k):ll k ax=true:=
 aQ.casesOn (motive_1:=λv ax _=>toAtom v=some k->ll k ax=true) h (λe=>cx e▸rfl) (λ_ e=>au e) (λ_ _ e=>cx e▸beq_self_eq_true _) (λ_ _ e=>cx e▸beq_self_eq_true _) (λ_ _ e=>au e)
  (λ_ _ e=>au e) (λ_ _ _ _ e=>au e) (λ_ _ _ _ e=>au e) (λ_ e=>au e) (λ_ e=>au e) (λ_ e=>au e) e
theorem toKey_items{W:ag}{n:Nat}{vs:List C}{bG:List af}{k:List aT}(r:bH prog w W n vs bG)(e:vs.mapM toAtom=some k):ItemsAre (ix prog w) k bG:=
 r.ind (P:=λvs bG=>∀k,vs.mapM toAtom=some k->ItemsAre (ix prog w) k bG) (λk e=>cx e▸.nil) (λa _ a7 k e=>by
  rw[List.mapM_cons] at e
  obtain⟨x,ay,e⟩:=bind_some e
  obtain⟨y,bQ,e⟩:=bind_some e
  exact cx e▸.cons (toAtom_is a ay) (a7 y bQ)) k e
theorem toKey_is{W:ag}{σ:St}{h:a9}{n:Nat}{v:C}{ax:af}{k:List aT}(R:bL prog w h₁ W σ h)(a':aQ prog w W n v ax)(e:toKey v=some k):∃a,ax=.ref a/\nM prog w W k a/\(tupK prog w).is h k a:=
 a'.afn toKey (λax=>∃a,ax=.ref a/\nM prog w W k a/\(tupK prog w).is h k a) e λ_ _ _ _ r q e=>⟨_,rfl,⟨_,_,_,r,rfl,rfl,toKey_items q e⟩,_,_,_,R.imm _ _ r,rfl,rfl,toKey_items q e⟩
noncomputable def nY{dX:Type}[DecidableEq dX](ff:List (dX×C)):List (dX×C)->Option Bool
 |[]=>some true
 |(k,v)::r=>match eE ff k with
  |none=>some false
  |some y=>(dm 4 v y).bind λe=>(nY ff r).map λb=>e&&b
noncomputable def kR{dX:Type}[DecidableEq dX](es ff:List (dX×C)):Option Bool:=if es.length=ff.length then nY ff es else some false
theorem L2{W:ag}{σ:St}{s:aB}{A:b8}(R:bL prog w h₁ W σ s.heap)(bZ:A.units+4<iY){ff:List (aT×C)}{dI:List (aT×af)}(el:eW prog w W σ.next ff dI)
 {es:List (aT×C)}{fB:List (aT×af)}{r:Bool}(q:eW prog w W σ.next es fB)(h:nY ff es=some r):KeqHits A s dI fB r:=
 q.ind (P:=λes fB=>∀r,nY ff es=some r->KeqHits A s dI fB r) (λr h=>cx h▸.nil) (λ{GB _ _ _ _} a _ a7 r h=>by
  unfold nY at h
  rcases el.at GB with⟨h1,h2⟩|⟨v,ax,h1,h2,aU⟩
  .rw[h1] at h;exact cx h▸.miss h2
  .rw[h1] at h
   obtain⟨e,cj,h⟩:=bind_some h
   obtain⟨b1,ai,h⟩:=hc.mp h
   exact h▸.hit h2 (tl R 4 A bZ _ _ _ _ _ a aU cj) (a7 _ ai)) r h
theorem L4{W:ag}{σ:St}{s:aB}{A:b8}(R:bL prog w h₁ W σ s.heap)(bZ:A.units+4<iY){ff:List (List aT×C)}{dI:List (List aT×a6×af)}(el:TRel prog w W σ.next ff dI)
 {es:List (List aT×C)}{fB:List (List aT×a6×af)}{r:Bool}(q:TRel prog w W σ.next es fB)(h:nY ff es=some r):jW A s dI fB r:=
 q.ind (P:=λes fB=>∀r,nY ff es=some r->jW A s dI fB r) (λr h=>cx h▸.nil) (λ{GB _ _ _ _ _} _ a _ a7 r h=>by
  unfold nY at h
  rcases el.at GB with⟨h1,h2⟩|⟨v,gU,ax,h1,h2,aU⟩
  .rw[h1] at h;exact cx h▸.miss h2
  .rw[h1] at h
   obtain⟨e,cj,h⟩:=bind_some h
   obtain⟨b1,ai,h⟩:=hc.mp h
   exact h▸.hit h2 (tl R 4 A bZ _ _ _ _ _ a aU cj) (a7 _ ai)) r h
noncomputable def pn(a b:C)(σ:St):Option Bool:=match hG a σ,hG b σ with
 |some x,some y=>kR x y
 |_,_=>match hy a σ,hy b σ with
  |some x,some y=>kR x y
  |_,_=>match a,b with
   |.int _,.int _=>dm 8 a b
   |.str _,.str _=>dm 8 a b
   |.bB _,.bB _=>dm 8 a b
   |_,_=>none
noncomputable def cP:b4
 |[a,b],σ=>(pn a b σ).map λr=>(.bool r,σ)
 |_,_=>none
noncomputable def gY:b4
 |[a,b],σ=>(pn a b σ).map λr=>(.bool (!r),σ)
 |_,_=>none
theorem iN{A:b8}{k:Nat}(bZ:A.units+200<iY)(h:autoParam (o7 k 200=true) aN._auto_1):A.units+k<iY:=Hr (Nat.add_le_add_left (rJ h) _) bZ
theorem fA.line{A:b8}{k:Nat}(aH:fA A k):A.units+200<iY:=Hr (yg (rI _ _) _) aH.u
noncomputable def sj(oa ob:Option (List (aT×C)))(ta tb:Option (List (List aT×C)))(a b:C):Option Bool:=match oa,ob with
 |some x,some y=>kR x y
 |_,_=>match ta,tb with
  |some x,some y=>kR x y
  |_,_=>match a,b with
   |.int _,.int _=>dm 8 a b
   |.str _,.str _=>dm 8 a b
   |.bB _,.bB _=>dm 8 a b
   |_,_=>none
inductive jc:C->C->Prop
 |int (x y:Int):jc (.int x) (.int y)
 |str (x y:aV):jc (.str x) (.str y)
 |bB (x y:List C):jc (.bB x) (.bB y)
theorem Kr{a b:C}{r:Bool}(h:sj none none none none a b=some r):dm 8 a b=some r/\jc a b:=
 C.casesOn (motive_1:=λa=>sj none none none none a b=some r->dm 8 a b=some r/\jc a b) a (λh=>au h) (λ_ h=>au h)
  (λx=>C.casesOn (motive_1:=λb=>sj none none none none (.int x) b=some r->dm 8 (.int x) b=some r/\jc (.int x) b) b (λh=>au h) (λ_ h=>au h) (λ_ h=>⟨h,.int _ _⟩) (λ_ h=>au h) (λ_ h=>au h) (λ_ h=>au h) (λ_ h=>au h) (λ_ h=>au h) (λ_ _ _ h=>au h) (λ_ h=>au h) (λ_ h=>au h))
  (λx=>C.casesOn (motive_1:=λb=>sj none none none none (.str x) b=some r->dm 8 (.str x) b=some r/\jc (.str x) b) b (λh=>au h) (λ_ h=>au h) (λ_ h=>au h) (λ_ h=>⟨h,.str _ _⟩) (λ_ h=>au h) (λ_ h=>au h) (λ_ h=>au h) (λ_ h=>au h) (λ_ _ _ h=>au h) (λ_ h=>au h) (λ_ h=>au h))
  (λ_ h=>au h) (λ_ h=>au h)
  (λx=>C.casesOn (motive_1:=λb=>sj none none none none (.bB x) b=some r->dm 8 (.bB x) b=some r/\jc (.bB x) b) b (λh=>au h) (λ_ h=>au h) (λ_ h=>au h) (λ_ h=>au h) (λ_ h=>au h) (λ_ h=>au h) (λ_ h=>⟨h,.bB _ _⟩) (λ_ h=>au h) (λ_ _ _ h=>au h) (λ_ h=>au h) (λ_ h=>au h))
  (λ_ h=>au h) (λ_ _ _ h=>au h) (λ_ h=>au h) (λ_ h=>au h) h
theorem Kq{ta tb:Option (List (List aT×C))}{a b:C}{r:Bool}(h:sj none none ta tb a b=some r):(∃x y,ta=some x/\tb=some y/\kR x y=some r)\/(dm 8 a b=some r/\jc a b):=by
 rcases ta with _|x
 .exact .inr (Kr h)
 rcases tb with _|y
 .exact .inr (Kr h)
 .exact .inl ⟨x,y,rfl,rfl,h⟩
theorem Kp{oa ob:Option (List (aT×C))}{ta tb:Option (List (List aT×C))}{a b:C}{r:Bool}(h:sj oa ob ta tb a b=some r):
 (∃x y,oa=some x/\ob=some y/\kR x y=some r)\/(∃x y,ta=some x/\tb=some y/\kR x y=some r)\/(dm 8 a b=some r/\jc a b):=by
 rcases oa with _|x
 .exact .inr (Kq h)
 rcases ob with _|y
 .exact .inr (Kq h)
 .exact .inl ⟨x,y,rfl,rfl,h⟩
theorem zy{dX:Type}[DecidableEq dX]{x y:List (dX×C)}{r:Bool}{n m:Nat}(h:kR x y=some r)(bj:n=x.length)(bg:m=y.length):∃cu,(n=m->nY y x=some cu)/\(n==m&&cu)=r:=by
 subst bj bg
 unfold kR at h
 by_cases aJ:x.length=y.length
 .rw[if_pos aJ] at h;exact⟨r,λ_=>h,by rw[aJ,beq_self_eq_true,Bf]⟩
 .rw[if_neg aJ] at h;exact⟨true,λe=>absurd e aJ,by rw[beq_eq_false_iff_ne.mpr aJ];exact cx h⟩
theorem PC{W:ag}{σ:St}{s:aB}{A:b8}{n:Nat}{as br:List C}{items eN:Array af}{r:Bool}(a7:∀a b bD b1 r,aQ prog w W n a bD->aQ prog w W n b b1->dm 7 a b=some r->EqAt A.in1 s bD b1 r)
 (cM:bH prog w W n as items.toList)(cE:bH prog w W n br eN.toList)(h:dm 8 (.bB as) (.bB br)=some r):
 (items.size=eN.size/\(∀aj (h1:aj<items.size) (h2:aj<eN.size),EqAt A.in1 s items[aj] eN[aj] (si (dm 7) as br aj))/\(iW eN.size).all (si (dm 7) as br)=r)\/(¬items.size=eN.size/\r=false):=by
 have bj:items.size=as.length:=by rw[<-fN];exact cM.length
 have bg:eN.size=br.length:=by rw[<-fN];exact cE.length
 have h':(if as.length=br.length then ja (dm 7) as br else some false)=some r:=h
 by_cases dP:as.length=br.length
 .rw[if_pos dP] at h'
  have h2:=(A8 h').2
  rw[dP,Nat.min_self,<-bg] at h2
  exact .inl ⟨by rw[bj,bg,dP],Fy (σ:=σ) a7 cM cE h',h2⟩
 .rw[if_neg dP] at h'
  exact .inr ⟨by rw[bj,bg];exact dP,(cx h').symm⟩
theorem adF{W:ag}{σ:St}{s:aB}{A:b8}(R:bL prog w h₁ W σ s.heap)(bZ:A.units+200<iY){a b:C}{bD b1:af}{r:Bool}{Q E:af->aB->Prop}(b7:aQ prog w W σ.next a bD)(dd:aQ prog w W σ.next b b1)(h:dm 8 a b=some r)
 (hk:jc a b)(aW:Q (.bool (r)) s):wpAny (bp prog w) A (hP .Eq bD b1) Q E s:=
 have kW:A.units<iY:=iN (k:=0) bZ
 jc.casesOn (motive:=λa b _=>aQ prog w W σ.next a bD->aQ prog w W σ.next b b1->dm 8 a b=some r->wpAny (bp prog w) A (hP .Eq bD b1) Q E s) hk
  (λx y b7 dd h=>by obtain⟨t,rfl⟩:=b7.bt;obtain⟨u,rfl⟩:=dd.bt;cases h;exact RcAt.int_int _ _ _ _ prog w E Q aW)
  (λx y b7 dd h=>by obtain⟨t,rfl⟩:=b7.bt;obtain⟨u,rfl⟩:=dd.bt;cases h;exact RcAt.str_str _ _ _ _ prog w E Q aW)
  (λas br b7 dd h=>by
    obtain⟨l,items,rfl,cB,cM⟩:=ik R b7 rfl
    obtain⟨bh,eN,rfl,eZ,cE⟩:=ik R dd rfl
    rcases PC (σ:=σ) (A:=A) (tl R 7 A.in1 (iN (k:=8) bZ)) cM cE h with⟨e,key,rfl⟩|⟨e,rfl⟩
    .have key:=RcAt.lists cB eZ e kW key
     rw[e] at key
     exact key prog w E Q aW
    .exact RcAt.lists_lengths cB eZ (by simpa using e) kW prog w E Q aW) b7 dd h
theorem adG{W:ag}{σ:St}{s:aB}{A:b8}(R:bL prog w h₁ W σ s.heap)(bZ:A.units+200<iY){a b:C}{bD b1:af}{r:Bool}{Q E:af->aB->Prop}(b7:aQ prog w W σ.next a bD)(dd:aQ prog w W σ.next b b1)(h:dm 8 a b=some r)
 (hk:jc a b)(aW:Q (.bool (!r)) s):wpAny (bp prog w) A (hP .NotEq bD b1) Q E s:=
 have kW:A.units<iY:=iN (k:=0) bZ
 jc.casesOn (motive:=λa b _=>aQ prog w W σ.next a bD->aQ prog w W σ.next b b1->dm 8 a b=some r->wpAny (bp prog w) A (hP .NotEq bD b1) Q E s) hk
  (λx y b7 dd h=>by obtain⟨t,rfl⟩:=b7.bt;obtain⟨u,rfl⟩:=dd.bt;cases h;exact RcNeAt.int_int _ _ _ _ prog w E Q aW)
  (λx y b7 dd h=>by obtain⟨t,rfl⟩:=b7.bt;obtain⟨u,rfl⟩:=dd.bt;cases h;exact RcNeAt.str_str _ _ _ _ prog w E Q aW)
  (λas br b7 dd h=>by
    obtain⟨l,items,rfl,cB,cM⟩:=ik R b7 rfl
    obtain⟨bh,eN,rfl,eZ,cE⟩:=ik R dd rfl
    rcases PC (σ:=σ) (A:=A) (tl R 7 A.in1 (iN (k:=8) bZ)) cM cE h with⟨e,key,rfl⟩|⟨e,rfl⟩
    .have key:=RcNeAt.lists cB eZ e kW key
     rw[e] at key
     exact key prog w E Q aW
    .exact RcNeAt.lists_lengths cB eZ (by simpa using e) kW prog w E Q aW) b7 dd h
theorem eO:OpOk prog w h₁ k (fF (hP .Eq)) cP:=
 .gv λW σ a bD r cu b7 aL=>.more (λr=>a::r) (λr=>bD::r) aL λb b1 q el dd cn=>.end (λq=>a::b::q) (λq=>bD::b1::q) cn λA s Q E aH a5 R=>wpN.of<|by
 obtain⟨r,aL,a5⟩:=(aM.map a5).cR
 have q:=dJ.at a5 R (.bool r) s.toks
 have bZ:=aH.line
 have kW:A.units<iY:=iN (k:=0) bZ
 rcases Kp (oa:=hG a σ) (ob:=hG b σ) (ta:=hy a σ) (tb:=hy b σ) aL with⟨x,y,ay,bQ,h⟩|⟨x,y,ay,bQ,h⟩|⟨h,hk⟩
 .obtain⟨l,fB,e7,eU,jZ,cM⟩:=pd R b7 ay
  obtain⟨bh,dI,f9,nq,gV,cE⟩:=pd R dd bQ
  obtain⟨cu,g,jG⟩:=zy h cM.length cE.length
  rw[e7,f9];exact keq_eq eU nq jZ gV kW (λe=>L2 R (iN (k:=5) bZ) cE cM (g e)) (jG▸q)
 .obtain⟨l,fB,e7,eU,jZ,cM⟩:=oY R b7 ay
  obtain⟨bh,dI,f9,nq,gV,cE⟩:=oY R dd bQ
  obtain⟨cu,g,jG⟩:=zy h cM.length cE.length
  rw[e7,f9];exact ae9 (vI (iN bZ)) eU nq jZ gV kW (λe=>L4 R (iN (k:=5) bZ) cE cM (g e)) (jG▸q)
 .exact adF R bZ b7 dd h hk q
theorem n':OpOk prog w h₁ k (fF (hP .NotEq)) gY:=
 .gv λW σ a bD r cu b7 aL=>.more (λr=>a::r) (λr=>bD::r) aL λb b1 q el dd cn=>.end (λq=>a::b::q) (λq=>bD::b1::q) cn λA s Q E aH a5 R=>wpN.of<|by
 obtain⟨r,aL,a5⟩:=(aM.map a5).cR
 have q:=dJ.at a5 R (.bool (!r)) s.toks
 have bZ:=aH.line
 have kW:A.units<iY:=iN (k:=0) bZ
 rcases Kp (oa:=hG a σ) (ob:=hG b σ) (ta:=hy a σ) (tb:=hy b σ) aL with⟨x,y,ay,bQ,h⟩|⟨x,y,ay,bQ,h⟩|⟨h,hk⟩
 .obtain⟨l,fB,e7,eU,jZ,cM⟩:=pd R b7 ay
  obtain⟨bh,dI,f9,nq,gV,cE⟩:=pd R dd bQ
  obtain⟨cu,g,jG⟩:=zy h cM.length cE.length
  rw[e7,f9];exact keq_ne eU nq jZ gV kW (λe=>L2 R (iN (k:=5) bZ) cE cM (g e)) (jG▸q)
 .obtain⟨l,fB,e7,eU,jZ,cM⟩:=oY R b7 ay
  obtain⟨bh,dI,f9,nq,gV,cE⟩:=oY R dd bQ
  obtain⟨cu,g,jG⟩:=zy h cM.length cE.length
  rw[e7,f9];exact ae' (vI (iN bZ)) eU nq jZ gV kW (λe=>L4 R (iN (k:=5) bZ) cE cM (g e)) (jG▸q)
 .exact adG R bZ b7 dd h hk q
end Internal
namespace Internal
open PySem PySem.W PyProof.Rows PySem.Calls PySem.SeqAt
variable{prog:cD}{w:cm}{h₁:a9}{K:fH}{own:Bool}{env:dc}{ns:List aV}{k:Nat}
noncomputable def l7(x:C):List C->Option Bool
 |[]=>some false
 |y::r=>(dm 8 y x).bind λa=>(l7 x r).map λb=>a||b
theorem QY{x:C}{vs:List C}:∀{r:Bool},l7 x vs=some r->(∀y∈vs,∃q,dm 8 y x=some q)/\(r=true↔∃y∈vs,dm 8 y x=some true):=
 List.rec (motive:=λvs=>∀{r:Bool},l7 x vs=some r->(∀y∈vs,∃q,dm 8 y x=some q)/\(r=true↔∃y∈vs,dm 8 y x=some true))
  (λh=>⟨eg _,⟨λe=>dg ((cx h).trans e),λ⟨_,h,_⟩=>absurd h iI⟩⟩) (λy vs a7 r h=>by
  obtain⟨a,ha,h⟩:=bind_some (show(dm 8 y x).bind _=some r from h)
  obtain⟨b,ai,h⟩:=hc.mp h
  obtain⟨h1,h2⟩:=a7 ai
  refine⟨b0.mpr ⟨⟨a,ha⟩,h1⟩,?_⟩
  rw[<-h,Bool.or_eq_true,h2]
  refine⟨λq=>?_,λq=>?_⟩
  .rcases q with e|⟨z,hz,e⟩
   .exact⟨y,vr,ha.trans (congrArg some e)⟩
   .exact⟨z,yc _ hz,e⟩
  .obtain⟨z,hz,e⟩:=q
   rcases fX.mp hz with bj|hz
   .rw[bj] at e;exact .inl (cx (ha.symm.trans e))
   .exact .inr ⟨z,hz,e⟩) vs
open Classical in
theorem zh{W:ag}{σ:St}{s:aB}{A:b8}(R:bL prog w h₁ W σ s.heap)(bZ:A.units+200<iY){x:C}{d6:af}{vs:List C}{items:Array af}{r:Bool}(fv:aQ prog w W σ.next x d6)(q:bH prog w W σ.next vs items.toList)
 (h:l7 x vs=some r):∃e:af->Bool,(∀y,y∈items->EqAt A.in1 s y d6 (e y))/\items.any e=r:=by
 obtain⟨h1,h2⟩:=QY h
 have len:=q.length
 have cc:∀(aj:Nat) g0,items.toList[aj]? =some g0->∃y,vs[aj]? =some y/\aQ prog w W σ.next y g0:=λaj g0 e=>by
  have c2:aj<vs.length:=by rw[<-len];exact(nu.mp e).1
  obtain⟨qf,bg,bY⟩:=q.get (iG c2)
  rw[e] at bg;cases bg
  exact⟨_,iG c2,bY⟩
 have at':=tl R 8 A.in1 (iN (k:=9) bZ)
 refine⟨λg0=>decide (∃(aj:Nat) (y:C),items.toList[aj]? =some g0/\vs[aj]? =some y/\dm 8 y x=some true),λg0 bQ=>?_,?_⟩
 .by_cases az:∃(aj:Nat) (y:C),items.toList[aj]? =some g0/\vs[aj]? =some y/\dm 8 y x=some true
  .dsimp only
   rw[show(decide (∃(aj:Nat) (y:C),items.toList[aj]? =some g0/\vs[aj]? =some y/\dm 8 y x=some true))=true from decide_eq_true az]
   obtain⟨aj,y,bj,bg,e3⟩:=az
   obtain⟨qf,gO,oW⟩:=cc aj g0 bj
   rw[bg] at gO;cases gO
   exact at' _ _ _ _ _ oW fv e3
  .dsimp only
   rw[show(decide (∃(aj:Nat) (y:C),items.toList[aj]? =some g0/\vs[aj]? =some y/\dm 8 y x=some true))=false from decide_eq_false az]
   obtain⟨aj,bj⟩:=BI.mp (Array.mem_toList_iff.mpr bQ)
   obtain⟨y,bg,oW⟩:=cc aj g0 bj
   obtain⟨b,ai⟩:=h1 y (BI.mpr ⟨aj,bg⟩)
   induction b with
   |true=>exact absurd ⟨aj,y,bj,bg,ai⟩ az
   |false=>exact at' _ _ _ _ _ oW fv ai
 .rw[Bd,Array.any_eq_true,h2]
  constructor
  .rintro⟨i,hi,e⟩
   obtain⟨aj,y,bj,bg,e3⟩:=of_decide_eq_true e
   exact⟨y,BI.mpr ⟨aj,bg⟩,e3⟩
  .rintro⟨y,bQ,e⟩
   obtain⟨aj,bg⟩:=BI.mp bQ
   obtain⟨g0,bj,oW⟩:=q.get bg
   rw[o3] at bj
   obtain⟨c2,e3⟩:=Array.getElem?_eq_some_iff.mp bj
   refine⟨aj,c2,?_⟩
   rw[e3]
   exact decide_eq_true ⟨aj,y,by rw[o3];exact bj,bg,e⟩
noncomputable def oO(x c:C)(σ:St):Option Bool:=match hG c σ with
 |some es=>(toAtom x).map λk=>(eE es k).isSome
 |none=>match hy c σ with
  |some es=>(toKey x).map λk=>(eE es k).isSome
  |none=>match c with
   |.bA vs=>l7 x vs
   |c=>(fU c σ).bind (l7 x)
noncomputable def gF:b4
 |[x,c],σ=>(oO x c σ).map λr=>(.bool r,σ)
 |_,_=>none
noncomputable def rg:b4
 |[x,c],σ=>(oO x c σ).map λr=>(.bool (!r),σ)
 |_,_=>none
noncomputable def Fu(oa:Option (List (aT×C)))(ta:Option (List (List aT×C)))(x c:C)(σ:St):Option Bool:=match oa with
 |some es=>(toAtom x).map λk=>(eE es k).isSome
 |none=>match ta with
  |some es=>(toKey x).map λk=>(eE es k).isSome
  |none=>match c with
   |.bA vs=>l7 x vs
   |c=>(fU c σ).bind (l7 x)
inductive pa (x c:C) (σ:St) (r:Bool):Prop
 |ad (es:List (aT×C)) (k:aT) (h1:hG c σ=some es) (h2:toAtom x=some k) (aU:(eE es k).isSome=r)
 |tj (es:List (List aT×C)) (k:List aT) (h1:hy c σ=some es) (h2:toKey x=some k) (aU:(eE es k).isSome=r)
 |bA (vs:List C) (h1:c=.bA vs) (aU:l7 x vs=some r)
 |xh (vs:List C) (h1:fU c σ=some vs) (aU:l7 x vs=some r)
theorem pa.iP{x c:C}{σ:St}{r:Bool}(h:((fU c σ).bind (l7 x))=some r):pa x c σ r:=by
 obtain⟨vs,h1,h2⟩:=bind_some h;exact .xh vs h1 h2
theorem pa.Gg{x c:C}{σ:St}{r:Bool}(h:Fu none none x c σ=some r):pa x c σ r:=
 C.casesOn (motive_1:=λc=>Fu none none x c σ=some r->pa x c σ r) c (λh=>.iP h) (λ_ h=>.iP h) (λ_ h=>.iP h) (λ_ h=>.iP h) (λ_ h=>.iP h) (λvs h=>.bA vs rfl h) (λ_ h=>.iP h) (λ_ h=>.iP h) (λ_ _ _ h=>.iP h) (λ_ h=>.iP h) (λ_ h=>.iP h) h
theorem pa.of{x c:C}{σ:St}{r:Bool}(h:oO x c σ=some r):pa x c σ r:=by
 have h:Fu (hG c σ) (hy c σ) x c σ=some r:=h
 rcases e7:hG c σ with _|es
 .rw[e7] at h
  rcases f9:hy c σ with _|es
  .rw[f9] at h;exact .Gg h
  .rw[f9] at h
   obtain⟨k,h1,h2⟩:=hc.mp h
   exact .tj es k f9 h1 h2
 .rw[e7] at h
  obtain⟨k,h1,h2⟩:=hc.mp h
  exact .ad es k e7 h1 h2
theorem O9{W:ag}{n:Nat}{es:List (aT×C)}{dI:List (aT×af)}(q:eW prog w W n es dI)(a:aT):(qx dI a).isSome=(eE es a).isSome:=by
 rcases q.at a with⟨h1,h2⟩|⟨_,_,h1,h2,_⟩
 .rw[h1,h2];rfl
 .rw[h1,h2];rfl
theorem O'{W:ag}{n:Nat}{es:List (List aT×C)}{dI:List (List aT×a6×af)}(q:TRel prog w W n es dI)(a:List aT):(iX dI a).isSome=(eE es a).isSome:=by
 rcases q.at a with⟨h1,h2⟩|⟨_,_,_,h1,h2,_⟩
 .rw[h1,h2];rfl
 .rw[h1,h2];rfl
theorem kx:OpOk prog w h₁ k (fF (hP .In)) gF:=
 .gv λW σ x d6 r cu fv aL=>.more (λr=>x::r) (λr=>d6::r) aL λc cK q el e1 cn=>.end (λq=>x::c::q) (λq=>d6::cK::q) cn λA s Q E aH a5 R=>wpN.of<|fK λG cc=>by
 obtain⟨r,aL,a5⟩:=(aM.map a5).cR
 have aW:=λcw=>dJ.at a5 R (.bool r) cw
 rcases pa.of aL with⟨es,a,h1,ha,aU⟩|⟨es,a,h1,ha,aU⟩|⟨vs,sf,aU⟩|⟨vs,h1,aU⟩
 .obtain⟨l,dI,e,z,d,q⟩:=pd R e1 h1
  refine cc ?_
  rw[e]
  refine wpAny_in_of (knd:=ix prog w) (toAtom_is fv ha) z d.mapOf ?_
  rw[O9 q,aU];exact aW _
 .obtain⟨l,dI,e,z,d,q⟩:=oY R e1 h1
  obtain⟨zk,pq,_,hk⟩:=toKey_is R fv ha
  refine cc ?_
  rw[e,pq]
  refine wpAny_in_heap (vI (iN aH.line)) hk z d ?_
  rw[O' q,aU];exact aW _
 .rw[sf] at e1
  obtain⟨l,items,m,e,bo,cB,cM⟩:=e1.lM R
  obtain⟨f,h1,h2⟩:=zh (A:=A) R aH.line fv cM aU
  refine cc ?_
  rw[e]
  refine in_tupleAt f ⟨_,cB,rfl,_,rfl⟩ h1 ?_
  rw[h2];exact aW s.toks
 .obtain⟨l,items,e,cB,cM⟩:=ik R e1 h1
  obtain⟨f,h1,h2⟩:=zh (A:=A) R aH.line fv cM aU
  refine cc ?_
  rw[e]
  refine in_listAt f cB h1 ?_
  rw[h2];exact aW s.toks
theorem Gd:OpOk prog w h₁ k (fF (hP .NotIn)) rg:=
 .gv λW σ x d6 r cu fv aL=>.more (λr=>x::r) (λr=>d6::r) aL λc cK q el e1 cn=>.end (λq=>x::c::q) (λq=>d6::cK::q) cn λA s Q E aH a5 R=>wpN.of<|fK λG cc=>by
 obtain⟨r,aL,a5⟩:=(aM.map a5).cR
 have aW:=λcw=>dJ.at a5 R (.bool (!r)) cw
 rcases pa.of aL with⟨es,a,h1,ha,aU⟩|⟨es,a,h1,ha,aU⟩|⟨vs,sf,aU⟩|⟨vs,h1,aU⟩
 .obtain⟨l,dI,e,z,d,q⟩:=pd R e1 h1
  refine cc ?_
  rw[e]
  refine wpAny_notIn_of (knd:=ix prog w) (toAtom_is fv ha) z d.mapOf ?_
  rw[O9 q,aU];exact aW _
 .obtain⟨l,dI,e,z,d,q⟩:=oY R e1 h1
  obtain⟨zk,pq,_,hk⟩:=toKey_is R fv ha
  refine cc ?_
  rw[e,pq]
  refine wpAny_notIn_heap (vI (iN aH.line)) hk z d ?_
  rw[O' q,aU];exact aW _
 .rw[sf] at e1
  obtain⟨l,items,m,e,bo,cB,cM⟩:=e1.lM R
  obtain⟨f,h1,h2⟩:=zh (A:=A) R aH.line fv cM aU
  refine cc ?_
  rw[e]
  refine notIn_tupleAt f ⟨_,cB,rfl,_,rfl⟩ h1 ?_
  rw[h2];exact aW s.toks
 .obtain⟨l,items,e,cB,cM⟩:=ik R e1 h1
  obtain⟨f,h1,h2⟩:=zh (A:=A) R aH.line fv cM aU
  refine cc ?_
  rw[e]
  refine notIn_listAt f cB h1 ?_
  rw[h2];exact aW s.toks
noncomputable def pX:C->Option Bool
 |.none=>some true
 |.cb _=>none
 |_=>some false
theorem ND{W:ag}{n:Nat}{v:C}{ax:af}{b:Bool}(h:aQ prog w W n v ax)(e:pX v=some b):(ax==.none)=b:=
 aQ.casesOn (motive_1:=λv ax _=>pX v=some b->(ax==kL)=b) h (λe=>cx e) (λ_ e=>cx e) (λ_ _ e=>cx e) (λ_ _ e=>cx e) (λ_ _ e=>cx e) (λ_ _ e=>cx e) (λ_ _ _ _ e=>cx e) (λ_ _ _ _ e=>cx e) (λ_ e=>cx e) (λ_ e=>cx e) (λ_ e=>au e) e
noncomputable def ku:b4
 |[a,.none],σ=>(pX a).map λr=>(.bool r,σ)
 |_,_=>none
noncomputable def m5:b4
 |[a,.none],σ=>(pX a).map λr=>(.bool (!r),σ)
 |_,_=>none
theorem s':OpOk prog w h₁ k (fF (hP .Is)) ku:=
 .gv λW σ x d6 r cu fv aL=>.more (λr=>x::r) (λr=>d6::r) aL λc cK q el e1 cn=>.none (λc=>x::c::q) (λc=>d6::c::el) e1<|.end (λq=>x::_::q) (λq=>d6::_::q) cn λA s Q E aH a5 R=>wpN.of<|by
 obtain⟨r,aL,a5⟩:=(aM.map a5).cR
 exact is_none_gen (by rw[ND fv aL];exact dJ.at a5 R (.bool _) s.toks)
theorem xt:OpOk prog w h₁ k (fF (hP .IsNot)) m5:=
 .gv λW σ x d6 r cu fv aL=>.more (λr=>x::r) (λr=>d6::r) aL λc cK q el e1 cn=>.none (λc=>x::c::q) (λc=>d6::c::el) e1<|.end (λq=>x::_::q) (λq=>d6::_::q) cn λA s Q E aH a5 R=>wpN.of<|by
 obtain⟨r,aL,a5⟩:=(aM.map a5).cR
 exact isNot_none (by rw[ND fv aL];exact dJ.at a5 R (.bool _) s.toks)
end Internal
namespace Internal
open PySem PySem.W PyProof.Rows PySem.Calls PySem.SeqAt
variable{prog:cD}{w:cm}{h₁:a9}{K:fH}{own:Bool}{env:dc}{ns:List aV}{k:Nat}
noncomputable def A5(vs:List C)(i:Int):Option C:=if-2^63<=i/\i<2^63 then(seqIndex? i vs.length).bind λaj=>vs[aj]? else none
noncomputable def rb(vs:List C)(i:Int):Option C:=if 0<=i/\i<2^63 then vs[i.toNat]? else none
noncomputable def hr(o i:C)(σ:St):Option C:=match hG o σ with
 |some es=>(toAtom i).bind λk=>eE es k
 |none=>match hy o σ with
  |some es=>(toKey i).bind λk=>eE es k
  |none=>match i with
   |.int aj=>(match o with
    |.bA vs=>A5 vs aj
    |o=>(fU o σ).bind λvs=>rb vs aj)
   |_=>none
noncomputable def bf:b4
 |[o,i],σ=>(hr o i σ).map λv=>(v,σ)
 |_,_=>none
noncomputable def Ag(oa:Option (List (aT×C)))(ta:Option (List (List aT×C)))(o i:C)(σ:St):Option C:=match oa with
 |some es=>(toAtom i).bind λk=>eE es k
 |none=>match ta with
  |some es=>(toKey i).bind λk=>eE es k
  |none=>match i with
   |.int aj=>(match o with
    |.bA vs=>A5 vs aj
    |o=>(fU o σ).bind λvs=>rb vs aj)
   |_=>none
inductive pb (o i:C) (σ:St) (r:C):Prop
 |ad (es:List (aT×C)) (k:aT) (h1:hG o σ=some es) (h2:toAtom i=some k) (aU:eE es k=some r)
 |tj (es:List (List aT×C)) (k:List aT) (h1:hy o σ=some es) (h2:toKey i=some k) (aU:eE es k=some r)
 |bA (vs:List C) (aj:Int) (h1:o=.bA vs) (h2:i=.int aj) (aU:A5 vs aj=some r)
 |xh (vs:List C) (aj:Int) (h1:fU o σ=some vs) (h2:i=.int aj) (aU:rb vs aj=some r)
theorem pb.iP{o:C}{aj:Int}{σ:St}{r:C}(h:((fU o σ).bind λvs=>rb vs aj)=some r):pb o (.int aj) σ r:=by
 obtain⟨vs,h1,h2⟩:=bind_some h;exact .xh vs aj h1 rfl h2
theorem pb.Gg{o i:C}{σ:St}{r:C}(h:Ag none none o i σ=some r):pb o i σ r:=
 C.casesOn (motive_1:=λi=>Ag none none o i σ=some r->pb o i σ r) i (λh=>au h) (λ_ h=>au h) (λaj=>C.casesOn (motive_1:=λo=>Ag none none o (.int aj) σ=some r->pb o (.int aj) σ r) o (λh=>.iP h) (λ_ h=>.iP h) (λ_ h=>.iP h) (λ_ h=>.iP h) (λ_ h=>.iP h) (λvs h=>.bA vs aj rfl rfl h) (λ_ h=>.iP h) (λ_ h=>.iP h) (λ_ _ _ h=>.iP h) (λ_ h=>.iP h) (λ_ h=>.iP h)) (λ_ h=>au h) (λ_ h=>au h) (λ_ h=>au h) (λ_ h=>au h) (λ_ h=>au h) (λ_ _ _ h=>au h) (λ_ h=>au h) (λ_ h=>au h) h
theorem pb.of{o i:C}{σ:St}{r:C}(h:hr o i σ=some r):pb o i σ r:=by
 have h:Ag (hG o σ) (hy o σ) o i σ=some r:=h
 rcases e7:hG o σ with _|es
 .rw[e7] at h
  rcases f9:hy o σ with _|es
  .rw[f9] at h;exact .Gg h
  .rw[f9] at h
   obtain⟨k,h1,h2⟩:=bind_some h
   exact .tj es k f9 h1 h2
 .rw[e7] at h
  obtain⟨k,h1,h2⟩:=bind_some h
  exact .ad es k e7 h1 h2
theorem Zf{value slice:bX}(hs:autoParam (∀o i,subscripted slice false o i=operate [o,i] (getItem o i)) Qc._auto_1):OpOk prog w h₁ k (fF (qt value slice)) bf:=
 .gv λW σ o c' r cu fv aL=>.more (λr=>o::r) (λr=>c'::r) aL λi kY q el e1 cn=>.end (λq=>o::i::q) (λq=>c'::kY::q) cn λA s Q E aH a5 R=>wpN.of<|fK λG cc=>by
 obtain⟨v,aL,a5⟩:=(aM.map a5).cR
 rcases pb.of aL with⟨es,a,h1,ha,aU⟩|⟨es,a,h1,ha,aU⟩|⟨vs,aj,iM,hK,aU⟩|⟨vs,aj,h1,hK,aU⟩
 .obtain⟨l,dI,e,z,d,q⟩:=pd R fv h1
  rcases q.at a with⟨g1,_⟩|⟨hO,ax,g1,g2,g3⟩
  .exact au (g1.symm.trans aU)
  .rw[<-cx (aU.symm.trans g1)] at g3
   refine cc ?_
   rw[e]
   exact qv d.typeIs slot_dict_getitem.lookup (wpAny_getItem_of (knd:=ix prog w) (toAtom_is e1 ha) d.mapOf g2 (dJ.at a5 R g3 _)) (hs _ _)
 .obtain⟨l,dI,e,z,d,q⟩:=oY R fv h1
  obtain⟨zk,hK,_,hk⟩:=toKey_is R e1 ha
  rcases q.at a with⟨g1,_⟩|⟨hO,bD,ax,g1,g2,g3⟩
  .exact au (g1.symm.trans aU)
  .rw[<-cx (aU.symm.trans g1)] at g3
   refine cc ?_
   rw[e,hK]
   exact qv d.typeIs slot_dict_getitem.lookup (wpAny_getItem_heap (vI (iN aH.line)) hk d g2 (dJ.at a5 R g3 _)) (hs _ _)
 .rw[hK] at e1
  obtain⟨u,hK⟩:=e1.bt
  rw[iM] at fv
  obtain⟨l,items,m,e,bo,cB,cM⟩:=fv.lM R
  unfold A5 at aU
  by_cases ai: -2^63<=aj/\aj<2^63
  .rw[if_pos ai] at aU
   obtain⟨x,c2,aL⟩:=bind_some aU
   obtain⟨ax,a',gf⟩:=cM.get aL
   rw[<-cM.length,fN] at c2
   rw[o3] at a'
   refine cc ?_
   rw[e,hK]
   exact qv (T:="tuple") ⟨_,cB,rfl⟩ Hv.lookup (P.getItem_tuple cB ai.1 ai.2 c2 a' (dJ.at a5 R gf s.toks)) (hs _ _)
  .rw[if_neg ai] at aU;exact au aU
 .rw[hK] at e1
  obtain⟨u,hK⟩:=e1.bt
  obtain⟨l,items,e,cB,cM⟩:=ik R fv h1
  unfold rb at aU
  by_cases ai:0<=aj/\aj<2^63
  .rw[if_pos ai] at aU
   obtain⟨ax,a',gf⟩:=cM.get aU
   rw[o3] at a'
   refine cc ?_
   rw[e,hK]
   exact qv cB.typeIs slot_list_getitem.lookup (wpAny_getItem_list cB ai.1 ai.2 a' (dJ.at a5 R gf s.toks)) (hs _ _)
  .rw[if_neg ai] at aU;exact au aU
theorem cg{value slice:bX}{pos:bz}{et dZ:cy}(h1:bx prog w h₁ own env ns k (aR value env) et)(h2:bx prog w h₁ own env ns k (aR slice env) dZ)
 (hs:autoParam (∀o i,subscripted slice false o i=operate [o,i] (getItem o i)) Qc._auto_1):
 bx prog w h₁ own env ns k (aR (.Subscript value slice pos) env) (ah bf et dZ):=by
 refine .of λA W aa σ s Q E aH ar R=>PR (h1.go aH ar.bind R λeS cH ar bC d5 h1 c0 bO ab bK bo=>h2.go aH (aM.bind ar) bK λhO bN ar bR dR h2 tk2 bh aF cQ bY=>?_)
 exact cQ.od (s:={s with heap:=h2,toks:=tk2}) (Zf hs) aH ar (.cons (bo.bb bh.1 aF) (.cons bY .nil)) λv a4 c cf ax aU df dh bE dO ea=>
  c cf ax aU df ((bO.trans ab bh).trans (cI ab aF) dh) (cI ab (cI aF bE)) dO ea
noncomputable def kz:C->C->C->Option C
 |.bytes b,.none,.int aj=>if 0<=aj/\b.length<=1000000 then some (.bytes (b.take aj.toNat)) else none
 |.bytes b,.int aj,.none=>if 0<=aj/\b.length<=1000000 then some (.bytes (b.drop aj.toNat)) else none
 |.bA vs,.int aj,.none=>if 1<=aj/\aj.toNat<=vs.length/\vs.length<=1000000 then some (.bA (vs.drop aj.toNat)) else none
 |.bA vs,.none,.int aj=>if aj= -1/\1<=vs.length/\vs.length<=1000000 then some (.bA (vs.take (vs.length-1))) else none
 |.bB vs,.none,.int aj=>if 0<=aj/\vs.length<=1000000 then some (.bB (vs.take aj.toNat)) else none
 |_,_,_=>none
noncomputable def j'(D y3 y5:cy):cy:=λaa σ=>(D aa σ).bind λr=>(y3 aa r.2).bind λl=>(y5 aa l.2).bind λu=>(kz r.1 l.1 u.1).map λv=>(v,u.2)
theorem afM{M:iJ}{A:b8}{E:af->aB->Prop}{s:aB}{lower upper:Option bX}{p:bz}{Q:af->aB->Prop}
 (h:wpN M A (evalPart lower env) (λlo bw=>wpN M A (evalPart upper env) (λhi dk=>Q (.ref dk.heap.objs.size) {dk with heap:=dk.heap.push {cls:=.type "slice",data:=.fields #[lo,hi,.none]}}) E bw) E s):
 wpN M A (aR (.Slice lower upper .none p) env) Q E s:=by
 rw[arm_eval_Slice]
 refine bc (cX h (λl bw h₁=>bc (eK (cX h₁ (λu dk fh=>?_) λ_ _ x=>x))) λ_ _ x=>x)
 refine bc (eK ?_)
 exact cS (.of (lb fh))
theorem rk:bx prog w h₁ own env ns k (evalPart .none env) (U .none):=.of λA W aa σ s Q E aH ar R=>cS (d8.to ar W _ s.heap s.toks ag.le.refl (bF _) R .none)
theorem rl{e:bX}{D:cy}(h:bx prog w h₁ own env ns k (aR e env) D):bx prog w h₁ own env ns k (evalPart (some e) env) D:=h
theorem aeL{A:b8}{E:af->aB->Prop}{s:aB}{lI:a6}{n:Nat}{u:d4}{Q:Int×Int×Nat->aB->Prop}(hs:s.heap.IsSliceOf lI .none (.int (-1) u) .none)(a3:1<=n)(h:Q (0,1,n-1) s):
 wpAny (bp prog w) A (Qi (.ref lI) (pure (n:Int))) Q E s:=by
 obtain⟨os,q9,sz,uf⟩:=id hs
 unfold Qi Builtin.Slice.sliceFields
 refine aP (aP (qy q9 uf (x:=.none) rfl (aP (qy q9 uf (x:=.int (-1) u) rfl (aP (qy q9 uf (x:=.none) rfl (bI ?_)))))))
 refine aP (slicePart_none ?_)
 show wpAny _ _ (if((1:Int)==0)=true then _ else _) _ _ s
 first|refine jK (by decide) ?_|refine ml (by decide) ?_
 refine aP (slicePart_none (aP (slicePart_int (aP (bI ?_)))))
 show wpAny _ _ (match Hk none (some (-1)) 1 (n:Int) with|(lo,hi)=>pure (lo,(1:Int),Bl lo hi 1)) _ _ s
 have e7:Hk none (some (-1)) 1 (n:Int)=(0,(n:Int)-1):=by
  unfold Hk
  have h1:¬((1:Int)<0):=by exact aE.Zw
  simp only[h1,if_false]
  congr 1
  have aU:((-1:Int)<0):=by exact aE.ZE
  simp only[aU,if_true]
  exact aE.ZN a3
 rw[e7]
 show wpAny _ _ (pure ((0:Int),(1:Int),Bl 0 ((n:Int)-1) 1)) _ _ s
 have ep:Bl 0 ((n:Int)-1) 1=n-1:=by
  unfold Bl
  have h1:(1:Int)>0:=by exact aE.ZY
  simp only[h1,if_true,Int.ediv_one]
  split<;>omega
 rw[ep]
 exact bI h
theorem VP{A:b8}{E:af->aB->Prop}{s:aB}{t lI:a6}{items:Array af}{u:d4}{Q:af->aB->Prop}(ht:IsTup s.heap t items)(hs:s.heap.IsSliceOf lI .none (.int (-1) u) .none)(ha:1<=items.size)
 (h:Q (.ref s.heap.objs.size) {s with heap:=s.heap.push {cls:=.type "tuple",data:=.seq (items.toList.take (items.size-1)).toArray}})
 (hsz:items.size<=hj):wpAny (bp prog w) A (getItem (.ref t) (.ref lI)) Q E s:=by
 have m1:sizeOk (.seq (items.toList.take (items.size-1)).toArray):=by
  show(items.toList.take (items.size-1)).toArray.size<=hj
  rw[mA,qk,fN]
  exact aE.aae hsz
 obtain⟨os,q9,sz,uf⟩:=id hs
 have Wc:s.TypeIs (.ref lI) "slice":=⟨os,q9,sz⟩
 unfold getItem
 try with_reducible refine ke ?_
 first|refine aP (bI ?_)|skip
 refine aP (wpAny_sequenceKey ht.typeIs (by decide) ?_)
 refine aP (tE (name:=yn "__getitem__") ht.typeIs slot_tuple_getitem
  (lX slot_tuple_getitem ht.typeIs entry_tuple_getitem ?_ (args_tuple_getitem _ _)))
 show wpAny _ _ (Builtin.Tuple.tupleItemsOf (.ref t)>>=_) _ _ s
 refine aP (tupleItemsOf_ ht ?_)
 refine aP (yt Wc ?_)
 first|refine j2 (by decide) ?_|refine uy (by decide) ?_
 refine aP (aeL hs ha ?_)
 have E5:¬(((0:Int)==0&&(1:Int)==1&&(items.size-1)==items.size)=true):=by
  have:((items.size-1)==items.size)=false:=by rw[beq_eq_false_iff_ne];exact aE.aan ha
  rw[this];simp
 have e:((iW (items.size-1)).filterMap λ(k:Nat)=>items[((0:Int)+(k:Int)*1).toNat]?).toArray=(items.toList.take (items.size-1)).toArray:=by
  have bj:(λ(k:Nat)=>items[((0:Int)+(k:Int)*1).toNat]?)=λk=>items[0+k]? :=by
   funext k
   have:((0:Int)+(k:Int)*1).toNat=0+k:=by exact aE.aay
   rw[this]
  rw[bj]
  have:=pick_run items 0 (items.size-1)
  rw[List.filterMap_map] at this
  exact congrArg _ this
 show wpAny _ _ (if((0:Int)==0&&(1:Int)==1&&(items.size-1)==items.size)=true then _ else _) _ _ s
 rw[if_neg E5,e]
 first
  |exact aP (m:=Bn _) (lb (bI ⟨_,rfl,bI h⟩) m1)
  |exact aP (m:=Bn _) (lb (aP (bI (bI ⟨_,rfl,bI h⟩))) m1)
  |exact aP (aP (m:=Bn _) (lb (bI (bI ⟨_,rfl,bI h⟩)) m1))
  |exact aP (aP (m:=Bn _) (lb (bI ⟨_,rfl,bI h⟩) m1))
inductive jD:C->C->C->C->Prop
 |kQ (b:List UInt8) (aj:Int) (h:0<=aj/\b.length<=1000000):jD (.bytes b) .none (.int aj) (.bytes (b.take aj.toNat))
 |qJ (b:List UInt8) (aj:Int) (h:0<=aj/\b.length<=1000000):jD (.bytes b) (.int aj) .none (.bytes (b.drop aj.toNat))
 |p' (vs:List C) (aj:Int) (h:1<=aj/\aj.toNat<=vs.length/\vs.length<=1000000):jD (.bA vs) (.int aj) .none (.bA (vs.drop aj.toNat))
 |fF (vs:List C) (aj:Int) (h:aj= -1/\1<=vs.length/\vs.length<=1000000):jD (.bA vs) .none (.int aj) (.bA (vs.take (vs.length-1)))
 |bO (vs:List C) (aj:Int) (h:0<=aj/\vs.length<=1000000):jD (.bB vs) .none (.int aj) (.bB (vs.take aj.toNat))
theorem w4{c:Prop}{cL:Decidable c}{a b:C}{P:C->Prop}(h:(if c then some a else none)=some b)(k:c->P a):P b:=by
 by_cases e:c
 .rw[if_pos e] at h;exact cx h▸k e
 .rw[if_neg e] at h;exact au h
theorem jD.of{a b c d:C}(h:kz a b c=some d):jD a b c d:=
 C.casesOn (motive_1:=λa=>kz a b c=some d->jD a b c d) a (λh=>au h) (λ_ h=>au h) (λ_ h=>au h) (λ_ h=>au h) (λy=>C.casesOn (motive_1:=λb=>kz (.bytes y) b c=some d->jD (.bytes y) b c d) b (C.casesOn (motive_1:=λc=>kz (.bytes y) (.none) c=some d->jD (.bytes y) (.none) c d) c (λh=>au h) (λ_ h=>au h) (λ_ h=>w4 h λq=>.kQ _ _ q) (λ_ h=>au h) (λ_ h=>au h) (λ_ h=>au h) (λ_ h=>au h) (λ_ h=>au h) (λ_ _ _ h=>au h) (λ_ h=>au h) (λ_ h=>au h)) (λ_ h=>au h) (λx=>C.casesOn (motive_1:=λc=>kz (.bytes y) (.int x) c=some d->jD (.bytes y) (.int x) c d) c (λh=>w4 h λq=>.qJ _ _ q) (λ_ h=>au h) (λ_ h=>au h) (λ_ h=>au h) (λ_ h=>au h) (λ_ h=>au h) (λ_ h=>au h) (λ_ h=>au h) (λ_ _ _ h=>au h) (λ_ h=>au h) (λ_ h=>au h)) (λ_ h=>au h) (λ_ h=>au h) (λ_ h=>au h) (λ_ h=>au h) (λ_ h=>au h) (λ_ _ _ h=>au h) (λ_ h=>au h) (λ_ h=>au h)) (λy=>C.casesOn (motive_1:=λb=>kz (.bA y) b c=some d->jD (.bA y) b c d) b (C.casesOn (motive_1:=λc=>kz (.bA y) (.none) c=some d->jD (.bA y) (.none) c d) c (λh=>au h) (λ_ h=>au h) (λ_ h=>w4 h λq=>.fF _ _ q) (λ_ h=>au h) (λ_ h=>au h) (λ_ h=>au h) (λ_ h=>au h) (λ_ h=>au h) (λ_ _ _ h=>au h) (λ_ h=>au h) (λ_ h=>au h)) (λ_ h=>au h) (λx=>C.casesOn (motive_1:=λc=>kz (.bA y) (.int x) c=some d->jD (.bA y) (.int x) c d) c (λh=>w4 h λq=>.p' _ _ q) (λ_ h=>au h) (λ_ h=>au h) (λ_ h=>au h) (λ_ h=>au h) (λ_ h=>au h) (λ_ h=>au h) (λ_ h=>au h) (λ_ _ _ h=>au h) (λ_ h=>au h) (λ_ h=>au h)) (λ_ h=>au h) (λ_ h=>au h) (λ_ h=>au h) (λ_ h=>au h) (λ_ h=>au h) (λ_ _ _ h=>au h) (λ_ h=>au h) (λ_ h=>au h)) (λy=>C.casesOn (motive_1:=λb=>kz (.bB y) b c=some d->jD (.bB y) b c d) b (C.casesOn (motive_1:=λc=>kz (.bB y) (.none) c=some d->jD (.bB y) (.none) c d) c (λh=>au h) (λ_ h=>au h) (λ_ h=>w4 h λq=>.bO _ _ q) (λ_ h=>au h) (λ_ h=>au h) (λ_ h=>au h) (λ_ h=>au h) (λ_ h=>au h) (λ_ _ _ h=>au h) (λ_ h=>au h) (λ_ h=>au h)) (λ_ h=>au h) (λ_ h=>au h) (λ_ h=>au h) (λ_ h=>au h) (λ_ h=>au h) (λ_ h=>au h) (λ_ h=>au h) (λ_ _ _ h=>au h) (λ_ h=>au h) (λ_ h=>au h)) (λ_ h=>au h) (λ_ _ _ h=>au h) (λ_ h=>au h) (λ_ h=>au h) h
theorem acV{b:List UInt8}{aj:Int}(ai:0<=aj):KBy.picked b.toArray none (some aj)=(b.take aj.toNat).toArray:=by
 rw[KBc.picked_eq]
 obtain⟨aj,rfl⟩:=qh ai
 simp only[Option.elim,clipAt_nat,List.drop_zero,Nat.sub_zero,tv,mA]
 rcases yi aj b.length with q|q
 .rw[Nat.min_eq_left q]
 .rw[Nat.min_eq_right q,BL q,BL (bF _)]
theorem acW{b:List UInt8}{aj:Int}(ai:0<=aj):KBy.picked b.toArray (some aj) none=(b.drop aj.toNat).toArray:=by
 rw[KBc.picked_eq]
 obtain⟨aj,rfl⟩:=qh ai
 simp only[Option.elim,clipAt_nat,tv,mA]
 rcases yi aj b.length with q|q
 .rw[Nat.min_eq_left q,BL (by simp)]
 .rw[Nat.min_eq_right q,List.drop_of_length_le (bF _),List.drop_of_length_le q];simp
theorem uL{n:Nat}(h:n<=1000000):n<=hj:=cI h (by decide)
theorem aeG{value:bX}{lower upper:Option bX}{p:bz}{A:b8}{cf:ag}{aa:Loc}{dz:St}{s:aB}{aU:a9}{df:Nat}{d5 dR eG:af}{Q E:af->aB->Prop}(eM:bT prog w h₁ own env ns cf aa dz (aU.push {cls:=.type "slice",data:=.fields #[dR,eG,.none]}))(hM:(aU.push {cls:=.type "slice",data:=.fields #[dR,eG,.none]}).IsSliceOf aU.objs.size dR eG .none){b:List UInt8}{aj:Int}(h:0<=aj/\b.length<=1000000)
 (bo:aQ prog w cf dz.next (.bytes b) d5)(bY:aQ prog w cf dz.next .none dR)(ea:aQ prog w cf dz.next (.int aj) eG)(aW:d8 prog w h₁ (aQ prog w) own env ns cf aa dz s Q (.bytes (b.take aj.toNat)) dz):
 wpAny (bp prog w) A (qt value (.Slice lower upper .none p) d5 (.ref aU.objs.size)) Q E {s with heap:=aU.push {cls:=.type "slice",data:=.fields #[dR,eG,.none]},toks:=df}:=by
 obtain⟨t,bj⟩:=bo.bt
 have bg:dR=.none:=bY.bt
 obtain⟨u,e3⟩:=ea.bt
 rw[bg,e3] at hM eM⊢
 rw[bj]
 refine qv (ov _ _ _) Bq.lookup (getItem_meets (ov _ _ _) (by decide) Bq FB.entry_bytes_getitem (FB.args_bytes_getitem_2 _ _) (KBc.meets_slice2 b.toArray t _ .none (.int aj u))
  ⟨hM,cI (KBc.size_picked_le _ _ _) (uL h.2),λeR k=>?_⟩) rfl
 rw[acV h.1]
 exact aW cf _ _ _ ag.le.refl (bF _) eM (.bytes _ _)
theorem aeH{value:bX}{lower upper:Option bX}{p:bz}{A:b8}{cf:ag}{aa:Loc}{dz:St}{s:aB}{aU:a9}{df:Nat}{d5 dR eG:af}{Q E:af->aB->Prop}(eM:bT prog w h₁ own env ns cf aa dz (aU.push {cls:=.type "slice",data:=.fields #[dR,eG,.none]}))(hM:(aU.push {cls:=.type "slice",data:=.fields #[dR,eG,.none]}).IsSliceOf aU.objs.size dR eG .none){b:List UInt8}{aj:Int}(h:0<=aj/\b.length<=1000000)
 (bo:aQ prog w cf dz.next (.bytes b) d5)(bY:aQ prog w cf dz.next (.int aj) dR)(ea:aQ prog w cf dz.next .none eG)(aW:d8 prog w h₁ (aQ prog w) own env ns cf aa dz s Q (.bytes (b.drop aj.toNat)) dz):
 wpAny (bp prog w) A (qt value (.Slice lower upper .none p) d5 (.ref aU.objs.size)) Q E {s with heap:=aU.push {cls:=.type "slice",data:=.fields #[dR,eG,.none]},toks:=df}:=by
 obtain⟨t,bj⟩:=bo.bt
 have e3:eG=.none:=ea.bt
 obtain⟨u,bg⟩:=bY.bt
 rw[bg,e3] at hM eM⊢
 rw[bj]
 refine qv (ov _ _ _) Bq.lookup (getItem_meets (ov _ _ _) (by decide) Bq FB.entry_bytes_getitem (FB.args_bytes_getitem_2 _ _) (KBc.meets_slice2 b.toArray t _ (.int aj u) .none)
  ⟨hM,cI (KBc.size_picked_le _ _ _) (uL h.2),λeR k=>?_⟩) rfl
 rw[acW h.1]
 exact aW cf _ _ _ ag.le.refl (bF _) eM (.bytes _ _)
theorem aeJ{value:bX}{lower upper:Option bX}{p:bz}{A:b8}{cf:ag}{aa:Loc}{dz:St}{s:aB}{aU:a9}{df:Nat}{d5 dR eG:af}{Q E:af->aB->Prop}(eM:bT prog w h₁ own env ns cf aa dz (aU.push {cls:=.type "slice",data:=.fields #[dR,eG,.none]}))(hM:(aU.push {cls:=.type "slice",data:=.fields #[dR,eG,.none]}).IsSliceOf aU.objs.size dR eG .none){vs:List C}{aj:Int}(h:1<=aj/\aj.toNat<=vs.length/\vs.length<=1000000)
 (bo:aQ prog w cf dz.next (.bA vs) d5)(bY:aQ prog w cf dz.next (.int aj) dR)(ea:aQ prog w cf dz.next .none eG)(aW:d8 prog w h₁ (aQ prog w) own env ns cf aa dz s Q (.bA (vs.drop aj.toNat)) dz):
 wpAny (bp prog w) A (qt value (.Slice lower upper .none p) d5 (.ref aU.objs.size)) Q E {s with heap:=aU.push {cls:=.type "slice",data:=.fields #[dR,eG,.none]},toks:=df}:=by
 have e3:eG=.none:=ea.bt
 obtain⟨u,bg⟩:=bY.bt
 rw[bg,e3] at hM eM⊢
 obtain⟨l,items,m,bj,OR,cB,cM⟩:=bo.lM eM.bW
 rw[bj]
 have fJ:items.size=vs.length:=by rw[<-fN];exact cM.length
 obtain⟨aj,rfl⟩:=qh (Int.le_trans (by decide) h.1)
 refine qv (T:="tuple") ⟨_,cB,rfl⟩ Hv.lookup (getItem_tuple_from (a:=aj) ⟨_,cB,rfl,_,rfl⟩ hM (Int.ofNat_le.mp h.1) (fJ▸h.2.1) ?_ (fJ▸uL h.2.2)) rfl
 obtain⟨fO,iO⟩:=eM.i2 {cls:=.type "tuple",data:=.seq (items.toList.drop aj).toArray} rfl
 exact aW _ _ _ df iO (bF _) fO (.bA (k:=0) ag.dv ((cM.drop aj).bb iO.1 (bF _)))
theorem aeK{value:bX}{lower upper:Option bX}{p:bz}{A:b8}{cf:ag}{aa:Loc}{dz:St}{s:aB}{aU:a9}{df:Nat}{d5 dR eG:af}{Q E:af->aB->Prop}(eM:bT prog w h₁ own env ns cf aa dz (aU.push {cls:=.type "slice",data:=.fields #[dR,eG,.none]}))(hM:(aU.push {cls:=.type "slice",data:=.fields #[dR,eG,.none]}).IsSliceOf aU.objs.size dR eG .none){vs:List C}{aj:Int}(h:aj= -1/\1<=vs.length/\vs.length<=1000000)
 (bo:aQ prog w cf dz.next (.bA vs) d5)(bY:aQ prog w cf dz.next .none dR)(ea:aQ prog w cf dz.next (.int aj) eG)(aW:d8 prog w h₁ (aQ prog w) own env ns cf aa dz s Q (.bA (vs.take (vs.length-1))) dz):
 wpAny (bp prog w) A (qt value (.Slice lower upper .none p) d5 (.ref aU.objs.size)) Q E {s with heap:=aU.push {cls:=.type "slice",data:=.fields #[dR,eG,.none]},toks:=df}:=by
 have bg:dR=.none:=bY.bt
 obtain⟨u,e3⟩:=ea.bt
 rw[h.1] at e3
 rw[bg,e3] at hM eM⊢
 obtain⟨l,items,m,bj,OR,cB,cM⟩:=bo.lM eM.bW
 rw[bj]
 have fJ:items.size=vs.length:=by rw[<-fN];exact cM.length
 have cE:=cM.take (vs.length-1)
 rw[<-fJ] at cE aW
 refine qv (T:="tuple") ⟨_,cB,rfl⟩ Hv.lookup (VP ⟨_,cB,rfl,_,rfl⟩ hM (fJ▸h.2.1) ?_ (fJ▸uL h.2.2)) rfl
 obtain⟨fO,iO⟩:=eM.i2 {cls:=.type "tuple",data:=.seq (items.toList.take (items.size-1)).toArray} rfl
 exact aW _ _ _ df iO (bF _) fO (.bA (k:=0) ag.dv (cE.bb iO.1 (bF _)))
theorem aeI{value:bX}{lower upper:Option bX}{p:bz}{A:b8}{cf:ag}{aa:Loc}{dz:St}{s:aB}{aU:a9}{df:Nat}{d5 dR eG:af}{Q E:af->aB->Prop}(eM:bT prog w h₁ own env ns cf aa dz (aU.push {cls:=.type "slice",data:=.fields #[dR,eG,.none]}))(hM:(aU.push {cls:=.type "slice",data:=.fields #[dR,eG,.none]}).IsSliceOf aU.objs.size dR eG .none){vs:List C}{aj:Int}(h:0<=aj/\vs.length<=1000000)
 (bo:aQ prog w cf dz.next (.bB vs) d5)(bY:aQ prog w cf dz.next .none dR)(ea:aQ prog w cf dz.next (.int aj) eG)(aW:d8 prog w h₁ (aQ prog w) own env ns cf aa dz s Q (.bB (vs.take aj.toNat)) dz):
 wpAny (bp prog w) A (qt value (.Slice lower upper .none p) d5 (.ref aU.objs.size)) Q E {s with heap:=aU.push {cls:=.type "slice",data:=.fields #[dR,eG,.none]},toks:=df}:=by
 have bg:dR=.none:=bY.bt
 obtain⟨u,e3⟩:=ea.bt
 rw[bg,e3] at hM eM⊢
 obtain⟨l,items,bj,cB,cM⟩:=ik eM.bW bo rfl
 rw[bj]
 have fJ:items.size=vs.length:=by rw[<-fN];exact cM.length
 obtain⟨aj,rfl⟩:=qh h.1
 refine qv (Heap.IsList.typeIs (s:={s with heap:=aU.push {cls:=.type "slice",data:=.fields #[.none,.int aj u,.none]},toks:=df}) cB) list_getitem_lookup (wpAny_getItem_list_slice cB hM .none (.int _ _) .none (by simp) ?_ (fJ▸uL h.2)) rfl
 rw[slicePick_upto']
 obtain⟨fO,iO⟩:=eM.i2 {cls:=.type "list",data:=.seq (items.toList.take aj).toArray} rfl
 exact aW _ _ _ df iO (bF _) fO (.bB ag.dv rfl rfl ((cM.take aj).bb iO.1 (bF _)))
theorem aeM{value:bX}{lower upper:Option bX}{p:bz}{A:b8}{cf:ag}{aa:Loc}{dz:St}{s:aB}{aU:a9}{df:Nat}{eS hO qa vd:C}{d5 dR eG:af}{Q E:af->aB->Prop}(dO:bT prog w h₁ own env ns cf aa dz aU)
 (bo:aQ prog w cf dz.next eS d5)(bY:aQ prog w cf dz.next hO dR)(ea:aQ prog w cf dz.next qa eG)(gO:kz eS hO qa=some vd)
 (aW:d8 prog w h₁ (aQ prog w) own env ns cf aa dz s Q vd dz):wpAny (bp prog w) A (qt value (.Slice lower upper .none p) d5 (.ref aU.objs.size)) Q E {s with heap:=aU.push {cls:=.type "slice",data:=.fields #[dR,eG,.none]},toks:=df}:=
 have eM:=dO.me (h':=aU.push {cls:=.type "slice",data:=.fields #[dR,eG,.none]}) λb o e=>jR _ e
 have hM:(aU.push {cls:=.type "slice",data:=.fields #[dR,eG,.none]}).IsSliceOf aU.objs.size dR eG .none:=Heap.IsSliceOf.new _ _ _ _
 jD.casesOn (motive:=λeS hO qa vd _=>aQ prog w cf dz.next eS d5->aQ prog w cf dz.next hO dR->aQ prog w cf dz.next qa eG->d8 prog w h₁ (aQ prog w) own env ns cf aa dz s Q vd dz->wpAny (bp prog w) A (qt value (.Slice lower upper .none p) d5 (.ref aU.objs.size)) Q E {s with heap:=aU.push {cls:=.type "slice",data:=.fields #[dR,eG,.none]},toks:=df}) (jD.of gO)
  (λ_ _ h=>aeG eM hM h) (λ_ _ h=>aeH eM hM h) (λ_ _ h=>aeJ eM hM h) (λ_ _ h=>aeK eM hM h) (λ_ _ h=>aeI eM hM h) bo bY ea aW
theorem qV{value:bX}{lower upper:Option bX}{p pos:bz}{D y3 y5:cy}(h:bx prog w h₁ own env ns k (aR value env) D)(aJ:bx prog w h₁ own env ns k (evalPart lower env) y3)(bZ:bx prog w h₁ own env ns k (evalPart upper env) y5):
 bx prog w h₁ own env ns k (aR (.Subscript value (.Slice lower upper .none p) pos) env) (j' D y3 y5):=
 .of λA W aa σ s Q E aH ar R=>PR (h.go aH ar.bind R λeS cH ar bC d5 h1 c0 bO ab bK bo=>afM (aJ.go aH (aM.bind ar) bK λhO bN ar bR dR h2 tk2 bh aF cQ bY=>bZ.go aH (aM.bind ar) cQ λqa dz ar cf eG aU df dh bE dO ea=>by
  obtain⟨vd,gO,aW⟩:=(aM.map ar).cR
  exact wpN.of<|aeM dO ((bo.bb bh.1 aF).bb dh.1 bE) (bY.bb dh.1 bE) ea gO λW' ax h' c6 l n ed cu=>aW W' ax h' c6 (((bO.trans ab bh).trans (cI ab aF) dh).trans (cI ab (cI aF bE)) l) (cI ab (cI aF bE)) ed cu))
end Internal
namespace Internal
open PySem PySem.W PyProof.Rows PySem.Calls PySem.SeqAt
variable{prog:cD}{w:cm}{h₁:a9}{K:fH}{own:Bool}{env:dc}{ns:List aV}{k:Nat}
noncomputable def d0{dX:Type}[DecidableEq dX](es:List (dX×C))(k:dX)(v:C):List (dX×C):=
 if es.any (λe=>decide (e.1=k))=true then es.map (λe=>if e.1=k then(e.1,v) else e) else es++[(k,v)]
theorem eW.append{W:ag}{n:Nat}{k:aT}{v:C}{ax:af}(h:aQ prog w W n v ax){es:List (aT×C)}{kvs:List (aT×af)}(r:eW prog w W n es kvs):eW prog w W n (es++[(k,v)]) (kvs++[(k,ax)]):=
 r.ind (P:=λes kvs=>eW prog w W n (es++[(k,v)]) (kvs++[(k,ax)])) (.cons h .nil) λa _ a7=>.cons a a7
theorem eW.aY{W:ag}{n:Nat}{k:aT}{v:C}{ax:af}(h:aQ prog w W n v ax){es:List (aT×C)}{kvs:List (aT×af)}(r:eW prog w W n es kvs):
 eW prog w W n (es.map λe=>if e.1=k then(e.1,v) else e) (kvs.map λe=>if e.1=k then(e.1,ax) else e)/\(es.any (λe=>decide (e.1=k))=kvs.any (λe=>decide (e.1=k))):=
 r.ind (P:=λes kvs=>eW prog w W n (es.map λe=>if e.1=k then(e.1,v) else e) (kvs.map λe=>if e.1=k then(e.1,ax) else e)/\(es.any (λe=>decide (e.1=k))=kvs.any (λe=>decide (e.1=k)))) ⟨.nil,rfl⟩
  λ{q _ _ _ _} a _ a7=>⟨by
   rw[jw,jw]
   by_cases e:q=k
   .rw[if_pos e,if_pos e];exact .cons h a7.1
   .rw[if_neg e,if_neg e];exact .cons a a7.1,by rw[List.any_cons,List.any_cons,a7.2]⟩
theorem eW.set{W:ag}{n:Nat}{k:aT}{v:C}{ax:af}(h:aQ prog w W n v ax){es:List (aT×C)}{kvs:List (aT×af)}(q:eW prog w W n es kvs):eW prog w W n (d0 es k v) (stored kvs k ax):=by
 obtain⟨h1,h2⟩:=q.aY h (k:=k)
 unfold d0 stored
 by_cases e:es.any (λe=>decide (e.1=k))=true
 .rw[if_pos e,if_pos (by rw[<-h2];exact e)];exact h1
 .rw[if_neg e,if_neg (by rw[<-h2];exact e)];exact q.append h
theorem TRel.append{W:ag}{n:Nat}{k:List aT}{a:a6}{v:C}{ax:af}(hk:nM prog w W k a)(h:aQ prog w W n v ax){es:List (List aT×C)}{xs:List (List aT×a6×af)}(r:TRel prog w W n es xs):TRel prog w W n (es++[(k,v)]) (xs++[(k,a,ax)]):=
 r.ind (P:=λes xs=>TRel prog w W n (es++[(k,v)]) (xs++[(k,a,ax)])) ⟨rfl,hk,h,trivial⟩ λf g _ a7=>⟨rfl,f,g,a7⟩
theorem TRel.aY{W:ag}{n:Nat}{k:List aT}{v:C}{ax:af}(h:aQ prog w W n v ax){es:List (List aT×C)}{xs:List (List aT×a6×af)}(r:TRel prog w W n es xs):
 TRel prog w W n (es.map λe=>if e.1=k then(e.1,v) else e) (xs.map (putAt k ax))/\(es.any (λe=>decide (e.1=k))=(iX xs k).isSome):=
 r.ind (P:=λes xs=>TRel prog w W n (es.map λe=>if e.1=k then(e.1,v) else e) (xs.map (putAt k ax))/\(es.any (λe=>decide (e.1=k))=(iX xs k).isSome)) ⟨trivial,rfl⟩
  λ{q _ a kB es xs} f g _ a7=>by
   refine⟨?_,?_⟩
   .rw[jw,jw]
    unfold putAt
    by_cases e:q=k
    .rw[if_pos e,if_pos e];exact⟨rfl,f,h,a7.1⟩
    .rw[if_neg e,if_neg e];exact⟨rfl,f,g,a7.1⟩
   .rw[List.any_cons,a7.2]
    by_cases e:q=k
    .rw[show iX ((q,a,kB)::xs) k=some (a,kB) by simp[iX,e],decide_eq_true e];rfl
    .rw[show iX ((q,a,kB)::xs) k=iX xs k by simp[iX,e],decide_eq_false e,Bool.false_or]
theorem TRel.set{W:ag}{n:Nat}{k:List aT}{a:a6}{v:C}{ax:af}(hk:nM prog w W k a)(h:aQ prog w W n v ax){es:List (List aT×C)}{xs:List (List aT×a6×af)}(q:TRel prog w W n es xs):
 TRel prog w W n (d0 es k v) (storedH xs k a ax):=by
 obtain⟨h1,h2⟩:=TRel.aY h (k:=k) q
 unfold d0
 cases e:iX xs k with
 |none=>rw[storedH_new e,if_neg (by rw[h2,e];decide)];exact q.append hk h
 |some p=>rw[storedH_old e,if_pos (by rw[h2,e];rfl)];exact h1
noncomputable def lF(o i v:C)(σ:St):Option St:=match o with
 |.ref c=>match σ.cells c with
  |some (.list vs)=>(match i with
   |.int aj=>if 0<=aj/\aj<2^63/\aj.toNat<vs.length then some (σ.aY c (.list (vs.set aj.toNat v))) else none
   |_=>none)
  |some (.cJ es)=>(toAtom i).bind λk=>if es.length<=1000000 then some (σ.aY c (.cJ (d0 es k v))) else none
  |some (.cv es)=>(toKey i).bind λk=>if es.length<=1000000 then some (σ.aY c (.cv (d0 es k v))) else none
  |_=>none
 |_=>none
theorem bT.oh{W:ag}{aa:Loc}{σ:St}{h h':a9}{c:Nat}{x y:cO}(R:bT prog w h₁ own env ns W aa σ h)(az:σ.cells c=some x)(hs:iF (W.al c) h h')(bQ:CellAt prog w W σ.next h' c (W.al c) y):
 bT prog w h₁ own env ns W aa (σ.aY c y) h':=by
 have e1:=(R.bW.cell c x az).1
 exact R.next (R.bW.oh az hs bQ) ag.le.refl (bF _) λa ha=>hs.2 a (by rintro rfl;exact bS.no e1 ha)
theorem aex{A:b8}{E:af->aB->Prop}{s:aB}{l:a6}{items:Array af}{n:Nat}{k:Int}{t:d4}{v:af}{Q:Unit->aB->Prop}(aJ:s.heap.get? l=some (listOf items n))(ao:0<=k)(L0:k<2^63)(c2:k<items.size)
 (aW:∀h' gu,h'.get? l=some (listOf (items.setIfInBounds k.toNat v) gu)->iF l s.heap h'->Q () {s with heap:=h'}):wpAny (bp prog w) A (setItem (.ref l) (.int k t) v) Q E s:=by
 have fR:s.heap.IsList l items:=⟨_,aJ,rfl,n,rfl⟩
 have aD:(listOf items n).data=.seq items n:=rfl
 unfold setItem
 try with_reducible refine ke ?_
 first|refine aP (bI ?_)|skip
 refine aP (wpAny_sequenceKey fR.typeIs (by decide) ?_)
 refine aP (tE (name:=yn "__setitem__") fR.typeIs slot_list_setitem (lX slot_list_setitem fR.typeIs entry_list_setitem ?_ (args_list_setitem _ _ _)))
 show wpAny _ _ (Builtin.List.listSubscript? (.int k t)>>=_) _ _ s
 refine aP (wpAny_listSubscript_int (fitsIndex_of ao L0) ?_)
 clear L0
 obtain⟨aj,rfl⟩:=qh ao
 have c2:aj<items.size:=by exact aE.aaI c2
 have kX:items[aj]? =some items[aj]:=rE c2
 show wpAny _ _ ((seqItemAt l aj>>=λr=>pure (r.map (aj,·)))>>=_) _ _ s
 refine aP (aP (wpAny_seqItemAt aJ aD (bI ?_)))
 rw[kX]
 show wpAny _ _ (setSeqItemAt l aj v>>=_) _ _ s
 obtain⟨gu,e8⟩:=Obj.data_mapSeq aD (·.setIfInBounds aj v)
 have e:mC (·.setIfInBounds aj v) (listOf items n)=listOf (items.setIfInBounds aj v) gu:=by
  have h2:(mC (·.setIfInBounds aj v) (listOf items n))={(listOf items n) with data:=(mC (·.setIfInBounds aj v) (listOf items n)).data}:=rfl
  rw[h2,e8]
 have wO:(s.heap.update l (mC (·.setIfInBounds aj v))).get? l=some (listOf (items.setIfInBounds aj v) gu):=by
  rw[<-e];exact x9 _ aJ (Obj.isFreed_of_seq e8)
 refine aP (wpAny_setSeqItemAt aJ aD ?_)
 first
  |exact aP (bI (bI ⟨.none,rfl,bI (aW _ _ wO (nt ..))⟩))
  |exact bI ⟨.none,rfl,bI (aW _ _ wO (nt ..))⟩
inductive r6 (o i v:C) (σ a4:St):Prop
 |xh (c:Nat) (vs:List C) (aj:Int) (iM:o=.ref c) (hK:i=.int aj) (az:σ.cells c=some (.list vs)) (h:0<=aj/\aj<2^63/\aj.toNat<vs.length) (e:a4=σ.aY c (.list (vs.set aj.toNat v)))
 |ad (c:Nat) (es:List (aT×C)) (k:aT) (iM:o=.ref c) (az:σ.cells c=some (.cJ es)) (hk:toAtom i=some k) (h:es.length<=1000000) (e:a4=σ.aY c (.cJ (d0 es k v)))
 |tj (c:Nat) (es:List (List aT×C)) (k:List aT) (iM:o=.ref c) (az:σ.cells c=some (.cv es)) (hk:toKey i=some k) (h:es.length<=1000000) (e:a4=σ.aY c (.cv (d0 es k v)))
noncomputable def OJ(x:Option cO)(c:Nat)(i v:C)(σ:St):Option St:=match x with
 |some (.list vs)=>(match i with
  |.int aj=>if 0<=aj/\aj<2^63/\aj.toNat<vs.length then some (σ.aY c (.list (vs.set aj.toNat v))) else none
  |_=>none)
 |some (.cJ es)=>(toAtom i).bind λk=>if es.length<=1000000 then some (σ.aY c (.cJ (d0 es k v))) else none
 |some (.cv es)=>(toKey i).bind λk=>if es.length<=1000000 then some (σ.aY c (.cv (d0 es k v))) else none
 |_=>none
theorem uz{α:Type}{p:Prop}{d:Decidable p}{a b:α}(h:(if p then some a else none)=some b):p/\b=a:=by
 by_cases e:p
 .rw[if_pos e] at h;exact⟨e,(cx h).symm⟩
 .rw[if_neg e] at h;exact au h
theorem r6.gv{c:Nat}{i v:C}{σ a4:St}(h:OJ (σ.cells c) c i v σ=some a4):r6 (.ref c) i v σ a4:=by
 rcases az:σ.cells c with _|(vs|es|es|_|_)
 .rw[az] at h;exact au h
 .rw[az] at h
  exact C.casesOn (motive_1:=λi=>OJ (some (.list vs)) c i v σ=some a4->r6 (.ref c) i v σ a4) i (λh=>au h) (λ_ h=>au h) (λaj h=>have h:=uz h;.xh c vs aj rfl rfl az h.1 h.2) (λ_ h=>au h) (λ_ h=>au h) (λ_ h=>au h) (λ_ h=>au h) (λ_ h=>au h) (λ_ _ _ h=>au h) (λ_ h=>au h) (λ_ h=>au h) h
 .rw[az] at h
  obtain⟨k,hk,h⟩:=bind_some h
  have h:=uz h
  exact .ad c es k rfl az hk h.1 h.2
 .rw[az] at h
  obtain⟨k,hk,h⟩:=bind_some h
  have h:=uz h
  exact .tj c es k rfl az hk h.1 h.2
 .rw[az] at h;exact au h
 .rw[az] at h;exact au h
theorem r6.of{o i v:C}{σ a4:St}(h:lF o i v σ=some a4):r6 o i v σ a4:=
 C.casesOn (motive_1:=λo=>lF o i v σ=some a4->r6 o i v σ a4) o (λh=>au h) (λ_ h=>au h) (λ_ h=>au h) (λ_ h=>au h) (λ_ h=>au h) (λ_ h=>au h) (λ_ h=>au h) (λ_ h=>au h) (λ_ _ _ h=>au h) (λc h=>.gv h) (λ_ h=>au h) h
theorem mH.vb{h:a9}{a:a6}{kvs:List (aT×af)}(m:h.DictOf (ix prog w) a kvs):∃o,h.get? a=some o/\mH prog w o kvs:=by
 obtain⟨o,es,ep,g,oE,aD,hk,hp,a3⟩:=m;exact⟨o,g,oE,es,ep,aD,hk,hp,a3⟩
theorem qH.vb{h:a9}{a:a6}{xs:List (List aT×a6×af)}(m:h.DictOfH (tupK prog w) a xs):∃o,h.get? a=some o/\qH prog w o xs:=by
 obtain⟨o,es,ep,g,oE,aD,hk,_,a3⟩:=m;exact⟨o,g,oE,es,ep,aD,hk,a3⟩
theorem sZ{n m:Nat}(e:n=m)(h:m<=1000000):n<=hj:=e▸cI h (by decide)
theorem ac3{A:b8}{W:ag}{aa:Loc}{σ a4:St}{s:aB}{o i v:C}{c' kY ax:af}{Q:Unit->aB->Prop}{E:af->aB->Prop}(bZ:A.units+200<iY)(R:bT prog w h₁ own env ns W aa σ s.heap)
 (aK:aQ prog w W σ.next o c')(hi:aQ prog w W σ.next i kY)(a':aQ prog w W σ.next v ax)(hp:lF o i v σ=some a4)
 (aW:∀h' c6,a4.next=σ.next->bT prog w h₁ own env ns W aa a4 h'->Q () {s with heap:=h',toks:=c6}):wpAny (bp prog w) A (setItem c' kY ax) Q E s:=by
 refine fK λG cc=>?_
 rcases r6.of hp with⟨c,vs,aj,iM,hK,az,ai,e⟩|⟨c,es,k0,iM,az,hk,aJ,e⟩|⟨c,es,k0,iM,az,hk,aJ,e⟩
 .rw[iM] at aK
  rw[hK] at hi
  rw[e] at aW
  obtain⟨_,iM⟩:=aK.bt
  obtain⟨t,hK⟩:=hi.bt
  obtain⟨items,m,g,q⟩:=(R.bW.cell c _ az).2.bt
  have fJ:items.size=vs.length:=by rw[<-fN];exact q.length
  refine cc ?_
  rw[iM,hK]
  refine aex g ai.1 ai.2.1 (by rw[fJ];exact(Int.toNat_lt ai.1).mp ai.2.2) λh' gu iz hs=>aW h' s.toks rfl (R.oh az hs (.list iz ?_))
  rw[Array.toList_setIfInBounds]
  exact bH.set a' _ q
 .rw[iM] at aK
  rw[e] at aW
  obtain⟨_,iM⟩:=aK.bt
  obtain⟨_,_,g,z,d,q⟩:=(R.bW.cell c _ az).2.bt
  refine cc ?_
  rw[iM]
  refine wpAny_setItem_pairs (knd:=ix prog w) (toAtom_is hi hk) (d.b2 g) (λh' hm hs=>?_) (sZ q.length aJ)
  obtain⟨ee,g2,gV⟩:=mH.vb hm
  exact aW h' _ rfl (R.oh az hs (.cJ g2 z gV (q.set a')))
 .rw[iM] at aK
  rw[e] at aW
  obtain⟨_,iM⟩:=aK.bt
  obtain⟨a,hK,cw,sP⟩:=toKey_is R.bW hi hk
  obtain⟨_,_,g,z,d,q⟩:=(R.bW.cell c _ az).2.bt
  refine cc ?_
  rw[iM,hK]
  refine wpAny_setItem_heap (vI (iN bZ)) sP (d.b2 g q R.bW) (λh' hm hs=>?_) (sZ q.length aJ)
  obtain⟨ee,g2,gV⟩:=qH.vb hm
  exact aW h' _ rfl (R.oh az hs (.cv g2 z gV (q.set cw a')))
theorem PM{M:iJ}{A:b8}{E:af->aB->Prop}{s:aB}{o i value:bX}{iC pos:bz}{Q:gJ->aB->Prop}
 (h:wpN M A (aR value env) (λv bw=>wpN M A (aR o env) (λj9 dk=>wpN M A (aR i env) (λMx gg=>wpN M A (setItem j9 Mx v) (λ_=>Q .next) E gg) E dk) E bw) E s)
 (hs:autoParam (qu value (some (.Subscript o i iC)) pos.line env=pure false) aN._auto_1):wpN M A (hg (.Assign [.Subscript o i iC] value pos) env) Q E s:=by
 rw[exec_Assign_Subscript o i iC value pos hs]
 refine bc (eP (bc (cX h (λv bw h₁=>bc ?_) λ_ _ e=>e)))
 rw[assign_Subscript]
 exact bc (eK (cX h₁ (λj9 dk fh=>bc (eK (cX fh (λMx gg hY=>bc (eP (bc (eK (cX hY (λ_ _ sN=>.of (wpAny_release' (cS sN))) λ_ _ e=>e))))) λ_ _ e=>e))) λ_ _ e=>e))
noncomputable def iE(D fI o8:cy):ck:=λaa σ=>(D aa σ).bind λv=>(fI aa v.2).bind λo=>(o8 aa o.2).bind λi=>(lF o.1 i.1 v.1 i.2).map λa4=>(.next,aa,a4)
theorem p7{o i e:bX}{iC pos:bz}{D fI o8:cy}(h:bx prog w h₁ true env ns k (aR e env) D)(aK:bx prog w h₁ true env ns k (aR o env) fI)(hi:bx prog w h₁ true env ns k (aR i env) o8)
 (hs:autoParam (qu e (some (.Subscript o i iC)) pos.line env=pure false) aN._auto_1):SOk prog w h₁ env ns k (hg (.Assign [.Subscript o i iC] e pos) env) (iE D fI o8):=by
 refine .of λA W aa σ s Q E aH ar R=>PM (h.go aH ar.bind R λeS cH ar bC d5 h1 c0 bO ab bK bo=>aK.go aH (aM.bind ar) bK λhO bN ar bR dR h2 tk2 bh aF cQ bY=>hi.go aH (aM.bind ar) cQ λqa dz ar cf eG aU df dh bE dO ea=>?_) hs
 obtain⟨qg,gO,aW⟩:=(aM.map ar).cR
 exact wpN.of<|ac3 (s:={s with heap:=aU,toks:=df}) aH.line dO (bY.bb dh.1 bE) ea ((bo.bb bh.1 aF).bb dh.1 bE) gO λh' c6 en eM=>
  hl.to aW cf _ h' c6 ((bO.trans ab bh).trans (cI ab aF) dh) (by rw[en];exact cI ab (cI aF bE)) eM trivial
end Internal
namespace Internal
open PySem PySem.W PyProof.Rows PySem.Calls PySem.SeqAt
variable{prog:cD}{w:cm}{h₁:a9}{K:fH}{own:Bool}{env:dc}{ns:List aV}{k:Nat}
theorem I8{W:ag}{n:Nat}{h:a9}{c:Nat}{o:bM}(aK:o={cls:=.type "dict",data:=.dict #[]})(z:(h.objs.size==hD)=false):CellAt prog w W n (h.push o) c h.objs.size (.cJ []):=by
 subst aK
 exact .cJ (hA _ rfl) z ⟨⟨rfl,rfl,rfl⟩, #[],0,rfl,λe cj=>by simp at cj,.nil,ql⟩ .nil
theorem ae8{W:ag}{n:Nat}{h:a9}{c:Nat}{o:bM}(aK:o={cls:=.type "dict",data:=.dict #[]})(z:(h.objs.size==hD)=false):CellAt prog w W n (h.push o) c h.objs.size (.cv []):=by
 subst aK
 exact .cv (xs:=[]) (hA _ rfl) z ⟨⟨rfl,rfl,rfl⟩, #[],0,rfl,rfl,ql⟩ trivial
inductive kj:cO->Prop
 |a:kj (.cJ [])
 |t:kj (.cv [])
theorem kj.at{x:cO}(e:kj x){W:ag}{n:Nat}{h:a9}{c:Nat}(z:(h.objs.size==hD)=false):CellAt prog w W n (h.push {cls:=.type "dict",data:=.dict #[]}) c h.objs.size x:=by
 cases e
 .exact I8 rfl z
 .exact ae8 rfl z
noncomputable def hW(x:cO):cy:=λ_ σ=>some (.ref σ.next,σ.new x)
theorem nQ{pos:bz}{x:cO}(ay:kj x):bx prog w h₁ own env ns k (aR (.Dict [] [] pos) env) (hW x):=
 .of λA W aa σ s Q E aH ar R=>wpN.of<|wpAny_Dict_empty<|by
 obtain⟨cQ,bh⟩:=R.cell {cls:=.type "dict",data:=.dict #[]} x rfl (ay.at R.bW.fresh)
 exact d8.to ar _ _ _ s.toks bh (hb _) cQ F4
noncomputable abbrev qE:=Loc->St->Option (List (C×C)×St)
noncomputable def IW(W:ag)(n:Nat)(vs:List (C×C))(bG:List (af×af)):Prop:=bH prog w W n (vs.map (·.1)) (bG.map (·.1))/\bH prog w W n (vs.map (·.2)) (bG.map (·.2))
noncomputable def mr:qE:=λ_ σ=>some ([],σ)
noncomputable def h9(rS mJ:cy)(P:qE):qE:=λaa σ=>(rS aa σ).bind λk=>(mJ aa k.2).bind λv=>(P aa v.2).bind λr=>some ((k.1,v.1)::r.1,r.2)
noncomputable abbrev r5(prog:cD)(w:cm)(h₁:a9):=@TOk prog w h₁ (List (af×af)) (List (C×C)) (IW (prog:=prog) (w:=w))
theorem acN:r5 prog w h₁ own env ns k (qr []) mr:=.of λA W aa σ s Q E aH ar R=>cS (d8.at ar R ⟨.nil,.nil⟩ s.toks)
theorem acJ{xb xX:bX}{pos:bz}{rest:List (c8 af×c8 af)}{rS mJ:cy}{P:qE}(hk:bx prog w h₁ own env ns k (aR xb env) rS)(a':bx prog w h₁ own env ns k (aR xX env) mJ)(aL:r5 prog w h₁ own env ns k (qr rest) P):
 r5 prog w h₁ own env ns k (qr ((aR xb env,do let x<-aR xX env;lW pos;pure x)::rest)) (h9 rS mJ P):=by
 refine .of λA W aa σ s Q E aH ar R=>?_
 unfold qr
 exact bc (hk.go aH ar.bind R λeS cH ar bC d5 h1 c0 bO ab bK bo=>bc (eK (bc (a'.go aH (aM.bind ar) bK λhO bN ar bR dR h2 tk2 bh aF cQ bY=>bc (eP (cS (
  bc (eK (aL.go aH (aM.bind ar) cQ λvs dz ar cf bG aU df dh bE dO ea=>cS (
  d8.to ar cf _ aU df ((bO.trans ab bh).trans (cI ab aF) dh) (cI ab (cI aF bE)) dO ⟨.cons ((bo.bb bh.1 aF).bb dh.1 bE) ea.1,.cons (bY.bb dh.1 bE) ea.2⟩))))))))))
noncomputable def pk(c:Nat)(i v:C)(σ:St):Option St:=match σ.cells c with
 |some (.cJ es)=>(toAtom i).bind λk=>if es.length<=1000000 then some (σ.aY c (.cJ (d0 es k v))) else none
 |some (.cv es)=>(toKey i).bind λk=>if es.length<=1000000 then some (σ.aY c (.cv (d0 es k v))) else none
 |_=>none
noncomputable def qU(c:Nat):List (C×C)->St->Option St
 |[],σ=>some σ
 |(i,v)::r,σ=>(pk c i v σ).bind (qU c r)
inductive Ce (c:Nat) (i v:C) (σ a4:St):Prop
 |ad (es:List (aT×C)) (k:aT) (az:σ.cells c=some (.cJ es)) (hk:toAtom i=some k) (h:es.length<=1000000) (e:a4=σ.aY c (.cJ (d0 es k v)))
 |tj (es:List (List aT×C)) (k:List aT) (az:σ.cells c=some (.cv es)) (hk:toKey i=some k) (h:es.length<=1000000) (e:a4=σ.aY c (.cv (d0 es k v)))
noncomputable def T6(x:Option cO)(c:Nat)(i v:C)(σ:St):Option St:=match x with
 |some (.cJ es)=>(toAtom i).bind λk=>if es.length<=1000000 then some (σ.aY c (.cJ (d0 es k v))) else none
 |some (.cv es)=>(toKey i).bind λk=>if es.length<=1000000 then some (σ.aY c (.cv (d0 es k v))) else none
 |_=>none
theorem Ce.of{c:Nat}{i v:C}{σ a4:St}(h:pk c i v σ=some a4):Ce c i v σ a4:=by
 have h:T6 (σ.cells c) c i v σ=some a4:=h
 rcases az:σ.cells c with _|(vs|es|es|_|_)
 .rw[az] at h;exact au h
 .rw[az] at h;exact au h
 .rw[az] at h
  obtain⟨k,hk,h⟩:=bind_some h
  have h:=uz h
  exact .ad es k az hk h.1 h.2
 .rw[az] at h
  obtain⟨k,hk,h⟩:=bind_some h
  have h:=uz h
  exact .tj es k az hk h.1 h.2
 .rw[az] at h;exact au h
 .rw[az] at h;exact au h
theorem T7{A:b8}{W:ag}{aa:Loc}{σ a4:St}{s:aB}{c:Nat}{i v:C}{kY ax:af}{Q:Unit->aB->Prop}{E:af->aB->Prop}(bZ:A.units+200<iY)(R:bT prog w h₁ own env ns W aa σ s.heap)
 (hi:aQ prog w W σ.next i kY)(a':aQ prog w W σ.next v ax)(hp:pk c i v σ=some a4)
 (aW:∀h' c6,a4.next=σ.next->bT prog w h₁ own env ns W aa a4 h'->Q () {s with heap:=h',toks:=c6}):wpAny (bp prog w) A (dictSet (W.al c) kY ax) Q E s:=by
 refine fK λG cc=>?_
 rcases Ce.of hp with⟨es,k0,az,hk,aJ,e⟩|⟨es,k0,az,hk,aJ,e⟩
 .rw[e] at aW
  obtain⟨_,_,g,z,d,q⟩:=(R.bW.cell c _ az).2.bt
  refine cc<|wpAny_dictSet_pairs (knd:=ix prog w) (toAtom_is hi hk) (d.b2 g) (λh' hm hs=>?_) (sZ q.length aJ)
  obtain⟨ee,g2,gV⟩:=mH.vb hm
  exact aW h' _ rfl (R.oh az hs (.cJ g2 z gV (q.set a')))
 .rw[e] at aW
  obtain⟨a,hK,cw,sP⟩:=toKey_is R.bW hi hk
  obtain⟨_,_,g,z,d,q⟩:=(R.bW.cell c _ az).2.bt
  refine cc ?_
  rw[hK]
  refine wpAny_dictSet_heap (iN (k:=0) bZ) sP (d.b2 g q R.bW) (λh' hm hs=>?_) (sZ q.length aJ)
  obtain⟨ee,g2,gV⟩:=qH.vb hm
  exact aW h' _ rfl (R.oh az hs (.cv g2 z gV (q.set cw a')))
theorem T9{A:b8}{W:ag}{aa:Loc}{c:Nat}{E:af->aB->Prop}(bZ:A.units+200<iY){vs:List (C×C)}:∀{bG:List (af×af)} {σ a4:St} {s:aB} {Q:Unit->aB->Prop},bT prog w h₁ own env ns W aa σ s.heap->IW (prog:=prog) (w:=w) W σ.next vs bG->qU c vs σ=some a4->
 (∀h' c6,a4.next=σ.next->bT prog w h₁ own env ns W aa a4 h'->Q () {s with heap:=h',toks:=c6})->wpAny (bp prog w) A (storeAll (W.al c) bG) Q E s:=by
 induction vs with
 |nil=>
  intro bG σ a4 s Q R r h aW
  rw[show bG=[] from Hq.mp r.1.bt]
  rw[<-cx h] at aW
  exact bI (aW s.heap s.toks rfl R)
 |cons p vs a7=>
  intro bG σ a4 s Q R r h aW
  obtain⟨cH,h1,h⟩:=bind_some (show(pk c p.1 p.2 σ).bind _=some a4 from h)
  rcases bG with _|⟨jM,bG⟩
  .exact nomatch r.1.length
  .have a:=r.1.vc
   have b:=r.2.vc
   unfold storeAll
   rw[List.forIn_cons]
   refine aP (aP (T7 bZ R a.1 b.1 h1 λh' c6 en ed=>bI ?_))
   refine a7 (s:={s with heap:=h',toks:=c6}) ed ?_ h λh2 tk2 Uq cQ=>aW h2 tk2 (Uq.trans en) cQ
   rw[en];exact⟨a.2,b.2⟩
noncomputable def mT(x:cO)(P:qE):cy:=λaa σ=>(P aa (σ.new x)).bind λr=>(qU σ.next r.1 r.2).map λa4=>(.ref σ.next,a4)
theorem afI{A:b8}{E:af->aB->Prop}{s:aB}{i5:List (Option bX)}{values:List bX}{pos:bz}{Q:af->aB->Prop}(sr:i5.all (·.isSome)=true)(aJ:i5.length=values.length)(ao:i5≠[])(dP:i5.length<=15)
 (h:wpN (bp prog w) A (qr (tD i5 values env pos)) (λvs bw=>wpN (bp prog w) A (storeAll s.heap.objs.size vs) (λ_ dk=>Q (.ref s.heap.objs.size) dk) E bw) E
   {s with heap:=s.heap.push {cls:=.type "dict",data:=.dict #[]}}):
 wpN (bp prog w) A (aR (.Dict i5 values pos) env) Q E s:=by
 have a3:=pairTrees_length i5 values env pos sr aJ
 have W3:tD i5 values env pos≠[]:=by
  intro cj
  rw[cj] at a3
  exact ao (BD.mp a3.symm)
 rw[arm_eval_Dict,zip_pairTrees i5 values env pos sr aJ,dictDisplay_pairs _ W3 (by rw[a3];exact aE.aaQ dP)]
 refine bc (eP (bc ?_))
 unfold subDict
 refine bc (.of (wpAny_alloc ?_))
 refine bc (eK ?_)
 first|refine j2 (by rw[a3];exact dP) ?_|refine uy (by rw[a3];exact dP) ?_
 refine bc (cX h (λvs bw h₁=>?_) λ_ _ e=>e)
 refine eK ?_
 exact bc (cX h₁ (λ_ dk fh=>cS (cS (cS fh))) λ_ _ e=>e)
theorem zF{i5:List (Option bX)}{values:List bX}{pos:bz}{x:cO}{P:qE}(ay:kj x)(h:r5 prog w h₁ own env ns k (qr (tD i5 values env pos)) P)
 (sr:autoParam (i5.all (·.isSome)=true) aN._auto_1)(aJ:autoParam (i5.length=values.length) aN._auto_1)(ao:autoParam (i5≠[]) agz._auto_1)(dP:autoParam (i5.length<=15) vi._auto_1):
 bx prog w h₁ own env ns k (aR (.Dict i5 values pos) env) (mT x P):=by
 refine .of λA W aa σ s Q E aH ar R=>afI sr aJ ao dP<|fK λG cc=>?_
 obtain⟨hR,jl⟩:=R.cell {cls:=.type "dict",data:=.dict #[]} x rfl (ay.at R.bW.fresh)
 refine cc<|h.go (s:={s with heap:=s.heap.push {cls:=.type "dict",data:=.dict #[]}}) aH ar.bind hR λvs cH ar bC bG h1 c0 bO ab bK bo=>?_
 obtain⟨bN,bg,ar⟩:=(aM.map ar).cR
 have Un:bC.al σ.next=s.heap.objs.size:=(bO.1.2 _ (hB _)).trans (if_pos rfl)
 rw[<-Un]
 exact wpN.of<|T9 (s:={s with heap:=h1,toks:=c0}) aH.line bK bo bg λh' c6 en cQ=>
  d8.to ar bC _ h' c6 (jl.trans (hb _) bO) (by rw[en];exact cI (hb _) ab) cQ (.ref (by rw[en];exact ab))
end Internal
namespace Internal
open PySem PySem.W PyProof.Rows PySem.Calls PySem.SeqAt
variable{prog:cD}{w:cm}{h₁:a9}{K:fH}{own:Bool}{env:dc}{ns:List aV}{k:Nat}
theorem PU{M:iJ}{A:b8}{E:af->aB->Prop}{s:aB}{f:af}{x:c8 af}{rest:List (Bool×c8 af)}{Q:Args->aB->Prop}
 (h:wpN M A (h6 ((false,x)::rest)) (λvs a8=>Q ⟨vs,[]⟩ a8) E s):wpN M A (qq f true ((false,x)::rest) []) Q E s:=vf h
noncomputable def tR(prog:cD)(w:cm)(h₁:a9)(T:String)(jY:C->St->Bool):Prop:=
 ∀(W:ag) (σ:St) (v:C) (ax:af) (s:aB),jY v σ=true->bL prog w h₁ W σ s.heap->aQ prog w W σ.next v ax->s.TypeIs ax T/\∀a,ax=.ref a->∃ob,s.heap.get? a=some ob/\ob.dict=none
noncomputable def ek(jY:C->St->Bool)(F:b4)(fI:cy)(eh:iZ):cy:=λaa σ=>(fI aa σ).bind λr=>if jY r.1 r.2=true then(eh aa r.2).bind λq=>F (r.1::q.1) q.2 else none
theorem ie{T id:String}{jY:C->St->Bool}{F:b4}{fI:cy}{eh:iZ}{o:bX}{name:aV}{i0 pos:bz}{args:List bX}(Gw:PlainAttrs T)(slot:vD T name id)(Fn:typeOf (.builtin id)=pure (.type "method_descriptor"))(hT:tR prog w h₁ T jY)
 (aK:bx prog w h₁ own env ns k (aR o env) fI)(ha:nF prog w h₁ own env ns k (h6 (fb pos (d7 args env))) eh)(h8:OpOk prog w h₁ k (λvs=>cF (.builtin id) vs) F)
 (pG:autoParam (yo o name env (aR o env)=aR o env) aN._auto_1)
 (sC:autoParam (((fb pos (d7 args env)).all (λx=> !x.1)&&(nB pos (nE [] env)).all (λx=>x.1.isSome)
   &&decide (args.length+([]:List o5).length+(if([]:List o5).isEmpty then 0 else 1)<30))=true) aN._auto_1)
 (pL:autoParam ((i0.endLine==pos.line)=true) aN._auto_1)(sG:autoParam ((fb pos (d7 args env)).any (·.1)=false) aN._auto_1)
 (EV:∀(A:b8) (s:aB) (Q:Args->aB->Prop) (E:af->aB->Prop),wpN (bp prog w) A (h6 (fb pos (d7 args env))) (λvs a8=>Q ⟨vs,[]⟩ a8) E s->wpN (bp prog w) A (qq (.builtin id) true (fb pos (d7 args env)) []) Q E s:=by
   exactλ_ _ _ _ h=>PU h):
 bx prog w h₁ own env ns k (aR (.Call (.Attribute o name i0) args [] pos) env) (ek jY F fI eh):=by
 refine .of λA W aa σ s Q E aH ar R=>PN pG sC pL rfl (aK.go aH ar.bind R λeS cH ar bC d5 h1 c0 bO ab bK bo=>?_)
 obtain⟨az,ar⟩:=aM.gX ar
 obtain⟨p',fF⟩:=hT bC cH eS d5 {s with heap:=h1,toks:=c0} az bK.bW bo
 exact⟨T,id,Gw,slot,Fn,p',fF,ve rfl sG (EV _ _ _ _ (ha.go aH (aM.bind ar) bK λvs bN ar bR bG h2 tk2 bh aF cQ bY=>
  cQ.od (s:={s with heap:=h2,toks:=tk2}) h8 aH ar (.cons (bo.bb bh.1 aF) bY) λv a4 c=>c.then (bO.trans ab bh) (cI ab aF)))⟩
noncomputable def eJ:C->St->Bool
 |.ref c,σ=>match σ.cells c with|some (.list _)=>true|_=>false
 |_,_=>false
noncomputable def sQ:C->St->Bool:=λv σ=>(hG v σ).isSome
noncomputable def w7:C->St->Bool:=λv σ=>(hy v σ).isSome
noncomputable def w8:C->St->Bool
 |.bA _,_=>true
 |_,_=>false
noncomputable def Ad:C->St->Bool
 |.bytes _,_=>true
 |_,_=>false
theorem XK{v:C}{σ:St}(h:eJ v σ=true):∃c vs,v=.ref c/\σ.cells c=some (.list vs):=
 C.casesOn (motive_1:=λv=>eJ v σ=true->∃c vs,v=.ref c/\σ.cells c=some (.list vs)) v (λh=>dg h) (λ_ h=>dg h) (λ_ h=>dg h) (λ_ h=>dg h) (λ_ h=>dg h) (λ_ h=>dg h) (λ_ h=>dg h) (λ_ h=>dg h) (λ_ _ _ h=>dg h) (λc h=>by
  have h:(match σ.cells c with|some (.list _)=>true|_=>false)=true:=h
  rcases az:σ.cells c with _|(vs|_|_|_|_)
  .rw[az] at h;exact dg h
  .exact⟨c,vs,rfl,az⟩
  .rw[az] at h;exact dg h
  .rw[az] at h;exact dg h
  .rw[az] at h;exact dg h
  .rw[az] at h;exact dg h) (λ_ h=>dg h) h
theorem kA:tR prog w h₁ "list" eJ:=by
 intro W σ v ax s az R a'
 obtain⟨c,vs,hn,hs⟩:=XK az
 rw[hn] at a'
 obtain⟨_,e⟩:=a'.bt
 obtain⟨items,m,g,q⟩:=(R.cell c _ hs).2.bt
 rw[e]
 exact⟨⟨_,g,rfl⟩,λa e=>kM e▸⟨_,g,rfl⟩⟩
theorem GX:tR prog w h₁ "dict" sQ:=by
 intro W σ v ax s az R a'
 obtain⟨es,cj⟩:=vz.mp az
 obtain⟨l,kvs,e,z,d,q⟩:=pd R a' cj
 rw[e]
 exact⟨d.typeIs,d.mapOf.noDict⟩
theorem ae4:tR prog w h₁ "dict" w7:=by
 intro W σ v ax s az R a'
 obtain⟨es,cj⟩:=vz.mp az
 obtain⟨l,kvs,e,z,d,q⟩:=oY R a' cj
 rw[e]
 refine⟨d.typeIs,λa e=>?_⟩
 rw[<-kM e]
 obtain⟨o,_,_,g,x,_⟩:=d
 exact⟨o,g,x.2.1⟩
theorem Po:tR prog w h₁ "tuple" w8:=λW σ v ax s az R a'=>
 aQ.casesOn (motive_1:=λv ax _=>w8 v σ=true->s.TypeIs ax "tuple"/\∀a,ax=.ref a->∃ob,s.heap.get? a=some ob/\ob.dict=none) a' (λh=>dg h) (λ_ h=>dg h) (λ_ _ h=>dg h) (λ_ _ h=>dg h) (λ_ _ h=>dg h)
  (λr _ _=>⟨⟨_,R.imm _ _ r,rfl⟩,λa e=>kM e▸⟨_,R.imm _ _ r,rfl⟩⟩) (λ_ _ _ _ h=>dg h) (λ_ _ _ _ h=>dg h) (λ_ h=>dg h) (λ_ h=>dg h) (λ_ h=>dg h) az
theorem ae3:tR prog w h₁ "bytes" Ad:=λW σ v ax s az R a'=>
 aQ.casesOn (motive_1:=λv ax _=>Ad v σ=true->s.TypeIs ax "bytes"/\∀a,ax=.ref a->∃ob,s.heap.get? a=some ob/\ob.dict=none) a' (λh=>dg h) (λ_ h=>dg h) (λ_ _ h=>dg h) (λ_ _ h=>dg h) (λ_ _ _=>⟨ov _ _ _,λa e=>nomatch e⟩)
  (λ_ _ h=>dg h) (λ_ _ _ _ h=>dg h) (λ_ _ _ _ h=>dg h) (λ_ h=>dg h) (λ_ h=>dg h) (λ_ h=>dg h) az
noncomputable def f7:b4
 |[.ref c,v],σ=>match σ.cells c with
  |some (.list vs)=>if vs.length<=1000000 then some (.none,σ.aY c (.list (vs++[v]))) else none
  |_=>none
 |_,_=>none
theorem cO.FI{α:Type}{x:Option cO}{f:List C->Option α}{y:α}(e:(match x with|some (.list vs)=>f vs|_=>none)=some y):∃vs,x=some (.list vs)/\f vs=some y:=by
 rcases x with _|(vs|_|_|_|_)
 .exact au e
 .exact⟨vs,rfl,e⟩
 .exact au e
 .exact au e
 .exact au e
 .exact au e
theorem Mu{α b':Type}{p:Prop}{d:Decidable p}{a:α}{b:b'}{bD:α}{b1:b'}(h:(if p then some (a,b) else none)=some (bD,b1)):p/\bD=a/\b1=b:=by
 obtain⟨h,e⟩:=uz h
 exact⟨h,(rK e).1,(rK e).2⟩
theorem mu:OpOk prog w h₁ k (λvs=>cF (.builtin "list.append") vs) f7:=
 .gv λW σ a bD r cu b7 aL=>.ref (λa=>a::r) (λa=>a::cu) b7 λc bD b7=>.more (λr=>_::r) (λr=>_::r) aL λx d6 q el dd cn=>.end (λq=>_::x::q) (λq=>_::d6::q) cn λA s Q E aH a5 R=>wpN.of<|fK λG cc=>by
 obtain⟨v,a4,e,a5⟩:=a5.cR
 obtain⟨vs,az,e⟩:=cO.FI (f:=λvs=>if vs.length<=1000000 then some (C.none,σ.aY c (.list (vs++[x]))) else none) e
 obtain⟨aJ,bj,bg⟩:=Mu e
 rw[bj,bg] at a5
 obtain⟨_,e7⟩:=b7.bt
 obtain⟨items,n,g,q⟩:=(R.cell c _ az).2.bt
 refine cc ?_
 rw[e7]
 refine call_meets lS ⟨_,g,rfl⟩ PySem.F.entry_list_append (PySem.F.args_list_append_2 _ _) (list_append (W.al c) items n d6 (sZ ((fN (xs:=items)).symm.trans q.length) aJ)) ⟨g,?_⟩
 exact dJ.to a5 W _ _ s.toks ag.le.refl (bF _) (R.oh az (nt ..) (.list (IsL.update g (λxs=>xs.push d6)) (by rw[Hh];exact q.append (bH.uW dd)))) .none
theorem Yj(l:a6)(items:Array af)(n:Nat)(b:a6)(eN:Array af)(aF:Nat)(nO:Option a6)(lI:Array (Option af))(agO:¬(!items.isEmpty&&Hj (items.size+eN.size))=true)(EN:items.size<=hj)(Fi:items.size+eN.size<=hj+1):
 Meets (Builtin.«list.extend» ⟨[.ref l,.ref b],[]⟩) (λ_ R s=>s.heap.get? l=some {cls:=.type "list",dict:=none,data:=.seq items n,slots:= #[]}/\s.heap.get? b=some {cls:=.type "list",dict:=nO,data:=.seq eN aF,slots:=lI}/\R (.ok (.ret kL)) {s with heap:=s.heap.update l (mC λx=>x++eN),toks:=s.toks}):=
 .of_wp λprog w A R s h=>by
  obtain⟨hp,g,d,cw,os⟩:=s;obtain⟨aJ,ai,h⟩:=h;have f1:=AutoSeq1.idx_int;have f2:=AutoSeq1.sub_tuple_tuple;have qX:=AutoSeq1.sub_list_list;have zG:=AutoSeq1.sub_tuple_list;have wy:=AutoSeq1.sub_list_tuple
  have Xq:(items++eN).size<=hj+1:=by rw[Array.size_append];exact Fi
  wp_walk using(wpAny_updateSeq aJ rfl (hz:=EN) (_hz':=Xq)),Hf aJ,Hf ai;exact⟨_,rfl,h⟩
noncomputable def pv:b4
 |[.ref c,x],σ=>match σ.cells c with
  |some (.list vs)=>(match x with
   |.bB cU=>if vs.length+cU.length<=1000000 then some (.none,σ.aY c (.list (vs++cU))) else none
   |_=>none)
  |_=>none
 |_,_=>none
theorem Uy{c:Nat}{vs:List C}{x v:C}{σ a4:St}(h:(match x with|.bB cU=>if vs.length+cU.length<=1000000 then some (C.none,σ.aY c (.list (vs++cU))) else none|_=>none)=some (v,a4)):
 ∃cU,x=.bB cU/\vs.length+cU.length<=1000000/\v=.none/\a4=σ.aY c (.list (vs++cU)):=by
 rcases x with _|_|_|_|_|_|cU|_|_|_|_
 .exact au h
 .exact au h
 .exact au h
 .exact au h
 .exact au h
 .exact au h
 .obtain⟨aJ,bj,bg⟩:=Mu h;exact⟨cU,rfl,aJ,bj,bg⟩
 .exact au h
 .exact au h
 .exact au h
 .exact au h
theorem NH:OpOk prog w h₁ k (λvs=>cF (.builtin "list.extend") vs) pv:=
 .gv λW σ a bD r cu b7 aL=>.ref (λa=>a::r) (λa=>a::cu) b7 λc bD b7=>.more (λr=>_::r) (λr=>_::r) aL λx d6 q el dd cn=>.end (λq=>_::x::q) (λq=>_::d6::q) cn λA s Q E aH a5 R=>wpN.of<|fK λG cc=>by
 obtain⟨v,a4,e,a5⟩:=a5.cR
 obtain⟨vs,az,e⟩:=cO.FI (f:=λvs=>match x with|.bB cU=>if vs.length+cU.length<=1000000 then some (C.none,σ.aY c (.list (vs++cU))) else none|_=>none) e
 obtain⟨cU,pq,aJ,bj,bg⟩:=Uy e
 rw[bj,bg] at a5
 rw[pq] at dd
 obtain⟨_,e7⟩:=b7.bt
 obtain⟨b,eN,f9,⟨⟨JN,DG,data2,GR⟩,sF,q4,aF,wM⟩,cE⟩:=ik R dd rfl
 obtain⟨items,n,g,q⟩:=(R.cell c _ az).2.bt
 have q4:JN=.type "list":=q4
 have wM:data2=.seq eN aF:=wM
 rw[q4,wM] at sF
 have fJ:items.size=vs.length:=by rw[<-fN];exact q.length
 have Kl:eN.size=cU.length:=by rw[<-fN];exact cE.length
 have hz:items.size+eN.size<=hj:=by rw[fJ,Kl];exact uL aJ
 refine cc ?_
 rw[e7,f9]
 refine call_meets Ht ⟨_,g,rfl⟩ PySem.F.entry_list_extend (PySem.F.args_list_extend_2 _ _) (Yj (W.al c) items n b eN aF DG GR ?_ (cI (rI _ _) hz) (Nat.le_succ_of_le hz)) ⟨g,sF,?_⟩
 .have:Hj (items.size+eN.size)=false:=by
   rw[fJ,Kl];unfold Hj;simp;unfold hj;omega
  rw[this,Bool.and_false];exact gI
 .exact dJ.to a5 W _ _ s.toks ag.le.refl (bF _) (R.oh az (nt ..) (.list (IsL.update g (λxs=>xs++eN)) (by rw[Hg];exact q.append cE))) .none
noncomputable def q0:b4
 |[d,i],σ=>(hG d σ).bind λes=>(toAtom i).map λk=>((eE es k).getD .none,σ)
 |_,_=>none
theorem F':OpOk prog w h₁ k (λvs=>cF (.builtin "dict.get") vs) q0:=
 .gv λW σ d jh r cu og aL=>.more (λr=>d::r) (λr=>jh::r) aL λi kY q el GF cn=>.end (λq=>d::i::q) (λq=>jh::kY::q) cn λA s Q E aH a5 R=>wpN.of<|fK λG cc=>by
 obtain⟨es,pI,a5⟩:=(aM.iy a5).cR
 obtain⟨a,kT,a5⟩:=(aM.map a5).cR
 obtain⟨l,kvs,e,z,nO,q⟩:=pd R og pI
 refine cc ?_
 rw[e]
 refine call_meetsIn vC nO.typeIs PySem.F.entry_dict_get (PySem.F.args_dict_get_2 _ _) (meets_dict_get (ix prog w) l (toAtom_is GF kT) z) ⟨_,nO.mapOf,?_⟩
 rcases q.at a with⟨h1,h2⟩|⟨v,ax,h1,h2,aU⟩
 .rw[h1] at a5;rw[h2];exact dJ.at a5 R .none _
 .rw[h1] at a5;rw[h2];exact dJ.at a5 R aU _
noncomputable def zT:b4
 |[d,i,x],σ=>(hy d σ).bind λes=>(toKey i).map λk=>((eE es k).getD x,σ)
 |_,_=>none
theorem Ze:OpOk prog w h₁ k (λvs=>cF (.builtin "dict.get") vs) zT:=
 .gv λW σ d jh r cu og aL=>.more (λr=>d::r) (λr=>jh::r) aL λi kY q el GF cn=>.more (λq=>d::i::q) (λq=>jh::kY::q) cn λx d6 p jM fv hp=>.end (λp=>d::i::x::p) (λp=>jh::kY::d6::p) hp λA s Q E aH a5 R=>wpN.of<|fK λG cc=>by
 obtain⟨es,pI,a5⟩:=(aM.iy a5).cR
 obtain⟨a,kT,a5⟩:=(aM.map a5).cR
 obtain⟨l,xs,e,z,nO,q⟩:=oY R og pI
 obtain⟨zk,hK,_,hk⟩:=toKey_is R GF kT
 refine cc ?_
 rw[e,hK]
 refine call_meetsIn vC nO.typeIs PySem.F.entry_dict_get (PySem.F.args_dict_get_3 _ _ _) (meetsH_dict_get_default (tupK prog w) l zk z d6) ⟨iN (k:=1) aH.line,_,_,hk,nO,?_⟩
 rcases q.at a with⟨h1,h2⟩|⟨v,bD,ax,h1,h2,aU⟩
 .rw[h1] at a5;rw[h2];exact dJ.at a5 R fv _
 .rw[h1] at a5;rw[h2];exact dJ.at a5 R aU _
end Internal
namespace Internal
open PySem PySem.W PyProof.Rows PySem.Calls PySem.SeqAt
variable{prog:cD}{w:cm}{h₁:a9}{K:fH}{own:Bool}{env:dc}{ns:List aV}{k:Nat}
theorem PF{f:C->C->Option Bool}{W:ag}{n:Nat}(hf:∀a gw b v r bY,aQ prog w W n a v->aQ prog w W n gw v->f a b=some r->f gw b=some bY->r=bY)
 {as km br:List C}{vs:List af}{r bY:Bool}(cM:bH prog w W n as vs)(cE:bH prog w W n km vs)(h:ja f as br=some r)(h2:ja f km br=some bY):r=bY:=
 veqs_ind (P:=λas br r=>∀km bY vs,bH prog w W n as vs->bH prog w W n km vs->ja f km br=some bY->r=bY)
  (λbr km bY vs cM cE h2=>by
    rw[show vs=_ from cM.bt] at cE
    have e:=BD.mp cE.length.symm
    rw[e] at h2
    exact cx h2)
  (λa as km bY vs _ _ h2=>by
    cases km with
    |nil=>exact cx h2
    |cons _ _=>exact cx h2)
  (λa as b br x y ay _ a7 km bY vs cM cE h2=>by
    obtain⟨v,bG,e,gU,gw⟩:=cM.bt
    rw[e] at cE
    cases km with
    |nil=>exact nomatch cE.length
    |cons c i1=>
     obtain⟨d2,Fo,h2⟩:=bind_some (show(f c b).bind _=some bY from h2)
     obtain⟨qf,lz,h2⟩:=hc.mp h2
     rw[<-h2,hf _ _ _ _ _ _ gU cE.vc.1 ay Fo,a7 _ _ _ gw cE.vc.2 lz]) as br r h km bY vs cM cE h2
noncomputable def t8:af->Option C
 |.none=>some .none
 |.bool b=>some (.bool b)
 |.int i _=>some (.int i)
 |.str x _=>some (.str x)
 |.bytes x _=>some (.bytes x.toList)
 |_=>none
theorem J4{W:ag}{n:Nat}{a:C}{v:af}(h:aQ prog w W n a v):t8 v=some a\/(∃l,v=.ref l)\/∃x,a=.cb x:=
 aQ.casesOn (motive_1:=λa v _=>t8 v=some a\/(∃l,v=.ref l)\/∃x,a=.cb x) h (.inl rfl) (λ_=>.inl rfl) (λ_ _=>.inl rfl) (λ_ _=>.inl rfl) (λ_ _=>.inl rfl) (λ_ _=>.inr (.inl ⟨_,rfl⟩)) (λ_ _ _ _=>.inr (.inl ⟨_,rfl⟩)) (λ_ _ _ _=>.inr (.inl ⟨_,rfl⟩)) (λ_=>.inr (.inl ⟨_,rfl⟩)) (λ_=>.inr (.inl ⟨_,rfl⟩)) (λ_=>.inr (.inr ⟨_,rfl⟩))
noncomputable def RefV(prog:cD)(w:cm)(f:C->C->Option Bool)(W:ag)(n:Nat)(l:a6)(b:C)(r:Bool):Prop:=(∃as br items k y,b=.bA br/\W.role l=.imm (xW items k)/\bH prog w W n as items.toList/\ja f as br=some y/\r=(y&&decide (as.length=br.length)))\/
 (∃as br o items k,b=.bB br/\W.role l=.imm o/\o.data=.seq items k/\bH prog w W n as items.toList/\((as.length=br.length/\ja f as br=some r)\/(¬as.length=br.length/\r=false)))
noncomputable def Ae:af->Bool
 |.ref _=>true
 |_=>false
theorem NF{v:af}{l:a6}{P:Prop}(e:k' l=v)(h:autoParam (Ae v=false) aN._auto_1):P:=AE ((congrArg Ae e).trans h)
theorem xo{α:Type}{v:α->af}{l:a6}{P:Prop}(e:∃a,k' l=v a)(h:autoParam (∀a,Ae (v a)=false) eU._auto_1):P:=e.elim λa e=>AE ((congrArg Ae e).trans (h a))
theorem G0{f:C->C->Option Bool}{W:ag}{n:Nat}{a b:C}{l:a6}{r:Bool}(ha:aQ prog w W n a (.ref l))(h:oi f a b=some r):
 RefV prog w f W n l b r:=
 f6.casesOn (motive:=λa b r _=>aQ prog w W n a (.ref l)->RefV prog w f W n l b r) (f6.of h)
  (λha=>NF ha.bt) (λ_ _ ha=>NF ha.bt) (λ_ _ ha=>xo ha.bt) (λ_ _ ha=>xo ha.bt) (λ_ _ ha=>xo ha.bt) (λ_ _ ha=>xo ha.bt) (λ_ _ ha=>xo ha.bt)
  (λas br y bQ ha=>by obtain⟨l',i,k,bo,q,e⟩:=ha.bt;exact .inl ⟨as,br,i,k,y,rfl,kM e▸bo,q,bQ,rfl⟩)
  (λas br y aJ bQ ha=>by obtain⟨l',o,i,k,bo,_,d,q,e⟩:=ha.bt;exact .inr ⟨as,br,o,i,k,rfl,kM e▸bo,d,q,.inl ⟨aJ,bQ⟩⟩)
  (λas br aJ ha=>by obtain⟨l',o,i,k,bo,_,d,q,e⟩:=ha.bt;exact .inr ⟨as,br,o,i,k,rfl,kM e▸bo,d,q,.inr ⟨aJ,rfl⟩⟩) ha
theorem afr{W:ag}{n:Nat}(d:Nat):∀a gw b v r bY,aQ prog w W n a v->aQ prog w W n gw v->dm d a b=some r->dm d gw b=some bY->r=bY:=by
 induction d with
 |zero=>exactλ_ _ _ _ _ _ _ _ h=>au h
 |succ d a7=>
  intro a gw b v r bY ha zY h h2
  rcases J4 ha with e|⟨l,e⟩|⟨x,e⟩
  .rcases J4 zY with bg|⟨l,bg⟩|⟨x,bg⟩
   .rw[cx (e.symm.trans bg)] at h;exact cx (h.symm.trans h2)
   .rw[bg] at e;exact au e
   .rw[bg] at h2;exact au h2
  .rw[e] at ha zY
   rcases G0 ha h with⟨as,br,i,k,y,f9,aH,q,bQ,jG⟩|⟨as,br,o,i,k,f9,aH,uQ,q,bQ⟩
   .rcases G0 zY h2 with⟨km,Dv,eZ,hu,qf,se,u5,cE,lz,DO⟩|⟨km,Dv,ee,eZ,hu,se,u5,Gf,cE,lz⟩
    .rw[<-(x8 (congrArg Obj.data (bS.w5 aH u5))).1] at cE
     rw[<-C.bA.inj (f9.symm.trans se)] at lz DO
     rw[jG,DO,PF a7 q cE bQ lz,<-q.length,<-cE.length]
    .exact nomatch f9.symm.trans se
   .rcases G0 zY h2 with⟨km,Dv,eZ,hu,qf,se,u5,cE,lz,DO⟩|⟨km,Dv,ee,eZ,hu,se,u5,Gf,cE,lz⟩
    .exact nomatch f9.symm.trans se
    .rw[<-bS.w5 aH u5,uQ] at Gf
     rw[<-(x8 Gf).1] at cE
     rw[<-C.bB.inj (f9.symm.trans se),<-cE.length,q.length] at lz
     rcases bQ with⟨aJ,bQ⟩|⟨aJ,bQ⟩
     .rcases lz with⟨_,lz⟩|⟨pJ,_⟩
      .exact PF a7 q cE bQ lz
      .exact absurd aJ pJ
     .rcases lz with⟨pJ,_⟩|⟨_,lz⟩
      .exact absurd pJ aJ
      .rw[bQ,lz]
  .rw[e] at h;exact au h
noncomputable def qP(x:C):List C->Option Nat
 |[]=>some 0
 |y::r=>(dm 8 y x).bind λa=>(qP x r).map λn=>if a=true then n+1 else n
theorem SP{W:ag}{σ:St}{s:aB}{A:b8}(R:bL prog w h₁ W σ s.heap)(bZ:A.units+200<iY){x:C}{d6:af}(fv:aQ prog w W σ.next x d6){e:af->Bool}
 (cj:∀y g0 r,aQ prog w W σ.next y g0->dm 8 y x=some r->e g0=r){vs:List C}{bG:List af}{n:Nat}(q:bH prog w W σ.next vs bG)(h:qP x vs=some n):(∀y,y∈bG->EqAt A.in1 s y d6 (e y))/\bG.countP e=n:=
 q.ind (P:=λvs bG=>∀n,qP x vs=some n->(∀y,y∈bG->EqAt A.in1 s y d6 (e y))/\bG.countP e=n) (λn h=>⟨eg _,cx h⟩) (λ{y g0 _ _} a _ a7 n h=>by
  obtain⟨r,aL,h⟩:=bind_some (show(dm 8 y x).bind _=some n from h)
  obtain⟨m,hm,h⟩:=hc.mp h
  obtain⟨h1,h2⟩:=a7 m hm
  have jG:=cj _ _ _ a aL
  refine⟨b0.mpr ⟨?_,h1⟩,?_⟩
  .rw[jG];exact tl R 8 A.in1 (iN (k:=9) bZ) _ _ _ _ _ a fv aL
  .rw[List.countP_cons,h2,jG,<-h];cases r<;>rfl) n h
noncomputable def zw:b4
 |[.ref c,x],σ=>(fU (.ref c) σ).bind λvs=>(qP x vs).map λ(m:Nat)=>(C.int (m:Int),σ)
 |_,_=>none
open Classical in
theorem S3{W:ag}{σ:St}{s:aB}{A:b8}{Q E:af->aB->Prop}(R:bL prog w h₁ W σ s.heap)(aH:fA A k){a x:C}{bD d6:af}{vs:List C}{n:Nat}(b7:aQ prog w W σ.next a bD)(dd:aQ prog w W σ.next x d6)(a':fU a σ=some vs)(a3:qP x vs=some n)
 (aW:∀cw,Q (.int n cw) {s with toks:=s.toks+1}):wpAny (bp prog w) A (cF (.builtin "list.count") [bD,d6]) Q E s:=by
 obtain⟨l,items,e,sm,q⟩:=ik R b7 a'
 obtain⟨⟨cls,nO,data,lI⟩,aK,az,m,aD⟩:=sm
 cases az;cases aD
 obtain⟨h1,h2⟩:=SP (A:=A) R aH.line dd (e:=λg0=>decide (∃y,aQ prog w W σ.next y g0/\dm 8 y x=some true)) (λy g0 r aL e=>by
  cases r with
  |true=>exact decide_eq_true ⟨y,aL,e⟩
  |false=>exact decide_eq_false λ⟨qf,ur,bg⟩=>gI (afr _ _ _ _ _ _ _ aL ur e bg)) q a3
 rw[e]
 refine call_meets PySem.F.slot_list_count ⟨_,aK,rfl⟩ PySem.F.entry_list_count (PySem.F.args_list_count_2 _ _) (list_countAt l items m nO lI d6 _) ⟨aK,λy bQ=>h1 y (Array.mem_toList_iff.mpr bQ),?_⟩
 rw[h2]
 exact aW _
theorem Zb:OpOk prog w h₁ k (λvs=>cF (.builtin "list.count") vs) zw:=
 .gv λW σ a bD r cu b7 aL=>.ref (λa=>a::r) (λa=>a::cu) b7 λc bD b7=>.more (λr=>_::r) (λr=>_::r) aL λb b1 q el dd cn=>.end (λq=>_::_::q) (λq=>_::_::q) cn λA s Q E aH a5 R=>wpN.of<|by
 obtain⟨vs,a',a5⟩:=(aM.iy a5).cR
 obtain⟨n,a3,a5⟩:=(aM.map a5).cR
 exact S3 R aH b7 dd a' a3 λcw=>dJ.at a5 R (.int _ _) _
theorem afh(l:a6)(items:Array af)(n:Nat)(x:af)(aj:Nat)(c2:aj<items.size):
 Meets (Builtin.«tuple.index» ⟨[.ref l,x],[]⟩)
  (λA R s=>s.heap.get? l=some {cls:=.type "tuple",dict:=none,data:=.seq items n,slots:= #[]}/\(∀m (hm:m<items.size),m<=aj->EqAt A.in1 s items[m] x (m==aj))/\R (.ok (.ret (.int aj s.toks))) {s with toks:=s.toks+1}):=
 .of_wp λprog w A R s h=>by
  obtain⟨hp,g,d,cw,os⟩:=s;obtain⟨aJ,cj,h⟩:=h
  wp_walk using Hf aJ,Ey _ (λi b a8=>b.1=none/\a8=⟨hp,g,d,cw,os⟩/\i<=aj) _ _
  case turn=>
   rintro i b a8 hi ⟨ai,rfl,wR⟩
   have dQ:i<items.size:=by simpa using hi
   rw[rE dQ]
   refine aP (cj i dQ wR prog w _ _ ?_)
   by_cases e:i=aj
   .subst e
    rw[beq_self_eq_true]
    wp_walk
    exact⟨_,rfl,h⟩
   .rw[beq_eq_false_iff_ne.mpr e]
    wp_walk
    exact⟨rfl,rfl,by exact aE.aaZ wR e⟩
  case cW=>
   rintro b a8 ⟨ai,rfl,wR⟩
   have:min items.size items.size=items.size:=Nat.min_self _
   rw[this] at wR
   exact(aE.Of c2 wR).elim
  case h=>exact⟨rfl,rfl,jx _⟩
noncomputable def Aa(x:C):List C->Option Nat
 |[]=>none
 |y::r=>(dm 8 y x).bind λa=>if a=true then some 0 else(Aa x r).map λn=>n+1
theorem XA{x:C}{vs:List C}:∀{aj:Nat},Aa x vs=some aj->aj<vs.length/\∀(m:Nat) y,vs[m]? =some y->m<=aj->dm 8 y x=some (m==aj):=
 List.rec (motive:=λvs=>∀{aj:Nat},Aa x vs=some aj->aj<vs.length/\∀(m:Nat) y,vs[m]? =some y->m<=aj->dm 8 y x=some (m==aj)) (λh=>au h) (λy r a7 aj h=>by
  obtain⟨a,ha,h⟩:=bind_some (show(dm 8 y x).bind _=some aj from h)
  cases a with
  |true=>
   rw[<-cx h]
   refine⟨yk _,λm z hz hm=>?_⟩
   rw[Nat.le_zero.mp hm] at hz⊢
   rw[<-cx hz];exact ha
  |false=>
   obtain⟨n,a3,h⟩:=hc.mp h
   obtain⟨h1,h2⟩:=a7 a3
   rw[<-h]
   refine⟨Nat.succ_lt_succ h1,λm z hz hm=>?_⟩
   cases m with
   |zero=>rw[<-cx hz];exact ha
   |succ m=>rw[h2 m z hz (Nat.le_of_succ_le_succ hm)];exact congrArg some (Bd.mpr ⟨λe=>beq_iff_eq.mpr (congrArg Nat.succ (beq_iff_eq.mp e)),λe=>beq_iff_eq.mpr (BM (beq_iff_eq.mp e))⟩)) vs
noncomputable def Ab:b4
 |[.bA vs,x],σ=>(Aa x vs).map λ(aj:Nat)=>(C.int (aj:Int),σ)
 |_,_=>none
theorem NJ:OpOk prog w h₁ k (λvs=>cF (.builtin "tuple.index") vs) Ab:=
 .gv λW σ a bD r cu b7 aL=>.bA (λa=>a::r) (λa=>a::cu) b7 λvs bD b7=>.more (λr=>_::r) (λr=>_::r) aL λx b1 q el dd cn=>.end (λq=>_::_::q) (λq=>_::_::q) cn λA s Q E aH a5 R=>wpN.of<|by
 obtain⟨aj,c2,a5⟩:=(aM.map a5).cR
 obtain⟨l,items,m,e,bo,cB,cM⟩:=b7.lM R
 obtain⟨h1,h2⟩:=XA c2
 have fJ:items.size=vs.length:=by rw[<-fN];exact cM.length
 rw[e]
 refine call_meets Hw ⟨_,cB,rfl⟩ PySem.F.entry_tuple_index (PySem.F.args_tuple_index_2 _ _) (afh l items m b1 aj (fJ▸h1)) ⟨cB,λm hm WL=>?_,dJ.at a5 R (.int _ _) _⟩
 have g1:vs[m]? =some (vs[m]'(fJ▸hm)):=iG _
 obtain⟨g0,bQ,oW⟩:=cM.get g1
 rw[o3,rE hm] at bQ
 rw[cx bQ]
 exact tl R 8 A.in1 (iN (k:=9) aH.line) _ _ _ _ _ oW dd (h2 m _ g1 WL)
end Internal
namespace Internal
open PySem PySem.W PyProof.Rows PySem.Calls PySem.SeqAt
variable{prog:cD}{w:cm}{h₁:a9}{K:fH}{own:Bool}{env:dc}{ns:List aV}{k:Nat}
theorem bL.n5{W:ag}{σ:St}{h h':a9}(R:bL prog w h₁ W σ h)(e:∀b o,h.get? b=some o->h'.get? b=some o):bL prog w h₁ W σ h':=R.me e
noncomputable def f':b4
 |[.bytes b],σ=>if b.length<=1000000 then some (.int b.length,σ) else none
 |[v],σ=>(fU v σ).bind λvs=>if vs.length<=1000000 then some (.int vs.length,σ) else none
 |_,_=>none
theorem Ye{A:b8}{W:ag}{σ:St}{s:aB}{Q E:af->aB->Prop}{v:C}{ax:af}(R:bL prog w h₁ W σ s.heap)(b7:aQ prog w W σ.next v ax)(a5:aM ((fU v σ).bind λvs=>if vs.length<=1000000 then some (C.int vs.length,σ) else none) (dJ prog w h₁ W σ s Q)):
 wpAny (bp prog w) A (cF (.builtin "len") [ax]) Q E s:=by
 obtain⟨vs,a',a5⟩:=(aM.iy a5).cR
 obtain⟨ai,a5⟩:=aM.gX a5
 obtain⟨l,items,e,aJ,q⟩:=ik R b7 a'
 have fJ:items.size=vs.length:=by rw[<-fN];exact q.length
 rw[e]
 exact call_len_list aJ (by rw[fJ];omega) (dJ.at a5 R (by rw[fJ];exact .int _ _) _)
theorem oQ{W:ag}{σ:St}{v:C}{ax:af}{r:List C}{cu:List af}(b7:aQ prog w W σ.next v ax)(aL:bH prog w W σ.next r cu)(h1:autoParam (∀aC,aM (f' [v] σ) aC->aM ((fU v σ).bind λvs=>if vs.length<=1000000 then some (C.int vs.length,σ) else none) aC) Hd._auto_1)
 (ao:autoParam (∀b q aC,aM (f' (v::b::q) σ) aC->False) vh._auto_1):dB prog w h₁ k (λvs=>cF (.builtin "len") vs) f' W σ (v::r) (ax::cu):=
 .end (λq=>v::q) (λq=>ax::q) aL (λA s Q E aH a5 R=>wpN.of (Ye R b7 (h1 _ a5))) ao
theorem m':OpOk prog w h₁ k (λvs=>cF (.builtin "len") vs) f':=
 .gv λW σ a bD r cu b7 aL=>aQ.casesOn (motive_1:=λa bD _=>dB prog w h₁ k (λvs=>cF (.builtin "len") vs) f' W σ (a::r) (bD::cu)) b7 (oQ .none aL) (λb=>oQ (.bool b) aL) (λi t=>oQ (.int i t) aL) (λx t=>oQ (.str x t) aL) (λb t=>.end (λq=>C.bytes b::q) (λq=>_::q) aL λA s Q E aH a5 R=>wpN.of<|by
  obtain⟨ai,a5⟩:=aM.gX a5
  exact len_bytes (by rw[mA];exact aE.abp ai) (dJ.at a5 R (by rw[mA];exact .int _ _) _)) (λr q=>oQ (.bA r q) aL) (λr c d q=>oQ (.bB r c d q) aL) (λr z c q=>oQ (.cV r z c q) aL) (λr=>oQ (.gc r) aL) (λh=>oQ (.ref h) aL) (λv=>oQ (.cb v) aL)
noncomputable def zg:b4
 |[.int a],σ=>some (.int (if a<0 then-a else a),σ)
 |_,_=>none
theorem Y9:OpOk prog w h₁ k (λvs=>cF (.builtin "abs") vs) zg:=
 .gv λW σ a bD r cu b7 aL=>.int (λa=>a::r) (λa=>a::cu) b7 λi t=>.end (λq=>_::q) (λq=>_::q) aL λA s Q E aH a5 R=>wpN.of<|call_abs_int λu cw=>dJ.at a5 R (.int _ _) _
noncomputable def Fw:b4
 |[.int a],σ=>some (.int a,σ)
 |_,_=>none
theorem NK:OpOk prog w h₁ k (λvs=>cF (.type "int") vs) Fw:=
 .gv λW σ a bD r cu b7 aL=>.int (λa=>a::r) (λa=>a::cu) b7 λi t=>.end (λq=>_::q) (λq=>_::q) aL λA s Q E aH a5 R=>wpN.of<|call_int_int (dJ.at a5 R (.int _ _) s.toks)
noncomputable def F3:b4
 |[.int a,.int b],σ=>some (.int (if b<a then b else a),σ)
 |_,_=>none
theorem Zh:OpOk prog w h₁ k (λvs=>cF (.builtin "min") vs) F3:=
 .gv λW σ a bD r cu b7 aL=>.int (λa=>a::r) (λa=>a::cu) b7 λi t=>.more (λr=>_::r) (λr=>_::r) aL λb b1 q el dd cn=>.int (λb=>_::b::q) (λb=>_::b::el) dd λaj u=>.end (λq=>_::_::q) (λq=>_::_::q) cn λA s Q E aH a5 R=>wpN.of<|
 min_two_ints aH.h λh' cw hk=>dJ.to a5 W _ h' cw ag.le.refl (bF _) (R.n5 hk) (by
  by_cases e:aj<i
  .rw[if_pos e,if_pos e];exact .int _ _
  .rw[if_neg e,if_neg e];exact .int _ _)
noncomputable def i3:List C->Option (List Int)
 |[]=>some []
 |.int i::r=>(i3 r).map λl=>i::l
 |_=>none
theorem XI{W:ag}{n:Nat}{v:C}{ax:af}{vs:List C}{l:List Int}(a:aQ prog w W n v ax)(e:i3 (v::vs)=some l):∃i t q,ax=.int i t/\i3 vs=some q/\l=i::q:=
 aQ.casesOn (motive_1:=λv ax _=>i3 (v::vs)=some l->∃i t q,ax=.int i t/\i3 vs=some q/\l=i::q) a (λe=>au e) (λ_ e=>au e)
  (λi t e=>by obtain⟨q,cn,e⟩:=hc.mp e;exact⟨i,t,q,rfl,cn,e.symm⟩) (λ_ _ e=>au e) (λ_ _ e=>au e) (λ_ _ e=>au e) (λ_ _ _ _ e=>au e) (λ_ _ _ _ e=>au e) (λ_ e=>au e) (λ_ e=>au e) (λ_ e=>au e) e
theorem Fx{W:ag}{n:Nat}{vs:List C}{bG:List af}{l:List Int}(r:bH prog w W n vs bG)(e:i3 vs=some l):IntsAre bG l:=
 r.ind (P:=λvs bG=>∀l,i3 vs=some l->IntsAre bG l) (λl e=>cx e▸.nil) (λa _ a7 l e=>by
  obtain⟨i,t,q,bj,cn,bg⟩:=XI a e
  rw[bj,bg];exact .cons i t (a7 q cn)) l e
noncomputable def th:b4
 |[v],σ=>(fU v σ).bind λvs=>(i3 vs).map λl=>(C.int l.sum,σ)
 |_,_=>none
theorem NN:OpOk prog w h₁ k (λvs=>cF (.builtin "sum") vs) th:=
 .gv λW σ a bD r cu b7 aL=>.end (λq=>a::q) (λq=>bD::q) aL λA s Q E aH a5 R=>wpN.of<|fK λG cc=>by
 obtain⟨vs,a',a5⟩:=(aM.iy a5).cR
 obtain⟨l,aJ,a5⟩:=(aM.map a5).cR
 obtain⟨b,items,e,fR,q⟩:=ik R b7 a'
 have hi:=Fx q aJ
 have en:=hi.numsOf
 obtain⟨xs,ay⟩:=hi.allInts.items
 rw[show items=intItems xs from ay] at fR en
 rw[nums_intItems] at en
 refine cc ?_
 rw[e]
 refine sum_intListG aH.h fR λh' cw eR hk=>?_
 have bg:preSum (numAt xs) xs.size=l.sum:=by
  rw[preSum_eq,BL (by simp),<-en]
 rw[bg]
 exact dJ.to a5 W _ h' cw ag.le.refl (bF _) (R.n5 hk) (.int _ _)
noncomputable def oe:b4
 |[.int n],σ=>some (.gc 0 n 1,σ)
 |[.int a,.int b,.int c],σ=>if c≠0/\c.natAbs<1073741824 then some (.gc a b c,σ) else none
 |_,_=>none
theorem xv:OpOk prog w h₁ k (λvs=>cF (.type "range") vs) oe:=
 .gv λW σ a bD r cu b7 aL=>.int (λa=>a::r) (λa=>a::cu) b7 λn t=>.QX (λr=>_::r) (λr=>_::r) aL
  (λA s Q E aH a5 R=>wpN.of<|call_range_1<|by
    obtain⟨cQ,bh⟩:=R.new (AW 0 n 1 s.toks t (s.toks+1)) rfl
    exact dJ.to a5 _ _ _ _ bh (bF _) cQ (.gc ag.dv))
  λb b1 q el dd cn=>.int (λb=>_::b::q) (λb=>_::b::el) dd λm u=>.more (λq=>_::_::q) (λq=>_::_::q) cn λc cK p jM e1 hp=>.int (λc=>_::_::c::p) (λc=>_::_::c::jM) e1 λd z=>
   .end (λp=>_::_::_::p) (λp=>_::_::_::p) hp λA s Q E aH a5 R=>wpN.of<|by
   obtain⟨az,a5⟩:=aM.gX a5
   refine call_range_3 az.1 ?_ (.inl (PyProof.noPylong_small az.2))
   obtain⟨cQ,bh⟩:=R.new (AW n m d t u z) rfl
   exact dJ.to a5 _ _ _ _ bh (bF _) cQ (.gc ag.dv)
noncomputable def pT:b4
 |[.bA vs],σ=>if vs.length<=1000000 then some (.bB vs,σ) else none
 |[v],σ=>(fU v σ).bind λvs=>if vs.length<=1000000 then some (.bB vs,σ) else none
 |_,_=>none
theorem MO{A:b8}{W:ag}{σ:St}{s:aB}{Q E:af->aB->Prop}{T:String}{it:a6}{o:bM}{items:Array af}{n:Nat}{vs:List C}(R:bL prog w h₁ W σ s.heap)(hT:T="list"\/T="tuple")(aK:s.heap.get? it=some o)(az:o.cls=.type T)(aD:o.data=.seq items n)(q:bH prog w W σ.next vs items.toList)
 (a5:aM (if vs.length<=1000000 then some (C.bB vs,σ) else none) (dJ prog w h₁ W σ s Q)):wpAny (bp prog w) A (cF (.type "list") [.ref it]) Q E s:=by
 obtain⟨aJ,a5⟩:=aM.gX a5
 refine call_list_seq it hT aK az aD (λh' cK hk a3=>?_) (sZ ((fN (xs:=items)).symm.trans q.length) aJ)
 have ew:=R.free (bF s.heap.objs.size)
 have bh:=ag.ij (n:=σ.next) (r:=.imm (listOf items cK)) ew
 exact dJ.to a5 _ _ h' s.toks bh (bF _) ((R.n5 hk).i2 (r:=.imm (listOf items cK)) ew ⟨_,a3⟩ (λc' e=>bS.imm.inj e▸a3) (λc' e=>nomatch e)) (.bB ag.dv rfl rfl (q.bb bh.1 (bF _)))
theorem Yk{A:b8}{W:ag}{σ:St}{s:aB}{Q E:af->aB->Prop}{v:C}{ax:af}(R:bL prog w h₁ W σ s.heap)(b7:aQ prog w W σ.next v ax)(a5:aM ((fU v σ).bind λvs=>if vs.length<=1000000 then some (C.bB vs,σ) else none) (dJ prog w h₁ W σ s Q)):
 wpAny (bp prog w) A (cF (.type "list") [ax]) Q E s:=by
 obtain⟨vs,a',a5⟩:=(aM.iy a5).cR
 obtain⟨l,items,e,⟨o,aK,az,n,aD⟩,q⟩:=ik R b7 a'
 rw[e]
 exact MO R (.inl rfl) aK az aD q a5
theorem oR{W:ag}{σ:St}{v:C}{ax:af}{r:List C}{cu:List af}(b7:aQ prog w W σ.next v ax)(aL:bH prog w W σ.next r cu)(h1:autoParam (∀aC,aM (pT [v] σ) aC->aM ((fU v σ).bind λvs=>if vs.length<=1000000 then some (C.bB vs,σ) else none) aC) Hd._auto_1)
 (ao:autoParam (∀b q aC,aM (pT (v::b::q) σ) aC->False) vh._auto_1):dB prog w h₁ k (λvs=>cF (.type "list") vs) pT W σ (v::r) (ax::cu):=
 .end (λq=>v::q) (λq=>ax::q) aL (λA s Q E aH a5 R=>wpN.of (Yk R b7 (h1 _ a5))) ao
theorem Gb:OpOk prog w h₁ k (λvs=>cF (.type "list") vs) pT:=
 .gv λW σ a bD r cu b7 aL=>aQ.casesOn (motive_1:=λa bD _=>dB prog w h₁ k (λvs=>cF (.type "list") vs) pT W σ (a::r) (bD::cu)) b7 (oR .none aL) (λb=>oR (.bool b) aL) (λi t=>oR (.int i t) aL) (λx t=>oR (.str x t) aL) (λb t=>oR (.bytes b t) aL) (λ{_ _ _ vs} bo cM=>.end (λq=>C.bA vs::q) (λq=>_::q) aL λA s Q E aH a5 R=>wpN.of<|MO R (.inr rfl) (R.imm _ _ bo) rfl rfl cM a5) (λr c d q=>oR (.bB r c d q) aL) (λr z c q=>oR (.cV r z c q) aL) (λr=>oR (.gc r) aL) (λh=>oR (.ref h) aL) (λv=>oR (.cb v) aL)
end Internal
namespace Internal
open PySem PySem.W PyProof.Rows PySem.Calls PySem.SeqAt
variable{prog:cD}{w:cm}{h₁:a9}{K:fH}{own:Bool}{env:dc}{ns:List aV}{k:Nat}
theorem XG:rO (.type "int") "__bytes__"=pure none:=by rw[qw,qo];kernel_rfl
theorem Sq{A:b8}{E:af->aB->Prop}{s:aB}{n:Int}{t:d4}{Q:af->aB->Prop}(ao:0<=n)(h1:n<=1000000)
 (aW:∀eR k,Q (.bytes (Bc n.toNat 0) eR) {s with toks:=k}):
 codeAny (bp prog w) A (.call (.builtin "bytes.__new__") ⟨[.type "bytes",.int n t],[]⟩) (wants Q E) s:=by
 refine codeAny_of_tree ?_
 show wpAny _ A.in1 (do vG "bytes.__new__" ⟨[.type "bytes",.int n t],[]⟩;again (.builtin "bytes.__new__" ⟨[.type "bytes",.int n t],[]⟩)) _ _ s
 refine aP (gK (PySem.F.bm_newCall _) (bI ⟨vH BQ _,BV PySem.F.bm_entry ?_⟩))
 rw[vj BQ _]
 have hT:s.TypeIs (.int n t) "int":=rN s n t
 unfold Builtin.«bytes.__new__»
 refine aP (gK (a:=true) rfl ?_)
 refine jz rfl ?_
 refine aP (gK PySem.F.bm_sub ?_)
 refine jz rfl ?_
 refine aP (gK (PySem.F.bm_bind _) ?_)
 refine aP (gK (a:=()) rfl ?_)
 refine aP (gK (a:=()) rfl ?_)
 refine jz rfl ?_
 refine aP (mG hT XG ?_)
 refine aP (aP (bI (bI ?_)))
 refine jz rfl ?_
 refine aP (mG hT Hs.lookup ?_)
 refine jz rfl ?_
 refine aP (wpAny_attempt (gK (a:=n) rfl ?_))
 dsimp only
 have hf:vk n=true:=by simp only[vk,o4,decide_eq_true_eq];omega
 have aJ:x6 n.toNat=false:=by unfold x6 hj;simp;exact aE.abF h1
 rw[hf,aJ,if_neg (by decide),if_neg (by exact aE.AN ao),if_neg (by omega),if_neg (by decide)]
 refine aP (mF ?_)
 refine aP (wpAny_mkBytes ?_ ?_)
 .exact bI (aW _ _)
 .rw[Array.size_replicate];unfold hj;omega
noncomputable def hH:b4
 |[.int n],σ=>if 0<=n/\n<=1000000 then some (.bytes (kc n.toNat 0),σ) else none
 |[v],σ=>(fU v σ).bind λvs=>(i3 vs).bind λl=>if l.length<=1000000/\l.all (λi=>decide (0<=i/\i<256))=true then some (.bytes (l.map λi=>i.toNat.toUInt8),σ) else none
 |_,_=>none
theorem So{A:b8}{k:Nat}{W:ag}{σ:St}{s:aB}{Q E:af->aB->Prop}{v:C}{ax:af}(aH:fA A k)(R:bL prog w h₁ W σ s.heap)(b7:aQ prog w W σ.next v ax)(a5:aM ((fU v σ).bind λvs=>(i3 vs).bind λl=>if l.length<=1000000/\l.all (λi=>decide (0<=i/\i<256))=true then some (C.bytes (l.map λi=>i.toNat.toUInt8),σ) else none) (dJ prog w h₁ W σ s Q)):
 wpAny (bp prog w) A (cF (.type "bytes") [ax]) Q E s:=by
 refine fK λG cc=>?_
 obtain⟨vs,a',a5⟩:=(aM.iy a5).cR
 obtain⟨l,aJ,a5⟩:=(aM.iy a5).cR
 obtain⟨az,a5⟩:=aM.gX a5
 obtain⟨a,items,e,fR,q⟩:=ik R b7 a'
 have hi:=Fx q aJ
 have aL:∀n∈l,0<=n/\n<256:=λn a3=>of_decide_eq_true (List.all_eq_true.mp az.2 n a3)
 refine cc ?_
 rw[e]
 exact call_bytes_ints (vs:=items.toList) fR hi aL (by rw[hi.length];unfold hj;omega) aH.h λh' t k hk=>dJ.to a5 W _ h' _ ag.le.refl (bF _) (R.n5 hk) (.bytes _ _)
theorem oB{W:ag}{σ:St}{v:C}{ax:af}{r:List C}{cu:List af}(b7:aQ prog w W σ.next v ax)(aL:bH prog w W σ.next r cu)(h1:autoParam (∀aC,aM (hH [v] σ) aC->aM ((fU v σ).bind λvs=>(i3 vs).bind λl=>if l.length<=1000000/\l.all (λi=>decide (0<=i/\i<256))=true then some (C.bytes (l.map λi=>i.toNat.toUInt8),σ) else none) aC) Hd._auto_1)
 (ao:autoParam (∀b q aC,aM (hH (v::b::q) σ) aC->False) vh._auto_1):dB prog w h₁ k (λvs=>cF (.type "bytes") vs) hH W σ (v::r) (ax::cu):=
 .end (λq=>v::q) (λq=>ax::q) aL (λA s Q E aH a5 R=>wpN.of (So aH R b7 (h1 _ a5))) ao
theorem oT:OpOk prog w h₁ k (λvs=>cF (.type "bytes") vs) hH:=
 .gv λW σ a bD r cu b7 aL=>aQ.casesOn (motive_1:=λa bD _=>dB prog w h₁ k (λvs=>cF (.type "bytes") vs) hH W σ (a::r) (bD::cu)) b7 (oB .none aL) (λb=>oB (.bool b) aL) (λn t=>.end (λq=>C.int n::q) (λq=>_::q) aL λA s Q E aH a5 R=>wpN.of<|by
  obtain⟨a3,a5⟩:=aM.gX a5
  refine callType_codes (Q₁:=λobj bw=>bw.TypeIs obj "bytes"/\Q obj bw) vB (PySem.F.bm_typeCall _) PySem.F.entry_object_init
   (Sq a3.1 a3.2 λeR k=>⟨PySem.W.typeIs_bytes _ _ _,?_⟩) λobj bw h₁=>?_
  .rw[<-List.toArray_replicate]
   exact dJ.at a5 R (.bytes _ _) _
  .exact⟨h₁.1,PySem.F.args_object_init_2 obj _,object_init_meets vB.init.lookup vB.made (by decide) prog w A.in1 _ bw ⟨h₁.1,rfl,h₁.2⟩⟩) (λx t=>oB (.str x t) aL) (λb t=>oB (.bytes b t) aL) (λr q=>oB (.bA r q) aL) (λr c d q=>oB (.bB r c d q) aL) (λr z c q=>oB (.cV r z c q) aL) (λr=>oB (.gc r) aL) (λh=>oB (.ref h) aL) (λv=>oB (.cb v) aL)
end Internal
namespace Internal
open PySem PySem.W PyProof.Rows PySem.Calls PySem.SeqAt
variable{prog:cD}{w:cm}{h₁:a9}{K:fH}{own:Bool}{env:dc}{ns:List aV}{k:Nat}
theorem Jn:mroOf (.type "bytearray")=pure [.type "bytearray",.type "object"]:=by rw[mroOf_type];kernel_rfl
theorem RV:rO (.type "bytearray") "__new__"=pure (some (.builtin "bytearray.__new__")):=by rw[qw,qo];kernel_rfl
theorem R6:vD "bytearray" "__init__" "bytearray.__init__":=
 .of (owner:="bytearray") (n:="__init__") (by rw[qw,qo];kernel_rfl) (by decide+kernel) (by decide+kernel) (by decide+kernel)
  (by first|exact .inl (by decide+kernel)|exact .inr (by decide+kernel)) (by rw[rM];kernel_rfl)
theorem RO:TypeCalled "bytearray" "bytearray.__new__" "bytearray.__init__":=
 ⟨by decide+kernel,by decide+kernel,⟨_,_,Jn⟩,madeBy_type Jn RV (by decide+kernel),by decide+kernel,by rw[rM];kernel_rfl,R6⟩
theorem R7(a:af):checkTypeCall "bytearray" ⟨[a],[]⟩=pure ():=by kernel_rfl
theorem RW(a:af):vG "bytearray.__new__" ⟨[.type "bytearray",a],[]⟩=pure ():=by kernel_rfl
theorem Jq:plainId "bytearray.__new__"=true:=by decide+kernel
theorem RP:qp table "bytearray.__new__"=some Builtin.«list.__new__»:=entryFor_alias (id':="list.__new__") (by rw[fastTable_eq_tree];kernel_rfl) (by decide+kernel) (by decide+kernel) (by rw[fastTable_eq_tree];kernel_rfl)
theorem RQ:qp table "bytearray.__init__"=some Builtin.«bytearray.__init__»:=BW (by kernel_rfl)
theorem RX:rO (.type "bytearray") "__bytes__"=pure none:=by rw[qw,qo];kernel_rfl
theorem RY:rO (.type "bytearray") "__index__"=pure none:=by rw[qw,qo];kernel_rfl
theorem CT:rO (.type "bytearray") "__buffer__"=pure (some (.builtin "bytearray.__buffer__")):=by rw[qw,qo];kernel_rfl
theorem R2:rO (.type "bytearray") "__release_buffer__"=pure (some (.builtin "bytearray.__release_buffer__")):=by rw[qw,qo];kernel_rfl
theorem CU:isSubtype (.type "bytearray") (.type "bytearray")=pure true:=by rw[rM];kernel_rfl
theorem RL(v:af):Builtin.Bytes.bindOptional "bytearray.__init__" "bytearray" ["source","encoding","errors"] [v] []=pure [some v,none,none]:=by kernel_rfl
theorem Jr:vD "bytearray" "__setitem__" "bytearray.__setitem__":=
 .of (owner:="bytearray") (n:="__setitem__") (by rw[qw,qo];kernel_rfl) (by decide+kernel) (by decide+kernel) (by decide+kernel)
  (by first|exact .inl (by decide+kernel)|exact .inr (by decide+kernel)) (by rw[rM];kernel_rfl)
theorem RS:qp table "bytearray.__setitem__"=some Builtin.«bytearray.__setitem__»:=BW (by kernel_rfl)
theorem RK(a b c:af):argsOk "bytearray.__setitem__" ⟨[a,b,c],[]⟩:=by unfold argsOk;kernel_rfl
theorem RJ(a b:af):argsOk "bytearray.__init__" ⟨[a,b],[]⟩:=by unfold argsOk;kernel_rfl
end Internal
namespace Internal
open PySem PySem.W PyProof.Rows PySem.Calls PySem.SeqAt
variable{prog:cD}{w:cm}{h₁:a9}{K:fH}{own:Bool}{env:dc}{ns:List aV}{k:Nat}
noncomputable def qW(self:af):Code×bz->Bool:=λ
 |(.builtin "bytearray.__contains__" ⟨v::_,_⟩,_)|(.builtin "bytearray.__mod__" ⟨v::_,_⟩,_)
 |(.builtin "bytearray.__rmod__" ⟨_::v::_,_⟩,_)|(.builtin "_struct.pack_into.held" ⟨v::_,_⟩,_)=>Bi v self
 |(.builtin "bytearray.find.held" ⟨_::_::held,_⟩,_)=>held.any (Bi self)
 |(.builtin id ⟨v::_,_⟩,_)=>Bi v self&&x5.contains id
 |_=>false
theorem Uv{self:af}{id:String}{a:Args}{p:bz}(a0:(Code.builtin id a).isGuard=false)(aK:nc (.builtin id a)=true):qW self (.builtin id a,p)=false:=by
 have n:∀x,guardIds.contains x=true->¬id=x:=λx ay e=>AE (ay.symm.trans (by rw[<-e];exact a0))
 unfold qW qW.match_1
 first|dsimp only[qW._sparseCasesOn_1]|dsimp only[nc._sparseCasesOn_1]
 rw[dif_neg (n _ (by decide+kernel)),dif_neg (n _ (by decide+kernel)),dif_neg (n _ (by decide+kernel)),dif_neg (n _ (by decide+kernel)),dif_neg (n _ (by decide+kernel))]
 rcases a with⟨_|⟨v,r⟩,kw⟩
 .rfl
 .have h:(!x5.contains id)=true:=aK
  show(Bi v self&&x5.contains id)=false
  rw[(Bool.not_eq_true' _).mp h,Bool.and_false]
theorem Uw{self:af}{c:Code}{p:bz}(a0:c.isGuard=false)(aK:nc c=true):qW self (c,p)=false:=
 Code.casesOn (motive:=λc=>c.isGuard=false->nc c=true->qW self (c,p)=false) c (λ_ _ _ _=>rfl) (λ_ _ a0 aK=>Uv a0 aK) (λ_ _ _ _=>rfl) (λ_ _ _ _=>rfl) (λ_ _ _ _ _=>rfl) (λ_ _ _ _ _ _ _=>rfl) (λ_ _ _ _=>rfl) (λ_ _ _ _=>rfl)
  (λ_ _ _ _ _ _=>rfl) (λ_ _ _ _ _ _ _=>rfl) (λ_ _ _ _ _ _ _=>rfl) (λ_ _ _ _ _ _ _=>rfl) (λ_ _ _ _ _ _ _=>rfl) a0 aK
theorem Ux{M:iJ}{A:b8}{E:af->aB->Prop}{s:aB}{a:af}{Q:Bool->aB->Prop}(a0:A.guards=some [])(h:Q false s):wpN M A (Builtin.Bytes.exported a) Q E s:=λdu p fS az=>by
 have g1:guardsOf ((du.code,p)::du.below)=[]:=by rw[guardsOf_cons];exact fS.2.2.2.1 [] a0
 show Q (List.any ((du.code,p)::du.below) (qW a)) s
 have e:List.any ((du.code,p)::du.below) (qW a)=false:=by
  rw[List.any_eq_false]
  intro x ay
  have acD:nc x.1=true:=by
   rcases fX.mp ay with rfl|ay
   .exact az.1
   .exact az.2 x ay
  have VW:x.1.isGuard=false:=by
   cases q:x.1.isGuard with
   |false=>rfl
   |true=>
    have:x.1∈guardsOf ((du.code,p)::du.below):=h5.mpr ⟨ec.mpr ⟨x,ay,rfl⟩,q⟩
    rw[g1] at this;cases this
  rw[show x=(x.1,x.2) from rfl,Uw VW acD];exact gI
 rw[e];exact h
section
variable{A:b8}{E:af->aB->Prop}{s:aB}{R:jy->aB->Prop}
noncomputable abbrev KI(M:iJ)(A:b8)(R:jy->aB->Prop):Fin->aB->Prop:=λcW a8=>match cW with|.done f=>R (.ok f) a8|.again cK=>cK.quiet=true/\fP M A cK R a8
theorem JQ{id:String}{args:Args}{b:Builtin}(ok:nc (.builtin id args)=true)(ai:qp table id=some b)
 (h:wpN (bp prog w) (A.under (.builtin id args)) (b args) (KI (bp prog w) A R) (λe a8=>R (.error e) a8) s):fP (bp prog w) A (.builtin id args) R s:=by
 refine qQ ok ?_
 show wpN _ _ (match qp table id with|some b=>b args|none=>unsupported ((withoutEnding? id "#data").getD id)) _ _ s
 rw[ai];exact h
theorem SR{id:String}{args:Args}{b:Builtin}(ok:nc (.builtin id args)=true)(cn:plainId id=true)(ai:qp table id=some b)
 (h:wpN (bp prog w) A.in1 (vG id args) (λ_ bw=>wpN (bp prog w) A.in1 (b args) (KI (bp prog w) A R) (λe a8=>R (.error e) a8) bw) (λe a8=>R (.error e) a8) s):fP (bp prog w) A (.call (.builtin id) args) R s:=by
 refine qQ rfl ?_
 show wpN _ A.in1 (do vG id args;again (.builtin id args)) _ _ s
 refine bc (cX h (λ_ bw h₁=>cS ⟨vH cn args,JQ ok ai ?_⟩) λ_ _ h'=>h')
 rw[vj cn args];exact h₁
theorem Sx{T Nr Ac:String}{Io:Builtin}{args:List af}{Q Q₁:af->aB->Prop}(pB:TypeCalled T Nr Ac)
 (Wk:checkTypeCall T ⟨args,[]⟩=pure ())(Ur:qp table Ac=some Io)(Zr:x5.contains Ac=false)
 (WS:codeAny (bp prog w) A.in1 (.call (.builtin Nr) ⟨.type T::args,[]⟩) (λr a8=>match r with|.ok (.ret v)=>Q₁ v a8|_=>False) s)
 (WT:∀obj bw,Q₁ obj bw->bw.TypeIs obj T/\argsOk Ac ⟨obj::args,[]⟩/\wpN (bp prog w) A.in1.in1 (Io ⟨obj::args,[]⟩) (λcW a8=>cW=.done (.ret .none)/\Q obj a8) hZ bw):
 wpN (bp prog w) A (cF (.type T) args) Q E s:=by
 obtain⟨c,agZ,WM⟩:=pB.mro
 have WJ:=pB.made
 have Fl:=pB.sub
 refine A' (qQ rfl ?_)
 show wpN _ _ (callAny (.type T) _) _ _ _
 refine cS ⟨Code.quiet_builtin _ (by decide+kernel),JQ (by rfl) F.entry_type_call ?_⟩
 rw[Around.under_plain (weight_type_call_type T args []) rfl]
 have h1:=pB.notType
 have h2:=pB.canCreate
 unfold Builtin.«type.__call__»
 dsimp only
 first|refine jK (by rw[h1];exact gI) ?_|refine ml (by rw[h1];exact gI) ?_
 simp only[h2,Be,if_false,Wk,WM,WJ]
 refine bc (cS (bc (cS ?_)))
 first|refine jK (by simp) ?_|refine ml (by simp) ?_
 refine bc (cS ?_)
 dsimp only
 refine bc (cS (bc (eK (.of (wpAny_call (codeAny_mono WS λr bw aL=>?_))))))
 induction r with
 |error e=>exact aL.elim
 |ok fl=>induction fl with
  |ret obj=>
   obtain⟨hT,n1,Xd⟩:=WT _ _ aL
   dsimp only
   refine bc (.of (qz hT Fl ?_))
   first|refine jK (by decide) ?_|refine ml (by decide) ?_
   refine bc (eK ?_)
   simp only[callSpecial?]
   refine bc (.of (mG hT pB.init.lookup ?_))
   simp only[pB.init.bind]
   refine eK (bc (cS (bc ?_)))
   refine A' (SR (by simpa[nc] using Zr) pB.init.plain Ur (.of (pB.init.check _ _ _ _ _ _ _ _ hT n1 ?_)))
   refine cX Xd (λcW dk hf=>?_) λ_ _ h=>h.elim
   obtain⟨rfl,cn⟩:=hf
   refine cS ?_
   dsimp only
   first|refine jK (by decide) ?_|refine ml (by decide) ?_
   exact cS cn
  |_=>exact aL.elim
end
end Internal
namespace Internal
open PySem PySem.W PyProof.Rows PySem.Calls PySem.SeqAt
set_option maxRecDepth 1000000 in
set_option maxHeartbeats 4000000 in
theorem RZ:("bytearray.__new__".splitOn ".__new__").headD ""="bytearray":=by simp+decide [String.splitOn,String.splitOnAux]
theorem R0:("bytearray.__release_buffer__".endsWith ("."++"__release_buffer__"))=true:=by decide+kernel
set_option linter.deprecated false in
theorem R1:("bytearray.__release_buffer__".dropRight ("__release_buffer__".length+1))="bytearray":=by decide+kernel
theorem RM:("bytearray.__buffer__".endsWith ("."++"__buffer__"))=true:=by decide+kernel
set_option linter.deprecated false in
theorem RN:("bytearray.__buffer__".dropRight ("__buffer__".length+1))="bytearray":=by decide+kernel
noncomputable abbrev kn(b:Array UInt8):bM:={cls:=.type "bytearray",data:=.bytearray b 0}
section
variable{prog:cD}{w:cm}{A:b8}{E:af->aB->Prop}{s:aB}
theorem SY(a:af){Q₁:af->aB->Prop}
 (h:Q₁ (.ref s.heap.objs.size) {s with heap:=s.heap.push (kn #[])}):
 codeAny (bp prog w) A (.call (.builtin "bytearray.__new__") ⟨[.type "bytearray",a],[]⟩) (λr a8=>match r with|.ok (.ret v)=>Q₁ v a8|_=>False) s:=by
 refine codeAny_of_tree ?_
 show wpAny _ A.in1 (do vG "bytearray.__new__" ⟨[.type "bytearray",a],[]⟩;again (.builtin "bytearray.__new__" ⟨[.type "bytearray",a],[]⟩)) _ _ s
 refine aP (gK (RW a) (bI ⟨vH Jq _,codeAny_builtin_stack RP rfl λp st=>?_⟩))
 rw[vj Jq _]
 have Fl:=CU
 have Fb:=RZ
 obtain⟨hp,g,d,cw,os⟩:=s
 simp only[Fb]
 wp_walk
 exact h
theorem R5{a:a6}{Q:Bool->aB->Prop}(hT:s.TypeIs (.ref a) "bytearray")(h:Q true s):wpAny (bp prog w) A (Bj (.ref a) "__release_buffer__") Q E s:=by
 unfold Bj
 refine aP (mG hT R2 ?_)
 dsimp only
 rw[if_neg (by rw[R0];decide),R1]
 exact qz hT CU h
theorem R4{a:a6}{Q:Bool->aB->Prop}(hT:s.TypeIs (.ref a) "bytearray")(h:Q true s):wpAny (bp prog w) A (Bj (.ref a) "__buffer__") Q E s:=by
 unfold Bj
 refine aP (mG hT CT ?_)
 dsimp only
 rw[if_neg (by rw[RM];decide),RN]
 exact qz hT CU h
theorem Jo{a:a6}{Q:Bool->aB->Prop}(hT:s.TypeIs (.ref a) "bytearray")(h:Q false s):wpAny (bp prog w) A (Qg (.ref a)) Q E s:=by
 unfold Qg
 exact aP (R5 hT (bI h))
theorem CV{a:a6}{b:Array UInt8}{f:Array UInt8->Array UInt8}{Q:Unit->aB->Prop}(aK:s.heap.get? a=some (kn b))(hz:(f b).size<=hj)
 (h:∀h',h'.get? a=some (kn (f b))->iF a s.heap h'->Q () {s with heap:=h'}):wpAny (bp prog w) A (Builtin.Bytes.write (.ref a) f) Q E s:=by
 show wpAny _ _ (updateBytearray a f) _ _ _
 unfold updateBytearray
 refine aP (tG aK ?_)
 dsimp only
 refine aP (wpAny_update aK ?_)
 have wO:(s.heap.update a (Obj.mapBytearray f)).get? a=some (kn (f b)):=x9 _ aK rfl
 refine wpAny_lookBehind wO ?_ (h _ wO (nt ..))
 show(if(f b).size>hj then _ else _)=none
 rw[if_neg (by exact aE.abQ hz)]
theorem Jp{a:a6}{b:Array UInt8}{Q:Array UInt8->aB->Prop}(aK:s.heap.get? a=some (kn b))(h:Q b s):wpAny (bp prog w) A (Bh (.ref a)) Q E s:=by
 unfold Bh Builtin.Bytes.payload?
 refine aP (aP (tG aK ?_))
 exact bI (bI h)
theorem RT{a:a6}{b:Array UInt8}{Q:Nat->aB->Prop}(aK:s.heap.get? a=some (kn b))(h:Q 0 s):wpAny (bp prog w) A (Qe (.ref a)) Q E s:=by
 unfold Qe
 exact aP (tG aK (bI h))
theorem RU{a:a6}{n:Int}{t:d4}{Q:Fin->aB->Prop}(a0:A.guards=some [])(aK:s.heap.get? a=some (kn #[]))(ao:0<=n)(h1:n<=1000000)
 (h:∀h',h'.get? a=some (kn (Bc n.toNat 0))->iF a s.heap h'->Q (.done (.ret .none)) {s with heap:=h'}):
 wpN (bp prog w) A (Builtin.«bytearray.__init__» ⟨[.ref a,.int n t],[]⟩) Q hZ s:=by
 have hT:s.TypeIs (.ref a) "bytearray":=⟨_,aK,rfl⟩
 unfold Builtin.«bytearray.__init__»
 refine bc (.of (Jo hT ?_))
 first|refine jK (by decide) ?_|refine ml (by decide) ?_
 refine bc (.of (gK (RL _) ?_))
 dsimp only
 refine bc (cS (bc (cS ?_)))
 refine bc (bc (Ux a0 ?_))
 refine wpN.of ?_
 refine aP (RT aK (bI ?_))
 first|refine jK (by decide) ?_|refine ml (by decide) ?_
 refine wpN.of ?_
 refine aP (CV (f:=λ_=> #[]) aK (by simp) λh1 mh Mg=>?_)
 refine aP (gK (a:=none) rfl ?_)
 refine jz rfl ?_
 refine aP ?_
 rw[if_neg (by decide),if_neg (by decide)]
 refine bI ?_
 have EK:({s with heap:=h1}:aB).TypeIs (.int n t) "int":=rN _ n t
 refine aP (mG EK Hs.lookup ?_)
 first|refine j2 (by rfl) ?_|refine uy (by rfl) ?_
 refine aP (wpAny_attempt (gK (a:=n) rfl ?_))
 dsimp only
 have hf:vk n=true:=by simp only[vk,o4,decide_eq_true_eq];omega
 have aJ:x6 n.toNat=false:=by unfold x6 hj;simp;omega
 have hm:(n==2^63-1)=false:=by rw[beq_eq_false_iff_ne];omega
 rw[hf,aJ,hm,if_neg (by decide),if_neg (by exact aE.AN ao),if_neg (by decide),if_neg (by decide)]
 refine aP (mF ?_)
 by_cases a3:n>0
 .first|refine j2 a3 ?_|refine uy a3 ?_
  refine aP (CV (f:=λ_=>Bc n.toNat 0) mh (by rw[Array.size_replicate];unfold hj;omega) λh2 sF Fi=>?_)
  exact bI (h _ sF (Mg.trans Fi))
 .first|refine jK a3 ?_|refine ml a3 ?_
  have:n=0:=by exact aE.abR ao a3
  subst this
  exact bI (h _ mh Mg)
theorem Sy{n:Int}{t:d4}{Q:af->aB->Prop}(a0:A.guards=some [])(ao:0<=n)(h1:n<=1000000)
 (h:∀h',h'.get? s.heap.objs.size=some (kn (Bc n.toNat 0))->(∀b o,s.heap.get? b=some o->h'.get? b=some o)->Q (.ref s.heap.objs.size) {s with heap:=h'}):
 wpN (bp prog w) A (cF (.type "bytearray") [.int n t]) Q E s:=by
 refine Sx (Q₁:=λobj bw=>obj=.ref s.heap.objs.size/\bw={s with heap:=s.heap.push (kn #[])}) RO (R7 _) RQ (by decide+kernel) (SY _ ⟨rfl,rfl⟩) λobj bw h₁=>?_
 obtain⟨rfl,rfl⟩:=h₁
 have iA:(s.heap.push (kn #[])).get? s.heap.objs.size=some (kn #[]):=hA _ rfl
 refine⟨⟨_,iA,rfl⟩,RJ _ _,RU a0 iA ao h1 λh' ho jJ=>⟨rfl,h h' ho λb o e=>?_⟩⟩
 exact(jJ.2 b (eL (ka e))).trans (jR _ e)
theorem R3{a:a6}{b:Array UInt8}{i x:Int}{t u:d4}{Q:Unit->aB->Prop}(aK:s.heap.get? a=some (kn b))(ao:0<=i)(h1:i.toNat<b.size)(hz:b.size<=1000000)(Xn:0<=x)(Xo:x<256)
 (h:∀h',h'.get? a=some (kn (b.setIfInBounds i.toNat x.toNat.toUInt8))->iF a s.heap h'->Q () {s with heap:=h'}):wpAny (bp prog w) A (setItem (.ref a) (.int i t) (.int x u)) Q E s:=by
 have hT:s.TypeIs (.ref a) "bytearray":=⟨_,aK,rfl⟩
 unfold setItem
 refine ke ?_
 refine aP (wpAny_sequenceKey hT (by decide) ?_)
 refine aP (tE (name:=yn "__setitem__") hT Jr (lX Jr hT RS ?_ (RK _ _ _)))
 unfold Builtin.«bytearray.__setitem__»
 refine jz rfl ?_
 dsimp only
 have EK:s.TypeIs (.int i t) "int":=rN _ i t
 have hf:vk i=true:=by simp only[vk,o4,decide_eq_true_eq];omega
 refine aP ?_
 unfold Builtin.Bytes.subscript?
 refine aP (mG EK Hs.lookup ?_)
 refine jz rfl ?_
 refine aP (gK (a:=i) rfl ?_)
 rw[hf]
 refine jz rfl ?_
 refine bI ?_
 dsimp only
 refine aP ?_
 unfold Builtin.Bytes.byteValue
 refine aP (gK (a:=x) rfl ?_)
 refine jz (by simp only[Bool.or_eq_false_iff,decide_eq_false_iff_not];exact aE.abS Xn Xo) ?_
 refine bI ?_
 refine aP (Jp aK ?_)
 have hs:seqIndex? i b.size=some i.toNat:=by
  unfold seqIndex?
  have dQ:i<(b.size:Int):=by exact aE.abT h1
  simp[show ¬i<0 by exact aE.AN ao,ao,dQ]
 rw[hs]
 dsimp only
 refine aP (CV aK (by rw[Array.size_setIfInBounds];unfold hj;omega) λh' ho jJ=>?_)
 exact bI ⟨_,rfl,bI (h h' ho jJ)⟩
theorem Sp{a:a6}{b:Array UInt8}{Q:af->aB->Prop}(aK:s.heap.get? a=some (kn b))(hz:b.size<=1000000)
 (aW:∀eR k,Q (.bytes b eR) {s with toks:=k}):
 codeAny (bp prog w) A (.call (.builtin "bytes.__new__") ⟨[.type "bytes",.ref a],[]⟩) (wants Q E) s:=by
 refine codeAny_of_tree ?_
 show wpAny _ A.in1 (do vG "bytes.__new__" ⟨[.type "bytes",.ref a],[]⟩;again (.builtin "bytes.__new__" ⟨[.type "bytes",.ref a],[]⟩)) _ _ s
 refine aP (gK (PySem.F.bm_newCall _) (bI ⟨vH BQ _,BV PySem.F.bm_entry ?_⟩))
 rw[vj BQ _]
 have hT:s.TypeIs (.ref a) "bytearray":=⟨_,aK,rfl⟩
 unfold Builtin.«bytes.__new__»
 refine aP (gK (a:=true) rfl ?_)
 refine jz rfl ?_
 refine aP (gK PySem.F.bm_sub ?_)
 refine jz rfl ?_
 refine aP (gK (PySem.F.bm_bind _) ?_)
 refine aP (gK (a:=()) rfl ?_)
 refine aP (gK (a:=()) rfl ?_)
 refine jz rfl ?_
 refine aP (mG hT RX ?_)
 refine aP (aP ?_)
 show wpAny _ _ (load a>>=_) _ _ _
 refine aP (tG aK ?_)
 refine bI (bI ?_)
 refine jz rfl ?_
 refine aP (mG hT RY ?_)
 refine tB rfl ?_
 first
  |show wpAny _ _ (Bg "bytes.__new__" (.ref a) true>>=_) _ _ _
  |(refine aP ?_;show wpAny _ _ (Bg "bytes.__new__" (.ref a) true>>=_) _ _ _)
 refine aP ?_
 unfold Bg
 refine aP (mG hT CT ?_)
 refine aP (R4 hT ?_)
 refine jz rfl ?_
 refine aP (mG hT CT ?_)
 dsimp only
 refine aP (Jo hT ?_)
 refine jz rfl ?_
 refine aP (Jp aK ?_)
 refine bI ?_
 refine aP (mF ?_)
 refine aP (wpAny_mkBytes ?_ (by unfold hj;omega))
 show wpAny _ _ (if(vF "bytes"==vF "bytes")=true then _ else _) _ _ _
 refine tB (by decide) ?_
 first
  |exact bI (aW _ _)
  |exact aP (bI (bI (aW _ _)))
end
section
variable{prog:cD}{w:cm}{h₁:a9}{K:fH}{own:Bool}{env:dc}{ns:List aV}{k:Nat}
noncomputable def CS:b4
 |[.int n],σ=>if 0<=n/\n<=1000000 then some (.ref σ.next,σ.new (.eX (kc n.toNat 0))) else none
 |_,_=>none
theorem Y':OpOk prog w h₁ k (λvs=>cF (.type "bytearray") vs) CS:=
 .gv λW σ a bD r cu b7 aL=>.int (λa=>a::r) (λa=>a::cu) b7 λn t=>.end (λq=>_::q) (λq=>_::q) aL λA s Q E aH a5 R=>by
 obtain⟨a3,a5⟩:=aM.gX a5
 refine Sy aH.g a3.1 a3.2 λh' ho hk=>?_
 have ew:=R.free (bF s.heap.objs.size)
 exact dJ.to a5 _ _ h' s.toks (ag.ra ew) (hb _) ((R.n5 hk).alloc (x:=.eX (kc n.toNat 0)) ew ⟨_,ho⟩ (.eX (by rw[ho,List.toArray_replicate]))) F4
noncomputable def zq:b4
 |[.ref c],σ=>match σ.cells c with
  |some (.eX b)=>if b.length<=1000000 then some (.bytes b,σ) else none
  |_=>none
 |_,_=>none
theorem cO.Jm{α:Type}{x:Option cO}{f:List UInt8->Option α}{y:α}(e:(match x with|some (.eX b)=>f b|_=>none)=some y):∃b,x=some (.eX b)/\f b=some y:=by
 rcases x with _|(_|_|_|_|b)
 .exact au e
 .exact au e
 .exact au e
 .exact au e
 .exact au e
 .exact⟨b,rfl,e⟩
theorem Za:OpOk prog w h₁ k (λvs=>cF (.type "bytes") vs) zq:=
 .gv λW σ a bD r cu b7 aL=>.ref (λa=>a::r) (λa=>a::cu) b7 λc bD b7=>.end (λq=>_::q) (λq=>_::q) aL λA s Q E aH a5 R=>wpN.of<|by
 obtain⟨v,a4,e,a5⟩:=a5.cR
 obtain⟨b,az,e⟩:=cO.Jm (f:=λb=>if b.length<=1000000 then some (C.bytes b,σ) else none) e
 by_cases aJ:b.length<=1000000
 .rw[if_pos aJ] at e
  rw[<-Mp e,<-Mq e] at a5
  obtain⟨_,e7⟩:=b7.bt
  rw[e7]
  refine callType_codes (Q₁:=λobj bw=>bw.TypeIs obj "bytes"/\Q obj bw) vB (PySem.F.bm_typeCall _) PySem.F.entry_object_init
   (Sp (R.cell c _ az).2.bt aJ λeR k=>⟨PySem.W.typeIs_bytes _ _ _,dJ.at a5 R (.bytes _ _) _⟩) λobj bw h₁=>?_
  exact⟨h₁.1,PySem.F.args_object_init_2 obj _,object_init_meets vB.init.lookup vB.made (by decide) prog w A.in1 _ bw ⟨h₁.1,rfl,h₁.2⟩⟩
 .rw[if_neg aJ] at e;exact au e
noncomputable def p4(o i v:C)(σ:St):Option St:=match o,i,v with
 |.ref c,.int aj,.int x=>match σ.cells c with
  |some (.eX b)=>if 0<=aj/\aj.toNat<b.length/\b.length<=1000000/\0<=x/\x<256 then some (σ.aY c (.eX (b.set aj.toNat x.toNat.toUInt8))) else none
  |_=>none
 |_,_,_=>none
inductive nK (σ a4:St):C->C->C->Prop
 |mk (c:Nat) (aj x:Int) (b:List UInt8) (az:σ.cells c=some (.eX b)) (h:0<=aj/\aj.toNat<b.length/\b.length<=1000000/\0<=x/\x<256) (e:a4=σ.aY c (.eX (b.set aj.toNat x.toNat.toUInt8))):nK σ a4 (.ref c) (.int aj) (.int x)
theorem nK.Zo{σ a4:St}{c:Nat}{aj x:Int}(h:p4 (.ref c) (.int aj) (.int x) σ=some a4):nK σ a4 (.ref c) (.int aj) (.int x):=by
 obtain⟨b,az,e⟩:=cO.Jm (f:=λb=>if 0<=aj/\aj.toNat<b.length/\b.length<=1000000/\0<=x/\x<256 then some (σ.aY c (.eX (b.set aj.toNat x.toNat.toUInt8))) else none) h
 by_cases q:0<=aj/\aj.toNat<b.length/\b.length<=1000000/\0<=x/\x<256
 .rw[if_pos q] at e;exact .mk c aj x b az q (cx e).symm
 .rw[if_neg q] at e;exact au e
theorem nK.of{o i v:C}{σ a4:St}(h:p4 o i v σ=some a4):nK σ a4 o i v:=
 C.casesOn (motive_1:=λo=>p4 o i v σ=some a4->nK σ a4 (o) (i) (v)) o (λh=>au h) (λ_ h=>au h) (λ_ h=>au h) (λ_ h=>au h) (λ_ h=>au h) (λ_ h=>au h) (λ_ h=>au h) (λ_ h=>au h) (λ_ _ _ h=>au h) (λc=>C.casesOn (motive_1:=λi=>p4 (.ref c) i v σ=some a4->nK σ a4 (.ref c) (i) (v)) i (λh=>au h) (λ_ h=>au h) (λaj=>C.casesOn (motive_1:=λv=>p4 (.ref c) (.int aj) v σ=some a4->nK σ a4 (.ref c) (.int aj) (v)) v (λh=>au h) (λ_ h=>au h) (λx h=>nK.Zo h) (λ_ h=>au h) (λ_ h=>au h) (λ_ h=>au h) (λ_ h=>au h) (λ_ h=>au h) (λ_ _ _ h=>au h) (λ_ h=>au h) (λ_ h=>au h)) (λ_ h=>au h) (λ_ h=>au h) (λ_ h=>au h) (λ_ h=>au h) (λ_ h=>au h) (λ_ _ _ h=>au h) (λ_ h=>au h) (λ_ h=>au h)) (λ_ h=>au h) h
theorem ac1{o i v:C}{σ a4:St}(h:p4 o i v σ=some a4):∃c aj x b,o=.ref c/\i=.int aj/\v=.int x/\σ.cells c=some (.eX b)/\(0<=aj/\aj.toNat<b.length/\b.length<=1000000/\0<=x/\x<256)/\a4=σ.aY c (.eX (b.set aj.toNat x.toNat.toUInt8)):=
 nK.casesOn (motive:=λo i v _=>∃c aj x b,o=.ref c/\i=.int aj/\v=.int x/\σ.cells c=some (.eX b)/\(0<=aj/\aj.toNat<b.length/\b.length<=1000000/\0<=x/\x<256)/\a4=σ.aY c (.eX (b.set aj.toNat x.toNat.toUInt8))) (nK.of h) λc aj x b az h e=>⟨c,aj,x,b,rfl,rfl,rfl,az,h,e⟩
noncomputable def xO(D fI o8:cy):ck:=λaa σ=>(D aa σ).bind λv=>(fI aa v.2).bind λo=>(o8 aa o.2).bind λi=>(p4 o.1 i.1 v.1 i.2).map λa4=>(.next,aa,a4)
theorem adR{o i e:bX}{iC pos:bz}{D fI o8:cy}(h:bx prog w h₁ true env ns k (aR e env) D)(aK:bx prog w h₁ true env ns k (aR o env) fI)(hi:bx prog w h₁ true env ns k (aR i env) o8)
 (hs:autoParam (qu e (some (.Subscript o i iC)) pos.line env=pure false) aN._auto_1):SOk prog w h₁ env ns k (hg (.Assign [.Subscript o i iC] e pos) env) (xO D fI o8):=by
 refine .of λA W aa σ s Q E aH ar R=>PM (h.go aH ar.bind R λeS cH ar bC d5 h1 c0 bO ab bK bo=>aK.go aH (aM.bind ar) bK λhO bN ar bR dR h2 tk2 bh aF cQ bY=>hi.go aH (aM.bind ar) cQ λqa dz ar cf eG aU df dh bE dO ea=>wpN.of<|fK λG cc=>?_) hs
 have bo:=(bo.bb bh.1 aF).bb dh.1 bE
 have bY:=bY.bb dh.1 bE
 obtain⟨qg,gO,aW⟩:=(aM.map ar).cR
 obtain⟨c,aj,x,b,pl,DJ,DK,az,ai,Uk⟩:=ac1 gO
 rw[show hO=_ from pl] at bY
 rw[show qa=_ from DJ] at ea
 rw[show eS=_ from DK] at bo
 rw[Uk] at aW
 obtain⟨_,pl⟩:=bY.bt
 obtain⟨t,DJ⟩:=ea.bt
 obtain⟨u,DK⟩:=bo.bt
 have g:aU.get? (cf.al c)=some (kn b.toArray):=(dO.bW.cell c _ az).2.bt
 refine cc ?_
 rw[pl,DJ,DK]
 refine R3 (s:={s with heap:=aU,toks:=df}) g ai.1 ai.2.1 ai.2.2.1 ai.2.2.2.1 ai.2.2.2.2 λh' iz hs=>?_
 exact hl.to aW cf _ h' df ((bO.trans ab bh).trans (cI ab aF) dh) (cI ab (cI aF bE)) (dO.oh az hs (.eX (by rw[iz,List.setIfInBounds_toArray]))) trivial
end
end Internal
namespace Internal
open PySem PySem.W PyProof.Rows PySem.Calls PySem.SeqAt
variable{prog:cD}{w:cm}{h₁:a9}{K:fH}{own:Bool}{env:dc}{ns:List aV}{k:Nat}
noncomputable def andM(dZ:cy)(aa:Loc):C×St->Option (C×St)
 |(.bool true,cH)=>dZ aa cH
 |(.bool false,cH)=>some (.bool false,cH)
 |_=>none
noncomputable def oA(et dZ:cy):cy:=λaa σ=>(et aa σ).bind (andM dZ aa)
theorem DL{bj bg:bX}{pos:bz}{et dZ:cy}(h1:bx prog w h₁ own env ns k (aR bj env) et)(h2:bx prog w h₁ own env ns k (aR bg env) dZ):
 bx prog w h₁ own env ns k (aR (.BoolOp .And [bj,bg] pos) env) (oA et dZ):=by
 refine .of λA W aa σ s Q E aH ar R=>?_
 show wpN _ A (do
  let v<-aR bj env
  lW pos
  let c<-mE [v] (truthy v)
  match BoolOp.And,c with
  |.And,false|.Or,true=>pure v
  |_,_=>aR bg env) _ _ _
 refine bc (h1.go aH ar.bind R λeS cH ar bC d5 q1 c0 bO ab bK bo=>?_)
 obtain⟨b,e,ar⟩:=bo.EI (λv=>aM (andM dZ aa (v,cH)) _) ar
 rw[e]
 refine bc (eP (bc (eK (.of (qA ?_)))))
 rcases b with _|_
 .exact cS (d8.to ar bC _ q1 c0 bO ab bK (.bool _))
 .exact h2.go aH ar bK λv a4 c bR dR h2 tk2 bh aF cQ bY=>c bR dR h2 tk2 (bO.trans ab bh) (cI ab aF) cQ bY
noncomputable def JC:C×St->Option (Bool×St)
 |(.bool x,agG)=>some (x,agG)
 |_=>none
noncomputable def JM(nH:b4)(dZ:cy)(aa:Loc)(b:C):C×St->Option (Bool×St)
 |(.bool true,dz)=>(dZ aa dz).bind λc=>(nH [b,c.1] c.2).bind JC
 |(.bool false,dz)=>some (false,dz)
 |_=>none
noncomputable def wj(oy nH:b4)(yx et dZ:cy):gj:=λaa σ=>(yx aa σ).bind λa=>(et aa a.2).bind λb=>(oy [a.1,b.1] b.2).bind (JM nH dZ aa b.1)
theorem RI{l bo bY:bX}{rh ee:CmpOp}{pos:bz}{gR:c8 af}{yx et dZ:cy}{oy nH:b4}(ao:bx prog w h₁ own env ns k (aR l env) yx)(h1:bx prog w h₁ own env ns k (aR bo env) et)(h2:bx prog w h₁ own env ns k (aR bY env) dZ)
 (QB:OpOk prog w h₁ k (fF (hP rh)) oy)(QC:OpOk prog w h₁ k (fF (hP ee)) nH)(hm:autoParam (lastMarks [rh,ee] [bo,bY]=false) Bb._auto_1):
 BOk prog w h₁ own env ns k (gT (.Compare l [rh,ee] [bo,bY] pos) env gR) (wj oy nH yx et dZ):=by
 refine .of λA W aa σ s Q E aH ar R=>?_
 show wpN _ A (do testChain pos (<-aR l env) [rh,ee] (markedEach [rh,ee] [bo,bY] (evalEach [bo,bY] env))) Q E s
 rw[markedEach_of_false _ _ _ hm]
 refine bc (ao.go aH ar.bind R λkB agF ar jd A7 fg tk jl I hR mv=>?_)
 show wpN _ A (do
  let gf<-mE [A7] (aR bo env)
  lW pos
  let c<-mE [A7,gf] (hP rh A7 gf)
  release [A7,gf] [c]
  if<-mE [c,gf] (truthy c) then testChain pos gf [ee] [aR bY env] else pure false) Q E _
 refine bc (eK (h1.go aH (aM.bind ar) hR λeS cH ar bC d5 q1 c0 bO ab bK bo=>?_))
 refine bc (eP (bc (eK ?_)))
 refine bK.od (s:={s with heap:=q1,toks:=c0}) QB aH (aM.bind ar) (.cons (mv.bb bO.1 ab) (.cons bo .nil)) λhO bN ar bR dR zV tk2 bh aF cQ adN=>?_
 refine bc (.of (wpAny_release' (bc (eK ?_))))
 have j3:=(jl.trans I bO).trans (cI I ab) bh
 have AD:=cI I (cI ab aF)
 obtain⟨b,e,ar⟩:=adN.EI (λv=>aM (JM nH dZ aa eS (v,bN)) _) ar
 rw[e]
 refine .of (qA ?_)
 rcases b with _|_
 .exact cS (d8.to ar bR _ zV tk2 j3 AD cQ rfl)
 .show wpN _ A (do
   let gf<-mE [d5] (aR bY env)
   lW pos
   let c<-operate [d5,gf] (hP ee d5 gf)
   mE [c] (truthy c)) Q E _
  refine bc (eK (h2.go aH (aM.bind ar) cQ λqa dz ar cf eG VY df dh bE dO ea=>?_))
  refine bc (eP (bc (xZ ?_)))
  refine dO.od (s:={s with heap:=VY,toks:=df}) QC aH (aM.bind ar) (.cons ((bo.bb bh.1 aF).bb dh.1 bE) (.cons ea .nil)) λvd qg ar QN ag1 V0 ru oP d1 eM tg=>?_
  obtain⟨b,e,ar⟩:=tg.EI (λv=>aM (JC (v,qg)) _) ar
  rw[e]
  exact eK (.of (qA (d8.to ar QN _ V0 ru ((j3.trans AD dh).trans (cI AD bE) oP) (cI AD (cI bE d1)) eM rfl)))
theorem JA:vD "bytes" "join" "bytes.join":=
 .of (owner:="bytes") (n:="join") (by rw[qw,qo];kernel_rfl) (by decide+kernel) (by decide+kernel) (by decide+kernel)
  (by first|exact .inl (by decide+kernel)|exact .inr (by decide+kernel)) (by rw[rM];kernel_rfl)
theorem Sj:qp table "bytes.join"=some Builtin.«bytes.join»:=by first|exact entryFor_of_fast (by kernel_rfl)|exact BW (by kernel_rfl)
theorem Sh(a b:af):argsOk "bytes.join" ⟨[a,b],[]⟩:=by
 unfold argsOk;rw[signature?_of (id:="bytes.join") (n:=['n','i','o','j']) (o:=['s','e','t','y','b']) (by kernel_rfl) FB.owner_bytes];kernel_rfl
theorem Sk:typeOf (.builtin "bytes.join")=pure (.type "method_descriptor"):=by kernel_rfl
theorem Si:PlainAttrs "bytes":=FB.plainAttrs_bytes
noncomputable def t4(ps:List (Array UInt8)):Array UInt8:=ps.foldl (·++·) #[]
theorem XX(ps:List (Array UInt8)):Builtin.Bytes.joined #[] ps=t4 ps:=by
 unfold Builtin.Bytes.joined t4
 have key:∀(ps:List (Array UInt8)) (n:Nat) (acc:Array UInt8),(ps.zipIdx n).foldl (λcR (x:Array UInt8×Nat)=>(if x.2>0 then cR++ #[] else cR)++x.1) acc=ps.foldl (·++·) acc:=by
  intro ps
  induction ps with
  |nil=>intro n acc;rfl
  |cons p r a7=>
   intro n acc
   rw[List.zipIdx_cons,qi,qi,a7]
   congr 1
   split<;>simp
 exact key ps 0 #[]
theorem ae6{b:Array UInt8}{t:d4}{id:String}:Qh id (.bytes b t) 0=pure (some (b,none)):=by
 unfold Qh Builtin.Bytes.takeBuffer?
 have ai:Bg id (.bytes b t) (0==Builtin.Bytes.fullReadOnly)=pure (some b):=KBy.buffer_eq
 rw[KBy.special_eq KBy.look_buffer,KBy.own_buffer,ai]
 rfl
section
variable{A:b8}{E:af->aB->Prop}{s:aB}
inductive ox:List af->List (Array UInt8)->Prop
 |nil:ox [] []
 |cons {b:Array UInt8} {t:d4} {vs:List af} {br:List (Array UInt8)}:ox vs br->ox (.bytes b t::vs) (b::br)
theorem ox.at{vs:List af}{br:List (Array UInt8)}(h:ox vs br):∀{i:Nat},i<vs.length->∃b t,vs[i]? =some (.bytes b t)/\br[i]? =some b:=by
 induction h with
 |nil=>intro i hi;simp at hi
 |@cons b t vs br _ a7=>
  intro i hi
  induction i with
  |zero=>exact⟨b,t,rfl,rfl⟩
  |succ i=>simpa using a7 (by simpa using hi)
theorem ox.length{vs:List af}{br:List (Array UInt8)}(h:ox vs br):vs.length=br.length:=by
 induction h with
 |nil=>rfl
 |cons _ a7=>simp[a7]
noncomputable def xK(br:List (Array UInt8)):Nat:=br.foldl (λn b=>n+b.size) 0
theorem O5(br:List (Array UInt8)):(t4 br).size=xK br:=by
 have key:∀(br:List (Array UInt8)) (a:Array UInt8),(br.foldl (·++·) a).size=br.foldl (λn b=>n+b.size) a.size:=by
  intro br
  induction br with
  |nil=>intro n;rfl
  |cons b r a7=>intro n;rw[qi,a7,qi,Array.size_append]
 exact key br #[]
theorem aff{br:List (Array UInt8)}{ps:Array (Array UInt8)}(h:ps.toList=br):ps.foldl (λn b=>n+b.size) ((#[]:Array UInt8).size*(ps.size-1))=xK br:=by
 rw[<-Array.foldl_toList,h]
 unfold xK;congr 1;simp
theorem My{M:iJ}{Q:Unit->aB->Prop}{keep:List af}(h:Q () s):∀{cw:List (af×Option af)},(∀p∈cw,∃c u,p=(qn c u,none))->wpAny M A (Qf cw keep) Q E s
 |[],_=>bI h
 |p::r,hp=>by
  obtain⟨c,u,rfl⟩:=hp p (.head _)
  unfold Qf
  exact aP (wpAny_letGo (My h λq cn=>hp q (.tail _ cn)))
theorem acC{α:Type}{items:Array af}{f:af->α}{b:Array af->α}{P:α->Prop}(h1:∀x,items= #[x]->P (f x))(ao:P (b items)):P (match(generalizing:=false) items with|#[x]=>f x|y=>b y):=by
 rcases items with⟨_|⟨x,_|⟨y,r⟩⟩⟩
 .exact ao
 .exact h1 x rfl
 .exact ao
theorem Y3{cw:List (af×Option af)}(uw:∀p∈cw,∃c u,p=(qn c u,none)):(cw.any λx=>x.1.onHeap)=false:=by
 rw[List.any_eq_false]
 intro p hp
 obtain⟨c,u,e⟩:=uw p hp
 rw[e];exact gI
theorem join_tree{l:a6}{o:bM}{items:Array af}{n:Nat}{br:List (Array UInt8)}{t:d4}{Q:af->aB->Prop}(aK:s.heap.get? l=some o)(az:o.cls=.type "list")(aD:o.data=.seq items n)(ai:ox items.toList br)(hz:xK br<=1000000)
 (aW:∀eR k,Q (.bytes (t4 br) eR) {s with toks:=k}):
 wpAny (bp prog w) A (Builtin.«bytes.join» ⟨[.bytes #[] t,.ref l],[]⟩) (λcW a8=>∃v,cW=.done (.ret v)/\Q v a8) E s:=by
 have hT:s.TypeIs (.ref l) "list":=⟨o,aK,az⟩
 show wpAny _ _ (Builtin.Bytes.joinM .bytes ⟨[.bytes #[] t,.ref l],[]⟩) _ _ _
 unfold Builtin.Bytes.joinM
 refine aP (gK (a:=(.bytes #[] t,.ref l)) rfl ?_)
 dsimp only
 refine tB (by decide) ?_
 refine aP ?_
 unfold Builtin.Bytes.joinItems
 refine aP (yt hT ?_)
 refine tB (by decide) ?_
 refine bI ?_
 refine aP (B0 aK aD ?_)
 dsimp only
 refine tB (by decide) ?_
 refine acC (P:=λm=>wpAny (bp prog w) A m (λcW a8=>∃v,cW=Fin.done (.ret v)/\Q v a8) E s) (λx e=>?_) ?_
 .rw[e] at ai
  obtain⟨b,u,h1,h2⟩:=ai.at (i:=0) (Nat.zero_lt_one)
  rw[show x=_ from cx h1]
  refine aP (yt (ov _ _ _) ?_)
  refine tB (by decide) ?_
  refine aP (mF (bI ⟨_,rfl,?_⟩))
  have q:=aW u s.toks
  rw[List.length_eq_one_iff.mp ai.length.symm|>.choose_spec] at q h2
  rw[cx h2] at q
  unfold t4 at q
  rw[qi,List.foldl_nil,Array.empty_append] at q
  exact q
 have hsz:=ai.length
 have Xg:∀{i:Nat},i<items.size->∃b t,items.getD i .none=.bytes b t/\br[i]? =some b:=λ{i} hi=>by
  obtain⟨b,t,h1,h2⟩:=ai.at (i:=i) (by rw[fN];exact hi)
  rw[o3] at h1
  exact⟨b,t,by rw[Array.getD_eq_getD_getElem?,h1];rfl,h2⟩
 refine aP (Ey _ (λi b a8=>a8=s/\i<=br.length/\b.1.toList=br.take i/\∀p∈b.2,∃c u,p=(qn c u,none)) _ _ (λi b a8 hi h=>?_) (λb a8 h=>?_) _ ⟨rfl,jx _,rfl,λp hp=>nomatch hp⟩)
 .obtain⟨es,_,wW,uw⟩:=h
  rw[es]
  refine aP (B0 aK aD ?_)
  dsimp only
  obtain⟨c,u,bj,bg⟩:=Xg hi
  rw[bj]
  refine jz (by rw[Y3 uw];decide) ?_
  refine aP (ke (gK ae6 ?_))
  dsimp only
  refine aP (B0 aK aD ?_)
  dsimp only
  refine jz (bne_self_eq_false _) ?_
  refine bI ⟨rfl,by rw[<-hsz,fN];exact hi,?_,λp hp=>?_⟩
  .rw[Hh,wW,List.take_add_one,bg];rfl
  .rcases iV.mp hp with hp|hp
   .exact uw p hp
   .rw[gi] at hp;exact⟨_,_,hp⟩
 .obtain⟨es,_,wW,uw⟩:=h
  rw[es]
  rw[<-fN,hsz,List.take_length] at wW
  refine aP (bI ?_)
  refine jz (by
   rw[aff wW];unfold x6 hj;simp;exact aE.abU hz) ?_
  rw[XX,wW]
  refine aP (wpAny_mkBytes ?_ (by rw[O5];unfold hj;omega))
  refine aP (ke (wpAny_point ?_))
  refine aP (My (bI ⟨_,rfl,aW _ _⟩) uw)
end
noncomputable def bytesOf:List C->Option (List (List UInt8))
 |[]=>some []
 |.bytes b::r=>(bytesOf r).map λl=>b::l
 |_=>none
theorem Sr{W:ag}{n:Nat}{v:C}{ax:af}{vs:List C}{l:List (List UInt8)}(a:aQ prog w W n v ax)(e:bytesOf (v::vs)=some l):∃b t q,ax=.bytes b t/\bytesOf vs=some q/\l.map qm=b::q.map qm:=
 aQ.casesOn (motive_1:=λv ax _=>bytesOf (v::vs)=some l->∃b t q,ax=.bytes b t/\bytesOf vs=some q/\l.map qm=b::q.map qm) a (λe=>au e) (λ_ e=>au e) (λ_ _ e=>au e) (λ_ _ e=>au e)
  (λb t e=>by obtain⟨q,cn,e⟩:=hc.mp e;exact⟨_,t,q,rfl,cn,e▸rfl⟩) (λ_ _ e=>au e) (λ_ _ _ _ e=>au e) (λ_ _ _ _ e=>au e) (λ_ e=>au e) (λ_ e=>au e) (λ_ e=>au e) e
theorem Ss{W:ag}{n:Nat}{vs:List C}{bG:List af}{l:List (List UInt8)}(r:bH prog w W n vs bG)(e:bytesOf vs=some l):ox bG (l.map qm):=
 r.ind (P:=λvs bG=>∀l,bytesOf vs=some l->ox bG (l.map qm)) (λl e=>cx e▸.nil) (λa _ a7 l e=>by
  obtain⟨b,t,q,bj,cn,bg⟩:=Sr a e
  rw[bj,bg];exact .cons (a7 q cn)) l e
theorem JI(l:List (List UInt8)):t4 (l.map qm)=l.flatten.toArray:=by
 have key:∀(l:List (List UInt8)) (a:List UInt8),(l.map qm).foldl (·++·) a.toArray=(a++l.flatten).toArray:=by
  intro l
  induction l with
  |nil=>intro a;simp
  |cons b r a7=>intro a;rw[jw,qi,List.append_toArray,a7,BA,o6]
 exact key l []
theorem aeF(l:List (List UInt8)):xK (l.map qm)=l.flatten.length:=by
 rw[<-O5,JI];simp
noncomputable def Ah:b4
 |[.bytes [],v],σ=>(fU v σ).bind λvs=>(bytesOf vs).bind λl=>if l.flatten.length<=1000000 then some (.bytes l.flatten,σ) else none
 |_,_=>none
theorem dB.Y1(c:C->List C)(cK:af->List af){t:List af->c8 af}{F:b4}{W:ag}{σ:St}{a:C}{bD:af}(r:aQ prog w W σ.next a bD)(y:∀u,dB prog w h₁ k t F W σ (c (.bytes [])) (cK (.bytes #[] u)))(YO:autoParam (∀x y aC,aM (F (c (.bytes (x::y))) σ) aC->False) vh._auto_1)
 (iR:autoParam (∀aC,aM (F (c .none) σ) aC->False) kH._auto_1)(il:autoParam (∀x aC,aM (F (c (.bool x)) σ) aC->False) dj._auto_1)(jn:autoParam (∀x aC,aM (F (c (.int x)) σ) aC->False) dj._auto_1)(ir:autoParam (∀x aC,aM (F (c (.str x)) σ) aC->False) dj._auto_1)
 (j7:autoParam (∀x aC,aM (F (c (.bA x)) σ) aC->False) dj._auto_1)(j6:autoParam (∀x aC,aM (F (c (.bB x)) σ) aC->False) dj._auto_1)(iQ:autoParam (∀x aC,aM (F (c (.cV x)) σ) aC->False) dj._auto_1)
 (iq:autoParam (∀x y z aC,aM (F (c (.gc x y z)) σ) aC->False) rB._auto_1)(k3:autoParam (∀x aC,aM (F (c (.ref x)) σ) aC->False) dj._auto_1)(ip:autoParam (∀x aC,aM (F (c (.cb x)) σ) aC->False) dj._auto_1):dB prog w h₁ k t F W σ (c a) (cK bD):=
 .bytes c cK r (λx u=>Bx (motive:=λx=>dB prog w h₁ k t F W σ (c (.bytes x)) (cK (.bytes x.toArray u))) x (y u) λa b=>.c5 (YO a b)) iR il jn ir j7 j6 iQ iq k3 ip
theorem Zg:OpOk prog w h₁ k (λvs=>cF (.builtin "bytes.join") vs) Ah:=
 .gv λW σ a bD r cu b7 aL=>.Y1 (λa=>a::r) (λa=>a::cu) b7 λu=>.more (λr=>_::r) (λr=>_::r) aL λb b1 q el dd cn=>.end (λq=>_::_::q) (λq=>_::_::q) cn λA s Q E aH a5 R=>wpN.of<|by
 obtain⟨vs,a',a5⟩:=(aM.iy a5).cR
 obtain⟨l,aJ,a5⟩:=(aM.iy a5).cR
 obtain⟨hz,a5⟩:=aM.gX a5
 obtain⟨a,items,e,⟨o,aK,az,n,aD⟩,q⟩:=ik R dd a'
 rw[e]
 refine lX JA (ov _ _ _) Sj (join_tree aK az aD (Ss q aJ) (by rw[aeF];exact hz) λeR k0=>?_) (Sh _ _)
 rw[JI]
 exact dJ.at a5 R (.bytes _ _) _
end Internal
namespace Internal
open PySem PySem.W PyProof.Rows PySem.Calls PySem.SeqAt
section
variable{prog:cD}{w:cm}{A:b8}{E:af->aB->Prop}{s:aB}
theorem YY{it:a6}{b:Array UInt8}{t:d4}{i:Nat}{c:UInt8}{Q:af->aB->Prop}(hit:ya s.heap it b t i)(ay:b[i]? =some c)
 (aW:∀h',ya h' it b t (i+1)->iF it s.heap h'->Q (.int (c.toNat:Int) s.toks) {s with heap:=h',toks:=s.toks+1}):
 wpAny (bp prog w) A (Bm (.ref it)) Q E s:=by
 obtain⟨o,aK,az,aD⟩:=id hit
 unfold Bm
 refine aP (tE (name:=Hx "__next__") (Bv hit) Bw
  (lX Bw (Bv hit) KBw.entry_next ?_ (KBw.args_next _)))
 show wpAny _ _ (field (.ref it) 0>>=_) _ _ s
 refine aP (qy aK aD (x:=.bytes b t) rfl ?_)
 show wpAny _ _ (if(qn b t==kL)=true then _ else _) _ _ s
 first|refine jK (show ¬((qn b t==kL)=true) from gI) ?_|refine ml (show ¬((qn b t==kL)=true) from gI) ?_
 show wpAny _ _ (field (.ref it) 1>>=_) _ _ s
 refine aP (qy aK aD (x:=.int i 0) rfl ?_)
 refine aP (gK (a:=b) rfl ?_)
 simp only[tv,ay]
 refine aP (B1 aK aD (by simp) (aP (wpAny_mkInt (bI ⟨_,rfl,bI (aW _ ?_ (nt ..))⟩))))
 exact⟨_,x9 _ aK (Obj.isFreed_of_fields (BO aD _)),(Obj.cls_mapFields ..).trans az,by
  rw[BO aD];simp[jT]⟩
theorem YX{it:a6}{b:Array UInt8}{t:d4}{i:Nat}{Q:af->aB->Prop}(hh:A.handled=none)(hit:ya s.heap it b t i)(ay:b[i]? =none)
 (hE:∀h' e,Heap.ExtBut it s.heap h'->(∃o,h'.get? e=some o/\o.cls=.type "StopIteration")->E (.ref e) {s with heap:=h'}):
 wpAny (bp prog w) A (Bm (.ref it)) Q E s:=by
 obtain⟨o,aK,az,aD⟩:=id hit
 unfold Bm
 refine aP (tE (name:=Hx "__next__") (Bv hit) Bw
  (lX Bw (Bv hit) KBw.entry_next ?_ (KBw.args_next _)))
 show wpAny _ _ (field (.ref it) 0>>=_) _ _ s
 refine aP (qy aK aD (x:=.bytes b t) rfl ?_)
 show wpAny _ _ (if(qn b t==kL)=true then _ else _) _ _ s
 first|refine jK (show ¬((qn b t==kL)=true) from gI) ?_|refine ml (show ¬((qn b t==kL)=true) from gI) ?_
 show wpAny _ _ (field (.ref it) 1>>=_) _ _ s
 refine aP (qy aK aD (x:=.int i 0) rfl ?_)
 refine aP (gK (a:=b) rfl ?_)
 simp only[tv,ay]
 refine aP (mF (aP (B1 aK aD (by simp) ?_)))
 show wpAny _ _ (newExc (.type "StopIteration") []>>=_) _ _ _
 refine aP ?_
 simp only[newExc,newTuple]
 refine aP (lb ?_ (by size_fits))
 refine aP (m:=BX _ _) (gK (a:=kL) (by first|rfl|(simp only[BX];rfl)) ?_)
 refine lb ?_ (by size_fits)
 simp only[raiseNew]
 refine aP (wpAny_handled ?_)
 first|rw[show A.in1.handled=none from hh]|rw[hh]
 refine aP (bI (wpAny_throw ?_))
 exact hE _ _ (((nt ..).extBut.push _).push _) ⟨_,hA _ rfl,rfl⟩
theorem Ub(hh:A.handled=none)(it:a6)(b:Array UInt8)(t:d4):
 Draws prog w A it [it] b.size (λi v=>∃c u,b[i]? =some c/\v=.int (c.toNat:Int) u) (λi h=>ya h it b t i) where
 live:=λ_ _ st=>let⟨o,aK,_⟩:=st;⟨o,aK⟩
 frame:=λ_ _ _ st hk=>let⟨o,aK,r⟩:=st;⟨o,hk it (by simp) o aK,r⟩
 item:=λi s Q E hi st aW=>by
  refine YY st (c:=b[i]) (by simp[hi]) λh' sD jJ=>?_
  exact aW _ h' (s.toks+1) ⟨_,_,by simp[hi],rfl⟩ sD jJ
 done:=λs Q E st hE=>YX hh st (by simp) hE
theorem ac0{b:Bool}{Q:Bool->aB->Prop}(h:∀b,Q b s):wpAny (bp prog w) A (pure b) Q E s:=bI (h b)
set_option maxHeartbeats 1000000 in
theorem YK(x:Array UInt8)(t:d4):
 Meets (Builtin.«enumerate.__new__» ⟨[.type "enumerate",.bytes x t],[]⟩) (λ_ R s=>
  R (.ok (.ret (.ref (s.heap.push {cls:=.type "bytes_iterator",data:=.fields #[.bytes x t,.int 0 0]}).objs.size)))
    {s with heap:=(s.heap.push {cls:=.type "bytes_iterator",data:=.fields #[.bytes x t,.int 0 0]}).push {cls:=.type "enumerate",data:=.fields #[.none,.bool false,.ref s.heap.objs.size,jT 0,.none,.none]}}):=
 .of_wp λprog w A R s h=>by
  obtain⟨hp,g,d,cw,os⟩:=s
  have Fl:=sub_enumerate
  wp_walk
  refine wpAny_stack_any λst=>ac0 λb=>?_
  cases b
  .wp_walk using KBw.pyIter_bytes
   exact⟨_,rfl,h⟩
  .wp_walk using KBw.pyIter_bytes
   exact⟨_,rfl,h⟩
theorem SA{x:Array UInt8}{t:d4}{Q:af->aB->Prop}
 (h:∀h',IsEnum h' (s.heap.objs.size+1) s.heap.objs.size 0 .none->ya h' s.heap.objs.size x t 0->h'.objs.size=s.heap.objs.size+2->
   (∀b o,s.heap.get? b=some o->h'.get? b=some o)->Q (.ref (s.heap.objs.size+1)) {s with heap:=h'}):
 wpAny (bp prog w) A (cF (.type "enumerate") [.bytes x t]) Q E s:=by
 refine callType_new F.called_enumerate (by decide) (F.typeCall_enumerate_1 _) (F.newCall_enumerate_1 _) (λobj=>F.args_object_init_2 obj _) F.entry_enumerate_new
  (YK x t) ?_
 have hz:(s.heap.push {cls:=.type "bytes_iterator",data:=.fields #[.bytes x t,.int 0 0]}).objs.size=s.heap.objs.size+1:=jS ..
 show _/\_
 rw[hz]
 have cj:IsEnum ((s.heap.push {cls:=.type "bytes_iterator",data:=.fields #[.bytes x t,.int 0 0]}).push
  {cls:=.type "enumerate",data:=.fields #[.none,.bool false,.ref s.heap.objs.size,jT 0,.none,.none]}) (s.heap.objs.size+1) s.heap.objs.size 0 .none:=by
  have:=hA (s.heap.push {cls:=.type "bytes_iterator",data:=.fields #[.bytes x t,.int 0 0]})
   (o:={cls:=.type "enumerate",data:=.fields #[.none,.bool false,.ref s.heap.objs.size,jT 0,.none,.none]}) rfl
  rw[hz] at this;exact this
 refine⟨⟨_,cj,rfl⟩,h _ cj ⟨_,jR _ (hA _ rfl),rfl,rfl⟩ (by rw[jS,hz]) λb o y=>jR _ (jR _ y)⟩
end
end Internal
namespace Internal
open PySem PySem.W PyProof.Rows PySem.Calls PySem.SeqAt
variable{prog:cD}{w:cm}{h₁:a9}{K:fH}{own:Bool}{env:dc}{ns:List aV}{k:Nat}
structure y4 (prog:cD) (w:cm) (h₁:a9) (src:C) (ax:af) (items:List C) (aO:a6) (P:Nat->bM->Prop):Prop where
 draw:∀(A:b8) (W:ag) (σ:St) (h:a9) (i:Nat) (o:bM),A.handled=.none->bL prog w h₁ W σ h->aQ prog w W σ.next src ax->eD src σ=some items->h.get? aO=some o->P i o->W.role aO=.fix o->
  ∃zO za S,Draws prog w A aO zO items.length za S/\S i h/\(∀aj v,za aj v->∃x,items[aj]? =some x/\aQ prog w W σ.next x v)/\(∀aj h',S aj h'->∃c',h'.get? aO=some c'/\P aj c')/\(∀e c',W.role e=.fix c'->e≠aO->e∉zO)
theorem Ua{src:C}{ax:af}{items:List C}{a aO:a6}(hs:src=.bB items\/∃c,src=.ref c)(mj:ax=.ref a):
 y4 prog w h₁ src ax items aO λi o=>o.cls=.type "list_iterator"/\o.data=.fields #[.ref a,.int i 0]:=by
 have b2:∀{σ:St},eD src σ=some items->src=.bB items\/∃c,src=.ref c/\σ.cells c=some (.list items):=by
  intro σ hi
  rcases hs with e|⟨c,e⟩
  .exact .inl e
  .rw[e] at hi;exact .inr ⟨c,e,cO.Af hi⟩
 refine⟨λA W σ h i o hh R a' hi aK c4 di=>?_⟩
 obtain⟨bD,dW,e,aJ,aL,Mf⟩:=FK R a' (b2 hi)
 rw[<-kM (mj.symm.trans e)] at aJ Mf
 have Jt:∀{b c'},b=a->W.role b=.fix c'->False:=λe rp=>by
  rw[e] at rp
  rcases Mf with⟨_,r⟩|⟨_,r⟩
  .exact bS.no r rp
  .exact bS.no r rp
 have len:dW.size=items.length:=by rw[<-fN];exact aL.length
 refine⟨_,_,_,len▸Draws.list hh aO a (λe=>Jt e.symm di) dW,⟨⟨o,aK,c4⟩,aJ⟩,λaj v c2=>?_,λaj h' iA=>?_,λe c' rp cj hm=>?_⟩
 .have dQ:aj<items.length:=by rw[<-len];exact(Array.getElem?_eq_some_iff.mp c2).1
  obtain⟨hO,h2,bY⟩:=aL.get (iG dQ)
  rw[o3,c2] at h2
  exact⟨_,iG dQ,cx h2▸bY⟩
 .obtain⟨⟨c',ho,nT⟩,_⟩:=iA
  exact⟨c',ho,nT⟩
 .rcases fX.mp hm with bj|hm
  .exact cj bj
  .exact Jt (gi.mp hm) rp
theorem T'{b:List UInt8}{t:d4}{ax:af}{aO:a6}(mj:ax=.bytes b.toArray t):
 y4 prog w h₁ (.bytes b) ax (b.map λx=>C.int x.toNat) aO λi o=>o.cls=.type "bytes_iterator"/\o.data=.fields #[.bytes b.toArray t,.int i 0]:=by
 subst mj
 refine⟨λA W σ h i o hh R a' hi aK c4 di=>?_⟩
 have Kb:=Ub (prog:=prog) (w:=w) hh aO b.toArray t
 rw[show b.toArray.size=(b.map λx=>C.int x.toNat).length by simp] at Kb
 refine⟨_,_,_,Kb,⟨o,aK,c4⟩,λaj v c2=>?_,λaj h' iA=>?_,λe c' rp cj hm=>?_⟩
 .obtain⟨c,u,az,rfl⟩:=c2
  exact⟨.int c.toNat,by rw[mz];simp at az;rw[az];rfl,.int _ _⟩
 .obtain⟨c',ho,nT⟩:=iA
  exact⟨c',ho,nT⟩
 .rw[gi] at hm;exact cj hm
theorem Yi{src:C}{σ:St}{vs items:List C}(h:fU src σ=some vs)(hi:eD src σ=some items):src=.bB items\/∃c,src=.ref c:=by
 rcases src with _|_|_|_|_|_|x|_|_|c|_
 .exact au h
 .exact au h
 .exact au h
 .exact au h
 .exact au h
 .exact au h
 .exact .inl (congrArg C.bB (cx hi))
 .exact au h
 .exact au h
 .exact .inr ⟨c,rfl⟩
 .exact au h
theorem Us{A:b8}{W:ag}{σ:St}{s:aB}{src:C}{ax:af}{items:List C}{Q E:af->aB->Prop}(R:bL prog w h₁ W σ s.heap)(a':aQ prog w W σ.next src ax)(hi:eD src σ=some items)(hk:(fU src σ).isSome=true\/∃b,src=.bytes b)
 (aW:∀h' P o,IsEnum h' (s.heap.objs.size+1) s.heap.objs.size 0 .none->h'.get? s.heap.objs.size=some o->P 0 o->(∀b o,s.heap.get? b=some o->h'.get? b=some o)->y4 prog w h₁ src ax items s.heap.objs.size P->Q (.ref (s.heap.objs.size+1)) {s with heap:=h'}):
 wpAny (bp prog w) A (cF (.type "enumerate") [ax]) Q E s:=by
 rcases hk with hk|⟨b,rfl⟩
 .obtain⟨vs,z'⟩:=vz.mp hk
  obtain⟨a,dW,rfl,aJ,aL⟩:=ik R a' z'
  refine call_enumerate_list aJ λh' cj hit hz hk=>?_
  obtain⟨o,aK,c4⟩:=hit
  exact aW h' _ o cj aK c4 hk (Ua (Yi z' hi) rfl)
 .rw[<-cx hi] at aW
  obtain⟨t,e⟩:=a'.bt
  rw[e] at aW⊢
  refine SA λh' cj hit hz hk=>?_
  obtain⟨o,aK,c4⟩:=hit
  exact aW h' _ o cj aK c4 hk (T' rfl)
open Classical in
noncomputable def n8(src:C)(items:List C)(bind:C->Loc->Option Loc)(body:ck):Nat->List C->ck
 |_,[],aa,σ=>if eD src σ=some items then some (.next,aa,σ) else none
 |i,x::rest,aa,σ=>if eD src σ=some items then(bind (.bA [.int i,x]) aa).bind λFV=>(body FV σ).bind λr=>match r with
    |(.next,l,s)=>n8 src items bind body (i+1) rest l s
    |(.cont,l,s)=>n8 src items bind body (i+1) rest l s
    |(.brk,l,s)=>some (.next,l,s)
    |(.ret v,l,s)=>some (.ret v,l,s)
  else none
open Classical in
noncomputable def pz(D:cy)(bind:C->Loc->Option Loc)(body:ck):ck:=λaa σ=>(D aa σ).bind λr=>(eD r.1 r.2).bind λitems=>if(fU r.1 r.2).isSome=true\/(∃b,r.1=.bytes b) then n8 r.1 items bind body 0 items aa r.2 else none
theorem bT.X0{W:ag}{aa:Loc}{σ:St}{h h':a9}(R:bT prog w h₁ own env ns W aa σ h)(e:∀a o,W.role a≠.free->h.get? a=some o->h'.get? a=some o):bT prog w h₁ own env ns W aa σ h':=by
 have dw:∀a,W.role a≠.free->h'.get? a=h.get? a:=λa ha=>by
  obtain⟨o,aK⟩:=R.bW.live a ha
  rw[aK];exact e a o ha aK
 refine R.next (R.bW.keep (λa ha _=>dw a ha) λa ha=>?_) ag.le.refl (bF _) λa ha=>dw a (bS.ne ha)
 have:W.role a≠.free:=bS.ne ha
 rw[dw a this];exact R.bW.live a this
theorem bT.zU{W:ag}{aa:Loc}{σ:St}{h:a9}{a:a6}{o:bM}(R:bT prog w h₁ own env ns W aa σ h)(ha:W.role a=.free)(aK:h.get? a=some o):bT prog w h₁ own env ns (W.aY a (.fix o)) aa σ h:=
 R.next (R.bW.i2 ha ⟨o,aK⟩ (λ_ e=>nomatch e) (λc' e=>by cases e;exact aK)) (ag.ij ha) (bF _) λ_ _=>rfl
theorem bT.LJ{W:ag}{aa:Loc}{σ:St}{h:a9}{a:a6}{o:bM}(R:bT prog w h₁ own env ns W aa σ h)(ha:W.role a=.free)(aK:h.get? a=some o):bT prog w h₁ own env ns (W.aY a (.imm o)) aa σ h:=
 R.next (R.bW.i2 ha ⟨o,aK⟩ (λc' e=>by cases e;exact aK) (λ_ e=>nomatch e)) (ag.ij ha) (bF _) λ_ _=>rfl
noncomputable abbrev Km(it:a6)(i:Int)(old:af):bM:={cls:=.type "enumerate",dict:=none,data:=.fields #[.none,.bool false,.ref it,jT i,.none,old],slots:= #[]}
structure rT (prog:cD) (w:cm) (h₁:a9) (env:dc) (ns:List aV) (aO:a6) (P:Nat->bM->Prop) (bC:ag) (ab:Nat) (i:Nat) (bR:ag) (bh:Loc) (bN:St) (h2:a9):Prop where
 R:bT prog w h₁ true env ns bR bh bN h2
 f:∃ee old,bR.role aO=.fix ee/\P i ee/\bR.role (aO+1)=.fix (Km aO i old)
 le:bC.le ab bR
 gb:ab<=bN.next
theorem rT.drop{aO:a6}{P:Nat->bM->Prop}{bC bR:ag}{ab i:Nat}{bh:Loc}{bN:St}{h2 h4:a9}(C:rT prog w h₁ env ns aO P bC ab i bR bh bN h2)(eC:bC.role aO=.free)(oG:bC.role (aO+1)=.free)(ai:∀a x,a≠aO+1->a≠aO->h2.get? a=some x->h4.get? a=some x):
 bT prog w h₁ true env ns ((bR.aY aO .free).aY (aO+1) .free) bh bN h4/\bC.le ab ((bR.aY aO .free).aY (aO+1) .free)/\bR.fL bN.next ((bR.aY aO .free).aY (aO+1) .free):=by
 obtain⟨ee,old,di,_,AV⟩:=C.f
 have OO:=(ag.cG (r:=.free) (mB aO)).trans AV
 obtain⟨IX,bO⟩:=C.R.drop di (C.R.qN di)
 obtain⟨Cp,bh⟩:=IX.drop OO (IX.qN OO)
 refine⟨Cp.X0 λa oa ha jj=>ai a oa (λe=>ha ?_) (λe=>ha ?_) jj,ag.pS (ag.pS C.le eC) oG,bO.trans (bF _) bh⟩
 .rw[e];exact ag.dv
 .rw[e];exact(ag.cG (mB aO).symm).trans ag.dv
theorem rT.item{aO T:a6}{P:Nat->bM->Prop}{bC bR:ag}{ab i:Nat}{bh:Loc}{bN:St}{h2 gA:a9}{iS e3 Gr:bM}(C:rT prog w h₁ env ns aO P bC ab i bR bh bN h2)(eC:bC.role aO=.free)(oG:bC.role (aO+1)=.free)(UA:bR.role T=.free)(xm:aO≠T)(uN:aO+1≠T)
 (aK:gA.get? aO=some iS)(cj:gA.get? (aO+1)=some e3)(ht:gA.get? T=some Gr)(ai:∀a x,a≠aO+1->a≠aO->h2.get? a=some x->gA.get? a=some x):
 ∃cf,bT prog w h₁ true env ns cf bh bN gA/\cf.role aO=.fix iS/\cf.role (aO+1)=.fix e3/\cf.role T=.imm Gr/\bC.le ab cf/\bR.fL bN.next cf:=by
 obtain⟨QE,Yb,Yh⟩:=C.drop eC oG ai
 have ne:=mB aO
 have g1:((bR.aY aO .free).aY (aO+1) .free).role aO=.free:=(ag.cG ne.symm).trans ag.dv
 have g2:((bR.aY aO .free).aY (aO+1) .free).role (aO+1)=.free:=ag.dv
 have g3:((bR.aY aO .free).aY (aO+1) .free).role T=.free:=(ag.cG uN.symm).trans ((ag.cG xm.symm).trans UA)
 generalize(bR.aY aO .free).aY (aO+1) .free=agJ at*
 have Lr:=(ag.cG (r:=.fix iS) ne).trans g2
 have Ls:=(ag.cG (r:=.fix e3) uN.symm).trans ((ag.cG (r:=.fix iS) xm.symm).trans g3)
 have bO:=ag.ij (n:=bN.next) (r:=.fix iS) g1
 have bh:=ag.ij (n:=bN.next) (r:=.fix e3) Lr
 have dh:=ag.ij (n:=bN.next) (r:=.imm Gr) Ls
 have l:=(bO.trans (bF _) bh).trans (bF _) dh
 exact⟨_,((QE.zU g1 aK).zU Lr cj).LJ Ls ht,(ag.cG xm).trans ((ag.cG ne.symm).trans ag.dv),(ag.cG uN).trans ag.dv,ag.dv,Yb.trans C.gb l,Yh.trans (bF _) l.1⟩
inductive Qs (prog:cD) (w:cm) (h₁:a9) (env:dc) (ns:List aV) (aO:a6) (P:Nat->bM->Prop) (bC:ag) (ab:Nat) (items:List C) (M:Nat->List C->Loc->St->Prop) (n:Nat) (bR:ag) (bh:Loc) (bN:St) (h2:a9):Prop
 |mk (i:Nat) (rest:List C) (a3:n=rest.length) (aL:items.drop i=rest) (hi:i<=items.length) (C:rT prog w h₁ env ns aO P bC ab i bR bh bN h2) (ar:M i rest bh bN)
theorem U4{es:List bX}{aj:Nat}{xT:bz}{body:List dG}{bind:C->Loc->Option Loc}{jU:ck}(ht:mN prog w h₁ true env ns k (.Tuple es aj xT) bind)(ai:SOk prog w h₁ env ns k (dr body env) jU){A:b8}(aH:fA A k){aO:a6}{src:C}{i':af}{items:List C}{P:Nat->bM->Prop}
 (yy:y4 prog w h₁ src i' items aO P){bC:ag}{ab:Nat}(bo:aQ prog w bC ab src i')(eC:bC.role aO=.free)(oG:bC.role (aO+1)=.free){s:aB}{R:jy->aB->Prop}
 {bR:ag}{bh:Loc}{bN:St}{h2:a9}{tk2:Nat}(C:rT prog w h₁ env ns aO P bC ab 0 bR bh bN h2)(ar:aM (n8 src items bind jU 0 items bh bN) (y8 prog w h₁ env ns bC ab s R)):
 fP (bp prog w) A (.forLoop (.Tuple es aj xT) (.ref (aO+1)) body [] env) R {s with heap:=h2,toks:=tk2}:=by
 refine JS (y7 s (Qs prog w h₁ env ns aO P bC ab items λi rest l σ=>aM (n8 src items bind jU i rest l σ) (y8 prog w h₁ env ns bC ab s R))) ?_ items.length ⟨bR,bh,bN,h2,tk2,rfl,0,items,rfl,rfl,jx _,C,ar⟩
 clear C ar
 intro n a8 h
 obtain⟨bR,bh,bN,aU,tk2,es,h⟩:=h
 obtain⟨i,rest,a3,aL,hi,C,ar⟩:=h
 rcases rest with _|⟨x,rest⟩<;>rw[es,a3]<;>refine fK λG cc=>?_<;>
  obtain⟨ee,old,di,oK,AV⟩:=C.f<;>
  have pD:=C.R.bW.fix _ _ di<;>
  have EJ:IsEnum aU (aO+1) aO i old:=C.R.bW.fix _ _ AV<;>
  have bY:aQ prog w bR bN.next src i':=bo.bb C.le.1 C.gb<;>
  have gq:=mB aO
 .obtain⟨hit,ar⟩:=aM.gX ar
  obtain⟨zO,za,S,Ca,iA,_,_,_⟩:=yy.draw A.in1 bR _ aU i ee aH.h C.R.bW bY hit pD oK di
  rw[vu hi (Hl.mp aL)] at iA
  refine cc<|wpN.of<|wpAny_pyNext_enum_endD (s:={s with heap:=aU,toks:=tk2}) Ca EJ iA λh4 Wi=>wpN.of<|ys ?_
  obtain⟨v',le,_⟩:=C.drop eC oG (h4:=h4) λa oa _ ha jj=>Wi a oa ha jj
  exact ar _ .next h4 tk2 le C.gb v' trivial
 .obtain⟨hit,ar⟩:=aM.gX ar
  obtain⟨dh,f9,ar⟩:=(aM.iy ar).cR
  obtain⟨ay,aL⟩:=zB aL
  have dQ:=(nu.mp ay).1
  obtain⟨zO,za,S,Ca,iA,V7,Wa,Ws⟩:=yy.draw A.in1 bR _ aU i ee aH.h C.R.bW bY hit pD oK di
  refine cc<|wpN.of<|wpAny_pyNext_enum_itemD (s:={s with heap:=aU,toks:=tk2}) Ca EJ iA dQ gq (Ws _ _ AV gq) λd6 h4 ru kX V4 V' Wb agV WB=>?_
  refine wpN.of<|wpAny_letOwnedTupleGo_enum (s:={s with heap:=h4,toks:=ru+1}) V4 λgA V3 uu=>fK λG cc=>?_
  obtain⟨d2,Fo,fv⟩:=V7 i d6 kX
  rw[<-cx (ay.symm.trans Fo)] at fv
  have uN:=eL (ka EJ)
  have xm:=eL (ka pD)
  obtain⟨iS,WX,pF⟩:=Wa _ _ V'
  obtain⟨cf,QD,ac9,ac8,ac',m7,xf⟩:=C.item (e3:=Km aO ((i+1:Nat):Int) d6) eC oG (C.R.bW.free (bF _)) xm uN ((uu.2 aO gq.symm).trans WX) (by rw[V3];rfl) ((uu.2 _ uN.symm).trans Wb) λa oa h1 h2 jj=>(uu.2 a h1).trans (WB a oa h1 h2 jj)
  refine cc<|wpN.of<|ht A cf bh dh bN (.bA [.int i,x]) (.ref aU.objs.size) _ _ _ aH f9 QD (.bA ac' (.cons (.int _ _) (.cons (fv.bb xf (bF _)) .nil))) λdx Pt l4=>ai.go aH ar.bind l4 λzG p ar je wy pC va iO fV fO xH=>?_
  have l6:rT prog w h₁ env ns aO P bC ab (i+1) je p.1 p.2 pC:=⟨fO,⟨iS,d6,iO.2.1 _ _ ac9,pF,iO.2.1 _ _ ac8⟩,m7.trans C.gb iO,cI C.gb fV⟩
  revert ar
  refine mM.uV xH (λar=>?_) (λar=>?_) (λar=>?_) (λv ax gf ar=>?_)
  .exact⟨rest.length,hB _,je,p.1,p.2,pC,va,rfl,i+1,rest,rfl,aL,dQ,l6,ar⟩
  .exact ar je .next pC va l6.le l6.gb fO trivial
  .exact⟨rest.length,hB _,je,p.1,p.2,pC,va,rfl,i+1,rest,rfl,aL,dQ,l6,ar⟩
  .exact ar je _ pC va l6.le l6.gb fO gf
theorem GJ{es:List bX}{aj:Nat}{xT:bz}{fn e:bX}{mS:bz}{body:List dG}{pos:bz}{D:cy}{bind:C->Loc->Option Loc}{jU:ck}
 (hf:bx prog w h₁ true env ns k (aR fn env) (U (.cb (.type "enumerate"))))(h:bx prog w h₁ true env ns k (aR e env) D)(ht:mN prog w h₁ true env ns k (.Tuple es aj xT) bind)(ai:SOk prog w h₁ env ns k (dr body env) jU)
 (ao:autoParam (d7 [e] env=[(false,aR e env)]) aN._auto_1)
 (az:autoParam (aR (fn.Call [e] [] mS) env=(do let g<-aR fn env;nD mS g [] (fb mS (d7 [e] env)) (nB mS (nE [] env)))) aN._auto_1)
 (Wt:autoParam (∀x,tC (fn.Call [e] [] mS) env x=pure x) x4._auto_1):SOk prog w h₁ env ns k (hg (.For (.Tuple es aj xT) (fn.Call [e] [] mS) body [] pos) env) (pz D bind jU):=by
 refine .of λA W aa σ s Q E aH ar R=>PO ?_ Wt
 rw[az]
 refine bc (hf A W aa σ _ σ s _ E aH rfl R λjd kB fg tk jl I hR mv=>?_)
 rw[show kB=_ from mv.bt]
 refine ve rfl (by rw[ao];rfl) ?_
 rw[ao]
 refine vf (G5 (h.go aH ar.bind hR λsrc cH ar bC i' h1 c0 bO ab bK bo=>.of (bI ?_)))
 have bO:=jl.trans I bO
 have ab:=cI I ab
 obtain⟨items,bg,ar⟩:=(aM.iy ar).cR
 obtain⟨j1,ar⟩:=aM.gX ar
 show wpN _ _ (cF (.type "enumerate") [i']) _ _ _
 refine wpN.of<|Us (s:={s with heap:=h1,toks:=c0}) bK.bW bo bg j1 λh2 P o hE aK c4 hk yy=>?_
 refine wpN.of<|wpAny_pyIter_enum (s:={s with heap:=h2,toks:=c0}) hE ?_
 have eC:bC.role h1.objs.size=.free:=bK.bW.free (bF _)
 have oG:bC.role (h1.objs.size+1)=.free:=bK.bW.free (hb _)
 have gq:=mB h1.objs.size
 have Uz:=(ag.cG (r:=.fix o) gq).trans oG
 exact U4 ht ai aH yy bo eC oG ⟨((bK.me hk).zU eC aK).zU Uz hE,⟨o,.none,(ag.cG gq.symm).trans ag.dv,c4,ag.dv⟩,ag.pS (ag.ij eC) oG,bF _⟩ (ar.imp λf p c bR ig h' c6 bh aF cQ GD=>c bR ig h' c6 (bO.trans ab bh) (cI ab aF) cQ GD)
end Internal
namespace Internal
open PySem PySem.W PyProof.Rows PySem.Calls
noncomputable def runK{α:Type}(lt:Nat->Nat->Bool):KasT α->α
 |.ret a=>a
 |.ask i aj k=>runK lt (k (lt i aj))
noncomputable def Ao:List (Nat×Nat×Bool)->Nat->Nat->Bool
 |[],_,_=>false
 |(i,aj,true)::r,a,b=>(nx i a&&nx aj b)||Ao r a b
 |(i,aj,false)::r,a,b=>(nx aj a&&nx i b)||Ao r a b
noncomputable def FF(g:Nat->Nat->Bool):List (Nat×Nat×Bool)->Nat->Nat->Bool
 |[],_,_=>false
 |(i,aj,true)::r,a,b=>(nx i a&&g aj b)||FF g r a b
 |(i,aj,false)::r,a,b=>(nx aj a&&g i b)||FF g r a b
noncomputable def uD(l:List (Nat×Nat×Bool)):Nat->Nat->Nat->Bool
 |0,a,b=>Ao l a b
 |f+1,a,b=>Ao l a b||FF (uD l f) l a b
noncomputable def I9(l:List (Nat×Nat×Bool)):List Nat->Bool
 |a::b::r=>uD l 4 a b&&I9 l (b::r)
 |_=>true
noncomputable def F2:List Nat->Nat->Bool
 |[],_=>false
 |a::r,i=>nx a i||F2 r i
noncomputable def CL(p:List Nat):Nat->Bool
 |0=>true
 |n+1=>F2 p n&&CL p n
noncomputable def Ap:List Nat->Nat
 |[]=>0
 |_::r=>Ap r+1
noncomputable def FG(n:Nat)(p:List Nat)(l:List (Nat×Nat×Bool)):Bool:=nx (Ap p) n&&CL p n&&I9 l p
noncomputable def mb(n:Nat):KasT (Array Nat)->List (Nat×Nat×Bool)->Bool
 |.ret p,l=>FG n p.toList l
 |.ask i aj k,l=>o7 (i+1) n&&o7 (aj+1) n&&mb n (k true) ((i,aj,true)::l)&&mb n (k false) ((i,aj,false)::l)
theorem SI:mb 2 (qs 2) []=true:=by decide+kernel
theorem SJ:mb 3 (qs 3) []=true:=by decide+kernel
theorem SK:mb 4 (qs 4) []=true:=by decide+kernel
theorem SM:mb 5 (qs 5) []=true:=by decide+kernel
set_option maxHeartbeats 0 in
theorem SN:mb 6 (qs 6) []=true:=by decide+kernel
theorem zt{n:Nat}(h2:2<=n)(dx:n<=6):mb n (qs n) []=true:=by
 match n,h2,dx with
 |2,_,_=>exact SI
 |3,_,_=>exact SJ
 |4,_,_=>exact SK
 |5,_,_=>exact SM
 |6,_,_=>exact SN
 |n+7,_,h=>exact(aE.abX h).elim
theorem FC{n:Nat}{JO:Nat->Nat->(Bool->aB->Prop)->aB->Prop}{s:aB}{lt:Nat->Nat->Bool}(az:∀i aj (aC:Bool->aB->Prop),i<n->aj<n->aC (lt i aj) s->JO i aj aC s){G:Array Nat->aB->Prop}:
 ∀(t:KasT (Array Nat)) (l:List (Nat×Nat×Bool)),mb n t l=true->G (runK lt t) s->t.kasWp JO G s
 |.ret a,l,_,h=>h
 |.ask i aj k,l,hk,h=>by
  simp only[mb,o4] at hk
  obtain⟨⟨⟨h1,h2⟩,aU⟩,h4⟩:=hk
  refine az i aj _ (rJ h1) (rJ h2) ?_
  simp only[runK] at h
  cases e:lt i aj with
  |true=>rw[e] at h;exact FC az (k true) _ aU h
  |false=>rw[e] at h;exact FC az (k false) _ h4 h
end Internal
namespace Internal
open PySem PySem.W PyProof.Rows PySem.Calls
noncomputable def lJ(lt:Nat->Nat->Bool)(n:Nat):List Nat:=if n<2 then iW n else(runK lt (qs n)).toList
theorem MJ:∀p:List Nat,Ap p=p.length
 |[]=>rfl
 |_::r=>by simp[Ap,MJ r]
theorem AY{n:Nat}{lt:Nat->Nat->Bool}:∀(t:KasT (Array Nat)) (l:List (Nat×Nat×Bool)),mb n t l=true->(∀x∈l,lt x.1 x.2.1=x.2.2)->∃l',FG n (runK lt t).toList l'=true/\∀x∈l',lt x.1 x.2.1=x.2.2
 |.ret a,l,h,aJ=>⟨l,h,aJ⟩
 |.ask i aj k,l,hk,aJ=>by
  simp only[mb,o4] at hk
  obtain⟨⟨_,aU⟩,h4⟩:=hk
  simp only[runK]
  cases e:lt i aj with
  |true=>
   refine AY (k true) _ aU λx ay=>?_
   rcases fX.mp ay with rfl|ay
   .exact e
   .exact aJ x ay
  |false=>
   refine AY (k false) _ h4 λx ay=>?_
   rcases fX.mp ay with rfl|ay
   .exact e
   .exact aJ x ay
theorem Pa{lt:Nat->Nat->Bool}{n:Nat}(dx:n<=6):(lJ lt n).length=n:=by
 unfold lJ
 split
 .simp
 .rename_i h
  obtain⟨l',h1,_⟩:=AY (lt:=lt) _ _ (zt (by exact aE.uT h) dx) (λx ay=>nomatch ay)
  simp only[FG,o4] at h1
  rw[<-MJ];exact Nat.eq_of_beq_eq_true h1.1.1
noncomputable def k7(lt:Nat->Nat->Bool)(vs:List af):List af:=(lJ lt vs.length).map λi=>vs.getD i .none
section
variable{prog:cD}{w:cm}{A:b8}{E:af->aB->Prop}{s:aB}
noncomputable def tH(prog:cD)(w:cm)(A:b8)(lt:Nat->Nat->Bool)(vs:List af)(s:aB):Prop:=
 ∃dX,(∀Q:SortKind->aB->Prop,Q dX s->wpAny (bp prog w) A (keyKind' vs.toArray) Q (λ_ _=>False) s)/\∀i aj (aC:Bool->aB->Prop),i<vs.length->aj<vs.length->aC (lt i aj) s->kas_ask prog w A dX vs i aj aC s
theorem range_getD:∀(vs:List af),(iW vs.length).map (λi=>vs.getD i .none)=vs:=λvs=>by
 refine List.ext_getElem (by simp) λi h1 h2=>?_
 simp at h1
 simp[h1]
theorem Ym{a:a6}{vs:List af}{n:Nat}{lt:Nat->Nat->Bool}{P:PySem.Fin->aB->Prop}(aK:s.heap.get? a=some (iK "list" vs.toArray n))(dx:vs.length<=6)
 (hk:2<=vs.length->∀h',(∀b o,b≠a->s.heap.get? b=some o->h'.get? b=some o)->tH prog w A lt vs {s with heap:=h'})
 (h:∀h' c,(∀b o,b≠a->s.heap.get? b=some o->h'.get? b=some o)->h'.get? a=some (iK "list" (k7 lt vs).toArray c)->P (.done (.ret .none)) {s with heap:=h'}):
 wpAny (bp prog w) A (Builtin.«list.sort» ⟨[.ref a],[]⟩) P E s:=by
 have ha:a<s.heap.objs.size:=ka aK
 obtain⟨bj,mh⟩:∃bj,(s.heap.update a (mC λ_=>(#[]:Array af))).get? a=some (iK "list" #[] bj):=⟨_,get?_update_seq aK λ_=> #[]⟩
 rw[list_sort_plain]
 refine aP (listItems_at aK rfl ?_)
 refine aP (listUpdate_at aK rfl ?_ (by rw[mA,yq];exact aE.AO dx) (jx _))
 refine aP (seqEpoch_at mh rfl ?_)
 refine aP (wpAny_newTuple ?_ (by show vs.length<=_;rw[yq];exact aE.AO dx))
 refine aP (wpAny_newList ?_ (jx _))
 refine ke ?_
 have E6:(((s.heap.update a (mC λ_=> #[])).push (iK "tuple" vs.toArray 0)).push (iK "list" #[] 0)).get? a=some (iK "list" #[] bj):=by
  rw[Br _ _ _ (by rw[size_push',Heap.size_update];exact eL (yj ha)),Br _ _ _ (by rw[Heap.size_update];exact eL ha)]
  exact mh
 have keep:∀b o,b≠a->s.heap.get? b=some o->(((s.heap.update a (mC λ_=>(#[]:Array af))).push (iK "tuple" vs.toArray 0)).push (iK "list" #[] 0)).get? b=some o:=λb o ai e=>
  jR _ (jR _ (((nt s.heap a _).2 b ai).trans e))
 show wpAny (bp prog w) A _ P E {s with heap:=((s.heap.update a (mC λ_=>(#[]:Array af))).push (iK "tuple" vs.toArray 0)).push (iK "list" #[] 0)}
 generalize hh:((s.heap.update a (mC λ_=>(#[]:Array af))).push (iK "tuple" vs.toArray 0)).push (iK "list" #[] 0)=q2 at*
 dsimp only
 have done:∀cR:List af,cR=k7 lt vs->wpAny (bp prog w) A (do
  let touched:=(<-seqEpoch a)!=bj
  Builtin.List.listUpdate (.ref a) λ_=>cR.toArray
  if touched then rule "list.sort.modified";raiseError "ValueError" "list modified during sort"
  ret .none) P E {s with heap:=q2}:=λcR e=>by
  subst e
  have dP:(k7 lt vs).length<=1000:=by rw[k7,ez,Pa dx];exact aE.abY dx
  obtain⟨r',q4⟩:∃r',(q2.update a (mC λ_=>(k7 lt vs).toArray)).get? a=some (iK "list" (k7 lt vs).toArray r'):=⟨_,get?_update_seq E6 λ_=>(k7 lt vs).toArray⟩
  refine aP (seqEpoch_at E6 rfl ?_)
  refine aP (listUpdate_at E6 rfl ?_ (jx _) (by rw[mA];unfold hj;omega))
  simp only[bne_self_eq_false,Be,if_false]
  refine bI (h _ r' (λb o ai e=>((nt q2 a _).2 b ai).trans (keep b o ai e)) q4)
 by_cases h2:vs.toArray.size<2
 .rw[if_pos h2,if_pos h2]
  refine aP (bI ?_)
  rw[StateT.run_pure]
  refine aP (bI ?_)
  have e:(arrOf (SortSt.mk' general' (vs.toArray.zip vs.toArray) #[] 7 none)).map (λx=>x.2)=vs.toArray:=by
   show(vs.toArray.zip vs.toArray).map (λx=>x.2)=vs.toArray
   refine Array.ext (by simp) λi h1 h2=>?_
   simp
  show wpAny (bp prog w) A (do
   let touched:=(<-seqEpoch a)!=bj
   Builtin.List.listUpdate (.ref a) λ_=>(arrOf (SortSt.mk' general' (vs.toArray.zip vs.toArray) #[] 7 none)).map (λx=>x.2)
   if touched then rule "list.sort.modified";raiseError "ValueError" "list modified during sort"
   ret .none) P E {s with heap:=q2}
  rw[e]
  refine done vs ?_
  unfold k7 lJ
  rw[mA] at h2
  rw[if_pos h2,range_getD]
 .rw[if_neg h2,if_neg h2]
  obtain⟨dX,dK,hu⟩:=hk (by rw[mA] at h2;exact aE.uT h2) q2 keep
  refine aP (wpAny_mono (dK _ ⟨rfl,rfl⟩:wpAny (bp prog w) A (keyKind' vs.toArray) (λQd a8=>Qd=dX/\a8={s with heap:=q2}) _ _) (λQd OU hk=>?_) λ_ _ x=>x.elim)
  obtain⟨rfl,rfl⟩:=hk
  rw[mA] at h2
  refine aP (wpAny_mono (kat_run (Q:=λA3 a8=>a8={s with heap:=q2}/\arrOf A3=(runK lt (qs vs.length)).map (kas_item (vs.toArray.zip vs.toArray))/\failedOf A3=none)
   (G:=λp a8=>p=runK lt (qs vs.length)/\a8={s with heap:=q2}) rfl (by exact aE.uT h2) (by exact aE.abZ dx) (λjM A3 a8 gU gw kP mO=>⟨mO.2,by rw[gw,mO.1],kP⟩) (FC hu _ [] (zt (by exact aE.uT h2) dx) ⟨rfl,rfl⟩)) ?_ λ_ _ e=>e)
  rintro⟨⟨⟩,A3⟩ a8 ⟨rfl,Wh,hf⟩
  dsimp only
  have W2:=kat_snds (ks:=vs) (vs:=vs) rfl Wh
  rw[W2,hf]
  refine done _ ?_
  unfold k7 lJ
  rw[if_neg h2]
noncomputable def uK(ns:List Int)(i aj:Nat):Bool:=decide (ns.getD i 0<ns.getD aj 0)
theorem RD{vs:List af}{ns:List Int}(jH:IntsAre vs ns)(h2:2<=vs.length):tH prog w A (uK ns) vs s:=by
 have at':∀{i:Nat},i<vs.length->∃t,vs.getD i .none=.int (ns.getD i 0) t:=λ{i} hi=>by
  obtain⟨n,t,e,a3⟩:=IntsAre.at jH i vs[i] (iG hi)
  refine⟨t,?_⟩
  rw[oo,iG hi,oo,a3]
  exact e
 refine⟨oneType',λQ aW=>kas_kind (T:=.type "int") h2 (λv a'=>?_) (by decide) (by decide) aW,λi aj aC hi c2 mY=>?_⟩
 .obtain⟨i,hi,rfl⟩:=List.getElem_of_mem a'
  obtain⟨n,t,e,a3⟩:=IntsAre.at jH i vs[i] (iG hi)
  rw[e]
  exact Looks.of_pure rfl
 .obtain⟨t,bj⟩:=at' hi
  obtain⟨u,bg⟩:=at' c2
  unfold kas_ask
  rw[bj,bg,keyLt'_oneType]
  exact oneLt_int mY
noncomputable def FH(a b:Int×Int):Bool:=decide (a.1<b.1)||(decide (a.1=b.1)&&decide (a.2<b.2))
noncomputable def sY(ps:List (Int×Int))(i aj:Nat):Bool:=FH (ps.getD i (0,0)) (ps.getD aj (0,0))
noncomputable def l2(h:a9)(vs:List af)(ps:List (Int×Int)):Prop:=
 match vs,ps with
 |[],[]=>True
 |v::vs,p::ps=>(∃a o n t u,v=.ref a/\h.get? a=some o/\o.cls=.type "tuple"/\o.data=.seq #[.int p.1 t,.int p.2 u] n)/\l2 h vs ps
 |_,_=>False
theorem l2.ind{h:a9}{P:List af->List (Int×Int)->Prop}(n:P [] [])(c:∀{a o k t u vs} {p:Int×Int} {ps},h.get? a=some o->o.cls=.type "tuple"->o.data=.seq #[.int p.1 t,.int p.2 u] k->P vs ps->P (.ref a::vs) (p::ps)){vs:List af}:∀{ps:List (Int×Int)},l2 h vs ps->P vs ps:=by
 induction vs with
 |nil=>
  intro ps q
  rcases ps with _|⟨p,ps⟩
  .exact n
  .exact q.elim
 |cons v vs a7=>
  intro ps q
  rcases ps with _|⟨p,ps⟩
  .exact q.elim
  .obtain⟨⟨a,o,k,t,u,e,aK,az,aD⟩,r⟩:=q
   exact e▸c aK az aD (a7 r)
theorem l2.at{h:a9}{vs:List af}{ps:List (Int×Int)}(q:l2 h vs ps):∀{i:Nat},i<vs.length->∃a o n t u,vs.getD i .none=.ref a/\h.get? a=some o/\o.cls=.type "tuple"/\o.data=.seq #[.int (ps.getD i (0,0)).1 t,.int (ps.getD i (0,0)).2 u] n:=
 q.ind (P:=λvs ps=>∀{i:Nat},i<vs.length->∃a o n t u,vs.getD i .none=.ref a/\h.get? a=some o/\o.cls=.type "tuple"/\o.data=.seq #[.int (ps.getD i (0,0)).1 t,.int (ps.getD i (0,0)).2 u] n) (λhi=>(vw _ hi).elim) λ{a o k t u _ _ _} aK az aD a7 {i}=>by
  rcases i with _|i
  .exactλ_=>⟨a,o,k,t,u,rfl,aK,az,aD⟩
  .exactλhi=>a7 (Nat.lt_of_succ_lt_succ hi)
theorem l2.UZ{h:a9}{vs:List af}{ps:List (Int×Int)}(q:l2 h vs ps):∃fs,KatTups h vs fs/\fs.length=vs.length/\∀v∈fs,∃i t,v=.int i t:=
 q.ind (P:=λvs _=>∃fs,KatTups h vs fs/\fs.length=vs.length/\∀v∈fs,∃i t,v=.int i t) ⟨[],trivial,rfl,λv a'=>nomatch a'⟩ λ{a o k t u vs p ps} aK az aD a7=>by
  obtain⟨fs,h1,h2,aU⟩:=a7
  refine⟨.int p.1 t::fs,KatTups.cons aK az aD rfl h1,congrArg (·+1) h2,λv a'=>?_⟩
  rcases fX.mp a' with rfl|a'
  .exact⟨_,_,rfl⟩
  .exact aU v a'
theorem RE{vs:List af}{ps:List (Int×Int)}(c4:l2 s.heap vs ps)(h2:2<=vs.length):tH prog w A (sY ps) vs s:=by
 obtain⟨fs,f1,f2,qX⟩:=c4.UZ
 refine⟨tuples' (vF "int"!=vF "tuple"),λQ aW=>kat_kind (T:=.type "int") f1 (by exact aE.ab0 h2 f2) (λv a'=>?_) (by decide) aW,λi aj aC hi c2 mY=>?_⟩
 .obtain⟨i,t,rfl⟩:=qX v a'
  exact Looks.of_pure rfl
 .obtain⟨a,o,n,t,u,bj,aK,az,aD⟩:=c4.at hi
  obtain⟨bD,c',gu,eR,gQ,DI,ho,lu,e8⟩:=c4.at c2
  unfold kas_ask
  rw[bj,DI]
  unfold sY FH at mY
  generalize ps.getD i (0,0)=p at*
  generalize ps.getD aj (0,0)=q at*
  refine kat_lt aK aD ho e8 (kat_cons (wpAny_eqBool_int ?_))
  refine kat_go (λe=>kat_yes (kat_cons (wpAny_eqBool_int (kat_go (λbg=>kat_yes (kat_nil ?_)) λbg=>kat_no ?_)))) λe=>kat_no ?_
  .have h1:p.1=q.1:=by simpa using e
   have h2:p.2=q.2:=by simpa using bg
   simpa[h1,h2] using mY
  .have h1:p.1=q.1:=by simpa using e
   refine kat_one _ _ (lt_int ?_)
   show aC _ _
   simpa[h1] using mY
  .have h1:¬p.1=q.1:=by simpa using e
   refine oneLt_int ?_
   simpa[h1] using mY
end
end Internal
namespace Internal
open PySem PySem.W PyProof.Rows PySem.Calls
section
variable{prog:cD}{w:cm}{A:b8}{E:af->aB->Prop}{s:aB}
theorem Pd{vs:List af}{lt:Nat->Nat->Bool}{Q:af->aB->Prop}{h1:a9}{cw:Nat}(dx:vs.length<=6)(z2:∀b o,s.heap.get? b=some o->h1.get? b=some o)(hz:s.heap.objs.size<=h1.objs.size)
 (hk:2<=vs.length->∀h' cw,(∀b o,s.heap.get? b=some o->h'.get? b=some o)->tH prog w A.in1.in1 lt vs {s with heap:=h',toks:=cw})
 (h:∀h' cw D c,(∀b o,s.heap.get? b=some o->h'.get? b=some o)->h'.get? D=some (iK "list" (k7 lt vs).toArray c)->s.heap.objs.size<=D->Q (.ref D) {s with heap:=h',toks:=cw}):
 wpAny (bp prog w) A.in1 (do
  let l<-newList vs
  let _<-mE [l] (cF (.builtin "list.sort") [l])
  ret l) (λcW a8=>∃v,cW=.done (.ret v)/\Q v a8) E {s with heap:=h1,toks:=cw}:=by
 refine aP (wpAny_newList ?_ (by rw[yq];exact aE.AO dx))
 have z7:(h1.push (iK "list" vs.toArray 0)).get? h1.objs.size=some (iK "list" vs.toArray 0):=hA _ rfl
 have MA:∀b o,s.heap.get? b=some o->(h1.push (iK "list" vs.toArray 0)).get? b=some o:=λb o e=>jR _ (z2 b o e)
 have ne:∀b o,s.heap.get? b=some o->b≠h1.objs.size:=λb o e=>eL (kI (ka e) hz)
 refine aP (ke (lX slot_list_sort ⟨_,z7,rfl⟩ entry_list_sort ?body (args_list_sort _)))
 case body=>
  refine Ym (lt:=lt) (s:={s with heap:=h1.push (iK "list" vs.toArray 0),toks:=cw}) z7 dx (λh2 h' uh=>hk h2 h' cw λb o e=>uh b o (ne b o e) (MA b o e)) λh' c uh ho=>⟨_,rfl,?_⟩
  exact bI ⟨_,rfl,h h' cw _ c (λb o e=>uh b o (ne b o e) (MA b o e)) ho hz⟩
theorem aeS{l:a6}{vs:List af}{lt:Nat->Nat->Bool}{Q:af->aB->Prop}(aJ:s.heap.IsList l vs.toArray)(dx:vs.length<=6)
 (hk:2<=vs.length->∀h' cw,(∀b o,s.heap.get? b=some o->h'.get? b=some o)->tH prog w A.in1.in1 lt vs {s with heap:=h',toks:=cw})
 (h:∀h' cw D c,(∀b o,s.heap.get? b=some o->h'.get? b=some o)->h'.get? D=some (iK "list" (k7 lt vs).toArray c)->s.heap.objs.size<=D->Q (.ref D) {s with heap:=h',toks:=cw}):
 wpAny (bp prog w) A (cF (.builtin "sorted") [.ref l]) Q E s:=by
 refine Calls.call_function_entry kind_sorted plain_sorted entry_sorted (args_sorted1 _) ?_
 unfold Builtin.«sorted»
 refine aP (m:=checkCount "sorted" 1 1 _) (bI ?_)
 refine aP (collect_list aJ ?_ (by rw[yq];exact aE.AO dx))
 have hz:((s.heap.push (iK "list" #[] 0)).update s.heap.objs.size (mC (·++vs.toArray))).objs.size=s.heap.objs.size+1:=by rw[Heap.size_update,size_push']
 have keep:∀b o,s.heap.get? b=some o->((s.heap.push (iK "list" #[] 0)).update s.heap.objs.size (mC (·++vs.toArray))).get? b=some o:=λb o q=>by
  have dQ:b<s.heap.objs.size:=ka q
  rw[Heap.get?_update_ne _ _ _ _ (eL dQ),Br _ _ _ (eL dQ)]
  exact q
 exact Pd dx keep (by rw[hz];exact hb _) hk h
noncomputable def ki(h:a9)(d:a6)(vs:List af)(ep:Nat):Prop:=∃o es,h.get? d=some o/\o.ExactDict/\o.data=.dict es ep/\es.toList.map (·.val)=vs
theorem ki.size{es:Array nr}{vs:List af}(h:es.toList.map (·.val)=vs):es.size=vs.length:=by rw[<-h,ez,fN]
theorem Ug{v d:a6}{vs:List af}{ep:Nat}{Q:af->aB->Prop}(a':s.heap.IsValuesView v d)(hm:ki s.heap d vs ep)
 (aW:Q (.ref s.heap.objs.size) {s with heap:=s.heap.push {cls:=.type "dict_valueiterator",data:=.fields #[.ref d,.int 0 0,.int vs.length 0,.int ep 0]}}):
 wpAny (bp prog w) A (pyIter (.ref v)) Q E s:=by
 obtain⟨j9,E',agP,Wn⟩:=id a'
 obtain⟨o,es,aK,az,LX,hp⟩:=id hm
 refine wpAny_pyIter_slot a'.typeIs Ql (lX Ql a'.typeIs PySem.F.entry_dict_values_iter ?_ (PySem.F.args_dict_values_iter_1 _))
 unfold Builtin.«dict_values.__iter__»
 refine aP (bI ?_)
 refine aP ?_
 unfold Builtin.Dict_items.dictOf
 refine aP (qy E' Wn (x:=.ref d) rfl (bI ?_))
 refine aP ?_
 unfold Builtin.Dict_items.newIterator
 refine aP (tF aK LX ?_)
 refine aP (yr aK LX ?_)
 have hsz:=ki.size hp
 have Fb:Builtin.Dict_items.ownsTuple "dict_valueiterator"=false:=by decide
 rw[Fb]
 show wpAny _ _ (newFields "dict_valueiterator" [.ref d,jT 0,jT es.size,jT ep]) _ _ s
 refine lb (bI ⟨_,rfl,"dict_valueiterator",_,⟨_,hA _ rfl,rfl⟩,ym.lookup,?_⟩)
 simpa[jT,hsz] using aW
theorem Ue{it d:a6}{i ep:Nat}{vs:List af}{v:af}{P:PySem.Fin->aB->Prop}{X:af->aB->Prop}(hit:s.heap.IsValIter it d i vs.length ep)
 (hm:ki s.heap d vs ep)(ay:vs[i]? =some v)
 (aW:∀h',h'.IsValIter it d (i+1) vs.length ep->iF it s.heap h'->P (.done (.ret v)) {s with heap:=h'}):
 wpAny (bp prog w) A (Builtin.«dict_valueiterator.__next__» ⟨[.ref it],[]⟩) P X s:=by
 obtain⟨o,aK,az,aD⟩:=id hit
 obtain⟨uQ,es,oL,kU,sA,hp⟩:=id hm
 show wpAny _ _ (_>>=_) _ _ s
 refine aP (bI ?_)
 refine aP ?_
 refine aP ?_
 first|refine aP (B2 hit.typeIs (bI ?_))|refine aP (B3 hit.typeIs (bI ?_))
 refine aP (wpAny_fieldsOf aK aD ?_)
 show wpAny _ _ (if(k' d==kL)=true then _ else _) _ _ s
 refine jK (show ¬((k' d==kL)=true) from gI) ?_
 refine aP (bI ?_)
 refine aP (tF oL sA ?_)
 have hsz:=ki.size hp
 refine jK (by rw[hsz];simp) ?_
 refine aP (bI ?_)
 refine aP (yr oL sA ?_)
 refine jK (by simp) ?_
 refine bI ?_
 have dQ:i<vs.length:=(nu.mp ay).1
 have uj:i<es.size:=by rw[hsz];exact dQ
 have Xi:es[i].val=v:=by
  have:(es.toList.map (·.val))[i]? =some v:=by rw[hp];exact ay
  simpa[uj] using this
 dsimp only
 rw[if_neg (Int.not_lt.mpr (ts i)),show es[(i:Int).toNat]? =some es[i] from(congrArg (es[·]?) (tv i)).trans (rE uj)]
 refine aP ?_
 first|refine aP (B2 hit.typeIs (bI ?_))|refine aP (B3 hit.typeIs (bI ?_))
 refine aP (Hy hit.typeIs ?_)
 show wpAny _ _ (setField (.ref it) 1 (jT ((i:Int)+1))>>=_) _ _ s
 refine aP (B1 aK aD (by simp) ?_)
 have sD:(s.heap.update it (Obj.mapFields (·.setIfInBounds 1 (jT ((i:Int)+1))))).IsValIter it d (i+1) vs.length ep:=
  ⟨_,x9 _ aK (Obj.isFreed_of_fields (BO aD _)),(Obj.cls_mapFields ..).trans az,by rw[BO aD];simp[jT]⟩
 refine aP (ke ?_)
 refine aP (Hy (s:={s with heap:=s.heap.update it (Obj.mapFields (·.setIfInBounds 1 (jT ((i:Int)+1))))}) sD.typeIs ?_)
 refine aP (Hy (s:={s with heap:=s.heap.update it (Obj.mapFields (·.setIfInBounds 1 (jT ((i:Int)+1))))}) sD.typeIs ?_)
 show wpAny _ _ (pure es[i].val) _ _ _
 exact bI (bI (Xi▸aW _ sD (nt ..)))
theorem Ud{it d:a6}{i ep:Nat}{vs:List af}{v:af}{Q:Option af->aB->Prop}(hit:s.heap.IsValIter it d i vs.length ep)
 (hm:ki s.heap d vs ep)(ay:vs[i]? =some v)
 (aW:∀h',h'.IsValIter it d (i+1) vs.length ep->iF it s.heap h'->Q (some v) {s with heap:=h'}):
 wpAny (bp prog w) A (pyNext (.ref it)) Q E s:=by
 unfold pyNext
 refine aP (wpAny_attempt (tE (name:=yn "__next__") hit.typeIs ym
  (lX ym hit.typeIs Qk ?_ (Qj _))))
 exact Ue hit hm ay λh' a b=>⟨_,rfl,bI (aW h' a b)⟩
theorem Uc{it d:a6}{i ep:Nat}{vs:List af}{Q:Option af->aB->Prop}(hh:A.handled=none)(hit:s.heap.IsValIter it d i vs.length ep)
 (hm:ki s.heap d vs ep)(ay:vs[i]? =none)
 (aW:∀h',Heap.ExtBut it s.heap h'->Q none {s with heap:=h'}):wpAny (bp prog w) A (pyNext (.ref it)) Q E s:=by
 obtain⟨o,aK,az,aD⟩:=id hit
 obtain⟨uQ,es,oL,kU,sA,hp⟩:=id hm
 unfold pyNext
 refine aP (wpAny_attempt (tE (name:=yn "__next__") hit.typeIs ym
  (lX ym hit.typeIs Qk ?_ (Qj _))))
 refine aP (bI ?_)
 refine aP ?_
 refine aP ?_
 first|refine aP (B2 hit.typeIs (bI ?_))|refine aP (B3 hit.typeIs (bI ?_))
 refine aP (wpAny_fieldsOf aK aD ?_)
 show wpAny _ _ (if(k' d==kL)=true then _ else _) _ _ s
 refine jK (show ¬((k' d==kL)=true) from gI) ?_
 refine aP (bI ?_)
 refine aP (tF oL sA ?_)
 have hsz:=ki.size hp
 refine jK (by rw[hsz];simp) ?_
 refine aP (bI ?_)
 refine aP (yr oL sA ?_)
 refine jK (by simp) ?_
 refine bI ?_
 have E0:es.size<=i:=by rw[hsz];simpa using ay
 dsimp only
 rw[if_neg (Int.not_lt.mpr (ts i)),show es[(i:Int).toNat]? =none from(congrArg (es[·]?) (tv i)).trans (Array.getElem?_eq_none E0)]
 refine aP ?_
 first|refine aP (B2 hit.typeIs (bI ?_))|refine aP (B3 hit.typeIs (bI ?_))
 show wpAny _ _ (setField (.ref it) 0 .none>>=_) _ _ s
 refine aP (B1 aK aD (by simp) ?_)
 show wpAny _ _ (newExc (.type "StopIteration") []>>=_) _ _ _
 refine aP ?_
 simp only[newExc,newTuple]
 refine aP (lb ?_ (by size_fits))
 refine aP (m:=BX _ _) (gK (a:=kL) (by first|rfl|(simp only[BX];rfl)) ?_)
 refine lb ?_ (by size_fits)
 simp only[raiseNew]
 refine aP (wpAny_handled ?_)
 rw[show A.in1.handled=none from hh]
 refine aP (bI (wpAny_throw ?_))
 refine aP (qz (T:="StopIteration") (b:=true) ⟨_,hA _ rfl,rfl⟩ isSubtype_stop ?_)
 exact bI (aW _ (((nt ..).extBut.push _).push _))
theorem ki.at'{h h':a9}{d:a6}{vs:List af}{ep:Nat}(x:ki h d vs ep)(e:∀o,h.get? d=some o->h'.get? d=some o):ki h' d vs ep:=by
 obtain⟨o,es,aK,r⟩:=x;exact⟨o,es,e o aK,r⟩
theorem ki.lt{h:a9}{d:a6}{vs:List af}{ep:Nat}(x:ki h d vs ep):d<h.objs.size:=by obtain⟨o,es,aK,r⟩:=x;exact ka aK
theorem Ui(hh:A.handled=none)(aO d:a6)(gq:d≠aO)(vs:List af)(ep:Nat):
 Walks prog w A aO [aO,d] [aO] vs.length (λi v=>vs[i]? =some v) (λi h=>h.IsValIter aO d i vs.length ep/\ki h d vs ep) where
 sub:=λb ai=>by simp at ai;simp[ai]
 frame:=λ_ _ _ st hk=>⟨st.1.at λo e=>hk aO (by simp) o e,st.2.at' λo e=>hk d (by simp) o e⟩
 item:=λi s Q E hi st aW=>by
  refine Ud st.1 st.2 (iG hi) λh' sD jJ=>?_
  exact aW _ h' s.toks (iG hi) ⟨sD,st.2.at' λo e=>jJ.extBut d o gq e⟩ λb o ai e=>jJ.extBut b o (λh=>ai (by simp[h])) e
 done:=λs Q E st aW=>Uc hh st.1 st.2 (by simp) λh' Wo=>aW h' s.toks λb o ai e=>Wo b o (λh=>ai (by simp[h])) e
 self:=λ_ _ _ _ st aW=>wpAny_pyIter_valiter st.1 aW
theorem Uh{r d:a6}{vs:List af}{ep:Nat}:KdlSrc prog w "dict_values" r d vs.length (λi v=>vs[i]? =some v) (λh=>h.IsValuesView r d/\ki h d vs ep) where
 type:=λ_ hm=>hm.1.typeIs
 there:=λ_ hm=>⟨let⟨_,aK,_⟩:=hm.1;ka aK,hm.2.lt⟩
 keep:=λ_ _ hm hk=>⟨let⟨o,aK,x⟩:=hm.1;⟨o,hk r (.inl rfl) o aK,x⟩,hm.2.at' λo e=>hk d (.inr rfl) o e⟩
 notList:=by decide
 notTuple:=by decide
 hint:=λ_ _ _ _ hm cn=>kdl_hint_values hm.1.typeIs cn
 iter:=λ_ _ hh hm=>⟨_,_,(λ_ _ cn=>Ug hm.1 hm.2 cn),Ui hh _ d (eL hm.2.lt) vs ep,⟨⟨_,hA _ rfl,rfl,rfl⟩,hm.2.at' λo e=>jR _ e⟩⟩
theorem aeT{r d:a6}{vs:List af}{ep:Nat}{lt:Nat->Nat->Bool}{Q:af->aB->Prop}(hz:s.heap.objs.size=r+1)(hh:A.handled=none)(a':s.heap.IsValuesView r d)(aD:ki s.heap d vs ep)(dx:vs.length<=6)
 (hk:2<=vs.length->∀h' cw,(∀b o,s.heap.get? b=some o->h'.get? b=some o)->tH prog w A.in1.in1 lt vs {s with heap:=h',toks:=cw})
 (h:∀h' cw D c,(∀b o,s.heap.get? b=some o->h'.get? b=some o)->h'.get? D=some (iK "list" (k7 lt vs).toArray c)->s.heap.objs.size<=D->Q (.ref D) {s with heap:=h',toks:=cw}):
 wpAny (bp prog w) A (cF (.builtin "sorted") [.ref r]) Q E s:=by
 refine Calls.call_function_entry kind_sorted plain_sorted entry_sorted (args_sorted1 _) ?_
 unfold Builtin.«sorted»
 refine aP (m:=checkCount "sorted" 1 1 _) (bI ?_)
 refine aP (kdu_collect (A:=A.in1) Uh hh ⟨a',aD⟩ (by unfold hj;omega) λh' cw acc z2 EM=>?_)
 have e:acc.toList=vs:=by
  refine List.ext_getElem? λi=>?_
  by_cases hi:i<vs.length
  .have h1:i<acc.size:=by rw[EM.1];exact hi
   have:=EM.2 i acc[i] (rE h1)
   rw[this,o3,rE h1]
  .rw[List.getElem?_eq_none (l:=acc.toList) (by rw[fN,EM.1];exact aE.Ol hi),List.getElem?_eq_none (l:=vs) (by exact aE.Ol hi)]
 rw[e]
 refine Pd dx z2 ?_ hk h
 obtain⟨j9,E',_⟩:=id a'
 have:=ka (z2 r _ E')
 rw[hz];exact this
end
section
variable{prog:cD}{w:cm}{h₁:a9}{K:fH}{own:Bool}{env:dc}{ns:List aV}{k:Nat}
theorem bH.getD{W:ag}{n:Nat}{vs:List C}{bG:List af}(h:bH prog w W n vs bG)(i:Nat):aQ prog w W n (vs.getD i .none) (bG.getD i .none):=by
 rw[oo,oo]
 cases e:vs[i]? with
 |none=>rw[h.none e];exact .none
 |some v=>
  obtain⟨ax,dw,r⟩:=h.get e
  rw[dw];exact r
noncomputable def p8(lt:Nat->Nat->Bool)(vs:List C):List C:=(lJ lt vs.length).map λi=>vs.getD i .none
theorem Pc{W:ag}{n:Nat}{lt:Nat->Nat->Bool}{vs:List C}{bG:List af}(h:bH prog w W n vs bG):bH prog w W n (p8 lt vs) (k7 lt bG):=by
 unfold p8 k7
 rw[h.length]
 induction lJ lt vs.length with
 |nil=>exact .nil
 |cons i r a7=>exact .cons (h.getD i) a7
theorem bT.newList{W:ag}{aa:Loc}{σ:St}{h h':a9}{D:a6}{vs:List C}{cR:Array af}{c:Nat}(R:bT prog w h₁ own env ns W aa σ h)(hk:∀b o,h.get? b=some o->h'.get? b=some o)(ar:h'.get? D=some (listOf cR c))(hz:h.objs.size<=D)(a':bH prog w W σ.next vs cR.toList):
 ∃W',W.le σ.next W'/\bT prog w h₁ own env ns W' aa σ h'/\aQ prog w W' σ.next (.bB vs) (.ref D):=by
 have ew:W.role D=.free:=R.bW.free hz
 have l:=ag.ij (n:=σ.next) (r:=.imm (listOf cR c)) ew
 exact⟨_,l,(R.me hk).LJ ew ar,.bB ag.dv rfl rfl (a'.bb l.1 (bF _))⟩
noncomputable def k5:List C->Option (List (Int×Int))
 |[]=>some []
 |.bA [.int a,.int b]::r=>(k5 r).map λl=>(a,b)::l
 |_=>none
theorem acT{v:C}{vs:List C}{l:List (Int×Int)}(h:k5 (v::vs)=some l):∃(m n:Int) (z:List (Int×Int)),v=.bA [.int m,.int n]/\k5 vs=some z/\l=(m,n)::z:=
 C.casesOn (motive_1:=λv=>k5 (v::vs)=some l->∃(m n:Int) (z:List (Int×Int)),v=.bA [.int m,.int n]/\k5 vs=some z/\l=(m,n)::z) v (λh=>au h) (λ_ h=>au h) (λ_ h=>au h) (λ_ h=>au h) (λ_ h=>au h) (λxs h=>by
  rcases xs with _|⟨a,t⟩
  .exact au h
  .exact C.casesOn (motive_1:=λa=>k5 (.bA (a::t)::vs)=some l->∃(m n:Int) (z:List (Int×Int)),C.bA (a::t)=.bA [.int m,.int n]/\k5 vs=some z/\l=(m,n)::z) a (λh=>au h) (λ_ h=>au h) (λi h=>by
   rcases t with _|⟨b,u⟩
   .exact au h
   .exact C.casesOn (motive_1:=λb=>k5 (.bA (.int i::b::u)::vs)=some l->∃(m n:Int) (z:List (Int×Int)),C.bA (.int i::b::u)=.bA [.int m,.int n]/\k5 vs=some z/\l=(m,n)::z) b (λh=>au h) (λ_ h=>au h) (λaj h=>by
    rcases u with _|⟨c,r⟩
    .obtain⟨q,cn,e⟩:=hc.mp h
     exact⟨i,aj,q,rfl,cn,e.symm⟩
    .exact au h) (λ_ h=>au h) (λ_ h=>au h) (λ_ h=>au h) (λ_ h=>au h) (λ_ h=>au h) (λ_ _ _ h=>au h) (λ_ h=>au h) (λ_ h=>au h) h) (λ_ h=>au h) (λ_ h=>au h) (λ_ h=>au h) (λ_ h=>au h) (λ_ h=>au h) (λ_ _ _ h=>au h) (λ_ h=>au h) (λ_ h=>au h) h) (λ_ h=>au h) (λ_ h=>au h) (λ_ _ _ h=>au h) (λ_ h=>au h) (λ_ h=>au h) h
theorem acU{W:ag}{σ:St}{h:a9}(R:bL prog w h₁ W σ h){vs:List C}{bG:List af}{l:List (Int×Int)}(r:bH prog w W σ.next vs bG)(e:k5 vs=some l):l2 h bG l:=
 r.ind (P:=λvs bG=>∀l,k5 vs=some l->l2 h bG l) (λl e=>cx e▸trivial) (λa _ a7 l e=>by
  obtain⟨x,y,r,hn,aL,fJ⟩:=acT e
  rw[hn] at a
  obtain⟨ad,items,n,e7,aH,cB,q⟩:=a.lM R
  obtain⟨jM,el,bg,adM,fE⟩:=q.PA
  obtain⟨t,ep⟩:=adM.bt
  obtain⟨u,eq⟩:=fE.bt
  rw[fJ,e7]
  refine⟨⟨ad,_,n,t,u,rfl,cB,rfl,?_⟩,a7 _ aL⟩
  show Data.seq items n=_
  rw[show items= #[.int x t,.int y u] from Array.toList_inj.mp (by rw[bg,ep,eq])]) l e
theorem l2.keep{h h':a9}{vs:List af}:∀{l:List (Int×Int)},l2 h vs l->(∀b o,h.get? b=some o->h'.get? b=some o)->l2 h' vs l:=by
 induction vs with
 |nil=>
  intro l p hk
  rcases l with _|⟨x,l⟩
  .trivial
  .exact p.elim
 |cons v vs a7=>
  intro l p hk
  rcases l with _|⟨x,l⟩
  .exact p.elim
  .obtain⟨⟨a,o,n,t,u,e,aK,q⟩,r⟩:=p
   exact⟨⟨a,o,n,t,u,e,hk a o aK,q⟩,a7 r hk⟩
noncomputable def A2:b4
 |[v],σ=>(fU v σ).bind λvs=>(k5 vs).bind λl=>if vs.length<=6 then some (.bB (p8 (sY l) vs),σ) else none
 |_,_=>none
theorem Zk:OpOk prog w h₁ k (λvs=>cF (.builtin "sorted") vs) A2:=
 .gv λW σ a bD r cu b7 aL=>.end (λq=>a::q) (λq=>bD::q) aL λA s Q E aH a5 R=>wpN.of<|fK λG cc=>by
 obtain⟨vs,a',a5⟩:=(aM.iy a5).cR
 obtain⟨l,aJ,a5⟩:=(aM.iy a5).cR
 obtain⟨dx,a5⟩:=aM.gX a5
 obtain⟨a,items,e,fR,q⟩:=ik R b7 a'
 have c4:=acU R q aJ
 refine cc ?_
 rw[e]
 refine aeS (vs:=items.toList) (lt:=sY l) fR (by rw[q.length];exact dx) (λh2 h' cw hk=>RE (c4.keep hk) h2) λh' cw D c hk ar hz=>?_
 have ew:W.role D=.free:=R.free hz
 have bh:=ag.ij (n:=σ.next) (r:=.imm (listOf (k7 (sY l) items.toList).toArray c)) ew
 exact dJ.to a5 _ _ h' cw bh (bF _) ((R.n5 hk).i2 ew ⟨_,ar⟩ (λc' e=>bS.imm.inj e▸ar) (λc' e=>nomatch e)) (.bB ag.dv rfl rfl ((Pc q).bb bh.1 (bF _)))
end
end Internal
namespace Internal
open PySem PySem.W PyProof.Rows PySem.Calls
section
variable{prog:cD}{w:cm}{h₁:a9}{K:fH}{own:Bool}{env:dc}{ns:List aV}{k:Nat}
theorem Sz{A:b8}{E:af->aB->Prop}{s:aB}{d:a6}{Q:af->aB->Prop}(hT:s.TypeIs (.ref d) "dict")(aD:(d==hD)=false)
 (h:Q (.ref s.heap.objs.size) {s with heap:=s.heap.push {cls:=.type "dict_values",data:=.fields #[.ref d]}}):wpAny (bp prog w) A (cF (.builtin "dict.values") [.ref d]) Q E s:=by
 refine lX PySem.F.slot_dict_values hT PySem.F.entry_dict_values ?_ (PySem.F.args_dict_values_1 _)
 unfold Builtin.«dict.values»
 refine aP ?_
 unfold Builtin.Dict.noArgs
 refine aP (BZ hT ?_)
 show wpAny _ _ (pure d) _ _ s
 refine bI ?_
 show wpAny _ _ (Hi d>>=_) _ _ s
 unfold Hi
 rw[if_neg (by rw[aD];exact gI)]
 refine aP (bI ?_)
 exact aP (lb (bI ⟨_,rfl,h⟩))
theorem TRel.qb{W:ag}{n:Nat}{es:List (List aT×C)}{xs:List (List aT×a6×af)}(r:TRel prog w W n es xs):bH prog w W n (es.map (·.2)) (xs.map (·.2.2)):=by
 refine TRel.ind (P:=λes xs=>bH prog w W n (es.map vA) (xs.map λx=>x.2.2)) ?_ ?_ r
 .exact .nil
 .exactλ_ b _ a7=>.cons b a7
noncomputable def xM(fI:cy):cy:=λaa σ=>(fI aa σ).bind λr=>(hy r.1 r.2).bind λes=>(i3 (es.map (·.2))).bind λl=>if es.length<=6 then some (.bB (p8 (uK l) (es.map (·.2))),r.2) else none
theorem Um{fn o:bX}{i0 uM mS:bz}{fI:cy}(hf:bx prog w h₁ own env ns k (aR fn env) (U (.cb (.builtin "sorted"))))(aK:bx prog w h₁ own env ns k (aR o env) fI)
 (ao:autoParam (d7 [.Call (.Attribute o "values" i0) [] [] uM] env=[(false,aR (.Call (.Attribute o "values" i0) [] [] uM) env)]) aN._auto_1)
 (az:autoParam (aR (fn.Call [.Call (.Attribute o "values" i0) [] [] uM] [] mS) env=(do let g<-aR fn env;nD mS g [] (fb mS (d7 [.Call (.Attribute o "values" i0) [] [] uM] env)) (nB mS (nE [] env)))) aN._auto_1)
 (pG:autoParam (yo o "values" env (aR o env)=aR o env) aN._auto_1)
 (pL:autoParam ((i0.endLine==uM.line)=true) aN._auto_1):
 bx prog w h₁ own env ns k (aR (.Call fn [.Call (.Attribute o "values" i0) [] [] uM] [] mS) env) (xM fI):=by
 refine .of λA W aa σ s Q E aH ar R=>?_
 rw[az]
 refine bc (hf A W aa σ _ σ s _ E aH rfl R λjd kB fg tk jl I hR mv=>?_)
 rw[show kB=_ from mv.bt]
 refine ve rfl (by rw[ao];rfl) ?_
 rw[ao]
 refine vf (G5 (PN pG rfl pL rfl (aK.go aH ar.bind hR λeS cH ar bC d5 h1 c0 bO ab bK bo=>fK λG cc=>?_)))
 obtain⟨es,bg,ar⟩:=(aM.iy ar).cR
 obtain⟨l,e3,ar⟩:=(aM.iy ar).cR
 obtain⟨dx,ar⟩:=aM.gX ar
 obtain⟨d,xs,e,z,aD,q⟩:=oY bK.bW bo bg
 have bO:=jl.trans I bO
 have ab:=cI I ab
 obtain⟨uQ,Up,ep,oL,ay,sA,z1,_,_⟩:=id aD
 have z':(xs.map (·.2.2)).length=es.length:=by rw[ez];exact q.length
 have aL:=q.qb
 refine cc ?_
 rw[e]
 refine⟨"dict","dict.values",yl,PySem.F.slot_dict_values,by kernel_rfl,aD.typeIs,λa e=>kM e▸⟨uQ,oL,ay.2.1⟩,?_⟩
 refine ve rfl rfl (PT (.of (Sz (s:={s with heap:=h1,toks:=c0}) aD.typeIs z (.of (bI ?_)))))
 refine .of (aeT (s:={s with heap:=h1.push {cls:=.type "dict_values",data:=.fields #[.ref d]},toks:=c0}) (r:=h1.objs.size) (d:=d) (vs:=xs.map (·.2.2)) (ep:=ep) (lt:=uK l) ?_ aH.h ⟨_,hA _ rfl,rfl,rfl⟩ ?_ (by rw[z'];exact dx)
  (λh2 h' cw hk=>RD (Fx aL e3) h2) λh' cw D c hk V2 hz=>?_)
 .exact jS ..
 .refine⟨uQ,Up,jR _ oL,ay,sA,?_⟩
  rw[z1,vq];rfl
 .have cQ:=bK.me (h':=h1.push {cls:=.type "dict_values",data:=.fields #[.ref d]}) λb o e=>jR _ e
  obtain⟨W',bh,dO,ea⟩:=cQ.newList hk V2 hz (by rw[List.toList_toArray];exact Pc aL)
  exact d8.to ar W' _ h' cw (bO.trans ab bh) ab dO ea
end
end Internal
namespace Internal
open PySem PySem.W PyProof.Rows PySem.Calls
section
variable{prog:cD}{w:cm}{h₁:a9}{K:fH}{own:Bool}{env:dc}{ns:List aV}{k:Nat}
theorem Yl:rO (.type "list") "keys"=pure none:=am_miss_of_fast (by decide+kernel)
theorem VO{A:b8}{E:af->aB->Prop}{s:aB}{a:a6}{items:Array af}{n:Nat}{Q:Option af->aB->Prop}(aK:s.heap.get? a=some (listOf items n))(hh:A.handled=none)
 (h:∀h' cw,(∀b o,s.heap.get? b=some o->h'.get? b=some o)->Q none {s with heap:=h',toks:=cw}):wpAny (bp prog w) A (getAttr? (.ref a) "keys") Q E s:=by
 obtain⟨hp,g,d,cw,os⟩:=s
 have hT:∀c6,(⟨hp,g,d,c6,os⟩:aB).TypeIs (.ref a) "list":=λ_=>⟨_,aK,rfl⟩
 have f1:=sub_AttributeError
 have qX:=Hu.lookup
 have zG:=Hu.bind (.ref a)
 have wy:=am_list_getattr_none
 unfold getAttr? getAttrBy? getAttrBy
 repeat (any_goals(first|assumption|exact hT _|((with_reducible show wpAny _ _ (cF (Value.builtin "list.__getattribute__") _ _) _ _ _);refine call_meets Hu (hT _) am_entry_list_getattribute (PySem.F.args_list_getattribute_2 _ _) (meets_getattribute_miss_list a items n #[] _ _ Yl (by decide) (by decide+kernel)) ⟨aK,hh,λh' c6 e kX=>?_⟩)|wp_step))
 obtain⟨eR,gQ,cj⟩:=kX.there
 have LO:(⟨h',g,d,c6,os⟩:aB).TypeIs (.ref e) "AttributeError":=⟨_,cj,rfl⟩
 show wpAny _ _ (getattributeRaised _ _ _ _ _ _ _) _ _ _
 unfold getattributeRaised
 refine aP (qz LO f1 ?_)
 rw[if_pos rfl]
 refine aP ?_
 show wpAny _ _ (rO (.type "list") "__getattr__") _ _ _
 refine gK wy ?_
 unfold hookOrError
 dsimp only
 unfold attributeErrorLeaves
 rw[if_pos (by decide)]
 first
  |refine wpAny_throw ?_
  |refine aP (wpAny_throw ?_)
 refine aP (qz LO f1 ?_)
 rw[if_pos rfl]
 exact bI (h _ _ kX.keeps)
end
end Internal
namespace Internal
open PySem PySem.W PyProof.Rows PySem.Calls
section
variable{prog:cD}{w:cm}{h₁:a9}{K:fH}{own:Bool}{env:dc}{ns:List aV}{k:Nat}
theorem T8{A:b8}{W:ag}{σ a4:St}{s:aB}{c:Nat}{es:List (aT×C)}{dU:aT}{v:C}{kY ax:af}{Q:Unit->aB->Prop}{E:af->aB->Prop}(R:bL prog w h₁ W σ s.heap)(az:σ.cells c=some (.cJ es))
 (hi:ll dU kY=true)(a':aQ prog w W σ.next v ax)(aJ:es.length<=1000000)(hp:a4=σ.aY c (.cJ (d0 es dU v))){da:a6}(ue:W.al c=da)
 (aW:∀h' c6,bL prog w h₁ W a4 h'->iF (W.al c) s.heap h'->Q () {s with heap:=h',toks:=c6}):wpAny (bp prog w) A (dictSet da kY ax) Q E s:=by
 rw[hp] at aW
 obtain⟨_,_,g,z,d,q⟩:=(R.cell c _ az).2.bt
 rw[<-ue]
 refine wpAny_dictSet_pairs (knd:=ix prog w) hi (d.b2 g) (λh' hm hs=>?_) (sZ q.length aJ)
 obtain⟨ee,g2,gV⟩:=mH.vb hm
 exact aW h' _ (R.oh az hs (.cJ g2 z gV (q.set a'))) hs
noncomputable def AR:C->Option (aT×C)
 |.bA [a,b]=>(toAtom a).map λk=>(k,b)
 |_=>none
noncomputable def mP(c:Nat):List C->St->Option St
 |[],σ=>some σ
 |x::r,σ=>(AR x).bind λp=>match σ.cells c with
  |some (.cJ es)=>if es.length<=1000000 then mP c r (σ.aY c (.cJ (d0 es p.1 p.2))) else none
  |_=>none
noncomputable def zz:b4
 |[.ref c],σ=>match σ.cells c with
  |some (.list vs)=>(mP σ.next vs (σ.new (.cJ []))).map λa4=>(.ref σ.next,a4)
  |_=>none
 |_,_=>none
theorem fA.XC{A:b8}{k:Nat}(R:fA A (k+1)):fA A.in1.in1 k:=⟨R.h,by have:=R.d;show A.depth+8*k+8<1000;exact aE.abV this,by have:=R.u;show A.units+1+1+64*k+200<9900;exact aE.ab1 this,R.g⟩
theorem PB:qp table "dict.update.loop"=some Builtin.«dict.update.loop»:=BW (by kernel_rfl)
theorem A6:plainId "dict.update.loop"=true:=by decide+kernel
theorem acS{x:C}{p:aT×C}(h:AR x=some p):∃a,x=.bA [a,p.2]/\toAtom a=some p.1:=
 C.casesOn (motive_1:=λx=>AR x=some p->∃a,x=.bA [a,p.2]/\toAtom a=some p.1) x (λh=>au h) (λ_ h=>au h) (λ_ h=>au h) (λ_ h=>au h) (λ_ h=>au h) (λvs h=>by
  rcases vs with _|⟨a,_|⟨b,_|⟨c,r⟩⟩⟩
  .exact au h
  .exact au h
  .obtain⟨k,hk,e⟩:=hc.mp h
   rw[<-e];exact⟨a,rfl,hk⟩
  .exact au h) (λ_ h=>au h) (λ_ h=>au h) (λ_ _ _ h=>au h) (λ_ h=>au h) (λ_ h=>au h) h
theorem cO.QS{α:Type}{x:Option cO}{f:List (aT×C)->Option α}{y:α}(e:(match x with|some (.cJ es)=>f es|_=>none)=some y):∃es,x=some (.cJ es)/\f es=some y:=by
 rcases x with _|(_|es|_|_|_)
 .exact au e
 .exact au e
 .exact⟨es,rfl,e⟩
 .exact au e
 .exact au e
 .exact au e
theorem XB{α:Type}{p:Prop}{d:Decidable p}{a:Option α}{b:α}(h:(if p then a else none)=some b):p/\a=some b:=by
 by_cases e:p
 .rw[if_pos e] at h;exact⟨e,h⟩
 .rw[if_neg e] at h;exact au h
theorem Je{c:Nat}{x:C}{r:List C}{σ a4:St}(h:mP c (x::r) σ=some a4):∃k v a es,x=.bA [a,v]/\toAtom a=some k/\σ.cells c=some (.cJ es)/\es.length<=1000000/\mP c r (σ.aY c (.cJ (d0 es k v)))=some a4:=by
 obtain⟨p,hp,h⟩:=bind_some (show(AR x).bind _=some a4 from h)
 obtain⟨es,az,h⟩:=cO.QS (f:=λes=>if es.length<=1000000 then mP c r (σ.aY c (.cJ (d0 es p.1 p.2))) else none) h
 obtain⟨aJ,h⟩:=XB h
 obtain⟨a,e,hk⟩:=acS hp
 exact⟨p.1,p.2,a,es,e,hk,az,aJ,h⟩
theorem bL.letGo{W:ag}{σ:St}{h h':a9}{aO:a6}{o:bM}(R:bL prog w h₁ W σ h)(di:W.role aO=.fix o)(ai:∀a x,a≠aO->h.get? a=some x->h'.get? a=some x):bL prog w h₁ (W.aY aO .free) σ h':=by
 have l1:=R.u3 (W':=W.aY aO .free) rfl λa=>by
  by_cases e:a=aO
  .exact .inr ⟨.inr ⟨o,e▸di⟩,.inl (e▸ag.dv)⟩
  .exact .inl (ag.cG e)
 have e3:∀a,(W.aY aO .free).role a≠.free->h'.get? a=h.get? a:=λa ha=>by
  obtain⟨oa,jj⟩:=l1.1.live a ha
  rw[jj];exact ai a oa (λe=>ha (e▸ag.dv)) jj
 exact l1.1.keep (λa ha _=>e3 a ha) λa ha=>by rw[e3 a (bS.ne ha)];exact l1.1.live a (bS.ne ha)
structure QM (prog:cD) (w:cm) (h₁:a9) (src:C) (i':af) (items:List C) (aO da:a6) (N:ag->Prop) (P:Nat->bM->Prop) (d aj:Nat) (W:ag) (σ:St) (h:a9):Prop where
 n:N W
 R:bL prog w h₁ W σ h
 r:aQ prog w W σ.next src i'
 f:∃o,W.role aO=.fix o/\P aj o
 da:W.al d=da
 aY:∀es,eD src (σ.aY d (.cJ es))=some items
 it:eD src σ=some items
noncomputable def QL(prog:cD)(w:cm)(h₁:a9)(aO:a6)(W:ag)(R:jy->aB->Prop)(s:aB)(a4:St):Prop:=
 ∀W' h' c6,W'.al=W.al->(∀b,b≠aO->W'.role b=W.role b)->W'.role aO=.free->bL prog w h₁ W' a4 h'->R (.ok (.ret .none)) {s with heap:=h',toks:=c6}
theorem St.ac4{σ:St}{d:Nat}{x y:cO}:(σ.aY d x).aY d y=σ.aY d y:=by
 unfold St.aY
 refine congrArg (λf=>St.mk f σ.next) (funext λe=>?_)
 by_cases q:e=d
 .rw[if_pos q,if_pos q]
 .rw[if_neg q,if_neg q];exact if_neg q
theorem afj{A:b8}{src:C}{i':af}{items:List C}{aO:a6}{N:ag->Prop}{P:Nat->bM->Prop}{d:Nat}{da:a6}{k:Nat}{R:jy->aB->Prop}(aH:fA A.in1 k)(iw:oz prog w h₁ k src i' items aO N P)
 (rest:List C):∀(aj:Nat) (W:ag) (σ a4:St) (s:aB) (i:Int),items.drop aj=rest->aj<=items.length->QM prog w h₁ src i' items aO da N P d aj W σ s.heap->mP d rest σ=some a4->QL prog w h₁ aO W R s a4->
   codeAny (bp prog w) A (.builtin "dict.update.loop" ⟨[.ref da,.ref aO,.int i 0,.none],[]⟩) R s:=by
 induction rest with
 |nil=>
  intro aj W σ a4 s i m1 c2 C mZ aW
  obtain⟨o,di,c4⟩:=C.f
  rw[<-cx mZ] at aW
  refine BV PB ?_
  rw[vj A6 _]
  unfold Builtin.«dict.update.loop»
  exact aP (iw.done A.in1 W σ aj o _ _ _ aH C.n C.R C.r C.it (DH m1) c2 (C.R.fix _ _ di) c4 di λaU df wK=>aP (bI (bI
   (aW (W.aY aO .free) aU df rfl (λb ai=>ag.cG ai) ag.dv (C.R.letGo di wK)))))
 |cons x r a7=>
  intro aj W σ a4 s i m1 c2 C mZ aW
  obtain⟨o,di,c4⟩:=C.f
  obtain⟨ay,m1⟩:=zB m1
  obtain⟨dU,v,a,es,pq,hk,pI,aJ,mZ⟩:=Je mZ
  refine BV PB ?_
  rw[vj A6 _]
  unfold Builtin.«dict.update.loop»
  refine aP (iw.item A.in1 W σ aj x o _ _ _ aH C.n C.R C.r C.it ay (C.R.fix _ _ di) c4 di λd6 aU df iS fv pE pF oM=>?_)
  dsimp only
  refine fK λG cc=>?_
  have jc:=C.R.swap di oM pE
  have xf:W.fL σ.next (W.aY aO (.fix iS)):=ag.uE di
  rw[pq] at fv
  obtain⟨ad,dW,n,e,bo,cB,q⟩:=(fv.bb xf (bF _)).lM jc
  obtain⟨bD,b1,bg,b7,dd⟩:=q.PA
  have hT:({s with heap:=aU,toks:=df}:aB).TypeIs (.ref ad) "tuple":=⟨_,cB,rfl⟩
  refine cc ?_
  rw[e]
  refine aP (ke (aP (wpAny_tryCatch ?_)))
  unfold Builtin.Dict.pairItems
  refine aP (yt hT (j2 (by decide) (aP (B0 cB rfl (bI ?_)))))
  show wpAny _ _ (match dW.toList with|[k,v]=>_|l=>_) _ _ _
  rw[bg]
  refine ke (T8 (W:=W.aY aO (.fix iS)) (σ:=σ) (s:={s with heap:=aU,toks:=df}) jc pI (toAtom_is b7 hk) dd aJ rfl C.da λh4 ru eM oN=>bI ⟨vH A6 _,?_⟩)
  refine a7 (aj+1) (W.aY aO (.fix iS)) (σ.aY d (.cJ (d0 es dU v))) a4 {s with heap:=h4,toks:=ru} (i+1) m1 (nu.mp ay).1 ⟨iw.xN _ _ _ C.n xf,eM,C.r.bb xf (bF _),⟨iS,ag.dv,pF⟩,C.da,λff=>by rw[St.ac4];exact C.aY ff,C.aY _⟩ mZ λW' h' c6 bj bg e3 ed=>
   aW W' h' c6 bj (λb ai=>(bg b ai).trans (ag.cG ai)) e3 ed
theorem QZ{c:Nat}{vs:List C}{σ a4:St}:mP c vs σ=some a4->a4.next=σ.next:=by
 induction vs generalizing σ with
 |nil=>exactλh=>congrArg St.next (cx h).symm
 |cons x r a7=>
  intro h
  obtain⟨_,_,_,_,_,_,_,_,h⟩:=Je h
  have q:=a7 h
  exact q
theorem To{A:b8}{W:ag}{σ bN:St}{s:aB}{Q E:af->aB->Prop}{c:Nat}{vs:List C}(aH:fA A (k+1))(R:bL prog w h₁ W σ s.heap)(b7:aQ prog w W σ.next (.ref c) (.ref (W.al c)))(sy:c<σ.next)(az:σ.cells c=some (.list vs))(mZ:mP σ.next vs (σ.new (.cJ []))=some bN)(aW:dJ prog w h₁ W σ s Q (.ref σ.next) bN):
 wpAny (bp prog w) A (cF (.type "dict") [.ref (W.al c)]) Q E s:=by
 refine callType_codes (Q₁:=λobj bw=>obj=.ref s.heap.objs.size/\bw={s with heap:=s.heap.push {cls:=.type "dict",data:=.dict #[]}}) PySem.F.kt_called_dict (PySem.F.kt_typeCall_dict_1 _) PySem.F.entry_dict_init (kt_code_dict_new _ ⟨rfl,rfl⟩) λobj bw e=>?_
 rw[e.1,e.2]
 refine fK λG cc=>?_
 obtain⟨items,dU,g,q⟩:=(R.cell c _ az).2.bt
 obtain⟨bK,bO,bo⟩:=R.YU {cls:=.type "dict",data:=.dict #[]} (.cJ []) rfl (I8 rfl R.fresh)
 have hT:({s with heap:=s.heap.push {cls:=.type "dict",data:=.dict #[]}}:aB).TypeIs (.ref s.heap.objs.size) "dict":=⟨_,hA _ rfl,rfl⟩
 have LK:(s.heap.push {cls:=.type "dict",data:=.dict #[]}).get? (W.al c)=some (listOf items dU):=jR _ g
 have zX:({s with heap:=s.heap.push {cls:=.type "dict",data:=.dict #[]}}:aB).TypeIs (.ref (W.al c)) "list":=⟨_,LK,rfl⟩
 have Np:¬c=σ.next:=eL sy
 have LW:(σ.new (.cJ [])).cells c=some (.list vs):=(if_neg Np).trans az
 have hit:eD (.ref c) (σ.new (.cJ []))=some vs:=by unfold eD;dsimp only;rw[LW]
 have OQ:aQ prog w (W.fD σ.next s.heap.objs.size) (σ.new (.cJ [])).next (.ref c) (.ref (W.al c)):=b7.bb bO.1 (hb _)
 refine cc ⟨hT,PySem.F.args_dict_init_2 _ _,?_⟩
 unfold Builtin.«dict.__init__»
 refine aP ?_
 unfold Builtin.Dict.selfAndRest
 refine aP (BZ hT ?_)
 show wpAny _ _ (pure (s.heap.objs.size,[k' (W.al c)])) _ _ _
 refine bI ?_
 show wpAny _ _ (Builtin.Dict.updateFrom "dict.__init__" s.heap.objs.size (.ref (W.al c)) [] .none) _ _ _
 unfold Builtin.Dict.updateFrom
 refine aP (yt zX (j2 (by decide) (aP (VO LK aH.h λh2 tk2 m2=>tB rfl (aP (mF ?_))))))
 have cQ:=bK.me m2
 refine aP (Gz (k:=k) (s:={s with heap:=h2,toks:=tk2}) cQ OQ hit λo N P n0 jI c4 iw=>bI ⟨vH A6 _,?_⟩)
 have ew:(W.fD σ.next s.heap.objs.size).role h2.objs.size=.free:=cQ.free (bF _)
 have jH:(h2.push o).get? h2.objs.size=some o:=hA _ n0
 have dO:=(cQ.push o).i2 (r:=.fix o) ew ⟨o,jH⟩ (λ_ e=>nomatch e) (λc' e=>bS.fix.inj e▸jH)
 have dh:=ag.ij (n:=(σ.new (.cJ [])).next) (r:=.fix o) ew
 have e7:((W.fD σ.next s.heap.objs.size).aY h2.objs.size (.fix o)).al σ.next=s.heap.objs.size:=if_pos rfl
 refine afj (da:=s.heap.objs.size) (d:=σ.next) aH.XC iw vs 0 _ (σ.new (.cJ [])) bN {s with heap:=h2.push o,toks:=tk2} 0 rfl (jx _) ⟨iw.xN _ _ _ jI dh.1,dO,OQ.bb dh.1 (bF _),⟨o,ag.dv,c4⟩,e7,λes=>?_,hit⟩ mZ λW' h' c6 bj bg e3 ed=>?_
 .have:((σ.new (.cJ [])).aY σ.next (.cJ es)).cells c=some (.list vs):=(if_neg Np).trans LW
  unfold eD;dsimp only;rw[this]
 .have en:bN.next=σ.next+1:=QZ mZ
  have i6:∀b,b≠s.heap.objs.size->(W.fD σ.next s.heap.objs.size).role b=W.role b:=λb ai=>if_neg ai
  have keepR:∀b r,W.role b=r->r≠.free->W'.role b=r:=λb r e aL=>by
   have ao:b≠s.heap.objs.size:=λq=>aL (e.symm.trans (R.free (er q.symm)))
   have h1:b≠h2.objs.size:=λq=>aL (e.symm.trans ((i6 b ao).symm.trans (by rw[q];exact ew)))
   exact((bg b h1).trans (ag.cG h1)).trans ((i6 b ao).trans e)
  have le:W.le σ.next W':=⟨⟨λb jr e=>keepR b _ e (λq=>nomatch q),λJJ LV=>by rw[bj];exact dh.1.2 JJ (yj LV)|>.trans (bO.1.2 JJ LV)⟩,λb jr e=>keepR b _ e (λq=>nomatch q),λb e=>keepR b _ e (λq=>nomatch q)⟩
  have q:aQ prog w W' bN.next (.ref σ.next) (.ref (W'.al σ.next)):=.ref (by rw[en];exact hB _)
  rw[show W'.al σ.next=s.heap.objs.size by rw[bj];exact e7] at q
  exact⟨rfl,aW W' _ h' c6 le (by rw[en];exact hb _) ed q⟩
theorem Zc:OpOk prog w h₁ (k+1) (λvs=>cF (.type "dict") vs) zz:=
 .gv λW σ a bD r cu b7 aL=>.ref (λa=>a::r) (λa=>a::cu) b7 λc bD b7=>.end (λq=>_::q) (λq=>_::q) aL λA s Q E aH a5 R=>wpN.of<|by
 obtain⟨v,a4,e,a5⟩:=a5.cR
 obtain⟨vs,az,e⟩:=cO.FI (f:=λvs=>(mP σ.next vs (σ.new (.cJ []))).map λa4=>(C.ref σ.next,a4)) e
 obtain⟨bN,mZ,e⟩:=hc.mp e
 rw[<-(rK e).1,<-(rK e).2] at a5
 obtain⟨sy,e7⟩:=b7.bt
 rw[e7] at b7⊢
 exact To aH R b7 sy az mZ a5
end
end Internal
namespace Internal
open PySem PySem.W PyProof.Rows PySem.Calls
structure rR (K:fH) (eC:a6):Prop where
 hga:findIn K (.ref gL) "__getattribute__"=some (some (.builtin "object.__getattribute__"))
 hsa:findIn K (.ref gL) "__setattr__"=some (some (.builtin "object.__setattr__"))
 hk:findIn K (.ref gL) "__getattr__"=some none
 hp:plainOver K gL=true
 ht:takerIn K gL "times"=some none
 hh:hasDictIn K gL=true
 ha:findIn K (.ref gL) "times"=some none
 hm:makesIn K gL=true
 hi:findIn K (.ref gL) "__init__"=some (some (.ref eC))
 hf:typeIn K (.ref eC)=some (.type "function")
section
variable{prog:cD}{w:cm}{h₁:a9}{K:fH}{own:Bool}{env:dc}{ns:List aV}{k:Nat}{eC:a6}
theorem b3.wg{W:ag}{σ:St}{h:a9}(B:b3 K h₁)(R:bL prog w h₁ W σ h):K.In h:=B.X.keeps R.old
noncomputable def Cr(prog:cD)(w:cm)(W:ag)(n:Nat)(es:List nr):Option C->Prop
 |none=>es=[]
 |some v=>∃(hh:Int) (cw:d4) (ax:af),es=[⟨hh,.str "times" cw,ax⟩]/\aQ prog w W n v ax
theorem inst_at{W:ag}{σ:St}{h:a9}{c:Nat}{t:Option C}(R:bL prog w h₁ W σ h)(az:σ.cells c=some (.inst t)):
 ∃d es n,h.get? (W.al c)=some (ou gL d)/\W.role d=.h3 c/\h.get? d=some (lV es n)/\InstAt h (W.al c) (ou gL d) gL (some (lV es n))/\
  Cr prog w W σ.next es t:=by
 obtain⟨d,es,n,g,r,q,v⟩:=(R.cell c _ az).2.bt
 exact⟨d,es,n,g,r,q,⟨g,rfl,rfl,q⟩,by rcases t with _|t<;>exact v⟩
noncomputable def l9(fI:cy):cy:=λaa σ=>(fI aa σ).bind λr=>match r.1 with
 |.ref c=>match r.2.cells c with
  |some (.inst (some (.cV es)))=>some (.cV es,r.2)
  |_=>none
 |_=>none
noncomputable def Jl(v:C)(σ:St):Option (C×St):=match v with
 |.ref c=>match σ.cells c with
  |some (.inst (some (.cV es)))=>some (.cV es,σ)
  |_=>none
 |_=>none
theorem instC_inv{x:Option cO}{σ:St}{aC:C->St->Prop}(h:aM (match x with|some (.inst (some (.cV es)))=>some (C.cV es,σ)|_=>none) aC):∃es,x=some (.inst (some (.cV es)))/\aC (.cV es) σ:=by
 rcases x with _|(_|_|_|(_|(_|_|_|_|_|_|_|es|_|_|_))|_)
 all_goals first|exact dA h|exact⟨es,rfl,h⟩
theorem RH{v:C}{σ:St}{aC:C->St->Prop}(h:aM (Jl v σ) aC):∃c es,v=.ref c/\σ.cells c=some (.inst (some (.cV es)))/\aC (.cV es) σ:=
 C.casesOn (motive_1:=λv=>aM (Jl v σ) aC->∃c es,v=.ref c/\σ.cells c=some (.inst (some (.cV es)))/\aC (.cV es) σ) v (λh=>dA h) (λ_ h=>dA h) (λ_ h=>dA h) (λ_ h=>dA h) (λ_ h=>dA h) (λ_ h=>dA h) (λ_ h=>dA h) (λ_ h=>dA h) (λ_ _ _ h=>dA h) (λc h=>have h:=instC_inv h;h.elim λes h=>⟨c,es,rfl,h⟩) (λ_ h=>dA h) h
theorem wq{o:bX}{pos:bz}{fI:cy}(B:b3 K h₁)(aC:rR K eC)(aK:bx prog w h₁ own env ns k (aR o env) fI)
 (cj:autoParam (aR (.Attribute o "times" pos) env=(do
    let v<-aR o env
    lW pos.atName
    let r<-mE [v] (getAttr v "times" true)
    letTemporaryGo o v r
    pure r)) Bb._auto_1):bx prog w h₁ own env ns k (aR (.Attribute o "times" pos) env) (l9 fI):=by
 refine .of λA W aa σ s Q E aH ar R=>?_
 rw[cj]
 refine bc (aK.go aH ar.bind R λeS cH ar bC d5 h1 c0 bO ab bK bo=>fK λG cc=>?_)
 obtain⟨c,es,hn,az,ar⟩:=RH (v:=eS) ar
 rw[show eS=_ from hn] at bo
 obtain⟨d,eu,n,g,og,LI,aO,hh,cw,ax,bg,gf⟩:=inst_at bK.bW az
 obtain⟨_,hn⟩:=bo.bt
 refine cc ?_
 rw[hn]
 refine bc (eP (bc (eK (.of (get_value (s:={s with heap:=h1,toks:=c0}) (B.wg bK.bW) aO aC.hga (v:=ax) (findObj_own aC.hh aC.ha (by rfl) ?_) ?_ ?_)))))
 .rw[lookIn_dict,bg];rfl
 .obtain⟨_,_,_,_,_,_,_,e⟩:=gf.bt
  rw[e];rfl
 .exact bc (.of (wpAny_letTemporaryGo (cS (d8.to ar bC ax h1 _ bO ab bK gf))))
theorem afB{M:iJ}{A:b8}{E:af->aB->Prop}{s:aB}{o:bX}{attr:aV}{iC pos:bz}{value:bX}{Q:gJ->aB->Prop}
 (h:wpN M A (aR value env) (λv bw=>wpN M A (aR o env) (λj9 dk=>wpN M A (setAttr j9 attr v) (λ_=>Q .next) E dk) E bw) E s)
 (hs:autoParam (qu value (some (.Attribute o attr iC)) pos.line env=pure false) aN._auto_1):wpN M A (hg (.Assign [.Attribute o attr iC] value pos) env) Q E s:=by
 rw[plainObj_exec_Assign_Attribute o attr iC value pos hs]
 refine bc (eP (bc (cX h (λv bw h₁=>bc ?_) λ_ _ e=>e)))
 rw[assign_Attribute]
 exact bc (eK (cX h₁ (λj9 dk fh=>bc (eP (bc (eK (cX fh (λ_ _ hY=>.of (wpAny_release' (cS hY))) λ_ _ e=>e))))) λ_ _ e=>e))
theorem OK(x:tx)(a:Int)(b v:af):∀es:List nr,(putL x a b v es).length<=es.length+1
 |[]=>bF _
 |e::r=>by
  unfold putL
  cases e.key.isStr x
  .exact Nat.succ_le_succ (OK x a b v r)
  .exact hb _
theorem Ow{A:b8}{s:aB}{R:jy->aB->Prop}{x d:a6}{es:List nr}{n:Nat}{cw:d4}{v:af}(X:K.In s.heap)(aC:rR K eC)(aO:InstAt s.heap x (ou gL d) gL (some (lV es n)))(aJ:(lookIn "times" (lV es n)).isSome=true)(hz:es.length<=1)
 (h:∀h',h'.get? d=some (lV (putL "times" (rL w.params "times") (.str "times" s.toks) v es) (putN "times" es n))->iF d s.heap h'->R (.ok (.ret .none)) {s with heap:=h',toks:=s.toks+1}):
 codeAny (bp prog w) A (.call (.builtin "object.__setattr__") ⟨[.ref x,.str "times" cw,v],[]⟩) R s:=by
 refine osa_open X aO aC.hp aC.ht λb=>?_
 obtain⟨qM,az,e8⟩:=any_some aC.hh
 have D:s.heap.get? d=some (lV es n):=aO.dict
 have ay:s.heap.get? x=some (ou gL d):=aO.at_
 refine aP (bI (aP (aP (wpAny_loadPart ay (aP ((looks_clsIn X az).here ?_))))))
 rw[e8]
 refine bI (a:=some d) (aP (bI (aP ?_)))
 unfold nsSet
 refine aP (aP (wpAny_askSetting (bI (aP (wpAny_mkText (aP (wpAny_loadPart D ?_)))))))
 dsimp only
 have c:(!es.toArray.any (·.key.isStr "times")&&es.toArray.any (·.refKey))=false:=by
  unfold lookIn at aJ
  dsimp only at aJ
  rw[<-Array.any_toList,<-Array.any_toList]
  split at aJ
  .rename_i en cj
   rw[List.any_eq_true.mpr ⟨en,BJ cj,Bz cj⟩];rfl
  .split at aJ
   .cases aJ
   .rename_i z;rw[Bool.not_eq_true] at z;rw[z,Bool.and_false]
 rw[aRefKeyMayBeTheName_at,c]
 refine wpAny_updatePart D ?_
 have Iq:(s.heap.update d (Obj.putName "times" (rL w.params "times") (.str "times" s.toks) v)).get? d=some (lV (putL "times" (rL w.params "times") (.str "times" s.toks) v es) (putN "times" es n)):=by
  rw[<-putName_dict]
  exact x9 _ D (by rw[putName_dict];rfl)
 refine aP (wpAny_lookBehind Iq (pastItsLine_dict (es:=(putL "times" (rL w.params "times") (.str "times" s.toks) v es).toArray) (cI (OK _ _ _ _ es) (Nat.succ_le_succ (cI hz (by rw[yq];decide))))) ?_)
 exact bI (h _ Iq (nt ..))
theorem bT.GU{W:ag}{aa:Loc}{σ:St}{h h':a9}{c:Nat}{p:a6}{x y:cO}(R:bT prog w h₁ own env ns W aa σ h)(az:σ.cells c=some x)(hp:W.role p=.h3 c)(hs:iF p h h')(Fc:∃o,h'.get? p=some o)(bQ:CellAt prog w W σ.next h' c (W.al c) y):
 bT prog w h₁ own env ns W aa (σ.aY c y) h':=
 R.next (R.bW.GU az hp hs Fc bQ) ag.le.refl (bF _) λa ha=>hs.2 a (by rintro rfl;exact bS.no hp ha)
noncomputable def xI(mJ fI:cy):ck:=λaa σ=>(mJ aa σ).bind λv=>(fI aa v.2).bind λo=>match v.1,o.1 with
 |.cV es,.ref c=>match o.2.cells c with
  |some (.inst _)=>some (.next,aa,o.2.aY c (.inst (some (.cV es))))
  |_=>none
 |_,_=>none
noncomputable def GO(aa:Loc)(v o:C)(σ:St):Option (dp×Loc×St):=match v,o with
 |.cV es,.ref c=>match σ.cells c with
  |some (.inst _)=>some (.next,aa,σ.aY c (.inst (some (.cV es))))
  |_=>none
 |_,_=>none
theorem inst_inv{x:Option cO}{m:Option (dp×Loc×St)}{aC:dp->Loc×St->Prop}(h:aM (match x with|some (.inst _)=>m|_=>none) aC):∃t,x=some (.inst t)/\aM m aC:=by
 rcases x with _|(_|_|_|t|_)
 all_goals first|exact dA h|exact⟨t,rfl,h⟩
theorem aeB{aa:Loc}{v o:C}{σ:St}{aC:dp->Loc×St->Prop}(h:aM (GO aa v o σ) aC):∃es c t,v=.cV es/\o=.ref c/\σ.cells c=some (.inst t)/\aM (some (dp.next,aa,σ.aY c (.inst (some (.cV es))))) aC:=
 C.casesOn (motive_1:=λv=>aM (GO aa v o σ) aC->∃es c t,v=.cV es/\o=.ref c/\σ.cells c=some (.inst t)/\aM (some (dp.next,aa,σ.aY c (.inst (some (.cV es))))) aC) v (λh=>dA h) (λ_ h=>dA h) (λ_ h=>dA h) (λ_ h=>dA h) (λ_ h=>dA h) (λ_ h=>dA h) (λ_ h=>dA h) (λes=>C.casesOn (motive_1:=λo=>aM (GO aa (.cV es) o σ) aC->∃ff c t,C.cV es=.cV ff/\o=.ref c/\σ.cells c=some (.inst t)/\aM (some (dp.next,aa,σ.aY c (.inst (some (.cV ff))))) aC) o (λh=>dA h) (λ_ h=>dA h) (λ_ h=>dA h) (λ_ h=>dA h) (λ_ h=>dA h) (λ_ h=>dA h) (λ_ h=>dA h) (λ_ h=>dA h) (λ_ _ _ h=>dA h) (λc h=>(inst_inv h).elim λt h=>⟨es,c,t,rfl,rfl,h⟩) (λ_ h=>dA h)) (λ_ _ _ h=>dA h) (λ_ h=>dA h) (λ_ h=>dA h) h
theorem afb{W:ag}{m n:Nat}{es:List nr}{t:Option C}(h:Cr prog w W m es t):(lookIn "times" (lV es n)).isSome=true/\es.length<=1/\(es=[]\/∃hh cw ax,es=[⟨hh,.str "times" cw,ax⟩]):=by
 rcases t with _|v
 .rw[show es=[] from h];exact⟨rfl,jx _,.inl rfl⟩
 .obtain⟨hh,cw,ax,e,_⟩:=h
  rw[e];exact⟨rfl,bF _,.inr ⟨_,_,_,rfl⟩⟩
theorem afc{W:ag}{m:Nat}{es:List nr}{t:Option C}{a:Int}{cw:d4}{v:C}{ax:af}(h:Cr prog w W m es t)(gf:aQ prog w W m v ax):∃(hh:Int) (c6:d4) (PG:af),putL "times" a (.str "times" cw) ax es=[⟨hh,.str "times" c6,PG⟩]/\aQ prog w W m v PG:=by
 rcases t with _|u
 .rw[show es=[] from h];exact⟨_,_,_,rfl,gf⟩
 .obtain⟨hh,cw,ax,e,_⟩:=h
  rw[e];exact⟨_,_,_,rfl,gf⟩
theorem adQ{o e:bX}{iC pos:bz}{mJ fI:cy}(B:b3 K h₁)(aC:rR K eC)(h:bx prog w h₁ true env ns k (aR e env) mJ)(aK:bx prog w h₁ true env ns k (aR o env) fI)
 (hs:autoParam (qu e (some (.Attribute o "times" iC)) pos.line env=pure false) aN._auto_1):SOk prog w h₁ env ns k (hg (.Assign [.Attribute o "times" iC] e pos) env) (xI mJ fI):=by
 refine .of λA W aa σ s Q E aH ar R=>afB (h.go aH ar.bind R λeS cH ar bC d5 h1 c0 bO ab bK bo=>aK.go aH (aM.bind ar) bK λhO bN ar bR dR h2 tk2 bh aF cQ bY=>fK λG cc=>?_) hs
 obtain⟨es,c,t,fG,d2,az,ar⟩:=aeB (v:=eS) (o:=hO) ar
 rw[show eS=_ from fG] at bo
 rw[show hO=_ from d2] at bY
 obtain⟨d,eu,n,g,og,LI,aO,a'⟩:=inst_at cQ.bW az
 have gf:=bo.bb bh.1 aF
 obtain⟨_,hn⟩:=bY.bt
 have L':=afb (n:=n) a'
 have YT:bR.al c≠d:=λq=>bS.no (cQ.bW.cell c _ az).1 ((congrArg _ q).trans og)
 refine cc ?_
 rw[hn]
 refine .of (set_plain (s:={s with heap:=h2,toks:=tk2}) (B.wg cQ.bW) aO aC.hsa (Ow (s:={s with heap:=h2,toks:=tk2+1}) (B.wg cQ.bW) aC aO L'.1 L'.2.1 λaU g3 oM=>?_))
 exact hl.to ar bR _ aU _ (bO.trans ab bh) (cI ab aF) (cQ.GU (y:=.inst (some (.cV es))) az og oM ⟨_,g3⟩ (.inst (d:=d) ((oM.2 _ YT).trans g) og g3 (afc a' gf))) trivial
end
end Internal
namespace Internal
open PySem PySem.W PyProof.Rows PySem.Calls
section
variable{prog:cD}{w:cm}{h₁:a9}{K:fH}{own:Bool}{env:dc}{ns:List aV}{k:Nat}{eC:a6}
theorem afT{M:iJ}{A:b8}{E:af->aB->Prop}{s:aB}{f:af}{Q:Args->aB->Prop}
 (h:wpN M A (h6 []) (λvs a8=>Q ⟨vs,[]⟩ a8) E s):wpN M A (qq f true [] []) Q E s:=by
 exactλdu p fS az=>(PT (show Q ⟨[],[]⟩ s from h du p fS az)) du p fS az
noncomputable def mn(F:b4)(fI:cy)(eh:iZ):cy:=λaa σ=>(fI aa σ).bind λr=>match r.1 with
 |.ref c=>match r.2.cells c with
  |some (.inst _)=>(eh aa r.2).bind λq=>F (.ref c::q.1) q.2
  |_=>none
 |_=>none
theorem afG{A:b8}{E:af->aB->Prop}{s:aB}{o:bX}{name:aV}{i0 pos:bz}{args:List bX}{xU:List (Bool×c8 af)}{fa:a6}{Q:af->aB->Prop}
 (pG:yo o name env (aR o env)=aR o env)
 (sC:((fb pos (d7 args env)).all (λx=> !x.1)&&(nB pos (nE [] env)).all (λx=>x.1.isSome)
   &&decide (args.length+([]:List o5).length+(if([]:List o5).isEmpty then 0 else 1)<30))=true)
 (pL:(i0.endLine==pos.line)=true)(Fm:fb pos (d7 args env)=xU)
 (h:wpN (bp prog w) A (aR o env) (λj9 bw=>(∀(P:af×List af->aB->Prop) (rm:c8 Bool),P (.ref fa,[j9]) bw->wpAny (bp prog w) A (getMethod j9 name rm) P E bw)/\
   wpN (bp prog w) A (nD pos (.ref fa) [j9] xU []) Q E bw) E s):
 wpN (bp prog w) A (aR (.Call (.Attribute o name i0) args [] pos) env) Q E s:=by
 subst Fm
 rw[arm_eval_Call,pG]
 refine bc (cX h (λj9 bw h₁=>?_) λ_ _ e=>e)
 obtain⟨hm,az⟩:=h₁
 refine bc (eP ?_)
 have EZ:methodCallForm (args.length+([]:List o5).length) (fb pos (d7 args env)) (nB pos (nE [] env))=true:=sC
 have Fd:methodCallPos true o env i0 pos=pure pos:=by unfold methodCallPos;simp[pL]
 unfold methodCall
 rw[EZ]
 refine bc (eK (.of (hm _ _ ?_)))
 dsimp only
 rw[Fd]
 exact bc (cS az)
theorem wu{o:bX}{name:aV}{i0 pos:bz}{args:List bX}{fI:cy}{eh:iZ}{F:b4}{fa:a6}{of:bM}{fd:d3}(B:b3 K h₁)(aC:rR K eC)
 (Wr:findIn K (.ref gL) name=some (some (.ref fa)))(Wu:typeIn K (.ref fa)=some (.type "function"))(n0:h₁.get? fa=some of)(EW:of.data=.func fd)
 (aK:bx prog w h₁ own env ns k (aR o env) fI)(ha:nF prog w h₁ own env ns k (h6 (fb pos (d7 args env))) eh)(h8:OpOk prog w h₁ k (λvs=>cF (.ref fa) vs) F)
 (WV:autoParam (∀n,shadowIn (some (lV [] n)) name=some false) eU._auto_1)
 (kV:autoParam (∀hh cw ax n,shadowIn (some (lV [⟨hh,.str "times" cw,ax⟩] n)) name=some false) agA._auto_1)
 (pG:autoParam (yo o name env (aR o env)=aR o env) aN._auto_1)
 (sC:autoParam (((fb pos (d7 args env)).all (λx=> !x.1)&&(nB pos (nE [] env)).all (λx=>x.1.isSome)
   &&decide (args.length+([]:List o5).length+(if([]:List o5).isEmpty then 0 else 1)<30))=true) aN._auto_1)
 (pL:autoParam ((i0.endLine==pos.line)=true) aN._auto_1)(sG:autoParam ((fb pos (d7 args env)).any (·.1)=false) aN._auto_1)
 (EV:∀(A:b8) (s:aB) (Q:Args->aB->Prop) (E:af->aB->Prop),wpN (bp prog w) A (h6 (fb pos (d7 args env))) (λvs a8=>Q ⟨vs,[]⟩ a8) E s->wpN (bp prog w) A (qq (.ref fa) true (fb pos (d7 args env)) []) Q E s:=by
   first|exactλ_ _ _ _ h=>PU h|exactλ_ _ _ _ h=>afT h):
 bx prog w h₁ own env ns k (aR (.Call (.Attribute o name i0) args [] pos) env) (mn F fI eh):=by
 intro A W aa σ v a4 s Q E aH ar R aW
 obtain⟨⟨eS,cH⟩,bj,ar⟩:=bind_some ar
 dsimp only at ar
 obtain⟨c,t,fG,az,zW⟩:∃c t,eS=.ref c/\cH.cells c=some (.inst t)/\((eh aa cH).bind λq=>F (.ref c::q.1) q.2)=some (v,a4):=by
  split at ar
  .split at ar
   .exact⟨_,_,rfl,by assumption,ar⟩
   .exact au ar
  .exact au ar
 subst fG
 obtain⟨⟨vs,bN⟩,bg,ar⟩:=bind_some zW
 refine afG (fa:=fa) pG sC pL rfl ?_
 refine aK A W aa σ _ cH s _ E aH bj R λbC d5 h1 c0 bO ab bK bo=>?_
 obtain⟨d,eu,n,g,og,LI,aO,a'⟩:=inst_at bK.bW az
 have ac6:=bo
 cases bo
 refine⟨λP rm c4=>method_fn (s:={s with heap:=h1,toks:=c0}) (B.wg bK.bW) aO aC.hga aC.hk Wr Wu ?_ c4,?_⟩
 .induction t with
  |none=>obtain rfl:eu=[]:=a';exact WV n
  |some v=>obtain⟨hh,cw,ax,e,_⟩:=a';subst e;exact kV hh cw ax n
 refine PS (o:=of) (fd:=fd) sG (EV _ _ _ _ ?_)
 refine ha A bC aa cH vs bN _ _ E aH bg bK λbR bG h2 tk2 bh aF cQ bY=>⟨⟨cQ.bW.old _ _ n0,EW⟩,?_⟩
 exact cQ.op (s:={s with heap:=h2,toks:=tk2}) h8 aH ar (.cons (ac6.bb bh.1 aF) bY) λcf ax aU df dh bE dO ea=>
  aW cf ax aU df ((bO.trans ab bh).trans (cI ab aF) dh) (cI ab (cI aF bE)) dO ea
end
end Internal
namespace Internal
open PySem PySem.W PyProof.Rows PySem.Calls
section
noncomputable abbrev I4(q:cD)(loose:List aV)(XP:(aV->Option af)->a9->Prop)(YP:cm->a9->Prop)(r:RowW)(d:DefRec)(xd:List (aV×bX)):Prop:=
 ∀(w:cm) (p9 bw:aB) (lC pW:aV->Option af),Ground q loose r.records XP w p9 lC pW bw.heap->YP w bw.heap->∀(a:a6) (o:bM) (p3 qM doc wm xa:af),bw.heap.get? a=some o->
  o.data=.func {docDef d.name d.params d.body d.scope p3 qM doc with defaults:=wm,kwdefaults:=xa}->bw.heap.CodeRec qM d.name->Dflts lC bw.heap d.params xd wm xa->lC d.name=some (.ref a)->bw.gens= #[]->
  ∀(args:List WData) (qb:List af) (as:List a6),r.claim.pre args=true->WData.layableAll args=true->ReadsAllW r.records (classAt p9.heap) bw.heap qb args as->WellAll w.params bw.heap qb args->(∀a∈as,(a==hD)=false)->
   wpN (bp r.prog w) callerA (PySem.call (.ref a) qb) (λv a8=>GoodWG r.claim (classAt p9.heap) (ExcName.means p9.heap) args bw (.ok (.ret v)) a8)
    (λe a8=>GoodWG r.claim (classAt p9.heap) (ExcName.means p9.heap) args bw (.error e) a8) bw
noncomputable abbrev zr:Ctx:=⟨.builtin "claim.caller" {},none,none,[],none⟩
theorem SE:yw zr:=⟨by decide+kernel,λ_ h=>nomatch h⟩
theorem afa{prog:cD}{w:cm}{t:c8 Fin}{s:aB}{R:jy->aB->Prop}(W7:s.asleep)
 (h:wpN (bp prog w) callerA t (λcW a8=>∃f,cW=.done f/\(R (.ok f) a8/\AllBare a8.gens)) (λe a8=>R (.error e) a8/\AllBare a8.gens) s):
 ∃n r a8 p6,runN (denote table) prog w n s ⟨t,.builtin "claim.caller" {},default,[]⟩=.halted (outcomeOf r) a8/\
  schedN (denote table) prog w n (.single s ⟨t,.builtin "claim.caller" {},default,[]⟩)=.halted (outcomeOf r) a8/\a8.forget=p6.forget/\R r p6:=by
 have hw:Sem.wp (bp prog w) zr t (Sem.finPost (bp prog w) zr λr a8=>R r a8/\leftWithCleanup a8.gens=false) (λe _ a8=>R (.error e) a8/\leftWithCleanup a8.gens=false) default s:=by
  refine vE _ _ _ (λcW jM a8 h'=>?_) (λ_ _ _ h'=>⟨h'.1,leftWithCleanup_false_of_bare h'.2⟩) _ s (h zr default caller_in SE)
  obtain⟨f,rfl,g1,g2⟩:=h'
  exact⟨g1,leftWithCleanup_false_of_bare g2⟩
 obtain⟨n,r,bw,dk,hs,a3,EY,hL⟩:=wp_halts_full (M:=bp prog w) (R:=R) W7 hw
 exact⟨n,r,dk,bw,a3,hs,EY,hL⟩
theorem Sw{c:ClaimW}{tree:List af->c8 Fin}{w:cm}{s:aB}{free:a6->Prop}{gens:Prop}{n5:a9->Prop}(hz:s.asleep)(ug:s.gens= #[])
 (Xe:∀args,c.pre args=true->WData.layableAll args=true->∀ord:List nr->List nr,(∀l,(ord l).Perm l)->
   ∃vs bw,layAllW c.records (classAt s.heap) w.params ord args s=some (vs,bw)/\
    wpN (bp c.prog w) callerA (tree vs) (λcW a8=>∃f,cW=.done f/\(c.Ends s args vs bw (.ok f) a8/\a8.os=s.os/\AllBare a8.gens/\n5 a8.heap))
     (λe a8=>c.Ends s args vs bw (.error e) a8/\a8.os=s.os/\AllBare a8.gens/\n5 a8.heap) bw):
 c.CallFrom (λvs=>⟨tree vs,.builtin "claim.caller" {},default,[]⟩) w free gens n5 s:=by
 intro args mi ui ord z8
 refine fK λG cc=>?_
 obtain⟨vs,bw,q6,Wj⟩:=Xe args mi ui ord z8
 have lr:=layAllW_rest _ _ _ q6
 obtain⟨k,r,a8,p6,W9,Xc,EY,EO,q9,z3⟩:=afa (prog:=c.prog) (w:=w) (t:=tree vs) (s:=bw) (R:=λr a8=>c.Ends s args vs bw r a8/\a8.os=s.os/\n5 a8.heap)
  (Shared.asleep_of_life lr.2.2.2 hz) (cX Wj (λ_ _ q=>by obtain⟨f,e,a,b,g,k⟩:=q;exact⟨f,e,⟨a,b,k⟩,g⟩) λ_ _ q=>⟨⟨q.1,q.2.1,q.2.2.2⟩,q.2.2.1⟩)
 obtain⟨Kk,_,_,iM,_⟩:=Shared.forget_eq EY
 have EO:=ClaimW.Ends.congr Kk EO
 rw[<-Kk] at z3
 rw[<-iM] at q9
 have WG:a8.heap.life=s.heap.life:=(runN_life _ _ _ W9).trans lr.2.2.2
 refine cc ⟨vs,bw,q6,k,_,a8,Xc,?_,(λ_ i x ay=>by rw[ug] at ay;simp at ay),z3,by rw[WG],Shared.rest_eq q9⟩
 rcases EO with⟨v,rfl,jZ,gV,DD,DE,DF⟩|⟨e,ob,cls,rfl,jZ,gV,DD,DE,DF⟩
 .exact .inl ⟨v,rfl,jZ,gV,DD,λb o y _=>DE b o y,DF⟩
 .exact .inr ⟨e,ob,cls,rfl,jZ,gV,DD,DE,λb o y _=>DF b o y⟩
end
end Internal
open PySem PySem.W PyProof.Rows PySem.Calls Internal
namespace IV
theorem PySem.W.holds_open{r:OpenRow}{q:cD}{loose:List aV}{Xt:aB->Bool}{XP:(aV->Option af)->a9->Prop}{α:Type}{Yf:aB->α}{Ya:cm->α}{YP:cm->a9->Prop}{d:DefRec}{xd:List (aV×bX)}{N:Nat}
 (left:LeftO r.prog q loose Xt Yf Ya N)(Wf:∀w s,Yf s=Ya w->YP w s.heap)(Wg:∀w h h',YP w h->(∀b o,h.get? b=some o->h'.get? b=some o)->YP w h')
 (LP:∀s,Xt s=true->XP (s.heap.nsMap c1) s.heap)(We:∀lC h h',XP lC h->(∀b o,h.get? b=some o->h'.get? b=some o)->XP lC h')
 (ES:defOf q r.name=some (d,xd))(hp:r.prog.theDef r.name=some (d.params,d.body,d.scope))(hk:kwWritten? d.params.kwonlyargs d.params.kw_defaults=some xd)(V9:∀s,Xt s=true->RecFacts r.records s.heap)(Xm:(!r.writes||r.records.isEmpty)=true)
 (dK:r.wellSaid=true)(ok:(chainsOk q&&opensWell r.prog&&(frees r.toRowW&&r.within.isEmpty))=true)(ai:r.prog.bare)(hw:r.toRowW.promised)
 (cF:I4 q loose XP YP r.toRowW d xd):r.Holds:=by
 obtain⟨z0,FA⟩:=om.mp ok
 obtain⟨z0,rh⟩:=om.mp z0
 obtain⟨FA,n4⟩:=om.mp FA
 obtain⟨Xb,bZ,ha,mZ,hm⟩:=frees_parts FA
 refine⟨dK,hw,⟨ai,rh,by show r.toRowW.makers.map _=[];rw[hm];rfl⟩,hw.witness,λw=>⟨(left.behind LP z0 w).1,λa8 jJ=>?_⟩⟩
 refine fK λagH R8=>?_
 obtain⟨p9,hf,Wv,s,hT,hz,ug,a0,l0,y⟩:=(left.behind (XP:=λlC h=>XP lC h/\RecFacts r.records h) (λs hs=>⟨LP s hs,V9 s hs⟩) z0 w).2 a8 jJ
 have IP:Ground q loose [] XP w s (s.heap.nsMap c1) (s.heap.nsMap la) s.heap:=⟨l0.T,l0.B,l0.D,l0.TE,l0.TD,l0.W,l0.X.1,l0.cls,l0.has,l0.apart,l0.once,l0.K⟩
 have v':=l0.X.2
 refine R8 ⟨p9,hf,Wv,s,hT,λn a3=>?_,v'.1,v'.2.1,?_⟩
 .obtain rfl:n=r.name:=by split at a3<;>simp_all
  exact pinned_of_view a0 IP ES hp hk
 have ug:s.gens= #[]:=Array.eq_empty_of_size_eq_zero (beq_iff_eq.mp ug)
 have G:Ground q loose r.records XP w s _ _ s.heap:=v'.ground IP
 refine Sw hz ug λargs mi ui ord z8=>fK λagI R9=>?_
 obtain⟨⟨vs,bw⟩,q6⟩:=vz.mp (layAllW_isSome (P:=w.params) (ord:=ord) G.has args r.args s (pre_splitW mi).1)
 have keeps:=layAllW_keeps _ _ _ q6
 have lr:=layAllW_rest _ _ _ q6
 obtain⟨as,Ff,Wy,gr⟩:=reads_layAllW z8 _ _ _ q6 ui bw.heap (λ_ _ e=>e)
 have aZ:Laid r.records w s bw args vs as:=⟨⟨ord,z8,q6⟩,Ff,Wy,gr,keeps,lr.1.trans ug,lr.2.2.1⟩
 have Cj:=G.keeps We keeps
 obtain⟨a,o,p3,qM,doc,wm,xa,bj,bg,e3,gO,pl⟩:=Cj.fn ES
 have h:=cF w s bw _ _ Cj (Wg _ _ _ (Wf w s y) keeps) a o p3 qM doc wm xa bg e3 gO pl (defOf_name ES▸bj) aZ.gens args vs as mi ui aZ.reads aZ.well (aZ.low G.low)
 have hi:=ident_freeW bZ ha mZ
 have Xk:r.toRowW.claim.within=[]:=List.isEmpty_iff.mp n4
 have cW:∀res a8,GoodWG r.toRowW.claim (classAt s.heap) (ExcName.means s.heap) args bw res a8->r.toRowW.claim.Ends s args vs bw res a8/\a8.os=s.os/\AllBare a8.gens/\(r.writes=true->namesKept r.toRowW.claim.prog r.keeps s.heap a8.heap/\∀x∈r.toRowW.claim.records,∀a,classAt s.heap x.1=some a->recordClass a8.heap a x.1 (x.2.map (·.1))=true):=λres a8 g=>
  have z:=g.laid (c:=r.toRowW.claim) Xb Xk hi aZ
  ⟨z.1,z.2.1,z.2.2,λq=>⟨namesKept_of hT a0 _ keeps g.2.1.old,noTable Xm q⟩⟩
 refine R9 ⟨vs,bw,q6,bc (.of (wpAny_nsGet Cj.T.g ?_))⟩
 rw[show s.heap.nsMap c1 r.name=some (.ref a) from bj]
 refine bc (cX h (λv a8 g=>?_) λe a8 g=>cW _ _ g)
 exact cS ⟨_,rfl,cW _ _ g⟩
end IV
namespace Internal
open PySem PySem.W PyProof.Rows PySem.Calls
@[reducible] def pick{α:Type}{x y:α}(_:x=y):α:=y
noncomputable def ct(i:Nat):Option dG:=(Challenge.pw_nz0352_01.main.body.drop i).head?
noncomputable def kZ(i aj:Nat):Option dG:=match ct i with
 |some (.ClassDef _ _ _ b ..)=>(b.drop aj).head?
 |_=>none
noncomputable def fo:Option dG->List dG
 |some (.FunctionDef _ _ b ..)=>b
 |_=>[]
noncomputable def fm:Option dG->e9
 |some (.FunctionDef _ a ..)=>a
 |_=>⟨[],[],none,[],[],none,[]⟩
noncomputable def fp:Option dG->eI
 |some (.FunctionDef _ _ _ _ _ _ c ..)=>c
 |_=>default
noncomputable def cz(P:dY)(x:tx)(t:d4)(v:af):nr:=⟨rL P x,.str x t,v⟩
noncomputable abbrev fk(n q:tx)(a:e9)(b:List dG)(c:eI)(m:tx)(t:d4)(k:a6):d3:=
 {name:=n,qualname:=q,params:=a,body:=.stmts b,scope:=c,globals:=3,closure:=[],defaults:=.none,kwdefaults:=.none,pyModule:=.str m t,code:=.ref k}
noncomputable abbrev fq(f:d3):bM:={cls:=.type "function",data:=.func f}
noncomputable abbrev rv(l:List af):bM:={cls:=.type "tuple",data:=.seq l.toArray}
noncomputable def fj(n q:tx)(t:d4)(line args U0:Int)(a:a6)(x:Int)(b:a6)(eS hO:af)(c:a6)(u:Int)(fF:d4):bM:=
 {cls:=.type "code",data:=.fields #[.str n t,.str q (t+1),.str "/claim/cut.py" (t+2),.int line 0,.int args 0,.int 0 0,.int 0 0,.int U0 0,.ref a,.bool true,.int x 0,.ref b,.none,eS,hO,.ref c,.int u 0,.int line 0,.str "/claim/cut.py" fF]}
noncomputable abbrev De:List dG:=pick (x:=fo (ct 5)) (by conv=>lhs;whnf)
noncomputable abbrev Ri:e9:=pick (x:=fm (ct 5)) (by conv=>lhs;whnf)
noncomputable abbrev aea:eI:=pick (x:=fp (ct 5)) (by conv=>lhs;whnf)
noncomputable abbrev Ed:d3:=fk "way_of" "way_of" Ri De aea "quic.resend" 187 24
noncomputable abbrev K4:bM:=fq Ed
noncomputable abbrev Dm:List dG:=pick (x:=fo (ct 6)) (by conv=>lhs;whnf)
noncomputable abbrev Rt:e9:=pick (x:=fm (ct 6)) (by conv=>lhs;whnf)
noncomputable abbrev aek:eI:=pick (x:=fp (ct 6)) (by conv=>lhs;whnf)
noncomputable abbrev El:d3:=fk "subject_of" "subject_of" Rt Dm aek "quic.resend" 187 31
noncomputable abbrev Lb:bM:=fq El
noncomputable abbrev Dn:List dG:=pick (x:=fo (ct 7)) (by conv=>lhs;whnf)
noncomputable abbrev Ru:e9:=pick (x:=fm (ct 7)) (by conv=>lhs;whnf)
noncomputable abbrev ael:eI:=pick (x:=fp (ct 7)) (by conv=>lhs;whnf)
noncomputable abbrev Em:d3:=fk "newest" "newest" Ru Dn ael "quic.resend" 187 36
noncomputable abbrev Lc:bM:=fq Em
noncomputable abbrev Dp:List dG:=pick (x:=fo (ct 8)) (by conv=>lhs;whnf)
noncomputable abbrev Rv:e9:=pick (x:=fm (ct 8)) (by conv=>lhs;whnf)
noncomputable abbrev aem:eI:=pick (x:=fp (ct 8)) (by conv=>lhs;whnf)
noncomputable abbrev En:d3:=fk "told_again" "told_again" Rv Dp aem "quic.resend" 187 43
noncomputable abbrev Ld:bM:=fq En
noncomputable abbrev Dq:List dG:=pick (x:=fo (ct 9)) (by conv=>lhs;whnf)
noncomputable abbrev Rw:e9:=pick (x:=fm (ct 9)) (by conv=>lhs;whnf)
noncomputable abbrev aen:eI:=pick (x:=fp (ct 9)) (by conv=>lhs;whnf)
noncomputable abbrev Eo:d3:=fk "held_data" "held_data" Rw Dq aen "quic.resend" 187 48
noncomputable abbrev Le:bM:=fq Eo
noncomputable abbrev Dr:List dG:=pick (x:=fo (ct 41)) (by conv=>lhs;whnf)
noncomputable abbrev Rx:e9:=pick (x:=fm (ct 41)) (by conv=>lhs;whnf)
noncomputable abbrev aeo:eI:=pick (x:=fp (ct 41)) (by conv=>lhs;whnf)
noncomputable abbrev Ep:d3:=fk "put_whole" "put_whole" Rx Dr aeo "quic.varint" 337 76
noncomputable abbrev Lf:bM:=fq Ep
noncomputable abbrev Ds:List dG:=pick (x:=fo (ct 42)) (by conv=>lhs;whnf)
noncomputable abbrev Ry:e9:=pick (x:=fm (ct 42)) (by conv=>lhs;whnf)
noncomputable abbrev aep:eI:=pick (x:=fp (ct 42)) (by conv=>lhs;whnf)
noncomputable abbrev Er:d3:=fk "varint_size" "varint_size" Ry Ds aep "quic.varint" 337 83
noncomputable abbrev Lg:bM:=fq Er
noncomputable abbrev Dt:List dG:=pick (x:=fo (ct 43)) (by conv=>lhs;whnf)
noncomputable abbrev Rz:e9:=pick (x:=fm (ct 43)) (by conv=>lhs;whnf)
noncomputable abbrev aeq:eI:=pick (x:=fp (ct 43)) (by conv=>lhs;whnf)
noncomputable abbrev Es:d3:=fk "put_varint" "put_varint" Rz Dt aeq "quic.varint" 337 90
noncomputable abbrev Lh:bM:=fq Es
noncomputable abbrev Du:List dG:=pick (x:=fo (ct 46)) (by conv=>lhs;whnf)
noncomputable abbrev RA:e9:=pick (x:=fm (ct 46)) (by conv=>lhs;whnf)
noncomputable abbrev aer:eI:=pick (x:=fp (ct 46)) (by conv=>lhs;whnf)
noncomputable abbrev Et:d3:=fk "put_numbers" "put_numbers" RA Du aer "quic.framesout" 371 96
noncomputable abbrev Li:bM:=fq Et
noncomputable abbrev CW:List dG:=pick (x:=fo (ct 47)) (by conv=>lhs;whnf)
noncomputable abbrev Q0:e9:=pick (x:=fm (ct 47)) (by conv=>lhs;whnf)
noncomputable abbrev adT:eI:=pick (x:=fp (ct 47)) (by conv=>lhs;whnf)
noncomputable abbrev DX:d3:=fk "put_counted" "put_counted" Q0 CW adT "quic.framesout" 371 103
noncomputable abbrev KJ:bM:=fq DX
noncomputable abbrev CX:List dG:=pick (x:=fo (ct 50)) (by conv=>lhs;whnf)
noncomputable abbrev Q1:e9:=pick (x:=fm (ct 50)) (by conv=>lhs;whnf)
noncomputable abbrev adU:eI:=pick (x:=fp (ct 50)) (by conv=>lhs;whnf)
noncomputable abbrev DY:d3:=fk "put_stream" "put_stream" Q1 CX adU "quic.framesout" 371 124
noncomputable abbrev KL:bM:=fq DY
noncomputable abbrev CY:List dG:=pick (x:=fo (ct 51)) (by conv=>lhs;whnf)
noncomputable abbrev Q2:e9:=pick (x:=fm (ct 51)) (by conv=>lhs;whnf)
noncomputable abbrev adV:eI:=pick (x:=fp (ct 51)) (by conv=>lhs;whnf)
noncomputable abbrev DZ:d3:=fk "put_new_cid" "put_new_cid" Q2 CY adV "quic.framesout" 371 131
noncomputable abbrev KN:bM:=fq DZ
noncomputable abbrev CZ:List dG:=pick (x:=fo (ct 53)) (by conv=>lhs;whnf)
noncomputable abbrev Q3:e9:=pick (x:=fm (ct 53)) (by conv=>lhs;whnf)
noncomputable abbrev adW:eI:=pick (x:=fp (ct 53)) (by conv=>lhs;whnf)
noncomputable abbrev D0:d3:=fk "put_octets_frame" "put_octets_frame" Q3 CZ adW "quic.framesout" 371 145
noncomputable abbrev KO:bM:=fq D0
noncomputable abbrev C0:List dG:=pick (x:=fo (ct 54)) (by conv=>lhs;whnf)
noncomputable abbrev Q4:e9:=pick (x:=fm (ct 54)) (by conv=>lhs;whnf)
noncomputable abbrev adX:eI:=pick (x:=fp (ct 54)) (by conv=>lhs;whnf)
noncomputable abbrev D1:d3:=fk "put_frame" "put_frame" Q4 C0 adX "quic.framesout" 371 152
noncomputable abbrev KP:bM:=fq D1
noncomputable abbrev C1:List dG:=pick (x:=fo (ct 55)) (by conv=>lhs;whnf)
noncomputable abbrev Q5:e9:=pick (x:=fm (ct 55)) (by conv=>lhs;whnf)
noncomputable abbrev adY:eI:=pick (x:=fp (ct 55)) (by conv=>lhs;whnf)
noncomputable abbrev D2:d3:=fk "frame_size" "frame_size" Q5 C1 adY "quic.framesout" 371 159
noncomputable abbrev KQ:bM:=fq D2
noncomputable abbrev C2:List dG:=pick (x:=fo (ct 58)) (by conv=>lhs;whnf)
noncomputable abbrev Q6:e9:=pick (x:=fm (ct 58)) (by conv=>lhs;whnf)
noncomputable abbrev adZ:eI:=pick (x:=fp (ct 58)) (by conv=>lhs;whnf)
noncomputable abbrev D3:d3:=fk "data_of" "data_of" Q6 C2 adZ "quic.packing" 494 167
noncomputable abbrev KR:bM:=fq D3
noncomputable abbrev C3:List dG:=pick (x:=fo (ct 59)) (by conv=>lhs;whnf)
noncomputable abbrev Q7:e9:=pick (x:=fm (ct 59)) (by conv=>lhs;whnf)
noncomputable abbrev ad0:eI:=pick (x:=fp (ct 59)) (by conv=>lhs;whnf)
noncomputable abbrev D4:d3:=fk "with_data" "with_data" Q7 C3 ad0 "quic.packing" 494 174
noncomputable abbrev KS:bM:=fq D4
noncomputable abbrev C4:List dG:=pick (x:=fo (ct 60)) (by conv=>lhs;whnf)
noncomputable abbrev Q8:e9:=pick (x:=fm (ct 60)) (by conv=>lhs;whnf)
noncomputable abbrev ad1:eI:=pick (x:=fp (ct 60)) (by conv=>lhs;whnf)
noncomputable abbrev D5:d3:=fk "data_room" "data_room" Q8 C4 ad1 "quic.packing" 494 181
noncomputable abbrev KU:bM:=fq D5
noncomputable abbrev C5:List dG:=pick (x:=fo (ct 61)) (by conv=>lhs;whnf)
noncomputable abbrev Q9:e9:=pick (x:=fm (ct 61)) (by conv=>lhs;whnf)
noncomputable abbrev ad2:eI:=pick (x:=fp (ct 61)) (by conv=>lhs;whnf)
noncomputable abbrev D6:d3:=fk "cut_frame" "cut_frame" Q9 C5 ad2 "quic.packing" 494 188
noncomputable abbrev KV:bM:=fq D6
noncomputable abbrev C6:List dG:=pick (x:=fo (ct 62)) (by conv=>lhs;whnf)
noncomputable abbrev Q':e9:=pick (x:=fm (ct 62)) (by conv=>lhs;whnf)
noncomputable abbrev ad3:eI:=pick (x:=fp (ct 62)) (by conv=>lhs;whnf)
noncomputable abbrev D7:d3:=fk "filled" "filled" Q' C6 ad3 "quic.packing" 494 195
noncomputable abbrev KW:bM:=fq D7
noncomputable abbrev C7:List dG:=pick (x:=fo (ct 63)) (by conv=>lhs;whnf)
noncomputable abbrev Ra:e9:=pick (x:=fm (ct 63)) (by conv=>lhs;whnf)
noncomputable abbrev ad4:eI:=pick (x:=fp (ct 63)) (by conv=>lhs;whnf)
noncomputable abbrev D8:d3:=fk "in_rooms" "in_rooms" Ra C7 ad4 "quic.packing" 494 202
noncomputable abbrev KX:bM:=fq D8
noncomputable abbrev C8:List dG:=pick (x:=fo (ct 66)) (by conv=>lhs;whnf)
noncomputable abbrev Rb:e9:=pick (x:=fm (ct 66)) (by conv=>lhs;whnf)
noncomputable abbrev ad5:eI:=pick (x:=fp (ct 66)) (by conv=>lhs;whnf)
noncomputable abbrev D9:d3:=fk "kind_place" "kind_place" Rb C8 ad5 "quic.timers" 562 210
noncomputable abbrev KY:bM:=fq D9
noncomputable abbrev C9:List dG:=pick (x:=fo (ct 67)) (by conv=>lhs;whnf)
noncomputable abbrev Rc:e9:=pick (x:=fm (ct 67)) (by conv=>lhs;whnf)
noncomputable abbrev ad6:eI:=pick (x:=fp (ct 67)) (by conv=>lhs;whnf)
noncomputable abbrev D':d3:=fk "next_due" "next_due" Rc C9 ad6 "quic.timers" 562 217
noncomputable abbrev KZ:bM:=fq D'
noncomputable abbrev C':List dG:=pick (x:=fo (ct 68)) (by conv=>lhs;whnf)
noncomputable abbrev Rd:e9:=pick (x:=fm (ct 68)) (by conv=>lhs;whnf)
noncomputable abbrev ad7:eI:=pick (x:=fp (ct 68)) (by conv=>lhs;whnf)
noncomputable abbrev Ea:d3:=fk "all_due" "all_due" Rd C' ad7 "quic.timers" 562 222
noncomputable abbrev K0:bM:=fq Ea
noncomputable abbrev Dc:List dG:=pick (x:=fo (ct 69)) (by conv=>lhs;whnf)
noncomputable abbrev Rf:e9:=pick (x:=fm (ct 69)) (by conv=>lhs;whnf)
noncomputable abbrev ad8:eI:=pick (x:=fp (ct 69)) (by conv=>lhs;whnf)
noncomputable abbrev Eb:d3:=fk "with_alarm" "with_alarm" Rf Dc ad8 "quic.timers" 562 227
noncomputable abbrev K1:bM:=fq Eb
noncomputable abbrev Dd:List dG:=pick (x:=fo (kZ 70 1)) (by conv=>lhs;whnf)
noncomputable abbrev Rh:e9:=pick (x:=fm (kZ 70 1)) (by conv=>lhs;whnf)
noncomputable abbrev ad':eI:=pick (x:=fp (kZ 70 1)) (by conv=>lhs;whnf)
noncomputable abbrev Ec:d3:=fk "put" "Alarms.put" Rh Dd ad' "quic.timers" 562 248
noncomputable abbrev K3:bM:=fq Ec
noncomputable abbrev Df:List dG:=pick (x:=fo (kZ 70 2)) (by conv=>lhs;whnf)
noncomputable abbrev Rj:e9:=pick (x:=fm (kZ 70 2)) (by conv=>lhs;whnf)
noncomputable abbrev aeb:eI:=pick (x:=fp (kZ 70 2)) (by conv=>lhs;whnf)
noncomputable abbrev Ee:d3:=fk "time_of" "Alarms.time_of" Rj Df aeb "quic.timers" 562 255
noncomputable abbrev K5:bM:=fq Ee
noncomputable abbrev Dg:List dG:=pick (x:=fo (kZ 70 3)) (by conv=>lhs;whnf)
noncomputable abbrev Rk:e9:=pick (x:=fm (kZ 70 3)) (by conv=>lhs;whnf)
noncomputable abbrev aec:eI:=pick (x:=fp (kZ 70 3)) (by conv=>lhs;whnf)
noncomputable abbrev Ef:d3:=fk "first" "Alarms.first" Rk Dg aec "quic.timers" 562 262
noncomputable abbrev K6:bM:=fq Ef
noncomputable abbrev Dh:List dG:=pick (x:=fo (kZ 70 4)) (by conv=>lhs;whnf)
noncomputable abbrev Rl:e9:=pick (x:=fm (kZ 70 4)) (by conv=>lhs;whnf)
noncomputable abbrev aed:eI:=pick (x:=fp (kZ 70 4)) (by conv=>lhs;whnf)
noncomputable abbrev Eg:d3:=fk "take_due" "Alarms.take_due" Rl Dh aed "quic.timers" 562 269
noncomputable abbrev K7:bM:=fq Eg
noncomputable abbrev Di:List dG:=pick (x:=fo (ct 72)) (by conv=>lhs;whnf)
noncomputable abbrev Rm:e9:=pick (x:=fm (ct 72)) (by conv=>lhs;whnf)
noncomputable abbrev aee:eI:=pick (x:=fp (ct 72)) (by conv=>lhs;whnf)
noncomputable abbrev Eh:d3:=fk "_law_draw" "_law_draw" Rm Di aee "law_nz0352_01" 663 283
noncomputable abbrev K8:bM:=fq Eh
noncomputable abbrev zm:List dG:=pick (x:=fo (ct 73)) (by conv=>lhs;whnf)
noncomputable abbrev Rn:e9:=pick (x:=fm (ct 73)) (by conv=>lhs;whnf)
noncomputable abbrev aef:eI:=pick (x:=fp (ct 73)) (by conv=>lhs;whnf)
noncomputable abbrev zJ:d3:=fk "_law_frames" "_law_frames" Rn zm aef "law_nz0352_01" 663 288
noncomputable abbrev Ew:bM:=fq zJ
noncomputable abbrev Dj:List dG:=pick (x:=fo (ct 74)) (by conv=>lhs;whnf)
noncomputable abbrev Ro:e9:=pick (x:=fm (ct 74)) (by conv=>lhs;whnf)
noncomputable abbrev aeg:eI:=pick (x:=fp (ct 74)) (by conv=>lhs;whnf)
noncomputable abbrev Ei:d3:=fk "_law_comes" "_law_comes" Ro Dj aeg "law_nz0352_01" 663 295
noncomputable abbrev K9:bM:=fq Ei
noncomputable abbrev Dk:List dG:=pick (x:=fo (ct 75)) (by conv=>lhs;whnf)
noncomputable abbrev Rp:e9:=pick (x:=fm (ct 75)) (by conv=>lhs;whnf)
noncomputable abbrev aeh:eI:=pick (x:=fp (ct 75)) (by conv=>lhs;whnf)
noncomputable abbrev Ej:d3:=fk "_law_places" "_law_places" Rp Dk aeh "law_nz0352_01" 663 302
noncomputable abbrev K':bM:=fq Ej
noncomputable abbrev Dl:List dG:=pick (x:=fo (ct 76)) (by conv=>lhs;whnf)
noncomputable abbrev Rq:e9:=pick (x:=fm (ct 76)) (by conv=>lhs;whnf)
noncomputable abbrev aei:eI:=pick (x:=fp (ct 76)) (by conv=>lhs;whnf)
noncomputable abbrev Ek:d3:=fk "_law_goes" "_law_goes" Rq Dl aei "law_nz0352_01" 663 307
noncomputable abbrev La:bM:=fq Ek
noncomputable abbrev zo:List dG:=pick (x:=fo (ct 77)) (by conv=>lhs;whnf)
noncomputable abbrev Rr:e9:=pick (x:=fm (ct 77)) (by conv=>lhs;whnf)
noncomputable abbrev aej:eI:=pick (x:=fp (ct 77)) (by conv=>lhs;whnf)
noncomputable abbrev zK:d3:=fk "law" "law" Rr zo aej "law_nz0352_01" 663 312
noncomputable abbrev Ex:bM:=fq zK
noncomputable abbrev Sd:List dG:=pick (x:=fo (kZ 70 0)) (by conv=>lhs;whnf)
noncomputable abbrev Rg:e9:=pick (x:=fm (kZ 70 0)) (by conv=>lhs;whnf)
noncomputable abbrev ad9:eI:=pick (x:=fp (kZ 70 0)) (by conv=>lhs;whnf)
noncomputable abbrev KC:d3:=fk "__init__" "Alarms.__init__" Rg Sd ad9 "quic.timers" 562 241
noncomputable abbrev K2:bM:=fq KC
noncomputable abbrev NO:bM:=rv [.str "new_connection_id" 189,.str "retire_connection_id" 190,.str "new_token" 191,.str "handshake_done" 192,.str "stop_sending" 193,.str "reset_stream" 194]
noncomputable abbrev NP:bM:=rv [.str "crypto" 196,.str "stream" 197]
noncomputable abbrev NR:bM:=rv [.str "max_data" 199,.str "max_stream_data" 200,.str "max_streams" 201]
noncomputable abbrev NS:bM:=rv [.str "data_blocked" 203,.str "stream_data_blocked" 204,.str "streams_blocked" 205]
noncomputable abbrev NU:bM:=rv [.int 1 339,.int 2 340,.int 4 341,.int 8 342]
noncomputable abbrev NQ:bM:=rv [.str "crypto" 496,.str "stream" 497]
noncomputable abbrev NT:bM:=rv [.str "closed" 564,.str "idle" 565,.str "loss" 566,.str "probe" 567,.str "ack" 568,.str "path" 569]
noncomputable abbrev Zl:bM:=rv [.str "times" 654]
noncomputable def F6:List (tx×d4×Int×d4):=[("ping",373,1,285),("reset_stream",374,4,291),("stop_sending",375,5,293),("max_data",376,16,301),("max_stream_data",377,17,303),("data_blocked",378,20,309),("stream_data_blocked",379,21,311),("retire_connection_id",380,25,319),("handshake_done",381,30,329)]
noncomputable def YZ(P:dY):List nr:=F6.map λe=>⟨rL P e.1,.str e.1 e.2.1,.int e.2.2.1 e.2.2.2⟩
noncomputable abbrev Nx(P:dY):bM:={cls:=.type "dict",data:=.dict (YZ P).toArray 9}
noncomputable def YH(P:dY):bM:=⟨.type "dict",none,.dict #[cz P "__name__" 165 (.str "law_nz0352_01" 663),cz P "__doc__" 166 (.none),cz P "__package__" 167 (.none),cz P "__loader__" 168 (.builtin "__main__.__loader__#opaque"),cz P "__spec__" 169 (.none),cz P "__annotations__" 170 (.ref 6),cz P "__builtins__" 171 (.ref 4),cz P "__file__" 173 (.str "/claim/cut.py" 172),cz P "__cached__" 174 (.none),cz P "ANEW" 195 (.ref 15),cz P "BY_HOLDER" 198 (.ref 16),cz P "LATEST" 202 (.ref 17),cz P "WHILE_BLOCKED" 206 (.ref 18),cz P "way_of" 213 (.ref 25),cz P "subject_of" 221 (.ref 32),cz P "newest" 227 (.ref 37),cz P "told_again" 241 (.ref 44),cz P "held_data" 247 (.ref 49),cz P "INTERNAL_ERROR" 251 (.int 1 250),cz P "QuicError" 284 (.ref 66),cz P "PING" 286 (.int 1 285),cz P "ACK" 288 (.int 2 287),cz P "ACK_ECN" 290 (.int 3 289),cz P "RESET_STREAM" 292 (.int 4 291),cz P "STOP_SENDING" 294 (.int 5 293),cz P "CRYPTO" 296 (.int 6 295),cz P "NEW_TOKEN" 298 (.int 7 297),cz P "STREAM" 300 (.int 8 299),cz P "MAX_DATA" 302 (.int 16 301),cz P "MAX_STREAM_DATA" 304 (.int 17 303),cz P "MAX_STREAMS_BIDI" 306 (.int 18 305),cz P "MAX_STREAMS_UNI" 308 (.int 19 307),cz P "DATA_BLOCKED" 310 (.int 20 309),cz P "STREAM_DATA_BLOCKED" 312 (.int 21 311),cz P "STREAMS_BLOCKED_BIDI" 314 (.int 22 313),cz P "STREAMS_BLOCKED_UNI" 316 (.int 23 315),cz P "NEW_CONNECTION_ID" 318 (.int 24 317),cz P "RETIRE_CONNECTION_ID" 320 (.int 25 319),cz P "PATH_CHALLENGE" 322 (.int 26 321),cz P "PATH_RESPONSE" 324 (.int 27 323),cz P "CLOSE" 326 (.int 28 325),cz P "CLOSE_APPLICATION" 328 (.int 29 327),cz P "HANDSHAKE_DONE" 330 (.int 30 329),cz P "BIT_FIN" 332 (.int 1 331),cz P "BIT_LENGTH" 334 (.int 2 333),cz P "BIT_OFFSET" 336 (.int 4 335),cz P "VARINT_SIZES" 343 (.ref 70),cz P "put_whole" 353 (.ref 77),cz P "varint_size" 361 (.ref 84),cz P "put_varint" 370 (.ref 91),cz P "NUMBER_FRAMES" 391 (.ref 92),cz P "put_numbers" 397 (.ref 97),cz P "put_counted" 404 (.ref 104),cz P "ack_numbers" 417 (.ref 111),cz P "put_ack" 431 (.ref 118),cz P "put_stream" 446 (.ref 125),cz P "put_new_cid" 458 (.ref 132),cz P "put_close" 469 (.ref 139),cz P "put_octets_frame" 477 (.ref 146),cz P "put_frame" 486 (.ref 153),cz P "frame_size" 493 (.ref 160),cz P "DATA_KINDS" 498 (.ref 161),cz P "data_of" 505 (.ref 168),cz P "with_data" 515 (.ref 175),cz P "data_room" 525 (.ref 182),cz P "cut_frame" 536 (.ref 189),cz P "filled" 549 (.ref 196),cz P "in_rooms" 561 (.ref 203),cz P "KINDS" 570 (.ref 204),cz P "kind_place" 577 (.ref 211),cz P "next_due" 587 (.ref 218),cz P "all_due" 593 (.ref 223),cz P "with_alarm" 599 (.ref 228),cz P "Alarms" 662 (.ref 273),cz P "_law_draw" 674 (.ref 284),cz P "_law_frames" 680 (.ref 289),cz P "_law_comes" 694 (.ref 296),cz P "_law_places" 709 (.ref 303),cz P "_law_goes" 715 (.ref 308),cz P "law" 721 (.ref 313)] 80, #[]⟩
noncomputable def QV(P:dY):bM:=⟨.type "dict",none,.dict #[cz P "__module__" 607 (.str "quic.timers" 562),cz P "__firstlineno__" 611 (.int 234 610),cz P "__init__" 618 (.ref 242),cz P "put" 627 (.ref 249),cz P "time_of" 635 (.ref 256),cz P "first" 643 (.ref 263),cz P "take_due" 653 (.ref 270),cz P "__static_attributes__" 655 (.ref 271),cz P "__dict__" 657 (.ref 274),cz P "__weakref__" 659 (.ref 275),cz P "__doc__" 660 (.none)] 4, #[]⟩
noncomputable def QW:bM:={cls:=.type "type",data:=.cls {name:="Alarms",bases:=[.type "object"],mro:=[.ref 273,.type "object"],ns:=272,qualname:="Alarms"},slots:= #[none,none,some (.str "Alarms" 600),some (.str "Alarms" 608),some (.builtin "object.__new__"),some (.bool true)]}
noncomputable def KK(P:dY):PySem.W.Frag:=[(3,YH P),(15,NO),(16,NP),(17,NR),(18,NS),(24,fj "way_of" "way_of" 207 6 1 3 19 181 20 (.ref 21) (.ref 22) 23 211 212),(25,K4),(31,fj "subject_of" "subject_of" 214 14 1 3 26 181 27 (.ref 28) (.ref 29) 30 219 220),(32,Lb),(36,fj "newest" "newest" 222 25 1 3 33 181 34 (.none) (.none) 35 225 226),(37,Lc),(43,fj "told_again" "told_again" 228 30 4 3 38 181 39 (.ref 40) (.ref 41) 42 239 240),(44,Ld),(48,fj "held_data" "held_data" 242 43 1 3 45 181 46 (.none) (.none) 47 245 246),(49,Le),(70,NU),(76,fj "put_whole" "put_whole" 344 82 2 3 71 181 72 (.ref 73) (.ref 74) 75 351 352),(77,Lf),(83,fj "varint_size" "varint_size" 354 90 1 3 78 181 79 (.ref 80) (.ref 81) 82 359 360),(84,Lg),(90,fj "put_varint" "put_varint" 362 95 2 3 85 181 86 (.ref 87) (.ref 88) 89 368 369),(91,Lh),(92,Nx P),(96,fj "put_numbers" "put_numbers" 392 104 1 3 93 181 94 (.none) (.none) 95 395 396),(97,Li),(103,fj "put_counted" "put_counted" 398 106 1 3 98 181 99 (.ref 100) (.ref 101) 102 402 403),(104,KJ),(124,fj "put_stream" "put_stream" 432 120 2 3 119 181 120 (.ref 121) (.ref 122) 123 444 445),(125,KL),(131,fj "put_new_cid" "put_new_cid" 447 125 1 3 126 181 127 (.ref 128) (.ref 129) 130 456 457),(132,KN),(145,fj "put_octets_frame" "put_octets_frame" 470 133 1 3 140 181 141 (.ref 142) (.ref 143) 144 475 476),(146,KO),(152,fj "put_frame" "put_frame" 478 146 1 3 147 181 148 (.ref 149) (.ref 150) 151 484 485),(153,KP),(159,fj "frame_size" "frame_size" 487 164 1 3 154 181 155 (.ref 156) (.ref 157) 158 491 492),(160,KQ),(161,NQ),(167,fj "data_of" "data_of" 499 168 1 3 162 181 163 (.ref 164) (.ref 165) 166 503 504),(168,KR),(174,fj "with_data" "with_data" 506 170 4 3 169 181 170 (.ref 171) (.ref 172) 173 513 514),(175,KS),(181,fj "data_room" "data_room" 516 174 2 3 176 181 177 (.ref 178) (.ref 179) 180 523 524),(182,KU),(188,fj "cut_frame" "cut_frame" 526 182 2 3 183 181 184 (.ref 185) (.ref 186) 187 534 535),(189,KV),(195,fj "filled" "filled" 537 192 2 3 190 181 191 (.ref 192) (.ref 193) 194 547 548),(196,KW),(202,fj "in_rooms" "in_rooms" 550 202 2 3 197 181 198 (.ref 199) (.ref 200) 201 559 560),(203,KX),(204,NT),(210,fj "kind_place" "kind_place" 571 213 1 3 205 181 206 (.ref 207) (.ref 208) 209 575 576),(211,KY),(217,fj "next_due" "next_due" 578 215 1 3 212 181 213 (.ref 214) (.ref 215) 216 585 586),(218,KZ),(222,fj "all_due" "all_due" 588 222 2 3 219 181 220 (.none) (.none) 221 591 592),(223,K0),(227,fj "with_alarm" "with_alarm" 594 229 3 3 224 181 225 (.none) (.none) 226 597 598),(228,K1),(241,fj "__init__" "Alarms.__init__" 612 236 1 3 236 181 237 (.ref 238) (.ref 239) 240 616 617),(242,K2),(248,fj "put" "Alarms.put" 619 239 3 3 243 181 244 (.ref 245) (.ref 246) 247 625 626),(249,K3),(255,fj "time_of" "Alarms.time_of" 628 242 2 3 250 181 251 (.ref 252) (.ref 253) 254 633 634),(256,K5),(262,fj "first" "Alarms.first" 636 245 1 3 257 181 258 (.ref 259) (.ref 260) 261 641 642),(263,K6),(269,fj "take_due" "Alarms.take_due" 644 249 2 3 264 181 265 (.ref 266) (.ref 267) 268 651 652),(270,K7),(271,Zl),(272,QV P),(273,QW),(283,fj "_law_draw" "_law_draw" 665 255 2 3 278 181 279 (.ref 280) (.ref 281) 282 672 673),(284,K8),(288,fj "_law_frames" "_law_frames" 675 261 1 3 285 181 286 (.none) (.none) 287 678 679),(289,Ew),(295,fj "_law_comes" "_law_comes" 681 270 2 3 290 181 291 (.ref 292) (.ref 293) 294 692 693),(296,K9),(302,fj "_law_places" "_law_places" 695 280 2 3 297 181 298 (.ref 299) (.ref 300) 301 707 708),(303,K'),(307,fj "_law_goes" "_law_goes" 710 290 5 3 304 181 305 (.none) (.none) 306 713 714),(308,La),(312,fj "law" "law" 716 305 1 3 309 181 310 (.none) (.none) 311 719 720),(313,Ex)]
noncomputable def XZ:List a6:=[3,15,16,17,18,24,25,31,32,36,37,43,44,48,49,70,76,77,83,84,90,91,92,96,97,103,104,124,125,131,132,145,146,152,153,159,160,161,167,168,174,175,181,182,188,189,195,196,202,203,204,210,211,217,218,222,223,227,228,241,242,248,249,255,256,262,263,269,270,271,272,273,283,284,288,289,295,296,302,303,307,308,312,313]
noncomputable def uJ:List tx:=List.map Hx ["ANEW","BY_HOLDER","LATEST","WHILE_BLOCKED","way_of","subject_of","newest","told_again","held_data","INTERNAL_ERROR","QuicError","PING","ACK","ACK_ECN","RESET_STREAM","STOP_SENDING","CRYPTO","NEW_TOKEN","STREAM","MAX_DATA","MAX_STREAM_DATA","MAX_STREAMS_BIDI","MAX_STREAMS_UNI","DATA_BLOCKED","STREAM_DATA_BLOCKED","STREAMS_BLOCKED_BIDI","STREAMS_BLOCKED_UNI","NEW_CONNECTION_ID","RETIRE_CONNECTION_ID","PATH_CHALLENGE","PATH_RESPONSE","CLOSE","CLOSE_APPLICATION","HANDSHAKE_DONE","BIT_FIN","BIT_LENGTH","BIT_OFFSET","VARINT_SIZES","put_whole","varint_size","put_varint","NUMBER_FRAMES","put_numbers","put_counted","ack_numbers","put_ack","put_stream","put_new_cid","put_close","put_octets_frame","put_frame","frame_size","DATA_KINDS","data_of","with_data","data_room","cut_frame","filled","in_rooms","KINDS","kind_place","next_due","all_due","with_alarm","Alarms","_law_draw","_law_frames","_law_comes","_law_places","_law_goes"]
end Internal
namespace Internal
open PySem PySem.W PyProof.Rows PySem.Calls
noncomputable abbrev Gy:cD:=Challenge.pw_nz0352_01
noncomputable def lG:cD:={Gy with main:={Gy.main with body:=Gy.main.body.drop 77}}
noncomputable abbrev hk:Hook:=kHook KK XZ (λ_=>by kernel_rfl)
noncomputable def qT:DefRec:=((defOf lG "law").get (by kernel_rfl)).1
noncomputable abbrev jN:OpenRow:=Challenge.rw_nz0352_01.row
theorem adS:Challenge.rw_nz0352_01.wellSaid=true:=by kernel_rfl
noncomputable def O1(s:aB):=(openSeen lG uJ (importedModules jN.prog.main.body) (λs=>xlAt lG [] s&&recOk (RowW.records jN.toRowW) s) true s,Hook.obs hk s)
theorem afx(w:cm):((fencedOpening treeTable jN.prog w 4508).bind (topFrom treeTable jN.prog (w.withFollow "special-get-raises" true) 4508)).map O1=some (openGood lG uJ,Hook.val hk (w.withFollow "special-get-raises" true)):=by kernel_rfl
theorem afw(w:cm):((fencedOpening treeTable jN.prog w 4508).bind (topFrom treeTable jN.prog (w.withFollow "special-get-raises" false) 4508)).map O1=some (openGood lG uJ,Hook.val hk (w.withFollow "special-get-raises" false)):=by kernel_rfl
theorem Sm{α b' oj:Type}{o:Option α}{f g:α->Option b'}{k:b'->oj}{a b:oj}(h1:(o.bind f).map k=some a)(h2:(o.bind g).map k=some b):o.map (λs=>((f s).map k,(g s).map k))=some (some a,some b):=by
 cases o with
 |none=>cases h1
 |some s=>rw[Option.map_some,show(f s).map k=some a from h1,show(g s).map k=some b from h2]
theorem Yd:LeftO jN.prog lG uJ (λs=>xlAt lG [] s&&recOk (RowW.records jN.toRowW) s) (Hook.obs hk) (Hook.val hk) 4508:=
 LeftO.of_split "special-get-raises" (λw=>Sm (afw w) (afx w))
theorem Ti:defOf lG jN.name=some (qT,[]):=by kernel_rfl
theorem Tj:jN.prog.theDef jN.name=some (qT.params,qT.body,qT.scope):=by kernel_rfl
theorem Tn:kwWritten? qT.params.kwonlyargs qT.params.kw_defaults=some []:=by kernel_rfl
theorem Zq:(chainsOk lG&&opensWell jN.prog&&(frees jN.toRowW&&jN.within.isEmpty))=true:=by decide+kernel
theorem afA:jN.toRowW.promised:=⟨[.list []],by decide+kernel,by decide+kernel⟩
theorem Sa:jN.prog.bare:=⟨rfl,rfl,rfl,rfl,rfl,by decide+kernel⟩
theorem head(walk:I4 lG uJ (XL lG []) (Hook.says hk) jN.toRowW qT []):Challenge.rw_nz0352_01.Holds:=
 holds_law adS λsaid=>IV.PySem.W.holds_open (q:=lG) (loose:=uJ) (Xt:=λs=>xlAt lG [] s&&recOk (RowW.records jN.toRowW) s) (XP:=XL lG []) (Yf:=Hook.obs hk) (Ya:=Hook.val hk) (YP:=Hook.says hk) (N:=4508)
  Yd (Hook.of hk) (Hook.keeps hk) (λs e=>xl_of s (om.mp e).1) XL.keeps Ti Tj Tn (λs e=>recFacts_of (om.mp e).2) (by rfl) said Zq Sa afA walk
end Internal
namespace Internal
open PySem PySem.W PyProof.Rows PySem.Calls
section
variable{prog:cD}{w:cm}{h₁:a9}{K:fH}{own:Bool}{env:dc}{ns:List aV}{k:Nat}{eC:a6}
theorem XE{A:b8}{s:aB}{R:jy->aB->Prop}{of:bM}{fd:d3}{x d:a6}{ky k4 uX te:bz}(X:K.In s.heap)(aC:rR K eC)
 (hsa:findIn K (.ref gL) "__setattr__"=some (some (.builtin "object.__setattr__")))
 (n0:s.heap.get? eC=some of)(EW:of.data=.func fd)(wU:s.heap.NoLimit)(kU:s.heap.CodeRec fd.code fd.qualname)(sI:A.depth<yp)
 (nU:fd.body=.stmts [.Assign [.Attribute (.Name "self" ky) "times" k4] (.Dict [] [] uX) te])(nZ:fd.scope.names=[((("self":aV)),NameKind.local)])
 (pH:tA fd ⟨[.ref x],[]⟩=pure [(("self":aV),k' x)])(nW:fd.scope.isCoroutine=false)(nX:fd.scope.isGenerator=false)(hk:fd.scope.kind=.function)
 (ay:s.heap.get? x=some (ou gL d))(aD:s.heap.get? d=some jB)(gq:x≠d)
 (h:∀h' e cw eR n hh,h'.get? x=some (ou gL d)->h'.get? d=some (lV [⟨hh,.str "times" cw,.ref e⟩] n)->h'.get? e=some jB->s.heap.objs.size<=e->(∀b o,b≠d->s.heap.get? b=some o->h'.get? b=some o)->
   R (.ok (.ret .none)) {s with heap:=h',toks:=eR}):
 codeAny (bp prog w) A (.call (.ref eC) ⟨[.ref x],[]⟩) R s:=by
 refine codeAny_call_def sI n0 EW wU kU nU (binds:=[(("self":aV),k' x)]) (.of_eq pH) (by rw[nZ];intro y bQ;cases bQ with|head=>exact nofun|tail _ bQ=>cases bQ)
  (by rw[nZ];intro y bQ;cases bQ with|head=>rfl|tail _ bQ=>cases bQ) (λao kV L5=>?_) nW nX hk
 refine wpAny_execs_cons ?_
 refine plainObj_wpAny_Assign_Attribute ?_
 refine wpAny_Dict_empty ?_
 refine wpAny_Name ?_ (by decide)
 have WU:=kV.keeps (h':=ao.push jB) (λb o e=>jR _ e)
 have dU:∀b o,s.heap.get? b=some o->(ao.push jB).get? b=some o:=λb o e=>jR _ (L5 b o e)
 refine Hz (v:=.ref x) hk (by show fd.scope.names.lookup ("self":aV)=_;rw[nZ];rfl) WU (by rfl) ?_
 have aO:InstAt (ao.push jB) x (ou gL d) gL (some (lV [] 0)):=⟨dU _ _ ay,rfl,rfl,dU _ _ aD⟩
 refine set_plain (X.keeps dU) aO hsa ?_
 refine Ow (X.keeps dU) aC aO (by rfl) (by decide) λh' bj bg=>?_
 refine ys ?_
 have X9:s.heap.objs.size<=ao.objs.size:=by obtain⟨o,_,_,hh,_⟩:=kV;exact yh (ka hh)
 have kd:∀b o,b≠d->s.heap.get? b=some o->h'.get? b=some o:=λb o ai e=>(bg.2 b ai).trans (dU b o e)
 refine h h' ao.objs.size _ _ _ _ (kd _ _ gq ay) bj ?_ X9 kd
 exact(bg.2 _ (k9 (ka (L5 _ _ aD)))).trans (hA _ rfl)
structure IQ (h₁:a9) (eC:a6):Prop where
 all:∃(of:bM) (fd:d3) (ky k4 uX te:bz),h₁.get? eC=some of/\of.data=.func fd/\h₁.CodeRec fd.code fd.qualname/\
  fd.body=.stmts [.Assign [.Attribute (.Name "self" ky) "times" k4] (.Dict [] [] uX) te]/\fd.scope.names=[((("self":aV)),NameKind.local)]/\
  (∀v,tA fd ⟨[v],[]⟩=pure [(("self":aV),v)])/\fd.scope.isCoroutine=false/\fd.scope.isGenerator=false/\fd.scope.kind=.function
noncomputable def xn:cy:=λ_ σ=>some (.ref σ.next,σ.new (.inst (some (.cV []))))
theorem Ul{f:bX}{pos:bz}(B:b3 K h₁)(aC:rR K eC)(aO:IQ h₁ eC)(hsa:findIn K (.ref gL) "__setattr__"=some (some (.builtin "object.__setattr__")))(z3:keepIn K (.ref gL)=true)
 (hf:bx prog w h₁ own env ns k (aR f env) (U (.cb (.ref gL))))
 (az:autoParam (aR (f.Call [] [] pos) env=(do let g<-aR f env;nD pos g [] (fb pos (d7 [] env)) (nB pos (nE [] env)))) aN._auto_1):
 bx prog w h₁ own env ns k (aR (.Call f [] [] pos) env) xn:=by
 intro A W aa σ v a4 s Q E aH ar R aW
 cases ar
 rw[az]
 refine bc ?_
 refine hf A W aa σ _ σ s _ E aH rfl R λjd kB fg tk jl I hR mv=>?_
 cases mv
 have wd:=B.wg hR.bW
 refine wpN.of (callWith_K0 (s:={s with heap:=fg,toks:=tk}) wd z3 (wpAny_call ?_))
 obtain⟨of,fd,ky,k4,uX,te,cB,eZ,Fs,Xs,Xu,Xv,Xw,Xx,Xy⟩:=aO.all
 have xc:∀b o,fg.get? b=some o->((fg.push jB).push (ou gL fg.objs.size)).get? b=some o:=λb o e=>jR _ (jR _ e)
 refine make_core (init:=.ref eC) (makes_of wd aC.hm) (looks_findIn wd aC.hi) (λself=>bind_fn wd self aC.hf) (.inl rfl) ?_
 refine XE (d:=fg.objs.size) (wd.keeps xc) aC hsa (xc _ _ (hR.bW.old _ _ cB)) eZ (B.nolimit.keeps λb o e=>xc _ _ (hR.bW.old _ _ e)) (Fs.keeps λb o e=>xc _ _ (hR.bW.old _ _ e)) ?_ Xs Xu (Xv _) Xw Xx Xy ?_ ?_ (mB _) ?_
 .rw[depth_under_make];have:=aH.d;show A.depth+1<1000;exact aE.ab2 this
 .rw[<-jS (h:=fg) (o:=jB)];exact hA _ rfl
 .exact jR _ (hA _ rfl)
 intro h' e cw eR n hh g1 g2 g3 ge VT
 refine⟨rfl,?_⟩
 have ew:∀{a:a6},fg.objs.size<=a->jd.role a=.free:=λha=>hR.bW.free ha
 have lt:∀{b o},fg.get? b=some o->b<fg.objs.size:=λe=>ka e
 have Mz:∀b o,fg.get? b=some o->h'.get? b=some o:=λb o q=>VT b o (eL (lt q)) (xc b o q)
 have zS:fg.objs.size+1<e:=by
  have:((fg.push jB).push (ou gL fg.objs.size)).objs.size=fg.objs.size+1+1:=by rw[jS,jS]
  rw[this] at ge;exact ge
 have bK:bL prog w h₁ jd σ h':=hR.bW.me Mz
 have f1:jd.role e=.free:=ew (by exact aE.ab3 zS)
 have cQ:=bK.i2 (r:=.imm jB) f1 ⟨_,g3⟩ (λo q=>by cases q;exact g3) (λ_ q=>nomatch q)
 have f2:(jd.aY e (.imm jB)).role fg.objs.size=.free:=by rw[ag.cG (eL (vv (hB _) zS))];exact ew (bF _)
 have dO:=cQ.i2 (r:=.h3 σ.next) f2 ⟨_,g2⟩ (λ_ q=>nomatch q) (λ_ q=>nomatch q)
 have qX:((jd.aY e (.imm jB)).aY fg.objs.size (.h3 σ.next)).role (fg.objs.size+1)=.free:=by
  rw[ag.cG (mB _),ag.cG (eL zS)];exact ew (hb _)
 have bO:jd.le σ.next (jd.aY e (.imm jB)):=ag.ij f1
 have bh:(jd.aY e (.imm jB)).le σ.next ((jd.aY e (.imm jB)).aY fg.objs.size (.h3 σ.next)):=ag.ij f2
 have dh:=ag.ra (n:=σ.next) qX
 have rp:(((jd.aY e (.imm jB)).aY fg.objs.size (.h3 σ.next)).fD σ.next (fg.objs.size+1)).role e=.imm jB:=
  dh.1.1 _ _ (bh.1.1 _ _ ag.dv)
 have og:(((jd.aY e (.imm jB)).aY fg.objs.size (.h3 σ.next)).fD σ.next (fg.objs.size+1)).role fg.objs.size=.h3 σ.next:=by
  show(if fg.objs.size=fg.objs.size+1 then _ else _)=_
  rw[if_neg (by exact aE.ab4)];exact ag.dv
 have agD:(e==hD)=false:=by
  obtain⟨o,aK⟩:=hR.bW.nz
  have:=lt (hR.bW.old _ _ aK)
  exact beq_eq_false_iff_ne.mpr (k9 (vv (by decide:(1:Nat)<3) (vv this (vv (hB _) zS))))
 have eM:=dO.alloc (x:=.inst (some (.cV []))) qX ⟨_,g1⟩ (.inst g1 og g2 ⟨_,_,_,rfl,.cV (kvs:=[]) rp agD ⟨⟨rfl,rfl,rfl⟩, #[],0,rfl,λe cj=>by simp at cj,.nil,ql⟩ .nil⟩)
 have MI:=(bO.trans (bF _) bh).trans (bF _) dh
 have lr:(((jd.aY e (.imm jB)).aY fg.objs.size (.h3 σ.next)).fD σ.next (fg.objs.size+1)).al σ.next=fg.objs.size+1:=by
  show(if σ.next=σ.next then _ else _)=_
  rw[if_pos rfl]
 refine aW _ (.ref (fg.objs.size+1)) h' eR (jl.trans I MI) (hb _) (hR.next eM MI (hb _) λa ha=>?_) ?_
 .obtain⟨o,aK⟩:=hR.bW.live a (by rw[ha];exact nofun)
  rw[aK];exact Mz _ _ aK
 .have:=aQ.ref (prog:=prog) (w:=w) (W:=((jd.aY e (.imm jB)).aY fg.objs.size (.h3 σ.next)).fD σ.next (fg.objs.size+1)) (n:=σ.next+1) (c:=σ.next) (hB _)
  rw[lr] at this;exact this
end
end Internal
namespace Internal
open PySem PySem.W PyProof.Rows PySem.Calls
noncomputable abbrev pg:List UInt8:=[49,50,51,52,53,54,55,56]
theorem Au(P:dY):(KK P).lookup 25=some K4:=by kernel_rfl
theorem Aw(P:dY):(KK P).lookup 32=some Lb:=by kernel_rfl
theorem M0(P:dY):(KK P).lookup 37=some Lc:=by kernel_rfl
theorem M1(P:dY):(KK P).lookup 44=some Ld:=by kernel_rfl
theorem M3(P:dY):(KK P).lookup 49=some Le:=by kernel_rfl
theorem M4(P:dY):(KK P).lookup 77=some Lf:=by kernel_rfl
theorem M5(P:dY):(KK P).lookup 84=some Lg:=by kernel_rfl
theorem FU(P:dY):(KK P).lookup 91=some Lh:=by kernel_rfl
theorem pU(P:dY):(KK P).lookup 97=some Li:=by kernel_rfl
theorem Ar(P:dY):(KK P).lookup 104=some KJ:=by kernel_rfl
theorem MP(P:dY):(KK P).lookup 125=some KL:=by kernel_rfl
theorem MQ(P:dY):(KK P).lookup 132=some KN:=by kernel_rfl
theorem MR(P:dY):(KK P).lookup 146=some KO:=by kernel_rfl
theorem FL(P:dY):(KK P).lookup 153=some KP:=by kernel_rfl
theorem uH(P:dY):(KK P).lookup 160=some KQ:=by kernel_rfl
theorem As(P:dY):(KK P).lookup 168=some KR:=by kernel_rfl
theorem uI(P:dY):(KK P).lookup 175=some KS:=by kernel_rfl
theorem FN(P:dY):(KK P).lookup 182=some KU:=by kernel_rfl
theorem FO(P:dY):(KK P).lookup 189=some KV:=by kernel_rfl
theorem xj(P:dY):(KK P).lookup 196=some KW:=by kernel_rfl
theorem MS(P:dY):(KK P).lookup 203=some KX:=by kernel_rfl
theorem MT(P:dY):(KK P).lookup 211=some KY:=by kernel_rfl
theorem FP(P:dY):(KK P).lookup 218=some KZ:=by kernel_rfl
theorem MU(P:dY):(KK P).lookup 223=some K0:=by kernel_rfl
theorem MV(P:dY):(KK P).lookup 228=some K1:=by kernel_rfl
theorem FQ(P:dY):(KK P).lookup 249=some K3:=by kernel_rfl
theorem MW(P:dY):(KK P).lookup 256=some K5:=by kernel_rfl
theorem MX(P:dY):(KK P).lookup 263=some K6:=by kernel_rfl
theorem MY(P:dY):(KK P).lookup 270=some K7:=by kernel_rfl
theorem n7(P:dY):(KK P).lookup 284=some K8:=by kernel_rfl
theorem FR(P:dY):(KK P).lookup 289=some Ew:=by kernel_rfl
theorem Av(P:dY):(KK P).lookup 296=some K9:=by kernel_rfl
theorem MZ(P:dY):(KK P).lookup 303=some K':=by kernel_rfl
theorem FT(P:dY):(KK P).lookup 308=some La:=by kernel_rfl
theorem Yu(P:dY):(KK P).lookup 313=some Ex:=by kernel_rfl
theorem Yt(P:dY):(KK P).lookup 242=some K2:=by kernel_rfl
theorem Yn(P:dY):(KK P).lookup 15=some NO:=by kernel_rfl
theorem Yo(P:dY):(KK P).lookup 16=some NP:=by kernel_rfl
theorem Yq(P:dY):(KK P).lookup 17=some NR:=by kernel_rfl
theorem Yr(P:dY):(KK P).lookup 18=some NS:=by kernel_rfl
theorem Yv(P:dY):(KK P).lookup 70=some NU:=by kernel_rfl
theorem Yp(P:dY):(KK P).lookup 161=some NQ:=by kernel_rfl
theorem Ys(P:dY):(KK P).lookup 204=some NT:=by kernel_rfl
theorem mR(P:dY):rR (KK P) 242 where
 hga:=by kernel_rfl
 hsa:=by kernel_rfl
 hk:=by kernel_rfl
 hp:=by kernel_rfl
 ht:=by kernel_rfl
 hh:=by kernel_rfl
 ha:=by kernel_rfl
 hm:=by kernel_rfl
 hi:=by kernel_rfl
 hf:=by kernel_rfl
section
variable{prog:cD}{w:cm}{h₁:a9}{own:Bool}{env:dc}{ns:List aV}{k:Nat}
theorem XF(B:b3 (KK w.params) h₁):IQ h₁ 242:=
 ⟨_,KC,_,_,_,_,B.X _ _ (Yt w.params),rfl,fz B.X (by kernel_rfl),rfl,rfl,λ_=>rfl,rfl,rfl,rfl⟩
noncomputable def fi(l:List (Option Nat)):Loc->Loc:=λaa=>l.map λo=>o.bind λaj=>(aa[aj]?).join
theorem SF{env env':dc}{ns ns':List aV}{l:List (Option Nat)}(sub:∀x c,env'.cells.lookup x=some c->env.cells.lookup x=some c)
 (h:∀(i aj:Nat),l[i]? =some (some aj)->∃x,ns[aj]? =some x/\ns'[i]? =some x/\env.kindOf x=some .cell/\(env'.kindOf x=some .cell\/env'.kindOf x=some .free)/\env'.cells.lookup x=env.cells.lookup x):rQ env env' ns ns' (fi l) where
 sub:=sub
 cap aa i v e:=by
  unfold fi at e
  rw[mz] at e
  obtain⟨o,bj,bg⟩:=hc.mp e
  cases o with
  |none=>cases bg
  |some aj=>
   obtain⟨x,a,b,c⟩:=h i aj bj
   refine⟨aj,x,?_,a,b,c⟩
   cases q:aa[aj]? with
   |none=>rw[oq,q] at bg;cases bg
   |some z=>rw[oq,q] at bg;rw[<-show z=some v from bg]
theorem ae1{fe i1:List (aV×a6)}(h:∀p∈fe,i1.lookup p.1=some p.2):∀x c,fe.lookup x=some c->i1.lookup x=some c:=by
 intro x c e
 exact h (x,c) (mem_of_lookup e)
inductive tI (env env':dc) (ns:List aV):List (Option Nat)->List aV->Prop
 |nil {m:List aV}:tI env env' ns [] m
 |none {l:List (Option Nat)} {x:aV} {m:List aV} (h:tI env env' ns l m):tI env env' ns (none::l) (x::m)
 |some {aj:Nat} {l:List (Option Nat)} {x:aV} {m:List aV} (a:ns[aj]? =some x) (b:env.kindOf x=some .cell) (c:env'.kindOf x=some .cell\/env'.kindOf x=some .free) (d:env'.cells.lookup x=env.cells.lookup x) (h:tI env env' ns l m):tI env env' ns (some aj::l) (x::m)
theorem ko{env env':dc}{ns ns':List aV}{l:List (Option Nat)}(sub:∀p∈env'.cells,env.cells.lookup p.1=some p.2:=by repeat (first|exact eg _|refine b0.mpr ⟨rfl,?_⟩))
 (h:tI env env' ns l ns':=by repeat (first|exact .nil|refine .none ?_|refine .some rfl rfl (by first|exact .inl rfl|exact .inr rfl) rfl ?_)):rQ env env' ns ns' (fi l):=
 SF (ae1 sub) (by
  induction h with
  |nil=>exactλi aj e=>au e
  |none _ a7=>
   intro i aj e
   rcases i with _|i
   .exact au (cx e)
   .exact a7 i aj e
  |some a b c d _ a7=>
   intro i aj e
   rcases i with _|i
   .exact⟨_,cx (cx e)▸a,rfl,b,c,d⟩
   .exact a7 i aj e)
noncomputable abbrev I0:C:=.bA [.str "new_connection_id",.str "retire_connection_id",.str "new_token",.str "handshake_done",.str "stop_sending",.str "reset_stream"]
noncomputable abbrev I1:C:=.bA [.str "crypto",.str "stream"]
noncomputable abbrev I2:C:=.bA [.str "max_data",.str "max_stream_data",.str "max_streams"]
noncomputable abbrev I3:C:=.bA [.str "data_blocked",.str "stream_data_blocked",.str "streams_blocked"]
noncomputable abbrev r7:C:=.bA [.int 1,.int 2,.int 4,.int 8]
noncomputable abbrev CE:C:=.int 8
noncomputable abbrev Ct:C:=.int 1
noncomputable abbrev Cu:C:=.int 2
noncomputable abbrev Cv:C:=.int 4
noncomputable abbrev CA:C:=.int 24
noncomputable abbrev Cw:C:=.int 6
noncomputable abbrev CB:C:=.int 7
noncomputable abbrev CC:C:=.int 26
noncomputable abbrev CD:C:=.int 27
noncomputable abbrev Cz:C:=.int 19
noncomputable abbrev Cy:C:=.int 18
noncomputable abbrev CG:C:=.int 23
noncomputable abbrev CF:C:=.int 22
noncomputable abbrev tS:C:=.cV [(.str "ping",.int 1),(.str "reset_stream",.int 4),(.str "stop_sending",.int 5),(.str "max_data",.int 16),(.str "max_stream_data",.int 17),(.str "data_blocked",.int 20),(.str "stream_data_blocked",.int 21),(.str "retire_connection_id",.int 25),(.str "handshake_done",.int 30)]
noncomputable abbrev Cx:C:=.bA [.str "crypto",.str "stream"]
noncomputable abbrev kO:C:=.bA [.str "closed",.str "idle",.str "loss",.str "probe",.str "ack",.str "path"]
theorem Yw(P:dY):(KK P).lookup 92=some (Nx P):=by kernel_rfl
theorem X1{w:cm}{x:aV}:rL w.params x=hashStr w x:=by
 rfl
theorem Ny{w:cm}:∀l:List (aV×d4×Int×d4),Pairs (ix prog w) (l.map λe=>⟨rL w.params e.1,.str e.1 e.2.1,.int e.2.2.1 e.2.2.2⟩) (l.map λe=>(aT.str e.1,Value.int e.2.2.1 e.2.2.2))
 |[]=>.nil
 |e::r=>.cons (by show(e.1==e.1)=true;exact beq_self_eq_true _) rfl (Ny r)
theorem Nz{W:ag}{n:Nat}:∀l:List (aV×d4×Int×d4),eW prog w W n (l.map λe=>(aT.str e.1,C.int e.2.2.1)) (l.map λe=>(aT.str e.1,Value.int e.2.2.1 e.2.2.2))
 |[]=>.nil
 |e::r=>.cons (.int _ _) (Nz r)
theorem Y0{W:ag}{n:Nat}(B:b3 (KK w.params) h₁)(ai:∀a o,h₁.get? a=some o->W.role a=.imm o):aQ prog w W n tS (.ref 92):=by
 refine .cV (ai _ _ (B.X _ _ (Yw w.params))) (by decide) ⟨⟨rfl,rfl,rfl⟩,_,_,rfl,?_,Ny F6,by decide⟩ (Nz F6)
 intro e cj
 rw[List.mem_toArray] at cj
 obtain⟨x,_,rfl⟩:=ec.mp cj
 exact⟨.str x.1,beq_self_eq_true _,X1⟩
theorem Ve{pos:bz}(B:b3 (KK w.params) h₁)(hk:autoParam (env.scope.kind=.function) aN._auto_1)(a0:autoParam (env.globals=c1) aN._auto_1)(ay:autoParam (env.kindOf "ANEW"=some .globalImplicit) aN._auto_1):bx prog w h₁ own env ns k (aR (.Name "ANEW" pos) env) (U I0):=by
 exact dS B (by kernel_rfl) (λW n ai=>.bA (ai _ _ (B.X _ _ (Yn w.params))) (.cons (.str _ _) (.cons (.str _ _) (.cons (.str _ _) (.cons (.str _ _) (.cons (.str _ _) (.cons (.str _ _) (.nil)))))))) hk a0 ay
theorem Vj{pos:bz}(B:b3 (KK w.params) h₁)(hk:autoParam (env.scope.kind=.function) aN._auto_1)(a0:autoParam (env.globals=c1) aN._auto_1)(ay:autoParam (env.kindOf "BY_HOLDER"=some .globalImplicit) aN._auto_1):bx prog w h₁ own env ns k (aR (.Name "BY_HOLDER" pos) env) (U I1):=by
 exact dS B (by kernel_rfl) (λW n ai=>.bA (ai _ _ (B.X _ _ (Yo w.params))) (.cons (.str _ _) (.cons (.str _ _) (.nil)))) hk a0 ay
theorem Vm{pos:bz}(B:b3 (KK w.params) h₁)(hk:autoParam (env.scope.kind=.function) aN._auto_1)(a0:autoParam (env.globals=c1) aN._auto_1)(ay:autoParam (env.kindOf "LATEST"=some .globalImplicit) aN._auto_1):bx prog w h₁ own env ns k (aR (.Name "LATEST" pos) env) (U I2):=by
 exact dS B (by kernel_rfl) (λW n ai=>.bA (ai _ _ (B.X _ _ (Yq w.params))) (.cons (.str _ _) (.cons (.str _ _) (.cons (.str _ _) (.nil))))) hk a0 ay
theorem Vw{pos:bz}(B:b3 (KK w.params) h₁)(hk:autoParam (env.scope.kind=.function) aN._auto_1)(a0:autoParam (env.globals=c1) aN._auto_1)(ay:autoParam (env.kindOf "WHILE_BLOCKED"=some .globalImplicit) aN._auto_1):bx prog w h₁ own env ns k (aR (.Name "WHILE_BLOCKED" pos) env) (U I3):=by
 exact dS B (by kernel_rfl) (λW n ai=>.bA (ai _ _ (B.X _ _ (Yr w.params))) (.cons (.str _ _) (.cons (.str _ _) (.cons (.str _ _) (.nil))))) hk a0 ay
theorem Ez{pos:bz}(B:b3 (KK w.params) h₁)(hk:autoParam (env.scope.kind=.function) aN._auto_1)(a0:autoParam (env.globals=c1) aN._auto_1)(ay:autoParam (env.kindOf "VARINT_SIZES"=some .globalImplicit) aN._auto_1):bx prog w h₁ own env ns k (aR (.Name "VARINT_SIZES" pos) env) (U r7):=by
 exact dS B (by kernel_rfl) (λW n ai=>.bA (ai _ _ (B.X _ _ (Yv w.params))) (.cons (.int _ _) (.cons (.int _ _) (.cons (.int _ _) (.cons (.int _ _) (.nil)))))) hk a0 ay
theorem Vt{pos:bz}(B:b3 (KK w.params) h₁)(hk:autoParam (env.scope.kind=.function) aN._auto_1)(a0:autoParam (env.globals=c1) aN._auto_1)(ay:autoParam (env.kindOf "STREAM"=some .globalImplicit) aN._auto_1):bx prog w h₁ own env ns k (aR (.Name "STREAM" pos) env) (U CE):=by
 exact dS B (by kernel_rfl) (λW n ai=>.int _ 299) hk a0 ay
theorem Vg{pos:bz}(B:b3 (KK w.params) h₁)(hk:autoParam (env.scope.kind=.function) aN._auto_1)(a0:autoParam (env.globals=c1) aN._auto_1)(ay:autoParam (env.kindOf "BIT_FIN"=some .globalImplicit) aN._auto_1):bx prog w h₁ own env ns k (aR (.Name "BIT_FIN" pos) env) (U Ct):=by
 exact dS B (by kernel_rfl) (λW n ai=>.int _ 331) hk a0 ay
theorem Vh{pos:bz}(B:b3 (KK w.params) h₁)(hk:autoParam (env.scope.kind=.function) aN._auto_1)(a0:autoParam (env.globals=c1) aN._auto_1)(ay:autoParam (env.kindOf "BIT_LENGTH"=some .globalImplicit) aN._auto_1):bx prog w h₁ own env ns k (aR (.Name "BIT_LENGTH" pos) env) (U Cu):=by
 exact dS B (by kernel_rfl) (λW n ai=>.int _ 333) hk a0 ay
theorem Vi{pos:bz}(B:b3 (KK w.params) h₁)(hk:autoParam (env.scope.kind=.function) aN._auto_1)(a0:autoParam (env.globals=c1) aN._auto_1)(ay:autoParam (env.kindOf "BIT_OFFSET"=some .globalImplicit) aN._auto_1):bx prog w h₁ own env ns k (aR (.Name "BIT_OFFSET" pos) env) (U Cv):=by
 exact dS B (by kernel_rfl) (λW n ai=>.int _ 335) hk a0 ay
theorem Vp{pos:bz}(B:b3 (KK w.params) h₁)(hk:autoParam (env.scope.kind=.function) aN._auto_1)(a0:autoParam (env.globals=c1) aN._auto_1)(ay:autoParam (env.kindOf "NEW_CONNECTION_ID"=some .globalImplicit) aN._auto_1):bx prog w h₁ own env ns k (aR (.Name "NEW_CONNECTION_ID" pos) env) (U CA):=by
 exact dS B (by kernel_rfl) (λW n ai=>.int _ 317) hk a0 ay
theorem Vk{pos:bz}(B:b3 (KK w.params) h₁)(hk:autoParam (env.scope.kind=.function) aN._auto_1)(a0:autoParam (env.globals=c1) aN._auto_1)(ay:autoParam (env.kindOf "CRYPTO"=some .globalImplicit) aN._auto_1):bx prog w h₁ own env ns k (aR (.Name "CRYPTO" pos) env) (U Cw):=by
 exact dS B (by kernel_rfl) (λW n ai=>.int _ 295) hk a0 ay
theorem Vq{pos:bz}(B:b3 (KK w.params) h₁)(hk:autoParam (env.scope.kind=.function) aN._auto_1)(a0:autoParam (env.globals=c1) aN._auto_1)(ay:autoParam (env.kindOf "NEW_TOKEN"=some .globalImplicit) aN._auto_1):bx prog w h₁ own env ns k (aR (.Name "NEW_TOKEN" pos) env) (U CB):=by
 exact dS B (by kernel_rfl) (λW n ai=>.int _ 297) hk a0 ay
theorem Vr{pos:bz}(B:b3 (KK w.params) h₁)(hk:autoParam (env.scope.kind=.function) aN._auto_1)(a0:autoParam (env.globals=c1) aN._auto_1)(ay:autoParam (env.kindOf "PATH_CHALLENGE"=some .globalImplicit) aN._auto_1):bx prog w h₁ own env ns k (aR (.Name "PATH_CHALLENGE" pos) env) (U CC):=by
 exact dS B (by kernel_rfl) (λW n ai=>.int _ 321) hk a0 ay
theorem Vs{pos:bz}(B:b3 (KK w.params) h₁)(hk:autoParam (env.scope.kind=.function) aN._auto_1)(a0:autoParam (env.globals=c1) aN._auto_1)(ay:autoParam (env.kindOf "PATH_RESPONSE"=some .globalImplicit) aN._auto_1):bx prog w h₁ own env ns k (aR (.Name "PATH_RESPONSE" pos) env) (U CD):=by
 exact dS B (by kernel_rfl) (λW n ai=>.int _ 323) hk a0 ay
theorem Vo{pos:bz}(B:b3 (KK w.params) h₁)(hk:autoParam (env.scope.kind=.function) aN._auto_1)(a0:autoParam (env.globals=c1) aN._auto_1)(ay:autoParam (env.kindOf "MAX_STREAMS_UNI"=some .globalImplicit) aN._auto_1):bx prog w h₁ own env ns k (aR (.Name "MAX_STREAMS_UNI" pos) env) (U Cz):=by
 exact dS B (by kernel_rfl) (λW n ai=>.int _ 307) hk a0 ay
theorem Vn{pos:bz}(B:b3 (KK w.params) h₁)(hk:autoParam (env.scope.kind=.function) aN._auto_1)(a0:autoParam (env.globals=c1) aN._auto_1)(ay:autoParam (env.kindOf "MAX_STREAMS_BIDI"=some .globalImplicit) aN._auto_1):bx prog w h₁ own env ns k (aR (.Name "MAX_STREAMS_BIDI" pos) env) (U Cy):=by
 exact dS B (by kernel_rfl) (λW n ai=>.int _ 305) hk a0 ay
theorem Vv{pos:bz}(B:b3 (KK w.params) h₁)(hk:autoParam (env.scope.kind=.function) aN._auto_1)(a0:autoParam (env.globals=c1) aN._auto_1)(ay:autoParam (env.kindOf "STREAMS_BLOCKED_UNI"=some .globalImplicit) aN._auto_1):bx prog w h₁ own env ns k (aR (.Name "STREAMS_BLOCKED_UNI" pos) env) (U CG):=by
 exact dS B (by kernel_rfl) (λW n ai=>.int _ 315) hk a0 ay
theorem Vu{pos:bz}(B:b3 (KK w.params) h₁)(hk:autoParam (env.scope.kind=.function) aN._auto_1)(a0:autoParam (env.globals=c1) aN._auto_1)(ay:autoParam (env.kindOf "STREAMS_BLOCKED_BIDI"=some .globalImplicit) aN._auto_1):bx prog w h₁ own env ns k (aR (.Name "STREAMS_BLOCKED_BIDI" pos) env) (U CF):=by
 exact dS B (by kernel_rfl) (λW n ai=>.int _ 313) hk a0 ay
theorem Lw{pos:bz}(B:b3 (KK w.params) h₁)(hk:autoParam (env.scope.kind=.function) aN._auto_1)(a0:autoParam (env.globals=c1) aN._auto_1)(ay:autoParam (env.kindOf "NUMBER_FRAMES"=some .globalImplicit) aN._auto_1):bx prog w h₁ own env ns k (aR (.Name "NUMBER_FRAMES" pos) env) (U tS):=by
 exact dS B (by kernel_rfl) (λW n ai=>Y0 B ai) hk a0 ay
theorem Vl{pos:bz}(B:b3 (KK w.params) h₁)(hk:autoParam (env.scope.kind=.function) aN._auto_1)(a0:autoParam (env.globals=c1) aN._auto_1)(ay:autoParam (env.kindOf "DATA_KINDS"=some .globalImplicit) aN._auto_1):bx prog w h₁ own env ns k (aR (.Name "DATA_KINDS" pos) env) (U Cx):=by
 exact dS B (by kernel_rfl) (λW n ai=>.bA (ai _ _ (B.X _ _ (Yp w.params))) (.cons (.str _ _) (.cons (.str _ _) (.nil)))) hk a0 ay
theorem zQ{pos:bz}(B:b3 (KK w.params) h₁)(hk:autoParam (env.scope.kind=.function) aN._auto_1)(a0:autoParam (env.globals=c1) aN._auto_1)(ay:autoParam (env.kindOf "KINDS"=some .globalImplicit) aN._auto_1):bx prog w h₁ own env ns k (aR (.Name "KINDS" pos) env) (U kO):=by
 exact dS B (by kernel_rfl) (λW n ai=>.bA (ai _ _ (B.X _ _ (Ys w.params))) (.cons (.str _ _) (.cons (.str _ _) (.cons (.str _ _) (.cons (.str _ _) (.cons (.str _ _) (.cons (.str _ _) (.nil)))))))) hk a0 ay
theorem EG{pos:bz}(B:b3 (KK w.params) h₁)(hk:autoParam (env.scope.kind=.function) aN._auto_1)(a0:autoParam (env.globals=c1) aN._auto_1)(ay:autoParam (env.kindOf "way_of"=some .globalImplicit) aN._auto_1):bx prog w h₁ own env ns k (aR (.Name "way_of" pos) env) (U (.cb (.ref 25))):=
 dS B (by kernel_rfl) (λW n ai=>.cb _) hk a0 ay
theorem EF{pos:bz}(B:b3 (KK w.params) h₁)(hk:autoParam (env.scope.kind=.function) aN._auto_1)(a0:autoParam (env.globals=c1) aN._auto_1)(ay:autoParam (env.kindOf "subject_of"=some .globalImplicit) aN._auto_1):bx prog w h₁ own env ns k (aR (.Name "subject_of" pos) env) (U (.cb (.ref 32))):=
 dS B (by kernel_rfl) (λW n ai=>.cb _) hk a0 ay
theorem VG{pos:bz}(B:b3 (KK w.params) h₁)(hk:autoParam (env.scope.kind=.function) aN._auto_1)(a0:autoParam (env.globals=c1) aN._auto_1)(ay:autoParam (env.kindOf "newest"=some .globalImplicit) aN._auto_1):bx prog w h₁ own env ns k (aR (.Name "newest" pos) env) (U (.cb (.ref 37))):=
 dS B (by kernel_rfl) (λW n ai=>.cb _) hk a0 ay
theorem VL{pos:bz}(B:b3 (KK w.params) h₁)(hk:autoParam (env.scope.kind=.function) aN._auto_1)(a0:autoParam (env.globals=c1) aN._auto_1)(ay:autoParam (env.kindOf "told_again"=some .globalImplicit) aN._auto_1):bx prog w h₁ own env ns k (aR (.Name "told_again" pos) env) (U (.cb (.ref 44))):=
 dS B (by kernel_rfl) (λW n ai=>.cb _) hk a0 ay
theorem VC{pos:bz}(B:b3 (KK w.params) h₁)(hk:autoParam (env.scope.kind=.function) aN._auto_1)(a0:autoParam (env.globals=c1) aN._auto_1)(ay:autoParam (env.kindOf "held_data"=some .globalImplicit) aN._auto_1):bx prog w h₁ own env ns k (aR (.Name "held_data" pos) env) (U (.cb (.ref 49))):=
 dS B (by kernel_rfl) (λW n ai=>.cb _) hk a0 ay
theorem VK{pos:bz}(B:b3 (KK w.params) h₁)(hk:autoParam (env.scope.kind=.function) aN._auto_1)(a0:autoParam (env.globals=c1) aN._auto_1)(ay:autoParam (env.kindOf "put_whole"=some .globalImplicit) aN._auto_1):bx prog w h₁ own env ns k (aR (.Name "put_whole" pos) env) (U (.cb (.ref 77))):=
 dS B (by kernel_rfl) (λW n ai=>.cb _) hk a0 ay
theorem VM{pos:bz}(B:b3 (KK w.params) h₁)(hk:autoParam (env.scope.kind=.function) aN._auto_1)(a0:autoParam (env.globals=c1) aN._auto_1)(ay:autoParam (env.kindOf "varint_size"=some .globalImplicit) aN._auto_1):bx prog w h₁ own env ns k (aR (.Name "varint_size" pos) env) (U (.cb (.ref 84))):=
 dS B (by kernel_rfl) (λW n ai=>.cb _) hk a0 ay
theorem LF{pos:bz}(B:b3 (KK w.params) h₁)(hk:autoParam (env.scope.kind=.function) aN._auto_1)(a0:autoParam (env.globals=c1) aN._auto_1)(ay:autoParam (env.kindOf "put_varint"=some .globalImplicit) aN._auto_1):bx prog w h₁ own env ns k (aR (.Name "put_varint" pos) env) (U (.cb (.ref 91))):=
 dS B (by kernel_rfl) (λW n ai=>.cb _) hk a0 ay
theorem qZ{pos:bz}(B:b3 (KK w.params) h₁)(hk:autoParam (env.scope.kind=.function) aN._auto_1)(a0:autoParam (env.globals=c1) aN._auto_1)(ay:autoParam (env.kindOf "put_numbers"=some .globalImplicit) aN._auto_1):bx prog w h₁ own env ns k (aR (.Name "put_numbers" pos) env) (U (.cb (.ref 97))):=
 dS B (by kernel_rfl) (λW n ai=>.cb _) hk a0 ay
theorem EE{pos:bz}(B:b3 (KK w.params) h₁)(hk:autoParam (env.scope.kind=.function) aN._auto_1)(a0:autoParam (env.globals=c1) aN._auto_1)(ay:autoParam (env.kindOf "put_counted"=some .globalImplicit) aN._auto_1):bx prog w h₁ own env ns k (aR (.Name "put_counted" pos) env) (U (.cb (.ref 104))):=
 dS B (by kernel_rfl) (λW n ai=>.cb _) hk a0 ay
theorem VJ{pos:bz}(B:b3 (KK w.params) h₁)(hk:autoParam (env.scope.kind=.function) aN._auto_1)(a0:autoParam (env.globals=c1) aN._auto_1)(ay:autoParam (env.kindOf "put_stream"=some .globalImplicit) aN._auto_1):bx prog w h₁ own env ns k (aR (.Name "put_stream" pos) env) (U (.cb (.ref 125))):=
 dS B (by kernel_rfl) (λW n ai=>.cb _) hk a0 ay
theorem VH{pos:bz}(B:b3 (KK w.params) h₁)(hk:autoParam (env.scope.kind=.function) aN._auto_1)(a0:autoParam (env.globals=c1) aN._auto_1)(ay:autoParam (env.kindOf "put_new_cid"=some .globalImplicit) aN._auto_1):bx prog w h₁ own env ns k (aR (.Name "put_new_cid" pos) env) (U (.cb (.ref 132))):=
 dS B (by kernel_rfl) (λW n ai=>.cb _) hk a0 ay
theorem VI{pos:bz}(B:b3 (KK w.params) h₁)(hk:autoParam (env.scope.kind=.function) aN._auto_1)(a0:autoParam (env.globals=c1) aN._auto_1)(ay:autoParam (env.kindOf "put_octets_frame"=some .globalImplicit) aN._auto_1):bx prog w h₁ own env ns k (aR (.Name "put_octets_frame" pos) env) (U (.cb (.ref 146))):=
 dS B (by kernel_rfl) (λW n ai=>.cb _) hk a0 ay
theorem LD{pos:bz}(B:b3 (KK w.params) h₁)(hk:autoParam (env.scope.kind=.function) aN._auto_1)(a0:autoParam (env.globals=c1) aN._auto_1)(ay:autoParam (env.kindOf "put_frame"=some .globalImplicit) aN._auto_1):bx prog w h₁ own env ns k (aR (.Name "put_frame" pos) env) (U (.cb (.ref 153))):=
 dS B (by kernel_rfl) (λW n ai=>.cb _) hk a0 ay
theorem wF{pos:bz}(B:b3 (KK w.params) h₁)(hk:autoParam (env.scope.kind=.function) aN._auto_1)(a0:autoParam (env.globals=c1) aN._auto_1)(ay:autoParam (env.kindOf "frame_size"=some .globalImplicit) aN._auto_1):bx prog w h₁ own env ns k (aR (.Name "frame_size" pos) env) (U (.cb (.ref 160))):=
 dS B (by kernel_rfl) (λW n ai=>.cb _) hk a0 ay
theorem EB{pos:bz}(B:b3 (KK w.params) h₁)(hk:autoParam (env.scope.kind=.function) aN._auto_1)(a0:autoParam (env.globals=c1) aN._auto_1)(ay:autoParam (env.kindOf "data_of"=some .globalImplicit) aN._auto_1):bx prog w h₁ own env ns k (aR (.Name "data_of" pos) env) (U (.cb (.ref 168))):=
 dS B (by kernel_rfl) (λW n ai=>.cb _) hk a0 ay
theorem wH{pos:bz}(B:b3 (KK w.params) h₁)(hk:autoParam (env.scope.kind=.function) aN._auto_1)(a0:autoParam (env.globals=c1) aN._auto_1)(ay:autoParam (env.kindOf "with_data"=some .globalImplicit) aN._auto_1):bx prog w h₁ own env ns k (aR (.Name "with_data" pos) env) (U (.cb (.ref 175))):=
 dS B (by kernel_rfl) (λW n ai=>.cb _) hk a0 ay
theorem LA{pos:bz}(B:b3 (KK w.params) h₁)(hk:autoParam (env.scope.kind=.function) aN._auto_1)(a0:autoParam (env.globals=c1) aN._auto_1)(ay:autoParam (env.kindOf "data_room"=some .globalImplicit) aN._auto_1):bx prog w h₁ own env ns k (aR (.Name "data_room" pos) env) (U (.cb (.ref 182))):=
 dS B (by kernel_rfl) (λW n ai=>.cb _) hk a0 ay
theorem Lz{pos:bz}(B:b3 (KK w.params) h₁)(hk:autoParam (env.scope.kind=.function) aN._auto_1)(a0:autoParam (env.globals=c1) aN._auto_1)(ay:autoParam (env.kindOf "cut_frame"=some .globalImplicit) aN._auto_1):bx prog w h₁ own env ns k (aR (.Name "cut_frame" pos) env) (U (.cb (.ref 189))):=
 dS B (by kernel_rfl) (λW n ai=>.cb _) hk a0 ay
theorem zR{pos:bz}(B:b3 (KK w.params) h₁)(hk:autoParam (env.scope.kind=.function) aN._auto_1)(a0:autoParam (env.globals=c1) aN._auto_1)(ay:autoParam (env.kindOf "filled"=some .globalImplicit) aN._auto_1):bx prog w h₁ own env ns k (aR (.Name "filled" pos) env) (U (.cb (.ref 196))):=
 dS B (by kernel_rfl) (λW n ai=>.cb _) hk a0 ay
theorem VD{pos:bz}(B:b3 (KK w.params) h₁)(hk:autoParam (env.scope.kind=.function) aN._auto_1)(a0:autoParam (env.globals=c1) aN._auto_1)(ay:autoParam (env.kindOf "in_rooms"=some .globalImplicit) aN._auto_1):bx prog w h₁ own env ns k (aR (.Name "in_rooms" pos) env) (U (.cb (.ref 203))):=
 dS B (by kernel_rfl) (λW n ai=>.cb _) hk a0 ay
theorem VE{pos:bz}(B:b3 (KK w.params) h₁)(hk:autoParam (env.scope.kind=.function) aN._auto_1)(a0:autoParam (env.globals=c1) aN._auto_1)(ay:autoParam (env.kindOf "kind_place"=some .globalImplicit) aN._auto_1):bx prog w h₁ own env ns k (aR (.Name "kind_place" pos) env) (U (.cb (.ref 211))):=
 dS B (by kernel_rfl) (λW n ai=>.cb _) hk a0 ay
theorem LC{pos:bz}(B:b3 (KK w.params) h₁)(hk:autoParam (env.scope.kind=.function) aN._auto_1)(a0:autoParam (env.globals=c1) aN._auto_1)(ay:autoParam (env.kindOf "next_due"=some .globalImplicit) aN._auto_1):bx prog w h₁ own env ns k (aR (.Name "next_due" pos) env) (U (.cb (.ref 218))):=
 dS B (by kernel_rfl) (λW n ai=>.cb _) hk a0 ay
theorem Vz{pos:bz}(B:b3 (KK w.params) h₁)(hk:autoParam (env.scope.kind=.function) aN._auto_1)(a0:autoParam (env.globals=c1) aN._auto_1)(ay:autoParam (env.kindOf "all_due"=some .globalImplicit) aN._auto_1):bx prog w h₁ own env ns k (aR (.Name "all_due" pos) env) (U (.cb (.ref 223))):=
 dS B (by kernel_rfl) (λW n ai=>.cb _) hk a0 ay
theorem VN{pos:bz}(B:b3 (KK w.params) h₁)(hk:autoParam (env.scope.kind=.function) aN._auto_1)(a0:autoParam (env.globals=c1) aN._auto_1)(ay:autoParam (env.kindOf "with_alarm"=some .globalImplicit) aN._auto_1):bx prog w h₁ own env ns k (aR (.Name "with_alarm" pos) env) (U (.cb (.ref 228))):=
 dS B (by kernel_rfl) (λW n ai=>.cb _) hk a0 ay
theorem oJ{pos:bz}(B:b3 (KK w.params) h₁)(hk:autoParam (env.scope.kind=.function) aN._auto_1)(a0:autoParam (env.globals=c1) aN._auto_1)(ay:autoParam (env.kindOf "_law_draw"=some .globalImplicit) aN._auto_1):bx prog w h₁ own env ns k (aR (.Name "_law_draw" pos) env) (U (.cb (.ref 284))):=
 dS B (by kernel_rfl) (λW n ai=>.cb _) hk a0 ay
theorem Lx{pos:bz}(B:b3 (KK w.params) h₁)(hk:autoParam (env.scope.kind=.function) aN._auto_1)(a0:autoParam (env.globals=c1) aN._auto_1)(ay:autoParam (env.kindOf "_law_frames"=some .globalImplicit) aN._auto_1):bx prog w h₁ own env ns k (aR (.Name "_law_frames" pos) env) (U (.cb (.ref 289))):=
 dS B (by kernel_rfl) (λW n ai=>.cb _) hk a0 ay
theorem EA{pos:bz}(B:b3 (KK w.params) h₁)(hk:autoParam (env.scope.kind=.function) aN._auto_1)(a0:autoParam (env.globals=c1) aN._auto_1)(ay:autoParam (env.kindOf "_law_comes"=some .globalImplicit) aN._auto_1):bx prog w h₁ own env ns k (aR (.Name "_law_comes" pos) env) (U (.cb (.ref 296))):=
 dS B (by kernel_rfl) (λW n ai=>.cb _) hk a0 ay
theorem Vx{pos:bz}(B:b3 (KK w.params) h₁)(hk:autoParam (env.scope.kind=.function) aN._auto_1)(a0:autoParam (env.globals=c1) aN._auto_1)(ay:autoParam (env.kindOf "_law_places"=some .globalImplicit) aN._auto_1):bx prog w h₁ own env ns k (aR (.Name "_law_places" pos) env) (U (.cb (.ref 303))):=
 dS B (by kernel_rfl) (λW n ai=>.cb _) hk a0 ay
theorem Ly{pos:bz}(B:b3 (KK w.params) h₁)(hk:autoParam (env.scope.kind=.function) aN._auto_1)(a0:autoParam (env.globals=c1) aN._auto_1)(ay:autoParam (env.kindOf "_law_goes"=some .globalImplicit) aN._auto_1):bx prog w h₁ own env ns k (aR (.Name "_law_goes" pos) env) (U (.cb (.ref 308))):=
 dS B (by kernel_rfl) (λW n ai=>.cb _) hk a0 ay
theorem Vf{pos:bz}(B:b3 (KK w.params) h₁)(hk:autoParam (env.scope.kind=.function) aN._auto_1)(a0:autoParam (env.globals=c1) aN._auto_1)(ay:autoParam (env.kindOf "Alarms"=some .globalImplicit) aN._auto_1):bx prog w h₁ own env ns k (aR (.Name "Alarms" pos) env) (U (.cb (.ref 273))):=
 dS B (by kernel_rfl) (λW n ai=>.cb _) hk a0 ay
theorem mW{pos:bz}(B:b3 (KK w.params) h₁)(hk:autoParam (env.scope.kind=.function) aN._auto_1)(a0:autoParam (env.globals=c1) aN._auto_1)(ai:autoParam (env.builtins=la) aN._auto_1)(ay:autoParam (env.kindOf "len"=some .globalImplicit) aN._auto_1):bx prog w h₁ own env ns k (aR (.Name "len" pos) env) (U (.cb (.builtin "len"))):=
 mU B (by kernel_rfl) (by kernel_rfl) (by decide) hk a0 ai ay
theorem Vy{pos:bz}(B:b3 (KK w.params) h₁)(hk:autoParam (env.scope.kind=.function) aN._auto_1)(a0:autoParam (env.globals=c1) aN._auto_1)(ai:autoParam (env.builtins=la) aN._auto_1)(ay:autoParam (env.kindOf "abs"=some .globalImplicit) aN._auto_1):bx prog w h₁ own env ns k (aR (.Name "abs" pos) env) (U (.cb (.builtin "abs"))):=
 mU B (by kernel_rfl) (by kernel_rfl) (by decide) hk a0 ai ay
theorem VF{pos:bz}(B:b3 (KK w.params) h₁)(hk:autoParam (env.scope.kind=.function) aN._auto_1)(a0:autoParam (env.globals=c1) aN._auto_1)(ai:autoParam (env.builtins=la) aN._auto_1)(ay:autoParam (env.kindOf "min"=some .globalImplicit) aN._auto_1):bx prog w h₁ own env ns k (aR (.Name "min" pos) env) (U (.cb (.builtin "min"))):=
 mU B (by kernel_rfl) (by kernel_rfl) (by decide) hk a0 ai ay
theorem LH{pos:bz}(B:b3 (KK w.params) h₁)(hk:autoParam (env.scope.kind=.function) aN._auto_1)(a0:autoParam (env.globals=c1) aN._auto_1)(ai:autoParam (env.builtins=la) aN._auto_1)(ay:autoParam (env.kindOf "sum"=some .globalImplicit) aN._auto_1):bx prog w h₁ own env ns k (aR (.Name "sum" pos) env) (U (.cb (.builtin "sum"))):=
 mU B (by kernel_rfl) (by kernel_rfl) (by decide) hk a0 ai ay
theorem LG{pos:bz}(B:b3 (KK w.params) h₁)(hk:autoParam (env.scope.kind=.function) aN._auto_1)(a0:autoParam (env.globals=c1) aN._auto_1)(ai:autoParam (env.builtins=la) aN._auto_1)(ay:autoParam (env.kindOf "sorted"=some .globalImplicit) aN._auto_1):bx prog w h₁ own env ns k (aR (.Name "sorted" pos) env) (U (.cb (.builtin "sorted"))):=
 mU B (by kernel_rfl) (by kernel_rfl) (by decide) hk a0 ai ay
theorem LB{pos:bz}(B:b3 (KK w.params) h₁)(hk:autoParam (env.scope.kind=.function) aN._auto_1)(a0:autoParam (env.globals=c1) aN._auto_1)(ai:autoParam (env.builtins=la) aN._auto_1)(ay:autoParam (env.kindOf "int"=some .globalImplicit) aN._auto_1):bx prog w h₁ own env ns k (aR (.Name "int" pos) env) (U (.cb (.type "int"))):=
 mU B (by kernel_rfl) (by kernel_rfl) (by decide) hk a0 ai ay
theorem wG{pos:bz}(B:b3 (KK w.params) h₁)(hk:autoParam (env.scope.kind=.function) aN._auto_1)(a0:autoParam (env.globals=c1) aN._auto_1)(ai:autoParam (env.builtins=la) aN._auto_1)(ay:autoParam (env.kindOf "range"=some .globalImplicit) aN._auto_1):bx prog w h₁ own env ns k (aR (.Name "range" pos) env) (U (.cb (.type "range"))):=
 mU B (by kernel_rfl) (by kernel_rfl) (by decide) hk a0 ai ay
theorem ED{pos:bz}(B:b3 (KK w.params) h₁)(hk:autoParam (env.scope.kind=.function) aN._auto_1)(a0:autoParam (env.globals=c1) aN._auto_1)(ai:autoParam (env.builtins=la) aN._auto_1)(ay:autoParam (env.kindOf "list"=some .globalImplicit) aN._auto_1):bx prog w h₁ own env ns k (aR (.Name "list" pos) env) (U (.cb (.type "list"))):=
 mU B (by kernel_rfl) (by kernel_rfl) (by decide) hk a0 ai ay
theorem nS{pos:bz}(B:b3 (KK w.params) h₁)(hk:autoParam (env.scope.kind=.function) aN._auto_1)(a0:autoParam (env.globals=c1) aN._auto_1)(ai:autoParam (env.builtins=la) aN._auto_1)(ay:autoParam (env.kindOf "bytes"=some .globalImplicit) aN._auto_1):bx prog w h₁ own env ns k (aR (.Name "bytes" pos) env) (U (.cb (.type "bytes"))):=
 mU B (by kernel_rfl) (by kernel_rfl) (by decide) hk a0 ai ay
theorem VB{pos:bz}(B:b3 (KK w.params) h₁)(hk:autoParam (env.scope.kind=.function) aN._auto_1)(a0:autoParam (env.globals=c1) aN._auto_1)(ai:autoParam (env.builtins=la) aN._auto_1)(ay:autoParam (env.kindOf "dict"=some .globalImplicit) aN._auto_1):bx prog w h₁ own env ns k (aR (.Name "dict" pos) env) (U (.cb (.type "dict"))):=
 mU B (by kernel_rfl) (by kernel_rfl) (by decide) hk a0 ai ay
theorem VA{pos:bz}(B:b3 (KK w.params) h₁)(hk:autoParam (env.scope.kind=.function) aN._auto_1)(a0:autoParam (env.globals=c1) aN._auto_1)(ai:autoParam (env.builtins=la) aN._auto_1)(ay:autoParam (env.kindOf "bytearray"=some .globalImplicit) aN._auto_1):bx prog w h₁ own env ns k (aR (.Name "bytearray" pos) env) (U (.cb (.type "bytearray"))):=
 mU B (by kernel_rfl) (by kernel_rfl) (by decide) hk a0 ai ay
theorem EC{pos:bz}(B:b3 (KK w.params) h₁)(hk:autoParam (env.scope.kind=.function) aN._auto_1)(a0:autoParam (env.globals=c1) aN._auto_1)(ai:autoParam (env.builtins=la) aN._auto_1)(ay:autoParam (env.kindOf "enumerate"=some .globalImplicit) aN._auto_1):bx prog w h₁ own env ns k (aR (.Name "enumerate" pos) env) (U (.cb (.type "enumerate"))):=
 mU B (by kernel_rfl) (by kernel_rfl) (by decide) hk a0 ai ay
end
end Internal
namespace Internal
open PySem PySem.W PyProof.Rows PySem.Calls
noncomputable def Cd:ck:=aq (b9 (boolOf (ah gF (J 0) (U I0))) (aq (bP (U (.str "same"))) (aG)) (aG)) (aq (b9 (boolOf (ah gF (J 0) (U I1))) (aq (bP (U (.str "holder"))) (aG)) (aG)) (aq (b9 (boolOf (ah gF (J 0) (U I2))) (aq (bP (U (.str "latest"))) (aG)) (aG)) (aq (bP (ft (boolOf (ah gF (J 0) (U I3))) (U (.str "blocked")) (U (.str "never")))) (aG))))
noncomputable def tM:b4:=e2 Cd 1 0
noncomputable def Cc:ck:=aq (cC 1 (ah bf (J 0) (U (.int 0)))) (aq (b9 (boolOf (ah gF (J 1) (b5 (ae (U (.str "max_stream_data")) (ae (U (.str "stream_data_blocked")) (ae (U (.str "stop_sending")) (ae (U (.str "reset_stream")) (av)))))))) (aq (bP (b5 (ae (J 1) (ae (ah bf (J 0) (U (.int 1))) (av))))) (aG)) (aG)) (aq (b9 (boolOf (ah gF (J 1) (b5 (ae (U (.str "max_streams")) (ae (U (.str "streams_blocked")) (av)))))) (aq (bP (b5 (ae (J 1) (ae (ah bf (J 0) (U (.int 1))) (av))))) (aG)) (aG)) (aq (b9 (boolOf (ah gF (J 1) (b5 (ae (U (.str "new_connection_id")) (ae (U (.str "retire_connection_id")) (av)))))) (aq (bP (b5 (ae (J 1) (ae (ah bf (J 0) (U (.int 1))) (av))))) (aG)) (aG)) (aq (b9 (boolOf (ah cP (J 1) (U (.str "new_token")))) (aq (bP (b5 (ae (J 1) (ae (ah bf (J 0) (U (.int 1))) (av))))) (aG)) (aG)) (aq (bP (b5 (ae (J 1) (ae (U (.none)) (av))))) (aG))))))
noncomputable def tL:b4:=e2 Cc 1 1
noncomputable def IH:ck:=aq (iE (J 2) (J 1) (bq tL (ae (J 3) (av)))) (aG)
noncomputable def yP:ck:=aq (cC 1 (hW (.cv []))) (aq (pz (J 0) (eA [2,3]) IH) (aq (bP (gx (xM (J 1)) (fi [none,some 0]) (dD 0) (fM) (ah bf (J 1) (J 0)))) (aG)))
noncomputable def vX:b4:=e2 yP 1 3
noncomputable def IK:ck:=aq (gC (eA [6,7]) (b5 (ae (bq tM (ae (ah bf (J 5) (U (.int 0))) (av))) (ae (bq tL (ae (J 5) (av))) (av))))) (aq (b9 (dt (boolOf (ah gF (J 7) (J 3))) (dt (boolOf (ah cP (J 6) (U (.str "holder")))) (dt (boolOf (ah cP (J 6) (U (.str "never")))) (gy)))) (aq (wk) (aG)) (aG)) (aq (b9 (boolOf (ah cP (J 6) (U (.str "same")))) (aq (eB (ek eJ f7 (J 4) (ae (J 5) (av)))) (aG)) (aq (b9 (boolOf (ah cP (J 6) (U (.str "latest")))) (aq (eB (ek eJ f7 (J 4) (ae (ah c3 (j' (J 5) (U .none) (k8 mq (U (.int 1)))) (b5 (ae (ek w7 zT (J 1) (ae (J 7) (ae (ah bf (J 5) (k8 mq (U (.int 1)))) (av)))) (av)))) (av)))) (aG)) (aq (b9 (boolOf (ah gF (J 7) (J 2))) (aq (eB (ek eJ f7 (J 4) (ae (ah c3 (j' (J 5) (U .none) (k8 mq (U (.int 1)))) (b5 (ae (ah bf (J 2) (J 7)) (av)))) (av)))) (aG)) (aG)) (aG))) (aG))) (aG)))
noncomputable def yZ:ck:=aq (cC 4 (hI (av))) (aq (gp (J 0) (dD 5) IK) (aq (bP (bq vX (ae (J 4) (av)))) (aG)))
noncomputable def v3:b4:=e2 yZ 4 4
noncomputable def yJ:ck:=aq (bP (gx (J 0) (fi [none]) (dD 0) (boolOf (ah cP (bq tM (ae (ah bf (J 0) (U (.int 0))) (av))) (U (.str "holder")))) (J 0))) (aG)
noncomputable def vR:b4:=e2 yJ 1 0
noncomputable def IJ:ck:=aq (xO (ah iB (J 0) (U (.int 256))) (J 2) (J 3)) (aq (cC 0 (ah wC (J 0) (U (.int 256)))) (aG))
noncomputable def yY:ck:=aq (b9 (dt (boolOf (ah k2 (J 0) (U (.int 0)))) (dt (boolOf (ah gY (ah GP (J 0) (ah m9 (U (.int 8)) (J 1))) (U (.int 0)))) (gy))) (aq (nR) (aG)) (aG)) (aq (cC 2 (bq CS (ae (J 1) (av)))) (aq (gp (bq oe (ae (ah lK (J 1) (U (.int 1))) (ae (k8 mq (U (.int 1))) (ae (k8 mq (U (.int 1))) (av))))) (dD 3) IJ) (aq (bP (bq zq (ae (J 2) (av)))) (aG))))
noncomputable def tK:b4:=e2 yY 2 2
noncomputable def IL:ck:=aq (b9 (wj sT k2 (U (.int 0)) (J 0) (ah xJ (U (.int 1)) (ah lK (ah m9 (U (.int 8)) (J 1)) (U (.int 2))))) (aq (bP (J 1)) (aG)) (aG)) (aG)
noncomputable def y0:ck:=aq (gp (U r7) (dD 1) IL) (aq (nR) (aG))
noncomputable def v5:b4:=e2 y0 1 1
noncomputable def yX:ck:=aq (cC 2 (bq v5 (ae (J 0) (av)))) (aq (b9 (boolOf (ah ku (J 1) (U (.none)))) (aq (cC 1 (J 2)) (aG)) (aG)) (aq (b9 (dt (boolOf (ah k2 (J 1) (J 2))) (dt (boolOf (ah rg (J 1) (U r7))) (gy))) (aq (nR) (aG)) (aG)) (aq (bP (bq tK (ae (ah Gq (ah xJ (ek w8 Ab (U r7) (ae (J 1) (av))) (ah lK (ah m9 (U (.int 8)) (J 1)) (U (.int 2)))) (J 0)) (ae (J 1) (av))))) (aG))))
noncomputable def rZ:b4:=e2 yX 2 1
noncomputable def yU:ck:=aq (bP (ek Ad Ah (U (.bytes [])) (ae (gx (J 0) (fi [none]) (dD 0) (fM) (bq rZ (ae (J 0) (ae (U (.none)) (av))))) (av)))) (aG)
noncomputable def iv:b4:=e2 yU 1 0
noncomputable def yR:ck:=aq (bP (ah c3 (bq rZ (ae (bq f' (ae (J 0) (av))) (ae (U (.none)) (av)))) (J 0))) (aG)
noncomputable def mK:b4:=e2 yR 1 0
noncomputable def yW:ck:=aq (gC (eA [2,3,4,5,6]) (J 0)) (aq (cC 7 (ah c3 (ah c3 (ah c3 (U CE) (ft (boolOf (J 6)) (U Ct) (U (.int 0)))) (ft (boolOf (J 1)) (U (.int 0)) (U Cu))) (ft (boolOf (ah kr (J 4) (U (.int 0)))) (U Cv) (U (.int 0))))) (aq (cC 8 (bq iv (ae (ah c3 (d' (ae (J 7) (ae (J 3) (av)))) (ft (boolOf (ah kr (J 4) (U (.int 0)))) (d' (ae (J 4) (av))) (d' (av)))) (av)))) (aq (bP (ah c3 (J 8) (ft (boolOf (J 1)) (J 5) (bq mK (ae (J 5) (av)))))) (aG))))
noncomputable def vZ:b4:=e2 yW 2 7
noncomputable def yT:ck:=aq (gC (eA [1,2,3,4,5]) (J 0)) (aq (bP (ah c3 (ah c3 (ah c3 (bq iv (ae (d' (ae (U CA) (ae (J 2) (ae (J 3) (av))))) (av))) (bq hH (ae (d' (ae (bq f' (ae (J 4) (av))) (av))) (av)))) (J 4)) (J 5))) (aG))
noncomputable def vY:b4:=e2 yT 1 5
noncomputable def yV:ck:=aq (cC 1 (ah bf (J 0) (U (.int 0)))) (aq (b9 (boolOf (ah cP (J 1) (U (.str "crypto")))) (aq (bP (ah c3 (bq iv (ae (d' (ae (U Cw) (ae (ah bf (J 0) (U (.int 1))) (av)))) (av))) (bq mK (ae (ah bf (J 0) (U (.int 2))) (av))))) (aG)) (aG)) (aq (b9 (boolOf (ah cP (J 1) (U (.str "new_token")))) (aq (bP (ah c3 (bq iv (ae (d' (ae (U CB) (av))) (av))) (bq mK (ae (ah bf (J 0) (U (.int 1))) (av))))) (aG)) (aG)) (aq (b9 (dt (boolOf (ah cP (J 1) (U (.str "path_challenge")))) (dt (boolOf (ah cP (J 1) (U (.str "path_response")))) (gy))) (aq (bP (ah c3 (bq iv (ae (d' (ae (ft (boolOf (ah cP (J 1) (U (.str "path_challenge")))) (U CC) (U CD)) (av))) (av))) (ah bf (J 0) (U (.int 1))))) (aG)) (aG)) (aq (b9 (boolOf (ah cP (J 1) (U (.str "max_streams")))) (aq (bP (bq iv (ae (d' (ae (ft (boolOf (ah bf (J 0) (U (.int 1)))) (U Cz) (U Cy)) (ae (ah bf (J 0) (U (.int 2))) (av)))) (av)))) (aG)) (aG)) (aq (b9 (boolOf (ah cP (J 1) (U (.str "streams_blocked")))) (aq (bP (bq iv (ae (d' (ae (ft (boolOf (ah bf (J 0) (U (.int 1)))) (U CG) (U CF)) (ae (ah bf (J 0) (U (.int 2))) (av)))) (av)))) (aG)) (aG)) (aq (bP (U (.none))) (aG)))))))
noncomputable def tJ:b4:=e2 yV 1 1
noncomputable def yS:ck:=aq (cC 1 (ah bf (J 0) (U (.int 0)))) (aq (b9 (boolOf (ah cP (J 1) (U (.str "padding")))) (aq (bP (bq hH (ae (px) (av)))) (aG)) (aG)) (aq (b9 (boolOf (ah gF (J 1) (U tS))) (aq (bP (bq iv (ae (ah c3 (d' (ae (ah bf (U tS) (J 1)) (av))) (bq pT (ae (j' (J 0) (U (.int 1)) (U .none)) (av)))) (av)))) (aG)) (aG)) (aq (b9 (boolOf (ah cP (J 1) (U (.str "ack")))) (aq (bP (px)) (aG)) (aG)) (aq (b9 (boolOf (ah cP (J 1) (U (.str "stream")))) (aq (bP (bq vZ (ae (J 0) (ae (U (.bool false)) (av))))) (aG)) (aG)) (aq (b9 (boolOf (ah cP (J 1) (U (.str "new_connection_id")))) (aq (bP (bq vY (ae (J 0) (av)))) (aG)) (aG)) (aq (b9 (boolOf (ah cP (J 1) (U (.str "close")))) (aq (bP (px)) (aG)) (aG)) (aq (cC 2 (bq tJ (ae (J 0) (av)))) (aq (b9 (boolOf (ah ku (J 2) (U (.none)))) (aq (nR) (aG)) (aG)) (aq (bP (J 2)) (aG))))))))))
noncomputable def o':b4:=e2 yS 1 2
noncomputable def yI:ck:=aq (bP (bq f' (ae (bq o' (ae (J 0) (av))) (av)))) (aG)
noncomputable def lj:b4:=e2 yI 1 0
noncomputable def yF:ck:=aq (bP (ft (boolOf (ah cP (ah bf (J 0) (U (.int 0))) (U (.str "crypto")))) (ah bf (J 0) (U (.int 2))) (ah bf (J 0) (U (.int 3))))) (aG)
noncomputable def rV:b4:=e2 yF 1 0
noncomputable def y2:ck:=aq (b9 (boolOf (ah cP (ah bf (J 0) (U (.int 0))) (U (.str "crypto")))) (aq (bP (b5 (ae (U (.str "crypto")) (ae (ah c3 (ah bf (J 0) (U (.int 1))) (J 1)) (ae (J 2) (av)))))) (aG)) (aG)) (aq (bP (b5 (ae (U (.str "stream")) (ae (ah bf (J 0) (U (.int 1))) (ae (ah c3 (ah bf (J 0) (U (.int 2))) (J 1)) (ae (J 2) (ae (J 3) (av)))))))) (aG))
noncomputable def kk:b4:=e2 y2 4 0
noncomputable def IA:ck:=aq (r9 3 lK (U (.int 1))) (aG)
noncomputable def yG:ck:=aq (cC 2 (bq rV (ae (J 0) (av)))) (aq (b9 (boolOf (ah kr (bq lj (ae (bq kk (ae (J 0) (ae (U (.int 0)) (ae (U (.bytes [])) (ae (U (.bool false)) (av)))))) (av))) (J 1))) (aq (bP (k8 mq (U (.int 1)))) (aG)) (aG)) (aq (cC 3 (bq F3 (ae (bq f' (ae (J 2) (av))) (ae (ah lK (J 1) (bq lj (ae (bq kk (ae (J 0) (ae (U (.int 0)) (ae (U (.bytes [])) (ae (U (.bool false)) (av)))))) (av)))) (av))))) (aq (rx (boolOf (ah kr (bq lj (ae (bq kk (ae (J 0) (ae (U (.int 0)) (ae (j' (J 2) (U .none) (J 3)) (ae (U (.bool false)) (av)))))) (av))) (J 1))) IA) (aq (bP (J 3)) (aG)))))
noncomputable def vQ:b4:=e2 yG 2 2
noncomputable def yE:ck:=aq (b9 (boolOf (ah sT (bq lj (ae (J 0) (av))) (J 1))) (aq (bP (b5 (ae (J 0) (ae (U (.none)) (av))))) (aG)) (aG)) (aq (b9 (boolOf (ah rg (ah bf (J 0) (U (.int 0))) (U Cx))) (aq (bP (b5 (ae (U (.none)) (ae (J 0) (av))))) (aG)) (aG)) (aq (gC (eA [2,3]) (b5 (ae (bq vQ (ae (J 0) (ae (J 1) (av)))) (ae (bq rV (ae (J 0) (av))) (av))))) (aq (b9 (dt (boolOf (ah k2 (J 2) (U (.int 1)))) (dt (boolOf (ah EH (J 2) (bq f' (ae (J 3) (av))))) (gy))) (aq (bP (b5 (ae (U (.none)) (ae (J 0) (av))))) (aG)) (aG)) (aq (cC 4 (oA (ah cP (ah bf (J 0) (U (.int 0))) (U (.str "stream"))) (ah bf (J 0) (U (.int 4))))) (aq (bP (b5 (ae (bq kk (ae (J 0) (ae (U (.int 0)) (ae (j' (J 3) (U .none) (J 2)) (ae (U (.bool false)) (av)))))) (ae (bq kk (ae (J 0) (ae (J 2) (ae (j' (J 3) (J 2) (U .none)) (ae (J 4) (av)))))) (av))))) (aG))))))
noncomputable def vP:b4:=e2 yE 2 3
noncomputable def IB:ck:=aq (gC (eA [5,6]) (bq vP (ae (J 4) (ae (J 1) (av))))) (aq (b9 (boolOf (ah m5 (J 5) (U (.none)))) (aq (eB (ek eJ f7 (J 2) (ae (J 5) (av)))) (aq (r9 1 lK (bq lj (ae (J 5) (av)))) (aG))) (aG)) (aq (b9 (boolOf (ah m5 (J 6) (U (.none)))) (aq (eB (ek eJ f7 (J 3) (ae (J 6) (av)))) (aG)) (aG)) (aG)))
noncomputable def yH:ck:=aq (gC (eA [2,3]) (b5 (ae (hI (av)) (ae (hI (av)) (av))))) (aq (gp (J 0) (dD 4) IB) (aq (bP (b5 (ae (J 2) (ae (J 3) (av))))) (aG)))
noncomputable def rW:b4:=e2 yH 2 5
noncomputable def IC:ck:=aq (gC (eA [4,5]) (bq rW (ae (J 3) (ae (J 1) (av))))) (aq (b9 (boolOf (ah cP (bq f' (ae (J 4) (av))) (U (.int 0)))) (aq (bP (U (.none))) (aG)) (aG)) (aq (eB (ek eJ f7 (J 2) (ae (J 4) (av)))) (aq (cC 3 (J 5)) (aG))))
noncomputable def yK:ck:=aq (gC (eA [2,3]) (b5 (ae (hI (av)) (ae (bq pT (ae (J 0) (av))) (av))))) (aq (rx (boolOf (ah kr (bq f' (ae (J 3) (av))) (U (.int 0)))) IC) (aq (bP (J 2)) (aG)))
noncomputable def vS:b4:=e2 yK 2 4
noncomputable def Cb:ck:=aq (bP (ek w8 Ab (U kO) (ae (J 0) (av)))) (aG)
noncomputable def vT:b4:=e2 Cb 1 0
noncomputable def II:ck:=aq (cC 3 (ek sQ q0 (J 0) (ae (J 2) (av)))) (aq (b9 (gk (boolOf (ah m5 (J 3) (U (.none)))) (gk (dt (boolOf (ah ku (J 1) (U (.none)))) (dt (boolOf (ah k2 (J 3) (ah bf (J 1) (U (.int 0))))) (gy))) (fM))) (aq (cC 1 (b5 (ae (J 3) (ae (J 2) (av))))) (aG)) (aG)) (aG))
noncomputable def yQ:ck:=aq (cC 1 (U (.none))) (aq (gp (U kO) (dD 2) II) (aq (bP (J 1)) (aG)))
noncomputable def rY:b4:=e2 yQ 1 3
noncomputable def Iz:ck:=aq (cC 4 (ek sQ q0 (J 0) (ae (J 3) (av)))) (aq (b9 (gk (boolOf (ah m5 (J 4) (U (.none)))) (gk (boolOf (ah sT (J 4) (J 1))) (fM))) (aq (eB (ek eJ f7 (J 2) (ae (b5 (ae (J 4) (ae (bq vT (ae (J 3) (av))) (av)))) (av)))) (aG)) (aG)) (aG))
noncomputable def yD:ck:=aq (cC 2 (hI (av))) (aq (gp (U kO) (dD 3) Iz) (aq (bP (gx (bq A2 (ae (J 2) (av))) (fi [none,none]) (eA [0,1]) (fM) (ah bf (U kO) (J 1)))) (aG)))
noncomputable def vO:b4:=e2 yD 2 3
noncomputable def y1:ck:=aq (cC 3 (bq zz (ae (qR (J 0) (fi [none,some 0,some 1]) (dD 0) (boolOf (ah gY (J 0) (J 2))) (b5 (ae (J 0) (ae (ah bf (J 1) (J 0)) (av))))) av))) (aq (b9 (boolOf (ah m5 (J 2) (U (.none)))) (aq (iE (J 2) (J 3) (J 1)) (aG)) (aG)) (aq (bP (J 3)) (aG)))
noncomputable def v7:b4:=e2 y1 3 1
noncomputable def yM:ck:=aq (xI (bq v7 (ae (l9 (J 0)) (ae (J 1) (ae (J 2) (av))))) (J 0)) (aG)
noncomputable def rX:b4:=e2 yM 3 0
noncomputable def yO:ck:=aq (bP (ek sQ q0 (l9 (J 0)) (ae (J 1) (av)))) (aG)
noncomputable def vW:b4:=e2 yO 2 0
noncomputable def yL:ck:=aq (cC 1 (bq rY (ae (l9 (J 0)) (av)))) (aq (bP (ft (boolOf (ah ku (J 1) (U (.none)))) (U (.none)) (ah bf (J 1) (U (.int 0))))) (aG))
noncomputable def vU:b4:=e2 yL 1 1
noncomputable def IG:ck:=aq (eB (mn rX (J 0) (ae (J 3) (ae (U (.none)) (av))))) (aG)
noncomputable def yN:ck:=aq (cC 2 (bq vO (ae (l9 (J 0)) (ae (J 1) (av))))) (aq (gp (J 2) (dD 3) IG) (aq (bP (J 2)) (aG)))
noncomputable def vV:b4:=e2 yN 2 2
noncomputable def yA:ck:=aq (cC 2 (ah bf (J 0) (U (.int 1)))) (aq (cC 3 (ft (boolOf (ah gY (J 2) (d' (av)))) (bq zg (ae (ah bf (J 2) (ah iB (ah bf (J 0) (U (.int 2))) (bq f' (ae (J 2) (av))))) (av))) (U (.int 47)))) (aq (iE (ah c3 (ah bf (J 0) (U (.int 2))) (U (.int 1))) (J 0) (U (.int 2))) (aq (iE (ah iB (ah c3 (ah c3 (ah m9 (ah bf (J 0) (U (.int 0))) (U (.int 48271))) (ah iB (J 3) (U (.int 1000003)))) (U (.int 59))) (U (.int 2147483647))) (J 0) (U (.int 0))) (aq (bP (ah iB (ah wC (ah bf (J 0) (U (.int 0))) (U (.int 13))) (J 1))) (aG)))))
noncomputable def h7:b4:=e2 yA 2 2
noncomputable def Iu:ck:=aq (cC 3 (ah c3 (U (.int 1)) (bq h7 (ae (J 0) (ae (U (.int 30)) (av)))))) (aq (eB (ek eJ f7 (J 1) (ae (b5 (ae (U (.str "stream")) (ae (ah m9 (U (.int 4)) (J 2)) (ae (U (.int 0)) (ae (bq hH (ae (gx (bq oe (ae (J 3) (av))) (fi [none,some 2]) (dD 0) (fM) (ah iB (ah c3 (J 1) (J 0)) (U (.int 256)))) (av))) (ae (U (.bool true)) (av))))))) (av)))) (aG))
noncomputable def vJ:ck:=aq (cC 1 (hI (ae (b5 (ae (U (.str "max_data")) (ae (U (.int 10)) (av)))) (ae (b5 (ae (U (.str "max_data")) (ae (U (.int 20)) (av)))) (ae (b5 (ae (U (.str "stop_sending")) (ae (U (.int 4)) (ae (U (.int 7)) (av))))) (ae (b5 (ae (U (.str "path_challenge")) (ae (U (.bytes pg)) (av)))) (av))))))) (aq (eB (ek eJ f7 (J 1) (ae (b5 (ae (U (.str "data_blocked")) (ae (U (.int 9)) (av)))) (av)))) (aq (eB (ek eJ f7 (J 1) (ae (b5 (ae (U (.str "new_connection_id")) (ae (ah c3 (U (.int 1)) (bq h7 (ae (J 0) (ae (U (.int 3)) (av))))) (ae (U (.int 0)) (ae (bq hH (ae (U (.int 8)) (av))) (ae (bq hH (ae (U (.int 16)) (av))) (av))))))) (av)))) (aq (gp (bq oe (ae (ah c3 (U (.int 1)) (bq h7 (ae (J 0) (ae (U (.int 2)) (av))))) (av))) (dD 2) Iu) (aq (eB (ek eJ f7 (J 1) (ae (b5 (ae (U (.str "crypto")) (ae (U (.int 0)) (ae (bq hH (ae (gx (bq oe (ae (ah c3 (U (.int 1)) (bq h7 (ae (J 0) (ae (U (.int 20)) (av))))) (av))) (fi [none]) (dD 0) (fM) (ah iB (ah c3 (U (.int 90)) (J 0)) (U (.int 256)))) (av))) (av))))) (av)))) (aq (bP (J 1)) (aG))))))
noncomputable def vM:b4:=e2 vJ 1 3
noncomputable def Ir:ck:=aq (iE (J 7) (ah bf (J 0) (U (.str "octets"))) (b5 (ae (J 3) (ae (ah c3 (J 4) (J 6)) (av))))) (aG)
noncomputable def It:ck:=aq (b9 (boolOf (ah gF (ah bf (J 2) (U (.int 0))) (b5 (ae (U (.str "stream")) (ae (U (.str "crypto")) (av)))))) (aq (gC (eA [3,4,5]) (ft (boolOf (ah cP (ah bf (J 2) (U (.int 0))) (U (.str "stream")))) (b5 (ae (ah bf (J 2) (U (.int 1))) (ae (ah bf (J 2) (U (.int 2))) (ae (ah bf (J 2) (U (.int 3))) (av))))) (b5 (ae (U (.str "crypto")) (ae (ah bf (J 2) (U (.int 1))) (ae (ah bf (J 2) (U (.int 2))) (av))))))) (aq (pz (J 5) (eA [6,7]) Ir) (aq (b9 (gk (boolOf (ah cP (ah bf (J 2) (U (.int 0))) (U (.str "stream")))) (gk (boolOf (ah bf (J 2) (U (.int 4)))) (fM))) (aq (iE (ah c3 (J 4) (bq f' (ae (J 5) (av)))) (ah bf (J 0) (U (.str "ends"))) (J 3)) (aG)) (aG)) (aG)))) (aq (eB (ek eJ f7 (ah bf (J 0) (U (.str "came"))) (ae (J 2) (av)))) (aG))) (aG)
noncomputable def yz:ck:=aq (gp (J 1) (dD 2) It) (aG)
noncomputable def nI:b4:=e2 yz 2 6
noncomputable def Iw:ck:=aq (iE (J 8) (J 2) (b5 (ae (J 5) (ae (J 7) (av))))) (aG)
noncomputable def Iy:ck:=aq (b9 (boolOf (ah gF (ah bf (J 4) (U (.int 0))) (b5 (ae (U (.str "stream")) (ae (U (.str "crypto")) (av)))))) (aq (gC (eA [5,6]) (ft (boolOf (ah cP (ah bf (J 4) (U (.int 0))) (U (.str "stream")))) (b5 (ae (ah bf (J 4) (U (.int 1))) (ae (ah bf (J 4) (U (.int 3))) (av)))) (b5 (ae (U (.str "crypto")) (ae (ah bf (J 4) (U (.int 2))) (av)))))) (aq (pz (J 6) (eA [7,8]) Iw) (aq (b9 (boolOf (ah cP (ah bf (J 4) (U (.int 0))) (U (.str "stream")))) (aq (iE (bq f' (ae (J 6) (av))) (J 3) (J 5)) (aG)) (aG)) (aG)))) (aG)) (aG)
noncomputable def yC:ck:=aq (gC (eA [2,3]) (b5 (ae (hW (.cv [])) (ae (hW (.cJ [])) (av))))) (aq (gp (J 1) (dD 4) Iy) (aq (bP (oA (ah cP (ah bf (J 0) (U (.str "octets"))) (J 2)) (ah cP (ah bf (J 0) (U (.str "ends"))) (J 3)))) (aG)))
noncomputable def vN:b4:=e2 yC 2 7
noncomputable def Iv:ck:=aq (b9 (dt (boolOf (ah cP (J 6) (d' (av)))) (dt (boolOf (ah kr (bq th (ae (gx (J 6) (fi [none]) (dD 0) (fM) (bq f' (ae (bq o' (ae (J 0) (av))) (av)))) (av))) (J 3))) (gy))) (aq (bP (U (.bool false))) (aG)) (aG)) (aq (cC 7 (ah bf (d' (ae (U (.str "loss")) (ae (U (.str "probe")) (ae (U (.str "ack")) (ae (U (.str "path")) (ae (U (.str "idle")) (ae (U (.str "closed")) (av)))))))) (ah iB (bq f' (ae (ah bf (J 1) (U (.str "flying"))) (av))) (U (.int 6))))) (aq (b9 (boolOf (ah ku (mn vW (ah bf (J 1) (U (.str "alarms"))) (ae (J 7) (av))) (U (.none)))) (aq (eB (mn rX (ah bf (J 1) (U (.str "alarms"))) (ae (J 7) (ae (ah c3 (ah c3 (J 4) (U (.int 5))) (bq h7 (ae (J 0) (ae (U (.int 30)) (av))))) (av))))) (aq (eB (ek eJ f7 (ah bf (J 1) (U (.str "flying"))) (ae (b5 (ae (J 7) (ae (J 6) (av)))) (av)))) (aG))) (aq (eB (bq nI (ae (J 1) (ae (J 6) (av))))) (aG))) (aq (eB (ek eJ pv (ah bf (J 1) (U (.str "told"))) (ae (J 6) (av)))) (aG))))
noncomputable def yB:ck:=aq (cC 5 (bq vS (ae (J 2) (ae (J 3) (av))))) (aq (b9 (boolOf (ah ku (J 5) (U (.none)))) (aq (bP (U (.bool false))) (aG)) (aG)) (aq (gp (J 5) (dD 6) Iv) (aq (bP (U (.bool true))) (aG))))
noncomputable def rU:b4:=e2 yB 5 3
noncomputable def ID:ck:=aq (cC 14 (ah bf (gx (ah bf (J 7) (U (.str "flying"))) (fi [none,some 13]) (dD 0) (boolOf (ah cP (ah bf (J 0) (U (.int 0))) (J 1))) (ah bf (J 0) (U (.int 1)))) (U (.int 0)))) (aq (iE (qR (ah bf (J 7) (U (.str "flying"))) (fi [none,some 13]) (dD 0) (boolOf (ah gY (ah bf (J 0) (U (.int 0))) (J 1))) (J 0)) (J 7) (U (.str "flying"))) (aq (b9 (dt (gk (boolOf (ah k2 (J 9) (U (.int 4)))) (gk (boolOf (ah kr (bq h7 (ae (J 1) (ae (U (.int 3)) (av)))) (U (.int 0)))) (fM))) (dt (boolOf (ah cP (J 9) (U (.int 0)))) (gy))) (aq (eB (ek eJ pv (J 12) (ae (J 14) (av)))) (aG)) (aq (eB (bq nI (ae (J 7) (ae (J 14) (av))))) (aG))) (aG)))
noncomputable def IE:ck:=aq (cC 10 (bq rY (ae (l9 (ah bf (J 7) (U (.str "alarms")))) (av)))) (aq (b9 (boolOf (ah ku (J 10) (U (.none)))) (aq (wi) (aG)) (aG)) (aq (b9 (dt (boolOf (ah k2 (ah bf (J 10) (U (.int 0))) (J 4))) (dt (boolOf (ah gY (ah bf (J 10) (U (.int 0))) (mn vU (ah bf (J 7) (U (.str "alarms"))) (av)))) (gy))) (aq (bP (U (.bool false))) (aG)) (aG)) (aq (cC 4 (ah bf (J 10) (U (.int 0)))) (aq (cC 11 (mn vV (ah bf (J 7) (U (.str "alarms"))) (ae (J 4) (av)))) (aq (b9 (dt (boolOf (ah cP (J 11) (d' (av)))) (dt (boolOf (ah gY (ah bf (J 11) (U (.int 0))) (ah bf (J 10) (U (.int 1))))) (gy))) (aq (bP (U (.bool false))) (aG)) (aG)) (aq (cC 12 (hI (av))) (aq (gp (J 11) (dD 13) ID) (aq (cC 8 (ah c3 (bq v3 (ae (J 12) (ae (mT (.cv []) (h9 (b5 (ae (U (.str "max_data")) (ae (U (.none)) (av)))) (U (.int 33)) (mr))) (ae (J 6) (ae (J 5) (av)))))) (bq vR (ae (J 12) (av))))) (aq (b9 (dt (boolOf (ah rg (gx (J 8) (fi [none]) (dD 0) (boolOf (ah cP (ah bf (J 0) (U (.int 0))) (U (.str "max_data")))) (J 0)) (b5 (ae (d' (av)) (ae (d' (ae (b5 (ae (U (.str "max_data")) (ae (U (.int 33)) (av)))) (av))) (av)))))) (dt (boolOf (ah gF (b5 (ae (U (.str "path_challenge")) (ae (U (.bytes pg)) (av)))) (J 8))) (gy))) (aq (bP (U (.bool false))) (aG)) (aG)) (aq (b9 (dt (gk (boolOf (ah gF (b5 (ae (U (.str "data_blocked")) (ae (U (.int 9)) (av)))) (J 8))) (gk (boolOf (ah cP (J 6) (hW (.cv [])))) (fM))) (dt (gk (boolOf (ah gF (b5 (ae (U (.str "stop_sending")) (ae (U (.int 4)) (ae (U (.int 7)) (av))))) (J 8))) (gk (boolOf (ah gY (J 5) (hW (.cv [])))) (fM))) (gy))) (aq (bP (U (.bool false))) (aG)) (aG)) (aq (b9 (pY (boolOf (bq rU (ae (J 1) (ae (J 7) (ae (J 8) (ae (J 3) (ae (J 4) (av))))))))) (aq (bP (U (.bool false))) (aG)) (aG)) (aG))))))))))))
noncomputable def IF:ck:=aq (eB (bq nI (ae (J 7) (ae (J 14) (av))))) (aG)
noncomputable def vK:ck:=aq (cC 0 (gx (j' (J 0) (U .none) (U (.int 24))) (fi [none]) (dD 0) (fM) (bq Fw (ae (J 0) (av))))) (aq (cC 1 (hI (ae (ah iB (bq th (ae (J 0) (av))) (U (.int 2147483647))) (ae (J 0) (ae (U (.int 0)) (av)))))) (aq (gC (eA [2,3,4]) (b5 (ae (bq vM (ae (J 1) (av))) (ae (ah c3 (U (.int 32)) (bq h7 (ae (J 1) (ae (U (.int 20)) (av))))) (ae (U (.int 0)) (av)))))) (aq (cC 5 (ft (boolOf (ah cP (bq h7 (ae (J 1) (ae (U (.int 2)) (av)))) (U (.int 0)))) (mT (.cv []) (h9 (b5 (ae (U (.str "stop_sending")) (ae (U (.int 4)) (av)))) (U (.bool true)) (mr))) (hW (.cv [])))) (aq (cC 6 (ft (boolOf (ah cP (bq h7 (ae (J 1) (ae (U (.int 2)) (av)))) (U (.int 0)))) (mT (.cv []) (h9 (b5 (ae (U (.str "data_blocked")) (ae (U (.none)) (av)))) (U (.int 9)) (mr))) (hW (.cv [])))) (aq (cC 7 (mT (.cJ []) (h9 (U (.str "flying")) (hI (av)) (h9 (U (.str "came")) (hI (av)) (h9 (U (.str "told")) (hI (av)) (h9 (U (.str "octets")) (hW (.cv [])) (h9 (U (.str "ends")) (hW (.cJ [])) (h9 (U (.str "alarms")) (xn) (mr))))))))) (aq (b9 (pY (boolOf (bq rU (ae (J 1) (ae (J 7) (ae (J 2) (ae (J 3) (ae (J 4) (av))))))))) (aq (bP (U (.bool false))) (aG)) (aG)) (aq (cC 8 (d' (av))) (aq (gp (bq oe (ae (U (.int 12)) (av))) (dD 9) IE) (aq (gp (ah bf (J 7) (U (.str "flying"))) (eA [13,14]) IF) (aq (gC (eA [15,16]) (bq rW (ae (d' (ae (b5 (ae (U (.str "crypto")) (ae (U (.int 0)) (ae (bq hH (ae (U (.int 9)) (av))) (av))))) (ae (b5 (ae (U (.str "ping")) (av))) (av)))) (ae (U (.int 8)) (av))))) (aq (b9 (dt (pY (boolOf (bq vN (ae (J 7) (ae (J 2) (av)))))) (dt (boolOf (ah gY (J 15) (d' (ae (b5 (ae (U (.str "crypto")) (ae (U (.int 0)) (ae (bq hH (ae (U (.int 5)) (av))) (av))))) (av))))) (dt (boolOf (ah gY (J 16) (d' (ae (b5 (ae (U (.str "crypto")) (ae (U (.int 5)) (ae (bq hH (ae (U (.int 4)) (av))) (av))))) (ae (b5 (ae (U (.str "ping")) (av))) (av)))))) (gy)))) (aq (bP (U (.bool false))) (aG)) (aG)) (aq (b9 (boolOf (ah gY (ek eJ zw (ah bf (J 7) (U (.str "told"))) (ae (b5 (ae (U (.str "path_challenge")) (ae (U (.bytes pg)) (av)))) (av))) (U (.int 1)))) (aq (bP (U (.bool false))) (aG)) (aG)) (aq (cC 17 (gx (J 2) (fi [none]) (dD 0) (boolOf (ah cP (ah bf (J 0) (U (.int 0))) (U (.str "new_connection_id")))) (J 0))) (aq (bP (oA (ah gF (ah bf (J 17) (U (.int 0))) (ah bf (J 7) (U (.str "came")))) (ah gY (gx (ah bf (J 7) (U (.str "came"))) (fi [none]) (dD 0) (boolOf (ah cP (ah bf (J 0) (U (.int 0))) (U (.str "max_data")))) (J 0)) (d' (av))))) (aG)))))))))))))))
noncomputable def y6:b4:=e2 vK 1 17
end Internal
namespace Internal
open PySem PySem.W PyProof.Rows PySem.Calls
section
variable{prog:cD}{w:cm}{h₁:a9}{k:Nat}
theorem DW(B:b3 (KK w.params) h₁):OpOk prog w h₁ (k+1) (λvs=>cF (.ref 25) vs) tM:=by
 have ai:∀aZ,SOk prog w h₁ (c9 Ed aZ 25) ["kind"] (k+0) (dr De (c9 Ed aZ 25)) Cd:=by
  intro aZ
  unfold Cd De pick
  refine aX ?_ ?_
  .refine dM (cq (aw (by rfl)) (Ve B) kx) ?_ ?_
   .refine aX ?_ ?_
    .exact de (b6)
    exact bu
   .exact bu
  refine aX ?_ ?_
  .refine dM (cq (aw (by rfl)) (Vj B) kx) ?_ ?_
   .refine aX ?_ ?_
    .exact de (b6)
    exact bu
   .exact bu
  refine aX ?_ ?_
  .refine dM (cq (aw (by rfl)) (Vm B) kx) ?_ ?_
   .refine aX ?_ ?_
    .exact de (b6)
    exact bu
   .exact bu
  refine aX ?_ ?_
  .exact de (jF (cq (aw (by rfl)) (Vw B) kx) (b6) (b6))
  exact bu
 exact gn (xs:=["kind"]) (m:=0) B (B.X _ _ (Au w.params)) rfl (fz B.X (by kernel_rfl)) rfl (jX λ_=>rfl) rfl ⟨_,rfl⟩ (by decide) (by decide) (by decide) ai
theorem DV(B:b3 (KK w.params) h₁):OpOk prog w h₁ (k+1) (λvs=>cF (.ref 32) vs) tL:=by
 have ai:∀aZ,SOk prog w h₁ (c9 El aZ 32) ["frame","kind"] (k+0) (dr Dm (c9 El aZ 32)) Cc:=by
  intro aZ
  unfold Cc Dm pick
  refine aX ?_ ?_
  .exact eF (cg (aw (by rfl)) (bk)) (by rfl) (by decide) (.inl rfl)
  refine aX ?_ ?_
  .refine dM (cq (aw (by rfl)) (c7 (aA (b6) (aA (b6) (aA (b6) (aA (b6) (aS)))))) kx) ?_ ?_
   .refine aX ?_ ?_
    .exact de (c7 (aA (aw (by rfl)) (aA (cg (aw (by rfl)) (bk)) (aS))))
    exact bu
   .exact bu
  refine aX ?_ ?_
  .refine dM (cq (aw (by rfl)) (c7 (aA (b6) (aA (b6) (aS)))) kx) ?_ ?_
   .refine aX ?_ ?_
    .exact de (c7 (aA (aw (by rfl)) (aA (cg (aw (by rfl)) (bk)) (aS))))
    exact bu
   .exact bu
  refine aX ?_ ?_
  .refine dM (cq (aw (by rfl)) (c7 (aA (b6) (aA (b6) (aS)))) kx) ?_ ?_
   .refine aX ?_ ?_
    .exact de (c7 (aA (aw (by rfl)) (aA (cg (aw (by rfl)) (bk)) (aS))))
    exact bu
   .exact bu
  refine aX ?_ ?_
  .refine dM (cq (aw (by rfl)) (b6) eO) ?_ ?_
   .refine aX ?_ ?_
    .exact de (c7 (aA (aw (by rfl)) (aA (cg (aw (by rfl)) (bk)) (aS))))
    exact bu
   .exact bu
  refine aX ?_ ?_
  .exact de (c7 (aA (aw (by rfl)) (aA (hJ) (aS))))
  exact bu
 exact gn (xs:=["frame"]) (m:=1) B (B.X _ _ (Aw w.params)) rfl (fz B.X (by kernel_rfl)) rfl (jX λ_=>rfl) rfl ⟨_,rfl⟩ (by decide) (by decide) (by decide) ai
theorem UD(B:b3 (KK w.params) h₁):OpOk prog w h₁ (k+2) (λvs=>cF (.ref 49) vs) vR:=by
 have ai:∀aZ,SOk prog w h₁ (c9 Eo aZ 49) ["lost"] (k+1) (dr Dq (c9 Eo aZ 49)) yJ:=by
  intro aZ
  unfold yJ Dq pick
  refine aX ?_ ?_
  .exact de (mV (ns':=["frame"]) (aw (by rfl)) (by first|rfl|kernel_rfl) (λ_=>ko) (by decide) (by rfl) (by decide) (λ_=>gP (by rfl) (by decide) (.inl rfl)) (λ_=>qL (cq (cZ (B.X _ _ (Au w.params)) rfl (EG B) (aA (cg (aw (by rfl)) (bk)) (aS)) (DW (k:=k+0) B)) (b6) eO)) (λ_=>aw (by rfl)))
  exact bu
 exact gn (xs:=["lost"]) (m:=0) B (B.X _ _ (M3 w.params)) rfl (fz B.X (by kernel_rfl)) rfl (jX λ_=>rfl) rfl ⟨_,rfl⟩ (by decide) (by decide) (by decide) ai
end
end Internal
namespace Internal
open PySem PySem.W PyProof.Rows PySem.Calls
section
variable{prog:cD}{w:cm}{h₁:a9}{k:Nat}
theorem UL(B:b3 (KK w.params) h₁):OpOk prog w h₁ (k+2) (λvs=>cF (.ref 37) vs) vX:=by
 have ai:∀aZ,SOk prog w h₁ (jA Em aZ 37) ["frames","last","place","frame"] (k+1) (dr Dn (jA Em aZ 37)) yP:=by
  intro aZ
  unfold yP Dn pick
  refine aX ?_ ?_
  .exact eF (nQ (.t)) (by rfl) (by decide) (.inl rfl)
  refine aX ?_ ?_
  .refine GJ (EC B) (aw (by rfl)) (jO (.cons (by rfl) (.inl rfl) (.cons (by rfl) (.inl rfl) (.nil))) (by decide)) ?_
   .unfold IH
    refine aX ?_ ?_
    .exact p7 (aw (by rfl)) (aw (by rfl)) (cZ (B.X _ _ (Aw w.params)) rfl (EF B) (aA (aw (by rfl)) (aS)) (DV (k:=k+0) B))
    exact bu
  refine aX ?_ ?_
  .exact de (mV (ns':=["place","frames"]) (Um (LG B) (aw (by rfl))) (by first|rfl|kernel_rfl) (λ_=>ko) (by decide) (by rfl) (by decide) (λ_=>gP (by rfl) (by decide) (.inl rfl)) (λ_=>qK) (λ_=>cg (aw (by rfl)) (aw (by rfl))))
  exact bu
 exact zH (xs:=["frames"]) (m:=3) B (B.X _ _ (M0 w.params)) rfl (fz B.X (by kernel_rfl)) rfl (jX λ_=>rfl) rfl ⟨_,rfl⟩ (by decide) (by decide) ai
theorem UQ(B:b3 (KK w.params) h₁):OpOk prog w h₁ (k+3) (λvs=>cF (.ref 44) vs) v3:=by
 have ai:∀aZ,SOk prog w h₁ (c9 En aZ 44) ["lost","limits","blocked","done","found","frame","way","subject"] (k+2) (dr Dp (c9 En aZ 44)) yZ:=by
  intro aZ
  unfold yZ Dp pick
  refine aX ?_ ?_
  .exact eF (lp (aS)) (by rfl) (by decide) (.inl rfl)
  refine aX ?_ ?_
  .refine lH (aw (by rfl)) (gP (by rfl) (by decide) (.inl rfl)) ?_
   .unfold IK
    refine aX ?_ ?_
    .first
      |exact my (c7 (aA (cZ (B.X _ _ (Au w.params)) rfl (EG B) (aA (cg (aw (by rfl)) (bk)) (aS)) (DW (k:=k+1) B)) (aA (cZ (B.X _ _ (Aw w.params)) rfl (EF B) (aA (aw (by rfl)) (aS)) (DV (k:=k+1) B)) (aS)))) (jO (.cons (by rfl) (.inl rfl) (.cons (by rfl) (.inl rfl) (.nil))) (by decide))
      |exact mx (xs:=["way","subject"]) (c7 (aA (cZ (B.X _ _ (Au w.params)) rfl (EG B) (aA (cg (aw (by rfl)) (bk)) (aS)) (DW (k:=k+1) B)) (aA (cZ (B.X _ _ (Aw w.params)) rfl (EF B) (aA (aw (by rfl)) (aS)) (DV (k:=k+1) B)) (aS)))) (by rfl) (by repeat (first|exact eg _|refine b0.mpr ⟨.inl rfl,?_⟩|refine b0.mpr ⟨.inr ⟨rfl,rfl,rfl⟩,?_⟩)) (by decide) (by decide)
    refine aX ?_ ?_
    .refine dM (jg (gM (cq (aw (by rfl)) (aw (by rfl)) kx) (gM (cq (aw (by rfl)) (b6) eO) (gM (cq (aw (by rfl)) (b6) eO) (ma))))) ?_ ?_
     .refine aX ?_ ?_
      .exact adP
      exact bu
     .exact bu
    refine aX ?_ ?_
    .refine dM (cq (aw (by rfl)) (b6) eO) ?_ ?_
     .refine aX ?_ ?_
      .exact i9 (ie kK lS mD kA (aw (by rfl)) (aA (aw (by rfl)) (aS)) mu)
      exact bu
     .refine aX ?_ ?_
      .refine dM (cq (aw (by rfl)) (b6) eO) ?_ ?_
       .refine aX ?_ ?_
        .exact i9 (ie kK lS mD kA (aw (by rfl)) (aA (dE (qV (aw (by rfl)) (rk) (rl (ua (bk) uP))) (c7 (aA (ie yl vC BS ae4 (aw (by rfl)) (aA (aw (by rfl)) (aA (cg (aw (by rfl)) (ua (bk) uP)) (aS))) Ze) (aS))) fW) (aS)) mu)
        exact bu
       .refine aX ?_ ?_
        .refine dM (cq (aw (by rfl)) (aw (by rfl)) kx) ?_ ?_
         .refine aX ?_ ?_
          .exact i9 (ie kK lS mD kA (aw (by rfl)) (aA (dE (qV (aw (by rfl)) (rk) (rl (ua (bk) uP))) (c7 (aA (cg (aw (by rfl)) (aw (by rfl))) (aS))) fW) (aS)) mu)
          exact bu
         .exact bu
        exact bu
      exact bu
    exact bu
  refine aX ?_ ?_
  .exact de (cZ (B.X _ _ (M0 w.params)) rfl (VG B) (aA (aw (by rfl)) (aS)) (UL (k:=k+0) B))
  exact bu
 exact gn (xs:=["lost","limits","blocked","done"]) (m:=4) B (B.X _ _ (M1 w.params)) rfl (fz B.X (by kernel_rfl)) rfl (Jh λ_ _ _ _=>rfl) rfl ⟨_,rfl⟩ (by decide) (by decide) (by decide) ai
end
end Internal
namespace Internal
open PySem PySem.W PyProof.Rows PySem.Calls
section
variable{prog:cD}{w:cm}{h₁:a9}{k:Nat}
theorem UP(B:b3 (KK w.params) h₁):OpOk prog w h₁ (k+1) (λvs=>cF (.ref 77) vs) tK:=by
 have ai:∀aZ,SOk prog w h₁ (c9 Ep aZ 77) ["n","size","found","place"] (k+0) (dr Dr (c9 Ep aZ 77)) yY:=by
  intro aZ
  unfold yY Dr pick
  refine aX ?_ ?_
  .refine dM (jg (gM (cq (aw (by rfl)) (bk) tc) (gM (cq (dE (aw (by rfl)) (dE (bk) (aw (by rfl)) xu) Zj) (bk) n') (ma)))) ?_ ?_
   .refine aX ?_ ?_
    .exact AZ
    exact bu
   .exact bu
  refine aX ?_ ?_
  .exact eF (ib (VA B) (aA (aw (by rfl)) (aS)) Y') (by rfl) (by decide) (.inl rfl)
  refine aX ?_ ?_
  .refine lH (ib (wG B) (aA (dE (aw (by rfl)) (bk) AJ) (aA (ua (bk) uP) (aA (ua (bk) uP) (aS)))) xv) (gP (by rfl) (by decide) (.inl rfl)) ?_
   .unfold IJ
    refine aX ?_ ?_
    .exact adR (dE (aw (by rfl)) (bk) pZ) (aw (by rfl)) (aw (by rfl))
    refine aX ?_ ?_
    .exact eF (dE (aw (by rfl)) (bk) NI) (by rfl) (by decide) (.inl rfl)
    exact bu
  refine aX ?_ ?_
  .exact de (ib (nS B) (aA (aw (by rfl)) (aS)) Za)
  exact bu
 exact gn (xs:=["n","size"]) (m:=2) B (B.X _ _ (M4 w.params)) rfl (fz B.X (by kernel_rfl)) rfl (l8 λ_ _=>rfl) rfl ⟨_,rfl⟩ (by decide) (by decide) (by decide) ai
theorem UR(B:b3 (KK w.params) h₁):OpOk prog w h₁ (k+1) (λvs=>cF (.ref 84) vs) v5:=by
 have ai:∀aZ,SOk prog w h₁ (c9 Er aZ 84) ["n","size"] (k+0) (dr Ds (c9 Er aZ 84)) y0:=by
  intro aZ
  unfold y0 Ds pick
  refine aX ?_ ?_
  .refine lH (Ez B) (gP (by rfl) (by decide) (.inl rfl)) ?_
   .unfold IL
    refine aX ?_ ?_
    .refine dM (RI (bk) (aw (by rfl)) (dE (bk) (dE (dE (bk) (aw (by rfl)) xu) (bk) AJ) NM) Ga tc) ?_ ?_
     .refine aX ?_ ?_
      .exact de (aw (by rfl))
      exact bu
     .exact bu
    exact bu
  refine aX ?_ ?_
  .exact AZ
  exact bu
 exact gn (xs:=["n"]) (m:=1) B (B.X _ _ (M5 w.params)) rfl (fz B.X (by kernel_rfl)) rfl (jX λ_=>rfl) rfl ⟨_,rfl⟩ (by decide) (by decide) (by decide) ai
theorem KA(B:b3 (KK w.params) h₁):OpOk prog w h₁ (k+2) (λvs=>cF (.ref 91) vs) rZ:=by
 have ai:∀aZ,SOk prog w h₁ (c9 Es aZ 91) ["n","size","least"] (k+1) (dr Dt (c9 Es aZ 91)) yX:=by
  intro aZ
  unfold yX Dt pick
  refine aX ?_ ?_
  .exact eF (cZ (B.X _ _ (M5 w.params)) rfl (VM B) (aA (aw (by rfl)) (aS)) (UR (k:=k+0) B)) (by rfl) (by decide) (.inl rfl)
  refine aX ?_ ?_
  .refine dM (cq (aw (by rfl)) (hJ) s') ?_ ?_
   .refine aX ?_ ?_
    .exact eF (aw (by rfl)) (by rfl) (by decide) (.inl rfl)
    exact bu
   .exact bu
  refine aX ?_ ?_
  .refine dM (jg (gM (cq (aw (by rfl)) (aw (by rfl)) tc) (gM (cq (aw (by rfl)) (Ez B) Gd) (ma)))) ?_ ?_
   .refine aX ?_ ?_
    .exact AZ
    exact bu
   .exact bu
  refine aX ?_ ?_
  .exact de (cZ (B.X _ _ (M4 w.params)) rfl (VK B) (aA (dE (dE (ie PySem.F.plainAttrs_tuple Hw PySem.F.type_tuple_index Po (Ez B) (aA (aw (by rfl)) (aS)) NJ) (dE (dE (bk) (aw (by rfl)) xu) (bk) AJ) NM) (aw (by rfl)) Zi) (aA (aw (by rfl)) (aS))) (UP (k:=k+0) B))
  exact bu
 exact gn (xs:=["n","size"]) (m:=1) B (B.X _ _ (FU w.params)) rfl (fz B.X (by kernel_rfl)) rfl (l8 λ_ _=>rfl) rfl ⟨_,rfl⟩ (by decide) (by decide) (by decide) ai
theorem qY(B:b3 (KK w.params) h₁):OpOk prog w h₁ (k+3) (λvs=>cF (.ref 97) vs) iv:=by
 have ai:∀aZ,SOk prog w h₁ (c9 Et aZ 97) ["numbers"] (k+2) (dr Du (c9 Et aZ 97)) yU:=by
  intro aZ
  unfold yU Du pick
  refine aX ?_ ?_
  .exact de (ie Si JA Sk ae3 (t') (aA (mV (ns':=["number"]) (aw (by rfl)) (by first|rfl|kernel_rfl) (λ_=>ko) (by decide) (by rfl) (by decide) (λ_=>gP (by rfl) (by decide) (.inl rfl)) (λ_=>qK) (λ_=>cZ (B.X _ _ (FU w.params)) rfl (LF B) (aA (aw (by rfl)) (aA (hJ) (aS))) (KA (k:=k+0) B))) (aS)) Zg)
  exact bu
 exact gn (xs:=["numbers"]) (m:=0) B (B.X _ _ (pU w.params)) rfl (fz B.X (by kernel_rfl)) rfl (jX λ_=>rfl) rfl ⟨_,rfl⟩ (by decide) (by decide) (by decide) ai
theorem DU(B:b3 (KK w.params) h₁):OpOk prog w h₁ (k+3) (λvs=>cF (.ref 104) vs) mK:=by
 have ai:∀aZ,SOk prog w h₁ (c9 DX aZ 104) ["data"] (k+2) (dr CW (c9 DX aZ 104)) yR:=by
  intro aZ
  unfold yR CW pick
  refine aX ?_ ?_
  .exact de (dE (cZ (B.X _ _ (FU w.params)) rfl (LF B) (aA (j0 (mW B) (aA (aw (by rfl)) (aS)) m') (aA (hJ) (aS))) (KA (k:=k+0) B)) (aw (by rfl)) fW)
  exact bu
 exact gn (xs:=["data"]) (m:=0) B (B.X _ _ (Ar w.params)) rfl (fz B.X (by kernel_rfl)) rfl (jX λ_=>rfl) rfl ⟨_,rfl⟩ (by decide) (by decide) (by decide) ai
end
end Internal
namespace Internal
open PySem PySem.W PyProof.Rows PySem.Calls
section
variable{prog:cD}{w:cm}{h₁:a9}{k:Nat}
theorem UO(B:b3 (KK w.params) h₁):OpOk prog w h₁ (k+4) (λvs=>cF (.ref 125) vs) vZ:=by
 have ai:∀aZ,SOk prog w h₁ (c9 DY aZ 125) ["f","is_last","kind","number","offset","data","fin","told","head"] (k+3) (dr CX (c9 DY aZ 125)) yW:=by
  intro aZ
  unfold yW CX pick
  refine aX ?_ ?_
  .first
    |exact my (aw (by rfl)) (jO (.cons (by rfl) (.inl rfl) (.cons (by rfl) (.inl rfl) (.cons (by rfl) (.inl rfl) (.cons (by rfl) (.inl rfl) (.cons (by rfl) (.inl rfl) (.nil)))))) (by decide))
    |exact mx (xs:=["kind","number","offset","data","fin"]) (aw (by rfl)) (by rfl) (by repeat (first|exact eg _|refine b0.mpr ⟨.inl rfl,?_⟩|refine b0.mpr ⟨.inr ⟨rfl,rfl,rfl⟩,?_⟩)) (by decide) (by decide)
  refine aX ?_ ?_
  .exact eF (dE (dE (dE (Vt B) (jF (ph (aw (by rfl))) (Vg B) (bk)) fW) (jF (ph (aw (by rfl))) (bk) (Vh B)) fW) (jF (cq (aw (by rfl)) (bk) s9) (Vi B) (bk)) fW) (by rfl) (by decide) (.inl rfl)
  refine aX ?_ ?_
  .exact eF (cZ (B.X _ _ (pU w.params)) rfl (qZ B) (aA (dE (ic (aA (aw (by rfl)) (aA (aw (by rfl)) (aS)))) (jF (cq (aw (by rfl)) (bk) s9) (ic (aA (aw (by rfl)) (aS))) (ic (aS))) fW) (aS)) (qY (k:=k+0) B)) (by rfl) (by decide) (.inl rfl)
  refine aX ?_ ?_
  .exact de (dE (aw (by rfl)) (jF (ph (aw (by rfl))) (aw (by rfl)) (cZ (B.X _ _ (Ar w.params)) rfl (EE B) (aA (aw (by rfl)) (aS)) (DU (k:=k+0) B))) fW)
  exact bu
 exact gn (xs:=["f","is_last"]) (m:=7) B (B.X _ _ (MP w.params)) rfl (fz B.X (by kernel_rfl)) rfl (l8 λ_ _=>rfl) rfl ⟨_,rfl⟩ (by decide) (by decide) (by decide) ai
theorem UM(B:b3 (KK w.params) h₁):OpOk prog w h₁ (k+4) (λvs=>cF (.ref 132) vs) vY:=by
 have ai:∀aZ,SOk prog w h₁ (c9 DZ aZ 132) ["f","kind","sequence","retire_prior","cid","token"] (k+3) (dr CY (c9 DZ aZ 132)) yT:=by
  intro aZ
  unfold yT CY pick
  refine aX ?_ ?_
  .first
    |exact my (aw (by rfl)) (jO (.cons (by rfl) (.inl rfl) (.cons (by rfl) (.inl rfl) (.cons (by rfl) (.inl rfl) (.cons (by rfl) (.inl rfl) (.cons (by rfl) (.inl rfl) (.nil)))))) (by decide))
    |exact mx (xs:=["kind","sequence","retire_prior","cid","token"]) (aw (by rfl)) (by rfl) (by repeat (first|exact eg _|refine b0.mpr ⟨.inl rfl,?_⟩|refine b0.mpr ⟨.inr ⟨rfl,rfl,rfl⟩,?_⟩)) (by decide) (by decide)
  refine aX ?_ ?_
  .exact de (dE (dE (dE (cZ (B.X _ _ (pU w.params)) rfl (qZ B) (aA (ic (aA (Vp B) (aA (aw (by rfl)) (aA (aw (by rfl)) (aS))))) (aS)) (qY (k:=k+0) B)) (ib (nS B) (aA (ic (aA (j0 (mW B) (aA (aw (by rfl)) (aS)) m') (aS))) (aS)) oT) fW) (aw (by rfl)) fW) (aw (by rfl)) fW)
  exact bu
 exact gn (xs:=["f"]) (m:=5) B (B.X _ _ (MQ w.params)) rfl (fz B.X (by kernel_rfl)) rfl (jX λ_=>rfl) rfl ⟨_,rfl⟩ (by decide) (by decide) (by decide) ai
theorem UN(B:b3 (KK w.params) h₁):OpOk prog w h₁ (k+4) (λvs=>cF (.ref 146) vs) tJ:=by
 have ai:∀aZ,SOk prog w h₁ (c9 D0 aZ 146) ["f","kind"] (k+3) (dr CZ (c9 D0 aZ 146)) yV:=by
  intro aZ
  unfold yV CZ pick
  refine aX ?_ ?_
  .exact eF (cg (aw (by rfl)) (bk)) (by rfl) (by decide) (.inl rfl)
  refine aX ?_ ?_
  .refine dM (cq (aw (by rfl)) (b6) eO) ?_ ?_
   .refine aX ?_ ?_
    .exact de (dE (cZ (B.X _ _ (pU w.params)) rfl (qZ B) (aA (ic (aA (Vk B) (aA (cg (aw (by rfl)) (bk)) (aS)))) (aS)) (qY (k:=k+0) B)) (cZ (B.X _ _ (Ar w.params)) rfl (EE B) (aA (cg (aw (by rfl)) (bk)) (aS)) (DU (k:=k+0) B)) fW)
    exact bu
   .exact bu
  refine aX ?_ ?_
  .refine dM (cq (aw (by rfl)) (b6) eO) ?_ ?_
   .refine aX ?_ ?_
    .exact de (dE (cZ (B.X _ _ (pU w.params)) rfl (qZ B) (aA (ic (aA (Vq B) (aS))) (aS)) (qY (k:=k+0) B)) (cZ (B.X _ _ (Ar w.params)) rfl (EE B) (aA (cg (aw (by rfl)) (bk)) (aS)) (DU (k:=k+0) B)) fW)
    exact bu
   .exact bu
  refine aX ?_ ?_
  .refine dM (jg (gM (cq (aw (by rfl)) (b6) eO) (gM (cq (aw (by rfl)) (b6) eO) (ma)))) ?_ ?_
   .refine aX ?_ ?_
    .exact de (dE (cZ (B.X _ _ (pU w.params)) rfl (qZ B) (aA (ic (aA (jF (cq (aw (by rfl)) (b6) eO) (Vr B) (Vs B)) (aS))) (aS)) (qY (k:=k+0) B)) (cg (aw (by rfl)) (bk)) fW)
    exact bu
   .exact bu
  refine aX ?_ ?_
  .refine dM (cq (aw (by rfl)) (b6) eO) ?_ ?_
   .refine aX ?_ ?_
    .exact de (cZ (B.X _ _ (pU w.params)) rfl (qZ B) (aA (ic (aA (jF (ph (cg (aw (by rfl)) (bk))) (Vo B) (Vn B)) (aA (cg (aw (by rfl)) (bk)) (aS)))) (aS)) (qY (k:=k+0) B))
    exact bu
   .exact bu
  refine aX ?_ ?_
  .refine dM (cq (aw (by rfl)) (b6) eO) ?_ ?_
   .refine aX ?_ ?_
    .exact de (cZ (B.X _ _ (pU w.params)) rfl (qZ B) (aA (ic (aA (jF (ph (cg (aw (by rfl)) (bk))) (Vv B) (Vu B)) (aA (cg (aw (by rfl)) (bk)) (aS)))) (aS)) (qY (k:=k+0) B))
    exact bu
   .exact bu
  refine aX ?_ ?_
  .exact de (hJ)
  exact bu
 exact gn (xs:=["f"]) (m:=1) B (B.X _ _ (MR w.params)) rfl (fz B.X (by kernel_rfl)) rfl (jX λ_=>rfl) rfl ⟨_,rfl⟩ (by decide) (by decide) (by decide) ai
theorem Kz(B:b3 (KK w.params) h₁):OpOk prog w h₁ (k+5) (λvs=>cF (.ref 153) vs) o':=by
 have ai:∀aZ,SOk prog w h₁ (c9 D1 aZ 153) ["f","kind","found"] (k+4) (dr C0 (c9 D1 aZ 153)) yS:=by
  intro aZ
  unfold yS C0 pick
  refine aX ?_ ?_
  .exact eF (cg (aw (by rfl)) (bk)) (by rfl) (by decide) (.inl rfl)
  refine aX ?_ ?_
  .refine dM (cq (aw (by rfl)) (b6) eO) ?_ ?_
   .refine aX ?_ ?_
    .exact de (ib (nS B) (aA (DM) (aS)) oT)
    exact bu
   .exact bu
  refine aX ?_ ?_
  .refine dM (cq (aw (by rfl)) (Lw B) kx) ?_ ?_
   .refine aX ?_ ?_
    .exact de (cZ (B.X _ _ (pU w.params)) rfl (qZ B) (aA (dE (ic (aA (cg (Lw B) (aw (by rfl))) (aS))) (ib (ED B) (aA (qV (aw (by rfl)) (rl (bk)) (rk)) (aS)) Gb) fW) (aS)) (qY (k:=k+1) B))
    exact bu
   .exact bu
  refine aX ?_ ?_
  .refine dM (cq (aw (by rfl)) (b6) eO) ?_ ?_
   .refine aX ?_ ?_
    .exact de (DM)
    exact bu
   .exact bu
  refine aX ?_ ?_
  .refine dM (cq (aw (by rfl)) (b6) eO) ?_ ?_
   .refine aX ?_ ?_
    .exact de (cZ (B.X _ _ (MP w.params)) rfl (VJ B) (aA (aw (by rfl)) (aA (jE) (aS))) (UO (k:=k+0) B))
    exact bu
   .exact bu
  refine aX ?_ ?_
  .refine dM (cq (aw (by rfl)) (b6) eO) ?_ ?_
   .refine aX ?_ ?_
    .exact de (cZ (B.X _ _ (MQ w.params)) rfl (VH B) (aA (aw (by rfl)) (aS)) (UM (k:=k+0) B))
    exact bu
   .exact bu
  refine aX ?_ ?_
  .refine dM (cq (aw (by rfl)) (b6) eO) ?_ ?_
   .refine aX ?_ ?_
    .exact de (DM)
    exact bu
   .exact bu
  refine aX ?_ ?_
  .exact eF (cZ (B.X _ _ (MR w.params)) rfl (VI B) (aA (aw (by rfl)) (aS)) (UN (k:=k+0) B)) (by rfl) (by decide) (.inl rfl)
  refine aX ?_ ?_
  .refine dM (cq (aw (by rfl)) (hJ) s') ?_ ?_
   .refine aX ?_ ?_
    .exact AZ
    exact bu
   .exact bu
  refine aX ?_ ?_
  .exact de (aw (by rfl))
  exact bu
 exact gn (xs:=["f"]) (m:=2) B (B.X _ _ (FL w.params)) rfl (fz B.X (by kernel_rfl)) rfl (jX λ_=>rfl) rfl ⟨_,rfl⟩ (by decide) (by decide) (by decide) ai
theorem wA(B:b3 (KK w.params) h₁):OpOk prog w h₁ (k+6) (λvs=>cF (.ref 160) vs) lj:=by
 have ai:∀aZ,SOk prog w h₁ (c9 D2 aZ 160) ["f"] (k+5) (dr C1 (c9 D2 aZ 160)) yI:=by
  intro aZ
  unfold yI C1 pick
  refine aX ?_ ?_
  .exact de (j0 (mW B) (aA (cZ (B.X _ _ (FL w.params)) rfl (LD B) (aA (aw (by rfl)) (aS)) (Kz (k:=k+0) B)) (aS)) m')
  exact bu
 exact gn (xs:=["f"]) (m:=0) B (B.X _ _ (uH w.params)) rfl (fz B.X (by kernel_rfl)) rfl (jX λ_=>rfl) rfl ⟨_,rfl⟩ (by decide) (by decide) (by decide) ai
end
end Internal
namespace Internal
open PySem PySem.W PyProof.Rows PySem.Calls
section
variable{prog:cD}{w:cm}{h₁:a9}{k:Nat}
theorem DT(B:b3 (KK w.params) h₁):OpOk prog w h₁ (k+1) (λvs=>cF (.ref 168) vs) rV:=by
 have ai:∀aZ,SOk prog w h₁ (c9 D3 aZ 168) ["frame"] (k+0) (dr C2 (c9 D3 aZ 168)) yF:=by
  intro aZ
  unfold yF C2 pick
  refine aX ?_ ?_
  .exact de (jF (cq (cg (aw (by rfl)) (bk)) (b6) eO) (cg (aw (by rfl)) (bk)) (cg (aw (by rfl)) (bk)))
  exact bu
 exact gn (xs:=["frame"]) (m:=0) B (B.X _ _ (As w.params)) rfl (fz B.X (by kernel_rfl)) rfl (jX λ_=>rfl) rfl ⟨_,rfl⟩ (by decide) (by decide) (by decide) ai
theorem wB(B:b3 (KK w.params) h₁):OpOk prog w h₁ (k+1) (λvs=>cF (.ref 175) vs) kk:=by
 have ai:∀aZ,SOk prog w h₁ (c9 D4 aZ 175) ["frame","skipped","data","fin"] (k+0) (dr C3 (c9 D4 aZ 175)) y2:=by
  intro aZ
  unfold y2 C3 pick
  refine aX ?_ ?_
  .refine dM (cq (cg (aw (by rfl)) (bk)) (b6) eO) ?_ ?_
   .refine aX ?_ ?_
    .exact de (c7 (aA (b6) (aA (dE (cg (aw (by rfl)) (bk)) (aw (by rfl)) fW) (aA (aw (by rfl)) (aS)))))
    exact bu
   .exact bu
  refine aX ?_ ?_
  .exact de (c7 (aA (b6) (aA (cg (aw (by rfl)) (bk)) (aA (dE (cg (aw (by rfl)) (bk)) (aw (by rfl)) fW) (aA (aw (by rfl)) (aA (aw (by rfl)) (aS)))))))
  exact bu
 exact gn (xs:=["frame","skipped","data","fin"]) (m:=0) B (B.X _ _ (uI w.params)) rfl (fz B.X (by kernel_rfl)) rfl (Jh λ_ _ _ _=>rfl) rfl ⟨_,rfl⟩ (by decide) (by decide) (by decide) ai
theorem Kw(B:b3 (KK w.params) h₁):OpOk prog w h₁ (k+7) (λvs=>cF (.ref 182) vs) vQ:=by
 have ai:∀aZ,SOk prog w h₁ (c9 D5 aZ 182) ["frame","room","data","many"] (k+6) (dr C4 (c9 D5 aZ 182)) yG:=by
  intro aZ
  unfold yG C4 pick
  refine aX ?_ ?_
  .exact eF (cZ (B.X _ _ (As w.params)) rfl (EB B) (aA (aw (by rfl)) (aS)) (DT (k:=k+5) B)) (by rfl) (by decide) (.inl rfl)
  refine aX ?_ ?_
  .refine dM (cq (cZ (B.X _ _ (uH w.params)) rfl (wF B) (aA (cZ (B.X _ _ (uI w.params)) rfl (wH B) (aA (aw (by rfl)) (aA (bk) (aA (t') (aA (jE) (aS))))) (wB (k:=k+5) B)) (aS)) (wA (k:=k+0) B)) (aw (by rfl)) s9) ?_ ?_
   .refine aX ?_ ?_
    .exact de (ua (bk) uP)
    exact bu
   .exact bu
  refine aX ?_ ?_
  .exact eF (j0 (VF B) (aA (j0 (mW B) (aA (aw (by rfl)) (aS)) m') (aA (dE (aw (by rfl)) (cZ (B.X _ _ (uH w.params)) rfl (wF B) (aA (cZ (B.X _ _ (uI w.params)) rfl (wH B) (aA (aw (by rfl)) (aA (bk) (aA (t') (aA (jE) (aS))))) (wB (k:=k+5) B)) (aS)) (wA (k:=k+0) B)) AJ) (aS))) Zh) (by rfl) (by decide) (.inl rfl)
  refine aX ?_ ?_
  .refine O0 (cq (cZ (B.X _ _ (uH w.params)) rfl (wF B) (aA (cZ (B.X _ _ (uI w.params)) rfl (wH B) (aA (aw (by rfl)) (aA (bk) (aA (qV (aw (by rfl)) (rk) (rl (aw (by rfl)))) (aA (jE) (aS))))) (wB (k:=k+5) B)) (aS)) (wA (k:=k+0) B)) (aw (by rfl)) s9) ?_
   .unfold IA
    refine aX ?_ ?_
    .exact OY (bk) NL (by rfl) (by decide) (by rfl)
    exact bu
  refine aX ?_ ?_
  .exact de (aw (by rfl))
  exact bu
 exact gn (xs:=["frame","room"]) (m:=2) B (B.X _ _ (FN w.params)) rfl (fz B.X (by kernel_rfl)) rfl (l8 λ_ _=>rfl) rfl ⟨_,rfl⟩ (by decide) (by decide) (by decide) ai
theorem Kv(B:b3 (KK w.params) h₁):OpOk prog w h₁ (k+8) (λvs=>cF (.ref 189) vs) vP:=by
 have ai:∀aZ,SOk prog w h₁ (c9 D6 aZ 189) ["frame","room","many","data","is_end"] (k+7) (dr C5 (c9 D6 aZ 189)) yE:=by
  intro aZ
  unfold yE C5 pick
  refine aX ?_ ?_
  .refine dM (cq (cZ (B.X _ _ (uH w.params)) rfl (wF B) (aA (aw (by rfl)) (aS)) (wA (k:=k+1) B)) (aw (by rfl)) Ga) ?_ ?_
   .refine aX ?_ ?_
    .exact de (c7 (aA (aw (by rfl)) (aA (hJ) (aS))))
    exact bu
   .exact bu
  refine aX ?_ ?_
  .refine dM (cq (cg (aw (by rfl)) (bk)) (Vl B) Gd) ?_ ?_
   .refine aX ?_ ?_
    .exact de (c7 (aA (hJ) (aA (aw (by rfl)) (aS))))
    exact bu
   .exact bu
  refine aX ?_ ?_
  .first
    |exact my (c7 (aA (cZ (B.X _ _ (FN w.params)) rfl (LA B) (aA (aw (by rfl)) (aA (aw (by rfl)) (aS))) (Kw (k:=k+0) B)) (aA (cZ (B.X _ _ (As w.params)) rfl (EB B) (aA (aw (by rfl)) (aS)) (DT (k:=k+6) B)) (aS)))) (jO (.cons (by rfl) (.inl rfl) (.cons (by rfl) (.inl rfl) (.nil))) (by decide))
    |exact mx (xs:=["many","data"]) (c7 (aA (cZ (B.X _ _ (FN w.params)) rfl (LA B) (aA (aw (by rfl)) (aA (aw (by rfl)) (aS))) (Kw (k:=k+0) B)) (aA (cZ (B.X _ _ (As w.params)) rfl (EB B) (aA (aw (by rfl)) (aS)) (DT (k:=k+6) B)) (aS)))) (by rfl) (by repeat (first|exact eg _|refine b0.mpr ⟨.inl rfl,?_⟩|refine b0.mpr ⟨.inr ⟨rfl,rfl,rfl⟩,?_⟩)) (by decide) (by decide)
  refine aX ?_ ?_
  .refine dM (jg (gM (cq (aw (by rfl)) (bk) tc) (gM (cq (aw (by rfl)) (j0 (mW B) (aA (aw (by rfl)) (aS)) m') Zd) (ma)))) ?_ ?_
   .refine aX ?_ ?_
    .exact de (c7 (aA (hJ) (aA (aw (by rfl)) (aS))))
    exact bu
   .exact bu
  refine aX ?_ ?_
  .exact eF (DL (wt (cg (aw (by rfl)) (bk)) (b6) eO) (cg (aw (by rfl)) (bk))) (by rfl) (by decide) (.inl rfl)
  refine aX ?_ ?_
  .exact de (c7 (aA (cZ (B.X _ _ (uI w.params)) rfl (wH B) (aA (aw (by rfl)) (aA (bk) (aA (qV (aw (by rfl)) (rk) (rl (aw (by rfl)))) (aA (jE) (aS))))) (wB (k:=k+6) B)) (aA (cZ (B.X _ _ (uI w.params)) rfl (wH B) (aA (aw (by rfl)) (aA (aw (by rfl)) (aA (qV (aw (by rfl)) (rl (aw (by rfl))) (rk)) (aA (aw (by rfl)) (aS))))) (wB (k:=k+6) B)) (aS))))
  exact bu
 exact gn (xs:=["frame","room"]) (m:=3) B (B.X _ _ (FO w.params)) rfl (fz B.X (by kernel_rfl)) rfl (l8 λ_ _=>rfl) rfl ⟨_,rfl⟩ (by decide) (by decide) (by decide) ai
theorem zI(B:b3 (KK w.params) h₁):OpOk prog w h₁ (k+9) (λvs=>cF (.ref 196) vs) rW:=by
 have ai:∀aZ,SOk prog w h₁ (c9 D7 aZ 196) ["frames","room","taken","left","frame","part","rest"] (k+8) (dr C6 (c9 D7 aZ 196)) yH:=by
  intro aZ
  unfold yH C6 pick
  refine aX ?_ ?_
  .first
    |exact my (c7 (aA (lp (aS)) (aA (lp (aS)) (aS)))) (jO (.cons (by rfl) (.inl rfl) (.cons (by rfl) (.inl rfl) (.nil))) (by decide))
    |exact mx (xs:=["taken","left"]) (c7 (aA (lp (aS)) (aA (lp (aS)) (aS)))) (by rfl) (by repeat (first|exact eg _|refine b0.mpr ⟨.inl rfl,?_⟩|refine b0.mpr ⟨.inr ⟨rfl,rfl,rfl⟩,?_⟩)) (by decide) (by decide)
  refine aX ?_ ?_
  .refine lH (aw (by rfl)) (gP (by rfl) (by decide) (.inl rfl)) ?_
   .unfold IB
    refine aX ?_ ?_
    .first
      |exact my (cZ (B.X _ _ (FO w.params)) rfl (Lz B) (aA (aw (by rfl)) (aA (aw (by rfl)) (aS))) (Kv (k:=k+0) B)) (jO (.cons (by rfl) (.inl rfl) (.cons (by rfl) (.inl rfl) (.nil))) (by decide))
      |exact mx (xs:=["part","rest"]) (cZ (B.X _ _ (FO w.params)) rfl (Lz B) (aA (aw (by rfl)) (aA (aw (by rfl)) (aS))) (Kv (k:=k+0) B)) (by rfl) (by repeat (first|exact eg _|refine b0.mpr ⟨.inl rfl,?_⟩|refine b0.mpr ⟨.inr ⟨rfl,rfl,rfl⟩,?_⟩)) (by decide) (by decide)
    refine aX ?_ ?_
    .refine dM (cq (aw (by rfl)) (hJ) xt) ?_ ?_
     .refine aX ?_ ?_
      .exact i9 (ie kK lS mD kA (aw (by rfl)) (aA (aw (by rfl)) (aS)) mu)
      refine aX ?_ ?_
      .exact OY (cZ (B.X _ _ (uH w.params)) rfl (wF B) (aA (aw (by rfl)) (aS)) (wA (k:=k+2) B)) NL (by rfl) (by decide) (by rfl)
      exact bu
     .exact bu
    refine aX ?_ ?_
    .refine dM (cq (aw (by rfl)) (hJ) xt) ?_ ?_
     .refine aX ?_ ?_
      .exact i9 (ie kK lS mD kA (aw (by rfl)) (aA (aw (by rfl)) (aS)) mu)
      exact bu
     .exact bu
    exact bu
  refine aX ?_ ?_
  .exact de (c7 (aA (aw (by rfl)) (aA (aw (by rfl)) (aS))))
  exact bu
 exact gn (xs:=["frames","room"]) (m:=5) B (B.X _ _ (xj w.params)) rfl (fz B.X (by kernel_rfl)) rfl (l8 λ_ _=>rfl) rfl ⟨_,rfl⟩ (by decide) (by decide) (by decide) ai
theorem UE(B:b3 (KK w.params) h₁):OpOk prog w h₁ (k+10) (λvs=>cF (.ref 203) vs) vS:=by
 have ai:∀aZ,SOk prog w h₁ (c9 D8 aZ 203) ["frames","room","found","left","taken","rest"] (k+9) (dr C7 (c9 D8 aZ 203)) yK:=by
  intro aZ
  unfold yK C7 pick
  refine aX ?_ ?_
  .first
    |exact my (c7 (aA (lp (aS)) (aA (ib (ED B) (aA (aw (by rfl)) (aS)) Gb) (aS)))) (jO (.cons (by rfl) (.inl rfl) (.cons (by rfl) (.inl rfl) (.nil))) (by decide))
    |exact mx (xs:=["found","left"]) (c7 (aA (lp (aS)) (aA (ib (ED B) (aA (aw (by rfl)) (aS)) Gb) (aS)))) (by rfl) (by repeat (first|exact eg _|refine b0.mpr ⟨.inl rfl,?_⟩|refine b0.mpr ⟨.inr ⟨rfl,rfl,rfl⟩,?_⟩)) (by decide) (by decide)
  refine aX ?_ ?_
  .refine O0 (cq (j0 (mW B) (aA (aw (by rfl)) (aS)) m') (bk) s9) ?_
   .unfold IC
    refine aX ?_ ?_
    .first
      |exact my (cZ (B.X _ _ (xj w.params)) rfl (zR B) (aA (aw (by rfl)) (aA (aw (by rfl)) (aS))) (zI (k:=k+0) B)) (jO (.cons (by rfl) (.inl rfl) (.cons (by rfl) (.inl rfl) (.nil))) (by decide))
      |exact mx (xs:=["taken","rest"]) (cZ (B.X _ _ (xj w.params)) rfl (zR B) (aA (aw (by rfl)) (aA (aw (by rfl)) (aS))) (zI (k:=k+0) B)) (by rfl) (by repeat (first|exact eg _|refine b0.mpr ⟨.inl rfl,?_⟩|refine b0.mpr ⟨.inr ⟨rfl,rfl,rfl⟩,?_⟩)) (by decide) (by decide)
    refine aX ?_ ?_
    .refine dM (cq (j0 (mW B) (aA (aw (by rfl)) (aS)) m') (bk) eO) ?_ ?_
     .refine aX ?_ ?_
      .exact de (hJ)
      exact bu
     .exact bu
    refine aX ?_ ?_
    .exact i9 (ie kK lS mD kA (aw (by rfl)) (aA (aw (by rfl)) (aS)) mu)
    refine aX ?_ ?_
    .exact eF (aw (by rfl)) (by rfl) (by decide) (.inl rfl)
    exact bu
  refine aX ?_ ?_
  .exact de (aw (by rfl))
  exact bu
 exact gn (xs:=["frames","room"]) (m:=4) B (B.X _ _ (MS w.params)) rfl (fz B.X (by kernel_rfl)) rfl (l8 λ_ _=>rfl) rfl ⟨_,rfl⟩ (by decide) (by decide) (by decide) ai
end
end Internal
namespace Internal
open PySem PySem.W PyProof.Rows PySem.Calls
section
variable{prog:cD}{w:cm}{h₁:a9}{k:Nat}
theorem UG(B:b3 (KK w.params) h₁):OpOk prog w h₁ (k+1) (λvs=>cF (.ref 211) vs) vT:=by
 have ai:∀aZ,SOk prog w h₁ (c9 D9 aZ 211) ["kind"] (k+0) (dr C8 (c9 D9 aZ 211)) Cb:=by
  intro aZ
  unfold Cb C8 pick
  refine aX ?_ ?_
  .exact de (ie PySem.F.plainAttrs_tuple Hw PySem.F.type_tuple_index Po (zQ B) (aA (aw (by rfl)) (aS)) NJ)
  exact bu
 exact gn (xs:=["kind"]) (m:=0) B (B.X _ _ (MT w.params)) rfl (fz B.X (by kernel_rfl)) rfl (jX λ_=>rfl) rfl ⟨_,rfl⟩ (by decide) (by decide) (by decide) ai
theorem Ky(B:b3 (KK w.params) h₁):OpOk prog w h₁ (k+1) (λvs=>cF (.ref 218) vs) rY:=by
 have ai:∀aZ,SOk prog w h₁ (c9 D' aZ 218) ["alarms","found","kind","told"] (k+0) (dr C9 (c9 D' aZ 218)) yQ:=by
  intro aZ
  unfold yQ C9 pick
  refine aX ?_ ?_
  .exact eF (hJ) (by rfl) (by decide) (.inl rfl)
  refine aX ?_ ?_
  .refine lH (zQ B) (gP (by rfl) (by decide) (.inl rfl)) ?_
   .unfold II
    refine aX ?_ ?_
    .exact eF (ie yl vC BS GX (aw (by rfl)) (aA (aw (by rfl)) (aS)) F') (by rfl) (by decide) (.inl rfl)
    refine aX ?_ ?_
    .refine dM (jg (mQ (cq (aw (by rfl)) (hJ) xt) (mQ (jg (gM (cq (aw (by rfl)) (hJ) s') (gM (cq (aw (by rfl)) (cg (aw (by rfl)) (bk)) tc) (ma)))) (tZ)))) ?_ ?_
     .refine aX ?_ ?_
      .exact eF (c7 (aA (aw (by rfl)) (aA (aw (by rfl)) (aS)))) (by rfl) (by decide) (.inl rfl)
      exact bu
     .exact bu
    exact bu
  refine aX ?_ ?_
  .exact de (aw (by rfl))
  exact bu
 exact gn (xs:=["alarms"]) (m:=3) B (B.X _ _ (FP w.params)) rfl (fz B.X (by kernel_rfl)) rfl (jX λ_=>rfl) rfl ⟨_,rfl⟩ (by decide) (by decide) (by decide) ai
theorem UC(B:b3 (KK w.params) h₁):OpOk prog w h₁ (k+2) (λvs=>cF (.ref 223) vs) vO:=by
 have ai:∀aZ,SOk prog w h₁ (c9 Ea aZ 223) ["alarms","now","pairs","kind","told"] (k+1) (dr C' (c9 Ea aZ 223)) yD:=by
  intro aZ
  unfold yD C' pick
  refine aX ?_ ?_
  .exact eF (lp (aS)) (by rfl) (by decide) (.inl rfl)
  refine aX ?_ ?_
  .refine lH (zQ B) (gP (by rfl) (by decide) (.inl rfl)) ?_
   .unfold Iz
    refine aX ?_ ?_
    .exact eF (ie yl vC BS GX (aw (by rfl)) (aA (aw (by rfl)) (aS)) F') (by rfl) (by decide) (.inl rfl)
    refine aX ?_ ?_
    .refine dM (jg (mQ (cq (aw (by rfl)) (hJ) xt) (mQ (cq (aw (by rfl)) (aw (by rfl)) Ga) (tZ)))) ?_ ?_
     .refine aX ?_ ?_
      .exact i9 (ie kK lS mD kA (aw (by rfl)) (aA (c7 (aA (aw (by rfl)) (aA (cZ (B.X _ _ (MT w.params)) rfl (VE B) (aA (aw (by rfl)) (aS)) (UG (k:=k+0) B)) (aS)))) (aS)) mu)
      exact bu
     .exact bu
    exact bu
  refine aX ?_ ?_
  .exact de (mV (ns':=["told","place"]) (j0 (LG B) (aA (aw (by rfl)) (aS)) Zk) (by first|rfl|kernel_rfl) (λ_=>ko) (by decide) (by rfl) (by decide) (λ_=>jO (.cons (by rfl) (.inl rfl) (.cons (by rfl) (.inl rfl) (.nil))) (by decide)) (λ_=>qK) (λ_=>cg (zQ B) (aw (by rfl))))
  exact bu
 exact gn (xs:=["alarms","now"]) (m:=3) B (B.X _ _ (MU w.params)) rfl (fz B.X (by kernel_rfl)) rfl (l8 λ_ _=>rfl) rfl ⟨_,rfl⟩ (by decide) (by decide) (by decide) ai
theorem US(B:b3 (KK w.params) h₁):OpOk prog w h₁ (k+2) (λvs=>cF (.ref 228) vs) v7:=by
 have ai:∀aZ,SOk prog w h₁ (jA Eb aZ 228) ["alarms","kind","told","found"] (k+1) (dr Dc (jA Eb aZ 228)) y1:=by
  intro aZ
  unfold y1 Dc pick
  refine aX ?_ ?_
  .exact eF (ib (VB B) (aA (Ki (ns':=["one","alarms","kind"]) (aw (by rfl)) (by first|rfl|kernel_rfl) (λ_=>ko) (by decide) (by rfl) (by decide) (λ_=>gP (by rfl) (by decide) (.inl rfl)) (λ_=>qL (cq (aw (by rfl)) (aw (by rfl)) n')) (λ_=>c7 (aA (aw (by rfl)) (aA (cg (aw (by rfl)) (aw (by rfl))) (aS))))) aS) Zc) (by rfl) (by decide) (.inl rfl)
  refine aX ?_ ?_
  .refine dM (cq (aw (by rfl)) (hJ) xt) ?_ ?_
   .refine aX ?_ ?_
    .exact p7 (aw (by rfl)) (aw (by rfl)) (aw (by rfl))
    exact bu
   .exact bu
  refine aX ?_ ?_
  .exact de (aw (by rfl))
  exact bu
 exact zH (xs:=["alarms","kind","told"]) (m:=1) B (B.X _ _ (MV w.params)) rfl (fz B.X (by kernel_rfl)) rfl (Jg λ_ _ _=>rfl) rfl ⟨_,rfl⟩ (by decide) (by decide) ai
theorem Kx(B:b3 (KK w.params) h₁):OpOk prog w h₁ (k+3) (λvs=>cF (.ref 249) vs) rX:=by
 have ai:∀aZ,SOk prog w h₁ (c9 Ec aZ 249) ["self","kind","told"] (k+2) (dr Dd (c9 Ec aZ 249)) yM:=by
  intro aZ
  unfold yM Dd pick
  refine aX ?_ ?_
  .exact adQ B (mR w.params) (cZ (B.X _ _ (MV w.params)) rfl (VN B) (aA (wq B (mR w.params) (aw (by rfl))) (aA (aw (by rfl)) (aA (aw (by rfl)) (aS)))) (US (k:=k+0) B)) (aw (by rfl))
  exact bu
 exact gn (xs:=["self","kind","told"]) (m:=0) B (B.X _ _ (FQ w.params)) rfl (fz B.X (by kernel_rfl)) rfl (Jg λ_ _ _=>rfl) rfl ⟨_,rfl⟩ (by decide) (by decide) (by decide) ai
theorem UK(B:b3 (KK w.params) h₁):OpOk prog w h₁ (k+1) (λvs=>cF (.ref 256) vs) vW:=by
 have ai:∀aZ,SOk prog w h₁ (c9 Ee aZ 256) ["self","kind"] (k+0) (dr Df (c9 Ee aZ 256)) yO:=by
  intro aZ
  unfold yO Df pick
  refine aX ?_ ?_
  .exact de (ie yl vC BS GX (wq B (mR w.params) (aw (by rfl))) (aA (aw (by rfl)) (aS)) F')
  exact bu
 exact gn (xs:=["self","kind"]) (m:=0) B (B.X _ _ (MW w.params)) rfl (fz B.X (by kernel_rfl)) rfl (l8 λ_ _=>rfl) rfl ⟨_,rfl⟩ (by decide) (by decide) (by decide) ai
theorem UI(B:b3 (KK w.params) h₁):OpOk prog w h₁ (k+2) (λvs=>cF (.ref 263) vs) vU:=by
 have ai:∀aZ,SOk prog w h₁ (c9 Ef aZ 263) ["self","told"] (k+1) (dr Dg (c9 Ef aZ 263)) yL:=by
  intro aZ
  unfold yL Dg pick
  refine aX ?_ ?_
  .exact eF (cZ (B.X _ _ (FP w.params)) rfl (LC B) (aA (wq B (mR w.params) (aw (by rfl))) (aS)) (Ky (k:=k+0) B)) (by rfl) (by decide) (.inl rfl)
  refine aX ?_ ?_
  .exact de (jF (cq (aw (by rfl)) (hJ) s') (hJ) (cg (aw (by rfl)) (bk)))
  exact bu
 exact gn (xs:=["self"]) (m:=1) B (B.X _ _ (MX w.params)) rfl (fz B.X (by kernel_rfl)) rfl (jX λ_=>rfl) rfl ⟨_,rfl⟩ (by decide) (by decide) (by decide) ai
theorem UJ(B:b3 (KK w.params) h₁):OpOk prog w h₁ (k+4) (λvs=>cF (.ref 270) vs) vV:=by
 have ai:∀aZ,SOk prog w h₁ (c9 Eg aZ 270) ["self","now","found","kind"] (k+3) (dr Dh (c9 Eg aZ 270)) yN:=by
  intro aZ
  unfold yN Dh pick
  refine aX ?_ ?_
  .exact eF (cZ (B.X _ _ (MU w.params)) rfl (Vz B) (aA (wq B (mR w.params) (aw (by rfl))) (aA (aw (by rfl)) (aS))) (UC (k:=k+1) B)) (by rfl) (by decide) (.inl rfl)
  refine aX ?_ ?_
  .refine lH (aw (by rfl)) (gP (by rfl) (by decide) (.inl rfl)) ?_
   .unfold IG
    refine aX ?_ ?_
    .exact i9 (wu B (mR w.params) (by kernel_rfl) (by kernel_rfl) (B.X _ _ (FQ w.params)) rfl (aw (by rfl)) (aA (aw (by rfl)) (aA (hJ) (aS))) (Kx (k:=k+0) B))
    exact bu
  refine aX ?_ ?_
  .exact de (aw (by rfl))
  exact bu
 exact gn (xs:=["self","now"]) (m:=2) B (B.X _ _ (MY w.params)) rfl (fz B.X (by kernel_rfl)) rfl (l8 λ_ _=>rfl) rfl ⟨_,rfl⟩ (by decide) (by decide) (by decide) ai
end
end Internal
namespace Internal
open PySem PySem.W PyProof.Rows PySem.Calls
section
variable{prog:cD}{w:cm}{h₁:a9}{k:Nat}
theorem oH(B:b3 (KK w.params) h₁):OpOk prog w h₁ (k+1) (λvs=>cF (.ref 284) vs) h7:=by
 have ai:∀aZ,SOk prog w h₁ (c9 Eh aZ 284) ["pool","many","script","cell"] (k+0) (dr Di (c9 Eh aZ 284)) yA:=by
  intro aZ
  unfold yA Di pick
  refine aX ?_ ?_
  .exact eF (cg (aw (by rfl)) (bk)) (by rfl) (by decide) (.inl rfl)
  refine aX ?_ ?_
  .exact eF (jF (cq (aw (by rfl)) (ic (aS)) n') (j0 (Vy B) (aA (cg (aw (by rfl)) (dE (cg (aw (by rfl)) (bk)) (j0 (mW B) (aA (aw (by rfl)) (aS)) m') pZ)) (aS)) Y9) (bk)) (by rfl) (by decide) (.inl rfl)
  refine aX ?_ ?_
  .exact p7 (dE (cg (aw (by rfl)) (bk)) (bk) fW) (aw (by rfl)) (bk)
  refine aX ?_ ?_
  .exact p7 (dE (dE (dE (dE (cg (aw (by rfl)) (bk)) (bk) xu) (dE (aw (by rfl)) (bk) pZ) fW) (bk) fW) (bk) pZ) (aw (by rfl)) (bk)
  refine aX ?_ ?_
  .exact de (dE (dE (cg (aw (by rfl)) (bk)) (bk) NI) (aw (by rfl)) pZ)
  exact bu
 exact gn (xs:=["pool","many"]) (m:=2) B (B.X _ _ (n7 w.params)) rfl (fz B.X (by kernel_rfl)) rfl (l8 λ_ _=>rfl) rfl ⟨_,rfl⟩ (by decide) (by decide) (by decide) ai
theorem Kt(B:b3 (KK w.params) h₁):OpOk prog w h₁ (k+2) (λvs=>cF (.ref 289) vs) vM:=by
 have ai:∀aZ,SOk prog w h₁ (jA zJ aZ 289) ["pool","found","sid","many"] (k+1) (dr zm (jA zJ aZ 289)) vJ:=by
  intro aZ
  unfold vJ zm pick
  refine aX ?_ ?_
  .refine eF (e:=_) ?_ ?_ ?_ ?_ ?_ ?_
   .refine lp ?_
    refine aA ?_ ?_ ?_
    .refine c7 ?_
     refine aA ?_ ?_ ?_
     .exact b6
     .refine aA ?_ ?_ ?_
      .exact bk
      .exact aS
      .rfl
     .rfl
    .refine aA ?_ ?_ ?_
     .refine c7 ?_
      refine aA ?_ ?_ ?_
      .exact b6
      .refine aA ?_ ?_ ?_
       .exact bk
       .exact aS
       .rfl
      .rfl
     .refine aA ?_ ?_ ?_
      .refine c7 ?_
       refine aA ?_ ?_ ?_
       .exact b6
       .refine aA ?_ ?_ ?_
        .exact bk
        .refine aA ?_ ?_ ?_
         .exact bk
         .exact aS
         .rfl
        .rfl
       .rfl
      .refine aA ?_ ?_ ?_
       .refine c7 ?_
        refine aA ?_ ?_ ?_
        .exact b6
        .refine aA ?_ ?_ ?_
         .exact t'
         .exact aS
         .rfl
        .rfl
       .exact aS
       .rfl
      .rfl
     .rfl
    .rfl
   .rfl
   .decide
   .exact .inl rfl
   .rfl
   .rfl
  refine aX ?_ ?_
  .exact i9 (ie kK lS mD kA (aw (by rfl)) (aA (c7 (aA (b6) (aA (bk) (aS)))) (aS)) mu)
  refine aX ?_ ?_
  .exact i9 (ie kK lS mD kA (aw (by rfl)) (aA (c7 (aA (b6) (aA (dE (bk) (cZ (B.X _ _ (n7 w.params)) rfl (oJ B) (aA (aw (by rfl)) (aA (bk) (aS))) (oH (k:=k+0) B)) fW) (aA (bk) (aA (ib (nS B) (aA (bk) (aS)) oT) (aA (ib (nS B) (aA (bk) (aS)) oT) (aS))))))) (aS)) mu)
  refine aX ?_ ?_
  .refine lH (ib (wG B) (aA (dE (bk) (cZ (B.X _ _ (n7 w.params)) rfl (oJ B) (aA (aw (by rfl)) (aA (bk) (aS))) (oH (k:=k+0) B)) fW) (aS)) xv) (gP (by rfl) (by decide) (.inr ⟨rfl,rfl,rfl⟩)) ?_
   .unfold Iu
    refine aX ?_ ?_
    .exact eF (dE (bk) (cZ (B.X _ _ (n7 w.params)) rfl (oJ B) (aA (aw (by rfl)) (aA (bk) (aS))) (oH (k:=k+0) B)) fW) (by rfl) (by decide) (.inl rfl)
    refine aX ?_ ?_
    .exact i9 (ie kK lS mD kA (aw (by rfl)) (aA (c7 (aA (b6) (aA (dE (bk) (aw (by rfl)) xu) (aA (bk) (aA (ib (nS B) (aA (mV (ns':=["at","sid"]) (ib (wG B) (aA (aw (by rfl)) (aS)) xv) (by first|rfl|kernel_rfl) (λ_=>ko) (by decide) (by rfl) (by decide) (λ_=>gP (by rfl) (by decide) (.inl rfl)) (λ_=>qK) (λ_=>dE (dE (aw (by rfl)) (aw (by rfl)) fW) (bk) pZ)) (aS)) oT) (aA (jE) (aS))))))) (aS)) mu)
    exact bu
  refine aX ?_ ?_
  .exact i9 (ie kK lS mD kA (aw (by rfl)) (aA (c7 (aA (b6) (aA (bk) (aA (ib (nS B) (aA (mV (ns':=["at"]) (ib (wG B) (aA (dE (bk) (cZ (B.X _ _ (n7 w.params)) rfl (oJ B) (aA (aw (by rfl)) (aA (bk) (aS))) (oH (k:=k+0) B)) fW) (aS)) xv) (by first|rfl|kernel_rfl) (λ_=>ko) (by decide) (by rfl) (by decide) (λ_=>gP (by rfl) (by decide) (.inl rfl)) (λ_=>qK) (λ_=>dE (dE (bk) (aw (by rfl)) fW) (bk) pZ)) (aS)) oT) (aS))))) (aS)) mu)
  refine aX ?_ ?_
  .exact de (aw (by rfl))
  exact bu
 refine zH (prog:=prog) (w:=w) (fa:=289) (o:=Ew) (fd:=zJ) (body:=zm) (xs:=["pool"]) (ns:=["pool","found","sid","many"]) (m:=3) (D:=vJ) (k:=k+1) B ?g1 ?g2 ?g3 ?g4 ?g5 ?g6 ?g7 ?g8 ?g9 ?g10 ?g11 ?g12 ?g13
 case g10=>with_reducible exact ai
 case g1=>exact B.X _ _ (FR w.params)
 case g3=>exact fz B.X (by kernel_rfl)
 case g5=>exact jX λ_=>rfl
 case g7=>exact⟨_,rfl⟩
 case g8=>decide
 case g9=>decide
 all_goals rfl
theorem DS(B:b3 (KK w.params) h₁):OpOk prog w h₁ (k+1) (λvs=>cF (.ref 296) vs) nI:=by
 have ai:∀aZ,SOk prog w h₁ (c9 Ei aZ 296) ["world","frames","frame","name","at","data","step","octet"] (k+0) (dr Dj (c9 Ei aZ 296)) yz:=by
  intro aZ
  unfold yz Dj pick
  refine aX ?_ ?_
  .refine lH (aw (by rfl)) (gP (by rfl) (by decide) (.inl rfl)) ?_
   .unfold It
    refine aX ?_ ?_
    .refine dM (cq (cg (aw (by rfl)) (bk)) (c7 (aA (b6) (aA (b6) (aS)))) kx) ?_ ?_
     .refine aX ?_ ?_
      .first
        |exact my (jF (cq (cg (aw (by rfl)) (bk)) (b6) eO) (c7 (aA (cg (aw (by rfl)) (bk)) (aA (cg (aw (by rfl)) (bk)) (aA (cg (aw (by rfl)) (bk)) (aS))))) (c7 (aA (b6) (aA (cg (aw (by rfl)) (bk)) (aA (cg (aw (by rfl)) (bk)) (aS)))))) (jO (.cons (by rfl) (.inl rfl) (.cons (by rfl) (.inl rfl) (.cons (by rfl) (.inl rfl) (.nil)))) (by decide))
        |exact mx (xs:=["name","at","data"]) (jF (cq (cg (aw (by rfl)) (bk)) (b6) eO) (c7 (aA (cg (aw (by rfl)) (bk)) (aA (cg (aw (by rfl)) (bk)) (aA (cg (aw (by rfl)) (bk)) (aS))))) (c7 (aA (b6) (aA (cg (aw (by rfl)) (bk)) (aA (cg (aw (by rfl)) (bk)) (aS)))))) (by rfl) (by repeat (first|exact eg _|refine b0.mpr ⟨.inl rfl,?_⟩|refine b0.mpr ⟨.inr ⟨rfl,rfl,rfl⟩,?_⟩)) (by decide) (by decide)
      refine aX ?_ ?_
      .refine GJ (EC B) (aw (by rfl)) (jO (.cons (by rfl) (.inl rfl) (.cons (by rfl) (.inl rfl) (.nil))) (by decide)) ?_
       .unfold Ir
        refine aX ?_ ?_
        .exact p7 (aw (by rfl)) (cg (aw (by rfl)) (b6)) (c7 (aA (aw (by rfl)) (aA (dE (aw (by rfl)) (aw (by rfl)) fW) (aS))))
        exact bu
      refine aX ?_ ?_
      .refine dM (jg (mQ (cq (cg (aw (by rfl)) (bk)) (b6) eO) (mQ (ph (cg (aw (by rfl)) (bk))) (tZ)))) ?_ ?_
       .refine aX ?_ ?_
        .exact p7 (dE (aw (by rfl)) (j0 (mW B) (aA (aw (by rfl)) (aS)) m') fW) (cg (aw (by rfl)) (b6)) (aw (by rfl))
        exact bu
       .exact bu
      exact bu
     .refine aX ?_ ?_
      .exact i9 (ie kK lS mD kA (cg (aw (by rfl)) (b6)) (aA (aw (by rfl)) (aS)) mu)
      exact bu
    exact bu
  exact bu
 exact gn (xs:=["world","frames"]) (m:=6) B (B.X _ _ (Av w.params)) rfl (fz B.X (by kernel_rfl)) rfl (l8 λ_ _=>rfl) rfl ⟨_,rfl⟩ (by decide) (by decide) (by decide) ai
theorem UB(B:b3 (KK w.params) h₁):OpOk prog w h₁ (k+1) (λvs=>cF (.ref 303) vs) vN:=by
 have ai:∀aZ,SOk prog w h₁ (c9 Ej aZ 303) ["world","given","due","ends","frame","name","data","at","octet"] (k+0) (dr Dk (c9 Ej aZ 303)) yC:=by
  intro aZ
  unfold yC Dk pick
  refine aX ?_ ?_
  .first
    |exact my (c7 (aA (nQ (.t)) (aA (nQ (.a)) (aS)))) (jO (.cons (by rfl) (.inl rfl) (.cons (by rfl) (.inl rfl) (.nil))) (by decide))
    |exact mx (xs:=["due","ends"]) (c7 (aA (nQ (.t)) (aA (nQ (.a)) (aS)))) (by rfl) (by repeat (first|exact eg _|refine b0.mpr ⟨.inl rfl,?_⟩|refine b0.mpr ⟨.inr ⟨rfl,rfl,rfl⟩,?_⟩)) (by decide) (by decide)
  refine aX ?_ ?_
  .refine lH (aw (by rfl)) (gP (by rfl) (by decide) (.inl rfl)) ?_
   .unfold Iy
    refine aX ?_ ?_
    .refine dM (cq (cg (aw (by rfl)) (bk)) (c7 (aA (b6) (aA (b6) (aS)))) kx) ?_ ?_
     .refine aX ?_ ?_
      .first
        |exact my (jF (cq (cg (aw (by rfl)) (bk)) (b6) eO) (c7 (aA (cg (aw (by rfl)) (bk)) (aA (cg (aw (by rfl)) (bk)) (aS)))) (c7 (aA (b6) (aA (cg (aw (by rfl)) (bk)) (aS))))) (jO (.cons (by rfl) (.inl rfl) (.cons (by rfl) (.inl rfl) (.nil))) (by decide))
        |exact mx (xs:=["name","data"]) (jF (cq (cg (aw (by rfl)) (bk)) (b6) eO) (c7 (aA (cg (aw (by rfl)) (bk)) (aA (cg (aw (by rfl)) (bk)) (aS)))) (c7 (aA (b6) (aA (cg (aw (by rfl)) (bk)) (aS))))) (by rfl) (by repeat (first|exact eg _|refine b0.mpr ⟨.inl rfl,?_⟩|refine b0.mpr ⟨.inr ⟨rfl,rfl,rfl⟩,?_⟩)) (by decide) (by decide)
      refine aX ?_ ?_
      .refine GJ (EC B) (aw (by rfl)) (jO (.cons (by rfl) (.inl rfl) (.cons (by rfl) (.inl rfl) (.nil))) (by decide)) ?_
       .unfold Iw
        refine aX ?_ ?_
        .exact p7 (aw (by rfl)) (aw (by rfl)) (c7 (aA (aw (by rfl)) (aA (aw (by rfl)) (aS))))
        exact bu
      refine aX ?_ ?_
      .refine dM (cq (cg (aw (by rfl)) (bk)) (b6) eO) ?_ ?_
       .refine aX ?_ ?_
        .exact p7 (j0 (mW B) (aA (aw (by rfl)) (aS)) m') (aw (by rfl)) (aw (by rfl))
        exact bu
       .exact bu
      exact bu
     .exact bu
    exact bu
  refine aX ?_ ?_
  .exact de (DL (wt (cg (aw (by rfl)) (b6)) (aw (by rfl)) eO) (wt (cg (aw (by rfl)) (b6)) (aw (by rfl)) eO))
  exact bu
 exact gn (xs:=["world","given"]) (m:=7) B (B.X _ _ (MZ w.params)) rfl (fz B.X (by kernel_rfl)) rfl (l8 λ_ _=>rfl) rfl ⟨_,rfl⟩ (by decide) (by decide) (by decide) ai
end
end Internal
namespace Internal
open PySem PySem.W PyProof.Rows PySem.Calls
section
variable{prog:cD}{w:cm}{h₁:a9}{k:Nat}
theorem Ku(B:b3 (KK w.params) h₁):OpOk prog w h₁ (k+11) (λvs=>cF (.ref 308) vs) rU:=by
 have ai:∀aZ,SOk prog w h₁ (c9 Ek aZ 308) ["pool","world","frames","room","now","lists","row","kind"] (k+10) (dr Dl (c9 Ek aZ 308)) yB:=by
  intro aZ
  unfold yB Dl pick
  refine aX ?_ ?_
  .exact eF (cZ (B.X _ _ (MS w.params)) rfl (VD B) (aA (aw (by rfl)) (aA (aw (by rfl)) (aS))) (UE (k:=k+0) B)) (by rfl) (by decide) (.inl rfl)
  refine aX ?_ ?_
  .refine dM (cq (aw (by rfl)) (hJ) s') ?_ ?_
   .refine aX ?_ ?_
    .exact de (jE)
    exact bu
   .exact bu
  refine aX ?_ ?_
  .refine lH (aw (by rfl)) (gP (by rfl) (by decide) (.inl rfl)) ?_
   .unfold Iv
    refine aX ?_ ?_
    .refine dM (jg (gM (cq (aw (by rfl)) (ic (aS)) eO) (gM (cq (j0 (LH B) (aA (mV (ns':=["frame"]) (aw (by rfl)) (by first|rfl|kernel_rfl) (λ_=>ko) (by decide) (by rfl) (by decide) (λ_=>gP (by rfl) (by decide) (.inl rfl)) (λ_=>qK) (λ_=>j0 (mW B) (aA (cZ (B.X _ _ (FL w.params)) rfl (LD B) (aA (aw (by rfl)) (aS)) (Kz (k:=k+5) B)) (aS)) m')) (aS)) NN) (aw (by rfl)) s9) (ma)))) ?_ ?_
     .refine aX ?_ ?_
      .exact de (jE)
      exact bu
     .exact bu
    refine aX ?_ ?_
    .exact eF (cg (ic (aA (b6) (aA (b6) (aA (b6) (aA (b6) (aA (b6) (aA (b6) (aS)))))))) (dE (j0 (mW B) (aA (cg (aw (by rfl)) (b6)) (aS)) m') (bk) pZ)) (by rfl) (by decide) (.inl rfl)
    refine aX ?_ ?_
    .refine dM (cq (wu B (mR w.params) (by kernel_rfl) (by kernel_rfl) (B.X _ _ (MW w.params)) rfl (cg (aw (by rfl)) (b6)) (aA (aw (by rfl)) (aS)) (UK (k:=k+9) B)) (hJ) s') ?_ ?_
     .refine aX ?_ ?_
      .exact i9 (wu B (mR w.params) (by kernel_rfl) (by kernel_rfl) (B.X _ _ (FQ w.params)) rfl (cg (aw (by rfl)) (b6)) (aA (aw (by rfl)) (aA (dE (dE (aw (by rfl)) (bk) fW) (cZ (B.X _ _ (n7 w.params)) rfl (oJ B) (aA (aw (by rfl)) (aA (bk) (aS))) (oH (k:=k+9) B)) fW) (aS))) (Kx (k:=k+7) B))
      refine aX ?_ ?_
      .exact i9 (ie kK lS mD kA (cg (aw (by rfl)) (b6)) (aA (c7 (aA (aw (by rfl)) (aA (aw (by rfl)) (aS)))) (aS)) mu)
      exact bu
     .refine aX ?_ ?_
      .exact i9 (cZ (B.X _ _ (Av w.params)) rfl (EA B) (aA (aw (by rfl)) (aA (aw (by rfl)) (aS))) (DS (k:=k+9) B))
      exact bu
    refine aX ?_ ?_
    .exact i9 (ie kK Ht PySem.F.type_list_extend kA (cg (aw (by rfl)) (b6)) (aA (aw (by rfl)) (aS)) NH)
    exact bu
  refine aX ?_ ?_
  .exact de (jE)
  exact bu
 exact gn (xs:=["pool","world","frames","room","now"]) (m:=3) B (B.X _ _ (FT w.params)) rfl (fz B.X (by kernel_rfl)) rfl (RB λ_ _ _ _ _=>rfl) rfl ⟨_,rfl⟩ (by decide) (by decide) (by decide) ai
end
end Internal
namespace Internal
open PySem PySem.W PyProof.Rows PySem.Calls
section
variable{prog:cD}{w:cm}{h₁:a9}{own:Bool}{env:dc}{ns:List aV}{k:Nat}
theorem AQ{pos:bz}:r5 prog w h₁ own env ns k (qr (tD [] [] env pos)) mr:=acN
theorem p0{xb xX:bX}{ks:List (Option bX)}{vs:List bX}{pos:bz}{rS mJ:cy}{P:qE}(hk:bx prog w h₁ own env ns k (aR xb env) rS)(a':bx prog w h₁ own env ns k (aR xX env) mJ)
 (aL:r5 prog w h₁ own env ns k (qr (tD ks vs env pos)) P):r5 prog w h₁ own env ns k (qr (tD (some xb::ks) (xX::vs) env pos)) (h9 rS mJ P):=by
 rw[tD]
 exact acJ hk a' aL
end
end Internal
namespace Internal
open PySem PySem.W PyProof.Rows PySem.Calls
section
variable{prog:cD}{w:cm}{h₁:a9}{k:Nat}
theorem UH(B:b3 (KK w.params) h₁):OpOk prog w h₁ (k+12) (λvs=>cF (.ref 313) vs) y6:=by
 have ai:∀aZ,SOk prog w h₁ (jA zK aZ 313) ["script","pool","given","room","now","done","blocked","world","anew","turn","first","due","lost","kind","row","part","left","names"] (k+11) (dr zo (jA zK aZ 313)) vK:=by
  intro aZ
  unfold vK zo pick
  refine aX ?_ ?_
  .first
    |exact OZ (ns':=["cell"]) (qV (aw (by rfl)) (rk) (rl (bk))) (by first|rfl|kernel_rfl) (λ_=>ko) (by decide) (by rfl) (by decide) (λ_=>gP (by rfl) (by decide) (.inl rfl)) (λ_=>qK) (λ_=>ib (LB B) (aA (aw (by rfl)) (aS)) NK) (by rfl) (by decide) (.inl rfl) (by rfl)
    |exact eF (mV (ns':=["cell"]) (qV (aw (by rfl)) (rk) (rl (bk))) (by first|rfl|kernel_rfl) (λ_=>ko) (by decide) (by rfl) (by decide) (λ_=>gP (by rfl) (by decide) (.inl rfl)) (λ_=>qK) (λ_=>ib (LB B) (aA (aw (by rfl)) (aS)) NK)) (by rfl) (by decide) (.inl rfl)
  refine aX ?_ ?_
  .exact eF (lp (aA (dE (j0 (LH B) (aA (aw (by rfl)) (aS)) NN) (bk) pZ) (aA (aw (by rfl)) (aA (bk) (aS))))) (by rfl) (by decide) (.inl rfl)
  refine aX ?_ ?_
  .first
    |exact my (c7 (aA (cZ (B.X _ _ (FR w.params)) rfl (Lx B) (aA (aw (by rfl)) (aS)) (Kt (k:=k+9) B)) (aA (dE (bk) (cZ (B.X _ _ (n7 w.params)) rfl (oJ B) (aA (aw (by rfl)) (aA (bk) (aS))) (oH (k:=k+10) B)) fW) (aA (bk) (aS))))) (jO (.cons (by rfl) (.inl rfl) (.cons (by rfl) (.inl rfl) (.cons (by rfl) (.inl rfl) (.nil)))) (by decide))
    |exact mx (xs:=["given","room","now"]) (c7 (aA (cZ (B.X _ _ (FR w.params)) rfl (Lx B) (aA (aw (by rfl)) (aS)) (Kt (k:=k+9) B)) (aA (dE (bk) (cZ (B.X _ _ (n7 w.params)) rfl (oJ B) (aA (aw (by rfl)) (aA (bk) (aS))) (oH (k:=k+10) B)) fW) (aA (bk) (aS))))) (by rfl) (by repeat (first|exact eg _|refine b0.mpr ⟨.inl rfl,?_⟩|refine b0.mpr ⟨.inr ⟨rfl,rfl,rfl⟩,?_⟩)) (by decide) (by decide)
  refine aX ?_ ?_
  .exact eF (jF (cq (cZ (B.X _ _ (n7 w.params)) rfl (oJ B) (aA (aw (by rfl)) (aA (bk) (aS))) (oH (k:=k+10) B)) (bk) eO) (zF kj.t (p0 (c7 (aA (b6) (aA (bk) (aS)))) (jE) (AQ))) (nQ kj.t)) (by rfl) (by decide) (.inl rfl)
  refine aX ?_ ?_
  .exact eF (jF (cq (cZ (B.X _ _ (n7 w.params)) rfl (oJ B) (aA (aw (by rfl)) (aA (bk) (aS))) (oH (k:=k+10) B)) (bk) eO) (zF kj.t (p0 (c7 (aA (b6) (aA (hJ) (aS)))) (bk) (AQ))) (nQ kj.t)) (by rfl) (by decide) (.inl rfl)
  refine aX ?_ ?_
  .refine eF (e:=_) ?_ ?_ ?_ ?_ ?_ ?_
   .refine@zF _ _ _ _ _ _ _ _ _ _ _ _ kj.a ?_ ?_ ?_ ?_ ?_
    .refine p0 ?_ ?_ ?_
     .exact b6
     .exact lp (aS)
     .refine p0 ?_ ?_ ?_
      .exact b6
      .exact lp (aS)
      .refine p0 ?_ ?_ ?_
       .exact b6
       .exact lp (aS)
       .refine p0 ?_ ?_ ?_
        .exact b6
        .exact nQ kj.t
        .refine p0 ?_ ?_ ?_
         .exact b6
         .exact nQ kj.a
         .refine p0 ?_ ?_ ?_
          .exact b6
          .exact Ul B (mR w.params) (XF B) (by kernel_rfl) (by kernel_rfl) (Vf B)
          .exact AQ
    .rfl
    .rfl
    .exactλq=>nomatch q
    .decide
   .rfl
   .decide
   .exact .inl rfl
   .rfl
   .rfl
  refine aX ?_ ?_
  .refine dM (CR (ph (cZ (B.X _ _ (FT w.params)) rfl (Ly B) (aA (aw (by rfl)) (aA (aw (by rfl)) (aA (aw (by rfl)) (aA (aw (by rfl)) (aA (aw (by rfl)) (aS)))))) (Ku (k:=k+0) B)))) ?_ ?_
   .refine aX ?_ ?_
    .exact de (jE)
    exact bu
   .exact bu
  refine aX ?_ ?_
  .exact eF (ic (aS)) (by rfl) (by decide) (.inl rfl)
  refine aX ?_ ?_
  .refine lH (ib (wG B) (aA (bk) (aS)) xv) (gP (by rfl) (by decide) (.inl rfl)) ?_
   .unfold IE
    refine aX ?_ ?_
    .exact eF (cZ (B.X _ _ (FP w.params)) rfl (LC B) (aA (wq B (mR w.params) (cg (aw (by rfl)) (b6))) (aS)) (Ky (k:=k+10) B)) (by rfl) (by decide) (.inl rfl)
    refine aX ?_ ?_
    .refine dM (cq (aw (by rfl)) (hJ) s') ?_ ?_
     .refine aX ?_ ?_
      .exact adO
      exact bu
     .exact bu
    refine aX ?_ ?_
    .refine dM (jg (gM (cq (cg (aw (by rfl)) (bk)) (aw (by rfl)) tc) (gM (cq (cg (aw (by rfl)) (bk)) (wu B (mR w.params) (by kernel_rfl) (by kernel_rfl) (B.X _ _ (MX w.params)) rfl (cg (aw (by rfl)) (b6)) (aS) (UI (k:=k+9) B)) n') (ma)))) ?_ ?_
     .refine aX ?_ ?_
      .exact de (jE)
      exact bu
     .exact bu
    refine aX ?_ ?_
    .exact eF (cg (aw (by rfl)) (bk)) (by rfl) (by decide) (.inl rfl)
    refine aX ?_ ?_
    .exact eF (wu B (mR w.params) (by kernel_rfl) (by kernel_rfl) (B.X _ _ (MY w.params)) rfl (cg (aw (by rfl)) (b6)) (aA (aw (by rfl)) (aS)) (UJ (k:=k+7) B)) (by rfl) (by decide) (.inl rfl)
    refine aX ?_ ?_
    .refine dM (jg (gM (cq (aw (by rfl)) (ic (aS)) eO) (gM (cq (cg (aw (by rfl)) (bk)) (cg (aw (by rfl)) (bk)) n') (ma)))) ?_ ?_
     .refine aX ?_ ?_
      .exact de (jE)
      exact bu
     .exact bu
    refine aX ?_ ?_
    .exact eF (lp (aS)) (by rfl) (by decide) (.inl rfl)
    refine aX ?_ ?_
    .refine lH (aw (by rfl)) (gP (by rfl) (by decide) (.inr ⟨rfl,rfl,rfl⟩)) ?_
     .unfold ID
      refine aX ?_ ?_
      .exact eF (cg (mV (ns':=["one","kind"]) (cg (aw (by rfl)) (b6)) (by first|rfl|kernel_rfl) (λ_=>ko) (by decide) (by rfl) (by decide) (λ_=>gP (by rfl) (by decide) (.inl rfl)) (λ_=>qL (cq (cg (aw (by rfl)) (bk)) (aw (by rfl)) eO)) (λ_=>cg (aw (by rfl)) (bk))) (bk)) (by rfl) (by decide) (.inl rfl)
      refine aX ?_ ?_
      .exact p7 (Ki (ns':=["one","kind"]) (cg (aw (by rfl)) (b6)) (by first|rfl|kernel_rfl) (λ_=>ko) (by decide) (by rfl) (by decide) (λ_=>gP (by rfl) (by decide) (.inl rfl)) (λ_=>qL (cq (cg (aw (by rfl)) (bk)) (aw (by rfl)) n')) (λ_=>aw (by rfl))) (aw (by rfl)) (b6)
      refine aX ?_ ?_
      .refine dM (jg (gM (jg (mQ (cq (aw (by rfl)) (bk) tc) (mQ (cq (cZ (B.X _ _ (n7 w.params)) rfl (oJ B) (aA (aw (by rfl)) (aA (bk) (aS))) (oH (k:=k+10) B)) (bk) s9) (tZ)))) (gM (cq (aw (by rfl)) (bk) eO) (ma)))) ?_ ?_
       .refine aX ?_ ?_
        .exact i9 (ie kK Ht PySem.F.type_list_extend kA (aw (by rfl)) (aA (aw (by rfl)) (aS)) NH)
        exact bu
       .refine aX ?_ ?_
        .exact i9 (cZ (B.X _ _ (Av w.params)) rfl (EA B) (aA (aw (by rfl)) (aA (aw (by rfl)) (aS))) (DS (k:=k+10) B))
        exact bu
      exact bu
    refine aX ?_ ?_
    .exact eF (dE (cZ (B.X _ _ (M1 w.params)) rfl (VL B) (aA (aw (by rfl)) (aA (zF kj.t (p0 (c7 (aA (b6) (aA (hJ) (aS)))) (bk) (AQ))) (aA (aw (by rfl)) (aA (aw (by rfl)) (aS))))) (UQ (k:=k+8) B)) (cZ (B.X _ _ (M3 w.params)) rfl (VC B) (aA (aw (by rfl)) (aS)) (UD (k:=k+9) B)) fW) (by rfl) (by decide) (.inl rfl)
    refine aX ?_ ?_
    .refine dM (jg (gM (cq (mV (ns':=["frame"]) (aw (by rfl)) (by first|rfl|kernel_rfl) (λ_=>ko) (by decide) (by rfl) (by decide) (λ_=>gP (by rfl) (by decide) (.inl rfl)) (λ_=>qL (cq (cg (aw (by rfl)) (bk)) (b6) eO)) (λ_=>aw (by rfl))) (c7 (aA (ic (aS)) (aA (ic (aA (c7 (aA (b6) (aA (bk) (aS)))) (aS))) (aS)))) Gd) (gM (cq (c7 (aA (b6) (aA (t') (aS)))) (aw (by rfl)) kx) (ma)))) ?_ ?_
     .refine aX ?_ ?_
      .exact de (jE)
      exact bu
     .exact bu
    refine aX ?_ ?_
    .refine dM (jg (gM (jg (mQ (cq (c7 (aA (b6) (aA (bk) (aS)))) (aw (by rfl)) kx) (mQ (cq (aw (by rfl)) (nQ kj.t) eO) (tZ)))) (gM (jg (mQ (cq (c7 (aA (b6) (aA (bk) (aA (bk) (aS))))) (aw (by rfl)) kx) (mQ (cq (aw (by rfl)) (nQ kj.t) n') (tZ)))) (ma)))) ?_ ?_
     .refine aX ?_ ?_
      .exact de (jE)
      exact bu
     .exact bu
    refine aX ?_ ?_
    .refine dM (CR (ph (cZ (B.X _ _ (FT w.params)) rfl (Ly B) (aA (aw (by rfl)) (aA (aw (by rfl)) (aA (aw (by rfl)) (aA (aw (by rfl)) (aA (aw (by rfl)) (aS)))))) (Ku (k:=k+0) B)))) ?_ ?_
     .refine aX ?_ ?_
      .exact de (jE)
      exact bu
     .exact bu
    exact bu
  refine aX ?_ ?_
  .refine lH (cg (aw (by rfl)) (b6)) (jO (.cons (by rfl) (.inr ⟨rfl,rfl,rfl⟩) (.cons (by rfl) (.inl rfl) (.nil))) (by decide)) ?_
   .unfold IF
    refine aX ?_ ?_
    .exact i9 (cZ (B.X _ _ (Av w.params)) rfl (EA B) (aA (aw (by rfl)) (aA (aw (by rfl)) (aS))) (DS (k:=k+10) B))
    exact bu
  refine aX ?_ ?_
  .first
    |exact my (cZ (B.X _ _ (xj w.params)) rfl (zR B) (aA (ic (aA (c7 (aA (b6) (aA (bk) (aA (ib (nS B) (aA (bk) (aS)) oT) (aS))))) (aA (c7 (aA (b6) (aS))) (aS)))) (aA (bk) (aS))) (zI (k:=k+2) B)) (jO (.cons (by rfl) (.inl rfl) (.cons (by rfl) (.inl rfl) (.nil))) (by decide))
    |exact mx (xs:=["part","left"]) (cZ (B.X _ _ (xj w.params)) rfl (zR B) (aA (ic (aA (c7 (aA (b6) (aA (bk) (aA (ib (nS B) (aA (bk) (aS)) oT) (aS))))) (aA (c7 (aA (b6) (aS))) (aS)))) (aA (bk) (aS))) (zI (k:=k+2) B)) (by rfl) (by repeat (first|exact eg _|refine b0.mpr ⟨.inl rfl,?_⟩|refine b0.mpr ⟨.inr ⟨rfl,rfl,rfl⟩,?_⟩)) (by decide) (by decide)
  refine aX ?_ ?_
  .refine dM (jg (gM (CR (ph (cZ (B.X _ _ (MZ w.params)) rfl (Vx B) (aA (aw (by rfl)) (aA (aw (by rfl)) (aS))) (UB (k:=k+10) B)))) (gM (cq (aw (by rfl)) (ic (aA (c7 (aA (b6) (aA (bk) (aA (ib (nS B) (aA (bk) (aS)) oT) (aS))))) (aS))) n') (gM (cq (aw (by rfl)) (ic (aA (c7 (aA (b6) (aA (bk) (aA (ib (nS B) (aA (bk) (aS)) oT) (aS))))) (aA (c7 (aA (b6) (aS))) (aS)))) n') (ma))))) ?_ ?_
   .refine aX ?_ ?_
    .exact de (jE)
    exact bu
   .exact bu
  refine aX ?_ ?_
  .refine dM (cq (ie kK PySem.F.slot_list_count PySem.F.type_list_count kA (cg (aw (by rfl)) (b6)) (aA (c7 (aA (b6) (aA (t') (aS)))) (aS)) Zb) (bk) n') ?_ ?_
   .refine aX ?_ ?_
    .exact de (jE)
    exact bu
   .exact bu
  refine aX ?_ ?_
  .first
    |exact OZ (ns':=["frame"]) (aw (by rfl)) (by first|rfl|kernel_rfl) (λ_=>ko) (by decide) (by rfl) (by decide) (λ_=>gP (by rfl) (by decide) (.inl rfl)) (λ_=>qL (cq (cg (aw (by rfl)) (bk)) (b6) eO)) (λ_=>aw (by rfl)) (by rfl) (by decide) (.inl rfl) (by rfl)
    |exact eF (mV (ns':=["frame"]) (aw (by rfl)) (by first|rfl|kernel_rfl) (λ_=>ko) (by decide) (by rfl) (by decide) (λ_=>gP (by rfl) (by decide) (.inl rfl)) (λ_=>qL (cq (cg (aw (by rfl)) (bk)) (b6) eO)) (λ_=>aw (by rfl))) (by rfl) (by decide) (.inl rfl)
  refine aX ?_ ?_
  .exact de (DL (wt (cg (aw (by rfl)) (bk)) (cg (aw (by rfl)) (b6)) kx) (wt (mV (ns':=["frame"]) (cg (aw (by rfl)) (b6)) (by first|rfl|kernel_rfl) (λ_=>ko) (by decide) (by rfl) (by decide) (λ_=>gP (by rfl) (by decide) (.inl rfl)) (λ_=>qL (cq (cg (aw (by rfl)) (bk)) (b6) eO)) (λ_=>aw (by rfl))) (ic (aS)) n'))
  exact bu
 refine zH (prog:=prog) (w:=w) (fa:=313) (o:=Ex) (fd:=zK) (body:=zo) (xs:=["script"]) (ns:=["script","pool","given","room","now","done","blocked","world","anew","turn","first","due","lost","kind","row","part","left","names"]) (m:=17) (D:=vK) (k:=k+11) B ?g1 ?g2 ?g3 ?g4 ?g5 ?g6 ?g7 ?g8 ?g9 ?g10 ?g11 ?g12 ?g13
 case g10=>with_reducible exact ai
 case g1=>exact B.X _ _ (Yu w.params)
 case g3=>exact fz B.X (by kernel_rfl)
 case g5=>exact jX λ_=>rfl
 case g7=>exact⟨_,rfl⟩
 case g8=>decide
 case g9=>decide
 all_goals rfl
end
end Internal
namespace Internal
open PySem PySem.W PyProof.Rows PySem.Calls
theorem S8:qT.name="law":=by kernel_rfl
theorem XW(pure:∀l:List Int,l.length<=63->∃a4,y6 [.bB (l.map C.int)] ⟨λ_=>none,0⟩=some (.bool true,a4)):PySem.Challenge.rw_nz0352_01.Holds:=by
 refine head ?_
 intro w p9 bw lC pW G zf fa o p3 qM doc wm xa aK aD kU ar E3 a0 args qb as mi ui Ff Xl WH
 have X:(KK w.params).In bw.heap:=kIn_of zf
 refine Ground.open G ?_
 intro T B D TE QK
 have ai:b3 (KK w.params) bw.heap:=⟨X,⟨lC,pW,T.g,T.b,λx ay=>T.builtins x ay⟩,T.nolimit⟩
 have Wq:fa=313:=by
  have e:nsIn (KK w.params) c1 "law"=some (some (.ref 313)):=by kernel_rfl
  have:=mg_of X T.g e
  rw[S8] at E3
  exact(kM (cx (this.symm.trans E3))).symm
 subst Wq
 clear D TE QK B aK aD kU ar E3
 wrow_args mi ui Ff Xl WH
 rename_i l hs agR agN sH pJ agK km X8 items agY V6 agT n2 uq jH Fg EN q4
 obtain⟨a4,hp⟩:=pure l (by exact aE.aci EN)
 have R:bL Challenge.rw_nz0352_01.row.prog w bw.heap ⟨λa=>match bw.heap.get? a with|some o=>.imm o|none=>.free,λ_=>0⟩ ⟨λ_=>none,0⟩ bw.heap:=by
  refine⟨?_,λa o e=>by simp only[e],λa o e=>?_,λa o e=>?_,λa e=>?_,λc x e=>(nomatch e),λc _=>rfl⟩
  .obtain⟨o,es,n,h,_⟩:=T.g
   exact⟨o,h⟩
  .dsimp only at e;split at e
   .rename_i h;cases e;exact h
   .cases e
  .dsimp only at e;split at e<;>cases e
  .dsimp only at e;split at e
   .exact⟨_,by assumption⟩
   .exact absurd rfl e
 have aH:fA callerA 12:=⟨rfl,by decide,by decide,rfl⟩
 have adH:∀{vs:List af} {is:List Int},IntsAre vs is->∀W n,bH Challenge.rw_nz0352_01.row.prog w W n (is.map C.int) vs:=by
  intro vs is h W n
  induction h with
  |nil=>exact .nil
  |cons _ _ _ a7=>exact .cons (.int _ _) a7
 obtain⟨Zs,WZ,E9,gb,oL⟩:=V6
 refine UH (k:=0) ai callerA _ _ _ _ a4 [.ref X8] bw _ _ aH hp R (.cons (.bB (o:=Zs) (items:=items.toArray) (k:=gb) ?_ E9 oL (adH jH _ _)) .nil) ?_
 .simp only[WZ]
 intro W' ax h' c6 le agX ed gf
 cases gf
 refine⟨.inl ⟨_,.bool true,[],rfl,λ_=>rfl,.bool _,?_,λ_=>⟨ql,nofun⟩⟩,.of_keep ed.old,rfl,.of_eq a0⟩
 wrow_post
end Internal
namespace Internal
open PySem PySem.W PyProof.Rows PySem.Calls
inductive ba {α:Type} (m:Option (α×St)) (Q:α->St->Prop):Prop
 |mk (a:α) (s:St) (e:m=some (a,s)) (h:Q a s):ba m Q
inductive dV (m:Option (dp×Loc×St)) (Q:dp->Loc->St->Prop):Prop
 |mk (f:dp) (l:Loc) (s:St) (e:m=some (f,l,s)) (h:Q f l s):dV m Q
section
variable{α b':Type}{Q:α->St->Prop}{kN:dp->Loc->St->Prop}
theorem ba.bb{m:Option (α×St)}{l3:α->St->Prop}(h:ba m Q)(cn:∀a σ,Q a σ->l3 a σ):ba m l3:=by
 obtain⟨a,s,e,h⟩:=h;exact⟨a,s,e,cn _ _ h⟩
theorem ba.gs{m:Option (α×St)}{x:α}{R:St->Prop}(h:ba m λv s=>v=x/\R s)(k:∀s,R s->Q x s):ba m Q:=h.bb λa s e=>by rw[e.1];exact k s e.2
theorem dV.bb{m:Option (dp×Loc×St)}{l3:dp->Loc->St->Prop}(h:dV m kN)(cn:∀f l σ,kN f l σ->l3 f l σ):dV m l3:=by
 obtain⟨f,l,s,e,h⟩:=h;exact⟨f,l,s,e,cn _ _ _ h⟩
theorem ba.bind{m:Option (b'×St)}{f:b'×St->Option (α×St)}(h:ba m λb s=>ba (f (b,s)) Q):ba (m.bind f) Q:=by
 obtain⟨b,s,rfl,a,a8,dw,h⟩:=h;exact⟨a,a8,dw,h⟩
theorem ba.hx{m:Option (b'×St)}{f:b'×St->Option (dp×Loc×St)}(h:ba m λb s=>dV (f (b,s)) kN):dV (m.bind f) kN:=by
 obtain⟨b,s,rfl,a,l,a8,dw,h⟩:=h;exact⟨a,l,a8,dw,h⟩
theorem dV.hx{m:Option (dp×Loc×St)}{f:dp×Loc×St->Option (dp×Loc×St)}(h:dV m λa l s=>dV (f (a,l,s)) kN):dV (m.bind f) kN:=by
 obtain⟨b,k,s,rfl,a,l,a8,dw,h⟩:=h;exact⟨a,l,a8,dw,h⟩
theorem aM.wp{m:Option (α×St)}(h:aM m Q):ba m Q:=by
 match m,h with
 |some (a,s),h=>exact⟨a,s,rfl,h⟩
theorem hQ.map{m:Option b'}{f:b'->α×St}(h:hQ m λb=>Q (f b).1 (f b).2):ba (m.map f) Q:=by
 match m,h with
 |some b,h=>exact⟨_,_,rfl,h⟩
theorem hQ.hx{m:Option b'}{f:b'->Option (dp×Loc×St)}(h:hQ m λb=>dV (f b) kN):dV (m.bind f) kN:=by
 match m,h with
 |some b,h=>exact h
theorem hQ.O8{m:Option b'}{f:b'->dp×Loc×St}(h:hQ m λb=>kN (f b).1 (f b).2.1 (f b).2.2):dV (m.map f) kN:=by
 match m,h with
 |some b,h=>exact⟨_,_,_,rfl,h⟩
noncomputable def d9(b:Bool)(A B:Prop):Prop:=match b with
 |true=>A
 |false=>B
theorem ba.some{a:α}{s:St}(h:Q a s):ba (some (a,s)) Q:=⟨a,s,rfl,h⟩
theorem dV.some{a:dp}{l:Loc}{s:St}(h:kN a l s):dV (some (a,l,s)) kN:=⟨a,l,s,rfl,h⟩
theorem d9.wp{b:Bool}{m n:Option (α×St)}(h:d9 b (ba m Q) (ba n Q)):ba (if b=true then m else n) Q:=by
 cases b<;>exact h
theorem d9.qd{b:Bool}{m n:Option (dp×Loc×St)}(h:d9 b (dV m kN) (dV n kN)):dV (if b=true then m else n) kN:=by
 cases b<;>exact h
theorem d9.of{b:Bool}{A B HA Il:Prop}(h:d9 b A B)(ha:A->HA)(ai:B->Il):d9 b HA Il:=by
 cases b
 .exact ai h
 .exact ha h
inductive r1 (v:C) (s:St) (P:List C->Prop):Prop
 |mk (items:List C) (e:eD v s=some items) (h:P items):r1 v s P
theorem dW{v:C}{s:St}{P:List C->Prop}{items:List C}(e:eD v s=some items)(h:P items):r1 v s P:=⟨items,e,h⟩
noncomputable def rj(v:C)(Q:Bool->Prop):Prop:=match v with
 |.bool b=>Q b
 |_=>False
theorem rj.cR{v:C}{Q:Bool->Prop}(h:rj v Q):∃b,v=.bool b/\Q b:=
 C.casesOn (motive_1:=λv=>rj v Q->∃b,v=.bool b/\Q b) v dA (λb h=>⟨b,rfl,h⟩) (λ_ h=>dA h) (λ_ h=>dA h) (λ_ h=>dA h) (λ_ h=>dA h) (λ_ h=>dA h) (λ_ h=>dA h) (λ_ _ _ h=>dA h) (λ_ h=>dA h) (λ_ h=>dA h) h
end
structure TE where
 d:cy
 p:Loc->St->(C->St->Prop)->Prop
 h:∀{aa σ Q},p aa σ Q->ba (d aa σ) Q
structure f3 where
 d:gj
 p:Loc->St->(Bool->St->Prop)->Prop
 h:∀{aa σ Q},p aa σ Q->ba (d aa σ) Q
structure l5 where
 d:iZ
 p:Loc->St->(List C->St->Prop)->Prop
 h:∀{aa σ Q},p aa σ Q->ba (d aa σ) Q
structure tQ where
 d:qE
 p:Loc->St->(List (C×C)->St->Prop)->Prop
 h:∀{aa σ Q},p aa σ Q->ba (d aa σ) Q
structure cp where
 d:ck
 p:Loc->St->(dp->Loc->St->Prop)->Prop
 h:∀{aa σ Q},p aa σ Q->dV (d aa σ) Q
noncomputable section
namespace TE
noncomputable def px:TE:=⟨Internal.px,λ_ _ _=>False,dA⟩
noncomputable def J(i:Nat):TE:=⟨Internal.J i,λaa σ Q=>match aa[i]? with|some (some v)=>Q v σ|_=>False,λ{aa σ Q} h=>by
 revert h
 unfold Internal.J
 generalize aa[i]? =o
 intro h
 rcases o with _|_|v
 .exact dA h
 .exact dA h
 .exact .some h⟩
noncomputable def U(v:C):TE:=⟨Internal.U v,λ_ σ Q=>Q v σ,ba.some⟩
noncomputable def ah(F:b4)(a b:TE):TE:=⟨Internal.ah F a.d b.d,λaa σ Q=>a.p aa σ λx s=>b.p aa s λy t=>aM (F [x,y] t) Q,
 λh=>ba.bind ((a.h h).bb λ_ _ h=>ba.bind ((b.h h).bb λ_ _ h=>h.wp))⟩
noncomputable def k8(F:b4)(a:TE):TE:=⟨Internal.k8 F a.d,λaa σ Q=>a.p aa σ λx s=>aM (F [x] s) Q,λh=>ba.bind ((a.h h).bb λ_ _ h=>h.wp)⟩
noncomputable def ft(t:f3)(a b:TE):TE:=⟨Internal.ft t.d a.d b.d,λaa σ Q=>t.p aa σ λc s=>d9 c (a.p aa s Q) (b.p aa s Q),
 λh=>ba.bind ((t.h h).bb λ_ _ h=>d9.wp (h.of a.h b.h))⟩
theorem GQ{n:Nat}{v:C}{s:St}{Q:C->St->Prop}(h:d9 (o7 n 1000000) (Q v s) False):ba (if n<=1000000 then some (v,s) else none) Q:=by
 cases e:o7 n 1000000 with
 |false=>rw[e] at h;exact h.elim
 |true=>rw[e] at h;rw[if_pos (rJ e)];exact .some h
noncomputable def b5(l:l5):TE:=⟨Internal.b5 l.d,λaa σ Q=>l.p aa σ λas s=>d9 (o7 as.length 1000000) (Q (.bA as) s) False,λh=>ba.bind ((l.h h).bb λ_ _ h=>GQ h)⟩
noncomputable def d'(l:l5):TE:=⟨Internal.d' l.d,λaa σ Q=>l.p aa σ λas s=>d9 (o7 as.length 1000000) (Q (.bB as) s) False,λh=>ba.bind ((l.h h).bb λ_ _ h=>GQ h)⟩
noncomputable def hI(l:l5):TE:=⟨Internal.hI l.d,λaa σ Q=>l.p aa σ λas s=>d9 (o7 as.length 1000000) (Q (.ref s.next) (s.new (.list as))) False,λh=>ba.bind ((l.h h).bb λ_ _ h=>GQ h)⟩
noncomputable def bq(F:b4)(l:l5):TE:=⟨Internal.bq F l.d,λaa σ Q=>l.p aa σ λas s=>ba (F as s) Q,λh=>ba.bind (l.h h)⟩
noncomputable def eQ(F:b4)(l:l5):TE:=⟨Internal.bq F l.d,λaa σ Q=>l.p aa σ λas s=>aM (F as s) Q,λh=>ba.bind ((l.h h).bb λ_ _ h=>h.wp)⟩
noncomputable def ek(jY:C->St->Bool)(F:b4)(o:TE)(l:l5):TE:=⟨Internal.ek jY F o.d l.d,λaa σ Q=>o.p aa σ λv s=>d9 (jY v s) (l.p aa s λas t=>aM (F (v::as) t) Q) False,
 λh=>ba.bind ((o.h h).bb λ_ _ h=>d9.wp (h.of (λh=>ba.bind ((l.h h).bb λ_ _ h=>h.wp)) dA))⟩
noncomputable def AA(jY:C->St->Bool)(F:b4)(o:TE)(l:l5):TE:=⟨Internal.ek jY F o.d l.d,λaa σ Q=>o.p aa σ λv s=>d9 (jY v s) (l.p aa s λas t=>ba (F (v::as) t) Q) False,
 λh=>ba.bind ((o.h h).bb λ_ _ h=>d9.wp (h.of (λh=>ba.bind (l.h h)) dA))⟩
inductive Gp (v:C) (s:St) (A:Nat->Prop):Prop
 |mk (c:Nat) (x:Option C) (hn:v=.ref c) (e:s.cells c=some (.inst x)) (h:A c):Gp v s A
noncomputable def mn(F:b4)(o:TE)(l:l5):TE:=⟨Internal.mn F o.d l.d,λaa σ Q=>o.p aa σ λv s=>Gp v s λc=>l.p aa s λas t=>ba (F (.ref c::as) t) Q,
 λh=>ba.bind ((o.h h).bb λv s q=>by obtain⟨c,x,hn,e,h⟩:=q;subst hn;dsimp only;rw[e];exact ba.bind (l.h h))⟩
noncomputable def j'(o l u:TE):TE:=⟨Internal.j' o.d l.d u.d,λaa σ Q=>o.p aa σ λx s=>l.p aa s λy t=>u.p aa t λz r=>hQ (kz x y z) λv=>Q v r,
 λh=>ba.bind ((o.h h).bb λ_ _ h=>ba.bind ((l.h h).bb λ_ _ h=>ba.bind ((u.h h).bb λ_ _ h=>hQ.map h)))⟩
noncomputable def hW(x:cO):TE:=⟨Internal.hW x,λ_ σ Q=>Q (.ref σ.next) (σ.new x),ba.some⟩
noncomputable def mT(x:cO)(l:tQ):TE:=⟨Internal.mT x l.d,λaa σ Q=>l.p aa (σ.new x) λps s=>hQ (qU σ.next ps s) λa8=>Q (.ref σ.next) a8,λh=>ba.bind ((l.h h).bb λ_ _ h=>hQ.map h)⟩
noncomputable def DA(src:TE)(gm:Loc->Loc)(bind:C->Loc->Option Loc)(t:f3)(ej:TE)(aa:Loc)(σ:St)(Q:List C->St->Prop):Prop:=
 src.p aa σ λv s=>r1 v s λitems=>ba (oD v items bind t.d ej.d items [] (gm aa) s) Q
theorem JY{src:TE}{gm:Loc->Loc}{bind:C->Loc->Option Loc}{t:f3}{ej:TE}{aa:Loc}{σ:St}{Q:List C->St->Prop}(h:DA src gm bind t ej aa σ Q):ba (zu src.d gm bind t.d ej.d aa σ) Q:=
 ba.bind ((src.h h).bb λ_ _ q=>by obtain⟨items,e,h⟩:=q;dsimp only;rw[e];exact h)
noncomputable def gx(src:TE)(gm:Loc->Loc)(bind:C->Loc->Option Loc)(t:f3)(ej:TE):TE:=⟨Internal.gx src.d gm bind t.d ej.d,λaa σ Q=>DA src gm bind t ej aa σ λvs s=>Q (.bB vs) s,λh=>ba.bind ((JY h).bb λ_ _ h=>.some h)⟩
noncomputable def qR(src:TE)(gm:Loc->Loc)(bind:C->Loc->Option Loc)(t:f3)(ej:TE):TE:=⟨Internal.qR src.d gm bind t.d ej.d,λaa σ Q=>DA src gm bind t ej aa σ λvs s=>Q (.ref s.next) (s.new (.list vs)),λh=>ba.bind ((JY h).bb λ_ _ h=>.some h)⟩
inductive Pb (v:C) (s:St) (Q:C->Prop):Prop
 |mk (es:List (List aT×C)) (l:List Int) (e:hy v s=some es) (hK:i3 (es.map (·.2))=some l) (dx:es.length<=6) (h:Q (.bB (p8 (uK l) (es.map (·.2))))):Pb v s Q
noncomputable def xM(o:TE):TE:=⟨Internal.xM o.d,λaa σ Q=>o.p aa σ λv s=>Pb v s λx=>Q x s,λh=>ba.bind ((o.h h).bb λv s q=>by
 obtain⟨es,l,e,hK,dx,h⟩:=q
 dsimp only
 rw[e,oq,hK,oq,if_pos dx];exact .some h)⟩
inductive CQ (v:C) (s:St) (Q:C->Prop):Prop
 |mk (c:Nat) (es:List (aT×C)) (hn:v=.ref c) (e:s.cells c=some (.inst (some (.cV es)))) (h:Q (.cV es)):CQ v s Q
noncomputable def l9(o:TE):TE:=⟨Internal.l9 o.d,λaa σ Q=>o.p aa σ λv s=>CQ v s λx=>Q x s,λh=>ba.bind ((o.h h).bb λv s q=>by obtain⟨c,es,hn,e,h⟩:=q;subst hn;dsimp only;rw[e];exact .some h)⟩
noncomputable def oA(a b:TE):TE:=⟨Internal.oA a.d b.d,λaa σ Q=>a.p aa σ λv s=>rj v λc=>d9 c (b.p aa s Q) (Q (.bool false) s),λh=>ba.bind ((a.h h).bb λv s h=>by
 obtain⟨c,e,h⟩:=h.cR
 subst e
 cases c
 .exact .some h
 .exact b.h h)⟩
noncomputable def xn:TE:=⟨Internal.xn,λ_ σ Q=>Q (.ref σ.next) (σ.new (.inst (some (.cV [])))),ba.some⟩
end TE
namespace f3
noncomputable def boolOf(a:TE):f3:=⟨Internal.boolOf a.d,λaa σ Q=>a.p aa σ λv s=>rj v λb=>Q b s,λ{aa σ Q} h=>by
 obtain⟨v,s,e,h⟩:=a.h h
 obtain⟨c,bj,h⟩:=h.cR
 subst bj
 exact⟨_,s,by unfold Internal.boolOf;rw[e],h⟩⟩
noncomputable def pY(a:f3):f3:=⟨Internal.pY a.d,λaa σ Q=>a.p aa σ λb s=>Q (!b) s,λh=>ba.bind ((a.h h).bb λ_ _ h=>.some h)⟩
noncomputable def gk(a b:f3):f3:=⟨Internal.gk a.d b.d,λaa σ Q=>a.p aa σ λc s=>d9 c (b.p aa s Q) (Q false s),λh=>ba.bind ((a.h h).bb λ_ _ h=>d9.wp (h.of b.h .some))⟩
noncomputable def dt(a b:f3):f3:=⟨Internal.dt a.d b.d,λaa σ Q=>a.p aa σ λc s=>d9 c (Q true s) (b.p aa s Q),λh=>ba.bind ((a.h h).bb λ_ _ h=>d9.wp (h.of .some b.h))⟩
noncomputable def fM:f3:=⟨Internal.fM,λ_ σ Q=>Q true σ,ba.some⟩
noncomputable def gy:f3:=⟨Internal.gy,λ_ σ Q=>Q false σ,ba.some⟩
noncomputable def wj(F G:b4)(a b c:TE):f3:=⟨Internal.wj F G a.d b.d c.d,λaa σ Q=>a.p aa σ λx s=>b.p aa s λy t=>aM (F [x,y] t) λr u=>rj r λr=>d9 r (c.p aa u λz u=>aM (G [y,z] u) λq u=>rj q λq=>Q q u) (Q false u),
 λh=>ba.bind ((a.h h).bb λ_ _ h=>ba.bind ((b.h h).bb λ_ _ h=>ba.bind (h.wp.bb λv s h=>by
  obtain⟨q,e,h⟩:=h.cR
  subst e
  cases q
  .exact .some h
  .refine ba.bind ((c.h h).bb λz u h=>ba.bind (h.wp.bb λv s h=>?_))
   obtain⟨q,e,h⟩:=h.cR
   subst e
   exact .some h)))⟩
end f3
namespace l5
noncomputable def av:l5:=⟨Internal.av,λ_ σ Q=>Q [] σ,ba.some⟩
noncomputable def ae(a:TE)(l:l5):l5:=⟨Internal.ae a.d l.d,λaa σ Q=>a.p aa σ λx s=>l.p aa s λxs t=>Q (x::xs) t,λh=>ba.bind ((a.h h).bb λ_ _ h=>ba.bind ((l.h h).bb λ_ _ h=>.some h))⟩
end l5
namespace tQ
noncomputable def mr:tQ:=⟨Internal.mr,λ_ σ Q=>Q [] σ,ba.some⟩
noncomputable def h9(k v:TE)(l:tQ):tQ:=⟨Internal.h9 k.d v.d l.d,λaa σ Q=>k.p aa σ λx s=>v.p aa s λy t=>l.p aa t λxs u=>Q ((x,y)::xs) u,
 λh=>ba.bind ((k.h h).bb λ_ _ h=>ba.bind ((v.h h).bb λ_ _ h=>ba.bind ((l.h h).bb λ_ _ h=>.some h)))⟩
end tQ
namespace cp
noncomputable def nR:cp:=⟨Internal.nR,λ_ _ _=>False,dA⟩
noncomputable def aG:cp:=⟨Internal.aG,λaa σ Q=>Q .next aa σ,dV.some⟩
noncomputable def GK(b:cp)(Q:dp->Loc->St->Prop)(f:dp)(l:Loc)(s:St):Prop:=match f with
 |.next=>b.p l s Q
 |f=>Q f l s
noncomputable def aq(a b:cp):cp:=⟨Internal.aq a.d b.d,λaa σ Q=>a.p aa σ (GK b Q),λh=>dV.hx ((a.h h).bb λf l s h=>by
 cases f
 .exact b.h h
 all_goals exact .some h)⟩
noncomputable def cC(i:Nat)(a:TE):cp:=⟨Internal.cC i a.d,λaa σ Q=>a.p aa σ λv s=>Q .next (aa.set i (some v)) s,λh=>ba.hx ((a.h h).bb λ_ _ h=>.some h)⟩
noncomputable def bP(a:TE):cp:=⟨Internal.bP a.d,λaa σ Q=>a.p aa σ λv s=>Q (.ret v) aa s,λh=>ba.hx ((a.h h).bb λ_ _ h=>.some h)⟩
noncomputable def b9(t:f3)(a b:cp):cp:=⟨Internal.b9 t.d a.d b.d,λaa σ Q=>t.p aa σ λc s=>d9 c (a.p aa s Q) (b.p aa s Q),λh=>ba.hx ((t.h h).bb λ_ _ h=>d9.qd (h.of a.h b.h))⟩
noncomputable def gp(src:TE)(bind:C->Loc->Option Loc)(body:cp):cp:=⟨Internal.gp src.d bind body.d,λaa σ Q=>src.p aa σ λv s=>r1 v s λitems=>dV (pV v items bind body.d items aa s) Q,
 λh=>ba.hx ((src.h h).bb λ_ _ q=>by obtain⟨items,e,h⟩:=q;dsimp only;rw[e];exact h)⟩
noncomputable def pz(src:TE)(bind:C->Loc->Option Loc)(body:cp):cp:=⟨Internal.pz src.d bind body.d,λaa σ Q=>src.p aa σ λv s=>r1 v s λitems=>((fU v s).isSome=true\/∃b,v=.bytes b)/\dV (n8 v items bind body.d 0 items aa s) Q,
 λh=>ba.hx ((src.h h).bb λv s q=>by obtain⟨items,e,h1,h2⟩:=q;dsimp only;rw[e,oq,if_pos h1];exact h2)⟩
noncomputable def rx(t:f3)(body:cp):cp:=⟨Internal.rx t.d body.d,λaa σ Q=>dV (oS t.d body.d 1000000 aa σ) Q,id⟩
noncomputable def iE(a o i:TE):cp:=⟨Internal.iE a.d o.d i.d,λaa σ Q=>a.p aa σ λv s=>o.p aa s λx t=>i.p aa t λy u=>hQ (lF x y v u) λa4=>Q .next aa a4,
 λh=>ba.hx ((a.h h).bb λ_ _ h=>ba.hx ((o.h h).bb λ_ _ h=>ba.hx ((i.h h).bb λ_ _ h=>hQ.O8 h)))⟩
noncomputable def xO(a o i:TE):cp:=⟨Internal.xO a.d o.d i.d,λaa σ Q=>a.p aa σ λv s=>o.p aa s λx t=>i.p aa t λy u=>hQ (p4 x y v u) λa4=>Q .next aa a4,
 λh=>ba.hx ((a.h h).bb λ_ _ h=>ba.hx ((o.h h).bb λ_ _ h=>ba.hx ((i.h h).bb λ_ _ h=>hQ.O8 h)))⟩
noncomputable def eB(a:TE):cp:=⟨Internal.eB a.d,λaa σ Q=>a.p aa σ λ_ s=>Q .next aa s,λh=>ba.hx ((a.h h).bb λ_ _ h=>.some h)⟩
noncomputable def wk:cp:=⟨Internal.wk,λaa σ Q=>Q .cont aa σ,dV.some⟩
noncomputable def wi:cp:=⟨Internal.wi,λaa σ Q=>Q .brk aa σ,dV.some⟩
noncomputable def r9(i:Nat)(F:b4)(a:TE):cp:=⟨Internal.r9 i F a.d,λaa σ Q=>(TE.J i).p aa σ λo s=>a.p aa s λr t=>aM (F [o,r] t) λq u=>Q .next (aa.set i (some q)) u,
 λh=>ba.hx (((TE.J i).h h).bb λ_ _ h=>ba.hx ((a.h h).bb λ_ _ h=>ba.hx (h.wp.bb λ_ _ h=>.some h)))⟩
noncomputable def gC(bind:C->Loc->Option Loc)(a:TE):cp:=⟨Internal.gC bind a.d,λaa σ Q=>a.p aa σ λv s=>hQ (bind v aa) λl=>Q .next l s,λh=>ba.hx ((a.h h).bb λ_ _ h=>hQ.hx (by
 revert h;cases bind _ _
 .exact id
 .exact .some))⟩
inductive GN (v o:C) (s:St) (Q:St->Prop):Prop
 |mk (es:List (aT×C)) (c:Nat) (x:Option C) (hn:v=.cV es) (iM:o=.ref c) (e:s.cells c=some (.inst x)) (h:Q (s.aY c (.inst (some (.cV es))))):GN v o s Q
noncomputable def xI(a o:TE):cp:=⟨Internal.xI a.d o.d,λaa σ Q=>a.p aa σ λv s=>o.p aa s λx t=>GN v x t λu=>Q .next aa u,λh=>ba.hx ((a.h h).bb λ_ _ h=>ba.hx ((o.h h).bb λv s q=>by
 obtain⟨es,c,x,hn,iM,e,V1⟩:=q
 subst hn iM;dsimp only;rw[e];exact .some V1))⟩
end cp
end
noncomputable def fE(σ:St)(Q:C->St->Prop)(f:dp)(_:Loc)(s:St):Prop:=match f with
 |.ret v=>Q (oI σ.next s.cells v) (s.cut σ.next)
 |.next=>Q .none (s.cut σ.next)
 |_=>False
theorem gd{A:cp}{D:ck}{n m:Nat}{args:List C}{σ:St}{Q:C->St->Prop}(e:D=A.d)(aJ:args.length=n)(h:A.p (args.map some++kc m none) σ (fE σ Q)):ba (e2 D n m args σ) Q:=by
 subst e
 unfold e2
 rw[if_pos aJ]
 obtain⟨f,l,s,e,h⟩:=A.h h
 rw[e]
 cases f
 .exact .some h
 .exact h.elim
 .exact h.elim
 .exact .some h
end Internal
namespace Internal
open PySem PySem.W PyProof.Rows PySem.Calls
noncomputable section
noncomputable def H3:cp:=.aq (.iE (.J 2) (.J 1) (.bq tL (.ae (.J 3) (.av)))) (.aG)
noncomputable def H2:cp:=.aq (.cC 1 (.hW (.cv []))) (.aq (.pz (.J 0) (eA [2,3]) H3) (.aq (.bP (.gx (.xM (.J 1)) (fi [none,some 0]) (dD 0) (.fM) (.ah bf (.J 1) (.J 0)))) (.aG)))
theorem TL:yP=H2.d:=by kernel_rfl
noncomputable def B':cp:=.aq (.gC (eA [6,7]) (.b5 (.ae (.bq tM (.ae (.ah bf (.J 5) (.U (.int 0))) (.av))) (.ae (.bq tL (.ae (.J 5) (.av))) (.av))))) (.aq (.b9 (.dt (.boolOf (.ah gF (.J 7) (.J 3))) (.dt (.boolOf (.ah cP (.J 6) (.U (.str "holder")))) (.dt (.boolOf (.ah cP (.J 6) (.U (.str "never")))) (.gy)))) (.aq (.wk) (.aG)) (.aG)) (.aq (.b9 (.boolOf (.ah cP (.J 6) (.U (.str "same")))) (.aq (.eB (.ek eJ f7 (.J 4) (.ae (.J 5) (.av)))) (.aG)) (.aq (.b9 (.boolOf (.ah cP (.J 6) (.U (.str "latest")))) (.aq (.eB (.ek eJ f7 (.J 4) (.ae (.ah c3 (.j' (.J 5) (.U .none) (.k8 mq (.U (.int 1)))) (.b5 (.ae (.AA w7 zT (.J 1) (.ae (.J 7) (.ae (.ah bf (.J 5) (.k8 mq (.U (.int 1)))) (.av)))) (.av)))) (.av)))) (.aG)) (.aq (.b9 (.boolOf (.ah gF (.J 7) (.J 2))) (.aq (.eB (.ek eJ f7 (.J 4) (.ae (.ah c3 (.j' (.J 5) (.U .none) (.k8 mq (.U (.int 1)))) (.b5 (.ae (.ah bf (.J 2) (.J 7)) (.av)))) (.av)))) (.aG)) (.aG)) (.aG))) (.aG))) (.aG)))
noncomputable def Ig:cp:=.aq (.cC 4 (.hI (.av))) (.aq (.gp (.J 0) (dD 5) B') (.aq (.bP (.bq vX (.ae (.J 4) (.av)))) (.aG)))
theorem TX:yZ=Ig.d:=by kernel_rfl
noncomputable def HO:cp:=.aq (.bP (.gx (.J 0) (fi [none]) (dD 0) (.boolOf (.ah cP (.bq tM (.ae (.ah bf (.J 0) (.U (.int 0))) (.av))) (.U (.str "holder")))) (.J 0))) (.aG)
theorem TB:yJ=HO.d:=by kernel_rfl
noncomputable def Ie:cp:=.aq (.xO (.ah iB (.J 0) (.U (.int 256))) (.J 2) (.J 3)) (.aq (.cC 0 (.ah wC (.J 0) (.U (.int 256)))) (.aG))
noncomputable def Ic:cp:=.aq (.b9 (.dt (.boolOf (.ah k2 (.J 0) (.U (.int 0)))) (.dt (.boolOf (.ah gY (.ah GP (.J 0) (.ah m9 (.U (.int 8)) (.J 1))) (.U (.int 0)))) (.gy))) (.aq (.nR) (.aG)) (.aG)) (.aq (.cC 2 (.eQ CS (.ae (.J 1) (.av)))) (.aq (.gp (.eQ oe (.ae (.ah lK (.J 1) (.U (.int 1))) (.ae (.k8 mq (.U (.int 1))) (.ae (.k8 mq (.U (.int 1))) (.av))))) (dD 3) Ie) (.aq (.bP (.eQ zq (.ae (.J 2) (.av)))) (.aG))))
theorem TV:yY=Ic.d:=by kernel_rfl
noncomputable def Ii:cp:=.aq (.b9 (.wj sT k2 (.U (.int 0)) (.J 0) (.ah xJ (.U (.int 1)) (.ah lK (.ah m9 (.U (.int 8)) (.J 1)) (.U (.int 2))))) (.aq (.bP (.J 1)) (.aG)) (.aG)) (.aG)
noncomputable def Ih:cp:=.aq (.gp (.U r7) (dD 1) Ii) (.aq (.nR) (.aG))
theorem TY:y0=Ih.d:=by kernel_rfl
noncomputable def Ib:cp:=.aq (.cC 2 (.bq v5 (.ae (.J 0) (.av)))) (.aq (.b9 (.boolOf (.ah ku (.J 1) (.U (.none)))) (.aq (.cC 1 (.J 2)) (.aG)) (.aG)) (.aq (.b9 (.dt (.boolOf (.ah k2 (.J 1) (.J 2))) (.dt (.boolOf (.ah rg (.J 1) (.U r7))) (.gy))) (.aq (.nR) (.aG)) (.aG)) (.aq (.bP (.bq tK (.ae (.ah Gq (.ah xJ (.ek w8 Ab (.U r7) (.ae (.J 1) (.av))) (.ah lK (.ah m9 (.U (.int 8)) (.J 1)) (.U (.int 2)))) (.J 0)) (.ae (.J 1) (.av))))) (.aG))))
theorem TU:yX=Ib.d:=by kernel_rfl
noncomputable def H9:cp:=.aq (.bP (.ek Ad Ah (.U (.bytes [])) (.ae (.gx (.J 0) (fi [none]) (dD 0) (.fM) (.bq rZ (.ae (.J 0) (.ae (.U (.none)) (.av))))) (.av)))) (.aG)
theorem TQ:yU=H9.d:=by kernel_rfl
noncomputable def H6:cp:=.aq (.bP (.ah c3 (.bq rZ (.ae (.eQ f' (.ae (.J 0) (.av))) (.ae (.U (.none)) (.av)))) (.J 0))) (.aG)
theorem TN:yR=H6.d:=by kernel_rfl
noncomputable def Ia:cp:=.aq (.gC (eA [2,3,4,5,6]) (.J 0)) (.aq (.cC 7 (.ah c3 (.ah c3 (.ah c3 (.U CE) (.ft (.boolOf (.J 6)) (.U Ct) (.U (.int 0)))) (.ft (.boolOf (.J 1)) (.U (.int 0)) (.U Cu))) (.ft (.boolOf (.ah kr (.J 4) (.U (.int 0)))) (.U Cv) (.U (.int 0))))) (.aq (.cC 8 (.bq iv (.ae (.ah c3 (.d' (.ae (.J 7) (.ae (.J 3) (.av)))) (.ft (.boolOf (.ah kr (.J 4) (.U (.int 0)))) (.d' (.ae (.J 4) (.av))) (.d' (.av)))) (.av)))) (.aq (.bP (.ah c3 (.J 8) (.ft (.boolOf (.J 1)) (.J 5) (.bq mK (.ae (.J 5) (.av)))))) (.aG))))
theorem TS:yW=Ia.d:=by kernel_rfl
noncomputable def H8:cp:=.aq (.gC (eA [1,2,3,4,5]) (.J 0)) (.aq (.bP (.ah c3 (.ah c3 (.ah c3 (.bq iv (.ae (.d' (.ae (.U CA) (.ae (.J 2) (.ae (.J 3) (.av))))) (.av))) (.eQ hH (.ae (.d' (.ae (.eQ f' (.ae (.J 4) (.av))) (.av))) (.av)))) (.J 4)) (.J 5))) (.aG))
theorem TP:yT=H8.d:=by kernel_rfl
noncomputable def H':cp:=.aq (.cC 1 (.ah bf (.J 0) (.U (.int 0)))) (.aq (.b9 (.boolOf (.ah cP (.J 1) (.U (.str "crypto")))) (.aq (.bP (.ah c3 (.bq iv (.ae (.d' (.ae (.U Cw) (.ae (.ah bf (.J 0) (.U (.int 1))) (.av)))) (.av))) (.bq mK (.ae (.ah bf (.J 0) (.U (.int 2))) (.av))))) (.aG)) (.aG)) (.aq (.b9 (.boolOf (.ah cP (.J 1) (.U (.str "new_token")))) (.aq (.bP (.ah c3 (.bq iv (.ae (.d' (.ae (.U CB) (.av))) (.av))) (.bq mK (.ae (.ah bf (.J 0) (.U (.int 1))) (.av))))) (.aG)) (.aG)) (.aq (.b9 (.dt (.boolOf (.ah cP (.J 1) (.U (.str "path_challenge")))) (.dt (.boolOf (.ah cP (.J 1) (.U (.str "path_response")))) (.gy))) (.aq (.bP (.ah c3 (.bq iv (.ae (.d' (.ae (.ft (.boolOf (.ah cP (.J 1) (.U (.str "path_challenge")))) (.U CC) (.U CD)) (.av))) (.av))) (.ah bf (.J 0) (.U (.int 1))))) (.aG)) (.aG)) (.aq (.b9 (.boolOf (.ah cP (.J 1) (.U (.str "max_streams")))) (.aq (.bP (.bq iv (.ae (.d' (.ae (.ft (.boolOf (.ah bf (.J 0) (.U (.int 1)))) (.U Cz) (.U Cy)) (.ae (.ah bf (.J 0) (.U (.int 2))) (.av)))) (.av)))) (.aG)) (.aG)) (.aq (.b9 (.boolOf (.ah cP (.J 1) (.U (.str "streams_blocked")))) (.aq (.bP (.bq iv (.ae (.d' (.ae (.ft (.boolOf (.ah bf (.J 0) (.U (.int 1)))) (.U CG) (.U CF)) (.ae (.ah bf (.J 0) (.U (.int 2))) (.av)))) (.av)))) (.aG)) (.aG)) (.aq (.bP (.U (.none))) (.aG)))))))
theorem TR:yV=H'.d:=by kernel_rfl
noncomputable def H7:cp:=.aq (.cC 1 (.ah bf (.J 0) (.U (.int 0)))) (.aq (.b9 (.boolOf (.ah cP (.J 1) (.U (.str "padding")))) (.aq (.bP (.eQ hH (.ae (.px) (.av)))) (.aG)) (.aG)) (.aq (.b9 (.boolOf (.ah gF (.J 1) (.U tS))) (.aq (.bP (.bq iv (.ae (.ah c3 (.d' (.ae (.ah bf (.U tS) (.J 1)) (.av))) (.eQ pT (.ae (.j' (.J 0) (.U (.int 1)) (.U .none)) (.av)))) (.av)))) (.aG)) (.aG)) (.aq (.b9 (.boolOf (.ah cP (.J 1) (.U (.str "ack")))) (.aq (.bP (.px)) (.aG)) (.aG)) (.aq (.b9 (.boolOf (.ah cP (.J 1) (.U (.str "stream")))) (.aq (.bP (.bq vZ (.ae (.J 0) (.ae (.U (.bool false)) (.av))))) (.aG)) (.aG)) (.aq (.b9 (.boolOf (.ah cP (.J 1) (.U (.str "new_connection_id")))) (.aq (.bP (.bq vY (.ae (.J 0) (.av)))) (.aG)) (.aG)) (.aq (.b9 (.boolOf (.ah cP (.J 1) (.U (.str "close")))) (.aq (.bP (.px)) (.aG)) (.aG)) (.aq (.cC 2 (.bq tJ (.ae (.J 0) (.av)))) (.aq (.b9 (.boolOf (.ah ku (.J 2) (.U (.none)))) (.aq (.nR) (.aG)) (.aG)) (.aq (.bP (.J 2)) (.aG))))))))))
theorem TO:yS=H7.d:=by kernel_rfl
noncomputable def HN:cp:=.aq (.bP (.eQ f' (.ae (.bq o' (.ae (.J 0) (.av))) (.av)))) (.aG)
theorem TA:yI=HN.d:=by kernel_rfl
noncomputable def HJ:cp:=.aq (.bP (.ft (.boolOf (.ah cP (.ah bf (.J 0) (.U (.int 0))) (.U (.str "crypto")))) (.ah bf (.J 0) (.U (.int 2))) (.ah bf (.J 0) (.U (.int 3))))) (.aG)
theorem Tw:yF=HJ.d:=by kernel_rfl
noncomputable def Ik:cp:=.aq (.b9 (.boolOf (.ah cP (.ah bf (.J 0) (.U (.int 0))) (.U (.str "crypto")))) (.aq (.bP (.b5 (.ae (.U (.str "crypto")) (.ae (.ah c3 (.ah bf (.J 0) (.U (.int 1))) (.J 1)) (.ae (.J 2) (.av)))))) (.aG)) (.aG)) (.aq (.bP (.b5 (.ae (.U (.str "stream")) (.ae (.ah bf (.J 0) (.U (.int 1))) (.ae (.ah c3 (.ah bf (.J 0) (.U (.int 2))) (.J 1)) (.ae (.J 2) (.ae (.J 3) (.av)))))))) (.aG))
theorem T1:y2=Ik.d:=by kernel_rfl
noncomputable def Qm:cp:=.aq (.r9 3 lK (.U (.int 1))) (.aG)
noncomputable def HK:cp:=.aq (.cC 2 (.bq rV (.ae (.J 0) (.av)))) (.aq (.b9 (.boolOf (.ah kr (.bq lj (.ae (.bq kk (.ae (.J 0) (.ae (.U (.int 0)) (.ae (.U (.bytes [])) (.ae (.U (.bool false)) (.av)))))) (.av))) (.J 1))) (.aq (.bP (.k8 mq (.U (.int 1)))) (.aG)) (.aG)) (.aq (.cC 3 (.eQ F3 (.ae (.eQ f' (.ae (.J 2) (.av))) (.ae (.ah lK (.J 1) (.bq lj (.ae (.bq kk (.ae (.J 0) (.ae (.U (.int 0)) (.ae (.U (.bytes [])) (.ae (.U (.bool false)) (.av)))))) (.av)))) (.av))))) (.aq (.rx (.boolOf (.ah kr (.bq lj (.ae (.bq kk (.ae (.J 0) (.ae (.U (.int 0)) (.ae (.j' (.J 2) (.U .none) (.J 3)) (.ae (.U (.bool false)) (.av)))))) (.av))) (.J 1))) Qm) (.aq (.bP (.J 3)) (.aG)))))
theorem Tx:yG=HK.d:=by kernel_rfl
noncomputable def HI:cp:=.aq (.b9 (.boolOf (.ah sT (.bq lj (.ae (.J 0) (.av))) (.J 1))) (.aq (.bP (.b5 (.ae (.J 0) (.ae (.U (.none)) (.av))))) (.aG)) (.aG)) (.aq (.b9 (.boolOf (.ah rg (.ah bf (.J 0) (.U (.int 0))) (.U Cx))) (.aq (.bP (.b5 (.ae (.U (.none)) (.ae (.J 0) (.av))))) (.aG)) (.aG)) (.aq (.gC (eA [2,3]) (.b5 (.ae (.bq vQ (.ae (.J 0) (.ae (.J 1) (.av)))) (.ae (.bq rV (.ae (.J 0) (.av))) (.av))))) (.aq (.b9 (.dt (.boolOf (.ah k2 (.J 2) (.U (.int 1)))) (.dt (.boolOf (.ah EH (.J 2) (.eQ f' (.ae (.J 3) (.av))))) (.gy))) (.aq (.bP (.b5 (.ae (.U (.none)) (.ae (.J 0) (.av))))) (.aG)) (.aG)) (.aq (.cC 4 (.oA (.ah cP (.ah bf (.J 0) (.U (.int 0))) (.U (.str "stream"))) (.ah bf (.J 0) (.U (.int 4))))) (.aq (.bP (.b5 (.ae (.bq kk (.ae (.J 0) (.ae (.U (.int 0)) (.ae (.j' (.J 3) (.U .none) (.J 2)) (.ae (.U (.bool false)) (.av)))))) (.ae (.bq kk (.ae (.J 0) (.ae (.J 2) (.ae (.j' (.J 3) (.J 2) (.U .none)) (.ae (.J 4) (.av)))))) (.av))))) (.aG))))))
theorem Tv:yE=HI.d:=by kernel_rfl
noncomputable def HM:cp:=.aq (.gC (eA [5,6]) (.bq vP (.ae (.J 4) (.ae (.J 1) (.av))))) (.aq (.b9 (.boolOf (.ah m5 (.J 5) (.U (.none)))) (.aq (.eB (.ek eJ f7 (.J 2) (.ae (.J 5) (.av)))) (.aq (.r9 1 lK (.bq lj (.ae (.J 5) (.av)))) (.aG))) (.aG)) (.aq (.b9 (.boolOf (.ah m5 (.J 6) (.U (.none)))) (.aq (.eB (.ek eJ f7 (.J 3) (.ae (.J 6) (.av)))) (.aG)) (.aG)) (.aG)))
noncomputable def HL:cp:=.aq (.gC (eA [2,3]) (.b5 (.ae (.hI (.av)) (.ae (.hI (.av)) (.av))))) (.aq (.gp (.J 0) (dD 4) HM) (.aq (.bP (.b5 (.ae (.J 2) (.ae (.J 3) (.av))))) (.aG)))
theorem Tz:yH=HL.d:=by kernel_rfl
noncomputable def HQ:cp:=.aq (.gC (eA [4,5]) (.bq rW (.ae (.J 3) (.ae (.J 1) (.av))))) (.aq (.b9 (.boolOf (.ah cP (.eQ f' (.ae (.J 4) (.av))) (.U (.int 0)))) (.aq (.bP (.U (.none))) (.aG)) (.aG)) (.aq (.eB (.ek eJ f7 (.J 2) (.ae (.J 4) (.av)))) (.aq (.cC 3 (.J 5)) (.aG))))
noncomputable def HP:cp:=.aq (.gC (eA [2,3]) (.b5 (.ae (.hI (.av)) (.ae (.eQ pT (.ae (.J 0) (.av))) (.av))))) (.aq (.rx (.boolOf (.ah kr (.eQ f' (.ae (.J 3) (.av))) (.U (.int 0)))) HQ) (.aq (.bP (.J 2)) (.aG)))
theorem TC:yK=HP.d:=by kernel_rfl
noncomputable def H5:cp:=.aq (.cC 3 (.AA sQ q0 (.J 0) (.ae (.J 2) (.av)))) (.aq (.b9 (.gk (.boolOf (.ah m5 (.J 3) (.U (.none)))) (.gk (.dt (.boolOf (.ah ku (.J 1) (.U (.none)))) (.dt (.boolOf (.ah k2 (.J 3) (.ah bf (.J 1) (.U (.int 0))))) (.gy))) (.fM))) (.aq (.cC 1 (.b5 (.ae (.J 3) (.ae (.J 2) (.av))))) (.aG)) (.aG)) (.aG))
noncomputable def H4:cp:=.aq (.cC 1 (.U (.none))) (.aq (.gp (.U kO) (dD 2) H5) (.aq (.bP (.J 1)) (.aG)))
theorem TM:yQ=H4.d:=by kernel_rfl
noncomputable def HH:cp:=.aq (.cC 4 (.AA sQ q0 (.J 0) (.ae (.J 3) (.av)))) (.aq (.b9 (.gk (.boolOf (.ah m5 (.J 4) (.U (.none)))) (.gk (.boolOf (.ah sT (.J 4) (.J 1))) (.fM))) (.aq (.eB (.ek eJ f7 (.J 2) (.ae (.b5 (.ae (.J 4) (.ae (.bq vT (.ae (.J 3) (.av))) (.av)))) (.av)))) (.aG)) (.aG)) (.aG))
noncomputable def HG:cp:=.aq (.cC 2 (.hI (.av))) (.aq (.gp (.U kO) (dD 3) HH) (.aq (.bP (.gx (.eQ A2 (.ae (.J 2) (.av))) (fi [none,none]) (eA [0,1]) (.fM) (.ah bf (.U kO) (.J 1)))) (.aG)))
theorem Tu:yD=HG.d:=by kernel_rfl
noncomputable def Ij:cp:=.aq (.cC 3 (.eQ zz (.ae (.qR (.J 0) (fi [none,some 0,some 1]) (dD 0) (.boolOf (.ah gY (.J 0) (.J 2))) (.b5 (.ae (.J 0) (.ae (.ah bf (.J 1) (.J 0)) (.av))))) .av))) (.aq (.b9 (.boolOf (.ah m5 (.J 2) (.U (.none)))) (.aq (.iE (.J 2) (.J 3) (.J 1)) (.aG)) (.aG)) (.aq (.bP (.J 3)) (.aG)))
theorem TZ:y1=Ij.d:=by kernel_rfl
noncomputable def HX:cp:=.aq (.xI (.bq v7 (.ae (.l9 (.J 0)) (.ae (.J 1) (.ae (.J 2) (.av))))) (.J 0)) (.aG)
theorem TH:yM=HX.d:=by kernel_rfl
noncomputable def H0:cp:=.aq (.bP (.AA sQ q0 (.l9 (.J 0)) (.ae (.J 1) (.av)))) (.aG)
theorem TK:yO=H0.d:=by kernel_rfl
noncomputable def HW:cp:=.aq (.cC 1 (.bq rY (.ae (.l9 (.J 0)) (.av)))) (.aq (.bP (.ft (.boolOf (.ah ku (.J 1) (.U (.none)))) (.U (.none)) (.ah bf (.J 1) (.U (.int 0))))) (.aG))
theorem TG:yL=HW.d:=by kernel_rfl
noncomputable def HZ:cp:=.aq (.eB (.mn rX (.J 0) (.ae (.J 3) (.ae (.U (.none)) (.av))))) (.aG)
noncomputable def HY:cp:=.aq (.cC 2 (.bq vO (.ae (.l9 (.J 0)) (.ae (.J 1) (.av))))) (.aq (.gp (.J 2) (dD 3) HZ) (.aq (.bP (.J 2)) (.aG)))
theorem TJ:yN=HY.d:=by kernel_rfl
noncomputable def HC:cp:=.aq (.cC 2 (.ah bf (.J 0) (.U (.int 1)))) (.aq (.cC 3 (.ft (.boolOf (.ah gY (.J 2) (.d' (.av)))) (.eQ zg (.ae (.ah bf (.J 2) (.ah iB (.ah bf (.J 0) (.U (.int 2))) (.eQ f' (.ae (.J 2) (.av))))) (.av))) (.U (.int 47)))) (.aq (.iE (.ah c3 (.ah bf (.J 0) (.U (.int 2))) (.U (.int 1))) (.J 0) (.U (.int 2))) (.aq (.iE (.ah iB (.ah c3 (.ah c3 (.ah m9 (.ah bf (.J 0) (.U (.int 0))) (.U (.int 48271))) (.ah iB (.J 3) (.U (.int 1000003)))) (.U (.int 59))) (.U (.int 2147483647))) (.J 0) (.U (.int 0))) (.aq (.bP (.ah iB (.ah wC (.ah bf (.J 0) (.U (.int 0))) (.U (.int 13))) (.J 1))) (.aG)))))
theorem Tq:yA=HC.d:=by kernel_rfl
noncomputable def B5:cp:=.aq (.cC 3 (.ah c3 (.U (.int 1)) (.bq h7 (.ae (.J 0) (.ae (.U (.int 30)) (.av)))))) (.aq (.eB (.ek eJ f7 (.J 1) (.ae (.b5 (.ae (.U (.str "stream")) (.ae (.ah m9 (.U (.int 4)) (.J 2)) (.ae (.U (.int 0)) (.ae (.eQ hH (.ae (.gx (.eQ oe (.ae (.J 3) (.av))) (fi [none,some 2]) (dD 0) (.fM) (.ah iB (.ah c3 (.J 1) (.J 0)) (.U (.int 256)))) (.av))) (.ae (.U (.bool true)) (.av))))))) (.av)))) (.aG))
noncomputable def HD:cp:=.aq (.cC 1 (.hI (.ae (.b5 (.ae (.U (.str "max_data")) (.ae (.U (.int 10)) (.av)))) (.ae (.b5 (.ae (.U (.str "max_data")) (.ae (.U (.int 20)) (.av)))) (.ae (.b5 (.ae (.U (.str "stop_sending")) (.ae (.U (.int 4)) (.ae (.U (.int 7)) (.av))))) (.ae (.b5 (.ae (.U (.str "path_challenge")) (.ae (.U (.bytes pg)) (.av)))) (.av))))))) (.aq (.eB (.ek eJ f7 (.J 1) (.ae (.b5 (.ae (.U (.str "data_blocked")) (.ae (.U (.int 9)) (.av)))) (.av)))) (.aq (.eB (.ek eJ f7 (.J 1) (.ae (.b5 (.ae (.U (.str "new_connection_id")) (.ae (.ah c3 (.U (.int 1)) (.bq h7 (.ae (.J 0) (.ae (.U (.int 3)) (.av))))) (.ae (.U (.int 0)) (.ae (.eQ hH (.ae (.U (.int 8)) (.av))) (.ae (.eQ hH (.ae (.U (.int 16)) (.av))) (.av))))))) (.av)))) (.aq (.gp (.eQ oe (.ae (.ah c3 (.U (.int 1)) (.bq h7 (.ae (.J 0) (.ae (.U (.int 2)) (.av))))) (.av))) (dD 2) B5) (.aq (.eB (.ek eJ f7 (.J 1) (.ae (.b5 (.ae (.U (.str "crypto")) (.ae (.U (.int 0)) (.ae (.eQ hH (.ae (.gx (.eQ oe (.ae (.ah c3 (.U (.int 1)) (.bq h7 (.ae (.J 0) (.ae (.U (.int 20)) (.av))))) (.av))) (fi [none]) (dD 0) (.fM) (.ah iB (.ah c3 (.U (.int 90)) (.J 0)) (.U (.int 256)))) (.av))) (.av))))) (.av)))) (.aq (.bP (.J 1)) (.aG))))))
theorem Tr:vJ=HD.d:=by kernel_rfl
noncomputable def B4:cp:=.aq (.iE (.J 7) (.ah bf (.J 0) (.U (.str "octets"))) (.b5 (.ae (.J 3) (.ae (.ah c3 (.J 4) (.J 6)) (.av))))) (.aG)
noncomputable def yu:cp:=.aq (.b9 (.boolOf (.ah gF (.ah bf (.J 2) (.U (.int 0))) (.b5 (.ae (.U (.str "stream")) (.ae (.U (.str "crypto")) (.av)))))) (.aq (.gC (eA [3,4,5]) (.ft (.boolOf (.ah cP (.ah bf (.J 2) (.U (.int 0))) (.U (.str "stream")))) (.b5 (.ae (.ah bf (.J 2) (.U (.int 1))) (.ae (.ah bf (.J 2) (.U (.int 2))) (.ae (.ah bf (.J 2) (.U (.int 3))) (.av))))) (.b5 (.ae (.U (.str "crypto")) (.ae (.ah bf (.J 2) (.U (.int 1))) (.ae (.ah bf (.J 2) (.U (.int 2))) (.av))))))) (.aq (.pz (.J 5) (eA [6,7]) B4) (.aq (.b9 (.gk (.boolOf (.ah cP (.ah bf (.J 2) (.U (.int 0))) (.U (.str "stream")))) (.gk (.boolOf (.ah bf (.J 2) (.U (.int 4)))) (.fM))) (.aq (.iE (.ah c3 (.J 4) (.eQ f' (.ae (.J 5) (.av)))) (.ah bf (.J 0) (.U (.str "ends"))) (.J 3)) (.aG)) (.aG)) (.aG)))) (.aq (.eB (.ek eJ f7 (.ah bf (.J 0) (.U (.str "came"))) (.ae (.J 2) (.av)))) (.aG))) (.aG)
noncomputable def HB:cp:=.aq (.gp (.J 1) (dD 2) yu) (.aG)
theorem Tp:yz=HB.d:=by kernel_rfl
noncomputable def B7:cp:=.aq (.iE (.J 8) (.J 2) (.b5 (.ae (.J 5) (.ae (.J 7) (.av))))) (.aG)
noncomputable def yv:cp:=.aq (.b9 (.boolOf (.ah gF (.ah bf (.J 4) (.U (.int 0))) (.b5 (.ae (.U (.str "stream")) (.ae (.U (.str "crypto")) (.av)))))) (.aq (.gC (eA [5,6]) (.ft (.boolOf (.ah cP (.ah bf (.J 4) (.U (.int 0))) (.U (.str "stream")))) (.b5 (.ae (.ah bf (.J 4) (.U (.int 1))) (.ae (.ah bf (.J 4) (.U (.int 3))) (.av)))) (.b5 (.ae (.U (.str "crypto")) (.ae (.ah bf (.J 4) (.U (.int 2))) (.av)))))) (.aq (.pz (.J 6) (eA [7,8]) B7) (.aq (.b9 (.boolOf (.ah cP (.ah bf (.J 4) (.U (.int 0))) (.U (.str "stream")))) (.aq (.iE (.eQ f' (.ae (.J 6) (.av))) (.J 3) (.J 5)) (.aG)) (.aG)) (.aG)))) (.aG)) (.aG)
noncomputable def HF:cp:=.aq (.gC (eA [2,3]) (.b5 (.ae (.hW (.cv [])) (.ae (.hW (.cJ [])) (.av))))) (.aq (.gp (.J 1) (dD 4) yv) (.aq (.bP (.oA (.ah cP (.ah bf (.J 0) (.U (.str "octets"))) (.J 2)) (.ah cP (.ah bf (.J 0) (.U (.str "ends"))) (.J 3)))) (.aG)))
theorem Tt:yC=HF.d:=by kernel_rfl
noncomputable def B6:cp:=.aq (.b9 (.dt (.boolOf (.ah cP (.J 6) (.d' (.av)))) (.dt (.boolOf (.ah kr (.eQ th (.ae (.gx (.J 6) (fi [none]) (dD 0) (.fM) (.eQ f' (.ae (.bq o' (.ae (.J 0) (.av))) (.av)))) (.av))) (.J 3))) (.gy))) (.aq (.bP (.U (.bool false))) (.aG)) (.aG)) (.aq (.cC 7 (.ah bf (.d' (.ae (.U (.str "loss")) (.ae (.U (.str "probe")) (.ae (.U (.str "ack")) (.ae (.U (.str "path")) (.ae (.U (.str "idle")) (.ae (.U (.str "closed")) (.av)))))))) (.ah iB (.eQ f' (.ae (.ah bf (.J 1) (.U (.str "flying"))) (.av))) (.U (.int 6))))) (.aq (.b9 (.boolOf (.ah ku (.mn vW (.ah bf (.J 1) (.U (.str "alarms"))) (.ae (.J 7) (.av))) (.U (.none)))) (.aq (.eB (.mn rX (.ah bf (.J 1) (.U (.str "alarms"))) (.ae (.J 7) (.ae (.ah c3 (.ah c3 (.J 4) (.U (.int 5))) (.bq h7 (.ae (.J 0) (.ae (.U (.int 30)) (.av))))) (.av))))) (.aq (.eB (.ek eJ f7 (.ah bf (.J 1) (.U (.str "flying"))) (.ae (.b5 (.ae (.J 7) (.ae (.J 6) (.av)))) (.av)))) (.aG))) (.aq (.eB (.bq nI (.ae (.J 1) (.ae (.J 6) (.av))))) (.aG))) (.aq (.eB (.ek eJ pv (.ah bf (.J 1) (.U (.str "told"))) (.ae (.J 6) (.av)))) (.aG))))
noncomputable def HE:cp:=.aq (.cC 5 (.bq vS (.ae (.J 2) (.ae (.J 3) (.av))))) (.aq (.b9 (.boolOf (.ah ku (.J 5) (.U (.none)))) (.aq (.bP (.U (.bool false))) (.aG)) (.aG)) (.aq (.gp (.J 5) (dD 6) B6) (.aq (.bP (.U (.bool true))) (.aG))))
theorem Ts:yB=HE.d:=by kernel_rfl
noncomputable def B8:cp:=.aq (.cC 14 (.ah bf (.gx (.ah bf (.J 7) (.U (.str "flying"))) (fi [none,some 13]) (dD 0) (.boolOf (.ah cP (.ah bf (.J 0) (.U (.int 0))) (.J 1))) (.ah bf (.J 0) (.U (.int 1)))) (.U (.int 0)))) (.aq (.iE (.qR (.ah bf (.J 7) (.U (.str "flying"))) (fi [none,some 13]) (dD 0) (.boolOf (.ah gY (.ah bf (.J 0) (.U (.int 0))) (.J 1))) (.J 0)) (.J 7) (.U (.str "flying"))) (.aq (.b9 (.dt (.gk (.boolOf (.ah k2 (.J 9) (.U (.int 4)))) (.gk (.boolOf (.ah kr (.bq h7 (.ae (.J 1) (.ae (.U (.int 3)) (.av)))) (.U (.int 0)))) (.fM))) (.dt (.boolOf (.ah cP (.J 9) (.U (.int 0)))) (.gy))) (.aq (.eB (.ek eJ pv (.J 12) (.ae (.J 14) (.av)))) (.aG)) (.aq (.eB (.bq nI (.ae (.J 7) (.ae (.J 14) (.av))))) (.aG))) (.aG)))
noncomputable def HS:cp:=.aq (.cC 8 (.ah c3 (.bq v3 (.ae (.J 12) (.ae (.mT (.cv []) (.h9 (.b5 (.ae (.U (.str "max_data")) (.ae (.U (.none)) (.av)))) (.U (.int 33)) (.mr))) (.ae (.J 6) (.ae (.J 5) (.av)))))) (.bq vR (.ae (.J 12) (.av))))) (.aq (.b9 (.dt (.boolOf (.ah rg (.gx (.J 8) (fi [none]) (dD 0) (.boolOf (.ah cP (.ah bf (.J 0) (.U (.int 0))) (.U (.str "max_data")))) (.J 0)) (.b5 (.ae (.d' (.av)) (.ae (.d' (.ae (.b5 (.ae (.U (.str "max_data")) (.ae (.U (.int 33)) (.av)))) (.av))) (.av)))))) (.dt (.boolOf (.ah gF (.b5 (.ae (.U (.str "path_challenge")) (.ae (.U (.bytes pg)) (.av)))) (.J 8))) (.gy))) (.aq (.bP (.U (.bool false))) (.aG)) (.aG)) (.aq (.b9 (.dt (.gk (.boolOf (.ah gF (.b5 (.ae (.U (.str "data_blocked")) (.ae (.U (.int 9)) (.av)))) (.J 8))) (.gk (.boolOf (.ah cP (.J 6) (.hW (.cv [])))) (.fM))) (.dt (.gk (.boolOf (.ah gF (.b5 (.ae (.U (.str "stop_sending")) (.ae (.U (.int 4)) (.ae (.U (.int 7)) (.av))))) (.J 8))) (.gk (.boolOf (.ah gY (.J 5) (.hW (.cv [])))) (.fM))) (.gy))) (.aq (.bP (.U (.bool false))) (.aG)) (.aG)) (.aq (.b9 (.pY (.boolOf (.bq rU (.ae (.J 1) (.ae (.J 7) (.ae (.J 8) (.ae (.J 3) (.ae (.J 4) (.av))))))))) (.aq (.bP (.U (.bool false))) (.aG)) (.aG)) (.aG))))
noncomputable def B9:cp:=.aq (.cC 10 (.bq rY (.ae (.l9 (.ah bf (.J 7) (.U (.str "alarms")))) (.av)))) (.aq (.b9 (.boolOf (.ah ku (.J 10) (.U (.none)))) (.aq (.wi) (.aG)) (.aG)) (.aq (.b9 (.dt (.boolOf (.ah k2 (.ah bf (.J 10) (.U (.int 0))) (.J 4))) (.dt (.boolOf (.ah gY (.ah bf (.J 10) (.U (.int 0))) (.mn vU (.ah bf (.J 7) (.U (.str "alarms"))) (.av)))) (.gy))) (.aq (.bP (.U (.bool false))) (.aG)) (.aG)) (.aq (.cC 4 (.ah bf (.J 10) (.U (.int 0)))) (.aq (.cC 11 (.mn vV (.ah bf (.J 7) (.U (.str "alarms"))) (.ae (.J 4) (.av)))) (.aq (.b9 (.dt (.boolOf (.ah cP (.J 11) (.d' (.av)))) (.dt (.boolOf (.ah gY (.ah bf (.J 11) (.U (.int 0))) (.ah bf (.J 10) (.U (.int 1))))) (.gy))) (.aq (.bP (.U (.bool false))) (.aG)) (.aG)) (.aq (.cC 12 (.hI (.av))) (.aq (.gp (.J 11) (dD 13) B8) HS)))))))
noncomputable def HT:cp:=.aq (.eB (.bq nI (.ae (.J 7) (.ae (.J 14) (.av))))) (.aG)
noncomputable def HU:cp:=.aq (.gp (.ah bf (.J 7) (.U (.str "flying"))) (eA [13,14]) HT) (.aq (.gC (eA [15,16]) (.bq rW (.ae (.d' (.ae (.b5 (.ae (.U (.str "crypto")) (.ae (.U (.int 0)) (.ae (.eQ hH (.ae (.U (.int 9)) (.av))) (.av))))) (.ae (.b5 (.ae (.U (.str "ping")) (.av))) (.av)))) (.ae (.U (.int 8)) (.av))))) (.aq (.b9 (.dt (.pY (.boolOf (.bq vN (.ae (.J 7) (.ae (.J 2) (.av)))))) (.dt (.boolOf (.ah gY (.J 15) (.d' (.ae (.b5 (.ae (.U (.str "crypto")) (.ae (.U (.int 0)) (.ae (.eQ hH (.ae (.U (.int 5)) (.av))) (.av))))) (.av))))) (.dt (.boolOf (.ah gY (.J 16) (.d' (.ae (.b5 (.ae (.U (.str "crypto")) (.ae (.U (.int 5)) (.ae (.eQ hH (.ae (.U (.int 4)) (.av))) (.av))))) (.ae (.b5 (.ae (.U (.str "ping")) (.av))) (.av)))))) (.gy)))) (.aq (.bP (.U (.bool false))) (.aG)) (.aG)) (.aq (.b9 (.boolOf (.ah gY (.ek eJ zw (.ah bf (.J 7) (.U (.str "told"))) (.ae (.b5 (.ae (.U (.str "path_challenge")) (.ae (.U (.bytes pg)) (.av)))) (.av))) (.U (.int 1)))) (.aq (.bP (.U (.bool false))) (.aG)) (.aG)) (.aq (.cC 17 (.gx (.J 2) (fi [none]) (dD 0) (.boolOf (.ah cP (.ah bf (.J 0) (.U (.int 0))) (.U (.str "new_connection_id")))) (.J 0))) (.aq (.bP (.oA (.ah gF (.ah bf (.J 17) (.U (.int 0))) (.ah bf (.J 7) (.U (.str "came")))) (.ah gY (.gx (.ah bf (.J 7) (.U (.str "came"))) (fi [none]) (dD 0) (.boolOf (.ah cP (.ah bf (.J 0) (.U (.int 0))) (.U (.str "max_data")))) (.J 0)) (.d' (.av))))) (.aG))))))
noncomputable def HV:cp:=.aq (.cC 5 (.ft (.boolOf (.ah cP (.bq h7 (.ae (.J 1) (.ae (.U (.int 2)) (.av)))) (.U (.int 0)))) (.mT (.cv []) (.h9 (.b5 (.ae (.U (.str "stop_sending")) (.ae (.U (.int 4)) (.av)))) (.U (.bool true)) (.mr))) (.hW (.cv [])))) (.aq (.cC 6 (.ft (.boolOf (.ah cP (.bq h7 (.ae (.J 1) (.ae (.U (.int 2)) (.av)))) (.U (.int 0)))) (.mT (.cv []) (.h9 (.b5 (.ae (.U (.str "data_blocked")) (.ae (.U (.none)) (.av)))) (.U (.int 9)) (.mr))) (.hW (.cv [])))) (.aq (.cC 7 (.mT (.cJ []) (.h9 (.U (.str "flying")) (.hI (.av)) (.h9 (.U (.str "came")) (.hI (.av)) (.h9 (.U (.str "told")) (.hI (.av)) (.h9 (.U (.str "octets")) (.hW (.cv [])) (.h9 (.U (.str "ends")) (.hW (.cJ [])) (.h9 (.U (.str "alarms")) (.xn) (.mr))))))))) (.aq (.b9 (.pY (.boolOf (.bq rU (.ae (.J 1) (.ae (.J 7) (.ae (.J 2) (.ae (.J 3) (.ae (.J 4) (.av))))))))) (.aq (.bP (.U (.bool false))) (.aG)) (.aG)) (.aq (.cC 8 (.d' (.av))) (.aq (.gp (.eQ oe (.ae (.U (.int 12)) (.av))) (dD 9) B9) HU)))))
noncomputable def HR:cp:=.aq (.cC 0 (.gx (.j' (.J 0) (.U .none) (.U (.int 24))) (fi [none]) (dD 0) (.fM) (.eQ Fw (.ae (.J 0) (.av))))) (.aq (.cC 1 (.hI (.ae (.ah iB (.eQ th (.ae (.J 0) (.av))) (.U (.int 2147483647))) (.ae (.J 0) (.ae (.U (.int 0)) (.av)))))) (.aq (.gC (eA [2,3,4]) (.b5 (.ae (.bq vM (.ae (.J 1) (.av))) (.ae (.ah c3 (.U (.int 32)) (.bq h7 (.ae (.J 1) (.ae (.U (.int 20)) (.av))))) (.ae (.U (.int 0)) (.av)))))) HV))
theorem TF:vK=HR.d:=by kernel_rfl
theorem adt{a:C}{σ:St}{Q:C->St->Prop}(h:H2.p [some a,none,none,none] σ (fE σ Q)):ba (vX [a] σ) Q:=gd TL rfl h
theorem adB{a b c d:C}{σ:St}{Q:C->St->Prop}(h:Ig.p [some a,some b,some c,some d,none,none,none,none] σ (fE σ Q)):ba (v3 [a,b,c,d] σ) Q:=gd TX rfl h
theorem adm{a:C}{σ:St}{Q:C->St->Prop}(h:HO.p [some a] σ (fE σ Q)):ba (vR [a] σ) Q:=gd TB rfl h
theorem adA{a b:C}{σ:St}{Q:C->St->Prop}(h:Ic.p [some a,some b,none,none] σ (fE σ Q)):ba (tK [a,b] σ) Q:=gd TV rfl h
theorem adC{a:C}{σ:St}{Q:C->St->Prop}(h:Ih.p [some a,none] σ (fE σ Q)):ba (v5 [a] σ) Q:=gd TY rfl h
theorem adz{a b:C}{σ:St}{Q:C->St->Prop}(h:Ib.p [some a,some b,none] σ (fE σ Q)):ba (rZ [a,b] σ) Q:=gd TU rfl h
theorem adx{a:C}{σ:St}{Q:C->St->Prop}(h:H9.p [some a] σ (fE σ Q)):ba (iv [a] σ) Q:=gd TQ rfl h
theorem adv{a:C}{σ:St}{Q:C->St->Prop}(h:H6.p [some a] σ (fE σ Q)):ba (mK [a] σ) Q:=gd TN rfl h
theorem ady{a b:C}{σ:St}{Q:C->St->Prop}(h:Ia.p [some a,some b,none,none,none,none,none,none,none] σ (fE σ Q)):ba (vZ [a,b] σ) Q:=gd TS rfl h
theorem adw{a:C}{σ:St}{Q:C->St->Prop}(h:H8.p [some a,none,none,none,none,none] σ (fE σ Q)):ba (vY [a] σ) Q:=gd TP rfl h
theorem OP{a:C}{σ:St}{Q:C->St->Prop}(h:H'.p [some a,none] σ (fE σ Q)):ba (tJ [a] σ) Q:=gd TR rfl h
theorem ro{a:C}{σ:St}{Q:C->St->Prop}(h:H7.p [some a,none,none] σ (fE σ Q)):ba (o' [a] σ) Q:=gd TO rfl h
theorem adl{a:C}{σ:St}{Q:C->St->Prop}(h:HN.p [some a] σ (fE σ Q)):ba (lj [a] σ) Q:=gd TA rfl h
theorem adi{a:C}{σ:St}{Q:C->St->Prop}(h:HJ.p [some a] σ (fE σ Q)):ba (rV [a] σ) Q:=gd Tw rfl h
theorem adE{a b c d:C}{σ:St}{Q:C->St->Prop}(h:Ik.p [some a,some b,some c,some d] σ (fE σ Q)):ba (kk [a,b,c,d] σ) Q:=gd T1 rfl h
theorem adj{a b:C}{σ:St}{Q:C->St->Prop}(h:HK.p [some a,some b,none,none] σ (fE σ Q)):ba (vQ [a,b] σ) Q:=gd Tx rfl h
theorem adh{a b:C}{σ:St}{Q:C->St->Prop}(h:HI.p [some a,some b,none,none,none] σ (fE σ Q)):ba (vP [a,b] σ) Q:=gd Tv rfl h
theorem adk{a b:C}{σ:St}{Q:C->St->Prop}(h:HL.p [some a,some b,none,none,none,none,none] σ (fE σ Q)):ba (rW [a,b] σ) Q:=gd Tz rfl h
theorem adn{a b:C}{σ:St}{Q:C->St->Prop}(h:HP.p [some a,some b,none,none,none,none] σ (fE σ Q)):ba (vS [a,b] σ) Q:=gd TC rfl h
theorem adu{a:C}{σ:St}{Q:C->St->Prop}(h:H4.p [some a,none,none,none] σ (fE σ Q)):ba (rY [a] σ) Q:=gd TM rfl h
theorem adg{a b:C}{σ:St}{Q:C->St->Prop}(h:HG.p [some a,some b,none,none,none] σ (fE σ Q)):ba (vO [a,b] σ) Q:=gd Tu rfl h
theorem adD{a b c:C}{σ:St}{Q:C->St->Prop}(h:Ij.p [some a,some b,some c,none] σ (fE σ Q)):ba (v7 [a,b,c] σ) Q:=gd TZ rfl h
theorem adq{a b c:C}{σ:St}{Q:C->St->Prop}(h:HX.p [some a,some b,some c] σ (fE σ Q)):ba (rX [a,b,c] σ) Q:=gd TH rfl h
theorem ads{a b:C}{σ:St}{Q:C->St->Prop}(h:H0.p [some a,some b] σ (fE σ Q)):ba (vW [a,b] σ) Q:=gd TK rfl h
theorem adp{a:C}{σ:St}{Q:C->St->Prop}(h:HW.p [some a,none] σ (fE σ Q)):ba (vU [a] σ) Q:=gd TG rfl h
theorem adr{a b:C}{σ:St}{Q:C->St->Prop}(h:HY.p [some a,some b,none,none] σ (fE σ Q)):ba (vV [a,b] σ) Q:=gd TJ rfl h
theorem adb{a b:C}{σ:St}{Q:C->St->Prop}(h:HC.p [some a,some b,none,none] σ (fE σ Q)):ba (h7 [a,b] σ) Q:=gd Tq rfl h
theorem adc{a:C}{σ:St}{Q:C->St->Prop}(h:HD.p [some a,none,none,none] σ (fE σ Q)):ba (vM [a] σ) Q:=gd Tr rfl h
theorem ada{a b:C}{σ:St}{Q:C->St->Prop}(h:HB.p [some a,some b,none,none,none,none,none,none] σ (fE σ Q)):ba (nI [a,b] σ) Q:=gd Tp rfl h
theorem adf{a b:C}{σ:St}{Q:C->St->Prop}(h:HF.p [some a,some b,none,none,none,none,none,none,none] σ (fE σ Q)):ba (vN [a,b] σ) Q:=gd Tt rfl h
theorem ade{a b c d e:C}{σ:St}{Q:C->St->Prop}(h:HE.p [some a,some b,some c,some d,some e,none,none,none] σ (fE σ Q)):ba (rU [a,b,c,d,e] σ) Q:=gd Ts rfl h
theorem ado{a:C}{σ:St}{Q:C->St->Prop}(h:HR.p [some a,none,none,none,none,none,none,none,none,none,none,none,none,none,none,none,none,none] σ (fE σ Q)):ba (y6 [a] σ) Q:=gd TF rfl h
end
end Internal
set_option genInjectivity false
namespace Internal
open PySem PySem.W PyProof.Rows PySem.Calls
inductive tT {A B aC:Type} (P:A->B->aC->Prop):Prop
 |mk (a:A) (b:B) (c:aC) (c4:P a b c)
inductive ze {A B aC D:Type} (P:A->B->aC->D->Prop):Prop
 |mk (a:A) (b:B) (c:aC) (d:D) (c4:P a b c d)
inductive I6 {A B aC D E F:Type} (P:A->B->aC->D->E->F->Prop):Prop
 |mk (a:A) (b:B) (c:aC) (d:D) (e:E) (f:F) (c4:P a b c d e f)
inductive QQ {A B aC D E F G:Type} (P:A->B->aC->D->E->F->G->Prop):Prop
 |mk (a:A) (b:B) (c:aC) (d:D) (e:E) (f:F) (g:G) (c4:P a b c d e f g)
inductive QP {A B aC D E F G aI aO qC K:Type} (P:A->B->aC->D->E->F->G->aI->aO->qC->K->Prop):Prop
 |mk (a:A) (b:B) (c:aC) (d:D) (e:E) (f:F) (g:G) (h:aI) (i:aO) (aj:qC) (k:K) (c4:P a b c d e f g h i aj k)
theorem hS{b:Bool}{A B:Prop}(h:b=true)(a:A):d9 b A B:=by subst h;exact a
theorem gN{b:Bool}{A B:Prop}(h:b=false)(a:B):d9 b A B:=by subst h;exact a
theorem qO{p:Prop}{_:Decidable p}{A B:Prop}(h1:p->A)(h2:¬p->B):d9 (decide p) A B:=by
 by_cases h:p
 .exact hS (decide_eq_true h) (h1 h)
 .exact gN (decide_eq_false h) (h2 h)
theorem kl{α:Type}{m:Option α}{a:α}{Q:α->Prop}(e:m=some a)(h:Q a):hQ m Q:=by subst e;exact h
theorem iL{α:Type}{m:Option (α×St)}{a:α}{s:St}{Q:α->St->Prop}(e:m=some (a,s))(h:Q a s):aM m Q:=by subst e;exact h
theorem lk{α:Type}{p:Prop}{_:Decidable p}{a:α}{s:St}{Q:α->St->Prop}(e:p)(h:Q a s):aM (if p then some (a,s) else none) Q:=by rw[if_pos e];exact h
theorem fc{o i v:C}{s:St}{Q:C->St->Prop}(e:hr o i s=some v)(h:Q v s):aM (bf [o,i] s) Q:=iL (congrArg (kJ λv=>(v,s)) e) h
theorem tO{o i:C}{r:Bool}{s:St}{Q:C->St->Prop}(e:oO o i s=some r)(h:Q (.bool r) s):aM (gF [o,i] s) Q:=iL (congrArg (kJ λr=>(C.bool r,s)) e) h
theorem QA{o i:C}{r:Bool}{s:St}{Q:C->St->Prop}(e:oO o i s=some r)(h:Q (.bool (!r)) s):aM (rg [o,i] s) Q:=iL (congrArg (kJ λr=>(C.bool !r,s)) e) h
theorem y'{o i:C}{r:Bool}{s:St}{Q:C->St->Prop}(e:pn o i s=some r)(h:Q (.bool r) s):aM (cP [o,i] s) Q:=iL (congrArg (kJ λr=>(C.bool r,s)) e) h
theorem Cn{o i:C}{r:Bool}{s:St}{Q:C->St->Prop}(e:pn o i s=some r)(h:Q (.bool (!r)) s):aM (gY [o,i] s) Q:=iL (congrArg (kJ λr=>(C.bool !r,s)) e) h
theorem IU{o:C}{r:Bool}{s:St}{Q:C->St->Prop}(e:pX o=some r)(h:Q (.bool r) s):aM (ku [o,.none] s) Q:=iL (congrArg (kJ λr=>(C.bool r,s)) e) h
theorem Cm{o:C}{r:Bool}{s:St}{Q:C->St->Prop}(e:pX o=some r)(h:Q (.bool (!r)) s):aM (m5 [o,.none] s) Q:=iL (congrArg (kJ λr=>(C.bool !r,s)) e) h
noncomputable def xk(R:Loc->St->Prop)(Q:dp->Loc->St->Prop)(f:dp)(l:Loc)(s:St):Prop:=match f with
 |.next=>R l s
 |.cont=>R l s
 |.brk=>Q .next l s
 |.ret v=>Q (.ret v) l s
section
variable{src:C}{items:List C}{bind:C->Loc->Option Loc}{A:cp}{Q:dp->Loc->St->Prop}
theorem dV.j2{p:Prop}{_:Decidable p}{m z:Option (dp×Loc×St)}(hp:p)(h:dV m Q):dV (if p then m else z) Q:=by rw[if_pos hp];exact h
theorem dV.zp{α:Type}{o:Option α}{a:α}{f:α->Option (dp×Loc×St)}(e:o=Option.some a)(h:dV (f a) Q):dV (o.bind f) Q:=by rw[e];exact h
theorem ba.j2{b':Type}{Q:b'->St->Prop}{p:Prop}{_:Decidable p}{m z:Option (b'×St)}(hp:p)(h:ba m Q):ba (if p then m else z) Q:=by rw[if_pos hp];exact h
theorem ba.zp{α b':Type}{Q:b'->St->Prop}{o:Option α}{a:α}{f:α->Option (b'×St)}(e:o=Option.some a)(h:ba (f a) Q):ba (o.bind f) Q:=by rw[e];exact h
theorem FX{R:Loc->St->Prop}{f:dp}{l:Loc}{s:St}{P:dp->Prop}(q:xk R Q f l s)(a:R l s->P .next)(b:R l s->P .cont)(c:Q .next l s->P .brk)(d:∀v,Q (.ret v) l s->P (.ret v)):P f:=
 dp.casesOn (motive:=λf=>xk R Q f l s->P f) f a c b d q
theorem lB{α:Type}{enc:α->C}(aO:List α->Loc->St->Prop)(hs:∀r l s,aO r l s->eD src s=some items)
 (step:∀x r l s,aO (x::r) l s->∃l',bind (enc x) l=some l'/\A.p l' s (xk (aO r) Q))(done:∀l s,aO [] l s->Q .next l s):∀{xs:List α} {aa:Loc} {σ:St},aO xs aa σ->dV (pV src items bind A.d (xs.map enc) aa σ) Q:=by
 intro xs
 induction xs with
 |nil=>exactλh=>dV.j2 (hs _ _ _ h) (.some (done _ _ h))
 |cons x r a7=>
  intro aa σ h
  obtain⟨l',e,p⟩:=step x r aa σ h
  refine dV.j2 (hs _ _ _ h) (dV.zp e (dV.hx ((A.h p).bb λf l s q=>?_)))
  exact FX (P:=λf=>dV (match(f,l,s) with
   |(.next,l,s)=>pV src items bind A.d (r.map enc) l s
   |(.cont,l,s)=>pV src items bind A.d (r.map enc) l s
   |(.brk,l,s)=>some (.next,l,s)
   |(.ret v,l,s)=>some (.ret v,l,s)) Q) q a7 a7 .some λ_=>.some
theorem FW{α:Type}{enc:α->C}(aO:Nat->List α->Loc->St->Prop)(hs:∀i r l s,aO i r l s->eD src s=some items)
 (step:∀i x r l s,aO i (x::r) l s->∃l',bind (.bA [.int i,enc x]) l=some l'/\A.p l' s (xk (aO (i+1) r) Q))(done:∀i l s,aO i [] l s->Q .next l s):∀{xs:List α} {i:Nat} {aa:Loc} {σ:St},aO i xs aa σ->dV (n8 src items bind A.d i (xs.map enc) aa σ) Q:=by
 intro xs
 induction xs with
 |nil=>exactλh=>dV.j2 (hs _ _ _ _ h) (.some (done _ _ _ h))
 |cons x r a7=>
  intro i aa σ h
  obtain⟨l',e,p⟩:=step i x r aa σ h
  refine dV.j2 (hs _ _ _ _ h) (dV.zp e (dV.hx ((A.h p).bb λf l s q=>?_)))
  exact FX (P:=λf=>dV (match(f,l,s) with
   |(.next,l,s)=>n8 src items bind A.d (i+1) (r.map enc) l s
   |(.cont,l,s)=>n8 src items bind A.d (i+1) (r.map enc) l s
   |(.brk,l,s)=>some (.next,l,s)
   |(.ret v,l,s)=>some (.ret v,l,s)) Q) q a7 a7 .some λ_=>.some
theorem M7{T:f3}{n:Nat}{aa:Loc}{σ:St}(h:T.p aa σ λb s=>d9 b (A.p aa s (xk (λl s=>dV (oS T.d A.d n l s) Q) Q)) (Q .next aa s)):dV (oS T.d A.d (n+1) aa σ) Q:=by
 refine ba.hx ((T.h h).bb λb s h=>d9.qd (h.of (λp=>dV.hx ((A.h p).bb λf l s q=>?_)) .some))
 exact FX (P:=λf=>dV (match(f,l,s) with
  |(.next,l,s)=>oS T.d A.d n l s
  |(.cont,l,s)=>oS T.d A.d n l s
  |(.brk,l,s)=>some (.next,l,s)
  |(.ret v,l,s)=>some (.ret v,l,s)) Q) q id id .some λ_=>.some
inductive rP {α b':Type} (P:α->b'->Prop):List α->List b'->Prop
 |nil:rP P [] []
 |cons {a:α} {b:b'} {as:List α} {br:List b'}:P a b->rP P as br->rP P (a::as) (b::br)
theorem nN{α:Type}{enc:α->C}{T:f3}{E:TE}(aO:Loc->St->Prop)(p:α->Bool)(g:α->C->Prop)(hs:∀l s,aO l s->eD src s=some items){Q:List C->St->Prop}:∀{xs:List α},
 (∀x∈xs,∀l s,aO l s->∃l',bind (enc x) l=some l'/\T.p l' s λb t=>b=p x/\d9 b (E.p l' t λv u=>g x v/\aO l' u) (aO l' t))->
 ∀{acc:List C} {aa:Loc} {σ:St},aO aa σ->acc.length+xs.length<1000000->(∀cU l t,rP g (xs.filter p) cU->aO l t->Q (acc++cU) t)->ba (oD src items bind T.d E.d (xs.map enc) acc aa σ) Q:=by
 intro xs
 induction xs with
 |nil=>exactλ_ {acc aa σ} h _ q=>ba.j2 (hs _ _ h) (.some (lQ acc▸q [] aa σ .nil h))
 |cons x r a7=>
  intro step acc aa σ h aJ q
  obtain⟨l',e,t⟩:=step x (vr ..) aa σ h
  refine ba.j2 (hs _ _ h) (ba.zp e ?_)
  rw[gD] at aJ
  have Pg:=λy bQ=>step y (yc _ bQ)
  refine ba.bind ((T.h t).bb λb t wx=>d9.wp ?_)
  obtain⟨f9,k⟩:=wx
  cases b
  .refine a7 Pg k (by exact aE.acj aJ) λcU l t a i=>q cU l t ?_ i
   rw[List.filter_cons_of_neg (by rw[<-f9];exact gI)];exact a
  .refine ba.bind ((E.h k).bb λv u VR=>ba.j2 (aE.ack aJ) ?_)
   obtain⟨ih,XU⟩:=VR
   refine a7 Pg XU (by rw[g'];exact(by exact aE.acl aJ:acc.length+1+r.length<1000000)) λcU l t a i=>?_
   rw[o6]
   refine q (v::cU) l t ?_ i
   rw[List.filter_cons_of_pos f9.symm];exact .cons ih a
end
structure cT (σ s:St):Prop where
 cells:s.cells=σ.cells
 next:σ.next<=s.next
noncomputable def cY(σ:St):Prop:=∀c,σ.next<=c->σ.cells c=none
theorem cT.refl{σ:St}:cT σ σ:=⟨rfl,bF _⟩
theorem cT.trans{a b c:St}(h:cT a b)(h':cT b c):cT a c:=⟨h'.cells.trans h.cells,cI h.next h'.next⟩
theorem cT.wf{a b:St}(h:cT a b)(w:cY a):cY b:=λc az=>by rw[h.cells];exact w c (cI h.next az)
theorem cT.cut{σ s:St}(w:cY σ)(h:cT σ s):cT σ (s.cut σ.next):=by
 refine⟨?_,h.next⟩
 funext c
 show(if c<σ.next then s.cells c else none)=_
 rw[h.cells]
 by_cases q:c<σ.next
 .exact if_pos q
 .exact(if_neg q).trans (w c (bJ q)).symm
end Internal
set_option genInjectivity true
set_option genInjectivity false
namespace Internal
open PySem PySem.W PyProof.Rows PySem.Calls
inductive zd (n:Int) (σ:St):List Unit->Loc->St->Prop
 |go:zd n σ [()] [some (.int n),some (.int 1),some (.ref σ.next),none] (σ.new (.eX [0]))
 |cR (a b:Option C):zd n σ [] [a,some (.int 1),some (.ref σ.next),b] ((σ.new (.eX [0])).aY σ.next (.eX [n.toNat.toUInt8]))
theorem agy{σ:St}{n:Int}(w:cY σ)(ao:0<=n)(h1:n<256):ba (tK [.int n,.int 1] σ) λv s=>v=.bytes [n.toNat.toUInt8]/\cT σ s:=by
 refine adA ?_
 refine gN (b:=decide (n<0)) (decide_eq_false (by exact aE.AN ao)) ?_
 refine gN (b:= !(n.fdiv 256==0)) ?_ ?_
 .rw[Int.fdiv_eq_ediv_of_nonneg _ (by decide),show n/ 256=0 by exact aE.ZT ao h1];rfl
 refine dW rfl ?_
 refine lB (A:=Ie) (xs:=[()]) (enc:=λ_=>.int 0) (zd n σ) (λr l s _=>rfl) ?_ ?_ .go
 .intro x r l s h
  cases h
  refine⟨_,rfl,?_⟩
  refine kl (m:=p4 (.ref σ.next) (.int 0) (.int (n.fmod 256)) (σ.new (.eX [0]))) (a:=(σ.new (.eX [0])).aY σ.next (.eX [n.toNat.toUInt8])) ?_ (zd.cR _ _)
  rw[Int.fmod_eq_emod_of_nonneg _ (by decide),show n % 256=n by exact aE.ZU ao h1]
  show(match(σ.new (.eX [0])).cells σ.next with
   |some (.eX b)=>if _ then some _ else none
   |_=>none)=_
  rw[show(σ.new (.eX [0])).cells σ.next=some (.eX [0]) from if_pos rfl]
  exact if_pos ⟨by decide,by decide,by decide,ao,h1⟩
 .intro l s h
  cases h with|cR a b=>
  refine iL (m:=zq [.ref σ.next] _) (a:=.bytes [n.toNat.toUInt8]) (s:=(σ.new (.eX [0])).aY σ.next (.eX [n.toNat.toUInt8])) ?_ ⟨rfl,?_,?_⟩
  .show(match((σ.new (.eX [0])).aY σ.next (.eX [n.toNat.toUInt8])).cells σ.next with
    |some (.eX b)=>if b.length<=1000000 then some (C.bytes b,_) else none
    |_=>none)=_
   rw[show((σ.new (.eX [0])).aY σ.next (.eX [n.toNat.toUInt8])).cells σ.next=some (.eX [n.toNat.toUInt8]) from if_pos rfl]
   rfl
  .refine funext λc=>?_
   by_cases az:c<σ.next
   .exact(if_pos az).trans ((if_neg (eL az)).trans (if_neg (eL az)))
   .exact(if_neg az).trans (w c (bJ az)).symm
  .exact hb _
end Internal
set_option genInjectivity true
namespace Internal
open PySem PySem.W PyProof.Rows PySem.Calls
theorem agw{σ:St}{n:Int}(w:cY σ)(ao:0<=n)(h1:n<64):ba (v5 [.int n] σ) λv s=>v=.int 1/\cT σ s:=by
 refine adC ?_
 refine dW rfl ?_
 refine lB (A:=Ii) (xs:=[1,2,4,8]) (enc:=C.int) (λr l s=>r=[1,2,4,8]/\l=[some (.int n),none]/\s=σ) (λ_ _ _ _=>rfl) ?_ (λl s h=>nomatch h.1) ⟨rfl,rfl,rfl⟩
 rintro x r _ _ ⟨h,rfl,rfl⟩
 cases h
 refine⟨_,rfl,?_⟩
 refine hS (b:=decide (0<=n)) (decide_eq_true ao) ?_
 refine hS (b:=decide (n<1*2^(6:Int).toNat)) (decide_eq_true h1) ?_
 exact⟨rfl,cT.refl.cut w⟩
theorem Sf:∀m:Fin 64,Bo 0 ((m.val:Nat):Int)=((m.val:Nat):Int):=by decide+kernel
theorem Sg{n:Int}(h:0<=n)(h1:n<64):Bo 0 n=n:=by
 obtain⟨m,rfl⟩:=qh h
 exact Sf ⟨m,by exact aE.aaR h1⟩
theorem P'{σ:St}{n:Int}(w:cY σ)(ao:0<=n)(h1:n<64):ba (rZ [.int n,.none] σ) λv s=>v=.bytes [n.toNat.toUInt8]/\cT σ s:=by
 refine adz ?_
 refine(agw w ao h1).gs λs g=>?_
 refine ba.bb (m:=tK [.int (Bo 0 n),.int 1] s) (Q:=λv t=>v=.bytes [n.toNat.toUInt8]/\cT s t) ?_ ?_
 .rw[Sg ao h1];exact agy (g.wf w) ao (by exact aE.aaS h1)
 .rintro _ t ⟨rfl,g2⟩
  exact⟨rfl,(g.trans g2).cut w⟩
theorem Sn{l:List Int}:∀{cU:List C},rP (λ_ v=>∃b:UInt8,v=C.bytes [b]) l cU->∃br,bytesOf cU=some br/\br.flatten.length=l.length:=by
 induction l with
 |nil=>intro cU h;cases h;exact⟨[],rfl,rfl⟩
 |cons n l a7=>
  intro cU h
  cases h with
  |cons h1 h2=>
   obtain⟨b,rfl⟩:=h1
   obtain⟨br,bj,bg⟩:=a7 h2
   exact⟨[b]::br,(congrArg (kJ λl=>[b]::l) bj:_),by rw[BA,g',bg,gD];exact vt 1 _⟩
theorem vg{σ:St}{l:List Int}{vs:List C}(a':vs=l.map C.int)(w:cY σ)(aJ:∀n∈l,0<=n/\n<64)(a3:l.length<=100):ba (iv [.bB vs] σ) λv s=>∃b,v=.bytes b/\b.length=l.length/\cT σ s:=by
 subst a'
 refine adx ?_
 refine dW rfl ?_
 refine nN (src:=.bB (l.map C.int)) (λaa s=>(∃z,aa=[z])/\cT σ s) (λ_=>true) (λ_ v=>∃b:UInt8,v=C.bytes [b]) (λ_ _ _=>rfl) ?_ ⟨⟨none,rfl⟩,.refl⟩ (by rw[iH];exact aE.Om a3) ?_
 .rintro n a3 _ s ⟨⟨z,rfl⟩,g⟩
  refine⟨_,rfl,rfl,(P' (g.wf w) (aJ n a3).1 (aJ n a3).2).bb ?_⟩
  rintro _ u ⟨rfl,g2⟩
  exact⟨⟨_,rfl⟩,⟨_,rfl⟩,g.trans g2⟩
 .rintro cU _ t a ⟨_,g⟩
  rw[rH.mpr (λ_ _=>rfl)] at a
  obtain⟨br,bj,bg⟩:=Sn a
  refine iL (m:=Ah [.bytes [],.bB cU] t) (a:=.bytes br.flatten) ?_ ⟨_,rfl,bg,g.cut w⟩
  show(bytesOf cU).bind (λl=>if l.flatten.length<=1000000 then some (C.bytes l.flatten,t) else none)=_
  rw[bj,oq,if_pos (by exact aE.aaT a3 bg)]
theorem P0{σ:St}{d:List UInt8}(w:cY σ)(aD:d.length<64):ba (mK [.bytes d] σ) λv s=>∃b,v=.bytes b/\b.length=1+d.length/\cT σ s:=by
 refine adv ?_
 refine lk (p:=d.length<=1000000) (by exact aE.td aD) ?_
 refine(P' w (by exact aE.aaU) (by exact aE.aaV aD)).gs λs g=>?_
 refine lk (p:=1+d.length<=1000000) (by exact aE.aaW aD) ⟨_,rfl,?_,g.cut w⟩
 rw[g'];rfl
end Internal
namespace Internal
open PySem PySem.W PyProof.Rows PySem.Calls
inductive Fr where
 |ey (n:Int)
 |gH
 |dy
 |e6
 |dN (n:Int)
 |st (dF bV:Int) (d:List UInt8) (cW:Bool)
 |eY (bV:Int) (d:List UInt8)
 |hN
noncomputable def Fr.code:Fr->Nat×Int×Int×List UInt8×Bool
 |.ey n=>(0,n,0,[],false)
 |.gH=>(1,0,0,[],false)
 |.dy=>(2,0,0,[],false)
 |.e6=>(3,0,0,[],false)
 |.dN n=>(4,n,0,[],false)
 |.st a b d f=>(5,a,b,d,f)
 |.eY a d=>(6,a,0,d,false)
 |.hN=>(7,0,0,[],false)
noncomputable def Fr.cc(c:Nat×Int×Int×List UInt8×Bool):Fr:=
 if c.1=0 then .ey c.2.1 else if c.1=1 then .gH else if c.1=2 then .dy else if c.1=3 then .e6 else if c.1=4 then .dN c.2.1 else if c.1=5 then .st c.2.1 c.2.2.1 c.2.2.2.1 c.2.2.2.2 else if c.1=6 then .eY c.2.1 c.2.2.2.1 else .hN
theorem Fr.Js(a:Fr):Fr.cc a.code=a:=by cases a<;>rfl
noncomputable instance:DecidableEq Fr:=λa b=>decidable_of_iff (a.code=b.code) ⟨λh=>a.Js.symm.trans ((congrArg Fr.cc h).trans b.Js),congrArg Fr.code⟩
noncomputable def Fr.v:Fr->C
 |.ey n=>.bA [.str "max_data",.int n]
 |.gH=>.bA [.str "stop_sending",.int 4,.int 7]
 |.dy=>.bA [.str "path_challenge",.bytes pg]
 |.e6=>.bA [.str "data_blocked",.int 9]
 |.dN n=>.bA [.str "new_connection_id",.int n,.int 0,.bytes (kc 8 0),.bytes (kc 16 0)]
 |.st dF bV d cW=>.bA [.str "stream",.int dF,.int bV,.bytes d,.bool cW]
 |.eY bV d=>.bA [.str "crypto",.int bV,.bytes d]
 |.hN=>.bA [.str "ping"]
noncomputable def Fr.ok:Fr->Prop
 |.ey n=>0<=n/\n<64
 |.dN n=>0<=n/\n<64
 |.st dF bV d _=>(0<=dF/\dF<64)/\(0<=bV/\bV<64)/\bV+d.length<64
 |.eY bV d=>(0<=bV/\bV<64)/\bV+d.length<64
 |_=>True
noncomputable def Fr.size:Fr->Nat
 |.ey _=>2
 |.gH=>3
 |.dy=>9
 |.e6=>2
 |.dN _=>28
 |.st _ bV d _=>3+(if 0<bV then 1 else 0)+d.length
 |.eY _ d=>3+d.length
 |.hN=>1
theorem all1{P:Int->Prop}{a:Int}(h:P a):∀n∈[a],P n:=b0.mpr ⟨h,eg _⟩
theorem all2{P:Int->Prop}{a b:Int}(h:P a)(h':P b):∀n∈[a,b],P n:=b0.mpr ⟨h,all1 h'⟩
theorem CK{P:Int->Prop}{a b c:Int}(h:P a)(h':P b)(VX:P c):∀n∈[a,b,c],P n:=b0.mpr ⟨h,all2 h' VX⟩
theorem tN{p q:List UInt8}{s:St}{Q:C->St->Prop}(aJ:p.length+q.length<=1000000)(h:Q (.bytes (p++q)) s):aM (c3 [.bytes p,.bytes q] s) Q:=lk (p:=p.length+q.length<=1000000) aJ h
theorem agk{σ:St}{bV:Int}{d:List UInt8}(w:cY σ)(h:Fr.ok (.eY bV d)):ba (tJ [Fr.v (.eY bV d)] σ) λv s=>∃b,v=.bytes b/\b.length=Fr.size (.eY bV d)/\cT σ s:=by
 obtain⟨h1,h2⟩:=h
 refine OP ?_
 refine(vg (l:=[6,bV]) rfl w (all2 (by decide) (by omega)) (ny 2 98)).bb ?_
 rintro _ s ⟨b,rfl,ai,g⟩
 refine(P0 (g.wf w) (show d.length<64 by exact aE.abm h1 h2)).bb ?_
 rintro _ t ⟨c,rfl,az,g2⟩
 have ji:b.length=2:=ai
 refine tN (by exact aE.abn h1 h2 az ji) ⟨_,rfl,?_,(g.trans g2).cut w⟩
 rw[g',ji,az];show 2+(1+d.length)=3+d.length;exact aE.abo
theorem agl{σ:St}(w:cY σ):ba (tJ [Fr.v .dy] σ) λv s=>∃b,v=.bytes b/\b.length=Fr.size .dy/\cT σ s:=by
 refine OP ?_
 refine(vg (l:=[26]) rfl w (all1 (by decide)) (ny 1 99)).bb ?_
 rintro _ s ⟨b,rfl,ai,g⟩
 have ji:b.length=1:=ai
 have aJ:pg.length=8:=rfl
 refine tN (q:=pg) (by exact aE.abq ji aJ) ⟨_,rfl,?_,g.cut w⟩
 rw[g',ji,aJ];rfl
theorem agh{σ:St}{n:Int}(w:cY σ)(h:Fr.ok (.dN n)):ba (vY [Fr.v (.dN n)] σ) λv s=>∃b,v=.bytes b/\b.length=Fr.size (.dN n)/\cT σ s:=by
 obtain⟨ao,h1⟩:=h
 refine adw ?_
 refine(vg (l:=[24,n,0]) rfl w (CK (by decide) (by exact aE.abr ao h1) (by decide)) (ny 3 97)).bb ?_
 rintro _ s ⟨b,rfl,ai,g⟩
 have ji:b.length=3:=ai
 refine tN (p:=b) (q:=[8]) (by simp;exact aE.abt ji) ?_
 refine tN (q:=kc 8 0) (by simp;exact aE.abu ji) ?_
 refine tN (q:=kc 16 0) (by simp;exact aE.abv ji) ⟨_,rfl,?_,g.cut w⟩
 simp[ji,Fr.size]
theorem agr{σ:St}{dF bV:Int}{d:List UInt8}{cW:Bool}(w:cY σ)(h:Fr.ok (.st dF bV d cW)):ba (vZ [Fr.v (.st dF bV d cW),.bool false] σ) λv s=>∃b,v=.bytes b/\b.length=Fr.size (.st dF bV d cW)/\cT σ s:=by
 obtain⟨⟨ao,h1⟩,⟨h2,aU⟩,h4⟩:=h
 have tail:∀{Q:C->St->Prop} {b:List UInt8} {s:St},cT σ s->b.length<=3->(∀c t,c.length=b.length+(1+d.length)->cT σ t->Q (.bytes c) t)->ba (mK [.bytes d] s) λv t=>aM (c3 [.bytes b,v] t) Q:=by
  intro Q b s g ai q
  refine(P0 (g.wf w) (show d.length<64 by exact aE.abw h4 h2)).bb ?_
  rintro _ u ⟨c,rfl,az,g2⟩
  exact tN (by exact aE.abx h4 h2 ai az) (q _ _ (by rw[g',az]) (g.trans g2))
 refine ady ?_
 by_cases aK:0<bV
 .have bj:decide (0<bV)=true:=decide_eq_true aK
  have key:∀t:Int,0<=t/\t<64->ba (iv [.bB [.int t,.int dF,.int bV]] σ) λv s=>ba (mK [.bytes d] s) λc t=>aM (c3 [v,c] t) λv s=>∃b,oI σ.next s.cells v=.bytes b/\b.length=Fr.size (.st dF bV d cW)/\cT σ (s.cut σ.next):=λt ht=>by
   refine(vg (l:=[t,dF,bV]) rfl w (CK ht ⟨ao,h1⟩ ⟨h2,aU⟩) (ny 3 97)).bb ?_
   rintro _ s ⟨b,rfl,ai,g⟩
   have ji:b.length=3:=ai
   refine tail g (by exact aE.aby ji) λc t az g2=>⟨c,rfl,?_,g2.cut w⟩
   rw[az,ji,Fr.size,if_pos aK];exact aE.abz
  cases cW
  .exact hS bj (hS bj (key _ (by decide)))
  .exact hS bj (hS bj (key _ (by decide)))
 .have bj:decide (0<bV)=false:=decide_eq_false aK
  have key:∀t:Int,0<=t/\t<64->ba (iv [.bB [.int t,.int dF]] σ) λv s=>ba (mK [.bytes d] s) λc t=>aM (c3 [v,c] t) λv s=>∃b,oI σ.next s.cells v=.bytes b/\b.length=Fr.size (.st dF bV d cW)/\cT σ (s.cut σ.next):=λt ht=>by
   refine(vg (l:=[t,dF]) rfl w (all2 ht ⟨ao,h1⟩) (ny 2 98)).bb ?_
   rintro _ s ⟨b,rfl,ai,g⟩
   have ji:b.length=2:=ai
   refine tail g (by exact aE.abA ji) λc t az g2=>⟨c,rfl,?_,g2.cut w⟩
   rw[az,ji,Fr.size,if_neg aK];exact aE.abB
  cases cW
  .exact gN bj (gN bj (key _ (by decide)))
  .exact gN bj (gN bj (key _ (by decide)))
end Internal
namespace Internal
open PySem PySem.W PyProof.Rows PySem.Calls
theorem Ba{σ:St}{c m:Int}{l:List Int}{f:C}(w:cY σ)(aJ:∀n∈c::l,0<=n/\n<64)(a3:l.length<=99)(h:∀Q,ba (iv [.bB ((c::l).map C.int)] σ) (λv s=>Q (oI σ.next s.cells v) (s.cut σ.next))->ba (o' [f] σ) Q):
 ba (o' [f] σ) λv s=>∃b,v=.bytes b/\b.length=1+l.length/\cT σ s:=by
 refine h _ ((vg (l:=c::l) rfl w aJ (Nat.succ_le_succ a3)).bb ?_)
 rintro _ s ⟨b,rfl,ai,g⟩
 exact⟨b,rfl,ai.trans (vt _ 1),g.cut w⟩
theorem P5{σ:St}(f:Fr)(w:cY σ)(h:f.ok):ba (o' [f.v] σ) λv s=>∃b,v=.bytes b/\b.length=f.size/\cT σ s:=by
 cases f with
 |ey n=>exact Ba (m:=0) (c:=16) (l:=[n]) w (all2 (by decide) h) (ny 1 98) λQ h=>ro h
 |gH=>exact Ba (m:=0) (c:=5) (l:=[4,7]) w (CK (by decide) (by decide) (by decide)) (by decide) λQ h=>ro h
 |e6=>exact Ba (m:=0) (c:=20) (l:=[9]) w (all2 (by decide) (by decide)) (by decide) λQ h=>ro h
 |hN=>exact Ba (m:=0) (c:=1) (l:=[]) w (all1 (by decide)) (by decide) λQ h=>ro h
 |dy=>
  refine ro ((agl w).bb ?_)
  rintro _ s ⟨b,rfl,ai,g⟩
  exact⟨b,rfl,ai,g.cut w⟩
 |eY bV d=>
  refine ro ((agk w h).bb ?_)
  rintro _ s ⟨b,rfl,ai,g⟩
  exact⟨b,rfl,ai,g.cut w⟩
 |st dF bV d cW=>
  refine ro ((agr w h).bb ?_)
  rintro _ s ⟨b,rfl,ai,g⟩
  exact⟨b,rfl,ai,g.cut w⟩
 |dN n=>
  refine ro ((agh w h).bb ?_)
  rintro _ s ⟨b,rfl,ai,g⟩
  exact⟨b,rfl,ai,g.cut w⟩
theorem Fr.O6{f:Fr}(h:f.ok):f.size<=70:=by
 cases f with
 |st a b c d=>
  obtain⟨_,⟨_,_⟩,h⟩:=h
  show 3+(if 0<b then 1 else 0)+c.length<=70
  split<;>omega
 |eY a b=>
  obtain⟨⟨_,_⟩,h⟩:=h
  show 3+b.length<=70
  omega
 |dN=>exact(by decide:28<=70)
 |dy=>exact(by decide:9<=70)
 |gH=>exact(by decide:3<=70)
 |hN=>exact(by decide:1<=70)
 |_=>exact(by decide:2<=70)
theorem G'{σ:St}(f:Fr)(w:cY σ)(h:f.ok):ba (lj [f.v] σ) λv s=>v=.int f.size/\cT σ s:=by
 refine adl ((P5 f w h).bb ?_)
 rintro _ s ⟨b,rfl,ai,g⟩
 have:=Fr.O6 h
 exact lk (p:=b.length<=1000000) (by exact aE.N2 ai this) ⟨by rw[<-ai];rfl,g.cut w⟩
noncomputable def Fr.data:Fr->Option (List UInt8)
 |.st _ _ d _=>some d
 |.eY _ d=>some d
 |_=>none
noncomputable def Fr.jk:Fr->aV
 |.ey _=>"max_data"
 |.gH=>"stop_sending"
 |.dy=>"path_challenge"
 |.e6=>"data_blocked"
 |.dN _=>"new_connection_id"
 |.st _ _ _ _=>"stream"
 |.eY _ _=>"crypto"
 |.hN=>"ping"
theorem Fr.uA(f:Fr){s:St}:hr f.v (.int 0) s=some (.str f.jk):=by cases f<;>rfl
theorem P1{σ:St}{f:Fr}{d:List UInt8}(w:cY σ)(aD:f.data=some d):ba (rV [f.v] σ) λv s=>v=.bytes d/\cT σ s:=by
 cases f<;>cases aD<;>exact adi ⟨rfl,cT.refl.cut w⟩
noncomputable def Fr.lN(f:Fr)(k:Nat)(d:List UInt8)(cW:Bool):Fr:=match f with
 |.st dF bV _ _=>.st dF (bV+k) d cW
 |.eY bV _=>.eY (bV+k) d
 |f=>f
theorem Ha{σ:St}{f:Fr}{k:Nat}{d S7:List UInt8}{b:Bool}(w:cY σ)(aD:f.data=some S7):ba (kk [f.v,.int k,.bytes d,.bool b] σ) λv s=>v=(f.lN k d b).v/\cT σ s:=by
 cases f<;>cases aD<;>exact adE ⟨rfl,cT.refl.cut w⟩
noncomputable def Fr.dT(f:Fr):Nat:=(f.lN 0 [] false).size
theorem Fr.LY(f:Fr){d:List UInt8}(h:f.data=some d):f.dT<=4/\3<=f.dT:=by
 cases f<;>cases h
 .rename_i bV _
  show 3+(if 0<bV+0 then 1 else 0)+0<=4/\3<=3+(if 0<bV+0 then 1 else 0)+0
  split<;>exact⟨by decide,by decide⟩
 .exact⟨show 3<=4 by decide,show 3<=3 by decide⟩
theorem Fr.PJ(f:Fr){d jh:List UInt8}{b:Bool}(h:f.data=some d):(f.lN 0 jh b).size=f.dT+jh.length:=by
 cases f<;>cases h<;>rfl
theorem Fr.A0(f:Fr){d:List UInt8}(h:f.data=some d):f.size=f.dT+d.length:=by
 cases f<;>cases h
 .rename_i dF bV cW
  show _=(3+(if 0<bV+0 then 1 else 0)+0)+d.length
  rw[tr];rfl
 .rfl
theorem Fr.PI{f:Fr}{d jh:List UInt8}{b:Bool}(h:f.data=some d)(aK:f.ok)(aD:jh.length<=d.length):(f.lN 0 jh b).ok:=by
 cases f<;>cases h
 .obtain⟨h1,⟨h2,h4⟩,aU⟩:=aK;exact⟨h1,by exact aE.Og h2 h4,by exact aE.Oh aD aU⟩
 .obtain⟨⟨h2,h4⟩,aU⟩:=aK;exact⟨by exact aE.Og h2 h4,by exact aE.Oh aD aU⟩
theorem Fr.t7{f:Fr}{d:List UInt8}(h:f.data=some d)(aK:f.ok):d.length<64:=by
 cases f<;>cases h
 .obtain⟨_,⟨_,_⟩,h⟩:=aK;omega
 .obtain⟨⟨_,_⟩,h⟩:=aK;omega
theorem O7{d:List UInt8}{aj:Int}{m:Nat}{Q:C->Prop}(c2:aj=m)(aJ:d.length<=1000000)(h:Q (.bytes (d.take m))):hQ (kz (.bytes d) .none (.int aj)) Q:=by
 subst c2
 exact kl (show(if 0<=(m:Int)/\d.length<=1000000 then some (C.bytes (d.take m)) else none)=_ from if_pos ⟨ts _,aJ⟩) h
theorem aeN{d:List UInt8}{aj:Int}{m:Nat}{Q:C->Prop}(c2:aj=m)(aJ:d.length<=1000000)(h:Q (.bytes (d.drop m))):hQ (kz (.bytes d) (.int aj) .none) Q:=by
 subst c2
 exact kl (show(if 0<=(m:Int)/\d.length<=1000000 then some (C.bytes (d.drop m)) else none)=_ from if_pos ⟨ts _,aJ⟩) h
theorem agp{σ:St}{f:Fr}{d:List UInt8}{R:Nat}(w:cY σ)(aD:f.data=some d)(aK:f.ok):ba (vQ [f.v,.int R] σ) λv s=>v=.int (if R<f.dT then-1 else((min d.length (R-f.dT):Nat):Int))/\cT σ s:=by
 have aJ:=Fr.t7 aD aK
 have u9:∀(jh:List UInt8) (s:St) (Q:C->St->Prop),cY s->jh.length<=d.length->(∀t,cT s t->Q (.int (f.dT+jh.length:Nat)) t)->ba (kk [f.v,.int (0:Nat),.bytes jh,.bool false] s) λv t=>ba (lj [v] t) Q:=by
  intro jh s Q qd e8 q
  refine(Ha qd aD).gs λt g=>?_
  refine(G' _ (g.wf qd) (Fr.PI aD aK e8)).gs λu g2=>?_
  rw[Fr.PJ f aD];exact q _ (g.trans g2)
 refine adj ((P1 w aD).bb ?_)
 rintro _ mw ⟨rfl,g1⟩
 refine u9 [] mw _ (g1.wf w) (jx _) λng g3=>?_
 have g13:=g1.trans g3
 refine qO (p:=(R:Int)<((f.dT+0:Nat):Int)) (λq=>?_) λq=>?_
 .rw[if_pos (by exact aE.abC q)]
  exact⟨rfl,g13.cut w⟩
 .refine lk (p:=d.length<=1000000) (by exact aE.td aJ) ?_
  refine u9 [] ng _ (g13.wf w) (jx _) λGI g5=>?_
  have Lq:=g13.trans g5
  have em:(if(R:Int)-((f.dT+0:Nat):Int)<(d.length:Int) then(R:Int)-((f.dT+0:Nat):Int) else(d.length:Int))=((min d.length (R-f.dT):Nat):Int):=by
   split<;>omega
  refine M7 (n:=999999) ?_
  refine O7 em (by exact aE.td aJ) ?_
  refine u9 _ GI _ (Lq.wf w) (by rw[qk];exact aE.abD) λoX g6=>?_
  refine gN (decide_eq_false (by rw[qk];omega)) ⟨congrArg C.int ?_,(Lq.trans g6).cut w⟩
  exact em.trans (if_neg (by omega)).symm
end Internal
namespace Internal
open PySem PySem.W PyProof.Rows PySem.Calls
noncomputable def Fr.cW:Fr->Bool
 |.st _ _ _ b=>b
 |_=>false
noncomputable def ei(f:Fr)(R:Nat):Option Fr×Option Fr:=
 if f.size<=R then(some f,none) else match f.data with
 |none=>(none,some f)
 |some d=>if R<=f.dT then(none,some f) else(some (f.lN 0 (d.take (R-f.dT)) false),some (f.lN (R-f.dT) (d.drop (R-f.dT)) f.cW))
noncomputable def j8:Option Fr->C
 |none=>.none
 |some f=>f.v
theorem Vb{n:Nat}{cells:Nat->Option cO}(f:Fr):kq n cells f.v=f.v:=by cases f<;>rfl
theorem Lm{n:Nat}{cells:Nat->Option cO}(o:Option Fr):kq n cells (j8 o)=j8 o:=by
 cases o with
 |none=>rfl
 |some f=>exact Vb f
theorem U'{n:Nat}{cells:Nat->Option cO}(o p:Option Fr):oI n cells (.bA [j8 o,j8 p])=.bA [j8 o,j8 p]:=by
 show C.bA [kq n cells (j8 o),kq n cells (j8 p)]=_
 rw[Lm,Lm]
theorem acL{f:Fr}{d:List UInt8}(aD:f.data=some d){l:Loc}{s:St}{Q:C->St->Prop}(q:Q (.bool f.cW) s):(TE.oA (.ah cP (.ah bf (.J 0) (.U (.int 0))) (.U (.str "stream"))) (.ah bf (.J 0) (.U (.int 4)))).p (some f.v::l) s Q:=by
 cases f<;>cases aD<;>exact q
theorem af8{σ:St}{f:Fr}{R:Nat}(w:cY σ)(aK:f.ok):ba (vP [f.v,.int R] σ) λv s=>v=.bA [j8 (ei f R).1,j8 (ei f R).2]/\cT σ s:=by
 have cR:∀{o p:Option Fr} {s:St},cT σ s->ei f R=(o,p)->oI σ.next s.cells (.bA [j8 o,j8 p])=.bA [j8 (ei f R).1,j8 (ei f R).2]/\cT σ (s.cut σ.next):=λg e=>⟨by rw[e];exact U' _ _,g.cut w⟩
 refine adh ((G' f w aK).bb ?_)
 rintro _ mw ⟨rfl,g1⟩
 refine qO (p:=(f.size:Int)<=(R:Int)) (λq=>cR (o:=some f) (p:=none) g1 (if_pos (Int.ofNat_le.mp q))) λq=>?_
 have el:¬f.size<=R:=λx=>q (Int.ofNat_le.mpr x)
 refine fc f.uA ?_
 cases aD:f.data with
 |none=>exact hS (by cases f<;>first|rfl|cases aD) (cR (o:=none) (p:=some f) g1 (by unfold ei;rw[if_neg el,aD]))
 |some d=>
  have aJ:=Fr.t7 aD aK
  have hz:=Fr.A0 f aD
  refine gN (by cases f<;>first|rfl|cases aD) ?_
  refine(agp (g1.wf w) aD aK).gs λrq g2=>?_
  have g12:=g1.trans g2
  refine(P1 (g12.wf w) aD).gs λng g3=>?_
  have g13:=g12.trans g3
  by_cases cM:R<=f.dT
  .refine hS (decide_eq_true (by split<;>omega)) ?_
   exact cR (o:=none) (p:=some f) g13 (by unfold ei;rw[if_neg el,aD];exact if_pos cM)
  .have em:(if R<f.dT then-1 else((min d.length (R-f.dT):Nat):Int))=((R-f.dT:Nat):Int):=by
    rw[if_neg (by exact aE.abE cM)];congr 1;exact aE.abG el hz
   refine gN (decide_eq_false (by rw[em];exact aE.abH cM)) ?_
   refine lk (p:=d.length<=1000000) (by exact aE.td aJ) ?_
   refine gN (decide_eq_false (by rw[em];omega)) ?_
   have tail:∀aj:Int,aj=(R-f.dT:Nat)->ba (kk [f.v,C.int (0:Nat),.bytes (d.take (R-f.dT)),C.bool false] ng) λx s=>ba (kk [f.v,C.int aj,.bytes (d.drop (R-f.dT)),.bool f.cW] s) λy s=>oI σ.next s.cells (C.bA [x,y])=C.bA [j8 (ei f R).1,j8 (ei f R).2]/\cT σ (s.cut σ.next):=by
    rintro aj rfl
    refine(Ha (g13.wf w) aD).gs λOV g4=>?_
    refine(Ha ((g13.trans g4).wf w) aD).gs λGI g5=>?_
    exact cR (o:=some _) (p:=some _) ((g13.trans g4).trans g5) (by unfold ei;rw[if_neg el,aD];exact if_neg cM)
   have q5:d.length<=1000000:=by exact aE.td aJ
   have fF:=tail _ em
   refine acL aD ?_
   exact O7 em q5 (fF.bb λx s h=>aeN em q5 h)
noncomputable def n9:Option Fr->Nat
 |none=>0
 |some f=>f.size
noncomputable def fQ:List Fr->Nat->List Fr×List Fr
 |[],_=>([],[])
 |f::r,R=>((ei f R).1.toList++(fQ r (R-n9 (ei f R).1)).1,(ei f R).2.toList++(fQ r (R-n9 (ei f R).1)).2)
theorem F9(o:Option Fr):pX (j8 o)=some o.isNone:=by
 cases o with
 |none=>rfl
 |some f=>cases f<;>rfl
theorem cutF_ind{P:Option Fr×Option Fr->Prop}{f:Fr}{R:Nat}(a:f.size<=R->P (some f,none))(b:P (none,some f))(c:∀d,f.data=some d->¬f.size<=R->¬R<=f.dT->P (some (f.lN 0 (d.take (R-f.dT)) false),some (f.lN (R-f.dT) (d.drop (R-f.dT)) f.cW))):P (ei f R):=by
 show P (ite _ _ _)
 by_cases h:f.size<=R
 .rw[if_pos h];exact a h
 .rw[if_neg h]
  generalize f.data=o at c
  rcases o with _|d
  .exact b
  .show P (ite _ _ _)
   by_cases q:R<=f.dT
   .rw[if_pos q];exact b
   .rw[if_neg q];exact c d rfl h q
theorem J0{f:Fr}{R:Nat}:n9 (ei f R).1<=R:=
 cutF_ind (P:=λp=>n9 p.1<=R) id (jx _) λd aD _ h=>by
  show(f.lN 0 _ _).size<=R
  rw[Fr.PJ f aD,qk]
  exact cI (Nat.add_le_add_left (Nat.min_le_left _ _) _) (er (Nat.add_sub_cancel' (Nat.le_of_not_le h)))
theorem AF{α:Type}{P:α->Prop}:∀g∈(none:Option α),P g:=λg h=>(Option.some_ne_none g (Eq.symm h)).elim
theorem u7{α:Type}{P:α->Prop}{x:α}(h:P x):∀g∈some x,P g:=λ_ e=>cx e▸h
theorem Fr.afy{f:Fr}{d:List UInt8}{k:Nat}{b:Bool}(h:f.data=some d)(aK:f.ok)(hk:k<=d.length):(f.lN k (d.drop k) b).ok:=by
 cases f<;>cases h
 .obtain⟨h1,⟨h2,h4⟩,aU⟩:=aK
  exact⟨h1,by exact aE.Oi hk aU h2,by rw[vp];exact aE.Oj hk aU⟩
 .obtain⟨⟨h2,h4⟩,aU⟩:=aK
  exact⟨by exact aE.Oi hk aU h2,by rw[vp];exact aE.Oj hk aU⟩
theorem DC{f:Fr}{R:Nat}(aK:f.ok):(∀g∈(ei f R).1,g.ok)/\∀g∈(ei f R).2,g.ok:=
 cutF_ind (P:=λp=>(∀g∈p.1,g.ok)/\∀g∈p.2,g.ok) (λ_=>⟨u7 aK,AF⟩) ⟨AF,u7 aK⟩ λd aD h q=>⟨u7 (Fr.PI aD aK (by rw[qk];exact aE.abI)),u7 (Fr.afy aD aK (Nat.sub_le_of_le_add (by rw[vt,<-Fr.A0 f aD];exact Nat.le_of_not_le h)))⟩
end Internal
set_option genInjectivity false
namespace Internal
open PySem PySem.W PyProof.Rows PySem.Calls
theorem cG{σ:St}{c d:Nat}{x:cO}(h:d≠c):(σ.aY c x).cells d=σ.cells d:=if_neg h
theorem iD{σ:St}{c:Nat}{x:cO}:(σ.aY c x).cells c=some x:=if_pos rfl
theorem i6{σ:St}{d:Nat}{x:cO}(h:d≠σ.next):(σ.new x).cells d=σ.cells d:=if_neg h
theorem jo{σ:St}{x:cO}:(σ.new x).cells σ.next=some x:=if_pos rfl
theorem cY.aY{σ:St}{c:Nat}{x:cO}(w:cY σ)(h:c<σ.next):cY (σ.aY c x):=λd aD=>
 (cG (k9 (kI h aD))).trans (w d aD)
theorem cY.new{σ:St}{x:cO}(w:cY σ):cY (σ.new x):=λd aD=>
 (i6 (k9 (kI (hB _) aD))).trans (w d (Nat.le_of_succ_le aD))
theorem cY.lt{σ:St}{c:Nat}{x:cO}(w:cY σ)(h:σ.cells c=some x):c<σ.next:=
 fy λq=>by rw[w c q] at h;cases h
structure Keeps (l:List Nat) (σ s:St):Prop where
 old:∀d,d<σ.next->d∉l->s.cells d=σ.cells d
 next:σ.next<=s.next
 wf:cY s
theorem Keeps.refl{l:List Nat}{σ:St}(w:cY σ):Keeps l σ σ:=⟨λ_ _ _=>rfl,bF _,w⟩
theorem Keeps.trans{l:List Nat}{a b c:St}(h:Keeps l a b)(h':Keeps l b c):Keeps l a c:=⟨λd aD aJ=>(h'.old d (kI aD h.next) aJ).trans (h.old d aD aJ),cI h.next h'.next,h'.wf⟩
theorem cT.keeps{l:List Nat}{σ s:St}(w:cY σ)(g:cT σ s):Keeps l σ s:=⟨λd _ _=>by rw[g.cells],g.next,g.wf w⟩
theorem Keeps.hX{l:List Nat}{σ s u:St}(h:Keeps l σ s)(g:cT s u):Keeps l σ u:=h.trans (g.keeps h.wf)
theorem Keeps.aY{l:List Nat}{σ s:St}{c:Nat}{x:cO}(h:Keeps l σ s)(az:c∈l\/σ.next<=c)(dQ:c<s.next):Keeps l σ (s.aY c x):=
 ⟨λd aD aJ=>(cG (show d≠c fromλq=>by subst q;exact az.elim aJ (Nat.not_le_of_lt aD))).trans (h.old d aD aJ),h.next,h.wf.aY dQ⟩
theorem Keeps.new{l:List Nat}{σ s:St}{x:cO}(h:Keeps l σ s):Keeps l σ (s.new x):=
 ⟨λd aD aJ=>(i6 (eL (kI aD h.next))).trans (h.old d aD aJ),Nat.le_succ_of_le h.next,h.wf.new⟩
theorem Keeps.bb{l l':List Nat}{σ s:St}(h:Keeps l σ s)(aJ:∀d∈l,d∈l'):Keeps l' σ s:=⟨λd aD q=>h.old d aD λx=>q (aJ d x),h.next,h.wf⟩
theorem qS{σ:St}{n c:Nat}(h:c<n):(σ.cut n).cells c=σ.cells c:=if_pos h
theorem J1{σ:St}{n c:Nat}(h:¬c<n):(σ.cut n).cells c=none:=if_neg h
theorem Keeps.cut{l:List Nat}{σ s:St}(h:Keeps l σ s):Keeps l σ (s.cut σ.next):=
 ⟨λd aD q=>(qS aD).trans (h.old d aD q),h.next,λd aD=>J1 (Nat.not_lt_of_le (cI h.next aD))⟩
theorem Keeps.done{σ s:St}(w:cY σ)(h:Keeps [] σ s):cT σ (s.cut σ.next):=by
 refine⟨funext λc=>?_,h.next⟩
 by_cases az:c<σ.next
 .exact(qS az).trans (h.old c az iI)
 .exact(J1 az).trans (w c (bJ az)).symm
theorem y9{σ:St}{c:Nat}{vs:List C}{v:C}{Q:C->St->Prop}(h:σ.cells c=some (.list vs))(aJ:vs.length<=1000000)(q:Q .none (σ.aY c (.list (vs++[v])))):aM (f7 [.ref c,v] σ) Q:=
 iL (show(match σ.cells c with|some (.list vs)=>if vs.length<=1000000 then some (C.none,σ.aY c (.list (vs++[v]))) else none|_=>none)=_ by rw[h];exact if_pos aJ) q
theorem pP{σ:St}{c:Nat}{vs:List C}(h:σ.cells c=some (.list vs)):eJ (.ref c) σ=true:=
 show(match σ.cells c with|some (.list _)=>true|_=>false)=true by rw[h]
theorem uY{σ:St}{c:Nat}{vs:List C}{v:C}{Q:C->St->Prop}(h:σ.cells c=some (.list vs))(aJ:vs.length<=1000000)(q:Q .none (σ.aY c (.list (vs++[v])))):d9 (eJ (.ref c) σ) (aM (f7 [.ref c,v] σ) Q) False:=
 hS (pP h) (y9 h aJ q)
theorem zP{σ s:St}{c:Nat}{vs:List C}(az:σ.next<=c)(h:s.cells c=some (.list vs)):kq σ.next s.cells (.ref c)=.bB vs:=by
 show(if σ.next<=c then _ else _)=_
 rw[if_pos az,h]
structure ow (σ s:St) (t l:List C):Prop where
 a:s.cells σ.next=some (.list t)
 b:s.cells (σ.next+1)=some (.list l)
 k:Keeps [] σ s
theorem ow.hX{σ s u:St}{t l:List C}(h:ow σ s t l)(g:cT s u):ow σ u t l:=⟨by rw[g.cells];exact h.a,by rw[g.cells];exact h.b,h.k.hX g⟩
theorem ow.OH{σ s:St}{t l:List C}(h:ow σ s t l)(v:C):ow σ (s.aY σ.next (.list (t++[v]))) (t++[v]) l:=
 ⟨iD,(cG (mB _)).trans h.b,h.k.aY (.inr (bF _)) (h.k.wf.lt h.a)⟩
theorem ow.OI{σ s:St}{t l:List C}(h:ow σ s t l)(v:C):ow σ (s.aY (σ.next+1) (.list (l++[v]))) t (l++[v]):=
 ⟨(cG (mB _).symm).trans h.a,iD,h.k.aY (.inr (hb _)) (h.k.wf.lt h.b)⟩
theorem zj{t X zf:List C}(e:t++(none:Option Fr).toList.map Fr.v++X=zf):t++X=zf:=(congrArg (·++X) (lQ t).symm).trans e
theorem P4{σ:St}{fs:List Fr}{R:Nat}(w:cY σ)(aK:∀f∈fs,f.ok)(a3:fs.length<=900):ba (rW [.bB (fs.map Fr.v),.int R] σ) λv s=>v=.bA [.bB ((fQ fs R).1.map Fr.v),.bB ((fQ fs R).2.map Fr.v)]/\cT σ s:=by
 refine adk ?_
 obtain⟨T,hT⟩:∃T,fQ fs R=T:=⟨_,rfl⟩
 rw[hT]
 refine dW rfl ?_
 refine lB (enc:=Fr.v) (A:=HM) (λr aa s=>I6 λed t l fx e4 eT=>aa=[some (.bB (fs.map Fr.v)),some (.int (ed:Nat)),some (.ref σ.next),some (.ref (σ.next+1)),fx,e4,eT]/\ow σ s t l/\(∀f∈r,f.ok)/\(t.length+r.length<=1000/\l.length+r.length<=1000)/\
  t++(fQ r ed).1.map Fr.v=T.1.map Fr.v/\l++(fQ r ed).2.map Fr.v=T.2.map Fr.v) (λ_ _ _ _=>rfl) ?_ ?_
  ⟨R,[],[],none,none,none,rfl,⟨(i6 (eL (hB _))).trans jo,jo,(Keeps.refl w).new.new⟩,aK,⟨by rw[iH];exact aE.Gm a3,by rw[iH];exact aE.Gm a3⟩,by rw[hT];rfl,by rw[hT];rfl⟩
 .rintro f r _ s ⟨ed,t,l,fx,e4,eT,rfl,h,n1,⟨ab,aF⟩,bj,bg⟩
  obtain⟨hf,n1⟩:=b0.mp n1
  have Qb:=af8 (R:=ed) h.k.wf hf
  have hk:=DC (R:=ed) hf
  have pK:=J0 (f:=f) (R:=ed)
  unfold fQ at bj bg
  generalize ei f ed=c at Qb hk pK bj bg
  obtain⟨o,p⟩:=c
  dsimp only at hk pK bj bg
  rw[jv,<-o6] at bj bg
  rw[gD] at ab aF
  refine⟨_,rfl,Qb.bb ?_⟩
  rintro _ mw ⟨rfl,g1⟩
  have h1:=h.hX g1
  refine Cm (F9 o) ?_
  cases o with
  |none=>
   refine Cm (F9 p) ?_
   cases p with
   |none=>exact⟨ed,t,l,_,_,_,rfl,h1,n1,⟨by exact aE.AM ab,by exact aE.AM aF⟩,zj bj,zj bg⟩
   |some g=>exact uY h1.b (by exact aE.uU aF) ⟨ed,t,l++[g.v],_,_,_,rfl,h1.OI g.v,n1,⟨by exact aE.AM ab,by rw[g'];exact(by exact aE.xy aF:l.length+1+r.length<=1000)⟩,zj bj,bg⟩
  |some q=>
   have cn:=hk.1 q rfl
   refine uY h1.a (by exact aE.uU ab) ?_
   refine(G' q (h1.OH q.v).k.wf cn).gs λu g=>?_
   have bZ:=(h1.OH q.v).hX g
   have LN:((ed:Int)-((q.size:Nat):Int))=((ed-q.size:Nat):Int):=by
    have:q.size<=ed:=pK
    exact aE.abJ this
   have bE:(t++[q.v]).length+r.length<=1000:=by rw[g'];exact(by exact aE.xy ab:t.length+1+r.length<=1000)
   refine Cm (F9 p) ?_
   cases p with
   |none=>exact⟨ed-q.size,_,l,_,_,_,by rw[<-LN];rfl,bZ,n1,⟨bE,by exact aE.AM aF⟩,bj,zj bg⟩
   |some g=>exact uY bZ.b (by exact aE.uU aF) ⟨ed-q.size,_,l++[g.v],_,_,_,by rw[<-LN];rfl,bZ.OI g.v,n1,⟨bE,by rw[g'];exact(by exact aE.xy aF:l.length+1+r.length<=1000)⟩,bj,bg⟩
 .rintro _ u ⟨ed,t,l,fx,e4,eT,rfl,h,_,_,bj,bg⟩
  have DI:t=T.1.map Fr.v:=(lQ t).symm.trans bj
  have Uj:l=T.2.map Fr.v:=(lQ l).symm.trans bg
  subst DI Uj
  refine⟨?_,h.k.done w⟩
  show C.bA [kq σ.next u.cells (.ref σ.next),kq σ.next u.cells (.ref (σ.next+1))]=_
  rw[zP (bF _) h.a,zP (hb _) h.b]
end Internal
set_option genInjectivity true
set_option genInjectivity false
namespace Internal
open PySem PySem.W PyProof.Rows PySem.Calls
noncomputable def u6:Nat->List Fr->Nat->Option (List (List Fr))
 |0,_,_=>none
 |n+1,left,R=>if left=[] then some [] else if(fQ left R).1=[] then none else(u6 n (fQ left R).2 R).map ((fQ left R).1::·)
theorem Ov{α:Type}(o:Option α):o.toList.length<=1:=by
 cases o
 .exact jx _
 .exact bF _
theorem UU(fs:List Fr):∀R:Nat,(fQ fs R).2.length<=fs.length/\(fQ fs R).1.length<=fs.length:=by
 induction fs with
 |nil=>exactλ_=>⟨bF _,bF _⟩
 |cons f fs a7=>
  intro R
  have this:=a7 (R-n9 (ei f R).1)
  have gU:=Ov (ei f R).1
  have gw:=Ov (ei f R).2
  show List.length (_++_)<=_/\List.length (_++_)<=_
  rw[g',g',gD]
  exact aE.abK this gU gw
theorem KG{P:Fr->Prop}(az:∀f R,P f->(∀g∈(ei f R).1,P g)/\∀g∈(ei f R).2,P g)(fs:List Fr):∀R:Nat,(∀f∈fs,P f)->(∀f∈(fQ fs R).1,P f)/\∀f∈(fQ fs R).2,P f:=by
 induction fs with
 |nil=>exactλ_ _=>⟨eg _,eg _⟩
 |cons f fs a7=>
  intro R h
  have k:=az f R (h f (.head _))
  have a7:=a7 (R-n9 (ei f R).1) λg q=>h g (.tail _ q)
  exact⟨λg a0=>(iV.mp a0).elim (λq=>k.1 g (BP.mp q)) (a7.1 g),λg a0=>(iV.mp a0).elim (λq=>k.2 g (BP.mp q)) (a7.2 g)⟩
noncomputable abbrev eb(r:List Fr):C:=.bB (r.map Fr.v)
theorem xi{σ:St}{c:Nat}{vs:List C}(h:σ.cells c=some (.list vs)):fU (.ref c) σ=some vs:=
 show(match σ.cells c with|some (.list vs)=>some vs|_=>none)=_ by rw[h]
structure lY (σ s:St) (t:List C):Prop where
 a:s.cells σ.next=some (.list t)
 k:Keeps [] σ s
theorem lY.hX{σ s u:St}{t:List C}(h:lY σ s t)(g:cT s u):lY σ u t:=⟨by rw[g.cells];exact h.a,h.k.hX g⟩
theorem lY.push{σ s:St}{t:List C}(h:lY σ s t)(v:C):lY σ (s.aY σ.next (.list (t++[v]))) (t++[v]):=
 ⟨iD,h.k.aY (.inr (bF _)) (h.k.wf.lt h.a)⟩
theorem lY.start{σ:St}(w:cY σ){t:List C}:lY σ (σ.new (.list t)) t:=⟨jo,(Keeps.refl w).new⟩
theorem adL{σ:St}{eo:Option C}{R:Nat}{T:f3}(hT:T=f3.boolOf (.ah kr (.eQ f' (.ae (.J 3) .av)) (.U (.int 0)))){Q:dp->Loc->St->Prop}:∀(n:Nat) (left:List Fr) (rows:List (List Fr)) (t:List C) (s:St) (fx e4:Option C),u6 n left R=some rows->lY σ s t->(∀f∈left,f.ok)->left.length<=900->t.length+rows.length<=1000->
 (∀u lP tp kF,lY σ u (t++rows.map eb)->Q .next [eo,some (.int R),some (.ref σ.next),lP,tp,kF] u)->
 dV (oS T.d HQ.d n [eo,some (.int R),some (.ref σ.next),some (eb left),fx,e4] s) Q:=by
 subst hT
 intro n
 induction n with
 |zero=>intro left rows t s fx e4 h;cases h
 |succ n a7=>
  intro left rows t s fx e4 h ha n1 aJ ht q
  refine M7 ?_
  refine lk (p:=(left.map Fr.v).length<=1000000) (by rw[ez];exact aE.Gk aJ) ?_
  unfold u6 at h
  by_cases e:left=[]
  .subst e
   cases h
   refine q _ _ _ _ ?_
   rw[List.map_nil,lQ];exact ha
  .rw[if_neg e] at h
   have hp:=Hp.mpr e
   by_cases e3:(fQ left R).1=[]
   .rw[if_pos e3] at h;cases h
   rw[if_neg e3] at h
   obtain⟨OT,aL,rfl⟩:=hc.mp h
   refine hS (decide_eq_true (by rw[ez];exact aE.abL hp)) ?_
   refine(P4 (fs:=left) (R:=R) ha.k.wf n1 aJ).gs λmw g1=>?_
   have h1:=ha.hX g1
   have fl:=UU left R
   have U3:=KG (λf R h=>DC h) left R n1
   have W4:=Hp.mpr e3
   rw[gD] at ht
   refine lk (p:=((fQ left R).1.map Fr.v).length<=1000000) (by rw[ez];exact aE.abM aJ fl) ?_
   refine gN (beq_eq_false_iff_ne.mpr (by rw[ez];exact aE.abN W4)) ?_
   refine uY h1.a (by exact aE.uU ht) ?_
   refine a7 (fQ left R).2 OT (t++[eb (fQ left R).1]) _ _ _ aL (h1.push _) U3.2 (by exact aE.abO aJ fl) (by rw[g'];exact(by exact aE.xy ht:t.length+1+OT.length<=1000)) λu lP tp kF bZ=>q u lP tp kF ?_
   rw[o6] at bZ;exact bZ
theorem agq{σ:St}{fs:List Fr}{R:Nat}{rows:List (List Fr)}(w:cY σ)(aL:u6 1000000 fs R=some rows)(aK:∀f∈fs,f.ok)(a3:fs.length<=900)(W8:rows.length<=900):
 ba (vS [eb fs,.int R] σ) λv s=>v=.bB (rows.map eb)/\cT σ s:=by
 refine adn ?_
 refine lk (p:=(fs.map Fr.v).length<=1000000) (by rw[ez];exact aE.Gk a3) ?_
 refine adL rfl 1000000 fs rows [] _ none none aL (lY.start w) aK a3 (by rw[iH];exact aE.Gm W8) λu lP tp kF h=>?_
 exact⟨zP (bF _) h.a,h.k.done w⟩
end Internal
set_option genInjectivity true
namespace Internal
open PySem PySem.W PyProof.Rows PySem.Calls
noncomputable def Fr.G3:Fr->aV
 |.ey _=>"latest"
 |.gH=>"same"
 |.dy=>"never"
 |.e6=>"blocked"
 |.dN _=>"same"
 |.st _ _ _ _=>"holder"
 |.eY _ _=>"holder"
 |.hN=>"never"
noncomputable def Fr.Pk:Fr->aT
 |.gH=>.int 4
 |.dN n=>.int n
 |_=>.none
noncomputable def Fr.GW(f:Fr):C:=.bA [.str f.jk,f.Pk.v]
theorem Qa{σ:St}(f:Fr)(w:cY σ):ba (tM [.str f.jk] σ) λv s=>v=.str f.G3/\cT σ s:=by
 cases f<;>exact⟨_,σ.cut σ.next,rfl,rfl,cT.refl.cut w⟩
theorem P9{σ:St}(f:Fr)(w:cY σ):ba (tL [f.v] σ) λv s=>v=f.GW/\cT σ s:=by
 cases f<;>exact⟨_,σ.cut σ.next,rfl,rfl,cT.refl.cut w⟩
theorem pf{α:Type}{g:α->C}{xs:List α}{cU:List C}(h:rP (λx v=>v=g x) xs cU):cU=xs.map g:=by
 induction h with
 |nil=>rfl
 |cons e _ a7=>rw[jw,<-e,<-a7]
theorem age{σ:St}{src:C}{fs:List Fr}(w:cY σ)(hs:∀s,cT σ s->eD src s=some (fs.map Fr.v))(a3:fs.length<=900):ba (vR [src] σ) λv s=>v=eb (fs.filter λf=>f.data.isSome)/\cT σ s:=by
 refine adm ?_
 refine dW (hs _ .refl) ?_
 refine nN (src:=src) (λaa s=>(∃z,aa=[z])/\cT σ s) (λf:Fr=>f.data.isSome) (λf v=>v=f.v) (λ_ s h=>hs s h.2) ?_ ⟨⟨_,rfl⟩,.refl⟩ (by rw[iH];exact aE.abP a3) ?_
 .rintro f _ _ s ⟨⟨z,rfl⟩,g⟩
  refine⟨_,rfl,?_⟩
  refine fc f.uA ?_
  refine(Qa f (g.wf w)).gs λt g2=>?_
  refine⟨show(f.G3==("holder":aV))=f.data.isSome by cases f<;>rfl,?_⟩
  have i:(∃z:Option C,[some f.v]=[z])/\cT σ t:=⟨⟨_,rfl⟩,g.trans g2⟩
  exact d9.of (A:=True) (B:=True) (by cases(f.G3==("holder":aV))<;>trivial) (λ_=>⟨rfl,i⟩) λ_=>i
 .rintro cU _ t a ⟨_,g⟩
  exact⟨by rw[pf a];rfl,g.cut w⟩
noncomputable abbrev eV:=List (aV×Int)
noncomputable def gE(al:eV):List (aT×C):=al.map λa=>(aT.str a.1,C.int a.2)
noncomputable def tm(al:eV)(k:aV):Option Int:=(al.find? λa=>decide (a.1=k)).map (·.2)
noncomputable def s8:Option Int->C
 |none=>.none
 |some t=>.int t
theorem ME(al:eV)(k:aV):eE (gE al) (.str k)=(tm al k).map C.int:=by
 unfold eE gE tm
 induction al with
 |nil=>rfl
 |cons a r a7=>
  rw[jw,List.find?_cons,List.find?_cons]
  by_cases h:a.1=k
  .rw[decide_eq_true (show(aT.str a.1,C.int a.2).1=aT.str k by rw[h]),decide_eq_true h];rfl
  .rw[decide_eq_false (show ¬(aT.str a.1,C.int a.2).1=aT.str k fromλe=>h (aT.str.inj e)),decide_eq_false h];exact a7
theorem CH{al:eV}{k:aV}{σ:St}{Q:C->St->Prop}(q:Q (s8 (tm al k)) σ):ba (q0 [.cV (gE al),.str k] σ) Q:=by
 refine⟨_,_,show some ((eE (gE al) (.str k)).getD .none,σ)=_ from ?_,q⟩
 rw[ME];cases tm al k<;>rfl
noncomputable abbrev fT:List aV:=["closed","idle","loss","probe","ack","path"]
noncomputable def nh(al:eV)(acc:Option (Int×aV))(k:aV):Option (Int×aV):=match tm al k,acc with
 |none,acc=>acc
 |some t,none=>some (t,k)
 |some t,some a=>if t<a.1 then some (t,k) else some a
noncomputable def zD:Option (Int×aV)->C
 |none=>.none
 |some a=>.bA [.int a.1,.str a.2]
theorem P7{σ:St}{al:eV}(w:cY σ):ba (rY [.cV (gE al)] σ) λv s=>v=zD (fT.foldl (nh al) none)/\cT σ s:=by
 refine adu ?_
 obtain⟨T,hT⟩:∃T,fT.foldl (nh al) none=T:=⟨_,rfl⟩
 rw[hT]
 refine dW rfl ?_
 refine lB (enc:=C.str) (xs:=fT) (A:=H5) (λr aa s=>s=σ/\∃acc d2 ef,aa=[some (.cV (gE al)),some (zD acc),d2,ef]/\r.foldl (nh al) acc=T) (λ_ _ _ _=>rfl) ?_ ?_ ⟨rfl,none,none,none,rfl,hT⟩
 .rintro k r _ _ ⟨rfl,acc,d2,ef,rfl,e⟩
  rw[qi] at e
  refine⟨_,rfl,?_⟩
  refine CH ?_
  unfold nh at e
  cases h:tm al k with
  |none=>
   rw[h] at e
   exact⟨rfl,acc,_,_,rfl,e⟩
  |some t=>
   rw[h] at e
   cases acc with
   |none=>exact⟨rfl,some (t,k),_,_,rfl,e⟩
   |some a=>
    refine qO (p:=t<a.1) (λq=>?_) λq=>?_
    .dsimp only at e
     rw[if_pos q] at e
     exact⟨rfl,some (t,k),_,_,rfl,e⟩
    .dsimp only at e
     rw[if_neg q] at e
     exact⟨rfl,some a,_,_,rfl,e⟩
 .rintro _ _ ⟨rfl,acc,d2,ef,rfl,e⟩
  have dw:acc=T:=e
  subst dw
  exact⟨by cases acc<;>rfl,cT.refl.cut w⟩
end Internal
namespace Internal
open PySem PySem.W PyProof.Rows PySem.Calls
theorem MH{al:eV}{k:aV}{t:Int}(h:k∉al.map (·.1)):d0 (gE al) (.str k) (.int t)=gE (al++[(k,t)]):=by
 unfold d0
 rw[if_neg]
 .rw[gE,gE,jv];rfl
 .rw[List.any_eq_true]
  rintro⟨e,cj,aD⟩
  obtain⟨a,ha,rfl⟩:=ec.mp cj
  exact h (ec.mpr ⟨a,ha,aT.str.inj (of_decide_eq_true aD)⟩)
theorem MK{al:eV}:(gE al).length=al.length:=ez ..
theorem Jd{c:Nat}:∀(ps acc:eV) (σ:St),σ.cells c=some (.cJ (gE acc))->((acc++ps).map (·.1)).Nodup->acc.length+ps.length<=1000->
 ∃a4,mP c (ps.map λa=>C.bA [.str a.1,.int a.2]) σ=some a4/\a4.next=σ.next/\a4.cells c=some (.cJ (gE (acc++ps)))/\∀d,d≠c->a4.cells d=σ.cells d
 |[],acc,σ,h,_,_=>⟨σ,rfl,rfl,by rw[lQ];exact h,λ_ _=>rfl⟩
 |p::ps,acc,σ,h,a3,aJ=>by
  rw[gD] at aJ
  have hp:p.1∉acc.map (·.1):=by
   rw[jv,yd] at a3
   exactλq=>a3.2.2 _ q _ (vr ..) rfl
  have az:acc++p::ps=(acc++[p])++ps:=List.append_cons ..
  rw[az] at a3
  obtain⟨a4,bj,bg,e3,gO⟩:=Jd ps (acc++[p]) (σ.aY c (.cJ (gE (acc++[p])))) iD a3 (by rw[g'];exact(by exact aE.xy aJ:acc.length+1+ps.length<=1000))
  refine⟨a4,?_,bg,by rw[az];exact e3,λd aD=>(gO d aD).trans (cG aD)⟩
  show(match σ.cells c with|some (.cJ es)=>if es.length<=1000000 then mP c (ps.map _) (σ.aY c (.cJ (d0 es (.str p.1) (.int p.2)))) else none|_=>none)=_
  rw[h]
  show(if(gE acc).length<=1000000 then _ else _)=_
  rw[if_pos (by rw[MK];exact aE.uU aJ),MH hp]
  exact bj
theorem Pu{al:eV}(a3:(al.map (·.1)).Nodup){a:aV×Int}(h:a∈al):tm al a.1=some a.2:=by
 unfold tm
 induction al with
 |nil=>cases h
 |cons b r a7=>
  rw[jw,kb] at a3
  rw[List.find?_cons]
  rcases fX.mp h with rfl|h
  .rw[decide_eq_true rfl];rfl
  .rw[decide_eq_false (show ¬b.1=a.1 fromλe=>a3.1 (by rw[e];exact ec.mpr ⟨a,h,rfl⟩))]
   exact a7 a3.2 h
noncomputable def qc(al:eV)(k:aV)(told:Option Int):eV:=(al.filter λa=> !(a.1==k))++(match told with|none=>[]|some t=>[(k,t)])
theorem Qy{σ:St}{c:Nat}{ps:eV}{Q:C->St->Prop}(h:σ.cells c=some (.list (ps.map λa=>C.bA [.str a.1,.int a.2])))(a3:(ps.map (·.1)).Nodup)(aJ:ps.length<=1000)
 (q:∀s,s.next=σ.next+1->s.cells σ.next=some (.cJ (gE ps))->(∀d,d≠σ.next->s.cells d=σ.cells d)->Q (.ref σ.next) s):aM (zz [.ref c] σ) Q:=by
 obtain⟨a4,bj,bg,e3,gO⟩:=Jd (c:=σ.next) ps [] (σ.new (.cJ [])) jo a3 (by rw[iH];exact aE.acm aJ)
 refine iL (show(match σ.cells c with|some (.list vs)=>(mP σ.next vs (σ.new (.cJ []))).map λa4=>(C.ref σ.next,a4)|_=>none)=some (.ref σ.next,a4) by rw[h];exact congrArg (kJ _) bj) (q a4 bg e3 λd aD=>(gO d aD).trans (i6 aD))
theorem Ll{σ s:St}{c:Nat}{es:List (aT×C)}(az:σ.next<=c)(h:s.cells c=some (.cJ es)):kq σ.next s.cells (.ref c)=.cV es:=by
 show(if σ.next<=c then _ else _)=_
 rw[if_pos az,h]
theorem OL{σ:St}{c:Nat}{es:List (List aT×C)}{a:aT}{i:Int}{v:C}(h:σ.cells c=some (.cv es))(aJ:es.length<=1000000):lF (.ref c) (.bA [a.v,.int i]) v σ=some (σ.aY c (.cv (d0 es [a,.int i] v))):=by
 unfold lF
 dsimp only
 rw[h]
 cases a<;>exact if_pos aJ
theorem AU{σ:St}{c:Nat}{es:List (aT×C)}{a:aT}{v:C}(h:σ.cells c=some (.cJ es))(aJ:es.length<=1000000):lF (.ref c) a.v v σ=some (σ.aY c (.cJ (d0 es a v))):=by
 unfold lF
 dsimp only
 rw[h]
 cases a<;>exact if_pos aJ
theorem JZ{src:C}{items l l':List C}{bind:C->Loc->Option Loc}{T:gj}{E:cy}{acc:List C}{aa:Loc}{σ:St}{Q:List C->St->Prop}(e:l=l')(h:ba (oD src items bind T E l' acc aa σ) Q):ba (oD src items bind T E l acc aa σ) Q:=by
 subst e;exact h
theorem agx{σ:St}{al:eV}{k:aV}{told:Option Int}(w:cY σ)(a3:(al.map (·.1)).Nodup)(aJ:al.length<=100):ba (v7 [.cV (gE al),.str k,s8 told] σ) λv s=>v=.cV (gE (qc al k told))/\cT σ s:=by
 refine adD ?_
 refine dW rfl ?_
 refine JZ (l':=al.map λa=>C.str a.1) (show(al.map λa=>(aT.str a.1,C.int a.2)).map (λe=>e.1.v)=_ by rw[vq];rfl) ?_
 refine nN (src:=.cV (gE al)) (enc:=λa:aV×Int=>C.str a.1) (λaa s=>(∃z,aa=[z,some (.cV (gE al)),some (.str k)])/\cT σ s) (λa=> !(a.1==k)) (λa v=>v=C.bA [.str a.1,.int a.2]) (λ_ _ _=>rfl) ?_ ⟨⟨_,rfl⟩,.refl⟩ (by rw[iH];exact aE.Om aJ) ?_
 .rintro a ha _ s ⟨⟨z,rfl⟩,g⟩
  refine⟨_,rfl,rfl,?_⟩
  have i:(∃z,[some (C.str a.1),some (.cV (gE al)),some (.str k)]=[z,some (.cV (gE al)),some (.str k)])/\cT σ s:=⟨⟨_,rfl⟩,g⟩
  refine d9.of (A:=True) (B:=True) (by cases(!(a.1==k))<;>trivial) (λ_=>?_) λ_=>i
  refine fc (show eE (gE al) (.str a.1)=some (.int a.2) by rw[ME,Pu a3 ha];rfl) ⟨rfl,i⟩
 .rintro cU _ t a ⟨_,g⟩
  have hf:=pf a
  subst hf
  have WR:((al.filter λa=> !(a.1==k)).map (·.1)).Nodup:=(yb _ vo).nodup a3
  have pJ:(al.filter λa=> !(a.1==k)).length<=100:=cI (BE ..) aJ
  refine Qy (ps:=al.filter λa=> !(a.1==k)) jo WR (by exact aE.acn pJ) λs h1 h2 aU=>?_
  have g1:t.next+1+1=s.next:=h1.symm
  have dQ:σ.next<=t.next+1:=Nat.le_succ_of_le g.next
  have ks:Keeps [] σ s:=by
   refine⟨λd aD _=>?_,by have:=g.next;exact aE.aco g1 this,λd aD=>?_⟩
   .have:=g.next
    rw[aU d (eL (by show d<t.next+1;exact aE.acp aD this)),i6 (by exact aE.acq aD this),g.cells]
   .have e:s.cells d=(t.new _).cells d:=aU d (k9 (by show t.next+1<d;exact aE.acr g1 aD))
    exact e.trans ((g.wf w).new d (by show t.next+1<=d;exact aE.acs g1 aD))
  cases told with
  |none=>
   refine⟨(Ll dQ h2).trans ?_,ks.done w⟩
   unfold qc;rw[lQ]
  |some u'=>
   have hk:k∉(al.filter λa=> !(a.1==k)).map (·.1):=by
    intro q
    obtain⟨a,ha,rfl⟩:=ec.mp q
    have:=(h5.mp ha).2
    rw[beq_self_eq_true] at this;cases this
   refine kl (AU (a:=.str k) (v:=.int u') h2 (by rw[MK];exact aE.Oo pJ)) ⟨(Ll dQ iD).trans ?_,(ks.aY (.inr dQ) (by exact aE.act g1)).done w⟩
   rw[MH hk];rfl
end Internal
namespace Internal
open PySem PySem.W PyProof.Rows PySem.Calls
theorem GH{n:Nat}{lt lt':Nat->Nat->Bool}(cj:∀i aj,i<n->aj<n->lt i aj=lt' i aj):∀(t:KasT (Array Nat)) (l:List (Nat×Nat×Bool)),mb n t l=true->runK lt t=runK lt' t
 |.ret a,l,_=>rfl
 |.ask i aj k,l,hk=>by
  obtain⟨hk,h4⟩:=om.mp hk
  obtain⟨hk,aU⟩:=om.mp hk
  obtain⟨h1,h2⟩:=om.mp hk
  show runK lt (k (lt i aj))=runK lt' (k (lt' i aj))
  rw[cj i aj (rJ h1) (rJ h2)]
  cases lt' i aj
  .exact GH cj (k false) _ h4
  .exact GH cj (k true) _ aU
theorem aeQ:∀n:Fin 7,lJ (λi aj=>decide (i<aj)) n.val=iW n.val:=by decide+kernel
theorem aeP{n:Nat}{lt:Nat->Nat->Bool}(dx:n<=6)(cj:∀i aj,i<n->aj<n->lt i aj=decide (i<aj)):lJ lt n=iW n:=by
 have:lJ lt n=lJ (λi aj=>decide (i<aj)) n:=by
  unfold lJ
  by_cases h:n<2
  .rw[if_pos h,if_pos h]
  .rw[if_neg h,if_neg h,GH cj _ _ (zt (by exact aE.uT h) dx)]
 rw[this];exact aeQ ⟨n,by exact aE.acu dx⟩
noncomputable def i7(k:aV):Nat:=fT.findIdx (λx=>x==k)
theorem kinds_all{P:aV->Prop}(h:P "closed"/\P "idle"/\P "loss"/\P "probe"/\P "ack"/\P "path"){k:aV}(hk:k∈fT):P k:=by
 obtain⟨h1,h2,aU,h4,gA,dx⟩:=h
 exact b0.mpr ⟨h1,b0.mpr ⟨h2,b0.mpr ⟨aU,b0.mpr ⟨h4,b0.mpr ⟨gA,b0.mpr ⟨dx,eg _⟩⟩⟩⟩⟩⟩ k hk
theorem agm{σ:St}{k:aV}(w:cY σ)(hk:k∈fT):ba (vT [.str k] σ) λv s=>v=.int (i7 k)/\cT σ s:=by
 refine kinds_all (P:=λk=>ba (vT [.str k] σ) λv s=>v=.int (i7 k)/\cT σ s) ⟨?_,?_,?_,?_,?_,?_⟩ hk<;>exact⟨_,σ.cut σ.next,rfl,rfl,cT.refl.cut w⟩
theorem XM{s:St}{k:aV}(hk:k∈fT):hr kO (.int (i7 k)) s=some (.str k):=
 kinds_all (P:=λk=>hr kO (.int (i7 k)) s=some (.str k)) ⟨by kernel_rfl,by kernel_rfl,by kernel_rfl,by kernel_rfl,by kernel_rfl,by kernel_rfl⟩ hk
theorem acM{eo:Option C}{i:Int}{v:C}{s:St}{Q:C->St->Prop}(sP:hr kO (.int i) s=some v)(q:Q v s):(TE.ah bf (.U kO) (.J 1)).p [eo,some (.int i)] s Q:=by
 show aM (bf [kO,.int i] s) Q
 exact fc sP q
noncomputable def lA(al:eV)(b2:Int)(k:aV):Bool:=match tm al k with
 |some t=>decide (t<=b2)
 |none=>false
noncomputable def lD(al:eV)(k:aV):C:=.bA [s8 (tm al k),.int (i7 k)]
theorem OB(al:eV)(T:Int):∀ks:List aV,(∀k∈ks,tm al k=some T)->k5 (ks.map (lD al))=some (ks.map λk=>(T,(i7 k:Int)))
 |[],_=>rfl
 |k::ks,h=>by
  obtain⟨h1,h⟩:=b0.mp h
  have a7:=OB al T ks h
  have e:lD al k=.bA [.int T,.int (i7 k)]:=by unfold lD;rw[h1];rfl
  rw[jw,e]
  show(k5 _).map _=_
  rw[a7];rfl
noncomputable def ud(tV kQ qJ tW tX tY:Bool):List aV:=(bif tV then[("closed":aV)] else[])++((bif kQ then[("idle":aV)] else[])++((bif qJ then[("loss":aV)] else[])++((bif tW then[("probe":aV)] else[])++((bif tX then[("ack":aV)] else[])++(bif tY then[("path":aV)] else[])))))
theorem VU:∀tV kQ qJ tW tX tY:Bool,∀i,i<(ud tV kQ qJ tW tX tY).length->∀aj,aj<(ud tV kQ qJ tW tX tY).length->decide (i7 ((ud tV kQ qJ tW tX tY).getD i "")<i7 ((ud tV kQ qJ tW tX tY).getD aj ""))=decide (i<aj):=by decide+kernel
theorem sk{α:Type}{p:α->Bool}{a:α}{l:List α}:(a::l).filter p=(bif p a then[a] else[])++l.filter p:=by
 rw[List.filter_cons];cases p a<;>rfl
theorem UX(p:aV->Bool):fT.filter p=ud (p "closed") (p "idle") (p "loss") (p "probe") (p "ack") (p "path"):=by
 unfold fT ud
 rw[sk,sk,sk,sk,sk,sk,List.filter_nil,lQ]
theorem acY(p:aV->Bool):∀i,i<(fT.filter p).length->∀aj,aj<(fT.filter p).length->decide (i7 ((fT.filter p).getD i "")<i7 ((fT.filter p).getD aj ""))=decide (i<aj):=by
 rw[UX];exact VU _ _ _ _ _ _
theorem Nc{vs:List C}:(iW vs.length).map (λi=>vs.getD i .none)=vs:=by
 apply List.ext_getElem (by rw[ez,qj])
 intro i h1 h2
 rw[BC,Ho,oo,iG h2];rfl
theorem aeX{u:St}{b2 i:Int}{a b:Option C}{k:aV}{s:St}(sP:hr kO (.int i) s=some (.str k))(g:cT u s):∃l',eA [0,1] (.bA [.int b2,.int i]) [a,b]=some l'/\
 f3.fM.p l' s λb t=>b=true/\d9 b ((TE.ah bf (.U kO) (.J 1)).p l' t λv gQ=>v=.str k/\(∃a b,l'=[a,b])/\cT u gQ) ((∃a b,l'=[a,b])/\cT u t):=
 ⟨[some (.int b2),some (.int i)],rfl,rfl,acM sP ⟨rfl,⟨_,_,rfl⟩,g⟩⟩
theorem af5{σ:St}{al:eV}{b2:Int}(w:cY σ)(um:∀k t,tm al k=some t->b2<=t):ba (vO [.cV (gE al),.int b2] σ) λv s=>v=.bB ((fT.filter (lA al b2)).map C.str)/\cT σ s:=by
 refine adg ?_
 obtain⟨ks,mg⟩:∃ks,fT.filter (lA al b2)=ks:=⟨_,rfl⟩
 rw[mg]
 refine dW rfl ?_
 refine lB (enc:=C.str) (xs:=fT) (A:=HH) (λr aa s=>tT λt ef fx=>aa=[some (.cV (gE al)),some (.int b2),some (.ref σ.next),ef,fx]/\lY σ s t/\(∀k∈r,k∈fT)/\t.length+r.length<=100/\t++(r.filter (lA al b2)).map (lD al)=ks.map (lD al)) (λ_ _ _ _=>rfl) ?_ ?_ ⟨[],none,none,rfl,lY.start w,λ_ h=>h,by decide,by rw[mg];rfl⟩
 .rintro k r _ s ⟨t,ef,fx,rfl,h,hk,aJ,e⟩
  obtain⟨E1,hk⟩:=b0.mp hk
  rw[gD] at aJ
  rw[sk] at e
  refine⟨_,rfl,?_⟩
  refine CH ?_
  cases h1:tm al k with
  |none=>
   rw[show lA al b2 k=false by unfold lA;rw[h1]] at e
   exact⟨t,_,_,rfl,h,hk,by exact aE.Oq aJ,e⟩
  |some u'=>
   have bg:lA al b2 k=decide (u'<=b2):=by unfold lA;rw[h1]
   rw[bg] at e
   refine qO (p:=u'<=b2) (λq=>?_) λq=>?_
   .rw[decide_eq_true q] at e
    refine hS (pP h.a) ?_
    refine(agm h.k.wf E1).gs λu g=>?_
    have h2:=h.hX g
    refine y9 h2.a (by exact aE.acv aJ) ⟨_,_,_,rfl,h2.push _,hk,by rw[g'];exact(by exact aE.acw aJ:t.length+1+r.length<=100),?_⟩
    have e3:lD al k=.bA [s8 (some u'),.int (i7 k)]:=by unfold lD;rw[h1]
    rw[<-e3,o6];exact e
   .rw[decide_eq_false q] at e
    exact⟨t,_,_,rfl,h,hk,by exact aE.Oq aJ,e⟩
 .rintro _ u ⟨t,ef,fx,rfl,h,_,_,e⟩
  have dw:t=ks.map (lD al):=(lQ t).symm.trans e
  subst dw
  have aL:∀i,i<ks.length->∀aj,aj<ks.length->decide (i7 (ks.getD i "")<i7 (ks.getD aj ""))=decide (i<aj):=by rw[<-mg];exact acY _
  have dx:ks.length<=6:=by rw[<-mg];exact BE ..
  have hT:∀k∈ks,tm al k=some b2:=by
   intro k hk
   rw[<-mg] at hk
   have:=(h5.mp hk).2
   unfold lA at this
   cases e:tm al k with
   |none=>rw[e] at this;cases this
   |some t=>rw[e] at this;exact congrArg some (Int.le_antisymm (of_decide_eq_true this) (um k t e))
  have q3:∀k∈ks,k∈fT:=by intro k hk;rw[<-mg] at hk;exact(h5.mp hk).1
  have es:p8 (sY (ks.map λk=>(b2,(i7 k:Int)))) (ks.map (lD al))=ks.map (lD al):=by
   unfold p8
   rw[aeP (by rw[ez];exact dx)]
   .exact Nc
   .intro i aj hi c2
    rw[ez] at hi c2
    have bj:=aL i hi aj c2
    rw[oo,oo,iG hi,iG c2] at bj
    unfold sY FH
    rw[oo,oo,mz,mz,iG hi,iG c2]
    rw[<-bj]
    show(decide (b2<b2)||(decide (b2=b2)&&decide ((i7 ks[i]:Int)<i7 ks[aj])))=decide (i7 ks[i]<i7 ks[aj])
    rw[decide_eq_false (Int.lt_irrefl b2),decide_eq_true rfl,Bool.false_or,Bf]
    exact decide_eq_decide.mpr Int.ofNat_lt
  have bg:A2 [.ref σ.next] u=some (.bB (ks.map (lD al)),u):=by
   show(fU (.ref σ.next) u).bind _=_
   rw[xi h.a]
   show(k5 _).bind _=_
   rw[OB al b2 ks hT]
   show(if _ then _ else _)=_
   rw[if_pos (by rw[ez];exact dx),es]
  refine iL bg ?_
  refine dW rfl ?_
  refine nN (src:=.bB (ks.map (lD al))) (λaa s=>(∃a b,aa=[a,b])/\cT u s) (λ_=>true) (λk v=>v=C.str k) (λ_ _ _=>rfl) ?_ ⟨⟨_,_,rfl⟩,.refl⟩ (by rw[iH];exact aE.Gn dx) ?_
  .rintro k hk _ s ⟨⟨a,b,rfl⟩,g⟩
   have pl:lD al k=.bA [.int b2,.int (i7 k)]:=by unfold lD;rw[hT k hk];rfl
   rw[pl]
   exact aeX (XM (q3 k hk)) g
  .rintro cU _ t a ⟨_,g⟩
   rw[rH.mpr (λ_ _=>rfl)] at a
   exact⟨by rw[pf a];rfl,(h.hX g).k.done w⟩
end Internal
namespace Internal
open PySem PySem.W PyProof.Rows PySem.Calls
noncomputable abbrev kg(σ:St)(c:Nat)(al:eV):Prop:=σ.cells c=some (.inst (some (.cV (gE al))))
theorem xB{σ:St}{c:Nat}{al:eV}{Q:C->Prop}(h:kg σ c al)(q:Q (.cV (gE al))):TE.CQ (.ref c) σ Q:=⟨_,_,rfl,h,q⟩
theorem xD{σ:St}{c:Nat}{al:eV}{A:Nat->Prop}(h:kg σ c al)(q:A c):TE.Gp (.ref c) σ A:=⟨_,_,rfl,h,q⟩
theorem acP{σ:St}{c:Nat}{al:eV}{es:List (aT×C)}{Q:St->Prop}(h:kg σ c al)(q:Q (σ.aY c (.inst (some (.cV es))))):cp.GN (.cV es) (.ref c) σ Q:=⟨_,_,_,rfl,rfl,h,q⟩
theorem agt{σ:St}{c:Nat}{al:eV}{k:aV}(w:cY σ)(h:kg σ c al):ba (vW [.ref c,.str k] σ) λv s=>v=s8 (tm al k)/\cT σ s:=by
 refine ads ?_
 refine xB h ?_
 refine CH ?_
 exact⟨by cases tm al k<;>rfl,cT.refl.cut w⟩
noncomputable def zL(al:eV):C:=match fT.foldl (nh al) none with
 |none=>.none
 |some a=>.int a.1
theorem aga{σ:St}{c:Nat}{al:eV}(w:cY σ)(h:kg σ c al):ba (vU [.ref c] σ) λv s=>v=zL al/\cT σ s:=by
 refine adp ?_
 refine xB h ?_
 refine(P7 w).gs λs g=>?_
 unfold zL
 cases fT.foldl (nh al) none with
 |none=>exact⟨rfl,g.cut w⟩
 |some a=>exact⟨rfl,g.cut w⟩
theorem P8{σ:St}{c:Nat}{al:eV}{k:aV}{told:Option Int}(w:cY σ)(h:kg σ c al)(a3:(al.map (·.1)).Nodup)(aJ:al.length<=100):
 ba (rX [.ref c,.str k,s8 told] σ) λv s=>v=.none/\kg s c (qc al k told)/\Keeps [c] σ s:=by
 refine adq ?_
 refine xB h ?_
 refine(agx w a3 aJ).gs λs g=>?_
 have h':kg s c al:=by rw[kg,g.cells];exact h
 have az:=w.lt h
 refine acP h' ⟨rfl,(qS az).trans iD,?_⟩
 exact((g.keeps w).aY (.inl (gi.mpr rfl)) (kI az g.next)).cut
theorem G2{al:eV}{k:aV}:qc al k none=al.filter λa=> !(a.1==k):=lQ _
theorem afv{al:eV}{k:aV}(h:(al.map (·.1)).Nodup):((qc al k none).map (·.1)).Nodup:=by
 rw[G2];exact(yb _ vo).nodup h
theorem Ph{al:eV}:∀{ks:List aV},ks.foldl (λal k=>qc al k none) al=al.filter λa=> !(ks.contains a.1)
 |[]=>(rH.mpr λ_ _=>rfl).symm
 |k::ks=>by
  rw[qi,G2,Ph,List.filter_filter]
  congr 1;funext a
  rw[List.contains_cons,Bool.not_or,Bool.and_comm]
theorem ags{σ:St}{c:Nat}{al:eV}{b2:Int}{ks:List aV}(w:cY σ)(h:kg σ c al)(a3:(al.map (·.1)).Nodup)(aJ:al.length<=100)(um:∀k t,tm al k=some t->b2<=t)(mg:fT.filter (lA al b2)=ks):
 ba (vV [.ref c,.int b2] σ) λv s=>v=.bB (ks.map C.str)/\kg s c (al.filter λa=> !(ks.contains a.1))/\Keeps [c] σ s:=by
 refine adr ?_
 refine xB h ?_
 refine(af5 w um).bb ?_
 rw[mg]
 rintro _ s ⟨rfl,g⟩
 have h':kg s c al:=by rw[kg,g.cells];exact h
 have az:=w.lt h
 refine dW rfl ?_
 refine lB (src:=.bB (ks.map C.str)) (enc:=C.str) (xs:=ks) (A:=HZ) (λr aa u=>(∃z,aa=[some (.ref c),some (.int b2),some (.bB (ks.map C.str)),z])/\∃tU,kg u c tU/\(tU.map (·.1)).Nodup/\tU.length<=100/\Keeps [c] σ u/\r.foldl (λal k=>qc al k none) tU=al.filter λa=> !(ks.contains a.1)) (λ_ _ _ _=>rfl) ?_ ?_
  ⟨⟨_,rfl⟩,al,h',a3,aJ,g.keeps w,Ph⟩
 .rintro k r _ u ⟨⟨z,rfl⟩,tU,h1,h2,aU,h4,e⟩
  refine⟨_,rfl,?_⟩
  refine xD h1 ?_
  refine(P8 (told:=none) h4.wf h1 h2 aU).gs λt ia=>?_
  obtain⟨dK,hu⟩:=ia
  exact⟨⟨_,rfl⟩,_,dK,afv h2,by rw[G2];exact cI (BE ..) aU,h4.trans hu,e⟩
 .rintro _ u ⟨⟨z,rfl⟩,tU,h1,_,_,h4,e⟩
  subst e
  exact⟨rfl,(qS az).trans h1,h4.cut⟩
end Internal
set_option genInjectivity false
namespace Internal
open PySem PySem.W PyProof.Rows PySem.Calls
theorem uO{α:Type}[DecidableEq α]:∀{l m:List α},l.Nodup->(∀x∈l,x∈m)->l.length<=m.length
 |[],_,_,_=>jx _
 |x::l,m,a3,h=>by
  rw[kb] at a3
  have ay:=h x (vr ..)
  have a7:l.length<=(m.erase x).length:=uO a3.2 λy bQ=>(List.mem_erase_of_ne (show y≠x fromλe=>a3.1 (by rw[<-e];exact bQ))).mpr (h y (yc _ bQ))
  rw[List.length_erase_of_mem ay] at a7
  have:0<m.length:=Hp.mpr (List.ne_nil_of_mem ay)
  simp only[gD];exact aE.acx a7 this
section
variable{dX:Type}[DecidableEq dX]{es:List (dX×C)}{k k0:dX}{v:C}
theorem Jc:(es.any (λe=>decide (e.1=k))=true)↔k∈es.map (·.1):=by
 rw[List.any_eq_true]
 constructor
 .rintro⟨e,cj,h⟩;exact ec.mpr ⟨e,cj,of_decide_eq_true h⟩
 .intro h;obtain⟨e,cj,rfl⟩:=ec.mp h;exact⟨e,cj,decide_eq_true rfl⟩
theorem MD:(es.map (λe=>if e.1=k then(e.1,v) else e)).map (·.1)=es.map (·.1):=by
 rw[vq]
 refine List.map_congr_left λe _=>?_
 simp only[Function.comp];split<;>rfl
theorem Aj:k0∈(d0 es k v).map (·.1)↔k0=k\/k0∈es.map (·.1):=by
 unfold d0
 split
 .rename_i h
  rw[MD]
  rw[Jc] at h
  exact⟨.inr,λq=>q.elim (λe=>e▸h) id⟩
 .rw[jv,iV]
  simp only[jw,List.map_nil,fX,iI,or_false]
  exact⟨λq=>q.elim .inr .inl,λq=>q.elim .inr .inl⟩
theorem NB(h:(es.map (·.1)).Nodup):((d0 es k v).map (·.1)).Nodup:=by
 unfold d0
 split
 .rw[MD];exact h
 .rename_i q
  rw[Jc] at q
  rw[jv,yd]
  refine⟨h,by simp,?_⟩
  rintro a ha b ai rfl
  simp only[jw,List.map_nil,fX,iI,or_false] at ai
  exact q (ai▸ha)
theorem Nf{e:dX×C}(h:e∈d0 es k v):e=(k,v)\/e∈es:=by
 unfold d0 at h
 split at h
 .obtain⟨a,ha,rfl⟩:=ec.mp h
  split
  .rename_i q;exact .inl (by rw[q])
  .exact .inr ha
 .rcases iV.mp h with h|h
  .exact .inr h
  .exact .inl (gi.mp h)
theorem sU:(d0 es k v).length<=es.length+1:=by
 unfold d0
 split<;>simp
theorem X2(h:eE es k=some v):(k,v)∈es:=by
 unfold eE at h
 obtain⟨e,cj,rfl⟩:=hc.mp h
 have:=Bz cj
 rw[decide_eq_true_eq] at this
 rw[<-this]
 exact BJ cj
theorem X3(h:k∈es.map (·.1)):∃v,eE es k=some v:=by
 unfold eE
 cases e:es.find? (λe=>decide (e.1=k)) with
 |some a=>exact⟨_,rfl⟩
 |none=>
  rw[List.find?_eq_none] at e
  obtain⟨a,ha,rfl⟩:=ec.mp h
  exact absurd (decide_eq_true rfl) (e a ha)
structure Sane (T:dX->Option Int) (es:List (dX×C)):Prop where
 nd:(es.map (·.1)).Nodup
 ok:∀e∈es,∃i,T e.1=some i/\e.2=.int i
structure r0 (T:dX->Option Int) (es:List (dX×C)):Prop extends Sane T es where
 all:∀k i,T k=some i->k∈es.map (·.1)
theorem Sane.nil{T:dX->Option Int}:Sane T ([]:List (dX×C)):=⟨ql,eg _⟩
theorem Sane.d0{T:dX->Option Int}{i:Int}(h:Sane T es)(hk:T k=some i):Sane T (d0 es k (.int i)):=
 ⟨NB h.nd,λe cj=>(Nf cj).elim (λq=>by subst q;exact⟨i,hk,rfl⟩) (h.ok e)⟩
theorem Sane.len{T:dX->Option Int}{dom:List dX}(h:Sane T es)(aD:∀k i,T k=some i->k∈dom):es.length<=dom.length:=by
 have:=uO h.nd (m:=dom) λx ay=>by
  obtain⟨e,cj,rfl⟩:=ec.mp ay
  obtain⟨i,hi,_⟩:=h.ok e cj
  exact aD _ _ hi
 simpa using this
theorem L3{T:dX->Option Int}{ff:List (dX×C)}(h':r0 T ff):∀{es:List (dX×C)},(∀e∈es,∃i,T e.1=some i/\e.2=.int i)->nY ff es=some true
 |[],_=>rfl
 |(k,v)::r,h=>by
  obtain⟨i,hi,a'⟩:=h (k,v) (vr ..)
  dsimp only at hi a'
  subst a'
  obtain⟨y,bQ⟩:=X3 (h'.all k i hi)
  obtain⟨aj,c2,Mj⟩:=h'.ok _ (X2 bQ)
  dsimp only at c2 Mj
  rw[hi] at c2;cases c2
  subst Mj
  have a7:=L3 h' (es:=r) λe cj=>h e (yc _ cj)
  rw[nY,bQ]
  dsimp only
  rw[a7,show dm 4 (.int i) (.int i)=some (i==i) from rfl,beq_self_eq_true]
  rfl
theorem J7{T:dX->Option Int}{ff:List (dX×C)}(h:r0 T es)(h':r0 T ff):kR es ff=some true:=by
 have le:∀{a b:List (dX×C)},r0 T a->r0 T b->a.length<=b.length:=λ{a b} ha ai=>by
  have:=ha.toSane.len (dom:=b.map (·.1)) ai.all
  simpa using this
 unfold kR
 rw[if_pos (vu (le h h') (le h' h))]
 exact L3 h' h.ok
end
noncomputable def hv(nm:aT):List (List aT×C)->Int->List UInt8->List (List aT×C)
 |oc,_,[]=>oc
 |oc,a,b::d=>hv nm (d0 oc [nm,.int a] (.int b.toNat)) (a+1) d
theorem xF{nm:aT}{k:List aT}:∀{d:List UInt8} {oc:List (List aT×C)} {a:Int},k∈(hv nm oc a d).map (·.1)↔(∃i:Nat,i<d.length/\k=[nm,.int (a+i)])\/k∈oc.map (·.1)
 |[],oc,a=>⟨.inr,λh=>h.elim (λ⟨_,h,_⟩=>absurd h (vw _)) id⟩
 |b::d,oc,a=>by
  rw[hv,xF,Aj,gD]
  constructor
  .rintro(⟨i,hi,rfl⟩|rfl|h)
   .exact .inl ⟨i+1,Nat.succ_lt_succ hi,by rw[Bu];congr 3;exact aE.Ot⟩
   .exact .inl ⟨0,yk _,by rw[show a+((0:Nat):Int)=a from tr a]⟩
   .exact .inr h
  .rintro(⟨i,hi,rfl⟩|h)
   .cases i with
    |zero=>exact .inr (.inl (by rw[show a+((0:Nat):Int)=a from tr a]))
    |succ i=>exact .inl ⟨i,Nat.lt_of_succ_lt_succ hi,by rw[Bu];congr 3;exact aE.acy⟩
   .exact .inr (.inr h)
theorem Gx{nm:aT}{T:List aT->Option Int}:∀{d:List UInt8} {oc:List (List aT×C)} {a:Int},Sane T oc->(∀(i:Nat) b,d[i]? =some b->T [nm,.int (a+i)]=some (b.toNat:Int))->Sane T (hv nm oc a d)
 |[],oc,a,h,_=>h
 |b::d,oc,a,h,aD=>by
  rw[hv]
  have ao:=aD 0 b rfl
  rw[show a+((0:Nat):Int)=a from tr a] at ao
  refine Gx (h.d0 ao) λi c hi=>?_
  have:=aD (i+1) c hi
  rw[<-this,Bu];congr 4;exact aE.Ot
theorem xG{nm:aT}:∀{d:List UInt8} {oc:List (List aT×C)} {a:Int},(hv nm oc a d).length<=oc.length+d.length
 |[],oc,a=>bF _
 |b::d,oc,a=>by
  rw[hv]
  have h1:=xG (nm:=nm) (d:=d) (oc:=d0 oc [nm,.int a] (.int b.toNat)) (a:=a+1)
  have h2:=sU (es:=oc) (k:=[nm,.int a]) (v:=.int b.toNat)
  rw[gD];exact aE.acz h1 h2
end Internal
set_option genInjectivity true
namespace Internal
open PySem PySem.W PyProof.Rows PySem.Calls
theorem DN(vs:List C)(σ:St):pn (.bB vs) (.bB []) σ=some (decide (vs=[])):=by
 cases vs<;>rfl
theorem uB{σ:St}{c:Nat}{vs:List C}{v:C}{i:Int}(h:σ.cells c=some (.list vs))(ao:0<=i)(h1:i<2^63)(a':vs[i.toNat]? =some v):hr (.ref c) (.int i) σ=some v:=by
 unfold hr hG hy fU
 dsimp only
 rw[h]
 dsimp only
 rw[oq,rb,if_pos ⟨ao,h1⟩,a']
theorem Mv{σ:St}{vs:List C}{v:C}{i:Int}(ao:0<=i)(h1:i<2^63)(a':vs[i.toNat]? =some v):hr (.bB vs) (.int i) σ=some v:=by
 show rb vs i=_
 rw[rb,if_pos ⟨ao,h1⟩,a']
theorem OM{σ:St}{c:Nat}{vs:List C}{v:C}{i:Int}(h:σ.cells c=some (.list vs))(ao:0<=i)(h1:i<2^63)(a':i.toNat<vs.length):lF (.ref c) (.int i) v σ=some (σ.aY c (.list (vs.set i.toNat v))):=by
 unfold lF
 dsimp only
 rw[h]
 exact if_pos ⟨ao,h1,a'⟩
noncomputable abbrev u0(a b:Int)(fw:List Int):List C:=[.int a,.bB (fw.map C.int),.int b]
noncomputable def hF(σ:St)(p:Nat):Prop:=∃(a b:Int) (fw:List Int),σ.cells p=some (.list (u0 a b fw))/\(0<=a/\a<2147483647)/\0<=b/\fw.length<=100
theorem acI{p:Nat}{m:C}{a b:Int}{fw:List Int}{σ:St}{Q:C->St->Prop}(h:σ.cells p=some (.list (u0 a b fw)))(ai:0<=b)(sJ:fw.length<=100)(aW:∀q,Q (.int q) σ):
 (TE.ft (.boolOf (.ah gY (.J 2) (.d' .av))) (.eQ zg (.ae (.ah bf (.J 2) (.ah iB (.ah bf (.J 0) (.U (.int 2))) (.eQ f' (.ae (.J 2) .av)))) .av)) (.U (.int 47))).p
   [some (.ref p),some m,some (.bB (fw.map C.int)),none] σ Q:=by
 refine Cn (DN _ _) ?_
 cases fw with
 |nil=>exact aW 47
 |cons c r=>
  have bg:hr (.ref p) (.int 2) σ=some (.int b):=uB h (by decide) (by decide) rfl
  refine fc bg ?_
  have aJ:((c::r).map C.int).length=(c::r).length:=ez ..
  refine lk (p:=((c::r).map C.int).length<=1000000) (by rw[aJ];exact aE.Oo sJ) ?_
  have hp:0<(c::r).length:=yk _
  rw[aJ]
  generalize fR:((c::r).length:Int)=aZ
  have uq:0<=b.fmod aZ:=vm _ (by exact aE.Ou hp fR)
  have sH:b.fmod aZ<aZ:=vl _ (by exact aE.Ou hp fR)
  refine iL (m:=iB [.int b,.int aZ] σ) (a:=.int (b.fmod aZ)) (congrArg (kJ λv=>(v,σ)) (if_pos (show aZ≠0 by exact aE.acA uq sH))) ?_
  refine fc (v:=.int ((c::r)[(b.fmod aZ).toNat]'(by exact aE.acB fR uq sH))) (Mv uq (by omega) ?_) (aW _)
  rw[mz,iG];rfl
theorem x1{σ:St}{p:Nat}{m:Int}(w:cY σ)(hp:hF σ p)(hm:0<m):ba (h7 [.ref p,.int m] σ) λv s=>∃n,v=.int n/\(0<=n/\n<m)/\hF s p/\Keeps [p] σ s:=by
 obtain⟨a,b,fw,h,⟨ha,kT⟩,ai,sJ⟩:=hp
 have dQ:=w.lt h
 have bj:hr (.ref p) (.int 1) σ=some (.bB (fw.map C.int)):=uB h (by decide) (by decide) rfl
 have bg:hr (.ref p) (.int 2) σ=some (.int b):=uB h (by decide) (by decide) rfl
 have gO:lF (.ref p) (.int 2) (.int (b+1)) σ=some (σ.aY p (.list (u0 a (b+1) fw))):=OM h (by decide) (by decide) (hB 2)
 have pl:hr (.ref p) (.int 0) (σ.aY p (.list (u0 a (b+1) fw)))=some (.int a):=uB iD (by decide) (by decide) rfl
 refine adb ?_
 refine fc bj ?_
 refine acI h ai sJ λq=>?_
 refine fc bg ?_
 refine kl gO ?_
 refine fc pl ?_
 refine iL (m:=m9 [.int a,.int 48271] _) (a:=.int (a*48271)) (congrArg (kJ λv=>(v,_)) (if_pos (by omega))) ?_
 have WO:0<=(a*48271+q.fmod 1000003+59).fmod 2147483647:=vm _ (by decide)
 have WQ:(a*48271+q.fmod 1000003+59).fmod 2147483647<2147483647:=vl _ (by decide)
 refine kl (OM iD (by decide) (by decide) (yk 2)) ?_
 refine fc (uB iD (by decide) (by decide) rfl) ?_
 refine iL (m:=iB [.int _,.int m] _) (a:=.int (((a*48271+q.fmod 1000003+59).fmod 2147483647).fdiv 13|>.fmod m)) (congrArg (kJ λv=>(v,_)) (if_pos (show m≠0 by exact aE.Zu hm))) ?_
 refine⟨_,rfl,⟨vm _ hm,vl _ hm⟩,⟨_,b+1,fw,(qS dQ).trans iD,⟨WO,WQ⟩,by exact aE.Zv ai,sJ⟩,?_⟩
 exact(((Keeps.refl w).aY (.inl (gi.mpr rfl)) dQ).aY (.inl (gi.mpr rfl)) dQ).cut
end Internal
set_option genInjectivity false
namespace Internal
open PySem PySem.W PyProof.Rows PySem.Calls
structure dH where
 fl:List (aV×List Fr)
 dq:List Fr
 to:List Fr
 oc:List (List aT×C)
 en:List (aT×C)
 al:eV
structure fY where
 w:Nat
 fl:Nat
 dq:Nat
 to:Nat
 oc:Nat
 en:Nat
 al:Nat
noncomputable def fY.all(c:fY):List Nat:=[c.w,c.fl,c.dq,c.to,c.oc,c.en,c.al]
noncomputable def tn(c:fY):List (aT×C):=[(.str "flying",.ref c.fl),(.str "came",.ref c.dq),(.str "told",.ref c.to),(.str "octets",.ref c.oc),(.str "ends",.ref c.en),(.str "alarms",.ref c.al)]
noncomputable abbrev mc(a:aV×List Fr):C:=.bA [.str a.1,eb a.2]
noncomputable def dH.cells(c:fY)(S:dH):List (Nat×cO):=[(c.w,.cJ (tn c)),(c.fl,.list (S.fl.map mc)),(c.dq,.list (S.dq.map Fr.v)),(c.to,.list (S.to.map Fr.v)),(c.oc,.cv S.oc),(c.en,.cJ S.en),(c.al,.inst (some (.cV (gE S.al))))]
structure cA (σ:St) (c:fY) (S:dH):Prop where
 at_:∀p∈S.cells c,σ.cells p.1=some p.2
 nd:c.all.Nodup
theorem cA.uR{σ s:St}{c:fY}{S:dH}(h:cA σ c S)(e:∀d∈c.all,s.cells d=σ.cells d):cA s c S:=
 ⟨λp hp=>(e p.1 (ec.mpr ⟨p,hp,rfl⟩)).trans (h.at_ p hp),h.nd⟩
theorem cA.set{σ:St}{c:fY}{S cN:dH}{d:Nat}{x:cO}{i:Nat}(h:cA σ c S)(hi:(c.all)[i]? =some d)(cj:cN.cells c=(S.cells c).set i (d,x)):cA (σ.aY d x) c cN:=by
 refine⟨λp hp=>?_,h.nd⟩
 rw[cj] at hp
 obtain⟨aj,c2,hp⟩:=BH.mp hp
 rw[List.getElem_set] at hp
 obtain⟨agQ,Ww⟩:=nu.mp hi
 split at hp
 .rw[<-hp];exact iD
 .rename_i gq
  rw[List.length_set] at c2
  have bj:(c.all)[aj]=p.1:=by rw[<-hp];exact BC (f:=λp:Nat×cO=>p.1) (l:=S.cells c) (i:=aj) (h:=c2)
  have:p.1≠d:=λq=>gq ((List.getElem_inj h.nd).mp (Ww.trans (q.symm.trans bj.symm)))
  rw[cG this]
  exact h.at_ p (by rw[<-hp];exact List.getElem_mem _)
section
variable{σ s:St}{c:fY}{S:dH}
theorem cA.w(h:cA σ c S):σ.cells c.w=some (.cJ (tn c)):=h.at_ _ (.head _)
theorem cA.fl(h:cA σ c S):σ.cells c.fl=some (.list (S.fl.map mc)):=h.at_ _ (.tail _ (.head _))
theorem cA.dq(h:cA σ c S):σ.cells c.dq=some (.list (S.dq.map Fr.v)):=h.at_ _ (.tail _ (.tail _ (.head _)))
theorem cA.to(h:cA σ c S):σ.cells c.to=some (.list (S.to.map Fr.v)):=h.at_ _ (.tail _ (.tail _ (.tail _ (.head _))))
theorem cA.oc(h:cA σ c S):σ.cells c.oc=some (.cv S.oc):=h.at_ _ (.tail _ (.tail _ (.tail _ (.tail _ (.head _)))))
theorem cA.en(h:cA σ c S):σ.cells c.en=some (.cJ S.en):=h.at_ _ (.tail _ (.tail _ (.tail _ (.tail _ (.tail _ (.head _))))))
theorem cA.al(h:cA σ c S):kg σ c.al S.al:=h.at_ _ (.tail _ (.tail _ (.tail _ (.tail _ (.tail _ (.tail _ (.head _)))))))
theorem cA.aeA(h:cA σ c S)(l:List (aV×List Fr)):cA (σ.aY c.fl (.list (l.map mc))) c {S with fl:=l}:=h.set (i:=1) rfl rfl
theorem cA.aey(h:cA σ c S)(l:List Fr):cA (σ.aY c.dq (.list (l.map Fr.v))) c {S with dq:=l}:=h.set (i:=2) rfl rfl
theorem cA.aeD(h:cA σ c S)(l:List Fr):cA (σ.aY c.to (.list (l.map Fr.v))) c {S with to:=l}:=h.set (i:=3) rfl rfl
theorem cA.aeC(h:cA σ c S)(l:List (List aT×C)):cA (σ.aY c.oc (.cv l)) c {S with oc:=l}:=h.set (i:=4) rfl rfl
theorem cA.aez(h:cA σ c S)(l:List (aT×C)):cA (σ.aY c.en (.cJ l)) c {S with en:=l}:=h.set (i:=5) rfl rfl
theorem cA.hX(h:cA σ c S)(g:cT σ s):cA s c S:=h.uR λd _=>by rw[g.cells]
theorem cA.lt(w:cY σ)(h:cA σ c S):∀d∈c.all,d<σ.next:=λd aD=>by
 obtain⟨p,hp,rfl⟩:=ec.mp (show d∈(S.cells c).map (·.1) from aD)
 exact w.lt (h.at_ p hp)
theorem cA.keeps{l:List Nat}(h:cA σ c S)(w:cY σ)(k:Keeps l σ s)(aJ:∀d∈c.all,d∉l):cA s c S:=h.uR λd aD=>k.old d (h.lt w d aD) (aJ d aD)
theorem cA.cut{n:Nat}(h:cA s c S)(aJ:∀d∈c.all,d<n):cA (s.cut n) c S:=h.uR λd aD=>qS (aJ d aD)
theorem cA.O2{al:eV}(h:cA σ c S)(w:cY σ)(k:Keeps [c.al] σ s)(ha:kg s c.al al):cA s c {S with al:=al}:=by
 have h1:cA (σ.aY c.al (.inst (some (.cV (gE al))))) c {S with al:=al}:=h.set (i:=6) rfl rfl
 refine h1.uR λd aD=>?_
 by_cases e:d=c.al
 .subst e;exact ha.trans iD.symm
 .rw[cG e];exact k.old d (h.lt w d aD) λq=>e (gi.mp q)
theorem fY.Az:c.w∈c.all:=.head _
theorem fY.FZ:c.fl∈c.all:=.tail _ (.head _)
theorem fY.M':c.dq∈c.all:=.tail _ (.tail _ (.head _))
theorem fY.F0:c.to∈c.all:=.tail _ (.tail _ (.tail _ (.head _)))
theorem fY.Nb:c.oc∈c.all:=.tail _ (.tail _ (.tail _ (.tail _ (.head _))))
theorem fY.Na:c.en∈c.all:=.tail _ (.tail _ (.tail _ (.tail _ (.tail _ (.head _)))))
theorem fY.Ay:c.al∈c.all:=.tail _ (.tail _ (.tail _ (.tail _ (.tail _ (.tail _ (.head _))))))
theorem cA.item{k:aV}{v:C}(h:cA σ c S)(e:eE (tn c) (.str k)=some v):hr (.ref c.w) (.str k) σ=some v:=by
 unfold hr hG
 dsimp only
 rw[h.w];exact e
theorem cA.w2(h:cA σ c S):hr (.ref c.w) (.str "flying") σ=some (.ref c.fl):=h.item rfl
theorem cA.Ft(h:cA σ c S):hr (.ref c.w) (.str "came") σ=some (.ref c.dq):=h.item rfl
theorem cA.Mm(h:cA σ c S):hr (.ref c.w) (.str "told") σ=some (.ref c.to):=h.item rfl
theorem cA.Ml(h:cA σ c S):hr (.ref c.w) (.str "octets") σ=some (.ref c.oc):=h.item rfl
theorem cA.Mk(h:cA σ c S):hr (.ref c.w) (.str "ends") σ=some (.ref c.en):=h.item rfl
theorem cA.w1(h:cA σ c S):hr (.ref c.w) (.str "alarms") σ=some (.ref c.al):=h.item rfl
end
noncomputable def hU(S:dH):Fr->dH
 |.st dF bV d cW=>{S with oc:=hv (.int dF) S.oc bV d,en:=if cW=true then d0 S.en (.int dF) (.int (bV+d.length)) else S.en}
 |.eY bV d=>{S with oc:=hv (.str "crypto") S.oc bV d}
 |f=>{S with dq:=S.dq++[f]}
noncomputable def hV(S:dH)(fs:List Fr):dH:=fs.foldl hU S
structure wa (S:dH) (n:Nat):Prop where
 oc:S.oc.length+64*n<=900000
 en:S.en.length+n<=900000
 dq:S.dq.length+n<=900000
theorem NW{c:fY}{src:C}{items:List C}{a:aT}{bV:Int}{fG d2 e4 eT gZ:Option C}{d:List UInt8}{S:dH}{σ:St}{Q:dp->Loc->St->Prop}(hs:∀s,eD src s=some items)(w:cY σ)(h:cA σ c S)(aJ:S.oc.length+d.length<=1000000)
 (q:∀gh eH u,cA u c {S with oc:=hv a S.oc bV d}->Keeps c.all σ u->Q .next [some (.ref c.w),fG,d2,some a.v,some (.int bV),e4,gh,eH] u):
 dV (n8 src items (eA [6,7]) B4.d 0 (d.map λb=>C.int b.toNat) [some (.ref c.w),fG,d2,some a.v,some (.int bV),e4,eT,gZ] σ) Q:=by
 refine FW (enc:=λb:UInt8=>C.int b.toNat) (A:=B4) (λi r l s=>tT λoc gh eH=>l=[some (.ref c.w),fG,d2,some a.v,some (.int bV),e4,gh,eH]/\cA s c {S with oc:=oc}/\Keeps c.all σ s/\oc.length+r.length<=1000000/\hv a oc (bV+i) r=hv a S.oc bV d) (λ_ _ _ _ _=>hs _) ?_ ?_
  ⟨S.oc,eT,gZ,rfl,h,Keeps.refl w,aJ,by rw[show bV+((0:Nat):Int)=bV from tr bV]⟩
 .rintro i b r _ s ⟨oc,gh,eH,rfl,h1,dK,sE,e⟩
  rw[gD] at sE
  rw[hv] at e
  have hk:=sU (es:=oc) (k:=[a,.int (bV+i)]) (v:=.int b.toNat)
  refine⟨_,rfl,?_⟩
  refine fc h1.Ml ?_
  refine kl (OL (a:=a) h1.oc (by show oc.length<=_;exact aE.NY sE)) ⟨_,_,_,rfl,h1.aeC _,dK.aY (.inl c.Nb) (h1.lt dK.wf _ c.Nb),cI (yg hk _) (by exact aE.NZ sE),?_⟩
  rw[Bu,<-Bs];exact e
 .rintro i _ u ⟨oc,gh,eH,rfl,h1,dK,_,e⟩
  have dw:oc=hv a S.oc bV d:=e
  subst dw
  exact q _ _ _ h1 dK
theorem af7{c:fY}{S:dH}{σ:St}{f:Fr}{n:Nat}{fG ef fx e4 eT gZ:Option C}{Q:dp->Loc->St->Prop}(w:cY σ)(h:cA σ c S)(aK:f.ok)(hm:wa S (n+1))
 (q:∀lP tp kF gh eH u,cA u c (hU S f)->Keeps c.all σ u->wa (hU S f) n->Q .next [some (.ref c.w),fG,some f.v,lP,tp,kF,gh,eH] u):
 yu.p [some (.ref c.w),fG,some f.v,ef,fx,e4,eT,gZ] σ Q:=by
 obtain⟨fu,gG,xl⟩:=hm
 have F8:f.data=none->yu.p [some (.ref c.w),fG,some f.v,ef,fx,e4,eT,gZ] σ Q:=λaD=>by
  have az:hU S f={S with dq:=S.dq++[f]}:=by cases f<;>first|rfl|cases aD
  rw[az] at q
  refine fc f.uA ?_
  refine gN (by cases f<;>first|rfl|cases aD) ?_
  refine fc h.Ft ?_
  have h2:=h.aey (S.dq++[f])
  rw[jv] at h2
  refine uY h.dq (by rw[ez];exact aE.Gi xl) (q _ _ _ _ _ _ h2 ((Keeps.refl w).aY (.inl c.M') (h.lt w _ c.M')) ⟨by show S.oc.length+_<=_;exact aE.N0 fu,by show S.en.length+_<=_;exact aE.ri gG,?_⟩)
  show(S.dq++[f]).length+_<=_
  rw[g'];exact(by exact aE.Gj xl:S.dq.length+1+n<=900000)
 cases f with
 |st dF bV d cW=>
  have ly:d.length<64:=Fr.t7 (f:=.st dF bV d cW) rfl aK
  have rd:=xG (nm:=.int dF) (d:=d) (oc:=S.oc) (a:=bV)
  refine dW rfl ⟨.inr ⟨_,rfl⟩,?_⟩
  refine NW (c:=c) (a:=.int dF) (λ_=>rfl) w h (by exact aE.AK fu ly) λgh eH u h1 dK=>?_
  cases cW with
  |false=>exact q _ _ _ _ _ _ h1 dK ⟨by show(hv _ _ _ _).length+_<=_;exact aE.xw fu ly rd,by show S.en.length+_<=_;exact aE.ri gG,by show S.dq.length+_<=_;exact aE.ri xl⟩
  |true=>
   refine lk (p:=d.length<=1000000) (by exact aE.td ly) ?_
   refine fc h1.Mk ?_
   have hk:=sU (es:=S.en) (k:=.int dF) (v:=.int (bV+d.length))
   refine kl (AU (a:=.int dF) h1.en (by show S.en.length<=_;exact aE.Gi gG)) (q _ _ _ _ _ _ (h1.aez _) (dK.aY (.inl c.Na) (h1.lt dK.wf _ c.Na)) ⟨by show(hv _ _ _ _).length+_<=_;exact aE.xw fu ly rd,cI (yg hk _) (by exact aE.Gj gG),by show S.dq.length+_<=_;exact aE.ri xl⟩)
 |eY bV d=>
  have ly:d.length<64:=Fr.t7 (f:=.eY bV d) rfl aK
  have rd:=xG (nm:=.str "crypto") (d:=d) (oc:=S.oc) (a:=bV)
  refine dW rfl ⟨.inr ⟨_,rfl⟩,?_⟩
  refine NW (c:=c) (a:=.str "crypto") (λ_=>rfl) w h (by exact aE.AK fu ly) λgh eH u h1 dK=>?_
  exact q _ _ _ _ _ _ h1 dK ⟨by show(hv _ _ _ _).length+_<=_;exact aE.xw fu ly rd,by show S.en.length+_<=_;exact aE.ri gG,by show S.dq.length+_<=_;exact aE.ri xl⟩
 |_=>exact F8 rfl
theorem G8{c:fY}{S:dH}{σ:St}{fs:List Fr}(w:cY σ)(h:cA σ c S)(aK:∀f∈fs,f.ok)(hm:wa S fs.length):ba (nI [.ref c.w,eb fs] σ) λv s=>v=.none/\cA s c (hV S fs)/\Keeps c.all σ s:=by
 refine ada ?_
 obtain⟨T,hT⟩:∃T,hV S fs=T:=⟨_,rfl⟩
 rw[hT]
 refine dW rfl ?_
 refine lB (src:=eb fs) (enc:=Fr.v) (A:=yu) (λr l s=>QQ λcN d2 ef fx e4 eT gZ=>l=[some (.ref c.w),some (eb fs),d2,ef,fx,e4,eT,gZ]/\cA s c cN/\Keeps c.all σ s/\(∀f∈r,f.ok)/\wa cN r.length/\hV cN r=T) (λ_ _ _ _=>rfl) ?_ ?_
  ⟨S,_,_,_,_,_,_,rfl,h,Keeps.refl w,aK,hm,hT⟩
 .rintro f r _ s ⟨cN,d2,ef,fx,e4,eT,gZ,rfl,h1,dK,mh,fu,e⟩
  obtain⟨hf,mh⟩:=b0.mp mh
  refine⟨_,rfl,?_⟩
  refine af7 dK.wf h1 hf fu λlP tp kF gh eH u h2 hu gG=>⟨_,_,_,_,_,_,_,rfl,h2,dK.trans hu,mh,gG,e⟩
 .rintro _ u ⟨cN,d2,ef,fx,e4,eT,gZ,rfl,h1,dK,_,_,e⟩
  have dw:cN=T:=e
  subst dw
  exact⟨rfl,h1.cut (h.lt w),dK.cut⟩
end Internal
set_option genInjectivity true
set_option genInjectivity false
namespace Internal
open PySem PySem.W PyProof.Rows PySem.Calls
noncomputable abbrev qB:=List (List aT×C)×List (aT×C)
noncomputable def oF(x:qB):Fr->qB
 |.st dF _ d _=>(hv (.int dF) x.1 0 d,d0 x.2 (.int dF) (.int d.length))
 |.eY _ d=>(hv (.str "crypto") x.1 0 d,x.2)
 |_=>x
structure mI (σ s:St) (x:qB):Prop where
 a:s.cells σ.next=some (.cv x.1)
 b:s.cells (σ.next+1)=some (.cJ x.2)
 k:Keeps [] σ s
theorem mI.aes{σ s:St}{x:qB}(h:mI σ s x)(t:List (List aT×C)):mI σ (s.aY σ.next (.cv t)) (t,x.2):=
 ⟨iD,(cG (mB _)).trans h.b,h.k.aY (.inr (bF _)) (h.k.wf.lt h.a)⟩
theorem mI.aew{σ s:St}{x:qB}(h:mI σ s x)(t:List (aT×C)):mI σ (s.aY (σ.next+1) (.cJ t)) (x.1,t):=
 ⟨(cG (mB _).symm).trans h.a,iD,h.k.aY (.inr (hb _)) (h.k.wf.lt h.b)⟩
theorem Ke{σ s:St}{src:C}{items:List C}{a:aT}{eo fG ef fx eT gZ gS:Option C}{d:List UInt8}{x:qB}{Q:dp->Loc->St->Prop}(hs:∀s,eD src s=some items)(h:mI σ s x)(aJ:x.1.length+d.length<=1000000)
 (q:∀eH kG u,mI σ u (hv a x.1 0 d,x.2)->Q .next [eo,fG,some (.ref σ.next),ef,fx,some a.v,eT,eH,kG] u):
 dV (n8 src items (eA [7,8]) B7.d 0 (d.map λb=>C.int b.toNat) [eo,fG,some (.ref σ.next),ef,fx,some a.v,eT,gZ,gS] s) Q:=by
 refine FW (enc:=λb:UInt8=>C.int b.toNat) (A:=B7) (λi r l s=>tT λoc eH kG=>l=[eo,fG,some (.ref σ.next),ef,fx,some a.v,eT,eH,kG]/\mI σ s (oc,x.2)/\oc.length+r.length<=1000000/\hv a oc i r=hv a x.1 0 d) (λ_ _ _ _ _=>hs _) ?_ ?_
  ⟨x.1,gZ,gS,rfl,h,aJ,rfl⟩
 .rintro i b r _ s ⟨oc,eH,kG,rfl,h1,sE,e⟩
  rw[gD] at sE
  rw[hv] at e
  have hk:=sU (es:=oc) (k:=[a,.int i]) (v:=.int b.toNat)
  exact⟨_,rfl,kl (OL (a:=a) h1.a (by dsimp only;exact aE.NY sE)) ⟨_,_,_,rfl,h1.aes _,cI (yg hk _) (by exact aE.NZ sE),e⟩⟩
 .rintro i _ u ⟨oc,eH,kG,rfl,h1,_,e⟩
  have dw:oc=hv a x.1 0 d:=e
  subst dw
  exact q _ _ _ h1
structure Cq (x:qB) (n:Nat):Prop where
 oc:x.1.length+64*n<=900000
 en:x.2.length+n<=900000
theorem agn{σ s:St}{x:qB}{f:Fr}{n:Nat}{eo fG e4 eT gZ gS:Option C}{Q:dp->Loc->St->Prop}(h:mI σ s x)(aK:f.ok)(m:Cq x (n+1))
 (q:∀kF gh eH kG u,mI σ u (oF x f)->Cq (oF x f) n->Q .next [eo,fG,some (.ref σ.next),some (.ref (σ.next+1)),some f.v,kF,gh,eH,kG] u):
 yv.p [eo,fG,some (.ref σ.next),some (.ref (σ.next+1)),some f.v,e4,eT,gZ,gS] s Q:=by
 obtain⟨fu,gG⟩:=m
 have F8:f.data=none->yv.p [eo,fG,some (.ref σ.next),some (.ref (σ.next+1)),some f.v,e4,eT,gZ,gS] s Q:=λaD=>by
  have az:oF x f=x:=by cases f<;>first|rfl|cases aD
  rw[az] at q
  refine fc f.uA ?_
  exact gN (by cases f<;>first|rfl|cases aD) (q _ _ _ _ _ h ⟨by exact aE.N0 fu,by exact aE.ri gG⟩)
 cases f with
 |st dF bV d cW=>
  have ly:d.length<64:=Fr.t7 (f:=.st dF bV d cW) rfl aK
  have rd:=xG (nm:=.int dF) (d:=d) (oc:=x.1) (a:=0)
  refine dW rfl ⟨.inr ⟨_,rfl⟩,?_⟩
  refine Ke (a:=.int dF) (λ_=>rfl) h (by exact aE.AK fu ly) λeH kG u h1=>?_
  refine lk (p:=d.length<=1000000) (by exact aE.td ly) ?_
  have hk:=sU (es:=x.2) (k:=.int dF) (v:=.int d.length)
  exact kl (AU (a:=.int dF) h1.b (by dsimp only;exact aE.Gi gG)) (q _ _ _ _ _ (h1.aew _) ⟨by show(hv _ _ _ _).length+_<=_;exact aE.xw fu ly rd,cI (yg hk _) (by exact aE.Gj gG)⟩)
 |eY bV d=>
  have ly:d.length<64:=Fr.t7 (f:=.eY bV d) rfl aK
  have rd:=xG (nm:=.str "crypto") (d:=d) (oc:=x.1) (a:=0)
  refine dW rfl ⟨.inr ⟨_,rfl⟩,?_⟩
  exact Ke (a:=.str "crypto") (λ_=>rfl) h (by exact aE.AK fu ly) λeH kG u h1=>q _ _ _ _ _ h1 ⟨by show(hv _ _ _ _).length+_<=_;exact aE.xw fu ly rd,by show x.2.length+_<=_;exact aE.ri gG⟩
 |_=>exact F8 rfl
theorem eq_td{σ:St}{c d:Nat}{x y:List (List aT×C)}(h:σ.cells c=some (.cv x))(h':σ.cells d=some (.cv y)):pn (.ref c) (.ref d) σ=kR x y:=by
 unfold pn hG hy
 dsimp only
 rw[h,h']
theorem eq_ad{σ:St}{c d:Nat}{x y:List (aT×C)}(h:σ.cells c=some (.cJ x))(h':σ.cells d=some (.cJ y)):pn (.ref c) (.ref d) σ=kR x y:=by
 unfold pn hG
 dsimp only
 rw[h,h']
theorem ago{c:fY}{S:dH}{σ:St}{fs:List Fr}(w:cY σ)(h:cA σ c S)(aK:∀f∈fs,f.ok)(hm:fs.length<=1000)(h1:kR S.oc (fs.foldl oF ([],[])).1=some true)(h2:kR S.en (fs.foldl oF ([],[])).2=some true):
 ba (vN [.ref c.w,eb fs] σ) λv s=>v=.bool true/\cT σ s:=by
 refine adf ?_
 obtain⟨T,hT⟩:∃T,fs.foldl oF ([],[])=T:=⟨_,rfl⟩
 rw[hT] at h1 h2
 refine dW rfl ?_
 refine lB (src:=eb fs) (enc:=Fr.v) (A:=yv) (λr l s=>I6 λx fx e4 eT gZ gS=>l=[some (.ref c.w),some (eb fs),some (.ref σ.next),some (.ref (σ.next+1)),fx,e4,eT,gZ,gS]/\mI σ s x/\(∀f∈r,f.ok)/\Cq x r.length/\r.foldl oF x=T) (λ_ _ _ _=>rfl) ?_ ?_
  ⟨([],[]),_,_,_,_,_,rfl,⟨(i6 (eL (hB _))).trans jo,jo,(Keeps.refl w).new.new⟩,aK,⟨by rw[iH];exact aE.Zx hm,by rw[iH];exact aE.Zy hm⟩,hT⟩
 .rintro f r _ s ⟨x,fx,e4,eT,gZ,gS,rfl,g,mh,fu,e⟩
  obtain⟨hf,mh⟩:=b0.mp mh
  exact⟨_,rfl,agn g hf fu λkF gh eH kG u h2 gG=>⟨_,_,_,_,_,_,rfl,h2,mh,gG,e⟩⟩
 .rintro _ u ⟨x,fx,e4,eT,gZ,gS,rfl,g,_,_,e⟩
  have dw:x=T:=e
  subst dw
  have hw:cA u c S:=h.keeps w g.k λ_ _=>iI
  refine fc hw.Ml ?_
  refine y' ((eq_td hw.oc g.a).trans h1) ?_
  refine fc hw.Mk ?_
  exact y' ((eq_ad hw.en g.b).trans h2) ⟨rfl,g.k.done w⟩
end Internal
set_option genInjectivity true
set_option genInjectivity false
namespace Internal
open PySem PySem.W PyProof.Rows PySem.Calls
theorem Nd:∀{p:List Nat} {i:Nat},F2 p i=true->i∈p
 |[],_,h=>nomatch h
 |a::r,i,h=>(Bool.or_eq_true_iff.mp h).elim (λe=>by rw[Nat.eq_of_beq_eq_true e];exact .head _) λe=>.tail _ (Nd e)
theorem Jb{p:List Nat}:∀{n:Nat},CL p n=true->∀i,i<n->i∈p
 |0,_,i,h=>absurd h (vw _)
 |n+1,e,i,h=>by
  obtain⟨bj,bg⟩:=om.mp e
  rcases Nat.lt_succ_iff_lt_or_eq.mp h with h|rfl
  .exact Jb bg i h
  .exact Nd bj
theorem OE{α:Type}[DecidableEq α]:∀{l m:List α},l.Nodup->(∀x∈l,x∈m)->m.length=l.length->l.Perm m
 |[],m,_,_,h=>by rw[iH,BD] at h;subst h;exact .nil
 |x::l,m,nd,hs,h=>by
  obtain⟨h1,nd⟩:=kb.mp nd
  obtain⟨ay,hs⟩:=b0.mp hs
  refine .trans (.cons x (OE nd (λy bQ=>(List.mem_erase_of_ne (show y≠x fromλe=>h1 (by rw[<-e];exact bQ))).mpr (hs y bQ)) ?_)) (List.perm_cons_erase ay).symm
  rw[List.length_erase_of_mem ay,h];rfl
theorem aeO{lt:Nat->Nat->Bool}{n:Nat}(dx:n<=6):(iW n).Perm (lJ lt n):=by
 have aJ:=Pa (lt:=lt) dx
 refine OE List.nodup_range (λi hi=>?_) (by rw[aJ,qj])
 rw[List.mem_range] at hi
 unfold lJ
 split
 .exact List.mem_range.mpr hi
 .rename_i h
  obtain⟨l',h1,_⟩:=AY (lt:=lt) _ _ (zt (by exact aE.uT h) dx) (λx ay=>nomatch ay)
  exact Jb (om.mp (om.mp h1).1).2 i hi
theorem aeR{lt:Nat->Nat->Bool}{vs:List C}(dx:vs.length<=6):vs.Perm (p8 lt vs):=by
 have:=(aeO (lt:=lt) dx).map λi=>vs.getD i C.none
 rwa [Nc] at this
theorem XH{vs:List C}(h:∀v∈vs,∃i,v=C.int i):∃l,i3 vs=some l:=by
 induction vs with
 |nil=>exact⟨[],rfl⟩
 |cons v vs a7=>
  obtain⟨⟨i,rfl⟩,h'⟩:=b0.mp h
  obtain⟨l,e⟩:=a7 h'
  exact⟨i::l,congrArg (kJ λl=>i::l) e⟩
noncomputable def Fr.key(f:Fr):List aT:=[.str f.jk,f.Pk]
theorem ac2{σ:St}{c:Nat}{es:List (List aT×C)}{f:Fr}{v:C}(h:σ.cells c=some (.cv es))(aJ:es.length<=1000000):lF (.ref c) f.GW v σ=some (σ.aY c (.cv (d0 es f.key v))):=by
 unfold lF
 dsimp only
 rw[h]
 cases f<;>exact if_pos aJ
structure tP (fs ns:List Fr):Prop where
 nd:(ns.map Fr.key).Nodup
 sub:∀f∈ns,f∈fs
 all:∀f∈fs,f.key∈ns.map Fr.key
noncomputable def p2(fs:List Fr)(v:C):Fr:=match v with
 |.int p=>fs.getD p.toNat .hN
 |_=>.hN
structure r3 (fs:List Fr) (i:Nat) (es:List (List aT×C)):Prop where
 nd:(es.map (·.1)).Nodup
 ok:∀e∈es,∃(p:Nat) (f:Fr),e.2=.int p/\fs[p]? =some f/\e.1=f.key
 all:∀aj f,aj<i->fs[aj]? =some f->f.key∈es.map (·.1)
theorem r3.step{fs:List Fr}{i:Nat}{es:List (List aT×C)}{f:Fr}(h:r3 fs i es)(hf:fs[i]? =some f):r3 fs (i+1) (d0 es f.key (.int i)) where
 nd:=NB h.nd
 ok e cj:=(Nf cj).elim (λq=>⟨i,f,by rw[q],hf,by rw[q]⟩) (h.ok e)
 all aj g c2 a0:=by
  rw[Aj]
  rcases Nat.lt_succ_iff_lt_or_eq.mp c2 with c2|rfl
  .exact .inr (h.all aj g c2 a0)
  .rw[hf] at a0;cases a0;exact .inl rfl
theorem r3.done{fs:List Fr}{es:List (List aT×C)}{vs:List C}(h:r3 fs fs.length es)(hp:(es.map (·.2)).Perm vs):tP fs (vs.map (p2 fs)):=by
 have bj:∀e∈es,(p2 fs e.2).key=e.1/\p2 fs e.2∈fs:=by
  intro e cj
  obtain⟨p,f,a,b,c⟩:=h.ok e cj
  have:p2 fs e.2=f:=by
   rw[a];show fs.getD p .hN=f
   rw[oo,b];rfl
  rw[this];exact⟨c.symm,BK b⟩
 have bg:(es.map (·.1)).Perm ((vs.map (p2 fs)).map Fr.key):=by
  have q:=(hp.map (p2 fs)).map Fr.key
  rw[vq,vq] at q
  have e3:es.map ((Fr.key∘p2 fs)∘λx=>x.2)=es.map (·.1):=List.map_congr_left λe cj=>(bj e cj).1
  rwa [e3] at q
 refine⟨bg.nodup_iff.mp h.nd,λf hf=>?_,λf hf=>?_⟩
 .obtain⟨v,a',rfl⟩:=ec.mp hf
  obtain⟨e,cj,rfl⟩:=ec.mp (hp.mem_iff.mpr a')
  exact(bj e cj).2
 .obtain⟨aj,c2,rfl⟩:=BH.mp hf
  exact bg.mem_iff.mp (h.all aj _ c2 (iG c2))
theorem xS{σ:St}{c:Nat}{es:List (List aT×C)}(h:σ.cells c=some (.cv es)):hy (.ref c) σ=some es:=by
 unfold hy;dsimp only;rw[h]
theorem agi{σ:St}{c:Nat}{fs:List Fr}{K:List (List aT)}(w:cY σ)(az:σ.cells c=some (.list (fs.map Fr.v)))(a3:fs.length<=900)(q3:∀f∈fs,f.key∈K)(dx:K.length<=6):
 ba (vX [.ref c] σ) λv s=>∃ns,v=eb ns/\tP fs ns/\cT σ s:=by
 have dQ:=w.lt az
 refine adt ?_
 have at_:∀{s},Keeps [] σ s->s.cells c=some (.list (fs.map Fr.v)):=λk=>(k.old c dQ iI).trans az
 have m6:Keeps [] σ (σ.new (.cv [])):=(Keeps.refl w).new
 have w6:∀{s},Keeps [] σ s->eD (.ref c) s=some (fs.map Fr.v):=λk=>by
  unfold eD;dsimp only;rw[at_ k]
 refine dW (w6 m6) ⟨.inl (by rw[xi (at_ m6)];rfl),?_⟩
 refine FW (enc:=Fr.v) (xs:=fs) (A:=H3) (λi r l s=>tT λes qf lP=>l=[some (.ref c),some (.ref σ.next),qf,lP]/\s.cells σ.next=some (.cv es)/\Keeps [] σ s/\r=fs.drop i/\es.length<=i/\r3 fs i es) (λi r l s h=>by obtain⟨_,_,_,_,_,k,_⟩:=h;exact w6 k) ?_ ?_
  ⟨[],_,_,rfl,jo,m6,rfl,bF _,⟨ql,eg _,λ_ _ h=>absurd h (vw _)⟩⟩
 .rintro i f r _ s ⟨es,qf,lP,rfl,h1,dK,aL,aJ,ok⟩
  have hi:i<fs.length:=by
   refine fy λq=>?_
   rw[Hm q] at aL;cases aL
  rw[By hi] at aL
  obtain⟨rfl,rfl⟩:=rG aL
  refine⟨_,rfl,?_⟩
  refine(P9 fs[i] dK.wf).gs λu g=>?_
  have h2:u.cells σ.next=some (.cv es):=by rw[g.cells];exact h1
  have hk:=sU (es:=es) (k:=(fs[i]).key) (v:=.int i)
  have hu:=dK.hX g
  exact kl (ac2 h2 (by exact aE.Zz a3 aJ hi)) ⟨_,_,_,rfl,iD,hu.aY (.inr (bF _)) (hu.wf.lt h2),rfl,by exact aE.ZA aJ hk,ok.step (iG hi)⟩
 .rintro i _ s ⟨es,qf,lP,rfl,h1,dK,aL,_,ok⟩
  have hi:fs.length<=i:=Hl.mp aL.symm
  have Zp:r3 fs fs.length es:=⟨ok.nd,ok.ok,λaj f c2=>ok.all aj f (kI c2 hi)⟩
  have pI:es.length<=6:=by
   have:=uO ok.nd (m:=K) λk hk=>by
    obtain⟨e,cj,rfl⟩:=ec.mp hk
    obtain⟨p,f,_,b,c⟩:=ok.ok e cj
    rw[c];exact q3 f (BK b)
   rw[ez] at this;exact aE.ZC dx this
  obtain⟨l,aJ⟩:=XH (vs:=es.map (·.2)) λv a'=>by
   obtain⟨e,cj,rfl⟩:=ec.mp a'
   obtain⟨p,f,a,_⟩:=ok.ok e cj
   exact⟨p,a⟩
  have p3:=aeR (lt:=uK l) (vs:=es.map (·.2)) (by rw[ez];exact pI)
  have dP:=p3.length_eq
  rw[ez] at dP
  refine⟨es,l,xS h1,aJ,pI,?_⟩
  generalize p8 (uK l) (es.map (·.2))=vs at p3 dP
  refine dW rfl ?_
  refine JZ (List.map_id vs).symm ?_
  refine nN (src:=.bB vs) (xs:=vs) (enc:=id) (λaa t=>(∃z,aa=[z,some (.ref c)])/\Keeps [] σ t) (λ_=>true) (λv u=>u=(p2 fs v).v) (λ_ _ _=>rfl) ?_ ⟨⟨_,rfl⟩,dK⟩ (by rw[iH];exact aE.ZD pI dP) ?_
  .rintro v a' _ t ⟨⟨z,rfl⟩,k⟩
   obtain⟨e,cj,rfl⟩:=ec.mp (p3.mem_iff.mpr a')
   obtain⟨p,f,a,b,_⟩:=ok.ok e cj
   rw[a]
   have hp:p<fs.length:=(nu.mp b).1
   refine⟨_,rfl,rfl,?_⟩
   refine fc (v:=f.v) (uB (at_ k) (ts _) (by omega) ?_) ⟨?_,⟨_,rfl⟩,k⟩
   .rw[mz];show(fs[p]?).map _=_;rw[b];rfl
   .show f.v=(fs.getD p .hN).v
    rw[oo,b];rfl
  .rintro cU _ t a ⟨_,k⟩
   rw[rH.mpr (λ_ _=>rfl)] at a
   refine⟨vs.map (p2 fs),?_,Zp.done p3,k.done w⟩
   rw[pf a]
   show C.bB ([]++_)=C.bB _
   rw[vq];rfl
end Internal
set_option genInjectivity true
namespace Internal
open PySem PySem.W PyProof.Rows PySem.Calls
noncomputable def uG:List (List aT×C):=[([.str "max_data",.none],.int 33)]
noncomputable def t9:Bool->List (List aT×C)
 |true=>[([.str "stop_sending",.int 4],.bool true)]
 |false=>[]
noncomputable def t2:Bool->List (List aT×C)
 |true=>[([.str "data_blocked",.none],.int 9)]
 |false=>[]
noncomputable def jt(dn bl:Bool):Fr->Option Fr
 |.ey _=>some (.ey 33)
 |.gH=>if dn=true then none else some .gH
 |.e6=>if bl=true then some .e6 else none
 |.dN n=>some (.dN n)
 |_=>none
theorem I7{σ:St}{c:Nat}{es:List (List aT×C)}(h:σ.cells c=some (.cv es)):hG (.ref c) σ=none:=by
 unfold hG;dsimp only;rw[h]
theorem Mo{σ:St}{c:Nat}{es:List (List aT×C)}{v:C}{k:List aT}(h:σ.cells c=some (.cv es))(hk:toKey v=some k):oO v (.ref c) σ=some (eE es k).isSome:=by
 unfold oO
 rw[I7 h,xS h]
 dsimp only
 rw[hk];rfl
theorem XN{σ:St}{c:Nat}{es:List (List aT×C)}{v x:C}{k:List aT}(h:σ.cells c=some (.cv es))(hk:toKey v=some k)(ay:eE es k=some x):hr (.ref c) v σ=some x:=by
 unfold hr
 rw[I7 h,xS h]
 dsimp only
 rw[hk];exact ay
theorem VQ{σ:St}{c:Nat}{es:List (List aT×C)}{v x d:C}{k:List aT}{Q:C->St->Prop}(h:σ.cells c=some (.cv es))(hk:toKey v=some k)(ay:eE es k=some x)(q:Q x σ):d9 (w7 (.ref c) σ) (ba (zT [.ref c,v,d] σ) Q) False:=by
 refine hS (by unfold w7;rw[xS h];rfl) ⟨x,σ,?_,q⟩
 show(hy (.ref c) σ).bind _=_
 rw[xS h,oq,hk]
 show some ((eE es k).getD d,σ)=_
 rw[ay];rfl
theorem Fr.toKey(f:Fr):toKey f.GW=some f.key:=by cases f<;>rfl
theorem ae5{dn bl:Bool}{f:Fr}{eo fG d2 ef:Nat}{c:Nat}{eT gZ:Option C}{s:St}{vs:List C}{Q:dp->Loc->St->Prop}(w:cY s)(h1:s.cells fG=some (.cv uG))(h2:s.cells d2=some (.cv (t2 bl)))(aU:s.cells ef=some (.cv (t9 dn)))(az:s.cells c=some (.list vs))(aJ:vs.length<=1000000)
 (q:∀gh eH u,(cT s u/\jt dn bl f=none)\/(∃g t,cT s t/\u=t.aY c (.list (vs++[g.v]))/\jt dn bl f=some g)->∀fl,fl=.next\/fl=.cont->Q fl [some (.ref eo),some (.ref fG),some (.ref d2),some (.ref ef),some (.ref c),some f.v,gh,eH] u):
 B'.p [some (.ref eo),some (.ref fG),some (.ref d2),some (.ref ef),some (.ref c),some f.v,eT,gZ] s Q:=by
 refine fc f.uA ?_
 refine(Qa f w).gs λmw g1=>?_
 refine(P9 f (g1.wf w)).gs λt g2=>?_
 have g:=g1.trans g2
 rw[<-g.cells] at h1 h2 aU az
 have no:jt dn bl f=none->∀gh eH fl,fl=.next\/fl=.cont->Q fl [some (.ref eo),some (.ref fG),some (.ref d2),some (.ref ef),some (.ref c),some f.v,gh,eH] t:=λe gh eH=>q gh eH t (.inl ⟨g,e⟩)
 have Hb:∀iz,jt dn bl f=some iz->∀gh eH,aM (f7 [.ref c,iz.v] t) λ_ u=>Q .next [some (.ref eo),some (.ref fG),some (.ref d2),some (.ref ef),some (.ref c),some f.v,gh,eH] u:=
  λiz e gh eH=>y9 az aJ (q _ _ _ (.inr ⟨iz,t,g,rfl,e⟩) _ (.inl rfl))
 have yes:∀iz,jt dn bl f=some iz->∀gh eH,d9 (eJ (.ref c) t) (aM (f7 [.ref c,iz.v] t) λ_ u=>Q .next [some (.ref eo),some (.ref fG),some (.ref d2),some (.ref ef),some (.ref c),some f.v,gh,eH] u) False:=
  λiz e gh eH=>hS (pP az) (Hb iz e gh eH)
 refine tO (Mo aU f.toKey) ?_
 cases f with
 |ey n=>
  refine gN (by cases dn<;>rfl) ?_
  refine hS (pP az) ?_
  refine VQ (x:=.int 33) h1 (Fr.toKey (.ey n)) rfl ?_
  exact Hb (.ey 33) rfl _ _
 |gH=>
  cases dn with
  |true=>exact no rfl _ _ _ (.inr rfl)
  |false=>exact yes .gH rfl _ _
 |e6=>
  refine gN (by cases dn<;>rfl) ?_
  refine tO (Mo h2 (Fr.toKey .e6)) ?_
  cases bl with
  |true=>
   refine hS (pP az) ?_
   refine fc (XN (x:=.int 9) h2 (Fr.toKey .e6) rfl) ?_
   exact Hb .e6 rfl _ _
  |false=>exact no rfl _ _ _ (.inl rfl)
 |dN n=>
  refine gN (by cases dn<;>rfl) ?_
  exact yes (.dN n) rfl _ _
 |_=>exact gN (by cases dn<;>rfl) (no rfl _ _ _ (.inr rfl))
theorem UW{dn bl:Bool}{f:Fr}{fs:List Fr}:(f::fs).filterMap (jt dn bl)=(jt dn bl f).toList++fs.filterMap (jt dn bl):=by
 rw[List.filterMap_cons];cases jt dn bl f<;>rfl
theorem agu{dn bl:Bool}{σ:St}{eo fG d2 ef:Nat}{fs:List Fr}{K:List (List aT)}(w:cY σ)(ao:σ.cells eo=some (.list (fs.map Fr.v)))(h1:σ.cells fG=some (.cv uG))(h2:σ.cells d2=some (.cv (t2 bl)))(aU:σ.cells ef=some (.cv (t9 dn)))
 (a3:fs.length<=900)(q3:∀f∈fs.filterMap (jt dn bl),f.key∈K)(dx:K.length<=6):
 ba (v3 [.ref eo,.ref fG,.ref d2,.ref ef] σ) λv s=>∃ns,v=eb ns/\tP (fs.filterMap (jt dn bl)) ns/\cT σ s:=by
 refine adB ?_
 obtain⟨T,hT⟩:∃T,fs.filterMap (jt dn bl)=T:=⟨_,rfl⟩
 have zX:T.length<=900:=by rw[<-hT];exact cI (List.length_filterMap_le ..) a3
 rw[hT] at q3⊢
 have at_:∀{c x s},σ.cells c=some x->Keeps [] σ s->s.cells c=some x:=λh k=>(k.old _ (w.lt h) iI).trans h
 have m6:Keeps [] σ (σ.new (.list [])):=(Keeps.refl w).new
 have w6:∀{s},Keeps [] σ s->eD (.ref eo) s=some (fs.map Fr.v):=λk=>by
  unfold eD;dsimp only;rw[at_ ao k]
 refine dW (w6 m6) ?_
 refine lB (enc:=Fr.v) (xs:=fs) (A:=B') (λr l s=>ze λfd kF gh eH=>l=[some (.ref eo),some (.ref fG),some (.ref d2),some (.ref ef),some (.ref σ.next),kF,gh,eH]/\s.cells σ.next=some (.list (fd.map Fr.v))/\Keeps [] σ s/\fd++r.filterMap (jt dn bl)=T) (λr l s h=>by obtain⟨_,_,_,_,_,_,k,_⟩:=h;exact w6 k) ?_ ?_
  ⟨[],_,_,_,rfl,jo,m6,hT⟩
 .rintro f r _ s ⟨fd,kF,gh,eH,rfl,oC,dK,e⟩
  rw[UW] at e
  have aJ:fd.length<=900:=by
   have:=congrArg List.length e
   rw[g'] at this;exact aE.ZF zX this
  refine⟨_,rfl,?_⟩
  refine ae5 dK.wf (at_ h1 dK) (at_ h2 dK) (at_ aU dK) oC (by rw[ez];exact aE.Gk aJ) ?_
  intro gh eH u bZ fl EX
  have key:ze λ(fd:List Fr) (kF af3 af4:Option C)=>[some (.ref eo),some (.ref fG),some (.ref d2),some (.ref ef),some (.ref σ.next),some f.v,gh,eH]=[some (.ref eo),some (.ref fG),some (.ref d2),some (.ref ef),some (.ref σ.next),kF,af3,af4]/\u.cells σ.next=some (.list (fd.map Fr.v))/\Keeps [] σ u/\fd++r.filterMap (jt dn bl)=T:=by
   rcases bZ with⟨g,bj⟩|⟨iz,t,g,rfl,bj⟩
   .rw[bj] at e
    exact⟨fd,_,_,_,rfl,by rw[g.cells];exact oC,dK.hX g,e⟩
   .rw[bj] at e
    have hu:=dK.hX g
    refine⟨fd++[iz],_,_,_,rfl,by rw[jv];exact iD,hu.aY (.inr (bF _)) (hu.wf.lt (by rw[g.cells];exact oC)),?_⟩
    rw[o6];exact e
  rcases EX with rfl|rfl
  .exact key
  .exact key
 .rintro _ s ⟨fd,kF,gh,eH,rfl,oC,dK,e⟩
  have dw:fd=T:=(lQ fd).symm.trans e
  subst dw
  refine(agi dK.wf oC zX q3 dx).bb ?_
  rintro _ u ⟨ns,rfl,F5,g⟩
  exact⟨ns,rfl,F5,(dK.hX g).done w⟩
end Internal
set_option genInjectivity false
namespace Internal
open PySem PySem.W PyProof.Rows PySem.Calls
structure f5 where
 T:List aT->Option Int
 E:aT->Option Int
 N:Int
 domT:List (List aT)
 domE:List aT
 hT:∀k i,T k=some i->k∈domT
 hE:∀k i,E k=some i->k∈domE
 lT:domT.length<=1000
 lE:domE.length<=1000
noncomputable def f5.gz(G:f5)(f:Fr):Prop:=f.ok/\match f with
 |.st dF bV d cW=>(∀(i:Nat) b,d[i]? =some b->G.T [.int dF,.int (bV+i)]=some (b.toNat:Int))/\(cW=true->G.E (.int dF)=some (bV+d.length))
 |.eY bV d=>∀(i:Nat) b,d[i]? =some b->G.T [.str "crypto",.int (bV+i)]=some (b.toNat:Int)
 |.dN n=>n=G.N
 |.hN=>False
 |_=>True
theorem sd(f:Fr)(R:Nat):(f.size<=R/\ei f R=(some f,none))\/(ei f R=(none,some f)/\(f.data=none/\R<f.size\/R<=f.dT))\/
 ∃d,f.data=some d/\f.dT<R/\R<f.dT+d.length/\ei f R=(some (f.lN 0 (d.take (R-f.dT)) false),some (f.lN (R-f.dT) (d.drop (R-f.dT)) f.cW)):=by
 unfold ei
 by_cases h:f.size<=R
 .rw[if_pos h];exact .inl ⟨h,rfl⟩
 .rw[if_neg h]
  cases aD:f.data with
  |none=>exact .inr (.inl ⟨rfl,.inl ⟨rfl,fy h⟩⟩)
  |some d=>
   have:=Fr.A0 f aD
   by_cases h2:R<=f.dT
   .exact .inr (.inl ⟨if_pos h2,.inr h2⟩)
   .exact .inr (.inr ⟨d,rfl,by exact aE.ZG h2,by exact aE.ZH h this,if_neg h2⟩)
theorem Pq{d:List UInt8}{i k:Nat}{b:UInt8}(h:(d.take k)[i]? =some b):d[i]? =some b:=by
 rw[List.getElem?_take] at h
 split at h
 .exact h
 .cases h
theorem f5.cut{G:f5}(f:Fr)(R:Nat)(h:G.gz f):(∀g∈(ei f R).1,G.gz g)/\∀g∈(ei f R).2,G.gz g:=by
 have ok:=DC (R:=R) h.1
 rcases sd f R with⟨_,e⟩|⟨e,_⟩|⟨d,aD,h1,h2,e⟩
 .rw[e];exact⟨u7 h,AF⟩
 .rw[e];exact⟨AF,u7 h⟩
 .rw[e] at ok⊢
  have hk:R-f.dT<=d.length:=by exact aE.N1 h2
  generalize R-f.dT=k at ok hk⊢
  refine⟨λg a0=>⟨ok.1 g a0,?_⟩,λg a0=>⟨ok.2 g a0,?_⟩⟩
  .cases a0
   cases f<;>cases aD
   .refine⟨λi b ai=>?_,nofun⟩
    have:=h.2.1 i b (Pq ai)
    rw[<-this,show((0:Nat):Int)=0 from rfl,tr]
   .intro i b ai
    have:=h.2 i b (Pq ai)
    rw[<-this,show((0:Nat):Int)=0 from rfl,tr]
  .cases a0
   cases f<;>cases aD
   .rename_i dF bV cW
    refine⟨λi b ai=>?_,λhf=>?_⟩
    .rw[BB] at ai
     have:=h.2.1 (k+i) b ai
     rw[<-this,Bt,Bs]
    .rw[h.2.2 hf,vp];congr 1;exact aE.ZI hk
   .intro i b ai
    rw[BB] at ai
    have:=h.2 (k+i) b ai
    rw[<-this,Bt,Bs]
structure fZ (G:f5) where
 does:Fr->Prop
 done:dH->Prop
 cut:∀f R,G.gz f->does f->(∃g∈(ei f R).1,does g)\/∃g∈(ei f R).2,does g
 keep:∀S f,done S->done (hU S f)
 come:∀S f,does f->done (hU S f)
 told:∀f,does f->f.data.isSome=true\/∀dn bl,∃g,jt dn bl f=some g/\∀h,G.gz h->h.key=g.key->does h
 other:∀S cN:dH,cN.oc=S.oc->cN.en=S.en->cN.dq=S.dq->done S->done cN
variable{G:f5}
theorem fZ.KD(D:fZ G):∀{fs:List Fr} {R:Nat},(∀f∈fs,G.gz f)->(∃f∈fs,D.does f)->(∃g∈(fQ fs R).1,D.does g)\/∃g∈(fQ fs R).2,D.does g
 |[],_,_,⟨_,h,_⟩=>nomatch h
 |f::fs,R,a0,⟨g,hm,aD⟩=>by
  obtain⟨h1,a0⟩:=b0.mp a0
  rcases fX.mp hm with rfl|hm
  .rcases D.cut g R h1 aD with⟨x,ay,d⟩|⟨x,ay,d⟩
   .exact .inl ⟨x,nv _ (BP.mpr ay),d⟩
   .exact .inr ⟨x,nv _ (BP.mpr ay),d⟩
  .rcases D.KD (R:=R-n9 (ei f R).1) a0 ⟨g,hm,aD⟩ with⟨x,ay,d⟩|⟨x,ay,d⟩
   .exact .inl ⟨x,lR _ ay,d⟩
   .exact .inr ⟨x,lR _ ay,d⟩
noncomputable def Fr.fu(f:Fr):Nat:=match f.data with
 |none=>1
 |some d=>1+d.length
noncomputable def gB(fs:List Fr):Nat:=(fs.map Fr.fu).sum
noncomputable def iU(fs:List Fr):Nat:=(fs.map Fr.size).sum
noncomputable def AI(o:Option Fr):Nat:=match o with
 |none=>0
 |some f=>f.fu
theorem rf(f:Fr)(fs:List Fr):gB (f::fs)=f.fu+gB fs:=by unfold gB;rw[jw,List.sum_cons]
theorem AB(a b:List Fr):gB (a++b)=gB a+gB b:=by unfold gB;rw[jv,List.sum_append]
theorem Pf(f:Fr)(fs:List Fr):iU (f::fs)=f.size+iU fs:=by unfold iU;rw[jw,List.sum_cons]
theorem aeU(a b:List Fr):iU (a++b)=iU a+iU b:=by unfold iU;rw[jv,List.sum_append]
theorem Ni(o:Option Fr):gB o.toList=AI o:=by cases o<;>rfl
theorem aeV(o:Option Fr):iU o.toList=n9 o:=by cases o<;>rfl
theorem M9(f:Fr):1<=f.fu:=by
 unfold Fr.fu
 split
 .exact bF _
 .exact rI _ _
theorem m8:∀fs:List Fr,fs.length<=gB fs
 |[]=>bF _
 |f::fs=>by rw[rf,gD];have:=m8 fs;have:=M9 f;omega
theorem YE(f:Fr):f.fu<=f.size:=by
 unfold Fr.fu
 cases aD:f.data with
 |none=>cases f<;>first|(exact ny 1 _)|cases aD
 |some d=>
  have:=Fr.A0 f aD
  have:=(Fr.LY f aD).2
  show 1+d.length<=_
  omega
theorem s6:∀fs:List Fr,gB fs<=iU fs
 |[]=>bF _
 |f::fs=>by rw[rf,Pf];have:=s6 fs;have:=YE f;omega
theorem J2(f:Fr)(R:Nat):AI (ei f R).2<=f.fu/\((ei f R).1≠none->AI (ei f R).2<f.fu):=by
 rcases sd f R with⟨_,e⟩|⟨e,_⟩|⟨d,aD,h1,h2,e⟩
 .rw[e];exact⟨jx _,λ_=>M9 f⟩
 .rw[e];exact⟨bF _,λh=>absurd rfl h⟩
 .rw[e]
  have:(f.lN (R-f.dT) (d.drop (R-f.dT)) f.cW).fu=1+(d.length-(R-f.dT)):=by
   rw[<-vp]
   cases f<;>cases aD<;>rfl
  have aU:f.fu=1+d.length:=by unfold Fr.fu;rw[aD]
  have h4:AI (some (f.lN (R-f.dT) (d.drop (R-f.dT)) f.cW))=1+(d.length-(R-f.dT)):=this
  rw[aU]
  dsimp only
  rw[h4]
  exact⟨by exact aE.ZJ,λ_=>by exact aE.ZK h1 h2⟩
theorem Eu:∀(fs:List Fr) (R:Nat),gB (fQ fs R).2<=gB fs/\iU (fQ fs R).1<=R
 |[],R=>⟨bF _,jx _⟩
 |f::fs,R=>by
  have:=Eu fs (R-n9 (ei f R).1)
  have h1:=(J2 f R).1
  have h2:=J0 (f:=f) (R:=R)
  rw[fQ,AB,aeU,Ni,aeV,rf]
  exact⟨by exact aE.ZL this h1,by exact aE.ZM this h2⟩
theorem S5{f:Fr}{R:Nat}(hL:32<=R):(ei f R).1≠none:=by
 rcases sd f R with⟨_,e⟩|⟨e,h⟩|⟨d,aD,h1,h2,e⟩
 .rw[e];exact nofun
 .rcases h with⟨aD,h⟩|h
  .exfalso
   have:f.size<=28:=by cases f<;>first|exact(by decide:2<=28)|exact(by decide:3<=28)|exact(by decide:9<=28)|exact(by decide:28<=28)|exact(by decide:1<=28)|cases aD
   exact(aE.ZO hL h this).elim
  .cases aD:f.data with
   |none=>
    exfalso
    have:f.dT<=28:=by cases f<;>first|exact(by decide:2<=28)|exact(by decide:3<=28)|exact(by decide:9<=28)|exact(by decide:28<=28)|exact(by decide:1<=28)|cases aD
    exact(aE.ZP hL h this).elim
   |some d=>have:=(Fr.LY f aD).1;exact(aE.ZQ hL h this).elim
 .rw[e];exact nofun
structure Rows (G:f5) (fs:List Fr) (R:Nat) (rows:List (List Fr)):Prop where
 len:rows.length<=gB fs
 row:∀r∈rows,r≠[]/\iU r<=R/\∀f∈r,G.gz f
 duty:∀D:fZ G,(∃f∈fs,D.does f)->∃r∈rows,∃f∈r,D.does f
 k6:(rows.flatten).countP (λf=>decide (f=.dy))=fs.countP λf=>decide (f=.dy)
theorem S4(f:Fr)(R:Nat):((ei f R).1.toList).countP (λf=>decide (f=Fr.dy))+((ei f R).2.toList).countP (λf=>decide (f=Fr.dy))=[f].countP λf=>decide (f=Fr.dy):=by
 rcases sd f R with⟨_,e⟩|⟨e,_⟩|⟨d,aD,h1,h2,e⟩
 .rw[e];exact Nat.add_zero _
 .rw[e];exact vy _
 .rw[e]
  cases f<;>cases aD<;>rfl
theorem KH:∀(fs:List Fr) (R:Nat),((fQ fs R).1).countP (λf=>decide (f=Fr.dy))+((fQ fs R).2).countP (λf=>decide (f=Fr.dy))=fs.countP λf=>decide (f=Fr.dy)
 |[],_=>rfl
 |f::fs,R=>by
  have h1:=KH fs (R-n9 (ei f R).1)
  have h2:=S4 f R
  rw[fQ,vn,vn,<-List.singleton_append (x:=f),vn]
  exact aE.ZR h1 h2
theorem OS{R:Nat}(hL:32<=R):∀(n:Nat) (fs:List Fr),(∀f∈fs,G.gz f)->gB fs<n->∃rows,u6 n fs R=some rows/\Rows G fs R rows
 |0,_,_,h=>absurd h (vw _)
 |n+1,fs,a0,h=>by
  unfold u6
  by_cases e:fs=[]
  .subst e
   exact⟨[],if_pos rfl,⟨jx _,nofun,(λD ⟨_,h,_⟩=>nomatch h),rfl⟩⟩
  .rw[if_neg e]
   have LZ:(fQ fs R).1≠[]/\gB (fQ fs R).2<gB fs:=by
    cases fs with
    |nil=>exact absurd rfl e
    |cons f fs=>
     have h1:=S5 (f:=f) hL
     have h2:=(J2 f R).2 h1
     have aU:=(Eu fs (R-n9 (ei f R).1)).1
     rw[fQ,AB,Ni,rf]
     refine⟨?_,by exact aE.ZS h2 aU⟩
     cases e:(ei f R).1 with
     |none=>exact absurd e h1
     |some g=>exact nofun
   rw[if_neg LZ.1]
   have sr:=KG f5.cut fs R a0
   obtain⟨rows,bg,aL⟩:=OS hL n (fQ fs R).2 sr.2 (by omega)
   refine⟨(fQ fs R).1::rows,by rw[bg];rfl,?_,?_,λD aD=>?_,?_⟩
   .rw[gD];have:=aL.len;omega
   .exact b0.mpr ⟨⟨LZ.1,(Eu fs R).2,sr.1⟩,aL.row⟩
   .rcases D.KD (R:=R) a0 aD with⟨g,a0,d⟩|⟨g,a0,d⟩
    .exact⟨_,vr ..,g,a0,d⟩
    .obtain⟨r,aL,x⟩:=aL.duty D ⟨g,a0,d⟩
     exact⟨r,yc _ aL,x⟩
   .rw[BA,vn,aL.k6];exact KH fs R
end Internal
set_option genInjectivity true
set_option genInjectivity false
namespace Internal
open PySem PySem.W PyProof.Rows PySem.Calls
variable{G:f5}
noncomputable def fZ.U2(D:fZ G)(S:dH):Prop:=∃a∈S.fl,∃f∈a.2,D.does f
noncomputable def fZ.live(D:fZ G)(S:dH):Prop:=D.done S\/D.U2 S
theorem fZ.keeps(D:fZ G):∀{fs:List Fr} {S:dH},D.done S->D.done (hV S fs)
 |[],_,h=>h
 |f::fs,S,h=>(D.keeps (fs:=fs) (D.keep S f h):D.done (hV (hU S f) fs))
theorem fZ.kp(D:fZ G):∀{fs:List Fr} {S:dH},(∃f∈fs,D.does f)->D.done (hV S fs)
 |[],_,⟨_,h,_⟩=>nomatch h
 |f::fs,S,⟨g,hm,d⟩=>(fX.mp hm).elim (λe=>D.keeps (fs:=fs) (S:=hU S f) (D.come S f (e▸d))) λhm=>D.kp (fs:=fs) (S:=hU S f) ⟨g,hm,d⟩
theorem NC{α:Type}{l:List α}{x:α}(h:l.Nodup)(ay:x∉l):(l++[x]).Nodup:=
 yd.mpr ⟨h,kb.mpr ⟨iI,ql⟩,λy bQ z hz e=>ay (by rw[<-gi.mp hz,<-e];exact bQ)⟩
theorem S0(S:dH)(f:Fr):(hU S f).fl=S.fl/\(hU S f).to=S.to/\(hU S f).al=S.al:=by cases f<;>exact⟨rfl,rfl,rfl⟩
theorem sa:∀(fs:List Fr) (S:dH),(hV S fs).fl=S.fl/\(hV S fs).to=S.to/\(hV S fs).al=S.al
 |[],_=>⟨rfl,rfl,rfl⟩
 |f::fs,S=>by
  obtain⟨a,b,c⟩:=sa fs (hU S f)
  obtain⟨bD,b1,cK⟩:=S0 S f
  exact⟨a.trans bD,b.trans b1,c.trans cK⟩
structure kh (G:f5) (S:dH):Prop where
 oc:Sane G.T S.oc
 en:Sane G.E S.en
 dq:∀f∈S.dq,f.data=none
theorem kh.come{S:dH}{f:Fr}(h:kh G S)(hf:G.gz f):kh G (hU S f)/\(hU S f).dq.length<=S.dq.length+1:=by
 have no:f.data=none->hU S f={S with dq:=S.dq++[f]}->kh G (hU S f)/\(hU S f).dq.length<=S.dq.length+1:=λaD e=>by
  rw[e]
  exact⟨⟨h.oc,h.en,λg a0=>(iV.mp a0).elim (h.dq g) λq=>by rw[gi.mp q];exact aD⟩,er g'⟩
 cases f with
 |st dF bV d cW=>
  refine⟨⟨Gx h.oc hf.2.1,?_,h.dq⟩,hb _⟩
  cases cW with
  |false=>exact h.en
  |true=>exact h.en.d0 (hf.2.2 rfl)
 |eY bV d=>exact⟨⟨Gx h.oc hf.2,h.en,h.dq⟩,hb _⟩
 |_=>exact no rfl rfl
theorem kh.kp:∀{fs:List Fr} {S:dH},kh G S->(∀f∈fs,G.gz f)->kh G (hV S fs)/\(hV S fs).dq.length<=S.dq.length+fs.length
 |[],_,h,_=>⟨h,bF _⟩
 |f::fs,S,h,a0=>by
  obtain⟨h1,a0⟩:=b0.mp a0
  obtain⟨a,b⟩:=h.come h1
  obtain⟨c,d⟩:=kh.kp (fs:=fs) a a0
  rw[gD]
  exact⟨c,by show(hV (hU S f) fs).dq.length<=_;exact aE.ZV b d⟩
theorem kh.GS{S:dH}{n:Nat}(h:kh G S)(a3:n<=13000)(az:S.dq.length<=800000):wa S n:=by
 have h1:=h.oc.len G.hT
 have h2:=h.en.len G.hE
 have aU:=G.lT
 have h4:=G.lE
 exact⟨by exact aE.ZW a3 h1 aU,by exact aE.ZX a3 h2 h4,by exact aE.ZZ a3 az⟩
structure Bse (G:f5) (S:dH) (b2:Int) (b:Nat):Prop where
 nd:(S.fl.map (·.1)).Nodup
 kd:∀a∈S.fl,a.1∈fT
 an:(S.al.map (·.1)).Nodup
 tm:∀a∈S.al,b2<=a.2
 row:∀a∈S.fl,(∀f∈a.2,G.gz f)/\iU a.2<=51
 came:kh G S
 lca:S.dq.length<=b
 lto:S.to.length<=b
structure Inv (G:f5) (S:dH) (b2:Int) (b:Nat):Prop extends Bse G S b2 b where
 ak:∀k,k∈S.al.map (·.1)↔k∈S.fl.map (·.1)
theorem Bse.zN{S:dH}{b2:Int}{b:Nat}(h:Bse G S b2 b):S.fl.length<=6:=by
 have:=uO h.nd (m:=fT) λk hk=>by
  obtain⟨a,ha,rfl⟩:=ec.mp hk
  exact h.kd a ha
 rw[ez] at this;exact this
theorem Inv.Ja{S:dH}{b2:Int}{b:Nat}(h:Inv G S b2 b):S.al.length<=6:=by
 have:=uO h.an (m:=S.fl.map (·.1)) λk hk=>(h.ak k).mp hk
 rw[ez,ez] at this
 exact cI this h.zN
theorem afd{al:eV}{k:aV}:tm al k=none↔k∉al.map (·.1):=by
 unfold tm
 rw[Option.map_eq_none_iff,List.find?_eq_none]
 constructor
 .rintro h hk
  obtain⟨a,ha,rfl⟩:=ec.mp hk
  exact h a ha (decide_eq_true rfl)
 .intro h a ha aD
  exact h (ec.mpr ⟨a,ha,of_decide_eq_true aD⟩)
theorem GY{al:eV}{k:aV}{t:Int}(h:tm al k=some t):(k,t)∈al:=by
 unfold tm at h
 obtain⟨a,ha,rfl⟩:=hc.mp h
 have q:=Bz (p:=λa:aV×Int=>decide (a.1=k)) ha
 rw[<-(of_decide_eq_true q:a.1=k)];exact BJ ha
theorem afu{al:eV}{k:aV}{t:Int}(h:k∉al.map (·.1)):qc al k (some t)=al++[(k,t)]:=by
 unfold qc
 rw[rH.mpr]
 intro a ha
 rw[Bool.not_eq_true',beq_eq_false_iff_ne]
 rintro rfl
 exact h (ec.mpr ⟨a,ha,rfl⟩)
theorem Inv.U1{S:dH}{b2 t:Int}{b:Nat}{k:aV}{r:List Fr}(h:Inv G S b2 b)(hk:k∈fT)(a3:k∉S.al.map (·.1))(ht:b2<=t)(aL:(∀f∈r,G.gz f)/\iU r<=51):
 Inv G {S with al:=S.al++[(k,t)],fl:=S.fl++[(k,r)],to:=S.to++r} b2 (b+51) where
 nd:=by
  rw[jv]
  exact NC h.nd λq=>a3 ((h.ak k).mpr q)
 kd a ha:=(iV.mp ha).elim (h.kd a) λq=>by rw[gi.mp q];exact hk
 an:=by
  rw[jv]
  exact NC h.an a3
 ak x:=by
  rw[jv,jv,iV,iV]
  exact or_congr (h.ak x) Iff.rfl
 tm a ha:=(iV.mp ha).elim (h.tm a) λq=>by rw[gi.mp q];exact ht
 row a ha:=(iV.mp ha).elim (h.row a) λq=>by rw[gi.mp q];exact aL
 came:=⟨h.came.oc,h.came.en,h.came.dq⟩
 lca:=cI h.lca (rI _ _)
 lto:=by
  have:=h.lto
  have:=m8 r
  have:=s6 r
  have:=aL.2
  rw[g'];omega
theorem Bse.kp{S:dH}{b2:Int}{b:Nat}{r:List Fr}(h:Bse G S b2 b)(aL:(∀f∈r,G.gz f)/\iU r<=51):Bse G (hV S r) b2 (b+51):=by
 obtain⟨c,l⟩:=h.came.kp aL.1
 obtain⟨bj,bg,e3⟩:=sa r S
 have h1:=m8 r
 have h2:=s6 r
 have aU:=aL.2
 have h4:=h.lca
 exact⟨by rw[bj];exact h.nd,by rw[bj];exact h.kd,by rw[e3];exact h.an,by rw[e3];exact h.tm,by rw[bj];exact h.row,c,by exact aE.Z0 l h1 h2 aU h4,by rw[bg];exact cI h.lto (rI _ _)⟩
theorem Inv.kp{S:dH}{b2:Int}{b:Nat}{r:List Fr}(h:Inv G S b2 b)(aL:(∀f∈r,G.gz f)/\iU r<=51):Inv G {hV S r with to:=(hV S r).to++r} b2 (b+51):=by
 obtain⟨bj,bg,e3⟩:=sa r S
 have g:=h.toBse.kp aL
 have h1:=m8 r
 have h2:=s6 r
 have aU:=aL.2
 have gA:=h.lto
 refine⟨⟨g.nd,g.kd,g.an,g.tm,g.row,⟨g.came.oc,g.came.en,g.came.dq⟩,g.lca,?_⟩,?_⟩
 .show((hV S r).to++r).length<=_
  rw[bg,g'];exact aE.Z1 h1 h2 aU gA
 .show∀k,k∈(hV S r).al.map _↔k∈(hV S r).fl.map _
  rw[bj,e3];exact h.ak
end Internal
set_option genInjectivity true
set_option genInjectivity false
namespace Internal
open PySem PySem.W PyProof.Rows PySem.Calls
variable{G:f5}
theorem Qz{σ:St}{c:Nat}{vs:List C}{Q:C->St->Prop}(h:σ.cells c=some (.list vs))(aJ:vs.length<=1000000)(q:Q (.int vs.length) σ):aM (f' [.ref c] σ) Q:=
 iL (show(fU (.ref c) σ).bind _=some (.int vs.length,σ) by rw[xi h];exact if_pos aJ) q
theorem IT{σ:St}{c:Nat}{vs cU:List C}{Q:C->St->Prop}(h:σ.cells c=some (.list vs))(aJ:vs.length+cU.length<=1000000)(q:Q .none (σ.aY c (.list (vs++cU)))):aM (pv [.ref c,.bB cU] σ) Q:=
 iL (show(match σ.cells c with|some (.list vs)=>if vs.length+cU.length<=1000000 then some (C.none,σ.aY c (.list (vs++cU))) else none|_=>none)=_ by rw[h];exact if_pos aJ) q
theorem Ms:∀r:List Fr,i3 (r.map λf=>C.int f.size)=some (r.map λf=>(f.size:Int))
 |[]=>rfl
 |f::r=>congrArg (kJ λl=>(f.size:Int)::l) (Ms r)
theorem Pl:∀r:List Fr,(r.map λf=>(f.size:Int)).sum=(iU r:Int)
 |[]=>rfl
 |f::r=>by rw[jw,List.sum_cons,Pl r,Pf,Bt]
noncomputable def FE(n:Nat):aV:=match n with
 |0=>"loss"|1=>"probe"|2=>"ack"|3=>"path"|4=>"idle"|5=>"closed"|_=>"loss"
theorem X5{n:Nat}(h:n<=6){s:St}:hr (.bB [.str "loss",.str "probe",.str "ack",.str "path",.str "idle",.str "closed"]) (.int ((n:Int).fmod 6)) s=some (.str (FE n))/\FE n∈fT:=by
 match n,h with
 |0,_=>exact⟨rfl,by decide⟩
 |1,_=>exact⟨rfl,by decide⟩
 |2,_=>exact⟨rfl,by decide⟩
 |3,_=>exact⟨rfl,by decide⟩
 |4,_=>exact⟨rfl,by decide⟩
 |5,_=>exact⟨rfl,by decide⟩
 |6,_=>exact⟨rfl,by decide⟩
 |n+7,h=>exact absurd h (Nat.not_le_of_lt (kI (by decide:6<7) (ny 7 n)))
theorem Y6(o:Option Int):pX (s8 o)=some o.isNone:=by cases o<;>rfl
structure nJ (G:f5) (σ:St) (p:Nat) (c:fY) (S:dH) (b2:Int) (b:Nat):Prop where
 hw:cA σ c S
 pool:hF σ p
 bt:Inv G S b2 b
 wf:cY σ
theorem agd{σ:St}{p:Nat}{c:fY}{S:dH}{b2:Int}{b R:Nat}{r:List Fr}{d2 e4 gZ:Option C}{Q:dp->Loc->St->Prop}(hp:p∉c.all)(h:nJ G σ p c S b2 b)(ai:b<=800000)(aL:r≠[]/\iU r<=R/\∀f∈r,G.gz f)(hL:R<=51)
 (q:∀u eH cN,nJ G u p c cN b2 (b+51)->Keeps (p::c.all) σ u->(∀D:fZ G,D.live S\/(∃f∈r,D.does f)->D.live cN)->cN.to=S.to++r->Q .next [some (.ref p),some (.ref c.w),d2,some (.int R),some (.int b2),e4,some (eb r),eH] u):
 B6.p [some (.ref p),some (.ref c.w),d2,some (.int R),some (.int b2),e4,some (eb r),gZ] σ Q:=by
 obtain⟨hw,W6,bt,wf⟩:=h
 obtain⟨uq,wX,z9⟩:=aL
 have LM:(∀f∈r,G.gz f)/\iU r<=51:=⟨z9,cI wX hL⟩
 have dP:=m8 r
 have q7:=s6 r
 have Al:∀{d},d∈c.all->d∈p::c.all:=λh=>.tail _ h
 have last:∀{u:St} {cN:dH} {z:C},cA u c cN->cY u->hF u p->Keeps (p::c.all) σ u->Inv G {cN with to:=cN.to++r} b2 (b+51)->cN.to=S.to->(∀D:fZ G,D.live S\/(∃f∈r,D.does f)->D.live cN)->
  aM (bf [.ref c.w,.str "told"] u) λv s=>d9 (eJ v s) (aM (pv [v,eb r] s) λ_ s=>Q .next [some (.ref p),some (.ref c.w),d2,some (.int R),some (.int b2),e4,some (eb r),some z] s) False:=by
  intro u cN z xY f1 ky dK cB p' jZ
  refine fc xY.Mm ?_
  have aJ:cN.to.length<=800000:=by rw[p'];exact cI bt.lto ai
  have h2:=xY.aeD (cN.to++r)
  rw[jv] at h2
  have dQ:=xY.lt f1 _ c.F0
  refine hS (pP xY.to) ?_
  refine IT xY.to (by rw[ez,ez];exact aE.Z2 hL wX dP q7 aJ) (q _ _ _ ⟨h2,?_,cB,f1.aY dQ⟩ (dK.aY (.inl (Al c.F0)) dQ) (λD aD=>?_) (by show cN.to++r=_;rw[p']))
  .obtain⟨a,b,fw,e,x⟩:=ky
   exact⟨a,b,fw,(cG (show p≠c.to fromλe=>hp (by rw[e];exact c.F0))).trans e,x⟩
  .exact(jZ D aD).elim (λx=>.inl (D.other cN _ rfl rfl rfl x)) .inr
 refine y' (DN _ _) ?_
 refine gN (decide_eq_false λe=>uq (Hq.mp e)) ?_
 refine dW rfl ?_
 refine nN (src:=eb r) (λaa s=>(∃z,aa=[z])/\cT σ s) (λ_=>true) (λf v=>v=C.int f.size) (λ_ _ _=>rfl) ?_ ⟨⟨_,rfl⟩,.refl⟩ (by rw[iH];exact aE.Z3 hL wX dP q7) ?_
 .rintro f hf _ s ⟨⟨z,rfl⟩,g⟩
  refine⟨_,rfl,rfl,?_⟩
  refine(P5 f (g.wf wf) (z9 f hf).1).bb ?_
  rintro _ t ⟨br,rfl,ai,g2⟩
  have:=Fr.O6 (z9 f hf).1
  exact lk (p:=br.length<=1000000) (by exact aE.N2 ai this) ⟨by rw[ai],⟨_,rfl⟩,g.trans g2⟩
 rintro cU _ s a ⟨_,g⟩
 rw[rH.mpr (λ_ _=>rfl)] at a
 rw[pf a]
 refine iL (m:=th [.bB ([]++r.map λf=>C.int f.size)] s) (a:=.int (iU r)) (s:=s) ?_ ?_
 .show((i3 (r.map λf=>C.int f.size)).map λl=>(C.int l.sum,s))=_
  rw[Ms,<-Pl];rfl
 refine gN (decide_eq_false (by exact aE.Z4 wX)) ?_
 have n2:=hw.hX g
 have PK:=g.wf wf
 have ky:hF s p:=by
  obtain⟨a,b,fw,e,x⟩:=W6
  exact⟨a,b,fw,by rw[g.cells];exact e,x⟩
 have jm:=bt.zN
 refine fc n2.w2 ?_
 refine Qz n2.fl (by rw[ez];exact aE.N3 jm) ?_
 rw[ez]
 obtain⟨X4,dU⟩:=X5 jm (s:=s)
 refine fc X4 ?_
 generalize FE S.fl.length=k at dU
 refine fc n2.w1 ?_
 refine xD n2.al ?_
 refine(agt PK n2.al).gs λt g2=>?_
 have n3:=n2.hX g2
 have A9:=g2.wf PK
 have k4:hF t p:=by
  obtain⟨a,b,fw,e,x⟩:=ky
  exact⟨a,b,fw,by rw[g2.cells];exact e,x⟩
 have hu:Keeps (p::c.all) σ t:=(g.trans g2).keeps wf
 refine IU (Y6 _) ?_
 cases Xh:tm S.al k with
 |some u'=>
  refine(G8 (fs:=r) A9 n3 (λf hf=>(z9 f hf).1) (bt.came.GS (by exact aE.Z5 hL wX dP q7) (cI bt.lca ai))).gs λu ia=>?_
  obtain⟨sL,i4⟩:=ia
  have Fs:=bt.kp LM
  refine last sL i4.wf ?_ (hu.trans (i4.bb λd=>Al)) Fs (sa r S).2.1 λD aD=>?_
  .obtain⟨a,b,fw,e,x⟩:=k4
   exact⟨a,b,fw,(i4.old p (A9.lt e) hp).trans e,x⟩
  .rcases aD with(aD|⟨a,ha,x⟩)|aD
   .exact .inl (D.keeps aD)
   .exact .inr ⟨a,by rw[(sa r S).1];exact ha,x⟩
   .exact .inl (D.kp aD)
 |none=>
  have hk:=afd.mp Xh
  refine fc n3.w1 ?_
  refine xD n3.al ?_
  refine(x1 A9 k4 (by decide)).bb ?_
  rintro _ u ⟨n,rfl,a3,uX,i4⟩
  have sL:cA u c S:=n3.keeps A9 i4 λd aD q=>hp (by rw[<-gi.mp q];exact aD)
  refine(P8 (told:=some (b2+5+n)) i4.wf sL.al bt.an (by have:=bt.Ja;exact aE.N4 this)).gs λv ia=>?_
  obtain⟨mO,pQ⟩:=ia
  have wY:=sL.O2 i4.wf pQ mO
  rw[afu hk] at wY
  refine fc wY.w2 ?_
  have gA:=wY.aeA (S.fl++[(k,r)])
  rw[jv] at gA
  have dQ:=wY.lt pQ.wf _ c.FZ
  have XY:Keeps (p::c.all) σ v:=(hu.trans (i4.bb λd aD=>by rw[gi.mp aD];exact .head _)).trans (pQ.bb λd aD=>by rw[gi.mp aD];exact Al c.Ay)
  refine uY wY.fl (by show(S.fl.map mc).length<=_;rw[ez];exact aE.N3 jm) ?_
  refine last gA (pQ.wf.aY dQ) ?_ (XY.aY (.inl (Al c.FZ)) dQ) (bt.U1 dU hk (by exact aE.Z6 a3) LM) rfl λD aD=>?_
  .obtain⟨a,b,fw,e,x⟩:=uX
   refine⟨a,b,fw,(cG (show p≠c.fl fromλe=>hp (by rw[e];exact c.FZ))).trans ((pQ.old p (i4.wf.lt e) λq=>hp ?_).trans e),x⟩
   rw[gi.mp q];exact c.Ay
  .rcases aD with(aD|⟨a,ha,x⟩)|aD
   .exact .inl (D.other S _ rfl rfl rfl aD)
   .exact .inr ⟨a,nv _ ha,x⟩
   .exact .inr ⟨(k,r),lR _ (gi.mpr rfl),aD⟩
end Internal
set_option genInjectivity true
namespace Internal
open PySem PySem.W PyProof.Rows PySem.Calls
variable{G:f5}
theorem Inv.bb{S:dH}{b2:Int}{b b1:Nat}(h:Inv G S b2 b)(ai:b<=b1):Inv G S b2 b1:=
 ⟨⟨h.nd,h.kd,h.an,h.tm,h.row,h.came,cI h.lca ai,cI h.lto ai⟩,h.ak⟩
theorem hF.keeps{σ s:St}{p:Nat}(h:hF σ p)(e:s.cells p=σ.cells p):hF s p:=by
 obtain⟨a,b,fw,h,x⟩:=h
 exact⟨a,b,fw,e.trans h,x⟩
theorem hF.lt{σ:St}{p:Nat}(w:cY σ)(h:hF σ p):p<σ.next:=by
 obtain⟨a,b,fw,h,x⟩:=h
 exact w.lt h
theorem nJ.cut{σ s:St}{p:Nat}{c:fY}{S:dH}{b2:Int}{b b1:Nat}{l:List Nat}(h:nJ G s p c S b2 b)(ai:b<=b1)(k:Keeps l σ s)(aJ:∀d∈p::c.all,d<σ.next):nJ G (s.cut σ.next) p c S b2 b1:=
 ⟨h.hw.cut λd aD=>aJ d (.tail _ aD),h.pool.keeps (qS (aJ p (.head _))),h.bt.bb ai,k.cut.wf⟩
theorem P6{σ:St}{p:Nat}{c:fY}{S:dH}{b2:Int}{b R:Nat}{fs:List Fr}(hp:p∉c.all)(h:nJ G σ p c S b2 b)(hm:gB fs<=320)(ai:b<=700000)(a0:∀f∈fs,G.gz f)(hL:32<=R/\R<=51):
 ba (rU [.ref p,.ref c.w,eb fs,.int R,.int b2] σ) λv s=>v=.bool true/\∃cN,nJ G s p c cN b2 (b+51*320)/\Keeps (p::c.all) σ s/\(∀D:fZ G,D.live S\/(∃f∈fs,D.does f)->D.live cN)/\
  cN.to.countP (λf=>decide (f=.dy))=S.to.countP (λf=>decide (f=.dy))+fs.countP λf=>decide (f=.dy):=by
 refine ade ?_
 obtain⟨rows,e,aL⟩:=OS hL.1 1000000 fs a0 (by exact aE.Z7 hm)
 have aJ:=aL.len
 have hf:=m8 fs
 refine(agq h.wf e (λf hf=>(a0 f hf).1) (by exact aE.N5 hm hf) (by exact aE.N5 hm aJ)).gs λOU g=>?_
 have I:nJ G OU p c S b2 b:=⟨h.hw.hX g,h.pool.keeps (by rw[g.cells]),h.bt,g.wf h.wf⟩
 have W5:∀d∈p::c.all,d<σ.next:=b0.mpr ⟨h.pool.lt h.wf,h.hw.lt h.wf⟩
 have key:∃aZ:St->Nat->dH->List (List Fr)->Prop,∀s n cN r,aZ s n cN r↔(nJ G s p c cN b2 (b+51*n)/\n+r.length<=320/\Keeps (p::c.all) σ s/\(∀D:fZ G,D.live S\/(∃f∈fs,D.does f)->D.live cN\/∃x∈r,∃f∈x,D.does f)/\
  cN.to.countP (λf=>decide (f=.dy))+(r.flatten).countP (λf=>decide (f=.dy))=S.to.countP (λf=>decide (f=.dy))+fs.countP (λf=>decide (f=.dy))/\∀x∈r,x≠[]/\iU x<=R/\∀f∈x,G.gz f):=⟨_,λ_ _ _ _=>Iff.rfl⟩
 obtain⟨aZ,fR⟩:=key
 refine dW rfl ?_
 refine lB (src:=.bB (rows.map eb)) (enc:=eb) (xs:=rows) (A:=B6) (λr l s=>ze λn cN gZ eT=>l=[some (.ref p),some (.ref c.w),some (eb fs),some (.int R),some (.int b2),some (.bB (rows.map eb)),eT,gZ]/\aZ s n cN r) (λ_ _ _ _=>rfl) ?_ ?_
  ⟨0,S,_,_,rfl,(fR _ _ _ _).mpr ⟨I,by exact aE.Z8 hm aJ,g.keeps h.wf,λD aD=>aD.elim .inl λx=>.inr (aL.duty D x),by rw[aL.k6],aL.row⟩⟩
 .rintro r AX _ s ⟨n,cN,gZ,eT,rfl,hs⟩
  obtain⟨s7,a3,k,kS,dy,Fh⟩:=(fR _ _ _ _).mp hs
  obtain⟨h1,Fh⟩:=b0.mp Fh
  rw[gD] at a3
  refine⟨_,rfl,agd hp s7 (by exact aE.Z9 ai a3) h1 hL.2 λu eH qG AH hu zC afe=>⟨n+1,qG,_,_,rfl,(fR _ _ _ _).mpr ⟨⟨AH.hw,AH.pool,AH.bt.bb (by exact aE.Z'),AH.wf⟩,by exact aE.aaa a3,k.trans hu,λD aD=>?_,?_,Fh⟩⟩⟩
  .rcases kS D aD with aD|⟨x,ay,y⟩
   .exact .inl (zC D (.inl aD))
   .rcases fX.mp ay with rfl|ay
    .exact .inl (zC D (.inr y))
    .exact .inr ⟨x,ay,y⟩
  .rw[afe,vn,<-dy,BA,vn,Nat.add_assoc]
 .rintro _ u ⟨n,cN,gZ,eT,rfl,hs⟩
  obtain⟨s7,a3,k,kS,dy,_⟩:=(fR _ _ _ _).mp hs
  rw[iH] at a3
  exact⟨rfl,cN,s7.cut (by exact aE.aab a3) k W5,k.cut,(λD aD=>(kS D aD).elim id λh=>by obtain⟨_,h,_⟩:=h;cases h),dy⟩
end Internal
set_option genInjectivity false
namespace Internal
open PySem PySem.W PyProof.Rows PySem.Calls
theorem adK:∀m:Fin 32,x7 0 (m.val:Nat) 1=true/\(rF 0 (m.val:Nat) 1).toNat=m.val:=by decide+kernel
noncomputable abbrev sh(i:Nat):C:=C.int (0+(i:Int)*1)
theorem w9{m:Nat}{z:Int}(hz:z=m)(h:m<32){s:St}:eD (.gc 0 z 1) s=some ((iW m).map sh):=by
 subst hz
 obtain⟨h1,h2⟩:=adK ⟨m,h⟩
 show(if x7 0 m 1=true then some (p5 0 m 1) else none)=_
 rw[if_pos h1]
 show some ((iW (rF 0 m 1).toNat).map _)=_
 rw[h2]
theorem Zn{α:Type}{xs:List α}:∀{cU:List C},rP (λ_ v=>∃z:Int,v=.int z/\0<=z/\z<256) xs cU->∃l,i3 cU=some l/\l.length=xs.length/\l.all (λi=>decide (0<=i/\i<256))=true:=by
 induction xs with
 |nil=>intro cU h;cases h;exact⟨[],rfl,rfl,rfl⟩
 |cons n l a7=>
  intro cU h
  cases h with
  |cons h1 h2=>
   obtain⟨z,rfl,hz⟩:=h1
   obtain⟨l',bj,bg,e3⟩:=a7 h2
   exact⟨z::l',congrArg (kJ λl=>z::l) bj,congrArg Nat.succ bg,by rw[List.all_cons,e3,decide_eq_true hz];rfl⟩
theorem OA{m:Nat}{z:Int}(hz:z=m)(hm:m<32){E:TE}{k1:Loc}{s:St}{Q:C->St->Prop}(h:∀(i:Int) (l3:C->St->Prop),(∀z:Int,0<=z/\z<256->l3 (.int z) s)->E.p (some (.int i)::k1) s l3)(q:∀d:List UInt8,d.length=m->Q (.bytes d) s):
 r1 (.gc 0 z 1) s λitems=>ba (oD (.gc 0 z 1) items (dD 0) f3.fM.d E.d items [] (none::k1) s) λvs t=>aM (hH [.bB vs] t) Q:=by
 subst hz
 have hi:=w9 rfl hm (s:=s)
 generalize iA:C.gc 0 m 1=S at hi⊢
 refine dW hi ?_
 refine nN (src:=S) (xs:=iW m) (enc:=sh) (λaa t=>(∃z,aa=z::k1)/\t=s) (λ_=>true) (λ_ v=>∃z:Int,v=.int z/\0<=z/\z<256) (λ_ _ h=>by rw[h.2];exact hi) ?_ ⟨⟨_,rfl⟩,rfl⟩ (by rw[iH,qj];exact aE.aac hm) ?_
 .rintro i _ _ _ ⟨⟨z,rfl⟩,rfl⟩
  exact⟨_,rfl,rfl,h _ _ λz hz=>⟨⟨z,rfl,hz⟩,⟨_,rfl⟩,rfl⟩⟩
 .rintro cU _ _ a ⟨_,rfl⟩
  rw[rH.mpr (λ_ _=>rfl)] at a
  obtain⟨l,bj,bg,e3⟩:=Zn a
  rw[qj] at bg
  refine iL (m:=hH [.bB ([]++cU)] _) (a:=.bytes (l.map λi=>i.toNat.toUInt8)) ?_ (q _ (by rw[ez,bg]))
  show(i3 cU).bind _=_
  rw[bj]
  exact if_pos ⟨by exact aE.aad hm bg,e3⟩
noncomputable def rr:Nat->List (List UInt8)->List Fr
 |_,[]=>[]
 |i,d::r=>.st (4*(i:Int)) 0 d true::rr (i+1) r
theorem GV(d:List UInt8):∀(eu:List (List UInt8)) (i:Nat),rr i (eu++[d])=rr i eu++[.st (4*((i+eu.length:Nat):Int)) 0 d true]
 |[],_=>rfl
 |x::eu,i=>by
  rw[List.cons_append,rr,GV d eu (i+1),rr,List.cons_append,gD,Nat.add_assoc,vt 1]
noncomputable abbrev ET(N:Int):List Fr:=[.ey 10,.ey 20,.gH,.dy,.e6,.dN N]
noncomputable def given(N:Int)(eu:List (List UInt8))(cL:List UInt8):List Fr:=ET N++rr 0 eu++[.eY 0 cL]
structure mL (σ s:St) (p:Nat) (fs:List Fr):Prop where
 c:s.cells σ.next=some (.list (fs.map Fr.v))
 k:Keeps [p] σ s
 rm:hF s p
 ne:σ.next≠p
section
variable{σ s:St}{p:Nat}{fs:List Fr}
theorem mL.jY(h:mL σ s p fs):eJ (.ref σ.next) s=true:=pP h.c
theorem mL.zi(h:mL σ s p fs){Q:C->St->Prop}(f:Fr){v:C}(a':v=f.v)(aJ:fs.length<=1000)(q:∀u,mL σ u p (fs++[f])->Q .none u):aM (f7 [.ref σ.next,v] s) Q:=by
 subst a'
 refine y9 h.c (by rw[ez];exact aE.aaf aJ) (q _ ⟨?_,h.k.aY (.inr (bF _)) (h.k.wf.lt h.c),h.rm.keeps (cG h.ne.symm),h.ne⟩)
 rw[jv];exact iD
theorem mL.draw(h:mL σ s p fs){m:Int}(hm:0<m){Q:C->St->Prop}(q:∀(n:Nat) u,(n:Int)<m->mL σ u p fs->Q (.int n) u):ba (h7 [.ref p,.int m] s) Q:=by
 refine(x1 h.k.wf h.rm hm).bb ?_
 rintro _ u ⟨n,rfl,⟨ao,h1⟩,ky,dK⟩
 obtain⟨n,rfl⟩:=qh ao
 exact q n u h1 ⟨(dK.old σ.next (h.k.wf.lt h.c) λq=>h.ne (gi.mp q)).trans h.c,h.k.trans dK,ky,h.ne⟩
end
theorem agc{σ s:St}{p i:Nat}{ef:Option C}{fs:List Fr}{Q:dp->Loc->St->Prop}(h:mL σ s p fs)(aJ:fs.length<=1000)(q:∀u d lP,d.length<=30->mL σ u p (fs++[.st (4*(0+(i:Int)*1)) 0 d true])->Q .next [some (.ref p),some (.ref σ.next),some (sh i),lP] u):
 B5.p [some (.ref p),some (.ref σ.next),some (sh i),ef] s Q:=by
 refine h.draw (by decide) λn u a3 h1=>?_
 refine hS h1.jY ?_
 refine OA (m:=1+n) (z:=1+(n:Int)) (by exact aE.AL) (by exact aE.aag a3) (λi l3 cn=>?_) λd aD=>?_
 .exact cn _ ⟨vm _ (by decide),vl _ (by decide)⟩
 .exact h1.zi (.st (4*(0+(i:Int)*1)) 0 d true) rfl aJ λv h2=>q v d _ (by exact aE.aah a3 aD) h2
theorem agb{σ:St}{p:Nat}(w:cY σ)(hp:hF σ p):ba (vM [.ref p] σ) λv s=>∃N eu cL,v=eb (given N eu cL)/\(1<=N/\N<=3)/\(eu.length=1\/eu.length=2)/\(∀d∈eu,d.length<=30)/\cL.length<=20/\hF s p/\Keeps [p] σ s:=by
 have dQ:=hp.lt w
 have ao:mL σ (σ.new (.list (([.ey 10,.ey 20,.gH,.dy]:List Fr).map Fr.v))) p [.ey 10,.ey 20,.gH,.dy]:=⟨jo,(Keeps.refl w).new,hp.keeps (i6 (eL dQ)),k9 dQ⟩
 refine adc ?_
 refine hS ao.jY ?_
 refine ao.zi .e6 rfl (ny 4 996) λmw h1=>?_
 refine hS h1.jY ?_
 refine h1.draw (by decide) λn rq a3 h2=>?_
 refine h2.zi (.dN (1+n)) rfl (ny 5 995) λng aU=>?_
 refine aU.draw (by decide) λk OV hk h4=>?_
 refine dW (w9 (m:=1+k) (z:=1+(k:Int)) (by exact aE.AL) (by exact aE.N6 hk)) ?_
 refine lB (src:=.gc 0 (1+(k:Int)) 1) (enc:=sh) (xs:=iW (1+k)) (A:=B5) (λr l s=>tT λeu d2 ef=>l=[some (.ref p),some (.ref σ.next),d2,ef]/\mL σ s p (ET (1+n)++rr 0 eu)/\(∀d∈eu,d.length<=30)/\eu.length<=1+k/\(rr 0 eu).length=eu.length/\r=(iW (1+k)).drop eu.length) (λ_ _ _ _=>w9 (by exact aE.AL) (by exact aE.N6 hk)) ?_ ?_
  ⟨[],_,_,rfl,h4,eg _,jx _,rfl,rfl⟩
 .rintro i r _ s ⟨eu,d2,ef,rfl,g,aD,aJ,hM,aL⟩
  have hi:eu.length<(iW (1+k)).length:=by
   refine fy λq=>?_
   rw[Hm q] at aL;cases aL
  rw[By hi,Ho] at aL
  obtain⟨rfl,rfl⟩:=rG aL
  rw[qj] at hi
  refine⟨_,rfl,agc g (by rw[g',hM];exact(by exact aE.aai hk hi:6+eu.length<=1000)) λu d lP VZ g2=>⟨eu++[d],_,_,rfl,?_,λx ay=>(iV.mp ay).elim (aD x) λq=>by rw[gi.mp q];exact VZ,?_,?_,?_⟩⟩
  .rw[GV,<-o6,vy]
   rw[Int.mul_one,x'] at g2
   exact g2
  .rw[g'];exact hi
  .rw[GV,g',hM,g'];rfl
  .rw[g'];rfl
 .rintro _ s ⟨eu,d2,ef,rfl,g,aD,aJ,hM,aL⟩
  have dP:=Hl.mp aL.symm
  rw[qj] at dP
  refine hS g.jY ?_
  refine g.draw (by decide) λm GI hm g5=>?_
  refine OA (m:=1+m) (z:=1+(m:Int)) (by exact aE.AL) (by exact aE.aaj hm) (λi l3 cn=>cn _ ⟨vm _ (by decide),vl _ (by decide)⟩) λcL wN=>?_
  refine g5.zi (.eY 0 cL) rfl (by rw[g',hM];exact(by exact aE.aak hk aJ:6+eu.length<=1000)) λu g6=>?_
  exact⟨1+n,eu,cL,zP (bF _) g6.c,by exact aE.aal a3,by exact aE.aam hk aJ dP,aD,by exact aE.aao hm wN,g6.rm.keeps (qS dQ),g6.k.cut⟩
end Internal
set_option genInjectivity true
set_option genInjectivity false
namespace Internal
open PySem PySem.W PyProof.Rows PySem.Calls
variable{G:f5}
noncomputable def nG(al:eV)(pre:List aV):Option (Int×aV)->Prop
 |none=>∀k∈pre,tm al k=none
 |some (t,k)=>∃bO bh,pre=bO++k::bh/\tm al k=some t/\(∀x∈bO,∀eR,tm al x=some eR->t<eR)/\∀x∈bh,∀eR,tm al x=some eR->t<=eR
theorem nG.step{al:eV}{pre:List aV}{acc:Option (Int×aV)}{x:aV}(h:nG al pre acc):nG al (pre++[x]) (nh al acc x):=by
 unfold nh
 cases e:tm al x with
 |none=>
  cases acc with
  |none=>exactλk hk=>(iV.mp hk).elim (h k) λq=>by rw[gi.mp q];exact e
  |some a=>
   obtain⟨bO,bh,rfl,h1,h2,aU⟩:=h
   refine⟨bO,bh++[x],o6 ..,h1,h2,λy bQ eR ht=>(iV.mp bQ).elim (λq=>aU y q eR ht) λq=>?_⟩
   rw[gi.mp q,e] at ht;cases ht
 |some t=>
  cases acc with
  |none=>
   refine⟨pre,[],rfl,e,λy bQ eR ht=>?_,eg _⟩
   rw[h y bQ] at ht;cases ht
  |some a=>
   obtain⟨bO,bh,rfl,h1,h2,aU⟩:=h
   by_cases q:t<a.1
   .refine(show nG al _ (if t<a.1 then some (t,x) else some a) from ?_)
    rw[if_pos q]
    refine⟨bO++a.2::bh,[],rfl,e,λy bQ eR ht=>?_,eg _⟩
    rcases iV.mp bQ with bQ|bQ
    .exact Int.lt_trans q (h2 y bQ eR ht)
    .rcases fX.mp bQ with rfl|bQ
     .rw[h1] at ht;cases ht;exact q
     .exact Int.lt_of_lt_of_le q (aU y bQ eR ht)
   .refine(show nG al _ (if t<a.1 then some (t,x) else some a) from ?_)
    rw[if_neg q]
    refine⟨bO,bh++[x],o6 ..,h1,h2,λy bQ eR ht=>(iV.mp bQ).elim (λq=>aU y q eR ht) λp=>?_⟩
    rw[gi.mp p,e] at ht;cases ht;exact Int.not_lt.mp q
theorem nG.fold{al:eV}:∀{l pre:List aV} {acc:Option (Int×aV)},nG al pre acc->nG al (pre++l) (l.foldl (nh al) acc)
 |[],pre,_,h=>by rw[lQ];exact h
 |x::l,pre,acc,h=>by
  have:=nG.fold (l:=l) (h.step (x:=x))
  rw[o6] at this;exact this
theorem UY{al:eV}{t:Int}{k:aV}(hk:∀a∈al,a.1∈fT)(h:fT.foldl (nh al) none=some (t,k)):(∀x eR,tm al x=some eR->t<=eR)/\(k,t)∈al/\∃ks,fT.filter (lA al t)=k::ks:=by
 have b:nG al ([]++fT) (fT.foldl (nh al) none):=nG.fold (pre:=[]) (acc:=none) (l:=fT) (eg _)
 rw[h,List.nil_append] at b
 obtain⟨bO,bh,e,h1,h2,aU⟩:=b
 refine⟨λx eR ht=>?_,GY h1,(bh.filter (lA al t)),?_⟩
 .have ay:=hk _ (GY ht)
  rw[e] at ay
  rcases iV.mp ay with ay|ay
  .exact Int.le_of_lt (h2 x ay eR ht)
  .rcases fX.mp ay with rfl|ay
   .rw[h1] at ht;cases ht;exact Int.le_refl _
   .exact aU x ay eR ht
 .rw[e,List.filter_append,List.filter_cons_of_pos (by unfold lA;rw[h1];exact decide_eq_true (Int.le_refl _)),List.filter_eq_nil_iff.mpr,List.nil_append]
  intro x ay
  unfold lA
  cases e:tm al x with
  |none=>exact gI
  |some eR=>exactλq=>absurd (h2 x ay eR e) (Int.not_lt.mpr (of_decide_eq_true q))
theorem PD(f:Fr):dm 8 f.v Fr.dy.v=some (decide (f=.dy)):=by cases f<;>rfl
theorem afo(f:Fr):dm 8 f.v Fr.e6.v=some (decide (f=.e6)):=by cases f<;>rfl
theorem afq(f:Fr):dm 8 f.v Fr.gH.v=some (decide (f=.gH)):=by cases f<;>rfl
theorem afp{f:Fr}{N:Int}(hf:f.data=none):dm 8 f.v (Fr.dN N).v=some (decide (f=.dN N)):=by
 cases f with
 |dN m=>
  by_cases h:m=N
  .subst h
   rw[decide_eq_true rfl]
   show some (_&&((m==m)&&_)&&_)=_
   rw[beq_self_eq_true m];rfl
  .rw[decide_eq_false λe=>h (Fr.dN.inj e)]
   show some (_&&((m==N)&&_)&&_)=_
   rw[beq_eq_false_iff_ne.mpr h];rfl
 |st=>cases hf
 |eY=>cases hf
 |_=>rfl
theorem CM{x:C}{g:Fr}:∀{fs:List Fr},(∀f∈fs,dm 8 f.v x=some (decide (f=g)))->l7 x (fs.map Fr.v)=some (decide (g∈fs))
 |[],_=>(congrArg some (decide_eq_false (iI))).symm
 |f::fs,h=>by
  obtain⟨h1,h⟩:=b0.mp h
  have a7:=CM h
  show((dm 8 f.v x).bind λa=>(l7 x (fs.map Fr.v)).map λb=>a||b)=_
  rw[h1,a7]
  show some (decide (f=g)||decide (g∈fs))=_
  rw[<-Bool.decide_or]
  exact congrArg some (decide_eq_decide.mpr (by rw[fX,eq_comm]))
theorem JP{x:C}{g:Fr}:∀{fs:List Fr},(∀f∈fs,dm 8 f.v x=some (decide (f=g)))->qP x (fs.map Fr.v)=some (fs.countP λf=>decide (f=g))
 |[],_=>rfl
 |f::fs,h=>by
  obtain⟨h1,h⟩:=b0.mp h
  have a7:=JP h
  show((dm 8 f.v x).bind λa=>(qP x (fs.map Fr.v)).map λn=>if a=true then n+1 else n)=_
  rw[h1,a7,List.countP_cons]
  show some (if decide (f=g)=true then _ else _)=_
  split<;>rfl
theorem Fv{g:Fr}{fs:List Fr}{s:St}(h:∀f∈fs,dm 8 f.v g.v=some (decide (f=g))):oO g.v (eb fs) s=some (decide (g∈fs)):=CM h
theorem tP.YJ{fs ns:List Fr}(h:tP fs ns)(hm:∀f∈fs,∀n,f=.ey n->n=33):ns.filter (λf=>f.jk==("max_data":aV))=[]\/ns.filter (λf=>f.jk==("max_data":aV))=[.ey 33]:=by
 have e:∀f∈ns.filter (λf=>f.jk==("max_data":aV)),f=.ey 33:=λf hf=>by
  obtain⟨h1,h2⟩:=h5.mp hf
  cases f with
  |ey n=>rw[hm _ (h.sub _ h1) n rfl]
  |_=>cases h2
 have nd:((ns.filter (λf=>f.jk==("max_data":aV))).map Fr.key).Nodup:=(yb _ vo).nodup h.nd
 revert e nd
 generalize ns.filter (λf=>f.jk==("max_data":aV))=l
 intro e nd
 match l with
 |[]=>exact .inl rfl
 |[f]=>exact .inr (by rw[e f (.head _)])
 |f::g::r=>
  rw[e f (.head _),e g (.tail _ (.head _)),jw,jw,kb] at nd
  exact absurd (.head _) nd.1
theorem ti{dn bl:Bool}{f g:Fr}(h:G.gz f)(e:jt dn bl f=some g):G.gz g/\g.data=none/\(∀n,g=.ey n->n=33)/\g≠.dy/\(g=.e6->bl=true)/\(g=.gH->dn=false):=by
 cases f with
 |ey n=>cases e;exact⟨⟨⟨by decide,by decide⟩,trivial⟩,rfl,λn e=>by cases e;rfl,nofun,nofun,nofun⟩
 |gH=>
  cases dn with
  |true=>cases e
  |false=>cases e;exact⟨⟨trivial,trivial⟩,rfl,nofun,nofun,nofun,λ_=>rfl⟩
 |e6=>
  cases bl with
  |true=>cases e;exact⟨⟨trivial,trivial⟩,rfl,nofun,nofun,λ_=>rfl,nofun⟩
  |false=>cases e
 |dN n=>cases e;exact⟨h,rfl,nofun,nofun,nofun,nofun⟩
 |_=>cases e
noncomputable abbrev FD(N:Int):List (List aT):=[Fr.key (.ey 33),Fr.key .gH,Fr.key .e6,Fr.key (.dN N)]
theorem Pp{dn bl:Bool}{f g:Fr}(h:G.gz f)(e:jt dn bl f=some g):g.key∈FD G.N:=by
 cases f with
 |ey n=>cases e;exact .head _
 |gH=>
  cases dn with
  |true=>cases e
  |false=>cases e;exact .tail _ (.head _)
 |e6=>
  cases bl with
  |true=>cases e;exact .tail _ (.tail _ (.head _))
  |false=>cases e
 |dN n=>cases e;rw[show n=G.N from h.2];exact .tail _ (.tail _ (.tail _ (.head _)))
 |_=>cases e
structure Qn (G:f5) (dn bl:Bool) (fC anew:List Fr):Prop where
 gz:∀f∈anew,G.gz f
 ey:anew.filter (λf=>f.jk==("max_data":aV))=[]\/anew.filter (λf=>f.jk==("max_data":aV))=[.ey 33]
 dy:Fr.dy∉anew
 e6:Fr.e6∈anew->bl=true
 gH:Fr.gH∈anew->dn=false
 duty:∀D:fZ G,(∃f∈fC,D.does f)->∃f∈anew,D.does f
 gB:gB anew<=gB fC+4
theorem Nh(p:Fr->Bool):∀fs:List Fr,gB (fs.filter p)<=gB fs
 |[]=>bF _
 |f::fs=>by
  have:=Nh p fs
  rw[List.filter_cons]
  split
  .rw[rf,rf];exact aE.aap this
  .rw[rf];exact aE.aaq this
theorem Nj:∀{fs:List Fr},(∀f∈fs,f.data=none)->gB fs=fs.length
 |[],_=>rfl
 |f::fs,h=>by
  obtain⟨h1,h⟩:=b0.mp h
  rw[rf,Nj h,gD,vt]
  unfold Fr.fu;rw[h1]
theorem again{dn bl:Bool}{fC ns:List Fr}(a0:∀f∈fC,G.gz f)(h:tP (fC.filterMap (jt dn bl)) ns):Qn G dn bl fC (ns++fC.filter λf=>f.data.isSome):=by
 have t:∀g∈ns,∃f,G.gz f/\jt dn bl f=some g:=λg hm=>by
  obtain⟨f,hf,e⟩:=BG.mp (h.sub g hm)
  exact⟨f,a0 f hf,e⟩
 have plain:∀g∈ns,g.data=none:=λg hm=>by obtain⟨f,a,e⟩:=t g hm;exact(ti a e).2.1
 have held:∀g∈fC.filter (λf=>f.data.isSome),G.gz g/\g.data.isSome=true:=λg hm=>⟨a0 g (h5.mp hm).1,(h5.mp hm).2⟩
 have no:∀g,g.data=none->g∈ns++fC.filter (λf=>f.data.isSome)->g∈ns:=λg aD hm=>(iV.mp hm).elim id λq=>by
  have:=(held g q).2
  rw[aD] at this;cases this
 refine⟨λg hm=>(iV.mp hm).elim (λq=>?_) λq=>(held g q).1,?_,λhm=>?_,λhm=>?_,λhm=>?_,λD ⟨f,hf,d⟩=>?_,?_⟩
 .obtain⟨f,a,e⟩:=t g q
  exact(ti a e).1
 .have ia:(fC.filter λf=>f.data.isSome).filter (λf=>f.jk==("max_data":aV))=[]:=List.filter_eq_nil_iff.mpr λg hm q=>by
   have:=(held g hm).2
   cases g<;>first|exact gI this|exact gI q
  rw[List.filter_append,ia,lQ]
  refine h.YJ λf hf n e=>?_
  obtain⟨x,ay,dw⟩:=BG.mp hf
  exact(ti (a0 x ay) dw).2.2.1 n e
 .obtain⟨f,a,e⟩:=t _ (no _ rfl hm)
  exact(ti a e).2.2.2.1 rfl
 .obtain⟨f,a,e⟩:=t _ (no _ rfl hm)
  exact(ti a e).2.2.2.2.1 rfl
 .obtain⟨f,a,e⟩:=t _ (no _ rfl hm)
  exact(ti a e).2.2.2.2.2 rfl
 .rcases D.told f d with q|q
  .exact⟨f,lR _ (h5.mpr ⟨hf,q⟩),d⟩
  .obtain⟨g,e,k⟩:=q dn bl
   obtain⟨x,ay,wx⟩:=ec.mp (h.all g (BG.mpr ⟨f,hf,e⟩))
   obtain⟨y,a,bg⟩:=t x ay
   exact⟨x,nv _ ay,k x (ti a bg).1 wx⟩
 .have h1:=Nh (λf=>f.data.isSome) fC
  have h2:=uO h.nd (m:=FD G.N) λk hk=>by
   obtain⟨x,ay,rfl⟩:=ec.mp hk
   obtain⟨y,a,bg⟩:=t x ay
   exact Pp a bg
  rw[ez] at h2
  have aU:ns.length<=4:=h2
  rw[AB,Nj plain];exact aE.aar h1 aU
end Internal
set_option genInjectivity true
set_option genInjectivity false
namespace Internal
open PySem PySem.W PyProof.Rows PySem.Calls
variable{G:f5}
theorem Y4{α b':Type}{a b:α×b'}{l:List (α×b')}(nd:(l.map (·.1)).Nodup)(ha:a∈l)(ai:b∈l)(e:a.1=b.1):a=b:=by
 obtain⟨i,hi,rfl⟩:=BH.mp ha
 obtain⟨aj,c2,rfl⟩:=BH.mp ai
 have:i=aj:=(List.getElem_inj (h₀:=by rw[ez];exact hi) (h₁:=by rw[ez];exact c2) nd).mp (by rw[BC,BC];exact e)
 subst this;rfl
theorem cA.YV{σ:St}{c:fY}{S:dH}(h:cA σ c S)(w:cY σ)(l:List (aV×List Fr)):cA ((σ.new (.list (l.map mc))).aY c.w (.cJ (tn {c with fl:=σ.next}))) {c with fl:=σ.next} {S with fl:=l}:=by
 have lt:=h.lt w
 have nd:=h.nd
 have old:∀{d x},σ.cells d=some x->d≠c.w->((σ.new (.list (l.map mc))).aY c.w (.cJ (tn {c with fl:=σ.next}))).cells d=some x:=λe aD=>(cG aD).trans ((i6 (eL (w.lt e))).trans e)
 unfold fY.all at nd
 obtain⟨ab,aF⟩:=kb.mp nd
 obtain⟨bE,d1⟩:=kb.mp aF
 have hw:∀d∈[c.dq,c.to,c.oc,c.en,c.al],d≠c.w:=λd aD e=>ab (e▸.tail _ aD)
 refine⟨?_,?_⟩
 .refine b0.mpr ⟨iD,b0.mpr ⟨(cG (k9 (lt _ c.Az))).trans jo,b0.mpr ⟨old h.dq (hw _ (.head _)),b0.mpr ⟨old h.to (hw _ (.tail _ (.head _))),b0.mpr ⟨old h.oc (hw _ (.tail _ (.tail _ (.head _)))),
   b0.mpr ⟨old h.en (hw _ (.tail _ (.tail _ (.tail _ (.head _))))),b0.mpr ⟨old h.al (hw _ (.tail _ (.tail _ (.tail _ (.tail _ (.head _)))))),eg _⟩⟩⟩⟩⟩⟩⟩
 .refine kb.mpr ⟨λq=>?_,kb.mpr ⟨λq=>?_,d1⟩⟩
  .rcases fX.mp q with e|q
   .exact eL (lt _ c.Az) e
   .exact ab (.tail _ q)
  .exact Nat.lt_irrefl _ (lt σ.next (.tail _ (.tail _ q)))
structure v8 (G:f5) (s:St) (p w aZ cL dC:Nat) (dn bl:Bool) (nL S:dH) (ks:List aV) (fC:List Fr) (b2:Int) (B:Nat):Prop where
 hw:∃c:fY,c.w=w/\cA s c S/\∀d∈[p,cL,dC,aZ],d∉c.all
 pool:hF s p
 wf:cY s
 bse:∃b,Bse G S b2 b/\b+51*ks.length<=B
 ak:∀k,k∈S.al.map (·.1)↔k∈S.fl.map (·.1)/\k∉ks
 lo:s.cells aZ=some (.list (fC.map Fr.v))
 lg:∀f∈fC,G.gz f
 lm:gB fC+51*ks.length<=306
 nk:ks.Nodup
 kf:∀k∈ks,k∈S.fl.map (·.1)
 dce:s.cells cL=some (.cv (t9 dn))
 bce:s.cells dC=some (.cv (t2 bl))
 ne:cL≠p/\dC≠p/\aZ≠p/\cL≠aZ/\dC≠aZ
 duty:∀D:fZ G,D.live nL->D.live S\/∃f∈fC,D.does f
 to:S.to=nL.to
theorem Fz{s:St}{c:Nat}{vs:List C}{P:List C->Prop}(h:s.cells c=some (.list vs))(q:P vs):r1 (.ref c) s P:=by
 refine dW ?_ q
 unfold eD;dsimp only;rw[h]
theorem p1{i:Nat}{E:TE}{R:cp}{aa:Loc}{s:St}{Q:dp->Loc->St->Prop}(h:E.p aa s λv s=>R.p (aa.set i (some v)) s Q):(cp.aq (cp.cC i E) R).p aa s Q:=h
theorem tf{A R:cp}{aa:Loc}{s:St}{Q:dp->Loc->St->Prop}(h:A.p aa s (cp.GK R Q)):(cp.aq A R).p aa s Q:=h
theorem acO{s:St}{c:fY}{S:dH}{k:aV}{k1:Loc}{Q:C->St->Prop}(h:cA s c S)(dx:S.fl.length<=6)(aJ:∃a b,fi [none,some 13] k1=[a,b]/\b=some (.str k)){w:C}(hw:k1[7]? =some (some w))(DR:w=.ref c.w)(hk:k∈S.fl.map (·.1))
 (q:∀a∈S.fl,a.1=k->Q (eb a.2) s):
 (TE.ah bf (.gx (.ah bf (.J 7) (.U (.str "flying"))) (fi [none,some 13]) (dD 0) (.boolOf (.ah cP (.ah bf (.J 0) (.U (.int 0))) (.J 1))) (.ah bf (.J 0) (.U (.int 1)))) (.U (.int 0))).p k1 s Q:=by
 subst DR
 obtain⟨jf,_,sf,rfl⟩:=aJ
 show(match k1[7]? with|some (some v)=>_|_=>False)
 rw[hw]
 refine fc h.w2 ?_
 refine Fz h.fl ?_
 rw[sf]
 refine nN (enc:=mc) (xs:=S.fl) (λaa t=>(∃z,aa=[z,some (.str k)])/\t=s) (λa=>a.1==k) (λa v=>v=eb a.2) (λ_ t ht=>by rw[ht.2];unfold eD;dsimp only;rw[h.fl]) ?_ ⟨⟨_,rfl⟩,rfl⟩ (by rw[iH];exact aE.Gn dx) ?_
 .rintro a ha _ t ⟨⟨z,rfl⟩,ht⟩
  refine⟨_,rfl,rfl,?_⟩
  have i:(∃z,[some (mc a),some (.str k)]=[z,some (C.str k)])/\t=s:=⟨⟨_,rfl⟩,ht⟩
  exact d9.of (A:=True) (B:=True) (by cases(a.1==k)<;>trivial) (λ_=>⟨rfl,i⟩) λ_=>i
 .rintro cU _ _ a ⟨_,rfl⟩
  rw[pf a]
  obtain⟨x,ay,pq⟩:=ec.mp hk
  have kX:x∈S.fl.filter λa=>a.1==k:=h5.mpr ⟨ay,by rw[pq];exact beq_self_eq_true k⟩
  cases hf:S.fl.filter λa=>a.1==k with
  |nil=>rw[hf] at kX;cases kX
  |cons y r=>
   have bQ:y∈S.fl.filter λa=>a.1==k:=by rw[hf];exact .head _
   obtain⟨fu,gG⟩:=h5.mp bQ
   exact fc (Mv (vs:=eb y.2::r.map λa=>eb a.2) (i:=0) (by decide) (by decide) rfl) (q y fu (beq_iff_eq.mp gG))
theorem acQ{s:St}{c:fY}{S:dH}{k:aV}{k1:Loc}{Q:dp->Loc->St->Prop}(h:cA s c S)(wf:cY s)(dx:S.fl.length<=6)(aJ:∃a b,fi [none,some 13] k1=[a,b]/\b=some (.str k)){w:C}(hw:k1[7]? =some (some w))(DR:w=.ref c.w)
 (q:∀u,cA u {c with fl:=s.next} {S with fl:=S.fl.filter λa=> !(a.1==k)}->Keeps [c.w] s u->s.next<u.next->Q .next k1 u):
 (cp.iE (.qR (.ah bf (.J 7) (.U (.str "flying"))) (fi [none,some 13]) (dD 0) (.boolOf (.ah gY (.ah bf (.J 0) (.U (.int 0))) (.J 1))) (.J 0)) (.J 7) (.U (.str "flying"))).p k1 s Q:=by
 subst DR
 obtain⟨jf,_,sf,rfl⟩:=aJ
 show(match k1[7]? with|some (some v)=>_|_=>False)
 rw[hw]
 refine fc h.w2 ?_
 refine Fz h.fl ?_
 rw[sf]
 refine nN (enc:=mc) (xs:=S.fl) (λaa t=>(∃z,aa=[z,some (.str k)])/\t=s) (λa=> !(a.1==k)) (λa v=>v=mc a) (λ_ t ht=>by rw[ht.2];unfold eD;dsimp only;rw[h.fl]) ?_ ⟨⟨_,rfl⟩,rfl⟩ (by rw[iH];exact aE.Gn dx) ?_
 .rintro a ha _ t ⟨⟨z,rfl⟩,ht⟩
  refine⟨_,rfl,rfl,?_⟩
  have i:(∃z,[some (mc a),some (.str k)]=[z,some (C.str k)])/\t=s:=⟨⟨_,rfl⟩,ht⟩
  exact d9.of (A:=True) (B:=True) (by cases(!(a.1==k))<;>trivial) (λ_=>⟨rfl,i⟩) λ_=>i
 .rintro cU _ _ a ⟨_,rfl⟩
  rw[pf a]
  rename_i t _
  have h2:=h.YV wf (S.fl.filter λa=> !(a.1==k))
  have dQ:=h.lt wf _ c.Az
  show(match k1[7]? with|some (some v)=>_|_=>False)
  rw[hw]
  have n3:(t.new (.list ([]++(S.fl.filter λa=> !(a.1==k)).map mc))).cells c.w=some (.cJ (tn c)):=(i6 (eL dQ)).trans h.w
  refine kl (AU (a:=.str "flying") (v:=.ref t.next) n3 (show 6<=1000000 by decide)) (q _ h2 ((Keeps.refl wf).new.aY (.inl (.head _)) (yj dQ)) (hB _))
end Internal
set_option genInjectivity true
namespace Internal
open PySem PySem.W PyProof.Rows PySem.Calls
variable{G:f5}
theorem af'{s:St}{p w aZ cL dC turn:Nat}{dn bl:Bool}{nL S:dH}{k:aV}{ks:List aV}{fC:List Fr}{b2:Int}{B:Nat}{eo d2 ef fx e4 eT gS jP jQ lO kC kD kE:Option C}{Q:dp->Loc->St->Prop}
 (h:v8 G s p w aZ cL dC dn bl nL S (k::ks) fC b2 B)(mX:B<=700000)
 (q:∀u cN Yz o2,v8 G u p w aZ cL dC dn bl nL cN ks Yz b2 B->Q .next [eo,some (.ref p),d2,ef,fx,e4,eT,some (.ref w),gS,some (.int turn),jP,jQ,some (.ref aZ),some (.str k),o2,kC,kD,kE] u):
 B8.p [eo,some (.ref p),d2,ef,fx,e4,eT,some (.ref w),gS,some (.int turn),jP,jQ,some (.ref aZ),some (.str k),lO,kC,kD,kE] s Q:=by
 obtain⟨⟨c,rfl,hw,aD⟩,pool,wf,⟨b,bse,ai⟩,ak,lo,lg,lm,nk,kf,dce,bce,⟨ab,aF,bE,d1,fV⟩,duty,to⟩:=h
 rw[gD] at ai lm
 obtain⟨Y2,nk⟩:=kb.mp nk
 obtain⟨Ak,kf⟩:=b0.mp kf
 have dx:=bse.zN
 refine p1 ?_
 refine acO (w:=.ref c.w) hw dx ?_ ?_ rfl Ak λjf LQ wx=>?_
 .exact⟨_,_,rfl,rfl⟩
 .rfl
 refine tf ?_
 refine acQ (k:=k) (w:=.ref c.w) hw wf dx ?_ ?_ rfl λt ht sS _=>?_
 .exact⟨_,_,rfl,rfl⟩
 .rfl
 obtain⟨sH,ur⟩:=bse.row jf LQ
 have hm:=s6 jf.2
 have dP:=m8 jf.2
 have q7:=m8 fC
 have e8:∀d∈[p,cL,dC,aZ],d∉({c with fl:=s.next}:fY).all:=λd hm q=>by
  have bj:=aD d hm
  have all:∀d∈[p,cL,dC,aZ],d<s.next:=b0.mpr ⟨pool.lt wf,b0.mpr ⟨wf.lt dce,b0.mpr ⟨wf.lt bce,b0.mpr ⟨wf.lt lo,eg _⟩⟩⟩⟩
  have bg:=all d hm
  rcases fX.mp q with e|q
  .exact bj (by rw[e];exact .head _)
  .rcases fX.mp q with e|q
   .exact eL bg e
   .exact bj (.tail _ (.tail _ q))
 have cw:∀{d x},d∈[p,cL,dC,aZ]->s.cells d=some x->t.cells d=some x:=λhm e=>(sS.old _ (wf.lt e) λq=>aD _ hm (by rw[gi.mp q];exact c.Az)).trans e
 have mp:p∈[p,cL,dC,aZ]:=.head _
 have ey:cL∈[p,cL,dC,aZ]:=.tail _ (.head _)
 have pW:dC∈[p,cL,dC,aZ]:=.tail _ (.tail _ (.head _))
 have YG:aZ∈[p,cL,dC,aZ]:=.tail _ (.tail _ (.tail _ (.head _)))
 have OG:hF t p:=by obtain⟨x,y,z,e,r⟩:=pool;exact⟨x,y,z,cw mp e,r⟩
 generalize az:({c with fl:=s.next}:fY)=cK at ht e8
 have wL:cK.w=c.w:=by rw[<-az]
 rw[<-wL]
 generalize iA:({S with fl:=S.fl.filter λa=> !(a.1==k)}:dH)=jV at ht
 have kQ:Bse G jV b2 b:=by
  rw[<-iA]
  exact⟨(yb _ vo).nodup bse.nd,λa ha=>bse.kd a (h5.mp ha).1,bse.an,bse.tm,λa ha=>bse.row a (h5.mp ha).1,⟨bse.came.oc,bse.came.en,bse.came.dq⟩,bse.lca,bse.lto⟩
 have F1:∀x,x∈jV.fl.map (·.1)↔x∈S.fl.map (·.1)/\x≠k:=λx=>by
  rw[<-iA]
  constructor
  .intro ay
   obtain⟨a,ha,rfl⟩:=ec.mp ay
   obtain⟨fu,gG⟩:=h5.mp ha
   exact⟨ec.mpr ⟨a,fu,rfl⟩,λe=>by rw[e,beq_self_eq_true] at gG;cases gG⟩
  .rintro⟨ay,e⟩
   obtain⟨a,ha,rfl⟩:=ec.mp ay
   exact ec.mpr ⟨a,h5.mpr ⟨ha,by rw[beq_eq_false_iff_ne.mpr e];rfl⟩,rfl⟩
 have I':∀x,x∈jV.al.map (·.1)↔x∈jV.fl.map (·.1)/\x∉ks:=λx=>by
  rw[F1,show jV.al=S.al by rw[<-iA],ak,fX,not_or,and_assoc]
 have Ak:∀x∈ks,x∈jV.fl.map (·.1):=λx ay=>(F1 x).mpr ⟨kf x ay,λe=>Y2 (e▸ay)⟩
 have Kf:∀D:fZ G,D.live nL->(D.live jV\/∃f∈fC,D.does f)\/∃f∈jf.2,D.does f:=λD ar=>by
  rcases duty D ar with(x|⟨a,ha,x⟩)|x
  .exact .inl (.inl (.inl (D.other S jV (by rw[<-iA]) (by rw[<-iA]) (by rw[<-iA]) x)))
  .by_cases e:a.1=k
   .rw[Y4 bse.nd ha LQ (e.trans wx.symm)] at x
    exact .inr x
   .exact .inl (.inl (.inr ⟨a,by rw[<-iA];exact h5.mpr ⟨ha,by rw[beq_eq_false_iff_ne.mpr e];rfl⟩,x⟩))
  .exact .inl (.inr x)
 have Pw:jV.to=nL.to:=by rw[<-iA];exact to
 clear iA F1 duty ak kf to
 have ext:∀u,cA u cK jV->cY u->hF u p->(∀{d x},d∈[cL,dC,aZ]->s.cells d=some x->u.cells d=some x)->
  d9 (eJ (.ref aZ) u) (aM (pv [.ref aZ,eb jf.2] u) λ_ v=>Q .next [eo,some (.ref p),d2,ef,fx,e4,eT,some (.ref cK.w),gS,some (.int turn),jP,jQ,some (.ref aZ),some (.str k),some (eb jf.2),kC,kD,kE] v) False:=λu bZ lq oU kv=>by
  have FY:=kv (.tail _ (.tail _ (.head _))) lo
  refine hS (pP FY) ?_
  refine IT FY (by rw[ez,ez];exact aE.aas lm ur hm dP q7) ?_
  have fR:∀{d},d≠aZ->(u.aY aZ (.list (fC.map Fr.v++jf.2.map Fr.v))).cells d=u.cells d:=cG
  rw[wL]
  refine q _ jV (fC++jf.2) _ ⟨⟨cK,wL,bZ.uR λd hm=>fR λe=>e8 aZ YG (e▸hm),e8⟩,oU.keeps (fR bE.symm),lq.aY (lq.lt FY),⟨b,kQ,by exact aE.aat ai⟩,I',by rw[jv];exact iD,λf hf=>(iV.mp hf).elim (lg f) (sH f),by rw[AB];exact aE.aau lm ur hm,nk,Ak,
   (fR d1).trans (kv (.head _) dce),(fR fV).trans (kv (.tail _ (.head _)) bce),⟨ab,aF,bE,d1,fV⟩,λD ar=>?_,Pw⟩
  rcases Kf D ar with(x|⟨f,hf,x⟩)|⟨f,hf,x⟩
  .exact .inl x
  .exact .inr ⟨f,nv _ hf,x⟩
  .exact .inr ⟨f,lR _ hf,x⟩
 have come:∀u,cA u cK jV->cY u->hF u p->(∀{d x},d∈[cL,dC,aZ]->s.cells d=some x->u.cells d=some x)->
  ba (nI [.ref cK.w,eb jf.2] u) λ_ v=>Q .next [eo,some (.ref p),d2,ef,fx,e4,eT,some (.ref cK.w),gS,some (.int turn),jP,jQ,some (.ref aZ),some (.str k),some (eb jf.2),kC,kD,kE] v:=λu bZ lq oU kv=>by
  refine(G8 (fs:=jf.2) lq bZ (λf hf=>(sH f hf).1) (kQ.came.GS (by exact aE.aav ur hm dP) (by have:=kQ.lca;exact aE.aaw mX ai this))).gs λv ia=>?_
  obtain⟨a',n6⟩:=ia
  obtain⟨bj,bg,e3⟩:=sa jf.2 jV
  have dU:∀{d x},d∈[cL,dC,aZ]->s.cells d=some x->v.cells d=some x:=λhm e=>(n6.old _ (lq.lt (kv hm e)) (e8 _ (.tail _ hm))).trans (kv hm e)
  rw[wL]
  refine q _ (hV jV jf.2) fC _ ⟨⟨cK,wL,a',e8⟩,oU.keeps (n6.old p (oU.lt lq) (e8 p mp)),n6.wf,⟨b+51,kQ.kp ⟨sH,ur⟩,by exact aE.aax ai⟩,by rw[bj,e3];exact I',dU (.tail _ (.tail _ (.head _))) lo,lg,by exact aE.aaz lm,nk,by rw[bj];exact Ak,dU (.head _) dce,dU (.tail _ (.head _)) bce,⟨ab,aF,bE,d1,fV⟩,λD ar=>?_,bg.trans Pw⟩
  rcases Kf D ar with((x|⟨a,ha,x⟩)|x)|x
  .exact .inl (.inl (D.keeps x))
  .exact .inl (.inr ⟨a,by rw[bj];exact ha,x⟩)
  .exact .inr x
  .exact .inl (.inl (D.kp x))
 have i4:∀{d x},d∈[cL,dC,aZ]->s.cells d=some x->t.cells d=some x:=λhm e=>cw (.tail _ hm) e
 have last:∀u,cA u cK jV->cY u->hF u p->(∀{d x},d∈[cL,dC,aZ]->s.cells d=some x->u.cells d=some x)->
  d9 ((turn:Int)==0) (d9 (eJ (.ref aZ) u) (aM (pv [.ref aZ,eb jf.2] u) λ_ v=>Q .next [eo,some (.ref p),d2,ef,fx,e4,eT,some (.ref cK.w),gS,some (.int turn),jP,jQ,some (.ref aZ),some (.str k),some (eb jf.2),kC,kD,kE] v) False)
   (ba (nI [.ref cK.w,eb jf.2] u) λ_ v=>Q .next [eo,some (.ref p),d2,ef,fx,e4,eT,some (.ref cK.w),gS,some (.int turn),jP,jQ,some (.ref aZ),some (.str k),some (eb jf.2),kC,kD,kE] v):=λu bZ lq oU kv=>by
  cases(turn:Int)==0
  .exact come u bZ lq oU kv
  .exact ext u bZ lq oU kv
 refine qO (p:=(turn:Int)<4) (λ_=>?_) λ_=>last t ht sS.wf OG i4
 refine(x1 sS.wf OG (by decide)).bb ?_
 rintro _ u ⟨n,rfl,_,oU,kv⟩
 have bZ:=ht.keeps sS.wf kv λd hm e=>e8 p mp (by rw[<-gi.mp e];exact hm)
 have dU:∀{d x},d∈[cL,dC,aZ]->s.cells d=some x->u.cells d=some x:=λhm e=>(kv.old _ (sS.wf.lt (i4 hm e)) λq=>by
  have all:∀d∈[cL,dC,aZ],d≠p:=b0.mpr ⟨ab,b0.mpr ⟨aF,b0.mpr ⟨bE,eg _⟩⟩⟩
  exact all _ hm (gi.mp q)).trans (i4 hm e)
 exact qO (p:=0<n) (λ_=>ext u bZ kv.wf oU dU) λ_=>last u bZ kv.wf oU dU
end Internal
set_option genInjectivity false
namespace Internal
open PySem PySem.W PyProof.Rows PySem.Calls
variable{G:f5}
theorem Ka{s:St}{c:Nat}{i v:C}{k:List aT}(h:s.cells c=some (.cv []))(hk:toKey i=some k):qU c [(i,v)] s=some (s.aY c (.cv [(k,v)])):=by
 show(pk c i v s).bind (qU c [])=_
 unfold pk
 rw[h]
 dsimp only
 rw[hk];rfl
theorem acG{cU vs:List C}{s:St}{Q:C->St->Prop}(aJ:cU.length+vs.length<=1000000)(q:Q (.bB (cU++vs)) s):aM (c3 [.bB cU,.bB vs] s) Q:=lk (p:=cU.length+vs.length<=1000000) aJ q
structure r2 (G:f5) (s:St) (p w cL dC:Nat) (dn bl:Bool) (S:dH) (b2:Int) (b:Nat):Prop where
 hw:∃c:fY,c.w=w/\cA s c S/\∀d∈[p,cL,dC],d∉c.all
 pool:hF s p
 wf:cY s
 bt:Inv G S b2 b
 dce:s.cells cL=some (.cv (t9 dn))
 bce:s.cells dC=some (.cv (t2 bl))
 ne:cL≠p/\dC≠p
theorem Y5(o:Option (Int×aV)):pX (zD o)=some o.isNone:=by cases o<;>rfl
theorem xC{T:f3}{A B:cp}{aa:Loc}{s:St}{Q:dp->Loc->St->Prop}(h:T.p aa s λc t=>d9 c (A.p aa t Q) (B.p aa t Q)):(cp.b9 T A B).p aa s Q:=h
theorem xE{R:cp}{aa:Loc}{s:St}{Q:dp->Loc->St->Prop}(h:R.p aa s Q):cp.aG.p aa s (cp.GK R Q):=h
theorem Gu{aa:Loc}{s:St}{K:Bool->St->Prop}(h:K false s):f3.gy.p aa s K:=h
theorem uZ{T IY:f3}{aa:Loc}{s:St}{Q:Bool->St->Prop}(h:T.p aa s λc t=>d9 c (Q true t) (IY.p aa t Q)):(f3.dt T IY).p aa s Q:=h
theorem Gs{E:TE}{aa:Loc}{s:St}{Q:Bool->St->Prop}(h:E.p aa s λv t=>rj v λb=>Q b t):(f3.boolOf E).p aa s Q:=h
theorem Oy{F:b4}{A B:TE}{aa:Loc}{s:St}{Q:C->St->Prop}(h:A.p aa s λx t=>B.p aa t λy u=>aM (F [x,y] u) Q):(TE.ah F A B).p aa s Q:=h
theorem Gv{fs:List Fr}{kd:aV}{s:St}{aa:Loc}{Q:C->St->Prop}{E:TE}{src:C}(h:∀P:C->St->Prop,P src s->E.p aa s P)(hs:eD src s=some (fs.map Fr.v))(aJ:fs.length<=900000)(q:Q (eb (fs.filter λf=>f.jk==kd)) s):
 (TE.gx E (fi [none]) (dD 0) (.boolOf (.ah cP (.ah bf (.J 0) (.U (.int 0))) (.U (.str kd)))) (.J 0)).p aa s Q:=by
 refine h _ ?_
 refine dW hs ?_
 refine nN (src:=src) (λl t=>(∃z,l=[z])/\t=s) (λf:Fr=>f.jk==kd) (λf v=>v=f.v) (λ_ t h=>by rw[h.2];exact hs) ?_ ⟨⟨_,rfl⟩,rfl⟩ (by rw[iH];exact aE.aaA aJ) ?_
 .rintro f _ _ t ⟨⟨z,rfl⟩,ht⟩
  refine⟨_,rfl,?_⟩
  refine fc f.uA ⟨rfl,?_⟩
  have i:(∃z,[some f.v]=[z])/\t=s:=⟨⟨_,rfl⟩,ht⟩
  exact d9.of (A:=True) (B:=True) (by cases(f.jk==kd)<;>trivial) (λ_=>⟨rfl,i⟩) λ_=>i
 .rintro cU _ t a ⟨_,ht⟩
  rw[pf a,ht];exact q
theorem acH{s u:St}{dC:Nat}{bl:Bool}{anew:List Fr}{jl bO bh dh oP iO pR:Option C}{l:Loc}{K:Bool->St->Prop}(ai:s.cells dC=some (.cv (t2 bl)))(qd:cY s)(k:Keeps [] s u)(h:Fr.e6∈anew->bl=true)(q:∀t,Keeps [] s t->K false t):
 (f3.gk (.boolOf (.ah gF (.b5 (.ae (.U (.str "data_blocked")) (.ae (.U (.int 9)) (.av)))) (.J 8))) (.gk (.boolOf (.ah cP (.J 6) (.hW (.cv [])))) (.fM))).p (jl::bO::bh::dh::oP::iO::some (.ref dC)::pR::some (eb anew)::l) u K:=by
 have bZ:=(k.old dC (qd.lt ai) iI).trans ai
 refine tO (Fv (g:=.e6) λf _=>afo f) ?_
 refine qO (λm=>?_) λ_=>q u k
 have e:=h m
 subst e
 exact y' (eq_td ((i6 (eL (k.wf.lt bZ))).trans bZ) jo) (q _ k.new)
theorem acK{s u:St}{cL:Nat}{dn:Bool}{anew:List Fr}{jl bO bh dh oP q' pR:Option C}{l:Loc}{K:Bool->St->Prop}(ai:s.cells cL=some (.cv (t9 dn)))(qd:cY s)(k:Keeps [] s u)(h:Fr.gH∈anew->dn=false)(q:∀t,Keeps [] s t->K false t):
 (f3.gk (.boolOf (.ah gF (.b5 (.ae (.U (.str "stop_sending")) (.ae (.U (.int 4)) (.ae (.U (.int 7)) (.av))))) (.J 8))) (.gk (.boolOf (.ah gY (.J 5) (.hW (.cv [])))) (.fM))).p (jl::bO::bh::dh::oP::some (.ref cL)::q'::pR::some (eb anew)::l) u K:=by
 have bZ:=(k.old cL (qd.lt ai) iI).trans ai
 refine tO (Fv (g:=.gH) λf _=>afq f) ?_
 refine qO (λm=>?_) λ_=>q u k
 have e:=h m
 subst e
 exact Cn (eq_td ((i6 (eL (k.wf.lt bZ))).trans bZ) jo) (q _ k.new)
theorem af6{s:St}{p w aZ cL dC:Nat}{dn bl:Bool}{nL S:dH}{fC:List Fr}{b2:Int}{R B:Nat}{eo d2 gS qe jP jQ nj lO kC kD kE:Option C}{Q:dp->Loc->St->Prop}
 (h:v8 G s p w aZ cL dC dn bl nL S [] fC b2 B)(mX:B<=680000)(hL:32<=R/\R<=51)
 (q:∀u cN kG,r2 G u p w cL dC dn bl cN b2 (B+51*320)->(∀D:fZ G,D.live nL->D.live cN)->cN.to.countP (λf=>decide (f=.dy))=nL.to.countP (λf=>decide (f=.dy))->
   Q .next [eo,some (.ref p),d2,some (.int R),some (.int b2),some (.ref cL),some (.ref dC),some (.ref w),kG,qe,jP,jQ,some (.ref aZ),nj,lO,kC,kD,kE] u):
 HS.p [eo,some (.ref p),d2,some (.int R),some (.int b2),some (.ref cL),some (.ref dC),some (.ref w),gS,qe,jP,jQ,some (.ref aZ),nj,lO,kC,kD,kE] s Q:=by
 obtain⟨⟨c,rfl,hw,aD⟩,pool,wf,⟨b,bse,ai⟩,ak,lo,lg,lm,nk,kf,dce,bce,⟨ab,aF,bE,d1,fV⟩,duty,to⟩:=h
 have q8:gB fC<=306:=lm
 have dP:=m8 fC
 refine p1 ?_
 refine kl (Ka jo rfl) ?_
 have dK:Keeps [] s ((s.new (.cv [])).aY s.next (.cv uG)):=(Keeps.refl wf).new.aY (.inr (bF _)) (hB _)
 have bj:((s.new (.cv [])).aY s.next (.cv uG)).cells s.next=some (.cv uG):=iD
 have CN:∀{d x},s.cells d=some x->((s.new (.cv [])).aY s.next (.cv uG)).cells d=some x:=λe=>(dK.old _ (wf.lt e) iI).trans e
 refine(agu (dn:=dn) (bl:=bl) (fs:=fC) (K:=FD G.N) dK.wf (CN lo) bj (CN bce) (CN dce) (by exact aE.N7 q8 dP) (λf hf=>?_) (ny 4 2)).bb ?_
 .obtain⟨x,ay,e⟩:=BG.mp hf
  exact Pp (lg x ay) e
 rintro _ mw ⟨ns,rfl,F5,g1⟩
 have hu:=dK.hX g1
 have pe:=again lg F5
 refine(age (src:=.ref aZ) (fs:=fC) hu.wf (λu g=>?_) (by exact aE.N7 q8 dP)).bb ?_
 .unfold eD;dsimp only;rw[g.cells,hu.old aZ (wf.lt lo) iI,lo]
 rintro _ rq ⟨rfl,g2⟩
 have i4:=hu.hX g2
 have zZ:=pe.gB
 have lr:=m8 (ns++fC.filter λf=>f.data.isSome)
 refine acG (by rw[<-g',<-jv,ez];exact aE.aaB q8 zZ lr) ?_
 rw[<-jv]
 generalize ns++fC.filter (λf=>f.data.isSome)=anew at pe zZ lr
 refine tf ?_
 refine xC ?_
 refine uZ ?_
 refine Gs ?_
 refine Oy ?_
 refine Gv (fs:=anew) (src:=eb anew) (λP h=>h) rfl (by exact aE.aaC q8 zZ lr) ?_
 refine QA (r:=true) (by rcases pe.ey with e|e<;>rw[e]<;>rfl) ?_
 refine tO (Fv (g:=.dy) λf _=>PD f) ?_
 refine gN (decide_eq_false pe.dy) ?_
 refine Gu ?_
 refine gN rfl ?_
 refine xE ?_
 refine tf ?_
 refine xC ?_
 refine uZ ?_
 refine acH bce wf i4 pe.e6 λu kv=>?_
 refine uZ ?_
 refine acK dce wf kv pe.gH λv n6=>?_
 have at_:∀{d x},s.cells d=some x->v.cells d=some x:=λe=>(n6.old _ (wf.lt e) iI).trans e
 have s7:nJ G v p c S b2 B:=⟨hw.keeps wf n6 λ_ _=>iI,pool.keeps (n6.old p (pool.lt wf) iI),⟨⟨bse.nd,bse.kd,bse.an,bse.tm,bse.row,bse.came,cI bse.lca ai,cI bse.lto ai⟩,λx=>(ak x).trans ⟨λh=>h.1,λh=>⟨h,iI⟩⟩⟩,n6.wf⟩
 refine(P6 (fs:=anew) (aD p (.head _)) s7 (by exact aE.aaD q8 zZ) (by exact aE.aaE mX) pe.gz hL).gs λt ia=>?_
 obtain⟨cN,AG,sS,kS,k6⟩:=ia
 have al:∀d∈[cL,dC],∀x,s.cells d=some x->t.cells d=some x:=λd hm x e=>(sS.old d (n6.wf.lt (at_ e)) λq=>by
  rcases fX.mp q with e|q
  .have:∀d∈[cL,dC],d≠p:=b0.mpr ⟨ab,b0.mpr ⟨aF,eg _⟩⟩
   exact this d hm e
  .have:∀d∈[cL,dC],d∉c.all:=b0.mpr ⟨aD cL (.tail _ (.head _)),b0.mpr ⟨aD dC (.tail _ (.tail _ (.head _))),eg _⟩⟩
   exact this d hm q).trans (at_ e)
 refine q _ cN _ ⟨⟨c,rfl,AG.hw,b0.mpr ⟨aD p (.head _),b0.mpr ⟨aD cL (.tail _ (.head _)),b0.mpr ⟨aD dC (.tail _ (.tail _ (.head _))),eg _⟩⟩⟩⟩,AG.pool,AG.wf,AG.bt,al cL (.head _) _ dce,al dC (.tail _ (.head _)) _ bce,⟨ab,aF⟩⟩ (λD ar=>kS D ?_) ?_
 .rcases duty D ar with x|x
  .exact .inl x
  .exact .inr (pe.duty D x)
 .have ia:anew.countP (λf=>decide (f=.dy))=0:=List.countP_eq_zero.mpr λf hf e=>by
   rw[of_decide_eq_true e] at hf
   exact pe.dy hf
  rw[k6,to,ia,Nat.add_zero]
end Internal
set_option genInjectivity true
namespace Internal
open PySem PySem.W PyProof.Rows PySem.Calls
variable{G:f5}
theorem agv{s:St}{p w cL dC turn:Nat}{dn bl:Bool}{S:dH}{b2:Int}{R b:Nat}{eo d2 gS jP jQ rz nj lO kC kD kE:Option C}{Q:dp->Loc->St->Prop}
 (h:r2 G s p w cL dC dn bl S b2 b)(mX:b<=600000)(hL:32<=R/\R<=51)
 (q:∀u cN NG kG PX PY PZ rA o2 fl,r2 G u p w cL dC dn bl cN NG (b+51*326)->(∀D:fZ G,D.live S->D.live cN)->cN.to.countP (λf=>decide (f=.dy))=S.to.countP (λf=>decide (f=.dy))->(fl=.next\/fl=.brk)->
   Q fl [eo,some (.ref p),d2,some (.int R),some (.int NG),some (.ref cL),some (.ref dC),some (.ref w),kG,some (.int turn),PX,PY,PZ,rA,o2,kC,kD,kE] u):
 B9.p [eo,some (.ref p),d2,some (.int R),some (.int b2),some (.ref cL),some (.ref dC),some (.ref w),gS,some (.int turn),jP,jQ,rz,nj,lO,kC,kD,kE] s Q:=by
 obtain⟨⟨c,rfl,hw,aD⟩,pool,wf,bt,dce,bce,⟨ab,aF⟩⟩:=h
 have kd:∀a∈S.al,a.1∈fT:=λa ha=>by
  obtain⟨x,ay,e⟩:=ec.mp ((bt.ak a.1).mp (ec.mpr ⟨a,ha,rfl⟩))
  rw[<-e];exact bt.kd x ay
 have keep:∀{u} (g:cT s u),r2 G u p c.w cL dC dn bl S b2 b:=λg=>⟨⟨c,rfl,hw.hX g,aD⟩,pool.keeps (by rw[g.cells]),g.wf wf,bt,by rw[g.cells];exact dce,by rw[g.cells];exact bce,⟨ab,aF⟩⟩
 refine p1 ?_
 refine fc hw.w1 ?_
 refine xB hw.al ?_
 refine(P7 wf).gs λmw g1=>?_
 refine tf ?_
 refine xC ?_
 refine IU (Y5 _) ?_
 cases hf:fT.foldl (nh S.al) none with
 |none=>
  obtain⟨Xj,acZ,afz,XJ,jh,b1,YS⟩:=keep g1
  exact q mw S b2 _ _ _ _ _ _ .brk ⟨Xj,acZ,afz,XJ.bb (rI _ _),jh,b1,YS⟩ (λD ar=>ar) rfl (.inr rfl)
 |some cw=>
  obtain⟨t,k⟩:=cw
  obtain⟨um,WK,ks,mg⟩:=UY kd hf
  have E0:=bt.tm _ WK
  have n2:=hw.hX g1
  refine xE ?_
  refine tf ?_
  refine xC ?_
  refine uZ ?_
  refine gN (b:=decide (t<b2)) (decide_eq_false (by have:b2<=t:=E0;exact aE.aaF this)) ?_
  refine uZ ?_
  refine Gs ?_
  refine fc n2.w1 ?_
  refine xD n2.al ?_
  refine(aga (g1.wf wf) n2.al).gs λrq g2=>?_
  rw[show zL S.al=.int t by unfold zL;rw[hf]]
  refine gN (b:= !(t==t)) (by rw[beq_self_eq_true];rfl) ?_
  have g12:=g1.trans g2
  have n3:=hw.hX g12
  refine Gu ?_
  refine gN rfl ?_
  refine xE ?_
  refine p1 ?_
  refine fc n3.w1 ?_
  refine xD n3.al ?_
  refine(ags (g12.wf wf) n3.al bt.an (by have:=bt.Ja;exact aE.N4 this) um mg).gs λng ia=>?_
  obtain⟨kP,i4⟩:=ia
  refine tf ?_
  refine xC ?_
  refine uZ ?_
  refine Gs ?_
  refine gN (b:= !(k==k)) (by rw[beq_self_eq_true];rfl) ?_
  refine Gu ?_
  refine gN rfl ?_
  refine xE ?_
  have sL:=n3.O2 (g12.wf wf) i4 kP
  have w':Keeps [c.al] s ng:=(g12.keeps wf).trans i4
  have Ji:∀{d x},d∈[p,cL,dC]->s.cells d=some x->ng.cells d=some x:=λhm e=>(w'.old _ (wf.lt e) λq=>aD _ hm (by rw[gi.mp q];exact c.Ay)).trans e
  have dh:∀d∈[p,cL,dC],d<ng.next:=b0.mpr ⟨kI (pool.lt wf) w'.next,b0.mpr ⟨kI (wf.lt dce) w'.next,b0.mpr ⟨kI (wf.lt bce) w'.next,eg _⟩⟩⟩
  have LU:=sL.lt i4.wf
  have L6:(k::ks).length<=6:=by rw[<-mg];exact BE ..
  have Wm:∀x∈k::ks,x∈S.al.map (·.1):=λx ay=>by
   rw[<-mg] at ay
   have:=(h5.mp ay).2
   unfold lA at this
   cases e:tm S.al x with
   |none=>rw[e] at this;cases this
   |some y=>exact ec.mpr ⟨_,GY e,rfl⟩
  have Ng:v8 G (ng.new (.list [])) p c.w ng.next cL dC dn bl S {S with al:=S.al.filter λa=> !((k::ks).contains a.1)} (k::ks) [] t (b+306):={
   hw:=⟨c,rfl,sL.uR λd hm=>i6 (eL (LU d hm)),b0.mpr ⟨aD p (.head _),b0.mpr ⟨aD cL (.tail _ (.head _)),b0.mpr ⟨aD dC (.tail _ (.tail _ (.head _))),b0.mpr ⟨λq=>Nat.lt_irrefl _ (LU _ q),eg _⟩⟩⟩⟩⟩
   pool:=pool.keeps ((i6 (eL (dh p (.head _)))).trans (w'.old p (pool.lt wf) λq=>aD p (.head _) (by rw[gi.mp q];exact c.Ay)))
   wf:=i4.wf.new
   bse:=⟨b,⟨bt.nd,bt.kd,(yb _ vo).nodup bt.an,λa ha=>um a.1 a.2 (Pu bt.an (h5.mp ha).1),bt.row,⟨bt.came.oc,bt.came.en,bt.came.dq⟩,bt.lca,bt.lto⟩,by exact aE.aaG L6⟩
   ak:=λx=>by
    rw[<-bt.ak]
    constructor
    .intro ay
     obtain⟨a,ha,rfl⟩:=ec.mp ay
     obtain⟨fu,gG⟩:=h5.mp ha
     exact⟨ec.mpr ⟨a,fu,rfl⟩,λq=>by rw[List.contains_iff_mem.mpr q] at gG;cases gG⟩
    .rintro⟨ay,a3⟩
     obtain⟨a,ha,rfl⟩:=ec.mp ay
     exact ec.mpr ⟨a,h5.mpr ⟨ha,by rw[Bool.eq_false_iff.mpr λq=>a3 (List.contains_iff_mem.mp q)];rfl⟩,rfl⟩
   lo:=jo
   lg:=eg _
   lm:=by show 0+_<=_;exact aE.aaH L6
   nk:=by rw[<-mg];exact List.Sublist.nodup vo (by decide)
   kf:=λx ay=>(bt.ak x).mp (Wm x ay)
   dce:=(i6 (eL (dh cL (.tail _ (.head _))))).trans (Ji (.tail _ (.head _)) dce)
   bce:=(i6 (eL (dh dC (.tail _ (.tail _ (.head _)))))).trans (Ji (.tail _ (.tail _ (.head _))) bce)
   ne:=⟨ab,aF,k9 (dh p (.head _)),eL (dh cL (.tail _ (.head _))),eL (dh dC (.tail _ (.tail _ (.head _))))⟩
   duty:=λD ar=>.inl (ar.elim (λx=>.inl (D.other S _ rfl rfl rfl x)) .inr)
   to:=rfl}
  generalize{S with al:=S.al.filter λa=> !((k::ks).contains a.1)}=jV at Ng
  refine p1 ?_
  refine dW rfl ?_
  refine lB (src:=.bB ((k::ks).map C.str)) (enc:=C.str) (xs:=k::ks) (A:=B8) (λr l u=>ze λcN fC rA o2=>l=[eo,some (.ref p),d2,some (.int R),some (.int t),some (.ref cL),some (.ref dC),some (.ref c.w),gS,some (.int turn),some (zD (some (t,k))),some (.bB ((k::ks).map C.str)),some (.ref ng.next),rA,o2,kC,kD,kE]/\
   v8 G u p c.w ng.next cL dC dn bl S cN r fC t (b+306)) (λ_ _ _ _=>rfl) ?_ ?_ ⟨jV,[],_,_,rfl,Ng⟩
  .rintro x r _ u ⟨cN,fC,rA,o2,rfl,m⟩
   exact⟨_,rfl,af' m (by exact aE.aaJ mX) λv qG YA y gG=>⟨qG,YA,_,_,rfl,gG⟩⟩
  .rintro _ u ⟨cN,fC,rA,o2,rfl,m⟩
   exact af6 m (by exact aE.aaK mX) hL λv qG kG sX kS k6=>q v qG t _ _ _ _ _ _ .next (by rw[show b+51*326=b+306+51*320 by exact aE.aaL];exact sX) kS k6 (.inl rfl)
end Internal
namespace Internal
open PySem PySem.W PyProof.Rows PySem.Calls
noncomputable abbrev jb:=List (aT×List UInt8)
noncomputable def jL(hs:jb)(nm:aT):Option (List UInt8):=(hs.find? λe=>decide (e.1=nm)).map (·.2)
theorem Ax{hs:jb}{nm:aT}{d:List UInt8}(h:jL hs nm=some d):(nm,d)∈hs:=by
 unfold jL at h
 obtain⟨a,ha,rfl⟩:=hc.mp h
 have q:=Bz (p:=λe:aT×List UInt8=>decide (e.1=nm)) ha
 rw[<-(of_decide_eq_true q:a.1=nm)];exact BJ ha
noncomputable def xV(hs:jb):List aT->Option Int
 |[nm,.int i]=>(jL hs nm).bind λd=>if 0<=i then(d[i.toNat]?).map λb=>(b.toNat:Int) else none
 |_=>none
noncomputable def A4(hs:jb):aT->Option Int
 |.int s=>(jL hs (.int s)).map λd=>(d.length:Int)
 |_=>none
noncomputable def zA(e:aT×List UInt8):List (List aT):=(iW e.2.length).map λi:Nat=>[e.1,.int (i:Int)]
theorem Pz{hs:jb}{k:List aT}{v:Int}(h:xV hs k=some v):∃nm d,∃i:Nat,k=[nm,.int i]/\jL hs nm=some d/\i<d.length:=by
 rcases k with _|⟨nm,_|⟨_|i|_,_|_⟩⟩
 .exact au h
 .exact au h
 .exact au h
 .exact au h
 .obtain⟨d,e,h⟩:=Option.bind_eq_some_iff.mp h
  by_cases hi:0<=i
  .rw[if_pos hi] at h
   obtain⟨b,ai,_⟩:=hc.mp h
   obtain⟨n,rfl⟩:=qh hi
   exact⟨nm,d,n,rfl,e,(nu.mp ai).1⟩
  .rw[if_neg hi] at h;exact au h
 .exact au h
 .exact au h
 .exact au h
theorem Py{hs:jb}{k:aT}{v:Int}(h:A4 hs k=some v):∃s d,k=.int s/\jL hs (.int s)=some d:=by
 rcases k with _|s|_
 .exact au h
 .obtain⟨d,e,_⟩:=hc.mp h
  exact⟨s,d,rfl,e⟩
 .exact au h
theorem J8:∀{hs:jb},(∀e∈hs,e.2.length<=30)->(hs.flatMap zA).length<=30*hs.length
 |[],_=>bF _
 |e::hs,h=>by
  obtain⟨h1,h⟩:=b0.mp h
  have:=J8 h
  rw[List.flatMap_cons,g',gD]
  unfold zA
  rw[ez,qj]
  unfold zA at this
  exact aE.aaM h1 this
noncomputable def lL(N:Int)(hs:jb)(h1:∀e∈hs,e.2.length<=30)(h2:hs.length<=3):f5 where
 T:=xV hs
 E:=A4 hs
 N:=N
 domT:=hs.flatMap zA
 domE:=hs.map (·.1)
 hT k i h:=by
  obtain⟨nm,d,aj,rfl,e,c2⟩:=Pz h
  exact List.mem_flatMap.mpr ⟨_,Ax e,ec.mpr ⟨aj,List.mem_range.mpr c2,rfl⟩⟩
 hE k i h:=by
  obtain⟨s,d,rfl,e⟩:=Py h
  exact ec.mpr ⟨_,Ax e,rfl⟩
 lT:=by have:=J8 h1;exact aE.aaN h2 this
 lE:=by rw[ez];exact aE.aaO h2
variable{G:f5}
noncomputable def Ge(nm:aT)(i:Int):Fr->Prop
 |.st dF bV d _=>nm=.int dF/\bV<=i/\i<bV+d.length
 |.eY bV d=>nm=.str "crypto"/\bV<=i/\i<bV+d.length
 |_=>False
theorem Zm{nm:aT}{i:Int}{f:Fr}(h:Ge nm i f):f.data.isSome=true:=by
 cases f<;>first|rfl|exact h.elim
noncomputable def NV(G:f5)(nm:aT)(i:Int):fZ G where
 does:=Ge nm i
 done S:=[nm,.int i]∈S.oc.map (·.1)
 cut f R a0 h:=by
  rcases sd f R with⟨_,e⟩|⟨e,_⟩|⟨d,aD,h1,h2,e⟩
  .rw[e];exact .inl ⟨f,rfl,h⟩
  .rw[e];exact .inr ⟨f,rfl,h⟩
  .rw[e]
   have hk:R-f.dT<=d.length:=by exact aE.N1 h2
   generalize R-f.dT=k at hk
   cases f<;>cases aD
   .rename_i dF bV cW
    obtain⟨a,b,c⟩:=h
    by_cases q:i<bV+k
    .exact .inl ⟨_,rfl,a,by rw[show((0:Nat):Int)=0 from rfl];exact aE.N8 b,by rw[qk,show((0:Nat):Int)=0 from rfl];exact aE.N9 c q⟩
    .exact .inr ⟨_,rfl,a,by exact aE.N' q,by rw[vp];exact aE.Oa c⟩
   .rename_i bV
    obtain⟨a,b,c⟩:=h
    by_cases q:i<bV+k
    .exact .inl ⟨_,rfl,a,by rw[show((0:Nat):Int)=0 from rfl];exact aE.N8 b,by rw[qk,show((0:Nat):Int)=0 from rfl];exact aE.N9 c q⟩
    .exact .inr ⟨_,rfl,a,by exact aE.N' q,by rw[vp];exact aE.Oa c⟩
 keep S f h:=by
  cases f with
  |st=>exact xF.mpr (.inr h)
  |eY=>exact xF.mpr (.inr h)
  |_=>exact h
 come S f h:=by
  cases f with
  |st dF bV d cW=>
   obtain⟨rfl,b,c⟩:=h
   exact xF.mpr (.inl ⟨(i-bV).toNat,by exact aE.Ob b c,by rw[show bV+((i-bV).toNat:Int)=i by exact aE.Oc b]⟩)
  |eY bV d=>
   obtain⟨rfl,b,c⟩:=h
   exact xF.mpr (.inl ⟨(i-bV).toNat,by exact aE.Ob b c,by rw[show bV+((i-bV).toNat:Int)=i by exact aE.Oc b]⟩)
  |_=>exact h.elim
 told f h:=.inl (Zm h)
 other S cN bj _ _ h:=by rw[bj];exact h
noncomputable def Ko(s:Int):Fr->Prop
 |.st dF _ _ cW=>dF=s/\cW=true
 |_=>False
noncomputable def Kn(G:f5)(s:Int):fZ G where
 does:=Ko s
 done S:=.int s∈S.en.map (·.1)
 cut f R _ h:=by
  rcases sd f R with⟨_,e⟩|⟨e,_⟩|⟨d,aD,h1,h2,e⟩
  .rw[e];exact .inl ⟨f,rfl,h⟩
  .rw[e];exact .inr ⟨f,rfl,h⟩
  .rw[e]
   cases f<;>first|exact .inr ⟨_,rfl,h⟩|exact h.elim
 keep S f h:=by
  cases f with
  |st dF bV d cW=>
   cases cW
   .exact h
   .exact Aj.mpr (.inr h)
  |_=>exact h
 come S f h:=by
  cases f with
  |st dF bV d cW=>
   obtain⟨rfl,rfl⟩:=h
   exact Aj.mpr (.inl rfl)
  |_=>exact h.elim
 told f h:=.inl (by cases f<;>first|rfl|exact h.elim)
 other S cN _ bg _ h:=by rw[bg];exact h
theorem J3{f:Fr}{R:Nat}(aD:f.data=none):(∃g∈(ei f R).1,g=f)\/∃g∈(ei f R).2,g=f:=by
 rcases sd f R with⟨_,e⟩|⟨e,_⟩|⟨d,e8,_⟩
 .rw[e];exact .inl ⟨f,rfl,rfl⟩
 .rw[e];exact .inr ⟨f,rfl,rfl⟩
 .rw[aD] at e8;cases e8
theorem JV{S:dH}{f g:Fr}(h:g∈S.dq):g∈(hU S f).dq:=by
 cases f with
 |st=>exact h
 |eY=>exact h
 |_=>exact nv _ h
theorem JX{S:dH}{f:Fr}(h:f.data=none):f∈(hU S f).dq:=by
 cases f<;>first|exact lR _ (gi.mpr rfl)|cases h
theorem X7{x:Fr}(h:(x.jk==("new_connection_id":aV))=true):∃n,x=.dN n:=by
 cases x<;>first|exact⟨_,rfl⟩|exact(gI h).elim
theorem X6{x:Fr}(h:(x.jk==("max_data":aV))=true):∃n,x=.ey n:=by
 cases x<;>first|exact⟨_,rfl⟩|exact(gI h).elim
noncomputable def YQ(G:f5):fZ G where
 does f:=f=.dN G.N
 done S:=Fr.dN G.N∈S.dq
 cut f R _ h:=by subst h;exact J3 rfl
 keep S f h:=JV h
 come S f h:=by subst h;exact JX rfl
 told f h:=.inr λdn bl=>⟨f,by subst h;rfl,λx ay e=>by
  subst h
  obtain⟨n,rfl⟩:=X7 (x:=x) (by rw[aT.str.inj (rG e).1];rfl)
  rw[show n=G.N from ay.2]⟩
 other S cN _ _ e3 h:=by rw[e3];exact h
noncomputable def YI(G:f5):fZ G where
 does f:=∃n,f=.ey n
 done S:=∃n,Fr.ey n∈S.dq
 cut f R _ h:=by
  obtain⟨n,rfl⟩:=h
  exact(J3 (R:=R) (f:=.ey n) rfl).imp (λ⟨g,a0,e⟩=>⟨g,a0,n,e⟩) λ⟨g,a0,e⟩=>⟨g,a0,n,e⟩
 keep S f h:=h.imp λn h=>JV h
 come S f h:=by obtain⟨n,rfl⟩:=h;exact⟨n,JX rfl⟩
 told f h:=.inr λdn bl=>⟨.ey 33,by obtain⟨n,rfl⟩:=h;rfl,λx _ e=>X6 (x:=x) (by rw[aT.str.inj (rG e).1];rfl)⟩
 other S cN _ _ e3 h:=by rw[e3];exact h
end Internal
set_option genInjectivity false
namespace Internal
open PySem PySem.W PyProof.Rows PySem.Calls
noncomputable def Pj:Nat->List (List UInt8)->jb
 |_,[]=>[]
 |i,d::r=>(.int (4*(i:Int)),d)::Pj (i+1) r
noncomputable def uv(eu:List (List UInt8))(cL:List UInt8):jb:=Pj 0 eu++[(.str "crypto",cL)]
noncomputable def gR(hs:jb):Fr->Prop
 |.st dF bV d cW=>bV=0/\cW=true/\jL hs (.int dF)=some d
 |.eY bV d=>bV=0/\jL hs (.str "crypto")=some d
 |_=>True
structure Ci (hs:jb) (N:Int) (fs:List Fr):Prop where
 ok:∀f∈fs,f.ok/\gR hs f/\(∀n,f=.dN n->n=N)/\f≠.hN
 oc:∀nm d,jL hs nm=some d->∃f∈fs,∀i:Int,0<=i->i<d.length->Ge nm i f
 en:∀s d,jL hs (.int s)=some d->∃f∈fs,Ko s f
 dN:Fr.dN N∈fs
 ey:Fr.ey 10∈fs
 dy:fs.countP (λf=>decide (f=.dy))=1
 YR:fs.filter (λf=>f.jk==("new_connection_id":aV))=[.dN N]
 gB:gB fs<=320
theorem VS{N:Int}{eu:List (List UInt8)}{cL:List UInt8}(jI:1<=N/\N<=3)(h2:eu.length=1\/eu.length=2)(aD:∀d∈eu,d.length<=30)(az:cL.length<=20):
 (∀e∈uv eu cL,e.2.length<=30)/\(uv eu cL).length<=3/\Ci (uv eu cL) N (given N eu cL):=by
 have six:∀{P:Fr->Prop} {l:List Fr},(P (.ey 10)/\P (.ey 20)/\P .gH/\P .dy/\P .e6/\P (.dN N))->(∀f∈l,P f)->∀f∈ET N++l,P f:=λ⟨a,b,c,d,e,f⟩ h=>b0.mpr ⟨a,b0.mpr ⟨b,b0.mpr ⟨c,b0.mpr ⟨d,b0.mpr ⟨e,b0.mpr ⟨f,h⟩⟩⟩⟩⟩⟩
 have head:∀{hs:jb},(λf:Fr=>f.ok/\gR hs f/\(∀n,f=.dN n->n=N)/\f≠.hN) (.ey 10)/\(λf:Fr=>f.ok/\gR hs f/\(∀n,f=.dN n->n=N)/\f≠.hN) (.ey 20)/\(λf:Fr=>f.ok/\gR hs f/\(∀n,f=.dN n->n=N)/\f≠.hN) .gH/\
  (λf:Fr=>f.ok/\gR hs f/\(∀n,f=.dN n->n=N)/\f≠.hN) .dy/\(λf:Fr=>f.ok/\gR hs f/\(∀n,f=.dN n->n=N)/\f≠.hN) .e6/\(λf:Fr=>f.ok/\gR hs f/\(∀n,f=.dN n->n=N)/\f≠.hN) (.dN N):=
  ⟨⟨⟨by decide,by decide⟩,trivial,nofun,nofun⟩,⟨⟨by decide,by decide⟩,trivial,nofun,nofun⟩,⟨trivial,trivial,nofun,nofun⟩,⟨trivial,trivial,nofun,nofun⟩,⟨trivial,trivial,nofun,nofun⟩,⟨⟨by exact aE.aaX jI,by exact aE.aaY jI⟩,trivial,λn e=>(Fr.dN.inj e).symm,nofun⟩⟩
 match eu,h2,aD with
 |[a],_,aD=>
  have ha:a.length<=30:=aD a (.head _)
  have fR:∀nm d,jL (uv [a] cL) nm=some d->(nm=.int (4*((0:Nat):Int))/\d=a)\/(nm=.str "crypto"/\d=cL):=λnm d h=>by
   rcases fX.mp (Ax h) with e|e
   .exact .inl ⟨congrArg Prod.fst e,congrArg vA e⟩
   .have:=gi.mp e
    exact .inr ⟨congrArg Prod.fst this,congrArg vA this⟩
  refine⟨b0.mpr ⟨ha,b0.mpr ⟨by show cL.length<=30;exact aE.Od az,eg _⟩⟩,(by decide:2<=3),?_⟩
  refine⟨?_,λnm d h=>?_,λs d h=>?_,?_,.head _,rfl,rfl,?_⟩
  .exact six head (b0.mpr ⟨⟨⟨⟨by decide,by decide⟩,⟨by decide,by decide⟩,by exact aE.Gl ha⟩,⟨rfl,rfl,rfl⟩,nofun,nofun⟩,b0.mpr ⟨⟨⟨⟨by decide,by decide⟩,by exact aE.Oe az⟩,⟨rfl,rfl⟩,nofun,nofun⟩,eg _⟩⟩)
  .rcases fR nm d h with⟨rfl,rfl⟩|⟨rfl,rfl⟩
   .exact⟨.st (4*((0:Nat):Int)) 0 d true,nv _ (lR _ (.head _)),λi ao h1=>⟨rfl,ao,by exact aE.xx h1⟩⟩
   .exact⟨.eY 0 d,lR _ (.head _),λi ao h1=>⟨rfl,ao,by exact aE.xx h1⟩⟩
  .rcases fR _ d h with⟨e,rfl⟩|⟨e,_⟩
   .exact⟨.st (4*((0:Nat):Int)) 0 d true,nv _ (lR _ (.head _)),(aT.int.inj e).symm,rfl⟩
   .cases e
  .exact .tail _ (.tail _ (.tail _ (.tail _ (.tail _ (.head _)))))
  .show 1+(1+(1+(1+(1+(1+((1+a.length)+((1+cL.length)+0)))))))<=320
   exact aE.aa0 az ha
 |[a,bD],_,aD=>
  have ha:a.length<=30:=aD a (.head _)
  have kT:bD.length<=30:=aD bD (.tail _ (.head _))
  have fR:∀nm d,jL (uv [a,bD] cL) nm=some d->(nm=.int (4*((0:Nat):Int))/\d=a)\/(nm=.int (4*((0+1:Nat):Int))/\d=bD)\/(nm=.str "crypto"/\d=cL):=λnm d h=>by
   rcases fX.mp (Ax h) with e|e
   .exact .inl ⟨congrArg Prod.fst e,congrArg vA e⟩
   .rcases fX.mp e with e|e
    .exact .inr (.inl ⟨congrArg Prod.fst e,congrArg vA e⟩)
    .have:=gi.mp e
     exact .inr (.inr ⟨congrArg Prod.fst this,congrArg vA this⟩)
  refine⟨b0.mpr ⟨ha,b0.mpr ⟨kT,b0.mpr ⟨by show cL.length<=30;exact aE.Od az,eg _⟩⟩⟩,(by decide:3<=3),?_⟩
  refine⟨?_,λnm d h=>?_,λs d h=>?_,?_,.head _,rfl,rfl,?_⟩
  .exact six head (b0.mpr ⟨⟨⟨⟨by decide,by decide⟩,⟨by decide,by decide⟩,by exact aE.Gl ha⟩,⟨rfl,rfl,rfl⟩,nofun,nofun⟩,b0.mpr ⟨⟨⟨⟨by decide,by decide⟩,⟨by decide,by decide⟩,by exact aE.Gl kT⟩,⟨rfl,rfl,rfl⟩,nofun,nofun⟩,b0.mpr ⟨⟨⟨⟨by decide,by decide⟩,by exact aE.Oe az⟩,⟨rfl,rfl⟩,nofun,nofun⟩,eg _⟩⟩⟩)
  .rcases fR nm d h with⟨rfl,rfl⟩|⟨rfl,rfl⟩|⟨rfl,rfl⟩
   .exact⟨.st (4*((0:Nat):Int)) 0 d true,nv _ (lR _ (.head _)),λi ao h1=>⟨rfl,ao,by exact aE.xx h1⟩⟩
   .exact⟨.st (4*((0+1:Nat):Int)) 0 d true,nv _ (lR _ (.tail _ (.head _))),λi ao h1=>⟨rfl,ao,by exact aE.xx h1⟩⟩
   .exact⟨.eY 0 d,lR _ (.head _),λi ao h1=>⟨rfl,ao,by exact aE.xx h1⟩⟩
  .rcases fR _ d h with⟨e,rfl⟩|⟨e,rfl⟩|⟨e,_⟩
   .exact⟨.st (4*((0:Nat):Int)) 0 d true,nv _ (lR _ (.head _)),(aT.int.inj e).symm,rfl⟩
   .exact⟨.st (4*((0+1:Nat):Int)) 0 d true,nv _ (lR _ (.tail _ (.head _))),(aT.int.inj e).symm,rfl⟩
   .cases e
  .exact .tail _ (.tail _ (.tail _ (.tail _ (.tail _ (.head _)))))
  .show 1+(1+(1+(1+(1+(1+((1+a.length)+((1+bD.length)+((1+cL.length)+0))))))))<=320
   exact aE.aa1 az ha kT
 |[],h,_=>exact absurd h (by decide)
 |_::_::_::r,h,_=>exact absurd h (by rw[gD,gD,gD];exact aE.aa2)
theorem JW{hs:jb}:∀{fs:List Fr} {S:dH},(∀f∈fs,gR hs f)->fs.foldl oF (S.oc,S.en)=((hV S fs).oc,(hV S fs).en)
 |[],_,_=>rfl
 |f::fs,S,h=>by
  obtain⟨h1,h⟩:=b0.mp h
  have e:oF (S.oc,S.en) f=((hU S f).oc,(hU S f).en):=by
   cases f with
   |st dF bV d cW=>
    obtain⟨rfl,rfl,_⟩:=h1
    show(_,d0 S.en (.int dF) (.int d.length))=(_,d0 S.en (.int dF) (.int (0+d.length)))
    rw[x'];rfl
   |eY bV d=>obtain⟨rfl,_⟩:=h1;rfl
   |_=>rfl
  rw[qi,e]
  exact JW (fs:=fs) (S:=hU S f) h
theorem PL{N:Int}{hs:jb}{h1:∀e∈hs,e.2.length<=30}{h2:hs.length<=3}{f:Fr}(h:f.ok/\gR hs f/\(∀n,f=.dN n->n=N)/\f≠.hN):(lL N hs h1 h2).gz f:=by
 have val:∀{nm:aT} {d:List UInt8},jL hs nm=some d->∀(i:Nat) (b:UInt8),d[i]? =some b->xV hs [nm,.int (0+(i:Int))]=some (b.toNat:Int):=λe i b ai=>by
  show(jL hs _).bind (λd=>if 0<=(0+(i:Int)) then(d[(0+(i:Int)).toNat]?).map λb=>(b.toNat:Int) else none)=_
  rw[e,oq,x',if_pos (ts i),tv,ai];rfl
 obtain⟨ok,w,a3,hp⟩:=h
 refine⟨ok,?_⟩
 cases f with
 |st dF bV d cW=>
  obtain⟨rfl,rfl,e⟩:=w
  refine⟨val e,λ_=>?_⟩
  show(jL hs (.int dF)).map (λd=>(d.length:Int))=_
  rw[e,x'];rfl
 |eY bV d=>obtain⟨rfl,e⟩:=w;exact val e
 |dN n=>exact a3 n rfl
 |hN=>exact hp rfl
 |_=>trivial
theorem Lp{hs:jb}{S:dH}{G:f5}(e:G.T=xV hs)(h:kh G S)(d:∀nm d (i:Int),jL hs nm=some d->0<=i->i<d.length->(NV G nm i).done S):r0 (xV hs) S.oc:=
 ⟨by rw[<-e];exact h.oc,λk v hk=>by
   obtain⟨nm,x,aj,rfl,ay,c2⟩:=Pz hk
   exact d nm x aj ay (ts aj) (by exact aE.aa3 c2)⟩
theorem Lo{hs:jb}{S:dH}{G:f5}(e:G.E=A4 hs)(h:kh G S)(d:∀s d,jL hs (.int s)=some d->(Kn G s).done S):r0 (A4 hs) S.en:=
 ⟨by rw[<-e];exact h.en,λk v hk=>by
   obtain⟨s,x,rfl,ay⟩:=Py hk
   exact d s x ay⟩
end Internal
set_option genInjectivity true
namespace Internal
open PySem PySem.W PyProof.Rows PySem.Calls
theorem ints_map:∀l:List Int,i3 (l.map C.int)=some l
 |[]=>rfl
 |i::l=>congrArg (kJ λl=>i::l) (ints_map l)
theorem J'{c:Nat}:∀(ps:List (aT×C)) (es:List (aT×C)) (s:St),s.cells c=some (.cJ es)->es.length+ps.length<=1000->
 ∃a8,qU c (ps.map λp=>(p.1.v,p.2)) s=some a8/\a8.next=s.next/\a8.cells c=some (.cJ (ps.foldl (λes p=>d0 es p.1 p.2) es))/\∀d,d≠c->a8.cells d=s.cells d
 |[],es,s,h,_=>⟨s,rfl,rfl,h,λ_ _=>rfl⟩
 |p::ps,es,s,h,aJ=>by
  rw[gD] at aJ
  have hk:=sU (es:=es) (k:=p.1) (v:=p.2)
  obtain⟨a8,bj,bg,e3,gO⟩:=J' ps (d0 es p.1 p.2) (s.aY c (.cJ (d0 es p.1 p.2))) iD (by exact aE.aa4 aJ hk)
  refine⟨a8,?_,bg,e3,λd aD=>(gO d aD).trans (cG aD)⟩
  have e:pk c p.1.v p.2 s=some (s.aY c (.cJ (d0 es p.1 p.2))):=by
   unfold pk
   rw[h]
   cases p.1<;>exact if_pos (by exact aE.uU aJ)
  show(pk c p.1.v p.2 s).bind _=_
  rw[e];exact bj
theorem Oz{IS IZ:TE}{aa:Loc}{s:St}{p:Nat}{k v:C}{k0:List aT}{f:Bool->List (List aT×C)}{Q:C->St->Prop}(hp:aa[1]? =some (some (.ref p)))(q3:∀u (P:C->St->Prop),P k u->IS.p aa u P)(Wd:∀u (P:C->St->Prop),P v u->IZ.p aa u P)
 (hk:toKey k=some k0)(ht:f true=[(k0,v)])(hf:f false=[])(w:cY s)(rm:hF s p)(q:∀b t c,t.cells c=some (.cv (f b))->s.next<=c->Keeps [p] s t->hF t p->Q (.ref c) t):
 (TE.ft (.boolOf (.ah cP (.bq h7 (.ae (.J 1) (.ae (.U (.int 2)) (.av)))) (.U (.int 0)))) (.mT (.cv []) (.h9 IS IZ (.mr))) (.hW (.cv []))).p aa s Q:=by
 show(match aa[1]? with|some (some v)=>_|_=>False)
 rw[hp]
 refine(x1 w rm (by decide)).bb ?_
 rintro _ u ⟨n,rfl,_,ky,dK⟩
 have OF:hF (u.new (.cv [])) p:=ky.keeps (i6 (eL (ky.lt dK.wf)))
 show d9 (n==0) _ _
 cases n==0
 .exact q false _ _ (by rw[hf];exact jo) dK.next dK.new OF
 .refine q3 _ _ (Wd _ _ ?_)
  exact kl (Ka jo hk) (q true _ _ (by rw[ht];exact iD) dK.next (dK.new.aY (.inr dK.next) (hB _)) (OF.keeps (cG (eL (ky.lt dK.wf)))))
theorem Nv{d:Nat}:∀{xs:List cO} {u:St},d<u.next->(xs.foldl St.new u).cells d=u.cells d
 |[],_,_=>rfl
 |_::xs,_,h=>(Nv (xs:=xs) (yj h)).trans (i6 (eL h))
theorem Nt{x:cO}:∀{xs:List cO} {u:St} {i:Nat},xs[i]? =some x->(xs.foldl St.new u).cells (u.next+i)=some x
 |[],_,_,h=>nomatch h
 |y::xs,u,0,h=>by
  cases h
  exact(Nv (xs:=xs) (u:=u.new x) (hB u.next)).trans jo
 |y::xs,u,i+1,h=>by
  have:=Nt (xs:=xs) (u:=u.new y) (i:=i) h
  rw[show u.next+(i+1)=u.next+1+i by exact aE.aa5];exact this
theorem Nu{l:List Nat}{s:St}:∀{xs:List cO} {u:St},Keeps l s u->Keeps l s (xs.foldl St.new u)
 |[],_,h=>h
 |_::xs,_,h=>Nu (xs:=xs) h.new
noncomputable abbrev t5:List cO:=[.cJ [],.list [],.list [],.list [],.cv [],.cJ [],.inst (some (.cV []))]
noncomputable abbrev zx(n:Nat):fY:=⟨n,n+1,n+2,n+3,n+4,n+5,n+6⟩
theorem acR{u:St}{Q:St->Prop}(w:cY u)(q:∀t,cA t (zx u.next) ⟨[],[],[],[],[],[]⟩->Keeps [] u t->Q t):
 hQ (qU u.next [(.str "flying",.ref (u.next+1)),(.str "came",.ref (u.next+2)),(.str "told",.ref (u.next+3)),(.str "octets",.ref (u.next+4)),(.str "ends",.ref (u.next+5)),(.str "alarms",.ref (u.next+6))] (t5.foldl St.new u)) Q:=by
 have m6:Keeps [] u (t5.foldl St.new u):=Nu (Keeps.refl w)
 have g:∀(i:Nat) {x:cO},t5[i]? =some x->(t5.foldl St.new u).cells (u.next+i)=some x:=λi x h=>Nt h
 generalize t5.foldl St.new u=s at m6 g
 obtain⟨t,bj,bg,e3,gO⟩:=J' (c:=u.next) (tn (zx u.next)) [] s (g 0 rfl) (ny 6 994)
 have iz:∀(i:Nat) {x:cO},t5[i+1]? =some x->t.cells (u.next+(i+1))=some x:=λi x h=>(gO _ (k9 (Nat.lt_add_of_pos_right (Nat.succ_pos i)))).trans (g _ h)
 refine kl bj (q t ⟨b0.mpr ⟨e3,b0.mpr ⟨iz 0 rfl,b0.mpr ⟨iz 1 rfl,b0.mpr ⟨iz 2 rfl,b0.mpr ⟨iz 3 rfl,b0.mpr ⟨iz 4 rfl,b0.mpr ⟨iz 5 rfl,eg _⟩⟩⟩⟩⟩⟩⟩,List.nodup_range' (s:=u.next) (n:=7)⟩ ⟨λd aD _=>(gO d (eL aD)).trans (m6.old d aD iI),by rw[bg];exact m6.next,λd aD=>?_⟩)
 rw[bg] at aD
 exact(gO d (k9 (kI (m6.wf.lt (g 0 rfl)) aD))).trans (m6.wf d aD)
end Internal
namespace Internal
open PySem PySem.W PyProof.Rows PySem.Calls
variable{G:f5}
theorem Qx{σ:St}{c:Nat}{fs:List Fr}{Q:C->St->Prop}(h:σ.cells c=some (.list (fs.map Fr.v)))(q:Q (.int (fs.countP λf=>decide (f=.dy):Nat)) σ):aM (zw [.ref c,Fr.dy.v] σ) Q:=by
 refine iL (show(fU (.ref c) σ).bind (λvs=>(qP Fr.dy.v vs).map λ(m:Nat)=>(C.int (m:Int),σ))=_ from ?_) q
 rw[xi h,oq,JP (g:=.dy) λf _=>PD f];rfl
theorem XD{g:Fr}{fs:List Fr}{c:Nat}{s:St}(az:s.cells c=some (.list (fs.map Fr.v)))(h:∀f∈fs,dm 8 f.v g.v=some (decide (f=g))):oO g.v (.ref c) s=some (decide (g∈fs)):=by
 unfold oO hG hy
 dsimp only
 rw[az]
 dsimp only
 rw[xi az,oq,CM h]
theorem UT:fQ [.eY 0 (kc 9 0),.hN] 8=([.eY 0 (kc 5 0)],[.eY 5 (kc 4 0),.hN]):=by decide
theorem P2{s:St}{p w cL dC:Nat}{dn bl:Bool}{S:dH}{b2:Int}{b:Nat}{N:Int}{hs:jb}{h1:∀e∈hs,e.2.length<=30}{h2:hs.length<=3}{fs:List Fr}{eo fG ef fx e4 eT gS qe jP jQ rz nj lO kC kD kE:Option C}{Q:dp->Loc->St->Prop}
 (h:r2 (lL N hs h1 h2) s p w cL dC dn bl S b2 b)(ai:b<=700000)(ih:Ci hs N fs)(kS:∀D:fZ (lL N hs h1 h2),(∃f∈fs,D.does f)->D.live S)(k6:S.to.countP (λf=>decide (f=.dy))=1)
 (q:∀l u,Q (.ret (.bool true)) l u):
 HU.p [eo,fG,some (eb fs),ef,fx,e4,eT,some (.ref w),gS,qe,jP,jQ,rz,nj,lO,kC,kD,kE] s Q:=by
 obtain⟨⟨c,rfl,hw,aD⟩,pool,wf,bt,dce,bce,ne⟩:=h
 have dx:=bt.zN
 refine tf ?_
 refine fc hw.w2 ?_
 refine Fz hw.fl ?_
 refine lB (src:=.ref c.fl) (enc:=mc) (xs:=S.fl) (A:=HT) (λr l u=>tT λcN nj lO=>l=[eo,fG,some (eb fs),ef,fx,e4,eT,some (.ref c.w),gS,qe,jP,jQ,rz,nj,lO,kC,kD,kE]/\cA u c cN/\cY u/\cN.fl=S.fl/\kh (lL N hs h1 h2) cN/\cN.dq.length+51*r.length<=b+306/\cN.to=S.to/\
  (∀a∈r,(∀f∈a.2,(lL N hs h1 h2).gz f)/\iU a.2<=51)/\∀D:fZ (lL N hs h1 h2),D.live S->D.done cN\/∃a∈r,∃f∈a.2,D.does f) (λr l u h=>by obtain⟨cN,_,_,_,bZ,_,e,_⟩:=h;unfold eD;dsimp only;rw[bZ.fl,e]) ?_ ?_
  ⟨S,_,_,rfl,hw,wf,rfl,bt.came,by have:=bt.lca;exact aE.aa6 dx this,rfl,bt.row,λD ar=>ar⟩
 .rintro a r _ u ⟨cN,rA,o2,rfl,bZ,lq,e,t6,aJ,DP,aL,d⟩
  obtain⟨ha,aL⟩:=b0.mp aL
  rw[gD] at aJ
  have dP:=m8 a.2
  have q7:=s6 a.2
  have L8:=ha.2
  obtain⟨SO,pJ⟩:=t6.kp ha.1
  obtain⟨bj,bg,e3⟩:=sa a.2 cN
  refine⟨_,rfl,?_⟩
  refine(G8 (fs:=a.2) lq bZ (λf hf=>(ha.1 f hf).1) (t6.GS (by exact aE.aa7 dP q7 L8) (by exact aE.aa8 ai aJ))).gs λv ia=>?_
  obtain⟨a',n6⟩:=ia
  refine⟨_,_,_,rfl,a',n6.wf,bj.trans e,SO,by exact aE.aa9 aJ dP q7 L8 pJ,bg.trans DP,aL,λD ar=>?_⟩
  rcases d D ar with x|⟨bD,kT,x⟩
  .exact .inl (D.keeps x)
  .rcases fX.mp kT with rfl|kT
   .exact .inl (D.kp x)
   .exact .inr ⟨bD,kT,x⟩
 .rintro _ u ⟨cN,rA,o2,rfl,bZ,lq,e,t6,aJ,DP,_,d⟩
  have done:∀D:fZ (lL N hs h1 h2),(∃f∈fs,D.does f)->D.done cN:=λD ar=>(d D (kS D ar)).elim id λh=>by obtain⟨_,h,_⟩:=h;cases h
  have q8:=m8 fs
  have Mb:=ih.gB
  refine(P4 (fs:=[.eY 0 (kc 9 0),.hN]) (R:=8) lq (b0.mpr ⟨⟨⟨by decide,by decide⟩,by decide⟩,b0.mpr ⟨trivial,eg _⟩⟩) (by decide)).gs λv LL=>?_
  rw[UT]
  have a':=bZ.hX LL
  have JL:kh (lL N hs h1 h2) (hV ⟨[],[],[],[],[],[]⟩ fs):=(kh.kp ⟨Sane.nil,Sane.nil,λf hf=>absurd hf iI⟩ λf hf=>PL (ih.ok f hf)).1
  have qM:=JW (hs:=hs) (fs:=fs) (S:=⟨[],[],[],[],[],[]⟩) λf hf=>(ih.ok f hf).2.1
  have f1:=Lp rfl t6 λnm d i e ao hi=>done _ (by obtain⟨f,hf,x⟩:=ih.oc nm d e;exact⟨f,hf,x i ao hi⟩)
  have f2:=Lp rfl JL λnm d i e ao hi=>fZ.kp (NV _ nm i) (by obtain⟨f,hf,x⟩:=ih.oc nm d e;exact⟨f,hf,x i ao hi⟩)
  have g1:=Lo rfl t6 λs d e=>done _ (ih.en s d e)
  have g2:=Lo rfl JL λs d e=>fZ.kp (Kn _ s) (ih.en s d e)
  have JK:fs.foldl oF ([],[])=((hV ⟨[],[],[],[],[],[]⟩ fs).oc,(hV ⟨[],[],[],[],[],[]⟩ fs).en):=qM
  refine(ago (fs:=fs) (LL.wf lq) a' (λf hf=>(ih.ok f hf).1) (by exact aE.aa' q8 Mb) (by rw[JK];exact J7 f1 f2) (by rw[JK];exact J7 g1 g2)).gs λt gt=>?_
  have ht:=a'.hX gt
  refine fc ht.Mm ?_
  refine hS (pP ht.to) ?_
  refine Qx ht.to ?_
  refine gN (b:= !(((cN.to.countP λf=>decide (f=.dy):Nat):Int)==1)) (by rw[DP,k6];rfl) ?_
  refine xE ?_
  refine p1 ?_
  refine Gv (fs:=fs) (src:=eb fs) (λP h=>h) rfl (by exact aE.aba q8 Mb) ?_
  rw[ih.YR]
  refine fc ht.Ft ?_
  refine tO (XD (g:=.dN N) ht.dq λf hf=>afp (t6.dq f hf)) ?_
  refine hS (decide_eq_true (done (YQ _) ⟨_,ih.dN,rfl⟩)) ?_
  refine Oy ?_
  refine Gv (fs:=cN.dq) (src:=.ref c.dq) (λP h=>fc ht.Ft h) (by unfold eD;dsimp only;rw[ht.dq]) (by exact aE.abb ai aJ) ?_
  refine Cn (r:=false) ((DN _ _).trans (congrArg some (decide_eq_false λe=>?_))) (q _ _)
  obtain⟨n,a3⟩:=done (YI _) ⟨_,ih.ey,10,rfl⟩
  have m:Fr.ey n∈cN.dq.filter λf=>f.jk==("max_data":aV):=h5.mpr ⟨a3,rfl⟩
  rw[Hq.mp e] at m
  cases m
end Internal
namespace Internal
open PySem PySem.W PyProof.Rows PySem.Calls
theorem agg{rq:St}{p rn:Nat}{eo:Option C}{N:Int}{hs:jb}{h1:∀e∈hs,e.2.length<=30}{h2:hs.length<=3}{fs:List Fr}{Q:dp->Loc->St->Prop}(PH:cY rq)(k4:hF rq p)(ih:Ci hs N fs)(aL:rn<20)(q:∀l u,Q (.ret (.bool true)) l u):
 HV.p [eo,some (.ref p),some (eb fs),some (.int (32+rn:Nat)),some (.int 0),none,none,none,none,none,none,none,none,none,none,none,none,none] rq Q:=by
 refine p1 ?_
 refine Oz (p:=p) (k:=.bA [.str "stop_sending",.int 4]) (v:=.bool true) (f:=t9) rfl (λ_ _ h=>h) (λ_ _ h=>h) rfl rfl rfl PH k4 λdn OV wo JF oP pQ te=>?_
 refine p1 ?_
 refine Oz (p:=p) (k:=.bA [.str "data_blocked",.none]) (v:=.int 9) (f:=t2) rfl (λ_ _ h=>h) (λ_ _ h=>h) rfl rfl rfl pQ.wf te λbl oX zl JH q' n4 AP=>?_
 have d1:wo≠p:=k9 (kI (k4.lt PH) oP)
 have jm:zl≠p:=k9 (kI (te.lt pQ.wf) q')
 have JG:=(n4.old wo (pQ.wf.lt JF) λq=>d1 (gi.mp q)).trans JF
 refine acR n4.wf λOW hw Ai=>?_
 have CO:∀{d x},oX.cells d=some x->OW.cells d=some x:=λe=>(Ai.old _ (n4.wf.lt e) iI).trans e
 have uS:∀d,d<oX.next->d∉(zx oX.next).all:=λd aD q=>by
  have:=(List.mem_range'_1.mp (show d∈List.range' oX.next 7 from q)).1
  exact(aE.Of aD this).elim
 have acF:=AP.keeps (Ai.old _ (AP.lt n4.wf) iI)
 have s7:nJ (lL N hs h1 h2) OW p (zx oX.next) ⟨[],[],[],[],[],[]⟩ 0 0:=⟨hw,acF,⟨⟨ql,eg _,ql,eg _,eg _,⟨Sane.nil,Sane.nil,eg _⟩,bF _,bF _⟩,λ_=>Iff.rfl⟩,Ai.wf⟩
 have hL:32<=32+rn/\32+rn<=51:=⟨rI _ _,by exact aE.abc aL⟩
 refine(P6 (fs:=fs) (uS _ (AP.lt n4.wf)) s7 ih.gB (by decide) (λf hf=>PL (ih.ok f hf)) hL).gs λOX ia=>?_
 obtain⟨zc,xp,sR,Kd,OD⟩:=ia
 have CP:∀{d x},d≠p->oX.cells d=some x->OX.cells d=some x:=λaD e=>(sR.old _ (Ai.wf.lt (CO e)) λq=>by
  rcases fX.mp q with dw|q
  .exact aD dw
  .exact uS _ (n4.wf.lt e) q).trans (CO e)
 have sX:r2 (lL N hs h1 h2) OX p oX.next wo zl dn bl zc 0 (0+51*320):=⟨⟨_,rfl,xp.hw,b0.mpr ⟨uS _ (AP.lt n4.wf),b0.mpr ⟨uS _ (n4.wf.lt JG),b0.mpr ⟨uS _ (n4.wf.lt JH),eg _⟩⟩⟩⟩,xp.pool,xp.wf,xp.bt,CP d1 JG,CP jm JH,⟨d1,jm⟩⟩
 have kS:∀D:fZ (lL N hs h1 h2),(∃f∈fs,D.does f)->D.live zc:=λD ar=>Kd D (.inr ar)
 have k6:zc.to.countP (λf=>decide (f=.dy))=1:=OD.trans ((vy _).trans ih.dy)
 clear Kd OD xp sR CP uS CO
 refine dW (w9 (m:=12) (z:=12) rfl (by decide)) ?_
 refine lB (src:=.gc 0 12 1) (enc:=sh) (xs:=iW 12) (A:=B9) (λr l u=>QP λn cN b2 b gS qe jP jQ rz nj lO=>l=[eo,some (.ref p),some (eb fs),some (.int (32+rn:Nat)),some (.int b2),some (.ref wo),some (.ref zl),some (.ref oX.next),gS,qe,jP,jQ,rz,nj,lO,none,none,none]/\
  r2 (lL N hs h1 h2) u p oX.next wo zl dn bl cN b2 b/\b+17000*r.length<=17000*13/\r=(iW 12).drop n/\(∀D:fZ (lL N hs h1 h2),(∃f∈fs,D.does f)->D.live cN)/\cN.to.countP (λf=>decide (f=.dy))=1) (λ_ _ _ _=>w9 (m:=12) rfl (by decide)) ?_ ?_
  ⟨0,zc,0,_,_,_,_,_,_,_,_,rfl,sX,by decide,rfl,kS,k6⟩
 .rintro i r _ u ⟨n,cN,b2,b,gS,qe,jP,jQ,rz,nj,lO,rfl,sX,ai,dT,kS,k6⟩
  rw[gD] at ai
  have a3:n<(iW 12).length:=by
   refine fy λq=>?_
   rw[Hm q] at dT;cases dT
  rw[By a3] at dT
  obtain⟨_,dT⟩:=rG dT
  rw[show sh i=C.int (i:Int) by show C.int _=_;rw[Int.mul_one,x']]
  refine⟨_,rfl,?_⟩
  refine agv (R:=32+rn) sX (by exact aE.abd ai) hL λv qG Y7 kG PX PY PZ rA o2 fl M8 zC OC EX=>?_
  have Kc:∀D:fZ (lL N hs h1 h2),(∃f∈fs,D.does f)->D.live qG:=λD ar=>zC D (kS D ar)
  rcases EX with rfl|rfl
  .exact⟨n+1,qG,Y7,_,_,_,_,_,_,_,_,rfl,M8,by exact aE.abe ai,dT,Kc,OC.trans k6⟩
  .exact P2 M8 (by exact aE.abf ai) ih Kc (OC.trans k6) q
 .rintro _ u ⟨n,cN,b2,b,gS,qe,jP,jQ,rz,nj,lO,rfl,sX,ai,aL,kS,k6⟩
  rw[iH] at ai
  exact P2 sX (by exact aE.abg ai) ih kS k6 q
theorem agf{l:List Int}(aJ:l.length<=63){σ:St}(w:cY σ):ba (y6 [.bB (l.map C.int)] σ) λv _=>v=.bool true:=by
 refine ado ?_
 refine p1 ?_
 have ia:kz (.bB (l.map C.int)) .none (.int 24)=some (.bB ((l.take 24).map C.int)):=by
  rw[List.map_take];exact if_pos ⟨by decide,by rw[ez];exact aE.abh aJ⟩
 refine kl ia ?_
 refine dW rfl ?_
 refine nN (src:=.bB ((l.take 24).map C.int)) (λaa s=>(∃z,aa=[z])/\s=σ) (λ_=>true) (λi v=>v=C.int i) (λ_ _ _=>rfl) ?_ ⟨⟨_,rfl⟩,rfl⟩ (by rw[iH,qk];exact aE.abi) ?_
 .rintro i _ _ s ⟨⟨z,rfl⟩,hs⟩
  exact⟨_,rfl,rfl,rfl,⟨_,rfl⟩,hs⟩
 rintro cU _ s ha ⟨_,hs⟩
 subst hs
 rw[rH.mpr (λ_ _=>rfl)] at ha
 rw[pf ha]
 have sJ:(l.take 24).length<=24:=by rw[qk];exact aE.abj
 generalize l.take 24=fw at sJ
 refine iL (m:=th [.bB ([]++fw.map C.int)] s) (a:=.int fw.sum) (s:=s) ?_ ?_
 .show((i3 (fw.map C.int)).map λl=>(C.int l.sum,s))=_
  rw[ints_map];rfl
 have acE:hF (s.new (.list (u0 (fw.sum.fmod 2147483647) 0 fw))) s.next:=⟨_,0,fw,jo,⟨vm _ (by decide),vl _ (by decide)⟩,Int.le_refl _,by exact aE.abk sJ⟩
 have aft:cY (s.new (.list (u0 (fw.sum.fmod 2147483647) 0 fw))):=w.new
 refine(agb aft acE).bb ?_
 rintro _ mw ⟨N,eu,cL,rfl,jI,uf,Wl,wN,ky,dK⟩
 obtain⟨h1,h2,ih⟩:=VS jI uf Wl wN
 generalize given N eu cL=fs at ih
 generalize uv eu cL=hs at h1 h2 ih
 refine(x1 dK.wf ky (by decide)).bb ?_
 rintro _ rq ⟨r,rfl,aL,k4,hu⟩
 obtain⟨rn,rfl⟩:=qh aL.1
 exact agg (rn:=rn) (h1:=h1) (h2:=h2) hu.wf k4 ih (by exact aE.abl aL) λl u=>rfl
end Internal
namespace Internal
open PySem PySem.W PyProof.Rows PySem.Calls
theorem all:PySem.Challenge.rw_nz0352_01.Holds:=XW λl aJ=>by
 obtain⟨v,s,e,rfl⟩:=agf aJ (σ:=⟨λ_=>none,0⟩) λ_ _=>rfl
 exact⟨s,e⟩
end Internal
theorem PySem.Challenge.cw_nz0352_01_holds : PySem.Challenge.rw_nz0352_01.Holds :=
 Internal.all
