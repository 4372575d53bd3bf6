import PyProof.Rows.All
import Wide.All
import OpenK.AllK
import Wide.FinOn
import Lean
import PySem.Challenge.RW_sj0056_01
open PySem.Str renaming ofString → aab, empty → abM
open List renaming length_map → aae, length_append → aag, mem_cons_of_mem → aai, mem_cons_self → aak, mem_append → aal, length_cons → aan, lookup_cons → aao, map_cons → aaq, getElem?_eq_some_iff → aar, mem_of_getElem? → aas, mem_cons → aat, getElem?_append_right → aau, append_nil → aav, append_assoc → aax, getElem?_map → aay, map_append → aaA, replicate → aaB, length_singleton → aaF, getElem?_eq_getElem → aaG, mem_map → aaH, nodup_cons → aaK, flatMap_cons → aaL, flatMap_append → aaM, map_map → aaN, nil_append → aaP, nodup_append → aaQ, getElem?_eq_none → aaS, getElem?_append_left → aaV, mem_append_left → aaZ, mem_append_right → aa2, getElem?_of_mem → aa4, mem_map_of_mem → aa7, mem_flatMap → aa8, contains_cons → aa9, mem_filterMap → aba, mem_singleton → abb, length_filter_le → abd, map_congr_left → abe, set_append_right → abf, not_mem_nil → abh, filter_cons_of_neg → abi, filter_cons_of_pos → abj, cons_append → abl, all_cons → abq, getElem?_cons_succ → abr, all_eq_true → abt, length_take → abu, eq_nil_of_length_eq_zero → abw, length → abx, map_inj_left → abz, getElem?_concat_length → abC, filterMap_append → abH, forall_mem_cons → abJ, foldl_cons → abK, mem_filter → abL, filterMap_cons → abO, length_reverse → abP, getElem_mem → abS, nodup_nil → ab5, length_pos_iff → ab9, length_filterMap_le → aca, any_cons → ach, find?_cons → acC, getElem?_cons_zero → acE, zip_cons_cons → acF, filter_congr → acJ, getElem?_inj → acK, length_range → acL, lookup → acM, contains_iff_mem → acR, map_nil → acS, take_append_drop → acT, isEmpty_iff → acX, length_drop → acY, all_append → ada, filter_map → adb
open Option.some renaming inj → aaj, injEq → ab3
open Nat renaming le_of_ble_eq_true → aam, le_refl → aaw, zero_le → aaC, le_trans → aaD, le_add_left → aaI, sub_self → abo, exists_eq_add_of_le' → abv, le_of_succ_le → abA, add_sub_cancel_left → abQ, add_assoc → ab1, le_add_right → ab6, add_comm → acb, le_succ → acN, lt_succ_self → acZ, lt_irrefl → ac4
open Bool renaming and_eq_true_iff → aap, and_eq_true → aaT, and_true → abE, true_and → abN, false_eq_true → abU, false_ne_true → abV, eq_false_iff → ab0, eq_iff_iff → ac8
open PySem.PyData renaming eqv → aaz, keyHash → aaY, eqvAll → abk, int → acd, canLayAll0 → acO, tuple → acV, depthAll → adf, strOk → adl, str → adw
open PySem.Heap renaming get?_push_of_some → aaE, get?_push_size → aaO, get?_update_self → aa1, get?_update_other → aa3, lt_size → abX, get?_none_of_le → ab4, get?_update_ne → ab8
open List.cons renaming inj → aaJ
open PySem.Builtin.Range renaming rangeSize → aaU, small → ab7
open Option renaming isSome_iff_exists → aaX, map_eq_some_iff → abT, bind_some → ac0
open Array renaming getElem?_eq_some_iff → aa0, getElem?_toList → abc
open PySem.Builtin.List renaming listFitsIndex → aa5
open PySem.Builtin.Int renaming intBits → abm
open PySem.Code renaming builtin → abn
open PySem.Value renaming ref → abp, bool → acP, builtin → ac6
open PySem.F renaming plainAttrs_list → aby, slot_list_append → ace, plainAttrs_str → acI, slot_list_pop → acW
open Int renaming toNat → abB
open PySem.MeetsSeq renaming plain_remove_loop → abD
open List.Perm renaming append_left → abF
open PySem.NameKind renaming free → abI, cell → ac3
open PySem renaming mem_of_lookup → abR, stored → abZ, valueAt → acH
open PySem.Data renaming fields → abW, dict → acg
open PySem.Obj renaming putName → abY, mapSeq → ab2, mapFields → ac5
open PySem.W.Fast renaming te5923862056798008813 → acf
open PySem.SeqAt renaming shaped → acG
open PySem.W renaming InstAt → acQ
open PySem PySem.W PyProof.Rows
set_option Elab.async false
set_option linter.all false
set_option maxRecDepth 100000
set_option maxHeartbeats 8000000
set_option backward.match.sparseCases false
set_option genSizeOf false
set_option genInjectivity false
set_option bootstrap.genMatcherCode false
namespace Mine
section
variable{a b c d:Nat}{i j:Int}
theorem o1: ¬(a<b)->b<=a:=by lia
theorem o2:a<=b->c<a->c<b:=by lia
theorem o3:4<=a->9<a+12/\11<a+12/\12<a+12/\13<a+12/\14<a+12/\15<a+12:=by lia
theorem o4:a<=90000->a<=100000:=by lia
theorem o5:a<b->¬((b:Int)<=(a:Int)):=by lia
theorem o6:a<=b->¬(a<b)->min (a+1) b=a:=by lia
theorem o7: ¬(a<b)->(b:Int)<=(a:Int):=by lia
theorem o8:a+5+2*b=a+1+1+1+2*b+2:=by lia
theorem o9:2*a+2+1+1=4+2*a:=by lia
theorem o10:a+(b+2)+(4+2*c)=a+b+6+2*c:=by lia
theorem o11:a+5+2*b=a+1+(4+2*b):=by lia
theorem PY:a<=10->a<=1000:=by lia
theorem o13:i=(a:Int)->0<=i:=by lia
theorem o14:i=-1->¬(0<=i):=by lia
theorem o15:1<=(a:Int)+1:=by lia
theorem o16:abB (-1+((a:Int)+1))=a:=by lia
theorem o17:a<1000->a<=99999:=by lia
theorem o18:a<=a+3:=by lia
theorem o19:a<=a+4:=by lia
theorem o20:a<=b->a<=b+1:=by lia
theorem o21:a+16+(b+1)<=c->a+1+16+b<=c:=by lia
theorem o22:a+16+(b+1)<=c->a+16<c:=by lia
theorem o23:a+(b+1)=a+1+b:=by lia
theorem o24:4+16+a<=a+4+16:=by lia
theorem Qv:a<=20->a<=100:=by lia
theorem o26:a+1+b=a+(b+1):=by lia
theorem o27:a<20->a<=19:=by lia
theorem o28:i=-1\/i=0\/i=1->i+1<=1000:=by lia
theorem o29:a+b<20->a+(b+1)<=20:=by lia
theorem o30:a<20->a<100:=by lia
theorem o31:a<20->b<=a->b<100:=by lia
theorem o32:a+b<20->a+b<100:=by lia
theorem o33:a+(2*b+1+1+1)=a+1+(2*b+2):=by lia
theorem o34:a<20->a<1000:=by lia
theorem o35:a<20->a<100000:=by lia
theorem xw:a<=1000->a<=100000:=by lia
theorem QI:a<=20->a<=100000:=by lia
theorem o38:a+b<=20->a<=20:=by lia
theorem o39:a<=20->b<=a->b<100000:=by lia
theorem o40:0<a->¬((a:Int)<=((0:Nat):Int)):=by lia
theorem o41:a<=a+b:=by lia
theorem o42:a+b-a=b:=by lia
theorem o43:a+1<=100->a<900:=by lia
theorem o44:a<=100->300+a<=400:=by lia
theorem o45:a<=20->201+a<=300:=by lia
theorem o46:a+b<=20->201+a<=300:=by lia
theorem ZK:a<=20->a<=1000:=by lia
theorem ZL:a+16<=a+16+1:=by lia
theorem o49:a+5+1+1=7+a:=by lia
theorem o50:a+(7+b)=a+2+b+5:=by lia
theorem o51:a<=100->a<100000:=by lia
theorem Sz:a<100->a<=99:=by lia
theorem ZM:a<100->a<=900:=by lia
theorem o54:0<=i->¬(i<0):=by lia
theorem o55:abB i<a->¬((a:Int)<=i):=by lia
theorem o56:i<0->¬(0<=i):=by lia
theorem o57: ¬(i<0)->0<=i:=by lia
theorem SA:abB i<a->i<(a:Int):=by lia
theorem o59:a+(b+1)<=100->a<100:=by lia
theorem o60:a+(b+1)<=100->a+1+b<=100:=by lia
theorem o61:a+b<100->a<100:=by lia
theorem o62:a<100->a<=1000:=by lia
theorem o63:a+(b+1)<100->a+1+b<100:=by lia
theorem o64:a+(2*(b+1)+1)=a+1+1+(2*b+1):=by lia
theorem o65:a+b<100->a+(b+1)<=100:=by lia
theorem o66:a+b<100->b+202<=400:=by lia
theorem o67:a+(b+1)<1000->a+1+b<1000:=by lia
theorem o68:a+1+1+2*b=a+2*(b+1):=by lia
theorem o69:a+(b+1)<1000->a<100000:=by lia
theorem o70:a+(2*b+6)=a+4+2*b+2:=by lia
theorem o71:a<900->1+a<1000:=by lia
theorem o72:a<900->a+201<=2000:=by lia
theorem ZN:a<=1000->a+1<=100000:=by lia
theorem o74:a<=10->1+a<1000:=by lia
theorem o75:a<=10->a+201<=400:=by lia
theorem o76:a<=10->b=a+1->b<=100000:=by lia
theorem o77:a<=10->¬(17<((a+1:Nat):Int)):=by lia
theorem o78:((a+1:Nat):Int)-1=(a:Int):=by lia
theorem SD:0<=(a:Int):=by lia
theorem o80:a<=10->(a:Int)<=1000:=by lia
theorem o81:a+b+6+2*c=a+1+b+1+1+1+2*c+2:=by lia
theorem o82:0<i/\i<1000000000->i≠0:=by lia
theorem o83:0<i->i≠0:=by lia
theorem o84:a<90000->a+1<100000:=by lia
theorem o85:a<=90000->a+1<=100000:=by lia
theorem o86:0<=i/\i<65537->i<100000:=by lia
theorem o87:0<((a+1:Nat):Int):=by lia
theorem o88:i<65537->i<100000:=by lia
theorem o89:a+1<=1000->a<=999:=by lia
theorem o90:a<=999->a<=90000:=by lia
theorem o91:a<=999->a+2<=100000:=by lia
theorem o92:((a+2:Nat):Int)≠1:=by lia
theorem o93:a<=999->a+1<90000:=by lia
theorem o94:a<=999->a+1<=1000:=by lia
theorem o95:a<=999->a+1<100000:=by lia
theorem o96:a<=999->a+1<=90000:=by lia
theorem o97:a<=999->a<=1000:=by lia
theorem o98:a<=90000->a<100000:=by lia
theorem o99:a+b<=1000->a+b<=100000:=by lia
theorem US:a+(b+1)<=1000->a+(b+1)<=100000:=by lia
theorem UT:a+(b+1)<=1000->c<=10*a+10->c+2<=100000:=by lia
theorem PV:a+(b+1)<=1000->a+1+b<=1000:=by lia
theorem UU:a<=10*b+10->a+2<=10*(b+1)+10:=by lia
theorem UW:a<=900->a+1<=1000:=by lia
theorem LP:a<=900->a<=1000:=by lia
theorem UX:a<=900->0+a<=1000:=by lia
theorem UY:a<=900->a+201<=2000:=by lia
theorem UZ:a=b+1->0<(a:Int):=by lia
theorem U0:a+b<=1000->(b:Int)<1000000000:=by lia
theorem ju:0<=i->i=(abB i:Int):=by lia
theorem vc:(a:Int)<(b:Int)->a<b:=by lia
theorem U1:a=b+1->a-1=b:=by lia
theorem U2:a=b+1->c+a<=1000->d=b->c+1+d<=1000:=by lia
theorem PX:a+b<=1000->b<=100000:=by lia
theorem U3:a+b<=1000->b<=90000:=by lia
theorem U4:a+b<=1000->a<100000:=by lia
theorem U5:a<=100->0+a<=1000:=by lia
theorem nz:a<=100->a<=100000:=by lia
theorem U6: ¬(a+3<a+2):=by lia
theorem U7:a<=100->a+201<=500:=by lia
theorem U8:a<3->a=0\/a=1\/a=2:=by lia
theorem U9:(a:Int)-0-1+1=(a:Int):=by lia
theorem Va: -100000<=(a:Int):=by lia
theorem Vb:a<=90000->(a:Int)<=100000:=by lia
theorem Vc: -100000<=(a:Int)+(1-1):=by lia
theorem Vd:a<=90000->(a:Int)+(1-1)<=100000:=by lia
theorem Ve:0<a/\a<=8->0<(a:Int)/\(a:Int)<1000000000:=by lia
theorem LQ:(a:Int)<3->a<3:=by lia
theorem Vf:a<3->a<=2:=by lia
theorem Vg:a<16->a<=90000:=by lia
theorem GA:a<=100->a<=99999:=by lia
theorem Vh:a<=3->a=0\/a=1\/a=2\/a=3:=by lia
theorem nA:200<=a+202:=by lia
theorem GB:a<=100->400<=b->a+202+1<=b:=by lia
theorem PZ:a<=100->a<=90000:=by lia
theorem GC:0+a=b->¬(a<b):=by lia
theorem GD:0<a->0<(a:Int):=by lia
theorem Qa:a<=100->(a:Int)<1000000000:=by lia
theorem GF:a+1+b=c->a+(b+1)=c:=by lia
theorem GG:a+1+b=c->b<c:=by lia
theorem Vi:a<=100->b+1+c=a->d=c->d<100000:=by lia
theorem zf:a<=100->a<=1000:=by lia
theorem Vj:a<=10->(a:Int)<1000000000:=by lia
theorem Vk:a<=10->2+a<=100:=by lia
theorem Qb:a<=10->a<=100:=by lia
theorem Qc:a+0=a:=by lia
theorem Vl:a<=10->a<=90000:=by lia
theorem Vm:a<=10->b=a->b<=100000:=by lia
theorem Vn:a<=10->500<=b->a+202+1<=b:=by lia
theorem Qd:a<=10->2*a+1<=30:=by lia
theorem Vo:a=b->b<=10->a+1<=100000:=by lia
theorem Vp:a=b->b<=10->a+1<=99999:=by lia
theorem Vq:a=b->b<=10->1+a<=100000:=by lia
theorem Vr:200<=a+1+202:=by lia
theorem Qe:a<=10->a+1<=100000:=by lia
theorem Vs:500<=a->b<=10->b+1+202+1<=a:=by lia
theorem Qf:a<=30->1+a<=100000:=by lia
theorem Vt:a<=30->a+1+2<=100000:=by lia
theorem Vu:a<=10->2*a+2+1+1<=30:=by lia
theorem Vv:a<=10->1+a<=100000:=by lia
theorem Vw:a<=100->b<=30->a+b<=100000:=by lia
theorem Vx:a<=10->2+a<=100000:=by lia
theorem LR:0<=i->i<2->i=0\/i=1:=by lia
theorem Vy:(a:Int)<3->a<=10:=by lia
theorem Vz:0<a/\a<100->0<(a:Int):=by lia
theorem VA:0<a/\a<100->(a:Int)<1000000000:=by lia
theorem VB:(a:Int)<8->a<8:=by lia
theorem VC: ¬(a+8<8):=by lia
theorem LU:a<=2->a<=90000:=by lia
theorem VD:a<=2->b+1+c=a->(c:Int)=0\/(c:Int)=1:=by lia
theorem VE:0<a->a<=4->a<=6/\0<a:=by lia
theorem VF:a<=4->a+2<=6/\0<a+2:=by lia
theorem VG:a<=6/\0<a->0<(a:Int):=by lia
theorem VH:a<=6/\0<a->(a:Int)<1000000000:=by lia
theorem LV:a<=6/\0<a->a<=1000:=by lia
theorem VI:a+(b+1)<=1000->a<100000:=by lia
theorem VJ:a<=4->a+2<=100000:=by lia
theorem VK:200<=a->a=a-200+200:=by lia
theorem GH:a<=3->a<=90000:=by lia
theorem Qg:a<=3->b+1+c=a->c<3:=by lia
theorem VL:0<=i->i<2->¬(i=0)->i=1:=by lia
theorem Qh:a<=2->(a:Int)-1=-1\/(a:Int)-1=0\/(a:Int)-1=1:=by lia
theorem VM:a+2*(b+1)<=900->c<=2->a+c<=1000:=by lia
theorem LW:a+(b+1)<=900->a+1+b<=900:=by lia
theorem VN:a+2*(b+1)<=900->c<=2->d=c->a+d+2*b<=900:=by lia
theorem VO:a<=2->2+a<=100000:=by lia
theorem VP:a<=2->2+a+1<=100000:=by lia
theorem VQ:a<=2->2+a+1+1<=100000:=by lia
theorem VS:a<=2->2+a+1+1+3<=100000:=by lia
theorem LX:a+(b+1)<=900->a<100000:=by lia
theorem VT:a<=2->a+201<=300:=by lia
theorem VU:a+(b+c)<=10->b<=10:=by lia
theorem VV:a+(b+c)<=16->d<=c->(d:Int)<1000000000:=by lia
theorem VW:a+(b+c)<=16->c<=900:=by lia
theorem Qi:a+(b+c)<=16->d<=c->d<=1000:=by lia
theorem VX:a+b=0->a=0:=by lia
theorem VY:a+b=0->b=0:=by lia
theorem VZ:a+(b+c)<=16->c<=100:=by lia
theorem V0:a+(b+c)<=16->d<=c->d<=100000:=by lia
theorem V1: ¬(0+0=a+1):=by lia
theorem V2:a=b->c=a->c=b:=by lia
theorem V3:a+(b+c)<=16->c<=100000:=by lia
theorem Qj:a+b<=800->a<100000:=by lia
theorem LY:a+900*b<=50000->c<=900->a+c<=100000:=by lia
theorem V4:a+(b+c)<=16->b<=100000:=by lia
theorem V5:a+(b+c)<=16->b<=90000:=by lia
theorem V6:a+1+b=c+1->a+b=c:=by lia
theorem V7:a+b=c->d+1=b->a+1+d=c:=by lia
theorem GI:a<=60000->a<=90000:=by lia
theorem V8:a<=60000->a<=99999:=by lia
theorem V9:a<=60000->b<a->b<=90000:=by lia
theorem Wa:a<=60000->a<=100000:=by lia
theorem Wb:a<=60000->70000<=b->a+202+1<=b:=by lia
theorem Qk:a+1<=b->b=b-1+1:=by lia
theorem Wc:a<=b->b+1<=c+1->a<=c:=by lia
theorem Ql:a+1<=b+1->a<=b:=by lia
theorem Wd:a+1<=900->a<=900:=by lia
theorem We:a+1<=100->2*a+1<=300:=by lia
theorem Wf:a<=300->3+a+2<=400:=by lia
theorem LZ:a<=100->a<=900:=by lia
theorem Wg:a<=300->3+a<=100000:=by lia
theorem Wh:a<=300->3+a+2<=100000:=by lia
theorem Wi:a<=400->a<=90000:=by lia
theorem Wj:a<=50000->a<=90000:=by lia
theorem Qm:a<=a+1+b:=by lia
theorem Qo:a+1+b-a=b+1:=by lia
theorem Qp:a<=a+1+b+c:=by lia
theorem Qq:a+1+b+c-a=b+c+1:=by lia
theorem Wk:a+(b+c+1)=a+1+b+c:=by lia
theorem Wl:a<=2->a=0\/a=1\/a=2:=by lia
theorem Wm:0<=(a:Int)+2:=by lia
theorem Wn:a<=1->b<=c->a+b<=c+1:=by lia
theorem GJ:a<=3->a<=100000:=by lia
theorem Qr:a+b<=3->a<=3:=by lia
theorem Qs:a<=3->a<=900:=by lia
theorem Wo:a<=3->b=a->b<=900:=by lia
theorem Ma:a<=b->b<=100->a<=100000:=by lia
theorem Wq:a<=2->a<=100000:=by lia
theorem Wr:a+b<=100->c<=a->c<=200:=by lia
theorem Ws:a<=200->a<100000:=by lia
theorem Wt:a+1+b+16=a+(b+1)+16:=by lia
theorem Qt:a<=20->a<=99999:=by lia
theorem Wu:a<=20->b<=a->b<=100000:=by lia
theorem Wv:400<=a->b<=20->b+202+1<=a:=by lia
theorem Qu:a<=3->a+201<=900:=by lia
theorem Ww:a<=100->a+1001<=1500:=by lia
theorem Mb:a<=900->a<100000:=by lia
theorem Wx:a<=20->a<=30:=by lia
theorem Wy:a<=8->a<100000:=by lia
theorem Wz:a<=8->a<=100000:=by lia
theorem WB:a<=8->a<=99999:=by lia
theorem WD:a<=8->b<=a->b<=100000:=by lia
theorem WH:400<=a->b<=8->b+202+1<=a:=by lia
theorem WI:a<=8->b+1<=a->b+1<=1000:=by lia
theorem Qw:abB ((a:Int)-1+1)=a:=by lia
theorem Qy:a<=16->a<=100:=by lia
theorem WJ:a<=1000->b<=400->c<=50000->b+c+a+1<=90000:=by lia
theorem Qz:a<=4->a<=10:=by lia
theorem WK:a<b->a<abB ((b:Int)-1+1):=by lia
theorem WL:a=b->a<=c->2<=b->2<=c:=by lia
theorem QA:2<=a->0<a:=by lia
theorem WN:2<=a->0=a-1->False:=by lia
theorem WO:min 40 a<=40:=by lia
theorem QB:a<=40->a<=100000:=by lia
theorem WQ:a<=40->a<=99999:=by lia
theorem QC:a<=63->a<=1000:=by lia
theorem WR:a<=40->400<=b->a+202+1<=b:=by lia
theorem WU:a<=40->a<=900:=by lia
theorem WV:min 40 a+1<=100000:=by lia
theorem WW:min 40 a<=1000:=by lia
theorem WX:a<=3->b<a->b<3:=by lia
theorem WY:a<b->a<b:=by lia
theorem WZ:a<=2*b->c<=2->c+a<=2*(b+1):=by lia
theorem W0:a=b->b<=2*c->c<=3->a<=6:=by lia
theorem W4:a<b->b<=2->(a:Int)=0\/(a:Int)=1:=by lia
theorem W5:a<b->abB (a:Int)<abB ((b:Int)-1+1):=by lia
theorem W6:a<=6->b<=3->c<=3->b+(a+c+1+1)<=16:=by lia
theorem W7:a<=15->a<=16:=by lia
theorem W8:a+b<=10->b<=10:=by lia
theorem W9:4<=i->i≠0:=by lia
theorem Xa:4<=i->i≠2:=by lia
theorem Xb:4<=i->i≠3:=by lia
theorem Xc:a<=16->b+c=a->0+900*(b+c)<=50000:=by lia
theorem Xd:a<=16->b+c=a->0+(b+c)<=800:=by lia
theorem Xe:a<=16->b+c=a->b+c+2001<=2100:=by lia
theorem Xf:20<=29:=by lia
theorem Xg:20<=30:=by lia
theorem Xh:20<=a->a=a-1+1:=by lia
theorem Xi:20<=a+1->1<=a:=by lia
theorem QD:20<=a+1->4<=a:=by lia
theorem Xj:a<=3->b=c->c<=2*a->b<=6:=by lia
theorem Xk:1<=a/\a<b->min a b=0->False:=by lia
theorem Xl:1<=a/\a<b->b-a=0->False:=by lia
theorem Mc:a<=4->a<=1000:=by lia
theorem QE:1<=a/\a<b->b<=4->a<=1000:=by lia
theorem Xm:a<=4->a=b+1+(c+1)->b<=10/\c<=10:=by lia
theorem Xo:a<=3->a+2<=5:=by lia
theorem Xp:a<=3->a+1<=900:=by lia
theorem Xq:(a:Int)<3->1+a<=3:=by lia
theorem Xr:a<=6->(b:Int)<3->a+(1+b)<=900:=by lia
theorem Xs:(a:Int)<3->b=1+a->b<=3:=by lia
theorem Xu:a<=6->a<=1000:=by lia
theorem Xv:(a:Int)<3->1+a<=90000:=by lia
theorem Xw:(a:Int)<3->1+a+201<=300:=by lia
theorem Xx:a<=5->a<=100:=by lia
theorem Xy:a<=6->(b:Int)<3->c=1+b->a+c<=100:=by lia
theorem Xz:a<=6->a<=100:=by lia
theorem XA:(a:Int)<3->2+a<=1000:=by lia
theorem XB:(a:Int)<3->min (2+a) 4=2+a:=by lia
theorem XD:(a:Int)<3->b=2+a->b<=100:=by lia
theorem QF:a=2+b->2<=a:=by lia
theorem XE:(a:Int)<3->b=2+a->b<=4:=by lia
theorem XG:a=2+b->0<(a:Int)-1:=by lia
theorem XH:(a:Int)<3->b=2+a->(b:Int)-1<1000000000:=by lia
theorem XI:(a:Int)<2->2+a<=3:=by lia
theorem QG:(a:Int)<2->0+(2+a)<=900:=by lia
theorem XJ:(a:Int)<2->0+2*(2+a)<=900:=by lia
theorem XK:(a:Int)<3->b=2+a->b<=1000:=by lia
theorem XM:(a:Int)<2->2+a<=90000:=by lia
theorem XN:(a:Int)<2->2+a+1001<=1100:=by lia
theorem XO:1<=1+a:=by lia
theorem XQ:(a:Int)<(b:Int)-1->1+a<b:=by lia
theorem XR:(a:Int)<2->b=2+a->b<=3:=by lia
theorem QH:a<=1000->(a:Int)<=1000:=by lia
theorem XS:a<=1000->min a b<=100000:=by lia
theorem XT:a<=1000->a-b<=100000:=by lia
theorem XU:a<=10->a+1<=100:=by lia
theorem XW:a<=10->a<=900:=by lia
theorem XY:a<=30->1+a+1<=100000:=by lia
theorem XZ:a+b<=c->c=c-b+b:=by lia
theorem X6:a<=b->b+c<=d+c->d+c=d+c-a+a:=by lia
theorem X7:a+b<=c+b->a<=c:=by lia
theorem X8:a<=b->b=b-a+a:=by lia
theorem X9:4<=i->j<=3->i≠j:=by lia
theorem Yb:0<=i/\i<8->4<=i->i=4\/i=5\/i=6\/i=7:=by lia
theorem Yc:2+a+b+1=2+a+(b+1):=by lia
theorem Yd:2+a+b+1=2+(a+1)+b:=by lia
theorem Ye:a<=4->a<=100000:=by lia
theorem Yg:a<=4->a<=99999:=by lia
theorem Yh:a<=4->b<=a->b<=100000:=by lia
theorem Yi:400<=a->b<=4->b+202+1<=a:=by lia
theorem Yj:a+(b+1)<=100->a<=1000:=by lia
theorem Yk:a<=900->a+1<=90000:=by lia
theorem Yl:a+(b+1)<=100->c<=100->d=2+a+c->d<=900:=by lia
theorem Ym:a<=20->b<=20->c=2+b+a->c<=900:=by lia
theorem Yn:a<=20->a<100000:=by lia
theorem Yo:a<=900->a<=90000:=by lia
theorem Yp:a<=900->a=b+1->b<=900:=by lia
theorem Yq:a+b<20->b+1<=100:=by lia
theorem Yr:a+b<20->a+(b+1)<=100:=by lia
theorem Ys:a+b<20->b+1+1001<=1101:=by lia
theorem Yt:a+(b+1)<=16->a<=16:=by lia
theorem Yu:a<=16->a<20:=by lia
theorem Yv:a+(b+c)<=10->b=d+1->a+(d+1)<=10:=by lia
theorem Yw:a+(b+1)<=10->a+b<20:=by lia
theorem Yx:a+(b+1)<=16->a<=15:=by lia
theorem Yy:abB i=abB j->i=0\/i=1->j=0\/j=1->i=j:=by lia
theorem Yz:a<=15->a<20:=by lia
theorem YA:a<=10->a+1<=20:=by lia
theorem YB:50<=a+(50+2):=by lia
theorem YC:100<=a->b<=20->b+(50+2)+1<=a:=by lia
theorem YD:a<=100->b<=a->b<=100000:=by lia
theorem YE:a<=2->b<=2->a+(b+3+1)<=898:=by lia
theorem YF:a+1<=10->2*a+1+1+1<=900:=by lia
theorem YG:a<=10->b<=20->b+(2*a+2+1+1)<=900:=by lia
theorem YH:a<=900->b+900*(c+1)<=50000->b+a+900*c<=50000:=by lia
theorem YI:a+(b+1)<=800->c<=1->a+c+b<=800:=by lia
theorem YJ:a+1<=b->a<=c+b:=by lia
theorem YK:a+1<=b->a+1<=c+b:=by lia
theorem QJ:a<a+(b+1):=by lia
theorem QK:a<=99999->b<=c->c<a->b<100000:=by lia
theorem QL:a+1<=b+(a+2):=by lia
theorem YL:a<=b->a<=c+b:=by lia
theorem YM:a<=1000->b<=a+1->b<=16777216+1:=by lia
theorem YN:(a:Int)<i->¬((a:Int)>=i):=by lia
theorem YO: ¬(a<abB i)->i-(a:Int)<=0:=by lia
theorem YQ:a<abB i->0<i-(a:Int):=by lia
theorem YR:i-(a:Int)-1=i-((a+1:Nat):Int):=by lia
theorem YS:a-b=0->b<=a->b=a:=by lia
theorem YT:a<=b->c<=a->c<=b+1:=by lia
theorem YU:a<b->c<=a->c<b:=by lia
theorem YV:a-b=c+1->b<a:=by lia
theorem YW:a-b=c+1->a-(b+1)=c:=by lia
theorem YX:a-b=c+1->b+1<=a:=by lia
theorem YY:a+1<=b->a<=b:=by lia
theorem YZ:a<=29->b+64<c->b+1+min a d<c:=by lia
theorem Y0:100000<=16777216:=by lia
theorem nB:a<=100000->a<=16777216:=by lia
theorem Y1:a<1000000000->a<1073741824:=by lia
theorem Y2:0<=i->(abB i:Int)=i:=by lia
theorem QM:a+b<=100000->a+b<=16777216:=by lia
theorem QN:a<100000->a<=16777216:=by lia
theorem Y3:a+b<=100000->¬(a+b>16777216):=by lia
theorem Y4:a<60->a<1920:=by lia
theorem Y5:a<=15->b=a->b<=15:=by lia
theorem Y6:a<=29->a<30:=by lia
theorem Y7:a<=b->c+4*b+20<=d->c+4*a+20<=d:=by lia
theorem Y8:a<=b->c+60*b+400<=d->c+60*a+400<=d:=by lia
theorem Y9:a<=b->a+1<=b+1/\a+1<=b+1:=by lia
theorem Za:a<=30->a<=64:=by lia
theorem Zb:a+60*b+400<=c->a+64<c:=by lia
theorem QO:a+64<b->c<=29->a+1+min c d<b:=by lia
theorem Zc:a<=1->1+3*a<=60:=by lia
theorem Zd:a<=4->b+4*(c+1)+20<=d->b+a+4*c+20<=d:=by lia
theorem Ze:a<=60->b+60*(c+1)+400<=d->b+a+60*c+400<=d:=by lia
theorem Zf:a+1=a->False:=by lia
theorem Zg:a<min b c->a<b:=by lia
theorem Zh:a<=60->b=64->¬(a>b):=by lia
theorem Zi:a<=60->(a:Int)<=60:=by lia
theorem Zj:(0:Int)<=60:=by lia
theorem Zk:i<=60*1000->i<=134217728:=by lia
theorem Zl:i<=1000->a<=60->(a:Int)+i<=134217728:=by lia
theorem Zm:i≠0/\a<1000000000->a<1073741824:=by lia
theorem Zn:a<=10/\-10<=i/\i<=1000->b=a->b<=10:=by lia
theorem Zo:a<=10/\-10<=i/\i<=1000->abB i<=1000:=by lia
theorem Zp:a=b->c=d->b+d<=100000->a+c<=16777216:=by lia
theorem QP:a<=0->a=0:=by lia
theorem QQ:a<=b+1->¬(a<=b)->a=b+1:=by lia
theorem Zq:a+4*(b+1)+20<=c->a<c:=by lia
theorem Zr:a+4*(b+1)+20<=c->a+1+4*b+20<=c:=by lia
theorem Zs:a+60*(b+1)+400<=c->a+3+60*b+400<=c:=by lia
theorem QR:a<=b+c/\b<=a->a=b+(c-(b+c-a)):=by lia
theorem Zt:1<=a+2:=by lia
theorem Zu:a+1<=a+2:=by lia
theorem Zv:3<=3*(a+1):=by lia
theorem Zw:3*a+3<=3*(a+1):=by lia
theorem QS:3<=16777216:=by lia
theorem Zx:1<=900:=by lia
theorem Zy:2<=900:=by lia
theorem Zz:a<=4+a-4:=by lia
theorem ZA:4<=4+a/\4<=4:=by lia
theorem ZC:a<=1->0+1+1+1<=a+1+1+(0+1)/\a+1+1<=0+1+1+1:=by lia
theorem ZD:a<=6->b<=a->b<7:=by lia
theorem ZE: ¬(((63:Nat):Int)<(a:Int))->a<=63:=by lia
theorem QT:a+64<b->a<b:=by lia
theorem ZF:i<0/\-(a:Int)<=i->0<=i+(a:Int):=by lia
theorem ZG:i<0/\-(a:Int)<=i->i+(a:Int)<(a:Int):=by lia
theorem ZH:0<=i/\i<=100000->-9223372036854775808<=i/\i<9223372036854775808:=by lia
theorem QU:0<=i/\i<=1000->i=(abB i:Int):=by lia
theorem ZI:a<=100000/\0<=i/\i<(a:Int)->b=a->abB i<b:=by lia
theorem ZJ:a<=900->b=a->b<=16777216:=by lia
end
end Mine
namespace Mine
theorem aO{P0 P1:Prop}{G:Prop}(h:P0/\P1)(k:P0->P1->G):G:=k h.1 h.2
theorem aj.{u0}{α0:Sort u0}{P0:α0->Prop}{G:Prop}(h: ∃x0,P0 x0)(k: ∀x0,P0 x0->G):G:=h.elim λx0 h=>k x0 h
theorem bM{P0 P1 P2:Prop}{G:Prop}(h:P0/\P1/\P2)(k:P0->P1->P2->G):G:=k h.1 h.2.1 h.2.2
theorem ao.{u0}{α0:Sort u0}{P0 P1:α0->Prop}{G:Prop}(h: ∃x0,P0 x0/\P1 x0)(k: ∀x0,P0 x0->P1 x0->G):G:=h.elim λx0 h=>k x0 h.1 h.2
theorem eJ.{u0,u1}{α0:Sort u0}{α1:Sort u1}{P0:α0->α1->Prop}{G:Prop}(h: ∃x0 x1,P0 x0 x1)(k: ∀x0 x1,P0 x0 x1->G):G:=h.elim λx0 h=>h.elim λx1 h=>k x0 x1 h
theorem jj{P0 P1 P2 P3:Prop}{G:Prop}(h:P0/\P1/\P2/\P3)(k:P0->P1->P2->P3->G):G:=k h.1 h.2.1 h.2.2.1 h.2.2.2
theorem eI.{u0}{α0:Sort u0}{P0 P1 P2:α0->Prop}{G:Prop}(h: ∃x0,P0 x0/\P1 x0/\P2 x0)(k: ∀x0,P0 x0->P1 x0->P2 x0->G):G:=h.elim λx0 h=>k x0 h.1 h.2.1 h.2.2
theorem cc.{u0,u1}{α0:Sort u0}{α1:Sort u1}{P0 P1:α0->α1->Prop}{G:Prop}(h: ∃x0 x1,P0 x0 x1/\P1 x0 x1)(k: ∀x0 x1,P0 x0 x1->P1 x0 x1->G):G:=h.elim λx0 h=>h.elim λx1 h=>k x0 x1 h.1 h.2
theorem To.{u0,u1,u2}{α0:Sort u0}{α1:Sort u1}{α2:Sort u2}{P0:α0->α1->α2->Prop}{G:Prop}(h: ∃x0 x1 x2,P0 x0 x1 x2)(k: ∀x0 x1 x2,P0 x0 x1 x2->G):G:=h.elim λx0 h=>h.elim λx1 h=>h.elim λx2 h=>k x0 x1 x2 h
theorem aci{P0 P1 P2 P3 P4:Prop}{G:Prop}(h:P0/\P1/\P2/\P3/\P4)(k:P0->P1->P2->P3->P4->G):G:=k h.1 h.2.1 h.2.2.1 h.2.2.2.1 h.2.2.2.2
theorem nh.{u0}{α0:Sort u0}{P0 P1 P2 P3:α0->Prop}{G:Prop}(h: ∃x0,P0 x0/\P1 x0/\P2 x0/\P3 x0)(k: ∀x0,P0 x0->P1 x0->P2 x0->P3 x0->G):G:=h.elim λx0 h=>k x0 h.1 h.2.1 h.2.2.1 h.2.2.2
theorem cj.{u0,u1}{α0:Sort u0}{α1:Sort u1}{P0 P1 P2:α0->α1->Prop}{G:Prop}(h: ∃x0 x1,P0 x0 x1/\P1 x0 x1/\P2 x0 x1)(k: ∀x0 x1,P0 x0 x1->P1 x0 x1->P2 x0 x1->G):G:=h.elim λx0 h=>h.elim λx1 h=>k x0 x1 h.1 h.2.1 h.2.2
theorem gF.{u0,u1,u2}{α0:Sort u0}{α1:Sort u1}{α2:Sort u2}{P0 P1:α0->α1->α2->Prop}{G:Prop}(h: ∃x0 x1 x2,P0 x0 x1 x2/\P1 x0 x1 x2)(k: ∀x0 x1 x2,P0 x0 x1 x2->P1 x0 x1 x2->G):G:=h.elim λx0 h=>h.elim λx1 h=>h.elim λx2 h=>k x0 x1 x2 h.1 h.2
theorem Tp.{u0,u1,u2,u3}{α0:Sort u0}{α1:Sort u1}{α2:Sort u2}{α3:Sort u3}{P0:α0->α1->α2->α3->Prop}{G:Prop}(h: ∃x0 x1 x2 x3,P0 x0 x1 x2 x3)(k: ∀x0 x1 x2 x3,P0 x0 x1 x2 x3->G):G:=h.elim λx0 h=>h.elim λx1 h=>h.elim λx2 h=>h.elim λx3 h=>k x0 x1 x2 x3 h
theorem Tn{P0 P1 P2 P3 P4 P5:Prop}{G:Prop}(h:P0/\P1/\P2/\P3/\P4/\P5)(k:P0->P1->P2->P3->P4->P5->G):G:=k h.1 h.2.1 h.2.2.1 h.2.2.2.1 h.2.2.2.2.1 h.2.2.2.2.2
theorem acn.{u0}{α0:Sort u0}{P0 P1 P2 P3 P4:α0->Prop}{G:Prop}(h: ∃x0,P0 x0/\P1 x0/\P2 x0/\P3 x0/\P4 x0)(k: ∀x0,P0 x0->P1 x0->P2 x0->P3 x0->P4 x0->G):G:=h.elim λx0 h=>k x0 h.1 h.2.1 h.2.2.1 h.2.2.2.1 h.2.2.2.2
theorem km.{u0,u1}{α0:Sort u0}{α1:Sort u1}{P0 P1 P2 P3:α0->α1->Prop}{G:Prop}(h: ∃x0 x1,P0 x0 x1/\P1 x0 x1/\P2 x0 x1/\P3 x0 x1)(k: ∀x0 x1,P0 x0 x1->P1 x0 x1->P2 x0 x1->P3 x0 x1->G):G:=h.elim λx0 h=>h.elim λx1 h=>k x0 x1 h.1 h.2.1 h.2.2.1 h.2.2.2
theorem rD.{u0,u1,u2}{α0:Sort u0}{α1:Sort u1}{α2:Sort u2}{P0 P1 P2:α0->α1->α2->Prop}{G:Prop}(h: ∃x0 x1 x2,P0 x0 x1 x2/\P1 x0 x1 x2/\P2 x0 x1 x2)(k: ∀x0 x1 x2,P0 x0 x1 x2->P1 x0 x1 x2->P2 x0 x1 x2->G):G:=h.elim λx0 h=>h.elim λx1 h=>h.elim λx2 h=>k x0 x1 x2 h.1 h.2.1 h.2.2
theorem yC.{u0,u1,u2,u3}{α0:Sort u0}{α1:Sort u1}{α2:Sort u2}{α3:Sort u3}{P0 P1:α0->α1->α2->α3->Prop}{G:Prop}(h: ∃x0 x1 x2 x3,P0 x0 x1 x2 x3/\P1 x0 x1 x2 x3)(k: ∀x0 x1 x2 x3,P0 x0 x1 x2 x3->P1 x0 x1 x2 x3->G):G:=h.elim λx0 h=>h.elim λx1 h=>h.elim λx2 h=>h.elim λx3 h=>k x0 x1 x2 x3 h.1 h.2
theorem AZ.{u0,u1,u2,u3,u4}{α0:Sort u0}{α1:Sort u1}{α2:Sort u2}{α3:Sort u3}{α4:Sort u4}{P0:α0->α1->α2->α3->α4->Prop}{G:Prop}(h: ∃x0 x1 x2 x3 x4,P0 x0 x1 x2 x3 x4)(k: ∀x0 x1 x2 x3 x4,P0 x0 x1 x2 x3 x4->G):G:=h.elim λx0 h=>h.elim λx1 h=>h.elim λx2 h=>h.elim λx3 h=>h.elim λx4 h=>k x0 x1 x2 x3 x4 h
theorem acj{P0 P1 P2 P3 P4 P5 P6:Prop}{G:Prop}(h:P0/\P1/\P2/\P3/\P4/\P5/\P6)(k:P0->P1->P2->P3->P4->P5->P6->G):G:=k h.1 h.2.1 h.2.2.1 h.2.2.2.1 h.2.2.2.2.1 h.2.2.2.2.2.1 h.2.2.2.2.2.2
theorem aco.{u0}{α0:Sort u0}{P0 P1 P2 P3 P4 P5:α0->Prop}{G:Prop}(h: ∃x0,P0 x0/\P1 x0/\P2 x0/\P3 x0/\P4 x0/\P5 x0)(k: ∀x0,P0 x0->P1 x0->P2 x0->P3 x0->P4 x0->P5 x0->G):G:=h.elim λx0 h=>k x0 h.1 h.2.1 h.2.2.1 h.2.2.2.1 h.2.2.2.2.1 h.2.2.2.2.2
theorem Fi.{u0,u1}{α0:Sort u0}{α1:Sort u1}{P0 P1 P2 P3 P4:α0->α1->Prop}{G:Prop}(h: ∃x0 x1,P0 x0 x1/\P1 x0 x1/\P2 x0 x1/\P3 x0 x1/\P4 x0 x1)(k: ∀x0 x1,P0 x0 x1->P1 x0 x1->P2 x0 x1->P3 x0 x1->P4 x0 x1->G):G:=h.elim λx0 h=>h.elim λx1 h=>k x0 x1 h.1 h.2.1 h.2.2.1 h.2.2.2.1 h.2.2.2.2
theorem rF.{u0,u1,u2}{α0:Sort u0}{α1:Sort u1}{α2:Sort u2}{P0 P1 P2 P3:α0->α1->α2->Prop}{G:Prop}(h: ∃x0 x1 x2,P0 x0 x1 x2/\P1 x0 x1 x2/\P2 x0 x1 x2/\P3 x0 x1 x2)(k: ∀x0 x1 x2,P0 x0 x1 x2->P1 x0 x1 x2->P2 x0 x1 x2->P3 x0 x1 x2->G):G:=h.elim λx0 h=>h.elim λx1 h=>h.elim λx2 h=>k x0 x1 x2 h.1 h.2.1 h.2.2.1 h.2.2.2
theorem AY.{u0,u1,u2,u3}{α0:Sort u0}{α1:Sort u1}{α2:Sort u2}{α3:Sort u3}{P0 P1 P2:α0->α1->α2->α3->Prop}{G:Prop}(h: ∃x0 x1 x2 x3,P0 x0 x1 x2 x3/\P1 x0 x1 x2 x3/\P2 x0 x1 x2 x3)(k: ∀x0 x1 x2 x3,P0 x0 x1 x2 x3->P1 x0 x1 x2 x3->P2 x0 x1 x2 x3->G):G:=h.elim λx0 h=>h.elim λx1 h=>h.elim λx2 h=>h.elim λx3 h=>k x0 x1 x2 x3 h.1 h.2.1 h.2.2
theorem acw.{u0,u1,u2,u3,u4}{α0:Sort u0}{α1:Sort u1}{α2:Sort u2}{α3:Sort u3}{α4:Sort u4}{P0 P1:α0->α1->α2->α3->α4->Prop}{G:Prop}(h: ∃x0 x1 x2 x3 x4,P0 x0 x1 x2 x3 x4/\P1 x0 x1 x2 x3 x4)(k: ∀x0 x1 x2 x3 x4,P0 x0 x1 x2 x3 x4->P1 x0 x1 x2 x3 x4->G):G:=h.elim λx0 h=>h.elim λx1 h=>h.elim λx2 h=>h.elim λx3 h=>h.elim λx4 h=>k x0 x1 x2 x3 x4 h.1 h.2
theorem Tr.{u0,u1,u2,u3,u4,u5}{α0:Sort u0}{α1:Sort u1}{α2:Sort u2}{α3:Sort u3}{α4:Sort u4}{α5:Sort u5}{P0:α0->α1->α2->α3->α4->α5->Prop}{G:Prop}(h: ∃x0 x1 x2 x3 x4 x5,P0 x0 x1 x2 x3 x4 x5)(k: ∀x0 x1 x2 x3 x4 x5,P0 x0 x1 x2 x3 x4 x5->G):G:=h.elim λx0 h=>h.elim λx1 h=>h.elim λx2 h=>h.elim λx3 h=>h.elim λx4 h=>h.elim λx5 h=>k x0 x1 x2 x3 x4 x5 h
theorem ack{P0 P1 P2 P3 P4 P5 P6 P7:Prop}{G:Prop}(h:P0/\P1/\P2/\P3/\P4/\P5/\P6/\P7)(k:P0->P1->P2->P3->P4->P5->P6->P7->G):G:=k h.1 h.2.1 h.2.2.1 h.2.2.2.1 h.2.2.2.2.1 h.2.2.2.2.2.1 h.2.2.2.2.2.2.1 h.2.2.2.2.2.2.2
theorem acp.{u0}{α0:Sort u0}{P0 P1 P2 P3 P4 P5 P6:α0->Prop}{G:Prop}(h: ∃x0,P0 x0/\P1 x0/\P2 x0/\P3 x0/\P4 x0/\P5 x0/\P6 x0)(k: ∀x0,P0 x0->P1 x0->P2 x0->P3 x0->P4 x0->P5 x0->P6 x0->G):G:=h.elim λx0 h=>k x0 h.1 h.2.1 h.2.2.1 h.2.2.2.1 h.2.2.2.2.1 h.2.2.2.2.2.1 h.2.2.2.2.2.2
theorem acr.{u0,u1}{α0:Sort u0}{α1:Sort u1}{P0 P1 P2 P3 P4 P5:α0->α1->Prop}{G:Prop}(h: ∃x0 x1,P0 x0 x1/\P1 x0 x1/\P2 x0 x1/\P3 x0 x1/\P4 x0 x1/\P5 x0 x1)(k: ∀x0 x1,P0 x0 x1->P1 x0 x1->P2 x0 x1->P3 x0 x1->P4 x0 x1->P5 x0 x1->G):G:=h.elim λx0 h=>h.elim λx1 h=>k x0 x1 h.1 h.2.1 h.2.2.1 h.2.2.2.1 h.2.2.2.2.1 h.2.2.2.2.2
theorem acu.{u0,u1,u2}{α0:Sort u0}{α1:Sort u1}{α2:Sort u2}{P0 P1 P2 P3 P4:α0->α1->α2->Prop}{G:Prop}(h: ∃x0 x1 x2,P0 x0 x1 x2/\P1 x0 x1 x2/\P2 x0 x1 x2/\P3 x0 x1 x2/\P4 x0 x1 x2)(k: ∀x0 x1 x2,P0 x0 x1 x2->P1 x0 x1 x2->P2 x0 x1 x2->P3 x0 x1 x2->P4 x0 x1 x2->G):G:=h.elim λx0 h=>h.elim λx1 h=>h.elim λx2 h=>k x0 x1 x2 h.1 h.2.1 h.2.2.1 h.2.2.2.1 h.2.2.2.2
theorem acv.{u0,u1,u2,u3}{α0:Sort u0}{α1:Sort u1}{α2:Sort u2}{α3:Sort u3}{P0 P1 P2 P3:α0->α1->α2->α3->Prop}{G:Prop}(h: ∃x0 x1 x2 x3,P0 x0 x1 x2 x3/\P1 x0 x1 x2 x3/\P2 x0 x1 x2 x3/\P3 x0 x1 x2 x3)(k: ∀x0 x1 x2 x3,P0 x0 x1 x2 x3->P1 x0 x1 x2 x3->P2 x0 x1 x2 x3->P3 x0 x1 x2 x3->G):G:=h.elim λx0 h=>h.elim λx1 h=>h.elim λx2 h=>h.elim λx3 h=>k x0 x1 x2 x3 h.1 h.2.1 h.2.2.1 h.2.2.2
theorem acx.{u0,u1,u2,u3,u4}{α0:Sort u0}{α1:Sort u1}{α2:Sort u2}{α3:Sort u3}{α4:Sort u4}{P0 P1 P2:α0->α1->α2->α3->α4->Prop}{G:Prop}(h: ∃x0 x1 x2 x3 x4,P0 x0 x1 x2 x3 x4/\P1 x0 x1 x2 x3 x4/\P2 x0 x1 x2 x3 x4)(k: ∀x0 x1 x2 x3 x4,P0 x0 x1 x2 x3 x4->P1 x0 x1 x2 x3 x4->P2 x0 x1 x2 x3 x4->G):G:=h.elim λx0 h=>h.elim λx1 h=>h.elim λx2 h=>h.elim λx3 h=>h.elim λx4 h=>k x0 x1 x2 x3 x4 h.1 h.2.1 h.2.2
theorem acz.{u0,u1,u2,u3,u4,u5}{α0:Sort u0}{α1:Sort u1}{α2:Sort u2}{α3:Sort u3}{α4:Sort u4}{α5:Sort u5}{P0 P1:α0->α1->α2->α3->α4->α5->Prop}{G:Prop}(h: ∃x0 x1 x2 x3 x4 x5,P0 x0 x1 x2 x3 x4 x5/\P1 x0 x1 x2 x3 x4 x5)(k: ∀x0 x1 x2 x3 x4 x5,P0 x0 x1 x2 x3 x4 x5->P1 x0 x1 x2 x3 x4 x5->G):G:=h.elim λx0 h=>h.elim λx1 h=>h.elim λx2 h=>h.elim λx3 h=>h.elim λx4 h=>h.elim λx5 h=>k x0 x1 x2 x3 x4 x5 h.1 h.2
theorem Ts.{u0,u1,u2,u3,u4,u5,u6}{α0:Sort u0}{α1:Sort u1}{α2:Sort u2}{α3:Sort u3}{α4:Sort u4}{α5:Sort u5}{α6:Sort u6}{P0:α0->α1->α2->α3->α4->α5->α6->Prop}{G:Prop}(h: ∃x0 x1 x2 x3 x4 x5 x6,P0 x0 x1 x2 x3 x4 x5 x6)(k: ∀x0 x1 x2 x3 x4 x5 x6,P0 x0 x1 x2 x3 x4 x5 x6->G):G:=h.elim λx0 h=>h.elim λx1 h=>h.elim λx2 h=>h.elim λx3 h=>h.elim λx4 h=>h.elim λx5 h=>h.elim λx6 h=>k x0 x1 x2 x3 x4 x5 x6 h
theorem acm{P0 P1 P2 P3 P4 P5 P6 P7 P8:Prop}{G:Prop}(h:P0/\P1/\P2/\P3/\P4/\P5/\P6/\P7/\P8)(k:P0->P1->P2->P3->P4->P5->P6->P7->P8->G):G:=k h.1 h.2.1 h.2.2.1 h.2.2.2.1 h.2.2.2.2.1 h.2.2.2.2.2.1 h.2.2.2.2.2.2.1 h.2.2.2.2.2.2.2.1 h.2.2.2.2.2.2.2.2
theorem acq.{u0}{α0:Sort u0}{P0 P1 P2 P3 P4 P5 P6 P7:α0->Prop}{G:Prop}(h: ∃x0,P0 x0/\P1 x0/\P2 x0/\P3 x0/\P4 x0/\P5 x0/\P6 x0/\P7 x0)(k: ∀x0,P0 x0->P1 x0->P2 x0->P3 x0->P4 x0->P5 x0->P6 x0->P7 x0->G):G:=h.elim λx0 h=>k x0 h.1 h.2.1 h.2.2.1 h.2.2.2.1 h.2.2.2.2.1 h.2.2.2.2.2.1 h.2.2.2.2.2.2.1 h.2.2.2.2.2.2.2
theorem acs.{u0,u1}{α0:Sort u0}{α1:Sort u1}{P0 P1 P2 P3 P4 P5 P6:α0->α1->Prop}{G:Prop}(h: ∃x0 x1,P0 x0 x1/\P1 x0 x1/\P2 x0 x1/\P3 x0 x1/\P4 x0 x1/\P5 x0 x1/\P6 x0 x1)(k: ∀x0 x1,P0 x0 x1->P1 x0 x1->P2 x0 x1->P3 x0 x1->P4 x0 x1->P5 x0 x1->P6 x0 x1->G):G:=h.elim λx0 h=>h.elim λx1 h=>k x0 x1 h.1 h.2.1 h.2.2.1 h.2.2.2.1 h.2.2.2.2.1 h.2.2.2.2.2.1 h.2.2.2.2.2.2
theorem Fj.{u0,u1,u2}{α0:Sort u0}{α1:Sort u1}{α2:Sort u2}{P0 P1 P2 P3 P4 P5:α0->α1->α2->Prop}{G:Prop}(h: ∃x0 x1 x2,P0 x0 x1 x2/\P1 x0 x1 x2/\P2 x0 x1 x2/\P3 x0 x1 x2/\P4 x0 x1 x2/\P5 x0 x1 x2)(k: ∀x0 x1 x2,P0 x0 x1 x2->P1 x0 x1 x2->P2 x0 x1 x2->P3 x0 x1 x2->P4 x0 x1 x2->P5 x0 x1 x2->G):G:=h.elim λx0 h=>h.elim λx1 h=>h.elim λx2 h=>k x0 x1 x2 h.1 h.2.1 h.2.2.1 h.2.2.2.1 h.2.2.2.2.1 h.2.2.2.2.2
theorem Tq.{u0,u1,u2,u3}{α0:Sort u0}{α1:Sort u1}{α2:Sort u2}{α3:Sort u3}{P0 P1 P2 P3 P4:α0->α1->α2->α3->Prop}{G:Prop}(h: ∃x0 x1 x2 x3,P0 x0 x1 x2 x3/\P1 x0 x1 x2 x3/\P2 x0 x1 x2 x3/\P3 x0 x1 x2 x3/\P4 x0 x1 x2 x3)(k: ∀x0 x1 x2 x3,P0 x0 x1 x2 x3->P1 x0 x1 x2 x3->P2 x0 x1 x2 x3->P3 x0 x1 x2 x3->P4 x0 x1 x2 x3->G):G:=h.elim λx0 h=>h.elim λx1 h=>h.elim λx2 h=>h.elim λx3 h=>k x0 x1 x2 x3 h.1 h.2.1 h.2.2.1 h.2.2.2.1 h.2.2.2.2
theorem acy.{u0,u1,u2,u3,u4}{α0:Sort u0}{α1:Sort u1}{α2:Sort u2}{α3:Sort u3}{α4:Sort u4}{P0 P1 P2 P3:α0->α1->α2->α3->α4->Prop}{G:Prop}(h: ∃x0 x1 x2 x3 x4,P0 x0 x1 x2 x3 x4/\P1 x0 x1 x2 x3 x4/\P2 x0 x1 x2 x3 x4/\P3 x0 x1 x2 x3 x4)(k: ∀x0 x1 x2 x3 x4,P0 x0 x1 x2 x3 x4->P1 x0 x1 x2 x3 x4->P2 x0 x1 x2 x3 x4->P3 x0 x1 x2 x3 x4->G):G:=h.elim λx0 h=>h.elim λx1 h=>h.elim λx2 h=>h.elim λx3 h=>h.elim λx4 h=>k x0 x1 x2 x3 x4 h.1 h.2.1 h.2.2.1 h.2.2.2
theorem acA.{u0,u1,u2,u3,u4,u5}{α0:Sort u0}{α1:Sort u1}{α2:Sort u2}{α3:Sort u3}{α4:Sort u4}{α5:Sort u5}{P0 P1 P2:α0->α1->α2->α3->α4->α5->Prop}{G:Prop}(h: ∃x0 x1 x2 x3 x4 x5,P0 x0 x1 x2 x3 x4 x5/\P1 x0 x1 x2 x3 x4 x5/\P2 x0 x1 x2 x3 x4 x5)(k: ∀x0 x1 x2 x3 x4 x5,P0 x0 x1 x2 x3 x4 x5->P1 x0 x1 x2 x3 x4 x5->P2 x0 x1 x2 x3 x4 x5->G):G:=h.elim λx0 h=>h.elim λx1 h=>h.elim λx2 h=>h.elim λx3 h=>h.elim λx4 h=>h.elim λx5 h=>k x0 x1 x2 x3 x4 x5 h.1 h.2.1 h.2.2
theorem acB.{u0,u1,u2,u3,u4,u5,u6}{α0:Sort u0}{α1:Sort u1}{α2:Sort u2}{α3:Sort u3}{α4:Sort u4}{α5:Sort u5}{α6:Sort u6}{P0 P1:α0->α1->α2->α3->α4->α5->α6->Prop}{G:Prop}(h: ∃x0 x1 x2 x3 x4 x5 x6,P0 x0 x1 x2 x3 x4 x5 x6/\P1 x0 x1 x2 x3 x4 x5 x6)(k: ∀x0 x1 x2 x3 x4 x5 x6,P0 x0 x1 x2 x3 x4 x5 x6->P1 x0 x1 x2 x3 x4 x5 x6->G):G:=h.elim λx0 h=>h.elim λx1 h=>h.elim λx2 h=>h.elim λx3 h=>h.elim λx4 h=>h.elim λx5 h=>h.elim λx6 h=>k x0 x1 x2 x3 x4 x5 x6 h.1 h.2
theorem Tt.{u0,u1,u2,u3,u4,u5,u6,u7}{α0:Sort u0}{α1:Sort u1}{α2:Sort u2}{α3:Sort u3}{α4:Sort u4}{α5:Sort u5}{α6:Sort u6}{α7:Sort u7}{P0:α0->α1->α2->α3->α4->α5->α6->α7->Prop}{G:Prop}(h: ∃x0 x1 x2 x3 x4 x5 x6 x7,P0 x0 x1 x2 x3 x4 x5 x6 x7)(k: ∀x0 x1 x2 x3 x4 x5 x6 x7,P0 x0 x1 x2 x3 x4 x5 x6 x7->G):G:=h.elim λx0 h=>h.elim λx1 h=>h.elim λx2 h=>h.elim λx3 h=>h.elim λx4 h=>h.elim λx5 h=>h.elim λx6 h=>h.elim λx7 h=>k x0 x1 x2 x3 x4 x5 x6 x7 h
theorem jK{P:Prop}(h: ∀G:Prop,(P->G)->G):P:=h P id
theorem aY.{u}{α:Type u}{a:α}{P:Prop}(h:none=some a):P:=by cases h
theorem Dk.{u}{α:Type u}{a:α}{P:Prop}(h:some a=none):P:=aY h.symm
theorem ft{P:Prop}(h:false=true):P:=Bool.noConfusion h
theorem tf{P:Prop}(h:true=false):P:=Bool.noConfusion h
theorem jR.{u}{α:Type u}{a:α}{P:Prop}(h:a∈[]):P:=(abh h).elim
end Mine
namespace Mine
noncomputable section
noncomputable abbrev PW:Program:=PySem.Challenge.pw_sj0056_01
noncomputable abbrev q9:Option Value:=some (.ref 6)
noncomputable abbrev tT:=PySem.W.Fast.tw14364793385576792824
theorem xO:treeTable=tT:=PySem.W.Fast.te14364793385576792824
noncomputable def Fp:Env:={scope:=PW.main.scope,locals:=mainNs,globals:=mainNs,cells:=[],code:= .ref 13,frame:=some 14}
noncomputable def nF:Pos:=⟨0,0,0,0⟩
noncomputable def Mm:Pos:=⟨503,0,593,114⟩
noncomputable abbrev v9:List Stmt:=behindTheImports PW
noncomputable abbrev cE:Code:= .body v9 Fp
noncomputable def s0(w:World)(os:OsState):Shared:=⟨boot_heap w.params,Array.mk [],boot_drawn,boot_toks,os⟩
noncomputable abbrev Z3(w:World)(os:OsState):Option (Shared×Thread):=PySem.W.Fast.tw15667345088766844465 tT PW w 11 q9 12 (s0 w os) (topStub PW)
noncomputable def sA(w:World)(os:OsState):Shared:=match Z3 w os with
 | some (s,_)=>s
 | none=>s0 w os
noncomputable def BO:List Obj->Nat->BT->BT
 | [],_,t=>t
 | o::r,i,t=>BO r (i+1) (t.ins i o)
noncomputable def tA(w:World)(os:OsState):SharedT:=⟨BO (sA w os).heap.objs.toList 0 .nil,15,(sA w os).heap.life,(sA w os).gens,(sA w os).drawn,(sA w os).toks,os⟩
theorem Mp(w:World)(os:OsState):topGo treeTable PW w 11 q9 12 (s0 w os) (topStub PW)=some ((tA w os).abs,⟨denote treeTable cE,cE,nF,[topFrame nF]⟩):=by
 rw[PySem.W.Fast.te15667345088766844465,PySem.W.Fast.te11892475500146522536,xO]
 kernel_rfl
theorem Aq(w:World)(os:OsState):segRun treeTable PW w 11 q9 1 1 (tA w os).abs (blockOf v9 Fp cE nF [topFrame nF])=some (.next,(tA w os).abs,cE,nF):=by
 rw[PySem.W.Fast.te14374325043358763698,xO]
 kernel_rfl
noncomputable abbrev Rh(w:World)(os:OsState):Option (Flow×SharedT×Code×Pos):=PySem.W.Fast.tw10110043849684766642 tT PW w 11 q9 1 4000 (tA w os) {cur:=Sem.wrap doneF deadEnd id id (PySem.W.Fast.tw12563942051412417395 v9 Fp),code:=cE,pos:=nF,stack:=[topFrame nF]}
noncomputable def tB(w:World)(os:OsState):SharedT:=match Rh w os with
 | some (_,s,_,_)=>s
 | none=>tA w os
theorem zi(w:World)(os:OsState):Rh w os=some (.next,tB w os,cE,Mm):=by kernel_rfl
theorem vi(w:World)(os:OsState):segRun treeTable PW w 11 q9 1 4000 (tA w os).abs (piecesOf v9 Fp cE nF [topFrame nF])=some (.next,(tB w os).abs,cE,Mm):=by
 refine segRun_of ?_
 unfold piecesOf
 rw[PySem.W.Fast.te10110043849684766642,PySem.W.Fast.te12563942051412417395,xO]
 exact zi w os
theorem KA(w:World)(os:OsState):topRun treeTable PW w 11 q9 2 (tB w os).abs ⟨doneF .next,cE,Mm,[topFrame nF]⟩=some (tB w os).abs:=by
 rw[PySem.W.Fast.te14082659384304107361,xO]
 kernel_rfl
theorem MG(w:World)(os:OsState):topRun treeTable PW w 11 q9 (12+(1+(4000+2))) (s0 w os) (topStub PW)=some (tB w os).abs:=
 go_top (Mp w os) (piece_block (Aq w os) (by
  have :=piece_app (rest:=[]) (vi w os) (piece_nil (KA w os))
  rwa [aav] at this))
end
end Mine
namespace Mine
noncomputable section
noncomputable def qL:Program:=view PW [0,2,3,4,6,7,8,9,10,12,15,16,17,18,19,20,21,22,23,25,26,27,29,30,32,33,34,35,36,37,38,39,40,41]
abbrev mz:List Str:=[aab "GateloomError",aab "vec"]
abbrev zt:RowW:=PySem.Challenge.rw_sj0056_01.row.toRowW
abbrev S4(s:Shared):Bool:=xlAt qL [] s&&recOk (RowW.records zt) s
theorem PD(w:World)(os:OsState):(staticsOk (importedModules PW.main.body) (boot_heap w.params) (tB w os).abs.heap&&namesBound PW (tB w os).abs.heap&&gensDone (tB w os).abs&&laidKept (boot_heap w.params) (tB w os).abs.heap)=true:=by
 rw[acf]
 kernel_rfl
theorem PE(w:World)(os:OsState):openSeen qL mz (importedModules PW.main.body) S4 true (tB w os).abs=openGood qL mz:=by
 rw[PySem.W.Fast.te4187177175401517315,acf]
 kernel_rfl
end
end Mine
namespace Mine
noncomputable abbrev vS(x:String)(t:Nat):Value:= .str (aab x) t
noncomputable abbrev vR(a:Nat):Value:= .ref a
noncomputable abbrev vI(i:Int)(t:Nat):Value:= .int i t
noncomputable abbrev vT(x:String):Value:= .type x
noncomputable abbrev vB(x:String):Value:= .builtin x
noncomputable abbrev hE(P:Params)(x:String)(t:Nat)(v:Value):DictEntry:=⟨aaY P (aab x),.str (aab x) t,v⟩
noncomputable abbrev aaa(l:List Value):Obj:={cls:= .type "tuple",data:= .seq l.toArray}
noncomputable abbrev Tc(l:List Value):Obj:={cls:= .type "code",data:= .fields l.toArray}
noncomputable def BX(l:List Stmt)(nm:Str):Option Stmt:=l.find? λs=>match s with
 | .FunctionDef n .. =>n==nm
 | .ClassDef n .. =>n==nm
 | _=>false
noncomputable def UJ:Option Stmt->List Stmt
 | some (.ClassDef _ _ _ b ..)=>b
 | _=>[]
noncomputable def fdOf(c n:String):Option Stmt:=if c="" then BX PW.main.body (aab n) else BX (UJ (BX PW.main.body (aab c))) (aab n)
noncomputable def fnO(c n qn:String)(d pm:Value)(code:Nat):Obj:=match fdOf c n with
 | some (.FunctionDef _ a b _ _ _ sc _ _ _)=>{cls:= .type "function",data:= .func {name:=aab n,qualname:=aab qn,params:=a,body:= .stmts b,scope:=sc,globals:=3,closure:=[],defaults:=d,kwdefaults:= .none,pyModule:=pm,code:= .ref code}}
 | _=>{cls:= .none,data:= .fields #[]}
noncomputable def vO(n:Nat):Value:=bif n.beq 0 then .none else .ref n
noncomputable def kt(n:Nat)(l:List Value)(r:Frag):Frag:=(n,aaa l)::r
noncomputable def ko(n:Nat)(o:Obj)(r:Frag):Frag:=(n,o)::r
noncomputable def kf(c n qn:String)(d pm:Value)(N t line ac k fl r x y z w u:Nat)(l:Frag):Frag:=(N,Tc [vS n t,vS qn (t+1),vS "/claim/cut.py" (t+2),vI line 0,vI ac 0,vI k 0,vI 0 0,vI fl 0,vR r,.bool true,vI 181 0,vR (r+1),vO x,vO y,vO z,vO w,vI u 0,vI line 0,vS "/claim/cut.py" (u+1)])::(N+1,fnO c n qn d pm N)::l
noncomputable section
noncomputable def KN:Params->Frag:=λP=>
ko 2 {cls:=Value.none,data:=acg #[hE P "type.__subclasses__.Exception.0" 228 (vI 39 0),hE P "type.__subclasses__.Exception.n" 229 (vI 1 0)] 2}<|
ko 3 {cls:=vT "dict",data:=acg #[hE P "__name__" 165 (vS "law_sj0056_01" 874),hE P "__doc__" 166 (Value.none),hE P "__package__" 167 (Value.none),hE P "__loader__" 168 (vB "__main__.__loader__#opaque"),hE P "__spec__" 169 (Value.none),hE P "__annotations__" 170 (vR 6),hE P "__builtins__" 171 (vR 4),hE P "__file__" 173 (vS "/claim/cut.py" 172),hE P "__cached__" 174 (Value.none),hE P "_wall" 193 (vR 21),hE P "GateloomError" 231 (vR 39),hE P "SourceError" 247 (vR 52),hE P "FormatError" 263 (vR 64),hE P "Netlist" 366 (vR 141),hE P "expected_ins" 373 (vR 152),hE P "is_table" 381 (vR 159),hE P "param_fits" 392 (vR 166),hE P "cell_faults" 402 (vR 173),hE P "mask" 411 (vR 180),hE P "vec" 422 (vR 188),hE P "MOST_BITS" 426 (vI 65536 425),hE P "PLAIN_BITS" 428 (vI 32 427),hE P "digit_bits" 435 (vR 195),hE P "decimal_value" 444 (vR 202),hE P "size_value" 453 (vR 209),hE P "digit_pair" 461 (vR 216),hE P "grouped" 476 (vR 223),hE P "padded_vec" 488 (vR 230),hE P "numeral" 506 (vR 237),hE P "Token" 541 (vR 254),hE P "TokenRow" 580 (vR 282),hE P "Cursor" 703 (vR 382),hE P "NetReader" 865 (vR 494),hE P "cell_faults_of" 873 (vR 503),hE P "_law_pool" 881 (vR 508),hE P "_law_drawn" 890 (vR 515),hE P "_law_shuffled" 900 (vR 522),hE P "_law_plain" 907 (vR 529),hE P "_law_wire" 914 (vR 536),hE P "_law_listed" 923 (vR 543),hE P "_law_sized" 929 (vR 548),hE P "_law_cell" 935 (vR 553),hE P "_law_assign" 947 (vR 560),hE P "law" 953 (vR 565)] 44}<|
kt 15 []<|
kt 17 [vS "k" 190]<|
kt 18 []<|
kf "" "_wall" "_wall" .none (vS "__main__" 164) 20 187 1 1 0 3 15 0 17 18 19 191<|
kt 22 [vT "Exception"]<|
kt 29 [vI (-1) 209,vS "" 210]<|
kt 30 []<|
kt 32 [vS "self" 214,vS "kind" 215,vS "at" 216,vS "detail" 217]<|
kt 33 []<|
kf "GateloomError" "__init__" "GateloomError.__init__" (vR 29) (vS "gateloom.errors" 194) 35 211 7 4 0 3 30 0 32 33 34 218<|
kt 37 [vS "at" 221,vS "detail" 222,vS "kind" 223]<|
ko 38 {cls:=vT "dict",data:=acg #[hE P "__module__" 203 (vS "gateloom.errors" 194),hE P "__firstlineno__" 207 (vI 5 206),hE P "__init__" 220 (vR 36),hE P "__static_attributes__" 224 (vR 37),hE P "__weakref__" 226 (vR 40),hE P "__doc__" 227 (Value.none)] 3}<|
ko 39 {cls:=vT "type",data:=Data.cls {name:=aab "GateloomError",bases:=[vT "Exception"],mro:=[vR 39,vT "Exception",vT "BaseException",vT "object"],ns:=38,qualname:=aab "GateloomError",subclasses:=[vR 52,vR 64]},slots:= #[some (vR 22),none,some (vS "GateloomError" 196),some (vS "GateloomError" 204),some (vB "Exception.__new__"),some (acP true)]}<|
ko 40 {cls:=vT "getset_descriptor",data:=abW #[vS "__weakref__" 225,vR 39,vB "ExceptionGroup.__weakref__",Value.none]}<|
kt 43 [vR 39]<|
kt 50 []<|
ko 51 {cls:=vT "dict",data:=acg #[hE P "__module__" 239 (vS "gateloom.errors" 194),hE P "__firstlineno__" 243 (vI 11 242),hE P "__static_attributes__" 244 (vR 50),hE P "__doc__" 245 (Value.none)] 2}<|
ko 52 {cls:=vT "type",data:=Data.cls {name:=aab "SourceError",bases:=[vR 39],mro:=[vR 52,vR 39,vT "Exception",vT "BaseException",vT "object"],ns:=51,qualname:=aab "SourceError"},slots:= #[some (vR 43),none,some (vS "SourceError" 232),some (vS "SourceError" 240),some (vB "Exception.__new__"),some (acP true)]}<|
kt 55 [vR 39]<|
kt 62 []<|
ko 63 {cls:=vT "dict",data:=acg #[hE P "__module__" 255 (vS "gateloom.errors" 194),hE P "__firstlineno__" 259 (vI 13 258),hE P "__static_attributes__" 260 (vR 62),hE P "__doc__" 261 (Value.none)] 2}<|
ko 64 {cls:=vT "type",data:=Data.cls {name:=aab "FormatError",bases:=[vR 39],mro:=[vR 64,vR 39,vT "Exception",vT "BaseException",vT "object"],ns:=63,qualname:=aab "FormatError"},slots:= #[some (vR 55),none,some (vS "FormatError" 248),some (vS "FormatError" 256),some (vB "Exception.__new__"),some (acP true)]}<|
kt 74 []<|
kt 76 [vS "self" 281,vS "name" 282]<|
kt 77 []<|
kf "Netlist" "__init__" "Netlist.__init__" .none (vS "gateloom.netlist" 264) 79 278 18 2 0 3 74 0 76 77 78 283<|
kt 81 []<|
kt 83 [vS "self" 289]<|
kt 84 []<|
kf "Netlist" "new_net" "Netlist.new_net" .none (vS "gateloom.netlist" 264) 86 286 25 1 0 3 81 0 83 84 85 290<|
kt 88 []<|
kt 90 [vS "self" 296,vS "width" 297]<|
kt 91 []<|
kf "Netlist" "new_nets" "Netlist.new_nets" .none (vS "gateloom.netlist" 264) 93 293 28 2 0 3 88 0 90 91 92 298<|
kt 95 []<|
kt 97 [vS "self" 304,vS "name" 305,vS "width" 306]<|
kt 98 []<|
kf "Netlist" "add_input" "Netlist.add_input" .none (vS "gateloom.netlist" 264) 100 301 31 3 0 3 95 0 97 98 99 307<|
kt 102 []<|
kt 104 [vS "self" 313,vS "name" 314,vS "nets" 315]<|
kt 105 []<|
kf "Netlist" "add_output" "Netlist.add_output" .none (vS "gateloom.netlist" 264) 107 310 34 3 0 3 102 0 104 105 106 316<|
kt 109 [Value.none]<|
kt 110 []<|
kt 112 [vS "self" 322,vS "kind" 323,vS "ins" 324,vS "param" 325]<|
kt 113 []<|
kf "Netlist" "add_cell" "Netlist.add_cell" (vR 109) (vS "gateloom.netlist" 264) 115 319 37 4 0 3 110 0 112 113 114 326<|
kt 117 [Value.none]<|
kt 118 []<|
kt 120 [vS "self" 332,vS "out" 333,vS "kind" 334,vS "ins" 335,vS "param" 336]<|
kt 121 []<|
kf "Netlist" "drive" "Netlist.drive" (vR 117) (vS "gateloom.netlist" 264) 123 329 40 5 0 3 118 0 120 121 122 337<|
kt 125 []<|
kt 127 [vS "self" 343]<|
kt 128 []<|
kf "Netlist" "sources" "Netlist.sources" .none (vS "gateloom.netlist" 264) 130 340 43 1 0 3 125 0 127 128 129 344<|
kt 132 []<|
kt 134 [vS "self" 350]<|
kt 135 []<|
kf "Netlist" "sinks" "Netlist.sinks" .none (vS "gateloom.netlist" 264) 137 347 46 1 0 3 132 0 134 135 136 351<|
kt 139 [vS "cells" 354,vS "count" 355,vS "inputs" 356,vS "name" 357,vS "outputs" 358]<|
ko 140 {cls:=vT "dict",data:=acg #[hE P "__module__" 273 (vS "gateloom.netlist" 264),hE P "__firstlineno__" 277 (vI 16 276),hE P "__init__" 285 (vR 80),hE P "new_net" 292 (vR 87),hE P "new_nets" 300 (vR 94),hE P "add_input" 309 (vR 101),hE P "add_output" 318 (vR 108),hE P "add_cell" 328 (vR 116),hE P "drive" 339 (vR 124),hE P "sources" 346 (vR 131),hE P "sinks" 353 (vR 138),hE P "__static_attributes__" 359 (vR 139),hE P "__dict__" 361 (vR 142),hE P "__weakref__" 363 (vR 143),hE P "__doc__" 364 (Value.none)] 4}<|
ko 141 {cls:=vT "type",data:=Data.cls {name:=aab "Netlist",bases:=[vT "object"],mro:=[vR 141,vT "object"],ns:=140,qualname:=aab "Netlist"},slots:= #[none,none,some (vS "Netlist" 266),some (vS "Netlist" 274),some (vB "object.__new__"),some (acP true)]}<|
ko 142 {cls:=vT "getset_descriptor",data:=abW #[vS "__dict__" 360,vR 141,vB "function.__dict__",vB "function.__dict__#set"]}<|
ko 143 {cls:=vT "getset_descriptor",data:=abW #[vS "__weakref__" 362,vR 141,vB "ExceptionGroup.__weakref__",Value.none]}<|
kt 146 []<|
kt 148 [vS "kind" 370]<|
kt 149 []<|
kf "" "expected_ins" "expected_ins" .none (vS "gateloom.netlist" 264) 151 367 48 1 0 3 146 0 148 149 150 371<|
kt 153 []<|
kt 155 [vS "table" 377,vS "width" 378]<|
kt 156 []<|
kf "" "is_table" "is_table" .none (vS "gateloom.netlist" 264) 158 374 60 2 0 3 153 0 155 156 157 379<|
kt 160 []<|
kt 162 [vS "cell" 385,vS "kind" 386,vS "out" 387,vS "ins" 388,vS "param" 389]<|
kt 163 []<|
kf "" "param_fits" "param_fits" .none (vS "gateloom.netlist" 264) 165 382 62 1 0 3 160 0 162 163 164 390<|
kt 167 []<|
kt 169 [vS "netlist" 396,vS "faults" 397,vS "cell" 398,vS "expected" 399]<|
kt 170 []<|
kf "" "cell_faults" "cell_faults" .none (vS "gateloom.netlist" 264) 172 393 77 1 0 3 167 0 169 170 171 400<|
kt 174 []<|
kt 176 [vS "w" 408]<|
kt 177 []<|
kf "" "mask" "mask" .none (vS "gateloom.vec" 403) 179 405 89 1 0 3 174 0 176 177 178 409<|
kt 181 [vI 0 412]<|
kt 182 []<|
kt 184 [vS "w" 416,vS "a" 417,vS "b" 418,vS "full" 419]<|
kt 185 []<|
kf "" "vec" "vec" (vR 181) (vS "gateloom.vec" 403) 187 413 91 3 0 3 182 0 184 185 186 420<|
kt 189 []<|
kt 191 [vS "base" 432]<|
kt 192 []<|
kf "" "digit_bits" "digit_bits" .none (vS "gateloom.numerals" 423) 194 429 97 1 0 3 189 0 191 192 193 433<|
kt 196 []<|
kt 198 [vS "digits" 439,vS "value" 440,vS "digit" 441]<|
kt 199 []<|
kf "" "decimal_value" "decimal_value" .none (vS "gateloom.numerals" 423) 201 436 103 1 0 3 196 0 198 199 200 442<|
kt 203 []<|
kt 205 [vS "size" 448,vS "at" 449,vS "digits" 450]<|
kt 206 []<|
kf "" "size_value" "size_value" .none (vS "gateloom.numerals" 423) 208 445 108 2 0 3 203 0 205 206 207 451<|
kt 210 []<|
kt 212 [vS "digit" 457,vS "full" 458]<|
kt 213 []<|
kf "" "digit_pair" "digit_pair" .none (vS "gateloom.numerals" 423) 215 454 113 2 0 3 210 0 212 213 214 459<|
kt 217 []<|
kt 219 [vS "base" 465,vS "digits" 466,vS "count" 467,vS "full" 468,vS "a" 469,vS "b" 470,vS "digit" 471,vS "low" 472,vS "high" 473]<|
kt 220 []<|
kf "" "grouped" "grouped" .none (vS "gateloom.numerals" 423) 222 462 119 2 0 3 217 0 219 220 221 474<|
kt 224 []<|
kt 226 [vS "w" 480,vS "width" 481,vS "a" 482,vS "b" 483,vS "first" 484,vS "fill" 485]<|
kt 227 []<|
kf "" "padded_vec" "padded_vec" .none (vS "gateloom.numerals" 423) 229 477 129 5 0 3 224 0 226 227 228 486<|
kt 231 []<|
kt 233 [vS "value" 492,vS "at" 493,vS "size" 494,vS "base" 495,vS "signed" 496,vS "digits" 497,vS "first" 498,vS "plain" 499,vS "width" 500,vS "a" 501,vS "b" 502,vS "w" 503]<|
kt 234 []<|
kf "" "numeral" "numeral" .none (vS "gateloom.numerals" 423) 236 489 137 2 0 3 231 0 233 234 235 504<|
kt 245 []<|
kt 247 [vS "self" 524,vS "kind" 525,vS "value" 526,vS "at" 527]<|
kt 248 []<|
kf "Token" "__init__" "Token.__init__" .none (vS "gateloom.tokens" 507) 250 521 163 4 0 3 245 0 247 248 249 528<|
kt 252 [vS "at" 531,vS "kind" 532,vS "value" 533]<|
ko 253 {cls:=vT "dict",data:=acg #[hE P "__module__" 516 (vS "gateloom.tokens" 507),hE P "__firstlineno__" 520 (vI 161 519),hE P "__init__" 530 (vR 251),hE P "__static_attributes__" 534 (vR 252),hE P "__dict__" 536 (vR 255),hE P "__weakref__" 538 (vR 256),hE P "__doc__" 539 (Value.none)] 4}<|
ko 254 {cls:=vT "type",data:=Data.cls {name:=aab "Token",bases:=[vT "object"],mro:=[vR 254,vT "object"],ns:=253,qualname:=aab "Token"},slots:= #[none,none,some (vS "Token" 509),some (vS "Token" 517),some (vB "object.__new__"),some (acP true)]}<|
ko 255 {cls:=vT "getset_descriptor",data:=abW #[vS "__dict__" 535,vR 254,vB "function.__dict__",vB "function.__dict__#set"]}<|
ko 256 {cls:=vT "getset_descriptor",data:=abW #[vS "__weakref__" 537,vR 254,vB "ExceptionGroup.__weakref__",Value.none]}<|
kt 266 []<|
kt 268 [vS "self" 557,vS "tokens" 558]<|
kt 269 []<|
kf "TokenRow" "__init__" "TokenRow.__init__" .none (vS "gateloom.tokens" 507) 271 554 169 2 0 3 266 0 268 269 270 559<|
kt 273 []<|
kt 275 [vS "self" 565,vS "token" 566]<|
kt 276 []<|
kf "TokenRow" "next_token" "TokenRow.next_token" .none (vS "gateloom.tokens" 507) 278 562 174 1 0 3 273 0 275 276 277 567<|
kt 280 [vS "parted" 570,vS "place" 571,vS "tokens" 572]<|
ko 281 {cls:=vT "dict",data:=acg #[hE P "__module__" 549 (vS "gateloom.tokens" 507),hE P "__firstlineno__" 553 (vI 167 552),hE P "__init__" 561 (vR 272),hE P "next_token" 569 (vR 279),hE P "__static_attributes__" 573 (vR 280),hE P "__dict__" 575 (vR 283),hE P "__weakref__" 577 (vR 284),hE P "__doc__" 578 (Value.none)] 4}<|
ko 282 {cls:=vT "type",data:=Data.cls {name:=aab "TokenRow",bases:=[vT "object"],mro:=[vR 282,vT "object"],ns:=281,qualname:=aab "TokenRow"},slots:= #[none,none,some (vS "TokenRow" 542),some (vS "TokenRow" 550),some (vB "object.__new__"),some (acP true)]}<|
ko 283 {cls:=vT "getset_descriptor",data:=abW #[vS "__dict__" 574,vR 282,vB "function.__dict__",vB "function.__dict__#set"]}<|
ko 284 {cls:=vT "getset_descriptor",data:=abW #[vS "__weakref__" 576,vR 282,vB "ExceptionGroup.__weakref__",Value.none]}<|
kt 294 []<|
kt 296 [vS "self" 596,vS "source" 597]<|
kt 297 []<|
kf "Cursor" "__init__" "Cursor.__init__" .none (vS "gateloom.tokens" 507) 299 593 182 2 0 3 294 0 296 297 298 598<|
kt 301 []<|
kt 303 [vS "self" 604,vS "token" 605]<|
kt 304 []<|
kf "Cursor" "fetch" "Cursor.fetch" .none (vS "gateloom.tokens" 507) 306 601 189 1 0 3 301 0 303 304 305 606<|
kt 308 [vI 0 609]<|
kt 309 []<|
kt 311 [vS "self" 613,vS "n" 614]<|
kt 312 []<|
kf "Cursor" "peek" "Cursor.peek" (vR 308) (vS "gateloom.tokens" 507) 314 610 195 2 0 3 309 0 311 312 313 615<|
kt 316 []<|
kt 318 [vS "self" 621,vS "token" 622]<|
kt 319 []<|
kf "Cursor" "take" "Cursor.take" .none (vS "gateloom.tokens" 507) 321 618 198 1 0 3 316 0 318 319 320 623<|
kt 323 []<|
kt 325 [vS "self" 629,vS "text" 630]<|
kt 326 []<|
kf "Cursor" "is_op" "Cursor.is_op" .none (vS "gateloom.tokens" 507) 328 626 207 2 0 3 323 0 325 326 327 631<|
kt 330 []<|
kt 332 [vS "self" 637,vS "text" 638]<|
kt 333 []<|
kf "Cursor" "is_key" "Cursor.is_key" .none (vS "gateloom.tokens" 507) 335 634 210 2 0 3 330 0 332 333 334 639<|
kt 337 []<|
kt 339 [vS "self" 645,vS "text" 646]<|
kt 340 []<|
kf "Cursor" "accept_op" "Cursor.accept_op" .none (vS "gateloom.tokens" 507) 342 642 213 2 0 3 337 0 339 340 341 647<|
kt 344 []<|
kt 346 [vS "self" 653,vS "text" 654]<|
kt 347 []<|
kf "Cursor" "accept_key" "Cursor.accept_key" .none (vS "gateloom.tokens" 507) 349 650 219 2 0 3 344 0 346 347 348 655<|
kt 351 []<|
kt 353 [vS "self" 661,vS "text" 662]<|
kt 354 []<|
kf "Cursor" "expect_op" "Cursor.expect_op" .none (vS "gateloom.tokens" 507) 356 658 225 2 0 3 351 0 353 354 355 663<|
kt 358 []<|
kt 360 [vS "self" 669,vS "text" 670]<|
kt 361 []<|
kf "Cursor" "expect_key" "Cursor.expect_key" .none (vS "gateloom.tokens" 507) 363 666 229 2 0 3 358 0 360 361 362 671<|
kt 365 []<|
kt 367 [vS "self" 677]<|
kt 368 []<|
kf "Cursor" "expect_id" "Cursor.expect_id" .none (vS "gateloom.tokens" 507) 370 674 233 1 0 3 365 0 367 368 369 678<|
kt 372 [vS "" 681]<|
kt 373 []<|
kt 375 [vS "self" 685,vS "kind" 686,vS "detail" 687]<|
kt 376 []<|
kf "Cursor" "fail" "Cursor.fail" (vR 372) (vS "gateloom.tokens" 507) 378 682 238 3 0 3 373 0 375 376 377 688<|
kt 380 [vS "ahead" 691,vS "at" 692,vS "hashed" 693,vS "source" 694,vS "token" 695]<|
ko 381 {cls:=vT "dict",data:=acg #[hE P "__module__" 588 (vS "gateloom.tokens" 507),hE P "__firstlineno__" 592 (vI 180 591),hE P "__init__" 600 (vR 300),hE P "fetch" 608 (vR 307),hE P "peek" 617 (vR 315),hE P "take" 625 (vR 322),hE P "is_op" 633 (vR 329),hE P "is_key" 641 (vR 336),hE P "accept_op" 649 (vR 343),hE P "accept_key" 657 (vR 350),hE P "expect_op" 665 (vR 357),hE P "expect_key" 673 (vR 364),hE P "expect_id" 680 (vR 371),hE P "fail" 690 (vR 379),hE P "__static_attributes__" 696 (vR 380),hE P "__dict__" 698 (vR 383),hE P "__weakref__" 700 (vR 384),hE P "__doc__" 701 (Value.none)] 4}<|
ko 382 {cls:=vT "type",data:=Data.cls {name:=aab "Cursor",bases:=[vT "object"],mro:=[vR 382,vT "object"],ns:=381,qualname:=aab "Cursor",subclasses:=[vR 494]},slots:= #[none,none,some (vS "Cursor" 581),some (vS "Cursor" 589),some (vB "object.__new__"),some (acP true)]}<|
ko 383 {cls:=vT "getset_descriptor",data:=abW #[vS "__dict__" 697,vR 382,vB "function.__dict__",vB "function.__dict__#set"]}<|
ko 384 {cls:=vT "getset_descriptor",data:=abW #[vS "__weakref__" 699,vR 382,vB "ExceptionGroup.__weakref__",Value.none]}<|
kt 387 [vR 382]<|
kt 394 []<|
kt 396 [vS "self" 721,vS "source" 722]<|
kt 397 []<|
kf "NetReader" "__init__" "NetReader.__init__" .none (vS "gateloom.nettext" 704) 399 718 243 2 0 3 394 0 396 397 398 723<|
kt 401 []<|
kt 403 [vS "self" 729,vS "sign" 730]<|
kt 404 []<|
kf "NetReader" "whole" "NetReader.whole" .none (vS "gateloom.nettext" 704) 406 726 250 1 0 3 401 0 403 404 405 731<|
kt 408 []<|
kt 410 [vS "self" 737,vS "value" 738]<|
kt 411 []<|
kf "NetReader" "bit_flag" "NetReader.bit_flag" .none (vS "gateloom.nettext" 704) 413 734 258 1 0 3 408 0 410 411 412 739<|
kt 415 []<|
kt 417 [vS "self" 745]<|
kt 418 []<|
kf "NetReader" "quoted" "NetReader.quoted" .none (vS "gateloom.nettext" 704) 420 742 264 1 0 3 415 0 417 418 419 746<|
kt 422 []<|
kt 424 [vS "self" 752,vS "token" 753,vS "vector" 754,vS "signed" 755,vS "sized" 756]<|
kt 425 []<|
kf "NetReader" "table" "NetReader.table" .none (vS "gateloom.nettext" 704) 427 749 269 1 0 3 422 0 424 425 426 757<|
kt 429 []<|
kt 431 [vS "self" 763,vS "token" 764]<|
kt 432 []<|
kf "NetReader" "net" "NetReader.net" .none (vS "gateloom.nettext" 704) 434 760 278 1 0 3 429 0 431 432 433 765<|
kt 436 []<|
kt 438 [vS "self" 771,vS "name" 772,vS "ports" 773]<|
kt 439 []<|
kf "NetReader" "header" "NetReader.header" .none (vS "gateloom.nettext" 704) 441 768 286 1 0 3 436 0 438 439 440 774<|
kt 443 []<|
kt 445 [vS "self" 780,vS "rows" 781,vS "width" 782,vS "low" 783,vS "name" 784]<|
kt 446 []<|
kf "NetReader" "port" "NetReader.port" .none (vS "gateloom.nettext" 704) 448 777 299 2 0 3 443 0 445 446 447 785<|
kt 450 []<|
kt 452 [vS "self" 791,vS "more" 792,vS "name" 793]<|
kt 453 []<|
kf "NetReader" "wires" "NetReader.wires" .none (vS "gateloom.nettext" 704) 455 788 315 1 0 3 450 0 452 453 454 794<|
kt 457 []<|
kt 459 [vS "self" 800,vS "rows" 801,vS "name" 802,vS "bit" 803]<|
kt 460 []<|
kf "NetReader" "port_bit" "NetReader.port_bit" .none (vS "gateloom.nettext" 704) 462 797 325 2 0 3 457 0 459 460 461 804<|
kt 464 []<|
kt 466 [vS "self" 810,vS "row" 811,vS "bit" 812,vS "net" 813]<|
kt 467 []<|
kf "NetReader" "assign" "NetReader.assign" .none (vS "gateloom.nettext" 704) 469 807 336 1 0 3 464 0 466 467 468 814<|
kt 471 []<|
kt 473 [vS "self" 820,vS "kind" 821,vS "width" 822,vS "param" 823,vS "edge" 824,vS "name" 825,vS "table" 826]<|
kt 474 []<|
kf "NetReader" "params" "NetReader.params" .none (vS "gateloom.nettext" 704) 476 817 348 2 0 3 471 0 473 474 475 827<|
kt 478 []<|
kt 480 [vS "self" 833,vS "at" 834,vS "token" 835,vS "kind" 836,vS "param" 837,vS "width" 838,vS "named" 839,vS "nets" 840]<|
kt 481 []<|
kf "NetReader" "cell" "NetReader.cell" .none (vS "gateloom.nettext" 704) 483 830 373 1 0 3 478 0 480 481 482 841<|
kt 485 []<|
kt 487 [vS "self" 847,vS "name" 848,vS "ports" 849,vS "netlist" 850,vS "at" 851,vS "row" 852,vS "target" 853,vS "port" 854]<|
kt 488 []<|
kf "NetReader" "module" "NetReader.module" .none (vS "gateloom.nettext" 704) 490 844 396 1 0 3 485 0 487 488 489 855<|
kt 492 [vS "inputs" 858,vS "nets" 859,vS "order" 860,vS "outputs" 861]<|
ko 493 {cls:=vT "dict",data:=acg #[hE P "__module__" 713 (vS "gateloom.nettext" 704),hE P "__firstlineno__" 717 (vI 241 716),hE P "__init__" 725 (vR 400),hE P "whole" 733 (vR 407),hE P "bit_flag" 741 (vR 414),hE P "quoted" 748 (vR 421),hE P "table" 759 (vR 428),hE P "net" 767 (vR 435),hE P "header" 776 (vR 442),hE P "port" 787 (vR 449),hE P "wires" 796 (vR 456),hE P "port_bit" 806 (vR 463),hE P "assign" 816 (vR 470),hE P "params" 829 (vR 477),hE P "cell" 843 (vR 484),hE P "module" 857 (vR 491),hE P "__static_attributes__" 862 (vR 492),hE P "__doc__" 863 (Value.none)] 2}<|
ko 494 {cls:=vT "type",data:=Data.cls {name:=aab "NetReader",bases:=[vR 382],mro:=[vR 494,vR 382,vT "object"],ns:=493,qualname:=aab "NetReader"},slots:= #[some (vR 387),none,some (vS "NetReader" 706),some (vS "NetReader" 714),some (vB "object.__new__"),some (acP true)]}<|
kt 497 []<|
kt 499 [vS "netlist" 869,vS "last" 870]<|
kt 500 []<|
kf "" "cell_faults_of" "cell_faults_of" .none (vS "gateloom.nettext" 704) 502 866 425 1 0 3 497 0 499 500 501 871<|
kt 504 []<|
kf "" "_law_pool" "_law_pool" .none (vS "law_sj0056_01" 874) 507 876 430 1 0 3 504 0 0 0 506 879<|
kt 509 []<|
kt 511 [vS "pool" 885,vS "limit" 886,vS "cell" 887]<|
kt 512 []<|
kf "" "_law_drawn" "_law_drawn" .none (vS "law_sj0056_01" 874) 514 882 434 2 0 3 509 0 511 512 513 888<|
kt 516 []<|
kt 518 [vS "pool" 894,vS "things" 895,vS "free" 896,vS "found" 897]<|
kt 519 []<|
kf "" "_law_shuffled" "_law_shuffled" .none (vS "law_sj0056_01" 874) 521 891 443 2 0 3 516 0 518 519 520 898<|
kt 523 []<|
kt 525 [vS "number" 904]<|
kt 526 []<|
kf "" "_law_plain" "_law_plain" .none (vS "law_sj0056_01" 874) 528 901 449 1 0 3 523 0 525 526 527 905<|
kt 530 []<|
kt 532 [vS "name" 911]<|
kt 533 []<|
kf "" "_law_wire" "_law_wire" .none (vS "law_sj0056_01" 874) 535 908 453 1 0 3 530 0 532 533 534 912<|
kt 537 []<|
kt 539 [vS "pieces" 918,vS "found" 919,vS "piece" 920]<|
kt 540 []<|
kf "" "_law_listed" "_law_listed" .none (vS "law_sj0056_01" 874) 542 915 455 1 0 3 537 0 539 540 541 921<|
kt 544 []<|
kf "" "_law_sized" "_law_sized" .none (vS "law_sj0056_01" 874) 547 924 460 3 0 3 544 0 0 0 546 927<|
kt 549 []<|
kf "" "_law_cell" "_law_cell" .none (vS "law_sj0056_01" 874) 552 930 468 3 0 3 549 0 0 0 551 933<|
kt 554 []<|
kt 556 [vS "way" 939,vS "port" 940,vS "spot" 941,vS "name" 942,vS "bit" 943,vS "pieces" 944]<|
kt 557 []<|
kf "" "_law_assign" "_law_assign" .none (vS "law_sj0056_01" 874) 559 936 496 4 0 3 554 0 556 557 558 945<|
kt 561 []<|
kf "" "law" "law" .none (vS "law_sj0056_01" 874) 564 948 503 1 0 3 561 0 0 0 563 951<| []
end
end Mine
namespace Mine
theorem Gb{p q:Program}{loose:List Str}{Xt:Shared->Bool}{α:Type}{Yf:Shared->α}{Ya:World->α}{N M m₀:Nat}{ann:Option Value}{H₀:Params->Heap}{TC:Array GenState}{d₀:Drawn}{k₀:Nat}{S:World->OsState->Shared}
  (ho: ∀w:World,(fencedOpening treeTable p w N).map (λs=>(s.heap,s.gens,s.drawn,s.toks))=some (H₀ w.params,TC,d₀,k₀))
  (hs: ∀w:World,((H₀ w.params).isNs mainGlobals&&TC.size==0)=true/\(H₀ w.params).objs.size=m₀/\(H₀ w.params).nsMap mainGlobals "__annotations__"=ann)
  (hr: ∀(w:World) (os:OsState),topRun treeTable p w m₀ ann M ⟨H₀ w.params,TC,d₀,k₀,os⟩ (topStub p)=some (S w os)) (le:M<=N)
  (l1: ∀w os,(staticsOk (importedModules p.main.body) (H₀ w.params) (S w os).heap&&namesBound p (S w os).heap&&gensDone (S w os)&&laidKept (H₀ w.params) (S w os).heap)=true)
  (l2: ∀w os,openSeen q loose (importedModules p.main.body) Xt true (S w os)=openGood q loose)
  (l3: ∀w os,Yf (S w os)=Ya w):LeftO p q loose Xt Yf Ya N:=λw=>by
 obtain⟨⟨h,gs,d,k,os⟩,e,e'⟩:=abT.mp (ho w)
 simp only[Prod.mk.injEq] at e'
 obtain⟨rfl,rfl,rfl,rfl⟩:=e'
 obtain⟨z1,z2,z3⟩:=hs w
 have r:=topRun_mono (N- M) _ _ _ _ (hr w os)
 rw[Nat.add_sub_cancel' le] at r
 have t:topFrom treeTable p w N ⟨H₀ w.params,gs,d,k,os⟩=some (S w os):=by
  unfold topFrom
  dsimp only
  rw[z1,z2,z3,r]
  dsimp only[ac0]
  rw[l1 w os]
 unfold openEnds
 rw[e,ac0,t,Option.map_some,l2,l3]
noncomputable section
noncomputable abbrev KL:Params->Frag:=KN
noncomputable def S5:List Addr:=[2,3,15,17,18,20,21,22,29,30,32,33,35,36,37,38,39,40,43,50,51,52,55,62,63,64,74,76,77,79,80,81,83,84,86,87,88,90,91,93,94,95,97,98,100,101,102,104,105,107,108,109,110,112,113,115,116,117,118,120,121,123,124,125,127,128,130,131,132,134,135,137,138,139,140,141,142,143,146,148,149,151,152,153,155,156,158,159,160,162,163,165,166,167,169,170,172,173,174,176,177,179,180,181,182,184,185,187,188,189,191,192,194,195,196,198,199,201,202,203,205,206,208,209,210,212,213,215,216,217,219,220,222,223,224,226,227,229,230,231,233,234,236,237,245,247,248,250,251,252,253,254,255,256,266,268,269,271,272,273,275,276,278,279,280,281,282,283,284,294,296,297,299,300,301,303,304,306,307,308,309,311,312,314,315,316,318,319,321,322,323,325,326,328,329,330,332,333,335,336,337,339,340,342,343,344,346,347,349,350,351,353,354,356,357,358,360,361,363,364,365,367,368,370,371,372,373,375,376,378,379,380,381,382,383,384,387,394,396,397,399,400,401,403,404,406,407,408,410,411,413,414,415,417,418,420,421,422,424,425,427,428,429,431,432,434,435,436,438,439,441,442,443,445,446,448,449,450,452,453,455,456,457,459,460,462,463,464,466,467,469,470,471,473,474,476,477,478,480,481,483,484,485,487,488,490,491,492,493,494,497,499,500,502,503,504,507,508,509,511,512,514,515,516,518,519,521,522,523,525,526,528,529,530,532,533,535,536,537,539,540,542,543,544,547,548,549,552,553,554,556,557,559,560,561,564,565]
theorem N6: ∀P,S5=(KL P).map (·.1):=λP=>by kernel_rfl
noncomputable abbrev HL:Hook:=kHook KL S5 N6
theorem PF(w:World)(os:OsState):HL.obs (tB w os).abs=HL.val w:=by
 show S5.map (tB w os).abs.heap.get?=(KL w.params).map λp=>some p.2
 kernel_rfl
theorem Hy(w:World):((boot_heap w.params).isNs mainGlobals&&(Array.mk []:Array GenState).size==0)=true/\(boot_heap w.params).objs.size=11/\(boot_heap w.params).nsMap mainGlobals "__annotations__"=q9:=⟨by kernel_rfl,by kernel_rfl,by kernel_rfl⟩
theorem Gd:LeftO PW qL mz S4 HL.obs HL.val 7644:=
 Gb (boot_open (by rfl) (by rfl) (λs=>rfl)) Hy (λw os=>MG w os) (by decide) PD PE PF
end
noncomputable section
def dL:DefRec:=((defOf qL (aab "law")).get (by kernel_rfl)).1
theorem Kq:defOf qL zt.name=some (dL,[]):=by kernel_rfl
theorem MS:zt.prog.theDef zt.name=some (dL.params,dL.body,dL.scope):=by kernel_rfl
theorem Pz:kwWritten? dL.params.kwonlyargs dL.params.kw_defaults=some []:=by kernel_rfl
theorem Hr:PySem.Challenge.rw_sj0056_01.wellSaid=true:=by
 rw[PySem.W.Fast.te9446332074065402090]
 kernel_rfl
theorem G1:zt.promised:=by w_witness2
theorem hd2(walk:WalkO qL mz (XL qL []) HL.says zt dL [] λf vs=>PySem.call f vs):PySem.Challenge.rw_sj0056_01.Holds:=by
 refine holds_law Hr λZ4=> ?_
 exact PySem.W.holds_open (r:=PySem.Challenge.rw_sj0056_01.row) (q:=qL) (loose:=mz) (Xt:=S4) (XP:=XL qL []) (Yf:=HL.obs) (Ya:=HL.val) (YP:=HL.says) (d:=dL) (kwd:=[]) (N:=7644) Gd (Hook.of HL) (Hook.keeps HL) (λs e=>xl_of s (aap.mp e).1) XL.keeps Kq MS Pz (λs e=>recFacts_of (aap.mp e).2) (by rfl) Z4 (by decide+kernel) ⟨rfl,rfl,rfl,rfl,rfl,by decide+kernel⟩ G1 walk
end
end Mine
namespace Mine
noncomputable abbrev cS:Program:=PySem.Challenge.rw_sj0056_01.row.prog
noncomputable abbrev Dt:=Addr->Option Obj
noncomputable abbrev Ii:List Str:=[aab "GateloomError",aab "vec"]
structure Gl where
 w:World
 B:Heap
 mg:Str->Option Value
 mb:Str->Option Value
 Gm:ExcName->Option Value
 hK:(Mine.KN w.params).In B
 hT:Top Mine.qL (looseW Mine.qL Ii) Gm mg mb B
set_option genInjectivity true in
inductive V where
 | none
 | bool (b:Bool)
 | int (i:Int)
 | str (s:Str)
 | tup (xs:List V)
 | lst (xs:List V)
 | nj (C:Addr) (fs:List (Str×V))
 | inst (C:Addr) (n:Nat)
 | loc (n:Nat)
 | jb (a b c:Int)
 | f6 (v:Value)
 deriving Inhabited
inductive AO where
 | lst (xs:List V)
 | aF (fs:List (Str×V))
 deriving Inhabited
def qO(P:Params)(k:Str)(e:DictEntry):Prop:=e.hash=aaY P k/\ ∃t,e.key= .str k t
mutual
noncomputable def VR(P:Params)(D:Dt)(σ:List Addr):V->Value->Prop
 | .none,v=>v= .none
 | .bool b,v=>v= .bool b
 | .int i,v=> ∃t,v= .int i t
 | .str x,v=> ∃t,v= .str x t
 | .tup xs,v=> ∃a its n,v= .ref a/\D a=some {cls:= .type "tuple",data:= .seq its n}/\aM P D σ xs its.toList
 | .lst xs,v=> ∃a its n,v= .ref a/\D a=some {cls:= .type "list",data:= .seq its n}/\aM P D σ xs its.toList
 | .nj C fs,v=> ∃a d es n,v= .ref a/\D a=some ⟨.ref C,some d,.plain,#[]⟩/\D d=some (dictOf es n)/\(fs.map (·.1)).Nodup/\bN P D σ fs es
 | .inst C n,v=> ∃a d,v= .ref a/\D a=some ⟨.ref C,some d,.plain,#[]⟩/\σ[n]? =some d
 | .loc n,v=> ∃a,v= .ref a/\σ[n]? =some a
 | .jb a b c,v=> ∃r t u w,v= .ref r/\D r=some {cls:= .type "range",data:= .fields #[.int a t,.int b u,.int c w]}
 | .f6 w,v=>v=w
noncomputable def aM(P:Params)(D:Dt)(σ:List Addr):List V->List Value->Prop
 | [],vs=>vs=[]
 | x::xs,vs=> ∃v r,vs=v::r/\VR P D σ x v/\aM P D σ xs r
noncomputable def bN(P:Params)(D:Dt)(σ:List Addr):List (Str×V)->List DictEntry->Prop
 | [],es=>es=[]
 | (k,x)::fs,es=> ∃e r,es=e::r/\qO P k e/\VR P D σ x e.val/\bN P D σ fs r
end
section
variable{P:Params}{D:Dt}{σ:List Addr}{v:Value}{G:Prop}{xs:List V}{vs:List Value}
theorem VR.fK(h:VR P D σ (.tup xs) v)(k: ∀a its n,v= .ref a->D a=some {cls:= .type "tuple",data:= .seq its n}->aM P D σ xs its.toList->G):G:=rD h k
theorem VR.cA(h:VR P D σ (.lst xs) v)(k: ∀a its n,v= .ref a->D a=some {cls:= .type "list",data:= .seq its n}->aM P D σ xs its.toList->G):G:=rD h k
theorem VR.wL{C:Addr}{fs:List (Str×V)}(h:VR P D σ (.nj C fs) v)(k: ∀a d es n,v= .ref a->D a=some ⟨.ref C,some d,.plain,#[]⟩->D d=some (dictOf es n)->(fs.map (·.1)).Nodup->bN P D σ fs es->G):G:=Tq h k
theorem aM.dp(h:aM P D σ [] vs):vs=[]:=h
theorem aM.aW{x:V}(h:aM P D σ (x::xs) vs)(k: ∀v r,vs=v::r->VR P D σ x v->aM P D σ xs r->G):G:=cj h k
theorem bN.dp{es:List DictEntry}(h:bN P D σ [] es):es=[]:=h
theorem bN.aW{y:Str}{x:V}{fs:List (Str×V)}{es:List DictEntry}(h:bN P D σ ((y,x)::fs) es)(k: ∀e r,es=e::r->qO P y e->VR P D σ x e.val->bN P D σ fs r->G):G:=km h k
theorem VR.xU{a:Addr}{its:Array Value}{n:Nat}(h1:D a=some {cls:= .type "tuple",data:= .seq its n})(h2:aM P D σ xs its.toList):VR P D σ (.tup xs) (.ref a):=⟨a,its,n,rfl,h1,h2⟩
theorem VR.xk{a:Addr}{its:Array Value}{n:Nat}(h1:D a=some {cls:= .type "list",data:= .seq its n})(h2:aM P D σ xs its.toList):VR P D σ (.lst xs) (.ref a):=⟨a,its,n,rfl,h1,h2⟩
theorem VR.Bu{C:Addr}{fs:List (Str×V)}{a d:Addr}{es:List DictEntry}{n:Nat}(h1:D a=some ⟨.ref C,some d,.plain,#[]⟩)(h2:D d=some (dictOf es n))(h3:(fs.map (·.1)).Nodup)(h4:bN P D σ fs es):VR P D σ (.nj C fs) (.ref a):=⟨a,d,es,n,rfl,h1,h2,h3,h4⟩
theorem aM.cx{x:V}(h1:VR P D σ x v)(h2:aM P D σ xs vs):aM P D σ (x::xs) (v::vs):=⟨v,vs,rfl,h1,h2⟩
theorem bN.cx{y:Str}{x:V}{fs:List (Str×V)}{e:DictEntry}{es:List DictEntry}(h1:qO P y e)(h2:VR P D σ x e.val)(h3:bN P D σ fs es):bN P D σ ((y,x)::fs) (e::es):=⟨e,es,rfl,h1,h2,h3⟩
end
structure Le(D:Dt)(σ:List Addr)(D':Dt)(σ':List Addr):Prop where
 d: ∀a o,D a=some o->D' a=some o
 s: ∀(n:Nat) a,σ[n]? =some a->σ'[n]? =some a
theorem Le.refl{D:Dt}{σ:List Addr}:Le D σ D σ:=⟨λ_ _ h=>h,λ_ _ h=>h⟩
theorem Le.trans{D D' D'':Dt}{σ σ' σ'':List Addr}(x:Le D σ D' σ')(y:Le D' σ' D'' σ''):Le D σ D'' σ'':=⟨λ_ _ h=>y.d _ _ (x.d _ _ h),λ_ _ h=>y.s _ _ (x.s _ _ h)⟩
mutual
theorem VR.mono{P:Params}{D D':Dt}{σ σ':List Addr}(L:Le D σ D' σ'): ∀{x:V} {v:Value},VR P D σ x v->VR P D' σ' x v
 | .none,_,h=>h
 | .bool _,_,h=>h
 | .int _,_,h=>h
 | .str _,_,h=>h
 | .tup _,_,h=>h.fK λ_ _ _ e h1 h2=>e▸ .xU (L.d _ _ h1) (aM.mono L h2)
 | .lst _,_,h=>h.cA λ_ _ _ e h1 h2=>e▸ .xk (L.d _ _ h1) (aM.mono L h2)
 | .nj _ _,_,h=>h.wL λ_ _ _ _ e h1 h2 h3 h4=>e▸ .Bu (L.d _ _ h1) (L.d _ _ h2) h3 (bN.mono L h4)
 | .inst _ _,_,h=>cj h λa d h1 h2 h3=>⟨a,d,h1,L.d _ _ h2,L.s _ _ h3⟩
 | .loc _,_,h=>ao h λa h1 h2=>⟨a,h1,L.s _ _ h2⟩
 | .jb _ _ _,_,h=>yC h λr t u w h1 h2=>⟨r,t,u,w,h1,L.d _ _ h2⟩
 | .f6 _,_,h=>h
theorem aM.mono{P:Params}{D D':Dt}{σ σ':List Addr}(L:Le D σ D' σ'): ∀{xs:List V} {vs:List Value},aM P D σ xs vs->aM P D' σ' xs vs
 | [],_,h=>h
 | _::_,_,h=>h.aW λ_ _ e h1 h2=>e▸ .cx (VR.mono L h1) (aM.mono L h2)
theorem bN.mono{P:Params}{D D':Dt}{σ σ':List Addr}(L:Le D σ D' σ'): ∀{fs:List (Str×V)} {es:List DictEntry},bN P D σ fs es->bN P D' σ' fs es
 | [],_,h=>h
 | (_,_)::_,_,h=>h.aW λ_ _ e h1 h2 h3=>e▸ .cx h1 (VR.mono L h2) (bN.mono L h3)
end
noncomputable def OR(P:Params)(D:Dt)(σ:List Addr):AO->Obj->Prop
 | .lst xs,o=> ∃its n,o=listOf its n/\aM P D σ xs its.toList
 | .aF fs,o=> ∃es n,o=dictOf es n/\(fs.map (·.1)).Nodup/\bN P D σ fs es
theorem OR.mono{P:Params}{D D':Dt}{σ σ':List Addr}(L:Le D σ D' σ'): ∀{x:AO} {o:Obj},OR P D σ x o->OR P D' σ' x o
 | .lst _,_,⟨its,n,h1,h4⟩=>⟨its,n,h1,aM.mono L h4⟩
 | .aF _,_,⟨es,n,h1,h3,h4⟩=>⟨es,n,h1,h3,bN.mono L h4⟩
structure Kx where
 D0:Dt
 s0:List Addr
 kZ:List (Addr×Obj)
 kept:List (Addr×Obj)
 os:OsState
noncomputable def Kx.cm(K:Kx):List Addr:=K.kZ.map (·.1)++K.kept.map (·.1)
theorem Kx.hf{K:Kx}{p:Addr×Obj}(h:p∈K.kZ):p.1∈K.cm:=aaZ _ (aa7 h)
theorem Kx.hk{K:Kx}{p:Addr×Obj}(h:p∈K.kept):p.1∈K.cm:=aa2 _ (aa7 h)
structure aP(g:Gl)(K:Kx)(D:Dt)(σ:List Addr)(st:List AO)(s:Shared):Prop where
 b0: ∀a o,g.B.get? a=some o->K.D0 a=some o
 d0: ∀a o,K.D0 a=some o->D a=some o
 s0: ∀(n:Nat) a,K.s0[n]? =some a->σ[n]? =some a
 dh: ∀a o,D a=some o->s.heap.get? a=some o
 kf: ∀p∈K.kZ,∃sl,s.heap.get? p.1=some {p.2 with slots:=sl}
 kp: ∀p∈K.kept,s.heap.get? p.1=some p.2
 kd: ∀a∈K.cm,D a=none
 so: ∀(n:Nat) o,st[n]? =some o-> ∃a ob,σ[n]? =some a/\s.heap.get? a=some ob/\OR g.w.params D σ o ob
 sd: ∀a∈σ,D a=none/\a∉K.cm
 sl:σ.length=st.length
 nd:σ.Nodup
 gens:s.gens= #[]
 os:s.os=K.os
noncomputable abbrev M:=Str->Option V
noncomputable def bV(m:M)(x:Str)(v:V):M:=λy=>if y=x then some v else m y
structure Fx where
 env:Env
 L:Addr
 own:List Addr
noncomputable def Fx.fa(f:Fx):List Addr:=f.L::f.own
def cT(g:Gl)(K:Kx)(f:Fx)(D:Dt)(σ:List Addr)(mm:Str->Option Value)(h:Heap)(x:Str)(v:V):Prop:=
 ∃v',VR g.w.params D σ v v'/\
  ((f.env.kindOf x=some .local/\mm x=some v')\/
   (f.env.kindOf x=some .cell/\ ∃c,f.env.cells.lookup x=some c/\c∈f.own/\h.IsCell c (some v'))\/
   ((f.env.kindOf x=some .free\/f.env.kindOf x=some .cell)/\ ∃c o,f.env.cells.lookup x=some c/\(c,o)∈K.kept/\o.data= .cell (some v')))
structure vP(g:Gl)(f:Fx):Prop where
 kind:f.env.scope.kind= .function
 loc:f.env.locals=f.L
 glo:f.env.globals=mainGlobals
 blt:f.env.builtins=builtinsNs
structure Rel(g:Gl)(K:Kx)(f:Fx)(D:Dt)(σ:List Addr)(m:M)(st:List AO)(s:Shared):Prop where
 r:aP g K D σ st s
 fd: ∀a∈f.fa,D a=none/\a∉K.cm/\a∉σ
 fn:f.fa.Nodup
 fr: ∃mm,s.heap.Ns f.L mm/\ ∀x v,m x=some v->cT g K f D σ mm s.heap x v
 oc: ∀c∈f.own,∃v,s.heap.IsCell c v
structure bI(k:Nat)(A:Around):Prop where
 hd:A.handled=none
 dep:A.depth+4* k+20<=recursionLimit
 un:A.units+60* k+400<=cLine
def WG{α β:Type}(g:Gl)(K:Kx)(f:Fx)(A:Around)(t:Sem β)(rel:Dt->List Addr->α->β->Prop)(m:M)(st:List AO)(Q:α->List AO->Prop)(E:Value->Shared->Prop):Prop:=
 ∀D σ s (Q':β->Shared->Prop),Rel g K f D σ m st s->
  (∀a st' D' σ' b s',Le D σ D' σ'->Rel g K f D' σ' m st' s'->rel D' σ' a b->Q a st'->Q' b s')->
  wpAny (model cS g.w) A t Q' E s
abbrev WE(g:Gl)(K:Kx)(f:Fx)(A:Around)(e:Expr)(m:M)(st:List AO)(Q:V->List AO->Prop)(E:Value->Shared->Prop):Prop:=
 WG g K f A (eval e f.env) (VR g.w.params) m st Q E
abbrev qS(g:Gl)(K:Kx)(f:Fx)(A:Around)(pos:Pos)(es:List Expr)(m:M)(st:List AO)(Q:List V->List AO->Prop)(E:Value->Shared->Prop):Prop:=
 WG g K f A (spliced (backTo pos (starEach es f.env))) (aM g.w.params) m st Q E
abbrev WT(g:Gl)(K:Kx)(f:Fx)(A:Around)(e:Expr)(m:M)(st:List AO)(Q:Bool->List AO->Prop)(E:Value->Shared->Prop):Prop:=
 WG g K f A (isTrue e f.env (eval e f.env)) (λ_ _ a b=>a=b) m st Q E
def W1{α β:Type}(g:Gl)(K:Kx)(f:Fx)(A:Around)(t:Value->Sem β)(x:V)(rel:Dt->List Addr->α->β->Prop)(m:M)(st:List AO)(Q:α->List AO->Prop)(E:Value->Shared->Prop):Prop:=
 ∀D σ s (Q':β->Shared->Prop) v,Rel g K f D σ m st s->VR g.w.params D σ x v->
  (∀a st' D' σ' b s',Le D σ D' σ'->Rel g K f D' σ' m st' s'->rel D' σ' a b->Q a st'->Q' b s')->
  wpAny (model cS g.w) A (t v) Q' E s
def W2{α β:Type}(g:Gl)(K:Kx)(f:Fx)(A:Around)(t:Value->Value->Sem β)(x y:V)(rel:Dt->List Addr->α->β->Prop)(m:M)(st:List AO)(Q:α->List AO->Prop)(E:Value->Shared->Prop):Prop:=
 ∀D σ s (Q':β->Shared->Prop) v u,Rel g K f D σ m st s->VR g.w.params D σ x v->VR g.w.params D σ y u->
  (∀a st' D' σ' b s',Le D σ D' σ'->Rel g K f D' σ' m st' s'->rel D' σ' a b->Q a st'->Q' b s')->
  wpAny (model cS g.w) A (t v u) Q' E s
def W3{α β:Type}(g:Gl)(K:Kx)(f:Fx)(A:Around)(t:Value->Value->Value->Sem β)(x y z:V)(rel:Dt->List Addr->α->β->Prop)(m:M)(st:List AO)(Q:α->List AO->Prop)(E:Value->Shared->Prop):Prop:=
 ∀D σ s (Q':β->Shared->Prop) v u w,Rel g K f D σ m st s->VR g.w.params D σ x v->VR g.w.params D σ y u->VR g.w.params D σ z w->
  (∀a st' D' σ' b s',Le D σ D' σ'->Rel g K f D' σ' m st' s'->rel D' σ' a b->Q a st'->Q' b s')->
  wpAny (model cS g.w) A (t v u w) Q' E s
set_option backward.match.sparseCases true in
def nI(Q:Value->Shared->Prop)(E:Value->Shared->Prop)(r:Result)(s:Shared):Prop:=match r with | .ok (.ret v)=>Q v s | .ok _=>False | .error e=>E e s
def WC(g:Gl)(K:Kx)(A:Around)(fn:Value)(xs:List V)(st:List AO)(Q:V->List AO->Prop)(E:Value->Shared->Prop):Prop:=
 ∀D σ s (Q':Value->Shared->Prop) vs,aP g K D σ st s->aM g.w.params D σ xs vs->
  (∀a st' D' σ' b s',Le D σ D' σ'->aP g K D' σ' st' s'->VR g.w.params D' σ' a b->Q a st'->Q' b s')->
  codeAny (model cS g.w) A (.call fn ⟨vs,[]⟩) (nI Q' E) s
inductive Fl where
 | next | brk | cont
 | ret (x:V)
noncomputable def FlR(P:Params)(D:Dt)(σ:List Addr):Fl->Flow->Prop
 | .next,fl=>fl= .next
 | .brk,fl=>fl= .brk
 | .cont,fl=>fl= .cont
 | .ret x,fl=> ∃v,fl= .ret v/\VR P D σ x v
def qT(g:Gl)(K:Kx)(f:Fx)(A:Around)(t:Sem Flow)(m:M)(st:List AO)(Q:Fl->M->List AO->Prop)(E:Value->Shared->Prop):Prop:=
 ∀D σ s (Q':Flow->Shared->Prop),Rel g K f D σ m st s->
  (∀a m' st' D' σ' b s',Le D σ D' σ'->Rel g K f D' σ' m' st' s'->FlR g.w.params D' σ' a b->Q a m' st'->Q' b s')->
  wpAny (model cS g.w) A t Q' E s
abbrev WS(g:Gl)(K:Kx)(f:Fx)(A:Around)(ss:List Stmt)(m:M)(st:List AO)(Q:Fl->M->List AO->Prop)(E:Value->Shared->Prop):Prop:=
 qT g K f A (execs ss f.env) m st Q E
def WA(g:Gl)(K:Kx)(f:Fx)(A:Around)(t:Value->Sem Unit)(x:V)(m:M)(st:List AO)(Q:M->List AO->Prop)(E:Value->Shared->Prop):Prop:=
 ∀D σ s (Q':Unit->Shared->Prop) v,Rel g K f D σ m st s->VR g.w.params D σ x v->
  (∀m' st' D' σ' s',Le D σ D' σ'->Rel g K f D' σ' m' st' s'->Q m' st'->Q' () s')->
  wpAny (model cS g.w) A (t v) Q' E s
end Mine
namespace Mine
theorem I4{β:Type}{c:Prop}[d:Decidable c]{k l r:β}{P:Prop}(h:(if c then k else l)=r)(h1:c->k=r->P)(h2: ¬c->l=r->P):P:=by
 cases d with
 | isTrue hc=>exact h1 hc h
 | isFalse hc=>exact h2 hc h
theorem ae{α β:Type}{f:α->β}{l:List α}{b:β}{G:Prop}(h:b∈l.map f)(g: ∀a,a∈l->f a=b->G):G:=ao (aaH.mp h) g
theorem iA{α β:Type}{f:α->Option β}{l:List α}{b:β}{G:Prop}(h:b∈l.filterMap f)(g: ∀a,a∈l->f a=some b->G):G:=ao (aba.mp h) g
noncomputable def Dt.put(D:Dt)(a:Addr)(o:Obj):Dt:=λb=>if b=a then some o else D b
theorem Dt.dN(D:Dt)(a:Addr)(o:Obj):(D.put a o) a=some o:=if_pos rfl
theorem Dt.kC(D:Dt){a b:Addr}(o:Obj)(h:b≠a):(D.put a o) b=D b:=if_neg h
theorem au{h:Heap}:h.get? h.objs.size=none:=by
 cases q:h.get? h.objs.size with
 | none=>rfl
 | some o=>exact absurd (abX q) (ac4 _)
section
variable{g:Gl}{K:Kx}{f:Fx}{D:Dt}{σ:List Addr}{m:M}{st:List AO}{s s':Shared}
theorem aP.none_of(R:aP g K D σ st s){a:Addr}(hn:s.heap.get? a=none):D a=none/\a∉K.cm/\a∉σ:=by
 refine⟨?_,?_,?_⟩
 ·cases q:D a with
  | none=>rfl
  | some o=>have :=R.dh a o q;rw[hn] at this;cases this
 ·intro hm
  rcases aal.mp hm with h | h
  ·refine ae h ?_;rintro p hp rfl
   refine aj (R.kf p hp) λsl this=> ?_;rw[hn] at this;cases this
  ·refine ae h ?_;rintro p hp rfl
   have :=R.kp p hp;rw[hn] at this;cases this
 ·intro hm
  refine aj (aa4 hm) λn Ed=> ?_
  have dc:n<st.length:=by rw[<-R.sl];exact(aar.mp Ed).1
  refine cj (R.so n st[n] (aaG dc)) λb ob h1 h2 _=> ?_
  rw[Ed] at h1;cases h1
  rw[hn] at h2;cases h2
theorem aP.cA(R:aP g K D σ st s){n:Nat}{xs:List V}{a:Addr}{G:Prop}(hs:st[n]? =some (.lst xs))(h1:σ[n]? =some a)(k: ∀its n',s.heap.get? a=some (listOf its n')->aM g.w.params D σ xs its.toList->G):G:=
 cj (R.so n _ hs) λ_ _ q1 q2 q3=>cc q3 λits n' eo q3=>k its n' (aaj (q1.symm.trans h1)▸eo▸q2) q3
theorem aP.rB(R:aP g K D σ st s){n:Nat}{fs:List (Str×V)}{a:Addr}{G:Prop}(hs:st[n]? =some (.aF fs))(h1:σ[n]? =some a)(k: ∀es n',s.heap.get? a=some (dictOf es n')->(fs.map (·.1)).Nodup->bN g.w.params D σ fs es->G):G:=
 cj (R.so n _ hs) λ_ _ q1 q2 q3=>cj q3 λes n' eo q3 q4=>k es n' (aaj (q1.symm.trans h1)▸eo▸q2) q3 q4
theorem Rel.none_of(R:Rel g K f D σ m st s){a:Addr}(hn:s.heap.get? a=none):D a=none/\a∉K.cm/\a∉σ/\a∉f.fa:=by
 refine bM (R.r.none_of hn) λh1 h2 h3=> ?_
 refine⟨h1,h2,h3,?_⟩
 intro hm
 rcases aat.mp hm with rfl | hm
 ·refine ao R.fr ?_;rintro mm ⟨o,es,ep,ho,_⟩ _
  rw[hn] at ho;cases ho
 ·refine cc (R.oc a hm) λv o ho _=> ?_
  rw[hn] at ho;cases ho
structure Keeps(s s':Shared):Prop where
 h: ∀b o,s.heap.get? b=some o->s'.heap.get? b=some o
 gens:s'.gens=s.gens
 os:s'.os=s.os
theorem Keeps.refl:Keeps s s:=⟨λ_ _ h=>h,rfl,rfl⟩
theorem Keeps.trans{C7:Shared}(x:Keeps s s')(y:Keeps s' C7):Keeps s C7:=⟨λb o h=>y.h b o (x.h b o h),y.gens.trans x.gens,y.os.trans x.os⟩
theorem aP.keep(R:aP g K D σ st s)(k:Keeps s s'):aP g K D σ st s' where
 b0:=R.b0
 d0:=R.d0
 s0:=R.s0
 dh:=λa o h=>k.h _ _ (R.dh a o h)
 kf:=λp hp=>let⟨sl,h⟩:=R.kf p hp;⟨sl,k.h _ _ h⟩
 kp:=λp hp=>k.h _ _ (R.kp p hp)
 kd:=R.kd
 so:=λn o h=>let⟨a,ob,h1,h2,h3⟩:=R.so n o h;⟨a,ob,h1,k.h _ _ h2,h3⟩
 sd:=R.sd
 sl:=R.sl
 nd:=R.nd
 gens:=k.gens.trans R.gens
 os:=k.os.trans R.os
theorem cT.go{mm mm':Str->Option Value}{h h':Heap}{x:Str}{v:V}(S:cT g K f D σ mm h x v)(h1: ∀u,mm x=some u->mm' x=some u)(h2: ∀c o,f.env.cells.lookup x=some c->c∈f.own->h.get? c=some o->h'.get? c=some o):cT g K f D σ mm' h' x v:=
 ao S λv' q1 q2=>⟨v',q1,q2.imp (λq=>⟨q.1,h1 _ q.2⟩) λq=>q.imp (λq=>⟨q.1,eI q.2 λc q3 q4 q5=>⟨c,q3,q4,ao q5 λo q5 q6=>⟨o,h2 c o q3 q4 q5,q6⟩⟩⟩) id⟩
theorem cT.keep{mm:Str->Option Value}{h h':Heap}{x:Str}{v:V}(S:cT g K f D σ mm h x v)(k: ∀b o,h.get? b=some o->h'.get? b=some o):cT g K f D σ mm h' x v:=S.go (λ_ h=>h) λc o _ _ h=>k c o h
theorem cT.mono{D':Dt}{σ':List Addr}{mm:Str->Option Value}{h:Heap}{x:Str}{v:V}(S:cT g K f D σ mm h x v)(L:Le D σ D' σ'):cT g K f D' σ' mm h x v:=by
 refine ao S λv' h1 h2=> ?_;clear S
 exact⟨v',h1.mono L,h2⟩
theorem Rel.keep(R:Rel g K f D σ m st s)(k:Keeps s s'):Rel g K f D σ m st s' where
 r:=R.r.keep k
 fd:=R.fd
 fn:=R.fn
 fr:=let⟨mm,h1,h2⟩:=R.fr;⟨mm,h1.keeps k.h,λx v hv=>(h2 x v hv).keep k.h⟩
 oc:=λc hc=>let⟨v,o,h1,h2⟩:=R.oc c hc;⟨v,o,k.h _ _ h1,h2⟩
theorem Le.put{D:Dt}{σ:List Addr}{a:Addr}{o:Obj}(hn:D a=none):Le D σ (D.put a o) σ:=
 ⟨λb ob h=>by
  by_cases e:b=a
  ·subst e;rw[hn] at h;cases h
  ·rw[Dt.kC _ _ e];exact h,λ_ _ h=>h⟩
theorem aP.frozen(R:aP g K D σ st s){a:Addr}{o:Obj}(h1:D a=none)(h2:a∉K.cm)(h3:a∉σ)(ha:s.heap.get? a=some o):aP g K (D.put a o) σ st s where
 b0:=R.b0
 d0:=λb ob h=>(Le.put (σ:=σ) h1).d _ _ (R.d0 b ob h)
 s0:=R.s0
 dh:=λb ob h=>by
  by_cases e:b=a
  ·subst e;rw[Dt.dN] at h;cases h;exact ha
  ·rw[Dt.kC _ _ e] at h;exact R.dh b ob h
 kf:=R.kf
 kp:=R.kp
 kd:=λb hb=>by rw[Dt.kC D o (show b≠a from λe=>h2 (e▸hb))];exact R.kd b hb
 so:=λn ob h=>let⟨c,oc,q1,q2,q3⟩:=R.so n ob h;⟨c,oc,q1,q2,q3.mono (Le.put h1)⟩
 sd:=λb hb=>⟨by rw[Dt.kC D o (show b≠a from λe=>h3 (e▸hb))];exact(R.sd b hb).1,(R.sd b hb).2⟩
 sl:=R.sl
 nd:=R.nd
 gens:=R.gens
 os:=R.os
theorem Rel.frozen(R:Rel g K f D σ m st s)(k:Keeps s s'){a:Addr}{o:Obj}(hn:s.heap.get? a=none)(ha:s'.heap.get? a=some o):
  Le D σ (D.put a o) σ/\Rel g K f (D.put a o) σ m st s':=by
 refine jj (R.none_of hn) λh1 h2 h3 h4=> ?_
 refine⟨Le.put h1,⟨(R.r.keep k).frozen h1 h2 h3 ha,λb hb=>⟨?_,(R.fd b hb).2⟩,R.fn,?_,(R.keep k).oc⟩⟩
 ·rw[Dt.kC D o (show b≠a from λe=>h4 (e▸hb))];exact(R.fd b hb).1
 ·refine ao ((R.keep k).fr) λmm q1 q2=> ?_
  exact⟨mm,q1,λx v hv=>(q2 x v hv).mono (Le.put h1)⟩
theorem Le.snoc{D:Dt}{σ:List Addr}{a:Addr}:Le D σ D (σ++[a]):=
 ⟨λ_ _ h=>h,λn b h=>by rw[aaV (aar.mp h).1];exact h⟩
theorem aP.alloc(R:aP g K D σ st s){a:Addr}{o:Obj}{x:AO}(h1:D a=none)(h2:a∉K.cm)(h3:a∉σ)(ha:s.heap.get? a=some o)(hO:OR g.w.params D (σ++[a]) x o):aP g K D (σ++[a]) (st++[x]) s where
 b0:=R.b0
 d0:=R.d0
 s0:=λn b h=>(Le.snoc (D:=D)).s _ _ (R.s0 n b h)
 dh:=R.dh
 kf:=R.kf
 kp:=R.kp
 kd:=R.kd
 so:=λn ob h=>by
  by_cases hl:n<st.length
  ·rw[aaV hl] at h
   refine cj (R.so n ob h) λc oc q1 q2 q3=> ?_
   exact⟨c,oc,(Le.snoc (D:=D)).s _ _ q1,q2,q3.mono (Le.snoc (D:=D))⟩
  ·rw[aau (Nat.le_of_not_lt hl)] at h
   have h0:n- st.length=0:=by
    cases q:n- st.length with
    | zero=>rfl
    | succ k=>rw[q] at h;simp at h
   rw[h0] at h
   cases h
   refine⟨a,o,?_,ha,hO⟩
   rw[aau (by rw[R.sl];exact o1 hl),R.sl,h0]
   rfl
 sd:=λb hb=>by
  rcases aal.mp hb with hb | hb
  ·exact R.sd b hb
  ·cases abb.mp hb;exact⟨h1,h2⟩
 sl:=by rw[aag,aag,R.sl];rfl
 nd:=by
  rw[aaQ]
  refine⟨R.nd,by simp,λb hb c hc=> ?_⟩
  cases abb.mp hc
  exact λe=>h3 (e▸hb)
 gens:=R.gens
 os:=R.os
theorem Rel.alloc(R:Rel g K f D σ m st s)(k:Keeps s s'){a:Addr}{o:Obj}{x:AO}(hn:s.heap.get? a=none)(ha:s'.heap.get? a=some o)(hO:OR g.w.params D (σ++[a]) x o):
  Rel g K f D (σ++[a]) m (st++[x]) s':=by
 refine jj (R.none_of hn) λh1 h2 h3 h4=> ?_
 refine⟨(R.r.keep k).alloc h1 h2 h3 ha hO,λb hb=>⟨(R.fd b hb).1,(R.fd b hb).2.1,?_⟩,R.fn,?_,(R.keep k).oc⟩
 ·intro hm
  rcases aal.mp hm with hm | hm
  ·exact(R.fd b hb).2.2 hm
  ·cases abb.mp hm;exact h4 hb
 ·refine ao ((R.keep k).fr) λmm q1 q2=> ?_
  exact⟨mm,q1,λx v hv=>(q2 x v hv).mono (Le.snoc (D:=D))⟩
structure vM(a:Addr)(s s':Shared):Prop where
 h: ∀b o,b≠a->s.heap.get? b=some o->s'.heap.get? b=some o
 gens:s'.gens=s.gens
 os:s'.os=s.os
theorem aP.mv{I:Addr}(R:aP g K D σ st s)(hD:D I=none)(hK:I∉K.cm)(hσ:I∉σ)(k:vM I s s'):aP g K D σ st s' where
 b0:=R.b0
 d0:=R.d0
 s0:=R.s0
 dh:=λa o h=>k.h a o (λe=>aY (hD.symm.trans (e▸h))) (R.dh a o h)
 kf:=λp hp=>let⟨sl,h⟩:=R.kf p hp;⟨sl,k.h _ _ (λe=>hK (e▸Kx.hf hp)) h⟩
 kp:=λp hp=>k.h _ _ (λe=>hK (e▸Kx.hk hp)) (R.kp p hp)
 kd:=R.kd
 so:=λn o h=>let⟨a,ob,q1,q2,q3⟩:=R.so n o h;⟨a,ob,q1,k.h a ob (λe=>hσ (e▸aas q1)) q2,q3⟩
 sd:=R.sd
 sl:=R.sl
 nd:=R.nd
 gens:=k.gens.trans R.gens
 os:=k.os.trans R.os
theorem aP.upd(R:aP g K D σ st s){n:Nat}{a:Addr}{o:Obj}{x:AO}(hs:σ[n]? =some a)(k:vM a s s')(ha:s'.heap.get? a=some o)(hO:OR g.w.params D σ x o):aP g K D σ (st.set n x) s' where
 b0:=R.b0
 d0:=R.d0
 s0:=R.s0
 dh:=λb ob h=>k.h b ob (λe=>aY ((R.sd a (aas hs)).1.symm.trans (e▸h))) (R.dh b ob h)
 kf:=λp hp=>let⟨sl,h⟩:=R.kf p hp;⟨sl,k.h _ _ (λe=>(R.sd a (aas hs)).2 (e▸Kx.hf hp)) h⟩
 kp:=λp hp=>k.h _ _ (λe=>(R.sd a (aas hs)).2 (e▸Kx.hk hp)) (R.kp p hp)
 kd:=R.kd
 so:=λj ob h=>by
  by_cases hj:n=j
  ·subst hj
   rw[List.getElem?_set_self'] at h
   cases q:st[n]? with
   | none=>rw[q] at h;exact aY h
   | some y=>rw[q] at h;exact⟨a,o,hs,ha,aaj h▸hO⟩
  ·rw[List.getElem?_set_ne hj] at h
   exact cj (R.so j ob h) λc oc q1 q2 q3=>⟨c,oc,q1,k.h c oc (λe=>hj (aj (aar.mp hs) λb1 e1=>aj (aar.mp q1) λb2 e2=>(List.getElem_inj R.nd).mp (e1.trans (e.symm.trans e2.symm)))) q2,q3⟩
 sd:=R.sd
 sl:=by rw[List.length_set];exact R.sl
 nd:=R.nd
 gens:=k.gens.trans R.gens
 os:=k.os.trans R.os
theorem Rel.IM{I:Addr}(R:Rel g K f D σ m st s)(hf:I∉f.fa)(k:vM I s s'):(∃mm,s'.heap.Ns f.L mm/\ ∀x v,m x=some v->cT g K f D σ mm s'.heap x v)/\ ∀c∈f.own,∃v,s'.heap.IsCell c v:=
 ⟨ao R.fr λmm h1 h2=>⟨mm,h1.at' (λo h=>k.h _ _ (λe=>hf (e▸aak)) h),λx v hv=>(h2 x v hv).go (λ_ h=>h) λc o _ hc ho=>k.h _ _ (λe=>hf (e▸aai _ hc)) ho⟩,
  λc hc=>let⟨v,o,h1,h2⟩:=R.oc c hc;⟨v,o,k.h _ _ (λe=>hf (e▸aai _ hc)) h1,h2⟩⟩
theorem Rel.upd(R:Rel g K f D σ m st s){n:Nat}{a:Addr}{o:Obj}{x:AO}(hs:σ[n]? =some a)(k:vM a s s')(ha:s'.heap.get? a=some o)(hO:OR g.w.params D σ x o):Rel g K f D σ m (st.set n x) s':=
 have q:=R.IM (λh=>(R.fd a h).2.2 (aas hs)) k
 ⟨R.r.upd hs k ha hO,R.fd,R.fn,q.1,q.2⟩
theorem Rel.qg(R:Rel g K f D σ m st s){c:Addr}(hc:c∈f.own):c≠f.L:=λe=>(aaK.mp R.fn).1 (e▸hc)
theorem Rel.Dg(R:Rel g K f D σ m st s)(F:vP g f){x:Str}{v:V}{v':Value}{h':Heap}{t:Nat}(hl:f.env.kindOf x=some .local)(hv:VR g.w.params D σ v v')
  {mm:Str->Option Value} (K9: ∀y u,m y=some u->cT g K f D σ mm s.heap y u)
  (hn:h'.Ns f.L (λy=>if y=x then some v' else mm y)) (hb:Heap.SameBut f.L s.heap h'):Rel g K f D σ (bV m x v) st {s with heap:=h',toks:=t}:=
 have k:vM f.L s {s with heap:=h',toks:=t}:=⟨λb o Ec h=>(hb.2 b Ec).trans h,rfl,rfl⟩
 have fL:=R.fd f.L aak
 ⟨R.r.mv fL.1 fL.2.1 fL.2.2 k,R.fd,R.fn,⟨_,hn,λy u hu=>I4 hu (λe h=>by cases h;cases e;exact⟨v',hv,.inl ⟨hl,if_pos rfl⟩⟩) λe h=>(K9 y u h).go (λw hw=>(if_neg e).trans hw) λc o _ hc ho=>k.h c o (R.qg hc) ho⟩,
  λc hc=>let⟨v,o,h1,h2⟩:=R.oc c hc;⟨v,o,k.h _ _ (R.qg hc) h1,h2⟩⟩
theorem Rel.setCell(R:Rel g K f D σ m st s){x:Str}{v:V}{v':Value}{c:Addr}{s':Shared}(K6: ∀y,f.env.cells.lookup y=some c->y=x)(hk:f.env.kindOf x=some .cell)(hc:f.env.cells.lookup x=some c)(ho:c∈f.own)
  (hv:VR g.w.params D σ v v') (hn:s'.heap.IsCell c (some v')) (hb:vM c s s'):Rel g K f D σ (bV m x v) st s':=
 have fc:=R.fd c (aai _ ho)
 ⟨R.r.mv fc.1 fc.2.1 fc.2.2 hb,R.fd,R.fn,ao R.fr λmm T9 K9=>⟨mm,T9.at' (λo h=>hb.h _ _ (R.qg ho).symm h),λy u hu=>I4 hu (λe h=>by cases h;cases e;exact⟨v',hv,.inr (.inl ⟨hk,c,hc,ho,hn⟩)⟩) λe h=>(K9 y u h).go (λ_ h=>h) λd o hd _ h=>hb.h d o (λz=>e (K6 y (z▸hd))) h⟩,
  λd hd=>by
   by_cases e:d=c
   ·exact e▸⟨_,hn⟩
   ·exact cc (R.oc d hd) λu o' h1 h2=>⟨u,o',hb.h _ _ e h1,h2⟩⟩
end
end Mine
namespace Mine
section
variable{g:Gl}{K:Kx}{f:Fx}{A:Around}{m:M}{st:List AO}{E:Value->Shared->Prop}{D:Dt}{σ:List Addr}{s:Shared}
theorem Rel.base(R:Rel g K f D σ m st s): ∀a o,g.B.get? a=some o->s.heap.get? a=some o:=λa o h=>R.r.dh a o (R.r.d0 a o (R.r.b0 a o h))
theorem aP.base(R:aP g K D σ st s): ∀a o,g.B.get? a=some o->s.heap.get? a=some o:=λa o h=>R.dh a o (R.d0 a o (R.b0 a o h))
theorem Rel.pI(R:Rel g K f D σ m st s):(Mine.KN g.w.params).In s.heap:=g.hK.keeps R.base
theorem aP.pI(R:aP g K D σ st s):(Mine.KN g.w.params).In s.heap:=g.hK.keeps R.base
theorem aP.tok(R:aP g K D σ st s)(t:Nat):aP g K D σ st {s with toks:=t}:=R.keep ⟨λ_ _ h=>h,rfl,rfl⟩
theorem Rel.tok(R:Rel g K f D σ m st s)(t:Nat):Rel g K f D σ m st {s with toks:=t}:=R.keep ⟨λ_ _ h=>h,rfl,rfl⟩
theorem fO(F:vP g f){x:Str}{pos:Pos}{v:V}{Q:V->List AO->Prop}(hv:m x=some v)(hQ:Q v st)
  (hd:(x==("__debug__":Str))=false:=by decide+kernel) (hc:(x==("__classdict__":Str))=false:=by decide+kernel):WE g K f A (.Name x pos) m st Q E:=by
 intro D σ s Q' R k
 refine wpAny_Name ?_ hd
 refine ao R.fr λmm h1 h2=> ?_
 refine ao (h2 x v hv) λv' hr hs=> ?_
 rcases hs with⟨q1,q2⟩ | ⟨q1,c,q2,_,q3⟩ | ⟨q1 | q1,c,o,q2,q3,q4⟩
 ·refine wpAny_loadName_local F.kind q1 (by rw[F.loc];exact h1) q2 ?_
  exact k v st D σ v' s Le.refl R hr hQ
 ·exact wpAny_loadName_cell F.kind q1 q2 q3 (k v st D σ v' s Le.refl R hr hQ)
 ·exact wpAny_loadName_free F.kind q1 q2 ⟨o,R.r.kp _ q3,q4⟩ (k v st D σ v' s Le.refl R hr hQ) hc
 ·exact wpAny_loadName_cell F.kind q1 q2 ⟨o,R.r.kp _ q3,q4⟩ (k v st D σ v' s Le.refl R hr hQ)
def mY(g:Gl)(x:Str)(v:Value):Prop:=g.mg x=some v\/(g.mg x=none/\g.mb x=some v)
theorem qR(F:vP g f){x:Str}{pos:Pos}{v:Value}{Q:V->List AO->Prop}(hx:mY g x v)(hQ:Q (.f6 v) st)(hk:f.env.kindOf x=some .globalImplicit:=by kernel_rfl)
  (hd:(x==("__debug__":Str))=false:=by decide+kernel):WE g K f A (.Name x pos) m st Q E:=by
 intro D σ s Q' R k
 refine Calls.Name_function_global F.kind hk ?_ hd
 have k':=k (.f6 v) st D σ v s Le.refl R rfl hQ
 have hg:s.heap.Ns f.env.globals g.mg:=by rw[F.glo];exact g.hT.g.keeps R.base
 have hb:s.heap.Ns f.env.builtins g.mb:=by rw[F.blt];exact g.hT.b.keeps R.base
 rcases hx with q2 | ⟨q2,q3⟩
 ·exact Calls.loadGlobal_global hg q2 k'
 ·exact Calls.loadGlobal_builtin hg q2 hb q3 k'
theorem J4{i:Int}{n:Nat}{pos:Pos}{Q:V->List AO->Prop}(hQ:Q (.int i) st):WE g K f A (.Constant (.int i) n pos) m st Q E:=by
 intro D σ s Q' R k
 exact wpAny_Constant_int (k (.int i) st D σ _ _ Le.refl (R.tok _) ⟨_,rfl⟩ hQ)
theorem J5{x:Str}{n:Nat}{pos:Pos}{Q:V->List AO->Prop}(hQ:Q (.str x) st):WE g K f A (.Constant (.str x) n pos) m st Q E:=by
 intro D σ s Q' R k
 exact wpAny_Constant_str (k (.str x) st D σ _ _ Le.refl (R.tok _) ⟨_,rfl⟩ hQ)
theorem EG{n:Nat}{pos:Pos}{Q:V->List AO->Prop}(hQ:Q .none st):WE g K f A (.Constant .none n pos) m st Q E:=by
 intro D σ s Q' R k
 exact wpAny_Constant_none (k .none st D σ _ _ Le.refl R rfl hQ)
theorem ED{b:Bool}{n:Nat}{pos:Pos}{Q:V->List AO->Prop}(hQ:Q (.bool b) st):WE g K f A (.Constant (.bool b) n pos) m st Q E:=by
 intro D σ s Q' R k
 exact wpAny_Constant_bool (k (.bool b) st D σ _ _ Le.refl R rfl hQ)
theorem Ab{l r:Expr}{op:Operator}{pos:Pos}{Q:V->List AO->Prop}
  (h:WE g K f A l m st (λa bK=>WE g K f A r m bK (λb d7=>W2 g K f A (binaryOp op) a b (VR g.w.params) m d7 Q E) E) E):WE g K f A (.BinOp l op r pos) m st Q E:=by
 intro D σ s Q' R k
 refine wpAny_BinOp (h D σ s _ R λa bK D₁ σ₁ v s₁ L₁ R₁ r₁ h₁=> ?_)
 refine h₁ D₁ σ₁ s₁ _ R₁ λb d7 D₂ σ₂ u s₂ L₂ R₂ r₂ h₂=> ?_
 exact h₂ D₂ σ₂ s₂ Q' v u R₂ (r₁.mono L₂) r₂ λc eA D₃ σ₃ z s₃ L₃ R₃ r₃ h₃=>k c eA D₃ σ₃ z s₃ ((L₁.trans L₂).trans L₃) R₃ r₃ h₃
theorem ug{x:Expr}{op:UnaryOp}{pos:Pos}{Q:V->List AO->Prop}
  (h:WE g K f A x m st (λa bK=>W1 g K f A (unaryOp op) a (VR g.w.params) m bK Q E) E):WE g K f A (.UnaryOp op x pos) m st Q E:=by
 intro D σ s Q' R k
 refine wpAny_UnaryOp (h D σ s _ R λa bK D₁ σ₁ v s₁ L₁ R₁ r₁ h₁=> ?_)
 exact h₁ D₁ σ₁ s₁ Q' v R₁ r₁ λc eA D₃ σ₃ z s₃ L₃ R₃ r₃ h₃=>k c eA D₃ σ₃ z s₃ (L₁.trans L₃) R₃ r₃ h₃
theorem kF{l r:Expr}{op:CmpOp}{pos:Pos}{Q:V->List AO->Prop}
  (h:WE g K f A l m st (λa bK=>WE g K f A r m bK (λb d7=>W2 g K f A (compareOp op) a b (VR g.w.params) m d7 Q E) E) E)
  (hm:behindInMarks op r=false:=by with_unfolding_all rfl):WE g K f A (.Compare l [op] [r] pos) m st Q E:=by
 intro D σ s Q' R k
 refine wpAny_Compare1 (h D σ s _ R λa bK D₁ σ₁ v s₁ L₁ R₁ r₁ h₁=> ?_) hm
 refine h₁ D₁ σ₁ s₁ _ R₁ λb d7 D₂ σ₂ u s₂ L₂ R₂ r₂ h₂=> ?_
 exact h₂ D₂ σ₂ s₂ Q' v u R₂ (r₁.mono L₂) r₂ λc eA D₃ σ₃ z s₃ L₃ R₃ r₃ h₃=>k c eA D₃ σ₃ z s₃ ((L₁.trans L₂).trans L₃) R₃ r₃ h₃
theorem Ac{t b o:Expr}{pos:Pos}{Q:V->List AO->Prop}
  (h:WT g K f A t m st (λc bK=>(c=true->WE g K f A b m bK Q E)/\(c=false->WE g K f A o m bK Q E)) E):WE g K f A (.IfExp t b o pos) m st Q E:=by
 intro D σ s Q' R k
 refine wpAny_IfExp (h D σ s _ R λa bK D₁ σ₁ v s₁ L₁ R₁ r₁ h₁=> ?_)
 subst r₁
 cases a with
 | true=>exact h₁.1 rfl D₁ σ₁ s₁ Q' R₁ λc eA D₃ σ₃ z s₃ L₃ R₃ r₃ h₃=>k c eA D₃ σ₃ z s₃ (L₁.trans L₃) R₃ r₃ h₃
 | false=>exact h₁.2 rfl D₁ σ₁ s₁ Q' R₁ λc eA D₃ σ₃ z s₃ L₃ R₃ r₃ h₃=>k c eA D₃ σ₃ z s₃ (L₁.trans L₃) R₃ r₃ h₃
theorem dC{e:Expr}{name:Str}{pos:Pos}{Q:V->List AO->Prop}
  (h:WE g K f A e m st (λa bK=>W1 g K f A (λo=>getAttr o name true) a (VR g.w.params) m bK Q E) E)
  (he:eval (.Attribute e name pos) f.env=(do
   let o<-eval e f.env
   standAt pos.atName
   let r<-holding [o] (getAttr o name true)
   letTemporaryGo e o r
   pure r):=by with_unfolding_all rfl):WE g K f A (.Attribute e name pos) m st Q E:=by
 intro D σ s Q' R k
 refine Attribute_any_ (h D σ s _ R λa bK D₁ σ₁ v s₁ L₁ R₁ r₁ h₁=> ?_) he
 exact h₁ D₁ σ₁ s₁ Q' v R₁ r₁ λc eA D₃ σ₃ z s₃ L₃ R₃ r₃ h₃=>k c eA D₃ σ₃ z s₃ (L₁.trans L₃) R₃ r₃ h₃
theorem J9{e:Expr}{Q:Bool->List AO->Prop}(h:WE g K f A e m st (λa bK=>W1 g K f A truthy a (λ_ _ a b=>a=b) m bK Q E) E)
  (he:isTrue e f.env (eval e f.env)=(do let v<-eval e f.env;standAt e.pos;holding [v] (truthy v)):=by rfl):WT g K f A e m st Q E:=by
 intro D σ s Q' R k
 refine wpAny_isTrue_value (h D σ s _ R λa bK D₁ σ₁ v s₁ L₁ R₁ r₁ h₁=> ?_) he
 exact h₁ D₁ σ₁ s₁ Q' v R₁ r₁ λc eA D₃ σ₃ z s₃ L₃ R₃ r₃ h₃=>k c eA D₃ σ₃ z s₃ (L₁.trans L₃) R₃ r₃ h₃
theorem qU{l r:Expr}{op:CmpOp}{pos:Pos}{Q:Bool->List AO->Prop}
  (h:WE g K f A l m st (λa bK=>WE g K f A r m bK (λb d7=>W2 g K f A (compareOp op) a b (VR g.w.params) m d7 (λc eA=>W1 g K f A truthy c (λ_ _ a b=>a=b) m eA Q E) E) E) E)
  (hm:behindInMarks op r=false:=by with_unfolding_all rfl):WT g K f A (.Compare l [op] [r] pos) m st Q E:=by
 intro D σ s Q' R k
 refine wpAny_isTrue_Compare1 (h D σ s _ R λa bK D₁ σ₁ v s₁ L₁ R₁ r₁ h₁=> ?_) hm
 refine h₁ D₁ σ₁ s₁ _ R₁ λb d7 D₂ σ₂ u s₂ L₂ R₂ r₂ h₂=> ?_
 refine h₂ D₂ σ₂ s₂ _ v u R₂ (r₁.mono L₂) r₂ λc eA D₃ σ₃ z s₃ L₃ R₃ r₃ h₃=> ?_
 exact h₃ D₃ σ₃ s₃ Q' z R₃ r₃ λc MP D₄ σ₄ z s₄ L₄ R₄ r₄ h₄=>k c MP D₄ σ₄ z s₄ (((L₁.trans L₂).trans L₃).trans L₄) R₄ r₄ h₄
theorem J8{x:Expr}{pos:Pos}{Q:Bool->List AO->Prop}(h:WT g K f A x m st (λb bK=>Q (!b) bK) E):WT g K f A (.UnaryOp .Not x pos) m st Q E:=by
 intro D σ s Q' R k
 exact wpAny_isTrue_Not (h D σ s _ R λa bK D₁ σ₁ v s₁ L₁ R₁ r₁ h₁=>k (!a) bK D₁ σ₁ (!v) s₁ L₁ R₁ (by rw[r₁]) h₁)
abbrev oM(g:Gl)(K:Kx)(f:Fx)(A:Around)(op:BoolOp)(es:List Expr)(m:M)(st:List AO)(Q:Bool->List AO->Prop)(E:Value->Shared->Prop):Prop:=
 WG g K f A (allTrue op es f.env) (λ_ _ (a b:Bool)=>a=b) m st Q E
theorem yk{op:BoolOp}{es:List Expr}{pos:Pos}{Q:Bool->List AO->Prop}(h:oM g K f A op es m st Q E):WT g K f A (.BoolOp op es pos) m st Q E:=
 λD σ s Q' R k=>wpAny_isTrue_BoolOp (h D σ s Q' R k)
theorem oN{Q:Bool->List AO->Prop}(h:Q true st):oM g K f A .And [] m st Q E:=λD σ s Q' R k=>wpAny_allTrue_And_nil (k true st D σ true s Le.refl R rfl h)
theorem qP{Q:Bool->List AO->Prop}(h:Q false st):oM g K f A .Or [] m st Q E:=λD σ s Q' R k=>wpAny_allTrue_Or_nil (k false st D σ false s Le.refl R rfl h)
theorem Aa{e:Expr}{es:List Expr}{Q:Bool->List AO->Prop}(h:WT g K f A e m st (λc bK=>(c=true->oM g K f A .And es m bK Q E)/\(c=false->Q false bK)) E):oM g K f A .And (e::es) m st Q E:=by
 intro D σ s Q' R k
 refine wpAny_allTrue_And_cons (h D σ s _ R λa bK D₁ σ₁ v s₁ L₁ R₁ r₁ h₁=> ?_)
 subst r₁
 cases a with
 | true=>exact h₁.1 rfl D₁ σ₁ s₁ Q' R₁ λc eA D₃ σ₃ z s₃ L₃ R₃ r₃ h₃=>k c eA D₃ σ₃ z s₃ (L₁.trans L₃) R₃ r₃ h₃
 | false=>exact k false bK D₁ σ₁ false s₁ L₁ R₁ rfl (h₁.2 rfl)
theorem EC{e:Expr}{es:List Expr}{Q:Bool->List AO->Prop}(h:WT g K f A e m st (λc bK=>(c=true->Q true bK)/\(c=false->oM g K f A .Or es m bK Q E)) E):oM g K f A .Or (e::es) m st Q E:=by
 intro D σ s Q' R k
 refine wpAny_allTrue_Or_cons (h D σ s _ R λa bK D₁ σ₁ v s₁ L₁ R₁ r₁ h₁=> ?_)
 subst r₁
 cases a with
 | false=>exact h₁.2 rfl D₁ σ₁ s₁ Q' R₁ λc eA D₃ σ₃ z s₃ L₃ R₃ r₃ h₃=>k c eA D₃ σ₃ z s₃ (L₁.trans L₃) R₃ r₃ h₃
 | true=>exact k true bK D₁ σ₁ true s₁ L₁ R₁ rfl (h₁.1 rfl)
theorem oP{pos:Pos}{Q:List V->List AO->Prop}(h:Q [] st):qS g K f A pos [] m st Q E:=λD σ s Q' R k=>wpAny_items_nil (k [] st D σ [] s Le.refl R rfl h)
theorem eW{e:Expr}{es:List Expr}{pos:Pos}{Q:List V->List AO->Prop}
  (h:WE g K f A e m st (λa bK=>qS g K f A pos es m bK (λas d7=>Q (a::as) d7) E) E)
  (he:starEach (e::es) f.env=(false,eval e f.env)::starEach es f.env:=by rfl):qS g K f A pos (e::es) m st Q E:=by
 intro D σ s Q' R k
 rw[he]
 refine Calls.spliced_cons (h D σ s _ R λa bK D₁ σ₁ v s₁ L₁ R₁ r₁ h₁=> ?_)
 exact h₁ D₁ σ₁ s₁ _ R₁ λas d7 D₂ σ₂ vs s₂ L₂ R₂ r₂ h₂=>k (a::as) d7 D₂ σ₂ (v::vs) s₂ (L₁.trans L₂) R₂ ⟨v,vs,rfl,r₁.mono L₂,r₂⟩ h₂
theorem aM.length{P:Params}{D:Dt}{σ:List Addr}: ∀{xs:List V} {vs:List Value},aM P D σ xs vs->vs.length=xs.length
 | [],_,h=>by cases h.dp;rfl
 | _::_,_,h=>by
  refine aM.aW h ?_;clear h;rintro v r rfl _ h3
  simp[aM.length h3]
theorem uS{s:Shared}{o:Obj}{t:Nat}:Keeps s {s with heap:=s.heap.push o,toks:=t}:=⟨λ_ _ h=>aaE _ h,rfl,rfl⟩
theorem Rel.LL{T:String}(R:Rel g K f D σ m st s){vs:List Value}: ∃D',Le D σ D' σ/\Rel g K f D' σ m st {s with heap:=s.heap.push {cls:= .type T,data:= .seq vs.toArray}}/\D' s.heap.objs.size=some {cls:= .type T,data:= .seq vs.toArray}:=by
 refine aO (R.frozen (s':={s with heap:=s.heap.push {cls:= .type T,data:= .seq vs.toArray}}) (o:={cls:= .type T,data:= .seq vs.toArray}) uS au (aaO _ rfl)) λh1 h2=> ?_
 exact⟨_,h1,h2,Dt.dN ..⟩
theorem qQ{es:List Expr}{n:Nat}{pos:Pos}{Q:V->List AO->Prop}
  (h:qS g K f A pos es m st (λxs bK=>xs.length<=sizeLine/\Q (.tup xs) bK) E):WE g K f A (.Tuple es n pos) m st Q E:=by
 intro D σ s Q' R k
 refine wpAny_Tuple_spliced (h D σ s _ R λxs bK D₁ σ₁ vs s₁ L₁ R₁ r₁ h₁=> ?_)
 refine eI (R₁.LL (T:="tuple") (vs:=vs)) λD₂ L₂ R₂ e₂=> ?_
 exact⟨by rw[aM.length r₁];exact h₁.1,k (.tup xs) bK D₂ σ₁ _ _ (L₁.trans L₂) R₂ ⟨_,vs.toArray,0,rfl,e₂,by simpa using r₁.mono L₂⟩ h₁.2⟩
theorem J7{Q:Fl->M->List AO->Prop}(h:Q .next m st):WS g K f A [] m st Q E:=λD σ s Q' R k=>wpAny_execs_nil (k .next m st D σ .next s Le.refl R rfl h)
theorem vY{x:Stmt}{r:List Stmt}{Q:Fl->M->List AO->Prop}
  (h:qT g K f A (exec x f.env) m st (λfl m₁ bK=>match fl with | .next=>WS g K f A r m₁ bK Q E | fl=>Q fl m₁ bK) E):WS g K f A (x::r) m st Q E:=by
 intro D σ s Q' R k
 refine wpAny_execs_cons (h D σ s _ R λfl m₁ bK D₁ σ₁ b s₁ L₁ R₁ r₁ h₁=> ?_)
 cases fl with
 | next=>cases r₁;exact h₁ D₁ σ₁ s₁ Q' R₁ λc m₃ eA D₃ σ₃ z s₃ L₃ R₃ r₃ h₃=>k c m₃ eA D₃ σ₃ z s₃ (L₁.trans L₃) R₃ r₃ h₃
 | brk=>have :b= .brk:=r₁;subst this;exact k .brk m₁ bK D₁ σ₁ _ s₁ L₁ R₁ rfl h₁
 | cont=>have :b= .cont:=r₁;subst this;exact k .cont m₁ bK D₁ σ₁ _ s₁ L₁ R₁ rfl h₁
 | ret x=>refine ao r₁ ?_;clear r₁;rintro v rfl hv;exact k (.ret x) m₁ bK D₁ σ₁ _ s₁ L₁ R₁ ⟨v,rfl,hv⟩ h₁
theorem nO{e:Expr}{pos:Pos}{Q:Fl->M->List AO->Prop}(h:WE g K f A e m st (λv bK=>Q (.ret v) m bK) E):qT g K f A (exec (.Return (some e) pos) f.env) m st Q E:=by
 intro D σ s Q' R k
 exact wpAny_Return_some (h D σ s _ R λa bK D₁ σ₁ v s₁ L₁ R₁ r₁ h₁=>k (.ret a) m bK D₁ σ₁ _ s₁ L₁ R₁ ⟨v,rfl,r₁⟩ h₁)
theorem EI{e:Expr}{pos:Pos}{Q:Fl->M->List AO->Prop}(F:vP g f)(h:WE g K f A e m st (λ_ bK=>Q .next m bK) E)
  (hs:swapsWith e none pos.line f.env=pure false:=by rfl):qT g K f A (exec (.Expr e pos) f.env) m st Q E:=by
 intro D σ s Q' R k
 refine wpAny_Expr_any (h D σ s _ R λa bK D₁ σ₁ v s₁ L₁ R₁ r₁ h₁=>k .next m bK D₁ σ₁ _ s₁ L₁ R₁ rfl h₁) ?_ hs
 unfold interactive;rw[F.kind];rfl
theorem N0{t:Expr}{b o:List Stmt}{pos:Pos}{Q:Fl->M->List AO->Prop}
  (h:WT g K f A t m st (λc bK=>(c=true->WS g K f A b m bK Q E)/\(c=false->WS g K f A o m bK Q E)) E):qT g K f A (exec (.If t b o pos) f.env) m st Q E:=by
 intro D σ s Q' R k
 refine wpAny_If (h D σ s _ R λa bK D₁ σ₁ v s₁ L₁ R₁ r₁ h₁=> ?_)
 subst r₁
 cases a with
 | true=>exact h₁.1 rfl D₁ σ₁ s₁ Q' R₁ λc m₃ eA D₃ σ₃ z s₃ L₃ R₃ r₃ h₃=>k c m₃ eA D₃ σ₃ z s₃ (L₁.trans L₃) R₃ r₃ h₃
 | false=>exact h₁.2 rfl D₁ σ₁ s₁ Q' R₁ λc m₃ eA D₃ σ₃ z s₃ L₃ R₃ r₃ h₃=>k c m₃ eA D₃ σ₃ z s₃ (L₁.trans L₃) R₃ r₃ h₃
theorem nN{x:Str}{e:Expr}{p pos:Pos}{Q:Fl->M->List AO->Prop}
  (h:WE g K f A e m st (λa bK=>WA g K f A (storeName f.env x) a m bK (λm₂ d7=>Q .next m₂ d7) E) E)
  (hs:swapsWith e (some (.Name x p)) pos.line f.env=pure false:=by rfl):qT g K f A (exec (.Assign [.Name x p] e pos) f.env) m st Q E:=by
 intro D σ s Q' R k
 refine wpAny_Assign_Name (h D σ s _ R λa bK D₁ σ₁ v s₁ L₁ R₁ r₁ h₁=> ?_) hs
 exact h₁ D₁ σ₁ s₁ _ v R₁ r₁ λm₂ d7 D₂ σ₂ s₂ L₂ R₂ h₂=>k .next m₂ d7 D₂ σ₂ _ s₂ (L₁.trans L₂) R₂ rfl h₂
theorem m5{o e:Expr}{name:Str}{p pos:Pos}{Q:Fl->M->List AO->Prop}
  (h:WE g K f A e m st (λa bK=>WE g K f A o m bK (λb d7=>W2 g K f A (λov v=>setAttr ov name v) b a (λ_ _ (_ _:Unit)=>True) m d7 (λ_ eA=>Q .next m eA) E) E) E)
  (hs:swapsWith e (some (.Attribute o name p)) pos.line f.env=pure false:=by rfl):qT g K f A (exec (.Assign [.Attribute o name p] e pos) f.env) m st Q E:=by
 intro D σ s Q' R k
 refine plainObj_wpAny_Assign_Attribute (h D σ s _ R λa bK D₁ σ₁ v s₁ L₁ R₁ r₁ h₁=> ?_) hs
 refine h₁ D₁ σ₁ s₁ _ R₁ λb d7 D₂ σ₂ u s₂ L₂ R₂ r₂ h₂=> ?_
 exact h₂ D₂ σ₂ s₂ _ u v R₂ r₂ (r₁.mono L₂) λc eA D₃ σ₃ z s₃ L₃ R₃ r₃ h₃=>k .next m eA D₃ σ₃ _ s₃ ((L₁.trans L₂).trans L₃) R₃ rfl h₃
theorem z9(F:vP g f){x:Str}{v:V}{Q:M->List AO->Prop}(hk:f.env.kindOf x=some .local)(h:Q (bV m x v) st):WA g K f A (storeName f.env x) v m st Q E:=by
 intro D σ s Q' u R hv k
 refine ao R.fr λmm h1 h2=> ?_
 refine wpAny_storeName_local hk (by rw[F.loc];exact h1) (λh' q1 q2=> ?_) (by rw[F.kind];rfl)
 rw[F.loc] at q1 q2
 exact k _ st D σ _ Le.refl (R.Dg F hk hv h2 q1 q2) h
theorem EB(F:vP g f){x:Str}{c:Addr}{v:V}{Q:M->List AO->Prop}(hk:f.env.kindOf x=some .cell)(hc:f.env.cells.lookup x=some c)(ho:c∈f.own)(K6: ∀y,f.env.cells.lookup y=some c->y=x)(h:Q (bV m x v) st):WA g K f A (storeName f.env x) v m st Q E:=by
 intro D σ s Q' u R hv k
 refine aj (R.oc c ho) λv0 h0=> ?_
 refine wpAny_storeName_cell F.kind hk hc h0 λh' q1 q2=> ?_
 exact k _ st D σ _ Le.refl (R.setCell (s':={s with heap:=h'}) K6 hk hc ho hv q1 ⟨λb o hb kI=>(q2.2 b hb).trans kI,rfl,rfl⟩) h
end
end Mine
namespace Mine
structure zN(w:World)(C:Addr):Prop where
 g:findIn (Mine.KN w.params) (.ref C) "__getattribute__"=some (some (.builtin "object.__getattribute__"))
 x:findIn (Mine.KN w.params) (.ref C) "__getattr__"=some none
 h:hasDictIn (Mine.KN w.params) C=true
 s:findIn (Mine.KN w.params) (.ref C) "__setattr__"=some (some (.builtin "object.__setattr__"))
 p:plainOver (Mine.KN w.params) C=true
structure fN(w:World)(C:Addr)(name:Str):Prop where
 c:zN w C
 a:findIn (Mine.KN w.params) (.ref C) name=some none
theorem fN.t{w:World}{C:Addr}{name:Str}(h:fN w C name):takerIn (Mine.KN w.params) C name=some none:=by
 unfold takerIn;rw[h.a];rfl
structure lJ(w:World)(C:Addr)(ph:List Str)(name:Str)(fn:Addr):Prop where
 c:zN w C
 a:findIn (Mine.KN w.params) (.ref C) name=some (some (.ref fn))
 f:isFn (Mine.KN w.params) (.ref fn)=true
 k:keepIn (Mine.KN w.params) (.ref fn)=true
 o: ∀x∈ph,findIn (Mine.KN w.params) (.ref C) x=some none
theorem lJ.n{w:World}{C:Addr}{ph:List Str}{name:Str}{fn:Addr}(h:lJ w C ph name fn):name∉ph:=λhm=>by
 have :=h.o name hm
 rw[h.a] at this;cases this
noncomputable def V.plain:V->Bool
 | .f6 _=>false
 | _=>true
section
variable{P:Params}{D:Dt}{σ:List Addr}
theorem handed{x:V}{v:Value}(hx:x.plain=true)(h:VR P D σ x v):handedIn v=true:=by
 cases x with
 | none=>cases h;rfl
 | bool b=>cases h;rfl
 | int i=>refine aj h ?_;clear h;rintro t rfl;rfl
 | str x=>refine aj h ?_;clear h;rintro t rfl;rfl
 | tup xs=>exact h.fK λ_ _ _ e _ _=>e▸rfl
 | lst xs=>exact h.cA λ_ _ _ e _ _=>e▸rfl
 | nj C fs=>exact h.wL λ_ _ _ _ e _ _ _ _=>e▸rfl
 | inst C n=>exact cc h λ_ _ e _=>e▸rfl
 | loc n=>exact ao h λ_ e _=>e▸rfl
 | jb a b c=>exact yC h λ_ _ _ _ e _=>e▸rfl
 | f6 w=>cases hx
theorem qO.isStr{k:Str}{e:DictEntry}(h:qO P k e)(n:Str):e.key.isStr n=(k==n):=by obtain⟨_,t,h⟩:=h;rw[h];rfl
theorem bN.hit: ∀{fs:List (Str×V)} {es:List DictEntry},bN P D σ fs es->(fs.map (·.1)).Nodup-> ∀{j:Nat} {name:Str} {x:V},fs[j]? =some (name,x)->
  ∃e,es.find? (·.key.isStr name)=some e/\VR P D σ x e.val
 | [],_,_,_,_,_,_,h=>by cases h
 | (k,y)::fs,es,h,nd,j,name,x,hj=>by
  refine bN.aW h ?_;clear h;rintro e r rfl h1 h2 h3
  rw[aaq,aaK] at nd
  cases j with
  | zero=>
   cases hj
   exact⟨e,by rw[acC,h1.isStr];simp,h2⟩
  | succ j=>
   have FP:fs[j]? =some (name,x):=hj
   have ne:k≠name:=λq=>nd.1 (by rw[q];exact aaH.mpr ⟨_,aas FP,rfl⟩)
   refine ao (bN.hit h3 nd.2 FP) λe' q1 q2=> ?_
   refine⟨e',?_,q2⟩
   rw[acC,h1.isStr,beq_false_of_ne ne]
   exact q1
theorem bN.pZ: ∀{fs:List (Str×V)} {es:List DictEntry},bN P D σ fs es->es.any (·.refKey)=false
 | [],es,h=>by cases h.dp;rfl
 | (k,y)::fs,es,h=>by
  refine bN.aW h ?_;clear h;rintro e r rfl ⟨_,t,h1⟩ h2 h3
  rw[ach,bN.pZ h3,Bool.or_false]
  unfold DictEntry.refKey;rw[h1]
theorem bN.miss: ∀{fs:List (Str×V)} {es:List DictEntry},bN P D σ fs es-> ∀{name:Str},name∉fs.map (·.1)->es.find? (·.key.isStr name)=none
 | [],es,h,_,_=>by cases h.dp;rfl
 | (k,y)::fs,es,h,name,hn=>by
  refine bN.aW h ?_;clear h;rintro e r rfl h1 h2 h3
  rw[aaq,aat,not_or] at hn
  rw[acC,h1.isStr,beq_false_of_ne (Ne.symm hn.1)]
  exact bN.miss h3 hn.2
theorem bN.look{fs:List (Str×V)}{es:List DictEntry}{n:Nat}(h:bN P D σ fs es)(nd:(fs.map (·.1)).Nodup){j:Nat}{name:Str}{x:V}(hj:fs[j]? =some (name,x)):
  ∃v,lookIn name (dictOf es n)=some (some v)/\VR P D σ x v:=by
 refine ao (h.hit nd hj) λe h1 h2=> ?_
 exact⟨e.val,by rw[lookIn_dict];unfold getL;rw[h1],h2⟩
theorem bN.B3{fs:List (Str×V)}{es:List DictEntry}{n:Nat}(h:bN P D σ fs es){name:Str}(hn:name∉fs.map (·.1)):lookIn name (dictOf es n)=some none:=by
 rw[lookIn_dict];unfold getL;rw[h.miss hn];simp[h.pZ]
theorem bN.length: ∀{fs:List (Str×V)} {es:List DictEntry},bN P D σ fs es->es.length=fs.length
 | [],es,h=>by cases h.dp;rfl
 | (k,y)::fs,es,h=>by
  refine bN.aW h ?_;clear h;rintro e r rfl h1 h2 h3
  simp[bN.length h3]
theorem bN.put: ∀{fs:List (Str×V)} {es:List DictEntry},bN P D σ fs es->(fs.map (·.1)).Nodup-> ∀{j:Nat} {name:Str} {x y:V} {hs:Int} {key v:Value},fs[j]? =some (name,x)->VR P D σ y v->
  bN P D σ (fs.set j (name,y)) (putL name hs key v es)
 | [],_,_,_,_,_,_,_,_,_,_,h,_=>by cases h
 | (k,z)::fs,es,h,nd,j,name,x,y,hs,key,v,hj,hv=>by
  refine bN.aW h ?_;clear h;rintro e r rfl h1 h2 h3
  rw[aaq,aaK] at nd
  cases j with
  | zero=>
   cases hj
   show bN P D σ ((k,y)::fs) (putL k hs key v (e::r))
   unfold putL;rw[h1.isStr];simp only[beq_self_eq_true,if_true]
   exact⟨⟨e.hash,e.key,v⟩,r,rfl,h1,hv,h3⟩
  | succ j=>
   have FP:fs[j]? =some (name,x):=hj
   have ne:k≠name:=λq=>nd.1 (by rw[q];exact aaH.mpr ⟨_,aas FP,rfl⟩)
   show bN P D σ ((k,z)::fs.set j (name,y)) (putL name hs key v (e::r))
   unfold putL;rw[h1.isStr,beq_false_of_ne ne];simp only[abU,if_false]
   exact⟨e,_,rfl,h1,h2,bN.put h3 nd.2 FP hv⟩
theorem bN.add: ∀{fs:List (Str×V)} {es:List DictEntry},bN P D σ fs es-> ∀{name:Str} {y:V} {t:Tok} {v:Value},name∉fs.map (·.1)->VR P D σ y v->
  bN P D σ (fs++[(name,y)]) (putL name (aaY P name) (.str name t) v es)
 | [],es,h,name,y,t,v,_,hv=>by
  cases h.dp
  exact⟨_,[],rfl,⟨rfl,t,rfl⟩,hv,rfl⟩
 | (k,z)::fs,es,h,name,y,t,v,hn,hv=>by
  refine bN.aW h ?_;clear h;rintro e r rfl h1 h2 h3
  rw[aaq,aat,not_or] at hn
  show bN P D σ ((k,z)::(fs++[(name,y)])) (putL name _ (.str name t) v (e::r))
  unfold putL;rw[h1.isStr,beq_false_of_ne (Ne.symm hn.1)];simp only[abU,if_false]
  exact⟨e,_,rfl,h1,h2,bN.add h3 hn.2 hv⟩
end
section
variable{prog:Program}{w:World}{A:Around}{E:Value->Shared->Prop}{s:Shared}{k:Frag}{x C d:Addr}{od:Obj}{name:Str}{v:Value}
theorem sM: ∀(l:List DictEntry) (a:Int) (b c:Value),(putL name a b c l).length<=l.length+1
 | [],_,_,_=>aaw _
 | e::r,a,b,c=>by
  have :=sM r a b c
  unfold putL
  split
  ·exact acN _
  ·exact Nat.succ_le_succ this
theorem jw{es:List DictEntry}{n:Nat}{tk:Tok}{Q:Fin->Shared->Prop}(hd:s.heap.get? d=some (dictOf es n))(hr:es.any (·.refKey)=false)(hz:es.length<=1000)
  (h:Q (.done (.ret .none)) {s with heap:=s.heap.update d (abY name (aaY w.params name) (.str name s.toks) v),toks:=s.toks+1}):
  wpAny (model prog w) A (Builtin.ObjectAttr.storeInDict d (.str name tk) name v) Q E s:=by
 refine wpAny_bind (wpAny_pure (wpAny_bind ?_))
 refine wpAny_bind (wpAny_bind (wpAny_askSetting (wpAny_pure (wpAny_bind (wpAny_mkText (wpAny_bind (wpAny_loadPart hd ?_)))))))
 dsimp only
 have Uo:es.toArray.any (·.refKey)=false:=by rw[<-Array.any_toList];exact hr
 rw[aRefKeyMayBeTheName_at,Uo,Bool.and_false]
 have hd':=aa1 (h:=s.heap) (abY name (aaY w.params name) (.str name s.toks) v) hd (by rw[putName_dict];rfl)
 rw[putName_dict] at hd'
 refine wpAny_updatePart hd (wpAny_bind (wpAny_lookBehind hd' (pastItsLine_dict ?_) (wpAny_pure h)))
 rw[List.size_toArray,sizeLine_eq]
 have :=sM (name:=name) es (aaY w.params name) (.str name s.toks) v
 exact YM hz this
theorem qr{es:List DictEntry}{n:Nat}{Q:Unit->Shared->Prop}(X:k.In s.heap)(hx:s.heap.get? x=some ⟨.ref C,some d,.plain,#[]⟩)(hd:s.heap.get? d=some (dictOf es n))
  (hs:findIn k (.ref C) "__setattr__"=some (some (.builtin "object.__setattr__"))) (hp:plainOver k C=true) (ht:takerIn k C name=some none) (hh:hasDictIn k C=true) (hr:es.any (·.refKey)=false) (hz:es.length<=1000)
  (h:Q () {s with heap:=s.heap.update d (abY name (aaY w.params name) (.str name (s.toks+1)) v),toks:=s.toks+2}):
  wpAny (model prog w) A (setAttr (.ref x) name v) Q E s:=by
 have I:InstAt s.heap x ⟨.ref C,some d,.plain,#[]⟩ C (some (dictOf es n)):=⟨hx,rfl,rfl,hd⟩
 refine set_plain X I hs (osa_open (s:={s with toks:=s.toks+1}) X I hp ht λb=> ?_)
 refine ao (any_some hh) λcd hc yP=> ?_
 refine wpAny_bind (wpAny_pure (wpAny_bind (wpAny_bind (wpAny_loadPart hx (wpAny_bind (Looks.here (s:={s with toks:=s.toks+1}) (looks_clsIn X hc) ?_))))))
 rw[yP]
 exact wpAny_pure (a:=some d) (jw (s:={s with toks:=s.toks+1}) hd hr hz h)
end
end Mine
namespace Mine
section
variable{g:Gl}{K:Kx}{f:Fx}{A:Around}{m:M}{st:List AO}{E:Value->Shared->Prop}{D:Dt}{σ:List Addr}{s:Shared}
theorem jJ{Q:Value->Shared->Prop}{a d C:Addr}{es:List DictEntry}{n:Nat}{name:Str}{v:Value}(X:(Mine.KN g.w.params).In s.heap)(ok:fN g.w C name)
  (hx:s.heap.get? a=some ⟨.ref C,some d,.plain,#[]⟩) (hd:s.heap.get? d=some (dictOf es n)) (hl:lookIn name (dictOf es n)=some (some v)) (hv:handedIn v=true) (h:Q v {s with toks:=s.toks+1}):
  wpAny (model cS g.w) A (getAttr (.ref a) name true) Q E s:=
 get_value X ⟨hx,rfl,rfl,hd⟩ ok.c.g (findObj_own ok.c.h ok.a rfl hl) hv h
theorem z8{C:Addr}{fs:List (Str×V)}{name:Str}{x:V}{Q:V->List AO->Prop}(j:Nat)(ok:fN g.w C name)(hj:fs[j]? =some (name,x))(hQ:Q x st)(hx:x.plain=true:=by rfl):
  W1 g K f A (λo=>getAttr o name true) (.nj C fs) (VR g.w.params) m st Q E:=by
 intro D σ s Q' v R hv k
 refine VR.wL hv ?_;clear hv;rintro a d es n rfl h1 h2 h3 h4
 refine ao (h4.look (n:=n) h3 hj) λu q1 q2=> ?_
 exact jJ R.pI ok (R.r.dh _ _ h1) (R.r.dh _ _ h2) q1 (handed hx q2) (k x st D σ u _ Le.refl (R.tok _) q2 hQ)
theorem vX{C:Addr}{n j:Nat}{fs:List (Str×V)}{name:Str}{x:V}{Q:V->List AO->Prop}(hs:st[n]? =some (.aF fs))(ok:fN g.w C name)(hj:fs[j]? =some (name,x))(hQ:Q x st)(hx:x.plain=true:=by rfl):
  W1 g K f A (λo=>getAttr o name true) (.inst C n) (VR g.w.params) m st Q E:=by
 intro D σ s Q' v R hv k
 refine cj hv ?_;clear hv;rintro a d rfl h1 h2
 refine R.r.rB hs h2 λes e q2 h3 h4=> ?_
 refine ao (h4.look (n:=e) h3 hj) λu q1 q2'=> ?_
 exact jJ R.pI ok (R.r.dh _ _ h1) q2 q1 (handed hx q2') (k x st D σ u _ Le.refl (R.tok _) q2' hQ)
theorem sY{C:Addr}{n:Nat}{fs fs':List (Str×V)}{name:Str}{y:V}{Q:Unit->List AO->Prop}(hs:st[n]? =some (.aF fs))(ok:fN g.w C name)(hz:fs.length<=1000)(wX:(fs'.map (·.1)).Nodup)
  (hp: ∀{D:Dt} {σ:List Addr} {es:List DictEntry} {t:Tok} {v:Value},bN g.w.params D σ fs es->(fs.map (·.1)).Nodup->VR g.w.params D σ y v->bN g.w.params D σ fs' (putL name (aaY g.w.params name) (.str name t) v es))
  (hQ:Q () (st.set n (.aF fs'))):
  W2 g K f A (λov v=>setAttr ov name v) (.inst C n) y (λ_ _ (_ _:Unit)=>True) m st Q E:=by
 intro D σ s Q' v u R hv hu k
 refine cj hv ?_;clear hv;rintro a d rfl h1 h2
 refine R.r.rB hs h2 λes e q2 h3 h4=> ?_
 refine qr R.pI (R.r.dh _ _ h1) q2 ok.c.s ok.c.p ok.t ok.c.h h4.pZ (by rw[h4.length];exact hz) ?_
 have uI:=hp (t:=s.toks+1) h4 h3 hu
 have he:=putName_dict name (aaY g.w.params name) (.str name (s.toks+1)) u es e
 have i8:(s.heap.update d (abY name (aaY g.w.params name) (.str name (s.toks+1)) u)).get? d=some (dictOf (putL name (aaY g.w.params name) (.str name (s.toks+1)) u es) (putN name es e)):=by
  have :=aa1 (h:=s.heap) (abY name (aaY g.w.params name) (.str name (s.toks+1)) u) q2 (by rw[he];rfl)
  rw[he] at this;exact this
 refine k () _ D σ () _ Le.refl (R.upd (n:=n) (a:=d) (x:= .aF fs') h2 ⟨λb o hb kI=> ?_,rfl,rfl⟩ i8 ⟨_,_,rfl,wX,uI⟩) trivial hQ
 exact(ab8 _ _ _ _ hb).trans kI
theorem cB{M:Model}{fv:Value}{ts:List (Bool×Sem Value)}{Q:Args->Shared->Prop}(h0:ts.any (·.1)=false)(h:wpAny M A (spliced ts) (λvs s'=>Q ⟨vs,[]⟩ s') E s):wpAny M A (evalArgs fv true ts []) Q E s:=by
 cases ts with
 | nil=>
  unfold evalArgs
  exact wpAny_bind (m:=spliced []) (wpAny_mono h (λvs s' h'=>wpAny_bind (wpAny_pure (wpAny_holding (wpAny_bind (wpAny_pure (wpAny_bind (wpAny_pure (wpAny_pure h')))))))) λ_ _ x=>x)
 | cons x r=>
  obtain⟨b,t⟩:=x
  cases b with
  | true=>cases h0
  | false=>exact Calls.evalArgs_plain h
theorem sy{h:Heap}: ∀{l:List Addr},(∀c∈l,∃v,h.IsCell c v)-> ∃cs:List (Addr×Obj),cs.map (·.1)=l/\ ∀p∈cs,h.get? p.1=some p.2
 | [],_=>⟨[],rfl,λ_ h=>jR h⟩
 | c::l,H=>by
  refine cc (H c aak) λv o h1 h2=> ?_
  refine ao (sy λc' Si=>H c' (aai _ Si)) λcs q1 q2=> ?_
  refine⟨(c,o)::cs,by rw[aaq,q1],λp hp=> ?_⟩
  rcases aat.mp hp with rfl | hp
  ·exact h1
  ·exact q2 p hp
inductive NT(g:Gl)(K:Kx)(f:Fx)(D:Dt)(σ:List Addr)(m:M)(st:List AO)(s:Shared):Prop where
 | mk (K':Kx) (h1:K'.D0=D) (h2:K'.s0=σ) (h3:K'.os=K.os) (h4: ∃oL es ep,K'.kZ=(f.L,oL)::K.kZ/\oL.data= .dict es ep) (h5: ∀c o,c∈f.own->s.heap.get? c=some o->(c,o)∈K'.kept) (h6: ∀p∈K.kept,p∈K'.kept) (h7: ∀a,a∈K'.cm<->a∈K.cm\/a∈f.fa) (h8: ∀L,L=f.L\/L∈K.kZ.map (·.1)/\L∉K.kept.map (·.1)->L∉K'.kept.map (·.1)) (h9:aP g K' D σ st s)
  (h10: ∀D' σ' st' s',Le D σ D' σ'->aP g K' D' σ' st' s'->Rel g K f D' σ' m st' s')
theorem Rel.into(R:Rel g K f D σ m st s):NT g K f D σ m st s:=by
 refine ao R.fr λmm hN fr=>gF hN λoL es ep l1 l2=>ao (sy R.oc) λcs c1 c2=> ?_
 have mK: ∀{a},a∈(cs++K.kept).map (·.1)<->a∈f.own\/a∈K.kept.map (·.1):=λ{a}=>by rw[aaA,aal,c1]
 have BF: ∀a,a∈(⟨D,σ,(f.L,oL)::K.kZ,cs++K.kept,K.os⟩:Kx).cm<->a∈K.cm\/a∈f.fa:=λa=>
  ⟨λh=>(aal.mp h).elim (λh=>(aat.mp h).elim (λe=> .inr (e▸aak)) λh=> .inl (aaZ _ h)) λh=>(mK.mp h).elim (λh=> .inr (aai _ h)) λh=> .inl (aa2 _ h),
   λh=>h.elim (λh=>(aal.mp h).elim (λh=>aaZ _ (aai _ h)) λh=>aa2 _ (mK.mpr (.inr h))) λh=>(aat.mp h).elim (λe=>e▸aaZ _ aak) λh=>aa2 _ (mK.mpr (.inl h))⟩
 refine⟨⟨D,σ,(f.L,oL)::K.kZ,cs++K.kept,K.os⟩,rfl,rfl,rfl,⟨oL,es,ep,rfl,l2.1⟩,λc o hc ho=>ae (c1.symm▸hc) λp hp e=>aaZ _ (by cases e;cases((c2 p hp).symm.trans ho);exact hp),λp hp=>aa2 _ hp,BF,
  λL hL hm=>(mK.mp hm).elim (λhm=>hL.elim (λe=>(aaK.mp R.fn).1 (e▸hm)) λhL=>(R.fd L (aai _ hm)).2.1 (aaZ _ hL.1)) λhm=>hL.elim (λe=>(R.fd L (e▸aak)).2.1 (aa2 _ hm)) λhL=>hL.2 hm,
  ⟨λa o h=>R.r.d0 _ _ (R.r.b0 a o h),λ_ _ h=>h,λ_ _ h=>h,R.r.dh,λp hp=>(aat.mp hp).elim (λe=>e▸⟨oL.slots,l1⟩) (R.r.kf p),λp hp=>(aal.mp hp).elim (c2 p) (R.r.kp p),λa ha=>((BF a).mp ha).elim (R.r.kd a) λha=>(R.fd _ ha).1,R.r.so,λa ha=>⟨(R.r.sd a ha).1,λhm=>((BF a).mp hm).elim (R.r.sd a ha).2 λhm=>(R.fd a hm).2.2 ha⟩,R.r.sl,R.r.nd,R.r.gens,R.r.os⟩,?_⟩
 intro D' σ' st' s' L S
 refine aj (S.kf (f.L,oL) aak) λsl hL=> ?_
 have hc: ∀p∈cs,s'.heap.get? p.1=some p.2:=λp hp=>S.kp p (aaZ _ hp)
 have hh: ∀a∈K.cm,a∈(⟨D,σ,(f.L,oL)::K.kZ,cs++K.kept,K.os⟩:Kx).cm:=λa ha=>(BF a).mpr (.inl ha)
 have hf: ∀a∈f.fa,a∈(⟨D,σ,(f.L,oL)::K.kZ,cs++K.kept,K.os⟩:Kx).cm:=λa ha=>(BF a).mpr (.inr ha)
 have own: ∀c∈f.own,∀o,s.heap.get? c=some o->s'.heap.get? c=some o:=λc tM o ho=>ae (c1.symm▸tM) λp hp e=>by cases e;exact(hc p hp).trans ((c2 p hp).symm.trans ho)
 exact⟨⟨R.r.b0,λa o h=>L.d _ _ (R.r.d0 a o h),λn a h=>L.s _ _ (R.r.s0 n a h),S.dh,λp hp=>S.kf p (aai _ hp),λp hp=>S.kp p (aa2 _ hp),λa ha=>S.kd a (hh a ha),S.so,λa ha=>⟨(S.sd a ha).1,λhm=>(S.sd a ha).2 (hh a hm)⟩,S.sl,S.nd,S.gens,S.os⟩,
   λa ha=>⟨S.kd a (hf a ha),(R.fd a ha).2.1,λhm=>(S.sd a hm).2 (hf a ha)⟩,R.fn,⟨mm,⟨_,es,ep,hL,l2⟩,λx v hv=>((fr x v hv).mono L).go (λ_ h=>h) λc o _ tM ho=>own c tM o ho⟩,λc tM=>cc (R.oc c tM) λv o h1 h2=>⟨v,o,own c tM o h1,h2⟩⟩
structure tW(g:Gl)(K:Kx)(f:Fx)(m:M)(K':Kx):Prop where
 back: ∀D' σ' st' s',aP g K' D' σ' st' s'->Rel g K f D' σ' m st' s'
 cm: ∀a,a∈K'.cm<->a∈K.cm\/a∈f.fa
 kZ: ∃oL es ep,K'.kZ=(f.L,oL)::K.kZ/\oL.data= .dict es ep
 kept: ∀p∈K.kept,p∈K'.kept
 kl: ∀L,L=f.L\/L∈K.kZ.map (·.1)/\L∉K.kept.map (·.1)->L∉K'.kept.map (·.1)
theorem aP.Ss(R:aP g K D σ st s):Le K.D0 K.s0 D σ:=⟨R.d0,R.s0⟩
def Io(g:Gl)(K:Kx)(f:Fx)(m:M)(A:Around)(fn:Value)(xs:List V)(st:List AO)(Q:V->List AO->Prop)(E:Value->Shared->Prop):Prop:=
 ∀K',tW g K f m K'->WC g K' A fn xs st Q E
theorem lP{fn:Value}{xs:List V}{vs:List Value}{Q:V->List AO->Prop}{Q':Value->Shared->Prop}(R:Rel g K f D σ m st s)(h:Io g K f m A fn xs st Q E)(hv:aM g.w.params D σ xs vs)
  (k: ∀a st' D' σ' b s',Le D σ D' σ'->Rel g K f D' σ' m st' s'->VR g.w.params D' σ' a b->Q a st'->Q' b s'):wpAny (model cS g.w) A (call fn vs) Q' E s:=by
 obtain⟨K',h1,h2,_,h5,h6,h7,h8,h9,h3,h4⟩:=R.into
 have back: ∀D' σ' st' s',aP g K' D' σ' st' s'->Rel g K f D' σ' m st' s':=λD' σ' st' s' S=>h4 D' σ' st' s' (by rw[<-h1,<-h2];exact S.Ss) S
 refine wpAny_call (codeAny_mono (R:=nI Q' E) ?_ λr s' x=>x)
 exact h K' ⟨back,h8,h5,h7,h9⟩ D σ s Q' vs h3 hv λa st' D' σ' b s' L S r q=>k a st' D' σ' b s' L (back D' σ' st' s' S) r q
theorem EF{fe:Expr}{args:List Expr}{pos:Pos}{fn:Value}{Q:V->List AO->Prop}(hk:keepIn (Mine.KN g.w.params) fn=true)
  (hf:WE g K f A fe m st (λv bK=>v= .f6 fn/\qS g K f A pos args m bK (λxs d7=>Io g K f m A fn xs d7 Q E) E) E)
  (hs:(backTo pos (starEach args f.env)).any (·.1)=false:=by rfl)
  (he:eval (.Call fe args [] pos) f.env=(do callWith pos (<-eval fe f.env) [] (backTo pos (starEach args f.env)) (backToKw pos (keywordEach [] f.env))):=by rfl):WE g K f A (.Call fe args [] pos) m st Q E:=by
 intro D σ s Q' R k
 rw[he]
 refine wpAny_bind (hf D σ s _ R λa bK D₁ σ₁ v s₁ L₁ R₁ r₁ h₁=> ?_)
 refine aO h₁ ?_;clear h₁;rintro rfl h₁
 have Rq:v=fn:=r₁
 subst Rq
 refine callWith_of (P:=λh=>(Mine.KN g.w.params).In h) (by rw[hs];rfl) (keeps_K hk) (cB hs ?_)
 refine h₁ D₁ σ₁ s₁ _ R₁ λxs d7 D₂ σ₂ vs s₂ L₂ R₂ r₂ h₂=>⟨R₂.pI,?_⟩
 exact lP R₂ h₂ r₂ λc eA D₃ σ₃ z s₃ L₃ R₃ r₃ h₃=>k c eA D₃ σ₃ z s₃ ((L₁.trans L₂).trans L₃) R₃ r₃ h₃
def WM(g:Gl)(K:Kx)(f:Fx)(A:Around)(name:Str)(pos:Pos)(args:List Expr)(x:V)(m:M)(st:List AO)(Q:V->List AO->Prop)(E:Value->Shared->Prop):Prop:=
 ∀D σ s (Q':Value->Shared->Prop) v pl,Rel g K f D σ m st s->VR g.w.params D σ x v->
  (∀a st' D' σ' b s',Le D σ D' σ'->Rel g K f D' σ' m st' s'->VR g.w.params D' σ' a b->Q a st'->Q' b s')->
  wpAny (model cS g.w) A (getMethod v name pl) (λfx s₂=>wpAny (model cS g.w) A (callWith pos fx.1 fx.2 (backTo pos (starEach args f.env)) (backToKw pos (keywordEach [] f.env))) Q' E s₂) E s
theorem Af{o:Expr}{name:Str}{apos pos:Pos}{args:List Expr}{pl:Sem Bool}{Q:V->List AO->Prop}(h:WE g K f A o m st (λx bK=>WM g K f A name pos args x m bK Q E) E)
  (he:eval (.Call (.Attribute o name apos) args [] pos) f.env=(do
   let ov<-eval o f.env
   standAt apos.atName
   let(fv,first)<-holding [ov] (getMethod ov name pl)
   callWith pos fv first (backTo pos (starEach args f.env)) (backToKw pos (keywordEach [] f.env))):=by rfl):WE g K f A (.Call (.Attribute o name apos) args [] pos) m st Q E:=by
 intro D σ s Q' R k
 refine methodCall_KW (h D σ s _ R λa bK D₁ σ₁ v s₁ L₁ R₁ r₁ h₁=> ?_) he
 exact h₁ D₁ σ₁ s₁ Q' v pl R₁ r₁ λc eA D₃ σ₃ z s₃ L₃ R₃ r₃ h₃=>k c eA D₃ σ₃ z s₃ (L₁.trans L₃) R₃ r₃ h₃
theorem EH{C fn:Addr}{n:Nat}{fs:List (Str×V)}{ph:List Str}{name:Str}{pos:Pos}{args:List Expr}{Q:V->List AO->Prop}(hs:st[n]? =some (.aF fs))(ok:lJ g.w C ph name fn)(OY:name∉fs.map (·.1))
  (h:qS g K f A pos args m st (λxs d7=>Io g K f m A (.ref fn) (.inst C n::xs) d7 Q E) E) (nW:(backTo pos (starEach args f.env)).any (·.1)=false:=by rfl):WM g K f A name pos args (.inst C n) m st Q E:=by
 intro D σ s Q' v pl R hv k
 have nX:=hv
 refine cj hv ?_;clear hv;rintro a d rfl h1 h2
 refine R.r.rB hs h2 λes e q2 h3 h4=> ?_
 have I:acQ s.heap a ⟨.ref C,some d,.plain,#[]⟩ C (some (dictOf es e)):=⟨R.r.dh _ _ h1,rfl,rfl,q2⟩
 have hsh:shadowIn (some (dictOf es e)) name=some false:=by
  show(lookIn name (dictOf es e)).map _=_
  rw[h4.B3 OY];rfl
 refine method_fn R.pI I ok.c.g ok.c.x ok.a (beq_iff_eq.mp ok.f) hsh ?_
 refine callWith_of (P:=λh=>(Mine.KN g.w.params).In h) (by rw[nW];rfl) (keeps_K ok.k) (cB nW ?_)
 refine h D σ s _ R λxs d7 D₂ σ₂ vs s₂ L₂ R₂ r₂ h₂=>⟨R₂.pI,?_⟩
 exact lP R₂ h₂ ⟨_,_,rfl,nX.mono L₂,r₂⟩ λc eA D₃ σ₃ z s₃ L₃ R₃ r₃ h₃=>k c eA D₃ σ₃ z s₃ (L₂.trans L₃) R₃ r₃ h₃
theorem aM.append{P:Params}{D:Dt}{σ:List Addr}: ∀{xs ys:List V} {vs us:List Value},aM P D σ xs vs->aM P D σ ys us->aM P D σ (xs++ys) (vs++us)
 | [],_,_,_,h,h'=>by cases h.dp;exact h'
 | _::_,_,_,_,h,h'=>by
  refine aM.aW h ?_;clear h;rintro v r rfl h2 h3
  exact⟨v,_,rfl,h2,aM.append h3 h'⟩
theorem aM.at{P:Params}{D:Dt}{σ:List Addr}: ∀{xs:List V} {vs:List Value},aM P D σ xs vs-> ∀{i:Nat} {x:V},xs[i]? =some x-> ∃v,vs[i]? =some v/\VR P D σ x v
 | [],_,_,_,_,h=>by cases h
 | _::_,_,h,i,x,hi=>by
  refine aM.aW h ?_;clear h;rintro v r rfl h2 h3
  cases i with
  | zero=>cases hi;exact⟨v,rfl,h2⟩
  | succ i=>exact aM.at h3 hi
theorem aM.rh{P:Params}{D:Dt}{σ:List Addr}{xs:List V}{vs:List Value}{G:Prop}(h:aM P D σ xs vs){i:Nat}{x:V}(hx:xs[i]? =some x)(g: ∀v,vs[i]? =some v->VR P D σ x v->G):G:=ao (h.at hx) g
theorem my: ∀{ps:List Str} {vs:List Value} {i:Nat} {x:Str} {v:Value},ps.Nodup->ps[i]? =some x->vs[i]? =some v->(ps.zip vs).lookup x=some v
 | [],_,_,_,_,_,h,_=>by cases h
 | p::ps,[],_,_,_,_,_,h=>by cases h
 | p::ps,u::vs,0,x,v,_,h,h'=>by cases h;cases h';simp
 | p::ps,u::vs,i+1,x,v,nd,h,h'=>by
  have h:ps[i]? =some x:=h
  have h':vs[i]? =some v:=h'
  rw[aaK] at nd
  have ne:x≠p:=λe=>nd.1 (e▸aas h)
  rw[acF,aao,beq_false_of_ne ne]
  exact my nd.2 h h'
theorem mem_of_lookup{l:List (Str×Value)}: ∀{x:Str} {v:Value},l.lookup x=some v->(x,v)∈l:=by
 induction l with
 | nil=>intro x v h;cases h
 | cons p l ih=>
  intro x v h
  rw[aao] at h
  by_cases e:x=p.1
  ·subst e;simp at h;subst h;exact aak
  ·rw[beq_false_of_ne e] at h;exact aai _ (ih h)
noncomputable def Mz:Fl->V
 | .ret v=>v
 | _=> .none
noncomputable def Mh(g:Gl)(A:Around)(env:Env)(E:Value->Shared->Prop):Value->Shared->Prop:=
 λe s'=>wpAny (model cS g.w) (A.deeper env) (leaving env e) (λ_ C7=>E e C7) E s'
theorem kQ: ∀{ps:List Str} {vs:List Value},ps.length=vs.length->(ps.zip vs).map (·.1)=ps
 | [],_,_=>by simp
 | p::ps,[],h=>by cases h
 | p::ps,v::vs,h=>by rw[acF,aaq,kQ (by simpa using h)]
noncomputable def Ou:Flow->Value
 | .ret v=>v
 | _=> .none
theorem Rm{P:Params}{D:Dt}{σ:List Addr}{fl:Fl}{b:Flow}(r:FlR P D σ fl b):VR P D σ (Mz fl) (Ou b):=by
 cases fl with
 | next=>have :b= .next:=r;subst this;rfl
 | brk=>have :b= .brk:=r;subst this;rfl
 | cont=>have :b= .cont:=r;subst this;rfl
 | ret x=>refine ao r ?_;clear r;rintro v rfl nX;exact nX
theorem mS: ∀{ps:List Str} {vs:List V} {x:Str} {v:V},(ps.zip vs).lookup x=some v-> ∃i:Nat,ps[i]? =some x/\vs[i]? =some v
 | [],_,_,_,h=>by simp at h
 | p::ps,[],_,_,h=>by simp at h
 | p::ps,u::vs,x,v,h=>by
  rw[acF,aao] at h
  by_cases e:x=p
  ·subst e;simp at h;subst h;exact⟨0,rfl,rfl⟩
  ·rw[beq_false_of_ne e] at h
   refine ao (mS h) λi h1 h2=> ?_
   exact⟨i+1,h1,h2⟩
noncomputable def bindM(ps:List Str)(xs:List V):M:=λx=>(ps.zip xs).lookup x
end
end Mine
namespace Mine
section
variable{g:Gl}{K:Kx}{f:Fx}{A:Around}{m:M}{st:List AO}{E:Value->Shared->Prop}
theorem JQ{i j:Int}{Q:V->List AO->Prop}(h:Q (.int (i+j)) st):W2 g K f A (binaryOp .Add) (.int i) (.int j) (VR g.w.params) m st Q E:=by
 intro D σ s Q' v u R ⟨t,hv⟩ ⟨t',hu⟩ k
 subst hv hu
 exact PyProof.Rows.add_int (k (.int (i+j)) st D σ _ _ Le.refl (R.tok _) ⟨_,rfl⟩ h)
theorem J1{i j:Int}{Q:V->List AO->Prop}(h:Q (.int (i- j)) st):W2 g K f A (binaryOp .Sub) (.int i) (.int j) (VR g.w.params) m st Q E:=by
 intro D σ s Q' v u R ⟨t,hv⟩ ⟨t',hu⟩ k
 subst hv hu
 exact PyProof.Rows.sub_int (k (.int (i- j)) st D σ _ _ Le.refl (R.tok _) ⟨_,rfl⟩ h)
theorem JX{i j:Int}{Q:V->List AO->Prop}(hj:j≠0)(h:Q (.int (i.fmod j)) st):W2 g K f A (binaryOp .Mod) (.int i) (.int j) (VR g.w.params) m st Q E:=by
 intro D σ s Q' v u R ⟨t,hv⟩ ⟨t',hu⟩ k
 subst hv hu
 exact PyProof.Rows.mod_int hj (k (.int (i.fmod j)) st D σ _ _ Le.refl (R.tok _) ⟨_,rfl⟩ h)
theorem JY{i j:Int}{Q:V->List AO->Prop}(hm:IntMulOk i j)(h:Q (.int (i* j)) st):W2 g K f A (binaryOp .Mult) (.int i) (.int j) (VR g.w.params) m st Q E:=by
 intro D σ s Q' v u R ⟨t,hv⟩ ⟨t',hu⟩ k
 subst hv hu
 exact PyProof.Rows.mul_int (k (.int (i* j)) st D σ _ _ Le.refl (R.tok _) ⟨_,rfl⟩ h) hm
theorem JP{i:Int}{Q:V->List AO->Prop}(h:Q (.int (-i)) st):W1 g K f A (unaryOp .USub) (.int i) (VR g.w.params) m st Q E:=by
 intro D σ s Q' v R ⟨t,hv⟩ k
 subst hv
 exact PyProof.Rows.neg_int (k (.int (-i)) st D σ _ _ Le.refl (R.tok _) ⟨_,rfl⟩ h)
theorem JR{i j:Int}{Q:V->List AO->Prop}(h:Q (.bool (i==j)) st):W2 g K f A (compareOp .Eq) (.int i) (.int j) (VR g.w.params) m st Q E:=by
 intro D σ s Q' v u R ⟨t,hv⟩ ⟨t',hu⟩ k
 subst hv hu
 exact PyProof.Rows.eq_int (k (.bool (i==j)) st D σ _ _ Le.refl R rfl h)
theorem JZ{i j:Int}{Q:V->List AO->Prop}(h:Q (.bool (i !=j)) st):W2 g K f A (compareOp .NotEq) (.int i) (.int j) (VR g.w.params) m st Q E:=by
 intro D σ s Q' v u R ⟨t,hv⟩ ⟨t',hu⟩ k
 subst hv hu
 exact PyProof.Rows.ne_int (k (.bool (i !=j)) st D σ _ _ Le.refl R rfl h)
theorem JW{i j:Int}{Q:V->List AO->Prop}(h:Q (.bool (decide (i<j))) st):W2 g K f A (compareOp .Lt) (.int i) (.int j) (VR g.w.params) m st Q E:=by
 intro D σ s Q' v u R ⟨t,hv⟩ ⟨t',hu⟩ k
 subst hv hu
 exact PyProof.Rows.lt_int (k (.bool (decide (i<j))) st D σ _ _ Le.refl R rfl h)
theorem JV{i j:Int}{Q:V->List AO->Prop}(h:Q (.bool (decide (i<=j))) st):W2 g K f A (compareOp .LtE) (.int i) (.int j) (VR g.w.params) m st Q E:=by
 intro D σ s Q' v u R ⟨t,hv⟩ ⟨t',hu⟩ k
 subst hv hu
 exact PyProof.Rows.le_int (k (.bool (decide (i<=j))) st D σ _ _ Le.refl R rfl h)
theorem JU{i j:Int}{Q:V->List AO->Prop}(h:Q (.bool (decide (j<i))) st):W2 g K f A (compareOp .Gt) (.int i) (.int j) (VR g.w.params) m st Q E:=by
 intro D σ s Q' v u R ⟨t,hv⟩ ⟨t',hu⟩ k
 subst hv hu
 exact PyProof.Rows.gt_int (k (.bool (decide (j<i))) st D σ _ _ Le.refl R rfl h)
theorem JT{i j:Int}{Q:V->List AO->Prop}(h:Q (.bool (decide (j<=i))) st):W2 g K f A (compareOp .GtE) (.int i) (.int j) (VR g.w.params) m st Q E:=by
 intro D σ s Q' v u R ⟨t,hv⟩ ⟨t',hu⟩ k
 subst hv hu
 exact PyProof.Rows.ge_int (k (.bool (decide (j<=i))) st D σ _ _ Le.refl R rfl h)
theorem JS{x y:Str}{Q:V->List AO->Prop}(h:Q (.bool (x==y)) st):W2 g K f A (compareOp .Eq) (.str x) (.str y) (VR g.w.params) m st Q E:=by
 intro D σ s Q' v u R ⟨t,hv⟩ ⟨t',hu⟩ k
 subst hv hu
 exact PyProof.Rows.eq_str (k (.bool (x==y)) st D σ _ _ Le.refl R rfl h)
theorem J0{x y:Str}{Q:V->List AO->Prop}(h:Q (.bool (x !=y)) st):W2 g K f A (compareOp .NotEq) (.str x) (.str y) (VR g.w.params) m st Q E:=by
 intro D σ s Q' v u R ⟨t,hv⟩ ⟨t',hu⟩ k
 subst hv hu
 exact PyProof.Rows.ne_str (k (.bool (x !=y)) st D σ _ _ Le.refl R rfl h)
theorem Im{b:Bool}{Q:Bool->List AO->Prop}(h:Q b st):W1 g K f A truthy (.bool b) (λ_ _ a b=>a=b) m st Q E:=by
 intro D σ s Q' v R hv k
 have hv:v= .bool b:=hv
 subst hv
 exact wpAny_truthy_bool (k b st D σ b s Le.refl R rfl h)
end
end Mine
namespace Mine
section
variable{g:Gl}{K:Kx}{f:Fx}{A:Around}{m:M}{st:List AO}{E:Value->Shared->Prop}{D:Dt}{σ:List Addr}{s:Shared}
def ka(g:Gl)(K:Kx)(f:Fx)(A:Around)(fn:Value)(xs:List V)(m:M)(st:List AO)(Q:V->List AO->Prop)(E:Value->Shared->Prop):Prop:=
 ∀D σ s (Q':Value->Shared->Prop) vs,Rel g K f D σ m st s->aM g.w.params D σ xs vs->
  (∀a st' D' σ' b s',Le D σ D' σ'->Rel g K f D' σ' m st' s'->VR g.w.params D' σ' a b->Q a st'->Q' b s')->
  wpAny (model cS g.w) A (call fn vs) Q' E s
theorem Ad{fe:Expr}{args:List Expr}{pos:Pos}{id:String}{Q:V->List AO->Prop}
  (hf:WE g K f A fe m st (λv bK=>v= .f6 (.builtin id)/\qS g K f A pos args m bK (λxs d7=>ka g K f A (.builtin id) xs m d7 Q E) E) E)
  (hs:(backTo pos (starEach args f.env)).any (·.1)=false:=by rfl)
  (he:eval (.Call fe args [] pos) f.env=(do callWith pos (<-eval fe f.env) [] (backTo pos (starEach args f.env)) (backToKw pos (keywordEach [] f.env))):=by rfl):WE g K f A (.Call fe args [] pos) m st Q E:=by
 intro D σ s Q' R k
 rw[he]
 refine wpAny_bind (hf D σ s _ R λa bK D₁ σ₁ v s₁ L₁ R₁ r₁ h₁=> ?_)
 refine aO h₁ ?_;clear h₁;rintro rfl h₁
 have Rq:v= .builtin id:=r₁
 subst Rq
 refine Calls.callWith_builtin hs (cB hs ?_)
 refine h₁ D₁ σ₁ s₁ _ R₁ λxs d7 D₂ σ₂ vs s₂ L₂ R₂ r₂ h₂=> ?_
 exact h₂ D₂ σ₂ s₂ Q' vs R₂ r₂ λc eA D₃ σ₃ z s₃ L₃ R₃ r₃ h₃=>k c eA D₃ σ₃ z s₃ ((L₁.trans L₂).trans L₃) R₃ r₃ h₃
theorem Ae{fe:Expr}{args:List Expr}{pos:Pos}{T:String}{Q:V->List AO->Prop}
  (hf:WE g K f A fe m st (λv bK=>v= .f6 (.type T)/\qS g K f A pos args m bK (λxs d7=>ka g K f A (.type T) xs m d7 Q E) E) E)
  (hs:(backTo pos (starEach args f.env)).any (·.1)=false:=by rfl)
  (he:eval (.Call fe args [] pos) f.env=(do callWith pos (<-eval fe f.env) [] (backTo pos (starEach args f.env)) (backToKw pos (keywordEach [] f.env))):=by rfl):WE g K f A (.Call fe args [] pos) m st Q E:=by
 intro D σ s Q' R k
 rw[he]
 refine wpAny_bind (hf D σ s _ R λa bK D₁ σ₁ v s₁ L₁ R₁ r₁ h₁=> ?_)
 refine aO h₁ ?_;clear h₁;rintro rfl h₁
 have Rq:v= .type T:=r₁
 subst Rq
 refine PySem.callWith_type hs (cB hs ?_)
 refine h₁ D₁ σ₁ s₁ _ R₁ λxs d7 D₂ σ₂ vs s₂ L₂ R₂ r₂ h₂=> ?_
 exact h₂ D₂ σ₂ s₂ Q' vs R₂ r₂ λc eA D₃ σ₃ z s₃ L₃ R₃ r₃ h₃=>k c eA D₃ σ₃ z s₃ ((L₁.trans L₂).trans L₃) R₃ r₃ h₃
theorem S3{x:V}{T id:String}{name:Str}{pos:Pos}{args:List Expr}{Q:V->List AO->Prop}(pa:PlainAttrs T)(slot:PySem.Slot T name id)(Ny:typeOf (.builtin id)=pure (.type "method_descriptor"))
  (hT: ∀(D:Dt) (σ:List Addr) (s:Shared) (v:Value),Rel g K f D σ m st s->VR g.w.params D σ x v->s.TypeIs v T/\ ∀a,v= .ref a-> ∃o,s.heap.get? a=some o/\o.dict=none)
  (h:qS g K f A pos args m st (λys d7=>ka g K f A (.builtin id) (x::ys) m d7 Q E) E) (hs:(backTo pos (starEach args f.env)).any (·.1)=false:=by rfl):WM g K f A name pos args x m st Q E:=by
 intro D σ s Q' v pl R hv k
 refine aO (hT D σ s v R hv) λh1 h2=> ?_
 refine getMethod_builtin h1 pa slot Ny h2 ?_
 refine Calls.callWith_builtin hs (cB hs ?_)
 refine h D σ s _ R λxs d7 D₂ σ₂ vs s₂ L₂ R₂ r₂ h₂=> ?_
 exact h₂ D₂ σ₂ s₂ Q' (v::vs) R₂ ⟨v,vs,rfl,hv.mono L₂,r₂⟩ λc eA D₃ σ₃ z s₃ L₃ R₃ r₃ h₃=>k c eA D₃ σ₃ z s₃ (L₂.trans L₃) R₃ r₃ h₃
theorem DF{n:Nat}{xs:List V}(hs:st[n]? =some (.lst xs)): ∀(D:Dt) (σ:List Addr) (s:Shared) (v:Value),Rel g K f D σ m st s->VR g.w.params D σ (.loc n) v->s.TypeIs v "list"/\ ∀a,v= .ref a-> ∃o,s.heap.get? a=some o/\o.dict=none:=by
 intro D σ s v R hv
 refine ao hv ?_;clear hv;rintro a rfl h1
 refine R.r.cA hs h1 λits n' q2 q3=> ?_
 exact⟨⟨_,q2,rfl⟩,λb hb=>by cases hb;exact⟨_,q2,rfl⟩⟩
theorem DG{xs:List V}: ∀(D:Dt) (σ:List Addr) (s:Shared) (v:Value),Rel g K f D σ m st s->VR g.w.params D σ (.lst xs) v->s.TypeIs v "list"/\ ∀a,v= .ref a-> ∃o,s.heap.get? a=some o/\o.dict=none:=by
 intro D σ s v R hv
 refine VR.cA hv ?_;clear hv;rintro a its n rfl h1 h2
 have q2:=R.r.dh _ _ h1
 exact⟨⟨_,q2,rfl⟩,λb hb=>by cases hb;exact⟨_,q2,rfl⟩⟩
theorem DH{x:Str}: ∀(D:Dt) (σ:List Addr) (s:Shared) (v:Value),Rel g K f D σ m st s->VR g.w.params D σ (.str x) v->s.TypeIs v "str"/\ ∀a,v= .ref a-> ∃o,s.heap.get? a=some o/\o.dict=none:=by
 intro D σ s v R ⟨t,hv⟩
 subst hv
 exact⟨rfl,λb hb=>nomatch hb⟩
theorem type_int{x:Int}: ∀(D:Dt) (σ:List Addr) (s:Shared) (v:Value),Rel g K f D σ m st s->VR g.w.params D σ (.int x) v->s.TypeIs v "int"/\ ∀a,v= .ref a-> ∃o,s.heap.get? a=some o/\o.dict=none:=by
 intro D σ s v R ⟨t,hv⟩
 subst hv
 exact⟨rfl,λb hb=>nomatch hb⟩
theorem aM.size{P:Params}{xs:List V}{its:Array Value}(h:aM P D σ xs its.toList):its.size=xs.length:=by rw[<-Array.length_toList];exact aM.length h
theorem aM.one{P:Params}{x:V}{vs:List Value}(h:aM P D σ [x] vs): ∃v,vs=[v]/\VR P D σ x v:=
 h.aW λv r e h1 h2=>⟨v,h2.dp▸e,h1⟩
theorem aM.ja{P:Params}{x:V}{vs:List Value}{G:Prop}(h:aM P D σ [x] vs)(g: ∀v,vs=[v]->VR P D σ x v->G):G:=ao h.one g
theorem aM.two{P:Params}{x y:V}{vs:List Value}(h:aM P D σ [x,y] vs): ∃v u,vs=[v,u]/\VR P D σ x v/\VR P D σ y u:=
 h.aW λv r e h1 h2=>h2.aW λu r' e' h3 h4=>⟨v,u,h4.dp▸e'▸e,h1,h3⟩
theorem aM.jc{P:Params}{x y:V}{vs:List Value}{G:Prop}(h:aM P D σ [x,y] vs)(g: ∀v u,vs=[v,u]->VR P D σ x v->VR P D σ y u->G):G:=cj h.two g
theorem fits63{n:Nat}(h:n<=sizeLine):(n:Int)<2^63:=by rw[sizeLine_eq] at h;omega
theorem Gh{xs:List V}{Q:V->List AO->Prop}(hz:xs.length<=sizeLine)(h:Q (.int xs.length) st):ka g K f A (.builtin "len") [.lst xs] m st Q E:=by
 intro D σ s Q' vs R hv k
 refine hv.ja ?_;rintro v rfl nX
 refine VR.cA nX ?_;clear nX;rintro a its n rfl h1 h2
 refine PyProof.Rows.len_list ⟨_,R.r.dh _ _ h1,rfl,n,rfl⟩ (by rw[aM.size h2];exact fits63 hz) ?_
 rw[aM.size h2]
 exact k (.int xs.length) st D σ _ _ Le.refl (R.tok _) ⟨_,rfl⟩ h
theorem Gg{n:Nat}{xs:List V}{Q:V->List AO->Prop}(hs:st[n]? =some (.lst xs))(hz:xs.length<=sizeLine)(h:Q (.int xs.length) st):ka g K f A (.builtin "len") [.loc n] m st Q E:=by
 intro D σ s Q' vs R hv k
 refine hv.ja λv ev hv=>ev▸ao hv λa e h1=>e▸R.r.cA hs h1 λits n' q2 q3=> ?_
 refine PyProof.Rows.len_list ⟨_,q2,rfl,n',rfl⟩ (by rw[aM.size q3];exact fits63 hz) ?_
 rw[aM.size q3]
 exact k (.int xs.length) st D σ _ _ Le.refl (R.tok _) ⟨_,rfl⟩ h
theorem len_str{x:Str}{Q:V->List AO->Prop}(hz:x.length<=sizeLine)(h:Q (.int x.length) st):ka g K f A (.builtin "len") [.str x] m st Q E:=by
 intro D σ s Q' vs R hv k
 obtain⟨v,rfl,t,rfl⟩:=hv.one
 exact PyProof.Rows.len_str (by have :=fits63 hz;exact YN this) (k (.int x.length) st D σ _ _ Le.refl (R.tok _) ⟨_,rfl⟩ h)
theorem Gi{xs:List V}{Q:V->List AO->Prop}(hz:xs.length<=sizeLine)(h:Q (.int xs.length) st):ka g K f A (.builtin "len") [.tup xs] m st Q E:=by
 intro D σ s Q' vs R hv k
 refine hv.ja ?_;rintro v rfl nX
 refine VR.fK nX ?_;clear nX;rintro a its n rfl h1 h2
 refine PyProof.Rows.len_tuple ⟨_,R.r.dh _ _ h1,rfl,n,rfl⟩ (by rw[aM.size h2];exact fits63 hz) ?_
 rw[aM.size h2]
 exact k (.int xs.length) st D σ _ _ Le.refl (R.tok _) ⟨_,rfl⟩ h
theorem oa{its:Array Value}{n:Nat}{F:Array Value->Array Value}: ∃n',ab2 F (listOf its n)=listOf (F its) n':=⟨_,rfl⟩
theorem Rel.iP(R:Rel g K f D σ m st s){n:Nat}{a:Addr}{its:Array Value}{e:Nat}{F:Array Value->Array Value}{ys:List V}{t:Nat}(h1:σ[n]? =some a)(q2:s.heap.get? a=some (listOf its e))
  (hy:aM g.w.params D σ ys (F its).toList):Rel g K f D σ m (st.set n (.lst ys)) {s with heap:=s.heap.update a (ab2 F),toks:=t}:=by
 refine aj (oa (its:=its) (n:=e) (F:=F)) λn' he=> ?_
 have i8:=aa1 (h:=s.heap) (ab2 F) q2 (by rw[he];rfl)
 rw[he] at i8
 exact R.upd (n:=n) (a:=a) (x:= .lst ys) h1 ⟨λb o hb kI=>(ab8 _ _ _ _ hb).trans kI,rfl,rfl⟩ i8 ⟨_,_,rfl,hy⟩
theorem rq{n:Nat}{xs:List V}{y:V}{Q:V->List AO->Prop}(hs:st[n]? =some (.lst xs))(hz:xs.length<=sizeLine)(h:Q .none (st.set n (.lst (xs++[y])))):ka g K f A (.builtin "list.append") [.loc n,y] m st Q E:=by
 intro D σ s Q' vs R hv k
 refine hv.jc ?_;rintro v u rfl ⟨a,rfl,h1⟩ hu
 refine R.r.cA hs h1 λits n' q2 q3=> ?_
 refine call_meets ace ⟨_,q2,rfl⟩ PySem.F.entry_list_append (PySem.F.args_list_append_2 _ _) (PySem.list_append a its n' u (by rw[aM.size q3];exact hz)) ⟨q2,?_⟩
 refine k .none _ D σ .none _ Le.refl (R.iP (n:=n) h1 q2 ?_) rfl h
 simp only[Array.toList_push]
 exact aM.append q3 ⟨u,[],rfl,hu,rfl⟩
theorem aM.erase{P:Params}: ∀{xs:List V} {vs:List Value},aM P D σ xs vs-> ∀i,aM P D σ (xs.eraseIdx i) (vs.eraseIdx i)
 | [],_,h,i=>by cases h.dp;cases i<;>rfl
 | x::xs,_,h,i=>by
  refine aM.aW h ?_;clear h;rintro v r rfl h1 h2
  cases i with
  | zero=>exact h2
  | succ i=>exact⟨v,_,rfl,h1,aM.erase h2 i⟩
theorem eK(its:Array Value)(i:Nat):(its.eraseIdxIfInBounds i).toList=its.toList.eraseIdx i:=by
 obtain⟨l⟩:=its
 simp only[List.eraseIdxIfInBounds_toArray]
theorem Aw{n:Nat}{xs:List V}{y:V}{Q:V->List AO->Prop}(hs:st[n]? =some (.lst (xs++[y])))(hz:(xs++[y]).length<=sizeLine)(h:Q y (st.set n (.lst xs))):ka g K f A (.builtin "list.pop") [.loc n] m st Q E:=by
 intro D σ s Q' vs R hv k
 refine hv.ja λv ev hv=>ev▸ao hv λa e h1=>e▸R.r.cA hs h1 λits n' q2 q3=> ?_
 have pH:=aM.size q3
 rw[aag] at pH
 refine aM.rh q3 (i:=xs.length) (x:=y) (by rw[aau (aaw _)];simp) λu w1 w2=> ?_
 have hi:its.size- 1=xs.length:=by rw[pH];simp
 refine call_meets acW ⟨_,q2,rfl⟩ PySem.F.entry_list_pop (PySem.F.args_list_pop_1 _) (PySem.MeetsSeq.list_pop_last a its n' u (by rw[hi,<-abc];exact w1) (by rw[aM.size q3];exact hz)) ⟨q2,?_⟩
 refine k y _ D σ u _ Le.refl (R.iP (n:=n) h1 q2 ?_) w2 h
 rw[eK,hi]
 have :=aM.erase q3 xs.length
 rw[List.eraseIdx_append_of_length_le (aaw _)] at this
 simpa using this
theorem qp{i n:Nat}(h:i<n):seqIndex? (i:Int) n=some i:=by unfold seqIndex?;simp;omega
theorem Ml{a:Addr}{its:Array Value}{n' i:Nat}{j:Int}{t:Tok}{u:Value}{Q:Value->Shared->Prop}(q2:s.heap.get? a=some (listOf its n'))(e1:aa5 j=true)(e2:seqIndex? j its.size=some i)(e3:its[i]? =some u)(e4:its.size<=sizeLine)
  (h:Q u {s with heap:=s.heap.update a (ab2 λxs=>xs.eraseIdxIfInBounds i)}):wpAny (model cS g.w) A (call (.builtin "list.pop") [.ref a,.int j t]) Q E s:=
 call_meets acW ⟨_,q2,rfl⟩ PySem.F.entry_list_pop (PySem.F.args_list_pop_2 _ _) (PySem.MeetsSeq.list_pop_at a its n' j t i u e1 e2 e3 e4) ⟨q2,h⟩
theorem uo{n i:Nat}{xs:List V}{y:V}{Q:V->List AO->Prop}(hs:st[n]? =some (.lst xs))(hz:xs.length<=sizeLine)(hy:xs[i]? =some y)(h:Q y (st.set n (.lst (xs.eraseIdx i)))):ka g K f A (.builtin "list.pop") [.loc n,.int i] m st Q E:=by
 intro D σ s Q' vs R hv k
 refine hv.jc λv u ev hv hu=>ev▸ao hv λa e h1=>e▸aj hu λt e=>e▸R.r.cA hs h1 λits n' q2 q3=> ?_
 have pH:=aM.size q3
 have dc:i<xs.length:=(aar.mp hy).1
 refine aM.rh q3 hy λu w1 w2=> ?_
 rw[sizeLine_eq] at hz
 have e1:aa5 (i:Int)=true:=by
  have a1:(-(2^63):Int)<=(i:Int):=by omega
  have a2:(i:Int)<(2^63:Int):=by omega
  unfold aa5
  simp only[aaT,decide_eq_true_eq]
  exact⟨a1,a2⟩
 have e2:seqIndex? (i:Int) its.size=some i:=qp (by rw[pH];exact dc)
 have e3:its[i]? =some u:=by rw[<-abc];exact w1
 have e4:its.size<=sizeLine:=by rw[pH,sizeLine_eq];exact hz
 refine Ml q2 e1 e2 e3 e4 ?_
 refine k y _ D σ u _ Le.refl (R.iP (n:=n) h1 q2 ?_) w2 h
 rw[eK]
 exact aM.erase q3 i
theorem aM.reverse{P:Params}: ∀{xs:List V} {vs:List Value},aM P D σ xs vs->aM P D σ xs.reverse vs.reverse
 | [],_,h=>by cases h.dp;rfl
 | x::xs,_,h=>by
  refine aM.aW h ?_;clear h;rintro v r rfl h1 h2
  rw[List.reverse_cons,List.reverse_cons]
  exact aM.append (aM.reverse h2) ⟨v,[],rfl,h1,rfl⟩
theorem oW{n:Nat}{xs:List V}{Q:V->List AO->Prop}(hs:st[n]? =some (.lst xs))(hz:xs.length<=sizeLine)(h:Q .none (st.set n (.lst xs.reverse))):ka g K f A (.builtin "list.reverse") [.loc n] m st Q E:=by
 intro D σ s Q' vs R hv k
 refine hv.ja λv ev hv=>ev▸ao hv λa e h1=>e▸R.r.cA hs h1 λits n' q2 q3=> ?_
 refine call_meets PySem.F.slot_list_reverse ⟨_,q2,rfl⟩ PySem.F.entry_list_reverse (PySem.F.args_list_reverse_1 _) (PySem.AutoListH.list_reverse_list_0 a its n' (by rw[aM.size q3];exact hz)) ⟨q2,?_⟩
 refine k .none _ D σ .none _ Le.refl (R.iP (n:=n) h1 q2 ?_) rfl h
 simp only[Array.toList_reverse]
 exact aM.reverse q3
theorem oO{e i:Expr}{pos:Pos}{Q:V->List AO->Prop}
  (h:WE g K f A e m st (λa bK=>WE g K f A i m bK (λb d7=>W2 g K f A (subscriptTail e i) a b (VR g.w.params) m d7 Q E) E) E):WE g K f A (.Subscript e i pos) m st Q E:=by
 intro D σ s Q' R k
 refine PyProof.Rows.Subscript_ (h D σ s _ R λa bK D₁ σ₁ v s₁ L₁ R₁ r₁ h₁=> ?_)
 refine h₁ D₁ σ₁ s₁ _ R₁ λb d7 D₂ σ₂ u s₂ L₂ R₂ r₂ h₂=> ?_
 exact h₂ D₂ σ₂ s₂ Q' v u R₂ (r₁.mono L₂) r₂ λc eA D₃ σ₃ z s₃ L₃ R₃ r₃ h₃=>k c eA D₃ σ₃ z s₃ ((L₁.trans L₂).trans L₃) R₃ r₃ h₃
end
end Mine
namespace Mine
structure Ex where
 C:Addr
 kind:V
 at_:V
 ki:V
noncomputable abbrev RE(α:Type):=Option (Except Ex α×List AO)
noncomputable def RE.bind{α β:Type}(r:RE α)(k:α->List AO->RE β):RE β:=match r with
 | some (.ok a,st)=>k a st
 | some (.error x,st)=>some (.error x,st)
 | none=>none
noncomputable abbrev RS:=Option (Except Ex Fl×M×List AO)
noncomputable def RE.b7{α:Type}(r:RE α)(m:M)(k:α->List AO->RS):RS:=match r with
 | some (.ok a,st)=>k a st
 | some (.error x,st)=>some (.error x,m,st)
 | none=>none
noncomputable def RS.sq(r:RS)(k:M->List AO->RS):RS:=match r with
 | some (.ok .next,m,st)=>k m st
 | r=>r
@[reducible] noncomputable def ok {α:Type} (a:α) (st:List AO):RE α:=some (.ok a,st)
@[reducible] noncomputable def k8 (a:Fl) (m:M) (st:List AO):RS:=some (.ok a,m,st)
noncomputable def wI:V->Option Int
 | .int i=>some i
 | _=>none
noncomputable def wS:V->Option Str
 | .str s=>some s
 | _=>none
noncomputable def wT:V->Option String
 | .f6 v=>match v with
  | .type T=>some T
  | _=>none
 | _=>none
noncomputable def oK{α β:Type}(o:Option α)(k:α->Option β):Option β:=match o with
 | some a=>k a
 | none=>none
theorem abG{α β:Type}{o:Option α}{k:α->Option β}{r:Option β}(h:oK o k=r)(aa:r≠none): ∃a,o=some a/\k a=r:=by
 cases o with
 | none=>exact absurd h.symm aa
 | some a=>exact⟨a,rfl,h⟩
theorem abg{β:Type}{c:Prop}[d:Decidable c]{k r:Option β}(h:(if c then k else none)=r)(aa:r≠none):c/\k=r:=by
 cases d with
 | isTrue hc=>exact⟨hc,h⟩
 | isFalse hc=>exact absurd h.symm aa
theorem aB{α β:Type}{o:Option α}{k:α->Option β}{r:Option β}{G:Prop}(h:oK o k=r)(aa:r≠none)(g: ∀a,o=some a->k a=r->G):G:=by
 cases o with
 | none=>exact absurd h.symm aa
 | some a=>exact g a rfl h
theorem aR{β:Type}{c:Prop}[d:Decidable c]{k r:Option β}{G:Prop}(h:(if c then k else none)=r)(aa:r≠none)(g:c->k=r->G):G:=by
 cases d with
 | isTrue hc=>exact g hc h
 | isFalse hc=>exact absurd h.symm aa
theorem bO{β:Type}{c:Prop}[d:Decidable c]{k l r:Option β}{P:Prop}(h:(if c then k else l)=r)(h1:c->k=r->P)(h2: ¬c->l=r->P):P:=by
 cases d with
 | isTrue hc=>exact h1 hc h
 | isFalse hc=>exact h2 hc h
noncomputable def ZP{β:Type}(xs:List V)(k:Option β):Option β:=match xs with
 | []=>k
 | _=>none
theorem Cw{β:Type}{k r:Option β}: ∀{xs:List V},ZP xs k=r->r≠none->xs=[]/\k=r
 | [],h,n=>⟨rfl,h⟩
 | _::_,h,n=>absurd h.symm n
noncomputable def ve{β:Type}(xs:List V)(k:V->Option β):Option β:=match xs with
 | [x]=>k x
 | _=>none
noncomputable def QY{β:Type}(xs:List V)(k:V->V->Option β):Option β:=match xs with
 | [x,y]=>k x y
 | _=>none
noncomputable def ZQ{β:Type}(xs:List V)(k:V->V->V->Option β):Option β:=match xs with
 | [x,y,z]=>k x y z
 | _=>none
theorem Md{β:Type}{k:V->Option β}{r:Option β}: ∀{xs:List V},ve xs k=r->r≠none-> ∃x,xs=[x]/\k x=r
 | [],h,n=>absurd h.symm n
 | [x],h,n=>⟨x,rfl,h⟩
 | _::_::_,h,n=>absurd h.symm n
theorem Me{β:Type}{k:V->V->Option β}{r:Option β}: ∀{xs:List V},QY xs k=r->r≠none-> ∃x y,xs=[x,y]/\k x y=r
 | [],h,n=>absurd h.symm n
 | [_],h,n=>absurd h.symm n
 | [x,y],h,n=>⟨x,y,rfl,h⟩
 | _::_::_::_,h,n=>absurd h.symm n
theorem g4{β:Type}{k:V->Option β}{r:Option β}{G:Prop}{xs:List V}(h:ve xs k=r)(n:r≠none)(g: ∀x,xs=[x]->k x=r->G):G:=ao (Md h n) g
theorem Cy{β:Type}{k:V->V->Option β}{r:Option β}{G:Prop}{xs:List V}(h:QY xs k=r)(n:r≠none)(g: ∀x y,xs=[x,y]->k x y=r->G):G:=cc (Me h n) g
theorem Mf{β:Type}{k:V->V->V->Option β}{r:Option β}: ∀{xs:List V},ZQ xs k=r->r≠none-> ∃x y z,xs=[x,y,z]/\k x y z=r
 | [],h,n=>absurd h.symm n
 | [_],h,n=>absurd h.symm n
 | [_,_],h,n=>absurd h.symm n
 | [x,y,z],h,n=>⟨x,y,z,rfl,h⟩
 | _::_::_::_::_,h,n=>absurd h.symm n
theorem ez{i:Int}{v:V}(h:wI v=some i):v= .int i:=by
 cases v with
 | int j=>exact congrArg V.int (aaj h)
 | _=>exact aY h
theorem fp{i:Str}{v:V}(h:wS v=some i):v= .str i:=by
 cases v with
 | str j=>exact congrArg V.str (aaj h)
 | _=>exact aY h
theorem RO{T:String}{v:V}(h:wT v=some T):v= .f6 (.type T):=by
 cases v with
 | f6 w=>
  cases w with
  | type U=>exact congrArg (λT=>V.f6 (.type T)) (aaj h)
  | _=>exact aY h
 | _=>exact aY h
theorem aN{β:Type}{a:β}:some a≠none:=λh=>Dk h
noncomputable def opt{α β:Type}(o:Option α)(k:α->β)(z:β):β:=match o with
 | some a=>k a
 | none=>z
theorem br{α β:Type}{o:Option α}{k:α->β}{z r:β}{P:Prop}(h:opt o k z=r)(h1: ∀a,o=some a->k a=r->P)(h2:o=none->z=r->P):P:=by
 cases o with
 | none=>exact h2 rfl h
 | some a=>exact h1 a rfl h
theorem aK{α β:Type}{o:Option α}{k:α->Option β}{a:α}(h:o=some a):oK o k=k a:=by rw[h];rfl
theorem jv{α β:Type}{o:Option α}{k:α->β}{z:β}{a:α}(h:o=some a):opt o k z=k a:=by rw[h];rfl
theorem qf{α β:Type}{o:Option α}{k:α->β}{z:β}(h:o=none):opt o k z=z:=by rw[h];rfl
theorem lN{β:Type}{c:Bool}{k l r:β}{P:Prop}(h:(bif c then k else l)=r)(h1:c=true->k=r->P)(h2:c=false->l=r->P):P:=by
 cases c with
 | true=>exact h1 rfl h
 | false=>exact h2 rfl h
noncomputable def zD:V->Option Nat
 | .loc n=>some n
 | _=>none
noncomputable def wLs:V->Option (List V)
 | .lst xs=>some xs
 | _=>none
noncomputable def jq(st:List AO)(n:Nat):Option (List V):=match st[n]? with
 | some (.lst xs)=>some xs
 | _=>none
noncomputable def ji(st:List AO)(n:Nat):Option (List (Str×V)):=match st[n]? with
 | some (.aF fs)=>some fs
 | _=>none
theorem eN{st:List AO}{n:Nat}{xs:List V}(h:jq st n=some xs):st[n]? =some (.lst xs):=by
 unfold jq at h
 cases q:st[n]? with
 | none=>rw[q] at h;exact aY h
 | some o=>
  rw[q] at h
  cases o with
  | lst ys=>exact congrArg (λz=>some (AO.lst z)) (aaj h)
  | aF _=>exact aY h
theorem bR{st:List AO}{n:Nat}{xs:List V}(h:st[n]? =some (.lst xs)):jq st n=some xs:=by unfold jq;rw[h]
theorem cZ{st:List AO}{n:Nat}{xs:List (Str×V)}(h:st[n]? =some (.aF xs)):ji st n=some xs:=by unfold ji;rw[h]
theorem lj{st:List AO}{n:Nat}{xs:List (Str×V)}(h:st[n]? =some (.aF xs)):jq st n=none:=by unfold jq;rw[h]
theorem cY{st:List AO}{n:Nat}{xs:List (Str×V)}(h:ji st n=some xs):st[n]? =some (.aF xs):=by
 unfold ji at h
 cases q:st[n]? with
 | none=>rw[q] at h;exact aY h
 | some o=>
  rw[q] at h
  cases o with
  | aF ys=>exact congrArg (λz=>some (AO.aF z)) (aaj h)
  | lst _=>exact aY h
theorem j7{i:Nat}{v:V}(h:zD v=some i):v= .loc i:=by
 cases v with
 | loc j=>exact congrArg V.loc (aaj h)
 | _=>exact aY h
theorem M9{i:List V}{v:V}(h:wLs v=some i):v= .lst i:=by
 cases v with
 | lst j=>exact congrArg V.lst (aaj h)
 | _=>exact aY h
mutual
noncomputable def tj(f:Nat->Nat->Option PyData):Nat->V->Option PyData
 | _,.none=>some .none
 | _,.bool b=>some (.bool b)
 | _,.int i=>some (.int i)
 | _,.str x=>if adl x then some (.str x) else none
 | n,.tup xs=>match n with
  | 0=>none
  | n+1=>oK (dO f n xs) λd=>some (.tuple d)
 | n,.lst xs=>match n with
  | 0=>none
  | n+1=>oK (dO f n xs) λd=>some (.list d)
 | n,.loc j=>f n j
 | _,_=>none
noncomputable def dO(f:Nat->Nat->Option PyData):Nat->List V->Option (List PyData)
 | _,[]=>some []
 | n,x::xs=>oK (tj f n x) λd=>oK (dO f n xs) λds=>some (d::ds)
end
noncomputable def k7(st:List AO):Nat->Nat->Nat->Option PyData
 | 0,_,_=>none
 | _+1,0,_=>none
 | k+1,n+1,j=>oK (jq st j) λxs=>oK (dO (k7 st k) n xs) λd=>some (.list d)
noncomputable def toD(st:List AO)(x:V):Option PyData:=tj (k7 st 2) 30 x
noncomputable def ti(st:List AO)(xs:List V):Option (List PyData):=dO (k7 st 2) 29 xs
noncomputable def tv(st:List AO)(x y:V):Option Bool:=oK (toD st x) λa=>oK (toD st y) λb=>some (aaz a b)
noncomputable def items(st:List AO):V->Option (List V)
 | .lst xs=>some xs
 | .loc n=>jq st n
 | _=>none
noncomputable def bB(st:List AO):V->Option (List V)
 | .tup xs=>some xs
 | v=>items st v
noncomputable def among(st:List AO)(x:V)(ys:List V):Option Bool:=oK (ti st ys) λds=>oK (toD st x) λd=>some (ds.any λe=>aaz e d)
noncomputable def fM(st:List AO)(x:V)(ys:List V):Option (Option Nat):=oK (ti st ys) λds=>oK (toD st x) λd=>some (ds.findIdx? λe=>aaz e d)
noncomputable def mk(mu:Bool)(xs:List V)(st:List AO):RE V:=
 if xs.length<=100000 then(if mu then ok (.loc st.length) (st++[.lst xs]) else ok (.lst xs) st) else none
noncomputable def small(i:Int):Bool:=decide (-(10^15)<=i)&&decide (i<=10^15)
noncomputable def N8(op:Operator)(i j:Int)(st:List AO):RE V:=match op with
 | .Add=>ok (.int (i+j)) st
 | .Sub=>ok (.int (i- j)) st
 | .Mult=>if small i&&small j then ok (.int (i* j)) st else none
 | .FloorDiv=>if j≠0/\j.natAbs<1000000000 then ok (.int (i.fdiv j)) st else none
 | .Mod=>if j≠0 then ok (.int (i.fmod j)) st else none
 | .Pow=>if 0<=j/\j<=1000/\small i then ok (.int (i^j.toNat)) st else none
 | .LShift=>if 0<=j/\j<=1000/\small i then ok (.int (i* 2^j.toNat)) st else none
 | .BitOr=>ok (.int (Builtin.bitOr i j)) st
 | .BitAnd=>ok (.int (Builtin.bitAnd i j)) st
 | .BitXor=>ok (.int (Builtin.bitXor i j)) st
 | _=>none
noncomputable def Cz{β:Type}(op:Operator)(k:Option β):Option β:=match op with
 | .Add=>k
 | _=>none
noncomputable def Jh{β:Type}(op:Operator)(k:Option β):Option β:=match op with
 | .Mult=>k
 | _=>none
theorem sr{β:Type}{op:Operator}{k r:Option β}(h:Cz op k=r)(aa:r≠none):op= .Add/\k=r:=by
 cases op with
 | Add=>exact⟨rfl,h⟩
 | _=>exact absurd h.symm aa
theorem CA{β:Type}{op:Operator}{k r:Option β}(h:Jh op k=r)(aa:r≠none):op= .Mult/\k=r:=by
 cases op with
 | Mult=>exact⟨rfl,h⟩
 | _=>exact absurd h.symm aa
noncomputable def binI(mu:Bool)(op:Operator)(x y:V)(st:List AO):RE V:=
 opt (wI y) (λj=>opt (wI x) (λi=>N8 op i j st) (Jh op (oK (items st x) λxs=>if xs.length<=10/\ -10<=j/\j<=1000 then mk mu (List.flatten (aaB j.toNat xs)) st else none)))
  (opt (wS y) (λb=>oK (wS x) λa=>Cz op (if a.length+b.length<=100000 then ok (.str (a++b)) st else none))
   (Cz op (oK (items st x) λxs=>oK (items st y) λys=>mk mu (xs++ys) st)))
noncomputable def BP(f:Int->Int->Bool)(x y:V)(st:List AO):RE Bool:=oK (wI x) λi=>oK (wI y) λj=>ok (f i j) st
noncomputable def isNil:V->Bool
 | .lst xs=>xs.isEmpty
 | _=>false
noncomputable def Ol(x y:V)(st:List AO):RE Bool:=bif isNil y then oK (items st x) (λxs=>if xs.length<=100000 then ok xs.isEmpty st else none) else oK (tv st x y) λb=>ok b st
noncomputable def Nj(x y:V)(st:List AO):RE Bool:=
 opt (wI y) (λj=>opt (wI x) (λi=>ok (i==j) st) (Ol x y st)) (opt (wS y) (λb=>opt (wS x) (λa=>ok (a==b) st) (Ol x y st)) (Ol x y st))
noncomputable def Pu:V->Option Bool
 | .none=>some true
 | .tup _=>some false
 | .int _=>some false
 | _=>none
noncomputable def vNo:V->Bool
 | .none=>true
 | _=>false
noncomputable def isI(x y:V)(st:List AO):RE Bool:=oK (Pu x) λb=>bif vNo y then ok b st else none
noncomputable def uN(x y:V)(st:List AO):RE Bool:=opt (bB st y) (λys=>if ys.length<=100000 then oK (among st x ys) (λb=>ok b st) else none)
 (oK (wS x) λk=>oK (zD y) λn=>oK (ji st n) λfs=>ok ((fs.map (·.1)).contains k) st)
noncomputable def jS(r:RE Bool):RE Bool:=r.bind λb st=>ok (!b) st
noncomputable def bk(op:CmpOp)(x y:V)(st:List AO):RE Bool:=match op with
 | .Eq=>Nj x y st
 | .NotEq=>jS (Nj x y st)
 | .Lt=>BP (λi j=>decide (i<j)) x y st
 | .LtE=>BP (λi j=>decide (i<=j)) x y st
 | .Gt=>BP (λi j=>decide (j<i)) x y st
 | .GtE=>BP (λi j=>decide (j<=i)) x y st
 | .Is=>isI x y st
 | .IsNot=>none
 | .In=>uN x y st
 | .NotIn=>jS (uN x y st)
noncomputable def RC(op:UnaryOp)(x:V)(st:List AO):RE V:=match op with
 | .USub=>oK (wI x) λi=>ok (.int (-i)) st
 | _=>none
noncomputable def k9(x:V)(st:List AO):RE Bool:=
 match x with
 | .bool b=>ok b st
 | _=>none
noncomputable def pW(i:Int)(n:Nat):Option Nat:=if 0<=i/\i<n then some i.toNat else if i<0/\ -(n:Int)<=i then some (i+n).toNat else none
noncomputable def eQ(x y:V)(st:List AO):RE V:=
 opt (wI y) (λi=>opt (wS x) (λs=>if 0<=i/\i<=100000 then oK (s.cps[i.toNat]?) (λc=>ok (.str ⟨#[c]⟩) st) else none)
   (oK (bB st x) λxs=>if xs.length<=100000 then oK (pW i xs.length) (λj=>oK (xs[j]?) λv=>ok v st) else none))
  (oK (wS y) λk=>oK (zD x) λn=>oK (ji st n) λfs=>oK (fs.lookup k) λv=>ok v st)
noncomputable def AL(mu:Bool)(x:V)(f:List V->List V)(st:List AO):RE V:=oK (items st x) λxs=>if xs.length<=100000 then mk mu (f xs) st else none
noncomputable def kW(mu:Bool)(x:V)(lo hi:Option Int)(st:List AO):RE V:=
 opt lo (λl=>opt hi (λ_=>none) (if 0<=l/\l<=1000 then opt (wS x) (λs=>if s.length<=100000 then ok (.str (Txt.slice s (some l) none)) st else none) (AL mu x (List.drop l.toNat) st) else none))
  (oK hi λh=>if 0<=h/\h<=1000 then AL mu x (List.take h.toNat) st else none)
noncomputable def KR(name:Str)(fs:List (Str×V))(st:List AO):RE V:=oK (fs.lookup name) λv=>if v.plain then ok v st else none
noncomputable def rO(x:V)(name:Str)(st:List AO):RE V:=
 match x with
 | .nj _ fs=>KR name fs st
 | .inst _ n=>oK (ji st n) λfs=>KR name fs st
 | _=>none
noncomputable def putK(k:Str)(v:V):List (Str×V)->List (Str×V)
 | []=>[(k,v)]
 | (j,w)::r=>if j==k then(k,v)::r else(j,w)::putK k v r
noncomputable def Df(x:V)(name:Str)(v:V)(st:List AO):Option (List AO):=
 match x with
 | .inst _ n=>oK (ji st n) λfs=>if fs.length<=900 then some (st.set n (.aF (putK name v fs))) else none
 | _=>none
noncomputable def qt(x i v:V)(st:List AO):Option (List AO):=oK (zD x) λn=>
 opt (jq st n) (λxs=>oK (wI i) λi=>if xs.length<=100000/\0<=i/\i<xs.length then some (st.set n (.lst (xs.set i.toNat v))) else none)
  (oK (ji st n) λfs=>oK (wS i) λk=>if fs.length<=900 then some (st.set n (.aF (putK k v fs))) else none)
noncomputable def fq(st:List AO)(x:V)(i:Nat):Option (Option V):=
 match x with
 | .str s=>if s.cps.all (· <128) then some ((s.cps[i]?).map λc=> .str ⟨#[c]⟩) else none
 | .jb a b c=>if ab7 a b c then some (if i<(aaU a b c).toNat then some (.int (a+i* c)) else none) else none
 | .tup xs=>if xs.length<=100000 then some xs[i]? else none
 | .lst xs=>if xs.length<=100000 then some xs[i]? else none
 | .loc n=>oK (jq st n) λxs=>if xs.length<=100000 then some xs[i]? else none
 | _=>none
noncomputable def cK(i:Int):Str:=aab (toString i)
noncomputable def Ge(x:V)(st:List AO):Option Nat:=
 match x with
 | .str s=>some s.length
 | .loc n=>opt (jq st n) (λxs=>some xs.length) (oK (ji st n) λfs=>some fs.length)
 | x=>(bB st x).map (·.length)
noncomputable def EJ:List V->Option (List Str)
 | []=>some []
 | y::r=>oK (wS y) λx=>oK (EJ r) λr=>some (x::r)
noncomputable def QZ(s:Str)(st:List AO):RE V:=match s.cps.toList with
 | [c]=>ok (.int c) st
 | _=>none
noncomputable def knI:V->Option Nat
 | .int _=>some 0
 | .tup _=>some 1
 | .none=>some 2
 | _=>none
noncomputable def insI(x:V)(T:String):Option Bool:=oK (knI x) λn=>
 if T="int" then some (Nat.beq n 0) else if T="tuple" then(bif Nat.beq n 2 then none else some (Nat.beq n 1)) else none
noncomputable def bC(id:String)(xs:List V)(st:List AO):RE V:=
 if id="len" then ve xs λx=>oK (Ge x st) λn=>if n<=100000 then ok (.int n) st else none
 else if id="ord" then ve xs λx=>oK (wS x) λs=>QZ s st
 else if id="isinstance" then QY xs λx t=>oK (wT t) λT=>oK (insI x T) λb=>ok (.bool b) st
 else if id="max" then QY xs λx y=>oK (wI x) λi=>oK (wI y) λj=>ok (.int (if i<j then j else i)) st
 else none
noncomputable def Pr(x:V)(st:List AO):RE V:=match x with
 | .int i=>ok (.int i) st
 | .str s=>if s.length<=640 then oK (PySem.intText? s) λn=>ok (.int n) st else none
 | _=>none
noncomputable def Ro(xs:List V)(st:List AO):RE V:=match xs with
 | [x]=>oK (wI x) λn=>if small n then ok (.jb 0 n 1) st else none
 | xs=>ZQ xs λx y z=>oK (wI x) λa=>oK (wI y) λb=>oK (wI z) λc=>if small a&&small b&&decide (c.natAbs<1000000000)&&decide (c≠0) then ok (.jb a b c) st else none
noncomputable def gu(mu:Bool)(T:String)(xs:List V)(st:List AO):RE V:=
 if T="int" then ve xs λx=>Pr x st
 else if T="list" then ve xs λx=>oK (bB st x) λys=>mk mu ys st
 else if T="tuple" then ve xs λx=>oK (items st x) λys=>if ys.length<=100000 then ok (.tup ys) st else none
 else if T="range" then Ro xs st
 else none
inductive Kd where
 | lst | aF | str | int
noncomputable def kd(x:V)(st:List AO):Option Kd:=
 match x with
 | .loc n=>opt (jq st n) (λ_=>some .lst) (oK (ji st n) λ_=>some .aF)
 | .lst _=>some .lst
 | .str _=>some .str
 | .int _=>some .int
 | _=>none
noncomputable def pU(k:Kd)(name:Str):Option String:=
 match k with
 | .lst=>if name=aab "append" then some "list.append" else if name=aab "reverse" then some "list.reverse" else if name=aab "pop" then some "list.pop"
   else if name=aab "remove" then some "list.remove" else if name=aab "index" then some "list.index" else none
 | .aF=>if name=aab "get" then some "dict.get" else none
 | .str=>if name=aab "lstrip" then some "str.lstrip" else if name=aab "find" then some "str.find" else if name=aab "join" then some "str.join" else none
 | .int=>if name=aab "bit_length" then some "int.bit_length" else none
noncomputable def Q4(n:Nat)(ys xs:List V)(st:List AO):RE V:=match xs with
 | []=>oK ys.getLast? λv=>ok v (st.set n (.lst ys.dropLast))
 | xs=>ve xs λx=>oK (wI x) λi=>if 0<=i then oK (ys[i.toNat]?) (λv=>ok v (st.set n (.lst (ys.eraseIdx i.toNat)))) else none
noncomputable def PG(n:Nat)(ys:List V)(name:Str)(xs:List V)(st:List AO):RE V:=
 if name=aab "append" then ve xs λv=>ok .none (st.set n (.lst (ys++[v])))
 else if name=aab "reverse" then ZP xs (ok .none (st.set n (.lst ys.reverse)))
 else if name=aab "pop" then Q4 n ys xs st
 else if name=aab "remove" then ve xs λv=>oK (fM st v ys) λo=>oK o λj=>ok .none (st.set n (.lst (ys.eraseIdx j)))
 else none
noncomputable def UM(ys:List V)(name:Str)(xs:List V)(st:List AO):RE V:=if name=aab "index" then ve xs λv=>oK (fM st v ys) λo=>oK o λj=>ok (.int j) st else none
noncomputable def UO(s name:Str)(xs:List V)(st:List AO):RE V:=
 if name=aab "lstrip" then ve xs λy=>oK (wS y) λy=>if s.length<=100000 then ok (.str (Txt.lstripChars s y)) st else none
 else if name=aab "find" then ve xs λy=>oK (wS y) λy=>ok (.int (Txt.find s y)) st
 else if name=aab "join" then ve xs λx=>oK (items st x) λys=>oK (EJ ys) λss=>if(ss.map (·.length)).sum+ss.length* s.length<=100000 then ok (.str (Txt.join s ss)) st else none
 else none
noncomputable def PH(x:V)(name:Str)(xs:List V)(st:List AO):RE V:=
 opt (zD x) (λn=>oK (jq st n) λys=>if ys.length<100000 then PG n ys name xs st else none) (oK (wLs x) λys=>if ys.length<100000 then UM ys name xs st else none)
noncomputable def UL(x:V)(name:Str)(xs:List V)(st:List AO):RE V:=
 oK (zD x) λn=>oK (ji st n) λfs=>if name=aab "get" then QY xs (λk v=>oK (wS k) λk=>ok ((fs.lookup k).getD v) st) else none
noncomputable def UN(x:V)(name:Str)(xs:List V)(st:List AO):RE V:=oK (wI x) λi=>if name=aab "bit_length" then ZP xs (ok (.int (abm i)) st) else none
noncomputable def eF(k:Kd)(x:V)(name:Str)(xs:List V)(st:List AO):RE V:=
 match k with
 | .lst=>PH x name xs st
 | .aF=>UL x name xs st
 | .str=>oK (wS x) λs=>UO s name xs st
 | .int=>UN x name xs st
mutual
noncomputable def cH(k:Nat):V->Bool
 | .tup xs=>aQ k xs
 | .lst xs=>aQ k xs
 | .nj _ fs=>dg k fs
 | .inst _ n=>decide (n<k)
 | .loc n=>decide (n<k)
 | _=>true
noncomputable def aQ(k:Nat):List V->Bool
 | []=>true
 | x::xs=>cH k x&&aQ k xs
noncomputable def dg(k:Nat):List (Str×V)->Bool
 | []=>true
 | (_,x)::xs=>cH k x&&dg k xs
end
noncomputable def bA(k:Nat):AO->Bool
 | .lst xs=>aQ k xs
 | .aF fs=>dg k fs
noncomputable def rM(k:Nat)(st:List AO)(x:V):Option V:=
 match x with
 | .loc n=>if n<k then some x else oK (jq st n) λxs=>if aQ k xs then some (.lst xs) else none
 | .inst C n=>if n<k then some x else oK (ji st n) λfs=>if dg k fs then some (.nj C fs) else none
 | x=>if cH k x then some x else none
noncomputable def nk(k:Nat)(st:List AO):List V->Option (List V)
 | []=>some []
 | x::xs=>oK (rM k st x) λy=>oK (nk k st xs) λys=>some (y::ys)
noncomputable def OC(k:Nat)(st:List AO)(x:V):Option V:=
 match x with
 | .tup xs=>(nk k st xs).map .tup
 | x=>rM k st x
noncomputable def freeze(k:Nat)(x:V)(st:List AO):RE V:=
 if(st.take k).all (bA k) then(oK (OC k st x) λy=>ok y (st.take k)) else none
structure g9 where
 ps:List Str
 dx:List V
 sc:List (Str×NameKind)
 body:List Stmt
 ky:List Str
 keep:Bool
 hM:Bool
structure Tb where
 fn:Addr->Option g9
 gl:Str->Option Value
 con:Str->Option Int
 cls:Addr->Option (Addr×Bool)
 iU:Addr->Str->Option Addr
 nH:Addr->Str->Option Addr
 attr:Addr->Str->Bool
 exc:Addr->Bool
section
variable(T:Tb)(cl:Addr->List V->List AO->RE V)
noncomputable def uY(fz:Bool)(a:Addr)(n:Nat)(r:V)(st:List AO):RE V:=bif vNo r then(bif fz then freeze n (.inst a n) st else ok (.inst a n) st) else none
noncomputable def gf(mu:Bool)(v:Value)(xs:List V)(st:List AO):RE V:=
 match v with
 | .ref a=>opt (T.cls a) (λp=>(cl p.1 (.inst a st.length::xs) (st++[.aF []])).bind (uY p.2 a st.length)) (cl a xs st)
 | .builtin id=>bC id xs st
 | .type t=>gu mu t xs st
 | _=>none
inductive Pre where
 | fn (a:Addr) | nH (a:Addr) | knd (k:Kd)
noncomputable def DU:Value->Option Addr
 | .ref C=>some C
 | _=>none
noncomputable def sF(x:V)(name:Str)(st:List AO):Option Pre:=
 match x with
 | .inst C n=>oK (ji st n) λfs=>oK (T.iU C name) λfn=>if(fs.map (·.1)).contains name then none else some (.fn fn)
 | .f6 v=>oK (DU v) λC=>oK (T.nH C name) λa=>some (.nH a)
 | x=>oK (kd x st) λk=>if(pU k name).isSome then some (.knd k) else none
noncomputable def CQ(p:Pre)(x:V)(name:Str)(xs:List V)(st:List AO):RE V:=
 match p with
 | .fn a=>cl a (x::xs) st
 | .nH a=>cl a xs st
 | .knd k=>eF k x name xs st
structure aV where
 sc:List (Str×NameKind)
 top:Bool
 ky:List Str
 hM:Bool
noncomputable def nG(F:aV)(n:Str)(k:NameKind):NameKind:=if(k== .free&&F.sc.lookup n==some .cell)=true then .cell else k
noncomputable def aV.comp(F:aV)(sc:Scope):aV:=⟨sc.names.map λp=>(p.1,nG F p.1 p.2),false,[],false⟩
noncomputable def cO(F:aV)(sc:Scope)(x:Str):Bool:=sc.kind== .function&&(F.comp sc).sc.lookup x==some .local&&
 sc.names.all λp=>p.2 != .cell&&(p.2 != .local || sc.names.lookup p.1==some .local)&&(p.2 != .free || F.sc.lookup p.1==some .cell || F.sc.lookup p.1==some .free)
noncomputable def gV(m:M)(sc:Scope):M:=λx=>match sc.names.lookup x with
 | some .free=>m x
 | _=>none
noncomputable def DN:Expr->Option Const
 | .Constant c _ _=>some c
 | _=>none
noncomputable def RK(o:Option Expr):Option Str:=oK o λe=>oK (DN e) λc=>match c with
 | .str k=>some k
 | _=>none
noncomputable def vInt(e:Expr):Option Int:=oK (DN e) λc=>match c with
 | .int i=>some i
 | _=>none
noncomputable def fQ:List (Option Expr)->List Expr->Option (List (Str×Int))
 | [],[]=>some []
 | k::ks,v::vs=>oK (fQ ks vs) λr=>oK (RK k) λk=>oK (vInt v) λi=>if(r.map (·.1)).contains k then none else some ((k,i)::r)
 | _,_=>none
noncomputable def isStar:Expr->Bool
 | .Starred _ _=>true
 | _=>false
noncomputable def cC:Expr->Bool
 | .ListComp _ _ _ _=>true
 | .SetComp _ _ _ _=>true
 | .DictComp _ _ _ _ _=>true
 | _=>false
noncomputable def fA:Expr->Bool
 | .Call (.Name id _) [] [] _=>id==("super":Str)
 | _=>false
noncomputable def gv:Expr->Option Str
 | .Name x _=>some x
 | _=>none
noncomputable def tu:Expr->Option (List Expr)
 | .Tuple es _ _=>some es
 | _=>none
noncomputable def ZO:Value->Bool
 | .ref _=>true
 | .builtin _=>true
 | .type _=>true
 | _=>false
noncomputable def si{α:Type}(r:RE α):RE α:=match r with
 | some (.error _,_)=>none
 | r=>r
inductive EV where
 | name (x:Str) | cst (v:V) | bools (op:BoolOp) (es:List Expr) | bin (op:Operator) (l r:Expr) | un (op:UnaryOp) (x:Expr) | ite (t b o:Expr)
 | dict (fs:List (Str×Int)) | comp (elt iter:Expr) (x:Str) (ifs:List Expr) (sc:Scope) | cmp (op:CmpOp) (l r:Expr)
 | iU (o:Expr) (name:Str) (as:List Expr) | call (x:Str) (as:List Expr) | jM (e:Expr) | jN (es:List Expr) | fmt (e:Expr) | attr (e:Expr) (name:Str)
 | item (e i:Expr) | slice (e:Expr) (lo hi:Option Expr) | list (es:List Expr) | tuple (es:List Expr) | no
noncomputable def uZ(x:Str):Bool:= !((x==("__debug__":Str)) || (x==("__classdict__":Str)))
noncomputable def vK:Const->EV
 | .none=> .cst .none
 | .bool b=> .cst (.bool b)
 | .int i=> .cst (.int i)
 | .str x=> .cst (.str x)
 | _=> .no
noncomputable def DO(ks:List (Option Expr))(vs:List Expr):EV:=match fQ ks vs with
 | some fs=>bif decide (fs.length<=15) then .dict fs else .no
 | none=> .no
noncomputable def tq(elt:Expr)(gens:List Comprehension)(sc:Scope):EV:=match gens with
 | [⟨t,iter,ifs,a⟩]=>match gv t with
  | some x=>bif decide (a=0) then .comp elt iter x ifs sc else .no
  | none=> .no
 | _=> .no
noncomputable def RH(l:Expr)(ops:List CmpOp)(rs:List Expr):EV:=match ops with
 | [op]=>match rs with
  | [r]=>bif behindInMarks op r then .no else .cmp op l r
  | _=> .no
 | _=> .no
noncomputable def Jw(f:Expr)(as:List Expr)(Ef:List Keyword)(pos:Pos):EV:=bif as.any isStar || decide (29<as.length) then .no else match Ef with
 | []=>match f with
  | .Attribute o name apos=>bif fA o || !(apos.endLine==pos.line) then .no else .iU o name as
  | .Name x _=>bif uZ x then .call x as else .no
  | _=> .no
 | _=> .no
noncomputable def aaf(e:Expr)(c:Int)(sp:Option Expr):EV:=match sp with
 | none=>bif decide (c= -1) then .fmt e else .no
 | some _=> .no
noncomputable def RM(e i:Expr):EV:=match i with
 | .Slice lo hi sp _=>match sp with
  | none=> .slice e lo hi
  | some _=> .no
 | i=> .item e i
noncomputable def view:Expr->EV
 | .Name x _=>bif uZ x then .name x else .no
 | .Constant c _ _=>vK c
 | .BoolOp op es _=> .bools op es
 | .BinOp l op r _=> .bin op l r
 | .UnaryOp op x _=> .un op x
 | .IfExp t b o _=> .ite t b o
 | .Dict ks vs _=>DO ks vs
 | .ListComp elt gens sc _=>tq elt gens sc
 | .Compare l ops rs _=>RH l ops rs
 | .Call f as Ef pos=>Jw f as Ef pos
 | .JoinedStr es _=>match es with
  | [e]=> .jM e
  | es=> .jN es
 | .FormattedValue e c sp _=>aaf e c sp
 | .Attribute e name _=>bif fA e then .no else .attr e name
 | .Subscript e i _=>RM e i
 | .List es _=> .list es
 | .Tuple es _ _=> .tuple es
 | _=> .no
structure NQ where
 e:aV->Bool->M->List AO->Expr->RE V
 o:aV->M->List AO->Option Expr->RE (Option Int)
 es:aV->M->List AO->List Expr->RE (List V)
 j:aV->M->List AO->List Expr->Str->RE V
 b:aV->M->List AO->BoolOp->List Expr->RE V
 t:aV->M->List AO->Expr->RE Bool
 a:aV->M->List AO->BoolOp->List Expr->RE Bool
 i:aV->M->List AO->List Expr->RE Bool
 c:aV->Str->List Expr->Expr->V->Nat->M->List AO->List V->RE (List V)
noncomputable def oR(x:V)(name:Str)(st:List AO):RE V:=match x with
 | .nj C fs=>if T.attr C name then rO (.nj C fs) name st else none
 | .inst C k=>if T.attr C name then rO (.inst C k) name st else none
 | _=>none
noncomputable def OD(x:Str)(st:List AO):RE V:=match T.gl x with
 | some v=>ok (.f6 v) st
 | none=>oK (T.con x) λi=>ok (.int i) st
noncomputable def Je(F:aV)(m:M)(x:Str)(st:List AO):RE V:=match m x with
 | some v=>ok v st
 | none=>match F.sc.lookup x with
  | some .globalImplicit=>OD T x st
  | _=>none
noncomputable def Nk(F:aV)(m:M)(x:Str):Option Value:=match m x with
 | some _=>none
 | none=>match F.sc.lookup x with
  | some .globalImplicit=>oK (T.gl x) λv=>if ZO v then some v else none
  | _=>none
noncomputable def Bp(v:V)(st:List AO):RE V:=match v with
 | .int i=>if small i then ok (.str (cK i)) st else none
 | _=>none
noncomputable def GL(v:V)(st:List AO):RE (Option Int):=match v with
 | .int i=>ok (some i) st
 | _=>none
noncomputable def tupI(xs:List V)(st:List AO):RE V:=if xs.length<=100000 then ok (.tup xs) st else none
section
variable(P:NQ)(F:aV)(m:M)
noncomputable def Fq(mu:Bool)(st:List AO):EV->RE V
 | .name x=>Je T F m x st
 | .cst v=>ok v st
 | .bools op es=>P.b F m st op es
 | .bin op l r=>(P.e F false m st l).bind λa st=>(P.e F false m st r).bind λb st=>binI mu op a b st
 | .un op x=>(P.e F false m st x).bind λa st=>RC op a st
 | .ite t b o=>(P.t F m st t).bind λc st=>P.e F false m st (bif c then b else o)
 | .dict fs=>ok (.loc st.length) (st++[.aF (fs.map λp=>(p.1,.int p.2))])
 | .comp elt iter x ifs sc=>if cO F sc x then(P.e F false m st iter).bind λsrc st=>(si (P.c (F.comp sc) x ifs elt src 0 (gV m sc) st [])).bind λxs st=>mk mu xs st else none
 | .cmp op l r=>(P.e F false m st l).bind λa st=>(P.e F false m st r).bind λb st=>(bk op a b st).bind λc st=>ok (.bool c) st
 | .iU o name as=>(P.e F false m st o).bind λx st=>oK (sF T x name st) λp=>(P.es F m st as).bind λxs st=>CQ cl p x name xs st
 | .call x as=>oK (Nk T F m x) λv=>(P.es F m st as).bind λxs st=>gf T cl mu v xs st
 | .jM e=>P.e F false m st e
 | .jN es=>P.j F m st es abM
 | .fmt e=>(P.e F false m st e).bind Bp
 | .attr e name=>(P.e F false m st e).bind λx st=>oR T x name st
 | .item e i=>(P.e F false m st e).bind λx st=>(P.e F false m st i).bind λy st=>eQ x y st
 | .slice e lo hi=>(P.e F false m st e).bind λx st=>(P.o F m st lo).bind λa st=>(P.o F m st hi).bind λb st=>kW mu x a b st
 | .list es=>(P.es F m st es).bind λxs st=>mk mu xs st
 | .tuple es=>(P.es F m st es).bind tupI
 | .no=>none
noncomputable def exO(st:List AO):Option Expr->RE (Option Int)
 | none=>ok none st
 | some e=>(P.e F false m st e).bind GL
noncomputable def Oo(st:List AO):List Expr->RE (List V)
 | []=>ok [] st
 | e::es=>if isStar e then none else(P.e F false m st e).bind λx st=>(P.es F m st es).bind λxs st=>ok (x::xs) st
noncomputable def UH(es:List Expr)(out:Str)(v:V)(st:List AO):RE V:=match v with
 | .str x=>if out.length+x.length<=100000 then P.j F m st es (out++x) else none
 | _=>none
noncomputable def exJ(st:List AO)(out:Str):List Expr->RE V
 | []=>if out.length<=100000 then ok (.str out) st else none
 | e::es=>(P.e F false m st e).bind (UH P F m es out)
noncomputable def fD(op:BoolOp)(b:Bool):Bool:=match op with
 | .And=> !b
 | .Or=>b
noncomputable def exB(st:List AO)(op:BoolOp):List Expr->RE V
 | []=>none
 | e::es=>match es with
  | []=>P.e F false m st e
  | e'::es=>(P.e F false m st e).bind λx st=>(k9 x st).bind λb st=>bif fD op b then ok x st else P.b F m st op (e'::es)
noncomputable def RT(st:List AO)(e:Expr):EV->RE Bool
 | .un op x=>match op with
  | .Not=>(P.t F m st x).bind λb st=>ok (!b) st
  | _=>none
 | .bools op es=>P.a F m st op es
 | .cmp op l r=>(P.e F false m st l).bind λa st=>(P.e F false m st r).bind λb st=>bk op a b st
 | .ite _ _ _=>none
 | .no=>none
 | _=>(P.e F false m st e).bind k9
noncomputable def exA(st:List AO)(op:BoolOp):List Expr->RE Bool
 | []=>ok (op== .And) st
 | e::es=>(P.t F m st e).bind λb st=>bif fD op b then ok b st else P.a F m st op es
noncomputable def exI(st:List AO):List Expr->RE Bool
 | []=>ok true st
 | e::es=>match es with
  | []=>P.t F m st e
  | _=>none
noncomputable def Kt(x:Str)(ifs:List Expr)(elt:Expr)(src:V)(i:Nat)(st:List AO)(acc:List V):Option V->RE (List V)
 | none=>ok acc st
 | some v=>(P.i F (bV m x v) st ifs).bind λb st=>bif b then(if acc.length<100000 then(P.e F false (bV m x v) st elt).bind λa st=>P.c F x ifs elt src (i+1) (bV m x v) st (acc++[a]) else none)
   else P.c F x ifs elt src (i+1) (bV m x v) st acc
noncomputable def exC(x:Str)(ifs:List Expr)(elt:Expr)(src:V)(i:Nat)(st:List AO)(acc:List V):RE (List V):=oK (fq st src i) (Kt P F m x ifs elt src i st acc)
end
noncomputable def dY:Nat->NQ
 | 0=>⟨λ_ _ _ _ _=>none,λ_ _ _ _=>none,λ_ _ _ _=>none,λ_ _ _ _ _=>none,λ_ _ _ _ _=>none,λ_ _ _ _=>none,λ_ _ _ _ _=>none,λ_ _ _ _=>none,λ_ _ _ _ _ _ _ _ _=>none⟩
 | n+1=>⟨λF mu m st e=>Fq T cl (dY n) F m mu st (view e),λF m st e=>exO (dY n) F m st e,λF m st es=>Oo (dY n) F m st es,λF m st es out=>exJ (dY n) F m st out es,λF m st op es=>exB (dY n) F m st op es,
   λF m st e=>RT (dY n) F m st e (view e),λF m st op es=>exA (dY n) F m st op es,λF m st es=>exI (dY n) F m st es,λF x ifs elt src i m st acc=>exC (dY n) F m x ifs elt src i st acc⟩
noncomputable abbrev bH(n:Nat)(F:aV)(mu:Bool)(m:M)(st:List AO)(e:Expr):RE V:=(dY T cl n).e F mu m st e
noncomputable abbrev Iz(n:Nat)(F:aV)(m:M)(st:List AO)(e:Option Expr):RE (Option Int):=(dY T cl n).o F m st e
noncomputable abbrev uv(n:Nat)(F:aV)(m:M)(st:List AO)(es:List Expr):RE (List V):=(dY T cl n).es F m st es
noncomputable abbrev Iy(n:Nat)(F:aV)(m:M)(st:List AO)(es:List Expr)(out:Str):RE V:=(dY T cl n).j F m st es out
noncomputable abbrev wA(n:Nat)(F:aV)(m:M)(st:List AO)(op:BoolOp)(es:List Expr):RE V:=(dY T cl n).b F m st op es
noncomputable abbrev wB(n:Nat)(F:aV)(m:M)(st:List AO)(e:Expr):RE Bool:=(dY T cl n).t F m st e
noncomputable abbrev Iw(n:Nat)(F:aV)(m:M)(st:List AO)(op:BoolOp)(es:List Expr):RE Bool:=(dY T cl n).a F m st op es
noncomputable abbrev gG(n:Nat)(F:aV)(m:M)(st:List AO)(es:List Expr):RE Bool:=(dY T cl n).i F m st es
noncomputable abbrev cX(n:Nat)(F:aV)(x:Str)(ifs:List Expr)(elt:Expr)(src:V)(i:Nat)(m:M)(st:List AO)(acc:List V):RE (List V):=(dY T cl n).c F x ifs elt src i m st acc
noncomputable def bF(x:Str):Bool:= !(x==("__debug__":Str))&& !(x==("__classdict__":Str))
noncomputable def V.pl:V->Bool
 | .f6 _=>false
 | _=>true
noncomputable def DA(T:Tb)(F:aV)(c x y:Str)(ex:Ex):Bool:=
 decide (T.gl c=some (.ref ex.C))&&F.sc.lookup c==some .globalImplicit&&F.sc.lookup x==some .local&&T.exc ex.C&&bF c&&bF x&&bF y&&ex.kind.pl&&ex.at_.pl&&ex.ki.pl
noncomputable def Jv:Expr->Option (Expr×Str)
 | .Attribute e k _=>some (e,k)
 | _=>none
noncomputable def Jx:Expr->Option (Expr×List CmpOp×List Expr)
 | .Compare l ops rs _=>some (l,ops,rs)
 | _=>none
noncomputable def RL:Stmt->Option Expr
 | .Return e _=>e
 | _=>none
noncomputable def one{α:Type}(l:List α):Option α:=match l with
 | [x]=>some x
 | _=>none
noncomputable def three{α:Type}(l:List α):Option (α×α×α):=match l with
 | [a,b,c]=>some (a,b,c)
 | _=>none
noncomputable def isEq:CmpOp->Bool
 | .Eq=>true
 | _=>false
noncomputable def HS(x k:Str)(e:Expr):Bool:=opt (Jv e) (λw=>decide (gv w.1=some x/\w.2=k)) false
noncomputable def Jy(x:Str)(l:Expr):Bool:=opt (tu l) (λes=>opt (three es) (λt=>HS x (aab "kind") t.1&&HS x (aab "at") t.2.1&&HS x (aab "detail") t.2.2) false) false
noncomputable def MR(x:Str)(e:Expr):Option Str:=oK (Jx e) λw=>oK (one w.2.1) λop=>oK (one w.2.2) λr=>oK (gv r) λy=>if isEq op=true/\Jy x w.1=true/\y≠x then some y else none
noncomputable def tells(x:Str)(hb:List Stmt):Option Str:=oK (one hb) λs=>oK (RL s) λe=>MR x e
noncomputable def putN(F:aV)(m:M)(x:Str)(v:V):Option M:=
 match F.sc.lookup x with
 | some .local=>some (bV m x v)
 | some .cell=>if F.top then some (bV m x v) else none
 | _=>none
noncomputable def jW(F:aV)(m:M):List Expr->List V->Option M
 | [],vs=>match vs with
  | []=>some m
  | _=>none
 | t::ts,vs=>match vs with
  | v::vs=>oK (gv t) λx=>oK (putN F m x v) λm=>jW F m ts vs
  | []=>none
noncomputable def sP(F:aV)(m:M)(t:Expr)(v:V):Option M:=match gv t with
 | some x=>putN F m x v
 | none=>oK (tu t) λts=>match v with
  | .tup vs=>if vs.length<=100 then jW F m ts vs else none
  | _=>none
inductive SV where
 | expr (e:Expr) | ret (e:Option Expr) | ite (t:Expr) (b o:List Stmt) | Ea (x:Str) (e:Expr) | Kc (o:Expr) (name:Str) (e:Expr) | Ke (o i e:Expr) | Kf (ts:List Expr) (e:Expr)
 | for (t e:Expr) (b:List Stmt) | while (t:Expr) (b:List Stmt) | try (c x y:Str) (b:List Stmt) | no
noncomputable def RG(t e:Expr):SV:=match t with
 | .Name x _=> .Ea x e
 | .Attribute o name _=>bif cC e then .no else .Kc o name e
 | .Subscript o i _=>bif cC e then .no else .Ke o i e
 | .Tuple ts _ _=>bif cC e || (tu e).isSome then .no else .Kf ts e
 | _=> .no
noncomputable def hTy:ExceptHandler->Option Expr
 | .ExceptHandler t _ _ _=>t
noncomputable def hNm:ExceptHandler->Option Str
 | .ExceptHandler _ x _ _=>x
noncomputable def hBd:ExceptHandler->List Stmt
 | .ExceptHandler _ _ b _=>b
noncomputable def zC(h:ExceptHandler):Option (Str×Str×Str):=oK (hTy h) λt=>oK (gv t) λc=>oK (hNm h) λx=>oK (tells x (hBd h)) λy=>some (c,x,y)
noncomputable def RN(b:List Stmt)(hs:List ExceptHandler)(o fb:List Stmt):SV:=match hs with
 | [h]=>match zC h with
  | some (c,x,y)=>bif o.isEmpty&&fb.isEmpty then .try c x y b else .no
  | none=> .no
 | _=> .no
noncomputable def iH:Stmt->SV
 | .Expr e _=>bif cC e then .no else .expr e
 | .Return e _=> .ret e
 | .If t b o _=> .ite t b o
 | .Assign ts e _=>match ts with
  | [t]=>RG t e
  | _=> .no
 | .For t e b o _=>bif o.isEmpty then .for t e b else .no
 | .While t b o _=>bif o.isEmpty then .while t b else .no
 | .Try b hs o fb _=>RN b hs o fb
 | _=> .no
structure Exs where
 s:aV->M->List AO->Stmt->RS
 ss:aV->M->List AO->List Stmt->RS
 f:aV->Expr->List Stmt->V->Nat->M->List AO->RS
 w:aV->Expr->List Stmt->M->List AO->RS
noncomputable def Cu(o:Option M)(st:List AO):RS:=oK o λm=>k8 .next m st
noncomputable def Sy(o:Option (List AO))(m:M):RS:=oK o λst=>k8 .next m st
noncomputable def MK(x:V)(name:Str)(v:V)(st:List AO):Option (List AO):=match x with
 | .inst C k=>if T.attr C name then Df (.inst C k) name v st else none
 | _=>none
noncomputable def qJ(r:RS)(k:M->List AO->RS):RS:=match r with
 | some (a,m,st)=>match a with
  | .ok fl=>match fl with
   | .next=>k m st
   | .ret v=>k8 (.ret v) m st
   | _=>none
  | .error e=>some (.error e,m,st)
 | none=>none
noncomputable def tn(F:aV)(c x y:Str)(r:RS):RS:=match r with
 | some (a,m,st)=>match a with
  | .error ex=>if DA T F c x y ex then(oK (m y) λd=>oK (tv st (.tup [ex.kind,ex.at_,ex.ki]) d) λb=>k8 (.ret (.bool b)) (λ_=>none) st) else none
  | .ok fl=>some (.ok fl,m,st)
 | none=>none
section
variable(P:NQ)(X:Exs)(F:aV)(m:M)
noncomputable def Nd(st:List AO):SV->RS
 | .expr e=>(P.e F false m st e).b7 m λ_ st=>k8 .next m st
 | .ret e=>match e with
  | some e=>(P.e F F.hM m st e).b7 m λv st=>k8 (.ret v) m st
  | none=>k8 (.ret .none) m st
 | .ite t b o=>(P.t F m st t).b7 m λc st=>X.ss F m st (bif c then b else o)
 | .Ea x e=>(P.e F (F.ky.contains x) m st e).b7 m λv st=>Cu (putN F m x v) st
 | .Kc o name e=>(P.e F true m st e).b7 m λv st=>(P.e F false m st o).b7 m λx st=>Sy (MK T x name v st) m
 | .Ke o i e=>(P.e F true m st e).b7 m λv st=>(P.e F false m st o).b7 m λx st=>(P.e F false m st i).b7 m λy st=>Sy (qt x y v st) m
 | .Kf ts e=>(P.e F false m st e).b7 m λv st=>Cu (match v with
  | .tup vs=>if vs.length<=100 then jW F m ts vs else none
  | _=>none) st
 | .for t e b=>(P.e F false m st e).b7 m λsrc st=>X.f F t b src 0 m st
 | .while t b=>X.w F t b m st
 | .try c x y b=>match m c with
  | some _=>none
  | none=>tn T F c x y (X.ss F m st b)
 | .no=>none
noncomputable def Oq(st:List AO):List Stmt->RS
 | []=>k8 .next m st
 | s::ss=>(X.s F m st s).sq λm st=>X.ss F m st ss
noncomputable def Ku(t:Expr)(b:List Stmt)(src:V)(i:Nat)(st:List AO):Option V->RS
 | none=>k8 .next m st
 | some v=>oK (sP F m t v) λm=>qJ (X.ss F m st b) λm st=>X.f F t b src (i+1) m st
noncomputable def exF(t:Expr)(b:List Stmt)(src:V)(i:Nat)(st:List AO):RS:=oK (fq st src i) (Ku X F m t b src i st)
noncomputable def exW(t:Expr)(b:List Stmt)(st:List AO):RS:=(P.t F m st t).b7 m λc st=>bif c then qJ (X.ss F m st b) λm st=>X.w F t b m st else k8 .next m st
end
noncomputable def mW:Nat->Exs
 | 0=>⟨λ_ _ _ _=>none,λ_ _ _ _=>none,λ_ _ _ _ _ _ _=>none,λ_ _ _ _ _=>none⟩
 | n+1=>⟨λF m st s=>Nd T (dY T cl n) (mW n) F m st (iH s),λF m st ss=>Oq (mW n) F m st ss,λF t b src i m st=>exF (mW n) F m t b src i st,λF t b m st=>exW (dY T cl n) (mW n) F m t b st⟩
noncomputable abbrev dS(n:Nat)(F:aV)(m:M)(st:List AO)(s:Stmt):RS:=(mW T cl n).s F m st s
noncomputable abbrev aT(n:Nat)(F:aV)(m:M)(st:List AO)(ss:List Stmt):RS:=(mW T cl n).ss F m st ss
noncomputable abbrev cP(n:Nat)(F:aV)(t:Expr)(b:List Stmt)(src:V)(i:Nat)(m:M)(st:List AO):RS:=(mW T cl n).f F t b src i m st
noncomputable abbrev bq(n:Nat)(F:aV)(t:Expr)(b:List Stmt)(m:M)(st:List AO):RS:=(mW T cl n).w F t b m st
end
noncomputable def fuel:Nat:=100000
noncomputable def Oi(w:Fl->List AO->RE V)(r:RS):RE V:=oK r λp=>match p.1 with
 | .ok fl=>w fl p.2.2
 | .error x=>some (.error x,p.2.2)
noncomputable def leave(fi:g9)(st:List AO)(fl:Fl)(st':List AO):RE V:=if fi.keep then ok (Mz fl) st' else freeze st.length (Mz fl) st'
noncomputable def vy(fi:g9)(st:List AO)(r:RS):RE V:=Oi (leave fi st) r
noncomputable def lO(T:Tb)(prim:Addr->Option (List V->List AO->RE V))(cl:Addr->List V->List AO->RE V)(a:Addr)(xs:List V)(st:List AO):RE V:=match prim a with
 | some p=>p xs st
 | none=>oK (T.fn a) λfi=>if fi.ps.length<=xs.length+fi.dx.length/\xs.length<=fi.ps.length then
   vy fi st (aT T cl fuel ⟨fi.sc,true,fi.ky,fi.hM⟩ (bindM fi.ps (xs++fi.dx.drop (xs.length+fi.dx.length- fi.ps.length))) st fi.body) else none
noncomputable def gU(T:Tb)(prim:Addr->Option (List V->List AO->RE V)):Nat->Addr->List V->List AO->RE V
 | 0=>λ_ _ _=>none
 | k+1=>lO T prim (gU T prim k)
end Mine
namespace Mine
noncomputable def vF(l:List Stmt)(nm:Str):Option Stmt:=l.find? λs=>match s with
 | .FunctionDef n .. =>n==nm
 | .ClassDef n .. =>n==nm
 | _=>false
noncomputable def Jp:Option Stmt->List Stmt
 | some (.ClassDef _ _ _ b ..)=>b
 | some (.FunctionDef _ _ b ..)=>b
 | _=>[]
noncomputable def Z5:Option Stmt->List (Str×NameKind)
 | some (.FunctionDef _ _ _ _ _ _ sc ..)=>sc.names
 | _=>[]
noncomputable def ZW:Option Stmt->List Str
 | some (.FunctionDef _ a ..)=>a.args.map (·.arg)
 | _=>[]
noncomputable def Th:Option Stmt->List V
 | some (.FunctionDef _ a ..)=>a.defaults.map λe=>match e with
  | .Constant (.int i) _ _=> .int i
  | .Constant (.str s) _ _=> .str s
  | _=> .none
 | _=>[]
noncomputable def top:List Stmt:=PySem.Challenge.pw_sj0056_01.main.body
noncomputable def mkF(s:Option Stmt)(ky:List Str)(keep hM:Bool):g9:=⟨ZW s,Th s,Z5 s,Jp s,ky,keep,hM⟩
noncomputable def jn(nm:String)(ky:List String:=[])(keep:Bool:=true)(hM:Bool:=false):g9:=mkF (vF top (aab nm)) (ky.map aab) keep hM
noncomputable def hV(c nm:String)(ky:List String:=[])(keep:Bool:=true)(hM:Bool:=false):g9:=mkF (vF (Jp (vF top (aab c))) (aab nm)) (ky.map aab) keep hM
noncomputable def Rw:List (Addr×g9):=[
 (80,hV "Netlist" "__init__"),
 (152,jn "expected_ins"),
 (159,jn "is_table"),
 (166,jn "param_fits"),
 (173,jn "cell_faults" ["faults"] false),
 (180,jn "mask"),
 (188,jn "vec"),
 (195,jn "digit_bits"),
 (202,jn "decimal_value"),
 (209,jn "size_value"),
 (216,jn "digit_pair"),
 (223,jn "grouped"),
 (230,jn "padded_vec"),
 (237,jn "numeral"),
 (251,hV "Token" "__init__"),
 (272,hV "TokenRow" "__init__"),
 (279,hV "TokenRow" "next_token"),
 (300,hV "Cursor" "__init__"),
 (307,hV "Cursor" "fetch"),
 (322,hV "Cursor" "take"),
 (329,hV "Cursor" "is_op"),
 (336,hV "Cursor" "is_key"),
 (343,hV "Cursor" "accept_op"),
 (350,hV "Cursor" "accept_key"),
 (357,hV "Cursor" "expect_op"),
 (364,hV "Cursor" "expect_key"),
 (371,hV "Cursor" "expect_id"),
 (400,hV "NetReader" "__init__"),
 (407,hV "NetReader" "whole"),
 (414,hV "NetReader" "bit_flag"),
 (421,hV "NetReader" "quoted"),
 (428,hV "NetReader" "table"),
 (435,hV "NetReader" "net"),
 (442,hV "NetReader" "header" ["ports"] false),
 (449,hV "NetReader" "port"),
 (456,hV "NetReader" "wires"),
 (463,hV "NetReader" "port_bit"),
 (470,hV "NetReader" "assign"),
 (477,hV "NetReader" "params"),
 (484,hV "NetReader" "cell" ["nets"] false),
 (491,hV "NetReader" "module"),
 (503,jn "cell_faults_of" [] false),
 (508,jn "_law_pool" ["cells"] true true),
 (515,jn "_law_drawn"),
 (522,jn "_law_shuffled" ["free","found"] false),
 (529,jn "_law_plain"),
 (536,jn "_law_wire"),
 (543,jn "_law_listed"),
 (548,jn "_law_sized"),
 (553,jn "_law_cell" [] false),
 (560,jn "_law_assign"),
 (565,jn "law" ["declared","body","ports","order","shown","rest","cells"])]
noncomputable def tFn(a:Addr):Option g9:=Rw.lookup a
noncomputable def KU:List (String×Addr):=[("SourceError",52),("FormatError",64),("Netlist",141),("expected_ins",152),("is_table",159),("param_fits",166),("cell_faults",173),("mask",180),("vec",188),("digit_bits",195),("decimal_value",202),("size_value",209),("digit_pair",216),("grouped",223),("padded_vec",230),("numeral",237),("Token",254),("TokenRow",282),("Cursor",382),("NetReader",494),("cell_faults_of",503),("_law_pool",508),("_law_drawn",515),("_law_shuffled",522),("_law_plain",529),("_law_wire",536),("_law_listed",543),("_law_sized",548),("_law_cell",553),("_law_assign",560)]
noncomputable def FI:List (String×Value):=[("len",.builtin "len"),("ord",.builtin "ord"),("isinstance",.builtin "isinstance"),("max",.builtin "max"),("int",.type "int"),("list",.type "list"),("tuple",.type "tuple"),("range",.type "range")]
noncomputable def SN{α:Type}(l:List (String×α))(x:Str):Option α:=(l.map λp=>(aab p.1,p.2)).lookup x
noncomputable def tGl(x:Str):Option Value:=opt (SN KU x) (λa=>some (.ref a)) (SN FI x)
noncomputable def Z8(x:Str):Option Int:=if x=aab "MOST_BITS" then some 65536 else if x=aab "PLAIN_BITS" then some 32 else none
noncomputable def gP:List (Addr×List String×List (String×Addr)):=[(494,["source","ahead","hashed","token","at","nets","inputs","outputs","order"],[("fetch",307),("take",322),("is_op",329),("is_key",336),("accept_op",343),("accept_key",350),("expect_op",357),("expect_key",364),("expect_id",371),("fail",379),("whole",407),("bit_flag",414),("quoted",421),("table",428),("net",435),("header",442),("port",449),("wires",456),("port_bit",463),("assign",470),("params",477),("cell",484),("module",491)]),
 (282,["tokens","place","parted"],[("next_token",279)]),
 (254,["kind","value","at"],[]),
 (141,["name","count","inputs","outputs","cells"],[])]
noncomputable def AB:List (Addr×Addr×Bool):=[(141,80,false),(254,251,true),(282,272,false),(494,400,false)]
noncomputable def Rv(a:Addr):Option (Addr×Bool):=AB.lookup a
noncomputable def Jr(a:Addr)(x:Str):Option Addr:=oK (gP.lookup a) λt=>SN t.2 x
noncomputable def Rx(a:Addr)(x:Str):Option Addr:=if a=382/\x=aab "__init__" then some 300 else none
noncomputable def Jq(a:Addr)(x:Str):Bool:=opt (gP.lookup a) (λt=>(t.1.map aab).contains x) false
noncomputable def TT:Tb:=⟨tFn,tGl,Z8,Rv,Jr,Rx,Jq,λa=>a==52⟩
noncomputable def tw2(xs:List V):Option (V×V×List V):=match xs with
 | x::y::r=>some (x,y,r)
 | _=>none
noncomputable def Jm:V->Option Nat
 | .inst C n=>if C=494 then some n else none
 | _=>none
noncomputable def Og(r:List V):Option V:=match r with
 | []=>some (.str (aab ""))
 | [d]=>some d
 | _=>none
noncomputable def A6(xs:List V)(st:List AO):RE V:=
 oK (tw2 xs) λt=>oK (Jm t.1) λn=>oK (ji st n) λfs=>oK (fs.lookup (aab "at")) λa=>if a.plain then oK (Og t.2.2) λd=>some (.error ⟨52,t.2.1,a,d⟩,st) else none
noncomputable def g6(a:Addr):Option (List V->List AO->RE V):=if a=379 then some A6 else none
end Mine
namespace Mine
noncomputable def Fs(x:Ex):List (Str×V):=[(aab "kind",x.kind),(aab "at",x.at_),(aab "detail",x.ki)]
def eV(cm:Addr->Prop)(D:Dt)(σ:List Addr)(a:Addr):Prop:=D a=none/\a∉σ/\ ¬cm a
inductive SP(g:Gl)(D:Dt)(σ:List Addr)(x:Ex)(ea tb:Addr)(s:Shared):Prop where
 | mk (oe:Obj) (d:Addr) (es:List DictEntry) (n:Nat) (vs:Array Value) (h1:s.heap.get? ea=some oe) (h2:oe.cls= .ref x.C) (h3:oe.dict=some d) (h4:oe.data= .fields vs) (h5:vs[1]? =some (.ref tb)) (h6:D d=some (dictOf es n)) (h7:bN g.w.params D σ (Fs x) es)
inductive SQ(fl:Value->Prop)(tb:Addr)(s:Shared):Prop where
 | mk (ot:Obj) (ts:Array Value) (v:Value) (h1:s.heap.get? tb=some ot) (h2:ot.data= .fields ts) (h3:ts[3]? =some v) (h4:fl v)
structure Ig(g:Gl)(cm:Addr->Prop)(fl:Value->Prop)(D:Dt)(σ:List Addr)(x:Ex)(ea tb:Addr)(s:Shared):Prop where
 e:SP g D σ x ea tb s
 t:SQ fl tb s
 ne:tb≠ea
 fe:eV cm D σ ea
 ft:eV cm D σ tb
def Ew(g:Gl)(cm:Addr->Prop)(fl:Value->Prop)(D:Dt)(σ:List Addr)(x:Ex)(e:Value)(s:Shared):Prop:= ∃ea tb,e= .ref ea/\Ig g cm fl D σ x ea tb s
theorem Ew.mono{g:Gl}{h h':Addr->Prop}{fl Eb:Value->Prop}{D:Dt}{σ:List Addr}{x:Ex}{e:Value}{s:Shared}(H: ∀a,h' a->h a)(H2: ∀v,fl v->Eb v)(F:Ew g h fl D σ x e s):Ew g h' Eb D σ x e s:=by
 refine cc F ?_;clear F;rintro ea tb rfl F
 exact⟨ea,tb,rfl,F.e,let⟨ot,ts,v,h1,h2,h3,h4⟩:=F.t;⟨ot,ts,v,h1,h2,h3,H2 _ h4⟩,F.ne,⟨F.fe.1,F.fe.2.1,λq=>F.fe.2.2 (H _ q)⟩,⟨F.ft.1,F.ft.2.1,λq=>F.ft.2.2 (H _ q)⟩⟩
def XC(g:Gl)(K:Kx)(x:Ex)(st:List AO)(e:Value)(s:Shared):Prop:= ∃D σ,aP g K D σ st s/\Ew g (· ∈K.cm) (· = .none) D σ x e s
def XF(g:Gl)(K:Kx)(f:Fx)(m:M)(x:Ex)(st:List AO)(e:Value)(s:Shared):Prop:= ∃D σ,Rel g K f D σ m st s/\Ew g (λa=>a∈K.cm\/a∈f.fa) (λv=>v= .none\/v=rawInt f.L) D σ x e s
theorem tW.xc{g:Gl}{K:Kx}{f:Fx}{m:M}{K':Kx}{x:Ex}{st:List AO}{e:Value}{s:Shared}(I:tW g K f m K')(X:XC g K' x st e s):XF g K f m x st e s:=by
 refine cc X λD σ R F=> ?_;clear X
 exact⟨D,σ,I.back _ _ _ _ R,F.mono (λa h=>(I.cm a).mpr h) λv h=> .inl h⟩
def cR{α:Type}(r:RE α)(a:α)(st:List AO):Prop:=r=some (.ok a,st)
def NP{α:Type}(g:Gl)(K:Kx)(r:RE α)(e:Value)(s:Shared):Prop:= ∃x st,r=some (.error x,st)/\XC g K x st e s
def iV{α:Type}(g:Gl)(K:Kx)(f:Fx)(m:M)(r:RE α)(e:Value)(s:Shared):Prop:= ∃x st,r=some (.error x,st)/\XF g K f m x st e s
def Nh(r:RS)(a:Fl)(m:M)(st:List AO):Prop:=r=some (.ok a,m,st)
def tI(g:Gl)(K:Kx)(f:Fx)(r:RS)(e:Value)(s:Shared):Prop:= ∃x m st,r=some (.error x,m,st)/\XF g K f m x st e s
section
variable{g:Gl}{K:Kx}{f:Fx}{A:Around}{m:M}{st:List AO}
theorem WG.mono{α β:Type}{t:Sem β}{rel:Dt->List Addr->α->β->Prop}{Q Q':α->List AO->Prop}{E E':Value->Shared->Prop}(h:WG g K f A t rel m st Q E)(hQ: ∀a st,Q a st->Q' a st)(hE: ∀e s,E e s->E' e s):WG g K f A t rel m st Q' E':=
 λD σ s JJ R k=>wpAny_mono (h D σ s JJ R λa st' D' σ' b s' L R' r q=>k a st' D' σ' b s' L R' r (hQ _ _ q)) (λ_ _ x=>x) hE
theorem qT.mono{t:Sem Flow}{Q Q':Fl->M->List AO->Prop}{E E':Value->Shared->Prop}(h:qT g K f A t m st Q E)(hQ: ∀a m st,Q a m st->Q' a m st)(hE: ∀e s,E e s->E' e s):qT g K f A t m st Q' E':=
 λD σ s JJ R k=>wpAny_mono (h D σ s JJ R λa m' st' D' σ' b s' L R' r q=>k a m' st' D' σ' b s' L R' r (hQ _ _ _ q)) (λ_ _ x=>x) hE
theorem WG.bind{α β γ:Type}{t:Sem β}{rel:Dt->List Addr->α->β->Prop}{r1:RE α}{k:α->List AO->RE γ}{r:RE γ}{P:α->List AO->Prop}(S: ∀r',r'=r1->r'≠none->WG g K f A t rel m st (cR r') (iV g K f m r'))(hr:r=RE.bind r1 k)(aa:r≠none)
  (h: ∀a st1,r=k a st1->P a st1):WG g K f A t rel m st P (iV g K f m r):=by
 have S:=S r1 rfl
 match r1,hr,S with
 | none,hr,S=>exact absurd hr aa
 | some (.ok a,st1),hr,S=>
  refine(S (by simp)).mono (λa' st' q=> ?_) (λe s q=> ?_)
  ·have q:some (Except.ok a,st1)=some (.ok a',st'):=q
   cases q;exact h _ _ hr
  ·refine cc q ?_;clear q;intro x st' q _;cases q
 | some (.error x,st1),hr,S=>
  refine(S (by simp)).mono (λa' st' q=> ?_) (λe s q=> ?_)
  ·have q:some (Except.error x,st1)=some (.ok a',st'):=q
   cases q
  ·refine cc q ?_;clear q;intro x' st' q X
   cases q
   exact⟨_,_,hr,X⟩
theorem WG.b7{α β:Type}{t:Sem β}{rel:Dt->List Addr->α->β->Prop}{r1:RE α}{k:α->List AO->RS}{r:RS}{P:α->List AO->Prop}(S: ∀r',r'=r1->r'≠none->WG g K f A t rel m st (cR r') (iV g K f m r'))(hr:r=RE.b7 r1 m k)(aa:r≠none)
  (h: ∀a st1,r=k a st1->P a st1):WG g K f A t rel m st P (tI g K f r):=by
 have S:=S r1 rfl
 match r1,hr,S with
 | none,hr,S=>exact absurd hr aa
 | some (.ok a,st1),hr,S=>
  refine(S (by simp)).mono (λa' st' q=> ?_) (λe s q=> ?_)
  ·have q:some (Except.ok a,st1)=some (.ok a',st'):=q
   cases q;exact h _ _ hr
  ·refine cc q ?_;clear q;intro x st' q _;cases q
 | some (.error x,st1),hr,S=>
  refine(S (by simp)).mono (λa' st' q=> ?_) (λe s q=> ?_)
  ·have q:some (Except.error x,st1)=some (.ok a',st'):=q
   cases q
  ·refine cc q ?_;clear q;intro x' st' q X
   cases q
   exact⟨_,_,_,hr,X⟩
theorem W2.of{α β:Type}{t:Value->Value->Sem β}{x y:V}{rel:Dt->List Addr->α->β->Prop}{r r1:RE α}{E:Value->Shared->Prop}(hr:r=r1)(aa:r≠none)(h:r1≠none->W2 g K f A t x y rel m st (cR r1) E):W2 g K f A t x y rel m st (cR r) E:=by
 subst hr;exact h aa
theorem W1.of{α β:Type}{t:Value->Sem β}{x:V}{rel:Dt->List Addr->α->β->Prop}{r r1:RE α}{E:Value->Shared->Prop}(hr:r=r1)(aa:r≠none)(h:r1≠none->W1 g K f A t x rel m st (cR r1) E):W1 g K f A t x rel m st (cR r) E:=by
 subst hr;exact h aa
end
def NS(kZ:Addr->Prop)(A:Around):Prop:= ∃l,A.frames=some l/\ ∀env∈l,env.scope.kind≠ .module/\ ∃L,env.frame=some L/\kZ L
def OB(K:Kx)(L:Addr):Prop:=(∃o es ep,(L,o)∈K.kZ/\o.data= .dict es ep)/\L∉K.kept.map (·.1)
theorem OB.mem{K:Kx}{L:Addr}(h:OB K L):L∈K.kZ.map (·.1)/\L∉K.kept.map (·.1):=by
 refine aO h ?_;clear h;rintro ⟨o,es,ep,h1,h2⟩ h3
 exact⟨aa7 (f:=(·.1)) h1,h3⟩
def AK(K:Kx)(A:Around):Prop:=NS (OB K) A
def AF(K:Kx)(f:Fx)(A:Around):Prop:=NS (λL=>L=f.L\/OB K L) A
theorem tW.af{g:Gl}{K:Kx}{f:Fx}{m:M}{K':Kx}{A:Around}(I:tW g K f m K')(h:AF K f A):AK K' A:=by
 refine ao h λl h1 h2=> ?_;clear h
 refine gF I.kZ λoL es ep q1 q2=> ?_
 refine⟨l,h1,λenv he=> ?_⟩
 obtain⟨h3,L,h4,h5⟩:=h2 env he
 refine⟨h3,L,h4,?_⟩
 rcases h5 with rfl | h5
 ·exact⟨⟨oL,es,ep,by rw[q1];exact aak,q2⟩,I.kl _ (.inl rfl)⟩
 ·have h8:=I.kl L (.inr h5.mem)
  refine aO h5 ?_;clear h5;rintro ⟨o,RQ,ep',h6,h7⟩ _
  exact⟨⟨o,RQ,ep',by rw[q1];exact aai _ h6,h7⟩,h8⟩
def zU(g:Gl)(C nY:Addr):Prop:=makesIn (Mine.KN g.w.params) C=true/\findIn (Mine.KN g.w.params) (.ref C) "__init__"=some (some (.ref nY))/\isFn (Mine.KN g.w.params) (.ref nY)=true
structure uc(w:World)(C:Addr)(x:Str)(fn:Addr):Prop where
 g:specialIn (Mine.KN w.params) (.ref C) "__getattribute__"=some (some (.builtin "type.__getattribute__"))
 r: ∃mc,readsIn (Mine.KN w.params) C mc=true/\findCls (Mine.KN w.params) (.ref C) mc x=some (.val (.ref fn))
 h:handedIn (.ref fn)=true
 k:keepIn (Mine.KN w.params) (.ref fn)=true
noncomputable abbrev eL:List Str:=[aab "kind",aab "at",aab "detail"]
inductive JF(w:World)(C:Addr):Prop where
 | mk (nm q:Str) (N:Addr) (bs bm:List Value) (hdct:Bool) (sn:List Str) (sub:List Value) (ab:Bool) (col:Option Bool) (dd:Option Addr) (k0 k1 k2 k3 k5:Option Value) (newId:String) (h1:(Mine.KN w.params).lookup C=some (excClassObj nm q C N bs bm hdct sn sub ab col dd k0 k1 k2 k3 k5 newId)) (h2:bm.contains (.type "BaseException")=true)
structure qM(w:World)(C:Addr):Prop where
 obj:JF w C
 g:findIn (Mine.KN w.params) (.ref C) "__getattribute__"=some (some (.builtin "BaseException.__getattribute__"))
 x:findIn (Mine.KN w.params) (.ref C) "__getattr__"=some none
 h:hasDictIn (Mine.KN w.params) C=true
 s:subIn (Mine.KN w.params) (.ref C) (.type "BaseException")=some true
 a: ∀nm∈eL,findIn (Mine.KN w.params) (.ref C) nm=some none
structure Il(g:Gl)(T:Tb):Prop where
 gl: ∀x v,T.gl x=some v->mY g x v
 kp: ∀x a,T.gl x=some (.ref a)->keepIn (Mine.KN g.w.params) (.ref a)=true
 con: ∀x i,T.con x=some i-> ∃t,mY g x (.int i t)
 attr: ∀C x,T.attr C x=true->fN g.w C x
 cls: ∀C nY fz,T.cls C=some (nY,fz)->zU g C nY
 exc: ∀C,T.exc C=true->qM g.w C
 nH: ∀C x fn,T.nH C x=some fn->uc g.w C x fn
 iU: ∀C x fn,T.iU C x=some fn-> ∃ph,lJ g.w C ph x fn
def mX(g:Gl)(lv:Nat)(cl:Addr->List V->List AO->RE V):Prop:=
 ∀A K fn xs st,bI lv A->AK K A->cl fn xs st≠none->WC g K A (.ref fn) xs st (cR (cl fn xs st)) (NP g K (cl fn xs st))
structure Cx(g:Gl)(K:Kx)(f:Fx)(A:Around)(F:aV)(T:Tb)(cl:Addr->List V->List AO->RE V):Prop where
 ok:vP g f
 sc:f.env.scope.names=F.sc
 cells: ∀x k,F.sc.lookup x=some k->k=ac3\/k=abI-> ∃c,f.env.cells.lookup x=some c/\(F.top=true->k=ac3->c∈f.own)
 inj:F.top=true-> ∀x y c,f.env.cells.lookup x=some c->f.env.cells.lookup y=some c->x=y
 af:AF K f A
 hf:F.top=true->f.env.frame=some f.L/\ ∃l,A.frames=some (f.env::l)
 room:bI 1 A
 tb:Il g T
 cl: ∃lv,bI (lv+1) A/\mX g lv cl
theorem Cx.k{g:Gl}{K:Kx}{f:Fx}{A:Around}{F:aV}{T:Tb}{cl:Addr->List V->List AO->RE V}(C:Cx g K f A F T cl)(x:Str):f.env.kindOf x=F.sc.lookup x:=by
 unfold Env.kindOf;rw[C.sc]
def mA(D:Dt)(σ:List Addr)(a:Option Int)(b:Value):Prop:=match a with | none=>b= .none | some i=> ∃t,b= .int i t
end Mine
namespace Mine
section
variable{g:Gl}{K:Kx}{f:Fx}{A:Around}{m:M}{st:List AO}{E:Value->Shared->Prop}{D:Dt}{σ:List Addr}{s:Shared}
def ub(g:Gl)(D:Dt)(σ:List Addr)(h:Heap)(n:Nat)(x:V)(d:PyData):Prop:= ∀v,VR g.w.params D σ x v->(∃as,Reads h v d as)/\d.canLay0=true/\d.depth<=n
theorem ub.of{h:Heap}{n:Nat}{x:V}{d d':PyData}(e:some d'=some d)(k: ∀v,VR g.w.params D σ x v->(∃as,Reads h v d' as)/\d'.canLay0=true/\d'.depth<=n):ub g D σ h n x d:=aaj e▸k
theorem lV{ds:List PyData}{n:Nat}(h:adf ds<=n):(acV ds).depth<=n+1/\(PyData.list ds).depth<=n+1:=by
 simp only[PyData.depth];exact Y9 h
theorem uT{ds:List PyData}(h:acO ds=true):(acV ds).canLay0=true/\(PyData.list ds).canLay0=true:=by
 simpa [PyData.canLay0] using h
mutual
theorem rd1(R:aP g K D σ st s){F:Nat->Nat->Option PyData}(hF: ∀n j d,F n j=some d->ub g D σ s.heap n (.loc j) d): ∀(n:Nat) (x:V) (d:PyData),tj F n x=some d->ub g D σ s.heap n x d
 | n,.none,d,h=> .of h λv hv=>hv▸⟨⟨_,.none⟩,rfl,aaC _⟩
 | n,.bool b,d,h=> .of h λv hv=>hv▸⟨⟨_,.bool b⟩,rfl,aaC _⟩
 | n,.int i,d,h=> .of h λv hv=>aj hv λt e=>e▸⟨⟨_,.int i t⟩,rfl,aaC _⟩
 | n,.str x,d,h=>aR h aN λhs h=> .of h λv hv=>aj hv λt e=>e▸⟨⟨_,.str x t⟩,hs,aaC _⟩
 | 0,.tup xs,d,h=>aY h
 | n+1,.tup xs,d,h=>aB h aN λds h1 h=> .of h λv hv=>hv.fK λa its e ev h2 h3=>bM (Ri R hF n xs ds h1 _ h3) λr q2 q3=>ev▸⟨aj r λas q1=>⟨_,.tuple (R.dh _ _ h2) rfl rfl q1⟩,(uT q2).1,(lV q3).1⟩
 | 0,.lst xs,d,h=>aY h
 | n+1,.lst xs,d,h=>aB h aN λds h1 h=> .of h λv hv=>hv.cA λa its e ev h2 h3=>bM (Ri R hF n xs ds h1 _ h3) λr q2 q3=>ev▸⟨aj r λas q1=>⟨_,.list (R.dh _ _ h2) rfl rfl q1⟩,(uT q2).2,(lV q3).2⟩
 | n,.loc j,d,h=>hF n j d h
 | n,.nj _ _,d,h=>aY h
 | n,.inst _ _,d,h=>aY h
 | n,.jb _ _ _,d,h=>aY h
 | n,.f6 _,d,h=>aY h
theorem Ri(R:aP g K D σ st s){F:Nat->Nat->Option PyData}(hF: ∀n j d,F n j=some d->ub g D σ s.heap n (.loc j) d): ∀(n:Nat) (xs:List V) (ds:List PyData),dO F n xs=some ds->
  ∀vs,aM g.w.params D σ xs vs->(∃as,ReadsAll s.heap vs ds as)/\acO ds=true/\adf ds<=n
 | n,[],ds,h=>λvs hv=>aaj h▸hv.dp▸⟨⟨_,.nil⟩,rfl,aaC _⟩
 | n,x::xs,ds,h=>aB h aN λd h1 h=>aB h aN λds' h2 h=>λvs hv=>aaj h▸hv.aW λv r ev h3 h4=>
  bM (rd1 R hF n x d h1 v h3) λr1 q2 q3=>bM (Ri R hF n xs ds' h2 r h4) λr2 q5 q6=>ev▸⟨aj r1 λas q1=>aj r2 λbs q4=>⟨_,.cons q1 q4⟩,aap.mpr ⟨q2,q5⟩,Nat.max_le.mpr ⟨q3,q6⟩⟩
end
theorem CX(R:aP g K D σ st s): ∀k n j d,k7 st k n j=some d->ub g D σ s.heap n (.loc j) d
 | 0,n,j,d,h=>aY h
 | k+1,0,j,d,h=>aY h
 | k+1,n+1,j,d,h=>aB h aN λxs hs h=>aB h aN λds h1 h=> .of h λv hv=>ao hv λa ev h2=>R.cA (eN hs) h2 λits e q2 q3=>
  bM (Ri R (λn j d h=>CX R k n j d h) n xs ds h1 _ q3) λr q5 q6=>ev▸⟨aj r λas q4=>⟨_,.list q2 rfl rfl q4⟩,(uT q5).2,(lV q6).2⟩
theorem SI(R:aP g K D σ st s){x:V}{d:PyData}(h:toD st x=some d):ub g D σ s.heap 30 x d:=rd1 R (CX R 2) 30 x d h
theorem Mv(R:aP g K D σ st s){xs:List V}{ds:List PyData}(h:ti st xs=some ds){vs:List Value}(hv:aM g.w.params D σ xs vs):(∃as,ReadsAll s.heap vs ds as)/\acO ds=true/\adf ds<=29:=Ri R (CX R 2) 29 xs ds h vs hv
theorem ou{d:PyData}(h1:d.canLay0=true)(h2:d.depth<=30):acG d=true:=by
 unfold acG;rw[h1,abN];exact decide_eq_true (Za h2)
theorem bI.M4{k:Nat}(h:bI k A):A.units+64<cLine:=by have :=h.un;exact Zb this
theorem Lq(R:aP g K D σ st s){x:V}{xs:List V}{v:Value}(h:items st x=some xs)(hv:VR g.w.params D σ x v): ∃a its n,v= .ref a/\s.heap.get? a=some (listOf its n)/\aM g.w.params D σ xs its.toList:=by
 cases x with
 | lst ys=>exact hv.cA λa its n e h1 h2=>⟨a,its,n,e,R.dh _ _ h1,aaj h▸h2⟩
 | loc j=>exact ao hv λa e h2=>R.cA (eN h) h2 λits n q2 q3=>⟨a,its,n,e,q2,q3⟩
 | _=>exact aY h
theorem cD(R:aP g K D σ st s){x:V}{xs:List V}{v:Value}{G:Prop}(h:items st x=some xs)(hv:VR g.w.params D σ x v)(k: ∀a its n,v= .ref a->s.heap.get? a=some (listOf its n)->aM g.w.params D σ xs its.toList->G):G:=rD (Lq R h hv) k
theorem bh{h:Heap}{a:Addr}{its:Array Value}{n:Nat}(q:h.get? a=some (listOf its n)):h.IsList a its:=⟨_,q,rfl,n,rfl⟩
theorem kr{y:V}{ys:List V}(h:bB st y=some ys):y= .tup ys\/items st y=some ys:=by
 cases y with
 | tup xs=>exact .inl (congrArg V.tup (aaj h))
 | _=>exact .inr h
theorem DS(R:aP g K D σ st s){x y:V}{b:Bool}{v u:Value}{G:Prop}(h:tv st x y=some b)(hv:VR g.w.params D σ x v)(hu:VR g.w.params D σ y u)
  (k: ∀d1 d2 as bs,Reads s.heap v d1 as->Reads s.heap u d2 bs->acG d1=true->acG d2=true->aaz d1 d2=b->G):G:=
 aB h aN λd1 h1 h=>aB h aN λd2 h2 h=>bM (SI R h1 v hv) λr1 c1 e1=>bM (SI R h2 u hu) λr2 c2 e2=>aj r1 λas r1=>aj r2 λbs r2=>k d1 d2 as bs r1 r2 (ou c1 e1) (ou c2 e2) (aaj h)
theorem M7{k:Nat}(hA:bI k A){x y:V}{b:Bool}{Q:V->List AO->Prop}(h:tv st x y=some b)(hQ:Q (.bool b) st):W2 g K f A (compareOp .Eq) x y (VR g.w.params) m st Q E:=
 λD σ s Q' v u R hv hu kk=>DS R.r h hv hu λd1 d2 as bs r1 r2 c1 c2 e=>eq_dataH r1 r2 c1 c2 hA.M4 (e▸kk (.bool b) st D σ _ s Le.refl R rfl hQ)
theorem M8{k:Nat}(hA:bI k A){x y:V}{b:Bool}{Q:V->List AO->Prop}(h:tv st x y=some b)(hQ:Q (.bool (!b)) st):W2 g K f A (compareOp .NotEq) x y (VR g.w.params) m st Q E:=
 λD σ s Q' v u R hv hu kk=>DS R.r h hv hu λd1 d2 as bs r1 r2 c1 c2 e=>ne_dataH r1 r2 c1 c2 hA.M4 (e▸kk (.bool (!b)) st D σ _ s Le.refl R rfl hQ)
theorem v5{k:Nat}(hA:bI k A)(R:aP g K D σ st s){x y:V}{ys:List V}{b:Bool}{v u:Value}{G:Prop}(hy:bB st y=some ys)(h:among st x ys=some b)(hv:VR g.w.params D σ x v)(hu:VR g.w.params D σ y u)
  (k: ∀d ds bs,Reads s.heap v d bs->d.canLay0=true->acO ds=true->A.units+1+min (adf ds) d.depth<cLine->(ds.any λe=>aaz e d)=b->(∃cs,Reads s.heap u (.tuple ds) cs)\/(∃cs,Reads s.heap u (.list ds) cs)->G):G:=by
 refine aB h aN λds h1 h=>aB h aN λd h2 h=>bM (SI R h2 v hv) λr2 c2 e2=>aj r2 λbs r2=> ?_
 have So:=hA.M4
 rcases kr hy with e | hy
 ·exact(e▸hu:VR g.w.params D σ (.tup ys) u).fK λa its n e h3 h4=>bM (Mv R h1 h4) λr1 c1 e1=>aj r1 λas r1=>k d ds bs r2 c2 c1 (QO So e1) (aaj h) (.inl ⟨_,e▸Reads.tuple (R.dh _ _ h3) rfl rfl r1⟩)
 ·exact cD R hy hu λa its n e h3 h4=>bM (Mv R h1 h4) λr1 c1 e1=>aj r1 λas r1=>k d ds bs r2 c2 c1 (QO So e1) (aaj h) (.inr ⟨_,e▸Reads.list h3 rfl rfl r1⟩)
theorem Pq{k:Nat}(hA:bI k A){x y:V}{ys:List V}{b:Bool}{Q:V->List AO->Prop}(hy:bB st y=some ys)(h:among st x ys=some b)(hQ:Q (.bool b) st):W2 g K f A (compareOp .In) x y (VR g.w.params) m st Q E:=
 λD σ s Q' v u R hv hu kk=>v5 hA R.r hy h hv hu λd ds bs r c2 c1 hd e o=>o.elim (λq=>aj q λcs q=>SeqAt.in_tuple_reads q r c1 c2 hd (e▸kk (.bool b) st D σ _ s Le.refl R rfl hQ)) λq=>aj q λcs q=>SeqAt.in_list_reads q r c1 c2 hd (e▸kk (.bool b) st D σ _ s Le.refl R rfl hQ)
theorem Cq{k:Nat}(hA:bI k A){x y:V}{ys:List V}{b:Bool}{Q:V->List AO->Prop}(hy:bB st y=some ys)(h:among st x ys=some b)(hQ:Q (.bool (!b)) st):W2 g K f A (compareOp .NotIn) x y (VR g.w.params) m st Q E:=
 λD σ s Q' v u R hv hu kk=>v5 hA R.r hy h hv hu λd ds bs r c2 c1 hd e o=>o.elim (λq=>aj q λcs q=>SeqAt.notIn_tuple_reads q r c1 c2 hd (e▸kk (.bool (!b)) st D σ _ s Le.refl R rfl hQ)) λq=>aj q λcs q=>SeqAt.notIn_list_reads q r c1 c2 hd (e▸kk (.bool (!b)) st D σ _ s Le.refl R rfl hQ)
end
end Mine
namespace Mine
section
variable{g:Gl}{K:Kx}{f:Fx}{A:Around}{m:M}{st:List AO}{E:Value->Shared->Prop}{D:Dt}{σ:List Addr}{s s':Shared}
theorem made(R:Rel g K f D σ m st s)(k:Keeps s s'){a:Addr}{its:Array Value}{n:Nat}{xs:List V}{mu:Bool}{Q:V->List AO->Prop}{Q':Value->Shared->Prop}(hn:s.heap.get? a=none)(ha:s'.heap.get? a=some (listOf its n))
  (hv:aM g.w.params D σ xs its.toList) (hm:mk mu xs st≠none) (hQ: ∀v st',mk mu xs st=some (.ok v,st')->Q v st')
  (kk: ∀a st' D' σ' b s',Le D σ D' σ'->Rel g K f D' σ' m st' s'->VR g.w.params D' σ' a b->Q a st'->Q' b s'):Q' (.ref a) s':=by
 unfold mk at hm hQ
 split at hm
 ·rename_i hl
  cases mu with
  | true=>
   simp only[hl,if_true] at hQ
   have L:Le D σ D (σ++[a]):=Le.snoc
   have hO:OR g.w.params D (σ++[a]) (.lst xs) (listOf its n):=⟨its,n,rfl,hv.mono L⟩
   refine kk (.loc st.length) (st++[.lst xs]) D (σ++[a]) _ _ L (R.alloc k hn ha hO) ⟨a,rfl,?_⟩ (hQ _ _ rfl)
   rw[<-R.r.sl,aau (aaw _)];simp
  | false=>
   simp only[hl,if_true] at hQ
   refine aO (R.frozen k hn ha) λL R'=> ?_
   refine kk (.lst xs) st _ σ _ _ L R' ?_ (hQ _ _ (by simp))
   simp only[VR]
   exact⟨a,its,n,rfl,Dt.dN _ _ _,hv.mono L⟩
 ·exact absurd rfl hm
theorem cv{o:Obj}:Keeps s {s with heap:=s.heap.push o}:=⟨λb o' h=>aaE _ h,rfl,rfl⟩
theorem uV{mu:Bool}{xs:List V}(h:mk mu xs st≠none):xs.length<=100000:=by
 unfold mk at h;split at h
 ·assumption
 ·exact absurd rfl h
theorem nP{i:Int}(h:small i=true):i.natAbs<2^60:=by
 unfold small at h
 simp only[aaT,decide_eq_true_eq] at h
 have h1:(10:Int)^15=1000000000000000:=by decide
 have h2:(2:Nat)^60=1152921504606846976:=by decide
 omega
theorem jg{i:Int}(h:small i=true):abm i<=60:=PySem.intBits_le_iff.mpr (nP h)
theorem za{i j:Int}(h:small i=true):IntMulOk i j:=by
 unfold IntMulOk
 have :=jg h
 have h0:shortFactorBits=64:=rfl
 have h1: ¬abm i>shortFactorBits:=by exact Zh this h0
 simp[h1]
theorem p27:(2:Int)^27=134217728:=by decide
theorem Ao{i j:Int}(h:small i=true)(h0:0<=j)(h1:j<=1000):(abm i:Int)* j<=2^27:=by
 have :=jg h
 have :(abm i:Int)* j<=60* 1000:=Int.mul_le_mul (Zi this) h1 h0 (Zj)
 rw[p27];exact Zk this
theorem Ap{i j:Int}(h:small i=true)(h1:j<=1000):(abm i:Int)+j<=2^27:=by
 have :=jg h
 rw[p27];exact Zl h1 this
theorem zq{its:Array Value}{k:Nat}:(List.foldl (λx1 x2=>x1++x2) #[] (aaB (if its.isEmpty=true then 0 else k) its)).toList=(aaB k its.toList).flatten:=by
 have gen: ∀(l:List (Array Value)) (acc:Array Value),(List.foldl (λx1 x2=>x1++x2) acc l).toList=acc.toList++(l.map (·.toList)).flatten:=by
  intro l
  induction l with
  | nil=>intro acc;simp
  | cons x l ih=>intro acc;rw[abK,ih];simp
 rw[gen]
 by_cases h:its.isEmpty=true
 ·have :its= #[]:=by simpa using h
  subst this
  simp
 ·simp[h]
theorem aM.rep{P:Params}{xs:List V}{vs:List Value}(h:aM P D σ xs vs): ∀k,aM P D σ (aaB k xs).flatten (aaB k vs).flatten
 | 0=>rfl
 | k+1=>by rw[List.replicate_succ,List.replicate_succ,List.flatten_cons,List.flatten_cons];exact aM.append h (aM.rep h k)
theorem LH{l:Addr}{items:Array Value}{k:Nat}{x:Int}{u:Tok}{Q:Value->Shared->Prop}(hl:s.heap.get? l=some (listOf items k))(hlo: -(2^63:Int)<=x)(hhi:x<2^63)(pH:items.size* x.toNat<=2^24)
  (h:Q (.ref s.heap.objs.size) {s with heap:=s.heap.push {cls:= .type "list",data:= .seq (List.foldl (λx1 x2=>x1++x2) #[] (aaB (if items.isEmpty=true then 0 else x.toNat) items))}}):
  wpAny (model cS g.w) A (binaryOp .Mult (.ref l) (.int x u)) Q E s:=
 wpAny_binaryOp_repeat_ref (T:="list") (U:="int") (by decide) ⟨_,hl,rfl⟩ (λs'=>typeIs_int s' x u) noFill_list_mul F.fills_int_mul F.slot_int_rmul repeat_list F.slot_int_index.lookup
  (call_meets F.slot_int_rmul (typeIs_int s x u) F.entry_int_rmul (F.args_int_rmul_2 _ _) (int___rmul___int_list x u l items k)
   ⟨hl,rfl,⟨_,hl,rfl⟩,call_meets F.slot_list_mul ⟨_,hl,rfl⟩ F.entry_list_mul (F.args_list_mul_2 _ _)
    (AutoListH.list___mul___list_int_3 l items k x u (by simp[aa5];omega) (by omega) (by simp[Builtin.List.listTooLong,sizeLine];omega))
    ⟨hl,h⟩⟩)
theorem ET(op:Operator)(i j:Int){r:RE V}(hr:N8 op i j st=r)(aa:r≠none):W2 g K f A (binaryOp op) (.int i) (.int j) (VR g.w.params) m st (cR r) E:=by
 cases op with
 | Add=>exact JQ hr.symm
 | Sub=>exact J1 hr.symm
 | Mult=>exact aR hr aa λh hr=>JY (za (aap.mp h).1) hr.symm
 | Mod=>exact aR hr aa λh hr=>JX h hr.symm
 | FloorDiv=>
  refine aR hr aa λh hr=> ?_
  intro D σ s Q' v u R ⟨t,hv⟩ ⟨t',hu⟩ kk
  exact hv▸hu▸PyProof.Rows.floordiv_int h.1 (kk (.int (i.fdiv j)) st D σ _ _ Le.refl (R.tok _) ⟨_,rfl⟩ hr.symm) (.inl (PyProof.noPylong_small (Zm h)))
 | Pow=>
  refine aR hr aa λh hr=> ?_
  intro D σ s Q' v u R ⟨t,hv⟩ ⟨t',hu⟩ kk
  exact hv▸hu▸PyProof.Rows.pow_int h.1 (Ao h.2.2 h.1 h.2.1) (kk (.int (i^j.toNat)) st D σ _ _ Le.refl (R.tok _) ⟨_,rfl⟩ hr.symm)
 | LShift=>
  refine aR hr aa λh hr=> ?_
  intro D σ s Q' v u R ⟨t,hv⟩ ⟨t',hu⟩ kk
  exact hv▸hu▸PyProof.Rows.lshift_int h.1 (Ap h.2.2 h.2.1) (kk (.int (i* 2^j.toNat)) st D σ _ _ Le.refl (R.tok _) ⟨_,rfl⟩ hr.symm)
 | BitOr=>exact λD σ s Q' v u R ⟨t,hv⟩ ⟨t',hu⟩ kk=>hv▸hu▸PyProof.Rows.or_int (kk (.int (Builtin.bitOr i j)) st D σ _ _ Le.refl (R.tok _) ⟨_,rfl⟩ hr.symm)
 | BitAnd=>exact λD σ s Q' v u R ⟨t,hv⟩ ⟨t',hu⟩ kk=>hv▸hu▸PyProof.Rows.and_int (kk (.int (Builtin.bitAnd i j)) st D σ _ _ Le.refl (R.tok _) ⟨_,rfl⟩ hr.symm)
 | BitXor=>exact λD σ s Q' v u R ⟨t,hv⟩ ⟨t',hu⟩ kk=>hv▸hu▸PyProof.Rows.xor_int (kk (.int (Builtin.bitXor i j)) st D σ _ _ Le.refl (R.tok _) ⟨_,rfl⟩ hr.symm)
 | _=>exact absurd hr.symm aa
theorem Kl{a b:Str}{r:RE V}(h:a.length+b.length<=100000)(hr:ok (.str (a++b)) st=r):W2 g K f A (binaryOp .Add) (.str a) (.str b) (VR g.w.params) m st (cR r) E:=
 λD σ s Q' v u R ⟨t,hv⟩ ⟨t',hu⟩ kk=>hv▸hu▸PyProof.Rows.add_str (λt' tk=>kk (.str (a++b)) st D σ _ _ Le.refl (R.tok _) ⟨_,rfl⟩ hr.symm) (by rw[sizeLine_eq];exact QM h)
theorem My{mu:Bool}{x:V}{xs:List V}{j:Int}{r:RE V}(hi:items st x=some xs)(h:xs.length<=10/\ -10<=j/\j<=1000)(hr:mk mu (List.flatten (aaB j.toNat xs)) st=r)(aa:r≠none):W2 g K f A (binaryOp .Mult) x (.int j) (VR g.w.params) m st (cR r) E:=by
 intro D σ s Q' v u R hv ⟨t',hu⟩ kk
 refine hu▸cD R.r hi hv λa its n e h1 h2=>e▸ ?_
 have hs:=aM.size h2
 have e2:its.size* j.toNat<=10* 1000:=Nat.mul_le_mul (Zn h hs) (Zo h)
 refine LH h1 (by omega) (by omega) (by omega) ?_
 exact made (n:=0) (its:=List.foldl (λx1 x2=>x1++x2) #[] (aaB (if its.isEmpty=true then 0 else j.toNat) its)) R cv au (aaO _ rfl) (zq▸h2.rep _) (hr▸aa) (λv st' q=>hr.symm.trans q) kk
theorem Kb{mu:Bool}{x y:V}{xs ys:List V}{r:RE V}(hx:items st x=some xs)(hy:items st y=some ys)(hr:mk mu (xs++ys) st=r)(aa:r≠none):W2 g K f A (binaryOp .Add) x y (VR g.w.params) m st (cR r) E:=by
 intro D σ s Q' v u R hv hu kk
 refine cD R.r hx hv λa its n e h1 h2=>e▸cD R.r hy hu λb UI n' e h3 h4=>e▸ ?_
 have e1:=aM.size h2
 have e2:=aM.size h4
 have e3:=aag▸uV (hr▸aa)
 refine PySem.P.add_list h1 h3 ?_ (by rw[sizeLine_eq];exact Zp e1 e2 e3)
 exact made (n:=0) (its:=its++UI) R cv au (aaO _ rfl) (by rw[Array.toList_append];exact aM.append h2 h4) (hr▸aa) (λv st' q=>hr.symm.trans q) kk
theorem ER{k:Nat}(hA:bI k A)(mu:Bool)(op:Operator)(x y:V)(aa:binI mu op x y st≠none):W2 g K f A (binaryOp op) x y (VR g.w.params) m st (cR (binI mu op x y st)) E:=by
 generalize hr:binI mu op x y st=r at aa
 refine br hr (λj hy hr=>ez hy▸br hr (λi hx hr=>ez hx▸ET op i j hr aa) λ_ hr=> ?_) λ_ hr=>br hr (λb hy hr=>fp hy▸ ?_) λ_ hr=> ?_
 ·exact aO (CA hr aa) λe hr=>e▸aB hr aa λxs hi hr=>aR hr aa λh hr=>My hi h hr aa
 ·exact aB hr aa λa ha hr=>fp ha▸aO (sr hr aa) λe hr=>e▸aR hr aa λh hr=>Kl h hr
 ·exact aO (sr hr aa) λe hr=>e▸aB hr aa λxs hx hr=>aB hr aa λys hy hr=>Kb hx hy hr aa
theorem M5(op:UnaryOp)(x:V)(aa:RC op x st≠none):W1 g K f A (unaryOp op) x (VR g.w.params) m st (cR (RC op x st)) E:=by
 generalize hr:RC op x st=r at aa
 cases op with
 | USub=>exact aB hr aa λi hi hr=>ez hi▸JP hr.symm
 | _=>exact absurd hr.symm aa
theorem xT(x:V)(aa:k9 x st≠none):W1 g K f A truthy x (λ_ _ (a b:Bool)=>a=b) m st (cR (k9 x st)) E:=by
 cases x with
 | bool b=>exact Im rfl
 | _=>exact absurd rfl aa
end
end Mine
namespace Mine
theorem con{α:Type}{a:α}{l:List α}{P:Prop}(h:a::l=[]):P:=by cases h
theorem UQ{α:Type}{a:α}{l:List α}{P:Prop}(h:[]=a::l):P:=by cases h
theorem iz: ∀{fs:List (Str×V)} {k:Str} {x:V},fs.lookup k=some x-> ∃j:Nat,fs[j]? =some (k,x)
 | [],_,_,h=>by cases h
 | (j,y)::fs,k,x,h=>by
  rw[aao] at h
  by_cases e:k=j
  ·subst e;simp at h;subst h;exact⟨0,rfl⟩
  ·rw[beq_false_of_ne e] at h
   refine aj (iz h) λi hi=> ?_
   exact⟨i+1,hi⟩
theorem sH: ∀{fs:List (Str×V)} {k:Str} {x:V},(putK k x fs).map (·.1)=if k∈fs.map (·.1) then fs.map (·.1) else fs.map (·.1)++[k]
 | [],k,x=>by simp[putK]
 | (j,w)::r,k,x=>by
  unfold putK
  by_cases e:j=k
  ·subst e;simp
  ·rw[beq_false_of_ne e]
   simp only[abU,if_false,aaq,sH (fs:=r),aat]
   by_cases h:k∈r.map (·.1)
   ·simp[h]
   ·have : ¬(k=j\/k∈r.map (·.1)):=λq=>q.elim (λq=>e q.symm) h
    rw[if_neg h,if_neg this];rfl
theorem vp{fs:List (Str×V)}{k:Str}{x:V}(h:(fs.map (·.1)).Nodup):((putK k x fs).map (·.1)).Nodup:=by
 rw[sH]
 split
 ·exact h
 ·rename_i hk
  rw[aaQ]
  exact⟨h,by simp,λa ha b hb=>by rw[abb.mp hb];exact λe=>hk (e▸ha)⟩
section
variable{g:Gl}{K:Kx}{f:Fx}{A:Around}{m:M}{st:List AO}{E:Value->Shared->Prop}{D:Dt}{σ:List Addr}{s s':Shared}
theorem bN.putK{P:Params}: ∀{fs:List (Str×V)} {es:List DictEntry},bN P D σ fs es-> ∀{name:Str} {y:V} {t:Tok} {v:Value},VR P D σ y v->
  bN P D σ (Mine.putK name y fs) (putL name (aaY P name) (.str name t) v es)
 | [],es,h,name,y,t,v,hv=>h.dp▸ .cx ⟨rfl,t,rfl⟩ hv rfl
 | (k,z)::fs,es,h,name,y,t,v,hv=>h.aW λe r ee h1 h2 h3=>ee▸by
  unfold Mine.putK putL
  rw[h1.isStr]
  by_cases q:k=name
  ·subst q
   rw[beq_self_eq_true,if_pos rfl,if_pos rfl]
   exact .cx ⟨h1.1,h1.2⟩ hv h3
  ·rw[beq_false_of_ne q,if_neg abV,if_neg abV]
   exact .cx h1 h2 (bN.putK h3 hv)
theorem BA{name:Str}{fs:List (Str×V)}{r:RE V}{G:Prop}(hr:KR name fs st=r)(aa:r≠none)(k: ∀(v:V) (j:Nat),fs[j]? =some (name,v)->v.plain=true->r=ok v st->G):G:=
 aB hr aa λv hv hr=>aR hr aa λhp hr=>aj (iz hv) λj hj=>k v j hj hp hr.symm
theorem FH{T:Tb}(hT:Il g T){x:V}{name:Str}{C:Addr}(hx:(∃fs,x= .nj C fs)\/ ∃n,x= .inst C n)(ha:T.attr C name=true)(aa:rO x name st≠none):
  W1 g K f A (λo=>getAttr o name true) x (VR g.w.params) m st (cR (rO x name st)) E:=by
 generalize hr:rO x name st=r at aa
 rcases hx with⟨fs,rfl⟩ | ⟨n,rfl⟩
 ·exact BA hr aa λv j hj hp hr=>z8 j (hT.attr _ _ ha) hj hr hp
 ·exact aB hr aa λfs hs hr=>BA hr aa λv j hj hp hr=>vX (cY hs) (hT.attr _ _ ha) hj hr hp
theorem Ht{T:Tb}(hT:Il g T){C:Addr}{n:Nat}{name:Str}{v:V}{st':List AO}{Q:Unit->List AO->Prop}(ha:T.attr C name=true)(h:Df (.inst C n) name v st=some st')(hQ:Q () st'):
  W2 g K f A (λov v=>setAttr ov name v) (.inst C n) v (λ_ _ (_ _:Unit)=>True) m st Q E:=
 aB h aN λfs hs h=>aR h aN λhz h=>λD σ s Q' ov u R hv hu k=>
  have wX:(fs.map (·.1)).Nodup:=cj (R.r.so n _ (cY hs)) λ_ _ _ _ q3=>cj q3 λ_ _ _ h3 _=>h3
  sY (E:=E) (fs':=putK name v fs) (cY hs) (hT.attr _ _ ha) (aaD hz (by decide)) (vp wX) (λh4 h3 hu=>bN.putK h4 hu) (aaj h▸hQ) D σ s Q' _ _ R hv hu k
noncomputable abbrev SK(g:Gl):=PySem.strKind cS g.w
theorem Fh{fs:List (Str×V)}{es:List DictEntry}{n:Nat}{h:Heap}{d:Addr}(h4:bN g.w.params D σ fs es)(nd:(fs.map (·.1)).Nodup)(hd:h.get? d=some (dictOf es n)):
  ∃bS,h.DictOf (SK g) d bS/\bS.map (·.1)=fs.map (·.1)/\aM g.w.params D σ (fs.map (·.2)) (bS.map (·.2)):=by
 have gen: ∀{fs:List (Str×V)} {es:List DictEntry},bN g.w.params D σ fs es-> ∃bS,(∀e∈es,∃k,(SK g).is k e.key=true/\e.hash=(SK g).hash k)/\PySem.Pairs (SK g) es bS/\bS.map (·.1)=fs.map (·.1)/\aM g.w.params D σ (fs.map (·.2)) (bS.map (·.2)):=by
  intro fs
  induction fs with
  | nil=>intro es h;cases h.dp;exact⟨[],λe he=>(jR he),.nil,rfl,rfl⟩
  | cons p fs ih=>
   intro es h
   obtain⟨k,x⟩:=p
   exact h.aW λe r ee h1 h2 h3=>nh (ih h3) λbS q1 q2 q3 q4=>ee▸
    have hi:(SK g).is k e.key=true:=aj h1.2 λt hk=>hk▸strKind_is _ _ _ _
    ⟨(k,e.val)::bS,λe' he'=>(aat.mp he').elim (λe=>e▸⟨k,hi,h1.1⟩) (q1 e'),.cons hi rfl q2,congrArg (k:: ·) q3,.cx h2 q4⟩
 refine nh (gen h4) λbS q1 q2 q3 q4=> ?_
 exact⟨bS,⟨_,es.toArray,n,hd,⟨rfl,rfl,rfl⟩,rfl,λe he=>q1 e (by simpa using he),by simpa using q2,by rw[q3];exact nd⟩,q3,q4⟩
theorem wx{h:Heap}{d:Addr}{bS:List (Str×Value)}{fs:List (Str×V)}(H:h.DictOf (SK g) d bS)(e:bS.map (·.1)=fs.map (·.1))(r:aM g.w.params D σ (fs.map (·.2)) (bS.map (·.2))):
  ∃es n,h.get? d=some (dictOf es n)/\(fs.map (·.1)).Nodup/\bN g.w.params D σ fs es:=by
 refine Fj H ?_;clear H;rintro o es ep h1 ⟨c1,c2,c3⟩ h2 h3 h4 h5
 have ho:o=dictOf es.toList ep:=by
  obtain⟨a,b,c,d⟩:=o
  simp only at c1 c2 c3 h2
  subst c1 c2 c3 h2
  rfl
 refine⟨es.toList,ep,by rw[h1,ho],by rw[<-e];exact h5,?_⟩
 have h3': ∀e∈es.toList,∃k,(SK g).is k e.key=true/\e.hash=(SK g).hash k:=λe he=>h3 e (by simpa using he)
 have gen: ∀{es:List DictEntry} {bS:List (Str×Value)},PySem.Pairs (SK g) es bS->(∀e∈es,∃k,(SK g).is k e.key=true/\e.hash=(SK g).hash k)-> ∀{fs:List (Str×V)},bS.map (·.1)=fs.map (·.1)->aM g.w.params D σ (fs.map (·.2)) (bS.map (·.2))->bN g.w.params D σ fs es:=by
  intro es bS hp
  induction hp with
  | nil=>intro _ fs e r;cases fs with
   | nil=>rfl
   | cons _ _=>cases e
  | @cons e0 kv es bS h1 h2 _ ih=>
   intro hk fs e r
   cases fs with
   | nil=>cases e
   | cons p fs=>
    obtain⟨k,x⟩:=p
    exact aM.aW r λv vs r1 r2 r3=>aj (Value.isStrOf_shape h1) λt ht=>ao (hk e0 aak) λk' q1 q2=>
     have e1:kv.1=k:=(aaJ e).1
     have e4:kv.2=v:=(aaJ r1).1
     have hkk:k'=k:=((SK g).inj _ _ _ q1 h1).trans e1
     .cx ⟨hkk▸q2,t,e1▸ht⟩ (h2▸e4▸r2) (ih (λe he=>hk e (aai _ he)) (aaJ e).2 ((aaJ r1).2▸r3))
 exact gen h4 h3' e r
theorem qC{bS:List (Str×Value)}{j k:Str}{w:Value}:acH ((j,w)::bS) k=bif k==j then some w else acH bS k:=by
 unfold acH
 by_cases q:k=j
 ·subst q;simp[acC]
 ·rw[beq_false_of_ne q,acC,decide_eq_false (Ne.symm q)];rfl
theorem eS: ∀{bS:List (Str×Value)} {fs:List (Str×V)} {k:Str},bS.map (·.1)=fs.map (·.1)->aM g.w.params D σ (fs.map (·.2)) (bS.map (·.2))->
  (∀x,fs.lookup k=some x-> ∃v,acH bS k=some v/\VR g.w.params D σ x v)/\(fs.lookup k=none->acH bS k=none)
 | [],[],k,_,_=>⟨λx h=>(aY h),λ_=>rfl⟩
 | [],_::_,_,h,_=>UQ h
 | _::_,[],_,h,_=>con h
 | (j,w)::bS,(i,y)::fs,k,h,r=>aM.aW r λv vs r1 r2 r3=>by
  have ih:=eS (k:=k) (aaJ h).2 ((aaJ r1).2▸r3)
  have e:j=i:=(aaJ h).1
  have e4:w=_:=(aaJ r1).1
  rw[aao,qC,e]
  cases k==i with
  | true=>exact⟨λx hx=>⟨w,rfl,aaj hx▸e4▸r2⟩,λhx=>Dk hx⟩
  | false=>exact ih
theorem s9{bS:List (Str×Value)}{j k:Str}{w v:Value}(hn:j∉bS.map (·.1)):abZ ((j,w)::bS) k v=bif j==k then(j,v)::bS else(j,w)::abZ bS k v:=by
 unfold abZ
 by_cases q:j=k
 ·subst q
  have e3:bS.map (λkv=>if kv.1=j then(kv.1,v) else kv)=bS:=
   (abe λp hp=>if_neg λ(z:p.1=j)=>hn (z▸aa7 hp)).trans (List.map_id bS)
  rw[beq_self_eq_true,ach,decide_eq_true rfl,aaq,e3,if_pos rfl];rfl
 ·rw[beq_false_of_ne q,ach,decide_eq_false q,aaq,if_neg q,Bool.false_or]
  cases bS.any λkv=>decide (kv.1=k)<;>rfl
theorem oy{k:Str}{x:V}{v:Value}(hv:VR g.w.params D σ x v): ∀{bS:List (Str×Value)} {fs:List (Str×V)},bS.map (·.1)=fs.map (·.1)->(fs.map (·.1)).Nodup->aM g.w.params D σ (fs.map (·.2)) (bS.map (·.2))->
  (abZ bS k v).map (·.1)=(putK k x fs).map (·.1)/\aM g.w.params D σ ((putK k x fs).map (·.2)) ((abZ bS k v).map (·.2))
 | [],[],_,_,_=>⟨rfl,.cx hv rfl⟩
 | [],_::_,h,_,_=>UQ h
 | _::_,[],h,_,_=>con h
 | (j,w)::bS,(i,y)::fs,h,nd,r=>aM.aW r λu vs r1 r2 r3=>by
  have e:j=i:=(aaJ h).1
  have e4:w=_:=(aaJ r1).1
  have nd:=aaK.mp nd
  have ih:=oy (k:=k) hv (aaJ h).2 nd.2 ((aaJ r1).2▸r3)
  rw[s9 (by rw[(aaJ h).2,e];exact nd.1),e]
  unfold putK
  cases q:i==k with
  | true=>
   rw[if_pos rfl]
   exact⟨(congrArg (i:: ·) (aaJ h).2).trans (congrArg (· ::fs.map (·.1)) (eq_of_beq q)),.cx hv ((aaJ r1).2▸r3)⟩
  | false=>
   rw[if_neg abV]
   exact⟨congrArg (i:: ·) ih.1,.cx (e4▸r2) ih.2⟩
end
end Mine
namespace Mine
section
variable{g:Gl}{K:Kx}{f:Fx}{A:Around}{m:M}{st:List AO}{E:Value->Shared->Prop}{D:Dt}{σ:List Addr}{s s':Shared}
theorem Z7(g:Gl): ∃o,g.B.get? sysModules=some o:=by
 refine ao ((g.hT.seer (by rfl)).mods) ?_;rintro mm ⟨o,es,ep,h,_⟩ _
 exact⟨o,h⟩
theorem lB(R:aP g K D σ st s){a:Addr}(h:a∈σ):(a==sysModules)=false:=by
 refine aj (Z7 g) λo ho=> ?_
 refine beq_false_of_ne λe=> ?_
 have :=(R.sd a h).1
 rw[e,R.d0 _ _ (R.b0 _ _ ho)] at this
 cases this
theorem lb{P:Params}{its:Array Value}(h:aM P D σ [] its.toList):its= #[]:=Array.toList_eq_nil_iff.mp h.dp
theorem yG{k:Nat}(hA:bI k A){x:V}{xs:List V}{Q:V->List AO->Prop}(h:items st x=some xs)(hQ:Q (.bool xs.isEmpty) st):W2 g K f A (compareOp .Eq) x (.lst []) (VR g.w.params) m st Q E:=by
 intro D σ s Q' v u R hv hu kk
 refine cD R.r h hv λa its n e h1 h2=>e▸hu.cA λb UI n' e h3 h4=>e▸ ?_
 have hu:A.units<cLine:=by have :=hA.M4;exact QT this
 have l2:s.heap.IsList b #[]:=lb h4▸bh (R.r.dh _ _ h3)
 have Py:=kk (.bool xs.isEmpty) st D σ (.bool xs.isEmpty) s Le.refl R rfl hQ
 cases xs with
 | nil=>exact SeqAt.eq_listAt (lb h2▸bh h1) l2 rfl hu (e:=λ_=>true) (λj h1 _=>absurd h1 (Nat.not_lt_zero _)) Py
 | cons y ys=>exact SeqAt.eq_list_lengthsAt (bh h1) l2 (by rw[aM.size h2];rfl) hu Py
theorem zb{k:Nat}(hA:bI k A){x:V}{xs:List V}{Q:V->List AO->Prop}(h:items st x=some xs)(hQ:Q (.bool (!xs.isEmpty)) st):W2 g K f A (compareOp .NotEq) x (.lst []) (VR g.w.params) m st Q E:=by
 intro D σ s Q' v u R hv hu kk
 refine cD R.r h hv λa its n e h1 h2=>e▸hu.cA λb UI n' e h3 h4=>e▸ ?_
 have hu:A.units<cLine:=by have :=hA.M4;exact QT this
 have l2:s.heap.IsList b #[]:=lb h4▸bh (R.r.dh _ _ h3)
 have Py:=kk (.bool (!xs.isEmpty)) st D σ (.bool (!xs.isEmpty)) s Le.refl R rfl hQ
 cases xs with
 | nil=>exact SeqAt.RcNeAt.lists (lb h2▸bh h1) l2 rfl hu (e:=λ_=>true) (λj h1 _=>absurd h1 (Nat.not_lt_zero _)) _ _ _ _ Py
 | cons y ys=>exact SeqAt.RcNeAt.lists_lengths (bh h1) l2 (by rw[aM.size h2];rfl) hu _ _ _ _ Py
theorem F9{x:V}{c:Bool}{v:Value}(hx:Pu x=some c)(h:VR g.w.params D σ x v):(v== .none)=c:=by
 cases x with
 | none=>cases hx;cases h;rfl
 | tup xs=>cases hx;exact h.fK λa its n e _ _=>e▸rfl
 | int i=>cases hx;exact aj h λt e=>e▸rfl
 | _=>exact aY hx
theorem dictAt(R:aP g K D σ st s){n:Nat}{fs:List (Str×V)}{a:Addr}(hs:st[n]? =some (.aF fs))(h1:σ[n]? =some a): ∃bS,s.heap.DictOf (SK g) a bS/\bS.map (·.1)=fs.map (·.1)/\aM g.w.params D σ (fs.map (·.2)) (bS.map (·.2))/\(fs.map (·.1)).Nodup:=by
 refine cj (R.so n _ hs) λd ob q1 q2 q3=> ?_
 rw[h1] at q1;cases q1
 refine cj q3 λes e eo h3 h4=>eI (Fh h4 h3 (eo▸q2)) λbS r1 r2 r3=> ?_
 exact⟨bS,r1,r2,r3,h3⟩
theorem gi(R:aP g K D σ st s){n:Nat}{fs:List (Str×V)}{a:Addr}{G:Prop}(hs:st[n]? =some (.aF fs))(h1:σ[n]? =some a)(k: ∀bS,s.heap.DictOf (SK g) a bS->bS.map (·.1)=fs.map (·.1)->aM g.w.params D σ (fs.map (·.2)) (bS.map (·.2))->(fs.map (·.1)).Nodup->G):G:=nh (dictAt R hs h1) k
theorem kU{fs:List (Str×V)}{k:Str}:(fs.map (·.1)).contains k=(fs.lookup k).isSome:=by
 induction fs with
 | nil=>rfl
 | cons p fs ih=>
  obtain⟨j,y⟩:=p
  rw[aaq,aa9,aao,ih]
  by_cases e:k=j
  ·subst e;simp
  ·rw[beq_false_of_ne e];simp
def H7(op:CmpOp)(x y:V)(st:List AO)(v:V)(st':List AO):Prop:= ∃b,v= .bool b/\bk op x y st=some (.ok b,st')
theorem BC{bS:List (Str×Value)}{fs:List (Str×V)}{key:Str}(q2:bS.map (·.1)=fs.map (·.1))(q3:aM g.w.params D σ (fs.map (·.2)) (bS.map (·.2))):(acH bS key).isSome=(fs.map (·.1)).contains key:=by
 rw[kU]
 refine aO (eS (k:=key) q2 q3) λz1 z2=> ?_
 cases q:fs.lookup key with
 | none=>rw[z2 q];rfl
 | some x=>exact ao (z1 x q) λv hv _=>hv▸rfl
abbrev InB(x y:V)(st:List AO)(f:Bool->Bool)(v:V)(st':List AO):Prop:= ∃b,v= .bool (f b)/\uN x y st=some (.ok b,st')
theorem I5{x y:V}(aa:uN x y st≠none){G:Prop}(h1: ∀ys b,bB st y=some ys->among st x ys=some b->uN x y st=some (.ok b,st)->G)
  (h2: ∀key n fs,x= .str key->y= .loc n->st[n]? =some (.aF fs)->uN x y st=some (.ok ((fs.map (·.1)).contains key),st)->G):G:=by
 generalize hr:uN x y st=r at aa h1 h2
 refine br hr (λys hy hr=> ?_) λ_ hr=> ?_
 ·exact aR hr aa λ_ hr=>aB hr aa λb hb hr=>h1 ys b hy hb hr.symm
 ·exact aB hr aa λk hk hr=>aB hr aa λn hn hr=>aB hr aa λfs hf hr=>h2 k n fs (fp hk) (j7 hn) (cY hf) hr.symm
theorem Lk{k:Nat}(hA:bI k A)(x y:V)(aa:uN x y st≠none):W2 g K f A (compareOp .In) x y (VR g.w.params) m st (InB x y st id) E:=by
 refine I5 aa (λys b hy hb hr=>Pq hA hy hb ⟨b,rfl,hr⟩) λkey n fs ex ey hs hr=> ?_
 subst ex ey
 intro D σ s Q' v u R hv hu kk
 refine aj hv λt e=>e▸ao hu λa e h1=>e▸gi R.r hs h1 λbS q1 q2 q3 q4=> ?_
 refine wpAny_in_of (knd:=SK g) (strKind_is _ _ _ _) (lB R.r (aas h1)) q1.mapOf ?_
 exact BC q2 q3▸kk (.bool _) st D σ _ _ Le.refl (R.tok _) rfl ⟨_,rfl,hr⟩
theorem ze{k:Nat}(hA:bI k A)(x y:V)(aa:uN x y st≠none):W2 g K f A (compareOp .NotIn) x y (VR g.w.params) m st (InB x y st not) E:=by
 refine I5 aa (λys b hy hb hr=>Cq hA hy hb ⟨b,rfl,hr⟩) λkey n fs ex ey hs hr=> ?_
 subst ex ey
 intro D σ s Q' v u R hv hu kk
 refine aj hv λt e=>e▸ao hu λa e h1=>e▸gi R.r hs h1 λbS q1 q2 q3 q4=> ?_
 refine wpAny_notIn_of (knd:=SK g) (strKind_is _ _ _ _) (lB R.r (aas h1)) q1.mapOf ?_
 exact BC q2 q3▸kk (.bool _) st D σ _ _ Le.refl (R.tok _) rfl ⟨_,rfl,hr⟩
theorem BS{y:V}(h:isNil y=true):y= .lst []:=by
 cases y with
 | lst ys=>
  cases ys with
  | nil=>rfl
  | cons _ _=>exact ft h
 | _=>exact ft h
theorem Om{x y:V}{r:RE Bool}(hr:Ol x y st=r)(aa:r≠none){G:Prop}(h1: ∀xs,items st x=some xs->y= .lst []->r=ok xs.isEmpty st->G)(h2: ∀b,tv st x y=some b->r=ok b st->G):G:=
 lN hr (λhn hr=>aB hr aa λxs hx hr=>aR hr aa λ_ hr=>h1 xs hx (BS hn) hr.symm) λ_ hr=>aB hr aa λb hb hr=>h2 b hb hr.symm
theorem Iv{x y:V}{r:RE Bool}(hr:Nj x y st=r)(aa:r≠none){P:V->V->Prop}(hi: ∀i j,r=ok (i==j) st->P (.int i) (.int j))(hs: ∀a b,r=ok (a==b) st->P (.str a) (.str b))
  (h1: ∀xs,items st x=some xs->r=ok xs.isEmpty st->P x (.lst [])) (h2: ∀b,tv st x y=some b->r=ok b st->P x y):P x y:=
 have G (hr:Ol x y st=r):P x y:=Om hr aa (λxs hx e hr=>e▸h1 xs hx hr) h2
 br hr (λj hy hr=>br hr (λi hx hr=>ez hx▸ez hy▸hi i j hr.symm) λ_ hr=>G hr) λ_ hr=>br hr (λb hy hr=>br hr (λa hx hr=>fp hx▸fp hy▸hs a b hr.symm) λ_ hr=>G hr) λ_ hr=>G hr
theorem pK{F:Int->Int->Bool}{x y:V}{r:RE Bool}(hr:BP F x y st=r)(aa:r≠none){P:V->V->Prop}(hi: ∀i j,r=ok (F i j) st->P (.int i) (.int j)):P x y:=
 aB hr aa λi hx hr=>aB hr aa λj hy hr=>ez hx▸ez hy▸hi i j hr.symm
theorem DR{y:V}(h:vNo y=true):y= .none:=by
 cases y with
 | none=>rfl
 | _=>exact ft h
theorem xo{r:RE Bool}(h:jS r≠none):r≠none:=λe=>h (congrArg jS e)
theorem wm{k:Nat}(hA:bI k A)(op:CmpOp)(x y:V)(aa:bk op x y st≠none):W2 g K f A (compareOp op) x y (VR g.w.params) m st (H7 op x y st) E:=by
 cases op with
 | Eq=>
  unfold H7
  generalize hr:bk .Eq x y st=r at aa
  exact Iv (P:=λx y=>W2 g K f A (compareOp .Eq) x y (VR g.w.params) m st (λv st'=> ∃b,v= .bool b/\r=some (.ok b,st')) E) hr aa (λ_ _ h=>JR ⟨_,rfl,h⟩) (λ_ _ h=>JS ⟨_,rfl,h⟩) (λ_ hx h=>yG hA hx ⟨_,rfl,h⟩) λ_ hb h=>M7 hA hb ⟨_,rfl,h⟩
 | NotEq=>
  unfold H7
  have aa:Nj x y st≠none:=xo aa
  show W2 g K f A (compareOp .NotEq) x y (VR g.w.params) m st (λv st'=> ∃b,v= .bool b/\jS (Nj x y st)=some (.ok b,st')) E
  generalize hr:Nj x y st=r at aa
  exact Iv (P:=λx y=>W2 g K f A (compareOp .NotEq) x y (VR g.w.params) m st (λv st'=> ∃b,v= .bool b/\jS r=some (.ok b,st')) E) hr aa (λ_ _ h=>JZ ⟨_,rfl,congrArg jS h⟩) (λ_ _ h=>J0 ⟨_,rfl,congrArg jS h⟩) (λ_ hx h=>zb hA hx ⟨_,rfl,congrArg jS h⟩) λ_ hb h=>M8 hA hb ⟨_,rfl,congrArg jS h⟩
 | Lt=>
  unfold H7
  generalize hr:bk .Lt x y st=r at aa
  exact pK (P:=λx y=>W2 g K f A (compareOp .Lt) x y (VR g.w.params) m st (λv st'=> ∃b,v= .bool b/\r=some (.ok b,st')) E) hr aa λ_ _ h=>JW ⟨_,rfl,h⟩
 | LtE=>
  unfold H7
  generalize hr:bk .LtE x y st=r at aa
  exact pK (P:=λx y=>W2 g K f A (compareOp .LtE) x y (VR g.w.params) m st (λv st'=> ∃b,v= .bool b/\r=some (.ok b,st')) E) hr aa λ_ _ h=>JV ⟨_,rfl,h⟩
 | Gt=>
  unfold H7
  generalize hr:bk .Gt x y st=r at aa
  exact pK (P:=λx y=>W2 g K f A (compareOp .Gt) x y (VR g.w.params) m st (λv st'=> ∃b,v= .bool b/\r=some (.ok b,st')) E) hr aa λ_ _ h=>JU ⟨_,rfl,h⟩
 | GtE=>
  unfold H7
  generalize hr:bk .GtE x y st=r at aa
  exact pK (P:=λx y=>W2 g K f A (compareOp .GtE) x y (VR g.w.params) m st (λv st'=> ∃b,v= .bool b/\r=some (.ok b,st')) E) hr aa λ_ _ h=>JT ⟨_,rfl,h⟩
 | Is=>
  unfold H7
  generalize hr:bk .Is x y st=r at aa
  refine aB hr aa λb hb hr=>lN hr (λhy hr=>DR hy▸λD σ s Q' v u R hv hu kk=> ?_) λ_ h=>absurd h.symm aa
  cases hu
  exact PySem.is_none (F9 hb hv▸kk (.bool b) st D σ _ s Le.refl R rfl ⟨_,rfl,hr.symm⟩)
 | IsNot=>exact absurd rfl aa
 | In=>exact Lk hA x y aa
 | NotIn=>
  intro D σ s Q' v u R hv hu kk
  exact ze hA x y (xo aa) D σ s Q' v u R hv hu λa st' D' σ' b s' L R' r q=>kk a st' D' σ' b s' L R' r (ao q λb0 e hb=>⟨!b0,e,congrArg jS hb⟩)
end
end Mine
namespace Mine
section
variable{g:Gl}{K:Kx}{f:Fx}{A:Around}{m:M}{st:List AO}{E:Value->Shared->Prop}{D:Dt}{σ:List Addr}{s s':Shared}
theorem De{i j:Int}{n:Nat}(h1:(if i<0 then i+n else i)=j)(h2:0<=j)(h3:j<n):seqIndex? i n=some j.toNat:=by
 subst h1
 exact if_pos (aap.mpr ⟨decide_eq_true h2,decide_eq_true h3⟩)
theorem xK{i:Int}{n:Nat}(h:0<=i/\i<n):seqIndex? i n=some i.toNat:=De (if_neg (Int.not_lt.mpr h.1)) h.1 h.2
theorem Hs{i:Int}{n:Nat}(h:i<0/\ -(n:Int)<=i):seqIndex? i n=some (i+n).toNat:=De (if_pos h.1) (ZF h) (ZG h)
theorem MO{sx:Str}{i:Int}{c:Nat}(hc:sx.cps[i.toNat]? =some c):i<sx.length:=by
 have dc:i.toNat<sx.length:=(aa0.mp hc).1
 exact SA dc
theorem Ck{i:Int}{n j:Nat}(h:pW i n=some j){G:Prop}(h1:0<=i/\i<n->i.toNat=j->G)(h2:i<0/\ -(n:Int)<=i->(i+n).toNat=j->G):G:=
 bO h (λhc h=>h1 hc (aaj h)) λ_ h=>aR h aN λhc h=>h2 hc (aaj h)
theorem pz{a:Addr}{its:Array Value}{i:Int}{t:Tok}{j:Nat}{n:Nat}{v:Value}{Q:Value->Shared->Prop}(h1:s.heap.get? a=some {cls:= .type "tuple",data:= .seq its n})(hj:pW i its.size=some j)(hv:its[j]? =some v)(hz:its.size<=100000)(h:Q v s):
  wpAny (model cS g.w) A (getItem (.ref a) (.int i t)) Q E s:=
 Ck hj (λhh e=>getItem_tuple ⟨_,h1,rfl,n,rfl⟩ (by omega) (by omega) (e▸xK hh) hv h) λhh e=>getItem_tuple ⟨_,h1,rfl,n,rfl⟩ (by omega) (by omega) (e▸Hs hh) hv h
theorem pv{a:Addr}{its:Array Value}{i:Int}{t:Tok}{j:Nat}{n:Nat}{v:Value}{Q:Value->Shared->Prop}(h1:s.heap.get? a=some (listOf its n))(hj:pW i its.size=some j)(hv:its[j]? =some v)(hz:its.size<=100000)(h:Q v s):
  wpAny (model cS g.w) A (getItem (.ref a) (.int i t)) Q E s:=
 Ck hj (λhh e=>wpAny_getItem_list (bh h1) hh.1 (by omega) (e▸hv) h) λhh e=>wpAny_getItem_list_neg (bh h1) hh.1 hh.2 (by omega) (e▸hv) h
abbrev JO(i:Expr):Prop:= ∀o k,subscripted i false o k=operate [o,k] (getItem o k)
theorem HB{e ie:Expr}{sx:Str}{i:Int}{c:Nat}{r:RE V}(hs:JO ie)(hh:0<=i/\i<=100000)(hc:sx.cps[i.toNat]? =some c)(hr:ok (.str ⟨#[c]⟩) st=r):W2 g K f A (subscriptTail e ie) (.str sx) (.int i) (VR g.w.params) m st (cR r) E:=
 λD σ s Q' v u R hv hu kk=>aj hv λt e=>e▸aj hu λt' e=>e▸
  tail_any (typeIs_str s sx t) F.slot_str_getitem.lookup (PyProof.Rows.getItem_str (c:=c) (by simp;exact ZH hh) (by rw[xK ⟨hh.1,MO hc⟩];exact hc) (kk (.str ⟨#[c]⟩) st D σ _ _ Le.refl (R.tok _) ⟨_,rfl⟩ hr.symm)) (hs _ _)
theorem HD{e ie:Expr}{x:V}{xs:List V}{i:Int}{j:Nat}{w:V}{r:RE V}(hs:JO ie)(hx:bB st x=some xs)(hz:xs.length<=100000)(hj:pW i xs.length=some j)(hw:xs[j]? =some w)(hr:ok w st=r):W2 g K f A (subscriptTail e ie) x (.int i) (VR g.w.params) m st (cR r) E:=by
 intro D σ s Q' v u R hv hu kk
 refine aj hu λt' e=>e▸ ?_
 rcases kr hx with e | hx
 ·exact(e▸hv:VR g.w.params D σ (.tup xs) v).fK λa its n e h1 h2=>e▸aM.rh h2 hw λw' w1 w2=>
   have pH:=aM.size h2
   have ht:IsTup s.heap a its:=⟨_,R.r.dh _ _ h1,rfl,n,rfl⟩
   tail_any ht.typeIs slot_tuple_getitem.lookup (pz (R.r.dh _ _ h1) (pH▸hj) (abc▸w1) (pH▸hz) (kk w st D σ w' s Le.refl R w2 hr.symm)) (hs _ _)
 ·exact cD R.r hx hv λa its n e h1 h2=>e▸aM.rh h2 hw λw' w1 w2=>
   have pH:=aM.size h2
   tail_any (bh h1).typeIs slot_list_getitem.lookup (pv h1 (pH▸hj) (abc▸w1) (pH▸hz) (kk w st D σ w' s Le.refl R w2 hr.symm)) (hs _ _)
theorem Dn{e ie:Expr}{n:Nat}{fs:List (Str×V)}{key:Str}{w:V}{r:RE V}(hs:JO ie)(uG:st[n]? =some (.aF fs))(hw:fs.lookup key=some w)(hr:ok w st=r):W2 g K f A (subscriptTail e ie) (.loc n) (.str key) (VR g.w.params) m st (cR r) E:=
 λD σ s Q' v u R hv hu kk=>aj hu λt' e=>e▸ao hv λa e h1=>e▸gi R.r uG h1 λbS q1 q2 q3 q4=>ao ((eS (k:=key) q2 q3).1 w hw) λw' w1 w2=>
  tail_any q1.typeIs F.slot_dict_getitem.lookup (wpAny_getItem_of (knd:=SK g) (strKind_is _ _ _ _) q1.mapOf w1 (kk w st D σ w' _ Le.refl (R.tok _) w2 hr.symm)) (hs _ _)
theorem HA{e i:Expr}(x y:V)(hs: ∀o k,subscripted i false o k=operate [o,k] (getItem o k))(aa:eQ x y st≠none):W2 g K f A (subscriptTail e i) x y (VR g.w.params) m st (cR (eQ x y st)) E:=by
 generalize hr:eQ x y st=r at aa
 exact br hr (λi hy hr=>ez hy▸br hr (λsx hx hr=>fp hx▸aR hr aa λhh hr=>aB hr aa λc hc hr=>HB hs hh hc hr)
   λ_ hr=>aB hr aa λxs hx hr=>aR hr aa λhz hr=>aB hr aa λj hj hr=>aB hr aa λw hw hr=>HD hs hx hz hj hw hr)
  λ_ hr=>aB hr aa λk hk hr=>fp hk▸aB hr aa λn hn hr=>j7 hn▸aB hr aa λfs hf hr=>aB hr aa λw hw hr=>Dn hs (cY hf) hw hr
end
end Mine
namespace Mine
section
variable{g:Gl}{K:Kx}{f:Fx}{A:Around}{m:M}{st:List AO}{E:Value->Shared->Prop}{D:Dt}{σ:List Addr}{s s':Shared}
def Ek(g:Gl)(K:Kx)(f:Fx)(A:Around)(t:Value->Value->Sem Value)(x:V)(a b:Option Int)(m:M)(st:List AO)(Q:V->List AO->Prop)(E:Value->Shared->Prop):Prop:=
 ∀D σ s (Q':Value->Shared->Prop) v vl vu,Rel g K f D σ m st s->VR g.w.params D σ x v->mA D σ a vl->mA D σ b vu->
  (∀a st' D' σ' b s',Le D σ D' σ'->Rel g K f D' σ' m st' s'->VR g.w.params D' σ' a b->Q a st'->Q' b s')->
  wpAny (model cS g.w) A (t v (.ref s.heap.objs.size)) Q' E {s with heap:=s.heap.push {cls:= .type "slice",data:= .fields #[vl,vu,.none]}}
theorem J3{e:Expr}{lo hi:Option Expr}{p pos:Pos}{Q:V->List AO->Prop}
  (h:WE g K f A e m st (λx bK=>WG g K f A (evalPart lo f.env) mA m bK (λa d7=>WG g K f A (evalPart hi f.env) mA m d7 (λb eA=>Ek g K f A (subscriptTail e (.Slice lo hi none p)) x a b m eA Q E) E) E) E):
  WE g K f A (.Subscript e (.Slice lo hi none p) pos) m st Q E:=by
 intro D σ s Q' R k
 refine PyProof.Rows.Subscript_ (h D σ s _ R λa bK D₁ σ₁ v s₁ L₁ R₁ r₁ h₁=> ?_)
 refine wpAny_Slice (h₁ D₁ σ₁ s₁ _ R₁ λa d7 D₂ σ₂ u s₂ L₂ R₂ r₂ h₂=> ?_)
 refine h₂ D₂ σ₂ s₂ _ R₂ λb eA D₃ σ₃ w s₃ L₃ R₃ r₃ h₃=> ?_
 rw[evalPart_none]
 refine wpAny_pure ?_
 refine h₃ D₃ σ₃ s₃ Q' v u w R₃ ((r₁.mono L₂).mono L₃) ?_ r₃ λc MP D₄ σ₄ z s₄ L₄ R₄ r₄ h₄=>k c MP D₄ σ₄ z s₄ (((L₁.trans L₂).trans L₃).trans L₄) R₄ r₄ h₄
 cases a with
 | none=>exact r₂
 | some i=>exact r₂
theorem aM.drop{P:Params}: ∀{xs:List V} {vs:List Value},aM P D σ xs vs-> ∀n,aM P D σ (xs.drop n) (vs.drop n)
 | _,_,h,0=>h
 | [],_,h,n+1=>h.dp▸rfl
 | x::xs,_,h,n+1=>h.aW λ_ _ e _ h2=>e▸aM.drop h2 n
theorem aM.take{P:Params}: ∀{xs:List V} {vs:List Value},aM P D σ xs vs-> ∀n,aM P D σ (xs.take n) (vs.take n)
 | _,_,_,0=>rfl
 | [],_,h,n+1=>h.dp▸rfl
 | x::xs,_,h,n+1=>h.aW λ_ _ e h1 h2=>e▸ .cx h1 (aM.take h2 n)
theorem xD{a:Option Int}{v:Value}(h:mA D σ a v):IsPart v a:=by
 cases a with
 | none=>cases h;exact .none
 | some i=>exact aj h λt e=>e▸ .int i t
theorem AN{e:Expr}{lo hi:Option Expr}{p:Pos}{mu:Bool}{x:V}{xs ys:List V}{a b:Option Int}{r:RE V}(hx:items st x=some xs)(hz:xs.length<=100000)
  (O8: ∀(D:Dt) (σ:List Addr) (its:Array Value),aM g.w.params D σ xs its.toList->aM g.w.params D σ ys (slicePick its a b none).toList) (hm:mk mu ys st≠none):
  Ek g K f A (subscriptTail e (.Slice lo hi none p)) x a b m st (cR (mk mu ys st)) E:=by
 intro D σ s Q' v vl vu R hv hl hu kk
 refine cD R.r hx hv ?_;rintro l its n rfl h1 h2
 have pH:=aM.size h2
 have O1:s.heap.IsList l its:=bh h1
 have pl:=xD hl
 have pu:=xD hu
 let s1:Shared:={s with heap:=s.heap.push {cls:= .type "slice",data:= .fields #[vl,vu,.none]}}
 have R1:Rel g K f D σ m st s1:=R.keep cv
 have ht:s1.TypeIs (.ref l) "list":=(O1.push _).typeIs
 refine tail_any ht slot_list_getitem.lookup (wpAny_getItem_list_slice (O1.push _) (Heap.IsSliceOf.new ..) pl pu .none (by simp) ?_ (by rw[pH,sizeLine_eq];exact nB hz)) rfl
 exact made (s:=s1) (n:=0) (its:=slicePick its a b none) R1 cv au (aaO _ rfl) (O8 D σ its h2) hm (λv st' q=>q) kk
abbrev NN(g:Gl)(K:Kx)(f:Fx)(A:Around)(e:Expr)(lo hi:Option Expr)(p:Pos)(x:V)(a b:Option Int)(m:M)(st:List AO)(r:RE V)(E:Value->Shared->Prop):Prop:=Ek g K f A (subscriptTail e (.Slice lo hi none p)) x a b m st (cR r) E
theorem cut_str{e:Expr}{lo hi:Option Expr}{p:Pos}{sx:Str}{l:Int}{r:RE V}(hz:sx.length<=100000)(hr:ok (.str (Txt.slice sx (some l) none)) st=r):NN g K f A e lo hi p (.str sx) (some l) none m st r E:=by
 intro D σ s Q' v vl vu R hv h1 h2 kk
 cases h2
 refine aj hv λt e=>e▸aj h1 λt' e=>e▸ ?_
 obtain⟨T,id,q1,q2,q3⟩:=(SBH.sliceItem_sn (P:=λh=> ∀b o,s.heap.get? b=some o->h.get? b=some o) (λh ob hk b o hb=>aaE _ (hk b o hb)) (λ_ _ h=>h)
  (λh' t' k hP=>kk (.str _) st D σ _ _ Le.refl (R.keep (s':={s with heap:=h',toks:=k}) ⟨hP,rfl,rfl⟩) ⟨_,rfl⟩ hr.symm) (by rw[sizeLine_eq];exact nB hz):ItemOn (model cS g.w) A E _ _ Q' _)
 exact tail_any q2 q1 q3 rfl
theorem wt{e:Expr}{lo hi:Option Expr}{p:Pos}{mu:Bool}{x:V}{F:List V->List V}{a b:Option Int}{r:RE V}(hr:AL mu x F st=r)(aa:r≠none)
  (hF: ∀(xs:List V) (D:Dt) (σ:List Addr) (its:Array Value),aM g.w.params D σ xs its.toList->aM g.w.params D σ (F xs) (slicePick its a b none).toList):NN g K f A e lo hi p x a b m st r E:=
 aB hr aa λxs hx hr=>aR hr aa λhz hr=>hr▸AN (r:=none) hx hz (hF xs) (hr▸aa)
theorem Fd{e:Expr}{lo hi:Option Expr}{p:Pos}(mu:Bool)(x:V)(a b:Option Int)(aa:kW mu x a b st≠none):Ek g K f A (subscriptTail e (.Slice lo hi none p)) x a b m st (cR (kW mu x a b st)) E:=by
 generalize hr:kW mu x a b st=r at aa
 refine br hr (λl ha hr=>br hr (λ_ _ h=>absurd h.symm aa) λhb hr=>ha▸hb▸aR hr aa λhl hr=>br hr (λsx hx hr=>fp hx▸aR hr aa λhz hr=>cut_str hz hr) λ_ hr=>wt hr aa λxs D σ its h=> ?_) λha hr=>ha▸aB hr aa λh hb hr=>hb▸aR hr aa λhl hr=>wt hr aa λxs D σ its h'=> ?_
 ·have e1:l=((l.toNat:Nat):Int):=by exact QU hl
  rw[e1,slicePick_from' its l.toNat]
  exact h.drop _
 ·have e1:h=((h.toNat:Nat):Int):=by exact QU hl
  rw[e1,slicePick_upto' its h.toNat]
  exact h'.take _
end
end Mine
namespace Mine
section
variable{g:Gl}{K:Kx}{f:Fx}{A:Around}{m:M}{st:List AO}{E:Value->Shared->Prop}{D:Dt}{σ:List Addr}{s s':Shared}
theorem vo{l:Addr}{its:Array Value}{n:Nat}{k:Int}{t:Tok}{v:Value}{Q:Unit->Shared->Prop}(h1:s.heap.get? l=some (listOf its n))(hk:aa5 k=true)(h0:0<=k)(dc:k.toNat<its.size)
  (hQ:Q () {s with heap:=s.heap.update l (ab2 (·.setIfInBounds k.toNat v))}):wpAny (model cS g.w) A (setItem (.ref l) (.int k t) v) Q E s:=by
 have hl:s.heap.IsList l its:=bh h1
 unfold setItem
 try with_reducible refine wpAny_holding ?_
 first | refine wpAny_bind (wpAny_pure ?_) | skip
 refine wpAny_bind (wpAny_sequenceKey hl.typeIs (by decide) ?_)
 refine wpAny_bind (wpAny_callSpecial?_slot (name:=aab "__setitem__") hl.typeIs F.slot_list_setitem
  (wpAny_call_entry F.slot_list_setitem hl.typeIs F.entry_list_setitem ?_ (F.args_list_setitem_3 _ _ _)))
 show wpAny _ _ (Builtin.List.listSubscript? (.int k t)>>=_) _ _ s
 refine wpAny_bind (wpAny_listSubscript_int hk ?_)
 clear hk
 refine aj (Int.eq_ofNat_of_zero_le h0) ?_;rintro j rfl
 have dc:j<its.size:=by simpa using dc
 have Ux:its[j]? =some its[j]:=Array.getElem?_eq_getElem dc
 show wpAny _ _ ((seqItemAt l j>>=λr=>pure (r.map (j,·)))>>=_) _ _ s
 refine wpAny_bind (wpAny_bind (wpAny_seqItemAt h1 rfl (wpAny_pure ?_)))
 rw[Ux]
 show wpAny _ _ (setSeqItemAt l j v>>=_) _ _ s
 refine wpAny_bind (wpAny_setSeqItemAt h1 rfl ?_)
 first
  | exact wpAny_bind (wpAny_pure (wpAny_pure ⟨.none,rfl,wpAny_pure hQ⟩))
  | exact wpAny_pure ⟨.none,rfl,wpAny_pure hQ⟩
theorem aM.set{P:Params}: ∀{xs:List V} {vs:List Value},aM P D σ xs vs-> ∀{i:Nat} {y:V} {v:Value},VR P D σ y v->aM P D σ (xs.set i y) (vs.set i v)
 | [],_,h,_,_,_,_=>h.dp▸rfl
 | x::xs,_,h,0,y,v,hv=>h.aW λ_ _ e h1 h2=>e▸ .cx hv h2
 | x::xs,_,h,i+1,y,v,hv=>h.aW λ_ _ e h1 h2=>e▸ .cx h1 (aM.set h2 hv)
theorem uB{i:Int}{n:Nat}(h:n<=100000/\0<=i/\i<n):aa5 i=true:=by
 have a1:(-(2^63):Int)<=i:=by omega
 have a2:i<(2^63:Int):=by omega
 unfold aa5
 exact aap.mpr ⟨decide_eq_true a1,decide_eq_true a2⟩
theorem Hw{n:Nat}{xs:List V}{i:Int}{v:V}{Q:Unit->List AO->Prop}(Pl:st[n]? =some (.lst xs))(hh:xs.length<=100000/\0<=i/\i<xs.length)(hQ:Q () (st.set n (.lst (xs.set i.toNat v)))):
  W3 g K f A (λov iv v=>setItem ov iv v) (.loc n) (.int i) v (λ_ _ (_ _:Unit)=>True) m st Q E:=
 λD σ s Q' ov iv vv R ho hi hv kk=>ao ho λa e h1=>e▸aj hi λt e=>e▸cj (R.r.so n _ Pl) λa' ob q1 q2 q3=>cc q3 λits n' eo q3=>
  have q2:=aaj (h1.symm.trans q1)▸eo▸q2
  have pH:=aM.size q3
  vo q2 (uB hh) hh.2.1 (ZI hh pH) (kk () _ D σ () _ Le.refl (R.iP (n:=n) h1 q2 (by rw[Array.toList_setIfInBounds];exact q3.set hv)) trivial hQ)
theorem Hv{n:Nat}{fs:List (Str×V)}{key:Str}{v:V}{Q:Unit->List AO->Prop}(uG:st[n]? =some (.aF fs))(hz:fs.length<=900)(hQ:Q () (st.set n (.aF (putK key v fs)))):
  W3 g K f A (λov iv v=>setItem ov iv v) (.loc n) (.str key) v (λ_ _ (_ _:Unit)=>True) m st Q E:=
 λD σ s Q' ov iv vv R ho hi hv kk=>ao ho λa e h1=>e▸aj hi λt e=>e▸gi R.r uG h1 λbS q1 q2 q3 q4=>
  have hl:bS.length=fs.length:=by have :=congrArg abx q2;simpa using this
  wpAny_setItem_pairs (knd:=SK g) (strKind_is _ _ _ _) q1 (λh' r1 r2=>aO (oy (k:=key) hv q2 q4 q3) λe1 e2=>cj (wx r1 e1 e2) λes n' w1 w2 w3=>
   kk () _ D σ () _ Le.refl (R.upd (n:=n) (a:=a) (x:= .aF (putK key v fs)) h1 ⟨λb o hb kI=>(r2.2 b hb).trans kI,rfl,rfl⟩ w1 ⟨es,n',rfl,w2,w3⟩) trivial hQ) (by rw[sizeLine_eq];exact ZJ hz hl)
theorem Hu(x y v:V){st':List AO}{Q:Unit->List AO->Prop}(h:qt x y v st=some st')(hQ:Q () st'):
  W3 g K f A (λov iv v=>setItem ov iv v) x y v (λ_ _ (_ _:Unit)=>True) m st Q E:=
 aB h aN λn hx h=>j7 hx▸br h
  (λxs hl h=>aB h aN λi hi h=>ez hi▸aR h aN λhh h=>Hw (eN hl) hh (aaj h▸hQ))
  λ_ h=>aB h aN λfs hf h=>aB h aN λk hk h=>fp hk▸aR h aN λhz h=>Hv (cY hf) hz (aaj h▸hQ)
theorem oQ{o i e:Expr}{p pos:Pos}{Q:Fl->M->List AO->Prop}
  (h:WE g K f A e m st (λa bK=>WE g K f A o m bK (λb d7=>WE g K f A i m d7 (λc eA=>W3 g K f A (λov iv v=>setItem ov iv v) b c a (λ_ _ (_ _:Unit)=>True) m eA (λ_ MP=>Q .next m MP) E) E) E) E)
  (hs:swapsWith e (some (.Subscript o i p)) pos.line f.env=pure false:=by rfl):qT g K f A (exec (.Assign [.Subscript o i p] e pos) f.env) m st Q E:=by
 intro D σ s Q' R k
 refine wpAny_Assign_Subscript (h D σ s _ R λa bK D₁ σ₁ v s₁ L₁ R₁ r₁ h₁=> ?_) hs
 refine h₁ D₁ σ₁ s₁ _ R₁ λb d7 D₂ σ₂ u s₂ L₂ R₂ r₂ h₂=> ?_
 refine h₂ D₂ σ₂ s₂ _ R₂ λc eA D₃ σ₃ w s₃ L₃ R₃ r₃ h₃=> ?_
 exact h₃ D₃ σ₃ s₃ _ u w v R₃ (r₂.mono L₃) r₃ (r₁.mono (L₂.trans L₃)) λc MP D₄ σ₄ z s₄ L₄ R₄ r₄ h₄=>k .next m MP D₄ σ₄ _ s₄ (((L₁.trans L₂).trans L₃).trans L₄) R₄ rfl h₄
end
end Mine
namespace Mine
noncomputable def Kx.hide(K:Kx)(I:Addr)(o:Obj):Kx:={K with kept:=(I,o)::K.kept}
theorem Kx.aJ{K:Kx}{I:Addr}{o:Obj}{a:Addr}:a∈(K.hide I o).cm<->a∈K.cm\/a=I:=by
 simp only[Kx.hide,Kx.cm,aaq,aal,aat]
 constructor
 ·rintro (h | h | h)
  ·exact .inl (.inl h)
  ·exact .inr h
  ·exact .inl (.inr h)
 ·rintro ((h | h) | h)
  ·exact .inl h
  ·exact .inr (.inr h)
  ·exact .inr (.inl h)
section
variable{g:Gl}{K:Kx}{f:Fx}{A:Around}{m:M}{st:List AO}{E:Value->Shared->Prop}{D:Dt}{σ:List Addr}{s s':Shared}
theorem cT.hide{mm:Str->Option Value}{h:Heap}{x:Str}{v:V}{I:Addr}{o:Obj}(S:cT g K f D σ mm h x v):cT g (K.hide I o) f D σ mm h x v:=
 ao S λv' h1 h2=>⟨v',h1,h2.imp id λq=>q.imp id λq=>⟨q.1,cj q.2 λc o' h3 h4 h5=>⟨c,o',h3,aai _ h4,h5⟩⟩⟩
theorem cT.bU{mm:Str->Option Value}{h:Heap}{x:Str}{v:V}{I:Addr}{o:Obj}(hI: ∀v,o.data≠ .cell v)(S:cT g (K.hide I o) f D σ mm h x v):cT g K f D σ mm h x v:=
 ao S λv' h1 h2=>⟨v',h1,h2.imp id λq=>q.imp id λq=>⟨q.1,cj q.2 λc o' h3 h4 h5=>⟨c,o',h3,(aat.mp h4).elim (λe=>absurd ((congrArg (λp:Addr×Obj=>p.2.data) e).symm.trans h5) (hI _)) id,h5⟩⟩⟩
theorem Rel.hide(R:Rel g K f D σ m st s)(k:Keeps s s'){I:Addr}{o:Obj}(hn:s.heap.get? I=none)(ha:s'.heap.get? I=some o):Rel g (K.hide I o) f D σ m st s':=by
 refine jj (R.none_of hn) λh1 h2 h3 h4=> ?_
 have R':=R.keep k
 refine⟨⟨R'.r.b0,R'.r.d0,R'.r.s0,R'.r.dh,R'.r.kf,λp hp=> ?_,λa yM=> ?_,R'.r.so,λa yM=>⟨(R'.r.sd a yM).1,λhm=> ?_⟩,R'.r.sl,R'.r.nd,R'.r.gens,R'.r.os⟩,λa yM=>⟨(R'.fd a yM).1,λhm=> ?_,(R'.fd a yM).2.2⟩,R'.fn,?_,R'.oc⟩
 ·rcases aat.mp hp with rfl | hp
  ·exact ha
  ·exact R'.r.kp p hp
 ·rcases Kx.aJ.mp yM with hm | rfl
  ·exact R'.r.kd a hm
  ·exact h1
 ·rcases Kx.aJ.mp hm with hm | rfl
  ·exact(R'.r.sd a yM).2 hm
  ·exact h3 yM
 ·rcases Kx.aJ.mp hm with hm | rfl
  ·exact(R'.fd a yM).2.1 hm
  ·exact h4 yM
 ·refine ao R'.fr λmm q1 q2=> ?_
  exact⟨mm,q1,λx v hv=>(q2 x v hv).hide⟩
theorem Rel.mv{I:Addr}(R:Rel g K f D σ m st s)(hD:D I=none)(hK:I∉K.cm)(hσ:I∉σ)(hf:I∉f.fa)(k:vM I s s'):Rel g K f D σ m st s':=
 have q:=R.IM hf k
 ⟨R.r.mv hD hK hσ k,R.fd,R.fn,q.1,q.2⟩
structure Hid(K:Kx)(f:Fx)(I:Addr)(o:Obj):Prop where
 k:I∉K.cm
 f:I∉f.fa
 c: ∀v,o.data≠ .cell v
theorem aP.bU{I:Addr}{o:Obj}(R:aP g (K.hide I o) D σ st s):aP g K D σ st s where
 b0:=R.b0
 d0:=R.d0
 s0:=R.s0
 dh:=R.dh
 kf:=R.kf
 kp:=λp hp=>R.kp p (aai _ hp)
 kd:=λa h=>R.kd a (Kx.aJ.mpr (.inl h))
 so:=R.so
 sd:=λa h=>⟨(R.sd a h).1,λq=>(R.sd a h).2 (Kx.aJ.mpr (.inl q))⟩
 sl:=R.sl
 nd:=R.nd
 gens:=R.gens
 os:=R.os
theorem Rel.bU{I:Addr}{o:Obj}(R:Rel g (K.hide I o) f D σ m st s)(H:Hid K f I o):Rel g K f D σ m st s where
 r:=R.r.bU
 fd:=λa h=>⟨(R.fd a h).1,λq=>(R.fd a h).2.1 (Kx.aJ.mpr (.inl q)),(R.fd a h).2.2⟩
 fn:=R.fn
 fr:=let⟨mm,h1,h2⟩:=R.fr;⟨mm,h1,λx v hv=>(h2 x v hv).bU H.c⟩
 oc:=R.oc
theorem Rel.dT{I:Addr}{o:Obj}(R:Rel g (K.hide I o) f D σ m st s):D I=none/\I∉σ:=
 ⟨R.r.kd I (Kx.aJ.mpr (.inr rfl)),λh=>(R.r.sd I h).2 (Kx.aJ.mpr (.inr rfl))⟩
theorem Rel.gm{I:Addr}{o:Obj}(R:Rel g (K.hide I o) f D σ m st s):s.heap.get? I=some o:=R.r.kp (I,o) aak
theorem Rel.ff{I:Addr}{o:Obj}(R:Rel g K f D σ m st s)(hK:I∉K.cm)(hf:I∉f.fa)(hD:D I=none)(hσ:I∉σ)(ha:s.heap.get? I=some o):Rel g (K.hide I o) f D σ m st s where
 r:=⟨R.r.b0,R.r.d0,R.r.s0,R.r.dh,R.r.kf,λp hp=>by
   rcases aat.mp hp with rfl | hp
   ·exact ha
   ·exact R.r.kp p hp,λa h=>by
   rcases Kx.aJ.mp h with h | rfl
   ·exact R.r.kd a h
   ·exact hD,R.r.so,λa h=>⟨(R.r.sd a h).1,λq=>by
   rcases Kx.aJ.mp q with q | rfl
   ·exact(R.r.sd a h).2 q
   ·exact hσ h⟩,R.r.sl,R.r.nd,R.r.gens,R.r.os⟩
 fd:=λa h=>⟨(R.fd a h).1,λq=>by
   rcases Kx.aJ.mp q with q | rfl
   ·exact(R.fd a h).2.1 q
   ·exact hf h,(R.fd a h).2.2⟩
 fn:=R.fn
 fr:=let⟨mm,h1,h2⟩:=R.fr;⟨mm,h1,λx v hv=>(h2 x v hv).hide⟩
 oc:=R.oc
theorem Rel.qo{I:Addr}{o o':Obj}(R:Rel g (K.hide I o) f D σ m st s)(H:Hid K f I o)(k:vM I s s')(ha:s'.heap.get? I=some o'):Rel g (K.hide I o') f D σ m st s':=
 ((R.bU H).mv R.dT.1 H.k R.dT.2 H.f k).ff H.k H.f R.dT.1 R.dT.2 ha
theorem Rel.fresh(R:Rel g K f D σ m st s){I:Addr}{o:Obj}(hn:s.heap.get? I=none)(hc: ∀v,o.data≠ .cell v):Hid K f I o:=
 let h:=R.none_of hn;⟨h.2.1,h.2.2.2,hc⟩
def tX(P:Params)(D:Dt)(σ:List Addr)(src:V)(i:Nat)(o:Obj):Prop:=
 match src with
 | .lst xs=> ∃ax its n,D ax=some (listOf its n)/\aM P D σ xs its.toList/\o.cls= .type "list_iterator"/\o.data= .fields #[.ref ax,.int i 0]
 | .loc j=> ∃ax,σ[j]? =some ax/\o.cls= .type "list_iterator"/\o.data= .fields #[.ref ax,.int i 0]
 | .tup xs=> ∃ax its n,D ax=some {cls:= .type "tuple",data:= .seq its n}/\aM P D σ xs its.toList/\o.cls= .type "tuple_iterator"/\o.data= .fields #[.ref ax,.int i 0]
 | .str x=> ∃t,o.cls= .type "str_ascii_iterator"/\o.data= .fields #[.str x t,.int i 0]
 | .jb a b c=>o={cls:= .type "range_iterator",data:= .fields #[rawInt (a+i* c),rawInt (aaU a b c- i),rawInt c]}
 | _=>False
theorem tX.mono{P:Params}{D':Dt}{σ':List Addr}{src:V}{i:Nat}{o:Obj}(L:Le D σ D' σ')(h:tX P D σ src i o):tX P D' σ' src i o:=by
 cases src with
 | lst xs=>exact rD h λax its n h1 h2 h3=>⟨ax,its,n,L.d _ _ h1,h2.mono L,h3⟩
 | loc j=>exact ao h λax h1 h2=>⟨ax,L.s _ _ h1,h2⟩
 | tup xs=>exact rD h λax its n h1 h2 h3=>⟨ax,its,n,L.d _ _ h1,h2.mono L,h3⟩
 | _=>exact h
theorem iq{o:Obj}{a:Array Value}(h:o.data= .fields a)(v:Option Value):o.data≠ .cell v:=λq=>by cases h.symm.trans q
theorem tX.cell{P:Params}{src:V}{i:Nat}{o:Obj}(h:tX P D σ src i o): ∀v,o.data≠ .cell v:=by
 cases src with
 | lst xs=>exact rF h λax its n h1 h2 h3 h4=>iq h4
 | loc j=>exact eI h λax h1 h2 h4=>iq h4
 | tup xs=>exact rF h λax its n h1 h2 h3 h4=>iq h4
 | str x=>exact ao h λt h1 h4=>iq h4
 | jb a b c=>exact iq (congrArg Obj.data h)
 | _=>exact False.elim h
theorem w9{src:V}{v:Value}(R:Rel g K f D σ m st s)(hv:VR g.w.params D σ src v)(hn:fq st src 0≠none){Q:Value->Shared->Prop}
  (hQ: ∀I o s',Hid K f I o->tX g.w.params D σ src 0 o->Rel g (K.hide I o) f D σ m st s'->Q (.ref I) s'):wpAny (model cS g.w) A (pyIter v) Q E s:=by
 have fin: ∀o:Obj,o.isFreed=false->tX g.w.params D σ src 0 o->Q (.ref s.heap.objs.size) {s with heap:=s.heap.push o}:=λo hf ho=>
  hQ _ o _ (R.fresh au ho.cell) ho (R.hide cv au (aaO _ hf))
 cases src with
 | lst xs=>exact hv.cA λa its n e h1 h2=>e▸wpAny_pyIter_list (bh (R.r.dh _ _ h1)) (fin _ rfl ⟨a,its,n,h1,h2,rfl,rfl⟩)
 | loc j=>exact ao hv λa e h1=>e▸aB rfl hn λxs hs _=>R.r.cA (eN hs) h1 λits n' q2 q3=>wpAny_pyIter_list (bh q2) (fin _ rfl ⟨a,h1,rfl,rfl⟩)
 | tup xs=>exact hv.fK λa its n e h1 h2=>e▸wpAny_pyIter_tuple ⟨_,R.r.dh _ _ h1,rfl,n,rfl⟩ (fin _ rfl ⟨a,its,n,h1,h2,rfl,rfl⟩)
 | str x=>exact aj hv λt e=>e▸aR rfl hn λha _=>wpAny_pyIter_ascii ha (fin _ rfl ⟨t,rfl,rfl⟩)
 | jb a b c=>
  exact yC hv λr t u w e h1=>e▸aR rfl hn λhs _=>wpAny_pyIter_range (R.r.dh _ _ h1) hs (by
   have :=fin {cls:= .type "range_iterator",data:= .fields #[rawInt (a+(0:Nat)* c),rawInt (aaU a b c-(0:Nat)),rawInt c]} rfl rfl
   rw[Int.natCast_zero,Int.zero_mul,Int.add_zero,Int.sub_zero] at this
   exact this)
 | _=>exact absurd rfl hn
theorem Kj{I:Addr}{h':Heap}{t:Nat}(H:Heap.SameBut I s.heap h'):vM I s {s with heap:=h',toks:=t}:=⟨λb o hb kI=>(H.2 b hb).trans kI,rfl,rfl⟩
theorem EZ{I:Addr}{h':Heap}(H:Heap.ExtBut I s.heap h'):vM I s {s with heap:=h'}:=⟨λb o hb kI=>H b o hb kI,rfl,rfl⟩
end
end Mine
namespace Mine
section
variable{g:Gl}{K:Kx}{f:Fx}{A:Around}{m:M}{st:List AO}{E:Value->Shared->Prop}{D:Dt}{σ:List Addr}{s s':Shared}
theorem aM.no{P:Params}{xs:List V}{its:Array Value}{i:Nat}(h:aM P D σ xs its.toList)(hx:xs[i]? =none):its[i]? =none:=by
 rw[Array.getElem?_eq_none_iff,aM.size h];exact List.getElem?_eq_none_iff.mp hx
theorem lz{src:V}{i:Nat}{I:Addr}{o:Obj}{r:Option V}(hh:A.handled=none)(R:Rel g (K.hide I o) f D σ m st s)(H:Hid K f I o)(ho:tX g.w.params D σ src i o)(hn:fq st src i=some r){Q:Option Value->Shared->Prop}
  (h0:r=none-> ∀s',Rel g K f D σ m st s'->Q none s')
  (h1: ∀x,r=some x-> ∀v o' s',Hid K f I o'->tX g.w.params D σ src (i+1) o'->VR g.w.params D σ x v->Rel g (K.hide I o') f D σ m st s'->Q (some v) s'):wpAny (model cS g.w) A (pyNext (.ref I)) Q E s:=by
 have hI:=R.gm
 have R0:=R.bU H
 have Bk: ∀h',Heap.ExtBut I s.heap h'->r=none->Q none {s with heap:=h'}:=λh' hx hr=>h0 hr _ (R0.mv R.dT.1 H.k R.dT.2 H.f (EZ hx))
 have Bl: ∀x h' tk o',r=some x->Heap.SameBut I s.heap h'->h'.get? I=some o'->tX g.w.params D σ src (i+1) o'-> ∀v,VR g.w.params D σ x v->Q (some v) {s with heap:=h',toks:=tk}:=λx h' tk o' hr hx ho' hi v hv=>
  h1 x hr v o' _ ⟨H.k,H.f,hi.cell⟩ hi hv (R.qo H (Kj hx) ho')
 cases src with
 | lst xs=>
  refine rF ho λax its n q1 q2 q3 q4=>aR hn aN λ_ hn=> ?_
  have hn:xs[i]? =r:=aaj hn
  have hit:s.heap.IsListIter I ax i:=⟨o,hI,q3,q4⟩
  have hl:=bh (R.r.dh _ _ q1)
  cases hx:xs[i]? with
  | none=>exact wpAny_pyNext_list_end hh hit hl (aM.no q2 hx) λh' he=>Bk h' he (hn.symm.trans hx)
  | some x=>exact aM.rh q2 hx λv w1 w2=>wpAny_pyNext_list_item hit hl (x:=v) (abc▸w1) λh' hi hs=>eI hi λo' e1 e2 e3=>Bl x h' s.toks o' (hn.symm.trans hx) hs e1 ⟨ax,its,n,q1,q2,e2,e3⟩ v w2
 | loc j=>
  refine eI ho λax q1 q3 q4=>aB hn aN λxs hs hn=>aR hn aN λ_ hn=>R.r.cA (eN hs) q1 λits n' z2 q2=> ?_
  have hn:xs[i]? =r:=aaj hn
  have hit:s.heap.IsListIter I ax i:=⟨o,hI,q3,q4⟩
  have hl:=bh z2
  cases hx:xs[i]? with
  | none=>exact wpAny_pyNext_list_end hh hit hl (aM.no q2 hx) λh' he=>Bk h' he (hn.symm.trans hx)
  | some x=>exact aM.rh q2 hx λv w1 w2=>wpAny_pyNext_list_item hit hl (x:=v) (abc▸w1) λh' hi hs=>eI hi λo' e1 e2 e3=>Bl x h' s.toks o' (hn.symm.trans hx) hs e1 ⟨ax,q1,e2,e3⟩ v w2
 | tup xs=>
  refine rF ho λax its n q1 q2 q3 q4=>aR hn aN λ_ hn=> ?_
  have hn:xs[i]? =r:=aaj hn
  have hit:s.heap.IsTupleIter I ax i:=⟨o,hI,q3,q4⟩
  have hl:s.heap.IsTuple ax its:=⟨_,R.r.dh _ _ q1,rfl,n,rfl⟩
  cases hx:xs[i]? with
  | none=>exact wpAny_pyNext_tuple_end hh hit hl (aM.no q2 hx) λh' he=>Bk h' he (hn.symm.trans hx)
  | some x=>exact aM.rh q2 hx λv w1 w2=>wpAny_pyNext_tuple_item hit hl (x:=v) (abc▸w1) λh' hi hs=>eI hi λo' e1 e2 e3=>Bl x h' s.toks o' (hn.symm.trans hx) hs e1 ⟨ax,its,n,q1,q2,e2,e3⟩ v w2
 | str x=>
  refine ao ho λt q3 q4=>aR hn aN λ_ hn=> ?_
  have hn:(x.cps[i]?).map (λc=>V.str ⟨#[c]⟩)=r:=aaj hn
  have hit:s.heap.IsStrIter I "str_ascii_iterator" x t i:=⟨o,hI,q3,q4⟩
  cases hx:x.cps[i]? with
  | none=>exact wpAny_pyNext_ascii_end hh hit hx λh' he=>Bk h' he (hn.symm.trans (congrArg _ hx))
  | some c=>exact wpAny_pyNext_ascii_item hit hx λh' hi hs=>eI hi λo' e1 e2 e3=>Bl (.str ⟨#[c]⟩) h' (s.toks+1) o' (hn.symm.trans (congrArg _ hx)) hs e1 ⟨t,e2,e3⟩ _ ⟨_,rfl⟩
 | jb a b c=>
  have ho:o={cls:= .type "range_iterator",data:= .fields #[rawInt (a+i* c),rawInt (aaU a b c- i),rawInt c]}:=ho
  subst ho
  refine aR hn aN λ_ hn=>bO (aaj hn) (λdc hn=> ?_) λdc hn=>wpAny_pyNext_range_end hh (x:=a+i* c) (left:=aaU a b c- i) (step:=c) hI (YO dc) λh' he=>Bk h' he hn.symm
  refine wpAny_pyNext_range_item (x:=a+i* c) (left:=aaU a b c- i) (step:=c) hI (YQ dc) λh' hi hs=> ?_
  have e1:a+(i:Int)* c+c=a+((i+1:Nat):Int)* c:=by rw[Int.natCast_add,Int.add_mul];omega
  have e2:aaU a b c-(i:Int)- 1=aaU a b c-((i+1:Nat):Int):=by exact YR
  exact Bl (.int (a+i* c)) h' (s.toks+1) _ hn.symm hs hi (by rw[e1,e2];rfl) _ ⟨_,rfl⟩
 | _=>exact False.elim ho
end
end Mine
section
open PySem.AutoSeq1 (wpAny_loadPart')
namespace Mine
section
variable{g:Gl}{K:Kx}{f:Fx}{A:Around}{m:M}{st:List AO}{E:Value->Shared->Prop}{D:Dt}{σ:List Addr}{s s':Shared}
theorem zo(l:Addr)(its:Array Value)(n:Nat)(x:Value)(e:Value->Bool)(j:Nat)(hj:j<its.size)(hit:e its[j]=true)(pG:its.size<=sizeLine)(k:Nat):
  ∀i:Nat,j- i=k->i<=j->(∀q (hm:q<its.size),i<=q->q<j->e its[q]=false)->Meets (Builtin.«list.remove.loop» ⟨[.ref l,x,rawInt i],[]⟩)
   (λA R s=>s.heap.get? l=some {cls:= .type "list",dict:=none,data:= .seq its n,slots:= #[]}/\(∀y,y∈its->SeqAt.EqAt A.in1 s y x (e y))/\R (.ok (.ret .none)) {s with heap:=s.heap.update l (ab2 λxs=>xs.eraseIdxIfInBounds j)}):=by
 induction k with
 | zero=>
  intro i hk T2 i0 prog w A R s h
  obtain⟨hp,g,d,tk,os⟩:=s
  refine bM h ?_;clear h;intro hl he h
  have T3:i=j:=by exact YS hk T2
  subst T3
  wp_walk using wpAny_loadPart' hl
  have hi:its[((i:Nat):Int).toNat]? =some its[i]:=by simp[hj]
  rw[hi]
  refine wpAny_bind (he _ (Array.getElem_mem hj) prog w _ _ ?_)
  rw[hit]
  have I3:(its.eraseIdxIfInBounds i).size<=sizeLine+1:=by
   have :(its.eraseIdxIfInBounds i).size<=its.size:=by
    rw[<-Array.length_toList,eK,<-Array.length_toList (xs:=its)];exact List.length_eraseIdx_le _ _
   exact YT pG this
  wp_walk using (wpAny_updateSeq hl rfl (hz:=pG) (_hz':=I3)),wpAny_loadPart' hl
  simpa using h
 | succ k ih=>
  intro i hk T2 i0 prog w A R s h
  obtain⟨hp,g,d,tk,os⟩:=s
  refine bM h ?_;clear h;intro hl he h
  have dc:i<its.size:=by exact YU hj T2
  wp_walk using wpAny_loadPart' hl
  have hi:its[((i:Nat):Int).toNat]? =some its[i]:=by simp[dc]
  have hc:((i:Int)+1)=((i+1:Nat):Int):=by push_cast;rfl
  rw[hi]
  refine wpAny_bind (he _ (Array.getElem_mem dc) prog w _ _ ?_)
  rw[i0 i dc (aaw _) (YV hk)]
  wp_walk
  rw[hc]
  exact⟨plainId_quiet abD _,codeAny_builtin MeetsSeq.entry_remove_loop (by
   rw[Around.under_plainId abD _]
   exact ih (i+1) (YW hk) (YX hk) (λm hm h1 h2=>i0 m hm (YY h1) h2) prog w A R _ ⟨hl,he,h⟩)⟩
theorem zp{l:Addr}{its:Array Value}{n:Nat}{x:Value}(e:Value->Bool){j:Nat}(hj:j<its.size)(hit:e its[j]=true)(i0: ∀q (hm:q<its.size),q<j->e its[q]=false)(pG:its.size<=sizeLine)
  (hl:s.heap.get? l=some (listOf its n)) (he: ∀y,y∈its->SeqAt.EqAt A.in1 s y x (e y)) {Q:Value->Shared->Prop} (h:Q .none {s with heap:=s.heap.update l (ab2 λxs=>xs.eraseIdxIfInBounds j)}):
  wpAny (model cS g.w) A (call (.builtin "list.remove") [.ref l,x]) Q E s:=by
 have M:Meets (Builtin.«list.remove» ⟨[.ref l,x],[]⟩)
   (λA R s=>s.heap.get? l=some {cls:= .type "list",dict:=none,data:= .seq its n,slots:= #[]}/\(∀y,y∈its->SeqAt.EqAt A.in1 s y x (e y))/\R (.ok (.ret .none)) {s with heap:=s.heap.update l (ab2 λxs=>xs.eraseIdxIfInBounds j)}):=by
  intro prog w A R s h
  obtain⟨hp,g,d,tk,os⟩:=s
  refine bM h ?_;clear h;intro hl he h
  wp_walk using wpAny_loadPart' hl
  exact⟨plainId_quiet abD _,codeAny_builtin MeetsSeq.entry_remove_loop (by
   rw[Around.under_plainId abD _]
   exact zo l its n x e j hj hit pG _ 0 rfl (aaC _) (λm hm _ h2=>i0 m hm h2) prog w A R _ ⟨hl,he,h⟩)⟩
 exact call_meets PySem.F.slot_list_remove ⟨_,hl,rfl⟩ PySem.F.entry_list_remove (PySem.F.args_list_remove_2 _ _) M ⟨hl,he,h⟩
theorem DW{k:Nat}(hA:bI k A)(R:aP g K D σ st s){x:V}{ys:List V}{j:Nat}{v:Value}{its:Array Value}(hx:VR g.w.params D σ x v)(hy:aM g.w.params D σ ys its.toList)(h:fM st x ys=some (some j)):
  ∃e:Value->Bool,∃hj:j<its.size,e its[j]=true/\(∀q (hm:q<its.size),q<j->e its[q]=false)/\ ∀y,y∈its->SeqAt.EqAt A.in1 s y v (e y):=by
 refine aB h aN λds h1 h=>aB h aN λd h2 h=>bM (SI R h2 v hx) λr2 c2 e2=>aj r2 λbs r2=>bM (Mv R h1 hy) λr1 c1 e1=>aj r1 λas r1=> ?_
 have So:=hA.M4
 have O2:=SeqAt.readsAll_map ds its.toList as c1 r1
 refine ao (List.findIdx?_eq_some_iff_getElem.mp (aaj h)) λdc hp hb=> ?_
 have hlen:its.size=ds.length:=by rw[<-O2,aae];rfl
 have K2: ∀q (hq:q<its.size),SeqAt.readOf s.heap its[q]=ds[q]'(hlen▸hq):=λq hq=>by
  have :(its.toList.map (SeqAt.readOf s.heap))[q]? =ds[q]? :=by rw[O2]
  rw[aay,abc,Array.getElem?_eq_getElem hq,aaG (hlen▸hq)] at this
  exact aaj this
 exact⟨λy=>aaz (SeqAt.readOf s.heap y) d,hlen▸dc,(congrArg (aaz · d) (K2 j (hlen▸dc))).trans hp,λq hq K8=>(congrArg (aaz · d) (K2 q hq)).trans (Bool.not_eq_true _▸hb q K8),SeqAt.items_eqAt r1 r2 c1 c2 (YZ e1 So)⟩
end
end Mine
end
namespace Mine
section
variable{g:Gl}{K:Kx}{f:Fx}{A:Around}{m:M}{st:List AO}{E:Value->Shared->Prop}{D:Dt}{σ:List Addr}{s s':Shared}
theorem Gf{n j:Nat}{fs:List (Str×V)}(hs:st[j]? =some (.aF fs))(e:fs.length=n)(hz:n<=100000){Q:V->List AO->Prop}(hQ:Q (.int n) st):ka g K f A (.builtin "len") [.loc j] m st Q E:=
 λD σ s Q' vs R hv k=>hv.ja λv ev hv=>ev▸ao hv λa ea h1=>ea▸gi R.r hs h1 λbS q1 q2 q3 q4=>
  have hl:bS.length=n:=((aae (λp:Str×Value=>p.1)).symm.trans ((congrArg abx q2).trans (aae _))).trans e
  call_len_dict (knd:=SK g) (lB R.r (aas h1)) q1 (by have :=fits63 (aaD hz (by rw[sizeLine_eq];exact Y0):n<=sizeLine);omega) (k (.int n) st D σ _ _ Le.refl (R.tok _) ⟨_,by rw[hl]⟩ hQ)
theorem Lx(x:V)(n:Nat)(hx:Ge x st=some n)(hz:n<=100000){Q:V->List AO->Prop}(hQ:Q (.int n) st):ka g K f A (.builtin "len") [x] m st Q E:=by
 have I3:n<=sizeLine:=by rw[sizeLine_eq];exact nB hz
 cases x with
 | str y=>cases hx;exact len_str I3 hQ
 | loc j=>exact br hx (λxs hs h=>by cases h;exact Gg (eN hs) I3 hQ) λ_ h=>aB h aN λfs hs h=>Gf (cY hs) (aaj h) hz hQ
 | lst ys=>cases hx;exact Gh I3 hQ
 | tup ys=>cases hx;exact Gi I3 hQ
 | _=>exact aY hx
theorem F6{x:V}{T:String}{b:Bool}(h:insI x T=some b){r:RE V}(hr:ok (.bool b) st=r):ka g K f A (.builtin "isinstance") [x,.f6 (.type T)] m st (cR r) E:=
 λD σ s Q' vs R hv kk=>hv.jc λv u ev h1 hu=>ev▸(show u= .type T from hu)▸aB h aN λn hn h=>by
 have k0:=kk (.bool b) st D σ (.bool b) s Le.refl R rfl hr.symm
 refine bO h (λhT h=> ?_) λ_ h=>aR h aN λhT h=>lN h (λ_ h=>aY h) λhn2 h=> ?_
 ·subst hT
  cases x with
  | int i=>cases hn;cases h;exact aj h1 λt e=>e▸IsiPair.int_int k0
  | tup xs=>cases hn;cases h;exact h1.fK λa its n e h2 h3=>e▸IsiPair.tuple_int (R.r.dh _ _ h2) rfl (kk (.bool false) st D σ _ _ Le.refl (R.tok _) rfl hr.symm)
  | none=>cases hn;cases h;cases h1;exact IsiPair.NoneType_int (kk (.bool false) st D σ _ _ Le.refl (R.tok _) rfl hr.symm)
  | _=>exact aY hn
 ·subst hT
  cases x with
  | int i=>cases hn;cases h;exact aj h1 λt e=>e▸IsiPair.int_tuple (kk (.bool false) st D σ _ _ Le.refl (R.tok _) rfl hr.symm)
  | tup xs=>cases hn;cases h;exact h1.fK λa its n e h2 h3=>e▸IsiPair.tuple_tuple (R.r.dh _ _ h2) rfl k0
  | none=>cases hn;exact tf hn2
  | _=>exact aY hn
theorem GO{sx:Str}{r:RE V}(h:QZ sx st=r)(aa:r≠none):ka g K f A (.builtin "ord") [.str sx] m st (cR r) E:=by
 obtain⟨⟨cs⟩⟩:=sx
 cases cs with
 | nil=>exact absurd h.symm aa
 | cons c cs=>
  cases cs with
  | nil=>exact λD σ s Q' vs R hv kk=>hv.ja λv ev hv=>ev▸aj hv λt e=>e▸PySem.P.ord_of_char (kk (.int c) st D σ _ _ Le.refl (R.tok _) ⟨_,rfl⟩ h.symm)
  | cons _ _=>exact absurd h.symm aa
theorem LA{k:Nat}(hA:bI k A){i j:Int}{r:RE V}(hr:ok (.int (if i<j then j else i)) st=r):ka g K f A (.builtin "max") [.int i,.int j] m st (cR r) E:=by
 intro D σ s Q' vs R hv kk
 refine hv.jc ?_;rintro v u rfl ⟨t,rfl⟩ ⟨t',rfl⟩
 refine PySem.max_two_ints hA.hd λh' tk hk=> ?_
 have R':Rel g K f D σ m st {s with heap:=h',toks:=tk}:=R.keep ⟨hk,rfl,rfl⟩
 refine kk (.int (if i<j then j else i)) st D σ _ _ Le.refl R' ?_ hr.symm
 by_cases q:i<j
 ·rw[if_pos q,if_pos q];exact⟨_,rfl⟩
 ·rw[if_neg q,if_neg q];exact⟨_,rfl⟩
theorem rn{k:Nat}(hA:bI k A)(id:String)(xs:List V)(aa:bC id xs st≠none):ka g K f A (.builtin id) xs m st (cR (bC id xs st)) E:=by
 generalize hr:bC id xs st=r at aa
 refine bO hr (λe hr=> ?_) λ_ hr=>bO hr (λe hr=> ?_) λ_ hr=>bO hr (λe hr=> ?_) λ_ hr=> ?_
 ·subst e
  refine g4 hr aa ?_;rintro x rfl hr
  refine aB hr aa λn hn hr=> ?_
  refine aR hr aa λhz hr=> ?_
  exact Lx x n hn hz hr.symm
 ·subst e
  refine g4 hr aa ?_;rintro x rfl hr
  refine aB hr aa λs hs hr=> ?_
  rw[fp hs]
  exact GO hr aa
 ·subst e
  refine Cy hr aa ?_;rintro x t rfl hr
  refine aB hr aa λT hT hr=> ?_
  refine aB hr aa λb hb hr=> ?_
  rw[RO hT]
  exact F6 hb hr
 ·refine aR hr aa λe hr=> ?_
  subst e
  refine Cy hr aa ?_;rintro x y rfl hr
  refine aB hr aa λi hi hr=> ?_
  refine aB hr aa λj hj hr=> ?_
  rw[ez hi,ez hj]
  exact LA hA hr
theorem F7(x:V){r:RE V}(hr:Pr x st=r)(aa:r≠none):ka g K f A (.type "int") [x] m st (cR r) E:=by
 intro D σ s Q' vs R hv kk
 cases x with
 | int i=>
  obtain⟨v,rfl,t,rfl⟩:=hv.one
  exact PySem.call_int_int (kk (.int i) st D σ _ s Le.refl R ⟨_,rfl⟩ hr.symm)
 | str sx=>
  refine aR hr aa λhl hr=> ?_
  refine aB hr aa λn hn hr=> ?_
  obtain⟨v,rfl,t,rfl⟩:=hv.one
  refine PySem.call_int_1 (PySem.W.KIN.gives_text hl hn).meets ?_
  exact⟨typeIs_int _ _ _,kk (.int n) st D σ _ _ Le.refl (R.tok _) ⟨_,rfl⟩ hr.symm⟩
 | _=>exact absurd hr.symm aa
theorem B2{mu:Bool}{x:V}{ys:List V}(hy:bB st x=some ys){r:RE V}(hr:mk mu ys st=r)(aa:r≠none):ka g K f A (.type "list") [x] m st (cR r) E:=by
 intro D σ s Q' vs R hv kk
 refine hv.ja λv ev nX=>ev▸ ?_
 have hz:=uV (hr▸aa)
 have fin: ∀h' c' (its:Array Value),aM g.w.params D σ ys its.toList->(∀b o',s.heap.get? b=some o'->h'.get? b=some o')->h'.get? s.heap.objs.size=some {cls:= .type "list",dict:=none,data:= .seq its c',slots:= #[]}->Q' (.ref s.heap.objs.size) {s with heap:=h'}:=λh' c' its hits hk ha=>
  made (s':={s with heap:=h'}) (n:=c') (its:=its) R ⟨hk,rfl,rfl⟩ au ha hits (by rw[hr];exact aa) (λv st' q=>(hr.symm.trans q:_)) kk
 rcases kr hy with rfl | hy
 ·refine nX.fK λa its n e h1 h2=>e▸ ?_
  exact PySem.call_list_seq a (.inr rfl) (R.r.dh _ _ h1) rfl rfl (λh' c' hk ha=>fin h' c' its h2 hk ha) (by rw[aM.size h2,sizeLine_eq];exact nB hz)
 ·refine cD R.r hy nX λa its n e h1 h2=>e▸ ?_
  exact PySem.call_list_seq a (.inl rfl) h1 rfl rfl (λh' c' hk ha=>fin h' c' its h2 hk ha) (by rw[aM.size h2,sizeLine_eq];exact nB hz)
theorem HG{x:V}{ys:List V}(hy:items st x=some ys)(hz:ys.length<=100000){r:RE V}(hr:ok (.tup ys) st=r):ka g K f A (.type "tuple") [x] m st (cR r) E:=by
 intro D σ s Q' vs R hv kk
 refine hv.ja λv ev nX=>ev▸cD R.r hy nX λa its n e h1 h2=>e▸ ?_
 refine PySem.call_tuple_list (bh h1) (λh' hk=> ?_) (by rw[aM.size h2,sizeLine_eq];exact nB hz)
 have k1:Keeps s {s with heap:=h'}:=⟨hk,rfl,rfl⟩
 refine aO ((R.keep k1).frozen (s':={s with heap:=h'.push {cls:= .type "tuple",data:= .seq its}}) (cv (s:={s with heap:=h'})) au (aaO _ rfl)) λL R'=> ?_
 exact kk (.tup ys) st _ σ _ _ L R' (.xU (Dt.dN _ _ _) (h2.mono L)) hr.symm
theorem Hd{xs:List V}{r:RE V}(hr:Ro xs st=r)(aa:r≠none):ka g K f A (.type "range") xs m st (cR r) E:=by
 have r3 (hr:(ZQ xs λx y z=>oK (wI x) λa=>oK (wI y) λb=>oK (wI z) λc=>if small a&&small b&&decide (c.natAbs<1000000000)&&decide (c≠0) then ok (.jb a b c) st else none)=r):ka g K f A (.type "range") xs m st (cR r) E:=by
  refine gF (Mf hr aa) ?_;rintro x y z rfl hr
  refine aB hr aa λa ha hr=> ?_
  refine aB hr aa λb hb hr=> ?_
  refine aB hr aa λc hc hr=> ?_
  refine aR hr aa λhh hr=> ?_
  rw[ez ha,ez hb,ez hc]
  refine aO (aap.mp hh) λhh h4=> ?_
  have h3:=of_decide_eq_true (aap.mp hh).2
  intro D σ s Q' vs R hv kk
  obtain⟨_,_,rfl,⟨t,rfl⟩,_,_,rfl,⟨u,rfl⟩,_,_,rfl,⟨w,rfl⟩,rfl⟩:=hv
  refine PySem.call_range_3 (of_decide_eq_true h4) ?_ (.inl (PyProof.noPylong_small (Y1 h3)))
  refine aO (R.frozen (s':={s with heap:=s.heap.push {cls:= .type "range",data:= .fields #[.int a t,.int b u,.int c w]}}) cv au (aaO _ rfl)) λL R'=> ?_
  exact kk (.jb a b c) st _ σ _ _ L R' ⟨_,_,_,_,rfl,Dt.dN _ _ _⟩ hr.symm
 match xs,hr,r3 with
 | [],hr,r3=>exact r3 hr
 | _::_::_,hr,r3=>exact r3 hr
 | [x],hr,r3=>
  refine aB hr aa λn hn hr=> ?_
  refine aR hr aa λ_ hr=> ?_
  rw[ez hn]
  intro D σ s Q' vs R hv kk
  obtain⟨v,rfl,t,rfl⟩:=hv.one
  refine PySem.call_range_1 ?_
  refine aO (R.frozen (s':={s with heap:=s.heap.push {cls:= .type "range",data:= .fields #[.int 0 s.toks,.int n t,.int 1 (s.toks+1)]},toks:=s.toks+1+1}) ⟨λb o h=>aaE _ h,rfl,rfl⟩ au (aaO _ rfl)) λL R'=> ?_
  exact kk (.jb 0 n 1) st _ σ _ _ L R' ⟨_,_,_,_,rfl,Dt.dN _ _ _⟩ hr.symm
theorem DD{k:Nat}(hA:bI k A)(mu:Bool)(T:String)(xs:List V)(aa:gu mu T xs st≠none):ka g K f A (.type T) xs m st (cR (gu mu T xs st)) E:=by
 generalize hr:gu mu T xs st=r at aa
 refine bO hr (λe hr=> ?_) λ_ hr=>bO hr (λe hr=> ?_) λ_ hr=>bO hr (λe hr=> ?_) λ_ hr=> ?_
 ·subst e
  refine g4 hr aa ?_;rintro x rfl hr
  exact F7 x hr aa
 ·subst e
  refine g4 hr aa ?_;rintro x rfl hr
  refine aB hr aa λys hy hr=> ?_
  exact B2 hy hr aa
 ·subst e
  refine g4 hr aa ?_;rintro x rfl hr
  refine aB hr aa λys hy hr=> ?_
  refine aR hr aa λhz hr=> ?_
  exact HG hy hz hr
 ·refine aR hr aa λe hr=> ?_
  subst e
  exact Hd hr aa
end
end Mine
namespace Mine
section
variable{g:Gl}{K:Kx}{f:Fx}{A:Around}{m:M}{st:List AO}{E:Value->Shared->Prop}{D:Dt}{σ:List Addr}{s s':Shared}
abbrev Ni(g:Gl)(K:Kx)(f:Fx)(m:M)(st:List AO)(x:V)(T:String):Prop:= ∀(D:Dt) (σ:List Addr) (s:Shared) (v:Value),Rel g K f D σ m st s->VR g.w.params D σ x v->s.TypeIs v T/\ ∀a,v= .ref a-> ∃o,s.heap.get? a=some o/\o.dict=none
theorem DE{n:Nat}{fs:List (Str×V)}(hs:st[n]? =some (.aF fs)):Ni g K f m st (.loc n) "dict":=
 λD σ s v R hv=>ao hv λa e h1=>R.r.rB hs h1 λes n' q2 _ _=>e▸⟨⟨_,q2,rfl⟩,λb hb=>by cases hb;exact⟨_,q2,rfl⟩⟩
theorem j6{x:V}(hk:kd x st=some .lst):Ni g K f m st x "list":=by
 cases x with
 | loc n=>exact br hk (λxs hs _=>DF (eN hs)) λ_ h=>aB h aN λ_ _ h=>by cases h
 | lst xs=>exact DG
 | str _=>cases hk
 | int _=>cases hk
 | _=>exact aY hk
theorem zB{x:V}(hk:kd x st=some .aF):Ni g K f m st x "dict":=by
 cases x with
 | loc n=>exact br hk (λxs hs h=>by cases h) λ_ h=>aB h aN λ_ hs _=>DE (cY hs)
 | lst xs=>cases hk
 | str _=>cases hk
 | int _=>cases hk
 | _=>exact aY hk
theorem qA{x:V}(hk:kd x st=some .str):Ni g K f m st x "str":=by
 cases x with
 | loc n=>exact br hk (λxs hs h=>by cases h) λ_ h=>aB h aN λ_ _ h=>by cases h
 | lst xs=>cases hk
 | str _=>exact DH
 | int _=>cases hk
 | _=>exact aY hk
theorem HN{x:V}(hk:kd x st=some .int):Ni g K f m st x "int":=by
 cases x with
 | loc n=>exact br hk (λxs hs h=>by cases h) λ_ h=>aB h aN λ_ _ h=>by cases h
 | lst xs=>cases hk
 | str _=>cases hk
 | int _=>exact type_int
 | _=>exact aY hk
theorem iX{x:V}{T id id':String}{name nm:Str}{pos:Pos}{args:List Expr}{Q:V->List AO->Prop}(en:name=nm)(ei:some id=some id')(pa:PlainAttrs T)(slot:PySem.Slot T nm id)(Ny:typeOf (.builtin id)=pure (.type "method_descriptor"))
  (hT:Ni g K f m st x T) (h:qS g K f A pos args m st (λys d7=>ka g K f A (.builtin id') (x::ys) m d7 Q E) E) (hs:(backTo pos (starEach args f.env)).any (·.1)=false):WM g K f A name pos args x m st Q E:=by
 cases ei
 subst en
 exact S3 pa slot Ny hT h hs
theorem Gq{x:V}{k:Kd}{name:Str}{id:String}{pos:Pos}{args:List Expr}{Q:V->List AO->Prop}(hk:kd x st=some k)(hm:pU k name=some id)
  (h:qS g K f A pos args m st (λys d7=>ka g K f A (.builtin id) (x::ys) m d7 Q E) E) (hs:(backTo pos (starEach args f.env)).any (·.1)=false):WM g K f A name pos args x m st Q E:=by
 cases k with
 | lst=>exact bO hm (λe hm=>iX e hm aby ace PySem.F.type_list_append (j6 hk) h hs) λ_ hm=>bO hm (λe hm=>iX e hm aby PySem.F.slot_list_reverse PySem.F.type_list_reverse (j6 hk) h hs) λ_ hm=>bO hm (λe hm=>iX e hm aby acW PySem.F.type_list_pop (j6 hk) h hs) λ_ hm=>bO hm (λe hm=>iX e hm aby PySem.F.slot_list_remove PySem.F.type_list_remove (j6 hk) h hs) λ_ hm=>aR hm aN λe hm=>iX e hm aby PySem.F.slot_list_index PySem.F.type_list_index (j6 hk) h hs
 | aF=>exact aR hm aN λe hm=>iX e hm PySem.F.plainAttrs_dict PySem.F.slot_dict_get PySem.F.type_dict_get (zB hk) h hs
 | str=>exact bO hm (λe hm=>iX e hm acI PySem.F.slot_str_lstrip PySem.F.type_str_lstrip (qA hk) h hs) λ_ hm=>bO hm (λe hm=>iX e hm acI PySem.F.slot_str_find PySem.F.type_str_find (qA hk) h hs) λ_ hm=>aR hm aN λe hm=>iX e hm acI PySem.F.slot_str_join PySem.F.type_str_join (qA hk) h hs
 | int=>exact aR hm aN λe hm=>iX e hm PySem.F.plainAttrs_int PySem.F.slot_int_bit_length PySem.F.type_int_bit_length (HN hk) h hs
end
end Mine
namespace Mine
section
variable{g:Gl}{K:Kx}{f:Fx}{A:Around}{m:M}{st:List AO}{E:Value->Shared->Prop}{D:Dt}{σ:List Addr}{s s':Shared}
theorem qZ{P:Params}: ∀{ys:List V} {ss:List Str} {vs:List Value},EJ ys=some ss->aM P D σ ys vs->StrsAre vs ss
 | [],ss,vs,h,hv=>aaj h▸hv.dp▸ .nil
 | y::ys,ss,vs,h,hv=>aB h aN λx hx h=>aB h aN λr h1 h=>aaj h▸hv.aW λv w e h2 h3=>e▸aj (fp hx▸h2:VR P D σ (.str x) v) λt e=>e▸ .cons _ _ (qZ h1 h3)
theorem rP{α:Type}{l:List α}{x:α}(h:l.getLast?=some x):l=l.dropLast++[x]:=by
 cases l with
 | nil=>cases h
 | cons a r=>
  have :=List.dropLast_concat_getLast (l:=a::r) (by simp)
  rw[List.getLast?_eq_some_getLast (by simp)] at h
  cases h
  exact this.symm
abbrev mZ(g:Gl)(K:Kx)(f:Fx)(A:Around)(m:M)(st:List AO)(E:Value->Shared->Prop)(id:String)(xs:List V)(r:RE V):Prop:=ka g K f A (.builtin id) xs m st (cR r) E
theorem Mk{n:Nat}{xs ys:List V}{r:RE V}(hs:st[n]? =some (.lst xs))(hz:xs.length<=sizeLine)(hr:Q4 n xs ys st=r)(aa:r≠none):mZ g K f A m st E "list.pop" (.loc n::ys) r:=by
 have P (hr:(ve ys λx=>oK (wI x) λi=>if 0<=i then oK (xs[i.toNat]?) (λv=>ok v (st.set n (.lst (xs.eraseIdx i.toNat)))) else none)=r):mZ g K f A m st E "list.pop" (.loc n::ys) r:=
  g4 hr aa λx e hr=>aB hr aa λi hi hr=>aR hr aa λh0 hr=>aB hr aa λv hv hr=>by
   have e3:((i.toNat:Nat):Int)=i:=by exact Y2 h0
   exact e▸ez hi▸e3▸uo hs hz hv hr.symm
 cases ys with
 | nil=>exact aB hr aa λv hv hr=>have e3:=rP hv;Aw (e3▸hs) (e3▸hz) hr.symm
 | cons y ys=>exact P hr
theorem Mx{k:Nat}(hA:bI k A){n j:Nat}{xs:List V}{v:V}{r:RE V}(hs:st[n]? =some (.lst xs))(hz:xs.length<=sizeLine)(hj:fM st v xs=some (some j))(hr:ok .none (st.set n (.lst (xs.eraseIdx j)))=r):mZ g K f A m st E "list.remove" [.loc n,v] r:=
 λD σ s Q' vs R hv k=>hv.jc λu w ev h hw=>ev▸ao h λa e h1=>e▸R.r.cA hs h1 λits n' q2 q3=>cj (DW hA R.r hw q3 hj) λee dc z1 z2 z3=>
  zp ee dc z1 z2 (aM.size q3▸hz) q2 z3 (k .none _ D σ .none _ Le.refl (R.iP (n:=n) (ys:=xs.eraseIdx j) h1 q2 (by rw[eK];exact aM.erase q3 j)) rfl hr.symm)
theorem Li{k:Nat}(hA:bI k A){j:Nat}{xs:List V}{v:V}{r:RE V}(hz:xs.length<=sizeLine)(hj:fM st v xs=some (some j))(hr:ok (.int j) st=r):mZ g K f A m st E "list.index" [.lst xs,v] r:=
 λD σ s Q' vs R hv k=>hv.jc λu w ev hu hw=>ev▸hu.cA λa its n e h1 h2=>e▸cj (DW hA R.r hw h2 hj) λee dc z1 z2 z3=>
  have pH:=aM.size h2
  have K8:(j:Int)<2^63- 1:=by
   have e1:(2:Int)^63- 1=9223372036854775807:=by decide
   have :=sizeLine_eq
   omega
  call_meets PySem.F.slot_list_index ⟨_,R.r.dh _ _ h1,rfl⟩ PySem.F.entry_list_index (PySem.F.args_list_index_2 _ _) (SeqAt.list_indexAt a its n none #[] w ee j dc K8 z1 z2) ⟨R.r.dh _ _ h1,z3,k (.int j) st D σ _ _ Le.refl (R.tok _) ⟨_,rfl⟩ hr.symm⟩
theorem KS{n:Nat}{fs:List (Str×V)}{key:Str}{dv:V}{r:RE V}(hs:st[n]? =some (.aF fs))(hr:ok ((fs.lookup key).getD dv) st=r):mZ g K f A m st E "dict.get" [.loc n,.str key,dv] r:=
 λD σ s Q' vs R hv k=>hv.aW λ_ _ e h hv=>e▸ao h λa e h1=>e▸hv.jc λ_ u e h hu=>e▸aj h λt e=>e▸gi R.r hs h1 λbS q1 q2 q3 q4=>by
  refine call_meetsIn PySem.F.slot_dict_get q1.typeIs PySem.F.entry_dict_get (PySem.F.args_dict_get_3 _ _ _) (meets_dict_get_default (SK g) a (strKind_is _ _ _ _) (lB R.r (aas h1)) u) ⟨_,q1.mapOf,?_⟩
  refine aO (eS (k:=key) q2 q3) λz1 z2=> ?_
  cases q:fs.lookup key with
  | none=>rw[z2 q];exact k dv st D σ u _ Le.refl (R.tok _) hu (hr.symm.trans (by rw[q];rfl))
  | some y=>exact ao (z1 y q) λw w1 w2=>w1▸k y st D σ w _ Le.refl (R.tok _) w2 (hr.symm.trans (by rw[q];rfl))
theorem y8{sx y:Str}{r:RE V}(hz:sx.length<=100000)(hr:ok (.str (Txt.lstripChars sx y)) st=r):mZ g K f A m st E "str.lstrip" [.str sx,.str y] r:=
 λD σ s Q' vs R hv k=>hv.jc λ_ _ e h1 h2=>e▸aj h1 λt e=>e▸aj h2 λu e=>e▸call_gives PySem.F.slot_str_lstrip (typeIs_str s sx t) PySem.F.entry_str_lstrip (PySem.F.args_str_lstrip_2 _ _) (gives_str_lstrip_chars sx y t u)
  (post_val_or_made (λ_=>fits_stripped _ _ _ (by rw[sizeLine_eq];exact nB hz)) λt' tk=>k (.str (Txt.lstripChars sx y)) st D σ _ _ Le.refl (R.tok _) ⟨_,rfl⟩ hr.symm)
theorem Fz{sx y:Str}{r:RE V}(hr:ok (.int (Txt.find sx y)) st=r):mZ g K f A m st E "str.find" [.str sx,.str y] r:=
 λD σ s Q' vs R hv k=>hv.jc λ_ _ e h1 h2=>e▸aj h1 λt e=>e▸aj h2 λu e=>e▸call_gives PySem.F.slot_str_find (typeIs_str s sx t) PySem.F.entry_str_find (PySem.F.args_str_find_2 _ _) (gives_str_find sx y t u) (k (.int (Txt.find sx y)) st D σ _ _ Le.refl (R.tok _) ⟨_,rfl⟩ hr.symm)
theorem Ga{sx:Str}{y:V}{zs:List V}{ss:List Str}{r:RE V}(UD:items st y=some zs)(Ur:EJ zs=some ss)(hz:(ss.map (·.length)).sum+ss.length* sx.length<=100000)(hr:ok (.str (Txt.join sx ss)) st=r):mZ g K f A m st E "str.join" [.str sx,y] r:=
 λD σ s Q' vs R hv k=>hv.jc λ_ _ e h1 hu=>e▸aj h1 λt e=>e▸cD R.r UD hu λa its n e h1 h2=>e▸PyProof.Rows.join_list (bh h1) (qZ Ur h2) (QM hz) λt' tk=>k (.str (Txt.join sx ss)) st D σ _ _ Le.refl (R.tok _) ⟨_,rfl⟩ hr.symm
theorem EW{i:Int}{r:RE V}(hr:ok (.int (abm i)) st=r):mZ g K f A m st E "int.bit_length" [.int i] r:=
 λD σ s Q' vs R hv k=>hv.ja λ_ e h=>e▸aj h λt e=>e▸PyProof.Rows.call_int_bit_length (k (.int (abm i)) st D σ _ _ Le.refl (R.tok _) ⟨_,rfl⟩ hr.symm)
theorem if2{β γ:Type}{c:Prop}[d:Decidable c]{a b:β}{a' b':γ}{x:β}{y:γ}{P:Prop}(h:(if c then a else b)=x)(h':(if c then a' else b')=y)(h1:c->a=x->a'=y->P)(h2:b=x->b'=y->P):P:=by
 cases d with
 | isTrue hc=>exact h1 hc h h'
 | isFalse hc=>exact h2 h h'
theorem Jn{n:Nat}(h:n<100000):n<=sizeLine:=by rw[sizeLine_eq];exact QN h
theorem Gj{k:Nat}(hA:bI k A){x:V}{name:Str}{id:String}{ys:List V}{r:RE V}(hm:pU .lst name=some id)(hr:PH x name ys st=r)(aa:r≠none):mZ g K f A m st E id (x::ys) r:=by
 refine br hr (λn hx hr=>j7 hx▸aB hr aa λxs hs hr=>aR hr aa λhz hr=> ?_) λ_ hr=>aB hr aa λxs hx hr=>M9 hx▸aR hr aa λhz hr=>aR hr aa λe hr=>g4 hr aa λv ey hr=>aB hr aa λo hj hr=>aB hr aa λj ho hr=>ey▸ ?_
 ·have hs:=eN hs
  have hz:=Jn hz
  exact if2 hr hm (λ_ hr hm=>aaj hm▸g4 hr aa λv e hr=>e▸rq hs hz hr.symm) λhr hm=>if2 hr hm (λ_ hr hm=>aaj hm▸aO (Cw hr aa) λe hr=>e▸oW hs hz hr.symm) λhr hm=>if2 hr hm (λ_ hr hm=>aaj hm▸Mk hs hz hr aa) λhr hm=>aR hr aa λe hr=>(aaj ((if_pos e).symm.trans hm))▸g4 hr aa λv e hr=>aB hr aa λo hj hr=>aB hr aa λj ho hr=>e▸Mx hA hs hz (ho▸hj) hr
 ·have hm':pU .lst (aab "index")=some "list.index":=by decide+kernel
  exact aaj (hm'.symm.trans (e▸hm))▸Li hA (Jn hz) (ho▸hj) hr
theorem B9{k:Nat}(hA:bI k A){kk:Kd}{x:V}{name:Str}{id:String}(ys:List V)(hm:pU kk name=some id)(aa:eF kk x name ys st≠none):ka g K f A (.builtin id) (x::ys) m st (cR (eF kk x name ys st)) E:=by
 generalize hr:eF kk x name ys st=r at aa
 cases kk with
 | lst=>exact Gj hA hm hr aa
 | aF=>exact aB hr aa λn hx hr=>j7 hx▸aB hr aa λfs hs hr=>aR hr aa λe hr=>aaj ((if_pos e).symm.trans hm)▸Cy hr aa λ_ dv e hr=>e▸aB hr aa λkey hk hr=>fp hk▸KS (cY hs) hr
 | str=>
  exact aB hr aa λsx hx hr=>fp hx▸if2 hr hm (λ_ hr hm=>aaj hm▸g4 hr aa λ_ e hr=>e▸aB hr aa λy hy hr=>fp hy▸aR hr aa λhz hr=>y8 hz hr) λhr hm=>if2 hr hm (λ_ hr hm=>aaj hm▸g4 hr aa λ_ e hr=>e▸aB hr aa λy hy hr=>fp hy▸Fz hr) λhr hm=>aR hr aa λe hr=>aaj ((if_pos e).symm.trans hm)▸g4 hr aa λy e hr=>e▸aB hr aa λzs UD hr=>aB hr aa λss Ur hr=>aR hr aa λhz hr=>Ga UD Ur hz hr
 | int=>exact aB hr aa λi hx hr=>ez hx▸aR hr aa λe hr=>aaj ((if_pos e).symm.trans hm)▸aO (Cw hr aa) λe hr=>e▸EW hr
end
end Mine
namespace Mine
noncomputable def ue(e:Expr):EV->Prop
 | .name x=>uZ x=true/\ ∃p,e= .Name x p
 | .cst v=> ∃c k p,e= .Constant c k p/\vK c= .cst v
 | .bools op es=> ∃p,e= .BoolOp op es p
 | .bin op l r=> ∃p,e= .BinOp l op r p
 | .un op x=> ∃p,e= .UnaryOp op x p
 | .ite t b o=> ∃p,e= .IfExp t b o p
 | .dict fs=> ∃ks vs p,e= .Dict ks vs p/\fQ ks vs=some fs/\fs.length<=15
 | .comp elt iter x ifs sc=> ∃tp p,e= .ListComp elt [⟨.Name x tp,iter,ifs,0⟩] sc p
 | .cmp op l r=>behindInMarks op r=false/\ ∃p,e= .Compare l [op] [r] p
 | .iU o name as=> ∃apos pos,e= .Call (.Attribute o name apos) as [] pos/\(as.any isStar=false/\as.length<=29)/\fA o=false/\(apos.endLine==pos.line)=true
 | .call x as=> ∃p pos,e= .Call (.Name x p) as [] pos/\as.any isStar=false/\uZ x=true
 | .jM e'=> ∃p,e= .JoinedStr [e'] p
 | .jN es=>(∃p,e= .JoinedStr es p)/\ ∀env,joinedStr (evalEach es env)=joinParts abM (evalEach es env)
 | .fmt e'=> ∃p,e= .FormattedValue e' (-1) none p
 | .attr e' name=>fA e'=false/\ ∃p,e= .Attribute e' name p
 | .item e' i=>(∃p,e= .Subscript e' i p)/\ ∀o k,subscripted i false o k=operate [o,k] (getItem o k)
 | .slice e' lo hi=> ∃sp p,e= .Subscript e' (.Slice lo hi none sp) p
 | .list es=> ∃p,e= .List es p
 | .tuple es=> ∃k p,e= .Tuple es k p
 | .no=>True
theorem eY{α:Type}{b:Bool}{x y:α}{P:α->Prop}(h1:b=true->P x)(h2:b=false->P y):P (bif b then x else y):=by
 cases b with
 | true=>exact h1 rfl
 | false=>exact h2 rfl
theorem gx{x:Str}{e:Expr}(h:gv e=some x): ∃p,e= .Name x p:=by
 cases e with
 | Name y p=>exact⟨p,congrArg (Expr.Name · p) (aaj h)⟩
 | _=>exact aY h
theorem DP{ks:List (Option Expr)}{vs:List Expr}{p:Pos}:ue (.Dict ks vs p) (DO ks vs):=by
 unfold DO
 cases q:fQ ks vs with
 | none=>trivial
 | some fs=>exact eY (P:=ue _) (λh=>⟨ks,vs,p,rfl,q,of_decide_eq_true h⟩) λ_=>trivial
theorem xW{elt:Expr}{gens:List Comprehension}{sc:Scope}:tq elt gens sc= .no\/ ∃x tp iter ifs,gens=[⟨.Name x tp,iter,ifs,0⟩]/\tq elt gens sc= .comp elt iter x ifs sc:=by
 cases gens with
 | nil=>exact .inl rfl
 | cons g gs=>
  obtain⟨t,iter,ifs,a⟩:=g
  cases gs with
  | cons _ _=>exact .inl rfl
  | nil=>
   have e:tq elt [⟨t,iter,ifs,a⟩] sc=(match gv t with | some x=>bif decide (a=0) then EV.comp elt iter x ifs sc else .no | none=> .no):=rfl
   cases q:gv t with
   | none=>rw[q] at e;exact .inl e
   | some x=>
    rw[q] at e
    exact lN e.symm (λh e=>aj (gx q) λtp et=> .inr ⟨x,tp,iter,ifs,of_decide_eq_true h▸et▸rfl,e.symm⟩) λ_ e=> .inl e.symm
theorem DM{elt:Expr}{gens:List Comprehension}{sc:Scope}{p:Pos}:ue (.ListComp elt gens sc p) (tq elt gens sc):=
 xW.elim (λh=>h▸trivial) λh=>yC h λx tp iter ifs e1 e2=>e2▸e1▸⟨tp,p,rfl⟩
theorem HR{l:Expr}{ops:List CmpOp}{rs:List Expr}{p:Pos}:ue (.Compare l ops rs p) (RH l ops rs):=by
 cases ops with
 | nil=>trivial
 | cons op ops=>
  cases ops with
  | cons _ _=>trivial
  | nil=>
   cases rs with
   | nil=>trivial
   | cons r rs=>
    cases rs with
    | cons _ _=>trivial
    | nil=>exact eY (P:=ue _) (λ_=>trivial) λh=>⟨h,p,rfl⟩
theorem sv{a b:Bool}(h:(a || b)=false):a=false/\b=false:=Bool.or_eq_false_iff.mp h
theorem DK{f:Expr}{as:List Expr}{Ef:List Keyword}{p:Pos}:ue (.Call f as Ef p) (Jw f as Ef p):=by
 refine eY (P:=ue _) (λ_=>trivial) λh=> ?_
 have h1:=sv h
 cases Ef with
 | cons _ _=>trivial
 | nil=>
  cases f with
  | Attribute o name apos=>exact eY (P:=ue _) (λ_=>trivial) λh=>⟨apos,p,rfl,⟨h1.1,Nat.le_of_not_lt (of_decide_eq_false h1.2)⟩,(sv h).1,Bool.not_eq_false' .. ▸(sv h).2⟩
  | Name x np=>exact eY (P:=ue _) (λh=>⟨np,p,rfl,h1.1,h⟩) λ_=>trivial
  | _=>trivial
theorem HX{e i:Expr}{p:Pos}:ue (.Subscript e i p) (RM e i):=by
 cases i with
 | Slice lo hi sp q=>
  cases sp with
  | none=>exact⟨q,p,rfl⟩
  | some _=>trivial
 | _=>exact⟨⟨p,rfl⟩,λ_ _=>rfl⟩
theorem xZ(e:Expr):ue e (view e):=by
 cases e with
 | Name x p=>exact eY (P:=ue _) (λh=>⟨h,p,rfl⟩) λ_=>trivial
 | Constant c k p=>
  cases c with
  | none=>exact⟨_,k,p,rfl,rfl⟩
  | bool b=>exact⟨_,k,p,rfl,rfl⟩
  | int i=>exact⟨_,k,p,rfl,rfl⟩
  | str x=>exact⟨_,k,p,rfl,rfl⟩
  | _=>trivial
 | BoolOp op es p=>exact⟨p,rfl⟩
 | BinOp l op r p=>exact⟨p,rfl⟩
 | UnaryOp op x p=>exact⟨p,rfl⟩
 | IfExp t b o p=>exact⟨p,rfl⟩
 | Dict ks vs p=>exact DP
 | ListComp elt gens sc p=>exact DM
 | Compare l ops rs p=>exact HR
 | Call f as Ef pos=>exact DK
 | JoinedStr es p=>
  cases es with
  | nil=>exact⟨⟨p,rfl⟩,λ_=>rfl⟩
  | cons e es=>
   cases es with
   | nil=>exact⟨p,rfl⟩
   | cons _ _=>exact⟨⟨p,rfl⟩,λ_=>rfl⟩
 | FormattedValue e c sp p=>
  cases sp with
  | none=>exact eY (P:=ue _) (λh=>of_decide_eq_true h▸⟨p,rfl⟩) λ_=>trivial
  | some _=>trivial
 | Attribute e name p=>exact eY (P:=ue _) (λ_=>trivial) λh=>⟨h,p,rfl⟩
 | Subscript e i p=>exact HX
 | List es p=>exact⟨p,rfl⟩
 | Tuple es k p=>exact⟨k,p,rfl⟩
 | _=>trivial
noncomputable def Lj(es:List Expr)(env:Env):Sem Bool:=forIn es true λc r=>if r=true then do let ok<-isTrue c env (eval c env);pure (ForInStep.yield ok) else pure (ForInStep.yield r)
structure f9(T:Tb)(cl:Addr->List V->List AO->RE V)(n:Nat):Prop where
 sE: ∀{g K f A F mu m st e},Cx g K f A F T cl-> ∀r,r=bH T cl n F mu m st e->r≠none->WE g K f A e m st (cR r) (iV g K f m r)
 sO: ∀{g K f A F m st} {e:Option Expr},Cx g K f A F T cl-> ∀r,r=Iz T cl n F m st e->r≠none->
  WG g K f A (evalPart e f.env) mA m st (cR r) (iV g K f m r)
 Hm: ∀{g K f A F m st es pos},Cx g K f A F T cl-> ∀r,r=uv T cl n F m st es->r≠none->qS g K f A pos es m st (cR r) (iV g K f m r)
 sB: ∀{g K f A F m st op es pos},Cx g K f A F T cl-> ∀r,r=wA T cl n F m st op es->r≠none->WG g K f A (boolOp pos op (evalEach es f.env)) (VR g.w.params) m st (cR r) (iV g K f m r)
 sT: ∀{g K f A F m st e},Cx g K f A F T cl-> ∀r,r=wB T cl n F m st e->r≠none->WT g K f A e m st (cR r) (iV g K f m r)
 sA: ∀{g K f A F m st op es},Cx g K f A F T cl-> ∀r,r=Iw T cl n F m st op es->r≠none->oM g K f A op es m st (cR r) (iV g K f m r)
 sJ: ∀{g K f A F m st es out},Cx g K f A F T cl-> ∀r,r=Iy T cl n F m st es out->r≠none->WG g K f A (joinParts out (evalEach es f.env)) (VR g.w.params) m st (cR r) (iV g K f m r)
 sI: ∀{g K f A F m st es},Cx g K f A F T cl-> ∀r,r=gG T cl n F m st es->r≠none->WG g K f A (Lj es f.env) (λ_ _ (a b:Bool)=>a=b) m st (cR r) (iV g K f m r)
section
variable{g:Gl}{K:Kx}{f:Fx}{A:Around}{F:aV}{T:Tb}{cl:Addr->List V->List AO->RE V}{m:M}{st:List AO}{n:Nat}{mu:Bool}{E:Value->Shared->Prop}
theorem Hz{e:Expr}{es:List Expr}{env:Env}(h:isStar e=false):starEach (e::es) env=(false,eval e env)::starEach es env:=by
 cases e with
 | Starred _ _=>exact tf h
 | _=>rfl
theorem MN{e:Expr}{es:List Expr}{env:Env}:(starEach (e::es) env).any (·.1)=(isStar e || (starEach es env).any (·.1)):=by
 cases e<;>rfl
theorem C9(S:f9 T cl n){es pos}(C:Cx g K f A F T cl): ∀r,r=uv T cl (n+1) F m st es->r≠none->qS g K f A pos es m st (cR r) (iV g K f m r):=by
 intro r hr aa
 cases es with
 | nil=>exact oP hr
 | cons e es=>
  exact bO hr.symm (λ_ h=>absurd h.symm aa) λnW hr=>eW (WG.bind (S.sE C) hr.symm aa λa st1 h1=>WG.bind (S.Hm C) h1 aa λas st2 h2=>h2) (Hz (ab0.mpr nW))
theorem rb{env:Env}: ∀{es:List Expr},(starEach es env).any (·.1)=es.any isStar
 | []=>rfl
 | e::es=>MN.trans (congrArg (isStar e || ·) (rb (es:=es)))
theorem kb{es:List Expr}{pos:Pos}{env:Env}(h:es.any isStar=false):(backTo pos (starEach es env)).any (·.1)=false:=
 List.any_map.trans (rb.trans h)
theorem GN{r:RE (Option Int)}{v:V}{st:List AO}(h:r=GL v st)(aa:r≠none): ∃i,v= .int i/\r=some (.ok (some i),st):=by
 cases v with
 | int i=>exact⟨i,rfl,h⟩
 | _=>exact absurd h aa
theorem Hp(S:f9 T cl n){e:Option Expr}(C:Cx g K f A F T cl): ∀r,r=Iz T cl (n+1) F m st e->r≠none->WG g K f A (evalPart e f.env) mA m st (cR r) (iV g K f m r):=by
 intro r hr aa
 cases e with
 | none=>exact evalPart_none f.env▸λD σ s Q' R k=>wpAny_pure (k none st D σ .none s Le.refl R rfl hr)
 | some e=>
  rw[evalPart_some]
  intro D σ s Q' R k
  exact WG.bind (P:=λv st'=>r=GL v st') (S.sE C) hr aa (λv st1 h1=>h1) D σ s Q' R λa st' D' σ' b s' L R' r' q=>ao (GN q aa) λi e h=>k (some i) st' D' σ' b s' L R' (by rw[e] at r';exact r') h
set_option backward.match.sparseCases true in
theorem EX{x y:Sem Value}{op:BoolOp}{c:Bool}:(match op,c with | .And,false | .Or,true=>x | _,_=>y)=(bif fD op c then x else y):=by
 cases op<;>cases c<;>rfl
set_option backward.match.sparseCases true in
theorem Hk(S:f9 T cl n){op es pos}(C:Cx g K f A F T cl): ∀r,r=wA T cl (n+1) F m st op es->r≠none->WG g K f A (boolOp pos op (evalEach es f.env)) (VR g.w.params) m st (cR r) (iV g K f m r):=by
 intro r hr aa
 cases es with
 | nil=>exact absurd hr aa
 | cons e es=>
  cases es with
  | nil=>exact S.sE C r hr aa
  | cons e' es=>
   intro D σ s Q' R k
   show wpAny _ _ (do
    let v<-eval e f.env
    standAt pos
    let t<-holding [v] (truthy v)
    match op,t with
    | .And,false | .Or,true=>pure v
    | _,_=>boolOp pos op (evalEach (e'::es) f.env)) _ _ _
   refine wpAny_bind (WG.bind (P:=λx st=>r=(k9 x st).bind λb st=>bif fD op b then ok x st else wA T cl n F m st op (e'::es)) (S.sE C) hr aa (λx st1 h1=>h1) D σ s _ R λx st1 D1 σ1 v s1 L1 R1 r1 h1=>wpAny_bind (wpAny_standAt (wpAny_bind (wpAny_holding ?_))))
   have ht:k9 x st1≠none:=λq=>aa (h1.trans (congrArg (RE.bind · _) q))
   refine xT x ht D1 σ1 s1 _ v R1 r1 λc st2 D2 σ2 c' s2 L2 R2 r2 h2=> ?_
   have h3:r=bif fD op c then ok x st2 else wA T cl n F m st2 op (e'::es):=h1.trans (congrArg (RE.bind · _) h2)
   rw[<-r2,EX]
   cases q:fD op c with
   | true=>
    rw[q] at h3
    exact wpAny_pure (k x st2 D2 σ2 v s2 (L1.trans L2) R2 (r1.mono L2) h3)
   | false=>
    rw[q] at h3
    exact S.sB C r h3 aa D2 σ2 s2 Q' R2 λa st' D' σ' b s' L R' r' q=>k a st' D' σ' b s' ((L1.trans L2).trans L) R' r' q
end
end Mine
namespace Mine
section
variable{g:Gl}{K:Kx}{f:Fx}{A:Around}{F:aV}{T:Tb}{cl:Addr->List V->List AO->RE V}{m:M}{st:List AO}{n:Nat}{mu:Bool}{E:Value->Shared->Prop}
theorem W1.nx{α β:Type}{t:Value->Sem β}{x:V}{rel:Dt->List Addr->α->β->Prop}{Q Q':α->List AO->Prop}(h:W1 g K f A t x rel m st Q E)(hQ: ∀a st,Q a st->Q' a st):W1 g K f A t x rel m st Q' E:=
 λD σ s JJ v R hv k=>h D σ s JJ v R hv λa st' D' σ' b s' L R' r q=>k a st' D' σ' b s' L R' r (hQ _ _ q)
theorem W2.nx{α β:Type}{t:Value->Value->Sem β}{x y:V}{rel:Dt->List Addr->α->β->Prop}{Q Q':α->List AO->Prop}(h:W2 g K f A t x y rel m st Q E)(hQ: ∀a st,Q a st->Q' a st):W2 g K f A t x y rel m st Q' E:=
 λD σ s JJ v u R hv hu k=>h D σ s JJ v u R hv hu λa st' D' σ' b s' L R' r q=>k a st' D' σ' b s' L R' r (hQ _ _ q)
theorem Dz{x:V}{r:RE Bool}{E:Value->Shared->Prop}(h:r=k9 x st)(aa:r≠none):W1 g K f A truthy x (λ_ _ (a b:Bool)=>a=b) m st (cR r) E:=by
 subst h;exact xT x aa
noncomputable def M6:EV->Bool
 | .un _ _=>false
 | .bools _ _=>false
 | .cmp _ _ _=>false
 | .ite _ _ _=>false
 | .no=>false
 | _=>true
abbrev S2(e:Expr)(env:Env):Prop:=isTrue e env (eval e env)=(do let v<-eval e env;standAt e.pos;holding [v] (truthy v))
theorem MZ{e:Expr}{w:EV}{env:Env}(h:M6 w=true)(H:ue e w):S2 e env:=by
 cases w with
 | name x=>exact aj H.2 λp e=>e▸rfl
 | cst v=>exact gF H λc k p e _=>e▸rfl
 | bin _ _ _=>exact aj H λp e=>e▸rfl
 | dict _=>exact rD H λ_ _ _ e _ _=>e▸rfl
 | comp _ _ _ _ _=>exact eJ H λ_ _ e=>e▸rfl
 | iU _ _ _=>exact cc H λ_ _ e _=>e▸rfl
 | call _ _=>exact cc H λ_ _ e _=>e▸rfl
 | jM _=>exact aj H λ_ e=>e▸rfl
 | jN _=>exact aj H.1 λ_ e=>e▸rfl
 | fmt _=>exact aj H λ_ e=>e▸rfl
 | attr _ _=>exact aj H.2 λ_ e=>e▸rfl
 | item _ _=>exact aj H.1 λ_ e=>e▸rfl
 | slice _ _ _=>exact eJ H λ_ _ e=>e▸rfl
 | list _=>exact aj H λ_ e=>e▸rfl
 | tuple _=>exact eJ H λ_ _ e=>e▸rfl
 | _=>exact ft h
theorem Kw{P:NQ}{e:Expr}{w:EV}(h:M6 w=true):RT P F m st e w=(P.e F false m st e).bind k9:=by
 cases w<;>first | rfl | exact ft h
theorem MJ(S:f9 T cl n)(C:Cx g K f A F T cl){op:CmpOp}{l rr:Expr}{p:Pos}{r:RE Bool}(hm:behindInMarks op rr=false)(hr:r=(bH T cl n F false m st l).bind λa st=>(bH T cl n F false m st rr).bind λb st=>bk op a b st)(aa:r≠none):
  WT g K f A (.Compare l [op] [rr] p) m st (cR r) (iV g K f m r):=
 qU (WG.bind (S.sE C) hr aa λa st1 h1=>WG.bind (S.sE C) h1 aa λb st2 h2=>W2.nx (wm C.room op a b λq=>aa (h2.trans q)) λv vE q=>ao q λb0 e hb=>e▸Im (h2.trans hb)) hm
theorem Hq(S:f9 T cl n){e:Expr}(C:Cx g K f A F T cl): ∀r,r=wB T cl (n+1) F m st e->r≠none->WT g K f A e m st (cR r) (iV g K f m r):=by
 intro r hr aa
 have H:=xZ e
 have hr:r=RT (dY T cl n) F m st e (view e):=hr
 generalize view e=w at H hr
 cases q:M6 w with
 | true=>exact J9 (WG.bind (S.sE C) (hr.trans (Kw q)) aa λx st1 h1=>Dz h1 aa) (MZ q H)
 | false=>
  cases w with
  | un op x=>
   cases op with
   | Not=>exact aj H λp e=>e▸J8 (WG.bind (S.sT C) hr aa λb st1 h1=>h1)
   | _=>exact absurd hr aa
  | bools op es=>exact aj H λp e=>e▸yk (S.sA C r hr aa)
  | cmp op l rr=>exact aj H.2 λp e=>e▸MJ S C H.1 hr aa
  | ite _ _ _=>exact absurd hr aa
  | no=>exact absurd hr aa
  | _=>exact tf q
theorem Hj(S:f9 T cl n){op es}(C:Cx g K f A F T cl): ∀r,r=Iw T cl (n+1) F m st op es->r≠none->oM g K f A op es m st (cR r) (iV g K f m r):=by
 intro r hr aa
 cases es with
 | nil=>
  cases op with
  | And=>exact oN hr
  | Or=>exact qP hr
 | cons e es=>
  cases op with
  | And=>exact Aa (WG.bind (S.sT C) hr aa λb st1 h1=>⟨λhb=>S.sA C r (hb▸h1:r=bif fD .And true then _ else _) aa,λhb=>(hb▸h1:r=bif fD .And false then _ else _)⟩)
  | Or=>exact EC (WG.bind (S.sT C) hr aa λb st1 h1=>⟨λhb=>(hb▸h1:r=bif fD .Or true then _ else _),λhb=>S.sA C r (hb▸h1:r=bif fD .Or false then _ else _) aa⟩)
theorem Lr{P:NQ}{es:List Expr}{out:Str}{v:V}{r:RE V}(h:r=UH P F m es out v st)(aa:r≠none): ∃x,v= .str x/\out.length+x.length<=100000/\r=P.j F m st es (out++x):=by
 cases v with
 | str x=>exact aR h.symm aa λhz h=>⟨x,rfl,hz,h.symm⟩
 | _=>exact absurd h aa
theorem Ho(S:f9 T cl n){es out}(C:Cx g K f A F T cl): ∀r,r=Iy T cl (n+1) F m st es out->r≠none->WG g K f A (joinParts out (evalEach es f.env)) (VR g.w.params) m st (cR r) (iV g K f m r):=by
 intro r hr aa D σ s Q' R k
 cases es with
 | nil=>exact aR hr.symm aa λhz h=>wpAny_mkStr (k (.str out) st D σ _ _ Le.refl (R.tok _) ⟨_,rfl⟩ h.symm) (by rw[sizeLine_eq];exact nB hz)
 | cons e es=>
  show wpAny _ _ (joinParts out (eval e f.env::evalEach es f.env)) _ _ _
  rw[joinParts]
  refine wpAny_bind (WG.bind (P:=λv st'=>r=UH (dY T cl n) F m es out v st') (S.sE C) hr aa (λ_ _ h=>h) D σ s _ R λa st' D' σ' b s' L R' r' q=>eI (Lr q aa) λx ea hz h2=>aj (ea▸r':VR g.w.params D' σ' (.str x) b) λt eb=>eb▸wpAny_bind (wpAny_pure ?_))
  have I3: ¬(out.length+x.length>sizeLine):=by rw[sizeLine_eq];exact Y3 hz
  show wpAny _ _ (if out.length+x.length>sizeLine then _ else _) _ _ _
  rw[if_neg I3]
  have fin:wpAny (model cS g.w) A (joinParts (out++x) (evalEach es f.env)) Q' (iV g K f m r) s':=S.sJ C r h2 aa D' σ' s' Q' R' λa st2 D2 σ2 b2 s2 L2 R2 r2 q2=>k a st2 D2 σ2 b2 s2 (L.trans L2) R2 r2 q2
  first
   | exact fin
   | exact wpAny_bind (wpAny_pure fin)
theorem Hn(S:f9 T cl n){es}(C:Cx g K f A F T cl): ∀r,r=gG T cl (n+1) F m st es->r≠none->WG g K f A (Lj es f.env) (λ_ _ (a b:Bool)=>a=b) m st (cR r) (iV g K f m r):=by
 intro r hr aa D σ s Q' R k
 unfold Lj
 cases es with
 | nil=>
  rw[List.forIn_nil]
  exact wpAny_pure (k true st D σ true s Le.refl R rfl hr)
 | cons e es=>
  cases es with
  | nil=>
   rw[List.forIn_cons,if_pos rfl]
   refine wpAny_bind (wpAny_bind (S.sT C r hr aa D σ s _ R λa st' D' σ' b s' L R' r' q=>wpAny_pure ?_))
   show wpAny _ _ (forIn [] b _) _ _ _
   rw[List.forIn_nil]
   exact wpAny_pure (k a st' D' σ' b s' L R' r' q)
  | cons _ _=>exact absurd hr aa
end
end Mine
namespace Mine
section
variable{g:Gl}{K:Kx}{f:Fx}{A:Around}{F:aV}{T:Tb}{cl:Addr->List V->List AO->RE V}{m:M}{st:List AO}{n:Nat}{mu:Bool}{E:Value->Shared->Prop}
abbrev dR(g:Gl)(K:Kx)(f:Fx)(A:Around)(F:aV)(T:Tb)(cl:Addr->List V->List AO->RE V)(n:Nat)(mu:Bool)(m:M)(st:List AO)(e:Expr)(w:EV):Prop:= ∀r,r=Fq T cl (dY T cl n) F m mu st w->r≠none->WE g K f A e m st (cR r) (iV g K f m r)
theorem Gr{P:Params}{es:List Expr}{pos:Pos}{r:RE V}(h:qS g K f A pos es m st (λxs bK=>mk mu xs bK≠none/\ ∀v st',mk mu xs bK=some (.ok v,st')->r=some (.ok v,st')) E):WE g K f A (.List es pos) m st (cR r) E:=by
 intro D σ s Q' R k
 refine wpAny_List_spliced (h D σ s _ R λxs bK D₁ σ₁ vs s₁ L₁ R₁ r₁ h₁=> ?_)
 refine⟨by rw[aM.length r₁,sizeLine_eq];have :=uV h₁.1;exact nB this,?_⟩
 exact made (s:=s₁) (n:=0) (its:=vs.toArray) (Q:=cR r) R₁ cv au (aaO _ rfl) (by simpa using r₁) h₁.1 (λv st' q=>h₁.2 v st' q) λa st' D' σ' b s' L R' r' q=>k a st' D' σ' b s' (L₁.trans L) R' r' q
theorem KV(C:Cx g K f A F T cl){x:Str}{pos:Pos}{r:RE V}(hk:F.sc.lookup x=some .globalImplicit)(hx:(x==("__debug__":Str))=false)(hr:r=OD T x st)(aa:r≠none):WE g K f A (.Name x pos) m st (cR r) E:=by
 have hk:f.env.kindOf x=some .globalImplicit:=(C.k x).trans hk
 unfold OD at hr
 cases hv:T.gl x with
 | some v=>rw[hv] at hr;exact qR C.ok (C.tb.gl _ _ hv) hr hk hx
 | none=>
  rw[hv] at hr
  exact aB hr.symm aa λi hi hr=>aj (C.tb.con _ _ hi) λt ht D σ s Q' R k=>
   qR (Q:=λv st'=>v= .f6 (.int i t)/\st'=st) C.ok ht ⟨rfl,rfl⟩ hk hx D σ s Q' R λa st' D' σ' b s' L R' r' q=>k (.int i) st' D' σ' b s' L R' ⟨t,(q.1▸r':VR g.w.params D' σ' (.f6 (.int i t)) b)⟩ (q.2▸hr.symm)
theorem Jf{x:Str}(h:uZ x=true):(x==("__debug__":Str))=false/\(x==("__classdict__":Str))=false:=sv (Bool.not_eq_true' _▸h)
theorem KX{α:Type}{o:Option NameKind}{k r:RE α}(h:(match o with | some .globalImplicit=>k | _=>none)=r)(aa:r≠none):o=some .globalImplicit/\k=r:=by
 cases o with
 | none=>exact absurd h.symm aa
 | some z=>
  cases z with
  | globalImplicit=>exact⟨rfl,h⟩
  | _=>exact absurd h.symm aa
theorem JD(C:Cx g K f A F T cl){x:Str}{pos:Pos}(hx:uZ x=true):dR g K f A F T cl n mu m st (.Name x pos) (.name x):=by
 intro r hr aa
 have hx:=Jf hx
 have hr:r=Je T F m x st:=hr
 unfold Je at hr
 cases hv:m x with
 | some v=>rw[hv] at hr;exact fO C.ok hv hr hx.1 hx.2
 | none=>
  rw[hv] at hr
  exact aO (KX hr.symm aa) λhk hr=>KV C hk hx.1 hr.symm aa
theorem Ep{c:Const}{v:V}{k:Nat}{pos:Pos}(h:vK c= .cst v):dR g K f A F T cl n mu m st (.Constant c k pos) (.cst v):=by
 intro r hr aa
 cases c with
 | none=>cases h;exact EG hr
 | bool b=>cases h;exact ED hr
 | int i=>cases h;exact J4 hr
 | str x=>cases h;exact J5 hr
 | _=>cases h
theorem El(S:f9 T cl n)(C:Cx g K f A F T cl){l rr:Expr}{op:Operator}{pos:Pos}:dR g K f A F T cl n mu m st (.BinOp l op rr pos) (.bin op l rr):=λr hr aa=>
 Ab (WG.bind (S.sE C) hr aa λa st1 h1=>WG.bind (S.sE C) h1 aa λb st2 h2=>W2.of h2 aa λh=>ER C.room mu op a b h)
theorem ye(S:f9 T cl n)(C:Cx g K f A F T cl){x:Expr}{op:UnaryOp}{pos:Pos}:dR g K f A F T cl n mu m st (.UnaryOp op x pos) (.un op x):=λr hr aa=>
 ug (WG.bind (S.sE C) hr aa λa st1 h1=>W1.of h1 aa λh=>M5 op a h)
theorem Er(S:f9 T cl n)(C:Cx g K f A F T cl){t b o:Expr}{pos:Pos}:dR g K f A F T cl n mu m st (.IfExp t b o pos) (.ite t b o):=λr hr aa=>
 Ac (WG.bind (S.sT C) hr aa λc st1 h1=>⟨λhc=>S.sE C r (hc▸h1:r=bH T cl n F false m st1 (bif true then b else o)) aa,λhc=>S.sE C r (hc▸h1:r=bH T cl n F false m st1 (bif false then b else o)) aa⟩)
theorem yc(S:f9 T cl n)(C:Cx g K f A F T cl){l rr:Expr}{op:CmpOp}{pos:Pos}(hm:behindInMarks op rr=false):dR g K f A F T cl n mu m st (.Compare l [op] [rr] pos) (.cmp op l rr):=λr hr aa=>
 kF (WG.bind (S.sE C) hr aa λa st1 h1=>WG.bind (S.sE C) h1 aa λb st2 h2=>
  W2.nx (wm C.room op a b λq=>aa (h2.trans (congrArg (RE.bind · _) q))) λv vE q=>ao q λb0 e hb=>e▸h2.trans (congrArg (RE.bind · _) hb)) hm
theorem v8{e:Expr}{name:Str}{env:Env}(h:fA e=false):attributeBase e name env (eval e env)=eval e env:=by
 generalize eval e env=w
 cases e with
 | Call fe as Ef p=>
  cases fe with
  | Name id q=>
   cases as with
   | cons _ _=>rfl
   | nil=>
    cases Ef with
    | cons _ _=>rfl
    | nil=>
     have h:(id==("super":Str))=false:=h
     have h':(id !=("super":Str))=true:=by simp[bne,h]
     refine Eq.trans (if_pos ?_) ?_
     ·rw[h'];rfl
     ·rfl
  | _=>rfl
 | _=>rfl
theorem EP{e:Expr}{name:Str}{pos:Pos}{env:Env}(h:attributeBase e name env (eval e env)=eval e env):eval (.Attribute e name pos) env=(do
   let o<-eval e env
   standAt pos.atName
   let r<-holding [o] (getAttr o name true)
   letTemporaryGo e o r
   pure r):=by
 show(do
   let o<-attributeBase e name env (eval e env)
   standAt pos.atName
   let r<-holding [o] (getAttr o name true)
   letTemporaryGo e o r
   pure r)=_
 rw[h]
theorem Kh{x:V}{name:Str}{r:RE V}{G:V->Prop}(h:r=oR T x name st)(aa:r≠none)(k: ∀Cc x,((∃fs,x= .nj Cc fs)\/ ∃n,x= .inst Cc n)->T.attr Cc name=true->r=rO x name st->G x):G x:=by
 cases x with
 | nj Cc fs=>exact aR h.symm aa λha h=>k Cc _ (.inl ⟨fs,rfl⟩) ha h.symm
 | inst Cc j=>exact aR h.symm aa λha h=>k Cc _ (.inr ⟨j,rfl⟩) ha h.symm
 | _=>exact absurd h aa
theorem Jz(S:f9 T cl n)(C:Cx g K f A F T cl){e:Expr}{name:Str}{pos:Pos}(hs:fA e=false):dR g K f A F T cl n mu m st (.Attribute e name pos) (.attr e name):=λr hr aa=>
 dC (WG.bind (S.sE C) hr aa λx st1 h1=>Kh (G:=λx=>W1 g K f A (λo=>getAttr o name true) x (VR g.w.params) m st1 (cR r) (iV g K f m r)) h1 aa λCc x hx ha h1=>W1.of h1 aa λh=>FH C.tb hx ha h) (EP (v8 hs))
theorem JC(S:f9 T cl n)(C:Cx g K f A F T cl){es:List Expr}{pos:Pos}:dR g K f A F T cl n mu m st (.List es pos) (.list es):=λr hr aa=>
 Gr (P:=g.w.params) (mu:=mu) (WG.bind (S.Hm C) hr aa λxs st1 h1=>⟨λq=>aa (h1.trans q),λv st' q=>h1.trans q⟩)
theorem Et(S:f9 T cl n)(C:Cx g K f A F T cl){es:List Expr}{k:Nat}{pos:Pos}:dR g K f A F T cl n mu m st (.Tuple es k pos) (.tuple es):=λr hr aa=>
 qQ (WG.bind (S.Hm C) hr aa λxs st1 h1=>aR h1.symm aa λhz h1=>⟨by rw[sizeLine_eq];exact nB hz,h1.symm⟩)
theorem zO(S:f9 T cl n)(C:Cx g K f A F T cl){es:List Expr}{pos:Pos}(h: ∀env,joinedStr (evalEach es env)=joinParts abM (evalEach es env)):dR g K f A F T cl n mu m st (.JoinedStr es pos) (.jN es):=by
 intro r hr aa
 show WG g K f A (joinedStr (evalEach es f.env)) _ m st _ _
 rw[h]
 exact S.sJ C r hr aa
theorem yd(S:f9 T cl n)(C:Cx g K f A F T cl){e:Expr}{pos:Pos}:dR g K f A F T cl n mu m st (.JoinedStr [e] pos) (.jM e):=λr hr aa=>
 (S.sE C r hr aa:WE g K f A e m st (cR r) (iV g K f m r))
theorem FD{v:V}{r:RE V}(h:r=Bp v st)(aa:r≠none): ∃i,v= .int i/\small i=true/\r=ok (.str (cK i)) st:=by
 cases v with
 | int i=>exact aR h.symm aa λhs h=>⟨i,rfl,hs,h.symm⟩
 | _=>exact absurd h aa
theorem y6{i:Int}(h:small i=true):i.natAbs.log2<1920:=by
 have h0:=nP h
 by_cases hz:i.natAbs=0
 ·rw[hz];decide
 ·have :=(Nat.log2_lt hz).mpr h0;exact Y4 this
theorem qK(S:f9 T cl n)(C:Cx g K f A F T cl){e:Expr}{pos:Pos}:dR g K f A F T cl n mu m st (.FormattedValue e (-1) none pos) (.fmt e):=λr hr aa D σ s Q' R k=>
 wpAny_FormattedValue_plain (WG.bind (P:=λv st'=>r=Bp v st') (S.sE C) hr aa (λ_ _ h=>h) D σ s _ R λa st' D' σ' b s' L R' r' q=>eI (FD q aa) λi ea hs h=>aj (ea▸r':VR g.w.params D' σ' (.int i) b) λt eb=>
  eb▸wpAny_formatField_int (y6 hs) (k (.str (cK i)) st' D' σ' _ _ L (R'.tok _) ⟨_,rfl⟩ h))
theorem JB(S:f9 T cl n)(C:Cx g K f A F T cl){e i:Expr}{pos:Pos}(hs: ∀o k,subscripted i false o k=operate [o,k] (getItem o k)):dR g K f A F T cl n mu m st (.Subscript e i pos) (.item e i):=λr hr aa=>
 oO (WG.bind (S.sE C) hr aa λx st1 h1=>WG.bind (S.sE C) h1 aa λy st2 h2=>W2.of h2 aa λh=>HA x y hs h)
theorem Es(S:f9 T cl n)(C:Cx g K f A F T cl){e:Expr}{lo hi:Option Expr}{sp pos:Pos}:dR g K f A F T cl n mu m st (.Subscript e (.Slice lo hi none sp) pos) (.slice e lo hi):=λr hr aa=>
 J3 (WG.bind (S.sE C) hr aa λx st1 h1=>WG.bind (S.sO C) h1 aa λa st2 h2=>WG.bind (S.sO C) h2 aa λb vE h3=>by
  subst h3
  exact Fd mu x a b aa)
end
end Mine
namespace Mine
section
variable{g:Gl}{K:Kx}{f:Fx}{A:Around}{F:aV}{T:Tb}{cl:Addr->List V->List AO->RE V}{m:M}{st:List AO}{n:Nat}{mu:Bool}{E:Value->Shared->Prop}{D:Dt}{σ:List Addr}{s s':Shared}
noncomputable def jh(env:Env)(pos:Pos):List (Option Expr)->List Expr->List (Sem Value×Sem Value)
 | some k::ks,v::vs=>(eval k env,do let x<-eval v env;standAt pos;pure x)::jh env pos ks vs
 | _,_=>[]
theorem xX{c:Const}{e:Expr}(h:DN e=some c): ∃a p,e= .Constant c a p:=by
 cases e with
 | Constant d a p=>exact⟨a,p,congrArg (Expr.Constant · a p) (aaj h)⟩
 | _=>exact aY h
theorem HV{k:Str}{o:Option Expr}(h:RK o=some k): ∃a p,o=some (.Constant (.str k) a p):=by
 cases o with
 | none=>exact aY h
 | some e=>
  refine aB (o:=DN e) h aN λc h1 h=>eJ (xX h1) λa p e=>e▸ ?_
  cases c with
  | str y=>exact⟨a,p,congrArg (λy=>some (Expr.Constant (.str y) a p)) (aaj h)⟩
  | _=>exact aY h
theorem HU{i:Int}{e:Expr}(h:vInt e=some i): ∃a p,e= .Constant (.int i) a p:=by
 refine aB (o:=DN e) h aN λc h1 h=>eJ (xX h1) λa p e=>e▸ ?_
 cases c with
 | int y=>exact⟨a,p,congrArg (λy=>Expr.Constant (.int y) a p) (aaj h)⟩
 | _=>exact aY h
theorem AQ{P:List (Option Expr)->List Expr->List (Str×Int)->Prop}(h0:P [] [] [])
  (h1: ∀ks vs r k a p i b q,P ks vs r->k∉r.map (·.1)->P (some (.Constant (.str k) a p)::ks) (.Constant (.int i) b q::vs) ((k,i)::r)): ∀{ks:List (Option Expr)} {vs:List Expr} {fs:List (Str×Int)},fQ ks vs=some fs->P ks vs fs
 | [],[],_,h=>by cases h;exact h0
 | [],_::_,_,h=>aY h
 | _::_,[],_,h=>aY h
 | k::ks,v::vs,fs,h=>aB h aN λr q1 h=>aB h aN λk' q2 h=>aB h aN λi q3 h=>bO h (λ_ h=>aY h) λhc h=>eJ (HV q2) λa p e1=>eJ (HU q3) λb q e2=>
  e1▸e2▸aaj h▸h1 _ _ _ _ _ _ _ _ _ (AQ h0 h1 q1) λhm=>hc (acR.mpr hm)
theorem yA{env:Env}{pos:Pos}{ks:List (Option Expr)}{vs:List Expr}{fs:List (Str×Int)}(h:fQ ks vs=some fs):
  (evalEachOpt ks env).zip ((evalEach vs env).map λv=>do let x<-v;standAt pos;pure x)=(jh env pos ks vs).map (λp=>(some p.1,p.2))/\(jh env pos ks vs).length=fs.length:=by
 refine AQ (P:=λks vs fs=>(evalEachOpt ks env).zip ((evalEach vs env).map λv=>do let x<-v;standAt pos;pure x)=(jh env pos ks vs).map (λp=>(some p.1,p.2))/\(jh env pos ks vs).length=fs.length) ⟨rfl,rfl⟩ (λks vs r k a p i b q ih _=>⟨?_,congrArg (· +1) ih.2⟩) h
 show(some _,_)::(evalEachOpt ks env).zip _=(some _,_)::_
 rw[ih.1]
theorem Of{env:Env}{pos:Pos}{ks:List (Option Expr)}{vs:List Expr}{fs:List (Str×Int)}(h:fQ ks vs=some fs): ∀{s:Shared} {Q:List (Value×Value)->Shared->Prop},
  (∀Jj bS tk,Carries (SK g) Jj bS->bS.map (·.1)=fs.map (·.1)->aM g.w.params D σ (fs.map λp=>V.int p.2) (bS.map (·.2))->Q Jj {s with toks:=tk})->wpAny (model cS g.w) A (evalPairs (jh env pos ks vs)) Q E s:=by
 refine AQ (P:=λks vs fs=> ∀{s:Shared} {Q:List (Value×Value)->Shared->Prop},(∀Jj bS tk,Carries (SK g) Jj bS->bS.map (·.1)=fs.map (·.1)->aM g.w.params D σ (fs.map λp=>V.int p.2) (bS.map (·.2))->Q Jj {s with toks:=tk})->wpAny (model cS g.w) A (evalPairs (jh env pos ks vs)) Q E s)
  (λhQ=>evalPairs_nil (hQ [] [] _ trivial rfl rfl)) (λks vs r k a p i b q ih _ {s} {Q} hQ=> ?_) h
 refine evalPairs_cons (wpAny_Constant_str (wpAny_bind (wpAny_Constant_int (wpAny_bind (wpAny_standAt (wpAny_pure ?_))))))
 refine ih λJj bS tk c1 c2 c3=> ?_
 exact hQ ((_,_)::Jj) ((_,_)::bS) tk ⟨strKind_is _ _ _ _,rfl,c1⟩ (congrArg (_:: ·) c2) ⟨_,_,rfl,⟨_,rfl⟩,c3⟩
theorem AR{ks:List (Option Expr)}{vs:List Expr}{fs:List (Str×Int)}(h:fQ ks vs=some fs):(fs.map (·.1)).Nodup:=by
 refine AQ (P:=λ_ _ fs=>(fs.map (·.1)).Nodup) ab5 (λks vs r k a p i b q ih hk=> ?_) h
 rw[aaq,aaK]
 exact⟨hk,ih⟩
theorem Tg{ks:List (Option Expr)}{vs:List Expr}{fs:List (Str×Int)}(h:fQ ks vs=some fs):fs=[]->ks=[]/\vs=[]:=
 AQ (P:=λks vs fs=>fs=[]->ks=[]/\vs=[]) (λ_=>⟨rfl,rfl⟩) (λ_ _ _ _ _ _ _ _ _ _ _ q=>nomatch q) h
theorem pT: ∀{bS:List (Str×Value)} {acc:List (Str×Value)},((acc++bS).map (·.1)).Nodup->PySem.merged acc bS=acc++bS:=by
 intro bS
 induction bS with
 | nil=>intro acc _;simp[PySem.merged]
 | cons p bS ih=>
  intro acc h
  have h1:abZ acc p.1 p.2=acc++[p]:=by
   unfold abZ
   rw[if_neg]
   intro hc
   rw[List.any_eq_true] at hc
   refine ao hc λq hq he=> ?_;clear hc
   have he:q.1=p.1:=of_decide_eq_true he
   rw[aaA,aaQ] at h
   exact h.2.2 q.1 (aa7 hq) p.1 (by simp) he
  show PySem.merged (abZ acc p.1 p.2) bS=_
  rw[h1,ih (by simpa using h)]
  simp
theorem bN.ints{σ':List Addr}: ∀{fs:List (Str×Int)} {es:List DictEntry},bN g.w.params D σ (fs.map λp=>(p.1,V.int p.2)) es->bN g.w.params D σ' (fs.map λp=>(p.1,V.int p.2)) es
 | [],_,h=>h
 | _::_,_,h=>bN.aW h λ_ _ e y2 y3 y4=>e▸ .cx y2 y3 (bN.ints y4)
theorem JA{ks:List (Option Expr)}{vs:List Expr}{pos:Pos}{fs:List (Str×Int)}(uG:fQ ks vs=some fs)(hz:fs.length<=15):dR g K f A F T cl n mu m st (.Dict ks vs pos) (.dict fs):=by
 intro r hr aa D σ s Q' R k
 have hr:r=ok (.loc st.length) (st++[AO.aF (fs.map λp=>(p.1,V.int p.2))]):=hr
 have em:(fs.map λp=>(p.1,V.int p.2)).map (·.1)=fs.map (·.1):=aaN
 have fin: ∀s':Shared,Keeps s s'-> ∀es e,s'.heap.get? s.heap.objs.size=some (dictOf es e)->(∀σ',bN g.w.params D σ' (fs.map λp=>(p.1,V.int p.2)) es)->Q' (.ref s.heap.objs.size) s':=λs' hk es e h1 h2=>
  k (.loc st.length) (st++[AO.aF (fs.map λp=>(p.1,V.int p.2))]) D _ _ _ Le.snoc (R.alloc hk au h1 (x:=AO.aF (fs.map λp=>(p.1,V.int p.2))) ⟨es,e,rfl,em▸AR uG,h2 _⟩) ⟨_,rfl,by rw[<-R.r.sl,aau (aaw _),abo];rfl⟩ hr
 by_cases h0:fs=[]
 ·refine aO (Tg uG h0) ?_;rintro rfl rfl
  subst h0
  exact wpAny_Dict_empty (fin _ cv [] 0 (aaO _ rfl) λ_=>rfl)
 ·refine aO (yA (env:=f.env) (pos:=pos) uG) λt1 t2=>wpAny_Dict_pairs (knd:=SK g) t1 (λq=>h0 (List.length_eq_zero_iff.mp (t2.symm.trans (congrArg abx q)))) (Y5 hz t2) ?_
  refine Of (D:=D) (σ:=σ) uG λJj bS tk c1 c2 c3=>⟨bS,c1,(Heap.DictOf.new (knd:=SK g) s.heap),λh' d1 d2=> ?_⟩
  rw[pT (by rw[aaP,c2];exact AR uG),aaP] at d1
  exact cj (wx d1 (c2.trans em.symm) (by rw[aaN];exact c3)) λes e z1 z2 z3=>fin _ ⟨λb o hb=>(d2.2 b (Nat.ne_of_lt (abX hb))).trans (aaE _ hb),rfl,rfl⟩ es e z1 λσ'=>bN.ints z3
end
end Mine
namespace Mine
section
variable{g:Gl}{K:Kx}{f:Fx}{A:Around}{F:aV}{T:Tb}{cl:Addr->List V->List AO->RE V}{m:M}{st:List AO}{n:Nat}{mu:Bool}{E:Value->Shared->Prop}{D:Dt}{σ:List Addr}{s s':Shared}
theorem B8{o:Expr}{name:Str}{apos pos:Pos}{args:List Expr}{env:Env}(h1:fA o=false)(h2:args.any isStar=false)(h3:args.length<=29)(h4:(apos.endLine==pos.line)=true):
  eval (.Call (.Attribute o name apos) args [] pos) env=(do
   let ov<-eval o env
   standAt apos.atName
   let(fv,first)<-holding [ov] (getMethod ov name (do return (<-importBound o env).getD true))
   callWith pos fv first (backTo pos (starEach args env)) (backToKw pos (keywordEach [] env))):=by
 show(do
  let ov<-attributeBase o name env (eval o env)
  standAt apos.atName
  methodCall o name apos pos env ov (args.length+([]:List Keyword).length) (backTo pos (starEach args env)) (backToKw pos (keywordEach [] env)))=_
 rw[v8 h1]
 have hf:methodCallForm (args.length+([]:List Keyword).length) (backTo pos (starEach args env)) (backToKw pos (keywordEach [] env))=true:=by
  unfold methodCallForm
  have ha:=kb (pos:=pos) (env:=env) h2
  have e1:(backTo pos (starEach args env)).all (!·.1)=true:=by
   rw[abt]
   intro x hx
   rw[List.any_eq_false] at ha
   simpa using ha x hx
  rw[e1]
  show(true&&true&&decide (args.length+0+0<30))=true
  simp
  exact Y6 h3
 unfold methodCall
 rw[hf]
 unfold methodCallPos calleeOf
 rw[h4]
 rfl
theorem bI.PB{k j:Nat}{A:Around}(h:bI k A)(hj:j<=k):bI j A:=⟨h.hd,by have :=h.dep;exact Y7 hj this,by have :=h.un;exact Y8 hj this⟩
theorem mX.out{lv:Nat}(H:mX g lv cl){fn:Addr}{xs:List V}{r:RE V}(hr:r=cl fn xs st)(aa:r≠none)(hA:bI lv A)(hF:AF K f A):Io g K f m A (.ref fn) xs st (cR r) (iV g K f m r):=by
 subst hr
 intro K' I D σ s Q' vs R hv k
 refine codeAny_mono (H A K' fn xs st hA (I.af hF) aa D σ s Q' vs R hv k) (λr s' x=> ?_)
 cases r with
 | ok fl=>cases fl<;>exact x
 | error e=>
  refine cc x ?_;clear x;intro x st' q X
  exact⟨x,st',q,I.xc X⟩
theorem J6{C fn:Addr}{name:Str}{pos:Pos}{args:List Expr}{Q:V->List AO->Prop}(ok:uc g.w C name fn)
  (h:qS g K f A pos args m st (λxs d7=>Io g K f m A (.ref fn) xs d7 Q E) E) (nW:(backTo pos (starEach args f.env)).any (·.1)=false):WM g K f A name pos args (.f6 (.ref C)) m st Q E:=by
 intro D σ s Q' v pl R hv k
 cases hv
 refine ao ok.r λmc hr he=>method_cls R.pI ok.g (cls_value R.pI hr he ok.h ?_)
 exact callWith_of (P:=λh=>(Mine.KN g.w.params).In h) (by rw[nW];rfl) (keeps_K ok.k) (cB nW (h D σ _ _ (R.tok _) λxs d7 D₂ σ₂ vs s₂ L₂ R₂ r₂ h₂=>⟨R₂.pI,lP R₂ h₂ r₂ λc eA D₃ σ₃ z s₃ L₃ R₃ r₃ h₃=>k c eA D₃ σ₃ z s₃ (L₂.trans L₃) R₃ r₃ h₃⟩))
theorem Cx.S9(C:Cx g K f A F T cl){fn:Addr}{xs:List V}{r:RE V}(hr:r=cl fn xs st)(aa:r≠none):Io g K f m A (.ref fn) xs st (cR r) (iV g K f m r):=
 ao C.cl λlv hA iY=>iY.out hr aa (hA.PB (acN _)) C.af
theorem Mn{x:V}{name:Str}{p:Pre}(hp:sF T x name st=some p){G:V->Pre->Prop}(h1: ∀Cc k fs fn,st[k]? =some (.aF fs)->T.iU Cc name=some fn->name∉fs.map (·.1)->G (.inst Cc k) (.fn fn))
  (h2: ∀Cc fn,T.nH Cc name=some fn->G (.f6 (.ref Cc)) (.nH fn)) (h3: ∀x k id,kd x st=some k->pU k name=some id->G x (.knd k)):G x p:=by
 have gen (hp:(oK (kd x st) λk=>if(pU k name).isSome then some (.knd k) else none)=some p):G x p:=
  aB hp aN λk hk hp=>aR hp aN λcm hp=>aaj hp▸aj (aaX.mp cm) λid cm=>h3 x k id hk cm
 cases x with
 | inst Cc k=>exact aB hp aN λfs uG hp=>aB hp aN λfn K4 hp=>bO hp (λ_ h=>aY h) λLa hp=>aaj hp▸h1 Cc k fs fn (cY uG) K4 λq=>La (acR.mpr q)
 | f6 v=>
  cases v with
  | ref Cc=>exact aB hp aN λfn K4 hp=>aaj hp▸h2 Cc fn K4
  | _=>exact aY hp
 | _=>exact gen hp
theorem En(S:f9 T cl n)(C:Cx g K f A F T cl){o:Expr}{name:Str}{apos pos:Pos}{as:List Expr}(h1:as.any isStar=false/\as.length<=29)(h2:fA o=false)(h3:(apos.endLine==pos.line)=true):dR g K f A F T cl n mu m st (.Call (.Attribute o name apos) as [] pos) (.iU o name as):=by
 intro r hr aa
 have nW:=kb (pos:=pos) (env:=f.env) h1.1
 refine Af (WG.bind (S.sE C) hr aa λx st1 h3=>aB h3.symm aa λp hp h3=> ?_) (B8 h2 h1.1 h1.2 h3)
 refine Mn (G:=λx p=>RE.bind (uv T cl n F m st1 as) (λxs st=>CQ cl p x name xs st)=r->WM g K f A name pos as x m st1 (cR r) (iV g K f m r)) hp (λCc k fs fn uG K4 La h3=> ?_) (λCc fn K4 h3=> ?_) (λx k id hk cm h3=> ?_) h3
 ·exact aj (C.tb.iU _ _ _ K4) λph hm=>EH uG hm La (WG.bind (S.Hm C) h3.symm aa λxs st2 h4=>C.S9 h4 aa) nW
 ·exact J6 (C.tb.nH _ _ _ K4) (WG.bind (S.Hm C) h3.symm aa λxs st2 h4=>C.S9 h4 aa) nW
 ·refine Gq hk cm (WG.bind (S.Hm C) h3.symm aa λxs st2 h4=> ?_) nW
  subst h4
  exact B9 C.room xs cm aa
end
end Mine
namespace Mine
section
variable{g:Gl}{K:Kx}{f:Fx}{A:Around}{F:aV}{T:Tb}{cl:Addr->List V->List AO->RE V}{m:M}{st:List AO}{n:Nat}{mu:Bool}{E:Value->Shared->Prop}{D:Dt}{σ:List Addr}{s s':Shared}
theorem Ov{x:Str}{v:Value}(h:Nk T F m x=some v):F.sc.lookup x=some .globalImplicit/\T.gl x=some v/\ZO v=true:=by
 unfold Nk at h
 cases hm:m x with
 | some _=>rw[hm] at h;exact aY h
 | none=>
  rw[hm] at h
  cases hk:F.sc.lookup x with
  | none=>rw[hk] at h;exact aY h
  | some z=>
   rw[hk] at h
   cases z with
   | globalImplicit=>exact aB h aN λw hw h=>aR h aN λho h=>⟨rfl,aaj h▸hw,aaj h▸ho⟩
   | _=>exact aY h
theorem Eo(S:f9 T cl n)(C:Cx g K f A F T cl){x:Str}{p pos:Pos}{as:List Expr}(h1:as.any isStar=false)(hx:uZ x=true)
  (TR: ∀{lv:Nat} {a nY:Addr} {fz:Bool} {xs:List V} {st:List AO} {r:RE V},bI (lv+1) A->mX g lv cl->AF K f A->T.cls a=some (nY,fz)->r=gf T cl mu (.ref a) xs st->r≠none->Io g K f m A (.ref a) xs st (cR r) (iV g K f m r)):
  dR g K f A F T cl n mu m st (.Call (.Name x p) as [] pos) (.call x as):=by
 intro r hr aa
 refine aB hr.symm aa λv hv hr=>bM (Ov hv) λhk hv hov=> ?_
 have nW:=kb (pos:=pos) (env:=f.env) h1
 have hn (P:V->List AO->Prop) (hP:P (.f6 v) st):WE g K f A (.Name x p) m st P (iV g K f m r):=qR C.ok (C.tb.gl _ _ hv) hP ((C.k x).trans hk) (Jf hx).1
 have ha {P:List V->List AO->Prop} (hP: ∀xs st',r=gf T cl mu v xs st'->P xs st'):qS g K f A pos as m st P (iV g K f m r):=WG.bind (S.Hm C) hr.symm aa hP
 cases v with
 | ref a=>
  refine EF (C.tb.kp _ _ hv) (hn _ ⟨rfl,ha λxs st' h2=> ?_⟩) nW
  exact br h2.symm (λp hc _=>ao C.cl λlv hA iY=>TR hA iY C.af hc h2 aa) λ_ h=>C.S9 h.symm aa
 | builtin id=>
  refine Ad (hn _ ⟨rfl,ha λxs st' h2=> ?_⟩) nW
  have h2:r=bC id xs st':=h2
  subst h2
  exact rn C.room id xs aa
 | type t=>
  refine Ae (hn _ ⟨rfl,ha λxs st' h2=> ?_⟩) nW
  have h2:r=gu mu t xs st':=h2
  subst h2
  exact DD C.room mu t xs aa
 | _=>exact ft hov
end
end Mine
namespace Mine
theorem tcw(a:Args):(abn "type.__call__" a).weight<=4/\(abn "type.__call__" a).cUnits<=60/\(abn "type.__call__" a).envs=[]:=by
 have e1:(abn "type.__call__" a).isGuard=(abn "type.__call__" ⟨[],[]⟩).isGuard:=by
  unfold Code.isGuard;rfl
 have e2:(abn "type.__call__" a).frames=(abn "type.__call__" ⟨[],[]⟩).frames:=by
  unfold Code.frames;rfl
 have e4:(abn "type.__call__" a).isCaller=(abn "type.__call__" ⟨[],[]⟩).isCaller:=by
  unfold Code.isCaller;rfl
 have f1:(abn "type.__call__" ⟨[],[]⟩).isGuard=false:=by decide+kernel
 have f2:(abn "type.__call__" ⟨[],[]⟩).frames<=1:=by decide+kernel
 have f4:(abn "type.__call__" ⟨[],[]⟩).isCaller=false:=by decide+kernel
 refine⟨?_,?_,rfl⟩
 ·unfold Code.weight
  rw[e1,e2,e4,f1,f4]
  simp only[abU,if_false]
  split<;>omega
 ·show 1+3* (abn "type.__call__" a).frames<=60
  rw[e2]
  exact Zc f2
section
variable{g:Gl}{K:Kx}{f:Fx}{A:Around}{F:aV}{T:Tb}{cl:Addr->List V->List AO->RE V}{m:M}{st:List AO}{n:Nat}{mu:Bool}{E:Value->Shared->Prop}{D:Dt}{σ:List Addr}{s s':Shared}
theorem bI.under{lv:Nat}(h:bI (lv+1) A)(a:Args):bI lv (A.under (.builtin "type.__call__" a)):=by
 refine bM (tcw a) λh1 h2 h3=> ?_
 refine⟨h.hd,?_,?_⟩
 ·have :=h.dep;simp only[Around.under];exact Zd h1 this
 ·have :=h.un;simp only[Around.under];exact Ze h2 this
theorem AK.under(h:AK K A)(a:Args):AK K (A.under (.builtin "type.__call__" a)):=by
 refine ao h λl h1 h2=> ?_;clear h
 refine⟨l,?_,h2⟩
 show pushEnvs (abn "type.__call__" a).envs A.frames=some l
 rw[(tcw a).2.2]
 exact h1
theorem LM{lv:Nat}{a nY:Addr}{xs:List V}{r1:RE V}(hA:bI (lv+1) A)(H:mX g lv cl)(hF:AK K A)(hN:zU g a nY)(hr:r1=cl nY (.inst a st.length::xs) (st++[.aF []]))(aa:r1≠none)(mi: ∀v st',r1=some (.ok v,st')->v= .none):
  WC g K A (.ref a) xs st (λv st'=>v= .inst a st.length/\r1=some (.ok .none,st')) (NP g K r1):=by
 intro D σ s Q' vs R hv kk
 have X:=R.pI
 obtain⟨h,gens,dr,t,os⟩:=s
 subst hr
 refine make_core (makes_of X hN.1) (looks_findIn X hN.2.1) (λself=>bind_fn X self (beq_iff_eq.mp hN.2.2)) (.inl rfl) ?_
 have n1:h.get? h.objs.size=none:=au
 have n2:h.get? (h.objs.size+1)=none:=ab4 (acN _)
 have kp:Keeps (Shared.mk h gens dr t os) (Shared.mk ((h.push emptyDict).push (instObj a h.objs.size)) gens dr t os):=⟨λb o hb=>aaE _ (aaE _ hb),rfl,rfl⟩
 have g1:((h.push emptyDict).push (instObj a h.objs.size)).get? h.objs.size=some emptyDict:=aaE _ (aaO _ rfl)
 have g2:((h.push emptyDict).push (instObj a h.objs.size)).get? (h.objs.size+1)=some (instObj a h.objs.size):=by heap_get
 refine bM (R.none_of n1) λa1 a2 a3=> ?_
 refine bM (R.none_of n2) λb1 b2 b3=> ?_
 have L1:Le D σ D (σ++[h.objs.size]):=Le.snoc
 have hO:OR g.w.params D (σ++[h.objs.size]) (.aF []) emptyDict:=⟨[],0,rfl,ab5,rfl⟩
 have R1:=(R.keep kp).alloc a1 a2 a3 g1 hO
 have b3':(h.objs.size+1)∉σ++[h.objs.size]:=λhm=>by
  rcases aal.mp hm with hm | hm
  ·exact b3 hm
  ·have :=abb.mp hm;exact Zf this
 have R2:=R1.frozen b1 b2 b3' g2
 have L2:Le D (σ++[h.objs.size]) (D.put (h.objs.size+1) (instObj a h.objs.size)) (σ++[h.objs.size]):=Le.put b1
 have hI:VR g.w.params (D.put (h.objs.size+1) (instObj a h.objs.size)) (σ++[h.objs.size]) (.inst a st.length) (.ref (h.objs.size+1)):=by
  simp only[VR]
  refine⟨_,h.objs.size,rfl,Dt.dN _ _ _,?_⟩
  rw[<-R.sl,aau (aaw _)];simp
 refine codeAny_mono (H (A.under (.builtin "type.__call__" ⟨.ref a::vs,[]⟩)) K nY (.inst a st.length::xs) (st++[.aF []]) (hA.under _) (hF.under _) aa _ _ _ (λv s'=>v= .none/\Q' (.ref (h.objs.size+1)) s') (.ref (h.objs.size+1)::vs) R2 ⟨_,_,rfl,hI,hv.mono (L1.trans L2)⟩ ?_) (λr s' x=> ?_)
 ·intro v st' D' σ' b s' L R' rr q
  have e:=mi v st' q
  subst e
  have e2:b= .none:=rr
  refine⟨e2,kk (.inst a st.length) st' D' σ' _ s' ((L1.trans L2).trans L) R' (hI.mono L) ⟨rfl,q⟩⟩
 ·cases r with
  | ok fl=>cases fl<;>exact x
  | error e=>exact x
end
end Mine
namespace Mine
theorem lF{σ:List Addr}{k n:Nat}{a:Addr}(h:n<k)(h1:σ[n]? =some a):(σ.take k)[n]? =some a:=by rw[List.getElem?_take,if_pos h];exact h1
mutual
theorem VR.cut{P:Params}{D D':Dt}{σ:List Addr}{k:Nat}(hD: ∀a o,D a=some o->D' a=some o): ∀{x:V} {v:Value},cH k x=true->VR P D σ x v->VR P D' (σ.take k) x v
 | .none,_,_,h=>h
 | .bool _,_,_,h=>h
 | .int _,_,_,h=>h
 | .str _,_,_,h=>h
 | .tup xs,_,hb,h=>h.fK λ_ _ _ e h1 h2=>e▸ .xU (hD _ _ h1) (aM.cut hD hb h2)
 | .lst xs,_,hb,h=>h.cA λ_ _ _ e h1 h2=>e▸ .xk (hD _ _ h1) (aM.cut hD hb h2)
 | .nj _ fs,_,hb,h=>h.wL λ_ _ _ _ e h1 h2 h3 h4=>e▸ .Bu (hD _ _ h1) (hD _ _ h2) h3 (bN.cut hD hb h4)
 | .inst _ n,_,hb,h=>cj h λa d h1 h2 h3=>⟨a,d,h1,hD _ _ h2,lF (of_decide_eq_true hb) h3⟩
 | .loc n,_,hb,h=>ao h λa h1 h2=>⟨a,h1,lF (of_decide_eq_true hb) h2⟩
 | .jb _ _ _,_,_,h=>yC h λr t u w h1 h2=>⟨r,t,u,w,h1,hD _ _ h2⟩
 | .f6 _,_,_,h=>h
theorem aM.cut{P:Params}{D D':Dt}{σ:List Addr}{k:Nat}(hD: ∀a o,D a=some o->D' a=some o): ∀{xs:List V} {vs:List Value},aQ k xs=true->aM P D σ xs vs->aM P D' (σ.take k) xs vs
 | [],_,_,h=>h
 | _::_,_,hb,h=>aO (aap.mp hb) λb1 b2=>h.aW λ_ _ e h1 h2=>e▸ .cx (VR.cut hD b1 h1) (aM.cut hD b2 h2)
theorem bN.cut{P:Params}{D D':Dt}{σ:List Addr}{k:Nat}(hD: ∀a o,D a=some o->D' a=some o): ∀{fs:List (Str×V)} {es:List DictEntry},dg k fs=true->bN P D σ fs es->bN P D' (σ.take k) fs es
 | [],_,_,h=>h
 | (_,_)::_,_,hb,h=>aO (aap.mp hb) λb1 b2=>h.aW λ_ _ e h1 h2 h3=>e▸ .cx h1 (VR.cut hD b1 h2) (bN.cut hD b2 h3)
end
section
variable{g:Gl}{K:Kx}{f:Fx}{A:Around}{m:M}{st:List AO}{D:Dt}{σ:List Addr}{s:Shared}
noncomputable def Dt.cut(D:Dt)(σ:List Addr)(k:Nat)(h:Heap):Dt:=λa=>if a∈σ.drop k then h.get? a else D a
theorem Dt.uu{k:Nat}{h:Heap}{a:Addr}(hm:a∈σ.drop k):(D.cut σ k h) a=h.get? a:=if_pos hm
theorem Dt.pb{k:Nat}{h:Heap}{a:Addr}(hm:a∉σ.drop k):(D.cut σ k h) a=D a:=if_neg hm
theorem Dt.ig(R:aP g K D σ st s){k:Nat}: ∀a o,D a=some o->(D.cut σ k s.heap) a=some o:=λa o h=>
 (Dt.pb λhm=>aY ((R.sd a (List.mem_of_mem_drop hm)).1.symm.trans h)).trans h
theorem wz{k n:Nat}{a:Addr}(h1:σ[n]? =some a)(h2: ¬n<k):a∈σ.drop k:=by
 refine aas (i:=n- k) ?_
 rw[List.getElem?_drop,Nat.add_sub_cancel' (Nat.le_of_not_lt h2)];exact h1
theorem wM(R:aP g K D σ st s){k:Nat}{x y:V}{v:Value}(hv:VR g.w.params D σ x v)(h:rM k st x=some y):VR g.w.params (D.cut σ k s.heap) (σ.take k) y v:=by
 have hD:=Dt.ig R (k:=k)
 have gen (h:(if cH k x=true then some x else none)=some y):VR g.w.params (D.cut σ k s.heap) (σ.take k) y v:=
  aR h aN λhb h=>aaj h▸VR.cut hD hb hv
 cases x with
 | loc n=>
  exact bO h (λdc h=>aaj h▸VR.cut hD (x:= .loc n) (decide_eq_true dc) hv) λdc h=>aB h aN λxs hs h=>aR h aN λhb h=>aaj h▸
   ao hv λa e h1=>R.cA (eN hs) h1 λits n' q2 q3=>e▸ .xk ((Dt.uu (wz h1 dc)).trans q2) (aM.cut hD hb q3)
 | inst C n=>
  exact bO h (λdc h=>aaj h▸VR.cut hD (x:= .inst C n) (decide_eq_true dc) hv) λdc h=>aB h aN λfs hs h=>aR h aN λhb h=>aaj h▸
   cj hv λa d e h1 h2=>R.rB (cY hs) h2 λes n' q2 q3 q4=>e▸ .Bu (hD _ _ h1) ((Dt.uu (wz h2 dc)).trans q2) q3 (bN.cut hD hb q4)
 | _=>exact gen h
theorem wN(R:aP g K D σ st s){k:Nat}: ∀{xs ys:List V} {vs:List Value},nk k st xs=some ys->aM g.w.params D σ xs vs->aM g.w.params (D.cut σ k s.heap) (σ.take k) ys vs
 | [],_,_,h,hv=>aaj h▸hv
 | _::_,_,_,h,hv=>aB h aN λy e1 h=>aB h aN λys e2 h=>aaj h▸hv.aW λv r e h4 h5=>e▸ .cx (wM R h4 e1) (wN R e2 h5)
theorem KP(R:aP g K D σ st s){k:Nat}{x y:V}{v:Value}(hv:VR g.w.params D σ x v)(h:OC k st x=some y):VR g.w.params (D.cut σ k s.heap) (σ.take k) y v:=by
 cases x with
 | tup xs=>exact ao (abT.mp h) λys h1 e=>e▸hv.fK λa its n e h2 h3=>e▸ .xU (Dt.ig R _ _ h2) (wN R h1 h3)
 | _=>exact wM R hv h
theorem OR.cut{P:Params}{D':Dt}{k:Nat}(hD: ∀a o,D a=some o->D' a=some o){x:AO}{ob:Obj}(hb:bA k x=true)(h:OR P D σ x ob):OR P D' (σ.take k) x ob:=by
 cases x with
 | lst xs=>exact cc h λits e e1 q3=>⟨its,e,e1,aM.cut hD hb q3⟩
 | aF fs=>exact cj h λes e e1 q3 q4=>⟨es,e,e1,q3,bN.cut hD hb q4⟩
theorem aP.cut(R:aP g K D σ st s){k:Nat}(hk:K.s0.length<=k)(K1:(st.take k).all (bA k)=true):aP g K (D.cut σ k s.heap) (σ.take k) (st.take k) s where
 b0:=R.b0
 d0:=λa o h=>Dt.ig R _ _ (R.d0 a o h)
 s0:=λn a h=>lF (Nat.lt_of_lt_of_le (aar.mp h).1 hk) (R.s0 n a h)
 dh:=λa o h=>by
  by_cases hm:a∈σ.drop k
  ·exact(Dt.uu hm).symm.trans h
  ·exact R.dh a o ((Dt.pb hm).symm.trans h)
 kf:=R.kf
 kp:=R.kp
 kd:=λa ha=>(Dt.pb λhm=>(R.sd a (List.mem_of_mem_drop hm)).2 ha).trans (R.kd a ha)
 so:=λn o h=>by
  have dc:n<k:=by
   have :=(aar.mp h).1
   rw[abu] at this;exact Zg this
  have h':=h
  rw[List.getElem?_take,if_pos dc] at h'
  exact cj (R.so n o h') λa ob q1 q2 q3=>⟨a,ob,lF dc q1,q2,q3.cut (Dt.ig R) (abt.mp K1 o (aas h))⟩
 sd:=λa ha=>⟨(Dt.pb λhd=>(aaQ.mp ((acT k σ).symm▸R.nd)).2.2 a ha a hd rfl).trans (R.sd a (List.mem_of_mem_take ha)).1,(R.sd a (List.mem_of_mem_take ha)).2⟩
 sl:=by rw[abu,abu,R.sl]
 nd:=List.Sublist.nodup (List.take_sublist k σ) R.nd
 gens:=R.gens
 os:=R.os
theorem l9(R:aP g K D σ st s){k:Nat}(hk:K.s0.length<=k){x y:V}{v:Value}{st':List AO}(hv:VR g.w.params D σ x v)(h:freeze k x st=some (.ok y,st')):
  aP g K (D.cut σ k s.heap) (σ.take k) st' s/\VR g.w.params (D.cut σ k s.heap) (σ.take k) y v:=
 aR h aN λK1 h=>aB h aN λz hz h=>by
  cases h
  exact⟨R.cut hk K1,KP R hv hz⟩
end
end Mine
namespace Mine
section
variable{g:Gl}{K:Kx}{f:Fx}{A:Around}{F:aV}{T:Tb}{cl:Addr->List V->List AO->RE V}{m:M}{st:List AO}{n:Nat}{mu:Bool}{E:Value->Shared->Prop}{D:Dt}{σ:List Addr}{s s':Shared}
theorem nV{k:Nat}{x:V}{r:RE V}(h:r=freeze k x st)(aa:r≠none): ∃y,r=some (.ok y,st.take k)/\freeze k x st=some (.ok y,st.take k):=
 aR h.symm aa λ_ h1=>aB h1 aa λy _ h1=>⟨y,h1.symm,h.symm.trans h1.symm⟩
theorem C8(R:aP g K D σ st s):K.s0.length<=st.length:=by
 rw[<-R.sl]
 cases Nat.lt_or_ge σ.length K.s0.length with
 | inr h=>exact h
 | inl h=>
  have :=R.s0 σ.length _ (aaG h)
  rw[aaS (aaw _)] at this
  cases this
theorem ig{D':Dt}{σ':List Addr}{st':List AO}(R:aP g K D σ st s)(L:Le D σ D' σ')(R':aP g K D' σ' st' s'):Le D σ (D'.cut σ' st.length s'.heap) (σ'.take st.length):=
 ⟨λa o h=>Dt.ig R' a o (L.d a o h),λn a h=>by
  have dc:n<st.length:=by rw[<-R.sl];exact(aar.mp h).1
  rw[List.getElem?_take,if_pos dc];exact L.s n a h⟩
theorem Cm{fz:Bool}{a:Addr}{k:Nat}{x:V}{r:RE V}(h:r=uY fz a k x st)(aa:r≠none):x= .none/\r=(bif fz then freeze k (.inst a k) st else ok (.inst a k) st):=
 lN h.symm (λhv h=>⟨DR hv,h.symm⟩) λ_ h=>absurd h.symm aa
theorem E8{lv:Nat}{a nY:Addr}{fz:Bool}{xs:List V}{r:RE V}(hT:Il g T)(hA:bI (lv+1) A)(H:mX g lv cl)(hF:AF K f A)(hc:T.cls a=some (nY,fz))(hr:r=gf T cl mu (.ref a) xs st)(aa:r≠none):
  Io g K f m A (.ref a) xs st (cR r) (iV g K f m r):=by
 have hr:r=(cl nY (.inst a st.length::xs) (st++[.aF []])).bind (uY fz a st.length):=hr.trans (jv hc)
 generalize Nw:cl nY (.inst a st.length::xs) (st++[.aF []])=r1 at hr
 have uH:r1≠none:=λq=>aa (hr.trans (congrArg (RE.bind · _) q))
 have at': ∀{v st'},r1=some (.ok v,st')->r=uY fz a st.length v st':=λq=>hr.trans (congrArg (RE.bind · _) q)
 intro K' I D σ s Q' vs R hv kk
 refine codeAny_mono (LM hA H (I.af hF) (hT.cls _ _ _ hc) Nw.symm uH (λv st' q=>(Cm (at' q) aa).1) D σ s Q' vs R hv λv st' D' σ' b s' L R' rr q=> ?_) (λr' s' x=> ?_)
 ·have h2:=(Cm (at' q.2) aa).2
  have rr:VR g.w.params D' σ' (.inst a st.length) b:=q.1▸rr
  cases fz with
  | false=>exact kk _ st' D' σ' b s' L R' rr h2
  | true=>exact ao (nV h2 aa) λy h1 h2=>aO (l9 R' (C8 R) rr h2) λSU v''=>kk y _ _ _ b s' (ig R L R') SU v'' h1
 ·cases r' with
  | ok fl=>cases fl<;>exact x
  | error e=>exact cc x λx st' q X=>⟨x,st',hr.trans (congrArg (RE.bind · _) q),I.xc X⟩
end
end Mine
namespace Mine
noncomputable def zW(s:Stmt):SV->Prop
 | .expr e=>cC e=false/\ ∃p,s= .Expr e p
 | .ret e=> ∃p,s= .Return e p
 | .ite t b o=> ∃p,s= .If t b o p
 | .Ea x e=> ∃xp p,s= .Assign [.Name x xp] e p
 | .Kc o name e=>cC e=false/\ ∃ap p,s= .Assign [.Attribute o name ap] e p
 | .Ke o i e=>cC e=false/\ ∃ip p,s= .Assign [.Subscript o i ip] e p
 | .Kf ts e=>(cC e=false/\(tu e).isSome=false)/\ ∃k tp p,s= .Assign [.Tuple ts k tp] e p
 | .for t e b=> ∃p,s= .For t e b [] p
 | .while t b=> ∃p,s= .While t b [] p
 | .try c x y b=> ∃h p,s= .Try b [h] [] [] p/\zC h=some (c,x,y)
 | .no=>True
theorem HQ{t e:Expr}{p:Pos}:zW (.Assign [t] e p) (RG t e):=by
 cases t with
 | Name x q=>exact⟨q,p,rfl⟩
 | Attribute o name q=>exact eY (P:=zW _) (λ_=>trivial) λh=>⟨h,q,p,rfl⟩
 | Subscript o i q=>exact eY (P:=zW _) (λ_=>trivial) λh=>⟨h,q,p,rfl⟩
 | Tuple ts k q=>exact eY (P:=zW _) (λ_=>trivial) λh=>⟨sv h,k,q,p,rfl⟩
 | _=>trivial
theorem HY{b:List Stmt}{hs:List ExceptHandler}{o fb:List Stmt}{p:Pos}:zW (.Try b hs o fb p) (RN b hs o fb):=by
 cases hs with
 | nil=>trivial
 | cons h hs=>
  cases hs with
  | cons _ _=>trivial
  | nil=>
   show zW _ (match zC h with | some (c,x,y)=>bif o.isEmpty&&fb.isEmpty then .try c x y b else .no | none=> .no)
   cases q:zC h with
   | none=>trivial
   | some w=>exact eY (P:=zW _) (λe=>aO (aap.mp e) λe1 e2=>⟨h,p,by rw[acX.mp e1,acX.mp e2],q⟩) λ_=>trivial
theorem DT(s:Stmt):zW s (iH s):=by
 cases s with
 | Expr e p=>exact eY (P:=zW _) (λ_=>trivial) λh=>⟨h,p,rfl⟩
 | Return e p=>exact⟨p,rfl⟩
 | If t b o p=>exact⟨p,rfl⟩
 | Assign ts e p=>
  cases ts with
  | nil=>trivial
  | cons t ts=>
   cases ts with
   | nil=>exact HQ
   | cons _ _=>trivial
 | For t e b o p=>exact eY (P:=zW _) (λh=>acX.mp h▸⟨p,rfl⟩) λ_=>trivial
 | While t b o p=>exact eY (P:=zW _) (λh=>acX.mp h▸⟨p,rfl⟩) λ_=>trivial
 | Try b hs o fb p=>exact HY
 | _=>trivial
structure oJ(T:Tb)(cl:Addr->List V->List AO->RE V)(n:Nat):Prop where
 xS: ∀{g K f A F m st s},Cx g K f A F T cl->F.top=true-> ∀r,r=dS T cl n F m st s->r≠none->qT g K f A (exec s f.env) m st (Nh r) (tI g K f r)
 Nc: ∀{g K f A F m st ss},Cx g K f A F T cl->F.top=true-> ∀r,r=aT T cl n F m st ss->r≠none->WS g K f A ss m st (Nh r) (tI g K f r)
section
variable{g:Gl}{K:Kx}{f:Fx}{A:Around}{F:aV}{T:Tb}{cl:Addr->List V->List AO->RE V}{m:M}{st:List AO}{n:Nat}{mu:Bool}{E:Value->Shared->Prop}{D:Dt}{σ:List Addr}{s s':Shared}
abbrev hZ(g:Gl)(K:Kx)(f:Fx)(A:Around)(F:aV)(T:Tb)(cl:Addr->List V->List AO->RE V)(n:Nat)(m:M)(st:List AO)(s:Stmt)(w:SV):Prop:= ∀r,r=Nd T (dY T cl n) (mW T cl n) F m st w->r≠none->qT g K f A (exec s f.env) m st (Nh r) (tI g K f r)
theorem Mr{x:Str}{v:V}{m':M}(h:putN F m x v=some m'):m'=bV m x v/\(F.sc.lookup x=some .local\/F.sc.lookup x=some .cell/\F.top=true):=by
 unfold putN at h
 cases q:F.sc.lookup x with
 | none=>rw[q] at h;exact aY h
 | some z=>
  rw[q] at h
  cases z with
  | «local»=>exact⟨(aaj h).symm,.inl rfl⟩
  | cell=>exact aR h aN λht h=>⟨(aaj h).symm,.inr ⟨rfl,ht⟩⟩
  | _=>exact aY h
theorem iR(C:Cx g K f A F T cl){x:Str}{v:V}{m':M}{Q:M->List AO->Prop}(h:putN F m x v=some m')(hQ:Q m' st):WA g K f A (storeName f.env x) v m st Q E:=
 aO (Mr h) λe h=>h.elim (λhk=>z9 C.ok ((C.k x).trans hk) (e▸hQ)) λhk=>ao (C.cells x _ hk.1 (.inl rfl)) λc h1 h2=>EB C.ok ((C.k x).trans hk.1) h1 (h2 hk.2 rfl) (λy hy=>C.inj hk.2 y x c hy h1) (e▸hQ)
theorem zY(S:f9 T cl n)(C:Cx g K f A F T cl){e:Option Expr}{pos:Pos}:hZ g K f A F T cl n m st (.Return e pos) (.ret e):=by
 intro r hr aa
 cases e with
 | some e=>exact nO (WG.b7 (S.sE C) hr aa λv st1 h1=>h1)
 | none=>exact λD σ s Q' R k=>wpAny_Return_none (k (.ret .none) m st D σ _ s Le.refl R ⟨_,rfl,rfl⟩ hr)
theorem SY(S:f9 T cl n)(X:oJ T cl n)(C:Cx g K f A F T cl)(ht:F.top=true){t:Expr}{b o:List Stmt}{pos:Pos}:hZ g K f A F T cl n m st (.If t b o pos) (.ite t b o):=λr hr aa=>
 N0 (WG.b7 (S.sT C) hr aa λc st1 h1=>⟨λhc=>X.Nc C ht r (hc▸h1:r=aT T cl n F m st1 (bif true then b else o)) aa,λhc=>X.Nc C ht r (hc▸h1:r=aT T cl n F m st1 (bif false then b else o)) aa⟩)
theorem j2{e:Expr}{line:Nat}{env:Env}{t:Option Expr}(h:cC e=false):swapsWith e t line env=pure false:=by
 cases e with
 | ListComp _ _ _ _=>exact tf h
 | SetComp _ _ _ _=>exact tf h
 | DictComp _ _ _ _ _=>exact tf h
 | _=>rfl
theorem JN(S:f9 T cl n)(C:Cx g K f A F T cl){e:Expr}{pos:Pos}(h:cC e=false):hZ g K f A F T cl n m st (.Expr e pos) (.expr e):=λr hr aa=>
 EI C.ok (WG.b7 (S.sE C) hr aa λv st1 h1=>h1) (j2 h)
theorem Dc(X:oJ T cl n)(C:Cx g K f A F T cl)(ht:F.top=true){ss:List Stmt}: ∀r,r=aT T cl (n+1) F m st ss->r≠none->WS g K f A ss m st (Nh r) (tI g K f r):=by
 intro r hr aa
 cases ss with
 | nil=>exact J7 hr
 | cons s ss=>
  have hr:r=(dS T cl n F m st s).sq λm st=>aT T cl n F m st ss:=hr
  generalize h1:dS T cl n F m st s=r1 at hr
  have uH:r1≠none:=λq=>aa (hr.trans (congrArg (RS.sq · _) q))
  refine vY (qT.mono (X.xS C ht r1 h1.symm uH) (λfl m' st' q=> ?_) (λe s q=>gF q λx m' st' q X'=>⟨x,m',st',hr.trans (congrArg (RS.sq · _) q),X'⟩))
  have hr:=hr.trans (congrArg (RS.sq · _) (q:r1=some (.ok fl,m',st')))
  cases fl with
  | next=>exact X.Nc C ht r hr aa
  | _=>exact hr
end
end Mine
namespace Mine
section
variable{g:Gl}{K:Kx}{f:Fx}{A:Around}{F:aV}{T:Tb}{cl:Addr->List V->List AO->RE V}{m:M}{st:List AO}{n:Nat}{mu:Bool}{E:Value->Shared->Prop}{D:Dt}{σ:List Addr}{s s':Shared}
theorem sN(C:Cx g K f A F T cl): ∀{ts:List Expr} {vs:List V} {m m':M},jW F m ts vs=some m'->(assignEach ts f.env).length=vs.length/\(assignEach ts f.env).findIdx? (·.1)=none/\
  ∀{D:Dt} {σ:List Addr} {s:Shared} {us:List Value} {Q':Unit->Shared->Prop},Rel g K f D σ m st s->aM g.w.params D σ vs us->(∀D' σ' s',Le D σ D' σ'->Rel g K f D' σ' m' st s'->Q' () s')->
   wpAny (model cS g.w) A (assignInOrder ((assignEach ts f.env).map (·.2)) us) Q' E s
 | [],[],_,_,h=>⟨rfl,rfl,λ{D σ s us Q'} R hv k=>hv.dp▸wpAny_pure (k D σ _ Le.refl (aaj h▸R))⟩
 | [],_::_,_,_,h=>aY h
 | _::_,[],_,_,h=>aY h
 | t::ts,v::vs,m,m',h=>aB h aN λx hx h=>aB h aN λm1 h1 h=>aj (gx hx) λp et=>bM (sN C h) λe2 e3 e4=>by
  subst et
  refine⟨congrArg (· +1) e2,?_,λ{D σ s us Q'} R hv k=>hv.aW λu r e h2 h3=>e▸ ?_⟩
  ·show List.findIdx? (·.1) ((false,assign (.Name x p) f.env)::assignEach ts f.env)=none
   rw[List.findIdx?_cons,e3];rfl
  ·have W:=iR (Q:=λm2 st2=>m2=m1/\st2=st) (E:=E) C h1 ⟨rfl,rfl⟩
   exact PyProof.Rows.assignInOrder_cons (wpAny_assign_Name (W D σ s _ u R h2 λm2 st2 D1 σ1 s1 L1 R1 q=>e4 (q.1▸q.2▸R1) (h3.mono L1) λD2 σ2 s2 L2 R2=>k D2 σ2 s2 (L1.trans L2) R2))
theorem sQ(C:Cx g K f A F T cl){ts:List Expr}{kk:Nat}{p:Pos}{v:V}{m':M}{Q:M->List AO->Prop}(h:(match v with | .tup vs=>if vs.length<=100 then jW F m ts vs else none | _=>none)=some m')(hQ:Q m' st):WA g K f A (assign (.Tuple ts kk p) f.env) v m st Q E:=by
 cases v with
 | tup vs=>
  exact aR h aN λhz h=>bM (sN (E:=E) (st:=st) C h) λe2 e3 e4=>λD σ s Q' u R hv k=>hv.fK λa its n e h1 h2=>e▸
   wpAny_assign_Tuple C.room.hd ⟨_,R.r.dh _ _ h1,rfl,n,rfl⟩ (by rw[e2,aM.size h2]) e3 λh' hx=>
    have kp:Keeps s {s with heap:=h'}:=⟨λb o hb=>hx b o (Nat.ne_of_lt (abX hb)) hb,rfl,rfl⟩
    e4 (R.keep kp) h2 λD' σ' s' L R'=>k m' st D' σ' s' L R' hQ
 | _=>exact aY h
theorem xY{e:Expr}{ts:List Expr}(h:tu e=some ts): ∃k p,e= .Tuple ts k p:=by
 cases e with
 | Tuple us k p=>exact⟨k,p,congrArg (Expr.Tuple · k p) (aaj h)⟩
 | _=>exact aY h
theorem G3(C:Cx g K f A F T cl){t:Expr}{v:V}{m':M}{Q:M->List AO->Prop}(h:sP F m t v=some m')(hQ:Q m' st):WA g K f A (assign t f.env) v m st Q E:=by
 unfold sP at h
 cases q:gv t with
 | some x=>
  rw[q] at h
  exact aj (gx q) λp e=>e▸λD σ s Q' u R hv k=>wpAny_assign_Name (iR (Q:=Q) (E:=E) C h hQ D σ s Q' u R hv k)
 | none=>
  rw[q] at h
  exact aB h aN λts Pf h=>eJ (xY Pf) λk p e=>e▸sQ C h hQ
theorem uh{ts:List Expr}{kk:Nat}{tp pos:Pos}{e:Expr}{Q:Fl->M->List AO->Prop}
  (h:WE g K f A e m st (λa bK=>WA g K f A (assign (.Tuple ts kk tp) f.env) a m bK (λm₂ d7=>Q .next m₂ d7) E) E)
  (hs:swapsWithSole [.Tuple ts kk tp] e pos.line f.env=pure false) (hw:swappedStores [.Tuple ts kk tp] e f.env=pure none):qT g K f A (exec (.Assign [.Tuple ts kk tp] e pos) f.env) m st Q E:=by
 intro D σ s Q' R k
 refine PyProof.Rows.Assign_Tuple (h D σ s _ R λa bK D₁ σ₁ v s₁ L₁ R₁ r₁ h₁=> ?_) hs hw
 exact h₁ D₁ σ₁ s₁ _ v R₁ r₁ λm₂ d7 D₂ σ₂ s₂ L₂ R₂ h₂=>k .next m₂ d7 D₂ σ₂ _ s₂ (L₁.trans L₂) R₂ rfl h₂
theorem oz{ts:List Expr}{kk:Nat}{tp:Pos}{e:Expr}{line:Nat}{env:Env}(h:cC e=false/\(tu e).isSome=false):swapsWithSole [.Tuple ts kk tp] e line env=pure false/\swappedStores [.Tuple ts kk tp] e env=pure none:=by
 cases e with
 | ListComp _ _ _ _=>exact tf h.1
 | SetComp _ _ _ _=>exact tf h.1
 | DictComp _ _ _ _ _=>exact tf h.1
 | Tuple _ _ _=>exact tf h.2
 | _=>exact⟨rfl,rfl⟩
theorem xv{o:Option M}{r:RS}(h:r=Cu o st)(aa:r≠none): ∃m',o=some m'/\r=k8 .next m' st:=aB h.symm aa λm' h1 h2=>⟨m',h1,h2.symm⟩
theorem Jg{o:Option (List AO)}{r:RS}(h:r=Sy o m)(aa:r≠none): ∃st',o=some st'/\r=k8 .next m st':=aB h.symm aa λm' h1 h2=>⟨m',h1,h2.symm⟩
theorem yj(S:f9 T cl n)(C:Cx g K f A F T cl){ts:List Expr}{kk:Nat}{tp pos:Pos}{e:Expr}(h:cC e=false/\(tu e).isSome=false):hZ g K f A F T cl n m st (.Assign [.Tuple ts kk tp] e pos) (.Kf ts e):=λr hr aa=>
 uh (WG.b7 (S.sE C) hr aa λv st1 h1=>ao (xv h1 aa) λm' hm h1=>sQ C hm h1) (oz h).1 (oz (line:=0) h).2
end
end Mine
namespace Mine
section
variable{g:Gl}{K:Kx}{f:Fx}{A:Around}{F:aV}{T:Tb}{cl:Addr->List V->List AO->RE V}{m:M}{st:List AO}{n:Nat}{mu:Bool}{E:Value->Shared->Prop}{D:Dt}{σ:List Addr}{s s':Shared}
theorem ML{x:V}{name:Str}{v:V}{st':List AO}(h:MK T x name v st=some st'): ∃Cc k,x= .inst Cc k/\T.attr Cc name=true/\Df (.inst Cc k) name v st=some st':=by
 cases x with
 | inst Cc k=>exact aR h aN λha h=>⟨Cc,k,rfl,ha,h⟩
 | _=>exact aY h
theorem yf(S:f9 T cl n)(C:Cx g K f A F T cl){o e:Expr}{name:Str}{p pos:Pos}(h:cC e=false):hZ g K f A F T cl n m st (.Assign [.Attribute o name p] e pos) (.Kc o name e):=λr hr aa=>
 m5 (WG.b7 (S.sE C) hr aa λv st1 h1=>WG.b7 (S.sE C) h1 aa λx st2 h2=>ao (Jg h2 aa) λvE h3 h2=>cj (ML h3) λCc k e ha h3=>e▸Ht C.tb ha h3 h2) (j2 h)
theorem yh(S:f9 T cl n)(C:Cx g K f A F T cl){o i e:Expr}{p pos:Pos}(h:cC e=false):hZ g K f A F T cl n m st (.Assign [.Subscript o i p] e pos) (.Ke o i e):=λr hr aa=>
 oQ (WG.b7 (S.sE C) hr aa λv st1 h1=>WG.b7 (S.sE C) h1 aa λx st2 h2=>WG.b7 (S.sE C) h2 aa λy vE h3=>ao (Jg h3 aa) λRu h4 h3=>Hu x y v h4 h3) (j2 h)
theorem yi(S:f9 T cl n)(C:Cx g K f A F T cl){x:Str}{e:Expr}{p pos:Pos}(h:cC e=false):hZ g K f A F T cl n m st (.Assign [.Name x p] e pos) (.Ea x e):=λr hr aa=>
 nN (WG.b7 (S.sE C) hr aa λv st1 h1=>ao (xv h1 aa) λm' hm h1=>iR C hm h1) (j2 h)
end
end Mine
namespace Mine
section
variable{g:Gl}{K:Kx}{f:Fx}{A:Around}{m:M}{st:List AO}{E:Value->Shared->Prop}{D:Dt}{σ:List Addr}{s s' C7:Shared}
structure Nt(F X:Addr->Prop)(s s':Shared):Prop where
 h: ∀b o,s.heap.get? b=some o-> ¬X b-> ∃sl,s'.heap.get? b=some {o with slots:=sl}
 k: ∀b o,s.heap.get? b=some o-> ¬X b-> ¬F b->s'.heap.get? b=some o
 gens:s'.gens=s.gens
 os:s'.os=s.os
theorem Nt.trans{F X:Addr->Prop}(x:Nt F X s s')(y:Nt F X s' C7):Nt F X s C7:=
 ⟨λb o h n=>let⟨_,h1⟩:=x.h b o h n;let⟨sl,h2⟩:=y.h b _ h1 n;⟨sl,h2⟩,λb o h n nf=>y.k b o (x.k b o h n nf) n nf,y.gens.trans x.gens,y.os.trans x.os⟩
theorem Nt.mono{F X X':Addr->Prop}(x:Nt F X s s')(h: ∀b,X b->X' b):Nt F X' s s':=
 ⟨λb o hb n=>x.h b o hb λq=>n (h b q),λb o hb n nf=>x.k b o hb (λq=>n (h b q)) nf,x.gens,x.os⟩
theorem aP.nt{F X:Addr->Prop}(R:aP g K D σ st s)(k:Nt F X s s')(hX: ∀a,X a->eV (· ∈K.cm) D σ a)(hF: ∀a,F a->D a=none/\a∉σ/\a∉K.kept.map (·.1)):aP g K D σ st s' where
 b0:=R.b0
 d0:=R.d0
 s0:=R.s0
 dh:=λa o h=>k.k a o (R.dh a o h) (λq=>by have :=(hX a q).1;rw[h] at this;cases this) (λq=>by have :=(hF a q).1;rw[h] at this;cases this)
 kf:=λp hp=>by
  refine aj (R.kf p hp) λsl h=> ?_
  refine aj (k.h _ _ h λq=>(hX _ q).2.2 (Kx.hf hp)) λsl' h'=> ?_
  exact⟨sl',h'⟩
 kp:=λp hp=>k.k _ _ (R.kp p hp) (λq=>(hX _ q).2.2 (Kx.hk hp)) (λq=>(hF _ q).2.2 (aa7 hp))
 kd:=R.kd
 so:=λn o h=>let⟨a,ob,q1,q2,q3⟩:=R.so n o h;⟨a,ob,q1,k.k a ob q2 (λq=>(hX _ q).2.1 (aas q1)) (λq=>(hF _ q).2.1 (aas q1)),q3⟩
 sd:=R.sd
 sl:=R.sl
 nd:=R.nd
 gens:=k.gens.trans R.gens
 os:=k.os.trans R.os
theorem Rel.nt{F X:Addr->Prop}(R:Rel g K f D σ m st s)(k:Nt F X s s')(hX: ∀a,X a->eV (λa=>a∈K.cm\/a∈f.fa) D σ a)(hF: ∀a,F a->D a=none/\a∉σ/\a∉K.kept.map (·.1)/\a∉f.own):Rel g K f D σ m st s' where
 r:=R.r.nt k (λa q=>let h:=hX a q;⟨h.1,h.2.1,λz=>h.2.2 (.inl z)⟩) (λa q=>let h:=hF a q;⟨h.1,h.2.1,h.2.2.1⟩)
 fd:=R.fd
 fn:=R.fn
 fr:=ao R.fr λmm q q3=>gF q λoL es ep q1 q2=>aj (k.h _ _ q1 λq=>(hX _ q).2.2 (.inr aak)) λsl h1=>⟨mm,⟨_,es,ep,h1,q2⟩,λx v hv=>(q3 x v hv).go (λ_ h=>h) λc o _ hc ho=>k.k _ _ ho (λq=>(hX _ q).2.2 (.inr (aai _ hc))) λq=>(hF _ q).2.2.2 hc⟩
 oc:=λc hc=>cc (R.oc c hc) λv o' h1 h2=>⟨v,o',k.k _ _ h1 (λq=>(hX _ q).2.2 (.inr (aai _ hc))) (λq=>(hF _ q).2.2.2 hc),h2⟩
noncomputable abbrev Ih(K:Kx)(f:Fx):Addr->Prop:=λL=>L=f.L\/OB K L
theorem Rel.Nl(R:Rel g K f D σ m st s){a:Addr}(h:Ih K f a):D a=none/\a∉σ/\a∉K.kept.map (·.1)/\a∉f.own:=by
 rcases h with rfl | h
 ·have h1:=R.fd f.L aak
  exact⟨h1.1,h1.2.2,λq=>h1.2.1 (aa2 _ q),(aaK.mp R.fn).1⟩
 ·refine aO h.mem λh1 h2=> ?_
  have h3:a∈K.cm:=aaZ _ h1
  exact⟨R.r.kd a h3,λq=>(R.r.sd a q).2 h3,h2,λq=>(R.fd a (aai _ q)).2.1 h3⟩
theorem Rel.IL(R:Rel g K f D σ m st s){a:Addr}(h:Ih K f a): ∃o es ep,s.heap.get? a=some o/\o.data= .dict es ep:=by
 rcases h with rfl | ⟨⟨o,es,ep,h1,h2⟩,_⟩
 ·refine ao R.fr ?_;rintro mm ⟨oL,es,ep,q1,q2,_⟩ _
  exact⟨oL,es,ep,q1,q2⟩
 ·refine aj (R.r.kf _ h1) λsl h3=> ?_
  exact⟨_,es,ep,h3,h2⟩
theorem kn{kZ:Addr->Prop}{h:Heap}(hO: ∀a,kZ a-> ∃o es ep,h.get? a=some o/\o.data= .dict es ep): ∀{l:List Env},(∀env∈l,env.scope.kind≠ .module/\ ∃L,env.frame=some L/\kZ L)->h.FunFrames {} l
 | [],_=>trivial
 | env::l,hl=>by
  obtain⟨h1,L,h2,h3⟩:=hl env aak
  refine gF (hO L h3) λo es ep h4 h5=> ?_
  exact⟨h1,⟨L,o,h2,rfl,h4,λvs q=>by rw[h5] at q;cases q⟩,kn hO λe he=>hl e (aai _ he)⟩
theorem lr{kZ:Addr->Prop}: ∀{l:List Env},(∀env∈l,env.scope.kind≠ .module/\ ∃L,env.frame=some L/\kZ L)-> ∀a∈l.filterMap (·.frame),kZ a:=by
 intro l hl a ha
 refine iA ha λenv he h1=> ?_
 obtain⟨_,L,h2,h3⟩:=hl env he
 rw[h2] at h1;cases h1;exact h3
theorem Lz{o:Obj}{vs:Array Value}(hd:o.data= .fields vs)(F:Array Value->Array Value):(o.mapFields F).cls=o.cls/\(o.mapFields F).dict=o.dict/\(o.mapFields F).data= .fields (F vs):=by
 obtain⟨c,d,dt,sl⟩:=o
 subst hd
 exact⟨rfl,rfl,rfl⟩
theorem qb{F X:Addr->Prop}{a:Addr}(G:Obj->Obj)(hX:X a):Nt F X s {s with heap:=s.heap.update a G}:=by
 have h: ∀b o,s.heap.get? b=some o-> ¬X b->(s.heap.update a G).get? b=some o:=λb o h n=>(aa3 _ _ (λe:a=b=>n (e▸hX))).trans h
 exact⟨λb o h1 n=>⟨o.slots,h b o h1 n⟩,λb o h1 n _=>h b o h1 n,rfl,rfl⟩
theorem sm{F X:Addr->Prop}{S:List Addr}{h':Heap}(H:Heap.SlotsOnly S s.heap h')(hS: ∀a∈S,F a):Nt F X s {s with heap:=h'}:=
 ⟨λb o h n=>H.2.2 b o h,λb o h n nf=>(H.2.1 b λq=>nf (hS b q)).trans h,rfl,rfl⟩
theorem xt{F X:Addr->Prop}{o:Obj}:Nt F X s {s with heap:=s.heap.push o}:=
 ⟨λb o h n=>⟨o.slots,aaE _ h⟩,λb o h n _=>aaE _ h,rfl,rfl⟩
noncomputable abbrev tV(g:Gl)(K:Kx)(f:Fx):=Ew g (λa=>a∈K.cm\/a∈f.fa) (λv=>v= .none\/v=rawInt f.L)
theorem qa{x:Ex}{e:Value}{Q:Unit->Shared->Prop}(R:Rel g K f D σ m st s)(pE:f.env.frame=some f.L)(hF:AF K f A)(hf: ∃l,A.frames=some (f.env::l))(X:tV g K f D σ x e s)
  (k: ∀s',Rel g K f D σ m st s'->tV g K f D σ x e s'->Q () s'):wpAny (model cS g.w) A (noteFrame e f.env) Q E s:=by
 refine cc X λea tb ee F=> ?_
 subst ee
 refine jK λG kG=> ?_
 obtain⟨oe,d,es,n,vs,e1,e2,e3,e4,e5,e6,e7⟩:=F.e
 obtain⟨ot,ts,v,t1,t2,t3,t4⟩:=F.t
 refine kG ?_
 rcases t4 with rfl | rfl
 ·refine aj hf λl hl=> ?_;clear hf
  refine ao hF λl' q1 q2=> ?_;clear hF
  rw[hl] at q1;cases q1
  unfold noteFrame
  simp only[pE]
  refine wpAny_bind (wpAny_field e1 e4 e5 ?_)
  rw[if_pos (show(abp tb !=Value.none)=true from by simp)]
  refine wpAny_bind (wpAny_field t1 t2 t3 ?_)
  rw[if_neg (show¬((Value.none==rawInt f.L)=true) from by simp[rawInt])]
  refine wpAny_bind (wpAny_setField t1 t2 (aa0.mp t3).1 ?_)
  have N1:=qb (s:=s) (F:=Ih K f) (X:=λb=>b=ea\/b=tb) (ac5 (·.setIfInBounds 3 Value.none)) (a:=tb) (.inr rfl)
  have hX: ∀a,a=ea\/a=tb->eV (λa=>a∈K.cm\/a∈f.fa) D σ a:=λa h=>h.elim (λh=>h▸F.fe) (λh=>h▸F.ft)
  have R1:=R.nt N1 hX λa h=>R.Nl h
  have e1':(s.heap.update tb (ac5 (·.setIfInBounds 3 Value.none))).get? ea=some oe:=(aa3 _ _ F.ne).trans e1
  refine wpAny_bind (wpAny_frameOf_fun hl (kn (λa h=>R1.IL h) q2) pE λh1 pG=> ?_)
  have N2:=sm (X:=λb=>b=ea\/b=tb) pG (lr q2)
  have R2:=R1.nt N2 hX λa h=>R1.Nl h
  refine wpAny_bind (wpAny_entryPlaceOf λpl hH=> ?_)
  unfold EntryCells.newEntry newFields
  refine wpAny_bind (wpAny_newObj_type ?_ (hH.sizeOk5 _ _ _ _ _))
  have Ue:ea∉(f.env::l).filterMap (·.frame):=λq=>by
   rcases lr q2 _ q with h | h
   ·exact F.fe.2.2 (.inr (h▸aak))
   ·exact F.fe.2.2 (.inl (aaZ _ h.mem.1))
  have e1'':h1.get? ea=some oe:=(pG.2.1 ea Ue).trans e1'
  generalize hT:({cls:= .type "traceback",dict:=none,data:= .fields ([abp tb,abp f.L,Value.none,rawInt f.L,Value.none]++(if pl.isEmpty then aaB 6 Value.none else pl)).toArray}:Obj)=T
  have TK:T.data= .fields ([abp tb,abp f.L,Value.none,rawInt f.L,Value.none]++(if pl.isEmpty then aaB 6 Value.none else pl)).toArray:=by rw[<-hT]
  have TL:T.isFreed=false:=by rw[<-hT];rfl
  have e1p:(h1.push T).get? ea=some oe:=aaE _ e1''
  refine wpAny_setField e1p e4 (aa0.mp e5).1 ?_
  have N3:=xt (s:={s with heap:=h1}) (F:=Ih K f) (X:=λb=>b=ea\/b=tb) (o:=T)
  have N4:=qb (s:={s with heap:=h1.push T}) (F:=Ih K f) (X:=λb=>b=ea\/b=tb) (ac5 (·.setIfInBounds 1 (abp h1.objs.size))) (a:=ea) (.inl rfl)
  have R4:=R2.nt (N3.trans N4) hX λa h=>R2.Nl h
  have hz:h1.objs.size=s.heap.objs.size:=pG.1.trans (by exact Heap.size_after_update ..)
  have jL:=R.none_of (a:=h1.objs.size) (by rw[hz];exact au)
  have aa:h1.objs.size≠ea:=Nat.ne_of_gt (abX e1'')
  refine bM (Lz e4 (·.setIfInBounds 1 (abp h1.objs.size))) λm1 m2 m3=> ?_
  refine k _ R4 ⟨ea,h1.objs.size,rfl,⟨_,d,es,n,_,aa1 _ e1p (Obj.isFreed_of_fields m3),m1.trans e2,m2.trans e3,m3,?_,e6,e7⟩,⟨T,_,rawInt f.L,?_,TK,by simp,.inr rfl⟩,aa,F.fe,⟨jL.1,jL.2.2.1,λq=>q.elim jL.2.1 jL.2.2.2⟩⟩
  ·simp[(aa0.mp e5).1]
  ·exact(aa3 _ _ (Ne.symm aa)).trans (aaO _ TL)
 ·exact wpAny_noteFrame_inFlight pE e1 e4 e5 t1 t2 t3 (k s R ⟨ea,tb,rfl,F⟩)
theorem gk{x:Ex}{e:Value}{fr:Option Addr}{Q:Unit->Shared->Prop}(R:Rel g K f D σ m st s)(X:tV g K f D σ x e s)
  (k: ∀s',Rel g K f D σ m st s'->Ew g (λa=>a∈K.cm\/a∈f.fa) (λv=>v=fr.elim .none λf=>rawInt f) D σ x e s'->Q () s'):wpAny (model cS g.w) A (setFlight e fr) Q E s:=by
 refine cc X λea tb ee F=> ?_
 subst ee
 refine jK λG kG=> ?_
 obtain⟨oe,d,es,n,vs,e1,e2,e3,e4,e5,e6,e7⟩:=F.e
 obtain⟨ot,ts,v,t1,t2,t3,t4⟩:=F.t
 refine kG ?_
 unfold setFlight
 refine wpAny_bind (wpAny_field e1 e4 e5 ?_)
 rw[if_pos (show(abp tb !=Value.none)=true from by simp)]
 refine wpAny_setField t1 t2 (aa0.mp t3).1 ?_
 have N1:=qb (s:=s) (F:=Ih K f) (X:=λb=>b=ea\/b=tb) (ac5 (·.setIfInBounds 3 (fr.elim Value.none λf=>rawInt f))) (a:=tb) (.inr rfl)
 have hX: ∀a,a=ea\/a=tb->eV (λa=>a∈K.cm\/a∈f.fa) D σ a:=λa h=>h.elim (λh=>h▸F.fe) (λh=>h▸F.ft)
 have R1:=R.nt N1 hX λa h=>R.Nl h
 refine bM (Lz t2 (·.setIfInBounds 3 (fr.elim Value.none λf=>rawInt f))) λm1 m2 m3=> ?_
 refine k _ R1 ⟨ea,tb,rfl,⟨_,d,es,n,_,(aa3 _ _ F.ne).trans e1,e2,e3,e4,e5,e6,e7⟩,⟨_,_,_,aa1 _ t1 (Obj.isFreed_of_fields m3),m3,?_,rfl⟩,F.ne,F.fe,F.ft⟩
 simp[(aa0.mp t3).1]
theorem rt{x:Ex}{e:Value}(R:Rel g K f D σ m st s)(pE:f.env.frame=some f.L)(X:tV g K f D σ x e s)(k: ∀s',Rel g K f D σ m st s'->tV g K f D σ x e s'->E e s'):cameBackBy (model cS g.w) A f.env E e s:=by
 have X':=X
 refine cc X ?_;clear X;rintro ea tb rfl F
 obtain⟨oe,d,es,n,vs,e1,e2,e3,e4,e5,e6,e7⟩:=F.e
 unfold cameBackBy
 refine wpAny_bind (wpAny_field e1 e4 e5 ?_)
 rw[if_neg (show¬(abp tb==Value.none)=true from by simp)]
 exact gk R X' λs' R' X''=>k s' R' (X''.mono (λ_ h=>h) λv h=> .inr (by rw[h,pE];rfl))
theorem passes{F:aV}{T:Tb}{cl:Addr->List V->List AO->RE V}{r:RS}(C:Cx g K f A F T cl)(ht:F.top=true):PassesOwn (model cS g.w) A f.env (tI g K f r):=by
 intro e s' h
 obtain⟨x,m,st,h1,D,σ,R,X⟩:=h
 refine qa R (C.hf ht).1 C.af (C.hf ht).2 X λs1 R1 X1=> ?_
 exact rt R1 (C.hf ht).1 X1 λs2 R2 X2=>⟨x,m,st,h1,D,σ,R2,X2⟩
end
end Mine
namespace Mine
section
variable{g:Gl}{K:Kx}{f:Fx}{A:Around}{F:aV}{T:Tb}{cl:Addr->List V->List AO->RE V}{m:M}{st:List AO}{n:Nat}{mu:Bool}{E:Value->Shared->Prop}{D:Dt}{σ:List Addr}{s s':Shared}
theorem Cx.hide(C:Cx g K f A F T cl){I:Addr}{o:Obj}(hI:I∉K.cm):Cx g (K.hide I o) f A F T cl:=by
 refine⟨C.ok,C.sc,C.cells,C.inj,?_,C.hf,C.room,C.tb,C.cl⟩
 refine ao C.af λl h1 h2=> ?_
 refine⟨l,h1,λenv he=> ?_⟩
 obtain⟨h3,L,h4,h5⟩:=h2 env he
 refine⟨h3,L,h4,?_⟩
 rcases h5 with h5 | h5
 ·exact .inl h5
 ·refine .inr ⟨h5.1,λhm=> ?_⟩
  rcases aat.mp hm with h | h
  ·have h:L=I:=h
   exact hI (h▸aaZ _ h5.mem.1)
  ·exact h5.2 h
theorem tI.bU{r:RS}{I:Addr}{o:Obj}{e:Value}(H:Hid K f I o)(h:tI g (K.hide I o) f r e s):tI g K f r e s:=by
 obtain⟨x,m,st,h1,D,σ,R,X⟩:=h
 exact⟨x,m,st,h1,D,σ,R.bU H,X.mono (λa h=>h.elim (λh=> .inl (Kx.aJ.mpr (.inl h))) .inr) λv h=>h⟩
theorem Bs{t:Expr}{b:List Stmt}{src:V}{i k:Nat}{m:M}{st:List AO}{r:RS}{G:Prop}(hr:r=cP T cl k F t b src i m st)(aa:r≠none)(h0:fq st src i=some none->r=k8 .next m st->G)
  (h1: ∀k' v m',k=k'+1->fq st src i=some (some v)->sP F m t v=some m'->r=qJ (aT T cl k' F m' st b) (λm st=>cP T cl k' F t b src (i+1) m st)->G):G:=by
 cases k with
 | zero=>exact absurd hr aa
 | succ k'=>
  refine aB hr.symm aa λo ho hr=> ?_
  cases o with
  | none=>exact h0 ho hr.symm
  | some v=>exact aB hr aa λm' hm hr=>h1 k' v m' rfl ho hm hr.symm
set_option backward.match.sparseCases true in
theorem OF{t:Expr}{P:Params}{src:V}{i:Nat}{o:Obj}{I:Addr}{v:Value}{Q:Unit->Shared->Prop}(hI:s.heap.get? I=some o)(h:tX P D σ src i o)(hQ:Q () s):wpAny (model cS g.w) A (letOwnedTupleGo t (.ref I) v) Q E s:=by
 have S: ∃c vs,o.cls= .type c/\o.data= .fields vs/\["enumerate","zip","dict_itemiterator","dict_reverseitemiterator","odict_iterator","itertools.zip_longest","itertools.pairwise"].contains c=false:=by
  cases src with
  | lst xs=>exact rF h λax its n q1 q2 q3 q4=>⟨_,_,q3,q4,by decide⟩
  | loc j=>exact eI h λax q1 q3 q4=>⟨_,_,q3,q4,by decide⟩
  | tup xs=>exact rF h λax its n q1 q2 q3 q4=>⟨_,_,q3,q4,by decide⟩
  | str x=>exact ao h λt q3 q4=>⟨_,_,q3,q4,by decide⟩
  | jb a b c=>have h:o=_:=h;subst h;exact⟨_,_,rfl,rfl,by decide⟩
  | _=>exact False.elim h
 refine cj S λc vs h1 h2 h3=> ?_
 have key:wpAny (model cS g.w) A (do
   let(.ref r,.ref a):=((.ref I:Value),v) | return
   let o<-load r
   match o.cls,o.data with
   | .type n,.fields vs=>
    if ["enumerate","zip","dict_itemiterator","dict_reverseitemiterator","odict_iterator","itertools.zip_longest","itertools.pairwise"].contains n&&vs[0]? ==some (rawInt a) then
     rule "for.unpacks-the-owned-tuple"
     updateField r 0 .none
   | _,_=>pure ()) Q E s:=by
  cases v with
  | ref a=>
   refine wpAny_bind (wpAny_load hI ?_)
   rw[h1,h2]
   simp only[h3,Bool.false_and]
   exact wpAny_pure hQ
  | _=>exact wpAny_pure hQ
 cases t with
 | Tuple _ _ _=>exact key
 | List _ _=>exact key
 | _=>exact wpAny_pure hQ
theorem wK{e:Expr}{env:Env}(h: ∀a b c,e≠ .Set a b c)(x:Value):foldedSetIterable e env x=pure x:=by
 cases e with
 | Set a b c=>exact absurd rfl (h a b c)
 | _=>rfl
theorem B5{r:RS}{k:M->List AO->RS}(h:qJ r k≠none):r≠none:=λe=>h (congrArg (qJ · k) e)
inductive NR(g:Gl)(K:Kx)(f:Fx)(F:aV)(T:Tb)(cl:Addr->List V->List AO->RE V)(n:Nat)(D0:Dt)(σ0:List Addr)(t:Expr)(b:List Stmt)(src:V)(r:RS)(I:Addr)(k:Nat)(s:Shared):Prop where
 | mk (D:Dt) (σ:List Addr) (m:M) (st:List AO) (i:Nat) (o:Obj) (zJ:k<=n) (L:Le D0 σ0 D σ) (HI:Hid K f I o) (qE:tX g.w.params D σ src i o) (R:Rel g (K.hide I o) f D σ m st s) (h:r=cP T cl k F t b src i m st)
theorem NW(S:f9 T cl n)(X: ∀k,k<=n->oJ T cl k)(C:Cx g K f A F T cl)(ht:F.top=true){t e:Expr}{b:List Stmt}{pos:Pos}:hZ g K f A F T cl n m st (.For t e b [] pos) (.for t e b):=by
 intro r hr aa D0 σ0 s0 Q' R0 kk
 have hs:=wK (e:=e) (env:=f.env) λa b c e0=>aa (hr.trans (by subst e0;cases n<;>rfl))
 have hP:=passes (r:=r) C ht
 refine wpAny_For (WG.b7 (g:=g) (K:=K) (f:=f) (A:=A) (P:=λsrc st1=>r=cP T cl n F t b src 0 m st1) (S.sE C) hr aa (λsrc st1 h1=>h1) D0 σ0 s0 _ R0 λsrc st1 D1 σ1 v1 s1 L1 R1 r1 h1=> ?_) hs
 have IZ:fq st1 src 0≠none:=Bs h1 aa (λh _ q=>Dk (h.symm.trans q)) λ_ _ _ _ h _ _ q=>Dk (h.symm.trans q)
 refine w9 R1 r1 IZ λI o s2 HI qE R2=> ?_
 refine codeAny_forLoop_any (R:=λq s'=>match q with | .ok fl=>Q' fl s' | .error e=>cameBackBy (model cS g.w) A f.env (tI g K f r) e s')
  (NR g K f F T cl n D0 σ0 t b src r I) ?_ n ⟨D1,σ1,m,st1,0,o,aaw _,L1,HI,qE,R2,h1⟩
 clear IZ R2 qE HI o s2 R1 r1 h1 L1 R0
 rintro k s ⟨D,σ,m,st,i,o,zJ,L,HI,qE,R,h⟩
 refine Bs h aa (λhn h=> ?_) λk' v m' ek h2 h3 h4=> ?_
 ·exact lz C.room.hd R HI qE hn (λ_ s3 R3=>wpAny_execs_nil (kk .next m st D σ .next s3 L R3 rfl h)) (λx hx=>aY hx)
 ·subst ek
  refine lz C.room.hd R HI qE h2 (λhx=>Dk hx) (λx hx v3 o3 s3 H3 yL Uu R3=>OF R3.gm yL ?_)
  have C3:=C.hide (o:=o3) HI.k
  refine G3 (Q:=λm2 st2=>m2=m'/\st2=st) C3 h3 ⟨rfl,rfl⟩ D σ s3 _ v3 R3 (aaj hx▸Uu) λm4 Ru D4 σ4 s4 L4 R4 q4=> ?_
  have R4:=q4.1▸q4.2▸R4
  generalize h5:aT T cl k' F m' st b=r5 at h4
  refine wpAny_mono ((X k' (abA zJ)).Nc C3 ht r5 h5.symm (B5 (h4▸aa)) D4 σ4 s4 (λfl s6=>match fl with
      | .next | .cont=> ∃j,j<k'+1/\NR g K f F T cl n D0 σ0 t b src r I j s6
      | .brk=>Q' .next s6
      | .ret v=>Q' (.ret v) s6) R4 λfl m6 Jo D6 σ6 Eb s6 L6 R6 r6 q6=> ?_) (λ_ _ x=>x) (λe6 s6 x6=>hP _ _ (tI.bU H3 (gF x6 λx m7 SM q7 rest=>⟨x,m7,SM,h4.trans (congrArg (qJ · _) q7),rest⟩)))
  have h4:=h4.trans (congrArg (qJ · _) (q6:r5=some (.ok fl,m6,Jo)))
  cases fl with
  | next=>cases r6;exact⟨k',acZ _,D6,σ6,m6,Jo,i+1,o3,abA zJ,(L.trans L4).trans L6,H3,yL.mono (L4.trans L6),R6,h4⟩
  | ret v=>exact ao r6 λv' e hv=>e▸kk (.ret v) m6 Jo D6 σ6 _ s6 ((L.trans L4).trans L6) (R6.bU H3) ⟨v',rfl,hv⟩ h4
  | _=>exact absurd h4 aa
end
end Mine
namespace Mine
section
variable{g:Gl}{K:Kx}{f:Fx}{A:Around}{F:aV}{T:Tb}{cl:Addr->List V->List AO->RE V}{m:M}{st:List AO}{n:Nat}{mu:Bool}{E:Value->Shared->Prop}{D:Dt}{σ:List Addr}{s s':Shared}
theorem DX{t:Expr}{b:List Stmt}{k:Nat}{m:M}{st:List AO}{r:RS}{G:Prop}(hr:r=bq T cl k F t b m st)(aa:r≠none)(h1: ∀k',k=k'+1->r=(wB T cl k' F m st t).b7 m (λc st=>bif c then qJ (aT T cl k' F m st b) (λm st=>bq T cl k' F t b m st) else k8 .next m st)->G):G:=by
 cases k with
 | zero=>exact absurd hr aa
 | succ k'=>exact h1 k' rfl hr
inductive WhI(g:Gl)(K:Kx)(f:Fx)(F:aV)(T:Tb)(cl:Addr->List V->List AO->RE V)(n:Nat)(D0:Dt)(σ0:List Addr)(t:Expr)(b:List Stmt)(r:RS)(k:Nat)(s:Shared):Prop where
 | mk (D:Dt) (σ:List Addr) (m:M) (st:List AO) (zJ:k<=n) (L:Le D0 σ0 D σ) (R:Rel g K f D σ m st s) (h:r=bq T cl k F t b m st)
theorem Ez(X0: ∀k,k<=n->f9 T cl k)(X: ∀k,k<=n->oJ T cl k)(C:Cx g K f A F T cl)(ht:F.top=true){t:Expr}{b:List Stmt}{pos:Pos}:hZ g K f A F T cl n m st (.While t b [] pos) (.while t b):=by
 intro r hr aa D0 σ0 s0 Q' R0 kk
 have hP:=passes (r:=r) C ht
 refine wpAny_While (codeAny_whileLoop (R:=λq s'=>match q with | .ok fl=>Q' fl s' | .error e=>cameBackBy (model cS g.w) A f.env (tI g K f r) e s')
  (WhI g K f F T cl n D0 σ0 t b r) ?_ n ⟨D0,σ0,m,st,aaw _,Le.refl,R0,hr⟩)
 clear hr R0
 rintro k s ⟨D,σ,m,st,zJ,L,R,h⟩
 refine DX h aa λk' ek h=> ?_
 subst ek
 have IW:=abA zJ
 refine wpAny_mono (WG.b7 (g:=g) (K:=K) (f:=f) (A:=A) (P:=λc st1=>r=bif c then qJ (aT T cl k' F m st1 b) (λm st=>bq T cl k' F t b m st) else k8 .next m st1) ((X0 k' IW).sT C) h aa (λ_ _ h1=>h1) D σ s _ R λc st2 D2 σ2 c' s2 L2 R2 r2 h2=> ?_) (λ_ _ x=>x) (λe s' x=>hP e s' x)
 cases r2
 cases c with
 | false=>exact wpAny_execs_nil (kk .next m st2 D2 σ2 .next s2 (L.trans L2) R2 rfl h2)
 | true=>
  have h4:r=qJ (aT T cl k' F m st2 b) (λm st=>bq T cl k' F t b m st):=h2
  generalize h5:aT T cl k' F m st2 b=r5 at h4
  refine wpAny_mono ((X k' IW).Nc C ht r5 h5.symm (B5 (h4▸aa)) D2 σ2 s2 (λfl s6=>match fl with
      | .next | .cont=> ∃j,j<k'+1/\WhI g K f F T cl n D0 σ0 t b r j s6
      | .brk=>Q' .next s6
      | .ret v=>Q' (.ret v) s6) R2 λfl m6 Jo D6 σ6 Eb s6 L6 R6 r6 q6=> ?_) (λ_ _ x=>x) (λe6 s6 x6=>hP _ _ (gF x6 λx m7 SM q7 rest=>⟨x,m7,SM,h4.trans (congrArg (qJ · _) q7),rest⟩))
  have h4:=h4.trans (congrArg (qJ · _) (q6:r5=some (.ok fl,m6,Jo)))
  cases fl with
  | next=>cases r6;exact⟨k',acZ _,D6,σ6,m6,Jo,IW,(L.trans L2).trans L6,R6,h4⟩
  | ret v=>exact ao r6 λv' e hv=>e▸kk (.ret v) m6 Jo D6 σ6 _ s6 ((L.trans L2).trans L6) R6 ⟨v',rfl,hv⟩ h4
  | _=>exact absurd h4 aa
end
end Mine
namespace Mine
section
variable{g:Gl}{K:Kx}{f:Fx}{A:Around}{F:aV}{T:Tb}{cl:Addr->List V->List AO->RE V}{m:M}{st:List AO}{n:Nat}{mu:Bool}{E:Value->Shared->Prop}{D:Dt}{σ:List Addr}{s s':Shared}
theorem kL(h:Str->NameKind->NameKind): ∀(l:List (Str×NameKind)) (x:Str),(l.map λp=>(p.1,h p.1 p.2)).lookup x=(l.lookup x).map (h x)
 | [],_=>rfl
 | (n,k)::l,x=>by
  rw[aaq,aao,aao]
  by_cases e:x=n
  ·subst e;simp
  ·rw[beq_false_of_ne e];exact kL h l x
theorem wq{sc:Scope}:(F.comp sc).sc=sc.names.map λp=>(p.1,nG F p.1 p.2):=rfl
theorem BV{b:Bool}{a:Str}{x y:NameKind}:(if b=true then(a,x) else(a,y))=(a,if b=true then x else y):=by
 cases b<;>rfl
theorem oY(C:Cx g K f A F T cl){sc:Scope}:(relabel sc f.env).names=(F.comp sc).sc:=by
 rw[wq]
 show(sc.names.map λ(p:Str×NameKind)=>if(p.2== .free&&f.env.scope.kind== .function&&f.env.kindOf p.1==some .cell)=true then(p.1,ac3) else(p.1,p.2))=_
 refine abe λp _=> ?_
 rw[C.ok.kind,C.k,beq_self_eq_true,abE]
 exact BV
theorem kH{sc:Scope}{x:Str}:(F.comp sc).sc.lookup x=(sc.names.lookup x).map (nG F x):=by
 rw[wq,kL]
structure NM(F:aV)(sc:Scope)(x:Str):Prop where
 kind:sc.kind= .function
 x:(F.comp sc).sc.lookup x=some .local
 nc: ∀p∈sc.names,p.2≠ .cell
 nl: ∀p∈sc.names,p.2= .local->sc.names.lookup p.1=some .local
 nf: ∀p∈sc.names,p.2= .free->F.sc.lookup p.1=some .cell\/F.sc.lookup p.1=some .free
theorem ur{sc:Scope}{x:Str}(h:cO F sc x=true):NM F sc x:=by
 refine aO (aap.mp h) λh12 h3=>aO (aap.mp h12) λh1 h2=> ?_
 have h3: ∀p∈sc.names,_:=abt.mp h3
 refine⟨eq_of_beq h1,eq_of_beq h2,λp hp e=> ?_,λp hp e=> ?_,λp hp e=> ?_⟩
 ·have :=(aap.mp (aap.mp (h3 p hp)).1).1
  rw[e] at this;exact ft this
 ·have :=(aap.mp (aap.mp (h3 p hp)).1).2
  rw[e] at this;exact eq_of_beq this
 ·have :=(aap.mp (h3 p hp)).2
  rw[e] at this;exact(Bool.or_eq_true_iff.mp this).imp eq_of_beq eq_of_beq
theorem mem_of_lookupK{l:List (Str×NameKind)}: ∀{x:Str} {k:NameKind},l.lookup x=some k->(x,k)∈l:=by
 induction l with
 | nil=>intro x v h;cases h
 | cons p l ih=>
  intro x v h
  rw[aao] at h
  by_cases e:x=p.1
  ·subst e;simp at h;subst h;exact aak
  ·rw[beq_false_of_ne e] at h;exact aai _ (ih h)
noncomputable def tL(env:Env)(l:List (Str×NameKind))(acc:List (Str×Addr)):List (Str×Addr):=match l with
 | []=>acc
 | (n,k)::l=>if(k==abI)=true then(match env.cells.lookup n with
  | some c=>tL env l ((n,c)::acc)
  | none=>tL env l acc) else tL env l acc
theorem m8{sc:Scope}{env:Env}(h: ∀p∈sc.names,p.2= .free-> ∃c,env.cells.lookup p.1=some c):closureFor sc env=pure (tL env sc.names []):=by
 have key: ∀(l:List (Str×NameKind)) (acc:List (Str×Addr)),(∀p∈l,p.2= .free-> ∃c,env.cells.lookup p.1=some c)->(do
   let mut cs:=acc
   for (name,kind) in l do
    if kind== .free then cs:=(name,<-cellOf env name)::cs
   return cs:Sem (List (Str×Addr)))=pure (tL env l acc):=by
  intro l
  induction l with
  | nil=>intro acc _;rfl
  | cons p l ih=>
   intro acc hl
   obtain⟨nm,k⟩:=p
   have ih':=λacc=>ih acc λp hp=>hl p (aai _ hp)
   by_cases hk:(k==abI)=true
   ·refine aj (hl (nm,k) aak (by simpa using hk)) λc hc=> ?_
    have e1:tL env ((nm,k)::l) acc=tL env l ((nm,c)::acc):=by
     have hc:env.cells.lookup nm=some c:=hc
     simp only[tL,hk,if_true,hc]
    rw[e1,<-ih']
    have e2:cellOf env nm=pure c:=by unfold cellOf;rw[hc]
    simp only[List.forIn_cons,hk,if_true,e2]
    rfl
   ·have e1:tL env ((nm,k)::l) acc=tL env l acc:=by
     have hk:(k==abI)=false:=by simpa using hk
     simp only[tL,hk]
     rfl
    rw[e1,<-ih']
    have hk:(k==abI)=false:=by simpa using hk
    simp only[List.forIn_cons,hk]
    rfl
 exact key sc.names [] h
theorem di{env:Env}{x:Str}{c:Addr}(hc:env.cells.lookup x=some c): ∀(l:List (Str×NameKind)) (acc:List (Str×Addr)),((x,abI)∈l\/acc.lookup x=some c)->(∀p∈acc,p.1=x->p.2=c)->(tL env l acc).lookup x=some c
 | [],acc,h,_=>h.elim (λq=>jR q) id
 | (nm,k)::l,acc,h,ha=>by
  unfold tL
  by_cases hk:(k==abI)=true
  ·rw[if_pos hk]
   have IW:k= .free:=by simpa using hk
   subst IW
   by_cases e:x=nm
   ·subst e
    rw[hc]
    refine di hc l _ (.inr ?_) ?_
    ·simp
    ·intro p hp hx
     rcases aat.mp hp with rfl | hp
     ·rfl
     ·exact ha p hp hx
   ·have h':(x,abI)∈l\/acc.lookup x=some c:=by
     rcases h with h | h
     ·rcases aat.mp h with q | q
      ·exact absurd (congrArg Prod.fst q) e
      ·exact .inl q
     ·exact .inr h
    split
    ·refine di hc l _ ?_ ?_
     ·rcases h' with q | q
      ·exact .inl q
      ·exact .inr (by rw[aao,beq_false_of_ne e];exact q)
     ·intro p hp hx
      rcases aat.mp hp with rfl | hp
      ·exact absurd hx (Ne.symm e)
      ·exact ha p hp hx
    ·exact di hc l _ h' ha
  ·rw[if_neg hk]
   refine di hc l _ ?_ ha
   rcases h with h | h
   ·rcases aat.mp h with q | q
    ·have :=congrArg Prod.snd q
     simp only at this
     subst this
     exact absurd rfl hk
    ·exact .inl q
   ·exact .inr h
theorem BW{src:V}{i:Nat}{I:Addr}{o:Obj}(hI:s.heap.get? I=some o)(h:tX g.w.params D σ src i o){Q:Value->Shared->Prop}(hQ:Q (.ref I) s):wpAny (model cS g.w) A (pyIter (.ref I)) Q E s:=by
 cases src with
 | lst xs=>exact rF h λax its n q1 q2 q3 q4=>wpAny_pyIter_listiter (l:=ax) (i:=i) ⟨o,hI,q3,q4⟩ hQ
 | loc j=>exact eI h λax q1 q3 q4=>wpAny_pyIter_listiter (l:=ax) (i:=i) ⟨o,hI,q3,q4⟩ hQ
 | tup xs=>exact rF h λax its n q1 q2 q3 q4=>wpAny_pyIter_tupleiter (t:=ax) (i:=i) ⟨o,hI,q3,q4⟩ hQ
 | str x=>exact ao h λt q3 q4=>wpAny_pyIter_striter_ascii (i:=i) ⟨o,hI,q3,q4⟩ hQ
 | jb a b c=>have h:o=_:=h;subst h;exact wpAny_pyIter_rangeiter hI hQ
 | _=>exact False.elim h
end
end Mine
namespace Mine
section
variable{g:Gl}{K:Kx}{f:Fx}{A:Around}{F:aV}{T:Tb}{cl:Addr->List V->List AO->RE V}{m:M}{st:List AO}{n:Nat}{mu:Bool}{E:Value->Shared->Prop}{D:Dt}{σ:List Addr}{s s':Shared}
theorem Am{α β:Type}{r:RE α}{k:α->List AO->RE β}{b:β}{st':List AO}{G:Prop}(h:RE.bind r k=some (.ok b,st'))(g: ∀a st1,r=some (.ok a,st1)->k a st1=some (.ok b,st')->G):G:=by
 cases r with
 | none=>exact aY h
 | some q=>
  obtain⟨a,st1⟩:=q
  cases a with
  | ok a=>exact g a st1 rfl h
  | error _=>cases h
theorem wo{x:Str}{ifs:List Expr}{elt:Expr}{src:V}{i k:Nat}{acc ys:List V}{st':List AO}{G:Prop}(h:cX T cl k F x ifs elt src i m st acc=some (.ok ys,st'))(h0:fq st src i=some none->ys=acc->st'=st->G)
  (h1: ∀k' v b st1,k=k'+1->fq st src i=some (some v)->gG T cl k' F (bV m x v) st ifs=some (.ok b,st1)->
   (bif b then(if acc.length<100000 then(bH T cl k' F false (bV m x v) st1 elt).bind λa st=>cX T cl k' F x ifs elt src (i+1) (bV m x v) st (acc++[a]) else none)
   else cX T cl k' F x ifs elt src (i+1) (bV m x v) st1 acc)=some (.ok ys,st')->G):G:=by
 cases k with
 | zero=>exact aY h
 | succ k'=>
  refine aB h aN λo ho h=> ?_
  cases o with
  | none=>cases h;exact h0 ho rfl rfl
  | some v=>exact Am h λb st1 h2 h3=>h1 k' v b st1 rfl ho h2 h3
theorem Rel.pF{I J:Addr}{o oj:Obj}(R:Rel g ((K.hide J oj).hide I o) f D σ m st s):s.heap.get? J=some oj:=R.r.kp (J,oj) (aai _ aak)
theorem Rel.G8{I J:Addr}{o oj oj':Obj}(R:Rel g ((K.hide J oj).hide I o) f D σ m st s)(HI:Hid (K.hide J oj) f I o)(HJ:Hid K f J oj)(hn:I≠J)(k:vM J s s')(ha:s'.heap.get? J=some oj'):Rel g ((K.hide J oj').hide I o) f D σ m st s':=by
 have hI:=R.gm
 have i0:=R.dT
 have R2:=(R.bU HI).qo HJ k ha
 exact R2.ff (λq=>HI.k (Kx.aJ.mpr (Kx.aJ.mp q))) HI.f i0.1 i0.2 (k.h _ _ hn hI)
inductive SO(g:Gl)(K:Kx)(f:Fx)(F:aV)(T:Tb)(cl:Addr->List V->List AO->RE V)(n:Nat)(D:Dt)(σ:List Addr)(x:Str)(ifs:List Expr)(elt:Expr)(src:V)(ys:List V)(st':List AO)(I J:Addr)(k:Nat)(s:Shared):Prop where
 | mk (D':Dt) (σ':List Addr) (m:M) (st:List AO) (i:Nat) (o:Obj) (its:Array Value) (e:Nat) (acc:List V) (zJ:k<=n) (L:Le D σ D' σ') (R:Rel g ((K.hide J (listOf its e)).hide I o) f D' σ' m st s) (qE:tX g.w.params D' σ' src i o) (FJ:aM g.w.params D' σ' acc its.toList)
  (hr:cX T cl k F x ifs elt src i m st acc=some (.ok ys,st'))
theorem rx(S: ∀k,k<=n->f9 T cl k)(C:Cx g K f A F T cl){x:Str}(hx:F.sc.lookup x=some .local){ifs:List Expr}{elt iter:Expr}{px pos:Pos}{sc:Scope}{src:V}{I J:Addr}{o:Obj}{its:Array Value}{e:Nat}{ys:List V}{st':List AO}{RR:Result->Shared->Prop}
  (R:Rel g ((K.hide J (listOf its e)).hide I o) f D σ m st s) (hI:I∉K.cm) (Nm:I∉f.fa) (hJ:J∉K.cm) (ON:J∉f.fa) (OK:I≠J) (qE:tX g.w.params D σ src 0 o) (hits:its.toList=[])
  (hr:cX T cl n F x ifs elt src 0 m st []=some (.ok ys,st'))
  (hR: ∀D' σ' m' its e s',Le D σ D' σ'->Rel g (K.hide J (listOf its e)) f D' σ' m' st' s'->aM g.w.params D' σ' ys its.toList->RR (.ok .next) s'):
  codeAny (model cS g.w) A (.compLoop (.ListComp elt [⟨.Name x px,iter,ifs,0⟩] sc pos) 0 (.ref I) (.ref J) f.env) RR s:=by
 refine codeAny_compLoop_tests (SO g K f F T cl n D σ x ifs elt src ys st' I J) ?_ n
  ⟨D,σ,m,st,0,o,its,e,[],aaw _,Le.refl,R,qE,by rw[hits];rfl,hr⟩
 clear hr R qE hits
 rintro k s ⟨D1,σ1,m,st,i,o,its,e,acc,zJ,L,R,qE,FJ,hr⟩
 have nc: ∀(its:Array Value) (e:Nat) (v:Option Value),(listOf its e).data≠ .cell v:=λits e v q=>nomatch q
 have Sd: ∀oj,I∉(K.hide J oj).cm:=λoj q=>(Kx.aJ.mp q).elim hI OK
 have HJ:Hid K f J (listOf its e):=⟨hJ,ON,nc _ _⟩
 refine wo hr (λh1 e2 e3=> ?_) λk' v b st1 ek h1 h2 h3=> ?_
 ·exact lz C.room.hd R ⟨Sd _,Nm,qE.cell⟩ qE h1 (λ_ s3 R3=>hR D1 σ1 m its e s3 L (e3▸R3) (e2▸FJ)) (λx hx=>aY hx)
 ·subst ek
  refine lz C.room.hd R ⟨Sd _,Nm,qE.cell⟩ qE h1 (λhx=>Dk hx) (λx' Ux v3 o3 s3 H3 yL Uu R3=> ?_)
  have C3:=(C.hide (o:=listOf its e) hJ).hide (o:=o3) (Sd _)
  have hp:putN F m x v=some (bV m x v):=by unfold putN;rw[hx]
  refine wpAny_assign_Name (iR (Q:=λm2 st2=>m2=bV m x v/\st2=st) C3 hp ⟨rfl,rfl⟩ D1 σ1 s3 _ v3 R3 (aaj Ux▸Uu) λm4 Ru D4 σ4 s4 L4 R4 q4=> ?_)
  have R4:=q4.1▸q4.2▸R4
  refine wpAny_mono ((S k' (abA zJ)).sI C3 _ h2.symm aN D4 σ4 s4 (λb' s5=>b'=b/\ ∃D5 σ5,Le D4 σ4 D5 σ5/\Rel g ((K.hide J (listOf its e)).hide I o3) f D5 σ5 (bV m x v) st1 s5) R4 λb5 st5 D5 σ5 b5' s5 L5 R5 r5 q5=> ?_) (λb' s5 q=> ?_) (λe6 s6 x6=>cc x6 λ_ _ q _=>by cases q)
  ·cases q5;exact⟨r5.symm,D5,σ5,L5,R5⟩
  ·refine aO q λeb q=>cc q λD5 σ5 L5 R5=>eb▸ ?_
   cases b with
   | true=>
    rw[if_pos rfl]
    refine aR h3 aN λhl h3=>Am h3 λa st2 h4 h5=> ?_
    refine wpAny_mono ((S k' (abA zJ)).sE C3 _ h4.symm aN D5 σ5 s5 (λu s6=> ∃D6 σ6,Le D5 σ5 D6 σ6/\Rel g ((K.hide J (listOf its e)).hide I o3) f D6 σ6 (bV m x v) st2 s6/\VR g.w.params D6 σ6 a u) R5 λa6 Jo D6 σ6 u6 s6 L6 R6 r6 q6=> ?_) (λu s6 q=> ?_) (λe6 s6 x6=>cc x6 λ_ _ q _=>by cases q)
    ·cases q6;exact⟨D6,σ6,L6,R6,r6⟩
    ·refine cj q λD6 σ6 L6 R6 r6=> ?_
     have q2:=R6.pF
     have IS:=FJ.mono ((L4.trans L5).trans L6)
     have pH:its.size<=sizeLine:=by rw[aM.size IS,sizeLine_eq];exact QN hl
     refine call_meets ace ⟨_,q2,rfl⟩ PySem.F.entry_list_append (PySem.F.args_list_append_2 _ _) (PySem.list_append J its e u pH) ⟨q2,?_⟩
     refine aj (oa (its:=its) (n:=e) (F:=λxs=>xs.push u)) λn' he=> ?_
     have i8:=aa1 (h:=s6.heap) (ab2 λxs=>xs.push u) q2 (by rw[he];rfl)
     rw[he] at i8
     have hb:vM J s6 {s6 with heap:=s6.heap.update J (ab2 λxs=>xs.push u)}:=⟨λb o hb kI=>(ab8 _ _ _ _ hb).trans kI,rfl,rfl⟩
     exact⟨k',acZ _,D6,σ6,bV m x v,st2,i+1,o3,_,_,acc++[a],abA zJ,(L.trans L4).trans (L5.trans L6),R6.G8 ⟨Sd _,Nm,yL.cell⟩ HJ OK hb i8,yL.mono ((L4.trans L5).trans L6),by rw[Array.toList_push];exact aM.append IS ⟨u,[],rfl,r6,rfl⟩,h5⟩
   | false=>
    rw[if_neg abV]
    exact⟨k',acZ _,D5,σ5,bV m x v,st1,i+1,o3,its,e,acc,abA zJ,(L.trans L4).trans L5,R5,yL.mono (L4.trans L5),FJ.mono (L4.trans L5),h3⟩
end
end Mine
namespace Mine
section
variable{g:Gl}{K:Kx}{f:Fx}{A:Around}{F:aV}{T:Tb}{cl:Addr->List V->List AO->RE V}{m:M}{st:List AO}{n:Nat}{mu:Bool}{E:Value->Shared->Prop}{D:Dt}{σ:List Addr}{s s':Shared}
noncomputable def Fx.comp(f:Fx)(sc:Scope)(C:Addr):Fx:=⟨compEnvC sc (tL f.env sc.names []) C f.env,C,[]⟩
theorem Cx.comp(C:Cx g K f A F T cl){sc:Scope}{x:Str}(hc:NM F sc x){K':Kx}(I:tW g K f m K'){L:Addr}:Cx g K' (f.comp sc L) A (F.comp sc) T cl:=by
 refine⟨⟨hc.kind,rfl,C.ok.glo,C.ok.blt⟩,oY C,λy k hy hk=> ?_,(λh=>ft h),?_,(λh=>ft h),C.room,C.tb,C.cl⟩
 ·rw[kH] at hy
  have iZ:sc.names.lookup y=some .free:=by
   refine ao (abT.mp hy) λk0 h e=> ?_
   have h1:k0≠ .cell:=hc.nc _ (mem_of_lookupK h)
   by_cases ef:k0= .free
   ·exact ef▸h
   ·have h2:nG F y k0=k0:=by unfold nG;rw[beq_false_of_ne ef];rfl
    rw[<-e,h2] at hk
    exact hk.elim (λe=>absurd e h1) λe=>absurd e ef
  have hm:=mem_of_lookupK iZ
  refine aj ((hc.nf _ hm rfl).elim (λh=>ao (C.cells y _ h (.inl rfl)) λc h1 _=>⟨c,h1⟩) λh=>ao (C.cells y _ h (.inr rfl)) λc h1 _=>⟨c,h1⟩: ∃c,f.env.cells.lookup y=some c) λc h1=> ?_
  exact⟨c,di h1 _ _ (.inl hm) (λp hp=>jR hp),λh=>ft h⟩
 ·refine ao (I.af C.af) λl h1 h2=> ?_
  exact⟨l,h1,λenv he=>let⟨h3,L,h4,h5⟩:=h2 env he;⟨h3,L,h4,.inr h5⟩⟩
theorem nS(S: ∀k,k<=n->f9 T cl k)(C:Cx g K f A F T cl){x:Str}{sc:Scope}(hc:NM F sc x){ifs:List Expr}{elt iter:Expr}{px pos:Pos}{src:V}{v:Value}{xs:List V}{st':List AO}(R:Rel g K f D σ m st s)(hv:VR g.w.params D σ src v)
  (hr:cX T cl n (F.comp sc) x ifs elt src 0 (gV m sc) st []=some (.ok xs,st')) {RR:Value->Addr->Result->Shared->Prop}
  (hRR: ∀J Cc oC its e D' σ' s',Le D σ D' σ'->Hid K f Cc oC->Rel g (K.hide Cc oC) f D' σ' m st' s'->(∃mC,s'.heap.Ns Cc mC)->eV (λa=>a∈K.cm\/a∈f.fa) D' σ' J->J≠Cc->s'.heap.get? J=some (listOf its e)->aM g.w.params D' σ' xs its.toList->RR (.ref J) Cc (.ok .next) s'):
  wpAny (model cS g.w) A (pyIter v) (λit s₂=>wpAny (model cS g.w) A (newList []) (λacc s₃=>wpAny (model cS g.w) A (newFunctionEnv sc f.env.globals (tL f.env sc.names []) [] f.env.qual none .none (some f.env)) (λOd s₄=>
   codeAny (model cS g.w) A (.compStart (.ListComp elt [⟨.Name x px,iter,ifs,0⟩] sc pos) 0 it acc {Od with scope:=relabel sc f.env}) (RR acc Od.locals) s₄) E s₃) E s₂) E s:=by
 have IZ:fq st src 0≠none:=wo hr (λh _ _ q=>Dk (h.symm.trans q)) λ_ _ _ _ _ h _ _ q=>Dk (h.symm.trans q)
 refine w9 R hv IZ λI o s2 HI qE R2=> ?_
 refine wpAny_newObj_type (wpAny_newFunctionEnv hc.nc (by intro y hy;simp at hy) (λh' zK uL=> ?_) hc.kind)
 dsimp only at zK uL ⊢
 have nc: ∀(its:Array Value) (e:Nat) (v:Option Value),(listOf its e).data≠ .cell v:=λits e v q=>nomatch q
 have hoj:({cls:= .type "list",dict:=none,data:= .seq ([]:List Value).toArray}:Obj)=listOf #[] 0:=rfl
 rw[hoj] at zK uL ⊢
 have Ng:=R2.fresh (I:=s2.heap.objs.size) (o:=listOf #[] 0) au (nc _ _)
 have R3:=R2.hide (s':={s2 with heap:=s2.heap.push (listOf #[] 0)}) cv au (aaO (o:=listOf #[] 0) _ rfl)
 generalize hJ:s2.heap.objs.size=J at zK uL R3 Ng ⊢
 generalize hH3:s2.heap.push (listOf #[] 0)=H3 at zK uL R3 ⊢
 have HC:=R3.none_of (a:=H3.objs.size) au
 have kp:Keeps {s2 with heap:=H3} {s2 with heap:=h',toks:=s2.toks+([]:List (Str×Value)).length}:=⟨λb o hb=>by
  have :b≠H3.objs.size:=Nat.ne_of_lt (abX hb)
  exact(uL.2 b this).trans (aaE _ hb),rfl,rfl⟩
 have R4:=R3.keep kp
 generalize hCC:H3.objs.size=Cc at zK HC ⊢
 have OK:I≠J:=λe=>Ng.k (e▸Kx.aJ.mpr (.inr rfl))
 have hIC:I≠Cc:=λe=>HC.2.1 (Kx.aJ.mpr (.inl (Kx.aJ.mpr (.inr e.symm))))
 have Nn:J≠Cc:=λe=>HC.2.1 (Kx.aJ.mpr (.inr e.symm))
 have TF:Cc∉K.cm:=λq=>HC.2.1 (Kx.aJ.mpr (.inl (Kx.aJ.mpr (.inl q))))
 have hJK:J∉K.cm:=λq=>Ng.k (Kx.aJ.mpr (.inl q))
 have TG:=R4.pF
 have hJ4:=R4.gm
 have hJn:=R4.dT
 have NU:=R4.bU Ng
 have hIn:=NU.dT
 have R5:=NU.bU HI
 generalize hs4:({s2 with heap:=h',toks:=s2.toks+([]:List (Str×Value)).length}:Shared)=s4 at R4 TG hJ4 NU R5 ⊢
 have Uh:s4.heap.Ns Cc (λx=>([]:List (Str×Value)).reverse.lookup x):=by rw[<-hs4];exact zK
 refine jK λG kG=> ?_
 obtain⟨K',e1,e2,_,i1,i2,i3,i4,i5,RS,back⟩:=R5.into
 refine kG ?_
 have N7: ∀D' σ' st' s',aP g K' D' σ' st' s'->Rel g K f D' σ' m st' s':=λD' σ' st' s' S=>back D' σ' st' s' (by rw[<-e1,<-e2];exact S.Ss) S
 have In:tW g K f m K':=⟨N7,i4,i1,i3,i5⟩
 have C':=C.comp hc In (L:=Cc)
 have hx:(F.comp sc).sc.lookup x=some .local:=hc.x
 have Rf:Rel g K' (f.comp sc Cc) D σ (gV m sc) st s4:=by
  refine⟨RS,λa ha=> ?_,by simp[Fx.fa,Fx.comp],⟨_,Uh,λy u hu=> ?_⟩,λc hc=>jR hc⟩
  ·have ha:a=Cc:=by simpa [Fx.fa,Fx.comp] using ha
   subst ha
   exact⟨HC.1,λq=>((i4 _).mp q).elim TF HC.2.2.2,HC.2.2.1⟩
  ·have hy:sc.names.lookup y=some .free/\m y=some u:=by
    unfold gV at hu
    cases q:sc.names.lookup y with
    | none=>rw[q] at hu;exact aY hu
    | some z=>
     rw[q] at hu
     cases z with
     | free=>exact⟨rfl,hu⟩
     | _=>exact aY hu
   refine aO hy λhy hmu=> ?_
   have hm:=mem_of_lookupK hy
   have hkf:(f.comp sc Cc).env.kindOf y=some .free\/(f.comp sc Cc).env.kindOf y=some .cell:=by
    rw[C'.k,kH,hy]
    show some (nG F y .free)=_\/some (nG F y .free)=_
    unfold nG
    cases(abI== .free&&F.sc.lookup y==some .cell) with
    | true=>exact .inr rfl
    | false=>exact .inl rfl
   refine ao R5.fr λmm _ q3=> ?_
   refine ao (q3 y u hmu) λv' w1 w2=> ?_
   refine⟨v',w1,.inr (.inr ⟨hkf,?_⟩)⟩
   rcases w2 with⟨w2,_⟩ | ⟨w2,c,w3,w4,o',w5,w6⟩ | ⟨_,c,o',w3,w4,w5⟩
   ·rw[C.k] at w2
    rcases hc.nf _ hm rfl with h | h<;> · rw[h] at w2;cases w2
   ·exact⟨c,o',di w3 _ _ (.inl hm) (λp hp=>jR hp),i2 c o' w4 w5,w6⟩
   ·exact⟨c,o',di w3 _ _ (.inl hm) (λp hp=>jR hp),i3 _ w4,w5⟩
 have OL:I∉K'.cm:=λq=>((i4 _).mp q).elim HI.k HI.f
 have K0:J∉K'.cm:=λq=>((i4 _).mp q).elim hJK Ng.f
 have Nm:I∉(f.comp sc Cc).fa:=λq=>hIC (by simpa [Fx.fa,Fx.comp] using q)
 have ON:J∉(f.comp sc Cc).fa:=λq=>Nn (by simpa [Fx.fa,Fx.comp] using q)
 have RJ:=Rf.ff K0 ON hJn.1 hJn.2 hJ4
 have RI:=RJ.ff (λq=>(Kx.aJ.mp q).elim OL OK) Nm hIn.1 hIn.2 TG
 have loop:codeAny (model cS g.w) A (.compLoop (.ListComp elt [⟨.Name x px,iter,ifs,0⟩] sc pos) 0 (.ref I) (.ref J) (f.comp sc Cc).env) (RR (.ref J) Cc) s4:=by
  refine rx S C' hx RI OL Nm K0 ON OK qE rfl hr λD6 σ6 m6 its e s6 L6 R6 r6=> ?_
  have hJ6:=R6.gm
  have OM:=R6.dT
  have R7:=R6.bU ⟨K0,ON,nc _ _⟩
  have hC7:=R7.fd Cc (by simp[Fx.fa,Fx.comp])
  refine ao R7.fr λmm K9 _=> ?_
  have T8:=K9
  refine rD K9 λoC es ep q1 q2 _=> ?_;clear K9
  have R8:=back D6 σ6 st' s6 L6 R7.r
  have nC: ∀v,oC.data≠ .cell v:=λv q=>by rw[q2] at q;cases q
  exact hRR J Cc oC its e D6 σ6 s6 L6 ⟨TF,HC.2.2.2,nC⟩ (R8.ff TF HC.2.2.2 hC7.1 hC7.2.2 q1) ⟨mm,T8⟩ ⟨OM.1,OM.2,λq=>q.elim hJK Ng.f⟩ Nn hJ6 r6
 exact codeAny_compStart_list loop (BW TG qE loop)
end
end Mine
namespace Mine
section
variable{g:Gl}{K:Kx}{f:Fx}{A:Around}{F:aV}{T:Tb}{cl:Addr->List V->List AO->RE V}{m:M}{st:List AO}{n:Nat}{mu:Bool}{E:Value->Shared->Prop}{D:Dt}{σ:List Addr}{s s':Shared}
theorem Rel.rL(R:Rel g K f D σ m st s){a:Addr}{o:Obj}(h:eV (λa=>a∈K.cm\/a∈f.fa) D σ a)(ha:s.heap.get? a=some o):Le D σ (D.put a o) σ/\Rel g K f (D.put a o) σ m st s:=by
 refine bM h λh1 h3 OG=> ?_
 have h4:a∉f.fa:=λq=>OG (.inr q)
 exact⟨Le.put h1,⟨R.r.frozen h1 (λq=>OG (.inl q)) h3 ha,λb hb=>⟨(Dt.kC D o (show b≠a from λe=>h4 (e▸hb))).trans (R.fd b hb).1,(R.fd b hb).2⟩,R.fn,ao R.fr λmm q1 q2=>⟨mm,q1,λx v hv=>(q2 x v hv).mono (Le.put h1)⟩,R.oc⟩⟩
theorem Rel.EM(R:Rel g K f D σ m st s){a:Addr}{o:Obj}{x:AO}(h:eV (λa=>a∈K.cm\/a∈f.fa) D σ a)(ha:s.heap.get? a=some o)(hO:OR g.w.params D (σ++[a]) x o):Rel g K f D (σ++[a]) m (st++[x]) s:=
 bM h λh1 h3 OG=>⟨R.r.alloc h1 (λq=>OG (.inl q)) h3 ha hO,λb hb=>⟨(R.fd b hb).1,(R.fd b hb).2.1,λq=>(aal.mp q).elim (R.fd b hb).2.2 λq=>OG (.inr (abb.mp q▸hb))⟩,R.fn,ao R.fr λmm q1 q2=>⟨mm,q1,λx v hv=>(q2 x v hv).mono Le.snoc⟩,R.oc⟩
theorem B6(R:Rel g K f D σ m st s){a:Addr}{its:Array Value}{n:Nat}{xs:List V}{mu:Bool}{v:V}{st':List AO}(hf:eV (λa=>a∈K.cm\/a∈f.fa) D σ a)(ha:s.heap.get? a=some (listOf its n))
  (hv:aM g.w.params D σ xs its.toList) (hm:mk mu xs st=some (.ok v,st')): ∃D' σ',Le D σ D' σ'/\Rel g K f D' σ' m st' s/\VR g.w.params D' σ' v (.ref a):=by
 refine aR hm aN λ_ hm=> ?_
 cases mu with
 | true=>
  cases hm
  exact⟨D,σ++[a],Le.snoc,R.EM hf ha (x:= .lst xs) ⟨its,n,rfl,hv.mono Le.snoc⟩,a,rfl,by rw[<-R.r.sl,aau (aaw _),abo];rfl⟩
 | false=>
  cases hm
  exact aO (R.rL hf ha) λL R'=>⟨_,σ,L,R',.xk (Dt.dN _ _ _) (hv.mono L)⟩
noncomputable def ry(T:Tb)(cl:Addr->List V->List AO->RE V)(n:Nat)(F:aV)(mu:Bool)(m:M)(x:Str)(ifs:List Expr)(elt:Expr)(sc:Scope)(src:V)(st:List AO):RE V:=
 (si (cX T cl n (F.comp sc) x ifs elt src 0 (gV m sc) st [])).bind λxs st=>mk mu xs st
theorem rz{x:Str}{ifs:List Expr}{elt:Expr}{sc:Scope}{src:V}{r:RE V}(hr:r=ry T cl n F mu m x ifs elt sc src st)(aa:r≠none): ∃xs st1 v st2,cX T cl n (F.comp sc) x ifs elt src 0 (gV m sc) st []=some (.ok xs,st1)/\mk mu xs st1=some (.ok v,st2)/\
  r=some (.ok v,st2):=by
 unfold ry at hr
 generalize cX T cl n (F.comp sc) x ifs elt src 0 (gV m sc) st []=r1 at hr
 cases r1 with
 | none=>exact absurd hr aa
 | some q=>
  obtain⟨a,st1⟩:=q
  cases a with
  | error _=>exact absurd hr aa
  | ok xs=>
   refine aR (hr.symm:mk mu xs st1=r) aa λhl h=> ?_
   cases mu with
   | true=>exact⟨xs,st1,_,_,rfl,if_pos hl,h.symm⟩
   | false=>exact⟨xs,st1,_,_,rfl,if_pos hl,h.symm⟩
theorem wj(C:Cx g K f A F T cl){sc:Scope}{x:Str}(hc:NM F sc x):closureFor sc f.env=pure (tL f.env sc.names []):=by
 exact m8 λp hp hf=>(hc.nf p hp hf).elim (λh=>ao (C.cells _ _ h (.inl rfl)) λc h1 _=>⟨c,h1⟩) λh=>ao (C.cells _ _ h (.inr rfl)) λc h1 _=>⟨c,h1⟩
theorem AH{elt iter:Expr}{x:Str}{ifs:List Expr}{sc:Scope}{r:RE V}(hr:r=Fq T cl (dY T cl n) F m mu st (.comp elt iter x ifs sc))(aa:r≠none):(∀env v,foldedSetIterable iter env v=pure v)/\NM F sc x/\r=(bH T cl n F false m st iter).bind λsrc st=>ry T cl n F mu m x ifs elt sc src st:=
 aR hr.symm aa λhc h=>⟨λenv v=>wK (λa b c e=>aa (h.symm.trans (by subst e;cases n<;>rfl))) v,ur hc,h.symm⟩
theorem tU(S: ∀k,k<=n->f9 T cl k)(C:Cx g K f A F T cl){elt iter:Expr}{x:Str}{px:Pos}{ifs:List Expr}{sc:Scope}{pos:Pos}:dR g K f A F T cl n mu m st (.ListComp elt [⟨.Name x px,iter,ifs,0⟩] sc pos) (.comp elt iter x ifs sc):=by
 intro r hr aa
 refine bM (AH hr aa) λhs hc hr D0 σ0 s0 Q' R0 kk=> ?_
 rw[eval_ListComp]
 refine wpAny_comprehension_free (use:=none) rfl (hs _) (wj C hc) hc.kind hc.nl ?_
 refine WG.bind (g:=g) (K:=K) (f:=f) (A:=A) (P:=λsrc st1=>r=ry T cl n F mu m x ifs elt sc src st1) ((S n (aaw _)).sE C) hr aa (λ_ _ h=>h) D0 σ0 s0 _ R0 λsrc st1 D1 σ1 v1 s1 L1 R1 r1 q1=>AY (rz q1 aa) λxs st2 v vE k1 k2 k3=> ?_
 refine nS S C hc R1 r1 k1 (RR:=λacc Cc=>compPost (model cS g.w) A (iV g K f m r) none Q' acc Cc) λJ Cc oC its e D2 σ2 s2 L2 HC R2 zK hJ Nn TH Pl=>aj zK λmC zK=>⟨mC,zK,λh' uL=> ?_⟩
 have i0:=R2.dT
 have R3:=(R2.bU HC).mv (s':={s2 with heap:=h'}) i0.1 HC.k i0.2 HC.f ⟨λb o hb kI=>(uL.2 b hb).trans kI,rfl,rfl⟩
 exact cj (B6 R3 hJ ((uL.2 J Nn).trans TH) Pl k2) λD3 σ3 L3 R4 r4=>kk v vE D3 σ3 _ _ ((L1.trans L2).trans L3) R4 r4 k3
theorem Du{α β:Type}{r:RE α}{k:α->List AO->RE β}{k2:β->List AO->RS}:(r.bind k).b7 m k2=r.b7 m λa st=>(k a st).b7 m k2:=by
 cases r with
 | none=>rfl
 | some q=>
  obtain⟨a,_⟩:=q
  cases a<;>rfl
theorem yg(S: ∀k,k<=n->f9 T cl k)(C:Cx g K f A F T cl){y x:Str}{py px:Pos}{elt iter:Expr}{ifs:List Expr}{sc:Scope}{p pos:Pos}(hv:view (.ListComp elt [⟨.Name x px,iter,ifs,0⟩] sc p)= .comp elt iter x ifs sc):hZ g K f A F T cl n m st (.Assign [.Name y py] (.ListComp elt [⟨.Name x px,iter,ifs,0⟩] sc p) pos) (.Ea y (.ListComp elt [⟨.Name x px,iter,ifs,0⟩] sc p)):=by
 intro r hr aa
 have hr:r=(bH T cl n F (F.ky.contains y) m st (.ListComp elt [⟨.Name x px,iter,ifs,0⟩] sc p)).b7 m λv st=>Cu (putN F m y v) st:=hr
 have hb: ∃b,swapsWith (.ListComp elt [⟨.Name x px,iter,ifs,0⟩] sc p) (some (.Name y py)) pos.line f.env=pure b:=⟨_,rfl⟩
 refine aj hb λb hb=> ?_
 cases b with
 | false=>exact nN (WG.b7 ((S n (aaw _)).sE C) hr aa λv st1 h1=>ao (xv h1 aa) λm' hm h2=>iR C hm h2) hb
 | true=>
  cases n with
  | zero=>exact absurd hr aa
  | succ n=>
   have Nw:bH T cl (n+1) F (F.ky.contains y) m st (.ListComp elt [⟨.Name x px,iter,ifs,0⟩] sc p)=Fq T cl (dY T cl n) F m (F.ky.contains y) st (.comp elt iter x ifs sc):=congrArg (Fq T cl (dY T cl n) F m (F.ky.contains y) st) hv
   rw[Nw] at hr
   refine bM (AH rfl λq=>aa (hr.trans (congrArg (RE.b7 · m _) q))) λhs hc h1=> ?_
   have Uo:=hr.trans ((congrArg (RE.b7 · m _) h1).trans Du)
   intro D0 σ0 s0 Q' R0 kk
   rw[exec_Assign_Name_used _ _ _ _ hb]
   refine wpAny_bind (wpAny_standAt (wpAny_bind ?_))
   show wpAny _ A (do let _<-comprehension (.ListComp elt [⟨.Name x px,iter,ifs,0⟩] sc p) sc f.env _ (newList []) false (eval iter f.env) (some (assign (.Name y py) f.env))) _ _ s0
   refine wpAny_bind (wpAny_mono (wpAny_comprehension_free (use:=some (assign (.Name y py) f.env)) (Q:=λ_ s'=>Q' .next s') rfl (hs _) (wj C hc) hc.kind hc.nl ?_) (λ_ s' hq=>wpAny_pure (wpAny_pure hq)) λ_ _ e=>e)
   refine WG.b7 (g:=g) (K:=K) (f:=f) (A:=A) (P:=λsrc st1=>r=(ry T cl n F (F.ky.contains y) m x ifs elt sc src st1).b7 m λv st=>Cu (putN F m y v) st) ((S n (acN _)).sE C) Uo aa (λ_ _ h=>h) D0 σ0 s0 _ R0 λsrc st1 D1 σ1 v1 s1 L1 R1 r1 q1=> ?_
   refine AY (rz rfl λq=>aa (q1.trans (congrArg (RE.b7 · m _) q))) λxs st2 v vE k1 k2 k3=>ao (xv (q1.trans (congrArg (RE.b7 · m _) k3)) aa) λm' hm h2=> ?_
   refine nS (λk hk=>S k (Nat.le_succ_of_le hk)) C hc R1 r1 k1 (RR:=λacc Cc=>compPost (model cS g.w) A (tI g K f r) (some (assign (.Name y py) f.env)) (λ_ s'=>Q' .next s') acc Cc) λJ Cc oC its e D2 σ2 s2 L2 HC R2 zK hJ Nn TH Pl=> ?_
   have hJ':eV (λa=>a∈(K.hide Cc oC).cm\/a∈f.fa) D2 σ2 J:=⟨hJ.1,hJ.2.1,λq=>q.elim (λq=>(Kx.aJ.mp q).elim (λq=>hJ.2.2 (.inl q)) Nn) λq=>hJ.2.2 (.inr q)⟩
   refine cj (B6 R2 hJ' TH Pl k2) λD3 σ3 L3 R4 r4=>AY zK λmC o' es ep q2 q3 q4=> ?_
   have hoC:o'=oC:=aaj (q2.symm.trans R2.gm)
   show wpAny _ A (assign (.Name y py) f.env (.ref J)) _ _ s2
   refine wpAny_assign_Name (iR (Q:=λm2 Ru=>m2=m'/\Ru=vE) (C.hide (o:=oC) HC.k) hm ⟨rfl,rfl⟩ D3 σ3 s2 _ _ R4 r4 λm4 Ru D4 σ4 s4 L4 R5 q5=>⟨mC,⟨oC,es,ep,R5.gm,hoC▸q3,q4⟩,λh' uL=> ?_⟩)
   have i0:=R5.dT
   have R6:=(R5.bU HC).mv (s':={s4 with heap:=h'}) i0.1 HC.k i0.2 HC.f ⟨λb o hb kI=>(uL.2 b hb).trans kI,rfl,rfl⟩
   exact kk .next m' vE D4 σ4 _ _ (((L1.trans L2).trans L3).trans L4) (q5.1▸q5.2▸R6) rfl h2
end
end Mine
namespace Mine
section
variable{g:Gl}{K:Kx}{f:Fx}{A:Around}{F:aV}{T:Tb}{cl:Addr->List V->List AO->RE V}{m:M}{st:List AO}{n:Nat}{mu:Bool}{E:Value->Shared->Prop}{D:Dt}{σ:List Addr}{s s':Shared}
theorem Hl(S: ∀k,k<=n->f9 T cl k)(C:Cx g K f A F T cl){e:Expr}: ∀r,r=bH T cl (n+1) F mu m st e->r≠none->WE g K f A e m st (cR r) (iV g K f m r):=by
 intro r hr aa
 have Sn:=S n (aaw _)
 have H:=xZ e
 have hr:r=Fq T cl (dY T cl n) F m mu st (view e):=hr
 generalize view e=w at H hr
 cases w with
 | name x=>exact aj H.2 λp e=>e▸JD C H.1 r hr aa
 | cst v=>exact gF H λc k p e h=>e▸Ep h r hr aa
 | bools op es=>exact aj H λp e=>e▸Sn.sB C r hr aa
 | bin op l rr=>exact aj H λp e=>e▸El Sn C r hr aa
 | un op x=>exact aj H λp e=>e▸ye Sn C r hr aa
 | ite t b o=>exact aj H λp e=>e▸Er Sn C r hr aa
 | dict fs=>exact rD H λks vs p e h1 h2=>e▸JA h1 h2 r hr aa
 | comp elt iter x ifs sc=>exact eJ H λtp p e=>e▸tU S C r hr aa
 | cmp op l rr=>exact aj H.2 λp e=>e▸yc Sn C H.1 r hr aa
 | iU o name as=>exact km H λap p e h1 h2 h3=>e▸En Sn C h1 h2 h3 r hr aa
 | call x as=>exact cj H λnp p e h1 h2=>e▸Eo Sn C h1 h2 (λ{lv a nY fz xs st r} hA iY hF hc hr aa=>E8 C.tb hA iY hF hc hr aa) r hr aa
 | jM e'=>exact aj H λp e=>e▸yd Sn C r hr aa
 | jN es=>exact aj H.1 λp e=>e▸zO Sn C H.2 r hr aa
 | fmt e'=>exact aj H λp e=>e▸qK Sn C r hr aa
 | attr e' name=>exact aj H.2 λp e=>e▸Jz Sn C H.1 r hr aa
 | item e' i=>exact aj H.1 λp e=>e▸JB Sn C H.2 r hr aa
 | slice e' lo hi=>exact eJ H λsp p e=>e▸Es Sn C r hr aa
 | list es=>exact aj H λp e=>e▸JC Sn C r hr aa
 | tuple es=>exact eJ H λk p e=>e▸Et Sn C r hr aa
 | no=>exact absurd hr aa
theorem Di(S: ∀k,k<=n->f9 T cl k):f9 T cl (n+1) where
 sE:=λC=>Hl S C
 sO:=λC=>Hp (S n (aaw _)) C
 Hm:=λC=>C9 (S n (aaw _)) C
 sB:=λC=>Hk (S n (aaw _)) C
 sT:=λC=>Hq (S n (aaw _)) C
 sA:=λC=>Hj (S n (aaw _)) C
 sJ:=λC=>Ho (S n (aaw _)) C
 sI:=λC=>Hn (S n (aaw _)) C
theorem Dj:f9 T cl 0 where
 sE:=λC r hr aa=>absurd hr aa
 sO:=λC r hr aa=>absurd hr aa
 Hm:=λC r hr aa=>absurd hr aa
 sB:=λC r hr aa=>absurd hr aa
 sT:=λC r hr aa=>absurd hr aa
 sA:=λC r hr aa=>absurd hr aa
 sJ:=λC r hr aa=>absurd hr aa
 sI:=λC r hr aa=>absurd hr aa
theorem vD: ∀n k,k<=n->f9 T cl k
 | 0,k,h=>by
  have :k=0:=by exact QP h
  subst this;exact Dj
 | n+1,k,h=>by
  by_cases e:k<=n
  ·exact vD n k e
  ·have :k=n+1:=by exact QQ h e
   subst this
   exact Di (vD n)
theorem qu(n:Nat):f9 T cl n:=vD n n (aaw _)
end
end Mine
namespace Mine
section
variable{g:Gl}{K:Kx}{f:Fx}{A:Around}{F:aV}{T:Tb}{cl:Addr->List V->List AO->RE V}{m:M}{st:List AO}{n:Nat}{mu:Bool}{E:Value->Shared->Prop}{D:Dt}{σ:List Addr}{s s':Shared}
theorem B0{x:Ex}{e:Value}(pE:f.env.frame=some f.L)(hF:AF K f A)(hf: ∃l,A.frames=some (f.env::l))(X:XF g K f m x st e s):wpAny (model cS g.w) A (leaving f.env e) (λ_ C7=>XC g K x st e C7) E s:=by
 refine cc X λD σ R F=> ?_;clear X
 unfold leaving
 refine wpAny_bind (qa R pE hF hf F λs1 R1 F1=> ?_)
 exact gk (fr:=none) R1 F1 λs2 R2 F2=>⟨D,σ,R2.r,F2.mono (λa h=> .inl h) λv h=>h⟩
theorem rk{kd:Str->Option NameKind}: ∀{binds:List (Str×Value)} {m:Str->Option Value} {x:Str} {v:Value},(binds.map (·.1)).Nodup->kd x=some .local->((x,v)∈binds\/(x∉binds.map (·.1)/\m x=some v))->bindL kd binds m x=some v
 | [],m,x,v,_,_,h=>by
  rcases h with h | h
  ·cases h
  ·exact h.2
 | (n,u)::r,m,x,v,nd,hk,h=>by
  rw[aaq,aaK] at nd
  unfold bindL
  refine rk nd.2 hk ?_
  rcases h with h | ⟨h1,h2⟩
  ·rcases aat.mp h with e | h
   ·cases e
    exact .inr ⟨nd.1,by rw[if_pos hk];simp⟩
   ·exact .inl h
  ·rw[aaq,aat,not_or] at h1
   refine .inr ⟨h1.2,?_⟩
   split
   ·exact(if_neg h1.1).trans h2
   ·exact h2
theorem rj{kd:Str->Option NameKind}: ∀{binds:List (Str×Value)} {m:Str->Option Value} {x:Str} {v:Value},(binds.map (·.1)).Nodup->kd x≠some .local->((x,v)∈binds\/(x∉binds.map (·.1)/\m x=some v))->bindC kd binds m x=some v
 | [],m,x,v,_,_,h=>by
  rcases h with h | h
  ·cases h
  ·exact h.2
 | (n,u)::r,m,x,v,nd,hk,h=>by
  rw[aaq,aaK] at nd
  unfold bindC
  refine rj nd.2 hk ?_
  rcases h with h | ⟨h1,h2⟩
  ·rcases aat.mp h with e | h
   ·cases e
    exact .inr ⟨nd.1,by rw[if_neg hk];simp⟩
   ·exact .inl h
  ·rw[aaq,aat,not_or] at h1
   refine .inr ⟨h1.2,?_⟩
   split
   ·exact h2
   ·exact(if_neg h1.1).trans h2
theorem dD: ∀(l:List (Str×NameKind)) (n:Nat) (acc:List (Str×Addr)),(cellsFrom n l acc).map (·.1)=((l.filter λp=>p.2== .cell).map (·.1)).reverse++acc.map (·.1)
 | [],_,_=>rfl
 | (nm,k)::l,n,acc=>by
  unfold cellsFrom
  by_cases hk:(k==ac3)=true
  ·rw[if_pos hk,dD l (n+1) _,abj (by exact hk)];simp
  ·rw[if_neg hk,dD l n acc,abi (by exact hk)]
theorem fW{α:Type}: ∀{l:List (Str×α)} {x:Str} {c:α},(l.map (·.1)).Nodup->(x,c)∈l->l.lookup x=some c
 | [],_,_,_,h=>jR h
 | (n,d)::l,x,c,nd,h=>by
  rw[aaq,aaK] at nd
  rw[aao]
  rcases aat.mp h with e | h
  ·cases e;simp
  ·have :x≠n:=λe=>nd.1 (e▸aa7 (f:=(·.1)) h)
   rw[beq_false_of_ne this]
   exact fW nd.2 h
theorem u9{l:List (Str×Addr)}(h:l.Pairwise λx y=>x.2≠y.2):(l.map (·.2)).Nodup:=by
 unfold List.Nodup
 rw[List.pairwise_map]
 exact h
noncomputable def fxC(fd:FuncData)(L fn:Addr):Fx:=⟨callEnvC fd L fn,L,(cellsFrom (L+1) fd.scope.names []).map (·.2)⟩
structure Ey(g:Gl)(f:Fx)(Eh:List (Str×NameKind)):Prop where
 ok:vP g f
 sc:f.env.scope.names=Eh
 fr:f.env.frame=some f.L
 cells: ∀x,Eh.lookup x=some .cell-> ∃c,f.env.cells.lookup x=some c/\c∈f.own
 inj: ∀x y c,f.env.cells.lookup x=some c->f.env.cells.lookup y=some c->x=y
theorem Br{k:Nat}{fn:Addr}{name qual:Str}{params:Arguments}{body:List Stmt}{scope:Scope}{dV kV doc pm tJ ct oc:Value}{an od:Option Addr}{zg:Array (Option Value)}{xs dx:List V}{dv:List Value}{Q':Value->Shared->Prop}{vs:List Value}
  (ps:List Str) (hA:bI (k+1) A)
  (ho:(Mine.KN g.w.params).lookup fn=some ⟨oc,od,.func (fnOf name qual params body scope dV kV doc pm an tJ ct),zg⟩) (yP:codeIn (Mine.KN g.w.params) tJ qual=true)
  (hlen:ps.length=xs.length+dv.length) (wU: ∀D σ,aM g.w.params D σ dx dv)
  (hb: ∀(s:Shared) (vs:List Value),vs.length=xs.length->(Mine.KN g.w.params).In s.heap->BindsTo s (fnOf name qual params body scope dV kV doc pm an tJ ct) ⟨vs,[]⟩ (ps.zip (vs++dv)))
  (FQ: ∀x∈ps,scope.names.lookup x=some .local\/scope.names.lookup x=some .cell) (LI:ps.Nodup) (NH:(scope.names.map (·.1)).Nodup)
  (tM:scope.isCoroutine=false) (K5:scope.isGenerator=false) (hk:scope.kind= .function)
  (R:aP g K D σ st s) (hv:aM g.w.params D σ xs vs)
  (h: ∀f,Ey g f scope.names->bI k (A.deeper f.env)-> ∀s₁,Keeps s s₁->aP g K D σ st s₁->Rel g K f D σ (bindM ps (xs++dx)) st s₁->
   wpAny (model cS g.w) (A.deeper f.env) (execs body f.env) (λfl s'=>Q' (Ou fl) s') (Mh g A f.env E) s₁):
  codeAny (model cS g.w) A (.call (.ref fn) ⟨vs,[]⟩) (nI Q' E) s:=by
 have hX:=R.pI
 have hT:=g.hT.keeps R.base
 have rU:=aM.length hv
 have hzl:ps.length=(vs++dv).length:=by rw[aag,rU];exact hlen
 have IX: ∀n:Nat,((cellsFrom n scope.names []).map (·.1)).Nodup:=λn=>by
  rw[dD,acS,aav]
  refine List.pairwise_reverse.mpr (List.Pairwise.imp Ne.symm ?_)
  exact List.Sublist.nodup (List.Sublist.map _ List.filter_sublist) NH
 have iY: ∀(n:Nat) x,scope.names.lookup x=some .cell-> ∃c,(cellsFrom n scope.names []).lookup x=some c:=λn x hx=>by
  have hm:=mem_of_lookupK hx
  have :x∈(cellsFrom n scope.names []).map (·.1):=by
   rw[dD,acS,aav,List.mem_reverse]
   have hf:(x,ac3)∈scope.names.filter λp=>p.2== .cell:=abL.mpr ⟨hm,rfl⟩
   exact aa7 (f:=(·.1)) hf
  refine ae this ?_;rintro p hp rfl
  exact⟨p.2,fW (IX n) hp⟩
 have Sm:=hA.dep
 refine codeAny_call_function (R:=nI Q' E) (fd:=fnOf name qual params body scope dV kV doc pm an tJ ct) (Zq Sm) (hX _ _ ho) rfl tM K5 rfl (codeRec_of hX yP) ?_
 refine hb s vs rU hX _ _ _ _ ?_
 refine wpAny_newFunctionEnv_cells hk (λx hx=> ?_) (λenv he s₁ X=> ?_)
 ·have wZ:=(List.of_mem_zip hx).1
  rcases FQ x.1 wZ with h1 | h1
  ·exact .inl h1
  ·refine aj (iY (s.heap.objs.size+1) _ h1) λc hc=> ?_
   exact .inr ⟨h1,by rw[hc];rfl⟩
 have T7:s.heap.NoLimit:=hT.nolimit
 refine⟨T7.keeps X.toInCall.keep,codeAny_func ?_⟩
 let f:Fx:=fxC (fnOf name qual params body scope dV kV doc pm an tJ ct) s.heap.objs.size fn
 have he:env=f.env:=he
 subst he
 have yQ:f.env.cells=cellsFrom (s.heap.objs.size+1) scope.names []:=rfl
 have aaW:f.env.locals=s.heap.objs.size:=rfl
 have Lc: ∀c,c∈f.own-> ∃n,f.env.cells.lookup n=some c:=λc hc=>by
  refine ae (show c∈(cellsFrom (s.heap.objs.size+1) scope.names []).map (·.2) from hc) ?_;rintro p hp rfl
  exact⟨p.1,fW (IX _) hp⟩
 have FO:Ey g f scope.names:=by
  refine⟨⟨hk,rfl,rfl,rfl⟩,rfl,rfl,λx hx=> ?_,λx y c h1 h2=>name_of_addr X.apart (abR h1) (abR h2)⟩
  refine aj (iY (s.heap.objs.size+1) x hx) λc hc=> ?_
  exact⟨c,hc,aa7 (f:=(·.2)) (abR hc)⟩
 have iw:bI k (A.deeper f.env):=⟨hA.hd,by exact Zr Sm,by exact Zs hA.un⟩
 have kp:Keeps s s₁:=by
  refine eJ X.toInCall.same ?_;rintro h' tk rfl
  exact⟨X.toInCall.keep,rfl,rfl⟩
 have R1:=R.keep kp
 have hzm:((ps.zip (vs++dv)).map (·.1)).Nodup:=by rw[kQ hzl];exact LI
 have Rf:Rel g K f D σ (bindM ps (xs++dx)) st s₁:=by
  refine⟨R1,λa ha=> ?_,?_,⟨_,X.toInCall.ns,λx v nX=> ?_⟩,λc hc=> ?_⟩
  ·rcases aat.mp ha with rfl | ha
   ·exact R.none_of (a:=s.heap.objs.size) au
   ·refine aj (Lc a ha) λn hn=> ?_
    have :=X.above n a (abR hn)
    exact R.none_of (ab4 (Nat.le_of_lt this))
  ·refine aaK.mpr ⟨λhm=> ?_,u9 X.apart⟩
   refine aj (Lc _ hm) λn hn=> ?_
   exact ac4 _ (X.above n _ (abR hn))
  ·refine ao (mS nX) λi hxp yW=> ?_
   refine aM.rh (aM.append hv (wU D σ)) yW λu q1 q2=> ?_
   refine⟨u,q2,?_⟩
   have mh:(x,u)∈ps.zip (vs++dv):=mem_of_lookup (my LI hxp q1)
   rcases FQ x (aas hxp) with h1 | h1
   ·exact .inl ⟨h1,rk hzm h1 (.inl mh)⟩
   ·refine ao (FO.cells x h1) λc hc tM=> ?_
    have hcc:=X.cell x c hc
    have e1:bindC f.env.kindOf (ps.zip (vs++dv)) (λ_=>none) x=some u:=rj hzm (by show scope.names.lookup x≠_;rw[h1];exact λq=>nomatch q) (.inl mh)
    rw[e1] at hcc
    exact .inr (.inl ⟨h1,c,hc,tM,hcc⟩)
  ·refine aj (Lc c hc) λn hn=> ?_
   exact⟨_,X.cell n c hn⟩
 refine wpAny_mono (h f FO iw s₁ kp R1 Rf) (λfl s' x=>by cases fl<;>exact x) (λe s' x=> ?_)
 exact wpAny_mono x (λ_ _ y=>y) (λ_ _ y=>y)
theorem J2{k:Nat}{fn:Addr}{name qual:Str}{params:Arguments}{body:List Stmt}{scope:Scope}{dV kV doc pm tJ ct oc:Value}{an od:Option Addr}{zg:Array (Option Value)}{xs dx:List V}{dv:List Value}{Q:V->List AO->Prop}
  (ps:List Str) (hA:bI (k+1) A)
  (ho:(Mine.KN g.w.params).lookup fn=some ⟨oc,od,.func (fnOf name qual params body scope dV kV doc pm an tJ ct),zg⟩) (yP:codeIn (Mine.KN g.w.params) tJ qual=true)
  (hlen:ps.length=xs.length+dv.length) (wU: ∀D σ,aM g.w.params D σ dx dv)
  (hb: ∀(s:Shared) (vs:List Value),vs.length=xs.length->(Mine.KN g.w.params).In s.heap->BindsTo s (fnOf name qual params body scope dV kV doc pm an tJ ct) ⟨vs,[]⟩ (ps.zip (vs++dv)))
  (FQ: ∀x∈ps,scope.names.lookup x=some .local\/scope.names.lookup x=some .cell) (LI:ps.Nodup) (NH:(scope.names.map (·.1)).Nodup)
  (tM:scope.isCoroutine=false) (K5:scope.isGenerator=false) (hk:scope.kind= .function)
  (h: ∀f,Ey g f scope.names->bI k (A.deeper f.env)->
   ∀D σ s (Q':Value->Shared->Prop),aP g K D σ st s->Rel g K f D σ (bindM ps (xs++dx)) st s->(∀a st' D' σ' b s',Le D σ D' σ'->aP g K D' σ' st' s'->VR g.w.params D' σ' a b->Q a st'->Q' b s')->
   wpAny (model cS g.w) (A.deeper f.env) (execs body f.env) (λfl s'=>Q' (Ou fl) s') (Mh g A f.env E) s):
  WC g K A (.ref fn) xs st Q E:=by
 intro D σ s Q' vs R hv kk
 refine Br ps hA ho yP hlen wU hb FQ LI NH tM K5 hk R hv λf FO iw s₁ kp R1 Rf=> ?_
 exact h f FO iw D σ s₁ Q' R1 Rf λa st' D' σ' b s' L' R' r' q=>kk a st' D' σ' b s' L' R' r' q
end
end Mine
namespace Mine
section
variable{g:Gl}{K:Kx}{f:Fx}{A:Around}{F:aV}{T:Tb}{cl:Addr->List V->List AO->RE V}{m:M}{st:List AO}{n:Nat}{mu:Bool}{E:Value->Shared->Prop}{D:Dt}{σ:List Addr}{s s':Shared}
inductive SR(g:Gl)(a:Addr)(fi:g9):Prop where
 | mk (name qual:Str) (params:Arguments) (scope:Scope) (dV kV doc pm tJ ct oc:Value) (an od:Option Addr) (zg:Array (Option Value)) (dv:List Value)
  (h1:(Mine.KN g.w.params).lookup a=some ⟨oc,od,.func (fnOf name qual params fi.body scope dV kV doc pm an tJ ct),zg⟩) (h2:codeIn (Mine.KN g.w.params) tJ qual=true) (h3:scope.names=fi.sc)
  (h4: ∀D σ,aM g.w.params D σ fi.dx dv)
  (h5: ∀(s:Shared) (vs:List Value),fi.ps.length<=vs.length+dv.length->vs.length<=fi.ps.length->(Mine.KN g.w.params).In s.heap->
   BindsTo s (fnOf name qual params fi.body scope dV kV doc pm an tJ ct) ⟨vs,[]⟩ (fi.ps.zip (vs++dv.drop (vs.length+dv.length- fi.ps.length))))
  (h6:scope.isCoroutine=false) (h7:scope.isGenerator=false) (h8:scope.kind= .function)
structure kR(g:Gl)(a:Addr)(fi:g9):Prop where
 ex:SR g a fi
 loc: ∀x∈fi.ps,fi.sc.lookup x=some .local\/fi.sc.lookup x=some .cell
 LI:fi.ps.Nodup
 NH:(fi.sc.map (·.1)).Nodup
 PT: ∀p∈fi.sc,p.2≠ .free
theorem AK.deeper(h:AK K A){env:Env}(hk:env.scope.kind≠ .module)(hf:f.env=env)(hL:env.frame=some f.L):AF K f (A.deeper env)/\ ∃l,(A.deeper env).frames=some (env::l):=by
 refine ao h λl h1 h2=> ?_;clear h
 have e:(A.deeper env).frames=some (env::l):=congrArg (Option.map (env:: ·)) h1
 refine⟨⟨env::l,e,λx hx=> ?_⟩,l,e⟩
 rcases aat.mp hx with rfl | hx
 ·exact⟨hk,_,hL,.inl rfl⟩
 ·obtain⟨h3,L,h4,h5⟩:=h2 x hx
  exact⟨h3,L,h4,.inr h5⟩
theorem Oz{lv:Nat}{a:Addr}{fi:g9}{xs:List V}{r:RE V}(hT:Il g T)(hF:kR g a fi)(iY:mX g lv cl)(X:oJ T cl fuel)(hA:bI (lv+3) A)(hAK:AK K A)
  (hr:r=if fi.ps.length<=xs.length+fi.dx.length/\xs.length<=fi.ps.length then
     vy fi st (aT T cl fuel ⟨fi.sc,true,fi.ky,fi.hM⟩ (bindM fi.ps (xs++fi.dx.drop (xs.length+fi.dx.length- fi.ps.length))) st fi.body)
    else none) (aa:r≠none):WC g K A (.ref a) xs st (cR r) (NP g K r):=by
 refine aR hr.symm aa λhl hr=> ?_
 have hr:=hr.symm
 refine jK λG kG=> ?_
 obtain⟨name,qual,params,scope,dV,kV,doc,pm,tJ,ct,oc,an,od,zg,dv,h1,h2,h3,h4,h5,h6,h7,h8⟩:=hF.ex
 refine kG ?_
 have BD:dv.length=fi.dx.length:=aM.length (h4 (λ_=>none) [])
 generalize Nw:aT T cl fuel ⟨fi.sc,true,fi.ky,fi.hM⟩ (bindM fi.ps (xs++fi.dx.drop (xs.length+fi.dx.length- fi.ps.length))) st fi.body=r1 at hr
 have uH:r1≠none:=λq=>aa (hr.trans (congrArg (vy fi st) q))
 refine J2 fi.ps (k:=lv+2) hA h1 h2 (dx:=fi.dx.drop (xs.length+fi.dx.length- fi.ps.length)) (dv:=dv.drop (xs.length+fi.dx.length- fi.ps.length)) ?_ (λD σ=>aM.drop (h4 D σ) _) (λs vs rU hX=> ?_) ?_ hF.LI ?_ h6 h7 h8 (λf FO iw D σ s Q' R Rf kk=> ?_)
 ·rw[acY,BD];exact QR hl
 ·have :=h5 s vs (by rw[rU,BD];exact hl.1) (by rw[rU];exact hl.2) hX
  rw[rU,BD] at this
  exact this
 ·rw[h3];exact hF.loc
 ·rw[h3];exact hF.NH
 ·refine aO (hAK.deeper (f:=f) (env:=f.env) (by rw[FO.ok.kind];exact λq=>nomatch q) rfl FO.fr) λSf pE=> ?_
  have C:Cx g K f (A.deeper f.env) ⟨fi.sc,true,fi.ky,fi.hM⟩ T cl:=by
   refine⟨FO.ok,FO.sc.trans h3,λx k hx hk=> ?_,λ_=>FO.inj,Sf,λ_=>⟨FO.fr,pE⟩,iw.PB (Zt),hT,lv,iw.PB (Zu),iY⟩
   rcases hk with rfl | rfl
   ·refine ao (FO.cells x (by rw[h3];exact hx)) λc hc ho=> ?_
    exact⟨c,hc,λ_ _=>ho⟩
   ·exact absurd rfl (hF.PT _ (mem_of_lookupK hx))
  refine wpAny_mono (X.Nc C rfl r1 Nw.symm uH D σ s (λfl s'=>Q' (Ou fl) s') Rf λfl m' st' D' σ' b s' L R' r' q=> ?_) (λ_ _ x=>x) (λe s' x=> ?_)
  ·exact bO (hr.trans (congrArg (vy fi st) q)).symm (λ_ hr=>kk _ st' D' σ' _ s' L R'.r (Rm r') hr.symm) λ_ hr=>ao (nV hr.symm aa) λy e1 e2=>aO (l9 R'.r (C8 R) (Rm r') e2) λSU v''=>kk y _ _ _ _ s' (ig R L R'.r) SU v'' e1
  ·exact gF x λx m' st' q XX=>wpAny_mono (B0 (g:=g) (m:=m') (E:=λe s'=>NP g K r e s') FO.fr Sf pE XX) (λ_ s2 y=>⟨x,st',hr.trans (congrArg (vy fi st) q),y⟩) (λ_ _ y=>y)
def tY(g:Gl)(prim:Addr->Option (List V->List AO->RE V)):Prop:=
 ∀a p,prim a=some p-> ∀A K xs st,bI 3 A->AK K A->p xs st≠none->WC g K A (.ref a) xs st (cR (p xs st)) (NP g K (p xs st))
theorem wh{prim:Addr->Option (List V->List AO->RE V)}(hT:Il g T)(hF: ∀a fi,T.fn a=some fi->prim a=none->kR g a fi)(hP:tY g prim)(X: ∀cl,oJ T cl fuel): ∀k,mX g (3* k) (gU T prim k)
 | 0=>λA K fn xs st hA hK aa=>absurd rfl aa
 | k+1=>by
  intro A K fn xs st hA hK aa
  have hr:gU T prim (k+1) fn xs st=lO T prim (gU T prim k) fn xs st:=rfl
  rw[hr] at aa ⊢
  unfold lO at aa ⊢
  cases hp:prim fn with
  | some p=>rw[hp] at aa;exact hP _ _ hp A K xs st (hA.PB (Zv)) hK aa
  | none=>
   rw[hp] at aa
   exact aB rfl aa λfi hfi h=>Oz hT (hF _ _ hfi hp) (wh hT hF hP X k) (X _) (hA.PB (Zw)) hK h.symm aa
end
end Mine
namespace Mine
theorem s8:Slot "BaseException" "__getattribute__" "BaseException.__getattribute__":=
 Slot.of (T:="BaseException") (name:="__getattribute__") (owner:="BaseException") (n:="__getattribute__") (by rw[typeLookup_type,builtinLookup_eq_fast];kernel_rfl) (by decide+kernel) (by decide+kernel) (by decide+kernel)
  (.inl (by decide+kernel)) (by rw[isSubtype_type];kernel_rfl)
section
variable{prog:Program}{w:World}{A:Around}{E:Value->Shared->Prop}{s:Shared}{K:Frag}{x C:Addr}{ox:Obj}{od:Option Obj}{name:Str}{expr:Bool}
theorem A4{v:Value}{Q:Value->Shared->Prop}(X:K.In s.heap)(I:acQ s.heap x ox C od)(hga:findIn K (.ref C) "__getattribute__"=some (some (.builtin "BaseException.__getattribute__")))(hk:findIn K (.ref C) "__getattr__"=some none)
  (hi:subIn K (.ref C) (.type "BaseException")=some true) (hf:findObj K C od name=some (.value v)) (hh:handedIn v=true) (h:Q v {s with toks:=s.toks+1}):wpAny (model prog w) A (getAttr (.ref x) name expr) Q E s:=by
 have L0:=I.type (M:=model prog w)
 have L1:=looks_find (M:=model prog w) X I hf
 refine wpAny_bind (wpAny_mkText (wpAny_holding (wpAny_bind (L0 _ _ _ _ (λ_ _ e=>e) (wpAny_bind (looks_findIn X hga _ _ _ _ (λ_ _ e=>e) ?_))))))
 dsimp only
 rw[show(onTheHeap (.ref C)&&ac6 "BaseException.__getattribute__"==ac6 "object.__getattribute__")=false from by rw[show(ac6 "BaseException.__getattribute__"==ac6 "object.__getattribute__")=false from by decide+kernel,Bool.and_false],if_neg (by decide)]
 refine wpAny_bind (looks_hook (M:=model prog w) (mc:= .ref C) X (r:=none) (by show findIn K (.ref C) "__getattr__"=some none;exact hk) _ _ _ _ (λ_ _ e=>e) (wpAny_bind (wpAny_attempt (wpAny_holding ?_))))
 unfold callGetattribute
 rw[show(expr&&onTheHeap (ac6 "BaseException.__getattribute__"))=false from Bool.and_false _,if_neg (by decide)]
 unfold boundAndCalled
 rw[s8.bind]
 refine wpAny_bind (wpAny_pure ?_)
 show wpAny _ _ (call (.builtin "BaseException.__getattribute__") [.ref x,.str name s.toks]) _ _ _
 refine wpAny_call ?_
 refine codeAny_call_builtin s8.plain PySem.F.entry_bexc_ga ?_
 refine @check_slot (model prog w) _ _ {s with toks:=s.toks+1} "BaseException.__getattribute__" "BaseException" "__getattribute__" (.ref x) [.str name s.toks] [] _ (by decide+kernel) (by decide+kernel) (L0.andThen (looks_subIn X hi)) (PySem.F.args_bexc_ga (.ref x) (.str name s.toks)) ?_
 obtain⟨hh',g,d,t,os⟩:=s
 refine wpAny_bind (wpAny_pure (wpAny_bind (wpAny_pure (wpAny_bind (L0.at (wpAny_bind (L1.at ?_)))))))
 refine wpAny_pure ?_
 show wpAny _ _ (handedOut v) _ _ _
 rw[handedOut_of hh];exact wpAny_pure h
end
end Mine
namespace Mine
section
variable{g:Gl}{K:Kx}{f:Fx}{A:Around}{F:aV}{T:Tb}{cl:Addr->List V->List AO->RE V}{m:M}{st:List AO}{n:Nat}{mu:Bool}{E:Value->Shared->Prop}{D:Dt}{σ:List Addr}{s s':Shared}
noncomputable def Kx.base(K:Kx)(D:Dt)(σ:List Addr):Kx:={K with D0:=D,s0:=σ}
theorem cT.base{mm:Str->Option Value}{h:Heap}{x:Str}{v:V}{D1:Dt}{σ1:List Addr}:cT g (K.base D1 σ1) f D σ mm h x v<->cT g K f D σ mm h x v:=Iff.rfl
theorem Rel.Ip(R:Rel g K f D σ m st s):Rel g (K.base D σ) f D σ m st s:=
 ⟨⟨λa o h=>R.r.d0 _ _ (R.r.b0 a o h),λ_ _ h=>h,λ_ _ h=>h,R.r.dh,R.r.kf,R.r.kp,R.r.kd,R.r.so,R.r.sd,R.r.sl,R.r.nd,R.r.gens,R.r.os⟩,R.fd,R.fn,R.fr,R.oc⟩
theorem Rel.vJ{D1:Dt}{σ1:List Addr}(L:Le D1 σ1 D σ)(R1:aP g K D1 σ1 st s){m':M}{st':List AO}(R:Rel g (K.base D1 σ1) f D σ m' st' s'):Rel g K f D σ m' st' s':=
 ⟨⟨R1.b0,λa o h=>L.d _ _ (R1.d0 a o h),λn a h=>L.s _ _ (R1.s0 n a h),R.r.dh,R.r.kf,R.r.kp,R.r.kd,R.r.so,R.r.sd,R.r.sl,R.r.nd,R.r.gens,R.r.os⟩,R.fd,R.fn,R.fr,R.oc⟩
theorem Rel.forget(R:Rel g K f D σ m st s){h':Heap}{t:Nat}{mm:Str->Option Value}(hn:h'.Ns f.L mm)(hb:Heap.SameBut f.L s.heap h'):Rel g K f D σ (λ_=>none) st {s with heap:=h',toks:=t}:=
 have k:vM f.L s {s with heap:=h',toks:=t}:=⟨λb o Ec h=>(hb.2 b Ec).trans h,rfl,rfl⟩
 have fL:=R.fd f.L aak
 ⟨R.r.mv fL.1 fL.2.1 fL.2.2 k,R.fd,R.fn,⟨_,hn,λy u hu=>aY hu⟩,λc hc=>let⟨v,o,h1,h2⟩:=R.oc c hc;⟨v,o,k.h _ _ (R.qg hc) h1,h2⟩⟩
theorem V.CN{v:V}(h:v.pl=true):v.plain=true:=by
 cases v with
 | f6 _=>exact ft h
 | _=>rfl
theorem uf{C ea d:Addr}{oe:Obj}{es:List DictEntry}{n:Nat}{fs:List (Str×V)}{j:Nat}{name:Str}{v:V}{vs:Array Value}{Q:V->List AO->Prop}(ok:qM g.w C)(hk:(ea,oe)∈K.kept)(h1:oe.cls= .ref C)(h2:oe.dict=some d)(h3:oe.data= .fields vs)(h4:K.D0 d=some (dictOf es n))
  (h5:bN g.w.params K.D0 K.s0 fs es) (nd:(fs.map (·.1)).Nodup) (hj:fs[j]? =some (name,v)) (hm:name∈eL) (hv:v.pl=true) (hQ:Q v st):W1 g K f A (λo=>getAttr o name true) (.f6 (.ref ea)) (VR g.w.params) m st Q E:=by
 intro D σ s Q' u R hu k
 have hu:u= .ref ea:=hu
 subst hu
 have L:=R.r.Ss
 have hd:=R.r.dh _ _ (L.d _ _ h4)
 have he:=R.r.kp _ hk
 refine ao ((h5.mono L).look (n:=n) nd hj) λu q1 q2=> ?_
 refine A4 R.pI ⟨he,h1,?_,?_⟩ ok.g ok.x ok.s (findObj_own ok.h (ok.a name hm) rfl q1) (handed (V.CN hv) q2) (k v st D σ u _ Le.refl (R.tok _) q2 hQ)
 ·unfold notCls;rw[h3]
 ·rw[h2];exact hd
theorem HZ(hu:A.units+64<cLine){x y:V}{b:Bool}{Q:V->List AO->Prop}(h:tv st x y=some b)(hQ:Q (.bool b) st):W2 g K f A (compareOp .Eq) x y (VR g.w.params) m st Q E:=by
 exact λD σ s Q' v u R hv hu' kk=>DS R.r h hv hu' λd1 d2 as bs r1 r2 c1 c2 e=>eq_dataH r1 r2 c1 c2 hu (e▸kk (.bool b) st D σ _ s Le.refl R rfl hQ)
end
end Mine
namespace Mine
section
variable{g:Gl}{K:Kx}{f:Fx}{A:Around}{F:aV}{T:Tb}{cl:Addr->List V->List AO->RE V}{m:M}{st:List AO}{n:Nat}{mu:Bool}{E:Value->Shared->Prop}{D:Dt}{σ:List Addr}{s s':Shared}
theorem DJ{k:Str}{o e:Expr}(h:Jv e=some (o,k)): ∃p,e= .Attribute o k p:=by
 cases e with
 | Attribute y j p=>cases h;exact⟨p,rfl⟩
 | _=>exact aY h
theorem DL{l:Expr}{ops:List CmpOp}{rs:List Expr}{e:Expr}(h:Jx e=some (l,ops,rs)): ∃p,e= .Compare l ops rs p:=by
 cases e with
 | Compare a b c p=>cases h;exact⟨p,rfl⟩
 | _=>exact aY h
theorem HW{e:Expr}{s:Stmt}(h:RL s=some e): ∃p,s= .Return (some e) p:=by
 cases s with
 | Return o p=>exact⟨p,congrArg (Stmt.Return · p) h⟩
 | _=>exact aY h
theorem qB{x k:Str}{e:Expr}(h:HS x k e=true): ∃p q,e= .Attribute (.Name x p) k q:=
 br h (λw q h=>aO (of_decide_eq_true h) λh2 h3=>aj (gx h2) λp e1=>aj (DJ (o:=w.1) (k:=w.2) q) λq e2=>⟨p,q,by rw[e2,e1,h3]⟩) λ_ h=>ft h
theorem vg{α:Type}{l:List α}{x:α}(h:one l=some x):l=[x]:=by
 cases l with
 | nil=>exact aY h
 | cons a l=>
  cases l with
  | nil=>exact congrArg (λa=>[a]) (aaj h)
  | cons _ _=>exact aY h
theorem Dv{α:Type}{l:List α}{x:α×α×α}(h:three l=some x):l=[x.1,x.2.1,x.2.2]:=by
 cases l with
 | nil=>exact aY h
 | cons a l=>
  cases l with
  | nil=>exact aY h
  | cons b l=>
   cases l with
   | nil=>exact aY h
   | cons c l=>
    cases l with
    | nil=>cases h;rfl
    | cons _ _=>exact aY h
theorem F8{op:CmpOp}(h:isEq op=true):op= .Eq:=by
 cases op with
 | Eq=>rfl
 | _=>exact ft h
noncomputable abbrev tel(x:Str)(p1 p2 p3 q1 q2 q3:Pos)(k:Nat)(tp:Pos):Expr:= .Tuple [.Attribute (.Name x p1) (aab "kind") q1,.Attribute (.Name x p2) (aab "at") q2,.Attribute (.Name x p3) (aab "detail") q3] k tp
theorem DQ{x:Str}{l:Expr}(h:Jy x l=true): ∃p1 p2 p3 q1 q2 q3 k tp,l=tel x p1 p2 p3 q1 q2 q3 k tp:=
 br h (λes he h=>br h (λt ht h=>aO (aap.mp h) λh2 h5=>aO (aap.mp h2) λh3 h4=>eJ (qB h3) λp1 q1 e1=>eJ (qB h4) λp2 q2 e2=>eJ (qB h5) λp3 q3 e3=>eJ (xY he) λk tp e=>⟨p1,p2,p3,q1,q2,q3,k,tp,by rw[e,Dv ht,e1,e2,e3]⟩) λ_ h=>ft h) λ_ h=>ft h
inductive Tells(x y:Str)(hb:List Stmt):Prop where
 | mk (p1 p2 p3 q1 q2 q3:Pos) (k:Nat) (tp yp cp rp:Pos) (h1:hb=[.Return (some (.Compare (tel x p1 p2 p3 q1 q2 q3 k tp) [.Eq] [.Name y yp] cp)) rp]) (h2:y≠x)
theorem td{x y:Str}{hb:List Stmt}(h:tells x hb=some y):Tells x y hb:=
 aB h aN λs hs h=>aB h aN λe h1 h=>aB h aN λw hw h=>aB h aN λop ho h=>aB h aN λr hr h=>aB h aN λy' hy h=>aR h aN λhc h=>Tt (DQ hc.2.1) λp1 p2 p3 q1 q2 q3 k tp el=>
  aj (HW h1) λrp es=>aj (DL (l:=w.1) (ops:=w.2.1) (rs:=w.2.2) hw) λcp ec=>aj (gx hy) λyp er=>⟨p1,p2,p3,q1,q2,q3,k,tp,yp,cp,rp,by rw[vg hs,es,ec,vg ho,vg hr,F8 hc.1,el,er,aaj h],aaj h▸hc.2.2⟩
theorem ba{x:Str}(h:bF x=true):(x==("__debug__":Str))=false/\(x==("__classdict__":Str))=false:=
 aO (aap.mp h) λh1 h2=>⟨Bool.not_eq_true' _▸h1,Bool.not_eq_true' _▸h2⟩
theorem Dq{C ea d:Addr}{oe:Obj}{es:List DictEntry}{ne:Nat}{ex:Ex}{vs:Array Value}{x y:Str}{hb:List Stmt}{dv:V}{b:Bool}(ho:vP g f)(hu:A.units+64<cLine)(ok:qM g.w C)(hk:(ea,oe)∈K.kept)(h1:oe.cls= .ref C)(h2:oe.dict=some d)(h3:oe.data= .fields vs)
  (h4:K.D0 d=some (dictOf es ne)) (h5:bN g.w.params K.D0 K.s0 (Fs ex) es) (hp:ex.kind.pl=true/\ex.at_.pl=true/\ex.ki.pl=true) (ht:tells x hb=some y) (px:bF x=true) (py:bF y=true) (Ub:m x=some (.f6 (.ref ea))) (Uc:m y=some dv)
  (hv:tv st (.tup [ex.kind,ex.at_,ex.ki]) dv=some b):WS g K f A hb m st (λfl m' st'=>fl= .ret (.bool b)/\st'=st/\m'=m) E:=by
 obtain⟨p1,p2,p3,q1,q2,q3,k,tp,yp,cp,rp,rfl,aa⟩:=td ht
 refine aO (ba px) λZY ZZ=> ?_
 refine aO (ba py) λpy1 py2=> ?_
 have nd:((Fs ex).map (·.1)).Nodup:=by show([aab "kind",aab "at",aab "detail"]:List Str).Nodup;decide+kernel
 have m0:aab "kind"∈eL:=aak
 have m1:aab "at"∈eL:=aai _ aak
 have m2:aab "detail"∈eL:=aai _ (aai _ aak)
 refine vY (nO (kF (qQ (eW (dC (fO ho Ub ?_ ZY ZZ))))))
 refine uf ok hk h1 h2 h3 h4 h5 nd (j:=0) rfl m0 hp.1 ?_
 refine eW (dC (fO ho Ub ?_ ZY ZZ))
 refine uf ok hk h1 h2 h3 h4 h5 nd (j:=1) rfl m1 hp.2.1 ?_
 refine eW (dC (fO ho Ub ?_ ZY ZZ))
 refine uf ok hk h1 h2 h3 h4 h5 nd (j:=2) rfl m2 hp.2.2 ?_
 refine oP ⟨by rw[sizeLine_eq];show 3<=_;exact QS,?_⟩
 exact fO ho Uc (HZ hu hv ⟨rfl,rfl,rfl⟩) py1 py2
structure NZ(T:Tb)(F:aV)(c x y:Str)(ex:Ex):Prop where
 h1:T.gl c=some (.ref ex.C)
 h2:F.sc.lookup c=some .globalImplicit
 h3:F.sc.lookup x=some .local
 h4:T.exc ex.C=true
 h5:bF c=true
 h6:bF x=true
 h7:bF y=true
 h8:ex.kind.pl=true
 h9:ex.at_.pl=true
 h10:ex.ki.pl=true
theorem zz{c x y:Str}{ex:Ex}(h:DA T F c x y ex=true):NZ T F c x y ex:=
 have a9:=aap.mp h
 have a8:=aap.mp a9.1
 have a7:=aap.mp a8.1
 have a6:=aap.mp a7.1
 have a5:=aap.mp a6.1
 have a4:=aap.mp a5.1
 have a3:=aap.mp a4.1
 have a2:=aap.mp a3.1
 have a1:=aap.mp a2.1
 ⟨of_decide_eq_true a1.1,eq_of_beq a1.2,eq_of_beq a2.2,a3.2,a4.2,a5.2,a6.2,a7.2,a8.2,a9.2⟩
theorem HT{h:ExceptHandler}{c x y:Str}(hh:zC h=some (c,x,y)): ∃cp hb hp,h= .ExceptHandler (some (.Name c cp)) (some x) hb hp/\tells x hb=some y:=by
 obtain⟨t,nm,hb,hp⟩:=h
 exact aB hh aN λt' ht hh=>aB hh aN λc' hc hh=>aB hh aN λx' hx hh=>aB hh aN λy' hy hh=>by
  cases hh
  exact aj (gx hc) λcp e=>⟨cp,hb,hp,by rw[show t=some t' from ht,show nm=some x from hx,e],hy⟩
theorem Cx.base(C:Cx g K f A F T cl):Cx g (K.base D σ) f A F T cl:=⟨C.ok,C.sc,C.cells,C.inj,C.af,C.hf,C.room,C.tb,C.cl⟩
theorem EY{ea tb:Addr}{oe ot:Obj}(R:Rel g ((K.hide tb ot).hide ea oe) f D σ m st s):D ea=none/\ea∉σ/\D tb=none/\tb∉σ/\s.heap.get? ea=some oe/\s.heap.get? tb=some ot:=
 ⟨R.dT.1,R.dT.2,R.r.kd tb (Kx.aJ.mpr (.inl (Kx.aJ.mpr (.inr rfl)))),λh=>(R.r.sd tb h).2 (Kx.aJ.mpr (.inl (Kx.aJ.mpr (.inr rfl)))),R.gm,R.pF⟩
theorem KW(F:vP g f){x:Str}{pos:Pos}{v:Value}{Q':Value->Shared->Prop}(hx:mY g x v)(hk:f.env.kindOf x=some .globalImplicit)(hd:(x==("__debug__":Str))=false)(R:Rel g K f D σ m st s)
  (k: ∀D' σ' s',Le D σ D' σ'->Rel g K f D' σ' m st s'->Q' v s'):wpAny (model cS g.w) A (eval (.Name x pos) f.env) Q' E s:=
 qR (Q:=λa st'=>a= .f6 v/\st'=st) F hx ⟨rfl,rfl⟩ hk hd D σ s Q' R λa st' D' σ' b s' L R' r q=>(q.1▸r:VR g.w.params D' σ' (.f6 v) b)▸k D' σ' s' L (q.2▸R')
theorem G4(F:vP g f){x:Str}{v:V}{u:Value}{Q':Unit->Shared->Prop}(hk:f.env.kindOf x=some .local)(R:Rel g K f D σ m st s)(hv:VR g.w.params D σ v u)
  (k: ∀D' σ' s',Le D σ D' σ'->Rel g K f D' σ' (bV m x v) st s'->Q' () s'):wpAny (model cS g.w) A (storeName f.env x u) Q' E s:=
 z9 (Q:=λm' st'=>m'=bV m x v/\st'=st) F hk ⟨rfl,rfl⟩ D σ s Q' u R hv λm' st' D' σ' s' L R' q=>k D' σ' s' L (q.1▸q.2▸R')
theorem Ew.at{cm:Addr->Prop}{fl:Value->Prop}{x:Ex}{ea:Addr}(X:Ew g cm fl D σ x (.ref ea) s): ∃tb,Ig g cm fl D σ x ea tb s:=
 cc X λea' tb e F=>by
  cases e
  exact⟨tb,F⟩
theorem zA{ea C:Addr}{oe:Obj}{nm qn:Str}{N:Addr}{bs bm:List Value}{hdct:Bool}{sn:List Str}{sub:List Value}{ab:Bool}{col:Option Bool}{dd:Option Addr}{k0 k1 k2 k3 k5:Option Value}{newId:String}{Q2:Bool->Shared->Prop}
  (hC:s.heap.get? C=some (excClassObj nm qn C N bs bm hdct sn sub ab col dd k0 k1 k2 k3 k5 newId)) (b5:s.heap.get? ea=some oe) (e2:oe.cls= .ref C) (rQ:bm.contains (.type "BaseException")=true) (hQ:Q2 true s):
  wpAny (model cS g.w) (A.mark (some (.ref ea))) (excMatches (.ref ea) (.ref C)) Q2 E s:=by
 obtain⟨hh,gg,ddd,tt,ZR⟩:=s
 exact wpAny_excMatches_sub_self hC b5 e2 rQ hQ
set_option backward.match.sparseCases true in
theorem NX(X: ∀k,k<=n->oJ T cl k)(C:Cx g K f A F T cl)(ht:F.top=true){b:List Stmt}{h:ExceptHandler}{c x y:Str}{pos:Pos}(hh:zC h=some (c,x,y)):hZ g K f A F T cl n m st (.Try b [h] [] [] pos) (.try c x y b):=by
 intro r hr aa
 refine gF (HT hh) λcp hb hp eh Ny=> ?_
 subst eh
 have hr:r=match m c with
  | some _=>none
  | none=>tn T F c x y (aT T cl n F m st b):=hr
 cases hmc:m c with
 | some _=>rw[hmc] at hr;exact absurd hr aa
 | none=>
 rw[hmc] at hr
 have hr:r=tn T F c x y (aT T cl n F m st b):=hr
 generalize h1:aT T cl n F m st b=r1 at hr
 have uH:r1≠none:=λq=>aa (hr.trans (congrArg (tn T F c x y) q))
 intro D0 σ0 s0 Q' R0 kk
 refine wpAny_Try_except ?_
 have C2:Cx g (K.base D0 σ0) f A F T cl:=C.base
 refine wpAny_mono ((X n (aaw _)).Nc C2 ht r1 h1.symm uH D0 σ0 s0 (λfl s1=>match fl with | .next=>wpAny (model cS g.w) A (execs [] f.env) Q' (tI g K f r) s1 | fl=>Q' fl s1) R0.Ip λfl m1 st1 D1 σ1 Eb s1 L1 R1 rr q=> ?_) (λ_ _ x=>x) (λe s1 x1=> ?_)
 ·have k1:Q' Eb s1:=kk fl m1 st1 D1 σ1 Eb s1 L1 (Rel.vJ L1 R0.r R1) rr (hr.trans (congrArg (tn T F c x y) q))
  cases Eb with
  | next=>exact wpAny_execs_nil k1
  | _=>exact k1
 ·refine gF x1 λex m1 st1 q X=>cc X λD1 σ1 R1 X1=> ?_
  refine aR (hr.trans (congrArg (tn T F c x y) q)).symm aa λmi hr=>aB hr aa λdv Uc hr=>aB hr aa λbb Uv hr=> ?_
  have hr:=hr.symm
  have tk:=zz mi
  have EO:=C.tb.exc _ tk.h4
  have pE:=(C.hf ht).1
  have uG:=(C.hf ht).2
  refine qa R1 pE C2.af uG X1 λs2 R2 X2=>gk (fr:=none) R2 X2 λs3 R3 X3=>cc X3 λea tb ee F3=> ?_
  subst ee
  refine jK λG kG=> ?_
  obtain⟨oe,d,es,ne,vs,e1,e2,e3,e4,e5,e6,e7⟩:=F3.e
  obtain⟨ot,ts,v0,u1,u2,u3,u4⟩:=F3.t
  obtain⟨nm,qn,N,bs,bm,hdct,sn,sub,ab,col,dd,k0,k1,k2,k3,k5,newId,hC,rQ⟩:=EO.obj
  obtain⟨p1,p2,p3,q1,q2,q3,kq,tp,yp,cp',rp,hhb,hyx⟩:=td Ny
  have TJ:ea∉(K.base D0 σ0).cm:=λq=>F3.fe.2.2 (.inl q)
  have hKt:tb∉(K.base D0 σ0).cm:=λq=>F3.ft.2.2 (.inl q)
  have Sb:ea∉f.fa:=λq=>F3.fe.2.2 (.inr q)
  have hFt:tb∉f.fa:=λq=>F3.ft.2.2 (.inr q)
  have OO:ea∉((K.base D0 σ0).hide tb ot).cm:=λq=>(Kx.aJ.mp q).elim TJ (λq=>F3.ne q.symm)
  have R3h:=(R3.ff hKt hFt F3.ft.1 F3.ft.2.1 u1).ff OO Sb F3.fe.1 F3.fe.2.1 e1
  refine kG (wpAny_handleBy_cons (codeAny_handlers_test ?_) (by intro q;cases q))
  refine KW (pos:=cp) C.ok (C.tb.gl _ _ tk.h1) ((C.k c).trans tk.h2) (ba tk.h5).1 R3h λD4 σ4 s4 L4 R4=> ?_
  refine Tn (EY R4) λb1 b2 b3 b4 b5 b6=> ?_
  refine zA (R4.pI _ _ hC) b5 e2 rQ ?_
  show codeAny _ _ _ _ _
  rw[hhb]
  refine codeAny_handlers_suite_as ?_
  rw[<-hhb]
  have NU:=(R4.bU ⟨OO,Sb,iq e4⟩).bU ⟨hKt,hFt,iq u2⟩
  have X4:tV g (K.base D0 σ0) f D4 σ4 ex (.ref ea) s4:=⟨ea,tb,rfl,⟨oe,d,es,ne,vs,b5,e2,e3,e4,e5,L4.d _ _ e6,e7.mono L4⟩,⟨ot,ts,v0,b6,u2,u3,.inl u4⟩,F3.ne,⟨b1,b2,F3.fe.2.2⟩,⟨b3,b4,F3.ft.2.2⟩⟩
  refine gk (fr:=none) NU X4 λs5 R5 X5=>jK λG kG=>aj X5.at λtb' F5=> ?_
  obtain⟨oe5,d5,es5,ne5,vs5,z1,z2,z3,z4,z5,z6,z7⟩:=F5.e
  have R5g:=R5.ff TJ Sb F5.fe.1 F5.fe.2.1 z1
  refine kG (G4 (v:= .f6 (.ref ea)) C.ok ((C.k x).trans tk.h3) R5g.Ip rfl λD6 σ6 s6 L6 R6=> ?_)
  have hx6:bV m1 x (.f6 (.ref ea)) x=some (.f6 (.ref ea)):=if_pos rfl
  have hy6:bV m1 x (.f6 (.ref ea)) y=some dv:=(if_neg hyx).trans Uc
  refine Dq (A:=A.mark (some (.ref ea))) (ea:=ea) (oe:=oe5) (d:=d5) (es:=es5) (ne:=ne5) (ex:=ex) (vs:=vs5) C.ok (bI.M4 C.room:A.units+64<cLine) EO aak z2 z3 z4 z6 z7 ⟨tk.h8,tk.h9,tk.h10⟩ Ny tk.h6 tk.h7 hx6 hy6 Uv D6 σ6 s6 _ R6 λfl m7 SM D7 σ7 Eb s7 L7 R7 r7 q7=> ?_
  have R7:=q7.2.2▸q7.2.1▸R7
  refine ao R7.fr λmm7 Ua _=>wpAny_nameGoes (m:=mm7) ((C.k x).trans tk.h3) (by rw[C.ok.loc];exact Ua) (by rw[C.ok.kind];rfl) λh' m' hn uL=> ?_
  have R8:=R7.forget (t:=s7.toks+1) (C.ok.loc▸hn) (C.ok.loc▸uL)
  have L8:Le D4 σ4 D7 σ7:=L6.trans L7
  have R9:=(Rel.vJ L8 R5g.r R8).bU ⟨TJ,Sb,iq z4⟩
  have L9:Le D0 σ0 D7 σ7:=(R1.r.Ss.trans L4).trans L8
  exact kk (.ret (.bool bb)) (λ_=>none) _ D7 σ7 Eb _ L9 (Rel.vJ L9 R0.r R9) (q7.1▸r7) hr
end
end Mine
namespace Mine
section
variable{g:Gl}{K:Kx}{f:Fx}{A:Around}{F:aV}{T:Tb}{cl:Addr->List V->List AO->RE V}{m:M}{st:List AO}{n:Nat}{mu:Bool}{E:Value->Shared->Prop}{D:Dt}{σ:List Addr}{s s':Shared}
theorem yy{e:Expr}(h:cC e=true):(∃elt gens sc p,e= .ListComp elt gens sc p)\/view e= .no:=by
 cases e with
 | ListComp elt gens sc p=>exact .inl ⟨elt,gens,sc,p,rfl⟩
 | SetComp _ _ _ _=>exact .inr rfl
 | DictComp _ _ _ _ _=>exact .inr rfl
 | _=>exact ft h
theorem H6(X: ∀k,k<=n->oJ T cl k)(C:Cx g K f A F T cl)(ht:F.top=true){s:Stmt}: ∀r,r=dS T cl (n+1) F m st s->r≠none->qT g K f A (exec s f.env) m st (Nh r) (tI g K f r):=by
 intro r hr aa
 have Sn:=qu (T:=T) (cl:=cl) n
 have Xn:=X n (aaw _)
 have H:=DT s
 have hr:r=Nd T (dY T cl n) (mW T cl n) F m st (iH s):=hr
 generalize iH s=w at H hr
 cases w with
 | expr e=>exact aj H.2 λp e=>e▸JN Sn C H.1 r hr aa
 | ret e=>exact aj H λp e=>e▸zY Sn C r hr aa
 | ite t b o=>exact aj H λp e=>e▸SY Sn Xn C ht r hr aa
 | Ea x e=>
  refine eJ H λxp p es=>es▸ ?_
  cases q:cC e with
  | false=>exact yi Sn C q r hr aa
  | true=>
   have no (h:view e= .no):qT g K f A (exec (.Assign [.Name x xp] e p) f.env) m st (Nh r) (tI g K f r):=by
    cases n with
    | zero=>exact absurd hr aa
    | succ n=>exact absurd (hr.trans (congrArg (λw=>(Fq T cl (dY T cl n) F m (F.ky.contains x) st w).b7 m λv st=>Cu (putN F m x v) st) h)) aa
   exact(yy q).elim (λh=>Tp h λelt gens sc p' e1=>(xW (elt:=elt) (gens:=gens) (sc:=sc)).elim (λh=>no (e1▸h)) λh=>yC h λy tp iter ifs e2 hv=>by
    subst e2 e1
    exact yg (λk _=>qu k) C hv r hr aa) no
 | Kc o name e=>exact eJ H.2 λap p e=>e▸yf Sn C H.1 r hr aa
 | Ke o i e=>exact eJ H.2 λip p e=>e▸yh Sn C H.1 r hr aa
 | Kf ts e=>exact To H.2 λk tp p e=>e▸yj Sn C H.1 r hr aa
 | «for» t e b=>exact aj H λp e=>e▸NW Sn X C ht r hr aa
 | «while» t b=>exact aj H λp e=>e▸Ez (λk _=>qu k) X C ht r hr aa
 | «try» c x y b=>exact cc H λh p e hh=>e▸NX X C ht hh r hr aa
 | no=>exact absurd hr aa
theorem lD: ∀n k,k<=n->oJ T cl k
 | 0,k,h=>by
  have :k=0:=by exact QP h
  subst this
  exact⟨λC ht r hr aa=>absurd hr aa,λC ht r hr aa=>absurd hr aa⟩
 | n+1,k,h=>by
  by_cases e:k<=n
  ·exact lD n k e
  ·have :k=n+1:=by exact QQ h e
   subst this
   exact⟨λC ht=>H6 (lD n) C ht,λC ht=>Dc (lD n n (aaw _)) C ht⟩
theorem Ax{prim:Addr->Option (List V->List AO->RE V)}(hT:Il g T)(hF: ∀a fi,T.fn a=some fi->prim a=none->kR g a fi)(hP:tY g prim)(k:Nat):mX g (3* k) (gU T prim k):=
 wh hT hF hP (λ_=>lD _ _ (aaw _)) k
end
end Mine
section
open Builtin Builtin.ObjectAttr
namespace Mine
noncomputable def tyN:Value->Option String
 | .type a=>some a
 | _=>none
theorem M3{v:Value}{a:String}(h:tyN v=some a):v= .type a:=by
 cases v with
 | type b=>exact congrArg Value.type (aaj h)
 | _=>exact aY h
theorem H4{v:Value}{a:Addr}(h:DU v=some a):v= .ref a:=by
 cases v with
 | ref b=>exact congrArg abp (aaj h)
 | _=>exact aY h
theorem DI: ∀{l:List Value} {ss:List String},l.map tyN=ss.map some->l=ss.map .type
 | [],[],_=>rfl
 | [],_::_,h=>UQ h
 | _::_,[],h=>con h
 | _::_,_::_,h=>congr (congrArg List.cons (M3 (aaJ h).1)) (DI (aaJ h).2)
noncomputable def lZ:List Value->Bool
 | []=>false
 | v::r=>opt (DU v) (λ_=>lZ r) (decide ((v::r).map tyN=["Exception","BaseException","object"].map some))
theorem l4{P:List Value->Prop}(h0:P [.type "Exception",.type "BaseException",.type "object"])(h1: ∀c r,P r->P (.ref c::r)): ∀{l:List Value},lZ l=true->P l
 | [],h=>ft h
 | _::r,h=>br h (λc hc h=>H4 hc▸h1 c r (l4 h0 h1 h)) λ_ h=>DI (of_decide_eq_true h)▸h0
theorem sR(self:Value):refuseLoop self "__setattr__" [.type "Exception",.type "BaseException",.type "object"]=pure ():=by kernel_rfl
theorem vx(self:Value){l:List Value}(h:lZ l=true):refuseLoop self "__setattr__" l=pure ():=
 l4 (P:=λl=>refuseLoop self "__setattr__" l=pure ()) (sR self) (λc r h=>by rw[refuseLoop_ref];exact h) h
theorem Fu{l:List Value}(h:lZ l=true):l.contains (.type "object")=true:=
 l4 (P:=λl=>l.contains (.type "object")=true) rfl (λc r h=>by rw[aa9,h,Bool.or_true]) h
noncomputable def jG(K:Frag)(C:Addr):Bool:=(clsIn K C).any λcd=>lZ cd.mro
section
variable{prog:Program}{w:World}{A:Around}{E:Value->Shared->Prop}{s:Shared}{K:Frag}{x C d:Addr}{name:Str}{v:Value}
theorem rI{R:Result->Shared->Prop}{ox:Obj}{od:Option Obj}{tk:Tok}(X:K.In s.heap)(I:acQ s.heap x ox C od)(hp:jG K C=true)(ht:findIn K (.ref C) name=some none)
  (h:wpAny (model prog w) A.in1 (storeInOwnDict (.ref x) (.ref C) (.str name tk) name v false)
   (λfin s'=>match fin with | .done f=>R (.ok f) s' | .again c'=>c'.quiet=true/\codeAny (model prog w) A c' R s') (λe s'=>R (.error e) s') s):
  codeAny (model prog w) A (.call (.builtin "object.__setattr__") ⟨[.ref x,.str name tk,v],[]⟩) R s:=by
 have SF:=PySem.F.store_object
 refine ao (any_some hp) λcd hc ho=> ?_
 have ne:cd.mro.isEmpty=false:=by cases q:cd.mro with | nil=>rw[q] at ho;cases ho | cons _ _=>rfl
 have sub:Looks (model prog w) s.heap (isInstance (.ref x) (.type "object")) true:=I.type.andThen (looks_mroIn X (by unfold mroIn;rw[hc,ac0,if_neg (by rw[ne];decide),Fu ho]))
 refine codeAny_call_builtin SF.slot.plain SF.entry (@check_slot (model prog w) _ _ s "object.__setattr__" "object" "__setattr__" (.ref x) [.str name tk,v] [] _ SF.kind SF.split sub (SF.args (.ref x) (.str name tk) v) ?_)
 have hm:Looks (model prog w) s.heap (mroOf (.ref C)) cd.mro:=(looks_clsIn X hc).andThen .now
 have L3:Looks (model prog w) s.heap (storeTaker? none) none:= .now
 rw[osa_eq,refuse_eq]
 refine wpAny_bind (wpAny_bind (I.type.here (wpAny_bind (hm.here ?_))))
 rw[vx _ ho]
 refine wpAny_pure (wpAny_bind (I.type.here (wpAny_bind ((looks_findIn X ht).here (wpAny_bind (L3.here ?_))))))
 exact h
theorem sW{ox:Obj}{es:List DictEntry}{n:Nat}{Q:Unit->Shared->Prop}(X:K.In s.heap)(hx:s.heap.get? x=some ox)(iY:ox.cls= .ref C)(K3:ox.dict=some d)(i0:notCls ox=true)(hd:s.heap.get? d=some (dictOf es n))
  (hs:findIn K (.ref C) "__setattr__"=some (some (.builtin "object.__setattr__"))) (hp:jG K C=true) (ht:findIn K (.ref C) name=some none) (hh:hasDictIn K C=true) (hr:es.any (·.refKey)=false) (hz:es.length<=1000)
  (h:Q () {s with heap:=s.heap.update d (abY name (aaY w.params name) (.str name (s.toks+1)) v),toks:=s.toks+2}):
  wpAny (model prog w) A (setAttr (.ref x) name v) Q E s:=by
 have I:acQ s.heap x ox C (some (dictOf es n)):=⟨hx,iY,i0,by rw[K3];exact hd⟩
 refine set_plain X I hs (rI (s:={s with toks:=s.toks+1}) X I hp ht ?_)
 refine ao (any_some hh) λcd hc yP=> ?_
 obtain⟨oc,odi,oda,zg⟩:=ox
 dsimp only at iY K3
 subst iY K3
 refine wpAny_bind (wpAny_pure (wpAny_bind (wpAny_bind (wpAny_loadPart hx (wpAny_bind (Looks.here (s:={s with toks:=s.toks+1}) (looks_clsIn X hc) ?_))))))
 rw[yP]
 exact wpAny_pure (a:=some d) (jw (s:={s with toks:=s.toks+1}) hd hr hz h)
theorem qq{vs:Array Value}{Q:Unit->Shared->Prop}(X:K.In s.heap)(hx:s.heap.get? x=some ⟨.ref C,none,.fields vs,#[]⟩)
  (hs:findIn K (.ref C) "__setattr__"=some (some (.builtin "object.__setattr__"))) (hp:jG K C=true) (ht:findIn K (.ref C) name=some none) (hh:hasDictIn K C=true)
  (h: ∀(h':Heap) (d:Addr) (n:Nat),(∀b o,b≠x->s.heap.get? b=some o->h'.get? b=some o)->s.heap.get? d=none->h'.get? x=some ⟨.ref C,some d,.fields vs,#[]⟩->
   h'.get? d=some (dictOf (putL name (aaY w.params name) (.str name (s.toks+1)) v []) n)->Q () {s with heap:=h',toks:=s.toks+2}):
  wpAny (model prog w) A (setAttr (.ref x) name v) Q E s:=by
 have I:acQ s.heap x ⟨.ref C,none,.fields vs,#[]⟩ C none:=⟨hx,rfl,rfl,trivial⟩
 refine set_plain X I hs (rI (s:={s with toks:=s.toks+1}) X I hp ht ?_)
 refine ao (any_some hh) λcd hc yP=> ?_
 refine wpAny_bind (wpAny_pure (wpAny_bind (wpAny_bind (wpAny_loadPart hx (wpAny_bind (Looks.here (s:={s with toks:=s.toks+1}) (looks_clsIn X hc) ?_))))))
 rw[yP]
 rw[if_neg (by decide)]
 dsimp only
 rw[if_neg (show¬(!true || !typeHasDict (abp C))=true from by simp[typeHasDict])]
 have dc:=abX hx
 have aa:x≠s.heap.objs.size:=Nat.ne_of_lt dc
 have wZ:(s.heap.push emptyDict).get? x=some ⟨.ref C,none,.fields vs,#[]⟩:=aaE _ hx
 refine wpAny_bind (wpAny_alloc ?_)
 refine wpAny_bind (wpAny_update wZ ?_)
 have Lh:((s.heap.push emptyDict).update x λo=>{o with dict:=some s.heap.objs.size}).get? x=some ⟨.ref C,some s.heap.objs.size,.fields vs,#[]⟩:=aa1 _ wZ rfl
 have hd2:((s.heap.push emptyDict).update x λo=>{o with dict:=some s.heap.objs.size}).get? s.heap.objs.size=some (dictOf [] 0):=(aa3 _ _ aa).trans (aaO _ rfl)
 have keep: ∀b o,b≠x->s.heap.get? b=some o->((s.heap.push emptyDict).update x λo=>{o with dict:=some s.heap.objs.size}).get? b=some o:=λb o hb kI=>(aa3 _ _ (Ne.symm hb)).trans (aaE _ kI)
 refine wpAny_bind (wpAny_pure (wpAny_pure ?_))
 show wpAny _ _ (storeInDict s.heap.objs.size (.str name s.toks) name v) _ _ _
 have hpu:s.heap.push emptyDict=s.heap.push {cls:= .type "dict",data:= .dict #[]}:=rfl
 rw[hpu] at Lh hd2 keep
 generalize hH2:((s.heap.push {cls:= .type "dict",data:= .dict #[]}).update x λo=>{o with dict:=some s.heap.objs.size})=H2 at Lh hd2 keep ⊢
 have Uz:=(aa3 H2 (abY name (aaY w.params name) (.str name (s.toks+1)) v) (Ne.symm aa)).trans Lh
 have Sk:=aa1 (abY name (aaY w.params name) (.str name (s.toks+1)) v) hd2 (by rw[putName_dict];rfl)
 rw[putName_dict] at Sk
 exact jw hd2 rfl (aaC _) (h _ s.heap.objs.size _ (λb o hb kI=>(aa3 _ _ (Nat.ne_of_gt (abX kI))).trans (keep b o hb kI)) au Uz Sk)
end
end Mine
end
namespace Mine
section
variable{M:Model}{A:Around}{E:Value->Shared->Prop}{h:Heap}{g:Array GenState}{d:Drawn}{t:Nat}{os:OsState}
variable{nm q:Str}{C N:Addr}{bs bm Oa:List Value}{hdct:Bool}{sn:List Str}{sub:List Value}{ab:Bool}{col:Option Bool}{dd:Option Addr}{k0 k1 k2 k3 k5:Option Value}{B newId mn:String}
structure Tail(B:String)(bm:List Value):Prop where
 b:bm.contains (.type B)=true
 e:bm.contains (.type "BaseException")=true
 a:bm.contains (.type "AttributeError")=false
 n:bm.contains (.type "NameError")=false
theorem zc(F:ExcBaseFacts B newId mn Oa)(T:Tail B bm){rest:List Value}{Q:Unit->Shared->Prop}(hC:h.get? C=some (excClassObj nm q C N bs bm hdct sn sub ab col dd k0 k1 k2 k3 k5 newId))
  (hq:Q () ⟨h,g,d,t,os⟩):wpAny M A (checkBuiltinCall newId ⟨.ref C::rest,[]⟩) Q E ⟨h,g,d,t,os⟩:=by
 have OT:(abp C::bm).contains (.type B)=true:=by rw[aa9,T.b,Bool.or_true]
 have aa6:=F.noStar
 simp only[checkBuiltinCall,F.newKind,F.newSplit,F.newRow]
 repeat (first | refine wpAny_loadPart_at hC ?_ | (refine wpAny_isSubtype_exc hC ?_;rw[OT]) | refine wpAny_staticBase_exc hC ?_ | refine wpAny_madeBy_exc hC ?_ | simp only[bne_self_eq_false,abU,if_false] | wp_step)
 exact hq
end
section
variable{prog:Program}{w:World}{A:Around}{R:Result->Shared->Prop}{E:Value->Shared->Prop}{h:Heap}{g:Array GenState}{d:Drawn}{t:Nat}{os:OsState}
variable{nm q:Str}{C N:Addr}{bs bm Oa:List Value}{hdct:Bool}{sn:List Str}{sub:List Value}{ab:Bool}{col:Option Bool}{dd:Option Addr}{k0 k1 k2 k3 k5:Option Value}{B newId mn:String}
theorem Cn(F:ExcBaseFacts B newId mn Oa)(T:Tail B bm){rest:List Value}(hC:h.get? C=some (excClassObj nm q C N bs bm hdct sn sub ab col dd k0 k1 k2 k3 k5 newId))
  (hq:R (.ok (.ret (.ref (h.objs.size+1)))) ⟨(h.push {cls:= .type "tuple",data:= .seq rest.toArray}).push
   {cls:= .ref C,data:= .fields #[.ref h.objs.size,.none,.none,.none,.bool false,.none]},g,d,t,os⟩) (wY:rest.length<=sizeLine):
  codeAny (model prog w) A (.builtin newId ⟨.ref C::rest,[]⟩) R ⟨h,g,d,t,os⟩:=by
 have aaR:=F.ends
 have TQ:(abp C::bm).contains (.type B)=true:=by rw[aa9,T.b,Bool.or_true]
 have hcA:(abp C::bm).contains (.type "AttributeError")=false:=by rw[aa9,T.a];rfl
 have hcN:(abp C::bm).contains (.type "NameError")=false:=by rw[aa9,T.n];rfl
 refine codeAny_builtinAt F.entry ?_
 unfold Builtin.«BaseException.__new__»
 refine PySem.wpAt_bind ?_
 show PySem.wpAt _ _ _ (stack>>=_) _ _ _
 refine PySem.wpAt_bind (PySem.wpAt_stack λp below=>PySem.wpAt_of_wpAny ?_)
 wp_walk
 refine PySem.wpAt_of_wpAny ?_
 rw[F.owner]
 repeat (first | with_reducible refine wpAny_madeHere_exc F.canon hC ?_ | with_reducible refine wpAny_loadPart_at hC ?_ | (with_reducible refine wpAny_isSubtype_exc hC ?_;first | rw[TQ] | rw[hcA] | rw[hcN]) | wp_step)
 show R _ _
 rw[Heap.size_push]
 exact hq
theorem yH(F:ExcBaseFacts B newId mn Oa)(T:Tail B bm){rest:List Value}{fI:Addr}{oI:Obj}{Q:Fin->Shared->Prop}
  (hC:h.get? C=some (excClassObj nm q C N bs bm hdct sn sub ab col dd k0 k1 k2 k3 k5 newId)) (hi:Looks (model prog w) h (typeLookup (.ref C) "__init__") (some (.ref fI)))
  (TU:h.get? fI=some oI) (TX:oI.cls= .type "function")
  (hq: ∀h' e,Heap.MadeExcOf h h' e (.ref C) rest->
   wpAny (model prog w) A (call (.ref fI) (.ref e::rest)) (λr s'=>r= .none/\Q (.done (.ret (.ref e))) s') E ⟨h',g,d,t,os⟩) (wY:rest.length<=sizeLine):
  wpAny (model prog w) A (Builtin.«type.__call__» ⟨.ref C::rest,[]⟩) Q E ⟨h,g,d,t,os⟩:=by
 repeat (first | with_reducible refine wpAny_loadPart_at hC ?_ | with_reducible refine wpAny_madeBy_exc hC ?_ | wp_step)
 refine codeAny_call_builtin_code (Code.quiet_builtin _ F.quiet) (zc F T hC ?_)
 refine Cn F T hC ?_ wY
 show wpAny _ _ _ _ _ _
 have kp: ∀b o,h.get? b=some o->((h.push {cls:= .type "tuple",data:= .seq rest.toArray}).push {cls:= .ref C,data:= .fields #[.ref h.objs.size,.none,.none,.none,.bool false,.none]}).get? b=some o:=
  λb o hb=>aaE _ (aaE _ hb)
 have hC₁:=kp _ _ hC
 have TV:=kp _ _ TU
 have hi₁:=hi.keeps kp
 have OZ:((h.push {cls:= .type "tuple",data:= .seq rest.toArray}).push
   {cls:= .ref C,data:= .fields #[.ref h.objs.size,.none,.none,.none,.bool false,.none]}).get? (h.objs.size+1)=some
   {cls:= .ref C,data:= .fields #[.ref h.objs.size,.none,.none,.none,.bool false,.none]}:=by heap_get
 have hcC:(abp C::bm).contains (.ref C)=true:=by simp
 unfold isInstance
 repeat (first | with_reducible refine wpAny_loadPart_at OZ ?_ | (with_reducible refine wpAny_isSubtype_exc hC₁ ?_;rw[hcC]) | wp_step)
 show wpAny _ _ (typeLookup (.ref C) _) _ _ _
 refine hi₁ _ _ _ _ (λ_ _ e=>e) ?_
 refine wpAny_holding (wpAny_bind ?_)
 unfold bindSpecial
 refine wpAny_bind (wpAny_typeOf (T:="function") ⟨_,TV,TX⟩ ?_)
 rw[if_pos (by decide)]
 refine wpAny_pure (wpAny_bind (wpAny_mono (hq _ (h.objs.size+1) ⟨kp,ab4 (acN _),h.objs.size,OZ,ab4 (aaw _),?_⟩) (λr s' hr=> ?_) λ_ _ x=>x))
 ·exact aaE _ (Heap.get?_push_at rfl rfl)
 ·refine aO hr ?_;clear hr;rintro rfl hQ
  wp_walk
  exact hQ
theorem A5(F:ExcBaseFacts B newId mn Oa)(T:Tail B bm){rest:List Value}{fI:Addr}{oI:Obj}{Q:Value->Shared->Prop}
  (hC:h.get? C=some (excClassObj nm q C N bs bm hdct sn sub ab col dd k0 k1 k2 k3 k5 newId)) (hi:Looks (model prog w) h (typeLookup (.ref C) "__init__") (some (.ref fI)))
  (TU:h.get? fI=some oI) (TX:oI.cls= .type "function")
  (hq: ∀h' e,Heap.MadeExcOf h h' e (.ref C) rest->
   wpAny (model prog w) (A.under (.builtin "type.__call__" ⟨.ref C::rest,[]⟩)) (call (.ref fI) (.ref e::rest)) (λr s'=>r= .none/\Q (.ref e) s') E ⟨h',g,d,t,os⟩) (wY:rest.length<=sizeLine):
  wpAny (model prog w) A (call (.ref C) rest) Q E ⟨h,g,d,t,os⟩:=by
 have f1:=tc_lookup
 have f2:=tc_bind (.ref C)
 have hT:(⟨h,g,d,t,os⟩:Shared).TypeIs (.ref C) "type":=⟨_,hC,rfl⟩
 refine wpAny_call (codeAny_of_tree ?_)
 show wpAny _ _ (callAny (.ref C) _) _ _ _
 repeat (any_goals (first | assumption | with_reducible refine wpAny_loadPart_at hC ?_ | wp_step))
 refine⟨rfl,?_⟩
 refine codeAny_call_builtin_at (Code.quiet_builtin _ (by decide+kernel)) entry_typeCall (wpAny_check_type_call_sub hC (yH F T hC hi TU TX (λh' e hm=> ?_) wY))
 exact hq h' e hm
theorem zl{s:Shared}{env:Env}{x:Sem Value}{Q:Flow->Shared->Prop}(rQ:bm.contains (.type "BaseException")=true)(hh:A.handled=none)
  (hx:wpAny (model prog w) A x (λv s₁=> ∃e oe t0,v= .ref e/\s₁.heap.get? C=some (excClassObj nm q C N bs bm hdct sn sub ab col dd k0 k1 k2 k3 k5 newId)/\
   s₁.heap.get? e=some oe/\oe.cls= .ref C/\oe.data= .fields #[.ref t0,.none,.none,.none,.bool false,.none]/\E (.ref e) s₁) E s):
  wpAny (model prog w) A (raiseStmt env (some x) none) Q E s:=by
 have TQ:(abp C::bm).contains (.type "BaseException")=true:=by rw[aa9,rQ,Bool.or_true]
 unfold raiseStmt
 refine wpAny_bind (wpAny_mono hx (λv s₁ h₁=> ?_) λ_ _ x=>x)
 refine Fj h₁ ?_;clear h₁;rintro e oe t0 rfl hC he iY zH hE
 obtain⟨oc,od,oda,zg⟩:=oe
 dsimp only at iY zH
 subst iY zH
 obtain⟨hp,g,d,tk,os⟩:=s₁
 repeat (first | with_reducible refine wpAny_loadPart_at he ?_ | with_reducible refine wpAny_loadPart_at hC ?_ | (with_reducible refine wpAny_isSubtype_exc hC ?_;rw[TQ]) | wp_step)
 exact wpAny_raiseNew_none hh hE
end
end Mine
namespace Mine
inductive JE(w:World)(C:Addr):Prop where
 | mk (nm q:Str) (N:Addr) (bs bm:List Value) (hdct:Bool) (sn:List Str) (sub:List Value) (ab:Bool) (col:Option Bool) (dd:Option Addr) (k0 k1 k2 k3 k5:Option Value) (h1:(Mine.KN w.params).lookup C=some (excClassObj nm q C N bs bm hdct sn sub ab col dd k0 k1 k2 k3 k5 "Exception.__new__")) (h2:Tail "Exception" bm)
structure nJ(w:World)(C fI:Addr):Prop where
 ok:qM w C
 set:findIn (Mine.KN w.params) (.ref C) "__setattr__"=some (some (.builtin "object.__setattr__"))
 over:jG (Mine.KN w.params) C=true
 fn:isFn (Mine.KN w.params) (.ref fI)=true
 init:findIn (Mine.KN w.params) (.ref C) "__init__"=some (some (.ref fI))
 cls:JE w C
section
variable{g:Gl}{K:Kx}{f:Fx}{A:Around}{F:aV}{T:Tb}{cl:Addr->List V->List AO->RE V}{m:M}{st:List AO}{n:Nat}{mu:Bool}{E:Value->Shared->Prop}{D:Dt}{σ:List Addr}{s s':Shared}
theorem aP.ff{I:Addr}{o:Obj}(R:aP g K D σ st s)(hD:D I=none)(hσ:I∉σ)(ha:s.heap.get? I=some o):aP g (K.hide I o) D σ st s:=
 ⟨R.b0,R.d0,R.s0,R.dh,R.kf,λp hp=>by
   rcases aat.mp hp with rfl | hp
   ·exact ha
   ·exact R.kp p hp,λa h=>by
   rcases Kx.aJ.mp h with h | rfl
   ·exact R.kd a h
   ·exact hD,R.so,λa h=>⟨(R.sd a h).1,λq=>by
   rcases Kx.aJ.mp q with q | rfl
   ·exact(R.sd a h).2 q
   ·exact hσ h⟩,R.sl,R.nd,R.gens,R.os⟩
def pM(b:List Stmt):Prop:= ∃p1 p2 p3 p4 p5 p6 p7 p8 p9 q1 q2 q3,b=
  [.Assign [.Attribute (.Name (aab "self") p1) (aab "kind") p2] (.Name (aab "kind") p3) q1,.Assign [.Attribute (.Name (aab "self") p4) (aab "at") p5] (.Name (aab "at") p6) q2,
   .Assign [.Attribute (.Name (aab "self") p7) (aab "detail") p8] (.Name (aab "detail") p9) q3]
theorem wu{es:List DictEntry}{n:Nat}: ∀v,(dictOf es n).data≠ .cell v:=λv q=>nomatch q
theorem nZ{C fI ea d:Addr}{oe:Obj}{es:List DictEntry}{ne:Nat}{fs:List (Str×V)}{name:Str}{u:Value}{v:V}{Q:Unit->Shared->Prop}(ok:nJ g.w C fI)(hm:name∈eL)(hn:name∉fs.map (·.1))(hz:fs.length<=900)
  (h1:oe.cls= .ref C) (h2:oe.dict=some d) (h3:notCls oe=true) (R:Rel g ((K.hide ea oe).hide d (dictOf es ne)) f D σ m st s) (hd:d∉(K.hide ea oe).cm) (TS:d∉f.fa)
  (hf:bN g.w.params D σ fs es) (hv:VR g.w.params D σ v u)
  (k: ∀RQ ne' s',Rel g ((K.hide ea oe).hide d (dictOf RQ ne')) f D σ m st s'->bN g.w.params D σ (fs++[(name,v)]) RQ->Q () s'):wpAny (model cS g.w) A (setAttr (.ref ea) name u) Q E s:=by
 refine sW R.pI R.pF h1 h2 h3 R.gm ok.set ok.over (ok.ok.a name hm) ok.ok.h hf.pZ (by rw[bN.length hf];exact LP hz) ?_
 have i8:=aa1 (h:=s.heap) (abY name (aaY g.w.params name) (.str name (s.toks+1)) u) R.gm (by rw[putName_dict];rfl)
 rw[putName_dict] at i8
 refine k _ _ _ (R.qo ⟨hd,TS,wu⟩ ⟨λb o hb kI=>(ab8 _ _ _ _ hb).trans kI,rfl,rfl⟩ i8) (bN.add hf hn hv)
theorem iy{x y name:Str}{p1 p2 p3 q1:Pos}{v w:V}{Q:Flow->Shared->Prop}(ho:vP g f)(hx:m x=some v)(hy:m y=some w)(px:bF x=true)(py:bF y=true)(R:Rel g K f D σ m st s)
  (k: ∀D' σ' s' u u',Le D σ D' σ'->Rel g K f D' σ' m st s'->VR g.w.params D' σ' v u->VR g.w.params D' σ' w u'->wpAny (model cS g.w) A (setAttr u' name u) (λ_=>Q .next) E s'):
  wpAny (model cS g.w) A (exec (.Assign [.Attribute (.Name y p1) name p2] (.Name x p3) q1) f.env) Q E s:=by
 refine plainObj_wpAny_Assign_Attribute ?_
 refine fO (g:=g) (K:=K) (m:=m) (st:=st) (Q:=λa st'=>a=v/\st'=st) ho hx ⟨rfl,rfl⟩ (ba px).1 (ba px).2 D σ s _ R λa st1 D1 σ1 u s1 L1 R1 r1 h1=> ?_
 refine aO h1 ?_;clear h1;rintro rfl rfl
 refine fO (g:=g) (K:=K) (m:=m) (st:=st1) (Q:=λa st'=>a=w/\st'=st1) ho hy ⟨rfl,rfl⟩ (ba py).1 (ba py).2 D1 σ1 s1 _ R1 λb st2 D2 σ2 u2 s2 L2 R2 r2 h2=> ?_
 refine aO h2 ?_;clear h2;rintro rfl rfl
 exact k D2 σ2 s2 u u2 (L1.trans L2) R2 (r1.mono L2) r2
theorem yY{C fI ea:Addr}{vs:Array Value}{b:List Stmt}{kv av dv:V}{Q:Flow->Shared->Prop}(ok:nJ g.w C fI)(ho:vP g f)(hb:pM b)
  (R:Rel g (K.hide ea ⟨.ref C,none,.fields vs,#[]⟩) f D σ m st s) (hea:ea∉K.cm) (FN:ea∉f.fa)
  (m0:m (aab "self")=some (.f6 (.ref ea))) (m1:m (aab "kind")=some kv) (m2:m (aab "at")=some av) (m3:m (aab "detail")=some dv)
  (k: ∀d es n D' σ' s',Le D σ D' σ'->Rel g (K.hide ea ⟨.ref C,some d,.fields vs,#[]⟩) f D' σ' m st s'->D' d=some (dictOf es n)->bN g.w.params D' σ' [(aab "kind",kv),(aab "at",av),(aab "detail",dv)] es->Q .next s'):
  wpAny (model cS g.w) A (execs b f.env) Q E s:=by
 obtain⟨p1,p2,p3,p4,p5,p6,p7,p8,p9,q1,q2,q3,rfl⟩:=hb
 have n0:bF (aab "self")=true:=by decide+kernel
 have n1:bF (aab "kind")=true:=by decide+kernel
 have n2:bF (aab "at")=true:=by decide+kernel
 have n3:bF (aab "detail")=true:=by decide+kernel
 have e1:aab "kind"∈eL:=aak
 have e2:aab "at"∈eL:=aai _ aak
 have e3:aab "detail"∈eL:=aai _ (aai _ aak)
 have d2':aab "at"∉[aab "kind"]:=by decide+kernel
 have d3':aab "detail"∉[aab "kind",aab "at"]:=by decide+kernel
 have d2:aab "at"∉([]++[(aab "kind",kv)]:List (Str×V)).map (·.1):=by
  simp only[aaP,aaq,acS];exact d2'
 have d3:aab "detail"∉([]++[(aab "kind",kv)]++[(aab "at",av)]:List (Str×V)).map (·.1):=by
  simp only[aaP,abl,aaq,acS];exact d3'
 have nc: ∀(od:Option Addr) (v:Option Value),(⟨.ref C,od,.fields vs,#[]⟩:Obj).data≠ .cell v:=λod v q=>nomatch q
 refine wpAny_execs_cons (iy ho m1 m0 n1 n0 R λD1 σ1 s1 u1 w1 L1 R1 r1 z1=> ?_)
 have z1:w1= .ref ea:=z1
 subst z1
 refine qq R1.pI R1.gm ok.set ok.over (ok.ok.a _ e1) ok.ok.h λh' d ne hk FL hx hd=> ?_
 have hb1:vM ea s1 {s1 with heap:=h',toks:=s1.toks+2}:=⟨λb o hb kI=>hk b o hb kI,rfl,rfl⟩
 have iZ:=R1.none_of FL
 have R2:=R1.qo ⟨hea,FN,nc _⟩ hb1 hx
 have OU:d∉(K.hide ea ⟨.ref C,some d,.fields vs,#[]⟩).cm:=λq=>iZ.2.1 (Kx.aJ.mpr (Kx.aJ.mp q))
 have R3:=R2.ff OU iZ.2.2.2 iZ.1 iZ.2.2.1 hd
 have f1:bN g.w.params D1 σ1 ([]++[(aab "kind",kv)]) (putL (aab "kind") (aaY g.w.params (aab "kind")) (.str (aab "kind") (s1.toks+1)) u1 []):=bN.add (fs:=[]) (es:=[]) (show bN g.w.params D1 σ1 [] [] from rfl) (by simp) r1
 refine wpAny_execs_cons (iy ho m2 m0 n2 n0 R3 λD2 σ2 s2 u2 w2 L2 R4 r2 z2=> ?_)
 have z2:w2= .ref ea:=z2
 subst z2
 refine nZ (fs:=[]++[(aab "kind",kv)]) ok e2 d2 (by show 1<=900;exact Zx) rfl rfl rfl R4 OU iZ.2.2.2 (f1.mono L2) r2 λes2 ne2 s3 R5 f2=> ?_
 refine wpAny_execs_cons (iy ho m3 m0 n3 n0 R5 λD3 σ3 s4 u3 w3 L3 R6 r3 z3=> ?_)
 have z3:w3= .ref ea:=z3
 subst z3
 refine nZ (fs:=[]++[(aab "kind",kv)]++[(aab "at",av)]) ok e3 d3 (by show 2<=900;exact Zy) rfl rfl rfl R6 OU iZ.2.2.2 (f2.mono L3) r3 λes3 ne3 s5 R7 f3=> ?_
 refine wpAny_execs_nil ?_
 have R8:=R7.bU ⟨OU,iZ.2.2.2,wu⟩
 refine aO (R8.rL (a:=d) (o:=dictOf es3 ne3) ⟨R7.dT.1,R7.dT.2,λq=>q.elim OU iZ.2.2.2⟩ R7.gm) λL4 R9=> ?_
 exact k d es3 ne3 _ _ s5 (((L1.trans L2).trans L3).trans L4) R9 (Dt.dN _ _ _) (f3.mono L4)
end
end Mine
namespace Mine
section
variable{g:Gl}{K:Kx}{f:Fx}{A:Around}{F:aV}{T:Tb}{cl:Addr->List V->List AO->RE V}{m:M}{st:List AO}{n:Nat}{mu:Bool}{E:Value->Shared->Prop}{D:Dt}{σ:List Addr}{s s':Shared}
theorem va{x:Ex}{ea d:Addr}{oe:Obj}{es:List DictEntry}{n:Nat}{vs:Array Value}{Q:Unit->Shared->Prop}(R:Rel g K f D σ m st s)(pE:f.env.frame=some f.L)(hF:AF K f A)(hf: ∃l,A.frames=some (f.env::l))
  (e1:s.heap.get? ea=some oe) (e2:oe.cls= .ref x.C) (e3:oe.dict=some d) (e4:oe.data= .fields vs) (e5:vs[1]? =some .none) (e6:D d=some (dictOf es n)) (e7:bN g.w.params D σ (Fs x) es) (fe:eV (λa=>a∈K.cm\/a∈f.fa) D σ ea)
  (k: ∀s',Rel g K f D σ m st s'->tV g K f D σ x (.ref ea) s'->Q () s'):wpAny (model cS g.w) A (noteFrame (.ref ea) f.env) Q E s:=by
 refine aj hf λl hl=> ?_;clear hf
 refine ao hF λl' q1 q2=> ?_;clear hF
 rw[hl] at q1;cases q1
 unfold noteFrame
 simp only[pE]
 refine wpAny_bind (wpAny_field e1 e4 e5 ?_)
 rw[if_neg (by decide)]
 have hX: ∀a,a=ea->eV (λa=>a∈K.cm\/a∈f.fa) D σ a:=λa h=>h▸fe
 refine wpAny_bind (wpAny_frameOf_fun hl (kn (λa h=>R.IL h) q2) pE λh1 pG=> ?_)
 have N2:=sm (X:=λb=>b=ea) pG (lr q2)
 have R2:=R.nt N2 hX λa h=>R.Nl h
 refine wpAny_bind (wpAny_entryPlaceOf λpl hH=> ?_)
 unfold EntryCells.newEntry newFields
 refine wpAny_bind (wpAny_newObj_type ?_ (hH.sizeOk5 _ _ _ _ _))
 have Ue:ea∉(f.env::l).filterMap (·.frame):=λq=>by
  rcases lr q2 _ q with h | h
  ·exact fe.2.2 (.inr (h▸aak))
  ·exact fe.2.2 (.inl (aaZ _ h.mem.1))
 have e1'':h1.get? ea=some oe:=(pG.2.1 ea Ue).trans e1
 generalize hT:({cls:= .type "traceback",dict:=none,data:= .fields ([Value.none,abp f.L,Value.none,rawInt f.L,Value.none]++(if pl.isEmpty then aaB 6 Value.none else pl)).toArray}:Obj)=T
 have TK:T.data= .fields ([Value.none,abp f.L,Value.none,rawInt f.L,Value.none]++(if pl.isEmpty then aaB 6 Value.none else pl)).toArray:=by rw[<-hT]
 have TL:T.isFreed=false:=by rw[<-hT];rfl
 have e1p:(h1.push T).get? ea=some oe:=aaE _ e1''
 refine wpAny_setField e1p e4 (aa0.mp e5).1 ?_
 have N3:=xt (s:={s with heap:=h1}) (F:=Ih K f) (X:=λb=>b=ea) (o:=T)
 have N4:=qb (s:={s with heap:=h1.push T}) (F:=Ih K f) (X:=λb=>b=ea) (ac5 (·.setIfInBounds 1 (abp h1.objs.size))) (a:=ea) rfl
 have R4:=R2.nt (N3.trans N4) hX λa h=>R2.Nl h
 have hz:h1.objs.size=s.heap.objs.size:=pG.1
 have jL:=R.none_of (a:=h1.objs.size) (by rw[hz];exact au)
 have aa:h1.objs.size≠ea:=Nat.ne_of_gt (abX e1'')
 refine bM (Lz e4 (·.setIfInBounds 1 (abp h1.objs.size))) λm1 m2 m3=> ?_
 refine k _ R4 ⟨ea,h1.objs.size,rfl,⟨_,d,es,n,_,aa1 _ e1p (Obj.isFreed_of_fields m3),m1.trans e2,m2.trans e3,m3,?_,e6,e7⟩,⟨T,_,rawInt f.L,?_,TK,by simp,.inr rfl⟩,aa,fe,⟨jL.1,jL.2.2.1,λq=>q.elim jL.2.1 jL.2.2.2⟩⟩
 ·simp[(aa0.mp e5).1]
 ·exact(aa3 _ _ (Ne.symm aa)).trans (aaO _ TL)
theorem CW{k:Nat}{a:Addr}{fi:g9}{xs:List V}{vs:List Value}{Q':Value->Shared->Prop}(hF:kR g a fi)(hl:fi.ps.length<=xs.length+fi.dx.length/\xs.length<=fi.ps.length)(hA:bI (k+1) A)(R:aP g K D σ st s)(hv:aM g.w.params D σ xs vs)
  (h: ∀f,Ey g f fi.sc->bI k (A.deeper f.env)-> ∀s₁,Keeps s s₁->aP g K D σ st s₁->Rel g K f D σ (bindM fi.ps (xs++fi.dx.drop (xs.length+fi.dx.length- fi.ps.length))) st s₁->
   wpAny (model cS g.w) (A.deeper f.env) (execs fi.body f.env) (λfl s'=>Q' (Ou fl) s') (Mh g A f.env E) s₁):
  codeAny (model cS g.w) A (.call (.ref a) ⟨vs,[]⟩) (nI Q' E) s:=by
 refine jK λG kG=> ?_
 obtain⟨name,qual,params,scope,dV,kV,doc,pm,tJ,ct,oc,an,od,zg,dv,h1,h2,h3,h4,h5,h6,h7,h8⟩:=hF.ex
 refine kG ?_
 have BD:dv.length=fi.dx.length:=aM.length (h4 (λ_=>none) [])
 refine Br fi.ps (k:=k) hA h1 h2 (dx:=fi.dx.drop (xs.length+fi.dx.length- fi.ps.length)) (dv:=dv.drop (xs.length+fi.dx.length- fi.ps.length)) ?_ (λD σ=>aM.drop (h4 D σ) _) (λs vs rU hX=> ?_) ?_ hF.LI ?_ h6 h7 h8 R hv (λf FO iw s1 kp R1 Rf=> ?_)
 ·rw[acY,BD];exact QR hl
 ·have :=h5 s vs (by rw[rU,BD];exact hl.1) (by rw[rU];exact hl.2) hX
  rw[rU,BD] at this
  exact this
 ·rw[h3];exact hF.loc
 ·rw[h3];exact hF.NH
 ·rw[h3] at FO
  exact h f FO iw s1 kp R1 Rf
theorem Gk{k C fI:Nat}{fi:g9}{kv av dv:V}{vs:List Value}{Q:Value->Shared->Prop}(ok:nJ g.w C fI)(hI:kR g fI fi)(I0:fi.ps=[aab "self",aab "kind",aab "at",aab "detail"])(hb:pM fi.body)(wU:fi.dx.length<=3)
  (hA:bI (k+2) A) (R:Rel g K f D σ m st s) (hv:aM g.w.params D σ [kv,av,dv] vs)
  (hQ: ∀ea oe d es n t0 D' σ' s',Le D σ D' σ'->Rel g K f D' σ' m st s'->s'.heap.get? ea=some oe->oe.cls= .ref C->oe.dict=some d->oe.data= .fields #[.ref t0,.none,.none,.none,.bool false,.none]->D' d=some (dictOf es n)->
   bN g.w.params D' σ' [(aab "kind",kv),(aab "at",av),(aab "detail",dv)] es->eV (λa=>a∈K.cm\/a∈f.fa) D' σ' ea->Q (.ref ea) s'):wpAny (model cS g.w) A (call (.ref C) vs) Q E s:=by
 refine jK λG kG=> ?_
 obtain⟨nm,qn,N,bs,bm,hdct,sn,sub,ab,col,dd,k0,k1,k2,k3,k5,hC,hT⟩:=ok.cls
 obtain⟨name,qual,params,scope,dV,kV,doc,pm,tJ,ct,oc,an,od,zg,dv0,h1,_⟩:=hI.ex
 have rU:=aM.length hv
 refine kG ?_
 have hoc:oc= .type "function":=by
  have h2:(((Mine.KN g.w.params).lookup fI).map (·.cls)==some (.type "function"))=true:=ok.fn
  rw[h1] at h2
  exact aaj (beq_iff_eq.mp h2)
 have bs0: ∀(v0 v1 v2 v3:V),bindM [aab "self",aab "kind",aab "at",aab "detail"] [v0,v1,v2,v3] (aab "self")=some v0:=λv0 v1 v2 v3=>by kernel_rfl
 have bs1: ∀(v0 v1 v2 v3:V),bindM [aab "self",aab "kind",aab "at",aab "detail"] [v0,v1,v2,v3] (aab "kind")=some v1:=λv0 v1 v2 v3=>by kernel_rfl
 have bs2: ∀(v0 v1 v2 v3:V),bindM [aab "self",aab "kind",aab "at",aab "detail"] [v0,v1,v2,v3] (aab "at")=some v2:=λv0 v1 v2 v3=>by kernel_rfl
 have bs3: ∀(v0 v1 v2 v3:V),bindM [aab "self",aab "kind",aab "at",aab "detail"] [v0,v1,v2,v3] (aab "detail")=some v3:=λv0 v1 v2 v3=>by kernel_rfl
 have nc: ∀(od:Option Addr) (vs:Array Value) (v:Option Value),(⟨.ref C,od,.fields vs,#[]⟩:Obj).data≠ .cell v:=λod vs v q=>nomatch q
 obtain⟨hh,gg,dr,tt,ZR⟩:=s
 have X:=R.pI
 refine A5 PySem.F.excBase_Exception hT (X _ _ hC) (looks_findIn X ok.init) (X _ _ h1) hoc (λh' e hm=> ?_) (by rw[rU,sizeLine_eq];show 3<=_;exact QS)
 have kp:Keeps ⟨hh,gg,dr,tt,ZR⟩ (⟨h',gg,dr,tt,ZR⟩:Shared):=⟨hm.keeps,rfl,rfl⟩
 refine jj (R.none_of hm.new) λf1 f2 f3 f4=> ?_
 have R3:=R.keep kp
 obtain⟨K',i1,i2,_,i3,i4,i5,i6,i7,RS,back⟩:=R3.into
 refine eI hm.there λt0 he _ _=> ?_
 have hK':e∉K'.cm:=λq=>((i6 _).mp q).elim f2 f4
 have RS2:=RS.ff f1 f3 he
 refine wpAny_call (codeAny_mono (R:=nI (λr s'=>r= .none/\Q (.ref e) s') E) ?_ λr s' x=>x)
 have nX:aM g.w.params D σ [.f6 (.ref e),kv,av,dv] (.ref e::vs):=⟨_,_,rfl,rfl,hv⟩
 have OX:fi.dx.drop (4+fi.dx.length- 4)=[]:=List.drop_eq_nil_of_le (Zz)
 refine CW (k:=k) hI (by rw[I0];show 4<=4+fi.dx.length/\4<=4;exact ZA) (hA.under _) RS2 nX λf0 FO iw s4 kp4 R4 RP=> ?_
 rw[I0] at RP
 have e0:([V.f6 (.ref e),kv,av,dv].length+fi.dx.length-[aab "self",aab "kind",aab "at",aab "detail"].length)=4+fi.dx.length- 4:=rfl
 rw[e0,OX,aav] at RP
 have FN:e∉f0.fa:=λq=>(RP.fd e q).2.1 (Kx.aJ.mpr (.inr rfl))
 refine yY ok FO.ok hb RP hK' FN (bs0 _ _ _ _) (bs1 _ _ _ _) (bs2 _ _ _ _) (bs3 _ _ _ _) λd es n D' σ' s' L R' hd hf=>⟨rfl,?_⟩
 have Rb:=(R'.bU ⟨hK',FN,nc _ _⟩).r
 exact hQ e _ d es n t0 D' σ' s' L (back D' σ' st s' L Rb) R'.gm rfl rfl rfl hd hf ⟨R'.dT.1,R'.dT.2,λq=>q.elim f2 f4⟩
end
end Mine
namespace Mine
section
variable{g:Gl}{K:Kx}{f:Fx}{A:Around}{F:aV}{T:Tb}{cl:Addr->List V->List AO->RE V}{m:M}{st:List AO}{n:Nat}{mu:Bool}{E:Value->Shared->Prop}{D:Dt}{σ:List Addr}{s s':Shared}
def BQ(b:List Stmt):Prop:= ∃p0 p1 p2 p3 p4 p5 p6,b=
  [.Raise (some (.Call (.Name (aab "SourceError") p0) [.Name (aab "kind") p1,.Attribute (.Name (aab "self") p2) (aab "at") p3,.Name (aab "detail") p4] [] p5)) none p6]
theorem yI{k C fI nn:Nat}{fi:g9}{b:List Stmt}{fs:List (Str×V)}{kv av dv:V}{Q:Flow->Shared->Prop}(ok:nJ g.w C fI)(hI:kR g fI fi)(I0:fi.ps=[aab "self",aab "kind",aab "at",aab "detail"])(yO:pM fi.body)(wU:fi.dx.length<=3)
  (hgl:mY g (aab "SourceError") (.ref C)) (hkp:keepIn (Mine.KN g.w.params) (.ref C)=true) (K2:fN g.w 494 (aab "at"))
  (ho:vP g f) (pE:f.env.frame=some f.L) (hF:AF K f A) (hf: ∃l,A.frames=some (f.env::l)) (hkg:f.env.kindOf (aab "SourceError")=some .globalImplicit) (hA:bI (k+2) A) (hb:BQ b)
  (R:Rel g K f D σ m st s) (m0:m (aab "self")=some (.inst 494 nn)) (m1:m (aab "kind")=some kv) (m3:m (aab "detail")=some dv)
  (hs:st[nn]? =some (.aF fs)) (hl:fs.lookup (aab "at")=some av) (hH:av.plain=true)
  (hE: ∀e s',XC g K ⟨C,kv,av,dv⟩ st e s'->E e s'):
  wpAny (model cS g.w) A (execs b f.env) Q (λe s'=>wpAny (model cS g.w) A (leaving f.env e) (λ_ C7=>E e C7) E s') s:=by
 refine Ts hb ?_;clear hb;rintro p0 p1 p2 p3 p4 p5 p6 rfl
 obtain⟨nm,qn,N,bs,bm,hdct,sn,sub,ab,col,dd,k0,k1,k2,k3,k5,hC,hT⟩:=ok.cls
 refine aj (iz hl) λj hj=> ?_
 have n0:bF (aab "self")=true:=by decide+kernel
 have n1:bF (aab "kind")=true:=by decide+kernel
 have n3:bF (aab "detail")=true:=by decide+kernel
 have n4:bF (aab "SourceError")=true:=by decide+kernel
 refine wpAny_execs_cons ?_
 rw[arm_exec_Raise]
 refine wpAny_bind (wpAny_standAt (zl (C:=C) (nm:=nm) (q:=qn) (N:=N) (bs:=bs) (bm:=bm) (hdct:=hdct) (sn:=sn) (sub:=sub) (ab:=ab) (col:=col) (dd:=dd) (k0:=k0) (k1:=k1) (k2:=k2) (k3:=k3) (k5:=k5) (newId:="Exception.__new__") hT.e hA.hd ?_))
 have nW:(backTo p5 (starEach [.Name (aab "kind") p1,.Attribute (.Name (aab "self") p2) (aab "at") p3,.Name (aab "detail") p4] f.env)).any (·.1)=false:=rfl
 have main: ∀Qx:Value->Shared->Prop,∀Ex:Value->Shared->Prop,(∀ea oe d es n t0 D' σ' s',Le D σ D' σ'->Rel g K f D' σ' m st s'->s'.heap.get? ea=some oe->oe.cls= .ref C->oe.dict=some d->oe.data= .fields #[.ref t0,.none,.none,.none,.bool false,.none]->D' d=some (dictOf es n)->
   bN g.w.params D' σ' [(aab "kind",kv),(aab "at",av),(aab "detail",dv)] es->eV (λa=>a∈K.cm\/a∈f.fa) D' σ' ea->Qx (.ref ea) s')->
   wpAny (model cS g.w) A (eval (.Call (.Name (aab "SourceError") p0) [.Name (aab "kind") p1,.Attribute (.Name (aab "self") p2) (aab "at") p3,.Name (aab "detail") p4] [] p5) f.env) Qx Ex s:=by
  intro Qx Ex hQ
  rw[show eval (.Call (.Name (aab "SourceError") p0) [.Name (aab "kind") p1,.Attribute (.Name (aab "self") p2) (aab "at") p3,.Name (aab "detail") p4] [] p5) f.env=(do callWith p5 (<-eval (.Name (aab "SourceError") p0) f.env) [] (backTo p5 (starEach [.Name (aab "kind") p1,.Attribute (.Name (aab "self") p2) (aab "at") p3,.Name (aab "detail") p4] f.env)) (backToKw p5 (keywordEach [] f.env))) from rfl]
  refine wpAny_bind (qR (g:=g) (st:=st) (Q:=λv st'=>v= .f6 (.ref C)/\st'=st) ho hgl ⟨rfl,rfl⟩ hkg (ba n4).1 D σ s _ R λa st1 D1 σ1 v s1 L1 R1 r1 h1=> ?_)
  refine aO h1 ?_;clear h1;rintro rfl rfl
  have r1:v= .ref C:=r1
  subst r1
  refine callWith_of (P:=λh=>(Mine.KN g.w.params).In h) (by rw[nW];rfl) (keeps_K hkp) (cB nW ?_)
  have W:qS g K f A p5 [.Name (aab "kind") p1,.Attribute (.Name (aab "self") p2) (aab "at") p3,.Name (aab "detail") p4] m st1 (λxs st'=>xs=[kv,av,dv]/\st'=st1) Ex:=
   eW (fO ho m1 (eW (dC (fO ho m0 (vX hs K2 hj (eW (fO ho m3 (oP ⟨rfl,rfl⟩) (ba n3).1 (ba n3).2)) hH) (ba n0).1 (ba n0).2))) (ba n1).1 (ba n1).2)
  refine W D1 σ1 s1 _ R1 λxs st2 D2 σ2 vs s2 L2 R2 r2 h2=>⟨R2.pI,?_⟩
  refine aO h2 ?_;clear h2;rintro rfl rfl
  exact Gk ok hI I0 yO wU hA R2 r2 λea oe d es n t0 D' σ' s' L=>hQ ea oe d es n t0 D' σ' s' ((L1.trans L2).trans L)
 refine wpAny_bind (main _ _ λea oe d es n t0 D' σ' s' L R' e1 e2 e3 e4 e5 e6 e7=>wpAny_bind (wpAny_standAt (wpAny_pure ⟨ea,oe,t0,rfl,R'.pI _ _ hC,e1,e2,e4,?_⟩)))
 unfold leaving
 refine wpAny_bind (va (x:=⟨C,kv,av,dv⟩) R' pE hF hf e1 e2 e3 e4 rfl e5 e6 e7 λs1 R1 X1=> ?_)
 exact gk (fr:=none) R1 X1 λs2 R2 X2=>hE _ _ ⟨D',σ',R2.r,X2.mono (λa h=> .inl h) λv h=>h⟩
end
end Mine
namespace Mine
section
variable{g:Gl}{K:Kx}{f:Fx}{A:Around}{st:List AO}{E:Value->Shared->Prop}{D:Dt}{σ:List Addr}{s s':Shared}
theorem M0{xs r:List V}{x y:V}(h:tw2 xs=some (x,y,r)):xs=x::y::r:=by
 cases xs with
 | nil=>exact aY h
 | cons a xs=>
  cases xs with
  | nil=>exact aY h
  | cons b xs=>cases h;rfl
theorem Dd{v:V}{n:Nat}(h:Jm v=some n):v= .inst 494 n:=by
 cases v with
 | inst C k=>exact aR h aN λe h=>e▸congrArg (V.inst C) (aaj h)
 | _=>exact aY h
theorem Fg{r:List V}{d:V}(h:Og r=some d):(r=[]/\d= .str (aab ""))\/r=[d]:=by
 cases r with
 | nil=>exact .inl ⟨rfl,(aaj h).symm⟩
 | cons a r=>
  cases r with
  | nil=>exact .inr (congrArg (λa=>[a]) (aaj h))
  | cons _ _=>exact aY h
inductive JI(xs:List V)(st:List AO):Prop where
 | mk (n:Nat) (kv:V) (r:List V) (fs:List (Str×V)) (av dv:V) (h0:xs= .inst 494 n::kv::r) (h1:st[n]? =some (.aF fs)) (h2:fs.lookup (aab "at")=some av) (h3:av.plain=true) (h4:(r=[]/\dv= .str (aab ""))\/r=[dv]) (h5:A6 xs st=some (.error ⟨52,kv,av,dv⟩,st))
theorem A7{xs:List V}(h:A6 xs st≠none):JI xs st:=
 aB rfl h λt ht hr=>aB hr h λn hn hr=>aB hr h λfs hs hr=>aB hr h λa ha hr=>aR hr h λhp hr=>aB hr h λd hd hr=>
  ⟨n,t.2.1,t.2.2,fs,a,d,(M0 ht).trans (congrArg (· ::t.2.1::t.2.2) (Dd hn)),cY hs,ha,hp,Fg hd,hr.symm⟩
structure zT(g:Gl)(fi fj:g9)(fI:Addr):Prop where
 em:nJ g.w 52 fI
 hj:kR g fI fj
 ps:fj.ps=[aab "self",aab "kind",aab "at",aab "detail"]
 b0:pM fj.body
 dx:fj.dx.length<=3
 gl:mY g (aab "SourceError") (.ref 52)
 kp:keepIn (Mine.KN g.w.params) (.ref 52)=true
 at_:fN g.w 494 (aab "at")
 hi:kR g 379 fi
 SH:fi.ps=[aab "self",aab "kind",aab "detail"]
 Tj:fi.dx=[.str (aab "")]
 b:BQ fi.body
 sc:fi.sc.lookup (aab "SourceError")=some .globalImplicit
theorem G0{fi fj:g9}{fI:Addr}(H:zT g fi fj fI):tY g g6:=by
 intro a p hp A K xs st hA hK aa
 refine aR hp aN λha hp=> ?_
 subst ha
 cases hp
 refine jK λG kG=> ?_
 obtain⟨n,kv,r,fs,av,dv,h0,h1,h2,h3,h4,h5⟩:=A7 aa
 subst h0
 refine kG ?_
 intro D σ s Q' vs R hv kk
 have hlr:r.length<=1:=by rcases h4 with⟨rfl,_⟩ | rfl<;>simp
 have hm: ∀m,m=bindM fi.ps (.inst 494 n::kv::r++fi.dx.drop ((V.inst 494 n::kv::r).length+fi.dx.length- fi.ps.length))->m (aab "self")=some (.inst 494 n)/\m (aab "kind")=some kv/\m (aab "detail")=some dv:=by
  intro m hm
  have e1:(V.inst 494 n::kv::r++fi.dx.drop ((V.inst 494 n::kv::r).length+fi.dx.length- fi.ps.length))=[.inst 494 n,kv,dv]:=by
   rw[H.SH,H.Tj]
   rcases h4 with⟨rfl,rfl⟩ | rfl<;>rfl
  rw[e1,H.SH] at hm
  have b0: ∀(v0 v1 v2:V),bindM [aab "self",aab "kind",aab "detail"] [v0,v1,v2] (aab "self")=some v0:=λv0 v1 v2=>by kernel_rfl
  have b1: ∀(v0 v1 v2:V),bindM [aab "self",aab "kind",aab "detail"] [v0,v1,v2] (aab "kind")=some v1:=λv0 v1 v2=>by kernel_rfl
  have b2: ∀(v0 v1 v2:V),bindM [aab "self",aab "kind",aab "detail"] [v0,v1,v2] (aab "detail")=some v2:=λv0 v1 v2=>by kernel_rfl
  subst hm
  exact⟨b0 _ _ _,b1 _ _ _,b2 _ _ _⟩
 refine CW (k:=2) H.hi ?_ hA R hv λf FO iw s1 kp R1 Rf=> ?_
 ·rw[H.SH,H.Tj]
  simp only[aan,List.length_nil]
  exact ZC hlr
 ·refine bM (hm _ rfl) λm0 m1 m3=> ?_
  refine aO (hK.deeper (f:=f) (env:=f.env) (by rw[FO.ok.kind];exact λq=>nomatch q) rfl FO.fr) λSf pE=> ?_
  refine yI (k:=0) H.em H.hj H.ps H.b0 H.dx H.gl H.kp H.at_ FO.ok FO.fr Sf pE ?_ iw H.b Rf m0 m1 m3 h1 h2 h3 λe s' X=>⟨_,_,h5,X⟩
  unfold Env.kindOf
  rw[FO.sc]
  exact H.sc
end
end Mine
namespace Mine
noncomputable def ux:g9:={hV "GateloomError" "__init__" with dx:=[.int (-1),.str (aab "")]}
noncomputable def Bq:List (Addr×g9):=(36,ux)::(379,hV "Cursor" "fail")::Rw
noncomputable def TA:FuncData:=fnOf abM abM default [] default .none .none .none .none none .none .none
noncomputable def dP:Option Obj->FuncData
 | some ⟨_,_,.func fd,_⟩=>fd
 | _=>TA
noncomputable def QV(b:List Stmt):Option Obj->Option Obj
 | some ⟨c,d,.func fd,sl⟩=>some ⟨c,d,.func (fnOf fd.name fd.qualname fd.params b fd.scope fd.defaults fd.kwdefaults fd.doc fd.pyModule fd.annotations fd.code fd.closureTuple),sl⟩
 | _=>none
noncomputable def Kr(K:Frag)(fd:FuncData):List Value:=match fd.defaults with
 | .ref T=>match K.lookup T with
  | some o=>match o.data with
   | .seq its _=>its.toList
   | _=>[]
  | none=>[]
 | _=>[]
noncomputable def Rl(x:V)(v:Value):Bool:=match x with
 | .int i=>match v with
  | .int j _=>decide (i=j)
  | _=>false
 | .str i=>match v with
  | .str j _=>decide (i=j)
  | _=>false
 | _=>false
theorem G9{P:Params}{D:Dt}{σ:List Addr}{x:V}{v:Value}(h:Rl x v=true):VR P D σ x v:=by
 cases x with
 | int i=>cases v with
  | int j t=>cases of_decide_eq_true h;exact⟨_,rfl⟩
  | _=>exact ft (show false=true from h)
 | str i=>cases v with
  | str j t=>cases of_decide_eq_true h;exact⟨_,rfl⟩
  | _=>exact ft (show false=true from h)
 | _=>exact ft (show false=true from h)
noncomputable def Ha:List V->List Value->Bool
 | [],[]=>true
 | x::xs,v::vs=>Rl x v&&Ha xs vs
 | _,_=>false
theorem xG{P:Params}{D:Dt}{σ:List Addr}: ∀{xs:List V} {vs:List Value},Ha xs vs=true->aM P D σ xs vs
 | [],[],_=>rfl
 | [],_::_,h=>ft (show false=true from h)
 | _::_,[],h=>ft (show false=true from h)
 | x::xs,v::vs,h=>⟨_,_,rfl,G9 (aap.mp h).1,xG (aap.mp h).2⟩
noncomputable def Lv(fi:g9):List Nat:=(List.range 7).filter λk=>decide (fi.ps.length<=k+fi.dx.length)&&decide (k<=fi.ps.length)
noncomputable def bd(vs:List Value)(fi:g9)(dv:List Value):List (Str×Value):=fi.ps.zip (vs++dv.drop (vs.length+dv.length- fi.ps.length))
noncomputable def Ta(K:Frag)(p:Addr×g9):Bool:=let fd:=dP (K.lookup p.1)
 codeIn K fd.code fd.qualname&&Ha p.2.dx (Kr K fd)&&decide (fd.scope.isCoroutine=false/\fd.scope.isGenerator=false/\fd.scope.kind= .function)&&decide (p.2.ps.length<=6)&&
 decide ((∀x∈p.2.ps,p.2.sc.lookup x=some .local\/p.2.sc.lookup x=some .cell)/\p.2.ps.Nodup/\(p.2.sc.map (·.1)).Nodup/\ ∀q∈p.2.sc,q.2≠ .free)
section
variable(P:Params)
theorem Oy:(Bq.map λp=>(KN P).lookup p.1)=Bq.map λp=>QV p.2.body ((KN P).lookup p.1):=by kernel_rfl
theorem OA:(Bq.map λp=>(dP ((KN P).lookup p.1)).scope.names)=Bq.map λp=>p.2.sc:=by kernel_rfl
theorem KG:(Bq.map (Ta (KN P)))=Bq.map λ_=>true:=by kernel_rfl
theorem Ox(S:Setting)(a b c d e f:Value):(Bq.map λp=>(Lv p.2).map λk=>peek (KN P) S (bindArgs (dP ((KN P).lookup p.1)) ⟨[a,b,c,d,e,f].take k,[]⟩))=
  Bq.map λp=>(Lv p.2).map λk=>some (bd ([a,b,c,d,e,f].take k) p.2 (Kr (KN P) (dP ((KN P).lookup p.1)))):=by kernel_rfl
theorem FE:(Bq.map λp=>((KN P).lookup p.1).isSome)=Bq.map λ_=>true:=by kernel_rfl
end
theorem RA: ∀{vs:List Value},vs.length<=6-> ∃a b c d e f,vs=[a,b,c,d,e,f].take vs.length
 | [],_=>⟨.none,.none,.none,.none,.none,.none,rfl⟩
 | [a],_=>⟨a,.none,.none,.none,.none,.none,rfl⟩
 | [a,b],_=>⟨a,b,.none,.none,.none,.none,rfl⟩
 | [a,b,c],_=>⟨a,b,c,.none,.none,.none,rfl⟩
 | [a,b,c,d],_=>⟨a,b,c,d,.none,.none,rfl⟩
 | [a,b,c,d,e],_=>⟨a,b,c,d,e,.none,rfl⟩
 | [a,b,c,d,e,f],_=>⟨a,b,c,d,e,f,rfl⟩
 | _::_::_::_::_::_::_::_,h=>absurd h (by simp)
theorem sS: ∀{xs:List V} {vs:List Value},Ha xs vs=true->vs.length=xs.length
 | [],[],_=>rfl
 | [],_::_,h=>ft (show false=true from h)
 | _::_,[],h=>ft (show false=true from h)
 | _::_,_::_,h=>congrArg (· +1) (sS (aap.mp h).2)
section
variable{g:Gl}
theorem QW{b:List Stmt}{o:Option Obj}(h:o=QV b o)(hs:o.isSome=true): ∃oc od zg,o=some ⟨oc,od,.func (fnOf (dP o).name (dP o).qualname (dP o).params b (dP o).scope (dP o).defaults (dP o).kwdefaults (dP o).doc (dP o).pyModule (dP o).annotations (dP o).code (dP o).closureTuple),zg⟩/\
  dP o=fnOf (dP o).name (dP o).qualname (dP o).params b (dP o).scope (dP o).defaults (dP o).kwdefaults (dP o).doc (dP o).pyModule (dP o).annotations (dP o).code (dP o).closureTuple:=by
 cases o with
 | none=>exact ft hs
 | some o=>
  obtain⟨c,d,dt,sl⟩:=o
  cases dt with
  | func fd=>exact⟨c,d,sl,h,Data.func.inj (Obj.mk.inj (aaj h)).2.2.1⟩
  | _=>exact Dk h
theorem pk{a:Addr}{fi:g9}(h:(a,fi)∈Bq):kR g a fi:=by
 have e1:=abz.mp (Oy g.w.params) _ h
 have e2:=abz.mp (OA g.w.params) _ h
 have e3:Ta (KN g.w.params) (a,fi)=true:=abz.mp (KG g.w.params) _ h
 have e4:((KN g.w.params).lookup a).isSome=true:=abz.mp (FE g.w.params) _ h
 have e5:=λS a b c d e f=>abz.mp (Ox g.w.params S a b c d e f) _ h
 dsimp only at e1 e2 e5
 refine gF (QW e1 e4) λoc od zg q1 q2=> ?_
 unfold Ta at e3
 dsimp only at e3
 generalize dP ((KN g.w.params).lookup a)=fd at q1 q2 e2 e3 e5
 refine aO (aap.mp e3) λe3 c5=> ?_
 refine aO (aap.mp e3) λe3 c4=> ?_
 refine aO (aap.mp e3) λe3 c3=> ?_
 refine aO (aap.mp e3) λc1 c2=> ?_
 refine jj (of_decide_eq_true c5) λd1 d2 d3 d4=> ?_
 refine bM (of_decide_eq_true c3) λc6 c7 c8=> ?_
 have c4:=of_decide_eq_true c4
 refine⟨⟨_,_,_,_,_,_,_,_,_,_,_,_,_,_,Kr (KN g.w.params) fd,q1,c1,e2,λD σ=>xG c2,λs vs z1 z2 X=> ?_,c6,c7,c8⟩,d1,d2,d3,d4⟩
 rw[<-q2]
 refine Tr (RA (aaD z2 c4)) λa b c d e f hv=> ?_
 rw[sS c2] at z1
 have hk:vs.length∈Lv fi:=abL.mpr ⟨List.mem_range.mpr (ZD c4 z2),aap.mpr ⟨decide_eq_true z1,decide_eq_true z2⟩⟩
 refine PySem.W.kp_binds X λS=> ?_
 have e6:=abz.mp (e5 S a b c d e f) _ hk
 rw[<-hv] at e6
 exact e6
theorem lookup_mem{a:Addr}{fi:g9}: ∀{l:List (Addr×g9)},l.lookup a=some fi->(a,fi)∈l
 | [],h=>aY h
 | (b,f)::l,h=>by
  rw[aao] at h
  by_cases e:a=b
  ·subst e
   rw[beq_self_eq_true] at h
   cases h
   exact aak
  ·rw[beq_false_of_ne e] at h
   exact aai _ (lookup_mem h)
theorem KI: ∀a fi,tFn a=some fi->g6 a=none->kR g a fi:=λa fi h _=>pk (aai _ (aai _ (lookup_mem h)))
theorem Ow:kR g 36 ux:=pk aak
theorem KD:kR g 379 (hV "Cursor" "fail"):=pk (aai _ aak)
end
end Mine
namespace Mine
theorem cL{α β:Type}[BEq α][LawfulBEq α]{a:α}{v:β}: ∀{l:List (α×β)},l.lookup a=some v->(a,v)∈l
 | [],h=>aY h
 | (b,w)::l,h=>by
  rw[aao] at h
  cases q:a==b with
  | true=>rw[q] at h;cases h;rw[eq_of_beq q];exact aak
  | false=>rw[q] at h;exact aai _ (cL h)
theorem ta{α:Type}{l:List (String×α)}{x:Str}{v:α}{G:Prop}(h:SN l x=some v)(k: ∀p∈l,x=aab p.1->v=p.2->G):G:=
 ae (cL h) λp hp e=>k p hp (congrArg Prod.fst e).symm (congrArg Prod.snd e).symm
section
variable{P:Params}
theorem gA1:KU.map (λp=>nsIn (KN P) mainGlobals (aab p.1))=KU.map λp=>some (some (.ref p.2)):=by kernel_rfl
theorem gA2:KU.map (λp=>keepIn (KN P) (.ref p.2))=KU.map λ_=>true:=by kernel_rfl
theorem gA3:FI.map (λp=>nsIn (KN P) mainGlobals (aab p.1))=FI.map λ_=>some none:=by kernel_rfl
theorem gA4:FI.map (λp=>bootBuiltins (aab p.1))=FI.map λp=>some p.2:=by kernel_rfl
theorem gA5: ∀p∈FI.map (·.1),aab p≠aab "__name__":=by decide+kernel
theorem gA6:FI.map (λp=>DU p.2)=FI.map λ_=>none:=by kernel_rfl
theorem t1:gP.map (λp=>findIn (KN P) (.ref p.1) "__getattribute__")=gP.map λ_=>some (some (.builtin "object.__getattribute__")):=by kernel_rfl
theorem t2:gP.map (λp=>findIn (KN P) (.ref p.1) "__getattr__")=gP.map λ_=>some none:=by kernel_rfl
theorem t3:gP.map (λp=>hasDictIn (KN P) p.1)=gP.map λ_=>true:=by kernel_rfl
theorem t4:gP.map (λp=>findIn (KN P) (.ref p.1) "__setattr__")=gP.map λ_=>some (some (.builtin "object.__setattr__")):=by kernel_rfl
theorem t5:gP.map (λp=>plainOver (KN P) p.1)=gP.map λ_=>true:=by kernel_rfl
theorem t6:gP.map (λp=>p.2.1.map λx=>findIn (KN P) (.ref p.1) (aab x))=gP.map λp=>p.2.1.map λ_=>some none:=by kernel_rfl
theorem t7:gP.map (λp=>p.2.2.map λx=>findIn (KN P) (.ref p.1) (aab x.1))=gP.map λp=>p.2.2.map λx=>some (some (.ref x.2)):=by kernel_rfl
theorem t8:gP.map (λp=>p.2.2.map λx=>isFn (KN P) (.ref x.2)&&keepIn (KN P) (.ref x.2))=gP.map λp=>p.2.2.map λ_=>true:=by kernel_rfl
theorem t9:AB.map (λp=>makesIn (KN P) p.1&&isFn (KN P) (.ref p.2.1))=AB.map λ_=>true:=by kernel_rfl
theorem t10:AB.map (λp=>findIn (KN P) (.ref p.1) "__init__")=AB.map λp=>some (some (.ref p.2.1)):=by kernel_rfl
end
theorem at_of{α β:Type}{f h:α->β}{l:List α}(e:l.map f=l.map h){a:α}(ha:a∈l):f a=h a:=abz.mp e a ha
section
variable{g:Gl}
theorem IQ{p:String×Addr}(h:p∈KU):mY g (aab p.1) (.ref p.2):= .inl (mg_of g.hK g.hT.g (at_of gA1 h))
theorem I6{p:String×Addr}(h:p∈KU):keepIn (Mine.KN g.w.params) (.ref p.2)=true:=at_of gA2 h
theorem OE{p:String×Value}(h:p∈FI):mY g (aab p.1) p.2:= .inr ⟨mg_none_of g.hK g.hT.g (at_of gA3 h),(g.hT.builtins _ (gA5 _ (aa7 h))).trans (at_of gA4 h)⟩
theorem wk{p:Addr×List String×List (String×Addr)}(h:p∈gP):zN g.w p.1:=⟨at_of t1 h,at_of t2 h,at_of t3 h,at_of t4 h,at_of t5 h⟩
theorem v7{C:Addr}{x:Str}(h:Jq C x=true):fN g.w C x:=
 br h (λt ht h=>ae (acR.mp h) λy hy e=>e▸⟨wk (cL ht),at_of (at_of t6 (cL ht)) hy⟩) λ_ h=>ft h
theorem Gp{C fn:Addr}{x:Str}(h:Jr C x=some fn):lJ g.w C [] x fn:=
 aB h aN λt ht h=>ta h λp hp e1 e2=>by
  have h8:=aap.mp (at_of (at_of (t8 (P:=g.w.params)) (cL ht)) hp)
  exact e1▸e2▸⟨wk (cL ht),at_of (at_of (t7 (P:=g.w.params)) (cL ht)) hp,h8.1,h8.2,λy hy=>jR hy⟩
theorem Kn{C nY:Addr}{fz:Bool}(h:Rv C=some (nY,fz)):zU g C nY:=
 have h9:=aap.mp (at_of (t9 (P:=g.w.params)) (cL h))
 ⟨h9.1,at_of t10 (cL h),h9.2⟩
theorem m9: ∃t,mY g (aab "MOST_BITS") (.int 65536 t):=⟨425,.inl (mg_of g.hK g.hT.g (by kernel_rfl))⟩
theorem lS: ∃t,mY g (aab "PLAIN_BITS") (.int 32 t):=⟨427,.inl (mg_of g.hK g.hT.g (by kernel_rfl))⟩
theorem Dm:uc g.w 382 (aab "__init__") 300:=⟨by kernel_rfl,⟨.type "type",by kernel_rfl,by kernel_rfl⟩,by decide+kernel,by kernel_rfl⟩
theorem vd:(Mine.KN g.w.params).lookup 52=some ⟨.type "type",none,.cls {name:=aab "SourceError",bases:=[.ref 39],mro:=[.ref 52,.ref 39,.type "Exception",.type "BaseException",.type "object"],ns:=51,qualname:=aab "SourceError"},
  #[some (.ref 43),none,some (.str (aab "SourceError") 232),some (.str (aab "SourceError") 240),some (.builtin "Exception.__new__"),some (.bool true)]⟩:=by kernel_rfl
theorem rH:qM g.w 52:=by
 refine⟨?_,by kernel_rfl,by kernel_rfl,by kernel_rfl,by kernel_rfl,abJ.mpr ⟨by kernel_rfl,abJ.mpr ⟨by kernel_rfl,abJ.mpr ⟨by kernel_rfl,List.forall_mem_nil _⟩⟩⟩⟩
 exact⟨_,_,_,_,[.ref 39,.type "Exception",.type "BaseException",.type "object"],_,_,_,_,_,_,_,_,_,_,_,_,vd,by decide+kernel⟩
theorem A3:nJ g.w 52 36:=by
 refine⟨rH,by kernel_rfl,by unfold jG clsIn;rw[vd];decide+kernel,by kernel_rfl,by kernel_rfl,?_⟩
 exact⟨_,_,_,_,[.ref 39,.type "Exception",.type "BaseException",.type "object"],_,_,_,_,_,_,_,_,_,_,_,vd,⟨by decide+kernel,by decide+kernel,by decide+kernel,by decide+kernel⟩⟩
theorem Ky:zT g (hV "Cursor" "fail") ux 36 where
 em:=A3
 hj:=Ow
 ps:=by kernel_rfl
 b0:=⟨_,_,_,_,_,_,_,_,_,_,_,_,rfl⟩
 dx:=by decide+kernel
 gl:=IQ (p:=("SourceError",52)) aak
 kp:=I6 (p:=("SourceError",52)) aak
 at_:=v7 (by kernel_rfl)
 hi:=KD
 SH:=by kernel_rfl
 Tj:=by kernel_rfl
 b:=⟨_,_,_,_,_,_,_,rfl⟩
 sc:=by decide+kernel
theorem tok:Il g TT where
 gl:=λx v h=>br h (λa ha h=>ta ha λp hp e1 e2=>e1▸aaj h▸e2▸IQ hp) λ_ h=>ta h λp hp e1 e2=>e1▸e2▸OE hp
 kp:=λx a h=>br h (λb hb h=>ta hb λp hp e1 e2=>Value.ref.inj (aaj h)▸e2▸I6 hp) λ_ h=>ta h λp hp e1 e2=>aY ((at_of gA6 hp).symm.trans (congrArg DU e2.symm))
 con:=λx i h=>bO h (λe h=>e▸aaj h▸m9) λ_ h=>aR h aN λe h=>e▸aaj h▸lS
 attr:=λC x h=>v7 h
 cls:=λC nY fz h=>Kn h
 exc:=λC h=>(beq_iff_eq.mp h:C=52)▸rH
 nH:=λC x fn h=>aR h aN λe h=>e.1▸e.2▸aaj h▸Dm
 iU:=λC x fn h=>⟨[],Gp h⟩
theorem told(k:Nat):mX g (3* k) (gU TT g6 k):=Ax tok KI (G0 Ky) k
end
end Mine
namespace Mine
theorem Lw{g:Gl}:g.mg (aab "law")=some (.ref 565):=mg_of g.hK g.hT.g (by kernel_rfl)
theorem rV{P:Params}{D:Dt}{σ:List Addr}{h:Heap}: ∀{xq:List Int} {vs:List Value},WellAll P h vs (ofPys (xq.map acd))->aM P D σ (xq.map V.int) vs
 | [],vs,h=>by
  simp only[acS,ofPys] at h
  cases h
  rfl
 | i::r,vs,h=>by
  simp only[aaq,ofPys,ofPy] at h
  cases h with
  | cons h1 h2=>
   cases h1
   exact⟨_,_,rfl,⟨_,rfl⟩,rV h2⟩
theorem Rp:bI 60 callerA:=⟨rfl,by decide,by decide⟩
theorem y0{w:World}{Gm:ExcName->Option Value}{s1:Shared}{mg mb:Str->Option Value}(hK:(Mine.KN w.params).In s1.heap)(hT:Top Mine.qL (looseW Mine.qL Ii) Gm mg mb s1.heap)(hg:s1.gens= #[])
  {xq:List Int} {l:Addr} {st:List AO} (hW:Well w.params s1.heap (.ref l) (ofPy (.list (xq.map acd)))) (hB:gU TT g6 20 565 [.lst (xq.map V.int)] []=some (.ok (.bool true),st))
  {Q:Value->Shared->Prop} {E:Value->Shared->Prop} (hQ: ∀s',(∀b o,s1.heap.get? b=some o->s'.heap.get? b=some o)->s'.os=s1.os->s'.gens= #[]->Q (.bool true) s'):
  wpAny (model cS w) callerA (call (.ref 565) [.ref l]) Q E s1:=by
 let g:Gl:=⟨w,s1.heap,mg,mb,Gm,hK,hT⟩
 let K:Kx:=⟨s1.heap.get?,[],[],[],s1.os⟩
 have R:aP g K s1.heap.get? [] [] s1:=⟨λa o h=>h,λa o h=>h,(λn a h=>by have h:([]:List Addr)[n]? =some a:=h;simp at h),λa o h=>h,(λp h=>jR h),(λp h=>jR h),(λa h=>jR h),(λn o h=>by have h:([]:List AO)[n]? =some o:=h;simp at h),(λa h=>jR h),rfl,ab5,hg,rfl⟩
 have aa:gU TT g6 20 565 [.lst (xq.map V.int)] []≠none:=by rw[hB];exact λq=>Dk q
 have W:=told (g:=g) 20 callerA K 565 [.lst (xq.map V.int)] [] Rp ⟨[],rfl,λenv h=>jR h⟩ aa
 have hv:aM g.w.params s1.heap.get? [] [.lst (xq.map V.int)] [.ref l]:=by
  cases hW with
  | list h1 h2=>exact⟨_,_,rfl,⟨l,_,_,rfl,h1,by rw[List.toList_toArray];exact rV h2⟩,rfl⟩
 refine wpAny_call (codeAny_mono (W s1.heap.get? [] s1 Q [.ref l] R hv λa st' D' σ' b s' L R' r q=> ?_) λr s' x=> ?_)
 ·have q:gU TT g6 20 565 [.lst (xq.map V.int)] []=some (.ok a,st'):=q
  rw[hB] at q
  cases q
  have r:b= .bool true:=r
  subst r
  exact hQ s' (λb o h=>R'.dh _ _ (L.d _ _ h)) R'.os R'.gens
 ·cases r with
  | ok f=>cases f<;>exact x
  | error e=>
   refine cc x ?_;clear x;intro x st' q _
   rw[hB] at q
   cases q
theorem join(B: ∀xq:List Int,xq.length<=63-> ∃st,gU TT g6 20 565 [.lst (xq.map V.int)] []=some (.ok (.bool true),st)):PySem.Challenge.rw_sj0056_01.Holds:=by
 refine Mine.hd2 ?_
 intro w s0 s1 mg mb G Y a o pm cd doc dV kV ho hd hcr TS hmg hg args vals as Un T6 Ld Ph Us
 have hK:=kIn_of Y
 have hT:=G.T
 have O3:mg (aab "law")=some (.ref a):=hmg
 have ha:a=565:=by
  have :=Lw (g:=⟨w,s1.heap,mg,mb,_,hK,hT⟩)
  have h2:mg (aab "law")=some (.ref 565):=this
  rw[O3] at h2
  cases h2;rfl
 subst ha
 clear hd TS hcr hmg O3 G Y ho
 wrow_args Un T6 Ld Ph Us
 rename_i xq hs hl0 hL1 Nw gH a4 a3 l vs a0 hL ra hW r0 hI hr Sj hc2
 refine aj (B xq (ZE Sj)) λst hB=> ?_
 refine y0 (w:=w) hK hT hg hW hB λs' h1 h2 h3=> ?_
 refine GoodW.toG ⟨.inl ⟨.bool true,.bool true,[],rfl,λcls=>rfl,.bool true,?_,λ_=>⟨ab5,λa h=>jR h⟩⟩,h1,h2,h3⟩
 refine postW_of (X:=true) (by kernel_rfl) ?_ rfl
 show(WTm.eq .res (.lit (.bool true))).value _ _=_
 simp only[WTm.value,WCtx.mk,Option.bind_eq_bind,ac0,Option.map_some]
 kernel_rfl
end Mine
namespace Mine
noncomputable abbrev Ev:=List (Str×V)
def eE(l:Ev)(m:M):Prop:= ∀x v,l.lookup x=some v->m x=some v
def Gn(F:aV)(m:M):Prop:= ∀x,F.sc.lookup x=some .globalImplicit->m x=none
inductive X where
 | go (fl:Fl) (l:Ev) (st:List AO)
 | er (e:Ex) (st:List AO)
def Out(F:aV)(r:RS)(x:X):Prop:=match x with
 | .go fl l st=> ∃m,r=some (.ok fl,m,st)/\eE l m/\Gn F m
 | .er e st=> ∃m,r=some (.error e,m,st)
def bl(F:aV)(run:Nat->M->RS)(N:Nat)(l:Ev)(x:X):Prop:= ∀n,N<=n-> ∀m,eE l m->Gn F m->Out F (run n m) x
def Gives(F:aV)(run:Nat->M->RE V)(N:Nat)(l:Ev)(v:V)(st:List AO):Prop:= ∀n,N<=n-> ∀m,eE l m->Gn F m->run n m=some (.ok v,st)
inductive Qn where
 | no
 | v (p:RE V) (a:Except Ex V) (st:List AO)
 | vf (p:List AO->RE V) (a:V)
 | b (p:RE Bool) (a:Bool) (st:List AO)
 | bf (p:List AO->RE Bool) (a:Bool)
 | s (p:Option (List AO)) (st:List AO)
 | pr (p:Option Pre) (a:Pre)
 | r (F:aV) (run:Nat->M->RS) (N:Nat) (l:Ev) (x:X)
 | c (F:aV) (run:Nat->M->RE V) (N:Nat) (l:Ev) (v:V) (st:List AO)
def Qn.holds(q:Qn):Prop:=match q with
 | .no=>True
 | .v p a st=>p=some (a,st)
 | .vf p a=> ∀st,p st=some (.ok a,st)
 | .b p a st=>p=some (.ok a,st)
 | .bf p a=> ∀st,p st=some (.ok a,st)
 | .s p st=>p=some st
 | .pr p a=>p=some a
 | .r F run N l x=>bl F run N l x
 | .c F run N l w st=>Gives F run N l w st
structure Fc where
 t:Nat
 q:Qn
 h:q.holds
noncomputable abbrev Rn:=Option (X×List Qn)
noncomputable def ask(q:Qn)(r:Rn):Rn:=oK r λp=>some (p.1,q::p.2)
noncomputable def Tz{α:Type}(a:Except Ex α)(st:List AO)(fs:List Fc)(k:α->List AO->List Fc->Rn):Rn:=match a with
 | .ok v=>k v st fs
 | .error e=>some (.er e st,[])
noncomputable def C0{α:Type}(p:RE α)(fs:List Fc)(k:α->List AO->List Fc->Rn):Rn:=oK p λa=>Tz a.1 a.2 fs k
noncomputable def hd(t:Nat)(fs:List Fc):Option (Qn×List Fc):=match fs with
 | f::gs=>bif Nat.beq f.t t then some (f.q,gs) else none
 | []=>none
noncomputable def RF(q:Qn)(p:List AO->RE V)(st:List AO)(gs:List Fc)(k:V->List AO->List Fc->Rn):Rn:=match q with
 | .v _ a st'=>ask (.v (p st) a st') (Tz a st' gs k)
 | .vf _ a=>ask (.vf p a) (k a st gs)
 | .no=>ask .no (C0 (p st) gs k)
 | _=>none
noncomputable def CE(t:Nat)(p:List AO->RE V)(st:List AO)(fs:List Fc)(k:V->List AO->List Fc->Rn):Rn:=opt (hd t fs) (λf=>RF f.1 p st f.2 k) (C0 (p st) fs k)
noncomputable def RD(q:Qn)(p:List AO->RE Bool)(st:List AO)(gs:List Fc)(k:Bool->List AO->List Fc->Rn):Rn:=match q with
 | .b _ a st'=>ask (.b (p st) a st') (k a st' gs)
 | .bf _ a=>ask (.bf p a) (k a st gs)
 | .no=>ask .no (C0 (p st) gs k)
 | _=>none
noncomputable def ZT(t:Nat)(p:List AO->RE Bool)(st:List AO)(fs:List Fc)(k:Bool->List AO->List Fc->Rn):Rn:=opt (hd t fs) (λf=>RD f.1 p st f.2 k) (C0 (p st) fs k)
noncomputable def aad(q:Qn)(p:Option (List AO))(gs:List Fc)(k:List AO->List Fc->Rn):Rn:=match q with
 | .s _ st=>ask (.s p st) (k st gs)
 | .no=>ask .no (oK p λst=>k st gs)
 | _=>none
noncomputable def ZU(t:Nat)(p:Option (List AO))(fs:List Fc)(k:List AO->List Fc->Rn):Rn:=opt (hd t fs) (λf=>aad f.1 p f.2 k) (oK p λst=>k st fs)
noncomputable def aac(q:Qn)(p:Option Pre)(gs:List Fc)(k:Pre->List Fc->Rn):Rn:=match q with
 | .pr _ a=>ask (.pr p a) (k a gs)
 | .no=>ask .no (oK p λa=>k a gs)
 | _=>none
noncomputable def Ji(p:Option Pre)(fs:List Fc)(k:Pre->List Fc->Rn):Rn:=opt (hd 13 fs) (λf=>aac f.1 p f.2 k) (oK p λa=>k a fs)
noncomputable def zM:Ev->Ev->Option Ev
 | [],_=>some []
 | (x,_)::q,l=>oK (l.lookup x) λv=>oK (zM q l) λr=>some ((x,v)::r)
noncomputable def goX(x:X)(gs:List Fc)(k:Fl->Ev->List AO->List Fc->Rn):Rn:=match x with
 | .go fl l2 st=>k fl l2 st gs
 | .er e st=>some (.er e st,[])
noncomputable def isR(q:Qn):Option (Nat×Ev×X):=match q with
 | .r _ _ N q x=>some (N,q,x)
 | _=>none
noncomputable def isC(q:Qn):Option (Nat×Ev×V×List AO):=match q with
 | .c _ _ N q v st=>some (N,q,v,st)
 | _=>none
noncomputable def nxt(fs:List Fc):Option (Fc×List Fc):=match fs with
 | f::gs=>some (f,gs)
 | []=>none
noncomputable def SG(F:aV)(run:Nat->M->RS)(n:Nat)(l:Ev)(fs:List Fc)(k:Fl->Ev->List AO->List Fc->Rn):Rn:=oK (nxt fs) λf=>oK (isR f.1.q) λq=>bif Nat.ble q.1 n then(oK (zM q.2.1 l) λl'=>ask (.r F run q.1 l' q.2.2) (goX q.2.2 f.2 k)) else none
noncomputable def opG(F:aV)(run:Nat->M->RE V)(n:Nat)(l:Ev)(fs:List Fc)(k:V->List AO->List Fc->Rn):Rn:=oK (nxt fs) λf=>oK (isC f.1.q) λq=>bif Nat.ble q.1 n then(oK (zM q.2.1 l) λl'=>ask (.c F run q.1 l' q.2.2.1 q.2.2.2) (k q.2.2.1 q.2.2.2 f.2)) else none
noncomputable def zk(F:aV)(l:Ev)(x:Str)(v:V):Option Ev:=match F.sc.lookup x with
 | some .local=>some (putK x v l)
 | some .cell=>if F.top then some (putK x v l) else none
 | _=>none
noncomputable def CR(F:aV)(l:Ev):List Expr->List V->Option Ev
 | [],vs=>match vs with
  | []=>some l
  | _=>none
 | t::ts,vs=>match vs with
  | v::vs=>oK (gv t) λx=>oK (zk F l x v) λl=>CR F l ts vs
  | []=>none
noncomputable def Mu(F:aV)(l:Ev)(ts:List Expr)(v:V):Option Ev:=match v with
 | .tup vs=>if vs.length<=100 then CR F l ts vs else none
 | _=>none
noncomputable def CT(F:aV)(l:Ev)(t:Expr)(v:V):Option Ev:=opt (gv t) (λx=>zk F l x v) (oK (tu t) λts=>Mu F l ts v)
noncomputable def UG(t:Nat)(fs:List Fc):Bool:=match fs with
 | f::_=>Nat.beq f.t t
 | []=>false
noncomputable def S7(name:Str):Nat:=bif name==aab "value" then 12 else 1
noncomputable def ZX:Pre->Nat
 | .knd _=>7
 | _=>0
noncomputable def EV.asks(w:EV)(fs:List Fc):Bool:=match w with
 | .comp _ _ _ _ _=>true
 | .jM _=>UG 23 fs
 | .jN _=>UG 23 fs
 | _=>false
section
variable(T:Tb)(cl:Addr->List V->List AO->RE V)
noncomputable def Te:Value->Nat
 | .builtin _=>5
 | .type _=>6
 | _=>0
noncomputable def Z1(F:aV)(l:Ev)(x:Str)(st:List AO)(fs:List Fc)(k:V->List AO->List Fc->Rn):Rn:=match F.sc.lookup x with
 | some .globalImplicit=>C0 (OD T x st) fs k
 | _=>oK (l.lookup x) λv=>k v st fs
noncomputable def Z0(F:aV)(x:Str):Option Value:=match F.sc.lookup x with
 | some .globalImplicit=>oK (T.gl x) λv=>if ZO v then some v else none
 | _=>none
structure SX where
 e:aV->Bool->Ev->List AO->Expr->List Fc->(V->List AO->List Fc->Rn)->Rn
 o:aV->Ev->List AO->Option Expr->List Fc->(Option Int->List AO->List Fc->Rn)->Rn
 es:aV->Ev->List AO->List Expr->List Fc->(List V->List AO->List Fc->Rn)->Rn
 j:aV->Ev->List AO->List Expr->Str->List Fc->(V->List AO->List Fc->Rn)->Rn
 b:aV->Ev->List AO->BoolOp->List Expr->List Fc->(V->List AO->List Fc->Rn)->Rn
 t:aV->Ev->List AO->Expr->List Fc->(Bool->List AO->List Fc->Rn)->Rn
 a:aV->Ev->List AO->BoolOp->List Expr->List Fc->(Bool->List AO->List Fc->Rn)->Rn
section
variable(P:SX)(F:aV)(l:Ev)(st:List AO)(fs:List Fc)
noncomputable def reE(mu:Bool)(k:V->List AO->List Fc->Rn):EV->Rn
 | .name x=>Z1 T F l x st fs k
 | .cst v=>k v st fs
 | .bools op es=>P.b F l st op es fs k
 | .bin op a b=>P.e F false l st a fs λx st fs=>P.e F false l st b fs λy st fs=>CE 2 (binI mu op x y) st fs k
 | .un op a=>P.e F false l st a fs λx st fs=>CE 9 (RC op x) st fs k
 | .ite t b o=>P.t F l st t fs λc st fs=>P.e F false l st (bif c then b else o) fs k
 | .dict ps=>k (.loc st.length) (st++[.aF (ps.map λp=>(p.1,.int p.2))]) fs
 | .cmp op a b=>P.e F false l st a fs λx st fs=>P.e F false l st b fs λy st fs=>ZT 3 (bk op x y) st fs λc st fs=>k (.bool c) st fs
 | .iU o name as=>P.e F false l st o fs λx st fs=>Ji (sF T x name st) fs λp fs=>P.es F l st as fs λxs st fs=>CE (ZX p) (CQ cl p x name xs) st fs k
 | .call x as=>oK (Z0 T F x) λv=>P.es F l st as fs λxs st fs=>CE (Te v) (gf T cl mu v xs) st fs k
 | .jM e=>P.e F false l st e fs k
 | .jN es=>P.j F l st es abM fs k
 | .fmt e=>P.e F false l st e fs λv st fs=>CE 32 (Bp v) st fs k
 | .attr e name=>P.e F false l st e fs λx st fs=>CE (S7 name) (oR T x name) st fs k
 | .item e i=>P.e F false l st e fs λx st fs=>P.e F false l st i fs λy st fs=>CE 4 (eQ x y) st fs k
 | .slice e lo hi=>P.e F false l st e fs λx st fs=>P.o F l st lo fs λa st fs=>P.o F l st hi fs λb st fs=>CE 8 (kW mu x a b) st fs k
 | .list es=>P.es F l st es fs λxs st fs=>CE 31 (mk mu xs) st fs k
 | .tuple es=>P.es F l st es fs λxs st fs=>C0 (tupI xs st) fs k
 | _=>none
noncomputable def reO(k:Option Int->List AO->List Fc->Rn):Option Expr->Rn
 | none=>k none st fs
 | some e=>P.e F false l st e fs λv st fs=>C0 (GL v st) fs k
noncomputable def Rj(k:List V->List AO->List Fc->Rn):List Expr->Rn
 | []=>k [] st fs
 | e::es=>if isStar e then none else P.e F false l st e fs λx st fs=>P.es F l st es fs λxs st fs=>k (x::xs) st fs
noncomputable def rjo(es:List Expr)(out:Str)(k:V->List AO->List Fc->Rn)(v:V)(st:List AO)(fs:List Fc):Rn:=match v with
 | .str x=>if out.length+x.length<=100000 then P.j F l st es (out++x) fs k else none
 | _=>none
noncomputable def reJ(out:Str)(k:V->List AO->List Fc->Rn):List Expr->Rn
 | []=>if out.length<=100000 then k (.str out) st fs else none
 | e::es=>P.e F false l st e fs (rjo P F l es out k)
noncomputable def reB(op:BoolOp)(k:V->List AO->List Fc->Rn):List Expr->Rn
 | []=>none
 | e::es=>match es with
  | []=>P.e F false l st e fs k
  | e'::es=>P.e F false l st e fs λx st fs=>C0 (k9 x st) fs λb st fs=>bif fD op b then k x st fs else P.b F l st op (e'::es) fs k
noncomputable def reT(e:Expr)(k:Bool->List AO->List Fc->Rn):EV->Rn
 | .un op x=>match op with
  | .Not=>P.t F l st x fs λb st fs=>k (!b) st fs
  | _=>none
 | .bools op es=>P.a F l st op es fs k
 | .cmp op a b=>P.e F false l st a fs λx st fs=>P.e F false l st b fs λy st fs=>ZT 3 (bk op x y) st fs k
 | .ite _ _ _=>none
 | .no=>none
 | _=>P.e F false l st e fs λx st fs=>C0 (k9 x st) fs k
noncomputable def reA(op:BoolOp)(k:Bool->List AO->List Fc->Rn):List Expr->Rn
 | []=>k (op== .And) st fs
 | e::es=>P.t F l st e fs λb st fs=>bif fD op b then k b st fs else P.a F l st op es fs k
end
noncomputable def kP:Nat->SX
 | 0=>⟨λ_ _ _ _ _ _ _=>none,λ_ _ _ _ _ _=>none,λ_ _ _ _ _ _=>none,λ_ _ _ _ _ _ _=>none,λ_ _ _ _ _ _ _=>none,λ_ _ _ _ _ _=>none,λ_ _ _ _ _ _ _=>none⟩
 | n+1=>⟨λF mu l st e fs k=>bif (view e).asks fs then opG F (λj m=>bH T cl j F mu m st e) (n+1) l fs k else reE T cl (kP n) F l st fs mu k (view e),
   λF l st e fs k=>reO (kP n) F l st fs k e,λF l st es fs k=>Rj (kP n) F l st fs k es,λF l st es out fs k=>reJ (kP n) F l st fs out k es,λF l st op es fs k=>reB (kP n) F l st fs op k es,
   λF l st e fs k=>reT (kP n) F l st fs e k (view e),λF l st op es fs k=>reA (kP n) F l st fs op k es⟩
noncomputable abbrev rE(n:Nat)(F:aV)(mu:Bool)(l:Ev)(st:List AO)(e:Expr)(fs:List Fc)(k:V->List AO->List Fc->Rn):Rn:=(kP T cl n).e F mu l st e fs k
noncomputable abbrev rT(n:Nat)(F:aV)(l:Ev)(st:List AO)(e:Expr)(fs:List Fc)(k:Bool->List AO->List Fc->Rn):Rn:=(kP T cl n).t F l st e fs k
structure Rss where
 s:aV->Ev->List AO->Stmt->List Fc->(Fl->Ev->List AO->List Fc->Rn)->Rn
 ss:aV->Ev->List AO->List Stmt->List Fc->(Fl->Ev->List AO->List Fc->Rn)->Rn
section
variable(P:SX)(R:Rss)(n:Nat)(F:aV)(l:Ev)(st:List AO)(fs:List Fc)
noncomputable def reS(k:Fl->Ev->List AO->List Fc->Rn):SV->Rn
 | .expr e=>P.e F false l st e fs λ_ st fs=>k .next l st fs
 | .ret e=>match e with
  | some e=>P.e F F.hM l st e fs λv st fs=>k (.ret v) l st fs
  | none=>k (.ret .none) l st fs
 | .ite t b o=>P.t F l st t fs λc st fs=>R.ss F l st (bif c then b else o) fs k
 | .Ea x e=>P.e F (F.ky.contains x) l st e fs λv st fs=>oK (zk F l x v) λl=>k .next l st fs
 | .Kc o name e=>P.e F true l st e fs λv st fs=>P.e F false l st o fs λx st fs=>ZU 11 (MK T x name v st) fs λst fs=>k .next l st fs
 | .Ke o i e=>P.e F true l st e fs λv st fs=>P.e F false l st o fs λx st fs=>P.e F false l st i fs λy st fs=>ZU 10 (qt x y v st) fs λst fs=>k .next l st fs
 | .Kf ts e=>P.e F false l st e fs λv st fs=>oK (Mu F l ts v) λl=>k .next l st fs
 | .for t e b=>P.e F false l st e fs λsrc st fs=>SG F (λj m=>cP T cl j F t b src 0 m st) n l fs k
 | .while t b=>SG F (λj m=>bq T cl j F t b m st) n l fs k
 | _=>none
noncomputable def Rk(k:Fl->Ev->List AO->List Fc->Rn):List Stmt->Rn
 | []=>k .next l st fs
 | s::ss=>R.s F l st s fs λfl l st fs=>match fl with
   | .next=>R.ss F l st ss fs k
   | fl=>k fl l st fs
end
noncomputable def ME:Nat->Rss
 | 0=>⟨λ_ _ _ _ _ _=>none,λ_ _ _ _ _ _=>none⟩
 | n+1=>⟨λF l st s fs k=>bif UG 20 fs then SG F (λj m=>dS T cl j F m st s) (n+1) l fs k else reS T cl (kP T cl n) (ME n) n F l st fs k (iH s),λF l st ss fs k=>Rk (ME n) F l st fs k ss⟩
noncomputable abbrev tS(n:Nat)(F:aV)(l:Ev)(st:List AO)(ss:List Stmt)(fs:List Fc)(k:Fl->Ev->List AO->List Fc->Rn):Rn:=(ME T cl n).ss F l st ss fs k
noncomputable def fin(q:Ev)(fl:Fl)(l:Ev)(st:List AO)(fs:List Fc):Rn:=match fs with
 | []=>oK (zM q l) λl'=>some (.go fl l' st,[])
 | _=>none
noncomputable def ik(v:V)(st:List AO)(fs:List Fc):Rn:=match fs with
 | []=>some (.go (.ret v) [] st,[])
 | _=>none
noncomputable def kY(b:Bool)(st:List AO)(fs:List Fc):Rn:=ik (.bool b) st fs
noncomputable def Hg(prim:Addr->Option (List V->List AO->RE V))(a:Addr)(xs:List V)(st:List AO)(fs:List Fc):Rn:=match prim a with
 | some _=>none
 | none=>oK (T.fn a) λfi=>if fi.ps.length<=xs.length+fi.dx.length/\xs.length<=fi.ps.length then
   (bif fi.ps.all (λx=>decide (fi.sc.lookup x≠some .globalImplicit)) then
     tS T cl fuel ⟨fi.sc,true,fi.ky,fi.hM⟩ (fi.ps.zip (xs++fi.dx.drop (xs.length+fi.dx.length- fi.ps.length))) st fi.body fs λfl _ st' fs=>CE 30 (leave fi st fl) st' fs ik else none)
   else none
end
end Mine
namespace Mine
theorem nD{α β:Type}{o:Option α}{k:α->Option β}{y:β}{G:Prop}(h:oK o k=some y)(kk: ∀a,o=some a->k a=some y->G):G:=by
 cases o with
 | none=>exact aY h
 | some a=>exact kk a rfl h
theorem su{α β:Type}{o:Option α}{k:α->β}{z y:β}{G:Prop}(h:opt o k z=y)(h1: ∀a,o=some a->k a=y->G)(h2:o=none->z=y->G):G:=by
 cases o with
 | none=>exact h2 rfl h
 | some a=>exact h1 a rfl h
theorem Al{α:Type}{c:Bool}{a b y:α}{G:Prop}(h:(bif c then a else b)=y)(h1:c=true->a=y->G)(h2:c=false->b=y->G):G:=by
 cases c with
 | true=>exact h1 rfl h
 | false=>exact h2 rfl h
theorem Pp{α:Type}{c:Prop}[d:Decidable c]{r:Option α}{y:α}{G:Prop}(h:(if c then r else none)=some y)(k:c->r=some y->G):G:=by
 cases d with
 | isFalse hc=>exact aY h
 | isTrue hc=>exact k hc h
theorem unk{α:Type}{c:Prop}[d:Decidable c]{r:Option α}{y:α}{G:Prop}(h:(if c then none else r)=some y)(k: ¬c->r=some y->G):G:=by
 cases d with
 | isTrue hc=>exact aY h
 | isFalse hc=>exact k hc h
theorem BB{k x:Str}{v:V}: ∀{fs:Ev},(putK k v fs).lookup x=if x=k then some v else fs.lookup x:=by
 intro fs
 induction fs with
 | nil=>
  refine aao.trans ?_
  by_cases e:x=k
  ·rw[if_pos e,e,beq_self_eq_true]
  ·rw[if_neg e,beq_false_of_ne e]
 | cons p fs ih=>
  refine(congrArg (acM x) (show putK k v (p::fs)=if p.1==k then(k,v)::fs else p::putK k v fs from rfl)).trans ?_
  by_cases h:p.1=k
  ·rw[h,beq_self_eq_true,if_pos rfl,aao]
   by_cases e:x=k
   ·rw[if_pos e,e,beq_self_eq_true]
   ·rw[if_neg e,beq_false_of_ne e]
    refine Eq.symm (aao.trans ?_)
    rw[h,beq_false_of_ne e]
  ·rw[beq_false_of_ne h,if_neg abV,aao,aao]
   by_cases e:x=p.1
   ·rw[e,beq_self_eq_true,if_neg h]
   ·rw[beq_false_of_ne e];exact ih
theorem eE.put{l:Ev}{m:M}(h:eE l m)(x:Str)(v:V):eE (putK x v l) (bV m x v):=λy w q=>by
 rw[BB] at q
 unfold bV
 by_cases e:y=x
 ·rw[if_pos e] at q ⊢;exact q
 ·rw[if_neg e] at q ⊢;exact h y w q
theorem Gn.put{F:aV}{m:M}(h:Gn F m){x:Str}(v:V)(hx:F.sc.lookup x≠some .globalImplicit):Gn F (bV m x v):=λy q=>(if_neg (λe:y=x=>hx (e▸q))).trans (h y q)
theorem GS{q:Ev}: ∀{l r:Ev},zM q l=some r-> ∀x v,r.lookup x=some v->l.lookup x=some v:=by
 induction q with
 | nil=>intro l r h x v hx;cases h;cases hx
 | cons p q ih=>
  intro l r h x v hx
  refine nD (o:=l.lookup p.1) h λw h1 h=>nD h λr' h2 h=> ?_
  cases h
  rw[aao] at hx
  by_cases e:x=p.1
  ·subst e;rw[beq_self_eq_true] at hx;cases hx;exact h1
  ·rw[beq_false_of_ne e] at hx;exact ih h2 x v hx
def b9(Q:List Qn):Prop:= ∀q∈Q,q.holds
theorem gS{q:Qn}{r:Rn}{x:X}{Q:List Qn}{G:Prop}(h:ask q r=some (x,Q))(H:b9 Q)(k: ∀Q',r=some (x,Q')->b9 Q'->q.holds->G):G:=
 nD h λp h1 h=>by
  obtain⟨y,Q'⟩:=p
  cases h
  exact k Q' h1 (λz hz=>H z (aai _ hz)) (H q aak)
def mT{α:Type}(F:aV)(x:X)(k:α->List AO->List Fc->Rn)(c:α->List AO->RS):Prop:= ∀{a st fs Q},k a st fs=some (x,Q)->b9 Q->Out F (c a st) x
def zX(F:aV)(x:X)(k:Fl->Ev->List AO->List Fc->Rn)(c:Fl->M->List AO->RS):Prop:= ∀{fl l st fs Q m},k fl l st fs=some (x,Q)->b9 Q->eE l m->Gn F m->Out F (c fl m st) x
section
variable{F:aV}{x:X}{m:M}{Q:List Qn}
theorem aH{α β:Type}{r:RE α}{f:α->List AO->RE β}{c:β->List AO->RS}(h:Out F (r.b7 m λa st=>(f a st).b7 m c) x):Out F ((r.bind f).b7 m c) x:=by
 cases r with
 | none=>exact h
 | some p=>obtain⟨a,st⟩:=p;cases a<;>exact h
section
variable{α:Type}{p:RE α}{fs:List Fc}{k:α->List AO->List Fc->Rn}{c:α->List AO->RS}
theorem jl{a:Except Ex α}{st:List AO}(h:Tz a st fs k=some (x,Q))(H:b9 Q)(K:mT F x k c)(hp:p=some (a,st)):Out F (p.b7 m c) x:=by
 rw[hp]
 cases a with
 | ok a=>exact K h H
 | error e=>cases h;exact⟨m,rfl⟩
theorem gM(h:C0 p fs k=some (x,Q))(H:b9 Q)(K:mT F x k c):Out F (p.b7 m c) x:=nD h λa h1 h=>jl h H K h1
end
section
variable{t:Nat}{q:Qn}{st:List AO}{fs:List Fc}
theorem HP{p:List AO->RE V}{k:V->List AO->List Fc->Rn}{c:V->List AO->RS}(h:RF q p st fs k=some (x,Q))(H:b9 Q)(K:mT F x k c):Out F ((p st).b7 m c) x:=by
 cases q with
 | no=>exact gS h H λQ' h H _=>gM h H K
 | v p' a st'=>exact gS h H λQ' h H hp=>jl h H K hp
 | vf p' a=>exact gS h H λQ' h H hp=>jl (a:= .ok a) h H K (hp st)
 | _=>exact aY h
theorem fX{p:List AO->RE V}{k:V->List AO->List Fc->Rn}{c:V->List AO->RS}(h:CE t p st fs k=some (x,Q))(H:b9 Q)(K:mT F x k c):Out F ((p st).b7 m c) x:=
 su h (λf _ h=>HP h H K) λ_ h=>gM h H K
theorem HO{p:List AO->RE Bool}{k:Bool->List AO->List Fc->Rn}{c:Bool->List AO->RS}(h:RD q p st fs k=some (x,Q))(H:b9 Q)(K:mT F x k c):Out F ((p st).b7 m c) x:=by
 cases q with
 | no=>exact gS h H λQ' h H _=>gM h H K
 | b p' a st'=>exact gS h H λQ' h H hp=>jl (a:= .ok a) h H K hp
 | bf p' a=>exact gS h H λQ' h H hp=>jl (a:= .ok a) h H K (hp st)
 | _=>exact aY h
theorem CB{p:List AO->RE Bool}{k:Bool->List AO->List Fc->Rn}{c:Bool->List AO->RS}(h:ZT t p st fs k=some (x,Q))(H:b9 Q)(K:mT F x k c):Out F ((p st).b7 m c) x:=
 su h (λf _ h=>HO h H K) λ_ h=>gM h H K
theorem CC{p:Option Pre}{k:Pre->List Fc->Rn}{c:Pre->RE V}{d:V->List AO->RS}(h:Ji p fs k=some (x,Q))(H:b9 Q)(K: ∀{a fs Q},k a fs=some (x,Q)->b9 Q->Out F ((c a).b7 m d) x):Out F (RE.b7 (oK p c) m d) x:=by
 have run: ∀{fs Q},(oK p λa=>k a fs)=some (x,Q)->b9 Q->Out F (RE.b7 (oK p c) m d) x:=λ{fs Q} h H=>nD h λa h1 h=>by rw[h1];exact K h H
 refine su h (λf _ h=> ?_) λ_ h=>run h H
 obtain⟨q,gs⟩:=f
 cases q with
 | no=>exact gS h H λQ' h H _=>run h H
 | pr p' a=>exact gS h H λQ' h H hp=>by rw[show p=some a from hp];exact K h H
 | _=>exact aY h
theorem CD{p:Option (List AO)}{k:List AO->List Fc->Rn}{c:List AO->RS}(h:ZU t p fs k=some (x,Q))(H:b9 Q)(K: ∀{st fs Q},k st fs=some (x,Q)->b9 Q->Out F (c st) x):Out F (oK p c) x:=by
 have run: ∀{fs Q},(oK p λa=>k a fs)=some (x,Q)->b9 Q->Out F (oK p c) x:=λ{fs Q} h H=>nD h λa h1 h=>by rw[h1];exact K h H
 refine su h (λf _ h=> ?_) λ_ h=>run h H
 obtain⟨q,gs⟩:=f
 cases q with
 | no=>exact gS h H λQ' h H _=>run h H
 | s p' a=>exact gS h H λQ' h H hp=>by rw[show p=some a from hp];exact K h H
 | _=>exact aY h
noncomputable def RS.go(r:RS)(c:Fl->M->List AO->RS):RS:=oK r λp=>match p.1 with
 | .ok fl=>c fl p.2.1 p.2.2
 | .error e=>some (.error e,p.2.1,p.2.2)
theorem eE.zM{q l r:Ev}{m:M}(hA:eE l m)(h:zM q l=some r):eE r m:=λy v hy=>hA y v (GS h y v hy)
theorem vh{run:Nat->M->RS}{n j:Nat}{l:Ev}{k:Fl->Ev->List AO->List Fc->Rn}{c:Fl->M->List AO->RS}(h:SG F run n l fs k=some (x,Q))(H:b9 Q)(hA:eE l m)(hG:Gn F m)(hn:n<=j)(K:zX F x k c):Out F ((run j m).go c) x:=
 nD h λf _ h=>nD h λq _ h=>Al h (λhb h=>nD h λl' h1 h=>gS h H λQ' h H hp=>by
  obtain⟨N,q,y⟩:=q
  have hp:Out F (run j m) y:=hp j (aaD (aam hb) hn) m (hA.zM h1) hG
  cases y with
  | go fl l2 st=>
   refine eI hp λm' e hA hG=> ?_
   rw[e]
   exact K h H hA hG
  | er e st=>
   refine aj hp λm' e=> ?_
   rw[e]
   cases h
   exact⟨m',rfl⟩) λ_ h=>aY h
theorem Mg{run:Nat->M->RE V}{n j:Nat}{l:Ev}{k:V->List AO->List Fc->Rn}{c:V->List AO->RS}(h:opG F run n l fs k=some (x,Q))(H:b9 Q)(hA:eE l m)(hG:Gn F m)(hn:n<=j)(K:mT F x k c):Out F ((run j m).b7 m c) x:=
 nD h λf _ h=>nD h λq _ h=>Al h (λhb h=>nD h λl' h1 h=>gS h H λQ' h H hp=>
  jl (a:= .ok _) h H K (hp j (aaD (aam hb) hn) m (hA.zM h1) hG)) λ_ h=>aY h
end
variable{T:Tb}{cl:Addr->List V->List AO->RE V}{l:Ev}{st:List AO}{fs:List Fc}{mu:Bool}
variable(T cl)
structure NV(n:Nat):Prop where
 e: ∀{j:Nat} {F:aV} {mu:Bool} {l:Ev} {m:M} {st:List AO} {e:Expr} {fs:List Fc} {k c} {x:X} {Q:List Qn},(kP T cl n).e F mu l st e fs k=some (x,Q)->b9 Q->eE l m->Gn F m->mT F x k c->Out F (((dY T cl (j+n)).e F mu m st e).b7 m c) x
 o: ∀{j:Nat} {F:aV} {l:Ev} {m:M} {st:List AO} {e:Option Expr} {fs:List Fc} {k c} {x:X} {Q:List Qn},(kP T cl n).o F l st e fs k=some (x,Q)->b9 Q->eE l m->Gn F m->mT F x k c->Out F (((dY T cl (j+n)).o F m st e).b7 m c) x
 es: ∀{j:Nat} {F:aV} {l:Ev} {m:M} {st:List AO} {e:List Expr} {fs:List Fc} {k c} {x:X} {Q:List Qn},(kP T cl n).es F l st e fs k=some (x,Q)->b9 Q->eE l m->Gn F m->mT F x k c->Out F (((dY T cl (j+n)).es F m st e).b7 m c) x
 j: ∀{j:Nat} {F:aV} {l:Ev} {m:M} {st:List AO} {e:List Expr} {y:Str} {fs:List Fc} {k c} {x:X} {Q:List Qn},(kP T cl n).j F l st e y fs k=some (x,Q)->b9 Q->eE l m->Gn F m->mT F x k c->Out F (((dY T cl (j+n)).j F m st e y).b7 m c) x
 b: ∀{j:Nat} {F:aV} {l:Ev} {m:M} {st:List AO} {op:BoolOp} {e:List Expr} {fs:List Fc} {k c} {x:X} {Q:List Qn},(kP T cl n).b F l st op e fs k=some (x,Q)->b9 Q->eE l m->Gn F m->mT F x k c->Out F (((dY T cl (j+n)).b F m st op e).b7 m c) x
 t: ∀{j:Nat} {F:aV} {l:Ev} {m:M} {st:List AO} {e:Expr} {fs:List Fc} {k c} {x:X} {Q:List Qn},(kP T cl n).t F l st e fs k=some (x,Q)->b9 Q->eE l m->Gn F m->mT F x k c->Out F (((dY T cl (j+n)).t F m st e).b7 m c) x
 a: ∀{j:Nat} {F:aV} {l:Ev} {m:M} {st:List AO} {op:BoolOp} {e:List Expr} {fs:List Fc} {k c} {x:X} {Q:List Qn},(kP T cl n).a F l st op e fs k=some (x,Q)->b9 Q->eE l m->Gn F m->mT F x k c->Out F (((dY T cl (j+n)).a F m st op e).b7 m c) x
variable{T cl}
theorem Mi{α:Type}{c:Prop}[d:Decidable c]{r:RE α}{f:α->List AO->RS}(hc: ¬c)(h:Out F (r.b7 m f) x):Out F ((if c then none else r:RE α).b7 m f) x:=by rw[if_neg hc];exact h
theorem xA{α:Type}{c:Prop}[d:Decidable c]{r:RE α}{f:α->List AO->RS}(hc:c)(h:Out F (r.b7 m f) x):Out F ((if c then r else none:RE α).b7 m f) x:=by rw[if_pos hc];exact h
theorem PU{y:Str}{k c}(h:Z1 T F l y st fs k=some (x,Q))(H:b9 Q)(hA:eE l m)(hG:Gn F m)(K:mT F x k c):Out F ((Je T F m y st).b7 m c) x:=by
 have loc:(oK (l.lookup y) λv=>k v st fs)=some (x,Q)->Out F ((Je T F m y st).b7 m c) x:=λh=>nD h λw h1 h=>jl (a:= .ok w) h H K (by unfold Je;rw[hA y w h1])
 unfold Z1 at h
 cases hs:F.sc.lookup y with
 | none=>rw[hs] at h;exact loc h
 | some kd=>
  rw[hs] at h
  cases kd with
  | globalImplicit=>
   have e:Je T F m y st=OD T y st:=by unfold Je;rw[hG y hs,hs]
   rw[e]
   exact gM h H K
  | _=>exact loc h
theorem KH{y:Str}{v:Value}(hG:Gn F m)(h:Z0 T F y=some v):Nk T F m y=some v:=by
 unfold Z0 at h
 cases hs:F.sc.lookup y with
 | none=>rw[hs] at h;exact aY h
 | some kd=>
  rw[hs] at h
  cases kd with
  | globalImplicit=>unfold Nk;rw[hG y hs,hs];exact h
  | _=>exact aY h
section
variable{n j:Nat}(I:NV T cl n)
include I
theorem Rg{w:EV}{k c}(h:reE T cl (kP T cl n) F l st fs mu k w=some (x,Q))(H:b9 Q)(hA:eE l m)(hG:Gn F m)(K:mT F x k c):Out F ((Fq T cl (dY T cl (j+n)) F m mu st w).b7 m c) x:=by
 cases w with
 | name y=>exact PU h H hA hG K
 | cst v=>exact K h H
 | bools op es=>exact I.b h H hA hG K
 | bin op a b=>exact aH (I.e h H hA hG λh H=>aH (I.e h H hA hG λh H=>fX h H K))
 | un op a=>exact aH (I.e h H hA hG λh H=>fX h H K)
 | ite t b o=>exact aH (I.t h H hA hG λh H=>I.e h H hA hG K)
 | dict ps=>exact K h H
 | cmp op a b=>exact aH (I.e h H hA hG λh H=>aH (I.e h H hA hG λh H=>aH (CB h H λh H=>K h H)))
 | iU o name as=>exact aH (I.e h H hA hG λh H=>CC h H λh H=>aH (I.es h H hA hG λh H=>fX h H K))
 | call y as=>
  refine nD h λv h1 h=> ?_
  refine(?_:Out F (RE.b7 (oK (Nk T F m y) λv=>((dY T cl (j+n)).es F m st as).bind λxs st=>gf T cl mu v xs st) m c) x)
  rw[KH hG h1]
  exact aH (I.es h H hA hG λh H=>fX h H K)
 | jM e=>exact I.e h H hA hG K
 | jN es=>exact I.j h H hA hG K
 | fmt e=>exact aH (I.e h H hA hG λh H=>fX h H K)
 | attr e name=>exact aH (I.e h H hA hG λh H=>fX h H K)
 | item e i=>exact aH (I.e h H hA hG λh H=>aH (I.e h H hA hG λh H=>fX h H K))
 | slice e lo hi=>exact aH (I.e h H hA hG λh H=>aH (I.o h H hA hG λh H=>aH (I.o h H hA hG λh H=>fX h H K)))
 | list es=>exact aH (I.es h H hA hG λh H=>fX h H K)
 | tuple es=>exact aH (I.es h H hA hG λh H=>gM h H K)
 | comp _ _ _ _ _=>exact aY h
 | no=>exact aY h
theorem Q9{e:Option Expr}{k c}(h:reO (kP T cl n) F l st fs k e=some (x,Q))(H:b9 Q)(hA:eE l m)(hG:Gn F m)(K:mT F x k c):Out F ((exO (dY T cl (j+n)) F m st e).b7 m c) x:=by
 cases e with
 | none=>exact K h H
 | some e=>exact aH (I.e h H hA hG λh H=>gM h H K)
theorem Ms{es:List Expr}{k c}(h:Rj (kP T cl n) F l st fs k es=some (x,Q))(H:b9 Q)(hA:eE l m)(hG:Gn F m)(K:mT F x k c):Out F ((Oo (dY T cl (j+n)) F m st es).b7 m c) x:=by
 cases es with
 | nil=>exact K h H
 | cons e es=>exact unk h λhd h=>Mi hd (aH (I.e h H hA hG λh H=>aH (I.es h H hA hG λh H=>K h H)))
theorem Q8{es:List Expr}{y:Str}{k c}(h:reJ (kP T cl n) F l st fs y k es=some (x,Q))(H:b9 Q)(hA:eE l m)(hG:Gn F m)(K:mT F x k c):Out F ((exJ (dY T cl (j+n)) F m st y es).b7 m c) x:=by
 cases es with
 | nil=>exact Pp h λhl h=>xA hl (K h H)
 | cons e es=>
  refine aH (I.e h H hA hG λ{v st' fs' Q'} h H=> ?_)
  cases v with
  | str z=>exact Pp h λhl h=>xA hl (I.j h H hA hG K)
  | _=>exact aY h
theorem Q7{op:BoolOp}{es:List Expr}{k c}(h:reB (kP T cl n) F l st fs op k es=some (x,Q))(H:b9 Q)(hA:eE l m)(hG:Gn F m)(K:mT F x k c):Out F ((exB (dY T cl (j+n)) F m st op es).b7 m c) x:=by
 cases es with
 | nil=>exact aY h
 | cons e es=>
  cases es with
  | nil=>exact I.e h H hA hG K
  | cons e' es=>
   refine aH (I.e h H hA hG λh H=>aH (gM h H λ{b st2 fs2 Q2} h H=> ?_))
   generalize fD op b=s at h ⊢
   cases s with
   | true=>exact K h H
   | false=>exact I.b h H hA hG K
theorem Rc{e:Expr}{w:EV}{k c}(h:reT (kP T cl n) F l st fs e k w=some (x,Q))(H:b9 Q)(hA:eE l m)(hG:Gn F m)(K:mT F x k c):Out F ((RT (dY T cl (j+n)) F m st e w).b7 m c) x:=by
 have gen:((kP T cl n).e F false l st e fs λy st fs=>C0 (k9 y st) fs k)=some (x,Q)->Out F (RE.b7 (((dY T cl (j+n)).e F false m st e).bind k9) m c) x:=λh=>aH (I.e h H hA hG λh H=>gM h H K)
 cases w with
 | un op y=>
  cases op with
  | Not=>exact aH (I.t h H hA hG λh H=>K h H)
  | _=>exact aY h
 | bools op es=>exact I.a h H hA hG K
 | cmp op a b=>exact aH (I.e h H hA hG λh H=>aH (I.e h H hA hG λh H=>CB h H K))
 | ite _ _ _=>exact aY h
 | no=>exact aY h
 | _=>exact gen h
theorem Q6{op:BoolOp}{es:List Expr}{k c}(h:reA (kP T cl n) F l st fs op k es=some (x,Q))(H:b9 Q)(hA:eE l m)(hG:Gn F m)(K:mT F x k c):Out F ((exA (dY T cl (j+n)) F m st op es).b7 m c) x:=by
 cases es with
 | nil=>exact K h H
 | cons e es=>
  refine aH (I.t h H hA hG λ{b st2 fs2 Q2} h H=> ?_)
  generalize fD op b=s at h ⊢
  cases s with
  | true=>exact K h H
  | false=>exact I.a h H hA hG K
end
theorem MF: ∀n,NV T cl n:=by
 intro n
 induction n with
 | zero=>exact⟨(λh=>aY h),(λh=>aY h),(λh=>aY h),(λh=>aY h),(λh=>aY h),(λh=>aY h),(λh=>aY h)⟩
 | succ n I=>exact⟨λh H hA hG K=>Al h (λ_ h=>Mg h H hA hG (aaI _ _) K) λ_ h=>Rg I h H hA hG K,Q9 I,Ms I,Q8 I,Q7 I,Rc I,Q6 I⟩
end
end Mine
namespace Mine
section
variable{F:aV}{x:X}{m:M}{Q:List Qn}{T:Tb}{cl:Addr->List V->List AO->RE V}{l:Ev}{st:List AO}{fs:List Fc}
theorem fk{α:Type}{r:RE α}{f:α->List AO->RS}{c:Fl->M->List AO->RS}(h:Out F (r.b7 m λa st=>(f a st).go c) x):Out F ((r.b7 m f).go c) x:=by
 cases r with
 | none=>exact h
 | some p=>obtain⟨a,st⟩:=p;cases a<;>exact h
noncomputable def sqK(c:Fl->M->List AO->RS)(f:M->List AO->RS)(fl:Fl)(m:M)(st:List AO):RS:=match fl with
 | .next=>(f m st).go c
 | fl=>c fl m st
theorem Rt{r:RS}{f:M->List AO->RS}{c:Fl->M->List AO->RS}(h:Out F (r.go (sqK c f)) x):Out F ((r.sq f).go c) x:=by
 cases r with
 | none=>exact h
 | some p=>
  obtain⟨a,m,st⟩:=p
  cases a with
  | error e=>exact h
  | ok fl=>cases fl<;>exact h
theorem qm{y:Str}{v:V}{l':Ev}{G:Prop}(h:zk F l y v=some l')(hA:eE l m)(hG:Gn F m)(k: ∀m',putN F m y v=some m'->eE l' m'->Gn F m'->G):G:=by
 have put:F.sc.lookup y≠some .globalImplicit->some (putK y v l)=some l'->putN F m y v=some (bV m y v)->G:=λhn h e=>by
  cases h
  exact k _ e (hA.put y v) (hG.put v hn)
 unfold zk at h
 unfold putN at put
 cases hs:F.sc.lookup y with
 | none=>rw[hs] at h;exact aY h
 | some kd=>
  rw[hs] at h put
  cases kd with
  | «local»=>exact put (by decide) h rfl
  | cell=>exact Pp h λht h=>put (by decide) h (if_pos ht)
  | _=>exact aY h
theorem G5{ts:List Expr}{G:Prop}: ∀{vs:List V} {l l':Ev} {m:M},CR F l ts vs=some l'->eE l m->Gn F m->(∀m',jW F m ts vs=some m'->eE l' m'->Gn F m'->G)->G:=by
 induction ts with
 | nil=>
  intro vs l l' m h hA hG k
  cases vs with
  | nil=>cases h;exact k m rfl hA hG
  | cons _ _=>exact aY h
 | cons t ts ih=>
  intro vs l l' m h hA hG k
  cases vs with
  | nil=>exact aY h
  | cons v vs=>exact nD h λy h1 h=>nD h λl1 h2 h=>qm h2 hA hG λm1 e1 hA hG=>ih h hA hG λm2 e2 hA hG=>k m2 (by
    refine(?_:(oK (gv t) λx=>oK (putN F m x v) λm=>jW F m ts vs)=_)
    rw[h1]
    refine(?_:(oK (putN F m y v) λm=>jW F m ts vs)=_)
    rw[e1];exact e2) hA hG
noncomputable def Q5(F:aV)(m:M)(ts:List Expr)(v:V):Option M:=match v with
 | .tup vs=>if vs.length<=100 then jW F m ts vs else none
 | _=>none
theorem CV{ts:List Expr}{v:V}{l':Ev}{G:Prop}(h:Mu F l ts v=some l')(hA:eE l m)(hG:Gn F m)(k: ∀m',Q5 F m ts v=some m'->eE l' m'->Gn F m'->G):G:=by
 cases v with
 | tup vs=>exact Pp h λhl h=>G5 h hA hG λm' e=>k m' ((if_pos hl).trans e)
 | _=>exact aY h
theorem CU{t:Expr}{v:V}{l':Ev}{G:Prop}(h:CT F l t v=some l')(hA:eE l m)(hG:Gn F m)(k: ∀m',sP F m t v=some m'->eE l' m'->Gn F m'->G):G:=
 su h (λy hy h=>qm h hA hG λm' e=>k m' (by unfold sP;rw[hy];exact e)) λhn h=>nD h λts h1 h=>CV h hA hG λm' e=>k m' (by unfold sP;rw[hn,h1];exact e)
variable(T cl)
structure Ik(n:Nat):Prop where
 s: ∀{j:Nat} {F:aV} {l:Ev} {m:M} {st:List AO} {e:Stmt} {fs:List Fc} {k c} {x:X} {Q:List Qn},(ME T cl n).s F l st e fs k=some (x,Q)->b9 Q->eE l m->Gn F m->zX F x k c->Out F (((mW T cl (j+n)).s F m st e).go c) x
 ss: ∀{j:Nat} {F:aV} {l:Ev} {m:M} {st:List AO} {e:List Stmt} {fs:List Fc} {k c} {x:X} {Q:List Qn},(ME T cl n).ss F l st e fs k=some (x,Q)->b9 Q->eE l m->Gn F m->zX F x k c->Out F (((mW T cl (j+n)).ss F m st e).go c) x
variable{T cl}
theorem Cv{o:Option M}{c:Fl->M->List AO->RS}{m':M}(h:o=some m')(k:Out F (c .next m' st) x):Out F ((Cu o st).go c) x:=by rw[h];exact k
theorem Ct{o:Option (List AO)}{c:Fl->M->List AO->RS}(h:Out F (oK o λst=>c .next m st) x):Out F ((Sy o m).go c) x:=by cases o<;>exact h
section
variable{n j:Nat}{k:Fl->Ev->List AO->List Fc->Rn}{c:Fl->M->List AO->RS}(I:Ik T cl n)
include I
theorem Ra{w:SV}(h:reS T cl (kP T cl n) (ME T cl n) n F l st fs k w=some (x,Q))(H:b9 Q)(hA:eE l m)(hG:Gn F m)(K:zX F x k c):Out F ((Nd T (dY T cl (j+n)) (mW T cl (j+n)) F m st w).go c) x:=by
 have J:=MF (T:=T) (cl:=cl) n
 cases w with
 | expr e=>exact fk (J.e h H hA hG λh H=>K h H hA hG)
 | ret e=>
  cases e with
  | none=>exact K h H hA hG
  | some e=>exact fk (J.e h H hA hG λh H=>K h H hA hG)
 | ite t b o=>exact fk (J.t h H hA hG λh H=>I.ss h H hA hG K)
 | Ea y e=>exact fk (J.e h H hA hG λh H=>nD h λl1 h1 h=>qm h1 hA hG λm1 e1 hA hG=>Cv e1 (K h H hA hG))
 | Kc o name e=>exact fk (J.e h H hA hG λh H=>fk (J.e h H hA hG λh H=>Ct (CD h H λh H=>K h H hA hG)))
 | Ke o i e=>exact fk (J.e h H hA hG λh H=>fk (J.e h H hA hG λh H=>fk (J.e h H hA hG λh H=>Ct (CD h H λh H=>K h H hA hG))))
 | Kf ts e=>exact fk (J.e h H hA hG λ{v _ _ _} h H=>nD h λl1 h1 h=>CV h1 hA hG λm1 e1 hA hG=>Cv (o:=Q5 F m ts v) e1 (K h H hA hG))
 | «for» t e b=>exact fk (J.e h H hA hG λh H=>vh h H hA hG (aaI _ _) K)
 | «while» t b=>exact vh (run:=λj m=>bq T cl j F t b m st) h H hA hG (aaI _ _) K
 | «try» _ _ _ _=>exact aY h
 | no=>exact aY h
theorem Mt{e:List Stmt}(h:Rk (ME T cl n) F l st fs k e=some (x,Q))(H:b9 Q)(hA:eE l m)(hG:Gn F m)(K:zX F x k c):Out F ((Oq (mW T cl (j+n)) F m st e).go c) x:=by
 cases e with
 | nil=>exact K h H hA hG
 | cons s ss=>
  refine Rt (I.s h H hA hG λ{fl l' st' fs' Q' m'} h H hA hG=> ?_)
  cases fl with
  | next=>exact I.ss h H hA hG K
  | _=>exact K h H hA hG
end
theorem Jl: ∀n,Ik T cl n:=by
 intro n
 induction n with
 | zero=>exact⟨(λh=>aY h),(λh=>aY h)⟩
 | succ n I=>exact⟨λh H hA hG K=>Al h (λ_ h=>vh h H hA hG (aaI _ _) K) λ_ h=>Ra I h H hA hG K,Mt I⟩
theorem tG{y:Str}{ps:List Str}: ∀{xs:List V},y∉ps->(ps.zip xs).lookup y=none:=by
 induction ps with
 | nil=>exact λ_=>rfl
 | cons p ps ih=>
  intro xs h
  cases xs with
  | nil=>rfl
  | cons x xs=>
   rw[acF,aao,beq_false_of_ne (λe=>h (by rw[e];exact aak))]
   exact ih λq=>h (aai _ q)
noncomputable def Ks(x:X):RE V:=match x with
 | .go fl _ st=>match fl with
  | .ret v=>ok v st
  | _=>none
 | .er e st=>some (.error e,st)
noncomputable def wy(z:RS):RE V:=oK z λp=>match p.1 with
 | .ok fl=>match fl with
  | .ret v=>ok v p.2.2
  | _=>none
 | .error e=>some (.error e,p.2.2)
theorem GP{z:RS}(o:Out F z x):wy z=Ks x:=by
 cases x with
 | go fl l st=>exact eI o λm e _ _=>congrArg wy e
 | er e st=>exact aj o λm e=>congrArg wy e
theorem Hc{r:RE V}:wy (r.b7 m λv st=>k8 (.ret v) m st)=r:=by
 cases r with
 | none=>rfl
 | some p=>obtain⟨a,st⟩:=p;cases a<;>rfl
theorem Fy{z:RS}{w:Fl->List AO->RE V}(o:Out F (z.go λfl m st'=>(w fl st').b7 m λv st=>k8 (.ret v) m st) x):Oi w z=Ks x:=by
 rw[<-GP o]
 cases z with
 | none=>rfl
 | some p=>
  obtain⟨a,m,st⟩:=p
  cases a with
  | ok fl=>exact Hc.symm
  | error e=>rfl
theorem ran{prim:Addr->Option (List V->List AO->RE V)}{a:Addr}{xs:List V}(h:Hg T cl prim a xs st fs=some (x,Q))(H:b9 Q):lO T prim cl a xs st=Ks x:=by
 unfold Hg at h
 unfold lO
 cases hp:prim a with
 | some _=>rw[hp] at h;exact aY h
 | none=>
  rw[hp] at h
  refine nD h λfi hf h=>Pp h λhl h=>Al h (λhs h=> ?_) λ_ h=>aY h
  rw[hf]
  refine(if_pos hl).trans ?_
  have hG:Gn ⟨fi.sc,true,fi.ky,fi.hM⟩ (bindM fi.ps (xs++fi.dx.drop (xs.length+fi.dx.length- fi.ps.length))):=λy hy=>tG λhm=>of_decide_eq_true (abt.mp hs y hm) hy
  refine Fy (F:=⟨fi.sc,true,fi.ky,fi.hM⟩) ?_
  have e0:mW T (cl) fuel=mW T (cl) (0+fuel):=by rw[Nat.zero_add]
  refine(?_:Out _ (((mW T (cl) fuel).ss _ _ _ _).go _) x)
  rw[e0]
  refine((Jl (T:=T) (cl:=cl) fuel).ss (j:=0) h H (λy v hy=>hy) hG λ{fl l' st' fs' Q' m'} h H hA hG=>fX (p:=leave fi st fl) h H λ{a s1 KQ Q1} h H=> ?_)
  cases KQ with
  | nil=>cases h;exact⟨_,rfl,(λy v q=>aY q),hG⟩
  | cons _ _=>exact aY h
end
end Mine
namespace Mine
noncomputable abbrev CI(k:Nat):=gU TT g6 k
noncomputable abbrev q(x:String):Str:=aab x
noncomputable abbrev qs(x:String):V:= .str (aab x)
section
variable{r:RE V}{b:RE Bool}{v:V}{c:Bool}{x:Ex}{st:List AO}
noncomputable def fV(t:Nat)(h:r=some (.ok v,st)):Fc:=⟨t,.v r (.ok v) st,h⟩
noncomputable def fU(n:Nat){m:Nat}{a:Addr}{xs:List V}{s:List AO}(h:CI m a xs s=some (.ok v,st))(e:m=n):Fc:=⟨0,.v (CI n a xs s) (.ok v) st,e▸h⟩
noncomputable def fE(h:r=some (.error x,st)):Fc:=⟨0,.v r (.error x) st,h⟩
noncomputable def fF(t:Nat){p:List AO->RE V}(h: ∀st,p st=some (.ok v,st)):Fc:=⟨t,.vf p v,h⟩
noncomputable def fB(h:b=some (.ok c,st)):Fc:=⟨3,.b b c st,h⟩
noncomputable def fb{p:List AO->RE Bool}(h: ∀st,p st=some (.ok c,st)):Fc:=⟨3,.bf p c,h⟩
noncomputable def fS(t:Nat){p:Option (List AO)}(h:p=some st):Fc:=⟨t,.s p st,h⟩
noncomputable def fP{p:Option Pre}{a:Pre}(h:p=some a):Fc:=⟨13,.pr p a,h⟩
noncomputable def no(t:Nat):Fc:=⟨t,.no,trivial⟩
noncomputable def fR{F run N l y}(h:bl F run N l y):Fc:=⟨21,.r F run N l y,h⟩
noncomputable def fG{F run N l v st}(h:Gives F run N l v st):Fc:=⟨22,.c F run N l v st,h⟩
end
noncomputable def f7(fs:List Fc):List Qn:=fs.map Fc.q
theorem iu(fs:List Fc):b9 (f7 fs):=λy hy=>by
 obtain⟨f,_,rfl⟩:=aaH.mp hy
 exact f.h
section
variable{j:Nat}{a:Addr}{xs:List V}{st st':List AO}{v:V}{x:Ex}
theorem ay(fs:List Fc)(h:Hg TT (CI j) g6 a xs st fs=some (.go (.ret v) [] st',f7 fs)):CI (j+1) a xs st=ok v st':=ran h (iu fs)
theorem gL(fs:List Fc)(h:Hg TT (CI j) g6 a xs st fs=some (.er x st',f7 fs)):CI (j+1) a xs st=some (.error x,st'):=ran h (iu fs)
end
end Mine
namespace Mine
section
variable{F:aV}{m:M}{cl:Addr->List V->List AO->RE V}{l l2:Ev}{st st1 st2:List AO}{j n N K:Nat}{Q:List Qn}{x:X}{t e:Expr}{b:List Stmt}{v:V}{fs gs:List Fc}
theorem xy{α:Type}{r:RE α}{w:α->V}(hw: ∀a b,w a=w b->a=b){a:α}(o:Out F (r.b7 m λa st=>k8 (.ret (w a)) m st) (.go (.ret (w a)) [] st1)):r=ok a st1:=by
 refine eI o λm' e _ _=> ?_
 cases r with
 | none=>exact aY e
 | some p=>
  obtain⟨c,s⟩:=p
  cases c with
  | error _=>cases e
  | ok c=>
   have e1:=congrArg (λr:RS=>oK r λp=>match p.1 with
    | .ok (.ret v)=>some (v,p.2.2)
    | _=>none) e
   have e2:=aaj e1
   rw[hw _ _ (congrArg Prod.fst e2),show s=st1 from congrArg Prod.snd e2]
theorem vq{c:Bool}(h:rT TT cl K F l st t fs kY=some (.go (.ret (.bool c)) [] st1,f7 fs))(hA:eE l m)(hG:Gn F m):wB TT cl (j+K) F m st t=ok c st1:=
 xy (w:=V.bool) (λa b e=>V.bool.inj e) ((MF (T:=TT) (cl:=cl) K).t (c:=λb st=>k8 (.ret (.bool b)) m st) h (iu fs) hA hG λ{a s1 KQ Q1} h H=>by
  cases KQ with
  | nil=>cases h;exact⟨m,rfl,(λy v q=>aY q),hG⟩
  | cons _ _=>exact aY h)
theorem mF{mu:Bool}(h:rE TT cl K F mu l st e fs ik=some (.go (.ret v) [] st1,f7 fs))(hA:eE l m)(hG:Gn F m):bH TT cl (j+K) F mu m st e=ok v st1:=
 xy (w:=id) (λa b e=>e) ((MF (T:=TT) (cl:=cl) K).e (c:=λb st=>k8 (.ret b) m st) h (iu fs) hA hG λ{a s1 KQ Q1} h H=>by
  cases KQ with
  | nil=>cases h;exact⟨m,rfl,(λy v q=>aY q),hG⟩
  | cons _ _=>exact aY h)
theorem KY{z:RS}:z.go (λfl m st=>k8 fl m st)=z:=by
 cases z with
 | none=>rfl
 | some p=>obtain⟨a,m,s⟩:=p;cases a<;>rfl
theorem fC{q:Ev}(h:tS TT cl K F l st b fs (fin q)=some (x,f7 fs))(hA:eE l m)(hG:Gn F m):Out F (aT TT cl (j+K) F m st b) x:=by
 have o:=(Jl (T:=TT) (cl:=cl) K).ss (j:=j) (c:=λfl m st=>k8 fl m st) h (iu fs) hA hG λ{fl l' st' KQ Q1 m'} h H hA hG=>by
  cases KQ with
  | nil=>exact nD h λl2 h1 h=>(by cases h;exact⟨m',rfl,hA.zM h1,hG⟩)
  | cons _ _=>exact aY h
 rwa [KY] at o
theorem bl.le{run:Nat->M->RS}{N':Nat}(h:bl F run N l x)(hn:N<=N'):bl F run N' l x:=λn h1=>h n (aaD hn h1)
theorem md{P:Nat->Prop}(h: ∀j,P (j+K+1)){n:Nat}(hn:K+1<=n):P n:=by
 obtain⟨j,rfl⟩:=abv hn
 exact h j
theorem kj{run:Nat->M->RS}(h: ∀j m,eE l m->Gn F m->Out F (run (j+K+1) m) x):bl F run (K+1) l x:=λn hn m hA hG=>md (P:=λn=>Out F (run n m) x) (λj=>h j m hA hG) hn
theorem B4{r:RS}{k:M->List AO->RS}(o:Out F r (.go .next l2 st2))(h: ∀m,eE l2 m->Gn F m->Out F (k m st2) x):Out F (qJ r k) x:=eI o λm e hA hG=>by rw[e];exact h m hA hG
theorem mM(fs:List Fc)(h:rT TT cl K F l st t fs kY=some (.go (.ret (.bool false)) [] st1,f7 fs)):bl F (λj m=>bq TT cl j F t b m st) (K+1) l (.go .next l st1):=kj λj m hA hG=>
 ⟨m,congrArg (λr:RE Bool=>r.b7 m λc st=>bif c then qJ (aT TT cl (j+K) F m st b) λm st=>bq TT cl (j+K) F t b m st else k8 .next m st) (vq h hA hG),hA,hG⟩
theorem tE(h:rT TT cl K F l st t fs kY=some (.go (.ret (.bool true)) [] st1,f7 fs))(hA:eE l m)(hG:Gn F m):bq TT cl (j+K+1) F t b m st=qJ (aT TT cl (j+K) F m st1 b) λm st=>bq TT cl (j+K) F t b m st:=
 congrArg (λr:RE Bool=>r.b7 m λc st=>bif c then qJ (aT TT cl (j+K) F m st b) λm st=>bq TT cl (j+K) F t b m st else k8 .next m st) (vq h hA hG)
theorem zE{q:Ev}{er:Ex}(fs gs:List Fc)(h:rT TT cl K F l st t fs kY=some (.go (.ret (.bool true)) [] st1,f7 fs))(hb:tS TT cl K F l st1 b gs (fin q)=some (.er er st2,f7 gs)):bl F (λj m=>bq TT cl j F t b m st) (K+1) l (.er er st2):=kj λj m hA hG=>
 aj (fC (j:=j) hb hA hG) λm' e2=>⟨m',(tE h hA hG).trans (by rw[e2];rfl)⟩
theorem gA{q:Ev}(fs gs:List Fc)(h:rT TT cl K F l st t fs kY=some (.go (.ret (.bool true)) [] st1,f7 fs))(hb:tS TT cl K F l st1 b gs (fin q)=some (.go .next l2 st2,f7 gs))(hN:K<=N)(k:bl F (λj m=>bq TT cl j F t b m st2) N l2 x):bl F (λj m=>bq TT cl j F t b m st) (N+1) l x:=kj λj m hA hG=>by
 obtain⟨d,rfl⟩:=Nat.exists_eq_add_of_le hN
 have e:j+(K+d)=(j+d)+K:=by rw[acb K,ab1]
 have k:=k (j+(K+d)) (aaI _ _)
 rw[e] at k ⊢
 refine(?_:Out F (bq TT cl (j+d+K+1) F t b m st) x)
 rw[tE h hA hG]
 exact B4 (fC hb hA hG) k
theorem cz{src:V}{i:Nat}(h:fq st src i=some none):bl F (λj m=>cP TT cl j F t b src i m st) (N+1) l (.go .next l st):=kj λj m hA hG=>
 ⟨m,congrArg (λo=>oK o (Ku (mW TT cl (j+N)) F m t b src i st)) h,hA,hG⟩
theorem Bt{src:V}{i:Nat}{m':M}(h:fq st src i=some (some v))(e1:sP F m t v=some m'):cP TT cl (n+1) F t b src i m st=qJ (aT TT cl n F m' st b) λm st=>cP TT cl n F t b src (i+1) m st:=
 (congrArg (λo=>oK o (Ku (mW TT cl n) F m t b src i st)) h).trans (congrArg (λo=>oK o λm=>qJ (aT TT cl n F m st b) λm st=>cP TT cl n F t b src (i+1) m st) e1)
theorem pq{src:V}{i:Nat}{q:Ev}{er:Ex}(h:fq st src i=some (some v))(ht:CT F l t v=some l2)(gs:List Fc)(hb:tS TT cl K F l2 st b gs (fin q)=some (.er er st2,f7 gs)):bl F (λj m=>cP TT cl j F t b src i m st) (K+1) l (.er er st2):=kj λj m hA hG=>
 CU ht hA hG λm1 e1 hA hG=>aj (fC (j:=j) hb hA hG) λm' e2=>⟨m',(Bt h e1).trans (by rw[e2];rfl)⟩
theorem eM{src:V}{i:Nat}{q l3:Ev}(h:fq st src i=some (some v))(ht:CT F l t v=some l2)(gs:List Fc)(hb:tS TT cl K F l2 st b gs (fin q)=some (.go .next l3 st2,f7 gs))(hN:K<=N)(k:bl F (λj m=>cP TT cl j F t b src (i+1) m st2) N l3 x):bl F (λj m=>cP TT cl j F t b src i m st) (N+1) l x:=kj λj m hA hG=>CU ht hA hG λm1 e1 hA hG=>by
 obtain⟨d,rfl⟩:=Nat.exists_eq_add_of_le hN
 have e:j+(K+d)=(j+d)+K:=by rw[acb K,ab1]
 have k:=k (j+(K+d)) (aaI _ _)
 rw[e] at k ⊢
 refine(?_:Out F (cP TT cl (j+d+K+1) F t b src i m st) x)
 rw[Bt h e1]
 exact B4 (fC hb hA hG) k
theorem gy(fs:List Fc)(h:rT TT cl 200 F l st t fs kY=some (.go (.ret (.bool false)) [] st1,f7 fs)):bl F (λj m=>bq TT cl j F t b m st) 201 l (.go .next l st1):=mM fs h
theorem tD{q:Ev}{er:Ex}(fs gs:List Fc)(h:rT TT cl 200 F l st t fs kY=some (.go (.ret (.bool true)) [] st1,f7 fs))(hb:tS TT cl 200 F l st1 b gs (fin q)=some (.er er st2,f7 gs)):bl F (λj m=>bq TT cl j F t b m st) 201 l (.er er st2):=zE fs gs h hb
theorem gz{q:Ev}(fs gs:List Fc)(h:rT TT cl 200 F l st t fs kY=some (.go (.ret (.bool true)) [] st1,f7 fs))(hb:tS TT cl 200 F l st1 b gs (fin q)=some (.go .next l2 st2,f7 gs))(hN:200<=N)(k:bl F (λj m=>bq TT cl j F t b m st2) N l2 x):bl F (λj m=>bq TT cl j F t b m st) (N+1) l x:=gA fs gs h hb hN k
theorem KJ{src:V}{i:Nat}{q:Ev}{er:Ex}(h:fq st src i=some (some v))(ht:CT F l t v=some l2)(gs:List Fc)(hb:tS TT cl 200 F l2 st b gs (fin q)=some (.er er st2,f7 gs)):bl F (λj m=>cP TT cl j F t b src i m st) 201 l (.er er st2):=pq h ht gs hb
theorem fT{src:V}{i:Nat}{q l3:Ev}(h:fq st src i=some (some v))(ht:CT F l t v=some l2)(gs:List Fc)(hb:tS TT cl 200 F l2 st b gs (fin q)=some (.go .next l3 st2,f7 gs))(hN:200<=N)(k:bl F (λj m=>cP TT cl j F t b src (i+1) m st2) N l3 x):bl F (λj m=>cP TT cl j F t b src i m st) (N+1) l x:=eM h ht gs hb hN k
end
noncomputable def bE(l:List Stmt)(i:Nat):Stmt:=match l.drop i with
 | s::_=>s
 | []=> .Pass ⟨0,0,0,0⟩
noncomputable def bG:Stmt->Nat->List Stmt
 | .If _ b _ _,0=>b
 | .If _ _ o _,1=>o
 | .For _ _ b _ _,0=>b
 | .While _ b _ _,0=>b
 | .Try b _ _ _ _,0=>b
 | _,_=>[]
noncomputable def NJ:Expr:= .Constant .none 0 ⟨0,0,0,0⟩
noncomputable def kM:Stmt->Expr
 | .For t _ _ _ _=>t
 | .While t _ _ _=>t
 | _=>NJ
noncomputable def uw:Stmt->Expr
 | .Assign _ e _=>e
 | .Return (some e) _=>e
 | .Expr e _=>e
 | .If t _ _ _=>t
 | .For _ e _ _ _=>e
 | _=>NJ
noncomputable def Kv:Expr->List Expr
 | .BinOp l _ r _=>[l,r]
 | .UnaryOp _ e _=>[e]
 | .BoolOp _ es _=>es
 | .Compare l _ rs _=>l::rs
 | .Call f as _ _=>f::as
 | .List es _=>es
 | .Tuple es _ _=>es
 | .Subscript e i _=>[e,i]
 | .Attribute e _ _=>[e]
 | .IfExp t b o _=>[t,b,o]
 | .ListComp elt gens _ _=>elt::gens.flatMap λg=>g.iter::g.ifs
 | _=>[]
noncomputable def kX:Expr->List Nat->Expr
 | e,[]=>e
 | e,i::is=>kX (match(Kv e).drop i with
  | x::_=>x
  | []=>NJ) is
noncomputable def l8(fi:g9):aV:=⟨fi.sc,true,fi.ky,fi.hM⟩
end Mine
namespace Mine
theorem vL{st:List AO}{x y:V}{a b:PyData}(h1:toD st x=some a)(h2:toD st y=some b):tv st x y=some (aaz a b):=(aK h1).trans (aK h2)
theorem q8{st:List AO}{x:V}{ys:List V}{ds:List PyData}{d:PyData}(h1:ti st ys=some ds)(h2:toD st x=some d):among st x ys=some (ds.any λe=>aaz e d):=(aK h1).trans (aK h2)
theorem tC{st:List AO}{x:V}{ys:List V}{ds:List PyData}{d:PyData}(h1:ti st ys=some ds)(h2:toD st x=some d):fM st x ys=some (ds.findIdx? λe=>aaz e d):=(aK h1).trans (aK h2)
theorem eD{F:Nat->Nat->Option PyData}{n:Nat}{x:V}{xs:List V}{d:PyData}{ds:List PyData}(h1:tj F n x=some d)(h2:dO F n xs=some ds):dO F n (x::xs)=some (d::ds):=(aK h1).trans (aK h2)
theorem in_of{st:List AO}{x y:V}{ys:List V}{b:Bool}(h:bB st y=some ys)(hl:ys.length<=100000)(e:among st x ys=some b):uN x y st=ok b st:=(jv h).trans ((if_pos hl).trans (aK e))
theorem r8{st:List AO}{n:Nat}{xs ys:List V}{name:Str}(h:st[n]? =some (.lst xs))(hl:xs.length<100000):eF .lst (.loc n) name ys st=PG n xs name ys st:=(aK (bR h)).trans (if_pos hl)
structure P9 where
 (a0 a1 a2 a3 a4 a5 a6 a7 a8:AO)
noncomputable def P9.l(P:P9):List AO:=[P.a0,P.a1,P.a2,P.a3,P.a4,P.a5,P.a6,P.a7,P.a8]
noncomputable def MT(a b c:V):V:= .nj 254 [(q "kind",a),(q "value",b),(q "at",c)]
theorem Dx{k:Nat}{st:List AO}{a b c:V}:CI (k+1) 251 [.inst 254 st.length,a,b,c] (st++[.aF []])=some (.ok .none,st++[.aF [(q "kind",a),(q "value",b),(q "at",c)]]):=by
 have w: ∀{fs:List (Str×V)} {n:Str} {v:V},Nat.ble fs.length 900=true->Df (.inst 254 st.length) n v (st++[.aF fs])=some (st++[.aF (putK n v fs)]):=λ{fs n v} hl=>by
  have g:(st++[AO.aF fs])[st.length]? =some (.aF fs):=by simp
  refine(aK (cZ g)).trans ((if_pos (aam hl)).trans ?_)
  simp
 exact ay [fS 11 (w (n:=q "kind") (v:=a) (fs:=[]) rfl),fS 11 (w (n:=q "value") (v:=b) (fs:=[(q "kind",a)]) rfl),fS 11 (w (n:=q "at") (v:=c) (fs:=[(q "kind",a),(q "value",b)]) rfl)] (by kernel_rfl)
theorem Ca{k:Nat}{mu:Bool}{st:List AO}{a b c:V}(mi:st.all (bA st.length)=true)(ha:cH st.length a=true)(hb:cH st.length b=true)(hc:cH st.length c=true):
  gf TT (CI (k+1)) mu (.ref 254) [a,b,c] st=some (.ok (MT a b c),st):=by
 have e:gf TT (CI (k+1)) mu (.ref 254) [a,b,c] st=(CI (k+1) 251 [.inst 254 st.length,a,b,c] (st++[.aF []])).bind (uY true 254 st.length):=rfl
 rw[e,Dx]
 show freeze st.length (.inst 254 st.length) _=_
 have h1:(st++[AO.aF [(q "kind",a),(q "value",b),(q "at",c)]]).take st.length=st:=by simp
 have h2:(st++[AO.aF [(q "kind",a),(q "value",b),(q "at",c)]])[st.length]? =some (AO.aF [(q "kind",a),(q "value",b),(q "at",c)]):=by simp
 have h3:dg st.length [(q "kind",a),(q "value",b),(q "at",c)]=true:=by simp[dg,ha,hb,hc]
 exact(if_pos (h1.symm▸mi)).trans ((aK ((if_neg (ac4 _)).trans ((aK (cZ h2)).trans (if_pos h3)))).trans (congrArg (ok _) h1))
noncomputable abbrev Tk:=Str×V
noncomputable def HF(i:Nat)(p:Tk):V:=MT (.str p.1) p.2 (.int (2* i+5))
noncomputable def eH(ts:List Tk):List V:=ts.mapIdx HF
noncomputable def Dw(ts:List Tk)(i:Nat):Tk:=(ts[i]?).getD (q "eof",qs "")
noncomputable def jz(ts:List Tk)(i:Nat):Str:=(Dw ts i).1
noncomputable def oE(ts:List Tk)(i:Nat):V:=(Dw ts i).2
noncomputable def jf(ts:List Tk)(i:Nat):Int:=match ts[i]? with
 | some _=>2* i+5
 | none=> -1
noncomputable def fo(ts:List Tk)(i:Nat):V:=MT (.str (jz ts i)) (oE ts i) (.int (jf ts i))
noncomputable def tO(ts:List Tk)(i:Nat):Bool:=jz ts i==q "op"&&(match oE ts i with | .str x=>x==q "#" | _=>false)
noncomputable def NK(h:Bool)(t:V)(at_:Int):List (Str×V):=[(q "source",.inst 282 9),(q "ahead",.loc 11),(q "hashed",.bool h),(q "token",t),(q "at",.int at_),(q "nets",.loc 12),(q "inputs",.loc 13),(q "outputs",.loc 14),(q "order",.loc 15)]
noncomputable def j0(ts:List Tk)(n:Nat)(h:Bool):List (Str×V):=[(q "tokens",.lst (eH ts)),(q "place",.int n),(q "parted",.bool h)]
noncomputable def ptA(ts:List Tk):Nat->Bool
 | 0=>false
 | i+1=>tO ts i
noncomputable def S0(P:P9)(ts:List Tk)(n:Nat)(h1 h2:Bool)(t:V)(a:Int)(tl:List AO):List AO:=P.l++ .aF (j0 ts n h1):: .aF (NK h2 t a):: .lst []::tl
noncomputable def SS(P:P9)(ts:List Tk)(i:Nat)(tl:List AO):List AO:=S0 P ts (min (i+1) ts.length) (ptA ts i) (tO ts i) (fo ts i) (jf ts i) tl
mutual
theorem cU{j k:Nat}(h:j<=k): ∀(x:V),cH j x=true->cH k x=true
 | .tup xs,hx=>by simp only[cH] at*;exact dU h xs hx
 | .lst xs,hx=>by simp only[cH] at*;exact dU h xs hx
 | .nj _ fs,hx=>by simp only[cH] at*;exact eT h fs hx
 | .inst _ n,hx=>by simp only[cH,decide_eq_true_eq] at*;exact o2 h hx
 | .loc n,hx=>by simp only[cH,decide_eq_true_eq] at*;exact o2 h hx
 | .none,_=>rfl
 | .bool _,_=>rfl
 | .int _,_=>rfl
 | .str _,_=>rfl
 | .jb _ _ _,_=>rfl
 | .f6 _,_=>rfl
theorem dU{j k:Nat}(h:j<=k): ∀(xs:List V),aQ j xs=true->aQ k xs=true
 | [],_=>rfl
 | x::xs,hx=>by
  simp only[aQ,aaT] at*
  exact⟨cU h x hx.1,dU h xs hx.2⟩
theorem eT{j k:Nat}(h:j<=k): ∀(xs:List (Str×V)),dg j xs=true->dg k xs=true
 | [],_=>rfl
 | (_,x)::xs,hx=>by
  simp only[dg,aaT] at*
  exact⟨cU h x hx.1,eT h xs hx.2⟩
end
theorem kc{j k:Nat}(h:j<=k){o:AO}(ho:bA j o=true):bA k o=true:=by
 cases o with
 | lst xs=>exact dU h xs ho
 | aF fs=>exact eT h fs ho
theorem ib{j k:Nat}(h:j<=k){st:List AO}(ho:st.all (bA j)=true):st.all (bA k)=true:=by
 rw[abt] at*
 exact λo hm=>kc h (ho o hm)
structure vZ(ts:List Tk):Prop where
 cH: ∀p∈ts,cH 0 p.2=true
 pl: ∀p∈ts,p.2.plain=true
 op: ∀p∈ts,p.1=q "op"-> ∃x,p.2= .str x
 len:ts.length<=90000
theorem H0{ts:List Tk}(W:vZ ts)(i:Nat):cH 0 (oE ts i)=true:=by
 unfold oE Dw
 cases h:ts[i]? with
 | none=>rfl
 | some p=>exact W.cH p (aas h)
theorem tm{ts:List Tk}(W:vZ ts)(i k:Nat):cH k (fo ts i)=true:=by
 unfold fo
 simp only[MT,Mine.cH,dg,abE,abN]
 exact cU (aaC k) _ (H0 W i)
theorem bX{k:Nat}: ∀{xs:List V},aQ k xs=true<-> ∀x∈xs,Mine.cH k x=true
 | []=>by simp[aQ]
 | x::xs=>by simp only[aQ,aaT,bX (xs:=xs),abJ]
theorem iT{ts:List Tk}{i:Nat}:(eH ts)[i]? =(ts[i]?).map (HF i):=by simp[eH,List.getElem?_mapIdx]
theorem gr{ts:List Tk}:(eH ts).length=ts.length:=by simp[eH]
theorem zy{ts:List Tk}(W:vZ ts)(k:Nat):aQ k (eH ts)=true:=by
 rw[bX]
 intro x hx
 refine aj (aa4 hx) λi hi=> ?_
 rw[iT] at hi
 cases h:ts[i]? with
 | none=>rw[h] at hi;cases hi
 | some p=>
  rw[h] at hi
  rw[<-aaj hi]
  simp only[HF,MT,Mine.cH,dg,abE,abN]
  exact cU (aaC k) _ (W.cH p (aas h))
structure Rd(P:P9)(ts:List Tk)(tl:List AO):Prop where
 h0:P.l.all (bA 0)=true
 W:vZ ts
 hr:tl.all (bA (tl.length+12))=true
 hl:4<=tl.length
theorem QX{P:P9}{r:List AO}{ts:List Tk}{n:Nat}{h1 h2:Bool}{t:V}{a:Int}(R:Rd P ts r)(ht:cH 0 t=true):(S0 P ts n h1 h2 t a r).all (bA (S0 P ts n h1 h2 t a r).length)=true:=by
 show(S0 P ts n h1 h2 t a r).all (bA (r.length+12))=true
 unfold S0
 rw[ada,abq,abq,abq,ib (aaC _) R.h0,R.hr]
 have a1:bA (r.length+12) (.aF (j0 ts n h1))=true:=by
  simp only[bA,j0,dg,Mine.cH,zy R.W,abE,abN]
 have a2:bA (r.length+12) (.aF (NK h2 t a))=true:=by
  have :=R.hl
  simp only[bA,NK,dg,Mine.cH,abE,abN,cU (aaC (r.length+12)) t ht,aaT,decide_eq_true_eq]
  exact o3 this
 rw[a1,a2];rfl
section
variable{k n i:Nat}{P:P9}{tl:List AO}{ts:List Tk}{h1 h2:Bool}{t:V}{a:Int}{st:List AO}{xs:List V}
theorem pR{v:V}{j:Nat}(h:Ge v st=some j)(hl:j<=100000):bC "len" [v] st=ok (.int j) st:=by
 show(oK (Ge v st) λn=>if n<=100000 then ok (V.int n) st else none)=_
 rw[h];exact if_pos hl
theorem B1(hl:xs.length<=100000):bC "len" [.lst xs] st=ok (.int xs.length) st:=pR rfl hl
theorem j1{v w:V}{j:Nat}(h:bB st v=some xs)(hl:xs.length<=100000)(hw:xs[j]? =some w):eQ v (.int j) st=ok w st:=by
 have h1:j<xs.length:=(aar.mp hw).1
 have e:pW j xs.length=some j:=(if_pos ⟨Int.natCast_nonneg j,Int.ofNat_lt.mpr h1⟩).trans rfl
 have gen:(oK (bB st v) λxs=>if xs.length<=100000 then oK (pW j xs.length) (λj=>oK (xs[j]?) λv=>ok v st) else none)=ok w st:=
  (aK h).trans ((if_pos hl).trans ((aK e).trans (aK hw)))
 cases v with
 | tup _=>exact gen
 | lst _=>exact gen
 | loc _=>exact gen
 | _=>exact aY h
theorem yJ{a b:Int}(h: ¬b<=a): ∀st,bk .GtE (.int a) (.int b) st=ok false st:=λst=>by show ok (decide (b<=a)) st=_;rw[decide_eq_false h]
theorem Bz{a b:Int}(h:b<=a): ∀st,bk .GtE (.int a) (.int b) st=ok true st:=λst=>by show ok (decide (b<=a)) st=_;rw[decide_eq_true h]
theorem ny(R:Rd P ts tl)(ht:cH 0 t=true)(hn:n<=ts.length):
  CI (k+2) 279 [.inst 282 9] (S0 P ts n h1 h2 t a tl)=ok (fo ts n) (S0 P ts (min (n+1) ts.length) h1 h2 t a tl):=by
 have hl:(eH ts).length<=100000:=by rw[gr];have :=R.W.len;exact o4 this
 have e1: ∀st,bC "len" [.lst (eH ts)] st=ok (.int ts.length) st:=λst=>by rw[B1 hl,gr]
 by_cases dc:n<ts.length
 ·have hp:ts[n]? =some ts[n]:=aaG dc
  have e3: ∀st,eQ (.lst (eH ts)) (.int n) st=ok (fo ts n) st:=λst=>j1 rfl hl (by rw[iT,hp];simp only[fo,jz,oE,Dw,jf,hp];rfl)
  rw[Nat.min_eq_left dc]
  exact ay [fF 5 e1,fb (yJ (a:=n) (b:=ts.length) (o5 dc)),fF 4 e3] (by kernel_rfl)
 ·have e5:fo ts n=MT (qs "eof") (qs "") (.int (-1)):=by unfold fo jz oE Dw jf;rw[aaS (o1 dc)];rfl
  rw[e5,show min (n+1) ts.length=n by exact o6 hn dc]
  exact ay [fF 5 e1,fb (Bz (a:=n) (b:=ts.length) (o7 dc)),fV 0 (Ca (k:=k) (mu:=false) (a:=qs "eof") (b:=qs "") (c:= .int (-1)) (QX (n:=n) (h1:=h1) (h2:=h2) (a:=a) R ht) rfl rfl rfl)] (by kernel_rfl)
end
end Mine
namespace Mine
section
variable{k n i:Nat}{P:P9}{tl:List AO}{ts:List Tk}{h h1 h2:Bool}{t:V}{a:Int}{st:List AO}{p:Tk}{x:Str}
theorem Js(h:ts[i]? =some p):Dw ts i=p:=by unfold Dw;rw[h];rfl
theorem i9(h:ts[i]? =some p):jz ts i=p.1/\oE ts i=p.2:=by unfold jz oE;rw[Js h];exact⟨rfl,rfl⟩
theorem fg(h:ts[i]? =some p):i<ts.length:=(aar.mp h).1
theorem uR(W:vZ ts)(h:jz ts i=q "op"): ∃x,oE ts i= .str x:=by
 unfold jz at h;unfold oE
 cases h1:ts[i]? with
 | none=>unfold Dw;rw[h1];exact⟨_,rfl⟩
 | some p=>rw[Js h1] at h ⊢;exact W.op p (aas h1) h
theorem kE(h:ts[i]? =some p)(x:Str): ∀st,bk .Eq (.str (jz ts i)) (.str x) st=ok (p.1==x) st:=λst=>by rw[(i9 h).1];rfl
theorem kN(h:ts[i]? =some p)(x:Str): ∀st,bk .NotEq (.str (jz ts i)) (.str x) st=ok (p.1 !=x) st:=λst=>by rw[(i9 h).1];rfl
theorem mL{v:V}(h:oE ts i=v)(hp:v.plain=true): ∀st,oR TT (fo ts i) (q "value") st=ok v st:=λst=>by
 show(if TT.attr 254 (q "value") then(if(oE ts i).plain then ok (oE ts i) st else none) else none)=_
 rw[h,if_pos (by kernel_rfl),if_pos hp]
theorem vG(R:Rd P ts tl)(h:ts[i]? =some p): ∀st,oR TT (fo ts i) (q "value") st=ok p.2 st:=mL (i9 h).2 (R.W.pl p (aas h))
theorem A8(R:Rd P ts tl)(ht:cH 0 t=true)(hn:n<=ts.length):CI (k+3) 307 [.inst 494 10] (S0 P ts n h1 h t a tl)=ok (fo ts n) (S0 P ts (min (n+1) ts.length) h (tO ts n) t a tl):=by
 have e:=ny (k:=k) (n:=n) (h1:=h) (h2:=h) (a:=a) R ht hn
 have hc: ∀b,(jz ts n==q "op")=b-> ∀st,bk .Eq (.str (jz ts n)) (.str (q "op")) st=ok b st:=λb e st=>by rw[<-e];rfl
 cases hk:jz ts n==q "op" with
 | true=>
  refine aj (uR R.W (eq_of_beq hk)) λx hx=> ?_
  have e2:tO ts n=(x==q "#"):=by unfold tO;rw[hk,hx];rfl
  rw[e2]
  exact ay [fV 0 e,fb (hc _ hk),fF 12 (mL hx rfl)] (by kernel_rfl)
 | false=>
  have e2:tO ts n=false:=by unfold tO;rw[hk];rfl
  rw[e2]
  exact ay [fV 0 e,fb (hc _ hk)] (by kernel_rfl)
theorem cf(R:Rd P ts tl)(hi:i<ts.length):CI (k+4) 322 [.inst 494 10] (SS P ts i tl)=ok (fo ts i) (SS P ts (i+1) tl):=by
 have e:=A8 (k:=k) (n:=i+1) (h1:=ptA ts i) (h:=tO ts i) (t:=fo ts i) (a:=jf ts i) R (tm R.W i 0) hi
 unfold SS
 rw[Nat.min_eq_left hi]
 exact ay [fV 0 e] (by kernel_rfl)
noncomputable def yZ(kd:String)(ts:List Tk)(i:Nat)(x:Str):Bool:=jz ts i==q kd&&(match oE ts i with
 | .str y=>y==x
 | _=>false)
theorem uQ{kd:String}(h:ts[i]? =some (q kd,.str x)):yZ kd ts i x=true:=by unfold yZ;rw[(i9 h).1,(i9 h).2];simp
theorem uP{kd:String}(h:ts[i]? =some p)(hn:p.1≠q kd):yZ kd ts i x=false:=by unfold yZ;rw[(i9 h).1,beq_false_of_ne hn];rfl
theorem lu{kd:String}{y:Str}(h:ts[i]? =some (q kd,.str y))(hn:y≠x):yZ kd ts i x=false:=by unfold yZ;rw[(i9 h).1,(i9 h).2];simp[hn]
theorem Pw{kd:String}{a:Addr}(K7:jz ts i=q kd-> ∃y,oE ts i= .str y)
  (h0:(∀st,bk .Eq (.str (jz ts i)) (.str (q kd)) st=ok false st)->CI (k+1) a [.inst 494 10,.str x] (SS P ts i tl)=ok (.bool false) (SS P ts i tl))
  (h1:(∀st,bk .Eq (.str (jz ts i)) (.str (q kd)) st=ok true st)-> ∀y,oE ts i= .str y->CI (k+1) a [.inst 494 10,.str x] (SS P ts i tl)=ok (.bool (y==x)) (SS P ts i tl)):CI (k+1) a [.inst 494 10,.str x] (SS P ts i tl)=ok (.bool (yZ kd ts i x)) (SS P ts i tl):=by
 have hc: ∀b,(jz ts i==q kd)=b-> ∀st,bk .Eq (.str (jz ts i)) (.str (q kd)) st=ok b st:=λb e st=>by rw[<-e];rfl
 unfold yZ
 cases hk:jz ts i==q kd with
 | true=>
  refine aj (K7 (eq_of_beq hk)) λy hy=> ?_
  rw[hy]
  exact h1 (hc _ hk) y hy
 | false=>exact h0 (hc _ hk)
theorem mq(R:Rd P ts tl)(x:Str):CI (k+1) 329 [.inst 494 10,.str x] (SS P ts i tl)=ok (.bool (yZ "op" ts i x)) (SS P ts i tl):=
 Pw (uR R.W) (λh=>ay [fb h] (by kernel_rfl)) (λh y hy=>ay [fb h,fF 12 (mL hy rfl)] (by kernel_rfl))
theorem iM(K7:jz ts i=q "key"-> ∃y,oE ts i= .str y)(x:Str):CI (k+1) 336 [.inst 494 10,.str x] (SS P ts i tl)=ok (.bool (yZ "key" ts i x)) (SS P ts i tl):=
 Pw K7 (λh=>ay [fb h] (by kernel_rfl)) (λh y hy=>ay [fb h,fF 12 (mL hy rfl)] (by kernel_rfl))
theorem E6(h:ts[i]? =some p)(hp:p.1=q "key"-> ∃y,p.2= .str y):jz ts i=q "key"-> ∃y,oE ts i= .str y:=by rw[(i9 h).1,(i9 h).2];exact hp
theorem iI(R:Rd P ts tl)(h:ts[i]? =some (q "op",.str x)):CI (k+5) 343 [.inst 494 10,.str x] (SS P ts i tl)=ok (.bool true) (SS P ts (i+1) tl):=
 ay [fV 0 (uQ h▸mq (k:=k+3) R x),fV 0 (cf (k:=k) R (fg h))] (by kernel_rfl)
theorem la(R:Rd P ts tl)(h:yZ "op" ts i x=false):CI (k+2) 343 [.inst 494 10,.str x] (SS P ts i tl)=ok (.bool false) (SS P ts i tl):=
 ay [fV 0 (h▸mq (k:=k) R x)] (by kernel_rfl)
theorem ia(R:Rd P ts tl)(h:ts[i]? =some (q "key",.str x)):CI (k+5) 350 [.inst 494 10,.str x] (SS P ts i tl)=ok (.bool true) (SS P ts (i+1) tl):=
 ay [fV 0 (uQ h▸iM (k:=k+3) (P:=P) (tl:=tl) (E6 h λ_=>⟨_,rfl⟩) x),fV 0 (cf (k:=k) R (fg h))] (by kernel_rfl)
theorem Ai(h:ts[i]? =some p)(hp:p.1=q "key"-> ∃y,p.2= .str y)(h0:yZ "key" ts i x=false):CI (k+2) 350 [.inst 494 10,.str x] (SS P ts i tl)=ok (.bool false) (SS P ts i tl):=
 ay [fV 0 (h0▸iM (k:=k) (P:=P) (tl:=tl) (E6 h hp) x)] (by kernel_rfl)
theorem aE(R:Rd P ts tl)(h:ts[i]? =some (q "op",.str x)):CI (k+6) 357 [.inst 494 10,.str x] (SS P ts i tl)=ok .none (SS P ts (i+1) tl):=
 ay [fV 0 (iI (k:=k) R h)] (by kernel_rfl)
theorem ni(R:Rd P ts tl)(h:ts[i]? =some (q "key",.str x)):CI (k+6) 364 [.inst 494 10,.str x] (SS P ts i tl)=ok .none (SS P ts (i+1) tl):=
 ay [fV 0 (ia (k:=k) R h)] (by kernel_rfl)
theorem bP(R:Rd P ts tl)(h:ts[i]? =some (q "id",.str x)):CI (k+5) 371 [.inst 494 10] (SS P ts i tl)=ok (.str x) (SS P ts (i+1) tl):=
 ay [fb (kN h (q "id")),fV 0 (cf (k:=k) R (fg h)),fF 12 (vG R h)] (by kernel_rfl)
theorem Fv(R:Rd P ts tl)(i:Nat)(kind d:V):CI (k+1) 379 [.inst 494 10,kind,d] (SS P ts i tl)=some (.error ⟨52,kind,.int (jf ts i),d⟩,SS P ts i tl):=by kernel_rfl
theorem rJ(R:Rd P ts tl)(i:Nat)(kind:V):CI (k+1) 379 [.inst 494 10,kind] (SS P ts i tl)=some (.error ⟨52,kind,.int (jf ts i),qs ""⟩,SS P ts i tl):=by kernel_rfl
noncomputable def fY(n:Int):V:= .tup [qs "",qs "",.bool true,.str (cK n)]
noncomputable def plainT(n:Int):List Tk:=if n<0 then [(q "op",qs "-"),(q "num",fY (-n))] else [(q "num",fY n)]
theorem gB(R:Rd P ts tl){n:Int}(hn:n=0\/n=1)(h:ts[i]? =some (q "num",fY n)):CI (k+6) 407 [.inst 494 10] (SS P ts i tl)=ok (.int n) (SS P ts (i+1) tl):=by
 have e:=la (k:=k+3) (x:=q "-") R (uP h (show q "num"≠q "op" by decide+kernel))
 have ht:=cf (k:=k+1) R (fg h)
 rcases hn with rfl | rfl<;>exact ay [fV 0 e,fb (kN h (q "num")),fF 12 (vG R h),fF 12 (vG R h),fV 0 ht,fF 12 (vG R h)] (by kernel_rfl)
theorem zF(R:Rd P ts tl)(h0:ts[i]? =some (q "op",qs "-"))(h:ts[i+1]? =some (q "num",fY 1)):CI (k+6) 407 [.inst 494 10] (SS P ts i tl)=ok (.int (-1)) (SS P ts (i+2) tl):=
 ay [fV 0 (iI (k:=k) R h0),fb (kN h (q "num")),fF 12 (vG R h),fF 12 (vG R h),fV 0 (cf (k:=k+1) R (fg h)),fF 12 (vG R h)] (by kernel_rfl)
def At(ts:List Tk)(i:Nat)(l:List Tk):Prop:= ∀j p,l[j]? =some p->ts[i+j]? =some p
theorem At.cons{l:List Tk}{p:Tk}(h:At ts i (p::l)):ts[i]? =some p/\At ts (i+1) l:=
 ⟨h 0 p rfl,λj r hr=>by have :=h (j+1) r hr;rwa [show i+1+j=i+(j+1) by exact o26]⟩
theorem At.app{l m:List Tk}(h:At ts i (l++m)):At ts i l/\At ts (i+l.length) m:=
 ⟨λj p hp=>h j p (by rw[aaV (aar.mp hp).1];exact hp),
  λj p hp=>by rw[ab1];exact h (l.length+j) p (by rw[aau (o41)];simpa using hp)⟩
theorem At.at{l:List Tk}(h:At ts i l)(j:Nat){p:Tk}(hp:l[j]? =some p):ts[i+j]? =some p:=h j p hp
theorem DY(R:Rd P ts tl){n:Int}(hn:n= -1\/n=0\/n=1)(h:At ts i (plainT n)):CI (k+6) 407 [.inst 494 10] (SS P ts i tl)=ok (.int n) (SS P ts (i+(plainT n).length) tl):=by
 rcases hn with rfl | rfl | rfl
 ·exact zF R (h.at 0 (by kernel_rfl)) (h.at 1 (by kernel_rfl))
 ·exact gB R (.inl rfl) (h.at 0 rfl)
 ·exact gB R (.inr rfl) (h.at 0 rfl)
theorem pg(R:Rd P ts tl){n:Int}(hn:n=0\/n=1)(h:ts[i]? =some (q "num",fY n)):CI (k+7) 414 [.inst 494 10] (SS P ts i tl)=ok (.int n) (SS P ts (i+1) tl):=by
 have e:=gB (k:=k) R hn h
 rcases hn with rfl | rfl<;>exact ay [fV 0 e] (by kernel_rfl)
theorem kD(R:Rd P ts tl)(h:ts[i]? =some (q "str",.str x)):CI (k+5) 421 [.inst 494 10] (SS P ts i tl)=ok (.str x) (SS P ts (i+1) tl):=
 ay [fb (kN h (q "str")),fV 0 (cf (k:=k) R (fg h)),fF 12 (vG R h)] (by kernel_rfl)
end
end Mine
namespace Mine
noncomputable def AllB(p:Nat->Prop):Nat->Prop
 | 0=>True
 | n+1=>AllB p n/\p n
theorem below{p:Nat->Prop}: ∀{n t:Nat},AllB p n->t<n->p t
 | 0,_,_,h=>absurd h (Nat.not_lt_zero _)
 | n+1,t,a,h=>(Nat.lt_or_eq_of_le (Nat.le_of_lt_succ h)).elim (λh=>below a.1 h) (λh=>h▸a.2)
noncomputable def EU(m t:Nat):Str:=⟨((List.range (2^m)).reverse.map λs=>if t/2^s%2=1 then 49 else 48).toArray⟩
noncomputable def yS(t:Nat):Str:=⟨#[if t<10 then 48+t else 87+t]⟩
noncomputable def gQ(m b t:Nat):V:= .tup [.str (cK ((2^m:Nat):Int)),.str (if b=0 then q "b" else if b=1 then q "d" else q "h"),.bool false,.str (if b=0 then EU m t else if b=1 then cK (t:Int) else yS t)]
section
variable{k i:Nat}{P:P9}{tl:List AO}{ts:List Tk}{nets:List (Str×V)}{st:List AO}{at_:Int}{x:Str}{v:V}
theorem vb{m b t:Nat}(hm:m<3)(hb:b<3)(ht:t<2^2^m):CI (k+4) 237 [gQ m b t,.int at_] st=ok (.tup [.tup [.int (2^m:Nat),.int t,.int 0],.bool false,.bool true]) st:=by
 revert hb ht
 refine below (n:=3) (p:=λm=>b<3->t<2^2^m->CI (k+4) 237 [gQ m b t,.int at_] st=ok (.tup [.tup [.int (2^m:Nat),.int t,.int 0],.bool false,.bool true]) st) ⟨⟨⟨trivial,?_⟩,?_⟩,?_⟩ hm
 all_goals
  intro hb
  refine below (n:=3) (p:=λb=>t<2^2^_->CI (k+4) 237 [gQ _ b t,.int at_] st=ok (.tup [.tup [.int (2^_:Nat),.int t,.int 0],.bool false,.bool true]) st) ⟨⟨⟨trivial,?_⟩,?_⟩,?_⟩ hb
 all_goals
  refine λht=>below (p:=λt=>CI (k+4) 237 [gQ _ _ t,.int at_] st=ok (.tup [.tup [.int (2^_:Nat),.int t,.int 0],.bool false,.bool true]) st) ?_ ht
  repeat' (first | exact trivial | apply And.intro)
  all_goals kernel_rfl
theorem tc(R:Rd P ts tl){m b t:Nat}(hm:m<3)(hb:b<3)(ht:t<2^2^m)(h:ts[i]? =some (q "num",gQ m b t)):CI (k+5) 428 [.inst 494 10] (SS P ts i tl)=ok (.tup [.int t,.int (2^m:Nat)]) (SS P ts (i+1) tl):=
 ay [fb (kN h (q "num")),fV 0 (cf (k:=k) R (fg h)),fF 12 (vG R h),fV 0 (vb (k:=k) (st:=SS P ts (i+1) tl) (at_:=jf ts i) hm hb ht)] (by kernel_rfl)
theorem pJ{n:Nat}{fs:List (Str×V)}(h:st[n]? =some (.aF fs)):bk .In (.str x) (.loc n) st=ok ((fs.map (·.1)).contains x) st:=by
 exact(qf (lj h)).trans (aK (cZ h))
theorem eR{n:Nat}{fs:List (Str×V)}(h:st[n]? =some (.aF fs))(hv:fs.lookup x=some v):eQ (.loc n) (.str x) st=ok v st:=by
 exact(aK (cZ h)).trans (aK hv)
theorem key_is: ∀{fs:List (Str×V)},(fs.map (·.1)).contains x=(fs.lookup x).isSome
 | []=>rfl
 | (k,w)::fs=>by
  rw[aaq,aa9,aao,key_is (fs:=fs)]
  cases x==k<;>rfl
theorem yX{n:Nat}{fs:List (Str×V)}(h:st[n]? =some (.aF fs))(hv:fs.lookup x=some v):bk .In (.str x) (.loc n) st=ok true st:=by rw[pJ h,key_is,hv];rfl
theorem nv{n:Nat}{fs:List (Str×V)}(h:st[n]? =some (.aF fs))(hv:fs.lookup x=none):bk .In (.str x) (.loc n) st=ok false st:=by rw[pJ h,key_is,hv];rfl
theorem pY{n:Nat}{b:Bool}(h:bk .In (.str x) (.loc n) st=ok b st):bk .NotIn (.str x) (.loc n) st=ok (!b) st:=by
 show(uN (.str x) (.loc n) st).bind _=_
 rw[show uN (.str x) (.loc n) st=_ from h];rfl
noncomputable def yt(d:String):V:= .tup [qs "1",qs "b",.bool false,qs d]
theorem PR(R:Rd P ts tl)(h:ts[i]? =some (q "num",yt "0")):CI (k+5) 435 [.inst 494 10] (SS P ts i tl)=ok (.int 0) (SS P ts (i+1) tl):=
 ay [fb (kE h (q "num")),fF 12 (vG R h),fV 0 (cf (k:=k) R (fg h)),fF 12 (vG R h)] (by kernel_rfl)
theorem PS(R:Rd P ts tl)(h:ts[i]? =some (q "num",yt "1")):CI (k+5) 435 [.inst 494 10] (SS P ts i tl)=ok (.int 1) (SS P ts (i+1) tl):=
 ay [fb (kE h (q "num")),fF 12 (vG R h),fV 0 (cf (k:=k) R (fg h)),fF 12 (vG R h)] (by kernel_rfl)
theorem UP(R:Rd P ts (.aF nets::tl))(i:Nat):(SS P ts i (.aF nets::tl))[12]? =some (.aF nets):=rfl
theorem LJ(R:Rd P ts (.aF nets::tl))(h:ts[i]? =some (q "id",.str x))(hn:nets.lookup x=some v):CI (k+5) 435 [.inst 494 10] (SS P ts i (.aF nets::tl))=ok v (SS P ts (i+1) (.aF nets::tl)):=
 ay [fb (kE h (q "num")),fb (kN h (q "id")),fF 12 (vG R h),fB (pY (yX (UP R i) hn)),fV 0 (cf (k:=k) R (fg h)),fF 12 (vG R h),fV 4 (eR (UP R (i+1)) hn)] (by kernel_rfl)
theorem Gx(R:Rd P ts (.aF nets::tl))(h:ts[i]? =some (q "id",.str x))(hn:nets.lookup x=none):CI (k+5) 435 [.inst 494 10] (SS P ts i (.aF nets::tl))=some (.error ⟨52,qs "unknown_net",.int (jf ts i),qs ""⟩,SS P ts i (.aF nets::tl)):=
 gL [fb (kE h (q "num")),fb (kN h (q "id")),fF 12 (vG R h),fB (pY (nv (UP R i) hn)),fE (rJ (k:=k+3) R i (qs "unknown_net"))] (by kernel_rfl)
end
end Mine
namespace Mine
theorem dM: ∀{fs:List (Str×V)} {x:Str} {v:V},fs.lookup x=none->putK x v fs=fs++[(x,v)]
 | [],_,_,_=>rfl
 | (k,w)::fs,x,v,h=>by
  rw[aao] at h
  by_cases e:x=k
  ·subst e;simp at h
  ·rw[beq_false_of_ne e] at h
   have e':(k==x)=false:=beq_false_of_ne (Ne.symm e)
   show(if k==x then(x,v)::fs else(k,w)::putK x v fs)=_
   rw[e',if_neg (by decide),dM h];rfl
noncomputable abbrev T4(nets ins outs:List (Str×V))(ord:List V)(tl:List AO):List AO:= .aF nets:: .aF ins:: .aF outs:: .lst ord::tl
structure R4(P:P9)(ts:List Tk)(nets ins outs:List (Str×V))(ord:List V)(tl:List AO):Prop where
 h0:P.l.all (bA 0)=true
 W:vZ ts
 n:dg 0 nets=true
 i:dg (tl.length+16) ins=true
 o:dg (tl.length+16) outs=true
 d:aQ 0 ord=true
 t:tl.all (bA (tl.length+16))=true
 ln:nets.length<=100
 li:ins.length<=100
 lo:outs.length<=100
 ld:ord.length<=100
section
variable{k i:Nat}{P:P9}{tl:List AO}{ts:List Tk}{nets ins outs:List (Str×V)}{ord:List V}
theorem R4.rd(R:R4 P ts nets ins outs ord tl):Rd P ts (T4 nets ins outs ord tl) where
 h0:=R.h0
 W:=R.W
 hr:=by
  show(T4 nets ins outs ord tl).all (bA (tl.length+16))=true
  simp only[T4,abq,bA,eT (aaC _) _ R.n,R.i,R.o,dU (aaC _) _ R.d,R.t,abE]
 hl:=aaI 4 _
theorem RY(R:R4 P ts nets ins outs ord tl)(i:Nat):(SS P ts i (T4 nets ins outs ord tl))[12]? =some (.aF nets):=rfl
theorem RZ(R:R4 P ts nets ins outs ord tl)(i:Nat):(SS P ts i (T4 nets ins outs ord tl))[13]? =some (.aF ins):=rfl
theorem IP(R:R4 P ts nets ins outs ord tl)(i:Nat):(SS P ts i (T4 nets ins outs ord tl))[14]? =some (.aF outs):=rfl
theorem JL{x:AO}:SS P ts i (T4 nets ins outs ord tl)++[x]=SS P ts i (T4 nets ins outs ord (tl++[x])):=rfl
theorem JM:(SS P ts i (T4 nets ins outs ord tl)).length=tl.length+16:=rfl
theorem gT{n:Nat}:(SS P ts i (T4 nets ins outs ord tl))[n+16]? =tl[n]? :=rfl
theorem sT{n:Nat}{x:AO}:(SS P ts i (T4 nets ins outs ord tl)).set (n+16) x=SS P ts i (T4 nets ins outs ord (tl.set n x)):=rfl
theorem R4.grow(R:R4 P ts nets ins outs ord tl){x:AO}(hx:bA 0 x=true):R4 P ts nets ins outs ord (tl++[x]):=by
 have e:(tl++[x]).length+16=tl.length+16+1:=by rw[aag];rfl
 refine⟨R.h0,R.W,R.n,?_,?_,R.d,?_,R.ln,R.li,R.lo,R.ld⟩
 ·rw[e];exact eT (ZL) _ R.i
 ·rw[e];exact eT (ZL) _ R.o
 ·rw[e,ada,ib (ZL) R.t,abq,kc (aaC _) hx];rfl
theorem gb{k:Nat}: ∀{fs gs:List (Str×V)},dg k (fs++gs)=(dg k fs&&dg k gs)
 | [],_=>rfl
 | (_,x)::fs,gs=>by simp only[abl,dg,gb (fs:=fs),Bool.and_assoc]
theorem eX{k:Nat}: ∀{fs gs:List V},aQ k (fs++gs)=(aQ k fs&&aQ k gs)
 | [],_=>rfl
 | x::fs,gs=>by simp only[abl,aQ,eX (fs:=fs),Bool.and_assoc]
noncomputable def iF(way:String)(n:Int)(nm:Str):List Tk:=[(q "key",qs way),(q "op",qs "[")]++plainT n++[(q "op",qs ":")]++plainT 0++[(q "op",qs "]"),(q "id",.str nm),(q "op",qs ";")]
noncomputable def gN(n:Int):List V:=aaB (n+1).toNat (.int (-1))
theorem Gv(R:R4 P ts nets ins outs ord tl)(i:Nat){n:Int}(hn:n= -1\/n=0\/n=1):binI true .Mult (.lst [.int (-1)]) (.int (n+1)) (SS P ts i (T4 nets ins outs ord tl))=ok (.loc (tl.length+16)) (SS P ts i (T4 nets ins outs ord (tl++[.lst (gN n)]))):=by
 rw[<-JL,<-JM (i:=i)]
 generalize SS P ts i (T4 nets ins outs ord tl)=st
 rcases hn with rfl | rfl | rfl<;>kernel_rfl
theorem Ly{n:Int}(hn:n= -1\/n=0\/n=1): ∀st,bk .Lt (.int (n+1)) (.int 0) st=ok false st:=λst=>by rcases hn with rfl | rfl | rfl<;>rfl
theorem KZ{n:Int}(hn:n= -1\/n=0\/n=1): ∀st,bk .Gt (.int (n+1)) (.int 65536) st=ok false st:=λst=>by rcases hn with rfl | rfl | rfl<;>rfl
theorem bW{n:Nat}{ys:List V}{v:V}{st:List AO}(h:st[n]? =some (.lst ys))(hl:ys.length<100000):eF .lst (.loc n) (q "append") [v] st=ok .none (st.set n (.lst (ys++[v]))):=by
 exact(aK (bR h)).trans (if_pos hl)
theorem fh{n:Nat}{fs:List (Str×V)}{x:Str}{v:V}{st:List AO}(h:st[n]? =some (.aF fs))(hl:fs.length<=900):qt (.loc n) (.str x) v st=some (st.set n (.aF (putK x v fs))):=by
 exact(qf (lj h)).trans ((aK (cZ h)).trans (if_pos hl))
theorem jY{n:Nat}{xs:List V}{i:Int}{v:V}{st:List AO}(h:st[n]? =some (.lst xs))(hl:xs.length<=100000)(h0:0<=i)(h1:i<xs.length):qt (.loc n) (.int i) v st=some (st.set n (.lst (xs.set i.toNat v))):=by
 exact(jv (bR h)).trans (if_pos ⟨hl,h0,h1⟩)
theorem plain_len{b:Int}(hb:b=0\/b=1):plainT b=[(q "num",fY b)]:=by rcases hb with rfl | rfl<;>rfl
theorem sD{way:String}{n:Int}{nm:Str}{rows:Nat}(R:R4 P ts nets ins outs ord tl)(hn:n= -1\/n=0\/n=1)(h:At ts i (iF way n nm))(h1:ins.lookup nm=none)(h2:outs.lookup nm=none)(h3:nets.lookup nm=none)
  (xm F4 xB:List (Str×V)) (R':R4 P ts xm F4 xB (ord++[.str nm]) (tl++[.lst (gN n)]))
  (hs: ∀j,qt (.loc rows) (.str nm) (.loc (tl.length+16)) (SS P ts j (T4 nets ins outs ord (tl++[.lst (gN n)])))=some (SS P ts j (T4 xm F4 xB ord (tl++[.lst (gN n)])))):
  CI (k+8) 449 [.inst 494 10,.loc rows] (SS P ts i (T4 nets ins outs ord tl))=ok .none (SS P ts (i+(iF way n nm).length) (T4 xm F4 xB (ord++[.str nm]) (tl++[.lst (gN n)]))):=by
 have D:=R.rd
 have hl0:(iF way n nm).length=7+(plainT n).length:=by simp[iF,plainT];exact o49
 rw[hl0]
 unfold iF at h
 simp only[abl,aaP,aax] at h
 have t2:=DY (k:=k+1) D hn (h.cons.2.cons.2.app.1)
 have h':=h.cons.2.cons.2.app.2
 have e:i+(7+(plainT n).length)=i+2+(plainT n).length+5:=by exact o50
 rw[e]
 exact ay [fV 0 (cf (k:=k+3) D (fg (h.at 0 rfl))),fV 0 (aE (k:=k+1) (x:=q "[") D (h.at 1 rfl)),fV 0 t2,fV 0 (aE (k:=k+1) (x:=q ":") D (h'.at 0 rfl)),fV 0 (gB (k:=k+1) D (.inl rfl) (h'.at 1 rfl)),fV 0 (aE (k:=k+1) (x:=q "]") D (h'.at 2 rfl)),no 3,fb (Ly hn),fb (KZ hn),
  fV 0 (bP (k:=k+2) (x:=nm) D (h'.at 3 rfl)),fB (nv (RZ R (i+2+(plainT n).length+4)) h1),fB (nv (IP R (i+2+(plainT n).length+4)) h2),fB (nv (RY R (i+2+(plainT n).length+4)) h3),fV 2 (Gv R (i+2+(plainT n).length+4) hn),fS 10 (hs (i+2+(plainT n).length+4)),fV 7 (bW (st:=SS P ts (i+2+(plainT n).length+4) (T4 xm F4 xB ord (tl++[.lst (gN n)]))) (v:= .str nm) (n:=15) (ys:=ord) rfl (by have :=R.ld;exact o51 this)),fV 0 (aE (k:=k+1) (x:=q ";") R'.rd (h'.at 4 rfl))] (by kernel_rfl)
end
end Mine
namespace Mine
section
variable{k i:Nat}{P:P9}{tl:List AO}{ts:List Tk}{nets ins outs:List (Str×V)}{ord:List V}
theorem xH{n:Int}{j:Nat}:bA j (.lst (gN n))=true:=by
 show aQ j (gN n)=true
 rw[bX];intro x hx
 unfold gN at hx
 have :=List.eq_of_mem_replicate hx
 rw[this];rfl
theorem ri{j:Nat}{nm:Str}{v:V}(h:cH j v=true):dg j [(nm,v)]=true:=by simp[dg,h]
theorem R4.Fe(R:R4 P ts nets ins outs ord tl){n:Int}{nm:Str}(h:ins.length<100)(h':ord.length<100):R4 P ts nets (ins++[(nm,.loc (tl.length+16))]) outs (ord++[.str nm]) (tl++[.lst (gN n)]):=by
 have G:=R.grow (x:= .lst (gN n)) xH
 refine⟨G.h0,G.W,G.n,?_,G.o,?_,G.t,G.ln,by simp;exact Sz h,G.lo,by simp;exact Sz h'⟩
 ·rw[gb,G.i,abN]
  exact ri (by simp[cH])
 ·rw[eX,G.d];rfl
theorem R4.AU(R:R4 P ts nets ins outs ord tl){n:Int}{nm:Str}(h:outs.length<100)(h':ord.length<100):R4 P ts nets ins (outs++[(nm,.loc (tl.length+16))]) (ord++[.str nm]) (tl++[.lst (gN n)]):=by
 have G:=R.grow (x:= .lst (gN n)) xH
 refine⟨G.h0,G.W,G.n,G.i,?_,?_,G.t,G.ln,G.li,by simp;exact Sz h,by simp;exact Sz h'⟩
 ·rw[gb,G.o,abN]
  exact ri (by simp[cH])
 ·rw[eX,G.d];rfl
theorem GW{n:Int}{nm:Str}(R:R4 P ts nets ins outs ord tl)(hn:n= -1\/n=0\/n=1)(h:At ts i (iF "input" n nm))(h1:ins.lookup nm=none)(h2:outs.lookup nm=none)(h3:nets.lookup nm=none)(l1:ins.length<100)(l2:ord.length<100):
  CI (k+8) 449 [.inst 494 10,.loc 13] (SS P ts i (T4 nets ins outs ord tl))=ok .none (SS P ts (i+(iF "input" n nm).length) (T4 nets (ins++[(nm,.loc (tl.length+16))]) outs (ord++[.str nm]) (tl++[.lst (gN n)]))):=
 sD R hn h h1 h2 h3 _ _ _ (R.Fe l1 l2) λj=>dM h1▸fh rfl (ZM l1)
theorem CP{n:Int}{nm:Str}(R:R4 P ts nets ins outs ord tl)(hn:n= -1\/n=0\/n=1)(h:At ts i (iF "output" n nm))(h1:ins.lookup nm=none)(h2:outs.lookup nm=none)(h3:nets.lookup nm=none)(l1:outs.length<100)(l2:ord.length<100):
  CI (k+8) 449 [.inst 494 10,.loc 14] (SS P ts i (T4 nets ins outs ord tl))=ok .none (SS P ts (i+(iF "output" n nm).length) (T4 nets ins (outs++[(nm,.loc (tl.length+16))]) (ord++[.str nm]) (tl++[.lst (gN n)]))):=
 sD R hn h h1 h2 h3 _ _ _ (R.AU l1 l2) λj=>dM h2▸fh rfl (ZM l1)
noncomputable def ed(nm:Str)(b:Int):List Tk:=[(q "id",.str nm),(q "op",qs "[")]++plainT b++[(q "op",qs "]")]
theorem gC{nm:Str}{b:Int}(hb:b=0\/b=1):ed nm b=[(q "id",.str nm),(q "op",qs "["),(q "num",fY b),(q "op",qs "]")]:=by unfold ed;rw[plain_len hb];rfl
theorem gd{nm:Str}{b:Int}(hb:b=0\/b=1):(ed nm b).length=4:=by rw[gC hb];rfl
theorem qw{n:Nat}{xs:List V}{j:Int}{v:V}{st:List AO}(h:st[n]? =some (.lst xs))(hl:xs.length<=100000)(h0:0<=j)(hv:xs[j.toNat]? =some v):eQ (.loc n) (.int j) st=ok v st:=by
 have e:=j1 (st:=st) (v:= .loc n) (j:=j.toNat) (bR h:bB st (.loc n)=some xs) hl hv
 rwa [Int.toNat_of_nonneg h0] at e
theorem pQ{n:Nat}{xs:List V}{st:List AO}(h:st[n]? =some (.lst xs))(hl:xs.length<=100000):bC "len" [.loc n] st=ok (.int xs.length) st:=pR (jv (bR h)) hl
theorem UK{a b:Int}(h: ¬a<b): ∀st,bk .Lt (.int a) (.int b) st=ok false st:=λst=>by show ok (decide (a<b)) st=_;rw[decide_eq_false h]
theorem lg{nm:Str}{b v:Int}{rows j:Nat}{fs:List (Str×V)}{row:List V}{r:RE V}(R:R4 P ts nets ins outs ord tl)(hb:b=0\/b=1)(h:At ts i (ed nm b))(hg: ∀i,(SS P ts i (T4 nets ins outs ord tl))[rows]? =some (.aF fs))(hf:fs.lookup nm=some (.loc (j+16)))(hr:tl[j]? =some (.lst row))(hl:row.length<=1000)(hv:row[b.toNat]? =some (.int v))
  (FU:if v<0 then r=ok (.tup [.loc (j+16),.int b]) (SS P ts (i+4) (T4 nets ins outs ord tl)) else r=some (.error ⟨52,qs "bad_bit",.int (jf ts (i+3)),.str nm⟩,SS P ts (i+3) (T4 nets ins outs ord tl))):
  CI (k+8) 463 [.inst 494 10,.loc rows] (SS P ts i (T4 nets ins outs ord tl))=r:=by
 have D:=R.rd
 rw[gC hb] at h
 have dc:b.toNat<row.length:=(aar.mp hv).1
 have yO:0<=b:=by rcases hb with rfl | rfl<;>decide
 have g:(SS P ts (i+3) (T4 nets ins outs ord tl))[j+16]? =some (.lst row):=gT.trans hr
 have t0:=bP (k:=k+2) D (h.at 0 rfl)
 have t1:=aE (k:=k+1) (x:=q "[") D (h.at 1 rfl)
 have t2:=gB (k:=k+1) D hb (h.at 2 rfl)
 have sd:=eR (hg (i+3)) hf
 have sl:=qw g (aaD hl (by decide)) yO hv
 have l1:=UK (a:=b) (b:=0) (o54 yO)
 have l2:=yJ (a:=b) (b:=row.length) (o55 dc)
 have ln:=pQ g (aaD hl (by decide))
 by_cases I2:v<0
 ·rw[if_pos I2] at FU
  rw[FU]
  exact ay [fV 0 t0,fB (pY (yX (hg (i+1)) hf)),fV 0 t1,fV 0 t2,fb l1,fV 4 sd,fV 5 ln,fb l2,fV 4 sd,fV 4 sl,fb (yJ (a:=v) (b:=0) (o56 I2)),fV 0 (aE (k:=k+1) (x:=q "]") D (h.at 3 rfl)),fV 4 (eR (hg (i+4)) hf)] (by kernel_rfl)
 ·rw[if_neg I2] at FU
  rw[FU]
  exact gL [fV 0 t0,fB (pY (yX (hg (i+1)) hf)),fV 0 t1,fV 0 t2,fb l1,fV 4 sd,fV 5 ln,fb l2,fV 4 sd,fV 4 sl,fb (Bz (a:=v) (b:=0) (o57 I2)),fE (Fv (k:=k+6) D (i+3) (qs "bad_bit") (.str nm))] (by kernel_rfl)
noncomputable def aD(w:Str):Tk:=if w=q "0" then(q "num",yt "0") else if w=q "1" then(q "num",yt "1") else(q "id",.str w)
def js(nets:List (Str×V))(w:Str)(v:V):Prop:=if w=q "0" then v= .int 0 else if w=q "1" then v= .int 1 else nets.lookup w=some v
theorem iD{w:Str}{v:V}{tl:List AO}(R:Rd P ts (.aF nets::tl))(h:ts[i]? =some (aD w))(hn:js nets w v):CI (k+5) 435 [.inst 494 10] (SS P ts i (.aF nets::tl))=ok v (SS P ts (i+1) (.aF nets::tl)):=by
 unfold aD at h
 unfold js at hn
 by_cases e:w=q "0"
 ·rw[if_pos e] at h hn;subst hn;exact PR R h
 ·rw[if_neg e] at h hn
  by_cases e2:w=q "1"
  ·rw[if_pos e2] at h hn;subst hn;exact PS R h
  ·rw[if_neg e2] at h hn;exact LJ R h hn
noncomputable def S6(way:String)(nm:Str)(b:Int)(w:Str):List Tk:=(q "key",qs "assign")::((if way="input" then aD w::(q "op",qs "=")::ed nm b else ed nm b++[(q "op",qs "="),aD w])++[(q "op",qs ";")])
noncomputable def iG(tl:List AO)(j:Nat)(row:List V)(b:Int)(v:V):List AO:=tl.set j (.lst (row.set b.toNat v))
theorem EL{l:List AO}{p:AO->Bool}{j:Nat}{x:AO}(h:l.all p=true)(hx:p x=true):(l.set j x).all p=true:=by
 rw[abt] at*
 intro y hy
 rcases List.mem_or_eq_of_mem_set hy with h1 | rfl
 ·exact h y h1
 ·exact hx
theorem R4.row(R:R4 P ts nets ins outs ord tl){j:Nat}{row:List V}{b v:Int}(hr:tl[j]? =some (.lst row)):R4 P ts nets ins outs ord (iG tl j row b (.int v)):=by
 have e:(iG tl j row b (.int v)).length=tl.length:=by simp[iG]
 refine⟨R.h0,R.W,R.n,by rw[e];exact R.i,by rw[e];exact R.o,R.d,?_,R.ln,R.li,R.lo,R.ld⟩
 rw[e]
 refine EL R.t ?_
 have h1:bA (tl.length+16) (.lst row)=true:=(abt.mp R.t) _ (aas hr)
 show aQ _ (row.set b.toNat (.int v))=true
 have h1:aQ (tl.length+16) row=true:=h1
 rw[bX] at*
 intro x hx
 rcases List.mem_or_eq_of_mem_set hx with h2 | rfl
 ·exact h1 x h2
 ·rfl
theorem x9(w:Str):(aD w).1=q "num"\/aD w=(q "id",.str w):=by
 unfold aD
 by_cases e:w=q "0"
 ·rw[if_pos e];exact .inl rfl
 ·rw[if_neg e]
  by_cases e2:w=q "1"
  ·rw[if_pos e2];exact .inl rfl
  ·rw[if_neg e2];exact .inr rfl
theorem Kg{nm w:Str}{b v:Int}{j:Nat}{row:List V}(R:R4 P ts nets ins outs ord tl)(hb:b=0\/b=1)(h:At ts i (aD w::(q "op",qs "=")::ed nm b++[(q "op",qs ";")]))(hf:ins.lookup nm=some (.loc (j+16)))(hr:tl[j]? =some (.lst row))(hl:row.length<=1000)(hv:row[b.toNat]? =some (.int (-1)))(hw:js nets w (.int v))(ho:outs.lookup w=none):
  CI (k+9) 470 [.inst 494 10] (SS P ts i (T4 nets ins outs ord tl))=ok .none (SS P ts (i+7) (T4 nets ins outs ord (iG tl j row b (.int v)))):=by
 have D:=R.rd
 have h2:At ts (i+1+1) (ed nm b++[(q "op",qs ";")]):=(h.cons (l:=(q "op",qs "=")::ed nm b++[(q "op",qs ";")])).2.cons.2
 have yO:0<=b:=by rcases hb with rfl | rfl<;>decide
 have dc:b.toNat<row.length:=(aar.mp hv).1
 have a0:=h.at 0 (p:=aD w) rfl
 have a3:=h2.app.2.at 0 (p:=(q "op",qs ";")) rfl
 rw[gd hb] at a3
 have t0:=iD (k:=k+3) D a0 hw
 have t1:=aE (k:=k+2) (x:=q "=") D (h.at 1 rfl)
 have t2:=lg (k:=k) (rows:=13) R hb h2.app.1 (λi=>RZ R i) hf hr hl hv (by rw[if_pos (by decide)])
 have ts:=fS 10 ((jY (v:= .int v) (st:=SS P ts (i+6) (T4 nets ins outs ord tl)) (gT.trans hr) (aaD hl (by decide)) yO (SA dc)).trans (congrArg some sT))
 have t3:=aE (k:=k+2) (R.row (b:=b) (v:=v) hr).rd a3
 rcases x9 w with e | e
 ·have e2:=kE a0 (q "id")
  rw[e] at e2
  exact ay [fb e2,fV 0 t0,fV 0 t1,fV 0 t2,ts,fV 0 t3] (by kernel_rfl)
 ·rw[e] at a0
  exact ay [fb (kE a0 (q "id")),fF 12 (vG D a0),fB (nv (IP R i) ho),fV 0 t0,fV 0 t1,fV 0 t2,ts,fV 0 t3] (by kernel_rfl)
end
end Mine
namespace Mine
section
variable{k i:Nat}{P:P9}{tl:List AO}{ts:List Tk}{nets ins outs:List (Str×V)}{ord:List V}
theorem EN{nm w:Str}{b v:Int}{j:Nat}{row:List V}(R:R4 P ts nets ins outs ord tl)(hb:b=0\/b=1)(h:At ts i (ed nm b++[(q "op",qs "="),aD w]++[(q "op",qs ";")]))(hf:outs.lookup nm=some (.loc (j+16)))(hr:tl[j]? =some (.lst row))(hl:row.length<=1000)(hv:row[b.toNat]? =some (.int (-1)))(hw:js nets w (.int v)):
  CI (k+9) 470 [.inst 494 10] (SS P ts i (T4 nets ins outs ord tl))=ok .none (SS P ts (i+7) (T4 nets ins outs ord (iG tl j row b (.int v)))):=by
 have D:=R.rd
 rw[aax] at h
 have h2:=h.app.1
 have h3:=h.app.2
 rw[gd hb] at h3
 have a0:ts[i]? =some (q "id",.str nm):=(gC hb▸h2).at 0 rfl
 have yO:0<=b:=by rcases hb with rfl | rfl<;>decide
 have dc:b.toNat<row.length:=(aar.mp hv).1
 have t2:=lg (k:=k) (rows:=14) R hb h2 (λi=>IP R i) hf hr hl hv (by rw[if_pos (by decide)])
 exact ay [fb (kE a0 (q "id")),fF 12 (vG D a0),fB (yX (IP R i) hf),fV 0 t2,fV 0 (aE (k:=k+2) (x:=q "=") D (h3.at 0 rfl)),fV 0 (iD (k:=k+3) D (h3.at 1 (p:=aD w) rfl) hw),
  fS 10 ((jY (v:= .int v) (st:=SS P ts (i+6) (T4 nets ins outs ord tl)) (gT.trans hr) (aaD hl (by decide)) yO (SA dc)).trans (congrArg some sT)),fV 0 (aE (k:=k+2) (x:=q ";") (R.row (b:=b) (v:=v) hr).rd (h3.at 2 rfl))] (by kernel_rfl)
theorem rg{nm:Str}{b v:Int}{j:Nat}{row:List V}(R:R4 P ts nets ins outs ord tl)(hb:b=0\/b=1)(h:At ts i (ed nm b))(hf:outs.lookup nm=some (.loc (j+16)))(hr:tl[j]? =some (.lst row))(hl:row.length<=1000)(hv:row[b.toNat]? =some (.int v))(I2: ¬v<0):
  CI (k+9) 470 [.inst 494 10] (SS P ts i (T4 nets ins outs ord tl))=some (.error ⟨52,qs "bad_bit",.int (jf ts (i+3)),.str nm⟩,SS P ts (i+3) (T4 nets ins outs ord tl)):=by
 have a0:ts[i]? =some (q "id",.str nm):=(gC hb▸h).at 0 rfl
 exact gL [fb (kE a0 (q "id")),fF 12 (vG R.rd a0),fB (yX (IP R i) hf),fE (lg (k:=k) (rows:=14) R hb h (λi=>IP R i) hf hr hl hv (by rw[if_neg I2]))] (by kernel_rfl)
theorem ui{nm w:Str}{b v v':Int}{j:Nat}{row:List V}(R:R4 P ts nets ins outs ord tl)(hb:b=0\/b=1)(h:At ts i (aD w::(q "op",qs "=")::ed nm b))(hf:ins.lookup nm=some (.loc (j+16)))(hr:tl[j]? =some (.lst row))(hl:row.length<=1000)(hv:row[b.toNat]? =some (.int v))(I2: ¬v<0)(hw:js nets w (.int v'))(ho:outs.lookup w=none):
  CI (k+9) 470 [.inst 494 10] (SS P ts i (T4 nets ins outs ord tl))=some (.error ⟨52,qs "bad_bit",.int (jf ts (i+5)),.str nm⟩,SS P ts (i+5) (T4 nets ins outs ord tl)):=by
 have D:=R.rd
 have a0:=h.at 0 (p:=aD w) rfl
 have t0:=iD (k:=k+3) D a0 hw
 have t1:=aE (k:=k+2) (x:=q "=") D (h.at 1 rfl)
 have t2:=lg (k:=k) (rows:=13) R hb h.cons.2.cons.2 (λi=>RZ R i) hf hr hl hv (by rw[if_neg I2])
 rcases x9 w with e | e
 ·have e2:=kE a0 (q "id")
  rw[e] at e2
  exact gL [fb e2,fV 0 t0,fV 0 t1,fE t2] (by kernel_rfl)
 ·rw[e] at a0
  exact gL [fb (kE a0 (q "id")),fF 12 (vG D a0),fB (nv (IP R i) ho),fV 0 t0,fV 0 t1,fE t2] (by kernel_rfl)
noncomputable def bY(n:Int):Tk:=(q "num",fY n)
theorem GR{st:List AO}:CI (k+1) 477 [.inst 494 10,qs "mux"] st=ok (.tup [.none,.int (-1)]) st:=ay [] (by kernel_rfl)
theorem eG{l:List Tk}(R:Rd P ts tl)(h:At ts i l)(j:Nat){x:Str}(e:l[j]? =some (q "op",.str x)):CI (k+8) 357 [.inst 494 10,.str x] (SS P ts (i+j) tl)=ok .none (SS P ts (i+j+1) tl):=aE (k:=k+2) R (h.at j e)
theorem GQ{m b t:Nat}(R:Rd P ts tl)(hm:m<3)(hb:b<3)(ht:t<2^2^m)(h:At ts i [(q "op",qs "#"),(q "op",qs "("),(q "num",gQ m b t),(q "op",qs ")")]):
  CI (k+9) 477 [.inst 494 10,qs "lut"] (SS P ts i tl)=ok (.tup [.int t,.int (2^m:Nat)]) (SS P ts (i+4) tl):=
 ay [fV 0 (eG (k:=k) R h 0 rfl),fV 0 (eG (k:=k) R h 1 rfl),fV 0 (tc (k:=k+3) R hm hb ht (h.at 2 rfl)),fV 0 (eG (k:=k) R h 3 rfl)] (by kernel_rfl)
theorem CG{m b t:Nat}{nm:Str}(R:Rd P ts tl)(hm:m<3)(hb:b<3)(ht:t<2^2^m)(h:At ts i [(q "op",qs "#"),(q "op",qs "("),(q "str",.str nm),(q "op",qs ","),(q "num",gQ m b t),(q "op",qs ")")]):
  CI (k+9) 477 [.inst 494 10,qs "cell"] (SS P ts i tl)=ok (.tup [.tup [.str nm,.int t],.int (2^m:Nat)]) (SS P ts (i+6) tl):=
 ay [fV 0 (eG (k:=k) R h 0 rfl),fV 0 (eG (k:=k) R h 1 rfl),fV 0 (kD (k:=k+3) R (h.at 2 rfl)),fV 0 (eG (k:=k) R h 3 rfl),fV 0 (tc (k:=k+3) R hm hb ht (h.at 4 rfl)),fV 0 (eG (k:=k) R h 5 rfl)] (by kernel_rfl)
theorem CH{e x:Int}{nm:Str}(R:Rd P ts tl)(he:e=0\/e=1)(hx:x=0\/x=1)(h:At ts i [(q "op",qs "#"),(q "op",qs "("),bY e,(q "op",qs ","),(q "str",.str nm),(q "op",qs ","),bY x,(q "op",qs ")")]):
  CI (k+9) 477 [.inst 494 10,qs "flop"] (SS P ts i tl)=ok (.tup [.tup [.int e,.str nm,.int x],.int (-1)]) (SS P ts (i+8) tl):=
 ay [fV 0 (eG (k:=k) R h 0 rfl),fV 0 (eG (k:=k) R h 1 rfl),fV 0 (pg (k:=k+1) R he (h.at 2 rfl)),fV 0 (eG (k:=k) R h 3 rfl),fV 0 (kD (k:=k+3) R (h.at 4 rfl)),fV 0 (eG (k:=k) R h 5 rfl),fV 0 (pg (k:=k+1) R hx (h.at 6 rfl)),fV 0 (eG (k:=k) R h 7 rfl)] (by kernel_rfl)
theorem zh{x:Int}{nm:Str}(R:Rd P ts tl)(hx:x=0\/x=1)(h:At ts i [(q "op",qs "#"),(q "op",qs "("),(q "str",.str nm),(q "op",qs ","),bY x,(q "op",qs ")")]):
  CI (k+9) 477 [.inst 494 10,qs "latch"] (SS P ts i tl)=ok (.tup [.tup [.str nm,.int x],.int (-1)]) (SS P ts (i+6) tl):=
 ay [fV 0 (eG (k:=k) R h 0 rfl),fV 0 (eG (k:=k) R h 1 rfl),fV 0 (kD (k:=k+3) R (h.at 2 rfl)),fV 0 (eG (k:=k) R h 3 rfl),fV 0 (pg (k:=k+1) R hx (h.at 4 rfl)),fV 0 (eG (k:=k) R h 5 rfl)] (by kernel_rfl)
end
end Mine
namespace Mine
noncomputable def cq(x:String):Tk:=(q "op",qs x)
noncomputable def comma:Tk:=cq ","
noncomputable def semi:Tk:=cq ";"
noncomputable def cI(x:Str):Tk:=(q "id",.str x)
noncomputable def cN:List Tk->List Tk
 | []=>[]
 | b::r=>comma::b::cN r
noncomputable def eg:List Tk->List Tk
 | []=>[]
 | a::r=>a::cN r
theorem dZ: ∀{r:List Tk},(cN r).length=2* r.length
 | []=>rfl
 | b::r=>by show(cN r).length+1+1=_;rw[dZ (r:=r)];exact(Nat.mul_succ 2 r.length).symm
theorem eZ{r:List Tk}{a:Tk}:(eg (a::r)).length=2* r.length+1:=congrArg (· +1) dZ
noncomputable def kS(nets:List (Str×V)):List Str->List (Str×V)
 | []=>nets
 | x::r=>kS (nets++[(x,.int (nets.length+2))]) r
theorem mx{n:Nat}{fs:List (Str×V)}{st:List AO}(h:st[n]? =some (.aF fs))(hl:fs.length<=1000):bC "len" [.loc n] st=ok (.int fs.length) st:=pR ((qf (lj h)).trans (aK (cZ h))) (aaD hl (by decide))
theorem gY{gs:List (Str×V)}{x:Str}: ∀{fs:List (Str×V)},fs.lookup x=none->(fs++gs).lookup x=gs.lookup x
 | [],_=>rfl
 | (y,v)::fs,h=>by
  rw[abl,aao]
  rw[aao] at h
  cases e:x==y with
  | true=>rw[e] at h;exact Dk h
  | false=>rw[e] at h;exact gY h
section
variable{k i:Nat}{P:P9}{tl:List AO}{ts:List Tk}{nets ins outs:List (Str×V)}{ord:List V}
theorem R4.PQ(R:R4 P ts nets ins outs ord tl){x:Str}{v:Int}(h:nets.length<100):R4 P ts (nets++[(x,.int v)]) ins outs ord tl:=by
 refine⟨R.h0,R.W,?_,R.i,R.o,R.d,R.t,by rw[aag];exact h,R.li,R.lo,R.ld⟩
 rw[gb,R.n];rfl
theorem R4.kS: ∀{r:List Str} {nets:List (Str×V)},R4 P ts nets ins outs ord tl->nets.length+r.length<=100->R4 P ts (kS nets r) ins outs ord tl
 | [],_,R,_=>R
 | x::r,nets,R,h=>by
  rw[aan] at h
  exact(R4.kS (r:=r) (R.PQ (x:=x) (v:=nets.length+2) (o59 h)) (by rw[aag,aaF];exact o60 h):)
noncomputable def Bb:g9:=hV "NetReader" "wires"
noncomputable def Ib:aV:=l8 Bb
noncomputable def I9:Stmt:=bE Bb.body 1
noncomputable def NG(b:Bool):Ev:=[(q "more",.bool b),(q "self",.inst 494 10)]
theorem tF: ∀(r:List Str) (x:Str) (nets:List (Str×V)) (i:Nat),R4 P ts nets ins outs ord tl->At ts i (eg ((x::r).map cI)++[semi])->(x::r).Nodup->
  (∀y∈x::r,nets.lookup y=none/\ins.lookup y=none/\outs.lookup y=none)->nets.length+r.length<100->
  bl Ib (λj m=>bq TT (CI (k+7)) j Ib (kM I9) (bG I9 0) m (SS P ts i (T4 nets ins outs ord tl))) (r.length+202) (NG true) (.go .next (NG false) (SS P ts (i+(2* r.length+1)) (T4 (kS nets (x::r)) ins outs ord tl)))
 | r,x,nets,i,R,h,nd,i0,hl=>by
  refine bM (i0 x aak) λwZ Lh Uz=> ?_
  have hn:nets.length<100:=by exact o61 hl
  have R':=R.PQ (x:=x) (v:=nets.length+2) hn
  have t1:=fS 10 ((dM (v:= .int (nets.length+2)) wZ)▸fh (RY R (i+1)) (ZM hn))
  have t0:=bP (k:=k+2) (x:=x) R.rd (h.at 0 rfl)
  have b:=fB (nv (RY R (i+1)) wZ)
  have b2:=fB (nv (RZ R (i+1)) Lh)
  have b3:=fB (nv (IP R (i+1)) Uz)
  have ln:=fV 5 (mx (RY R (i+1)) (o62 hn))
  cases r with
  | nil=>
   have a:=la (k:=k+5) (x:=q ",") R'.rd (lu (kd:="op") (y:=q ";") (h.at 1 rfl) (by decide+kernel))
   exact gz (q:=NG false) (l2:=NG false) (st1:=SS P ts i (T4 nets ins outs ord tl)) (st2:=SS P ts (i+1) (T4 (nets++[(x,.int (nets.length+2))]) ins outs ord tl)) [] [fV 0 t0,b,b2,b3,ln,t1,fV 0 a] (by kernel_rfl) (by kernel_rfl) (by decide) (gy [] (by kernel_rfl))
  | cons y r=>
   have a:=iI (k:=k+2) (x:=q ",") R'.rd (h.at 1 rfl)
   have h2:At ts (i+1+1) (eg ((y::r).map cI)++[semi]):=(h.cons (l:=comma::(eg ((y::r).map cI)++[semi]))).2.cons.2
   have nd2:=aaK.mp nd
   rw[aan] at hl
   have go:=tF r y _ (i+1+1) R' h2 nd2.2 (λz hz=>by
    refine bM (i0 z (aai _ hz)) λh1 h2 h3=> ?_
    refine⟨?_,h2,h3⟩
    rw[gY h1,aao,beq_false_of_ne (λ(e:z=x)=>nd2.1 (e▸hz))];rfl) (by rw[aag,aaF];exact o63 hl)
   have e2:i+(2* (y::r).length+1)=i+1+1+(2* r.length+1):=by rw[aan];exact o64
   rw[e2]
   exact gz (q:=NG true) (l2:=NG true) (st1:=SS P ts i (T4 nets ins outs ord tl)) (st2:=SS P ts (i+1+1) (T4 (nets++[(x,.int (nets.length+2))]) ins outs ord tl)) [] [fV 0 t0,b,b2,b3,ln,t1,fV 0 a] (by kernel_rfl) (by kernel_rfl) (aaD (by decide) (aaI _ _)) go
theorem DZ{x:Str}{r:List Str}(R:R4 P ts nets ins outs ord tl)(h:At ts i (eg ((x::r).map cI)++[semi]))(nd:(x::r).Nodup)
  (i0: ∀y∈x::r,nets.lookup y=none/\ins.lookup y=none/\outs.lookup y=none) (hl:nets.length+r.length<100):
  CI (k+8) 456 [.inst 494 10] (SS P ts i (T4 nets ins outs ord tl))=ok .none (SS P ts (i+(2* r.length+2)) (T4 (kS nets (x::r)) ins outs ord tl))/\R4 P ts (kS nets (x::r)) ins outs ord tl:=by
 have R2:R4 P ts (kS nets (x::r)) ins outs ord tl:=R.kS (by rw[aan];exact o65 hl)
 refine⟨?_,R2⟩
 have as:=h.app.2
 rw[aaq,eZ,aae] at as
 exact ay [fR ((tF (k:=k) r x nets i R h nd i0 hl).le (N':=400) (o66 hl)),fV 0 (aE (k:=k+1) (x:=q ";") R2.rd (as.at 0 rfl))] (by kernel_rfl)
end
end Mine
namespace Mine
theorem zj{n:Nat}{nm:Str}{ys:List V}{st:List AO}(h:st[n]? =some (.lst ys))(hm:(pU .lst nm).isSome=true):sF TT (.loc n) nm st=some (.knd .lst):=by
 exact(aK (jv (bR h):kd (.loc n) st=some .lst)).trans (if_pos hm)
theorem rN{k:Nat}{st:List AO}{x:V}(h:cH k x=true):rM k st x=some x:=by
 cases x with
 | loc n=>exact if_pos (of_decide_eq_true h)
 | inst C n=>exact if_pos (of_decide_eq_true h)
 | _=>unfold rM;exact if_pos h
theorem ma{k:Nat}{st:List AO}: ∀{xs:List V},aQ k xs=true->nk k st xs=some xs
 | [],_=>rfl
 | x::xs,h=>by
  refine aO (aap.mp h) λh1 h2=> ?_
  exact(aK (rN h1)).trans (aK (ma h2))
theorem jI{k:Nat}{v y:V}{A B:List AO}(hA:A.length=k)(ha:A.all (bA k)=true)(h:OC k (A++B) v=some y):freeze k v (A++B)=ok y A:=by
 have e:(A++B).take k=A:=by rw[<-hA];exact List.take_left
 exact(if_pos (e.symm▸ha)).trans ((aK h).trans (congrArg (ok y) e))
section
variable{k i:Nat}{P:P9}{tl:List AO}{ts:List Tk}{nets ins outs:List (Str×V)}{ord:List V}
theorem R4.all(R:R4 P ts nets ins outs ord tl)(i:Nat):(SS P ts i (T4 nets ins outs ord tl)).all (bA (tl.length+16))=true:=QX R.rd (tm R.W i 0)
theorem gX(R:R4 P ts nets ins outs ord tl)(i:Nat)(x:AO):(SS P ts i (T4 nets ins outs ord (tl++[x])))[tl.length+16]? =some x:=abC
theorem sX{x y:AO}:(SS P ts i (T4 nets ins outs ord (tl++[x]))).set (tl.length+16) y=SS P ts i (T4 nets ins outs ord (tl++[y])):=by rw[sT,abf _ _ (aaw _),abo];rfl
theorem nM{v y:V}{B:List AO}(R:R4 P ts nets ins outs ord tl)(h:OC (tl.length+16) (SS P ts i (T4 nets ins outs ord (tl++B))) v=some y):freeze (tl.length+16) v (SS P ts i (T4 nets ins outs ord (tl++B)))=ok y (SS P ts i (T4 nets ins outs ord tl)):=
 jI (A:=SS P ts i (T4 nets ins outs ord tl)) rfl (R.all i) h
theorem Ka(R:R4 P ts nets ins outs ord tl)(i:Nat)(ys:List V)(v:V)(hl:ys.length<100000):eF .lst (.loc (tl.length+16)) (q "append") [v] (SS P ts i (T4 nets ins outs ord (tl++[.lst ys])))=ok .none (SS P ts i (T4 nets ins outs ord (tl++[.lst (ys++[v])]))):=by
 rw[bW (gX R i _) hl,sX]
theorem GX(R:R4 P ts nets ins outs ord tl)(i:Nat)(ys:List V):sF TT (.loc (tl.length+16)) (q "append") (SS P ts i (T4 nets ins outs ord (tl++[.lst ys])))=some (.knd .lst):=zj (gX R i _) (by decide+kernel)
theorem Bx{k:Nat}{st:List AO}{a:V}{xs:List V}(h1:cH k a=true)(h:st[k]? =some (.lst xs))(h2:aQ k xs=true):OC k st (.tup [a,.loc k])=some (.tup [a,.lst xs]):=by
 have e:rM k st (.loc k)=some (.lst xs):=(if_neg (ac4 _)).trans ((aK (bR h)).trans (if_pos h2))
 show(nk k st [a,.loc k]).map V.tup=_
 unfold nk nk nk
 rw[rN h1,e];rfl
noncomputable def Ba:g9:=hV "NetReader" "header" ["ports"] false
noncomputable def Ia:aV:=l8 Ba
noncomputable def I8:Stmt:=bE (bG (bE Ba.body 4) 0) 1
noncomputable def Su(nm:Str)(p:Nat):Ev:=[(q "name",.str nm),(q "ports",.loc p),(q "self",.inst 494 10)]
theorem dW{k:Nat}: ∀{r:List Str},aQ k (r.map V.str)=true
 | []=>rfl
 | x::r=>dW (r:=r)
theorem BE{nm:Str}(R:R4 P ts nets ins outs ord tl): ∀(r:List Str) (ps:List V) (i:Nat),At ts i (cN (r.map cI)++[cq ")"])->aQ 0 ps=true->ps.length+r.length<1000->
  bl Ia (λj m=>bq TT (CI (k+7)) j Ia (kM I8) (bG I8 0) m (SS P ts i (T4 nets ins outs ord (tl++[.lst ps])))) (r.length+201) (Su nm (tl.length+16)) (.go .next (Su nm (tl.length+16)) (SS P ts (i+2* r.length) (T4 nets ins outs ord (tl++[.lst (ps++r.map .str)]))))
 | [],ps,i,h,hb,hl=>by
  have G:=R.grow (x:= .lst ps) hb
  rw[show ps++[].map V.str=ps from aav ps]
  exact gy [fV 0 (la (k:=k+5) (x:=q ",") G.rd (lu (kd:="op") (y:=q ")") (h.at 0 rfl) (by decide+kernel)))] (by kernel_rfl)
 | y::r,ps,i,h,hb,hl=>by
  have G:=R.grow (x:= .lst ps) hb
  rw[aan] at hl ⊢
  have go:=BE (nm:=nm) R r (ps++[V.str y]) (i+1+1) (h.cons (l:=cI y::cN (r.map cI)++[cq ")"])).2.cons.2 (by rw[eX,hb];rfl) (by rw[aag,aaF];exact o67 hl)
  rw[show i+1+1+2* r.length=i+2* (r.length+1) by exact o68,aax] at go
  exact gz (q:=Su nm (tl.length+16)) (l2:=Su nm (tl.length+16)) (st1:=SS P ts (i+1) (T4 nets ins outs ord (tl++[.lst ps]))) (st2:=SS P ts (i+1+1) (T4 nets ins outs ord (tl++[.lst (ps++[.str y])])))
   [fV 0 (iI (k:=k+2) (x:=q ",") G.rd (h.at 0 rfl))] [fP (GX R (i+1) ps),fV 0 (bP (k:=k+2) (x:=y) G.rd (h.at 1 rfl)),fV 7 (Ka R (i+2) ps (.str y) (o69 hl))] (by kernel_rfl) (by kernel_rfl) (aaD (by decide) (aaI _ _)) go
noncomputable def ck(nm:Str)(xs:List Str):List Tk:=[(q "key",qs "module"),cI nm,cq "("]++eg (xs.map cI)++[cq ")",semi]
theorem yR{nm x:Str}{r:List Str}(R:R4 P ts nets ins outs ord tl)(h:At ts i (ck nm (x::r)))(hl:r.length<900):
  CI (k+8) 442 [.inst 494 10] (SS P ts i (T4 nets ins outs ord tl))=ok (.tup [.str nm,.lst ((x::r).map .str)]) (SS P ts (i+(ck nm (x::r)).length) (T4 nets ins outs ord tl)):=by
 have hlen:(ck nm (x::r)).length=2* r.length+6:=by unfold ck;rw[aaq];simp[eZ]
 have h4:At ts (i+4) (cN (r.map cI)++[cq ")",semi]):=by
  have :=(show At ts i ([(q "key",qs "module"),cI nm,cq "(",cI x]++(cN (r.map cI)++[cq ")",semi])) by rw[<-aax];exact h).app.2
  exact this
 have h6:=h4.app.2
 rw[dZ,aae] at h6
 have h5:At ts (i+4) (cN (r.map cI)++[cq ")"]):=(show At ts (i+4) ((cN (r.map cI)++[cq ")"])++[semi]) by rw[aax];exact h4).app.1
 have G:=R.grow (x:= .lst []) rfl
 have hb:aQ 0 (V.str x::r.map V.str)=true:=dW (r:=x::r)
 have G2:=R.grow (x:= .lst (V.str x::r.map V.str)) hb
 have a3:ts[i+3]? =some (cI x):=h.at 3 rfl
 have fz:freeze (tl.length+16) (.tup [.str nm,.loc (tl.length+16)]) (SS P ts (i+4+2* r.length+2) (T4 nets ins outs ord (tl++[.lst (V.str x::r.map V.str)])))=_:=nM R (Bx rfl (gX R _ _) (dU (aaC _) _ hb))
 rw[hlen,show i+(2* r.length+6)=i+4+2* r.length+2 by exact o70]
 exact ay [fV 0 (ni (k:=k+1) (x:=q "module") R.rd (h.at 0 rfl)),fV 0 (bP (k:=k+2) (x:=nm) R.rd (h.at 1 rfl)),fV 0 (aE (k:=k+1) (x:=q "(") R.rd (h.at 2 rfl)),
  fV 0 (uP (kd:="op") (x:=q ")") a3 (show q "id"≠q "op" by decide+kernel)▸mq (k:=k+6) G.rd (q ")")),fP (GX R (i+3) []),fV 0 (bP (k:=k+2) (x:=x) G.rd a3),fV 7 (Ka R (i+4) [] (.str x) (by decide)),
  fR ((BE (k:=k) (nm:=nm) R r [.str x] (i+4) h5 rfl (by rw[aaF];exact o71 hl)).le (N':=2000) (o72 hl)),fV 0 (aE (k:=k+1) (x:=q ")") G2.rd (h6.at 0 rfl)),fV 0 (aE (k:=k+1) (x:=q ";") G2.rd (h6.at 1 rfl)),fV 30 fz] (by kernel_rfl)
end
end Mine
namespace Mine
noncomputable def Bc:g9:=hV "NetReader" "cell" ["nets"] false
noncomputable def vU:aV:=l8 Bc
noncomputable def xe:Stmt:=bE Bc.body 9
noncomputable def PI(a:Int)(kd:Str)(p:Nat)(pr:V)(w:Int):Ev:=[(q "at",.int a),(q "kind",.str kd),(q "nets",.loc p),(q "param",pr),(q "self",.inst 494 10),(q "width",.int w)]
noncomputable def tw(p:Str×Int):Tk:=aD p.1
noncomputable def wV(p:Str×Int):V:= .int p.2
theorem iJ{k:Nat}: ∀{r:List (Str×Int)},aQ k (r.map wV)=true
 | []=>rfl
 | x::r=>iJ (r:=r)
noncomputable def iE(p0:Str×Int)(r:List (Str×Int)):List Tk:=cq "("::tw p0::(cN (r.map tw)++[cq ")",semi])
section
variable{k i:Nat}{P:P9}{tl:List AO}{ts:List Tk}{nets ins outs:List (Str×V)}{ord:List V}
theorem xE{a w:Int}{kd:Str}{pr:V}(R:R4 P ts nets ins outs ord tl): ∀(r:List (Str×Int)) (ps:List V) (i:Nat),At ts i (cN (r.map tw)++[cq ")"])->(∀p∈r,js nets p.1 (.int p.2))->aQ 0 ps=true->ps.length+r.length<1000->
  bl vU (λj m=>bq TT (CI (k+7)) j vU (kM xe) (bG xe 0) m (SS P ts i (T4 nets ins outs ord (tl++[.lst ps])))) (r.length+201) (PI a kd (tl.length+16) pr w) (.go .next (PI a kd (tl.length+16) pr w) (SS P ts (i+2* r.length) (T4 nets ins outs ord (tl++[.lst (ps++r.map wV)]))))
 | [],ps,i,h,j8,hb,hl=>by
  have G:=R.grow (x:= .lst ps) hb
  rw[show ps++[].map wV=ps from aav ps]
  exact gy [fV 0 (la (k:=k+5) (x:=q ",") G.rd (lu (kd:="op") (y:=q ")") (h.at 0 rfl) (by decide+kernel)))] (by kernel_rfl)
 | y::r,ps,i,h,j8,hb,hl=>by
  have G:=R.grow (x:= .lst ps) hb
  rw[aan] at hl ⊢
  have go:=xE (a:=a) (w:=w) (kd:=kd) (pr:=pr) R r (ps++[wV y]) (i+1+1) (h.cons (l:=tw y::cN (r.map tw)++[cq ")"])).2.cons.2 (λp hp=>j8 p (aai _ hp)) (by rw[eX,hb];rfl) (by rw[aag,aaF];exact o67 hl)
  rw[show i+1+1+2* r.length=i+2* (r.length+1) by exact o68,aax] at go
  exact gz (q:=PI a kd (tl.length+16) pr w) (l2:=PI a kd (tl.length+16) pr w) (st1:=SS P ts (i+1) (T4 nets ins outs ord (tl++[.lst ps]))) (st2:=SS P ts (i+1+1) (T4 nets ins outs ord (tl++[.lst (ps++[wV y])])))
   [fV 0 (iI (k:=k+2) (x:=q ",") G.rd (h.at 0 rfl))] [fP (GX R (i+1) ps),fV 0 (iD (k:=k+2) G.rd (h.at 1 (p:=tw y) rfl) (j8 y aak)),fV 7 (Ka R (i+2) ps (wV y) (o69 hl))] (by kernel_rfl) (by kernel_rfl) (aaD (by decide) (aaI _ _)) go
theorem Tf{n:Nat}{x:V}{xs:List V}{st:List AO}(h:st[n]? =some (.lst (x::xs)))(hl:xs.length<=1000):kW false (.loc n) (some 1) none st=ok (.lst xs) st:=by
 have e:items st (.loc n)=some (x::xs):=bR h
 have e1:kW false (.loc n) (some 1) none st=AL false (.loc n) (List.drop (1:Int).toNat) st:=rfl
 exact e1.trans ((aK e).trans ((if_pos (show(x::xs).length<=100000 by rw[aan];exact ZN hl)).trans (if_pos (show xs.length<=100000 by exact xw hl))))
theorem oD{xs:List V}(hl:xs.length<=1000): ∀st,gu false "tuple" [.lst xs] st=ok (.tup xs) st:=λst=>if_pos (show xs.length<=100000 by exact xw hl)
noncomputable def Dr(R:R4 P ts nets ins outs ord tl)(k i:Nat)(a w:Int)(kd:Str)(pr v0:V){r:List (Str×Int)}(h:At ts i (cN (r.map tw)++[cq ")",semi]))(j8: ∀p∈r,js nets p.1 (.int p.2))(hl:r.length<=10)(h0:cH 0 v0=true):List Fc:=
 have h5:At ts i (cN (r.map tw)++[cq ")"]):=(show At ts i ((cN (r.map tw)++[cq ")"])++[semi]) by rw[aax];exact h).app.1
 have h6:At ts (i+2* r.length) [cq ")",semi]:=by have :=h.app.2;rwa [dZ,aae] at this
 have hb:aQ 0 (v0::r.map wV)=true:=by show(cH 0 v0&&aQ 0 (r.map wV))=true;rw[h0,iJ];rfl
 have G:=R.grow (x:= .lst (v0::r.map wV)) hb
 [fR ((xE (k:=k) (a:=a) (w:=w) (kd:=kd) (pr:=pr) R r [v0] i h5 j8 (by show(cH 0 v0&&true)=true;rw[h0];rfl) (by rw[aaF];exact o74 hl)).le (N':=400) (o75 hl)),fV 0 (aE (k:=k+1) (x:=q ")") G.rd (h6.at 0 rfl)),fV 0 (aE (k:=k+1) (x:=q ";") G.rd (h6.at 1 rfl))]
noncomputable def Ds(R:R4 P ts nets ins outs ord tl)(i:Nat)(kd:Str)(pr v0:V)(r:List (Str×Int))(hl:r.length<=10)(hp:cH 0 pr=true)(h0:cH 0 v0=true):List Fc:=
 have g:=gX R (i+2* r.length+2) (.lst (v0::r.map wV))
 have BG:(r.map wV).length<=1000:=by rw[aae];exact PY hl
 [fV 4 (qw (j:=0) (v:=v0) g (by rw[aan];exact ZN BG) (by decide) rfl),fV 8 (Tf g BG),fF 6 (oD BG),
  fV 30 (nM (i:=i+2* r.length+2) (v:= .tup [.str kd,v0,.tup (r.map wV),pr]) (y:= .tup [.str kd,v0,.tup (r.map wV),pr]) (B:=[.lst (v0::r.map wV)]) R (by
   show(nk _ _ [V.str kd,v0,.tup (r.map wV),pr]).map V.tup=_
   rw[ma]
   ·rfl
   ·show(true&&(cH _ v0&&(aQ _ (r.map wV)&&(cH _ pr&&true))))=true
    rw[cU (aaC _) v0 h0,iJ,cU (aaC _) pr hp];rfl))]
noncomputable def Rz(R:R4 P ts nets ins outs ord tl)(i:Nat)(v0:V){r:List (Str×Int)}(hl:r.length<=10):List Fc:=
 have g:=gX R (i+2* r.length+2) (.lst (v0::r.map wV))
 have hz:(v0::r.map wV).length=r.length+1:=by rw[aan,aae]
 have ln:=fV 5 (pQ g (o76 hl hz))
 [fb (Bz (a:=(2^r.length:Nat)) (b:=0) (Int.natCast_nonneg _)),ln,fb (p:=bk .Gt (.int (v0::r.map wV).length) (.int 17)) (c:=false) (λst=>by show ok (decide _) st=_;rw[decide_eq_false (by rw[hz];exact o77 hl)]),ln,
  fF 2 (p:=binI false .Sub (.int (v0::r.map wV).length) (.int 1)) (v:= .int r.length) (λst=>by show ok (V.int _) st=_;rw[show((v0::r.map wV).length:Int)- 1=(r.length:Int) by rw[hz];exact o78]),
  fF 2 (p:=binI false .LShift (.int 1) (.int r.length)) (v:= .int (2^r.length:Nat)) (λst=>by
   show(if 0<=(r.length:Int)/\(r.length:Int)<=1000/\small 1 then ok (V.int (1* 2^((r.length:Int)).toNat)) st else none)=_
   rw[if_pos ⟨by exact SD,by exact o80 hl,rfl⟩]
   simp),
  fb (p:=bk .NotEq (.int (2^r.length:Nat)) (.int (2^r.length:Nat))) (c:=false) (λst=>by show ok (_ !=_) st=_;rw[bne_self_eq_false])]
theorem iC{nm kd:Str}{pr:V}{w:Int}{pl:Nat}{p0:Str×Int}{r:List (Str×Int)}(R:R4 P ts nets ins outs ord tl)
  (zI: ∀st,bk .In (.str nm) (V.tup [qs "gl_mux",qs "gl_lut",qs "gl_cell",qs "gl_flop",qs "gl_latch"]) st=ok true st)
  (uF: ∀st,kW false (.str nm) (some 3) none st=ok (.str kd) st)
  (hp:CI (k+9) 477 [.inst 494 10,.str kd] (SS P ts (i+1) (T4 nets ins outs ord tl))=ok (.tup [pr,.int w]) (SS P ts (i+1+pl) (T4 nets ins outs ord tl)))
  (a0:ts[i]? =some (cI nm)) (h:At ts (i+1+pl) (cI (q "a")::iE p0 r)) (j8: ∀p∈p0::r,js nets p.1 (.int p.2)) (hl:r.length<=10) (hw:w= -1\/w=(2^r.length:Nat)) (hpb:cH 0 pr=true):
  CI (k+10) 484 [.inst 494 10] (SS P ts i (T4 nets ins outs ord tl))=ok (.tup [.str kd,.int p0.2,.tup (r.map wV),pr]) (SS P ts (i+pl+6+2* r.length) (T4 nets ins outs ord tl)):=by
 have D:=R.rd
 have h3:=h.cons.2.cons.2.cons.2
 rw[show i+pl+6+2* r.length=i+1+pl+1+1+1+2* r.length+2 by exact o81]
 rcases hw with rfl | rfl
 ·exact ay ([fV 0 (cf (k:=k+5) D (fg a0)),fF 12 (vG D a0),fb (kE a0 (q "id")),fb zI,fF 8 uF,fV 0 hp,fV 0 (bP (k:=k+4) (x:=q "a") D (h.at 0 rfl)),fV 0 (aE (k:=k+3) (x:=q "(") D (h.at 1 rfl)),fV 0 (iD (k:=k+4) D (h.at 2 (p:=tw p0) rfl) (j8 p0 aak))]++Dr R (k+2) (i+1+pl+1+1+1) (jf ts i) (-1) kd pr (.int p0.2) h3 (λp hp=>j8 p (aai _ hp)) hl rfl++Ds R (i+1+pl+1+1+1) kd pr (.int p0.2) r hl hpb rfl) (by kernel_rfl)
 ·exact ay ([fV 0 (cf (k:=k+5) D (fg a0)),fF 12 (vG D a0),fb (kE a0 (q "id")),fb zI,fF 8 uF,fV 0 hp,fV 0 (bP (k:=k+4) (x:=q "a") D (h.at 0 rfl)),fV 0 (aE (k:=k+3) (x:=q "(") D (h.at 1 rfl)),fV 0 (iD (k:=k+4) D (h.at 2 (p:=tw p0) rfl) (j8 p0 aak))]++Dr R (k+2) (i+1+pl+1+1+1) (jf ts i) (2^r.length:Nat) kd pr (.int p0.2) h3 (λp hp=>j8 p (aai _ hp)) hl rfl++Rz R (i+1+pl+1+1+1) (.int p0.2) hl++Ds R (i+1+pl+1+1+1) kd pr (.int p0.2) r hl hpb rfl) (by kernel_rfl)
end
end Mine
namespace Mine
inductive CK where
 | gate (nm:Str)
 | Eg
 | zL (m b t:Nat)
 | tK (m b t:Nat)
 | ir (e x:Int) (nm:Str)
 | ew (x:Int) (nm:Str)
noncomputable def CK.front:CK->List Tk
 | .gate nm=>[(q "key",.str nm)]
 | .Eg=>[cI (q "gl_mux"),cI (q "a")]
 | .zL m b t=>[cI (q "gl_lut"),cq "#",cq "(",(q "num",gQ m b t),cq ")",cI (q "a")]
 | .tK m b t=>[cI (q "gl_cell"),cq "#",cq "(",(q "str",qs "O W"),comma,(q "num",gQ m b t),cq ")",cI (q "a")]
 | .ir e x nm=>[cI (q "gl_flop"),cq "#",cq "(",bY e,comma,(q "str",.str nm),comma,bY x,cq ")",cI (q "a")]
 | .ew x nm=>[cI (q "gl_latch"),cq "#",cq "(",(q "str",.str nm),comma,bY x,cq ")",cI (q "a")]
noncomputable def CK.kd:CK->Str
 | .gate nm=>nm
 | .Eg=>q "mux"
 | .zL _ _ _=>q "lut"
 | .tK _ _ _=>q "cell"
 | .ir _ _ _=>q "flop"
 | .ew _ _=>q "latch"
noncomputable def CK.pr:CK->V
 | .zL _ _ t=> .int t
 | .tK _ _ t=> .tup [qs "O W",.int t]
 | .ir e x nm=> .tup [.int e,.str nm,.int x]
 | .ew x nm=> .tup [.str nm,.int x]
 | _=> .none
def dX(x:Int):Prop:=x=0\/x=1
noncomputable def CK.Ok(n:Nat):CK->Prop
 | .gate nm=>(nm=q "and"/\n=2)\/(nm=q "xnor"/\n=2)\/(nm=q "not"/\n=1)
 | .Eg=>n=3
 | .zL m b t=>m<3/\b<3/\t<2^2^m/\n=m
 | .tK m b t=>m<3/\b<3/\t<2^2^m/\n=m
 | .ir e x _=>dX e/\dX x/\n=4
 | .ew x _=>dX x/\n=4
noncomputable def cW(c:CK)(p0:Str×Int)(r:List (Str×Int)):V:= .tup [.str c.kd,.int p0.2,.tup (r.map wV),c.pr]
section
variable{k i:Nat}{P:P9}{tl:List AO}{ts:List Tk}{nets ins outs:List (Str×V)}{ord:List V}
noncomputable def sj:V:= .tup [qs "buf",qs "not",qs "and",qs "or",qs "xor",qs "nand",qs "nor",qs "xnor"]
theorem FF{nm:Str}{p0:Str×Int}{r:List (Str×Int)}(R:R4 P ts nets ins outs ord tl)(zI: ∀st,bk .NotIn (.str nm) sj st=ok false st)
  (h:At ts i ((q "key",.str nm)::iE p0 r)) (j8: ∀p∈p0::r,js nets p.1 (.int p.2)) (hl:r.length<=10):
  CI (k+10) 484 [.inst 494 10] (SS P ts i (T4 nets ins outs ord tl))=ok (.tup [.str nm,.int p0.2,.tup (r.map wV),.none]) (SS P ts (i+5+2* r.length) (T4 nets ins outs ord tl)):=by
 have D:=R.rd
 have h3:=h.cons.2.cons.2.cons.2
 have a0:=h.at 0 rfl
 rw[show i+5+2* r.length=i+1+1+1+2* r.length+2 by exact o8]
 exact ay ([fV 0 (cf (k:=k+5) D (fg a0)),fF 12 (vG D a0),fb (kE a0 (q "id")),fb (kN a0 (q "key")),fb zI,fV 0 (aE (k:=k+3) (x:=q "(") D (h.at 1 rfl)),fV 0 (iD (k:=k+4) D (h.at 2 (p:=tw p0) rfl) (j8 p0 aak))]
  ++Dr R (k+2) (i+1+1+1) (jf ts i) (-1) nm .none (.int p0.2) h3 (λp hp=>j8 p (aai _ hp)) hl rfl++Ds R (i+1+1+1) nm .none (.int p0.2) r hl rfl rfl) (by kernel_rfl)
theorem By{nm x:Str}{p0:Str×Int}(R:R4 P ts nets ins outs ord tl)(zI: ∀st,bk .NotIn (.str nm) sj st=ok false st)
  (h:At ts i [(q "key",.str nm),cq "(",tw p0,comma,cI x]) (j8:js nets p0.1 (.int p0.2)) (hx:nets.lookup x=none):
  CI (k+10) 484 [.inst 494 10] (SS P ts i (T4 nets ins outs ord tl))=some (.error ⟨52,qs "unknown_net",.int (jf ts (i+4)),qs ""⟩,SS P ts (i+4) (T4 nets ins outs ord (tl++[AO.lst [V.int p0.2]]))):=by
 have D:=R.rd
 have G:=R.grow (x:= .lst [V.int p0.2]) rfl
 have a0:=h.at 0 rfl
 have lp:bl vU (λj m=>bq TT (CI (k+9)) j vU (kM xe) (bG xe 0) m (SS P ts (i+3) (T4 nets ins outs ord (tl++[.lst [V.int p0.2]])))) 201 (PI (jf ts i) nm (tl.length+16) .none (-1)) (.er ⟨52,qs "unknown_net",.int (jf ts (i+4)),qs ""⟩ (SS P ts (i+4) (T4 nets ins outs ord (tl++[AO.lst [V.int p0.2]])))):=
  tD (q:=[]) (st1:=SS P ts (i+4) (T4 nets ins outs ord (tl++[.lst [V.int p0.2]]))) [fV 0 (iI (k:=k+4) (x:=q ",") G.rd (h.at 3 rfl))] [fP (GX R (i+4) [.int p0.2]),fE (Gx (k:=k+4) G.rd (h.at 4 (p:=cI x) rfl) hx)] (by kernel_rfl) (by kernel_rfl)
 exact gL [fV 0 (cf (k:=k+5) D (fg a0)),fF 12 (vG D a0),fb (kE a0 (q "id")),fb (kN a0 (q "key")),fb zI,fV 0 (aE (k:=k+3) (x:=q "(") D (h.at 1 rfl)),fV 0 (iD (k:=k+4) D (h.at 2 (p:=tw p0) rfl) j8),fR lp] (by kernel_rfl)
theorem CJ{p0:Str×Int}{r:List (Str×Int)}:(iE p0 r).length=4+2* r.length:=by
 unfold iE
 rw[aan,aan,aag,dZ,aae]
 simp;exact o9
theorem CK.Ok.le{n:Nat}{c:CK}(h:c.Ok n):n<=10:=by
 cases c<;>simp only[CK.Ok] at h<;>omega
theorem E5{c:CK}{p0:Str×Int}{r:List (Str×Int)}(R:R4 P ts nets ins outs ord tl)(hc:c.Ok r.length)(h:At ts i (c.front++iE p0 r))(j8: ∀p∈p0::r,js nets p.1 (.int p.2)):
  CI (k+10) 484 [.inst 494 10] (SS P ts i (T4 nets ins outs ord tl))=ok (cW c p0 r) (SS P ts (i+(c.front++iE p0 r).length) (T4 nets ins outs ord tl)):=by
 have D:=R.rd
 have hl:=hc.le
 have a0:=h 0
 have e1: ∀n,i+(n+2)+(4+2* r.length)=i+n+6+2* r.length:=λn=>by exact o10
 rw[aag,CJ,<-ab1]
 cases c with
 | gate nm=>
  have e:=FF (k:=k) (nm:=nm) R (λst=>by rcases hc with⟨rfl,_⟩ | ⟨rfl,_⟩ | ⟨rfl,_⟩<;>kernel_rfl) h j8 hl
  rw[show i+5+2* r.length=i+1+(4+2* r.length) by exact o11] at e
  exact e
 | Eg=>exact e1 0▸iC (k:=k) (nm:=q "gl_mux") (kd:=q "mux") (pr:= .none) (w:= -1) (pl:=0) R (λst=>by kernel_rfl) (λst=>by kernel_rfl) GR (h.at 0 rfl) (h.cons (l:=cI (q "a")::iE p0 r)).2 j8 hl (.inl rfl) rfl
 | zL m b t=>
  refine jj hc λhm hb ht hn=> ?_;clear hc
  have h2:At ts (i+1) ([cq "#",cq "(",(q "num",gQ m b t),cq ")"]++(cI (q "a")::iE p0 r)):=(h.cons (l:=[cq "#",cq "(",(q "num",gQ m b t),cq ")"]++(cI (q "a")::iE p0 r))).2
  exact e1 4▸iC (k:=k) (nm:=q "gl_lut") (kd:=q "lut") (pr:= .int t) (w:=(2^m:Nat)) (pl:=4) R (λst=>by kernel_rfl) (λst=>by kernel_rfl) (GQ (k:=k) D hm hb ht h2.app.1) (h.at 0 rfl) h2.app.2 j8 hl (.inr (by rw[hn])) rfl
 | tK m b t=>
  refine jj hc λhm hb ht hn=> ?_;clear hc
  have h2:At ts (i+1) ([cq "#",cq "(",(q "str",qs "O W"),comma,(q "num",gQ m b t),cq ")"]++(cI (q "a")::iE p0 r)):=(h.cons (l:=[cq "#",cq "(",(q "str",qs "O W"),comma,(q "num",gQ m b t),cq ")"]++(cI (q "a")::iE p0 r))).2
  exact e1 6▸iC (k:=k) (nm:=q "gl_cell") (kd:=q "cell") (pr:= .tup [qs "O W",.int t]) (w:=(2^m:Nat)) (pl:=6) R (λst=>by kernel_rfl) (λst=>by kernel_rfl) (CG (k:=k) (nm:=q "O W") D hm hb ht h2.app.1) (h.at 0 rfl) h2.app.2 j8 hl (.inr (by rw[hn])) rfl
 | ir e x nm=>
  refine bM hc λhe hx hn=> ?_;clear hc
  have h2:At ts (i+1) ([cq "#",cq "(",bY e,comma,(q "str",.str nm),comma,bY x,cq ")"]++(cI (q "a")::iE p0 r)):=(h.cons (l:=[cq "#",cq "(",bY e,comma,(q "str",.str nm),comma,bY x,cq ")"]++(cI (q "a")::iE p0 r))).2
  exact e1 8▸iC (k:=k) (nm:=q "gl_flop") (kd:=q "flop") (pr:= .tup [.int e,.str nm,.int x]) (w:= -1) (pl:=8) R (λst=>by kernel_rfl) (λst=>by kernel_rfl) (CH (k:=k) D he hx h2.app.1) (h.at 0 rfl) h2.app.2 j8 hl (.inl rfl) rfl
 | ew x nm=>
  refine aO hc λhx hn=> ?_;clear hc
  have h2:At ts (i+1) ([cq "#",cq "(",(q "str",.str nm),comma,bY x,cq ")"]++(cI (q "a")::iE p0 r)):=(h.cons (l:=[cq "#",cq "(",(q "str",.str nm),comma,bY x,cq ")"]++(cI (q "a")::iE p0 r))).2
  exact e1 6▸iC (k:=k) (nm:=q "gl_latch") (kd:=q "latch") (pr:= .tup [.str nm,.int x]) (w:= -1) (pl:=6) R (λst=>by kernel_rfl) (λst=>by kernel_rfl) (zh (k:=k) D hx h2.app.1) (h.at 0 rfl) h2.app.2 j8 hl (.inl rfl) rfl
end
section
variable{k:Nat}{st:List AO}
theorem BU{m t:Nat}(hm:m<3)(ht:t<2^2^m):CI (k+1) 159 [.int t,.int m] st=ok (.bool true) st:=by
 revert ht
 refine below (n:=3) (p:=λm=>t<2^2^m->CI (k+1) 159 [.int t,.int m] st=ok (.bool true) st) ⟨⟨⟨trivial,?_⟩,?_⟩,?_⟩ hm
 all_goals
  refine λht=>below (p:=λt=>CI (k+1) 159 [.int t,.int _] st=ok (.bool true) st) ?_ ht
  repeat' (first | exact trivial | apply And.intro)
  all_goals kernel_rfl
theorem xV{xs:List V}(hl:xs.length<=1000): ∀st,bC "len" [.tup xs] st=ok (.int xs.length) st:=λst=>pR rfl (aaD hl (by decide))
theorem fits{c:CK}{p0:Str×Int}{r:List (Str×Int)}(hc:c.Ok r.length):CI (k+2) 166 [cW c p0 r] st=ok (.bool true) st:=by
 have e2:=xV (xs:=r.map wV) (by rw[aae];have :=hc.le;exact PY this)
 rw[aae] at e2
 cases c with
 | gate nm=>rcases hc with⟨rfl,_⟩ | ⟨rfl,_⟩ | ⟨rfl,_⟩<;>kernel_rfl
 | Eg=>kernel_rfl
 | zL m b t=>
  refine jj hc λhm hb ht hn=> ?_;clear hc
  rw[hn] at e2
  exact ay [fF 5 e2,fV 0 (BU (k:=k) (st:=st) hm ht)] (by kernel_rfl)
 | tK m b t=>
  refine jj hc λhm hb ht hn=> ?_;clear hc
  rw[hn] at e2
  exact ay [no 5,no 5,fF 5 e2,fV 0 (BU (k:=k) (st:=st) hm ht)] (by kernel_rfl)
 | ir e x nm=>
  refine bM hc λhe hx hn=> ?_;clear hc
  rcases he with rfl | rfl<;>rcases hx with rfl | rfl<;>kernel_rfl
 | ew x nm=>
  refine aO hc λhx hn=> ?_;clear hc
  rcases hx with rfl | rfl<;>kernel_rfl
end
end Mine
namespace Mine
noncomputable def zd(name:V)(c:Int)(L:Nat):List (Str×V):=[(q "name",name),(q "count",.int c),(q "inputs",.loc (L+1)),(q "outputs",.loc (L+2)),(q "cells",.loc (L+3))]
section
variable{k:Nat}{A:List AO}
theorem xn{name:V}:gf TT (CI (k+1)) false (.ref 141) [name] A=ok (.inst 141 A.length) (A++[AO.aF (zd name 2 A.length),AO.lst [],AO.lst [],AO.lst []]):=by
 have e:gf TT (CI (k+1)) false (.ref 141) [name] A=(CI (k+1) 80 [.inst 141 A.length,name] (A++[.aF []])).bind (uY false 141 A.length):=rfl
 have w: ∀(fs:List (Str×V)) (r:List AO) (n:String) (v:V),Nat.ble fs.length 900=true->Df (.inst 141 A.length) (q n) v (A++ .aF fs::r)=some (A++ .aF (putK (q n) v fs)::r):=λfs r n v hl=>by
  have g:(A++AO.aF fs::r)[A.length]? =some (.aF fs):=by simp
  refine(aK (cZ g)).trans ((if_pos (aam hl)).trans ?_)
  simp
 have m: ∀(o:AO) (r:List AO),mk true [] (A++o::r)=ok (.loc (A.length+(r.length+1))) (A++o::(r++[.lst []])):=λo r=>by
  show ok (V.loc (A++o::r).length) ((A++o::r)++[.lst []])=_
  rw[aag,aax];rfl
 have i:CI (k+1) 80 [.inst 141 A.length,name] (A++[.aF []])=ok .none (A++[AO.aF (zd name 2 A.length),AO.lst [],AO.lst [],AO.lst []]):=
  ay [fS 11 (w [] [] "name" name rfl),fS 11 (w [(q "name",name)] [] "count" (.int 2) rfl),fV 31 (m (.aF [(q "name",name),(q "count",.int 2)]) []),fS 11 (w [(q "name",name),(q "count",.int 2)] [.lst []] "inputs" (.loc (A.length+1)) rfl),
   fV 31 (m (.aF [(q "name",name),(q "count",.int 2),(q "inputs",.loc (A.length+1))]) [.lst []]),fS 11 (w [(q "name",name),(q "count",.int 2),(q "inputs",.loc (A.length+1))] [.lst [],.lst []] "outputs" (.loc (A.length+2)) rfl),
   fV 31 (m (.aF [(q "name",name),(q "count",.int 2),(q "inputs",.loc (A.length+1)),(q "outputs",.loc (A.length+2))]) [.lst [],.lst []]),fS 11 (w [(q "name",name),(q "count",.int 2),(q "inputs",.loc (A.length+1)),(q "outputs",.loc (A.length+2))] [.lst [],.lst [],.lst []] "cells" (.loc (A.length+3)) rfl)] (by kernel_rfl)
 rw[e,i];rfl
theorem Ot{c:CK}{n:Nat}(hc:c.Ok n): ∃e:Int,(∀st,CI (k+1) 152 [.str c.kd] st=ok (.int e) st)/\(e=n\/e= -1):=by
 cases c with
 | gate nm=>
  rcases hc with⟨rfl,rfl⟩ | ⟨rfl,rfl⟩ | ⟨rfl,rfl⟩
  ·exact⟨2,λst=>by kernel_rfl,.inl rfl⟩
  ·exact⟨2,λst=>by kernel_rfl,.inl rfl⟩
  ·exact⟨1,λst=>by kernel_rfl,.inl rfl⟩
 | Eg=>cases hc;exact⟨3,λst=>by kernel_rfl,.inl rfl⟩
 | zL m b t=>exact⟨-1,λst=>by kernel_rfl,.inr rfl⟩
 | tK m b t=>exact⟨-1,λst=>by kernel_rfl,.inr rfl⟩
 | ir e x nm=>refine bM hc ?_;clear hc;rintro _ _ rfl;exact⟨4,λst=>by kernel_rfl,.inl rfl⟩
 | ew x nm=>refine aO hc ?_;clear hc;rintro _ rfl;exact⟨4,λst=>by kernel_rfl,.inl rfl⟩
theorem Tv{a b:Int}{c:Bool}(h:(a==b)=c): ∀st,bk .Eq (.int a) (.int b) st=ok c st:=λst=>by rw[<-h];rfl
theorem nei{a b:Int}{c:Bool}(h:(a !=b)=c): ∀st,bk .NotEq (.int a) (.int b) st=ok c st:=λst=>by rw[<-h];rfl
theorem CK.ql{c:CK}{k:Nat}:cH k c.pr=true:=by cases c<;>rfl
theorem nR{c:CK}{p0:Str×Int}{r:List (Str×Int)}{k:Nat}:cH k (cW c p0 r)=true:=by
 show(true&&(true&&(aQ k (r.map wV)&&(cH k c.pr&&true))))=true
 rw[iJ,CK.ql];rfl
theorem cM{st:List AO}{n i:Nat}{xs:List V}(h:st[n]? =some (.lst xs))(hl:xs.length<=100000):fq st (.loc n) i=some xs[i]? :=by
 exact(aK (bR h)).trans (if_pos hl)
theorem lM{C n:Nat}{f:Str}{fs:List (Str×V)}{v:V}{st:List AO}(hT:TT.attr C f=true)(h:st[n]? =some (.aF fs))(hv:fs.lookup f=some v)(hp:v.plain=true):oR TT (.inst C n) f st=ok v st:=by
 show(if TT.attr C f then rO (.inst C n) f st else none)=_
 rw[if_pos hT]
 exact(aK (cZ h)).trans ((aK hv).trans (if_pos hp))
noncomputable def A9:g9:=jn "cell_faults" ["faults"] false
noncomputable def H9:aV:=l8 A9
noncomputable def I7:Stmt:=bE A9.body 1
theorem Oe{c:CK}{p0:Str×Int}{r:List (Str×Int)}{n j:Nat}{fs:List (Str×V)}(hc:c.Ok r.length)(hA:A.all (bA A.length)=true)(h1:A[n]? =some (.aF fs))(h2:fs.lookup (q "cells")=some (.loc j))(h3:A[j]? =some (.lst [cW c p0 r])):
  CI (k+3) 173 [.inst 141 n] A=ok (.lst []) A:=by
 refine ao (Ot (k:=k+1) hc) λe he IV=> ?_
 have hl:=hc.le
 have g1:(A++[AO.lst []])[n]? =some (.aF fs):=by rw[aaV (aar.mp h1).1];exact h1
 have g3:(A++[AO.lst []])[j]? =some (.lst [cW c p0 r]):=by rw[aaV (aar.mp h3).1];exact h3
 have fz:freeze A.length (.loc A.length) (A++[AO.lst []])=ok (.lst []) A:=jI rfl hA (by
  show rM A.length (A++[AO.lst []]) (.loc A.length)=_
  exact(if_neg (ac4 _)).trans ((aK (bR abC)).trans rfl))
 have fin:bl H9 (λj' m=>cP TT (CI (k+2)) j' H9 (kM I7) (bG I7 0) (.loc j) 0 m (A++[AO.lst []])) 202 [(q "faults",.loc A.length)] (.go .next [(q "faults",.loc A.length)] (A++[AO.lst []])):=by
  rcases IV with IV | IV
  ·have tl:=xV (xs:=r.map wV) (by rw[aae];exact PY hl)
   rw[aae] at tl
   exact fT (q:=[(q "faults",.loc A.length)]) (v:=cW c p0 r) (l2:=[(q "faults",.loc A.length),(q "cell",cW c p0 r)]) (cM g3 (aam rfl)) (by kernel_rfl) [fU (k+2) (he (A++[AO.lst []])) rfl,fb (Tv (a:=e) (b:= -2) (c:=false) (by rcases IV with rfl | rfl<;>simp <;>omega)),fb (Bz (a:=e) (b:=0) (o13 IV)),fF 5 tl,fb (nei (a:=r.length) (b:=e) (c:=false) (by simp[IV])),fV 0 (fits (k:=k) (st:=A++[AO.lst []]) (p0:=p0) hc)] (by kernel_rfl) (by decide) (cz (cM g3 (aam rfl)))
  ·exact fT (q:=[(q "faults",.loc A.length)]) (v:=cW c p0 r) (l2:=[(q "faults",.loc A.length),(q "cell",cW c p0 r)]) (cM g3 (aam rfl)) (by kernel_rfl) [fU (k+2) (he (A++[AO.lst []])) rfl,fb (Tv (a:=e) (b:= -2) (c:=false) (by rw[IV];rfl)),fb (yJ (a:=e) (b:=0) (o14 IV)),fV 0 (fits (k:=k) (st:=A++[AO.lst []]) (p0:=p0) hc)] (by kernel_rfl) (by decide) (cz (cM g3 (aam rfl)))
 exact ay [fV 1 (lM (C:=141) (f:=q "cells") (by kernel_rfl) g1 h2 rfl),fR (fin.le (N':=400) (by decide)),fV 30 fz] (by kernel_rfl)
theorem Dp{n:Nat}{xs:List V}{v:V}{st:List AO}(h:st[n]? =some (.lst (xs++[v])))(hl:xs.length<1000):eQ (.loc n) (.int (-1)) st=ok v st:=by
 have e:bB st (.loc n)=some (xs++[v]):=bR h
 have e2:pW (-1) (xs++[v]).length=some xs.length:=by
  unfold pW
  rw[if_neg (by simp),if_pos (by simp;exact o15)]
  simp;exact o16
 have gH:(xs++[v]).length<=100000:=by simp;exact o17 hl
 exact(aK e).trans ((if_pos gH).trans ((aK e2).trans (aK abC)))
theorem Km{c:CK}{p0:Str×Int}{r:List (Str×Int)}{n j:Nat}{fs:List (Str×V)}{cs:List V}(hc:c.Ok r.length)(hA:A.all (bA A.length)=true)(h1:A[n]? =some (.aF fs))(h2:fs.lookup (q "cells")=some (.loc j))(h3:A[j]? =some (.lst (cs++[cW c p0 r])))(hl:cs.length<1000):
  CI (k+4) 503 [.inst 141 n] A=ok (.lst []) A:=by
 let B:List V->List AO:=λx=>A++[AO.aF (zd (qs "") 2 A.length),AO.lst [],AO.lst [],AO.lst x]
 have gn: ∀x,(B x)[n]? =some (.aF fs):=λx=>by show(A++_)[n]? =_;rw[aaV (aar.mp h1).1];exact h1
 have gj: ∀x,(B x)[j]? =some (.lst (cs++[cW c p0 r])):=λx=>by show(A++_)[j]? =_;rw[aaV (aar.mp h3).1];exact h3
 have g0: ∀x,(B x)[A.length]? =some (.aF (zd (qs "") 2 A.length)):=λx=>by show(A++_)[A.length]? =_;simp
 have g3: ∀x,(B x)[A.length+3]? =some (.lst x):=λx=>by show(A++_)[A.length+3]? =_;rw[aau (o18)];simp
 have s3: ∀x y,(B x).set (A.length+3) (.lst y)=B y:=λx y=>by show(A++_).set (A.length+3) _=A++_;rw[abf _ _ (o18)];simp
 have hB:(B [cW c p0 r]).all (bA (B [cW c p0 r]).length)=true:=by
  have hl:(B [cW c p0 r]).length=A.length+4:=by show(A++_).length=_;simp
  rw[hl]
  show(A++_).all _=true
  rw[ada,ib (o19) hA]
  simp[bA,aQ,dg,zd,cH,nR]
 have lk:(zd (qs "") 2 A.length).lookup (q "cells")=some (.loc (A.length+3)):=by kernel_rfl
 have at0:oR TT (.inst 141 A.length) (q "cells") (B [])=ok (.loc (A.length+3)) (B []):=lM (by kernel_rfl) (g0 []) lk rfl
 exact ay [fV 0 (xn (k:=k+2) (name:=qs "") (A:=A)),fV 1 at0,fP (zj (nm:=q "append") (g3 []) (by decide+kernel)),fV 1 (lM (C:=141) (f:=q "cells") (by kernel_rfl) (gn []) h2 rfl),fV 4 (Dp (gj []) hl),fV 7 ((bW (v:=cW c p0 r) (g3 []) (by decide)).trans (by rw[s3])),
  fV 0 (Oe (k:=k) (p0:=p0) (r:=r) hc hB (g0 _) lk (g3 _)),fV 30 (show freeze A.length (.lst []) (A++[AO.aF (zd (qs "") 2 A.length),AO.lst [],AO.lst [],AO.lst [cW c p0 r]])=ok (.lst []) A from jI rfl hA rfl)] (by kernel_rfl)
end
end Mine
namespace Mine
noncomputable abbrev dA:=Bool×Str×List Int
structure Q where
 nets:List (Str×Int)
 ah:List dA
 cells:List V
noncomputable def bJ(l:List (Str×Int)):List (Str×V):=l.map λp=>(p.1,.int p.2)
noncomputable def bg(w:Bool):Nat->List dA->List (Str×V)
 | _,[]=>[]
 | j,(d,nm,_)::r=>if d=w then(nm,.loc (j+16))::bg w (j+1) r else bg w (j+1) r
noncomputable def fZ(p:dA):AO:= .lst (p.2.2.map V.int)
noncomputable def dQ(p:dA):V:= .str p.2.1
noncomputable def mV(nm:Str)(s:Q):List AO:=[AO.aF (zd (.str nm) 2 16),AO.lst [],AO.lst [],AO.lst s.cells]++s.ah.map fZ
structure j9(s:Q):Prop where
 nd:(s.ah.map (·.2.1)).Nodup
 lp:s.ah.length<=20
 ln:s.nets.length<=20
 lc:s.cells.length<=20
 cb:aQ 0 s.cells=true
 rl: ∀p∈s.ah,p.2.2.length<=1000
structure RB(P:P9)(ts:List Tk):Prop where
 h0:P.l.all (bA 0)=true
 W:vZ ts
noncomputable def fw(nm:Str)(s:Q):List AO:=T4 (bJ s.nets) (bg true 4 s.ah) (bg false 4 s.ah) (s.ah.map dQ) (mV nm s)
theorem dI{x:Str}: ∀{l:List (Str×Int)},(bJ l).lookup x=(l.lookup x).map V.int
 | []=>rfl
 | (y,v)::l=>by
  show acM x ((y,V.int v)::bJ l)=_
  rw[aao,aao,dI (l:=l)]
  cases x==y<;>rfl
theorem e9{w:Bool}: ∀{l:List dA} {j:Nat},(bg w j l).length<=l.length
 | [],_=>aaw _
 | (d,nm,row)::l,j=>by
  unfold bg
  split
  ·simp;exact e9
  ·have :=e9 (w:=w) (l:=l) (j:=j+1);simp;exact o20 this
theorem jF{w:Bool}{k:Nat}: ∀{l:List dA} {j:Nat},j+16+l.length<=k->dg k (bg w j l)=true
 | [],_,_=>rfl
 | (d,nm,row)::l,j,h=>by
  simp only[aan] at h
  unfold bg
  split
  ·show(cH k (.loc (j+16))&&dg k (bg w (j+1) l))=true
   rw[jF (o21 h)]
   simp only[cH,abE,decide_eq_true_eq];exact o22 h
  ·exact jF (o21 h)
theorem cJ{w:Bool}{x:Str}: ∀{l:List dA} {j:Nat},(∀p∈l,p.1=w->p.2.1≠x)->(bg w j l).lookup x=none
 | [],_,_=>rfl
 | (d,nm,row)::l,j,h=>by
  unfold bg
  split
  ·rename_i e
   have :nm≠x:=h (d,nm,row) (by simp) e
   rw[aao,beq_false_of_ne (Ne.symm this)]
   exact cJ λp hp=>h p (aai _ hp)
  ·exact cJ λp hp=>h p (aai _ hp)
theorem e8{w:Bool}{x:Str}{row:List Int}: ∀{l:List dA} {j i:Nat},(l.map (·.2.1)).Nodup->l[i]? =some (w,x,row)->(bg w j l).lookup x=some (.loc (i+j+16))
 | [],_,_,_,h=>by simp at h
 | (d,nm,rw0)::l,j,i,nd,h=>by
  rw[aaq,aaK] at nd
  cases i with
  | zero=>
   simp only[acE,ab3,Prod.mk.injEq] at h
   refine bM h ?_;clear h;rintro rfl rfl rfl
   unfold bg
   rw[if_pos rfl,aao];simp
  | succ i=>
   simp only[abr] at h
   have hx:nm≠x:=λe=>nd.1 (by rw[e];exact aaH.mpr ⟨(w,x,row),aas h,rfl⟩)
   have ih:=e8 (j:=j+1) nd.2 h
   rw[show i+(j+1)=i+1+j by exact o23] at ih
   unfold bg
   split
   ·rw[aao,beq_false_of_ne (Ne.symm hx)];exact ih
   ·exact ih
theorem lW{w:Bool}{p:dA}: ∀{l:List dA} {j:Nat},bg w j (l++[p])=bg w j l++(if p.1=w then [(p.2.1,.loc (l.length+j+16))] else [])
 | [],j=>by
  obtain⟨d,nm,row⟩:=p
  show bg w j [(d,nm,row)]=_
  simp[bg]
 | (d,nm,row)::l,j=>by
  show bg w j ((d,nm,row)::(l++[p]))=_
  unfold bg
  rw[lW (l:=l),show l.length+(j+1)=((d,nm,row)::l).length+j by rw[aan];exact o23]
  split<;>simp
theorem lY{w:Bool}{d:Bool}{x:Str}{row MA:List Int}: ∀{l:List dA} {j i:Nat},l[i]? =some (d,x,row)->bg w j (l.set i (d,x,MA))=bg w j l
 | [],_,_,h=>by simp at h
 | (d0,nm,rw0)::l,j,i,h=>by
  cases i with
  | zero=>
   simp only[acE,ab3,Prod.mk.injEq] at h
   refine bM h ?_;clear h;rintro rfl rfl rfl
   show bg w j ((d0,nm,MA)::l)=_
   unfold bg;rfl
  | succ i=>
   simp only[abr] at h
   show bg w j ((d0,nm,rw0)::l.set i (d,x,MA))=_
   unfold bg
   rw[lY h]
theorem sV{k:Nat}: ∀{l:List dA},(l.map fZ).all (bA k)=true
 | []=>rfl
 | p::l=>by
  rw[aaq,abq,sV (l:=l),abE]
  show aQ k (p.2.2.map V.int)=true
  rw[bX];intro x hx
  refine ae hx ?_;rintro y _ rfl;rfl
theorem se{k:Nat}: ∀{l:List (Str×Int)},dg k (bJ l)=true
 | []=>rfl
 | p::l=>by show(cH k (.int p.2)&&dg k (bJ l))=true;rw[se];rfl
theorem xx{k:Nat}: ∀{l:List dA},aQ k (l.map dQ)=true
 | []=>rfl
 | p::l=>by rw[aaq];show(cH k (dQ p)&&aQ k (l.map dQ))=true;rw[xx];rfl
section
variable{P:P9}{ts:List Tk}{nm:Str}{s:Q}
theorem lH:(mV nm s).length=s.ah.length+4:=by show(s.ah.map fZ).length+4=_;rw[aae]
theorem j9.R(h:j9 s)(B:RB P ts):R4 P ts (bJ s.nets) (bg true 4 s.ah) (bg false 4 s.ah) (s.ah.map dQ) (mV nm s) where
 h0:=B.h0
 W:=B.W
 n:=se
 i:=jF (by rw[lH];exact o24)
 o:=jF (by rw[lH];exact o24)
 d:=xx
 t:=by
  rw[lH]
  unfold mV
  rw[ada,sV,abE]
  have e:aQ (s.ah.length+4+16) s.cells=true:=dU (aaC _) _ h.cb
  simp[bA,dg,zd,cH,aQ,e]
 ln:=by simp[bJ];have :=h.ln;exact Qv this
 li:=by have :=e9 (w:=true) (l:=s.ah) (j:=4);have :=h.lp;omega
 lo:=by have :=e9 (w:=false) (l:=s.ah) (j:=4);have :=h.lp;omega
 ld:=by simp;have :=h.lp;exact Qv this
end
set_option genInjectivity true in
inductive It where
 | port (d:Bool) (nm:Str) (n:Int)
 | wire (x:Str) (r:List Str)
 | asg (d:Bool) (nm:Str) (b:Int) (w:Str)
 | cell (c:CK) (out:Str) (ins:List Str)
noncomputable def cu(d:Bool):String:=if d then"input" else"output"
noncomputable def nE(out:Str)(ins:List Str):List Tk:=cq "("::aD out::(cN (ins.map aD)++[cq ")",semi])
noncomputable def It.text:It->List Tk
 | .port d nm n=>iF (cu d) n nm
 | .wire x r=>(q "key",qs "wire")::(eg ((x::r).map cI)++[semi])
 | .asg d nm b w=>S6 (cu d) nm b w
 | .cell c out ins=>c.front++nE out ins
noncomputable def bD(s:Q)(w:Str):Option Int:=if w=q "0" then some 0 else if w=q "1" then some 1 else s.nets.lookup w
noncomputable def addQ(l:List (Str×Int)):List Str->List (Str×Int)
 | []=>l
 | x::r=>addQ (l++[(x,(l.length:Int)+2)]) r
noncomputable def aG(s:Q)(w:Str):Int:=(bD s w).getD (-7)
noncomputable def d6(nm:Str)(b:Int)(v:Int)(p:dA):dA:=if p.2.1=nm then(p.1,p.2.1,p.2.2.set b.toNat v) else p
noncomputable def It.step(s:Q):It->Q
 | .port d nm n=>{s with ah:=s.ah++[(d,nm,aaB (n+1).toNat (-1))]}
 | .wire x r=>{s with nets:=addQ s.nets (x::r)}
 | .asg _ nm b w=>{s with ah:=s.ah.map (d6 nm b (aG s w))}
 | .cell c out ins=>{s with cells:=s.cells++[cW c (out,aG s out) (ins.map λw=>(w,aG s w))]}
noncomputable def It.ok(s:Q):It->Prop
 | .port d nm n=>(n= -1\/n=0\/n=1)/\(∀p∈s.ah,p.2.1≠nm)/\s.nets.lookup nm=none/\s.ah.length<20
 | .wire x r=>(x::r).Nodup/\(∀y∈x::r,s.nets.lookup y=none/\ ∀p∈s.ah,p.2.1≠y)/\s.nets.length+r.length<20
 | .asg d nm b w=>dX b/\(∃row,(d,nm,row)∈s.ah/\row[b.toNat]? =some (-1))/\(∃v,bD s w=some v)/\(∀p∈s.ah,p.2.1≠w)
 | .cell c out ins=>c.Ok ins.length/\(∀w∈out::ins,∃v,bD s w=some v)/\s.cells.length<20
theorem lK: ∀{r:List Str} {l:List (Str×Int)},kS (bJ l) r=bJ (addQ l r)
 | [],_=>rfl
 | x::r,l=>by
  show kS (bJ l++[(x,.int ((bJ l).length+2))]) r=bJ (addQ (l++[(x,(l.length:Int)+2)]) r)
  rw[<-lK]
  simp[bJ]
theorem qW: ∀{r:List Str} {l:List (Str×Int)},(addQ l r).length=l.length+r.length
 | [],_=>rfl
 | x::r,l=>by show(addQ (l++[(x,(l.length:Int)+2)]) r).length=_;rw[qW];simp;exact o26
theorem jP{s:Q}{w:Str}{v:Int}(h:bD s w=some v):js (bJ s.nets) w (.int v):=by
 unfold bD at h;unfold js
 by_cases e0:w=q "0"
 ·rw[if_pos e0] at h ⊢;cases h;rfl
 ·rw[if_neg e0] at h ⊢
  by_cases e1:w=q "1"
  ·rw[if_pos e1] at h ⊢;cases h;rfl
  ·rw[if_neg e1] at h ⊢;rw[dI,h];rfl
theorem gJ{s:Q}{w:Str}{v:Int}(h:bD s w=some v):aG s w=v:=by unfold aG;rw[h];rfl
theorem B7{l:List dA}{d:Bool}{nm:Str}{row:List Int}{b v:Int}: ∀{j:Nat},(l.map (·.2.1)).Nodup->l[j]? =some (d,nm,row)->l.map (d6 nm b v)=l.set j (d,nm,row.set b.toNat v):=by
 induction l with
 | nil=>intro j _ h;simp at h
 | cons p l ih=>
  intro j nd h
  rw[aaq,aaK] at nd
  cases j with
  | zero=>
   simp only[acE,ab3] at h
   subst h
   have e:l.map (d6 nm b v)=l:=by
    conv=>rhs;rw[<-List.map_id l]
    refine abe λp hp=> ?_
    have :p.2.1≠nm:=λe=>nd.1 (by show nm∈_;rw[<-e];exact aaH.mpr ⟨p,hp,rfl⟩)
    unfold d6;rw[if_neg this];rfl
   rw[aaq,e]
   show d6 nm b v (d,nm,row)::l=_
   unfold d6
   rw[if_pos rfl];rfl
  | succ j=>
   simp only[abr] at h
   have hx:p.2.1≠nm:=λe=>nd.1 (by rw[e];exact aaH.mpr ⟨(d,nm,row),aas h,rfl⟩)
   rw[aaq,ih nd.2 h]
   unfold d6
   rw[if_neg hx];rfl
theorem j9.step{s:Q}{it:It}(h:j9 s)(hi:it.ok s):j9 (it.step s):=by
 cases it with
 | port d nm n=>
  refine jj hi λhn hp hw hl=> ?_;clear hi
  refine⟨?_,by show(s.ah++[_]).length<=20;simp;exact o27 hl,h.ln,h.lc,h.cb,?_⟩
  ·show((s.ah++[_]).map _).Nodup
   rw[aaA,aaQ]
   refine⟨h.nd,by simp,?_⟩
   intro a ha b hb
   refine ae ha ?_;rintro p dj rfl
   simp at hb;subst hb
   exact hp p dj
  ·intro p dj
   have dj:p∈s.ah++[(d,nm,aaB (n+1).toNat (-1))]:=dj
   rw[aal] at dj
   rcases dj with h1 | h1
   ·exact h.rl p h1
   ·simp at h1;subst h1
    simp;exact o28 hn
 | wire x r=>
  refine bM hi λnd i0 hl=> ?_;clear hi
  exact⟨h.nd,h.lp,by show(addQ s.nets (x::r)).length<=20;rw[qW];simp;exact o29 hl,h.lc,h.cb,h.rl⟩
 | asg d nm b w=>
  refine⟨?_,by show(s.ah.map _).length<=20;rw[aae];exact h.lp,h.ln,h.lc,h.cb,?_⟩
  ·show((s.ah.map (d6 nm b (aG s w))).map _).Nodup
   rw[aaN]
   have e:((λp:dA=>p.2.1)∘d6 nm b (aG s w))=λp:dA=>p.2.1:=by
    funext p;show(d6 nm b (aG s w) p).2.1=p.2.1
    unfold d6;split<;>rfl
   rw[e];exact h.nd
  ·intro p hp
   refine ae (show p∈s.ah.map (d6 nm b (aG s w)) from hp) ?_;rintro p' uI rfl
   unfold d6
   split
   ·simp;exact h.rl p' uI
   ·exact h.rl p' uI
 | cell c out ins=>
  refine bM hi λhc hw hl=> ?_;clear hi
  refine⟨h.nd,h.lp,h.ln,by show(s.cells++[_]).length<=20;simp;exact o27 hl,?_,h.rl⟩
  show aQ 0 (s.cells++[_])=true
  rw[eX,h.cb,abN]
  show(cH 0 (cW _ _ _)&&true)=true
  rw[nR];rfl
end Mine
namespace Mine
noncomputable def LC(po:V):Ev:=[(q "netlist",.inst 141 16),(q "ports",po),(q "self",.inst 494 10)]
noncomputable def uy:g9:=hV "NetReader" "module"
noncomputable def iW:aV:=l8 uy
noncomputable def n8:Stmt:=bE uy.body 2
section
variable{k i:Nat}{P:P9}{tl:List AO}{ts:List Tk}{kd x y:Str}
theorem w8(h:ts[i]? =some (kd,.str y))(hn:kd≠q "key"\/y≠x):yZ "key" ts i x=false:=by
 by_cases hk:kd=q "key"
 ·subst hk;exact lu h (hn.resolve_left (λz=>z rfl))
 ·exact uP h hk
theorem jo(R:Rd P ts tl)(h:ts[i]? =some (kd,.str y))(hn:kd≠q "key"\/y≠x):CI (k+2) 350 [.inst 494 10,.str x] (SS P ts i tl)=ok (.bool false) (SS P ts i tl):=Ai h (λ_=>⟨y,rfl⟩) (w8 h hn)
theorem n5(R:Rd P ts tl)(h:ts[i]? =some (q "key",.str x)):CI (k+1) 336 [.inst 494 10,.str x] (SS P ts i tl)=ok (.bool true) (SS P ts i tl):=uQ h▸iM (E6 h λ_=>⟨_,rfl⟩) x
theorem mr(R:Rd P ts tl)(h:ts[i]? =some (kd,.str y))(hn:kd≠q "key"\/y≠x):CI (k+1) 336 [.inst 494 10,.str x] (SS P ts i tl)=ok (.bool false) (SS P ts i tl):=w8 h hn▸iM (E6 h λ_=>⟨_,rfl⟩) x
end
section
variable{k i:Nat}{P:P9}{ts:List Tk}{nm:Str}{s:Q}
theorem zZ{d:Bool}{x:Str}{n:Int}:fw nm ((It.port d x n).step s)=(if d then T4 (bJ s.nets) (bg true 4 s.ah++[(x,.loc ((mV nm s).length+16))]) (bg false 4 s.ah) (s.ah.map dQ++[.str x]) (mV nm s++[.lst (gN n)]) else T4 (bJ s.nets) (bg true 4 s.ah) (bg false 4 s.ah++[(x,.loc ((mV nm s).length+16))]) (s.ah.map dQ++[.str x]) (mV nm s++[.lst (gN n)])):=by
 have e1: ∀w,bg w 4 (s.ah++[(d,x,aaB (n+1).toNat (-1:Int))])=bg w 4 s.ah++(if d=w then [(x,.loc ((mV nm s).length+16))] else []):=λw=>by rw[lW,lH]
 have e2:mV nm ((It.port d x n).step s)=mV nm s++[.lst (gN n)]:=by
  unfold mV It.step
  simp[fZ,gN,List.map_replicate]
 unfold fw
 rw[e2]
 show T4 (bJ s.nets) (bg true 4 (s.ah++[(d,x,aaB (n+1).toNat (-1:Int))])) (bg false 4 (s.ah++[(d,x,aaB (n+1).toNat (-1:Int))])) ((s.ah++[(d,x,aaB (n+1).toNat (-1:Int))]).map dQ) _=_
 rw[e1,e1,aaA]
 cases d<;>simp[dQ]
theorem z0{x:Str}{r:List Str}:fw nm ((It.wire x r).step s)=T4 (kS (bJ s.nets) (x::r)) (bg true 4 s.ah) (bg false 4 s.ah) (s.ah.map dQ) (mV nm s):=by
 unfold fw
 rw[lK];rfl
theorem xP{j:Nat}{p:dA}(h:s.ah[j]? =some p):(mV nm s)[j+4]? =some (fZ p):=by
 show(s.ah.map fZ)[j]? =_
 rw[aay,h];rfl
theorem EA{d:Bool}{x w:Str}{b v:Int}{row:List Int}{j:Nat}(hq:j9 s)(hj:s.ah[j]? =some (d,x,row))(hv:bD s w=some v):
  fw nm ((It.asg d x b w).step s)=T4 (bJ s.nets) (bg true 4 s.ah) (bg false 4 s.ah) (s.ah.map dQ) (iG (mV nm s) (j+4) (row.map V.int) b (.int v)):=by
 have e:(s.ah.map (d6 x b v))=s.ah.set j (d,x,row.set b.toNat v):=B7 hq.nd hj
 have O0:j<s.ah.length:=(aar.mp hj).1
 unfold fw
 show T4 (bJ s.nets) (bg true 4 (s.ah.map (d6 x b (aG s w)))) (bg false 4 (s.ah.map (d6 x b (aG s w)))) ((s.ah.map (d6 x b (aG s w))).map dQ) (mV nm {s with ah:=s.ah.map (d6 x b (aG s w))})=_
 rw[gJ hv,e,lY hj,lY hj]
 have e2:(s.ah.set j (d,x,row.set b.toNat v)).map dQ=s.ah.map dQ:=by
  rw[List.map_set]
  have h1:(s.ah.map dQ)[j]? =some (dQ (d,x,row)):=by rw[aay,hj];rfl
  apply List.ext_getElem?
  intro i
  rw[List.getElem?_set]
  split
  ·rename_i e;subst e
   rw[h1];split
   ·rfl
   ·rename_i hn;exact absurd (by simpa using O0) hn
  ·rfl
 have e3:mV nm {s with ah:=s.ah.set j (d,x,row.set b.toNat v)}=iG (mV nm s) (j+4) (row.map V.int) b (.int v):=by
  show _::_::_::_::(s.ah.set j _).map fZ=_::_::_::_::(s.ah.map fZ).set j _
  rw[List.map_set]
  simp[fZ]
 rw[e2,e3]
def jr(k:Nat)(st:List AO)(N:Nat)(po:V)(x:X):Prop:=bl iW (λj m=>bq TT (CI (k+10)) j iW (kM n8) (bG n8 0) m st) N (LC po) x
variable{N:Nat}{po:V}{x:X}
noncomputable def f0(D:Rd P ts (fw nm s))(k:Nat){kd y:Str}(h:ts[i]? =some (kd,.str y))(hn:kd≠q "key"\/y≠q "endmodule"):List Fc:=[fV 0 (jo (k:=k+8) (x:=q "endmodule") D h hn)]
noncomputable def f1(D:Rd P ts (fw nm s))(k:Nat){kd y:Str}(h:ts[i]? =some (kd,.str y))(h1:kd≠q "key"\/y≠q "input")(h2:kd≠q "key"\/y≠q "output"):List Fc:=[fV 0 (mr (k:=k+9) (x:=q "input") D h h1),fV 0 (mr (k:=k+9) (x:=q "output") D h h2)]
theorem iB{st2:List AO}(D:Rd P ts (fw nm s)){kd y:Str}(h:ts[i]? =some (kd,.str y))(hn:kd≠q "key"\/y≠q "endmodule")(gs:List Fc)(hb:tS TT (CI (k+10)) 200 iW (LC po) (SS P ts i (fw nm s)) (bG n8 0) gs (fin (LC po))=some (.go .next (LC po) st2,f7 gs))(hN:200<=N)(go:jr k st2 N po x):jr k (SS P ts i (fw nm s)) (N+1) po x:=
 gz (f0 D k h hn) gs (by kernel_rfl) hb hN go
theorem Cf{d:Bool}{z:Str}{c:Int}(B:RB P ts)(hq:j9 s)(h:At ts i (It.port d z c).text)(hi:(It.port d z c).ok s)(hN:200<=N)(go:jr k (SS P ts (i+(It.port d z c).text.length) (fw nm ((It.port d z c).step s))) N po x):jr k (SS P ts i (fw nm s)) (N+1) po x:=by
 have R:=hq.R (nm:=nm) B
 have D:Rd P ts (fw nm s):=R.rd
 refine jj hi λhn hp hw hl=> ?_;clear hi
 have h1:(bg true 4 s.ah).lookup z=none:=cJ λp dj _=>hp p dj
 have h2:(bg false 4 s.ah).lookup z=none:=cJ λp dj _=>hp p dj
 have h3:(bJ s.nets).lookup z=none:=by rw[dI,hw];rfl
 have l1:=e9 (w:=true) (l:=s.ah) (j:=4)
 have l2:=e9 (w:=false) (l:=s.ah) (j:=4)
 have l3:(s.ah.map dQ).length<100:=by rw[aae];exact o30 hl
 have a0:ts[i]? =some (q "key",qs (cu d)):=h 0 _ rfl
 rw[zZ] at go
 cases d with
 | true=>exact iB D a0 (.inr (by decide+kernel)) [fV 0 (n5 (k:=k+9) D a0),fV 0 (GW (k:=k+2) R hn h h1 h2 h3 (o31 hl l1) l3)] (by kernel_rfl) hN go
 | false=>exact iB D a0 (.inr (by decide+kernel)) [fV 0 (mr (k:=k+9) (x:=q "input") D a0 (.inr (by decide+kernel))),fV 0 (n5 (k:=k+9) D a0),fV 0 (CP (k:=k+2) R hn h h1 h2 h3 (o31 hl l2) l3)] (by kernel_rfl) hN go
theorem Cg{z:Str}{r:List Str}(B:RB P ts)(hq:j9 s)(h:At ts i (It.wire z r).text)(hi:(It.wire z r).ok s)(hN:200<=N)(go:jr k (SS P ts (i+(It.wire z r).text.length) (fw nm ((It.wire z r).step s))) N po x):jr k (SS P ts i (fw nm s)) (N+1) po x:=by
 have R:=hq.R (nm:=nm) B
 have D:Rd P ts (fw nm s):=R.rd
 refine bM hi λnd i0 hl=> ?_;clear hi
 refine aO (At.cons (p:=(q "key",qs "wire")) (l:=eg ((z::r).map cI)++[semi]) h) λa0 h=> ?_
 have t4:=(DZ (k:=k+2) R h nd (λy hy=>⟨by rw[dI,(i0 y hy).1];rfl,cJ λp hp _=>(i0 y hy).2 p hp,cJ λp hp _=>(i0 y hy).2 p hp⟩) (by show(s.nets.map _).length+_<_;rw[aae];exact o32 hl)).1
 have el:i+(It.wire z r).text.length=i+1+(2* r.length+2):=by
  show i+((eg ((z::r).map cI)++[semi]).length+1)=_
  rw[aag,aaq,eZ,aae,aaF];exact o33
 rw[z0,el] at go
 exact iB D a0 (.inr (by decide+kernel)) (f1 D k a0 (.inr (by decide+kernel)) (.inr (by decide+kernel))++[fV 0 (ia (k:=k+5) (x:=q "wire") D a0),fV 0 t4]) (by kernel_rfl) hN go
theorem Gu{d:Bool}{z w:Str}{b:Int}(B:RB P ts)(hq:j9 s)(h:At ts i (It.asg d z b w).text)(hi:(It.asg d z b w).ok s)(hN:200<=N)(go:jr k (SS P ts (i+(It.asg d z b w).text.length) (fw nm ((It.asg d z b w).step s))) N po x):jr k (SS P ts i (fw nm s)) (N+1) po x:=by
 have R:=hq.R (nm:=nm) B
 have D:Rd P ts (fw nm s):=R.rd
 refine jj hi ?_;clear hi;rintro hb ⟨row,uK,TP⟩ ⟨v,hv⟩ BJ
 refine aj (aa4 uK) λj hj=> ?_
 have a0:ts[i]? =some (q "key",qs "assign"):=h 0 _ rfl
 have hr:(mV nm s)[j+4]? =some (.lst (row.map V.int)):=xP hj
 have Pb:(row.map V.int).length<=1000:=by rw[aae];exact hq.rl _ uK
 have rR:(row.map V.int)[b.toNat]? =some (.int (-1)):=by rw[aay,TP];rfl
 have t5:CI (k+10) 470 [.inst 494 10] (SS P ts (i+1) (fw nm s))=ok .none (SS P ts (i+1+7) (T4 (bJ s.nets) (bg true 4 s.ah) (bg false 4 s.ah) (s.ah.map dQ) (iG (mV nm s) (j+4) (row.map V.int) b (.int v)))):=by
  cases d with
  | true=>exact Kg (k:=k+1) R hb (At.cons (p:=(q "key",qs "assign")) (l:=aD w::(q "op",qs "=")::ed z b++[(q "op",qs ";")]) h).2 (e8 hq.nd hj) hr Pb rR (jP hv) (cJ λp hp _=>BJ p hp)
  | false=>exact EN (k:=k+1) R hb (At.cons (p:=(q "key",qs "assign")) (l:=ed z b++[(q "op",qs "="),aD w]++[(q "op",qs ";")]) h).2 (e8 hq.nd hj) hr Pb rR (jP hv)
 have el:i+(It.asg d z b w).text.length=i+1+7:=by
  cases d with
  | true=>show i+(((aD w::(q "op",qs "=")::ed z b)++[(q "op",qs ";")]).length+1)=_;simp[gd hb]
  | false=>show i+(((ed z b++[(q "op",qs "="),aD w])++[(q "op",qs ";")]).length+1)=_;simp[gd hb]
 rw[EA hq hj hv,el] at go
 exact iB D a0 (.inr (by decide+kernel)) (f1 D k a0 (.inr (by decide+kernel)) (.inr (by decide+kernel))++[fV 0 (jo (k:=k+8) (x:=q "wire") D a0 (.inr (by decide+kernel))),fV 0 (ia (k:=k+5) (x:=q "assign") D a0),fV 0 t5]) (by kernel_rfl) hN go
theorem Bv(c:CK): ∃kd y l,c.front=(kd,V.str y)::l/\(kd≠q "key"\/(∀n,c.Ok n->y=q "and"\/y=q "xnor"\/y=q "not")):=by
 cases c with
 | gate x=>exact⟨q "key",x,[],rfl,.inr λn h=>by rcases h with⟨h,_⟩ | ⟨h,_⟩ | ⟨h,_⟩<;>simp[h]⟩
 | _=>exact⟨q "id",_,_,rfl,.inl (by decide+kernel)⟩
theorem xF{s:Q}: ∀{ins:List Str},(ins.map λw=>(w,aG s w)).map tw=ins.map aD
 | []=>rfl
 | x::r=>by simp only[aaq,xF (ins:=r)];rfl
theorem Cb{c:CK}{out:Str}{ins:List Str}(B:RB P ts)(hq:j9 s)(h:At ts i (It.cell c out ins).text)(hi:(It.cell c out ins).ok s)(hN:200<=N)(go:jr k (SS P ts (i+(It.cell c out ins).text.length) (fw nm ((It.cell c out ins).step s))) N po x):jr k (SS P ts i (fw nm s)) (N+1) po x:=by
 have R:=hq.R (nm:=nm) B
 have R':=(hq.step hi).R (nm:=nm) B
 have D:Rd P ts (fw nm s):=R.rd
 refine bM hi λhc hw hl=> ?_;clear hi
 refine gF (Bv c) λkd y l hf hy=> ?_
 have a0:ts[i]? =some (kd,.str y):=h 0 _ (by show(c.front++nE out ins)[0]? =_;rw[hf];rfl)
 have Pn: ∀x:Str,(q "and"≠x/\q "xnor"≠x/\q "not"≠x)->kd≠q "key"\/y≠x:=λx hx=>hy.imp id λh1=>by
  rcases h1 _ hc with rfl | rfl | rfl
  ·exact hx.1
  ·exact hx.2.1
  ·exact hx.2.2
 have hpt:iE (out,aG s out) (ins.map λw=>(w,aG s w))=nE out ins:=by unfold iE nE;rw[xF];rfl
 have O6: ∀w∈out::ins,js (bJ s.nets) w (.int (aG s w)):=λw Uw=>by
  refine aj (hw w Uw) λv hv=> ?_
  rw[gJ hv];exact jP hv
 have j8: ∀p∈(out,aG s out)::(ins.map λw=>(w,aG s w)),js (bJ s.nets) p.1 (.int p.2):=λp hp=>by
  rcases aat.mp hp with h1 | h1
  ·subst h1;exact O6 out aak
  ·refine ae h1 ?_;rintro w h2 rfl
   exact O6 w (aai _ h2)
 have Si:c.Ok (ins.map λw=>(w,aG s w)).length:=by rw[aae];exact hc
 have t5:=E5 (k:=k) (p0:=(out,aG s out)) (r:=ins.map λw=>(w,aG s w)) R Si (by rw[hpt];exact h) j8
 rw[hpt] at t5
 have t6:=Km (k:=k+6) (p0:=(out,aG s out)) (r:=ins.map λw=>(w,aG s w)) (cs:=s.cells) (c:=c) Si (A:=SS P ts (i+(It.cell c out ins).text.length) (fw nm ((It.cell c out ins).step s))) (R'.all _) (n:=16) (j:=19) (fs:=zd (.str nm) 2 16) rfl (by kernel_rfl) rfl (o34 hl)
 have apl:=bW (n:=19) (ys:=s.cells) (v:=cW c (out,aG s out) (ins.map λw=>(w,aG s w))) (st:=SS P ts (i+(It.cell c out ins).text.length) (fw nm s)) rfl (o35 hl)
 exact iB D a0 (Pn _ (by decide+kernel)) (f1 D k a0 (Pn _ (by decide+kernel)) (Pn _ (by decide+kernel))++[fV 0 (jo (k:=k+8) (x:=q "wire") D a0 (Pn _ (by decide+kernel))),fV 0 (jo (k:=k+8) (x:=q "assign") D a0 (Pn _ (by decide+kernel))),fV 0 t5,fV 7 apl,fU (k+10) t6 rfl]) (by kernel_rfl) hN go
end
noncomputable def jA:Q->List It->Prop
 | _,[]=>True
 | s,it::r=>it.ok s/\jA (it.step s) r
theorem Ce{k N:Nat}{P:P9}{ts:List Tk}{nm:Str}{po:V}{x:X}(B:RB P ts)(hN:200<=N): ∀(its:List It) (s:Q) (i:Nat),j9 s->jA s its->At ts i (its.flatMap It.text)->
  (j9 (its.foldl (λs it=>it.step s) s)->jr k (SS P ts (i+(its.flatMap It.text).length) (fw nm (its.foldl (λs it=>it.step s) s))) N po x)->jr k (SS P ts i (fw nm s)) (N+its.length) po x
 | [],s,i,hq,_,_,hr=>hr hq
 | it::r,s,i,hq,hi,h,hr=>by
  rw[aaL] at h hr
  refine aO h.app λh1 h2=> ?_
  rw[aag,<-ab1] at hr
  have go:=Ce B hN r _ _ (hq.step hi.1) hi.2 h2 hr
  have Se:200<=N+r.length:=aaD hN (ab6 _ _)
  cases it with
  | port d x c=>exact Cf B hq h1 hi.1 Se go
  | wire x r=>exact Cg B hq h1 hi.1 Se go
  | asg d x b w=>exact Gu B hq h1 hi.1 Se go
  | cell c out ins=>exact Cb B hq h1 hi.1 Se go
end Mine
namespace Mine
noncomputable def aL(x:Str):Bool:=adl x
theorem jx{f:Nat->Nat->Option PyData}{n:Nat}: ∀{l:List Int},dO f n (l.map V.int)=some (l.map acd)
 | []=>rfl
 | _::_=>eD rfl jx
theorem fm{f:Nat->Nat->Option PyData}{n:Nat}: ∀{l:List Str},(∀x∈l,aL x=true)->dO f n (l.map V.str)=some (l.map adw)
 | [],_=>rfl
 | x::_,h=>eD (if_pos (h x aak)) (fm λy hy=>h y (aai _ hy))
theorem any_ints{v:Int}: ∀{l:List Int},((l.map acd).any λe=>aaz e (.int v))=l.contains v
 | []=>rfl
 | x::l=>by
  rw[aaq,ach,any_ints (l:=l),aa9]
  simp only[aaz]
  rw[show(x==v)=(v==x) from by rw[ac8,beq_iff_eq,beq_iff_eq];exact⟨Eq.symm,Eq.symm⟩]
theorem lL{v:Str}: ∀{l:List Str},((l.map adw).any λe=>aaz e (.str v))=l.contains v
 | []=>rfl
 | x::l=>by
  rw[aaq,ach,lL (l:=l),aa9]
  simp only[aaz]
  rw[show(x==v)=(v==x) from by rw[ac8,beq_iff_eq,beq_iff_eq];exact⟨Eq.symm,Eq.symm⟩]
theorem rG: ∀{l r:List Str},abk (l.map adw) (r.map adw)=decide (l=r)
 | [],[]=>by simp[abk]
 | [],_::_=>by simp[abk]
 | _::_,[]=>by simp[abk]
 | x::l,y::r=>by
  rw[aaq,aaq,abk,rG (l:=l) (r:=r)]
  simp only[aaz]
  rw[ac8];simp
theorem iN{st:List AO}{n:Nat}{xs:List V}(h:st[n]? =some (.lst xs)):items st (.loc n)=some xs:=bR h
theorem FZ{st:List AO}{n:Nat}{l:List Int}{v:Int}(h:st[n]? =some (.lst (l.map V.int)))(hl:l.length<=1000):bk .In (.int v) (.loc n) st=ok (l.contains v) st:=by
 have e:bB st (.loc n)=some (l.map V.int):=iN h
 have e2:among st (.int v) (l.map V.int)=some (l.contains v):=by
  exact(aK jx).trans ((aK (k:=λd=>some ((l.map acd).any λe=>aaz e d)) rfl).trans (congrArg some any_ints))
 have gH:(l.map V.int).length<=100000:=by simp;exact xw hl
 exact(jv e).trans ((if_pos gH).trans (aK e2))
theorem F0{st:List AO}{y:V}{l:List Str}{v:Str}(h:bB st y=some (l.map V.str))(hl:l.length<=1000)(ho: ∀x∈l,aL x=true)(hv:aL v=true):uN (.str v) y st=ok (l.contains v) st:=by
 have nX:adl v=true:=hv
 have e2:among st (.str v) (l.map V.str)=some (l.contains v):=by
  exact(aK (fm ho)).trans ((aK (if_pos nX)).trans (congrArg some lL))
 have gH:(l.map V.str).length<=100000:=by simp;exact xw hl
 exact(jv h).trans ((if_pos gH).trans (aK e2))
theorem qz{st:List AO}{n:Nat}{xs:List V}(h:st[n]? =some (.lst xs)):toD st (.loc n)=(dO (k7 st 1) 29 xs).map .list:=by
 refine(aK (o:=jq st n) (bR h)).trans ?_
 cases dO (k7 st 1) 29 xs<;>rfl
theorem xQ{st:List AO}{xs:List V}:toD st (.lst xs)=(dO (k7 st 2) 29 xs).map .list:=by
 show(oK (dO (k7 st 2) 29 xs) λd=>some (PyData.list d))=_
 cases dO (k7 st 2) 29 xs<;>rfl
theorem Gw{st:List AO}{n:Nat}{l r:List Str}(h:st[n]? =some (.lst (r.map V.str)))(hr:r≠[])(h1: ∀x∈l,aL x=true)(h2: ∀x∈r,aL x=true):bk .NotEq (.lst (l.map V.str)) (.loc n) st=ok (!decide (l=r)) st:=by
 have e:tv st (.lst (l.map V.str)) (.loc n)=some (decide (l=r)):=by
  refine(aK (a:= .list (l.map .str)) (by rw[xQ,fm h1];rfl)).trans ((aK (a:= .list (r.map .str)) (by rw[qz h,fm h2];rfl)).trans ?_)
  rw[aaz,rG]
 exact congrArg jS (aK e:(oK (tv st (.lst (l.map V.str)) (.loc n)) λb=>ok b st)=_)
noncomputable def Jt(p:Str×V):V:= .tup [.str p.1,p.2]
noncomputable def bp(w:Bool)(l:List dA):List V:=(bg w 4 l).map Jt
noncomputable def tlF(nm:Str)(c:Int)(s:Q)(a b:List V):List AO:=[AO.aF (zd (.str nm) c 16),AO.lst a,AO.lst b,AO.lst s.cells]++s.ah.map fZ
noncomputable def FS(P:P9)(ts:List Tk)(i:Nat)(nm:Str)(c:Int)(s:Q)(a b:List V):List AO:=SS P ts i (T4 (bJ s.nets) (bg true 4 s.ah) (bg false 4 s.ah) (s.ah.map dQ) (tlF nm c s a b))
noncomputable def FW(P:P9)(ts:List Tk)(i:Nat)(nm:Str)(c:Int)(s:Q)(w:Bool)(x y:List V):List AO:=if w then FS P ts i nm c s x y else FS P ts i nm c s y x
noncomputable def rdA(w:Bool):Nat:=if w then 13 else 14
noncomputable def Z9(w:Bool):Nat:=if w then 17 else 18
noncomputable def LB(w:Bool):Ev:=[(q "netlist",.inst 141 16),(q "row",.loc (rdA w)),(q "self",.inst 494 10),(q "target",.loc (Z9 w))]
noncomputable def Jd:Ev:=[(q "netlist",.inst 141 16),(q "self",.inst 494 10)]
noncomputable def pO:Stmt:=bE uy.body 6
noncomputable def xf:Stmt:=bE (bG pO 0) 0
section
variable{k i:Nat}{P:P9}{ts:List Tk}{nm:Str}{s:Q}{c:Int}{w:Bool}{x y:List V}{N:Nat}{xr:X}
theorem vQ:(FW P ts i nm c s w x y)[rdA w]? =some (.aF (bg w 4 s.ah)):=by cases w<;>rfl
theorem zP:(FW P ts i nm c s w x y)[15]? =some (.lst (s.ah.map dQ)):=by cases w<;>rfl
theorem H8:(FW P ts i nm c s w x y)[Z9 w]? =some (.lst x):=by cases w<;>rfl
theorem JH{z:List V}:(FW P ts i nm c s w x y).set (Z9 w) (.lst z)=FW P ts i nm c s w z y:=by cases w<;>rfl
theorem zQ{j:Nat}{p:dA}(h:s.ah[j]? =some p):(FW P ts i nm c s w x y)[j+4+16]? =some (fZ p):=by
 have e:(s.ah.map fZ)[j]? =some (fZ p):=by rw[aay,h];rfl
 cases w<;>exact e
theorem Eu(kind d:V):CI (k+1) 379 [.inst 494 10,kind,d] (FW P ts i nm c s w x y)=some (.error ⟨52,kind,.int (jf ts i),d⟩,FW P ts i nm c s w x y):=by cases w<;>kernel_rfl
theorem JG{n:Str}{fn:Addr}(h1:TT.iU 494 n=some fn)(h2:((NK false .none 0).map (·.1)).contains n=false):sF TT (.inst 494 10) n (FW P ts i nm c s w x y)=some (.fn fn):=by
 have e:(FW P ts i nm c s w x y)[10]? =some (.aF (NK (tO ts i) (fo ts i) (jf ts i))):=by cases w<;>rfl
 have h3:((NK (tO ts i) (fo ts i) (jf ts i)).map (·.1)).contains n=false:=h2
 exact(aK (cZ e)).trans ((aK h1).trans (if_neg (ab0.mp h3)))
theorem AW{d:Bool}{Sw:Str}{row:List Int}{l:List dA}{j:Nat}(nd:(l.map (·.2.1)).Nodup)(h:l[j]? =some (d,Sw,row))(hd:d≠w):(bg w 4 l).lookup Sw=none:=by
 refine cJ λp hp hw hn=>hd ?_
 refine aj (aa4 hp) λj' FP=> ?_
 have e1:(l.map (·.2.1))[j]? =some Sw:=by rw[aay,h];rfl
 have e2:(l.map (·.2.1))[j']? =some Sw:=by rw[aay,FP];show some p.2.1=_;rw[hn]
 have Nr:=(aar.mp e1).1
 have e3:j=j':=(acK Nr nd).mp (by rw[e1,e2])
 subst e3
 rw[h] at FP
 cases FP
 exact hw
def uA(k:Nat)(w:Bool)(j:Nat)(st:List AO)(N:Nat)(xr:X):Prop:=bl iW (λn m=>cP TT (CI (k+10)) n iW (kM xf) (bG xf 0) (.loc 15) j m st) N (LB w) xr
theorem l6{d:Bool}{z:Str}{row:List Int}{pre r:List dA}(hq:j9 s)(hs:s.ah=pre++(d,z,row)::r):fq (FW P ts i nm c s w x y) (.loc 15) pre.length=some (some (.str z)):=by
 rw[cM zP (by rw[aae];have :=hq.lp;exact QI this),aay,hs,aau (aaw _),abo];rfl
theorem wC{d:Bool}{z:Str}{row:List Int}{pre r:List dA}(hs:s.ah=pre++(d,z,row)::r):s.ah[pre.length]? =some (d,z,row):=by rw[hs,aau (aaw _),abo];rfl
noncomputable def IB{z:Str}{row:List Int}{j:Nat}(hq:j9 s)(hj:s.ah[j]? =some (w,z,row))(P:P9)(ts:List Tk)(i:Nat)(nm:Str)(c:Int)(x y:List V)(b:Bool)(hb:row.contains (-1)=b):List Fc:=
 have lk:=e8 (j:=4) hq.nd hj
 [fB (yX (vQ (P:=P) (ts:=ts) (i:=i) (nm:=nm) (c:=c) (x:=x) (y:=y)) lk),fV 4 (eR (vQ (P:=P) (ts:=ts) (i:=i) (nm:=nm) (c:=c) (x:=x) (y:=y)) lk),
  fB (hb▸FZ (v:= -1) (zQ (P:=P) (ts:=ts) (i:=i) (nm:=nm) (c:=c) (w:=w) (x:=x) (y:=y) hj) (hq.rl _ (aas hj)))]
theorem Bj{d:Bool}{z:Str}{row:List Int}{pre r:List dA}(hq:j9 s)(hs:s.ah=pre++(d,z,row)::r)(hc:d=w->row.contains (-1)=false)(hN:200<=N)(go:uA k w (pre.length+1) (FW P ts i nm c s w (bp w (pre++[(d,z,row)])) y) N xr):uA k w pre.length (FW P ts i nm c s w (bp w pre) y) (N+1) xr:=by
 have hj:=wC hs
 have yT:=hq.lp
 have hH:pre.length<=20:=by rw[hs,aag] at yT;exact o38 yT
 have fa:bp w (pre++[(d,z,row)])=bp w pre++(if d=w then [.tup [.str z,.loc (pre.length+4+16)]] else []):=by
  unfold bp;rw[lW,aaA]
  split<;>rfl
 rw[fa] at go
 by_cases hd:d=w
 ·subst hd
  rw[if_pos rfl] at go
  have lk:=e8 (j:=4) hq.nd hj
  have hl:(bp d pre).length<100000:=by have :=e9 (w:=d) (l:=pre) (j:=4);unfold bp;rw[aae];exact o39 hH this
  exact fT (q:=LB d) (l2:=LB d++[(q "port",.str z)]) (l6 hq hs) (by kernel_rfl) (IB hq hj P ts i nm c (bp d pre) y false (hc rfl)++[fP (zj (H8 (P:=P) (ts:=ts) (i:=i) (nm:=nm) (c:=c) (s:=s) (w:=d) (x:=bp d pre) (y:=y)) (nm:=q "append") (by decide+kernel)),fV 4 (eR (vQ (P:=P) (ts:=ts) (i:=i) (nm:=nm) (c:=c) (x:=bp d pre) (y:=y)) lk),fV 7 ((bW (v:= .tup [.str z,.loc (pre.length+4+16)]) H8 hl).trans (congrArg (ok V.none) (JH (P:=P) (ts:=ts) (i:=i) (nm:=nm) (c:=c) (s:=s) (w:=d) (x:=bp d pre) (y:=y))))]) (by kernel_rfl) hN go
 ·rw[if_neg hd,aav] at go
  exact fT (q:=LB w) (l2:=LB w++[(q "port",.str z)]) (l6 hq hs) (by kernel_rfl) [fB (nv (vQ (P:=P) (ts:=ts) (i:=i) (nm:=nm) (c:=c) (s:=s) (w:=w) (x:=bp w pre) (y:=y)) (AW hq.nd hj hd))] (by kernel_rfl) hN go
theorem Bi{z:Str}{row:List Int}{pre r:List dA}(hq:j9 s)(hs:s.ah=pre++(w,z,row)::r)(hc:row.contains (-1)=true):uA k w pre.length (FW P ts i nm c s w (bp w pre) y) 201 (.er ⟨52,qs "missing_bit",.int (jf ts i),.str z⟩ (FW P ts i nm c s w (bp w pre) y)):=
 KJ (q:=[]) (l2:=LB w++[(q "port",.str z)]) (l6 hq hs) (by kernel_rfl) (IB hq (wC hs) P ts i nm c (bp w pre) y true hc++[fP (JG (P:=P) (ts:=ts) (i:=i) (nm:=nm) (c:=c) (s:=s) (w:=w) (x:=bp w pre) (y:=y) (n:=q "fail") (fn:=379) (by kernel_rfl) (by kernel_rfl)),fE (Eu (k:=k+9) (P:=P) (ts:=ts) (i:=i) (nm:=nm) (c:=c) (s:=s) (w:=w) (x:=bp w pre) (y:=y) (qs "missing_bit") (.str z))]) (by kernel_rfl)
theorem pf(hq:j9 s)(hN:200<=N): ∀(l pre r:List dA),s.ah=pre++(l++r)->(∀p∈l,p.1=w->p.2.2.contains (-1)=false)->
  uA k w (pre++l).length (FW P ts i nm c s w (bp w (pre++l)) y) N xr->uA k w pre.length (FW P ts i nm c s w (bp w pre) y) (N+l.length) xr
 | [],pre,r,hs,_,hr=>by rw[aav] at hr;exact hr
 | (d,z,row)::l,pre,r,hs,hc,hr=>by
  rw[show pre++(d,z,row)::l=pre++[(d,z,row)]++l by rw[aax];rfl] at hr
  have go:=pf hq hN l (pre++[(d,z,row)]) r (by rw[hs,aax];rfl) (λp hp=>hc p (aai _ hp)) hr
  rw[aag] at go
  exact Bj hq hs (λh=>hc (d,z,row) aak h) (aaD hN (ab6 _ _)) go
end
end Mine
namespace Mine
section
variable{k:Nat}{P:P9}{ts:List Tk}
theorem C1:gf TT (CI (k+1)) false (.ref 282) [.lst (eH ts)] P.l=ok (.inst 282 9) (P.l++[.aF (j0 ts 0 false)]):=by kernel_rfl
noncomputable def SJ(h:Bool):List (Str×V):=[(q "source",.inst 282 9),(q "ahead",.loc 11),(q "hashed",.bool h)]
theorem sf{h1:Bool}{r:List AO}(W:vZ ts)(dc:0<ts.length):CI (k+2) 279 [.inst 282 9] (P.l++ .aF (j0 ts 0 h1)::r)=some (.ok (fo ts 0),P.l++ .aF (j0 ts 1 h1)::r):=by
 have hl:(eH ts).length<=100000:=by rw[gr];have :=W.len;exact o4 this
 have e1: ∀st,bC "len" [.lst (eH ts)] st=ok (.int ts.length) st:=λst=>by rw[B1 hl,gr]
 have hp:ts[0]? =some ts[0]:=aaG dc
 have e3: ∀st,eQ (.lst (eH ts)) (.int (0:Nat)) st=ok (fo ts 0) st:=λst=>j1 rfl hl (by rw[iT,hp];simp only[fo,jz,oE,Dw,jf,hp];rfl)
 exact ay [fF 5 e1,fb (yJ (a:=(0:Nat)) (b:=ts.length) (o40 dc)),fF 4 e3] (by kernel_rfl)
theorem Kz{r:List AO}(W:vZ ts)(dc:0<ts.length):CI (k+3) 307 [.inst 494 10] (P.l++ .aF (j0 ts 0 false):: .aF (SJ false)::r)=ok (fo ts 0) (P.l++ .aF (j0 ts 1 false):: .aF (SJ (tO ts 0))::r):=by
 have e:=sf (k:=k) (P:=P) (h1:=false) (r:= .aF (SJ false)::r) W dc
 have hc: ∀b,(jz ts 0==q "op")=b-> ∀st,bk .Eq (.str (jz ts 0)) (.str (q "op")) st=ok b st:=λb e st=>by rw[<-e];rfl
 cases hk:jz ts 0==q "op" with
 | true=>
  refine aj (uR W (eq_of_beq hk)) λx hx=> ?_
  rw[show tO ts 0=(x==q "#") by unfold tO;rw[hk,hx];rfl]
  exact ay [fV 0 e,fb (hc _ hk),fF 12 (mL hx rfl)] (by kernel_rfl)
 | false=>
  rw[show tO ts 0=false by unfold tO;rw[hk];rfl]
  exact ay [fV 0 e,fb (hc _ hk)] (by kernel_rfl)
theorem AI(W:vZ ts)(dc:0<ts.length):CI (k+4) 300 [.inst 494 10,.inst 282 9] (P.l++[.aF (j0 ts 0 false),.aF []])=ok .none (P.l++[.aF (j0 ts 1 false),.aF (SJ (tO ts 0)++[(q "token",fo ts 0),(q "at",.int (jf ts 0))]),.lst []]):=
 ay [fV 0 (Kz (k:=k) (P:=P) (r:=[.lst []]) W dc)] (by kernel_rfl)
theorem G6(W:vZ ts)(dc:0<ts.length):gf TT (CI (k+5)) false (.ref 494) [.inst 282 9] (P.l++[.aF (j0 ts 0 false)])=ok (.inst 494 10) (SS P ts 0 (T4 [] [] [] [] [])):=by
 have e:gf TT (CI (k+5)) false (.ref 494) [.inst 282 9] (P.l++[.aF (j0 ts 0 false)])=(CI (k+5) 400 [.inst 494 10,.inst 282 9] (P.l++[.aF (j0 ts 0 false),.aF []])).bind (uY false 494 (10)):=rfl
 have i:CI (k+5) 400 [.inst 494 10,.inst 282 9] (P.l++[.aF (j0 ts 0 false),.aF []])=ok .none (SS P ts 0 (T4 [] [] [] [] [])):=by
  unfold SS
  rw[Nat.min_eq_left (show 0+1<=ts.length from dc)]
  exact ay [fV 0 (AI (k:=k) (P:=P) W dc)] (by kernel_rfl)
 rw[e,i];rfl
end
noncomputable def Q0:Q:=⟨[],[],[]⟩
theorem Ij:j9 Q0:=⟨ab5,aaC _,aaC _,aaC _,rfl,λp h=>jR h⟩
noncomputable def aC(its:List It):Q:=its.foldl (λs it=>it.step s) Q0
theorem At.qe{ts l tail:List Tk}{i:Nat}{pre:List Tk}(h:ts=pre++l++tail)(hi:pre.length=i):At ts i l:=λj p hp=>by
 subst hi;subst h
 have hj:=(aar.mp hp).1
 rw[aax,aau (o41),show pre.length+j- pre.length=j by exact o42,aaV hj]
 exact hp
noncomputable def ij:Tk:=(q "key",qs "endmodule")
abbrev Ej(w:Bool)(l:List dA):Prop:= ∀p∈l,p.1=w->p.2.2.contains (-1)=false
theorem Cj{l:List dA}:l.map dQ=(l.map (·.2.1)).map V.str:=by rw[aaN];rfl
theorem qv{l:List dA}(h: ∀p∈l,aL p.2.1=true): ∀x∈l.map (·.2.1),aL x=true:=λx hx=>by
 refine ae hx ?_;rintro p hp rfl
 exact h p hp
structure Tx(P:P9)(ts:List Tk)(E:List It)(names:List Str)(tail:List Tk):Prop where
 h0:P.l.all (bA 0)=true
 W:vZ ts
 ht:ts=ck (q "m1") names++E.flatMap It.text++tail
 hn:names≠[]
 hl:names.length<=100
 hi:jA Q0 E
 hE:E.length<=100
 hq:j9 (aC E)
noncomputable def jy(E:List It)(names:List Str):Nat:=(ck (q "m1") names).length+(E.flatMap It.text).length
section
variable{P:P9}{E:List It}{names:List Str}{ts tail:List Tk}
theorem Tx.B(Y:Tx P ts E names tail):RB P ts:=⟨Y.h0,Y.W⟩
theorem Tx.tl(Y:Tx P ts E names tail):At ts (jy E names) tail:=At.qe (pre:=ck (q "m1") names++E.flatMap It.text) (tail:=[]) (by rw[Y.ht];simp) (aag)
theorem Tx.len(Y:Tx P ts E names tail):ts.length=jy E names+tail.length:=by rw[Y.ht,aag,aag];rfl
theorem Tx.hd(Y:Tx P ts E names tail):CI 18 442 [.inst 494 10] (SS P ts 0 (T4 [] [] [] [] []))=ok (.tup [.str (q "m1"),.lst (names.map .str)]) (SS P ts (ck (q "m1") names).length (T4 [] [] [] [] [])):=by
 obtain⟨h0,W,ht,hn,hl,_,_,_⟩:=Y
 have R0:R4 P ts [] [] [] [] []:=⟨h0,W,rfl,rfl,rfl,rfl,rfl,aaC _,aaC _,aaC _,aaC _⟩
 cases names with
 | nil=>exact absurd rfl hn
 | cons x r=>
  rw[aan] at hl
  have e:=yR (k:=10) R0 (At.qe (pre:=[]) (l:=ck (q "m1") (x::r)) (tail:=E.flatMap It.text++tail) (i:=0) (by rw[ht];simp) rfl) (o43 hl)
  rw[Nat.zero_add] at e
  exact e
theorem Tx.lp(Y:Tx P ts E names tail){x:X}(h:jr 8 (SS P ts (jy E names) (fw (q "m1") (aC E))) 300 (.lst (names.map .str)) x):bl iW (λj m=>bq TT (CI 18) j iW (kM n8) (bG n8 0) m (SS P ts (ck (q "m1") names).length (fw (q "m1") Q0))) 400 (LC (.lst (names.map .str))) x:=
 bl.le (Ce Y.B (by decide) E Q0 _ Ij Y.hi (At.qe (pre:=ck (q "m1") names) Y.ht rfl) λ_=>h) (by have :=Y.hE;exact o44 this)
noncomputable def Tx.fs(Y:Tx P ts E names tail){x:X}(h:jr 8 (SS P ts (jy E names) (fw (q "m1") (aC E))) 300 (.lst (names.map .str)) x):List Fc:=
 [fV 0 Y.hd,fV 0 (xn (k:=17) (name:= .str (q "m1")) (A:=SS P ts (ck (q "m1") names).length (T4 [] [] [] [] []))),fR (Y.lp h)]
theorem Tx.D(Y:Tx P ts E names tail):Rd P ts (fw (q "m1") (aC E)):=(Y.hq.R (nm:=q "m1") Y.B).rd
theorem Tx.fin(Y:Tx P ts E names [ij]):jr 8 (SS P ts (jy E names) (fw (q "m1") (aC E))) 300 (.lst (names.map .str)) (.go .next (LC (.lst (names.map .str))) (SS P ts (jy E names+1) (fw (q "m1") (aC E)))):=
 bl.le (gy [fV 0 (ia (k:=13) Y.D (Y.tl.at 0 (p:=ij) rfl))] (by kernel_rfl)) (by decide)
theorem Tx.eof(Y:Tx P ts E names [ij]):ts[jy E names+1]? =none:=aaS (by rw[Y.len];exact aaw _)
theorem Tx.ke(Y:Tx P ts E names [ij]): ∀st,bk .NotEq (.str (jz ts (jy E names+1))) (.str (q "eof")) st=ok false st:=λst=>by
 rw[show jz ts (jy E names+1)=q "eof" by unfold jz Dw;rw[Y.eof];rfl]
 show ok (q "eof" !=q "eof") st=_
 rw[bne_self_eq_false]
theorem Tx.ea(Y:Tx P ts E names [ij]):jf ts (jy E names+1)= -1:=by unfold jf;rw[Y.eof]
theorem Tx.ord{e:Nat}(hp:(aC E).ah≠[])(h1: ∀x∈names,aL x=true)(h2: ∀p∈(aC E).ah,aL p.2.1=true):bk .NotEq (.lst (names.map V.str)) (.loc 15) (SS P ts e (fw (q "m1") (aC E)))=ok (!decide (names=(aC E).ah.map (·.2.1))) (SS P ts e (fw (q "m1") (aC E))):=
 Gw (show(SS P ts e (fw (q "m1") (aC E)))[15]? =some (.lst (((aC E).ah.map (·.2.1)).map V.str)) by rw[<-Cj];rfl) (λe=>hp (List.map_eq_nil_iff.mp e)) h1 (qv h2)
abbrev Nf(r:RE V)(kd:String)(a:Int)(d:Str):Prop:= ∃st,r=some (.error ⟨52,qs kd,.int a,.str d⟩,st)
noncomputable abbrev uW(P:P9)(ts:List Tk):RE V:=CI 19 491 [.inst 494 10] (SS P ts 0 (T4 [] [] [] [] []))
theorem vr(Y:Tx P ts E names [ij])(nq:names≠(aC E).ah.map (·.2.1))(pG: ∀x∈names,aL x=true)(hs: ∀p∈(aC E).ah,aL p.2.1=true)(hp:(aC E).ah≠[]):Nf (uW P ts) "port_order" (-1) (q ""):=by
 have o:=Tx.ord (P:=P) (ts:=ts) (e:=jy E names+1) hp pG hs
 rw[decide_eq_false nq] at o
 rw[<-Y.ea]
 exact⟨_,gL (st':=SS P ts (jy E names+1) (fw (q "m1") (aC E))) (Y.fs Y.fin++[fb Y.ke,fB o,fE (rJ (k:=17) Y.D (jy E names+1) (qs "port_order"))]) (by kernel_rfl)⟩
variable{i:Nat}{nm:Str}{s:Q}{c:Int}{w:Bool}{y:List V}
theorem wD(hq:j9 s)(hc:Ej w s.ah):uA 8 w 0 (FW P ts i nm c s w [] y) 300 (.go .next (LB w) (FW P ts i nm c s w (bp w s.ah) y)):=
 bl.le (pf hq (N:=201) (by decide) s.ah [] [] (by rw[aav];rfl) hc (cz (by rw[cM zP (by rw[aae];have :=hq.lp;exact QI this)];exact congrArg some (aaS (Nat.le_of_eq (aae _)))))) (by have :=hq.lp;exact o45 this)
theorem wF{z:Str}{row:List Int}{a b:List dA}(hq:j9 s)(hs:s.ah=a++(w,z,row)::b)(hc:Ej w a)(hb:row.contains (-1)=true):uA 8 w 0 (FW P ts i nm c s w [] y) 300 (.er ⟨52,qs "missing_bit",.int (jf ts i),.str z⟩ (FW P ts i nm c s w (bp w a) y)):=
 bl.le (pf hq (N:=201) (by decide) a [] ((w,z,row)::b) hs hc (Bi hq hs hb)) (by have :=hq.lp;rw[hs,aag] at this;exact o46 this)
noncomputable def two:V:= .tup [.tup [.loc 13,.loc 17],.tup [.loc 14,.loc 18]]
def Fw(j:Nat)(st:List AO)(N:Nat)(x:X):Prop:=bl iW (λn m=>cP TT (CI 18) n iW (kM pO) (bG pO 0) two j m st) N Jd x
theorem Ju{x:X}(hq:j9 s)(hc:Ej true s.ah)(go:Fw 1 (FS P ts i nm c s (bp true s.ah) []) 1002 x):Fw 0 (FS P ts i nm c s [] []) 1003 x:=
 eM (K:=1000) (q:=Jd) (l2:=Jd++[(q "row",.loc 13),(q "target",.loc 17)]) rfl (by kernel_rfl) [fR (wD (P:=P) (ts:=ts) (i:=i) (nm:=nm) (c:=c) (w:=true) (y:=[]) hq hc)] (by kernel_rfl) (by decide) go
theorem M1(hq:j9 s)(hc: ∀w,Ej w s.ah):Fw 0 (FS P ts i nm c s [] []) 1003 (.go .next Jd (FS P ts i nm c s (bp true s.ah) (bp false s.ah))):=
 Ju hq (hc true) (eM (K:=1000) (q:=Jd) (l2:=Jd++[(q "row",.loc 14),(q "target",.loc 18)]) rfl (by kernel_rfl) [fR (wD (P:=P) (ts:=ts) (i:=i) (nm:=nm) (c:=c) (w:=false) (y:=bp true s.ah) hq (hc false))] (by kernel_rfl) (by decide) (cz rfl))
theorem HH{z:Str}{row:List Int}{a b:List dA}(hq:j9 s)(hs:s.ah=a++(w,z,row)::b)(hc:Ej w a)(ho:w=false->Ej true s.ah)(hb:row.contains (-1)=true): ∃st,Fw 0 (FS P ts i nm c s [] []) 1003 (.er ⟨52,qs "missing_bit",.int (jf ts i),.str z⟩ st):=by
 cases w with
 | true=>exact⟨FW P ts i nm c s true (bp true a) [],bl.le (pq (K:=1000) (q:=[]) (l2:=Jd++[(q "row",.loc 13),(q "target",.loc 17)]) rfl (by kernel_rfl) [fR (wF (P:=P) (ts:=ts) (i:=i) (nm:=nm) (c:=c) (w:=true) (y:=[]) hq hs hc hb)] (by kernel_rfl)) (by decide)⟩
 | false=>exact⟨FW P ts i nm c s false (bp false a) (bp true s.ah),Ju hq (ho rfl) (bl.le (pq (K:=1000) (q:=[]) (l2:=Jd++[(q "row",.loc 14),(q "target",.loc 18)]) rfl (by kernel_rfl) [fR (wF (P:=P) (ts:=ts) (i:=i) (nm:=nm) (c:=c) (w:=false) (y:=bp true s.ah) hq hs hc hb)] (by kernel_rfl)) (by decide))⟩
theorem kA{l:List (Str×Int)}:(bJ l).length=l.length:=aae _
theorem Tx.Q3(Y:Tx P ts E names [ij])(nq:names=(aC E).ah.map (·.2.1))(hs: ∀p∈(aC E).ah,aL p.2.1=true):bk .NotEq (.lst (names.map V.str)) (.loc 15) (SS P ts (jy E names+1) (fw (q "m1") (aC E)))=ok false (SS P ts (jy E names+1) (fw (q "m1") (aC E))):=by
 have o:=Tx.ord (P:=P) (ts:=ts) (names:=names) (e:=jy E names+1) (λe=>Y.hn (by rw[nq,e];rfl)) (by rw[nq];exact qv hs) hs
 rw[decide_eq_true nq] at o
 exact o
theorem G7(Y:Tx P ts E names [ij])(nq:names=(aC E).ah.map (·.2.1))(hs: ∀p∈(aC E).ah,aL p.2.1=true)(hc: ∀w,Ej w (aC E).ah):
  ∃e,uW P ts=ok (.inst 141 16) (FS P ts e (q "m1") ((aC E).nets.length+2) (aC E) (bp true (aC E).ah) (bp false (aC E).ah)):=by
 rw[<-kA]
 exact⟨jy E names+1,ay (Y.fs Y.fin++[fb Y.ke,fB (Y.Q3 nq hs),fV 5 (mx (st:=SS P ts (jy E names+1) (fw (q "m1") (aC E))) (n:=12) (fs:=bJ (aC E).nets) rfl (by rw[kA];have :=Y.hq.ln;exact ZK this)),fR (M1 (P:=P) (ts:=ts) (i:=jy E names+1) (nm:=q "m1") (c:=(bJ (aC E).nets).length+2) Y.hq hc)]) (by kernel_rfl)⟩
theorem zm{w:Bool}{z:Str}{row:List Int}{a b:List dA}(Y:Tx P ts E names [ij])(nq:names=(aC E).ah.map (·.2.1))(hs: ∀p∈(aC E).ah,aL p.2.1=true)
  (qI:(aC E).ah=a++(w,z,row)::b) (ha:Ej w a) (ho:w=false->Ej true (aC E).ah) (hb:row.contains (-1)=true):Nf (uW P ts) "missing_bit" (-1) z:=by
 refine aj (HH (P:=P) (ts:=ts) (i:=jy E names+1) (nm:=q "m1") (c:=(bJ (aC E).nets).length+2) Y.hq qI ha ho hb) λst h=> ?_
 rw[Y.ea] at h
 exact⟨st,gL (Y.fs Y.fin++[fb Y.ke,fB (Y.Q3 nq hs),fV 5 (mx (st:=SS P ts (jy E names+1) (fw (q "m1") (aC E))) (n:=12) (fs:=bJ (aC E).nets) rfl (by rw[kA];have :=Y.hq.ln;exact ZK this)),fR h]) (by kernel_rfl)⟩
theorem uk{i:Nat}{p:Tk}(h:ts[i]? =some p):jf ts i=2* i+5:=by unfold jf;rw[h]
noncomputable def jE(d:Bool):Nat:=if d then 6 else 4
theorem Cd{tail:List Tk}(Y:Tx P ts E names tail){er:Ex}{st2:List AO}{kd y:Str}(a0:ts[jy E names]? =some (kd,.str y))(hn:kd≠q "key"\/y≠q "endmodule")(gs:List Fc)(hb:tS TT (CI 18) 200 iW (LC (.lst (names.map .str))) (SS P ts (jy E names) (fw (q "m1") (aC E))) (bG n8 0) gs (fin [])=some (.er er st2,f7 gs)):uW P ts=some (.error er,st2):=
 gL (Y.fs (bl.le (N':=300) (tD (f0 Y.D 8 a0 hn) gs (by kernel_rfl) hb) (by decide))) (by kernel_rfl)
theorem vt{d:Bool}{x w:Str}{b:Int}{row:List Int}{u v:Int}(Y:Tx P ts E names ((It.asg d x b w).text++[ij]))(hb:dX b)
  (uK:(d,x,row)∈(aC E).ah) (hu:row[b.toNat]? =some u) (Nz: ¬u<0) (hv:bD (aC E) w=some v) (BJ: ∀p∈(aC E).ah,p.2.1≠w):Nf (uW P ts) "bad_bit" (2* (jy E names+jE d:Nat)+5) x:=by
 have R:=Y.hq.R (nm:=q "m1") Y.B
 have h:=Y.tl.app.1
 refine aj (aa4 uK) λj hj=> ?_
 have hr:(mV (q "m1") (aC E))[j+4]? =some (.lst (row.map V.int)):=xP hj
 have Pb:(row.map V.int).length<=1000:=by rw[aae];exact Y.hq.rl _ uK
 have rR:(row.map V.int)[b.toNat]? =some (.int u):=by rw[aay,hu];rfl
 have a0:ts[jy E names]? =some (q "key",qs "assign"):=h 0 _ rfl
 have t5:Nf (CI 18 470 [.inst 494 10] (SS P ts (jy E names+1) (fw (q "m1") (aC E)))) "bad_bit" (2* (jy E names+jE d:Nat)+5) x:=by
  cases d with
  | true=>
   have h1:=(At.cons (p:=(q "key",qs "assign")) (l:=(aD w::(q "op",qs "=")::ed x b)++[(q "op",qs ";")]) h).2.app.1
   have h2:=((gC hb)▸h1.cons.2.cons.2).at 3 rfl
   exact⟨_,uk h2▸ui (k:=9) R hb h1 (e8 Y.hq.nd hj) hr Pb rR Nz (jP hv) (cJ λp hp _=>BJ p hp)⟩
  | false=>
   have h1:=(At.cons (p:=(q "key",qs "assign")) (l:=ed x b++[(q "op",qs "="),aD w]++[(q "op",qs ";")]) h).2.app.1.app.1
   have h2:=((gC hb)▸h1).at 3 rfl
   exact⟨_,uk h2▸rg (k:=9) R hb h1 (e8 Y.hq.nd hj) hr Pb rR Nz⟩
 refine aj t5 ?_;clear t5;intro st t5
 exact⟨st,Cd Y a0 (.inr (by decide+kernel)) (f1 Y.D 8 a0 (.inr (by decide+kernel)) (.inr (by decide+kernel))++[fV 0 (jo (k:=16) (x:=q "wire") Y.D a0 (.inr (by decide+kernel))),fV 0 (ia (k:=13) (x:=q "assign") Y.D a0),fE t5]) (by kernel_rfl)⟩
noncomputable def oS(w:Str):List Tk:=[(q "key",qs "not"),cq "(",aD w,comma,cI (q "w3"),cq ")",semi]
theorem vw{w:Str}{v:Int}(Y:Tx P ts E names (oS w++[ij]))(hv:bD (aC E) w=some v)(hx:(aC E).nets.lookup (q "w3")=none):Nf (uW P ts) "unknown_net" (2* (jy E names+4:Nat)+5) (q ""):=by
 have R:=Y.hq.R (nm:=q "m1") Y.B
 have h1:At ts (jy E names) [(q "key",.str (q "not")),cq "(",tw (w,v),comma,cI (q "w3")]:=(At.app (l:=[(q "key",.str (q "not")),cq "(",tw (w,v),comma,cI (q "w3")]) (m:=[cq ")",semi,ij]) Y.tl).1
 have a0:=h1.at 0 rfl
 have t5:=uk (h1.at 4 rfl)▸By (k:=8) (p0:=(w,v)) R (λst=>by kernel_rfl) h1 (jP hv) (by rw[dI,hx];rfl)
 exact⟨SS P ts (jy E names+4) (T4 (bJ (aC E).nets) (bg true 4 (aC E).ah) (bg false 4 (aC E).ah) ((aC E).ah.map dQ) (mV (q "m1") (aC E)++[.lst [.int v]])),Cd Y a0 (.inr (by decide+kernel)) (f1 Y.D 8 a0 (.inr (by decide+kernel)) (.inr (by decide+kernel))++[fV 0 (jo (k:=16) (x:=q "wire") Y.D a0 (.inr (by decide+kernel))),fV 0 (jo (k:=16) (x:=q "assign") Y.D a0 (.inr (by decide+kernel))),fE t5]) (by kernel_rfl)⟩
end
end Mine
namespace Mine
structure Cp where
 elt:Expr
 it:Expr
 x:Str
 ifs:List Expr
 sc:Scope
noncomputable def cpW:EV->Option Cp
 | .comp elt it x ifs sc=>some ⟨elt,it,x,ifs,sc⟩
 | _=>none
noncomputable def Kp(e:Expr):Cp:=(cpW (view e)).getD ⟨NJ,NJ,abM,[],default⟩
noncomputable abbrev fu(e:Expr):Scope:=(Kp e).sc
noncomputable abbrev ej(e:Expr):Expr:=(Kp e).elt
noncomputable abbrev dm(e:Expr):List Expr:=(Kp e).ifs
noncomputable def oZ(e:Expr):Expr:=match dm e with
 | [c]=>c
 | _=>NJ
noncomputable abbrev kh(e:Expr):Str:=(Kp e).x
noncomputable abbrev yz(e:Expr):Expr:=(Kp e).it
noncomputable def BR(e:Expr):Bool:=(cpW (view e)).isSome
noncomputable def FC(F:aV)(e:Expr):aV:=F.comp (fu e)
noncomputable def MC(m:M)(e:Expr)(v:V):M:=bV (gV m (fu e)) (kh e) v
noncomputable def cV(l:Ev)(e:Expr)(v:V):Ev:=(kh e,v)::l.filter λp=>(fu e).names.lookup p.1==some .free
section
variable{F:aV}{m m':M}{cl:Addr->List V->List AO->RE V}{l:Ev}{st st1 st2:List AO}{n N K i:Nat}{e:Expr}{v a src:V}{acc ys xs:List V}
theorem y9{x:Str}{a b:V}:bV (bV m x a) x b=bV m x b:=by
 funext y;unfold bV
 by_cases e:y=x
 ·rw[if_pos e,if_pos e]
 ·rw[if_neg e,if_neg e,if_neg e]
theorem rZ{l:Ev}{p:Str->Bool}{y:Str}{w:V}:(l.filter λz=>p z.1).lookup y=some w->p y=true/\l.lookup y=some w:=by
 induction l with
 | nil=>exact λh=>aY h
 | cons z l ih=>
  intro h
  rw[List.filter_cons] at h
  rw[aao]
  by_cases hz:p z.1=true
  ·rw[if_pos hz,aao] at h
   cases e:y==z.1 with
   | true=>rw[e] at h;exact⟨eq_of_beq e▸hz,h⟩
   | false=>rw[e] at h;exact ih h
  ·rw[if_neg hz] at h
   have h:=ih h
   cases e:y==z.1 with
   | true=>exact absurd (eq_of_beq e▸h.1) hz
   | false=>exact h
theorem Kk(hA:eE l m):eE (cV l e v) (MC m e v):=λy w h=>by
 unfold cV at h
 rw[aao] at h
 by_cases ey:y=kh e
 ·rw[ey,beq_self_eq_true] at h
  exact(if_pos ey).trans h
 ·rw[beq_false_of_ne ey] at h
  have h:=rZ (p:=λx=>(fu e).names.lookup x==some .free) h
  refine(if_neg ey).trans ?_
  unfold gV
  rw[eq_of_beq h.1]
  exact hA y w h.2
theorem yx{k:NameKind}(hc:k≠ .cell){l:List (Str×NameKind)}{y:Str}:(l.map λp=>(p.1,nG F p.1 p.2)).lookup y=some k->l.lookup y=some k:=by
 induction l with
 | nil=>exact λh=>aY h
 | cons p l ih=>
  intro h
  rw[aaq,aao] at h
  rw[aao]
  cases e:y==p.1 with
  | false=>rw[e] at h;exact ih h
  | true=>
   rw[e] at h
   have h:=aaj h
   unfold nG at h
   by_cases hb:(p.2== .free&&F.sc.lookup p.1==some .cell)=true
   ·rw[if_pos hb] at h;exact absurd h.symm hc
   ·rw[if_neg hb] at h;exact congrArg some h
theorem Ob(hc:cO F (fu e) (kh e)=true):Gn (FC F e) (MC m e v):=λy h=>by
 have h1:(F.comp (fu e)).sc.lookup (kh e)=some .local:=by
  unfold cO at hc
  rw[aaT,aaT] at hc
  exact eq_of_beq hc.1.2
 have hy:y≠kh e:=λq=>absurd (h.symm.trans (q▸h1)) (by decide)
 refine(if_neg hy).trans ?_
 unfold gV
 rw[yx (k:= .globalImplicit) (by decide) h]
def tH(cl:Addr->List V->List AO->RE V)(F:aV)(e:Expr)(l:Ev)(src:V)(i:Nat)(st:List AO)(acc:List V)(N:Nat)(ys:List V)(st':List AO):Prop:=
 ∀n,N<=n-> ∀m m',eE l m->Gn F m->(∀v,bV m' (kh e) v=MC m e v)->cX TT cl n (FC F e) (kh e) (dm e) (ej e) src i m' st acc=ok ys st'
theorem AG{x:Str}{ifs:List Expr}{elt:Expr}(h:fq st src i=some none):cX TT cl (n+1) F x ifs elt src i m st acc=ok acc st:=congrArg (λo=>oK o (Kt (dY TT cl n) F m x ifs elt src i st acc)) h
theorem AE{x:Str}{ifs:List Expr}{elt:Expr}{b:Bool}(h:fq st src i=some (some v))(hi:gG TT cl n F (bV m x v) st ifs=ok b st1):cX TT cl (n+1) F x ifs elt src i m st acc=
  bif b then(if acc.length<100000 then(bH TT cl n F false (bV m x v) st1 elt).bind λa st=>cX TT cl n F x ifs elt src (i+1) (bV m x v) st (acc++[a]) else none)
   else cX TT cl n F x ifs elt src (i+1) (bV m x v) st1 acc:=
 (congrArg (λo=>oK o (Kt (dY TT cl n) F m x ifs elt src i st acc)) h).trans (congrArg (λr:RE Bool=>r.bind λb st=>bif b then(if acc.length<100000 then(bH TT cl n F false (bV m x v) st elt).bind λa st=>cX TT cl n F x ifs elt src (i+1) (bV m x v) st (acc++[a]) else none)
   else cX TT cl n F x ifs elt src (i+1) (bV m x v) st acc) hi)
theorem As(h:fq st src i=some none):tH cl F e l src i st acc (N+1) acc st:=λn hn m m' _ _ _=>md (P:=λn=>cX TT cl n (FC F e) (kh e) (dm e) (ej e) src i m' st acc=ok acc st) (λj=>AG h) hn
theorem Au{b:Bool}(h:fq st src i=some (some v))(hc:cO F (fu e) (kh e)=true)(hi: ∀n,K+1<=n-> ∀m,eE (cV l e v) m->Gn (FC F e) m->gG TT cl n (FC F e) m st (dm e)=ok b st1)(he:b=true->acc.length<100000/\ ∃fs,rE TT cl K (FC F e) false (cV l e v) st1 (ej e) fs ik=some (.go (.ret a) [] st2,f7 fs))
  (hf:b=false->st2=st1) (hN:K+1<=N) (k:tH cl F e l src (i+1) st2 (if b then acc++[a] else acc) N ys Ei):tH cl F e l src i st acc (N+1) ys Ei:=λn hn m m' hA hG hm=>by
 obtain⟨d,rfl⟩:=abv hn
 have hj:d+N=(d+N- K)+K:=(Nat.sub_add_cancel (YJ hN)).symm
 have hA2:=Kk (e:=e) (v:=v) hA
 have hG2:=Ob (m:=m) (v:=v) hc
 have go:=k (d+N) (aaI _ _) m (MC m e v) hA hG (λw=>y9)
 have hi:=hi (d+N) (YK hN) _ hA2 hG2
 refine(?_:cX TT cl (d+N+1) (FC F e) (kh e) (dm e) (ej e) src i m' st acc=_)
 rw[AE h (by rw[hm v];exact hi),hm v]
 cases b with
 | true=>
  refine aO (he rfl) λhl he=>aj he λfs he=> ?_
  have ev:=mF (j:=d+N- K) he hA2 hG2
  rw[<-hj] at ev
  exact(if_pos hl).trans ((congrArg (λr:RE V=>r.bind λa st=>cX TT cl (d+N) (FC F e) (kh e) (dm e) (ej e) src (i+1) (MC m e v) st (acc++[a])) ev).trans go)
 | false=>rw[hf rfl] at go;exact go
theorem Ir{ys:List V}{Ei:List AO}(hc:cO F (fu e) (kh e)=true)(hi:dm e=[])(h:fq st src i=some (some v))(ha:acc.length<100000)(fs:List Fc)(he:rE TT cl K (FC F e) false (cV l e v) st (ej e) fs ik=some (.go (.ret a) [] st2,f7 fs))(hN:K+1<=N)(k:tH cl F e l src (i+1) st2 (acc++[a]) N ys Ei):tH cl F e l src i st acc (N+1) ys Ei:=
 Au (b:=true) h hc (λn hn m _ _=>md (P:=λn=>gG TT cl n (FC F e) m st (dm e)=ok true st) (λj=>by rw[hi];rfl) hn) (λ_=>⟨ha,fs,he⟩) (λq=>tf q) hN k
theorem Oc{b:Bool}{ys:List V}{Ei:List AO}(hc:cO F (fu e) (kh e)=true)(hi:dm e=[oZ e])(h:fq st src i=some (some v))(ht: ∃fs,rT TT cl K (FC F e) (cV l e v) st (oZ e) fs kY=some (.go (.ret (.bool b)) [] st,f7 fs))
  (he:b=true->acc.length<100000/\ ∃fs,rE TT cl K (FC F e) false (cV l e v) st (ej e) fs ik=some (.go (.ret a) [] st,f7 fs)) (hN:K+1<=N) (k:tH cl F e l src (i+1) st (if b then acc++[a] else acc) N ys Ei):tH cl F e l src i st acc (N+1) ys Ei:=
 Au h hc (λn hn m hA hG=>md (P:=λn=>gG TT cl n (FC F e) m st (dm e)=ok b st) (λj=>aj ht λfs ht=>by
  rw[hi]
  exact vq ht hA hG) hn) he (λ_=>rfl) hN k
section
variable{g:V->V}{p:V->Bool}{all:List V}
theorem Fb(hc:cO F (fu e) (kh e)=true)(hi:dm e=[oZ e])(hn: ∀i,fq st src i=some all[i]?)(hl:all.length<=99999)(hp: ∀v∈all,∃fs,rT TT cl K (FC F e) (cV l e v) st (oZ e) fs kY=some (.go (.ret (.bool (p v))) [] st,f7 fs))(hg: ∀v∈all,p v=true-> ∃fs,rE TT cl K (FC F e) false (cV l e v) st (ej e) fs ik=some (.go (.ret (g v)) [] st,f7 fs))(xs:List V):
  ∀(ys acc:List V),all=ys++xs->acc.length<=ys.length->tH cl F e l src ys.length st acc (xs.length+(K+2)) (acc++(xs.filter p).map g) st:=by
 induction xs with
 | nil=>
  intro ys acc he ha
  have h:fq st src ys.length=some none:=by rw[hn,he,aav,aaS (aaw _)]
  rw[show acc++(([]:List V).filter p).map g=acc from aav acc,acb]
  exact As h
 | cons v xs ih=>
  intro ys acc he ha
  have h:fq st src ys.length=some (some v):=by rw[hn,he,aau (aaw _),abo];rfl
  have hv:v∈all:=by rw[he];exact aa2 _ aak
  have hlen:ys.length<all.length:=by rw[he,aag,aan];exact QJ
  have ha2:(if p v then acc++[g v] else acc).length<=(ys++[v]).length:=by
   rw[aag]
   cases p v with
   | true=>refine aaD (Nat.le_of_eq (aag ..)) (Nat.succ_le_succ ha)
   | false=>exact Nat.le_succ_of_le ha
  have go:=ih (ys++[v]) (if p v then acc++[g v] else acc) (by rw[he,aax];rfl) ha2
  rw[aag] at go
  have e2:acc++((v::xs).filter p).map g=(if p v then acc++[g v] else acc)++(xs.filter p).map g:=by
   rw[List.filter_cons]
   cases p v with
   | true=>exact(aax acc [g v] _).symm
   | false=>rfl
  rw[e2,aan,Nat.add_right_comm]
  exact Oc (b:=p v) (a:=g v) hc hi h (hp v hv) (λhb=>⟨by exact QK hl ha hlen,hg v hv hb⟩) (QL) go
theorem ru(hc:cO F (fu e) (kh e)=true)(hi:dm e=[])(hn: ∀i,fq st src i=some all[i]?)(hl:all.length<=99999)(hg: ∀v∈all,∃fs,rE TT cl K (FC F e) false (cV l e v) st (ej e) fs ik=some (.go (.ret (g v)) [] st,f7 fs))(xs:List V):
  ∀(ys acc:List V),all=ys++xs->acc.length<=ys.length->tH cl F e l src ys.length st acc (xs.length+(K+2)) (acc++xs.map g) st:=by
 induction xs with
 | nil=>
  intro ys acc he ha
  have h:fq st src ys.length=some none:=by rw[hn,he,aav,aaS (aaw _)]
  rw[show acc++([]:List V).map g=acc from aav acc,acb]
  exact As h
 | cons v xs ih=>
  intro ys acc he ha
  have h:fq st src ys.length=some (some v):=by rw[hn,he,aau (aaw _),abo];rfl
  have hv:v∈all:=by rw[he];exact aa2 _ aak
  have hlen:ys.length<all.length:=by rw[he,aag,aan];exact QJ
  have go:=ih (ys++[v]) (acc++[g v]) (by rw[he,aax];rfl) (by rw[aag,aag];exact Nat.succ_le_succ ha)
  rw[aag,aax] at go
  rw[aan,Nat.add_right_comm]
  exact aj (hg v hv) λfs hf=>Ir hc hi h (QK hl ha hlen) fs hf (QL) go
end
theorem rA{mu:Bool}{vE:List AO}(h1:BR e=true)(hc:cO F (fu e) (kh e)=true)(fs:List Fc)(hs:rE TT cl K F false l st (yz e) fs ik=some (.go (.ret src) [] st1,f7 fs))(hN:K<=N)(h:tH cl F e l src 0 st1 [] N xs st2)(hm:mk mu xs st2=ok v vE):Gives F (λj m=>bH TT cl j F mu m st e) (N+1) l v vE:=λn hn m hA hG=>by
 obtain⟨d,rfl⟩:=abv hn
 have hj:d+N=(d+N- K)+K:=(Nat.sub_add_cancel (YL hN)).symm
 have ev:=mF (j:=d+N- K) hs hA hG
 rw[<-hj] at ev
 have e0:bH TT cl (d+N+1) F mu m st e=(bH TT cl (d+N) F false m st (yz e)).bind λsrc st=>(si (cX TT cl (d+N) (FC F e) (kh e) (dm e) (ej e) src 0 (gV m (fu e)) st [])).bind λxs st=>mk mu xs st:=by
  refine(?_:Fq TT cl (dY TT cl (d+N)) F m mu st (view e)=_)
  unfold FC fu kh dm ej yz Kp
  unfold fu kh Kp at hc
  unfold BR at h1
  generalize view e=w at h1 hc ⊢
  cases w with
  | comp elt it x ifs sc=>exact if_pos hc
  | _=>exact ft h1
 refine e0.trans ((congrArg (λr:RE V=>r.bind λsrc st=>(si (cX TT cl (d+N) (FC F e) (kh e) (dm e) (ej e) src 0 (gV m (fu e)) st [])).bind λxs st=>mk mu xs st) ev).trans ?_)
 exact(congrArg (λr:RE (List V)=>(si r).bind λxs st=>mk mu xs st) (h (d+N) (aaI _ _) m _ hA hG (λv=>rfl))).trans hm
theorem S8{ys:List V}{Ei:List AO}(hc:cO F (fu e) (kh e)=true)(hi:dm e=[])(h:fq st src i=some (some v))(ha:acc.length<100000)(fs:List Fc)(he:rE TT cl 200 (FC F e) false (cV l e v) st (ej e) fs ik=some (.go (.ret a) [] st2,f7 fs))(hN:201<=N)(k:tH cl F e l src (i+1) st2 (acc++[a]) N ys Ei):tH cl F e l src i st acc (N+1) ys Ei:=Ir hc hi h ha fs he hN k
theorem oX{g:V->V}{p:V->Bool}{all:List V}(hc:cO F (fu e) (kh e)=true)(hi:dm e=[oZ e])(hn: ∀i,fq st src i=some all[i]?)(hl:all.length<=99999)
  (hp: ∀v∈all,∃fs,rT TT cl 200 (FC F e) (cV l e v) st (oZ e) fs kY=some (.go (.ret (.bool (p v))) [] st,f7 fs)) (hg: ∀v∈all,p v=true-> ∃fs,rE TT cl 200 (FC F e) false (cV l e v) st (ej e) fs ik=some (.go (.ret (g v)) [] st,f7 fs)):
  ∀(xs ys acc:List V),all=ys++xs->acc.length<=ys.length->tH cl F e l src ys.length st acc (xs.length+202) (acc++(xs.filter p).map g) st:=Fb hc hi hn hl hp hg
theorem iL{g:V->V}{all:List V}(hc:cO F (fu e) (kh e)=true)(hi:dm e=[])(hn: ∀i,fq st src i=some all[i]?)(hl:all.length<=99999)
  (hg: ∀v∈all,∃fs,rE TT cl 200 (FC F e) false (cV l e v) st (ej e) fs ik=some (.go (.ret (g v)) [] st,f7 fs)):
  ∀(xs ys acc:List V),all=ys++xs->acc.length<=ys.length->tH cl F e l src ys.length st acc (xs.length+202) (acc++xs.map g) st:=ru hc hi hn hl hg
theorem dE{mu:Bool}{vE:List AO}(h1:BR e=true)(hc:cO F (fu e) (kh e)=true)(fs:List Fc)(hs:rE TT cl 200 F false l st (yz e) fs ik=some (.go (.ret src) [] st1,f7 fs))(hN:200<=N)(h:tH cl F e l src 0 st1 [] N xs st2)(hm:mk mu xs st2=ok v vE):Gives F (λj m=>bH TT cl j F mu m st e) (N+1) l v vE:=rA h1 hc fs hs hN h hm
end
end Mine
namespace Mine
def PL(pl:List V):Prop:= ∃(a:Int) (cs:List Int),pl= .int a::cs.map V.int/\0<=a/\a<65537/\cs.length<=1000
theorem RX{i j:Int}(h:0<j/\j<1000000000): ∀st,binI false .FloorDiv (.int i) (.int j) st=ok (.int (i.fdiv j)) st:=λst=>if_pos (show j≠0/\j.natAbs<1000000000 from⟨by exact o82 h,by omega⟩)
theorem TB{i j:Int}(h:0<j): ∀st,binI false .Mod (.int i) (.int j) st=ok (.int (i.fmod j)) st:=λst=>if_pos (show j≠0 by exact o83 h)
theorem PN{i:Int}(h0:0<=i)(h1:i<100000): ∀st,binI false .Mult (.int i) (.int 75) st=ok (.int (i* 75)) st:=λst=>by
 show(if small i&&small 75 then ok (V.int (i* 75)) st else none)=_
 rw[show small i=true by unfold small;rw[decide_eq_true (by omega),decide_eq_true (by omega)];rfl];rfl
theorem pj{i j:Int}(h:0<j):0<=i.fmod j/\i.fmod j<j:=⟨Int.fmod_nonneg_of_pos i h,Int.fmod_lt_of_pos i h⟩
theorem CO{n:Nat}{xs:List V}{v:V}{st:List AO}(h:st[n]? =some (.lst (xs++[v])))(hl:xs.length<90000):eF .lst (.loc n) (q "pop") [] st=ok v (st.set n (.lst xs)):=by
 have n1:q "pop"≠q "append":=by decide+kernel
 have n2:q "pop"≠q "reverse":=by decide+kernel
 have hlen:(xs++[v]).length<100000:=by rw[aag,aaF];exact o84 hl
 refine(aK (bR h)).trans ((if_pos hlen).trans ((if_neg n1).trans ((if_neg n2).trans ((if_pos rfl).trans ((aK List.getLast?_concat).trans ?_)))))
 rw[List.dropLast_concat]
noncomputable def IA(c0:AO)(r:List AO)(a c:Int)(cs:List V)(lim:Int)(ha:0<=a/\a<65537)(hl:0<lim)(hc:cs.length<=90000):List Fc:=
 have Sj:(V.int a::cs).length<=100000:=by rw[aan];exact o85 hc
 [fV 4 (qw (n:=1) (j:=0) (v:= .int a) (st:=c0:: .lst (.int a::cs)::r) rfl Sj (by decide) rfl),fF 2 (PN ha.1 (o86 ha)),no 2,no 2,no 2,no 2,
  fS 10 (jY (n:=1) (i:=0) (v:= .int ((a* 75+74+c.fmod 1009).fmod 65537)) (st:=c0:: .lst (.int a::cs)::r) rfl Sj (by decide) (by rw[aan];exact o87)),fF 2 (TB (i:=c) hl)]
theorem AX{pl:List V}{lim:Int}(hp:PL pl)(hl:0<lim/\lim<1000000000): ∃(d:Int) (cF:List V),PL cF/\0<=d/\d<lim/\ ∀(k:Nat) (c0:AO) (r:List AO),CI (k+1) 515 [.loc 1,.int lim] (c0:: .lst pl::r)=ok (.int d) (c0:: .lst cF::r):=by
 refine km hp ?_;clear hp;rintro a cs rfl pA TN yQ
 rcases List.eq_nil_or_concat cs with rfl | ⟨cs,c,rfl⟩
 ·have h1:=pj (i:=a* 75+74) (j:=65537) (by decide)
  have h2:=pj (i:=((a* 75+74).fmod 65537).fdiv 8) hl.1
  exact⟨_,_,⟨(a* 75+74).fmod 65537,[],rfl,h1.1,h1.2,aaC _⟩,h2.1,h2.2,λk c0 r=>ay [fF 2 (PN pA (o88 TN)),no 2,no 2,no 2,fF 2 (TB (i:=((a* 75+74).fmod 65537).fdiv 8) hl.1)] (by kernel_rfl)⟩
 ·rw[List.concat_eq_append] at*
  have yQ:cs.length<=999:=by rw[aag,aaF] at yQ;exact o89 yQ
  have h1:=pj (i:=a* 75+74+c.fmod 1009) (j:=65537) (by decide)
  have h2:=pj (i:=c) hl.1
  have e:V.int a::(cs++[c]).map V.int=(V.int a::cs.map V.int)++[V.int c]:=by rw[aaA];rfl
  have e0:((V.int a::cs.map V.int)++[V.int c]).length=cs.length+2:=by rw[aag,aan,aae];rfl
  have hm:(cs.map V.int).length<=90000:=by rw[aae];exact o90 yQ
  rw[e]
  have ln: ∀(c0:AO) (r:List AO),_:=λc0 r=>pQ (n:=1) (st:=c0:: .lst ((V.int a::cs.map V.int)++[V.int c])::r) rfl (by rw[e0];exact o91 yQ)
  have f2:=Tv (a:=((V.int a::cs.map V.int)++[V.int c]).length) (b:=1) (c:=false) (beq_false_of_ne (by rw[e0];exact o92))
  have pp: ∀(c0:AO) (r:List AO),_:=λc0 r=>CO (n:=1) (xs:=V.int a::cs.map V.int) (v:=V.int c) (st:=c0:: .lst ((V.int a::cs.map V.int)++[V.int c])::r) rfl (by rw[aan,aae];exact o93 yQ)
  by_cases OQ:1000000<=c.fdiv lim
  ·have e3:(cs++[c.fdiv lim]).map V.int=cs.map V.int++[V.int (c.fdiv lim)]:=aaA
   refine⟨_,_,⟨(a* 75+74+c.fmod 1009).fmod 65537,cs++[c.fdiv lim],rfl,h1.1,h1.2,by rw[aag,aaF];exact o94 yQ⟩,h2.1,h2.2,λk c0 r=> ?_⟩
   rw[e3]
   exact ay ([fV 5 (ln c0 r),fb f2,fV 7 (pp c0 r),fF 2 (RX (i:=c) hl),fb (Bz (a:=c.fdiv lim) (b:=1000000) OQ),fF 2 (RX (i:=c) hl),fV 7 (bW (n:=1) (v:= .int (c.fdiv lim)) (st:=c0:: .lst (.int a::cs.map V.int)::r) rfl (by rw[aan,aae];exact o95 yQ))]++IA c0 r a c (cs.map V.int++[V.int (c.fdiv lim)]) lim ⟨pA,TN⟩ hl.1 (by rw[aag,aaF];rw[aae] at*;exact o96 yQ)) (by kernel_rfl)
  ·refine⟨_,_,⟨(a* 75+74+c.fmod 1009).fmod 65537,cs,rfl,h1.1,h1.2,by exact o97 yQ⟩,h2.1,h2.2,λk c0 r=> ?_⟩
   exact ay ([fV 5 (ln c0 r),fb f2,fV 7 (pp c0 r),fF 2 (RX (i:=c) hl),fb (yJ (a:=c.fdiv lim) (b:=1000000) OQ)]++IA c0 r a c (cs.map V.int) lim ⟨pA,TN⟩ hl.1 hm) (by kernel_rfl)
theorem bu{pl:List V}{lim:Int}{G:Prop}(hp:PL pl)(hl:0<lim/\lim<1000000000)(g: ∀(d:Int) (cF:List V),PL cF->0<=d->d<lim->(∀(k:Nat) (c0:AO) (r:List AO),CI (k+1) 515 [.loc 1,.int lim] (c0:: .lst pl::r)=ok (.int d) (c0:: .lst cF::r))->G):G:=km (AX hp hl) g
noncomputable def gR(p:Tk):V:= .tup [.str p.1,p.2]
noncomputable def bt(l:List Tk):V:= .lst (l.map gR)
theorem jC{xs ys:List V}(h:xs.length+ys.length<=100000): ∀st,binI false .Add (.lst xs) (.lst ys) st=ok (.lst (xs++ys)) st:=λst=>if_pos (by rw[aag];exact h)
theorem cw{a b:List Tk}(h:a.length+b.length<=100000): ∀st,binI false .Add (bt a) (bt b) st=ok (bt (a++b)) st:=λst=>by
 have e:=jC (xs:=a.map gR) (ys:=b.map gR) (by rw[aae,aae];exact h) st
 rw[<-aaA] at e
 exact e
section
variable{k:Nat}{st:List AO}
theorem jU{n:Int}(h:n= -1\/n=0\/n=1):CI (k+1) 529 [.int n] st=ok (bt (plainT n)) st:=by
 rcases h with rfl | rfl | rfl<;>kernel_rfl
theorem Ln{l:List Str}{v:Str}(hl:l.length<=1000)(ho: ∀x∈l,aL x=true)(hv:aL v=true): ∀st,bk .In (.str v) (.tup (l.map V.str)) st=ok (l.contains v) st:=λst=>F0 (y:= .tup (l.map V.str)) rfl hl ho hv
theorem ya{w:Str}(hw:aL w=true):CI (k+1) 536 [.str w] st=ok (gR (aD w)) st:=by
 have e:=Ln (l:=[q "0",q "1"]) (v:=w) (by decide) (by decide+kernel) hw
 unfold aD
 by_cases h0:w=q "0"
 ·subst h0;kernel_rfl
 ·by_cases h1:w=q "1"
  ·subst h1;kernel_rfl
  ·rw[show [q "0",q "1"].contains w=false by simp[h0,h1]] at e
   rw[if_neg h0,if_neg h1]
   exact ay [fb e] (by kernel_rfl)
theorem eq_nil{n:Nat}{xs:List V}(h:st[n]? =some (.lst xs))(hl:xs.length<=100000):bk .Eq (.loc n) (.lst []) st=ok xs.isEmpty st:=by
 exact(aK (iN h)).trans (if_pos hl)
theorem ne_nil{n:Nat}{xs:List V}(h:st[n]? =some (.lst xs))(hl:xs.length<=100000):bk .NotEq (.loc n) (.lst []) st=ok (!xs.isEmpty) st:=by
 exact congrArg jS (eq_nil h hl)
theorem pop_at{n:Nat}{xs:List V}{i:Int}{v:V}(h:st[n]? =some (.lst xs))(hl:xs.length<=90000)(h0:0<=i)(hv:xs[i.toNat]? =some v):eF .lst (.loc n) (q "pop") [.int i] st=ok v (st.set n (.lst (xs.eraseIdx i.toNat))):=by
 have n1:q "pop"≠q "append":=by decide+kernel
 have n2:q "pop"≠q "reverse":=by decide+kernel
 have gH:xs.length<100000:=by exact o98 hl
 exact(aK (bR h)).trans ((if_pos gH).trans ((if_neg n1).trans ((if_neg n2).trans ((if_pos rfl).trans ((if_pos h0).trans (aK hv))))))
theorem dJ{i:Nat}{xs:List V}(hl:xs.length<=100000):fq st (.lst xs) i=some xs[i]? :=if_pos hl
theorem AJ{x:V}{xs:List V}(hl:xs.length<=1000): ∀st,kW false (.lst (x::xs)) (some 1) none st=ok (.lst xs) st:=λst=>by
 have e1:kW false (.lst (x::xs)) (some 1) none st=AL false (.lst (x::xs)) (List.drop (1:Int).toNat) st:=rfl
 exact e1.trans ((if_pos (show(x::xs).length<=100000 by rw[aan];exact ZN hl)).trans (if_pos (show xs.length<=100000 by exact xw hl)))
theorem fH{xs:List V}{i:Nat}{v:V}(hl:xs.length<=1000)(hv:xs[i]? =some v): ∀st,eQ (.lst xs) (.int i) st=ok v st:=λst=>j1 rfl (aaD hl (by decide)) hv
noncomputable def Bf:g9:=jn "_law_listed"
noncomputable def Ie:aV:=l8 Bf
noncomputable def Jb:Stmt:=bE Bf.body 1
theorem n9{cl:Addr->List V->List AO->RE V}: ∀(r pre acc:List Tk),pre.length+r.length<=1000->acc.length<=10* pre.length+10->
  bl Ie (λj m=>cP TT cl j Ie (kM Jb) (bG Jb 0) (bt (pre++r)) pre.length m st) (r.length+201) [(q "found",bt acc)] (.go .next [(q "found",bt (acc++cN r))] st)
 | [],pre,acc,hl,_=>by
  rw[show acc++cN []=acc from aav acc]
  exact cz ((dJ (by rw[aae,aag];exact o99 hl)).trans (congrArg some (aaS (by rw[aae,aag];exact aaw _))))
 | b::r,pre,acc,hl,ha=>by
  rw[aan] at hl ⊢
  have nx:fq st (bt (pre++b::r)) pre.length=some (some (gR b)):=(dJ (by rw[aae,aag,aan];exact US hl)).trans (by rw[aay,aau (aaw _),abo];rfl)
  have ad:=cw (a:=acc) (b:=[comma,b]) (by show _+2<=_;exact UT hl ha)
  have go:=n9 (cl:=cl) r (pre++[b]) (acc++[comma,b]) (by rw[aag,aaF];exact PV hl) (by rw[aag,aag];show _+2<=10* (_+1)+10;exact UU ha)
  rw[aax,aax,aag] at go
  exact fT (q:=[(q "found",bt (acc++[comma,b]))]) (l2:=[(q "found",bt acc),(q "piece",gR b)]) nx (by kernel_rfl) [fF 2 ad] (by kernel_rfl) (aaD (by decide) (aaI 201 _)) go
theorem bZ{a:Tk}{r:List Tk}(hl:r.length<=900):CI (k+1) 543 [bt (a::r)] st=ok (bt (eg (a::r))) st:=
 ay [fF 4 (fH (i:=0) (v:=gR a) (xs:=(a::r).map gR) (by rw[aae,aan];exact UW hl) rfl),fF 8 (AJ (x:=gR a) (xs:=r.map gR) (by rw[aae];exact LP hl)),fR ((n9 (cl:=CI k) (st:=st) r [] [a] (by show 0+_<=_;exact UX hl) (aam rfl)).le (N':=2000) (UY hl))] (by kernel_rfl)
end
theorem PL.cH{pl:List V}(h:PL pl){k:Nat}:aQ k pl=true:=by
 refine cc h ?_;clear h;rintro a cs rfl _
 rw[bX];intro x hx
 rcases aat.mp hx with rfl | h1
 ·rfl
 ·refine ae h1 ?_;rintro y _ rfl;rfl
theorem jk{α:Type}: ∀{l:List α} {i:Nat} (h:i<l.length),(l[i]::l.eraseIdx i).Perm l
 | x::l,0,_=>List.Perm.refl _
 | x::l,i+1,h=>by
  have h:i<l.length:=by simpa using h
  have ih:=jk (l:=l) (i:=i) h
  show(l[i]::x::l.eraseIdx i).Perm (x::l)
  exact(List.Perm.swap _ _ _).trans (ih.cons x)
end Mine
namespace Mine
section
variable{c0:AO}{pl:List V}{r:List AO}{a b x:AO}
theorem e2g:(c0:: .lst pl::(r++[a,b]))[r.length+2]? =some a:=by
 show(r++[a,b])[r.length]? =_
 rw[aau (aaw _),abo];rfl
theorem e2h:(c0:: .lst pl::(r++[a,b]))[r.length+3]? =some b:=by
 show(r++[a,b])[r.length+1]? =_
 rw[aau (ab6 _ _),abQ];rfl
theorem e2s:(c0:: .lst pl::(r++[a,b])).set (r.length+2) x=c0:: .lst pl::(r++[x,b]):=by
 show c0::_::(r++[a,b]).set r.length x=_
 rw[abf _ _ (aaw _),abo];rfl
theorem e2t:(c0:: .lst pl::(r++[a,b])).set (r.length+3) x=c0:: .lst pl::(r++[a,x]):=by
 show c0::_::(r++[a,b]).set (r.length+1) x=_
 rw[abf _ _ (ab6 _ _),abQ];rfl
end
noncomputable def Be:g9:=jn "_law_shuffled" ["free","found"] false
noncomputable def Ic:aV:=l8 Be
noncomputable def Ja:Stmt:=bE Be.body 2
noncomputable def Sv(n:Nat):Ev:=[(q "found",.loc (n+3)),(q "free",.loc (n+2)),(q "pool",.loc 1)]
theorem xM: ∀(w:Nat) (free found pl:List V),free.length=w->found.length+free.length<=1000->PL pl-> ∃ys cF,PL cF/\ys.Perm (found++free)/\ ∀(k:Nat) (c0:AO) (r:List AO),
  bl Ic (λj m=>bq TT (CI (k+1)) j Ic (kM Ja) (bG Ja 0) m (c0:: .lst pl::(r++[.lst free,.lst found]))) (w+201) (Sv r.length) (.go .next (Sv r.length) (c0:: .lst cF::(r++[.lst [],.lst ys])))
 | 0,free,found,pl,hw,hl,hp=>by
  have :free=[]:=abw hw
  subst this
  exact⟨found,pl,hp,by rw[aav],λk c0 r=>gy [fB (ne_nil (e2g (c0:=c0) (pl:=pl) (r:=r) (a:= .lst []) (b:= .lst found)) (aaC _))] (by kernel_rfl)⟩
 | w+1,free,found,pl,hw,hl,hp=>by
  refine bu (lim:=free.length) hp ⟨by exact UZ hw,by exact U0 hl⟩ λd b8 dj h0 h1 hd=> ?_
  obtain⟨i,rfl⟩: ∃i:Nat,d=i:=⟨d.toNat,by exact ju h0⟩
  have hi:i<free.length:=by exact vc h1
  have hv:free[i]? =some free[i]:=aaG hi
  have hlen:(free.eraseIdx i).length=w:=by rw[List.length_eraseIdx_of_lt hi];exact U1 hw
  refine cj (xM w (free.eraseIdx i) (found++[free[i]]) b8 hlen (by rw[aag,aaF];exact U2 hw hl hlen) dj) λys dq qG kK kJ=> ?_
  refine⟨ys,dq,qG,?_,λk c0 r=> ?_⟩
  ·refine kK.trans ?_
   rw[aax]
   exact abF _ (jk hi)
  ·have ne:=ne_nil (e2g (c0:=c0) (pl:=pl) (r:=r) (a:= .lst free) (b:= .lst found)) (PX hl)
   rw[show free.isEmpty=false by cases free with | nil=>exact nomatch hw | cons _ _=>rfl] at ne
   exact gz (q:=Sv r.length) (l2:=Sv r.length) (st1:=c0:: .lst pl::(r++[.lst free,.lst found])) (st2:=c0:: .lst b8::(r++[.lst (free.eraseIdx i),.lst (found++[free[i]])])) [fB ne]
    [fP (zj (nm:=q "append") (e2h (c0:=c0) (pl:=pl) (r:=r) (a:= .lst free) (b:= .lst found)) (by decide+kernel)),fP (zj (nm:=q "pop") (e2g (c0:=c0) (pl:=pl) (r:=r) (a:= .lst free) (b:= .lst found)) (by decide+kernel)),fV 5 (pQ (e2g (c0:=c0) (pl:=pl) (r:=r) (a:= .lst free) (b:= .lst found)) (PX hl)),fV 0 (hd k c0 (r++[.lst free,.lst found])),
     fV 7 ((pop_at (i:=i) (v:=free[i]) (e2g (c0:=c0) (pl:=b8) (r:=r) (a:= .lst free) (b:= .lst found)) (U3 hl) (SD) hv).trans (congrArg (ok free[i]) e2s)),fV 7 ((bW (v:=free[i]) (e2h (c0:=c0) (pl:=b8) (r:=r) (a:= .lst (free.eraseIdx i)) (b:= .lst found)) (U4 hl)).trans (congrArg (ok V.none) e2t))] (by kernel_rfl) (by kernel_rfl) (aaD (by decide) (aaI 201 _)) (kJ k c0 r)
theorem ow{c0:AO}{pl:List V}{r:List AO}(hc:(c0::r).all (bA 0)=true)(hp:PL pl){k:Nat}:(c0:: .lst pl::r).all (bA k)=true:=by
 rw[abq,aaT] at hc
 rw[abq,abq,kc (aaC _) hc.1,ib (aaC _) hc.2,show bA k (.lst pl)=true from hp.cH];rfl
theorem xN{xs pl:List V}(hp:PL pl)(hb:aQ 0 xs=true)(hl:xs.length<=100): ∃ys cF,PL cF/\ys.Perm xs/\ ∀(k:Nat) (c0:AO) (r:List AO) (v:V),(c0::r).all (bA 0)=true->bB (c0:: .lst pl::r) v=some xs->CI (k+2) 522 [.loc 1,v] (c0:: .lst pl::r)=ok (.lst ys) (c0:: .lst cF::r):=by
 refine cj (xM xs.length xs [] pl rfl (by show 0+_<=_;exact U5 hl) hp) λys cF uI kK kJ=> ?_
 refine⟨ys,cF,uI,kK,λk c0 r v hc hv=> ?_⟩
 have hyb: ∀k,aQ k ys=true:=λk=>by
  rw[bX];intro x hx
  exact cU (aaC _) _ (bX.mp hb x (kK.mem_iff.mp hx))
 have t0:gu true "list" [v] (c0:: .lst pl::r)=ok (.loc (r.length+2)) (c0:: .lst pl::(r++[.lst xs])):=by
  show(oK (bB (c0:: .lst pl::r) v) λys=>mk true ys (c0:: .lst pl::r))=_
  rw[hv]
  exact if_pos (show xs.length<=100000 by exact nz hl)
 have t1:mk true [] (c0::AO.lst pl::(r++[.lst xs]))=ok (.loc (r.length+3)) (c0:: .lst pl::(r++[.lst xs,.lst []])):=by
  show ok (V.loc ((r++[AO.lst xs]).length+2)) (c0::AO.lst pl::((r++[AO.lst xs])++[AO.lst []]))=_
  rw[aag,aax];rfl
 have fz:freeze (r.length+2) (.loc (r.length+3)) ((c0:: .lst cF::r)++[.lst [],.lst ys])=ok (.lst ys) (c0:: .lst cF::r):=jI rfl (ow hc uI) (by
  show rM _ _ (.loc (r.length+3))=_
  have g:((c0::AO.lst cF::r)++[.lst [],.lst ys])[r.length+3]? =some (.lst ys):=e2h
  exact(if_neg (U6)).trans ((aK (bR g)).trans (if_pos (hyb _))))
 exact ay [fV 6 t0,fV 31 t1,fR ((kJ k c0 r).le (N':=500) (U7 hl)),fV 30 fz] (by kernel_rfl)
noncomputable def cy(l:List Str):V:= .lst (l.map V.str)
noncomputable def yn(d:Bool)(nm:Str)(b:Int)(w:Str):V:= .tup [cy [nm,w],bt (It.asg d nm b w).text,.tup [qs (cu d),.str nm,.int b,.str w]]
theorem yq{k:Nat}{st:List AO}{d:Bool}{nm w:Str}{b:Int}(hb:dX b)(hw:aL w=true):CI (k+2) 560 [qs (cu d),.str nm,.int b,.str w] st=ok (yn d nm b w) st:=by
 have t1:=jU (k:=k) (st:=st) (n:=b) (.inr hb)
 have t2:=ya (k:=k) (st:=st) hw
 rw[plain_len hb] at t1
 have e:=gC (nm:=nm) hb
 cases d with
 | true=>
  have e2:yn true nm b w= .tup [cy [nm,w],bt ((q "key",qs "assign")::aD w::(q "op",qs "=")::([(q "id",.str nm),(q "op",qs "["),(q "num",fY b),(q "op",qs "]")]++[semi])),.tup [qs "input",.str nm,.int b,.str w]]:=by rw[<-e];rfl
  rw[e2]
  exact ay [fV 0 t1,fV 0 t2] (by kernel_rfl)
 | false=>
  have e2:yn false nm b w= .tup [cy [nm,w],bt ((q "key",qs "assign")::(([(q "id",.str nm),(q "op",qs "["),(q "num",fY b),(q "op",qs "]")]++[(q "op",qs "="),aD w])++[semi])),.tup [qs "output",.str nm,.int b,.str w]]:=by rw[<-e];rfl
  rw[e2]
  exact ay [fV 0 t1,fV 0 t2] (by kernel_rfl)
end Mine
namespace Mine
theorem tR{t:Nat}(h:t<3):t=0\/t=1\/t=2:=by exact U8 h
theorem wG{x:Int}(h0: -100000<=x)(h1:x<=100000):Builtin.Range.rangeFitsLong x=true:=by
 unfold Builtin.Range.rangeFitsLong
 rw[aaT]
 exact⟨decide_eq_true (by omega),decide_eq_true (by omega)⟩
theorem rsz{w:Nat}:aaU 0 (w:Int) 1=w:=by
 unfold aaU
 rw[if_pos (by decide)]
 split
 ·rw[Int.ediv_one];exact U9
 ·omega
theorem eO{st:List AO}{w i:Nat}(h:w<=90000):fq st (.jb 0 w 1) i=some (if i<w then some (.int i) else none):=by
 have e1:ab7 0 (w:Int) 1=true:=by
  unfold ab7
  rw[rsz,wG (by decide) (by decide),wG (Va) (Vb h),wG (by decide) (by decide),if_pos (by decide),wG (Vc) (Vd h)]
  simp
 show(if ab7 0 (w:Int) 1 then some (if i<(aaU 0 (w:Int) 1).toNat then some (V.int (0+i* 1)) else none) else none)=_
 rw[if_pos e1,rsz,Int.toNat_natCast,Int.zero_add,Int.mul_one]
theorem vC{n:Nat}(h:n<=90000):small (n:Int)=true:=by unfold small;rw[decide_eq_true (by omega),decide_eq_true (by omega)];rfl
theorem j5{n:Nat}(h:n<=90000): ∀st,gu false "range" [.int n] st=ok (.jb 0 n 1) st:=λst=>if_pos (vC h)
noncomputable def Bg:g9:=jn "_law_sized"
noncomputable def zS:aV:=l8 Bg
noncomputable def Ar:Expr:=kX (uw (bE (bG (bE Bg.body 2) 0) 0)) [1]
noncomputable def um(t s:Nat):V:= .str ⟨#[if t/2^s%2=1 then 49 else 48]⟩
theorem Ki{t s:Nat}(hs:s<=3):(∀st,binI false .FloorDiv (.int t) (.int (2^s:Nat)) st=ok (.int (t/2^s:Nat)) st)/\(∀st,binI false .Mod (.int (t/2^s:Nat)) (.int 2) st=ok (.int (t/2^s%2:Nat)) st)/\(∀st,eQ (qs "01") (.int (t/2^s%2:Nat)) st=ok (um t s) st):=by
 have hp:0<2^s/\2^s<=8:=⟨Nat.pow_pos (by decide),Nat.pow_le_pow_right (by decide) hs⟩
 refine⟨λst=>(RX (Ve hp) st).trans ?_,λst=>(TB (by decide) st).trans ?_,λst=> ?_⟩
 ·rw[show((t:Int)).fdiv ((2^s:Nat):Int)=((t/2^s:Nat):Int) from(Int.ofNat_fdiv t (2^s)).symm]
 ·rw[show(((t/2^s:Nat):Int)).fmod 2=((t/2^s%2:Nat):Int) from(Int.ofNat_fmod _ 2).symm]
 ·unfold um
  rcases Nat.mod_two_eq_zero_or_one (t/2^s) with h | h<;>rw[h]<;>kernel_rfl
theorem Dh{m t:Nat}{pl:List V}(hp:PL pl)(hm:m<3)(ht:t<2^2^m): ∃(b:Nat) (cF:List V),PL cF/\b<3/\ ∀(k:Nat) (c0:AO) (r:List AO),CI (k+2) 548 [.loc 1,.int t,.int m] (c0:: .lst pl::r)=ok (gR (q "num",gQ m b t)) (c0:: .lst cF::r):=by
 refine bu (lim:=3) hp (by decide) λd cF uI h0 h1 hd=> ?_
 obtain⟨b,rfl⟩: ∃b:Nat,d=b:=⟨d.toNat,by exact ju h0⟩
 have hb:b<3:=by exact LQ h1
 have hq:t<16:=Nat.lt_of_lt_of_le ht (Nat.pow_le_pow_right (by decide) (Nat.pow_le_pow_right (by decide) (show m<=2 by exact Vf hm)))
 refine⟨b,cF,uI,hb,λk c0 r=> ?_⟩
 have hd:=hd k c0 r
 have f1:=fF 32 (p:=Bp (.int t)) (v:= .str (cK t)) λst=>if_pos (vC (Vg hq))
 have hx: ∀st,eQ (qs "0123456789abcdef") (.int t) st=ok (.str (yS t)) st:=λst=>by
  refine below (n:=16) (p:=λt=>eQ (qs "0123456789abcdef") (.int t) st=ok (.str (yS t)) st) ?_ hq
  repeat' (first | exact trivial | apply And.intro)
  all_goals kernel_rfl
 have go: ∀(m:Nat) (xs:List Nat),(∀s∈xs,s<=3)->xs.length<=100->(∀i,fq (c0:: .lst cF::r) (.jb (2^m- 1:Nat) (-1) (-1)) i=some (xs.map λs:Nat=>V.int s)[i]?)->(∀st,binI false .Sub (.int (2^m:Nat)) (.int 1) st=ok (.int (2^m- 1:Nat)) st)->(∀st,binI false .Pow (.int 2) (.int m) st=ok (.int (2^m:Nat)) st)->(∀st,gu false "range" [.int (2^m- 1:Nat),.int (-1),.int (-1)] st=ok (.jb (2^m- 1:Nat) (-1) (-1)) st)->
   Gives zS (λj mm=>bH TT (CI (k+1)) j zS false mm (c0:: .lst cF::r) Ar) 400 [(q "table",.int t),(q "many",.int m)] (.lst (xs.map (um t))) (c0:: .lst cF::r):=λm xs hs hl hn e1 e2 e3=>by
  have BG:(xs.map λs:Nat=>V.int s).length<=100:=by rw[aae];exact hl
  have yT:=iL (cl:=CI (k+1)) (F:=zS) (e:=Ar) (l:=[(q "table",.int t),(q "many",.int m)]) (st:=c0:: .lst cF::r) (g:=λv=>match v with
   | .int i=>um t i.toNat
   | _=> .none) (by kernel_rfl) (by kernel_rfl) hn (GA BG) (λv hv=>by
    refine ae hv ?_;rintro s pG rfl
    have b:=Ki (t:=t) (hs s pG)
    have pw: ∀st,binI false .Pow (.int 2) (.int s) st=ok (.int (2^s:Nat)) st:=λst=>by
     have :=hs s pG
     rcases(show s=0\/s=1\/s=2\/s=3 by exact Vh this) with rfl | rfl | rfl | rfl<;>rfl
    exact⟨[fF 2 pw,fF 2 b.1,fF 2 b.2.1,fF 4 b.2.2],by kernel_rfl⟩) _ [] [] rfl (aaw _)
  have e:(xs.map (λs:Nat=>V.int s)).map (λv=>match v with
   | .int i=>um t i.toNat
   | _=> .none)=xs.map (um t):=by rw[aaN];rfl
  rw[aaP,e] at yT
  exact λn hn=>dE (mu:=false) (e:=Ar) (fs:=[fF 2 e2,fF 2 e1,fF 6 e3]) (by kernel_rfl) (by kernel_rfl) (by kernel_rfl) (nA) yT (if_pos (show(xs.map (um t)).length<=100000 by rw[aae];exact nz hl)) n (GB BG hn)
 have nd: ∀(a i:Nat) (l:List V),i<l.length->True:=λ_ _ _ _=>trivial
 rcases tR hb with rfl | rfl | rfl
 ·rcases tR hm with rfl | rfl | rfl
  ·exact ay [fV 0 hd,f1,fG (go 0 [0] (by decide) (by decide) (λi=>match i with | 0=>rfl | i+1=>rfl) (λst=>rfl) (λst=>rfl) (λst=>rfl))] (by kernel_rfl)
  ·exact ay [fV 0 hd,f1,fG (go 1 [1,0] (by decide) (by decide) (λi=>match i with | 0=>rfl | 1=>rfl | i+2=>rfl) (λst=>rfl) (λst=>rfl) (λst=>rfl))] (by kernel_rfl)
  ·exact ay [fV 0 hd,f1,fG (go 2 [3,2,1,0] (by decide) (by decide) (λi=>match i with | 0=>rfl | 1=>rfl | 2=>rfl | 3=>rfl | i+4=>rfl) (λst=>rfl) (λst=>rfl) (λst=>rfl))] (by kernel_rfl)
 ·rcases tR hm with rfl | rfl | rfl<;>exact ay [fV 0 hd,f1] (by kernel_rfl)
 ·rcases tR hm with rfl | rfl | rfl<;>exact ay [fV 0 hd,f1,fF 4 hx] (by kernel_rfl)
def ud(p:Tk):Prop:=cH 0 p.2=true/\p.2.plain=true/\(p.1=q "op"-> ∃x,p.2= .str x)
theorem g7{a x:Str}:ud (a,.str x):=⟨rfl,rfl,λ_=>⟨x,rfl⟩⟩
theorem NL{xs:List V}(h:aQ 0 xs=true):ud (q "num",.tup xs):=⟨h,rfl,λe=>absurd (show q "num"=q "op" from e) (by decide+kernel)⟩
abbrev eB(l:List Tk):Prop:= ∀p∈l,ud p
theorem aS:eB []:=λ_ h=>jR h
theorem az{p:Tk}{l:List Tk}(h:ud p)(hl:eB l):eB (p::l):=λx hx=>(aat.mp hx).elim (λe=>e▸h) (hl x)
theorem bw{a b:List Tk}(h:eB a)(hl:eB b):eB (a++b):=λx hx=>(aal.mp hx).elim (h x) (hl x)
theorem lI(w:Str):ud (aD w):=by
 unfold aD
 split
 ·exact NL rfl
 ·split
  ·exact NL rfl
  ·exact g7
theorem mD(n:Int):eB (plainT n):=by
 unfold plainT
 split
 ·exact az g7 (az (NL rfl) aS)
 ·exact az (NL rfl) aS
theorem pV: ∀{l:List Tk},eB l->eB (cN l)
 | [],_=>aS
 | b::l,h=>az g7 (az (h b (by simp)) (pV λx hx=>h x (aai _ hx)))
theorem AD: ∀{l:List Tk},eB l->eB (eg l)
 | [],_=>aS
 | a::l,h=>az (h a (by simp)) (pV λx hx=>h x (aai _ hx))
theorem BN(l:List Str):eB (l.map cI):=λx hx=>by refine ae hx ?_;rintro y _ rfl;exact g7
theorem D8(l:List Str):eB (l.map aD):=λx hx=>by refine ae hx ?_;rintro y _ rfl;exact lI y
theorem An(x:Str)(b:Int):eB (ed x b):=bw (bw (az g7 (az g7 aS)) (mD b)) (az g7 aS)
theorem MQ(m b t:Nat):ud (q "num",gQ m b t):=NL rfl
theorem FA(n:Int):ud (bY n):=NL rfl
theorem Bw(c:CK):eB c.front:=by
 cases c<;>repeat (first | exact aS | (refine az ?_ ?_;first | exact g7 | exact MQ _ _ _ | exact FA _))
theorem Mj(out:Str)(ins:List Str):eB (nE out ins):=az g7 (az (lI out) (bw (pV (D8 ins)) (az g7 (az g7 aS))))
theorem j3(it:It):eB it.text:=by
 cases it with
 | port d nm n=>exact bw (bw (bw (bw (az g7 (az g7 aS)) (mD n)) (az g7 aS)) (mD 0)) (az g7 (az g7 (az g7 aS)))
 | wire x r=>exact az g7 (bw (AD (BN (x::r))) (az g7 aS))
 | asg d nm b w=>cases d with
  | true=>exact az g7 (bw (az (lI w) (az g7 (An nm b))) (az g7 aS))
  | false=>exact az g7 (bw (bw (An nm b) (az g7 (az (lI w) aS))) (az g7 aS))
 | cell c out ins=>exact bw (Bw c) (Mj out ins)
theorem mJ{k:Nat}: ∀{l:List Tk},eB l->aQ k (l.map gR)=true
 | [],_=>rfl
 | p::l,h=>by
  have h1:cH k p.2=true:=cU (aaC _) _ (h p (by simp)).1
  simp[aQ,gR,cH,h1,mJ (l:=l) λx hx=>h x (aai _ hx)]
end Mine
namespace Mine
noncomputable def uz:g9:=jn "_law_cell" [] false
noncomputable def nK:aV:=l8 uz
noncomputable def oT:Expr:=kX (uw (bE uz.body 5)) []
noncomputable def oU:Expr:=kX (uw (bE uz.body 6)) [0,1,1]
theorem len_strs{l:List Str}(h:l.length<=1000): ∀st,bC "len" [.lst (l.map .str)] st=ok (.int l.length) st:=λst=>(B1 (by rw[aae];exact xw h)).trans (by rw[aae])
noncomputable def mlI(nets:List Str)(w:Nat):Ev:=[(q "nets",.lst (nets.map .str)),(q "pool",.loc 1),(q "many",.int w)]
theorem Lo{nets:List Str}(hn:nets≠[])(hl:nets.length<=100)(w:Nat)(yV:w<=100)(left:Nat): ∀(done:Nat) (pl:List V),left+done=w->PL pl-> ∃(vs:List Str) (cF:List V),PL cF/\vs.length=left/\(∀v∈vs,v∈nets)/\
  ∀(k:Nat) (c0:AO) (r:List AO) (acc:List V),acc.length=done->tH (CI (k+1)) nK oT (mlI nets w) (.jb 0 w 1) done (c0:: .lst pl::r) acc (left+202) (acc++vs.map .str) (c0:: .lst cF::r):=by
 induction left with
 | zero=>
  intro done pl hw hp
  refine⟨[],pl,hp,rfl,(λ_ h=>jR h),λk c0 r acc ha=> ?_⟩
  rw[show acc++[].map V.str=acc from aav acc]
  exact As (by rw[eO (PZ yV),if_neg (GC hw)])
 | succ left ih=>
  intro done pl hw hp
  have qF:0<nets.length:=ab9.mpr hn
  refine bu (lim:=nets.length) hp ⟨by exact GD qF,by exact Qa hl⟩ λd b8 dj h0 h1 hd=> ?_
  obtain⟨i,rfl⟩: ∃i:Nat,d=i:=⟨d.toNat,by exact ju h0⟩
  have hi:i<nets.length:=by exact vc h1
  refine km (ih (done+1) b8 (GF hw) dj) λvs dq qG rU Sp kJ=> ?_
  refine⟨nets[i]::vs,dq,qG,congrArg (· +1) rU,λv hv=>(aat.mp hv).elim (λe=>e▸abS hi) (Sp v),λk c0 r acc ha=> ?_⟩
  have go:=kJ k c0 r (acc++[.str nets[i]]) (by rw[aag,ha];rfl)
  rw[aax] at go
  exact S8 (by kernel_rfl) (by kernel_rfl) (v:= .int done) (by rw[eO (PZ yV),if_pos (GG hw)]) (Vi yV hw ha) [fF 5 (len_strs (l:=nets) (zf hl)),fV 0 (hd k c0 r),fF 4 (fH (i:=i) (v:= .str nets[i]) (xs:=nets.map .str) (by rw[aae];exact zf hl) (by rw[aay,aaG hi];rfl))] (by kernel_rfl) (aaD (by decide) (aaI 202 _)) go
structure jB(wires:List Str)(w:Nat)(pl:List V)(i:Nat)(out:Str)(ins:List Str)(b8 dq:List V):Prop where
 hp:PL dq
 d: ∀(k:Nat) (c0:AO) (r:List AO),CI (k+1) 515 [.loc 1,.int wires.length] (c0:: .lst pl::r)=ok (.int i) (c0:: .lst b8::r)
 o:wires[i]? =some out
 g: ∀(k:Nat) (c0:AO) (r:List AO),Gives nK (λj m=>bH TT (CI (k+1)) j nK false m (c0:: .lst b8::r) oT) 500 (mlI ([q "0",q "1"]++wires) w) (.lst (ins.map .str)) (c0:: .lst dq::r)
 il:ins.length=w
 im: ∀v∈ins,v∈[q "0",q "1"]++wires
 wl:wires.length<=10
 hw:w<=10
 so: ∀x∈out::ins,aL x=true
theorem jT{wires:List Str}{w:Nat}{pl:List V}(hw:wires≠[])(hl:wires.length<=10)(hs: ∀x∈wires,aL x=true)(yV:w<=10)(hp:PL pl): ∃i out ins b8 dq,jB wires w pl i out ins b8 dq:=by
 have tP:0<wires.length:=ab9.mpr hw
 refine bu (lim:=wires.length) hp ⟨by exact GD tP,by exact Vj hl⟩ λd b8 dj h0 h1 hd=> ?_
 obtain⟨i,rfl⟩: ∃i:Nat,d=i:=⟨d.toNat,by exact ju h0⟩
 have hi:i<wires.length:=by exact vc h1
 have qF:([q "0",q "1"]++wires).length<=100:=by rw[aag];show 2+_<=_;exact Vk hl
 refine km (Lo (nets:=[q "0",q "1"]++wires) (λe=>nomatch e) qF w (Qb yV) w 0 b8 (Qc) dj) λvs dq qG rU Sp kJ=> ?_
 refine⟨i,wires[i],vs,b8,dq,qG,hd,aaG hi,λk c0 r n hn=> ?_,rU,Sp,hl,yV,λx hx=> ?_⟩
 ·exact dE (mu:=false) (e:=oT) (fs:=[fF 6 (j5 (n:=w) (Vl yV))]) (by kernel_rfl) (by kernel_rfl) (by kernel_rfl) (nA) (kJ k c0 r [] rfl) (if_pos (show(vs.map V.str).length<=100000 by rw[aae];exact Vm yV rU)) n (Vn yV hn)
 ·rcases aat.mp hx with rfl | h
  ·exact hs _ (abS hi)
  ·rcases aal.mp (Sp x h) with h2 | h2
   ·rcases aat.mp h2 with rfl | h2
    ·decide+kernel
    ·rcases aat.mp h2 with rfl | h2
     ·decide+kernel
     ·exact jR h2
   ·exact hs x h2
section
variable{wires ins:List Str}{w i:Nat}{pl b8 dq:List V}{out:Str}
theorem jB.len(h:jB wires w pl i out ins b8 dq):(eg ((out::ins).map aD)).length<=30:=by rw[aaq,eZ,aae,h.il];have :=h.hw;exact Qd this
theorem jB.gw(h:jB wires w pl i out ins b8 dq)(k:Nat)(st:List AO):Gives nK (λj m=>bH TT (CI (k+1)) j nK false m st oU) 500 [(q "ins",.lst (ins.map .str)),(q "out",.str out)] (bt ((out::ins).map aD)) st:=λn hn=>by
 have hl:=h.il;have hw:=h.hw
 have yT:=iL (cl:=CI (k+1)) (F:=nK) (e:=oU) (l:=[(q "ins",.lst (ins.map .str)),(q "out",.str out)]) (st:=st) (src:= .lst ((out::ins).map .str)) (g:=λv=>match v with | .str w=>gR (aD w) | _=> .none) (by kernel_rfl) (by kernel_rfl) (λi=>dJ (by rw[aae,aan];exact Vo hl hw)) (by rw[aae,aan];exact Vp hl hw)
  (λv hv=>by
   refine ae hv ?_;rintro y hy rfl
   exact⟨[fV 0 (ya (k:=k) (st:=st) (h.so y hy))],by kernel_rfl⟩) _ [] [] rfl (aaw _)
 rw[aaP] at yT
 have a1:=jC (xs:=[.str out]) (ys:=ins.map V.str) (by rw[aae];show 1+_<=_;exact Vq hl hw)
 have hz:(V.str out::ins.map V.str).length=w+1:=by rw[aan,aae,hl]
 rw[hz] at yT
 refine dE (mu:=false) (e:=oU) (fs:=[fF 2 a1]) (by kernel_rfl) (by kernel_rfl) (by kernel_rfl) (Vr) yT ((if_pos (by rw[aae,hz];exact Qe hw)).trans ?_) n (Vs hn hw)
 show ok (V.lst (gR (aD out)::(ins.map V.str).map _)) st=ok (V.lst (gR (aD out)::(ins.map aD).map gR)) st
 rw[aaN,aaN];rfl
noncomputable def jB.fs(h:jB wires w pl i out ins b8 dq)(k:Nat)(c0:AO)(r:List AO):List Fc:=
 [fF 5 (len_strs (l:=wires) (aaD h.wl (by decide))),fU (k+2) (h.d (k+1) c0 r) rfl,fF 4 (fH (i:=i) (v:= .str out) (xs:=wires.map .str) (by rw[aae];exact aaD h.wl (by decide)) (by rw[aay,h.o];rfl)),fG (h.g (k+1) c0 r),fG (h.gw (k+1) (c0:: .lst dq::r)),
  fU (k+2) (bZ (k:=k+1) (st:=c0:: .lst dq::r) (a:=aD out) (r:=ins.map aD) (by rw[aae,h.il];exact aaD h.hw (by decide))) rfl,fF 2 (cw (a:=[cq "("]) (b:=eg ((out::ins).map aD)) (by have :=h.len;show 1+_<=_;exact Qf this)),
  fF 2 (cw (a:=cq "("::eg ((out::ins).map aD)) (b:=[cq ")",semi]) (by have :=h.len;rw[aan];show _+1+2<=_;exact Vt this))]
theorem jB.UR(h:jB wires w pl i out ins b8 dq):(nE out ins).length<=30:=by
 show((cN (ins.map aD)++[cq ")",semi]).length+1)+1<=30
 rw[aag,dZ,aae,h.il];have :=h.hw;show _+2+1+1<=_;exact Vu this
noncomputable def jB.nm(h:jB wires w pl i out ins b8 dq):Fc:=fF 2 (jC (xs:=[.str out]) (ys:=ins.map V.str) (by rw[aae,h.il];have :=h.hw;show 1+_<=_;exact Vv this))
noncomputable def jB.ad(h:jB wires w pl i out ins b8 dq)(a:List Tk)(ha:a.length<=100):Fc:=fF 2 (cw (a:=a) (b:=nE out ins) (by have :=h.UR;exact Vw ha this))
end
noncomputable def lQ(c:CK)(out:Str)(ins:List Str):V:= .tup [cy (out::ins),bt (It.cell c out ins).text,.tup [.str c.kd,.str out,cy ins,c.pr]]
theorem iK{c:CK}{out:Str}{ins:List Str}{cF:List V}{c0 x:AO}{r:List AO}(hc:(c0::r).all (bA 0)=true)(uI:PL cF):freeze (r.length+2) (lQ c out ins) ((c0:: .lst cF::r)++[x])=ok (lQ c out ins) (c0:: .lst cF::r):=
 jI rfl (ow hc uI) (by
  show(nk _ _ [cy (out::ins),bt (It.cell c out ins).text,.tup [.str c.kd,.str out,cy ins,c.pr]]).map V.tup=_
  rw[ma]
  ·rfl
  ·have h1:aQ (r.length+2) ((It.cell c out ins).text.map gR)=true:=mJ (j3 _)
   have h2: ∀l:List Str,aQ (r.length+2) (l.map V.str)=true:=λl=>dW
   show(aQ _ ((out::ins).map V.str)&&(aQ _ ((It.cell c out ins).text.map gR)&&((true&&(true&&(aQ _ (ins.map V.str)&&(cH _ c.pr&&true))))&&true)))=true
   rw[h1,h2,h2,CK.ql];rfl)
noncomputable def aI:List (Str×V):=[(q "and",.int 2),(q "xnor",.int 2),(q "not",.int 1),(q "mux",.int 3),(q "flop",.int 4),(q "latch",.int 4)]
theorem GY{n:Nat}{fs:List (Str×V)}{st:List AO}(h:st[n]? =some (.aF fs)):sF TT (.loc n) (q "get") st=some (.knd .aF):=by
 exact(aK ((qf (lj h)).trans (aK (cZ h)):kd (.loc n) st=some .aF)).trans rfl
theorem FG{n:Nat}{fs:List (Str×V)}{st:List AO}{k:Str}{v:V}(h:st[n]? =some (.aF fs)):eF .aF (.loc n) (q "get") [.str k,v] st=ok ((fs.lookup k).getD v) st:=by
 exact(aK (cZ h)).trans (if_pos rfl)
noncomputable def sg(s:Nat):Str:=if s=0 then q "q[0]" else if s=1 then q "q[1]" else q "q[2]"
theorem Co{s:Nat}(h:s<3):aL (sg s)=true:=by rcases tR h with rfl | rfl | rfl<;>decide+kernel
noncomputable def CK.Rr:CK->Prop
 | .gate nm=>aL nm=true
 | .ir _ _ nm=>aL nm=true
 | .ew _ nm=>aL nm=true
 | _=>True
inductive je(wires:List Str)(spot:Nat)(pl:List V):Prop where
 | mk (c:CK) (out:Str) (ins:List Str) (cF:List V) (h1:PL cF) (h2:c.Ok ins.length) (h3:c.Rr) (h4:out∈wires) (h5: ∀v∈ins,v∈[q "0",q "1"]++wires)
  (h6: ∀(k:Nat) (c0:AO) (r:List AO),(c0::r).all (bA 0)=true->CI (k+3) 553 [.loc 1,.lst (wires.map .str),.int spot] (c0:: .lst pl::r)=ok (lQ c out ins) (c0:: .lst cF::r))
section
variable{wires:List Str}{spot:Nat}{pl b8:List V}
noncomputable def gW(hl:wires.length<=10)(k:Nat)(c0:AO)(r:List AO)(dn:Nat)(kd:Str)(hd: ∀(k:Nat) (c0:AO) (r:List AO),CI (k+1) 515 [.loc 1,.int 8] (c0:: .lst pl::r)=ok (.int dn) (c0:: .lst b8::r)):List Fc:=
 have g:(c0::AO.lst b8::(r++[.aF aI]))[r.length+2]? =some (.aF aI):=abC
 [fF 2 (jC (xs:=[qs "0",qs "1"]) (ys:=wires.map V.str) (by rw[aae];show 2+_<=_;exact Vx hl)),fU (k+2) (hd (k+1) c0 r) rfl,fP (GY g),fV 7 (FG (k:=kd) (v:= .int 0) g)]
variable(hw:wires≠[])(hl:wires.length<=10)(hs: ∀x∈wires,aL x=true)(qI:spot<3)(dj:PL b8)
include hw hl hs dj
theorem kg{dn w:Nat}{kd:Str}(hd: ∀(k:Nat) (c0:AO) (r:List AO),CI (k+1) 515 [.loc 1,.int 8] (c0:: .lst pl::r)=ok (.int dn) (c0:: .lst b8::r))(hc:CK.Ok w (.gate kd))(hk:(dn=0/\kd=q "and"/\w=2)\/(dn=1/\kd=q "not"/\w=1)\/(dn=7/\kd=q "xnor"/\w=2))(Uq:aL kd=true):je wires spot pl:=by
 refine AZ (jT hw hl hs hc.le dj) λi out ins dq vj P=> ?_
 refine⟨.gate kd,out,ins,vj,P.hp,by rw[P.il];exact hc,Uq,aas P.o,P.im,λk c0 r hA=> ?_⟩
 have fz:=iK (c:= .gate kd) (out:=out) (ins:=ins) (x:= .aF aI) hA P.hp
 rcases hk with⟨rfl,rfl,rfl⟩ | ⟨rfl,rfl,rfl⟩ | ⟨rfl,rfl,rfl⟩
 ·exact ay (gW hl k c0 r 0 (q "and") hd++P.fs k c0 (r++[.aF aI])++[P.nm,P.ad [(q "key",qs "and")] (aam rfl),fV 30 fz]) (by kernel_rfl)
 ·exact ay (gW hl k c0 r 1 (q "not") hd++P.fs k c0 (r++[.aF aI])++[P.nm,P.ad [(q "key",qs "not")] (aam rfl),fV 30 fz]) (by kernel_rfl)
 ·exact ay (gW hl k c0 r 7 (q "xnor") hd++P.fs k c0 (r++[.aF aI])++[P.nm,P.ad [(q "key",qs "xnor")] (aam rfl),fV 30 fz]) (by kernel_rfl)
theorem Az(hd: ∀(k:Nat) (c0:AO) (r:List AO),CI (k+1) 515 [.loc 1,.int 8] (c0:: .lst pl::r)=ok (.int 2) (c0:: .lst b8::r)):je wires spot pl:=by
 refine AZ (jT (w:=3) hw hl hs (by decide) dj) λi out ins dq vj P=> ?_
 exact⟨.Eg,out,ins,vj,P.hp,P.il,trivial,aas P.o,P.im,λk c0 r hA=>
  ay (gW hl k c0 r 2 (q "mux") hd++P.fs k c0 (r++[.aF aI])++[no 2,P.nm,no 2,P.ad [cI (q "gl_mux"),cI (q "a")] (aam rfl),fV 30 (iK (c:= .Eg) (out:=out) (ins:=ins) (x:= .aF aI) hA P.hp)]) (by kernel_rfl)⟩
end
end Mine
namespace Mine
theorem jH{k:Nat}{st:List AO}{n:Int}(h:dX n):CI (k+1) 529 [.int n] st=ok (bt [bY n]) st:=by
 have e:=jU (k:=k) (st:=st) (.inr h)
 rw[plain_len h] at e
 exact e
inductive S1(wires:List Str)(b8:List V):Prop where
 | mk (m b t i:Nat) (out:Str) (ins:List Str) (dq vj qi qj CM:List V) (h1:m<3) (h2:b<3) (h3:t<2^2^m) (h4:PL CM) (h5:jB wires m dq i out ins vj qi) (h6: ∀(k:Nat) (c0:AO) (r:List AO),CI (k+1) 515 [.loc 1,.int 3] (c0:: .lst b8::r)=ok (.int (m:Nat)) (c0:: .lst dq::r))
  (h7: ∀(k:Nat) (c0:AO) (r:List AO),CI (k+1) 515 [.loc 1,.int (2^2^m:Nat)] (c0:: .lst qi::r)=ok (.int (t:Nat)) (c0:: .lst qj::r)) (h8: ∀(k:Nat) (c0:AO) (r:List AO),CI (k+2) 548 [.loc 1,.int (t:Nat),.int (m:Nat)] (c0:: .lst qj::r)=ok (gR (q "num",gQ m b t)) (c0:: .lst CM::r))
section
variable{wires:List Str}{spot:Nat}{pl b8:List V}
variable(hw:wires≠[])(hl:wires.length<=10)(hs: ∀x∈wires,aL x=true)(qI:spot<3)(dj:PL b8)
include hw hl hs qI dj
theorem yv(hd: ∀(k:Nat) (c0:AO) (r:List AO),CI (k+1) 515 [.loc 1,.int 8] (c0:: .lst pl::r)=ok (.int 5) (c0:: .lst b8::r)):je wires spot pl:=by
 refine AZ (jT (w:=4) hw hl hs (by decide) dj) λi out ins dq vj P=> ?_
 refine bu (lim:=2) P.hp (by decide) λe qi Ee he0 he1 FK=> ?_
 refine bu (lim:=2) Ee (by decide) λx qj Nv Uy wZ wU=> ?_
 have he:dX e:=by unfold dX;exact LR he0 he1
 have hx:dX x:=by unfold dX;exact LR Uy wZ
 refine⟨.ir e x (sg spot),out,ins,qj,Nv,⟨he,hx,P.il⟩,Co qI,aas P.o,P.im,λk c0 r hA=> ?_⟩
 have fz:=iK (c:= .ir e x (sg spot)) (out:=out) (ins:=ins) (x:= .aF aI) hA Nv
 rcases tR qI with rfl | rfl | rfl
 ·exact ay (gW hl k c0 r 5 (q "flop") hd++P.fs k c0 (r++[.aF aI])++[fU (k+2) (FK (k+1) c0 (r++[.aF aI])) rfl,fU (k+2) (wU (k+1) c0 (r++[.aF aI])) rfl,fU (k+2) (jH (k:=k+1) (st:=c0:: .lst qj::(r++[.aF aI])) he) rfl,fU (k+2) (jH (k:=k+1) (st:=c0:: .lst qj::(r++[.aF aI])) hx) rfl,
   fU (k+2) (bZ (k:=k+1) (st:=c0:: .lst qj::(r++[.aF aI])) (a:=bY e) (r:=[(q "str",.str (sg 0)),bY x]) (aam rfl)) rfl,no 2,no 2,P.nm,no 2,P.ad (CK.ir e x (sg 0)).front (aam rfl),fV 30 fz]) (by kernel_rfl)
 ·exact ay (gW hl k c0 r 5 (q "flop") hd++P.fs k c0 (r++[.aF aI])++[fU (k+2) (FK (k+1) c0 (r++[.aF aI])) rfl,fU (k+2) (wU (k+1) c0 (r++[.aF aI])) rfl,fU (k+2) (jH (k:=k+1) (st:=c0:: .lst qj::(r++[.aF aI])) he) rfl,fU (k+2) (jH (k:=k+1) (st:=c0:: .lst qj::(r++[.aF aI])) hx) rfl,
   fU (k+2) (bZ (k:=k+1) (st:=c0:: .lst qj::(r++[.aF aI])) (a:=bY e) (r:=[(q "str",.str (sg 1)),bY x]) (aam rfl)) rfl,no 2,no 2,P.nm,no 2,P.ad (CK.ir e x (sg 1)).front (aam rfl),fV 30 fz]) (by kernel_rfl)
 ·exact ay (gW hl k c0 r 5 (q "flop") hd++P.fs k c0 (r++[.aF aI])++[fU (k+2) (FK (k+1) c0 (r++[.aF aI])) rfl,fU (k+2) (wU (k+1) c0 (r++[.aF aI])) rfl,fU (k+2) (jH (k:=k+1) (st:=c0:: .lst qj::(r++[.aF aI])) he) rfl,fU (k+2) (jH (k:=k+1) (st:=c0:: .lst qj::(r++[.aF aI])) hx) rfl,
   fU (k+2) (bZ (k:=k+1) (st:=c0:: .lst qj::(r++[.aF aI])) (a:=bY e) (r:=[(q "str",.str (sg 2)),bY x]) (aam rfl)) rfl,no 2,no 2,P.nm,no 2,P.ad (CK.ir e x (sg 2)).front (aam rfl),fV 30 fz]) (by kernel_rfl)
theorem uq(hd: ∀(k:Nat) (c0:AO) (r:List AO),CI (k+1) 515 [.loc 1,.int 8] (c0:: .lst pl::r)=ok (.int 6) (c0:: .lst b8::r)):je wires spot pl:=by
 refine AZ (jT (w:=4) hw hl hs (by decide) dj) λi out ins dq vj P=> ?_
 refine bu (lim:=2) P.hp (by decide) λx qi Ee Uy wZ wU=> ?_
 have hx:dX x:=by unfold dX;exact LR Uy wZ
 refine⟨.ew x (sg spot),out,ins,qi,Ee,⟨hx,P.il⟩,Co qI,aas P.o,P.im,λk c0 r hA=> ?_⟩
 have fz:=iK (c:= .ew x (sg spot)) (out:=out) (ins:=ins) (x:= .aF aI) hA Ee
 rcases tR qI with rfl | rfl | rfl
 ·exact ay (gW hl k c0 r 6 (q "latch") hd++P.fs k c0 (r++[.aF aI])++[fU (k+2) (wU (k+1) c0 (r++[.aF aI])) rfl,fU (k+2) (jH (k:=k+1) (st:=c0:: .lst qi::(r++[.aF aI])) hx) rfl,
   fU (k+2) (bZ (k:=k+1) (st:=c0:: .lst qi::(r++[.aF aI])) (a:=(q "str",.str (sg 0))) (r:=[bY x]) (aam rfl)) rfl,no 2,no 2,P.nm,no 2,P.ad (CK.ew x (sg 0)).front (aam rfl),fV 30 fz]) (by kernel_rfl)
 ·exact ay (gW hl k c0 r 6 (q "latch") hd++P.fs k c0 (r++[.aF aI])++[fU (k+2) (wU (k+1) c0 (r++[.aF aI])) rfl,fU (k+2) (jH (k:=k+1) (st:=c0:: .lst qi::(r++[.aF aI])) hx) rfl,
   fU (k+2) (bZ (k:=k+1) (st:=c0:: .lst qi::(r++[.aF aI])) (a:=(q "str",.str (sg 1))) (r:=[bY x]) (aam rfl)) rfl,no 2,no 2,P.nm,no 2,P.ad (CK.ew x (sg 1)).front (aam rfl),fV 30 fz]) (by kernel_rfl)
 ·exact ay (gW hl k c0 r 6 (q "latch") hd++P.fs k c0 (r++[.aF aI])++[fU (k+2) (wU (k+1) c0 (r++[.aF aI])) rfl,fU (k+2) (jH (k:=k+1) (st:=c0:: .lst qi::(r++[.aF aI])) hx) rfl,
   fU (k+2) (bZ (k:=k+1) (st:=c0:: .lst qi::(r++[.aF aI])) (a:=(q "str",.str (sg 2))) (r:=[bY x]) (aam rfl)) rfl,no 2,no 2,P.nm,no 2,P.ad (CK.ew x (sg 2)).front (aam rfl),fV 30 fz]) (by kernel_rfl)
omit qI in
theorem oA:S1 wires b8:=by
 refine bu (lim:=3) dj (by decide) λm' dq qG hm0 hm1 OW=> ?_
 obtain⟨m,rfl⟩: ∃m:Nat,m'=m:=⟨m'.toNat,by exact ju hm0⟩
 have hm:m<3:=by exact LQ hm1
 refine AZ (jT (w:=m) hw hl hs (Vy hm1) qG) λi out ins vj qi P=> ?_
 have O9:0<2^2^m/\2^2^m<100:=by rcases tR hm with rfl | rfl | rfl<;>decide
 refine bu (lim:=((2^2^m:Nat):Int)) P.hp ⟨by exact Vz O9,by exact VA O9⟩ λt' qj Nv Ut I1 zH=> ?_
 obtain⟨t,rfl⟩: ∃t:Nat,t'=t:=⟨t'.toNat,by exact ju Ut⟩
 have ht:t<2^2^m:=by exact vc I1
 refine cj (Dh Nv hm ht) λb CM FR hb me=> ?_
 exact⟨m,b,t,i,out,ins,dq,vj,qi,qj,CM,hm,hb,ht,FR,P,OW,zH,me⟩
omit qI in
theorem Ay(hd: ∀(k:Nat) (c0:AO) (r:List AO),CI (k+1) 515 [.loc 1,.int 8] (c0:: .lst pl::r)=ok (.int 3) (c0:: .lst b8::r)):je wires spot pl:=by
 obtain⟨m,b,t,i,out,ins,dq,vj,qi,qj,CM,hm,hb,ht,FR,P,OW,zH,me⟩:=oA hw hl hs dj
 refine⟨.zL m b t,out,ins,CM,FR,⟨hm,hb,ht,P.il⟩,trivial,aas P.o,P.im,λk c0 r hA=> ?_⟩
 have fz:=iK (c:= .zL m b t) (out:=out) (ins:=ins) (x:= .aF aI) hA FR
 have e1: ∀st,binI false .Pow (.int 2) (.int m) st=ok (.int (2^m:Nat)) st:=λst=>by rcases tR hm with rfl | rfl | rfl<;>rfl
 have e2: ∀st,binI false .Pow (.int 2) (.int (2^m:Nat)) st=ok (.int (2^2^m:Nat)) st:=λst=>by rcases tR hm with rfl | rfl | rfl<;>rfl
 exact ay (gW hl k c0 r 3 (q "lut") hd++[fU (k+2) (OW (k+1) c0 (r++[.aF aI])) rfl]++P.fs k c0 (r++[.aF aI])++[fF 2 e1,fF 2 e2,fU (k+2) (zH (k+1) c0 (r++[.aF aI])) rfl,fV 0 (me k c0 (r++[.aF aI])),
   fU (k+2) (bZ (k:=k+1) (st:=c0:: .lst CM::(r++[.aF aI])) (a:=(q "num",gQ m b t)) (r:=[]) (aam rfl)) rfl,no 2,no 2,P.nm,no 2,P.ad (CK.zL m b t).front (aam rfl),fV 30 fz]) (by kernel_rfl)
omit qI in
theorem yu(hd: ∀(k:Nat) (c0:AO) (r:List AO),CI (k+1) 515 [.loc 1,.int 8] (c0:: .lst pl::r)=ok (.int 4) (c0:: .lst b8::r)):je wires spot pl:=by
 obtain⟨m,b,t,i,out,ins,dq,vj,qi,qj,CM,hm,hb,ht,FR,P,OW,zH,me⟩:=oA hw hl hs dj
 refine⟨.tK m b t,out,ins,CM,FR,⟨hm,hb,ht,P.il⟩,trivial,aas P.o,P.im,λk c0 r hA=> ?_⟩
 have fz:=iK (c:= .tK m b t) (out:=out) (ins:=ins) (x:= .aF aI) hA FR
 have e1: ∀st,binI false .Pow (.int 2) (.int m) st=ok (.int (2^m:Nat)) st:=λst=>by rcases tR hm with rfl | rfl | rfl<;>rfl
 have e2: ∀st,binI false .Pow (.int 2) (.int (2^m:Nat)) st=ok (.int (2^2^m:Nat)) st:=λst=>by rcases tR hm with rfl | rfl | rfl<;>rfl
 exact ay (gW hl k c0 r 4 (q "cell") hd++[fU (k+2) (OW (k+1) c0 (r++[.aF aI])) rfl]++P.fs k c0 (r++[.aF aI])++[fF 2 e1,fF 2 e2,fU (k+2) (zH (k+1) c0 (r++[.aF aI])) rfl,fV 0 (me k c0 (r++[.aF aI])),
   fU (k+2) (bZ (k:=k+1) (st:=c0:: .lst CM::(r++[.aF aI])) (a:=(q "str",qs "O W")) (r:=[(q "num",gQ m b t)]) (aam rfl)) rfl,no 2,no 2,P.nm,no 2,P.ad (CK.tK m b t).front (aam rfl),fV 30 fz]) (by kernel_rfl)
end
theorem rX{wires:List Str}{spot:Nat}{pl:List V}(hw:wires≠[])(hl:wires.length<=10)(hs: ∀x∈wires,aL x=true)(qI:spot<3)(hp:PL pl):je wires spot pl:=by
 refine bu (lim:=8) hp (by decide) λd' b8 dj h0 h1 hd=> ?_
 obtain⟨d,rfl⟩: ∃d:Nat,d'=d:=⟨d'.toNat,by exact ju h0⟩
 have dc:d<8:=by exact VB h1
 match d,dc,hd with
 | 0,_,hd=>exact kg (kd:=q "and") (w:=2) hw hl hs dj hd (.inl ⟨rfl,rfl⟩) (.inl ⟨rfl,rfl,rfl⟩) (by decide+kernel)
 | 1,_,hd=>exact kg (kd:=q "not") (w:=1) hw hl hs dj hd (.inr (.inr ⟨rfl,rfl⟩)) (.inr (.inl ⟨rfl,rfl,rfl⟩)) (by decide+kernel)
 | 2,_,hd=>exact Az hw hl hs dj hd
 | 3,_,hd=>exact Ay hw hl hs dj hd
 | 4,_,hd=>exact yu hw hl hs dj hd
 | 5,_,hd=>exact yv hw hl hs qI dj hd
 | 6,_,hd=>exact uq hw hl hs qI dj hd
 | 7,_,hd=>exact kg (kd:=q "xnor") (w:=2) hw hl hs dj hd (.inr (.inl ⟨rfl,rfl⟩)) (.inr (.inr ⟨rfl,rfl,rfl⟩)) (by decide+kernel)
 | d+8,h,_=>exact absurd h (VC)
end Mine
namespace Mine
noncomputable abbrev CL:=CI 19
structure Pt where
 d:Bool
 nm:Str
 w:Nat
noncomputable def Pt.it(p:Pt):It:= .port p.d p.nm ((p.w:Int)- 1)
noncomputable def Pt.v(p:Pt):V:= .tup [qs (cu p.d),.str p.nm,.int p.w]
structure Ag where
 d:Bool
 nm:Str
 b:Nat
 w:Str
noncomputable def Ag.it(a:Ag):It:= .asg a.d a.nm a.b a.w
noncomputable def Ag.v(a:Ag):V:=yn a.d a.nm a.b a.w
noncomputable def Ag.key(a:Ag):Bool×Str×Nat:=(a.d,a.nm,a.b)
noncomputable def bT(d:Bool)(wires:List Str):List Str:=if d then wires else wires++[q "0",q "1"]
noncomputable def namesOf:It->List Str
 | .port _ nm _=>[nm]
 | .wire x r=>x::r
 | .asg _ nm _ w=>[nm,w]
 | .cell _ out ins=>out::ins
noncomputable def aU(it:It):V:= .tup [cy (namesOf it),bt it.text]
noncomputable def aX:g9:=jn "law" ["declared","body","ports","order","shown","rest","cells"]
noncomputable def aA:aV:=l8 aX
noncomputable def lx:Stmt:=bE aX.body 7
noncomputable def xg:Stmt:=bE (bG lx 0) 6
noncomputable def E4:Expr:=uw (bE (bG lx 0) 2)
noncomputable def NC(cut sort:Int)(wires:List Str):Ev:=[(q "body",.loc 3),(q "cut",.int cut),(q "declared",.loc 2),(q "pool",.loc 1),(q "ports",.loc 4),(q "sort",.int sort),(q "wires",.lst (wires.map .str))]
noncomputable def pN(t:Nat):Str:=if t=0 then q "p0" else if t=1 then q "p1" else q "p2"
theorem xC{t:Nat}(h:t<3):aL (pN t)=true:=by rcases tR h with rfl | rfl | rfl<;>decide+kernel
noncomputable def LS(c0:AO)(pl de bo po:List V):List AO:=[c0,.lst pl,.lst de,.lst bo,.lst po]
structure zG(wires:List Str):Prop where
 ne:wires≠[]
 le:wires.length<=4
 st: ∀x∈wires,aL x=true
noncomputable def ND(cut sort:Int)(wires:List Str)(d:Bool)(t:Nat):Ev:=NC cut sort wires++[(q "port",.str (pN t)),(q "way",qs (cu d))]
section
variable{cut sort:Int}{wires:List Str}{c0:AO}{po de:List V}
theorem rf(W:zG wires){d:Bool}{t w:Nat}(hw:w<=2): ∀(left done:Nat) (pl bo:List V),left+done=w->PL pl->bo.length+left<=1000-> ∃(as:List Ag) (cF:List V),PL cF/\as.map Ag.key=(List.range' done left).map (λs=>(d,pN t,s))/\(∀a∈as,a.w∈bT d wires)/\
  bl aA (λj m=>cP TT CL j aA (kM xg) (bG xg 0) (.jb 0 w 1) done m (LS c0 pl de bo po)) (left+201) (ND cut sort wires d t) (.go .next (ND cut sort wires d t) (LS c0 cF de (bo++as.map Ag.v) po))
 | 0,done,pl,bo,hd,hp,hb=>by
  refine⟨[],pl,hp,rfl,(λa h=>jR h),?_⟩
  rw[show bo++[].map Ag.v=bo from aav bo]
  exact cz (by rw[eO (LU hw),if_neg (GC hd)])
 | left+1,done,pl,bo,hd,hp,hb=>by
  have hdb:dX (done:Int):=by unfold dX;exact VD hw hd
  have tP:0<wires.length:=ab9.mpr W.ne
  have hW:=W.le
  have qF:(bT d wires).length<=6/\0<(bT d wires).length:=by
   unfold bT
   split
   ·exact VE tP hW
   ·rw[aag];show _+2<=6/\0<_+2;exact VF hW
  refine bu (lim:=(bT d wires).length) hp ⟨by exact VG qF,by exact VH qF⟩ λi' b8 dj h0 h1 Np=> ?_
  obtain⟨i,rfl⟩: ∃i:Nat,i'=i:=⟨i'.toNat,by exact ju h0⟩
  have hi:i<(bT d wires).length:=by exact vc h1
  have hx:=abS hi
  have Uq:aL (bT d wires)[i]=true:=by
   revert hx
   generalize (bT d wires)[i]=x
   unfold bT
   split
   ·exact W.st x
   ·intro hx
    rcases aal.mp hx with h | h
    ·exact W.st _ h
    ·rcases aat.mp h with rfl | h
     ·decide+kernel
     ·rw[abb.mp h];decide+kernel
  refine km (rf W (d:=d) (t:=t) hw left (done+1) b8 (bo++[yn d (pN t) done (bT d wires)[i]]) (GF hd) dj (by rw[aag,aaF];exact PV hb)) λas cF uI hk ha go=> ?_
  refine⟨⟨d,pN t,done,(bT d wires)[i]⟩::as,cF,uI,by rw[aaq,hk,List.range'_succ];rfl,λa h=>(aat.mp h).elim (λe=>e▸hx) (ha a),?_⟩
  rw[aax] at go
  have f:=[fF 5 (len_strs (l:=bT d wires) (LV qF))]
  have nx:fq (LS c0 pl de bo po) (.jb 0 w 1) done=some (some (.int done)):=by rw[eO (LU hw),if_pos (GG hd)]
  have da:=yq (k:=17) (st:=LS c0 b8 de bo po) (d:=d) (nm:=pN t) hdb Uq
  have sb:=fH (xs:=(bT d wires).map .str) (i:=i) (v:= .str (bT d wires)[i]) (by rw[aae];exact LV qF) (by rw[aay,aaG hi];rfl)
  have ap:=bW (n:=3) (st:=LS c0 b8 de bo po) (v:=yn d (pN t) done (bT d wires)[i]) (ys:=bo) rfl (VI hb)
  have ln:=len_strs (l:=bT d wires) (LV qF)
  have dr:=Np 18 c0 [.lst de,.lst bo,.lst po]
  cases d with
  | true=>exact fT (q:=ND cut sort wires true t) (l2:=ND cut sort wires true t++[(q "spot",.int done)]) nx (by kernel_rfl) [fF 5 ln,fV 0 dr,fF 4 sb,fV 0 da,fV 7 ap] (by kernel_rfl) (aaD (by decide) (aaI 201 _)) go
  | false=>
   have ad: ∀st,binI false .Add (.lst (wires.map .str)) (.lst [qs "0",qs "1"]) st=ok (.lst ((bT false wires).map .str)) st:=λst=>(jC (by rw[aae];show _+2<=_;exact VJ hW) st).trans (by show _=ok (V.lst ((wires++[q "0",q "1"]).map .str)) st;rw[aaA];rfl)
   exact fT (q:=ND cut sort wires false t) (l2:=ND cut sort wires false t++[(q "spot",.int done)]) nx (by kernel_rfl) [fF 2 ad,fF 5 ln,fV 0 dr,fF 4 sb,fV 0 da,fV 7 ap] (by kernel_rfl) (aaD (by decide) (aaI 201 _)) go
noncomputable def bL(d:Nat):Nat:=if d=0 then 1 else if d=1 then 2 else 0
noncomputable def keysOf(ps:List Pt):List (Bool×Str×Nat):=ps.flatMap λp=>(List.range' 0 p.w).map λs=>(p.d,p.nm,s)
noncomputable def fJ{F run N l v st}(h:Gives F run N l v st):Fc:=⟨23,.c F run N l v st,h⟩
theorem CF{t:Nat}(h:t<3)(st:List AO):Gives aA (λj m=>bH TT CL j aA false m st E4) 200 [(q "turn",.int t)] (.str (pN t)) st:=λn hn m hA hG=>by
 obtain⟨j,rfl⟩: ∃j,n=j+200:=⟨n- 200,by exact VK hn⟩
 rcases tR h with rfl | rfl | rfl
 ·exact mF (l:=[(q "turn",.int 0)]) (fs:=[]) (by kernel_rfl) hA hG
 ·exact mF (l:=[(q "turn",.int 1)]) (fs:=[]) (by kernel_rfl) hA hG
 ·exact mF (l:=[(q "turn",.int 2)]) (fs:=[]) (by kernel_rfl) hA hG
theorem mE(W:zG wires){np:Nat}(Nu:np<=3): ∀(left done:Nat) (pl de bo po:List V),left+done=np->PL pl->de.length+left<=900->po.length+left<=900->bo.length+2* left<=900-> ∃(ps:List Pt) (as:List Ag) (cF:List V),PL cF/\ps.map (·.nm)=(List.range' done left).map pN/\(∀p∈ps,p.w<=2)/\as.map Ag.key=keysOf ps/\(∀a∈as,a.w∈bT a.d wires)/\
  bl aA (λj m=>cP TT CL j aA (kM lx) (bG lx 0) (.jb 0 np 1) done m (LS c0 pl de bo po)) (left+1001) (NC cut sort wires) (.go .next (NC cut sort wires) (LS c0 cF (de++ps.map λp=>aU p.it) (bo++as.map Ag.v) (po++ps.map Pt.v)))
 | 0,done,pl,de,bo,po,hd,hp,h1,h2,h3=>by
  refine⟨[],[],pl,hp,rfl,(λa h=>jR h),rfl,(λa h=>jR h),?_⟩
  rw[show bo++[].map Ag.v=bo from aav bo,show(de++([]:List Pt).map λp=>aU p.it)=de from aav de,show po++[].map Pt.v=po from aav po]
  exact cz (by rw[eO (GH Nu),if_neg (GC hd)])
 | left+1,done,pl,de,bo,po,FL,hp,h1,h2,h3=>by
  have Sk:done<3:=by exact Qg Nu FL
  refine bu (lim:=2) hp (by decide) λd' b8 dj hd0 Np Nq=> ?_
  refine bu (lim:=3) dj (by decide) λw' dq qG FV Uw hdw=> ?_
  obtain⟨wi,rfl⟩: ∃i:Nat,w'=i:=⟨w'.toNat,by exact ju FV⟩
  obtain⟨d,hdE⟩: ∃d:Bool,d'=if d then 0 else 1:=by
   by_cases h:d'=0
   ·exact⟨true,h⟩
   ·exact⟨false,by show d'=1;exact VL hd0 Np h⟩
  subst hdE
  have hw3:wi<3:=by exact LQ Uw
  have tP:bL wi<=2:=by rcases tR hw3 with rfl | rfl | rfl<;>decide
  have tN:((bL wi:Nat):Int)- 1= -1\/((bL wi:Nat):Int)- 1=0\/((bL wi:Nat):Int)- 1=1:=by exact Qh tP
  have hH:(plainT (((bL wi:Nat):Int)- 1)).length<=2:=by unfold plainT;split<;>exact aam rfl
  refine km (rf (cut:=cut) (sort:=sort) (c0:=c0) (de:=de++[aU (Pt.it ⟨d,pN done,bL wi⟩)]) (po:=po++[.tup [qs (cu d),.str (pN done),.int (bL wi)]]) W (d:=d) (t:=done) tP (bL wi) 0 dq bo (Qc) qG (VM h3 tP)) λas vj yU hk ha in1=> ?_
  have IT:as.length=bL wi:=by have :=congrArg abx hk;rwa [aae,aae,List.length_range'] at this
  refine Fj (mE W Nu left (done+1) vj (de++[aU (Pt.it ⟨d,pN done,bL wi⟩)]) (bo++as.map Ag.v) (po++[.tup [qs (cu d),.str (pN done),.int (bL wi)]]) (GF FL) yU (by rw[aag,aaF];exact LW h1) (by rw[aag,aaF];exact LW h2) (by rw[aag,aae];exact VN h3 tP IT)) λps as' qi Ee hn4 Pg hk4 ha4 go=> ?_
  refine⟨⟨d,pN done,bL wi⟩::ps,as++as',qi,Ee,by rw[aaq,hn4,List.range'_succ];rfl,λp h=>(aat.mp h).elim (λe=>e▸tP) (Pg p),by rw[aaA,hk,hk4];rfl,λa h=>(aal.mp h).elim (λh=>by
    have e:a.d=d:=by
     have :a.key∈as.map Ag.key:=aaH.mpr ⟨a,h,rfl⟩
     rw[hk] at this
     refine ae this λs _ hs=> ?_
     exact(congrArg Prod.fst hs).symm
    rw[e];exact ha a h) (ha4 a),?_⟩
  rw[aax,aax,aax,<-aaA] at go
  have nx:fq (LS c0 pl de bo po) (.jb 0 np 1) done=some (some (.int done)):=by rw[eO (GH Nu),if_pos (GG FL)]
  have sw: ∀st,eQ (.lst [.int 1,.int 2,.int 0]) (.int wi) st=ok (.int (bL wi)) st:=λst=>by rcases tR hw3 with rfl | rfl | rfl<;>kernel_rfl
  have a1:=cw (a:=[(q "key",qs (cu d)),(q "op",qs "[")]) (b:=plainT (((bL wi:Nat):Int)- 1)) (by show 2+_<=_;exact VO hH)
  have a2:=cw (a:=[(q "key",qs (cu d)),(q "op",qs "[")]++plainT (((bL wi:Nat):Int)- 1)) (b:=[(q "op",qs ":")]) (by rw[aag];show 2+_+1<=_;exact VP hH)
  have a3:=cw (a:=[(q "key",qs (cu d)),(q "op",qs "[")]++plainT (((bL wi:Nat):Int)- 1)++[(q "op",qs ":")]) (b:=plainT 0) (by rw[aag,aag];show 2+_+1+1<=_;exact VQ hH)
  have a4:=cw (a:=[(q "key",qs (cu d)),(q "op",qs "[")]++plainT (((bL wi:Nat):Int)- 1)++[(q "op",qs ":")]++plainT 0) (b:=[(q "op",qs "]"),(q "id",.str (pN done)),(q "op",qs ";")]) (by rw[aag,aag,aag];show 2+_+1+1+3<=_;exact VS hH)
  have ap:=bW (n:=4) (st:=LS c0 dq de bo po) (ys:=po) (v:= .tup [qs (cu d),.str (pN done),.int (bL wi)]) rfl (LX h2)
  have aq:=bW (n:=2) (st:=LS c0 dq de bo (po++[.tup [qs (cu d),.str (pN done),.int (bL wi)]])) (ys:=de) (v:=aU (Pt.it ⟨d,pN done,bL wi⟩)) rfl (LX h1)
  have q1:=jU (k:=18) (st:=LS c0 dq de bo (po++[.tup [qs (cu d),.str (pN done),.int (bL wi)]])) tN
  have q0:=jU (k:=18) (st:=LS c0 dq de bo (po++[.tup [qs (cu d),.str (pN done),.int (bL wi)]])) (n:=0) (.inr (.inl rfl))
  have h8:1000<=left+1001:=aaD (by decide) (aaI 1001 _)
  cases d<;>
   exact eM (K:=1000) (q:=NC cut sort wires) (l2:=NC cut sort wires++[(q "turn",.int done)]) nx (by kernel_rfl) [fV 0 (Nq 18 c0 [.lst de,.lst bo,.lst po]),fV 0 (hdw 18 c0 [.lst de,.lst bo,.lst po]),fF 4 sw,fJ (CF Sk (LS c0 dq de bo po)),fV 7 ap,fV 0 q1,fF 2 a1,fF 2 a2,fV 0 q0,fF 2 a3,fF 2 a4,fV 7 aq,fF 6 (j5 (n:=bL wi) (LU tP)),fR (in1.le (N':=300) (VT tP))] (by kernel_rfl) h8 go
end
end Mine
namespace Mine
mutual
noncomputable def dat(b:Bool):V->Nat->Bool
 | .none,_=>true
 | .bool _,_=>b
 | .int _,_=> !b
 | .str x,_=>aL x
 | .tup xs,n=>match n with
  | 0=>false
  | n+1=>dF b xs n
 | .lst xs,n=>match n with
  | 0=>false
  | n+1=>dF b xs n
 | _,_=>false
noncomputable def dF(b:Bool):List V->Nat->Bool
 | [],_=>true
 | x::xs,n=>dat b x n&&dF b xs n
end
mutual
noncomputable def eP:V->PyData
 | .bool b=> .bool b
 | .int i=> .int i
 | .str x=> .str x
 | .tup xs=> .tuple (dk xs)
 | .lst xs=> .list (dk xs)
 | _=> .none
noncomputable def dk:List V->List PyData
 | []=>[]
 | x::xs=>eP x::dk xs
end
mutual
theorem eu{b:Bool}{F:Nat->Nat->Option PyData}: ∀(x:V) (n m:Nat),dat b x n=true->n<=m->tj F m x=some (eP x)
 | .none,_,m,_,_=>by cases m<;>rfl
 | .bool c,_,m,_,_=>by cases m<;>rfl
 | .int i,_,m,_,_=>by cases m<;>rfl
 | .str x,n,m,h,_=>by
   have h:adl x=true:=h
   exact if_pos h
 | .tup xs,0,_,h,_=>ft h
 | .tup xs,n+1,m+1,h,hm=>aK (gh xs n m h (Nat.le_of_succ_le_succ hm))
 | .tup xs,n+1,0,h,hm=>absurd hm (Nat.not_succ_le_zero n)
 | .lst xs,0,_,h,_=>ft h
 | .lst xs,n+1,m+1,h,hm=>aK (gh xs n m h (Nat.le_of_succ_le_succ hm))
 | .lst xs,n+1,0,h,hm=>absurd hm (Nat.not_succ_le_zero n)
 | .nj _ _,_,_,h,_=>ft h
 | .inst _ _,_,_,h,_=>ft h
 | .loc _,_,_,h,_=>ft h
 | .jb _ _ _,_,_,h,_=>ft h
 | .f6 _,_,_,h,_=>ft h
theorem gh{b:Bool}{F:Nat->Nat->Option PyData}: ∀(xs:List V) (n m:Nat),dF b xs n=true->n<=m->dO F m xs=some (dk xs)
 | [],_,_,_,_=>rfl
 | x::xs,n,m,h,hm=>aO (aap.mp h) λh1 h2=>eD (eu x n m h1 hm) (gh xs n m h2 hm)
end
mutual
theorem gK{b:Bool}: ∀(x:V) (n:Nat),dat b x n=true->aaz (eP x) (eP x)=true
 | .none,_,_=>rfl
 | .bool c,_,_=>by simp[eP,aaz]
 | .int i,_,_=>by simp[eP,aaz]
 | .str x,_,_=>by simp[eP,aaz]
 | .tup xs,0,h=>by simp[dat] at h
 | .tup xs,n+1,h=>by rw[eP,aaz];exact mB xs n h
 | .lst xs,0,h=>by simp[dat] at h
 | .lst xs,n+1,h=>by rw[eP,aaz];exact mB xs n h
 | .nj _ _,_,h=>by simp[dat] at h
 | .inst _ _,_,h=>by simp[dat] at h
 | .loc _,_,h=>by simp[dat] at h
 | .jb _ _ _,_,h=>by simp[dat] at h
 | .f6 _,_,h=>by simp[dat] at h
theorem mB{b:Bool}: ∀(xs:List V) (n:Nat),dF b xs n=true->abk (dk xs) (dk xs)=true
 | [],_,_=>by simp[dk,abk]
 | x::xs,n,h=>by
  simp only[dF,aaT] at h
  rw[dk,abk,gK x n h.1,mB xs n h.2];rfl
end
mutual
theorem lh{b:Bool}: ∀(x y:V) (n n':Nat),dat b x n=true->dat b y n'=true->aaz (eP x) (eP y)=true->x=y
 | .none,y,_,_,hx,hy,he=>by cases y<;>simp_all [eP,aaz,dat]
 | .bool c,y,_,_,hx,hy,he=>by cases y<;>simp_all [eP,aaz,dat]
 | .int i,y,_,_,hx,hy,he=>by cases y<;>simp_all [eP,aaz,dat]
 | .str x,y,_,_,hx,hy,he=>by cases y<;>simp_all [eP,aaz,dat]
 | .tup xs,y,n,n',hx,hy,he=>by
  cases y with
  | tup ys=>
   match n,n',hx,hy with
   | 0,_,hx,_=>simp[dat] at hx
   | _+1,0,_,hy=>simp[dat] at hy
   | n+1,n'+1,hx,hy=>
    rw[eP,eP,aaz] at he
    rw[lU xs ys n n' hx hy he]
  | _=>simp_all [eP,aaz,dat]
 | .lst xs,y,n,n',hx,hy,he=>by
  cases y with
  | lst ys=>
   match n,n',hx,hy with
   | 0,_,hx,_=>simp[dat] at hx
   | _+1,0,_,hy=>simp[dat] at hy
   | n+1,n'+1,hx,hy=>
    rw[eP,eP,aaz] at he
    rw[lU xs ys n n' hx hy he]
  | _=>simp_all [eP,aaz,dat]
 | .nj _ _,_,_,_,h,_,_=>by simp[dat] at h
 | .inst _ _,_,_,_,h,_,_=>by simp[dat] at h
 | .loc _,_,_,_,h,_,_=>by simp[dat] at h
 | .jb _ _ _,_,_,_,h,_,_=>by simp[dat] at h
 | .f6 _,_,_,_,h,_,_=>by simp[dat] at h
theorem lU{b:Bool}: ∀(xs ys:List V) (n n':Nat),dF b xs n=true->dF b ys n'=true->abk (dk xs) (dk ys)=true->xs=ys
 | [],[],_,_,_,_,_=>rfl
 | [],_::_,_,_,_,_,h=>by simp[dk,abk] at h
 | _::_,[],_,_,_,_,h=>by simp[dk,abk] at h
 | x::xs,y::ys,n,n',hx,hy,h=>by
  simp only[dF,aaT] at hx hy
  rw[dk,dk,abk,aaT] at h
  rw[lh x y n n' hx.1 hy.1 h.1,lU xs ys n n' hx.2 hy.2 h.2]
end
theorem dG{b:Bool}{n:Nat}: ∀{xs:List V},dF b xs n=true<-> ∀x∈xs,dat b x n=true
 | []=>by simp[dF]
 | x::xs=>by simp only[dF,aaT,dG (xs:=xs),abJ]
theorem Hb{st:List AO}{n:Nat}{xs:List V}{v:V}(h:st[n]? =some (.lst xs))(hl:xs.length<=900)(hv:v∈xs)(hd: ∀x∈xs,∀F m,20<=m->tj F m x=some (eP x))(hi: ∀x∈xs,aaz (eP x) (eP v)=true->x=v)(hr:aaz (eP v) (eP v)=true):
  ∃j,xs[j]? =some v/\eF .lst (.loc n) (q "remove") [v] st=ok .none (st.set n (.lst (xs.eraseIdx j))):=by
 have me: ∀l:List V,(∀x∈l,x∈xs)->ti st l=some (l.map eP):=λl=>by
  unfold ti
  induction l with
  | nil=>intro _;rfl
  | cons x l ih=>
   intro hs
   exact eD (hd x (hs x (by simp)) _ _ (Xf)) (ih λy hy=>hs y (aai _ hy))
 have h1:=me xs λx hx=>hx
 have h2:toD st v=some (eP v):=hd v hv _ _ (Xg)
 obtain⟨j,hj⟩: ∃j,(xs.map eP).findIdx? (λe=>aaz e (eP v))=some j:=by
  cases hf:(xs.map eP).findIdx? (λe=>aaz e (eP v)) with
  | some j=>exact⟨j,rfl⟩
  | none=>
   rw[List.findIdx?_eq_none_iff] at hf
   have :=hf (eP v) (aaH.mpr ⟨v,hv,rfl⟩)
   rw[hr] at this;cases this
 have hj2: ∃x,xs[j]? =some x/\aaz (eP x) (eP v)=true:=by
  refine ao (List.findIdx?_eq_some_iff_getElem.mp hj) λO0 hje _=> ?_
  have T5:j<xs.length:=by simpa using O0
  refine⟨xs[j],aaG T5,?_⟩
  simpa using hje
 refine ao hj2 λx wZ Lh=> ?_;clear hj2
 have hxv:x=v:=hi x (aas wZ) Lh
 refine⟨j,by rw[wZ,hxv],?_⟩
 have hw:fM st v xs=some (some j):=(tC h1 h2).trans (congrArg some hj)
 have n1:q "remove"≠q "append":=by decide+kernel
 have n2:q "remove"≠q "reverse":=by decide+kernel
 have n3:q "remove"≠q "pop":=by decide+kernel
 have gH:xs.length<100000:=by exact Mb hl
 exact(r8 h gH).trans ((if_neg n1).trans ((if_neg n2).trans ((if_neg n3).trans ((if_pos rfl).trans (aK hw)))))
noncomputable def cG:It->V
 | .asg d nm b w=> .tup [qs (cu d),.str nm,.int b,.str w]
 | .cell c out ins=> .tup [.str c.kd,.str out,cy ins,c.pr]
 | _=> .none
noncomputable def cQ(it:It):V:= .tup [cy (namesOf it),bt it.text,cG it]
noncomputable def nL:It->Prop
 | .port _ nm n=>aL nm=true/\(n= -1\/n=0\/n=1)
 | .wire x r=> ∀y∈x::r,aL y=true
 | .asg _ nm b w=>aL nm=true/\dX b/\aL w=true
 | .cell c out ins=>c.Ok ins.length/\c.Rr/\ ∀y∈out::ins,aL y=true
abbrev qy(p:Tk):Prop:=dat true (gR p) 3=true
theorem tg{k:String}{x:Str}(hk:aL (q k)=true)(h:aL x=true):qy (q k,.str x):=by
 show(aL (q k)&&(aL x&&true))=true
 rw[hk,h];rfl
theorem vH{xs:List V}(h:dF true xs 1=true):qy (q "num",.tup xs):=by
 show(aL (q "num")&&(dF true xs 1&&true))=true
 rw[h,show aL (q "num")=true by decide+kernel];rfl
abbrev g8(l:List Tk):Prop:= ∀p∈l,qy p
theorem bc:g8 []:=λ_ h=>jR h
theorem ai{p:Tk}{l:List Tk}(h:qy p)(hl:g8 l):g8 (p::l):=λx hx=>(aat.mp hx).elim (λe=>e▸h) (hl x)
theorem cg{a b:List Tk}(h:g8 a)(hl:g8 b):g8 (a++b):=λx hx=>(aal.mp hx).elim (h x) (hl x)
theorem dK(k x:String)(hk:aL (q k)=true:=by decide+kernel)(h:aL (q x)=true:=by decide+kernel):qy (q k,qs x):=tg hk h
theorem x8{w:Str}(h:aL w=true):qy (aD w):=by
 unfold aD
 split
 ·exact vH (by decide+kernel)
 ·split
  ·exact vH (by decide+kernel)
  ·exact tg (by decide+kernel) h
theorem vk{n:Int}(h:n= -1\/n=0\/n=1):g8 (plainT n):=by
 rcases h with rfl | rfl | rfl
 ·exact ai (dK "op" "-") (ai (vH (by decide+kernel)) bc)
 ·exact ai (vH (by decide+kernel)) bc
 ·exact ai (vH (by decide+kernel)) bc
theorem Ci: ∀{l:List Tk},g8 l->g8 (cN l)
 | [],_=>bc
 | b::l,h=>ai (dK "op" ",") (ai (h b (by simp)) (Ci λx hx=>h x (aai _ hx)))
theorem Td: ∀{l:List Tk},g8 l->g8 (eg l)
 | [],_=>bc
 | a::l,h=>ai (h a (by simp)) (Ci λx hx=>h x (aai _ hx))
theorem UE{l:List Str}(h: ∀y∈l,aL y=true):g8 (l.map cI):=λx hx=>by refine ae hx ?_;rintro y hy rfl;exact tg (by decide+kernel) (h y hy)
theorem Nb{l:List Str}(h: ∀y∈l,aL y=true):g8 (l.map aD):=λx hx=>by refine ae hx ?_;rintro y hy rfl;exact x8 (h y hy)
theorem N9{x:Str}{b:Int}(hb:dX b)(h:aL x=true):g8 (ed x b):=cg (cg (ai (tg (by decide+kernel) h) (ai (dK "op" "[") bc)) (vk (.inr hb))) (ai (dK "op" "]") bc)
theorem Bn{b:Int}(hb:dX b):qy (bY b):=by rcases hb with rfl | rfl<;>exact vH (by decide+kernel)
theorem Ry{m b t:Nat}(hm:m<3)(hb:b<3)(ht:t<2^2^m):qy (q "num",gQ m b t):=by
 refine vH ?_
 revert hb ht
 refine below (n:=3) (p:=λm=>b<3->t<2^2^m->dF true [.str (cK ((2^m:Nat):Int)),.str (if b=0 then q "b" else if b=1 then q "d" else q "h"),.bool false,.str (if b=0 then EU m t else if b=1 then cK (t:Int) else yS t)] 1=true) ⟨⟨⟨trivial,?_⟩,?_⟩,?_⟩ hm
 all_goals
  intro hb
  refine below (n:=3) (p:=λb=>t<2^2^_->dF true [.str (cK ((2^_:Nat):Int)),.str (if b=0 then q "b" else if b=1 then q "d" else q "h"),.bool false,.str (if b=0 then EU _ t else if b=1 then cK (t:Int) else yS t)] 1=true) ⟨⟨⟨trivial,?_⟩,?_⟩,?_⟩ hb
 all_goals
  refine λht=>below (p:=λt=>dF true [.str (cK ((2^_:Nat):Int)),.str (if _=0 then q "b" else if _=1 then q "d" else q "h"),.bool false,.str (if _=0 then EU _ t else if _=1 then cK (t:Int) else yS t)] 1=true) ?_ ht
  repeat' (first | exact trivial | apply And.intro)
  all_goals kernel_rfl
theorem KO{c:CK}{n:Nat}(hc:c.Ok n)(hs:c.Rr):g8 c.front:=by
 cases c with
 | gate nm=>exact ai (tg (by decide+kernel) hs) bc
 | Eg=>exact ai (dK "id" "gl_mux") (ai (dK "id" "a") bc)
 | zL m b t=>exact ai (dK "id" "gl_lut") (ai (dK "op" "#") (ai (dK "op" "(") (ai (Ry hc.1 hc.2.1 hc.2.2.1) (ai (dK "op" ")") (ai (dK "id" "a") bc)))))
 | tK m b t=>exact ai (dK "id" "gl_cell") (ai (dK "op" "#") (ai (dK "op" "(") (ai (dK "str" "O W") (ai (dK "op" ",") (ai (Ry hc.1 hc.2.1 hc.2.2.1) (ai (dK "op" ")") (ai (dK "id" "a") bc)))))))
 | ir e x nm=>exact ai (dK "id" "gl_flop") (ai (dK "op" "#") (ai (dK "op" "(") (ai (Bn hc.1) (ai (dK "op" ",") (ai (tg (by decide+kernel) hs) (ai (dK "op" ",") (ai (Bn hc.2.1) (ai (dK "op" ")") (ai (dK "id" "a") bc)))))))))
 | ew x nm=>exact ai (dK "id" "gl_latch") (ai (dK "op" "#") (ai (dK "op" "(") (ai (tg (by decide+kernel) hs) (ai (dK "op" ",") (ai (Bn hc.1) (ai (dK "op" ")") (ai (dK "id" "a") bc)))))))
theorem ZV{out:Str}{ins:List Str}(h: ∀y∈out::ins,aL y=true):g8 (nE out ins):=ai (dK "op" "(") (ai (x8 (h _ (by simp))) (cg (Ci (Nb λy hy=>h y (aai _ hy))) (ai (dK "op" ")") (ai (dK "op" ";") bc))))
theorem aah(d:Bool):qy (q "key",qs (cu d)):=by cases d<;>exact dK "key" _
theorem oB{it:It}(h:nL it):g8 it.text:=by
 cases it with
 | port d nm n=>exact cg (cg (cg (cg (ai (aah d) (ai (dK "op" "[") bc)) (vk h.2)) (ai (dK "op" ":") bc)) (vk (.inr (.inl rfl)))) (ai (dK "op" "]") (ai (tg (by decide+kernel) h.1) (ai (dK "op" ";") bc)))
 | wire x r=>exact ai (dK "key" "wire") (cg (Td (UE h)) (ai (dK "op" ";") bc))
 | asg d nm b w=>cases d with
  | true=>exact ai (dK "key" "assign") (cg (ai (x8 h.2.2) (ai (dK "op" "=") (N9 h.2.1 h.1))) (ai (dK "op" ";") bc))
  | false=>exact ai (dK "key" "assign") (cg (cg (N9 h.2.1 h.1) (ai (dK "op" "=") (ai (x8 h.2.2) bc))) (ai (dK "op" ";") bc))
 | cell c out ins=>exact cg (KO h.1 h.2.1) (ZV h.2.2)
theorem lG{l:List Tk}(h:g8 l):dat true (bt l) 4=true:=by
 show dF true (l.map gR) 3=true
 rw[dG];intro x hx
 refine ae hx ?_;rintro p hp rfl
 exact h p hp
theorem lA{b:Bool}{l:List Str}(h: ∀y∈l,aL y=true):dat b (cy l) 1=true:=by
 show dF b (l.map V.str) 0=true
 rw[dG];intro x hx
 refine ae hx ?_;rintro p hp rfl
 exact h p hp
theorem nL.Eh{it:It}(h:nL it): ∀y∈namesOf it,aL y=true:=by
 cases it with
 | port d nm n=>intro y hy;simp only[namesOf,aat,abh,or_false] at hy;rw[hy];exact h.1
 | wire x r=>exact h
 | asg d nm b w=>intro y hy;simp only[namesOf,aat,abh,or_false] at hy;exact hy.elim (λe=>e▸h.1) (λe=>e▸h.2.2)
 | cell c out ins=>exact h.2.2
theorem Px{c:CK}(hs:c.Rr):aL c.kd=true:=by
 cases c with
 | gate nm=>exact hs
 | Eg=>show aL (q "mux")=true;decide+kernel
 | zL _ _ _=>show aL (q "lut")=true;decide+kernel
 | tK _ _ _=>show aL (q "cell")=true;decide+kernel
 | ir _ _ _=>show aL (q "flop")=true;decide+kernel
 | ew _ _=>show aL (q "latch")=true;decide+kernel
theorem iS{it:It}(h:nL it):dat false (cG it) 4=true:=by
 cases it with
 | asg d nm b w=>
  show(aL (q (cu d))&&(aL nm&&(!false&&(aL w&&true))))=true
  rw[h.1,h.2.2,show aL (q (cu d))=true by cases d<;>decide+kernel];rfl
 | cell c out ins=>
  show(aL c.kd&&(aL out&&(dF false (ins.map .str) 2&&(dat false c.pr 3&&true))))=true
  have e:dF false (ins.map .str) 2=true:=by
   rw[dG];intro x hx
   refine ae hx ?_;rintro p hp rfl
   exact h.2.2 p (aai _ hp)
  have e2:dat false c.pr 3=true:=by
   cases c with
   | ir e x nm=>show(!false&&(aL nm&&(!false&&true)))=true;rw[show aL nm=true from h.2.1];rfl
   | ew x nm=>show(aL nm&&(!false&&true))=true;rw[show aL nm=true from h.2.1];rfl
   | tK m b t=>show(aL (q "O W")&&(!false&&true))=true;decide+kernel
   | _=>rfl
  rw[Px h.2.1,h.2.2 out (by simp),e,e2];rfl
 | _=>rfl
theorem C6{it:It}(h:nL it)(F:Nat->Nat->Option PyData)(m:Nat)(hm:20<=m):tj F m (cQ it)=some (eP (cQ it)):=by
 obtain⟨m,rfl⟩: ∃j,m=j+1:=⟨m- 1,by exact Xh hm⟩
 exact aK (eD (eu (b:=true) _ 1 m (lA h.Eh) (Xi hm)) (eD (eu _ 4 m (lG (oB h)) (QD hm)) (eD (eu _ 4 m (iS h) (QD hm)) rfl)))
theorem C5{it:It}(h:nL it):aaz (eP (cQ it)) (eP (cQ it))=true:=by
 show aaz (.tuple (dk [cy (namesOf it),bt it.text,cG it])) (.tuple (dk [cy (namesOf it),bt it.text,cG it]))=true
 rw[aaz]
 simp only[dk,abk]
 rw[gK (b:=true) _ 1 (lA h.Eh),gK _ 4 (lG (oB h)),gK _ 4 (iS h)];rfl
theorem He{a b:It}(ha:nL a)(hb:nL b)(h:aaz (eP (cQ a)) (eP (cQ b))=true):cQ a=cQ b:=by
 have h:aaz (.tuple (dk [cy (namesOf a),bt a.text,cG a])) (.tuple (dk [cy (namesOf b),bt b.text,cG b]))=true:=h
 rw[aaz] at h
 simp only[dk,abk,aaT] at h
 refine jj h λh1 h2 h3 _=> ?_;clear h
 unfold cQ
 rw[lh _ _ 1 1 (lA (b:=true) ha.Eh) (lA hb.Eh) h1,lh _ _ 4 4 (lG (oB ha)) (lG (oB hb)) h2,lh _ _ 4 4 (iS ha) (iS hb) h3]
theorem nU{α β:Type}(f:α->β): ∀(l:List α) (j:Nat),(l.map f).eraseIdx j=(l.eraseIdx j).map f
 | [],_=>rfl
 | _::_,0=>rfl
 | x::l,j+1=>by show f x::(l.map f).eraseIdx j=f x::(l.eraseIdx j).map f;rw[nU f l j]
theorem xI{st:List AO}{n:Nat}{rows:List It}{v:V}(h:st[n]? =some (.lst (rows.map cQ)))(hl:rows.length<=900)(hv:v∈rows.map cQ)(hs: ∀it∈rows,nL it):
  ∃(it:It) (bj:List It),cQ it=v/\it∈rows/\rows.Perm (it::bj)/\eF .lst (.loc n) (q "remove") [v] st=ok .none (st.set n (.lst (bj.map cQ))):=by
 refine ae hv ?_;rintro it0 h0 rfl
 refine ao (Hb h (by simpa using hl) hv (λx hx=>by obtain⟨y,hy,rfl⟩:=aaH.mp hx;exact C6 (hs y hy)) (λx hx he=>by obtain⟨y,hy,rfl⟩:=aaH.mp hx;exact He (hs y hy) (hs it0 h0) he) (C5 (hs it0 h0))) λj hj e=> ?_
 rw[aay] at hj
 refine ao (abT.mp hj) λit h1 h2=> ?_
 refine aj (aar.mp h1) λO0 h3=> ?_
 refine⟨it,rows.eraseIdx j,h2,aas h1,?_,?_⟩
 ·have :=jk (l:=rows) O0
  rw[h3] at this
  exact this.symm
 ·rw[e,nU]
theorem jQ{k:Nat}{l:List Str}:cH k (cy l)=true:=dW
theorem th{k:Nat}{it:It}:cH k (bt it.text)=true:=mJ (j3 _)
structure Cl where
 c:CK
 out:Str
 ins:List Str
noncomputable def Cl.it(c:Cl):It:= .cell c.c c.out c.ins
def vN(wires:List Str)(c:Cl):Prop:=c.c.Ok c.ins.length/\c.c.Rr/\c.out∈wires/\ ∀v∈c.ins,v∈[q "0",q "1"]++wires
theorem vN.its{wires:List Str}{c:Cl}(W:zG wires)(h:vN wires c):nL c.it:=by
 refine⟨h.1,h.2.1,λy hy=> ?_⟩
 rcases aat.mp hy with rfl | h1
 ·exact W.st _ h.2.2.1
 ·have :=h.2.2.2 y h1
  simp only[abl,aaP,aat] at this
  rcases this with rfl | rfl | h2
  ·decide+kernel
  ·decide+kernel
  ·exact W.st y h2
theorem Hh{it:It}{k:Nat}:cH k (cQ it)=true:=by
 have h1:=th (k:=k) (it:=it)
 have h2:cH k (cG it)=true:=by
  cases it with
  | asg d nm b w=>simp[cG,cH,aQ]
  | cell c out ins=>simp[cG,cH,aQ,jQ,CK.ql]
  | _=>rfl
 simp[cQ,cH,aQ,h1,h2,jQ]
theorem oo{k:Nat}{l:List It}:aQ k (l.map cQ)=true:=by
 rw[bX];intro x hx
 refine ae hx ?_;rintro y _ rfl;exact Hh
theorem yB{it:It}{k:Nat}:cH k (aU it)=true:=by
 have h1:=th (k:=k) (it:=it)
 simp[aU,cH,aQ,h1,jQ]
theorem gE{k:Nat}{l:List It}:aQ k (l.map aU)=true:=by
 rw[bX];intro x hx
 refine ae hx ?_;rintro y _ rfl;exact yB
end Mine
namespace Mine
noncomputable def jO:Stmt:=bE aX.body 9
noncomputable def E0:Expr:=kX (uw (bE (bG jO 0) 0)) [0,1,1]
noncomputable def xh:Stmt:=bE aX.body 10
noncomputable def Gs(asg:List V)(sort:Int)(wires:List Str):Ev:=[(q "assigns",.lst asg),(q "body",.loc 3),(q "declared",.loc 2),(q "pool",.loc 1),(q "ports",.loc 4),(q "sort",.int sort),(q "wires",.lst (wires.map .str))]
theorem lT{xs:List V}{h:Nat}(hl:xs.length<=1000)(hh:h<=1000): ∀st,kW false (.lst xs) none (some (h:Int)) st=ok (.lst (xs.take h)) st:=λst=>by
 show(if(0:Int)<=h/\(h:Int)<=1000 then(match items st (.lst xs) with
   | some xs=>if xs.length<=100000 then mk false (xs.take (h:Int).toNat) st else none
   | none=>none) else none)=_
 rw[if_pos ⟨by exact SD,by exact QH hh⟩]
 exact(if_pos (show xs.length<=100000 by exact xw hl)).trans (if_pos (show(xs.take h).length<=100000 by rw[abu];exact XS hh))
theorem AM{xs:List V}{h:Nat}(hl:xs.length<=1000)(hh:h<=1000): ∀st,kW false (.lst xs) (some (h:Int)) none st=ok (.lst (xs.drop h)) st:=λst=>by
 show(if(0:Int)<=h/\(h:Int)<=1000 then(match items st (.lst xs) with
   | some xs=>if xs.length<=100000 then mk false (xs.drop (h:Int).toNat) st else none
   | none=>none) else none)=_
 rw[if_pos ⟨by exact SD,by exact QH hh⟩]
 exact(if_pos (show xs.length<=100000 by exact xw hl)).trans (if_pos (show(xs.drop h).length<=100000 by rw[acY];exact XT hl))
noncomputable def idV(v:V):V:=match v with
 | .str w=>gR (cI w)
 | _=> .none
theorem FX{l:List Str}:(l.map V.str).map idV=(l.map cI).map gR:=by rw[aaN,aaN];rfl
noncomputable def mN(l:List Str):It:=match l with
 | []=> .wire abM []
 | x::r=> .wire x r
theorem BM{e:Expr}{l:Ev}{xs:List Str}{cl:Addr->List V->List AO->RE V}{st:List AO}{src:V}(hnx: ∀i,fq st src i=some (xs.map V.str)[i]?)(h1:BR e=true)(hc:cO aA (fu e) (kh e)=true)(hi:dm e=[])(hs:rE TT cl 200 aA false l st (yz e) [] ik=some (.go (.ret src) [] st,[]))(he: ∀(x:Str),rE TT cl 200 (FC aA e) false (cV l e (.str x)) st (ej e) [] ik=some (.go (.ret (gR (cI x))) [] st,[]))(hl:xs.length<=100):
  Gives aA (λj m=>bH TT cl j aA false m st e) 400 l (bt (xs.map cI)) st:=λn hn=>by
 have lp:=iL (cl:=cl) (F:=aA) (e:=e) (l:=l) (st:=st) (src:=src) (g:=idV) hc hi hnx (by rw[aae];exact GA hl) (λv hv=>by
  refine ae hv ?_;rintro y hy rfl
  exact⟨[],he y⟩) _ [] [] rfl (aaw _)
 rw[aaP,FX,aae] at lp
 exact dE (mu:=false) (fs:=[]) h1 hc hs (nA) lp (if_pos (show((xs.map cI).map gR).length<=100000 by rw[aae,aae];exact nz hl)) n (GB hl hn)
section
variable{asg:List V}{sort:Int}{wires:List Str}{c0:AO}
theorem sz{i N:Nat}{src:V}{pl de bo po:List V}{x:Str}{r:List Str}{y:X}(hr:r.length<=10)(hd:de.length<=900)(hn:fq (LS c0 pl de bo po) src i=some (some (cy (x::r))))(hN:1000<=N)
  (go:bl aA (λj m=>cP TT CL j aA (kM jO) (bG jO 0) src (i+1) m (LS c0 pl (de++[aU (.wire x r)]) bo po)) N (Gs asg sort wires) y):
  bl aA (λj m=>cP TT CL j aA (kM jO) (bG jO 0) src i m (LS c0 pl de bo po)) (N+1) (Gs asg sort wires) y:=by
 have iY:(eg ((x::r).map cI)).length<=30:=by rw[aaq,eZ,aae];exact Qd hr
 have e1:=BM (e:=E0) (l:=[(q "part",cy (x::r))]) (xs:=x::r) (cl:=CL) (st:=LS c0 pl de bo po) (src:=cy (x::r)) (λi=>dJ (by rw[aae,aan];exact Qe hr)) (by kernel_rfl) (by kernel_rfl) (by kernel_rfl) (by kernel_rfl) (λx=>by kernel_rfl) (by rw[aan];exact XU hr)
 exact eM (K:=1000) (q:=Gs asg sort wires) (l2:=Gs asg sort wires++[(q "part",cy (x::r))]) hn (by kernel_rfl) [fG e1,fV 0 (bZ (k:=18) (st:=LS c0 pl de bo po) (a:=cI x) (r:=r.map cI) (by rw[aae];exact XW hr)),fF 2 (cw (a:=[(q "key",qs "wire")]) (b:=eg ((x::r).map cI)) (by show 1+_<=_;exact Qf iY)),
  fF 2 (cw (a:=[(q "key",qs "wire")]++eg ((x::r).map cI)) (b:=[semi]) (by rw[aag];show 1+_+1<=_;exact XY iY)),fV 7 (bW (n:=2) (st:=LS c0 pl de bo po) (ys:=de) (v:=aU (.wire x r)) rfl (Mb hd))] (by kernel_rfl) hN go
theorem lR(W:zG wires){nc:Nat}(Sl:nc<=3){de po:List V}(FK:aQ 0 de=true)(FT:aQ 0 po=true)(k4:bA 0 c0=true): ∀(left done:Nat) (pl:List V) (rows:List It),left+done=nc->PL pl->rows.length+left<=900-> ∃(cs:List Cl) (cF:List V),PL cF/\cs.length=left/\(∀c∈cs,vN wires c)/\
  bl aA (λj m=>cP TT CL j aA (kM xh) (bG xh 0) (.jb 0 nc 1) done m (LS c0 pl de (rows.map cQ) po)) (left+201) (Gs asg sort wires) (.go .next (Gs asg sort wires) (LS c0 cF de ((rows++cs.map Cl.it).map cQ) po))
 | 0,done,pl,rows,hd,hp,h1=>by
  refine⟨[],pl,hp,rfl,(λa h=>jR h),?_⟩
  rw[show rows++[].map Cl.it=rows from aav rows]
  exact cz (by rw[eO (GH Sl),if_neg (GC hd)])
 | left+1,done,pl,rows,FL,hp,h1=>by
  obtain⟨c,out,ins,b8,dj,hc,yQ,ho,hi,kJ⟩:=rX (spot:=done) W.ne (aaD W.le (by decide)) W.st (Qg Sl FL) hp
  have kJ:=kJ 16 c0 [.lst de,.lst (rows.map cQ),.lst po] (by show(bA 0 c0&&(aQ 0 de&&(aQ 0 (rows.map cQ)&&(aQ 0 po&&true))))=true;rw[k4,FK,oo,FT];rfl)
  refine km (lR W Sl FK FT k4 left (done+1) b8 (rows++[Cl.it ⟨c,out,ins⟩]) (GF FL) dj (by rw[aag,aaF];exact LW h1)) λcs cF uI iY tM go=> ?_
  refine⟨⟨c,out,ins⟩::cs,cF,uI,congrArg (· +1) iY,λz h=>(aat.mp h).elim (λe=>e▸⟨hc,yQ,ho,hi⟩) (tM z),?_⟩
  rw[aax] at go
  have ap:=bW (n:=3) (st:=LS c0 b8 de (rows.map cQ) po) (ys:=rows.map cQ) (v:=lQ c out ins) rfl (by rw[aae];exact LX h1)
  rw[show(LS c0 b8 de (rows.map cQ) po).set 3 (.lst (rows.map cQ++[lQ c out ins]))=LS c0 b8 de ((rows++[Cl.it ⟨c,out,ins⟩]).map cQ) po by rw[aaA];rfl] at ap
  exact fT (q:=Gs asg sort wires) (l2:=Gs asg sort wires++[(q "turn",.int done)]) (v:= .int done) (by rw[eO (GH Sl),if_pos (GG FL)]) (by kernel_rfl) [fV 0 kJ,fV 7 ap] (by kernel_rfl) (aaD (by decide) (aaI 201 _)) go
end
end Mine
namespace Mine
def LG(i N:Nat)(l:Ev)(st:List AO):Prop:= ∃st',∀n,N<=n-> ∀m,eE l m->Gn aA m-> ∃m',aT TT CL n aA m st (aX.body.drop i)=some (.ok (.ret (.bool true)),m',st')
theorem Dl{r:RS}{f g:M->List AO->RS}:(r.sq f).sq g=r.sq λm st=>(f m st).sq g:=by
 match r with
 | none=>rfl
 | some (.error _,_,_)=>rfl
 | some (.ok fl,_,_)=>cases fl<;>rfl
theorem l5{F:aV}{cl:Addr->List V->List AO->RE V}{b:List Stmt}{n:Nat}: ∀(a:List Stmt) (m:M) (st:List AO),aT TT cl (n+a.length) F m st (a++b)=(aT TT cl (n+a.length) F m st a).sq λm st=>aT TT cl n F m st b
 | [],m,st=>by
  cases n with
  | zero=>rfl
  | succ n=>rfl
 | s::a,m,st=>by
  show(dS TT cl (n+a.length) F m st s).sq (λm st=>aT TT cl (n+a.length) F m st (a++b))=((dS TT cl (n+a.length) F m st s).sq λm st=>aT TT cl (n+a.length) F m st a).sq _
  rw[Dl]
  congr 1
  funext m st
  exact l5 a m st
section
variable{i j K N:Nat}{l l':Ev}{st st':List AO}
theorem LG.seg(fs:List Fc)(h:tS TT CL K aA l st ((aX.body.drop i).take j) fs (fin l')=some (.go .next l' st',f7 fs))(hj:((aX.body.drop i).take j).length=j)(hN:K<=N)(g:LG (i+j) N l' st'):LG i (N+j) l st:=by
 refine aj g ?_;clear g;intro s' g
 refine⟨s',λn hn m hA hG=> ?_⟩
 obtain⟨a,rfl⟩: ∃a,n=a+j:=⟨n- j,by exact XZ hn⟩
 obtain⟨c,hc⟩: ∃c,a+j=c+K:=⟨a+j- K,by exact X6 hN hn⟩
 refine eI (fC (j:=c) h hA hG) λm1 e OI OJ=> ?_
 refine aj (g a (X7 hn) m1 OI OJ) λm2 e2=> ?_
 refine⟨m2,?_⟩
 have e3:=l5 (F:=aA) (cl:=CL) (n:=a) (b:=aX.body.drop (i+j)) ((aX.body.drop i).take j) m st
 rw[hj,<-List.drop_drop,acT,hc,e] at e3
 rw[<-List.drop_drop] at e2
 rw[hc,e3]
 exact e2
theorem LG.ret(fs:List Fc)(h:tS TT CL K aA l st (aX.body.drop i) fs (fin [])=some (.go (.ret (.bool true)) [] st',f7 fs)):LG i K l st:=
 ⟨st',λn hn m hA hG=>by
  obtain⟨c,rfl⟩: ∃c,n=c+K:=⟨n- K,by exact X8 hn⟩
  refine ao (fC (j:=c) h hA hG) λm1 e _=> ?_
  exact⟨m1,e⟩⟩
theorem LG.le{N':Nat}(h:LG i N l st)(hn:N<=N'):LG i N' l st:=h.elim λs h=>⟨s,λn h1=>h n (aaD hn h1)⟩
end
theorem sC{α β:Type}{f:α->β}{zs ys:List β}(h:zs.Perm ys): ∀l:List α,zs=l.map f-> ∃l':List α,ys=l'.map f/\l'.Perm l:=by
 induction h with
 | nil=>exact λl hl=>⟨l,hl,.refl _⟩
 | cons x _ ih=>
  intro l hl
  cases l with
  | nil=>cases hl
  | cons y l=>
   refine aO (aaJ hl) λh1 h2=> ?_
   refine ao (ih l h2) λl' h3 h4=> ?_
   exact⟨y::l',by rw[h1,h3];rfl,h4.cons y⟩
 | swap x y l0=>
  intro l hl
  match l,hl with
  | [],hl=>cases hl
  | [_],hl=>cases hl
  | a::b::l,hl=>
   refine aO (aaJ hl) λh1 h2=> ?_
   refine aO (aaJ h2) λh3 h4=> ?_
   exact⟨b::a::l,by rw[h1,h3,h4];rfl,List.Perm.swap _ _ _⟩
 | trans _ _ ih1 ih2=>
  intro l hl
  refine ao (ih1 l hl) λl1 h1 h2=> ?_
  refine ao (ih2 l1 h1) λl2 h3 h4=> ?_
  exact⟨l2,h3,h4.trans h2⟩
inductive Flt where
 | none
 | order
 | y7 (a:Ag)
 | twice (a:Ag)
 | mP
noncomputable def mQ(w:Str):List Tk:=[(q "key",qs "not"),cq "(",cI w,comma,cI (q "w3"),cq ")",semi]
noncomputable def Flt.again(wires:List Str):Flt->List Tk
 | .twice a=>a.it.text
 | .mP=>mQ (wires.headD abM)
 | _=>[]
noncomputable def Flt.Oh:Flt->V
 | .y7 a=> .tup [qs "missing_bit",.int (-1),.str a.nm]
 | _=> .none
def qN(as:List Ag)(rows:List It)(f:Flt)(sort:Int)(bj:List It):Prop:=
 match f with
 | .none=>4<=sort/\bj=rows
 | .order=>sort=0/\bj=rows
 | .y7 a=>sort=1/\a∈as/\rows.Perm (a.it::bj)
 | .twice a=>sort=2/\a∈as/\bj=rows
 | .mP=>sort=3/\bj=rows
noncomputable def mU(ag du:V)(sort:Int)(tx:List Tk)(wires:List Str):Ev:=[(q "again",ag),(q "body",.loc 3),(q "due",du),(q "numbers",.loc 7),(q "order",.loc 5),(q "pool",.loc 1),(q "ports",.loc 4),(q "rest",.loc 8),(q "shown",.loc 6),(q "sort",.int sort),(q "stream",bt tx),(q "wires",.lst (wires.map .str))]
noncomputable def ES(c0:AO)(pl de bo po or sh:List V)(nu:List (Str×V))(re:List V):List AO:=[c0,.lst pl,.lst de,.lst bo,.lst po,.lst or,.lst sh,.aF nu,.lst re]
noncomputable def Gy:List (Str×V):=[(q "0",.int 0),(q "1",.int 1)]
noncomputable def LE(c0:AO)(pl de bo po:List V):List AO:=[c0,.lst pl,.lst de,.lst bo,.lst po,.lst [],.lst [],.aF Gy]
theorem DC{v:V}{xs:List V}(h: ∀st,bB st v=some xs)(hl:xs.length<=1000){st:List AO}:gu true "list" [v] st=ok (.loc st.length) (st++[.lst xs]):=by
 show oK (bB st v) (λys=>mk true ys st)=_
 rw[h]
 show mk true xs st=_
 unfold mk
 rw[if_pos (aaD hl (by decide)),if_pos rfl]
theorem DV{d e:Bool}(h:q (cu d)=q (cu e)):d=e:=by
 cases d<;>cases e
 ·rfl
 ·exact absurd h (by decide+kernel)
 ·exact absurd h (by decide+kernel)
 ·rfl
theorem MI{it:It}{d:Bool}{nm w:Str}{b:Int}(h:cQ it=cQ (.asg d nm b w)):it= .asg d nm b w:=by
 have h:=(aaJ (aaJ (aaJ (V.tup.inj h)).2).2).1
 cases it with
 | asg d' NI b' w'=>
  refine aO (aaJ (V.tup.inj h)) λh1 h=> ?_
  refine aO (aaJ h) λh2 h=> ?_
  refine aO (aaJ h) λh3 h=> ?_
  rw[DV (V.str.inj h1),V.str.inj h2,V.int.inj h3,V.str.inj (aaJ h).1]
 | cell c out ins=>exact nomatch (aaJ (aaJ (aaJ (V.tup.inj h)).2).2).1
 | port=>exact nomatch h
 | wire=>exact nomatch h
theorem uU{α:Type}{f:α->V}{l:List α}(h:l.length<=1000): ∀st,bC "len" [.lst (l.map f)] st=ok (.int l.length) st:=λst=>(B1 (by rw[aae];exact xw h)).trans (by rw[aae])
section
variable{N:Nat}{sort:Int}{wires:List Str}{c0:AO}{pl po:List V}{decls rows:List It}{as:List Ag}
theorem Z6(W:zG wires)(hp:PL pl)(Pd:0<=sort/\sort<8)(FK:decls.length<=100)(uJ:rows.length<=100)(has:as.length<=100)(Nx: ∀it∈rows,nL it)(uM: ∀a∈as,a.it∈rows)(FT:aQ 0 po=true)(k4:bA 0 c0=true)(hN:200<=N)
  (H: ∀(f:Flt) (sort':Int) (ds bj:List It) (cF:List V),PL cF->ds.Perm decls->qN as rows f sort' bj->LG 21 N (mU (bt (f.again wires)) f.Oh sort' [] wires) (ES c0 cF (decls.map aU) (bj.map cQ) po [] [] Gy (ds.map aU))):
  LG 11 (N+10) (Gs (as.map Ag.v) sort wires) (LS c0 pl (decls.map aU) (rows.map cQ) po):=by
 refine cj (xN (xs:=decls.map aU) hp gE (by rw[aae];exact FK)) λys b8 dj kK kJ=> ?_
 refine ao (sC kK.symm decls rfl) ?_;rintro ds rfl me
 have kJ:=kJ 17 c0 [.lst (decls.map aU),.lst (rows.map cQ),.lst po] (.loc 2) (by rw[abq,k4];show(true&&(aQ 0 _&&(aQ 0 (rows.map cQ)&&(aQ 0 po&&true))))=true;rw[gE,oo,FT];rfl) rfl
 have BD:(ds.map aU).length<=1000:=by rw[aae,me.length_eq];exact zf FK
 have ty: ∀(pl bo:List V),gu true "list" [.lst (ds.map aU)] (LE c0 pl (decls.map aU) bo po)=ok (.loc 8) (ES c0 pl (decls.map aU) bo po [] [] Gy (ds.map aU)):=λpl bo=>DC (xs:=ds.map aU) (λ_=>rfl) BD
 have FV: ∀st,eQ (.lst (wires.map .str)) (.int (0:Nat)) st=ok (.str (wires.headD abM)) st:=fH (by rw[aae];have :=W.le;exact Mc this) (by cases wires with | nil=>exact absurd rfl W.ne | cons a r=>rfl)
 have hS:sort=0\/sort=1\/sort=2\/sort=3\/(4<=sort/\ ∀i:Int,i<=3-> ∀st,bk .Eq (.int sort) (.int i) st=ok false st):=by
  by_cases h:4<=sort
  ·exact .inr (.inr (.inr (.inr ⟨h,λi hi st=>by
    show ok (sort==i) st=_
    rw[beq_false_of_ne (X9 h hi)]⟩)))
  ·omega
 cases as with
 | nil=>
  have n7:LG 21 N (mU (bt (Flt.none.again wires)) Flt.none.Oh 7 [] wires) (ES c0 b8 (decls.map aU) (rows.map cQ) po [] [] Gy (ds.map aU)):=H .none 7 ds rows b8 dj me ⟨by decide,rfl⟩
  rcases hS with rfl | rfl | rfl | rfl | ⟨h4,hE⟩
  ·exact LG.seg (K:=200) [fV 0 kJ,fV 6 (ty b8 (rows.map cQ))] (by kernel_rfl) rfl hN (H .order 0 ds rows b8 dj me ⟨rfl,rfl⟩)
  ·exact LG.seg (K:=200) [fV 0 kJ,fV 6 (ty b8 (rows.map cQ))] (by kernel_rfl) rfl hN n7
  ·exact LG.seg (K:=200) [fV 0 kJ,fV 6 (ty b8 (rows.map cQ))] (by kernel_rfl) rfl hN n7
  ·exact LG.seg (K:=200) [fV 0 kJ,fF 4 FV,fV 6 (ty b8 (rows.map cQ))] (by kernel_rfl) rfl hN (H .mP 3 ds rows b8 dj me ⟨rfl,rfl⟩)
  ·have zI: ∀st,bk .In (.int sort) (.tup [.int 1,.int 2]) st=ok false st:=λst=>by
    rcases(by exact Yb Pd h4:sort=4\/sort=5\/sort=6\/sort=7) with rfl | rfl | rfl | rfl<;>kernel_rfl
   exact LG.seg (K:=200) [fV 0 kJ,no 3,fb zI,fb (hE 1 (by decide)),fb (hE 2 (by decide)),fb (hE 3 (by decide)),fV 6 (ty b8 (rows.map cQ))] (by kernel_rfl) rfl hN (H .none sort ds rows b8 dj me ⟨h4,rfl⟩)
 | cons a0 ar=>
  have nn: ∀st,bk .Eq (.lst ((a0::ar).map Ag.v)) (.lst []) st=ok false st:=λst=>if_pos (show((a0::ar).map Ag.v).length<=100000 by rw[aae];exact nz has)
  have IT:0<(a0::ar).length:=Nat.succ_pos _
  generalize a0::ar=as at*
  have PC:=uU (f:=Ag.v) (l:=as) (zf has)
  refine bu (lim:=as.length) dj ⟨by exact GD IT,by exact Qa has⟩ λi' dq qG TZ T1 K3=> ?_
  obtain⟨i,rfl⟩: ∃i:Nat,i'=i:=⟨i'.toNat,by exact ju TZ⟩
  have hi:i<as.length:=by exact vc T1
  have ha:as[i]∈as:=abS hi
  have dd:=K3 18 c0 [.lst (decls.map aU),.lst (rows.map cQ),.lst po]
  have sb: ∀st,eQ (.lst (as.map Ag.v)) (.int (i:Int)) st=ok (cQ as[i].it) st:=fH (by rw[aae];exact zf has) (by rw[aay,aaG hi];rfl)
  rcases hS with rfl | rfl | rfl | rfl | ⟨h4,hE⟩
  ·exact LG.seg (K:=200) [fV 0 kJ,fb nn,fV 6 (ty b8 (rows.map cQ))] (by kernel_rfl) rfl hN (H .order 0 ds rows b8 dj me ⟨rfl,rfl⟩)
  ·refine km (xI (st:=LS c0 dq (decls.map aU) (rows.map cQ) po) (n:=3) (rows:=rows) (v:=cQ as[i].it) rfl (LZ uJ) (aaH.mpr ⟨_,uM _ ha,rfl⟩) Nx) λit' bj hit mh mj Lf=> ?_
   cases MI (d:=as[i].d) (nm:=as[i].nm) (b:=as[i].b) (w:=as[i].w) hit
   exact LG.seg (K:=200) [fV 0 kJ,fb nn,fF 5 PC,fV 0 dd,fF 4 sb,fV 7 Lf,fV 6 (ty dq (bj.map cQ))] (by kernel_rfl) rfl hN (H (.y7 as[i]) 1 ds bj dq qG me ⟨rfl,ha,mj⟩)
  ·exact LG.seg (K:=200) [fV 0 kJ,fb nn,fF 5 PC,fV 0 dd,fF 4 sb,fV 6 (ty dq (rows.map cQ))] (by kernel_rfl) rfl hN (H (.twice as[i]) 2 ds rows dq qG me ⟨rfl,ha,rfl⟩)
  ·exact LG.seg (K:=200) [fV 0 kJ,fb nn,fF 4 FV,fV 6 (ty b8 (rows.map cQ))] (by kernel_rfl) rfl hN (H .mP 3 ds rows b8 dj me ⟨rfl,rfl⟩)
  ·exact LG.seg (K:=200) [fV 0 kJ,fb nn,fb (hE 1 (by decide)),fb (hE 2 (by decide)),fb (hE 3 (by decide)),fV 6 (ty b8 (rows.map cQ))] (by kernel_rfl) rfl hN (H .none sort ds rows b8 dj me ⟨h4,rfl⟩)
end
end Mine
namespace Mine
noncomputable def jV:It->Option (Bool×Str×Nat)
 | .port d nm n=>some (d,nm,(n+1).toNat)
 | _=>none
noncomputable def dw:It->List Str
 | .wire x r=>x::r
 | _=>[]
noncomputable def aZ:It->Option (Str×Int×Str)
 | .asg _ nm b w=>some (nm,b,w)
 | _=>none
noncomputable def bx:It->Option Cl
 | .cell c out ins=>some ⟨c,out,ins⟩
 | _=>none
noncomputable def gO(num:Str->Int)(nm:Str)(row:List Int)(a:Str×Int×Str):List Int:=if a.1=nm then row.set a.2.1.toNat (num a.2.2) else row
noncomputable def dz(num:Str->Int)(nm:Str)(w:Nat)(as:List (Str×Int×Str)):List Int:=as.foldl (gO num nm) (aaB w (-1))
noncomputable def kT(num:Str->Int)(c:Cl):V:=cW c.c (c.out,num c.out) (c.ins.map λw=>(w,num w))
noncomputable def sG(num:Str->Int)(as:List (Str×Int×Str))(p:Bool×Str×Nat):dA:=(p.1,p.2.1,dz num p.2.1 p.2.2 as)
structure Inv(E:List It)(s:Q):Prop where
 ah:s.ah=(E.filterMap jV).map (sG (aG s) (E.filterMap aZ))
 nets:s.nets=addQ [] (E.flatMap dw)
 cells:s.cells=(E.filterMap bx).map (kT (aG s))
 qY: ∀a∈E.filterMap aZ,a.1∈s.ah.map (·.2.1)
 ym: ∀a∈E.filterMap aZ,(bD s a.2.2).isSome=true
 Ko: ∀c∈E.filterMap bx,∀w∈c.out::c.ins,(bD s w).isSome=true
theorem Inv.nil:Inv [] Q0:=⟨rfl,rfl,rfl,λa h=>(jR h),λa h=>(jR h),λa h=>(jR h)⟩
theorem qV: ∀{a b:List Str} {l:List (Str×Int)},addQ l (a++b)=addQ (addQ l a) b
 | [],_,_=>rfl
 | x::a,b,l=>by show addQ (l++[(x,(l.length:Int)+2)]) (a++b)=_;rw[qV];rfl
theorem gZ{α:Type}{fs gs:List (Str×α)}{x:Str}{v:α}(h:fs.lookup x=some v):(fs++gs).lookup x=some v:=by
 induction fs with
 | nil=>cases h
 | cons p fs ih=>
  obtain⟨y,w⟩:=p
  rw[abl,aao]
  rw[aao] at h
  by_cases e:x=y
  ·subst e;simpa using h
  ·rw[beq_false_of_ne e] at h ⊢;exact ih h
theorem nQ: ∀{r:List Str} {l:List (Str×Int)} {x:Str} {v:Int},l.lookup x=some v->(addQ l r).lookup x=some v
 | [],_,_,_,h=>h
 | y::r,l,x,v,h=>nQ (r:=r) (gZ h)
theorem kz{s:Q}{it:It}{w:Str}{v:Int}(h:bD s w=some v):bD (it.step s) w=some v:=by
 cases it with
 | wire x r=>
  unfold bD at*
  split at h
  ·rename_i e;rw[if_pos e];exact h
  ·rename_i e
   rw[if_neg e]
   split at h
   ·rename_i e2;rw[if_pos e2];exact h
   ·rename_i e2;rw[if_neg e2];exact nQ h
 | _=>exact h
theorem oh{s:Q}{it:It}{w:Str}(h:(bD s w).isSome=true):aG (it.step s) w=aG s w:=by
 refine aj (aaX.mp h) λv hv=> ?_
 rw[gJ hv,gJ (kz hv)]
theorem vA{f g:Str->Int}{nm:Str}{w:Nat}{as:List (Str×Int×Str)}(h: ∀a∈as,f a.2.2=g a.2.2):dz f nm w as=dz g nm w as:=by
 unfold dz
 generalize aaB w (-1:Int)=row
 induction as generalizing row with
 | nil=>rfl
 | cons a as ih=>
  rw[abK,abK]
  have :gO f nm row a=gO g nm row a:=by unfold gO;rw[h a (by simp)]
  rw[this,ih λb hb=>h b (aai _ hb)]
theorem zu{f:Str->Int}{nm:Str}{w:Nat}{as:List (Str×Int×Str)}(h: ∀a∈as,a.1≠nm):dz f nm w as=aaB w (-1):=by
 unfold dz
 generalize aaB w (-1:Int)=row
 induction as generalizing row with
 | nil=>rfl
 | cons a as ih=>
  rw[abK]
  have :gO f nm row a=row:=by unfold gO;rw[if_neg (h a (by simp))]
  rw[this,ih λb hb=>h b (aai _ hb)]
theorem vm{f g:Str->Int}{as:List (Str×Int×Str)}(h: ∀a∈as,f a.2.2=g a.2.2):sG f as=sG g as:=by
 funext p;unfold sG;rw[vA h]
theorem yw{f g:Str->Int}{c:Cl}(h: ∀w∈c.out::c.ins,f w=g w):kT f c=kT g c:=by
 unfold kT
 rw[h _ (by simp),abe (f:=λw=>(w,f w)) (g:=λw=>(w,g w)) λw hw=>by rw[h w (aai _ hw)]]
theorem bz{α β:Type}{f:α->Option β}{E:List α}{x:α}:(E++[x]).filterMap f=E.filterMap f++(f x).toList:=by
 rw[abH];congr 1
theorem Inv.step{E:List It}{s:Q}{it:It}(I:Inv E s)(h:it.ok s):Inv (E++[it]) (it.step s):=by
 have Lb: ∀a∈E.filterMap aZ,aG (it.step s) a.2.2=aG s a.2.2:=λa ha=>oh (I.ym a ha)
 have OS: ∀c∈E.filterMap bx,kT (aG (it.step s)) c=kT (aG s) c:=λc hc=>yw λw hw=>oh (I.Ko c hc w hw)
 have pC:(E.filterMap bx).map (kT (aG (it.step s)))=s.cells:=by rw[I.cells];exact abe OS
 have BI:(E.filterMap jV).map (sG (aG (it.step s)) (E.filterMap aZ))=s.ah:=by rw[vm Lb];exact I.ah.symm
 have wO: ∀a∈E.filterMap aZ,(bD (it.step s) a.2.2).isSome=true:=λa ha=>by
  refine aj (aaX.mp (I.ym a ha)) λv hv=> ?_
  rw[kz hv];rfl
 have wR: ∀c∈E.filterMap bx,∀w∈c.out::c.ins,(bD (it.step s) w).isSome=true:=λc hc w hw=>by
  refine aj (aaX.mp (I.Ko c hc w hw)) λv hv=> ?_
  rw[kz hv];rfl
 cases it with
 | port d nm n=>
  have pA:(E++[It.port d nm n]).filterMap aZ=E.filterMap aZ:=by rw[bz];exact aav _
  have k4:(E++[It.port d nm n]).filterMap bx=E.filterMap bx:=by rw[bz];exact aav _
  refine⟨?_,?_,?_,?_,by rw[pA];exact wO,by rw[k4];exact wR⟩
  ·rw[pA,bz,aaA,BI]
   show s.ah++[(d,nm,aaB (n+1).toNat (-1))]=s.ah++[(d,nm,dz _ nm (n+1).toNat _)]
   rw[zu λa ha=> ?_]
   refine ae (I.qY a ha) λp hp e=> ?_
   rw[<-e];exact h.2.1 p hp
  ·rw[aaM];show s.nets=_;rw[I.nets];simp[dw]
  ·rw[k4];exact pC.symm
  ·rw[pA];intro a ha
   show a.1∈(s.ah++[_]).map _
   rw[aaA];exact aal.mpr (.inl (I.qY a ha))
 | wire x r=>
  have pA:(E++[It.wire x r]).filterMap aZ=E.filterMap aZ:=by rw[bz];exact aav _
  have k4:(E++[It.wire x r]).filterMap bx=E.filterMap bx:=by rw[bz];exact aav _
  have O7:(E++[It.wire x r]).filterMap jV=E.filterMap jV:=by rw[bz];exact aav _
  refine⟨?_,?_,?_,?_,by rw[pA];exact wO,by rw[k4];exact wR⟩
  ·rw[pA,O7];exact BI.symm
  ·rw[aaM,qV,<-I.nets];simp[dw,It.step]
  ·rw[k4];exact pC.symm
  ·rw[pA];exact I.qY
 | asg d nm b w=>
  have pA:(E++[It.asg d nm b w]).filterMap aZ=E.filterMap aZ++[(nm,b,w)]:=by rw[bz];rfl
  have k4:(E++[It.asg d nm b w]).filterMap bx=E.filterMap bx:=by rw[bz];exact aav _
  have O7:(E++[It.asg d nm b w]).filterMap jV=E.filterMap jV:=by rw[bz];exact aav _
  refine jj h ?_;clear h;rintro hb ⟨row,uK,_⟩ ⟨v,hv⟩ hw
  have enum:aG ((It.asg d nm b w).step s)=aG s:=rfl
  have Oj:((It.asg d nm b w).step s).ah.map (·.2.1)=s.ah.map (·.2.1):=by
   show(s.ah.map (d6 nm b (aG s w))).map _=_
   rw[aaN]
   refine abe λp _=> ?_
   show(d6 nm b (aG s w) p).2.1=p.2.1
   unfold d6;split<;>rfl
  refine⟨?_,?_,?_,?_,?_,by rw[k4];exact wR⟩
  ·rw[pA,O7,enum]
   show s.ah.map (d6 nm b (aG s w))=_
   conv=>lhs;rw[I.ah]
   rw[aaN]
   refine abe λp _=> ?_
   show d6 nm b (aG s w) (sG (aG s) (E.filterMap aZ) p)=sG (aG s) (E.filterMap aZ++[(nm,b,w)]) p
   unfold sG d6 dz
   rw[List.foldl_append]
   show(if p.2.1=nm then _ else _)=(p.1,p.2.1,gO (aG s) p.2.1 _ (nm,b,w))
   unfold gO
   by_cases e:p.2.1=nm
   ·rw[if_pos e,if_pos e.symm]
   ·rw[if_neg e,if_neg (Ne.symm e)]
  ·rw[aaM];show s.nets=_;rw[I.nets];simp[dw]
  ·rw[k4];exact pC.symm
  ·rw[pA,Oj];intro a ha
   rcases aal.mp ha with h1 | h1
   ·exact I.qY a h1
   ·simp only[aat,abh,or_false] at h1
    subst h1;exact aaH.mpr ⟨_,uK,rfl⟩
  ·rw[pA];intro a ha
   rcases aal.mp ha with h1 | h1
   ·exact wO a h1
   ·simp only[aat,abh,or_false] at h1
    subst h1
    show(bD s w).isSome=true
    rw[hv];rfl
 | cell c out ins=>
  have pA:(E++[It.cell c out ins]).filterMap aZ=E.filterMap aZ:=by rw[bz];exact aav _
  have k4:(E++[It.cell c out ins]).filterMap bx=E.filterMap bx++[⟨c,out,ins⟩]:=by rw[bz];rfl
  have O7:(E++[It.cell c out ins]).filterMap jV=E.filterMap jV:=by rw[bz];exact aav _
  refine⟨?_,?_,?_,?_,by rw[pA];exact wO,?_⟩
  ·rw[pA,O7];exact BI.symm
  ·rw[aaM];show s.nets=_;rw[I.nets];simp[dw]
  ·rw[k4,aaA]
   show s.cells++[_]=_
   rw[pC];rfl
  ·rw[pA];exact I.qY
  ·rw[k4];intro z hz
   rcases aal.mp hz with h1 | h1
   ·exact wR z h1
   ·simp only[aat,abh,or_false] at h1
    subst h1
    intro w hw
    refine aj (h.2.1 w hw) λv hv=> ?_
    show(bD s w).isSome=true
    rw[hv];rfl
noncomputable def jt(s:Q)(x:Str):Option V:=match bD s x with
 | some v=>some (.int v)
 | none=>if x∈s.ah.map (·.2.1) then some (.int (-1)) else none
structure dB(nu:List (Str×V))(s:Q):Prop where
 look: ∀x,nu.lookup x=jt s x
 len:nu.length=2+s.nets.length+s.ah.length
 bf:dg 0 nu=true
theorem lookup_putK{k x:Str}{v:V}: ∀{fs:List (Str×V)},(putK k v fs).lookup x=if x=k then some v else fs.lookup x
 | []=>by
  show acM x [(k,v)]=_
  rw[aao]
  by_cases e:x=k
  ·rw[if_pos e,e];simp
  ·rw[if_neg e,beq_false_of_ne e]
 | (j,w)::fs=>by
  show acM x (if j==k then(k,v)::fs else(j,w)::putK k v fs)=_
  by_cases e:j=k
  ·subst e
   rw[if_pos (by simp),aao,aao]
   by_cases e2:x=j
   ·rw[if_pos e2,e2];simp
   ·rw[if_neg e2,beq_false_of_ne e2]
  ·rw[if_neg (by simpa using e),aao,aao,lookup_putK (fs:=fs)]
   by_cases e2:x=j
   ·subst e2;simp[e]
   ·rw[beq_false_of_ne e2]
theorem dB.start:dB Gy Q0:=⟨λx=>by
 unfold jt bD Gy
 rw[aao,aao]
 by_cases e0:x=q "0"
 ·subst e0;rw[if_pos rfl];simp
 ·rw[if_neg e0,beq_false_of_ne e0]
  by_cases e1:x=q "1"
  ·subst e1;rw[if_pos rfl];simp
  ·rw[if_neg e1,beq_false_of_ne e1];simp[Q0],rfl,rfl⟩
theorem dB.Sx{nu:List (Str×V)}{s:Q}(h:dB nu s){x:Str}(hx:bD s x=none)(hp: ∀p∈s.ah,p.2.1≠x):nu.lookup x=none:=by
 rw[h.look];unfold jt;rw[hx]
 have :x∉s.ah.map (·.2.1):=λhm=>by
  refine ae hm λp dj e=> ?_
  exact hp p dj e
 simp[this]
theorem sL{fs:List (Str×V)}{x:Str}{v:V}(h:fs.lookup x=none):(putK x v fs).length=fs.length+1:=by rw[dM h];simp
theorem dB.port{nu:List (Str×V)}{s:Q}{d:Bool}{nm:Str}{n:Int}(h:dB nu s)(hi:(It.port d nm n).ok s)(h0:nm≠q "0"/\nm≠q "1"):dB (putK nm (.int (-1)) nu) ((It.port d nm n).step s):=by
 have hn:bD s nm=none:=by unfold bD;rw[if_neg h0.1,if_neg h0.2];exact hi.2.2.1
 refine⟨λx=> ?_,?_,by rw[dM (h.Sx hn hi.2.1),gb,h.bf];rfl⟩
 ·rw[lookup_putK]
  have e: ∀x,bD ((It.port d nm n).step s) x=bD s x:=λx=>rfl
  by_cases hx:x=nm
  ·rw[if_pos hx,hx];unfold jt;rw[e,hn]
   have :nm∈((It.port d nm n).step s).ah.map (·.2.1):=aaH.mpr ⟨(d,nm,aaB (n+1).toNat (-1)),aal.mpr (.inr (by simp)),rfl⟩
   simp only[this,if_true]
  ·rw[if_neg hx,h.look];unfold jt;rw[e]
   have :(x∈((It.port d nm n).step s).ah.map (·.2.1))<->x∈s.ah.map (·.2.1):=by
    show x∈(s.ah++[(d,nm,aaB (n+1).toNat (-1))]).map _<->_
    rw[aaA,aal]
    simp[hx]
   simp only[this]
 ·rw[sL (h.Sx hn hi.2.1),h.len]
  show _=2+s.nets.length+(s.ah++[_]).length
  simp;exact Yc
noncomputable def addW(s:Q)(x:Str):Q:={s with nets:=s.nets++[(x,(s.nets.length:Int)+2)]}
theorem dB.wire{nu:List (Str×V)}{s:Q}{x:Str}(h:dB nu s)(hx:s.nets.lookup x=none)(hp: ∀p∈s.ah,p.2.1≠x)(h0:x≠q "0"/\x≠q "1"):dB (putK x (.int (2+s.nets.length)) nu) (addW s x):=by
 have hn:bD s x=none:=by unfold bD;rw[if_neg h0.1,if_neg h0.2];exact hx
 refine⟨λy=> ?_,?_,by rw[dM (h.Sx hn hp),gb,h.bf];rfl⟩
 ·rw[lookup_putK]
  by_cases hy:y=x
  ·subst hy
   rw[if_pos rfl];unfold jt
   have :bD (addW s y) y=some ((s.nets.length:Int)+2):=by
    unfold bD;rw[if_neg h0.1,if_neg h0.2]
    show(s.nets++[_]).lookup y=_
    have e: ∀{fs gs:List (Str×Int)},fs.lookup y=none->(fs++gs).lookup y=gs.lookup y:=by
     intro fs gs h
     induction fs with
     | nil=>rfl
     | cons p fs ih=>
      obtain⟨z,v⟩:=p
      rw[abl,aao]
      rw[aao] at h
      by_cases e:y=z
      ·subst e;simp at h
      ·rw[beq_false_of_ne e] at h ⊢;exact ih h
    rw[e hx];simp
   rw[this,Int.add_comm]
  ·rw[if_neg hy,h.look]
   have :bD (addW s x) y=bD s y:=by
    unfold bD
    split
    ·rfl
    ·split
     ·rfl
     ·show(s.nets++[_]).lookup y=_
      cases hl:s.nets.lookup y with
      | some v=>exact gZ hl
      | none=>
       have e: ∀{fs gs:List (Str×Int)},fs.lookup y=none->(fs++gs).lookup y=gs.lookup y:=by
        intro fs gs h
        induction fs with
        | nil=>rfl
        | cons p fs ih=>
         obtain⟨z,v⟩:=p
         rw[abl,aao]
         rw[aao] at h
         by_cases e:y=z
         ·subst e;simp at h
         ·rw[beq_false_of_ne e] at h ⊢;exact ih h
       rw[e hl,aao,beq_false_of_ne hy];rfl
   unfold jt;rw[this];rfl
 ·rw[sL (h.Sx hn hp),h.len]
  show _=2+(s.nets++[_]).length+s.ah.length
  simp;exact Yd
end Mine
namespace Mine
theorem jm{ks:List Str}: ∀{ws:List Str},ks.Nodup->ws.Nodup->(∀k∈ks,k∈ws)->(ws.filter λw=>decide (w∈ks)).length=ks.length:=by
 induction ks with
 | nil=>intro ws _ _ _;simp
 | cons k ks ih=>
  intro ws hk hw hs
  rw[aaK] at hk
  have hkw:=hs k (by simp)
  have hp:=List.perm_cons_erase hkw
  have yV:(k::ws.erase k).Nodup:=hp.nodup_iff.mp hw
  rw[aaK] at yV
  rw[(hp.filter _).length_eq,abj (by simp)]
  have e:(ws.erase k).filter (λw=>decide (w∈k::ks))=(ws.erase k).filter λw=>decide (w∈ks):=by
   refine acJ λx hx=> ?_
   have :x≠k:=λe=>yV.1 (e▸hx)
   simp[this]
  rw[e,aan,ih hk.2 yV.2 (λz hz=> ?_),aan]
  have hzk:z≠k:=λe=>hk.1 (e▸hz)
  exact(List.mem_erase_of_ne hzk).mpr (hs z (aai _ hz))
structure Apart(wires:List Str)(s:Q):Prop where
 nd:wires.Nodup
 n0: ∀x∈wires,x≠q "0"/\x≠q "1"
 knd:(s.nets.map (·.1)).Nodup
 Lu: ∀x∈s.nets.map (·.1),x∈wires
 Jk: ∀p∈s.ah,p.2.1∉wires
theorem bQ{α:Type}{x:Str}: ∀{l:List (Str×α)},(l.lookup x).isSome=true<->x∈l.map (·.1)
 | []=>by simp
 | (y,v)::l=>by
  rw[aao]
  by_cases e:x=y
  ·subst e;simp
  ·rw[beq_false_of_ne e,aaq,aat]
   simp only[bQ (l:=l)]
   exact⟨λh=> .inr h,λh=>h.resolve_left e⟩
theorem pB{α:Type}{x:Str}{l:List (Str×α)}:(l.map (·.1)).contains x=(l.lookup x).isSome:=by
 rw[ac8,bQ];simp
theorem Apart.has{wires:List Str}{s:Q}{nu:List (Str×V)}(A:Apart wires s)(N:dB nu s){x:Str}(hx:x∈wires):(nu.map (·.1)).contains x=decide (x∈s.nets.map (·.1)):=by
 rw[pB,N.look]
 unfold jt bD
 rw[if_neg (A.n0 x hx).1,if_neg (A.n0 x hx).2]
 cases h:s.nets.lookup x with
 | some v=>rw[decide_eq_true (bQ.mp (by rw[h];rfl))];rfl
 | none=>
  have : ¬x∈s.ah.map (·.2.1):=λhm=>by
   refine ae hm λp hp e=> ?_
   exact A.Jk p hp (e▸hx)
  have h2: ¬x∈s.nets.map (·.1):=λhm=>by
   have :=bQ.mpr hm
   rw[h] at this;cases this
  rw[decide_eq_false h2]
  simp[this]
section
variable{s:Q}{wires:List Str}
theorem Apart.add{x:Str}(A:Apart wires s)(hx:x∈wires)(hn:s.nets.lookup x=none):Apart wires (addW s x):=by
 have hk:x∉s.nets.map (·.1):=λhm=>by have :=bQ.mpr hm;rw[hn] at this;cases this
 refine⟨A.nd,A.n0,?_,?_,A.Jk⟩
 ·show((s.nets++[(x,(s.nets.length:Int)+2)]).map (·.1)).Nodup
  rw[aaA,aaQ]
  exact⟨A.knd,by simp,λa ha b hb=>by simp at hb;subst hb;exact λe=>hk (e▸ha)⟩
 ·show∀y∈(s.nets++[(x,(s.nets.length:Int)+2)]).map (·.1),y∈wires
  rw[aaA]
  intro y hy
  rcases aal.mp hy with h | h
  ·exact A.Lu y h
  ·simp at h;exact h▸hx
end
noncomputable def isDecl:It->Prop
 | .port _ _ _=>True
 | .wire _ _=>True
 | _=>False
noncomputable def pd(wires:List Str):It->Prop
 | .port _ nm _=>nm≠q "0"/\nm≠q "1"/\nm∉wires
 | .wire x r=> ∀y∈x::r,y∈wires
 | _=>False
theorem Apart.addQ{wires:List Str}: ∀{r:List Str} {s:Q},Apart wires s->r.Nodup->(∀y∈r,y∈wires/\s.nets.lookup y=none)->Apart wires {s with nets:=addQ s.nets r}
 | [],_,A,_,_=>A
 | x::r,s,A,nd,hy=>by
  rw[aaK] at nd
  refine aO (hy x (by simp)) λPm Sq=> ?_
  refine Apart.addQ (r:=r) (s:=addW s x) (A.add Pm Sq) nd.2 (λy NA=> ?_)
  refine aO (hy y (aai _ NA)) λh1 h2=> ?_
  refine⟨h1,?_⟩
  show(s.nets++[(x,(s.nets.length:Int)+2)]).lookup y=none
  cases h3:(s.nets++[(x,(s.nets.length:Int)+2)]).lookup y with
  | none=>rfl
  | some v=>
   have :y∈(s.nets++[(x,(s.nets.length:Int)+2)]).map (·.1):=bQ.mp (by rw[h3];rfl)
   rw[aaA] at this
   rcases aal.mp this with h | h
   ·have :=bQ.mpr h;rw[h2] at this;cases this
   ·simp at h;subst h;exact absurd NA nd.1
theorem Apart.step{wires:List Str}{s:Q}{it:It}(A:Apart wires s)(hf:pd wires it)(mi:it.ok s):Apart wires (it.step s):=by
 cases it with
 | port d nm n=>
  refine⟨A.nd,A.n0,A.knd,A.Lu,?_⟩
  intro p hp
  rcases aal.mp (show p∈s.ah++[(d,nm,aaB (n+1).toNat (-1))] from hp) with h | h
  ·exact A.Jk p h
  ·simp at h;subst h;exact hf.2.2
 | wire x r=>exact A.addQ mi.1 λy hy=>⟨hf y hy,(mi.2.1 y hy).1⟩
 | asg=>exact hf.elim
 | cell=>exact hf.elim
end Mine
namespace Mine
noncomputable def iO:Stmt:=bE aX.body 21
noncomputable def dH:Stmt:=bE (bG (bE (bG iO 0) 1) 0) 1
noncomputable def we:Expr:=kX (uw (bE (bG (bE (bG dH 0) 0) 0) 0)) [1,1]
noncomputable def xl(ag du:V)(pc:List Tk)(sort:Int)(tx:List Tk)(wires:List Str):Ev:=mU ag du sort tx wires++[(q "pieces",bt pc)]
noncomputable def Ll(nu:List (Str×V))(v:V):Bool:=match v with
 | .str x=>(nu.map (·.1)).contains x
 | _=>false
theorem qx{ts:List Tk}{i:Nat}{p:Tk}(hl:ts.length<=90000)(h:ts[i]? =some p): ∀st,eQ (bt ts) (.int i) st=ok (gR p) st:=λst=>j1 (xs:=ts.map gR) rfl (by rw[aae];exact o4 hl) (by rw[aay,h];rfl)
section
variable{c0:AO}{pl de bo po sh re:List V}{nu:List (Str×V)}{s:Q}{ag du:V}{sort:Int}{wires:List Str}{tx pc:List Tk}
theorem GK{st:List AO}(W:zG wires)(A:Apart wires s)(N:dB nu s)(nW:st[7]? =some (.aF nu)):Gives aA (λj m=>bH TT CL j aA false m st we) 400 [(q "wires",.lst (wires.map .str)),(q "numbers",.loc 7)] (.lst ((wires.filter λw=>decide (w∈s.nets.map (·.1))).map .str)) st:=λn hn=>by
 have hl:=W.le
 have hle:(wires.filter λw=>decide (w∈s.nets.map (·.1))).length<=wires.length:=abd _ _
 have lp:=oX (cl:=CL) (F:=aA) (e:=we) (l:=[(q "wires",.lst (wires.map .str)),(q "numbers",.loc 7)]) (st:=st) (src:= .lst (wires.map .str)) (g:=id) (p:=Ll nu) (by kernel_rfl) (by kernel_rfl) (λi=>dJ (xs:=wires.map .str) (by rw[aae];exact Ye hl)) (by rw[aae];exact Yg hl) (λv hv=>by
  refine ae hv ?_;rintro x hx rfl
  exact⟨[fB (pJ (x:=x) nW)],by kernel_rfl⟩) (λv hv _=>by
  refine ae hv ?_;rintro x hx rfl
  exact⟨[],by kernel_rfl⟩) _ [] [] rfl (aaw _)
 rw[aaP,List.map_id,adb,aae,show wires.filter (Ll nu∘V.str)=wires.filter λw=>decide (w∈s.nets.map (·.1)) from acJ λx hx=>A.has N hx] at lp
 exact dE (mu:=false) (fs:=[]) (by kernel_rfl) (by kernel_rfl) (by kernel_rfl) (nA) lp (if_pos (by rw[aae];exact Yh hl hle)) n (Yi hn hl)
theorem mO(W:zG wires)(Um: ∃r,pc=(q "key",qs "wire")::r/\r.length<=900){full:List Str}(OY:full.length<=100): ∀(r pre:List Str) (s:Q) (nu:List (Str×V)),full=pre++r->Apart wires s->dB nu s->r.Nodup->(∀y∈r,y∈wires/\s.nets.lookup y=none)->s.nets.length+r.length<=100->s.ah.length<=100->
  ∃hY,dB hY {s with nets:=addQ s.nets r}/\bl aA (λj m=>cP TT CL j aA (kM dH) (bG dH 0) (cy full) pre.length m (ES c0 pl de bo po (s.ah.map dQ) sh nu re)) (r.length+1001) (xl ag du pc sort tx wires) (.go .next (xl ag du pc sort tx wires) (ES c0 pl de bo po (s.ah.map dQ) sh hY re))
 | [],pre,s,nu,he,A,N,_,_,_,_=>⟨nu,N,cz (by unfold cy;rw[dJ (by rw[aae];exact nz OY),he,aav,aaS (by rw[aae];exact aaw _)])⟩
 | x::r,pre,s,nu,he,A,N,nd,hy,Nr,gH=>by
  refine aO (hy x aak) λPm Sq=> ?_
  rw[aaK] at nd
  rw[aan] at Nr
  have Ui:=N.len
  have hlen:(wires.filter λw=>decide (w∈s.nets.map (·.1))).length=s.nets.length:=by rw[jm A.knd A.nd A.Lu,aae]
  have hW:=W.le
  have ln: ∀st,bC "len" [.lst ((wires.filter λw=>decide (w∈s.nets.map (·.1))).map .str)] st=ok (.int (s.nets.length:Nat)) st:=λst=>(uU (f:=V.str) (by rw[hlen];exact Yj Nr) st).trans (by rw[hlen])
  have N':=N.wire (x:=x) Sq (λp hp e=>A.Jk p hp (e▸Pm)) (A.n0 x Pm)
  refine ao (mO W Um OY r (pre++[x]) (addW s x) _ (by rw[he,aax];rfl) (A.add Pm Sq) N' nd.2 (λy NA=>by
   obtain⟨h1,h2⟩:=hy y (aai _ NA)
   refine⟨h1,?_⟩
   show(s.nets++[(x,(s.nets.length:Int)+2)]).lookup y=none
   cases h3:(s.nets++[(x,(s.nets.length:Int)+2)]).lookup y with
   | none=>rfl
   | some v=>
    have :y∈(s.nets++[(x,(s.nets.length:Int)+2)]).map (·.1):=bQ.mp (by rw[h3];rfl)
    rw[aaA] at this
    rcases aal.mp this with h | h
    ·have :=bQ.mpr h;rw[h2] at this;cases this
    ·rw[abb.mp h] at NA;exact absurd NA nd.1) (by show(s.nets++[_]).length+_<=_;rw[aag,aaF];exact o60 Nr) gH) λhY N2 go=> ?_
  refine⟨hY,N2,?_⟩
  rw[aag] at go
  refine ao Um ?_;clear Um;rintro tr rfl htr
  exact eM (K:=1000) (q:=xl ag du ((q "key",qs "wire")::tr) sort tx wires) (l2:=xl ag du ((q "key",qs "wire")::tr) sort tx wires++[(q "name",.str x)]) (v:= .str x) (by unfold cy;rw[dJ (by rw[aae];exact nz OY),he,aaA,aau (by rw[aae];exact aaw _),aae,abo];rfl) (by kernel_rfl)
   [fF 4 (qx (ts:=(q "key",qs "wire")::tr) (i:=0) (by rw[aan];exact Yk htr) rfl),fG (GK (st:=ES c0 pl de bo po (s.ah.map dQ) sh nu re) W A N rfl),fF 5 ln,fS 10 (fh (n:=7) (fs:=nu) (x:=x) (v:= .int (2+(s.nets.length:Nat))) (st:=ES c0 pl de bo po (s.ah.map dQ) sh nu re) rfl (Yl Nr gH Ui))] (by kernel_rfl) (aaD (by decide) (aaI 1001 _)) go
theorem uX{it:It}(W:zG wires)(A:Apart wires s)(N:dB nu s)(hq:j9 s)(rS:pd wires it)(mi:it.ok s)(hit:it.text.length<=900):
  ∃hY,dB hY (it.step s)/\bl aA (λj m=>cP TT CL j aA (kM dH) (bG dH 0) (cy (namesOf it)) 0 m (ES c0 pl de bo po (s.ah.map dQ) sh nu re)) 1101 (xl ag du it.text sort tx wires) (.go .next (xl ag du it.text sort tx wires) (ES c0 pl de bo po ((it.step s).ah.map dQ) sh hY re)):=by
 have yT:=hq.lp
 have hln:=hq.ln
 cases it with
 | port d nm v=>
  refine bM rS λh0 h1 hnw=> ?_;clear rS
  refine⟨_,N.port mi ⟨h0,h1⟩,?_⟩
  have e:((It.port d nm v).step s).ah.map dQ=s.ah.map dQ++[.str nm]:=by
   show(s.ah++[(d,nm,aaB (v+1).toNat (-1))]).map dQ=_
   rw[aaA];rfl
  rw[e]
  have Ui:=N.len
  have sd:=fh (n:=7) (fs:=nu) (x:=nm) (v:= .int (-1)) (st:=ES c0 pl de bo po (s.ah.map dQ) sh nu re) rfl (Ym yT hln Ui)
  have ap:=bW (n:=5) (st:=ES c0 pl de bo po (s.ah.map dQ) sh (putK nm (.int (-1)) nu) re) (ys:=s.ah.map dQ) (v:= .str nm) rfl (by rw[aae];exact Yn yT)
  have sb:=qx (ts:=(It.port d nm v).text) (i:=0) (p:=(q "key",qs (cu d))) (Yo hit) rfl
  have nx:fq (ES c0 pl de bo po (s.ah.map dQ) sh nu re) (cy [nm]) 0=some (some (.str nm)):=rfl
  have en:bl aA (λj m=>cP TT CL j aA (kM dH) (bG dH 0) (cy [nm]) 1 m (ES c0 pl de bo po (s.ah.map dQ++[.str nm]) sh (putK nm (.int (-1)) nu) re)) 1100 (xl ag du (It.port d nm v).text sort tx wires) (.go .next (xl ag du (It.port d nm v).text sort tx wires) (ES c0 pl de bo po (s.ah.map dQ++[.str nm]) sh (putK nm (.int (-1)) nu) re)):=cz rfl
  generalize (It.port d nm v).text=pc at sb en hit ⊢
  have aa: ∀st,bk .Eq (qs (cu d)) (qs "wire") st=ok false st:=λst=>by cases d<;>kernel_rfl
  exact eM (K:=1000) (q:=xl ag du pc sort tx wires) (l2:=xl ag du pc sort tx wires++[(q "name",.str nm)]) nx (by kernel_rfl) [fF 4 sb,fb aa,fS 10 sd,fV 7 ap] (by kernel_rfl) (by decide) en
 | wire x r=>
  have hw:=mi.2.2
  refine ao (mO (c0:=c0) (pl:=pl) (de:=de) (bo:=bo) (po:=po) (sh:=sh) (re:=re) (ag:=ag) (du:=du) (sort:=sort) (tx:=tx) (pc:=(It.wire x r).text) (full:=x::r) W ⟨eg ((x::r).map cI)++[semi],rfl,by have :(It.wire x r).text.length=(eg ((x::r).map cI)++[semi]).length+1:=rfl;exact Yp hit this⟩ (by rw[aan];exact Yq hw) (x::r) [] s nu rfl A N mi.1 (λy hy=>⟨rS y hy,(mi.2.1 y hy).1⟩) (by rw[aan];exact Yr hw) (Qv yT)) λhY h1 h2=> ?_
  exact⟨hY,h1,h2.le (by rw[aan];exact Ys hw)⟩
 | asg=>exact rS.elim
 | cell=>exact rS.elim
end
end Mine
namespace Mine
noncomputable def ng:It->List Str
 | .port _ nm _=>[nm]
 | .wire x r=>x::r
 | _=>[]
noncomputable def yl:It->Option (Str×Int)
 | .asg _ nm b _=>some (nm,b)
 | _=>none
noncomputable def jZ(it:It):List V:=match it with
 | .asg _ _ _ _=>[cG it]
 | .cell _ _ _=>[cG it]
 | _=>[]
def pX(wires:List Str)(w:Str):Prop:=w=q "0"\/w=q "1"\/w∈wires
structure qD(wires:List Str)(L:List It):Prop where
 its: ∀it∈L,nL it
 dn:(L.flatMap ng).Nodup
 fit: ∀it∈L,isDecl it->pd wires it
 Ak:(L.filterMap yl).Nodup
 uj: ∀d nm b w,It.asg d nm b w∈L->(∃n,It.port d nm n∈L/\b.toNat<(n+1).toNat)/\pX wires w
 AA: ∀c out ins,It.cell c out ins∈L-> ∀w∈out::ins,pX wires w
 len:L.length<=16
 D9:(L.flatMap dw).length<=10
 wall: ∀w∈wires,∃it∈L,w∈dw it
theorem qD.perm{wires:List Str}{L L':List It}(h:qD wires L)(p:L'.Perm L):qD wires L' where
 its:=λit hi=>h.its it (p.mem_iff.mp hi)
 dn:=(p.flatMap_right ng).nodup_iff.mpr h.dn
 fit:=λit hi=>h.fit it (p.mem_iff.mp hi)
 Ak:=(p.filterMap yl).nodup_iff.mpr h.Ak
 uj:=λd nm b w hi=>by
  refine aO (h.uj d nm b w (p.mem_iff.mp hi)) ?_;rintro ⟨n,h1,h2⟩ h3
  exact⟨⟨n,p.mem_iff.mpr h1,h2⟩,h3⟩
 AA:=λc out ins hi=>h.AA c out ins (p.mem_iff.mp hi)
 len:=by rw[p.length_eq];exact h.len
 D9:=by rw[(p.flatMap_right dw).length_eq];exact h.D9
 wall:=λw hw=>by
  refine ao (h.wall w hw) λit h1 h2=> ?_
  exact⟨it,p.mem_iff.mpr h1,h2⟩
theorem n6: ∀{r:List Str} {l:List (Str×Int)},(addQ l r).map (·.1)=l.map (·.1)++r
 | [],_=>by simp[addQ]
 | x::r,l=>by show(addQ (l++[(x,(l.length:Int)+2)]) r).map _=_;rw[n6];simp
theorem gp{E:List It}{s:Q}(I:Inv E s):s.nets.map (·.1)=E.flatMap dw:=by rw[I.nets,n6];rfl
theorem iQ{E:List It}{s:Q}(I:Inv E s){p:dA}(hp:p∈s.ah): ∃n,It.port p.1 p.2.1 n∈E/\p.2.2=dz (aG s) p.2.1 (n+1).toNat (E.filterMap aZ):=by
 rw[I.ah] at hp
 refine ae hp ?_;rintro t ht rfl
 refine iA ht λit hit he=> ?_
 cases it with
 | port d nm n=>simp only[jV,ab3] at he;subst he;exact⟨n,hit,rfl⟩
 | _=>cases he
theorem vn{E:List It}{s:Q}(I:Inv E s){d:Bool}{nm:Str}{n:Int}(h:It.port d nm n∈E):(d,nm,dz (aG s) nm (n+1).toNat (E.filterMap aZ))∈s.ah:=by
 rw[I.ah]
 exact aaH.mpr ⟨(d,nm,(n+1).toNat),aba.mpr ⟨_,h,rfl⟩,rfl⟩
theorem H5{it:It}{y:Str}(h:y∈dw it):y∈ng it:=by cases it<;>simp_all [dw,ng]
theorem rC: ∀{L:List It} {a b:It} {x:Str},(L.flatMap ng).Nodup->a∈L->b∈L->x∈ng a->x∈ng b->a=b
 | [],_,_,_,_,h,_,_,_=>by cases h
 | c::L,a,b,x,nd,ha,hb,UA,UB=>by
  rw[aaL,aaQ] at nd
  rcases aat.mp ha with rfl | yM<;>rcases aat.mp hb with rfl | Ec
  ·rfl
  ·exact absurd rfl (nd.2.2 x UA x (aa8.mpr ⟨b,Ec,UB⟩))
  ·exact absurd rfl (nd.2.2 x UB x (aa8.mpr ⟨a,yM,UA⟩))
  ·exact rC nd.2.1 yM Ec UA UB
theorem sU{f:Str->Int}{nm:Str}{w b:Nat}{as:List (Str×Int×Str)}(hb:b<w)(h: ∀a∈as,a.1=nm->a.2.1.toNat≠b):(dz f nm w as)[b]? =some (-1):=by
 unfold dz
 have h0:(aaB w (-1:Int))[b]? =some (-1):=by rw[List.getElem?_replicate,if_pos hb]
 generalize aaB w (-1:Int)=row at h0
 induction as generalizing row with
 | nil=>exact h0
 | cons a as ih=>
  rw[abK]
  refine ih (λc hc=>h c (aai _ hc)) _ ?_
  unfold gO
  split
  ·rename_i e
   rw[List.getElem?_set_ne (h a (by simp) e)];exact h0
  ·exact h0
section
variable{wires:List Str}{E R:List It}{s:Q}{nu:List (Str×V)}{it:It}
theorem jD(L:qD wires (E++it::R)){x y:Str}(hx:x∈E.flatMap ng)(hy:y∈ng it):x≠y:=by
 have nd:=L.dn
 rw[aaM,aaL,aaQ] at nd
 exact nd.2.2 x hx y (aal.mpr (.inl hy))
theorem ly{α:Type}{l:List (Str×α)}{x:Str}(h:x∉l.map (·.1)):l.lookup x=none:=by
 cases e:l.lookup x with
 | none=>rfl
 | some v=>exact absurd (bQ.mp (by rw[e];rfl)) h
theorem Ff(L:qD wires (E++it::R))(I:Inv E s)(hd:isDecl it):it.ok s:=by
 have hE:E.length<=16:=by have :=L.len;simp at this;exact Yt this
 have hH:s.ah.length<=16:=by rw[I.ah,aae];exact aaD (aca _ _) hE
 have qH: ∀p∈s.ah,p.2.1∈E.flatMap ng:=λp hp=>by
  refine ao (iQ I hp) λn h _=> ?_
  exact aa8.mpr ⟨_,h,by simp[ng]⟩
 have hnk: ∀x∈s.nets.map (·.1),x∈E.flatMap ng:=λx hx=>by
  rw[gp I] at hx
  refine ao (aa8.mp hx) λi h1 h2=> ?_
  exact aa8.mpr ⟨i,h1,H5 h2⟩
 have hits:=L.its it (by simp)
 cases it with
 | port d nm n=>
  refine⟨hits.2,λp hp=>jD L (qH p hp) (by simp[ng]),ly λhm=> ?_,by exact Yu hH⟩
  exact absurd rfl (jD L (hnk nm hm) (by simp[ng]))
 | wire x r=>
  have hw:s.nets.length+(r.length+1)<=10:=by
   have h1:s.nets.length=(E.flatMap dw).length:=by rw[<-gp I,aae]
   have h2:=L.D9
   rw[aaM,aaL,aag,aag,<-h1] at h2
   have h3:(dw (.wire x r)).length=r.length+1:=rfl
   exact Yv h2 h3
  refine⟨?_,λy hy=>⟨ly λhm=>absurd rfl (jD L (hnk y hm) hy),λp hp=>jD L (qH p hp) hy⟩,by exact Yw hw⟩
  have nd:=L.dn
  rw[aaM,aaL,aaQ] at nd
  exact(aaQ.mp nd.2.1).1
 | asg=>exact hd.elim
 | cell=>exact hd.elim
noncomputable def lC(nu:List (Str×V))(it:It):Bool:=(namesOf it).all λx=>(nu.map (·.1)).contains x
theorem wQ(N:dB nu s){x:Str}(h:(nu.map (·.1)).contains x=true):(∃v,bD s x=some v)\/x∈s.ah.map (·.2.1):=by
 rw[pB,N.look] at h
 unfold jt at h
 cases hq:bD s x with
 | some v=>exact .inl ⟨v,rfl⟩
 | none=>
  rw[hq] at h
  by_cases hm:x∈s.ah.map (·.2.1)
  ·exact .inr hm
  ·simp only[if_neg hm] at h;cases h
theorem sa(A:Apart wires s)(P: ∀p∈s.ah,p.2.1≠q "0"/\p.2.1≠q "1")(N:dB nu s){x:Str}(hx:pX wires x)(h:(nu.map (·.1)).contains x=true): ∃v,bD s x=some v:=by
 rcases wQ N h with h1 | h1
 ·exact h1
 ·refine ae h1 λp hp e=> ?_
  rcases hx with h2 | h2 | h2
  ·exact absurd (e.trans h2) (P p hp).1
  ·exact absurd (e.trans h2) (P p hp).2
  ·exact absurd (e▸h2) (A.Jk p hp)
theorem Mq(L:qD wires (E++R))(I:Inv E s): ∀p∈s.ah,p.2.1≠q "0"/\p.2.1≠q "1":=λp hp=>by
 refine ao (iQ I hp) λn h _=> ?_
 have :=L.fit _ (aal.mpr (.inl h)) trivial
 exact⟨this.1,this.2.1⟩
theorem MD(L:qD wires (E++it::R))(I:Inv E s)(A:Apart wires s)(N:dB nu s)(hd: ¬isDecl it)(hr:lC nu it=true):it.ok s:=by
 have hE:E.length<=15:=by have :=L.len;simp at this;exact Yx this
 have P:=Mq (R:=it::R) L I
 unfold lC at hr
 rw[abt] at hr
 have hits:=L.its it (by simp)
 cases it with
 | port=>exact absurd trivial hd
 | wire=>exact absurd trivial hd
 | asg d nm b w=>
  refine aO (L.uj d nm b w (by simp)) ?_;rintro ⟨n,hn,Sh⟩ hw
  have nq:=hr nm (by simp[namesOf])
  have TY:=L.fit _ hn trivial
  have Nu:nm∈s.ah.map (·.2.1):=by
   rcases wQ N nq with⟨v,hv⟩ | h1
   ·unfold bD at hv
    rw[if_neg TY.1,if_neg TY.2.1] at hv
    have :nm∈s.nets.map (·.1):=bQ.mp (by rw[hv];rfl)
    exact absurd (A.Lu nm this) TY.2.2
   ·exact h1
  refine ae Nu λp hp e=> ?_
  refine ao (iQ I hp) λn' Ed _=> ?_
  have Pc:It.port p.1 p.2.1 n'=It.port d nm n:=rC L.dn (aal.mpr (.inl Ed)) hn (x:=nm) (by simp[ng,e]) (by simp[ng])
  rw[Pc] at Ed
  refine⟨hits.2.1,⟨_,vn I Ed,sU Sh λa ha ea eb=> ?_⟩,sa A P N hw (hr w (by simp[namesOf])),λp hp=> ?_⟩
  ·refine iA ha λi hi he=> ?_
   cases i with
   | asg d' NI b' w'=>
    simp only[aZ,ab3] at he
    subst he
    have Ec:=(L.its _ (aal.mpr (.inl hi))).2.1
    have hb:=hits.2.1
    have :b'=b:=by unfold dX at hb Ec;simp only at eb;exact Yy eb Ec hb
    subst this
    simp only at ea
    subst ea
    have nd:=L.Ak
    rw[abH,aaQ] at nd
    exact absurd rfl (nd.2.2 (NI,b') (aba.mpr ⟨_,hi,rfl⟩) (NI,b') (aba.mpr ⟨It.asg d NI b' w,by simp,rfl⟩))
   | _=>cases he
  ·intro e2
   rcases hw with h2 | h2 | h2
   ·exact absurd (e2.trans h2) (P p hp).1
   ·exact absurd (e2.trans h2) (P p hp).2
   ·exact absurd (e2▸h2) (A.Jk p hp)
 | cell c out ins=>
  refine⟨hits.1,λw hw=>sa A P N (L.AA c out ins (by simp) w hw) (hr w hw),?_⟩
  rw[I.cells,aae]
  exact Nat.lt_of_le_of_lt (aca _ _) (Yz hE)
theorem EK(L:qD wires (E++R))(I:Inv E s)(N:dB nu s)(hR: ∀r∈R,¬isDecl r){r:It}(hr:r∈R):lC nu r=true:=by
 have inE: ∀i∈E++R,isDecl i->i∈E:=λi hi hd=>by
  rcases aal.mp hi with h | h
  ·exact h
  ·exact absurd hd (hR i h)
 have has: ∀x,(jt s x).isSome=true->(nu.map (·.1)).contains x=true:=λx h=>by rw[pB,N.look];exact h
 have PQ: ∀w,pX wires w->(jt s w).isSome=true:=λw hw=>by
  have :(bD s w).isSome=true:=by
   unfold bD
   by_cases h0:w=q "0"
   ·rw[if_pos h0];rfl
   ·rw[if_neg h0]
    by_cases h1:w=q "1"
    ·rw[if_pos h1];rfl
    ·rw[if_neg h1]
     have hw:w∈wires:=by rcases hw with h | h | h;exact absurd h h0;exact absurd h h1;exact h
     refine ao (L.wall w hw) λi hi hwi=> ?_
     have hiE:=inE i hi (by cases i<;>simp_all [dw,isDecl])
     rw[bQ,gp I]
     exact aa8.mpr ⟨i,hiE,hwi⟩
  refine aj (aaX.mp this) λv hv=> ?_
  unfold jt;rw[hv];rfl
 unfold lC
 rw[abt]
 intro x hx
 cases r with
 | port=>exact absurd trivial (hR _ hr)
 | wire=>exact absurd trivial (hR _ hr)
 | asg d nm b w=>
  refine aO (L.uj d nm b w (aal.mpr (.inr hr))) ?_;rintro ⟨n,hn,Sh⟩ hw
  simp only[namesOf,aat,abh,or_false] at hx
  rcases hx with rfl | rfl
  ·have :=vn I (inE _ hn trivial)
   refine has x ?_
   unfold jt
   cases bD s x with
   | some v=>rfl
   | none=>
    have hm:x∈s.ah.map (·.2.1):=aaH.mpr ⟨_,this,rfl⟩
    simp only[hm,if_true];rfl
  ·exact has x (PQ x hw)
 | cell c out ins=>exact has x (PQ x (L.AA c out ins (aal.mpr (.inr hr)) x hx))
end
end Mine
namespace Mine
noncomputable def fy:Expr:=uw (bE (bG iO 0) 0)
noncomputable def wd:Expr:=kX (oZ fy) [1]
theorem sk{l:List Bool}(hl:l.length<=1000): ∀st,bk .NotIn (.bool false) (.lst (l.map V.bool)) st=ok (l.all id) st:=λst=>by
 have e0: ∀(l:List Bool) F n,dO F n (l.map V.bool)=some (l.map PyData.bool):=by
  intro l F n
  induction l with
  | nil=>rfl
  | cons x l ih=>exact eD rfl ih
 have e1: ∀l:List Bool,((l.map PyData.bool).any λe=>aaz e (.bool false))= !l.all id:=by
  intro l
  induction l with
  | nil=>rfl
  | cons x l ih=>rw[aaq,ach,ih,abq];cases x<;>simp[aaz]
 have e2:among st (.bool false) (l.map V.bool)=some (!l.all id):=by
  exact(q8 (e0 _ _ _) (d:= .bool false) rfl).trans (congrArg some (e1 l))
 have gH:(l.map V.bool).length<=100000:=by rw[aae];exact xw hl
 have e3:uN (.bool false) (.lst (l.map V.bool)) st=ok (!l.all id) st:=in_of rfl gH e2
 show(uN (.bool false) (.lst (l.map V.bool)) st).bind _=_
 rw[e3]
 show ok (!!l.all id) st=_
 rw[Bool.not_not]
noncomputable def hasB(nu:List (Str×V))(v:V):V:=match v with
 | .str x=> .bool ((nu.map (·.1)).contains x)
 | _=> .none
noncomputable def Mw(nu:List (Str×V))(v:V):Bool:=match v with
 | .tup (.lst ns::_)=>ns.all (Ll nu)
 | _=>false
theorem jX{nu:List (Str×V)}{it:It}:Mw nu (cQ it)=lC nu it:=by
 show((namesOf it).map V.str).all _=_
 rw[List.all_map];rfl
theorem kO{it:It}(h:nL it)(hd: ¬isDecl it):(namesOf it).length<=20:=by
 cases it with
 | port=>exact absurd trivial hd
 | wire=>exact absurd trivial hd
 | asg=>exact aam rfl
 | cell c out ins=>have :=h.1.le;show ins.length+1<=20;exact YA this
theorem CY{st:List AO}{ro:List It}{nu:List (Str×V)}(hb:st[3]? =some (.lst (ro.map cQ)))(hn:st[7]? =some (.aF nu))(uJ:ro.length<=100)(Nx: ∀it∈ro,nL it/\ ¬isDecl it):
  Gives aA (λj m=>bH TT CL j aA false m st fy) 400 [(q "body",.loc 3),(q "numbers",.loc 7)] (.lst ((ro.filter (lC nu)).map cQ)) st:=λn hf=>by
 have hle:(ro.filter (lC nu)).length<=ro.length:=abd _ _
 have inner: ∀it∈ro,Gives (FC aA fy) (λj m=>bH TT CL j (FC aA fy) false m st wd) 100 (cV [(q "body",.loc 3),(q "numbers",.loc 7)] fy (cQ it)) (.lst (((namesOf it).map λx=>(nu.map (·.1)).contains x).map V.bool)) st:=λit hi n hf=>by
  have qF:=kO (Nx it hi).1 (Nx it hi).2
  have lp:=ru (K:=50) (cl:=CL) (F:=FC aA fy) (e:=wd) (l:=cV [(q "body",.loc 3),(q "numbers",.loc 7)] fy (cQ it)) (st:=st) (src:=cy (namesOf it)) (g:=hasB nu) (by kernel_rfl) (by kernel_rfl) (λi=>dJ (xs:=(namesOf it).map .str) (by rw[aae];exact QI qF)) (by rw[aae];exact Qt qF) (λv hv=>by
   refine ae hv ?_;rintro x hx rfl
   exact⟨[fB (pJ (x:=x) hn)],by kernel_rfl⟩) _ [] [] rfl (aaw _)
  rw[aaP,aaN,aae,show(namesOf it).map (hasB nu∘V.str)=((namesOf it).map λx=>(nu.map (·.1)).contains x).map V.bool by rw[aaN];rfl] at lp
  exact rA (K:=50) (mu:=false) (fs:=[]) (by kernel_rfl) (by kernel_rfl) (by kernel_rfl) (YB) lp (if_pos (by rw[aae,aae];exact QI qF)) n (YC hf qF)
 have lp:=oX (cl:=CL) (F:=aA) (e:=fy) (l:=[(q "body",.loc 3),(q "numbers",.loc 7)]) (st:=st) (src:= .loc 3) (g:=id) (p:=Mw nu) (by kernel_rfl) (by kernel_rfl) (λi=>cM hb (by rw[aae];exact nz uJ)) (by rw[aae];exact GA uJ) (λv hv=>by
  refine ae hv ?_;rintro it hi rfl
  have qF:=kO (Nx it hi).1 (Nx it hi).2
  have nb:=sk (l:=(namesOf it).map λx=>(nu.map (·.1)).contains x) (by rw[aae];exact ZK qF)
  rw[List.all_map] at nb
  rw[jX]
  exact⟨[fG (inner it hi),fb nb],by kernel_rfl⟩) (λv hv _=>by
  refine ae hv ?_;rintro it hi rfl
  exact⟨[],by kernel_rfl⟩) _ [] [] rfl (aaw _)
 rw[aaP,List.map_id,adb,aae,show ro.filter (Mw nu∘cQ)=ro.filter (lC nu) from acJ λx hx=>jX] at lp
 exact dE (mu:=false) (fs:=[]) (by kernel_rfl) (by kernel_rfl) (by kernel_rfl) (nA) lp (if_pos (by rw[aae];exact YD uJ hle)) n (GB uJ hf)
theorem text_len{it:It}(h:nL it)(hw:(dw it).length<=10):it.text.length<=900:=by
 have pl: ∀n,(plainT n).length<=2:=λn=>by unfold plainT;split<;>exact aam rfl
 cases it with
 | port d nm n=>have h1:=pl n;have h2:=pl 0;simp[It.text,iF];exact YE h1 h2
 | wire x r=>
  show(eg ((x::r).map cI)++[semi]).length+1<=_
  rw[aag,aaq,eZ,aae]
  have :r.length+1<=10:=hw
  show _+1+1+1<=_
  exact YF this
 | asg d nm b w=>cases d with
  | true=>show((aD w::(q "op",qs "=")::ed nm b)++[(q "op",qs ";")]).length+1<=_;simp[gd h.2.1]
  | false=>show((ed nm b++[(q "op",qs "="),aD w])++[(q "op",qs ";")]).length+1<=_;simp[gd h.2.1]
 | cell c out ins=>
  have h1:=h.1.le
  have h2:c.front.length<=20:=by cases c<;>simp[CK.front]
  show(c.front++nE out ins).length<=_
  unfold nE
  simp[dZ];exact YG h1 h2
theorem jA.snoc: ∀{E:List It} {s:Q} {it:It},jA s E->it.ok (E.foldl (λs it=>it.step s) s)->jA s (E++[it])
 | [],_,_,_,h=>⟨h,trivial⟩
 | _::_,_,_,h,hi=>⟨h.1,jA.snoc h.2 hi⟩
theorem eU{E:List It}{it:It}:aC (E++[it])=it.step (aC E):=by unfold aC;rw[List.foldl_append];rfl
theorem KC{β:Type}{f:It->List β}{E:List It}{it:It}:(E++[it]).flatMap f=E.flatMap f++f it:=by rw[aaM,aaL,List.flatMap_nil,aav]
structure Em(wires:List Str)(L E:List It)(rest:List It)(nu:List (Str×V))(pl:List V):Prop where
 pe:(E++rest).Perm L
 pl:PL pl
 ok:jA Q0 E
 I:Inv E (aC E)
 N:dB nu (aC E)
 A:Apart wires (aC E)
 hq:j9 (aC E)
 tl:(E.flatMap It.text).length+900* rest.length<=50000
 sl:(E.flatMap jZ).length+rest.length<=800
theorem Em.step{wires:List Str}{L E r r':List It}{nu hY:List (Str×V)}{pl cF:List V}{it:It}(h:Em wires L E r nu pl)(hr:r.Perm (it::r'))(mi:it.ok (aC E))(N':dB hY (it.step (aC E)))(A':Apart wires (it.step (aC E)))(hp:PL cF)(ht:it.text.length<=900):Em wires L (E++[it]) r' hY cF:=by
 have h1:=h.tl
 have h2:=h.sl
 rw[hr.length_eq,aan] at h1 h2
 have h3:(jZ it).length<=1:=by cases it<;>exact aam rfl
 refine⟨by rw[aax];exact(abF E hr.symm).trans h.pe,hp,h.ok.snoc mi,?_,?_,?_,?_,by rw[KC,aag];exact YH ht h1,by rw[KC,aag];exact YI h2 h3⟩
 ·rw[eU];exact h.I.step mi
 ·rw[eU];exact N'
 ·rw[eU];exact A'
 ·rw[eU];exact h.hq.step mi
end Mine
namespace Mine
section
variable{c0:AO}{de po:List V}{ag du:V}{sort:Int}{wires:List Str}{L:List It}
noncomputable def EE(c0:AO)(de po:List V)(E re ro:List It)(nu:List (Str×V))(pl:List V):List AO:=ES c0 pl de (ro.map cQ) po ((aC E).ah.map dQ) (E.flatMap jZ) nu (re.map aU)
theorem Em.MU{E r:List It}{nu:List (Str×V)}{pl:List V}(hL:qD wires L)(h:Em wires L E r nu pl): ∀it∈r,it.text.length<=900:=λit hi=>by
 have L1:=hL.perm h.pe
 have hi:it∈E++r:=aal.mpr (.inr hi)
 refine text_len (L1.its it hi) ?_
 have :=L1.D9
 refine eJ (List.append_of_mem hi) λa b e=> ?_
 rw[e,aaM,aaL,aag,aag] at this
 exact VU this
theorem AS(W:zG wires)(hL:qD wires L){E re ro:List It}{nu:List (Str×V)}{pl:List V}{it:It}(h:Em wires L E (it::(re++ro)) nu pl)(hd:isDecl it):
  ∃hY,Em wires L (E++[it]) (re++ro) hY pl/\bl aA (λj m=>cP TT CL j aA (kM dH) (bG dH 0) (cy (namesOf it)) 0 m (EE c0 de po E re ro nu pl)) 1101 (xl ag du it.text sort (E.flatMap It.text) wires) (.go .next (xl ag du it.text sort (E.flatMap It.text) wires) (EE c0 de po (E++[it]) re ro hY pl)):=by
 have L1:=hL.perm h.pe
 have hm:it∈E++it::(re++ro):=aal.mpr (.inr aak)
 have mi:=Ff L1 h.I hd
 have rS:=L1.fit it hm hd
 have ht:=h.MU hL it aak
 refine ao (uX (c0:=c0) (pl:=pl) (de:=de) (bo:=ro.map cQ) (po:=po) (sh:=E.flatMap jZ) (re:=re.map aU) (ag:=ag) (du:=du) (sort:=sort) (tx:=E.flatMap It.text) W h.A h.N h.hq rS mi ht) λhY N' lp=> ?_
 refine⟨hY,h.step (.refl _) mi N' (h.A.step rS mi) h.pl ht,?_⟩
 have e:EE c0 de po (E++[it]) re ro hY pl=ES c0 pl de (ro.map cQ) po ((it.step (aC E)).ah.map dQ) (E.flatMap jZ) hY (re.map aU):=by
  unfold EE
  rw[eU,KC,show jZ it=[] by cases it<;>first | rfl | exact hd.elim,aav]
 rw[e]
 exact lp
inductive SW(wires:List Str)(L:List It)(c0:AO)(de po:List V)(E re ro rd:List It)(nu:List (Str×V))(pl:List V):Prop where
 | mk (it:It) (vz:List It) (i:Nat) (cF:List V) (h1:vz.length+1=ro.length) (h2: ∀i∈vz,¬isDecl i) (h3:Em wires L (E++[it]) (re++vz) nu cF) (h4:it.text.length<=900) (h5:EE c0 de po (E++[it]) re vz nu cF=ES c0 cF de (vz.map cQ) po ((aC E).ah.map dQ) (E.flatMap jZ++[cG it]) nu (re.map aU)) (h6:(E++[it]).flatMap It.text=E.flatMap It.text++it.text)
  (h7:CL 515 [.loc 1,.int rd.length] (EE c0 de po E re ro nu pl)=ok (.int i) (EE c0 de po E re ro nu cF)) (h8: ∀st,eQ (.lst (rd.map cQ)) (.int i) st=ok (cQ it) st)
  (h9:eF .lst (.loc 3) (q "remove") [cQ it] (EE c0 de po E re ro nu cF)=ok .none (EE c0 de po E re vz nu cF))
theorem Hf(hL:qD wires L){E re ro rd:List It}{nu:List (Str×V)}{pl:List V}(h:Em wires L E (re++ro) nu pl)(uJ: ∀i∈ro,¬isDecl i)(Sm:ro.filter (lC nu)=rd)(aa:rd≠[]):SW wires L c0 de po E re ro rd nu pl:=by
 subst Sm
 have L1:=hL.perm h.pe
 have k6:=L1.len
 rw[aag,aag] at k6
 have hle:=abd (lC nu) ro
 have IT:0<(ro.filter (lC nu)).length:=ab9.mpr aa
 refine bu (lim:=(ro.filter (lC nu)).length) h.pl ⟨by exact GD IT,by exact VV k6 hle⟩ λi' dq qG TZ T1 K3=> ?_
 obtain⟨i,rfl⟩: ∃i:Nat,i'=i:=⟨i'.toNat,by exact ju TZ⟩
 have hi:i<(ro.filter (lC nu)).length:=by exact vc T1
 have ha:=abL.mp (abS hi)
 have zI: ∀it∈ro,it∈E++(re++ro):=λit hi=>aal.mpr (.inr (aal.mpr (.inr hi)))
 refine km (xI (st:=EE c0 de po E re ro nu dq) (n:=3) (rows:=ro) (v:=cQ (ro.filter (lC nu))[i]) rfl (VW k6) (aaH.mpr ⟨_,ha.1,rfl⟩) (λit hi=>L1.its it (zI it hi))) λit vz hit mh mj Lf=> ?_
 have hr:lC nu it=true:=by rw[<-jX,hit,jX];exact ha.2
 have hd:=uJ it mh
 have yU:(re++ro).Perm (it::(re++vz)):=(abF re mj).trans List.perm_middle
 have mi:=MD (hL.perm ((abF E yU.symm).trans h.pe)) h.I h.A h.N hd hr
 have ep:(it.step (aC E)).ah.map dQ=(aC E).ah.map dQ:=by
  cases it with
  | port=>exact absurd trivial hd
  | wire=>exact absurd trivial hd
  | asg d nm b w=>
   show((aC E).ah.map (d6 nm b (aG (aC E) w))).map dQ=_
   rw[aaN]
   refine abe λp _=> ?_
   show dQ (d6 nm b _ p)=dQ p
   unfold d6 dQ;split<;>rfl
  | cell=>rfl
 have Fo:(it.step (aC E)).nets=(aC E).nets:=by cases it<;>first | rfl | exact absurd trivial hd
 have Oj:(it.step (aC E)).ah.map (·.2.1)=(aC E).ah.map (·.2.1):=by
  have :=congrArg (List.map λv=>match v with | V.str x=>x | _=>abM) ep
  rw[aaN,aaN] at this
  exact this
 have hN:dB nu (it.step (aC E)):=by
  refine⟨λx=> ?_,?_,h.N.bf⟩
  ·rw[h.N.look];unfold jt bD;rw[Fo,Oj]
  ·rw[h.N.len,Fo]
   have :=congrArg abx Oj
   rw[aae,aae] at this
   rw[this]
 have hA:Apart wires (it.step (aC E)):=by
  refine⟨h.A.nd,h.A.n0,by rw[Fo];exact h.A.knd,by rw[Fo];exact h.A.Lu,λp hp=> ?_⟩
  have :p.2.1∈(aC E).ah.map (·.2.1):=by rw[<-Oj];exact aaH.mpr ⟨p,hp,rfl⟩
  refine ae this λp' h1 h2=> ?_
  rw[<-h2];exact h.A.Jk p' h1
 have ht:=h.MU hL it (aal.mpr (.inr mh))
 refine⟨it,vz,i,dq,mj.length_eq.symm,λi hi=>uJ i (mj.mem_iff.mpr (aai _ hi)),h.step yU mi hN hA qG ht,ht,?_,KC,K3 18 c0 _,?_,?_⟩
 ·unfold EE
  rw[eU,ep,KC,show jZ it=[cG it] by cases it<;>first | rfl | exact absurd trivial hd]
 ·rw[hit]
  exact fH (by rw[aae];exact Qi k6 hle) (by rw[aay,aaG hi];rfl)
 ·rw[hit];exact Lf
theorem Fm(W:zG wires)(hL:qD wires L): ∀(k:Nat) (E re ro:List It) (nu:List (Str×V)) (pl:List V),re.length+ro.length=k->(∀i∈re,isDecl i)->(∀i∈ro,¬isDecl i)->Em wires L E (re++ro) nu pl->
  ∃E' hY cF,Em wires L E' [] hY cF/\bl aA (λj m=>bq TT CL j aA (kM iO) (bG iO 0) m (EE c0 de po E re ro nu pl)) (k+2001) (mU ag du sort (E.flatMap It.text) wires) (.go .next (mU ag du sort (E'.flatMap It.text) wires) (EE c0 de po E' [] [] hY cF)):=by
 intro k
 induction k with
 | zero=>
  intro E re ro nu pl hk Pa uJ h
  obtain rfl:=abw (show re.length=0 by exact VX hk)
  obtain rfl:=abw (show ro.length=0 by exact VY hk)
  exact⟨E,nu,pl,h,bl.le (mM (K:=200) [fB (ne_nil (n:=8) (xs:=[]) (st:=EE c0 de po E [] [] nu pl) rfl (aaC _)),fB (ne_nil (n:=3) (xs:=[]) (st:=EE c0 de po E [] [] nu pl) rfl (aaC _))] (by kernel_rfl)) (by decide)⟩
 | succ k ih=>
  intro E re ro nu pl hk Pa uJ h
  have L1:=hL.perm h.pe
  have k6:=L1.len
  rw[aag,aag] at k6
  have hle:=abd (lC nu) ro
  have zI: ∀it∈ro,it∈E++(re++ro):=λit hi=>aal.mpr (.inr (aal.mpr (.inr hi)))
  have rd:=CY (st:=EE c0 de po E re ro nu pl) (ro:=ro) (nu:=nu) rfl rfl (VZ k6) (λit hi=>⟨L1.its it (zI it hi),uJ it hi⟩)
  have Sa:2000<=k+2001:=aaD (by decide) (aaI 2001 k)
  have tl:=h.tl
  have sl:=h.sl
  have er: ∀st,bk .Eq (.lst ((ro.filter (lC nu)).map cQ)) (.lst []) st=ok ((ro.filter (lC nu)).map cQ).isEmpty st:=λst=>if_pos (by rw[aae];exact V0 k6 hle)
  have ROW:=λ(b8:List V) (h1:Em wires L E (re++ro) nu b8) (aa:ro.filter (lC nu)≠[])=>Hf (c0:=c0) (de:=de) (po:=po) hL h1 uJ rfl aa
  have ln:=uU (f:=cQ) (l:=ro.filter (lC nu)) (Qi k6 hle)
  cases re with
  | nil=>
   cases ro with
   | nil=>exact absurd hk (by show¬(0+0=_);exact V1)
   | cons r ro=>
    have aa:(r::ro).filter (lC nu)≠[]:=by
     rw[abj (EK (R:=r::ro) L1 h.I h.N uJ aak)];exact λe=>nomatch e
    obtain⟨it,vz,i,cF,BG,Lg,h',ht,e1,e2,dd,sb,rm⟩:=ROW pl h aa
    refine gF (ih (E++[it]) [] vz nu cF (by simp at hk BG ⊢;exact V2 hk BG) Pa Lg h') λE' hY dq hf go=> ?_
    refine⟨E',hY,dq,hf,?_⟩
    rw[e1,e2] at go
    exact gA (K:=2000) (st1:=EE c0 de po E [] (r::ro) nu pl) (q:=mU ag du sort (E.flatMap It.text++it.text) wires) [fB (ne_nil (n:=8) (xs:=[]) (st:=EE c0 de po E [] (r::ro) nu pl) rfl (aaC _)),fB (ne_nil (n:=3) (xs:=(r::ro).map cQ) (st:=EE c0 de po E [] (r::ro) nu pl) rfl (by rw[aae];exact V3 k6))]
     [fG rd,fB (ne_nil (n:=8) (xs:=[]) (st:=EE c0 de po E [] (r::ro) nu pl) rfl (aaC _)),fF 5 ln,fV 0 dd,fF 4 sb,fV 7 rm,fV 7 (bW (n:=6) (ys:=E.flatMap jZ) (v:=cG it) (st:=EE c0 de po E [] vz nu cF) rfl (Qj sl)),fF 2 (cw (a:=E.flatMap It.text) (b:=it.text) (LY tl ht))] (by kernel_rfl) (by kernel_rfl) Sa go
  | cons it re=>
   have nr: ∀pl,bk .NotEq (.loc 8) (.lst []) (EE c0 de po E (it::re) ro nu pl)=ok true (EE c0 de po E (it::re) ro nu pl):=λpl=>ne_nil (n:=8) (xs:=(it::re).map aU) rfl (by rw[aae];exact V4 k6)
   have pop: ∀pl,eF .lst (.loc 8) (q "pop") [.int 0] (EE c0 de po E (it::re) ro nu pl)=ok (aU it) (EE c0 de po E re ro nu pl):=λpl=>pop_at (n:=8) (v:=aU it) (xs:=(it::re).map aU) rfl (by rw[aae];exact V5 k6) (by decide) rfl
   have Up: ∀i∈re,isDecl i:=λi hi=>Pa i (aai _ hi)
   have IW:re.length+ro.length=k:=by rw[aan] at hk;exact V6 hk
   have adt:=cw (a:=E.flatMap It.text) (b:=it.text) (by have :=h.MU hL it (aal.mpr (.inl aak));exact LY tl this)
   have NO: ∀b8,Em wires L E (it::re++ro) nu b8-> ∃E' LO hY dq,Em wires L E' [] hY dq/\bl aA (λj m=>cP TT CL j aA (kM dH) (bG dH 0) (cy (namesOf it)) 0 m (EE c0 de po E re ro nu b8)) 1101 (xl ag du it.text sort (E.flatMap It.text) wires) (.go .next (xl ag du it.text sort (E.flatMap It.text) wires) (EE c0 de po (E++[it]) re ro LO b8))/\
     bl aA (λj m=>bq TT CL j aA (kM iO) (bG iO 0) m (EE c0 de po (E++[it]) re ro LO b8)) (k+2001) (mU ag du sort (E.flatMap It.text++it.text) wires) (.go .next (mU ag du sort (E'.flatMap It.text) wires) (EE c0 de po E' [] [] hY dq)):=λb8 h1=>by
    refine ao (AS (c0:=c0) (de:=de) (po:=po) (ag:=ag) (du:=du) (sort:=sort) W hL h1 (Pa it aak)) λLO hm lp=> ?_
    refine gF (ih (E++[it]) re ro LO b8 IW Up uJ hm) λE' hY dq hf go=> ?_
    rw[KC] at go
    exact⟨E',LO,hY,dq,hf,lp,go⟩
   by_cases aa:ro.filter (lC nu)=[]
   ·refine AY (NO pl h) λE' LO hY dq hf lp go=> ?_
    rw[aa] at rd er
    exact⟨E',hY,dq,hf,gA (K:=2000) (q:=mU ag du sort (E.flatMap It.text++it.text) wires) (st1:=EE c0 de po E (it::re) ro nu pl) [fB (nr pl)] [fG rd,fB (nr pl),fb er,fV 7 (pop pl),fR lp,fF 2 adt] (by kernel_rfl) (by kernel_rfl) Sa go⟩
   ·have :((ro.filter (lC nu)).map cQ).isEmpty=false:=by
     cases h:ro.filter (lC nu) with
     | nil=>exact absurd h aa
     | cons _ _=>rfl
    rw[this] at er
    refine bu (lim:=2) h.pl (by decide) λd b8 dj hd0 Np Nq=> ?_
    have Nq:CL 515 [.loc 1,.int 2] (EE c0 de po E (it::re) ro nu pl)=ok (.int d) (EE c0 de po E (it::re) ro nu b8):=Nq 18 c0 _
    have h1:Em wires L E (it::re++ro) nu b8:={h with pl:=dj}
    by_cases h0:d=0
    ·subst h0
     refine AY (NO b8 h1) λE' LO hY dq hf lp go=> ?_
     exact⟨E',hY,dq,hf,gA (K:=2000) (q:=mU ag du sort (E.flatMap It.text++it.text) wires) (st1:=EE c0 de po E (it::re) ro nu pl) [fB (nr pl)] [fG rd,fB (nr pl),fb er,fV 0 Nq,fV 7 (pop b8),fR lp,fF 2 adt] (by kernel_rfl) (by kernel_rfl) Sa go⟩
    ·have hn: ∀st,bk .Eq (.int d) (.int 0) st=ok false st:=λst=>by show ok (d==0) st=_;rw[beq_false_of_ne h0]
     obtain⟨Sr,vz,i,cF,BG,Lg,h',ht,e1,e2,dd,sb,rm⟩:=ROW b8 h1 aa
     refine gF (ih (E++[Sr]) (it::re) vz nu cF (by rw[aan];exact V7 IW BG) Pa Lg h') λE' hY dq hf go=> ?_
     rw[e1,e2] at go
     exact⟨E',hY,dq,hf,gA (K:=2000) (q:=mU ag du sort (E.flatMap It.text++Sr.text) wires) (st1:=EE c0 de po E (it::re) ro nu pl) [fB (nr pl)] [fG rd,fB (nr pl),fb er,fV 0 Nq,fb hn,fF 5 ln,fV 0 dd,fF 4 sb,fV 7 rm,fV 7 (bW (n:=6) (ys:=E.flatMap jZ) (v:=cG Sr) (st:=EE c0 de po E (it::re) vz nu cF) rfl (Qj sl)),fF 2 (cw (a:=E.flatMap It.text) (b:=Sr.text) (LY tl ht))] (by kernel_rfl) (by kernel_rfl) Sa go⟩
end
end Mine
namespace Mine
noncomputable def E1:Expr:=kX (uw (bE aX.body 23)) [1,1]
noncomputable def wc:Expr:=kX (uw (bE (bG (bE aX.body 26) 0) 0)) [2,0]
noncomputable def oV:Expr:=uw (bE aX.body 28)
noncomputable def df:Stmt:=bE aX.body 29
theorem LF{i:Nat}(h:i<=90000): ∀st,binI false .Mult (.int 2) (.int i) st=ok (.int (2* i)) st:=λst=>by
 have :small (i:Int)=true:=vC h
 show(if small 2&&small (i:Int) then ok (V.int (2* i)) st else none)=_
 rw[this];rfl
noncomputable def MV(ts:List Tk)(v:V):V:=match v with
 | .int i=>fo ts i.toNat
 | _=> .none
theorem xR{ts:List Tk}{i:Nat}{p:Tk}(h:ts[i]? =some p):fo ts i=HF i p:=by unfold fo jz oE Dw jf;rw[h];rfl
theorem Dy{ts:List Tk}:((List.range ts.length).map λi:Nat=>V.int i).map (MV ts)=eH ts:=by
 apply List.ext_getElem?
 intro i
 rw[iT,aay,aay]
 by_cases h:i<ts.length
 ·rw[List.getElem?_range h,aaG h]
  exact congrArg some (xR (aaG h))
 ·rw[aaS (by rw[acL];exact o1 h),aaS (o1 h)];rfl
theorem pS{ts:List Tk}(hl:ts.length<=90000): ∀st,bC "len" [bt ts] st=ok (.int ts.length) st:=λst=>(B1 (by rw[aae];exact o4 hl)).trans (by rw[aae])
theorem zx{st:List AO}{ts:List Tk}(hs:st.all (bA st.length)=true)(hl:ts.length<=60000)(ht:eB ts):Gives aA (λj m=>bH TT CL j aA false m st oV) 70000 [(q "stream",bt ts)] (.lst (eH ts)) st:=λn hn=>by
 have lp:=iL (cl:=CL) (F:=aA) (e:=oV) (l:=[(q "stream",bt ts)]) (st:=st) (src:= .jb 0 ts.length 1) (all:=(List.range ts.length).map λi:Nat=>V.int i) (g:=MV ts) (by kernel_rfl) (by kernel_rfl) (λi=>by
  rw[eO (GI hl),aay]
  by_cases h:i<ts.length
  ·rw[if_pos h,List.getElem?_range h];rfl
  ·rw[if_neg h,aaS (by rw[acL];exact o1 h)];rfl) (by rw[aae,acL];exact V8 hl) (λv hv=>by
  refine ae hv ?_;rintro i hi rfl
  rw[List.mem_range] at hi
  have hp:ts[i]? =some ts[i]:=aaG hi
  have hb:=ht _ (abS hi)
  rw[show MV ts (.int i)=MT (.str ts[i].1) ts[i].2 (.int (2* i+5)) from xR hp]
  have sb:=qx (GI hl) hp
  exact⟨[fF 4 sb,no 4,fF 4 sb,no 4,fF 2 (LF (i:=i) (V9 hl hi)),fV 0 (Ca (k:=18) (mu:=false) (a:= .str ts[i].1) (b:=ts[i].2) (c:= .int (2* i+5)) hs rfl (cU (aaC _) _ hb.1) rfl)],by kernel_rfl⟩) _ [] [] rfl (aaw _)
 rw[aaP,Dy,aae,acL] at lp
 exact dE (mu:=false) (fs:=[fF 5 (pS (ts:=ts) (GI hl)),fF 6 (j5 (n:=ts.length) (GI hl))]) (by kernel_rfl) (by kernel_rfl) (by kernel_rfl) (nA) lp (if_pos (by rw[gr];exact Wa hl)) n (Wb hl hn)
section
variable{i N N1:Nat}{l l' l0:Ev}{st st':List AO}
theorem LG.one(h:bl aA (λj m=>dS TT CL j aA m st (bE aX.body i)) N1 l (.go .next l' st'))(hs:aX.body.drop i=bE aX.body i::aX.body.drop (i+1))(hN:N1<=N)(g:LG (i+1) N l' st'):LG i (N+1) l st:=by
 refine aj g ?_;clear g;intro s' g
 refine⟨s',λn hn m hA hG=> ?_⟩
 obtain⟨a,rfl⟩: ∃a,n=a+1:=⟨n- 1,by exact Qk hn⟩
 refine eI (h a (Wc hN hn) m hA hG) λm1 e OI OJ=> ?_
 refine aj (g a (Ql hn) m1 OI OJ) λm2 e2=> ?_
 refine⟨m2,?_⟩
 rw[hs]
 show(dS TT CL a aA m st (bE aX.body i)).sq _=_
 have e:dS TT CL a aA m st (bE aX.body i)=_:=e
 rw[e]
 exact e2
theorem LG.out(h:bl aA (λj m=>dS TT CL j aA m st (bE aX.body i)) N1 l (.go (.ret (.bool true)) [] st'))(hs:aX.body.drop i=bE aX.body i::aX.body.drop (i+1)):LG i (N1+1) l st:=by
 refine⟨st',λn hn m hA hG=> ?_⟩
 obtain⟨a,rfl⟩: ∃a,n=a+1:=⟨n- 1,by exact Qk hn⟩
 refine ao (h a (Ql hn) m hA hG) λm1 e _=> ?_
 refine⟨m1,?_⟩
 rw[hs]
 show(dS TT CL a aA m st (bE aX.body i)).sq _=_
 have e:dS TT CL a aA m st (bE aX.body i)=_:=e
 rw[e];rfl
theorem yo{s:Stmt}{x:Str}{e:Expr}{v:V}(hv:iH s= .Ea x e)(h:Gives aA (λj m=>bH TT CL j aA (aA.ky.contains x) m st e) N1 l0 v st')(h0:zM l0 l=some l0)(hp:zk aA l x v=some l'):bl aA (λj m=>dS TT CL j aA m st s) (N1+1) l (.go .next l' st'):=λn hn m hA hG=>
 md (P:=λn=>Out aA (dS TT CL n aA m st s) (.go .next l' st')) (λj=>qm hp hA hG λm' e1 hA' hG'=>⟨m',by
  refine(?_:Nd TT (dY TT CL (j+N1)) (mW TT CL (j+N1)) aA m st (iH s)=_)
  rw[hv]
  refine(congrArg (λr:RE V=>r.b7 m λv st=>Cu (putN aA m x v) st) (h (j+N1) (aaI _ _) m (hA.zM h0) hG)).trans ?_
  exact congrArg (λo=>Cu o st') e1,hA',hG'⟩) hn
end
theorem MM{n:Nat}{F:aV}{m m1:M}{st st1:List AO}{s:Stmt}{x:Str}{e:Expr}{ex:Ex}(hv:iH s= .Ea x e)(he:aT TT CL (n+2) F m st [s]=some (.error ex,m1,st1)):m1=m:=by
 have he:((Nd TT (dY TT CL n) (mW TT CL n) F m st (iH s)).sq λm st=>aT TT CL (n+1) F m st [])=some (.error ex,m1,st1):=he
 rw[hv] at he
 have he:((((dY TT CL n).e F (F.ky.contains x) m st e).b7 m λv st=>Cu (putN F m x v) st).sq λm st=>aT TT CL (n+1) F m st [])=some (.error ex,m1,st1):=he
 generalize (dY TT CL n).e F (F.ky.contains x) m st e=r at he
 cases r with
 | none=>exact aY he
 | some p=>
  obtain⟨a,s2⟩:=p
  cases a with
  | error e=>cases he;rfl
  | ok v=>
   have he:((Cu (putN F m x v) s2).sq λm st=>aT TT CL (n+1) F m st [])=some (.error ex,m1,st1):=he
   cases hp:putN F m x v with
   | none=>rw[hp] at he;exact aY he
   | some m2=>rw[hp] at he;cases he
theorem MY:iH df= .try (q "SourceError") (q "error") (q "due") (bG df 0):=by kernel_rfl
theorem DB{n:Nat}{m:M}{st:List AO}(hc:m (q "SourceError")=none):dS TT CL (n+1) aA m st df=tn TT aA (q "SourceError") (q "error") (q "due") (aT TT CL n aA m st (bG df 0)):=by
 refine(?_:Nd TT (dY TT CL n) (mW TT CL n) aA m st (iH df)=_)
 rw[MY]
 refine(?_:(match m (q "SourceError") with
  | some _=>none
  | none=>tn TT aA (q "SourceError") (q "error") (q "due") (aT TT CL n aA m st (bG df 0)))=_)
 rw[hc]
theorem xJ{m:M}(hG:Gn aA m):m (q "SourceError")=none:=hG _ (by kernel_rfl)
section
variable{K:Nat}{l l2:Ev}{st st1:List AO}
theorem MX(fs:List Fc)(h:tS TT CL K aA l st (bG df 0) fs (fin l2)=some (.go .next l2 st1,f7 fs)):bl aA (λj m=>dS TT CL j aA m st df) (K+1) l (.go .next l2 st1):=λn hn m hA hG=>by
 obtain⟨a,rfl⟩:=abv hn
 exact eI (fC (j:=a) h hA hG) λm1 e OI OJ=>⟨m1,(DB (n:=a+K) (xJ hG)).trans (by rw[e];rfl),OI,OJ⟩
theorem MW{kd d:Str}{a:Int}(fs:List Fc)(h:tS TT CL (K+2) aA l st (bG df 0) fs (fin [])=some (.er ⟨52,.str kd,.int a,.str d⟩ st1,f7 fs))(hd:l.lookup (q "due")=some (.tup [.str kd,.int a,.str d]))(hk:aL kd=true)(hs:aL d=true):bl aA (λj m=>dS TT CL j aA m st df) (K+3) l (.go (.ret (.bool true)) [] st1):=λn hn m hA hG=>by
 obtain⟨b,rfl⟩:=abv hn
 refine aj (fC (j:=b) h hA hG) λm1 e=> ?_
 have hm:m1=m:=MM (n:=b+K) (s:=bE (bG df 0) 0) (x:=q "netlist") (e:=uw (bE (bG df 0) 0)) (by kernel_rfl) e
 subst hm
 have hv:tv st1 (.tup [.str kd,.int a,.str d]) (.tup [.str kd,.int a,.str d])=some true:=by
  have zH:dat false (.tup [.str kd,.int a,.str d]) 1=true:=by
   show(aL kd&&(!false&&(aL d&&true)))=true
   rw[hk,hs];rfl
  exact(vL (eu _ 1 30 zH (by decide)) (eu _ 1 30 zH (by decide))).trans (congrArg some (gK _ 1 zH))
 have ht:DA TT aA (q "SourceError") (q "error") (q "due") ⟨52,.str kd,.int a,.str d⟩=true:=by kernel_rfl
 refine⟨λ_=>none,?_,(λy v q=>aY q),λ_ _=>rfl⟩
 refine(DB (n:=b+(K+2)) (xJ hG)).trans ?_
 rw[e]
 refine(if_pos (e:=(none:RS)) ht).trans ?_
 rw[hA _ _ hd]
 exact congrArg (λo=>oK o λb=>k8 (.ret (.bool b)) (λ_=>none) st1) hv
end
noncomputable def Mo:List Tk:=[(q "key",qs "module"),cI (q "m1"),cq "("]
theorem y5{k:Nat}{st:List AO}{l:List Tk}(h:l≠[])(hl:l.length<=900):CI (k+1) 543 [bt l] st=ok (bt (eg l)) st:=by
 cases l with
 | nil=>exact absurd rfl h
 | cons x r=>rw[aan] at hl;exact bZ (Wd hl)
theorem mf{names:List Str}(hn:names≠[])(hl:names.length<=100):(eg (names.map cI)).length<=300:=by
 cases names with
 | nil=>exact absurd rfl hn
 | cons x r=>rw[aan] at hl;rw[aaq,eZ,aae];exact We hl
structure TE(st:List AO)(names:List Str)(tx ag:List Tk):Prop where
 hn:names≠[]
 hl:names.length<=100
 tl:tx.length<=50000
 al:ag.length<=1000
 or:st[5]? =some (.lst (names.map V.str))
 hs:st.all (bA st.length)=true
 hT:eB (ck (q "m1") names++tx++ag++[ij])
section
variable{st:List AO}{names:List Str}{tx ag:List Tk}{wires:List Str}
theorem TE.hd(Y:TE st names tx ag):(ck (q "m1") names).length<=400:=by
 have :=mf Y.hn Y.hl
 show(Mo++eg (names.map cI)++[cq ")",semi]).length<=_
 rw[aag,aag];show 3+_+2<=_;exact Wf this
noncomputable def RU(Y:TE st names tx ag):List Fc:=
 [fG (BM (e:=E1) (l:=[(q "order",.loc 5)]) (xs:=names) (cl:=CL) (st:=st) (src:= .loc 5) (λi=>cM Y.or (by rw[aae];have :=Y.hl;exact nz this)) (by kernel_rfl) (by kernel_rfl) (by kernel_rfl) (by kernel_rfl) (λx=>by kernel_rfl) Y.hl),
  fV 0 (y5 (k:=18) (st:=st) (l:=names.map cI) (λe=>Y.hn (List.map_eq_nil_iff.mp e)) (by rw[aae];have :=Y.hl;exact LZ this)),
  fF 2 (cw (a:=Mo) (b:=eg (names.map cI)) (by have :=mf Y.hn Y.hl;show 3+_<=_;exact Wg this)),
  fF 2 (cw (a:=Mo++eg (names.map cI)) (b:=[cq ")",semi]) (by have :=mf Y.hn Y.hl;rw[aag];show 3+_+2<=_;exact Wh this)),
  fF 5 (pS (ts:=ck (q "m1") names) (by have :=Y.hd;exact Wi this)),fF 5 (pS (ts:=tx) (by have :=Y.tl;exact Wj this)),no 2]
noncomputable def RV(Y:TE st names tx ag):List Fc:=
 [fF 2 (cw (a:=ck (q "m1") names) (b:=tx) (by have :=Y.hd;have :=Y.tl;omega)),fF 2 (cw (a:=ck (q "m1") names++tx) (b:=ag) (by have :=Y.hd;have :=Y.tl;have :=Y.al;rw[aag];omega)),
  fF 2 (cw (a:=ck (q "m1") names++tx++ag) (b:=[ij]) (by have :=Y.hd;have :=Y.tl;have :=Y.al;rw[aag,aag];show _+1<=_;omega))]
noncomputable def mlU(du:V)(ts:List Tk)(wires:List Str):Ev:=[(q "due",du),(q "numbers",.loc 7),(q "order",.loc 5),(q "ports",.loc 4),(q "shown",.loc 6),(q "stream",bt ts),(q "wires",.lst (wires.map .str))]
noncomputable def NF(du:V)(ts:List Tk)(wires:List Str):Ev:=mlU du ts wires++[(q "tokens",.lst (eH ts))]
noncomputable def txt(names:List Str)(tx ag:List Tk):List Tk:=ck (q "m1") names++tx++ag++[ij]
theorem TE.toks(Y:TE st names tx ag){du:V}(g:LG 29 80000 (NF du (txt names tx ag) wires) st):LG 28 80001 (mlU du (txt names tx ag) wires) st:=by
 refine LG.one (N1:=70001) ?_ (by kernel_rfl) (by decide) g
 exact yo (x:=q "tokens") (e:=oV) (by kernel_rfl) (l0:=[(q "stream",bt (txt names tx ag))]) (zx Y.hs (by
  have :=Y.hd;have :=Y.tl;have :=Y.al
  unfold txt
  rw[aag,aag,aag];show _+1<=_;omega) Y.hT) (by kernel_rfl) (by kernel_rfl)
end
end Mine
namespace Mine
noncomputable def gI:Nat->List Str->List (Str×V)
 | _,[]=>[]
 | b,x::r=>(x,.loc b)::gI (b+1) r
noncomputable def MH(r:List Int):AO:= .lst (r.map V.int)
noncomputable abbrev RW(A:List AO)(xs:List Str)(rws:List (List Int))(tl:List AO):List AO:=A++(.aF (gI (A.length+1) xs)::(rws.map MH++tl))
theorem rW{x:Str}: ∀{l:List Str} {b:Nat},gI b (l++[x])=gI b l++[(x,.loc (b+l.length))]
 | [],b=>rfl
 | y::l,b=>by
  show(y,V.loc b)::gI (b+1) (l++[x])=(y,V.loc b)::(gI (b+1) l++_)
  rw[rW,aan,ab1,acb 1]
theorem ku: ∀{l:List Str} {b:Nat},(gI b l).map (·.1)=l
 | [],_=>rfl
 | y::l,b=>by show y::(gI (b+1) l).map _=_;rw[ku]
theorem BY{l:List Str}{b:Nat}:(gI b l).length=l.length:=by
 have :=congrArg abx (ku (l:=l) (b:=b))
 rwa [aae] at this
theorem y1{l:List Str}{b:Nat}{x:Str}(h:x∉l):(gI b l).lookup x=none:=by
 cases e:(gI b l).lookup x with
 | none=>rfl
 | some v=>
  have :=bQ.mp (show((gI b l).lookup x).isSome=true by rw[e];rfl)
  rw[ku] at this
  exact absurd this h
theorem kx{x:Str}: ∀{l:List Str} {b j:Nat},l.Nodup->l[j]? =some x->(gI b l).lookup x=some (.loc (b+j))
 | [],_,_,_,h=>by simp at h
 | y::l,b,0,nd,h=>by
  simp at h;subst h
  show acM y ((y,V.loc b)::_)=_
  rw[aao];simp
 | y::l,b,j+1,nd,h=>by
  rw[aaK] at nd
  rw[abr] at h
  have aa:x≠y:=λe=>nd.1 (e▸aas h)
  show acM x ((y,V.loc b)::_)=_
  rw[aao,beq_false_of_ne aa,kx nd.2 h]
  show some (V.loc _)=some (V.loc _)
  rw[ab1,acb 1]
section
variable{A:List AO}{xs:List Str}{rws:List (List Int)}{tl:List AO}
theorem eC{i:Nat}{o:AO}(h:A[i]? =some o):(RW A xs rws tl)[i]? =some o:=by
 have :=(aar.mp h).1
 rw[aaV this,h]
theorem tZ:(RW A xs rws tl)[A.length]? =some (.aF (gI (A.length+1) xs)):=by simp
theorem zV{j:Nat}{r:List Int}(h:rws[j]? =some r):(RW A xs rws tl)[A.length+1+j]? =some (MH r):=by
 have hl:=(aar.mp h).1
 rw[aau (Qm),show A.length+1+j- A.length=j+1 by exact Qo,abr,aaV (by simpa using hl),aay,h]
 rfl
theorem JK{j:Nat}{r r':List Int}(h:rws[j]? =some r):(RW A xs rws tl).set (A.length+1+j) (MH r')=RW A xs (rws.set j r') tl:=by
 have hl:=(aar.mp h).1
 unfold RW
 rw[abf _ _ (Qm),show A.length+1+j- A.length=j+1 by exact Qo,List.set_cons_succ,List.set_append_left _ _ (by simpa using hl),List.map_set]
theorem vV{j:Nat}{o:AO}(h:tl[j]? =some o):(RW A xs rws tl)[A.length+1+rws.length+j]? =some o:=by
 unfold RW
 rw[aau (Qp),show A.length+1+rws.length+j- A.length=(rws.length+j)+1 by exact Qq,abr,aau (by simp),aae,abQ,h]
theorem vW{j:Nat}{o:AO}:(RW A xs rws tl).set (A.length+1+rws.length+j) o=RW A xs rws (tl.set j o):=by
 unfold RW
 rw[abf _ _ (Qp),show A.length+1+rws.length+j- A.length=(rws.length+j)+1 by exact Qq,List.set_cons_succ,abf _ _ (by simp),aae,abQ]
theorem ua:(RW A xs rws tl).length=A.length+1+rws.length+tl.length:=by unfold RW;simp;exact Wk
theorem oG{o:List AO}:RW A xs rws tl++o=RW A xs rws (tl++o):=by unfold RW;simp
end
theorem PO{w:Nat}(h:w<=2){st:List AO}:binI true .Mult (.lst [.int (-1)]) (.int w) st=ok (.loc st.length) (st++[MH (aaB w (-1))]):=by
 have :w=0\/w=1\/w=2:=by exact Wl h
 rcases this with rfl | rfl | rfl<;>kernel_rfl
section
variable{ps:List Pt}
theorem mG{f:Str->Int}{nm:Str}{w:Nat}{as:List (Str×Int×Str)}:(dz f nm w as).length=w:=by
 unfold dz
 have : ∀row:List Int,(as.foldl (gO f nm) row).length=row.length:=by
  induction as with
  | nil=>intro row;rfl
  | cons a as ih=>
   intro row
   rw[abK,ih]
   unfold gO;split<;>simp
 rw[this,List.length_replicate]
theorem om{f:Str->Int}{nm:Str}{w:Nat}{as:List (Str×Int×Str)}{a:Str×Int×Str}:dz f nm w (as++[a])=gO f nm (dz f nm w as) a:=by unfold dz;rw[List.foldl_append];rfl
noncomputable abbrev gq(num:Str->Int)(ps:List Pt)(as:List (Str×Int×Str)):List (List Int):=ps.map λp=>dz num p.nm p.w as
theorem Hi{num:Str->Int}{as:List (Str×Int×Str)}{j:Nat}{p:Pt}{b:Int}{w:Str}(nd:(ps.map (·.nm)).Nodup)(h:ps[j]? =some p):(gq num ps as).set j ((dz num p.nm p.w as).set b.toNat (num w))=gq num ps (as++[(p.nm,b,w)]):=by
 apply List.ext_getElem?
 intro i
 have hj:=(aar.mp h).1
 unfold gq
 rw[List.getElem?_set,aay]
 by_cases e:j=i
 ·subst e
  rw[if_pos rfl,if_pos (by simpa using hj),aay,h]
  show _=some (dz _ _ _ _)
  rw[om];unfold gO;rw[if_pos rfl]
 ·rw[if_neg e,aay]
  cases hi:ps[i]? with
  | none=>rfl
  | some p'=>
   show some (dz _ _ _ _)=some (dz _ _ _ _)
   rw[om];unfold gO
   rw[if_neg λhn=>e ?_]
   have e1:(ps.map (·.nm))[j]? =some p.nm:=by rw[aay,h];rfl
   have e2:(ps.map (·.nm))[i]? =some p'.nm:=by rw[aay,hi];rfl
   exact(acK (by simpa using hj) nd).mp (by rw[e1,e2];exact congrArg some hn)
noncomputable abbrev CS(A:List AO)(ps:List Pt)(num:Str->Int)(E:List It):List AO:=RW A (ps.map (·.nm)) (gq num ps (E.filterMap aZ)) [.lst ((E.filterMap bx).map (kT num))]
end
theorem qX: ∀{r:List Str} {l:List (Str×Int)} {x:Str} {v:Int},(∀p∈l,0<=p.2)->(addQ l r).lookup x=some v->0<=v
 | [],l,x,v,h,e=>by
  have : ∀{l:List (Str×Int)},(∀p∈l,0<=p.2)->l.lookup x=some v->0<=v:=by
   intro l h e
   induction l with
   | nil=>cases e
   | cons p l ih=>
    obtain⟨y,w⟩:=p
    rw[aao] at e
    by_cases hx:x=y
    ·subst hx
     simp at e
     have :=h (x,w) (by simp)
     rw[<-e];exact this
    ·rw[beq_false_of_ne hx] at e
     exact ih (λp hp=>h p (aai _ hp)) e
  exact this h e
 | y::r,l,x,v,h,e=>qX (r:=r) (l:=l++[(y,(l.length:Int)+2)]) (λp hp=>by
   rcases aal.mp hp with h1 | h1
   ·exact h p h1
   ·simp at h1;subst h1;show(0:Int)<=_+2;exact Wm) e
section
variable{E:List It}{s:Q}
theorem r9(I:Inv E s){x:Str}{v:Int}(h:bD s x=some v):0<=v:=by
 unfold bD at h
 split at h
 ·cases h;decide
 ·split at h
  ·cases h;decide
  ·rw[I.nets] at h;exact qX (λp hp=>absurd hp (by simp)) h
theorem oi{f:Str->Int}{nm:Str}{w b:Nat}{as:List (Str×Int×Str)}(hb:b<w)(h: ∀a∈as,a.1=nm->0<=f a.2.2)(hh: ∃a∈as,a.1=nm/\a.2.1.toNat=b): ∃v,(dz f nm w as)[b]? =some v/\0<=v:=by
 unfold dz
 have go: ∀(as:List (Str×Int×Str)) (row:List Int),b<row.length->(∀a∈as,a.1=nm->0<=f a.2.2)->((∃v,row[b]? =some v/\0<=v)\/ ∃a∈as,a.1=nm/\a.2.1.toNat=b)-> ∃v,(as.foldl (gO f nm) row)[b]? =some v/\0<=v:=by
  intro as
  induction as with
  | nil=>
   intro row _ _ hc
   rcases hc with h | ⟨a,ha,_⟩
   ·exact h
   ·cases ha
  | cons a as ih=>
   intro row hl h hc
   rw[abK]
   have gH:b<(gO f nm row a).length:=by unfold gO;split<;>simpa using hl
   refine ih _ gH (λc hc=>h c (aai _ hc)) ?_
   by_cases e:a.1=nm/\a.2.1.toNat=b
   ·refine .inl ⟨f a.2.2,?_,h a (by simp) e.1⟩
    unfold gO
    rw[if_pos e.1,e.2,List.getElem?_set,if_pos rfl,if_pos hl]
   ·rcases hc with⟨v,hv,h0⟩ | ⟨c,hc,hce⟩
    ·refine .inl ⟨v,?_,h0⟩
     unfold gO
     split
     ·rename_i e1
      rw[List.getElem?_set_ne λe2=>e ⟨e1,e2⟩];exact hv
     ·exact hv
    ·rcases aat.mp hc with rfl | hc
     ·exact absurd hce e
     ·exact .inr ⟨c,hc,hce⟩
 exact go as _ (by rw[List.length_replicate];exact hb) h (.inr hh)
theorem not_neg{row:List Int}(h: ∀b,b<row.length-> ∃v,row[b]? =some v/\0<=v):row.contains (-1)=false:=by
 rw[ab0]
 intro hc
 have hm:(-1:Int)∈row:=by simpa using hc
 refine aj (aa4 hm) λb hb=> ?_
 refine ao (h b (aar.mp hb).1) λv hv h0=> ?_
 rw[hb] at hv;cases hv
 exact absurd h0 (by decide)
theorem zv(I:Inv E s){p:dA}(hp:p∈s.ah)(hh: ∀n:Int,It.port p.1 p.2.1 n∈E-> ∀b:Nat,b<(n+1).toNat-> ∃a∈E.filterMap aZ,a.1=p.2.1/\a.2.1.toNat=b):p.2.2.contains (-1)=false:=by
 refine ao (iQ I hp) λn hn hr=> ?_
 refine not_neg λb hb=> ?_
 rw[hr] at hb ⊢
 rw[mG] at hb
 refine oi hb (λa ha _=> ?_) (hh n hn b hb)
 refine aj (aaX.mp (I.ym a ha)) λv hv=> ?_
 rw[gJ hv];exact r9 I hv
theorem C4(I:Inv E s){p:dA}(hp:p∈s.ah){n:Int}{b:Nat}(hn:It.port p.1 p.2.1 n∈E)(hu: ∀n',It.port p.1 p.2.1 n'∈E->n'=n)(hb:b<(n+1).toNat)(h: ∀a∈E.filterMap aZ,a.1=p.2.1->a.2.1.toNat≠b):p.2.2.contains (-1)=true:=by
 refine ao (iQ I hp) λn' Ed hr=> ?_
 rw[hu n' Ed] at hr
 have :=sU (f:=aG s) (nm:=p.2.1) hb h
 rw[<-hr] at this
 simpa using aas this
end
structure NY(ps:List Pt)(s:Q)(E:List It):Prop where
 nd:(ps.map (·.nm)).Nodup
 pl:ps.length<=3
 pw: ∀p∈ps,p.w<=2
 its: ∀it∈E,nL it
 asg: ∀d nm b w,It.asg d nm b w∈E->(bD s w).isSome=true/\ ∃p∈ps,p.nm=nm/\b.toNat<p.w
 tK: ∀c out ins,It.cell c out ins∈E-> ∀w∈out::ins,(bD s w).isSome=true
 lE:E.length<=100
theorem Hx{it:It}:(jZ it).length<=1:=by cases it<;>simp[jZ]
theorem mI: ∀{E:List It},(E.flatMap jZ).length<=E.length
 | []=>aaw _
 | it::E=>by
  rw[aaL,aag,aan]
  have h1:=Hx (it:=it)
  have h2:=mI (E:=E)
  exact Wn h1 h2
end Mine
namespace Mine
noncomputable def xi:Stmt:=bE aX.body 31
noncomputable def pP:Stmt:=bE aX.body 33
noncomputable def xj:Stmt:=bE aX.body 35
noncomputable def wg:Expr:=kX (uw (bE (bG (bE (bG pP 0) 0) 1) 0)) [1,2,1]
noncomputable def PJ(a:Nat)(du:V)(wires:List Str):Ev:=[(q "due",du),(q "netlist",.inst 141 16),(q "numbers",.loc 7),(q "order",.loc 5),(q "ports",.loc 4),(q "rows",.loc a),(q "shown",.loc 6),(q "wires",.lst (wires.map .str))]
noncomputable def LD(a c:Nat)(du:V)(wires:List Str):Ev:=[(q "cells",.loc c),(q "due",du),(q "netlist",.inst 141 16),(q "numbers",.loc 7),(q "order",.loc 5),(q "ports",.loc 4),(q "rows",.loc a),(q "wires",.lst (wires.map .str))]
noncomputable def PK(a c w:Nat)(du:V)(wires:List Str):Ev:=[(q "cells",.loc c),(q "due",du),(q "netlist",.inst 141 16),(q "order",.loc 5),(q "rows",.loc a),(q "ways",.loc w),(q "wires",.lst (wires.map .str))]
noncomputable def zr(ps:List Pt):List (List Int):=ps.map λp=>aaB p.w (-1)
noncomputable def og(ps:List Pt):List Str:=ps.map (·.nm)
theorem Cr{α:Type}{f:α->V}{st:List AO}{n:Nat}{xs pre r:List α}{x:α}(h:st[n]? =some (.lst (xs.map f)))(hl:xs.length<=100000)(he:xs=pre++x::r):fq st (.loc n) pre.length=some (some (f x)):=by
 rw[cM h (by rw[aae];exact hl),he,aaA,aau (by rw[aae];exact aaw _),aae,abo];rfl
theorem Cs{α:Type}{f:α->V}{st:List AO}{n:Nat}{xs:List α}(h:st[n]? =some (.lst (xs.map f)))(hl:xs.length<=100000):fq st (.loc n) xs.length=some none:=by
 rw[cM h (by rw[aae];exact hl),aaS (by rw[aae];exact aaw _)]
theorem GZ{n:Nat}{ys:List V}{st:List AO}{x:Str}(h:st[n]? =some (.lst ys))(hx:(pU .lst x).isSome=true):sF TT (.loc n) x st=some (.knd .lst):=by
 exact zj h hx
section
variable{A:List AO}{ps:List Pt}{du:V}{wires:List Str}
theorem oq(hA:A[4]? =some (.lst (ps.map Pt.v)))(hH:ps.length<=3)(hw: ∀p∈ps,p.w<=2)(nd:(og ps).Nodup): ∀(r pre:List Pt),ps=pre++r->
  bl aA (λj m=>cP TT CL j aA (kM xi) (bG xi 0) (.loc 4) pre.length m (RW A (og pre) (zr pre) [])) (r.length+201) (PJ A.length du wires) (.go .next (PJ A.length du wires) (RW A (og ps) (zr ps) []))
 | [],pre,he=>by
  rw[aav] at he
  subst he
  exact cz (Cs (eC hA) (GJ hH))
 | p::r,pre,he=>by
  have hp:p∈ps:=by rw[he];exact aal.mpr (.inr aak)
  have I0:pre.length<=3:=by rw[he,aag] at hH;exact Qr hH
  have hx:p.nm∉og pre:=by
   unfold og at nd
   rw[he,aaA,aaQ] at nd
   exact λh=>nd.2.2 _ h _ aak rfl
  have go:=oq hA hH hw nd r (pre++[p]) (by rw[he,aax];rfl)
  rw[aag] at go
  have sd:qt (.loc A.length) (.str p.nm) (.loc (RW A (og pre) (zr pre) []).length) (RW A (og pre) (zr pre) []++[MH (aaB p.w (-1))])=some (RW A (og (pre++[p])) (zr (pre++[p])) []):=by
   rw[oG,fh tZ (by rw[BY];unfold og;rw[aae];exact Qs I0),dM (y1 hx),ua]
   unfold RW og zr
   rw[abf _ _ (aaw _),abo,List.set_cons_zero,aaA,aaA,aaq,acS,rW]
   simp
  exact fT (q:=PJ A.length du wires) (l2:=PJ A.length du wires++[(q "way",qs (cu p.d)),(q "port",.str p.nm),(q "wide",.int p.w)]) (Cr (f:=Pt.v) (eC hA) (GJ hH) he) (by kernel_rfl) [fV 2 (PO (st:=RW A (og pre) (zr pre) []) (hw p hp)),fS 10 sd] (by kernel_rfl) (aaD (by decide) (aaI 201 _)) go
theorem oF{rws:List (List Int)}{xs:List Str}{co:AO}(hA:A[4]? =some (.lst (ps.map Pt.v)))(hH:ps.length<=3)(nd:(og ps).Nodup)(hr:rws.length=ps.length){wl:List Pt->List (Str×V)}(w0: ∀ps,(wl ps).map (·.1)=og ps)(w1: ∀ps p,wl (ps++[p])=wl ps++[(p.nm,qs (cu p.d))]): ∀(r pre:List Pt),ps=pre++r->
  bl aA (λj m=>cP TT CL j aA (kM xj) (bG xj 0) (.loc 4) pre.length m (RW A xs rws [co,.aF (wl pre)])) (r.length+201) (PK A.length (A.length+1+ps.length) (A.length+1+ps.length+1) du wires) (.go .next (PK A.length (A.length+1+ps.length) (A.length+1+ps.length+1) du wires) (RW A xs rws [co,.aF (wl ps)]))
 | [],pre,he=>by
  rw[aav] at he
  subst he
  exact cz (Cs (eC hA) (GJ hH))
 | p::r,pre,he=>by
  have I0:pre.length<=3:=by rw[he,aag] at hH;exact Qr hH
  have hx:p.nm∉og pre:=by
   unfold og at nd
   rw[he,aaA,aaQ] at nd
   exact λh=>nd.2.2 _ h _ aak rfl
  have go:=oF (rws:=rws) (xs:=xs) (co:=co) hA hH nd hr w0 w1 r (pre++[p]) (by rw[he,aax];rfl)
  rw[aag] at go
  have hlk:(wl pre).lookup p.nm=none:=ly (by rw[w0];exact hx)
  have tP:(wl pre).length<=900:=by
   have :=congrArg abx (w0 pre)
   unfold og at this
   rw[aae,aae] at this;exact Wo I0 this
  have sd:qt (.loc (A.length+1+ps.length+1)) (.str p.nm) (qs (cu p.d)) (RW A xs rws [co,.aF (wl pre)])=some (RW A xs rws [co,.aF (wl (pre++[p]))]):=by
   rw[<-hr,fh (vV (j:=1) rfl) tP,dM hlk,vW,w1];rfl
  exact fT (q:=PK A.length (A.length+1+ps.length) (A.length+1+ps.length+1) du wires) (l2:=PK A.length (A.length+1+ps.length) (A.length+1+ps.length+1) du wires++[(q "way",qs (cu p.d)),(q "port",.str p.nm),(q "wide",.int p.w)]) (Cr (f:=Pt.v) (eC hA) (GJ hH) he) (by kernel_rfl) [fS 10 sd] (by kernel_rfl) (aaD (by decide) (aaI 201 _)) go
end
section
variable{A:List AO}{ps:List Pt}{du:V}{wires:List Str}{s:Q}{E:List It}{nu:List (Str×V)}
theorem qd{x:Str}{st:List AO}(N:dB nu s)(h:st[7]? =some (.aF nu))(hx:(bD s x).isSome=true):eQ (.loc 7) (.str x) st=ok (.int (aG s x)) st:=by
 refine aj (aaX.mp hx) λv hv=> ?_
 refine eR h ?_
 rw[N.look,gJ hv];unfold jt;rw[hv]
theorem Ls{c:CK}{n:Nat}(h:c.Ok n): ∀st,bk .In (.str c.kd) (.tup [qs "input",qs "output"]) st=ok false st:=λst=>by
 cases c with
 | gate nm=>rcases h with h | h | h<;>rw[h.1]<;>kernel_rfl
 | _=>kernel_rfl
theorem Na{d:Bool}: ∀st,bk .In (qs (cu d)) (.tup [qs "input",qs "output"]) st=ok true st:=λst=>by cases d<;>kernel_rfl
theorem xu{r pre:List It}{it:It}{v:V}{st:List AO}(h:st[6]? =some (.lst (E.flatMap jZ)))(hl:(E.flatMap jZ).length<=100000)(he:E=pre++it::r)(hs:jZ it=[v]):fq st (.loc 6) (pre.flatMap jZ).length=some (some v):=by
 rw[cM h hl,he,aaM,aaL,hs,aau (aaw _),abo];rfl
noncomputable def nsV(num:Str->Int)(v:V):V:=match v with
 | .str x=> .int (num x)
 | _=> .none
theorem Gz{st:List AO}(N:dB nu s)(h7:st[7]? =some (.aF nu)){a b c:V}{ins:List Str}(hl:ins.length<=100)(hw: ∀w∈ins,(bD s w).isSome=true):Gives aA (λj m=>bH TT CL j aA false m st wg) 400 [(q "one",.tup [a,b,cy ins,c]),(q "numbers",.loc 7)] (.lst (ins.map λw=> .int (aG s w))) st:=λn hn=>by
 have lp:=iL (cl:=CL) (F:=aA) (e:=wg) (l:=[(q "one",.tup [a,b,cy ins,c]),(q "numbers",.loc 7)]) (st:=st) (src:=cy ins) (g:=nsV (aG s)) (by kernel_rfl) (by kernel_rfl) (λi=>dJ (xs:=ins.map .str) (by rw[aae];exact nz hl)) (by rw[aae];exact GA hl) (λv hv=>by
  refine ae hv ?_;rintro x hx rfl
  exact⟨[fV 4 (qd N h7 (hw x hx))],by kernel_rfl⟩) _ [] [] rfl (aaw _)
 rw[aaP,aaN,aae] at lp
 exact dE (mu:=false) (fs:=[]) (by kernel_rfl) (by kernel_rfl) (by kernel_rfl) (nA) lp (if_pos (show(ins.map (nsV (aG s)∘V.str)).length<=100000 by rw[aae];exact nz hl)) n (GB hl hn)
theorem mH(S:NY ps s E)(N:dB nu s)(h6:A[6]? =some (.lst (E.flatMap jZ)))(h7:A[7]? =some (.aF nu)): ∀(r pre:List It),E=pre++r->
  bl aA (λj m=>cP TT CL j aA (kM pP) (bG pP 0) (.loc 6) (pre.flatMap jZ).length m (CS A ps (aG s) pre)) (r.length+1001) (LD A.length (A.length+1+ps.length) du wires) (.go .next (LD A.length (A.length+1+ps.length) du wires) (CS A ps (aG s) E))
 | [],pre,he=>by
  rw[aav] at he
  subst he
  have hl:=mI (E:=E)
  have IY:=S.lE
  exact cz (by rw[cM (eC h6) (Ma hl IY),aaS (aaw _)])
 | it::r,pre,he=>by
  have hl:=mI (E:=E)
  have IY:=S.lE
  have mh:it∈E:=by rw[he];exact aal.mpr (.inr aak)
  have go:=mH S N h6 h7 r (pre++[it]) (by rw[he,aax];rfl)
  have h1k:1000<=r.length+1001:=aaD (by decide) (aaI 1001 _)
  rw[KC,aag] at go
  cases it with
  | port d nm k=>
   unfold CS at go ⊢
   rw[bz,bz] at go
   simp only[aZ,bx,Option.toList_none,aav] at go
   exact go.le (acN _)
  | wire x xs=>
   unfold CS at go ⊢
   rw[bz,bz] at go
   simp only[aZ,bx,Option.toList_none,aav] at go
   exact go.le (acN _)
  | asg d nm b w=>
   obtain⟨hw,p,hp,qH,hb⟩:=S.asg d nm b w mh
   subst qH
   refine aj (aa4 hp) λj hj=> ?_
   have yO:dX b:=(S.its _ mh).2.1
   have Sh:0<=b:=by rcases yO with h | h<;>omega
   have hxj:(ps.map (·.nm))[j]? =some p.nm:=by rw[aay,hj];rfl
   have hrj:(gq (aG s) ps (pre.filterMap aZ))[j]? =some (dz (aG s) p.nm p.w (pre.filterMap aZ)):=by rw[aay,hj];rfl
   have Pk:=S.pw p hp
   have sl:qt (.loc (A.length+1+j)) (.int b) (.int (aG s w)) (CS A ps (aG s) pre)=some (CS A ps (aG s) (pre++[It.asg d p.nm b w])):=by
    rw[jY (n:=A.length+1+j) (xs:=(dz (aG s) p.nm p.w (pre.filterMap aZ)).map V.int) (zV hrj) (by rw[aae,mG];exact Wq Pk) Sh (by rw[aae,mG];exact SA hb)]
    have e0:AO.lst (((dz (aG s) p.nm p.w (pre.filterMap aZ)).map V.int).set b.toNat (.int (aG s w)))=MH ((dz (aG s) p.nm p.w (pre.filterMap aZ)).set b.toNat (aG s w)):=by
     unfold MH;rw[List.map_set]
    have e1:(pre++[It.asg d p.nm b w]).filterMap aZ=pre.filterMap aZ++[(p.nm,b,w)]:=by rw[bz];rfl
    have e2:(pre++[It.asg d p.nm b w]).filterMap bx=pre.filterMap bx:=by rw[bz];exact aav _
    rw[e0]
    unfold CS
    rw[JK hrj,Hi S.nd hj,e1,e2]
   exact eM (K:=1000) (q:=LD A.length (A.length+1+ps.length) du wires) (l2:=LD A.length (A.length+1+ps.length) du wires++[(q "one",.tup [qs (cu d),.str p.nm,.int b,.str w])]) (xu (eC h6) (Ma hl IY) he rfl) (by kernel_rfl)
    [fb (Na (d:=d)),no 4,fV 4 (qd (st:=CS A ps (aG s) pre) N (eC h7) hw),no 4,fV 4 (eR (st:=CS A ps (aG s) pre) tZ (kx S.nd hxj)),fS 10 sl] (by kernel_rfl) h1k go
  | cell c out ins=>
   have hw:=S.tK c out ins mh
   have hI:=S.its _ mh
   have hil:=hI.1.le
   have iY:((pre.filterMap bx).map (kT (aG s))).length<=200:=by
    rw[aae]
    have :=aca bx pre
    rw[he,aag] at IY;exact Wr IY this
   have gc:(CS A ps (aG s) pre)[A.length+1+ps.length]? =some (.lst ((pre.filterMap bx).map (kT (aG s)))):=by
    have :=vV (A:=A) (xs:=ps.map (·.nm)) (rws:=gq (aG s) ps (pre.filterMap aZ)) (tl:=[.lst ((pre.filterMap bx).map (kT (aG s)))]) (j:=0) rfl
    rwa [aae] at this
   have ap:=bW (v:= .tup [.str c.kd,.int (aG s out),.tup (ins.map λw=>V.int (aG s w)),c.pr]) gc (Ws iY)
   have e:(CS A ps (aG s) pre).set (A.length+1+ps.length) (.lst ((pre.filterMap bx).map (kT (aG s))++[.tup [.str c.kd,.int (aG s out),.tup (ins.map λw=>V.int (aG s w)),c.pr]]))=CS A ps (aG s) (pre++[It.cell c out ins]):=by
    have e1:(pre++[It.cell c out ins]).filterMap aZ=pre.filterMap aZ:=by rw[bz];exact aav _
    have e2:(pre++[It.cell c out ins]).filterMap bx=pre.filterMap bx++[⟨c,out,ins⟩]:=by rw[bz];rfl
    have e3:(V.tup [.str c.kd,.int (aG s out),.tup (ins.map λw=>V.int (aG s w)),c.pr])=kT (aG s) ⟨c,out,ins⟩:=by
     unfold kT cW
     rw[aaN];rfl
    unfold CS
    rw[e1,e2,e3,aaA]
    have :=vW (A:=A) (xs:=ps.map (·.nm)) (rws:=gq (aG s) ps (pre.filterMap aZ)) (tl:=[.lst ((pre.filterMap bx).map (kT (aG s)))]) (j:=0) (o:= .lst ((pre.filterMap bx).map (kT (aG s))++[kT (aG s) ⟨c,out,ins⟩]))
    rwa [aae] at this
   rw[e] at ap
   exact eM (K:=1000) (q:=LD A.length (A.length+1+ps.length) du wires) (l2:=LD A.length (A.length+1+ps.length) du wires++[(q "one",.tup [.str c.kd,.str out,cy ins,c.pr])]) (xu (eC h6) (Ma hl IY) he rfl) (by kernel_rfl)
    [fb (Ls hI.1),fP (GZ (x:=q "append") gc (by kernel_rfl)),no 4,no 4,fV 4 (qd (st:=CS A ps (aG s) pre) N (eC h7) (hw out aak)),fG (Gz (st:=CS A ps (aG s) pre) (a:= .str c.kd) (b:= .str out) (c:=c.pr) (ins:=ins) N (eC h7) (Qb hil) (λw h=>hw w (aai _ h))),fF 6 (oD (xs:=ins.map λw=>V.int (aG s w)) (by rw[aae];exact PY hil)),fV 7 ap] (by kernel_rfl) h1k go
end
end Mine
namespace Mine
noncomputable abbrev f5(ps:List Pt):List (Str×V):=ps.map λp=>(p.nm,qs (cu p.d))
theorem yb{p:Pt}: ∀{ps:List Pt},(ps.map (·.nm)).Nodup->p∈ps->(f5 ps).lookup p.nm=some (qs (cu p.d))
 | [],_,h=>by cases h
 | x::ps,nd,h=>by
  rw[aaq,aaK] at nd
  show acM p.nm ((x.nm,qs (cu x.d))::f5 ps)=_
  rcases aat.mp h with rfl | h
  ·rw[aao];simp
  ·have aa:p.nm≠x.nm:=λe=>nd.1 (e▸aaH.mpr ⟨p,h,rfl⟩)
   rw[aao,beq_false_of_ne aa]
   exact yb nd.2 h
theorem kB: ∀{l:List Int},dk (l.map V.int)=l.map acd
 | []=>rfl
 | i::l=>by show eP (.int i)::dk (l.map V.int)=_;rw[kB];rfl
noncomputable def g5(d:Bool)(l:List dA):List V:=(l.filter λp=>p.1==d).map λp=> .tup [.str p.2.1,.lst (p.2.2.map .int)]
theorem A0{F:Nat->Nat->Option PyData}{nm:Str}{a:Nat}{D:PyData}(hs:aL nm=true)(hF:F 28 a=some D):tj F 29 (.tup [.str nm,.loc a])=some (.tuple [.str nm,D]):=
 aK (eD (if_pos (show adl nm=true from hs)) (eD hF rfl))
theorem rY{st:List AO}{a k:Nat}{p:dA}(h:st[a]? =some (fZ p)):k7 st (k+1) 28 a=some (.list (p.2.2.map acd)):=
 (aK (bR h)).trans (aK jx)
theorem Bh{st:List AO}{d:Bool}{k:Nat}: ∀{l:List dA} {j:Nat},(∀i p,l[i]? =some p->st[j+i+16]? =some (fZ p))->(∀p∈l,aL p.2.1=true)->dO (k7 st (k+1)) 29 ((bg d j l).map Jt)=some (dk (g5 d l))
 | [],_,_,_=>rfl
 | (e,nm,row)::l,j,hr,hs=>by
  have ih:=Bh (k:=k) (d:=d) (l:=l) (j:=j+1) (λi p h=>by rw[show j+1+i+16=j+(i+1)+16 by exact Wt];exact hr (i+1) p (by simpa using h)) (λp h=>hs p (aai _ h))
  have h0:=hr 0 (e,nm,row) rfl
  by_cases he:e=d
  ·subst he
   have e1:bg e j ((e,nm,row)::l)=(nm,.loc (j+16))::bg e (j+1) l:=by rw[bg,if_pos rfl]
   have e2:g5 e ((e,nm,row)::l)= .tup [.str nm,.lst (row.map .int)]::g5 e l:=by unfold g5;rw[abj (by simp)];rfl
   rw[e1,e2,aaq]
   refine(eD (A0 (hs (e,nm,row) (by simp)) (rY h0)) ih).trans ?_
   show some (acV [.str nm,.list (row.map acd)]::_)=some (acV [.str nm,.list (dk (row.map V.int))]::_)
   rw[kB]
  ·have e1:bg d j ((e,nm,row)::l)=bg d (j+1) l:=by rw[bg,if_neg he]
   have e2:g5 d ((e,nm,row)::l)=g5 d l:=by unfold g5;rw[abi (by simpa using he)]
   rw[e1,e2];exact ih
theorem Jc{st:List AO}{k:Nat}{f:dA->Nat}: ∀{l:List dA},(∀p∈l,st[f p]? =some (fZ p))->(∀p∈l,aL p.2.1=true)->dO (k7 st (k+1)) 29 (l.map λp=>V.tup [.str p.2.1,.loc (f p)])=some (dk (l.map λp=>V.tup [.str p.2.1,.lst (p.2.2.map .int)]))
 | [],_,_=>rfl
 | p::l,hr,hs=>by
  have ih:=Jc (k:=k) (l:=l) (λp h=>hr p (aai _ h)) (λp h=>hs p (aai _ h))
  rw[aaq,aaq]
  refine(eD (A0 (hs p (by simp)) (rY (hr p (by simp)))) ih).trans ?_
  show some (acV [.str p.2.1,.list (p.2.2.map acd)]::_)=some (acV [.str p.2.1,.list (dk (p.2.2.map V.int))]::_)
  rw[kB]
theorem zw{d:Bool}{l:List dA}(hs: ∀p∈l,aL p.2.1=true):dat false (.lst (g5 d l)) 3=true:=by
 show dF false (g5 d l) 2=true
 rw[dG]
 intro x hx
 refine ae hx ?_;rintro p hp rfl
 have h1:dF false (p.2.2.map V.int) 0=true:=by
  rw[dG];intro y hy
  refine ae hy ?_;rintro i _ rfl
  rfl
 show(aL p.2.1&&(dF false (p.2.2.map V.int) 0&&true))=true
 rw[hs p (abL.mp hp).1,h1];rfl
theorem lX{d:Bool}: ∀{l:List dA} {j:Nat},(bg d j l).length=(l.filter λp=>p.1==d).length
 | [],_=>rfl
 | (e,nm,row)::l,j=>by
  by_cases he:e=d
  ·subst he;rw[bg,if_pos rfl,abj (by simp),aan,aan,lX]
  ·rw[bg,if_neg he,abi (by simpa using he),lX]
theorem AV{st:List AO}{d:Bool}{a:Nat}{l:List dA}{f:dA->Nat}(h1:st[a]? =some (.lst (bp d l)))(hr: ∀i p,l[i]? =some p->st[i+4+16]? =some (fZ p))(hf: ∀p∈l,st[f p]? =some (fZ p))(hs: ∀p∈l,aL p.2.1=true):
  bk .NotEq (.loc a) (.lst ((l.filter λp=>p.1==d).map λp=>V.tup [.str p.2.1,.loc (f p)])) st=ok false st:=by
 cases hl:l.filter (λp=>p.1==d) with
 | nil=>
  have e:bp d l=[]:=by
   have :=lX (d:=d) (l:=l) (j:=4)
   rw[hl] at this
   unfold bp
   rw[abw this];rfl
  rw[e] at h1
  exact ne_nil h1 (by simp)
 | cons x r=>
  have e1:toD st (.loc a)=some (.list (dk (g5 d l))):=by
   rw[qz h1];unfold bp;rw[Bh (λi p h=>by rw[acb 4 i];exact hr i p h) hs];rfl
  have e2:toD st (.lst ((l.filter λp=>p.1==d).map λp=>V.tup [.str p.2.1,.loc (f p)]))=some (.list (dk (g5 d l))):=by
   rw[xQ,Jc (λp hp=>hf p (abL.mp hp).1) (λp hp=>hs p (abL.mp hp).1)];rfl
  have hv:tv st (.loc a) (.lst ((l.filter λp=>p.1==d).map λp=>V.tup [.str p.2.1,.loc (f p)]))=some true:=by
   exact(vL e1 e2).trans (congrArg some (gK (.lst (g5 d l)) 3 (zw hs)))
  rw[hl] at hv
  exact congrArg jS (aK hv:(oK (tv st (.loc a) (.lst ((x::r).map λp=>V.tup [.str p.2.1,.loc (f p)]))) λb=>ok b st)=_)
noncomputable def strOf(v:V):Str:=match v with
 | .str x=>x
 | _=>abM
noncomputable def fL(a:Nat)(xs:List Str)(p:dA):Nat:=match(gI a xs).lookup p.2.1 with
 | some (.loc n)=>n
 | _=>0
noncomputable def pD(d:Bool)(l:List dA)(v:V):Bool:=(l.find? λp=>p.2.1==strOf v).any (·.1==d)
noncomputable def gD(a:Nat)(xs:List Str)(v:V):V:= .tup [v,((gI a xs).lookup (strOf v)).getD .none]
theorem l7{p:dA}: ∀{l:List dA},(l.map (·.2.1)).Nodup->p∈l->(l.find? λx=>x.2.1==p.2.1)=some p
 | [],_,h=>by cases h
 | x::l,nd,h=>by
  rw[aaq,aaK] at nd
  rcases aat.mp h with rfl | h
  ·rw[List.find?_cons_of_pos (by simp)]
  ·have aa:x.2.1≠p.2.1:=λe=>nd.1 (e▸aaH.mpr ⟨p,h,rfl⟩)
   rw[List.find?_cons_of_neg (by simpa using aa)]
   exact l7 nd.2 h
structure oH(ps:List Pt)(rws:List (List Int))(l:List dA):Prop where
 nd:(ps.map (·.nm)).Nodup
 nl:(l.map (·.2.1)).Nodup
 row: ∀p∈l,∃(j:Nat) (pt:Pt),ps[j]? =some pt/\pt.nm=p.2.1/\pt.d=p.1/\rws[j]? =some p.2.2
 st: ∀p∈l,aL p.2.1=true
 ll:l.length<=20
section
variable{A:List AO}{ps:List Pt}{du:V}{wires:List Str}{rws:List (List Int)}{tl:List AO}{l:List dA}{co:AO}
theorem oH.f(S:oH ps rws l){p:dA}(hp:p∈l): ∃(j:Nat) (pt:Pt),ps[j]? =some pt/\pt.nm=p.2.1/\pt.d=p.1/\(∀a,(gI a (ps.map (·.nm))).lookup p.2.1=some (.loc (a+j)))/\rws[j]? =some p.2.2:=by
 refine km (S.row p hp) λj pt h1 h2 h3 h4=> ?_
 refine⟨j,pt,h1,h2,h3,λa=>kx S.nd ?_,h4⟩
 rw[aay,h1,<-h2];rfl
theorem oH.at(S:oH ps rws l){p:dA}(hp:p∈l):(RW A (ps.map (·.nm)) rws tl)[fL (A.length+1) (ps.map (·.nm)) p]? =some (fZ p):=by
 refine Fi (S.f hp) λj pt h1 h2 h3 h4 h5=> ?_
 unfold fL
 simp only[h4]
 exact zV h5
theorem oH.list(S:oH ps rws l)(d:Bool)(a:Nat):((l.map dQ).filter (pD d l)).map (gD a (ps.map (·.nm)))=(l.filter λp=>p.1==d).map λp=>V.tup [.str p.2.1,.loc (fL a (ps.map (·.nm)) p)]:=by
 rw[adb,aaN]
 have e:l.filter (pD d l∘dQ)=l.filter λp=>p.1==d:=acJ λp hp=>by
  show(l.find? λx=>x.2.1==p.2.1).any (·.1==d)=_
  rw[l7 S.nl hp];rfl
 rw[e]
 refine abe λp hp=> ?_
 refine Fi (S.f (abL.mp hp).1) λj pt h1 h2 h3 h4 h5=> ?_
 show V.tup [.str p.2.1,((gI a (ps.map (·.nm))).lookup p.2.1).getD .none]=V.tup [.str p.2.1,.loc (fL a (ps.map (·.nm)) p)]
 unfold fL
 rw[h4];rfl
noncomputable def E2:Expr:=kX (uw (bE aX.body 36)) [1]
noncomputable def E3:Expr:=kX (uw (bE aX.body 37)) [1]
noncomputable def PM(a w:Nat):Ev:=[(q "order",.loc 5),(q "rows",.loc a),(q "ways",.loc w)]
noncomputable def Ti(l:List dA)(d:Bool)(f:dA->Nat):V:= .lst ((l.filter λp=>p.1==d).map λp=> .tup [.str p.2.1,.loc (f p)])
theorem Iu{c:Expr}{d:Bool}(S:oH ps rws l)(hr:rws.length=ps.length)(h5:A[5]? =some (.lst (l.map dQ)))(h1:BR c=true)(hc:cO aA (fu c) (kh c)=true)(hi:dm c=[oZ c])
  (hs:rE TT CL 200 aA false (PM A.length (A.length+1+ps.length+1)) (RW A (ps.map (·.nm)) rws [co,.aF (f5 ps)]) (yz c) [] ik=some (.go (.ret (.loc 5)) [] (RW A (ps.map (·.nm)) rws [co,.aF (f5 ps)]),[]))
  (ht: ∀(x:Str) (e:Bool) (fs:List Fc) (h: ∃h1,∃h2,fs=[fV 4 (r:=eQ (.loc (A.length+1+ps.length+1)) (.str x) (RW A (ps.map (·.nm)) rws [co,.aF (f5 ps)])) (v:=qs (cu e)) (st:=RW A (ps.map (·.nm)) rws [co,.aF (f5 ps)]) h1,fb (p:=bk .Eq (qs (cu e)) (qs (cu d))) (c:=e==d) h2]),rT TT CL 200 (FC aA c) (cV (PM A.length (A.length+1+ps.length+1)) c (.str x)) (RW A (ps.map (·.nm)) rws [co,.aF (f5 ps)]) (oZ c) fs kY=some (.go (.ret (.bool (e==d))) [] (RW A (ps.map (·.nm)) rws [co,.aF (f5 ps)]),f7 fs))
  (he: ∀(x:Str) (a:Nat) (fs:List Fc) (h: ∃h1,fs=[fV 4 (r:=eQ (.loc A.length) (.str x) (RW A (ps.map (·.nm)) rws [co,.aF (f5 ps)])) (v:= .loc a) (st:=RW A (ps.map (·.nm)) rws [co,.aF (f5 ps)]) h1]),rE TT CL 200 (FC aA c) false (cV (PM A.length (A.length+1+ps.length+1)) c (.str x)) (RW A (ps.map (·.nm)) rws [co,.aF (f5 ps)]) (ej c) fs ik=some (.go (.ret (.tup [.str x,.loc a])) [] (RW A (ps.map (·.nm)) rws [co,.aF (f5 ps)]),f7 fs)):
  Gives aA (λj m=>bH TT CL j aA false m (RW A (ps.map (·.nm)) rws [co,.aF (f5 ps)]) c) 400 (PM A.length (A.length+1+ps.length+1)) (Ti l d (fL (A.length+1) (ps.map (·.nm)))) (RW A (ps.map (·.nm)) rws [co,.aF (f5 ps)]):=λn hn=>by
 have k6:=S.ll
 have g:(RW A (ps.map (·.nm)) rws [co,.aF (f5 ps)])[A.length+1+ps.length+1]? =some (.aF (f5 ps)):=by rw[<-hr];exact vV rfl
 have hle:=abd (λp:dA=>p.1==d) l
 have lp:=oX (cl:=CL) (F:=aA) (e:=c) (l:=PM A.length (A.length+1+ps.length+1)) (st:=RW A (ps.map (·.nm)) rws [co,.aF (f5 ps)]) (src:= .loc 5) (all:=l.map dQ) (g:=gD (A.length+1) (ps.map (·.nm))) (p:=pD d l) hc hi (λi=>cM (eC h5) (by rw[aae];exact QI k6)) (by rw[aae];exact Qt k6) (λv hv=>by
  refine ae hv ?_;rintro p hp rfl
  refine Fi (S.f hp) λj pt h1 h2 h3 h4 _=> ?_
  have hw:(f5 ps).lookup p.2.1=some (qs (cu p.1)):=by rw[<-h2,<-h3];exact yb S.nd (aas h1)
  rw[show pD d l (dQ p)=(p.1==d) by
   show(l.find? λx=>x.2.1==p.2.1).any (·.1==d)=_
   rw[l7 S.nl hp];rfl]
  exact⟨_,ht p.2.1 p.1 _ ⟨eR g hw,λst=>by cases p.1<;>cases d<;>kernel_rfl,rfl⟩⟩) (λv hv _=>by
  refine ae hv ?_;rintro p hp rfl
  refine Fi (S.f hp) λj pt h1 h2 h3 h4 _=> ?_
  rw[show gD (A.length+1) (ps.map (·.nm)) (dQ p)= .tup [.str p.2.1,.loc (A.length+1+j)] by
   show V.tup [dQ p,((gI (A.length+1) (ps.map (·.nm))).lookup p.2.1).getD .none]=_
   rw[h4];rfl]
  exact⟨_,he p.2.1 (A.length+1+j) _ ⟨eR tZ (h4 _),rfl⟩⟩) _ [] [] rfl (aaw _)
 rw[aaP,S.list,aae] at lp
 exact dE (mu:=false) (fs:=[]) h1 hc hs (nA) lp (if_pos (by rw[aae];exact Wu k6 hle)) n (Wv hn k6)
end
theorem E7{num:Str->Int}{c:CK}{out:Str}{ins:List Str}(h:nL (.cell c out ins)):dat false (kT num ⟨c,out,ins⟩) 2=true:=by
 have h1:dF false ((ins.map λw=>(w,num w)).map wV) 0=true:=by
  rw[dG];intro y hy
  refine ae hy ?_;rintro i _ rfl
  rfl
 have h2:aL c.kd=true:=by
  have :=h.2.1
  cases c with
  | gate nm=>exact this
  | _=>kernel_rfl
 have h3:dat false c.pr 1=true:=by
  have :=h.2.1
  have hs:aL (q "O W")=true:=by decide+kernel
  cases c with
  | ir e x nm=>
   show(true&&(aL nm&&(true&&true)))=true
   rw[show aL nm=true from this];rfl
  | ew x nm=>
   show(aL nm&&(true&&true))=true
   rw[show aL nm=true from this];rfl
  | tK m b t=>
   show(aL (q "O W")&&(true&&true))=true
   rw[hs];rfl
  | _=>rfl
 show(aL c.kd&&(true&&(dF false ((ins.map λw=>(w,num w)).map wV) 0&&(dat false c.pr 1&&true))))=true
 rw[h1,h2,h3];rfl
section
variable{A:List AO}{ps:List Pt}{wires:List Str}{s:Q}{E:List It}
theorem A2{st:List AO}{a b:Nat}{l:List V}(h1:st[a]? =some (.lst l))(h2:st[b]? =some (.lst l))(hd:dF false l 2=true):bk .Eq (.loc a) (.loc b) st=ok true st:=by
 have e: ∀{n},st[n]? =some (.lst l)->toD st (.loc n)=some (.list (dk l)):=λh=>by
  rw[qz h,gh l 2 29 hd (by decide)];rfl
 have hv:tv st (.loc a) (.loc b)=some true:=by
  exact(vL (e h1) (e h2)).trans (congrArg some (gK (.lst l) 3 hd))
 exact(aK hv:(oK (tv st (.loc a) (.loc b)) λb=>ok b st)=_)
structure Ends(A:List AO)(wires:List Str)(s:Q):Prop where
 h16:A[16]? =some (.aF (zd (qs "m1") (s.nets.length+2) 16))
 h17:A[17]? =some (.lst (bp true s.ah))
 h18:A[18]? =some (.lst (bp false s.ah))
 h19:A[19]? =some (.lst s.cells)
 rows: ∀i p,s.ah[i]? =some p->A[i+4+16]? =some (fZ p)
 h5:A[5]? =some (.lst (s.ah.map dQ))
 wl:s.nets.length=wires.length
 w4:wires.length<=10
noncomputable def ZS(A:List AO)(ps:List Pt)(s:Q)(E:List It):List AO:=RW A (ps.map (·.nm)) (gq (aG s) ps (E.filterMap aZ)) [.lst ((E.filterMap bx).map (kT (aG s))),.aF (f5 ps)]
theorem LN{st:List AO}{x:Str}{fs:List (Str×V)}{v:V}(h:st[16]? =some (.aF fs))(hp:TT.attr 141 x=true)(hv:fs.lookup x=some v)(hH:v.plain=true):oR TT (.inst 141 16) x st=ok v st:=by
 show(if TT.attr 141 x then rO (.inst 141 16) x st else none)=_
 rw[if_pos hp]
 exact(aK (cZ h)).trans ((aK hv).trans (if_pos hH))
theorem E9(S:oH ps (gq (aG s) ps (E.filterMap aZ)) s.ah)(X:Ends A wires s)(hc:s.cells=(E.filterMap bx).map (kT (aG s)))(yP:dF false s.cells 2=true):
  LG 36 1000 (PK A.length (A.length+1+ps.length) (A.length+1+ps.length+1) .none wires) (ZS A ps s E):=by
 have Pg:=X.w4
 have hr:(gq (aG s) ps (E.filterMap aZ)).length=ps.length:=by rw[aae]
 have old: ∀{i:Nat} {o:AO},A[i]? =some o->(ZS A ps s E)[i]? =some o:=λh=>eC h
 have c8:=Iu (c:=E2) (d:=true) (co:= .lst ((E.filterMap bx).map (kT (aG s)))) S hr X.h5 (by kernel_rfl) (by kernel_rfl) (by kernel_rfl) (by kernel_rfl) (λx e fs h=>by refine eJ h ?_;clear h;rintro h1 h2 rfl;kernel_rfl) (λx e fs h=>by refine aj h ?_;clear h;rintro h1 rfl;kernel_rfl)
 have c9:=Iu (c:=E3) (d:=false) (co:= .lst ((E.filterMap bx).map (kT (aG s)))) S hr X.h5 (by kernel_rfl) (by kernel_rfl) (by kernel_rfl) (by kernel_rfl) (λx e fs h=>by refine eJ h ?_;clear h;rintro h1 h2 rfl;kernel_rfl) (λx e fs h=>by refine aj h ?_;clear h;rintro h1 rfl;kernel_rfl)
 have K2: ∀p∈s.ah,(ZS A ps s E)[fL (A.length+1) (ps.map (·.nm)) p]? =some (fZ p):=λp hp=>S.at hp
 have gc:(ZS A ps s E)[A.length+1+ps.length]? =some (.lst s.cells):=by
  unfold ZS
  rw[hc,<-hr];exact vV (j:=0) rfl
 have at': ∀(x:String) (v:V),TT.attr 141 (q x)=true->(zd (qs "m1") (s.nets.length+2) 16).lookup (q x)=some v->v.plain=true->oR TT (.inst 141 16) (q x) (ZS A ps s E)=ok v (ZS A ps s E):=λx v h1 h2 h3=>LN (old X.h16) h1 h2 h3
 have d8:=AV (a:=17) (old X.h17) (λi p h=>old (X.rows i p h)) K2 S.st
 have d9:=AV (a:=18) (old X.h18) (λi p h=>old (X.rows i p h)) K2 S.st
 have ec:=A2 (old X.h19) gc yP
 have cn: ∀st,bk .Eq (.int ((s.nets.length:Int)+2)) (.int (2+(wires.length:Int))) st=ok true st:=λst=>by
  show ok ((s.nets.length:Int)+2==2+(wires.length:Int)) st=_
  rw[X.wl,Int.add_comm,beq_self_eq_true]
 exact LG.ret (K:=1000) (st':=ZS A ps s E) [fV 1 (at' "inputs" (.loc 17) (by kernel_rfl) (by kernel_rfl) rfl),fG c8,fB d8,fV 1 (at' "outputs" (.loc 18) (by kernel_rfl) (by kernel_rfl) rfl),fG c9,fB d9,fV 1 (at' "name" (qs "m1") (by kernel_rfl) (by kernel_rfl) rfl),no 3,fV 1 (at' "count" (.int ((s.nets.length:Int)+2)) (by kernel_rfl) (by kernel_rfl) rfl),fF 5 (len_strs (l:=wires) (PY Pg)),fb cn,fV 1 (at' "cells" (.loc 19) (by kernel_rfl) (by kernel_rfl) rfl),fB ec] (by kernel_rfl)
variable{nu:List (Str×V)}
theorem Fn(H:NY ps s E)(N:dB nu s)(S:oH ps (gq (aG s) ps (E.filterMap aZ)) s.ah)(X:Ends A wires s)(hc:s.cells=(E.filterMap bx).map (kT (aG s)))(yP:dF false s.cells 2=true)
  (h4:A[4]? =some (.lst (ps.map Pt.v))) (h6:A[6]? =some (.lst (E.flatMap jZ))) (h7:A[7]? =some (.aF nu)):
  LG 30 5000 [(q "due",.none),(q "netlist",.inst 141 16),(q "numbers",.loc 7),(q "order",.loc 5),(q "ports",.loc 4),(q "shown",.loc 6),(q "wires",.lst (wires.map .str))] A:=by
 have IY:=H.lE
 have hH:=H.pl
 have g1:=E9 S X hc yP
 have w:=oF (A:=A) (ps:=ps) (du:= .none) (wires:=wires) (xs:=ps.map (·.nm)) (rws:=gq (aG s) ps (E.filterMap aZ)) (co:= .lst ((E.filterMap bx).map (kT (aG s)))) h4 hH H.nd (by rw[aae]) (wl:=f5) (λps=>aaN) (λps p=>aaA) ps [] rfl
 have sh:=mH (A:=A) (ps:=ps) (du:= .none) (wires:=wires) H N h6 h7 E [] rfl
 have rl:=oq (A:=A) (ps:=ps) (du:= .none) (wires:=wires) h4 hH H.pw H.nd ps [] rfl
 have e0:RW A (og ps) (zr ps) []++[.lst []]=CS A ps (aG s) []:=oG
 have e1:(RW A (og ps) (zr ps) []).length=A.length+1+ps.length:=by rw[ua];unfold zr;rw[aae];rfl
 have e2:CS A ps (aG s) E++[.aF []]=RW A (ps.map (·.nm)) (gq (aG s) ps (E.filterMap aZ)) [.lst ((E.filterMap bx).map (kT (aG s))),.aF (f5 [])]:=oG
 have e3:(CS A ps (aG s) E).length=A.length+1+ps.length+1:=by unfold CS;rw[ua,aae];rfl
 have m1: ∀st,mk true [] st=ok (.loc st.length) (st++[.lst []]):=λst=>rfl
 have k1:mk true [] (RW A (og ps) (zr ps) [])=ok (.loc (A.length+1+ps.length)) (CS A ps (aG s) []):=by rw[m1,e0,e1]
 rw[<-e2,<-e3] at w
 rw[<-e3] at g1
 have g2:=LG.seg (i:=34) (j:=2) (K:=1000) (N:=1100) (l:=LD A.length (A.length+1+ps.length) .none wires) (st:=CS A ps (aG s) E) [fR (w.le (N':=900) (Qu hH))] (by kernel_rfl) rfl (by decide) (g1.le (by decide))
 have g3:=LG.seg (i:=32) (j:=2) (K:=2000) (N:=2100) (l:=PJ A.length .none wires) (st:=RW A (og ps) (zr ps) []) [fV 31 k1,fR (sh.le (N':=1500) (Ww IY))] (by kernel_rfl) rfl (by decide) (g2.le (by decide))
 exact LG.le (LG.seg (i:=30) (j:=2) (K:=1000) [fR (rl.le (N':=900) (Qu hH))] (by kernel_rfl) rfl (by decide) g3) (by decide)
end
end Mine
namespace Mine
theorem CZ{st:List AO}{n:Nat}{xs:List V}(h:st[n]? =some (.lst xs))(hl:xs.length<=900):eF .lst (.loc n) (q "reverse") [] st=ok .none (st.set n (.lst xs.reverse)):=by
 have n1:q "reverse"≠q "append":=by decide+kernel
 have gH:xs.length<100000:=by exact Mb hl
 exact(r8 h gH).trans ((if_neg n1).trans (if_pos rfl))
theorem uO{i j:Int}(h:i≠j): ∀st,bk .Eq (.int i) (.int j) st=ok false st:=λst=>by
 show ok (i==j) st=_
 rw[beq_false_of_ne h]
section
variable{c0:AO}{pl de po sh re:List V}{nu:List (Str×V)}{names:List Str}{tx ag:List Tk}{wires:List Str}{sort:Int}{du:V}{st:List AO}
theorem nT(Y:TE st names tx ag)(h0:sort≠0)(h2:sort≠2)(h3:sort≠3)(g:LG 29 80000 (NF du (txt names tx ag) wires) st):LG 22 80007 (mU (bt ag) du sort tx wires) st:=
 LG.seg (K:=1000) (j:=6) ([fb (uO h0)]++RU Y++[fb (uO h2),fb (uO h3)]++RV Y) (by kernel_rfl) rfl (by decide) (Y.toks g)
theorem yD(hl:names.length<=100)(Y:TE (ES c0 pl de [] po (names.map V.str) sh nu []) names tx ag)(g:LG 29 80000 (NF (.tup [qs "port_order",.int (-1),qs ""]) (txt names tx ag) wires) (ES c0 pl de [] po (names.map V.str) sh nu [])):LG 22 80007 (mU (bt ag) .none 0 tx wires) (ES c0 pl de [] po (names.reverse.map V.str) sh nu []):=by
 have rv:=CZ (n:=5) (xs:=names.reverse.map V.str) (st:=ES c0 pl de [] po (names.reverse.map V.str) sh nu []) rfl (by rw[aae,abP];exact LZ hl)
 rw[<-List.map_reverse,List.reverse_reverse] at rv
 exact LG.seg (K:=1000) (j:=6) ([fV 7 rv]++RU Y++RV Y) (by kernel_rfl) rfl (by decide) (Y.toks g)
theorem yF(Y:TE st names tx ag)(g:LG 29 80000 (NF (.tup [qs "unknown_net",.int (2* ((ck (q "m1") names).length+tx.length+4:Nat)+5),qs ""]) (txt names tx ag) wires) st):LG 22 80007 (mU (bt ag) du 3 tx wires) st:=
 LG.seg (K:=1000) (j:=6) (RU Y++[no 2,fF 2 (LF (i:=(ck (q "m1") names).length+tx.length+4) (by have :=Y.hd;have :=Y.tl;omega)),no 2]++RV Y) (by kernel_rfl) rfl (by decide) (Y.toks g)
end
noncomputable def w7(names:List Str)(v:V):Bool:=match v with
 | .str x=>names.contains x
 | _=>false
noncomputable def g1(v:V):V:=match v with
 | .tup [_,y]=>y
 | _=> .none
noncomputable def p1(names:List Str)(v:V):Bool:=w7 names (g1 v)
theorem Lm{b:Bool}{names:List Str}{v:V}{n k:Nat}{st:List AO}(h:st[n]? =some (.lst (names.map V.str)))(hn: ∀x∈names,aL x=true)(hl:names.length<=1000)(hv:dat b v k=true)(hk:k<=20):bk .In v (.loc n) st=ok (w7 names v) st:=by
 have e:bB st (.loc n)=some (names.map V.str):=iN h
 have e2:among st v (names.map V.str)=some (w7 names v):=by
  have e3:((names.map adw).any λe=>aaz e (eP v))=w7 names v:=by
   have aY: ∀d:PyData,(∀x,aaz (.str x) d=false)->((names.map adw).any λe=>aaz e d)=false:=λd hd=>by
    rw[List.any_eq_false]
    intro z hz
    refine ae hz ?_;rintro y _ rfl
    rw[hd];decide
   cases v with
   | str x=>exact lL
   | none=>exact aY _ λx=>by simp[eP,aaz]
   | bool c=>exact aY _ λx=>by simp[eP,aaz]
   | int c=>exact aY _ λx=>by simp[eP,aaz]
   | tup c=>exact aY _ λx=>by simp[eP,aaz]
   | lst c=>exact aY _ λx=>by simp[eP,aaz]
   | _=>simp[dat] at hv
  exact(q8 (fm hn) (eu v k 30 hv (Wx hk))).trans (congrArg some e3)
 have gH:(names.map V.str).length<=100000:=by simp;exact xw hl
 exact in_of e gH e2
theorem ic{d:Bool}{nm w:Str}{b:Int}(hb:dX b):(It.asg d nm b w).text=if d then [(q "key",qs "assign"),aD w,(q "op",qs "="),(q "id",.str nm),(q "op",qs "["),bY b,(q "op",qs "]"),(q "op",qs ";")] else [(q "key",qs "assign"),(q "id",.str nm),(q "op",qs "["),bY b,(q "op",qs "]"),(q "op",qs "="),aD w,(q "op",qs ";")]:=by
 have e:ed nm b=[(q "id",.str nm),(q "op",qs "["),bY b,(q "op",qs "]")]:=by unfold ed;rw[plain_len hb];rfl
 cases d with
 | true=>show(q "key",qs "assign")::((aD w::(q "op",qs "=")::ed nm b)++[(q "op",qs ";")])=_;rw[e];rfl
 | false=>show(q "key",qs "assign")::((ed nm b++[(q "op",qs "="),aD w])++[(q "op",qs ";")])=_;rw[e];rfl
theorem FY{d:Bool}{nm w:Str}{b:Int}{st:List AO}(hb:dX b)(hi:nL (.asg d nm b w)):eF .lst (bt (It.asg d nm b w).text) (q "index") [gR (cq "]")] st=ok (.int (jE d)) st:=by
 have hl:(It.asg d nm b w).text.length<=8:=by rw[ic hb];cases d<;>simp
 have h1:ti st ((It.asg d nm b w).text.map gR)=some (dk ((It.asg d nm b w).text.map gR)):=gh _ 3 29 (by rw[dG];intro x hx;refine ae hx ?_;rintro p hp rfl;exact oB hi p hp) (by decide)
 have h2:toD st (gR (cq "]"))=some (eP (gR (cq "]"))):=eu _ 3 30 (dK "op" "]") (by decide)
 have h3:(dk ((It.asg d nm b w).text.map gR)).findIdx? (λe=>aaz e (eP (gR (cq "]"))))=some (jE d):=by
  rw[ic hb]
  have h3:aD w=(q "num",yt "0")\/aD w=(q "num",yt "1")\/aD w=(q "id",.str w):=by
   unfold aD
   by_cases e0:w=q "0"
   ·rw[if_pos e0];exact Or.inl rfl
   by_cases e1:w=q "1"
   ·rw[if_neg e0,if_pos e1];exact Or.inr (Or.inl rfl)
   ·rw[if_neg e0,if_neg e1];exact Or.inr (Or.inr rfl)
  rcases h3 with e | e | e<;>rw[e]<;>cases d<;>rcases hb with rfl | rfl<;>kernel_rfl
 have hw:fM st (gR (cq "]")) ((It.asg d nm b w).text.map gR)=some (some (jE d)):=(tC h1 h2).trans (congrArg some h3)
 have gH:((It.asg d nm b w).text.map gR).length<100000:=by rw[aae];exact Wy hl
 exact(if_pos gH).trans ((if_pos rfl).trans (aK hw))
section
variable{names:List Str}{tx:List Tk}{wires:List Str}{du:V}{st:List AO}
theorem Bm{d:Bool}{nm w:Str}{b:Int}(hb:dX b)(qH: ∀x∈names,∃t,t<3/\x=pN t)(nq:nm∈names)(hw:w∉names): ∃r,((It.asg d nm b w).text.filter λt=>w7 names t.2)=(q "id",.str nm)::r:=by
 have Ug: ∀x:Str,(∀t,x≠pN t)->names.contains x=false:=λx hx=>by
  rw[ab0];intro h
  refine ao (qH x (by simpa using h)) λt _ ht=> ?_
  exact hx t ht
 have npn: ∀x:String,q x≠q "p0"->q x≠q "p1"->q x≠q "p2"->names.contains (q x)=false:=λx h0 h1 h2=>Ug _ λt=>by
  unfold pN;split;· exact h0
  split;· exact h1
  exact h2
 have hcw:w7 names (aD w).2=false:=by
  unfold aD
  split
  ·rfl
  ·split
   ·rfl
   ·show names.contains w=false
    rw[ab0];intro h
    exact hw (by simpa using h)
 have hcn:names.contains nm=true:=by simpa using nq
 rw[ic hb]
 have e1:w7 names (qs "assign")=false:=npn "assign" (by decide+kernel) (by decide+kernel) (by decide+kernel)
 have e2:w7 names (qs "=")=false:=npn "=" (by decide+kernel) (by decide+kernel) (by decide+kernel)
 cases d with
 | true=>
  rw[if_pos rfl,abi (by simp[e1]),abi (by simp[hcw]),abi (by simp[e2]),abj (p:=λt:Tk=>w7 names t.2) (a:=(q "id",V.str nm)) (by exact hcn)]
  exact⟨_,rfl⟩
 | false=>
  rw[if_neg (by decide),abi (by simp[e1]),abj (p:=λt:Tk=>w7 names t.2) (a:=(q "id",V.str nm)) (by exact hcn)]
  exact⟨_,rfl⟩
theorem Aj{d:Bool}{nm w:Str}{b:Int}(hb:dX b)(hi:nL (.asg d nm b w))(i0: ∀x∈names,aL x=true)(qF:names.length<=100)(Uj:st[5]? =some (.lst (names.map V.str))):Gives aA (λj m=>bH TT CL j aA false m st wc) 400 [(q "again",bt (It.asg d nm b w).text),(q "order",.loc 5)] (.lst (((It.asg d nm b w).text.filter λt=>w7 names t.2).map (·.2))) st:=λn hn=>by
 have hl:(It.asg d nm b w).text.length<=8:=by rw[ic hb];cases d<;>exact aam rfl
 have hle:=abd (λt:Tk=>w7 names t.2) (It.asg d nm b w).text
 have tx:=oB hi
 generalize (It.asg d nm b w).text=ts at hl hle tx ⊢
 have lp:=oX (cl:=CL) (F:=aA) (e:=wc) (l:=[(q "again",bt ts),(q "order",.loc 5)]) (st:=st) (src:=bt ts) (g:=g1) (p:=p1 names) (by kernel_rfl) (by kernel_rfl) (λi=>dJ (xs:=ts.map gR) (by rw[aae];exact Wz hl)) (by rw[aae];exact WB hl) (λv hv=>by
  refine ae hv ?_;rintro p hp rfl
  have hd2:dat true p.2 2=true:=by
   have :(aL p.1&&(dat true p.2 2&&true))=true:=tx p hp
   rw[aaT,aaT] at this;exact this.2.1
  exact⟨[fB (Lm Uj i0 (zf qF) hd2 (by decide))],by kernel_rfl⟩) (λv hv _=>by
  refine ae hv ?_;rintro p hp rfl
  exact⟨[],by kernel_rfl⟩) _ [] [] rfl (aaw _)
 rw[aaP,adb,aaN,aae] at lp
 exact dE (mu:=false) (fs:=[]) (by kernel_rfl) (by kernel_rfl) (by kernel_rfl) (nA) lp (if_pos (show((ts.filter λt=>w7 names t.2).map (·.2)).length<=100000 by rw[aae];exact WD hl hle)) n (WH hn hl)
theorem yE{d:Bool}{nm w:Str}{b:Int}(hb:dX b)(hi:nL (.asg d nm b w))(i0: ∀x∈names,aL x=true)(qH: ∀x∈names,∃t,t<3/\x=pN t)(nq:nm∈names)(hw:w∉names)(Y:TE st names tx (It.asg d nm b w).text)
  (g:LG 29 80000 (NF (.tup [qs "bad_bit",.int (2* ((ck (q "m1") names).length+tx.length+jE d:Nat)+5),.str nm]) (txt names tx (It.asg d nm b w).text) wires) st):LG 22 80007 (mU (bt (It.asg d nm b w).text) du 2 tx wires) st:=by
 have hl:(It.asg d nm b w).text.length<=8:=by rw[ic hb];cases d<;>exact aam rfl
 have hle:=abd (λt:Tk=>w7 names t.2) (It.asg d nm b w).text
 have hbd:jE d<=6:=by unfold jE;split<;>decide
 refine aj (Bm (d:=d) (b:=b) hb qH nq hw) λr hr=> ?_
 have am:=Aj hb hi i0 Y.hl Y.or
 rw[hr] at am hle
 rw[aan] at hle
 have ix:=FY (st:=st) hb hi
 have ml:=LF (i:=(ck (q "m1") names).length+tx.length+jE d) (by have :=Y.hd;have :=Y.tl;omega)
 have s0: ∀st,eQ (.lst (((q "id",V.str nm)::r).map (·.2))) (.int (0:Nat)) st=ok (.str nm) st:=fH (by rw[aae,aan];exact WI hl hle) rfl
 exact LG.seg (K:=1000) (j:=6) (RU Y++[fV 7 ix,no 2,fF 2 ml,no 2,fG am,fF 4 s0]++RV Y) (by kernel_rfl) rfl (by decide) (Y.toks g)
end
end Mine
namespace Mine
structure hU(c0:AO)(pl de:List V)(ps:List Pt)(wires:List Str)(L E:List It)(nu:List (Str×V)):Prop where
 W:zG wires
 c0:bA 0 c0=true
 pl:PL pl
 de:aQ 0 de=true
 perm:E.Perm L
 tQ:qD wires L
 ok:jA Q0 E
 I:Inv E (aC E)
 N:dB nu (aC E)
 A:Apart wires (aC E)
 qk:j9 (aC E)
 tl:(E.flatMap It.text).length<=50000
 p2:2<=ps.length
 p3:ps.length<=3
 pn:(ps.map (·.nm)).Nodup
 pN: ∀p∈ps,∃t,t<3/\p.nm=Mine.pN t
 pw: ∀p∈ps,p.w<=2
 pL: ∀p∈ps,p.it∈L
 Lp: ∀d nm n,It.port d nm n∈L-> ∃p∈ps,p.it=It.port d nm n
 w3:q "w3"∉wires
noncomputable abbrev AP(c0:AO)(pl de:List V)(ps:List Pt)(E:List It)(nu:List (Str×V)):List AO:=ES c0 pl de [] (ps.map Pt.v) ((aC E).ah.map dQ) (E.flatMap jZ) nu []
section
variable{c0:AO}{pl de:List V}{ps:List Pt}{wires:List Str}{L E:List It}{nu:List (Str×V)}
theorem sZ{k:Nat}: ∀{E:List It},aQ k (E.flatMap jZ)=true
 | []=>rfl
 | it::E=>by
  rw[aaL,eX,sZ]
  have :aQ k (jZ it)=true:=by
   cases it with
   | asg d nm b w=>simp[jZ,cG,cH,aQ]
   | cell c out ins=>simp[jZ,cG,cH,aQ,jQ,CK.ql]
   | _=>rfl
  rw[this];rfl
theorem hU.all(X:hU c0 pl de ps wires L E nu){or:List V}(Uj:aQ 0 or=true):(ES c0 pl de [] (ps.map Pt.v) or (E.flatMap jZ) nu []).all (bA 0)=true:=by
 have FT:aQ 0 (ps.map Pt.v)=true:=by
  rw[bX];intro x hx
  refine ae hx ?_;rintro p _ rfl;rfl
 show(bA 0 c0&&(aQ 0 pl&&(aQ 0 de&&(true&&(aQ 0 (ps.map Pt.v)&&(aQ 0 or&&(aQ 0 (E.flatMap jZ)&&(dg 0 nu&&(true&&true)))))))))=true
 rw[X.c0,X.pl.cH,X.de,FT,Uj,sZ,X.N.bf];rfl
theorem hU.ah(X:hU c0 pl de ps wires L E nu){p:dA}(hp:p∈(aC E).ah): ∃pt∈ps,pt.nm=p.2.1/\pt.d=p.1/\p.2.2=dz (aG (aC E)) pt.nm pt.w (E.filterMap aZ):=by
 refine ao (iQ X.I hp) λn hn hr=> ?_
 refine ao (X.Lp _ _ _ (X.perm.mem_iff.mp hn)) λpt h1 h2=> ?_
 unfold Pt.it at h2
 simp only[It.port.injEq] at h2
 refine⟨pt,h1,h2.2.1,h2.1,?_⟩
 rw[hr,h2.2.1,<-h2.2.2]
 congr 1
 exact Qw
theorem hU.SE(X:hU c0 pl de ps wires L E nu){pt:Pt}(h:pt∈ps):(pt.d,pt.nm,dz (aG (aC E)) pt.nm pt.w (E.filterMap aZ))∈(aC E).ah:=by
 have h1:It.port pt.d pt.nm ((pt.w:Int)- 1)∈E:=X.perm.mem_iff.mpr (X.pL pt h)
 have :=vn X.I h1
 rwa [show((pt.w:Int)- 1+1).toNat=pt.w by exact Qw] at this
theorem hU.ne(X:hU c0 pl de ps wires L E nu):(aC E).ah≠[]:=by
 have h2:=X.p2
 intro e
 cases ps with
 | nil=>simp at h2
 | cons p r=>
  have :=X.SE (pt:=p) (by simp)
  rw[e] at this;cases this
theorem hU.st(X:hU c0 pl de ps wires L E nu){p:dA}(hp:p∈(aC E).ah):aL p.2.1=true:=by
 refine eI (X.ah hp) λpt h1 h2 _=> ?_
 refine ao (X.pN pt h1) λt Pe ht=> ?_
 rw[<-h2,ht];exact xC Pe
theorem hU.Eh(X:hU c0 pl de ps wires L E nu):(aC E).ah.map dQ=((aC E).ah.map (·.2.1)).map V.str:=by rw[aaN];rfl
theorem hU.N5(X:hU c0 pl de ps wires L E nu){names:List Str}{ag:List Tk}(h:eB ag):eB (ck (q "m1") names++E.flatMap It.text++ag++[ij]):=by
 refine bw (bw (bw ?_ ?_) h) (az g7 aS)
 ·unfold ck
  exact bw (bw (az g7 (az g7 (az g7 aS))) (AD (BN _))) (az g7 (az g7 aS))
 ·intro p hp
  refine ao (aa8.mp hp) λit _ hi=> ?_
  exact j3 it p hi
theorem hU.hl(X:hU c0 pl de ps wires L E nu):(aC E).ah.length<=20:=X.qk.lp
theorem hU.lE(X:hU c0 pl de ps wires L E nu):E.length<=16:=(X.tQ.perm X.perm).len
theorem hU.w4(X:hU c0 pl de ps wires L E nu):(aC E).nets.length=wires.length:=by
 have h1: ∀w∈wires,w∈(aC E).nets.map (·.1):=λw hw=>by
  rw[gp X.I]
  refine ao ((X.tQ.perm X.perm).wall w hw) λit h1 h2=> ?_
  exact aa8.mpr ⟨it,h1,h2⟩
 have h2:=jm X.A.knd X.A.nd X.A.Lu
 have h3:(wires.filter λw=>decide (w∈(aC E).nets.map (·.1)))=wires:=by
  rw[List.filter_eq_self];intro w hw;exact decide_eq_true (h1 w hw)
 rw[h3,aae] at h2
 exact h2.symm
theorem hU.clean(X:hU c0 pl de ps wires L E nu){p:dA}(hp:p∈(aC E).ah)(h: ∀pt∈ps,pt.nm=p.2.1-> ∀b:Nat,b<pt.w-> ∃d w,It.asg d pt.nm b w∈L):p.2.2.contains (-1)=false:=by
 refine zv X.I hp λn hn b hb=> ?_
 refine ao (X.Lp _ _ _ (X.perm.mem_iff.mp hn)) λpt h1 h2=> ?_
 unfold Pt.it at h2
 simp only[It.port.injEq] at h2
 refine eJ (h pt h1 h2.2.1 b (by omega)) λd w hw=> ?_
 refine⟨(pt.nm,(b:Int),w),aba.mpr ⟨_,X.perm.mem_iff.mpr hw,rfl⟩,h2.2.1,by simp⟩
noncomputable def PA(c0:AO)(pl de:List V)(ps:List Pt)(or:List V)(E:List It)(nu:List (Str×V)):P9:=⟨c0,.lst pl,.lst de,.lst [],.lst (ps.map Pt.v),.lst or,.lst (E.flatMap jZ),.aF nu,.lst []⟩
theorem hU.te(X:hU c0 pl de ps wires L E nu){names:List Str}{ag:List Tk}(hn:names≠[])(hl:names.length<=100)(h:eB ag)(ha:ag.length<=1000):TE (PA c0 pl de ps (names.map V.str) E nu).l names (E.flatMap It.text) ag:=
 ⟨hn,hl,X.tl,ha,rfl,ib (aaC _) (X.all dW),X.N5 h⟩
theorem hU.tx(X:hU c0 pl de ps wires L E nu){names:List Str}{ag:List Tk}(hn:names≠[])(hl:names.length<=100)(h:eB ag)(ha:ag.length<=1000):Tx (PA c0 pl de ps (names.map V.str) E nu) (txt names (E.flatMap It.text) ag) E names (ag++[ij]):=by
 have hT:=X.N5 (names:=names) h
 have Y:=X.te (names:=names) hn hl h ha
 refine⟨X.all dW,⟨λp hp=>(hT p hp).1,λp hp=>(hT p hp).2.1,λp hp=>(hT p hp).2.2,?_⟩,by unfold txt;rw[aax],hn,hl,X.ok,by have :=X.lE;exact Qy this,X.qk⟩
 have h1:=Y.hd
 have h2:=Y.tl
 unfold txt
 rw[aag,aag,aag];show _+1<=_;exact WJ ha h1 h2
theorem j4{names:List Str}{tx ag:List Tk}:0<(txt names tx ag).length:=by unfold txt;rw[aag];exact Nat.lt_of_lt_of_le Nat.zero_lt_one (aaI _ _)
noncomputable def fMk(P:P9){ts:List Tk}(W:vZ ts)(Pf:0<ts.length):List Fc:=[fV 0 (C1 (k:=18) (P:=P) (ts:=ts)),fV 0 (G6 (k:=14) (P:=P) W Pf)]
theorem lq{P:P9}{ts:List Tk}{kd:String}{d:Str}{a:Int}(W:vZ ts)(Pf:0<ts.length)(hkd:aL (q kd)=true)(hd:aL d=true)(he:Nf (uW P ts) kd a d):LG 29 80000 (NF (.tup [qs kd,.int a,.str d]) ts wires) P.l:=by
 refine aj he ?_;clear he;intro st he
 exact LG.le (LG.out (MW (K:=1000) (kd:=q kd) (st1:=st) (fMk P W Pf++[fE he]) (by kernel_rfl) rfl hkd hd) (by kernel_rfl)) (by decide)
theorem hU.names(X:hU c0 pl de ps wires L E nu):(aC E).ah.map (·.2.1)≠[]/\((aC E).ah.map (·.2.1)).length<=100:=by
 have hl:=X.hl
 exact⟨λe=>X.ne (List.map_eq_nil_iff.mp e),by rw[aae];exact Qv hl⟩
theorem hU.ap(X:hU c0 pl de ps wires L E nu):AP c0 pl de ps E nu=(PA c0 pl de ps (((aC E).ah.map (·.2.1)).map V.str) E nu).l:=by
 show ES c0 pl de [] (ps.map Pt.v) ((aC E).ah.map dQ) (E.flatMap jZ) nu []=_
 rw[X.Eh];rfl
variable{sort:Int}
theorem good_none(X:hU c0 pl de ps wires L E nu)(h0:sort≠0)(h2:sort≠2)(h3:sort≠3)(wW: ∀pt∈ps,∀b:Nat,b<pt.w-> ∃d w,It.asg d pt.nm b w∈L):LG 22 80007 (mU (bt []) .none sort (E.flatMap It.text) wires) (AP c0 pl de ps E nu):=by
 refine aO X.names λaa gH=> ?_
 have Y:=X.te aa gH aS (aaC _)
 have Z:=X.tx aa gH aS (aaC _)
 rw[X.ap]
 refine nT Y h0 h2 h3 ?_
 refine aj (G7 Z rfl (λp hp=>X.st hp) (λw p hp _=>X.clean hp λpt h _=>wW pt h)) λe hr=> ?_
 refine LG.one (N:=79999) (N1:=1001) (MX (K:=1000) (fMk (PA c0 pl de ps (((aC E).ah.map (·.2.1)).map V.str) E nu) Z.W j4++[fV 0 hr]) (by kernel_rfl)) (by kernel_rfl) (by decide) (LG.le (Fn (A:=FS (PA c0 pl de ps (((aC E).ah.map (·.2.1)).map V.str) E nu) (txt ((aC E).ah.map (·.2.1)) (E.flatMap It.text) []) e (q "m1") ((aC E).nets.length+2) (aC E) (bp true (aC E).ah) (bp false (aC E).ah)) (wires:=wires) (ps:=ps) (s:=aC E) (E:=E) (nu:=nu) ?_ X.N ?_ ?_ X.I.cells ?_ rfl rfl rfl) (by decide))
 ·refine⟨X.pn,X.p3,X.pw,λit hi=>X.tQ.its it (X.perm.mem_iff.mp hi),λd nm b w hi=> ?_,λc out ins hi=>X.I.Ko ⟨c,out,ins⟩ (aba.mpr ⟨_,hi,rfl⟩),by have :=X.lE;exact Qy this⟩
  refine⟨X.I.ym (nm,b,w) (aba.mpr ⟨_,hi,rfl⟩),?_⟩
  refine aO (X.tQ.uj d nm b w (X.perm.mem_iff.mp hi)) ?_;rintro ⟨n',h1,h2⟩ _
  refine ao (X.Lp _ _ _ h1) λpt h3 h4=> ?_
  unfold Pt.it at h4
  simp only[It.port.injEq] at h4
  exact⟨pt,h3,h4.2.1,by omega⟩
 ·refine⟨X.pn,X.qk.nd,λp hp=> ?_,λp hp=>X.st hp,X.hl⟩
  refine nh (X.ah hp) λpt h1 h2 h3 h4=> ?_
  refine aj (aa4 h1) λj hj=> ?_
  exact⟨j,pt,hj,h2,h3,by rw[aay,hj];exact congrArg some h4.symm⟩
 ·exact⟨rfl,rfl,rfl,rfl,λi p h=>zQ (w:=true) h,by rw[X.Eh];rfl,X.w4,by have :=X.W.le;exact Qz this⟩
 ·rw[X.I.cells,dG]
  intro x hx
  refine ae hx ?_;rintro c hc rfl
  refine iA hc λit hi he=> ?_
  cases it with
  | cell c out ins=>
   cases he
   exact E7 (X.tQ.its _ (X.perm.mem_iff.mp hi))
  | _=>cases he
theorem yK(X:hU c0 pl de ps wires L E nu){d:Bool}{nm:Str}{b:Nat}{z:Pt}(hz:z∈ps)(Po:z.d=d)(NB:z.nm=nm)(UC:b<z.w)(wW: ∀pt∈ps,pt.nm≠nm-> ∀b:Nat,b<pt.w-> ∃d w,It.asg d pt.nm b w∈L)(i0: ∀d b' w,It.asg d nm b' w∈L->b'.toNat≠b):LG 22 80007 (mU (bt []) (.tup [qs "missing_bit",.int (-1),.str nm]) 1 (E.flatMap It.text) wires) (AP c0 pl de ps E nu):=by
 refine aO X.names λaa gH=> ?_
 have Y:=X.te aa gH aS (aaC _)
 have Z:=X.tx aa gH aS (aaC _)
 rw[X.ap]
 have hp:=X.SE hz
 rw[Po,NB] at hp
 refine eJ (List.append_of_mem hp) λxa xb qI=> ?_
 have iY: ∀p∈(aC E).ah,p.2.1≠nm->p.2.2.contains (-1)=false:=λp hp qH=>X.clean hp λpt h1 h2=>wW pt h1 (h2▸qH)
 have wX:=X.qk.nd
 rw[qI,aaA,aaq,aaQ] at wX
 have hzE:It.port d nm ((z.w:Int)- 1)∈E:=by
  have :=X.perm.mem_iff.mpr (X.pL z hz)
  unfold Pt.it at this
  rwa [Po,NB] at this
 have one: ∀pt∈ps,pt.nm=nm->pt=z:=λpt h1 h2=>by
  refine aj (aa4 h1) λi hi=> ?_
  refine aj (aa4 hz) λj hj=> ?_
  have e1:(ps.map (·.nm))[i]? =some pt.nm:=by rw[aay,hi];rfl
  have e2:(ps.map (·.nm))[j]? =some z.nm:=by rw[aay,hj];rfl
  have e3:i=j:=(acK (by simpa using (aar.mp hi).1) X.pn).mp (by rw[e1,e2,h2,NB])
  subst e3
  rw[hi] at hj;exact aaj hj
 have O4:=C4 (n:=(z.w:Int)- 1) (b:=b) X.I hp hzE (λn' Ed=>by
  refine ao (X.Lp _ _ _ (X.perm.mem_iff.mp Ed)) λpt h1 h2=> ?_
  unfold Pt.it at h2
  simp only[It.port.injEq] at h2
  rw[one pt h1 h2.2.1] at h2
  exact h2.2.2.symm) (WK UC) (λa ha hn=>by
  refine iA ha λit h1 h2=> ?_
  cases it with
  | asg d' NI b' w'=>
   cases h2
   exact i0 d' b' w' (X.perm.mem_iff.mp ((show NI=nm from hn)▸h1))
  | _=>cases h2)
 have hr:=zm (w:=d) (z:=nm) (a:=xa) (b:=xb) Z rfl (λp hp=>X.st hp) qI
  (λp dj _=>iY p (by rw[qI];exact aal.mpr (.inl dj)) λe=>wX.2.2 _ (aaH.mpr ⟨p,dj,rfl⟩) nm aak e)
  (λhd p dj hpd=>iY p dj λe=>by
   refine nh (X.ah dj) λpt h1 h2 h3 _=> ?_
   rw[one pt h1 (h2.trans e),Po,hpd,hd] at h3
   cases h3) O4
 have hse:aL nm=true:=by
  refine ao (X.pN z hz) λt Pe ht=> ?_
  rw[<-NB,ht];exact xC Pe
 exact nT Y (by decide) (by decide) (by decide) (lq Z.W j4 (by decide+kernel) hse hr)
theorem uC(X:hU c0 pl de ps wires L E nu):LG 22 80007 (mU (bt []) .none 0 (E.flatMap It.text) wires) (AP c0 pl de ps E nu):=by
 have hl:=X.hl
 refine aO X.names λaa _=> ?_
 generalize nq:((aC E).ah.map (·.2.1)).reverse=names
 have j8:(aC E).ah.map (·.2.1)=names.reverse:=by rw[<-nq,List.reverse_reverse]
 have O5:names≠[]:=λe=>aa (by rw[j8,e];rfl)
 have gH:names.length<=100:=by rw[<-nq,abP,aae];exact Qv hl
 have OV:names≠(aC E).ah.map (·.2.1):=λe=>by
  have hlen:2<=names.length:=by
   rw[<-nq,abP,aae]
   have uM: ∀x∈ps.map (·.nm),x∈(aC E).ah.map (·.2.1):=λx hx=>by
    refine ae hx ?_;rintro pt h1 rfl
    exact aaH.mpr ⟨_,X.SE h1,rfl⟩
   have :=jm X.pn X.qk.nd uM
   have h2:=abd (λw=>decide (w∈ps.map (·.nm))) ((aC E).ah.map (·.2.1))
   have h3:=X.p2
   rw[aae] at this h2
   exact WL this h2 h3
  have wX:names.Nodup:=by rw[<-nq];exact(List.reverse_perm _).nodup_iff.mpr X.qk.nd
  rw[j8] at e
  have h0:names[0]? =names[names.length- 1]? :=by
   conv=>lhs;rw[e]
   rw[List.getElem?_reverse (QA hlen)]
   simp
  have :=(acK (QA hlen) wX).mp h0
  exact WN hlen this
 have Y:=X.te O5 gH aS (aaC _)
 have Z:=X.tx O5 gH aS (aaC _)
 have hs: ∀x∈names,aL x=true:=λx hx=>by
  rw[<-nq] at hx
  refine ae (List.mem_reverse.mp hx) ?_;rintro p hp rfl
  exact X.st hp
 have hr:=vr Z OV hs (λp hp=>X.st hp) X.ne
 rw[X.ap,j8]
 exact yD gH Y (lq Z.W j4 (by decide+kernel) (by decide+kernel) hr)
theorem qh{t:Nat}:Mine.pN t≠q "0"/\Mine.pN t≠q "1":=by
 unfold pN;split
 ·exact⟨by decide+kernel,by decide+kernel⟩
 split
 ·exact⟨by decide+kernel,by decide+kernel⟩
 ·exact⟨by decide+kernel,by decide+kernel⟩
theorem uD(X:hU c0 pl de ps wires L E nu){d:Bool}{nm w:Str}{b:Int}(ha:It.asg d nm b w∈L)(wW: ∀pt∈ps,∀b:Nat,b<pt.w-> ∃d w,It.asg d pt.nm b w∈L):LG 22 80007 (mU (bt (It.asg d nm b w).text) .none 2 (E.flatMap It.text) wires) (AP c0 pl de ps E nu):=by
 refine aO X.names λaa gH=> ?_
 have hi:=X.tQ.its _ ha
 have hb:dX b:=hi.2.1
 refine aO (X.tQ.uj d nm b w ha) ?_;rintro ⟨n',h1,h2⟩ hnw
 refine ao (X.Lp _ _ _ h1) λz hz h4=> ?_
 unfold Pt.it at h4
 simp only[It.port.injEq] at h4
 have hp:=X.SE hz
 rw[h4.1,h4.2.1] at hp
 have haE:It.asg d nm b w∈E:=X.perm.mem_iff.mpr ha
 have Lb:=X.I.ym (nm,b,w) (aba.mpr ⟨_,haE,rfl⟩)
 refine aj (aaX.mp Lb) λv hv=> ?_
 have BJ: ∀p∈(aC E).ah,p.2.1≠w:=λp hp e=>by
  refine eI (X.ah hp) λpt g1 g2 _=> ?_
  refine ao (X.pN pt g1) λt _ ht=> ?_
  rcases hnw with h | h | h
  ·rw[<-e,<-g2,ht] at h;exact qh.1 h
  ·rw[<-e,<-g2,ht] at h;exact qh.2 h
  ·exact X.A.Jk p hp (e▸h)
 have hw:w∉(aC E).ah.map (·.2.1):=λh=>by
  refine ae h λp g1 g2=> ?_
  exact BJ p g1 g2
 have qH: ∀x∈(aC E).ah.map (·.2.1),∃t,t<3/\x=Mine.pN t:=λx hx=>by
  refine ae hx ?_;rintro p g1 rfl
  refine eI (X.ah g1) λpt g2 g3 _=> ?_
  refine ao (X.pN pt g2) λt Pe ht=> ?_
  exact⟨t,Pe,by rw[<-g3,ht]⟩
 have IT:(It.asg d nm b w).text.length<=1000:=by have :=text_len hi (aaC 10);exact LP this
 have Y:=X.te aa gH (j3 _) IT
 have Z:=X.tx aa gH (j3 _) IT
 refine ao (oi (f:=aG (aC E)) (nm:=z.nm) (w:=z.w) (b:=b.toNat) (as:=E.filterMap aZ) (by omega) (λa ha _=>by
  obtain⟨v,hv⟩:=aaX.mp (X.I.ym a ha)
  rw[gJ hv];exact r9 X.I hv) ⟨(nm,b,w),aba.mpr ⟨_,haE,rfl⟩,h4.2.1.symm,rfl⟩) λu hu Nz=> ?_
 rw[h4.2.1] at hu
 have hr:=vt Z hb hp hu (o54 Nz) hv BJ
 rw[X.ap]
 exact yE hb hi (qv λp hp=>X.st hp) qH (aaH.mpr ⟨_,hp,rfl⟩) hw Y (lq Z.W j4 (by decide+kernel) hi.1 hr)
theorem uE(X:hU c0 pl de ps wires L E nu)(FV: ∀x∈wires,x≠q "0"/\x≠q "1"):LG 22 80007 (mU (bt (mQ (wires.headD abM))) .none 3 (E.flatMap It.text) wires) (AP c0 pl de ps E nu):=by
 refine aO X.names λaa gH=> ?_
 obtain⟨w,Pj,hwe⟩: ∃w∈wires,wires.headD abM=w:=by
  have TM:=X.W.ne
  cases wires with
  | nil=>exact absurd rfl TM
  | cons x r=>exact⟨x,aak,rfl⟩
 rw[hwe]
 have hbc:mQ w=oS w:=by
  unfold mQ oS aD
  rw[if_neg (FV w Pj).1,if_neg (FV w Pj).2]
  rfl
 have BK:w∈(aC E).nets.map (·.1):=by
  rw[gp X.I]
  refine ao ((X.tQ.perm X.perm).wall w Pj) λit h1 h2=> ?_
  exact aa8.mpr ⟨it,h1,h2⟩
 obtain⟨v,hv⟩: ∃v,bD (aC E) w=some v:=by
  unfold bD
  rw[if_neg (FV w Pj).1,if_neg (FV w Pj).2]
  exact aaX.mp (bQ.mpr BK)
 have hx:(aC E).nets.lookup (q "w3")=none:=ly λh=>X.w3 (X.A.Lu _ h)
 have hT:eB (mQ w):=az g7 (az g7 (az g7 (az g7 (az g7 (az g7 (az g7 aS))))))
 have Y:=X.te aa gH hT (aam rfl)
 have Z:=X.tx aa gH hT (aam rfl)
 rw[X.ap]
 refine yF Y (lq Z.W j4 (by decide+kernel) (by decide+kernel) ?_)
 have Z2:=Z
 rw[hbc] at Z2 ⊢
 exact vw Z2 hv hx
end
end Mine
namespace Mine
noncomputable def Bd:g9:=jn "_law_pool" ["cells"] true true
noncomputable def zR:aV:=l8 Bd
noncomputable def Iq:Expr:=uw (bE Bd.body 0)
theorem HK{xs:List V}(hl:xs.length<=1000): ∀st,gu false "list" [.lst xs] st=ok (.lst xs) st:=λst=>if_pos (show xs.length<=100000 by exact xw hl)
theorem GU{ns:List Int}{k:Nat}(hl:ns.length<=63):CI (k+1) 508 [.lst (ns.map .int)] []=ok (.loc 1) [.lst ((ns.take 40).reverse.map .int),.lst (.int 5::(ns.take 40).reverse.map .int)]:=by
 have OH:((ns.take 40).map V.int).length<=40:=by rw[aae,abu];exact WO
 have lp:=iL (cl:=CI k) (F:=zR) (e:=Iq) (l:=[(q "script",.lst (ns.map .int))]) (st:=[]) (src:= .lst ((ns.take 40).map .int)) (all:=(ns.take 40).map .int) (g:=id) (by kernel_rfl) (by kernel_rfl) (λi=>dJ (QB OH)) (WQ OH) (λv hv=>by
  refine ae hv ?_;rintro x _ rfl
  exact⟨[],by kernel_rfl⟩) _ [] [] rfl (aaw _)
 rw[aaP,List.map_id] at lp
 have c1:Gives zR (λj m=>bH TT (CI k) j zR true m [] Iq) 400 [(q "script",.lst (ns.map .int))] (.loc 0) [.lst ((ns.take 40).map .int)]:=λn hn=>
  dE (mu:=true) (fs:=[fF 6 (HK (xs:=ns.map .int) (by rw[aae];exact QC hl)),fF 8 (λst=>(lT (xs:=ns.map .int) (h:=40) (by rw[aae];exact QC hl) (by decide) st).trans (by rw[<-List.map_take]))]) (by kernel_rfl) (by kernel_rfl) (by kernel_rfl) (nA) lp (if_pos (QB OH)) n (WR OH hn)
 have rv:=CZ (n:=0) (xs:=(ns.take 40).map .int) (st:=[.lst ((ns.take 40).map .int)]) rfl (WU OH)
 rw[<-List.map_reverse] at rv
 have ad:binI true .Add (V.lst [(V.int 5)]) (.loc 0) [.lst ((ns.take 40).reverse.map .int)]=ok (.loc 1) [.lst ((ns.take 40).reverse.map .int),.lst (.int 5::(ns.take 40).reverse.map .int)]:=if_pos (show(V.int 5::(ns.take 40).reverse.map V.int).length<=100000 by rw[aan,aae,abP,abu];exact WV)
 exact ay [fG c1,fV 7 rv,fV 2 ad] (by kernel_rfl)
theorem GV{ns:List Int}:PL (.int 5::(ns.take 40).reverse.map .int):=⟨5,_,rfl,by decide,by decide,by rw[abP,abu];exact WW⟩
theorem Ft{T:Tb}{cl cl':Addr->List V->List AO->RE V}{n n':Nat}{F F':aV}{m m':M}{st:List AO}{ss ss':List Stmt}(h1:cl=cl')(h2:n=n')(h3:F=F')(h4:m=m')(h5:ss=ss'):aT T cl n F m st ss=aT T cl' n' F' m' st ss':=by rw[h1,h2,h3,h4,h5]
theorem Av{T:Tb}{prim:Addr->Option (List V->List AO->RE V)}{cl:Addr->List V->List AO->RE V}{a:Addr}{xs:List V}{st:List AO}{fi:g9}{r:RS}(hp:prim a=none)(hf:T.fn a=some fi)(hl:fi.ps.length<=xs.length+fi.dx.length/\xs.length<=fi.ps.length)(h:aT T cl fuel ⟨fi.sc,true,fi.ky,fi.hM⟩ (bindM fi.ps (xs++fi.dx.drop (xs.length+fi.dx.length- fi.ps.length))) st fi.body=r):lO T prim cl a xs st=vy fi st r:=by
 unfold lO
 rw[hp,hf]
 exact(if_pos hl).trans (congrArg (vy fi st) h)
theorem LG.call{v:V}(h:LG 0 90000 [(q "script",v)] []): ∃st,CI 20 565 [v] []=some (.ok (.bool true),st):=by
 refine aj h λst g=> ?_;clear h
 refine aj (g 100000 (by decide) (bindM [q "script"] [v]) (λy w hy=>hy) (λy hy=>tG λhm=>by rw[abb.mp hm] at hy;revert hy;exact of_decide_eq_false (by kernel_rfl))) λm e=> ?_
 exact⟨st,(Av (T:=TT) (prim:=g6) (cl:=CL) (fi:=aX) (by kernel_rfl) (by kernel_rfl) ⟨aam (by kernel_rfl),aam (by kernel_rfl)⟩ ((Ft rfl rfl rfl (by kernel_rfl) rfl).trans e)).trans rfl⟩
end Mine
namespace Mine
noncomputable def jd:List Str:=[q "w2",q "n9",q "w",q "x_1"]
structure Ah(wires:List Str):Prop where
 sub: ∀x∈wires,x∈jd
 nd:wires.Nodup
 two:2<=wires.length
 four:wires.length<=4
theorem Ah.W{wires:List Str}(h:Ah wires):zG wires:=⟨λe=>by have :=h.two;rw[e] at this;exact absurd this (by decide),h.four,λx hx=>by
 have :=h.sub x hx
 simp only[jd,aat,abh,or_false] at this
 rcases this with rfl | rfl | rfl | rfl<;>decide+kernel⟩
structure Built(wires:List Str)(ps:List Pt)(as:List Ag)(cs:List Cl)(wa wb:List Str):Prop where
 W:Ah wires
 cut:wires=wa++wb
 wa:wa≠[]
 wb:wb≠[]
 pn:ps.map (·.nm)=(List.range' 0 ps.length).map pN
 p2:2<=ps.length
 p3:ps.length<=3
 pw: ∀p∈ps,p.w<=2
 ak:as.map Ag.key=keysOf ps
 aw: ∀a∈as,a.w∈bT a.d wires
 co: ∀c∈cs,vN wires c
 cl:cs.length<=3
noncomputable def declsOf(ps:List Pt)(wa wb:List Str):List It:=ps.map Pt.it++[mN wa,mN wb]
noncomputable def rowsOf(as:List Ag)(cs:List Cl):List It:=as.map Ag.it++cs.map Cl.it
section
variable{wires:List Str}{ps:List Pt}{as:List Ag}{cs:List Cl}{wa wb:List Str}
theorem dy{l:List Str}(h:l≠[]): ∃x r,l=x::r/\mN l= .wire x r:=by
 cases l with
 | nil=>exact absurd rfl h
 | cons x r=>exact⟨x,r,rfl,rfl⟩
theorem Built.pN(B:Built wires ps as cs wa wb){p:Pt}(hp:p∈ps): ∃t,t<3/\p.nm=Mine.pN t:=by
 have h:p.nm∈ps.map (·.nm):=aaH.mpr ⟨p,hp,rfl⟩
 rw[B.pn] at h
 refine ae h λt h1 h2=> ?_
 have :=B.p3
 exact⟨t,by simp[List.mem_range'] at h1;exact WX this h1,h2.symm⟩
theorem Built.nd(B:Built wires ps as cs wa wb):(ps.map (·.nm)).Nodup:=by
 rw[B.pn]
 have :=B.p2;have :=B.p3
 rcases(by omega:ps.length=2\/ps.length=3) with h | h<;>rw[h]<;>decide+kernel
theorem mR{x:Str}(h:x∈jd):x≠q "0"/\x≠q "1"/\x≠q "w3"/\ ∀t,x≠Mine.pN t:=by
 have pn: ∀x:Str,x≠q "p0"->x≠q "p1"->x≠q "p2"-> ∀t,x≠Mine.pN t:=λx h0 h1 h2 t=>by
  unfold Mine.pN;split
  ·exact h0
  split
  ·exact h1
  ·exact h2
 simp only[jd,aat,abh,or_false] at h
 rcases h with rfl | rfl | rfl | rfl<;>exact⟨by decide+kernel,by decide+kernel,by decide+kernel,pn _ (by decide+kernel) (by decide+kernel) (by decide+kernel)⟩
theorem Built.key(B:Built wires ps as cs wa wb){a:Ag}(ha:a∈as): ∃p∈ps,p.d=a.d/\p.nm=a.nm/\a.b<p.w:=by
 have h:a.key∈as.map Ag.key:=aaH.mpr ⟨a,ha,rfl⟩
 rw[B.ak] at h
 refine ao (aa8.mp h) λp h1 h2=> ?_
 refine ae h2 λs h3 h4=> ?_
 unfold Ag.key at h4
 simp only[Prod.mk.injEq] at h4
 refine⟨p,h1,h4.1,h4.2.1,?_⟩
 simp[List.mem_range'] at h3
 omega
theorem Built.full(B:Built wires ps as cs wa wb){p:Pt}(hp:p∈ps){b:Nat}(hb:b<p.w): ∃a∈as,a.d=p.d/\a.nm=p.nm/\a.b=b:=by
 have h:(p.d,p.nm,b)∈keysOf ps:=aa8.mpr ⟨p,hp,aaH.mpr ⟨b,by simp[List.mem_range'];exact WY hb,rfl⟩⟩
 rw[<-B.ak] at h
 refine ae h λa h1 h2=> ?_
 unfold Ag.key at h2
 simp only[Prod.mk.injEq] at h2
 exact⟨a,h1,h2.1,h2.2.1,h2.2.2⟩
theorem Built.pX(B:Built wires ps as cs wa wb){a:Ag}(ha:a∈as):Mine.pX wires a.w:=by
 have :=B.aw a ha
 unfold bT at this
 split at this
 ·exact .inr (.inr this)
 ·rcases aal.mp this with h | h
  ·exact .inr (.inr h)
  ·simp only[aat,abh,or_false] at h
   rcases h with h | h
   ·exact .inl h
   ·exact .inr (.inl h)
theorem LK(B:Built wires ps as cs wa wb){w:Str}(h:Mine.pX wires w):aL w=true:=by
 rcases h with rfl | rfl | h
 ·decide+kernel
 ·decide+kernel
 ·exact B.W.W.st w h
theorem mw: ∀{ps:List Pt},(∀p∈ps,p.w<=2)->(keysOf ps).length<=2* ps.length
 | [],_=>by simp[keysOf]
 | p::ps,h=>by
  have h1:=mw (ps:=ps) λp hp=>h p (aai _ hp)
  have h2:=h p (by simp)
  unfold keysOf at*
  rw[aaL,aag,aae,List.length_range',aan]
  exact WZ h1 h2
theorem Built.asl(B:Built wires ps as cs wa wb):as.length<=6:=by
 have h1:=congrArg abx B.ak
 rw[aae] at h1
 have h2:=mw B.pw
 have :=B.p3
 exact W0 h1 h2 this
theorem Built.mem(B:Built wires ps as cs wa wb){it:It}(h:it∈declsOf ps wa wb++rowsOf as cs):(∃p∈ps,it=p.it)\/it=mN wa\/it=mN wb\/(∃a∈as,it=a.it)\/ ∃c∈cs,it=c.it:=by
 unfold declsOf rowsOf at h
 simp only[aal,aaH,aat,abh,or_false] at h
 rcases h with(⟨p,h1,rfl⟩ | h | h) | ⟨a,h1,rfl⟩ | ⟨c,h1,rfl⟩
 ·exact .inl ⟨p,h1,rfl⟩
 ·exact .inr (.inl h)
 ·exact .inr (.inr (.inl h))
 ·exact .inr (.inr (.inr (.inl ⟨a,h1,rfl⟩)))
 ·exact .inr (.inr (.inr (.inr ⟨c,h1,rfl⟩)))
theorem xd: ∀{ps:List Pt},(ps.map (·.nm)).Nodup->((keysOf ps).map λk=>(k.2.1,(k.2.2:Int))).Nodup
 | [],_=>by simp[keysOf]
 | p::ps,nd=>by
  rw[aaq,aaK] at nd
  have ih:=xd nd.2
  unfold keysOf at*
  rw[aaL,aaA,aaQ]
  refine⟨?_,ih,?_⟩
  ·rw[aaN]
   exact List.Pairwise.map _ (λa b hab e=>hab (by
    have :=congrArg Prod.snd e
    exact Int.ofNat.inj this)) (List.nodup_range' ..)
  ·intro x hx y hy e
   subst e
   rw[aaN] at hx
   refine ae hx λs _ h1=> ?_
   refine ae hy λk h2 h3=> ?_
   refine ao (aa8.mp h2) λp' h4 h5=> ?_
   refine ae h5 λs' _ h6=> ?_
   refine nd.1 (aaH.mpr ⟨p',h4,?_⟩)
   have e1:=congrArg Prod.fst (h3.trans h1.symm)
   rw[<-h6] at e1
   exact e1
theorem II: ∀{ps:List Pt},(ps.map Pt.it).flatMap ng=ps.map (·.nm)
 | []=>rfl
 | p::ps=>by rw[aaq,aaL,II];rfl
theorem IC: ∀{as:List Ag},(as.map Ag.it).flatMap ng=[]
 | []=>rfl
 | p::ps=>by rw[aaq,aaL,IC];rfl
theorem IF: ∀{cs:List Cl},(cs.map Cl.it).flatMap ng=[]
 | []=>rfl
 | p::ps=>by rw[aaq,aaL,IF];rfl
theorem IK: ∀{ps:List Pt},(ps.map Pt.it).flatMap dw=[]
 | []=>rfl
 | p::ps=>by rw[aaq,aaL,IK];rfl
theorem IE: ∀{as:List Ag},(as.map Ag.it).flatMap dw=[]
 | []=>rfl
 | p::ps=>by rw[aaq,aaL,IE];rfl
theorem IH: ∀{cs:List Cl},(cs.map Cl.it).flatMap dw=[]
 | []=>rfl
 | p::ps=>by rw[aaq,aaL,IH];rfl
theorem IJ: ∀{ps:List Pt},(ps.map Pt.it).filterMap yl=[]
 | []=>rfl
 | p::ps=>by rw[aaq,abO];exact IJ (ps:=ps)
theorem ID: ∀{as:List Ag},(as.map Ag.it).filterMap yl=as.map (λa:Ag=>(a.nm,(a.b:Int)))
 | []=>rfl
 | p::ps=>by rw[aaq,abO,aaq,<-ID (as:=ps)];rfl
theorem IG: ∀{cs:List Cl},(cs.map Cl.it).filterMap yl=[]
 | []=>rfl
 | p::ps=>by rw[aaq,abO];exact IG (cs:=ps)
theorem Built.tQ(B:Built wires ps as cs wa wb):qD wires (declsOf ps wa wb++rowsOf as cs):=by
 refine cc (dy B.wa) λx xr hx yW=> ?_
 refine cc (dy B.wb) λy yr hy BL=> ?_
 have hws:=B.W.W.st
 have hsa: ∀z∈x::xr,z∈wires:=λz h=>by rw[B.cut,hx];exact aal.mpr (.inl h)
 have uL: ∀z∈y::yr,z∈wires:=λz h=>by rw[B.cut,hy];exact aal.mpr (.inr h)
 have yN:=B.asl
 have yU:=B.p3
 have iY:=B.cl
 have Pg:=B.W.four
 have e1:declsOf ps wa wb++rowsOf as cs=ps.map Pt.it++([.wire x xr,.wire y yr]++(as.map Ag.it++cs.map Cl.it)):=by
  unfold declsOf rowsOf;rw[yW,BL,aax]
 have BK:(x::xr)++(y::yr)=wires:=by rw[B.cut,hx,hy]
 refine⟨λit hi=> ?_,?_,λit hi hd=> ?_,?_,λd nm b w hi=> ?_,λc out ins hi w hw=> ?_,?_,?_,λw hw=> ?_⟩
 ·rcases B.mem hi with⟨p,h1,rfl⟩ | rfl | rfl | ⟨a,h1,rfl⟩ | ⟨c,h1,rfl⟩
  ·refine ao (B.pN h1) λt ht hn=> ?_
   have :=B.pw p h1
   exact⟨by rw[hn];exact xC ht,by exact Qh this⟩
  ·rw[yW];exact λz hz=>hws z (hsa z hz)
  ·rw[BL];exact λz hz=>hws z (uL z hz)
  ·refine nh (B.key h1) λp h2 h3 h4 h5=> ?_
   refine ao (B.pN h2) λt ht hn=> ?_
   have :=B.pw p h2
   exact⟨by rw[<-h4,hn];exact xC ht,by unfold dX;exact W4 h5 this,LK B (B.pX h1)⟩
  ·exact(B.co c h1).its B.W.W
 ·rw[e1,aaM,aaM,aaM,II,IC,IF]
  have :[It.wire x xr,It.wire y yr].flatMap ng=wires:=by rw[<-BK];simp[ng]
  rw[this,aav,aav,aaQ]
  refine⟨B.nd,B.W.nd,λu hu v hv e=> ?_⟩
  subst e
  refine ae hu ?_;rintro p h1 rfl
  refine ao (B.pN h1) λt ht hn=> ?_
  exact(mR (B.W.sub _ hv)).2.2.2 t hn
 ·rcases B.mem hi with⟨p,h1,rfl⟩ | rfl | rfl | ⟨a,h1,rfl⟩ | ⟨c,h1,rfl⟩
  ·refine ao (B.pN h1) λt ht hn=> ?_
   refine⟨?_,?_,λhm=> ?_⟩
   ·rw[hn];exact qh.1
   ·rw[hn];exact qh.2
   ·exact(mR (B.W.sub _ hm)).2.2.2 t hn
  ·rw[yW];exact hsa
  ·rw[BL];exact uL
  ·exact absurd hd (λh=>h)
  ·exact absurd hd (λh=>h)
 ·rw[e1,abH,abH,abH,IJ,ID,IG]
  show([]++([]++(as.map (λa:Ag=>(a.nm,(a.b:Int)))++[]))).Nodup
  rw[aav,aaP,aaP]
  have :=xd B.nd
  rw[<-B.ak,aaN] at this
  exact this
 ·rcases B.mem hi with⟨p,h1,h2⟩ | h2 | h2 | ⟨a,h1,h2⟩ | ⟨c,h1,h2⟩
  ·cases h2
  ·rw[yW] at h2;cases h2
  ·rw[BL] at h2;cases h2
  ·unfold Ag.it at h2
   simp only[It.asg.injEq] at h2
   refine jj h2 ?_;clear h2;rintro rfl rfl rfl rfl
   refine nh (B.key h1) λp h3 h4 h5 h6=> ?_
   refine⟨⟨(p.w:Int)- 1,?_,by exact W5 h6⟩,B.pX h1⟩
   rw[<-h4,<-h5,e1]
   exact aal.mpr (.inl (aaH.mpr ⟨p,h3,rfl⟩))
  ·cases h2
 ·rcases B.mem hi with⟨p,h1,h2⟩ | h2 | h2 | ⟨a,h1,h2⟩ | ⟨c',h1,h2⟩
  ·cases h2
  ·rw[yW] at h2;cases h2
  ·rw[BL] at h2;cases h2
  ·cases h2
  ·unfold Cl.it at h2
   simp only[It.cell.injEq] at h2
   refine bM h2 ?_;clear h2;rintro rfl rfl rfl
   have :=B.co c' h1
   rcases aat.mp hw with rfl | h
   ·exact .inr (.inr this.2.2.1)
   ·have :=this.2.2.2 w h
    simp only[abl,aaP,aat] at this
    rcases this with h | h | h
    ·exact .inl h
    ·exact .inr (.inl h)
    ·exact .inr (.inr h)
 ·rw[e1];simp;exact W6 yN yU iY
 ·rw[e1,aaM,aaM,aaM,IK,IE,IH]
  have :[It.wire x xr,It.wire y yr].flatMap dw=wires:=by rw[<-BK];simp[dw]
  rw[this]
  show(([]:List Str)++(wires++([]++[]))).length<=10
  simp;exact Qz Pg
 ·rw[<-BK] at hw
  rcases aal.mp hw with h | h
  ·exact⟨.wire x xr,by rw[e1];simp,h⟩
  ·exact⟨.wire y yr,by rw[e1];simp,h⟩
end
end Mine
namespace Mine
theorem qD.drop{wires:List Str}{it:It}{L:List It}(h:qD wires (it::L))(hd: ¬isDecl it):qD wires L:=by
 have wX: ∀i∈it::L,isDecl i->i∈L:=λi hi hi2=>by
  rcases aat.mp hi with rfl | h1
  ·exact absurd hi2 hd
  ·exact h1
 refine⟨λi hi=>h.its i (aai _ hi),?_,λi hi=>h.fit i (aai _ hi),?_,λd nm b w hi=> ?_,λc out ins hi=>h.AA c out ins (aai _ hi),?_,?_,λw hw=> ?_⟩
 ·have :=h.dn
  rw[aaL,aaQ] at this
  exact this.2.1
 ·have :=h.Ak
  rw[abO] at this
  split at this
  ·exact this
  ·exact(aaK.mp this).2
 ·refine aO (h.uj d nm b w (aai _ hi)) ?_;rintro ⟨n,h1,h2⟩ h3
  exact⟨⟨n,wX _ h1 trivial,h2⟩,h3⟩
 ·have :=h.len;simp at this;exact W7 this
 ·have :=h.D9
  rw[aaL,aag] at this;exact W8 this
 ·refine ao (h.wall w hw) λi h1 h2=> ?_
  refine⟨i,wX i h1 ?_,h2⟩
  cases i with
  | wire=>trivial
  | port=>trivial
  | asg=>cases h2
  | cell=>cases h2
section
variable{wires:List Str}{ps:List Pt}{as:List Ag}{cs:List Cl}{wa wb:List Str}{f:Flt}{sort:Int}{bj:List It}
theorem rK{a:Ag}{decls rows:List It}(h:rows.Perm (a.it::bj)):(decls++rows).Perm (a.it::(decls++bj)):=(abF decls h).trans List.perm_middle
theorem wH(B:Built wires ps as cs wa wb)(hF:qN as (rowsOf as cs) f sort bj):qD wires (declsOf ps wa wb++bj):=by
 cases f with
 | y7 a=>
  have h1:=B.tQ.perm (rK hF.2.2).symm
  exact h1.drop (λh=>h)
 | none=>rw[hF.2];exact B.tQ
 | order=>rw[hF.2];exact B.tQ
 | twice a=>rw[hF.2.2];exact B.tQ
 | mP=>rw[hF.2];exact B.tQ
theorem wJ(hF:qN as (rowsOf as cs) f sort bj): ∀it∈bj,it∈rowsOf as cs:=by
 cases f with
 | y7 a=>exact λit hi=>hF.2.2.mem_iff.mpr (aai _ hi)
 | none=>rw[hF.2];exact λ_ h=>h
 | order=>rw[hF.2];exact λ_ h=>h
 | twice a=>rw[hF.2.2];exact λ_ h=>h
 | mP=>rw[hF.2];exact λ_ h=>h
theorem MB{it:It}(h:it∈rowsOf as cs): ¬isDecl it:=by
 unfold rowsOf at h
 rcases aal.mp h with h | h
 ·refine ae h ?_;rintro a _ rfl
  exact λh=>h
 ·refine ae h ?_;rintro a _ rfl
  exact λh=>h
theorem Bo(B:Built wires ps as cs wa wb){bj:List It}(h: ∀a∈as,a.it∈bj): ∀pt∈ps,∀b:Nat,b<pt.w-> ∃d w,It.asg d pt.nm b w∈declsOf ps wa wb++bj:=λpt hp b hb=>by
 refine nh (B.full hp hb) λa h1 h2 h3 h4=> ?_
 have :=h a h1
 unfold Ag.it at this
 rw[h3,h4] at this
 exact⟨a.d,a.w,aal.mpr (.inr this)⟩
theorem finish(B:Built wires ps as cs wa wb)(hF:qN as (rowsOf as cs) f sort bj){c0:AO}{pl:List V}{E:List It}{nu:List (Str×V)}(h:Em wires (declsOf ps wa wb++bj) E [] nu pl)(k4:bA 0 c0=true):
  LG 22 80007 (mU (bt (f.again wires)) f.Oh sort (E.flatMap It.text) wires) (AP c0 pl ((declsOf ps wa wb).map aU) ps E nu):=by
 have BH:=wH B hF
 have uM:=wJ hF
 have hE:=h.pe
 rw[aav] at hE
 have X:hU c0 pl ((declsOf ps wa wb).map aU) ps wires (declsOf ps wa wb++bj) E nu:=by
  refine⟨B.W.W,k4,h.pl,gE,hE,BH,h.ok,h.I,h.N,h.A,h.hq,aaD (ab6 _ _) h.tl,B.p2,B.p3,B.nd,λp h=>B.pN h,B.pw,λp h=> ?_,λd nm k h=> ?_,λh=>(mR (B.W.sub _ h)).2.2.1 rfl⟩
  ·refine aal.mpr (.inl ?_)
   unfold declsOf
   exact aal.mpr (.inl (aaH.mpr ⟨p,h,rfl⟩))
  ·have h1:It.port d nm k∈declsOf ps wa wb++rowsOf as cs:=by
    rcases aal.mp h with h | h
    ·exact aal.mpr (.inl h)
    ·exact aal.mpr (.inr (uM _ h))
   refine cc (dy B.wa) λx xr hx yW=> ?_
   refine cc (dy B.wb) λy yr hy BL=> ?_
   rcases B.mem h1 with⟨p,g1,g2⟩ | g2 | g2 | ⟨a,g1,g2⟩ | ⟨c,g1,g2⟩
   ·exact⟨p,g1,g2.symm⟩
   ·rw[yW] at g2;cases g2
   ·rw[BL] at g2;cases g2
   ·cases g2
   ·cases g2
 have full:bj=rowsOf as cs-> ∀pt∈ps,∀b:Nat,b<pt.w-> ∃d w,It.asg d pt.nm b w∈declsOf ps wa wb++bj:=λe=>Bo B λa ha=>by
  rw[e];exact aal.mpr (.inl (aaH.mpr ⟨a,ha,rfl⟩))
 cases f with
 | none=>
  refine aO hF λh4 he=> ?_;clear hF
  exact good_none X (W9 h4) (Xa h4) (Xb h4) (full he)
 | order=>
  refine aO hF λh4 he=> ?_;clear hF
  subst h4
  exact uC X
 | y7 a=>
  refine bM hF λh4 ha mj=> ?_;clear hF
  subst h4
  refine nh (B.key ha) λz hz Po NB UC=> ?_
  refine yK X hz Po NB UC (λpt hp aa b hb=> ?_) (λd b' w hi Ec=> ?_)
  ·refine nh (B.full hp hb) λa' h1 h2 h3 h5=> ?_
   have hr:a'.it∈rowsOf as cs:=aal.mpr (.inl (aaH.mpr ⟨a',h1,rfl⟩))
   have :a'.it∈bj:=by
    rcases aat.mp (mj.mem_iff.mp hr) with e | h
    ·unfold Ag.it at e
     simp only[It.asg.injEq] at e
     exact absurd (h3.symm.trans e.2.1) aa
    ·exact h
   unfold Ag.it at this
   rw[h3,h5] at this
   exact⟨a'.d,a'.w,aal.mpr (.inr this)⟩
  ·have wX:=(B.tQ.perm (rK (decls:=declsOf ps wa wb) mj).symm).Ak
   rw[abO] at wX
   have Ud:((a.nm,(a.b:Int))::(declsOf ps wa wb++bj).filterMap yl).Nodup:=wX
   have hbi:=(BH.its _ hi).2.1
   have e:b'=(a.b:Int):=by rcases hbi with h | h<;>omega
   subst e
   exact(aaK.mp Ud).1 (aba.mpr ⟨_,hi,rfl⟩)
 | twice a=>
  refine bM hF λh4 ha he=> ?_;clear hF
  subst h4
  have hr:a.it∈declsOf ps wa wb++bj:=aal.mpr (.inr (by rw[he];exact aal.mpr (.inl (aaH.mpr ⟨a,ha,rfl⟩))))
  exact uD X hr (full he)
 | mP=>
  refine aO hF λh4 he=> ?_;clear hF
  subst h4
  exact uE X (λx hx=>⟨(mR (B.W.sub x hx)).1,(mR (B.W.sub x hx)).2.1⟩)
theorem A1{ds:List It}{c0:AO}{pl:List V}(B:Built wires ps as cs wa wb)(hF:qN as (rowsOf as cs) f sort bj)(me:ds.Perm (declsOf ps wa wb))(hp:PL pl)(k4:bA 0 c0=true):
  LG 21 80008 (mU (bt (f.again wires)) f.Oh sort [] wires) (ES c0 pl ((declsOf ps wa wb).map aU) (bj.map cQ) (ps.map Pt.v) [] [] Gy (ds.map aU)):=by
 have BH:=wH B hF
 have uM:=wJ hF
 have hlen:=BH.len
 have mj:(ds++bj).Perm (declsOf ps wa wb++bj):=List.Perm.append_right bj me
 have k6:=mj.length_eq
 rw[aag] at k6
 have hW:=B.W
 have h0:Em wires (declsOf ps wa wb++bj) [] (ds++bj) Gy pl:=⟨mj,hp,trivial,Inv.nil,dB.start,⟨hW.nd,λx hx=>⟨(mR (hW.sub x hx)).1,(mR (hW.sub x hx)).2.1⟩,ab5,(λx h=>jR h),(λp h=>jR h)⟩,Ij,by
  show 0+900* _<=50000
  rw[aag];exact Xc hlen k6,by
  show 0+_<=800
  rw[aag];exact Xd hlen k6⟩
 refine gF (Fm (c0:=c0) (de:=(declsOf ps wa wb).map aU) (po:=ps.map Pt.v) (ag:=bt (f.again wires)) (du:=f.Oh) (sort:=sort) hW.W BH _ [] ds bj Gy pl rfl (λi hi=>by
  have h1:=me.mem_iff.mp hi
  obtain⟨x,xr,hx,yW⟩:=dy B.wa
  obtain⟨y,yr,hy,BL⟩:=dy B.wb
  unfold declsOf at h1
  rcases aal.mp h1 with h | h
  ·obtain⟨p,_,rfl⟩:=aaH.mp h;trivial
  ·rw[yW,BL] at h
   rcases aat.mp h with rfl | h
   ·trivial
   ·rw[abb.mp h];trivial) (λi hi=>MB (uM i hi)) h0) λE' hY cF h1 go=> ?_
 exact LG.seg (j:=1) (K:=3000) [fR (go.le (N':=2100) (Xe hlen k6))] (by kernel_rfl) rfl (by decide) (finish B hF h1 k4)
end
end Mine
namespace Mine
theorem HM{xs:List V}{n:Nat}{st:List AO}(h:st[n]? =some (.lst xs))(hl:xs.length<=1000):gu false "list" [.loc n] st=ok (.lst xs) st:=by
 show oK (bB st (.loc n)) (λys=>mk false ys st)=_
 rw[show bB st (.loc n)=some xs from iN h]
 exact if_pos (show xs.length<=100000 by exact xw hl)
theorem qc{xs:List V}{i:Nat}{st:List AO}(hl:xs.length<=1000):fq st (.tup xs) i=some xs[i]? :=if_pos (show xs.length<=100000 by exact xw hl)
section
variable{wires:List Str}{ps:List Pt}{as:List Ag}{cs:List Cl}{sort:Int}{c0:AO}{pl:List V}
theorem HE{cut:Nat}(k4:bA 0 c0=true)(hp:PL pl)(hs:0<=sort/\sort<8)(W:Ah wires)(uF:1<=cut/\cut<wires.length)(qG:2<=ps.length)(yU:ps.length<=3)(qH:ps.map (·.nm)=(List.range' 0 ps.length).map pN)(BJ: ∀p∈ps,p.w<=2)(Sg:as.map Ag.key=keysOf ps)(TO: ∀a∈as,a.w∈bT a.d wires):
  LG 8 80021 (NC cut sort wires) (LS c0 pl (ps.map λp=>aU p.it) (as.map Ag.v) (ps.map Pt.v)):=by
 have OP:=W.four
 have yN:as.length<=6:=by
  have h1:=congrArg abx Sg
  rw[aae] at h1
  have h2:=mw BJ
  exact Xj yU h1 h2
 have hta:wires.take cut≠[]:=λe=>by have :=congrArg abx e;rw[abu] at this;have h0:min cut wires.length=0:=this;exact Xk uF h0
 have htb:wires.drop cut≠[]:=λe=>by have :=congrArg abx e;rw[acY] at this;have h0:wires.length- cut=0:=this;exact Xl uF h0
 have ct:=λst=>(lT (xs:=wires.map .str) (h:=cut) (by rw[aae];exact Mc OP) (QE uF OP) st).trans (show _=ok (cy (wires.take cut)) st by rw[<-List.map_take];rfl)
 have cd:=λst=>(AM (xs:=wires.map .str) (h:=cut) (by rw[aae];exact Mc OP) (QE uF OP) st).trans (show _=ok (cy (wires.drop cut)) st by rw[<-List.map_drop];rfl)
 have IU:wires=wires.take cut++wires.drop cut:=(acT cut wires).symm
 generalize wires.take cut=wa at*
 generalize wires.drop cut=wb at*
 refine cc (dy hta) ?_;rintro x xr rfl yW
 refine cc (dy htb) ?_;rintro y yr rfl BL
 have hxl:xr.length<=10/\yr.length<=10:=by have :=congrArg abx IU;rw[aag,aan,aan] at this;exact Xm OP this
 have FT:aQ 0 (ps.map Pt.v)=true:=by
  rw[bX];intro x hx
  refine ae hx ?_;rintro p _ rfl;rfl
 have Tu:(ps.map λp=>aU p.it)++[aU (.wire x xr)]++[aU (.wire y yr)]=(declsOf ps (x::xr) (y::yr)).map aU:=by
  unfold declsOf;rw[yW,BL,aaA,aaN,aax];rfl
 have BD:(declsOf ps (x::xr) (y::yr)).length<=5:=by unfold declsOf;rw[aag,aae];show _+2<=5;exact Xo yU
 have k6:(ps.map λp=>aU p.it).length<=3:=by rw[aae];exact yU
 have lp:=sz (i:=0) (pl:=pl) (c0:=c0) (de:=ps.map λp=>aU p.it) (bo:=as.map Ag.v) (po:=ps.map Pt.v) (src:= .tup [cy (x::xr),cy (y::yr)]) (asg:=as.map Ag.v) (sort:=sort) (wires:=wires) hxl.1 (Qs k6) (qc (aam rfl)) (by decide) (sz (N:=1001) hxl.2 (by rw[aag];show _+1<=_;exact Xp k6) (qc (aam rfl)) (by decide) (cz (N:=1000) (qc (aam rfl))))
 rw[Tu] at lp
 have Tw:as.map Ag.v=(as.map Ag.it).map cQ:=by rw[aaN];rfl
 refine bu (lim:=3) hp (by decide) λnc dq Uk IZ tN hd=> ?_
 obtain⟨nc,rfl⟩: ∃i:Nat,nc=i:=⟨nc.toNat,by exact ju IZ⟩
 refine km (lR (asg:=as.map Ag.v) (sort:=sort) (wires:=wires) W.W (nc:=1+nc) (Xq tN) (gE (l:=declsOf ps (x::xr) (y::yr))) FT k4 (1+nc) 0 dq (as.map Ag.it) (Nat.add_zero _) Uk (by rw[aae];exact Xr yN tN)) λcs vj Ul iY tM cl=> ?_
 rw[<-Tw] at cl
 have B:Built wires ps as cs (x::xr) (y::yr):=⟨W,IU,hta,htb,qH,qG,yU,BJ,Sg,TO,tM,by exact Xs tN iY⟩
 refine LG.seg (j:=3) (K:=3000) [fV 6 (HM (n:=3) (xs:=as.map Ag.v) (st:=LS c0 pl (ps.map λp=>aU p.it) (as.map Ag.v) (ps.map Pt.v)) rfl (by rw[aae];exact Xu yN)),fF 8 ct,fF 8 cd,fR lp,fV 0 (hd 18 c0 [.lst ((declsOf ps (x::xr) (y::yr)).map aU),.lst (as.map Ag.v),.lst (ps.map Pt.v)]),fF 6 (j5 (n:=1+nc) (Xv tN)),fR (cl.le (N':=300) (Xw tN))] (by kernel_rfl) rfl (by decide)
  (Z6 (N:=80008) (decls:=declsOf ps (x::xr) (y::yr)) (rows:=rowsOf as cs) (as:=as) W.W Ul hs (Xx BD) (by unfold rowsOf;rw[aag,aae,aae];exact Xy yN tN iY) (Xz yN) (λit hi=>B.tQ.its it (aal.mpr (.inr hi))) (λa ha=>aal.mpr (.inl (aaH.mpr ⟨a,ha,rfl⟩))) FT k4 (by decide) λf sort' ds bj qi Ee me hF=>A1 B hF me Ee k4)
end
theorem BZ(ns:List Int)(hl:ns.length<=63): ∃st,gU TT g6 20 565 [.lst (ns.map V.int)] []=some (.ok (.bool true),st):=by
 refine bu (lim:=8) (GV (ns:=ns)) (by decide) λsort b8 dj hs0 pG Np=> ?_
 refine bu (lim:=3) dj (by decide) λt dq qG Ut I1 hd2=> ?_
 obtain⟨t,rfl⟩: ∃i:Nat,t=i:=⟨t.toNat,by exact ju Ut⟩
 have po:=GU (k:=18) hl
 have yO:bA 0 (.lst ((ns.take 40).reverse.map V.int))=true:=by
  show aQ 0 _=true
  rw[bX];intro x hx
  refine ae hx ?_;rintro i _ rfl;rfl
 generalize k4:AO.lst ((ns.take 40).reverse.map V.int)=c0 at*
 have ct:=λst=>(lT (xs:=jd.map .str) (h:=2+t) (by decide) (XA I1) st).trans (show _=ok (.lst ((jd.take (2+t)).map .str)) st by rw[<-List.map_take])
 have tP:(jd.take (2+t)).length=2+t:=by rw[abu];show min _ 4=_;exact XB I1
 refine cj (xN (xs:=(jd.take (2+t)).map .str) qG dW (by rw[aae];exact XD I1 tP)) λys vj yU kK kJ=> ?_
 refine ao (sC kK.symm (jd.take (2+t)) rfl) ?_;rintro wires rfl Pk
 have BK:wires.length=2+t:=by rw[Pk.length_eq,tP]
 have hW:Ah wires:=⟨λx hx=>List.take_subset _ _ (Pk.mem_iff.mp hx),Pk.nodup_iff.mpr ((List.take_sublist _ _).nodup (by decide+kernel)),by exact QF BK,by exact XE I1 BK⟩
 refine bu (lim:=(wires.length:Int)- 1) yU ⟨by exact XG BK,by exact XH I1 BK⟩ λcut qi Ee Nz hu1 hd4=> ?_
 obtain⟨cut,rfl⟩: ∃i:Nat,cut=i:=⟨cut.toNat,by exact ju Nz⟩
 refine bu (lim:=2) Ee (by decide) λnp qj Nv IZ tN hd5=> ?_
 obtain⟨np,rfl⟩: ∃i:Nat,np=i:=⟨np.toNat,by exact ju IZ⟩
 refine Fj (mE (cut:=((1+cut:Nat):Int)) (sort:=sort) (c0:=c0) hW.W (np:=2+np) (XI tN) (2+np) 0 qj [] [] [] (Nat.add_zero _) Nv (by show 0+_<=_;exact QG tN) (by show 0+_<=_;exact QG tN) (by show 0+_<=_;exact XJ tN)) λps as CM FR qH BJ Sg TO lp=> ?_
 have hH:ps.length=2+np:=by have :=congrArg abx qH;rwa [aae,aae,List.length_range'] at this
 rw[<-hH] at qH
 refine LG.call (LG.le (LG.seg (j:=8) (K:=3000) [fV 0 po,fV 0 (Np 18 c0 []),fV 0 (hd2 18 c0 []),fF 8 ct,fV 0 (kJ 17 c0 [] (.lst ((jd.take (2+t)).map .str)) (by rw[abq,yO];rfl) rfl),fF 5 (len_strs (l:=wires) (XK I1 BK)),fV 0 (hd4 18 c0 []),fV 0 (hd5 18 c0 [.lst [],.lst [],.lst []]),fF 6 (j5 (n:=2+np) (XM tN)),fR (lp.le (N':=1100) (XN tN))] (by kernel_rfl) rfl (by decide) (HE (cut:=1+cut) yO FR ⟨hs0,pG⟩ hW ⟨by exact XO,by exact XQ hu1⟩ (QF hH) (XR tN hH) qH BJ Sg TO)) (by decide))
end Mine
theorem PySem.Challenge.cw_sj0056_01_holds : PySem.Challenge.rw_sj0056_01.Holds :=
 Mine.join Mine.BZ
