import PyProof.Rows.All
import Wide.All
import OpenK.AllK
import Wide.FinOn
import KE.KTab
import KE.KIsNot
import KE.KTryDeep
import KE.KLam
import KE.KAnyBase
import PyProof.DictRoadsH
import PyProof.Rows.EqMixed
import KE.KDictList
import KE.KPar
import KE.KNestM
import Lean
import PySem.Challenge.RW_sm0031_01
set_option Elab.async false
set_option maxRecDepth 100000
set_option maxHeartbeats 0
set_option linter.all false
set_option genSizeOf false
set_option genInjectivity false
set_option tactic.hygienic false
set_option bootstrap.genMatcherCode false
namespace Mine
abbrev WU:=@Bool.and_eq_true
abbrev WV:=@PySem.wpAny_bind
abbrev WW:=@List.mem_append_right
abbrev WX:=@Nat.le_trans
abbrev WY:=@List.mem_cons
abbrev WZ:=@List.all_eq_true
abbrev W0:=@List.length_map
abbrev W1:=@PySem.wpAny_pure
abbrev W2:=@List.nodup_cons
abbrev W3:=@List.mem_append_left
abbrev W4:=@List.map_cons
abbrev W5:=@of_decide_eq_true
abbrev W6:=@List.mem_append
abbrev W7:=@Option.some.inj
abbrev W8:=@Option.map_eq_some_iff
abbrev W9:=@Nat.eq_of_beq_eq_true
abbrev Xa:=@List.map_append
abbrev Xb:=@List.mem_map
abbrev Xd:=@List.getElem?_map
abbrev Xe:=@PySem.Heap.lt_size
abbrev Xf:=@List.getElem?_eq_getElem
abbrev Xh:=@if_neg
abbrev Xi:=@Nat.lt_of_lt_of_le
abbrev Xj:=@Bool.not_eq_true'
abbrev Xk:=@List.lookup_cons
abbrev Xl:=@Int.le_trans
abbrev Xm:=@List.mem_map_of_mem
abbrev Xn:=@if_pos
abbrev Xo:=@decide_eq_false
abbrev Xp:=@PySem.Heap.get?_push_of_some
abbrev Xq:=@List.size_toArray
abbrev Xr:=@Bool.and_eq_true_iff
abbrev Xu:=@beq_iff_eq
abbrev Xv:=@Nat.le_of_ble_eq_true
abbrev Xw:=@List.mem_of_elem_eq_true
abbrev Xx:=@decide_eq_true
abbrev Xy:=@Nat.le_refl
abbrev Xz:=@Bool.false_eq_true
abbrev XA:=@List.mem_singleton
abbrev XC:=@Nat.ne_of_lt
abbrev XD:=@List.sum_cons
abbrev XE:=@Bool.false_ne_true
abbrev XG:=@List.mem_range
abbrev XH:=@PySem.wpAny_holding
abbrev XI:=@PySem.sizeLine_eq
abbrev XJ:=@LawfulBEq.eq_of_beq
abbrev XK:=@PySem.F.excBase_ValueError
abbrev XM:=@Int.eq_ofNat_of_zero_le
abbrev XN:=@PySem.Heap.get?_push_size
abbrev XO:=@List.append_nil
abbrev XR:=@PySem.Heap.get?_update_other
abbrev XS:=@Int.le_refl
abbrev XU:=@List.contains_iff_mem
abbrev XV:=@Array.getElem?_eq_some_iff
abbrev XW:=@Option.isNone_iff_eq_none
abbrev XX:=@Nat.lt_irrefl
abbrev XY:=@Nat.lt_succ_self
abbrev XZ:=@decide_eq_true_eq
abbrev X0:=@List.mem_of_getElem?
abbrev X4:=@Nat.le_add_right
abbrev X5:=@PySem.Heap.size_after_update
abbrev X6:=@PySem.W.Fast.te14364793385576792824
abbrev X7:=@PySem.Heap.dictOf_iff
abbrev X8:=@List.sum_append
abbrev X9:=@Nat.zero_add
abbrev Yb:=@List.length_append
abbrev Yc:=@List.length_cons
abbrev Yd:=@Nat.le_of_eq
abbrev Ye:=@List.exists_cons_of_ne_nil
abbrev Yg:=@List.length_range
abbrev Yh:=@List.mem_of_find?_eq_some
abbrev Yi:=@congrArg
abbrev Yj:=@PySem.Heap.get?_update_self
abbrev Yk:=@Int.lt_of_le_of_lt
abbrev Yl:=@Int.natCast_nonneg
abbrev Ym:=@PySem.wpAny_mono
abbrev Yn:=@List.mem_filterMap
abbrev Yo:=@Option.isSome_iff_exists
abbrev Yp:=@List.map_map
abbrev Yq:=@List.take_of_length_le
abbrev Yr:=@PySem.wpAny_standAt
abbrev Ys:=@List.all_cons
abbrev Yt:=@List.any_eq_true
abbrev Yu:=@if_false
abbrev Yv:=@PyProof.Rows.assignInOrder_cons
abbrev Yw:=@Int.emod_lt_of_pos
abbrev Yx:=@List.getElem?_eq_some_iff
abbrev Yy:=@List.find?_cons
abbrev Yz:=@Nat.le_succ_of_le
abbrev YA:=@List.any_eq_false
abbrev YB:=@List.forall_mem_cons
abbrev YC:=@List.flatMap_cons
abbrev YD:=@Int.add_assoc
abbrev YE:=@List.flatMap_append
abbrev YF:=@beq_self_eq_true
abbrev YG:=@Option.bind_eq_some_iff
abbrev YH:=@List.length_take
abbrev YI:=@PySem.W.hideAll_get
abbrev YJ:=@PySem.wpAny_field
abbrev YK:=@Int.ofNat_le
abbrev YL:=@PySem.Obj.data_mapFields
abbrev YM:=@Nat.not_lt
abbrev YN:=@Int.emod_nonneg
abbrev YQ:=@List.range_succ
abbrev YR:=@PySem.Obj.isFreed_of_fields
abbrev YS:=@List.nodup_append
abbrev YT:=@PySem.wpAny_truthy_bool
abbrev YU:=@Int.le_add_of_nonneg_right
abbrev YV:=@PySem.wpAny_bindName
abbrev YW:=@Nat.blt_eq
abbrev YX:=@List.getD_eq_getElem?_getD
abbrev YY:=@Int.ofNat_lt
abbrev YZ:=@PySem.codeAny_mono
abbrev Y0:=@List.filter_cons
abbrev Y1:=@List.not_mem_nil
abbrev Y2:=@List.length_drop
abbrev Y3:=@List.isEmpty_iff
abbrev Y4:=@List.flatMap_nil
abbrev Y5:=@List.getElem?_range
abbrev Y6:=@Nat.succ_add_eq_add_succ
abbrev Y7:=@List.take_append_getElem
abbrev Y8:=@Nat.le_add_left
abbrev Y9:=@Nat.lt_of_le_of_lt
abbrev Za:=@Int.lt_of_lt_of_le
abbrev Zb:=@Nat.lt_add_of_pos_right
abbrev Zc:=@Nat.ne_of_gt
abbrev Zd:=@PySem.wpAny_setField
abbrev Ze:=@PySem.wpAny_loadPart
abbrev Zf:=@bne_self_eq_false
abbrev Zg:=@Nat.lt_succ_of_lt
abbrev Zh:=@Nat.add_sub_of_le
abbrev Zi:=@PySem.F.slot_dict_get
abbrev Zj:=@Array.getElem?_toList
abbrev Zk:=@Nat.le_of_not_lt
abbrev Zl:=@Nat.succ_le_succ
abbrev Zm:=@PySem.wpAny_call_entry
abbrev Zn:=@Bool.not_true
abbrev Zo:=@Nat.add_le_add_right
abbrev Zp:=@Int.add_le_add_right
abbrev Zq:=@congrFun
abbrev Zr:=@Bool.or_eq_false_iff
abbrev Zs:=@PySem.Around.frames_deeper
abbrev Zt:=@Nat.le_succ
abbrev Zu:=@PySem.codeAny_call_builtin
abbrev Zv:=@List.getElem?_append
abbrev Zw:=@List.forIn_cons
abbrev Zx:=@List.find?_some
abbrev Zy:=@List.countP_eq_length_filter
abbrev Zz:=@Nat.add_le_add_left
abbrev ZA:=@List.filter_eq_self
abbrev ZB:=@Nat.lt_trans
abbrev ZC:=@Nat.succ.inj
abbrev ZD:=@List.find?_eq_none
abbrev ZE:=@PySem.wpAny_call
abbrev ZF:=@List.getElem?_eq_none_iff
abbrev ZG:=@PySem.F.slot_list_delitem
abbrev ZH:=@PySem.getMethod_builtin
abbrev ZI:=@List.mem_range'_1
abbrev ZJ:=@PySem.W.Looks.of_pure
abbrev ZK:=@PySem.W.any_some
abbrev ZL:=@PySem.F.plainAttrs_dict
abbrev ZM:=@Nat.succ_pos
abbrev ZN:=@PySem.W.hideAll_none
abbrev ZO:=@if_true
abbrev ZP:=@PySem.W.looks_findIn
abbrev ZQ:=@Nat.lt_of_succ_lt_succ
abbrev ZR:=@Nat.beq_refl
abbrev ZS:=@List.map_nil
abbrev ZT:=@PySem.wpAny_execs_nil
abbrev ZU:=@Nat.not_lt_zero
abbrev ZV:=@Nat.sub_eq_zero_of_le
abbrev ZW:=@List.take_append_drop
abbrev ZX:=@PySem.F.type_dict_get
abbrev ZY:=@List.getElem?_toArray
abbrev ZZ:=@PySem.W.looks_clsIn
abbrev Z0:=@List.nodup_nil
abbrev Z6:=@PySem.wpAny_listPart
abbrev Z7:=@List.any_cons
abbrev Z8:=@PySem.wpAny_Name
abbrev Z9:=@List.sum_nil
section
variable {a b c d i j k m n p q:Nat}
theorem Z1 (h:a≤b) (e:Nat.ble b c=true:=by exact Eq.refl true):a≤c:=WX h (Xv e)
theorem Z2 (h:a<b) (e:Nat.ble b c=true:=by exact Eq.refl true):a<c:=Xi h (Xv e)
theorem Z3 (h:a+k<m) (e:Nat.ble (m+i) (j+k)=true:=by exact Eq.refl true):a+i<j:=Nat.lt_of_add_lt_add_right (Xi (Nat.add_right_comm a k i▸Nat.add_lt_add_right h i) (Xv e))
theorem Z4 (h:a+k<m) (e:Nat.ble m (j+k)=true:=by exact Eq.refl true):a<j:=Z3 (i:=0) h e
theorem Z5 (h:a<m) (e:Nat.ble (m+i) j=true:=by exact Eq.refl true):a+i<j:=Z3 (k:=0) h e
theorem V6 (g:b=a) (h:a≤m) (e:Nat.ble m j=true:=by exact Eq.refl true):b≤j:=g▸Z1 h e
theorem Me (g:a=b) (h:a<m) (e:Nat.ble m j=true:=by exact Eq.refl true):b<j:=g▸Z2 h e
theorem Z12 (g:a=b+k) (h:a<m) (e:Nat.ble m (j+k)=true:=by exact Eq.refl true):b<j:=Z4 (g▸h) e
theorem yE (h:a=b):a≤b+k:=h▸X4 ..
theorem Z15 (h:a+0=b):a=b:=h
theorem Z16 (h:a+0=b):b≤a:=Yd h.symm
theorem d6 (e:Nat.beq i j=false:=by exact Eq.refl false):a+i≠a+j:=λh=>Nat.ne_of_beq_eq_false e (Nat.add_left_cancel h)
theorem Hx (e:Nat.beq 0 j=false:=by exact Eq.refl false):a≠a+j:=d6 (i:=0) e
theorem pD (e:Nat.beq i 0=false:=by exact Eq.refl false):a+i≠a:=d6 (j:=0) e
theorem Z23 (h:b+k<a) (e:Nat.ble j k=true:=by exact Eq.refl true):a≠b+j:=by have:=Xv e;lia
theorem Z24 (h:b<c) (g:c+k<a):a≠b:=(XC (ZB h (Y9 (X4 c k) g))).symm
theorem Z25 (h:a+k<b) (e:Nat.ble j k=true:=by exact Eq.refl true):a+j<b:=Y9 (Zz (Xv e) a) h
theorem vX (h:a+(b+1)=c):a+1+b=c:=(Nat.add_right_comm a 1 b).trans h
theorem Hw (h:a+(b+1)=c):a<c:=h▸Zb (ZM b)
theorem Z28 (g:b=c) (h:a+(d+1)=c):a<b:=g.symm▸Hw h
theorem HB (h:c≤b) (g:a<c):a≠b:=XC (Xi g h)
theorem Z30 (h:a<b):a≠b:=XC h
theorem Z31 (h:b<a):a≠b:=Zc h
theorem Z33 (h:a≤b) (k:b≤c):a≤c:=WX h k
theorem Z36 (h:a=b) (g:b<a):False:=absurd h (Zc g)
theorem Z37 (h:a≤b) (g:c=b) (f:c<a):False:=absurd (Xi f h) (g▸XX _)
theorem Z40 (h:a<b):a<b+k:=Xi h (X4 ..)
theorem Z41:a<b+(a+1):=Xi (XY a) (Y8 ..)
theorem Z42:a<a+(b+1):=by simp
theorem Z44 (h:0<b):0<a+b:=Xi h (Y8 ..)
theorem Z46 (h:1≤a):a=a - 1+1:=(Nat.sub_add_cancel h).symm
theorem Z48 (h:a≠0):a=a - 1+1:=Z46 (Nat.pos_of_ne_zero h)
theorem Z49 (h:b<a):a - b=a - (b+1)+1:=(Nat.sub_add_cancel (Nat.sub_pos_of_lt h)).symm
theorem Z50 (h:a≤b):a - b=0:=ZV h
theorem WR (h:a≤b):a - (b+1)=0:=ZV (Yz h)
theorem Z54 (h:¬b<a):a - (b+1)=0:=WR (Zk h)
theorem Z55 (h:¬b<a):a - b=0:=Z50 (Zk h)
theorem Z56 (h:b+1≤c) (g:a+c≤n):a+1+b≤n:=WX (Yd (vX rfl)) (WX (Zz h a) g)
theorem Z58 (h:b≤c) (g:a+c≤n):a+b≤n:=WX (Zz h a) g
theorem Z59 (h:b+1≤c) (g:a+16*c≤n) (e:Nat.ble j 16=true:=by exact Eq.refl true):a+j+16*b≤n:=by have:=Xv e;lia
theorem Z60 (h:b+1≤c) (g:a+16*c≤n) (f:j≤m) (e:Nat.ble m 16=true:=by exact Eq.refl true):a+j+16*b≤n:=WX (Yd (Nat.add_assoc ..)) (Z58 (WX (Zo (WX f (Xv e)) (16*b)) (WX (Yd (Nat.add_comm ..)) (Nat.mul_le_mul_left 16 h))) g)
theorem Z62 (h:a+b≤m) (e:Nat.ble m n=true:=by exact Eq.refl true):a≤n:=WX (X4 ..) (Z1 h e)
theorem Z63 (h:a+b≤m) (e:Nat.ble m n=true:=by exact Eq.refl true):b≤n:=WX (Y8 ..) (Z1 h e)
theorem Z67:a+b=b+a:=Nat.add_comm ..
theorem Z68 (h:a=k) (e:Nat.ble (k+1) m=true:=by exact Eq.refl true):a<m:=h▸Xv e
theorem Z69 (h:a≤k+1):a+1≤k+1+1:=Zl h
theorem Z71 (h:a=b+1):0<a:=h▸ZM b
theorem HW:a+(b+c)≤b+(a+c):=Yd (Nat.add_left_comm ..)
theorem Z73:a+b≤a+(c+b):=by simp
theorem Z75 (h:a<b):a<b:=h
theorem Z76 (h:a=b):a≤b:=Yd h
variable {x y z i j k l m n:Int}
theorem vc (h:x≤i) (e:decide (i≤j)=true:=by exact Eq.refl true):x≤j:=Xl h (W5 e)
theorem cS (h:x<i) (e:decide (i≤j)=true:=by exact Eq.refl true):x<j:=Za h (W5 e)
theorem La (h:x≤i) (e:decide (i<j)=true:=by exact Eq.refl true):x<j:=Yk h (W5 e)
theorem fp (h:x<i) (e:decide (i+k≤j)=true:=by exact Eq.refl true):x+k<j:=Za (Int.add_lt_add_right h k) (W5 e)
theorem tP (h:x<i) (e:decide (i+(k+l)≤j)=true:=by exact Eq.refl true):x+k+l<j:=by rw[YD];exact fp h e
theorem El (h:x<i) (e:decide (i+(k+(l+m))≤j)=true:=by exact Eq.refl true):x+k+l+m<j:=by rw[YD];exact tP h e
theorem Xcw (h:x<i) (e:decide (i+(k+(l+(m+n)))≤j)=true:=by exact Eq.refl true):x+k+l+m+n<j:=by rw[YD];exact El h e
theorem qb (e:decide (0≤j)=true:=by exact Eq.refl true):x≤x+j:=YU (W5 e)
theorem ky (e:decide (i≤j)=true:=by exact Eq.refl true):x+i≤x+j:=Int.add_le_add_left (W5 e) x
theorem nj (e:decide (i+k≤j)=true:=by exact Eq.refl true):x+i+k≤x+j:=by rw[YD];exact ky e
theorem Xbw (e:decide (i+(k+l)≤j)=true:=by exact Eq.refl true):x+i+k+l≤x+j:=by rw[YD];exact nj e
theorem C7 (e:decide (i+(k+(l+m))≤j)=true:=by exact Eq.refl true):x+i+k+l+m≤x+j:=by rw[YD];exact Xbw e
theorem Xad (e:decide (i+(k+(l+(m+n)))≤j)=true:=by exact Eq.refl true):x+i+k+l+m+n≤x+j:=by rw[YD];exact C7 e
theorem Nh (h:x≤y+i) (g:y<m) (e:decide (m+i≤j)=true:=by exact Eq.refl true):x<j:=Yk h (fp g e)
theorem Xa6 (h:x≤y+i) (g:y<m) (e:decide (m+(i+k)≤j)=true:=by exact Eq.refl true):x+k<j:=Yk (Zp h k) (tP g e)
theorem Dz (h:x≤y+i) (e:decide (i+k≤j)=true:=by exact Eq.refl true):x+k≤y+j:=Xl (Zp h k) (nj e)
theorem Xec (h:x≤y+i) (e:decide (i+(k+l)≤j)=true:=by exact Eq.refl true):x+k+l≤y+j:=by rw[YD];exact Dz h e
theorem xg:x<x+1:=by lia
theorem Xcl:x+0=x:=Int.add_zero _
theorem F6:x+y - y=x:=Int.add_sub_cancel x y
theorem Xe1:x+y - x=y:=by rw[Int.add_comm];exact Int.add_sub_cancel y x
theorem Fk (h:¬x<y):y≤x:=Int.not_lt.mp h
theorem qz (h:¬x≤y):y<x:=Int.not_le.mp h
theorem hO (h:x≤y):¬y<x:=Int.not_lt.mpr h
theorem XaH (h:x<y):¬y≤x:=Int.not_le.mpr h
theorem Hc (h:x<y):x≤y:=Int.le_of_lt h
theorem tQ (h:x<y):y≠x:=(Int.ne_of_lt h).symm
theorem UQ (h:x≤i) (e:decide (i.toNat≤a)=true:=by exact Eq.refl true):x.toNat≤a:=WX (Int.toNat_le_toNat h) (W5 e)
theorem QZ (h:x<i) (e:decide ((i - 1).toNat≤a)=true:=by exact Eq.refl true):x.toNat≤a:=WX (Int.toNat_le_toNat (Int.le_sub_one_of_lt h)) (W5 e)
theorem QJ (h:0≤x):((x.toNat:Nat):Int)=x:=Int.toNat_of_nonneg h
theorem Xft (h:0≤x):(x+1).toNat=x.toNat+1:=Int.toNat_add h (by decide)
theorem QD (h:0≤x) (g:x<(a:Int)):x.toNat<a:=(Int.toNat_lt h).mpr g
theorem Mc (h:0≤x) (g:x.toNat<a):x<(a:Int):=(Int.toNat_lt h).mp g
theorem UM:(0:Int)≤(a:Int):=Yl a
theorem Cy:¬(a:Int)<0:=Int.not_lt.mpr (Yl a)
theorem Ae:((a:Int)).toNat=a:=Int.toNat_natCast a
theorem E6 (h:a≤b) (e:decide ((b:Int)≤i)=true:=by exact Eq.refl true):(a:Int)≤i:=Xl (YK.mpr h) (W5 e)
theorem XbC (h:a≤b) (e:decide ((b:Int)<i)=true:=by exact Eq.refl true):(a:Int)<i:=Yk (YK.mpr h) (W5 e)
theorem XdP (g:x<(b:Int)) (h:b≤c) (e:decide ((c:Int)≤i)=true:=by exact Eq.refl true):x<i:=Za g (E6 h e)
theorem Sl (h:(a:Int)<i) (e:decide (i≤(b:Int))=true:=by exact Eq.refl true):a<b:=YY.mp (Za h (W5 e))
theorem XbK (h:0≤x) (e:decide (0≤k)=true:=by exact Eq.refl true):0≤x+k:=Int.add_nonneg h (W5 e)
theorem XcI (h:0≤x) (e:decide (0<k)=true:=by exact Eq.refl true):0<x+k:=Int.add_pos_of_nonneg_of_pos h (W5 e)
theorem XeU (h:0≤x) (g:0≤y):0≤x+y:=Int.add_nonneg h g
theorem va (h:0≤y):x≤x+y:=YU h
theorem Cz (h:0≤y) (e:decide (i≤0)=true:=by exact Eq.refl true):i≤y:=Xl (W5 e) h
theorem PS (h:¬x<i):¬(0≤x∧x<i):=λg=>h g.2
theorem L4 (h:¬0≤x):¬(0≤x∧x<i):=λg=>h g.1
theorem Xdq (h:0≤x) (g:x≤i) (e:decide (i≤j)=true:=by exact Eq.refl true):0≤x∧x≤j:=⟨h,vc g e⟩
theorem EC (h:a≤b) (e:decide ((b:Int)≤i)=true:=by exact Eq.refl true):0≤(a:Int)∧(a:Int)≤i:=⟨UM,E6 h e⟩
theorem Xbs (h:0≤x) (g:x<i) (e:decide (i≤j)=true:=by exact Eq.refl true):0≤x∧x<j:=⟨h,cS g e⟩
theorem Xed (h:0≤x) (g:x<i) (f:k≤0) (e:decide (i≤j)=true:=by exact Eq.refl true):k≤x∧x<j:=⟨Xl f h,cS g e⟩
theorem Xeo (h:x<i) (g:y≤x) (e:decide (i≤j)=true:=by exact Eq.refl true):y<j:=Yk g (cS h e)
theorem XeP (h:x<0):x+y<y:=by lia
theorem Xfv (h: -y≤x):0≤x+y:=by lia
theorem I5 (h:z≤y) (g:x≤z+i):x≤y+i:=Xl g (Zp h i)
theorem Xfo (h:x<y) (g:y<i) (e:decide (i≤j)=true:=by exact Eq.refl true):x<j:=Int.lt_trans h (cS g e)
theorem HH (h:0≤x) (g:x≤m) (f:0≤y) (k:y≤x) (e:decide (m.toNat≤a)=true:=by exact Eq.refl true):(x - y).toNat≤a:=UQ (Xl (Int.sub_le_self x f) g) e
theorem Im (g:x+y≤(b:Int)) (f:0≤x) (h:b≤c) (e:Nat.ble c a=true:=by exact Eq.refl true):y.toNat≤a:=Int.toNat_le.mpr (Xl (Int.le_add_of_nonneg_left f) (Xl g (YK.mpr (WX h (Xv e)))))
theorem DY (h:0≤x) (g:0≤y) (k:x+y≤(a:Int)):(x+y).toNat≤a:=Int.toNat_le.mpr k
theorem XdF (h:x+y≤z) (g:0≤y):x≤z:=Xl (YU g) h
theorem XaO (h:x<y) (g:z≤x) (f:z=y):False:=absurd (Yk (f▸g) h) (Int.lt_irrefl _)
universe u0 u1 u2 u3 u4 u5 u6
variable {p q r:Prop} {R:Prop}
theorem wI (h:p∧q∧r) (k:p->q->r->R):R:=by
 obtain⟨b,c,a⟩:=h;exact k b c a
theorem eQ (x1:p) (x2:q) (x3:r):p∧q∧r:=⟨x1,x2,x3⟩
variable {s:Prop}
theorem E04 (h:p∧q∧r∧s) (k:p->q->r->s->R):R:=by
 obtain⟨b,c,a,d⟩:=h;exact k b c a d
theorem gc (x1:p) (x2:q) (x3:r) (x4:s):p∧q∧r∧s:=⟨x1,x2,x3,x4⟩
theorem I05 {p q r s t:Prop} (x1:p) (x2:q) (x3:r) (x4:s) (x5:t):p∧q∧r∧s∧t:=⟨x1,x2,x3,x4,x5⟩
theorem I06 {p q r s t u:Prop} (x1:p) (x2:q) (x3:r) (x4:s) (x5:t) (x6:u):p∧q∧r∧s∧t∧u:=⟨x1,x2,x3,x4,x5,x6⟩
variable {α0:Sort u0}
theorem bn {p q:α0->Prop} (h:∃a,p a∧q a) (k:∀a,p a->q a->R):R:=by
 obtain⟨a,b,c⟩:=h;exact k a b c
theorem bv {p q:α0->Prop} (a:α0) (x1:p a) (x2:q a):∃a,p a∧q a:=⟨a,x1,x2⟩
theorem ic {p q r:α0->Prop} (h:∃a,p a∧q a∧r a) (k:∀a,p a->q a->r a->R):R:=by
 obtain⟨a,c,d,b⟩:=h;exact k a c d b
theorem jn {p q r:α0->Prop} (a:α0) (x1:p a) (x2:q a) (x3:r a):∃a,p a∧q a∧r a:=⟨a,x1,x2,x3⟩
theorem E14 {p q r s:α0->Prop} (h:∃a,p a∧q a∧r a∧s a) (k:∀a,p a->q a->r a->s a->R):R:=by
 obtain⟨a,e,c,b,d⟩:=h;exact k a e c b d
variable {α1:Sort u1}
theorem mZ {p:α0->α1->Prop} (h:∃a b,p a b) (k:∀a b,p a b->R):R:=by
 obtain⟨a,b,c⟩:=h;exact k a b c
theorem rU {p:α0->α1->Prop} (a:α0) (b:α1) (x1:p a b):∃a b,p a b:=⟨a,b,x1⟩
theorem gM {p q:α0->α1->Prop} (h:∃a b,p a b∧q a b) (k:∀a b,p a b->q a b->R):R:=by
 obtain⟨a,b,c,d⟩:=h;exact k a b c d
theorem uA {p q:α0->α1->Prop} (a:α0) (b:α1) (x1:p a b) (x2:q a b):∃a b,p a b∧q a b:=⟨a,b,x1,x2⟩
theorem jC {p q r:α0->α1->Prop} (h:∃a b,p a b∧q a b∧r a b) (k:∀a b,p a b->q a b->r a b->R):R:=by
 obtain⟨a,b,e,d,c⟩:=h;exact k a b e d c
theorem j6 {p q r:α0->α1->Prop} (a:α0) (b:α1) (x1:p a b) (x2:q a b) (x3:r a b):∃a b,p a b∧q a b∧r a b:=⟨a,b,x1,x2,x3⟩
theorem ux {p q r s:α0->α1->Prop} (h:∃a b,p a b∧q a b∧r a b∧s a b) (k:∀a b,p a b->q a b->r a b->s a b->R):R:=by
 obtain⟨a,b,f,d,c,e⟩:=h;exact k a b f d c e
theorem ya {p q r s:α0->α1->Prop} (a:α0) (b:α1) (x1:p a b) (x2:q a b) (x3:r a b) (x4:s a b):∃a b,p a b∧q a b∧r a b∧s a b:=⟨a,b,x1,x2,x3,x4⟩
theorem I25 {p q r s t:α0->α1->Prop} (a:α0) (b:α1) (x1:p a b) (x2:q a b) (x3:r a b) (x4:s a b) (x5:t a b):∃a b,p a b∧q a b∧r a b∧s a b∧t a b:=⟨a,b,x1,x2,x3,x4,x5⟩
variable {α2:Sort u2}
theorem tV {p:α0->α1->α2->Prop} (h:∃a b c,p a b c) (k:∀a b c,p a b c->R):R:=by
 obtain⟨a,b,c,d⟩:=h;exact k a b c d
theorem w9 {p:α0->α1->α2->Prop} (a:α0) (b:α1) (c:α2) (x1:p a b c):∃a b c,p a b c:=⟨a,b,c,x1⟩
theorem uB {p q:α0->α1->α2->Prop} (h:∃a b c,p a b c∧q a b c) (k:∀a b c,p a b c->q a b c->R):R:=by
 obtain⟨a,b,c,e,d⟩:=h;exact k a b c e d
theorem uv {p q:α0->α1->α2->Prop} (a:α0) (b:α1) (c:α2) (x1:p a b c) (x2:q a b c):∃a b c,p a b c∧q a b c:=⟨a,b,c,x1,x2⟩
theorem pi {p q r:α0->α1->α2->Prop} (h:∃a b c,p a b c∧q a b c∧r a b c) (k:∀a b c,p a b c->q a b c->r a b c->R):R:=by
 obtain⟨a,b,c,f,e,d⟩:=h;exact k a b c f e d
theorem mQ {p q r:α0->α1->α2->Prop} (a:α0) (b:α1) (c:α2) (x1:p a b c) (x2:q a b c) (x3:r a b c):∃a b c,p a b c∧q a b c∧r a b c:=⟨a,b,c,x1,x2,x3⟩
theorem mC {p q r s:α0->α1->α2->Prop} (h:∃a b c,p a b c∧q a b c∧r a b c∧s a b c) (k:∀a b c,p a b c->q a b c->r a b c->s a b c->R):R:=by
 obtain⟨a,b,c,g,e,d,f⟩:=h;exact k a b c g e d f
theorem gW {p q r s:α0->α1->α2->Prop} (a:α0) (b:α1) (c:α2) (x1:p a b c) (x2:q a b c) (x3:r a b c) (x4:s a b c):∃a b c,p a b c∧q a b c∧r a b c∧s a b c:=⟨a,b,c,x1,x2,x3,x4⟩
theorem E35 {p q r s t:α0->α1->α2->Prop} (h:∃a b c,p a b c∧q a b c∧r a b c∧s a b c∧t a b c) (k:∀a b c,p a b c->q a b c->r a b c->s a b c->t a b c->R):R:=by
 obtain⟨a,b,c,i,f,e,g,d⟩:=h;exact k a b c i f e g d
theorem I35 {p q r s t:α0->α1->α2->Prop} (a:α0) (b:α1) (c:α2) (x1:p a b c) (x2:q a b c) (x3:r a b c) (x4:s a b c) (x5:t a b c):∃a b c,p a b c∧q a b c∧r a b c∧s a b c∧t a b c:=⟨a,b,c,x1,x2,x3,x4,x5⟩
theorem E36 {p q r s t u:α0->α1->α2->Prop} (h:∃a b c,p a b c∧q a b c∧r a b c∧s a b c∧t a b c∧u a b c) (k:∀a b c,p a b c->q a b c->r a b c->s a b c->t a b c->u a b c->R):R:=by
 obtain⟨a,b,c,j,f,e,i,d,g⟩:=h;exact k a b c j f e i d g
theorem V4 {p q r s t u:α0->α1->α2->Prop} (a:α0) (b:α1) (c:α2) (x1:p a b c) (x2:q a b c) (x3:r a b c) (x4:s a b c) (x5:t a b c) (x6:u a b c):∃a b c,p a b c∧q a b c∧r a b c∧s a b c∧t a b c∧u a b c:=⟨a,b,c,x1,x2,x3,x4,x5,x6⟩
variable {α3:Sort u3}
theorem mG {p:α0->α1->α2->α3->Prop} (h:∃a b c d,p a b c d) (k:∀a b c d,p a b c d->R):R:=by
 obtain⟨a,b,c,d,e⟩:=h;exact k a b c d e
theorem V3 {p:α0->α1->α2->α3->Prop} (a:α0) (b:α1) (c:α2) (d:α3) (x1:p a b c d):∃a b c d,p a b c d:=⟨a,b,c,d,x1⟩
theorem HA {p q:α0->α1->α2->α3->Prop} (h:∃a b c d,p a b c d∧q a b c d) (k:∀a b c d,p a b c d->q a b c d->R):R:=by
 obtain⟨a,b,c,d,f,e⟩:=h;exact k a b c d f e
theorem yx {p q:α0->α1->α2->α3->Prop} (a:α0) (b:α1) (c:α2) (d:α3) (x1:p a b c d) (x2:q a b c d):∃a b c d,p a b c d∧q a b c d:=⟨a,b,c,d,x1,x2⟩
theorem TR {p q r:α0->α1->α2->α3->Prop} (h:∃a b c d,p a b c d∧q a b c d∧r a b c d) (k:∀a b c d,p a b c d->q a b c d->r a b c d->R):R:=by
 obtain⟨a,b,c,d,g,f,e⟩:=h;exact k a b c d g f e
theorem I43 {p q r:α0->α1->α2->α3->Prop} (a:α0) (b:α1) (c:α2) (d:α3) (x1:p a b c d) (x2:q a b c d) (x3:r a b c d):∃a b c d,p a b c d∧q a b c d∧r a b c d:=⟨a,b,c,d,x1,x2,x3⟩
theorem E44 {p q r s:α0->α1->α2->α3->Prop} (h:∃a b c d,p a b c d∧q a b c d∧r a b c d∧s a b c d) (k:∀a b c d,p a b c d->q a b c d->r a b c d->s a b c d->R):R:=by
 obtain⟨a,b,c,d,i,f,e,g⟩:=h;exact k a b c d i f e g
theorem H6 {p q r s:α0->α1->α2->α3->Prop} (a:α0) (b:α1) (c:α2) (d:α3) (x1:p a b c d) (x2:q a b c d) (x3:r a b c d) (x4:s a b c d):∃a b c d,p a b c d∧q a b c d∧r a b c d∧s a b c d:=⟨a,b,c,d,x1,x2,x3,x4⟩
theorem sD {p q r s t:α0->α1->α2->α3->Prop} (h:∃a b c d,p a b c d∧q a b c d∧r a b c d∧s a b c d∧t a b c d) (k:∀a b c d,p a b c d->q a b c d->r a b c d->s a b c d->t a b c d->R):R:=by
 obtain⟨a,b,c,d,j,g,f,i,e⟩:=h;exact k a b c d j g f i e
theorem ww {p q r s t:α0->α1->α2->α3->Prop} (a:α0) (b:α1) (c:α2) (d:α3) (x1:p a b c d) (x2:q a b c d) (x3:r a b c d) (x4:s a b c d) (x5:t a b c d):∃a b c d,p a b c d∧q a b c d∧r a b c d∧s a b c d∧t a b c d:=⟨a,b,c,d,x1,x2,x3,x4,x5⟩
variable {α4:Sort u4}
theorem gz {p:α0->α1->α2->α3->α4->Prop} (h:∃a b c d e,p a b c d e) (k:∀a b c d e,p a b c d e->R):R:=by
 obtain⟨a,b,c,d,e,f⟩:=h;exact k a b c d e f
theorem iG {p:α0->α1->α2->α3->α4->Prop} (a:α0) (b:α1) (c:α2) (d:α3) (e:α4) (x1:p a b c d e):∃a b c d e,p a b c d e:=⟨a,b,c,d,e,x1⟩
theorem E52 {p q:α0->α1->α2->α3->α4->Prop} (h:∃a b c d e,p a b c d e∧q a b c d e) (k:∀a b c d e,p a b c d e->q a b c d e->R):R:=by
 obtain⟨a,b,c,d,e,g,f⟩:=h;exact k a b c d e g f
theorem Wc {p q r:α0->α1->α2->α3->α4->Prop} (h:∃a b c d e,p a b c d e∧q a b c d e∧r a b c d e) (k:∀a b c d e,p a b c d e->q a b c d e->r a b c d e->R):R:=by
 obtain⟨a,b,c,d,e,i,g,f⟩:=h;exact k a b c d e i g f
theorem Bb {p q r:α0->α1->α2->α3->α4->Prop} (a:α0) (b:α1) (c:α2) (d:α3) (e:α4) (x1:p a b c d e) (x2:q a b c d e) (x3:r a b c d e):∃a b c d e,p a b c d e∧q a b c d e∧r a b c d e:=⟨a,b,c,d,e,x1,x2,x3⟩
theorem MV {p q r s t u:α0->α1->α2->α3->α4->Prop} (h:∃a b c d e,p a b c d e∧q a b c d e∧r a b c d e∧s a b c d e∧t a b c d e∧u a b c d e) (k:∀a b c d e,p a b c d e->q a b c d e->r a b c d e->s a b c d e->t a b c d e->u a b c d e->R):R:=by
 obtain⟨a,b,c,d,e,m,i,g,l,f,j⟩:=h;exact k a b c d e m i g l f j
theorem V5 {p q r s t u:α0->α1->α2->α3->α4->Prop} (a:α0) (b:α1) (c:α2) (d:α3) (e:α4) (x1:p a b c d e) (x2:q a b c d e) (x3:r a b c d e) (x4:s a b c d e) (x5:t a b c d e) (x6:u a b c d e):∃a b c d e,p a b c d e∧q a b c d e∧r a b c d e∧s a b c d e∧t a b c d e∧u a b c d e:=⟨a,b,c,d,e,x1,x2,x3,x4,x5,x6⟩
variable {α5:Sort u5}
theorem E61 {p:α0->α1->α2->α3->α4->α5->Prop} (h:∃a b c d e f,p a b c d e f) (k:∀a b c d e f,p a b c d e f->R):R:=by
 obtain⟨a,b,c,d,e,f,g⟩:=h;exact k a b c d e f g
theorem Jg {p:α0->α1->α2->α3->α4->α5->Prop} (a:α0) (b:α1) (c:α2) (d:α3) (e:α4) (f:α5) (x1:p a b c d e f):∃a b c d e f,p a b c d e f:=⟨a,b,c,d,e,f,x1⟩
theorem E65 {p q r s t:α0->α1->α2->α3->α4->α5->Prop} (h:∃a b c d e f,p a b c d e f∧q a b c d e f∧r a b c d e f∧s a b c d e f∧t a b c d e f) (k:∀a b c d e f,p a b c d e f->q a b c d e f->r a b c d e f->s a b c d e f->t a b c d e f->R):R:=by
 obtain⟨a,b,c,d,e,f,m,j,i,l,g⟩:=h;exact k a b c d e f m j i l g
theorem I65 {p q r s t:α0->α1->α2->α3->α4->α5->Prop} (a:α0) (b:α1) (c:α2) (d:α3) (e:α4) (f:α5) (x1:p a b c d e f) (x2:q a b c d e f) (x3:r a b c d e f) (x4:s a b c d e f) (x5:t a b c d e f):∃a b c d e f,p a b c d e f∧q a b c d e f∧r a b c d e f∧s a b c d e f∧t a b c d e f:=⟨a,b,c,d,e,f,x1,x2,x3,x4,x5⟩
variable {e f g k l m n:Nat} {x1 y1 z1:Int}
theorem Y30:(a+(b+(c+(d+e))))≤(d+(a+(b+(c+e)))):=by lia
theorem Y48:(a+(b+(c+(d+(e+f)))))≤(d+(e+(a+(b+(c+f))))):=by lia
theorem Y72:((a+(b+0))+(c+d))≤(c+(0+(0+(a+(b+d))))):=by lia
theorem LR (h0:((0:Int)≤x)∧(((0:Int)≤y)∧((x+y)≤((a:Nat):Int)))):((Int.toNat (x+y))-(Int.toNat x))=(Int.toNat y):=by lia
theorem TJ (h0:((0:Int)≤x)∧(x≤y)) (h1:(0:Int)≤z):¬((x<(0:Int))∨((y<x)∨(z<(0:Int)))):=by lia
theorem xk (h0:((0:Int)≤x)∧(x<z)) (h1:((0:Int)≤x)∧(x<(y+(1:Int)))) (h2:x1=x):((0:Int)≤x)∧(x≤y):=by lia
theorem LA (h0:¬(((0:Int)≤x1)∧(x1<(y+(1:Int))))) (h1:x=x1):(x<(0:Int))∨((y<x)∨(z<(0:Int))):=by lia
theorem mV (h0:((0:Int)≤x)∧(x≤(300:Int))):(((0:Int)-x)-(2:Int))≤(x+(2:Int)):=by lia
theorem nr (h0:((0:Int)≤x)∧(x≤(300:Int))):((x+(2:Int))-(((0:Int)-x)-(2:Int)))<(900:Int):=by lia
theorem S7 (h0:a≤63) (h1:(0:Int)<((a:Nat):Int)):(a-1)<a:=by lia
universe u8
variable {α:Type u8} {P:Prop} {a b:α} {l m:List α}
theorem zG (h:some a=none):P:=by cases h
theorem cX (h:none=some a):P:=by cases h
theorem kP (h:true=false):P:=by cases h
theorem cp (h:false=true):P:=by cases h
theorem nCN (h:a::l=[]):P:=by cases h
theorem nNC (h:[]=a::l):P:=by cases h
theorem jS (h:some a=some b):a=b:=by cases h;rfl
end
open PySem PySem.W PySem.Calls PyProof.Rows
noncomputable abbrev PP:Program:=PySem.Challenge.rw_sm0031_01.row.toRowW.prog
noncomputable def VZ:List Stmt->Nat->Stmt
 |[],_=>.Pass default
 |x::_,0=>x
 |_::r,n+1=>VZ r n
noncomputable def sT (i:Nat):Stmt:=VZ (behindTheImports PP) i
noncomputable def xQ:Stmt->List Stmt
 |.ClassDef _ _ _ body _ _ _ _ _ _ _=>body
 |_=>[]
noncomputable def sC (i j:Nat):Stmt:=VZ (xQ (sT i)) j
noncomputable def Xah (cls:Value) (qual:Str) (gl:Addr) (cl:List (Str×Addr)) (dv kv doc pm:Value) (an:Option Addr) (cd ct:Value) (bi:Addr):Stmt->Obj
 |.FunctionDef name args body _ _ _ scope _ _ _=>{cls:=cls,data:=.func {name:=name,qualname:=qual,params:=args,body:=.stmts body,scope:=scope,globals:=gl,closure:=cl,defaults:=dv,kwdefaults:=kv,doc:=doc,pyModule:=pm,annotations:=an,code:=cd,closureTuple:=ct,builtins:=bi}}
 |_=>{cls:=.none}
noncomputable def fu (cls:Value) (s:Stmt) (qual:Str) (gl:Addr) (cl:List (Str×Addr)) (dv kv doc pm:Value) (an:Option Addr) (cd ct:Value) (bi:Addr):Obj:=Xah cls qual gl cl dv kv doc pm an cd ct bi s
noncomputable def vn:Value:=.none
noncomputable def vb (b:Bool):Value:=.bool b
noncomputable def vi (i:Int) (t:Nat):Value:=.int i t
noncomputable def vs (x:Str) (t:Nat):Value:=.str x t
noncomputable def vt (x:String):Value:=.type x
noncomputable def vu (x:String):Value:=.builtin x
noncomputable def vr (a:Nat):Value:=.ref a
noncomputable def en (x:Str) (t:Nat) (v:Value):Str×Nat×Value:=(x,t,v)
noncomputable def tu (xs:List Value):Obj:={cls:=.type "tuple",data:=.seq xs.toArray}
noncomputable def fl (c:Value) (xs:List Value):Obj:={cls:=c,data:=.fields xs.toArray}
noncomputable def LX (P:Params):List (Str×Nat×Value)->List DictEntry
 |[]=>[]
 |e::r=>⟨PyData.keyHash P e.1,.str e.1 e.2.1,e.2.2⟩::LX P r
noncomputable def di (P:Params) (es:List (Str×Nat×Value)) (n:Nat):Obj:={cls:=.type "dict",data:=.dict (LX P es).toArray n}
noncomputable def jQ:List Obj->List Obj×List Obj
 |[]=>([],[])
 |x::r=>(x::(jQ r).2,(jQ r).1)
noncomputable def vS:Nat->List Obj->BT
 |0,_=>.nil
 |_+1,[]=>.nil
 |k+1,x::r=>.node x (vS k (jQ r).1) (vS k (jQ r).2)
noncomputable def eP:Env:={scope:=PP.main.scope,locals:=mainNs,globals:=mainNs,cells:=[],code:=.ref 13,frame:=some 14}
noncomputable abbrev cE:Code:=Code.body (behindTheImports PP) eP
noncomputable abbrev B0:List Frame:=[topFrame ⟨0,0,0,0⟩]
noncomputable def nv (a n:Nat):List Stmt:=((behindTheImports PP).drop a).take n
noncomputable def f0 (s:Stmt) (q:Str) (g b:Nat):Obj:=fu vn s q g [] vn vn vn vn none vn vn b
noncomputable def f1 (s:Stmt) (q:Str) (g:Nat) (d:Value) (m:Str) (t c b:Nat):Obj:=fu (vt "function") s q g [] d vn vn (vs m t) none (vr c) vn b
noncomputable def cd (n q:Str) (t:Nat) (l a k:Int) (b:Nat) (g:Bool) (s:Nat) (u v y z:Value) (m:Nat):Obj:=fl (vt "code") [vs n t,vs q (t+1),vs "/claim/cut.py" (t+2),vi l 0,vi a 0,vi 0 0,vi 0 0,vi k 0,vr b,vb g,vi 181 0,vr s,u,v,y,z,vi m 0,vi l 0,vs "/claim/cut.py" (m+1)]
noncomputable abbrev o0 (P:Params):Obj:=boot_o_0 P
noncomputable abbrev o1 (P:Params):Obj:=boot_o_1 P
noncomputable abbrev o2 (P:Params):Obj:=boot_o_2 P
noncomputable def o3 (P:Params):Obj:=di P [en "__name__" 165 (vs "law_sm0031_01" 1543),en "__doc__" 166 vn,en "__package__" 167 vn,en "__loader__" 168 (vu "__main__.__loader__#opaque"),en "__spec__" 169 vn,en "__annotations__" 170 (vr 6),en "__builtins__" 171 (vr 4),en "__file__" 173 (vs "/claim/cut.py" 172),en "__cached__" 174 vn,en "_wall" 193 (vr 21),en "SIMPLE_ESCAPES" 229 (vr 22),en "OPERATORS" 257 (vr 23),en "GLOBAL_SIGNS" 259 (vs "!@~&`'+$?:\"/\\;,.<>_*" 258),en "DEEPEST_KEY" 261 (vi 12 260),en "MOST_SEEN" 263 (vi 20000 262),en "Thing" 298 (vr 40),en "Text" 326 (vr 62),en "ListThing" 353 (vr 82),en "TableThing" 405 (vr 120),en "RangeThing" 436 (vr 140),en "ProcThing" 479 (vr 161),en "ErrorThing" 507 (vr 181),en "FiberThing" 537 (vr 201),en "ModuleThing" 584 (vr 228),en "is_int" 591 (vr 237),en "sort_of" 598 (vr 244),en "same" 607 (vr 251),en "takes_in" 615 (vr 258),en "code_of" 621 (vr 264),en "is_word" 629 (vr 271),en "is_figures" 635 (vr 276),en "is_label" 642 (vr 283),en "is_plain_symbol" 649 (vr 290),en "full_name" 659 (vr 297),en "show_letter" 669 (vr 304),en "show_text" 675 (vr 309),en "show_symbol" 682 (vr 316),en "show_pair" 692 (vr 323),en "show_range" 703 (vr 330),en "show_held" 709 (vr 335),en "show_thing" 720 (vr 342),en "message_text" 732 (vr 350),en "show" 743 (vr 358),en "kind_word" 753 (vr 365),en "need_int" 761 (vr 372),en "need_open" 769 (vr 379),en "limits_of" 780 (vr 386),en "span_in" 792 (vr 393),en "place_of" 802 (vr 400),en "GemError" 832 (vr 418),en "Raised" 857 (vr 438),en "list_item" 869 (vr 447),en "list_at" 879 (vr 454),en "list_slice_out" 890 (vr 461),en "list_delete_at" 900 (vr 468),en "whole" 911 (vr 475),en "need_free" 921 (vr 482),en "span_of" 931 (vr 489),en "span_of_range" 944 (vr 496),en "span_for" 955 (vr 503),en "part" 965 (vr 510),en "take_part" 976 (vr 517),en "raise_version" 985 (vr 524),en "own_module" 995 (vr 531),en "class_above" 1002 (vr 538),en "make_own" 1012 (vr 545),en "MODULES" 1018 (vr 546),en "BUILTINS" 1135 (vr 547),en "MIXED" 1157 (vr 550),en "UNMADE" 1163 (vr 558),en "World" 1542 (vr 834),en "_law_kinds" 1550 (vr 845),en "_law_signs" 1556 (vr 852),en "_law_box" 1567 (vr 859),en "_law_take" 1577 (vr 866),en "_law_holders" 1583 (vr 871),en "_law_mark" 1593 (vr 878),en "_law_strange" 1601 (vr 885),en "_law_odd" 1616 (vr 892),en "_law_span" 1631 (vr 899),en "_law_past" 1642 (vr 906),en "_law_due" 1648 (vr 911),en "_law_heard" 1656 (vr 918),en "_law_limits_right" 1678 (vr 925),en "_law_told_right" 1684 (vr 930),en "_law_cut_right" 1690 (vr 935),en "law" 1696 (vr 940)] 87
noncomputable abbrev o4 (P:Params):Obj:=boot_o_4 P
noncomputable abbrev o5 (P:Params):Obj:=boot_o_5 P
noncomputable abbrev o6 (P:Params):Obj:=boot_o_6 P
noncomputable abbrev o7 (P:Params):Obj:=boot_o_7 P
noncomputable abbrev o8 (P:Params):Obj:=boot_o_8 P
noncomputable abbrev o9 (P:Params):Obj:=boot_o_9 P
noncomputable abbrev o10 (P:Params):Obj:=boot_o_10 P
noncomputable section
def o11:Obj:=tu []
def o12:Obj:=fl vn [vi 1 0,vi 0 0,vr 20,vi 10 0,vi 0 0,vr 29,vi 19 0,vi 0 0,vr 50,vi 24 0,vi 0 0,vr 70,vi 29 0,vi 0 0,vr 90,vi 49 0,vi 0 0,vr 128,vi 56 0,vi 0 0,vr 148,vi 69 0,vi 0 0,vr 169,vi 75 0,vi 0 0,vr 189,vi 83 0,vi 0 0,vr 209,vi 101 0,vi 0 0,vr 236,vi 103 0,vi 0 0,vr 243,vi 111 0,vi 0 0,vr 250,vi 116 0,vi 0 0,vr 257,vi 121 0,vi 0 0,vr 263,vi 136 0,vi 0 0,vr 270,vi 143 0,vi 0 0,vr 275,vi 145 0,vi 0 0,vr 282,vi 147 0,vi 0 0,vr 289,vi 157 0,vi 0 0,vr 296,vi 172 0,vi 0 0,vr 303,vi 182 0,vi 0 0,vr 308,vi 185 0,vi 0 0,vr 315,vi 187 0,vi 0 0,vr 322,vi 191 0,vi 0 0,vr 329,vi 195 0,vi 0 0,vr 334,vi 205 0,vi 0 0,vr 341,vi 219 0,vi 0 0,vr 349,vi 230 0,vi 0 0,vr 357,vi 242 0,vi 0 0,vr 364,vi 248 0,vi 0 0,vr 371,vi 254 0,vi 0 0,vr 378,vi 257 0,vi 0 0,vr 385,vi 267 0,vi 0 0,vr 392,vi 278 0,vi 0 0,vr 399,vi 282 0,vi 0 0,vr 406,vi 287 0,vi 0 0,vr 427,vi 293 0,vi 0 0,vr 446,vi 296 0,vi 0 0,vr 453,vi 301 0,vi 0 0,vr 460,vi 311 0,vi 0 0,vr 467,vi 316 0,vi 0 0,vr 474,vi 324 0,vi 0 0,vr 481,vi 327 0,vi 0 0,vr 488,vi 332 0,vi 0 0,vr 495,vi 340 0,vi 0 0,vr 502,vi 350 0,vi 0 0,vr 509,vi 353 0,vi 0 0,vr 516,vi 362 0,vi 0 0,vr 523,vi 364 0,vi 0 0,vr 530,vi 376 0,vi 0 0,vr 537,vi 378 0,vi 0 0,vr 544,vi 390 0,vi 0 0,vr 564,vi 606 0,vi 0 0,vr 844,vi 608 0,vi 0 0,vr 851,vi 610 0,vi 0 0,vr 858,vi 618 0,vi 0 0,vr 865,vi 627 0,vi 0 0,vr 870,vi 639 0,vi 0 0,vr 877,vi 644 0,vi 0 0,vr 884,vi 650 0,vi 0 0,vr 891,vi 670 0,vi 0 0,vr 898,vi 689 0,vi 0 0,vr 905,vi 694 0,vi 0 0,vr 910,vi 708 0,vi 0 0,vr 917,vi 713 0,vi 0 0,vr 924,vi 731 0,vi 0 0,vr 929,vi 745 0,vi 0 0,vr 934,vi 759 0,vi 0 0,vr 939]
def o13:Obj:=cd "<module>" "<module>" 182 1 0 0 11 false 12 vn vn vn vn 185
def o14:Obj:={cls:=(vt "frame"),slots:=(List.toArray [some (vr 13),some (vr 3),some (vr 3),none,some (vs "__main__" 164),none,some (vr 0)])}
def o15:Obj:=tu []
def o16:Obj:=fl vn []
def o17:Obj:=tu [vs "k" 190]
def o18:Obj:=tu []
def o19:Obj:=f0 (sT 0) "_wall" 0 0
def o20:Obj:=cd "_wall" "_wall" 187 1 1 3 15 true 16 vn (vr 17) (vr 18) (vr 19) 191
def o21:Obj:=f1 (sT 0) "_wall" 3 vn "__main__" 164 20 0
def o22 (P:Params):Obj:=di P [en "\\" 196 (vs "\\\\" 197),en "\"" 198 (vs "\\\"" 199),en "\n" 200 (vs "\\n" 201),en "\t" 202 (vs "\\t" 203),en "\x0d" 204 (vs "\\r" 205),en "\x1b" 206 (vs "\\e" 207),en "\x07" 208 (vs "\\a" 209),en "\x08" 210 (vs "\\b" 211),en "\x0b" 212 (vs "\\v" 213),en "\x0c" 214 (vs "\\f" 215),en "\x7f" 216 (vs "\\x7F" 217)] 11
def o23:Obj:=tu [vs "+" 230,vs "-" 231,vs "*" 232,vs "/" 233,vs "%" 234,vs "**" 235,vs "==" 236,vs "!=" 237,vs "<" 238,vs ">" 239,vs "<=" 240,vs ">=" 241,vs "<=>" 242,vs "===" 243,vs "[]" 244,vs "[]=" 245,vs "<<" 246,vs ">>" 247,vs "!" 248,vs "~" 249,vs "+@" 250,vs "-@" 251,vs "&" 252,vs "|" 253,vs "^" 254,vs "=~" 255,vs "!~" 256]
def o24:Obj:=tu []
def o25:Obj:=fl (vt "builtin_function_or_method") [vu "type.__prepare__",vt "type"]
def o26 (P:Params):Obj:=di P [en "__module__" 271 (vs "gemrows.things" 194),en "__qualname__" 273 (vs "Thing" 272),en "__firstlineno__" 275 (vi 10 274),en "__init__" 284 (vr 37),en "__static_attributes__" 291 (vr 38)] 5
def o27:Obj:=tu []
def o28:Obj:=fl vn [vi 12 0,vi 4 0,vr 36]
def o29:Obj:=cd "Thing" "Thing" 266 10 0 0 27 false 28 vn vn vn vn 269
def o30:Obj:={cls:=(vt "frame"),slots:=(List.toArray [some (vr 29),some (vr 3),some (vr 26),none,some (vs "gemrows.things" 194),none,some (vr 0)])}
def o31:Obj:=tu []
def o32:Obj:=fl vn []
def o33:Obj:=tu [vs "self" 279,vs "number" 280,vs "owner" 281]
def o34:Obj:=tu []
def o35:Obj:=f0 (sC 7 0) "Thing.__init__" 0 0
def o36:Obj:=cd "__init__" "Thing.__init__" 276 12 3 3 31 true 32 vn (vr 33) (vr 34) (vr 35) 282
def o37:Obj:=f1 (sC 7 0) "Thing.__init__" 3 vn "gemrows.things" 194 36 0
def o38:Obj:=tu [vs "fields" 285,vs "frozen" 286,vs "ident" 287,vs "number" 288,vs "own" 289,vs "owner" 290]
def o39 (P:Params):Obj:=di P [en "__module__" 271 (vs "gemrows.things" 194),en "__firstlineno__" 275 (vi 10 274),en "__init__" 284 (vr 37),en "__static_attributes__" 291 (vr 38),en "__dict__" 293 (vr 41),en "__weakref__" 295 (vr 42),en "__doc__" 296 vn] 4
def Qt:Obj:={cls:=(vt "type"),data:=.cls {name:="Thing",bases:=[vt "object"],mro:=[vr 40,vt "object"],ns:=39,qualname:="Thing",hasDict:=true,slotNames:=[],subclasses:=[vr 62,vr 82,vr 120,vr 140,vr 161,vr 181,vr 201,vr 228],abstract:=false,collection:=none,hasDel:=false},slots:=(List.toArray [none,none,some (vs "Thing" 264),some (vs "Thing" 272),some (vu "object.__new__"),some (vb true)])}
def o41:Obj:=fl (vt "getset_descriptor") [vs "__dict__" 292,vr 40,vu "function.__dict__",vu "function.__dict__#set"]
def o42:Obj:=fl (vt "getset_descriptor") [vs "__weakref__" 294,vr 40,vu "ExceptionGroup.__weakref__",vn]
def o43:Obj:=fl (vt "super") [vr 40,vr 40,vr 40]
def o44:Obj:=fl (vt "builtin_function_or_method") [vu "object.__init_subclass__",vr 40]
def o45:Obj:=tu [vr 40]
def o46:Obj:=fl (vt "builtin_function_or_method") [vu "type.__prepare__",vt "type"]
def o47 (P:Params):Obj:=di P [en "__module__" 306 (vs "gemrows.things" 194),en "__qualname__" 308 (vs "Text" 307),en "__firstlineno__" 310 (vi 19 309),en "__init__" 321 (vr 59),en "__static_attributes__" 323 (vr 60)] 5
def o48:Obj:=tu []
def o49:Obj:=fl vn [vi 21 0,vi 4 0,vr 58]
def o50:Obj:=cd "Text" "Text" 301 19 0 0 48 false 49 vn vn vn vn 304
def o51:Obj:={cls:=(vt "frame"),slots:=(List.toArray [some (vr 50),some (vr 3),some (vr 47),none,some (vs "gemrows.things" 194),none,some (vr 0)])}
def o52:Obj:=tu [vs "" 311]
def o53:Obj:=tu []
def o54:Obj:=fl vn []
def o55:Obj:=tu [vs "self" 315,vs "number" 316,vs "owner" 317,vs "text" 318]
def o56:Obj:=tu []
def o57:Obj:=f0 (sC 8 0) "Text.__init__" 0 0
def o58:Obj:=cd "__init__" "Text.__init__" 312 21 4 3 53 true 54 vn (vr 55) (vr 56) (vr 57) 319
def o59:Obj:=f1 (sC 8 0) "Text.__init__" 3 (vr 52) "gemrows.things" 194 58 0
def o60:Obj:=tu [vs "text" 322]
def o61 (P:Params):Obj:=di P [en "__module__" 306 (vs "gemrows.things" 194),en "__firstlineno__" 310 (vi 19 309),en "__init__" 321 (vr 59),en "__static_attributes__" 323 (vr 60),en "__doc__" 324 vn] 2
def o62:Obj:={cls:=(vt "type"),data:=.cls {name:="Text",bases:=[vr 40],mro:=[vr 62,vr 40,vt "object"],ns:=61,qualname:="Text",hasDict:=true,slotNames:=[],subclasses:=[],abstract:=false,collection:=none,hasDel:=false},slots:=(List.toArray [some (vr 45),none,some (vs "Text" 299),some (vs "Text" 307),some (vu "object.__new__"),some (vb true)])}
def o63:Obj:=fl (vt "super") [vr 62,vr 62,vr 62]
def o64:Obj:=fl (vt "builtin_function_or_method") [vu "object.__init_subclass__",vr 62]
def o65:Obj:=tu [vr 40]
def o66:Obj:=fl (vt "builtin_function_or_method") [vu "type.__prepare__",vt "type"]
def o67 (P:Params):Obj:=di P [en "__module__" 334 (vs "gemrows.things" 194),en "__qualname__" 336 (vs "ListThing" 335),en "__firstlineno__" 338 (vi 24 337),en "__init__" 348 (vr 79),en "__static_attributes__" 350 (vr 80)] 5
def o68:Obj:=tu []
def o69:Obj:=fl vn [vi 26 0,vi 4 0,vr 78]
def o70:Obj:=cd "ListThing" "ListThing" 329 24 0 0 68 false 69 vn vn vn vn 332
def o71:Obj:={cls:=(vt "frame"),slots:=(List.toArray [some (vr 70),some (vr 3),some (vr 67),none,some (vs "gemrows.things" 194),none,some (vr 0)])}
def o72:Obj:=tu [vn]
def o73:Obj:=tu []
def o74:Obj:=fl vn []
def o75:Obj:=tu [vs "self" 342,vs "number" 343,vs "owner" 344,vs "items" 345]
def o76:Obj:=tu []
def o77:Obj:=f0 (sC 9 0) "ListThing.__init__" 0 0
def o78:Obj:=cd "__init__" "ListThing.__init__" 339 26 4 3 73 true 74 vn (vr 75) (vr 76) (vr 77) 346
def o79:Obj:=f1 (sC 9 0) "ListThing.__init__" 3 (vr 72) "gemrows.things" 194 78 0
def o80:Obj:=tu [vs "items" 349]
def o81 (P:Params):Obj:=di P [en "__module__" 334 (vs "gemrows.things" 194),en "__firstlineno__" 338 (vi 24 337),en "__init__" 348 (vr 79),en "__static_attributes__" 350 (vr 80),en "__doc__" 351 vn] 2
def o82:Obj:={cls:=(vt "type"),data:=.cls {name:="ListThing",bases:=[vr 40],mro:=[vr 82,vr 40,vt "object"],ns:=81,qualname:="ListThing",hasDict:=true,slotNames:=[],subclasses:=[],abstract:=false,collection:=none,hasDel:=false},slots:=(List.toArray [some (vr 65),none,some (vs "ListThing" 327),some (vs "ListThing" 335),some (vu "object.__new__"),some (vb true)])}
def o83:Obj:=fl (vt "super") [vr 82,vr 82,vr 82]
def o84:Obj:=fl (vt "builtin_function_or_method") [vu "object.__init_subclass__",vr 82]
def o85:Obj:=tu [vr 40]
def o86:Obj:=fl (vt "builtin_function_or_method") [vu "type.__prepare__",vt "type"]
def o87 (P:Params):Obj:=di P [en "__module__" 361 (vs "gemrows.things" 194),en "__qualname__" 363 (vs "TableThing" 362),en "__firstlineno__" 365 (vi 29 364),en "__init__" 374 (vr 98),en "put" 385 (vr 105),en "row" 393 (vr 112),en "pairs" 399 (vr 117),en "__static_attributes__" 402 (vr 118)] 8
def o88:Obj:=tu []
def o89:Obj:=fl vn [vi 31 0,vi 4 0,vr 97,vi 36 0,vi 4 0,vr 104,vi 44 0,vi 4 0,vr 111,vi 47 0,vi 4 0,vr 116]
def o90:Obj:=cd "TableThing" "TableThing" 356 29 0 0 88 false 89 vn vn vn vn 359
def o91:Obj:={cls:=(vt "frame"),slots:=(List.toArray [some (vr 90),some (vr 3),some (vr 87),none,some (vs "gemrows.things" 194),none,some (vr 0)])}
def o92:Obj:=tu []
def o93:Obj:=fl vn []
def o94:Obj:=tu [vs "self" 369,vs "number" 370,vs "owner" 371]
def o95:Obj:=tu []
def o96:Obj:=f0 (sC 10 0) "TableThing.__init__" 0 0
def o97:Obj:=cd "__init__" "TableThing.__init__" 366 31 3 3 92 true 93 vn (vr 94) (vr 95) (vr 96) 372
def o98:Obj:=f1 (sC 10 0) "TableThing.__init__" 3 vn "gemrows.things" 194 97 0
def o99:Obj:=tu []
def Xen:Obj:=fl vn []
def KU:Obj:=tu [vs "self" 378,vs "key" 379,vs "value" 380,vs "code" 381,vs "row" 382]
def J8:Obj:=tu []
def Xb9:Obj:=f0 (sC 10 1) "TableThing.put" 0 0
def IT:Obj:=cd "put" "TableThing.put" 375 36 3 3 99 true 100 vn (vr 101) (vr 102) (vr 103) 383
def Cq:Obj:=f1 (sC 10 1) "TableThing.put" 3 vn "gemrows.things" 194 104 0
def Qu:Obj:=tu []
def Xcj:Obj:=fl vn []
def NL:Obj:=tu [vs "self" 389,vs "key" 390]
def So:Obj:=tu []
def Xae:Obj:=f0 (sC 10 2) "TableThing.row" 0 0
def Re:Obj:=cd "row" "TableThing.row" 386 44 2 3 106 true 107 vn (vr 108) (vr 109) (vr 110) 391
def MM:Obj:=f1 (sC 10 2) "TableThing.row" 3 vn "gemrows.things" 194 111 0
def KQ:Obj:=tu []
def XaT:Obj:=fl vn []
def Xd0:Obj:=f0 (sC 10 3) "TableThing.pairs" 0 0
def Kz:Obj:=cd "pairs" "TableThing.pairs" 394 47 1 3 113 true 114 vn vn vn (vr 115) 397
def Uu:Obj:=f1 (sC 10 3) "TableThing.pairs" 3 vn "gemrows.things" 194 116 0
def TM:Obj:=tu [vs "rows" 400,vs "spare" 401]
def Rb (P:Params):Obj:=di P [en "__module__" 361 (vs "gemrows.things" 194),en "__firstlineno__" 365 (vi 29 364),en "__init__" 374 (vr 98),en "put" 385 (vr 105),en "row" 393 (vr 112),en "pairs" 399 (vr 117),en "__static_attributes__" 402 (vr 118),en "__doc__" 403 vn] 2
def Rj:Obj:={cls:=(vt "type"),data:=.cls {name:="TableThing",bases:=[vr 40],mro:=[vr 120,vr 40,vt "object"],ns:=119,qualname:="TableThing",hasDict:=true,slotNames:=[],subclasses:=[],abstract:=false,collection:=none,hasDel:=false},slots:=(List.toArray [some (vr 85),none,some (vs "TableThing" 354),some (vs "TableThing" 362),some (vu "object.__new__"),some (vb true)])}
def XaB:Obj:=fl (vt "super") [vr 120,vr 120,vr 120]
def XeM:Obj:=fl (vt "builtin_function_or_method") [vu "object.__init_subclass__",vr 120]
def IX:Obj:=tu [vr 40]
def Xac:Obj:=fl (vt "builtin_function_or_method") [vu "type.__prepare__",vt "type"]
def Wi (P:Params):Obj:=di P [en "__module__" 413 (vs "gemrows.things" 194),en "__qualname__" 415 (vs "RangeThing" 414),en "__firstlineno__" 417 (vi 49 416),en "__init__" 429 (vr 137),en "__static_attributes__" 433 (vr 138)] 5
def XcW:Obj:=tu []
def XaA:Obj:=fl vn [vi 51 0,vi 4 0,vr 136]
def XbX:Obj:=cd "RangeThing" "RangeThing" 408 49 0 0 126 false 127 vn vn vn vn 411
def XfB:Obj:={cls:=(vt "frame"),slots:=(List.toArray [some (vr 128),some (vr 3),some (vr 125),none,some (vs "gemrows.things" 194),none,some (vr 0)])}
def Sp:Obj:=tu [vn,vn,vb false]
def Se:Obj:=tu []
def Wq:Obj:=fl vn []
def KG:Obj:=tu [vs "self" 421,vs "number" 422,vs "owner" 423,vs "first" 424,vs "last" 425,vs "is_open" 426]
def K3:Obj:=tu []
def Xb5:Obj:=f0 (sC 11 0) "RangeThing.__init__" 0 0
def Uz:Obj:=cd "__init__" "RangeThing.__init__" 418 51 6 3 131 true 132 vn (vr 133) (vr 134) (vr 135) 427
def E8:Obj:=f1 (sC 11 0) "RangeThing.__init__" 3 (vr 130) "gemrows.things" 194 136 0
def QH:Obj:=tu [vs "first" 430,vs "last" 431,vs "open" 432]
def Oh (P:Params):Obj:=di P [en "__module__" 413 (vs "gemrows.things" 194),en "__firstlineno__" 417 (vi 49 416),en "__init__" 429 (vr 137),en "__static_attributes__" 433 (vr 138),en "__doc__" 434 vn] 2
def MS:Obj:={cls:=(vt "type"),data:=.cls {name:="RangeThing",bases:=[vr 40],mro:=[vr 140,vr 40,vt "object"],ns:=139,qualname:="RangeThing",hasDict:=true,slotNames:=[],subclasses:=[],abstract:=false,collection:=none,hasDel:=false},slots:=(List.toArray [some (vr 123),none,some (vs "RangeThing" 406),some (vs "RangeThing" 414),some (vu "object.__new__"),some (vb true)])}
def Xa1:Obj:=fl (vt "super") [vr 140,vr 140,vr 140]
def Wm:Obj:=fl (vt "builtin_function_or_method") [vu "object.__init_subclass__",vr 140]
def Ln:Obj:=tu [vr 40]
def Xat:Obj:=fl (vt "builtin_function_or_method") [vu "type.__prepare__",vt "type"]
def Xca (P:Params):Obj:=di P [en "__module__" 444 (vs "gemrows.things" 194),en "__qualname__" 446 (vs "ProcThing" 445),en "__firstlineno__" 448 (vi 56 447),en "__init__" 466 (vr 158),en "__static_attributes__" 476 (vr 159)] 5
def Xb6:Obj:=tu []
def Xcf:Obj:=fl vn [vi 58 0,vi 4 0,vr 157]
def XeZ:Obj:=cd "ProcThing" "ProcThing" 439 56 0 0 146 false 147 vn vn vn vn 442
def XcO:Obj:={cls:=(vt "frame"),slots:=(List.toArray [some (vr 148),some (vr 3),some (vr 145),none,some (vs "gemrows.things" 194),none,some (vr 0)])}
def Iw:Obj:=tu []
def Q1:Obj:=tu [vn,vn,vn,vn,vr 150,vn,vn,vb false,vn]
def RC:Obj:=tu []
def XdV:Obj:=fl vn []
def Pi:Obj:=tu [vs "self" 452,vs "number" 453,vs "owner" 454,vs "params" 455,vs "body" 456,vs "env" 457,vs "self_value" 458,vs "nesting" 459,vs "home" 460,vs "site" 461,vs "is_lambda" 462,vs "definer" 463]
def PL:Obj:=tu []
def XeT:Obj:=f0 (sC 12 0) "ProcThing.__init__" 0 0
def Jk:Obj:=cd "__init__" "ProcThing.__init__" 449 58 12 3 152 true 153 vn (vr 154) (vr 155) (vr 156) 464
def TI:Obj:=f1 (sC 12 0) "ProcThing.__init__" 3 (vr 151) "gemrows.things" 194 157 0
def TS:Obj:=tu [vs "body" 467,vs "definer" 468,vs "env" 469,vs "home" 470,vs "is_lambda" 471,vs "nesting" 472,vs "params" 473,vs "self_value" 474,vs "site" 475]
def KY (P:Params):Obj:=di P [en "__module__" 444 (vs "gemrows.things" 194),en "__firstlineno__" 448 (vi 56 447),en "__init__" 466 (vr 158),en "__static_attributes__" 476 (vr 159),en "__doc__" 477 vn] 2
def VV:Obj:={cls:=(vt "type"),data:=.cls {name:="ProcThing",bases:=[vr 40],mro:=[vr 161,vr 40,vt "object"],ns:=160,qualname:="ProcThing",hasDict:=true,slotNames:=[],subclasses:=[],abstract:=false,collection:=none,hasDel:=false},slots:=(List.toArray [some (vr 143),none,some (vs "ProcThing" 437),some (vs "ProcThing" 445),some (vu "object.__new__"),some (vb true)])}
def Xa9:Obj:=fl (vt "super") [vr 161,vr 161,vr 161]
def Wg:Obj:=fl (vt "builtin_function_or_method") [vu "object.__init_subclass__",vr 161]
def Jn:Obj:=tu [vr 40]
def WH:Obj:=fl (vt "builtin_function_or_method") [vu "type.__prepare__",vt "type"]
def Xbf (P:Params):Obj:=di P [en "__module__" 487 (vs "gemrows.things" 194),en "__qualname__" 489 (vs "ErrorThing" 488),en "__firstlineno__" 491 (vi 69 490),en "__init__" 501 (vr 178),en "__static_attributes__" 504 (vr 179)] 5
def Xc9:Obj:=tu []
def XcV:Obj:=fl vn [vi 71 0,vi 4 0,vr 177]
def XcK:Obj:=cd "ErrorThing" "ErrorThing" 482 69 0 0 167 false 168 vn vn vn vn 485
def Xfx:Obj:={cls:=(vt "frame"),slots:=(List.toArray [some (vr 169),some (vr 3),some (vr 166),none,some (vs "gemrows.things" 194),none,some (vr 0)])}
def KS:Obj:=tu [vn]
def Ju:Obj:=tu []
def Xdo:Obj:=fl vn []
def J0:Obj:=tu [vs "self" 495,vs "number" 496,vs "owner" 497,vs "message" 498]
def Pu:Obj:=tu []
def Xb7:Obj:=f0 (sC 13 0) "ErrorThing.__init__" 0 0
def TC:Obj:=cd "__init__" "ErrorThing.__init__" 492 71 4 3 172 true 173 vn (vr 174) (vr 175) (vr 176) 499
def Ch:Obj:=f1 (sC 13 0) "ErrorThing.__init__" 3 (vr 171) "gemrows.things" 194 177 0
def HS:Obj:=tu [vs "cause" 502,vs "message" 503]
def Jy (P:Params):Obj:=di P [en "__module__" 487 (vs "gemrows.things" 194),en "__firstlineno__" 491 (vi 69 490),en "__init__" 501 (vr 178),en "__static_attributes__" 504 (vr 179),en "__doc__" 505 vn] 2
def NY:Obj:={cls:=(vt "type"),data:=.cls {name:="ErrorThing",bases:=[vr 40],mro:=[vr 181,vr 40,vt "object"],ns:=180,qualname:="ErrorThing",hasDict:=true,slotNames:=[],subclasses:=[],abstract:=false,collection:=none,hasDel:=false},slots:=(List.toArray [some (vr 164),none,some (vs "ErrorThing" 480),some (vs "ErrorThing" 488),some (vu "object.__new__"),some (vb true)])}
def Xdu:Obj:=fl (vt "super") [vr 181,vr 181,vr 181]
def Xcv:Obj:=fl (vt "builtin_function_or_method") [vu "object.__init_subclass__",vr 181]
def IP:Obj:=tu [vr 40]
def Xa2:Obj:=fl (vt "builtin_function_or_method") [vu "type.__prepare__",vt "type"]
def Xb4 (P:Params):Obj:=di P [en "__module__" 515 (vs "gemrows.things" 194),en "__qualname__" 517 (vs "FiberThing" 516),en "__firstlineno__" 519 (vi 75 518),en "__init__" 529 (vr 198),en "__static_attributes__" 534 (vr 199)] 5
def XbU:Obj:=tu []
def WJ:Obj:=fl vn [vi 77 0,vi 4 0,vr 197]
def WK:Obj:=cd "FiberThing" "FiberThing" 510 75 0 0 187 false 188 vn vn vn vn 513
def Xdy:Obj:={cls:=(vt "frame"),slots:=(List.toArray [some (vr 189),some (vr 3),some (vr 186),none,some (vs "gemrows.things" 194),none,some (vr 0)])}
def Tm:Obj:=tu [vn]
def P7:Obj:=tu []
def Xby:Obj:=fl vn []
def Ji:Obj:=tu [vs "self" 523,vs "number" 524,vs "owner" 525,vs "proc" 526]
def Sb:Obj:=tu []
def XbL:Obj:=f0 (sC 14 0) "FiberThing.__init__" 0 0
def LT:Obj:=cd "__init__" "FiberThing.__init__" 520 77 4 3 192 true 193 vn (vr 194) (vr 195) (vr 196) 527
def Tc:Obj:=f1 (sC 14 0) "FiberThing.__init__" 3 (vr 191) "gemrows.things" 194 197 0
def Uk:Obj:=tu [vs "back" 530,vs "proc" 531,vs "rows" 532,vs "state" 533]
def HO (P:Params):Obj:=di P [en "__module__" 515 (vs "gemrows.things" 194),en "__firstlineno__" 519 (vi 75 518),en "__init__" 529 (vr 198),en "__static_attributes__" 534 (vr 199),en "__doc__" 535 vn] 2
def Qe:Obj:={cls:=(vt "type"),data:=.cls {name:="FiberThing",bases:=[vr 40],mro:=[vr 201,vr 40,vt "object"],ns:=200,qualname:="FiberThing",hasDict:=true,slotNames:=[],subclasses:=[],abstract:=false,collection:=none,hasDel:=false},slots:=(List.toArray [some (vr 184),none,some (vs "FiberThing" 508),some (vs "FiberThing" 516),some (vu "object.__new__"),some (vb true)])}
def XdC:Obj:=fl (vt "super") [vr 201,vr 201,vr 201]
def XfK:Obj:=fl (vt "builtin_function_or_method") [vu "object.__init_subclass__",vr 201]
def Rp:Obj:=tu [vr 40]
def Xbb:Obj:=fl (vt "builtin_function_or_method") [vu "type.__prepare__",vt "type"]
def XaK (P:Params):Obj:=di P [en "__module__" 545 (vs "gemrows.things" 194),en "__qualname__" 547 (vs "ModuleThing" 546),en "__firstlineno__" 549 (vi 83 548),en "__init__" 562 (vr 218),en "is_own" 569 (vr 225),en "__static_attributes__" 581 (vr 226)] 6
def XaM:Obj:=tu []
def Xd9:Obj:=fl vn [vi 85 0,vi 4 0,vr 217,vi 99 0,vi 4 0,vr 224]
def XbZ:Obj:=cd "ModuleThing" "ModuleThing" 540 83 0 0 207 false 208 vn vn vn vn 543
def Xdr:Obj:={cls:=(vt "frame"),slots:=(List.toArray [some (vr 209),some (vr 3),some (vr 206),none,some (vs "gemrows.things" 194),none,some (vr 0)])}
def Mi:Obj:=tu [vn,vb false,vn,vn]
def NU:Obj:=tu []
def Xer:Obj:=fl vn []
def Mu:Obj:=tu [vs "self" 553,vs "number" 554,vs "owner" 555,vs "name" 556,vs "is_class" 557,vs "parent" 558,vs "outer" 559]
def P9:Obj:=tu []
def XcH:Obj:=f0 (sC 15 0) "ModuleThing.__init__" 0 0
def Oy:Obj:=cd "__init__" "ModuleThing.__init__" 550 85 7 3 212 true 213 vn (vr 214) (vr 215) (vr 216) 560
def xu:Obj:=f1 (sC 15 0) "ModuleThing.__init__" 3 (vr 211) "gemrows.things" 194 217 0
def Nv:Obj:=tu []
def Xdk:Obj:=fl vn []
def Ly:Obj:=tu [vs "self" 566]
def M8:Obj:=tu []
def Xd5:Obj:=f0 (sC 15 1) "ModuleThing.is_own" 0 0
def JC:Obj:=cd "is_own" "ModuleThing.is_own" 563 99 1 3 219 true 220 vn (vr 221) (vr 222) (vr 223) 567
def Fh:Obj:=f1 (sC 15 1) "ModuleThing.is_own" 3 vn "gemrows.things" 194 224 0
def Lm:Obj:=tu [vs "ahead" 570,vs "attached" 571,vs "constants" 572,vs "is_class" 573,vs "kept" 574,vs "methods" 575,vs "mixed" 576,vs "name" 577,vs "native" 578,vs "outer" 579,vs "parent" 580]
def TY (P:Params):Obj:=di P [en "__module__" 545 (vs "gemrows.things" 194),en "__firstlineno__" 549 (vi 83 548),en "__init__" 562 (vr 218),en "is_own" 569 (vr 225),en "__static_attributes__" 581 (vr 226),en "__doc__" 582 vn] 2
def Nt:Obj:={cls:=(vt "type"),data:=.cls {name:="ModuleThing",bases:=[vr 40],mro:=[vr 228,vr 40,vt "object"],ns:=227,qualname:="ModuleThing",hasDict:=true,slotNames:=[],subclasses:=[],abstract:=false,collection:=none,hasDel:=false},slots:=(List.toArray [some (vr 204),none,some (vs "ModuleThing" 538),some (vs "ModuleThing" 546),some (vu "object.__new__"),some (vb true)])}
def XdW:Obj:=fl (vt "super") [vr 228,vr 228,vr 228]
def WQ:Obj:=fl (vt "builtin_function_or_method") [vu "object.__init_subclass__",vr 228]
def Um:Obj:=tu []
def Xef:Obj:=fl vn []
def Oi:Obj:=tu [vs "value" 588]
def KT:Obj:=tu []
def XcF:Obj:=f0 (sT 16) "is_int" 0 0
def U9:Obj:=cd "is_int" "is_int" 585 101 1 3 231 true 232 vn (vr 233) (vr 234) (vr 235) 589
def Aj:Obj:=f1 (sT 16) "is_int" 3 vn "gemrows.things" 194 236 0
def Km:Obj:=tu []
def Xc2:Obj:=fl vn []
def NE:Obj:=tu [vs "value" 595]
def J6:Obj:=tu []
def Xc4:Obj:=f0 (sT 17) "sort_of" 0 0
def Q4:Obj:=cd "sort_of" "sort_of" 592 103 1 3 238 true 239 vn (vr 240) (vr 241) (vr 242) 596
def AJ:Obj:=f1 (sT 17) "sort_of" 3 vn "gemrows.things" 194 243 0
def M4:Obj:=tu []
def Xc8:Obj:=fl vn []
def JH:Obj:=tu [vs "one" 602,vs "other" 603,vs "sort" 604]
def I2:Obj:=tu []
def Xcm:Obj:=f0 (sT 18) "same" 0 0
def J9:Obj:=cd "same" "same" 599 111 2 3 245 true 246 vn (vr 247) (vr 248) (vr 249) 605
def E0:Obj:=f1 (sT 18) "same" 3 vn "gemrows.things" 194 250 0
def Ub:Obj:=tu []
def Xfr:Obj:=fl vn []
def NF:Obj:=tu [vs "room" 611,vs "many" 612]
def N8:Obj:=tu []
def WD:Obj:=f0 (sT 19) "takes_in" 0 0
def NJ:Obj:=cd "takes_in" "takes_in" 608 116 2 3 252 true 253 vn (vr 254) (vr 255) (vr 256) 613
def Mb:Obj:=f1 (sT 19) "takes_in" 3 vn "gemrows.things" 194 257 0
def M7:Obj:=tu [vi 12 260,vn]
def NA:Obj:=tu []
def XeW:Obj:=fl vn []
def XdD:Obj:=f0 (sT 20) "code_of" 0 0
def R0:Obj:=cd "code_of" "code_of" 616 121 3 3 260 true 261 vn vn vn (vr 262) 619
def zU:Obj:=f1 (sT 20) "code_of" 3 (vr 259) "gemrows.things" 194 263 0
def QQ:Obj:=tu []
def Xdd:Obj:=fl vn []
def Kd:Obj:=tu [vs "text" 625,vs "letter" 626]
def Nb:Obj:=tu []
def Xal:Obj:=f0 (sT 21) "is_word" 0 0
def Ro:Obj:=cd "is_word" "is_word" 622 136 1 3 265 true 266 vn (vr 267) (vr 268) (vr 269) 627
def U8:Obj:=f1 (sT 21) "is_word" 3 vn "gemrows.things" 194 270 0
def To:Obj:=tu []
def XdQ:Obj:=fl vn []
def Xbc:Obj:=f0 (sT 22) "is_figures" 0 0
def UA:Obj:=cd "is_figures" "is_figures" 630 143 1 3 272 true 273 vn vn vn (vr 274) 633
def KJ:Obj:=f1 (sT 22) "is_figures" 3 vn "gemrows.things" 194 275 0
def Kq:Obj:=tu []
def XfD:Obj:=fl vn []
def SC:Obj:=tu [vs "name" 639]
def U2:Obj:=tu []
def Xfg:Obj:=f0 (sT 23) "is_label" 0 0
def HN:Obj:=cd "is_label" "is_label" 636 145 1 3 277 true 278 vn (vr 279) (vr 280) (vr 281) 640
def UV:Obj:=f1 (sT 23) "is_label" 3 vn "gemrows.things" 194 282 0
def Tz:Obj:=tu []
def Xbz:Obj:=fl vn []
def PA:Obj:=tu [vs "name" 646]
def LD:Obj:=tu []
def Xex:Obj:=f0 (sT 24) "is_plain_symbol" 0 0
def ND:Obj:=cd "is_plain_symbol" "is_plain_symbol" 643 147 1 3 284 true 285 vn (vr 286) (vr 287) (vr 288) 647
def HX:Obj:=f1 (sT 24) "is_plain_symbol" 3 vn "gemrows.things" 194 289 0
def Rs:Obj:=tu []
def XaY:Obj:=fl vn []
def KM:Obj:=tu [vs "module" 653,vs "ahead" 654,vs "behind" 655,vs "met" 656]
def JO:Obj:=tu []
def Xbl:Obj:=f0 (sT 25) "full_name" 0 0
def JM:Obj:=cd "full_name" "full_name" 650 157 1 3 291 true 292 vn (vr 293) (vr 294) (vr 295) 657
def AO:Obj:=f1 (sT 25) "full_name" 3 vn "gemrows.things" 194 296 0
def Qd:Obj:=tu []
def Ww:Obj:=fl vn []
def RB:Obj:=tu [vs "letter" 663,vs "follower" 664,vs "number" 665,vs "figures" 666]
def Qk:Obj:=tu []
def XaF:Obj:=f0 (sT 26) "show_letter" 0 0
def Ud:Obj:=cd "show_letter" "show_letter" 660 172 2 3 298 true 299 vn (vr 300) (vr 301) (vr 302) 667
def Ie:Obj:=f1 (sT 26) "show_letter" 3 vn "gemrows.things" 194 303 0
def Ma:Obj:=tu []
def XdU:Obj:=fl vn []
def Xcq:Obj:=f0 (sT 27) "show_text" 0 0
def O3:Obj:=cd "show_text" "show_text" 670 182 1 3 305 true 306 vn vn vn (vr 307) 673
def JS:Obj:=f1 (sT 27) "show_text" 3 vn "gemrows.things" 194 308 0
def Vq:Obj:=tu []
def XeE:Obj:=fl vn []
def UC:Obj:=tu [vs "name" 679]
def OR:Obj:=tu []
def Xfd:Obj:=f0 (sT 28) "show_symbol" 0 0
def Ku:Obj:=cd "show_symbol" "show_symbol" 676 185 1 3 310 true 311 vn (vr 312) (vr 313) (vr 314) 680
def NG:Obj:=f1 (sT 28) "show_symbol" 3 vn "gemrows.things" 194 315 0
def U6:Obj:=tu []
def Xe9:Obj:=fl vn []
def Sk:Obj:=tu [vs "key" 686,vs "value" 687,vs "deep" 688,vs "room" 689]
def RI:Obj:=tu []
def XcX:Obj:=f0 (sT 29) "show_pair" 0 0
def S3:Obj:=cd "show_pair" "show_pair" 683 187 4 3 317 true 318 vn (vr 319) (vr 320) (vr 321) 690
def PM:Obj:=f1 (sT 29) "show_pair" 3 vn "gemrows.things" 194 322 0
def S8:Obj:=tu []
def XbB:Obj:=fl vn []
def Ip:Obj:=tu [vs "value" 696,vs "deep" 697,vs "room" 698,vs "first" 699,vs "last" 700]
def IH:Obj:=tu []
def Xe6:Obj:=f0 (sT 30) "show_range" 0 0
def M1:Obj:=cd "show_range" "show_range" 693 191 3 3 324 true 325 vn (vr 326) (vr 327) (vr 328) 701
def LC:Obj:=f1 (sT 30) "show_range" 3 vn "gemrows.things" 194 329 0
def UW:Obj:=tu []
def Xfj:Obj:=fl vn []
def XaD:Obj:=f0 (sT 31) "show_held" 0 0
def J5:Obj:=cd "show_held" "show_held" 704 195 3 3 331 true 332 vn vn vn (vr 333) 707
def Pm:Obj:=f1 (sT 31) "show_held" 3 vn "gemrows.things" 194 334 0
def No:Obj:=tu []
def XdS:Obj:=fl vn []
def Od:Obj:=tu [vs "value" 713,vs "deep" 714,vs "room" 715,vs "name" 716,vs "told" 717]
def VU:Obj:=tu []
def XeB:Obj:=f0 (sT 32) "show_thing" 0 0
def O1:Obj:=cd "show_thing" "show_thing" 710 205 3 3 336 true 337 vn (vr 338) (vr 339) (vr 340) 718
def Lf:Obj:=f1 (sT 32) "show_thing" 3 vn "gemrows.things" 194 341 0
def Rk:Obj:=tu [vi 6 721,vn]
def Iy:Obj:=tu []
def Xcc:Obj:=fl vn []
def OW:Obj:=tu [vs "error" 725,vs "deep" 726,vs "room" 727,vs "met" 728,vs "message" 729]
def TF:Obj:=tu []
def Xff:Obj:=f0 (sT 33) "message_text" 0 0
def Qw:Obj:=cd "message_text" "message_text" 722 219 3 3 344 true 345 vn (vr 346) (vr 347) (vr 348) 730
def I8:Obj:=f1 (sT 33) "message_text" 3 (vr 343) "gemrows.things" 194 349 0
def L9:Obj:=tu [vi 6 733,vn]
def Ut:Obj:=tu []
def XdO:Obj:=fl vn []
def J2:Obj:=tu [vs "value" 737,vs "deep" 738,vs "room" 739,vs "sort" 740]
def L5:Obj:=tu []
def XcZ:Obj:=f0 (sT 34) "show" 0 0
def Rd:Obj:=cd "show" "show" 734 230 3 3 352 true 353 vn (vr 354) (vr 355) (vr 356) 741
def E7:Obj:=f1 (sT 34) "show" 3 (vr 351) "gemrows.things" 194 357 0
def Ol:Obj:=tu []
def XaV:Obj:=fl vn []
def IU:Obj:=tu [vs "world" 749,vs "value" 750]
def P8:Obj:=tu []
def XeR:Obj:=f0 (sT 36) "kind_word" 0 0
def VR:Obj:=cd "kind_word" "kind_word" 746 242 2 3 359 true 360 vn (vr 361) (vr 362) (vr 363) 751
def EO:Obj:=f1 (sT 36) "kind_word" 3 vn "gemrows.needs" 744 364 0
def LL:Obj:=tu []
def XcM:Obj:=fl vn []
def Lx:Obj:=tu [vs "world" 757,vs "value" 758]
def LY:Obj:=tu []
def XfJ:Obj:=f0 (sT 37) "need_int" 0 0
def Vr:Obj:=cd "need_int" "need_int" 754 248 2 3 366 true 367 vn (vr 368) (vr 369) (vr 370) 759
def CH:Obj:=f1 (sT 37) "need_int" 3 vn "gemrows.needs" 744 371 0
def Rr:Obj:=tu []
def Wl:Obj:=fl vn []
def Pv:Obj:=tu [vs "world" 765,vs "thing" 766]
def Vy:Obj:=tu []
def XfM:Obj:=f0 (sT 38) "need_open" 0 0
def SK:Obj:=cd "need_open" "need_open" 762 254 2 3 373 true 374 vn (vr 375) (vr 376) (vr 377) 767
def GY:Obj:=f1 (sT 38) "need_open" 3 vn "gemrows.needs" 744 378 0
def Kg:Obj:=tu []
def Wx:Obj:=fl vn []
def UD:Obj:=tu [vs "world" 773,vs "span" 774,vs "size" 775,vs "first" 776,vs "last" 777]
def L7:Obj:=tu []
def Xea:Obj:=f0 (sT 39) "limits_of" 0 0
def K5:Obj:=cd "limits_of" "limits_of" 770 257 3 3 380 true 381 vn (vr 382) (vr 383) (vr 384) 778
def C9:Obj:=f1 (sT 39) "limits_of" 3 vn "gemrows.needs" 744 385 0
def QA:Obj:=tu []
def Xbh:Obj:=fl vn []
def Oa:Obj:=tu [vs "world" 784,vs "args" 785,vs "size" 786,vs "first" 787,vs "last" 788,vs "count" 789]
def PU:Obj:=tu []
def Xee:Obj:=f0 (sT 40) "span_in" 0 0
def Lk:Obj:=cd "span_in" "span_in" 781 267 3 3 387 true 388 vn (vr 389) (vr 390) (vr 391) 790
def AG:Obj:=f1 (sT 40) "span_in" 3 vn "gemrows.needs" 744 392 0
def LG:Obj:=tu []
def Xb2:Obj:=fl vn []
def Iv:Obj:=tu [vs "world" 796,vs "value" 797,vs "size" 798,vs "place" 799]
def I0:Obj:=tu []
def Xdw:Obj:=f0 (sT 41) "place_of" 0 0
def PN:Obj:=cd "place_of" "place_of" 793 278 3 3 394 true 395 vn (vr 396) (vr 397) (vr 398) 800
def z9:Obj:=f1 (sT 41) "place_of" 3 vn "gemrows.needs" 744 399 0
def P6:Obj:=tu [vt "ValueError"]
def XfO:Obj:=fl (vt "builtin_function_or_method") [vu "type.__prepare__",vt "type"]
def Wr (P:Params):Obj:=di P [en "__module__" 812 (vs "gemrows.errors" 803),en "__qualname__" 814 (vs "GemError" 813),en "__firstlineno__" 816 (vi 282 815),en "__init__" 825 (vr 415),en "__static_attributes__" 827 (vr 416)] 5
def Xce:Obj:=tu []
def XeK:Obj:=fl vn [vi 284 0,vi 4 0,vr 414]
def XaE:Obj:=cd "GemError" "GemError" 807 282 0 0 404 false 405 vn vn vn vn 810
def XfP:Obj:={cls:=(vt "frame"),slots:=(List.toArray [some (vr 406),some (vr 3),some (vr 403),none,some (vs "gemrows.errors" 803),none,some (vr 0)])}
def MU:Obj:=tu [vs "" 817]
def QW:Obj:=tu []
def WI:Obj:=fl vn []
def LK:Obj:=tu [vs "self" 821,vs "reason" 822]
def Lq:Obj:=tu []
def XbY:Obj:=f0 (sC 43 0) "GemError.__init__" 0 0
def Vt:Obj:=cd "__init__" "GemError.__init__" 818 284 2 3 409 true 410 vn (vr 411) (vr 412) (vr 413) 823
def Cb:Obj:=f1 (sC 43 0) "GemError.__init__" 3 (vr 408) "gemrows.errors" 803 414 0
def Vo:Obj:=tu [vs "reason" 826]
def I7 (P:Params):Obj:=di P [en "__module__" 812 (vs "gemrows.errors" 803),en "__firstlineno__" 816 (vi 282 815),en "__init__" 825 (vr 415),en "__static_attributes__" 827 (vr 416),en "__weakref__" 829 (vr 419),en "__doc__" 830 vn] 3
def Vc:Obj:={cls:=(vt "type"),data:=.cls {name:="GemError",bases:=[vt "ValueError"],mro:=[vr 418,vt "ValueError",vt "Exception",vt "BaseException",vt "object"],ns:=417,qualname:="GemError",hasDict:=true,slotNames:=[],subclasses:=[vr 438],abstract:=false,collection:=none,hasDel:=false},slots:=(List.toArray [some (vr 401),none,some (vs "GemError" 805),some (vs "GemError" 813),some (vu "ValueError.__new__"),some (vb true)])}
def U5:Obj:=fl (vt "getset_descriptor") [vs "__weakref__" 828,vr 418,vu "ExceptionGroup.__weakref__",vn]
def Xc3:Obj:=fl (vt "super") [vr 418,vr 418,vr 418]
def Xax:Obj:=fl (vt "builtin_function_or_method") [vu "object.__init_subclass__",vr 418]
def Ki:Obj:=tu [vr 418]
def XaU:Obj:=fl (vt "builtin_function_or_method") [vu "type.__prepare__",vt "type"]
def Xcn (P:Params):Obj:=di P [en "__module__" 840 (vs "gemrows.errors" 803),en "__qualname__" 842 (vs "Raised" 841),en "__firstlineno__" 844 (vi 287 843),en "__init__" 852 (vr 435),en "__static_attributes__" 854 (vr 436)] 5
def XeL:Obj:=tu []
def WL:Obj:=fl vn [vi 289 0,vi 4 0,vr 434]
def Xck:Obj:=cd "Raised" "Raised" 835 287 0 0 425 false 426 vn vn vn vn 838
def XbS:Obj:={cls:=(vt "frame"),slots:=(List.toArray [some (vr 427),some (vr 3),some (vr 424),none,some (vs "gemrows.errors" 803),none,some (vr 0)])}
def Kr:Obj:=tu []
def Xaa:Obj:=fl vn []
def SM:Obj:=tu [vs "self" 848,vs "thing" 849]
def Ow:Obj:=tu []
def Xbv:Obj:=f0 (sC 44 0) "Raised.__init__" 0 0
def Pr:Obj:=cd "__init__" "Raised.__init__" 845 289 2 3 429 true 430 vn (vr 431) (vr 432) (vr 433) 850
def A5:Obj:=f1 (sC 44 0) "Raised.__init__" 3 vn "gemrows.errors" 803 434 0
def OA:Obj:=tu [vs "thing" 853]
def KD (P:Params):Obj:=di P [en "__module__" 840 (vs "gemrows.errors" 803),en "__firstlineno__" 844 (vi 287 843),en "__init__" 852 (vr 435),en "__static_attributes__" 854 (vr 436),en "__doc__" 855 vn] 2
def RZ:Obj:={cls:=(vt "type"),data:=.cls {name:="Raised",bases:=[vr 418],mro:=[vr 438,vr 418,vt "ValueError",vt "Exception",vt "BaseException",vt "object"],ns:=437,qualname:="Raised",hasDict:=true,slotNames:=[],subclasses:=[],abstract:=false,collection:=none,hasDel:=false},slots:=(List.toArray [some (vr 422),none,some (vs "Raised" 833),some (vs "Raised" 841),some (vu "ValueError.__new__"),some (vb true)])}
def Xd2:Obj:=fl (vt "super") [vr 438,vr 438,vr 438]
def Xez:Obj:=fl (vt "builtin_function_or_method") [vu "object.__init_subclass__",vr 438]
def Of:Obj:=tu []
def XdG:Obj:=fl vn []
def Lh:Obj:=tu [vs "world" 863,vs "self" 864,vs "args" 865,vs "place" 866]
def VI:Obj:=tu []
def Xbo:Obj:=f0 (sT 46) "list_item" 0 0
def KB:Obj:=cd "list_item" "list_item" 860 293 3 3 441 true 442 vn (vr 443) (vr 444) (vr 445) 867
def Ca:Obj:=f1 (sT 46) "list_item" 3 vn "gemrows.lists" 858 446 0
def IO:Obj:=tu []
def Xcb:Obj:=fl vn []
def H9:Obj:=tu [vs "world" 873,vs "self" 874,vs "args" 875,vs "span" 876]
def Ic:Obj:=tu []
def XaP:Obj:=f0 (sT 47) "list_at" 0 0
def MW:Obj:=cd "list_at" "list_at" 870 296 3 3 448 true 449 vn (vr 450) (vr 451) (vr 452) 877
def By:Obj:=f1 (sT 47) "list_at" 3 vn "gemrows.lists" 858 453 0
def T4:Obj:=tu []
def Xd8:Obj:=fl vn []
def IN:Obj:=tu [vs "world" 883,vs "self" 884,vs "args" 885,vs "span" 886,vs "gone" 887]
def K9:Obj:=tu []
def Xd1:Obj:=f0 (sT 48) "list_slice_out" 0 0
def OJ:Obj:=cd "list_slice_out" "list_slice_out" 880 301 3 3 455 true 456 vn (vr 457) (vr 458) (vr 459) 888
def Az:Obj:=f1 (sT 48) "list_slice_out" 3 vn "gemrows.lists" 858 460 0
def Jb:Obj:=tu []
def XbH:Obj:=fl vn []
def Jt:Obj:=tu [vs "world" 894,vs "self" 895,vs "args" 896,vs "place" 897]
def QU:Obj:=tu []
def Xey:Obj:=f0 (sT 49) "list_delete_at" 0 0
def MC:Obj:=cd "list_delete_at" "list_delete_at" 891 311 3 3 462 true 463 vn (vr 464) (vr 465) (vr 466) 898
def Eb:Obj:=f1 (sT 49) "list_delete_at" 3 vn "gemrows.lists" 858 467 0
def MD:Obj:=tu []
def XdE:Obj:=fl vn []
def IB:Obj:=tu [vs "world" 906,vs "value" 907,vs "name" 908]
def Oc:Obj:=tu []
def Xdc:Obj:=f0 (sT 51) "whole" 0 0
def Pd:Obj:=cd "whole" "whole" 903 316 2 3 469 true 470 vn (vr 471) (vr 472) (vr 473) 909
def BK:Obj:=f1 (sT 51) "whole" 3 vn "gemrows.numbers" 901 474 0
def LJ:Obj:=tu []
def Xe0:Obj:=fl vn []
def Ld:Obj:=tu [vs "world" 917,vs "one" 918]
def LW:Obj:=tu []
def Xa0:Obj:=f0 (sT 53) "need_free" 0 0
def KH:Obj:=cd "need_free" "need_free" 914 324 2 3 476 true 477 vn (vr 478) (vr 479) (vr 480) 919
def F3:Obj:=f1 (sT 53) "need_free" 3 vn "gemrows.texts" 912 481 0
def Ve:Obj:=tu []
def Xdf:Obj:=fl vn []
def Oj:Obj:=tu [vs "place" 925,vs "count" 926,vs "size" 927,vs "begin" 928]
def Sh:Obj:=tu []
def Xbj:Obj:=f0 (sT 54) "span_of" 0 0
def OT:Obj:=cd "span_of" "span_of" 922 327 3 3 483 true 484 vn (vr 485) (vr 486) (vr 487) 929
def DP:Obj:=f1 (sT 54) "span_of" 3 vn "gemrows.texts" 912 488 0
def SS:Obj:=tu []
def Xfi:Obj:=fl vn []
def Mh:Obj:=tu [vs "world" 935,vs "value" 936,vs "size" 937,vs "first" 938,vs "last" 939,vs "end" 940,vs "begin" 941]
def O7:Obj:=tu []
def Xcd:Obj:=f0 (sT 55) "span_of_range" 0 0
def Tf:Obj:=cd "span_of_range" "span_of_range" 932 332 3 3 490 true 491 vn (vr 492) (vr 493) (vr 494) 942
def Da:Obj:=f1 (sT 55) "span_of_range" 3 vn "gemrows.texts" 912 495 0
def RY:Obj:=tu []
def Xfh:Obj:=fl vn []
def JW:Obj:=tu [vs "world" 948,vs "text" 949,vs "args" 950,vs "at" 951,vs "place" 952]
def R4:Obj:=tu []
def Xc0:Obj:=f0 (sT 56) "span_for" 0 0
def Q9:Obj:=cd "span_for" "span_for" 945 340 3 3 497 true 498 vn (vr 499) (vr 500) (vr 501) 953
def BI:Obj:=f1 (sT 56) "span_for" 3 vn "gemrows.texts" 912 502 0
def UF:Obj:=tu []
def Xan:Obj:=fl vn []
def On:Obj:=tu [vs "world" 959,vs "one" 960,vs "args" 961,vs "span" 962]
def Np:Obj:=tu []
def Xbg:Obj:=f0 (sT 57) "part" 0 0
def J4:Obj:=cd "part" "part" 956 350 3 3 504 true 505 vn (vr 506) (vr 507) (vr 508) 963
def Av:Obj:=f1 (sT 57) "part" 3 vn "gemrows.texts" 912 509 0
def Ni:Obj:=tu []
def XbW:Obj:=fl vn []
def Jc:Obj:=tu [vs "world" 969,vs "one" 970,vs "args" 971,vs "span" 972,vs "found" 973]
def SZ:Obj:=tu []
def Xbt:Obj:=f0 (sT 58) "take_part" 0 0
def Uy:Obj:=cd "take_part" "take_part" 966 353 3 3 511 true 512 vn (vr 513) (vr 514) (vr 515) 974
def DH:Obj:=f1 (sT 58) "take_part" 3 vn "gemrows.texts" 912 516 0
def TA:Obj:=tu []
def XeY:Obj:=fl vn []
def Mj:Obj:=tu [vs "world" 982]
def O5:Obj:=tu []
def Xeh:Obj:=f0 (sT 60) "raise_version" 0 0
def T7:Obj:=cd "raise_version" "raise_version" 979 362 1 3 518 true 519 vn (vr 520) (vr 521) (vr 522) 983
def MP:Obj:=f1 (sT 60) "raise_version" 3 vn "gemrows.lines" 977 523 0
def MB:Obj:=tu []
def XeC:Obj:=fl vn []
def PO:Obj:=tu [vs "world" 989,vs "value" 990,vs "waiting" 991,vs "one" 992]
def TL:Obj:=tu []
def Xfq:Obj:=f0 (sT 61) "own_module" 0 0
def OM:Obj:=cd "own_module" "own_module" 986 364 2 3 525 true 526 vn (vr 527) (vr 528) (vr 529) 993
def K8:Obj:=f1 (sT 61) "own_module" 3 vn "gemrows.lines" 977 530 0
def UU:Obj:=tu []
def XbA:Obj:=fl vn []
def TX:Obj:=tu [vs "value" 999]
def QK:Obj:=tu []
def XcU:Obj:=f0 (sT 62) "class_above" 0 0
def Sf:Obj:=cd "class_above" "class_above" 996 376 1 3 532 true 533 vn (vr 534) (vr 535) (vr 536) 1000
def Ps:Obj:=f1 (sT 62) "class_above" 3 vn "gemrows.lines" 977 537 0
def Ur:Obj:=tu []
def Xai:Obj:=fl vn []
def Ua:Obj:=tu [vs "world" 1006,vs "value" 1007,vs "above" 1008,vs "parent" 1009]
def K7:Obj:=tu []
def XcL:Obj:=f0 (sT 63) "make_own" 0 0
def Qn:Obj:=cd "make_own" "make_own" 1003 378 2 3 539 true 540 vn (vr 541) (vr 542) (vr 543) 1010
def MQ:Obj:=f1 (sT 63) "make_own" 3 vn "gemrows.lines" 977 544 0
def Qq:Obj:=tu [vs "Kernel" 1015,vs "Comparable" 1016,vs "Enumerable" 1017]
def U7 (P:Params):Obj:=di P [en "BasicObject" 1019 vn,en "Object" 1021 (vs "BasicObject" 1022),en "Module" 1024 (vs "Object" 1025),en "Class" 1027 (vs "Module" 1028),en "Kernel" 1030 vn,en "Comparable" 1032 vn,en "Enumerable" 1034 vn,en "NilClass" 1036 (vs "Object" 1037),en "TrueClass" 1039 (vs "Object" 1040),en "FalseClass" 1042 (vs "Object" 1043),en "Numeric" 1045 (vs "Object" 1046),en "Integer" 1048 (vs "Numeric" 1049),en "String" 1051 (vs "Object" 1052),en "Symbol" 1054 (vs "Object" 1055),en "Array" 1057 (vs "Object" 1058),en "Hash" 1060 (vs "Object" 1061),en "Range" 1063 (vs "Object" 1064),en "Proc" 1066 (vs "Object" 1067),en "Fiber" 1069 (vs "Object" 1070),en "Exception" 1072 (vs "Object" 1073),en "ScriptError" 1075 (vs "Exception" 1076),en "NotImplementedError" 1078 (vs "ScriptError" 1079),en "SystemStackError" 1081 (vs "Exception" 1082),en "StandardError" 1084 (vs "Exception" 1085),en "ArgumentError" 1087 (vs "StandardError" 1088),en "UncaughtThrowError" 1090 (vs "ArgumentError" 1091),en "FiberError" 1093 (vs "StandardError" 1094),en "IndexError" 1096 (vs "StandardError" 1097),en "KeyError" 1099 (vs "IndexError" 1100),en "StopIteration" 1102 (vs "IndexError" 1103),en "LocalJumpError" 1105 (vs "StandardError" 1106),en "NameError" 1108 (vs "StandardError" 1109),en "NoMethodError" 1111 (vs "NameError" 1112),en "NoMatchingPatternError" 1114 (vs "StandardError" 1115),en "NoMatchingPatternKeyError" 1117 (vs "NoMatchingPatternError" 1118),en "RangeError" 1119 (vs "StandardError" 1120),en "RuntimeError" 1121 (vs "StandardError" 1122),en "FrozenError" 1123 (vs "RuntimeError" 1124),en "TypeError" 1125 (vs "StandardError" 1126),en "ZeroDivisionError" 1127 (vs "StandardError" 1128)] 40
def Xb1 (P:Params):Obj:=di P [en "Proc" 1066 (vs "Object" 1067),en "Fiber" 1069 (vs "Object" 1070),en "Exception" 1072 (vs "Object" 1073),en "ScriptError" 1075 (vs "Exception" 1076),en "NotImplementedError" 1078 (vs "ScriptError" 1079),en "SystemStackError" 1081 (vs "Exception" 1082),en "StandardError" 1084 (vs "Exception" 1085),en "ArgumentError" 1087 (vs "StandardError" 1088),en "UncaughtThrowError" 1090 (vs "ArgumentError" 1091),en "FiberError" 1093 (vs "StandardError" 1094),en "IndexError" 1096 (vs "StandardError" 1097),en "KeyError" 1099 (vs "IndexError" 1100),en "StopIteration" 1102 (vs "IndexError" 1103),en "LocalJumpError" 1105 (vs "StandardError" 1106),en "NameError" 1108 (vs "StandardError" 1109),en "NoMethodError" 1111 (vs "NameError" 1112),en "NoMatchingPatternError" 1114 (vs "StandardError" 1115)] 17
def Xco (P:Params):Obj:=di P [en "NoMatchingPatternKeyError" 1117 (vs "NoMatchingPatternError" 1118),en "RangeError" 1119 (vs "StandardError" 1120),en "RuntimeError" 1121 (vs "StandardError" 1122),en "FrozenError" 1123 (vs "RuntimeError" 1124),en "TypeError" 1125 (vs "StandardError" 1126),en "ZeroDivisionError" 1127 (vs "StandardError" 1128)] 6
def OZ (P:Params):Obj:=di P [en "Object" 1136 (vr 551),en "Numeric" 1138 (vr 552),en "String" 1140 (vr 553),en "Symbol" 1142 (vr 554),en "Array" 1144 (vr 555),en "Hash" 1146 (vr 556),en "Range" 1148 (vr 557)] 7
def Va:Obj:=tu [vs "Kernel" 1137]
def Pe:Obj:=tu [vs "Comparable" 1139]
def OP:Obj:=tu [vs "Comparable" 1141]
def JU:Obj:=tu [vs "Comparable" 1143]
def Ov:Obj:=tu [vs "Enumerable" 1145]
def Lc:Obj:=tu [vs "Enumerable" 1147]
def Tx:Obj:=tu [vs "Enumerable" 1149]
def T9:Obj:=tu [vs "NilClass" 1158,vs "TrueClass" 1159,vs "FalseClass" 1160,vs "Integer" 1161,vs "Symbol" 1162]
def XdM:Obj:=tu []
def Xej:Obj:=fl (vt "builtin_function_or_method") [vu "type.__prepare__",vt "type"]
def XaI (P:Params):Obj:=di P [en "__module__" 1171 (vs "gemrows.world" 1013),en "__qualname__" 1173 (vs "World" 1172),en "__firstlineno__" 1175 (vi 390 1174),en "__init__" 1188 (vr 573),en "tick" 1195 (vr 580),en "write" 1203 (vr 587),en "number" 1210 (vr 594),en "next_ident" 1217 (vr 601),en "ident" 1226 (vr 608),en "builtin" 1235 (vr 615),en "make_builtin" 1241 (vr 620),en "give_own" 1249 (vr 627),en "new_module" 1264 (vr 635),en "class_of" 1272 (vr 642),en "own_of" 1280 (vr 649),en "own_behind" 1288 (vr 656),en "root_of" 1296 (vr 663),en "real_class" 1304 (vr 670),en "text" 1312 (vr 677),en "list_of" 1320 (vr 684),en "table_of" 1331 (vr 691),en "key_of" 1340 (vr 698),en "range_of" 1352 (vr 705),en "proc" 1369 (vr 712),en "thing" 1379 (vr 719),en "is_error_class" 1387 (vr 726),en "spread" 1395 (vr 733),en "numbers_of" 1403 (vr 740),en "need_size" 1411 (vr 747),en "sized_text" 1419 (vr 754),en "error" 1428 (vr 761),en "fail" 1437 (vr 768),en "need_thawed" 1445 (vr 775),en "set_field" 1455 (vr 782),en "describe" 1463 (vr 789),en "own_constant" 1472 (vr 796),en "find_constant" 1481 (vr 803),en "constant" 1490 (vr 810),en "find_in" 1499 (vr 817),en "constant_in" 1508 (vr 824),en "set_constant" 1518 (vr 831),en "__static_attributes__" 1535 (vr 832)] 42
def XdI:Obj:=tu []
def XfE:Obj:=fl vn [vi 392 0,vi 4 0,vr 572,vi 413 0,vi 4 0,vr 579,vi 416 0,vi 4 0,vr 586,vi 419 0,vi 4 0,vr 593,vi 423 0,vi 4 0,vr 600,vi 427 0,vi 4 0,vr 607,vi 443 0,vi 4 0,vr 614,vi 447 0,vi 4 0,vr 619,vi 460 0,vi 4 0,vr 626,vi 464 0,vi 4 0,vr 634,vi 473 0,vi 4 0,vr 641,vi 482 0,vi 4 0,vr 648,vi 485 0,vi 4 0,vr 655,vi 488 0,vi 4 0,vr 662,vi 493 0,vi 4 0,vr 669,vi 496 0,vi 4 0,vr 676,vi 499 0,vi 4 0,vr 683,vi 502 0,vi 4 0,vr 690,vi 508 0,vi 4 0,vr 697,vi 515 0,vi 4 0,vr 704,vi 524 0,vi 4 0,vr 711,vi 528 0,vi 4 0,vr 718,vi 554 0,vi 4 0,vr 725,vi 561 0,vi 4 0,vr 732,vi 564 0,vi 4 0,vr 739,vi 567 0,vi 4 0,vr 746,vi 570 0,vi 4 0,vr 753,vi 573 0,vi 4 0,vr 760,vi 576 0,vi 4 0,vr 767,vi 579 0,vi 4 0,vr 774,vi 582 0,vi 4 0,vr 781,vi 585 0,vi 4 0,vr 788,vi 588 0,vi 4 0,vr 795,vi 591 0,vi 4 0,vr 802,vi 594 0,vi 4 0,vr 809,vi 597 0,vi 4 0,vr 816,vi 600 0,vi 4 0,vr 823,vi 603 0,vi 4 0,vr 830]
def Xc7:Obj:=cd "World" "World" 1166 390 0 0 562 false 563 vn vn vn vn 1169
def Xcs:Obj:={cls:=(vt "frame"),slots:=(List.toArray [some (vr 564),some (vr 3),some (vr 561),none,some (vs "gemrows.world" 1013),none,some (vr 0)])}
def MZ:Obj:=tu [vn,vn,vi 20000 1176]
def JR:Obj:=tu []
def Xfz:Obj:=fl vn []
def R8:Obj:=tu [vs "self" 1180,vs "natives" 1181,vs "prelude" 1182,vs "read" 1183,vs "most" 1184,vs "name" 1185]
def R9:Obj:=tu []
def XcG:Obj:=f0 (sC 69 0) "World.__init__" 0 0
def VA:Obj:=cd "__init__" "World.__init__" 1177 392 5 3 567 true 568 vn (vr 569) (vr 570) (vr 571) 1186
def D4:Obj:=f1 (sC 69 0) "World.__init__" 3 (vr 566) "gemrows.world" 1013 572 0
def NB:Obj:=tu []
def XcD:Obj:=fl vn []
def H7:Obj:=tu [vs "self" 1192]
def Nq:Obj:=tu []
def XbN:Obj:=f0 (sC 69 1) "World.tick" 0 0
def Rc:Obj:=cd "tick" "World.tick" 1189 413 1 3 574 true 575 vn (vr 576) (vr 577) (vr 578) 1193
def QY:Obj:=f1 (sC 69 1) "World.tick" 3 vn "gemrows.world" 1013 579 0
def VP:Obj:=tu []
def Xfe:Obj:=fl vn []
def JP:Obj:=tu [vs "self" 1199,vs "text" 1200]
def TG:Obj:=tu []
def Xb8:Obj:=f0 (sC 69 2) "World.write" 0 0
def K4:Obj:=cd "write" "World.write" 1196 416 2 3 581 true 582 vn (vr 583) (vr 584) (vr 585) 1201
def Nm:Obj:=f1 (sC 69 2) "World.write" 3 vn "gemrows.world" 1013 586 0
def Ue:Obj:=tu []
def Xe8:Obj:=fl vn []
def Ng:Obj:=tu [vs "self" 1207]
def Io:Obj:=tu []
def Xbd:Obj:=f0 (sC 69 3) "World.number" 0 0
def SL:Obj:=cd "number" "World.number" 1204 419 1 3 588 true 589 vn (vr 590) (vr 591) (vr 592) 1208
def FN:Obj:=f1 (sC 69 3) "World.number" 3 vn "gemrows.world" 1013 593 0
def PK:Obj:=tu []
def Xe7:Obj:=fl vn []
def IG:Obj:=tu [vs "self" 1214]
def PV:Obj:=tu []
def Xem:Obj:=f0 (sC 69 4) "World.next_ident" 0 0
def PX:Obj:=cd "next_ident" "World.next_ident" 1211 423 1 3 595 true 596 vn (vr 597) (vr 598) (vr 599) 1215
def Uf:Obj:=f1 (sC 69 4) "World.next_ident" 3 vn "gemrows.world" 1013 600 0
def JY:Obj:=tu []
def XcR:Obj:=fl vn []
def Tw:Obj:=tu [vs "self" 1221,vs "value" 1222,vs "sort" 1223]
def UI:Obj:=tu []
def XaZ:Obj:=f0 (sC 69 5) "World.ident" 0 0
def JV:Obj:=cd "ident" "World.ident" 1218 427 2 3 602 true 603 vn (vr 604) (vr 605) (vr 606) 1224
def Q0:Obj:=f1 (sC 69 5) "World.ident" 3 vn "gemrows.world" 1013 607 0
def NQ:Obj:=tu []
def Xet:Obj:=fl vn []
def RM:Obj:=tu [vs "self" 1230,vs "name" 1231,vs "found" 1232]
def Lb:Obj:=tu []
def Xeu:Obj:=f0 (sC 69 6) "World.builtin" 0 0
def Uh:Obj:=cd "builtin" "World.builtin" 1227 443 2 3 609 true 610 vn (vr 611) (vr 612) (vr 613) 1233
def Ft:Obj:=f1 (sC 69 6) "World.builtin" 3 vn "gemrows.world" 1013 614 0
def Jd:Obj:=tu []
def Xc6:Obj:=fl vn []
def Xay:Obj:=f0 (sC 69 7) "World.make_builtin" 0 0
def IQ:Obj:=cd "make_builtin" "World.make_builtin" 1236 447 2 3 616 true 617 vn vn vn (vr 618) 1239
def AB:Obj:=f1 (sC 69 7) "World.make_builtin" 3 vn "gemrows.world" 1013 619 0
def QO:Obj:=tu []
def Xab:Obj:=fl vn []
def JD:Obj:=tu [vs "self" 1245,vs "name" 1246]
def Nl:Obj:=tu []
def XaS:Obj:=f0 (sC 69 8) "World.give_own" 0 0
def VD:Obj:=cd "give_own" "World.give_own" 1242 460 2 3 621 true 622 vn (vr 623) (vr 624) (vr 625) 1247
def EA:Obj:=f1 (sC 69 8) "World.give_own" 3 vn "gemrows.world" 1013 626 0
def Sc:Obj:=tu [vn,vn,vn]
def M2:Obj:=tu []
def Xel:Obj:=fl vn []
def Ql:Obj:=tu [vs "self" 1253,vs "name" 1254,vs "is_class" 1255,vs "parent" 1256,vs "outer" 1257,vs "attached" 1258,vs "owner" 1259,vs "stands" 1260,vs "found" 1261]
def LI:Obj:=tu []
def Xfn:Obj:=f0 (sC 69 9) "World.new_module" 0 0
def VX:Obj:=cd "new_module" "World.new_module" 1250 464 6 3 629 true 630 vn (vr 631) (vr 632) (vr 633) 1262
def Hb:Obj:=f1 (sC 69 9) "World.new_module" 3 (vr 628) "gemrows.world" 1013 634 0
def HP:Obj:=tu []
def XbF:Obj:=fl vn []
def MR:Obj:=tu [vs "self" 1268,vs "value" 1269]
def Ui:Obj:=tu []
def WB:Obj:=f0 (sC 69 10) "World.class_of" 0 0
def Td:Obj:=cd "class_of" "World.class_of" 1265 473 2 3 636 true 637 vn (vr 638) (vr 639) (vr 640) 1270
def FE:Obj:=f1 (sC 69 10) "World.class_of" 3 vn "gemrows.world" 1013 641 0
def NM:Obj:=tu []
def Wz:Obj:=fl vn []
def JT:Obj:=tu [vs "self" 1276,vs "value" 1277]
def K6:Obj:=tu []
def XbT:Obj:=f0 (sC 69 11) "World.own_of" 0 0
def Pt:Obj:=cd "own_of" "World.own_of" 1273 482 2 3 643 true 644 vn (vr 645) (vr 646) (vr 647) 1278
def OV:Obj:=f1 (sC 69 11) "World.own_of" 3 vn "gemrows.world" 1013 648 0
def VH:Obj:=tu []
def XaC:Obj:=fl vn []
def RH:Obj:=tu [vs "self" 1284,vs "module" 1285]
def L8:Obj:=tu []
def Xfa:Obj:=f0 (sC 69 12) "World.own_behind" 0 0
def VW:Obj:=cd "own_behind" "World.own_behind" 1281 485 2 3 650 true 651 vn (vr 652) (vr 653) (vr 654) 1286
def Kt:Obj:=f1 (sC 69 12) "World.own_behind" 3 vn "gemrows.world" 1013 655 0
def Vi:Obj:=tu []
def Xev:Obj:=fl vn []
def Ll:Obj:=tu [vs "self" 1292,vs "module" 1293]
def UE:Obj:=tu []
def Xbx:Obj:=f0 (sC 69 13) "World.root_of" 0 0
def Rn:Obj:=cd "root_of" "World.root_of" 1289 488 2 3 657 true 658 vn (vr 659) (vr 660) (vr 661) 1294
def De:Obj:=f1 (sC 69 13) "World.root_of" 3 vn "gemrows.world" 1013 662 0
def N6:Obj:=tu []
def Wy:Obj:=fl vn []
def Kn:Obj:=tu [vs "self" 1300,vs "module" 1301]
def S9:Obj:=tu []
def XbG:Obj:=f0 (sC 69 14) "World.real_class" 0 0
def Jr:Obj:=cd "real_class" "World.real_class" 1297 493 2 3 664 true 665 vn (vr 666) (vr 667) (vr 668) 1302
def PW:Obj:=f1 (sC 69 14) "World.real_class" 3 vn "gemrows.world" 1013 669 0
def IJ:Obj:=tu []
def XbD:Obj:=fl vn []
def ML:Obj:=tu [vs "self" 1308,vs "text" 1309]
def J3:Obj:=tu []
def Xa8:Obj:=f0 (sC 69 15) "World.text" 0 0
def IL:Obj:=cd "text" "World.text" 1305 496 2 3 671 true 672 vn (vr 673) (vr 674) (vr 675) 1310
def BJ:Obj:=f1 (sC 69 15) "World.text" 3 vn "gemrows.world" 1013 676 0
def Ls:Obj:=tu []
def XdR:Obj:=fl vn []
def TQ:Obj:=tu [vs "self" 1316,vs "items" 1317]
def VT:Obj:=tu []
def XcQ:Obj:=f0 (sC 69 16) "World.list_of" 0 0
def Ts:Obj:=cd "list_of" "World.list_of" 1313 499 2 3 678 true 679 vn (vr 680) (vr 681) (vr 682) 1318
def Gq:Obj:=f1 (sC 69 16) "World.list_of" 3 vn "gemrows.world" 1013 683 0
def UP:Obj:=tu []
def Xe4:Obj:=fl vn []
def Tr:Obj:=tu [vs "self" 1324,vs "pairs" 1325,vs "found" 1326,vs "key" 1327,vs "value" 1328]
def Ul:Obj:=tu []
def Xep:Obj:=f0 (sC 69 17) "World.table_of" 0 0
def HI:Obj:=cd "table_of" "World.table_of" 1321 502 2 3 685 true 686 vn (vr 687) (vr 688) (vr 689) 1329
def Bm:Obj:=f1 (sC 69 17) "World.table_of" 3 vn "gemrows.world" 1013 690 0
def Op:Obj:=tu []
def Xd4:Obj:=fl vn []
def Jo:Obj:=tu [vs "self" 1335,vs "key" 1336,vs "found" 1337]
def LO:Obj:=tu []
def Xdt:Obj:=f0 (sC 69 18) "World.key_of" 0 0
def Q2:Obj:=cd "key_of" "World.key_of" 1332 508 2 3 692 true 693 vn (vr 694) (vr 695) (vr 696) 1338
def Gh:Obj:=f1 (sC 69 18) "World.key_of" 3 vn "gemrows.world" 1013 697 0
def Ky:Obj:=tu []
def Xct:Obj:=fl vn []
def PG:Obj:=tu [vs "self" 1344,vs "first" 1345,vs "last" 1346,vs "is_open" 1347,vs "is_odd" 1348,vs "found" 1349]
def I9:Obj:=tu []
def Xar:Obj:=f0 (sC 69 19) "World.range_of" 0 0
def Mr:Obj:=cd "range_of" "World.range_of" 1341 515 4 3 699 true 700 vn (vr 701) (vr 702) (vr 703) 1350
def BE:Obj:=f1 (sC 69 19) "World.range_of" 3 vn "gemrows.world" 1013 704 0
def OQ:Obj:=tu []
def XbP:Obj:=fl vn []
def NH:Obj:=tu [vs "self" 1356,vs "params" 1357,vs "body" 1358,vs "env" 1359,vs "self_value" 1360,vs "nesting" 1361,vs "home" 1362,vs "site" 1363,vs "is_lambda" 1364,vs "definer" 1365,vs "owner" 1366]
def Om:Obj:=tu []
def XfH:Obj:=f0 (sC 69 20) "World.proc" 0 0
def RN:Obj:=cd "proc" "World.proc" 1353 524 10 3 706 true 707 vn (vr 708) (vr 709) (vr 710) 1367
def Rz:Obj:=f1 (sC 69 20) "World.proc" 3 vn "gemrows.world" 1013 711 0
def QR:Obj:=tu []
def Xch:Obj:=fl vn []
def PT:Obj:=tu [vs "self" 1373,vs "module" 1374,vs "root" 1375,vs "number" 1376]
def VE:Obj:=tu []
def XdT:Obj:=f0 (sC 69 21) "World.thing" 0 0
def L6:Obj:=cd "thing" "World.thing" 1370 528 2 3 713 true 714 vn (vr 715) (vr 716) (vr 717) 1377
def Bt:Obj:=f1 (sC 69 21) "World.thing" 3 vn "gemrows.world" 1013 718 0
def OU:Obj:=tu []
def Xd3:Obj:=fl vn []
def Qh:Obj:=tu [vs "self" 1383,vs "module" 1384]
def MK:Obj:=tu []
def Xcp:Obj:=f0 (sC 69 22) "World.is_error_class" 0 0
def N0:Obj:=cd "is_error_class" "World.is_error_class" 1380 554 2 3 720 true 721 vn (vr 722) (vr 723) (vr 724) 1385
def KP:Obj:=f1 (sC 69 22) "World.is_error_class" 3 vn "gemrows.world" 1013 725 0
def Kf:Obj:=tu []
def Xaf:Obj:=fl vn []
def JE:Obj:=tu [vs "self" 1391,vs "value" 1392]
def KN:Obj:=tu []
def XbI:Obj:=f0 (sC 69 23) "World.spread" 0 0
def TN:Obj:=cd "spread" "World.spread" 1388 561 2 3 727 true 728 vn (vr 729) (vr 730) (vr 731) 1393
def HU:Obj:=f1 (sC 69 23) "World.spread" 3 vn "gemrows.world" 1013 732 0
def SY:Obj:=tu []
def XfC:Obj:=fl vn []
def SX:Obj:=tu [vs "self" 1399,vs "value" 1400]
def RE:Obj:=tu []
def Xdn:Obj:=f0 (sC 69 24) "World.numbers_of" 0 0
def Nd:Obj:=cd "numbers_of" "World.numbers_of" 1396 564 2 3 734 true 735 vn (vr 736) (vr 737) (vr 738) 1401
def I6:Obj:=f1 (sC 69 24) "World.numbers_of" 3 vn "gemrows.world" 1013 739 0
def Jq:Obj:=tu []
def Xew:Obj:=fl vn []
def Lo:Obj:=tu [vs "self" 1407,vs "count" 1408]
def Un:Obj:=tu []
def XfF:Obj:=f0 (sC 69 25) "World.need_size" 0 0
def Ja:Obj:=cd "need_size" "World.need_size" 1404 567 2 3 741 true 742 vn (vr 743) (vr 744) (vr 745) 1409
def Pq:Obj:=f1 (sC 69 25) "World.need_size" 3 vn "gemrows.world" 1013 746 0
def TU:Obj:=tu []
def Xa3:Obj:=fl vn []
def Kh:Obj:=tu [vs "self" 1415,vs "text" 1416]
def UB:Obj:=tu []
def XeD:Obj:=f0 (sC 69 26) "World.sized_text" 0 0
def HM:Obj:=cd "sized_text" "World.sized_text" 1412 570 2 3 748 true 749 vn (vr 750) (vr 751) (vr 752) 1417
def J7:Obj:=f1 (sC 69 26) "World.sized_text" 3 vn "gemrows.world" 1013 753 0
def T8:Obj:=tu []
def Xdh:Obj:=fl vn []
def R6:Obj:=tu [vs "self" 1423,vs "name" 1424,vs "message" 1425]
def Mw:Obj:=tu []
def XcY:Obj:=f0 (sC 69 27) "World.error" 0 0
def R3:Obj:=cd "error" "World.error" 1420 573 3 3 755 true 756 vn (vr 757) (vr 758) (vr 759) 1426
def Dp:Obj:=f1 (sC 69 27) "World.error" 3 vn "gemrows.world" 1013 760 0
def T0:Obj:=tu []
def Xb0:Obj:=fl vn []
def Ta:Obj:=tu [vs "self" 1432,vs "name" 1433,vs "message" 1434]
def Vx:Obj:=tu []
def XdX:Obj:=f0 (sC 69 28) "World.fail" 0 0
def Pp:Obj:=cd "fail" "World.fail" 1429 576 3 3 762 true 763 vn (vr 764) (vr 765) (vr 766) 1435
def zW:Obj:=f1 (sC 69 28) "World.fail" 3 vn "gemrows.world" 1013 767 0
def Kl:Obj:=tu []
def WG:Obj:=fl vn []
def J1:Obj:=tu [vs "self" 1441,vs "value" 1442]
def PE:Obj:=tu []
def Xam:Obj:=f0 (sC 69 29) "World.need_thawed" 0 0
def Qr:Obj:=cd "need_thawed" "World.need_thawed" 1438 579 2 3 769 true 770 vn (vr 771) (vr 772) (vr 773) 1443
def Vb:Obj:=f1 (sC 69 29) "World.need_thawed" 3 vn "gemrows.world" 1013 774 0
def Ob:Obj:=tu []
def Xbk:Obj:=fl vn []
def NV:Obj:=tu [vs "self" 1449,vs "value" 1450,vs "name" 1451,vs "item" 1452]
def VN:Obj:=tu []
def XdJ:Obj:=f0 (sC 69 30) "World.set_field" 0 0
def Vp:Obj:=cd "set_field" "World.set_field" 1446 582 4 3 776 true 777 vn (vr 778) (vr 779) (vr 780) 1453
def U4:Obj:=f1 (sC 69 30) "World.set_field" 3 vn "gemrows.world" 1013 781 0
def Sn:Obj:=tu []
def XeO:Obj:=fl vn []
def Te:Obj:=tu [vs "self" 1459,vs "value" 1460]
def Sr:Obj:=tu []
def XdH:Obj:=f0 (sC 69 31) "World.describe" 0 0
def R7:Obj:=cd "describe" "World.describe" 1456 585 2 3 783 true 784 vn (vr 785) (vr 786) (vr 787) 1461
def Ox:Obj:=f1 (sC 69 31) "World.describe" 3 vn "gemrows.world" 1013 788 0
def P2:Obj:=tu []
def WS:Obj:=fl vn []
def VJ:Obj:=tu [vs "self" 1467,vs "module" 1468,vs "name" 1469]
def Ss:Obj:=tu []
def Xeg:Obj:=f0 (sC 69 32) "World.own_constant" 0 0
def R5:Obj:=cd "own_constant" "World.own_constant" 1464 588 3 3 790 true 791 vn (vr 792) (vr 793) (vr 794) 1470
def Sa:Obj:=f1 (sC 69 32) "World.own_constant" 3 vn "gemrows.world" 1013 795 0
def Nn:Obj:=tu []
def WP:Obj:=fl vn []
def U0:Obj:=tu [vs "self" 1476,vs "nesting" 1477,vs "name" 1478]
def NT:Obj:=tu []
def WM:Obj:=f0 (sC 69 33) "World.find_constant" 0 0
def N9:Obj:=cd "find_constant" "World.find_constant" 1473 591 3 3 797 true 798 vn (vr 799) (vr 800) (vr 801) 1479
def Vk:Obj:=f1 (sC 69 33) "World.find_constant" 3 vn "gemrows.world" 1013 802 0
def K0:Obj:=tu []
def Xb3:Obj:=fl vn []
def LP:Obj:=tu [vs "self" 1485,vs "nesting" 1486,vs "name" 1487]
def Kk:Obj:=tu []
def XfI:Obj:=f0 (sC 69 34) "World.constant" 0 0
def Oq:Obj:=cd "constant" "World.constant" 1482 594 3 3 804 true 805 vn (vr 806) (vr 807) (vr 808) 1488
def M0:Obj:=f1 (sC 69 34) "World.constant" 3 vn "gemrows.world" 1013 809 0
def Lz:Obj:=tu []
def Xau:Obj:=fl vn []
def Ko:Obj:=tu [vs "self" 1494,vs "module" 1495,vs "name" 1496]
def VO:Obj:=tu []
def Xag:Obj:=f0 (sC 69 35) "World.find_in" 0 0
def LH:Obj:=cd "find_in" "World.find_in" 1491 597 3 3 811 true 812 vn (vr 813) (vr 814) (vr 815) 1497
def HL:Obj:=f1 (sC 69 35) "World.find_in" 3 vn "gemrows.world" 1013 816 0
def TP:Obj:=tu []
def XaQ:Obj:=fl vn []
def Uq:Obj:=tu [vs "self" 1503,vs "module" 1504,vs "name" 1505]
def Ij:Obj:=tu []
def WN:Obj:=f0 (sC 69 36) "World.constant_in" 0 0
def Tk:Obj:=cd "constant_in" "World.constant_in" 1500 600 3 3 818 true 819 vn (vr 820) (vr 821) (vr 822) 1506
def Kj:Obj:=f1 (sC 69 36) "World.constant_in" 3 vn "gemrows.world" 1013 823 0
def PQ:Obj:=tu []
def Xfl:Obj:=fl vn []
def SQ:Obj:=tu [vs "self" 1512,vs "module" 1513,vs "name" 1514,vs "value" 1515]
def RW:Obj:=tu []
def Xba:Obj:=f0 (sC 69 37) "World.set_constant" 0 0
def OF:Obj:=cd "set_constant" "World.set_constant" 1509 603 4 3 825 true 826 vn (vr 827) (vr 828) (vr 829) 1516
def S4:Obj:=f1 (sC 69 37) "World.set_constant" 3 vn "gemrows.world" 1013 830 0
def O4:Obj:=tu [vs "const_version" 1519,vs "globals" 1520,vs "here" 1521,vs "is_ready" 1522,vs "last_ident" 1523,vs "last_number" 1524,vs "made" 1525,vs "main" 1526,vs "most" 1527,vs "natives" 1528,vs "out" 1529,vs "prelude" 1530,vs "read" 1531,vs "symbol_idents" 1532,vs "taken" 1533,vs "version" 1534]
def UX (P:Params):Obj:=di P [en "__module__" 1171 (vs "gemrows.world" 1013),en "__firstlineno__" 1175 (vi 390 1174),en "__init__" 1188 (vr 573),en "tick" 1195 (vr 580),en "write" 1203 (vr 587),en "number" 1210 (vr 594),en "next_ident" 1217 (vr 601),en "ident" 1226 (vr 608),en "builtin" 1235 (vr 615),en "make_builtin" 1241 (vr 620),en "give_own" 1249 (vr 627),en "new_module" 1264 (vr 635),en "class_of" 1272 (vr 642),en "own_of" 1280 (vr 649),en "own_behind" 1288 (vr 656),en "root_of" 1296 (vr 663),en "real_class" 1304 (vr 670),en "text" 1312 (vr 677),en "list_of" 1320 (vr 684),en "table_of" 1331 (vr 691),en "key_of" 1340 (vr 698),en "range_of" 1352 (vr 705),en "proc" 1369 (vr 712),en "thing" 1379 (vr 719),en "is_error_class" 1387 (vr 726),en "spread" 1395 (vr 733),en "numbers_of" 1403 (vr 740),en "need_size" 1411 (vr 747),en "sized_text" 1419 (vr 754),en "error" 1428 (vr 761),en "fail" 1437 (vr 768),en "need_thawed" 1445 (vr 775),en "set_field" 1455 (vr 782),en "describe" 1463 (vr 789),en "own_constant" 1472 (vr 796),en "find_constant" 1481 (vr 803),en "constant" 1490 (vr 810),en "find_in" 1499 (vr 817),en "constant_in" 1508 (vr 824),en "set_constant" 1518 (vr 831),en "__static_attributes__" 1535 (vr 832),en "__dict__" 1537 (vr 835),en "__weakref__" 1539 (vr 836),en "__doc__" 1540 vn] 4
def Mf:Obj:={cls:=(vt "type"),data:=.cls {name:="World",bases:=[vt "object"],mro:=[vr 834,vt "object"],ns:=833,qualname:="World",hasDict:=true,slotNames:=[],subclasses:=[],abstract:=false,collection:=none,hasDel:=false},slots:=(List.toArray [none,none,some (vs "World" 1164),some (vs "World" 1172),some (vu "object.__new__"),some (vb true)])}
def TT:Obj:=fl (vt "getset_descriptor") [vs "__dict__" 1536,vr 834,vu "function.__dict__",vu "function.__dict__#set"]
def H0:Obj:=fl (vt "getset_descriptor") [vs "__weakref__" 1538,vr 834,vu "ExceptionGroup.__weakref__",vn]
def XaL:Obj:=fl (vt "super") [vr 834,vr 834,vr 834]
def Xeb:Obj:=fl (vt "builtin_function_or_method") [vu "object.__init_subclass__",vr 834]
def Ot:Obj:=tu []
def Xdg:Obj:=fl vn []
def PF:Obj:=tu []
def LZ:Obj:=tu []
def XcE:Obj:=f0 (sT 71) "_law_kinds" 0 0
def Kc:Obj:=cd "_law_kinds" "_law_kinds" 1545 606 0 3 839 true 840 vn (vr 841) (vr 842) (vr 843) 1548
def EG:Obj:=f1 (sT 71) "_law_kinds" 3 vn "law_sm0031_01" 1543 844 0
def Rl:Obj:=tu []
def XcB:Obj:=fl vn []
def HQ:Obj:=tu []
def SB:Obj:=tu []
def Xa5:Obj:=f0 (sT 72) "_law_signs" 0 0
def NW:Obj:=cd "_law_signs" "_law_signs" 1551 608 0 3 846 true 847 vn (vr 848) (vr 849) (vr 850) 1554
def CG:Obj:=f1 (sT 72) "_law_signs" 3 vn "law_sm0031_01" 1543 851 0
def I4:Obj:=tu []
def Xfs:Obj:=fl vn []
def RS:Obj:=tu [vs "script" 1560,vs "great" 1561,vs "seed" 1562,vs "bare" 1563,vs "cell" 1564]
def JI:Obj:=tu []
def Xc1:Obj:=f0 (sT 73) "_law_box" 0 0
def Jz:Obj:=cd "_law_box" "_law_box" 1557 610 1 3 853 true 854 vn (vr 855) (vr 856) (vr 857) 1565
def B7:Obj:=f1 (sT 73) "_law_box" 3 vn "law_sm0031_01" 1543 858 0
def Rq:Obj:=tu []
def XcA:Obj:=fl vn []
def Pf:Obj:=tu [vs "box" 1571,vs "many" 1572,vs "digit" 1573,vs "mixed" 1574]
def RA:Obj:=tu []
def Xbi:Obj:=f0 (sT 74) "_law_take" 0 0
def Mx:Obj:=cd "_law_take" "_law_take" 1568 618 2 3 860 true 861 vn (vr 862) (vr 863) (vr 864) 1575
def Cj:Obj:=f1 (sT 74) "_law_take" 3 vn "law_sm0031_01" 1543 865 0
def Lr:Obj:=tu []
def XbQ:Obj:=fl vn []
def Xc5:Obj:=f0 (sT 75) "_law_holders" 0 0
def Rf:Obj:=cd "_law_holders" "_law_holders" 1578 627 3 3 867 true 868 vn vn vn (vr 869) 1581
def AF:Obj:=f1 (sT 75) "_law_holders" 3 vn "law_sm0031_01" 1543 870 0
def I3:Obj:=tu []
def Xfk:Obj:=fl vn []
def TK:Obj:=tu [vs "box" 1587,vs "least" 1588,vs "most" 1589,vs "far" 1590]
def Q7:Obj:=tu []
def Xd6:Obj:=f0 (sT 76) "_law_mark" 0 0
def Sy:Obj:=cd "_law_mark" "_law_mark" 1584 639 3 3 872 true 873 vn (vr 874) (vr 875) (vr 876) 1591
def BD:Obj:=f1 (sT 76) "_law_mark" 3 vn "law_sm0031_01" 1543 877 0
def N2:Obj:=tu []
def XdB:Obj:=fl vn []
def Rx:Obj:=tu [vs "world" 1597,vs "spot" 1598]
def T6:Obj:=tu []
def XdL:Obj:=f0 (sT 77) "_law_strange" 0 0
def KI:Obj:=cd "_law_strange" "_law_strange" 1594 644 2 3 879 true 880 vn (vr 881) (vr 882) (vr 883) 1599
def Bg:Obj:=f1 (sT 77) "_law_strange" 3 vn "law_sm0031_01" 1543 884 0
def Lu:Obj:=tu []
def XbV:Obj:=fl vn []
def VK:Obj:=tu [vs "world" 1605,vs "box" 1606,vs "size" 1607,vs "way" 1608,vs "spot" 1609,vs "strange" 1610,vs "reason" 1611,vs "handed" 1612,vs "pair" 1613]
def MO:Obj:=tu []
def XaW:Obj:=f0 (sT 78) "_law_odd" 0 0
def TO:Obj:=cd "_law_odd" "_law_odd" 1602 650 3 3 886 true 887 vn (vr 888) (vr 889) (vr 890) 1614
def D6:Obj:=f1 (sT 78) "_law_odd" 3 vn "law_sm0031_01" 1543 891 0
def Qj:Obj:=tu []
def Xaj:Obj:=fl vn []
def Na:Obj:=tu [vs "world" 1620,vs "box" 1621,vs "size" 1622,vs "turn" 1623,vs "way" 1624,vs "low" 1625,vs "many" 1626,vs "high" 1627,vs "is_open" 1628]
def PY:Obj:=tu []
def Xap:Obj:=f0 (sT 79) "_law_span" 0 0
def US:Obj:=cd "_law_span" "_law_span" 1617 670 4 3 893 true 894 vn (vr 895) (vr 896) (vr 897) 1629
def Fy:Obj:=f1 (sT 79) "_law_span" 3 vn "law_sm0031_01" 1543 898 0
def RR:Obj:=tu []
def XcC:Obj:=fl vn []
def M5:Obj:=tu [vs "size" 1635,vs "k" 1636,vs "high" 1637,vs "is_open" 1638,vs "name" 1639]
def Q5:Obj:=tu []
def Wu:Obj:=f0 (sT 80) "_law_past" 0 0
def QI:Obj:=cd "_law_past" "_law_past" 1632 689 4 3 900 true 901 vn (vr 902) (vr 903) (vr 904) 1640
def C6:Obj:=f1 (sT 80) "_law_past" 3 vn "law_sm0031_01" 1543 905 0
def RL:Obj:=tu []
def Xdl:Obj:=fl vn []
def Xdm:Obj:=f0 (sT 81) "_law_due" 0 0
def HT:Obj:=cd "_law_due" "_law_due" 1643 694 2 3 907 true 908 vn vn vn (vr 909) 1646
def FP:Obj:=f1 (sT 81) "_law_due" 3 vn "law_sm0031_01" 1543 910 0
def JZ:Obj:=tu []
def Xas:Obj:=fl vn []
def JF:Obj:=tu [vs "act" 1652,vs "error" 1653]
def QG:Obj:=tu []
def Xfm:Obj:=f0 (sT 82) "_law_heard" 0 0
def IS:Obj:=cd "_law_heard" "_law_heard" 1649 708 1 3 912 true 913 vn (vr 914) (vr 915) (vr 916) 1654
def GC:Obj:=f1 (sT 82) "_law_heard" 3 vn "law_sm0031_01" 1543 917 0
def OS:Obj:=tu []
def XeS:Obj:=fl vn []
def Oe:Obj:=tu [vs "world" 1660,vs "size" 1661,vs "handed" 1662,vs "plan" 1663,vs "due" 1664,vs "sort" 1665,vs "low" 1666,vs "high" 1667,vs "is_open" 1668,vs "found" 1669,vs "lowest" 1670,vs "behind" 1671,vs "stop" 1672]
def Tn:Obj:=tu [vs "world" 1673,vs "size" 1674,vs "handed" 1675]
def Xds:Obj:=f0 (sT 83) "_law_limits_right" 0 0
def Bf:Obj:=cd "_law_limits_right" "_law_limits_right" 1657 713 5 3 919 true 920 vn (vr 921) (vr 922) (vr 923) 1676
def Gx:Obj:=f1 (sT 83) "_law_limits_right" 3 vn "law_sm0031_01" 1543 924 0
def Up:Obj:=tu []
def XbO:Obj:=fl vn []
def XeA:Obj:=f0 (sT 84) "_law_told_right" 0 0
def UT:Obj:=cd "_law_told_right" "_law_told_right" 1679 731 7 3 926 true 927 vn vn vn (vr 928) 1682
def G1:Obj:=f1 (sT 84) "_law_told_right" 3 vn "law_sm0031_01" 1543 929 0
def SI:Obj:=tu []
def Xbp:Obj:=fl vn []
def Xa4:Obj:=f0 (sT 85) "_law_cut_right" 0 0
def As:Obj:=cd "_law_cut_right" "_law_cut_right" 1685 745 7 3 931 true 932 vn vn vn (vr 933) 1688
def Be:Obj:=f1 (sT 85) "_law_cut_right" 3 vn "law_sm0031_01" 1543 934 0
def Pa:Obj:=tu []
def XdN:Obj:=fl vn []
def Xaw:Obj:=f0 (sT 86) "law" 0 0
def Vg:Obj:=cd "law" "law" 1691 759 1 3 936 true 937 vn vn vn (vr 938) 1694
def DZ:Obj:=f1 (sT 86) "law" 3 vn "law_sm0031_01" 1543 939 0
def S6:Obj:=fl vn []
def Q8 (P:Params):Obj:=di P [en "__name__" 165 (vs "gemrows.things" 194),en "__doc__" 166 vn,en "__package__" 167 vn,en "__loader__" 168 (vu "__main__.__loader__#opaque"),en "__spec__" 169 vn,en "__annotations__" 170 (vr 6),en "__builtins__" 171 (vr 4),en "__file__" 173 (vs "/claim/cut.py" 172),en "__cached__" 174 vn,en "_wall" 193 (vr 21),en "SIMPLE_ESCAPES" 229 (vr 22)] 11
def GP:Obj:=fl vn [vi 1 0,vi 0 0,vr 20]
def BL (P:Params):Obj:=di P [en "__name__" 165 (vs "gemrows.things" 194),en "__doc__" 166 vn,en "__package__" 167 vn,en "__loader__" 168 (vu "__main__.__loader__#opaque"),en "__spec__" 169 vn,en "__annotations__" 170 (vr 6),en "__builtins__" 171 (vr 4),en "__file__" 173 (vs "/claim/cut.py" 172),en "__cached__" 174 vn,en "_wall" 193 (vr 21),en "SIMPLE_ESCAPES" 229 (vr 22),en "OPERATORS" 257 (vr 23),en "GLOBAL_SIGNS" 259 (vs "!@~&`'+$?:\"/\\;,.<>_*" 258),en "DEEPEST_KEY" 261 (vi 12 260),en "MOST_SEEN" 263 (vi 20000 262),en "Thing" 298 (vr 40),en "Text" 326 (vr 62),en "ListThing" 353 (vr 82),en "TableThing" 405 (vr 120),en "RangeThing" 436 (vr 140),en "ProcThing" 479 (vr 161),en "ErrorThing" 507 (vr 181),en "FiberThing" 537 (vr 201)] 23
def uL:Obj:=fl vn [vi 1 0,vi 0 0,vr 20,vi 10 0,vi 0 0,vr 29,vi 19 0,vi 0 0,vr 50,vi 24 0,vi 0 0,vr 70,vi 29 0,vi 0 0,vr 90,vi 49 0,vi 0 0,vr 128,vi 56 0,vi 0 0,vr 148,vi 69 0,vi 0 0,vr 169,vi 75 0,vi 0 0,vr 189]
def uD:Obj:={cls:=(vt "type"),data:=.cls {name:="Thing",bases:=[vt "object"],mro:=[vr 40,vt "object"],ns:=39,qualname:="Thing",hasDict:=true,slotNames:=[],subclasses:=[vr 62,vr 82,vr 120,vr 140,vr 161,vr 181,vr 201],abstract:=false,collection:=none,hasDel:=false},slots:=(List.toArray [none,none,some (vs "Thing" 264),some (vs "Thing" 272),some (vu "object.__new__"),some (vb true)])}
def An (P:Params):Obj:=di P [en "__name__" 165 (vs "gemrows.world" 1013),en "__doc__" 166 vn,en "__package__" 167 vn,en "__loader__" 168 (vu "__main__.__loader__#opaque"),en "__spec__" 169 vn,en "__annotations__" 170 (vr 6),en "__builtins__" 171 (vr 4),en "__file__" 173 (vs "/claim/cut.py" 172),en "__cached__" 174 vn,en "_wall" 193 (vr 21),en "SIMPLE_ESCAPES" 229 (vr 22),en "OPERATORS" 257 (vr 23),en "GLOBAL_SIGNS" 259 (vs "!@~&`'+$?:\"/\\;,.<>_*" 258),en "DEEPEST_KEY" 261 (vi 12 260),en "MOST_SEEN" 263 (vi 20000 262),en "Thing" 298 (vr 40),en "Text" 326 (vr 62),en "ListThing" 353 (vr 82),en "TableThing" 405 (vr 120),en "RangeThing" 436 (vr 140),en "ProcThing" 479 (vr 161),en "ErrorThing" 507 (vr 181),en "FiberThing" 537 (vr 201),en "ModuleThing" 584 (vr 228),en "is_int" 591 (vr 237),en "sort_of" 598 (vr 244),en "same" 607 (vr 251),en "takes_in" 615 (vr 258),en "code_of" 621 (vr 264),en "is_word" 629 (vr 271),en "is_figures" 635 (vr 276),en "is_label" 642 (vr 283),en "is_plain_symbol" 649 (vr 290),en "full_name" 659 (vr 297),en "show_letter" 669 (vr 304),en "show_text" 675 (vr 309),en "show_symbol" 682 (vr 316),en "show_pair" 692 (vr 323),en "show_range" 703 (vr 330),en "show_held" 709 (vr 335),en "show_thing" 720 (vr 342),en "message_text" 732 (vr 350),en "show" 743 (vr 358),en "kind_word" 753 (vr 365),en "need_int" 761 (vr 372),en "need_open" 769 (vr 379),en "limits_of" 780 (vr 386),en "span_in" 792 (vr 393),en "place_of" 802 (vr 400),en "GemError" 832 (vr 418),en "Raised" 857 (vr 438),en "list_item" 869 (vr 447),en "list_at" 879 (vr 454),en "list_slice_out" 890 (vr 461),en "list_delete_at" 900 (vr 468),en "whole" 911 (vr 475),en "need_free" 921 (vr 482),en "span_of" 931 (vr 489),en "span_of_range" 944 (vr 496),en "span_for" 955 (vr 503),en "part" 965 (vr 510),en "take_part" 976 (vr 517),en "raise_version" 985 (vr 524),en "own_module" 995 (vr 531),en "class_above" 1002 (vr 538),en "make_own" 1012 (vr 545),en "MODULES" 1018 (vr 546)] 67
def wm:Obj:=fl vn [vi 1 0,vi 0 0,vr 20,vi 10 0,vi 0 0,vr 29,vi 19 0,vi 0 0,vr 50,vi 24 0,vi 0 0,vr 70,vi 29 0,vi 0 0,vr 90,vi 49 0,vi 0 0,vr 128,vi 56 0,vi 0 0,vr 148,vi 69 0,vi 0 0,vr 169,vi 75 0,vi 0 0,vr 189,vi 83 0,vi 0 0,vr 209,vi 101 0,vi 0 0,vr 236,vi 103 0,vi 0 0,vr 243,vi 111 0,vi 0 0,vr 250,vi 116 0,vi 0 0,vr 257,vi 121 0,vi 0 0,vr 263,vi 136 0,vi 0 0,vr 270,vi 143 0,vi 0 0,vr 275,vi 145 0,vi 0 0,vr 282,vi 147 0,vi 0 0,vr 289,vi 157 0,vi 0 0,vr 296,vi 172 0,vi 0 0,vr 303,vi 182 0,vi 0 0,vr 308,vi 185 0,vi 0 0,vr 315,vi 187 0,vi 0 0,vr 322,vi 191 0,vi 0 0,vr 329,vi 195 0,vi 0 0,vr 334,vi 205 0,vi 0 0,vr 341,vi 219 0,vi 0 0,vr 349,vi 230 0,vi 0 0,vr 357,vi 242 0,vi 0 0,vr 364,vi 248 0,vi 0 0,vr 371,vi 254 0,vi 0 0,vr 378,vi 257 0,vi 0 0,vr 385,vi 267 0,vi 0 0,vr 392,vi 278 0,vi 0 0,vr 399,vi 282 0,vi 0 0,vr 406,vi 287 0,vi 0 0,vr 427,vi 293 0,vi 0 0,vr 446,vi 296 0,vi 0 0,vr 453,vi 301 0,vi 0 0,vr 460,vi 311 0,vi 0 0,vr 467,vi 316 0,vi 0 0,vr 474,vi 324 0,vi 0 0,vr 481,vi 327 0,vi 0 0,vr 488,vi 332 0,vi 0 0,vr 495,vi 340 0,vi 0 0,vr 502,vi 350 0,vi 0 0,vr 509,vi 353 0,vi 0 0,vr 516,vi 362 0,vi 0 0,vr 523,vi 364 0,vi 0 0,vr 530,vi 376 0,vi 0 0,vr 537,vi 378 0,vi 0 0,vr 544]
def Ec (P:Params):Obj:=di P [en "__name__" 165 (vs "gemrows.world" 1013),en "__doc__" 166 vn,en "__package__" 167 vn,en "__loader__" 168 (vu "__main__.__loader__#opaque"),en "__spec__" 169 vn,en "__annotations__" 170 (vr 6),en "__builtins__" 171 (vr 4),en "__file__" 173 (vs "/claim/cut.py" 172),en "__cached__" 174 vn,en "_wall" 193 (vr 21),en "SIMPLE_ESCAPES" 229 (vr 22),en "OPERATORS" 257 (vr 23),en "GLOBAL_SIGNS" 259 (vs "!@~&`'+$?:\"/\\;,.<>_*" 258),en "DEEPEST_KEY" 261 (vi 12 260),en "MOST_SEEN" 263 (vi 20000 262),en "Thing" 298 (vr 40),en "Text" 326 (vr 62),en "ListThing" 353 (vr 82),en "TableThing" 405 (vr 120),en "RangeThing" 436 (vr 140),en "ProcThing" 479 (vr 161),en "ErrorThing" 507 (vr 181),en "FiberThing" 537 (vr 201),en "ModuleThing" 584 (vr 228),en "is_int" 591 (vr 237),en "sort_of" 598 (vr 244),en "same" 607 (vr 251),en "takes_in" 615 (vr 258),en "code_of" 621 (vr 264),en "is_word" 629 (vr 271),en "is_figures" 635 (vr 276),en "is_label" 642 (vr 283),en "is_plain_symbol" 649 (vr 290),en "full_name" 659 (vr 297),en "show_letter" 669 (vr 304),en "show_text" 675 (vr 309),en "show_symbol" 682 (vr 316),en "show_pair" 692 (vr 323),en "show_range" 703 (vr 330),en "show_held" 709 (vr 335),en "show_thing" 720 (vr 342),en "message_text" 732 (vr 350),en "show" 743 (vr 358),en "kind_word" 753 (vr 365),en "need_int" 761 (vr 372),en "need_open" 769 (vr 379),en "limits_of" 780 (vr 386),en "span_in" 792 (vr 393),en "place_of" 802 (vr 400),en "GemError" 832 (vr 418),en "Raised" 857 (vr 438),en "list_item" 869 (vr 447),en "list_at" 879 (vr 454),en "list_slice_out" 890 (vr 461),en "list_delete_at" 900 (vr 468),en "whole" 911 (vr 475),en "need_free" 921 (vr 482),en "span_of" 931 (vr 489),en "span_of_range" 944 (vr 496),en "span_for" 955 (vr 503),en "part" 965 (vr 510),en "take_part" 976 (vr 517),en "raise_version" 985 (vr 524),en "own_module" 995 (vr 531),en "class_above" 1002 (vr 538),en "make_own" 1012 (vr 545),en "MODULES" 1018 (vr 546),en "BUILTINS" 1135 (vr 547),en "MIXED" 1157 (vr 550)] 69
def wX:Obj:=fl vn [vi 1 0,vi 0 0,vr 20,vi 10 0,vi 0 0,vr 29,vi 19 0,vi 0 0,vr 50,vi 24 0,vi 0 0,vr 70,vi 29 0,vi 0 0,vr 90,vi 49 0,vi 0 0,vr 128,vi 56 0,vi 0 0,vr 148,vi 69 0,vi 0 0,vr 169,vi 75 0,vi 0 0,vr 189,vi 83 0,vi 0 0,vr 209,vi 101 0,vi 0 0,vr 236,vi 103 0,vi 0 0,vr 243,vi 111 0,vi 0 0,vr 250,vi 116 0,vi 0 0,vr 257,vi 121 0,vi 0 0,vr 263,vi 136 0,vi 0 0,vr 270,vi 143 0,vi 0 0,vr 275,vi 145 0,vi 0 0,vr 282,vi 147 0,vi 0 0,vr 289,vi 157 0,vi 0 0,vr 296,vi 172 0,vi 0 0,vr 303,vi 182 0,vi 0 0,vr 308,vi 185 0,vi 0 0,vr 315,vi 187 0,vi 0 0,vr 322,vi 191 0,vi 0 0,vr 329,vi 195 0,vi 0 0,vr 334,vi 205 0,vi 0 0,vr 341,vi 219 0,vi 0 0,vr 349,vi 230 0,vi 0 0,vr 357,vi 242 0,vi 0 0,vr 364,vi 248 0,vi 0 0,vr 371,vi 254 0,vi 0 0,vr 378,vi 257 0,vi 0 0,vr 385,vi 267 0,vi 0 0,vr 392,vi 278 0,vi 0 0,vr 399,vi 282 0,vi 0 0,vr 406,vi 287 0,vi 0 0,vr 427,vi 293 0,vi 0 0,vr 446,vi 296 0,vi 0 0,vr 453,vi 301 0,vi 0 0,vr 460,vi 311 0,vi 0 0,vr 467,vi 316 0,vi 0 0,vr 474,vi 324 0,vi 0 0,vr 481,vi 327 0,vi 0 0,vr 488,vi 332 0,vi 0 0,vr 495,vi 340 0,vi 0 0,vr 502,vi 350 0,vi 0 0,vr 509,vi 353 0,vi 0 0,vr 516,vi 362 0,vi 0 0,vr 523,vi 364 0,vi 0 0,vr 530,vi 376 0,vi 0 0,vr 537,vi 378 0,vi 0 0,vr 544]
def FC (P:Params):Obj:=di P [en "__name__" 165 (vs "gemrows.world" 1013),en "__doc__" 166 vn,en "__package__" 167 vn,en "__loader__" 168 (vu "__main__.__loader__#opaque"),en "__spec__" 169 vn,en "__annotations__" 170 (vr 6),en "__builtins__" 171 (vr 4),en "__file__" 173 (vs "/claim/cut.py" 172),en "__cached__" 174 vn,en "_wall" 193 (vr 21),en "SIMPLE_ESCAPES" 229 (vr 22),en "OPERATORS" 257 (vr 23),en "GLOBAL_SIGNS" 259 (vs "!@~&`'+$?:\"/\\;,.<>_*" 258),en "DEEPEST_KEY" 261 (vi 12 260),en "MOST_SEEN" 263 (vi 20000 262),en "Thing" 298 (vr 40),en "Text" 326 (vr 62),en "ListThing" 353 (vr 82),en "TableThing" 405 (vr 120),en "RangeThing" 436 (vr 140),en "ProcThing" 479 (vr 161),en "ErrorThing" 507 (vr 181),en "FiberThing" 537 (vr 201),en "ModuleThing" 584 (vr 228),en "is_int" 591 (vr 237),en "sort_of" 598 (vr 244),en "same" 607 (vr 251),en "takes_in" 615 (vr 258),en "code_of" 621 (vr 264),en "is_word" 629 (vr 271),en "is_figures" 635 (vr 276),en "is_label" 642 (vr 283),en "is_plain_symbol" 649 (vr 290),en "full_name" 659 (vr 297),en "show_letter" 669 (vr 304),en "show_text" 675 (vr 309),en "show_symbol" 682 (vr 316),en "show_pair" 692 (vr 323),en "show_range" 703 (vr 330),en "show_held" 709 (vr 335),en "show_thing" 720 (vr 342),en "message_text" 732 (vr 350),en "show" 743 (vr 358),en "kind_word" 753 (vr 365),en "need_int" 761 (vr 372),en "need_open" 769 (vr 379),en "limits_of" 780 (vr 386),en "span_in" 792 (vr 393),en "place_of" 802 (vr 400),en "GemError" 832 (vr 418),en "Raised" 857 (vr 438),en "list_item" 869 (vr 447),en "list_at" 879 (vr 454),en "list_slice_out" 890 (vr 461),en "list_delete_at" 900 (vr 468),en "whole" 911 (vr 475),en "need_free" 921 (vr 482),en "span_of" 931 (vr 489),en "span_of_range" 944 (vr 496),en "span_for" 955 (vr 503),en "part" 965 (vr 510),en "take_part" 976 (vr 517),en "raise_version" 985 (vr 524),en "own_module" 995 (vr 531),en "class_above" 1002 (vr 538),en "make_own" 1012 (vr 545),en "MODULES" 1018 (vr 546),en "BUILTINS" 1135 (vr 547),en "MIXED" 1157 (vr 550),en "UNMADE" 1163 (vr 558),en "World" 1542 (vr 834)] 71
def xc:Obj:=fl vn [vi 1 0,vi 0 0,vr 20,vi 10 0,vi 0 0,vr 29,vi 19 0,vi 0 0,vr 50,vi 24 0,vi 0 0,vr 70,vi 29 0,vi 0 0,vr 90,vi 49 0,vi 0 0,vr 128,vi 56 0,vi 0 0,vr 148,vi 69 0,vi 0 0,vr 169,vi 75 0,vi 0 0,vr 189,vi 83 0,vi 0 0,vr 209,vi 101 0,vi 0 0,vr 236,vi 103 0,vi 0 0,vr 243,vi 111 0,vi 0 0,vr 250,vi 116 0,vi 0 0,vr 257,vi 121 0,vi 0 0,vr 263,vi 136 0,vi 0 0,vr 270,vi 143 0,vi 0 0,vr 275,vi 145 0,vi 0 0,vr 282,vi 147 0,vi 0 0,vr 289,vi 157 0,vi 0 0,vr 296,vi 172 0,vi 0 0,vr 303,vi 182 0,vi 0 0,vr 308,vi 185 0,vi 0 0,vr 315,vi 187 0,vi 0 0,vr 322,vi 191 0,vi 0 0,vr 329,vi 195 0,vi 0 0,vr 334,vi 205 0,vi 0 0,vr 341,vi 219 0,vi 0 0,vr 349,vi 230 0,vi 0 0,vr 357,vi 242 0,vi 0 0,vr 364,vi 248 0,vi 0 0,vr 371,vi 254 0,vi 0 0,vr 378,vi 257 0,vi 0 0,vr 385,vi 267 0,vi 0 0,vr 392,vi 278 0,vi 0 0,vr 399,vi 282 0,vi 0 0,vr 406,vi 287 0,vi 0 0,vr 427,vi 293 0,vi 0 0,vr 446,vi 296 0,vi 0 0,vr 453,vi 301 0,vi 0 0,vr 460,vi 311 0,vi 0 0,vr 467,vi 316 0,vi 0 0,vr 474,vi 324 0,vi 0 0,vr 481,vi 327 0,vi 0 0,vr 488,vi 332 0,vi 0 0,vr 495,vi 340 0,vi 0 0,vr 502,vi 350 0,vi 0 0,vr 509,vi 353 0,vi 0 0,vr 516,vi 362 0,vi 0 0,vr 523,vi 364 0,vi 0 0,vr 530,vi 376 0,vi 0 0,vr 537,vi 378 0,vi 0 0,vr 544,vi 390 0,vi 0 0,vr 564]
def z0 (P:Params) (r:List Obj):List Obj:=o0 P::o1 P::o2 P::r
def z4 (P:Params) (r:List Obj):List Obj:=o4 P::o5 P::o6 P::o7 P::o8 P::o9 P::o10 P::o11::r
def CV (P:Params) (r:List Obj):List Obj:=o13::o14::r
def Hp (P:Params) (r:List Obj):List Obj:=o15::o16::o17::o18::o19::o20::o21::o22 P::r
def M6 (P:Params) (r:List Obj):List Obj:=o23::o24::o25::o26 P::o27::o28::o29::o30::o31::o32::o33::o34::o35::o36::o37::o38::o39 P::r
def Ig (P:Params) (r:List Obj):List Obj:=o41::o42::o43::o44::o45::o46::o47 P::o48::o49::o50::o51::o52::o53::o54::o55::o56::o57::o58::o59::o60::o61 P::o62::o63::o64::o65::o66::o67 P::o68::o69::o70::o71::o72::o73::o74::o75::o76::o77::o78::o79::o80::o81 P::o82::o83::o84::o85::o86::o87 P::o88::o89::o90::o91::o92::o93::o94::o95::o96::o97::o98::o99::Xen::KU::J8::Xb9::IT::Cq::Qu::Xcj::NL::So::Xae::Re::MM::KQ::XaT::Xd0::Kz::Uu::TM::Rb P::Rj::XaB::XeM::IX::Xac::Wi P::XcW::XaA::XbX::XfB::Sp::Se::Wq::KG::K3::Xb5::Uz::E8::QH::Oh P::MS::Xa1::Wm::Ln::Xat::Xca P::Xb6::Xcf::XeZ::XcO::Iw::Q1::RC::XdV::Pi::PL::XeT::Jk::TI::TS::KY P::VV::Xa9::Wg::Jn::WH::Xbf P::Xc9::XcV::XcK::Xfx::KS::Ju::Xdo::J0::Pu::Xb7::TC::Ch::HS::Jy P::NY::Xdu::Xcv::IP::Xa2::Xb4 P::XbU::WJ::WK::Xdy::Tm::P7::Xby::Ji::Sb::XbL::LT::Tc::Uk::HO P::Qe::XdC::XfK::r
def xw (P:Params) (r:List Obj):List Obj:=Rp::Xbb::XaK P::XaM::Xd9::XbZ::Xdr::Mi::NU::Xer::Mu::P9::XcH::Oy::xu::Nv::Xdk::Ly::M8::Xd5::JC::Fh::Lm::TY P::Nt::XdW::WQ::Um::Xef::Oi::KT::XcF::U9::Aj::Km::Xc2::NE::J6::Xc4::Q4::AJ::M4::Xc8::JH::I2::Xcm::J9::E0::Ub::Xfr::NF::N8::WD::NJ::Mb::M7::NA::XeW::XdD::R0::zU::QQ::Xdd::Kd::Nb::Xal::Ro::U8::To::XdQ::Xbc::UA::KJ::Kq::XfD::SC::U2::Xfg::HN::UV::Tz::Xbz::PA::LD::Xex::ND::HX::Rs::XaY::KM::JO::Xbl::JM::AO::Qd::Ww::RB::Qk::XaF::Ud::Ie::Ma::XdU::Xcq::O3::JS::Vq::XeE::UC::OR::Xfd::Ku::NG::U6::Xe9::Sk::RI::XcX::S3::PM::S8::XbB::Ip::IH::Xe6::M1::LC::UW::Xfj::XaD::J5::Pm::No::XdS::Od::VU::XeB::O1::Lf::Rk::Iy::Xcc::OW::TF::Xff::Qw::I8::L9::Ut::XdO::J2::L5::XcZ::Rd::E7::Ol::XaV::IU::P8::XeR::VR::EO::LL::XcM::Lx::LY::XfJ::Vr::CH::Rr::Wl::Pv::Vy::XfM::SK::GY::Kg::Wx::UD::L7::Xea::K5::C9::QA::Xbh::Oa::PU::Xee::Lk::AG::LG::Xb2::Iv::I0::Xdw::PN::z9::P6::XfO::Wr P::Xce::XeK::XaE::XfP::MU::QW::WI::LK::Lq::XbY::Vt::Cb::Vo::I7 P::Vc::U5::Xc3::Xax::Ki::XaU::Xcn P::XeL::WL::Xck::XbS::Kr::Xaa::SM::Ow::Xbv::Pr::A5::OA::KD P::RZ::Xd2::Xez::Of::XdG::Lh::VI::Xbo::KB::Ca::IO::Xcb::H9::Ic::XaP::MW::By::T4::Xd8::IN::K9::Xd1::OJ::Az::Jb::XbH::Jt::QU::Xey::MC::Eb::MD::XdE::IB::Oc::Xdc::Pd::BK::LJ::Xe0::Ld::LW::Xa0::KH::F3::Ve::Xdf::Oj::Sh::Xbj::OT::DP::SS::Xfi::Mh::O7::Xcd::Tf::Da::RY::Xfh::JW::R4::Xc0::Q9::BI::UF::Xan::On::Np::Xbg::J4::Av::Ni::XbW::Jc::SZ::Xbt::Uy::DH::TA::XeY::Mj::O5::Xeh::T7::MP::MB::XeC::PO::TL::Xfq::OM::K8::UU::XbA::TX::QK::XcU::Sf::Ps::Ur::Xai::Ua::K7::XcL::Qn::MQ::Qq::r
def CP (P:Params) (r:List Obj):List Obj:=U7 P::Xb1 P::Xco P::OZ P::Va::Pe::OP::JU::Ov::Lc::Tx::r
def Qa (P:Params) (r:List Obj):List Obj:=T9::XdM::Xej::XaI P::XdI::XfE::Xc7::Xcs::MZ::JR::Xfz::R8::R9::XcG::VA::D4::NB::XcD::H7::Nq::XbN::Rc::QY::VP::Xfe::JP::TG::Xb8::K4::Nm::Ue::Xe8::Ng::Io::Xbd::SL::FN::PK::Xe7::IG::PV::Xem::PX::Uf::JY::XcR::Tw::UI::XaZ::JV::Q0::NQ::Xet::RM::Lb::Xeu::Uh::Ft::Jd::Xc6::Xay::IQ::AB::QO::Xab::JD::Nl::XaS::VD::EA::Sc::M2::Xel::Ql::LI::Xfn::VX::Hb::HP::XbF::MR::Ui::WB::Td::FE::NM::Wz::JT::K6::XbT::Pt::OV::VH::XaC::RH::L8::Xfa::VW::Kt::Vi::Xev::Ll::UE::Xbx::Rn::De::N6::Wy::Kn::S9::XbG::Jr::PW::IJ::XbD::ML::J3::Xa8::IL::BJ::Ls::XdR::TQ::VT::XcQ::Ts::Gq::UP::Xe4::Tr::Ul::Xep::HI::Bm::Op::Xd4::Jo::LO::Xdt::Q2::Gh::Ky::Xct::PG::I9::Xar::Mr::BE::OQ::XbP::NH::Om::XfH::RN::Rz::QR::Xch::PT::VE::XdT::L6::Bt::OU::Xd3::Qh::MK::Xcp::N0::KP::Kf::Xaf::JE::KN::XbI::TN::HU::SY::XfC::SX::RE::Xdn::Nd::I6::Jq::Xew::Lo::Un::XfF::Ja::Pq::TU::Xa3::Kh::UB::XeD::HM::J7::T8::Xdh::R6::Mw::XcY::R3::Dp::T0::Xb0::Ta::Vx::XdX::Pp::zW::Kl::WG::J1::PE::Xam::Qr::Vb::Ob::Xbk::NV::VN::XdJ::Vp::U4::Sn::XeO::Te::Sr::XdH::R7::Ox::P2::WS::VJ::Ss::Xeg::R5::Sa::Nn::WP::U0::NT::WM::N9::Vk::K0::Xb3::LP::Kk::XfI::Oq::M0::Lz::Xau::Ko::VO::Xag::LH::HL::TP::XaQ::Uq::Ij::WN::Tk::Kj::PQ::Xfl::SQ::RW::Xba::OF::S4::O4::UX P::Mf::TT::H0::XaL::Xeb::r
def XeN (P:Params) (r:List Obj):List Obj:=Ot::Xdg::PF::LZ::XcE::Kc::EG::Rl::XcB::HQ::SB::Xa5::NW::CG::I4::Xfs::RS::JI::Xc1::Jz::B7::Rq::XcA::Pf::RA::Xbi::Mx::Cj::Lr::XbQ::Xc5::Rf::AF::I3::Xfk::TK::Q7::Xd6::Sy::BD::N2::XdB::Rx::T6::XdL::KI::Bg::Lu::XbV::VK::MO::XaW::TO::D6::Qj::Xaj::Na::PY::Xap::US::Fy::RR::XcC::M5::Q5::Wu::QI::C6::RL::Xdl::Xdm::HT::FP::JZ::Xas::JF::QG::Xfm::IS::GC::OS::XeS::Oe::Tn::Xds::Bf::Gx::Up::XbO::XeA::UT::G1::SI::Xbp::Xa4::As::Be::Pa::XdN::Xaw::Vg::DZ::r
def l_b (P:Params):List Obj:=z0 P (boot_o_3 P::z4 P (S6::CV P ([])))
def XdA (P:Params):List Obj:=z0 P (Q8 P::z4 P (GP::CV P (Hp P ([]))))
def Lw (P:Params):List Obj:=z0 P (BL P::z4 P (uL::CV P (Hp P (M6 P (uD::Ig P ([]))))))
def Il (P:Params):List Obj:=z0 P (An P::z4 P (wm::CV P (Hp P (M6 P (Qt::Ig P (xw P ([])))))))
def KF (P:Params):List Obj:=z0 P (Ec P::z4 P (wX::CV P (Hp P (M6 P (Qt::Ig P (xw P (CP P ([]))))))))
def Ix (P:Params):List Obj:=z0 P (FC P::z4 P (xc::CV P (Hp P (M6 P (Qt::Ig P (xw P (CP P (Qa P ([])))))))))
def l_e (P:Params):List Obj:=z0 P (o3 P::z4 P (o12::CV P (Hp P (M6 P (Qt::Ig P (xw P (CP P (Qa P (XeN P ([]))))))))))
def l_f (P:Params):List Obj:=l_e P
end
noncomputable def HK (P:Params):Frag:=(nat_lit 2,o2 P)::(nat_lit 3,o3 P)::(nat_lit 15,o15)::(nat_lit 17,o17)::(nat_lit 18,o18)::(nat_lit 20,o20)::(nat_lit 21,o21)::(nat_lit 22,o22 P)::(nat_lit 23,o23)::(nat_lit 31,o31)::(nat_lit 33,o33)::(nat_lit 34,o34)::(nat_lit 36,o36)::(nat_lit 37,o37)::(nat_lit 38,o38)::(nat_lit 39,o39 P)::(nat_lit 40,Qt)::(nat_lit 41,o41)::(nat_lit 42,o42)::(nat_lit 45,o45)::(nat_lit 52,o52)::(nat_lit 53,o53)::(nat_lit 55,o55)::(nat_lit 56,o56)::(nat_lit 58,o58)::(nat_lit 59,o59)::(nat_lit 60,o60)::(nat_lit 61,o61 P)::(nat_lit 62,o62)::(nat_lit 65,o65)::(nat_lit 72,o72)::(nat_lit 73,o73)::(nat_lit 75,o75)::(nat_lit 76,o76)::(nat_lit 78,o78)::(nat_lit 79,o79)::(nat_lit 80,o80)::(nat_lit 81,o81 P)::(nat_lit 82,o82)::(nat_lit 85,o85)::(nat_lit 92,o92)::(nat_lit 94,o94)::(nat_lit 95,o95)::(nat_lit 97,o97)::(nat_lit 98,o98)::(nat_lit 99,o99)::(nat_lit 101,KU)::(nat_lit 102,J8)::(nat_lit 104,IT)::(nat_lit 105,Cq)::(nat_lit 106,Qu)::(nat_lit 108,NL)::(nat_lit 109,So)::(nat_lit 111,Re)::(nat_lit 112,MM)::(nat_lit 113,KQ)::(nat_lit 116,Kz)::(nat_lit 117,Uu)::(nat_lit 118,TM)::(nat_lit 119,Rb P)::(nat_lit 120,Rj)::(nat_lit 123,IX)::(nat_lit 130,Sp)::(nat_lit 131,Se)::(nat_lit 133,KG)::(nat_lit 134,K3)::(nat_lit 136,Uz)::(nat_lit 137,E8)::(nat_lit 138,QH)::(nat_lit 139,Oh P)::(nat_lit 140,MS)::(nat_lit 143,Ln)::(nat_lit 150,Iw)::(nat_lit 151,Q1)::(nat_lit 152,RC)::(nat_lit 154,Pi)::(nat_lit 155,PL)::(nat_lit 157,Jk)::(nat_lit 158,TI)::(nat_lit 159,TS)::(nat_lit 160,KY P)::(nat_lit 161,VV)::(nat_lit 164,Jn)::(nat_lit 171,KS)::(nat_lit 172,Ju)::(nat_lit 174,J0)::(nat_lit 175,Pu)::(nat_lit 177,TC)::(nat_lit 178,Ch)::(nat_lit 179,HS)::(nat_lit 180,Jy P)::(nat_lit 181,NY)::(nat_lit 184,IP)::(nat_lit 191,Tm)::(nat_lit 192,P7)::(nat_lit 194,Ji)::(nat_lit 195,Sb)::(nat_lit 197,LT)::(nat_lit 198,Tc)::(nat_lit 199,Uk)::(nat_lit 200,HO P)::(nat_lit 201,Qe)::(nat_lit 204,Rp)::(nat_lit 211,Mi)::(nat_lit 212,NU)::(nat_lit 214,Mu)::(nat_lit 215,P9)::(nat_lit 217,Oy)::(nat_lit 218,xu)::(nat_lit 219,Nv)::(nat_lit 221,Ly)::(nat_lit 222,M8)::(nat_lit 224,JC)::(nat_lit 225,Fh)::(nat_lit 226,Lm)::(nat_lit 227,TY P)::(nat_lit 228,Nt)::(nat_lit 231,Um)::(nat_lit 233,Oi)::(nat_lit 234,KT)::(nat_lit 236,U9)::(nat_lit 237,Aj)::(nat_lit 238,Km)::(nat_lit 240,NE)::(nat_lit 241,J6)::(nat_lit 243,Q4)::(nat_lit 244,AJ)::(nat_lit 245,M4)::(nat_lit 247,JH)::(nat_lit 248,I2)::(nat_lit 250,J9)::(nat_lit 251,E0)::(nat_lit 252,Ub)::(nat_lit 254,NF)::(nat_lit 255,N8)::(nat_lit 257,NJ)::(nat_lit 258,Mb)::(nat_lit 259,M7)::(nat_lit 260,NA)::(nat_lit 263,R0)::(nat_lit 264,zU)::(nat_lit 265,QQ)::(nat_lit 267,Kd)::(nat_lit 268,Nb)::(nat_lit 270,Ro)::(nat_lit 271,U8)::(nat_lit 272,To)::(nat_lit 275,UA)::(nat_lit 276,KJ)::(nat_lit 277,Kq)::(nat_lit 279,SC)::(nat_lit 280,U2)::(nat_lit 282,HN)::(nat_lit 283,UV)::(nat_lit 284,Tz)::(nat_lit 286,PA)::(nat_lit 287,LD)::(nat_lit 289,ND)::(nat_lit 290,HX)::(nat_lit 291,Rs)::(nat_lit 293,KM)::(nat_lit 294,JO)::(nat_lit 296,JM)::(nat_lit 297,AO)::(nat_lit 298,Qd)::(nat_lit 300,RB)::(nat_lit 301,Qk)::(nat_lit 303,Ud)::(nat_lit 304,Ie)::(nat_lit 305,Ma)::(nat_lit 308,O3)::(nat_lit 309,JS)::(nat_lit 310,Vq)::(nat_lit 312,UC)::(nat_lit 313,OR)::(nat_lit 315,Ku)::(nat_lit 316,NG)::(nat_lit 317,U6)::(nat_lit 319,Sk)::(nat_lit 320,RI)::(nat_lit 322,S3)::(nat_lit 323,PM)::(nat_lit 324,S8)::(nat_lit 326,Ip)::(nat_lit 327,IH)::(nat_lit 329,M1)::(nat_lit 330,LC)::(nat_lit 331,UW)::(nat_lit 334,J5)::(nat_lit 335,Pm)::(nat_lit 336,No)::(nat_lit 338,Od)::(nat_lit 339,VU)::(nat_lit 341,O1)::(nat_lit 342,Lf)::(nat_lit 343,Rk)::(nat_lit 344,Iy)::(nat_lit 346,OW)::(nat_lit 347,TF)::(nat_lit 349,Qw)::(nat_lit 350,I8)::(nat_lit 351,L9)::(nat_lit 352,Ut)::(nat_lit 354,J2)::(nat_lit 355,L5)::(nat_lit 357,Rd)::(nat_lit 358,E7)::(nat_lit 359,Ol)::(nat_lit 361,IU)::(nat_lit 362,P8)::(nat_lit 364,VR)::(nat_lit 365,EO)::(nat_lit 366,LL)::(nat_lit 368,Lx)::(nat_lit 369,LY)::(nat_lit 371,Vr)::(nat_lit 372,CH)::(nat_lit 373,Rr)::(nat_lit 375,Pv)::(nat_lit 376,Vy)::(nat_lit 378,SK)::(nat_lit 379,GY)::(nat_lit 380,Kg)::(nat_lit 382,UD)::(nat_lit 383,L7)::(nat_lit 385,K5)::(nat_lit 386,C9)::(nat_lit 387,QA)::(nat_lit 389,Oa)::(nat_lit 390,PU)::(nat_lit 392,Lk)::(nat_lit 393,AG)::(nat_lit 394,LG)::(nat_lit 396,Iv)::(nat_lit 397,I0)::(nat_lit 399,PN)::(nat_lit 400,z9)::(nat_lit 401,P6)::(nat_lit 408,MU)::(nat_lit 409,QW)::(nat_lit 411,LK)::(nat_lit 412,Lq)::(nat_lit 414,Vt)::(nat_lit 415,Cb)::(nat_lit 416,Vo)::(nat_lit 417,I7 P)::(nat_lit 418,Vc)::(nat_lit 419,U5)::(nat_lit 422,Ki)::(nat_lit 429,Kr)::(nat_lit 431,SM)::(nat_lit 432,Ow)::(nat_lit 434,Pr)::(nat_lit 435,A5)::(nat_lit 436,OA)::(nat_lit 437,KD P)::(nat_lit 438,RZ)::(nat_lit 441,Of)::(nat_lit 443,Lh)::(nat_lit 444,VI)::(nat_lit 446,KB)::(nat_lit 447,Ca)::(nat_lit 448,IO)::(nat_lit 450,H9)::(nat_lit 451,Ic)::(nat_lit 453,MW)::(nat_lit 454,By)::(nat_lit 455,T4)::(nat_lit 457,IN)::(nat_lit 458,K9)::(nat_lit 460,OJ)::(nat_lit 461,Az)::(nat_lit 462,Jb)::(nat_lit 464,Jt)::(nat_lit 465,QU)::(nat_lit 467,MC)::(nat_lit 468,Eb)::(nat_lit 469,MD)::(nat_lit 471,IB)::(nat_lit 472,Oc)::(nat_lit 474,Pd)::(nat_lit 475,BK)::(nat_lit 476,LJ)::(nat_lit 478,Ld)::(nat_lit 479,LW)::(nat_lit 481,KH)::(nat_lit 482,F3)::(nat_lit 483,Ve)::(nat_lit 485,Oj)::(nat_lit 486,Sh)::(nat_lit 488,OT)::(nat_lit 489,DP)::(nat_lit 490,SS)::(nat_lit 492,Mh)::(nat_lit 493,O7)::(nat_lit 495,Tf)::(nat_lit 496,Da)::(nat_lit 497,RY)::(nat_lit 499,JW)::(nat_lit 500,R4)::(nat_lit 502,Q9)::(nat_lit 503,BI)::(nat_lit 504,UF)::(nat_lit 506,On)::(nat_lit 507,Np)::(nat_lit 509,J4)::(nat_lit 510,Av)::(nat_lit 511,Ni)::(nat_lit 513,Jc)::(nat_lit 514,SZ)::(nat_lit 516,Uy)::(nat_lit 517,DH)::(nat_lit 518,TA)::(nat_lit 520,Mj)::(nat_lit 521,O5)::(nat_lit 523,T7)::(nat_lit 524,MP)::(nat_lit 525,MB)::(nat_lit 527,PO)::(nat_lit 528,TL)::(nat_lit 530,OM)::(nat_lit 531,K8)::(nat_lit 532,UU)::(nat_lit 534,TX)::(nat_lit 535,QK)::(nat_lit 537,Sf)::(nat_lit 538,Ps)::(nat_lit 539,Ur)::(nat_lit 541,Ua)::(nat_lit 542,K7)::(nat_lit 544,Qn)::(nat_lit 545,MQ)::(nat_lit 546,Qq)::(nat_lit 547,U7 P)::(nat_lit 550,OZ P)::(nat_lit 551,Va)::(nat_lit 552,Pe)::(nat_lit 553,OP)::(nat_lit 554,JU)::(nat_lit 555,Ov)::(nat_lit 556,Lc)::(nat_lit 557,Tx)::(nat_lit 558,T9)::(nat_lit 566,MZ)::(nat_lit 567,JR)::(nat_lit 569,R8)::(nat_lit 570,R9)::(nat_lit 572,VA)::(nat_lit 573,D4)::(nat_lit 574,NB)::(nat_lit 576,H7)::(nat_lit 577,Nq)::(nat_lit 579,Rc)::(nat_lit 580,QY)::(nat_lit 581,VP)::(nat_lit 583,JP)::(nat_lit 584,TG)::(nat_lit 586,K4)::(nat_lit 587,Nm)::(nat_lit 588,Ue)::(nat_lit 590,Ng)::(nat_lit 591,Io)::(nat_lit 593,SL)::(nat_lit 594,FN)::(nat_lit 595,PK)::(nat_lit 597,IG)::(nat_lit 598,PV)::(nat_lit 600,PX)::(nat_lit 601,Uf)::(nat_lit 602,JY)::(nat_lit 604,Tw)::(nat_lit 605,UI)::(nat_lit 607,JV)::(nat_lit 608,Q0)::(nat_lit 609,NQ)::(nat_lit 611,RM)::(nat_lit 612,Lb)::(nat_lit 614,Uh)::(nat_lit 615,Ft)::(nat_lit 616,Jd)::(nat_lit 619,IQ)::(nat_lit 620,AB)::(nat_lit 621,QO)::(nat_lit 623,JD)::(nat_lit 624,Nl)::(nat_lit 626,VD)::(nat_lit 627,EA)::(nat_lit 628,Sc)::(nat_lit 629,M2)::(nat_lit 631,Ql)::(nat_lit 632,LI)::(nat_lit 634,VX)::(nat_lit 635,Hb)::(nat_lit 636,HP)::(nat_lit 638,MR)::(nat_lit 639,Ui)::(nat_lit 641,Td)::(nat_lit 642,FE)::(nat_lit 643,NM)::(nat_lit 645,JT)::(nat_lit 646,K6)::(nat_lit 648,Pt)::(nat_lit 649,OV)::(nat_lit 650,VH)::(nat_lit 652,RH)::(nat_lit 653,L8)::(nat_lit 655,VW)::(nat_lit 656,Kt)::(nat_lit 657,Vi)::(nat_lit 659,Ll)::(nat_lit 660,UE)::(nat_lit 662,Rn)::(nat_lit 663,De)::(nat_lit 664,N6)::(nat_lit 666,Kn)::(nat_lit 667,S9)::(nat_lit 669,Jr)::(nat_lit 670,PW)::(nat_lit 671,IJ)::(nat_lit 673,ML)::(nat_lit 674,J3)::(nat_lit 676,IL)::(nat_lit 677,BJ)::(nat_lit 678,Ls)::(nat_lit 680,TQ)::(nat_lit 681,VT)::(nat_lit 683,Ts)::(nat_lit 684,Gq)::(nat_lit 685,UP)::(nat_lit 687,Tr)::(nat_lit 688,Ul)::(nat_lit 690,HI)::(nat_lit 691,Bm)::(nat_lit 692,Op)::(nat_lit 694,Jo)::(nat_lit 695,LO)::(nat_lit 697,Q2)::(nat_lit 698,Gh)::(nat_lit 699,Ky)::(nat_lit 701,PG)::(nat_lit 702,I9)::(nat_lit 704,Mr)::(nat_lit 705,BE)::(nat_lit 706,OQ)::(nat_lit 708,NH)::(nat_lit 709,Om)::(nat_lit 711,RN)::(nat_lit 712,Rz)::(nat_lit 713,QR)::(nat_lit 715,PT)::(nat_lit 716,VE)::(nat_lit 718,L6)::(nat_lit 719,Bt)::(nat_lit 720,OU)::(nat_lit 722,Qh)::(nat_lit 723,MK)::(nat_lit 725,N0)::(nat_lit 726,KP)::(nat_lit 727,Kf)::(nat_lit 729,JE)::(nat_lit 730,KN)::(nat_lit 732,TN)::(nat_lit 733,HU)::(nat_lit 734,SY)::(nat_lit 736,SX)::(nat_lit 737,RE)::(nat_lit 739,Nd)::(nat_lit 740,I6)::(nat_lit 741,Jq)::(nat_lit 743,Lo)::(nat_lit 744,Un)::(nat_lit 746,Ja)::(nat_lit 747,Pq)::(nat_lit 748,TU)::(nat_lit 750,Kh)::(nat_lit 751,UB)::(nat_lit 753,HM)::(nat_lit 754,J7)::(nat_lit 755,T8)::(nat_lit 757,R6)::(nat_lit 758,Mw)::(nat_lit 760,R3)::(nat_lit 761,Dp)::(nat_lit 762,T0)::(nat_lit 764,Ta)::(nat_lit 765,Vx)::(nat_lit 767,Pp)::(nat_lit 768,zW)::(nat_lit 769,Kl)::(nat_lit 771,J1)::(nat_lit 772,PE)::(nat_lit 774,Qr)::(nat_lit 775,Vb)::(nat_lit 776,Ob)::(nat_lit 778,NV)::(nat_lit 779,VN)::(nat_lit 781,Vp)::(nat_lit 782,U4)::(nat_lit 783,Sn)::(nat_lit 785,Te)::(nat_lit 786,Sr)::(nat_lit 788,R7)::(nat_lit 789,Ox)::(nat_lit 790,P2)::(nat_lit 792,VJ)::(nat_lit 793,Ss)::(nat_lit 795,R5)::(nat_lit 796,Sa)::(nat_lit 797,Nn)::(nat_lit 799,U0)::(nat_lit 800,NT)::(nat_lit 802,N9)::(nat_lit 803,Vk)::(nat_lit 804,K0)::(nat_lit 806,LP)::(nat_lit 807,Kk)::(nat_lit 809,Oq)::(nat_lit 810,M0)::(nat_lit 811,Lz)::(nat_lit 813,Ko)::(nat_lit 814,VO)::(nat_lit 816,LH)::(nat_lit 817,HL)::(nat_lit 818,TP)::(nat_lit 820,Uq)::(nat_lit 821,Ij)::(nat_lit 823,Tk)::(nat_lit 824,Kj)::(nat_lit 825,PQ)::(nat_lit 827,SQ)::(nat_lit 828,RW)::(nat_lit 830,OF)::(nat_lit 831,S4)::(nat_lit 832,O4)::(nat_lit 833,UX P)::(nat_lit 834,Mf)::(nat_lit 835,TT)::(nat_lit 836,H0)::(nat_lit 839,Ot)::(nat_lit 841,PF)::(nat_lit 842,LZ)::(nat_lit 844,Kc)::(nat_lit 845,EG)::(nat_lit 846,Rl)::(nat_lit 848,HQ)::(nat_lit 849,SB)::(nat_lit 851,NW)::(nat_lit 852,CG)::(nat_lit 853,I4)::(nat_lit 855,RS)::(nat_lit 856,JI)::(nat_lit 858,Jz)::(nat_lit 859,B7)::(nat_lit 860,Rq)::(nat_lit 862,Pf)::(nat_lit 863,RA)::(nat_lit 865,Mx)::(nat_lit 866,Cj)::(nat_lit 867,Lr)::(nat_lit 870,Rf)::(nat_lit 871,AF)::(nat_lit 872,I3)::(nat_lit 874,TK)::(nat_lit 875,Q7)::(nat_lit 877,Sy)::(nat_lit 878,BD)::(nat_lit 879,N2)::(nat_lit 881,Rx)::(nat_lit 882,T6)::(nat_lit 884,KI)::(nat_lit 885,Bg)::(nat_lit 886,Lu)::(nat_lit 888,VK)::(nat_lit 889,MO)::(nat_lit 891,TO)::(nat_lit 892,D6)::(nat_lit 893,Qj)::(nat_lit 895,Na)::(nat_lit 896,PY)::(nat_lit 898,US)::(nat_lit 899,Fy)::(nat_lit 900,RR)::(nat_lit 902,M5)::(nat_lit 903,Q5)::(nat_lit 905,QI)::(nat_lit 906,C6)::(nat_lit 907,RL)::(nat_lit 910,HT)::(nat_lit 911,FP)::(nat_lit 912,JZ)::(nat_lit 914,JF)::(nat_lit 915,QG)::(nat_lit 917,IS)::(nat_lit 918,GC)::(nat_lit 919,OS)::(nat_lit 921,Oe)::(nat_lit 922,Tn)::(nat_lit 924,Bf)::(nat_lit 925,Gx)::(nat_lit 926,Up)::(nat_lit 929,UT)::(nat_lit 930,G1)::(nat_lit 931,SI)::(nat_lit 934,As)::(nat_lit 935,Be)::(nat_lit 936,Pa)::(nat_lit 939,Vg)::(nat_lit 940,DZ)::[]
noncomputable def as:List Addr:=[2,3,15,17,18,20,21,22,23,31,33,34,36,37,38,39,40,41,42,45,52,53,55,56,58,59,60,61,62,65,72,73,75,76,78,79,80,81,82,85,92,94,95,97,98,99,101,102,104,105,106,108,109,111,112,113,116,117,118,119,120,123,130,131,133,134,136,137,138,139,140,143,150,151,152,154,155,157,158,159,160,161,164,171,172,174,175,177,178,179,180,181,184,191,192,194,195,197,198,199,200,201,204,211,212,214,215,217,218,219,221,222,224,225,226,227,228,231,233,234,236,237,238,240,241,243,244,245,247,248,250,251,252,254,255,257,258,259,260,263,264,265,267,268,270,271,272,275,276,277,279,280,282,283,284,286,287,289,290,291,293,294,296,297,298,300,301,303,304,305,308,309,310,312,313,315,316,317,319,320,322,323,324,326,327,329,330,331,334,335,336,338,339,341,342,343,344,346,347,349,350,351,352,354,355,357,358,359,361,362,364,365,366,368,369,371,372,373,375,376,378,379,380,382,383,385,386,387,389,390,392,393,394,396,397,399,400,401,408,409,411,412,414,415,416,417,418,419,422,429,431,432,434,435,436,437,438,441,443,444,446,447,448,450,451,453,454,455,457,458,460,461,462,464,465,467,468,469,471,472,474,475,476,478,479,481,482,483,485,486,488,489,490,492,493,495,496,497,499,500,502,503,504,506,507,509,510,511,513,514,516,517,518,520,521,523,524,525,527,528,530,531,532,534,535,537,538,539,541,542,544,545,546,547,550,551,552,553,554,555,556,557,558,566,567,569,570,572,573,574,576,577,579,580,581,583,584,586,587,588,590,591,593,594,595,597,598,600,601,602,604,605,607,608,609,611,612,614,615,616,619,620,621,623,624,626,627,628,629,631,632,634,635,636,638,639,641,642,643,645,646,648,649,650,652,653,655,656,657,659,660,662,663,664,666,667,669,670,671,673,674,676,677,678,680,681,683,684,685,687,688,690,691,692,694,695,697,698,699,701,702,704,705,706,708,709,711,712,713,715,716,718,719,720,722,723,725,726,727,729,730,732,733,734,736,737,739,740,741,743,744,746,747,748,750,751,753,754,755,757,758,760,761,762,764,765,767,768,769,771,772,774,775,776,778,779,781,782,783,785,786,788,789,790,792,793,795,796,797,799,800,802,803,804,806,807,809,810,811,813,814,816,817,818,820,821,823,824,825,827,828,830,831,832,833,834,835,836,839,841,842,844,845,846,848,849,851,852,853,855,856,858,859,860,862,863,865,866,867,870,871,872,874,875,877,878,879,881,882,884,885,886,888,889,891,892,893,895,896,898,899,900,902,903,905,906,907,910,911,912,914,915,917,918,919,921,922,924,925,926,929,930,931,934,935,936,939,940]
noncomputable def keep:List Nat:=[0,2,3,4,5,6,7,8,9,10,11,12,13,14,15,16,17,18,19,21,22,23,24,25,26,27,28,29,30,31,32,36,37,38,39,40,41,43,44,46,47,48,49,51,53,54,55,56,57,58,60,61,62,63,65,66,67,68,69,71,72,73,74,75,76,77,78,79,80,81,82,83,84,85,86]
noncomputable def BU (w:World) (os:OsState):SharedT:=⟨vS 12 (l_b w.params),15,{},#[],{},187,os⟩
noncomputable def nJ (w:World) (os:OsState):SharedT:=⟨vS 12 (XdA w.params),23,{},#[],{},230,os⟩
noncomputable def nR (w:World) (os:OsState):SharedT:=⟨vS 12 (Lw w.params),204,{},#[],{},538,os⟩
noncomputable def iI (w:World) (os:OsState):SharedT:=⟨vS 12 (Il w.params),547,{},#[],{},1019,os⟩
noncomputable def iN (w:World) (os:OsState):SharedT:=⟨vS 12 (KF w.params),558,{},#[],{},1158,os⟩
noncomputable def oU (w:World) (os:OsState):SharedT:=⟨vS 12 (Ix w.params),839,{},#[],{},1543,os⟩
noncomputable def S_e (w:World) (os:OsState):SharedT:=⟨vS 12 (l_e w.params),941,{},#[],{},1697,os⟩
theorem Vh (w:World):(λos=>PySem.W.Fast.tw10110043849684766642 PySem.W.Fast.tw14364793385576792824 PP (w.withFollow "special-get-raises" false) 11 (some (.ref 6)) 1 214 (BU (w.withFollow "special-get-raises" false) os) (piecesOf (nv 0 3) eP cE ⟨0,0,0,0⟩ B0))=λos=>some (.next,nJ (w.withFollow "special-get-raises" false) os,cE,⟨5,0,5,14⟩):=by kernel_rfl
theorem Q3 (w:World):(λos=>PySem.W.Fast.tw10110043849684766642 PySem.W.Fast.tw14364793385576792824 PP (w.withFollow "special-get-raises" true) 11 (some (.ref 6)) 1 214 (BU (w.withFollow "special-get-raises" true) os) (piecesOf (nv 0 3) eP cE ⟨0,0,0,0⟩ B0))=λos=>some (.next,nJ (w.withFollow "special-get-raises" true) os,cE,⟨5,0,5,14⟩):=by kernel_rfl
theorem XeQ (w:World):(λos=>PySem.W.Fast.tw10110043849684766642 PySem.W.Fast.tw14364793385576792824 PP w 11 (some (.ref 6)) 1 214 (BU w os) (piecesOf (nv 0 3) eP cE ⟨0,0,0,0⟩ B0))=λos=>some (.next,nJ w os,cE,⟨5,0,5,14⟩):=byRow2 "special-get-raises" (P:=λw=>(λos=>PySem.W.Fast.tw10110043849684766642 PySem.W.Fast.tw14364793385576792824 PP w 11 (some (.ref 6)) 1 214 (BU w os) (piecesOf (nv 0 3) eP cE ⟨0,0,0,0⟩ B0))=λos=>some (.next,nJ w os,cE,⟨5,0,5,14⟩)) Vh Q3 w
theorem LV (w:World):(λos=>PySem.W.Fast.tw10110043849684766642 PySem.W.Fast.tw14364793385576792824 PP w 11 (some (.ref 6)) 1 2150 (nJ w os) (piecesOf (nv 3 12) eP cE ⟨5,0,5,14⟩ B0))=λos=>some (.next,nR w os,cE,⟨75,0,82,24⟩):=by kernel_rfl
theorem Nk (w:World):(λos=>PySem.W.Fast.tw10110043849684766642 PySem.W.Fast.tw14364793385576792824 PP w 11 (some (.ref 6)) 1 2074 (nR w os) (piecesOf (nv 15 51) eP cE ⟨75,0,82,24⟩ B0))=λos=>some (.next,iI w os,cE,⟨386,0,386,7⟩):=by kernel_rfl
theorem EM (w:World):(λos=>PySem.W.Fast.tw10110043849684766642 PySem.W.Fast.tw14364793385576792824 PP (w.withFollow "special-get-raises" false) 11 (some (.ref 6)) 1 888 (iI (w.withFollow "special-get-raises" false) os) (piecesOf (nv 66 2) eP cE ⟨386,0,386,7⟩ B0))=λos=>some (.next,iN (w.withFollow "special-get-raises" false) os,cE,⟨388,0,388,5⟩):=by kernel_rfl
theorem Es (w:World):(λos=>PySem.W.Fast.tw10110043849684766642 PySem.W.Fast.tw14364793385576792824 PP (w.withFollow "special-get-raises" true) 11 (some (.ref 6)) 1 888 (iI (w.withFollow "special-get-raises" true) os) (piecesOf (nv 66 2) eP cE ⟨386,0,386,7⟩ B0))=λos=>some (.next,iN (w.withFollow "special-get-raises" true) os,cE,⟨388,0,388,5⟩):=by kernel_rfl
theorem Uw (w:World):(λos=>PySem.W.Fast.tw10110043849684766642 PySem.W.Fast.tw14364793385576792824 PP w 11 (some (.ref 6)) 1 888 (iI w os) (piecesOf (nv 66 2) eP cE ⟨386,0,386,7⟩ B0))=λos=>some (.next,iN w os,cE,⟨388,0,388,5⟩):=byRow2 "special-get-raises" (P:=λw=>(λos=>PySem.W.Fast.tw10110043849684766642 PySem.W.Fast.tw14364793385576792824 PP w 11 (some (.ref 6)) 1 888 (iI w os) (piecesOf (nv 66 2) eP cE ⟨386,0,386,7⟩ B0))=λos=>some (.next,iN w os,cE,⟨388,0,388,5⟩)) EM Es w
theorem UO (w:World):(λos=>PySem.W.Fast.tw10110043849684766642 PySem.W.Fast.tw14364793385576792824 PP w 11 (some (.ref 6)) 1 1476 (iN w os) (piecesOf (nv 68 2) eP cE ⟨388,0,388,5⟩ B0))=λos=>some (.next,oU w os,cE,⟨390,0,604,17⟩):=by kernel_rfl
theorem p_e (w:World):(λos=>PySem.W.Fast.tw10110043849684766642 PySem.W.Fast.tw14364793385576792824 PP w 11 (some (.ref 6)) 1 504 (oU w os) (piecesOf (nv 70 17) eP cE ⟨390,0,604,17⟩ B0))=λos=>some (.next,S_e w os,cE,⟨759,0,773,59⟩):=by kernel_rfl
section
variable {p:Program} {m:Nat} {b n:Nat}
theorem EZ {w:World} {a:Option Value} {s:SharedT} {t:Thread}:segRunT treeTable p w m a b n s t=PySem.W.Fast.tw10110043849684766642 PySem.W.Fast.tw14364793385576792824 p w m a b n s t:=by
 rw[PySem.W.Fast.te10110043849684766642,X6]
theorem gG {w:World} {S1 S2:World->OsState->SharedT} {N a n:Nat} {p1 p2:Pos} (os:OsState)
  (h:(λos=>PySem.W.Fast.tw10110043849684766642 PySem.W.Fast.tw14364793385576792824 PP w 11 (some (.ref 6)) 1 N (S1 w os) (piecesOf (nv a n) eP cE p1 B0))=λos=>some (.next,S2 w os,cE,p2))
  {M:Nat} {r:Shared} (k:topRun treeTable PP w 11 (some (.ref 6)) M (S2 w os).abs (restOf ((behindTheImports PP).drop (a+n)) eP cE p2 B0)=some r):
  topRun treeTable PP w 11 (some (.ref 6)) (N+M) (S1 w os).abs (restOf ((behindTheImports PP).drop a) eP cE p1 B0)=some r:=by
 have e:(behindTheImports PP).drop a=nv a n++(behindTheImports PP).drop (a+n):=by
  unfold nv;rw[←List.drop_drop,ZW]
 rw[e];refine piece_app (segRun_of ?_) k;rw[EZ];exact Zq h os
noncomputable def Ha (P:Params):Heap:={objs:=(l_b P).toArray}
noncomputable def H1 (P:Params):Heap:={objs:=(l_f P).toArray}
theorem G9 (w:World):(λos=>PySem.W.Fast.tw15667345088766844465 PySem.W.Fast.tw14364793385576792824 PP w 11 (some (.ref 6)) 12 {heap:=boot_heap w.params,drawn:=boot_drawn,toks:=boot_toks,os:=os} (topStub PP))=λos=>some ({heap:=Ha w.params,toks:=187,os:=os},(⟨PySem.W.Fast.tw11892475500146522536 PySem.W.Fast.tw14364793385576792824 cE,cE,⟨0,0,0,0⟩,B0⟩:Thread)):=by kernel_rfl
theorem sy (w:World):(λos=>PySem.W.Fast.tw14374325043358763698 PySem.W.Fast.tw14364793385576792824 PP w 11 (some (.ref 6)) 1 1 {heap:=Ha w.params,toks:=187,os:=os} (blockOf (behindTheImports PP) eP cE ⟨0,0,0,0⟩ B0))=λos=>some (.next,(BU w os).abs,cE,⟨0,0,0,0⟩):=by kernel_rfl
theorem GZ (w:World):(λos=>PySem.W.Fast.tw14082659384304107361 PySem.W.Fast.tw14364793385576792824 PP w 11 (some (.ref 6)) 2 (S_e w os).abs (restOf ((behindTheImports PP).drop (70+17)) eP cE ⟨759,0,773,59⟩ B0))=λos=>some {heap:=H1 w.params,toks:=1697,os:=os}:=by kernel_rfl
theorem xh (w:World) (os:OsState):topRun treeTable PP w 11 (some (.ref 6)) (12+(1+(214+(2150+(2074+(888+(1476+(504+2)))))))) {heap:=boot_heap w.params,drawn:=boot_drawn,toks:=boot_toks,os:=os} (topStub PP)=some {heap:=H1 w.params,toks:=1697,os:=os}:=by
 refine go_top (t':=⟨denote treeTable cE,cE,⟨0,0,0,0⟩,B0⟩) (s':={heap:=Ha w.params,toks:=187,os:=os}) ?_ ?_
 ·have z:=Zq (G9 w) os
  rw[←PySem.W.Fast.te15667345088766844465,←PySem.W.Fast.te11892475500146522536,←X6]at z;exact z
 refine piece_block (s':=(BU w os).abs) (p':=⟨0,0,0,0⟩) ?_ ?_
 ·have z:=Zq (sy w) os
  rw[←PySem.W.Fast.te14374325043358763698,←X6]at z;exact z
 refine gG (S1:=BU) (S2:=nJ) os (XeQ w) (gG (S1:=nJ) (S2:=nR) os (LV w) (gG (S1:=nR) (S2:=iI) os (Nk w) (gG (S1:=iI) (S2:=iN) os (Uw w) (gG (S1:=iN) (S2:=oU) os (UO w) (gG (S1:=oU) (S2:=S_e) os (p_e w) (?_))))));have z:=Zq (GZ w) os;rw[←PySem.W.Fast.te14082659384304107361,←X6]at z;exact z
noncomputable def K2 (l:List Nat) (b:List Stmt):List Stmt:=l.map λi=>VZ b i
noncomputable def km:Program:={PP with main:={PP.main with body:=K2 keep PP.main.body}}
noncomputable def iM:List Str:=["SIMPLE_ESCAPES","Text","ListThing","RangeThing","ProcThing","ErrorThing","FiberThing","ModuleThing","code_of","message_text","show","GemError","BUILTINS","MIXED"]
noncomputable def jg:Hook:=kmHook HK as (λZ=>by kernel_rfl) [932,920]
noncomputable def XT (s:Shared):Bool:=xlAt km [] s&&recOk (RowW.records PySem.Challenge.rw_sm0031_01.row.toRowW) s
noncomputable def GB (w:World) (os:OsState):Shared:={heap:=H1 w.params,gens:= #[],drawn:={},toks:=1697,os:=os}
theorem Jx (w:World):(λos=>(staticsOk (importedModules PP.main.body) (boot_heap w.params) (H1 w.params)&&namesBound PP (H1 w.params)&&gensDone (GB w os)&&laidKept (boot_heap w.params) (H1 w.params)))=λZ=>true:=by kernel_rfl
theorem Sq (w:World):(λos=>Hook.obs jg (GB w os))=λZ=>Hook.val jg w:=by kernel_rfl
theorem tf (w:World):(λos=>PySem.W.Fast.tw4187177175401517315 km iM (importedModules PP.main.body) XT true (GB w os))=λZ=>openGood km iM:=by kernel_rfl
theorem xn:PySem.W.Fast.tw9446332074065402090 PySem.Challenge.rw_sm0031_01=true:=by kernel_rfl
theorem Oz:PySem.Challenge.rw_sm0031_01.wellSaid=true:=by
 have z:=xn;rw[←PySem.W.Fast.te9446332074065402090]at z;exact z
theorem left:LeftO PP km iM XT (Hook.obs jg) (Hook.val jg) 14726:=by
 refine LeftO.of_pieces (H₀:=boot_heap) (H₁:=H1) (gs₀:= #[]) (gs₁:= #[]) (d₀:=boot_drawn) (d₁:={}) (k₀:=boot_toks) (k₁:=1697) (m₀:=11) (ann:=some (.ref 6)) (M:=12+(1+(214+(2150+(2074+(888+(1476+(504+2)))))))) (boot_open (by rfl) (by decide) (λs=>by rfl)) (λw=>by kernel_rfl) xh (by decide) (λw=>?_)
 funext os
 refine looks_pair ?_ (looks_pair ?_ ?_)
 ·exact Zq (Jx w) os
 ·have z:=Zq (tf w) os
  rw[←PySem.W.Fast.te4187177175401517315]at z;exact z
 ·exact Zq (Sq w) os
theorem head (hc:∀d:DefRec,defOf km PySem.Challenge.rw_sm0031_01.row.toRowW.name=some (d,[])->WalkO km iM (XL km []) (Hook.says jg) PySem.Challenge.rw_sm0031_01.row.toRowW d [] λf vs=>call f vs):PySem.Challenge.rw_sm0031_01.Holds:=by
 refine holds_law Oz λOz=>?_;refine holds_open (q:=km) (loose:=iM) (Xt:=XT) (XP:=XL km []) (Yf:=Hook.obs jg) (Ya:=Hook.val jg) (YP:=Hook.says jg) (N:=14726) left (Hook.of jg) (Hook.keeps jg) (λs e=>xl_of s (Xr.mp e).1) XL.keeps (by rfl) (by rfl) (by rfl) (λs e=>recFacts_of (Xr.mp e).2) (by rfl) (by assumption) (by decide+kernel) ⟨rfl,rfl,rfl,rfl,rfl,by decide+kernel⟩ ?hw (hc _ (by rfl))
 w_witness2
end
set_option backward.match.sparseCases false
abbrev bu:=List (Addr×Obj)
structure aY (l:bu):Prop where
 nd:(l.map (·.1)).Nodup
section
variable {d:Addr} {o:Obj}
theorem aY.cons {l:bu} (k:aY l) (h:∀p∈l,p.1<d):aY ((d,o)::l):=by
 refine⟨W2.mpr ⟨λm=>?_,k.nd⟩⟩;refine bn (Xb.mp m) λp b e=>?_;have z:=h p b;have a:p.1=d:=e;exact absurd (a▸z) (XX _)
variable {o':Obj}
theorem aY.cons2 {l:bu} {x d:Addr} (k:aY l) (h:∀p∈l,p.1<d) (h2:d<x):aY ((x,o)::(d,o')::l):=by
 refine(k.cons (o:=o') h).cons λp hp=>?_;rcases WY.mp hp with rfl|hp
 ·exact h2
 ·exact ZB (h p hp) h2
variable {l:bu} {p:Addr×Obj}
theorem aY.tail (k:aY (p::l)):aY l:=⟨(W2.mp k.nd).2⟩
theorem aY.off {l:bu} (k:aY (p::l)):∀q∈l,q.1≠p.1:=λq a e=>(W2.mp k.nd).1 (by
 have z:q.1∈l.map (·.1):=Xm a;rw[e]at z;exact z)
variable {l':bu}
theorem Upd.same (u:Upd d o o' l l'):l'.map (·.1)=l.map (·.1):=by
 induction u with
 |head _=>rfl
 |tail _ r ih=>exact Yi (List.cons _) ih
theorem aY.upd (k:aY l) (u:Upd d o o' l l'):aY l':=⟨by rw[Upd.same u];exact k.nd⟩
theorem XaX (k:aY ((d,o)::l)):Upd d o o' ((d,o)::l) ((d,o')::l):=.head k.off
theorem Upd.mem (u:Upd d o o' l l'):(d,o)∈l:=by
 induction u with
 |head _=>exact .head _
 |tail _ r ih=>exact .tail _ ih
theorem Nj (k:aY (p::l)) (u:aY l->Upd d o o' l l'):Upd d o o' (p::l) (p::l'):=
 have u:=u k.tail
 .tail (λe=>k.off _ (Upd.mem u) e.symm) u
theorem Nf:∀{pre:bu},aY (pre++l)->(aY l->Upd d o o' l l')->Upd d o o' (pre++l) (pre++l')
 |[],k,u=>u k
 |_::_,k,u=>Nj k λk=>Nf k u
end
inductive dC (d:Addr) (o o':Obj):bu->bu->Prop
 |here {r}:dC d o o' ((d,o)::r) ((d,o')::r)
 |there {p r r'}:dC d o o' r r'->dC d o o' (p::r) (p::r')
 |app {q r r'}:dC d o o' r r'->dC d o o' (q++r) (q++r')
 |left {q q' r}:dC d o o' q q'->dC d o o' (q++r) (q'++r)
section
variable {d:Addr} {o o':Obj} {l l':bu}
theorem dC.mem (u:dC d o o' l l'):(d,o)∈l:=by
 induction u with
 |here=>exact .head _
 |there _ ih=>exact .tail _ ih
 |app _ ih=>exact WW _ ih
 |left _ ih=>exact W3 _ ih
theorem pn:∀{q q' r:bu},Upd d o o' q q'->(∀p∈r,p.1≠d)->Upd d o o' (q++r) (q'++r)
 |_,_,r,.head h,off=>.head λp a=>(W6.mp a).elim (h p) (off p)
 |_,_,r,.tail h u,off=>.tail h (pn u off)
theorem aY.parts {q r:bu} (k:aY (q++r)):aY q∧∀d o,(d,o)∈q->∀p∈r,p.1≠d:=by
 have n:=k.nd;rw[Xa]at n;have n:=YS.mp n;refine⟨⟨n.1⟩,λd o b p a e=>?_⟩;exact n.2.2 d (Xm b) p.1 (Xm a) e.symm
theorem dC.go (u:dC d o o' l l') (k:aY l):Upd d o o' l l':=by
 induction u with
 |here=>exact XaX k
 |there _ ih=>exact Nj k ih
 |app _ ih=>exact Nf k ih
 |left u ih=>exact pn (ih k.parts.1) (k.parts.2 _ _ u.mem)
inductive In (e:Addr×Obj):bu->Prop
 |here {r}:In e (e::r)
 |there {p r}:In e r->In e (p::r)
 |right {q r}:In e r->In e (q++r)
 |left {q r}:In e q->In e (q++r)
 |of {q r}:e∈q->In e (q++r)
 |all {q}:e∈q->In e q
variable {e:Addr×Obj}
theorem In.mem (i:In e l):e∈l:=by
 induction i with
 |here=>exact .head _
 |there _ ih=>exact .tail _ ih
 |right _ ih=>exact WW _ ih
 |left _ ih=>exact W3 _ ih
 |of h=>exact W3 _ h
 |all h=>exact h
variable {prog:Program} {w:World} {p:Program} {loose:List Str} {mean:ExcName->Option Value} {mg mb:Str->Option Value}
end
section
variable {prog:Program} {w:World} {p:Program} {loose:List Str} {mean:ExcName->Option Value} {mg mb:Str->Option Value}
structure Cx (w:World) (p:Program) (loose:List Str) (mean:ExcName->Option Value) (mg mb:Str->Option Value) (A:Around) (base:Heap) (outer:List Env) (g:Heap) (l:bu) (h:Heap):Prop where
 X:(HK w.params).In base
 T:Top p loose mean mg mb base
 B:Below A base outer g
 st:g.StaysIn h
 sz:g.objs.size≤h.objs.size
 led:∀q∈l,h.get? q.1=some q.2∧g.get? q.1=none
 keys:aY l
structure Ex (g:Heap) (l:bu) (h:Heap):Prop where
 st:g.StaysIn h
 sz:g.objs.size≤h.objs.size
 led:∀q∈l,h.get? q.1=some q.2∧g.get? q.1=none
 keys:aY l
variable {A:Around} {base g:Heap} {outer:List Env} {l:bu} {s:Shared} {R:Result->Shared->Prop} {h:Heap} {L:Addr} {m:Str->Option Value}
theorem oN (F:Fr g L h m):g.objs.size≤h.objs.size:=by
 refine uB F.ns λo Z Z e Z=>?_;exact WX F.above (Nat.le_of_lt (Xe e))
theorem ly (F:Fr g L h m) (N:News g L h l) (k:aY l):Ex g l h:=
 ⟨F.keep,oN F,λq a=>⟨(N q a).1,(N q a).2.2⟩,k⟩
def mS (g:Heap) (R:Result->Shared->Prop) (v:Value) (s':Shared):Prop:=R (.ok (.ret v)) s'
variable {name qual:Str} {params:Arguments} {body:List Stmt} {dV kV doc pm cdv ct oc:Value} {an od:Option Addr} {osl:Array (Option Value)} {f:Addr} {args:Args}
set_option backward.match.sparseCases true in
theorem Mt {scope:Scope} {binds:List (Str×Value)}
  (c:Cx w p loose mean mg mb A base outer g l s.heap)
  (ho:(HK w.params).lookup f=some ⟨oc,od,.func (fnOf name qual params body scope dV kV doc pm an cdv ct),osl⟩) (hcd:codeIn (HK w.params) cdv qual=true) (hroom:A.depth<recursionLimit)
  (hbind:BindsTo s (fnOf name qual params body scope dV kV doc pm an cdv ct) args binds) (hloc:∀y∈binds,scope.names.lookup y.1=some .local)
  (h:∀L' h₁,Fr g L' h₁ (λy=>binds.reverse.lookup y)->News g L' h₁ l->Below A base outer g->(HK w.params).In g->Top p loose mean mg mb g->aY l->
   wpAny (model prog w) (A.deeper (envOf qual scope L' f cdv)) (execs body (envOf qual scope L' f cdv))
    (λfl s'=>mS g R (match fl with|.ret v=>v|_=>.none) s')
    (λe s'=>wpAny (model prog w) (A.deeper (envOf qual scope L' f cdv)) (leaving (envOf qual scope L' f cdv) e) (λZ s''=>R (.error e) s'') (λe' s''=>R (.error e') s'') s')
    {s with heap:=h₁,toks:=s.toks+binds.length})
  (hco:scope.isCoroutine=false:=by rfl) (hgen:scope.isGenerator=false:=by rfl) (hk:scope.kind=.function:=by rfl)
  (hcell:∀x∈scope.names,x.2≠ .cell:=by decide):codeAny (model prog w) A (.call (.ref f) args) R s:=by
 refine codeAny_call_def (fd:=fnOf name qual params body scope dV kV doc pm an cdv ct) (body:=body) (binds:=binds) hroom (((c.X.keeps c.B.stays).keeps c.st) _ _ ho) rfl ((c.T.keeps c.B.stays).nolimit.keeps c.st) (codeRec_of ((c.X.keeps c.B.stays).keeps c.st) hcd) rfl hbind hcell hloc (λh₁ d a=>?_) hco hgen hk;refine Ym (h s.heap.objs.size h₁ ⟨d,λb o e=>a b o (c.st b o e),c.sz⟩ (λq i=>⟨a _ _ (c.led q i).1,XC (Xe (c.led q i).1),(c.led q i).2⟩) c.B (c.X.keeps c.B.stays) (c.T.keeps c.B.stays) c.keys) (λfl s' j=>?_) λZ Z y=>y;exact j
variable {h₀:Heap} {env:Env}
theorem ye (XB:(HK w.params).In base) (TB:Top p loose mean mg mb base) (B:Below A base outer h₀) (F:Fr h₀ L h m) (N:News h₀ L h l) (k:aY l) (hf:env.frame=some L) (hke:env.scope.kind=.function)
  {A':Around} (hA:A'.frames=some (env::outer)):
  Cx w p loose mean mg mb A' base (env::outer) (hideAll h (l.map (·.1))) l h:=by
 have x:∀b o,h₀.get? b=some o->b∉l.map (·.1):=λb o e q=>by
  refine bn (Xb.mp q) λp s t=>?_;obtain rfl:=t;rw[(N p s).2.2]at e;exact cX e
 have z:h₀.StaysIn (hideAll h (l.map (·.1))):=λb o e=>YI _ (F.keep b o e) (x b o e);refine mC F.ns λC J I G r y H=>?_;have D:L∉l.map (·.1):=λq=>by
  refine bn (Xb.mp q) λp s e=>?_;exact(N p s).2.1 e
 have i:base.get? L=none:=by
  cases n:base.get? L with
  |none=>rfl
  |some o=>exact absurd (Xi (Xe (B.stays L o n)) F.above) (XX _)
 have E:h.FunFrames base (env::outer):=(eQ (by rw[hke];decide) (ya L C hf i G (λvs e=>by rw[r]at e;cases e)) (B.frames.of_keeps λb o e Z=>(bv o (F.keep b o e) rfl)));refine⟨XB,TB,⟨hA,λb o e=>z b o (B.stays b o e),funFrames_hideAll E λj u b v d=>?_⟩,λb o e=>of_hideAll _ e,Yd (hideAll_size _ _),λq n=>⟨(N q n).1,ZN _ (Xm n)⟩,k⟩;cases u with
 |head=>exact D ((W7 (hf.symm.trans d):L=b)▸v)
 |tail _ u=>
  refine gM (funFrames_in B.frames j u) λa g c f=>?_;rw[c]at d;exact x a g f ((W7 d:a=b)▸v)
theorem vO (F:Fr h₀ L h m) (N:News h₀ L h l) {l':bu} {h':Heap} (x:Ex (hideAll h (l.map (·.1))) l' h'):Fr h₀ L h' m∧News h₀ L h' l':=by
 have s:∀b o,h₀.get? b=some o->b∉l.map (·.1):=λb o e q=>by
  refine bn (Xb.mp q) λp f i=>?_;obtain rfl:=i;rw[(N p f).2.2]at e;exact cX e
 have k:h₀.StaysIn (hideAll h (l.map (·.1))):=λb o e=>YI _ (F.keep b o e) (s b o e);refine mC F.ns λr t u j d c a=>?_;have n:L∉l.map (·.1):=λq=>by
  refine bn (Xb.mp q) λp f e=>?_;exact(N p f).2.1 e
 refine⟨⟨gW r t u (x.st _ _ (YI (l.map (·.1)) j n)) d c a,λb o e=>x.st b o (k b o e),F.above⟩,λq g=>(eQ ((x.led q g).1) (λe=>?_) ?_)⟩
 ·have:=(x.led q g).2;rw[e,YI (l.map (·.1)) j n]at this;exact zG this
 ·cases z:h₀.get? q.1 with
  |none=>rfl
  |some o=>have:=(x.led q g).2;rw[k _ _ z]at this;exact zG this
noncomputable def bT:List Str->List (Option Value)->Str->Option Value
 |n::ns,v::vs,x=>if x=n then v else bT ns vs x
 |_,_,_=>none
end
structure g9 (env:Env) (L:Addr) (ns:List Str):Prop where
 nd:ns.Nodup
 loc:∀x∈ns,env.kindOf x=some .local
 dbg:∀x∈ns,(x==("__debug__":Str))=false
 kind:env.scope.kind=.function
 fl:env.locals=L
structure Gd (A:Around) (env:Env) (outer:List Env) (L:Addr):Prop where
 fs:A.frames=some (env::outer)
 fr:env.frame=some L
 ke:env.scope.kind=.function
inductive hH (x:Str) (v:Option Value):List Str->List (Option Value)->Prop
 |here {ns vs}:hH x v (x::ns) (v::vs)
 |there {n u ns vs}:hH x v ns vs->hH x v (n::ns) (u::vs)
inductive sk (x:Str) (v:Value):List Str->List (Option Value)->List (Option Value)->Prop
 |here {ns u vs}:sk x v (x::ns) (u::vs) (some v::vs)
 |there {n u ns vs vs'}:sk x v ns vs vs'->sk x v (n::ns) (u::vs) (u::vs')
section
variable {x:Str} {ns:List Str} {vs:List (Option Value)}
theorem hH.mem {v:Option Value} (p:hH x v ns vs):x∈ns:=by
 induction p with
 |here=>exact .head _
 |there _ ih=>exact .tail _ ih
theorem hH.get {v:Option Value} (p:hH x v ns vs) (nd:ns.Nodup):bT ns vs x=v:=by
 induction p with
 |here=>simp[bT]
 |there q ih=>
  have a:=W2.mp nd;rw[bT,Xh (λe:x=_=>a.1 (by rw[←e];exact q.mem)),ih a.2]
variable {v:Value}
theorem sk.mem {vs vs':List (Option Value)} (p:sk x v ns vs vs'):x∈ns:=by
 induction p with
 |here=>exact .head _
 |there _ ih=>exact .tail _ ih
theorem sk.is {vs vs':List (Option Value)} (p:sk x v ns vs vs') (nd:ns.Nodup):bT ns vs'=λy=>if y=x then some v else bT ns vs y:=by
 funext y
 induction p with
 |here=>by_cases h:y=x<;>simp[bT,h]
 |there q ih=>
  rw[bT,bT,ih (W2.mp nd).2];by_cases h:y=x
  ·subst h
   rw[Xn rfl,Xn rfl,Xh (λe:y=_=>(W2.mp nd).1 (by rw[←e];exact q.mem))]
  ·rw[Xh h,Xh h]
variable {M:Model} {A:Around} {E:Value->Shared->Prop} {s:Shared} {env:Env} {L:Addr} {h₀:Heap} {vs':List (Option Value)} {news:bu} {pos:Pos} {Q:Value->Shared->Prop}
theorem Iz (S:g9 env L ns) (F:Fr h₀ L s.heap (bT ns vs)) (P:hH x (some v) ns vs) (h:Q v s):wpAny M A (loadName env x) Q E s:=
 wpAny_loadName_local S.kind (S.loc x P.mem) (S.fl▸F.ns) (P.get S.nd) h
theorem ldS (S:g9 env L ns) (F:Fr h₀ L s.heap (bT ns vs)) (P:hH x (some v) ns vs) (h:Q v s):wpAny M A (eval (.Name x pos) env) Q E s:=
 Z8 (Iz S F P h) (S.dbg x P.mem)
variable {Q:Unit->Shared->Prop}
theorem stS (S:g9 env L ns) (F:Fr h₀ L s.heap (bT ns vs)) (N:News h₀ L s.heap news) (P:sk x v ns vs vs')
  (h:∀h',Fr h₀ L h' (bT ns vs')->News h₀ L h' news->Q () {s with heap:=h',toks:=s.toks+1}):wpAny M A (storeName env x v) Q E s:=by
 have e:=S.fl;subst e;exact wpAny_storeName_local (S.loc x P.mem) F.ns (λh' b a=>h h' (by rw[P.is S.nd];exact F.set b a) (N.set a)) (by rw[S.kind];rfl)
noncomputable def fG (env:Env) (x:Str):Bool:=env.scope.kind== .function&&env.kindOf x==some .globalImplicit&& !(x==("__debug__":Str))&& !(x==("__name__":Str))&&env.globals==mainGlobals&&env.builtins==builtinsNs
variable {mg mb:Str->Option Value} {mean:ExcName->Option Value} {m:Str->Option Value} {Q:Value->Shared->Prop}
theorem glS {K:Frag} {p:Program} {loose:List Str} (F:Fr h₀ L s.heap m) (X:K.In h₀) (T:Top p loose mean mg mb h₀) (e:nsIn K mainGlobals x=some (some v))
  (hx:fG env x=true) (h:Q v s):wpAny M A (eval (.Name x pos) env) Q E s:=by
 unfold fG at hx;simp only[WU,Xj,Xu]at hx;have a:=topRead_of T;exact Name_function_global hx.1.1.1.1.1 hx.1.1.1.1.2 (loadGlobal_global (by rw[hx.1.2];exact a.g.keeps F.keep) (mg_of X a.g e) h) hx.1.1.1.2
theorem biS {K:Frag} {p:Program} {loose:List Str} (F:Fr h₀ L s.heap m) (X:K.In h₀) (T:Top p loose mean mg mb h₀) (e:nsIn K mainGlobals x=some none) (hv:bootBuiltins x=some v)
  (hx:fG env x=true) (h:Q v s):wpAny M A (eval (.Name x pos) env) Q E s:=by
 unfold fG at hx;simp only[WU,Xj,Xu]at hx;have a:=topRead_of T;exact Name_function_global hx.1.1.1.1.1 hx.1.1.1.1.2 (loadGlobal_builtin (by rw[hx.1.2];exact a.g.keeps F.keep) (mg_none_of X a.g e) (by rw[hx.2];exact a.b.keeps F.keep) ((a.builtins x (λq=>by have:=hx.1.1.2;simp[q]at this)).trans hv) h) hx.1.1.1.2
variable {prog:Program} {w:World} {l:Addr} {news':bu}
noncomputable abbrev aL (vs:List Value) (n:Nat):Obj:={cls:=.type "list",data:=.seq vs.toArray n}
variable {n:Nat}
theorem bJ (N:News h₀ L s.heap news) {vs:List Value} (hm:(l,aL vs n)∈news):s.heap.IsList l vs.toArray:=(jn _ ((N _ hm).1) rfl ⟨n,rfl⟩)
theorem RU {value slice:Expr} {vs:List Value} {k:Int} {u:Tok} (N:News h₀ L s.heap news) (hm:(l,aL vs n)∈news) (hk:(decide (0≤k)&&decide (k<2 ^ 63))=true) (hx:vs[k.toNat]?=some v)
  (h:Q v s) (hs:subscripted slice false (.ref l) (.int k u)=operate [.ref l,.int k u] (getItem (.ref l) (.int k u))):
  wpAny (model prog w) A (subscriptTail value slice (.ref l) (.int k u)) Q E s:=by
 simp only[WU,XZ]at hk;exact tail_any (bJ N hm).typeIs PySem.F.slot_list_getitem.lookup (wpAny_getItem_list (bJ N hm) hk.1 hk.2 (by simpa using hx) h) hs
noncomputable def bB:List Str->List (Option Value)->List (Str×Value)
 |n::ns,some v::vs=>(n,v)::bB ns vs
 |_::ns,none::vs=>bB ns vs
 |_,_=>[]
theorem co:∀(ns:List Str) (vs:List (Option Value)) (x:Str×Value),x∈bB ns vs->x.1∈ns
 |[],vs,x,h=>by cases vs<;>cases h
 |n::ns,[],x,h=>by cases h
 |n::ns,some v::vs,x,h=>by
  rcases WY.mp h with rfl|h
  ·exact .head _
  ·exact .tail _ (co ns vs x h)
 |n::ns,none::vs,x,h=>.tail _ (co ns vs x h)
theorem gS {l:List (Str×Value)} {y:Str} (h:∀x∈l,x.1≠y):l.lookup y=none:=by
 induction l with
 |nil=>rfl
 |cons a l ih=>
  obtain⟨k,v⟩:=a;have:(y==k)=false:=by simpa usingλe=>h (k,v) (.head _) e.symm
  rw[Xk,this];exact ih λx b=>h x (.tail _ b)
theorem dD:∀(ns:List Str) (vs:List (Option Value)),ns.Nodup->(λy=>(bB ns vs).reverse.lookup y)=bT ns vs
 |[],vs,_=>by funext y;cases vs<;>rfl
 |n::ns,[],_=>by funext y;rfl
 |n::ns,some v::vs,nd=>by
  have b:=W2.mp nd;have a:=dD ns vs b.2
  funext y
  have a:=Zq a y
  try dsimp only at a
  show((n,v)::bB ns vs).reverse.lookup y=if y=n then some v else bT ns vs y
  rw[List.reverse_cons,List.lookup_append,a];by_cases h:y=n
  ·subst h
   rw[Xn rfl,←a,gS λx c e=>b.1 (by rw[←e];exact co ns vs x (List.mem_reverse.mp c))];simp
  ·rw[Xh h]
   have:(y==n)=false:=by simpa using h
   cases bT ns vs y<;>simp[Xk,this]
 |n::ns,none::vs,nd=>by
  have b:=W2.mp nd;have a:=dD ns vs b.2
  funext y
  have a:=Zq a y
  try dsimp only at a
  show(bB ns vs).reverse.lookup y=if y=n then none else bT ns vs y
  rw[a];by_cases h:y=n
  ·subst h
   rw[Xn rfl,←a,gS λx c e=>b.1 (by rw[←e];exact co ns vs x (List.mem_reverse.mp c))]
  ·rw[Xh h]
noncomputable def jp (sc:Scope) (ns:List Str):Bool:=decide ns.Nodup&&ns.all (λx=>sc.names.lookup x==some .local&& !(x==("__debug__":Str)))&&sc.kind== .function
theorem kl (h:jp env.scope ns=true):g9 env env.locals ns:=by
 unfold jp at h;simp only[WU,XZ,WZ,Xj,Xu]at h;exact⟨h.1.1,λx a=>(h.1.2 x a).1,λx a=>(h.1.2 x a).2,h.2,rfl⟩
variable {p:Program} {loose:List Str} {base g:Heap} {outer:List Env} {l:bu} {R:Result->Shared->Prop} {name qual:Str} {osl:Array (Option Value)} {f:Addr}
set_option backward.match.sparseCases true in
theorem Aq (ns:List Str) (vs:List (Option Value)) {params:Arguments} {body:List Stmt} {scope:Scope} {dV kV doc pm cdv ct oc:Value} {an od:Option Addr} {args:Args}
  (c:Cx w p loose mean mg mb A base outer g l s.heap)
  (ho:(HK w.params).lookup f=some ⟨oc,od,.func (fnOf name qual params body scope dV kV doc pm an cdv ct),osl⟩) (hcd:codeIn (HK w.params) cdv qual=true) (hroom:A.depth<recursionLimit)
  (hS:jp scope ns=true)
  (hbind:BindsTo s (fnOf name qual params body scope dV kV doc pm an cdv ct) args (bB ns vs))
  (h:∀L' h₁,g9 (envOf qual scope L' f cdv) L' ns->Fr g L' h₁ (bT ns vs)->News g L' h₁ l->Below A base outer g->(HK w.params).In g->Top p loose mean mg mb g->aY l->
   wpAny (model prog w) (A.deeper (envOf qual scope L' f cdv)) (execs body (envOf qual scope L' f cdv))
    (λfl s'=>mS g R (match fl with|.ret v=>v|_=>.none) s')
    (λe s'=>wpAny (model prog w) (A.deeper (envOf qual scope L' f cdv)) (leaving (envOf qual scope L' f cdv) e) (λZ s''=>R (.error e) s'') (λe' s''=>R (.error e') s'') s')
    {s with heap:=h₁,toks:=s.toks+(bB ns vs).length})
  (hx:(!scope.isCoroutine&& !scope.isGenerator&&scope.names.all λx=>x.2 != .cell)=true):codeAny (model prog w) A (.call (.ref f) args) R s:=by
 have S:=λL'=>kl (env:=envOf qual scope L' f cdv) hS;simp only[WU,Xj,WZ,bne_iff_ne]at hx;exact Mt c ho hcd hroom hbind (λy a=>(S f).loc _ (co _ _ _ a)) (λL' h₁ F N B X T k=>h L' h₁ (S L') (by rw[←dD ns vs (S f).nd];exact F) N B X T k) hx.1.1 hx.1.2 (S f).kind hx.2
end
structure db (A:Around) (n:Nat):Prop where
 d:A.depth+n≤900
 u:A.units+16*n≤9000
 hd:A.handled=none
section
variable {A:Around} {n:Nat}
theorem db.lt (r:db A n):A.depth<recursionLimit:=Y9 (WX (X4 _ _) r.d) (by decide)
variable {env:Env}
theorem db.deeper {n m:Nat} (r:db A n) (h:m+1≤n):db (A.deeper env) m:=⟨by have:=r.d;exact Z56 h this,by have:=r.u;exact Z59 h this,r.hd⟩
variable {kw:List (Str×Value)}
theorem db.make {n m:Nat} {C:Addr} {vals:List Value} (r:db A n) (h:m+1≤n):db (A.under (.builtin "type.__call__" ⟨.ref C::vals,kw⟩)) m:=
 ⟨by have:=r.d;rw[depth_under_kw];exact Z56 h this,by
  have e:(Code.builtin "type.__call__" ⟨.ref C::vals,kw⟩).cUnits≤4:=Xv (by kernel_rfl);show A.units+(Code.builtin "type.__call__" ⟨.ref C::vals,kw⟩).cUnits+16*m≤9000;generalize (Code.builtin "type.__call__" ⟨.ref C::vals,kw⟩).cUnits=y at e ⊢;exact Z60 h r.u e,r.hd⟩
end
structure cJ (o:Obj) (m:Str->Option Value) (k:Nat):Prop where
 is:∃es n,o=dictOf es n∧(∀x,getL x es=some (m x))∧es.length≤k
theorem lY (name:Str) (hsh:Int) (t:Tok) (v:Value):∀(es:List DictEntry) (m:Str->Option Value),(∀x,getL x es=some (m x))->∀x,getL x (putL name hsh (.str name t) v es)=some (if x=name then some v else m x):=by
 intro es m h;have o:es.any (·.refKey)=false:=by
  cases hb:es.any (·.refKey)with
  |false=>rfl
  |true=>
   exfalso;have g:∀x,es.find? (·.key.isStr x)≠none:=λx e=>by
    have:=h x;unfold getL at this;rw[e]at this;simp[hb]at this
   have j:∃x:Str,es.find? (·.key.isStr x)=none:=by
    have:∃n:Nat,∀e∈es,∀y t,e.key=.str y t->y.cps.size<n:=by
     clear h g hb
     induction es with
     |nil=>exact⟨0,λZ h=>nomatch h⟩
     |cons a l ih=>
      obtain⟨n,c⟩:=ih;refine⟨n+(match a.key with|.str y _=>y.cps.size+1|_=>0),λe he y t q=>?_⟩;rcases WY.mp he with rfl|he
      ·rw[q];show y.cps.size<n+(y.cps.size+1);exact Z41
      ·have:=c e he y t q;exact Z40 this
    obtain⟨n,c⟩:=this;refine⟨⟨Array.replicate n 0⟩,ZD.mpr λe he q=>?_⟩;cases hk:e.key with
    |str y t=>
     rw[hk]at q;have s:y=⟨Array.replicate n 0⟩:=by simpa [Value.isStr]using q
     have:=c e he y t hk;rw[s]at this;simp at this
    |_=>rw[hk]at q;simp[Value.isStr]at q
   obtain⟨x,b⟩:=j;exact g x b
 have p:∀(l:List DictEntry),(∀e∈l,e.refKey=false)->∀x,(putL name hsh (.str name t) v l).any (·.refKey)=false∧((putL name hsh (.str name t) v l).find? (·.key.isStr x)).map (·.val)=if x=name then some v else(l.find? (·.key.isStr x)).map (·.val):=by
  intro l f x
  induction l with
  |nil=>
   refine⟨by rfl,?_⟩;simp only[putL,Yy,Value.isStr];by_cases b:x=name
   ·subst b;simp
   ·have:(name==x)=false:=by simpa using Ne.symm b
    simp[this,b]
  |cons a l ih=>
   have k:=f a (.head _);dsimp only[putL];by_cases hk:a.key.isStr name=true
   ·rw[Xn hk]
    refine⟨?_,?_⟩
    ·simp only[Z7,Zr]
     refine⟨k,?_⟩;exact YA.mpr λe he=>by simp[f e (.tail _ he)]
    ·simp only[Yy]
     by_cases b:x=name
     ·subst b;simp[hk]
     ·have i:a.key.isStr x=false:=by
       cases i:a.key.isStr x with
       |false=>rfl
       |true=>exact absurd (Value.isStr_inj _ _ _ i hk) b
      simp[i,b]
   ·rw[Xh hk]
    refine⟨by simp[k,(ih λe he=>f e (.tail _ he)).1],?_⟩;simp only[Yy];cases i:a.key.isStr x with
    |true=>
     have b:x≠name:=λe=>hk (e▸i);simp[b]
    |false=>exact(ih λe he=>f e (.tail _ he)).2
 have f:∀e∈es,e.refKey=false:=λe he=>by
  have:=YA.mp o e he
  simpa using this
 intro x;obtain⟨r,d⟩:=p es f x;have b:=h x;unfold getL at b ⊢;cases q:es.find? (·.key.isStr x)with
 |some e=>
  rw[q]at b d;cases q':(putL name hsh (.str name t) v es).find? (·.key.isStr x)with
  |some e'=>
   rw[q']at d;simp only[Option.map_some]at d;show some (some e'.val)=_;rw[d];by_cases c:x=name
   ·simp[c]
   ·simp[c,←b]
  |none=>
   rw[q']at d;by_cases c:x=name<;>simp[c]at d
 |none=>
  rw[q]at b d;simp only[o,Xz,Yu,Option.some.injEq]at b;cases q':(putL name hsh (.str name t) v es).find? (·.key.isStr x)with
  |some e'=>
   rw[q']at d;simp only[Option.map_some,Option.map_none]at d;show some (some e'.val)=_;rw[d];by_cases c:x=name
   ·simp[c]
   ·simp[c]at d
  |none=>
   rw[q']at d;simp only[r,Xz,Yu];by_cases c:x=name
   ·simp[c]at d
   ·simp[c,←b]
theorem dU (name:Str) (hsh:Int) (key v:Value):∀es:List DictEntry,(putL name hsh key v es).length≤es.length+1
 |[]=>Xy _
 |e::r=>by
  dsimp only[putL];split
  ·simp
  ·have:=dU name hsh key v r
   simp only[Yc];exact Z69 this
theorem pW:cJ (dictOf [] 0) (λZ=>none) 0:=⟨[],0,rfl,λZ=>rfl,Xy _⟩
theorem cJ.put {es:List DictEntry} {m:Str->Option Value} {k:Nat} (name:Str) (hsh:Int) (t:Tok) (v:Value) (g:∀x,getL x es=some (m x)) (z:es.length≤k) (n':Nat):
  cJ (dictOf (putL name hsh (.str name t) v es) n') (λx=>if x=name then some v else m x) (k+1):=⟨_,_,rfl,lY name hsh t v es m g,WX (dU ..) (Zo z 1)⟩
section
variable {prog:Program} {w:World} {A:Around} {E:Value->Shared->Prop} {h:Heap} {gn:Array GenState} {d:Drawn} {t:Nat} {os:OsState} {K:Frag} {L x dx C:Addr} {h₀:Heap} {m:Str->Option Value} {news news':bu} {o:Obj} {ns:List Str} {vs vs':List (Option Value)} {name:Str} {v:Value} {k:Nat}
noncomputable def kM (K:Frag) (C:Addr) (name:Str):Bool:=plainGet K C name&&hasDictIn K C&&(findIn K (.ref C) name).any (noGet K)
noncomputable def gi (K:Frag) (C:Addr) (name:Str):Bool:=findIn K (.ref C) "__setattr__"==some (some (.builtin "object.__setattr__"))&&plainOver K C&&takerIn K C name==some none&&hasDictIn K C
theorem gb (N:News h₀ L h news) (i1:In (x,instObj C dx) news) (i2:In (dx,o) news):InstAt h x (instObj C dx) C (some o):=⟨(N _ i1.mem).1,rfl,rfl,(N _ i2.mem).1⟩
variable {mm:Str->Option Value} {Q:Value->Shared->Prop}
theorem XdZ {expr:Bool} (F:Fr h₀ L h m) (X:K.In h₀) (I:InstAt h x (instObj C dx) C (some o)) (D:cJ o mm k) (P:mm name=some v)
  (c:kM K C name=true) (hv:handedIn v=true) (q:Q v ⟨h,gn,d,t+1,os⟩):wpAny (model prog w) A (getAttr (.ref x) name expr) Q E ⟨h,gn,d,t,os⟩:=by
 refine jC D.is λi n a g Z=>?_;obtain rfl:=a;unfold kM at c;simp only[WU]at c;refine bn (ZK c.2) λb e f=>?_;exact get_own F X I c.1.1 c.1.2 e f (by rw[g,P]) hv q
variable {u':Obj->bu} {Q:Unit->Shared->Prop}
theorem XfQ (F:Fr h₀ L h m) (X:K.In h₀) (N:News h₀ L h news) (kk:aY news) (i1:In (x,instObj C dx) news) (D:cJ o mm k) (hk:k≤900)
  (c:gi K C name=true) (u:∀o',dC dx o o' news (u' o'))
  (q:∀o' h',cJ o' (λy=>if y=name then some v else mm y) (k+1)->Fr h₀ L h' m->News h₀ L h' (u' o')->aY (u' o')->Q () ⟨h',gn,d,t+2,os⟩):
  wpAny (model prog w) A (setAttr (.ref x) name v) Q E ⟨h,gn,d,t,os⟩:=by
 refine jC D.is λa n b g z=>?_;obtain rfl:=b;unfold gi at c;simp only[WU,Xu]at c;have U:=(u (dictOf (putL name (PyData.keyHash w.params name) (.str name (t+1)) v a) (putN name a n))).go kk;exact set_dict F X N ⟨(N _ i1.mem).1,rfl,rfl,(N _ (Upd.mem ((u (dictOf a n)).go kk))).1⟩ rfl c.1.1.1 c.1.1.2 c.1.2 c.2 (by rw[g];rfl) rfl U (WX (dU ..) (by lia))
  λh' f e=>q _ h' (cJ.put name _ _ v g z _) f e (kk.upd U)
noncomputable def kb (K:Frag) (C:Addr) (name:Str) (f:Addr):Bool:=plainGet K C name&&findIn K (.ref C) name==some (some (.ref f))&&isFn K (.ref f)
variable {f:Addr} {s:Shared}
theorem OK {pl:Sem Bool} {Q:Value×List Value->Shared->Prop} (F:Fr h₀ L s.heap m) (X:K.In h₀) (I:InstAt s.heap x (instObj C dx) C (some o)) (D:cJ o mm k) (P:mm name=none)
  (c:kb K C name f=true) (q:Q (.ref f,[.ref x]) s):wpAny (model prog w) A (getMethod (.ref x) name pl) Q E s:=by
 refine jC D.is λb n a g Z=>?_;obtain rfl:=a;unfold kb at c;simp only[WU,Xu]at c;exact method_inst F X I c.1.1 c.1.2 c.2 (by rw[g,P]) q
variable {l:Addr} {env:Env} {pos:Pos} {i j:Int} {a b u u':Tok} {nm:Str} {sc:Scope} {ad:Addr} {cd:Value} {Q:Value->Shared->Prop}
theorem Xci (q:Q (.int i t) ⟨h,gn,d,t+1,os⟩) {kk}:wpAny (model prog w) A (eval (.Constant (.int i) kk pos) env) Q E ⟨h,gn,d,t,os⟩:=wpAny_Constant_int q
theorem Xbq {z:Str} (q:Q (.str z t) ⟨h,gn,d,t+1,os⟩) {kk}:wpAny (model prog w) A (eval (.Constant (.str z) kk pos) env) Q E ⟨h,gn,d,t,os⟩:=wpAny_Constant_str q
theorem XcJ (q:Q (.int (i+j) t) ⟨h,gn,d,t+1,os⟩):wpAny (model prog w) A (binaryOp .Add (.int i a) (.int j b)) Q E ⟨h,gn,d,t,os⟩:=add_int q
theorem Xes (q:Q (.int (i - j) t) ⟨h,gn,d,t+1,os⟩):wpAny (model prog w) A (binaryOp .Sub (.int i a) (.int j b)) Q E ⟨h,gn,d,t,os⟩:=sub_int q
theorem N3 (q:Q (.int (i+j) t) ⟨h,gn,d,t+1,os⟩):wpAny (model prog w) A (inplaceOp .Add (.int i a) (.int j b)) Q E ⟨h,gn,d,t,os⟩:=AutoIntOps.iadd_0 q
theorem Xd7 (q:Q (.int (i*j) t) ⟨h,gn,d,t+1,os⟩) (hm:IntMulOk i j):wpAny (model prog w) A (binaryOp .Mult (.int i a) (.int j b)) Q E ⟨h,gn,d,t,os⟩:=mul_int q hm
theorem XbM (hj:0<j) (q:Q (.int (i % j) t) ⟨h,gn,d,t+1,os⟩):wpAny (model prog w) A (binaryOp .Mod (.int i a) (.int j b)) Q E ⟨h,gn,d,t,os⟩:=
 mod_int' (tQ hj) (by rw[Int.fmod_eq_emod_of_nonneg _ (Hc hj)];exact q)
theorem XbR (hj:0<j) (hj2:j<1073741824) (q:Q (.int (i / j) t) ⟨h,gn,d,t+1,os⟩):wpAny (model prog w) A (binaryOp .FloorDiv (.int i a) (.int j b)) Q E ⟨h,gn,d,t,os⟩:=
 floordiv_int (tQ hj) (by rw[Int.fdiv_eq_ediv_of_nonneg _ (Hc hj)];exact q) (.inl (PyProof.noPylong_small (by lia)))
theorem Xdb (h0:0≤i) (h1:i<2 ^ 64) (hj:0≤j) (hj2:j≤1000) (q:Q (.int (i ^ j.toNat) t) ⟨h,gn,d,t+1,os⟩):wpAny (model prog w) A (binaryOp .Pow (.int i a) (.int j b)) Q E ⟨h,gn,d,t,os⟩:=
 pow_int_small hj (vc hj2) (by lia) q
variable {Q:Unit->Shared->Prop}
theorem stE (S:g9 env L ns) (F:Fr h₀ L h (bT ns vs)) (N:News h₀ L h news) (P:sk nm v ns vs vs')
  (q:∀h',Fr h₀ L h' (bT ns vs')->News h₀ L h' news->Q () ⟨h',gn,d,t+1,os⟩):wpAny (model prog w) A (storeName env nm v) Q E ⟨h,gn,d,t,os⟩:=stS S F N P q
variable {xs:List Value} {n:Nat} {Q:Value->Shared->Prop}
theorem VL {value slice:Expr} (N:News h₀ L h news) (hm:In (l,aL xs n) news) (hk:(decide (0≤i)&&decide (i<2 ^ 63))=true) (hx:xs[i.toNat]?=some v)
  (q:Q v ⟨h,gn,d,t,os⟩) (hs:subscripted slice false (.ref l) (.int i u)=operate [.ref l,.int i u] (getItem (.ref l) (.int i u))):
  wpAny (model prog w) A (subscriptTail value slice (.ref l) (.int i u)) Q E ⟨h,gn,d,t,os⟩:=RU N hm.mem hk hx q hs
noncomputable abbrev cR (xs:List Value):Obj:={cls:=.type "tuple",data:=.seq xs.toArray}
theorem vm (F:Fr h₀ L h m) (N:News h₀ L h news) (kk:aY news) (hz:xs.length≤1000)
  (q:∀D h',Fr h₀ L h' m->News h₀ L h' ((D,cR xs)::news)->aY ((D,cR xs)::news)->Q (.ref D) ⟨h',gn,d,t,os⟩):wpAny (model prog w) A (newTuple xs) Q E ⟨h,gn,d,t,os⟩:=
 kup_newTuple F N (λD h' c a b=>q D h' c a (kk.cons b)) (WX hz (by decide))
theorem lP (F:Fr h₀ L h m) (N:News h₀ L h news) (kk:aY news) (hz:xs.length≤1000)
  (q:∀D h',Fr h₀ L h' m->News h₀ L h' ((D,aL xs 0)::news)->aY ((D,aL xs 0)::news)->Q (.ref D) ⟨h',gn,d,t,os⟩):wpAny (model prog w) A (newList xs) Q E ⟨h,gn,d,t,os⟩:=
 newList_K F N (λD h' c a b=>q D h' c a (kk.cons b)) (WX hz (by decide))
theorem gh (N:News h₀ L h news) (hm:In (l,cR xs) news):IsTup h l xs.toArray:=News.isTup N hm.mem
variable {Q:Unit->Shared->Prop}
theorem xN {elts:List Expr} {kt:Nat} (F:Fr h₀ L h m) (N:News h₀ L h news) (hm:In (l,cR xs) news) (hh:A.handled=none)
  (hn:(assignEach elts env).length=xs.length) (hs:(assignEach elts env).findIdx? (·.1)=none)
  (q:∀h',Fr h₀ L h' m->News h₀ L h' news->wpAny (model prog w) A (assignInOrder ((assignEach elts env).map (·.2)) xs) Q E ⟨h',gn,d,t,os⟩):
  wpAny (model prog w) A (assign (.Tuple elts kt pos) env (.ref l)) Q E ⟨h,gn,d,t,os⟩:=
 unpackN_ F N (gh N hm) hh (by simpa using hn) hs λh' b a=>by simpa using q h' b a
theorem nN (q:wpAny (model prog w) A (storeName env nm v) Q E s):wpAny (model prog w) A (assign (.Name nm pos) env v) Q E s:=
 WV (Yr (YV q))
theorem zL (q:Q () s):wpAny (model prog w) A (assignInOrder ((assignEach [] env).map (·.2)) []) Q E s:=W1 q
theorem vJ {e:Expr} {r:List Expr} {y:Value} {ys:List Value} (q:wpAny (model prog w) A (assign e env y) (λZ s₁=>wpAny (model prog w) A (assignInOrder ((assignEach r env).map (·.2)) ys) Q E s₁) E s)
  (he:assignEach (e::r) env=(false,assign e env)::assignEach r env):wpAny (model prog w) A (assignInOrder ((assignEach (e::r) env).map (·.2)) (y::ys)) Q E s:=by
 rw[he];exact Yv q
theorem qc {o ix:Expr} (q:wpAny (model prog w) A (eval o env) (λov s₁=>wpAny (model prog w) A (eval ix env) (λiv s₂=>wpAny (model prog w) A (setItem ov iv v) Q E s₂) E s₁) E s):
  wpAny (model prog w) A (assign (.Subscript o ix pos) env v) Q E s:=by
 show wpAny _ _ (holding [v] (eval o env)>>=_) _ _ _;refine WV (XH (Ym q (λov s₁ b=>WV (XH (Ym b (λiv s₂ c=>WV (Yr (WV (XH (Ym c (λZ d a=>?_) λZ Z e=>e))))) λZ Z e=>e))) λZ Z e=>e));intro g p f;rw[Sem.wp_release];exact a
theorem rL {u':Obj->bu} (F:Fr h₀ L h m) (N:News h₀ L h news) (kk:aY news) (U:∀o',dC l (aL xs n) o' news (u' o')) (hk:(decide (0≤i)&&decide (i<2 ^ 63)&&decide (i.toNat<xs.length))=true)
  (q:∀h',Fr h₀ L h' m->News h₀ L h' (u' (aL (xs.set i.toNat v) n))->aY (u' (aL (xs.set i.toNat v) n))->Q () ⟨h',gn,d,t,os⟩):
  wpAny (model prog w) A (setItem (.ref l) (.int i a) v) Q E ⟨h,gn,d,t,os⟩:=by
 simp only[WU,XZ]at hk;have e:=λh' o c=>q h' o c (kk.upd ((U (aL (xs.set i.toNat v) n)).go kk));refine ux ((U (aL (xs.set i.toNat v) n)).go kk).split λj b f p k g=>?_;refine ki_setAt (N _ (Upd.mem ((U (aL xs n)).go kk))).1 hk.1.1 hk.1.2 (by simp;exact Mc hk.1.1 hk.2) (e _ (F.change (Heap.SameBut.update ..) (N _ (Upd.mem ((U (aL xs n)).go kk))).2.1 (N _ (Upd.mem ((U (aL xs n)).go kk))).2.2) ?_);rw[p];subst f;refine ki_turn _ N k g ?_ ?_
 ·apply Array.toList_inj.mp
  simp
 ·simp
noncomputable abbrev Lg (b:Addr×Obj) (W T R:bu):bu:=b::(W++(T++R))
variable {b e:Addr×Obj} {W T R:bu} {q:Addr×Obj}
theorem Cm:q∈Lg b W T (e::R)↔q∈e::Lg b W T R:=by
 simp only[WY,W6];constructor
 ·rintro(h|h|h|h|h)<;>simp[h]
 ·rintro(h|h|h|h|h)<;>simp[h]
theorem zf {g h:Heap} (N:News g L h (e::Lg b W T R)):News g L h (Lg b W T (e::R)):=λq a=>N q (Cm.mp a)
theorem yu (k:aY (e::Lg b W T R)):aY (Lg b W T (e::R)):=by
 refine⟨List.Perm.nodup ?_ k.nd⟩;refine List.Perm.map _ ?_;refine(List.Perm.swap b e _).trans (List.Perm.cons b ?_);rw[←List.append_assoc,←List.append_assoc];exact List.perm_middle.symm
noncomputable def fZ:Flow->Value
 |.ret v=>v
 |_=>.none
def IA (g:Heap) (R:Result->Shared->Prop) (fl:Flow) (s':Shared):Prop:=mS g R (fZ fl) s'
def pR (prog:Program) (w:World) (A:Around) (env:Env) (R:Result->Shared->Prop) (e:Value) (s':Shared):Prop:=
 wpAny (model prog w) (A.deeper env) (leaving env e) (λZ s''=>R (.error e) s'') (λe' s''=>R (.error e') s'') s'
variable {p:Program} {loose:List Str} {mean:ExcName->Option Value} {mg mb:Str->Option Value} {base g:Heap} {outer:List Env} {l:bu} {R:Result->Shared->Prop} {h0:Heap}
noncomputable def iC (K:Frag) (scope:Scope) (ns:List Str) (cdv:Value) (qual:Str):Bool:=codeIn K cdv qual&&jp scope ns&&(!scope.isCoroutine&& !scope.isGenerator&&scope.names.all λx=>x.2 != .cell)
variable {body:List Stmt} {scope:Scope} {osl:Array (Option Value)}
theorem GS (ns:List Str) (vs:List (Option Value)) {name qual:Str} {params:Arguments} {dV kV doc pm cdv ct oc:Value} {an od:Option Addr} {args:Args}
  (rm:db A (n+1)) (c:Cx w p loose mean mg mb A base outer g l h0)
  (ho:(HK w.params).lookup f=some ⟨oc,od,.func (fnOf name qual params body scope dV kV doc pm an cdv ct),osl⟩)
  (hc:iC (HK w.params) scope ns cdv qual=true)
  (hbind:BindsTo ⟨h0,gn,d,t,os⟩ (fnOf name qual params body scope dV kV doc pm an cdv ct) args (bB ns vs))
  (h:∀L' h₁ t₁,(A.deeper (envOf qual scope L' f cdv)).handled=none->Gd (A.deeper (envOf qual scope L' f cdv)) (envOf qual scope L' f cdv) outer L'->db (A.deeper (envOf qual scope L' f cdv)) n->g9 (envOf qual scope L' f cdv) L' ns->Fr g L' h₁ (bT ns vs)->News g L' h₁ l->Below A base outer g->(HK w.params).In g->Top p loose mean mg mb g->(HK w.params).In base->Top p loose mean mg mb base->aY l->
   wpAny (model prog w) (A.deeper (envOf qual scope L' f cdv)) (execs body (envOf qual scope L' f cdv)) (IA g R) (pR prog w A (envOf qual scope L' f cdv) R) ⟨h₁,gn,d,t₁,os⟩):codeAny (model prog w) A (.call (.ref f) args) R ⟨h0,gn,d,t,os⟩:=by
 unfold iC at hc;rw[WU,WU]at hc;exact Aq (s:=⟨h0,gn,d,t,os⟩) ns vs c ho hc.1.1 rm.lt hc.1.2 hbind (λL' h₁ S F N B X T k=>Ym (h L' h₁ _ rm.hd ⟨Zs B.stack,rfl,S.kind⟩ (rm.deeper (Xy _)) S F N B X T c.X c.T k) (λfl a z=>by cases fl<;>exact z) λe a z=>z) hc.2
theorem LE {X Y:Prop} (h:X):if true=true then X else Y:=h
theorem XcS {X Y:Prop} (h:Y):if false=true then X else Y:=h
def rq (Q:Value->Shared->Prop) (E:Value->Shared->Prop) (r:Result) (s':Shared):Prop:=match r with
 |.ok (.ret v)=>Q v s'
 |.ok _=>False
 |.error e=>E e s'
variable {M:Model} {Q:Value->Shared->Prop} {f:Value} {pos:List Value} {kw:List (Str×Value)} {e:Value}
theorem O0 (q:codeAny M A (.call f ⟨pos,kw⟩) (rq Q E) s):wpAny M A (call f pos kw) Q E s:=ZE (YZ q λr a z=>by
 rcases r with e|(v|_|_|_)<;>exact z)
variable {A':Around} {h':Heap} {l':bu} {a:Addr}
theorem OY (XB:(HK w.params).In base) (TB:Top p loose mean mg mb base) (B:Below A base outer h₀) (F:Fr h₀ L h m) (N:News h₀ L h l) (k:aY l) (G:Gd A' env outer L):
  Cx w p loose mean mg mb A' base (env::outer) (hideAll h (l.map (·.1))) l h:=
 ye XB TB B F N k G.fr G.ke G.fs
theorem zj {vals:List Value} (XB:(HK w.params).In base) (TB:Top p loose mean mg mb base) (B:Below A base outer h₀) (F:Fr h₀ L h m) (N:News h₀ L h l) (k:aY l) (G:Gd A' env outer L):
  Cx w p loose mean mg mb (A'.under (.builtin "type.__call__" ⟨.ref C::vals,kw⟩)) base (env::outer) (hideAll h (l.map (·.1))) l h:=
 ye XB TB B F N k G.fr G.ke G.fs
def ck (K:Frag) (M:Model) (A:Around) (f:Value) (first:List Value) (Q:Value->Shared->Prop) (E:Value->Shared->Prop) (vs:List Value) (s:Shared):Prop:=K.In s.heap∧wpAny M A (call f (first++vs)) Q E s
def cb (M:Model) (A:Around) (f:Value) (first:List Value) (Q:Value->Shared->Prop) (E:Value->Shared->Prop) (vs:List Value) (s:Shared):Prop:=wpAny M A (call f (first++vs)) Q E s
variable {pos:Pos} {first vs:List Value} {e:Expr} {rest:List Expr} {a b:Value} {id:String} {fa:Addr}
theorem cwF (X:K.In h₀) (hk:keepIn K (.ref fa)=true) (q:wpAny M A (spliced (backTo pos (starEach (e::rest) env))) (ck K M A (.ref fa) first Q E) E s)
  (he:starEach (e::rest) env=(false,eval e env)::starEach rest env) (hplain:(backTo pos (starEach rest env)).any (·.1)=false):
  wpAny M A (callWith pos (.ref fa) first (backTo pos (starEach (e::rest) env)) []) Q E s:=callWith_K X hk q he hplain
theorem Xe3 (X:K.In h₀) (F:Fr h₀ L h m) (hk:keepIn K (.ref fa)=true) (q:wpAny M A (call (.ref fa) []) Q E ⟨h,gn,d,t,os⟩):
  wpAny M A (callWith pos (.ref fa) [] (backTo pos (starEach [] env)) []) Q E ⟨h,gn,d,t,os⟩:=callWith_K0 (X.keeps F.keep) hk q
theorem XeI (X:K.In h₀) (F:Fr h₀ L h m) (hk:keepIn K (.ref fa)=true) (q:wpAny M A (call (.ref fa) [a]) Q E ⟨h,gn,d,t,os⟩):
  wpAny M A (callWith pos (.ref fa) [a] (backTo pos (starEach [] env)) []) Q E ⟨h,gn,d,t,os⟩:=callWith_K0 (X.keeps F.keep) hk q
theorem cwB (q:wpAny M A (spliced (backTo pos (starEach (e::rest) env))) (cb M A (.builtin id) first Q E) E s)
  (he:starEach (e::rest) env=(false,eval e env)::starEach rest env) (hplain:(backTo pos (starEach rest env)).any (·.1)=false):
  wpAny M A (callWith pos (.builtin id) first (backTo pos (starEach (e::rest) env)) []) Q E s:=callWith_method1 q he hplain
def Sub (l' l:bu):Prop:=∀P:Addr×Obj->Nat,(l'.map P).sum≤(l.map P).sum
variable {P:Addr×Obj->Nat}
theorem n0 {l:bu}:0<(l.map P).sum->∃q∈l,0<P q:=by
 induction l with
 |nil=>intro h;cases h
 |cons a l ih=>
  intro h;rw[W4,XD]at h;by_cases ha:0<P a
  ·exact(bv a (.head _) ha)
  ·refine bn (ih (by lia)) λq b c=>?_
   exact(bv q (.tail _ b) c)
theorem n6 (h:q∈l) (hp:0<P q):0<(l.map P).sum:=by
 induction h with
 |head=>rw[W4,XD];exact Z40 hp
 |tail _ _ ih=>rw[W4,XD];exact Z44 ih
open Classical in
theorem Sub.mem {l' l:bu} (s:Sub l' l):∀q∈l',q∈l:=λq c=>by
 refine bn (n0 (Xi (n6 c (by simp)) (s λp=>if p=q then 1 else 0))) λb a d=>?_;by_cases e:b=q
 ·exact e▸a
 ·simp[e]at d
theorem fN:(l.map (·.1)).Nodup↔∀a:Addr,(l.map λp=>if p.1=a then 1 else 0).sum≤1:=by
 induction l with
 |nil=>simp
 |cons b l ih=>
  rw[W4,W2,ih];constructor
  ·rintro⟨g,i⟩ a
   rw[W4,XD];by_cases e:b.1=a
   ·have:(l.map λp=>if p.1=a then 1 else 0).sum=0:=by
     cases z:(l.map λp=>if p.1=a then 1 else 0).sum with
     |zero=>rfl
     |succ n=>
      refine bn (n0 (l:=l) (P:=λp=>if p.1=a then 1 else 0) (Z71 z)) λq c d=>?_;by_cases e':q.1=a
      ·exact absurd (e'.trans e.symm▸Xm (f:=λp:Addr×Obj=>p.1) c) g
      ·simp[e']at d
    rw[this];simp[e]
   ·simp only[e,Yu];have:=i a;exact Z58 this (by decide)
  ·intro h
   refine⟨λm=>?_,λa=>?_⟩
   ·refine bn (Xb.mp m) λq c e=>?_
    have:=h b.1;rw[W4,XD]at this;have:=n6 (P:=λp=>if p.1=b.1 then 1 else 0) c (by show 0<if q.1=b.1 then 1 else 0;rw[Xn e];exact Nat.one_pos);simp at*;lia
   ·have:=h a
    rw[W4,XD]at this;exact Z63 this
theorem aY.sub (k:aY l) (s:Sub l' l):aY l':=⟨fN.mpr λa=>WX (s _) (fN.mp k.nd a)⟩
theorem kG (N:News g L h l) (s:Sub l' l):News g L h l':=λq a=>N q (s.mem q a)
variable {vs:List (Option Value)}
theorem mD {hsh:Int} {key v:Value}:∀{es:List DictEntry},(es.find? (·.key.isStr name)).isSome=true->(putL name hsh key v es).length=es.length
 |[],h=>by simp at h
 |e::r,h=>by
  unfold putL;split
  ·rfl
  ·rename_i hk
   rw[Yy]at h;have a:e.key.isStr name=false:=by simpa using hk
   simp only[a]at h;simp[mD h]
variable {a:Addr} {kvs:List (Str×Value)} {x:Str}
abbrev SD (prog:Program) (w:World) (o:Obj) (kvs:List (Str×Value)):Prop:=o.IsDictOf (strKind prog w) kvs
theorem jM:SD prog w (dictOf [] 0) []:=by
 refine bn (X7.mp (Heap.DictOf.new (knd:=strKind prog w) ({}:Heap))) λo a b=>?_;rw[XN _ rfl]at a;have e:(dictOf [] 0:Obj)=o:=W7 a;rw[e];exact b
theorem lv (N:News h₀ L h news) (i:In (a,o) news) (D:SD prog w o kvs) (lo:(a==sysModules)=false)
  (q:Q ((valueAt kvs x).getD .none) ⟨h,gn,d,t+1,os⟩):wpAny (model prog w) A (call (.builtin "dict.get") [.ref a,.str x u]) Q E ⟨h,gn,d,t,os⟩:=by
 have b:h.MapOf (strKind prog w) a (valueAt kvs):=(X7.mpr (bv o (N.get i.mem) D):h.DictOf (strKind prog w) a kvs).mapOf;refine Zm (s:=⟨h,gn,d,t,os⟩) F.slot_dict_get b.typeIs F.entry_dict_get ?_ (F.args_dict_get_2 _ _);show wpAny _ _ (dictGet a _>>=_) _ _ _;refine WV (wpAny_dictGet_of (strKind_is prog w x u) b ?_);cases hf:valueAt kvs x with
 |some v=>rw[hf]at q;exact W1 (bv v rfl q)
 |none=>
  rw[hf]at q;exact WV (wpAny_missed_other lo (W1 (bv .none rfl q)))
theorem inD (N:News h₀ L h news) (i:In (a,o) news) (D:SD prog w o kvs) (lo:(a==sysModules)=false)
  (q:Q (.bool (valueAt kvs x).isSome) ⟨h,gn,d,t+1,os⟩):wpAny (model prog w) A (compareOp .In (.str x u) (.ref a)) Q E ⟨h,gn,d,t,os⟩:=
 wpAny_in_of (strKind_is prog w x u) lo (X7.mpr (bv o (N.get i.mem) D):h.DictOf (strKind prog w) a kvs).mapOf q
variable {Q:Unit->Shared->Prop}
theorem WC {u':Obj->bu} (F:Fr h₀ L h m) (N:News h₀ L h news) (kk:aY news) (D:SD prog w o kvs) (hz:kvs.length≤1000) (U:∀o',dC a o o' news (u' o'))
  (q:∀o' h',SD prog w o' (stored kvs x v)->Fr h₀ L h' m->News h₀ L h' (u' o')->aY (u' o')->Q () ⟨h',gn,d,t+1,os⟩):wpAny (model prog w) A (setItem (.ref a) (.str x u) v) Q E ⟨h,gn,d,t,os⟩:=by
 refine wpAny_setItem_pairs (s:=⟨h,gn,d,t,os⟩) (hsz:=by rw[XI];exact Z1 hz) (strKind_is prog w x u) (X7.mpr (bv o (N _ ((U o).mem)).1 D)) λh' c i=>?_;refine bn (X7.mp c) λo' f b=>?_;have V:=(U o').go kk;have e:=kk.upd V;refine ux V.split λk g j p n l=>?_;refine q o' h' b (F.change i (N _ ((U o).mem)).2.1 (N _ ((U o).mem)).2.2) ?_ e;rw[p];rw[j]at N;exact N.setAt n l i f
variable {Q:Value->Shared->Prop}
theorem ug (F:Fr h₀ L h m) (N:News h₀ L h news) (kk:aY news) (lim:h₀.NoLimit)
  (q:∀D h',(D==sysModules)=false->Fr h₀ L h' m->News h₀ L h' ((D,dictOf [] 0)::news)->aY ((D,dictOf [] 0)::news)->Q (.ref D) ⟨h',gn,d,t,os⟩):wpAny (model prog w) A (eval (.Dict [] [] pos) env) Q E ⟨h,gn,d,t,os⟩:=
 wpAny_Dict_empty (q _ _ (F.notModules (modules_low lim)) (F.push _) (News.push F N _) (kk.cons λp a=>Xe (N p a).1))
end
structure cV (env:Env) (x:Str) (c:Addr):Prop where
 kd:env.kindOf x=some .cell
 at_:env.cells.lookup x=some c
 fn:env.scope.kind=.function
def fj (o:Obj) (v:Option Value):Prop:=o.data=.cell v
section
variable {prog:Program} {w:World} {A:Around} {E:Value->Shared->Prop} {h:Heap} {gn:Array GenState} {d:Drawn} {t:Nat} {os:OsState} {L c:Addr} {h₀:Heap} {m:Str->Option Value} {news:bu} {o:Obj} {x:Str} {v:Value} {env:Env} {pos:Pos} {Q:Value->Shared->Prop}
theorem sH (N:News h₀ L h news) (K:cV env x c) (i:In (c,o) news) (D:fj o (some v)) (hd:(!(x==("__debug__":Str)))=true) (q:Q v ⟨h,gn,d,t,os⟩):wpAny (model prog w) A (eval (.Name x pos) env) Q E ⟨h,gn,d,t,os⟩:=
 Z8 (wpAny_loadName_cell K.fn K.kd K.at_ (bv o (N.get i.mem) D) q) (by simpa using hd)
theorem Ep {u':Obj->bu} {v₀:Option Value} {Q:Unit->Shared->Prop} (F:Fr h₀ L h m) (N:News h₀ L h news) (kk:aY news) (K:cV env x c) (D:fj o v₀) (U:∀o',dC c o o' news (u' o'))
  (q:∀o' h',fj o' (some v)->Fr h₀ L h' m->News h₀ L h' (u' o')->aY (u' o')->Q () ⟨h',gn,d,t,os⟩):wpAny (model prog w) A (storeName env x v) Q E ⟨h,gn,d,t,os⟩:=by
 refine wpAny_storeName_cell K.fn K.kd K.at_ (bv o (N _ (U o).mem).1 D) λh' l g=>?_;refine bn l λo' e a=>?_;have V:=(U o').go kk;have b:=kk.upd V;refine ux V.split λj f i p n k=>?_;refine q o' h' a (F.change g (N _ (U o).mem).2.1 (N _ (U o).mem).2.2) ?_ b;rw[p];rw[i]at N;exact N.setAt n k g e
end
inductive fk (env:Env):List (Str×Option Value)->bu->Prop
 |nil:fk env [] []
 |cons {x v c o r l}:cV env x c->fj o v->fk env r l->fk env ((x,v)::r) ((c,o)::l)
section
variable {b:Addr×Obj}
theorem xK {W T R cs:bu} {q:Addr×Obj}:q∈Lg b W T (cs++R)↔q∈cs++Lg b W T R:=by
 simp only[WY,W6];constructor
 ·rintro(h|h|h|h|h)<;>simp[h]
 ·rintro(h|h|h|h|h)<;>simp[h]
theorem GG {g h:Heap} {L:Addr} {W T R cs:bu} (N:News g L h (cs++Lg b W T R)):News g L h (Lg b W T (cs++R)):=λq a=>N q (xK.mp a)
theorem lS (kindOf:Str->Option NameKind):∀(binds:List (Str×Value)) (m:Str->Option Value) (y:Str),
  bindL kindOf binds m y=match(binds.filter λx=>kindOf x.1==some .local).reverse.lookup y with|some v=>some v|none=>m y
 |[],m,y=>rfl
 |(n,v)::r,m,y=>by
  dsimp only[bindL];rw[lS kindOf r];by_cases hk:kindOf n=some .local
  ·have a:(kindOf n==some .local)=true:=by simp[hk]
   rw[Y0];simp only[hk,ZO,a,List.reverse_cons,List.lookup_append,YF];cases h:(r.filter λx=>kindOf x.1==some .local).reverse.lookup y with
   |some z=>rfl
   |none=>
    simp only[Option.none_or,Xk,List.lookup_nil];by_cases hy:y=n
    ·subst hy;simp
    ·have:(y==n)=false:=by simpa using hy
     simp[this,hy]
  ·have a:(kindOf n==some .local)=false:=by simpa using hk
   rw[Y0];simp only[hk,Yu,a,Xz]
variable {prog:Program} {w:World} {p:Program} {loose:List Str} {mean:ExcName->Option Value} {mg mb:Str->Option Value} {A:Around} {base g:Heap} {outer:List Env} {R:Result->Shared->Prop} {h0:Heap} {gn:Array GenState} {d:Drawn} {t:Nat} {os:OsState}
noncomputable def iT (K:Frag) (scope:Scope) (ns cn:List Str) (cdv:Value) (qual:Str):Bool:=
 codeIn K cdv qual&&jp scope ns&&(!scope.isCoroutine&& !scope.isGenerator)&&((cellsFrom 0 scope.names []).map (·.1)==cn)&&decide cn.Nodup&&cn.all (λx=>scope.names.lookup x==some .cell)
variable {env:Env}
theorem pN {cm:Str->Option Value} {cs:List (Str×Addr)} {cells:bu} (x:CellsAre cm cs cells) (h:∀n c,(n,c)∈cs->cV env n c):fk env (cs.map λx=>(x.1,cm x.1)) cells:=by
 induction x with
 |nil=>exact .nil
 |cons e r ih=>exact .cons (h _ _ (.head _)) e (ih λb d a=>h b d (.tail _ a))
variable {scope:Scope}
theorem Aw (ns:List Str) (vs:List (Option Value)) (cv:List (Str×Option Value)) {name qual:Str} {params:Arguments} {body:List Stmt} {dV kV doc pm cdv ct oc:Value} {an od:Option Addr} {osl:Array (Option Value)} {f:Addr} {args:Args} {n:Nat}
  {binds:List (Str×Value)} {W T I:bu}
  (rm:db A (n+1)) (c:Cx w p loose mean mg mb A base outer g (Lg b W T I) h0)
  (ho:(HK w.params).lookup f=some ⟨oc,od,.func (fnOf name qual params body scope dV kV doc pm an cdv ct),osl⟩)
  (hc:iT (HK w.params) scope ns (cv.map (·.1)) cdv qual=true)
  (hbind:BindsTo ⟨h0,gn,d,t,os⟩ (fnOf name qual params body scope dV kV doc pm an cdv ct) args binds)
  (hk:(binds.all λy=>scope.names.lookup y.1==some .local||scope.names.lookup y.1==some .cell)=true)
  (hl:(binds.filter λx=>scope.names.lookup x.1==some .local)=bB ns vs)
  (hv:(cv.map λx=>bindC (λy=>scope.names.lookup y) binds (λZ=>none) x.1)=cv.map (·.2))
  (h:∀L' h₁ t₁ cs,fk (envOfC qual scope L' f cdv) cv cs->(A.deeper (envOfC qual scope L' f cdv)).handled=none->Gd (A.deeper (envOfC qual scope L' f cdv)) (envOfC qual scope L' f cdv) outer L'->db (A.deeper (envOfC qual scope L' f cdv)) n->g9 (envOfC qual scope L' f cdv) L' ns->
   Fr g L' h₁ (bT ns vs)->News g L' h₁ (Lg b W T (cs++I))->Below A base outer g->(HK w.params).In g->Top p loose mean mg mb g->(HK w.params).In base->Top p loose mean mg mb base->aY (Lg b W T (cs++I))->
   wpAny (model prog w) (A.deeper (envOfC qual scope L' f cdv)) (execs body (envOfC qual scope L' f cdv)) (IA g R) (pR prog w A (envOfC qual scope L' f cdv) R) ⟨h₁,gn,d,t₁,os⟩):codeAny (model prog w) A (.call (.ref f) args) R ⟨h0,gn,d,t,os⟩:=by
 unfold iT at hc;simp only[WU,Xj,Xu,XZ]at hc;obtain⟨⟨⟨⟨⟨H,hS⟩,E,s⟩,L⟩,G⟩,J⟩:=hc;have S:=λL'=>kl (env:=envOfC qual scope L' f cdv) hS;have V:=c.X.keeps c.B.stays;have Xs:=V.keeps c.st;have Tg:=c.T.keeps c.B.stays;refine codeAny_call_function rm.lt (Xs _ _ ho) rfl E s rfl (codeRec_of Xs H) (hbind _ _ _ _ ?_);refine wpAny_newFunctionEnv_cells (S f).kind (kindsX hk _) λX he s' x=>?_;subst he;refine⟨(Tg.nolimit.keeps c.st).keeps x.toInCall.keep,codeAny_func ?_⟩;refine gM x.done λh₁ tk r Z=>?_;obtain rfl:=r;have j:=x.toInCall.keep;have m:(cellsFrom (h0.objs.size+1) scope.names []).map (·.1)=cv.map (·.1):=(cellsFrom_names scope.names (h0.objs.size+1) 0 [] [] rfl).trans L;have k:((cellsFrom (h0.objs.size+1) scope.names []).map (·.1)).Nodup:=by rw[m];exact G
 refine bn (Cl.news (h₀:=h0) (Xy _) λn c u=>⟨x.cell n c (lookup_of_mem_nodup k u),x.above n c u⟩) λi v Y=>?_;have FF:Fr g h0.objs.size h₁ (bT ns vs):=by
  refine⟨?_,λb o e=>(j:∀b o,h0.get? b=some o->h₁.get? b=some o) b o (c.st b o e),c.sz⟩;have e:bT ns vs=bindL (envOfC qual scope h0.objs.size f cdv).kindOf binds (λZ=>none):=by
   rw[←dD ns vs (S f).nd]
   funext y
   rw[lS];have e2:(binds.filter λx=>(envOfC qual scope h0.objs.size f cdv).kindOf x.1==some .local)=bB ns vs:=hl;rw[e2];cases(bB ns vs).reverse.lookup y<;>rfl
  rw[e];exact x.toInCall.ns
 have Q:fk (envOfC qual scope h0.objs.size f cdv) cv i:=by
  have z:=pN (env:=envOfC qual scope h0.objs.size f cdv) Y λn c u=>⟨?_,lookup_of_mem_nodup k u,(S f).kind⟩
  ·have e:(cellsFrom (h0.objs.size+1) scope.names []).map (λx=>(x.1,bindC (envOfC qual scope h0.objs.size f cdv).kindOf binds (λZ=>none) x.1))=cv:=by
    have e1:(cellsFrom (h0.objs.size+1) scope.names []).map (λx=>(x.1,bindC (envOfC qual scope h0.objs.size f cdv).kindOf binds (λZ=>none) x.1))=(cv.map (·.1)).map λn=>(n,bindC (envOfC qual scope h0.objs.size f cdv).kindOf binds (λZ=>none) n):=by
     rw[←m,Yp];rfl
    rw[e1,Yp];have C:∀x∈cv,bindC (envOfC qual scope h0.objs.size f cdv).kindOf binds (λZ=>none) x.1=x.2:=λx B=>(List.map_inj_left.mp hv) x B;refine(List.map_congr_left λx B=>?_).trans (List.map_id _);show(x.1,bindC _ binds (λZ=>none) x.1)=x;exact Yi _ (C x B)
   exact e▸z
  ·have F:n∈cv.map (·.1):=by rw[←m];exact Xm (f:=(·.1)) u
   have:=WZ.mp J n F;have this:scope.names.lookup n=some .cell:=by simpa using this
   exact this
 have U:News g h0.objs.size h₁ (i++Lg b W T I):=λq hq=>by
  rcases W6.mp hq with hq|hq
  ·refine⟨(v q hq).1,(v q hq).2.1,?_⟩
   cases z:g.get? q.1 with
   |none=>rfl
   |some o=>have:=(v q hq).2.2;rw[c.st _ _ z]at this;exact zG this
  ·exact⟨(j:∀b o,h0.get? b=some o->h₁.get? b=some o) _ _ (c.led q hq).1,XC ((λq hq=>Xe (c.led q hq).1:∀q∈Lg b W T I,q.1<h0.objs.size) q hq),(c.led q hq).2⟩
 have KK:aY (i++Lg b W T I):=by
  refine⟨?_⟩;rw[Xa];refine YS.mpr ⟨?_,c.keys.nd,λa ha b' hb e=>?_⟩
  ·have e:i.map (·.1)=(cellsFrom (h0.objs.size+1) scope.names []).map (·.2):=by
    clear v Q U hl hv;have K:∀{N:Str->Option Value} {cs:List (Str×Addr)} {l:bu},CellsAre N cs l->l.map (·.1)=cs.map (·.2):=by
     intro N cs l hy
     induction hy with
     |nil=>rfl
     |cons _ _ ih=>simp[ih]
    exact K Y
   rw[e];refine List.nodup_iff_pairwise_ne.mpr ?_;exact List.pairwise_map.mpr (x.apart.imp λM=>M)
  ·refine bn (Xb.mp ha) λq hq r=>?_;obtain rfl:=r
   refine bn (Xb.mp hb) λq' D e'=>?_;have O:=(v q hq).2.2;rw[e,←e',(c.led q' D).1]at O;exact zG O
 refine Ym (h _ h₁ tk i Q rm.hd ⟨Zs c.B.stack,rfl,(S f).kind⟩ (rm.deeper (Xy _)) (S _) FF (GG U) c.B V Tg c.X c.T (KK.sub λP=>by simp only[Lg,Xa,W4,X8,XD];exact Y30)) (λfl s' hl=>?_) λZ Z y=>y;cases fl<;>exact hl
end
structure It (prog:Program) (w:World) (I:Addr) (side:bu) (n:Nat) (P:Nat->Value->Prop) (St:Nat->Heap->Prop):Prop where
 W:∀A:Around,A.handled=none->Walks prog w A I (I::side.map (·.1)) [I] n P St
 live:∀i h,St i h->∃o,h.get? I=some o
section
variable {prog:Program} {w:World} {A:Around} {E:Value->Shared->Prop} {h:Heap} {gn:Array GenState} {d:Drawn} {t:Nat} {os:OsState} {L l:Addr} {h₀:Heap} {m:Str->Option Value} {b:Addr×Obj} {W T R:bu}
noncomputable abbrev Cc (a b c:Int) (t u v:Tok):Obj:={cls:=.type "range",dict:=none,data:=.fields #[.int a t,.int b u,.int c v],slots:= #[]}
noncomputable def eJ (cells:List (Str×Addr)):List (Str×NameKind)->List (Str×Addr)->Option (List (Str×Addr))
 |[],acc=>some acc
 |(n,k)::r,acc=>if k== .free then(match cells.lookup n with|some c=>eJ cells r ((n,c)::acc)|none=>none)else eJ cells r acc
variable {env:Env}
theorem dM:∀(names:List (Str×NameKind)) (acc cl:List (Str×Addr)),eJ env.cells names acc=some cl->
  (forIn names acc λx r=>(if x.2==NameKind.free then do let a ←cellOf env x.1;pure (ForInStep.yield ((x.1,a)::r))else pure (ForInStep.yield r):Sem (ForInStep (List (Str×Addr)))))=pure cl
 |[],acc,cl,h=>by obtain rfl:=jS h;rfl
 |(n,k)::r,acc,cl,h=>by
  dsimp only[eJ]at h;rw[Zw];by_cases hk:(k==NameKind.free)=true
  ·rw[Xn hk]at h
   simp only[hk,ZO];cases hc:env.cells.lookup n with
   |none=>rw[hc]at h;exact cX h
   |some c=>
    rw[hc]at h;rw[(by unfold cellOf;rw[hc]:cellOf env n=pure c)];exact dM r _ cl h
  ·rw[Xh hk]at h
   simp only[hk,Yu,Xz,pure_bind];exact dM r _ cl h
variable {scope:Scope} {cl:List (Str×Addr)}
theorem dK (h:eJ env.cells scope.names []=some cl):closureFor scope env=pure cl:=by
 have z:=dM _ _ _ h;have e:(λ(x:Str×NameKind) (r:List (Str×Addr))=>(if x.2==NameKind.free then do let a ←cellOf env x.1;pure (ForInStep.yield ((x.1,a)::r))else pure (ForInStep.yield r):Sem (ForInStep (List (Str×Addr)))))=(λx r=>match x with
  |(name,kind)=>if(kind==NameKind.free)=true then do let __do_lift ←cellOf env name;pure (ForInStep.yield ((name,__do_lift)::r))else pure (ForInStep.yield r)):=by
  funext x r;obtain⟨n,k⟩:=x;rfl
 rw[e]at z
 first
  |exact z
  |(simp only[z,pure_bind];done)
  |(show(_>>=_)=_;rw[z];rfl)
theorem cO {cells:List (Str×Addr)}:∀{names:List (Str×NameKind)} {acc cl:List (Str×Addr)} {x:Str},eJ cells names acc=some cl->(names.map (·.1)).Nodup->
  (x∉names.map (·.1)->cl.lookup x=acc.lookup x)∧(names.lookup x=some .free->cl.lookup x=cells.lookup x)
 |[],acc,cl,x,h,_=>by obtain rfl:=jS h;exact⟨λZ=>rfl,λh=>by exact cX h⟩
 |(n,k)::r,acc,cl,x,h,nd=>by
  dsimp only[eJ]at h;by_cases hk:(k==NameKind.free)=true
  ·rw[Xn hk]at h
   cases hc:cells.lookup n with
   |none=>rw[hc]at h;exact cX h
   |some c=>
    rw[hc]at h;have d:= @cO cells r _ cl x h (W2.mp nd).2;refine⟨λa=>?_,λa=>?_⟩
    ·have b:(x==n)=false:=by simpa usingλe:x=n=>a (e▸ .head _)
     rw[d.1 λm=>a (.tail _ m),Xk,b]
    ·by_cases e:x=n
     ·subst e
      rw[(@cO cells r _ cl x h (W2.mp nd).2).1 (W2.mp nd).1,hc];simp
     ·have b:(x==n)=false:=by simpa using e
      rw[Xk,b]at a;exact d.2 a
  ·rw[Xh hk]at h
   have d:= @cO cells r _ cl x h (W2.mp nd).2;refine⟨λa=>d.1 λm=>a (.tail _ m),λa=>?_⟩;by_cases e:x=n
   ·subst e
    simp at a;rw[a]at hk;exact absurd rfl hk
   ·have b:(x==n)=false:=by simpa using e
    rw[Xk,b]at a;exact d.2 a
noncomputable def jw (scope:Scope) (env:Env) (x:Str):Bool:=
 scope.kind== .function&&env.scope.kind== .function&&decide (scope.names.map (·.1)).Nodup&&scope.names.all (λy=>y.2 != .cell)&&scope.names.lookup x==some .local&&(eJ env.cells scope.names []).isSome
end
structure da (scope:Scope) (env:Env) (cl:List (Str×Addr)):Prop where
 cl:eJ env.cells scope.names []=some cl
 nd:(scope.names.map (·.1)).Nodup
 kd:scope.kind=.function
section
variable {env:Env}
theorem da.cell {scope:Scope} {cl:List (Str×Addr)} {C c:Addr} {x:Str} (k:da scope env cl) (K:cV env x c) (hx:scope.names.lookup x=some .free):cV (compEnvC scope cl C env) x c:=by
 refine⟨?_,((cO k.cl k.nd).2 hx).trans K.at_,k.kd⟩;have:∀b:List (Str×NameKind),b.lookup x=some .free->((b.map λ(n,k)=>if(k==NameKind.free&&env.scope.kind== .function&&env.kindOf n==some .cell)then(n,NameKind.cell)else(n,k)).lookup x)=some .cell:=by
  intro b
  induction b with
  |nil=>intro h;exact cX h
  |cons a r ih=>
   obtain⟨n,k⟩:=a;intro h;rw[Xk]at h;rw[W4];by_cases e:x=n
   ·subst e
    simp at h;subst h;simp[K.fn,K.kd]
   ·have d:(x==n)=false:=by simpa using e
    simp only[d]at h;show List.lookup x ((if(k==NameKind.free&&env.scope.kind== .function&&env.kindOf n==some .cell)=true then(n,NameKind.cell)else(n,k))::_)=_;by_cases hc:(k==NameKind.free&&env.scope.kind== .function&&env.kindOf n==some .cell)=true
    ·rw[Xn hc,Xk,d];exact(ih h)
    ·rw[Xh hc,Xk,d];exact(ih h)
 exact this _ hx
def oH (o:Obj) (x:Str) (v:Value):Prop:=∃es ep,∃m:Str->Option Value,o.data=.dict es ep∧StrKeys es∧(∀y,nsFind es y=m y)∧m x=some v
variable {prog:Program} {w:World} {A:Around} {E:Value->Shared->Prop} {h:Heap} {gn:Array GenState} {d:Drawn} {t:Nat} {os:OsState} {L C c:Addr} {h₀:Heap} {m:Str->Option Value} {news:bu} {o:Obj} {x:Str} {v:Value} {pos:Pos} {scope:Scope} {cl:List (Str×Addr)} {Q:Value->Shared->Prop}
theorem Pz (N:News h₀ L h news) (i:In (C,o) news) (D:oH o x v) (hb:(scope.kind== .function&&(relabel scope env).names.lookup x==some .local&& !(x==("__debug__":Str)))=true) (q:Q v ⟨h,gn,d,t,os⟩):
  wpAny (model prog w) A (eval (.Name x pos) (compEnvC scope cl C env)) Q E ⟨h,gn,d,t,os⟩:=by
 simp only[WU,Xu,Xj]at hb;refine mC D λe g f b j c a=>?_;exact Z8 (wpAny_loadName_local (m:=f) hb.1.1 hb.1.2 (gW o e g (N.get i.mem) b j c) a q) hb.2
theorem Gr (N:News h₀ L h news) (ok:da scope env cl) (K:cV env x c) (i:In (c,o) news) (D:fj o (some v)) (hb:(scope.names.lookup x==some .free&& !(x==("__debug__":Str)))=true) (q:Q v ⟨h,gn,d,t,os⟩):
  wpAny (model prog w) A (eval (.Name x pos) (compEnvC scope cl C env)) Q E ⟨h,gn,d,t,os⟩:=by
 simp only[WU,Xu,Xj]at hb;exact sH N (ok.cell K hb.1) i D (by simp[hb.2]) q
def qK (M:Model) (A:Around) (E:Value->Shared->Prop) (env:Env) (e:Expr) (scope:Scope) (cl:List (Str×Addr)) (Q:Value->Shared->Prop) (it:Value) (s₂:Shared):Prop:=
 wpAny M A (newList []) (λacc s₃=>wpAny M A (newFunctionEnv scope env.globals cl [] env.qual none .none (some env)) (λcenv s₄=>
  codeAny M A (.compStart e 0 it acc {cenv with scope:=relabel scope env}) (compPost M A E none Q acc cenv.locals) s₄) E s₃) E s₂
theorem gK {names:List (Str×NameKind)} (nd:(names.map (·.1)).Nodup) {y:Str×NameKind} (hy:y∈names) (hl:y.2=.local):names.lookup y.1=some .local:=by
 induction names with
 |nil=>cases hy
 |cons a r ih=>
  obtain⟨n,k⟩:=a;rcases WY.mp hy with rfl|hy
  ·simp at hl ⊢;exact hl
  ·have:(y.1==n)=false:=by
    have b:y.1≠n:=λe=>(W2.mp nd).1 (by have z:=Xm (f:=λp:Str×NameKind=>p.1) hy;rw[e]at z;exact z)
    simpa using b
   rw[Xk,this];exact ih (W2.mp nd).2 hy
variable {s:Shared}
theorem PH {M:Model} {elt iter:Expr} {x:Str} {px:Pos} {ifs:List Expr} (hb:jw scope env x=true)
  (h:∀cl,da scope env cl->wpAny M A (eval iter env) (λxv s₁=>wpAny M A (pyIter xv) (λit s₂=>qK M A E env (.ListComp elt [⟨.Name x px,iter,ifs,0⟩] scope pos) scope cl Q it s₂) E s₁) E s)
  (hs:∀x,foldedSetIterable iter env x=pure x):
  wpAny M A (eval (.ListComp elt [⟨.Name x px,iter,ifs,0⟩] scope pos) env) Q E s:=by
 unfold jw at hb;simp only[WU,Xu,XZ,WZ]at hb;obtain⟨⟨⟨⟨⟨b,_⟩,c⟩,i⟩,g⟩,e⟩:=hb;obtain⟨cl,a⟩:=Yo.mp e;rw[eval_ListComp];exact wpAny_comprehension_free (use:=none) rfl hs (dK a) b (λy d f=>gK c d f) (h cl ⟨a,c,b⟩)
def zw (prog:Program) (w:World) (A:Around) (E:Value->Shared->Prop) (env:Env) (target:Expr) (body:List Stmt) (Q:Flow->Shared->Prop) (it:Value) (s:Shared):Prop:=
 codeAny (model prog w) A (.forLoop target it body [] env) (λr s'=>match r with|.ok f=>Q f s'|.error e=>cameBackBy (model prog w) A env E e s') s
variable {Q:Flow->Shared->Prop}
theorem Xe5 {target iter:Expr} {body:List Stmt}
  (h:wpAny (model prog w) A (eval iter env) (λx s₁=>wpAny (model prog w) A (pyIter x) (λit s₂=>zw prog w A E env target body Q it s₂) E s₁) E s)
  (hs:∀x,foldedSetIterable iter env x=pure x):wpAny (model prog w) A (exec (.For target iter body [] pos) env) Q E s:=wpAny_For h hs
def ib (x:Addr) (Q:Value->Shared->Prop) (E:Value->Shared->Prop) (r:Result) (s':Shared):Prop:=match r with
 |.ok (.ret v)=>v=.none∧Q (.ref x) s'
 |.ok _=>False
 |.error e=>E e s'
variable {K:Frag} {l:Addr} {b:Addr×Obj} {W T R:bu} {fI:Addr} {vals:List Value} {Q:Value->Shared->Prop}
theorem P5 (F:Fr h₀ L h m) (X:K.In h₀) (N:News h₀ L h (Lg b W T R)) (kk:aY (Lg b W T R)) (hi:findIn K (.ref C) "__init__"=some (some (.ref fI))) (hm:(makesIn K C&&isFn K (.ref fI))=true)
  (q:∀x dx h',Fr h₀ L h' m->News h₀ L h' (Lg b W T ((x,instObj C dx)::(dx,dictOf [] 0)::R))->aY (Lg b W T ((x,instObj C dx)::(dx,dictOf [] 0)::R))->
   codeAny (model prog w) (A.under (.builtin "type.__call__" ⟨.ref C::vals,[]⟩)) (.call (.ref fI) ⟨.ref x::vals,[]⟩) (ib x Q E) ⟨h',gn,d,t,os⟩):
  wpAny (model prog w) A (call (.ref C) vals) Q E ⟨h,gn,d,t,os⟩:=by
 rw[WU]at hm;refine call_cls (s:=⟨h,gn,d,t,os⟩) F X N hm.1 hi hm.2 λx dx h' g f c a=>?_;have s:Sub (Lg b W T ((x,instObj C dx)::(dx,dictOf [] 0)::R)) ((x,instObj C dx)::(dx,dictOf [] 0)::Lg b W T R):=λP=>by
  simp only[Lg,Xa,W4,X8,XD];exact Y48
 refine YZ (q x dx h' g (kG f s) ((kk.cons2 c a).sub s)) λr i z=>?_;rcases r with e|(v|_|_|_)<;>exact z
variable {pl:Sem Bool}
theorem UR {f:Value} {name:Str} {Q:Value×List Value->Shared->Prop} (F:Fr h₀ L h m) (X:K.In h₀) (e:findCls K (.ref C) (.type "type") name=some (.val f))
  (c:(specialIn K (.ref C) "__getattribute__"==some (some (.builtin "type.__getattribute__"))&&typeIn K (.ref C)==some (.type "type")&&readsIn K C (.type "type")&&handedIn f)=true) (q:Q (f,[]) ⟨h,gn,d,t+1,os⟩):
  wpAny (model prog w) A (getMethod (.ref C) name pl) Q E ⟨h,gn,d,t,os⟩:=by
 simp only[WU,Xu]at c;exact method_of_cls (s:=⟨h,gn,d,t,os⟩) F X c.1.1.1 (cls_val (s:=⟨h,gn,d,t,os⟩) F X c.1.1.2 c.1.2 e c.2 q)
variable {mean:ExcName->Option Value} {mg mb:Str->Option Value}
theorem rZ {p:Program} {loose:List Str} (F:Fr h₀ L h m) (N:News h₀ L h (Lg b W T R)) (kk:aY (Lg b W T R)) (Tp:Top p loose mean mg mb h₀)
  (q:∀D h',(D==sysModules)=false->Fr h₀ L h' m->News h₀ L h' (Lg b W T ((D,dictOf [] 0)::R))->aY (Lg b W T ((D,dictOf [] 0)::R))->Q (.ref D) ⟨h',gn,d,t,os⟩):wpAny (model prog w) A (eval (.Dict [] [] pos) env) Q E ⟨h,gn,d,t,os⟩:=
 ug F N kk Tp.nolimit λD h' c f a e=>q D h' c f (zf a) (yu e)
variable {l:bu}
theorem Cx.xs {p:Program} {loose:List Str} {base g h:Heap} {outer:List Env} (C:Cx w p loose mean mg mb A base outer g l h):(HK w.params).In h:=(C.X.keeps C.B.stays).keeps C.st
noncomputable def cM (K:Frag) (a:Addr) (x:Str):Option (Option Value):=(K.lookup a).bind λo=>
 if(o.cls== .type "dict"&&o.dict.isNone&&o.slots.isEmpty&& !(a==sysModules))=true then(match o.data with
  |.dict es _=>if(es.all λe=>isExactStrKey e.key)=true then some ((es.toList.find? λe=>e.key.isStr x).map (·.val))else none
  |_=>none)else none
variable {a:Addr} {u:Tok} {r:Option Value}
set_option tactic.hygienic true in
theorem gr (e:cM K a x=some r):∃o es ep,K.lookup a=some o∧o.ExactDict∧o.data=.dict es ep∧(es.all λe=>isExactStrKey e.key)=true∧(es.toList.find? λe=>e.key.isStr x).map (·.val)=r∧(a==sysModules)=false:=by
 unfold cM at e;refine bn (YG.mp e) λo b e=>?_;split at e
 ·rename_i hc
  simp only[WU,Xu,Xj,XW]at hc;split at e
  ·rename_i es ep hd
   split at e
   ·rename_i hall
    exact(V4 o es ep b (eQ hc.1.1.1 hc.1.1.2 (by simpa using hc.1.2)) hd hall (W7 e) hc.2)
   ·exact cX e
  ·exact cX e
 ·exact cX e
theorem l4 {Q:Option Value->Shared->Prop} (X:K.In h) (e:cM K a x=some r) (q:Q r ⟨h,gn,d,t+1,os⟩):wpAny (model prog w) A (dictGet a (.str x u)) Q E ⟨h,gn,d,t,os⟩:=by
 refine E36 (gr e) λo c z g p m f n y=>?_;have g:=X _ _ g
 try with_reducible refine XH ?_
 refine WV (wpAny_pyHash_str (WV (KTD.kt_dictFind_strs (s:=⟨h,gn,d,t+1,os⟩) g m f ?_)));have b:Q (findBy (λk v=>v.isStr k) c x) ⟨h,gn,d,t+1,os⟩:=by
  have j:findBy (λk v=>v.isStr k) c x=(c.toList.find? λe=>e.key.isStr x).map (·.val):=by
   obtain⟨l⟩:=c;simp[findBy]
  rw[j,n];exact q
 rw[findBy_of_findIdx?]at b;cases hi:c.findIdx? λe=>e.key.isStr x with
 |none=>rw[hi]at b;exact W1 b
 |some i=>rw[hi]at b;exact WV (wpAny_dictEntries (s:=⟨h,gn,d,t+1,os⟩) g m (W1 b))
theorem cW (X:K.In s.heap) (e:cM K a x=some r):s.TypeIs (.ref a) "dict":=let ⟨o,_,_,ho,hx,_⟩:=gr e;(bv o (X _ _ ho) hx.1)
theorem Ii {value slice:Expr} (F:Fr h₀ L h m) (X₀:K.In h₀) (e:cM K a x=some (some v)) (q:Q v ⟨h,gn,d,t+1,os⟩)
  (hs:subscripted slice false (.ref a) (.str x u)=operate [.ref a,.str x u] (getItem (.ref a) (.str x u))) (hg:∀r,letTemporaryGo value (.ref a) r=pure ()):
  wpAny (model prog w) A (subscriptTail value slice (.ref a) (.str x u)) Q E ⟨h,gn,d,t,os⟩:=by
 have X:K.In h:=X₀.keeps F.keep;refine subscriptTail_builtin (cW (s:=⟨h,gn,d,t,os⟩) X e) slot_dict_getitem.lookup ?_ hs hg;unfold getItem
 try with_reducible refine XH ?_
 refine WV (wpAny_sequenceKey (cW (s:=⟨h,gn,d,t,os⟩) X e) (by decide) ?_);refine WV (wpAny_callSpecial?_slot (name:=Str.ofString "__getitem__") (cW (s:=⟨h,gn,d,t,os⟩) X e) slot_dict_getitem
  (Zm slot_dict_getitem (cW (s:=⟨h,gn,d,t,os⟩) X e) entry_dict_getitem ?_ (args_dict_getitem _ _)))
 show wpAny _ _ (dictGet a (.str x u)>>=_) _ _ _;exact WV (l4 X e (W1 (bv v rfl (W1 q))))
variable {Q:Value×List Value->Shared->Prop}
theorem EB (F:Fr h₀ L h m) (X₀:K.In h₀) (e:(cM K a "").isSome=true) (q:Q (.builtin "dict.get",[.ref a]) ⟨h,gn,d,t,os⟩):wpAny (model prog w) A (getMethod (.ref a) "get" pl) Q E ⟨h,gn,d,t,os⟩:=by
 have X:K.In h:=X₀.keeps F.keep;obtain⟨r,e⟩:=Yo.mp e;exact ZH (cW (s:=⟨h,gn,d,t,os⟩) X e) ZL Zi ZX (λb c=>by
  refine pi (gr e) λo Z Z g f Z=>?_;injection c with c;subst c;exact(bv o (X _ _ g) f.2.1)) q
variable {dflt:Value} {Q:Value->Shared->Prop}
theorem xY (F:Fr h₀ L h m) (X₀:K.In h₀) (e:cM K a x=some r) (q:Q (r.getD dflt) ⟨h,gn,d,t+1,os⟩):wpAny (model prog w) A (call (.builtin "dict.get") [.ref a,.str x u,dflt]) Q E ⟨h,gn,d,t,os⟩:=by
 refine Zm (s:=⟨h,gn,d,t,os⟩) Zi (cW (s:=⟨h,gn,d,t,os⟩) (X₀.keeps F.keep:K.In h) e) PySem.F.entry_dict_get ?_ (PySem.F.args_dict_get_3 _ _ _);show wpAny _ _ (dictGet a _>>=_) _ _ _;refine WV (l4 (X₀.keeps F.keep:K.In h) e ?_);cases r with
 |some v=>exact W1 (bv v rfl q)
 |none=>
  exact WV (wpAny_missed_other ((gr e).choose_spec.choose_spec.choose_spec.2.2.2.2.2) (W1 (bv dflt rfl q)))
noncomputable def pV (K:Frag) (a:Addr):Option (List Value):=match K.lookup a with
 |some o=>if(o.cls== .type "tuple")=true then(match o.data with|.seq items _=>some items.toList|_=>none)else none
 |none=>none
set_option tactic.hygienic true in
theorem ii {vs:List Value} (X:K.In h) (e:pV K a=some vs):IsTup h a vs.toArray:=by
 unfold pV at e;split at e
 ·rename_i o ho
  split at e
  ·rename_i hc
   split at e
   ·rename_i items n hd
    refine(jn o (X _ _ ho) (by simpa using hc) ⟨n,?_⟩);rw[←W7 e,hd]
   ·exact cX e
  ·exact cX e
 ·exact cX e
noncomputable def lU:List Value->Option (List Str)
 |[]=>some []
 |.str x _::r=>(lU r).map (x::·)
 |_=>none
theorem gv:∀{vs:List Value} {ys:List Str},lU vs=some ys->StrsAre vs ys
 |[],ys,h=>by obtain rfl:=jS h;exact .nil
 |v::r,ys,h=>by
  cases v with
  |str x t=>
   simp only[lU,W8]at h;obtain⟨zs,a,rfl⟩:=h;exact .cons _ _ (gv a)
  |_=>simp[lU]at h
noncomputable def fy (K:Frag) (a:Addr):Option (List Str):=(pV K a).bind lU
variable {b:Bool}
theorem C2 (F:Fr h₀ L h m) (X₀:K.In h₀) (e:((fy K a).map λys=> !(ys.any (·==x)))=some b) (q:Q (.bool b) ⟨h,gn,d,t,os⟩):
  wpAny (model prog w) A (compareOp .NotIn (.str x u) (.ref a)) Q E ⟨h,gn,d,t,os⟩:=by
 refine bn (W8.mp e) λys f c=>?_;obtain rfl:=c;refine bn (YG.mp f) λvs i g=>?_;exact notin_tuple_strs (s:=⟨h,gn,d,t,os⟩) (ii (X₀.keeps F.keep) i) (by simpa using gv g) q
theorem inK (F:Fr h₀ L h m) (X₀:K.In h₀) (e:((fy K a).map λys=>(ys.any (·==x)))=some b) (q:Q (.bool b) ⟨h,gn,d,t,os⟩):
  wpAny (model prog w) A (compareOp .In (.str x u) (.ref a)) Q E ⟨h,gn,d,t,os⟩:=by
 refine bn (W8.mp e) λys f c=>?_;obtain rfl:=c;refine bn (YG.mp f) λvs i g=>?_;exact in_tuple_strs (s:=⟨h,gn,d,t,os⟩) (ii (X₀.keeps F.keep) i) (by simpa using gv g) q
variable {kvs:List (Str×Value)}
theorem AN {Q:Value×List Value->Shared->Prop} (N:News h₀ L h news) (i:In (a,o) news) (D:SD prog w o kvs) (q:Q (.builtin "dict.get",[.ref a]) ⟨h,gn,d,t,os⟩):
  wpAny (model prog w) A (getMethod (.ref a) "get" pl) Q E ⟨h,gn,d,t,os⟩:=by
 have b:h.DictOf (strKind prog w) a kvs:=X7.mpr (bv o (N.get i.mem) D);exact ZH (s:=⟨h,gn,d,t,os⟩) b.typeIs ZL Zi ZX b.mapOf.noDict q
variable {aW:Addr} {b:Addr×Obj} {n:Int} {rd:Bool} {name:Str}
theorem Du (F:Fr h₀ L h m) (X₀:K.In h₀) (e:cM K a x=some none) (q:Q dflt ⟨h,gn,d,t+1,os⟩):wpAny (model prog w) A (call (.builtin "dict.get") [.ref a,.str x u,dflt]) Q E ⟨h,gn,d,t,os⟩:=xY F X₀ e q
theorem Hg (F:Fr h₀ L h m) (X₀:K.In h₀) (e:cM K a x=some (some v)) (q:Q v ⟨h,gn,d,t+1,os⟩):wpAny (model prog w) A (call (.builtin "dict.get") [.ref a,.str x u,dflt]) Q E ⟨h,gn,d,t,os⟩:=xY F X₀ e q
theorem XaJ (N:News h₀ L h news) (i:In (a,o) news) (D:SD prog w o kvs) (lo:(a==sysModules)=false) (e:valueAt kvs x=none)
  (q:Q (.bool false) ⟨h,gn,d,t+1,os⟩):wpAny (model prog w) A (compareOp .In (.str x u) (.ref a)) Q E ⟨h,gn,d,t,os⟩:=inD N i D lo (by rw[e];exact q)
theorem EX {y:Str} {u':Tok} (h1:x.length≤50000) (h2:y.length≤50000) (q:∀t' tk,Q (.str (x++y) t') ⟨h,gn,d,tk,os⟩):wpAny (model prog w) A (binaryOp .Add (.str x u) (.str y u')) Q E ⟨h,gn,d,t,os⟩:=
 PyProof.Rows.add_str (s:=⟨h,gn,d,t,os⟩) q (by rw[XI];lia)
def ct (M:Model) (A:Around) (T:String) (Q:Value->Shared->Prop) (E:Value->Shared->Prop) (vs:List Value) (s:Shared):Prop:=wpAny M A (call (.type T) vs) Q E s
theorem cwT {M:Model} {T:String} {e:Expr} {rest:List Expr} (q:wpAny M A (spliced (backTo pos (starEach (e::rest) env))) (ct M A T Q E) E s)
  (he:starEach (e::rest) env=(false,eval e env)::starEach rest env) (hplain:(backTo pos (starEach rest env)).any (·.1)=false):
  wpAny M A (callWith pos (.type T) [] (backTo pos (starEach (e::rest) env)) []) Q E s:=PyProof.Rows.callWith_type1 q he hplain
variable {l:Addr}
theorem Js {D:Addr} {o:Obj} {h':Heap} (F:Fr h₀ L h m) (N:News h₀ L h (Lg b W T R)) (kk:aY (Lg b W T R)) (hD:D=h.objs.size) (hk:∀b o,h.get? b=some o->h'.get? b=some o) (ho:h'.get? D=some o):
  Fr h₀ L h' m∧News h₀ L h' (Lg b W T ((D,o)::R))∧aY (Lg b W T ((D,o)::R)):=by
 subst hD;refine⟨⟨F.ns.keeps hk,λb o e=>hk b o (F.keep b o e),F.above⟩,zf λp hp=>?_,yu (kk.cons λp hp=>Xe (N p hp).1)⟩;rcases WY.mp hp with rfl|hp
 ·exact⟨ho,Zc F.ns.lt,by
  cases e:h₀.get? h.objs.size with
  |none=>rfl
  |some o=>exact absurd (Xe (F.keep _ _ e)) (XX _)⟩
 ·exact⟨hk _ _ (N p hp).1,(N p hp).2⟩
theorem SJ {xs:List Value} {k:Nat} (F:Fr h₀ L h m) (N:News h₀ L h (Lg b W T R)) (kk:aY (Lg b W T R)) (i:In (l,aL xs k) (Lg b W T R)) (hz:xs.length≤10000)
  (q:∀D c h',Fr h₀ L h' m->News h₀ L h' (Lg b W T ((D,aL xs c)::R))->aY (Lg b W T ((D,aL xs c)::R))->Q (.ref D) ⟨h',gn,d,t,os⟩):
  wpAny (model prog w) A (call (.type "list") [.ref l]) Q E ⟨h,gn,d,t,os⟩:=
 call_list_seq (s:=⟨h,gn,d,t,os⟩) (hsz:=by rw[XI];simp;exact Z1 hz) l (.inl rfl) (N.get i.mem) rfl rfl λh' e j g=>by
  refine wI (Js (o:=aL xs e) F N kk rfl j g) λn a f=>?_;exact q _ _ _ n a f
variable {test:Expr} {body:List Stmt} {Q:Flow->Shared->Prop}
def Ht (prog:Program) (w:World) (A:Around) (E:Value->Shared->Prop) (env:Env) (test:Expr) (body:List Stmt) (Q:Flow->Shared->Prop) (s:Shared):Prop:=
 codeAny (model prog w) A (.whileLoop test body [] env) (λr s'=>match r with|.ok f=>Q f s'|.error e=>cameBackBy (model prog w) A env E e s') s
def XeJ (prog:Program) (w:World) (A:Around) (E:Value->Shared->Prop) (env:Env) (test:Expr) (body:List Stmt) (Q:Flow->Shared->Prop) (f:Flow) (s:Shared):Prop:=match f with
 |.next=>Ht prog w A E env test body Q s
 |.cont=>Ht prog w A E env test body Q s
 |.brk=>Q .next s
 |.ret v=>Q (.ret v) s
theorem Xdi (h:Ht prog w A E env test body Q s):wpAny (model prog w) A (exec (.While test body [] pos) env) Q E s:=wpAny_While h
theorem Ce (h:∀E',wpAny (model prog w) A (isTrue test env (eval test env)) (λb s₂=>if b=true then wpAny (model prog w) A (execs body env) (XeJ prog w A E env test body Q) E' s₂ else Q .next s₂) E' s):Ht prog w A E env test body Q s:=by
 unfold Ht;refine codeAny_of_tree ?_;show wpAny _ A ((whileTurn test body [] env).onRaise (λx=>do noteFrame x env;theTreesLotGoes x)) _ _ s;refine wpAny_noted ?_;simp only[whileTurn];refine WV (Ym (h _) (λb s₂ c=>?_) λZ Z e=>e);cases b with
 |false=>
  exact WV (ZT (W1 c))
 |true=>
  refine WV (Ym c (λf d a=>?_) λZ Z e=>e);cases f with
  |next=>exact W1 ⟨rfl,a⟩
  |cont=>exact W1 ⟨rfl,a⟩
  |brk=>exact W1 a
  |ret v=>exact W1 a
variable {n1 n2:Str} {a b:Value}
theorem PD {p1 p2 tpos pos:Pos} {kk:Nat} {value:Expr}
  (q:wpAny (model prog w) A (eval value env) (λv s₁=>wpAny (model prog w) A (unpackItems v [n1,n2].length none) (λitems s₂=>wpAny (model prog w) A (assignInOrder ([n1,n2].reverse.map λn=>bindName env n) items.reverse) (λZ=>Q .next) E s₂) E s₁) E s)
  (hs:swapsWithSole [.Tuple [.Name n1 p1,.Name n2 p2] kk tpos] value pos.line env=pure false) (hw:swappedStores [.Tuple [.Name n1 p1,.Name n2 p2] kk tpos] value env=pure (some [n1,n2])):
  wpAny (model prog w) A (exec (.Assign [.Tuple [.Name n1 p1,.Name n2 p2] kk tpos] value pos) env) Q E s:=Assign_Tuple_swapped (names:=[n1,n2]) q hs hw
theorem FQ {n3:Str} {p1 p2 p3 tpos pos:Pos} {kk:Nat} {value:Expr}
  (q:wpAny (model prog w) A (eval value env) (λv s₁=>wpAny (model prog w) A (unpackItems v [n1,n2,n3].length none) (λitems s₂=>wpAny (model prog w) A (assignInOrder ([n1,n2,n3].reverse.map λn=>bindName env n) items.reverse) (λZ=>Q .next) E s₂) E s₁) E s)
  (hs:swapsWithSole [.Tuple [.Name n1 p1,.Name n2 p2,.Name n3 p3] kk tpos] value pos.line env=pure false) (hw:swappedStores [.Tuple [.Name n1 p1,.Name n2 p2,.Name n3 p3] kk tpos] value env=pure (some [n1,n2,n3])):
  wpAny (model prog w) A (exec (.Assign [.Tuple [.Name n1 p1,.Name n2 p2,.Name n3 p3] kk tpos] value pos) env) Q E s:=Assign_Tuple_swapped (names:=[n1,n2,n3]) q hs hw
variable {y:Str} {u':Tok} {Q:Value->Shared->Prop}
theorem Db (q:Q (.bool true) ⟨h,gn,d,t,os⟩):wpAny (model prog w) A (compareOp .Eq (.str x u) (.str x u')) Q E ⟨h,gn,d,t,os⟩:=PySem.P.eq_str (by simpa using q)
theorem FK (e:(x.cps.toList==y.cps.toList)=false) (q:Q (.bool false) ⟨h,gn,d,t,os⟩):wpAny (model prog w) A (compareOp .Eq (.str x u) (.str y u')) Q E ⟨h,gn,d,t,os⟩:=PySem.P.eq_str (by rw[e];exact q)
theorem Cg (q:Q (.bool false) ⟨h,gn,d,t,os⟩):wpAny (model prog w) A (compareOp .NotEq (.str x u) (.str x u')) Q E ⟨h,gn,d,t,os⟩:=PySem.P.ne_str (by simpa using q)
theorem AW (e:(x.cps.toList==y.cps.toList)=false) (q:Q (.bool true) ⟨h,gn,d,t,os⟩):wpAny (model prog w) A (compareOp .NotEq (.str x u) (.str y u')) Q E ⟨h,gn,d,t,os⟩:=PySem.P.ne_str (by
 rw[(by rw[bne,e];rfl:(x.cps.toList !=y.cps.toList)=true)];exact q)
variable {x dx D:Addr} {T:String} {i:Int} {z:Str} {b:Bool}
theorem Xcy (F:Fr h₀ L h m) (X:K.In h₀) (N:News h₀ L h news) (i1:In (x,instObj C dx) news) (i2:In (dx,o) news) (c:isIn K (.ref C) C=true) (q:Q (.bool true) ⟨h,gn,d,t,os⟩):wpAny (model prog w) A (call (.builtin "isinstance") [.ref x,.ref C]) Q E ⟨h,gn,d,t,os⟩:=
 isi_call (s:=⟨h,gn,d,t,os⟩) (X.keeps F.keep) (λM=>(gb N i1 i2).type) c (by intro e;cases e) q
noncomputable def fJ (K:Frag) (D:Addr):Bool:=plainGet K D "__class__"&&hasDictIn K D&&(findIn K (.ref D) "__class__"==some (some (.builtin "object.__class__")))&&(specialIn K (.builtin "object.__class__") "__get__"==some (some (.builtin "getset_descriptor.__get__")))&&
 (takesIn K (.builtin "object.__class__")==some true)&&(mroIn K D (.type "object")==some true)
theorem XdK (F:Fr h₀ L h m) (X:K.In h₀) (N:News h₀ L h news) (i1:In (x,instObj D dx) news) (i2:In (dx,o) news) (c:(kin_not K D C&&fJ K D)=true) (q:Q (.bool false) ⟨h,gn,d,t+1,os⟩):wpAny (model prog w) A (call (.builtin "isinstance") [.ref x,.ref C]) Q E ⟨h,gn,d,t,os⟩:=by
 unfold fJ at c;simp only[WU,Xu]at c;refine wI c λe a i=>?_;obtain⟨⟨⟨⟨j,k⟩,g⟩,f⟩,b⟩:=a;exact kin_callC (s:=⟨h,gn,d,t,os⟩) (X.keeps F.keep) (gb N i1 i2) e j k g f b i q
theorem ON (F:Fr h₀ L h m) (X:K.In h₀) (N:News h₀ L h news) (i1:In (x,instObj D dx) news) (i2:In (dx,o) news) (ty:typeOf (.type T)=pure (.type "type")) (c:(kin_notT K D T&&fJ K D)=true) (q:Q (.bool false) ⟨h,gn,d,t+1,os⟩):wpAny (model prog w) A (call (.builtin "isinstance") [.ref x,.type T]) Q E ⟨h,gn,d,t,os⟩:=by
 unfold fJ at c;simp only[WU,Xu]at c;refine wI c λe a i=>?_;obtain⟨⟨⟨⟨j,k⟩,g⟩,f⟩,b⟩:=a;exact kin_callT (s:=⟨h,gn,d,t,os⟩) (X.keeps F.keep) (gb N i1 i2) e ty j k g f b i q
theorem Fc (F:Fr h₀ L h m) (X:K.In h₀) (c:isNotIn K "int" C=true) (q:Q (.bool false) ⟨h,gn,d,t+1,os⟩):wpAny (model prog w) A (call (.builtin "isinstance") [.int i u,.ref C]) Q E ⟨h,gn,d,t,os⟩:=
 isn_call (s:=⟨h,gn,d,t,os⟩) (P:=λZ=>True) (X.keeps F.keep) (λM=>ZJ rfl) c (by intro e;cases e) trivial int_cls q
theorem GA (F:Fr h₀ L h m) (X:K.In h₀) (c:isNotIn K "str" C=true) (q:Q (.bool false) ⟨h,gn,d,t+1,os⟩):wpAny (model prog w) A (call (.builtin "isinstance") [.str z u,.ref C]) Q E ⟨h,gn,d,t,os⟩:=
 isn_call (s:=⟨h,gn,d,t,os⟩) (P:=λZ=>True) (X.keeps F.keep) (λM=>ZJ rfl) c (by intro e;cases e) trivial str_cls q
theorem wo (F:Fr h₀ L h m) (X:K.In h₀) (c:isNotIn K "bool" C=true) (q:Q (.bool false) ⟨h,gn,d,t+1,os⟩):wpAny (model prog w) A (call (.builtin "isinstance") [.bool b,.ref C]) Q E ⟨h,gn,d,t,os⟩:=
 isn_call (s:=⟨h,gn,d,t,os⟩) (P:=λZ=>True) (X.keeps F.keep) (λM=>ZJ rfl) c (by intro e;cases e) trivial bool_cls q
theorem uH (F:Fr h₀ L h m) (X:K.In h₀) (c:isNotIn K "NoneType" C=true) (q:Q (.bool false) ⟨h,gn,d,t+1,os⟩):wpAny (model prog w) A (call (.builtin "isinstance") [.none,.ref C]) Q E ⟨h,gn,d,t,os⟩:=
 isn_call (s:=⟨h,gn,d,t,os⟩) (P:=λZ=>True) (X.keeps F.keep) (λM=>ZJ rfl) c (by intro e;cases e) trivial none_cls q
end
structure Cf (w:World) where
 p:Program
 loose:List Str
 mean:ExcName->Option Value
 mg:Str->Option Value
 mb:Str->Option Value
 A0:Around
 base:Heap
 outer:List Env
 g:Heap
 gn:Array GenState
 d:Drawn
 os:OsState
 qual:Str
 L:Addr
 f:Addr
 cd:Value
 cl:List (Str×Addr)
 A:Around
 E:Value->Shared->Prop
section
variable {w:World}
@[reducible] noncomputable def Cf.ev (c:Cf w) (sc:Scope):Env:=envX c.qual sc c.L c.f c.cd (cellsFrom (c.L+1) sc.names c.cl)
def lf (c:Cf w) {α:Type} (Q:α->Heap->Nat->Prop) (a:α) (s:Shared):Prop:=∃h t,s=⟨h,c.gn,c.d,t,c.os⟩∧Q a h t
def Wp (c:Cf w) {α:Type} (e:Sem α) (Q:α->Heap->Nat->Prop) (h:Heap) (t:Nat):Prop:=wpAny (model PP w) c.A e (lf c Q) c.E ⟨h,c.gn,c.d,t,c.os⟩
structure Ok (c:Cf w) (nn:Nat) (sc:Scope) (ns:List Str):Prop where
 S:g9 (c.ev sc) c.L ns
 G:Gd c.A (c.ev sc) c.outer c.L
 hA:c.A=c.A0.deeper (c.ev sc)
 hh:c.A.handled=none
 rm:db c.A nn
 B:Below c.A0 c.base c.outer c.g
 X:(HK w.params).In c.g
 T:Top c.p c.loose c.mean c.mg c.mb c.g
 XB:(HK w.params).In c.base
 TB:Top c.p c.loose c.mean c.mg c.mb c.base
structure At (c:Cf w) (ns:List Str) (vs:List (Option Value)) (l:bu) (h:Heap):Prop where
 F:Fr c.g c.L h (bT ns vs)
 N:News c.g c.L h l
 k:aY l
variable {c:Cf w} {α β:Type} {e:Sem α} {Q:α->Heap->Nat->Prop} {h:Heap} {t:Nat}
theorem aJ {a:α} (q:Q a h t):lf c Q a ⟨h,c.gn,c.d,t,c.os⟩:=(uA h t rfl q)
theorem Wp.go {P:α->Shared->Prop} (x:Wp c e Q h t) (y:∀a h t,Q a h t->P a ⟨h,c.gn,c.d,t,c.os⟩):wpAny (model PP w) c.A e P c.E ⟨h,c.gn,c.d,t,c.os⟩:=
 Ym x (λa s z=>by refine gM z λh t b q=>?_;obtain rfl:=b;exact y a h t q) λZ Z e=>e
theorem Wp.mono {P:α->Heap->Nat->Prop} (x:Wp c e Q h t) (y:∀a h t,Q a h t->P a h t):Wp c e P h t:=x.go λa h t q=>(uA h t rfl (y a h t q))
variable {vs:List (Option Value)}
theorem At.sub {ns:List Str} {l l':bu} (H:At c ns vs l h) (s:Sub l' l):At c ns vs l' h:=⟨H.F,kG H.N s,H.k.sub s⟩
theorem kE {nn:Nat} {sc:Scope} {ns:List Str} {l:bu} (O:Ok c nn sc ns) (H:At c ns vs l h):(HK w.params).In h:=O.X.keeps H.F.keep
variable {nn:Nat} {sc:Scope} {ns:List Str} {vs':List (Option Value)} {l:bu} {env:Env} {Q:Value->Heap->Nat->Prop} {pos px:Pos} {x:Str} {v:Value} {e e1 e2:Expr} {i j:Int} {a b:Tok} {z:Str} {kk:Nat}
theorem Rm (O:Ok c nn sc ns) (H:At c ns vs l h) (P:hH x (some v) ns vs) (q:Q v h t):Wp c (loadName (c.ev sc) x) Q h t:=Iz O.S H.F P (aJ q)
theorem NI (O:Ok c nn sc ns) (H:At c ns vs l h) (P:hH x (some v) ns vs) (q:Q v h t):Wp c (eval (.Name x pos) (c.ev sc)) Q h t:=ldS O.S H.F P (aJ q)
theorem Ry {k} (q:Q (.int i t) h (t+1)):Wp c (eval (.Constant (.int i) k pos) env) Q h t:=Xci (aJ q)
theorem yL {k} (q:Q (.str z t) h (t+1)):Wp c (eval (.Constant (.str z) k pos) env) Q h t:=Xbq (aJ q)
theorem CR {k} (q:Q .none h t):Wp c (eval (.Constant .none k pos) env) Q h t:=wpAny_Constant_none (aJ q)
theorem ES {k} {b:Bool} (q:Q (.bool b) h t):Wp c (eval (.Constant (.bool b) k pos) env) Q h t:=wpAny_Constant_bool (aJ q)
variable {op:Operator}
theorem uh (q:Wp c (eval e1 env) (λa h t=>Wp c (eval e2 env) (λb h t=>Wp c (binaryOp op a b) Q h t) h t) h t):Wp c (eval (.BinOp e1 op e2 pos) env) Q h t:=
 wpAny_BinOp (q.go λZ Z Z y=>y.go λZ Z Z z=>z)
theorem qW (q:Wp c (eval e1 env) (λa h t=>Wp c (eval e2 env) (λb h t=>Wp c (subscriptTail e1 e2 a b) Q h t) h t) h t):Wp c (eval (.Subscript e1 e2 pos) env) Q h t:=
 Subscript_ (q.go λZ Z Z y=>y.go λZ Z Z z=>z)
theorem MI (q:Q (.int (i+j) t) h (t+1)):Wp c (binaryOp .Add (.int i a) (.int j b)) Q h t:=XcJ (aJ q)
theorem EK (q:Q (.int (i - j) t) h (t+1)):Wp c (binaryOp .Sub (.int i a) (.int j b)) Q h t:=Xes (aJ q)
theorem uj (q:Q (.int (i+j) t) h (t+1)):Wp c (inplaceOp .Add (.int i a) (.int j b)) Q h t:=N3 (aJ q)
theorem Os (m:IntMulOk i j) (q:Q (.int (i*j) t) h (t+1)):Wp c (binaryOp .Mult (.int i a) (.int j b)) Q h t:=Xd7 (aJ q) m
theorem My (m:0<j) (q:Q (.int (i % j) t) h (t+1)):Wp c (binaryOp .Mod (.int i a) (.int j b)) Q h t:=XbM m (aJ q)
theorem Jl (m:0<j) (m2:j<1073741824) (q:Q (.int (i / j) t) h (t+1)):Wp c (binaryOp .FloorDiv (.int i a) (.int j b)) Q h t:=XbR m m2 (aJ q)
theorem Qm (h0:0≤i) (h1:i<2 ^ 64) (hj:0≤j) (hj2:j≤1000) (q:Q (.int (i ^ j.toNat) t) h (t+1)):Wp c (binaryOp .Pow (.int i a) (.int j b)) Q h t:=Xdb h0 h1 hj hj2 (aJ q)
theorem Xde (q:Q (.bool (decide (i<j))) h t):Wp c (compareOp .Lt (.int i a) (.int j b)) Q h t:=lt_int (aJ q)
theorem Xaq (q:Q (.bool (decide (i≤j))) h t):Wp c (compareOp .LtE (.int i a) (.int j b)) Q h t:=le_int (aJ q)
theorem XaR (q:Q (.bool (decide (j<i))) h t):Wp c (compareOp .Gt (.int i a) (.int j b)) Q h t:=gt_int (aJ q)
theorem Xda (q:Q (.bool (decide (j≤i))) h t):Wp c (compareOp .GtE (.int i a) (.int j b)) Q h t:=ge_int (aJ q)
theorem Xaz (q:Q (.bool (decide (i=j))) h t):Wp c (compareOp .Eq (.int i a) (.int j b)) Q h t:=eq_int (aJ q)
theorem XfA (q:Q (.bool (i !=j)) h t):Wp c (compareOp .NotEq (.int i a) (.int j b)) Q h t:=ne_int (aJ q)
def Br (b:Bool) (X Y:Prop):Prop:=(b=true->X)∧(b=false->Y)
variable {X Y:Prop}
theorem Br.ite {b:Bool} (x:Br b X Y):if b=true then X else Y:=by
 cases b with
 |true=>exact x.1 rfl
 |false=>exact x.2 rfl
def Nx (c:Cf w) (rest:List Stmt) (env:Env) (Q:Flow->Heap->Nat->Prop) (f:Flow) (h:Heap) (t:Nat):Prop:=match f with
 |.next=>Wp c (execs rest env) Q h t
 |f=>Q f h t
variable {p2:Pos} {st:Stmt} {rest body orelse:List Stmt} {Q:Flow->Heap->Nat->Prop} {QB:Bool->Heap->Nat->Prop} {QV:Value->Heap->Nat->Prop} {whole:Sem Value} {b:Bool}
theorem yM (q:Q .next h t):Wp c (execs [] env) Q h t:=ZT (aJ q)
theorem ca (q:Wp c (exec st env) (Nx c rest env Q) h t):Wp c (execs (st::rest) env) Q h t:=
 wpAny_execs_cons (q.go λf h t y=>by cases f<;>first|exact y|exact aJ y)
theorem LB (hs:swapsWith e (some (.Name x px)) pos.line env=pure false) (q:Wp c (eval e env) (λv h t=>Wp c (storeName env x v) (λZ h t=>Wp c (execs rest env) Q h t) h t) h t):Wp c (execs (.Assign [.Name x px] e pos::rest) env) Q h t:=
 ca (wpAny_Assign_Name (q.go λv h t y=>y.go λZ h t z=>aJ z) hs)
theorem Xdx (O:Ok c nn sc ns) (H:At c ns vs l h) (P:sk x v ns vs vs') {R:Unit->Heap->Nat->Prop} (q:∀h',At c ns vs' l h'->R () h' (t+1)):Wp c (storeName (c.ev sc) x v) R h t:=
 stE O.S H.F H.N P λh' b a=>aJ (q h' ⟨b,a,H.k⟩)
theorem rW (q:Wp c (eval e env) (λv h t=>Q (.ret v) h t) h t):Wp c (execs (.Return (some e) pos::rest) env) Q h t:=ca (wpAny_Return_some (q.go λv h t y=>aJ y))
theorem QP (q:Wp c (isTrue e env (eval e env)) (λb h t=>Br b (Wp c (execs body env) (Nx c rest env Q) h t) (Wp c (execs orelse env) (Nx c rest env Q) h t)) h t):Wp c (execs (.If e body orelse pos::rest) env) Q h t:=
 ca (wpAny_If (q.go λb h t y=>y.ite))
theorem PZ (q:Wp c (isTrue e env (eval e env)) (λb h t=>Br b (Wp c (execs body env) (Nx c rest env Q) h t) (Wp c (execs rest env) Q h t)) h t):Wp c (execs (.If e body [] pos::rest) env) Q h t:=
 QP (q.mono λb h t y=>⟨y.1,λz=>yM (y.2 z)⟩)
theorem AX (hs:swapsWith e none pos.line env=pure false) (hi:interactive env=false) (q:Wp c (eval e env) (λZ h t=>Wp c (execs rest env) Q h t) h t):Wp c (execs (.Expr e pos::rest) env) Q h t:=
 ca (wpAny_Expr_any (q.go λv h t y=>aJ y) hi hs)
variable {o:Expr}
theorem xa {attr:Str} (hs:swapsWith e (some (.Attribute o attr px)) pos.line env=pure false) (q:Wp c (eval e env) (λv h t=>Wp c (eval o env) (λov h t=>Wp c (setAttr ov attr v) (λZ h t=>Wp c (execs rest env) Q h t) h t) h t) h t):
  Wp c (execs (.Assign [.Attribute o attr px] e pos::rest) env) Q h t:=ca (plainObj_wpAny_Assign_Attribute (q.go λv h t y=>y.go λv h t y=>y.go λZ h t y=>aJ y) hs)
theorem D5 {o ix:Expr} (hs:swapsWith e (some (.Subscript o ix px)) pos.line env=pure false) (q:Wp c (eval e env) (λv h t=>Wp c (eval o env) (λov h t=>Wp c (eval ix env) (λiv h t=>Wp c (setItem ov iv v) (λZ h t=>Wp c (execs rest env) Q h t) h t) h t) h t) h t):
  Wp c (execs (.Assign [.Subscript o ix px] e pos::rest) env) Q h t:=ca (wpAny_Assign_Subscript (q.go λv h t y=>y.go λv h t y=>y.go λv h t y=>y.go λZ h t y=>aJ y) hs)
theorem Fu (q:Wp c (loadName env x) (λold h t=>Wp c (eval e env) (λv h t=>Wp c (inplaceOp op old v) (λr h t=>Wp c (storeName env x r) (λZ h t=>Wp c (execs rest env) Q h t) h t) h t) h t) h t):
  Wp c (execs (.AugAssign (.Name x px) op e pos::rest) env) Q h t:=ca (wpAny_AugAssign_Name (q.go λv h t y=>y.go λv h t y=>y.go λv h t y=>y.go λZ h t y=>aJ y))
theorem Ga {attr:Str} (q:Wp c (eval o env) (λov h t=>Wp c (getAttr ov attr true) (λold h t=>Wp c (eval e env) (λv h t=>Wp c (inplaceOp op old v) (λr h t=>Wp c (setAttr ov attr r) (λZ h t=>Wp c (execs rest env) Q h t) h t) h t) h t) h t) h t):
  Wp c (execs (.AugAssign (.Attribute o attr px) op e pos::rest) env) Q h t:=ca (wpAny_AugAssign_AttributeAny (q.go λv h t y=>y.go λv h t y=>y.go λv h t y=>y.go λv h t y=>y.go λZ h t y=>aJ y))
theorem BV {op:CmpOp} (q:Wp c (eval e1 env) (λa h t=>Wp c (eval e2 env) (λb h t=>Wp c (compareOp op a b) (λv h t=>Wp c (truthy v) QB h t) h t) h t) h t) (hm:behindInMarks op e2=false):Wp c (isTrue (.Compare e1 [op] [e2] pos) env whole) QB h t:=
 wpAny_isTrue_Compare1 (q.go λv h t y=>y.go λv h t y=>y.go λv h t y=>y) hm
theorem Kv {op:CmpOp} (q:Wp c (eval e1 env) (λa h t=>Wp c (eval e2 env) (λb h t=>Wp c (compareOp op a b) QV h t) h t) h t) (hm:behindInMarks op e2=false):Wp c (eval (.Compare e1 [op] [e2] pos) env) QV h t:=
 wpAny_Compare1 (q.go λv h t y=>y.go λv h t y=>y) hm
theorem OI (q:QB b h t):Wp c (truthy (.bool b)) QB h t:=YT (aJ q)
theorem Xe2 (q:QB false h t):Wp c (truthy .none) QB h t:=truthy_none (aJ q)
variable {es:List Expr}
theorem FR (q:Wp c (isTrue e env (eval e env)) (λb h t=>Br b (Wp c (isTrue (.BoolOp .And es pos) env whole) QB h t) (QB false h t)) h t):Wp c (isTrue (.BoolOp .And (e::es) pos) env whole) QB h t:=
 isTrue_and (q.go λb h t y=>(show Br b _ _ from⟨y.1,λz=>aJ (y.2 z)⟩).ite)
theorem vh (q:QB true h t):Wp c (isTrue (.BoolOp .And [] pos) env whole) QB h t:=isTrue_and_nil (aJ q)
theorem Sz (q:Wp c (isTrue e env (eval e env)) (λb h t=>Br b (QB true h t) (Wp c (isTrue (.BoolOp .Or es pos) env whole) QB h t)) h t):Wp c (isTrue (.BoolOp .Or (e::es) pos) env whole) QB h t:=
 isTrue_or (q.go λb h t y=>(show Br b _ _ from⟨λz=>aJ (y.1 z),y.2⟩).ite)
theorem Ao (q:QB false h t):Wp c (isTrue (.BoolOp .Or [] pos) env whole) QB h t:=isTrue_or_nil (aJ q)
theorem Ed (q:Wp c (isTrue e env (eval e env)) (λb h t=>QB (!b) h t) h t):Wp c (isTrue (.UnaryOp .Not e pos) env whole) QB h t:=isTrue_not (q.go λb h t y=>aJ y)
theorem sj (hs:isTrue e env whole=(do let v ←whole;standAt e.pos;holding [v] (truthy v))) (q:Wp c whole (λv h t=>Wp c (truthy v) QB h t) h t):Wp c (isTrue e env whole) QB h t:=isTrue_plain (q.go λv h t y=>y) hs
theorem yg {op:BoolOp} (q:Wp c (eval e env) QV h t):Wp c (eval (.BoolOp op [e] pos) env) QV h t:=BoolOp_one q
theorem S5 (q:Wp c (eval e1 env) (λv h t=>Wp c (truthy v) (λb h t=>Br b (Wp c (eval (.BoolOp .And (e2::es) pos) env) QV h t) (QV v h t)) h t) h t):Wp c (eval (.BoolOp .And (e1::e2::es) pos) env) QV h t:=
 BoolOp_and (q.go λv h t y=>y.go λb h t y=>(show Br b _ _ from⟨y.1,λz=>aJ (y.2 z)⟩).ite)
theorem WT (q:Wp c (eval e1 env) (λv h t=>Wp c (truthy v) (λb h t=>Br b (QV v h t) (Wp c (eval (.BoolOp .Or (e2::es) pos) env) QV h t)) h t) h t):Wp c (eval (.BoolOp .Or (e1::e2::es) pos) env) QV h t:=
 BoolOp_or (q.go λv h t y=>y.go λb h t y=>(show Br b _ _ from⟨λz=>aJ (y.1 z),y.2⟩).ite)
theorem Ra {op:UnaryOp} (q:Wp c (eval e env) (λv h t=>Wp c (unaryOp op v) QV h t) h t):Wp c (eval (.UnaryOp op e pos) env) QV h t:=UnaryOp_ (q.go λv h t y=>y)
theorem Sj (q:Wp c (truthy v) (λb h t=>QV (.bool !b) h t) h t):Wp c (unaryOp .Not v) QV h t:=not_of (q.go λb h t y=>aJ y)
theorem TV (q:Wp c (isTrue e env (eval e env)) (λb h t=>Br b (Wp c (eval e1 env) QV h t) (Wp c (eval e2 env) QV h t)) h t):Wp c (eval (.IfExp e e1 e2 pos) env) QV h t:=IfExp_ (q.go λb h t y=>y.ite)
theorem RD {a:Addr} (q:QV (.bool false) h t):Wp c (compareOp .Is (.ref a) .none) QV h t:=is_ref_none (aJ q)
theorem Fq {a:Addr} (q:QV (.bool true) h t):Wp c (compareOp .IsNot (.ref a) .none) QV h t:=isnot_ref_none (aJ q)
theorem XaN (q:QV (.bool true) h t):Wp c (compareOp .Is .none .none) QV h t:=is_none_none (aJ q)
theorem NS (q:QV (.bool false) h t):Wp c (compareOp .IsNot .none .none) QV h t:=isnot_none_none (aJ q)
variable {u:Tok}
theorem WF (q:QV (.bool false) h t):Wp c (compareOp .Is (.str z u) .none) QV h t:=is_str_none (aJ q)
theorem Mz (q:QV (.bool true) h t):Wp c (compareOp .IsNot (.str z u) .none) QV h t:=isnot_str_none (aJ q)
theorem XfN {z:Int} (q:QV (.bool false) h t):Wp c (compareOp .Is (.int z u) .none) QV h t:=is_int_none (aJ q)
theorem Hl {z:Int} (q:QV (.bool true) h t):Wp c (compareOp .IsNot (.int z u) .none) QV h t:=isnot_int_none (aJ q)
theorem XfL {z:Bool} (q:QV (.bool false) h t):Wp c (compareOp .Is (.bool z) .none) QV h t:=is_bool_none (aJ q)
theorem Ri {z:Bool} (q:QV (.bool true) h t):Wp c (compareOp .IsNot (.bool z) .none) QV h t:=isnot_bool_none (aJ q)
noncomputable def bj:Expr->Bool
 |.Starred .. =>false
 |_=>true
theorem cU {rest:List Expr} (h:bj e=true):starEach (e::rest) env=(false,eval e env)::starEach rest env:=by
 cases e<;>first|rfl|(exact nomatch h)
noncomputable def Wa (c:Cf w) (env:Env):List Expr->(List Value->Heap->Nat->Prop)->Heap->Nat->Prop
 |[],Q,h,t=>Q [] h t
 |e::r,Q,h,t=>Wp c (eval e env) (λv h t=>Wa c env r (λvs=>Q (v::vs)) h t) h t
variable {a:Value} {rest:List Expr} {Q:List Value->Heap->Nat->Prop} {fa:Addr} {id:String} {first xs:List Value}
theorem Bj (q:Q [] h t):Wa c env [] Q h t:=q
theorem wU (q:Wp c (eval e env) (λv h t=>Wa c env rest (λvs=>Q (v::vs)) h t) h t):Wa c env (e::rest) Q h t:=q
theorem Wa.go:∀{es:List Expr} {Q:List Value->Heap->Nat->Prop} {h:Heap} {t:Nat},es.all bj=true->Wa c env es Q h t->∀{P:List Value->Shared->Prop},(∀vs h t,Q vs h t->P vs ⟨h,c.gn,c.d,t,c.os⟩)->wpAny (model PP w) c.A (spliced (backTo pos (starEach es env))) P c.E ⟨h,c.gn,c.d,t,c.os⟩
 |[],Q,h,t,_,q,P,y=>spliced_none (y _ _ _ q)
 |e::r,Q,h,t,hp,q,P,y=>by
  rw[Ys,WU]at hp;exact spliced_more (Wp.go q λv h t z=>Wa.go hp.2 z λvs h t z=>y _ _ _ z) (cU hp.1)
theorem dY:∀{es:List Expr},es.all bj=true->(backTo pos (starEach es env)).any (·.1)=false
 |[],_=>rfl
 |e::r,hp=>by
  rw[Ys,WU]at hp;rw[cU hp.1];show(false||(backTo pos (starEach r env)).any (·.1))=false;rw[dY hp.2];rfl
def Ck (c:Cf w) (f:Value) (first:List Value) (Q:Value->Heap->Nat->Prop) (vs:List Value) (h:Heap) (t:Nat):Prop:=(HK w.params).In h∧Wp c (call f (first++vs)) Q h t
theorem vK (O:Ok c nn sc ns) (hk:(keepIn (HK w.params) (.ref fa)&&(e::rest).all bj)=true) (q:Wa c env (e::rest) (Ck c (.ref fa) first QV) h t):Wp c (callWith pos (.ref fa) first (backTo pos (starEach (e::rest) env)) []) QV h t:=by
 rw[WU]at hk;have a:=hk.2;rw[Ys,WU]at a;exact cwF O.X hk.1 (Wa.go hk.2 q λvs h t z=>z) (cU a.1) (dY a.2)
theorem VF (O:Ok c nn sc ns) (H:At c ns vs l h) (hk:keepIn (HK w.params) (.ref fa)=true) (q:Wp c (call (.ref fa) []) QV h t):Wp c (callWith pos (.ref fa) [] (backTo pos (starEach [] env)) []) QV h t:=Xe3 O.X H.F hk q
theorem IY (O:Ok c nn sc ns) (H:At c ns vs l h) (hk:keepIn (HK w.params) (.ref fa)=true) (q:Wp c (call (.ref fa) [a]) QV h t):Wp c (callWith pos (.ref fa) [a] (backTo pos (starEach [] env)) []) QV h t:=XeI O.X H.F hk q
theorem sJ (O:Ok c nn sc ns) (H:At c ns vs l h) (e:nsIn (HK w.params) mainGlobals x=some (some v)) (hx:fG env x=true) (q:QV v h t):Wp c (eval (.Name x px) env) QV h t:=glS H.F O.X O.T e hx (aJ q)
theorem wA (O:Ok c nn sc ns) (H:At c ns vs l h) (e:nsIn (HK w.params) mainGlobals x=some none) (hv:bootBuiltins x=some v) (hx:fG env x=true) (q:QV v h t):Wp c (eval (.Name x px) env) QV h t:=biS H.F O.X O.T e hv hx (aJ q)
theorem gw {fe:Expr} (he:eval (.Call fe es [] pos) env=(do callWith pos (←eval fe env) [] (backTo pos (starEach es env)) (backToKw pos (keywordEach [] env)))) (q:Wp c (eval fe env) (λf h t=>Wp c (callWith pos f [] (backTo pos (starEach es env)) []) QV h t) h t):Wp c (eval (.Call fe es [] pos) env) QV h t:=Call_ (q.go λf h t y=>y) he
theorem BA (O:Ok c nn sc ns) (H:At c ns vs l h) (ev:nsIn (HK w.params) mainGlobals x=some (some (.ref fa))) (hk:(fG env x&&(keepIn (HK w.params) (.ref fa)&&(e::rest).all bj))=true)
  (he:eval (.Call (.Name x px) (e::rest) [] pos) env=(do callWith pos (←eval (.Name x px) env) [] (backTo pos (starEach (e::rest) env)) (backToKw pos (keywordEach [] env))))
  (q:Wa c env (e::rest) (Ck c (.ref fa) [] QV) h t):Wp c (eval (.Call (.Name x px) (e::rest) [] pos) env) QV h t:=by
 rw[WU]at hk;exact gw he (sJ O H ev hk.1 (vK O hk.2 q))
theorem WA (O:Ok c nn sc ns) (H:At c ns vs l h) (ev:nsIn (HK w.params) mainGlobals x=some none) (hv:bootBuiltins x=some (.builtin id)) (hk:(fG env x&&(e::rest).all bj)=true)
  (he:eval (.Call (.Name x px) (e::rest) [] pos) env=(do callWith pos (←eval (.Name x px) env) [] (backTo pos (starEach (e::rest) env)) (backToKw pos (keywordEach [] env))))
  (q:Wa c env (e::rest) (λvs h t=>Wp c (call (.builtin id) vs) QV h t) h t):Wp c (eval (.Call (.Name x px) (e::rest) [] pos) env) QV h t:=by
 rw[WU]at hk;have a:=hk.2;rw[Ys,WU]at a;exact gw he (wA O H ev hv hk.1 (cwB (Wa.go hk.2 q λvs h t z=>z) (cU a.1) (dY a.2)))
theorem UL (O:Ok c nn sc ns) (H:At c ns vs l h) (ev:nsIn (HK w.params) mainGlobals x=some none) (hv:bootBuiltins x=some (.type id)) (hk:(fG env x&&(e::rest).all bj)=true)
  (he:eval (.Call (.Name x px) (e::rest) [] pos) env=(do callWith pos (←eval (.Name x px) env) [] (backTo pos (starEach (e::rest) env)) (backToKw pos (keywordEach [] env))))
  (q:Wa c env (e::rest) (λvs h t=>Wp c (call (.type id) vs) QV h t) h t):Wp c (eval (.Call (.Name x px) (e::rest) [] pos) env) QV h t:=by
 rw[WU]at hk;have a:=hk.2;rw[Ys,WU]at a;exact gw he (wA O H ev hv hk.1 (cwT (Wa.go hk.2 q λvs h t z=>z) (cU a.1) (dY a.2)))
theorem yl (hk:(e::rest).all bj=true) (q:Wa c env (e::rest) (λvs h t=>Wp c (call (.builtin id) (first++vs)) QV h t) h t):Wp c (callWith pos (.builtin id) first (backTo pos (starEach (e::rest) env)) []) QV h t:=by
 have a:=hk;rw[Ys,WU]at a;exact cwB (Wa.go hk q λvs h t z=>z) (cU a.1) (dY a.2)
variable {name:Str}
theorem Bs {apos:Pos} {pl:Sem Bool} (he:eval (.Call (.Attribute o name apos) es [] pos) env=(do
   let ov ←eval o env
   standAt apos.atName
   let (f,first) ←holding [ov] (getMethod ov name pl)
   callWith pos f first (backTo pos (starEach es env)) []))
  (q:Wp c (eval o env) (λov h t=>Wp c (getMethod ov name pl) (λfx h t=>Wp c (callWith pos fx.1 fx.2 (backTo pos (starEach es env)) []) QV h t) h t) h t):Wp c (eval (.Call (.Attribute o name apos) es [] pos) env) QV h t:=
 MethodCall_ (q.go λv h t y=>y.go λf h t y=>y) he
variable {kt:Nat}
theorem VC (hk:es.all bj=true) (q:Wa c env es (λvs h t=>Wp c (newTuple vs) QV h t) h t):Wp c (eval (.Tuple es kt pos) env) QV h t:=Tuple_ (Wa.go hk q λvs h t z=>z)
theorem MT (hk:es.all bj=true) (q:Wa c env es (λvs h t=>Wp c (newList vs) QV h t) h t):Wp c (eval (.List es pos) env) QV h t:=List_ (Wa.go hk q λvs h t z=>z)
def Cl (q:Cf w) (l:bu) (h:Heap):Prop:=Cx w q.p q.loose q.mean q.mg q.mb q.A0 q.base q.outer q.g l h
def Co (q:Cf w) (f:Value) (args:List Value) (Q:Value->Heap->Nat->Prop) (h:Heap) (t:Nat):Prop:=codeAny (model PP w) q.A0 (.call f ⟨args,[]⟩) (rq (lf q Q) q.E) ⟨h,q.gn,q.d,t,q.os⟩
variable {q:Cf w} {l':bu} {h':Heap} {Q:Value->Heap->Nat->Prop} {g:Heap} {scope:Scope} {osl:Array (Option Value)} {args:List Value}
theorem lR (ns:List Str) (vs:List (Option Value)) {name qual:Str} {params:Arguments} {dV kV doc pm cdv ct oc:Value} {an od:Option Addr} {f:Addr} {n:Nat}
  (rm:db q.A0 (n+1)) (C:Cl q l h)
  (ho:(HK w.params).lookup f=some ⟨oc,od,.func (fnOf name qual params body scope dV kV doc pm an cdv ct),osl⟩)
  (hc:(iC (HK w.params) scope ns cdv qual&&(scope.names.all λx=> !(x.2== .cell)))=true)
  (hbind:BindsTo ⟨h,q.gn,q.d,t,q.os⟩ (fnOf name qual params body scope dV kV doc pm an cdv ct) ⟨args,[]⟩ (bB ns vs))
  (k:∀c:Cf w,c.g=q.g->c.outer=q.outer->c.cd=cdv->c.qual=qual->
   (∀v h t,wpAny (model PP w) c.A (leaving (c.ev scope) v) (λZ s=>q.E v s) q.E ⟨h,c.gn,c.d,t,c.os⟩->c.E v ⟨h,c.gn,c.d,t,c.os⟩)->(∀v h t,q.E v ⟨h,q.gn,q.d,t,q.os⟩->q.E v ⟨h,c.gn,c.d,t,c.os⟩)->
   Ok c n scope ns->∀h' t',At c ns vs l h'->Wp c (execs body (c.ev scope)) (λfl h t=>Q (fZ fl) h t) h' t'):Co q (.ref f) args Q h t:=by
 rw[WU]at hc;have D:∀d,envOfC qual scope d f cdv=envOf qual scope d f cdv:=λd=>by
  have z:=hc.2;have j:∀(l:List (Str×NameKind)) (n:Nat) (b:List (Str×Addr)),(l.all λx=> !(x.2== .cell))=true->cellsFrom n l b=b:=by
   intro l
   induction l with
   |nil=>intro n b _;rfl
   |cons a r ih=>
    intro n b m;rw[Ys,WU]at m;obtain⟨x,kd⟩:=a;dsimp only[cellsFrom];have:(kd==NameKind.cell)=false:=by simpa using m.1
    rw[this,Xh XE];exact ih _ _ m.2
  unfold envOfC;rw[j _ _ _ z];rfl
 refine GS ns vs rm C ho hc.1 hbind λd e i o G g S F N B X T y p u=>?_;rw[←D d]at o G g S ⊢;refine Wp.go (k {q with qual:=qual,L:=d,f:=f,cd:=cdv,cl:=[],A:=q.A0.deeper (envOfC qual scope d f cdv),E:=pR PP w q.A0 (envOfC qual scope d f cdv) (rq (lf q Q) q.E)}
  rfl rfl rfl rfl (λv h t z=>z) (λZ Z Z z=>z) ⟨S,G,rfl,o,g,B,X,T,y,p⟩ e i ⟨F,N,u⟩) λfl h' t' z=>aJ (c:=q) z
theorem pM (ns:List Str) (vs:List (Option Value)) (cv:List (Str×Option Value)) {name qual:Str} {params:Arguments} {dV kV doc pm cdv ct oc:Value} {an od:Option Addr} {f:Addr} {n:Nat}
  {binds:List (Str×Value)} {b:Addr×Obj} {W T I:bu}
  (rm:db q.A0 (n+1)) (C:Cl q (Lg b W T I) h)
  (ho:(HK w.params).lookup f=some ⟨oc,od,.func (fnOf name qual params body scope dV kV doc pm an cdv ct),osl⟩)
  (hc:iT (HK w.params) scope ns (cv.map (·.1)) cdv qual=true)
  (hbind:BindsTo ⟨h,q.gn,q.d,t,q.os⟩ (fnOf name qual params body scope dV kV doc pm an cdv ct) ⟨args,[]⟩ binds)
  (hk:(binds.all λy=>scope.names.lookup y.1==some .local||scope.names.lookup y.1==some .cell)=true)
  (hl:(binds.filter λx=>scope.names.lookup x.1==some .local)=bB ns vs)
  (hv:(cv.map λx=>bindC (λy=>scope.names.lookup y) binds (λZ=>none) x.1)=cv.map (·.2))
  (k:∀c:Cf w,c.g=q.g->c.outer=q.outer->c.cd=cdv->c.qual=qual->
   (∀v h t,wpAny (model PP w) c.A (leaving (c.ev scope) v) (λZ s=>q.E v s) q.E ⟨h,c.gn,c.d,t,c.os⟩->c.E v ⟨h,c.gn,c.d,t,c.os⟩)->(∀v h t,q.E v ⟨h,q.gn,q.d,t,q.os⟩->q.E v ⟨h,c.gn,c.d,t,c.os⟩)->
   Ok c n scope ns->∀h' t' cs,fk (c.ev scope) cv cs->At c ns vs (Lg b W T (cs++I)) h'->Wp c (execs body (c.ev scope)) (λfl h t=>Q (fZ fl) h t) h' t'):Co q (.ref f) args Q h t:=by
 refine Aw ns vs cv rm C ho hc hbind hk hl hv λe a d cs Y m G g S F N B X T l i j=>?_;exact Wp.go (k {q with qual:=qual,L:=e,f:=f,cd:=cdv,cl:=[],A:=q.A0.deeper (envOfC qual scope e f cdv),E:=pR PP w q.A0 (envOfC qual scope e f cdv) (rq (lf q Q) q.E)}
  rfl rfl rfl rfl (λv h t z=>z) (λZ Z Z z=>z) ⟨S,G,rfl,m,g,B,X,T,l,i⟩ a d cs Y ⟨F,N,j⟩) λfl h' t' z=>aJ (c:=q) z
theorem yB {f:Value} (O:Ok c nn sc ns) (H:At c ns vs l h)
  (k:∀q:Cf w,Cl q l h->db q.A0 nn->(∀l' h',Ex q.g l' h'->At c ns vs l' h')->q.g=hideAll h (l.map (·.1))->q.outer=c.ev sc::c.outer->(∀v h t,c.E v ⟨h,c.gn,c.d,t,c.os⟩->q.E v ⟨h,q.gn,q.d,t,q.os⟩)->Co q f args Q h t):Wp c (call f args) Q h t:=
 O0 (k {c with A0:=c.A,outer:=c.ev sc::c.outer,g:=hideAll h (l.map (·.1))} (OY O.XB O.TB O.B H.F H.N H.k O.G) O.rm (λl' h' x=>let z:=vO H.F H.N x;⟨z.1,z.2,x.keys⟩) rfl rfl λZ Z Z z=>z)
variable {R:Unit->Heap->Nat->Prop} {x dx C D a:Addr} {o:Obj} {ns':List Str} {ws ws':List (Option Value)} {k n:Nat} {u:Value} {u':Obj->bu} {b:Addr×Obj} {W T I:bu} {tk:Tok} {value slice:Expr} {K:Frag}
theorem Bl (H:At c ns vs l h) (hm:In (a,aL xs n) l) (hk:(decide (0≤i)&&decide (i<2 ^ 63))=true) (hx:xs[i.toNat]?=some v) (hs:subscripted slice false (.ref a) (.int i tk)=operate [.ref a,.int i tk] (getItem (.ref a) (.int i tk))) (q:Q v h t):
  Wp c (subscriptTail value slice (.ref a) (.int i tk)) Q h t:=VL H.N hm hk hx (aJ q) hs
theorem Xbe (O:Ok c nn sc ns) (H:At c ns vs (Lg b W T I) h) (q:∀D h',(D==sysModules)=false->At c ns vs (Lg b W T ((D,dictOf [] 0)::I)) h'->Q (.ref D) h' t):Wp c (eval (.Dict [] [] pos) env) Q h t:=
 rZ H.F H.N H.k O.T λD h' d e a f=>aJ (q D h' d ⟨e,a,f⟩)
theorem Ey (H:At c ns vs l h) (U:∀o',dC a (aL xs n) o' l (u' o')) (hk:(decide (0≤i)&&decide (i<2 ^ 63)&&decide (i.toNat<xs.length))=true) (q:∀h',At c ns vs (u' (aL (xs.set i.toNat v) n)) h'->R () h' t):
  Wp c (setItem (.ref a) (.int i tk) v) R h t:=rL H.F H.N H.k U hk λh' d b e=>aJ (q h' ⟨d,b,e⟩)
theorem xU (H:At c ns vs (Lg b W T I) h) (im:In (a,aL xs kk) (Lg b W T I)) (hz:xs.length≤10000) (q:∀D e h',At c ns vs (Lg b W T ((D,aL xs e)::I)) h'->Q (.ref D) h' t):Wp c (call (.type "list") [.ref a]) Q h t:=
 SJ H.F H.N H.k im hz λD e h' f d g=>aJ (q D e h' ⟨f,d,g⟩)
variable {QF:Flow->Heap->Nat->Prop} {nm n1 n2 n3:Str} {tk':Tok} {p1 p3 tpos:Pos} {ix:Expr} {elts:List Expr} {rest:List Stmt} {y:Value} {ys:List Value} {z':Str} {kvs:List (Str×Value)} {pl:Sem Bool} {QM:Value×List Value->Heap->Nat->Prop} {cells:List (Str×Addr)}
theorem tw (hs:swapsWithSole [.Tuple elts kt tpos] value pos.line env=pure false) (hw:swappedStores [.Tuple elts kt tpos] value env=pure none)
  (q:Wp c (eval value env) (λv h t=>Wp c (assign (.Tuple elts kt tpos) env v) (λZ h t=>Wp c (execs rest env) QF h t) h t) h t):Wp c (execs (.Assign [.Tuple elts kt tpos] value pos::rest) env) QF h t:=
 ca (Assign_Tuple (q.go λv h t y=>y.go λZ h t y=>aJ y) hs hw)
theorem tR (O:Ok c nn sc ns) (H:At c ns vs l h) (hm:In (a,cR xs) l) (hn:(assignEach elts env).length=xs.length) (hs:(assignEach elts env).findIdx? (·.1)=none)
  (q:∀h',At c ns vs l h'->Wp c (assignInOrder ((assignEach elts env).map (·.2)) xs) R h' t):Wp c (assign (.Tuple elts kt pos) env (.ref a)) R h t:=
 xN H.F H.N hm O.hh hn hs λh' d b=>(q h' ⟨d,b,H.k⟩).go λZ h t y=>aJ y
theorem yy (q:R () h t):Wp c (assignInOrder ((assignEach [] env).map (·.2)) []) R h t:=zL (aJ q)
theorem rP (he:assignEach (e::elts) env=(false,assign e env)::assignEach elts env) (q:Wp c (assign e env y) (λZ h t=>Wp c (assignInOrder ((assignEach elts env).map (·.2)) ys) R h t) h t):
  Wp c (assignInOrder ((assignEach (e::elts) env).map (·.2)) (y::ys)) R h t:=vJ (q.go λZ h t y=>y) he
theorem nK (q:Wp c (storeName env nm v) R h t):Wp c (assign (.Name nm pos) env v) R h t:=nN q
theorem GU (q:Wp c (eval e env) (λov h t=>Wp c (eval ix env) (λiv h t=>Wp c (setItem ov iv v) R h t) h t) h t):Wp c (assign (.Subscript e ix pos) env v) R h t:=qc (q.go λv h t y=>y.go λv h t y=>y)
theorem FO (hs:swapsWithSole [.Tuple [.Name n1 p1,.Name n2 p2] kt tpos] value pos.line env=pure false) (hw:swappedStores [.Tuple [.Name n1 p1,.Name n2 p2] kt tpos] value env=pure (some [n1,n2]))
  (q:Wp c (eval value env) (λv h t=>Wp c (unpackItems v [n1,n2].length none) (λitems h t=>Wp c (assignInOrder ([n1,n2].reverse.map λn=>bindName env n) items.reverse) (λZ h t=>Wp c (execs rest env) QF h t) h t) h t) h t):
  Wp c (execs (.Assign [.Tuple [.Name n1 p1,.Name n2 p2] kt tpos] value pos::rest) env) QF h t:=ca (PD (q.go λv h t y=>y.go λv h t y=>y.go λZ h t y=>aJ y) hs hw)
theorem vP (hs:swapsWithSole [.Tuple [.Name n1 p1,.Name n2 p2,.Name n3 p3] kt tpos] value pos.line env=pure false) (hw:swappedStores [.Tuple [.Name n1 p1,.Name n2 p2,.Name n3 p3] kt tpos] value env=pure (some [n1,n2,n3]))
  (q:Wp c (eval value env) (λv h t=>Wp c (unpackItems v [n1,n2,n3].length none) (λitems h t=>Wp c (assignInOrder ([n1,n2,n3].reverse.map λn=>bindName env n) items.reverse) (λZ h t=>Wp c (execs rest env) QF h t) h t) h t) h t):
  Wp c (execs (.Assign [.Tuple [.Name n1 p1,.Name n2 p2,.Name n3 p3] kt tpos] value pos::rest) env) QF h t:=ca (FQ (q.go λv h t y=>y.go λv h t y=>y.go λZ h t y=>aJ y) hs hw)
theorem se {m:Nat} {QL:List Value->Heap->Nat->Prop} (O:Ok c nn sc ns) (H:At c ns vs l h) (hm:In (a,cR xs) l) (hz:m=xs.toArray.size) (q:∀h',At c ns vs l h'->QL xs h' t):Wp c (unpackItems (.ref a) m none) QL h t:=by
 subst hz;refine unpackItems_tuple (s:=⟨h,c.gn,c.d,t,c.os⟩) (items:=xs.toArray) O.hh (gh H.N hm) λh' d=>?_;exact aJ (q h' ⟨H.F.extBut d (Xy _),λp b=>⟨d _ _ (XC (Xe (H.N p b).1)) (H.N p b).1,(H.N p b).2⟩,H.k⟩)
theorem Eg {v1 v2:Value} (q:Wp c (storeName env n2 v2) (λZ h t=>Wp c (storeName env n1 v1) R h t) h t):Wp c (assignInOrder ([n1,n2].reverse.map λn=>bindName env n) [v1,v2].reverse) R h t:=by
 refine Yv (YV (q.go λZ h t z=>?_));exact Yv (YV (z.go λZ h t z=>W1 (aJ z)))
theorem Ej {v1 v2 v3:Value} (q:Wp c (storeName env n3 v3) (λZ h t=>Wp c (storeName env n2 v2) (λZ h t=>Wp c (storeName env n1 v1) R h t) h t) h t):Wp c (assignInOrder ([n1,n2,n3].reverse.map λn=>bindName env n) [v1,v2,v3].reverse) R h t:=by
 refine Yv (YV (q.go λZ h t z=>?_));refine Yv (YV (z.go λZ h t z=>?_));exact Yv (YV (z.go λZ h t z=>W1 (aJ z)))
theorem DA {u u':Tok} (q:Q (.bool true) h t):Wp c (compareOp .Eq (.str z u) (.str z u')) Q h t:=Db (aJ q)
theorem Cn {u u':Tok} (e:(z.cps.toList==z'.cps.toList)=false) (q:Q (.bool false) h t):Wp c (compareOp .Eq (.str z u) (.str z' u')) Q h t:=FK e (aJ q)
theorem DJ {u u':Tok} (q:Q (.bool false) h t):Wp c (compareOp .NotEq (.str z u) (.str z u')) Q h t:=Cg (aJ q)
theorem A9 {u u':Tok} (e:(z.cps.toList==z'.cps.toList)=false) (q:Q (.bool true) h t):Wp c (compareOp .NotEq (.str z u) (.str z' u')) Q h t:=AW e (aJ q)
theorem BX {u u':Tok} (h1:z.length≤50000) (h2:z'.length≤50000) (q:∀t' tk,Q (.str (z++z') t') h tk):Wp c (binaryOp .Add (.str z u) (.str z' u')) Q h t:=EX h1 h2 λt' tk=>aJ (q t' tk)
theorem qU (H:At c ns vs l h) (im:In (a,o) l) (Dd:SD PP w o kvs) (q:QM (.builtin "dict.get",[.ref a]) h t):Wp c (getMethod (.ref a) "get" pl) QM h t:=AN H.N im Dd (aJ q)
theorem NK (H:At c ns vs l h) (im:In (a,o) l) (Dd:SD PP w o kvs) (lo:(a==sysModules)=false) (e:valueAt kvs z=none) (q:Q (.bool false) h (t+1)):Wp c (compareOp .In (.str z tk) (.ref a)) Q h t:=XaJ H.N im Dd lo e (aJ q)
theorem tM (H:At c ns vs l h) (Dd:SD PP w o kvs) (hz:kvs.length≤1000) (U:∀o',dC a o o' l (u' o')) (q:∀o' h',SD PP w o' (stored kvs z v)->At c ns vs (u' o') h'->R () h' (t+1)):Wp c (setItem (.ref a) (.str z tk) v) R h t:=
 WC H.F H.N H.k Dd hz U λo' h' b e d f=>aJ (q o' h' b ⟨e,d,f⟩)
theorem uO (O:Ok c nn sc ns) (H:At c ns vs l h) (e:(cM (HK w.params) a "").isSome=true) (q:QM (.builtin "dict.get",[.ref a]) h t):Wp c (getMethod (.ref a) "get" pl) QM h t:=EB H.F O.X e (aJ q)
theorem vL (O:Ok c nn sc ns) (H:At c ns vs l h) (e:cM (HK w.params) a z=some (some v)) (hs:subscripted slice false (.ref a) (.str z tk)=operate [.ref a,.str z tk] (getItem (.ref a) (.str z tk))) (hg:∀r,letTemporaryGo value (.ref a) r=pure ()) (q:Q v h (t+1)):
  Wp c (subscriptTail value slice (.ref a) (.str z tk)) Q h t:=Ii H.F O.X e (aJ q) hs hg
theorem KA {dflt:Value} (O:Ok c nn sc ns) (H:At c ns vs l h) (e:cM (HK w.params) a z=some none) (q:Q dflt h (t+1)):Wp c (call (.builtin "dict.get") [.ref a,.str z tk,dflt]) Q h t:=Du H.F O.X e (aJ q)
theorem Qc {dflt:Value} (O:Ok c nn sc ns) (H:At c ns vs l h) (e:cM (HK w.params) a z=some (some v)) (q:Q v h (t+1)):Wp c (call (.builtin "dict.get") [.ref a,.str z tk,dflt]) Q h t:=Hg H.F O.X e (aJ q)
theorem sF {b:Bool} (O:Ok c nn sc ns) (H:At c ns vs l h) (e:((fy (HK w.params) a).map λys=> !(ys.any (·==z)))=some b) (q:Q (.bool b) h t):Wp c (compareOp .NotIn (.str z tk) (.ref a)) Q h t:=C2 H.F O.X e (aJ q)
theorem Sm (O:Ok c nn sc ns) (H:At c ns vs l h) (i1:In (x,instObj C dx) l) (i2:In (dx,o) l) (cc:isIn (HK w.params) (.ref C) C=true) (q:Q (.bool true) h t):Wp c (call (.builtin "isinstance") [.ref x,.ref C]) Q h t:=Xcy H.F O.X H.N i1 i2 cc (aJ q)
theorem Th (O:Ok c nn sc ns) (H:At c ns vs l h) (i1:In (x,instObj D dx) l) (i2:In (dx,o) l) (cc:(kin_not (HK w.params) D C&&fJ (HK w.params) D)=true) (q:Q (.bool false) h (t+1)):Wp c (call (.builtin "isinstance") [.ref x,.ref C]) Q h t:=XdK H.F O.X H.N i1 i2 cc (aJ q)
theorem Fa {Ty:String} (O:Ok c nn sc ns) (H:At c ns vs l h) (i1:In (x,instObj D dx) l) (i2:In (dx,o) l) (ty:typeOf (.type Ty)=pure (.type "type")) (cc:(kin_notT (HK w.params) D Ty&&fJ (HK w.params) D)=true) (q:Q (.bool false) h (t+1)):
  Wp c (call (.builtin "isinstance") [.ref x,.type Ty]) Q h t:=ON H.F O.X H.N i1 i2 ty cc (aJ q)
theorem uF (O:Ok c nn sc ns) (H:At c ns vs l h) (cc:isNotIn (HK w.params) "int" C=true) (q:Q (.bool false) h (t+1)):Wp c (call (.builtin "isinstance") [.int i tk,.ref C]) Q h t:=Fc H.F O.X cc (aJ q)
theorem wr (O:Ok c nn sc ns) (H:At c ns vs l h) (cc:isNotIn (HK w.params) "str" C=true) (q:Q (.bool false) h (t+1)):Wp c (call (.builtin "isinstance") [.str z tk,.ref C]) Q h t:=GA H.F O.X cc (aJ q)
variable {bb:Bool}
theorem ub (O:Ok c nn sc ns) (H:At c ns vs l h) (cc:isNotIn (HK w.params) "bool" C=true) (q:Q (.bool false) h (t+1)):Wp c (call (.builtin "isinstance") [.bool bb,.ref C]) Q h t:=wo H.F O.X cc (aJ q)
theorem sP (O:Ok c nn sc ns) (H:At c ns vs l h) (cc:isNotIn (HK w.params) "NoneType" C=true) (q:Q (.bool false) h (t+1)):Wp c (call (.builtin "isinstance") [.none,.ref C]) Q h t:=uH H.F O.X cc (aJ q)
theorem Vf (q:Q (.bool false) h (t+1)):Wp c (call (.builtin "isinstance") [.int i tk,.type "bool"]) Q h t:=IsiPair.int_bool (aJ q)
theorem Jw (q:Q (.bool true) h t):Wp c (call (.builtin "isinstance") [.int i tk,.type "int"]) Q h t:=IsiPair.int_int (aJ q)
theorem IR (q:Q (.bool false) h (t+1)):Wp c (call (.builtin "isinstance") [.int i tk,.type "str"]) Q h t:=IsiPair.int_str (aJ q)
theorem Uo (q:Q (.bool true) h t):Wp c (call (.builtin "isinstance") [.bool bb,.type "bool"]) Q h t:=IsiPair.bool_bool (aJ q)
theorem Sx (q:Q (.bool true) h t):Wp c (call (.builtin "isinstance") [.bool bb,.type "int"]) Q h t:=IsiPair.bool_int (aJ q)
theorem SW (q:Q (.bool false) h (t+1)):Wp c (call (.builtin "isinstance") [.bool bb,.type "str"]) Q h t:=IsiPair.bool_str (aJ q)
theorem P0 (q:Q (.bool false) h (t+1)):Wp c (call (.builtin "isinstance") [.str z tk,.type "bool"]) Q h t:=IsiPair.str_bool (aJ q)
theorem KZ (q:Q (.bool false) h (t+1)):Wp c (call (.builtin "isinstance") [.str z tk,.type "int"]) Q h t:=IsiPair.str_int (aJ q)
theorem Uj (q:Q (.bool true) h t):Wp c (call (.builtin "isinstance") [.str z tk,.type "str"]) Q h t:=IsiPair.str_str (aJ q)
theorem LM (q:Q (.bool false) h (t+1)):Wp c (call (.builtin "isinstance") [.none,.type "bool"]) Q h t:=IsiPair.NoneType_bool (aJ q)
theorem JL (q:Q (.bool false) h (t+1)):Wp c (call (.builtin "isinstance") [.none,.type "int"]) Q h t:=IsiPair.NoneType_int (aJ q)
theorem VG (q:Q (.bool false) h (t+1)):Wp c (call (.builtin "isinstance") [.none,.type "str"]) Q h t:=IsiPair.NoneType_str (aJ q)
theorem DN {f:Value} (O:Ok c nn sc ns) (H:At c ns vs l h) (e:findCls (HK w.params) (.ref C) (.type "type") name=some (.val f))
  (cc:(specialIn (HK w.params) (.ref C) "__getattribute__"==some (some (.builtin "type.__getattribute__"))&&typeIn (HK w.params) (.ref C)==some (.type "type")&&readsIn (HK w.params) C (.type "type")&&handedIn f)=true) (q:QM (f,[]) h (t+1)):Wp c (getMethod (.ref C) name pl) QM h t:=
 UR H.F O.X e cc (aJ q)
theorem Tj (H:At c ns vs l h) (Ka:cV env nm a) (im:In (a,o) l) (Dd:fj o (some v)) (hd:(!(nm==("__debug__":Str)))=true) (q:Q v h t):Wp c (eval (.Name nm pos) env) Q h t:=sH H.N Ka im Dd hd (aJ q)
theorem Vd {v₀:Option Value} (H:At c ns vs l h) (Ka:cV env nm a) (Dd:fj o v₀) (U:∀o',dC a o o' l (u' o')) (q:∀o' h',fj o' (some v)->At c ns vs (u' o') h'->R () h' t):Wp c (storeName env nm v) R h t:=
 Ep H.F H.N H.k Ka Dd U λo' h' b e d f=>aJ (q o' h' b ⟨e,d,f⟩)
theorem QX (H:At c ns vs l h) (im:In (a,o) l) (Dd:oH o nm v) (hb:(scope.kind== .function&&(relabel scope env).names.lookup nm==some .local&& !(nm==("__debug__":Str)))=true) (q:Q v h t):Wp c (eval (.Name nm pos) (compEnvC scope cells a env)) Q h t:=Pz H.N im Dd hb (aJ q)
theorem Pn {cl:List (Str×Addr)} (H:At c ns vs l h) (ok:da scope env cl) (Ka:cV env nm a) (im:In (a,o) l) (Dd:fj o (some v)) (hb:(scope.names.lookup nm==some .free&& !(nm==("__debug__":Str)))=true) (q:Q v h t):
  Wp c (eval (.Name nm pos) (compEnvC scope cl D env)) Q h t:=Gr H.N ok Ka im Dd hb (aJ q)
def Eo (c:Cf w) (h:Heap) (m:Sem α) (t:Nat) (a:α) (t':Nat):Prop:=∀Q:α->Heap->Nat->Prop,Q a h t'->Wp c m Q h t
@[reducible] noncomputable def Cf.wE (c:Cf w) (E':Value->Shared->Prop):Cf w:={c with E:=E'}
theorem Ok.wE (O:Ok c nn sc ns) (E':Value->Shared->Prop):Ok (c.wE E') nn sc ns:=⟨O.S,O.G,O.hA,O.hh,O.rm,O.B,O.X,O.T,O.XB,O.TB⟩
def II (c:Cf w) (env:Env) (e:Expr) (scope:Scope) (cl:List (Str×Addr)) (Q:Value->Heap->Nat->Prop) (it:Value) (h:Heap) (t:Nat):Prop:=qK (model PP w) c.A c.E env e scope cl (lf c Q) it ⟨h,c.gn,c.d,t,c.os⟩
variable {x:Str} {elt iter test:Expr} {ifs:List Expr} {cl:List (Str×Addr)}
def Wh (c:Cf w) (env:Env) (test:Expr) (body:List Stmt) (Q:Flow->Heap->Nat->Prop) (h:Heap) (t:Nat):Prop:=Ht PP w c.A c.E env test body (lf c Q) ⟨h,c.gn,c.d,t,c.os⟩
def WhQ (c:Cf w) (env:Env) (test:Expr) (body:List Stmt) (Q:Flow->Heap->Nat->Prop) (f:Flow) (h:Heap) (t:Nat):Prop:=match f with
 |.next=>Wh c env test body Q h t
 |.cont=>Wh c env test body Q h t
 |.brk=>Q .next h t
 |.ret v=>Q (.ret v) h t
theorem Id (q:Wh c env test body (Nx c rest env QF) h t):Wp c (execs (.While test body [] pos::rest) env) QF h t:=ca (Xdi q)
def FoG (c:Cf w) (env:Env) (target:Expr) (body:List Stmt) (Q:Flow->Heap->Nat->Prop) (it:Value) (h:Heap) (t:Nat):Prop:=zw PP w c.A c.E env target body (lf c Q) it ⟨h,c.gn,c.d,t,c.os⟩
theorem MF {target:Expr} (hs:∀x,foldedSetIterable iter env x=pure x) (q:Wp c (eval iter env) (λxv h t=>Wp c (pyIter xv) (λit h t=>FoG c env target body (Nx c rest env QF) it h t) h t) h t):Wp c (execs (.For target iter body [] pos::rest) env) QF h t:=
 ca (Xe5 (q.go λv h t y=>y.go λit h t y=>y) hs)
end
structure uf (h:Heap) (e:Addr) (cl:Value) (dc:Option Addr) (T:Addr) (fl:Value):Prop where
 ex:∃oe vs,h.get? e=some oe∧oe.cls=cl∧oe.dict=dc∧oe.data=.fields vs∧vs[1]?=some (.ref T)
 ne:T≠e
 tb:∃oT ts,h.get? T=some oT∧oT.data=.fields ts∧ts[3]?=some fl
structure Lv (fs:List Addr) (e T₀:Addr) (cl:Value) (dc:Option Addr) (fl:Value) (h h':Heap):Prop where
 sz:h.objs.size≤h'.objs.size
 oth:∀b o,h.get? b=some o->b∉fs->b≠e->b≠T₀->h'.get? b=some o
 frm:∀b o,h.get? b=some o->b∈fs->b≠e->b≠T₀->∃sl,h'.get? b=some {o with slots:=sl}
 exn:∃T,h.objs.size≤T∧uf h' e cl dc T fl
section
variable {M:Model} {A:Around} {E:Value->Shared->Prop} {s:Shared}
theorem fO (f:Array Value->Array Value) (o:Obj):(o.mapFields f).dict=o.dict:=by
 obtain⟨_,_,a,_⟩:=o;cases a<;>rfl
variable {base:Heap} {env:Env} {outer:List Env} {L e:Addr} {oe:Obj} {vs:Array Value} {Q:Unit->Shared->Prop}
theorem jv {head:Value} {hadNext:Bool}
  (hfr:A.frames=some (env::outer)) (hl:s.heap.FunFrames base (env::outer)) (hf:env.frame=some L)
  (he:s.heap.get? e=some oe) (hd:oe.data=.fields vs) (hsz:1<vs.size)
  (h:∀h',Lv ((env::outer).filterMap (·.frame)) e e oe.cls oe.dict (rawInt L) s.heap h'->Q () {s with heap:=h'}):
  wpAny M A (do let a ←frameOf env;let pl ←entryPlaceOf L hadNext;let b ←EntryCells.newEntry head a .none (rawInt L) .none pl;setField (.ref e) 1 b) Q E s:=by
 have p:e∉(env::outer).filterMap (·.frame):=λq=>by
  obtain⟨_,o,r,t⟩:=hl.mem q;rw[he]at r;injection r with r;subst r;exact t vs hd
 refine WV (wpAny_frameOf_fun hfr hl hf λc d=>?_);refine WV (wpAny_entryPlaceOf λpl n=>?_);refine WV (wpAny_newObj_type ?_ (n.sizeOk5 _ _ _ _ _));have j:c.get? e=some oe:=(d.2.1 e p).trans he;have f:=Xp (h:=c) {cls:=.type "traceback",dict:=none,data:=.fields ([head,.ref L,.none,rawInt L,.none]++(if pl.isEmpty then List.replicate 6 Value.none else pl)).toArray} j;refine Zd f hd hsz (h _ ?_);have m:c.objs.size≠e:=Zc (Xe j);have g:=YL hd (·.setIfInBounds 1 (Value.ref c.objs.size));have k:=(XR (c.push {cls:=.type "traceback",dict:=none,data:=.fields ([head,.ref L,.none,rawInt L,.none]++(if pl.isEmpty then List.replicate 6 Value.none else pl)).toArray})
  (Obj.mapFields (·.setIfInBounds 1 (Value.ref c.objs.size))) (Ne.symm m)).trans (XN c rfl)
 have keep:∀b o,b≠e->c.get? b=some o->
   ((c.push {cls:=.type "traceback",dict:=none,data:=.fields ([head,.ref L,.none,rawInt L,.none]++(if pl.isEmpty then List.replicate 6 Value.none else pl)).toArray}).update e (Obj.mapFields (·.setIfInBounds 1 (Value.ref c.objs.size)))).get? b=some o:=
  λb o i l=>by
   rw[XR _ _ (Ne.symm i)];exact Xp _ l
 refine⟨?_,λb o l q i Z=>keep b o i ((d.2.1 b q).trans l),λb o l q i Z=>?_,c.objs.size,Yd d.1.symm,I25 _ _ (Yj (Obj.mapFields (·.setIfInBounds 1 (Value.ref c.objs.size))) f (YR g)) (Obj.cls_mapFields _ _) (fO _ _) g (by simp[hsz]),m,_,_,k,rfl,by first|(rfl;done)|(rcases n with rfl|⟨_,_,_,_,_,_,_,rfl⟩<;>simp)⟩
 ·rw[X5]
  have:(c.push {cls:=.type "traceback",dict:=none,data:=.fields ([head,.ref L,.none,rawInt L,.none]++(if pl.isEmpty then List.replicate 6 Value.none else pl)).toArray}).objs.size=c.objs.size+1:=by simp
  rw[this,d.1];exact Zt _
 ·obtain⟨v,u⟩:=d.2.2 b o l
  exact⟨v,keep b _ i u⟩
theorem iK
  (hfr:A.frames=some (env::outer)) (hl:s.heap.FunFrames base (env::outer)) (hf:env.frame=some L)
  (he:s.heap.get? e=some oe) (hd:oe.data=.fields vs) (h1:vs[1]?=some .none)
  (h:∀h',Lv ((env::outer).filterMap (·.frame)) e e oe.cls oe.dict (rawInt L) s.heap h'->Q () {s with heap:=h'}):wpAny M A (noteFrame (.ref e) env) Q E s:=by
 dsimp only[noteFrame];simp only[hf];refine WV (YJ he hd h1 ?_);rw[Xh (by decide)];exact jv hfr hl hf he hd (XV.mp h1).1 h
variable {T:Addr} {cl:Value} {dc:Option Addr}
theorem jA
  (hfr:A.frames=some (env::outer)) (hl:s.heap.FunFrames base (env::outer)) (hf:env.frame=some L) (hx:uf s.heap e cl dc T .none)
  (h:∀h',Lv ((env::outer).filterMap (·.frame)) e T cl dc (rawInt L) s.heap h'->Q () {s with heap:=h'}):wpAny M A (noteFrame (.ref e) env) Q E s:=by
 obtain⟨⟨m,vs,l,rfl,rfl,hd,h1⟩,hTe,oT,ts,hT,hdT,h3⟩:=hx;dsimp only[noteFrame];simp only[hf];refine WV (YJ l hd h1 ?_);rw[Xn (show(Value.ref T !=Value.none)=true from by rfl)];refine WV (YJ hT hdT h3 ?_);rw[Xh (show¬((Value.none==rawInt L)=true) from by simp[rawInt])];refine WV (Zd hT hdT (XV.mp h3).1 ?_);have a:∀b,b≠T->(s.heap.update T (Obj.mapFields (·.setIfInBounds 3 Value.none))).get? b=s.heap.get? b:=λb c=>XR _ _ (Ne.symm c);have d:∀b o,s.heap.get? b=some o->(∀vs,o.data≠ .fields vs)->b≠T:=λb o c i q=>by
  rw[q,hT]at c;injection c with c;subst c;exact i ts hdT
 refine jv hfr (hl.of_keeps λb o c i=>⟨o,(a b (d b o c i)).trans c,rfl⟩) hf ((a e (Ne.symm hTe)).trans l) hd (XV.mp h1).1 λh' x=>h h' ?_;have k:(s.heap.update T (Obj.mapFields (·.setIfInBounds 3 Value.none))).objs.size=s.heap.objs.size:=X5 ..;refine⟨by rw[←k];exact x.sz,λb o c j f g=>x.oth b o ((a b g).trans c) j f f,λb o c j f g=>x.frm b o ((a b g).trans c) j f f,?_⟩;have z:=x.exn;rw[k]at z;exact z
theorem eG {cl fl:Value} (hx:uf s.heap e cl dc T fl)
  (h:∀h',h'.objs.size=s.heap.objs.size->(∀b,b≠T->h'.get? b=s.heap.get? b)->uf h' e cl dc T .none->Q () {s with heap:=h'}):wpAny M A (setFlight (.ref e) none) Q E s:=by
 obtain⟨⟨q,vs,l,p,i,k,m⟩,g,t,o,j,d,r⟩:=hx;have c:3<o.size:=(XV.mp r).1;have a:∀b,b≠T->(s.heap.update T (Obj.mapFields (·.setIfInBounds 3 ((none:Option Addr).elim Value.none λf=>rawInt f)))).get? b=s.heap.get? b:=
  λb n=>XR _ _ (Ne.symm n)
 refine WV (YJ l k m ?_);rw[Xn (show(Value.ref T !=Value.none)=true from by rfl)];refine Zd j d c (h _ (X5 ..) a ?_);exact⟨I25 q vs ((a e (Ne.symm g)).trans l) p i k m,g,_,_,Yj _ j (YR (YL d _)),YL d _,by simp[c]⟩
theorem Lv.land {fs:List Addr} {e T₀ T:Addr} {cl fl:Value} {h h₁ h':Heap} (x:Lv fs e T₀ cl dc fl h h₁) (hT:h.objs.size≤T) (hs:h'.objs.size=h₁.objs.size) (o:∀b,b≠T->h'.get? b=h₁.get? b) (y:uf h' e cl dc T .none):Lv fs e T₀ cl dc .none h h':=by
 have f:∀b o,h.get? b=some o->b≠T:=λb o q z=>by rw[z]at q;exact absurd (Xe q) (YM.mpr hT)
 exact⟨by rw[hs];exact x.sz,λb a q m c d=>(o b (f b a q)).trans (x.oth b a q m c d),λb a q m c d=>let ⟨sl,z⟩:=x.frm b a q m c d;⟨sl,(o b (f b a q)).trans z⟩,T,hT,y⟩
theorem mw
  (hfr:A.frames=some (env::outer)) (hl:s.heap.FunFrames base (env::outer)) (hf:env.frame=some L)
  (he:s.heap.get? e=some oe) (hd:oe.data=.fields vs) (h1:vs[1]?=some .none)
  (h:∀h',Lv ((env::outer).filterMap (·.frame)) e e oe.cls oe.dict .none s.heap h'->Q () {s with heap:=h'}):wpAny M A (leaving env (.ref e)) Q E s:=by
 unfold leaving;refine WV (iK hfr hl hf he hd h1 λa x=>?_);refine bn x.exn λT b y=>?_;exact eG y λh' c o z=>h h' (x.land b c o z)
theorem mN
  (hfr:A.frames=some (env::outer)) (hl:s.heap.FunFrames base (env::outer)) (hf:env.frame=some L) (hx:uf s.heap e cl dc T .none)
  (h:∀h',Lv ((env::outer).filterMap (·.frame)) e T cl dc .none s.heap h'->Q () {s with heap:=h'}):wpAny M A (leaving env (.ref e)) Q E s:=by
 unfold leaving;refine WV (jA hfr hl hf hx λa x=>?_);refine bn x.exn λT b y=>?_;exact eG y λh' c o z=>h h' (x.land b c o z)
open Builtin Builtin.ObjectAttr
noncomputable def dX (K:Frag) (C:Addr):Bool:=match K.lookup C with
 |some ⟨_,_,.cls cd,sl⟩=> !cd.abstract&& !cd.hasDel&&(sl.toList[4]?).join==some (.builtin "ValueError.__new__")&& !cd.mro.isEmpty&&cd.mro.contains (.ref C)&&cd.mro.contains (.type "ValueError")&&
   !cd.mro.contains (.type "AttributeError")&& !cd.mro.contains (.type "NameError")&&
   specialIn K (.ref C) "__call__"==some (some (.builtin "type.__call__"))&&instIn K (.ref C) (.type "type")==some true
 |_=>false
end
section
open Builtin Builtin.ObjectAttr
structure iQ (M:Model) (h:Heap) (C:Addr):Prop where
 obj:∃oc od cd sl,h.get? C=some ⟨oc,od,.cls cd,sl⟩∧cd.abstract=false∧cd.hasDel=false∧cd.mro.isEmpty=false
 made:Looks M h (Bind.madeBy (.ref C)) (some "ValueError.__new__")
 base:Looks M h (Bind.staticBase (.ref C)) (.ref C)
 self:Looks M h (isSubtype (.ref C) (.ref C)) true
 top:Looks M h (isSubtype (.ref C) (.type "ValueError")) true
 noA:Looks M h (isSubtype (.ref C) (.type "AttributeError")) false
 noN:Looks M h (isSubtype (.ref C) (.type "NameError")) false
 call:Looks M h (specialOf (.ref C) "__call__") (some (.builtin "type.__call__"))
 typ:Looks M h (isInstance (.ref C) (.type "type")) true
set_option tactic.hygienic true in
theorem pG {K:Frag} {M:Model} {h:Heap} (X:K.In h) {C:Addr} (e:dX K C=true):iQ M h C:=by
 unfold dX at e;split at e
 ·rename_i oc od cd sl ho
  simp only[WU,Xj,Xu]at e;obtain⟨⟨⟨⟨⟨⟨⟨⟨⟨v,x⟩,u⟩,f⟩,p⟩,o⟩,i⟩,g⟩,t⟩,w⟩:=e;have j:clsIn K C=some cd:=by unfold clsIn;rw[ho]
  have m:Looks M h (mroOf (.ref C)) cd.mro:=(ZZ X j).andThen .now;obtain⟨c,l,n⟩:∃c l,cd.mro=c::l:=by cases q:cd.mro with|nil=>rw[q]at f;cases f|cons c l=>exact(rU c l rfl)
  have a:Looks M h (Bind.madeBy (.ref C)) (some "ValueError.__new__"):=by
   intro A Q E s k q;refine WV (m A _ E s k ?_);rw[n,Zw];refine WV (WV (WV (WV (Ze (k _ _ (X _ _ ho)) (W1 ?_)))));rw[←Zj,u];exact W1 (W1 (W1 q))
  have d:∀b r,cd.mro.contains b=r->Looks M h (isSubtype (.ref C) b) r:=λb r q=>looks_mroIn X (by unfold mroIn;rw[j,Option.bind_some,Xh (by rw[f];decide),q]);refine⟨H6 oc od cd sl (X _ _ ho) v x f,a,?_,d _ _ p,d _ _ o,d _ _ i,d _ _ g,looks_specialIn X t,looks_instIn X w⟩
  ·intro A Q E s k q
   refine WV (m A _ E s k ?_);rw[n,Zw];exact WV (WV (WV (a A _ E s k (W1 (W1 (W1 q))))))
 ·exact cp e
noncomputable abbrev jT (C t:Addr):Obj:={cls:=.ref C,data:=.fields #[.ref t,.none,.none,.none,.bool false,.none]}
noncomputable abbrev my (xs:List Value):Obj:={cls:=.type "tuple",data:=.seq xs.toArray}
variable {prog:Program} {w:World} {A:Around} {K:Frag} {C:Addr} {R:Result->Shared->Prop} {E:Value->Shared->Prop} {h:Heap} {g:Array GenState} {d:Drawn} {t:Nat} {os:OsState} {rest:List Value} {Q:Unit->Shared->Prop}
theorem mR (Y:iQ (model prog w) h C) (q:Q () ⟨h,g,d,t,os⟩):wpAny (model prog w) A (checkBuiltinCall "ValueError.__new__" ⟨.ref C::rest,[]⟩) Q E ⟨h,g,d,t,os⟩:=by
 obtain⟨⟨p,m,cd,o,s,n,r,l⟩,c,a,b,i,f,k,e,j⟩:=Y;simp only[checkBuiltinCall,XK.newKind,XK.newSplit,XK.newRow]
 repeat (first|simp only[Zf,Xz,Yu,hstar,ZO]|lk)
 exact q
theorem Xek (Y:iQ (model prog w) h C) (hr:rest.length≤1000)
  (hq:R (.ok (.ret (.ref (h.objs.size+1)))) ⟨(h.push (my rest)).push (jT C h.objs.size),g,d,t,os⟩):
  codeAny (model prog w) A (.builtin "ValueError.__new__" ⟨.ref C::rest,[]⟩) R ⟨h,g,d,t,os⟩:=by
 obtain⟨⟨u,v,cd,s,k,y,r,x⟩,f,i,e,q,l,n,j,m⟩:=Y;have a:=XK.ends;refine PySem.codeAny_builtinAt XK.entry ?_;refine PySem.wpAt_bind ?_;refine PySem.wpAt_bind (PySem.wpAt_stack λp c=>PySem.wpAt_of_wpAny ?_)
 wp_walk
 refine PySem.wpAt_of_wpAny ?_;rw[XK.owner]
 repeat (first|simp only[Zf,Xz,Yu,ZO,Zn]|lk)
 rw[Xh (by rw[Xq];exact YM.mpr (by rw[XI];exact Z1 hr:rest.length≤sizeLine))];have b:=Xp (my rest) k;have o:=Xp (jT C h.objs.size) b
 repeat (first|simp only[r,Zf,Xz,Yu,ZO,Zn]|lk)
 rw[Heap.size_push];exact hq
theorem MH (Y:iQ (model prog w) h C) (hr:rest.length≤1000)
  (hq:R (.ok (.ret (.ref (h.objs.size+1)))) ⟨(h.push (my rest)).push (jT C h.objs.size),g,d,t,os⟩):
  codeAny (model prog w) A (.call (.builtin "ValueError.__new__") ⟨.ref C::rest,[]⟩) R ⟨h,g,d,t,os⟩:=
 codeAny_call_builtin_code (Code.quiet_builtin _ XK.quiet) (mR Y (Xek Y hr hq))
theorem np {init:Value} (Y:iQ (model prog w) h C) (hi:Looks (model prog w) h (typeLookup (.ref C) "__init__") (some init))
  (hb:∀self,Looks (model prog w) h (bindSpecial init self) (init,[self])) (hr:rest.length≤1000)
  (hq:codeAny (model prog w) (A.under (.builtin "type.__call__" ⟨.ref C::rest,[]⟩)) (.call init ⟨.ref (h.objs.size+1)::rest,[]⟩) (InitBack (h.objs.size+1) R) ⟨(h.push (my rest)).push (jT C h.objs.size),g,d,t,os⟩):
  codeAny (model prog w) A (.call (.ref C) ⟨rest,[]⟩) R ⟨h,g,d,t,os⟩:=by
 have p:=Y;obtain⟨⟨x,D,cd,u,l,F,J,q⟩,i,j,self,s,m,n,c,f⟩:=Y;refine codeAny_of_tree ?_;refine nd_load l ?_;show wpAny _ _ (callAny.viaDunder (.ref C) _) _ _ _;refine WV (c.at ?_);dsimp only;rw[tc_bind];refine WV (W1 (WV (W1 ?_)));refine W1 (a:=Fin.again (.call (.builtin "type.__call__") ⟨.ref C::rest,[]⟩)) (And.intro rfl ?_);refine codeAny_call_builtin_at (Code.quiet_builtin _ (by decide+kernel)) entry_typeCall (check_slot tc_kind tc_split f (tc_args _ _ _) ?_);have y:Looks (model prog w) h (mroOf (.ref C)) cd.mro:=((Looks.ld (part:=none) l).andThen .now).andThen .now
 repeat (first|simp only[q,Xz,Yu]|with_reducible refine ZE ?_|lk)
 refine MH p hr ?_;have k:∀b o,h.get? b=some o->((h.push (my rest)).push (jT C h.objs.size)).get? b=some o:=λb o e=>Xp _ (Xp _ e);have G:Looks (model prog w) ((h.push (my rest)).push (jT C h.objs.size)) (typeOf (.ref (h.objs.size+1))) (.ref C):=(Looks.ld (by heap_get:((h.push (my rest)).push (jT C h.objs.size)).get? (h.objs.size+1)=some (jT C h.objs.size))).andThen .now;have I:=self.keeps k;have E:=hi.keeps k;have B:=(hb (.ref (h.objs.size+1))).keeps k
 repeat (first|with_reducible refine ZE ?_|lk)
 refine YZ hq λr H z=>?_;rcases r with e|(v|_|_|_)<;>first|exact z|exact z.elim|skip
 obtain⟨rfl,z⟩:=z;exact W1 (W1 z)
end
section
open Builtin Builtin.ObjectAttr
noncomputable def kL:Value->Bool
 |.ref _=>true
 |_=>false
noncomputable def Gz:List Value:=[.type "ValueError",.type "Exception",.type "BaseException",.type "object"]
noncomputable def ff (K:Frag) (C:Addr):Bool:=(clsIn K C).any λcd=>cd.hasDict&& !cd.mro.isEmpty&&(cd.mro.dropWhile kL==Gz)
noncomputable def jK (K:Frag) (C:Addr) (name:Str):Bool:=findIn K (.ref C) "__getattribute__"==some (some (.builtin "BaseException.__getattribute__"))&&findIn K (.ref C) "__getattr__"==some none&&findIn K (.ref C) name==some none&&ff K C
noncomputable def c8 (K:Frag) (C:Addr) (name:Str):Bool:=findIn K (.ref C) "__setattr__"==some (some (.builtin "object.__setattr__"))&&findIn K (.ref C) name==some none&&ff K C
theorem sR {l:List Value} {v:Value} (e:(l.dropWhile kL).contains v=true):l.contains v=true:=by
 induction l with
 |nil=>exact e
 |cons a r ih=>
  rw[List.dropWhile_cons]at e;split at e
  ·rw[List.contains_cons,ih e,Bool.or_true]
  ·exact e
theorem gV (self:Value):∀{l:List Value},refuseLoop self "__setattr__" l=refuseLoop self "__setattr__" (l.dropWhile kL)
 |[]=>rfl
 |a::r=>by
  rw[List.dropWhile_cons];cases a with
  |ref C=>rw[refuseLoop_ref,Xn (show kL (.ref C)=true from rfl)];exact gV self
  |_=>rfl
variable {prog:Program} {w:World} {A:Around} {E:Value->Shared->Prop} {K:Frag} {C x:Addr} {ox:Obj} {od:Option Obj} {h:Heap} {g:Array GenState} {d:Drawn} {t:Nat} {os:OsState} {name:Str} {v:Value}
theorem jH {M:Model} {b:Value} (X:K.In h) (I:InstAt h x ox C od) (c:ff K C=true) (hb:Gz.contains b=true):Looks M h (isInstance (.ref x) b) true:=by
 refine bn (ZK c) λcd d a=>?_;simp only[WU,Xj,Xu]at a;exact I.type.andThen (looks_mroIn X (by unfold mroIn;rw[d,Option.bind_some,Xh (by rw[a.1.2];decide),sR (by rw[a.2];exact hb)]))
variable {o:Obj} {mm:Str->Option Value} {k:Nat} {Q:Value->Shared->Prop}
theorem Xcu {expr:Bool} (X:K.In h) (I:InstAt h x ox C (some o)) (D:cJ o mm k) (P:mm name=some v) (c:jK K C name=true) (hv:handedIn v=true) (q:Q v ⟨h,g,d,t+1,os⟩):
  wpAny (model prog w) A (getAttr (.ref x) name expr) Q E ⟨h,g,d,t,os⟩:=by
 refine jC D.is λB n i s Z=>?_;obtain rfl:=i;unfold jK at c;simp only[WU,Xu]at c;obtain⟨⟨⟨y,G⟩,F⟩,m⟩:=c;have J:=I.type (M:=model prog w);refine bn (ZK m) λcd u r=>?_;simp only[WU,Xj,Xu]at r;have H:hasDictIn K C=true:=by
  unfold hasDictIn;rw[u];exact r.1.1
 have L:=looks_find (M:=model prog w) X I (findObj_own H F rfl (by rw[lookIn_dict,s,P]):findObj K C (some (dictOf B n)) name=some (.value v));have l:=PySem.F.attrBase_ValueError;have f:(Value.builtin "BaseException.__getattribute__"==Value.builtin "object.__getattribute__")=false:=by decide+kernel
 refine WV (wpAny_mkText (XH (WV (J.at (WV ((ZP (M:=model prog w) X y).at ?_))))));dsimp only;rw[f,Bool.and_false,Xh XE];refine WV ((ZP (M:=model prog w) X G).at ?_);refine WV (wpAny_attempt (XH ?_));unfold callGetattribute;rw[(by cases expr<;>rfl:(expr&&onTheHeap (Value.builtin "BaseException.__getattribute__"))=false),Xh XE];unfold boundAndCalled;refine WV ?_;rw[l.ga.bind (.ref x)];refine W1 ?_;have e:∀j:Around,wpAny (model prog w) j (Builtin.«object.__getattribute__» ⟨[.ref x,.str name t],[]⟩) (λa p=>a=.done (.ret v)∧p=⟨h,g,d,t+1,os⟩) (λZ Z=>False) ⟨h,g,d,t+1,os⟩:=λj=>by
  unfold Builtin.«object.__getattribute__»
  repeat lk
  exact⟨rfl,rfl⟩
 refine ZE (Zu (A:=A) (id:="BaseException.__getattribute__") l.ga.plain PySem.F.entry_bexc_ga ?_);refine @PySem.W.check_slot (model prog w) _ _ ⟨h,g,d,t+1,os⟩ "BaseException.__getattribute__" "BaseException" "__getattribute__" (.ref x) [.str name t] [] _ (by decide+kernel:builtinKind "BaseException.__getattribute__"=some .slot) (by decide+kernel:splitId "BaseException.__getattribute__"=some ("BaseException","__getattribute__")) (jH (M:=model prog w) (b:=.type "BaseException") X I m (by decide+kernel)) (PySem.F.args_bexc_ga (.ref x) (.str name t):argsOk "BaseException.__getattribute__" ⟨[.ref x,.str name t],[]⟩) ?_;refine Ym (e _) (λa p z=>?_) λZ Z z=>z.elim;obtain⟨rfl,rfl⟩:=z;show wpAny _ _ (handedOut v) _ _ _;rw[handedOut_of hv];exact W1 q
end
section
open Builtin Builtin.ObjectAttr
variable {prog:Program} {w:World} {A:Around} {E:Value->Shared->Prop} {K:Frag} {C x dx:Addr} {ox:Obj} {od:Option Obj} {h:Heap} {g:Array GenState} {d:Drawn} {t:Nat} {os:OsState} {name:Str} {v:Value} {R:Result->Shared->Prop} {k:Nat} {mm:Str->Option Value}
set_option tactic.hygienic true in
theorem iY {o:Obj} {tk:Tok} {Q:Fin->Shared->Prop} (D:cJ o mm k) (hk:k≤900) (hd:h.get? dx=some o)
  (q:∀o',cJ o' (λy=>if y=name then some v else mm y) (k+1)->∀h',h'.objs.size=h.objs.size->(∀b,b≠dx->h'.get? b=h.get? b)->h'.get? dx=some o'->Q (.done (.ret .none)) ⟨h',g,d,t+1,os⟩):
  wpAny (model prog w) A (storeInDict dx (.str name tk) name v) Q E ⟨h,g,d,t,os⟩:=by
 refine jC D.is λa n i j z=>?_;obtain rfl:=i;have f:=Yj (Obj.putName name (PyData.keyHash w.params name) (.str name t) v) hd (by rw[(putName_dict .. :Obj.putName name (PyData.keyHash w.params name) (.str name t) v (dictOf a n)=dictOf (putL name (PyData.keyHash w.params name) (.str name t) v a) (putN name a n))];rfl);rw[(putName_dict .. :Obj.putName name (PyData.keyHash w.params name) (.str name t) v (dictOf a n)=dictOf (putL name (PyData.keyHash w.params name) (.str name t) v a) (putN name a n))]at f;have e:=j name;rw[←lookIn_dict name a n]at e;refine WV (W1 (WV ?_));refine WV (WV (wpAny_askSetting (W1 (WV (wpAny_mkText (WV (Ze hd ?_)))))));dsimp only;have c:(!a.toArray.any (·.key.isStr name)&&a.toArray.any (·.refKey))=false:=by
  unfold lookIn at e;dsimp only[dictOf]at e;rw[←Array.any_toList,←Array.any_toList];split at e
  ·rename_i en he
   rw[Yt.mpr (bv en (Yh he) (Zx he))];rfl
  ·split at e
   ·exact cX e
   ·rename_i z;rw[Bool.not_eq_true]at z;rw[z,Bool.and_false]
 rw[aRefKeyMayBeTheName_at,c];refine wpAny_updatePart hd ?_;refine WV (wpAny_lookBehind f (pastItsLine_dict (by rw[Xq,XI];have:=dU name (PyData.keyHash w.params name) (.str name t) v a;lia)) ?_);exact W1 (q _ (cJ.put name _ _ v j z _) _ (X5 ..) (λb l=>XR _ _ (Ne.symm l)) f)
theorem U1 {tk:Tok} (X:K.In h) (I:InstAt h x ox C od) (c:c8 K C name=true)
  (hq:∀b,wpAny (model prog w) A.in1 (storeInOwnDict (.ref x) (.ref C) (.str name tk) name v b)
   (λfin s'=>match fin with|.done f=>R (.ok f) s'|.again c'=>c'.quiet=true∧codeAny (model prog w) A c' R s') (λe s'=>R (.error e) s') ⟨h,g,d,t,os⟩):
  codeAny (model prog w) A (.call (.builtin "object.__setattr__") ⟨[.ref x,.str name tk,v],[]⟩) R ⟨h,g,d,t,os⟩:=by
 unfold c8 at c;simp only[WU,Xu]at c;obtain⟨⟨o,k⟩,i⟩:=c;have a:=PySem.F.store_object;refine bn (ZK i) λcd l j=>?_;simp only[WU,Xj,Xu]at j;refine Zu (A:=A) (id:="object.__setattr__") a.slot.plain a.entry ?_;refine @PySem.W.check_slot (model prog w) _ _ ⟨h,g,d,t,os⟩ "object.__setattr__" "object" "__setattr__" (.ref x) [.str name tk,v] [] _ a.kind a.split (jH (M:=model prog w) (b:=.type "object") X I i (by decide+kernel)) (a.args (.ref x) (.str name tk) v:argsOk "object.__setattr__" ⟨[.ref x,.str name tk,v],[]⟩) ?_;have n:Looks (model prog w) h (mroOf (.ref C)) cd.mro:=(ZZ X l).andThen .now;have m:Looks (model prog w) h (storeTaker? none) none:=.now;rw[osa_eq,refuse_eq];refine WV (WV (I.type.here (WV (n.here ?_))));rw[gV,j.2,show Gz=[.type "ValueError",.type "Exception",.type "BaseException",.type "object"] from rfl,PySem.F.store_ValueError.passes (.ref x)];refine W1 (WV (I.type.here (WV ((ZP X k).here (WV (m.here ?_))))));exact hq _
variable {vs:Array Value} {Q:Unit->Shared->Prop}
theorem JK (X:K.In h) (hx:h.get? x=some ox) (hcl:ox.cls=.ref C) (hd:ox.data=.fields vs) (hn:ox.dict=none) (c:c8 K C name=true)
  (q:∀o' h',cJ o' (λy=>if y=name then some v else none) 1->h'.objs.size=h.objs.size+1->(∀b o,h.get? b=some o->b≠x->h'.get? b=some o)->h'.get? x=some {ox with dict:=some h.objs.size}->h'.get? h.objs.size=some o'->Q () ⟨h',g,d,t+2,os⟩):
  wpAny (model prog w) A (setAttr (.ref x) name v) Q E ⟨h,g,d,t,os⟩:=by
 have I:InstAt h x ox C none:=⟨hx,hcl,by unfold notCls;rw[hd],by rw[hn];trivial⟩;have l:=c;unfold c8 at l;simp only[WU,Xu]at l;obtain⟨⟨z,L⟩,D⟩:=l;refine bn (ZK D) λcd u n=>?_;simp only[WU,Xj,Xu]at n;obtain⟨H,B,F,r⟩:=ox;dsimp only at hcl hd hn;subst hcl hd hn;refine set_plain (s:=⟨h,g,d,t,os⟩) X I z (U1 X I c λb=>?_);refine WV (W1 (WV (WV (Ze hx (WV ((ZZ (M:=model prog w) X u).here ?_))))));rw[n.1.1];refine WV (wpAny_alloc ?_);refine WV (wpAny_update (Xp (emptyDict) hx) ?_);refine W1 (a:=some h.objs.size) ?_;have m:∀b,b≠x->((h.push emptyDict).update x λo=>{o with dict:=some h.objs.size}).get? b=(h.push emptyDict).get? b:=λb k=>XR _ _ (Ne.symm k);have j:((h.push emptyDict).update x λo=>{o with dict:=some h.objs.size}).objs.size=h.objs.size+1:=by rw[X5];simp
 refine WV (W1 ?_);refine iY (tk:=t) (o:=dictOf [] 0) pW (by decide) ((m _ (XC (Xe hx):x≠h.objs.size).symm).trans (XN h rfl):((h.push emptyDict).update x λo=>{o with dict:=some h.objs.size}).get? h.objs.size=some emptyDict) λo' G h' p f i=>?_;exact q o' h' G (p.trans j) (λb J e k=>(f b (XC (Xe e))).trans ((m b k).trans (Xp _ e))) ((f x (XC (Xe hx):x≠h.objs.size)).trans (Yj (λo:Obj=>{o with dict:=some h.objs.size}) (Xp (emptyDict) hx) rfl)) i
theorem Nc {o:Obj} (X:K.In h) (hx:h.get? x=some ox) (hcl:ox.cls=.ref C) (hd:ox.data=.fields vs) (hn:ox.dict=some dx) (ho:h.get? dx=some o) (D:cJ o mm k) (hk:k≤900) (c:c8 K C name=true)
  (q:∀o' h',cJ o' (λy=>if y=name then some v else mm y) (k+1)->h'.objs.size=h.objs.size->(∀b,b≠dx->h'.get? b=h.get? b)->h'.get? dx=some o'->Q () ⟨h',g,d,t+2,os⟩):
  wpAny (model prog w) A (setAttr (.ref x) name v) Q E ⟨h,g,d,t,os⟩:=by
 have I:InstAt h x ox C (some o):=⟨hx,hcl,by unfold notCls;rw[hd],by rw[hn];exact ho⟩;have j:=c;unfold c8 at j;simp only[WU,Xu]at j;obtain⟨⟨p,G⟩,u⟩:=j;refine bn (ZK u) λcd n e=>?_;simp only[WU,Xj,Xu]at e;obtain⟨F,r,z,m⟩:=ox;dsimp only at hcl hd hn;subst hcl hd hn;refine set_plain (s:=⟨h,g,d,t,os⟩) X I p (U1 X I c λb=>?_);refine WV (W1 (WV (WV (Ze hx (WV ((ZZ (M:=model prog w) X n).here ?_))))));rw[e.1.1];refine W1 (a:=some dx) (WV (W1 ?_));exact iY (tk:=t) D hk ho λo' B h' l i f=>q o' h' B l i f
end
section
open Builtin Builtin.ObjectAttr
noncomputable abbrev kq (C:Addr) (dc:Option Addr) (a:Addr):Obj:={cls:=.ref C,dict:=dc,data:=.fields #[.ref a,.none,.none,.none,.bool false,.none]}
variable {prog:Program} {w:World} {A:Around} {E:Value->Shared->Prop} {h:Heap} {gn:Array GenState} {d:Drawn} {t:Nat} {os:OsState} {K:Frag} {L l x a:Addr} {h₀:Heap} {m:Str->Option Value} {b:Addr×Obj} {W T R:bu} {C fI:Addr} {vals:List Value} {Q:Value->Shared->Prop}
theorem CQ (F:Fr h₀ L h m) (X:K.In h₀) (N:News h₀ L h (Lg b W T R)) (kk:aY (Lg b W T R)) (hi:findIn K (.ref C) "__init__"=some (some (.ref fI))) (hm:(dX K C&&isFn K (.ref fI))=true) (hr:vals.length≤1000)
  (q:∀x tA h',Fr h₀ L h' m->News h₀ L h' (Lg b W T ((x,kq C none tA)::(tA,cR vals)::R))->aY (Lg b W T ((x,kq C none tA)::(tA,cR vals)::R))->
   codeAny (model prog w) (A.under (.builtin "type.__call__" ⟨.ref C::vals,[]⟩)) (.call (.ref fI) ⟨.ref x::vals,[]⟩) (ib x Q E) ⟨h',gn,d,t,os⟩):
  wpAny (model prog w) A (call (.ref C) vals) Q E ⟨h,gn,d,t,os⟩:=by
 rw[WU]at hm;have Xs:=X.keeps F.keep;refine ZE (np (pG Xs hm.1) (ZP Xs hi) (λa=>bind_fn Xs a (Xu.mp hm.2)) hr ?_);have c:=(N.push F (my vals)).push (F.push _) (jT C h.objs.size);rw[Heap.size_push]at c;have s:Sub (Lg b W T ((h.objs.size+1,kq C none h.objs.size)::(h.objs.size,cR vals)::R)) ((h.objs.size+1,kq C none h.objs.size)::(h.objs.size,cR vals)::Lg b W T R):=λP=>by
  simp only[Lg,Xa,W4,X8,XD];exact Y48
 refine YZ (q _ h.objs.size _ ((F.push _).push _) (kG c s) ((kk.cons2 (λp f=>Xe (N p f).1:∀p∈Lg b W T R,p.1<h.objs.size) (XY _)).sub s)) λr g z=>?_;rcases r with e|(v|_|_|_)<;>exact z
variable {k:Nat} {dx:Addr} {v:Value} {ox:Obj} {od:Option Obj}
set_option tactic.hygienic true in
theorem M3 {vs:Array Value} {old:Value} {R:Value->Shared->Prop} (X:K.In h) (I:InstAt h x ox C od) (hd:ox.data=.fields vs) (h0:vs[0]?=some old) (c:ff K C=true)
  (q:∀h',h'.objs.size=h.objs.size+1->(∀b o,h.get? b=some o->b≠x->h'.get? b=some o)->h'.get? x=some (ox.mapFields (·.setIfInBounds 0 (.ref h.objs.size)))->h'.get? h.objs.size=some (cR [v])->R .none ⟨h',gn,d,t,os⟩):
  wpAny (model prog w) A (call (.builtin "ValueError.__init__") [.ref x,v]) R E ⟨h,gn,d,t,os⟩:=by
 have F:=XK;have z:=jH (M:=model prog w) (b:=.type "ValueError") X I c (by decide+kernel);refine ZE (Zu (A:=A) (id:="ValueError.__init__") F.init.plain F.initEntry ?_);refine bn (ZK c) λcd i D=>?_;obtain⟨j,p,g⟩:∃j,K.lookup C=some j∧j.data=.cls cd:=by
  unfold clsIn at i;split at i
  ·rename_i o1 o2 o3 o4 e
   exact⟨_,e,by obtain rfl:=jS i;rfl⟩
  ·exact cX i
 obtain⟨u,y,m,n⟩:=j;dsimp only at g;subst g;have B:=X _ _ p;have l:=I.at_;have G:=I.type (M:=model prog w);have a:=Xp (cR [v]) l;have k:0<vs.size:=(XV.mp h0).1;have f:R .none ⟨(h.push (cR [v])).update x (Obj.mapFields (·.setIfInBounds 0 (.ref h.objs.size))),gn,d,t,os⟩:=by
  refine q _ (by rw[X5];simp) (λb o e s=>(XR _ _ (Ne.symm s)).trans (Xp _ e)) (Yj _ a (YR (YL hd _))) ?_;exact(XR _ _ (XC (Xe l))).trans (XN h rfl)
 simp only[checkBuiltinCall,F.initKind,F.initSplit,F.initRow]
 repeat (first|simp only[F.noStar,Zf,Xz,Yu,ZO,Zn]|lk)
 rw[hd];refine W1 ?_;rw[h0];refine W1 (WV (Zd a hd k ?_));cases old with
 |ref r=>exact wpAny_letGo (W1 f)
 |_=>exact W1 (W1 f)
theorem DS {e:Expr} {env:Env} {pos:Pos} {Q:Flow->Shared->Prop} {s:Shared} (hh:A.handled=none)
  (h:wpAny (model prog w) A (eval e env) (λv s₁=>∃x C ox od vs,v=.ref x∧K.In s₁.heap∧InstAt s₁.heap x ox C od∧ox.data=.fields vs∧vs[1]?=some .none∧(ff K C&&typeIn K (.ref C)==some (.type "type"))=true∧E (.ref x) s₁) E s):
  wpAny (model prog w) A (exec (.Raise (some e) none pos) env) Q E s:=by
 show wpAny (model prog w) A (do standAt pos;raiseStmt env (some (do let v ←eval e env;standAt pos;pure v)) none) Q E s;refine WV (Yr ?_);refine WV (WV (Ym h (λv s₁ d=>WV (Yr (W1 ?_))) λZ Z x=>x));refine MV d λx C ox od vs k X I q r f=>?_;obtain rfl:=k;obtain⟨c,n⟩:=f;rw[WU,Xu]at c;obtain⟨g,m,p,o,i⟩:=s₁;have l:=I.at_;have a:∀{j:Bool->Shared->Prop},j false ⟨g,m,p,o,i⟩->wpAny (model prog w) A (isType (.ref x)) j E ⟨g,m,p,o,i⟩:=by
  intro j t;simp only[isType,loadHead];refine WV (Ze l ?_);rw[q];exact W1 t
 refine WV (W1 ?_);dsimp only;refine WV (XH ?_);refine WV (WV (a ?_));simp only[Xz,Yu];refine W1 ?_;simp only[Xz,Yu];refine WV ((jH (M:=model prog w) (b:=.type "BaseException") X I c.1 (by decide+kernel)).at ?_);simp only[ZO];refine W1 ?_;refine WV (a ?_);simp only[Xz,Yu];unfold raisedInstance;refine WV (WV ((I.type (M:=model prog w)).at (WV ((looks_typeIn (M:=model prog w) X c.2).at ?_))));rw[Xn (by rfl)];refine W1 ?_;delta setFlight raiseNew;refine WV (WV (YJ l q r ?_));rw[Xh (by decide)];refine W1 (WV (wpAny_handled ?_));rw[hh]
 first
  |exact wpAny_throw n
  |exact WV (W1 (wpAny_throw n))
end
section
variable {w:World}
noncomputable def eA (l:List Env):List Addr:=l.filterMap (·.frame)
@[reducible] noncomputable def Cf.wg (c:Cf w) (g:Heap):Cf w:={c with g:=g}
variable {c:Cf w} {nn:Nat} {sc:Scope} {ns:List Str} {vs:List (Option Value)} {l l':bu} {h h':Heap}
theorem Ok.turn {g':Heap} (O:Ok c nn sc ns) (T:KtsTurn (eA c.outer) c.g g'):Ok (c.wg g') nn sc ns:=by
 have a:c.base.StaysIn g':=λb o e=>T.other b o (O.B.stays b o e) (λf=>by rw[(O.B.frames.mem f).1]at e;exact cX e);refine⟨O.S,O.G,O.hA,O.hh,O.rm,⟨O.B.stack,a,O.B.frames.of_keeps λb o e Z=>?_⟩,O.XB.keeps a,O.TB.keeps a,O.XB,O.TB⟩;obtain⟨g,d⟩:=T.up e;exact(bv _ d rfl)
theorem Ho {g1:Heap} (O:Ok c nn sc ns) (H:At c ns vs l h) (k:KtsTurn (eA (c.ev sc::c.outer)) (hideAll h (l.map (·.1))) g1) (x:Ex g1 l' h'):
  ∃g',KtsTurn (eA c.outer) c.g g'∧Ok (c.wg g') nn sc ns∧At (c.wg g') ns vs l' h':=by
 have F:=H.F;have N:=H.N;have C:∀b o,c.g.get? b=some o->b∉l.map (·.1):=λb o e q=>by
  refine bn (Xb.mp q) λp m r=>?_;obtain rfl:=r;rw[(N p m).2.2]at e;exact cX e
 have j:c.g.StaysIn (hideAll h (l.map (·.1))):=λb o e=>YI _ (F.keep b o e) (C b o e);refine mC F.ns λM J E K i f v=>?_;have I:c.L∉l.map (·.1):=λq=>by
  refine bn (Xb.mp q) λp m e=>?_;exact(N p m).2.1 e
 obtain⟨P,a⟩:=k.up (YI (l.map (·.1)) K I);have L:c.g.get? c.L=none:=kts_self F;have B:∀b,b∈eA (c.ev sc::c.outer)->b=c.L∨b∈eA c.outer:=λb n=>by
  refine bn (Yn.mp n) λs he y=>?_;rcases WY.mp he with rfl|he
  ·exact .inl (W7 (y.symm.trans (show(c.ev sc).frame=some c.L from rfl)))
  ·exact .inr (Yn.mpr (bv s he y))
 have w:∀b o,c.g.get? b=some o->b∉eA c.outer->h'.get? b=some o:=λb o e G=>x.st _ _ (k.other b o (j b o e) λn=>by
  rcases B b n with rfl|z
  ·rw[L]at e;exact cX e
  ·exact G z)
 have t:∀b o,c.g.get? b=some o->b∈eA c.outer->∃d,h'.get? b=some {o with slots:=d}:=λb o e Z=>by
  obtain⟨d,z⟩:=k.up (j b o e);exact⟨d,x.st _ _ z⟩
 obtain⟨T,S⟩:=kts_turn_at (h:=h') (fs:=eA c.outer) (g:=c.g) (λb A=>by
  obtain⟨_,o,w,_⟩:=O.B.frames.mem A;exact⟨o,w⟩) w t
 refine(jn _ T (O.turn T) ⟨⟨gW _ J E (x.st _ _ a) i f v,S,by rw[T.size];exact F.above⟩,λq u=>(eQ ((x.led q u).1) (λe=>?_) (T.none_ _ ?_)),x.keys⟩)
 ·have:=(x.led q u).2;rw[e,a]at this;exact zG this
 ·cases z:c.g.get? q.1 with
  |none=>rfl
  |some o=>
   obtain⟨d,D⟩:=k.up (j _ _ z);have:=(x.led q u).2;rw[D]at this;exact zG this
def RX (cl:Value) (dc:Option Addr) (fs:List Addr) (g:Heap) (l:bu) (e:Addr) (h:Heap):Prop:=∃g' oe T oT,KtsTurn fs g g'∧Ex g' ((e,oe)::(T,oT)::l) h∧uf h e cl dc T .none
variable {e T₀:Addr} {oe:Obj} {cl:Value} {dc:Option Addr}
theorem RX.turn {fs:List Addr} {g g':Heap} (k:KtsTurn fs g g') (x:RX cl dc fs g' l e h):RX cl dc fs g l e h:=by
 refine HA x λc d T a b x=>?_;exact(yx c d T a (k.trans b) x)
theorem th (O:Ok c nn sc ns) (H:At c ns vs ((e,oe)::l) h) (hT:∀q∈l,q.1≠T₀) (gT:c.g.get? T₀=none) (nT:T₀≠c.L) (x:Lv (eA (c.ev sc::c.outer)) e T₀ cl dc .none h h'):RX cl dc (eA c.outer) c.g l e h':=by
 have F:=H.F;have N:=H.N;refine mC F.ns λV W U X I D P=>?_;have M:c.g.get? c.L=none:=kts_self F;have w:∀b,b∈eA (c.ev sc::c.outer)->b=c.L∨b∈eA c.outer:=λb a=>by
  refine bn (Yn.mp a) λd he k=>?_;rcases WY.mp he with rfl|he
  ·exact .inl (W7 (k.symm.trans (show(c.ev sc).frame=some c.L from rfl)))
  ·exact .inr (Yn.mpr (bv d he k))
 have lf:∀b,b∈eA c.outer->b∈eA (c.ev sc::c.outer):=λb a=>by
  refine bn (Yn.mp a) λd he k=>?_;exact Yn.mpr (bv d (.tail _ he) k)
 have n:c.g.get? e=none:=(N _ (.head _)).2.2;have A:∀b∈eA c.outer,∃o,c.g.get? b=some o:=λb B=>by
  obtain⟨_,o,f,_⟩:=O.B.frames.mem B;exact⟨o,f⟩
 have m:∀b,c.g.get? b=none->b≠c.L->b∉eA (c.ev sc::c.outer):=λb q G a=>by
  rcases w b a with rfl|z
  ·exact G rfl
  ·obtain⟨o,f⟩:=A b z;rw[q]at f;exact cX f
 have f:∀b o,c.g.get? b=some o->b∉eA c.outer->h'.get? b=some o:=λb o q K=>x.oth b o (F.keep _ _ q) (λa=>by
  rcases w b a with rfl|z
  ·rw[M]at q;exact cX q
  ·exact K z) (λz=>by rw[z,n]at q;exact cX q) (λz=>by rw[z,gT]at q;exact cX q)
 obtain⟨T,S⟩:=kts_turn_at (h:=h') (fs:=eA c.outer) (g:=c.g) A f (λb o q a=>x.frm b o (F.keep _ _ q) (lf b a) (λz=>by rw[z,n]at q;exact cX q) (λz=>by rw[z,gT]at q;exact cX q):∀b o,c.g.get? b=some o->b∈eA c.outer->∃sl,h'.get? b=some {o with slots:=sl});refine bn x.exn λTb i y=>?_;obtain⟨⟨t,L,v,_⟩,u,E,R,s,_⟩:=id y;have r:c.g.get? Tb=none:=by
  cases q:c.g.get? Tb with
  |none=>rfl
  |some o=>exact absurd (Xi (Xe (F.keep _ _ q)) i) (XX _)
 have j:=H.k.nd;rw[W4,W2]at j;have C:∀q∈(e,oe)::l,q.1<h.objs.size:=λq hq=>Xe (N q hq).1;refine(I43 _ t Tb E T ⟨S,?_,λq hq=>?_,⟨?_⟩⟩ y)
 ·rw[T.size];exact WX (oN F) x.sz
 ·rcases WY.mp hq with rfl|hq
  ·exact⟨v,T.none_ _ n⟩
  ·rcases WY.mp hq with rfl|hq
   ·exact⟨s,T.none_ _ r⟩
   ·have z:=N q (.tail _ hq)
    exact⟨x.oth _ _ z.1 (m _ z.2.2 z.2.1) (λQ=>j.1 (Xb.mpr (bv q hq Q))) (hT q hq),T.none_ _ z.2.2⟩
 ·rw[W4,W4,W2,W2]
  refine(eQ (λq=>?_) (λq=>?_) j.2)
  ·rcases WY.mp q with q|q
   ·exact u q.symm
   ·exact j.1 q
  ·refine bn (Xb.mp q) λp J q=>?_
   exact absurd (C p (.tail _ J)) (by rw[q];exact YM.mpr i)
theorem fA (O:Ok c nn sc ns) (H:At c ns vs l h):h.FunFrames c.base (c.ev sc::c.outer):=by
 refine mC H.F.ns λg k m j d i f=>?_;have a:c.base.get? c.L=none:=by
  cases hq:c.base.get? c.L with
  |none=>rfl
  |some o=>exact absurd (Xi (Xe (O.B.stays c.L o hq)) H.F.above) (XX _)
 exact(eQ (by rw[O.G.ke];decide) (ya c.L g O.G.fr a j (λvs e=>by rw[d]at e;cases e)) (O.B.frames.of_keeps λb o e Z=>(bv o (H.F.keep b o e) rfl)))
variable {Q:Unit->Shared->Prop} {E:Value->Shared->Prop}
theorem Bi {t:Nat} {C:Addr} {a:Addr} (O:Ok c nn sc ns) (H:At c ns vs ((e,kq C dc a)::l) h)
  (q:∀h',RX (.ref C) dc (eA c.outer) c.g l e h'->Q () ⟨h',c.gn,c.d,t,c.os⟩):wpAny (model PP w) c.A (leaving (c.ev sc) (.ref e)) Q E ⟨h,c.gn,c.d,t,c.os⟩:=by
 have b:=H.k.nd;rw[W4,W2]at b;exact mw (s:=⟨h,c.gn,c.d,t,c.os⟩) O.G.fs (fA O H) O.G.fr (H.N _ (.head _)).1 rfl rfl λh' x=>q h' (th O H (λq d z=>b.1 (Xb.mpr ⟨q,d,z⟩)) (H.N _ (.head _)).2.2 (H.N _ (.head _)).2.1 x)
theorem FY {t:Nat} {h0:Heap} {l0:bu} (O:Ok c nn sc ns) (H:At c ns vs l0 h0) (x:RX cl dc (eA (c.ev sc::c.outer)) (hideAll h0 (l0.map (·.1))) l e h)
  (q:∀h',RX cl dc (eA c.outer) c.g l e h'->Q () ⟨h',c.gn,c.d,t,c.os⟩):wpAny (model PP w) c.A (leaving (c.ev sc) (.ref e)) Q E ⟨h,c.gn,c.d,t,c.os⟩:=by
 refine TR x λo g T j k n y=>?_;refine ic (Ho O H k n) λf i b a=>?_;have d:=a.k.nd;rw[W4,W4,W2,W2]at d;have s:Sub ((e,g)::l) ((e,g)::(T,j)::l):=λP=>by simp only[W4,XD];exact Z73
 refine mN (s:=⟨h,c.gn,c.d,t,c.os⟩) b.G.fs (fA (c:=c.wg f) b a) b.G.fr y λh' z=>q h' (RX.turn i ?_);exact th (c:=c.wg f) b (a.sub s) (λq m z=>d.2.1 (Xb.mpr ⟨q,m,z⟩)) (a.N _ (.tail _ (.head _))).2.2 (a.N _ (.tail _ (.head _))).2.1 z
variable {vs':List (Option Value)} {t:Nat} {env:Env} {v:Value} {Q:Value->Heap->Nat->Prop} {QF:Flow->Heap->Nat->Prop} {R:Unit->Heap->Nat->Prop} {x dx C a:Addr} {o:Obj} {ns':List Str} {ws ws':List (Option Value)} {k n:Nat} {name:Str} {b:Addr×Obj} {W T I:bu} {e:Expr} {pos:Pos} {rest:List Stmt} {pl:Sem Bool}
theorem r7 (O:Ok c nn sc ns) (H:At c ns vs l h):Eo c h (getMethod (.type "ValueError") "__init__" pl) t (.builtin "ValueError.__init__",[]) (t+1):=λZ q=>
 method_type (s:=⟨h,c.gn,c.d,t,c.os⟩) (K:=[]) H.F (λZ Z e=>nomatch e) (T:="ValueError") (name:="__init__") (v:=.builtin "ValueError.__init__") (by kernel_rfl) (by kernel_rfl) (by kernel_rfl) (by kernel_rfl) (aJ q)
variable {prog:Program} {A:Around} {gn:Array GenState} {d:Drawn} {os:OsState} {L:Addr} {h₀:Heap} {m:Str->Option Value} {news:bu} {i:Int} {u:Tok}
theorem q8:(dictOf [] 0:Obj).IsDictOf (intKind prog w) ([]:List (Int×Value)):=by
 refine bn (X7.mp (Heap.DictOf.new (knd:=intKind prog w) ({}:Heap))) λo a b=>?_;rw[XN _ rfl]at a;have e:(dictOf [] 0:Obj)=o:=W7 a;rw[e];exact b
theorem vg {Q:Value->Shared->Prop} (N:News h₀ L h news) (im:In (a,dictOf [] 0) news) (lo:(a==sysModules)=false) (q:Q (.bool true) ⟨h,gn,d,t+1,os⟩):wpAny (model prog w) A (compareOp .NotIn (.int i u) (.ref a)) Q E ⟨h,gn,d,t,os⟩:=
 wpAny_notIn_of (intKind_is prog w i u) lo (X7.mpr (bv _ (N.get im.mem) q8):h.DictOf (intKind prog w) a []).mapOf q
theorem N7 {u':Obj->bu} {Q:Unit->Shared->Prop} (F:Fr h₀ L h m) (N:News h₀ L h news) (kk:aY news) (U:∀o',dC a (dictOf [] 0) o' news (u' o'))
  (q:∀o' h',Fr h₀ L h' m->News h₀ L h' (u' o')->aY (u' o')->Q () ⟨h',gn,d,t+1,os⟩):wpAny (model prog w) A (setItem (.ref a) (.int i u) v) Q E ⟨h,gn,d,t,os⟩:=by
 refine wpAny_setItem_pairs (kvs:=[]) (s:=⟨h,gn,d,t,os⟩) (hsz:=by rw[XI];decide) (intKind_is prog w i u) (X7.mpr (bv _ (N _ ((U (dictOf [] 0)).mem)).1 q8)) λh' b g=>?_;refine bn (X7.mp b) λo' e k=>?_;have V:=(U o').go kk;have c:=kk.upd V;refine ux V.split λl f j p o n=>?_;refine q o' h' (F.change g (N _ ((U (dictOf [] 0)).mem)).2.1 (N _ ((U (dictOf [] 0)).mem)).2.2) ?_ c;rw[p];rw[j]at N;exact N.setAt o n g e
variable {u':Obj->bu}
theorem pU (H:At c ns vs l h) (im:In (a,dictOf [] 0) l) (lo:(a==sysModules)=false) (q:Q (.bool true) h (t+1)):Wp c (compareOp .NotIn (.int i u) (.ref a)) Q h t:=vg H.N im lo (aJ q)
theorem wD (H:At c ns vs l h) (U:∀o',dC a (dictOf [] 0) o' l (u' o')) (q:∀o' h',At c ns vs (u' o') h'->R () h' (t+1)):Wp c (setItem (.ref a) (.int i u) v) R h t:=
 N7 H.F H.N H.k U λo' h' d b e=>aJ (q o' h' ⟨d,b,e⟩)
variable {e1 e2:Expr} {es:List Expr} {out z:Str} {tk:Tok}
theorem Ax (q:Wp c (joinParts Str.empty (evalEach (e1::e2::es) env)) Q h t):Wp c (eval (.JoinedStr (e1::e2::es) pos) env) Q h t:=JoinedStr_many q
theorem vT (q:Wp c (eval e env) (λv h t=>∃y u,v=.str y u∧(out++y).length≤50000∧Wp c (joinParts (out++y) (evalEach es env)) Q h t) h t):Wp c (joinParts out (evalEach (e::es) env)) Q h t:=
 joinParts_cons (q.go λv h t z=>by obtain⟨y,u,rfl,hz,z⟩:=z;exact⟨by rw[XI];exact Z1 hz,z⟩)
theorem AI (hz:out.length≤50000) (q:Q (.str out t) h (t+1)):Wp c (joinParts out (evalEach [] env)) Q h t:=joinParts_nil (aJ q) (by rw[XI];exact Z1 hz)
theorem NO (q:Wp c (eval e env) (λv h t=>Wp c (formatField v Str.empty) Q h t) h t):Wp c (eval (.FormattedValue e (-1) none pos) env) Q h t:=FormattedValue_plain (q.go λZ Z Z z=>z)
theorem Gu (hz:z.length≤50000) (q:∀u t,Q (.str z u) h t):Wp c (formatField (.str z tk) Str.empty) Q h t:=
 WV (wpAny_rule (habitSame_str (λa tk=>aJ (q a tk)) (by rw[XI];exact Z1 hz)))
theorem fb {n:Nat} {l:List (Str×NameKind)}:∀{n:Nat} {acc:List (Str×Addr)},(l.all λx=> !(x.2== .cell))=true->cellsFrom n l acc=acc:=by
 induction l with
 |nil=>intro n acc _;rfl
 |cons a r ih=>
  intro n acc b;rw[Ys,WU]at b;obtain⟨x,kd⟩:=a;unfold cellsFrom;have:(kd==NameKind.cell)=false:=by simpa using b.1
  rw[this,Xh XE];exact ih b.2
noncomputable def iV (scope:Scope):Bool:=jp scope []&&(!scope.isCoroutine&& !scope.isGenerator)&&scope.names.all λx=> !(x.2== .cell)
variable {p:Program} {loose:List Str} {mean:ExcName->Option Value} {mg mb:Str->Option Value} {base g h0:Heap} {outer:List Env} {R:Result->Shared->Prop} {cl:List (Str×Addr)}
theorem GJ {name qual:Str} {params:Arguments} {body:Expr} {scope:Scope} {pm ctv:Value} {c':Addr} {f:Addr}
  (rm:db A (n+1)) (c:Cx w p loose mean mg mb A base outer g l h0) (ho:(f,kla_obj name qual params body scope cl pm c' ctv)∈l) (hcd:h0.CodeRec (.ref c') qual) (hc:iV scope=true)
  (hb:bindArgs (kla_fn name qual params body scope cl pm (.ref c') ctv) ⟨[],[]⟩=pure [])
  (h:∀L' h₁ t₁,(A.deeper (envX qual scope L' f (.ref c') cl)).handled=none->Gd (A.deeper (envX qual scope L' f (.ref c') cl)) (envX qual scope L' f (.ref c') cl) outer L'->db (A.deeper (envX qual scope L' f (.ref c') cl)) n->g9 (envX qual scope L' f (.ref c') cl) L' []->Fr g L' h₁ (bT [] [])->News g L' h₁ l->Below A base outer g->(HK w.params).In g->Top p loose mean mg mb g->(HK w.params).In base->Top p loose mean mg mb base->aY l->
   wpAny (model prog w) (A.deeper (envX qual scope L' f (.ref c') cl)) (eval body (envX qual scope L' f (.ref c') cl)) (λv s'=>R (.ok (.ret v)) s') (pR prog w A (envX qual scope L' f (.ref c') cl) R) ⟨h₁,gn,d,t₁,os⟩):codeAny (model prog w) A (.call (.ref f) ⟨[],[]⟩) R ⟨h0,gn,d,t,os⟩:=by
 unfold iV at hc;rw[WU,WU,WU,Xj,Xj]at hc;obtain⟨⟨hS,r,k⟩,j⟩:=hc;have S:∀L',g9 (envX qual scope L' f (.ref c') cl) L' []:=λL'=>kl (env:=envX qual scope L' f (.ref c') cl) hS;have i:∀x∈scope.names,x.2≠ .cell:=λx z e=>by
  have:=WZ.mp j x z;rw[e]at this;exact cp this
 have Tg:=c.T.keeps c.B.stays;refine kla_callFunE rm.lt (c.led _ ho).1 rfl r k rfl hcd ?_;rw[hb];refine W1 (wpAny_newFunctionEnv i (λy B=>by cases B) (λh₁ s m=>⟨(Tg.nolimit.keeps c.st).fresh _ m,?_⟩) (S f).kind);show codeAny _ _ (.expr body (envX qual scope h0.objs.size f (.ref c') cl)) _ _;have a:∀b o,h0.get? b=some o->h₁.get? b=some o:=λb o e=>m.extBut b o (XC (Xe e)) (Xp _ e);exact kla_codeExpr (h h0.objs.size h₁ _ rm.hd ⟨Zs c.B.stack,rfl,(S f).kind⟩ (rm.deeper (Xy _)) (S _) ⟨s,λb o e=>a b o (c.st b o e),c.sz⟩ (λq u=>⟨a _ _ (c.led q u).1,XC (Xe (c.led q u).1),(c.led q u).2⟩) c.B (c.X.keeps c.B.stays) Tg c.X c.T c.keys)
theorem ud {q:Cf w} {name qual:Str} {params:Arguments} {body:Expr} {scope:Scope} {pm ctv:Value} {c':Addr} {f:Addr} {h:Heap} {t:Nat}
  (rm:db q.A0 (n+1)) (C:Cl q l h) (ho:(f,kla_obj name qual params body scope cl pm c' ctv)∈l) (hcd:h.CodeRec (.ref c') qual) (hc:iV scope=true) (hb:bindArgs (kla_fn name qual params body scope cl pm (.ref c') ctv) ⟨[],[]⟩=pure [])
  (k:∀c:Cf w,c.g=q.g->c.outer=q.outer->c.cl=cl->c.cd=.ref c'->c.qual=qual->
   (∀v h t,wpAny (model PP w) c.A (leaving (c.ev scope) v) (λZ s=>q.E v s) q.E ⟨h,c.gn,c.d,t,c.os⟩->c.E v ⟨h,c.gn,c.d,t,c.os⟩)->(∀v h t,q.E v ⟨h,q.gn,q.d,t,q.os⟩->q.E v ⟨h,c.gn,c.d,t,c.os⟩)->
   Ok c n scope []->∀h' t',At c [] [] l h'->Wp c (eval body (c.ev scope)) Q h' t'):Co q (.ref f) [] Q h t:=by
 have b:(scope.names.all λx=> !(x.2== .cell))=true:=by
  unfold iV at hc;rw[WU]at hc;exact hc.2
 refine GJ rm C ho hcd hc hb λa d g i G e S F N B X T o j m=>?_;rw[(by rw[fb (n:=0) b]:envX qual scope a f (.ref c') cl=envX qual scope a f (.ref c') (cellsFrom (a+1) scope.names cl))]at i G e S ⊢;exact Wp.go (k {q with qual:=qual,L:=a,f:=f,cd:=.ref c',cl:=cl,A:=q.A0.deeper (envX qual scope a f (.ref c') (cellsFrom (a+1) scope.names cl)),E:=pR PP w q.A0 (envX qual scope a f (.ref c') (cellsFrom (a+1) scope.names cl)) (rq (lf q Q) q.E)}
  rfl rfl rfl rfl rfl (λv h t z=>z) (λZ Z Z z=>z) ⟨S,G,rfl,i,e,B,X,T,o,j⟩ d g ⟨F,N,m⟩) λv h' t' z=>aJ (c:=q) z
end
open PyProof
inductive SV
 |none|bool (b:Bool)|int (i:Int)|str (z:Str)|ref (k:Nat)|glob (a:Addr)|ty (s:Nat)
structure HY where
 params:Arguments
 body:Expr
 scope:Scope
 qual:Str
 cn:List Str
noncomputable def iX:Nat->Expr->List Expr
 |0,_=>[]
 |n+1,e=>match e with
  |.Lambda .. =>[e]
  |.Call _ as _ _=>as.flatMap (iX n)
  |.BoolOp _ es _=>es.flatMap (iX n)
  |.Compare l _ rs _=>iX n l++rs.flatMap (iX n)
  |.Tuple es _ _=>es.flatMap (iX n)
  |_=>[]
noncomputable def pB:Nat->Stmt->List Expr
 |0,_=>[]
 |n+1,s=>match s with
  |.Assign _ v _=>iX 9 v
  |.Return (some e) _=>iX 9 e
  |.If _ b o _=>b.flatMap (pB n)++o.flatMap (pB n)
  |_=>[]
noncomputable def fQ (s:Stmt):List Stmt:=match s with
 |.FunctionDef _ _ body _ _ _ _ _ _ _=>body
 |_=>[]
noncomputable def y7 (q:Str) (e:Expr):HY:=match e with
 |.Lambda p b s _=>⟨p,b,s,(q++".<locals>.")++"<lambda>",(s.names.filter λy=>y.2== .free).map (·.1)⟩
 |_=>⟨default,default,default,q,[]⟩
noncomputable def aT (j:Nat):HY:=(((fQ (sT 83)).flatMap (pB 9)).map (y7 "_law_limits_right")++((fQ (sT 85)).flatMap (pB 9)).map (y7 "_law_cut_right")).getD j ⟨default,default,default,default,[]⟩
inductive SO
 |inst (C:Addr) (f:List (Nat×SV))|list (xs:List SV)|tup (xs:List SV)|dic (kvs:List (Str×SV))|dic0|excF (d:Option Nat)|exc (d:Nat)|xdic (f:List (Nat×SV))
 |cell (v:Option SV)|clo (j:Nat) (cs:List Nat) (kc:Nat)|ctab (P:Addr) (es:List ((Nat×Nat)×Nat))|code (q:Str)|rng (a b:Int)|raw (xs:List SV) (vs:List Value)|opq
structure Sg where
 ob:Nat->Option SO
 nx:Nat
 wf:∀k o,ob k=some o->k<nx
noncomputable def Sg.set (σ:Sg) (k:Nat) (o:SO):Sg:=⟨λj=>if j=k∧k<σ.nx then some o else σ.ob j,σ.nx,λj o' h=>by
 split at h
 ·rename_i e;exact e.1▸e.2
 ·exact σ.wf _ _ h⟩
noncomputable def Sg.new (σ:Sg) (o:SO):Sg:=⟨λj=>if j=σ.nx then some o else σ.ob j,σ.nx+1,λj o' h=>by
 split at h
 ·rename_i e;rw[e];exact XY _
 ·exact Zg (σ.wf _ _ h)⟩
noncomputable def Sg.del (σ:Sg) (k:Nat):Sg:=⟨λj=>if j=k then none else σ.ob j,σ.nx,λj o' h=>by
 split at h
 ·exact cX h
 ·exact σ.wf _ _ h⟩
section
variable {σ:Sg} {k:Nat} {o o0:SO}
theorem aE (h:σ.ob k=some o0):(σ.set k o).ob k=some o:=Xn ⟨rfl,σ.wf _ _ h⟩
theorem au {k j:Nat} (e:j≠k):(σ.set k o).ob j=σ.ob j:=Xh λz=>e z.1
theorem ac:(σ.new o).ob σ.nx=some o:=Xn rfl
theorem ae {o o':SO} (h:σ.ob k=some o'):(σ.new o).ob k=some o':=(Xh (XC (σ.wf _ _ h))).trans h
theorem d8 (h:k≠σ.nx):(σ.new o).ob k=σ.ob k:=Xh h
theorem gy {k j:Nat} (e:j≠k):(σ.del k).ob j=σ.ob j:=Xh e
theorem BF:(σ.del k).ob k=none:=Xn rfl
structure cf where
 loc:List (Option SV)
 cel:List Nat
 cv:List SV
noncomputable def cf.put (fr:cf) (i:Nat) (v:SV):cf:=⟨fr.loc.set i (some v),fr.cel,fr.cv⟩
inductive Flw|next|cont|brk|ret (v:SV)
abbrev KV:=SV->Sg->Prop
abbrev KX:=Nat->Sg->Prop
abbrev eL:=Nat->List SV->Sg->KV->KX->Prop
abbrev AE:=(Nat->eL)->cf->Sg->KV->KX->Prop
abbrev AT:=(Nat->eL)->cf->Sg->(Bool->Sg->Prop)->KX->Prop
abbrev AL:=(Nat->eL)->cf->Sg->(List SV->Sg->Prop)->KX->Prop
abbrev ft:=Flw->cf->Sg->Prop
abbrev AS:=(Nat->eL)->cf->Sg->ft->KX->Prop
def bI (b:Bool) (A B:Prop):Prop:=match b with|true=>A|false=>B
variable {b:Bool} {A B:Prop}
theorem rQ (x:b=true->A) (y:b=false->B):bI b A B:=by cases b;exact y rfl;exact x rfl
theorem kS (h:b=true) (k:A):bI b A B:=h▸k
theorem g6 (h:b=false) (k:B):bI b A B:=h▸k
theorem bW {p:Prop} [Decidable p] (x:p->A) (y:¬p->B):bI (decide p) A B:=rQ (λh=>x (W5 h)) λh=>y (of_decide_eq_false h)
theorem Wo {p:Prop} [Decidable p] (x:¬p->A) (y:p->B):bI (!decide p) A B:=rQ (λh=>x (by simpa using h)) λh=>y (by simpa using h)
theorem bI.br (x:bI b A B):(b=true->A)∧(b=false->B):=by cases b;exact⟨λh=>(nomatch h),λZ=>x⟩;exact⟨λZ=>x,λh=>(nomatch h)⟩
def aR (x:SV) (K:Int->Prop):Prop:=match x with
 |.int i=>K i
 |_=>False
def cj (x:SV) (K:Str->Prop):Prop:=match x with
 |.str i=>K i
 |_=>False
def bE (x:SV) (K:Nat->Prop):Prop:=match x with
 |.ref i=>K i
 |_=>False
def gB (x:SV) (K:Nat->Prop):Prop:=match x with
 |.glob i=>K i
 |_=>False
noncomputable def kd (x:SV):Nat:=match x with
 |.none=>0|.bool _=>1|.int _=>2|.str _=>3|.ref _=>4|.glob _=>5|.ty _=>6
end
inductive qp {α β:Type} (x:β) (c:α->β) (K:α->Prop):Prop
 |mk (i:α) (e:x=c i) (k:K i):qp x c K
inductive OnJ {α β γ:Type} (x:γ) (c:α->β->γ) (K:α->β->Prop):Prop
 |mk (i:α) (j:β) (e:x=c i j) (k:K i j):OnJ x c K
section
variable {x:SV}
theorem bU {K:Int->Prop} (h:aR x K):qp x SV.int K:=by cases x<;>first|exact⟨_,rfl,h⟩|exact h.elim
theorem b0 {K:Str->Prop} (h:cj x K):qp x SV.str K:=by cases x<;>first|exact⟨_,rfl,h⟩|exact h.elim
variable {K:Nat->Prop}
theorem bh (h:bE x K):qp x SV.ref K:=by cases x<;>first|exact⟨_,rfl,h⟩|exact h.elim
theorem gf (h:gB x K):qp x SV.glob K:=by cases x<;>first|exact⟨_,rfl,h⟩|exact h.elim
end
inductive bN (σ:Sg) (k:Nat) (K:SO->Prop):Prop
 |mk (o:SO) (h:σ.ob k=some o) (q:K o)
inductive bX {α:Type} (o:Option α) (K:α->Prop):Prop
 |mk (x:α) (h:o=some x) (q:K x)
def cP (o:SO) (K:List SV->Prop):Prop:=match o with
 |.list xs=>K xs
 |_=>False
def wu (o:SO) (K:List SV->Prop):Prop:=match o with
 |.list xs=>K xs
 |.raw xs _=>K xs
 |_=>False
def iz (o:SO) (K:List SV->Prop):Prop:=match o with
 |.tup xs=>K xs
 |_=>False
def gA (o:SO) (K:Addr->List (Nat×SV)->Prop):Prop:=match o with
 |.inst C f=>K C f
 |_=>False
def yV (o:SO) (K:Nat->Prop):Prop:=match o with
 |.exc f=>K f
 |_=>False
def kK (o:SO) (K:Option Nat->Prop):Prop:=match o with
 |.excF f=>K f
 |_=>False
def Dk (o:SO) (K:List (Nat×SV)->Prop):Prop:=match o with
 |.xdic f=>K f
 |_=>False
def jc (o:SO) (K:Option SV->Prop):Prop:=match o with
 |.cell v=>K v
 |_=>False
def l8 (o:SO) (K:List (Str×SV)->Prop):Prop:=match o with
 |.dic v=>K v
 |_=>False
def PR (o:SO) (K:Prop):Prop:=match o with
 |.dic0=>K
 |_=>False
def yh (o:SO) (K:Int->Int->Prop):Prop:=match o with
 |.rng a b=>K a b
 |_=>False
noncomputable def jY (o:SO):Bool:=match o with
 |.tup _=>true
 |_=>false
noncomputable def tB (o:SO):Bool:=match o with
 |.excF _=>true
 |_=>false
noncomputable def rp (o:SO):Bool:=match o with
 |.exc _=>true
 |_=>false
noncomputable def kQ (o:SO):Bool:=match o with
 |.dic0=>true
 |_=>false
section
variable {o:SO} {K:List SV->Prop}
theorem cq (h:cP o K):qp o SO.list K:=by cases o<;>first|exact⟨_,rfl,h⟩|exact h.elim
theorem iu (h:iz o K):qp o SO.tup K:=by cases o<;>first|exact⟨_,rfl,h⟩|exact h.elim
theorem f8 {K:Addr->List (Nat×SV)->Prop} (h:gA o K):OnJ o SO.inst K:=by cases o<;>first|exact⟨_,_,rfl,h⟩|exact h.elim
theorem AY {K:Nat->Prop} (h:yV o K):qp o SO.exc K:=by cases o<;>first|exact⟨_,rfl,h⟩|exact h.elim
theorem jU {K:Option Nat->Prop} (h:kK o K):qp o SO.excF K:=by cases o<;>first|exact⟨_,rfl,h⟩|exact h.elim
theorem zu {K:List (Nat×SV)->Prop} (h:Dk o K):qp o SO.xdic K:=by cases o<;>first|exact⟨_,rfl,h⟩|exact h.elim
theorem n9 {K:Option SV->Prop} (h:jc o K):qp o SO.cell K:=by cases o<;>first|exact⟨_,rfl,h⟩|exact h.elim
theorem ku {K:List (Str×SV)->Prop} (h:l8 o K):qp o SO.dic K:=by cases o<;>first|exact⟨_,rfl,h⟩|exact h.elim
theorem P4 {K:Prop} (h:PR o K):o=.dic0∧K:=by cases o<;>first|exact⟨rfl,h⟩|exact h.elim
variable {K:Int->Int->Prop}
theorem zP (h:yh o K):OnJ o SO.rng K:=by cases o<;>first|exact⟨_,_,rfl,h⟩|exact h.elim
def one (vs:List SV) (K:SV->Prop):Prop:=match vs with
 |[x]=>K x
 |_=>False
def two (vs:List SV) (K:SV->SV->Prop):Prop:=match vs with
 |[x,y]=>K x y
 |_=>False
noncomputable def cz:List Str:=(["number","owner","fields","own","frozen","ident","text","items","rows","spare","first","last"]:List Str)++((["open","message","cause","name","is_class","parent","outer","methods","constants","mixed","ahead","attached"]:List Str)++((["native","kept","natives","prelude","read","most","taken","last_number","last_ident","symbol_idents","made","version"]:List Str)++((["const_version","globals","out","here","is_ready","main","reason","thing","builtin","make_builtin","give_own","new_module"]:List Str)++(["class_of","is_own","root_of","list_of","table_of","key_of","range_of","error","fail","put"]:List Str))))
noncomputable def cI (a:Nat):Str:=cz.getD a ""
abbrev Tb:=Nat->Option (Addr×Addr)
noncomputable def Tb.le (τ τ':Tb):Prop:=∀k p,τ k=some p->τ' k=some p
variable {τ:Tb}
theorem Tb.le.refl:τ.le τ:=λZ Z h=>h
theorem Tb.le.trans {a b c:Tb} (x:a.le b) (y:b.le c):a.le c:=λk p h=>y k p (x k p h)
noncomputable def Tb.up (τ:Tb) (k:Nat) (p:Addr×Addr):Tb:=λj=>if j=k then some p else τ j
noncomputable def Hn (s:Nat):String:=match s with
 |0=>"bool"
 |1=>"int"
 |_=>"str"
end
inductive RVr (τ:Tb) (k:Nat) (V:Value):Prop
 |mk (x d:Addr) (e:V=.ref x) (h:τ k=some (x,d)):RVr τ k V
def RV (τ:Tb) (v:SV) (V:Value):Prop:=match v with
 |.none=>V=.none
 |.bool b=>V=.bool b
 |.int i=>∃u,V=.int i u
 |.str z=>∃u,V=.str z u
 |.ref k=>RVr τ k V
 |.glob a=>V=.ref a
 |.ty s=>V=.type (Hn s)
section
variable {τ τ':Tb} {v:SV} {V:Value}
theorem RV.up (r:RV τ v V) (t:τ.le τ'):RV τ' v V:=by
 cases v
 case ref=>obtain⟨x,d,e,h⟩:=r;exact⟨x,d,e,t _ _ h⟩
 all_goals exact r
theorem RV.handed (r:RV τ v V):handedIn V=true:=by
 cases v
 case ref=>obtain⟨x,d,rfl,h⟩:=r;rfl
 case int=>obtain⟨x,rfl⟩:=r;rfl
 case str=>obtain⟨x,rfl⟩:=r;rfl
 all_goals (obtain rfl:=r;rfl)
def RO (τ:Tb) (v:Option SV) (V:Option Value):Prop:=match v with
 |none=>V=none
 |some v=>∃W,V=some W∧RV τ v W
theorem RO.up {v:Option SV} {V:Option Value} (r:RO τ v V) (t:τ.le τ'):RO τ' v V:=by
 cases v with
 |none=>exact r
 |some v=>refine bn r λW e h=>?_;exact(bv W e (h.up t))
end
inductive Cns {α:Type} (P:α->Prop) (R:List α->Prop) (Vs:List α):Prop
 |mk (V:α) (Ws:List α) (e:Vs=V::Ws) (h:P V) (r:R Ws):Cns P R Vs
noncomputable def bZ (τ:Tb):List SV->List Value->Prop
 |[],Vs=>Vs=[]
 |v::vs,Vs=>Cns (RV τ v) (bZ τ vs) Vs
section
variable {τ τ':Tb} {v:List SV}
theorem bZ.up (t:τ.le τ'):∀{V:List Value},bZ τ v V->bZ τ' v V:=by
 induction v with
 |nil=>exactλr=>r
 |cons a v ih=>exactλ⟨A,B,e,h,r⟩=>⟨A,B,e,h.up t,ih r⟩
theorem bZ.len:∀{V:List Value},bZ τ v V->V.length=v.length:=by
 induction v with
 |nil=>intro V r;obtain rfl:=r;rfl
 |cons a v ih=>rintro V ⟨A,B,rfl,h,r⟩;rw[Yc,Yc,ih r]
theorem bZ.app {v v':List SV} {V':List Value} (r':bZ τ v' V'):∀{V:List Value},bZ τ v V->bZ τ (v++v') (V++V'):=by
 induction v with
 |nil=>intro V r;obtain rfl:=r;exact r'
 |cons a v ih=>rintro V ⟨A,B,rfl,h,r⟩;exact⟨A,_,rfl,h,ih r⟩
theorem bZ.get:∀{V:List Value} {i:Nat} {x:SV},bZ τ v V->v[i]?=some x->∃X,V[i]?=some X∧RV τ x X:=by
 induction v with
 |nil=>intro V i x r h;exact cX h
 |cons a v ih=>
  rintro V i x ⟨A,B,rfl,h,r⟩ e;cases i with
  |zero=>obtain rfl:=jS e;exact(bv A rfl h)
  |succ i=>exact ih (V:=B) (i:=i) r e
variable {x:SV}
theorem bZ.set {X:Value} (hx:RV τ x X):∀{V:List Value} {i:Nat},bZ τ v V->bZ τ (v.set i x) (V.set i X):=by
 induction v with
 |nil=>intro V i r;obtain rfl:=r;exact rfl
 |cons a v ih=>
  rintro V i ⟨A,B,rfl,h,r⟩;cases i with
  |zero=>exact⟨X,B,rfl,hx,r⟩
  |succ i=>exact⟨A,_,rfl,h,ih r⟩
theorem bZ.take:∀{V:List Value} {i:Nat},bZ τ v V->bZ τ (v.take i) (V.take i):=by
 induction v with
 |nil=>intro V i r;obtain rfl:=r;rw[List.take_nil,List.take_nil];exact rfl
 |cons a v ih=>
  rintro V i ⟨A,B,rfl,h,r⟩;cases i with
  |zero=>exact rfl
  |succ i=>exact⟨A,_,rfl,h,ih r⟩
theorem bZ.drop:∀{V:List Value} {i:Nat},bZ τ v V->bZ τ (v.drop i) (V.drop i):=by
 induction v with
 |nil=>intro V i r;obtain rfl:=r;rw[List.drop_nil,List.drop_nil];exact rfl
 |cons a v ih=>
  rintro V i ⟨A,B,rfl,h,r⟩;cases i with
  |zero=>exact⟨A,B,rfl,h,r⟩
  |succ i=>exact ih (V:=B) (i:=i) r
end
inductive One (τ:Tb) (Vs:List Value) (K:SV->Prop):Prop
 |mk (x:SV) (A:Value) (e:Vs=[A]) (r:RV τ x A) (k:K x):One τ Vs K
inductive Two (τ:Tb) (Vs:List Value) (K:SV->SV->Prop):Prop
 |mk (x y:SV) (A B:Value) (e:Vs=[A,B]) (r:RV τ x A) (r2:RV τ y B) (k:K x y):Two τ Vs K
section
variable {τ:Tb}
theorem lx {vs:List SV} {K:SV->Prop} {Vs:List Value} (h:one vs K) (r:bZ τ vs Vs):One τ Vs K:=by
 rcases vs with _|⟨x,_|⟨y,vs⟩⟩
 ·exact h.elim
 ·obtain⟨A,B,rfl,h1,r⟩:=r;obtain rfl:=r;exact⟨x,A,rfl,h1,h⟩
 ·exact h.elim
theorem jP {vs:List SV} {K:SV->SV->Prop} {Vs:List Value} (h:two vs K) (r:bZ τ vs Vs):Two τ Vs K:=by
 rcases vs with _|⟨x,_|⟨y,_|⟨z,vs⟩⟩⟩
 ·exact h.elim
 ·exact h.elim
 ·obtain⟨A,_,rfl,h1,B,_,rfl,h2,r⟩:=r;obtain rfl:=r;exact⟨x,y,A,B,rfl,h1,h2,h⟩
 ·exact h.elim
noncomputable def gU (τ:Tb):List (Option SV)->List (Option Value)->Prop
 |[],Vs=>Vs=[]
 |v::vs,Vs=>Cns (RO τ v) (gU τ vs) Vs
variable {τ':Tb} {v:List (Option SV)}
theorem gU.up (t:τ.le τ'):∀{V:List (Option Value)},gU τ v V->gU τ' v V:=by
 induction v with
 |nil=>exactλr=>r
 |cons a v ih=>exactλ⟨A,B,e,h,r⟩=>⟨A,B,e,h.up t,ih r⟩
theorem gU.slot:∀{V:List (Option Value)} {ns:List Str} {i:Nat} {nm:Str} {x:SV},gU τ v V->ns[i]?=some nm->v[i]?=some (some x)->∃X,hH nm (some X) ns V∧RV τ x X:=by
 induction v with
 |nil=>intro V ns i nm x _ _ e;exact cX e
 |cons a v ih=>
  rintro V ns i nm x ⟨A,B,rfl,h,r⟩ e1 e2;cases ns with
  |nil=>exact cX e1
  |cons n ns=>
   cases i with
   |zero=>obtain rfl:=jS e1;obtain rfl:=jS e2;obtain⟨W,rfl,h⟩:=h;exact(bv W .here h)
   |succ i=>refine bn (ih (ns:=ns) (i:=i) r e1 e2) λX s b=>?_;exact(bv X (.there s) b)
variable {x:SV}
theorem gU.put {X:Value} (hx:RV τ x X):∀{V:List (Option Value)} {ns:List Str} {i:Nat} {nm:Str},gU τ v V->ns[i]?=some nm->i<v.length->∃V',sk nm X ns V V'∧gU τ (v.set i (some x)) V':=by
 induction v with
 |nil=>intro V ns i nm _ _ e;exact absurd e (ZU _)
 |cons a v ih=>
  rintro V ns i nm ⟨A,B,rfl,h,r⟩ e1 e2;cases ns with
  |nil=>exact cX e1
  |cons n ns=>
   cases i with
   |zero=>obtain rfl:=jS e1;exact(bv _ .here ⟨_,_,rfl,bv X rfl hx,r⟩)
   |succ i=>refine bn (ih (ns:=ns) (i:=i) r e1 (ZQ e2)) λV' p hV=>?_;exact(bv _ (.there p) ⟨_,_,rfl,h,hV⟩)
def FX (τ:Tb) (o:Obj) (f:List (Nat×SV)):Prop:=∃es n,o=dictOf es n∧es.length≤f.length∧(∃mm:Str->Option Value,(∀x,getL x es=some (mm x))∧(∀a,a<58->RO τ (f.lookup a) (mm (cI a)))∧∀x,(∀a,a<58->x≠cI a)->mm x=.none)
variable {o:Obj} {f:List (Nat×SV)}
theorem FX.up (h:FX τ o f) (t:τ.le τ'):FX τ' o f:=by
 refine jC h λd n e z b=>?_;refine ic b λi g r q=>?_;exact(j6 d n e z (jn i g (λa c=>(r a c).up t) q))
noncomputable def RK (τ:Tb):List (Str×SV)->List (Str×Value)->Prop
 |[],Vs=>Vs=[]
 |a::r,Vs=>∃V Ws,Vs=(a.1,V)::Ws∧RV τ a.2 V∧RK τ r Ws
theorem RK.up (t:τ.le τ') {v:List (Str×SV)}:∀{V:List (Str×Value)},RK τ v V->RK τ' v V:=by
 induction v with
 |nil=>exactλr=>r
 |cons a v ih=>exactλ⟨A,B,e,h,r⟩=>(j6 A B e (h.up t) (ih r))
def OE (τ:Tb) (cn:List Str) (cs:List Nat) (clos:List (Str×Addr)):Prop:=∀(i:Nat) (y:Str),cn[i]?=some y->∃k a d,cs[i]?=some k∧τ k=some (a,d)∧clos.lookup y=some a
noncomputable def je (τ:Tb):List ((Nat×Nat)×Nat)->List Value->Prop
 |[],ps=>ps=[]
 |p::r,ps=>∃t u c e rest,ps=.int p.1.1 t:: .int p.1.2 u:: .ref c::rest∧τ p.2=some (c,e)∧je τ r rest
theorem je.up (t:τ.le τ') {es:List ((Nat×Nat)×Nat)}:∀{ps:List Value},je τ es ps->je τ' es ps:=by
 induction es with
 |nil=>exactλh=>h
 |cons p r ih=>rintro ps ⟨a,b,c,e,d,f,i,g⟩;exact(Bb a b c e d f (t _ _ i) (ih g))
def XF (τ:Tb) (l:bu) (x:Addr) (d:Option Nat):Prop:=match d with
 |none=>∃a,(x,kq 438 none a)∈l
 |some k=>∃a D e,τ k=some (D,e)∧(x,kq 438 (some D) a)∈l
end
inductive LsR (τ:Tb) (l:bu) (x:Addr) (xs:List SV):Prop
 |mk (vs:List Value) (n:Nat) (h:(x,aL vs n)∈l) (r:bZ τ xs vs):LsR τ l x xs
inductive ExR (τ:Tb) (l:bu) (x:Addr) (k:Nat):Prop
 |mk (n:Array Value) (sl:Array (Option Value)) (D e:Addr) (h:τ k=some (D,e)) (i:(x,(⟨.ref 438,some D,.fields n,sl⟩:Obj))∈l):ExR τ l x k
inductive InR (τ:Tb) (l:bu) (x d C:Addr) (f:List (Nat×SV)):Prop
 |mk (o:Obj) (i:(x,instObj C d)∈l) (j:(d,o)∈l) (h:FX τ o f):InR τ l x d C f
def gE (w:World) (τ:Tb) (l:bu) (x d:Addr) (o:SO):Prop:=match o with
 |.inst C f=>InR τ l x d C f
 |.list xs=>LsR τ l x xs
 |.tup xs=>∃vs,(x,cR vs)∈l∧bZ τ xs vs
 |.dic xs=>∃vs o,(x,o)∈l∧SD PP w o vs∧RK τ xs vs∧(x==sysModules)=false
 |.dic0=>(x,dictOf [] 0)∈l∧(x==sysModules)=false
 |.excF d=>XF τ l x d
 |.exc k=>ExR τ l x k
 |.xdic f=>∃o,(x,o)∈l∧FX τ o f
 |.cell v=>∃V o,(x,o)∈l∧fj o V∧RO τ v V
 |.clo j cs kc=>∃clos pm ctv c e,(x,kla_obj "<lambda>" (aT j).qual (aT j).params (aT j).body (aT j).scope clos pm c ctv)∈l∧τ kc=some (c,e)∧OE τ (aT j).cn cs clos
 |.ctab P es=>x=P∧∃ps:Array Value,(x,tabObj ps)∈l∧je τ es ps.toList
 |.code q=>∃oc vs t,(x,oc)∈l∧oc.data=.fields vs∧vs[1]?=some (.str q t)
 |.rng a b=>∃t u v,(x,Cc a b 1 t u v)∈l
 |.raw xs vs=>(x,aL vs 0)∈l∧bZ τ xs vs
 |.opq=>True
section
variable {τ τ':Tb} {x d:Addr} {o:SO}
set_option tactic.hygienic true in
theorem gE.go {w:World} {l l':bu} (r:gE w τ l x d o) (t:τ.le τ') (m:∀q∈l,q.1=x∨q.1=d->q∈l'):gE w τ' l' x d o:=by
 cases o
 case inst=>obtain⟨o,f,g,h⟩:=r;exact⟨o,m _ f (.inl rfl),m _ g (.inr rfl),h.up t⟩
 case list=>obtain⟨a,b,f,g⟩:=r;exact⟨a,b,m _ f (.inl rfl),g.up t⟩
 case tup=>refine bn r λa f g=>?_;exact(bv a (m _ f (.inl rfl)) (g.up t))
 case dic=>refine ux r λa b f g h p=>?_;exact(ya a b (m _ f (.inl rfl)) g (RK.up t h) p)
 case dic0=>exact⟨m _ r.1 (.inl rfl),r.2⟩
 case excF d=>
  cases d with
  |none=>obtain⟨a,f⟩:=r;exact⟨a,m _ f (.inl rfl)⟩
  |some k=>refine uB r λa D e f g=>?_;exact(uv a D e (t _ _ f) (m _ g (.inl rfl)))
 case exc=>obtain⟨n,s,D,e,f,g⟩:=r;exact⟨n,s,D,e,t _ _ f,m _ g (.inl rfl)⟩
 case xdic=>refine bn r λo g h=>?_;exact(bv o (m _ g (.inl rfl)) (h.up t))
 case cell=>refine jC r λV o f g h=>?_;exact(j6 V o (m _ f (.inl rfl)) g (h.up t))
 case clo=>
  refine Wc r λa b c d e f g h=>?_;refine(Bb a b c d e (m _ f (.inl rfl)) (t _ _ g) (λi y u=>?_));refine pi (h i y u) λk a d z A v=>?_;exact(mQ k a d z (t _ _ A) v)
 case ctab=>obtain⟨e,j,f,g⟩:=r;exact⟨e,j,m _ f (.inl rfl),g.up t⟩
 case code=>refine uB r λa b c f g=>?_;exact(uv a b c (m _ f (.inl rfl)) g)
 case rng=>refine tV r λa b c f=>?_;exact(w9 a b c (m _ f (.inl rfl)))
 case raw=>exact⟨m _ r.1 (.inl rfl),r.2.up t⟩
 all_goals trivial
end
inductive LsK (τ:Tb) (l:bu) (x:Addr) (K:List SV->Prop):Prop
 |mk (xs:List SV) (vs:List Value) (n:Nat) (h:(x,aL vs n)∈l) (r:bZ τ xs vs) (k:K xs):LsK τ l x K
section
variable {τ:Tb} {l:bu} {x d:Addr} {o:SO}
set_option tactic.hygienic true in
theorem rR {w:World} {K:List SV->Prop} (h:wu o K) (r:gE w τ l x d o):LsK τ l x K:=by
 cases o
 case list xs=>obtain⟨vs,n,a,b⟩:=r;exact⟨xs,vs,n,a,b,h⟩
 case raw xs vs=>exact⟨xs,vs,0,r.1,r.2,h⟩
 all_goals exact h.elim
structure Xs where
 own:bu
 far:bu
end
inductive ROb (w:World) (τ:Tb) (l:bu) (k:Nat) (o:SO):Prop
 |mk (x d:Addr) (e:τ k=some (x,d)) (r:gE w τ l x d o):ROb w τ l k o
inductive RGt (w:World) (τ:Tb) (l:bu) (k:Nat) (o:SO) (V:Value):Prop
 |mk (x d:Addr) (e:V=.ref x) (h:τ k=some (x,d)) (r:gE w τ l x d o):RGt w τ l k o V
structure aA (w:World) (τ:Tb) (σ:Sg) (X:Xs) (l:bu):Prop where
 nx:∀k p,τ k=some p->k<σ.nx
 ob:∀k o,σ.ob k=some o->ROb w τ l k o
 dj:∀k k' p p',τ k=some p->τ k'=some p'->k≠k'->p.1≠p'.1∧p.1≠p'.2∧p.2≠p'.1∧p.2≠p'.2
 nz:∃z,z∈l.map (·.1)∧∀q∈X.far,z≠q.1
 inl:∀k p,τ k=some p->p.1∈l.map (·.1)∧p.2∈l.map (·.1)
 X1:∀q∈X.own++X.far,q∈l
 X2:∀k o p,σ.ob k=some o->τ k=some p->∀q∈X.own,q.1≠p.1∧q.1≠p.2
 X3:∀k p,τ k=some p->∀q∈X.far,q.1≠p.1∧q.1≠p.2
section
variable {w:World} {τ:Tb} {σ:Sg} {X:Xs} {l:bu}
theorem aA.ne (R:aA w τ σ X l):l≠[]:=λe=>by
 refine bn R.nz λz h Z=>?_;rw[e]at h;cases h
theorem aA.fresh (R:aA w τ σ X l):τ σ.nx=none:=by
 cases h:τ σ.nx with
 |none=>rfl
 |some p=>exact absurd (R.nx _ _ h) (XX _)
variable {k:Nat} {o:SO} {V:Value}
theorem aA.get (R:aA w τ σ X l) (rv:RV τ (.ref k) V) (h:σ.ob k=some o):RGt w τ l k o V:=by
 obtain⟨x,d,e,b⟩:=rv;obtain⟨g,f,a,c⟩:=R.ob k o h;rw[b]at a;cases a;exact⟨x,d,e,b,c⟩
theorem aA.le_up (R:aA w τ σ X l) (p:Addr×Addr):τ.le (τ.up σ.nx p):=λk q h=>by
 unfold Tb.up;rw[Xh (λe=>?_)]
 ·exact h
 ·rw[e,R.fresh]at h;exact cX h
variable {l':bu}
theorem aA.cong (R:aA w τ σ X l) (m:∀q∈l,q∈l'):aA w τ σ X l':=by
 refine⟨R.nx,λk o h=>?_,R.dj,?_,λk p h=>?_,λq a=>m q (R.X1 q a),R.X2,R.X3⟩
 ·obtain⟨x,d,e,r⟩:=R.ob k o h
  exact⟨x,d,e,r.go Tb.le.refl λq a Z=>m q a⟩
 ·refine bn R.nz λz s n=>?_
  refine bn (Xb.mp s) λq a b=>?_;obtain rfl:=b;exact(bv q.1 (Xm (f:=(·.1)) (m q a)) n)
 ·obtain⟨j,y⟩:=R.inl k p h
  refine bn (Xb.mp j) λc t u=>?_;refine bn (Xb.mp y) λg i v=>?_;exact⟨Xb.mpr (bv c (m c t) u),Xb.mpr (bv g (m g i) v)⟩
variable {x d:Addr}
theorem aA.new (R:aA w τ σ X l) {n:bu} (hx:x∉l.map (·.1)) (hd:d∉l.map (·.1)) (ix:x∈n.map (·.1)) (id':d∈n.map (·.1)) (r:gE w (τ.up σ.nx (x,d)) (n++l) x d o):aA w (τ.up σ.nx (x,d)) (σ.new o) X (n++l):=by
 have s:=R.le_up (x,d);have g:∀k p,(τ.up σ.nx (x,d)) k=some p->(k=σ.nx∧p=(x,d))∨(k≠σ.nx∧τ k=some p):=λk p h=>by
  unfold Tb.up at h;split at h
  ·exact .inl ⟨‹_›,(W7 h).symm⟩
  ·exact .inr ⟨‹_›,h⟩
 refine⟨λk p h=>?_,λk m h=>?_,λk u p v h j e=>?_,R.nz.imp λz t=>⟨by rw[Xa];exact WW _ t.1,t.2⟩,λk p h=>?_,λq c=>WW _ (R.X1 q c),λk m p h f q c=>?_,λk p f q c=>?_⟩
 ·rcases g k p h with⟨rfl,_⟩|⟨_,h⟩
  ·exact XY _
  ·exact Zg (R.nx _ _ h)
 ·by_cases e:k=σ.nx
  ·subst e
   rw[ac]at h;obtain rfl:=jS h;exact⟨x,d,Xn rfl,r⟩
  ·rw[d8 e]at h
   obtain⟨a,b,y,A⟩:=R.ob k m h;exact⟨a,b,s _ _ y,A.go s λq c Z=>WW _ c⟩
 ·rcases g k p h with⟨rfl,rfl⟩|⟨_,h⟩<;>rcases g u v j with⟨rfl,rfl⟩|⟨_,j⟩
  ·exact absurd rfl e
  ·have z:=R.inl _ _ j
   exact(gc (λe=>hx ((show x=_ from e)▸z.1)) (λe=>hx ((show x=_ from e)▸z.2)) (λe=>hd ((show d=_ from e)▸z.1)) (λe=>hd ((show d=_ from e)▸z.2)))
  ·have z:=R.inl _ _ h
   exact(gc (λe=>hx ((show _=x from e)▸z.1)) (λe=>hd ((show _=d from e)▸z.1)) (λe=>hx ((show _=x from e)▸z.2)) (λe=>hd ((show _=d from e)▸z.2)))
  ·exact R.dj _ _ _ _ h j e
 ·rw[Xa]
  rcases g k p h with⟨rfl,rfl⟩|⟨_,h⟩
  ·exact⟨W3 _ ix,W3 _ id'⟩
  ·exact⟨WW _ (R.inl _ _ h).1,WW _ (R.inl _ _ h).2⟩
 ·have i:q.1∈l.map (·.1):=Xm (R.X1 q (W3 _ c))
  rcases g k p f with⟨rfl,rfl⟩|⟨ne,f⟩
  ·exact⟨λe=>hx ((show _=x from e)▸i),λe=>hd ((show _=d from e)▸i)⟩
  ·rw[d8 ne]at h
   exact R.X2 _ _ _ h f q c
 ·have i:q.1∈l.map (·.1):=Xm (R.X1 q (WW _ c))
  rcases g k p f with⟨rfl,rfl⟩|⟨ne,f⟩
  ·exact⟨λe=>hx ((show _=x from e)▸i),λe=>hd ((show _=d from e)▸i)⟩
  ·exact R.X3 _ _ f q c
theorem aA.new1 {D:Addr} {ob:Obj} (R:aA w τ σ X l) (k:aY ((D,ob)::l)) (r:gE w (τ.up σ.nx (D,D)) ((D,ob)::l) D D o):aA w (τ.up σ.nx (D,D)) (σ.new o) X ((D,ob)::l):=
 have h:=(W2.mp k.nd).1
 R.new (n:=[(D,ob)]) h h (.head _) (.head _) r
theorem aA.chg (R:aA w τ σ X l) {o0 o:SO} {x d a:Addr} (h:σ.ob k=some o0) (ht:τ k=some (x,d)) (ha:a=x∨a=d) (hl:∀q∈l,q.1≠a->q∈l') (hm:∀z,z∈l.map (·.1)->z∈l'.map (·.1)) (r:gE w τ l' x d o):aA w τ (σ.set k o) X l':=by
 refine⟨R.nx,λc j b=>?_,R.dj,R.nz.imp λz i=>⟨hm _ i.1,i.2⟩,λc p b=>⟨hm _ (R.inl _ _ b).1,hm _ (R.inl _ _ b).2⟩,λq hq=>hl q (R.X1 q hq) ?_,λc j p b g=>?_,R.X3⟩
 ·by_cases e:c=k
  ·subst e
   rw[aE h]at b;cases b;exact⟨x,d,ht,r⟩
  ·rw[au e]at b
   obtain⟨n,m,f,t⟩:=R.ob c j b;refine⟨n,m,f,t.go Tb.le.refl λq hq hx=>hl q hq λs=>?_⟩;rcases ha with rfl|rfl<;>rcases hx with hx|hx<;>rw[s]at hx
   ·exact(R.dj _ _ _ _ f ht e).1 hx.symm
   ·exact(R.dj _ _ _ _ f ht e).2.2.1 hx.symm
   ·exact(R.dj _ _ _ _ f ht e).2.1 hx.symm
   ·exact(R.dj _ _ _ _ f ht e).2.2.2 hx.symm
 ·rcases W6.mp hq with hq|hq
  ·have z:=R.X2 _ _ _ h ht q hq
   rcases ha with rfl|rfl
   ·exact z.1
   ·exact z.2
  ·have z:=R.X3 _ _ ht q hq
   rcases ha with rfl|rfl
   ·exact z.1
   ·exact z.2
 ·by_cases e:c=k
  ·subst e;exact R.X2 _ _ _ h g
  ·rw[au e]at b;exact R.X2 _ _ _ b g
variable {q:Addr×Obj}
theorem aA.lay (R:aA w τ σ X l) (h:q.1∉l.map (·.1)):aA w τ σ ⟨X.own,q::X.far⟩ (q::l):=by
 have a:=R.cong (l':=q::l) λp hp=>.tail _ hp;refine⟨a.nx,a.ob,a.dj,R.nz.imp λz b=>⟨.tail _ b.1,λp hp=>(WY.mp hp).elim (λe f=>h (by rw[←e,←f];exact b.1)) (b.2 p)⟩,a.inl,λp hp=>?_,a.X2,λk p c d hp=>?_⟩
 ·rcases W6.mp hp with hp|hp
  ·exact a.X1 p (W3 _ hp)
  ·rcases WY.mp hp with rfl|hp
   ·exact .head _
   ·exact a.X1 p (WW _ hp)
 ·rcases WY.mp hp with rfl|hp
  ·have z:=R.inl _ _ c
   exact⟨λe=>h (e▸z.1),λe=>h (e▸z.2)⟩
  ·exact R.X3 _ _ c d hp
theorem aA.unlay (R:aA w τ σ ⟨X.own,q::X.far⟩ l):aA w τ σ X l:=
 ⟨R.nx,R.ob,R.dj,R.nz.imp λz b=>⟨b.1,λp a=>b.2 p (.tail _ a)⟩,R.inl,λp a=>R.X1 p ((W6.mp a).elim (W3 _) λz=>WW _ (.tail _ z)),R.X2,λk p h c a=>R.X3 k p h c (.tail _ a)⟩
theorem aA.drop {r:bu} (R:aA w τ σ ⟨X.own,q::X.far⟩ l) (hk:∀p∈X.own++X.far,p.1≠q.1) (hl:∀p∈l,p.1≠q.1->p∈r):aA w τ σ X r:=by
 have a:∀z,z∈l.map (·.1)->z≠q.1->z∈r.map (·.1):=λz c i=>by
  refine bn (Xb.mp c) λp b g=>?_;obtain rfl:=g;exact Xm (hl p b i)
 have f:∀k p,τ k=some p->p.1≠q.1∧p.2≠q.1:=λk p h=>(R.X3 k p h q (.head _)).imp Ne.symm Ne.symm;refine⟨R.nx,λk j h=>?_,R.dj,R.nz.imp λz c=>⟨a _ c.1 (c.2 q (.head _)),λp b=>c.2 p (.tail _ b)⟩,λk p h=>⟨a _ (R.inl _ _ h).1 (f k p h).1,a _ (R.inl _ _ h).2 (f k p h).2⟩,λp b=>hl p (R.X1 p ((W6.mp b).elim (W3 _) λz=>WW _ (.tail _ z))) (hk p b),R.X2,λk p h n b=>R.X3 k p h n (.tail _ b)⟩;obtain⟨x,d,e,r⟩:=R.ob k j h;exact⟨x,d,e,r.go Tb.le.refl λp b hx=>hl p b λm=>by
  rcases hx with hx|hx<;>rw[m]at hx
  ·exact(f k _ e).1 hx.symm
  ·exact(f k _ e).2 hx.symm⟩
theorem aA.adopt {D:Addr} {Ay:Obj} (R:aA w τ σ ⟨X.own,(D,Ay)::X.far⟩ l) (hk:∀p∈X.own++X.far,p.1≠D) (r:gE w (τ.up σ.nx (D,D)) l D D o):aA w (τ.up σ.nx (D,D)) (σ.new o) X l:=by
 have n:∀k p,τ k=some p->D≠p.1∧D≠p.2:=λk p h=>R.X3 k p h _ (.head _);have g:∀k p,(τ.up σ.nx (D,D)) k=some p->(k=σ.nx∧p=(D,D))∨(k≠σ.nx∧τ k=some p):=λk p h=>by
  unfold Tb.up at h;split at h
  ·exact .inl ⟨‹_›,(W7 h).symm⟩
  ·exact .inr ⟨‹_›,h⟩
 have i:D∈l.map (·.1):=Xm (f:=(·.1)) (R.X1 (D,Ay) (WW _ (.head _)));refine⟨λk p h=>?_,λk s h=>?_,λk u p v h j e=>?_,R.nz.imp λz t=>⟨t.1,λp m=>t.2 p (.tail _ m)⟩,λk p h=>?_,λp m=>R.X1 p ((W6.mp m).elim (W3 _) λz=>WW _ (.tail _ z)),λk s p h d q c=>?_,λk p d q c=>?_⟩
 ·rcases g k p h with⟨rfl,_⟩|⟨_,h⟩
  ·exact XY _
  ·exact Zg (R.nx _ _ h)
 ·by_cases e:k=σ.nx
  ·subst e
   rw[ac]at h;obtain rfl:=jS h;exact⟨D,D,Xn rfl,r⟩
  ·rw[d8 e]at h
   obtain⟨a,b,x,y⟩:=R.ob k s h;exact⟨a,b,(R.le_up (D,D)) _ _ x,y.go (R.le_up (D,D)) λq c Z=>c⟩
 ·rcases g k p h with⟨rfl,rfl⟩|⟨_,h⟩<;>rcases g u v j with⟨rfl,rfl⟩|⟨_,j⟩
  ·exact absurd rfl e
  ·have z:=n _ _ j
   exact(gc z.1 z.2 z.1 z.2)
  ·have z:=n _ _ h
   exact(gc z.1.symm z.1.symm z.2.symm z.2.symm)
  ·exact R.dj _ _ _ _ h j e
 ·rcases g k p h with⟨rfl,rfl⟩|⟨_,h⟩
  ·exact⟨i,i⟩
  ·exact R.inl _ _ h
 ·rcases g k p d with⟨rfl,rfl⟩|⟨ne,d⟩
  ·have z:=hk q (W3 _ c);exact⟨z,z⟩
  ·rw[d8 ne]at h
   exact R.X2 _ _ _ h d q c
 ·rcases g k p d with⟨rfl,rfl⟩|⟨ne,d⟩
  ·have z:=hk q (WW _ c);exact⟨z,z⟩
  ·exact R.X3 _ _ d q (.tail _ c)
variable {o:Obj}
theorem aA.far (R:aA w τ σ ⟨X.own,q::X.far⟩ l) (hk:∀p∈X.own++X.far,p.1≠q.1) (hl:∀p∈l,p.1≠q.1->p∈l') (hm:(q.1,o)∈l'):aA w τ σ ⟨X.own,(q.1,o)::X.far⟩ l':=by
 have a:∀z,z∈l.map (·.1)->z∈l'.map (·.1):=λz b=>by
  refine bn (Xb.mp b) λp hp c=>?_;obtain rfl:=c;by_cases e:p.1=q.1
  ·rw[e];exact Xm (f:=(·.1)) hm
  ·exact Xm (hl p hp e)
 refine⟨R.nx,λk g h=>?_,R.dj,R.nz.imp λz b=>⟨a _ b.1,λp hp=>(WY.mp hp).elim (λe=>by rw[e];exact b.2 q (.head _)) λhp=>b.2 p (.tail _ hp)⟩,λk p h=>⟨a _ (R.inl _ _ h).1,a _ (R.inl _ _ h).2⟩,λp hp=>?_,R.X2,λk p h j hp=>?_⟩
 ·obtain⟨x,d,e,r⟩:=R.ob k g h
  have z:=R.X3 _ _ e q (.head _);exact⟨x,d,e,r.go Tb.le.refl λp hp hx=>hl p hp λi=>by
   rcases hx with hx|hx<;>rw[i]at hx
   ·exact z.1 hx
   ·exact z.2 hx⟩
 ·rcases W6.mp hp with hp|hp
  ·exact hl p (R.X1 p (W3 _ hp)) (hk p (W3 _ hp))
  ·rcases WY.mp hp with rfl|hp
   ·exact hm
   ·exact hl p (R.X1 p (WW _ (.tail _ hp))) (hk p (WW _ hp))
 ·rcases WY.mp hp with rfl|hp
  ·exact R.X3 k p h q (.head _)
  ·exact R.X3 k p h j (.tail _ hp)
structure Ek where
 sc:Scope
 ns:List Str
 cn:List Str
 cm:Option (Scope×Str)
 lm:Bool
 cd:Value
 qn:Str
end
section
variable {w:World}
structure nC (env:Env) (x:Str) (c:Addr):Prop where
 kd:env.kindOf x=some .free
 at_:env.cells.lookup x=some c
 fn:env.scope.kind=.function
 nm:(x==("__classdict__":Str))=false
def pj (lm:Bool) (env:Env) (x:Str) (c:Addr):Prop:=match lm with
 |false=>cV env x c
 |true=>nC env x c
variable {env:Env} {x:Str}
theorem pj.at_ {lm:Bool} {c:Addr} (h:pj lm env x c):env.cells.lookup x=some c:=by
 cases lm
 ·exact cV.at_ h
 ·exact nC.at_ h
def gC (c:Cf w) (κ:Ek) (fr:cf) (τ:Tb):Prop:=∀(i:Nat) (x:Str),κ.cn[i]?=some x->∃k a d,fr.cel[i]?=some k∧τ k=some (a,d)∧pj κ.lm (c.ev κ.sc) x a
variable {c:Cf w} {κ:Ek} {fr:cf} {τ τ':Tb}
theorem gC.up (e:gC c κ fr τ) (t:τ.le τ'):gC c κ fr τ':=λi x h=>by
 refine pi (e i x h) λk a d b g f=>?_;exact(mQ k a d b (t _ _ g) f)
def Ib (c:Cf w) (κ:Ek) (fr:cf) (τ:Tb) (X:Xs) (env:Env) (s:Scope) (x:Str):Prop:=∃cl C oC v V,env=compEnvC s cl C (c.ev κ.sc)∧da s (c.ev κ.sc) cl∧(C,oC)∈X.far∧oH oC x V∧fr.cv=[v]∧RV τ v V
def jb (c:Cf w) (κ:Ek) (fr:cf) (τ:Tb) (X:Xs) (env:Env):Prop:=gC c κ fr τ∧match κ.cm with
 |none=>env=c.ev κ.sc
 |some (s,x)=>Ib c κ fr τ X env s x
variable {X:Xs}
theorem jb.up (e:jb c κ fr τ X env) (t:τ.le τ'):jb c κ fr τ' X env:=by
 refine⟨e.1.up t,?_⟩;have z:=e.2;cases h:κ.cm with
 |none=>rw[h]at z;exact z
 |some p=>
  rw[h]at z;refine MV z λb C k v V d j g a f i=>?_;exact(V5 b C k v V d j g a f (i.up t))
theorem jb.fnI (e:jb c κ fr τ X env) (hc:κ.cm=none):env=c.ev κ.sc:=by
 have z:=e.2;rw[hc]at z;exact z
variable {s:Scope}
theorem jb.cmI (e:jb c κ fr τ X env) (hc:κ.cm=some (s,x)):Ib c κ fr τ X env s x:=by
 have z:=e.2;rw[hc]at z;exact z
theorem jb.fn (hc:κ.cm=none) (h:gC c κ fr τ):jb c κ fr τ X (c.ev κ.sc):=⟨h,by rw[hc]⟩
end
section
variable {w:World}
structure oJ (c:Cf w) (ns:List Str) (fr:cf) (σ:Sg) (τ:Tb) (X:Xs) (h:Heap) (g':Heap) (vs:List (Option Value)) (l:bu):Prop where
 T:KtsTurn (eA c.outer) c.g g'
 A:At (c.wg g') ns vs l h
 L:gU τ fr.loc vs
 R:aA w τ σ X l
def GN (w:World) (fs:List Addr) (g:Heap) (k:Nat) (σ:Sg) (τ:Tb) (X:Xs) (e:Addr) (h:Heap):Prop:=
 ∃kd D y z l,τ k=some (e,y)∧σ.ob k=some (.exc kd)∧τ kd=some (D,z)∧(∀q∈X.own,q.1≠e∧q.1≠y)∧(∀oe,aA w τ (σ.del k) X ((e,oe)::l))∧RX (.ref 438) (some D) fs g l e h
inductive AP (c:Cf w) (κ:Ek) (fr:cf) (k:Nat) (σ:Sg) (τ:Tb) (X:Xs) (e:Addr) (h:Heap):Prop
 |fresh {g' vs l kd D y z a σ0} (S:oJ c κ.ns fr σ0 τ X h g' vs l) (ht:τ k=some (e,y)) (hs:σ0.ob k=some (.excF (some kd))) (hd:τ kd=some (D,z)) (h1:(e,kq 438 (some D) a)∈l) (hσ:σ=σ0.set k (.exc kd))
 |call {g' vs l0 h0} (T:KtsTurn (eA c.outer) c.g g') (H:At (c.wg g') κ.ns vs l0 h0) (L:gU τ fr.loc vs) (q:GN w (eA (c.ev κ.sc::c.outer)) (hideAll h0 (l0.map (·.1))) k σ τ X e h)
def XL (c:Cf w) (κ:Ek) (fr:cf) (τ0:Tb) (X:Xs) (KE:KX):Prop:=∀k σ τ e h t,τ0.le τ->KE k σ->AP c κ fr k σ τ X e h->c.E (.ref e) ⟨h,c.gn,c.d,t,c.os⟩
def XQ (q:Cf w) (τ0:Tb) (X:Xs) (KE:KX):Prop:=∀k σ τ e h t,τ0.le τ->KE k σ->GN w (eA q.outer) q.g k σ τ X e h->q.E (.ref e) ⟨h,q.gn,q.d,t,q.os⟩
def aM (w:World) (m:Nat) (φ:List SV->Sg->KV->KX->Prop) (f:Value):Prop:=∀(q:Cf w) (Q:Value->Heap->Nat->Prop) h t τ σ X l args avs K KE,db q.A0 m->Cl q l h->aA w τ σ X l->bZ τ args avs->φ args σ K KE->XQ q τ X KE->(∀v σ τ' V h t g1 l,τ.le τ'->RV τ' v V->KtsTurn (eA q.outer) q.g g1->Ex g1 l h->aA w τ' σ X l->K v σ->Q V h t)->Co q f avs Q h t
def jm (w:World) (m:Nat) (φ:List SV->Sg->KV->KX->Prop):Prop:=∀(q:Cf w) (Q:Value->Heap->Nat->Prop) h t τ σ X l k V K KE,db q.A0 m->Cl q l h->aA w τ σ X l->RV τ (.ref k) V->φ [.ref k] σ K KE->XQ q τ X KE->(∀v σ τ' V h t g1 l,τ.le τ'->RV τ' v V->KtsTurn (eA q.outer) q.g g1->Ex g1 l h->aA w τ' σ X l->K v σ->Q V h t)->Co q V [] Q h t
structure ar (w:World) (Φ:Nat->eL) (n:Nat):Prop where
 ok:∀j,j≤n->∀f,Nat.blt f 10000=true->aM w (n - j) (Φ j f) (.ref f)
 lm:∀j,jm w n (Φ 0 (10000+j))
 no:∀j f args σ K KE,n<j->¬Φ j f args σ K KE
structure HC (c:Cf w) (n:Nat) (κ:Ek):Prop extends Ok c n κ.sc κ.ns where
 Y:c.cd=κ.cd∧c.qual=κ.qn
variable {c:Cf w} {n:Nat}
theorem HC.wE {κ:Ek} (O:HC c n κ) (E':Value->Shared->Prop):HC (c.wE E') n κ:=⟨O.toOk.wE E',O.Y⟩
end
section
variable {w:World}
structure Cw (w:World) (κ:Ek) where
 c:Cf w
 Φ:Nat->eL
 n:Nat
 env:Env
 fr:cf
 τ0:Tb
 X:Xs
 KE:KX
 P:ar w Φ n
 O:HC c n κ
 E:XL c κ fr τ0 X KE
variable {κ:Ek}
inductive E9 (c:Cf w) (ns:List Str) (fr:cf) (σ:Sg) (τ:Tb) (X:Xs) (h:Heap):Prop
 |mk (g':Heap) (vs:List (Option Value)) (l:bu) (S:oJ c ns fr σ τ X h g' vs l):E9 c ns fr σ τ X h
structure Hs (G:Cw w κ) (τ:Tb) (σ:Sg) (h:Heap):Prop where
 V:jb G.c κ G.fr τ G.X G.env
 S:E9 G.c κ.ns G.fr σ τ G.X h
 le:G.τ0.le τ
def QE (G:Cw w κ) (τ:Tb) (K:KV) (Q:Value->Heap->Nat->Prop):Prop:=∀v σ τ' V h t,τ.le τ'->RV τ' v V->Hs G τ' σ h->K v σ->Q V h t
def QT (G:Cw w κ) (τ:Tb) (K:Bool->Sg->Prop) (Q:Bool->Heap->Nat->Prop):Prop:=∀v σ τ' h t,τ.le τ'->Hs G τ' σ h->K v σ->Q v h t
def QL (G:Cw w κ) (τ:Tb) (K:List SV->Sg->Prop) (Q:List Value->Heap->Nat->Prop):Prop:=∀v σ τ' V h t,τ.le τ'->bZ τ' v V->Hs G τ' σ h->K v σ->Q V h t
variable {τ τ1:Tb} {K:KV} {Q:Value->Heap->Nat->Prop}
theorem QE.pre {G:Cw w κ} (q:QE G τ K Q) (le:τ.le τ1):QE G τ1 K Q:=λv b a V h t l=>q v b a V h t (le.trans l)
variable {K:Bool->Sg->Prop} {Q:Bool->Heap->Nat->Prop}
theorem QT.pre {G:Cw w κ} (q:QT G τ K Q) (le:τ.le τ1):QT G τ1 K Q:=λv b a h t l=>q v b a h t (le.trans l)
def av (w:World) (κ:Ek) (e:Expr) (m:AE):Prop:=∀(G:Cw w κ) {τ σ h t K} {Q:Value->Heap->Nat->Prop},Hs G τ σ h->m G.Φ G.fr σ K G.KE->QE G τ K Q->Wp G.c (eval e G.env) Q h t
def eU (w:World) (κ:Ek) (e:Expr) (m:AT):Prop:=∀(G:Cw w κ) {τ σ h t K} {Q:Bool->Heap->Nat->Prop},Hs G τ σ h->m G.Φ G.fr σ K G.KE->QT G τ K Q->Wp G.c (isTrue e G.env (eval e G.env)) Q h t
def eu (w:World) (κ:Ek) (es:List Expr) (m:AL):Prop:=∀(G:Cw w κ) {τ σ h t K} {Q:List Value->Heap->Nat->Prop},Hs G τ σ h->m G.Φ G.fr σ K G.KE->QL G τ K Q->Wa G.c G.env es Q h t
variable {G:Cw w κ} {τ':Tb} {σ:Sg} {h h':Heap} {t:Nat} {vs:List (Option Value)} {l:bu}
theorem Hs.go {σ':Sg} {g':Heap} (H:Hs G τ σ h) (t:τ.le τ') (S:oJ G.c κ.ns G.fr σ' τ' G.X h' g' vs l):Hs G τ' σ' h':=⟨H.V.up t,⟨_,_,_,S⟩,H.le.trans t⟩
variable {c:Cf w}
theorem bL {α:Type} {e:Sem α} {Q:α->Heap->Nat->Prop} (g':Heap) (x:Wp (c.wg g') e Q h t):Wp c e Q h t:=x
theorem qq {α:Type} {e:Sem α} {Q:α->Heap->Nat->Prop} (g':Heap) (x:Wp c e Q h t):Wp (c.wg g') e Q h t:=x
variable {K:KV} {Q:Value->Heap->Nat->Prop}
theorem lK {f:Nat} {args:List SV} {avs:List Value} (hf:Nat.blt f 10000=true) (H:Hs G τ σ h) (ha:bZ τ args avs) (m:G.Φ 0 f args σ K G.KE) (q:QE G τ K Q):Wp G.c (call (.ref f) avs) Q h t:=by
 obtain⟨r,vs,l,S⟩:=H.S;have O:=G.O.turn S.T;refine bL r (yB O S.A λy C B I o p z=>G.P.ok 0 (Nat.zero_le _) f hf y Q h t τ σ G.X _ args avs K G.KE B C S.R ha m (λk c b e i n j A fl=>z _ _ _ (G.E _ _ _ _ _ _ (H.le.trans j) A (.call S.T S.A (S.L.up j) ?_))) λv c b V i n L F a d g x D u=>?_)
 ·rw[o,p]at fl;exact fl
 ·rw[o,p]at g
  refine ic (Ho O S.A g x) λE s J w=>?_;exact q v c b V i n a d (H.go a ⟨S.T.trans s,w,S.L.up a,D⟩) u
variable {V:Value}
theorem Lj {j k:Nat} (H:Hs G τ σ h) (rv:RV τ (.ref k) V) (m:G.Φ 0 (10000+j) [.ref k] σ K G.KE) (q:QE G τ K Q):Wp G.c (call V []) Q h t:=by
 obtain⟨r,vs,l,S⟩:=H.S;have O:=G.O.turn S.T;refine bL r (yB O S.A λy C B I o p z=>G.P.lm j y Q h t τ σ G.X _ k V K G.KE B C S.R rv m (λk c b e g n i A fl=>z _ _ _ (G.E _ _ _ _ _ _ (H.le.trans i) A (.call S.T S.A (S.L.up i) ?_))) λv c b V g n L F a d f x D u=>?_)
 ·rw[o,p]at fl;exact fl
 ·rw[o,p]at f
  refine ic (Ho O S.A f x) λE s J w=>?_;exact q v c b V g n a d (H.go a ⟨S.T.trans s,w,S.L.up a,D⟩) u
variable {v:SV}
theorem Hs.re (H:Hs G τ σ h) (rv:RV τ v V) (k:K v σ) (q:QE G τ K Q) (t:Nat):Q V h t:=q v σ τ V h t Tb.le.refl rv H k
variable {Q:Bool->Heap->Nat->Prop}
theorem Hs.rt {K:Bool->Sg->Prop} (H:Hs G τ σ h) {b:Bool} (k:K b σ) (q:QT G τ K Q) (t:Nat):Q b h t:=q b σ τ h t Tb.le.refl H k
variable {e e1 e2:Expr} {es:List Expr} {m m1 m2:AE} {ml:AL} {pos px:Pos} {x:Str} {i:Nat} {kk:Nat}
def aV (i:Nat):AE:=λZ fr σ K Z=>match fr.loc[i]? with
 |some (some v)=>K v σ
 |_=>False
theorem s_v (i:Nat) (hx:κ.ns[i]?=some x) (hc:κ.cm=none):av w κ (.Name x pos) (aV i):=by
 intro G d c h t K Q H m q;rw[H.V.fnI hc];obtain⟨a,vs,l,S⟩:=H.S;unfold aV at m;cases e:G.fr.loc[i]? with
 |none=>rw[e]at m;exact m.elim
 |some v=>cases v with
  |none=>rw[e]at m;exact m.elim
  |some v=>
   rw[e]at m;refine bn (S.L.slot hx e) λX s b=>?_;exact bL a (NI (G.O.turn S.T) S.A s (H.re b m q _))
def aN:AE:=λZ Z σ K Z=>K .none σ
theorem s_n:av w κ (.Constant .none kk pos) aN:=λG Z Z Z Z Z Z H m q=>CR (H.re (v:=.none) rfl m q _)
def aB (b:Bool):AE:=λZ Z σ K Z=>K (.bool b) σ
theorem s_b {b:Bool}:av w κ (.Constant (.bool b) kk pos) (aB b):=λG Z Z Z Z Z Z H m q=>ES (H.re (v:=.bool b) rfl m q _)
def aI (i:Int):AE:=λZ Z σ K Z=>K (.int i) σ
theorem s_i {i:Int}:av w κ (.Constant (.int i) kk pos) (aI i):=λG Z Z Z Z Z Z H m q=>Ry (H.re (v:=.int i) ⟨_,rfl⟩ m q _)
def aS (z:Str):AE:=λZ Z σ K Z=>K (.str z) σ
theorem s_s {z:Str}:av w κ (.Constant (.str z) kk pos) (aS z):=λG Z Z Z Z Z Z H m q=>yL (H.re (v:=.str z) ⟨_,rfl⟩ m q _)
noncomputable def bz (κ:Ek) (x:Str):Bool:=(match κ.cm with
 |none=>κ.sc.kind== .function&&κ.sc.names.lookup x==some .globalImplicit
 |some p=>p.1.kind== .function&&p.1.names.lookup x==some .globalImplicit)&& !(x==("__debug__":Str))&& !(x==("__name__":Str))
variable {env:Env}
theorem gJ (names:List (Str×NameKind)) (h:names.lookup x=some .globalImplicit):((names.map λ(n,k)=>if(k==NameKind.free&&env.scope.kind== .function&&env.kindOf n==some .cell)then(n,NameKind.cell)else(n,k)).lookup x)=some .globalImplicit:=by
 induction names with
 |nil=>exact cX h
 |cons a r ih=>
  obtain⟨n,k⟩:=a;rw[Xk]at h;rw[W4];by_cases e:x=n
  ·subst e
   simp at h;subst h;simp
  ·have b:(x==n)=false:=by simpa using e
   simp only[b]at h;show List.lookup x ((if(k==NameKind.free&&env.scope.kind== .function&&env.kindOf n==some .cell)=true then(n,NameKind.cell)else(n,k))::_)=_;by_cases hc:(k==NameKind.free&&env.scope.kind== .function&&env.kindOf n==some .cell)=true
   ·rw[Xn hc,Xk,b];exact(ih h)
   ·rw[Xh hc,Xk,b];exact(ih h)
variable {X:Xs}
theorem bV {fr:cf} (V:jb c κ fr τ X env) (h:bz κ x=true):fG env x=true:=by
 unfold bz at h;rw[WU,WU]at h;obtain⟨⟨b,g⟩,f⟩:=h;cases e:κ.cm with
 |none=>
  rw[e]at b;rw[V.fnI e];rw[WU]at b;show((κ.sc.kind== .function)&&(κ.sc.names.lookup x==some .globalImplicit)&& !(x==("__debug__":Str))&& !(x==("__name__":Str))&&(mainGlobals==mainGlobals)&&(builtinsNs==builtinsNs))=true;rw[b.1,b.2,g,f];rfl
 |some p=>
  obtain⟨a,l⟩:=p;rw[e]at b;refine E52 (V.cmI e) λk C j v V d Z=>?_;obtain rfl:=d;rw[WU]at b;have i:(relabel a (c.ev κ.sc)).names.lookup x=some .globalImplicit:=gJ (env:=c.ev κ.sc) _ (by simpa using b.2);show((a.kind== .function)&&((relabel a (c.ev κ.sc)).names.lookup x==some .globalImplicit)&& !(x==("__debug__":Str))&& !(x==("__name__":Str))&&(mainGlobals==mainGlobals)&&(builtinsNs==builtinsNs))=true;rw[b.1,i,g,f];simp
def aG (a:Addr):AE:=λZ Z σ K Z=>K (.glob a) σ
theorem s_g {a:Addr} (e:nsIn (HK w.params) mainGlobals x=some (some (.ref a))) (hx:bz κ x=true):av w κ (.Name x pos) (aG a):=by
 intro G d c h t K Q H m q;obtain⟨b,vs,l,S⟩:=H.S;exact bL b (sJ (G.O.turn S.T) S.A e (bV H.V hx) (H.re (v:=.glob a) rfl m q _))
def tH (op:Operator) (x y:SV) (K:SV->Prop):Prop:=match op with
 |.Add=>bI (Nat.beq (kd x) 3) (cj x λa=>cj y λb=>(a.length≤50000∧b.length≤50000)∧K (.str (a++b))) (aR x λi=>aR y λj=>K (.int (i+j)))
 |.Sub=>aR x λi=>aR y λj=>K (.int (i - j))
 |.Mult=>aR x λi=>aR y λj=>IntMulOk i j∧K (.int (i*j))
 |.Mod=>aR x λi=>aR y λj=>0<j∧K (.int (i % j))
 |.FloorDiv=>aR x λi=>aR y λj=>(0<j∧j<1073741824)∧K (.int (i / j))
 |.Pow=>aR x λi=>aR y λj=>(0≤i∧i<2 ^ 64∧0≤j∧j≤1000)∧K (.int (i ^ j.toNat))
 |_=>False
end
section
variable {w:World} {κ:Ek} {e e1 e2:Expr} {es:List Expr} {m m1 m2:AE} {ml:AL} {pos px:Pos} {x:Str} {i:Nat} {kk:Nat}
inductive On2 {α:Type} (c:α->Tok->Value) (A B:Value) (K:α->α->Prop):Prop
 |mk (i j:α) (u v:Tok) (a:A=c i u) (b:B=c j v) (k:K i j):On2 c A B K
variable {τ τ':Tb} {A B:Value}
theorem bR {x y:SV} {K:Int->Int->Prop} (ra:RV τ x A) (rb:RV τ' y B) (h:aR x λi=>aR y λj=>K i j):On2 Value.int A B K:=by
 obtain⟨i,a,h⟩:=bU h;obtain⟨j,b,h⟩:=bU h;subst a b;obtain⟨u,rfl⟩:=ra;obtain⟨v,rfl⟩:=rb;exact⟨_,_,_,_,rfl,rfl,h⟩
theorem kB {x y:SV} {K:Str->Str->Prop} (ra:RV τ x A) (rb:RV τ' y B) (h:cj x λi=>cj y λj=>K i j):On2 Value.str A B K:=by
 obtain⟨i,a,h⟩:=b0 h;obtain⟨j,b,h⟩:=b0 h;subst a b;obtain⟨u,rfl⟩:=ra;obtain⟨v,rfl⟩:=rb;exact⟨_,_,_,_,rfl,rfl,h⟩
variable {c:Cf w} {K:SV->Prop} {Q:Value->Heap->Nat->Prop}
theorem VB {op:Operator} {a b:SV} {h:Heap} {t:Nat} (ra:RV τ a A) (rb:RV τ' b B) (m:tH op a b K) (q:∀v V t,K v->RV τ v V->Q V h t):Wp c (binaryOp op A B) Q h t:=by
 cases op
 case Add=>
  cases z:Nat.beq (kd a) 3 with
  |true=>obtain⟨x,y,u,v,rfl,rfl,m⟩:=kB ra rb (m.br.1 z);exact BX m.1.1 m.1.2 λd e=>q _ _ _ m.2 ⟨_,rfl⟩
  |false=>obtain⟨x,y,u,v,rfl,rfl,m⟩:=bR ra rb (m.br.2 z);exact MI (q _ _ _ m ⟨_,rfl⟩)
 case Sub=>obtain⟨x,y,u,v,rfl,rfl,m⟩:=bR ra rb m;exact EK (q _ _ _ m ⟨_,rfl⟩)
 case Mult=>obtain⟨x,y,u,v,rfl,rfl,m⟩:=bR ra rb m;exact Os m.1 (q _ _ _ m.2 ⟨_,rfl⟩)
 case Mod=>obtain⟨x,y,u,v,rfl,rfl,m⟩:=bR ra rb m;exact My m.1 (q _ _ _ m.2 ⟨_,rfl⟩)
 case FloorDiv=>obtain⟨x,y,u,v,rfl,rfl,m⟩:=bR ra rb m;exact Jl m.1.1 m.1.2 (q _ _ _ m.2 ⟨_,rfl⟩)
 case Pow=>obtain⟨x,y,u,v,rfl,rfl,m⟩:=bR ra rb m;exact Qm m.1.1 m.1.2.1 m.1.2.2.1 m.1.2.2.2 (q _ _ _ m.2 ⟨_,rfl⟩)
 all_goals exact m.elim
def ap (op:Operator) (a b:AE):AE:=λΦ fr σ K KE=>a Φ fr σ (λx σ=>b Φ fr σ (λy σ=>tH op x y λv=>K v σ) KE) KE
theorem Tv {op:Operator} (s1:av w κ e1 m1) (s2:av w κ e2 m2):av w κ (.BinOp e1 op e2 pos) (ap op m1 m2):=λG Z Z Z Z Z Z H m q=>
 uh (s1 G H m λu o r z i j e h c f=>s2 G c f λy x s n v p a b g d=>VB (h.up a) b d λZ Z t k l=>g.re l k (q.pre (e.trans a)) t)
noncomputable def Ke:List Addr:=[40,62,82,120,140,181,228,834]
noncomputable def Jv:List (Addr×Nat):=[(834,0),(834,5),(834,6),(834,43)]
noncomputable def qo (C:Addr) (a:Nat):Bool:=Ke.contains C&&Nat.blt a 44&& !(Jv.contains (C,a))
theorem Gi:(Ke.all λC=>(List.range 44).all λa=>Jv.contains (C,a)||(kM (HK w.params) C (cI a)&&gi (HK w.params) C (cI a)))=true:=by kernel_rfl
variable {C a:Nat}
theorem y6 (h:qo C a=true):kM (HK w.params) C (cI a)=true∧gi (HK w.params) C (cI a)=true∧a<58:=by
 unfold qo at h;rw[WU,WU,Xj,YW]at h;have z:=WZ.mp (WZ.mp (Gi (w:=w)) C (XU.mp h.1.1)) a (XG.mpr h.1.2);rw[h.2,Bool.false_or,WU]at z;exact⟨z.1,z.2,ZB h.1.2 (by decide)⟩
noncomputable def yo:List (Addr×Nat×Addr):=[(834,0,594),(834,44,615),(834,45,620),(834,46,627),(834,47,635),(834,48,642),(834,50,663),(834,6,677),(834,51,684),(834,52,691),(834,53,698),(834,54,705),(834,43,719),(834,55,761),(834,56,768),(228,49,225),(120,57,105)]
noncomputable def n4 (C:Addr) (m:Nat):Option Addr:=(yo.find? λx=>Nat.beq x.1 C&&Nat.beq x.2.1 m).map (·.2.2)
theorem qL:(yo.all λx=>Nat.blt x.2.1 58&&(Nat.blt x.2.2 10000&&kb (HK w.params) x.1 (cI x.2.1) x.2.2)&&keepIn (HK w.params) (.ref x.2.2))=true:=by kernel_rfl
theorem xR {C m fa:Nat} (h:n4 C m=some fa):m<58∧kb (HK w.params) C (cI m) fa=true∧keepIn (HK w.params) (.ref fa)=true∧Nat.blt fa 10000=true:=by
 refine bn (W8.mp h) λx b e=>?_;have z:=WZ.mp (qL (w:=w)) x (Yh b);have a:=Zx b;rw[WU,WU,WU,YW]at z;rw[WU]at a;cases W9 a.1;cases W9 a.2;subst e;exact(gc z.1.1 z.1.2.2 z.2 z.1.2.1)
variable {l:bu}
theorem In.at_ {e:Addr×Obj} (h:e∈l):In e l:=.all h
variable {d:Addr} {o:Obj}
theorem dO (h:(d,o)∈l):∃pre post,l=pre++(d,o)::post∧∀o',dC d o o' l (pre++(d,o')::post):=by
 refine mZ (List.append_of_mem h) λpre post a=>?_;obtain rfl:=a;exact(uA pre post rfl (λo'=>.app .here))
theorem cZ {pre post:bu} {d:Addr} {o o':Obj}:∀q∈pre++(d,o)::post,q.1≠d->q∈pre++(d,o')::post:=λq hq a=>by
 rcases W6.mp hq with hq|hq
 ·exact W3 _ hq
 ·rcases WY.mp hq with rfl|hq
  ·exact absurd rfl a
  ·exact WW _ (.tail _ hq)
theorem cK {pre post:bu} {o o':Obj}:∀z,z∈(pre++(d,o)::post).map (·.1)->z∈(pre++(d,o')::post).map (·.1):=λz h=>by
 simpa using h
theorem dz {pre post:bu} {o':Obj}:(d,o')∈pre++(d,o')::post:=WW _ (.head _)
variable {f:List (Nat×SV)}
theorem FX.dm (h:FX τ o f):∃mm,cJ o mm f.length∧(∀a,a<58->RO τ (f.lookup a) (mm (cI a))):=by
 refine jC h λc n e z b=>?_;refine ic b λmm g r q=>?_;exact(bv mm ⟨c,n,e,g,z⟩ r)
theorem FX.get {x:SV} (h:FX τ o f) (ha:a<58) (hf:f.lookup a=some x):∃mm V,cJ o mm f.length∧mm (cI a)=some V∧RV τ x V:=by
 refine bn h.dm λmm D r=>?_;have z:=r a ha;rw[hf]at z;refine bn z λW e b=>?_;exact(j6 mm W D e b)
theorem FX.non (h:FX τ o f) (ha:a<58) (hf:f.lookup a=none):∃mm,cJ o mm f.length∧mm (cI a)=none:=by
 refine bn h.dm λmm D r=>?_;have z:=r a ha;rw[hf]at z;exact(bv mm D z)
variable {G:Cw w κ} {σ:Sg} {h:Heap} {t:Nat}
def XeF (σ:Sg) (o:SO) (a:Nat) (K:SV->Prop):Prop:=bI (rp o) (yV o λd=>bN σ d λo=>Dk o λf=>a=43∧bX (f.lookup a) K) (gA o λC f=>qo C a=true∧bX (f.lookup a) K)
def DK (σ:Sg) (v:SV) (a:Nat) (K:SV->Prop):Prop:=bE v λk=>bN σ k λo=>XeF σ o a K
theorem Bn:jK (HK w.params) 438 (cI 43)=true:=by kernel_rfl
variable {vs:List (Option Value)} {v:SV} {V:Value}
theorem PI {ns:List Str} {X:Xs} (hX:(HK w.params).In c.g) (A:At c ns vs l h) (R:aA w τ σ X l) {expr:Bool} (rv:RV τ v V) (m:DK σ v a K) (q:∀x W,RV τ x W->K x->Q W h (t+1)):Wp c (getAttr V (cI a) expr) Q h t:=by
 obtain⟨k,rfl,o,hob,m⟩:=bh m;obtain⟨x,d,rfl,hk,e2⟩:=R.get rv hob;cases z:rp o with
 |true=>
  obtain⟨kd,rfl,o2,hob2,p1⟩:=AY (m.br.1 z);obtain⟨f,rfl,rfl,y,hf,qk⟩:=zu p1;obtain⟨n,F,D,e,E,g⟩:=e2;obtain⟨H,G,r,o,j,i⟩:=R.ob _ _ hob2;cases E.symm.trans r;refine jC (i.get (by decide) hf) λs W p e b=>?_;exact Xcu (hX.keeps A.F.keep) ⟨(A.N _ g).1,rfl,rfl,(A.N _ j).1⟩ p e Bn b.handed (aJ (c:=c) (q _ _ b qk))
 |false=>
  obtain⟨C,f,rfl,hr,y,hf,qk⟩:=f8 (m.br.2 z);obtain⟨o,g,j,i⟩:=e2;refine wI (y6 (w:=w) hr) λB Z u=>?_;refine jC (i.get u hf) λs W D e b=>?_;exact XdZ A.F hX (gb A.N (In.at_ g) (In.at_ j)) D e B b.handed (aJ (c:=c) (q _ _ b qk))
theorem k9 {expr:Bool} (H:Hs G τ σ h) (rv:RV τ v V) (m:DK σ v a K) (q:∀x W,RV τ x W->K x->Q W h (t+1)):Wp G.c (getAttr V (cI a) expr) Q h t:=by
 obtain⟨b,vs,l,S⟩:=H.S;exact bL b (PI (G.O.turn S.T).X S.A S.R rv m q)
variable {e3:Expr} {m3:AE} {mt mt1 mt2:AT} {apos:Pos} {QV:Value->Heap->Nat->Prop}
theorem nV {ob:Expr} {attr:Str} {env:Env} (hb:∀env x,attributeBase ob attr env x=x) (q:Wp c (eval ob env) (λov h t=>Wp c (getAttr ov attr true) QV h t) h t):Wp c (eval (.Attribute ob attr pos) env) QV h t:=by
 show wpAny _ _ (do
  let o ←attributeBase ob attr env (eval ob env)
  standAt pos.atName
  let r ←holding [o] (getAttr o attr true)
  letTemporaryGo ob o r
  pure r) _ _ _
 rw[hb];exact WV (q.go λov h t y=>WV (Yr (WV (XH (y.go λr h t y=>WV (wpAny_letTemporaryGo (W1 (aJ y))))))))
def aj (m:AE) (a:Nat):AE:=λΦ fr σ K KE=>m Φ fr σ (λv σ=>DK σ v a λx=>K x σ) KE
theorem CE {ob:Expr} {attr:Str} (a:Nat) (hn:cI a=attr) (hb:∀env x,attributeBase ob attr env x=x) (s:av w κ ob m):av w κ (.Attribute ob attr pos) (aj m a):=by
 subst hn;exactλG Z Z Z Z Z Z H m q=>nV hb (s G H m λi g h l j n e f b d=>k9 b f d λx W c k=>b.re c k (q.pre e) _)
@[irreducible] noncomputable def aC (i:Nat):AE:=λZ fr σ K Z=>bX (fr.cel[i]?) λk=>bN σ k λo=>jc o λv=>bX v λv=>K v σ
theorem Ks {fr:cf} {X:Xs} (ce:gC c κ fr τ) (hx:κ.cn[i]?=some x) (R:aA w τ σ X l) (mm:bX (fr.cel[i]?) λk=>bN σ k λo=>jc o λv=>bX v λv=>K v):
  ∃a o v V,pj κ.lm (c.ev κ.sc) x a∧(a,o)∈l∧fj o (some V)∧RV τ v V∧K v:=by
 refine pi (ce i x hx) λk a d g j f=>?_;obtain⟨n,b,q,h,mm⟩:=mm;rw[g]at b;obtain rfl:=jS b;obtain⟨v,rfl,v',hv,mq⟩:=n9 mm;subst hv;obtain⟨p,r,f1,V,o,e,m,W,rfl,rv⟩:=R.ob _ _ h;rw[j]at f1;cases f1;exact(ww _ _ _ _ f e m rv mq)
theorem s_c (i:Nat) (hx:κ.cn[i]?=some x) (hc:κ.cm=none) (hd:(!(x==("__debug__":Str)))=true):av w κ (.Name x pos) (aC i):=by
 intro G j k h t K Q H m q;unfold aC at m;rw[H.V.fnI hc];obtain⟨d,vs,l,S⟩:=H.S;refine sD (Ks H.V.1 hx S.R m) λa o v V b e g f m=>?_;cases hl:κ.lm with
 |false=>rw[hl]at b;exact bL d (Tj S.A b (In.at_ e) g hd (H.re f m q _))
 |true=>
  rw[hl]at b;exact bL d (Z8 (wpAny_loadName_free b.fn b.kd b.at_ (bv o ((S.A.N _ e).1) g) (aJ (c:=G.c) (H.re f m q _)) b.nm) (by simpa using hd))
theorem Xfy (hl:κ.lm=false) (i:Nat) {s:Scope} {y:Str} (hx:κ.cn[i]?=some x) (hc:κ.cm=some (s,y)) (hb:(s.names.lookup x==some .free&& !(x==("__debug__":Str)))=true):av w κ (.Name x pos) (aC i):=by
 intro G n z h t K Q H m q;unfold aC at m;refine Wc (H.V.cmI hc) λk C u r p e g Z=>?_;rw[e];obtain⟨c,vs,l,S⟩:=H.S;refine sD (Ks H.V.1 hx S.R m) λa o v V b d j f m=>?_;rw[hl]at b;exact bL c (Pn S.A g b (In.at_ d) j hb (H.re f m q _))
def aX:AE:=λZ fr σ K Z=>one fr.cv λv=>K v σ
theorem s_x {s:Scope} (hc:κ.cm=some (s,x)) (hb:(s.kind== .function&&s.names.lookup x==some .local&& !(x==("__debug__":Str)))=true):av w κ (.Name x pos) aX:=by
 intro G g o h t K Q H m q;refine MV (H.V.cmI hc) λf C k j i e n b d c r=>?_;rw[e];obtain⟨a,vs,l,S⟩:=H.S;unfold aX at m;rw[c]at m;rw[WU,WU]at hb;refine bL a (QX S.A (In.at_ (S.R.X1 _ (WW _ b))) d ?_ (H.re r m q _));rw[show(relabel s ((G.c.wg a).ev κ.sc)).names.lookup x=some .local from(lookup_relabel_local (by simpa using hb.1.2):(relabel s (G.c.ev κ.sc)).names.lookup x=some .local),hb.1.1,hb.2];rfl
theorem fo {j:Int} {n:Nat} (h0:0≤j) (h:j.toNat<n):seqIndex? j n=some j.toNat:=by
 unfold seqIndex?;have a:¬j<0:=by exact hO h0
 have b:j<n:=by exact Mc h0 h
 simp[a,h0,b]
def itm (xs:List SV) (j:Int) (K:SV->Prop):Prop:=(0≤j∧j<1000000)∧bX (xs[j.toNat]?) K
def XcP (o:SO) (j:Int) (K:SV->Prop):Prop:=bI (jY o) (iz o λxs=>itm xs j K) (wu o λxs=>bI (decide (j<0)) ((-(xs.length:Int)≤j∧-1000000≤j)∧bX (xs[(j+xs.length).toNat]?) K) (itm xs j K))
def wN (σ:Sg) (v i:SV) (K:SV->Prop):Prop:=aR i λj=>bI (Nat.beq (kd v) 3) (cj v λz=>(0≤j∧j<1000000)∧bX (z.cps[j.toNat]?) λc=>K (.str ⟨#[c]⟩)) (bE v λk=>bN σ k λo=>XcP o j K)
theorem Tl {v i:SV} {V I:Value} {value slice:Expr} (hs:∀o i:Value,subscripted slice false o i=operate [o,i] (getItem o i)) (H:Hs G τ σ h) (rv:RV τ v V) (ri:RV τ i I) (m:wN σ v i K) (q:∀x W t,RV τ x W->K x->Q W h t):Wp G.c (subscriptTail value slice V I) Q h t:=by
 obtain⟨j,rfl,m⟩:=bU m;obtain⟨u,rfl⟩:=ri;obtain⟨n,vs,l,S⟩:=H.S;cases z:Nat.beq (kd v) 3 with
 |true=>
  obtain⟨z,rfl,a,c,b,m⟩:=b0 (m.br.1 z);obtain⟨v,rfl⟩:=rv;refine tail_any (s:=⟨h,G.c.gn,G.c.d,t,G.c.os⟩) (typeIs_str _ _ _) PySem.F.slot_str_getitem.lookup (PySem.P.getItem_str ?_ (c:=_) ?_ (aJ (c:=G.c) (q (.str _) _ _ ⟨_,rfl⟩ m))) (hs _ _)
  ·simp;exact Xed a.1 a.2 (by decide)
  ·rw[fo a.1 (by have:=(XV.mp b).1;exact this)]
   exact b
 |false=>
  obtain⟨k,rfl,o,hob,p1⟩:=bh (m.br.2 z);obtain⟨y,d,rfl,hk,f2⟩:=S.R.get rv hob;cases z2:jY o with
  |true=>
   obtain⟨A,rfl,a,x,b,g⟩:=iu (p1.br.1 z2);refine bn f2 λr f e=>?_;refine bn (e.get b) λV hV rv=>?_;exact bL n (item_tupleT (s:=⟨h,G.c.gn,G.c.d,t,G.c.os⟩) (gh S.A.N (In.at_ f)) (Cz a.1) (cS a.2) (j:=_) (fo a.1 (Yx.mp hV).1) hV (aJ (c:=G.c) (q _ _ _ rv g)) (hs _ _))
  |false=>
   obtain⟨A,r,C,f,e,g⟩:=rR (p1.br.2 z2) f2;cases hd:decide (j<0)with
   |false=>
    obtain⟨a,x,b,p⟩:=g.br.2 hd;refine bn (e.get b) λV hV rv=>?_;exact bL n (Bl S.A (In.at_ f) (by simp;exact Xbs a.1 a.2) hV (hs _ _) (q _ _ _ rv p))
   |true=>
    have w:=W5 hd;obtain⟨a,x,b,p⟩:=g.br.1 hd;refine bn (e.get b) λV hV rv=>?_;have B:=e.len;exact bL n (tail_any (s:=⟨h,G.c.gn,G.c.d,t,G.c.os⟩) (bJ S.A.N f).typeIs PySem.F.slot_list_getitem.lookup (wpAny_getItem_list_neg (bJ S.A.N f) w (by simp;lia) (by lia) (by simpa [B]using hV) (aJ (c:=G.c) (q _ _ _ rv p))) (hs _ _))
def ax (a b:AE):AE:=λΦ fr σ K KE=>a Φ fr σ (λx σ=>b Φ fr σ (λy σ=>wN σ x y λv=>K v σ) KE) KE
theorem HV (hs:∀o i:Value,subscripted e2 false o i=operate [o,i] (getItem o i)) (s1:av w κ e1 m1) (s2:av w κ e2 m2):av w κ (.Subscript e1 e2 pos) (ax m1 m2):=λG Z Z Z Z Z Z H m q=>
 qW (s1 G H m λx r u B j l f h d g=>s2 G d g λA z v p y s b c a e=>Tl hs a (h.up b) c e λZ Z t n k=>a.re n k (q.pre (f.trans b)) t)
@[irreducible] noncomputable def aD (a b:Str):Bool:=decide (a=b)
variable {a:Str}
theorem aQ:aD a a=true:=by unfold aD;simp
theorem cC {a b:Str}:(aD a b=false)=(a≠b):=by unfold aD;simp
noncomputable def lz:List Str:=["Kernel","Comparable","Enumerable"]
noncomputable def oZ:List Str:=["NilClass","TrueClass","FalseClass","Integer","Symbol"]
theorem vo:fy (HK w.params) 546=some lz:=by kernel_rfl
theorem wY:fy (HK w.params) 558=some oZ:=by kernel_rfl
theorem lW (l:List Str) (z:Str):(l.any λy=>y==z)=(l.any λy=>aD y z):=by
 congr 1;funext y;unfold aD;by_cases e:y=z<;>simp[e]
theorem tT {a b:Str} (h:a≠b):(a.cps.toList==b.cps.toList)=false:=by
 have:a.cps.toList≠b.cps.toList:=λe=>h (by
  cases a;cases b;congr;exact Array.toList_inj.mp e)
 simpa using this
theorem mE {ys:List Int}:∀{Vs:List Value},bZ τ (ys.map SV.int) Vs->IntsAre Vs ys:=by
 induction ys with
 |nil=>intro Vs r;obtain rfl:=r;exact .nil
 |cons y ys ih=>rintro Vs ⟨A,B,rfl,⟨u,rfl⟩,r⟩;exact .cons _ _ (ih r)
theorem rF {ys:List Str}:∀{Vs:List Value},bZ τ (ys.map SV.str) Vs->StrsAre Vs ys:=by
 induction ys with
 |nil=>intro Vs r;obtain rfl:=r;exact .nil
 |cons y ys ih=>rintro Vs ⟨A,B,rfl,⟨u,rfl⟩,r⟩;exact .cons _ _ (ih r)
noncomputable def nF (x:SV):Bool:=Nat.beq (kd x) 4||Nat.beq (kd x) 0
noncomputable def um (x:SV):Option PyData:=match x with
 |.none=>some .none
 |.bool b=>some (.bool b)
 |.int i=>some (.int i)
 |.str z=>some (.str z)
 |_=>none
noncomputable def mA:List SV->Option (List PyData)
 |[]=>some []
 |x::r=>(um x).bind λd=>(mA r).map (d::·)
end
section
variable {w:World} {κ:Ek} {G:Cw w κ} {τ:Tb} {σ:Sg} {h:Heap} {t:Nat}
inductive yQ (σ:Sg) (x:SV):PyData->Prop
 |val (d:PyData) (h:um x=some d):yQ σ x d
 |list (k:Nat) (xs:List SV) (ds:List PyData) (hx:x=.ref k) (ho:σ.ob k=some (.list xs)) (h:mA xs=some ds):yQ σ x (.list ds)
 |tup (k:Nat) (xs:List SV) (ds:List PyData) (hx:x=.ref k) (ho:σ.ob k=some (.tup xs)) (h:mA xs=some ds):yQ σ x (.tuple ds)
inductive We (σ:Sg) (x y:SV) (K:Bool->Prop):Prop
 |mk (d e:PyData) (hx:yQ σ x d) (hy:yQ σ y e) (h:(SeqAt.shaped d&&SeqAt.shaped e)=true) (q:K (PyData.eqv d e))
def oA (σ:Sg) (x y:SV) (K:Bool->Prop):Prop:=bI (nF x) (We σ x y K) (bI (Nat.beq (kd x) 3) (cj x λa=>cj y λb=>K (aD a b)) (aR x λi=>aR y λj=>K (decide (i=j))))
@[irreducible] noncomputable def gP (x y:SV) (K:Bool->Prop):Prop:=(Nat.beq (kd y) 0=true)∧Nat.ble (kd x) 4=true∧K (Nat.beq (kd x) 0)
inductive InI (σ:Sg) (x:SV) (k:Nat) (K:Bool->Prop):Prop
 |d0 {z} (hx:x=.str z) (h:σ.ob k=some .dic0) (q:K false)
 |li {i:Int} {ys:List Int} (hx:x=.int i) (h:σ.ob k=some (.list (ys.map SV.int))) (q:K (ys.any (·==i)))
inductive XeG (σ:Sg) (x:SV) (k:Nat) (K:Bool->Prop):Prop
 |d0 {j:Int} (hx:x=.int j) (h:σ.ob k=some .dic0) (q:K true)
 |li {i:Int} {ys:List Int} (hx:x=.int i) (h:σ.ob k=some (.list (ys.map SV.int))) (q:K (!(ys.any (·==i))))
noncomputable def kC (a:Addr):List Str:=cond (Nat.beq a 546) lz oZ
def inT (x:SV) (a:Addr) (K:Bool->Prop):Prop:=((Nat.beq a 546||Nat.beq a 558)=true)∧cj x λz=>K ((kC a).any λy=>aD y z)
def x9 (σ:Sg) (x y:SV) (K:Bool->Prop):Prop:=bI (Nat.beq (kd y) 5) (gB y λa=>inT x a K) (bE y λk=>InI σ x k K)
def un (σ:Sg) (x y:SV) (K:Bool->Prop):Prop:=bI (Nat.beq (kd y) 5) (gB y λa=>inT x a λb=>K (!b)) (bE y λk=>XeG σ x k K)
def iE (σ:Sg) (op:CmpOp) (x y:SV) (K:Bool->Prop):Prop:=match op with
 |.Lt=>aR x λi=>aR y λj=>K (decide (i<j))
 |.LtE=>aR x λi=>aR y λj=>K (decide (i≤j))
 |.Gt=>aR x λi=>aR y λj=>K (decide (j<i))
 |.GtE=>aR x λi=>aR y λj=>K (decide (j≤i))
 |.Eq=>oA σ x y K
 |.NotEq=>oA σ x y λb=>K (!b)
 |.Is=>gP x y K
 |.IsNot=>gP x y λb=>K (!b)
 |.In=>x9 σ x y K
 |.NotIn=>un σ x y K
variable {op:CmpOp} {a b:SV} {A B:Value} {K:Bool->Prop} {Q:Value->Heap->Nat->Prop}
theorem yK {y:SV} (h:Nat.beq (kd y) 0=true):y=.none:=by cases y<;>first|rfl|exact nomatch h
variable {c:Cf w}
theorem is_ (ra:RV τ a A) (rb:RV τ b B) (m:gP a b K) (q:∀b,K b->Q (.bool b) h t):Wp c (compareOp .Is A B) Q h t:=by
 unfold gP at m;obtain⟨f,e,m⟩:=m;cases yK f;obtain rfl:=rb;cases a
 case none=>obtain rfl:=ra;exact XaN (q _ m)
 case int=>obtain⟨u,rfl⟩:=ra;exact XfN (q _ m)
 case str=>obtain⟨u,rfl⟩:=ra;exact WF (q _ m)
 case bool=>obtain rfl:=ra;exact XfL (q _ m)
 case ref=>obtain⟨x,d,rfl,_⟩:=ra;exact RD (q _ m)
 all_goals exact nomatch e
theorem Rt (ra:RV τ a A) (rb:RV τ b B) (m:gP a b λb=>K (!b)) (q:∀b,K b->Q (.bool b) h t):Wp c (compareOp .IsNot A B) Q h t:=by
 unfold gP at m;obtain⟨f,e,m⟩:=m;cases yK f;obtain rfl:=rb;cases a
 case none=>obtain rfl:=ra;exact NS (q _ m)
 case int=>obtain⟨u,rfl⟩:=ra;exact Hl (q _ m)
 case str=>obtain⟨u,rfl⟩:=ra;exact Mz (q _ m)
 case bool=>obtain rfl:=ra;exact Ri (q _ m)
 case ref=>obtain⟨x,d,rfl,_⟩:=ra;exact Fq (q _ m)
 all_goals exact nomatch e
theorem Sw {a:Addr} (h:(Nat.beq a 546||Nat.beq a 558)=true):fy (HK w.params) a=some (kC a):=by
 rw[Bool.or_eq_true]at h;rcases h with h|h
 ·cases W9 h;exact vo
 ·cases W9 h;exact wY
theorem in_ (H:Hs G τ σ h) (ra:RV τ a A) (rb:RV τ b B) (m:x9 σ a b K) (q:∀b t',K b->Q (.bool b) h t'):Wp G.c (compareOp .In A B) Q h t:=by
 obtain⟨f,vs,l,S⟩:=H.S;cases e:Nat.beq (kd b) 5 with
 |true=>
  obtain⟨y,rfl,hy,m⟩:=gf (m.br.1 e);obtain rfl:=rb;obtain⟨z,rfl,m⟩:=b0 m;obtain⟨u,rfl⟩:=ra;refine bL f (inK (t:=t) S.A.F (G.O.turn S.T).X (b:=_) (by rw[Sw hy];rfl) (aJ (c:=G.c) (q _ _ ?_)));show K ((kC y).any λy=>y==z);rw[lW];exact m
 |false=>
  obtain⟨k,rfl,m⟩:=bh (m.br.2 e);cases m with
  |d0 hx hob p=>
   subst hx;obtain⟨u,rfl⟩:=ra;obtain⟨y,d,rfl,hk,g1,g2⟩:=S.R.get rb hob;exact bL f (NK S.A (In.at_ g1) jM g2 rfl (q _ _ p))
  |li hx hob p=>
   subst hx;obtain⟨u,rfl⟩:=ra;obtain⟨y,d,rfl,hk,ws,n',g1,g2⟩:=S.R.get rb hob;exact bL f (in_list_ints (s:=⟨h,G.c.gn,G.c.d,t,G.c.os⟩) (bJ S.A.N g1) (mE g2) (aJ (c:=G.c) (q _ _ p)))
theorem Xbu (H:Hs G τ σ h) (ra:RV τ a A) (rb:RV τ b B) (m:un σ a b K) (q:∀b t',K b->Q (.bool b) h t'):Wp G.c (compareOp .NotIn A B) Q h t:=by
 obtain⟨f,vs,l,S⟩:=H.S;cases e:Nat.beq (kd b) 5 with
 |true=>
  obtain⟨y,rfl,hy,m⟩:=gf (m.br.1 e);obtain rfl:=rb;obtain⟨z,rfl,m⟩:=b0 m;obtain⟨u,rfl⟩:=ra;refine bL f (sF (G.O.turn S.T) S.A (b:=_) (by rw[Sw hy];rfl) (q _ _ ?_));show K (!((kC y).any λy=>y==z));rw[lW];exact m
 |false=>
  obtain⟨k,rfl,m⟩:=bh (m.br.2 e);cases m with
  |d0 hx hob p=>
   subst hx;obtain⟨u,rfl⟩:=ra;obtain⟨y,d,rfl,hk,g1,g2⟩:=S.R.get rb hob;exact bL f (pU S.A (In.at_ g1) g2 (q _ _ p))
  |li hx hob p=>
   subst hx;obtain⟨u,rfl⟩:=ra;obtain⟨y,d,rfl,hk,ws,n',g1,g2⟩:=S.R.get rb hob;exact bL f (notin_list_ints (s:=⟨h,G.c.gn,G.c.d,t,G.c.os⟩) (bJ S.A.N g1) (mE g2) (aJ (c:=G.c) (q _ _ p)))
theorem jL {A:Around} {n:Nat} (r:db A n):A.units+64<cLine:=by
 have a:=r.u;have:(9100:Nat)≤cLine:=by decide
 lia
variable {x:SV} {V:Value}
theorem zc {hh:Heap} {d:PyData} (r:RV τ x V) (h:um x=some d):Reads hh V d []:=by
 cases x
 case none=>obtain rfl:=jS h;obtain rfl:=r;exact .none
 case bool=>obtain rfl:=jS h;obtain rfl:=r;exact .bool _
 case int=>obtain rfl:=jS h;obtain⟨u,rfl⟩:=r;exact .int _ _
 case str=>obtain rfl:=jS h;obtain⟨u,rfl⟩:=r;exact .str _ _
 all_goals exact cX h
theorem yc {hh:Heap} {xs:List SV}:∀{Vs:List Value} {ds:List PyData},bZ τ xs Vs->mA xs=some ds->ReadsAll hh Vs ds []:=by
 induction xs with
 |nil=>intro Vs ds r h;obtain rfl:=r;obtain rfl:=jS h;exact .nil
 |cons x xs ih=>
  rintro Vs ds ⟨A,B,rfl,r1,r2⟩ h;refine bn (YG.mp h) λd b h=>?_;refine bn (W8.mp h) λe c a=>?_;obtain rfl:=a;exact .cons (as:=[]) (bs:=[]) (zc r1 b) (ih r2 c)
theorem xW {d:PyData} (H:Hs G τ σ h) (ra:RV τ a A) (m:yQ σ a d):∃as,Reads h A d as:=by
 obtain⟨b,vs,l,S⟩:=H.S;cases m with
 |val d hd=>exact⟨_,zc ra hd⟩
 |list k xs ds hx ho hd=>
  subst hx;obtain⟨y,d,rfl,hk,ws,n,g1,g2⟩:=S.R.get ra ho;exact⟨_,.list (S.A.N _ g1).1 rfl rfl (yc g2 hd)⟩
 |tup k xs ds hx ho hd=>
  subst hx;obtain⟨y,d,rfl,hk,ws,g1,g2⟩:=S.R.get ra ho;exact⟨_,.tuple (S.A.N _ g1).1 rfl rfl (yc g2 hd)⟩
theorem eq_ (H:Hs G τ σ h) (ra:RV τ a A) (rb:RV τ b B) (m:oA σ a b K) (q:∀b t',K b->Q (.bool b) h t'):Wp G.c (compareOp .Eq A B) Q h t:=by
 cases e0:nF a with
 |true=>
  obtain⟨d,e,g,i,f,p⟩:=m.br.1 e0;obtain⟨as,j⟩:=xW H ra g;obtain⟨l,k⟩:=xW H rb i;rw[WU]at f;exact SeqAt.compareEq_shaped (s:=⟨h,G.c.gn,G.c.d,t,G.c.os⟩) j k f.1 f.2 (jL G.O.rm) (aJ (c:=G.c) (q _ _ p))
 |false=>
  have m:=m.br.2 e0;cases z:Nat.beq (kd a) 3 with
  |true=>
   obtain⟨x,y,u,v,rfl,rfl,m⟩:=kB ra rb (m.br.1 z);by_cases e:x=y
   ·subst e;rw[aQ]at m;exact DA (q _ _ m)
   ·rw[cC.mpr e]at m;exact Cn (tT e) (q _ _ m)
  |false=>obtain⟨x,y,u,v,rfl,rfl,m⟩:=bR ra rb (m.br.2 z);exact Xaz (q _ _ m)
theorem ne_ (H:Hs G τ σ h) (ra:RV τ a A) (rb:RV τ b B) (m:oA σ a b λb=>K (!b)) (q:∀b t',K b->Q (.bool b) h t'):Wp G.c (compareOp .NotEq A B) Q h t:=by
 cases e0:nF a with
 |true=>
  obtain⟨d,e,g,i,f,p⟩:=m.br.1 e0;obtain⟨as,j⟩:=xW H ra g;obtain⟨l,k⟩:=xW H rb i;rw[WU]at f;exact SeqAt.compareNe_shaped (s:=⟨h,G.c.gn,G.c.d,t,G.c.os⟩) j k f.1 f.2 (jL G.O.rm) (aJ (c:=G.c) (q _ _ p))
 |false=>
  have m:=m.br.2 e0;cases z:Nat.beq (kd a) 3 with
  |true=>
   obtain⟨x,y,u,v,rfl,rfl,m⟩:=kB ra rb (m.br.1 z);by_cases e:x=y
   ·subst e;rw[aQ]at m;exact DJ (q _ _ m)
   ·rw[cC.mpr e]at m;exact A9 (tT e) (q _ _ m)
  |false=>
   obtain⟨x,y,u,v,rfl,rfl,m⟩:=bR ra rb (m.br.2 z);refine XfA (q _ _ ?_);have:(x !=y)= !decide (x=y):=by by_cases e:x=y<;>rfl
   rw[this];exact m
theorem vf (H:Hs G τ σ h) (ra:RV τ a A) (rb:RV τ b B) (m:iE σ op a b K) (q:∀b t',K b->Q (.bool b) h t'):Wp G.c (compareOp op A B) Q h t:=by
 cases op with
 |Lt=>obtain⟨x,y,u,v,rfl,rfl,m⟩:=bR ra rb m;exact Xde (q _ _ m)
 |LtE=>obtain⟨x,y,u,v,rfl,rfl,m⟩:=bR ra rb m;exact Xaq (q _ _ m)
 |Gt=>obtain⟨x,y,u,v,rfl,rfl,m⟩:=bR ra rb m;exact XaR (q _ _ m)
 |GtE=>obtain⟨x,y,u,v,rfl,rfl,m⟩:=bR ra rb m;exact Xda (q _ _ m)
 |Eq=>exact eq_ H ra rb m q
 |NotEq=>exact ne_ H ra rb m q
 |Is=>exact is_ ra rb m λb k=>q b _ k
 |IsNot=>exact Rt ra rb m λb k=>q b _ k
 |In=>exact in_ H ra rb m q
 |NotIn=>exact Xbu H ra rb m q
variable {e e1 e2 e3:Expr} {m m1 m2 m3:AE} {pos:Pos}
def bF (op:CmpOp) (a b:AE):AE:=λΦ fr σ K KE=>a Φ fr σ (λx σ=>b Φ fr σ (λy σ=>iE σ op x y λv=>K (.bool v) σ) KE) KE
def ai (op:CmpOp) (a b:AE):AT:=λΦ fr σ K KE=>a Φ fr σ (λx σ=>b Φ fr σ (λy σ=>iE σ op x y λv=>K v σ) KE) KE
theorem TD (hm:behindInMarks op e2=false) (s1:av w κ e1 m1) (s2:av w κ e2 m2):av w κ (.Compare e1 [op] [e2] pos) (bF op m1 m2):=λG Z Z Z Z Z Z H m q=>
 Kv (s1 G H m λs n p z i j f h d g=>s2 G d g λy x r l u o b c a e=>vf a (h.up b) c e λv t k=>a.re (v:=.bool v) rfl k (q.pre (f.trans b)) t) hm
theorem RJ (hm:behindInMarks op e2=false) (s1:av w κ e1 m1) (s2:av w κ e2 m2):eU w κ (.Compare e1 [op] [e2] pos) (ai op m1 m2):=λG Z Z Z Z Z Z H m q=>
 BV (s1 G H m λs n p z i j f h d g=>s2 G d g λy x r l u o b c a e=>vf a (h.up b) c e λv t k=>OI (a.rt k (q.pre (f.trans b)) t)) hm
def lZ (op op':CmpOp) (a b d:AE):AT:=λΦ fr σ K KE=>a Φ fr σ (λx σ=>b Φ fr σ (λy σ=>iE σ op x y λv=>bI v (d Φ fr σ (λz σ=>iE σ op' y z λv=>K v σ) KE) (K false σ)) KE) KE
variable {env:Env}
theorem uW {op op':CmpOp} {whole:Sem Value} {Q:Bool->Heap->Nat->Prop} (hm:markedEach [op,op'] [e2,e3]=id)
  (q:Wp c (eval e1 env) (λA h t=>Wp c (eval e2 env) (λB h t=>Wp c (compareOp op A B) (λV h t=>∃b,V=.bool b∧Br b (Wp c (eval e3 env) (λD h t=>Wp c (compareOp op' B D) (λV h t=>∃b,V=.bool b∧Q b h t) h t) h t) (Q false h t)) h t) h t) h t):
  Wp c (isTrue (.Compare e1 [op,op'] [e2,e3] pos) env whole) Q h t:=by
 show wpAny _ _ (do testChain pos (←eval e1 env) [op,op'] (markedEach [op,op'] [e2,e3] [eval e2 env,eval e3 env])) _ _ _;rw[hm];refine WV (q.go λA i d y=>WV (XH (y.go λB o m y=>WV (Yr (WV (XH (y.go λV n j y=>?_)))))));obtain⟨b,rfl,k⟩:=y;refine WV (wpAny_release' (WV (XH (YT ?_))));cases b with
 |false=>exact W1 (aJ (k.2 rfl))
 |true=>
  refine WV (XH ((k.1 rfl).go λD l e y=>WV (Yr (WV (wpAny_operating (y.go λV f g y=>?_))))));refine bn y λb a k=>?_;obtain rfl:=a;exact XH (YT (aJ k))
theorem Eh {op op':CmpOp} (hm:markedEach [op,op'] [e2,e3]=id) (s1:av w κ e1 m1) (s2:av w κ e2 m2) (s3:av w κ e3 m3):eU w κ (.Compare e1 [op,op'] [e2,e3] pos) (lZ op op' m1 m2 m3):=λG Z Z Z Z Z Z H m q=>
 uW hm (s1 G H m λE A C M p r e n g l=>s2 G g l λL K D x F B b c a j=>vf a (n.up b) c j λv t k=>(jn v rfl (λz=>s3 G a (k.br.1 z) λJ I y s u o d h f i=>vf f (c.up d) h i λv t k=>(bv v rfl (f.rt k (q.pre ((e.trans b).trans d)) t))) (λz=>a.rt (k.br.2 z) (q.pre (e.trans b)) t)))
variable {es:List Expr} {mt mt1 mt2:AT} {ml:AL} {px apos:Pos} {x:Str} {i:Nat} {kk:Nat}
def jF (v:SV) (K:Bool->Prop):Prop:=match v with
 |.bool b=>K b
 |.none=>K false
 |_=>False
variable {v:SV}
theorem ka {Q:Bool->Heap->Nat->Prop} (rv:RV τ v V) (m:jF v K) (q:∀b,K b->Q b h t):Wp c (truthy V) Q h t:=by
 cases v
 case bool=>obtain rfl:=rv;exact OI (q _ m)
 case none=>obtain rfl:=rv;exact Xe2 (q _ m)
 all_goals exact m.elim
def aP (a:AE):AT:=λΦ fr σ K KE=>a Φ fr σ (λx σ=>jF x λb=>K b σ) KE
theorem OB (hp:∀env whole,isTrue e env whole=(do let v ←whole;standAt e.pos;holding [v] (truthy v))) (s:av w κ e m):eU w κ e (aP m):=λG Z Z Z Z Z Z H m q=>
 sj (hp _ _) (s G H m λi h g j l n a f c d=>ka f d λb k=>c.rt k (q.pre a) _)
def cF (a:AT):AT:=λΦ fr σ K KE=>a Φ fr σ (λb σ=>K (!b) σ) KE
theorem Jm (s:eU w κ e mt):eU w κ (.UnaryOp .Not e pos) (cF mt):=λG Z Z Z Z Z Z H m q=>Ed (s G H m λg f d h i a b c=>b.rt c (q.pre a) _)
noncomputable def bO:List AT->AT
 |[]=>λZ Z σ K Z=>K true σ
 |a::r=>λΦ fr σ K KE=>a Φ fr σ (λb σ=>bI b (bO r Φ fr σ K KE) (K false σ)) KE
noncomputable def cD:List AT->AT
 |[]=>λZ Z σ K Z=>K false σ
 |a::r=>λΦ fr σ K KE=>a Φ fr σ (λb σ=>bI b (K true σ) (cD r Φ fr σ K KE)) KE
end
section
variable {w:World} {κ:Ek} {G:Cw w κ} {τ:Tb} {σ:Sg} {h:Heap} {t:Nat} {e e1 e2 e3:Expr} {es:List Expr} {m m1 m2 m3:AE} {mt mt1 mt2:AT} {ml:AL} {pos px apos:Pos} {x:Str} {i:Nat} {kk:Nat}
inductive jk (w:World) (κ:Ek):List Expr->List AT->Prop
 |nil:jk w κ [] []
 |cons {e es a as} (h:eU w κ e a) (r:jk w κ es as):jk w κ (e::es) (a::as)
theorem Kw {as:List AT} (s:jk w κ es as):eU w κ (.BoolOp .And es pos) (bO as):=by
 have g:∀(G:Cw w κ) {e f h t K} {Q:Bool->Heap->Nat->Prop} {a:Sem Value},Hs G e f h->bO as G.Φ G.fr f K G.KE->QT G e K Q->Wp G.c (isTrue (.BoolOp .And es pos) G.env a) Q h t:=by
  induction s with
  |nil=>intro G e f h t K Q a H m q;exact vh (H.rt m q _)
  |cons h r ih=>intro G e f o t K Q a H m q;exact FR (h G H m λk i j l n d b c=>⟨λz=>ih G b (c.br.1 z) (q.pre d),λz=>b.rt (c.br.2 z) (q.pre d) _⟩)
 exactλG Z Z Z Z Z Z H m q=>g G H m q
theorem Xdp {as:List AT} (s:jk w κ es as):eU w κ (.BoolOp .Or es pos) (cD as):=by
 have g:∀(G:Cw w κ) {e f h t K} {Q:Bool->Heap->Nat->Prop} {a:Sem Value},Hs G e f h->cD as G.Φ G.fr f K G.KE->QT G e K Q->Wp G.c (isTrue (.BoolOp .Or es pos) G.env a) Q h t:=by
  induction s with
  |nil=>intro G e f h t K Q a H m q;exact Ao (H.rt m q _)
  |cons h r ih=>intro G e f o t K Q a H m q;exact Sz (h G H m λk i j l n d b c=>⟨λz=>b.rt (c.br.1 z) (q.pre d) _,λz=>ih G b (c.br.2 z) (q.pre d)⟩)
 exactλG Z Z Z Z Z Z H m q=>g G H m q
noncomputable def eK (a:AE):List AE->AE
 |[]=>a
 |b::r=>λΦ fr σ K KE=>a Φ fr σ (λx σ=>jF x λbb=>bI bb (eK b r Φ fr σ K KE) (K x σ)) KE
def ti (a b:AE):AE:=λΦ fr σ K KE=>a Φ fr σ (λx σ=>jF x λbb=>bI bb (K x σ) (b Φ fr σ K KE)) KE
inductive ja (w:World) (κ:Ek):List Expr->List AE->Prop
 |nil:ja w κ [] []
 |cons {e es a as} (h:av w κ e a) (r:ja w κ es as):ja w κ (e::es) (a::as)
theorem Rh {ms:List AE} (s1:av w κ e m) (s:ja w κ es ms):av w κ (.BoolOp .And (e::es) pos) (eK m ms):=by
 induction s generalizing e m with
 |nil=>exactλG Z Z Z Z Z Z H m q=>yg (s1 G H m q)
 |cons h r ih=>exactλG Z Z Z Z Z Z H m q=>S5 (s1 G H m λi j g o l n c d a f=>ka d f λb k=>⟨λz=>ih h G a (k.br.1 z) (q.pre c),λz=>a.re d (k.br.2 z) (q.pre c) _⟩)
theorem Xfb (s1:av w κ e1 m1) (s2:av w κ e2 m2):av w κ (.BoolOp .Or [e1,e2] pos) (ti m1 m2):=λG Z Z Z Z Z Z H m q=>
 WT (s1 G H m λg h f l i j c d a e=>ka d e λb k=>⟨λz=>a.re d (k.br.1 z) (q.pre c) _,λz=>yg (s2 G a (k.br.2 z) (q.pre c))⟩)
def qE (a:AE):AE:=λΦ fr σ K KE=>a Φ fr σ (λx σ=>jF x λb=>K (.bool !b) σ) KE
theorem RQ (s:av w κ e m):av w κ (.UnaryOp .Not e pos) (qE m):=λG Z Z Z Z Z Z H m q=>
 Ra (s G H m λh i g n j l c d a f=>Sj (ka d f λb k=>a.re (v:=.bool !b) rfl k (q.pre c) _))
def aO (t:AT) (a b:AE):AE:=λΦ fr σ K KE=>t Φ fr σ (λx σ=>bI x (a Φ fr σ K KE) (b Φ fr σ K KE)) KE
theorem Mg (s:eU w κ e mt) (s1:av w κ e1 m1) (s2:av w κ e2 m2):av w κ (.IfExp e e1 e2 pos) (aO mt m1 m2):=λG Z Z Z Z Z Z H m q=>
 TV (s G H m λf g d h i b a c=>⟨λz=>s1 G a (c.br.1 z) (q.pre b),λz=>s2 G a (c.br.2 z) (q.pre b)⟩)
def ab:AL:=λZ Z σ K Z=>K [] σ
def aa (a:AE) (r:AL):AL:=λΦ fr σ K KE=>a Φ fr σ (λv σ=>r Φ fr σ (λvs σ=>K (v::vs) σ) KE) KE
theorem UZ:eu w κ [] ab:=λG b a h t K Q H m q=>Bj (q ([]) a b ([]) h t Tb.le.refl rfl H m)
theorem BB (s:av w κ e m) (r:eu w κ es ml):eu w κ (e::es) (aa m ml):=λG Z Z Z Z Z Z H m q=>
 wU (s G H m λk y z t v x g u c i=>r G c i λo n j d l h a b p f=>q (k::o) n j (t::d) l h (g.trans a) ⟨_,_,rfl,u.up a,b⟩ p f)
variable {h':Heap} {vs:List (Option Value)} {ob:Obj} {o:SO}
theorem Hs.new1 {g':Heap} {l:bu} {D:Addr} (H:Hs G τ σ h) (S:oJ G.c κ.ns G.fr σ τ G.X h g' vs l) (A:At (G.c.wg g') κ.ns vs ((D,ob)::l) h') (r:gE w (τ.up σ.nx (D,D)) ((D,ob)::l) D D o):
  Hs G (τ.up σ.nx (D,D)) (σ.new o) h':=H.go (S.R.le_up _) ⟨S.T,A,S.L.up (S.R.le_up _),S.R.new1 A.k r⟩
variable {K:KV} {Q:Value->Heap->Nat->Prop}
theorem dN {g':Heap} {l:bu} {D:Addr} (H:Hs G τ σ h) (S:oJ G.c κ.ns G.fr σ τ G.X h g' vs l) (A:At (G.c.wg g') κ.ns vs ((D,ob)::l) h') (r:gE w (τ.up σ.nx (D,D)) ((D,ob)::l) D D o)
  (k:K (.ref σ.nx) (σ.new o)) (q:QE G τ K Q) (t:Nat):Q (.ref D) h' t:=q (.ref σ.nx) (σ.new o) _ (.ref D) h' t (S.R.le_up (D,D)) ⟨D,D,rfl,Xn rfl⟩ (H.new1 S A r) k
variable {vs:List SV} {Vs:List Value}
theorem wO (H:Hs G τ σ h) (r:bZ τ vs Vs) (m:vs.length≤1000∧K (.ref σ.nx) (σ.new (.tup vs))) (q:QE G τ K Q):Wp G.c (newTuple Vs) Q h t:=by
 obtain⟨b,f,l,S⟩:=H.S;exact bL b (vm S.A.F S.A.N S.A.k (by rw[r.len];exact m.1) λD e d a c=>aJ (dN H S ⟨d,a,c⟩ (o:=.tup vs) (bv Vs (.head _) (r.up (S.R.le_up _))) m.2 q _))
theorem qM (H:Hs G τ σ h) (r:bZ τ vs Vs) (m:vs.length≤1000∧K (.ref σ.nx) (σ.new (.list vs))) (q:QE G τ K Q):Wp G.c (newList Vs) Q h t:=by
 obtain⟨b,f,l,S⟩:=H.S;exact bL b (lP S.A.F S.A.N S.A.k (by rw[r.len];exact m.1) λD e d a c=>aJ (dN H S ⟨d,a,c⟩ (o:=.list vs) ⟨Vs,0,.head _,r.up (S.R.le_up _)⟩ m.2 q _))
def aU (ml:AL):AE:=λΦ fr σ K KE=>ml Φ fr σ (λvs σ=>vs.length≤1000∧K (.ref σ.nx) (σ.new (.tup vs))) KE
variable {kt:Nat}
theorem P1 (hk:es.all bj=true) (s:eu w κ es ml):av w κ (.Tuple es kt pos) (aU ml):=λG Z Z Z Z Z Z H m q=>VC hk (s G H m λf g e j h i b c a d=>wO a c d (q.pre b))
def bK (ml:AL):AE:=λΦ fr σ K KE=>ml Φ fr σ (λvs σ=>vs.length≤1000∧K (.ref σ.nx) (σ.new (.list vs))) KE
theorem JX (hk:es.all bj=true) (s:eu w κ es ml):av w κ (.List es pos) (bK ml):=λG Z Z Z Z Z Z H m q=>MT hk (s G H m λf g e j h i b c a d=>qM a c d (q.pre b))
variable {c:Cf w} {ns:List Str} {vs:List (Option Value)} {r:bu}
theorem yG {b e:Addr×Obj} (A:At c ns vs (Lg b [] [] (e::r)) h):At c ns vs (e::b::r) h:=A.sub λP=>by
 show _≤((b::e::r).map P).sum;simp only[W4,XD];exact HW
def gZ:AE:=λZ Z σ K Z=>K (.ref σ.nx) (σ.new .dic0)
theorem VS:av w κ (.Dict [] [] pos) gZ:=by
 intro G g j h t K Q H m q;obtain⟨c,f,l,S⟩:=H.S;refine mZ (Ye S.R.ne) λb r a=>?_;obtain rfl:=a;exact bL c (Xbe (b:=b) (W:=[]) (T:=[]) (I:=r) (G.O.turn S.T) S.A λD i d e=>dN H S (yG e) (o:=.dic0) ⟨.head _,d⟩ m q _)
variable {env:Env}
theorem yS (g':Heap):∀{es:List Expr} {Q:List Value->Heap->Nat->Prop} {h:Heap} {t:Nat},Wa c env es Q h t->Wa (c.wg g') env es Q h t:=by
 intro es
 induction es with
 |nil=>exactλx=>x
 |cons e r ih=>intro Q h t x;exact qq (c:=c) g' (Wp.mono (show Wp c (eval e env) _ h t from x) λv h t y=>ih y)
def ag (f:Nat) (ml:AL):AE:=λΦ fr σ K KE=>ml Φ fr σ (λvs σ=>Φ 0 f vs σ K KE) KE
theorem ei:eval (.Call (.Name x px) es [] pos) env=(do callWith pos (←eval (.Name x px) env) [] (backTo pos (starEach es env)) (backToKw pos (keywordEach [] env))):=rfl
theorem HE {f:Value} {first:List Value} {vs:List Value} (g':Heap) (H:Hs G τ σ h) (q:Wp G.c (call f (first++vs)) Q h t):Ck (G.c.wg g') f first Q vs h t:=by
 obtain⟨b,a,d,S⟩:=H.S;exact⟨kE (c:=G.c.wg b) (G.O.turn S.T) S.A,q⟩
theorem Hk {f:Nat} (hf:Nat.blt f 10000=true) (ev:nsIn (HK w.params) mainGlobals x=some (some (.ref f))) (hx:bz κ x=true) (hk:(keepIn (HK w.params) (.ref f)&&(e::es).all bj)=true) (s:eu w κ (e::es) ml):av w κ (.Call (.Name x px) (e::es) [] pos) (ag f ml):=by
 intro G u v h t K Q H m q;obtain⟨b,r,l,S⟩:=H.S;exact bL b (BA (G.O.turn S.T) S.A ev (by rw[WU];exact⟨bV H.V hx,hk⟩) ei (yS b (s G H m λo k n p i j c g a d=>HE b a (lK hf a g d (q.pre c)))))
theorem uV {f:Nat} (hf:Nat.blt f 10000=true) (ev:nsIn (HK w.params) mainGlobals x=some (some (.ref f))) (hx:bz κ x=true) (hk:keepIn (HK w.params) (.ref f)=true):av w κ (.Call (.Name x px) [] [] pos) (ag f ab):=by
 intro G d b h t K Q H m q;obtain⟨a,c,l,S⟩:=H.S;exact bL a (gw ei (sJ (G.O.turn S.T) S.A ev (bV H.V hx) (VF (G.O.turn S.T) S.A hk (qq a (lK hf H (args:=[]) rfl m q)))))
def Dj (σ:Sg) (v:SV) (mc:Nat) (K:Nat->Prop):Prop:=bE v λk=>bN σ k λo=>gA o λC f=>f.lookup mc=none∧bX (n4 C mc) K
def am (o:AE) (mc:Nat) (ml:AL):AE:=λΦ fr σ K KE=>o Φ fr σ (λv σ=>Dj σ v mc λfa=>ml Φ fr σ (λvs σ=>Φ 0 fa (v::vs) σ K KE) KE) KE
theorem rj (hp:es.all bj=true):(backTo pos (starEach es env)).all (λx=> !x.1)=true:=by
 induction es with
 |nil=>rfl
 |cons e r ih=>
  rw[Ys,WU]at hp;rw[cU hp.1];show((!false)&&(backTo pos (starEach r env)).all (λx=> !x.1))=true;rw[ih hp.2];rfl
variable {name:Str}
theorem ia {o:Expr} {env:Env} {QV:Value->Heap->Nat->Prop} (hb:∀env x,attributeBase o name env x=x) (hk:es.all bj=true) (hn:(Nat.blt es.length 30&&(apos.endLine==pos.line))=true)
  (q:∀pl,Wp c (eval o env) (λov h t=>Wp c (getMethod ov name pl) (λfx h t=>Wp c (callWith pos fx.1 fx.2 (backTo pos (starEach es env)) []) QV h t) h t) h t):Wp c (eval (.Call (.Attribute o name apos) es [] pos) env) QV h t:=by
 rw[WU,YW]at hn;have a:methodCallForm (es.length+([]:List Keyword).length) (backTo pos (starEach es env)) (backToKw pos (keywordEach [] env))=true:=by
  unfold methodCallForm;rw[rj hk];show(true&&([]:List (Option Str×Sem Value)).all (λx=>x.1.isSome)&&decide (es.length+0+0<30))=true;rw[Xx (show es.length+0+0<30 from hn.1)];rfl
 refine Bs (pl:=do return (←importBound o env).getD true) ?_ (q _);rw[show eval (.Call (.Attribute o name apos) es [] pos) env=(do
  let ov ←attributeBase o name env (eval o env)
  standAt apos.atName
  methodCall o name apos pos env ov (es.length+([]:List Keyword).length) (backTo pos (starEach es env)) (backToKw pos (keywordEach [] env))) from rfl,hb]
 dsimp only[methodCall];rw[a];have:methodCallPos true o env apos pos=pure pos:=by
  unfold methodCallPos;rw[hn.2];rfl
 rw[this];rfl
theorem Eu {o:Expr} {mo:AE} (mc:Nat) (hn:cI mc=name) (hb:∀env x,attributeBase o name env x=x) (hk:es.all bj=true) (hl:(Nat.blt es.length 30&&(apos.endLine==pos.line))=true) (so:av w κ o mo) (s:eu w κ es ml):av w κ (.Call (.Attribute o name apos) es [] pos) (am mo mc ml):=by
 intro G τ W h t K Q H m q;subst hn;refine ia hb hk hl λpl=>so G H m λa1 a0 P a2 J L N R i O=>?_;obtain⟨u,ws,l,S⟩:=i.S;obtain⟨k,T,ob,M,p⟩:=bh O;have B:=R;rw[T]at B;obtain⟨C,f,rfl,hf,fa,hm,p2⟩:=f8 p;obtain⟨y,d,eV,X,o',g1,g2,g3⟩:=S.R.get B M;refine E04 (xR (w:=w) hm) λm1 m2 U m4=>?_;refine bn (g3.non m1 hf) λmm D n=>?_;rw[T]at p2;rw[eV];refine bL u (OK (s:=⟨J,G.c.gn,G.c.d,L,G.c.os⟩) S.A.F (G.O.turn S.T).X (gb S.A.N (In.at_ g1) (In.at_ g2)) D n m2 (aJ (c:=G.c) ?_));have A:QL G P (λvs W=>G.Φ 0 fa (.ref k::vs) W K G.KE) λV h t=>Wp G.c (call (.ref fa) (.ref y::V)) Q h t:=λr I E v F z b g a j=>lK m4 a (args:=.ref k::r) ⟨_,_,rfl,⟨y,d,rfl,b _ _ X⟩,g⟩ j (q.pre (N.trans b));cases es with
 |nil=>exact bL u (IY (G.O.turn S.T) S.A U (qq u (s G (Q:=λY h2 t2=>Wp G.c (call (.ref fa) (.ref y::Y)) Q h2 t2) i p2 A)))
 |cons e es=>exact bL u (vK (G.O.turn S.T) (by rw[WU];exact⟨U,hk⟩) (yS u (s G i p2 λr I E v F z b g a j=>HE u a (A r I E v F z b g a j))))
def RF (τ:Tb) (f:Flw) (F:Flow):Prop:=match f with
 |.next=>F=.next
 |.cont=>F=.cont
 |.brk=>F=.brk
 |.ret v=>∃V,F=.ret V∧RV τ v V
end
section
variable {w:World} {κ:Ek}
structure Cs (w:World) (κ:Ek) where
 c:Cf w
 Φ:Nat->eL
 n:Nat
 τ0:Tb
 X:Xs
 KE:KX
 P:ar w Φ n
 O:HC c n κ
 E:∀fr,XL c κ fr τ0 X KE
@[reducible] noncomputable def Cs.at (G:Cs w κ) (fr:cf):Cw w κ:=⟨G.c,G.Φ,G.n,G.c.ev κ.sc,fr,G.τ0,G.X,G.KE,G.P,G.O,G.E fr⟩
def QS (G:Cs w κ) (τ:Tb) (K:ft) (Q:Flow->Heap->Nat->Prop):Prop:=∀f fr σ τ' F h t,τ.le τ'->RF τ' f F->Hs (G.at fr) τ' σ h->K f fr σ->Q F h t
variable {τ τ1:Tb} {K:ft} {Q:Flow->Heap->Nat->Prop}
theorem QS.pre {G:Cs w κ} (q:QS G τ K Q) (le:τ.le τ1):QS G τ1 K Q:=λf b c a F h t l=>q f b c a F h t (le.trans l)
def bq (w:World) (κ:Ek) (ss:List Stmt) (m:AS):Prop:=∀(G:Cs w κ) {fr τ σ h t K} {Q:Flow->Heap->Nat->Prop},Hs (G.at fr) τ σ h->m G.Φ fr σ K G.KE->QS G τ K Q->Wp G.c (execs ss (G.c.ev κ.sc)) Q h t
inductive Tg
 |l (i:Nat)
 |c (i:Nat)
noncomputable def Tg.put (tg:Tg) (v:SV) (fr:cf) (σ:Sg) (K:cf->Sg->Prop):Prop:=match tg with
 |.l i=>bI (Nat.blt i fr.loc.length) (K (fr.put i v) σ) False
 |.c i=>bX (fr.cel[i]?) λk=>bN σ k λo=>jc o λZ=>K fr (σ.set k (.cell (some v)))
noncomputable def Tg.is (κ:Ek) (x:Str) (tg:Tg):Prop:=match tg with
 |.l i=>κ.ns[i]?=some x
 |.c i=>κ.cn[i]?=some x∧κ.lm=false
variable {e e1 e2 e3:Expr} {es:List Expr} {m m1 m2 m3:AE} {mt mt1 mt2:AT} {ml:AL} {ms ms1 ms2:AS} {pos px apos:Pos} {x:Str} {i:Nat} {kk:Nat} {rest body orelse:List Stmt} {G:Cs w κ} {fr:cf} {σ:Sg} {h:Heap} {t:Nat}
theorem Hs.rs (H:Hs (G.at fr) τ σ h) {f:Flw} {F:Flow} (rf:RF τ f F) (k:K f fr σ) (q:QS G τ K Q) (t:Nat):Q F h t:=q f fr σ τ F h t Tb.le.refl rf H k
variable {v:SV} {V:Value} {R:Unit->Heap->Nat->Prop} {K:cf->Sg->Prop}
theorem dJ {tg:Tg} (hx:tg.is κ x) (hc:κ.cm=none) (H:Hs (G.at fr) τ σ h) (rv:RV τ v V) (m:tg.put v fr σ K) (q:∀fr σ h t,Hs (G.at fr) τ σ h->K fr σ->R () h t):Wp G.c (storeName (G.c.ev κ.sc) x V) R h t:=by
 obtain⟨g,vs,l,S⟩:=H.S;cases tg with
 |l i=>
  cases z:Nat.blt i fr.loc.length with
  |false=>exact(bI.br m).2 z |>.elim
  |true=>
   refine bn (S.L.put rv hx (YW.mp z)) λD p A=>?_;exact bL g (Xdx (G.O.turn S.T) S.A p λf b=>q (fr.put i v) σ f (t+1) ⟨.fn hc H.V.1,⟨_,_,_,S.T,b,A,S.R⟩,H.le⟩ ((bI.br m).1 z))
 |c i=>
  refine pi (H.V.1 i x hx.1) λk a d F u r=>?_;rw[hx.2]at r;obtain⟨I,n,o,s,p⟩:=m;rw[F]at n;obtain rfl:=jS n;obtain⟨M,rfl,p2⟩:=n9 p;obtain⟨J,N,f1,L,o,C,y,O⟩:=S.R.ob _ _ s;rw[u]at f1;cases f1;refine gM (dO C) λw j e U=>?_;obtain rfl:=e;exact bL g (Vd S.A r y U λB f E b=>q fr _ f t ⟨H.V,⟨_,_,_,S.T,b,S.L,S.R.chg (o:=.cell (some v)) s u (.inl rfl) cZ cK (j6 (some V) B dz E (bv V rfl rv))⟩,H.le⟩ p2)
def aF:AS:=λZ fr σ K Z=>K .next fr σ
theorem Vz:bq w κ [] aF:=λG Z Z Z Z Z Z Z H m q=>yM (H.rs (f:=.next) rfl m q _)
def ay (tg:Tg) (a:AE) (r:AS):AS:=λΦ fr σ K KE=>a Φ fr σ (λv σ=>tg.put v fr σ λfr σ=>r Φ fr σ K KE) KE
theorem OO {tg:Tg} (hx:tg.is κ x) (hc:κ.cm=none) (hs:∀env,κ.sc=env.scope->swapsWith e (some (.Name x px)) pos.line env=pure false) (s:av w κ e m) (r:bq w κ rest ms):bq w κ (.Assign [.Name x px] e pos::rest) (ay tg m ms):=λG h Z Z Z Z Z Z H m q=>
 LB (hs _ rfl) (s (G.at h) H m λg i f n j l b c a d=>dJ (G:=G) hx hc a c d λZ Z Z Z H k=>r G H k (q.pre b))
def aq (a:AE):AS:=λΦ fr σ K KE=>a Φ fr σ (λv σ=>K (.ret v) fr σ) KE
theorem Md (s:av w κ e m):bq w κ (.Return (some e) pos::rest) (aq m):=λG i Z Z Z Z Z Z H m q=>rW (s (G.at i) H m λa j h n k l c d b g=>Hs.rs (G:=G) b (f:=.ret a) (bv _ rfl d) g (q.pre c) _)
def kX (r:cf->Sg->Prop) (K:ft):ft:=λf fr σ=>match f with
 |.next=>r fr σ
 |f=>K f fr σ
def lD (t:AT) (a b r:AS):AS:=λΦ fr σ K KE=>t Φ fr σ (λx σ=>bI x (a Φ fr σ (kX (λfr σ=>r Φ fr σ K KE) K) KE) (b Φ fr σ (kX (λfr σ=>r Φ fr σ K KE) K) KE)) KE
def aw (t:AT) (a r:AS):AS:=λΦ fr σ K KE=>t Φ fr σ (λx σ=>bI x (a Φ fr σ (kX (λfr σ=>r Φ fr σ K KE) K) KE) (r Φ fr σ K KE)) KE
set_option tactic.hygienic true in
theorem Tq {K:ft} (r:bq w κ rest ms) (le:τ1.le τ) (q:QS G τ1 K Q):QS G τ (kX (λfr σ=>ms G.Φ fr σ K G.KE) K) λF h t=>Nx G.c rest (G.c.ev κ.sc) Q F h t:=by
 intro f fr σ b F h t a c H k;cases f
 case next=>obtain rfl:=c;exact r G H k (q.pre (le.trans a))
 case cont=>obtain rfl:=c;exact q .cont fr σ b _ h t (le.trans a) rfl H k
 case brk=>obtain rfl:=c;exact q .brk fr σ b _ h t (le.trans a) rfl H k
 case ret v=>refine bn c λV d e=>?_;obtain rfl:=d;exact q (.ret v) fr σ b _ h t (le.trans a) (bv V rfl e) H k
theorem XeV (s:eU w κ e mt) (s1:bq w κ body ms1) (s2:bq w κ orelse ms2) (r:bq w κ rest ms):bq w κ (.If e body orelse pos::rest) (lD mt ms1 ms2 ms):=λG g Z Z Z Z Z Z H m q=>
 QP (s (G.at g) H m λf h d i j b a c=>⟨λz=>s1 G a (c.br.1 z) (Tq r b q),λz=>s2 G a (c.br.2 z) (Tq r b q)⟩)
theorem VQ (s:eU w κ e mt) (s1:bq w κ body ms1) (r:bq w κ rest ms):bq w κ (.If e body [] pos::rest) (aw mt ms1 ms):=λG g Z Z Z Z Z Z H m q=>
 PZ (s (G.at g) H m λf h d i j b a c=>⟨λz=>s1 G a (c.br.1 z) (Tq r b q),λz=>r G a (c.br.2 z) (q.pre b)⟩)
def cQ (a:AE) (r:AS):AS:=λΦ fr σ K KE=>a Φ fr σ (λZ σ=>r Φ fr σ K KE) KE
theorem Ih (hs:∀env,κ.sc=env.scope->swapsWith e none pos.line env=pure false) (s:av w κ e m) (r:bq w κ rest ms):bq w κ (.Expr e pos::rest) (cQ m ms):=λG g Z Z Z Z Z Z H m q=>
 AX (hs _ rfl) (by dsimp only[interactive];rw[G.O.S.kind];rfl) (s (G.at g) H m λf h d k i j b l a c=>r G a c (q.pre b))
noncomputable def fU:List (Nat×SV)->Nat->SV->List (Nat×SV)
 |[],a,x=>[(a,x)]
 |p::r,a,x=>cond (Nat.beq a p.1) ((p.1,x)::r) (p::fU r a x)
variable {a:Nat} {x:SV} {f:List (Nat×SV)}
theorem lj {b:Nat}:(fU f a x).lookup b=if b=a then some x else f.lookup b:=by
 induction f with
 |nil=>
  show List.lookup b [(a,x)]=_;rw[Xk];by_cases e:b=a
  ·rw[Xn e,e,YF]
  ·rw[Xh e,show(b==a)=false by simpa using e]
 |cons p r ih=>
  obtain⟨c,y⟩:=p;show List.lookup b (cond (Nat.beq a c) ((c,x)::r) ((c,y)::fU r a x))=_;cases e:Nat.beq a c with
  |true=>
   cases W9 e;show List.lookup b ((a,x)::r)=_;rw[Xk,Xk];by_cases e:b=a
   ·rw[Xn e,e,YF]
   ·rw[Xh e,show(b==a)=false by simpa using e]
  |false=>
   show List.lookup b ((c,y)::fU r a x)=_;rw[Xk,Xk,ih];by_cases e2:b=c
   ·subst e2
    have:b≠a:=λz=>by rw[z]at e;exact absurd e (by simp[ZR])
    rw[YF];show some y=if b=a then some x else some y
    rw[Xh this]
   ·rw[show(b==c)=false by simpa using e2]
theorem mz:(fU f a x).length=if(f.lookup a).isSome then f.length else f.length+1:=by
 induction f with
 |nil=>rfl
 |cons p r ih=>
  obtain⟨c,y⟩:=p;show(cond (Nat.beq a c) ((c,x)::r) ((c,y)::fU r a x)).length=_;rw[Xk];cases e:Nat.beq a c with
  |true=>
   cases W9 e;rw[YF];rfl
  |false=>
   have:(a==c)=false:=beq_eq_false_iff_ne.mpr λz=>by rw[z,ZR]at e;exact kP e
   rw[this];show(fU r a x).length+1=_;rw[ih];show _=if(r.lookup a).isSome=true then r.length+1 else r.length+1+1
   split<;>rfl
theorem pL:(List.range 58).all (λa=>(List.range 58).all λb=>Nat.beq a b|| !(cI a==cI b))=true:=by kernel_rfl
theorem oj {a b:Nat} (ha:a<58) (hb:b<58) (h:cI a=cI b):a=b:=by
 have z:=WZ.mp (WZ.mp pL a (XG.mpr ha)) b (XG.mpr hb);rw[h,YF,Zn,Bool.or_false]at z;exact W9 z
variable {mm:Str->Option Value}
theorem FX.put {es:List DictEntry} {n':Nat} {a:Nat} {hsh:Int} {tk:Tok} (z:es.length≤f.length) (g:∀x,getL x es=some (mm x)) (r:∀a,a<58->RO τ (f.lookup a) (mm (cI a))) (q:∀x,(∀a,a<58->x≠cI a)->mm x=.none) (ha:a<58) (rv:RV τ v V):
  FX τ (dictOf (putL (cI a) hsh (.str (cI a) tk) V es) n') (fU f a v):=by
 refine(j6 _ _ rfl ?_ (jn (λx=>if x=cI a then some V else mm x) (lY _ _ _ _ es mm g) (λb h=>?_) (λx i=>?_)))
 ·rw[mz]
  split
  ·rename_i hsm
   obtain⟨k,d⟩:=Yo.mp hsm;have j:=r a ha;rw[d]at j;refine bn j λW hV Z=>?_;have c:=g (cI a);rw[hV]at c;unfold getL at c;have:(es.find? (·.key.isStr (cI a))).isSome=true:=by
    cases q2:es.find? (·.key.isStr (cI a))with
    |some _=>rfl
    |none=>rw[q2]at c;simp at c
   rw[mD this];exact z
  ·exact WX (dU ..) (Zo z 1)
 ·rw[lj]
  by_cases e:b=a
  ·subst e;show RO τ _ (if cI b=cI b then some V else mm (cI b));rw[Xn rfl,Xn rfl];exact(bv V rfl rv)
  ·show RO τ _ (if cI b=cI a then some V else mm (cI b));rw[Xh e,Xh λz=>e (oj h ha z)]
   exact r b h
 ·show(if x=cI a then some V else mm x)=none
  rw[Xh (i a ha)];exact q x i
theorem dn {q:Addr×Obj} {l:bu} (h:q∈l):∃r,(∀p∈l,p∈q::r)∧Sub (q::r) l∧∀p∈r,p∈l:=by
 refine mZ (List.append_of_mem h) λb a c=>?_;obtain rfl:=c;refine(jn (b++a) (λp hp=>?_) (λP=>?_) (λp hp=>?_))
 ·rcases W6.mp hp with hp|hp
  ·exact .tail _ (W3 _ hp)
  ·rcases WY.mp hp with rfl|hp
   ·exact .head _
   ·exact .tail _ (WW _ hp)
 ·simp only[Xa,W4,X8,XD];exact HW
 ·rcases W6.mp hp with hp|hp
  ·exact W3 _ hp
  ·exact WW _ (.tail _ hp)
variable {c:Cf w} {ns:List Str} {vs:List (Option Value)}
theorem At.chg1 {r:bu} {q:Addr×Obj} {o3:Obj} {h h':Heap} (A:At c ns vs (q::r) h) (hs:Heap.SameBut q.1 h h') (g:h'.get? q.1=some o3):At c ns vs ((q.1,o3)::r) h':=by
 refine⟨A.F.change hs (A.N _ (.head _)).2.1 (A.N _ (.head _)).2.2,λp hp=>?_,⟨A.k.nd⟩⟩;rcases WY.mp hp with rfl|hp
 ·exact⟨g,(A.N _ (.head _)).2⟩
 ·exact⟨(hs.2 _ (A.k.off p hp)).trans (A.N p (.tail _ hp)).1,(A.N p (.tail _ hp)).2⟩
theorem At.chg2 {r:bu} {x:Addr} {o o' oD:Obj} {h h':Heap} (A:At c ns vs ((x,o)::r) h) (ho:∀b o,h.get? b=some o->b≠x->h'.get? b=some o) (hx:h'.get? x=some o') (hd:h'.get? h.objs.size=some oD):At c ns vs ((x,o')::(h.objs.size,oD)::r) h':=by
 have a:∀p∈(x,o)::r,p.1<h.objs.size:=λp hp=>Xe (A.N p hp).1;have f:c.g.get? h.objs.size=none:=by
  cases q:c.g.get? h.objs.size with
  |none=>rfl
  |some o=>exact absurd (Xe (A.F.keep _ _ q)) (XX _)
 have F:=A.F;have i:=F.ns.lt;refine uB F.ns λg j l k m=>?_;refine⟨⟨uv g j l (ho _ _ k (Ne.symm (A.N _ (.head _)).2.1)) m,λb o e=>ho _ _ (F.keep b o e) (λq=>by rw[q,(A.N _ (.head _)).2.2]at e;exact cX e),F.above⟩,λp hp=>?_,⟨?_⟩⟩
 ·rcases WY.mp hp with rfl|hp
  ·exact⟨hx,(A.N _ (.head _)).2⟩
  ·rcases WY.mp hp with rfl|hp
   ·exact(eQ hd (Zc i) f)
   ·exact⟨ho _ _ (A.N p (.tail _ hp)).1 (A.k.off p hp),(A.N p (.tail _ hp)).2⟩
 ·have d:=W2.mp A.k.nd
  refine W2.mpr ⟨λq=>?_,W2.mpr ⟨λq=>?_,d.2⟩⟩
  ·rcases WY.mp q with e|e
   ·exact absurd (a _ (.head _)) (by show¬x<_;rw[show x=h.objs.size from e];exact XX _)
   ·exact d.1 e
  ·refine bn (Xb.mp q) λp hp e=>?_
   exact absurd (a p (.tail _ hp)) (by rw[e];exact XX _)
def Qg (σ:Sg) (k:Nat) (o:SO) (a:Nat) (x:SV) (K:Sg->Prop):Prop:=gA o λC f=>(qo C a=true∧f.length≤800)∧K (σ.set k (.inst C (fU f a x)))
def Jh (σ:Sg) (k:Nat) (d:Option Nat) (a:Nat) (x:SV) (K:Sg->Prop):Prop:=match d with
 |none=>K ((σ.new (.xdic [(a,x)])).set k (.excF (some σ.nx)))
 |some d=>bN σ d λo=>Dk o λf=>(f.lookup a=none∧f.length≤800)∧K (σ.set d (.xdic (fU f a x)))
def pH (σ:Sg) (v:SV) (a:Nat) (x:SV) (K:Sg->Prop):Prop:=bE v λk=>bN σ k λo=>bI (tB o) (kK o λd=>[42,43].contains a=true∧Jh σ k d a x K) (Qg σ k o a x K)
variable {G:Cw w κ} {y:SV} {Y:Value} {K:Sg->Prop} {k:Nat}
theorem OX {o:SO} (H:Hs G τ σ h) (rv:RV τ (.ref k) V) (ry:RV τ y Y) (hob:σ.ob k=some o) (p:Qg σ k o a y K) (q:∀σ τ' h t,τ.le τ'->Hs G τ' σ h->K σ->R () h t):Wp G.c (setAttr V (cI a) Y) R h t:=by
 obtain⟨v,vs,l,S⟩:=H.S;obtain⟨C,f,rfl,hr,p2⟩:=f8 p;obtain⟨E,D,rfl,hk,o0,h1,h2,h3⟩:=S.R.get rv hob;refine wI (y6 (w:=w) hr.1) λZ d B=>?_;refine jC h3 λs A b z i=>?_;obtain rfl:=b;refine ic i λJ g r I=>?_;refine gM (dO h2) λx m b U=>?_;obtain rfl:=b;unfold gi at d;rw[WU,WU,WU,Xu,Xu]at d;have j:E≠D:=λe=>by
  have n:=(S.A.N _ h1).1;rw[e,(S.A.N _ h2).1]at n;cases n
 refine bL v (set_dict S.A.F (G.O.turn S.T).X S.A.N ⟨(S.A.N _ h1).1,rfl,rfl,(S.A.N _ h2).1⟩ rfl d.1.1.1 d.1.1.2 d.1.2 d.2 (by rw[g];rfl) rfl ((U (dictOf (putL (cI a) (PyData.keyHash w.params (cI a)) (.str (cI a) (t+1)) Y s) (putN (cI a) s A))).go S.A.k) (WX (dU ..) (by omega)) λL F u=>?_);exact aJ (c:=G.c) (q _ _ _ _ Tb.le.refl ⟨H.V,⟨_,_,_,S.T,⟨F,u,S.A.k.upd ((U _).go S.A.k)⟩,S.L,S.R.chg (o:=.inst C (fU f a y)) hob hk (.inr rfl) cZ cK ⟨_,cZ _ h1 j,dz,FX.put z g r I B ry⟩⟩,H.le⟩ p2)
theorem Ci:([42,43].all λa=>c8 (HK w.params) 438 (cI a)&&Nat.blt a 58)=true:=by kernel_rfl
theorem Qs (h:[42,43].contains a=true):c8 (HK w.params) 438 (cI a)=true∧a<58:=by
 have z:=WZ.mp (Ci (w:=w)) a (XU.mp h);rw[WU,YW]at z;exact z
theorem FX.of {o':Obj} (D:cJ o' (λx=>if x=cI a then some V else mm x) (f.length+1)) (r:∀a,a<58->RO τ (f.lookup a) (mm (cI a))) (q:∀x,(∀a,a<58->x≠cI a)->mm x=.none) (hn:f.lookup a=none) (ha:a<58) (rv:RV τ v V):FX τ o' (fU f a v):=by
 refine jC D.is λh n e g z=>?_;refine(j6 h n e ?_ (jn _ g (λb c=>?_) (λx d=>?_)))
 ·rw[mz,hn];exact z
 ·rw[lj]
  by_cases e:b=a
  ·subst e;show RO τ _ (if cI b=cI b then some V else mm (cI b));rw[Xn rfl,Xn rfl];exact(bv V rfl rv)
  ·show RO τ _ (if cI b=cI a then some V else mm (cI b));rw[Xh e,Xh λz=>e (oj c ha z)]
   exact r b c
 ·show(if x=cI a then some V else mm x)=none
  rw[Xh (d a ha)];exact q x d
theorem JG {d:Option Nat} (H:Hs G τ σ h) (rv:RV τ (.ref k) V) (ry:RV τ y Y) (hob:σ.ob k=some (.excF d)) (ha:[42,43].contains a=true) (p:Jh σ k d a y K) (q:∀σ τ' h t,τ.le τ'->Hs G τ' σ h->K σ->R () h t):Wp G.c (setAttr V (cI a) Y) R h t:=by
 obtain⟨n,vs,l,S⟩:=H.S;obtain⟨T,Q⟩:=Qs (w:=w) ha;cases d with
 |none=>
  obtain⟨C,X,rfl,hk,a0,h1⟩:=S.R.get rv hob;refine ic (dn h1) λr E s W=>?_;refine bL n (JK (kE (c:=G.c.wg n) (G.O.turn S.T) S.A) (S.A.N _ h1).1 rfl rfl rfl T λi I D L v J u=>aJ (c:=G.c) ?_);have A:=W2.mp ((S.A.sub s).chg2 v J u).k.nd;have j:=W2.mp A.2;have R1:=(S.R.cong E).new1 (D:=h.objs.size) (ob:=i) (o:=.xdic [(a,y)]) ⟨W2.mpr ⟨λz=>(WY.mp z).elim (λe=>A.1 (e▸ .head _)) j.1,W2.mpr ⟨λz=>A.1 (.tail _ z),j.2⟩⟩⟩
   ⟨i,.head _,FX.of (f:=[]) (mm:=λZ=>none) D (λZ Z=>rfl) (λZ Z=>rfl) rfl Q (ry.up (S.R.le_up _))⟩
  have m:=S.R.le_up (h.objs.size,h.objs.size);refine q _ _ I _ m ⟨H.V.up m,⟨_,_,_,S.T,(S.A.sub s).chg2 v J u,S.L.up m,R1.chg (a:=C) (l':=(C,kq 438 (some h.objs.size) a0)::(h.objs.size,i)::r) (o:=.excF (some σ.nx)) (ae hob) (m _ _ hk) (.inl rfl) (λq hq F=>?_) (λz hz=>?_) (uv a0 _ _ (Xn rfl) (.head _))⟩,H.le.trans m⟩ p
  ·rcases WY.mp hq with rfl|hq
   ·exact .tail _ (.head _)
   ·rcases WY.mp hq with rfl|hq
    ·exact absurd rfl F
    ·exact .tail _ (.tail _ hq)
  ·rcases WY.mp hz with rfl|hz
   ·exact .tail _ (.head _)
   ·rcases WY.mp hz with rfl|hz
    ·exact .head _
    ·exact .tail _ (.tail _ hz)
 |some kd=>
  obtain⟨o2,b,p1⟩:=p;obtain⟨f,rfl,hf,p2⟩:=zu p1;obtain⟨C,X,rfl,hk,a0,D,e,hkd,h1⟩:=S.R.get rv hob;obtain⟨D',e',M,o,O,h3⟩:=S.R.ob _ _ b;cases hkd.symm.trans M;refine jC h3 λP N B z x=>?_;obtain rfl:=B;refine ic x λmm g r q0=>?_;refine ic (dn O) λrr E s W=>?_;refine bL n (Nc (kE (c:=G.c.wg n) (G.O.turn S.T) S.A) (S.A.N _ h1).1 rfl rfl rfl (S.A.N _ O).1 ⟨P,N,rfl,g,z⟩ (by omega) T λi I U L v u=>aJ (c:=G.c) ?_);refine q _ _ I _ Tb.le.refl ⟨H.V,⟨_,_,_,S.T,(S.A.sub s).chg1 (q:=(D,dictOf P N)) ⟨L,v⟩ u,S.L,(S.R.cong E).chg (a:=D) (l':=(D,i)::rr) (o:=.xdic (fU f a y)) b M (.inl rfl) (λq hq F=>.tail _ ((WY.mp hq).resolve_left λe=>F (e▸rfl))) (λZ z=>z) ⟨i,.head _,FX.of U r q0 hf.1 Q ry⟩⟩,H.le⟩ p2
theorem lO (H:Hs G τ σ h) (rv:RV τ v V) (ry:RV τ y Y) (m:pH σ v a y K) (q:∀σ τ' h t,τ.le τ'->Hs G τ' σ h->K σ->R () h t):Wp G.c (setAttr V (cI a) Y) R h t:=by
 obtain⟨k,rfl,o,hob,p⟩:=bh m;cases z:tB o with
 |false=>exact OX H rv ry hob (p.br.2 z) q
 |true=>
  obtain⟨d,rfl,ha,p2⟩:=jU (p.br.1 z);exact JG H rv ry hob ha p2 q
variable {x:Str}
def az (o:AE) (a:Nat) (v:AE) (r:AS):AS:=λΦ fr σ K KE=>v Φ fr σ (λy σ=>o Φ fr σ (λx σ=>pH σ x a y λσ=>r Φ fr σ K KE) KE) KE
theorem BY {ob:Expr} {attr:Str} (a:Nat) (hn:cI a=attr) (hs:∀env,κ.sc=env.scope->swapsWith e (some (.Attribute ob attr px)) pos.line env=pure false) (s:av w κ e m) (so:av w κ ob m1) (r:bq w κ rest ms):bq w κ (.Assign [.Attribute ob attr px] e pos::rest) (az m1 a m ms):=by
 subst hn;exactλG l Z Z Z Z Z Z H m q=>xa (hs _ rfl) (s (G.at l) H m λo n p A y t i c j g=>so (G.at l) j g λu v B C D x b d f h=>lO f d (c.up b) h λZ Z Z Z z H k=>r G H k (q.pre ((i.trans b).trans z)))
def i8 (i:Nat) (v:AE) (r:AS):AS:=λΦ fr σ K KE=>bX (fr.loc[i]?) λa=>bX a λa=>aR a λa=>v Φ fr σ (λy σ=>aR y λb=>(Tg.l i).put (.int (a+b)) fr σ λfr σ=>r Φ fr σ K KE) KE
theorem Kb (i:Nat) (hx:κ.ns[i]?=some x) (hc:κ.cm=none) (s:av w κ e m) (r:bq w κ rest ms):bq w κ (.AugAssign (.Name x px) .Add e pos::rest) (i8 i m ms):=by
 intro G N P U h t K Q H m q;obtain⟨o,vs,l,S⟩:=H.S;obtain⟨a,D,O,f,p⟩:=m;obtain⟨a,rfl,p⟩:=bU p;subst f;refine bn (S.L.slot hx D) λR L d=>?_;obtain⟨u,rfl⟩:=d;refine Fu (bL o (Rm (G.O.turn S.T) S.A L (qq o (s (G.at N) H p λA z B J I C j c n g=>?_))));obtain⟨b,M,F⟩:=bU g;have y:=c;rw[M]at y;obtain⟨T,E⟩:=y;rw[E];exact uj (dJ (G:=G) (tg:=.l i) hx hc n (v:=.int (a+b)) ⟨_,rfl⟩ F λZ Z Z Z H k=>r G H k (q.pre j))
def qB (o:AE) (a:Nat) (v:AE) (r:AS):AS:=λΦ fr σ K KE=>o Φ fr σ (λx σ=>DK σ x a λold=>aR old λi=>v Φ fr σ (λy σ=>aR y λj=>pH σ x a (.int (i+j)) λσ=>r Φ fr σ K KE) KE) KE
theorem AM {ob:Expr} {attr:Str} (a:Nat) (hn:cI a=attr) (s:av w κ e m) (so:av w κ ob m1) (r:bq w κ rest ms):bq w κ (.AugAssign (.Attribute ob attr px) .Add e pos::rest) (qB m1 a m ms):=by
 subst hn;intro G x V Y h t K Q H m q;refine Ga (so (G.at x) H m λD I R S T L n b c l=>k9 c b l λU W A p=>?_);obtain⟨i,rfl,p⟩:=bU p;obtain⟨u,rfl⟩:=A;refine s (G.at x) c p λB z C P M E d f o g=>?_;obtain⟨j,O,J⟩:=bU g;have v:=f;rw[O]at v;obtain⟨X,F⟩:=v;rw[F];exact uj (lO o (b.up d) (y:=.int (i+j)) ⟨_,rfl⟩ J λZ Z Z Z N H k=>r G H k (q.pre ((n.trans d).trans N)))
variable {G:Cs w κ}
end
section
variable {w:World} {κ:Ek} {e e1 e2 e3:Expr} {es:List Expr} {m m1 m2 m3:AE} {ml:AL} {ms ms1 ms2:AS} {pos px apos:Pos} {x:Str} {rest body:List Stmt} {G:Cs w κ} {fr:cf} {τ:Tb} {σ:Sg} {h:Heap} {t:Nat}
inductive lX (κ:Ek):List Expr->List Tg->Prop
 |nil:lX κ [] []
 |cons {x p es i is} (hx:Tg.is κ x i) (r:lX κ es is):lX κ (.Name x p::es) (i::is)
def Bo (vs:List SV) (K:SV->List SV->Prop):Prop:=match vs with
 |v::vs=>K v vs
 |[]=>False
noncomputable def kR:List Tg->List SV->cf->Sg->(cf->Sg->Prop)->Prop
 |[],_,fr,σ,K=>K fr σ
 |i::is,vs,fr,σ,K=>Bo vs λv vs=>i.put v fr σ λfr σ=>kR is vs fr σ K
def jD (σ:Sg) (v:SV) (n:Nat) (K:List SV->Prop):Prop:=bE v λk=>bN σ k λo=>iz o λxs=>Nat.beq xs.length n=true∧K xs
def gF (is:List Tg) (a:AE) (r:AS):AS:=λΦ fr σ K KE=>a Φ fr σ (λv σ=>jD σ v is.length λxs=>kR is xs fr σ λfr σ=>r Φ fr σ K KE) KE
variable {is:List Tg}
theorem gt {env:Env} (h:lX κ es is):(assignEach es env).length=is.length∧(assignEach es env).findIdx? (·.1)=none:=by
 induction h with
 |nil=>exact⟨rfl,rfl⟩
 | @cons x p es i is hx r ih=>
  have e:assignEach (.Name x p::es) env=(false,assign (.Name x p) env)::assignEach es env:=rfl;rw[e];refine⟨by rw[Yc,Yc,ih.1],?_⟩;rw[List.findIdx?_cons,ih.2];rfl
theorem jz {R:Unit->Heap->Nat->Prop} {K:cf->Sg->Prop} (hc:κ.cm=none) (hn:lX κ es is):∀{xs:List SV} {Vs:List Value} {fr:cf} {σ:Sg} {h:Heap} {t:Nat},xs.length=is.length->bZ τ xs Vs->kR is xs fr σ K->
  Hs (G.at fr) τ σ h->(∀fr σ h t,Hs (G.at fr) τ σ h->K fr σ->R () h t)->Wp G.c (assignInOrder ((assignEach es (G.c.ev κ.sc)).map (·.2)) Vs) R h t:=by
 induction hn with
 |nil=>
  intro xs Vs fr σ h t b r e H q;cases xs with
  |nil=>obtain rfl:=r;exact yy (q _ _ _ _ H e)
  |cons=>cases b
 |cons hx r ih=>
  intro xs Vs fr σ h t b a e H q;cases xs with
  |nil=>exact e.elim
  |cons x xs=>
   obtain⟨V,Ws,rfl,rv,a⟩:=a;exact rP rfl (nK (dJ (K:=λfr σ=>kR _ xs fr σ K) hx hc H rv e λZ Z Z Z H k=>ih (ZC b) a k H q))
variable {n:Nat} {v:SV} {V:Value}
theorem i5 {K:List SV->Prop} {P:Prop} (H:Hs (G.at fr) τ σ h) (rv:RV τ v V) (m:jD σ v n K) (q:∀a xs Vs,V=.ref a->bZ τ xs Vs->xs.length=n->K xs->∀g' vs l,oJ G.c κ.ns fr σ τ G.X h g' vs l->(a,cR Vs)∈l->P):P:=by
 obtain⟨g',vs,l,S⟩:=H.S;obtain⟨k,rfl,o,hob,m⟩:=bh m;obtain⟨xs,rfl,m⟩:=iu m;obtain⟨b,c,rfl,hk,Vs,h1,h2⟩:=S.R.get rv hob;exact q _ _ _ rfl h2 (W9 m.1) m.2 _ _ _ S h1
variable {kt:Nat} {tpos:Pos}
theorem KL (hn:lX κ es is) (hc:κ.cm=none) (hs:∀env,κ.sc=env.scope->swapsWithSole [.Tuple es kt tpos] e pos.line env=pure false) (hw:∀env,κ.sc=env.scope->swappedStores [.Tuple es kt tpos] e env=pure none) (s:av w κ e m) (r:bq w κ rest ms):
  bq w κ (.Assign [.Tuple es kt tpos] e pos::rest) (gF is m ms):=λG x Z Z Z Z Z Z H m q=>
 tw (hs _ rfl) (hw _ rfl) (s (G.at x) H m λu o t z j l c f a d=>i5 (G:=G) a f d λF B A v i h p g C D b y=>by
  rw[v];exact bL g (tR (G.O.turn b.T) b.A (In.at_ y) ((gt (env:=G.c.ev κ.sc) hn).1.trans (h.symm.trans i.len.symm)) (gt (env:=G.c.ev κ.sc) hn).2 λE n=>qq g (jz (G:=G) hc hn h i p ⟨a.V,⟨_,_,_,b.T,n,b.L,b.R⟩,a.le⟩ λZ Z Z Z H k=>r G H k (q.pre c))))
def cT (is:List Tg) (a:AE) (r:AS):AS:=λΦ fr σ K KE=>a Φ fr σ (λv σ=>jD σ v is.length λxs=>kR is.reverse xs.reverse fr σ λfr σ=>r Φ fr σ K KE) KE
variable {xs:List SV} {Vs:List Value}
theorem bZ.two (r:bZ τ xs Vs) (n:xs.length=2):∃a b A B,xs=[a,b]∧Vs=[A,B]∧RV τ a A∧RV τ b B:=by
 rcases xs with _|⟨a,_|⟨b,_|⟨c,xs⟩⟩⟩<;>try cases n
 obtain⟨A,_,rfl,h1,B,_,rfl,h2,r⟩:=r;obtain rfl:=r;exact(H6 a b A B rfl rfl h1 h2)
theorem bZ.three (r:bZ τ xs Vs) (n:xs.length=3):∃a b c A B C,xs=[a,b,c]∧Vs=[A,B,C]∧RV τ a A∧RV τ b B∧RV τ c C:=by
 rcases xs with _|⟨a,_|⟨b,_|⟨c,_|⟨d,xs⟩⟩⟩⟩<;>try cases n
 obtain⟨A,_,rfl,h1,B,_,rfl,h2,C,_,rfl,h3,r⟩:=r;obtain rfl:=r;exact(I65 a b c A B C rfl rfl h1 h2 h3)
theorem wM {tpos p1 p2:Pos} {n1 n2:Str} {i1 i2:Tg} (h1:i1.is κ n1) (h2:i2.is κ n2) (hc:κ.cm=none) (hs:∀env,κ.sc=env.scope->swapsWithSole [.Tuple [.Name n1 p1,.Name n2 p2] kt tpos] e pos.line env=pure false)
  (hw:∀env,κ.sc=env.scope->swappedStores [.Tuple [.Name n1 p1,.Name n2 p2] kt tpos] e env=pure (some [n1,n2])) (s:av w κ e m) (r:bq w κ rest ms):bq w κ (.Assign [.Tuple [.Name n1 p1,.Name n2 p2] kt tpos] e pos::rest) (cT [i1,i2] m ms):=λG b Z Z Z Z K Z H m q=>
 FO (hs _ rfl) (hw _ rfl) (s (G.at b) H m λA d z I n o f i a g=>i5 (G:=G) a i g λP L J B C u v j M N c F=>by
  refine E44 (C.two u) λx y X Y D l E p=>?_;have k:=v;rw[D]at k;have k:i2.put y b d λb h=>i1.put x b h λb h=>ms G.Φ b h K G.KE:=k;rw[B];exact bL j (se (G.O.turn c.T) c.A (In.at_ F) (by rw[l];rfl) λO t=>by
   rw[l];exact Eg (qq j (dJ (G:=G) h2 hc ⟨a.V,⟨_,_,_,c.T,t,c.L,c.R⟩,a.le⟩ p k λZ Z Z Z H k=>dJ (G:=G) h1 hc H E k λZ Z Z Z H k=>r G H k (q.pre f))))
  )
theorem uX {tpos p1 p2 p3:Pos} {n1 n2 n3:Str} {i1 i2 i3:Tg} (k1:i1.is κ n1) (k2:i2.is κ n2) (k3:i3.is κ n3) (hc:κ.cm=none) (hs:∀env,κ.sc=env.scope->swapsWithSole [.Tuple [.Name n1 p1,.Name n2 p2,.Name n3 p3] kt tpos] e pos.line env=pure false)
  (hw:∀env,κ.sc=env.scope->swappedStores [.Tuple [.Name n1 p1,.Name n2 p2,.Name n3 p3] kt tpos] e env=pure (some [n1,n2,n3])) (s:av w κ e m) (r:bq w κ rest ms):bq w κ (.Assign [.Tuple [.Name n1 p1,.Name n2 p2,.Name n3 p3] kt tpos] e pos::rest) (cT [i1,i2,i3] m ms):=λG a Z Z Z Z K Z H m q=>
 vP (hs _ rfl) (hw _ rfl) (s (G.at a) H m λC f B L n o g i b h=>i5 (G:=G) b i h λR N M D E z A j O P c J=>by
  refine E65 (E.three z) λx y u X Y U F l I p v=>?_;have k:=A;rw[F]at k;have k:i3.put u a f λa d=>i2.put y a d λa d=>i1.put x a d λa d=>ms G.Φ a d K G.KE:=k;rw[D];exact bL j (se (G.O.turn c.T) c.A (In.at_ J) (by rw[l];rfl) λQ t=>by
   rw[l];exact Ej (qq j (dJ (G:=G) k3 hc ⟨b.V,⟨_,_,_,c.T,t,c.L,c.R⟩,b.le⟩ v k λZ Z Z Z H k=>dJ (G:=G) k2 hc H p k λZ Z Z Z H k=>dJ (G:=G) k1 hc H I k λZ Z Z Z H k=>r G H k (q.pre g))))
  )
variable {X:Xs} {k:Nat}
theorem aA.ex {σ0:Sg} {pre post:bu} {so o:SO} {e d:Addr} {ob oe:Obj} (R:aA w τ σ0 X (pre++(e,ob)::post)) (ht:τ k=some (e,d)) (hs:σ0.ob k=some so):aA w τ ((σ0.set k o).del k) X ((e,oe)::(pre++post)):=by
 have l:∀q∈pre++(e,ob)::post,q.1≠e->q∈(e,oe)::(pre++post):=λq hq f=>by
  rcases W6.mp hq with hq|hq
  ·exact .tail _ (W3 _ hq)
  ·rcases WY.mp hq with rfl|hq
   ·exact absurd rfl f
   ·exact .tail _ (WW _ hq)
 have i:∀z,z∈(pre++(e,ob)::post).map (·.1)->z∈((e,oe)::(pre++post)).map (·.1):=λz h=>by
  rw[Xa,W4]at h;rw[W4,Xa];rcases W6.mp h with h|h
  ·exact .tail _ (W3 _ h)
  ·rcases WY.mp h with rfl|h
   ·exact .head _
   ·exact .tail _ (WW _ h)
 have b:∀a c,((σ0.set k o).del k).ob a=some c->a≠k∧σ0.ob a=some c:=λa c h=>by
  by_cases z:a=k
  ·subst z;rw[BF]at h;exact cX h
  ·rw[gy z,au z]at h;exact⟨z,h⟩
 refine⟨R.nx,λa c h=>?_,R.dj,R.nz.imp λz j=>⟨i _ j.1,j.2⟩,λk p h=>⟨i _ (R.inl k p h).1,i _ (R.inl k p h).2⟩,λq hq=>l q (R.X1 q hq) ?_,λa c p h t=>R.X2 a c p (b _ _ h).2 t,R.X3⟩
 ·obtain⟨f,h⟩:=b _ _ h
  obtain⟨r,n,g,s⟩:=R.ob _ _ h;refine⟨r,n,g,s.go Tb.le.refl λq hq hx=>l q hq λm=>?_⟩;rcases hx with hx|hx<;>rw[m]at hx
  ·exact(R.dj _ _ _ _ g ht f).1 hx.symm
  ·exact(R.dj _ _ _ _ g ht f).2.2.1 hx.symm
 ·rcases W6.mp hq with hq|hq
  ·exact(R.X2 _ _ _ hs ht q hq).1
  ·exact(R.X3 _ _ ht q hq).1
variable {c:Cf w} {E:Value->Shared->Prop}
theorem nA {e:Addr} {Q:Unit->Shared->Prop} (O:Ok c n κ.sc κ.ns) (fl:AP c κ fr k σ τ X e h)
  (q:∀h',GN w (eA c.outer) c.g k σ τ X e h'->Q () ⟨h',c.gn,c.d,t,c.os⟩):wpAny (model PP w) c.A (leaving (c.ev κ.sc) (.ref e)) Q E ⟨h,c.gn,c.d,t,c.os⟩:=by
 cases fl with
 | @fresh g' vs l kd D y z a σ0 S f b m h1 hσ=>
  refine gM (dO h1) λg d j U=>?_;obtain rfl:=j;have r:At (c.wg g') κ.ns vs ((e,kq 438 (some D) a)::(g++d)) h:=S.A.sub λP=>by
   simp only[Xa,W4,X8,XD];exact HW
  refine Bi (c:=c.wg g') (O.turn S.T) r λh' i=>q h' ?_;subst hσ;exact(V5 kd D y z _ f (aE b) m (λq p=>S.R.X2 _ _ _ b f q p) (λs=>S.R.ex f b) (i.turn S.T))
 | @call g' vs l0 h0 T H L fq=>
  refine MV fq λkd D y z l f b m o R x=>?_;exact FY (c:=c.wg g') (O.turn T) H x λh' i=>q h' (V5 kd D y z l f b m o R (i.turn T))
def bp (K:KV):ft:=λf Z σ=>match f with
 |.ret v=>K v σ
 |.next=>K .none σ
 |_=>False
def bo (k:Nat) (dfl:List SV) (r:Nat) (m:AS):(Nat->eL)->List SV->Sg->KV->KX->Prop:=λΦ args σ K KE=>(Nat.beq args.length k)=true∧m Φ ⟨args.map some++(dfl.map some++List.replicate r none),[],[]⟩ σ (bp K) KE
theorem gU.app {v':List (Option SV)} {V':List (Option Value)} (r':gU τ v' V') {v:List SV}:∀{V:List Value},bZ τ v V->gU τ (v.map some++v') (V.map some++V'):=by
 induction v with
 |nil=>intro V r;obtain rfl:=r;exact r'
 |cons a v ih=>rintro V ⟨A,B,rfl,h,r⟩;exact⟨some A,_,rfl,bv A rfl h,ih r⟩
theorem gU.rep {r:Nat}:gU τ (List.replicate r none) (List.replicate r none):=by
 induction r with
 |zero=>exact rfl
 |succ r ih=>exact⟨_,_,rfl,rfl,ih⟩
variable {K:KV} {Q:Value->Heap->Nat->Prop}
set_option tactic.hygienic true in
theorem qu {q:Cf w} (hG:G.c=c) (hX:G.X=X) (hcg:c.g=q.g) (hco:c.outer=q.outer) (link:∀v σ τ' V h t g1 l,τ.le τ'->RV τ' v V->KtsTurn (eA q.outer) q.g g1->Ex g1 l h->aA w τ' σ X l->K v σ->Q V h t):QS G τ (bp K) λF h t=>Q (fZ F) h t:=by
 subst hG hX;intro f n b a F k o m j H1 d;obtain⟨g,vs,i,S⟩:=H1.S;have T:=S.T;rw[show(G.at n).c.outer=q.outer from hco,show(G.at n).c.g=q.g from hcg]at T;cases f
 case next=>obtain rfl:=j;exact link .none b a .none k o g i m rfl T (ly S.A.F S.A.N S.A.k) S.R d
 case cont=>exact d.elim
 case brk=>exact d.elim
 case ret v=>refine bn j λV e p=>?_;obtain rfl:=e;exact link v b a V k o g i m p T (ly S.A.F S.A.N S.A.k) S.R d
variable {name qual:Str}
theorem Py {f:Addr} {Φ:Nat->eL} {m:AS} {k r:Nat} {dfl:List SV} {dV:List Value} {params:Arguments} {dVl kV doc pm cdv ct oc:Value} {an od:Option Addr} {osl:Array (Option Value)}
  (hcd0:κ.cd=cdv) (hqn0:κ.qn=qual) (hcm:κ.cm=none) (hcn:κ.cn=[]) (ho:(HK w.params).lookup f=some ⟨oc,od,.func (fnOf name qual params body κ.sc dVl kV doc pm an cdv ct),osl⟩)
  (hc:(iC (HK w.params) κ.sc κ.ns cdv qual&&(κ.sc.names.all λx=> !(x.2== .cell)))=true) (hd:∀τ,bZ τ dfl dV)
  (hb:∀(s:Shared) (avs:List Value),(HK w.params).In s.heap->avs.length=k->BindsTo s (fnOf name qual params body κ.sc dVl kV doc pm an cdv ct) ⟨avs,[]⟩ (bB κ.ns (avs.map some++(dV.map some++List.replicate r none))))
  (hm:bq w κ body m) (P:ar w Φ n):aM w (n+1) (bo k dfl r m Φ) (.ref f):=by
 intro q Q h t τ U X l a avs K J H C R B m E j;have g:avs.length=k:=B.len.trans (W9 m.1);refine lR κ.ns (avs.map some++(dV.map some++List.replicate r none)) H C ho hc (hb _ avs (show(HK w.params).In h from Cx.xs C) g) ?_;intro c d b y o z u O T N L;exact hm ⟨c,Φ,n,τ,X,J,P,⟨O,y.trans hcd0.symm,o.trans hqn0.symm⟩,λfr k A v e S I G F p=>z _ _ _ (nA O p λM D=>u _ _ _ (E k A v e M I G F (by rw[d,b]at D;exact D)))⟩ (fr:=⟨a.map some++(dfl.map some++List.replicate r none),[],[]⟩)
  ⟨.fn hcm (λi x h=>by rw[hcn]at h;exact cX h:gC c κ ⟨a.map some++(dfl.map some++List.replicate r none),[],[]⟩ τ),⟨c.g,_,l,.refl,L,(gU.app gU.rep (hd τ)).app B,R⟩,Tb.le.refl⟩ m.2 (qu rfl rfl d b j)
variable {G:Cw w κ}
def eF (C fI:Addr) (ml:AL):AE:=λΦ fr σ K KE=>ml Φ fr σ (λvs σ=>Φ 1 fI (.ref σ.nx::vs) (σ.new (.inst C [])) (λv σ'=>v=.none∧K (.ref σ.nx) σ') KE) KE
theorem B6:FX τ (dictOf [] 0) []:=(j6 ([]) 0 rfl (Xy _) (jn (λZ=>none) (λZ=>rfl) (λZ Z=>rfl) (λZ Z=>rfl)))
variable {C fI:Addr}
theorem MN {vs:List SV} (H:Hs G τ σ h) (ra:bZ τ vs Vs)
  (hf:Nat.blt fI 10000=true) (hi:findIn (HK w.params) (.ref C) "__init__"=some (some (.ref fI))) (hm:(makesIn (HK w.params) C&&isFn (HK w.params) (.ref fI))=true) (m:G.Φ 1 fI (.ref σ.nx::vs) (σ.new (.inst C [])) (λv σ'=>v=.none∧K (.ref σ.nx) σ') G.KE)
  (q:QE G τ K Q):Wp G.c (call (.ref C) Vs) Q h t:=by
 obtain⟨i,ws,l,S⟩:=H.S;have N:1≤G.n:=by
  rcases Nat.eq_zero_or_pos G.n with h|h
  ·exact absurd m (G.P.no _ _ _ _ _ _ (by rw[h];decide))
  ·exact h
 obtain⟨Y,en⟩:∃Y,G.n=Y+1:=⟨G.n - 1,by exact Z46 N⟩;have O:=G.O.turn S.T;have L:=G.P.ok 1 N fI hf;rw[en]at O L;refine mZ (Ye S.R.ne) λb r J=>?_;obtain rfl:=J;refine bL i ?_;refine P5 (b:=b) (W:=[]) (T:=[]) (R:=r) S.A.F O.X S.A.N S.A.k hi hm λx a B F' N' K'=>?_;have p:At (G.c.wg i) κ.ns ws ([(x,instObj C a),(a,dictOf [] 0)]++(b::r)) B:=At.sub (l:=Lg b [] [] ((x,instObj C a)::(a,dictOf [] 0)::r)) ⟨F',N',K'⟩ λP=>by
  simp only[Lg,Xa,W4,ZS,X8,XD,Z9];exact Y72
 have U:=p.k.nd;rw[Xa,YS]at U;have s:∀z,z∈[(x,instObj C a),(a,dictOf [] 0)].map (·.1)->z∉(b::r).map (·.1):=λz hz F=>U.2.2 z hz z F rfl;have j:=S.R.le_up (x,a);have z:Co {G.c.wg i with A0:=(G.c.wg i).A.under (.builtin "type.__call__" ⟨.ref C::Vs,[]⟩),outer:=(G.c.wg i).ev κ.sc::(G.c.wg i).outer,g:=hideAll B (([(x,instObj C a),(a,dictOf [] 0)]++(b::r)).map (·.1))} (.ref fI) (.ref x::Vs) (λV D E=>V=.none∧Q (.ref x) D E) B t:=
  L _ _ B t (τ.up σ.nx (x,a)) (σ.new (.inst C [])) G.X _ (.ref σ.nx::vs) (.ref x::Vs) _ G.KE (O.rm.make (Xy _)) (zj (C:=C) (vals:=Vs) (kw:=[]) O.XB O.TB O.B p.F p.N p.k O.G) (S.R.new (x:=x) (d:=a) (n:=[(x,instObj C a),(a,dictOf [] 0)]) (o:=.inst C []) (s x (.head _)) (s a (.tail _ (.head _))) (.head _) (.tail _ (.head _)) ⟨_,.head _,.tail _ (.head _),B6⟩) ⟨_,_,rfl,⟨x,a,rfl,Xn rfl⟩,ra.up j⟩ m
   (λk A u e M X f ke fl=>G.E _ _ _ _ _ _ ((H.le.trans j).trans f) ke (.call S.T p (S.L.up (j.trans f)) fl))
   λv A u V M X g1 l1 f rv kt ex R1 I=>by
    obtain⟨rfl,I⟩:=I;obtain rfl:=rv;refine ic (Ho O p kt ex) λg2 T2 O2 A2=>?_;exact⟨rfl,q (.ref σ.nx) A u (.ref x) M X (j.trans f) ⟨_,_,rfl,f _ _ (Xn rfl)⟩ (H.go (j.trans f) ⟨S.T.trans T2,A2,S.L.up (j.trans f),R1⟩) I⟩
 refine YZ z λr s' y=>?_;rcases r with e|(v|_|_|_)
 ·exact y
 ·exact y
 ·exact y
 ·exact y
 ·obtain⟨h2,t2,rfl,rfl,y⟩:=y
  exact⟨rfl,aJ (c:=G.c) y⟩
theorem Uc (hf:Nat.blt fI 10000=true) (ev:nsIn (HK w.params) mainGlobals x=some (some (.ref C))) (hx:bz κ x=true) (hk:(keepIn (HK w.params) (.ref C)&&(e::es).all bj)=true) (hi:findIn (HK w.params) (.ref C) "__init__"=some (some (.ref fI))) (hm:(makesIn (HK w.params) C&&isFn (HK w.params) (.ref fI))=true)
  (s:eu w κ (e::es) ml):av w κ (.Call (.Name x px) (e::es) [] pos) (eF C fI ml):=by
 intro G r u h t K Q H m q;obtain⟨b,p,l,S⟩:=H.S;exact bL b (BA (G.O.turn S.T) S.A ev (by rw[WU];exact⟨bV H.V hx,hk⟩) ei (yS b (s G H m λn j k o g i c f a d=>HE b a (MN a f hf hi hm d (q.pre c)))))
theorem uC {C f:Addr} (hf0:Nat.blt f 10000=true) (hb:∀env y,attributeBase (.Name x px) name env y=y) (ev:nsIn (HK w.params) mainGlobals x=some (some (.ref C))) (hx:bz κ x=true) (hk:(keepIn (HK w.params) (.ref f)&&(e::es).all bj)=true) (hl:(Nat.blt (e::es).length 30&&(apos.endLine==pos.line))=true)
  (hf:findCls (HK w.params) (.ref C) (.type "type") name=some (.val (.ref f)))
  (cc:(specialIn (HK w.params) (.ref C) "__getattribute__"==some (some (.builtin "type.__getattribute__"))&&typeIn (HK w.params) (.ref C)==some (.type "type")&&readsIn (HK w.params) C (.type "type")&&handedIn (.ref f))=true) (s:eu w κ (e::es) ml):
  av w κ (.Call (.Attribute (.Name x px) name apos) (e::es) [] pos) (ag f ml):=by
 intro G u z h t K Q H m q;obtain⟨b,r,l,S⟩:=H.S;rw[WU]at hk;exact bL b (ia hb hk.2 hl λv=>sJ (G.O.turn S.T) S.A ev (bV H.V hx) (DN (G.O.turn S.T) S.A hf cc (vK (G.O.turn S.T) (by rw[WU];exact hk) (yS b (s G H m λo k n p i j c g a d=>HE b a (lK hf0 a g d (q.pre c)))))))
abbrev df:=List SV->Sg->KV->Prop
def eT (w:World) (f:Value) (sem:df):Prop:=∀{κ:Ek} (G:Cw w κ) {τ:Tb} {σ:Sg} {h:Heap} {t:Nat} {K:KV} {vs:List SV} {Vs:List Value} {Q:Value->Heap->Nat->Prop},
 Hs G τ σ h->bZ τ vs Vs->sem vs σ K->QE G τ K Q->Wp G.c (call f Vs) Q h t
def bH (sem:df) (ml:AL):AE:=λΦ fr σ K KE=>ml Φ fr σ (λvs σ=>sem vs σ K) KE
variable {id:String} {sem:df}
theorem pY (hB:eT w (.builtin id) sem) (ev:nsIn (HK w.params) mainGlobals x=some none) (hv:bootBuiltins x=some (.builtin id)) (hx:bz κ x=true) (hk:(e::es).all bj=true) (s:eu w κ (e::es) ml):av w κ (.Call (.Name x px) (e::es) [] pos) (bH sem ml):=by
 intro G r u h t K Q H m q;obtain⟨a,p,l,S⟩:=H.S;exact bL a (WA (G.O.turn S.T) S.A ev hv (by rw[WU];exact⟨bV H.V hx,hk⟩) ei (yS a (s G H m λn j k o g i c f b d=>qq a (hB G b f d (q.pre c)))))
theorem Sd (hB:eT w (.type id) sem) (ev:nsIn (HK w.params) mainGlobals x=some none) (hv:bootBuiltins x=some (.type id)) (hx:bz κ x=true) (hk:(e::es).all bj=true) (s:eu w κ (e::es) ml):av w κ (.Call (.Name x px) (e::es) [] pos) (bH sem ml):=by
 intro G r u h t K Q H m q;obtain⟨a,p,l,S⟩:=H.S;exact bL a (UL (G.O.turn S.T) S.A ev hv (by rw[WU];exact⟨bV H.V hx,hk⟩) ei (yS a (s G H m λn j k o g i c f b d=>qq a (hB G b f d (q.pre c)))))
def mH (i:Nat):AE:=λZ Z σ K Z=>K (.ty i) σ
theorem Af (i:Nat) (ev:nsIn (HK w.params) mainGlobals x=some none) (hv:bootBuiltins x=some (.type (Hn i))) (hx:bz κ x=true):av w κ (.Name x pos) (mH i):=by
 intro G d b h t K Q H m q;obtain⟨a,c,l,S⟩:=H.S;exact bL a (wA (G.O.turn S.T) S.A ev hv (bV H.V hx) (H.re (v:=.ty i) rfl m q _))
noncomputable def dR:List Addr:=[40,62,82,120,140,181,228]
noncomputable def IC (C D:Addr):Option Bool:=cond (dR.contains C&&(dR.contains D&& !(Nat.beq D 40))) (some (Nat.beq C D)) none
theorem Bw:(dR.all λC=>dR.all λD=>Nat.beq D 40||cond (Nat.beq C D) (isIn (HK w.params) (.ref C) C) (kin_not (HK w.params) C D&&fJ (HK w.params) C))=true:=by kernel_rfl
theorem k8:(dR.all λC=>(isNotIn (HK w.params) "int" C&&(isNotIn (HK w.params) "str" C&&(isNotIn (HK w.params) "bool" C&&isNotIn (HK w.params) "NoneType" C)))&&[0,1,2].all λs=>kin_notT (HK w.params) C (Hn s)&&fJ (HK w.params) C)=true:=by kernel_rfl
variable {D:Addr}
theorem TZ {b:Bool} (h:IC C D=some b):b=Nat.beq C D∧cond (Nat.beq C D) (isIn (HK w.params) (.ref C) C) (kin_not (HK w.params) C D&&fJ (HK w.params) C)=true:=by
 unfold IC at h;cases hc:dR.contains C&&(dR.contains D&& !(Nat.beq D 40))with
 |false=>rw[hc]at h;exact cX h
 |true=>
  rw[hc]at h;rw[WU,WU,Xj]at hc;have z:=WZ.mp (WZ.mp (Bw (w:=w)) C (XU.mp hc.1)) D (XU.mp hc.2.1);rw[hc.2.2,Bool.false_or]at z;exact⟨(W7 h).symm,z⟩
theorem xF (h:dR.contains D=true):(isNotIn (HK w.params) "int" D&&(isNotIn (HK w.params) "str" D&&(isNotIn (HK w.params) "bool" D&&isNotIn (HK w.params) "NoneType" D)))=true:=(WU _ _▸WZ.mp (k8 (w:=w)) D (XU.mp h)).1
variable {s:Nat}
theorem GI (h:dR.contains D=true) (hs:s∈[0,1,2]):(kin_notT (HK w.params) D (Hn s)&&fJ (HK w.params) D)=true:=WZ.mp (WU _ _▸WZ.mp (k8 (w:=w)) D (XU.mp h)).2 s hs
theorem tyT (h:s∈[0,1,2]):typeOf (.type (Hn s))=pure (.type "type"):=by
 have:s=0∨s=1∨s=2:=by simpa using h
 rcases this with rfl|rfl|rfl<;>rfl
def KO (c:SV) (K:Nat->Prop):Prop:=match c with
 |.ty s=>K s
 |_=>False
variable {x:SV}
theorem Je {K:Nat->Prop} (h:KO x K):∃i,x=.ty i∧K i:=by cases x<;>first|exact(bv _ rfl h)|exact h.elim
noncomputable def Tt (x:SV) (s:Nat):Bool:=match x with
 |.int _=>Nat.beq s 1
 |.str _=>Nat.beq s 2
 |.bool _=>Nat.blt s 2
 |_=>false
def tE (σ:Sg) (x:SV) (D:Addr) (K:Bool->Prop):Prop:=bI (Nat.beq (kd x) 4) (bE x λk=>bN σ k λo=>gA o λC Z=>bX (IC C D) K) ((Nat.blt (kd x) 4=true∧dR.contains D=true)∧K false)
@[irreducible] noncomputable def nq (σ:Sg) (x:SV) (s:Nat) (K:Bool->Prop):Prop:=bI (Nat.beq (kd x) 4) (bE x λk=>bN σ k λo=>gA o λC Z=>dR.contains C=true∧K false) (Nat.blt (kd x) 4=true∧K (Tt x s))
def bt:df:=λvs σ K=>two vs λx c=>bI (Nat.beq (kd c) 5) (gB c λD=>tE σ x D λb=>K (.bool b) σ) (KO c λs=>s∈[0,1,2]∧nq σ x s λb=>K (.bool b) σ)
variable {A:Value}
theorem ve {K:Bool->Prop} (H:Hs G τ σ h) (ra:RV τ x A) (m:tE σ x D K) (q:∀b t,K b->Q (.bool b) h t):Wp G.c (call (.builtin "isinstance") [A,.ref D]) Q h t:=by
 obtain⟨a,g,l,S⟩:=H.S;have O:=G.O.turn S.T;cases z:Nat.beq (kd x) 4 with
 |true=>
  obtain⟨k,rfl,o,hob,p1⟩:=bh (m.br.1 z);obtain⟨C,f,rfl,b,hb,p⟩:=f8 p1;obtain⟨y,d,rfl,hk,o,g1,g2,g3⟩:=S.R.get ra hob;obtain⟨rfl,z⟩:=TZ (w:=w) hb;cases hcd:Nat.beq C D with
  |true=>
   rw[hcd]at z p;cases W9 hcd;exact bL a (Sm O S.A (In.at_ g1) (In.at_ g2) z (q _ _ p))
  |false=>
   rw[hcd]at z p;exact bL a (Th O S.A (In.at_ g1) (In.at_ g2) z (q _ _ p))
 |false=>
  obtain⟨⟨e,c⟩,p⟩:=m.br.2 z;have y:=xF (w:=w) c;rw[WU,WU,WU]at y;cases x
  case none=>cases ra;exact bL a (sP O S.A y.2.2.2 (q _ _ p))
  case bool=>obtain rfl:=ra;exact bL a (ub O S.A y.2.2.1 (q _ _ p))
  case int=>obtain⟨u,rfl⟩:=ra;exact bL a (uF O S.A y.1 (q _ _ p))
  case str=>obtain⟨u,rfl⟩:=ra;exact bL a (wr O S.A y.2.1 (q _ _ p))
  all_goals exact cp e
theorem vy (hs:s∈[0,1,2]) {K:Bool->Prop} (H:Hs G τ σ h) (ra:RV τ x A) (m:nq σ x s K) (q:∀b t,K b->Q (.bool b) h t):Wp G.c (call (.builtin "isinstance") [A,.type (Hn s)]) Q h t:=by
 unfold nq at m;obtain⟨a,e,l,S⟩:=H.S;cases z:Nat.beq (kd x) 4 with
 |true=>
  obtain⟨k,rfl,o,hob,p1⟩:=bh (m.br.1 z);obtain⟨C,f,rfl,hC,p⟩:=f8 p1;obtain⟨y,d,rfl,hk,o,g1,g2,g3⟩:=S.R.get ra hob;exact bL a (Fa (G.O.turn S.T) S.A (In.at_ g1) (In.at_ g2) (tyT hs) (GI (w:=w) hC hs) (q _ _ p))
 |false=>
  obtain⟨c,p⟩:=m.br.2 z;cases x
  case none=>cases ra;rcases hs with _|⟨_,_|⟨_,_|⟨_,h⟩⟩⟩;exact LM (q _ _ p);exact JL (q _ _ p);exact VG (q _ _ p);exact nomatch h
  case bool=>cases ra;rcases hs with _|⟨_,_|⟨_,_|⟨_,h⟩⟩⟩;exact Uo (q _ _ p);exact Sx (q _ _ p);exact SW (q _ _ p);exact nomatch h
  case int=>obtain⟨u,rfl⟩:=ra;rcases hs with _|⟨_,_|⟨_,_|⟨_,h⟩⟩⟩;exact Vf (q _ _ p);exact Jw (q _ _ p);exact IR (q _ _ p);exact nomatch h
  case str=>obtain⟨u,rfl⟩:=ra;rcases hs with _|⟨_,_|⟨_,_|⟨_,h⟩⟩⟩;exact P0 (q _ _ p);exact KZ (q _ _ p);exact Uj (q _ _ p);exact nomatch h
  all_goals exact cp c
theorem AU:eT w (.builtin "isinstance") bt:=by
 intro j G i f h t K vs g Q H r m q;obtain⟨x,c,A,B,rfl,ra,rb,m⟩:=jP m r;have a:∀b t,K (.bool b) f->Q (.bool b) h t:=λb t k=>H.re (v:=.bool b) rfl k q _;cases z:Nat.beq (kd c) 5 with
 |true=>
  obtain⟨D,rfl,p⟩:=gf (m.br.1 z);obtain rfl:=rb;exact ve H ra p a
 |false=>
  refine ic (Je (m.br.2 z)) λs d e p=>?_;obtain rfl:=d;obtain rfl:=rb;exact vy e H ra p a
def aZ:df:=λvs σ K=>one vs λx=>bI (Nat.beq (kd x) 3) (cj x λz=>z.length≤50000∧K (.int z.length) σ) (bE x λk=>bN σ k λo=>wu o λxs=>xs.length≤1000000∧K (.int xs.length) σ)
theorem Bp:eT w (.builtin "len") aZ:=by
 intro B G n E h t K vs i Q H r m q;obtain⟨x,A,rfl,ra,m⟩:=lx m r;cases z:Nat.beq (kd x) 3 with
 |true=>
  obtain⟨z,rfl,a,p⟩:=b0 (m.br.1 z);obtain⟨u,rfl⟩:=ra;exact PySem.P.len_str (s:=⟨h,G.c.gn,G.c.d,t,G.c.os⟩) (by lia) (aJ (c:=G.c) (H.re (v:=.int _) ⟨_,rfl⟩ p q _))
 |false=>
  obtain⟨b,j,l,S⟩:=H.S;obtain⟨k,rfl,o,hob,p1⟩:=bh (m.br.2 z);obtain⟨y,d,rfl,hk,f2⟩:=S.R.get ra hob;obtain⟨C,vs,D,g,f,a,p⟩:=rR p1 f2;have e:vs.toArray.size=_:=(Xq).trans f.len;refine bL b (PyProof.Rows.len_list (s:=⟨h,G.c.gn,G.c.d,t,G.c.os⟩) (bJ S.A.N g) ?_ (aJ (c:=G.c) (H.re (v:=.int _) ⟨_,rfl⟩ ?_ q _)))
  ·rw[e];exact XbC a
  ·rw[e];exact p
def iA:df:=λvs σ K=>two vs λx y=>aR x λa=>aR y λb=>K (.int (if b>a then b else a)) σ
def fi:df:=λvs σ K=>two vs λx y=>aR x λa=>aR y λb=>K (.int (if b<a then b else a)) σ
def fc:df:=λvs σ K=>one vs λx=>aR x λa=>K (.int (if a<0 then -a else a)) σ
def j8:df:=λvs σ K=>one vs λx=>aR x λa=>(0≤a∧a≤1114111)∧K (.str ⟨#[a.toNat]⟩) σ
theorem zQ:eT w (.builtin "max") iA:=by
 intro n G j p h t K vs g Q H r m q;obtain⟨x,y,A,B,rfl,ra,rb,m⟩:=jP m r;obtain⟨a,b,u,v,rfl,rfl,m⟩:=bR ra rb m;obtain⟨e,i,l,S⟩:=H.S;exact bL e (max_two_N (s:=⟨h,G.c.gn,G.c.d,t,G.c.os⟩) G.O.hh S.A.F S.A.N λo k f d=>aJ (c:=G.c) (Hs.re ⟨H.V,⟨_,_,_,S.T,⟨f,d,S.A.k⟩,S.L,S.R⟩,H.le⟩ (v:=.int _) ⟨_,rfl⟩ m q _))
theorem AD:eT w (.builtin "min") fi:=by
 intro n G j p h t K vs g Q H r m q;obtain⟨x,y,A,B,rfl,ra,rb,m⟩:=jP m r;obtain⟨a,b,u,v,rfl,rfl,m⟩:=bR ra rb m;obtain⟨e,i,l,S⟩:=H.S;exact bL e (min_two_N (s:=⟨h,G.c.gn,G.c.d,t,G.c.os⟩) G.O.hh S.A.F S.A.N λo k f d=>aJ (c:=G.c) (Hs.re ⟨H.V,⟨_,_,_,S.T,⟨f,d,S.A.k⟩,S.L,S.R⟩,H.le⟩ (v:=.int _) ⟨_,rfl⟩ m q _))
theorem BQ:eT w (.builtin "abs") fc:=by
 intro f G d g h t K vs b Q H r m q;obtain⟨x,A,rfl,ra,m⟩:=lx m r;obtain⟨a,rfl,m⟩:=bU m;obtain⟨u,rfl⟩:=ra;exact call_abs_int (s:=⟨h,G.c.gn,G.c.d,t,G.c.os⟩) λu e=>aJ (c:=G.c) (H.re (v:=.int _) ⟨_,rfl⟩ m q _)
theorem Fs:eT w (.builtin "chr") j8:=by
 intro e G f d h t K vs b Q H r m q;obtain⟨x,A,rfl,ra,m⟩:=lx m r;obtain⟨a,rfl,hz,m⟩:=bU m;obtain⟨u,rfl⟩:=ra;exact PySem.P.chr_of_int (s:=⟨h,G.c.gn,G.c.d,t,G.c.os⟩) (by simp;omega) (aJ (c:=G.c) (H.re (v:=.str _) ⟨_,rfl⟩ m q _))
def jI (a:AE):AE:=λΦ fr σ K KE=>a Φ fr σ (λx σ=>aR x λi=>K (.int (-i)) σ) KE
theorem Pb (s:av w κ e m):av w κ (.UnaryOp .USub e pos) (jI m):=by
 intro G y z h t K Q H m q;refine Ra (s G H m λr o p x a b f j d g=>?_);obtain⟨i,e,k⟩:=bU g;have l:=j;rw[e]at l;obtain⟨u,n⟩:=l;rw[n];exact PySem.P.neg_int (s:=⟨a,G.c.gn,G.c.d,b,G.c.os⟩) (aJ (c:=G.c) (d.re (v:=.int _) ⟨_,rfl⟩ k (q.pre f) _))
variable {ns:List Str} {vs:List (Option Value)} {l:bu}
theorem At.push (A:At c ns vs l h) (ob:Obj) (hf:ob.isFreed=false):At c ns vs ((h.objs.size,ob)::l) (h.push ob):=
 ⟨A.F.push _,News.push A.F A.N ob hf,A.k.cons λp a=>Xe (A.N p a).1⟩
def bD:df:=λvs σ K=>one vs λx=>aR x λn=>K (.ref σ.nx) (σ.new (.rng 0 n))
theorem tZ:eT w (.type "range") bD:=by
 intro g G f i h t K vs d Q H r m q;obtain⟨x,A,rfl,ra,m⟩:=lx m r;obtain⟨a,rfl,m⟩:=bU m;obtain⟨u,rfl⟩:=ra;obtain⟨b,e,l,S⟩:=H.S;exact bL b (call_range_1 (s:=⟨h,G.c.gn,G.c.d,t,G.c.os⟩) (aJ (c:=G.c) (dN H S (S.A.push _ rfl) (o:=.rng 0 a) (w9 _ _ _ (.head _)) m q _)))
def nU:df:=λvs σ K=>one vs λx=>bE x λk=>bN σ k λo=>cP o λxs=>xs.length≤10000∧K (.ref σ.nx) (σ.new (.list xs))
theorem wT:eT w (.type "list") nU:=by
 intro p G n u h t K vs i Q H r m q;obtain⟨x,A,rfl,ra,m⟩:=lx m r;obtain⟨k,rfl,o,hob,m⟩:=bh m;obtain⟨g,rfl,hz,m⟩:=cq m;obtain⟨c,j,l,S⟩:=H.S;obtain⟨y,d,rfl,hk,vs,n',g1,g2⟩:=S.R.get ra hob;refine mZ (Ye S.R.ne) λb r a=>?_;obtain rfl:=a;exact bL c (xU (b:=b) (W:=[]) (T:=[]) (I:=r) S.A (In.at_ g1) (by rw[g2.len];exact hz) λD e s f=>dN H S (yG f) (o:=.list g) ⟨_,_,.head _,g2.up (S.R.le_up _)⟩ m q _)
def tG (w:World) (name:Str) (gm:Sg->SV->Prop) (sem:df):Prop:=∃id:String,eT w (.builtin id) sem∧
 ∀{κ:Ek} (G:Cw w κ) {τ:Tb} {σ:Sg} {h:Heap} {t:Nat} {v:SV} {V:Value} {pl:Sem Bool} {Q:Value×List Value->Heap->Nat->Prop},
  Hs G τ σ h->RV τ v V->gm σ v->(∀t',Q (.builtin id,[V]) h t')->Wp G.c (getMethod V name pl) Q h t
def kW (gm:Sg->SV->Prop) (sem:df) (o:AE) (ml:AL):AE:=λΦ fr σ K KE=>o Φ fr σ (λv σ=>gm σ v∧ml Φ fr σ (λvs σ=>sem (v::vs) σ K) KE) KE
variable {o:Expr}
theorem xr {mo:AE} {gm:Sg->SV->Prop} (hB:tG w name gm sem) (hb:∀env x,attributeBase o name env x=x) (hk:(e::es).all bj=true) (hl:(Nat.blt (e::es).length 30&&(apos.endLine==pos.line))=true) (so:av w κ o mo) (s:eu w κ (e::es) ml):
  av w κ (.Call (.Attribute o name apos) (e::es) [] pos) (kW gm sem mo ml):=by
 intro G E L h t K Q H m q;refine bn hB λI hB v=>?_;exact ia hb hk hl λJ=>so G H m λj u z D n p i d a b=>v G a d b.1 λF=>yl hk (s G a b.2 λk C A r B y c f l g=>hB G l (vs:=j::k) ⟨_,_,rfl,d.up c,f⟩ g (q.pre (i.trans c)))
def gQ:Sg->SV->Prop:=λZ v=>cj v λZ=>True
def eX:Sg->SV->Prop:=λσ v=>bE v λk=>bN σ k λo=>cP o λZ=>True
end
section
variable {w:World} {κ:Ek}
inductive Qi (z:Str) (xs:List SV) (K:Str->Prop):Prop
 |mk (ys:List Str) (h:xs=ys.map SV.str) (hz:(ys.map (·.length)).sum+ys.length*z.length≤16777216) (q:K (Txt.join z ys))
def dw:df:=λvs σ K=>two vs λx y=>cj x λz=>bE y λk=>bN σ k λo=>cP o λxs=>Qi z xs λy=>K (.str y) σ
theorem v4:tG w "join" gQ dw:=by
 refine(bv ("str.join") ?_ ?_)
 ·intro f G e g h t K vs i Q H r m q
  obtain⟨x,y,A,B,rfl,ra,rb,m⟩:=jP m r;obtain⟨z,rfl,m⟩:=b0 m;obtain⟨u,rfl⟩:=ra;obtain⟨k,rfl,o,hob,m⟩:=bh m;obtain⟨C,rfl,ys,rfl,hz,p⟩:=cq m;obtain⟨a,j,l,S⟩:=H.S;obtain⟨y,d,rfl,hk,vs,n',g1,g2⟩:=S.R.get rb hob;exact bL a (PyProof.Rows.join_list (s:=⟨h,G.c.gn,G.c.d,t,G.c.os⟩) (bJ S.A.N g1) (rF g2) hz λn k=>aJ (c:=G.c) (H.re (v:=.str _) ⟨_,rfl⟩ p q _))
 ·intro f G e g h t v V D Q H b m q
  obtain⟨z,rfl,m⟩:=b0 m;obtain⟨u,rfl⟩:=b;exact PySem.GM.join (s:=⟨h,G.c.gn,G.c.d,t,G.c.os⟩) (aJ (c:=G.c) (q _))
theorem PB (vs:List Value) {x y:Int} (h:0≤x) (h1:x≤y) (h2:y.toNat≤vs.length):slicePick vs.toArray (some x) (some y) none=((vs.drop x.toNat).take (y.toNat - x.toNat)).toArray:=by
 obtain⟨a,rfl⟩:=XM h;obtain⟨b,rfl⟩:=XM (Xl h h1);exact slicePick_run vs.toArray a b (by rw[Xq];exact h2) (YK.mp h1)
theorem JB (vs:List Value) {y:Int} (h:0≤y):slicePick vs.toArray none (some y) none=(vs.take y.toNat).toArray:=by
 obtain⟨b,rfl⟩:=XM h;exact slicePick_upto' vs.toArray b
def slS (z:Str) (a b:SV) (K:Str->Prop):Prop:=bI (Nat.beq (kd a) 0) (aR b λy=>K (Txt.slice z none (some y))) (aR a λx=>bI (Nat.beq (kd b) 0) (K (Txt.slice z (some x) none)) (aR b λy=>K (Txt.slice z (some x) (some y))))
def slL (xs:List SV) (a b:SV) (K:List SV->Prop):Prop:=bI (Nat.beq (kd a) 0) (aR b λy=>0≤y∧K (xs.take y.toNat)) (aR a λx=>aR b λy=>(0≤x∧x≤y∧y.toNat≤xs.length)∧K ((xs.drop x.toNat).take (y.toNat - x.toNat)))
def rA (σ:Sg) (v a b:SV) (K:SV->Sg->Prop):Prop:=bI (Nat.beq (kd v) 3) (cj v λz=>z.length≤50000∧slS z a b λy=>K (.str y) σ) (bE v λk=>bN σ k λo=>wu o λxs=>xs.length≤1000000∧slL xs a b λys=>K (.ref σ.nx) (σ.new (.list ys)))
variable {v:SV}
theorem kd0 (h:Nat.beq (kd v) 0=true):v=.none:=by cases v<;>first|rfl|exact cp h
def sG:Option AE->AE
 |none=>λZ Z σ K Z=>K .none σ
 |some a=>a
inductive pF (w:World) (κ:Ek):Option Expr->Option AE->Prop
 |none:pF w κ none none
 |some {e m} (s:av w κ e m):pF w κ (some e) (some m)
variable {e e1 e2 e3:Expr} {es:List Expr} {m m1 m2 m3:AE} {ml:AL} {pos px apos:Pos} {x:Str} {lo hi:Option Expr} {ma mb:Option AE} {G:Cw w κ} {τ:Tb} {σ:Sg} {h:Heap} {t:Nat} {K:KV} {Q:Value->Heap->Nat->Prop}
theorem yz (s:pF w κ lo ma) (H:Hs G τ σ h) (m:sG ma G.Φ G.fr σ K G.KE) (q:QE G τ K Q):Wp G.c (evalPart lo G.env) Q h t:=by
 cases s with
 |none=>exact W1 (aJ (c:=G.c) (H.re (v:=.none) rfl m q _))
 |some s=>exact s G H m q
def eH (o:AE) (ma mb:Option AE):AE:=λΦ fr σ K KE=>o Φ fr σ (λv σ=>sG ma Φ fr σ (λa σ=>sG mb Φ fr σ (λb σ=>rA σ v a b K) KE) KE) KE
variable {p:Pos}
theorem eI {o i:Value}:subscripted (.Slice lo hi none p) false o i=operate [i,o] (getItem o i):=rfl
variable {o:Expr} {g':Heap} {l:bu}
theorem OG {vs:List Value} {n':Nat} {y:Addr} {A B:Value} {a b:Option Int} {ys:List SV} {ws:List Value} {vv:List (Option Value)} (H:Hs G τ σ h) (S:oJ G.c κ.ns G.fr σ τ G.X h g' vv l) (g1:(y,aL vs n')∈l) (pa:IsPart A a) (pb:IsPart B b) (hp:slicePick vs.toArray a b none=ws.toArray) (hz:vs.length≤1000000) (r:bZ τ ys ws)
  (k:K (.ref σ.nx) (σ.new (.list ys))) (q:QE G τ K Q):Wp G.c (subscriptTail o (.Slice lo hi none p) (.ref y) (.ref h.objs.size)) Q (h.push {cls:=.type "slice",data:=.fields #[A,B,.none]}) t:=by
 refine bL g' (kba_turn (value':=.Name "" default) (λZ=>rfl) (slice_list (s:=⟨h,G.c.gn,G.c.d,t,G.c.os⟩) S.A.F S.A.N (bJ S.A.N g1) pa pb (λf e d=>?_) eI (λZ=>rfl) ?_))
 ·rw[hp]at d
  exact aJ (c:=G.c) (dN (D:=h.objs.size+1) H S ⟨e,d,S.A.k.cons λp hp=>Zg (Xe (S.A.N p hp).1)⟩ (o:=.list ys) ⟨_,_,.head _,r.up (S.R.le_up _)⟩ k q _)
 ·rw[XI,Xq];exact Z1 hz
variable {V A B:Value}
theorem Di {v a b:SV} (H:Hs G τ σ h) (rv:RV τ v V) (ra:RV τ a A) (rb:RV τ b B) (m:rA σ v a b K) (q:QE G τ K Q):
  Wp G.c (subscriptTail o (.Slice lo hi none p) V (.ref h.objs.size)) Q (h.push {cls:=.type "slice",data:=.fields #[A,B,.none]}) t:=by
 obtain⟨n,F,l,S⟩:=H.S;cases z:Nat.beq (kd v) 3 with
 |true=>
  obtain⟨z,rfl,e,i⟩:=b0 (m.br.1 z);obtain⟨u,rfl⟩:=rv;cases za:Nat.beq (kd a) 0 with
  |true=>
   cases kd0 za;obtain rfl:=ra;obtain⟨y,rfl,p2⟩:=bU (i.br.1 za);obtain⟨r,rfl⟩:=rb;exact bL n (slice_strN_ns (s:=⟨h,G.c.gn,G.c.d,t,G.c.os⟩) S.A.F S.A.N (λD w k j f=>aJ (c:=G.c) (Hs.re ⟨H.V,⟨_,_,_,S.T,⟨j,f,S.A.k⟩,S.L,S.R⟩,H.le⟩ (v:=.str _) ⟨_,rfl⟩ p2 q _)) eI (λZ=>by cases o<;>rfl) (by rw[XI];exact Z1 e))
  |false=>
   obtain⟨x,rfl,p2⟩:=bU (i.br.2 za);obtain⟨E,rfl⟩:=ra;cases zb:Nat.beq (kd b) 0 with
   |true=>
    cases kd0 zb;obtain rfl:=rb;exact bL n (slice_strN_sn (s:=⟨h,G.c.gn,G.c.d,t,G.c.os⟩) S.A.F S.A.N (λD w k j f=>aJ (c:=G.c) (Hs.re ⟨H.V,⟨_,_,_,S.T,⟨j,f,S.A.k⟩,S.L,S.R⟩,H.le⟩ (v:=.str _) ⟨_,rfl⟩ (p2.br.1 zb) q _)) eI (λZ=>by cases o<;>rfl) (by rw[XI];exact Z1 e))
   |false=>
    obtain⟨y,rfl,p3⟩:=bU (p2.br.2 zb);obtain⟨r,rfl⟩:=rb;exact bL n (slice_strN_ss (s:=⟨h,G.c.gn,G.c.d,t,G.c.os⟩) S.A.F S.A.N (λD w k j f=>aJ (c:=G.c) (Hs.re ⟨H.V,⟨_,_,_,S.T,⟨j,f,S.A.k⟩,S.L,S.R⟩,H.le⟩ (v:=.str _) ⟨_,rfl⟩ p3 q _)) eI (λZ=>by cases o<;>rfl) (by rw[XI];exact Z1 e))
 |false=>
  obtain⟨k,rfl,ob,hob,p0⟩:=bh (m.br.2 z);obtain⟨y,d,rfl,hk,f2⟩:=S.R.get rv hob;obtain⟨I,vs,J,C,g,e,i⟩:=rR p0 f2;cases za:Nat.beq (kd a) 0 with
  |true=>
   cases kd0 za;obtain rfl:=ra;obtain⟨y,rfl,h0,p2⟩:=bU (i.br.1 za);obtain⟨r,rfl⟩:=rb;exact OG H S C .none (.int _ _) (JB vs h0) (g.len▸e) g.take p2 q
  |false=>
   obtain⟨x,y,u,r,rfl,rfl,h0,p2⟩:=bR ra rb (i.br.2 za);exact OG H S C (.int _ _) (.int _ _) (PB vs h0.1 h0.2.1 (g.len▸h0.2.2)) (g.len▸e) g.drop.take p2 q
theorem xP {mo:AE} (so:av w κ o mo) (sa:pF w κ lo ma) (sb:pF w κ hi mb):av w κ (.Subscript o (.Slice lo hi none p) pos) (eH mo ma mb):=by
 intro G Y σ h t K Q H m q;refine qW (so G H m λF I T l X M r e g k=>?_);refine wpAny_Slice (Wp.go (yz sa (Q:=λ(A:Value) C v=>Wp G.c (evalPart hi G.env) (λB u x=>Wp G.c (subscriptTail o (.Slice lo hi none p) l (.ref u.objs.size)) Q (u.push {cls:=.type "slice",data:=.fields #[A,B,.none]}) x) C v) g k λR L O W D E b s f j=>?_) λA C v y=>Wp.go y λB u x z=>W1 (aJ (c:=G.c) z));exact yz sb f j λV U P J S N a d n i=>Di n (e.up (b.trans a)) (s.up a) d i (q.pre ((r.trans b).trans a))
def ki:df:=λvs σ K=>two vs λx y=>bE x λk=>bE y λk2=>bN σ k λo=>bN σ k2 λo2=>cP o λxs=>cP o2 λys=>(xs=[]∧ys.length≤10000)∧K .none (σ.set k (.list ys))
theorem jr {name:Str} {id:String} (hs:PySem.Slot "list" name id) (hty:typeOf (.builtin id)=pure (.type "method_descriptor")) {pl:Sem Bool} {Q:Value×List Value->Heap->Nat->Prop}
  (H:Hs G τ σ h) (rv:RV τ v V) (m:eX σ v) (q:∀t',Q (.builtin id,[V]) h t'):Wp G.c (getMethod V name pl) Q h t:=by
 obtain⟨b,f,l,S⟩:=H.S;obtain⟨k,rfl,o,hob,m⟩:=bh m;obtain⟨g,rfl,m⟩:=cq m;obtain⟨y,d,rfl,hk,vs,n',g1,g2⟩:=S.R.get rv hob;exact bL b (ZH (s:=⟨h,G.c.gn,G.c.d,t,G.c.os⟩) (bJ (s:=⟨h,G.c.gn,G.c.d,t,G.c.os⟩) S.A.N g1).typeIs PySem.F.plainAttrs_list hs hty (λa e=>by obtain rfl:=PySem.Value.ref.inj e;exact(bv _ ((S.A.N _ g1).1) rfl)) (aJ (c:=G.c) (q _)))
theorem D9:tG w "extend" eX ki:=by
 refine(bv ("list.extend") ?_ (by intro J G I N h t v V pl Q H F m q;exact jr PySem.F.slot_list_extend PySem.F.type_list_extend H F m q));intro J G I N h t K vs O Q H r m q;obtain⟨x,y,A,B,rfl,ra,rb,m⟩:=jP m r;obtain⟨k,rfl,p1⟩:=bh m;obtain⟨P,rfl,o1,hob,o2,hob2,p2⟩:=bh p1;obtain⟨W,rfl,p3⟩:=cq p2;obtain⟨C,rfl,⟨rfl,hz⟩,p⟩:=cq p3;obtain⟨j,R,l,S⟩:=H.S;obtain⟨T,Y,rfl,hk1,v1,n1,g1,r1⟩:=S.R.get ra hob;obtain⟨X,d2,rfl,hk2,v2,n2,g2,r2⟩:=S.R.get rb hob2;obtain rfl:=r1;have d:=r2.len;refine gM (dO g1) λE u g U=>?_;obtain rfl:=g;have D:¬(!(([]:List Value).toArray).isEmpty&&Builtin.List.listTooLong ((([]:List Value).toArray).size+v2.toArray.size))=true:=by simp
 have a:(([]:List Value).toArray).toList.length≤sizeLine:=by rw[XI];decide
 have b:(([]:List Value).toArray).size+v2.toArray.size≤sizeLine+1:=by rw[XI];simp;exact V6 d hz
 by_cases e:v2=[]
 ·subst e
  cases C with
  |cons=>cases d
  |nil=>exact bL j (kxn_extend (s:=⟨h,G.c.gn,G.c.d,t,G.c.os⟩) (its:=([]:List Value).toArray) (n:=n1) (its2:=([]:List Value).toArray) (n2:=n2) S.A.F S.A.N g2 rfl ((U (aL [] n1)).go S.A.k) D a b λM i f=>aJ (c:=G.c) (Hs.re (v:=.none) ⟨H.V,⟨_,_,_,S.T,⟨i,f,S.A.k⟩,S.L,S.R.chg (o:=.list []) hob hk1 (.inl rfl) (λq L Z=>L) (λZ z=>z) ⟨_,_,g1,rfl⟩⟩,H.le⟩ rfl p q _))
 ·exact bL j (kl_extend (s:=⟨h,G.c.gn,G.c.d,t,G.c.os⟩) (its:=([]:List Value).toArray) (n:=n1) (its2:=v2.toArray) (n2:=n2) (l:=v2) S.A.F S.A.N g2 (by simp) (by simpa using e) ((U (aL v2 (n1+1))).go S.A.k) D a b λM i f=>aJ (c:=G.c) (Hs.re (v:=.none) ⟨H.V,⟨_,_,_,S.T,⟨i,f,S.A.k.upd ((U (aL v2 (n1+1))).go S.A.k)⟩,S.L,S.R.chg (o:=.list C) hob hk1 (.inl rfl) cZ cK ⟨_,_,dz,r2⟩⟩,H.le⟩ rfl p q _))
end
section
variable {w:World} {κ:Ek}
inductive Xdz (xs:List SV) (i:Int) (K:SV->List SV->Prop):Prop
 |mk (a:List SV) (x:SV) (b:List SV) (h:xs=a++x::b) (hi:i=a.length) (hz:xs.length≤10000) (q:K x (a++b))
def nu:df:=λvs σ K=>two vs λx y=>bE x λk=>aR y λi=>bN σ k λo=>cP o λxs=>Xdz xs i λx ys=>K x (σ.set k (.list ys))
variable {τ:Tb}
theorem bZ.split {ys:List SV} {x:SV} {xs:List SV}:∀{V:List Value},bZ τ (xs++x::ys) V->∃A B W,V=A++W::B∧bZ τ xs A∧RV τ x W∧bZ τ ys B:=by
 induction xs with
 |nil=>rintro V ⟨W,B,rfl,h,r⟩;exact(gW ([]) _ _ rfl rfl h r)
 |cons a xs ih=>
  rintro V ⟨A,B,rfl,h,r⟩;refine mC (ih r) λc d W b e g f=>?_;obtain rfl:=b;exact(gW (A::c) d W rfl ⟨_,_,rfl,h,e⟩ g f)
theorem ny (W:Value) (Q:List Value) (P:List Value):kl_cut (P++W::Q) P.length=some (P,W,Q):=by
 induction P with
 |nil=>rfl
 |cons p P ih=>
  show(match kl_cut (P++W::Q) P.length with|some (p',y,q)=>some (p::p',y,q)|none=>none)=_;rw[ih]
theorem Em:tG w "pop" eX nu:=by
 refine(bv ("list.pop") ?_ (by intro M G I R h t v V pl Q H F m q;exact jr PySem.F.slot_list_pop PySem.F.type_list_pop H F m q));intro M G I R h t K vs T Q H r m q;obtain⟨x,y,A,B,rfl,ra,rb,m⟩:=jP m r;obtain⟨k,rfl,p1⟩:=bh m;obtain⟨i,rfl,o1,hob,p2⟩:=bU p1;obtain⟨u,rfl⟩:=rb;obtain⟨xs,rfl,a,x,b,rfl,hi,hz,p⟩:=cq p2;obtain⟨D,X,l,S⟩:=H.S;obtain⟨Y,d1,rfl,hk1,v1,n1,g1,r1⟩:=S.R.get ra hob;have e:=r1.len;refine mC r1.split λP d W f j J L=>?_;obtain rfl:=f;refine gM (dO g1) λE z g U=>?_;obtain rfl:=g;have N:P.length<(P++W::d).length:=by rw[Yb,Yc];exact Z42
 rw[hi,←j.len];refine bL D (kl_popAt (s:=⟨h,G.c.gn,G.c.d,t,G.c.os⟩) (its:=(P++W::d).toArray) (n:=n1) (k:=P.length) (p:=P) (q:=d) (y:=W) S.A.F S.A.N ?_ ?_ ?_ ((U (aL (P++d) (n1+1))).go S.A.k) ?_ λh' O C=>aJ (c:=G.c) (Hs.re (v:=x) ⟨H.V,⟨_,_,_,S.T,⟨O,C,S.A.k.upd ((U (aL (P++d) (n1+1))).go S.A.k)⟩,S.L,S.R.chg (o:=.list (a++b)) hob hk1 (.inl rfl) cZ cK ⟨_,_,dz,L.app j⟩⟩,H.le⟩ J p q _))
 ·unfold Builtin.List.listFitsIndex
  simp;lia
 ·rw[Xq]
  exact fo (Yl _) (by rw[Int.toNat_natCast];exact N)
 ·exact ny W d P
 ·rw[XI]
  show(P++W::d).length≤_;exact V6 e hz
variable {E:Value->Shared->Prop} {u:Tok} {Q:Bool->Shared->Prop}
theorem FA {A:Around} {s:Shared} {a:Str} {t:Tok} {b:Int} (h:Q false s):wpAny (model PP w) A (eqBool (.str a t) (.int b u)) Q E s:=by
 dsimp only[eqBool];refine XH ?_;rw[Xh (by simp)];exact WV (EqMixed.eq_str_int (YT h))
theorem DQ {A:Around} {s:Shared} {a:Str} {t:Tok} {b:Int} (h:Q false s):wpAny (model PP w) A (eqBool (.int b u) (.str a t)) Q E s:=by
 dsimp only[eqBool];refine XH ?_;rw[Xh (by simp)];exact WV (EqMixed.eq_int_str (YT h))
noncomputable def sS (k:Str ⊕ Int) (v:Value):Bool:=match k with
 |.inl s=>Value.isStrOf s v
 |.inr i=>Value.isInt i v
theorem ew {s:Str} {v:Value} (h:sS (.inl s) v=true):∃t,v=.str s t:=Value.isStrOf_shape h
theorem eq {i:Int} {v:Value} (h:sS (.inr i) v=true):∃t,v=.int i t:=Value.isInt_shape h
noncomputable def qf (w:World):KeyKind PP w (Str ⊕ Int) where
 is:=sS
 hash:=λk=>match k with
  |.inl s=>hashStr w s
  |.inr i=>hashInt i
 inj:=λv a b ha hb=>by
  cases a with
  |inl s=>
   obtain⟨t,rfl⟩:=ew ha;cases b with
   |inl s2=>obtain⟨t2,e⟩:=ew hb;cases e;rfl
   |inr i2=>obtain⟨t2,e⟩:=eq hb;cases e
  |inr i=>
   obtain⟨t,rfl⟩:=eq ha;cases b with
   |inl s2=>obtain⟨t2,e⟩:=ew hb;cases e
   |inr i2=>obtain⟨t2,e⟩:=eq hb;cases e;rfl
 byValue:=λk v h=>by
  cases k with
  |inl s=>obtain⟨t,rfl⟩:=ew h;rfl
  |inr i=>obtain⟨t,rfl⟩:=eq h;rfl
 pyHash:=λ{A E s k v Q} hv h=>by
  cases k with
  |inl s=>obtain⟨t,rfl⟩:=ew hv;exact wpAny_pyHash_str h
  |inr i=>obtain⟨t,rfl⟩:=eq hv;exact wpAny_pyHash_int h
 eqBool:=λ{A E s a b u v Q} hu hv h=>by
  cases a with
  |inl s1=>
   obtain⟨t,rfl⟩:=ew hu;cases b with
   |inl s2=>obtain⟨t2,rfl⟩:=ew hv;exact wpAny_eqBool_str (by simpa using h)
   |inr i2=>obtain⟨t2,rfl⟩:=eq hv;exact FA (by simpa using h)
  |inr i1=>
   obtain⟨t,rfl⟩:=eq hu;cases b with
   |inl s2=>obtain⟨t2,rfl⟩:=ew hv;exact DQ (by simpa using h)
   |inr i2=>obtain⟨t2,rfl⟩:=eq hv;exact wpAny_eqBool_int (by rw[show(i1==i2)=decide (Sum.inr i1=(Sum.inr i2:Str ⊕ Int)) by rw[Bool.eq_iff_iff];simp];exact h)
 «strs»:=λk x t v h=>by
  cases k with
  |inl s=>obtain⟨u,hu⟩:=ew h;cases hu;cases v<;>rfl
  |inr i=>obtain⟨u,hu⟩:=eq h;cases hu
variable {c:Cf w} {nn:Nat} {ns:List Str} {vs:List (Option Value)} {l:bu} {h:Heap} {t:Nat} {Q:Value->Heap->Nat->Prop} {R:Unit->Heap->Nat->Prop} {a y:Addr} {i:Int} {z:Str} {u2:Tok} {v:Value} {u':Obj->bu}
theorem yN (hy:h.get? y=some (cR [.str z u,.int i u2])):(tupleKind (qf w)).is h [.inl z,.inr i] y:=by
 refine(gW _ (#[.str z u,.int i u2]) _ hy rfl rfl ?_);exact .cons (by simp[qf,sS,Value.isStrOf]) (.cons (by simp[qf,sS,Value.isInt]) .nil)
theorem zd {K:Type} [DecidableEq K] {knd:HeapKind PP w K} (ha:h.get? a=some (dictOf [] 0)):h.DictOfH knd a []:=(V4 _ (#[]) 0 ha (eQ rfl rfl rfl) rfl rfl (λZ b=>(nomatch b)) Z0)
theorem Al (rm:db c.A nn) (H:At c ns vs l h) (i1:(a,dictOf [] 0)∈l) (i2:(y,cR [.str z u,.int i u2])∈l) (lo:(a==sysModules)=false) (q:∀t,Q .none h t):Wp c (call (.builtin "dict.get") [.ref a,.ref y]) Q h t:=by
 have b:=zd (knd:=tupleKind (qf w)) ((H.N _ i1).1);refine call_meetsIn F.slot_dict_get b.typeIs F.entry_dict_get (F.args_dict_get_2 _ _) (meetsH_dict_get (tupleKind (qf w)) a y lo) ⟨(by have:=jL rm;exact Z25 this),_,[],yN (H.N _ i2).1,b,aJ (q _)⟩
theorem CW (rm:db c.A nn) (H:At c ns vs l h) (U:∀o',dC a (dictOf [] 0) o' l (u' o')) (i2:(y,cR [.str z u,.int i u2])∈l) (q:∀o' h' t,At c ns vs (u' o') h'->R () h' t):Wp c (setItem (.ref a) (.ref y) v) R h t:=by
 refine wpAny_setItem_heap (knd:=tupleKind (qf w)) (xs:=[]) (s:=⟨h,c.gn,c.d,t,c.os⟩) (hsz:=by rw[XI];decide) (by have:=jL rm;exact Z25 this) (yN (H.N _ i2).1) (zd (H.N _ ((U (dictOf [] 0)).mem)).1) λh' b g=>?_;refine uB b λo' p r e Z=>?_;have V:=(U o').go H.k;have d:=H.k.upd V;refine ux V.split λm f j o n k=>?_;have N:=H.N;rw[j]at N;exact aJ (q o' h' _ ⟨H.F.change g (H.N _ ((U (dictOf [] 0)).mem)).2.1 (H.N _ ((U (dictOf [] 0)).mem)).2.2,by rw[o];exact N.setAt n k g e,d⟩)
noncomputable def gN (kvs:List (Str×SV)) (z:Str):SV:=match kvs.find? λkv=>aD kv.1 z with
 |some kv=>kv.2
 |none=>.none
variable {kvs:List (Str×SV)}
theorem BM:∀{kv:List (Str×Value)},RK τ kvs kv->RV τ (gN kvs z) ((valueAt kv z).getD .none):=by
 induction kvs with
 |nil=>intro kv h;obtain rfl:=h;exact rfl
 |cons p r a=>
  rintro kv ⟨V,s,rfl,h1,h2⟩;have a:=a h2;dsimp only[gN,valueAt]at a ⊢;rw[Yy,Yy];by_cases e:p.1=z
  ·subst e
   rw[aQ,Xx rfl];exact h1
  ·rw[cC.mpr e,Xo e]
   exact a
theorem tN:∀{kv:List (Str×Value)},RK τ kvs kv->kv.length=kvs.length:=by
 induction kvs with
 |nil=>intro kv h;obtain rfl:=h;rfl
 |cons p r ih=>rintro kv ⟨V,s,rfl,h1,h2⟩;rw[Yc,Yc,ih h2]
theorem Su:∀{kv:List (Str×Value)},RK τ kvs kv->(kvs.any λx=>aD x.1 z)=false->(kv.any λx=>decide (x.1=z))=false:=by
 induction kvs with
 |nil=>intro kv h _;obtain rfl:=h;rfl
 |cons p r ih=>
  rintro kv ⟨V,s,rfl,h1,h2⟩ hn;rw[Z7,Zr]at hn;rw[Z7,Zr];exact⟨Xo (cC.mp hn.1),ih h2 hn.2⟩
variable {v:SV} {V:Value}
theorem DV (rv:RV τ v V):∀{kv:List (Str×Value)},RK τ kvs kv->RK τ (kvs++[(z,v)]) (kv++[(z,V)]):=by
 induction kvs with
 |nil=>intro kv h;obtain rfl:=h;exact(j6 V ([]) rfl rv rfl)
 |cons p r ih=>rintro kv ⟨V,s,rfl,h1,h2⟩;exact(j6 V _ rfl h1 (ih h2))
theorem tK (rv:RV τ v V) {kv:List (Str×Value)} (h:RK τ kvs kv) (hn:(kvs.any λx=>aD x.1 z)=false):RK τ (kvs++[(z,v)]) (stored kv z V):=by
 unfold stored;rw[Xh (by rw[Su h hn];decide)];exact DV rv h
noncomputable def Pg:List (Str×Option Str):=([("BasicObject",none),("Object",some "BasicObject"),("Module",some "Object"),("Class",some "Module"),("Kernel",none),("Comparable",none),("Enumerable",none),("Numeric",some "Object"),("Integer",some "Numeric")]:List (Str×Option Str))++([("String",some "Object"),("Symbol",some "Object"),("Array",some "Object"),("Hash",some "Object"),("Range",some "Object"),("Exception",some "Object"),("StandardError",some "Exception"),("TypeError",some "StandardError")]:List (Str×Option Str))
noncomputable def sM:List (Str×Option Addr):=([("Object",some 551),("Numeric",some 552),("String",some 553),("Symbol",some 554),("Array",some 555),("Hash",some 556),("Range",some 557),("BasicObject",none),("Module",none)]:List (Str×Option Addr))++([("Class",none),("Kernel",none),("Comparable",none),("Enumerable",none),("Integer",none),("Exception",none),("StandardError",none),("TypeError",none)]:List (Str×Option Addr))
noncomputable def oS (o:Option Str):SV:=match o with
 |some z=>.str z
 |none=>.none
noncomputable def oG (o:Option Addr) (d:SV):SV:=match o with
 |some z=>.glob z
 |none=>d
noncomputable def Xeq (o:Option Str) (x:Option (Option Value)):Bool:=match x with
 |some (some V)=>(match o with
  |some z=>(match V with
   |.str y _=>y==z
   |_=>false)
  |none=>(match V with
   |.none=>true
   |_=>false))
 |_=>false
noncomputable def Wk (o:Option Addr) (x:Option (Option Value)):Bool:=match x with
 |some V=>(match o with
  |some z=>(match V with
   |some (.ref a)=>Nat.beq a z
   |_=>false)
  |none=>V.isNone)
 |_=>false
theorem Aa:(Pg.all λp=>Xeq p.2 (cM (HK w.params) 547 p.1))=true:=by kernel_rfl
theorem D8:(sM.all λp=>Wk p.2 (cM (HK w.params) 550 p.1))=true:=by kernel_rfl
set_option tactic.hygienic true in
theorem OC {p:Str×Option Str} (h:p∈Pg):∃V,cM (HK w.params) 547 p.1=some (some V)∧∀τ,RV τ (oS p.2) V:=by
 have z:=WZ.mp (Aa (w:=w)) p h;generalize cM (HK w.params) 547 p.1=x at z;generalize p.2=o at z;rcases x with _|_|V
 ·exact cp z
 ·exact cp z
 ·refine⟨V,rfl,λτ=>?_⟩
  cases o with
  |none=>cases V<;>first|exact rfl|exact cp z
  |some y=>
   cases V
   case str a b=>cases XJ (show(a==y)=true from z);exact⟨_,rfl⟩
   all_goals exact cp z
set_option tactic.hygienic true in
theorem MJ {p:Str×Option Addr} (h:p∈sM):cM (HK w.params) 550 p.1=some (p.2.map λa=>.ref a):=by
 have z:=WZ.mp (D8 (w:=w)) p h;generalize cM (HK w.params) 550 p.1=x at z;generalize p.2=o at z;rcases x with _|_|V
 ·exact cp z
 ·cases o with
  |none=>rfl
  |some y=>exact cp z
 ·cases o with
  |none=>exact cp z
  |some y=>
   cases V
   case ref a=>cases W9 z;rfl
   all_goals exact cp z
end
section
variable {w:World} {κ:Ek}
inductive IF {α:Type} (l:List (Str×α)) (z:Str) (K:α->Prop):Prop
 |mk (p:Str×α) (h:p∈l) (e:p.1=z) (q:K p.2)
variable {e e1 e2 e3:Expr} {es:List Expr} {m m1 m2 m3:AE} {ml:AL} {ms:AS} {pos px apos:Pos} {x:Str} {rest:List Stmt}
def kj (i:AE):AE:=λΦ fr σ K KE=>i Φ fr σ (λv σ=>cj v λz=>IF Pg z λu=>K (oS u) σ) KE
theorem vG (ev:nsIn (HK w.params) mainGlobals x=some (some (.ref 547))) (hx:bz κ x=true) (hs:∀o i:Value,subscripted e false o i=operate [o,i] (getItem o i)) (s:av w κ e m):av w κ (.Subscript (.Name x px) e pos) (kj m):=by
 intro G M O h t K Q H m q;obtain⟨f,vs,l,S⟩:=H.S;refine qW (bL f (sJ (G.O.turn S.T) S.A ev (bV H.V hx) (qq f (s G H m λD A C I n u b d a c=>?_))));obtain⟨z,r,p,B,rfl,k⟩:=b0 c;have g:=d;rw[r]at g;obtain⟨N,v⟩:=g;obtain⟨E,y,L,j⟩:=a.S;refine bn (OC (w:=w) B) λV F J=>?_;rw[v];exact bL E (vL (G.O.turn j.T) j.A F (hs _ _) (λZ=>rfl) (a.re (J _) k (q.pre b) _))
@[irreducible] noncomputable def vV (σ:Sg) (k:Nat) (z:Str) (K:SV->Prop):Prop:=bN σ k λo=>bI (kQ o) (K .none) (l8 o λkvs=>K (gN kvs z))
theorem VM {vs:List SV} {K:SV->List SV->Prop} (h:Bo vs K):∃x r,vs=x::r∧K x r:=by
 cases vs with
 |nil=>exact h.elim
 |cons x r=>exact(uA x r rfl h)
def SIk (σ:Sg) (j:Nat) (K:Prop):Prop:=bN σ j λo=>iz o λks=>two ks λa b=>cj a λZ=>aR b λZ=>K
variable {σ:Sg} {τ:Tb} {X:Xs} {l:bu} {V:Value}
theorem tW {j:Nat} {K:Prop} (R:aA w τ σ X l) (rv:RV τ (.ref j) V) (m:SIk σ j K):∃y z u i u2,V=.ref y∧(y,cR [.str z u,.int i u2])∈l∧K:=by
 obtain⟨o,c,m⟩:=m;obtain⟨e,rfl,m⟩:=iu m;obtain⟨y,d,rfl,hk,vs,h1,h2⟩:=R.get rv c;obtain⟨a,b,A,B,rfl,ra,rb,m⟩:=jP m h2;obtain⟨z,rfl,m⟩:=b0 m;obtain⟨i,rfl,m⟩:=bU m;obtain⟨u,rfl⟩:=ra;obtain⟨u2,rfl⟩:=rb;exact(Bb _ _ _ _ _ rfl h1 m)
def fw:df:=λvs σ K=>Bo vs λx vs=>Bo vs λy vs=>bI (Nat.beq (kd y) 4) (bE x λk=>bE y λj=>vs=[]∧bN σ k λo=>PR o (SIk σ j (K .none σ))) (cj y λz=>bI (Nat.beq (kd x) 4) (bE x λk=>vs=[]∧vV σ k z λv=>K v σ) (one vs λd=>x=.glob 550∧IF sM z λo=>K (oG o d) σ))
def iF:Sg->SV->Prop:=λσ v=>bI (Nat.beq (kd v) 4) (bE v λk=>bN σ k λo=>bI (kQ o) True (l8 o λZ=>True)) (v=.glob 550)
theorem nZ {o:SO} (h:kQ o=true):o=.dic0:=by cases o<;>first|rfl|exact cp h
theorem xm:tG w "get" iF fw:=by
 refine(bv ("dict.get") ?_ ?_)
 ·intro L G I O h t K vs C Q H r m q
  refine gM (VM m) λx vs f M=>?_;obtain rfl:=f;refine gM (VM M) λy vs f E=>?_;obtain rfl:=f;obtain⟨e,F,l,S⟩:=H.S;cases zy:Nat.beq (kd y) 4 with
  |true=>
   obtain⟨k,rfl,p3⟩:=bh (E.br.1 zy);obtain⟨j,rfl,rfl,o,b,g⟩:=bh p3;obtain⟨rfl,p5⟩:=P4 g;obtain⟨A,_,rfl,ra,B,C,rfl,rb,rs⟩:=r;obtain rfl:=rs;obtain⟨y,d,rfl,hk,g1,g4⟩:=S.R.get ra b;refine Wc (tW S.R rb p5) λP z u i R p J N=>?_;obtain rfl:=p;exact bL e (Al (G.O.turn S.T).rm S.A g1 J g4 λt=>H.re (v:=.none) rfl N q t)
  |false=>
  obtain⟨z,rfl,p3⟩:=b0 (E.br.2 zy);obtain⟨A,_,rfl,ra,_,C,rfl,⟨u,rfl⟩,rs⟩:=r;cases zx:Nat.beq (kd x) 4 with
  |true=>
   obtain⟨k,rfl,rfl,pg⟩:=bh (p3.br.1 zx);unfold vV at pg;obtain⟨o,b,g⟩:=pg;obtain rfl:=rs;cases zo:kQ o with
   |true=>
    cases nZ zo;obtain⟨y,d,rfl,hk,g1,g4⟩:=S.R.get ra b;exact bL e (lv S.A.N (In.at_ g1) jM g4 (aJ (c:=G.c) (H.re (v:=.none) rfl (g.br.1 zo) q _)))
   |false=>
    obtain⟨s,rfl,p5⟩:=ku (g.br.2 zo);obtain⟨y,d,rfl,hk,kv,o,g1,g2,g3,g4⟩:=S.R.get ra b;exact bL e (lv S.A.N (In.at_ g1) g2 g4 (aJ (c:=G.c) (H.re (BM g3) p5 q _)))
  |false=>
   obtain⟨d,D,rfl,rd,rfl,o,mx,rfl,p5⟩:=lx (p3.br.2 zx) rs;obtain rfl:=ra;have z:=MJ (w:=w) mx;cases eo:o.2 with
   |some a=>rw[eo]at z p5;exact bL e (Qc (G.O.turn S.T) S.A z (H.re (v:=.glob a) rfl p5 q _))
   |none=>rw[eo]at z p5;exact bL e (KA (G.O.turn S.T) S.A z (H.re rd p5 q _))
 ·intro L G I O h t v V T Q H n m q
  obtain⟨e,F,l,S⟩:=H.S;cases zx:Nat.beq (kd v) 4 with
  |true=>
   obtain⟨k,rfl,o,b,g⟩:=bh (m.br.1 zx);cases zo:kQ o with
   |true=>
    cases nZ zo;obtain⟨y,d,rfl,hk,g1,g4⟩:=S.R.get n b;exact bL e (qU S.A (In.at_ g1) jM (q _))
   |false=>
    obtain⟨s,rfl,p5⟩:=ku (g.br.2 zo);obtain⟨y,d,rfl,hk,kv,o,g1,g2,g3,g4⟩:=S.R.get n b;exact bL e (qU S.A (In.at_ g1) g2 (q _))
  |false=>
   cases m.br.2 zx;obtain rfl:=n;exact bL e (uO (G.O.turn S.T) S.A (by kernel_rfl) (q _))
noncomputable def yF (o:SO):Bool:=match o with
 |.list _=>true
 |_=>false
@[irreducible] noncomputable def V7 (o:SO) (z:Str) (v:SV) (K:SO->Prop):Prop:=bI (kQ o) (K (.dic [(z,v)])) (l8 o λkvs=>((kvs.any λx=>aD x.1 z)=false∧kvs.length≤900)∧K (.dic (kvs++[(z,v)])))
def XcT (σ:Sg) (o:SO) (i v:SV) (K:SO->Prop):Prop:=bI (Nat.beq (kd i) 3) (cj i λz=>V7 o z v K) (bI (kQ o) (bI (Nat.beq (kd i) 4) (bE i λj=>SIk σ j (K .opq)) (aR i λZ=>K .opq))
 (cP o λxs=>aR i λj=>(0≤j∧j.toNat<xs.length∧j<1000000)∧K (.list (xs.set j.toNat v))))
def F8 (σ:Sg) (o i v:SV) (K:Sg->Prop):Prop:=bE o λk=>bN σ k λo=>XcT σ o i v λo=>K (σ.set k o)
variable {h:Heap}
theorem lL {G:Cw w κ} {t:Nat} {o i v:SV} {O' I V:Value} {K:Sg->Prop} {R':Unit->Heap->Nat->Prop}
  (H:Hs G τ σ h) (ro:RV τ o O') (ri:RV τ i I) (rv:RV τ v V) (m:F8 σ o i v K) (q:∀σ' h' t',Hs G τ σ' h'->K σ'->R' () h' t'):Wp G.c (setItem O' I V) R' h t:=by
 obtain⟨f,vs,l,S⟩:=H.S;obtain⟨k,rfl,o,hob,p1⟩:=bh m;cases zi:Nat.beq (kd i) 3 with
 |true=>
  obtain⟨z,rfl,p3⟩:=b0 (p1.br.1 zi);obtain⟨u,rfl⟩:=ri;unfold V7 at p3;cases z0:kQ o with
  |true=>
   cases nZ z0;obtain⟨y,d,rfl,hk,g1,g4⟩:=S.R.get ro hob;refine gM (dO g1) λe b a U=>?_;obtain rfl:=a;exact bL f (tM S.A jM (Nat.zero_le _) U λp h' n c=>q _ _ _ ⟨H.V,⟨_,_,_,S.T,c,S.L,S.R.chg (o:=.dic [(z,v)]) hob hk (.inl rfl) cZ cK (ya _ _ dz n (tK (kvs:=[]) (kv:=[]) rv rfl rfl) g4)⟩,H.le⟩ (p3.br.1 z0))
  |false=>
   obtain⟨kvs,rfl,h0,p4⟩:=ku (p3.br.2 z0);obtain⟨y,d,rfl,hk,kv,o,g1,g2,g3,g4⟩:=S.R.get ro hob;refine gM (dO g1) λe b a U=>?_;obtain rfl:=a;exact bL f (tM S.A g2 (by rw[tN g3];omega) U λp h' n c=>q _ _ _ ⟨H.V,⟨_,_,_,S.T,c,S.L,S.R.chg (o:=.dic (kvs++[(z,v)])) hob hk (.inl rfl) cZ cK (ya _ _ dz n (tK rv g3 h0.1) g4)⟩,H.le⟩ p4)
 |false=>
  cases z0:kQ o with
  |true=>
   cases nZ z0;obtain⟨y,d,rfl,hk,g1,g4⟩:=S.R.get ro hob;refine gM (dO g1) λe b a U=>?_;obtain rfl:=a;cases z4:Nat.beq (kd i) 4 with
   |true=>
    obtain⟨j,rfl,p3⟩:=bh (((p1.br.2 zi).br.1 z0).br.1 z4);refine Wc (tW S.R ri p3) λA z u i B g r x=>?_;obtain rfl:=g;exact bL f (CW (G.O.turn S.T).rm S.A U r λp h' t c=>q _ _ _ ⟨H.V,⟨_,_,_,S.T,c,S.L,S.R.chg (o:=.opq) hob hk (.inl rfl) cZ cK trivial⟩,H.le⟩ x)
   |false=>
    obtain⟨j,rfl,p3⟩:=bU (((p1.br.2 zi).br.1 z0).br.2 z4);obtain⟨u,rfl⟩:=ri;exact bL f (wD S.A U λp h' c=>q _ _ _ ⟨H.V,⟨_,_,_,S.T,c,S.L,S.R.chg (o:=.opq) hob hk (.inl rfl) cZ cK trivial⟩,H.le⟩ p3)
  |false=>
   obtain⟨s,rfl,p3⟩:=cq ((p1.br.2 zi).br.2 z0);obtain⟨j,rfl,h0,p4⟩:=bU p3;obtain⟨u,rfl⟩:=ri;obtain⟨y,d,rfl,hk,ws,n',g1,g2⟩:=S.R.get ro hob;refine gM (dO g1) λe b a U=>?_;obtain rfl:=a;exact bL f (Ey S.A U (by simp[g2.len];omega) λh' c=>q _ _ _ ⟨H.V,⟨_,_,_,S.T,c,S.L,S.R.chg (o:=.list (s.set j.toNat v)) hob hk (.inl rfl) cZ cK ⟨_,_,dz,g2.set rv⟩⟩,H.le⟩ p4)
def i9 (o i v:AE) (r:AS):AS:=λΦ fr σ K KE=>v Φ fr σ (λv σ=>o Φ fr σ (λo σ=>i Φ fr σ (λi σ=>F8 σ o i v λσ=>r Φ fr σ K KE) KE) KE) KE
theorem Ef {o i:Expr} (hs:∀env,κ.sc=env.scope->swapsWith e (some (.Subscript o i px)) pos.line env=pure false) (s:av w κ e m) (so:av w κ o m1) (si:av w κ i m2) (r:bq w κ rest ms):bq w κ (.Assign [.Subscript o i px] e pos::rest) (i9 m1 m2 m ms):=λG n Z Z Z Z Z Z H m q=>
 D5 (hs _ rfl) (s (G.at n) H m λv u x K F A p c t j=>so (G.at n) t j λB C M N P D b d g l=>si (G.at n) g l λQ I J E y O a k h f=>lL h (d.up a) k (c.up (b.trans a)) f λz R S L m=>r G L m (q.pre ((p.trans b).trans a)))
def nt (tg:Tg) (o i a:AE) (r:AS):AS:=λΦ fr σ K KE=>a Φ fr σ (λv σ=>jD σ v 2 λxs=>two xs λx y=>tg.put x fr σ λfr σ=>o Φ fr σ (λo σ=>i Φ fr σ (λi σ=>F8 σ o i y λσ=>r Φ fr σ K KE) KE) KE) KE
variable {kt:Nat}
theorem vB {tpos:Pos} {tg:Tg} {o i:Expr} {p2:Pos} (hx:tg.is κ x) (hc:κ.cm=none) (hs:∀env,κ.sc=env.scope->swapsWithSole [.Tuple [.Name x px,.Subscript o i p2] kt tpos] e pos.line env=pure false) (hw:∀env,κ.sc=env.scope->swappedStores [.Tuple [.Name x px,.Subscript o i p2] kt tpos] e env=pure none)
  (s:av w κ e m) (so:av w κ o m1) (si:av w κ i m2) (r:bq w κ rest ms):bq w κ (.Assign [.Tuple [.Name x px,.Subscript o i p2] kt tpos] e pos::rest) (nt tg m1 m2 m ms):=λG Y Z Z Z Z Z Z H m q=>
 tw (hs _ rfl) (hw _ rfl) (s (G.at Y) H m λS L Q a3 D E n u a p=>i5 (G:=G) a u p λza zx zV X zr zn P z zv zl d zm=>by
  obtain⟨x,y,A,B,C,r1,I,k⟩:=jP P zr;rw[X];refine bL z (tR (G.O.turn d.T) d.A (In.at_ zm) (by rw[C];rfl) rfl λh' K=>?_);rw[C];refine qq z (rP rfl (nK (dJ (G:=G) hx hc ⟨a.V,⟨_,_,_,d.T,K,d.L,d.R⟩,a.le⟩ r1 k λc Z Z Z J k3=>rP rfl (GU ?_))));exact so (G.at c) J k3 λa0 U a1 a4 N M f v j t=>si (G.at c) j t λR F T O a2 V b h l g=>lL l (v.up b) h (I.up (f.trans b)) g λW h5 t5 H5 m=>yy (r G H5 m (q.pre ((n.trans f).trans b))))
def pZ:KX:=λZ Z=>False
noncomputable def Cs.lay (G:Cs w κ) (E':Value->Shared->Prop) (X:Xs):Cs w κ:=⟨G.c.wE E',G.Φ,G.n,G.τ0,X,pZ,G.P,G.O.wE E',λZ Z Z Z Z Z Z Z ke Z=>ke.elim⟩
variable {c:Cf w} {g':Heap} {vs:List (Option Value)}
theorem oJ.wE {ns:List Str} {fr:cf} (S:oJ c ns fr σ τ X h g' vs l) (E':Value->Shared->Prop):oJ (c.wE E') ns fr σ τ X h g' vs l:=⟨S.T,⟨S.A.F,S.A.N,S.A.k⟩,S.L,S.R⟩
variable {E':Value->Shared->Prop}
theorem oJ.nE {ns:List Str} {fr:cf} (S:oJ (c.wE E') ns fr σ τ X h g' vs l):oJ c ns fr σ τ X h g' vs l:=⟨S.T,⟨S.A.F,S.A.N,S.A.k⟩,S.L,S.R⟩
variable {mt:AT} {ms1 ms2:AS} {body:List Stmt} {G:Cs w κ} {fr:cf} {t:Nat} {E1 E2:Value->Shared->Prop}
end
section
variable {w:World} {κ:Ek} {e e1 e2 e3:Expr} {m m1 m2:AE} {mt:AT} {ms ms1 ms2:AS} {pos px:Pos} {x:Str} {rest body:List Stmt} {G:Cs w κ} {fr:cf} {τ:Tb} {σ:Sg} {h:Heap} {t:Nat} {E1 E2:Value->Shared->Prop}
structure Hf (G:Cs w κ) (X:Xs) (fr:cf) (τ:Tb) (σ:Sg) (h:Heap):Prop where
 V:gC G.c κ fr τ
 S:E9 G.c κ.ns fr σ τ X h
 le:G.τ0.le τ
theorem Hs.f (H:Hs (G.at fr) τ σ h):Hf G G.X fr τ σ h:=⟨H.V.1,H.S,H.le⟩
theorem Hf.s (hc:κ.cm=none) (H:Hf G G.X fr τ σ h):Hs (G.at fr) τ σ h:=⟨.fn hc H.V,H.S,H.le⟩
theorem Hf.lay {X:Xs} (hc:κ.cm=none) (H:Hf G X fr τ σ h) (E':Value->Shared->Prop):Hs ((G.lay E' X).at fr) τ σ h:=by
 obtain⟨a,vs,l,S⟩:=H.S;exact⟨.fn hc H.V,⟨a,vs,l,S.wE E'⟩,H.le⟩
variable {E':Value->Shared->Prop}
theorem Hs.unl {X:Xs} (H:Hs ((G.lay E' X).at fr) τ σ h):Hf G X fr τ σ h:=by
 obtain⟨a,vs,l,S⟩:=H.S;exact⟨H.V.1,⟨a,vs,l,S.nE⟩,H.le⟩
def flK (again:cf->Sg->Prop) (W:ft):ft:=λf fr σ=>match f with
 |.next=>again fr σ
 |.cont=>again fr σ
 |.brk=>W .next fr σ
 |.ret v=>W (.ret v) fr σ
noncomputable def whM (t:AT) (b:AS) (Φ:Nat->eL) (W:ft):Nat->cf->Sg->Prop
 |0,_,_=>False
 |n+1,fr,σ=>t Φ fr σ (λx σ=>bI x (b Φ fr σ (flK (whM t b Φ W n) W) pZ) (W .next fr σ)) pZ
def Wf (t:AT) (b r:AS):AS:=λΦ fr σ K KE=>∃n,whM t b Φ (kX (λfr σ=>r Φ fr σ K KE) K) n fr σ
theorem Gv {c:Cf w} {env:Env} {test:Expr} {QF:Flow->Heap->Nat->Prop} (q:∀E',Wp (c.wE E') (isTrue test env (eval test env)) (λb h t=>Br b (Wp (c.wE E') (execs body env) (WhQ c env test body QF) h t) (QF .next h t)) h t):Wh c env test body QF h t:=by
 refine Ce λE'=>(q E').go λb h t y=>?_;refine Br.ite ⟨λz=>(y.1 z).go λf h t u=>?_,λz=>aJ (y.2 z)⟩;cases f<;>first|exact u|exact aJ u
variable {Q:Flow->Heap->Nat->Prop} {n:Nat}
set_option tactic.hygienic true in
theorem wh_ (hc:κ.cm=none) (st:eU w κ e mt) (sb:bq w κ body ms) {W:ft}:∀{fr:cf} {τ:Tb} {σ:Sg} {h:Heap} {t:Nat},whM mt ms G.Φ W n fr σ->Hf G G.X fr τ σ h->QS G τ W Q->Wh G.c (G.c.ev κ.sc) e body Q h t:=by
 induction n with
 |zero=>intro _ _ _ _ _ m;exact m.elim
 |succ n ih=>
  intro fr τ σ h t m H q;refine Gv λr=>st ((G.lay r G.X).at fr) (H.lay hc r) m λE u A p s d b g=>⟨λz=>sb (G.lay r G.X) b (g.br.1 z) λf i a c F C B x j o k=>?_,λz=>q .next fr u A .next p s d rfl (Hf.s hc (Hs.unl b)) (g.br.2 z)⟩;have l:=d.trans x;cases f
  case next=>obtain rfl:=j;exact ih k (Hs.unl o) (q.pre l)
  case cont=>obtain rfl:=j;exact ih k (Hs.unl o) (q.pre l)
  case brk=>obtain rfl:=j;exact q .next i a c .next C B l rfl (Hf.s hc (Hs.unl o)) k
  case ret v=>refine bn j λV y D=>?_;obtain rfl:=y;exact q (.ret v) i a c (.ret V) C B l (bv V rfl D) (Hf.s hc (Hs.unl o)) k
theorem XdY (hc:κ.cm=none) (st:eU w κ e mt) (sb:bq w κ body ms) (r:bq w κ rest ms1):bq w κ (.While e body [] pos::rest) (Wf mt ms ms1):=λG a Z Z Z Z Z Z H m q=>by
 obtain⟨n,m⟩:=m;exact Id (wh_ hc st sb m H.f (Tq r Tb.le.refl q))
end
section
variable {w:World} {κ:Ek}
inductive kU
 |list (k n:Nat)|tp (k n:Nat)|rng (n:Nat)|str (z:Str)|kt (a:Addr)
noncomputable def Hr:List (Addr×List Str):=[(551,["Kernel"]),(552,["Comparable"]),(553,["Comparable"]),(554,["Comparable"]),(555,["Enumerable"]),(556,["Enumerable"]),(557,["Enumerable"])]
noncomputable def uQ (a:Addr):List Str:=match Hr.find? λp=>Nat.beq p.1 a with
 |some p=>p.2
 |none=>[]
noncomputable def kU.len (s:kU):Nat:=match s with
 |.list _ n=>n
 |.tp _ n=>n
 |.rng n=>n
 |.str z=>z.cps.size
 |.kt a=>(uQ a).length
noncomputable def kU.ok (s:kU) (σ:Sg):Prop:=match s with
 |.list k n=>bN σ k λo=>cP o λxs=>xs.length=n
 |.tp k n=>bN σ k λo=>iz o λxs=>xs.length=n
 |.kt a=>(Hr.any λp=>Nat.beq p.1 a)=true
 |_=>True
noncomputable def kU.at (s:kU) (σ:Sg) (i:Nat) (K:SV->Prop):Prop:=match s with
 |.list k _=>bN σ k λo=>cP o λxs=>bX xs[i]? K
 |.tp k _=>bN σ k λo=>iz o λxs=>bX xs[i]? K
 |.rng _=>K (.int i)
 |.str z=>bX (z.cps[i]?) λc=>K (.str ⟨#[c]⟩)
 |.kt a=>bX ((uQ a)[i]?) λz=>K (.str z)
def Xei (k:Nat) (o:SO) (K:kU->Prop):Prop:=bI (yF o) (cP o λxs=>K (.list k xs.length)) (bI (jY o) (iz o λxs=>K (.tp k xs.length)) (yh o λa b=>(a=0∧0≤b∧b≤1000000)∧K (.rng b.toNat)))
def q5 (σ:Sg) (v:SV) (K:kU->Prop):Prop:=bI (Nat.beq (kd v) 3) (cj v λz=>K (.str z)) (bI (Nat.beq (kd v) 5) (gB v λa=>(Hr.any λp=>Nat.beq p.1 a)=true∧K (.kt a)) (bE v λk=>bN σ k λo=>Xei k o K))
noncomputable def pX:List String:=["enumerate","zip","dict_itemiterator","dict_reverseitemiterator","odict_iterator","itertools.zip_longest","itertools.pairwise"]
structure kO (w:World) (s:kU) (I:Addr) (τ:Tb) (St:Nat->Heap->Prop):Prop where
 go:∀{τ':Tb} {σ:Sg} {X:Xs} {l:bu} {h:Heap} {i:Nat},τ.le τ'->aA w τ' σ X l->(∀p∈l,h.get? p.1=some p.2)->(HK w.params).In h->St i h->s.ok σ->
  ∃side P St',It PP w I side s.len P St'∧St' i h∧(∀j h',St' j h'->St j h')∧∀v K,P i v->s.at σ i K->∃x,RV τ' x v∧K x
 keep:∀{i:Nat} {h h':Heap},St i h->(∀o,h.get? I=some o->h'.get? I=some o)->St i h'
 own:∀{i:Nat} {h:Heap},St i h->∃o ty fs,h.get? I=some o∧o.cls=.type ty∧o.data=.fields fs∧pX.contains ty=false
variable {I a:Addr}
theorem vY (ws:List Value) (hne:a≠I) {nn:Nat}:It PP w I [(a,aL ws nn)] ws.length (λi v=>ws[i]?=some v) (λi h=>h.IsListIter I a i∧h.IsList a ws.toArray):=⟨λd c=>by
 simpa using (Walks.list (prog:=PP) (w:=w) (A:=d) c I a hne ws.toArray),λi h ⟨⟨o,b,_⟩,_⟩=>⟨o,b⟩⟩
variable {ob:Obj}
theorem rD (ws:List Value) (hne:a≠I):It PP w I [(a,ob)] ws.length (λi v=>ws[i]?=some v) (λi h=>h.IsTupleIter I a i∧h.IsTuple a ws.toArray):=⟨λd c=>by
 simpa using (Walks.tuple (prog:=PP) (w:=w) (A:=d) c I a hne ws.toArray),λi h ⟨⟨o,b,_⟩,_⟩=>⟨o,b⟩⟩
variable {τ:Tb} {k n:Nat}
theorem qD {I a d:Addr} (ht:τ k=some (a,d)) (hne:a≠I):kO w (.list k n) I τ (λi h=>h.IsListIter I a i):=by
 refine⟨λ{y M X l h i} E R H Z C e=>?_,λ⟨o,f,x⟩ q=>(bv o (q o f) x),λ⟨o,f,B,F⟩=>(gW o _ _ f B F (by decide))⟩;obtain⟨u,b,e⟩:=e;obtain⟨J,rfl,hn⟩:=cq e;obtain⟨x,L,p,g,nn,D,r⟩:=R.ob _ _ b;rw[E _ _ ht]at p;cases p;have j:=vY (w:=w) (I:=I) g hne (nn:=nn);rw[(r.len.trans hn:g.length=n)]at j;refine(gW _ _ _ j ⟨C,jn _ (H _ D) rfl ⟨nn,rfl⟩⟩ (λZ Z z=>z.1) (λv K G m=>?_));obtain⟨u,c,m⟩:=m;cases b.symm.trans c;obtain⟨x,s,m⟩:=m;refine bn (r.get s) λX A t=>?_;cases A.symm.trans G;exact(bv x t m)
theorem A6 {I a d:Addr} (ht:τ k=some (a,d)) (hne:a≠I):kO w (.tp k n) I τ (λi h=>h.IsTupleIter I a i):=by
 refine⟨λ{u L X l h i} D R G Z B f=>?_,λ⟨o,g,x⟩ q=>(bv o (q o g) x),λ⟨o,g,A,E⟩=>(gW o _ _ g A E (by decide))⟩;obtain⟨ob,b,f⟩:=f;obtain⟨H,rfl,hn⟩:=iu f;obtain⟨x,J,p,e,C,r⟩:=R.ob _ _ b;rw[D _ _ ht]at p;cases p;have j:=rD (w:=w) (I:=I) e hne (ob:=cR e);rw[(r.len.trans hn:e.length=n)]at j;refine(gW _ _ _ j ⟨B,jn _ (G _ C) rfl ⟨0,rfl⟩⟩ (λZ Z z=>z.1) (λv K F m=>?_));obtain⟨ob,c,m⟩:=m;cases b.symm.trans c;obtain⟨x,s,m⟩:=m;refine bn (r.get s) λX y t=>?_;cases y.symm.trans F;exact(bv x t m)
theorem uM:kO w (.rng n) I τ (λi h=>IsRangeIter h I (0+(i:Nat)*1) ((n:Int) - (i:Nat)) 1):=by
 refine⟨λ{c j X l h i} f R k Z a g=>⟨[],λi v=>∃t,v=.int (0+i*1) t,λi h=>IsRangeIter h I (0+(i:Nat)*1) ((n:Int) - (i:Nat)) 1,⟨λb e=>?_,λi h a=>⟨_,a⟩⟩,a,λZ Z z=>z,λv K d m=>?_⟩,λa q=>q _ a,λa=>(gW _ _ _ a rfl rfl (by decide))⟩
 ·have z:=Walks.range (prog:=PP) (w:=w) (A:=b) e I 0 1 n
  exact z
 ·obtain⟨t,rfl⟩:=d
  exact⟨.int i,⟨t,by simp⟩,m⟩
theorem oW {z:Str} {u:Tok} {ty:String} (hty:pX.contains ty=false) (hW:∀A:Around,A.handled=none->Walks PP w A I [I] [I] z.cps.size (SignAt z) (λi h=>h.IsStrIter I ty z u i)):kO w (.str z) I τ (λi h=>h.IsStrIter I ty z u i):=by
 refine⟨λ{f s X l h i} n R t Z g r=>(gW ([]) _ _ ⟨hW,λi h ⟨o,a,_⟩=>⟨o,a⟩⟩ g (λZ Z z=>z) (λv K k m=>?_)),λ⟨o,a,x⟩ q=>(bv o (q o a) x),λ⟨o,a,d,j⟩=>(gW o _ _ a d j hty)⟩;refine gM k λc u d b=>?_;obtain rfl:=b;obtain⟨p,e,m⟩:=m;cases d.symm.trans e;exact(bv (.str ⟨#[c]⟩) ⟨u,rfl⟩ m)
noncomputable def uk:List Str->List Value->Bool
 |[],vs=>vs.isEmpty
 |z::zs,vs=>match vs with
  |[]=>false
  |v::vs=>(match v with
   |.str y _=>y==z
   |_=>false)&&uk zs vs
set_option tactic.hygienic true in
theorem zM {zs:List Str}:∀{vs:List Value},uk zs vs=true->bZ τ (zs.map SV.str) vs:=by
 induction zs with
 |nil=>intro vs h;cases vs with
  |nil=>rfl
  |cons=>exact cp h
 |cons z zs ih=>intro vs h;cases vs with
  |nil=>exact cp h
  |cons v vs=>
   have h:=WU _ _▸h;cases v
   case str y u=>cases XJ h.1;exact⟨_,_,rfl,⟨_,rfl⟩,ih h.2⟩
   all_goals cases h.1
theorem F0:(Hr.all λp=>match pV (HK w.params) p.1 with
 |some xs=>uk (uQ p.1) xs
 |none=>false)=true:=by kernel_rfl
theorem xX (h:(Hr.any λp=>Nat.beq p.1 a)=true):∃xs,pV (HK w.params) a=some xs∧∀τ,bZ τ ((uQ a).map SV.str) xs:=by
 refine bn (Yt.mp h) λp b e=>?_;cases W9 e;have z:=WZ.mp (F0 (w:=w)) p b;cases ez:pV (HK w.params) p.1 with
 |none=>rw[ez]at z;exact cp z
 |some xs=>rw[ez]at z;exact(bv xs rfl (λτ=>zM z))
theorem Dg (hne:a≠I):kO w (.kt a) I τ (λi h=>h.IsTupleIter I a i):=by
 refine⟨λ{b C X l h i} B R D y p r=>?_,λ⟨o,e,x⟩ q=>(bv o (q o e) x),λ⟨o,e,n,u⟩=>(gW o _ _ e n u (by decide))⟩;refine bn (xX (w:=w) r) λd t g=>?_;have c:d.length=(uQ a).length:=(g b).len.trans (W0 _);have f:=rD (w:=w) (I:=I) d hne (ob:=cR d);rw[c]at f;refine(gW _ _ _ f ⟨p,ii y t⟩ (λZ Z z=>z.1) (λv K A m=>?_));obtain⟨z,s,m⟩:=m;refine bn ((g b).get (i:=i) (x:=.str z) (by rw[Xd,s];rfl)) λX k j=>?_;cases k.symm.trans A;exact(bv _ j m)
variable {G:Cs w κ} {fr:cf} {σ:Sg} {h:Heap} {t:Nat} {s:kU}
theorem fB {Q:Value->Shared->Prop} {St:Nat->Heap->Prop} {g':Heap} {vs:List (Option Value)} {l:bu} (ob:Obj) (hf:ob.isFreed=false) (H:Hs (G.at fr) τ σ h) (S:oJ G.c κ.ns fr σ τ G.X h g' vs l) (it:kO w s h.objs.size τ St) (st:St 0 (h.push ob)) (q:∀I o h St,kO w s I τ St->St 0 h->Hf G ⟨G.X.own,(I,o)::G.X.far⟩ fr τ σ h->(∀p∈G.X.own++G.X.far,p.1≠I)->Q (.ref I) ⟨h,G.c.gn,G.c.d,t,G.c.os⟩):
  Q (.ref h.objs.size) ⟨h.push ob,G.c.gn,G.c.d,t,G.c.os⟩:=by
 have b:=S.A.push ob hf;have a:=(W2.mp b.k.nd).1;exact q h.objs.size ob _ St it st ⟨H.V.1,⟨_,_,_,S.T,b,S.L,S.R.lay a⟩,H.le⟩ λp c e=>a (e▸Xm (f:=(·.1)) (S.R.X1 p c))
variable {v:SV} {V:Value}
theorem sX {K:kU->Prop} {Q:Value->Heap->Nat->Prop} (H:Hs (G.at fr) τ σ h) (rv:RV τ v V) (m:q5 σ v K) (q:∀s,K s->∀I o h St,kO w s I τ St->St 0 h->Hf G ⟨G.X.own,(I,o)::G.X.far⟩ fr τ σ h->(∀p∈G.X.own++G.X.far,p.1≠I)->Q (.ref I) h t):Wp G.c (pyIter V) Q h t:=by
 obtain⟨D,E,l,S⟩:=H.S;cases z3:Nat.beq (kd v) 3 with
 |true=>
  obtain⟨z,rfl,k⟩:=b0 (m.br.1 z3);obtain⟨u,rfl⟩:=rv;cases ha:z.cps.all (·<128)
  ·exact wpAny_pyIter_wide ha (fB (St:=λi j=>j.IsStrIter h.objs.size "str_iterator" z u i) _ rfl H S (oW (by decide) λF B=>Walks.strWide B _ z u) (jn _ (XN _ rfl) rfl rfl) λI o h St f g H e=>aJ (c:=G.c) (q _ k I o h St f g H e))
  ·exact wpAny_pyIter_ascii ha (fB (St:=λi j=>j.IsStrIter h.objs.size "str_ascii_iterator" z u i) _ rfl H S (oW (by decide) λF B=>Walks.strAscii B _ z u) (jn _ (XN _ rfl) rfl rfl) λI o h St f g H e=>aJ (c:=G.c) (q _ k I o h St f g H e))
 |false=>
  cases z5:Nat.beq (kd v) 5 with
  |true=>
   obtain⟨a,rfl,ok,k⟩:=gf ((m.br.2 z3).br.1 z5);obtain rfl:=rv;refine bn (xX (w:=w) ok) λE A Z=>?_;have C:=ii (kE (c:=G.c.wg D) (G.O.turn S.T) S.A) A;have r:a<h.objs.size:=by refine bn C λo L Z=>?_;exact Xe L
   exact wpAny_pyIter_tuple (s:=⟨h,G.c.gn,G.c.d,t,G.c.os⟩) C (fB (St:=λi j=>j.IsTupleIter h.objs.size a i) _ rfl H S (Dg (XC r)) (jn _ (XN _ rfl) rfl rfl) λI o h St f g H e=>aJ (c:=G.c) (q _ k I o h St f g H e))
  |false=>
   obtain⟨k,rfl,o,hob,m2⟩:=bh ((m.br.2 z3).br.2 z5);cases zl:yF o with
   |true=>
    obtain⟨J,rfl,m3⟩:=cq (m2.br.1 zl);obtain⟨y,d,rfl,hk,vs,n',g1,g2⟩:=S.R.get rv hob;exact wpAny_pyIter_list (s:=⟨h,G.c.gn,G.c.d,t,G.c.os⟩) (bJ S.A.N g1) (fB (St:=λi j=>j.IsListIter h.objs.size y i) _ rfl H S (qD hk (XC (Xe (S.A.N _ g1).1))) (jn _ (XN _ rfl) rfl rfl) λI o h St f g H e=>aJ (c:=G.c) (q _ m3 I o h St f g H e))
   |false=>
    cases zt:jY o with
    |true=>
     obtain⟨J,rfl,m4⟩:=iu ((m2.br.2 zl).br.1 zt);obtain⟨y,d,rfl,hk,vs,g1,g2⟩:=S.R.get rv hob;exact wpAny_pyIter_tuple (s:=⟨h,G.c.gn,G.c.d,t,G.c.os⟩) (gh S.A.N (In.at_ g1)) (fB (St:=λi j=>j.IsTupleIter h.objs.size y i) _ rfl H S (A6 hk (XC (Xe (S.A.N _ g1).1))) (jn _ (XN _ rfl) rfl rfl) λI o h St f g H e=>aJ (c:=G.c) (q _ m4 I o h St f g H e))
    |false=>
     obtain⟨a,b,rfl,⟨rfl,hb0,hb1⟩,m4⟩:=zP ((m2.br.2 zl).br.2 zt);obtain⟨y,d,rfl,hk,t1,u1,v1,g1⟩:=S.R.get rv hob;have n:Builtin.Range.small 0 b 1=true:=small_one (Fk (by decide)) (qz (by decide)) (Cz hb0) (La hb1);have x:Builtin.Range.rangeSize 0 b 1=((b.toNat:Nat):Int):=by rw[rangeSize_one];split<;>lia
     refine wpAny_pyIter_range (s:=⟨h,G.c.gn,G.c.d,t,G.c.os⟩) ((S.A.N _ g1).1:IsRange h y 0 b 1 t1 u1 v1) n (fB (St:=λi j=>IsRangeIter j h.objs.size (0+(i:Nat)*1) (((b.toNat:Nat):Int) - (i:Nat)) 1) _ rfl H S uM ?_ λI o h St f g H e=>aJ (c:=G.c) (q _ m4 I o h St f g H e));rw[x];show(h.push _).get? _=_;have A:(0:Int)+((0:Nat):Int)*1=0:=rfl;have M:((b.toNat:Nat):Int) - ((0:Nat):Int)=((b.toNat:Nat):Int):=by rfl
     rw[A,M];exact XN _ rfl
variable {c:Cf w} {ns:List Str} {vs:List (Option Value)} {r:bu} {oI:Obj} {side:bu} {i:Nat} {P:Nat->Value->Prop} {St:Nat->Heap->Prop} {Q:Option Value->Shared->Prop} {E:Value->Shared->Prop}
theorem Vj (J:It PP w I side n P St) (hh:c.A.handled=none) (st:St i h) (hi:i<n) (A:At c ns vs ((I,oI)::r) h)
  (q:∀v h' tk o',P i v->St (i+1) h'->At c ns vs ((I,o')::r) h'->Q (some v) ⟨h',c.gn,c.d,tk,c.os⟩):wpAny (model PP w) c.A (pyNext (.ref I)) Q E ⟨h,c.gn,c.d,t,c.os⟩:=by
 refine(J.W c.A hh).item i _ _ _ hi st λv h' tk l d k=>?_;obtain⟨o',f⟩:=J.live _ _ d;have a:∀b o,b≠I->h.get? b=some o->h'.get? b=some o:=λb o g e=>k b o (λj=>g (XA.mp j)) e;refine q v h' tk o' l d ⟨⟨A.F.ns.at' λo e=>a _ o (Ne.symm (A.N _ (.head _)).2.1) e,λb o e=>a b o (λq=>?_) (A.F.keep b o e),A.F.above⟩,λp hp=>?_,⟨A.k.nd⟩⟩
 ·rw[q]at e;rw[(A.N _ (.head _)).2.2]at e;exact cX e
 ·rcases WY.mp hp with rfl|hp
  ·exact⟨f,(A.N _ (.head _)).2⟩
  ·exact⟨a _ _ (A.k.off p hp) (A.N p (.tail _ hp)).1,(A.N p (.tail _ hp)).2⟩
theorem Xcz (J:It PP w I side n P St) (hh:c.A.handled=none) (st:St n h) (A:At c ns vs ((I,oI)::r) h)
  (q:∀h' tk,At c ns vs r h'->Q none ⟨h',c.gn,c.d,tk,c.os⟩):wpAny (model PP w) c.A (pyNext (.ref I)) Q E ⟨h,c.gn,c.d,t,c.os⟩:=by
 refine(J.W c.A hh).done _ _ _ st λh' tk g=>?_;have a:∀b o,b≠I->h.get? b=some o->h'.get? b=some o:=λb o f e=>g b o (λi=>f (XA.mp i)) e;refine q h' tk ⟨⟨A.F.ns.at' λo e=>a _ o (Ne.symm (A.N _ (.head _)).2.1) e,λb o e=>a b o (λq=>?_) (A.F.keep b o e),A.F.above⟩,λp d=>?_,A.k.tail⟩
 ·rw[q]at e;rw[(A.N _ (.head _)).2.2]at e;exact cX e
 ·exact⟨a _ _ (A.k.off p d) (A.N p (.tail _ d)).1,(A.N p (.tail _ d)).2⟩
variable {ow fa:bu} {τ1:Tb}
theorem Hf.here {q:Addr×Obj} (H:Hf G ⟨ow,q::fa⟩ fr τ σ h):h.get? q.1=some q.2:=by
 obtain⟨a,vs,l,S⟩:=H.S;exact(S.A.N q (S.R.X1 q (WW _ (.head _)))).1
theorem y4 {K:SV->Prop} (it:kO w s I τ1 St) (le:τ1.le τ) (off:∀p∈ow++fa,p.1≠I) (st:St i h) (hi:i<s.len) (H:Hf G ⟨ow,(I,oI)::fa⟩ fr τ σ h) (ok:s.ok σ) (m:s.at σ i K) (q:∀V x h t o,RV τ x V->K x->St (i+1) h->Hf G ⟨ow,(I,o)::fa⟩ fr τ σ h->Q (some V) ⟨h,G.c.gn,G.c.d,t,G.c.os⟩):
  wpAny (model PP w) G.c.A (pyNext (.ref I)) Q E ⟨h,G.c.gn,G.c.d,t,G.c.os⟩:=by
 obtain⟨g,vs,l,S⟩:=H.S;refine mC (it.go le S.R (λp b=>(S.A.N p b).1) (kE (c:=G.c.wg g) (G.O.turn S.T) S.A) st ok) λj P F J d vO k=>?_;refine ic (dn (S.R.X1 (I,oI) (WW _ (.head _)))) λr B v L=>?_;refine Vj (c:=G.c.wg g) J G.O.hh d hi (S.A.sub v) λV D y f A a n=>?_;refine bn (k V K A m) λx u z=>?_;exact q V x D y f u z (vO _ _ a) ⟨H.V,⟨_,_,_,S.T,n,S.L,aA.far (X:=⟨ow,fa⟩) (q:=(I,oI)) (o:=f) (l':=(I,f)::r) (S.R.cong B) off (λp b C=>.tail _ ((WY.mp b).resolve_left λe=>C (e▸rfl))) (.head _)⟩,H.le⟩
theorem QN (it:kO w s I τ1 St) (le:τ1.le τ) (st:St s.len h) (H:Hf G ⟨ow,(I,oI)::fa⟩ fr τ σ h) (ok:s.ok σ) (hn:∀h' tk,Hf G ⟨ow,fa⟩ fr τ σ h'->Q none ⟨h',G.c.gn,G.c.d,tk,G.c.os⟩) (off:∀p∈ow++fa,p.1≠I):
  wpAny (model PP w) G.c.A (pyNext (.ref I)) Q E ⟨h,G.c.gn,G.c.d,t,G.c.os⟩:=by
 obtain⟨d,vs,l,S⟩:=H.S;refine mC (it.go le S.R (λp a=>(S.A.N p a).1) (kE (c:=G.c.wg d) (G.O.turn S.T) S.A) st ok) λf P n J b vO k=>?_;refine ic (dn (S.R.X1 (I,oI) (WW _ (.head _)))) λr j i o=>?_;exact Xcz (c:=G.c.wg d) J G.O.hh b (S.A.sub i) λh' tk g=>hn h' tk ⟨H.V,⟨_,_,_,S.T,g,S.L,aA.drop (X:=⟨ow,fa⟩) (q:=(I,oI)) (S.R.cong j) off λp a m=>(WY.mp a).resolve_left λe=>m (e▸rfl)⟩,H.le⟩
abbrev iU:=SV->cf->Sg->(cf->Sg->Prop)->Prop
variable {o:Obj}
set_option backward.match.sparseCases true in
theorem Sv {ty:String} {fs:Array Value} {a r:Addr} {A:Around} {s':Shared} {Q':Unit->Shared->Prop} (hc:o.cls=.type ty) (hd:o.data=.fields fs) (hn:pX.contains ty=false) (q:Q' () s'):wpAny (model PP w) A (match o.cls,o.data with
  |.type n,.fields vs=>
   if pX.contains n&&vs[0]? ==some (rawInt a)then do
    rule "for.unpacks-the-owned-tuple"
    updateField r 0 .none
   else pure ()
  |_,_=>pure ()) Q' E s':=by
 rw[hc,hd];show wpAny _ A (if(pX.contains ty&&_)=true then _ else _) Q' E s';rw[hn,Bool.false_and,Xh XE];exact W1 q
def Oo (w:World) (tg:Expr):Prop:=∀{I:Addr} {v:Value} {A:Around} {E:Value->Shared->Prop} {s':Shared} {Q':Unit->Shared->Prop},(∃o ty fs,s'.heap.get? I=some o∧o.cls=.type ty∧o.data=.fields fs∧pX.contains ty=false)->Q' () s'->wpAny (model PP w) A (letOwnedTupleGo tg (.ref I) v) Q' E s'
theorem wS {es:List Expr} {kt:Nat} {p:Pos}:Oo w (.Tuple es kt p):=λ{I v A E d e} h q=>by
 cases v with
 |ref a=>exact h.elim λo h=>h.elim λb h=>h.elim λc h=>WV (wpAny_load h.1 (Sv h.2.1 h.2.2.1 h.2.2.2 q))
 |_=>exact W1 q
def Vu (w:World) (κ:Ek) (tg:Expr) (put:iU):Prop:=∀(G:Cs w κ) {fr τ σ h t x V K} {R:Unit->Heap->Nat->Prop},Hs (G.at fr) τ σ h->RV τ x V->put x fr σ K->(∀fr σ h t,Hs (G.at fr) τ σ h->K fr σ->R () h t)->Wp G.c (assign tg (G.c.ev κ.sc) V) R h t
structure mB (w:World) (κ:Ek) (tg:Expr) (put:iU):Prop where
 own:Oo w tg
 go:Vu w κ tg put
theorem ul {x:Str} {px:Pos} {tg:Tg} (hx:tg.is κ x) (hc:κ.cm=none):mB w κ (.Name x px) tg.put:=⟨λZ q=>W1 q,λG Z Z Z Z Z Z Z Z Z H a m q=>nK (dJ hx hc H a m q)⟩
def mP (is:List Tg):iU:=λv fr σ K=>jD σ v is.length λxs=>kR is xs fr σ K
theorem Ny {es:List Expr} {is:List Tg} {kt:Nat} {tpos:Pos} (hn:lX κ es is) (hc:κ.cm=none):mB w κ (.Tuple es kt tpos) (mP is):=.mk wS λG r k u h t x V K R H e m q=>
 i5 (G:=G) H e m λv n l i d c g b o p a j=>by
  rw[i];exact bL b (tR (G.O.turn a.T) a.A (In.at_ j) ((gt (env:=G.c.ev κ.sc) hn).1.trans (c.symm.trans d.len.symm)) (gt (env:=G.c.ev κ.sc) hn).2 λs f=>qq b (jz (G:=G) hc hn c d g ⟨H.V,⟨_,_,_,a.T,f,a.L,a.R⟩,H.le⟩ q))
noncomputable def nH (s:kU) (put:iU) (b:cf->Sg->ft->Prop) (W:ft):Nat->Nat->cf->Sg->Prop
 |0,_,fr,σ=>s.ok σ∧W .next fr σ
 |m+1,i,fr,σ=>s.ok σ∧s.at σ i λx=>put x fr σ λfr σ=>b fr σ (flK (nH s put b W m (i+1)) W)
def mj (a:AE) (put:iU) (b r:AS):AS:=λΦ fr σ K KE=>a Φ fr σ (λv σ=>q5 σ v λs=>nH s put (λfr σ K=>b Φ fr σ K pZ) (kX (λfr σ=>r Φ fr σ K KE) K) s.len 0 fr σ) KE
variable {e:Expr} {m:AE} {ms ms1:AS} {pos px:Pos} {tg:Expr} {put:iU} {rest body:List Stmt} {E':Value->Shared->Prop}
theorem Wp.to {α:Type} {e:Sem α} {Q:α->Heap->Nat->Prop} {Q':α->Shared->Prop} (x:Wp (c.wE E') e Q h t) (y:∀v h t,Q v h t->Q' v ⟨h,c.gn,c.d,t,c.os⟩):wpAny (model PP w) c.A e Q' E' ⟨h,c.gn,c.d,t,c.os⟩:=Wp.go x y
theorem Hf.unfar {q:Addr×Obj} (H:Hf G ⟨ow,q::fa⟩ fr τ σ h):Hf G ⟨ow,fa⟩ fr τ σ h:=by
 obtain⟨a,vs,l,S⟩:=H.S;exact⟨H.V,⟨_,_,_,S.T,S.A,S.L,aA.unlay (X:=⟨ow,fa⟩) S.R⟩,H.le⟩
end
section
variable {w:World} {κ:Ek}
structure Fp (w:World) (κ:Ek) where
 G:Cs w κ
 s:kU
 τ:Tb
 St:Nat->Heap->Prop
 I:Addr
 put:iU
 ms:AS
 W:ft
noncomputable def Fp.sh (p:Fp w κ) (h:Heap) (t:Nat):Shared:=⟨h,p.G.c.gn,p.G.c.d,t,p.G.c.os⟩
noncomputable def Fp.M (p:Fp w κ) (k i:Nat) (fr:cf) (σ:Sg):Prop:=nH p.s p.put (λfr σ K=>p.ms p.G.Φ fr σ K pZ) p.W k i fr σ
noncomputable def Fp.X (p:Fp w κ) (o:Obj):Xs:=⟨p.G.X.own,(p.I,o)::p.G.X.far⟩
inductive FI (p:Fp w κ) (k:Nat) (s':Shared):Prop
 |mk (i:Nat) (fr:cf) (σ:Sg) (τ':Tb) (h:Heap) (t:Nat) (o:Obj) (e:s'=p.sh h t) (hk:i+k=p.s.len) (le:p.τ.le τ') (st:p.St i h) (H:Hf p.G (p.X o) fr τ' σ h) (m:p.M k i fr σ):FI p k s'
noncomputable def Fp.Z (p:Fp w κ) (k:Nat) (s:Shared):Prop:=∃m,m<k+1∧FI p m s
variable {p:Fp w κ} {k i:Nat} {tg:Expr} {body:List Stmt} {fr:cf} {τ':Tb} {σ:Sg} {R:Result->Shared->Prop} {s:kU} {I:Addr} {o:Obj} {h h':Heap} {St:Nat->Heap->Prop}
theorem kO.keep1 {τ1 τ2:Tb} {σ2:Sg} {fr2:cf} {G:Cs w κ} {ow fa:bu} (it:kO w s I τ1 St) (st:St i h) (H:Hf G ⟨ow,(I,o)::fa⟩ fr τ' σ h) (H':Hf G ⟨ow,(I,o)::fa⟩ fr2 τ2 σ2 h'):St i h':=it.keep st λo a=>W7 (H.here.symm.trans a)▸H'.here
theorem pA {Q:Flow->Shared->Prop} {F F':Flow} {s:Shared} (e:F=F') (z:Q F' s):Q F s:=e.symm▸z
theorem FI.end4 (hc:κ.cm=none) (q:QS p.G p.τ p.W λF h t=>R (.ok F) (p.sh h t)) {t:Nat} {f:Flw} {F:Flow} (le:p.τ.le τ') (rf:RF τ' f F) (H:Hf p.G (p.X o) fr τ' σ h) (m:p.W f fr σ):R (.ok F) (p.sh h t):=q f fr σ τ' F h t le rf (Hf.s hc H.unfar) m
variable {E:Value->Shared->Prop} {V:Value}
theorem FI.turn {Qf:Flow->Shared->Prop} (hc:κ.cm=none) (ha:mB w κ tg p.put) (sb:bq w κ body p.ms) (it:kO w p.s p.I p.τ p.St) (hk:i+(k+1)=p.s.len) (le:p.τ.le τ') (q:QS p.G p.τ p.W λF h t=>R (.ok F) (p.sh h t))
  (z1:∀s,p.Z k s->Qf .next s) (z2:∀s,p.Z k s->Qf .cont s) (z3:∀s,R (.ok .next) s->Qf .brk s) (z4:∀v s,R (.ok (.ret v)) s->Qf (.ret v) s)
  {x:SV} {h2:Heap} {t2:Nat} {o2:Obj} (rv:RV τ' x V) (kx:p.put x fr σ λfr σ=>p.ms p.G.Φ fr σ (flK (p.M k (i+1)) p.W) pZ) (st2:p.St (i+1) h2) (H2:Hf p.G (p.X o2) fr τ' σ h2):
  wpAny (model PP w) p.G.c.A (assign tg (p.G.c.ev κ.sc) V) (λZ s₂=>wpAny (model PP w) p.G.c.A (execs body (p.G.c.ev κ.sc)) Qf E s₂) E (p.sh h2 t2):=by
 refine Wp.to (c:=p.G.c) (ha.go (p.G.lay _ (p.X o2)) (R:=λZ h t=>wpAny (model PP w) p.G.c.A (execs body (p.G.c.ev κ.sc)) Qf E (p.sh h t)) (H2.lay hc _) rv kx λA B G D n C=>?_) λZ Z Z y=>y;refine Wp.to (c:=p.G.c) (sb (p.G.lay _ (p.X o2)) (Q:=λf h t=>Qf f (p.sh h t)) n C λf d e u F l r o b j g=>?_) λZ Z Z y=>y;show Qf F (p.sh l r);have a:=le.trans o;have z:p.M k (i+1) d e->p.Z k (p.sh l r):=λm=>(bv k (XY _) ⟨i+1,d,e,u,l,r,o2,rfl,(Y6 i k).trans hk,a,it.keep1 (it.keep1 st2 H2 n.unl) n.unl j.unl,j.unl,m⟩);cases f with
 |next=>exact pA b (z1 _ (z g))
 |cont=>exact pA b (z2 _ (z g))
 |brk=>exact pA b (z3 _ (FI.end4 (f:=.next) (F:=.next) hc q a rfl j.unl g))
 |ret v=>exact Exists.elim b λV b=>pA b.1 (z4 _ _ (FI.end4 (f:=.ret v) (F:=.ret V) hc q a (bv V rfl b.2) j.unl g))
variable {n:Nat}
theorem FI.loop (hc:κ.cm=none) (ha:mB w κ tg p.put) (sb:bq w κ body p.ms) (it:kO w p.s p.I p.τ p.St) (off:∀q∈p.G.X.own++p.G.X.far,q.1≠p.I) (q:QS p.G p.τ p.W λF h t=>R (.ok F) (p.sh h t)) {s':Shared} (j:FI p n s'):
  codeAny (model PP w) p.G.c.A (.forLoop tg (.ref p.I) body [] (p.G.c.ev κ.sc)) R s':=by
 refine codeAny_forLoop_any (FI p) (λk s' v=>?_) n j;obtain⟨i,u,A,c,h,t,o,e,f,b,g,H,m⟩:=v;rw[e];cases k with
 |zero=>exact QN it b (show p.St p.s.len h from f▸g) H m.1 (λy d B=>ZT (q .next u A c .next y d b rfl (Hf.s hc B) m.2)) off
 |succ k=>exact y4 it b off g (f▸Zb (ZM k)) H m.1 m.2 λV x D C o2 l r a s=>ha.own (it.own a) (FI.turn hc ha sb it f b q (λZ z=>z) (λZ z=>z) (λZ z=>z) (λZ Z z=>z) l r a s)
variable {e:Expr} {m:AE} {ms ms1:AS} {pos px:Pos} {put:iU} {rest:List Stmt} {G:Cs w κ} {τ:Tb} {t:Nat}
theorem XeX (hc:κ.cm=none) (ha:mB w κ tg put) (sb:bq w κ body ms) {W:ft} {Q:Flow->Heap->Nat->Prop} (it:kO w s I τ St) (st:St 0 h) (H:Hf G ⟨G.X.own,(I,o)::G.X.far⟩ fr τ σ h) (off:∀p∈G.X.own++G.X.far,p.1≠I) (m:nH s put (λfr σ K=>ms G.Φ fr σ K pZ) W s.len 0 fr σ) (q:QS G τ W Q):FoG G.c (G.c.ev κ.sc) tg body Q (.ref I) h t:=by
 show codeAny _ _ _ _ _;exact FI.loop (p:=⟨G,s,τ,St,I,put,ms,W⟩) hc ha sb it off (λf fr σ a F h t l b H k=>show lf G.c Q F ⟨h,G.c.gn,G.c.d,t,G.c.os⟩ from aJ (q f fr σ a F h t l b H k)) ⟨0,fr,σ,τ,h,t,o,rfl,X9 _,Tb.le.refl,st,H,m⟩
theorem UK (hc:κ.cm=none) (hs:∀env x,foldedSetIterable e env x=pure x) (ha:mB w κ tg put) (s:av w κ e m) (sb:bq w κ body ms) (r:bq w κ rest ms1):bq w κ (.For tg e body [] pos::rest) (mj m put ms ms1):=λG u Z Z Z Z Z Z H m q=>
 MF (hs _) (s (G.at u) H m λt j p v g i c f b d=>sX (G:=G) b f d λs k I o h St l n H a=>XeX hc ha sb l n H a k (Tq r c q))
variable {ow fa fa':bu} {q:Addr×Obj}
theorem Hf.sub {fa fa':bu} (H:Hf G ⟨ow,fa⟩ fr τ σ h) (m:∀q∈fa',q∈fa):Hf G ⟨ow,fa'⟩ fr τ σ h:=by
 obtain⟨d,vs,l,S⟩:=H.S;refine⟨H.V,⟨_,_,_,S.T,S.A,S.L,S.R.nx,S.R.ob,S.R.dj,S.R.nz.imp λz b=>⟨b.1,λp a=>b.2 p (m p a)⟩,S.R.inl,λp a=>S.R.X1 p ?_,S.R.X2,λk p h c a=>S.R.X3 k p h c (m c a)⟩,H.le⟩;exact(W6.mp a).elim (W3 _) λz=>WW _ (m p z)
theorem Hf.chg {o3:Obj} (H:Hf G ⟨ow,q::fa⟩ fr τ σ h) (off:∀p∈ow++fa,p.1≠q.1) (hs:Heap.SameBut q.1 h h') (g:h'.get? q.1=some o3):Hf G ⟨ow,(q.1,o3)::fa⟩ fr τ σ h':=by
 obtain⟨f,vs,l,S⟩:=H.S;refine ic (dn (S.R.X1 q (WW _ (.head _)))) λr a c i=>?_;exact⟨H.V,⟨_,_,(q.1,o3)::r,S.T,(S.A.sub c).chg1 hs g,S.L,aA.far (X:=⟨ow,fa⟩) (q:=q) (o:=o3) (S.R.cong a) off (λp d b=>.tail _ ((WY.mp d).resolve_left λe=>b (e▸rfl))) (.head _)⟩,H.le⟩
theorem Hf.drop (H:Hf G ⟨ow,q::fa⟩ fr τ σ h) (off:∀p∈ow++fa,p.1≠q.1) (hs:Heap.SameBut q.1 h h'):Hf G ⟨ow,fa⟩ fr τ σ h':=by
 obtain⟨f,vs,l,S⟩:=H.S;refine ic (dn (S.R.X1 q (WW _ (.head _)))) λr b d g=>?_;have A:=S.A.sub d;exact⟨H.V,⟨_,_,r,S.T,⟨A.F.change hs (A.N _ (.head _)).2.1 (A.N _ (.head _)).2.2,λp a=>⟨(hs.2 _ (A.k.off p a)).trans (A.N p (.tail _ a)).1,(A.N p (.tail _ a)).2⟩,A.k.tail⟩,S.L,aA.drop (X:=⟨ow,fa⟩) (q:=q) (S.R.cong b) off λp a c=>(WY.mp a).resolve_left λe=>c (e▸rfl)⟩,H.le⟩
variable {ws:List Value} {ys:List SV}
theorem Hf.adopt {D:Addr} {nD:Nat} (H:Hf G ⟨ow,(D,aL ws nD)::fa⟩ fr τ σ h) (off:∀p∈ow++fa,p.1≠D) (r:bZ τ ys ws):∃τ',τ.le τ'∧RV τ' (.ref σ.nx) (.ref D)∧Hf G ⟨ow,fa⟩ fr τ' (σ.new (.list ys)) h:=by
 obtain⟨b,vs,l,S⟩:=H.S;have a:=S.R.le_up (D,D);exact(jn _ a ⟨D,D,rfl,Xn rfl⟩ ⟨H.V.up a,⟨_,_,_,S.T,S.A,S.L.up a,aA.adopt (X:=⟨ow,fa⟩) S.R off ⟨ws,nD,S.R.X1 _ (WW _ (.head _)),r.up a⟩⟩,H.le.trans a⟩)
theorem Hf.lays {ob:Obj} {x:Addr} (hx:x=h.objs.size) (H:Hf G ⟨ow,fa⟩ fr τ σ h) (hs:∀b o,h.get? b=some o->h'.get? b=some o) (g:h'.get? x=some ob):Hf G ⟨ow,(x,ob)::fa⟩ fr τ σ h'∧∀p∈ow++fa,p.1≠x:=by
 obtain⟨c,vs,l,S⟩:=H.S;have d:x∉l.map (·.1):=λe=>by
  refine bn (Xb.mp e) λp hp e=>?_;have:=(λp hp=>Xe (S.A.N p hp).1:∀p∈l,p.1<h.objs.size) p hp;rw[e,hx]at this;exact XX _ this
 have i:∀a o,(G.c.wg c).g.get? a=some o->a<h.objs.size:=λa o e=>Xe (S.A.F.keep a o e);refine⟨⟨H.V,⟨_,_,(x,ob)::l,S.T,⟨⟨S.A.F.ns.at' λo e=>hs _ o e,λb o e=>hs b o (S.A.F.keep b o e),S.A.F.above⟩,λp hp=>?_,S.A.k.cons λp hp=>hx▸(λp hp=>Xe (S.A.N p hp).1:∀p∈l,p.1<h.objs.size) p hp⟩,S.L,S.R.lay d⟩,H.le⟩,λp hp e=>d (e▸Xm (f:=(·.1)) (S.R.X1 p hp))⟩;rcases WY.mp hp with rfl|hp
 ·refine⟨g,λe=>?_,?_⟩
  ·have:=S.A.F.ns.lt
   rw[←e]at this;rw[hx]at this;exact XX _ this
  ·cases z:(G.c.wg c).g.get? x with
   |none=>rfl
   |some o=>have:=i _ _ z;rw[hx]at this;exact absurd this (XX _)
 ·exact⟨hs _ _ (S.A.N p hp).1,(S.A.N p hp).2⟩
noncomputable def Ek.comp (κ:Ek) (scope:Scope) (x:Str):Ek:=⟨κ.sc,κ.ns,κ.cn,some (scope,x),κ.lm,κ.cd,κ.qn⟩
abbrev pv:=(Nat->eL)->cf->List SV->Sg->(List SV->Sg->Prop)->KX->Prop
def RC1 (τ:Tb) (ys ys':List SV) (y:Option Value):Prop:=match y with
 |some V=>∃v,ys'=ys++[v]∧RV τ v V
 |none=>ys'=ys
def jh (w:World) (κ:Ek) (ifs:List Expr) (elt:Expr) (b:pv):Prop:=∀(G:Cw w κ) {τ σ h t ys K} {Q:Option Value->Heap->Nat->Prop},Hs G τ σ h->b G.Φ G.fr ys σ K G.KE->(∀y ys' σ τ' h t,τ.le τ'->RC1 τ' ys ys' y->Hs G τ' σ h->K ys' σ->Q y h t)->
 wpAny (model PP w) G.c.A (forIn ifs true λc r=>if r=true then do let ok ←isTrue c G.env (eval c G.env);pure (ForInStep.yield ok)else pure (ForInStep.yield r)) (λok s₃=>
  if ok=true then wpAny (model PP w) G.c.A (eval elt G.env) (λy s₄=>lf G.c (λy h t=>Q (some y) h t) y s₄) G.c.E s₃ else lf G.c (λZ h t=>Q none h t) ok s₃) G.c.E ⟨h,G.c.gn,G.c.d,t,G.c.os⟩
def cB (el:AE):pv:=λΦ fr ys σ K KE=>el Φ fr σ (λy σ=>K (ys++[y]) σ) KE
def pK (t:AT) (el:AE):pv:=λΦ fr ys σ K KE=>t Φ fr σ (λb σ=>bI b (el Φ fr σ (λy σ=>K (ys++[y]) σ) KE) (K ys σ)) KE
variable {e1:Expr} {mt:AT}
theorem c_b (s:av w κ e m):jh w κ [] e (cB m):=λG Z Z Z Z Z Z Z H m q=>
 wpAny_tests_nil (LE ((s G H m λj d i k a b f l c g=>q (some k) _ d i a b f (bv j rfl l) c g).go λy h t z=>aJ z))
theorem Xdj (s1:eU w κ e1 mt) (s:av w κ e m):jh w κ [e1] e (pK mt m):=λG C E h t D K Q H m q=>
 wpAny_tests_one ((s1 G (Q:=λb h t=>Br b (Wp G.c (eval e G.env) (λy h t=>Q (some y) h t) h t) (Q none h t)) H m λB v p r l d c a=>⟨λz=>s G c (a.br.1 z) λu j o x f g k A i n=>q (some x) _ j o f g (d.trans k) (bv u rfl A) i n,λz=>q none _ v p r l d rfl c (a.br.2 z)⟩).go λb h t z=>by
  cases b with
  |true=>exact LE ((z.1 rfl).go λy h t z=>aJ z)
  |false=>exact XcS (aJ (z.2 rfl)))
noncomputable def bS (s:kU) (b:SV->List SV->Sg->(List SV->Sg->Prop)->Prop) (K:List SV->Sg->Prop):Nat->Nat->List SV->Sg->Prop
 |0,_,ys,σ=>s.ok σ∧K ys σ
 |m+1,i,ys,σ=>s.ok σ∧s.at σ i λx=>b x ys σ λys σ=>bS s b K m (i+1) ys σ
def kY (b:pv) (Φ:Nat->eL) (fr:cf):SV->List SV->Sg->(List SV->Sg->Prop)->Prop:=λx ys σ K=>b Φ ⟨fr.loc,fr.cel,[x]⟩ ys σ K pZ
noncomputable def iO (κ:Ek) (scope:Scope) (x:Str):Bool:=scope.kind== .function&&κ.sc.kind== .function&&decide (scope.names.map (·.1)).Nodup&&scope.names.all (λy=>y.2 != .cell)&&scope.names.lookup x==some .local&&scope.names.all λy=>y.2 != .free||κ.cn.contains y.1
theorem iq {cells:List (Str×Addr)} {names:List (Str×NameKind)}:∀{acc:List (Str×Addr)},(∀y∈names,y.2=.free->(cells.lookup y.1).isSome=true)->(eJ cells names acc).isSome=true:=by
 induction names with
 |nil=>intro acc _;rfl
 |cons a r ih=>
  intro acc h;obtain⟨n,k⟩:=a;dsimp only[eJ];have b:=λacc=>ih (acc:=acc) λy d=>h y (.tail _ d);by_cases hk:(k==NameKind.free)=true
  ·rw[Xn hk]
   have:=h (n,k) (.head _) (XJ hk);cases hc:cells.lookup n with
   |none=>rw[hc]at this;exact cp this
   |some c=>exact b _
  ·rw[Xh hk];exact b _
theorem lF {c:Cf w} {scope:Scope} {x:Str} (ce:gC c κ fr τ) (h:iO κ scope x=true):jw scope (c.ev κ.sc) x=true:=by
 unfold iO at h;rw[WU]at h;obtain⟨j,m⟩:=h;unfold jw;rw[WU];refine⟨j,iq λy b f=>?_⟩;have z:=WZ.mp m y b;rw[f]at z;obtain⟨i,l,e⟩:=List.getElem_of_mem (XU.mp z);refine pi (ce i y.1 (by rw[Xf l,e])) λk a d n o g=>?_;rw[g.at_];rfl
variable {elt iter:Expr} {x:Str} {ifs:List Expr} {scope:Scope} {b:pv}
noncomputable def Cs.cmp (G:Cs w κ) (fr:cf) (E':Value->Shared->Prop) (X:Xs) (scope:Scope) (x:Str) (cl:List (Str×Addr)) (C:Addr) (v:SV):Cw w (κ.comp scope x):=⟨G.c.wE E',G.Φ,G.n,compEnvC scope cl C (G.c.ev κ.sc),⟨fr.loc,fr.cel,[v]⟩,G.τ0,X,pZ,G.P,⟨G.O.toOk.wE E',G.O.Y⟩,λZ Z Z Z Z Z Z ke Z=>ke.elim⟩
variable {X:Xs} {cl:List (Str×Addr)} {C:Addr} {oC:Obj}
theorem Hf.cmp {v:SV} (H:Hf G X fr τ σ h) (ok:da scope (G.c.ev κ.sc) cl) (hC:(C,oC)∈X.far) (hv:oH oC x V) (rv:RV τ v V) (E':Value->Shared->Prop):Hs (G.cmp fr E' X scope x cl C v) τ σ h:=by
 obtain⟨a,vs,l,S⟩:=H.S;exact⟨⟨H.V,cl,C,oC,v,V,rfl,ok,hC,hv,rfl,rv⟩,⟨a,vs,l,S.T,⟨S.A.F,S.A.N,S.A.k⟩,S.L,S.R⟩,H.le⟩
theorem Hs.unc {v:SV} {E':Value->Shared->Prop} (H:Hs (G.cmp fr E' X scope x cl C v) τ σ h):Hf G X fr τ σ h:=by
 obtain⟨a,vs,l,S⟩:=H.S;exact⟨H.V.1,⟨a,vs,l,S.T,⟨S.A.F,S.A.N,S.A.k⟩,S.L,S.R⟩,H.le⟩
end
section
variable {w:World} {κ:Ek} {G:Cs w κ} {fr:cf} {τ:Tb} {σ:Sg} {h h':Heap} {t:Nat} {elt iter:Expr} {x:Str} {px pos:Pos} {ifs:List Expr} {scope:Scope} {b:pv}
inductive HF (G:Cs w κ) (fr:cf) (τ:Tb) (K:List SV->Sg->Prop) (C D:Addr) (h:Heap):Prop
 |mk (oC:Obj) (ws:List Value) (nD:Nat) (ys:List SV) (σ:Sg) (τ':Tb) (m:Str->Option Value) (le:τ.le τ') (r:bZ τ' ys ws) (k:K ys σ) (hC:h.Ns C m) (cd:C≠D) (oc:∀p∈G.X.own++G.X.far,p.1≠C) (od:∀p∈G.X.own++G.X.far,p.1≠D) (H:Hf G ⟨G.X.own,(C,oC)::(D,aL ws nD)::G.X.far⟩ fr τ' σ h):HF G fr τ K C D h
variable {env:Env} {cl:List (Str×Addr)}
theorem rN {C:Addr} (h1:(scope.kind== .function)=true):((compEnvC scope cl C env).scope.kind== .class||((compEnvC scope cl C env).scope.kind== .module&&(compEnvC scope cl C env).locals !=(compEnvC scope cl C env).globals))=false:=by
 simp[compEnvC,relabel,XJ h1]
structure Cp (w:World) (κ:Ek) where
 G:Cs w κ
 fr:cf
 τ:Tb
 s:kU
 St:Nat->Heap->Prop
 b:pv
 K:List SV->Sg->Prop
 C:Addr
 D:Addr
 I:Addr
noncomputable def Cp.sh (p:Cp w κ) (h:Heap) (t:Nat):Shared:=⟨h,p.G.c.gn,p.G.c.d,t,p.G.c.os⟩
noncomputable def Cp.X (p:Cp w κ) (oC:Obj) (ws:List Value) (n:Nat) (oI:Obj):Xs:=⟨p.G.X.own,(p.C,oC)::(p.D,aL ws n)::(p.I,oI)::p.G.X.far⟩
structure Cp.Ok (p:Cp w κ):Prop where
 it:kO w p.s p.I p.τ p.St
 oI:∀q∈p.G.X.own++p.G.X.far,q.1≠p.I
 oD:∀q∈p.G.X.own++p.G.X.far,q.1≠p.D
 oC:∀q∈p.G.X.own++p.G.X.far,q.1≠p.C
 DI:p.D≠p.I
 CI:p.C≠p.I
 DC:p.D≠p.C
 n:p.s.len≤10000
def vR (o:Obj) (m:Str->Option Value):Prop:=∃es ep,o.data=.dict es ep∧StrKeys es∧∀y,nsFind es y=m y
variable {m:Str->Option Value}
theorem vR.at {o:Obj} {a:Addr} (n:vR o m) (g:h.get? a=some o):h.Ns a m:=n.elim λc n=>n.elim λb n=>(uv o c b g n)
theorem vR.of {a:Addr} (n:h.Ns a m):∃o,h.get? a=some o∧vR o m:=n.elim λo n=>n.elim λc n=>n.elim λb n=>⟨o,n.1,c,b,n.2⟩
end
section
variable {w:World} {κ:Ek} {G:Cs w κ} {fr:cf} {τ:Tb} {σ:Sg} {h h':Heap} {t:Nat} {elt iter:Expr} {x:Str} {px pos:Pos} {ifs:List Expr} {scope:Scope} {b:pv}
inductive CJ (p:Cp w κ) (k i:Nat) (ys:List SV) (h:Heap):Prop
 |mk (mm:Str->Option Value) (ws:List Value) (n:Nat) (σ:Sg) (τ':Tb) (oC:Obj) (oI:Obj) (le:p.τ.le τ') (r:bZ τ' ys ws) (st:p.St i h) (ns:vR oC mm) (H:Hf p.G (p.X oC ws n oI) p.fr τ' σ h) (m:bS p.s (kY p.b p.G.Φ p.fr) p.K k i ys σ)
inductive CX (p:Cp w κ) (k:Nat) (s':Shared):Prop
 |mk (i:Nat) (ys:List SV) (h:Heap) (t:Nat) (e:s'=p.sh h t) (hk:i+k=p.s.len) (hl:ys.length≤i) (j:CJ p k i ys h):CX p k s'
inductive CN (p:Cp w κ) (k i:Nat) (ys:List SV) (y:Option Value) (h:Heap):Prop
 |mk (mm:Str->Option Value) (ys':List SV) (ws:List Value) (n:Nat) (σ:Sg) (τ':Tb) (oC:Obj) (oI:Obj) (le:p.τ.le τ') (r:bZ τ' ys ws) (y:RC1 τ' ys ys' y) (st:p.St (i+1) h) (ns:vR oC mm) (H:Hf p.G (p.X oC ws n oI) p.fr τ' σ h) (m:bS p.s (kY p.b p.G.Φ p.fr) p.K k (i+1) ys' σ)
variable {ow fa:bu} {A B A' B':Addr×Obj} {I:Addr} {oI:Obj}
theorem Hf.rot (H:Hf G ⟨ow,A::B::(I,oI)::fa⟩ fr τ σ h):Hf G ⟨ow,(I,oI)::A::B::fa⟩ fr τ σ h:=H.sub λq hq=>by
 rcases WY.mp hq with e|hq
 ·exact e▸ .tail _ (.tail _ (.head _))
 ·rcases WY.mp hq with e|hq
  ·exact e▸ .head _
  ·rcases WY.mp hq with e|hq
   ·exact e▸ .tail _ (.head _)
   ·exact .tail _ (.tail _ (.tail _ hq))
theorem Hf.at3 (H:Hf G ⟨ow,A::B::(I,oI)::fa⟩ fr τ σ h):h.get? I=some oI:=H.rot.here
variable {s:kU} {St:Nat->Heap->Prop}
theorem kO.keep3 {τ1 τ':Tb} {σ':Sg} {i:Nat} (it:kO w s I τ1 St) (st:St i h) (H:Hf G ⟨ow,A::B::(I,oI)::fa⟩ fr τ σ h) (H':Hf G ⟨ow,A'::B'::(I,oI)::fa⟩ fr τ' σ' h'):St i h':=it.keep st λo a=>W7 (H.at3.symm.trans a)▸H'.at3
theorem wG {a b c:Addr} {ob oc:Obj} (h:∀q∈ow++fa,q.1≠a) (hb:b≠a) (hc:c≠a):∀q∈ow++(b,ob)::(c,oc)::fa,q.1≠a:=λq d=>(W6.mp d).elim (λz=>h q (W3 _ z)) λz=>(WY.mp z).elim (λe=>e▸hb) λz=>(WY.mp z).elim (λe=>e▸hc) λz=>h q (WW _ z)
variable {p:Cp w κ} {k i:Nat} {ys:List SV}
theorem CN.skip (o:p.Ok) (j:CN p k i ys none h) (hk:i+(k+1)=p.s.len) (hl:ys.length≤i) (t:Nat):∃m,m<k+1∧CX p m (p.sh h t):=
 match j with
 |.mk mm _ ws n σ τ' oC oI le r y st ns H m=>(bv k (XY _) ⟨i+1,ys,h,t,rfl,(Y6 i k).trans hk,Yz hl,mm,ws,n,σ,τ',oC,oI,le,r,st,ns,H,Eq.rec (motive:=λz Z=>bS p.s (kY p.b p.G.Φ p.fr) p.K k (i+1) z σ) m y⟩)
variable {n:Nat}
theorem sz_ {ws:List Value} (hn:n≤10000) (hl:ys.length≤i) (r:bZ τ ys ws) (hk:i+(k+1)=n):ws.toArray.size≤sizeLine:=(Xq (as:=ws)).symm▸r.len.symm▸WX hl (WX (hk▸X4 i (k+1)) (WX hn (by decide)))
variable {E:Value->Shared->Prop}
theorem CN.app (o:p.Ok) {y:Value} (j:CN p k i ys (some y) h) (hk:i+(k+1)=p.s.len) (hl:ys.length≤i) (t:Nat):wpAny (model PP w) p.G.c.A (call (.builtin "list.append") [.ref p.D,y]) (λZ s=>∃m,m<k+1∧CX p m s) E (p.sh h t):=by
 obtain⟨z,g,b,n,G,c,C,oI,B,r,e,A,F,H,m⟩:=j;refine Exists.elim (show∃v,g=ys++[v]∧RV c v y from e) λv e=>?_;have D:b.toArray.size≤sizeLine:=sz_ o.n hl r hk;refine wpAny_list_append_plain (s:=p.sh h t) (hsz:=D) (⟨n,H.rot.rot.here⟩:h.PlainList p.D b.toArray) λx u d=>u.elim λl f=>?_;have f:x.get? p.D=some (aL (b++[y]) l):=f.trans (Yi (λa=>some ({cls:=.type "list",data:=.seq a l}:Obj)) (List.push_toArray b y));exact(bv k (XY _) ⟨i+1,ys++[v],x,t,rfl,(Y6 i k).trans hk,(Yb (as:=ys) (bs:=[v])).symm▸Zl hl,z,b++[y],l,G,c,C,oI,B,bZ.app (v':=[v]) (V':=[y]) ⟨y,[],rfl,e.2,rfl⟩ r,o.it.keep A (λI f=>(d.2 p.I o.DI.symm).trans f),F,(Hf.chg (q:=(p.D,aL b n)) H.rot.rot (wG o.oD o.DI.symm o.DC.symm) d f).rot,e.1▸m⟩)
noncomputable def Cp.Z (p:Cp w κ) (k:Nat) (s:Shared):Prop:=∃m,m<k+1∧CX p m s
variable {cl:List (Str×Addr)}
theorem CJ.turn (o:p.Ok) (hb:iO κ scope x=true) (sb:jh w (κ.comp scope x) ifs elt p.b) (ok:da scope (p.G.c.ev κ.sc) cl) (hk:i+(k+1)=p.s.len) (hl:ys.length≤i) (mm:Str->Option Value) (ws:List Value) (n:Nat) {τ':Tb} {oC:Obj} (le:p.τ.le τ') (rr:bZ τ' ys ws) (ns:vR oC mm) {V:Value}
  {xv:SV} {h2:Heap} {t2:Nat} {o2:Obj} (rv:RV τ' xv V) (kx:kY p.b p.G.Φ p.fr xv ys σ λys σ=>bS p.s (kY p.b p.G.Φ p.fr) p.K k (i+1) ys σ) (st2:p.St (i+1) h2) (H2:Hf p.G ⟨p.G.X.own,(p.I,o2)::(p.C,oC)::(p.D,aL ws n)::p.G.X.far⟩ p.fr τ' σ h2):
  wpAny (model PP w) p.G.c.A (assign (.Name x px) (compEnvC scope cl p.C (p.G.c.ev κ.sc)) V) (λZ s₂=>
   wpAny (model PP w) p.G.c.A (forIn ifs true λc r=>if r=true then do let ok ←isTrue c (compEnvC scope cl p.C (p.G.c.ev κ.sc)) (eval c (compEnvC scope cl p.C (p.G.c.ev κ.sc)));pure (ForInStep.yield ok)else pure (ForInStep.yield r)) (λok s₃=>
    if ok=true then wpAny (model PP w) p.G.c.A (eval elt (compEnvC scope cl p.C (p.G.c.ev κ.sc))) (λx s₄=>wpAny (model PP w) p.G.c.A (call (.builtin "list.append") [.ref p.D,x]) (λZ s=>p.Z k s) E s₄) E s₃
    else p.Z k s₃) E s₂) E (p.sh h2 t2):=by
 have u:=(Xr.mp (Xr.mp hb).1).2;refine wpAny_assign_Name (wpAny_storeName_local (m:=mm) (lookup_relabel_local (XJ u)) (ns.at (H2.rot.rot:Hf p.G (p.X oC ws n o2) p.fr τ' σ h2).here) (λH B g=>?_) (rN ((Xr.mp (Xr.mp (Xr.mp (Xr.mp (Xr.mp hb).1).1).1).1).1)));refine Exists.elim (vR.of B) λb z=>?_;have D:Hf p.G (p.X b ws n o2) p.fr τ' σ H:=(H2.rot.rot:Hf p.G (p.X oC ws n o2) p.fr τ' σ h2).chg (q:=(p.C,oC)) (wG o.oC o.DC o.CI.symm) g z.1;have v:p.St (i+1) H:=o.it.keep st2 λM L=>(g.2 p.I o.CI.symm).trans L;refine Ym (sb (p.G.cmp p.fr E (p.X b ws n o2) scope x cl p.C xv) (Q:=λy h Z=>CN p k i ys y h)
    (D.cmp ok (.head _) (z.2.elim λK z=>z.elim λJ z=>(gW K J _ z.1 z.2.1 z.2.2 (Xn rfl))) rv _) kx λZ l j A Z Z d I G ck=>⟨_,l,ws,n,j,A,b,o2,le.trans d,rr.up d,I,o.it.keep3 v D G.unc,z.2,G.unc,ck⟩) (λt s₄ a=>?_) λZ Z e=>e
 cases t with
 |false=>exact a.elim λu y=>y.elim λC y=>y.1▸y.2.skip o hk hl C
 |true=>exact Ym (show wpAny _ _ _ _ _ _ from a) (λy F f=>f.elim λu z=>z.elim λC z=>z.1▸z.2.app o hk hl C) λZ Z e=>e
variable {R:Result->Shared->Prop}
theorem CJ.loop (o:p.Ok) (hb:iO κ scope x=true) (sb:jh w (κ.comp scope x) ifs elt p.b) (ok:da scope (p.G.c.ev κ.sc) cl) (hk:i+n=p.s.len) (hl:ys.length≤i) (j:CJ p n i ys h) {t:Nat} (q:∀h t,HF p.G p.fr p.τ p.K p.C p.D h->R (.ok .next) (p.sh h t)):
  codeAny (model PP w) p.G.c.A (.compLoop (.ListComp elt [⟨.Name x px,iter,ifs,0⟩] scope pos) 0 (.ref p.I) (.ref p.D) (compEnvC scope cl p.C (p.G.c.ev κ.sc))) R (p.sh h t):=by
 refine codeAny_compLoop_tests (CX p) (λk F B=>?_) n ⟨i,ys,h,t,rfl,hk,hl,j⟩;obtain⟨i,ys,h,t,e,hk,hl,g,f,n,D,b,z,oI,a,u,l,r,H,m⟩:=B;rw[e];cases k with
 |zero=>exact QN o.it a (hk▸l) H.rot m.1 (λC d s=>q C d ⟨z,f,n,ys,D,b,g,a,u,m.2,r.at s.here,o.DC.symm,o.oC,o.oD,s⟩) (wG o.oI o.CI o.DI)
 |succ k=>exact y4 o.it a (wG o.oI o.CI o.DI) l (hk▸Zb (ZM k)) H.rot m.1 m.2 λV x G E o2 v y c A=>CJ.turn o hb sb ok hk hl g f n a u r v y c A
variable {K:List SV->Sg->Prop}
theorem q7 {bb:SV->List SV->Sg->(List SV->Sg->Prop)->Prop}:∀{n:Nat},bS s bb K n 0 ys σ->s.ok σ:=λ{n} m=>by
 cases n with
 |zero=>exact m.1
 |succ n=>exact m.1
theorem C3 (o:p.Ok) (hb:iO κ scope x=true) (sb:jh w (κ.comp scope x) ifs elt p.b) (ok:da scope (p.G.c.ev κ.sc) cl) (j:CJ p p.s.len 0 [] h) (q:∀h t,HF p.G p.fr p.τ p.K p.C p.D h->R (.ok .next) (p.sh h t)):
  codeAny (model PP w) p.G.c.A (.compStart (.ListComp elt [⟨.Name x px,iter,ifs,0⟩] scope pos) 0 (.ref p.I) (.ref p.D) (compEnvC scope cl p.C (p.G.c.ev κ.sc))) R (p.sh h t):=
 by
 have a:=λt=>j.loop (iter:=iter) (px:=px) (pos:=pos) o hb sb ok (X9 _) (Xy _) (t:=t) q;obtain⟨s,r,n,y,e,u,oI,i,A,f,v,H,m⟩:=j;obtain⟨d,vs,l,S⟩:=H.S;exact(o.it.go i S.R (λp g=>(S.A.N p g).1) (kE (c:=p.G.c.wg d) (p.G.O.turn S.T) S.A) f (q7 m)).elim λb z=>z.elim λP z=>z.elim λk z=>
  codeAny_compStart_list (a _) ((z.1.W p.G.c.A p.G.O.hh).self 0 _ _ _ z.2.1 (a _))
theorem Hf.here2 (H:Hf G ⟨ow,A::B::fa⟩ fr τ σ h):h.get? B.1=some B.2:=(H.sub (fa':=B::fa) λq a=>.tail _ a).here
theorem qF {α:Type} {p a:α} {l r:List α} (h:p∈l++r):p∈l++a::r:=(W6.mp h).elim (W3 _) λz=>WW _ (.tail _ z)
theorem yJ (hb:iO κ scope x=true) (sb:jh w (κ.comp scope x) ifs elt b) {use:Option (Value->Sem Unit)} {Q:Value->Shared->Prop} (ok:da scope (G.c.ev κ.sc) cl) {h:Heap} (it:kO w s I τ St) (st:St 0 h) (H:Hf G ⟨G.X.own,(I,oI)::G.X.far⟩ fr τ σ h) (off:∀p∈G.X.own++G.X.far,p.1≠I) (hn:s.len≤10000) (m:bS s (kY b G.Φ fr) K s.len 0 [] σ)
  (q:∀C D h t,HF G fr τ K C D h->compPost (model PP w) G.c.A E use Q (.ref D) C (.ok .next) ⟨h,G.c.gn,G.c.d,t,G.c.os⟩):
  wpAny (model PP w) G.c.A (newList []) (λacc s₃=>wpAny (model PP w) G.c.A (newFunctionEnv scope (G.c.ev κ.sc).globals cl [] (G.c.ev κ.sc).qual none .none (some (G.c.ev κ.sc))) (λcenv s₄=>
   codeAny (model PP w) G.c.A (.compStart (.ListComp elt [⟨.Name x px,iter,ifs,0⟩] scope pos) 0 (.ref I) acc {cenv with scope:=relabel scope (G.c.ev κ.sc)}) (compPost (model PP w) G.c.A E use Q acc cenv.locals) s₄) E s₃) E ⟨h,G.c.gn,G.c.d,t,G.c.os⟩:=by
 have g:=Xr.mp (Xr.mp (Xr.mp hb).1).1;have F:=XJ (Xr.mp (Xr.mp g.1).1).1;obtain⟨A,vs,l,S⟩:=H.S;refine lP (h₀:=A) S.A.F S.A.N S.A.k (by decide) λD d M L z=>?_;have j:=(W2.mp z.nd).1;have H1:Hf G ⟨G.X.own,(D,aL [] 0)::(I,oI)::G.X.far⟩ fr τ σ d:=⟨H.V,⟨_,_,_,S.T,⟨M,L,z⟩,S.L,S.R.lay j⟩,H.le⟩;have c:∀p∈G.X.own++(I,oI)::G.X.far,p.1≠D:=λp i e=>j (e▸Xm (f:=(·.1)) (S.R.X1 p i));refine wpAny_newFunctionEnv (λy u=>bne_iff_ne.mp (WZ.mp g.2 y u)) (λy u=>(Y1 u).elim) (λB v k=>?_) F;refine Exists.elim (vR.of v) λJ n=>?_;have a:∀b o,d.get? b=some o->B.get? b=some o:=λb o e=>k.extBut b o (XC (Xe e)) (Xp _ e);exact C3 (p:=⟨G,fr,τ,s,St,b,K,d.objs.size,D,I⟩) ⟨it,off,λp i=>c p (qF i),λp i=>(H1.lays (x:=d.objs.size) rfl a n.1).2 p (qF (qF i)),(c (I,oI) (WW _ (.head _))).symm,((H1.lays (x:=d.objs.size) rfl a n.1).2 (I,oI) (WW _ (.tail _ (.head _)))).symm,(H1.lays (x:=d.objs.size) rfl a n.1).2 (D,aL [] 0) (WW _ (.head _)),hn⟩ hb sb ok ⟨_,[],0,σ,τ,J,oI,Tb.le.refl,rfl,it.keep st λo N=>a _ o ((W7 (H.here.symm.trans N))▸Hf.here2 H1),n.2,(H1.lays (x:=d.objs.size) rfl a n.1).1,m⟩ λh t r=>q _ _ h t r
noncomputable def Cw.cs (G:Cw w κ):Cs w κ:=⟨G.c,G.Φ,G.n,G.τ0,G.X,pZ,G.P,G.O,λZ Z Z Z Z Z Z Z ke Z=>ke.elim⟩
theorem Hs.cs {G:Cw w κ} (hc:κ.cm=none) (H:Hs G τ σ h):Hs (G.cs.at G.fr) τ σ h:=⟨.fn hc H.V.1,H.S,H.le⟩
variable {e e1:Expr} {m:AE} {ms:AS} {ppos:Pos} {rest:List Stmt}
def bP (a:AE) (b:pv):AE:=λΦ fr σ K KE=>a Φ fr σ (λv σ=>q5 σ v λs=>s.len≤10000∧bS s (kY b Φ fr) (λys σ=>K (.ref σ.nx) (σ.new (.list ys))) s.len 0 [] σ) KE
theorem HF.fin {G:Cs w κ} {ws:List Value} {nD:Nat} {τ':Tb} {C D:Addr} {oC:Obj} (r:bZ τ' ys ws) (cd:C≠D) (oc:∀p∈G.X.own++G.X.far,p.1≠C) (od:∀p∈G.X.own++G.X.far,p.1≠D) (H:Hf G ⟨G.X.own,(C,oC)::(D,aL ws nD)::G.X.far⟩ fr τ' σ h) (hs:Heap.SameBut C h h'):∃τ2,τ'.le τ2∧RV τ2 (.ref σ.nx) (.ref D)∧Hf G G.X fr τ2 (σ.new (.list ys)) h':=by
 have a:∀p∈G.X.own++(D,aL ws nD)::G.X.far,p.1≠C:=λp hp=>by
  rcases W6.mp hp with hp|hp
  ·exact oc p (W3 _ hp)
  ·rcases WY.mp hp with rfl|hp
   ·exact cd.symm
   ·exact oc p (WW _ hp)
 exact(H.drop (q:=(C,oC)) a hs).adopt od r
theorem Bv (hc:κ.cm=none) (hs:∀env x,foldedSetIterable iter env x=pure x) (hb:iO κ scope x=true) (s:av w κ iter m) (sb:jh w (κ.comp scope x) ifs elt b):av w κ (.ListComp elt [⟨.Name x px,iter,ifs,0⟩] scope pos) (bP m b):=by
 intro G τ σ h t K Q H m q;have g:=H.V.fnI hc;rw[g];refine PH (lF H.V.1 hb) (λB Y=>Wp.go (Q:=λV h t=>Wp G.c (pyIter V) (λe h t=>II G.c (G.c.ev κ.sc) (.ListComp elt [⟨.Name x px,iter,ifs,0⟩] scope pos) scope B Q e h t) h t) ?_ λv h t y=>Wp.go y λe h t y=>y) (hs _);rw[←g];refine s G H m λU P T a0 A E d p i o=>?_;rw[g];exact sX (G:=G.cs) (i.cs hc) p o λs k I oI h St e S N f=>yJ (G:=G.cs) hb sb Y e S N f k.1 k.2 λC D h t r=>by
  obtain⟨oC,ws,nD,ys,F,R,O,a,rr,W,j,cd,J,X,L⟩:=r;refine(bv O j (λh' l=>?_));refine ic (HF.fin rr cd J X L l) λn u M z=>?_;exact aJ (c:=G.c) (q _ _ n _ h' t (d.trans (a.trans u)) M ⟨H.V.up (d.trans (a.trans u)),z.S,z.le⟩ W)
theorem vq {env:Env} (hb:jw scope env x=true):∃cl,da scope env cl:=by
 unfold jw at hb;rw[WU,WU,WU,WU,WU]at hb;obtain⟨⟨⟨⟨⟨c,_⟩,d⟩,f⟩,e⟩,b⟩:=hb;obtain⟨cl,a⟩:=Yo.mp b;exact⟨cl,a,W5 d,XJ c⟩
def lu (put:iU) (a:AE) (b:pv) (r:AS):AS:=λΦ fr σ K KE=>bP a b Φ fr σ (λv σ=>put v fr σ λfr σ=>r Φ fr σ K KE) KE
theorem DO {put:iU} {x2:Str} {px2:Pos} (hc:κ.cm=none) (ha:mB w κ (.Name x px) put) (hs:∀env x,foldedSetIterable iter env x=pure x) (hb:iO κ scope x2=true) (hw:∀env,κ.sc=env.scope->swapsWith (.ListComp elt [⟨.Name x2 px2,iter,ifs,0⟩] scope pos) (some (.Name x px)) ppos.line env=pure true)
  (s:av w κ iter m) (sb:jh w (κ.comp scope x2) ifs elt b) (r:bq w κ rest ms):bq w κ (.Assign [.Name x px] (.ListComp elt [⟨.Name x2 px2,iter,ifs,0⟩] scope pos) ppos::rest) (lu put m b ms):=by
 intro G O τ σ h t K Q H m q;refine ca ?_;rw[exec_Assign_Name_used _ _ _ _ (hw _ rfl),arm_evalThenUse_ListComp];obtain⟨cl,e⟩:=vq (lF H.V.1 hb);refine WV (Yr (WV (WV (wpAny_comprehension_free (use:=some (assign (.Name x px) (G.c.ev κ.sc))) rfl (hs _) (dK e.cl) e.kd (λy hy hl=>gK e.nd hy hl) (Wp.go (s (G.at O) H m λa1 U a2 a3 a4 A n L i J=>sX (G:=G) (t:=A) (Q:=λF h t=>_) i L J λs k I oI h St F st T f=>?_) λv h t y=>Wp.go y λF h t y=>y)))));refine yJ hb sb e F st T f k.1 k.2 λC D h t rc=>?_;obtain⟨d,ws,S,ys,u,l,mm,B,rr,W,E,cd,oc,N,M⟩:=rc;have a:∀p∈G.X.own++(C,d)::G.X.far,p.1≠D:=λp hp=>by
  rcases W6.mp hp with hp|hp
  ·exact N p (W3 _ hp)
  ·rcases WY.mp hp with rfl|hp
   ·exact cd
   ·exact N p (WW _ hp)
 have HD:Hf G ⟨G.X.own,(D,aL ws S)::(C,d)::G.X.far⟩ O l u h:=M.sub λq hq=>by
  rcases WY.mp hq with rfl|hq
  ·exact .tail _ (.head _)
  ·rcases WY.mp hq with rfl|hq
   ·exact .head _
   ·exact .tail _ (.tail _ hq)
 refine ic (HD.adopt a rr) λY z rv X=>?_;refine Wp.to (c:=G.c) (ha.go (G.lay _ ⟨G.X.own,(C,d)::G.X.far⟩) (R:=λZ h t=>∃m,h.Ns C m∧∀P,Heap.SameBut C h P->_) (X.lay hc _) rv W λa0 V h3 t3 dH dk=>?_) λZ Z Z y=>y;refine uB E λo es ep g x=>?_;rw[M.here]at g;obtain rfl:=jS g;refine(bv mm (uv _ es ep dH.unl.here x) (λP j=>W1 (W1 (aJ (c:=G.c) (r G (Hf.s hc (dH.unl.drop (q:=(C,d)) oc j)) dk (q.pre ((n.trans B).trans z)))))))
noncomputable def Hu:List (Option SV)->Sg->(List Nat->Sg->Prop)->Prop
 |[],σ,K=>K [] σ
 |v::r,σ,K=>Hu r (σ.new (.cell v)) λks σ'=>K (σ.nx::ks) σ'
theorem CZ {env:Env} {X:Xs} {cn:List Str}:∀{sv:List (Option SV)} {Vv:List (Option Value)} {cs:bu} {τ:Tb} {σ:Sg} {l:bu} {K:List Nat->Sg->Prop},fk env (cn.zip Vv) cs->cn.length=Vv.length->gU τ sv Vv->aA w τ σ X l->aY (cs++l)->Hu sv σ K->
  ∃τ' ks σ',τ.le τ'∧aA w τ' σ' X (cs++l)∧K ks σ'∧∀(i:Nat) (x:Str),cn[i]?=some x->∃k a d,ks[i]?=some k∧τ' k=some (a,d)∧cV env x a:=by
 induction cn with
 |nil=>
  intro sv Vv cs τ σ l K c f r R k m;cases Vv with
  |cons=>cases f
  |nil=>
   cases c;cases sv with
   |cons=>obtain⟨_,_,e,_⟩:=r;exact nNC e
   |nil=>exact(gW τ ([]) σ Tb.le.refl R m (λi x h=>by exact cX h))
 |cons x cn ih=>
  intro sv Vv cs τ σ l K c f r R k m;cases Vv with
  |nil=>cases f
  |cons V Vv=>
   cases sv with
   |nil=>exact nCN r
   |cons v sv=>
    obtain⟨A,B,e,E,t⟩:=r;cases e;cases c with
    | @cons _ _ c o _ cs' h1 h2 h3=>
     have p:c∉(cs'++l).map (·.1)∧((cs'++l).map (·.1)).Nodup:=W2.mp k.nd;have j:c∉l.map (·.1):=λz=>p.1 (by rw[Xa];exact WW _ z);have g:(l.map (·.1)).Nodup:=by
      have:=p.2;rw[Xa]at this;exact(YS.mp this).2.1
     have n:=R.le_up (c,c);have F:aY (cs'++(c,o)::l):=k.sub (l:=(c,o)::cs'++l) λP=>by
      simp only[Xa,W4,X8,XD,List.cons_append];exact HW
     refine mC (ih h3 (ZC f) (t.up n) (R.new1 (D:=c) (ob:=o) (o:=.cell v) ⟨W2.mpr ⟨j,g⟩⟩ (j6 V o (.head _) h2 (E.up n))) F m) λτ' ks σ' b C s u=>?_;refine(gW τ' (σ.nx::ks) σ' (n.trans b) (C.cong λq hq=>?_) s (λi y h=>?_))
     ·rcases W6.mp hq with hq|hq
      ·exact .tail _ (W3 _ hq)
      ·rcases WY.mp hq with rfl|hq
       ·exact .head _
       ·exact .tail _ (WW _ hq)
     ·cases i with
      |zero=>obtain rfl:=jS h;exact(mQ σ.nx c c rfl (b _ _ (Xn rfl)) h1)
      |succ i=>exact u i y h
noncomputable def vl (ix:List (Option Nat)) (vs:List SV):List (Option SV):=ix.map λo=>o.bind λi=>vs[i]?
noncomputable def eO (ix:List (Option Nat)) (vs:List Value):List (Option Value):=ix.map λo=>o.bind λi=>vs[i]?
theorem yt {vs:List SV} {Vs:List Value} (r:bZ τ vs Vs) {ix:List (Option Nat)}:gU τ (vl ix vs) (eO ix Vs):=by
 induction ix with
 |nil=>exact rfl
 |cons o ix ih=>
  refine⟨_,_,rfl,?_,ih⟩;cases o with
  |none=>exact rfl
  |some i=>
   show RO τ (vs[i]?) (Vs[i]?);cases e:vs[i]? with
   |none=>
    have:=ZF.mp e;exact ZF.mpr (by rw[r.len];exact this)
   |some v=>exact r.get e
def fX (k:Nat) (dfl:List SV) (li ci:List (Option Nat)) (m:AS):(Nat->eL)->List SV->Sg->KV->KX->Prop:=λΦ args σ K KE=>(Nat.beq args.length k)=true∧Hu (vl ci (args++dfl)) σ λks σ=>m Φ ⟨vl li (args++dfl),ks,[]⟩ σ (bp K) KE
def BdC (κ:Ek) (f:FuncData) (li ci:List (Option Nat)) (avs all:List Value) (s:Shared):Prop:=
 ∃binds,BindsTo s f ⟨avs,[]⟩ binds∧(binds.all λy=>κ.sc.names.lookup y.1==some .local||κ.sc.names.lookup y.1==some .cell)=true∧(binds.filter λx=>κ.sc.names.lookup x.1==some .local)=bB κ.ns (eO li all)∧
  ((κ.cn.zip (eO ci all)).map λx=>bindC (λy=>κ.sc.names.lookup y) binds (λZ=>none) x.1)=(κ.cn.zip (eO ci all)).map (·.2)
theorem Cr {f:Addr} {Φ:Nat->eL} {body:List Stmt} {m:AS} {li ci:List (Option Nat)} {dfl:List SV} {dV:List Value} {name qual:Str} {params:Arguments} {dVl kV doc pm cdv ct oc:Value} {an od:Option Addr} {osl:Array (Option Value)}
  (hcd0:κ.cd=cdv) (hqn0:κ.qn=qual) (hcm:κ.cm=none) (hlm:κ.lm=false) (ho:(HK w.params).lookup f=some ⟨oc,od,.func (fnOf name qual params body κ.sc dVl kV doc pm an cdv ct),osl⟩)
  (hc:iT (HK w.params) κ.sc κ.ns κ.cn cdv qual=true) (hci:κ.cn.length=ci.length) (hd:∀τ,bZ τ dfl dV)
  (hb:∀(s:Shared) (avs:List Value),(HK w.params).In s.heap->avs.length=k->BdC κ (fnOf name qual params body κ.sc dVl kV doc pm an cdv ct) li ci avs (avs++dV) s)
  (hm:bq w κ body m) (P:ar w Φ n):aM w (n+1) (fX k dfl li ci m Φ) (.ref f):=by
 intro q Q h t τ σ X l j avs K KE rm C R U m xq z;have u:avs.length=k:=U.len.trans (W9 m.1);refine E14 (hb ⟨h,q.gn,q.d,t,q.os⟩ avs (show(HK w.params).In h from Cx.xs C) u) λN b1 Y b3 b4=>?_;refine mZ (Ye R.ne) λb r J=>?_;obtain rfl:=J;have y:κ.cn.length=(eO ci (avs++dV)).length:=hci.trans (W0 _).symm;refine pM (b:=b) (W:=[]) (T:=[]) (I:=r) κ.ns (eO li (avs++dV)) (κ.cn.zip (eO ci (avs++dV))) rm C ho (by rw[(List.map_fst_zip (Yd y):(κ.cn.zip (eO ci (avs++dV))).map (·.1)=κ.cn)];exact hc) b1 Y b3 b4 ?_;intro c p o L B M G O h' t' cs D H';have A:At c κ.ns (eO li (avs++dV)) (cs++b::r) h':=H'.sub λP=>by
  simp only[Lg,Xa,W4,ZS,X8,XD,Z9];lia
 have g:=bZ.app (hd τ) U;refine mC (CZ D y (yt (ix:=ci) g) R A.k m.2) λF ks a0 v R' mm cc=>?_;exact hm ⟨c,Φ,n,τ,X,KE,P,⟨O,L.trans hcd0.symm,B.trans hqn0.symm⟩,λfr k S H e h1 t1 v ke E=>M _ _ _ (nA O E λh2 V=>G _ _ _ (xq k S H e h2 t1 v ke (by rw[p,o]at V;exact V)))⟩ (fr:=⟨vl li (j++dfl),ks,[]⟩) (τ:=F)
  ⟨.fn hcm (λi x h=>by
   refine pi (cc i x h) λk a d e1 e2 e3=>?_;exact(mQ k a d e1 e2 (by rw[hlm];exact e3))),⟨c.g,_,_,.refl,A,(yt g).up v,R'⟩,v⟩ mm (QS.pre (qu rfl rfl p o z) v)
variable {e2:Expr} {es:List Expr} {m1 m2:AE} {ml:AL} {apos:Pos} {G:Cw w κ}
def CU (fI:Addr) (ml:AL):AE:=λΦ fr σ K KE=>ml Φ fr σ (λvs σ=>vs.length≤1000∧Φ 1 fI (.ref σ.nx::vs) (σ.new (.excF none)) (λv σ'=>v=.none∧K (.ref σ.nx) σ') KE) KE
theorem B8 {fI:Addr} {vs:List SV} {Vs:List Value} {K:KV} {Q:Value->Heap->Nat->Prop} (H:Hs G τ σ h) (ra:bZ τ vs Vs)
  (hf:Nat.blt fI 10000=true) (hi:findIn (HK w.params) (.ref 438) "__init__"=some (some (.ref fI))) (hm:(dX (HK w.params) 438&&isFn (HK w.params) (.ref fI))=true) (m:vs.length≤1000∧G.Φ 1 fI (.ref σ.nx::vs) (σ.new (.excF none)) (λv σ'=>v=.none∧K (.ref σ.nx) σ') G.KE)
  (q:QE G τ K Q):Wp G.c (call (.ref 438) Vs) Q h t:=by
 obtain⟨i,ws,l,S⟩:=H.S;have N:1≤G.n:=by
  rcases Nat.eq_zero_or_pos G.n with h|h
  ·exact absurd m.2 (G.P.no _ _ _ _ _ _ (by rw[h];decide))
  ·exact h
 obtain⟨Y,en⟩:∃Y,G.n=Y+1:=⟨G.n - 1,by exact Z46 N⟩;have O:=G.O.turn S.T;have L:=G.P.ok 1 N fI hf;rw[en]at O L;refine mZ (Ye S.R.ne) λb r J=>?_;obtain rfl:=J;refine bL i ?_;rw[WU]at hm;refine CQ (b:=b) (W:=[]) (T:=[]) (R:=r) S.A.F O.X S.A.N S.A.k hi (by rw[WU];exact hm) (by rw[ra.len];exact m.1) λx a B F' N' K'=>?_;have p:At (G.c.wg i) κ.ns ws ([(x,kq 438 none a),(a,cR Vs)]++(b::r)) B:=At.sub (l:=Lg b [] [] ((x,kq 438 none a)::(a,cR Vs)::r)) ⟨F',N',K'⟩ λP=>by
  simp only[Lg,Xa,W4,ZS,X8,XD,Z9];exact Y72
 have U:=p.k.nd;rw[Xa,YS]at U;have s:∀z,z∈[(x,kq 438 none a),(a,cR Vs)].map (·.1)->z∉(b::r).map (·.1):=λz hz F=>U.2.2 z hz z F rfl;have j:=S.R.le_up (x,x);have z:Co {G.c.wg i with A0:=(G.c.wg i).A.under (.builtin "type.__call__" ⟨.ref 438::Vs,[]⟩),outer:=(G.c.wg i).ev κ.sc::(G.c.wg i).outer,g:=hideAll B (([(x,kq 438 none a),(a,cR Vs)]++(b::r)).map (·.1))} (.ref fI) (.ref x::Vs) (λV D E=>V=.none∧Q (.ref x) D E) B t:=
  L _ _ B t (τ.up σ.nx (x,x)) (σ.new (.excF none)) G.X _ (.ref σ.nx::vs) (.ref x::Vs) _ G.KE (O.rm.make (Xy _)) (zj (C:=438) (vals:=Vs) (kw:=[]) O.XB O.TB O.B p.F p.N p.k O.G) (S.R.new (x:=x) (d:=x) (n:=[(x,kq 438 none a),(a,cR Vs)]) (o:=.excF none) (s x (.head _)) (s x (.head _)) (.head _) (.head _) ⟨a,.head _⟩) ⟨_,_,rfl,⟨x,x,rfl,Xn rfl⟩,ra.up j⟩ m.2
   (λk A u e M X f ke fl=>G.E _ _ _ _ _ _ ((H.le.trans j).trans f) ke (.call S.T p (S.L.up (j.trans f)) fl))
   λv A u V M X g1 l1 f rv kt ex R1 I=>by
    obtain⟨rfl,I⟩:=I;obtain rfl:=rv;refine ic (Ho O p kt ex) λg2 T2 O2 A2=>?_;exact⟨rfl,q (.ref σ.nx) A u (.ref x) M X (j.trans f) ⟨_,_,rfl,f _ _ (Xn rfl)⟩ (H.go (j.trans f) ⟨S.T.trans T2,A2,S.L.up (j.trans f),R1⟩) I⟩
 refine YZ z λr s' y=>?_;rcases r with e|(v|_|_|_)
 ·exact y
 ·exact y
 ·exact y
 ·exact y
 ·obtain⟨h2,t2,rfl,rfl,y⟩:=y
  exact⟨rfl,aJ (c:=G.c) y⟩
theorem M9 {fI:Addr} (hf:Nat.blt fI 10000=true) (ev:nsIn (HK w.params) mainGlobals x=some (some (.ref 438))) (hx:bz κ x=true) (hk:(keepIn (HK w.params) (.ref 438)&&(e::es).all bj)=true) (hi:findIn (HK w.params) (.ref 438) "__init__"=some (some (.ref fI))) (hm:(dX (HK w.params) 438&&isFn (HK w.params) (.ref fI))=true)
  (s:eu w κ (e::es) ml):av w κ (.Call (.Name x px) (e::es) [] pos) (CU fI ml):=by
 intro G r u h t K Q H m q;obtain⟨b,p,l,S⟩:=H.S;exact bL b (BA (G.O.turn S.T) S.A ev (by rw[WU];exact⟨bV H.V hx,hk⟩) ei (yS b (s G H m λn j k o g i c f a d=>HE b a (B8 a f hf hi hm d (q.pre c)))))
def kD:df:=λvs σ K=>two vs λx Z=>bE x λk=>bN σ k λo=>kK o λd=>d=none∧K .none (σ.set k (.excF none))
theorem wL:ff (HK w.params) 438=true:=by kernel_rfl
theorem BH:eT w (.builtin "ValueError.__init__") kD:=by
 intro N G j E h t K vs I Q H r m q;obtain⟨x,y,A,B,rfl,ra,rb,m⟩:=jP m r;obtain⟨k,rfl,o,hob,p⟩:=bh m;obtain⟨d,rfl,rfl,p2⟩:=jU p;obtain⟨g,M,l,S⟩:=H.S;obtain⟨f,O,rfl,hk,a,h1⟩:=S.R.get ra hob;refine ic (dn h1) λi u n L=>?_;refine bL g (M3 (od:=none) (old:=.ref a) (kE (c:=G.c.wg g) (G.O.turn S.T) S.A) ⟨(S.A.N _ h1).1,rfl,rfl,trivial⟩ rfl rfl wL λP J F b D=>aJ (c:=G.c) ?_);have s:aA w j E G.X ((f,kq 438 none a)::(h.objs.size,cR [B])::i):=(S.R.cong u).cong λq hq=>by
  rcases WY.mp hq with rfl|hq
  ·exact .head _
  ·exact .tail _ (.tail _ hq)
 exact Hs.re (v:=.none) ⟨H.V,⟨_,_,_,S.T,(S.A.sub n).chg2 (o':=kq 438 none h.objs.size) F b D,S.L,s.chg (a:=f) (l':=(f,kq 438 none h.objs.size)::(h.objs.size,cR [B])::i) (o:=.excF none) hob hk (.inl rfl) (λq hq C=>.tail _ ((WY.mp hq).resolve_left λe=>C (e▸rfl))) (λZ z=>z) ⟨_,.head _⟩⟩,H.le⟩ rfl p2 q _
theorem Rv {o:Expr} (hn:o=.Name "ValueError" px) (hb:∀env y,attributeBase o "__init__" env y=y) (ev:nsIn (HK w.params) mainGlobals "ValueError"=some none) (hx:bz κ "ValueError"=true) (hk:(e::es).all bj=true) (hl:(Nat.blt (e::es).length 30&&(apos.endLine==pos.line))=true)
  (s:eu w κ (e::es) ml):av w κ (.Call (.Attribute o "__init__" apos) (e::es) [] pos) (bH kD ml):=by
 intro G u x h t K Q H m q;subst hn;obtain⟨g,r,l,S⟩:=H.S;refine ia hb hk hl λv=>bL g (wA (G.O.turn S.T) S.A ev (by kernel_rfl:bootBuiltins "ValueError"=some (.type "ValueError")) (bV H.V hx) (r7 (G.O.turn S.T) S.A _ (yl hk (s G H m λn j k p f i b d a c=>BH G a d c (q.pre b)))))
def mU (a:AE):AS:=λΦ fr σ Z KE=>a Φ fr σ (λv σ=>bE v λk=>bN σ k λo=>kK o λd=>bX d λkd=>KE k (σ.set k (.exc kd))) KE
theorem pC:(ff (HK w.params) 438&&typeIn (HK w.params) (.ref 438)==some (.type "type"))=true:=by kernel_rfl
theorem uP (s:av w κ e m):bq w κ (.Raise (some e) none pos::rest) (mU m):=by
 intro G b E M h t K Q H m q;refine ca (DS (K:=HK w.params) G.O.hh (Wp.go (s (G.at b) (Q:=λv h t=>∃x C ox od vs,v=.ref x∧(HK w.params).In h∧InstAt h x ox C od∧ox.data=.fields vs∧vs[1]?=some .none∧(ff (HK w.params) C&&typeIn (HK w.params) (.ref C)==some (.type "type"))=true∧G.c.E (.ref x) ⟨h,G.c.gn,G.c.d,t,G.c.os⟩) H m λv A j V F L I i H1 k=>?_) λv h t y=>y));obtain⟨k,rfl,o,hob,p⟩:=bh k;obtain⟨d,rfl,kd,rfl,p2⟩:=jU p;obtain⟨g,B,l,S⟩:=H1.S;obtain⟨u,J,rfl,hk,a,D,z,hkd,hx⟩:=S.R.get i hob;refine bn (Xb.mp (S.R.inl _ _ hkd).1) λp n r=>?_;have f:=(S.A.N _ n).1;rw[r]at f;exact(V5 u 438 _ (some p.2) _ rfl (kE (c:=G.c.wg g) (G.O.turn S.T) S.A) ⟨(S.A.N _ hx).1,rfl,rfl,f⟩ rfl rfl ⟨pC,G.E b _ _ _ _ _ _ H1.le p2 (.fresh S hk hob hkd hx rfl)⟩)
def lE (a:AE):AE:=λΦ fr σ K KE=>a Φ fr σ (λv σ=>cj v λz=>z.length≤50000∧K (.str z) σ) KE
theorem LN (s:av w κ e m):av w κ (.FormattedValue e (-1) none pos) (lE m):=λG y A h t K Q H m q=>NO (s G H m λp n o x g j b d a c=>by
 obtain⟨z,i,r,k⟩:=b0 c;have f:=d;rw[i]at f;obtain⟨u,l⟩:=f;rw[l];exact Gu r λu t=>a.re (v:=.str z) ⟨u,rfl⟩ k (q.pre b) t)
noncomputable def eS:List AE->Str->AE
 |[],out=>λZ Z σ K Z=>out.length≤50000∧K (.str out) σ
 |a::r,out=>λΦ fr σ K KE=>a Φ fr σ (λv σ=>cj v λy=>(out++y).length≤50000∧eS r (out++y) Φ fr σ K KE) KE
theorem Mk {ms:List AE} (s:ja w κ es ms):∀(out:Str) (G:Cw w κ) {τ σ h t K} {Q:Value->Heap->Nat->Prop},Hs G τ σ h->eS ms out G.Φ G.fr σ K G.KE->QE G τ K Q->Wp G.c (joinParts out (evalEach es G.env)) Q h t:=by
 induction s with
 |nil=>intro out G τ σ h t K Q H m q;exact AI (t:=t) m.1 (H.re (v:=.str out) ⟨_,rfl⟩ m.2 q _)
 |cons h r ih=>
  intro out G τ σ y t K Q H m q;refine vT (h G H m λo l n x f i b c a d=>?_);obtain⟨z,g,p,k⟩:=b0 d;have e:=c;rw[g]at e;obtain⟨u,j⟩:=e;exact(j6 z u j p (ih _ G a k (q.pre b)))
theorem Bq {ms:List AE} (s:ja w κ (e1::e2::es) ms):av w κ (.JoinedStr (e1::e2::es) pos) (eS ms Str.empty):=λG Z Z Z Z Z Z H m q=>Ax (Mk s Str.empty G H m q)
def zz (o:SO) (K:Addr->List ((Nat×Nat)×Nat)->Prop):Prop:=match o with
 |.ctab P es=>K P es
 |_=>False
def pp (o:SO) (K:Nat->List Nat->Nat->Prop):Prop:=match o with
 |.clo L cs kc=>K L cs kc
 |_=>False
def mM (o:SO) (K:Str->Prop):Prop:=match o with
 |.code q=>K q
 |_=>False
variable {o:SO}
theorem G8 {K:Addr->List ((Nat×Nat)×Nat)->Prop} (h:zz o K):∃P es,o=.ctab P es∧K P es:=by cases o<;>first|exact(uA _ _ rfl h)|exact h.elim
theorem sZ {K:Nat->List Nat->Nat->Prop} (h:pp o K):∃L cs kc,o=.clo L cs kc∧K L cs kc:=by cases o<;>first|exact(uv _ _ _ rfl h)|exact h.elim
theorem wQ {K:Str->Prop} (h:mM o K):∃q,o=.code q∧K q:=by cases o<;>first|exact(bv _ rfl h)|exact h.elim
noncomputable def fC (es:List ((Nat×Nat)×Nat)) (ln col:Nat):Option ((Nat×Nat)×Nat):=es.find? λp=>Nat.beq p.1.1 ln&&Nat.beq p.1.2 col
variable {es:List ((Nat×Nat)×Nat)}
theorem oP:∀{ps:List Value},je τ es ps->TriplesOk ps:=by
 induction es with
 |nil=>intro ps h;obtain rfl:=h;trivial
 |cons p r ih=>rintro ps ⟨a,b,c,e,d,rfl,h2,h3⟩;show TriplesOk d;exact ih h3
theorem sE:∀{ps:List Value},je τ es ps->(fC es pos.line pos.col=none->codeAmong pos ps=none)∧∀p,fC es pos.line pos.col=some p->∃c e,codeAmong pos ps=some (.ref c)∧τ p.2=some (c,e):=by
 induction es with
 |nil=>intro ps h;obtain rfl:=h;exact⟨λZ=>rfl,λp h=>by exact cX h⟩
 |cons p r ih=>
  rintro ps ⟨a,b,c,e,d,rfl,h2,h3⟩;have g:codeAmong pos (.int p.1.1 a:: .int p.1.2 b:: .ref c::d)=if((p.1.1:Int)==pos.line&&(p.1.2:Int)==pos.col)=true then some (.ref c)else codeAmong pos d:=rfl
  have f:((p.1.1:Int)==pos.line&&(p.1.2:Int)==pos.col)=(Nat.beq p.1.1 pos.line&&Nat.beq p.1.2 pos.col):=by
   have k:∀x y:Nat,((x:Int)==y)=Nat.beq x y:=λx y=>by
    cases h:Nat.beq x y with
    |true=>rw[W9 h];simp
    |false=>exact beq_eq_false_iff_ne.mpr λe=>by rw[Int.ofNat.inj e,ZR]at h;exact kP h
   rw[k,k]
  rw[g,f];unfold fC;rw[Yy];cases hb:Nat.beq p.1.1 pos.line&&Nat.beq p.1.2 pos.col with
  |true=>
   refine⟨λh=>absurd (show some p=none from h) (by trivial),λq h=>?_⟩;cases W7 (show some p=some q from h);exact(uA c e (Xn rfl) h2)
  |false=>rw[Xh XE];exact(ih h3)
theorem xb {k c e:Nat} {ln col:Nat} (hk:τ k=some (c,e)):∀{ps:List Value},je τ es ps->je τ (es++[((ln,col),k)]) (ps++[.int ln 0,.int col 0,.ref c]):=by
 induction es with
 |nil=>intro ps h;obtain rfl:=h;exact(Bb 0 0 c e ([]) rfl hk rfl)
 |cons p r ih=>rintro ps ⟨a,b,g,f,d,rfl,h2,h3⟩;exact(Bb a b g f _ rfl h2 (ih h3))
noncomputable def wh (κ:Ek) (L:HY) (ix:List Nat):Bool:=decide (L.scope.names.map (·.1)).Nodup&&L.scope.names.all (λy=>y.2 != .free||κ.cn.contains y.1)&&L.cn.all (λy=>L.scope.names.lookup y==some .free)&&(ix.map λi=>κ.cn[i]?)==L.cn.map some
@[irreducible] noncomputable def gY (σ:Sg) (j:Nat) (q:Str) (kT:Nat) (P:Addr) (cs:List Nat) (ln col:Nat) (K:SV->Sg->Prop):Prop:=bN σ kT λo=>zz o λP' es=>P'=P∧match fC es ln col with
 |some p=>K (.ref σ.nx) (σ.new (.clo j cs p.2))
 |none=>K (.ref (σ.nx+1)) (((σ.new (.code q)).set kT (.ctab P (es++[((ln,col),σ.nx)]))).new (.clo j cs σ.nx))
def lB (j:Nat) (q:Str) (kT:Nat) (P:Addr) (ix:List Nat) (ln col:Nat):AE:=λZ fr σ K Z=>gY σ j q kT P (ix.map λi=>fr.cel.getD i 0) ln col K
variable {c:Cf w}
theorem XbE {L:HY} {ix:List Nat} (ce:gC c κ fr τ) (hl:κ.lm=false) (h:wh κ L ix=true):∃clos,closureFor L.scope (c.ev κ.sc)=pure clos∧OE τ L.cn (ix.map λi=>fr.cel.getD i 0) clos:=by
 unfold wh at h;rw[WU,WU,WU,XZ,Xu]at h;obtain⟨⟨⟨t,r⟩,w⟩,q⟩:=h;have o:(eJ (c.ev κ.sc).cells L.scope.names []).isSome=true:=iq λy f v=>by
  have z:=WZ.mp r y f;rw[v]at z;obtain⟨i,p,e⟩:=List.getElem_of_mem (XU.mp z);refine pi (ce i y.1 (by rw[Xf p,e])) λk a d m n g=>?_;rw[g.at_];rfl
 obtain⟨clos,b⟩:=Yo.mp o;refine(bv clos (dK b) (λi y f=>?_));have l:(ix.map λi=>κ.cn[i]?)[i]?=some (some y):=by rw[q,Xd,f];rfl
 rw[Xd]at l;refine bn (W8.mp l) λj u s=>?_;refine pi (ce j y s) λk a d m n g=>?_;refine(mQ k a d ?_ n (((cO b t).2 (by simpa using (WZ.mp w y (X0 f)))).trans g.at_));rw[Xd,u];show some (fr.cel.getD j 0)=some k;rw[YX,m];rfl
variable {X:Xs} {l:bu}
theorem Jf {kT:Nat} {P:Addr} (R:aA w τ σ X l) (h:σ.ob kT=some (.ctab P es)):∃d ps,τ kT=some (P,d)∧(P,tabObj ps)∈l∧je τ es ps.toList:=by
 obtain⟨x,d,e,c,ps,b,a⟩:=R.ob _ _ h;subst c;exact(j6 d ps e b a)
theorem OH (j:Nat) {L:HY} (hL:aT j=L) {kT:Nat} {P cA:Addr} {ix:List Nat} (hc:κ.cm=none) (hl:κ.lm=false) (hb:wh κ L ix=true) (hq:(κ.qn++".<locals>.")++"<lambda>"=L.qual) (hd:∀env,defaultsOf L.params env=([],[])) (hcd:κ.cd=.ref cA) (hC:∀h:Heap,(HK w.params).In h->CodeHd h cA P):
  av w κ (.Lambda L.params L.body L.scope pos) (lB j L.qual kT P ix pos.line pos.col):=by
 intro G τ F h t K Q H m q;subst hL;rw[H.V.fnI hc];obtain⟨M,vs,l,S⟩:=H.S;change gY F j _ kT P _ _ _ K at m;unfold gY at m;obtain⟨o,N,m⟩:=m;obtain⟨n,es,rfl,rfl,m⟩:=G8 m;refine jC (Jf S.R N) λdT I Y hm O=>?_;refine bn (XbE H.V.1 hl hb) λx R cr=>?_;have a0:(G.c.ev κ.sc).qual++"<lambda>"=(aT j).qual:=by
  rw[←hq,←G.O.Y.2]
 refine bL M (kla_eval (hd _) ?_);rw[a0];cases ef:fC es pos.line pos.col with
 |some p=>
  rw[ef]at m;refine gM ((sE O).2 p ef) λb e a2 V=>?_;refine kla_hit (s:=⟨h,G.c.gn,G.c.d,t,G.c.os⟩) S.A.F S.A.N (G.O.turn S.T).T (hC _ (G.O.turn S.T).X:CodeHd M cA n) (G.O.Y.1.trans hcd:(G.c.wg M).cd=.ref cA) hm (oP O) a2 R λf C h' tk F' T E=>aJ (c:=G.c) ?_;exact dN H S ⟨F',T,S.A.k.cons E⟩ (o:=.clo j _ p.2) (Bb x _ C b e (.head _) (S.R.le_up _ _ _ V) (λi y X=>by
   refine pi (cr i y X) λk a d e1 e2 e3=>?_;exact(mQ k a d e1 (S.R.le_up _ _ _ e2) e3))) m q _
 |none=>
  rw[ef]at m;refine ic (dn hm) λr m1 m2 m3=>?_;have A:=S.A.sub m2;refine kla_nest (s:=⟨h,G.c.gn,G.c.d,t,G.c.os⟩) A.F A.N (G.O.turn S.T).T (hC _ (G.O.turn S.T).X:CodeHd M cA n) (G.O.Y.1.trans hcd:(G.c.wg M).cd=.ref cA) (.head A.k.off) (oP O) ((sE O).1 ef) R λf b J ws u C h' tk F' T U a1 W B=>aJ (c:=G.c) ?_;have E:∀q∈(n,tabObj I)::r,q.1<b:=W;have g:=S.R.le_up (b,b);have R2:=((S.R.cong m1).new1 (D:=b) (ob:=J) (o:=.code (aT j).qual) (A.k.cons (d:=b) (o:=J) E) (mQ J ws u (.head _) U a1)).chg (a:=n) (l':=(b,J)::(n,tabObj (I++ #[rawInt pos.line,rawInt pos.col,.ref b]))::r) (o:=.ctab n (es++[((pos.line,pos.col),F.nx)])) (ae N) (g _ _ Y:(τ.up F.nx (b,b)) kT=some (n,dT)) (.inl rfl) (λq hq ne=>by
    rcases WY.mp hq with rfl|hq
    ·exact .head _
    ·exact .tail _ (.tail _ ((WY.mp hq).resolve_left λe=>ne (e▸rfl)))) (λZ z=>z) ⟨rfl,_,.tail _ (.head _),by
     have:=xb (τ:=τ.up F.nx (b,b)) (k:=F.nx) (c:=b) (e:=b) (ln:=pos.line) (col:=pos.col) (Xn rfl) (O.up g);rw[Array.toList_append];exact this⟩
  have k2:∀ob:Obj,aY ((f,ob)::(b,J)::(n,tabObj (I++ #[rawInt pos.line,rawInt pos.col,.ref b]))::r):=λob=>((⟨A.k.nd⟩:aY ((n,tabObj (I++ #[rawInt pos.line,rawInt pos.col,.ref b]))::r)).cons (d:=b) (o:=J) λq hq=>by
    rcases WY.mp hq with rfl|hq
    ·exact(E (n,tabObj I) (.head _):n<b)
    ·exact E _ (.tail _ hq)).cons λq hq=>by
    rcases WY.mp hq with rfl|hq
    ·exact B
    ·rcases WY.mp hq with rfl|hq
     ·exact ZB (E (n,tabObj I) (.head _):n<b) B
     ·exact ZB (E _ (.tail _ hq)) B
  have v:=R2.le_up (f,f);exact q (.ref (F.nx+1)) _ _ (.ref f) h' tk (g.trans v) ⟨f,f,rfl,Xn rfl⟩ (H.go (g.trans v) ⟨S.T,⟨F',T,k2 _⟩,S.L.up (g.trans v),R2.new1 (D:=f) (o:=.clo j (ix.map λi=>G.fr.cel.getD i 0) F.nx) (k2 _) (Bb x _ C b b (.head _) (v _ _ (Xn rfl)) (λi y X=>(cr i y X).imp λk z=>z.imp λa z=>z.imp λd z=>(eQ z.1 (v _ _ (g _ _ z.2.1)) z.2.2)))⟩) m
def xD (i:Nat):AE:=λΦ fr σ K KE=>bX (fr.loc[i]?) λv=>bX v λv=>bE v λk=>bN σ k λo=>pp o λj Z Z=>Φ 0 (10000+j) [.ref k] σ K KE
theorem Ml (i:Nat) (hx:κ.ns[i]?=some x) (hc:κ.cm=none):av w κ (.Call (.Name x px) [] [] pos) (xD i):=by
 intro G r z h t K Q H m q;rw[H.V.fnI hc];obtain⟨c,vs,l,S⟩:=H.S;obtain⟨v,f,A,g,p⟩:=m;subst g;obtain⟨k,rfl,o,hob,p⟩:=bh p;refine uB (sZ p) λj u n a p=>?_;obtain rfl:=a;refine bn (S.L.slot hx f) λX s b=>?_;refine bL c (gw ei (NI (G.O.turn S.T) S.A s ?_));obtain⟨y,d,rfl,hk,clos,pm,ctv,c',e,h1,_⟩:=S.R.get b hob;exact callWith_F0 (s:=⟨h,G.c.gn,G.c.d,_,G.c.os⟩) (V3 _ _ _ _ ((S.A.N _ h1).1)) (Lj H b p q)
def mX (j:Nat) (m:AE):(Nat->eL)->List SV->Sg->KV->KX->Prop:=λΦ args σ K KE=>one args λv=>bE v λk=>bN σ k λo=>pp o λj' cs kc=>j'=j∧bN σ kc λo=>mM o λq=>q=(aT j).qual∧m Φ ⟨[],cs,[]⟩ σ K KE
noncomputable def oK (j:Nat) (cd:Value):Ek:=⟨(aT j).scope,[],(aT j).cn,none,true,cd,(aT j).qual⟩
variable {Φ:Nat->eL}
theorem AK {j n:Nat} (P:ar w Φ n) (hc:iV (aT j).scope=true) (hk:((aT j).scope.kind== .function&&(aT j).cn.all λy=>(aT j).scope.names.lookup y==some .free&& !(y==("__classdict__":Str)))=true)
  (hb:∀clos pm c' ctv,bindArgs (kla_fn "<lambda>" (aT j).qual (aT j).params (aT j).body (aT j).scope clos pm (.ref c') ctv) ⟨[],[]⟩=pure []) (hm:∀cd,av w (oK j cd) (aT j).body m):jm w (n+1) (mX j m Φ):=by
 intro q Q h t τ σ X l k V K KE rm C R rv p xq B;obtain⟨k',ek,o,U,p⟩:=bh (x:=.ref k) (K:=λk=>bN σ k λo=>pp o λb F kc=>b=j∧bN σ kc λo=>mM o λq=>q=(aT j).qual∧m Φ ⟨[],F,[]⟩ σ K KE) p;cases ek;refine pi (sZ p) λb F kc J a4 M=>?_;obtain rfl:=J;obtain rfl:=a4;obtain⟨o2,D,p⟩:=M;refine ic (wQ p) λq1 L a3 p2=>?_;obtain rfl:=L;obtain rfl:=a3;obtain⟨y,d,rfl,hk1,clos,pm,ctv,c',e,h1,hkc,cr⟩:=R.get rv U;obtain⟨x2,d2,e2,oc,vs,u,h2,H,a1⟩:=R.ob _ _ D;cases hkc.symm.trans e2;refine ud rm C h1 (H6 _ _ vs u rfl ((C.led _ h2).1) H a1) hc (hb _ _ _ _) λc E s a0 Y G a5 N O h' t' A=>?_;rw[WU,Xu]at hk;have g:((aT b).scope.names.all λx=> !(x.2== .cell))=true:=by
  unfold iV at hc;rw[WU]at hc;exact hc.2
 have ce:gC c (oK b (.ref c')) ⟨[],F,[]⟩ τ:=λi x hx=>by
  refine pi (cr i x hx) λk a d e1 e2 e3=>?_;have z:=WZ.mp hk.2 x (X0 hx);rw[WU,Xu,Xj]at z;refine(mQ k a d e1 e2 (⟨z.1,?_,hk.1,z.2⟩:nC (c.ev (aT b).scope) x a));show(cellsFrom (c.L+1) (aT b).scope.names c.cl).lookup x=some a;rw[fb (n:=0) g,a0];exact e3
 refine hm (.ref c') ⟨c,Φ,n,c.ev (aT b).scope,⟨[],F,[]⟩,τ,X,KE,P,⟨O,Y,G⟩,λk r f e h1 t1 W ke I=>a5 _ _ _ (nA (κ:=oK b (.ref c')) O I λh2 fq=>N _ _ _ (xq k r f e h2 t1 W ke (by rw[E,s]at fq;exact fq)))⟩ (τ:=τ) (σ:=σ) (K:=K)
  ⟨⟨ce,rfl⟩,⟨c.g,_,l,.refl,A,rfl,R⟩,Tb.le.refl⟩ p2 λv r f V1 h3 t3 W a2 H1 kk=>?_
 obtain⟨g2,a6,l2,S⟩:=H1.S;have T:KtsTurn (eA c.outer) c.g g2:=S.T;rw[s,E]at T;exact B v r f V1 h3 t3 g2 l2 W a2 T (ly S.A.F S.A.N S.A.k) S.R kk
noncomputable def vA (F:(Nat->eL)->eL):Nat->Nat->eL
 |0,_=>λZ Z Z Z Z=>False
 |n+1,j=>match j with
  |0=>F (vA F n)
  |j+1=>vA F n j
theorem FJ {F:(Nat->eL)->eL} (hF:∀n Φ,ar w Φ n->(∀f,Nat.blt f 10000=true->aM w (n+1) (F Φ f) (.ref f))∧∀j,jm w (n+1) (F Φ (10000+j))) (n:Nat):ar w (vA F n) n:=by
 induction n with
 |zero=>exact⟨λj Z f Z q Q h t g d X l a i K c Z Z Z Z m=>m.elim,λj q Q h t g d X l k V K c Z Z Z Z m=>m.elim,λj f a d K c Z m=>m⟩
 |succ n ih=>
  refine⟨λj b f e=>?_,(hF n _ ih).2,λj f a d K c b m=>?_⟩
  ·cases j with
   |zero=>exact(hF n _ ih).1 f e
   |succ j=>
    have:=ih.ok j (Nat.le_of_succ_le_succ b) f e;rw[Nat.succ_sub_succ];exact this
  ·cases j with
   |zero=>exact absurd b (ZU _)
   |succ j=>exact ih.no j f a d K c (ZQ b) m
def fR:AS:=λZ Z Z Z Z=>False
theorem yP {ss:List Stmt}:bq w κ ss fR:=λZ Z Z Z Z Z Z Z Z m=>m.elim
variable {α:Type}
theorem xL (p:Nat->Bool) {a b:Nat} (hp:∀k,p k=true↔a≤k∧k<b) (hab:a≤b) (xs:List α):∀n,(xs.zipIdx n).filterMap (λq=>if p q.2=true then none else some q.1)=xs.take (a - n)++xs.drop (b - n):=by
 induction xs with
 |nil=>intro n;simp
 |cons x xs ih=>
  intro n;rw[List.zipIdx_cons,List.filterMap_cons,ih (n+1)];by_cases h:p n=true
  ·have z:=(hp n).mp h
   rw[Xn h];have d:a - n=0:=by exact Z50 z.1
   have f:b - n=(b - (n+1))+1:=by exact Z49 z.2
   have e:a - (n+1)=0:=by exact WR z.1
   rw[d,f,e];rfl
  ·rw[Xh h]
   by_cases hn:n<a
   ·have d:a - n=(a - (n+1))+1:=by exact Z49 hn
    have f:b - n=(b - (n+1))+1:=by lia
    rw[d,f];rfl
   ·have c:b≤n:=by
     apply Zk;intro c;exact h ((hp n).mpr ⟨Zk hn,c⟩)
    have e:a - (n+1)=0:=by exact Z54 hn
    have g:b - (n+1)=0:=by exact WR c
    rw[(by exact Z55 hn:a - n=0),(by exact Z50 c:b - n=0),e,g];rfl
variable {A:Around} {s:Shared}
theorem Am {l sl:Addr} {ws:List Value} {n a b:Nat} {t u:Tok} {Q:Value->Shared->Prop} (hl:s.heap.get? l=some (aL ws n)) (hs:s.heap.IsSliceOf sl (.int a t) (.int b u) .none) (hab:a≤b) (hb:b≤ws.length) (hz:ws.length≤1000000)
  (h:∀F:Array Value->Array Value,F ws.toArray=(ws.take a++ws.drop b).toArray->Q .none {s with heap:=s.heap.update l (Obj.mapSeq F)}):wpAny (model PP w) A (call (.builtin "list.__delitem__") [.ref l,.ref sl]) Q E s:=by
 refine ic (id hs) λg c e d=>?_;refine Zm ZG (bv _ hl rfl) PySem.F.entry_list_delitem ?_ (PySem.F.args_list_delitem_2 _ _);show wpAny _ _ (Builtin.List.listSubscript? (.ref sl)>>=_) _ _ s;refine WV ?_;refine WV (wpAny_specialOf ((bv g c e):s.TypeIs (.ref sl) "slice") slice_no_index ?_);refine W1 ?_;refine WV (wpAny_typeOf ((bv g c e):s.TypeIs (.ref sl) "slice") ?_);rw[Xh (by decide)];rw[listSliceParts_eq];refine WV (WV (YJ c d (x:=.none) rfl (WV (Z6 .none ?_))));rw[Xh (show¬((rawPart none==rawInt 0)=true) from XE)];refine WV (YJ c d (x:=.int a t) rfl (WV (Z6 (.int _ _) ?_)));refine WV (YJ c d (x:=.int b u) rfl (WV (Z6 (.int _ _) (W1 ?_))));refine WV (m:=Builtin.List.listItems (.ref l)) ?_;refine WV (wpAny_seqItems hl rfl (W1 ?_));refine WV (wpAny_of_eq (sliceIndices_raw (some (a:Int)) (some (b:Int)) none ws.toArray.size (by trivial)) ?_);have i:sliceBounds (some (a:Int)) (some (b:Int)) none ws.toArray.size=((a:Int),(b:Int),1):=by
  simp only[sliceBounds,Option.getD_none,Xq];have o:¬((a:Int)<0):=by exact Cy
  have r:¬((b:Int)<0):=by exact Cy
  simp only[o,r,Yu,show(1:Int)>0 by decide,ZO];congr 1
  ·lia
  ·congr 1;lia
 rw[i];have f:∀(p:Nat->Bool),(∀k,p k=(decide ((a:Int)≤(k:Int))&&decide ((k:Int)<(b:Int))&&(((k:Int) - (a:Int)) % 1==0)))->(ws.toArray.toList.zipIdx.filterMap λq=>if p q.2=true then none else some q.1).toArray=(ws.take a++ws.drop b).toArray:=λp j=>by
  congr 1;refine(xL p (λk=>?_) hab ws 0).trans (by rw[Nat.sub_zero,Nat.sub_zero]);rw[j,WU,WU,XZ,XZ,Int.emod_one];exact⟨λz=>⟨YK.mp z.1.1,YY.mp z.1.2⟩,λz=>⟨⟨YK.mpr z.1,YY.mpr z.2⟩,rfl⟩⟩
 refine WV (wpAny_rule (WV (wpAny_updateSeq hl rfl (WV (wpAny_letGo (W1 (bv _ rfl (h _ (f _ λk=>rfl)))))) ?_ ?_)))
 ·rw[XI,Xq];exact Z1 hz
 ·refine WX (Yd (Yi Array.size (f _ λk=>rfl))) ?_
  rw[Xq,Yb,YH,Y2,XI];lia
variable {o lo hi:Expr} {mo ma mb:AE} {p2 p3:Pos}
def MY (σ:Sg) (v a b:SV) (K:Sg->Prop):Prop:=bE v λk=>bN σ k λo=>cP o λxs=>aR a λx=>aR b λy=>(0≤x∧x≤y∧y.toNat≤xs.length∧xs.length≤1000000)∧K (σ.set k (.list (xs.take x.toNat++xs.drop y.toNat)))
def v8 (o a b:AE) (r:AS):AS:=λΦ fr σ K KE=>o Φ fr σ (λv σ=>a Φ fr σ (λx σ=>b Φ fr σ (λy σ=>MY σ v x y λσ=>r Φ fr σ K KE) KE) KE) KE
theorem SP {σ:Sg} {h:Heap} {t:Nat} {v a b:SV} {V A B:Value} {K:Sg->Prop} {R:Unit->Heap->Nat->Prop} (H:Hs G τ σ h) (rv:RV τ v V) (ra:RV τ a A) (rb:RV τ b B) (m:MY σ v a b K) (q:∀σ τ' h t,τ.le τ'->Hs G τ' σ h->K σ->R () h t):
  Wp G.c (delItem V (.ref h.objs.size)) R (h.push {cls:=.type "slice",data:=.fields #[A,B,.none]}) t:=by
 obtain⟨k,rfl,o,hob,p1⟩:=bh m;obtain⟨w,rfl,p2⟩:=cq p1;obtain⟨x,y,u,v,rfl,rfl,hz,p3⟩:=bR ra rb p2;obtain⟨x,rfl⟩:=XM hz.1;obtain⟨y,rfl⟩:=XM (Xl hz.1 hz.2.1);obtain⟨C,vs,l,S⟩:=H.S;obtain⟨D,d,rfl,hk,ws,n,g1,g2⟩:=S.R.get rv hob;refine ic (dn (List.Mem.tail (h.objs.size,({cls:=.type "slice",data:=.fields #[.int x u,.int y v,.none]}:Obj)) g1)) λr J I M=>?_;have p:=(S.A.push {cls:=.type "slice",data:=.fields #[.int x u,.int y v,.none]} rfl).sub I;have i:=(p.N _ (.head _)).1;have f:=g2.len;refine bL C (wpAny_delItem_slot (s:=⟨_,G.c.gn,G.c.d,t,G.c.os⟩) (bv _ i rfl) (by decide) ZG (Am (s:=⟨_,G.c.gn,G.c.d,t,G.c.os⟩) i (Heap.IsSliceOf.new ..) (YK.mp hz.2.1) (by have:=hz.2.2.1;lia) (V6 f hz.2.2.2) λF E=>aJ (c:=G.c) ?_));have j:=IsL.update (n:=n) i F;rw[E]at j;exact q _ _ _ t Tb.le.refl ⟨H.V,⟨_,_,_,S.T,p.chg1 (o3:=aL (ws.take x++ws.drop y) _) (Heap.SameBut.update ..) j,S.L,((S.R.cong (l':=_::l) λq g=>.tail _ g).cong J).chg (a:=D) (o:=.list (w.take x++w.drop y)) hob hk (.inl rfl) (λq g L=>.tail _ ((WY.mp g).resolve_left λe=>L (e▸rfl))) (λZ z=>z) ⟨_,_,.head _,g2.drop.app g2.take⟩⟩,H.le⟩ p3
theorem KW (so:av w κ o mo) (sa:av w κ lo ma) (sb:av w κ hi mb) (r:bq w κ rest ms):bq w κ (.Delete [.Subscript o (.Slice (some lo) (some hi) none p3) p2] pos::rest) (v8 mo ma mb ms):=by
 intro G d τ σ h t K Q H m q;refine ca (wpAny_Delete (wpAny_deleteEach_cons ?_));rw[arm_delete_Subscript];refine WV (Wp.go (so (G.at d) (Q:=λv h t=>wpAny (model PP w) G.c.A _ _ _ ⟨h,G.c.gn,G.c.d,t,G.c.os⟩) H m λJ L X a0 a3 O s f i l=>?_) λZ Z Z y=>y);refine WV (XH (wpAny_Slice (Wp.go (sa (G.at d) (Q:=λA E x=>Wp G.c (evalPart (some hi) (G.c.ev κ.sc)) (λB D C=>wpAny (model PP w) G.c.A _ _ _ ⟨D.push {cls:=.type "slice",data:=.fields #[A,B,.none]},G.c.gn,G.c.d,C,G.c.os⟩) E x) i l λV N T a2 F I b u g k=>?_) λA E x y=>Wp.go y λB D C z=>W1 z)));refine sb (G.at d) g k λa1 Y U M W S a e n j=>?_;refine WV (Yr (WV (XH (Wp.go (SP (G:=G.at d) n (f.up (b.trans a)) (u.up a) e j (R:=λZ h t=>wpAny (model PP w) G.c.A _ _ _ ⟨h,G.c.gn,G.c.d,t,G.c.os⟩) λZ Z Z Z p zH P=>?_) λZ Z Z y=>y))));exact wpAny_release (wpAny_deleteEach_nil (aJ (c:=G.c) (r G zH P (q.pre (((s.trans b).trans a).trans p)))))
noncomputable def vj (z:Str):List SV:=z.cps.toList.map λc=>.str ⟨#[c]⟩
theorem qV {xs:List SV}:∀{vs:List Value},vs.length=xs.length->(∀(j:Nat) (x:SV) (v:Value),xs[j]?=some x->vs[j]?=some v->RV τ x v)->bZ τ xs vs:=by
 induction xs with
 |nil=>intro vs h _;cases vs with
  |nil=>rfl
  |cons=>cases h
 |cons x xs ih=>intro vs h q;cases vs with
  |nil=>cases h
  |cons v vs=>exact⟨v,vs,rfl,q 0 x v rfl rfl,ih (ZC h) λj x v a b=>q (j+1) x v a b⟩
def io:df:=λvs σ K=>one vs λx=>cj x λz=>z.length≤10000∧K (.ref σ.nx) (σ.new (.list (vj z)))
theorem nG:eT w (.type "list") io:=by
 intro L G I M h t K vs E Q H r m q;obtain⟨x,A,rfl,ra,m⟩:=lx m r;obtain⟨z,rfl,hz,p⟩:=b0 m;obtain⟨u,rfl⟩:=ra;obtain⟨d,F,l,S⟩:=H.S;have e:z.cps.size≤10000:=hz;refine bL d (call_list_str (s:=⟨h,G.c.gn,G.c.d,t,G.c.os⟩) G.O.hh z u (λk J b i n C a=>aJ (c:=G.c) ?_) (by rw[XI];exact Z1 e));have y:News d (G.c.wg d).L k ((h.objs.size,aL b.toList i)::l):=λp hp=>by
  rcases WY.mp hp with rfl|hp
  ·refine⟨by show k.get? _=_;rw[C],Zc S.A.F.ns.lt,?_⟩
   cases z:d.get? h.objs.size with
   |none=>rfl
   |some o=>exact absurd (Xe (S.A.F.keep _ _ z)) (XX _)
  ·exact⟨n _ _ (S.A.N p hp).1,(S.A.N p hp).2⟩
 exact dN H S ⟨S.A.F.keeps n,y,S.A.k.cons λp hp=>Xe (S.A.N p hp).1⟩ (o:=.list (vj z)) ⟨b.toList,i,.head _,qV (by unfold vj;rw[W0,Array.length_toList,Array.length_toList];exact a.1) λj x v g D=>by
  refine gM (a.2 j v (by rw[←Zj];exact D)) λc u B f=>?_;obtain rfl:=f;unfold vj at g;rw[Xd,Zj,B]at g;obtain rfl:=jS g;exact⟨u,rfl⟩⟩ p q _
noncomputable def pO (kvs:List (Str×SV)):List SV:=kvs.map λp=>.str p.1
theorem Fe {kvs:List (Str×SV)}:∀{kv:List (Str×Value)} {j:Nat} {k:Str} {x:Value},RK τ kvs kv->kv[j]?=some (k,x)->(pO kvs)[j]?=some (.str k):=by
 induction kvs with
 |nil=>intro kv j k x h e;obtain rfl:=h;exact cX e
 |cons p r ih=>
  rintro kv j k x ⟨V,s,rfl,h1,h2⟩ e;cases j with
  |zero=>cases e;rfl
  |succ j=>exact ih h2 e
def iS:df:=λvs σ K=>one vs λx=>bE x λk=>bN σ k λo=>l8 o λkvs=>kvs.length≤10000∧K (.ref σ.nx) (σ.new (.list (pO kvs)))
theorem ni:eT w (.type "list") iS:=by
 intro P G N U h t K vs L Q H r m q;obtain⟨x,A,rfl,ra,m⟩:=lx m r;obtain⟨k,rfl,o,hob,p1⟩:=bh m;obtain⟨b,rfl,hz,p⟩:=ku p1;obtain⟨n,M,l,S⟩:=H.S;obtain⟨y,d,rfl,hk,kv,o,g1,g2,g3,g4⟩:=S.R.get ra hob;refine mZ g2 λF z r=>?_;have f:=tN g3;refine bL n (kdl_N (s:=⟨h,G.c.gn,G.c.d,t,G.c.os⟩) (kdl_dict g4) G.O.hh S.A.F S.A.N ((uA o F ((S.A.N _ g1).1) r):h.DictAt (strKind PP w) y kv z) (by rw[XI];exact V6 f hz) λD c T O g E i u a B=>aJ (c:=G.c) ?_);exact dN H S ⟨E,i,S.A.k.cons u⟩ (o:=.list (pO b)) ⟨g,c,.head _,qV (by unfold pO;rw[a,f,W0]) λj x v e J=>by
  refine gM (B j v J) λk R C I=>?_;rw[Fe g3 C]at e;obtain rfl:=jS e;exact Value.isStrOf_shape I⟩ p q _
variable {nn:Nat} {sc:Scope} {ns:List Str} {vs:List (Option Value)} {e T₀:Addr} {oe:Obj} {cl:Value} {dc:Option Addr}
theorem xZ (O:Ok c nn sc ns) (H:At c ns vs ((e,oe)::l) h) (hT:∀q∈l,q.1≠T₀) (gT:c.g.get? T₀=none) (nT:T₀≠c.L) (x:Lv (eA (c.ev sc::c.outer)) e T₀ cl dc .none h h'):
  ∃g' oe' T oT,KtsTurn (eA c.outer) c.g g'∧At (c.wg g') ns vs ((e,oe')::(T,oT)::l) h'∧uf h' e cl dc T .none:=by
 refine TR (th O H hT gT nT x) λg' oe' T oT k a y=>?_;refine mC H.F.ns λt v s n f d i=>?_;obtain⟨A,j⟩:=x.frm c.L t n (Yn.mpr (bv (c.ev sc) (.head _) rfl)) (λz=>(H.N _ (.head _)).2.1 z.symm) (λz=>nT z.symm);have b:T≠c.L:=λz=>by
  refine bn x.exn λB g r=>?_;obtain⟨⟨o1,C,w,_,_,u,f1⟩,_⟩:=y;obtain⟨⟨o2,D,p,_,_,o,m⟩,_⟩:=r;rw[w]at p;obtain rfl:=jS p;rw[u]at o;cases o;rw[f1]at m;cases m;exact absurd (Xe n) (by rw[←z];exact YM.mpr g)
 exact(I43 g' oe' T oT k ⟨⟨gW _ v s j f d i,a.st,by rw[k.size];exact H.F.above⟩,λq hq=>(eQ ((a.led q hq).1) (by
  rcases WY.mp hq with rfl|hq
  ·exact(H.N _ (.head _)).2.1
  ·rcases WY.mp hq with rfl|hq
   ·exact b
   ·exact(H.N _ (.tail _ hq)).2.1) ((a.led q hq).2)),a.keys⟩ y)
theorem aA.undel0 {X:Xs} (R:aA w τ (σ.del k) X l) {o:SO} {x d:Addr} (ht:τ k=some (x,d)) (hs:σ.ob k=some o) (hX:∀q∈X.own,q.1≠x∧q.1≠d) (r:gE w τ l x d o):aA w τ σ X l:=by
 refine⟨R.nx,λa c b=>?_,R.dj,R.nz,R.inl,R.X1,λa c p b f=>?_,R.X3⟩
 ·by_cases e:a=k
  ·subst e;rw[hs]at b;cases b;exact⟨x,d,ht,r⟩
  ·exact R.ob a c ((gy e).trans b)
 ·by_cases e:a=k
  ·subst e;rw[ht]at f;obtain rfl:=jS f;exact hX
  ·exact R.X2 a c p ((gy e).trans b) f
variable {Q:Unit->Shared->Prop}
theorem xB {n:Nat} (O:Ok c n κ.sc κ.ns) (fl:AP c κ fr k σ τ X e h)
  (q:∀h' g' vs l D n sl T y,KtsTurn (eA c.outer) c.g g'->At (c.wg g') κ.ns vs l h'->gU τ fr.loc vs->aA w τ σ X l->τ k=some (e,y)->h'.get? e=some ⟨.ref 438,some D,.fields n,sl⟩->∀oD,h'.get? D=some oD->uf h' e (.ref 438) (some D) T .none->Q () ⟨h',c.gn,c.d,t,c.os⟩):
  wpAny (model PP w) c.A (noteFrame (.ref e) (c.ev κ.sc)) (λZ s2=>wpAny (model PP w) c.A (setFlight (.ref e) none) Q E s2) E ⟨h,c.gn,c.d,t,c.os⟩:=by
 have r:∀{g1 g' h' vs l kd D y z b T i},KtsTurn (eA c.outer) c.g g'->At (c.wg g') κ.ns vs ((e,b)::(T,i)::l) h'->gU τ fr.loc vs->τ k=some (e,y)->σ.ob k=some (.exc kd)->τ kd=some (D,z)->(∀q∈X.own,q.1≠e∧q.1≠y)->(∀b,aA w τ (σ.del k) X ((e,b)::l))->uf h' e (.ref 438) (some D) T .none->g1=g'->Q () ⟨h',c.gn,c.d,t,c.os⟩:=by
  intro g1 g' h' vs l kd D y z b T i tu A L d f j V R x _;obtain⟨⟨a0,F,e1,c1,d1,f1,g1⟩,_⟩:=id x;obtain⟨cl,dc,dt,sl⟩:=a0;obtain rfl:=c1;obtain rfl:=d1;obtain rfl:=f1;have e2:=(A.N _ (.head _)).1;rw[e1]at e2;obtain rfl:=jS e2;have R1:=(R ⟨.ref 438,some D,.fields F,sl⟩).cong (l':=(e,⟨.ref 438,some D,.fields F,sl⟩)::(T,i)::l) λq hq=>by
   rcases WY.mp hq with rfl|hq
   ·exact .head _
   ·exact .tail _ (.tail _ hq)
  refine bn (Xb.mp (R1.inl _ _ j).1) λp hp ep=>?_;have hD:=(A.N _ hp).1;rw[ep]at hD;exact q h' g' vs _ D F sl T y tu A L (R1.undel0 d f V ⟨F,sl,D,z,j,.head _⟩) d e1 _ hD x
 cases fl with
 | @fresh g' vs l kd D y z a σ0 S d f j h1 hσ=>
  refine gM (dO h1) λI o W U=>?_;obtain rfl:=W;have G:At (c.wg g') κ.ns vs ((e,kq 438 (some D) a)::(I++o)) h:=S.A.sub λP=>by
   simp only[Xa,W4,X8,XD];exact HW
  have C:=O.turn S.T;have Y:=G.N _ (.head _);have u:=G.k.nd;rw[W4,W2]at u;refine iK (s:=⟨h,c.gn,c.d,t,c.os⟩) C.G.fs (fA (c:=c.wg g') C G) C.G.fr Y.1 rfl rfl λm x=>?_;refine bn x.exn λT hT K=>?_;refine eG K λh2 g o2 z2=>?_;refine TR (xZ C G (λq hq z=>u.1 (Xb.mpr ⟨q,hq,z⟩)) Y.2.2 Y.2.1 (x.land hT g o2 z2)) λM a1 T2 i tu J x2=>?_;subst hσ;exact r (g1:=M) (S.T.trans tu) J S.L d (aE f) j (λq hq=>S.R.X2 _ _ _ f d q hq) (λb=>S.R.ex d f) x2 rfl
 | @call g' vs l0 h0 T H L fq=>
  refine MV fq λkd D y z l d f j V R x=>?_;refine TR x λg1 b T1 i k1 ex K=>?_;refine ic (Ho (O.turn T) H k1 ex) λM k2 B v=>?_;have u:=v.k.nd;rw[W4,W4,W2,W2]at u;have s:Sub ((e,b)::l) ((e,b)::(T1,i)::l):=λP=>by simp only[W4,XD];exact Z73
  refine jA (s:=⟨h,c.gn,c.d,t,c.os⟩) B.G.fs (fA (c:=(c.wg g').wg M) B v) B.G.fr K λm x=>?_;refine bn x.exn λT3 N y3=>?_;refine eG y3 λh2 g o2 z2=>?_;refine TR (xZ B (v.sub s) (λq hq z=>u.2.1 (Xb.mpr ⟨q,hq,z⟩)) (v.N _ (.tail _ (.head _))).2.2 (v.N _ (.tail _ (.head _))).2.1 (x.land N g o2 z2)) λg3 a1 T2 a2 tu J x2=>?_;exact r (g1:=g3) ((T.trans k2).trans tu) J L d f j V R x2 rfl
abbrev AH:=cf->Sg->(SV->Prop)->Prop
def jJ (w:World) (κ:Ek) (e:Expr) (m:AH):Prop:=∀(c:Cf w) {fr τ σ X vs l h t K} {Q:Value->Heap->Nat->Prop},(HK w.params).In c.g->g9 (c.ev κ.sc) c.L κ.ns->At c κ.ns vs l h->gU τ fr.loc vs->aA w τ σ X l->m fr σ K->(∀v V t,RV τ v V->K v->Q V h t)->Wp c (eval e (c.ev κ.sc)) Q h t
variable {e ob:Expr} {m m1 m2:AH} {attr:Str} {kk:Nat} {z:Str}
def hV (i:Nat):AH:=λfr Z K=>bX (fr.loc[i]?) λv=>bX v K
theorem h_v (i:Nat) (hx:κ.ns[i]?=some x):jJ w κ (.Name x pos) (hV i):=by
 intro c g e j X vs l h t K Q f S A L R m q;obtain⟨v,a,k,d,p⟩:=m;subst d;refine bn (L.slot hx a) λV s b=>?_;exact ldS S A.F s (aJ (c:=c) (q _ _ _ b p))
def dF (m:AH) (a:Nat):AH:=λfr σ K=>m fr σ λv=>DK σ v a K
theorem Fb (a:Nat) (hn:cI a=attr) (hb:∀env x,attributeBase ob attr env x=x) (s:jJ w κ ob m):jJ w κ (.Attribute ob attr pos) (dF m a):=by
 subst hn;exactλc Z Z Z Z Z Z Z Z Z Z d S A L R m q=>nV hb (s c d S A L R m λv V t e k=>PI d A R e k λx W b k=>q _ _ _ b k)
def hS (z:Str):AH:=λZ Z K=>K (.str z)
theorem h_s:jJ w κ (.Constant (.str z) kk pos) (hS z):=λc Z Z Z Z Z Z Z Z Z Z a S A L R m q=>yL (q (.str z) _ _ ⟨_,rfl⟩ m)
def qm (op:Operator) (m1 m2:AH):AH:=λfr σ K=>m1 fr σ λx=>m2 fr σ λy=>tH op x y K
theorem QC {op:Operator} (s1:jJ w κ e1 m1) (s2:jJ w κ e2 m2):jJ w κ (.BinOp e1 op e2 pos) (qm op m1 m2):=λc Z Z Z Z Z Z Z Z Z Z b S A L R m q=>
 uh (s1 c b S A L R m λv V t a k=>s2 c b S A L R k λy Y t d k=>VB a d k λZ Z t k a=>q _ _ _ a k)
variable {e:Addr}
theorem XfG {M:Model} {g:Array GenState} {d:Drawn} {os:OsState} {od:Option Obj} {Q:Bool->Shared->Prop} (hM:M=model PP w) (X:(HK w.params).In h) (I:InstAt h e oe 438 od)
  (q:Q true ⟨h,g,d,t,os⟩):wpAny M A (excMatches (.ref e) (.ref 438)) Q E ⟨h,g,d,t,os⟩:=by
 subst hM;have b:Looks (model PP w) h (isInstance (.ref 438) (.type "tuple")) false:=Looks.of_peek X (by kernel_rfl);have c:Looks (model PP w) h (isExcClass (.ref 438)) true:=Looks.of_peek X (by kernel_rfl);have a:Looks (model PP w) h (isSubtype (.ref 438) (.ref 438)) true:=Looks.of_peek X (by kernel_rfl);refine WV (b.at ?_);simp only[Xz,Yu,pure_bind];simp only[Zw,List.forIn_nil,bind_assoc];refine WV (c.at ?_);simp only[Zn,Xz,Yu,pure_bind];refine WV ((I.type (M:=model PP w)).at ?_);refine WV (a.at ?_);exact W1 q
theorem na {M:Model} {e T:Addr} (hx:uf s.heap e cl dc T .none)
  (h:∀h',(∀b o,s.heap.get? b=some o->h'.get? b=some o)->h'.objs.size=s.heap.objs.size->Q () {s with heap:=h'}):wpAny M A (setFlight (.ref e) none) Q E s:=by
 obtain⟨⟨u,vs,r,v,p,t,j⟩,m,n,f,g,d,k⟩:=hx;have c:3<f.size:=(XV.mp k).1;refine WV (YJ r t j ?_);rw[Xn (show(Value.ref T !=Value.none)=true from by rfl)];refine Zd g d c (h _ (λb o q=>?_) (X5 ..));by_cases z:b=T
 ·subst z
  rw[Yj _ g (YR (YL d _)),←q,g];obtain⟨cl,dc,w,l⟩:=n;obtain rfl:=d;have z:f.setIfInBounds 3 .none=f:=Array.ext (by simp) λi j x=>by
   rw[Array.getElem_setIfInBounds];split
   ·subst i;exact(W7 ((Array.getElem?_eq_getElem c).symm.trans k)).symm
   ·rfl
  exact Yi some (Yi (λa=>(⟨cl,dc,.fields a,l⟩:Obj)) z)
 ·rw[XR _ _ (Ne.symm z)];exact q
theorem At.same (A:At c ns vs l h) (k:∀b o,h.get? b=some o->h'.get? b=some o):At c ns vs l h':=by
 refine uB A.F.ns λd e g f z=>?_;exact⟨⟨uv d e g (k _ _ f) z,λb o q=>k _ _ (A.F.keep b o q),A.F.above⟩,λq a=>⟨k _ _ (A.N q a).1,(A.N q a).2⟩,A.k⟩
variable {E':Value->Shared->Prop}
theorem AP.wE (fl:AP (c.wE E') κ fr k σ τ X e h):AP c κ fr k σ τ X e h:=by
 cases fl with
 |fresh S ht hs hd h1 hσ=>exact .fresh ⟨S.T,⟨S.A.F,S.A.N,S.A.k⟩,S.L,S.R⟩ ht hs hd h1 hσ
 |call T H L q=>exact .call T ⟨H.F,H.N,H.k⟩ L q
variable {env:Env}
theorem Mv {body:List Stmt} {h0:ExceptHandler} {Q:Flow->Heap->Nat->Prop}
  (hE:∀v s,E' v s->wpAny (model PP w) c.A (noteFrame v env) (λZ s2=>wpAny (model PP w) c.A (setFlight v none) (λZ s3=>wpAny (model PP w) c.A (handleBy v env [h0]) (lf c Q) c.E s3) c.E s2) c.E s)
  (q:Wp (c.wE E') (execs body env) (λf h t=>(match f with|.next=>False|_=>True)∧Q f h t) h t):Wp c (exec (.Try body [h0] [] [] pos) env) Q h t:=
 wpAny_Try_except (Ym q (λf s y=>by
  refine jC y λh t a d b=>?_;obtain rfl:=a;cases f
  ·exact d.elim
  all_goals exact aJ b) hE)
def OL (k r i:Nat) (m:AE) (mh:AH):(Nat->eL)->List SV->Sg->KV->KX->Prop:=λΦ args σ K KE=>Nat.beq args.length k=true∧m Φ ⟨args.map some++List.replicate r none,[],[]⟩ σ K λe σ=>i<k+r∧mh (cf.put ⟨args.map some++List.replicate r none,[],[]⟩ i (.ref e)) σ λv=>K v σ
end
section
variable {w:World} {κ:Ek}
inductive TyR (h4:Heap) (τ1:Tb) (σ1:Sg) (K:KV) (f:Flow) (h:Heap) (t:Nat):Prop
 |mk (V:Value) (v:SV) (e:f=.ret V) (eh:h=h4) (rv:RV τ1 v V) (k:K v σ1):TyR h4 τ1 σ1 K f h t
theorem EU {args:List SV} {k r i:Nat} (hn:args.length=k) (h:i<k+r):i<(args.map some++List.replicate r none).length:=by
 rw[Yb,W0,List.length_replicate,hn];exact h
theorem vZ {c q:Cf w} {g:Heap} (ho:c.outer=q.outer) (hg:c.g=q.g) (T:KtsTurn (eA c.outer) c.g g):KtsTurn (eA q.outer) q.g g:=by
 rw[←ho,←hg];exact T
structure Tp where
 e:Expr
 e2:Expr
 m:AE
 mh:AH
 k:Nat
 r:Nat
 i:Nat
 x:Str
 y:Str
 name:Str
 qual:Str
 params:Arguments
 dVl:Value
 kV:Value
 doc:Value
 pm:Value
 cdv:Value
 ct:Value
 an:Option Addr
 p1:Pos
 p2:Pos
 p3:Pos
 p4:Pos
 p5:Pos
noncomputable def Tp.hs (p:Tp):ExceptHandler:=.ExceptHandler (some (.Name p.x p.p2)) (some p.y) [.Return (some p.e2) p.p3] p.p4
noncomputable def Tp.body (p:Tp):List Stmt:=[.Try [.Return (some p.e) p.p1] [p.hs] [] [] p.p5]
noncomputable def Tp.fr (p:Tp) (args:List SV):cf:=⟨args.map some++List.replicate p.r none,[],[]⟩
structure Tp.Ok (p:Tp) (w:World) (κ:Ek):Prop where
 cd:κ.cd=p.cdv
 qn:κ.qn=p.qual
 cm:κ.cm=none
 cn:κ.cn=[]
 hm:av w κ p.e p.m
 hh:jJ w κ p.e2 p.mh
 hi:κ.ns[p.i]?=some p.y
 ev:nsIn (HK w.params) mainGlobals p.x=some (some (.ref 438))
 hx:bz κ p.x=true
def TyQ (c:Cf w) (τ:Tb) (X:Xs) (K:KV) (Q:Flow->Heap->Nat->Prop):Prop:=∀v σ τ' V h t g' l,τ.le τ'->RV τ' v V->KtsTurn (eA c.outer) c.g g'->Ex g' l h->aA w τ' σ X l->K v σ->Q (.ret V) h t
inductive TyE (p:Tp) (κ:Ek) (c:Cf w) (args:List SV) (τ:Tb) (X:Xs) (K:KV) (v:Value) (s:Shared):Prop
 |mk (e1:Addr) (h1:Heap) (t1:Nat) (k1:Nat) (σ1:Sg) (τ1:Tb) (ev:v=.ref e1) (es:s=⟨h1,c.gn,c.d,t1,c.os⟩) (hi:p.i<p.k+p.r) (m:p.mh (cf.put (p.fr args) p.i (.ref k1)) σ1 λv=>K v σ1) (le:τ.le τ1) (fl:AP c κ (p.fr args) k1 σ1 τ1 X e1 h1):TyE p κ c args τ X K v s
variable {p:Tp} {c:Cf w} {n:Nat} {args:List SV} {τ:Tb} {X:Xs} {K:KV} {Q:Flow->Heap->Nat->Prop}
theorem TH (o:p.Ok w κ) (O:Ok c n κ.sc κ.ns) (hn:args.length=p.k) (q:TyQ c τ X K Q) (v:Value) (s:Shared) (y:TyE p κ c args τ X K v s):
  wpAny (model PP w) c.A (noteFrame v (c.ev κ.sc)) (λZ s2=>wpAny (model PP w) c.A (setFlight v none) (λZ s3=>wpAny (model PP w) c.A (handleBy v (c.ev κ.sc) [p.hs]) (lf c Q) c.E s3) c.E s2) c.E s:=by
 obtain⟨B,h1,H,k1,b,a,I,U,u,Y,N,fl⟩:=y;rw[I,U];refine xB O fl λC e vs l D n sl T y tu A L R S P oD m x=>?_;refine wpAny_handleBy_cons (codeAny_handlers_test (glS (s:=⟨C,c.gn,c.d,H,c.os⟩) A.F (O.turn tu).X (O.turn tu).T o.ev (bV (.fn (c:=c) (X:=X) o.cm (λi x h=>by rw[o.cn]at h;exact cX h:gC c κ (p.fr args) a)) o.hx) (XfG (od:=some oD) rfl ((O.turn tu).X.keeps A.F.keep:(HK w.params).In C) ⟨P,rfl,rfl,m⟩ (codeAny_handlers_suite_as ?_)))) (by intro q;cases q);refine na (s:=⟨C,c.gn,c.d,H,c.os⟩) x λh3 k3 Z=>?_;have d:=A.same k3;refine Exists.elim (L.put (x:=.ref k1) (X:=.ref B) ⟨_,_,rfl,S⟩ o.hi (EU hn u)) λW z=>?_;refine stE O.S d.F d.N z.1 λJ g G=>?_;refine Wp.go (c:={c.wg e with A:=c.A.mark (some (.ref B)),E:=_}) (Q:=TyR J a b K) (rW (o.hh {c.wg e with A:=c.A.mark (some (.ref B)),E:=_} (O.turn tu).X O.S ⟨g,G,d.k⟩ z.2 R Y λv V t k j=>⟨V,v,rfl,rfl,k,j⟩)) ?_;intro f hh t5 r;obtain⟨V,v,ef,eh,k,j⟩:=r;rw[ef,eh];exact wpAny_nameGoes_keeps (O.S.loc p.y (X0 o.hi)) g.ns (by rw[O.S.kind];rfl) λM v5 hn F=>aJ (q v b a V M _ e l N k tu (ly (g.set hn F) (G.set F) d.k) R j)
theorem S0 (o:p.Ok w κ) {Φ:Nat->eL} (P:ar w Φ n) (O:HC c n κ) {avs:List Value} {σ:Sg} {h:Heap} {t:Nat} {l:bu} (L:gU τ (p.fr args).loc (avs.map some++List.replicate p.r none)) (R:aA w τ σ X l) (A:At c κ.ns (avs.map some++List.replicate p.r none) l h)
  (m0:p.m Φ (p.fr args) σ K λe σ=>p.i<p.k+p.r∧p.mh (cf.put (p.fr args) p.i (.ref e)) σ λv=>K v σ) (q:TyQ c τ X K Q):Wp (c.wE (TyE p κ c args τ X K)) (execs [.Return (some p.e) p.p1] (c.ev κ.sc)) (λf h t=>(match f with|.next=>False|_=>True)∧Q f h t) h t:=by
 refine rW (o.hm ⟨c.wE _,Φ,n,c.ev κ.sc,p.fr args,τ,X,_,P,O.wE _,λB b a z g k j m d=>⟨z,g,k,B,b,a,rfl,rfl,m.1,m.2,j,d.wE⟩⟩ (h:=h) (t:=t) ⟨.fn o.cm (λi x h=>by rw[o.cn]at h;exact cX h:gC c κ (p.fr args) τ),⟨c.g,_,l,.refl,⟨A.F,A.N,A.k⟩,L,R⟩,Tb.le.refl⟩ m0 λv b a V g k j s H1 r=>⟨trivial,?_⟩);obtain⟨y,vs,u,S⟩:=H1.S;exact q v b a V g k y u j s S.T (ly S.A.F S.A.N S.A.k) S.R r
theorem DB {f:Addr} {Φ:Nat->eL} {oc:Value} {od:Option Addr} {osl:Array (Option Value)} (o:p.Ok w κ) (ho:(HK w.params).lookup f=some ⟨oc,od,.func (fnOf p.name p.qual p.params p.body κ.sc p.dVl p.kV p.doc p.pm p.an p.cdv p.ct),osl⟩)
  (hc:(iC (HK w.params) κ.sc κ.ns p.cdv p.qual&&(κ.sc.names.all λx=> !(x.2== .cell)))=true)
  (hb:∀(s:Shared) (avs:List Value),(HK w.params).In s.heap->avs.length=p.k->BindsTo s (fnOf p.name p.qual p.params p.body κ.sc p.dVl p.kV p.doc p.pm p.an p.cdv p.ct) ⟨avs,[]⟩ (bB κ.ns (avs.map some++List.replicate p.r none)))
  (P:ar w Φ n):aM w (n+1) (OL p.k p.r p.i p.m p.mh Φ) (.ref f):=by
 intro q Q h t B σ X l k avs K Y H C R m u S a;have r:=W9 u.1;refine lR κ.ns (avs.map some++List.replicate p.r none) H C ho hc (hb _ avs (show(HK w.params).In h from Cx.xs C) (m.len.trans r)) ?_;intro c g e i b I E O W U N;have L:TyQ c B X K (λfl h t=>Q (fZ fl) h t):=λv j d V F M J A G z T D R y=>a v j d V F M J A G z (vZ e g T) D R y;exact ca (Mv (TH o O r L) (S0 o P ⟨O,i.trans o.cd.symm,b.trans o.qn.symm⟩ (gU.app gU.rep m) R N u.2 L))
variable {β:Type}
def Og (P:β->Prop) (o:Option β):Prop:=∀m,o=some m->P m
variable {α:Type} {P:β->Prop} {R:α->Prop} {o:Option β} {m:β}
theorem ah (s:P m):Og P (some m):=λZ e=>W7 e▸s
theorem al:Og P none:=λZ e=>nomatch e
theorem af {oa:Option α} {f:α->Option β} (h:Og R oa) (k:∀m,R m->Og P (f m)):Og P (oa.bind f):=by
 cases oa with
 |none=>exact al
 |some a=>exact k a (h a rfl)
noncomputable def gd (b:Bool) (o:Option β):Option β:=match b with
 |true=>o
 |false=>none
theorem bg {b:Bool} (h:b=true->Og P o):Og P (gd b o):=by
 cases b with
 |false=>exact al
 |true=>exact h rfl
noncomputable def dI:List Str->Str->Option Nat
 |[],_=>none
 |y::r,x=>match y==x with
  |true=>some 0
  |false=>(dI r x).map (·+1)
variable {x:Str}
theorem T5 {l:List Str}:∀{i:Nat},dI l x=some i->l[i]?=some x:=by
 induction l with
 |nil=>intro i h;exact cX h
 |cons y r ih=>
  intro i h;dsimp only[dI]at h;split at h
  ·rename_i e;obtain rfl:=jS h;rw[XJ e];rfl
  ·refine bn (W8.mp h) λj b a=>?_;obtain rfl:=a
   exact ih b
theorem dZ {P:β->Prop} {l:List Str} {f:Nat->Option β} (k:∀i,l[i]?=some x->Og P (f i)):Og P ((dI l x).bind f):=af (R:=λi=>l[i]?=some x) (λZ e=>T5 e) k
theorem iP {i:Nat} (h:cz[i]?=some x):cI i=x:=by
 unfold cI;rw[YX,h];rfl
end
section
variable {w:World} {κ:Ek}
inductive Vw
 |name (x:Str) (p:Pos)|attr (o:Expr) (a:Str) (p:Pos)|sub (o i:Expr) (p:Pos)|slice (lo hi st:Option Expr) (p:Pos)|tup (es:List Expr) (k:Nat) (p:Pos)
 |call (f:Expr) (as:List Expr) (ks:List Keyword) (p:Pos)|con (c:Const) (k:Nat) (p:Pos)|comp (e:Expr) (g:List Comprehension) (s:Scope) (p:Pos)|set|tst|lst|no
noncomputable def dl (e:Expr):Vw:=match e with
 |.Name x p=>.name x p
 |.Attribute o a p=>.attr o a p
 |.Subscript o i p=>.sub o i p
 |.Slice a b c p=>.slice a b c p
 |.Tuple es k p=>.tup es k p
 |.Call f as ks p=>.call f as ks p
 |.Constant c k p=>.con c k p
 |.ListComp e g s p=>.comp e g s p
 |.Set .. =>.set
 |.List .. =>.lst
 |.UnaryOp .. =>.tst
 |.BoolOp .. =>.tst
 |.IfExp .. =>.tst
 |.Compare .. =>.tst
 |_=>.no
noncomputable def Vw.is (v:Vw) (e:Expr):Prop:=match v with
 |.name x p=>e=.Name x p
 |.attr o a p=>e=.Attribute o a p
 |.sub o i p=>e=.Subscript o i p
 |.slice a b c p=>e=.Slice a b c p
 |.tup es k p=>e=.Tuple es k p
 |.call f as ks p=>e=.Call f as ks p
 |.con c k p=>e=.Constant c k p
 |.comp d g s p=>e=.ListComp d g s p
 |_=>True
noncomputable def iZ (o:Expr):Bool:=match dl o with
 |.call .. =>false
 |_=>true
noncomputable def gO (o:Expr):Bool:=match dl o with
 |.set=>false
 |_=>true
noncomputable def j0 (o:Expr):Bool:=match dl o with
 |.slice .. =>false
 |_=>true
noncomputable def E4 (o:Expr):Bool:=match dl o with
 |.tst=>false
 |_=>true
noncomputable def qw (o:Expr):Bool:=match dl o with
 |.lst=>true
 |_=>false
structure Xbm (e:Expr):Prop where
 is:(dl e).is e
 call:iZ e=true->∀(attr:Str) (env:Env) (x:Sem Value),attributeBase e attr env x=x
 set:gO e=true->(∀(env:Env) (x:Value),foldedSetIterable e env x=pure x)∧∀op,behindInMarks op e=false
 slice:j0 e=true->∀a i:Value,subscripted e false a i=operate [a,i] (getItem a i)
 val:E4 e=true->∀(env:Env) (whole:Sem Value),isTrue e env whole=(do let v ←whole;standAt e.pos;holding [v] (truthy v))
theorem bw (e:Expr):Xbm e:=by
 cases e<;>exact⟨(by first|rfl|trivial),(λh=>by first|exactλZ Z Z=>rfl|(exact cp h)),(λh=>by first|exact⟨λZ Z=>rfl,λZ=>rfl⟩|(exact cp h)),(λh=>by first|exactλZ Z=>rfl|(exact cp h)),(λh=>by first|exactλZ Z=>rfl|(exact cp h))⟩
variable {a:Expr}
theorem ue {o:Expr} {op op':CmpOp} (h:gO o=true):markedEach [op,op'] [a,o]=id:=by
 funext ts
 rcases ts with _|⟨t,_|⟨t2,_|⟨t3,ts⟩⟩⟩
 ·rfl
 ·rfl
 ·show[t,markedBehindIn op' o t2]=_
  dsimp only[markedBehindIn];rw[(((bw o).set h).2 op':behindInMarks op' o=false)];rfl
 ·rfl
variable {α:Type}
noncomputable def iH (m:Sem α):Option α:=match m with
 |.pure a=>some a
 |_=>none
theorem kg {m:Sem α} {a:α} (h:iH m=some a):m=pure a:=by
 cases m<;>first|(obtain rfl:=jS h;rfl)|exact cX h
noncomputable def G2 (s:Scope):Env:=envX "" s 0 0 .none []
variable {e:Expr} {s:Scope}
theorem Hm {ts:List Expr} {line:Nat} {env:Env} (h:s=env.scope):swapsWithSole ts e line env=swapsWithSole ts e line (G2 s):=by
 subst h;rcases ts with _|⟨t,_|⟨t2,ts⟩⟩
 ·rfl
 ·show swapsWith e (some t) line env=swapsWith e (some t) line (G2 env.scope)
  rfl
 ·rfl
theorem DU {ts:List Expr} {env:Env} (h:s=env.scope):swappedStores ts e env=swappedStores ts e (G2 s):=by
 subst h;rfl
noncomputable def ID:List (Str×Nat):=([("is_int",237),("sort_of",244),("same",251),("code_of",264),("full_name",297),("kind_word",365),("need_int",372),("need_open",379),("limits_of",386),("span_in",393),("place_of",400),("list_item",447),("list_at",454)]:List (Str×Nat))++(([("list_slice_out",461),("list_delete_at",468),("whole",475),("need_free",482),("span_of",489),("span_of_range",496),("span_for",503),("part",510),("take_part",517),("show",358),("_law_kinds",845),("_law_signs",852),("_law_box",859)]:List (Str×Nat))++
 ([("_law_take",866),("_law_holders",871),("_law_mark",878),("_law_strange",885),("_law_odd",892),("_law_span",899),("_law_past",906),("_law_due",911),("_law_heard",918),("_law_limits_right",925),("_law_told_right",930),("_law_cut_right",935)]:List (Str×Nat)))
noncomputable def WE:List (Str×Nat×Nat):=[("Thing",40,37),("Text",62,59),("ListThing",82,79),("TableThing",120,98),("RangeThing",140,137),("ErrorThing",181,178),("ModuleThing",228,218),("World",834,573)]
noncomputable def kcL:List (Str×Nat×Nat):=[("Thing",40,37),("GemError",418,415)]
noncomputable def coL:List (Str×Nat):=[("MODULES",546),("UNMADE",558),("MIXED",550)]
noncomputable def jd (o:Option (Option Value)) (a:Nat):Bool:=match o with
 |some o=>(match o with
  |some v=>(match v with
   |.ref b=>Nat.beq b a
   |_=>false)
  |none=>false)
 |none=>false
variable {o:Option (Option Value)} {a:Nat}
set_option tactic.hygienic true in
theorem eW (h:jd o a=true):o=some (some (.ref a)):=by
 rcases o with _|_|v
 ·exact cp h
 ·exact cp h
 ·cases v
  case ref b=>rw[W9 h]
  all_goals exact cp h
noncomputable def fnB (w:World) (p:Str×Nat):Bool:=Nat.blt p.2 10000&&(jd (nsIn (HK w.params) mainGlobals p.1) p.2&&keepIn (HK w.params) (.ref p.2))
theorem BS:(ID.all λp=>fnB w p)=true:=by kernel_rfl
noncomputable def WO (w:World) (p:Str×Nat×Nat):Bool:=Nat.blt p.2.2 10000&&(jd (nsIn (HK w.params) mainGlobals p.1) p.2.1&&(keepIn (HK w.params) (.ref p.2.1)&&(jd (findIn (HK w.params) (.ref p.2.1) "__init__") p.2.2&&(makesIn (HK w.params) p.2.1&&isFn (HK w.params) (.ref p.2.2)))))
theorem qA:(WE.all λp=>WO w p)=true:=by kernel_rfl
theorem ER:(coL.all λp=>jd (nsIn (HK w.params) mainGlobals p.1) p.2)=true:=by kernel_rfl
noncomputable def cfO (o:Option CFound) (f:Nat):Bool:=match o with
 |some c=>(match c with
  |.val v=>(match v with
   |.ref b=>Nat.beq b f
   |_=>false)
  |_=>false)
 |none=>false
set_option tactic.hygienic true in
theorem Xak {o:Option CFound} (h:cfO o a=true):o=some (.val (.ref a)):=by
 rcases o with _|c
 ·exact cp h
 ·cases c
  case val v=>
   cases v
   case ref b=>rw[W9 h]
   all_goals exact cp h
  all_goals exact cp h
noncomputable def kcB (w:World) (p:Str×Nat×Nat):Bool:=Nat.blt p.2.2 10000&&(jd (nsIn (HK w.params) mainGlobals p.1) p.2.1&&(keepIn (HK w.params) (.ref p.2.2)&&(cfO (findCls (HK w.params) (.ref p.2.1) (.type "type") "__init__") p.2.2&&
 (specialIn (HK w.params) (.ref p.2.1) "__getattribute__"==some (some (.builtin "type.__getattribute__"))&&typeIn (HK w.params) (.ref p.2.1)==some (.type "type")&&readsIn (HK w.params) p.2.1 (.type "type")&&handedIn (.ref p.2.2)))))
theorem BO:(kcL.all λp=>kcB w p)=true:=by kernel_rfl
noncomputable def kxB (w:World):Bool:=jd (nsIn (HK w.params) mainGlobals "Raised") 438&&(keepIn (HK w.params) (.ref 438)&&(jd (findIn (HK w.params) (.ref 438) "__init__") 435&&(dX (HK w.params) 438&&isFn (HK w.params) (.ref 435))))
theorem EF:kxB w=true:=by kernel_rfl
noncomputable def zJ (o:Option (Option Value)):Bool:=match o with
 |some o=>o.isNone
 |none=>false
theorem Ad (h:zJ o=true):o=some none:=by
 rcases o with _|_|v
 ·exact cp h
 ·rfl
 ·exact cp h
noncomputable def biL:List Str:=["isinstance","len","max","min","abs","chr","range","list","ValueError","bool","int","str"]
theorem GK:(biL.all λx=>zJ (nsIn (HK w.params) mainGlobals x))=true:=by kernel_rfl
variable {x:Str}
theorem eN (h:x∈biL):nsIn (HK w.params) mainGlobals x=some none:=Ad (WZ.mp (GK (w:=w)) x h)
def DL (a b:df):df:=λvs σ K=>a vs σ K∨b vs σ K
theorem on {f:Value} {a b:df} (ha:eT w f a) (hb:eT w f b):eT w f (DL a b):=λG Z Z Z Z Z Z Z Z H r m q=>m.elim (λm=>ha G H r m q) λm=>hb G H r m q
def dG:df:=DL nU (DL io iS)
noncomputable def lk (l:List (Str×α)) (x:Str):Option α:=(l.find? λp=>p.1==x).map (·.2)
variable {β:Type}
theorem gs {P:β->Prop} {l:List (Str×α)} {f:α->Option β} (k:∀a,(x,a)∈l->Og P (f a)):Og P ((lk l x).bind f):=af (R:=λa=>(x,a)∈l) (λa e=>by
 refine bn (W8.mp e) λp c b=>?_;obtain rfl:=b;have z:=Zx c;rw[←XJ z];exact(Yh c)) k
noncomputable def bA (a b:Option β):Option β:=match a with
 |some x=>some x
 |none=>b
theorem bY {P:β->Prop} {a b:Option β} (h:Og P a) (k:Og P b):Og P (bA a b):=by
 cases a with
 |none=>exact k
 |some x=>exact h
def yA (w:World) (κ:Ek) (x:Str) (g:AL->AE):Prop:=∀{e:Expr} {es:List Expr} {pos px:Pos} {ml:AL},(e::es).all bj=true->eu w κ (e::es) ml->av w κ (.Call (.Name x px) (e::es) [] pos) (g ml)
noncomputable def biT:List (Str×df):=[("isinstance",bt),("len",aZ),("max",iA),("min",fi),("abs",fc),("chr",j8),("range",bD),("list",dG)]
noncomputable def ui (x:Str):Option (AL->AE):=bA ((lk ID x).bind λf=>some (ag f)) (bA ((lk WE x).bind λp=>some (eF p.1 p.2)) (bA (gd (x=="Raised") (some (CU 435))) ((lk biT x).bind λs=>some (bH s))))
theorem forall_cons {P:α->Prop} {a:α} {l:List α} (h:P a) (r:∀x∈l,P x):∀x∈a::l,P x:=λx b=>(WY.mp b).elim (λe=>e▸h) (r x)
theorem biA:∀p∈biT,bz κ p.1=true->yA w κ p.1 (bH p.2):=
 forall_cons (λa Z Z Z Z Z b s=>pY (id:="isinstance") AU (eN (Xw rfl)) (by kernel_rfl) a b s)
 (forall_cons (λa Z Z Z Z Z b s=>pY (id:="len") Bp (eN (Xw rfl)) (by kernel_rfl) a b s)
 (forall_cons (λa Z Z Z Z Z b s=>pY (id:="max") zQ (eN (Xw rfl)) (by kernel_rfl) a b s)
 (forall_cons (λa Z Z Z Z Z b s=>pY (id:="min") AD (eN (Xw rfl)) (by kernel_rfl) a b s)
 (forall_cons (λa Z Z Z Z Z b s=>pY (id:="abs") BQ (eN (Xw rfl)) (by kernel_rfl) a b s)
 (forall_cons (λa Z Z Z Z Z b s=>pY (id:="chr") Fs (eN (Xw rfl)) (by kernel_rfl) a b s)
 (forall_cons (λa Z Z Z Z Z b s=>Sd (id:="range") tZ (eN (Xw rfl)) (by kernel_rfl) a b s)
 (forall_cons (λa Z Z Z Z Z b s=>Sd (id:="list") (on wT (on nG ni)) (eN (Xw rfl)) (by kernel_rfl) a b s) (λZ h=>nomatch h))))))))
theorem Dv {f:Nat} (h:(x,f)∈ID):Nat.blt f 10000=true∧nsIn (HK w.params) mainGlobals x=some (some (.ref f))∧keepIn (HK w.params) (.ref f)=true:=by
 have z:=WZ.mp (BS (w:=w)) _ h;dsimp only[fnB]at z;rw[WU,WU]at z;exact⟨z.1,eW z.2.1,z.2.2⟩
theorem sx (hx:bz κ x=true):Og (yA w κ x) (ui x):=by
 refine bY (gs λf c=>ah ?_) (bY (gs λp c=>ah ?_) (bY (bg λh=>ah ?_) (gs λs c=>ah (biA _ c hx))))
 ·intro e g a d i b s
  refine wI (Dv (w:=w) c) λk l j=>?_;exact Hk k l hx (by rw[j,b];rfl) s
 ·intro e g a d i b s
  have z:=WZ.mp (qA (w:=w)) _ c;dsimp only[WO]at z;rw[WU,WU,WU,WU]at z;exact Uc z.1 (eW z.2.1) hx (by rw[z.2.2.1,b];rfl) (eW z.2.2.2.1) z.2.2.2.2 s
 ·intro e g a d i b s
  cases XJ h;have z:=EF (w:=w);unfold kxB at z;rw[WU,WU,WU]at z;exact M9 rfl (eW z.1) hx (by rw[z.2.1,b];rfl) (eW z.2.2.1) z.2.2.2 s
noncomputable def UY:List (Str×Nat):=[("bool",0),("int",1),("str",2)]
theorem Xa7:∀p∈UY,∀pos,bz κ p.1=true->av w κ (.Name p.1 pos) (mH p.2):=
 forall_cons (λZ a=>Af 0 (eN (Xw rfl)) (by kernel_rfl) a)
 (forall_cons (λZ a=>Af 1 (eN (Xw rfl)) (by kernel_rfl) a)
 (forall_cons (λZ a=>Af 2 (eN (Xw rfl)) (by kernel_rfl) a) (λZ h=>nomatch h)))
noncomputable def qQ (x:Str):Option AE:=bA ((lk ID x).bind λf=>some (aG f)) (bA ((lk WE x).bind λp=>some (aG p.1)) (bA ((lk coL x).bind λa=>some (aG a)) ((lk UY x).bind λi=>some (mH i))))
variable {pos:Pos}
theorem oX (hx:bz κ x=true):Og (av w κ (.Name x pos)) (qQ x):=by
 refine bY (gs λf b=>ah (s_g (Dv b).2.1 hx)) (bY (gs λp b=>ah ?_) (bY (gs λa b=>ah (s_g (eW (WZ.mp ER _ b)) hx)) ?_))
 ·have z:=WZ.mp (qA (w:=w)) _ b
  dsimp only[WO]at z;rw[WU,WU]at z;exact s_g (eW z.2.1) hx
 ·exact gs λi b=>ah (Xa7 _ b _ hx)
noncomputable def tj (x:Str):Bool:= !(x==("__debug__":Str))
noncomputable def tO (κ:Ek) (x:Str):Option AE:=match κ.cm with
 |none=>bA ((dI κ.ns x).bind λi=>some (aV i)) (bA ((dI κ.cn x).bind λi=>gd (tj x) (some (aC i))) (gd (bz κ x) (qQ x)))
 |some p=>bA (gd (x==p.2&&(p.1.kind== .function&&p.1.names.lookup x==some .local&&tj x)) (some aX)) (bA ((dI κ.cn x).bind λi=>gd (!κ.lm&&(p.1.names.lookup x==some .free&&tj x)) (some (aC i))) (gd (bz κ x) (qQ x)))
theorem xS:Og (av w κ (.Name x pos)) (tO κ x):=by
 unfold tO;cases hc:κ.cm with
 |none=>exact bY (dZ λi h=>ah (s_v i h hc)) (bY (dZ λi h=>bg λa=>ah (s_c i h hc a)) (bg oX))
 |some p=>
  obtain⟨s,y⟩:=p;refine bY (bg λh=>ah ?_) (bY (dZ λi h=>bg λa=>ah ?_) (bg oX))
  ·rw[WU]at h
   cases XJ h.1;exact s_x hc h.2
  ·rw[WU,Xj]at a
   exact Xfy a.1 i h hc a.2
noncomputable def hdL:List Nat:=[461,517,454,510]
theorem Cd:(hdL.all λf=>Nat.blt f 10000&&keepIn (HK w.params) (.ref f))=true:=by kernel_rfl
def jG (m:AE) (ml:AL):AE:=λΦ fr σ K KE=>m Φ fr σ (λv σ=>gB v λf=>hdL.contains f=true∧ml Φ fr σ (λvs σ=>Φ 0 f vs σ K KE) KE) KE
theorem xV {o i e:Expr} {es:List Expr} {pos p:Pos} {m:AE} {ml:AL} (hk:(e::es).all bj=true) (sm:av w κ (.Subscript o i p) m) (s:eu w κ (e::es) ml):av w κ (.Call (.Subscript o i p) (e::es) [] pos) (jG m ml):=by
 intro G R T h t K Q H m q;refine gw rfl (sm G H m λI C E r y A j v a n=>?_);obtain⟨f,O,L,k⟩:=gf n;have x:=v;rw[O]at x;have z:=WZ.mp (Cd (w:=w)) f (XU.mp L);rw[WU]at z;obtain⟨c,P,l,S⟩:=a.S;rw[show r=.ref f from x];exact bL c (vK (G.O.turn S.T) (by rw[z.2,hk];rfl) (yS c (s G a k λN M F B J D u d b g=>HE c b (lK z.1 b d g (q.pre (j.trans u))))))
def KR (σ:Sg) (x y:SV) (K:KV):Prop:=bE x λk=>bE y λk2=>bN σ k λo=>bN σ k2 λo2=>cP o λxs=>cP o2 λys=>(xs.length≤1000∧ys.length≤1000)∧K (.ref σ.nx) (σ.new (.list (xs++ys)))
theorem UJ {G:Cw w κ} {τ:Tb} {σ:Sg} {h:Heap} {t:Nat} {x y:SV} {A B:Value} {K:KV} {Q:Value->Heap->Nat->Prop} (H:Hs G τ σ h) (ra:RV τ x A) (rb:RV τ y B) (m:KR σ x y K) (q:QE G τ K Q):Wp G.c (binaryOp .Add A B) Q h t:=by
 obtain⟨k,rfl,p1⟩:=bh m;obtain⟨u,rfl,o,h1,o2,h2,p2⟩:=bh p1;obtain⟨g,rfl,p3⟩:=cq p2;obtain⟨i,rfl,p⟩:=cq p3;obtain⟨b,z,l,S⟩:=H.S;obtain⟨x,d,rfl,hk,vs,n,i1,i2⟩:=S.R.get ra h1;obtain⟨r,v,rfl,hk2,vs2,n2,j1,j2⟩:=S.R.get rb h2;refine bL b (add_lists (s:=⟨h,G.c.gn,G.c.d,t,G.c.os⟩) (hsz:=by rw[XI,i2.len,j2.len];omega) S.A.F S.A.N (bJ S.A.N i1) (bJ S.A.N j1) λj f a=>aJ (c:=G.c) ?_);exact dN H S ⟨f,a,S.A.k.cons λp e=>Xe (S.A.N p e).1⟩ (o:=.list (g++i)) ⟨_,0,.head _,bZ.app (j2.up (S.R.le_up _)) (i2.up (S.R.le_up _))⟩ p.2 q _
def sY (m1 m2:AE):AE:=λΦ fr σ K KE=>m1 Φ fr σ (λx σ=>m2 Φ fr σ (λy σ=>KR σ x y K) KE) KE
variable {a b:Expr}
theorem EP {m1 m2:AE} (s1:av w κ a m1) (s2:av w κ b m2):av w κ (.BinOp a .Add b pos) (sY m1 m2):=λG Z Z Z Z Z Z H m q=>
 uh (s1 G H m λt o r y k l g j e h=>s2 G e h λx v s n u p c d i f=>UJ i (j.up c) d f (q.pre (g.trans c)))
noncomputable def hU (p:Arguments):Bool:=p.posonlyargs.isEmpty&&(p.args.isEmpty&&(p.vararg.isNone&&(p.kwonlyargs.isEmpty&&(p.kw_defaults.isEmpty&&(p.kwarg.isNone&&p.defaults.isEmpty)))))
variable {p:Arguments}
theorem iJ (h:hU p=true):p=⟨[],[],none,[],[],none,[]⟩:=by
 obtain⟨a,b,c,d,e,f,g⟩:=p;dsimp only[hU]at h;simp only[WU,Y3,XW]at h;obtain⟨rfl,rfl,rfl,rfl,rfl,rfl,rfl⟩:=h;rfl
noncomputable def uJ (f:Expr->Expr->Bool):List Expr->List Expr->Bool
 |[],bs=>bs.isEmpty
 |a::as,bs=>match bs with
  |[]=>false
  |b::bs=>f a b&&uJ f as bs
noncomputable def vwN (v:Vw) (K:Str->Pos->Bool):Bool:=match v with
 |.name y q=>K y q
 |_=>false
noncomputable def vwC (v:Vw) (K:Const->Nat->Pos->Bool):Bool:=match v with
 |.con d l q=>K d l q
 |_=>false
noncomputable def vwU (v:Vw) (K:Expr->Expr->Pos->Bool):Bool:=match v with
 |.sub o i q=>K o i q
 |_=>false
noncomputable def vwK (v:Vw) (K:Expr->List Expr->List Keyword->Pos->Bool):Bool:=match v with
 |.call g bs ls q=>K g bs ls q
 |_=>false
variable {v:Vw}
theorem XaG {K:Str->Pos->Bool} (h:vwN v K=true):∃y q,v=.name y q∧K y q=true:=by cases v<;>first|exact(uA _ _ rfl h)|exact absurd h XE
theorem Xfc {K:Const->Nat->Pos->Bool} (h:vwC v K=true):∃d l q,v=.con d l q∧K d l q=true:=by cases v<;>first|exact(uv _ _ _ rfl h)|exact absurd h XE
theorem Xbr {K:Expr->Expr->Pos->Bool} (h:vwU v K=true):∃o i q,v=.sub o i q∧K o i q=true:=by cases v<;>first|exact(uv _ _ _ rfl h)|exact absurd h XE
theorem Xbn {K:Expr->List Expr->List Keyword->Pos->Bool} (h:vwK v K=true):∃g bs ls q,v=.call g bs ls q∧K g bs ls q=true:=by cases v<;>first|exact(yx _ _ _ _ rfl h)|exact absurd h XE
noncomputable def eqV (f:Expr->Expr->Bool) (u v:Vw):Bool:=match u with
 |.name x p=>vwN v λy q=>x==y&&decide (p=q)
 |.con c k p=>vwC v λd l q=>decide (c=d)&&(k==l&&decide (p=q))
 |.sub o i p=>vwU v λo' i' q=>f o o'&&(f i i'&&decide (p=q))
 |.call g as ks p=>vwK v λg' bs ls q=>f g g'&&(uJ f as bs&&((ks.isEmpty&&ls.isEmpty)&&decide (p=q)))
 |_=>false
noncomputable def eqE:Nat->Expr->Expr->Bool
 |0,_,_=>false
 |n+1,a,b=>eqV (eqE n) (dl a) (dl b)
variable {f:Expr->Expr->Bool}
theorem Qz (h:∀a b,f a b=true->a=b) {as:List Expr}:∀{bs:List Expr},uJ f as bs=true->as=bs:=by
 induction as with
 |nil=>intro bs e;exact(Y3.mp e).symm
 |cons a as ih=>
  intro bs e;cases bs with
  |nil=>exact cp e
  |cons b bs=>
   have e:(f a b&&uJ f as bs)=true:=e;rw[WU]at e;rw[h a b e.1,ih e.2]
theorem Xfu (h:∀a b,f a b=true->a=b) {u v:Vw} (hu:u.is a) (hv:v.is b) (e:eqV f u v=true):a=b:=by
 cases u<;>first|(exact cp e;done)|skip
 ·refine gM (XaG e) λy q m e=>?_;obtain rfl:=m
  have e:=(WU _ _).mp e;rw[hu,hv,XJ e.1,W5 e.2]
 ·refine uB (Xbr e) λo i q j e=>?_;obtain rfl:=j
  have e:=(WU _ _).mp e;have c:=(WU _ _).mp e.2;rw[hu,hv,h _ _ e.1,h _ _ c.1,W5 c.2]
 ·refine HA (Xbn e) λg n p q k e=>?_;obtain rfl:=k
  have e:=(WU _ _).mp e;have c:=(WU _ _).mp e.2;rw[hu,hv,h _ _ e.1,Qz h c.1,Y3.mp ((WU _ _).mp ((WU _ _).mp c.2).1).1,Y3.mp ((WU _ _).mp ((WU _ _).mp c.2).1).2,W5 ((WU _ _).mp c.2).2]
 ·refine uB (Xfc e) λd l q j e=>?_;obtain rfl:=j
  have e:=(WU _ _).mp e;have c:=(WU _ _).mp e.2;rw[hu,hv,W5 e.1,XJ c.1,W5 c.2]
theorem Xcx {n:Nat}:∀(a b:Expr),eqE n a b=true->a=b:=by
 induction n with
 |zero=>intro a b e;exact cp e
 |succ n ih=>exactλa b e=>Xfu ih (bw a).is (bw b).is e
noncomputable def Iq (v:Value) (a:Nat):Bool:=match v with
 |.ref b=>Nat.beq b a
 |_=>false
set_option tactic.hygienic true in
theorem Qy {v:Value} {a:Nat} (h:Iq v a=true):v=.ref a:=by
 cases v
 case ref b=>exact Yi _ (W9 h)
 all_goals exact cp h
noncomputable def sK (κ:Ek) (j kT:Nat) (P cA:Addr) (p:Arguments) (b:Expr) (s:Scope) (pos:Pos):Option AE:=
 gd (hU p&&hU (aT j).params&&(eqE 9 (aT j).body b&&decide ((aT j).scope=s))&&(κ.cm.isNone&& !κ.lm&&(Iq κ.cd cA&&((κ.qn++".<locals>.")++"<lambda>"==(aT j).qual)))&&wh κ (aT j) ((aT j).cn.map λy=>(dI κ.cn y).getD 0))
  (some (lB j (aT j).qual kT P ((aT j).cn.map λy=>(dI κ.cn y).getD 0) pos.line pos.col))
theorem jN {cA P:Addr} (h:(cA,P)=(924,920)∨(cA,P)=(934,932)):∀hp:Heap,(HK w.params).In hp->CodeHd hp cA P:=λhp X=>by
 rcases h with h|h<;>cases h
 ·exact(Jg _ _ _ _ _ _ (V4 _ _ _ (X _ _ (by kernel_rfl:(HK w.params).lookup 924=some Bf)) rfl rfl rfl rfl ⟨rfl,rfl,rfl,rfl,by decide⟩))
 ·exact(Jg _ _ _ _ _ _ (V4 _ _ _ (X _ _ (by kernel_rfl:(HK w.params).lookup 934=some As)) rfl rfl rfl rfl ⟨rfl,rfl,rfl,rfl,by decide⟩))
theorem ij {j kT:Nat} {P cA:Addr} (h:(cA,P)=(924,920)∨(cA,P)=(934,932)):Og (av w κ (.Lambda p b s pos)) (sK κ j kT P cA p b s pos):=by
 refine bg λz=>ah ?_;simp only[WU,Xj,XZ,XW]at z;obtain⟨⟨⟨⟨i,a⟩,m,l⟩,⟨f,c⟩,k,e⟩,g⟩:=z;have z:=OH (w:=w) j rfl (kT:=kT) (pos:=pos) f c g (XJ e) (λd=>by rw[iJ a];rfl) (Qy k) (jN h);rw[iJ a,Xcx _ _ m,l,←iJ i]at z;exact z
noncomputable def SR (κ:Ek) (p:Arguments) (b:Expr) (s:Scope) (pos:Pos):Option AE:=bA (sK κ 0 0 920 924 p b s pos) (bA (sK κ 1 0 920 924 p b s pos) (bA (sK κ 2 1 932 934 p b s pos) (sK κ 3 1 932 934 p b s pos)))
theorem wk:Og (av w κ (.Lambda p b s pos)) (SR κ p b s pos):=bY (ij (.inl rfl)) (bY (ij (.inl rfl)) (bY (ij (.inr rfl)) (ij (.inr rfl))))
abbrev DE:=Ek->Expr->Option AE
abbrev DT:=Ek->Expr->Option AT
def SE (w:World) (E:DE):Prop:=∀κ e,Og (av w κ e) (E κ e)
def ST (w:World) (T:DT):Prop:=∀κ e,Og (eU w κ e) (T κ e)
noncomputable def dL (E:DE) (κ:Ek):List Expr->Option AL
 |[]=>some ab
 |e::es=>(E κ e).bind λm=>(dL E κ es).bind λml=>some (aa m ml)
noncomputable def VY (E:DE) (κ:Ek):List Expr->Option (List AE)
 |[]=>some []
 |e::es=>(E κ e).bind λm=>(VY E κ es).bind λml=>some (m::ml)
noncomputable def V8 (T:DT) (κ:Ek):List Expr->Option (List AT)
 |[]=>some []
 |e::es=>(T κ e).bind λm=>(V8 T κ es).bind λml=>some (m::ml)
noncomputable def dP (E:DE) (κ:Ek) (o:Option Expr):Option (Option AE):=match o with
 |none=>some none
 |some e=>(E κ e).bind λm=>some (some m)
section
variable {E:DE} {T:DT} (hE:SE w E) (hT:ST w T)
include hE
theorem i6 (es:List Expr):Og (eu w κ es) (dL E κ es):=by
 induction es with
 |nil=>exact ah UZ
 |cons e es ih=>exact af (hE κ e) λm s=>af ih λa r=>ah (BB s r)
theorem ru (es:List Expr):Og (ja w κ es) (VY E κ es):=by
 induction es with
 |nil=>exact ah .nil
 |cons e es ih=>exact af (hE κ e) λm s=>af ih λa r=>ah (.cons s r)
theorem yI (o:Option Expr):Og (pF w κ o) (dP E κ o):=by
 cases o with
 |none=>exact ah .none
 |some e=>exact af (hE κ e) λm s=>ah (.some s)
omit hE in
include hT in
theorem rh (es:List Expr):Og (jk w κ es) (V8 T κ es):=by
 induction es with
 |nil=>exact ah .nil
 |cons e es ih=>exact af (hT κ e) λm s=>af ih λa r=>ah (.cons s r)
end
noncomputable def y8 (x:Str):Option (AE->AL->AE):=bA (gd (x=="get") (some (kW iF fw))) (bA (gd (x=="extend") (some (kW eX ki))) (bA (gd (x=="pop") (some (kW eX nu))) (gd (x=="join") (some (kW gQ dw)))))
def Qx (w:World) (κ:Ek) (x:Str) (g:AE->AL->AE):Prop:=∀{o e:Expr} {es:List Expr} {pos apos:Pos} {mo:AE} {ml:AL},iZ o=true->(e::es).all bj=true->(Nat.blt (e::es).length 30&&(apos.endLine==pos.line))=true->av w κ o mo->eu w κ (e::es) ml->av w κ (.Call (.Attribute o x apos) (e::es) [] pos) (g mo ml)
theorem Pj:Og (Qx w κ x) (y8 x):=by
 refine bY (bg λh=>ah ?_) (bY (bg λh=>ah ?_) (bY (bg λh=>ah ?_) (bg λh=>ah ?_)))<;>(cases XJ h;intro o e k i g j l c f d a b)
 ·exact xr xm ((bw o).call c _) f d a b
 ·exact xr D9 ((bw o).call c _) f d a b
 ·exact xr Em ((bw o).call c _) f d a b
 ·exact xr v4 ((bw o).call c _) f d a b
def Nz (w:World) (κ:Ek) (x:Str) (g:AL->AE):Prop:=∀{e:Expr} {es:List Expr} {pos px apos:Pos} {ml:AL},(e::es).all bj=true->(Nat.blt (e::es).length 30&&(apos.endLine==pos.line))=true->eu w κ (e::es) ml->av w κ (.Call (.Attribute (.Name x px) "__init__" apos) (e::es) [] pos) (g ml)
noncomputable def zD (x:Str):Option (AL->AE):=bA (gd (x=="ValueError") (some (bH kD))) ((lk kcL x).bind λp=>some (ag p.2))
theorem Pw (hx:bz κ x=true):Og (Nz w κ x) (zD x):=by
 refine bY (bg λh=>ah ?_) (gs λp j=>ah ?_)
 ·cases XJ h
  intro e g b f a i c d s;exact Rv rfl (λZ Z=>rfl) (eN (.tail _ (.tail _ (.tail _ (.tail _ (.tail _ (.tail _ (.tail _ (.tail _ (.head _)))))))))) hx c d s
 ·intro e g b f a i c d s
  have z:=WZ.mp (BO (w:=w)) _ j;unfold kcB at z;rw[WU,WU,WU,WU]at z;exact uC z.1 (λZ Z=>rfl) (eW z.2.1) hx (by rw[z.2.2.1,c];rfl) d (Xak z.2.2.2.1) z.2.2.2.2 s
noncomputable def mOk (o:Expr) (es:List Expr) (apos pos:Pos):Bool:=iZ o&&(es.all bj&&(Nat.blt es.length 30&&(apos.endLine==pos.line)))
noncomputable def mW (E:DE) (κ:Ek) (o:Expr) (a:Str) (apos:Pos) (as:List Expr) (pos:Pos):Option AE:=gd (mOk o as apos pos) (bA
 (gd (a=="__init__") (match dl o with
  |.name x _=>gd (bz κ x) (match as with
   |[]=>none
   |e::es=>(zD x).bind λg=>(dL E κ (e::es)).bind λml=>some (g ml))
  |_=>none)) (bA
 (match as with
  |[]=>none
  |e::es=>(y8 a).bind λg=>(E κ o).bind λmo=>(dL E κ (e::es)).bind λml=>some (g mo ml))
 ((dI cz a).bind λi=>(E κ o).bind λmo=>(dL E κ as).bind λml=>some (am mo i ml))))
noncomputable def rT (E:DE) (κ:Ek) (f:Expr) (as:List Expr) (pos:Pos):Option AE:=match dl f with
 |.name x _=>(match as with
  |[]=>bA (match κ.cm with
    |none=>(dI κ.ns x).bind λi=>some (xD i)
    |some _=>none) (gd (bz κ x) ((lk ID x).bind λf=>some (ag f ab)))
  |e::es=>gd (bz κ x&&(e::es).all bj) ((ui x).bind λg=>(dL E κ (e::es)).bind λml=>some (g ml)))
 |.attr o a apos=>mW E κ o a apos as pos
 |.sub o i p=>(match as with
  |[]=>none
  |e::es=>gd ((e::es).all bj) ((E κ (.Subscript o i p)).bind λm=>(dL E κ (e::es)).bind λml=>some (jG m ml)))
 |_=>none
noncomputable def FV (E:DE) (κ:Ek) (o i:Expr):Option AE:=match dl i with
 |.slice lo hi st _=>(match st with
  |none=>(E κ o).bind λm=>(dP E κ lo).bind λma=>(dP E κ hi).bind λmb=>some (eH m ma mb)
  |some _=>none)
 |_=>gd (j0 i) (bA (match dl o with
   |.name x _=>gd (x=="BUILTINS"&&bz κ x) ((E κ i).bind λm=>some (kj m))
   |_=>none) ((E κ o).bind λm=>(E κ i).bind λmi=>some (ax m mi)))
noncomputable def dBd (E:DE) (T:DT) (κ:Ek) (ifs:List Expr) (elt:Expr):Option pv:=match ifs with
 |[]=>(E κ elt).bind λm=>some (cB m)
 |c::r=>(match r with
  |[]=>(T κ c).bind λmt=>(E κ elt).bind λm=>some (pK mt m)
  |_::_=>none)
noncomputable def oq (E:DE) (T:DT) (κ:Ek) (elt:Expr) (gens:List Comprehension) (scope:Scope):Option (AE×pv):=match κ.cm with
 |some _=>none
 |none=>(match gens with
  |[]=>none
  |g::r=>(match r with
   |_::_=>none
   |[]=>(match dl g.target with
    |.name x _=>gd (decide (g.is_async=0)&&(gO g.iter&&iO κ scope x)) ((E κ g.iter).bind λm=>(dBd E T (κ.comp scope x) g.ifs elt).bind λb=>some (m,b))
    |_=>none)))
noncomputable def Jp (c:Const):Option AE:=match c with
 |.none=>some aN
 |.bool b=>some (aB b)
 |.int i=>some (aI i)
 |.str z=>some (aS z)
 |_=>none
noncomputable def ME (E:DE) (κ:Ek) (l:Expr) (ops:List CmpOp) (rs:List Expr):Option AE:=match ops with
 |[]=>none
 |op::ops=>(match ops with
  |_::_=>none
  |[]=>(match rs with
   |[]=>none
   |r::rs=>(match rs with
    |_::_=>none
    |[]=>gd (gO r) ((E κ l).bind λm1=>(E κ r).bind λm2=>some (bF op m1 m2)))))
noncomputable def XcN (l:Bool) (op:Operator) (m1 m2:AE):Option AE:=match l with
 |false=>some (ap op m1 m2)
 |true=>(match op with
  |.Add=>some (sY m1 m2)
  |_=>none)
noncomputable def qN (E:DE) (T:DT):DE:=λκ e=>match e with
 |.Name x _=>tO κ x
 |.Constant c _ _=>Jp c
 |.BinOp a op b _=>(E κ a).bind λm1=>(E κ b).bind λm2=>XcN (qw a) op m1 m2
 |.UnaryOp op a _=>(match op with
  |.USub=>(E κ a).bind λm=>some (jI m)
  |.Not=>(E κ a).bind λm=>some (qE m)
  |_=>none)
 |.Compare l ops rs _=>ME E κ l ops rs
 |.BoolOp op es _=>(match op with
  |.And=>(match es with
   |[]=>none
   |e::es=>(E κ e).bind λm=>(VY E κ es).bind λms=>some (eK m ms))
  |.Or=>(match es with
   |[]=>none
   |a::es=>(match es with
    |[]=>none
    |b::es=>(match es with
     |[]=>(E κ a).bind λm1=>(E κ b).bind λm2=>some (ti m1 m2)
     |_::_=>none))))
 |.IfExp t a b _=>(T κ t).bind λmt=>(E κ a).bind λm1=>(E κ b).bind λm2=>some (aO mt m1 m2)
 |.Tuple es _ _=>gd (es.all bj) ((dL E κ es).bind λml=>some (aU ml))
 |.List es _=>gd (es.all bj) ((dL E κ es).bind λml=>some (bK ml))
 |.Dict ks vs _=>(match ks with
  |[]=>(match vs with
   |[]=>some gZ
   |_::_=>none)
  |_::_=>none)
 |.Attribute o a _=>(dI cz a).bind λi=>gd (iZ o) ((E κ o).bind λm=>some (aj m i))
 |.Subscript o i _=>FV E κ o i
 |.Call f as ks pos=>(match ks with
  |[]=>rT E κ f as pos
  |_::_=>none)
 |.ListComp elt gens scope _=>(oq E T κ elt gens scope).bind λp=>some (bP p.1 p.2)
 |.JoinedStr es _=>(match es with
  |[]=>none
  |e1::es=>(match es with
   |[]=>none
   |e2::es=>(VY E κ (e1::e2::es)).bind λms=>some (eS ms Str.empty)))
 |.FormattedValue a cv sp _=>(match sp with
  |none=>gd (decide (cv=-1)) ((E κ a).bind λm=>some (lE m))
  |some _=>none)
 |.Lambda p b s pos=>SR κ p b s pos
 |_=>none
noncomputable def yj (E:DE) (κ:Ek) (l:Expr) (ops:List CmpOp) (rs:List Expr):Option AT:=match ops with
 |[]=>none
 |op::ops=>(match rs with
  |[]=>none
  |r::rs=>(match ops with
   |[]=>(match rs with
    |[]=>gd (gO r) ((E κ l).bind λm1=>(E κ r).bind λm2=>some (ai op m1 m2))
    |_::_=>none)
   |op'::ops=>(match rs with
    |[]=>none
    |r'::rs=>(match ops with
     |_::_=>none
     |[]=>(match rs with
      |_::_=>none
      |[]=>gd (gO r') ((E κ l).bind λm1=>(E κ r).bind λm2=>(E κ r').bind λm3=>some (lZ op op' m1 m2 m3)))))))
noncomputable def tU (E:DE) (T:DT):DT:=λκ e=>match e with
 |.UnaryOp op a _=>(match op with
  |.Not=>(T κ a).bind λm=>some (cF m)
  |_=>none)
 |.BoolOp op es _=>(match op with
  |.And=>(V8 T κ es).bind λms=>some (bO ms)
  |.Or=>(V8 T κ es).bind λms=>some (cD ms))
 |.Compare l ops rs _=>yj E κ l ops rs
 |e=>gd (E4 e) ((E κ e).bind λm=>some (aP m))
end
section
variable {w:World} {κ:Ek}
section
variable {E:DE} {T:DT} (hE:SE w E) (hT:ST w T)
include hE
theorem pT {o:Expr} {a:Str} {apos pos:Pos} {as:List Expr}:Og (av w κ (.Call (.Attribute o a apos) as [] pos)) (mW E κ o a apos as pos):=by
 unfold mW;refine bg λz=>?_;unfold mOk at z;rw[WU,WU]at z;refine bY (bg λk=>?_) (bY ?_ ?_)
 ·have d:=(bw o).is
  cases hw:dl o<;>first|exact al|skip
  rw[hw]at d;obtain rfl:=d;refine bg λh=>?_;cases XJ k;cases as with
  |nil=>exact al
  |cons e es=>exact af (Pw h) λg b=>af (i6 hE _) λf s=>ah (b z.2.1 z.2.2 s)
 ·cases as with
  |nil=>exact al
  |cons e es=>exact af Pj λg b=>af (hE κ o) λj c=>af (i6 hE _) λf s=>ah (b z.1 z.2.1 z.2.2 c s)
 ·exact dZ λi l=>af (hE κ o) λj c=>af (i6 hE _) λf s=>ah (Eu i (iP l) ((bw o).call z.1 _) z.2.1 z.2.2 c s)
theorem sW {f:Expr} {as:List Expr} {pos:Pos}:Og (av w κ (.Call f as [] pos)) (rT E κ f as pos):=by
 unfold rT;have a:=(bw f).is;cases hw:dl f<;>rw[hw]at a<;>first|exact al|obtain rfl:=a
 ·cases as with
  |nil=>
   refine bY ?_ (bg λb=>gs λf n=>ah ?_)
   ·cases hc:κ.cm with
    |none=>exact dZ λi k=>ah (Ml i k hc)
    |some p=>exact al
   ·refine wI (Dv (w:=w) n) λl q j=>?_
    exact uV l q b j
  |cons e es=>exact bg λh=>af (sx ((WU _ _).mp h).1) λg d=>af (i6 hE _) λo s=>ah (d ((WU _ _).mp h).2 s)
 ·exact pT hE
 ·cases as with
  |nil=>exact al
  |cons e es=>exact bg λh=>af (hE κ _) λm c=>af (i6 hE _) λo s=>ah (xV h c s)
set_option tactic.hygienic true in
theorem xy {o i:Expr} {pos:Pos}:Og (av w κ (.Subscript o i pos)) (FV E κ o i):=by
 unfold FV;have a:=(bw i).is;have d:Og (av w κ (.Subscript o i pos)) (gd (j0 i) (bA (match dl o with
   |.name x _=>gd (x=="BUILTINS"&&bz κ x) ((E κ i).bind λm=>some (kj m))
   |_=>none) ((E κ o).bind λm=>(E κ i).bind λf=>some (ax m f)))):=by
  refine bg λh=>bY ?_ (af (hE κ o) λm e=>af (hE κ i) λf c=>ah (HV ((bw i).slice h) e c));have a:=(bw o).is;cases hw:dl o<;>first|exact al|skip
  rw[hw]at a;obtain rfl:=a;refine bg λb=>af (hE κ i) λm c=>ah ?_;rw[WU]at b;cases XJ b.1;exact vG (eW (by kernel_rfl:jd (nsIn (HK w.params) mainGlobals "BUILTINS") 547=true)) b.2 ((bw i).slice h) c
 cases hw:dl i<;>first|exact d|skip
 rw[hw]at a;obtain rfl:=a;rename_i lo hi st p;cases st with
 |some _=>exact al
 |none=>exact af (hE κ o) λm e=>af (yI hE lo) λk j=>af (yI hE hi) λl g=>ah (xP e j g)
include hT
theorem Bk {ifs:List Expr} {elt:Expr}:Og (jh w κ ifs elt) (dBd E T κ ifs elt):=by
 rcases ifs with _|⟨c,_|⟨d,r⟩⟩
 ·exact af (hE κ elt) λm s=>ah (c_b s)
 ·exact af (hT κ c) λb a=>af (hE κ elt) λm s=>ah (Xdj a s)
 ·exact al
structure Mm (w:World) (κ:Ek) (elt:Expr) (gens:List Comprehension) (scope:Scope) (p:AE×pv):Prop where
 cm:κ.cm=none
 ok:∃x px iter ifs,gens=[⟨.Name x px,iter,ifs,0⟩]∧(∀env v,foldedSetIterable iter env v=pure v)∧iO κ scope x=true∧av w κ iter p.1∧jh w (κ.comp scope x) ifs elt p.2
theorem l7 {elt:Expr} {gens:List Comprehension} {scope:Scope}:Og (Mm w κ elt gens scope) (oq E T κ elt gens scope):=by
 unfold oq;cases hc:κ.cm with
 |some _=>exact al
 |none=>
  rcases gens with _|⟨g,_|⟨g2,r⟩⟩
  ·exact al
  ·obtain⟨e,c,d,a⟩:=g
   have f:=(bw e).is;show Og _ (match dl e with
    |.name x _=>gd (decide (a=0)&&(gO c&&iO κ scope x)) ((E κ c).bind λm=>(dBd E T (κ.comp scope x) d elt).bind λb=>some (m,b))
    |_=>none)
   cases hw:dl e<;>first|exact al|skip
   rw[hw]at f;obtain rfl:=f;refine bg λh=>af (hE κ c) λm s=>af (Bk hE hT) λb i=>ah ?_;rw[WU,WU,XZ]at h;cases h.1;exact⟨hc,_,_,_,_,rfl,((bw c).set h.2.1).1,h.2.2,s,i⟩
  ·exact al
end
variable {k:Nat}
theorem xf {c:Const} {pos:Pos}:Og (av w κ (.Constant c k pos)) (Jp c):=by
 cases c<;>first|exact al|skip
 ·exact ah s_n
 ·exact ah s_b
 ·exact ah s_i
 ·exact ah s_s
section
variable {E:DE} {T:DT} (hE:SE w E) (hT:ST w T)
include hE
theorem xd {l:Expr} {ops:List CmpOp} {rs:List Expr} {pos:Pos}:Og (av w κ (.Compare l ops rs pos)) (ME E κ l ops rs):=by
 rcases ops with _|⟨op,_|⟨op2,ops⟩⟩<;>first|exact al|skip
 rcases rs with _|⟨r,_|⟨r2,rs⟩⟩<;>first|exact al|skip
 exact bg λh=>af (hE κ l) λc b=>af (hE κ r) λd a=>ah (TD (((bw r).set h).2 op) b a)
theorem ur {l:Expr} {ops:List CmpOp} {rs:List Expr} {pos:Pos}:Og (eU w κ (.Compare l ops rs pos)) (yj E κ l ops rs):=by
 rcases ops with _|⟨op,ops⟩
 ·exact al
 rcases rs with _|⟨r,rs⟩
 ·exact al
 rcases ops with _|⟨op',ops⟩
 ·rcases rs with _|⟨r',rs⟩
  ·exact bg λh=>af (hE κ l) λc b=>af (hE κ r) λe a=>ah (RJ (((bw r).set h).2 op) b a)
  ·exact al
 ·rcases rs with _|⟨r',rs⟩
  ·exact al
  rcases ops with _|⟨op2,ops⟩
  ·rcases rs with _|⟨r2,rs⟩
   ·exact bg λh=>af (hE κ l) λc b=>af (hE κ r) λe a=>af (hE κ r') λf d=>ah (Eh (ue h) b a d)
   ·exact al
  ·exact al
include hT
set_option tactic.hygienic true in
theorem Ou:SE w (qN E T):=λc e=>by
 cases e<;>first|exact al|skip
 case Name=>exact xS
 case Constant=>exact xf
 case BinOp a op b pos=>
  refine af (hE c a) λu j=>af (hE c b) λn g=>?_;cases qw a
  ·exact ah (Tv j g)
  ·cases op<;>first|exact al|exact ah (EP j g)
 case UnaryOp op a pos=>
  cases op<;>first|exact al|skip
  ·exact af (hE c a) λm s=>ah (RQ s)
  ·exact af (hE c a) λm s=>ah (Pb s)
 case Compare=>exact xd hE
 case BoolOp op es pos=>
  cases op
  ·cases es with
   |nil=>exact al
   |cons e es=>exact af (hE c e) λm s=>af (ru hE es) λA r=>ah (Rh s r)
  ·rcases es with _|⟨a,_|⟨b,_|⟨d,es⟩⟩⟩<;>first|exact al|skip
   exact af (hE c a) λu j=>af (hE c b) λn g=>ah (Xfb j g)
 case IfExp t a b pos=>exact af (hT c t) λI B=>af (hE c a) λu j=>af (hE c b) λn g=>ah (Mg B j g)
 case Tuple es k pos=>exact bg λh=>af (i6 hE es) λD s=>ah (P1 h s)
 case List es pos=>exact bg λh=>af (i6 hE es) λD s=>ah (JX h s)
 case Dict ks vs pos=>
  cases ks with
  |cons _ _=>exact al
  |nil=>cases vs with
   |cons _ _=>exact al
   |nil=>exact ah VS
 case Attribute o a pos=>exact dZ λi v=>bg λh=>af (hE c o) λm s=>ah (CE i (iP v) ((bw o).call h _) s)
 case Subscript o i pos=>exact xy hE
 case Call f as ks pos=>
  cases ks with
  |nil=>exact sW hE
  |cons _ _=>exact al
 case ListComp elt gens scope pos=>
  refine af (l7 hE hT) λp h=>ah ?_;refine sD h.ok λx H q z l C G F y=>?_;obtain rfl:=l;exact Bv h.cm C G F y
 case JoinedStr es pos=>
  rcases es with _|⟨a,_|⟨b,es⟩⟩<;>first|exact al|skip
  exact af (ru hE _) λA s=>ah (Bq s)
 case FormattedValue a cv sp pos=>
  cases sp with
  |some _=>exact al
  |none=>
   refine bg λh=>af (hE c a) λm s=>ah ?_;cases W5 h;exact LN s
 case Lambda=>exact wk
set_option tactic.hygienic true in
theorem UG:ST w (tU E T):=λc e=>by
 have b:∀e,Og (eU w c e) (gd (E4 e) ((E c e).bind λm=>some (aP m))):=λe=>bg λh=>af (hE c e) λm s=>ah (OB ((bw e).val h) s);cases e<;>first|exact b _|skip
 case UnaryOp op a pos=>
  cases op<;>first|exact al|skip
  exact af (hT c a) λm s=>ah (Jm s)
 case BoolOp op es pos=>
  cases op
  ·exact af (rh hT es) λd s=>ah (Kw s)
  ·exact af (rh hT es) λd s=>ah (Xdp s)
 case Compare=>exact ur hE
end
noncomputable def yX:Nat->DE×DT
 |0=>(λZ Z=>none,λZ Z=>none)
 |n+1=>(qN (yX n).1 (yX n).2,tU (yX n).1 (yX n).2)
theorem su (n:Nat):SE w (yX n).1∧ST w (yX n).2:=by
 induction n with
 |zero=>exact⟨λZ Z=>al,λZ Z=>al⟩
 |succ n ih=>exact⟨Ou ih.1 ih.2,UG ih.1 ih.2⟩
noncomputable def dE:DE:=(yX 20).1
noncomputable def dT:DT:=(yX 20).2
theorem m9:SE w dE:=(su 20).1
theorem CM:ST w dT:=(su 20).2
noncomputable def r8 (κ:Ek) (x:Str):Option Tg:=bA ((dI κ.ns x).bind λi=>some (.l i)) (gd (!κ.lm) ((dI κ.cn x).bind λi=>some (.c i)))
theorem fF {x:Str}:Og (λtg:Tg=>tg.is κ x) (r8 κ x):=bY (dZ λi h=>ah h) (bg λa=>dZ λi h=>ah ⟨h,by simpa using a⟩)
noncomputable def uc (κ:Ek):List Expr->Option (List Tg)
 |[]=>some []
 |e::es=>match dl e with
  |.name x _=>(r8 κ x).bind λt=>(uc κ es).bind λts=>some (t::ts)
  |_=>none
theorem tX {es:List Expr}:Og (lX κ es) (uc κ es):=by
 induction es with
 |nil=>exact ah .nil
 |cons e es ih=>
  dsimp only[uc];have b:=(bw e).is;cases hw:dl e<;>first|exact al|skip
  rw[hw]at b;obtain rfl:=b;exact af fF λt c=>af ih λd a=>ah (.cons c a)
noncomputable def eqO (o:Option Bool) (b:Bool):Bool:=match o with
 |some c=>c==b
 |none=>false
theorem O6 {o:Option Bool} {b:Bool} (h:eqO o b=true):o=some b:=by
 cases o with
 |none=>exact cp h
 |some c=>rw[XJ h]
noncomputable def Hz (κ:Ek) (t e:Expr) (line:Nat) (b:Bool):Bool:=eqO (iH (swapsWithSole [t] e line (G2 κ.sc))) b
theorem rn {t e:Expr} {line:Nat} {b:Bool} (h:Hz κ t e line b=true):∀env,κ.sc=env.scope->swapsWith e (some t) line env=pure b:=λenv a=>(Hm (ts:=[t]) a).trans (kg (O6 h))
noncomputable def Dl (E:DE) (κ:Ek) (e:Expr) (r:AS) (ns:List Str) (a b:Expr):Option AS:=match dl a with
 |.name x _=>(match dl b with
  |.name y _=>gd (ns==[x,y]) ((r8 κ x).bind λi=>(r8 κ y).bind λj=>(E κ e).bind λm=>some (cT [i,j] m r))
  |_=>none)
 |_=>none
noncomputable def AR (E:DE) (κ:Ek) (e:Expr) (r:AS) (ns:List Str) (a b c:Expr):Option AS:=match dl a with
 |.name x _=>(match dl b with
  |.name y _=>(match dl c with
   |.name z _=>gd (ns==[x,y,z]) ((r8 κ x).bind λi=>(r8 κ y).bind λj=>(r8 κ z).bind λk=>(E κ e).bind λm=>some (cT [i,j,k] m r))
   |_=>none)
  |_=>none)
 |_=>none
noncomputable def dNS (E:DE) (κ:Ek) (e:Expr) (r:AS) (a b:Expr):Option AS:=match dl a with
 |.name x _=>(match dl b with
  |.sub o i _=>(r8 κ x).bind λt=>(E κ o).bind λmo=>(E κ i).bind λmi=>(E κ e).bind λm=>some (nt t mo mi m r)
  |_=>none)
 |_=>none
noncomputable def Ms (E:DE) (κ:Ek) (e:Expr) (r:AS) (o:Option (List Str)) (es:List Expr):Option AS:=match o with
 |none=>bA ((uc κ es).bind λis=>(E κ e).bind λm=>some (gF is m r)) (match es with
  |[]=>none
  |a::es=>(match es with
   |[]=>none
   |b::es=>(match es with
    |[]=>dNS E κ e r a b
    |_::_=>none)))
 |some ns=>(match es with
  |[]=>none
  |a::es=>(match es with
   |[]=>none
   |b::es=>(match es with
    |[]=>Dl E κ e r ns a b
    |c::es=>(match es with
     |[]=>AR E κ e r ns a b c
     |_::_=>none))))
noncomputable def NP (E:DE) (T:DT) (κ:Ek) (t e:Expr) (line:Nat) (r:AS):Option AS:=gd κ.cm.isNone (match dl t with
 |.name x _=>bA (gd (Hz κ t e line false) ((r8 κ x).bind λtg=>(E κ e).bind λm=>some (ay tg m r)))
  (match dl e with
  |.comp elt gens scope _=>gd (Hz κ t e line true) ((r8 κ x).bind λtg=>(oq E T κ elt gens scope).bind λp=>some (lu tg.put p.1 p.2 r))
  |_=>none)
 |.attr o a _=>gd (Hz κ t e line false) ((dI cz a).bind λi=>(E κ e).bind λm=>(E κ o).bind λmo=>some (az mo i m r))
 |.sub o i _=>gd (Hz κ t e line false) ((E κ e).bind λm=>(E κ o).bind λmo=>(E κ i).bind λmi=>some (i9 mo mi m r))
 |.tup es _ _=>gd (Hz κ t e line false) ((iH (swappedStores [t] e (G2 κ.sc))).bind λo=>Ms E κ e r o es)
 |_=>none)
section
variable {E:DE} {T:DT} {ms:AS} {rest:List Stmt} (hE:SE w E) (hT:ST w T) (hr:bq w κ rest ms) (hc:κ.cm=none)
include hE hr hc
theorem vM {es:List Expr} {kt:Nat} {tpos pos:Pos} {e:Expr} {o:Option (List Str)} (hs:∀env,κ.sc=env.scope->swapsWithSole [.Tuple es kt tpos] e pos.line env=pure false) (hw:∀env,κ.sc=env.scope->swappedStores [.Tuple es kt tpos] e env=pure o):
  Og (bq w κ (.Assign [.Tuple es kt tpos] e pos::rest)) (Ms E κ e ms o es):=by
 cases o with
 |none=>
  refine bY (af tX λA q=>af (hE κ e) λm s=>ah (KL q hc hs hw s hr)) ?_;rcases es with _|⟨a,_|⟨b,_|⟨c,es⟩⟩⟩<;>first|exact al|skip
  show Og _ (dNS E κ e ms a b);unfold dNS;have g:=(bw a).is;have f:=(bw b).is;cases wa:dl a<;>first|exact al|skip
  cases wb:dl b<;>first|exact al|skip
  rw[wa]at g;rw[wb]at f;obtain rfl:=g;obtain rfl:=f;exact af fF λt u=>af (hE κ _) λy v=>af (hE κ _) λz r=>af (hE κ e) λm s=>ah (vB u hc hs hw s v r hr)
 |some ns=>
  rcases es with _|⟨a,_|⟨b,_|⟨c,_|⟨d,es⟩⟩⟩⟩<;>first|exact al|skip
  ·show Og _ (Dl E κ e ms ns a b)
   unfold Dl;have g:=(bw a).is;have f:=(bw b).is;cases wa:dl a<;>first|exact al|skip
   cases wb:dl b<;>first|exact al|skip
   rw[wa]at g;rw[wb]at f;obtain rfl:=g;obtain rfl:=f;exact bg λh=>af fF λi l=>af fF λj n=>af (hE κ e) λm s=>ah (wM l n hc hs (by rw[←XJ h];exact hw) s hr)
  ·show Og _ (AR E κ e ms ns a b c)
   unfold AR;have g:=(bw a).is;have f:=(bw b).is;have p:=(bw c).is;cases wa:dl a<;>first|exact al|skip
   cases wb:dl b<;>first|exact al|skip
   cases wc:dl c<;>first|exact al|skip
   rw[wa]at g;rw[wb]at f;rw[wc]at p;obtain rfl:=g;obtain rfl:=f;obtain rfl:=p;exact bg λh=>af fF λi l=>af fF λj n=>af fF λk x=>af (hE κ e) λm s=>ah (uX l n x hc hs (by rw[←XJ h];exact hw) s hr)
omit hc in
include hT in
theorem vU {t e:Expr} {pos:Pos}:Og (bq w κ (.Assign [t] e pos::rest)) (NP E T κ t e pos.line ms):=by
 refine bg λa=>?_;have a:=XW.mp a;have b:=(bw t).is;cases hw:dl t<;>rw[hw]at b<;>first|exact al|obtain rfl:=b
 ·refine bY (bg λh=>af fF λz f=>af (hE κ e) λm s=>ah (OO f a (rn h) s hr)) ?_
  have b:=(bw e).is;cases d:dl e<;>rw[d]at b<;>first|exact al|obtain rfl:=b
  refine bg λh=>af fF λz f=>af (l7 hE hT) λp r=>ah ?_;refine sD r.ok λx D j q c u C B l=>?_;obtain rfl:=c;exact DO a (ul f a) u C (rn h) B l hr
 ·exact bg λh=>dZ λi k=>af (hE κ e) λm s=>af (hE κ _) λn g=>ah (BY i (iP k) (rn h) s g hr)
 ·exact bg λh=>af (hE κ e) λm s=>af (hE κ _) λn g=>af (hE κ _) λF y=>ah (Ef (rn h) s g y hr)
 ·refine bg λh=>af (R:=λo=>iH (swappedStores _ e (G2 κ.sc))=some o) (λZ e=>e) λo A=>vM hE hr a (rn h) λv d=>(DU d).trans (kg A)
end
noncomputable def G4 (κ:Ek) (t:Expr):Option iU:=match dl t with
 |.name x _=>(r8 κ x).bind λt=>some t.put
 |.tup es _ _=>(uc κ es).bind λis=>some (mP is)
 |_=>none
noncomputable def EV (E:DE) (κ:Ek) (t:Expr) (r:AS):Option AS:=match dl t with
 |.sub o i _=>(match dl i with
  |.slice lo hi st _=>(match st with
   |some _=>none
   |none=>(match lo with
    |none=>none
    |some lo=>(match hi with
     |none=>none
     |some hi=>(E κ o).bind λmo=>(E κ lo).bind λma=>(E κ hi).bind λmb=>some (v8 mo ma mb r))))
  |_=>none)
 |_=>none
noncomputable def CL (E:DE) (κ:Ek) (t e:Expr) (r:AS):Option AS:=match dl t with
 |.name x _=>gd κ.cm.isNone ((dI κ.ns x).bind λi=>(E κ e).bind λm=>some (i8 i m r))
 |.attr o a _=>(dI cz a).bind λi=>(E κ e).bind λm=>(E κ o).bind λmo=>some (qB mo i m r)
 |_=>none
noncomputable def nY (E:DE) (T:DT) (S:Ek->List Stmt->AS) (κ:Ek) (s:Stmt) (rest:List Stmt):Option AS:=match s with
 |.Assign ts e pos=>(match ts with
  |[]=>none
  |t::ts=>(match ts with
   |[]=>NP E T κ t e pos.line (S κ rest)
   |_::_=>none))
 |.Return v _=>(match v with
  |some e=>(E κ e).bind λm=>some (aq m)
  |none=>none)
 |.If t b o _=>(T κ t).bind λmt=>(match o with
  |[]=>some (aw mt (S κ b) (S κ rest))
  |_::_=>some (lD mt (S κ b) (S κ o) (S κ rest)))
 |.Expr e pos=>gd (eqO (iH (swapsWith e none pos.line (G2 κ.sc))) false) ((E κ e).bind λm=>some (cQ m (S κ rest)))
 |.AugAssign t op e _=>(match op with
  |.Add=>CL E κ t e (S κ rest)
  |_=>none)
 |.While t b o _=>(match o with
  |[]=>gd κ.cm.isNone ((T κ t).bind λmt=>some (Wf mt (S κ b) (S κ rest)))
  |_::_=>none)
 |.For t e b o _=>(match o with
  |[]=>gd (κ.cm.isNone&&gO e) ((G4 κ t).bind λput=>(E κ e).bind λm=>some (mj m put (S κ b) (S κ rest)))
  |_::_=>none)
 |.Raise e c _=>(match e with
  |none=>none
  |some e=>(match c with
   |some _=>none
   |none=>(E κ e).bind λm=>some (mU m)))
 |.Delete ts _=>(match ts with
  |[]=>none
  |t::ts=>(match ts with
   |[]=>EV E κ t (S κ rest)
   |_::_=>none))
 |_=>none
noncomputable def Qv (E:DE) (T:DT):Nat->Ek->List Stmt->AS
 |0=>λZ Z=>fR
 |n+1=>λκ ss=>match ss with
  |[]=>aF
  |s::rest=>(nY E T (Qv E T n) κ s rest).getD fR
theorem Ge {t:Expr} (hc:κ.cm=none):Og (mB w κ t) (G4 κ t):=by
 unfold G4;have a:=(bw t).is;cases hw:dl t<;>rw[hw]at a<;>first|exact al|obtain rfl:=a
 ·exact af fF λt c=>ah (ul c hc)
 ·exact af tX λd b=>ah (Ny b hc)
section
variable {E:DE} {T:DT} {S:Ek->List Stmt->AS} (hE:SE w E) (hT:ST w T) (hS:∀κ ss,bq w κ ss (S κ ss))
include hE hS
set_option tactic.hygienic true in
theorem wx {t:Expr} {pos:Pos} {rest:List Stmt}:Og (bq w κ (.Delete [t] pos::rest)) (EV E κ t (S κ rest)):=by
 unfold EV;have d:=(bw t).is;cases hw:dl t<;>rw[hw]at d<;>first|exact al|obtain rfl:=d
 rename_i o i p;have a:=(bw i).is;show Og _ (match dl i with
  |.slice lo a st _=>(match st with
   |some _=>none
   |none=>(match lo with
    |none=>none
    |some lo=>(match a with
     |none=>none
     |some a=>(E κ o).bind λb=>(E κ lo).bind λc=>(E κ a).bind λe=>some (v8 b c e (S κ rest)))))
  |_=>none)
 cases hj:dl i<;>rw[hj]at a<;>first|exact al|obtain rfl:=a
 rename_i lo a st q;cases st with
 |some _=>exact al
 |none=>cases lo with
  |none=>exact al
  |some lo=>cases a with
   |none=>exact al
   |some a=>exact af (hE κ o) λb g=>af (hE κ lo) λc h=>af (hE κ a) λe f=>ah (KW g h f (hS κ rest))
theorem uS {t e:Expr} {pos:Pos} {rest:List Stmt}:Og (bq w κ (.AugAssign t .Add e pos::rest)) (CL E κ t e (S κ rest)):=by
 unfold CL;have b:=(bw t).is;cases hw:dl t<;>rw[hw]at b<;>first|exact al|obtain rfl:=b
 ·exact bg λd=>dZ λi a=>af (hE κ e) λm s=>ah (Kb i a (XW.mp d) s (hS κ rest))
 ·exact dZ λi a=>af (hE κ e) λm s=>af (hE κ _) λf c=>ah (AM i (iP a) s c (hS κ rest))
include hT
set_option tactic.hygienic true in
theorem qt {s:Stmt} {rest:List Stmt}:Og (bq w κ (s::rest)) (nY E T S κ s rest):=by
 cases s<;>first|exact al|skip
 case Assign ts e pos=>rcases ts with _|⟨t,_|⟨t2,ts⟩⟩<;>first|exact al|exact vU hE hT (hS κ rest)
 case Return v pos=>
  cases v with
  |none=>exact al
  |some e=>exact af (hE κ e) λm s=>ah (Md s)
 case If t b o pos=>
  refine af (hT κ t) λg d=>?_;cases o with
  |nil=>exact ah (VQ d (hS κ b) (hS κ rest))
  |cons _ _=>exact ah (XeV d (hS κ b) (hS κ _) (hS κ rest))
 case Expr e pos=>exact bg λh=>af (hE κ e) λm s=>ah (Ih (λi j=>by
  have z:=kg (O6 h);rw[j]at z;exact Eq.trans (by rfl) z) s (hS κ rest))
 case AugAssign t op e pos=>cases op<;>first|exact al|exact uS hE hS
 case While t b o pos=>
  cases o with
  |cons _ _=>exact al
  |nil=>exact bg λa=>af (hT κ t) λg d=>ah (XdY (XW.mp a) d (hS κ b) (hS κ rest))
 case For t e b o pos=>
  cases o with
  |cons _ _=>exact al
  |nil=>
   refine bg λh=>?_;rw[WU]at h;have a:=XW.mp h.1;exact af (Ge a) λf k=>af (hE κ e) λm s=>ah (UK a ((bw e).set h.2).1 k s (hS κ b) (hS κ rest))
 case Raise e c pos=>
  cases e with
  |none=>exact al
  |some e=>cases c with
   |some _=>exact al
   |none=>exact af (hE κ e) λm s=>ah (uP s)
 case Delete ts pos=>rcases ts with _|⟨t,_|⟨t2,ts⟩⟩<;>first|exact al|exact wx hE hS
end
theorem G6 {E:DE} {T:DT} (hE:SE w E) (hT:ST w T) (n:Nat):∀κ ss,bq w κ ss (Qv E T n κ ss):=by
 induction n with
 |zero=>exactλZ Z=>yP
 |succ n ih=>
  intro κ ss;cases ss with
  |nil=>exact Vz
  |cons s rest=>
   show bq w κ (s::rest) ((nY E T (Qv E T n) κ s rest).getD fR);cases h:nY E T (Qv E T n) κ s rest with
   |none=>exact yP
   |some m=>exact(qt (κ:=κ) (s:=s) (rest:=rest) hE hT ih) m h
def dS:Ek->List Stmt->AS:=Qv dE dT 60
theorem tq:∀κ ss,bq w κ ss (dS κ ss):=G6 m9 CM 60
noncomputable def qH (s:Stmt):Arguments:=match s with
 |.FunctionDef _ a _ _ _ _ _ _ _ _=>a
 |_=>default
noncomputable def cw (s:Stmt):Scope:=match s with
 |.FunctionDef _ _ _ _ _ _ sc _ _ _=>sc
 |_=>default
noncomputable def BW (s:Stmt):Str:=match s with
 |.FunctionDef n _ _ _ _ _ _ _ _ _=>n
 |_=>default
noncomputable def FM (s:Stmt):Bool:=match s with
 |.FunctionDef _ _ _ _ _ _ _ _ _ _=>true
 |_=>false
noncomputable def zB (s:Stmt):List Str:=(qH s).args.map (·.arg)
noncomputable def t7 (s:Stmt) (k:NameKind):List Str:=((cw s).names.filter λy=>y.2==k).map (·.1)
noncomputable def lw (s:Stmt):List Str:=((zB s).filter λx=>(t7 s .local).contains x)++(t7 s .local).filter λx=> !(zB s).contains x
noncomputable def mJ (s:Stmt):List Str:=(t7 s .cell).reverse
noncomputable def kF (s:Stmt) (q:Str) (cd:Nat):Ek:=⟨cw s,lw s,mJ s,none,false,.ref cd,q⟩
noncomputable def Ug (s:Stmt) (q md:Str) (tk:Nat) (dv:Value) (cd:Nat):FuncData:=fnOf (BW s) q (qH s) (fQ s) (cw s) dv .none .none (.str md tk) none (.ref cd) .none
variable {s:Stmt} {q md:Str} {tk cd:Nat} {dv:Value}
theorem qC (h:FM s=true):fu (vt "function") s q 3 [] dv vn vn (vs md tk) none (vr cd) vn 0=⟨.type "function",none,.func (Ug s q md tk dv cd),#[]⟩:=by
 cases s<;>first|rfl|exact cp h
def RP (w:World) (f:Nat) (s:Stmt) (q md:Str) (tk:Nat) (dv:Value) (cd:Nat):Prop:=FM s=true∧(HK w.params).lookup f=some (fu (vt "function") s q 3 [] dv vn vn (vs md tk) none (vr cd) vn 0)
variable {f:Nat} {n:Nat} {Φ:Nat->eL} {m:AS}
theorem IK {tk cd k r:Nat} {dfl:List SV} {dV:List Value} (he:dS (kF s q cd) (fQ s)=m) (h:RP w f s q md tk dv cd) (hcn:(mJ s).isEmpty=true)
  (hc:(iC (HK w.params) (cw s) (lw s) (.ref cd) q&&((cw s).names.all λx=> !(x.2== .cell)))=true) (hd:∀τ,bZ τ dfl dV)
  (hb:∀S (avs:List Value),avs.length=k->peek (HK w.params) S (bindArgs (Ug s q md tk dv cd) ⟨avs,[]⟩)=some (bB (lw s) (avs.map some++(dV.map some++List.replicate r none)))) (P:ar w Φ n):
  aM w (n+1) (bo k dfl r m Φ) (.ref f):=
 Py (κ:=kF s q cd) rfl rfl rfl (Y3.mp hcn) (h.2.trans (Yi some (qC h.1))) hc hd (λb avs X a=>kp_binds X λS=>hb S avs a) (he▸tq _ _) P
noncomputable def FL:Nat->(List Value->Prop)->Prop
 |0,P=>P []
 |k+1,P=>∀a,FL k λl=>P (a::l)
theorem yU:∀{k:Nat} {P:List Value->Prop},FL k P->∀l:List Value,l.length=k->P l
 |0,_,h,l,e=>List.length_eq_zero_iff.mp e▸h
 |_+1,_,_,[],e=>nomatch e
 |_+1,_,h,a::_,e=>yU (h a) _ (ZC e)
theorem cY (s:Stmt) (o:Obj) {tk cd k r:Nat} (P:ar w Φ n) (ho:o=fu (vt "function") s q 3 [] dv vn vn (vs md tk) none (vr cd) vn 0:=by exact rfl) (hf:FM s=true:=by kernel_rfl) (hl:(HK w.params).lookup f=some o:=by kernel_rfl)
  (he:dS (kF s q cd) (fQ s)=m:=by kernel_rfl) (hcn:(mJ s).isEmpty=true:=by kernel_rfl)
  (hc:(iC (HK w.params) (cw s) (lw s) (.ref cd) q&&((cw s).names.all λx=> !(x.2== .cell)))=true:=by kernel_rfl)
  (hb:∀S,FL k λavs=>peek (HK w.params) S (bindArgs (Ug s q md tk dv cd) ⟨avs,[]⟩)=some (bB (lw s) (avs.map some++List.replicate r none)):=by(repeat intro);show _=_;kernel_rfl):
  aM w (n+1) (bo k [] r m Φ) (.ref f):=
 IK (dV:=[]) he ⟨hf,hl.trans (Yi some ho)⟩ hcn hc (λZ=>rfl) (λS=>yU (hb S)) P
noncomputable def liF (s:Stmt):List (Option Nat):=(lw s).map λx=>dI (zB s) x
noncomputable def ciF (s:Stmt):List (Option Nat):=(mJ s).map λx=>dI (zB s) x
def bdB (s:Stmt) (all:List Value):Prop:=(((zB s).zip all).all λy=>(cw s).names.lookup y.1==some .local||(cw s).names.lookup y.1==some .cell)=true∧(((zB s).zip all).filter λx=>(cw s).names.lookup x.1==some .local)=bB (lw s) (eO (liF s) all)∧
 (((mJ s).zip (eO (ciF s) all)).map λx=>bindC (λy=>(cw s).names.lookup y) ((zB s).zip all) (λZ=>none) x.1)=((mJ s).zip (eO (ciF s) all)).map (·.2)
theorem lM {dfl:List SV} {dV:List Value} {li ci:List (Option Nat)} (he:dS (kF s q cd) (fQ s)=m) (hli:(liF s,ciF s)=(li,ci)) (h:RP w f s q md tk dv cd)
  (hc:iT (HK w.params) (cw s) (lw s) (mJ s) (.ref cd) q=true) (hd:∀τ,bZ τ dfl dV)
  (hb:∀avs:List Value,avs.length=k->(∀S,peek (HK w.params) S (bindArgs (Ug s q md tk dv cd) ⟨avs,[]⟩)=some ((zB s).zip (avs++dV)))∧bdB s (avs++dV)) (P:ar w Φ n):
  aM w (n+1) (fX k dfl li ci m Φ) (.ref f):=
 (Prod.mk.inj hli).1▸(Prod.mk.inj hli).2▸Cr (κ:=kF s q cd) rfl rfl rfl rfl (h.2.trans (Yi some (qC h.1))) hc (W0 _).symm hd (λb avs X a=>(bv _ (kp_binds X (hb avs a).1) ((hb avs a).2))) (he▸tq _ _) P
variable {α:Type}
theorem sq {l:List α} (h:l.length=1):∃a,l=[a]:=by rcases l with _|⟨a,_|⟨b,l⟩⟩<;>first|exact⟨_,rfl⟩|cases h
theorem pE {l:List α} (h:l.length=n+1):∃a r,l=a::r∧r.length=n:=by
 cases l with
 |nil=>cases h
 |cons a r=>exact(uA a r rfl (ZC h))
theorem vC {l:List α} (h:l.length=2):∃a b,l=[a,b]:=by
 refine gM (pE h) λa r c d=>?_;obtain rfl:=c;obtain⟨b,rfl⟩:=sq d;exact(rU _ _ rfl)
theorem LU {l:List α} (h:l.length=3):∃a b c,l=[a,b,c]:=by
 refine gM (pE h) λa r d e=>?_;obtain rfl:=d;refine mZ (vC e) λb c d=>?_;obtain rfl:=d;exact(w9 _ _ _ rfl)
theorem Mp {l:List α} (h:l.length=4):∃a b c d,l=[a,b,c,d]:=by
 refine gM (pE h) λa r f g=>?_;obtain rfl:=f;refine tV (LU g) λb c d e=>?_;obtain rfl:=e;exact(V3 _ _ _ _ rfl)
theorem DD {l:List α} (h:l.length=5):∃a b c d e,l=[a,b,c,d,e]:=by
 refine gM (pE h) λa r g i=>?_;obtain rfl:=g;refine mG (Mp i) λb c d e f=>?_;obtain rfl:=f;exact(iG _ _ _ _ _ rfl)
theorem XbJ {l:List α} (h:l.length=6):∃a b c d e f,l=[a,b,c,d,e,f]:=by
 refine gM (pE h) λa r i j=>?_;obtain rfl:=i;refine gz (DD j) λb c d e f g=>?_;obtain rfl:=g;exact(Jg _ _ _ _ _ _ rfl)
theorem Jj {l:List α} (h:l.length=7):∃a b c d e f g,l=[a,b,c,d,e,f,g]:=by
 refine gM (pE h) λa r j k=>?_;obtain rfl:=j;refine E61 (XbJ k) λb c d e f g i=>?_;obtain rfl:=i;exact(Jg _ _ _ _ _ _ ⟨_,rfl⟩)
noncomputable def dHc (c:Const):Option AH:=match c with
 |.str z=>some (hS z)
 |_=>none
noncomputable def dH:Nat->Ek->Expr->Option AH
 |0=>λZ Z=>none
 |n+1=>λκ e=>match e with
  |.Name x _=>(dI κ.ns x).bind λi=>some (hV i)
  |.Attribute o a _=>(dI cz a).bind λi=>gd (iZ o) ((dH n κ o).bind λm=>some (dF m i))
  |.BinOp a op b _=>(dH n κ a).bind λm1=>(dH n κ b).bind λm2=>some (qm op m1 m2)
  |.Constant c _ _=>dHc c
  |_=>none
set_option tactic.hygienic true in
theorem Vl:∀{e:Expr},Og (jJ w κ e) (dH n κ e):=by
 induction n with
 |zero=>exact al
 |succ n ih=>
  intro e;cases e<;>first|exact al|skip
  case Name=>exact dZ λi h=>ah (h_v i h)
  case Attribute o a p=>exact dZ λi d=>bg λh=>af ih λm s=>ah (Fb i (iP d) ((bw o).call h _) s)
  case BinOp=>exact af ih λg f=>af ih λj b=>ah (QC f b)
  case Constant c _ _=>cases c<;>first|exact al|exact ah h_s
theorem sU:∃e x y e2 p1 p2 p3 p4 p5,fQ (sT 82)=[.Try [.Return (some e) p1] [.ExceptHandler (some (.Name x p2)) (some y) [.Return (some e2) p3] p4] [] [] p5]∧dE (kF (sT 82) "_law_heard" 917) e=some (xD 0)∧dH 9 (kF (sT 82) "_law_heard" 917) e2=some (qm .Add (qm .Add (dF (dF (dF (hV 1) 43) 1) 15) (hS ": ")) (dF (dF (dF (hV 1) 43) 13) 6))∧x="Raised"∧y="error":=
 (Jg _ _ _ _ _ _ (I35 _ _ _ rfl (by kernel_rfl) (by kernel_rfl) (by kernel_rfl) (by kernel_rfl)))
def mY:(Nat->eL)->List SV->Sg->KV->KX->Prop:=OL 1 1 1 (xD 0) (qm .Add (qm .Add (dF (dF (dF (hV 1) 43) 1) 15) (hS ": ")) (dF (dF (dF (hV 1) 43) 13) 6))
theorem GW (P:ar w Φ n):aM w (n+1) (mY Φ) (.ref 918):=by
 refine E61 sU λe x y v o l c=>?_;refine E35 c λu r m g h k f b=>?_;obtain rfl:=f;obtain rfl:=b;have d:=qC (s:=sT 82) (q:="_law_heard") (md:="law_sm0031_01") (tk:=1543) (cd:=917) (dv:=.none) (by kernel_rfl);unfold Ug at d;rw[g]at d;exact DB (p:=⟨_,_,_,_,1,1,1,_,_,_,_,_,_,_,_,_,_,_,_,_,_,_,_,_⟩) (κ:=kF (sT 82) "_law_heard" 917) ⟨rfl,rfl,rfl,by kernel_rfl,m9 _ _ _ h,Vl _ k,by kernel_rfl,eW (by kernel_rfl),by kernel_rfl⟩ ((by kernel_rfl:(HK w.params).lookup 918=some GC).trans (Yi some d)) (by kernel_rfl) (λt i X j=>by obtain⟨a,rfl⟩:=sq j;exact kp_binds X λS=>by kernel_rfl) P
def m37:AS:=(az (aV 0) 0 (aV 1) (az (aV 0) 1 (aV 2) (az (aV 0) 2 gZ (az (aV 0) 3 aN (az (aV 0) 4 (aB false) (az (aV 0) 5 aN aF))))))
theorem N5 (P:ar w Φ n):aM w (n+1) (bo 3 [] 0 m37 Φ) (.ref 37):=
 cY (sC 7 0) o37 P
def m59:AS:=(cQ (ag 37 (aa (aV 0) (aa (aV 1) (aa (aV 2) ab)))) (az (aV 0) 6 (aV 3) aF))
theorem IZ (P:ar w Φ n):aM w (n+1) (bo 4 [] 0 m59 Φ) (.ref 59):=
 cY (sC 8 0) o59 P
def m79:AS:=(cQ (ag 37 (aa (aV 0) (aa (aV 1) (aa (aV 2) ab)))) (az (aV 0) 7 (aO (ai .Is (aV 3) aN) (bK ab) (aV 3)) aF))
theorem Q6 (P:ar w Φ n):aM w (n+1) (bo 4 [] 0 m79 Φ) (.ref 79):=
 cY (sC 9 0) o79 P
def m98:AS:=(cQ (ag 37 (aa (aV 0) (aa (aV 1) (aa (aV 2) ab)))) (az (aV 0) 8 gZ (az (aV 0) 9 aN aF)))
theorem SA (P:ar w Φ n):aM w (n+1) (bo 3 [] 0 m98 Φ) (.ref 98):=
 cY (sC 10 0) o98 P
def EE:AS:=(ay (.l 3) (ag 264 (aa (aV 1) ab)) (ay (.l 4) (kW iF fw (aj (aV 0) 8) (aa (aV 3) ab)) (lD (ai .Is (aV 4) aN) (i9 (aj (aV 0) 8) (aV 3) (bK (aa (aV 1) (aa (aV 2) ab))) aF) (i9 (aV 4) (aI 1) (aV 2) aF) aF)))
theorem Dn (P:ar w Φ n):aM w (n+1) (bo 3 [] 2 EE Φ) (.ref 105):=
 cY (sC 10 1) Cq P
def Bu:AS:=(cQ (ag 37 (aa (aV 0) (aa (aV 1) (aa (aV 2) ab)))) (az (aV 0) 10 (aV 3) (az (aV 0) 11 (aV 4) (az (aV 0) 12 (aV 5) aF))))
theorem Ag (P:ar w Φ n):aM w (n+1) (bo 6 [] 0 Bu Φ) (.ref 137):=
 cY (sC 11 0) E8 P
def Fi:AS:=(cQ (ag 37 (aa (aV 0) (aa (aV 1) (aa (aV 2) ab)))) (az (aV 0) 13 (aV 3) (az (aV 0) 14 aN aF)))
theorem z6 (P:ar w Φ n):aM w (n+1) (bo 4 [] 0 Fi Φ) (.ref 178):=
 cY (sC 13 0) Ch P
def kh:AS:=(cQ (ag 37 (aa (aV 0) (aa (aV 1) (aa (aV 2) ab)))) (az (aV 0) 15 (aV 3) (az (aV 0) 16 (aV 4) (az (aV 0) 17 (aV 5) (az (aV 0) 18 (aV 6) (az (aV 0) 19 gZ (az (aV 0) 20 gZ (az (aV 0) 21 (bK ab) (az (aV 0) 22 (bK ab) (az (aV 0) 23 aN (az (aV 0) 24 aN (az (aV 0) 25 aN aF))))))))))))
theorem C0 (P:ar w Φ n):aM w (n+1) (bo 5 [.none,.none] 0 kh Φ) (.ref 218):=
 IK (s:=sC 15 0) (dV:=[vn,vn]) (by kernel_rfl) ⟨by kernel_rfl,(by kernel_rfl:(HK w.params).lookup 218=some xu)⟩ (by kernel_rfl) (by kernel_rfl) (λZ=>⟨_,_,rfl,rfl,⟨_,_,rfl,rfl,rfl⟩⟩) (λS f h=>by obtain⟨a,b,c,d,e,rfl⟩:=DD h;kernel_rfl) P
theorem xJ (P:ar w Φ n):aM w (n+1) (bo 7 [] 0 kh Φ) (.ref 218):=
 cY (sC 15 0) xu P
def zN:AS:=(aq (bF .IsNot (aj (aV 0) 23) aN))
theorem C8 (P:ar w Φ n):aM w (n+1) (bo 1 [] 0 zN Φ) (.ref 225):=
 cY (sC 15 1) Fh P
def wH:AS:=(aq (eK (bH bt (aa (aV 0) (aa (mH 1) ab))) [qE (bH bt (aa (aV 0) (aa (mH 0) ab)))]))
theorem Fn (P:ar w Φ n):aM w (n+1) (bo 1 [] 0 wH Φ) (.ref 237):=
 cY (sT 16) Aj P
def qd:AS:=(aw (ai .Is (aV 0) aN) (aq (aS "nil")) (aw (aP (bH bt (aa (aV 0) (aa (mH 0) ab)))) (aq (aS "bool")) (aw (aP (bH bt (aa (aV 0) (aa (mH 1) ab)))) (aq (aS "int")) (aq (aO (aP (bH bt (aa (aV 0) (aa (mH 2) ab)))) (aS "sym") (aS "thing"))))))
theorem AZ (P:ar w Φ n):aM w (n+1) (bo 1 [] 0 qd Φ) (.ref 244):=
 cY (sT 17) AJ P
def Dm:AS:=(ay (.l 2) (ag 244 (aa (aV 0) ab)) (aw (ai .NotEq (aV 2) (ag 244 (aa (aV 1) ab))) (aq (aB false)) (aq (aO (ai .Eq (aV 2) (aS "thing")) (bF .Eq (aj (aV 0) 0) (aj (aV 1) 0)) (bF .Eq (aV 0) (aV 1))))))
theorem A7 (P:ar w Φ n):aM w (n+1) (bo 2 [] 1 Dm Φ) (.ref 251):=
 cY (sT 18) E0 P
def Gm:AS:=(ay (.l 1) (ag 244 (aa (aV 0) ab)) (aw (ai .NotEq (aV 1) (aS "thing")) (aq (aU (aa (aV 1) (aa (aV 0) ab)))) (aw (aP (bH bt (aa (aV 0) (aa (aG 62) ab)))) (aq (aU (aa (aS "text") (aa (aj (aV 0) 6) ab)))) fR)))
theorem Gs (P:ar w Φ n):aM w (n+1) (fX 1 [.int 12,.none] [some 0,none,none] [some 2,some 1] Gm Φ) (.ref 264):=
 lM (s:=sT 20) (dV:=[vi 12 260,vn]) (by kernel_rfl) (by kernel_rfl) ⟨by kernel_rfl,(by kernel_rfl:(HK w.params).lookup 264=some zU)⟩ (by kernel_rfl) (λZ=>⟨_,_,rfl,⟨_,rfl⟩,⟨_,_,rfl,rfl,rfl⟩⟩) (λb h=>by obtain⟨a,rfl⟩:=sq h;exact⟨λS=>by kernel_rfl,by kernel_rfl,by kernel_rfl,by kernel_rfl⟩) P
def BZ:AS:=(cT [.l 1,.l 2,.l 3] (aU (aa (aS "") (aa (aS "") (aa gZ ab)))) (Wf (ai .NotIn (aj (aV 0) 0) (aV 3)) (i9 (aV 3) (aj (aV 0) 0) (aB true) (aw (ai .IsNot (aj (aV 0) 23) aN) (cT [.l 1,.l 2,.l 0] (aU (aa (ap .Add (aV 1) (aS "#<Class:")) (aa (ap .Add (aS ">") (aV 2)) (aa (aj (aV 0) 23) ab)))) (aw (cF (aP (bH bt (aa (aV 0) (aa (aG 228) ab))))) (cT [.l 1,.l 2,.l 0] (aU (aa (ap .Add (aV 1) (aS "#<")) (aa (ap .Add (aS ">") (aV 2)) (aa (aj (aV 0) 1) ab)))) aF) fR)) (aw (ai .Is (aj (aV 0) 15) aN) fR (aw (ai .Is (aj (aV 0) 18) aN) (aq (ap .Add (ap .Add (aV 1) (aj (aV 0) 15)) (aV 2))) (cT [.l 2,.l 0] (aU (aa (ap .Add (ap .Add (aS "::") (aj (aV 0) 15)) (aV 2)) (aa (aj (aV 0) 18) ab))) aF))))) (aq (ap .Add (ap .Add (aV 1) (aO (aP (aj (aV 0) 16)) (aS "#<Class>") (aS "#<Module>"))) (aV 2)))))
theorem BR (P:ar w Φ n):aM w (n+1) (bo 1 [] 3 BZ Φ) (.ref 297):=
 cY (sT 25) AO P
def zZ:AS:=(ay (.l 3) (ag 244 (aa (aV 0) ab)) (aw (ai .Eq (aV 3) (aS "thing")) fR (aw (ai .Eq (aV 3) (aS "sym")) fR (aw (ai .Eq (aV 3) (aS "nil")) (aq (aS "nil")) (aw (ai .Eq (aV 3) (aS "bool")) (aq (aO (aP (aV 0)) (aS "true") (aS "false"))) fR)))))
theorem Gk (P:ar w Φ n):aM w (n+1) (bo 1 [.int 6,.none] 1 zZ Φ) (.ref 358):=
 IK (s:=sT 34) (dV:=[vi 6 733,vn]) (by kernel_rfl) ⟨by kernel_rfl,(by kernel_rfl:(HK w.params).lookup 358=some E7)⟩ (by kernel_rfl) (by kernel_rfl) (λZ=>⟨_,_,rfl,⟨_,rfl⟩,⟨_,_,rfl,rfl,rfl⟩⟩) (λS b h=>by obtain⟨a,rfl⟩:=sq h;kernel_rfl) P
def Gl:AS:=(aw (ai .Is (aV 1) aN) (aq (aS "nil")) (aw (aP (bH bt (aa (aV 1) (aa (mH 0) ab)))) (aq (aO (aP (aV 1)) (aS "true") (aS "false"))) (aq (ag 297 (aa (am (aV 0) 48 (aa (aV 1) ab)) ab)))))
theorem CA (P:ar w Φ n):aM w (n+1) (bo 2 [] 0 Gl Φ) (.ref 365):=
 cY (sT 36) EO P
def wW:AS:=(aw (ai .Is (aV 1) aN) (cQ (am (aV 0) 56 (aa (aS "TypeError") (aa (aS "no implicit conversion from nil to integer") ab))) aF) (aw (cF (aP (ag 237 (aa (aV 1) ab)))) (cQ (am (aV 0) 56 (aa (aS "TypeError") (aa (eS [aS "no implicit conversion of ",lE (ag 365 (aa (aV 0) (aa (aV 1) ab))),aS " into Integer"] ({cps:= #[]})) ab))) aF) (aq (aV 1))))
theorem Gp (P:ar w Φ n):aM w (n+1) (bo 2 [] 0 wW Φ) (.ref 372):=
 cY (sT 37) CH P
def Ds:AS:=(aw (aP (aj (aV 1) 4)) (cQ (am (aV 0) 56 (aa (aS "FrozenError") (aa (eS [aS "can't modify frozen ",lE (ag 297 (aa (am (aV 0) 48 (aa (aV 1) ab)) ab)),aS ": ",lE (ag 358 (aa (aV 1) ab))] ({cps:= #[]})) ab))) aF) aF)
theorem ED (P:ar w Φ n):aM w (n+1) (bo 2 [] 0 Ds Φ) (.ref 379):=
 cY (sT 38) GY P
def vw:AS:=(ay (.l 3) (aO (ai .Is (aj (aV 1) 10) aN) (aI 0) (ag 372 (aa (aV 0) (aa (aj (aV 1) 10) ab)))) (ay (.l 4) (aO (ai .Is (aj (aV 1) 11) aN) (jI (aI 1)) (ag 372 (aa (aV 0) (aa (aj (aV 1) 11) ab)))) (aw (ai .Lt (aV 3) (aI 0)) (i8 3 (aV 2) aF) (aw (ai .Lt (aV 4) (aI 0)) (i8 4 (aV 2) aF) (aw (cD [ai .Is (aj (aV 1) 11) aN,cF (aP (aj (aV 1) 12))]) (i8 4 (aI 1) aF) (aq (aU (aa (aV 3) (aa (aV 4) ab)))))))))
theorem EL (P:ar w Φ n):aM w (n+1) (bo 3 [] 2 vw Φ) (.ref 386):=
 cY (sT 39) C9 P
def uo:AS:=(lD (ai .Eq (bH aZ (aa (aV 1) ab)) (aI 1)) (gF [.l 3,.l 4] (ag 386 (aa (aV 0) (aa (ax (aV 1) (aI 0)) (aa (aV 2) ab)))) (ay (.l 5) (bH iA (aa (aI 0) (aa (ap .Sub (aV 4) (aV 3)) ab))) aF)) (cT [.l 3,.l 5] (aU (aa (ag 372 (aa (aV 0) (aa (ax (aV 1) (aI 0)) ab))) (aa (ag 372 (aa (aV 0) (aa (ax (aV 1) (aI 1)) ab))) ab))) (aw (ai .Lt (aV 3) (aI 0)) (i8 3 (aV 2) aF) aF)) (aw (cD [ai .Lt (aV 3) (aI 0),ai .Gt (aV 3) (aV 2),ai .Lt (aV 5) (aI 0)]) (aq aN) (aq (aU (aa (aV 3) (aa (bH fi (aa (aV 5) (aa (ap .Sub (aV 2) (aV 3)) ab))) ab))))))
theorem Fd (P:ar w Φ n):aM w (n+1) (bo 3 [] 3 uo Φ) (.ref 393):=
 cY (sT 40) AG P
def u9:AS:=(ay (.l 3) (ag 372 (aa (aV 0) (aa (aV 1) ab))) (aq (aO (ai .Lt (aV 3) (aI 0)) (ap .Add (aV 3) (aV 2)) (aV 3))))
theorem GD (P:ar w Φ n):aM w (n+1) (bo 3 [] 1 u9 Φ) (.ref 400):=
 cY (sT 41) z9 P
def Au:AS:=(cQ (bH kD (aa (aV 0) (aa (aV 1) ab))) (az (aV 0) 42 (aV 1) aF))
theorem C1 (P:ar w Φ n):aM w (n+1) (bo 2 [] 0 Au Φ) (.ref 415):=
 cY (sC 43 0) Cb P
def Do:AS:=(cQ (ag 415 (aa (aV 0) (aa (aS "a Ruby error") ab))) (az (aV 0) 43 (aV 1) aF))
theorem Ew (P:ar w Φ n):aM w (n+1) (bo 2 [] 0 Do Φ) (.ref 435):=
 cY (sC 44 0) A5 P
def u7:AS:=(ay (.l 3) (ag 400 (aa (aV 0) (aa (ax (aV 2) (aI 0)) (aa (bH aZ (aa (aj (aV 1) 7) ab)) ab)))) (aq (aO (lZ .LtE .Lt (aI 0) (aV 3) (bH aZ (aa (aj (aV 1) 7) ab))) (ax (aj (aV 1) 7) (aV 3)) aN)))
theorem Ee (P:ar w Φ n):aM w (n+1) (bo 3 [] 1 u7 Φ) (.ref 447):=
 cY (sT 46) Ca P
def rG:AS:=(aw (bO [ai .Eq (bH aZ (aa (aV 2) ab)) (aI 1),cF (aP (bH bt (aa (ax (aV 2) (aI 0)) (aa (aG 140) ab))))]) (aq (ag 447 (aa (aV 0) (aa (aV 1) (aa (aV 2) ab))))) (ay (.l 3) (ag 393 (aa (aV 0) (aa (aV 2) (aa (bH aZ (aa (aj (aV 1) 7) ab)) ab)))) (aq (aO (ai .Is (aV 3) aN) aN (am (aV 0) 51 (aa (eH (aj (aV 1) 7) (some (ax (aV 3) (aI 0))) (some (ap .Add (ax (aV 3) (aI 0)) (ax (aV 3) (aI 1))))) ab))))))
theorem Hh (P:ar w Φ n):aM w (n+1) (bo 3 [] 1 rG Φ) (.ref 454):=
 cY (sT 47) By P
def qT:AS:=(cQ (ag 379 (aa (aV 0) (aa (aV 1) ab))) (aw (bO [ai .Eq (bH aZ (aa (aV 2) ab)) (aI 1),cF (aP (bH bt (aa (ax (aV 2) (aI 0)) (aa (aG 140) ab))))]) (aq (ag 468 (aa (aV 0) (aa (aV 1) (aa (aV 2) ab))))) (ay (.l 3) (ag 393 (aa (aV 0) (aa (aV 2) (aa (bH aZ (aa (aj (aV 1) 7) ab)) ab)))) (aw (ai .Is (aV 3) aN) (aq aN) (ay (.l 4) (eH (aj (aV 1) 7) (some (ax (aV 3) (aI 0))) (some (ap .Add (ax (aV 3) (aI 0)) (ax (aV 3) (aI 1))))) (v8 (aj (aV 1) 7) (ax (aV 3) (aI 0)) (ap .Add (ax (aV 3) (aI 0)) (ax (aV 3) (aI 1))) (aq (am (aV 0) 51 (aa (aV 4) ab)))))))))
theorem AC (P:ar w Φ n):aM w (n+1) (bo 3 [] 2 qT Φ) (.ref 461):=
 cY (sT 48) Az P
def xH:AS:=(cQ (ag 379 (aa (aV 0) (aa (aV 1) ab))) (ay (.l 3) (ag 400 (aa (aV 0) (aa (ax (aV 2) (aI 0)) (aa (bH aZ (aa (aj (aV 1) 7) ab)) ab)))) (aq (aO (lZ .LtE .Lt (aI 0) (aV 3) (bH aZ (aa (aj (aV 1) 7) ab))) (kW eX nu (aj (aV 1) 7) (aa (aV 3) ab)) aN))))
theorem Df (P:ar w Φ n):aM w (n+1) (bo 3 [] 1 xH Φ) (.ref 468):=
 cY (sT 49) Eb P
def we:AS:=(aw (aP (ag 237 (aa (aV 1) ab))) (aq (aV 1)) (aw (ai .Is (aV 1) aN) (aq (am (aV 0) 56 (aa (aS "TypeError") (aa (aS "no implicit conversion from nil to integer") ab)))) (ay (.l 2) (aO (aP (bH bt (aa (aV 1) (aa (mH 0) ab)))) (ag 358 (aa (aV 1) ab)) (ag 297 (aa (am (aV 0) 48 (aa (aV 1) ab)) ab))) (aq (am (aV 0) 56 (aa (aS "TypeError") (aa (eS [aS "no implicit conversion of ",lE (aV 2),aS " into Integer"] ({cps:= #[]})) ab)))))))
theorem Ff (P:ar w Φ n):aM w (n+1) (bo 2 [] 1 we Φ) (.ref 475):=
 cY (sT 51) BK P
def BN:AS:=(aw (aP (aj (aV 1) 4)) (cQ (am (aV 0) 56 (aa (aS "FrozenError") (aa (eS [aS "can't modify frozen ",lE (ag 297 (aa (am (aV 0) 48 (aa (aV 1) ab)) ab)),aS ": ",lE (ag 358 (aa (aV 1) ab))] ({cps:= #[]})) ab))) aF) aF)
theorem Ah (P:ar w Φ n):aM w (n+1) (bo 2 [] 0 BN Φ) (.ref 482):=
 cY (sT 53) F3 P
def En:AS:=(ay (.l 3) (aO (ai .Lt (aV 0) (aI 0)) (ap .Add (aV 0) (aV 2)) (aV 0)) (aw (cD [ai .Lt (aV 3) (aI 0),ai .Gt (aV 3) (aV 2),ai .Lt (aV 1) (aI 0)]) (aq aN) (aq (aU (aa (aV 3) (aa (bH fi (aa (aV 1) (aa (ap .Sub (aV 2) (aV 3)) ab))) ab))))))
theorem zX (P:ar w Φ n):aM w (n+1) (bo 3 [] 1 En Φ) (.ref 489):=
 cY (sT 54) DP P
def uK:AS:=(ay (.l 3) (aO (ai .Is (aj (aV 1) 10) aN) (aI 0) (ag 475 (aa (aV 0) (aa (aj (aV 1) 10) ab)))) (ay (.l 4) (aO (ai .Is (aj (aV 1) 11) aN) (jI (aI 1)) (ag 475 (aa (aV 0) (aa (aj (aV 1) 11) ab)))) (ay (.l 5) (aO (ai .Lt (aV 4) (aI 0)) (ap .Add (aV 4) (aV 2)) (aV 4)) (aw (cD [cF (aP (aj (aV 1) 12)),ai .Is (aj (aV 1) 11) aN]) (i8 5 (aI 1) aF) (ay (.l 6) (aO (ai .Lt (aV 3) (aI 0)) (ap .Add (aV 3) (aV 2)) (aV 3)) (aq (ag 489 (aa (aV 3) (aa (bH iA (aa (aI 0) (aa (ap .Sub (aV 5) (aV 6)) ab))) (aa (aV 2) ab))))))))))
theorem EI (P:ar w Φ n):aM w (n+1) (bo 3 [] 4 uK Φ) (.ref 496):=
 cY (sT 55) Da P
def xp:AS:=(aw (ai .Eq (bH aZ (aa (aV 2) ab)) (aI 2)) (aq (ag 489 (aa (ag 475 (aa (aV 0) (aa (ax (aV 2) (aI 0)) ab))) (aa (ag 475 (aa (aV 0) (aa (ax (aV 2) (aI 1)) ab))) (aa (bH aZ (aa (aV 1) ab)) ab))))) (aw (aP (bH bt (aa (ax (aV 2) (aI 0)) (aa (aG 62) ab)))) fR (aw (aP (bH bt (aa (ax (aV 2) (aI 0)) (aa (aG 140) ab)))) (aq (ag 496 (aa (aV 0) (aa (ax (aV 2) (aI 0)) (aa (bH aZ (aa (aV 1) ab)) ab))))) (ay (.l 4) (ag 475 (aa (aV 0) (aa (ax (aV 2) (aI 0)) ab))) (aq (aO (lZ .LtE .Lt (jI (bH aZ (aa (aV 1) ab))) (aV 4) (bH aZ (aa (aV 1) ab))) (aU (aa (ap .Mod (aV 4) (bH aZ (aa (aV 1) ab))) (aa (aI 1) ab))) aN))))))
theorem F7 (P:ar w Φ n):aM w (n+1) (bo 3 [] 2 xp Φ) (.ref 503):=
 cY (sT 56) BI P
def xC:AS:=(ay (.l 3) (ag 503 (aa (aV 0) (aa (aj (aV 1) 6) (aa (aV 2) ab)))) (aq (aO (ai .Is (aV 3) aN) aN (am (aV 0) 6 (aa (eH (aj (aV 1) 6) (some (ax (aV 3) (aI 0))) (some (ap .Add (ax (aV 3) (aI 0)) (ax (aV 3) (aI 1))))) ab)))))
theorem zR (P:ar w Φ n):aM w (n+1) (bo 3 [] 1 xC Φ) (.ref 510):=
 cY (sT 57) Av P
def wF:AS:=(cQ (ag 482 (aa (aV 0) (aa (aV 1) ab))) (ay (.l 3) (ag 503 (aa (aV 0) (aa (aj (aV 1) 6) (aa (aV 2) ab)))) (aw (ai .Is (aV 3) aN) (aq aN) (ay (.l 4) (am (aV 0) 6 (aa (eH (aj (aV 1) 6) (some (ax (aV 3) (aI 0))) (some (ap .Add (ax (aV 3) (aI 0)) (ax (aV 3) (aI 1))))) ab)) (az (aV 1) 6 (ap .Add (eH (aj (aV 1) 6) none (some (ax (aV 3) (aI 0)))) (eH (aj (aV 1) 6) (some (ap .Add (ax (aV 3) (aI 0)) (ax (aV 3) (aI 1)))) none)) (aq (aV 4)))))))
theorem Fw (P:ar w Φ n):aM w (n+1) (bo 3 [] 2 wF Φ) (.ref 517):=
 cY (sT 58) DH P
def Fm:AS:=(az (aV 0) 26 (aV 1) (az (aV 0) 27 (aO (ai .Is (aV 2) aN) gZ (aV 2)) (az (aV 0) 28 (aV 3) (az (aV 0) 29 (aV 4) (az (aV 0) 30 (aI 0) (az (aV 0) 31 (aI 0) (az (aV 0) 32 (aI 8) (az (aV 0) 33 gZ (az (aV 0) 34 gZ (az (aV 0) 35 (aI 0) (az (aV 0) 36 (aI 0) (az (aV 0) 37 gZ (az (aV 0) 38 (bK ab) (az (aV 0) 39 aN (az (aV 0) 40 (aB false) (az (aV 0) 41 (eF 40 37 (aa (am (aV 0) 0 ab) (aa (am (aV 0) 44 (aa (aS "Object") ab)) ab))) (az (aV 0) 40 (aB true) (mj (bH dG (aa (aj (aV 0) 34) ab)) (Tg.put (.l 5)) (cQ (am (aV 0) 46 (aa (aV 5) ab)) aF) aF))))))))))))))))))
theorem D7 (P:ar w Φ n):aM w (n+1) (bo 2 [.none,.none,.int 20000] 1 Fm Φ) (.ref 573):=
 IK (s:=sC 69 0) (dV:=[vn,vn,vi 20000 1176]) (by kernel_rfl) ⟨by kernel_rfl,(by kernel_rfl:(HK w.params).lookup 573=some D4)⟩ (by kernel_rfl) (by kernel_rfl) (λZ=>⟨_,_,rfl,rfl,⟨_,_,rfl,rfl,⟨_,_,rfl,⟨_,rfl⟩,rfl⟩⟩⟩) (λS c h=>by obtain⟨a,b,rfl⟩:=vC h;kernel_rfl) P
def CY:AS:=(qB (aV 0) 31 (aI 1) (aq (aj (aV 0) 31)))
theorem Dh (P:ar w Φ n):aM w (n+1) (bo 1 [] 0 CY Φ) (.ref 594):=
 cY (sC 69 3) FN P
def v6:AS:=(ay (.l 2) (kW iF fw (aj (aV 0) 34) (aa (aV 1) ab)) (aq (aO (ai .Is (aV 2) aN) (am (aV 0) 45 (aa (aV 1) ab)) (aV 2))))
theorem AV (P:ar w Φ n):aM w (n+1) (bo 2 [] 1 v6 Φ) (.ref 615):=
 cY (sC 69 6) Ft P
def vQ:AS:=(ay (.l 1) (bF .NotIn (aV 0) (aG 546)) (ay (.l 2) (eF 228 218 (aa (am (aC 0) 0 ab) (aa aN (aa (aV 0) (aa (aV 1) ab))))) (i9 (aj (aC 0) 34) (aV 0) (aV 2) (az (aV 2) 24 (aV 0) (ay (.l 3) (kj (aV 0)) (az (aV 2) 17 (aO (ai .Is (aV 3) aN) aN (am (aC 0) 44 (aa (aV 3) ab))) (az (aV 2) 1 (am (aC 0) 44 (aa (aO (aP (aV 1)) (aS "Class") (aS "Module")) ab)) (az (aV 2) 21 (bP (kW iF fw (aG 550) (aa (aV 0) (aa (aU ab) ab))) (cB (am (aC 0) 44 (aa aX ab)))) (aw (aP (aj (aC 0) 40)) (cQ (am (aC 0) 46 (aa (aV 0) ab)) aF) (aq (aV 2)))))))))))
theorem D0 (P:ar w Φ n):aM w (n+1) (fX 2 [] [some 1,none,none,none] [some 0] vQ Φ) (.ref 620):=
 lM (s:=sC 69 7) (dV:=[]) (by kernel_rfl) (by kernel_rfl) ⟨by kernel_rfl,(by kernel_rfl:(HK w.params).lookup 620=some AB)⟩ (by kernel_rfl) (λZ=>rfl) (λc h=>by obtain⟨a,b,rfl⟩:=vC h;exact⟨λS=>by kernel_rfl,by kernel_rfl,by kernel_rfl,by kernel_rfl⟩) P
def Gy:AS:=(aw (cD [ai .In (ap .Add (aV 1) (aS ".")) (aj (aV 0) 26),ai .In (ap .Add (aV 1) (aS ".")) (aj (aV 0) 27)]) fR aF)
theorem GQ (P:ar w Φ n):aM w (n+1) (bo 2 [] 0 Gy Φ) (.ref 627):=
 cY (sC 69 8) EA P
def Gg:AS:=(ay (.l 6) (am (aV 0) 44 (aa (aO (aP (aV 2)) (aS "Class") (aS "Module")) ab)) (aw (bO [aP (aV 2),ai .Is (aV 3) aN]) (ay (.l 3) (am (aV 0) 44 (aa (aS "Object") ab)) aF) (ay (.l 7) (aO (cD [ai .Is (aV 4) aN,aP (ag 251 (aa (aV 4) (aa (am (aV 0) 44 (aa (aS "Object") ab)) ab)))]) aN (aV 4)) (ay (.l 8) (eF 228 218 (aa (am (aV 0) 0 ab) (aa (aV 6) (aa (aV 1) (aa (aV 2) (aa (aV 3) (aa (aV 7) ab))))))) (az (aV 8) 23 (aV 5) (aq (aV 8)))))))
theorem Ac (P:ar w Φ n):aM w (n+1) (bo 4 [.none,.none] 3 Gg Φ) (.ref 635):=
 IK (s:=sC 69 9) (dV:=[vn,vn]) (by kernel_rfl) ⟨by kernel_rfl,(by kernel_rfl:(HK w.params).lookup 635=some Hb)⟩ (by kernel_rfl) (by kernel_rfl) (λZ=>⟨_,_,rfl,rfl,⟨_,_,rfl,rfl,rfl⟩⟩) (λS e h=>by obtain⟨a,b,c,d,rfl⟩:=Mp h;kernel_rfl) P
def r6:AS:=(aw (ai .Is (aV 1) aN) (aq (am (aV 0) 44 (aa (aS "NilClass") ab))) (aw (aP (bH bt (aa (aV 1) (aa (mH 0) ab)))) (aq (am (aV 0) 44 (aa (aO (aP (aV 1)) (aS "TrueClass") (aS "FalseClass")) ab))) (aw (aP (bH bt (aa (aV 1) (aa (mH 1) ab)))) (aq (am (aV 0) 44 (aa (aS "Integer") ab))) (aq (aO (aP (bH bt (aa (aV 1) (aa (mH 2) ab)))) (am (aV 0) 44 (aa (aS "Symbol") ab)) (aj (aV 1) 1))))))
theorem BC (P:ar w Φ n):aM w (n+1) (bo 2 [] 0 r6 Φ) (.ref 642):=
 cY (sC 69 10) FE P
def CT:AS:=(Wf (cD [ai .Is (aj (aV 1) 24) aN,aP (am (aV 1) 49 ab)]) (ay (.l 1) (aj (aV 1) 17) aF) (aq (aj (aV 1) 24)))
theorem CS (P:ar w Φ n):aM w (n+1) (bo 2 [] 0 CT Φ) (.ref 663):=
 cY (sC 69 13) De P
def Dy:AS:=(aq (eF 62 59 (aa (am (aV 0) 0 ab) (aa (am (aV 0) 44 (aa (aS "String") ab)) (aa (aV 1) ab)))))
theorem GE (P:ar w Φ n):aM w (n+1) (bo 2 [] 0 Dy Φ) (.ref 677):=
 cY (sC 69 15) BJ P
def Gc:AS:=(aq (eF 82 79 (aa (am (aV 0) 0 ab) (aa (am (aV 0) 44 (aa (aS "Array") ab)) (aa (bH dG (aa (aV 1) ab)) ab)))))
theorem G5 (P:ar w Φ n):aM w (n+1) (bo 2 [] 0 Gc Φ) (.ref 684):=
 cY (sC 69 16) Gq P
def DG:AS:=(ay (.l 2) (eF 120 98 (aa (am (aV 0) 0 ab) (aa (am (aV 0) 44 (aa (aS "Hash") ab)) ab))) (mj (aV 1) (mP [.l 3,.l 4]) (cQ (am (aV 2) 57 (aa (am (aV 0) 53 (aa (aV 3) ab)) (aa (aV 4) ab))) aF) (aq (aV 2))))
theorem Cv (P:ar w Φ n):aM w (n+1) (bo 2 [] 3 DG Φ) (.ref 691):=
 cY (sC 69 17) Bm P
def C5:AS:=(aw (cD [cF (aP (bH bt (aa (aV 1) (aa (aG 62) ab)))),aP (aj (aV 1) 4)]) (aq (aV 1)) (ay (.l 2) (am (aV 0) 6 (aa (aj (aV 1) 6) ab)) (az (aV 2) 4 (aB true) (aq (aV 2)))))
theorem Ct (P:ar w Φ n):aM w (n+1) (bo 2 [] 1 C5 Φ) (.ref 698):=
 cY (sC 69 18) Gh P
def qj:AS:=(aw (bO [ai .IsNot (aV 1) aN,ai .IsNot (aV 2) aN]) (ay (.l 4) (ti (bF .Eq (ag 244 (aa (aV 1) ab)) (aS "bool")) (bF .Eq (ag 244 (aa (aV 2) ab)) (aS "bool"))) (aw (cD [aP (aV 4),cF (aP (ag 251 (aa (am (aV 0) 48 (aa (aV 1) ab)) (aa (am (aV 0) 48 (aa (aV 2) ab)) ab))))]) (cQ (am (aV 0) 56 (aa (aS "ArgumentError") (aa (aS "bad value for range") ab))) aF) aF)) (ay (.l 5) (eF 140 137 (aa (am (aV 0) 0 ab) (aa (am (aV 0) 44 (aa (aS "Range") ab)) (aa (aV 1) (aa (aV 2) (aa (aV 3) ab)))))) (az (aV 5) 4 (aB true) (aq (aV 5)))))
theorem Bd (P:ar w Φ n):aM w (n+1) (bo 4 [] 2 qj Φ) (.ref 705):=
 cY (sC 69 19) BE P
def wn:AS:=(aw (aP (am (aV 1) 49 ab)) (cQ (am (aV 0) 56 (aa (aS "TypeError") (aa (aS "can't create instance of singleton class") ab))) aF) (cT [.l 2,.l 3] (aU (aa (am (aV 0) 50 (aa (aV 1) ab)) (aa (am (aV 0) 0 ab) ab))) (aw (ai .In (aV 2) (aG 558)) (cQ (am (aV 0) 56 (aa (aS "NoMethodError") (aa (ap .Add (aS "undefined method 'new' for class ") (ag 297 (aa (aV 1) ab))) ab))) aF) (aw (ai .Eq (aV 2) (aS "String")) (aq (eF 62 59 (aa (aV 3) (aa (aV 1) (aa (aS "") ab))))) (aw (ai .Eq (aV 2) (aS "Array")) (aq (eF 82 79 (aa (aV 3) (aa (aV 1) (aa (bK ab) ab))))) (aw (ai .Eq (aV 2) (aS "Hash")) (aq (eF 120 98 (aa (aV 3) (aa (aV 1) ab)))) (aw (ai .Eq (aV 2) (aS "Range")) (aq (eF 140 137 (aa (aV 3) (aa (aV 1) ab)))) (aw (ai .Eq (aV 2) (aS "Fiber")) fR (aw (ai .Eq (aV 2) (aS "Proc")) fR (aw (ai .Eq (aV 2) (aS "Class")) (aq (eF 228 218 (aa (aV 3) (aa (aV 1) (aa aN (aa (aB true) (aa (am (aV 0) 44 (aa (aS "Object") ab)) ab))))))) (aw (ai .Eq (aV 2) (aS "Module")) (aq (eF 228 218 (aa (aV 3) (aa (aV 1) (aa aN (aa (aB false) ab)))))) fR)))))))))))
theorem Fz (P:ar w Φ n):aM w (n+1) (bo 2 [] 2 wn Φ) (.ref 719):=
 cY (sC 69 21) Bt P
def DF:AS:=(aq (eF 181 178 (aa (am (aV 0) 0 ab) (aa (am (aV 0) 44 (aa (aV 1) ab)) (aa (am (aV 0) 6 (aa (aV 2) ab)) ab)))))
theorem FS (P:ar w Φ n):aM w (n+1) (bo 3 [] 0 DF Φ) (.ref 761):=
 cY (sC 69 27) Dp P
def Gj:AS:=(mU (CU 435 (aa (am (aV 0) 55 (aa (aV 1) (aa (aV 2) ab))) ab)))
theorem FT (P:ar w Φ n):aM w (n+1) (bo 3 [] 0 Gj Φ) (.ref 768):=
 cY (sC 69 28) zW P
def D1:AS:=(aq (bK (aa (aS "nil") (aa (aS "true") (aa (aS "false") (aa (aS "Symbol") (aa (aS "Array") (aa (aS "Hash") (aa (aS "Object") (aa (aS "String") (aa (aS "Range") ab)))))))))))
theorem C4 (P:ar w Φ n):aM w (n+1) (bo 0 [] 0 D1 Φ) (.ref 845):=
 cY (sT 71) EG P
def F2:AS:=(aq (bK (aa (aS "a") (aa (aS "b") (aa (aS "\n") (aa (bH j8 (aa (aI 233) ab)) (aa (bH j8 (aa (aI 128512) ab)) ab)))))))
theorem GL (P:ar w Φ n):aM w (n+1) (bo 0 [] 0 F2 Φ) (.ref 852):=
 cY (sT 72) CG P
def GT:AS:=(gF [.l 1,.l 2,.l 3] (aU (aa (aI 0) (aa (aI 29) (aa (aB true) ab)))) (mj (eH (aV 0) none (some (aI 63))) (Tg.put (.l 4)) (ay (.l 3) (eK (aV 3) [bF .Eq (aV 4) (aI 0)]) (ay (.l 2) (ap .Mod (ap .Add (ap .Add (ap .Mult (aV 2) (aI 48271)) (ap .Mult (aV 4) (aI 69621))) (aI 31)) (aI 2147483629)) (aw (bO [ai .Eq (aV 1) (aI 0),ai .GtE (bH fc (aa (aV 4) ab)) (ap .Pow (aI 10) (aI 18))]) (ay (.l 1) (bH fc (aa (aV 4) ab)) aF) aF))) (aq (bK (aa (aV 1) (aa (aV 2) (aa (aI 0) (aa (aV 3) (aa (aO (ai .Gt (bH aZ (aa (aV 0) ab)) (aI 0)) (ax (aV 0) (jI (aI 1))) (aI 0)) ab)))))))))
theorem Dc (P:ar w Φ n):aM w (n+1) (bo 1 [] 4 GT Φ) (.ref 859):=
 cY (sT 73) B7 P
def FD:AS:=(aw (ai .Gt (ax (aV 0) (aI 0)) (aI 0)) (nt (.l 2) (aV 0) (aI 0) (aU (aa (ap .Mod (ax (aV 0) (aI 0)) (aV 1)) (aa (ap .FloorDiv (ax (aV 0) (aI 0)) (aV 1)) ab))) (aq (aV 2))) (i9 (aV 0) (aI 2) (ap .Add (ax (aV 0) (aI 2)) (aI 1)) (aw (aP (ax (aV 0) (aI 3))) (aq (ap .Mod (ap .Mod (ap .Add (ap .Add (ap .Mult (ap .Mult (aI 3) (ax (aV 0) (aI 2))) (ax (aV 0) (aI 2))) (ap .Mult (aI 4) (ax (aV 0) (aI 2)))) (aI 1)) (aI 61)) (aV 1))) (ay (.l 3) (ap .Mod (ap .Pow (ap .Add (ap .Add (ax (aV 0) (aI 1)) (ap .Mult (aI 15485857) (ax (aV 0) (aI 2)))) (aI 37)) (aI 5)) (aI 2147483647)) (aq (ap .Mod (ap .FloorDiv (ap .Mod (ap .Pow (ap .Add (ap .Mult (aV 3) (aI 48271)) (ap .Mult (aI 7883) (ax (aV 0) (aI 2)))) (aI 3)) (aI 2147483587)) (aI 64)) (aV 1)))))))
theorem EY (P:ar w Φ n):aM w (n+1) (bo 2 [] 2 FD Φ) (.ref 866):=
 cY (sT 74) Cj P
def vW:AS:=(lu (Tg.put (.l 2)) (aV 1) (cB (am (aC 0) 6 (aa aX ab))) (lD (ai .Eq (ag 866 (aa (aV 0) (aa (aI 3) ab))) (aI 0)) (ay (.l 3) (am (aC 0) 43 (aa (am (aC 0) 47 (aa (aS "Row") (aa (aB true) (aa (am (aC 0) 44 (aa (aS "Array") ab)) ab)))) ab)) (ay (.l 4) (am (aC 0) 43 (aa (am (aC 0) 47 (aa (aS "Line") (aa (aB true) (aa (am (aC 0) 44 (aa (aS "String") ab)) ab)))) ab)) (cQ (kW eX ki (aj (aV 3) 7) (aa (aV 2) ab)) (az (aV 4) 6 (aV 1) aF)))) (cT [.l 3,.l 4] (aU (aa (am (aC 0) 51 (aa (aV 2) ab)) (aa (am (aC 0) 6 (aa (aV 1) ab)) ab))) aF) (az (aV 3) 4 (bF .Eq (ag 866 (aa (aV 0) (aa (aI 3) ab))) (aI 0)) (az (aV 4) 4 (aj (aV 3) 4) (aq (aU (aa (aV 3) (aa (aV 4) ab))))))))
theorem Ab (P:ar w Φ n):aM w (n+1) (fX 3 [] [some 1,some 2,none,none,none] [some 0] vW Φ) (.ref 871):=
 lM (s:=sT 75) (dV:=[]) (by kernel_rfl) (by kernel_rfl) ⟨by kernel_rfl,(by kernel_rfl:(HK w.params).lookup 871=some AF)⟩ (by kernel_rfl) (λZ=>rfl) (λd h=>by obtain⟨a,b,c,rfl⟩:=LU h;exact⟨λS=>by kernel_rfl,by kernel_rfl,by kernel_rfl,by kernel_rfl⟩) P
def GV:AS:=(aw (ai .Lt (ag 866 (aa (aV 0) (aa (aI 6) ab))) (aI 5)) (aq (ap .Add (aV 1) (ag 866 (aa (aV 0) (aa (ap .Add (ap .Sub (aV 2) (aV 1)) (aI 1)) ab))))) (ay (.l 3) (ap .Add (ax (bK (aa (ap .Pow (aI 2) (aI 63)) (aa (ap .Pow (aI 2) (aI 64)) (aa (ap .Pow (aI 10) (aI 30)) (aa (ax (aV 0) (aI 4)) ab))))) (ag 866 (aa (aV 0) (aa (aI 4) ab)))) (ag 866 (aa (aV 0) (aa (aI 3) ab)))) (aq (aO (ai .Eq (ag 866 (aa (aV 0) (aa (aI 2) ab))) (aI 0)) (aV 3) (ap .Sub (aI 0) (aV 3))))))
theorem zY (P:ar w Φ n):aM w (n+1) (bo 3 [] 1 GV Φ) (.ref 878):=
 cY (sT 76) BD P
def wP:AS:=(aw (ai .Lt (aV 1) (aI 4)) (aq (ax (bK (aa aN (aa (aB true) (aa (aB false) (aa (aS "a") ab))))) (aV 1))) (aw (ai .Lt (aV 1) (aI 7)) (aq (aO (ai .Eq (aV 1) (aI 4)) (am (aV 0) 51 (aa (bK (aa (aI 1) ab)) ab)) (aO (ai .Eq (aV 1) (aI 5)) (am (aV 0) 52 (aa (bK (aa (aU (aa (aI 1) (aa (aI 2) ab))) ab)) ab)) (aj (aV 0) 41)))) (aq (aO (ai .Eq (aV 1) (aI 7)) (am (aV 0) 6 (aa (aS "a") ab)) (am (aV 0) 54 (aa (aI 0) (aa (aI 1) (aa (aB false) ab))))))))
theorem CD (P:ar w Φ n):aM w (n+1) (bo 2 [] 0 wP Φ) (.ref 885):=
 cY (sT 77) Bg P
def vz:AS:=(cT [.l 3,.l 4] (aU (aa (ag 866 (aa (aV 1) (aa (aI 5) ab))) (aa (ag 866 (aa (aV 1) (aa (aI 9) ab))) ab))) (aw (bO [ai .Eq (aV 3) (aI 0),ai .Gt (aV 4) (aI 6)]) (ay (.l 4) (ap .Sub (aV 4) (aI 7)) aF) (aw (bO [ai .Eq (aV 3) (aI 4),ai .Eq (aV 4) (aI 0)]) (ay (.l 4) (aI 3) aF) (ay (.l 5) (ag 885 (aa (aV 0) (aa (aV 4) ab))) (ay (.l 6) (aO (ai .Eq (aV 4) (aI 0)) (aS "from nil to integer") (ap .Add (ap .Add (aS "of ") (ax (ag 845 ab) (aV 4))) (aS " into Integer"))) (lD (ai .Eq (aV 3) (aI 0)) (ay (.l 7) (bK (aa (aV 5) ab)) aF) (lD (ai .Eq (aV 3) (aI 1)) (ay (.l 7) (bK (aa (aV 5) (aa (ag 878 (aa (aV 1) (aa (ap .Sub (ap .Sub (aI 0) (aV 2)) (aI 2)) (aa (ap .Add (aV 2) (aI 2)) ab)))) ab))) aF) (lD (ai .Eq (aV 3) (aI 2)) (ay (.l 7) (bK (aa (ag 878 (aa (aV 1) (aa (ap .Sub (ap .Sub (aI 0) (aV 2)) (aI 2)) (aa (ap .Add (aV 2) (aI 2)) ab)))) (aa (aV 5) ab))) aF) (lD (ai .Eq (aV 3) (aI 3)) (ay (.l 7) (bK (aa (aV 5) (aa (ag 885 (aa (aV 0) (aa (ag 866 (aa (aV 1) (aa (aI 9) ab))) ab))) ab))) aF) (ay (.l 8) (ax (bK (aa (aU (aa (aV 5) (aa aN ab))) (aa (aU (aa aN (aa (aV 5) ab))) (aa (aU (aa (aV 5) (aa (aV 5) ab))) ab)))) (ag 866 (aa (aV 1) (aa (aO (ai .Lt (aV 4) (aI 3)) (aI 2) (aI 3)) ab)))) (ay (.l 7) (bK (aa (am (aV 0) 54 (aa (ax (aV 8) (aI 0)) (aa (ax (aV 8) (aI 1)) (aa (bF .Eq (ag 866 (aa (aV 1) (aa (aI 2) ab))) (aI 1)) ab)))) ab)) aF)) aF) aF) aF) (aq (aU (aa (aV 7) (aa (aU (aa (aS "odd") (aa (ap .Add (aS "TypeError: no implicit conversion ") (aV 6)) (aa (aI 0) (aa (aB false) ab))))) ab))))))))))
theorem EQ (P:ar w Φ n):aM w (n+1) (bo 3 [] 6 vz Φ) (.ref 892):=
 cY (sT 78) D6 P
def G0:AS:=(ay (.l 4) (ap .Mod (aV 3) (aI 6)) (aw (ai .Eq (aV 4) (aI 4)) (aq (ag 892 (aa (aV 0) (aa (aV 1) (aa (aV 2) ab))))) (aw (ai .Eq (aV 4) (aI 3)) (ay (.l 5) (ag 878 (aa (aV 1) (aa (ap .Sub (ap .Sub (aI 0) (aV 2)) (aI 2)) (aa (ap .Add (aV 2) (aI 2)) ab)))) (aq (aU (aa (bK (aa (aV 5) ab)) (aa (aU (aa (aS "one") (aa (aV 5) (aa (aI 0) (aa (aB false) ab))))) ab))))) (aw (ai .Eq (aV 4) (aI 1)) (cT [.l 5,.l 6] (aU (aa (ag 878 (aa (aV 1) (aa (ap .Sub (ap .Sub (aI 0) (aV 2)) (aI 2)) (aa (ap .Add (aV 2) (aI 2)) ab)))) (aa (ag 878 (aa (aV 1) (aa (jI (aI 1)) (aa (ap .Add (aV 2) (aI 2)) ab)))) ab))) (aq (aU (aa (bK (aa (aV 5) (aa (aV 6) ab))) (aa (aU (aa (aS "two") (aa (aV 5) (aa (aV 6) (aa (aB false) ab))))) ab))))) (lD (ai .Eq (aV 4) (aI 5)) (ay (.l 5) (ag 866 (aa (aV 1) (aa (ap .Add (aV 2) (aI 1)) ab))) (ay (.l 7) (ap .Sub (ap .Add (aV 5) (ag 866 (aa (aV 1) (aa (aI 6) ab)))) (aI 2)) (cT [.l 5,.l 7] (aU (aa (ap .Sub (aV 5) (ap .Mult (aV 2) (ag 866 (aa (aV 1) (aa (aI 2) ab))))) (aa (ap .Sub (aV 7) (ap .Mult (aV 2) (ag 866 (aa (aV 1) (aa (aI 2) ab))))) ab))) aF))) (ay (.l 5) (aO (bO [ai .Eq (aV 4) (aI 2),ai .Eq (ag 866 (aa (aV 1) (aa (aI 4) ab))) (aI 3)]) aN (ag 878 (aa (aV 1) (aa (ap .Sub (ap .Sub (aI 0) (aV 2)) (aI 2)) (aa (ap .Add (aV 2) (aI 2)) ab))))) (ay (.l 7) (aO (cD [ai .Eq (aV 4) (aI 0),ai .Eq (ag 866 (aa (aV 1) (aa (aI 4) ab))) (aI 3)]) aN (ag 878 (aa (aV 1) (aa (ap .Sub (ap .Sub (aI 0) (aV 2)) (aI 2)) (aa (ap .Add (aV 2) (aI 2)) ab))))) aF)) (ay (.l 8) (ti (bF .Eq (aV 3) (aI 0)) (bF .Eq (ag 866 (aa (aV 1) (aa (aI 2) ab))) (aI 1))) (aq (aU (aa (bK (aa (am (aV 0) 54 (aa (aV 5) (aa (aV 7) (aa (aV 8) ab)))) ab)) (aa (aU (aa (aS "range") (aa (aV 5) (aa (aV 7) (aa (aV 8) ab))))) ab))))))))))
theorem z8 (P:ar w Φ n):aM w (n+1) (bo 4 [] 5 G0 Φ) (.ref 899):=
 cY (sT 79) Fy P
def Ba:AS:=(aw (ai .Is (aV 2) aN) (aq (aB false)) (ay (.l 4) (aO (ai .GtE (aV 2) (aI 0)) (aV 1) (ap .Sub (aV 1) (aV 0))) (aq (ti (bF .Gt (aV 4) (aV 2)) (eK (aV 3) [bF .Eq (aV 4) (aV 2)])))))
theorem Dx (P:ar w Φ n):aM w (n+1) (bo 4 [] 1 Ba Φ) (.ref 906):=
 cY (sT 80) C6 P
def Ai:AS:=(gF [.l 1,.l 2,.c 4,.c 3] (aV 0) (aw (ai .Eq (aV 1) (aS "odd")) (aq aN) (ay (.c 2) (aO (ai .Is (aV 2) aN) (aI 0) (aV 2)) (ay (.c 1) (bP (bH bD (aa (aO (ai .Eq (aV 1) (aS "one")) (aC 5) (ap .Add (aC 5) (aI 1))) ab)) (pK (cD [ai .Eq aX (aC 2),bO [ai .Lt (aC 2) (aI 0),ai .Eq (ap .Sub aX (aC 5)) (aC 2)]]) aX)) (aw (cD [ai .Eq (aC 1) (bK ab),bO [ai .Eq (aV 1) (aS "two"),ai .Lt (aC 4) (aI 0)]]) (aq aN) (aw (ai .Eq (aV 1) (aS "one")) (aq (aU (aa (ax (aC 1) (aI 0)) (aa (aC 1) ab)))) (ay (.c 0) (bP (bH bD (aa (aC 5) ab)) (pK (ai .GtE aX (ax (aC 1) (aI 0))) aX)) (aw (ai .Eq (aV 1) (aS "two")) (aq (aU (aa (ax (aC 1) (aI 0)) (aa (bP (bH bD (aa (bH aZ (aa (aC 0) ab)) ab)) (pK (ai .Lt aX (aC 4)) (ax (aC 0) aX))) ab)))) (aq (aU (aa (ax (aC 1) (aI 0)) (aa (bP (aC 0) (pK (cF (aP (ag 906 (aa (aC 5) (aa aX (aa (aC 4) (aa (aC 3) ab))))))) aX)) ab))))))))))))
theorem A4 (P:ar w Φ n):aM w (n+1) (fX 2 [] [some 1,none,none] [none,none,none,none,none,some 0] Ai Φ) (.ref 911):=
 lM (s:=sT 81) (dV:=[]) (by kernel_rfl) (by kernel_rfl) ⟨by kernel_rfl,(by kernel_rfl:(HK w.params).lookup 911=some FP)⟩ (by kernel_rfl) (λZ=>rfl) (λc h=>by obtain⟨a,b,rfl⟩:=vC h;exact⟨λS=>by kernel_rfl,by kernel_rfl,by kernel_rfl,by kernel_rfl⟩) P
def qg:AS:=(gF [.l 2,.l 3,.l 4,.l 5] (aV 0) (aw (bO [ai .Eq (bH aZ (aa (aC 0) ab)) (aI 1),cF (aP (bH bt (aa (ax (aC 0) (aI 0)) (aa (aG 140) ab))))]) (aq (aB true)) (ay (.l 6) (ag 918 (aa (lB 0 (aT 0).qual 0 920 [0,1,2] 717 23) ab)) (aw (ai .Eq (aV 2) (aS "odd")) (aq (eK (bF .Eq (aV 6) (aV 3)) [ti (bF .Eq (bH aZ (aa (aC 0) ab)) (aI 2)) (bF .Eq (ag 918 (aa (lB 1 (aT 1).qual 0 920 [0,1,2] 719 64) ab)) (aV 3))])) (aw (ai .NotEq (aV 6) (aO (ai .Is (aV 1) aN) aN (aU (aa (ax (aV 1) (aI 0)) (aa (bH aZ (aa (ax (aV 1) (aI 1)) ab)) ab))))) (aq (aB false)) (aw (ai .Eq (aV 2) (aS "two")) (aq (aB true)) (gF [.l 7,.l 8] (ag 386 (aa (aC 2) (aa (ax (aC 0) (aI 0)) (aa (aC 1) ab)))) (aw (ai .NotEq (aO (cD [ai .Is (aV 3) aN,ai .GtE (aV 3) (aI 0)]) (aV 7) (ap .Sub (aV 7) (aC 1))) (aO (ai .Is (aV 3) aN) (aI 0) (aV 3))) (aq (aB false)) (aw (ai .Is (aV 4) aN) (aq (bF .Eq (aV 8) (aC 1))) (ay (.l 9) (aO (aP (aV 5)) (aV 8) (ap .Sub (aV 8) (aI 1))) (aq (bF .Eq (aO (ai .GtE (aV 4) (aI 0)) (aV 9) (ap .Sub (aV 9) (aC 1))) (aV 4)))))))))))))
theorem Ev (P:ar w Φ n):aM w (n+1) (fX 5 [] [some 3,some 4,none,none,none,none,none,none,none,none] [some 2,some 1,some 0] qg Φ) (.ref 925):=
 lM (s:=sT 83) (dV:=[]) (by kernel_rfl) (by kernel_rfl) ⟨by kernel_rfl,(by kernel_rfl:(HK w.params).lookup 925=some Gx)⟩ (by kernel_rfl) (λZ=>rfl) (λf h=>by obtain⟨a,b,c,d,e,rfl⟩:=DD h;exact⟨λS=>by kernel_rfl,by kernel_rfl,by kernel_rfl,by kernel_rfl⟩) P
def sw:AS:=(aw (ai .Eq (ax (aV 3) (aI 0)) (aS "odd")) (aq (eK (bH bt (aa (aV 0) (aa (mH 2) ab))) [bH bt (aa (aV 1) (aa (mH 2) ab)),bF .Eq (aV 0) (ax (aV 3) (aI 1)),bF .Eq (aV 1) (ax (aV 3) (aI 1))])) (aw (ai .Is (aV 4) aN) (aq (eK (bF .Is (aV 0) aN) [bF .Is (aV 1) aN])) (aw (cD [cF (aP (bH bt (aa (aV 1) (aa (aG 62) ab)))),ai .NotEq (aj (aj (aV 1) 1) 15) (aS "String"),aP (aj (aV 1) 4),ai .In (aj (aV 1) 0) (aV 2)]) (aq (aB false)) (aw (ai .NotEq (aj (aV 1) 6) (kW gQ dw (aS "") (aa (bP (ax (aV 4) (aI 1)) (cB (ax (aC 0) aX))) ab))) (aq (aB false)) (aw (ai .Eq (ax (aV 3) (aI 0)) (aS "one")) (aq (eK (bH bt (aa (aV 0) (aa (aG 62) ab))) [bF .Eq (aj (aV 0) 0) (aj (ax (aC 1) (ax (aV 4) (aI 0))) 0)])) (aw (cD [cF (aP (bH bt (aa (aV 0) (aa (aG 82) ab)))),ai .NotEq (aj (aj (aV 0) 1) 15) (aS "Array"),aP (aj (aV 0) 4),ai .In (aj (aV 0) 0) (aV 2)]) (aq (aB false)) (aq (bF .Eq (bP (aj (aV 0) 7) (cB (aj aX 0))) (bP (ax (aV 4) (aI 1)) (cB (aj (ax (aC 1) aX) 0)))))))))))
theorem Ar (P:ar w Φ n):aM w (n+1) (fX 7 [] [some 0,some 1,some 4,some 5,some 6] [some 3,some 2] sw Φ) (.ref 930):=
 lM (s:=sT 84) (dV:=[]) (by kernel_rfl) (by kernel_rfl) ⟨by kernel_rfl,(by kernel_rfl:(HK w.params).lookup 930=some G1)⟩ (by kernel_rfl) (λZ=>rfl) (λi h=>by obtain⟨a,b,c,d,e,f,g,rfl⟩:=Jj h;exact⟨λS=>by kernel_rfl,by kernel_rfl,by kernel_rfl,by kernel_rfl⟩) P
def Gn:AS:=(gF [.c 3,.c 2] (aU (aa (bH dG (aa (aj (aC 6) 7) ab)) (aa (aj (aC 5) 6) ab))) (ay (.l 3) (sY (bK (aa (aj (aC 6) 0) (aa (aj (aC 5) 0) ab))) (bP (aC 3) (cB (aj aX 0)))) (ay (.c 0) (aO (aP (aV 2)) (bK (aa (aG 461) (aa (aG 517) ab))) (bK (aa (aG 454) (aa (aG 510) ab)))) (cT [.l 4,.l 5] (aU (aa (ag 918 (aa (lB 2 (aT 2).qual 1 932 [4,6,0,7] 750 0) ab)) (aa (ag 918 (aa (lB 3 (aT 3).qual 1 932 [4,0,5,7] 751 0) ab)) ab))) (aw (cF (aP (ag 930 (aa (aV 4) (aa (aV 5) (aa (aC 3) (aa (aC 2) (aa (aV 3) (aa (aV 0) (aa (aV 1) ab)))))))))) (aq (aB false)) (ay (.c 1) (aO (bO [aP (aV 2),ai .IsNot (aV 1) aN]) (ax (aV 1) (aI 1)) (bK ab)) (lu (Tg.put (.l 6)) (bH bD (aa (bH aZ (aa (aC 2) ab)) ab)) (pK (ai .NotIn aX (aC 1)) aX) (aw (ai .NotEq (bP (aj (aC 6) 7) (cB (aj aX 0))) (bP (aV 6) (cB (aj (ax (aC 3) aX) 0)))) (aq (aB false)) (aq (bF .Eq (aj (aC 5) 6) (kW gQ dw (aS "") (aa (bP (aV 6) (cB (ax (aC 2) aX))) ab))))))))))))
theorem A8 (P:ar w Φ n):aM w (n+1) (fX 7 [] [some 4,some 5,some 6,none,none,none,none] [none,none,none,none,some 3,some 2,some 1,some 0] Gn Φ) (.ref 935):=
 lM (s:=sT 85) (dV:=[]) (by kernel_rfl) (by kernel_rfl) ⟨by kernel_rfl,(by kernel_rfl:(HK w.params).lookup 935=some Be)⟩ (by kernel_rfl) (λZ=>rfl) (λi h=>by obtain⟨a,b,c,d,e,f,g,rfl⟩:=Jj h;exact⟨λS=>by kernel_rfl,by kernel_rfl,by kernel_rfl,by kernel_rfl⟩) P
def xI:AS:=(gF [.c 0,.l 1] (aU (aa (ag 859 (aa (aV 0) ab)) (aa (eF 834 573 (aa gZ ab)) ab))) (ay (.l 2) (aO (aP (ax (aC 0) (aI 3))) (aS "abc") (kW gQ dw (aS "") (aa (bP (bH bD (aa (ag 866 (aa (aC 0) (aa (aI 13) ab))) ab)) (cB (ax (ag 852 ab) (ag 866 (aa (aC 0) (aa (aI 5) ab)))))) ab))) (gF [.l 3,.l 4] (ag 871 (aa (aV 1) (aa (aC 0) (aa (aV 2) ab)))) (ay (.l 5) (bH aZ (aa (aV 2) ab)) (mj (bH bD (aa (aO (aP (ax (aC 0) (aI 3))) (aI 6) (ap .Add (aI 6) (ap .Mult (aI 3) (bH fi (aa (aI 6) (aa (bH aZ (aa (aV 0) ab)) ab)))))) ab)) (Tg.put (.l 6)) (gF [.l 7,.l 8] (ag 899 (aa (aV 1) (aa (aC 0) (aa (aV 5) (aa (aV 6) ab))))) (ay (.l 9) (ag 911 (aa (aV 5) (aa (aV 8) ab))) (aw (cF (aP (ag 925 (aa (aV 1) (aa (aV 5) (aa (aV 7) (aa (aV 8) (aa (aV 9) ab)))))))) (aq (aB false)) (aw (cF (aP (ag 935 (aa (aV 1) (aa (aV 3) (aa (aV 4) (aa (aV 7) (aa (aV 8) (aa (aV 9) (aa (aB false) ab)))))))))) (aq (aB false)) (aw (cF (aP (ag 935 (aa (aV 1) (aa (am (aV 1) 51 (aa (aj (aV 3) 7) ab)) (aa (am (aV 1) 6 (aa (aV 2) ab)) (aa (aV 7) (aa (aV 8) (aa (aV 9) (aa (aB true) ab)))))))))) (aq (aB false)) aF))))) (aq (bF .Eq (bP (aj (aV 3) 7) (cB (aj aX 6))) (bH dG (aa (aV 2) ab)))))))))
theorem F5 (P:ar w Φ n):aM w (n+1) (fX 1 [] [some 0,none,none,none,none,none,none,none,none,none] [none] xI Φ) (.ref 940):=
 lM (s:=sT 86) (dV:=[]) (by kernel_rfl) (by kernel_rfl) ⟨by kernel_rfl,(by kernel_rfl:(HK w.params).lookup 940=some DZ)⟩ (by kernel_rfl) (λZ=>rfl) (λb h=>by obtain⟨a,rfl⟩:=sq h;exact⟨λS=>by kernel_rfl,by kernel_rfl,by kernel_rfl,by kernel_rfl⟩) P
abbrev qh:=(Nat->eL)->List SV->Sg->KV->KX->Prop
def V2 (a b:qh):qh:=λΦ args σ K KE=>a Φ args σ K KE∨b Φ args σ K KE
theorem AA {f:Value} {a b:qh} (ha:aM w n (a Φ) f) (hb:aM w n (b Φ) f):aM w n (V2 a b Φ) f:=λq Q h t g p X l c e K o k C R j m i d=>m.elim (λm=>ha q Q h t g p X l c e K o k C R j m i d) λm=>hb q Q h t g p X l c e K o k C R j m i d
noncomputable def gq:List (Nat×qh)->Nat->qh
 |[],_=>λZ Z Z Z Z=>False
 |p::r,f=>match Nat.beq p.1 f with
  |true=>p.2
  |false=>gq r f
theorem iR {P:Nat->qh->Prop} (h0:∀f,P f λZ Z Z Z Z=>False):∀{l:List (Nat×qh)} {f:Nat},(∀p∈l,P p.1 p.2)->P f (gq l f)
 |[],f,_=>h0 f
 |p::r,f,h=>by
  unfold gq;cases e:Nat.beq p.1 f with
  |true=>rw[←W9 e];exact h p (.head _)
  |false=>exact iR h0 λq a=>h q (.tail _ a)
def mL0:AE:=ag 393 (aa (aC 2) (aa (aC 0) (aa (aC 1) ab)))
def mL1:AE:=ag 386 (aa (aC 2) (aa (ax (aC 0) (aI 0)) (aa (aC 1) ab)))
def mL2:AE:=jG (ax (aC 2) (aI 0)) (aa (aC 3) (aa (aC 1) (aa (aC 0) ab)))
def mL3:AE:=jG (ax (aC 1) (aI 1)) (aa (aC 3) (aa (aC 2) (aa (aC 0) ab)))
theorem uE {j:Nat} {m:AE} (he:∀cd,dE (oK j cd) (aT j).body=some m) (hc:(iV (aT j).scope&&((aT j).scope.kind== .function&&(aT j).cn.all λy=>(aT j).scope.names.lookup y==some .free&& !(y==("__classdict__":Str))))=true)
  (hb:∀clos pm c' ctv,bindArgs (kla_fn "<lambda>" (aT j).qual (aT j).params (aT j).body (aT j).scope clos pm (.ref c') ctv) ⟨[],[]⟩=pure []) (P:ar w Φ n):jm w (n+1) (mX j m Φ):=
 AK P ((WU _ _).mp hc).1 ((WU _ _).mp hc).2 hb λcd=>m9 _ _ _ (he cd)
noncomputable def xz:List (Nat×qh):=[(10000,mX 0 mL0),(10001,mX 1 mL1),(10002,mX 2 mL2),(10003,mX 3 mL3)]
noncomputable def xe:List (Nat×qh):=[
 (37,bo 3 [] 0 m37),
 (59,bo 4 [] 0 m59),
 (79,bo 4 [] 0 m79),
 (98,bo 3 [] 0 m98),
 (105,bo 3 [] 2 EE),
 (137,bo 6 [] 0 Bu),
 (178,bo 4 [] 0 Fi),
 (218,V2 (bo 5 [.none,.none] 0 kh) (bo 7 [] 0 kh)),
 (225,bo 1 [] 0 zN),
 (237,bo 1 [] 0 wH),
 (244,bo 1 [] 0 qd),
 (251,bo 2 [] 1 Dm),
 (264,fX 1 [.int 12,.none] [some 0,none,none] [some 2,some 1] Gm),
 (297,bo 1 [] 3 BZ),
 (358,bo 1 [.int 6,.none] 1 zZ),
 (365,bo 2 [] 0 Gl),
 (372,bo 2 [] 0 wW),
 (379,bo 2 [] 0 Ds),
 (386,bo 3 [] 2 vw),
 (393,bo 3 [] 3 uo),
 (400,bo 3 [] 1 u9),
 (415,bo 2 [] 0 Au),
 (435,bo 2 [] 0 Do),
 (447,bo 3 [] 1 u7),
 (454,bo 3 [] 1 rG),
 (461,bo 3 [] 2 qT),
 (468,bo 3 [] 1 xH),
 (475,bo 2 [] 1 we),
 (482,bo 2 [] 0 BN),
 (489,bo 3 [] 1 En),
 (496,bo 3 [] 4 uK),
 (503,bo 3 [] 2 xp),
 (510,bo 3 [] 1 xC),
 (517,bo 3 [] 2 wF),
 (573,bo 2 [.none,.none,.int 20000] 1 Fm),
 (594,bo 1 [] 0 CY),
 (615,bo 2 [] 1 v6),
 (620,fX 2 [] [some 1,none,none,none] [some 0] vQ),
 (627,bo 2 [] 0 Gy),
 (635,bo 4 [.none,.none] 3 Gg),
 (642,bo 2 [] 0 r6),
 (663,bo 2 [] 0 CT),
 (677,bo 2 [] 0 Dy),
 (684,bo 2 [] 0 Gc),
 (691,bo 2 [] 3 DG),
 (698,bo 2 [] 1 C5),
 (705,bo 4 [] 2 qj),
 (719,bo 2 [] 2 wn),
 (761,bo 3 [] 0 DF),
 (768,bo 3 [] 0 Gj),
 (845,bo 0 [] 0 D1),
 (852,bo 0 [] 0 F2),
 (859,bo 1 [] 4 GT),
 (866,bo 2 [] 2 FD),
 (871,fX 3 [] [some 1,some 2,none,none,none] [some 0] vW),
 (878,bo 3 [] 1 GV),
 (885,bo 2 [] 0 wP),
 (892,bo 3 [] 6 vz),
 (899,bo 4 [] 5 G0),
 (906,bo 4 [] 1 Ba),
 (911,fX 2 [] [some 1,none,none] [none,none,none,none,none,some 0] Ai),
 (918,mY),
 (925,fX 5 [] [some 3,some 4,none,none,none,none,none,none,none,none] [some 2,some 1,some 0] qg),
 (930,fX 7 [] [some 0,some 1,some 4,some 5,some 6] [some 3,some 2] sw),
 (935,fX 7 [] [some 4,some 5,some 6,none,none,none,none] [none,none,none,none,some 3,some 2,some 1,some 0] Gn),
 (940,fX 1 [] [some 0,none,none,none,none,none,none,none,none,none] [none] xI)]
theorem forall_nil {α:Type} {P:α->Prop}:∀x∈([]:List α),P x:=λx a=>nomatch a
def zK (w:World) (f:Nat) (φ:qh):Prop:=∀{n Φ},ar w Φ n->aM w (n+1) (φ Φ) (.ref f)
def sV (w:World) (f:Nat) (φ:qh):Prop:=∀{n Φ},ar w Φ n->jm w (n+1) (φ Φ)
theorem vE:∀p∈xz,sV w p.1 p.2:=
 forall_cons (λP=>uE (λcd=>by kernel_rfl) (by kernel_rfl) (λZ Z Z Z=>by kernel_rfl) P) (forall_cons (λP=>uE (λcd=>by kernel_rfl) (by kernel_rfl) (λZ Z Z Z=>by kernel_rfl) P) (forall_cons (λP=>uE (λcd=>by kernel_rfl) (by kernel_rfl) (λZ Z Z Z=>by kernel_rfl) P) (forall_cons (λP=>uE (λcd=>by kernel_rfl) (by kernel_rfl) (λZ Z Z Z=>by kernel_rfl) P) forall_nil)))
theorem vx:∀p∈xe,zK w p.1 p.2:=
 forall_cons (λP=>N5 P)<|forall_cons (λP=>IZ P)<|forall_cons (λP=>Q6 P)<|forall_cons (λP=>SA P)<|forall_cons (λP=>Dn P)<|forall_cons (λP=>Ag P)<|forall_cons (λP=>z6 P)<|forall_cons (λP=>AA (C0 P) (xJ P))<|forall_cons (λP=>C8 P)<|forall_cons (λP=>Fn P)<|forall_cons (λP=>AZ P)<|forall_cons (λP=>A7 P)<|forall_cons (λP=>Gs P)<|forall_cons (λP=>BR P)<|forall_cons (λP=>Gk P)<|forall_cons (λP=>CA P)<|forall_cons (λP=>Gp P)<|forall_cons (λP=>ED P)<|forall_cons (λP=>EL P)<|forall_cons (λP=>Fd P)<|forall_cons (λP=>GD P)<|forall_cons (λP=>C1 P)<|forall_cons (λP=>Ew P)<|forall_cons (λP=>Ee P)<|forall_cons (λP=>Hh P)<|forall_cons (λP=>AC P)<|forall_cons (λP=>Df P)<|forall_cons (λP=>Ff P)<|forall_cons (λP=>Ah P)<|forall_cons (λP=>zX P)<|forall_cons (λP=>EI P)<|forall_cons (λP=>F7 P)<|forall_cons (λP=>zR P)<|forall_cons (λP=>Fw P)<|forall_cons (λP=>D7 P)<|forall_cons (λP=>Dh P)<|forall_cons (λP=>AV P)<|forall_cons (λP=>D0 P)<|forall_cons (λP=>GQ P)<|forall_cons (λP=>Ac P)<|forall_cons (λP=>BC P)<|forall_cons (λP=>CS P)<|forall_cons (λP=>GE P)<|forall_cons (λP=>G5 P)<|forall_cons (λP=>Cv P)<|forall_cons (λP=>Ct P)<|forall_cons (λP=>Bd P)<|forall_cons (λP=>Fz P)<|forall_cons (λP=>FS P)<|forall_cons (λP=>FT P)<|forall_cons (λP=>C4 P)<|forall_cons (λP=>GL P)<|forall_cons (λP=>Dc P)<|forall_cons (λP=>EY P)<|forall_cons (λP=>Ab P)<|forall_cons (λP=>zY P)<|forall_cons (λP=>CD P)<|forall_cons (λP=>EQ P)<|forall_cons (λP=>z8 P)<|forall_cons (λP=>Dx P)<|forall_cons (λP=>A4 P)<|forall_cons (λP=>GW P)<|forall_cons (λP=>Ev P)<|forall_cons (λP=>Ar P)<|forall_cons (λP=>A8 P)<|forall_cons (λP=>F5 P)<|forall_nil
def F (Φ:Nat->eL):eL:=λf=>match Nat.blt f 10000 with
 |true=>gq xe f Φ
 |false=>gq xz f Φ
theorem Xcg (n:Nat) (Φ:Nat->eL) (P:ar w Φ n):(∀f,Nat.blt f 10000=true->aM w (n+1) (F Φ f) (.ref f))∧∀j,jm w (n+1) (F Φ (10000+j)):=by
 refine⟨λf c=>?_,λj=>?_⟩
 ·unfold F
  rw[c];exact iR (P:=zK w) (λf {n Φ} Z q Q h t b e X l a g K d Z Z Z Z m=>m.elim) vx P
 ·unfold F
  rw[show Nat.blt (10000+j) 10000=false from by
   cases h:Nat.blt (10000+j) 10000 with
   |false=>rfl
   |true=>rw[YW]at h;omega]
  exact iR (P:=sV w) (λf {n Φ} Z q Q h t b e X l k V K d Z Z Z Z m=>m.elim) (f:=10000+j) vE P
@[irreducible] noncomputable def Ph (n:Nat):Nat->eL:=vA F n
theorem Qo (n:Nat):ar w (Ph n) n:=by
 unfold Ph;exact FJ Xcg n
noncomputable def Fo (a:Addr):Tb:=λk=>if k=0 then some (920,920)else if k=1 then some (932,932)else if k=2 then some (a,a)else none
noncomputable def Ay (xs:List SV) (vs:List Value) (k:Nat):Option SO:=if k=0 then some (.ctab 920 [])else if k=1 then some (.ctab 932 [])else if k=2 then some (.raw xs vs)else none
noncomputable def sg0 (xs:List SV) (vs:List Value):Sg:=⟨Ay xs vs,3,λk o h=>by
 unfold Ay at h;by_cases h0:k=0
 ·exact Z68 h0
 ·by_cases h1:k=1
  ·exact Z68 h1
  ·by_cases h2:k=2
   ·exact Z68 h2
   ·rw[Xh h0,Xh h1,Xh h2]at h;exact cX h⟩
variable {a:Addr}
theorem uY {p:Addr×Addr} (h:Fo a k=some p):(k=0∧p=(920,920))∨(k=1∧p=(932,932))∨(k=2∧p=(a,a)):=by
 unfold Fo at h;by_cases h0:k=0
 ·rw[Xn h0]at h;exact .inl ⟨h0,(W7 h).symm⟩
 ·by_cases h1:k=1
  ·rw[Xh h0,Xn h1]at h;exact .inr (.inl ⟨h1,(W7 h).symm⟩)
  ·by_cases h2:k=2
   ·rw[Xh h0,Xh h1,Xn h2]at h;exact .inr (.inr ⟨h2,(W7 h).symm⟩)
   ·rw[Xh h0,Xh h1,Xh h2]at h;exact cX h
theorem Xcr {xs:List SV} {vs:List Value} (r:bZ (Fo a) xs vs) (h1:a≠920) (h2:a≠932):aA w (Fo a) (sg0 xs vs) ⟨[],[]⟩ [(920,tabObj #[]),(932,tabObj #[]),(a,aL vs 0)]:=by
 refine⟨λk p h=>?_,λk o h=>?_,λk d p f h c e=>?_,bv 920 (.head _) (λq b=>(nomatch b)),λk p h=>?_,λq b=>(nomatch b),λk o p Z Z q b=>(nomatch b),λk p Z q b=>(nomatch b)⟩
 ·show k<3;rcases uY h with⟨rfl,_⟩|⟨rfl,_⟩|⟨rfl,_⟩<;>decide
 ·have h:Ay xs vs k=some o:=h
  unfold Ay at h;by_cases h0:k=0
  ·subst h0;obtain rfl:=jS h
   exact⟨920,920,rfl,rfl,#[],.head _,rfl⟩
  ·by_cases h1:k=1
   ·subst h1;obtain rfl:=jS h
    exact⟨932,932,rfl,rfl,#[],.tail _ (.head _),rfl⟩
   ·by_cases h2:k=2
    ·subst h2;obtain rfl:=jS h
     exact⟨a,a,rfl,.tail _ (.tail _ (.head _)),r⟩
    ·rw[Xh h0,Xh h1,Xh h2]at h;exact cX h
 ·rcases uY h with⟨rfl,rfl⟩|⟨rfl,rfl⟩|⟨rfl,rfl⟩<;>rcases uY c with⟨rfl,rfl⟩|⟨rfl,rfl⟩|⟨rfl,rfl⟩<;>first|exact absurd rfl e|exact(gc (by decide) (by decide) (by decide) (by decide))|exact(gc h1 h1 h1 h1)|exact(gc h2 h2 h2 h2)|exact(gc h1.symm h1.symm h1.symm h1.symm)|exact(gc h2.symm h2.symm h2.symm h2.symm)
 ·rcases uY h with⟨_,rfl⟩|⟨_,rfl⟩|⟨_,rfl⟩
  ·exact⟨.head _,.head _⟩
  ·exact⟨.tail _ (.head _),.tail _ (.head _)⟩
  ·exact⟨.tail _ (.tail _ (.head _)),.tail _ (.tail _ (.head _))⟩
variable {h:Heap} {vs:List Value} {p:Program} {loose:List Str} {mean:ExcName->Option Value} {mg mb:Str->Option Value} {b:Addr}
theorem mf {o:Obj} (e:h.get? a=some (aL vs 0)) (hb:h.get? b=some o) (hn:o.cls≠ .type "list"):(hideAll h [a]).get? b=some o:=YI _ hb λm=>by
 rw[XA.mp m,e]at hb;obtain rfl:=jS hb;exact hn rfl
theorem hQ {m:Str->Option Value} (e:h.get? a=some (aL vs 0)) (x:h.Ns b m):(hideAll h [a]).Ns b m:=
 let ⟨o,es,ep,e2,hd,r⟩:=x;(mQ o es ep (YI _ e2 (λm=>by rw[XA.mp m,e]at e2;obtain rfl:=jS e2;cases hd)) hd r)
theorem BP {K:Frag} (e:h.get? a=some (aL vs 0)) (X:K.In h) (hK:(K.all λp=> !(p.2.cls== .type "list"))=true):K.In (hideAll h [a]):=λb o q=>mf e (X b o q) λz=>by
 have c:=WZ.mp hK (b,o) (mem_of_lookupK q);rw[show(o.cls==Value.type "list")=true from by rw[z];rfl]at c;exact cp c
theorem tF (e:h.get? a=some (aL vs 0)) (T:Top topProg loose mean mg mb h):Top topProg loose mean mg mb (hideAll h [a]) where
 g:=hQ e T.g
 b:=hQ e T.b
 nolimit:=let ⟨mc,x,r⟩:=T.nolimit;⟨mc,hQ e x,r⟩
 nodigits:=let ⟨mc,x,r⟩:=T.nodigits;⟨mc,hQ e x,r⟩
 fn:=λd c=>absurd (show d∈([]:List DefRec) from c) Y1
 own:=λo f=>absurd (show o∈([]:List OwnSpec) from f) Y1
 const:=λx d e=>by cases(show(none:Option PyData)=some d from e)
 free:=T.free
 builtins:=T.builtins
 tab:=λd c=>absurd (show d∈([]:List DefRec) from c) Y1
 bmain:=let ⟨bm,ob,a1,a2,a3,a4,r⟩:=T.bmain;(I25 bm ob a1 a2 (mf e a3 (λq=>by rw[q]at a4;revert a4;decide)) a4 r)
 seer:=λe=>absurd (show false=true from e) XE
variable {cl:Str->Option Addr}
theorem tS {τ:Tb} {R:WRecords} {is:List Int}:∀{vs:List Value} {as:List Addr},ReadsAllW R cl h vs (is.map WData.int) as->bZ τ (is.map SV.int) vs:=by
 induction is with
 |nil=>intro vs as r;cases r;exact rfl
 |cons i is ih=>
  intro vs as r;cases r with
  |cons r1 r2=>cases r1;exact⟨_,_,rfl,⟨_,rfl⟩,ih r2⟩
theorem lC (e:h.get? b=none):(hideAll h [a]).get? b=none:=by
 cases q:(hideAll h [a]).get? b with
 |none=>rfl
 |some o=>rw[of_hideAll _ q]at e;exact zG e
theorem vH {is:List Int} (h:WTm.holds PySem.Challenge.rw_sm0031_01.row.toRowW.records PySem.Challenge.rw_sm0031_01.row.toRowW.pre {args:=[.list (is.map WData.int)]}=true):is.length≤63:=by
 have h:WTm.holds [] (((WTm.lit (WData.int (Int.ofNat 63))).lt (WTm.arg 0).len).not.and (WTm.lit (WData.bool true))) {args:=[.list (is.map WData.int)]}=true:=h;exact Nat.ge_of_not_lt λz=>by
  have h:WTm.holds [] ((WTm.lit (.bool (decide ((63:Int)<((is.map WData.int).length:Int))))).not.and (.lit (.bool true))) {args:=[]}=true:=h;rw[Xx (p:=(63:Int)<((is.map WData.int).length:Int)) (by rw[W0];exact YY.mpr z)]at h;exact cp h
end
structure Rw (xs:List SV) (vs:List Value) (v:SV) (σ:Sg):Prop where
 v:v=.bool true
 t0:∃es,σ.ob 0=some (.ctab 920 es)
 t1:∃es,σ.ob 1=some (.ctab 932 es)
 s:σ.ob 2=some (.raw xs vs)
inductive JA (h:Heap) (args:List WData) (vals:List Value):Prop
 |mk (is:List Int) (vs:List Value) (a:Addr) (hn:is.length≤63) (e1:args=[.list (is.map WData.int)]) (e2:vals=[.ref a]) (ea:h.get? a=some (aL vs 0)) (rv:∀τ,bZ τ (is.map SV.int) vs):JA h args vals
theorem IM {h:Heap} {args:List WData} {vals:List Value} {as:List Addr} {P:Params} {cl:Str->Option Addr} (hsp:WShape.hasAll PySem.Challenge.rw_sm0031_01.row.toRowW.records args PySem.Challenge.rw_sm0031_01.row.toRowW.args=true∧WTm.holds PySem.Challenge.rw_sm0031_01.row.toRowW.records PySem.Challenge.rw_sm0031_01.row.toRowW.pre {args:=args}=true)
  (hrd:ReadsAllW PySem.Challenge.rw_sm0031_01.row.toRowW.records cl h vals args as) (hwl:WellAll P h vals args):JA h args vals:=by
 refine jC (hasAllW_cons (R:=PySem.Challenge.rw_sm0031_01.row.toRowW.records) (e:=.list .int) (es:=[]) hsp.1) λj r b f i=>?_;obtain rfl:=b;cases hasAllW_nil i;refine bn (hasW_list f) λk c g=>?_;obtain rfl:=c;obtain⟨d,rfl⟩:=items_int g;cases hwl with
 |cons w1 w2=>
 cases w2;cases w1 with
 | @list a vs _ ea wl=>
 cases hrd with
 | @cons _ _ _ _ _ _ r1 r2=>
 cases r2;cases r1 with
 |list e2 _ ed r3=>
 rw[ea]at e2;obtain rfl:=jS e2;cases ed;exact⟨d,vs,a,(vH hsp.2:d.length≤63),rfl,rfl,ea,λl=>tS r3⟩
def JQ (h:Heap) (V:Value) (h':Heap) (t':Nat):Prop:=V=.bool true∧(∀b o,(ghostOf h [(924,920),(934,932)]).get? b=some o->h'.get? b=some o)∧GrownAll [(924,920),(934,932)] h'
theorem rJ {w:World} {q:Cf w} {h:Heap} {a:Addr} {xs:List SV} {vs:List Value} (hg:q.g=hideAll (ghostOf h [(924,920),(934,932)]) [a]) (ho:q.outer=[]) (eg:(ghostOf h [(924,920),(934,932)]).get? a=some (aL vs 0)) (v:SV) (σ':Sg) (τ':Tb) (V:Value) (h':Heap) (t':Nat) (g1:Heap) (l':bu) (le:(Fo a).le τ') (rv':RV τ' v V) (kt:KtsTurn (eA q.outer) q.g g1) (ex:Ex g1 l' h') (R:aA w τ' σ' ⟨[],[]⟩ l') (k:Rw xs vs v σ'):JQ h V h' t':=by
 obtain⟨rfl,⟨es0,k0⟩,⟨es1,k1⟩,k2⟩:=k;cases rv';have n:τ' 0=some (920,920):=le _ _ rfl;have p:τ' 1=some (932,932):=le _ _ rfl;have o:τ' 2=some (a,a):=le _ _ rfl;obtain⟨_,_,z0,_,d,r,_⟩:=R.ob _ _ k0;cases n.symm.trans z0;obtain⟨_,_,j,_,e,f,_⟩:=R.ob _ _ k1;cases p.symm.trans j;obtain⟨_,_,g,l,_⟩:=R.ob _ _ k2;cases o.symm.trans g;refine(I05 rfl (λb i c=>?_) ⟨d,(ex.led _ r).1⟩ ⟨e,(ex.led _ f).1⟩ trivial);by_cases z:b=a
 ·subst z
  rw[eg]at c;obtain rfl:=jS c;exact(ex.led _ l).1
 ·exact ex.st _ _ (kt.other b i (hg▸YI _ c λm=>z (XA.mp m)) (by rw[ho];exactλm=>nomatch m))
theorem Xfp (hl:∀(is:List Int) (vs:List Value),is.length≤63->Ph 500 0 940 [.ref 2] (sg0 (is.map SV.int) vs) (Rw (is.map SV.int) vs) (λZ Z=>False)):PySem.Challenge.rw_sm0031_01.Holds:=by
 refine head λd hd=>?_;intro w J c mg mb G Y R o pm cd S dV kV ho P W hD j L E K as l H s p U;have KX:=km_in_of Y;have f:=km_tabs_of Y;refine Ground.open G ?_;intro T B D TE TW;have X:d.name="law":=defOf_name hd;have i:TabsAt [(924,920),(934,932)] c.heap:=YB.mpr ⟨⟨jN (.inl rfl) _ KX,f 920 (.tail _ (.head _))⟩,YB.mpr ⟨⟨jN (.inr rfl) _ KX,f 932 (.head _)⟩,λZ h=>nomatch h⟩⟩;obtain⟨is,vs,a,n,rfl,rfl,ea,r3⟩:=IM (pre_splitW l) s p;have V:R=940:=by
  have z:=mg_of KX T.g (eW (by kernel_rfl:jd (nsIn (HK w.params) mainGlobals "law") 940=true));rw[X,z]at j;cases j;rfl
 subst V;have I:a≠920:=λz=>by rw[z,f 920 (.tail _ (.head _))]at ea;cases ea
 have F:a≠932:=λz=>by rw[z,f 932 (.head _)]at ea;cases ea
 have A:=ghost_get i ea (λz=>by cases z);refine enter_call (kn_post i (λZ Z=>rfl) ?_)
 let g:Heap:=hideAll (ghostOf c.heap [(924,920),(934,932)]) [a]
 have Q:g.StaysIn c.heap:=λb o e=>of_hideAll _ (of_hideAll _ e);have M:(HK w.params).In g:=BP A (ghost_K i KX (by kernel_rfl)) (by kernel_rfl);have O:=tF A (ghost_top i T);have C:=(Qo (w:=w) 500).ok 0 (Nat.zero_le _) 940 rfl ⟨_,_,_,_,_,callerA,g,[],g,c.gens,c.drawn,c.os,"",0,0,.none,[],callerA,λZ Z=>False⟩
  (JQ c.heap) c.heap c.toks (Fo a) (sg0 (is.map SV.int) vs) ⟨[],[]⟩ _ [.ref 2] [.ref a] _ _
  (show db callerA 500 from⟨by decide,by decide,rfl⟩) ⟨M,O,below_caller _,Q,(by rw[show g.objs.size=_ from hideAll_size _ _,hideAll_size];exact Xy _:g.objs.size≤c.heap.objs.size),(YB.mpr ⟨⟨f 920 (.tail _ (.head _)),lC (ZN _ (.head _))⟩,YB.mpr ⟨⟨f 932 (.head _),lC (ZN _ (.tail _ (.head _)))⟩,YB.mpr ⟨⟨ea,ZN _ (.head _)⟩,λZ h=>nomatch h⟩⟩⟩:∀q∈[(920,tabObj #[]),(932,tabObj #[]),(a,aL vs 0)],c.heap.get? q.1=some q.2∧g.get? q.1=none),⟨by
   simp only[W4,ZS,W2,WY,Y1,or_false,not_or,not_false_eq_true,Z0,and_true];exact⟨⟨by decide,I.symm⟩,F.symm⟩⟩⟩ (Xcr (r3 _:bZ (Fo a) (is.map SV.int) vs) I F) ⟨_,_,rfl,⟨a,a,rfl,rfl⟩,rfl⟩ (hl is vs n) (λk σ τ e h t Z m Z=>m.elim) (rJ rfl rfl A)
 refine YZ C λr s' y=>?_
 ·rcases r with e|(_|_|_|v)
  ·exact y.elim
  ·exact y.elim
  ·exact y.elim
  ·exact y.elim
  ·refine ux y λh' t' x u k1 N=>?_;obtain rfl:=x;obtain rfl:=u
   exact⟨gc (.inl (I35 _ (.bool true) ([]) rfl (λZ=>rfl) (.bool true) (by kernel_rfl) (λZ=>⟨Z0,λZ h=>nomatch h⟩))) k1 rfl L,N⟩
section
variable {σ:Sg} {k:Nat} {v:SV} {K:SV->Prop} {xs:List SV} {j:Int} {o:SO}
theorem ao {K:SO->Prop} (h:σ.ob k=some o) (q:K o):bN σ k K:=⟨o,h,q⟩
variable {C:Nat} {f:List (Nat×SV)} {a:Nat}
theorem g_ (h:σ.ob k=some (.inst C f)) (hr:qo C a=true) (hl:f.lookup a=some v) (q:K v):DK σ (.ref k) a K:=⟨_,h,hr,v,hl,q⟩
variable {KE:KX}
theorem c_ {i:Nat} {Φ:Nat->eL} {fr:cf} {K:KV} (h1:fr.cel[i]?=some k) (h:σ.ob k=some (.cell (some v))) (q:K v σ):aC i Φ fr σ K KE:=by
 unfold aC;exact⟨k,h1,_,h,v,rfl,q⟩
noncomputable def idx (o:SO) (j:Int):Option SV:=cond (decide (0≤j)&&decide (j<1000000)) (match o with
 |.list xs=>xs[j.toNat]?
 |.raw xs _=>xs[j.toNat]?
 |.tup xs=>xs[j.toNat]?
 |_=>none) none
theorem i_ (h:σ.ob k=some o) (hi:idx o j=some v) (q:K v):wN σ (.ref k) (.int j) K:=by
 refine⟨_,h,?_⟩;unfold idx at hi;cases e:decide (0≤j)&&decide (j<1000000)with
 |false=>rw[e]at hi;exact cX hi
 |true=>
  rw[e]at hi;obtain⟨b,c⟩:=(WU _ _).mp e;have b:=W5 b;have c:=W5 c;have L:∀a:List SV,a[j.toNat]?=some v->bI (decide (j<0)) ((-(a.length:Int)≤j∧-1000000≤j)∧bX (a[(j+a.length).toNat]?) K) (itm a j K):=λa d=>by
   rw[(Xo (hO b):decide (j<0)=false)];exact⟨⟨b,c⟩,v,d,q⟩
  cases o with
  |list a=>exact L a hi
  |raw a vs=>exact L a hi
  |tup a=>exact⟨⟨b,c⟩,v,hi,q⟩
  |_=>exact cX hi
variable {n:Nat}
theorem t_ {K:List SV->Prop} (h:σ.ob k=some (.tup xs)) (hn:Nat.beq xs.length n=true) (q:K xs):jD σ (.ref k) n K:=⟨_,h,hn,q⟩
theorem bQ {K:Bool->Prop} (h:Nat.ble (kd v) 4=true) (q:K (Nat.beq (kd v) 0)):gP v .none K:=by
 unfold gP;exact⟨rfl,h,q⟩
theorem lT {K:Sg->Prop} (h:σ.ob k=some (.inst C f)) (hc:(qo C a&&Nat.ble f.length 800)=true) (q:K (σ.set k (.inst C (fU f a v)))):pH σ (.ref k) a v K:=⟨_,h,⟨((WU _ _).mp hc).1,Xv ((WU _ _).mp hc).2⟩,q⟩
theorem gx {s:Nat} {K:Bool->Prop} (hk:Nat.blt (kd v) 4=true) (q:K (Tt v s)):nq σ v s K:=by
 unfold nq;cases v<;>first|exact⟨rfl,q⟩|exact cp hk
theorem uU {s C:Nat} {K:Bool->Prop} (h:σ.ob k=some (.inst C f)) (hc:dR.contains C=true) (q:K false):nq σ (.ref k) s K:=by
 unfold nq;exact⟨_,h,hc,q⟩
theorem O8 {C mc fa:Nat} {K:Nat->Prop} (h:σ.ob k=some (.inst C f)) (h0:f.lookup mc=none) (ht:n4 C mc=some fa) (q:K fa):Dj σ (.ref k) mc K:=⟨_,h,h0,fa,ht,q⟩
theorem uz {C D:Nat} {b:Bool} {K:Bool->Prop} (h:σ.ob k=some (.inst C f)) (hb:IC C D=some b) (q:K b):tE σ (.ref k) D K:=⟨_,h,b,hb,q⟩
variable {f:Nat} {args:List SV} {K:KV}
theorem dh {φ:qh} (e:gq xe f=φ) (hf:Nat.blt f 10000=true) (h:φ (Ph n) args σ K KE):Ph (n+1) 0 f args σ K KE:=by
 have a:Ph (n+1) 0 f args σ K KE=F (Ph n) f args σ K KE:=by
  unfold Ph;rfl
 rw[a];unfold F;rw[hf];subst e;exact h
theorem wz (h:Ph n 0 f args σ K KE):Ph (n+1) 1 f args σ K KE:=by
 have a:Ph (n+1) 1 f args σ K KE=Ph n 0 f args σ K KE:=by
  unfold Ph;rfl
 rw[a];exact h
theorem aK {n f k r:Nat} {d:List SV} {m:AS} (e:gq xe f=bo k d r m) (hf:Nat.blt f 10000=true) (hk:Nat.beq args.length k=true) (q:m (Ph n) ⟨args.map some++(d.map some++List.replicate r none),[],[]⟩ σ (bp K) KE):Ph (n+1) 0 f args σ K KE:=dh e hf ⟨hk,q⟩
end
structure Box (σ:Sg) (b:Nat) (g s c:Int) (e:Bool) (z:Int):Prop where
 h:σ.ob b=some (.list [.int g,.int s,.int c,.bool e,.int z])
 g0:0≤g
 s0:0≤s
 s1:s<2147483629
 c0:0≤c
structure Le (M:Nat->Prop) (σ σ':Sg):Prop where
 nx:σ.nx≤σ'.nx
 ob:∀k,k<σ.nx->¬M k->σ'.ob k=σ.ob k
section
variable {M:Nat->Prop} {σ σ':Sg}
theorem Ea {o:SO} (h:Le M σ σ'):Le M σ (σ'.new o):=⟨Yz h.nx,λk a b=>(d8 (XC (Xi a h.nx))).trans (h.ob k a b)⟩
theorem sI {k:Nat} {o:SO} (h:Le M σ σ') (hm:M k∨σ.nx≤k):Le M σ (σ'.set k o):=⟨h.nx,λj a b=>(au λe=>hm.elim (λz=>b (by rw[e];exact z)) λz=>absurd a (by rw[e];exact YM.mpr z)).trans (h.ob j a b)⟩
theorem td:Le M σ σ:=⟨Xy _,λZ Z Z=>rfl⟩
theorem Vm {n:Nat} {b:Nat} {g s c z m:Int} {e:Bool} {K:KV} {KE:KX} (B:Box σ b g s c e z) (hc:c<100000) (h0:0<m) (h1:m<1000)
  (q:∀r g' c' σ',0≤r->r<m->c'≤c+1->Box σ' b g' s c' e z->Le (·=b) σ σ'->K (.int r) σ'):Ph (n+1) 0 866 [.ref b,.int m] σ K KE:=by
 obtain⟨f,l,p,j,i⟩:=B;refine aK (k:=2) (d:=[]) (r:=2) (m:=FD) rfl rfl rfl ?_;refine i_ f rfl (bW (λu=>?_) (λu=>?_))
 ·refine i_ f rfl ⟨h0,i_ f rfl (eQ ⟨h0,by exact cS h1⟩ (by simp) (t_ ac rfl ?_))⟩
  have a:=ae (o:=.tup [.int (g % m),.int (g / m)]) f;exact ao a ⟨eQ (by decide) (by decide:0<5) (by decide),q _ _ _ _ (YN _ (tQ h0)) (Yw _ h0) (qb) ⟨aE a,Int.ediv_nonneg l (Hc h0),p,j,i⟩ (sI (Ea td) (.inl rfl))⟩
 ·refine i_ f rfl (ao f ⟨eQ (by decide) (by decide:2<5) (by decide),?_⟩)
  have a:=aE (o:=.list [.int g,.int s,.int (c+1),.bool e,.int z]) f;have h:∀r,0≤r->r<m->K (.int r) (σ.set b (.list [.int g,.int s,.int (c+1),.bool e,.int z])):=λr x y=>q r g (c+1) _ x y (ky) ⟨a,l,p,j,by exact XbK i⟩ (sI td (.inl rfl));refine i_ a rfl (rQ (λZ=>?_) λZ=>?_)
  ·refine i_ a rfl ⟨.of_left (by decide),i_ a rfl ⟨.of_right (intBits_le_64 (by lia) (fp hc)),i_ a rfl (gc (.of_left (by decide)) (by decide) h0 ?_)⟩⟩
   exact h _ (YN _ (tQ h0)) (Yw _ h0)
  ·have t:0≤s+15485857*(c+1)+37:=by lia
   refine i_ a rfl (i_ a rfl (gc (.of_left (by decide)) (gc t (by lia) (by decide) (by decide)) (by decide) ?_));have v:0≤(s+15485857*(c+1)+37) ^ (Int.toNat 5) % 2147483647:=YN _ (by decide);have w:(s+15485857*(c+1)+37) ^ (Int.toNat 5) % 2147483647<2147483647:=Yw _ (by decide);generalize (s+15485857*(c+1)+37) ^ (Int.toNat 5) % 2147483647=y at v w;refine⟨.of_right (by decide),i_ a rfl (I06 (.of_left (by decide)) (gc (by lia) (by lia) (by decide) (by decide)) (by decide) ⟨by decide,by decide⟩ h0 ?_)⟩;exact h _ (YN _ (tQ h0)) (Yw _ h0)
end
structure Kp (P:Nat->SO->Prop) (σ σ':Sg):Prop where
 nx:σ.nx≤σ'.nx
 ob:∀k o,σ.ob k=some o->P k o->σ'.ob k=some o
abbrev bC:Sg->Sg->Prop:=Kp λZ Z=>True
abbrev dB (j:Nat):Sg->Sg->Prop:=Kp λk Z=>k≠j
noncomputable def fm (o:SO):Bool:=match o with
 |.inst C _=> !Nat.beq C 834
 |.dic _=>false
 |.dic0=>false
 |.ctab _ _=>false
 |_=>true
abbrev fV:Sg->Sg->Prop:=Kp λZ o=>fm o=true
section
variable {P:Nat->SO->Prop} {σ σ' σ1:Sg} {k j:Nat} {o o':SO}
theorem Kp.refl:Kp P σ σ:=⟨Xy _,λZ Z h Z=>h⟩
theorem Kp.trans (a:Kp P σ σ1) (b:Kp P σ1 σ'):Kp P σ σ':=⟨WX a.nx b.nx,λk o h p=>b.ob k o (a.ob k o h p) p⟩
theorem Kp.new (a:Kp P σ σ'):Kp P σ (σ'.new o):=⟨Yz a.nx,λk o h p=>ae (a.ob k o h p)⟩
theorem Kp.set (a:Kp P σ σ') (h:∀o,σ.ob k=some o->¬P k o):Kp P σ (σ'.set k o'):=⟨a.nx,λj o b p=>by
 by_cases e:j=k
 ·subst e;exact absurd p (h o b)
 ·exact(au e).trans (a.ob j o b p)⟩
theorem Kp.setN (a:Kp P σ σ') (h:σ.nx≤k):Kp P σ (σ'.set k o'):=a.set λo e=>absurd (σ.wf _ _ e) (YM.mpr h)
theorem bC.to (a:bC σ σ'):Kp P σ σ':=⟨a.nx,λk o h Z=>a.ob k o h trivial⟩
theorem nk (a:bC σ σ1) (b:dB k σ1 σ') (h:σ.nx≤k):bC σ σ':=⟨WX a.nx b.nx,λj o c Z=>b.ob j o (a.ob j o c trivial) λe=>absurd (σ.wf _ _ c) (by rw[e];exact YM.mpr h)⟩
theorem bl {a b:Nat} (h:Nat.ble a b=true):a≤b:=Xv h
theorem cx (h:σ.ob k=some o):k≠σ.nx:=XC (σ.wf _ _ h)
noncomputable abbrev thF (i:Int) (ow:SV) (d:Nat) (fz:Bool):List (Nat×SV):=[(0,.int i),(1,ow),(2,.ref d),(3,.none),(4,.bool fz),(5,.none)]
noncomputable abbrev fW (i:Int) (ow:SV) (d:Nat) (fz:Bool) (r:List (Nat×SV)):List (Nat×SV):=(0,.int i)::(1,ow)::(2,.ref d)::(3,.none)::(4,.bool fz)::(5,.none)::r
def eZ (n f C:Nat) (args:List SV) (P:List (Nat×SV)->Prop):Prop:=∀(σ:Sg) (k:Nat) (K:KV) (KE:KX),σ.ob k=some (.inst C [])->(∀f σ',dB k σ σ'->σ'.ob k=some (.inst C f)->P f->K .none σ')->Ph n 0 f (.ref k::args) σ K KE
variable {n:Nat} {i:Int} {ow x y z b:SV} {K:KV} {KE:KX} {C:Nat}
theorem gp {f:Nat} {args:List SV} {P:List (Nat×SV)->Prop} (h:eZ n f C args P) (q:∀f σ',bC σ σ'->σ.nx<σ'.nx->σ'.ob σ.nx=some (.inst C f)->P f->K .none σ'):Ph (n+1) 1 f (.ref σ.nx::args) (σ.new (.inst C [])) K KE:=
 wz<|h (σ.new (.inst C [])) _ _ _ ac λf σ' e h p=>q f σ' (nk Kp.refl.new e (Xy _)) (Xi (XY _) e.nx) h p
theorem ey (hC:([0,1,2,3,4,5].all λa=>qo C a)=true):eZ (n+1) 37 C [.int i,ow] λf=>∃d,f=thF i ow d false:=by
 intro c k K l h q;have r:∀a∈[0,1,2,3,4,5],qo C a=true:=WZ.mp hC;refine aK (k:=3) (d:=[]) (r:=0) (m:=m37) rfl rfl rfl ?_;have b:=ae (o:=.dic0) (aE (o:=.inst C [(0,.int i),(1,ow)]) (aE (o:=.inst C [(0,.int i)]) h));have j:=aE (o:=.inst C [(0,.int i),(1,ow),(2,.ref c.nx)]) b;have g:=aE (o:=.inst C [(0,.int i),(1,ow),(2,.ref c.nx),(3,.none)]) j;have e:=aE (o:=.inst C [(0,.int i),(1,ow),(2,.ref c.nx),(3,.none),(4,.bool false)]) g;exact ao h ⟨⟨r 0 (by decide),bl rfl⟩,ao (aE (o:=.inst C [(0,.int i)]) h) ⟨⟨r 1 (by decide),bl rfl⟩,ao b ⟨⟨r 2 (by decide),bl rfl⟩,ao j ⟨⟨r 3 (by decide),bl rfl⟩,ao g ⟨⟨r 4 (by decide),bl rfl⟩,ao e ⟨⟨r 5 (by decide),bl rfl⟩,q _ _ (((((((Kp.refl.set λZ Z h=>h rfl).set λZ Z h=>h rfl).new).set λZ Z h=>h rfl).set λZ Z h=>h rfl).set λZ Z h=>h rfl).set λZ Z h=>h rfl) (aE e) ⟨_,rfl⟩⟩⟩⟩⟩⟩⟩
theorem sr:eZ (n+2) 59 62 [.int i,ow,x] λf=>∃d,f=fW i ow d false [(6,x)]:=by
 intro g k K c h q;refine aK (k:=4) (d:=[]) (r:=0) (m:=m59) rfl rfl rfl (ey rfl _ _ _ _ h λf b e a ⟨d,p⟩=>?_);subst p;exact lT a rfl (q _ _ (e.set λZ Z h=>h rfl) (aE a) ⟨d,rfl⟩)
theorem te {l:Nat}:eZ (n+2) 79 82 [.int i,ow,.ref l] λf=>∃d,f=fW i ow d false [(7,.ref l)]:=by
 intro g k K c h q;refine aK (k:=4) (d:=[]) (r:=0) (m:=m79) rfl rfl rfl (ey rfl _ _ _ _ h λf b e a ⟨d,p⟩=>?_);subst p;exact bQ rfl (lT a rfl (q _ _ (e.set λZ Z h=>h rfl) (aE a) ⟨d,rfl⟩))
theorem wj:eZ (n+2) 137 140 [.int i,ow,x,y,b] λf=>∃d,f=fW i ow d false [(10,x),(11,y),(12,b)]:=by
 intro s k K l h q;refine aK (k:=6) (d:=[]) (r:=0) (m:=Bu) rfl rfl rfl (ey rfl _ _ _ _ h λf j e c ⟨d,p⟩=>?_);subst p;have g:=aE (o:=.inst 140 (fW i ow d false [(10,x)])) c;have a:=aE (o:=.inst 140 (fW i ow d false [(10,x),(11,y)])) g;exact lT c rfl (lT g rfl (lT a rfl (q _ _ (((e.set λZ Z h=>h rfl).set λZ Z h=>h rfl).set λZ Z h=>h rfl) (aE a) ⟨d,rfl⟩)))
theorem MX:eZ (n+2) 178 181 [.int i,ow,x] λf=>∃d,f=fW i ow d false [(13,x),(14,.none)]:=by
 intro j k K g h q;refine aK (k:=4) (d:=[]) (r:=0) (m:=Fi) rfl rfl rfl (ey rfl _ _ _ _ h λf c e a ⟨d,p⟩=>?_);subst p;have b:=aE (o:=.inst 181 (fW i ow d false [(13,x)])) a;exact lT a rfl (lT b rfl (q _ _ ((e.set λZ Z h=>h rfl).set λZ Z h=>h rfl) (aE b) ⟨d,rfl⟩))
noncomputable abbrev uy (i:Int) (ow:SV) (nm isc pa ou:SV) (d:List Nat) (at' nat:SV):List (Nat×SV):=fW i ow (d.getD 0 0) false [(15,nm),(16,isc),(17,pa),(18,ou),(19,.ref (d.getD 1 0)),(20,.ref (d.getD 2 0)),(21,.ref (d.getD 3 0)),(22,.ref (d.getD 4 0)),(23,at'),(24,nat),(25,.none)]
variable {f:List (Nat×SV)}
theorem sA {a:Nat} {K:Sg->Prop} (e:dB k σ σ') (h:σ'.ob k=some (.inst C f)) (r:(qo C a&&Nat.ble f.length 800)=true) (q:∀σ2,dB k σ σ2->σ2.ob k=some (.inst C (fU f a x))->K σ2):pH σ' (.ref k) a x K:=
 ao h ⟨⟨((WU _ _).mp r).1,bl ((WU _ _).mp r).2⟩,q _ (e.set λZ Z h=>h rfl) (aE h)⟩
variable {nm isc pa ou:SV}
theorem lG {rest:ft} (h:σ.ob k=some (.inst 228 [])) (q:∀f σ' fr,dB k σ σ'->σ'.ob k=some (.inst 228 f)->(∃d,f=uy i ow nm isc pa ou d .none .none)->rest .next fr σ'):
  kh (Ph (n+1)) ⟨[some (.ref k),some (.int i),some ow,some nm,some isc,some pa,some ou],[],[]⟩ σ rest KE:=by
 refine ey rfl _ _ _ _ h λf r e o ⟨d,p⟩=>?_;subst p;refine sA e o rfl λb e h=>sA e h rfl λa e h=>sA e h rfl λc e h=>sA e h rfl λs e h=>?_;refine sA e.new (ae h) rfl λj e h=>sA e.new (ae h) rfl λl e h=>⟨bl rfl,sA e.new (ae h) rfl λg e h=>⟨bl rfl,sA e.new (ae h) rfl λm e h=>?_⟩⟩;exact sA e h rfl λb e h=>sA e h rfl λa e h=>sA e h rfl λc e h=>q _ _ _ e h ⟨[d,_,_,_,_],rfl⟩
theorem Dw:eZ (n+2) 218 228 [.int i,ow,nm,isc] λf=>∃d,f=uy i ow nm isc .none .none d .none .none:=by
 intro c k K b h q;exact dh (φ:=V2 (bo 5 [.none,.none] 0 kh) (bo 7 [] 0 kh)) rfl rfl (.inl ⟨rfl,lG h λf a Z e h p=>q f a e h p⟩)
theorem G7:eZ (n+2) 218 228 [.int i,ow,nm,isc,pa,ou] λf=>∃d,f=uy i ow nm isc pa ou d .none .none:=by
 intro c k K b h q;exact dh (φ:=V2 (bo 5 [.none,.none] 0 kh) (bo 7 [] 0 kh)) rfl rfl (.inr ⟨rfl,lG h λf a Z e h p=>q f a e h p⟩)
noncomputable def jt:List Str:=Pg.map (·.1)
noncomputable def hasK (ks:List (Str×Nat)) (z:Str):Bool:=ks.any λp=>aD p.1 z
noncomputable def oY (ks:List (Str×Nat)):Nat:=(jt.filter λz=> !hasK ks z).length
noncomputable def eR (ks:List (Str×Nat)):SO:=match ks with
 |[]=>.dic0
 |_::_=>.dic (ks.map λp=>(p.1,.ref p.2))
end
structure Ws where
 m:Nat
 n:Int
 ks:List (Str×Nat)
 r:Bool
 tl:List (Nat×SV)
noncomputable abbrev jV (d0 d1 si gl ou:Nat) (s:Ws):List (Nat×SV):=(26,.ref d0)::(27,.ref d1)::(28,.none)::(29,.int 20000)::(30,.int 0)::(31,.int s.n)::(32,.int 8)::(33,.ref si)::(34,.ref s.m)::(35,.int 0)::(36,.int 0)::(37,.ref gl)::(38,.ref ou)::(39,.none)::(40,.bool s.r)::s.tl
def Mo (σ:Sg) (z:Str) (k:Nat):Prop:=∃i ow isc pa d,σ.ob k=some (.inst 228 (uy i ow (.str z) isc pa .none d .none (.str z)))
structure WvF (σ:Sg) (W:Nat) (s:Ws) (d0 d1 si gl ou:Nat):Prop where
 w:σ.ob W=some (.inst 834 (jV d0 d1 si gl ou s))
 ne:d0≠s.m∧d1≠s.m
 d0:σ.ob d0=some .dic0
 d1:σ.ob d1=some .dic0
def mL (σ:Sg) (kT P:Nat) (q:Str):Prop:=∃es,σ.ob kT=some (.ctab P es)∧∀p∈es,σ.ob p.2=some (.code q)
noncomputable def Hq (o:SO):Bool:=match o with
 |.ctab _ _=>true
 |.code _=>true
 |_=>false
structure Wv (σ:Sg) (W:Nat) (s:Ws):Prop where
 w:∃d0 d1 si gl ou,WvF σ W s d0 d1 si gl ou
 m:σ.ob s.m=some (eR s.ks)
 ms:∀p∈s.ks,Mo σ p.1 p.2
 nm:∀p∈s.ks,p.1∈jt
 len:s.ks.length+oY s.ks≤40
 uq:∀p∈s.ks,∀p'∈s.ks,p.1=p'.1->p.2=p'.2
 tb:mL σ 0 920 (aT 0).qual∧mL σ 1 932 (aT 2).qual
 tl:(∀a,Nat.beq a 41=false->s.tl.lookup a=none)∧s.tl.length≤10
structure Wn (s s':Ws):Prop where
 m:s'.m=s.m
 r:s'.r=s.r
 tl:s'.tl=s.tl
 n:s.n≤s'.n
 ks:∀p∈s.ks,p∈s'.ks
structure Po (σ σ':Sg) (W:Nat) (s s':Ws):Prop where
 wd:Wv σ' W s'
 ev:Wn s s'
 kp:fV σ σ'
section
variable {σ σ' σ1:Sg} {W:Nat} {s s' s1:Ws} {n:Nat} {K:KV} {KE:KX} {z:Str} {k:Nat}
theorem Wn.refl:Wn s s:=⟨rfl,rfl,rfl,XS _,λZ h=>h⟩
theorem Wn.trans (a:Wn s s1) (b:Wn s1 s'):Wn s s':=⟨b.m.trans a.m,b.r.trans a.r,b.tl.trans a.tl,Xl a.n b.n,λp h=>b.ks p (a.ks p h)⟩
theorem Po.trans (a:Po σ σ1 W s s1) (b:Po σ1 σ' W s1 s'):Po σ σ' W s s':=⟨b.wd,a.ev.trans b.ev,a.kp.trans b.kp⟩
theorem Mo.up (m:Mo σ z k) (e:fV σ σ'):Mo σ' z k:=by
 refine gz m λi b a c d h=>?_;exact(iG i b a c d (e.ob _ _ h rfl))
variable {P:Nat->SO->Prop}
theorem mL.kp {kT a:Nat} {q:Str} (h:mL σ kT a q) (e:Kp P σ σ') (hP:∀k o,σ.ob k=some o->Hq o=true->P k o):mL σ' kT a q:=by
 refine bn h λc h g=>?_;exact(bv c (e.ob _ _ h (hP _ _ h rfl)) (λp b=>e.ob _ _ (g p b) (hP _ _ (g p b) rfl)))
theorem jy (h:mL σ 0 920 (aT 0).qual∧mL σ 1 932 (aT 2).qual) (e:Kp P σ σ') (hP:∀k o,σ.ob k=some o->Hq o=true->P k o):mL σ' 0 920 (aT 0).qual∧mL σ' 1 932 (aT 2).qual:=⟨h.1.kp e hP,h.2.kp e hP⟩
variable {j:Nat}
theorem pP {o:SO} (h:σ.ob j=some o) (ho:Hq o=false):∀k o,σ.ob k=some o->Hq o=true->k≠j:=λk o2 a c e=>by
 rw[e,h]at a;obtain rfl:=jS a;rw[ho]at c;exact cp c
theorem Wv.up (h:Wv σ W s) (e:bC σ σ'):Wv σ' W s:=by
 obtain⟨⟨c,f,d,i,o,w⟩,m,g,k,a,b,n,l⟩:=h;exact⟨iG c f d i o ⟨e.ob _ _ w.w trivial,w.ne,e.ob _ _ w.d0 trivial,e.ob _ _ w.d1 trivial⟩,e.ob _ _ m trivial,λp j=>(g p j).up e.to,k,a,b,jy n e λZ Z Z Z=>trivial,l⟩
theorem Po.ext (a:Po σ σ1 W s s1) (e:bC σ1 σ'):Po σ σ' W s s1:=⟨a.wd.up e,a.ev,a.kp.trans e.to⟩
theorem Po.refl (h:Wv σ W s):Po σ σ W s s:=⟨h,.refl,.refl⟩
theorem Wv.me {mc fa:Nat} {K:Nat->Prop} (h:Wv σ W s) (hm:(Nat.blt mc 26||Nat.blt 41 mc)=true) (ht:n4 834 mc=some fa) (q:K fa):Dj σ (.ref W) mc K:=by
 refine gz h.w λc f d g j w=>?_;refine⟨_,w.w,?_,fa,ht,q⟩;rw[Bool.or_eq_true,YW,YW]at hm;have a:∀k,26≤k->k≤41->(mc==k)=false:=λk i b=>by
  cases e:(mc==k)with
  |false=>rfl
  |true=>have:=XJ e;omega
 simp only[Xk,a 26 (by decide) (by decide),a 27 (by decide) (by decide),a 28 (by decide) (by decide),a 29 (by decide) (by decide),a 30 (by decide) (by decide),a 31 (by decide) (by decide),a 32 (by decide) (by decide),a 33 (by decide) (by decide),a 34 (by decide) (by decide),a 35 (by decide) (by decide),a 36 (by decide) (by decide),a 37 (by decide) (by decide),a 38 (by decide) (by decide),a 39 (by decide) (by decide),a 40 (by decide) (by decide)];exact h.tl.1 mc (by
  cases e:Nat.beq mc 41 with
  |false=>rfl
  |true=>have:=W9 e;omega)
variable {C:Nat} {f:List (Nat×SV)}
theorem f5 {ks:List (Str×Nat)}:eR ks≠ .inst C f:=by
 unfold eR;split<;>(intro h;cases h)
theorem ch (h:Wv σ W s) (q:∀σ',Po σ σ' W s ⟨s.m,s.n+1,s.ks,s.r,s.tl⟩->K (.int (s.n+1)) σ'):Ph (n+1) 0 594 [.ref W] σ K KE:=by
 obtain⟨⟨b,f,e,a,c,w⟩,m,u,t,g,x,A,C⟩:=h;refine aK (k:=1) (d:=[]) (r:=0) (m:=CY) rfl rfl rfl ?_;have z:(jV b f e a c s).length≤800:=by
  show s.tl.length+15≤800;omega
 have l:=aE (o:=.inst 834 (jV b f e a c ⟨s.m,s.n+1,s.ks,s.r,s.tl⟩)) w.w;refine g_ w.w rfl rfl (ao w.w ⟨⟨rfl,z⟩,g_ l rfl rfl ?_⟩);have k:fV σ (σ.set W (.inst 834 (jV b f e a c ⟨s.m,s.n+1,s.ks,s.r,s.tl⟩))):=Kp.refl.set λo h p=>by rw[w.w]at h;obtain rfl:=jS h;exact cp p
 have i:∀{k o},σ.ob k=some o->o≠ .inst 834 (jV b f e a c s)->k≠W:=λj B y=>by
  rw[y,w.w]at j;exact B (W7 j).symm
 exact q _ ⟨⟨iG b f e a c ⟨l,w.ne,(Kp.refl.set λZ Z h=>h rfl:dB W σ (σ.set W (.inst 834 (jV b f e a c ⟨s.m,s.n+1,s.ks,s.r,s.tl⟩)))).ob _ _ w.d0 (i w.d0 nofun),(Kp.refl.set λZ Z h=>h rfl:dB W σ (σ.set W (.inst 834 (jV b f e a c ⟨s.m,s.n+1,s.ks,s.r,s.tl⟩)))).ob _ _ w.d1 (i w.d1 nofun)⟩,(Kp.refl.set λZ Z h=>h rfl:dB W σ (σ.set W (.inst 834 (jV b f e a c ⟨s.m,s.n+1,s.ks,s.r,s.tl⟩)))).ob _ _ m (i m f5),λp v=>(u p v).up k,t,g,x,jy A (Kp.refl.set λZ Z h=>h rfl:dB W σ (σ.set W (.inst 834 (jV b f e a c ⟨s.m,s.n+1,s.ks,s.r,s.tl⟩)))) (pP w.w rfl),C⟩,⟨rfl,rfl,rfl,by exact qb,λZ h=>h⟩,k⟩
variable {σ0:Sg} {ks:List (Str×Nat)}
noncomputable abbrev vI (ks:List (Str×Nat)):List (Str×SV):=ks.map λp=>(p.1,.ref p.2)
theorem EW (h:hasK ks z=false):gN (vI ks) z=.none:=by
 have e:(vI ks).find? (λd=>aD d.1 z)=none:=ZD.mpr λx b=>by
  refine bn (Xb.mp b) λp c a=>?_;obtain rfl:=a;have:=YA.mp h p c;exact this
 unfold gN;rw[e]
theorem xj (h:hasK ks z=true):∃k,(z,k)∈ks∧gN (vI ks) z=.ref k:=by
 unfold gN;cases e:(vI ks).find? (λc=>aD c.1 z)with
 |none=>
  refine bn (Yt.mp h) λp a d=>?_;exact absurd d (ZD.mp e (p.1,.ref p.2) (Xb.mpr (bv p a rfl)))
 |some c=>
  refine bn (Xb.mp (Yh e)) λp a b=>?_;obtain rfl:=b;have f:p.1=z:=by simpa [aD]using (Zx e)
  exact(bv p.2 (by rw[←f];exact a) rfl)
theorem IV (h:σ.ob k=some (eR ks)):iF σ (.ref k):=by cases ks<;>exact ao h trivial
theorem rY {C:SV->Prop} (h:σ.ob k=some (eR ks)) (q:C (gN (vI ks) z)):vV σ k z C:=by
 unfold vV;cases ks<;>exact ao h q
variable {f:Nat}
theorem HR {C:SO->Prop} (h:hasK ks z=false) (l:ks.length≤900) (q:C (eR (ks++[(z,f)]))):V7 (eR ks) z (.ref f) C:=by
 unfold V7;cases ks with
 |nil=>exact q
 |cons p r=>
  refine⟨⟨?_,?_⟩,?_⟩
  ·show((vI (p::r)).any λx=>aD x.1 z)=false
   rw[List.any_map];exact h
  ·rw[W0];exact l
  ·have e:eR ((p::r)++[(z,f)])=.dic (vI (p::r)++[(z,.ref f)]):=Yi SO.dic (Xa (l₁:=p::r))
   rw[←e];exact q
theorem qv {α:Type} {l:List α} {p q:α->Bool} (h:∀x,q x=true->p x=true):(l.filter q).length≤(l.filter p).length:=by
 rw[←Zy,←Zy];exact List.countP_mono_left λx Z=>h x
theorem CK {α:Type} {l:List α} {p q:α->Bool} {z:α} (h:∀x,q x=true->p x=true) (hp:p z=true) (hq:q z=false) (hz:z∈l):(l.filter q).length+1≤(l.filter p).length:=by
 induction l with
 |nil=>cases hz
 |cons a l ih=>
  rw[Y0,Y0];rcases WY.mp hz with rfl|hz
  ·rw[hp,hq];exact Zl (qv h)
  ·have:=ih hz
   cases e:q a with
   |true=>rw[h a e];exact Zl this
   |false=>cases p a with
    |true=>exact Yz this
    |false=>exact this
theorem oh {r:List (Str×Nat)} {x:Str}:hasK (ks++r) x=(hasK ks x||hasK r x):=List.any_append
theorem tv (hz:z∈jt) (h:hasK ks z=false):oY (ks++[(z,f)])+1≤oY ks:=
 CK (λx a=>by rw[oh]at a;cases e:hasK ks x<;>simp_all) (by rw[h];rfl) (by rw[oh,h];simp[hasK,aQ]) hz
theorem qS {ks':List (Str×Nat)} (h:∀p∈ks,p∈ks'):oY ks'≤oY ks:=qv λx a=>by
 cases e:hasK ks x with
 |false=>rfl
 |true=>
  refine bn (Yt.mp e) λp b c=>?_;rw[show hasK ks' x=true from Yt.mpr (bv p (h p b) c)]at a;exact a
theorem xt (hz:z∈jt) (h:hasK ks z=false):0<oY ks:=List.length_pos_of_mem (List.mem_filter.mpr ⟨hz,by rw[h];rfl⟩)
theorem iL (a:Kp P σ0 σ) (b:dB k σ σ') (h:σ0.nx≤k):Kp P σ0 σ':=⟨WX a.nx b.nx,λj o c p=>b.ob j o (a.ob j o c p) λe=>absurd (σ0.wf _ _ c) (by rw[e];exact YM.mpr h)⟩
theorem Fv {F:List (Nat×SV)} (h:Wv σ W s) (b:dB f σ σ') (hf:σ.ob f=some (.inst 228 F)) (hm:∀p∈s.ks,p.2=f->Mo σ' p.1 f):Wv σ' W s:=by
 obtain⟨⟨u,A,z,t,v,w⟩,m,r,n,c,x,B,E⟩:=h;have a:∀{k o},σ.ob k=some o->o≠ .inst 228 F->k≠f:=λl C y=>by
  rw[y,hf]at l;exact C (W7 l).symm
 refine⟨iG u A z t v ⟨b.ob _ _ w.w (a w.w nofun),w.ne,b.ob _ _ w.d0 (a w.d0 nofun),b.ob _ _ w.d1 (a w.d1 nofun)⟩,b.ob _ _ m (a m f5),λp j=>?_,n,c,x,jy B b (pP hf rfl),E⟩;by_cases e:p.2=f
 ·rw[e];exact hm p j e
 ·refine gz (r p j) λi D g q d h=>?_
  exact(iG i D g q d (b.ob _ _ h e))
theorem m6 {i i':Int} {ow ow' isc isc' pa pa':SV} {d d':List Nat} (h:Wv σ W s) (b:dB f σ σ') (hf:σ.ob f=some (.inst 228 (uy i ow (.str z) isc pa .none d .none (.str z)))) (hf':σ'.ob f=some (.inst 228 (uy i' ow' (.str z) isc' pa' .none d' .none (.str z)))):Wv σ' W s:=
 Fv h b hf λp l e=>by
  refine gz (h.ms p l) λn k g j o a=>?_;rw[e,hf]at a;have m:p.1=z:=by
   injection a with a;injection a with _ a;have c:some (SV.str z)=some (SV.str p.1):=Yi (λf:List (Nat×SV)=>f.lookup 15) a;injection c with c;injection c with c;exact c.symm
  rw[m];exact(iG _ _ _ _ _ hf')
theorem GX {i:Int} {ow isc pa:SV} {d:List Nat} {o:SO} (h:Wv σ W s) (fr:∀p∈s.ks,p.2≠f) (hf:σ.ob f=some o) (hf':o≠ .dic0∧fm o=true) (hf2:Hq o=false) (hz:z∈jt) (hk:hasK s.ks z=false)
  (e:∀k o,σ.ob k=some o->k≠s.m->k≠f->σ'.ob k=some o) (hm:σ'.ob s.m=some (eR (s.ks++[(z,f)]))) (h2:σ'.ob f=some (.inst 228 (uy i ow (.str z) isc pa .none d .none (.str z)))):Wv σ' W ⟨s.m,s.n,s.ks++[(z,f)],s.r,s.tl⟩:=by
 obtain⟨⟨C,G,F,B,D,w⟩,m,A,y,l,E,I,J⟩:=h;have n:∀{k o2},σ.ob k=some o2->o2≠o->k≠f:=λhk u r=>by
  rw[r,hf]at hk;exact u (W7 hk).symm
 have a:∀{k o2},σ.ob k=some o2->o2≠eR s.ks->k≠s.m:=λhk u r=>by
  rw[r,m]at hk;exact u (W7 hk).symm
 refine⟨iG C G F B D ⟨e _ _ w.w (a w.w f5.symm) (n w.w λq=>by rw[←q]at hf';exact nomatch hf'.2),w.ne,e _ _ w.d0 w.ne.1 (n w.d0 hf'.1.symm),e _ _ w.d1 w.ne.2 (n w.d1 hf'.1.symm)⟩,hm,λp hp=>?_,λp hp=>?_,?_,?_,?_,J⟩
 ·rcases W6.mp hp with hp|hp
  ·refine gz (A p hp) λi ow isc pa d h=>?_
   exact(iG i ow isc pa d (e _ _ h (a h f5.symm) (fr p hp)))
  ·cases XA.mp hp
   exact(iG _ _ _ _ _ h2)
 ·rcases W6.mp hp with hp|hp
  ·exact y p hp
  ·cases XA.mp hp
   exact hz
 ·have:=tv (f:=f) hz hk
  show(s.ks++[(z,f)]).length+oY (s.ks++[(z,f)])≤40;rw[Yb];show s.ks.length+1+_≤_;exact Z56 this l
 ·have v:∀p∈s.ks,p.1≠z:=λp hp e=>by
   have:=YA.mp hk p hp;rw[e,aQ]at this;exact this rfl
  intro p hp x hp' e;rcases W6.mp hp with hp|hp<;>rcases W6.mp hp' with hp'|hp'
  ·exact E p hp x hp' e
  ·cases XA.mp hp'
   exact absurd e (v p hp)
  ·cases XA.mp hp
   exact absurd e.symm (v x hp')
  ·cases XA.mp hp
   cases XA.mp hp';rfl
 ·have c:∀k o,σ.ob k=some o->Hq o=true->k≠s.m∧k≠f:=λk o h c=>⟨pP m (by unfold eR;split<;>rfl) k o h c,pP hf hf2 k o h c⟩
  obtain⟨⟨H,h,g⟩,⟨j,t,b⟩⟩:=I;exact⟨bv H (e _ _ h (c _ _ h rfl).1 (c _ _ h rfl).2) (λp hp=>e _ _ (g p hp) (c _ _ (g p hp) rfl).1 (c _ _ (g p hp) rfl).2),bv j (e _ _ t (c _ _ t rfl).1 (c _ _ t rfl).2) (λp hp=>e _ _ (b p hp) (c _ _ (b p hp) rfl).1 (c _ _ (b p hp) rfl).2)⟩
theorem GO (h:z∈jt):z.length≤50000:=by
 have e:(jt.all λz=>Nat.ble z.length 50000)=true:=by decide+kernel
 exact bl (WZ.mp e z h)
theorem EJ:(Pg.all λp=>match p.2 with|none=>true|some y=>jt.contains y)=true:=by decide+kernel
theorem vN:(sM.all λp=>match p.2 with|none=>true|some a=>(Hr.any λp=>Nat.beq p.1 a)&&(match uQ a with|[]=>false|y::r=>r.isEmpty&&jt.contains y))=true:=by decide+kernel
theorem uZ:(jt.all λz=>sM.any λp=>aD p.1 z)=true:=by decide+kernel
theorem ju (h:Wv σ W s) (hz:z∈jt) (q:K .none σ):Ph (n+1) 0 627 [.ref W,.str z] σ K KE:=by
 refine gz h.w λc f e g i w=>?_;have a:=GO hz;have b:((".":Str)).length≤50000:=bl (by decide+kernel);exact aK (k:=2) (d:=[]) (r:=0) (m:=Gy) rfl rfl rfl ⟨⟨a,b⟩,g_ w.w rfl rfl (.d0 rfl w.d0 ⟨⟨a,b⟩,g_ w.w rfl rfl (.d0 rfl w.d1 q)⟩)⟩
theorem nW (h:Wv σ W s) (hk:hasK s.ks z=true) (q:∀k,(z,k)∈s.ks->K (.ref k) σ):Ph (n+1) 0 615 [.ref W,.str z] σ K KE:=by
 refine gz h.w λb f c g i w=>?_;refine aK (k:=2) (d:=[]) (r:=1) (m:=v6) rfl rfl rfl (g_ w.w rfl rfl (eQ (IV h.m) rfl (rY h.m ?_)));refine bn (xj hk) λk a e=>?_;rw[e];exact bQ rfl (q k a)
theorem qi (μ:Nat):∀{L:Nat} {σ:Sg} {s:Ws} {z:Str} {K:KV} {KE:KX},oY s.ks≤μ->3*μ+6≤L->z∈jt->Wv σ W s->(∀k σ' s',Po σ σ' W s s'->(z,k)∈s'.ks->K (.ref k) σ')->Ph L 0 615 [.ref W,.str z] σ K KE:=by
 induction μ with
 |zero=>
  intro L σ s z K KE a0 hL M h q;obtain⟨L,rfl⟩:∃l,L=l+1:=⟨L - 1,by lia⟩;cases hk:hasK s.ks z with
  |true=>exact nW h hk λk hm=>q k σ s (.refl h) hm
  |false=>exact absurd (xt M hk) (YM.mpr a0)
 |succ μ ih=>
  intro L σ s z K KE a0 hL M h q;obtain⟨L,rfl⟩:∃l,L=l+1:=⟨L - 1,by lia⟩;cases hk:hasK s.ks z with
  |true=>exact nW h hk λk hm=>q k σ s (.refl h) hm
  |false=>
   refine gz h.w λd0 d1 si gl ou w=>?_;refine aK (k:=2) (d:=[]) (r:=1) (m:=v6) rfl rfl rfl (g_ w.w rfl rfl (eQ (IV h.m) rfl (rY h.m ?_)));rw[EW hk];refine bQ rfl (O8 w.w (h.tl.1 45 rfl) rfl ?_);obtain⟨L,rfl⟩:∃l,L=l+1:=⟨L - 1,by lia⟩;refine dh (φ:=fX 2 [] [some 1,none,none,none] [some 0] vQ) rfl rfl ⟨rfl,?_⟩;have S:(σ.new (.cell (some (.ref W)))).ob σ.nx=some (.cell (some (.ref W))):=ac;have e0:bC σ (σ.new (.cell (some (.ref W)))):=Kp.refl.new;have h0:=h.up e0;have cn:σ.nx<(σ.new (.cell (some (.ref W)))).nx:=XY _;show vQ (Ph L) ⟨[some (.str z),none,none,none],[σ.nx],[]⟩ (σ.new (.cell (some (.ref W)))) (bp K) KE;revert S e0 h0 cn;generalize σ.new (.cell (some (.ref W)))=σ0;generalize hcx:σ.nx=c;intro S e0 h0 cn;obtain⟨L,rfl⟩:∃l,L=l+4:=⟨L - 4,by lia⟩;refine⟨rfl,c_ rfl S (h0.me rfl rfl (ch h0 λe i=>?_))⟩;refine gp (Dw (n:=L+1)) λf b8 e2 c1 hf ⟨d,pf⟩=>⟨rfl,?_⟩;subst pf;have h1:=i.wd.up e2;refine gz h1.w λZ Z Z Z Z a7=>?_;generalize (!(kC 546).any λy=>aD y z)=b at hf;have b1:∀p∈s.ks,p.2≠e.nx:=λp J=>by
    refine gz (i.wd.ms p J) λZ Z Z Z Z h=>?_;exact cx h
   refine c_ rfl (e2.ob _ _ (i.kp.ob _ _ S rfl) trivial) (g_ a7.w rfl rfl (ao h1.m (HR hk (by show s.ks.length≤900;exact Z62 (h.len:s.ks.length+oY s.ks≤40)) ?_)));have b6:=aE (o:=eR (s.ks++[(z,e.nx)])) h1.m;refine sA (k:=e.nx) Kp.refl ((au (o:=eR (s.ks++[(z,e.nx)])) ((cx i.wd.m).symm:e.nx≠s.m)).trans hf) rfl λD e4 N=>?_;have I:=GX (σ':=D) h1 b1 hf ⟨nofun,rfl⟩ rfl M hk (λk o h a b=>e4.ob _ _ ((au a).trans h) b) (e4.ob _ _ b6 ((cx i.wd.m).symm:e.nx≠s.m).symm) N;have k4:fV σ0 D:=iL ((i.kp.trans e2.to).set λo h p=>by
    have:=h0.m;rw[this]at h;obtain rfl:=jS h;revert p;unfold eR;split<;>exact nofun) e4 i.kp.nx
   have m4:oY (s.ks++[(z,e.nx)])≤μ:=by
    have:=tv (f:=e.nx) M hk;lia
   have b7:(z,e.nx)∈s.ks++[(z,e.nx)]:=WW _ (.head _);have a6:∀p∈s.ks,p∈s.ks++[(z,e.nx)]:=λp J=>W3 _ J;have R:=i.kp.nx;generalize e.nx=f at*;refine bn (Xb.mp M) λg G b5=>?_;refine⟨g,G,b5,?_⟩;have a8:∀{KE:KX} (j:KV),(∀v σ' s',Po D σ' W ⟨s.m,s.n+1,s.ks++[(z,f)],s.r,s.tl⟩ s'->j v σ')->aO (ai .Is (aV 3) aN) aN (am (aC 0) 44 (aa (aV 3) ab)) (Ph (L+4)) ⟨[some (.str z),some (.bool b),some (.ref f),some (oS g.2)],[c],[]⟩ D j KE:=by
    intro KE j q;have P:=WZ.mp EJ g G;revert P;cases g.2 with
    |none=>exactλZ=>bQ rfl (q _ _ _ (.refl I))
    |some y=>
     intro P;exact bQ rfl (c_ rfl (k4.ob _ _ S rfl) (I.me rfl rfl (ih m4 (by lia:3*μ+6≤L+4) (by simpa using P) I λk σ' s' p Z=>q _ _ _ p)))
   refine a8 _ λv c2 s5 x=>?_;refine sA (k:=f) Kp.refl (x.kp.ob _ _ N rfl) rfl λC e6 Q=>?_;have O:=m6 x.wd e6 (x.kp.ob _ _ N rfl) Q;have Y:C.ob c=_:=e6.ob _ _ (x.kp.ob _ _ (k4.ob _ _ S rfl) rfl) (XC (Xi cn R));have ow:∀{KE:KX} (j:KV) fr,(∀v σ' s',Po C σ' W s5 s'->j v σ')->am (aC 0) 44 (aa (aO (aP (aV 1)) (aS "Class") (aS "Module")) ab) (Ph (L+4)) ⟨[some (.str z),some (.bool b),some (.ref f),fr],[c],[]⟩ C j KE:=by
    intro KE j fr q;refine c_ rfl Y (O.me rfl rfl ?_);have m5:oY s5.ks≤μ:=WX (qS x.ev.ks) m4;cases b
    ·exact ih m5 (by lia:3*μ+6≤L+4) (by decide+kernel) O λk σ' s' p Z=>q _ _ _ p
    ·exact ih m5 (by lia:3*μ+6≤L+4) (by decide+kernel) O λk σ' s' p Z=>q _ _ _ p
   refine ow _ _ λv7 c0 s7 A=>?_;refine sA (k:=f) Kp.refl (A.kp.ob _ _ Q rfl) rfl λu e8 V=>?_;have U:=m6 A.wd e8 (A.kp.ob _ _ Q rfl) V;have a4:u.ob c=_:=e8.ob _ _ (A.kp.ob _ _ Y rfl) (XC (Xi cn R));have b3:fV σ0 u:=iL ((iL (k4.trans x.kp) e6 R:fV σ0 C).trans A.kp) e8 R;have t:∀p∈s.ks++[(z,f)],p∈s7.ks:=λp J=>A.ev.ks _ (x.ev.ks _ J);have m8:oY s7.ks≤μ:=WX (qS t) m4;have mx:∀{KE:KX} (j:KV) fr,(∀l σ' s',Po u σ' W s7 s'->j (.ref l) σ')->bP (kW iF fw (aG 550) (aa (aV 0) (aa (aU ab) ab))) (cB (am (aC 0) 44 (aa aX ab))) (Ph (L+4)) ⟨some (.str z)::fr,[c],[]⟩ u j KE:=by
    intro KE j fr q;refine(gc rfl (bl rfl) rfl ?_);refine bn (Yt.mp (WZ.mp uZ z M)) λg hr he=>?_;have P:=WZ.mp vN g hr;refine⟨g,hr,by simpa [aD]using he,?_⟩;have H:=U.up (σ':=u.new (.tup [])) Kp.refl.new;have a3:=ae (o:=.tup []) a4;revert P;cases g.2 with
    |none=>exactλZ=>ao ac (eQ (bl rfl) (ao ac rfl) (q _ _ _ ((Po.refl U).ext Kp.refl.new.new)))
    |some a=>
     intro P;obtain⟨i,T⟩:=(WU _ _).mp P;refine⟨i,?_⟩;show(uQ a).length≤10000∧bS (.kt a) _ _ (uQ a).length 0 [] _;revert T;cases hk:uQ a with
     |nil=>exact nofun
     |cons y r=>
      intro T;obtain⟨T,p3⟩:=(WU _ _).mp T;cases r with
      |cons _ _=>exact cp T
      |nil=>
       refine(eQ (bl rfl) i ⟨y,by rw[hk];rfl,c_ rfl a3 (H.me rfl rfl ?_)⟩);exact ih m8 (by lia:3*μ+6≤L+4) (by simpa using p3) H λk σ' s' p Z=>⟨i,q _ _ _ (.ext ⟨p.wd,p.ev,(Kp.refl.new).trans p.kp⟩ Kp.refl.new)⟩
   refine mx _ _ λv9 b9 s9 B=>?_;have a1:=B.kp.ob _ _ V rfl;have a9:=B.kp.ob _ _ a4 rfl;refine sA (k:=f) Kp.refl a1 rfl λF ea b4=>?_;have E:=m6 (d':=[d.getD 0 0,d.getD 1 0,d.getD 2 0,v9,d.getD 4 0]) B.wd ea a1 b4;have a2:F.ob c=_:=ea.ob _ _ a9 (XC (Xi cn R));have b2:fV σ0 F:=iL (b3.trans B.kp) ea R;have a5:K (.ref f) F:=q f F s9 ⟨E,⟨B.ev.m.trans (A.ev.m.trans x.ev.m),B.ev.r.trans (A.ev.r.trans x.ev.r),B.ev.tl.trans (A.ev.tl.trans x.ev.tl),by have:=B.ev.n;have:=A.ev.n;have:s.n+1≤s5.n:=x.ev.n;lia,λp J=>B.ev.ks _ (t _ (a6 p J))⟩,e0.to.trans b2⟩ (B.ev.ks _ (t _ b7));refine gz E.w λZ Z Z Z Z X=>?_;refine c_ rfl a2 (g_ X.w rfl rfl ?_);cases s9.r
   ·exact a5
   ·exact c_ rfl a2 (E.me rfl rfl (ju (n:=L+3) E M a5))
theorem i7 (h:Wv σ W s) (hz:jt.contains z=true) (q:∀k σ' s',Po σ σ' W s s'->(z,k)∈s'.ks->K (.ref k) σ'):Ph (n+126) 0 615 [.ref W,.str z] σ K KE:=
 qi 40 (WX (Y8 _ _) h.len) (Y8 _ _) (by simpa using hz) h q
end
structure Nw (σ σ':Sg) (W:Nat) (s s':Ws) (k:Nat) (i:Int):Prop where
 p:Po σ σ' W s s'
 fr:σ.nx≤k
 i0:s.n<i
 i1:i≤s'.n
def d9 (σ:Sg) (C k:Nat) (i:Int) (o:Nat) (fz:Bool) (r:List (Nat×SV)):Prop:=∃d,σ.ob k=some (.inst C (fW i (.ref o) d fz r))
def Li (σ:Sg) (k:Nat) (i:Int) (o:Nat) (fz:Bool) (l:Nat) (xs:List SV):Prop:=d9 σ 82 k i o fz [(7,.ref l)]∧σ.ob l=some (.list xs)
section
variable {σ σ' σ1 σ0:Sg} {W:Nat} {s s' s1:Ws} {n C:Nat} {K:KV} {KE:KX} {z:Str} {k o l:Nat} {i:Int} {fz:Bool} {x y b:SV} {xs:List SV} {r:List (Nat×SV)}
theorem d9.up (m:d9 σ C k i o fz r) (hC:Nat.beq C 834=false) (e:fV σ σ'):d9 σ' C k i o fz r:=m.imp λd h=>e.ob _ _ h (by show(!Nat.beq C 834)=true;rw[hC];rfl)
theorem Li.up (m:Li σ k i o fz l xs) (e:fV σ σ'):Li σ' k i o fz l xs:=⟨m.1.up rfl e,e.ob _ _ m.2 rfl⟩
theorem fS (h:Wv σ W s) (q:∀k i o σ' s',Nw σ σ' W s s' k i->Mo σ' "String" o->d9 σ' 62 k i o false [(6,x)]->K (.ref k) σ'):Ph (n+127) 0 677 [.ref W,x] σ K KE:=by
 refine aK (k:=2) (d:=[]) (r:=0) (m:=Dy) rfl rfl rfl (h.me rfl rfl (ch h λv a=>?_));refine a.wd.me rfl rfl (i7 a.wd (by decide+kernel) λo l c b p=>?_);refine gp sr λf g e t j ⟨d,u⟩=>⟨rfl,?_⟩;subst u;exact q _ _ _ _ c ⟨(a.trans b).ext e,WX a.kp.nx b.kp.nx,by exact xg,(b.ev.n:s.n+1≤c.n)⟩ ((b.wd.ms _ p).up e.to) ⟨d,j⟩
theorem iy (h:Wv σ W s) (hl:σ.ob l=some (.list xs)) (hx:xs.length≤10000) (q:∀k i o l' σ' s',Nw σ σ' W s s' k i->σ.nx≤l'->Mo σ' "Array" o->Li σ' k i o false l' xs->K (.ref k) σ'):Ph (n+127) 0 684 [.ref W,.ref l] σ K KE:=by
 refine aK (k:=2) (d:=[]) (r:=0) (m:=Gc) rfl rfl rfl (h.me rfl rfl (ch h λy b=>?_));refine b.wd.me rfl rfl (i7 b.wd (by decide+kernel) λo a p c v=>?_);have j:=c.kp.ob _ _ (b.kp.ob _ _ hl rfl) rfl;refine .inl (ao j ⟨hx,?_⟩);refine gp te λf g t w u ⟨d,x⟩=>⟨rfl,?_⟩;subst x;have e:bC a g:=Kp.refl.new.trans t;exact q _ _ _ _ _ p ⟨(b.trans c).ext e,Yz (WX b.kp.nx c.kp.nx:σ.nx≤a.nx),by exact xg,(c.ev.n:s.n+1≤p.n)⟩ (WX b.kp.nx c.kp.nx:σ.nx≤a.nx) ((c.wd.ms _ v).up e.to) ⟨⟨d,u⟩,t.ob _ _ ac trivial⟩
theorem qY {nm isc pa ou nat:SV} {d:List Nat} {ow:SV} (h:σ.ob k=some (.inst 228 (uy i ow nm isc pa ou d .none nat))) (q:K (.bool false) σ):Ph (n+1) 0 225 [.ref k] σ K KE:=
 aK (k:=1) (d:=[]) (r:=0) (m:=zN) rfl rfl rfl (g_ h rfl rfl (bQ rfl q))
theorem zF (q:K (.bool true) σ):Ph (n+1) 0 237 [.int i] σ K KE:=
 aK (k:=1) (d:=[]) (r:=0) (m:=wH) rfl rfl rfl ⟨by decide,gx rfl ⟨by decide,gx rfl q⟩⟩
noncomputable abbrev g8:List Str:=["nil","true","false","Symbol","Array","Hash","Object","String","Range"]
def fM (σ:Sg) (j:Nat) (x:SV):Prop:=match j with
 |0=>x=.none
 |1=>x=.bool true
 |2=>x=.bool false
 |3=>x=.str "a"
 |j=>∃k C f o,x=.ref k∧σ.ob k=some (.inst C f)∧C=[0,0,0,0,82,120,40,62,140].getD j 0∧f.lookup 1=some (.ref o)∧Mo σ (g8.getD j "") o
variable {j:Nat}
theorem fM.up (hj:j<9) (h:fM σ j x) (e:fV σ σ'):fM σ' j x:=by
 match j,hj,h with
 |0,_,h=>exact h
 |1,_,h=>exact h
 |2,_,h=>exact h
 |3,_,h=>exact h
 |j+4,hj,h=>
  refine sD h λk C f o b c a d m=>?_;refine(ww k C f o b (e.ob _ _ c ?_) a d (m.up e));have:(List.range 5).all (λj=> !Nat.beq ([0,0,0,0,82,120,40,62,140].getD (j+4) 0) 834)=true:=by decide+kernel
  have:=WZ.mp this j (XG.mpr (Z4 hj));rw[←a]at this;exact this
theorem em (hj:j<5):dR.contains ([0,0,0,0,82,120,40,62,140].getD (j+4) 0)=true:=by
 have:(List.range 5).all (λj=>dR.contains ([0,0,0,0,82,120,40,62,140].getD (j+4) 0))=true:=by decide+kernel
 exact WZ.mp this j (XG.mpr hj)
theorem zE (hj:j<9) (h:fM σ j x) (q:K (.bool false) σ):Ph (n+1) 0 237 [x] σ K KE:=by
 refine aK (k:=1) (d:=[]) (r:=0) (m:=wH) rfl rfl rfl ?_
 match j,hj,h with
 |0,_,h=>subst h;exact⟨by decide,gx rfl q⟩
 |1,_,h=>subst h;exact⟨by decide,gx rfl ⟨by decide,gx rfl q⟩⟩
 |2,_,h=>subst h;exact⟨by decide,gx rfl ⟨by decide,gx rfl q⟩⟩
 |3,_,h=>subst h;exact⟨by decide,gx rfl q⟩
 |j+4,hj,h=>
  refine sD h λk C f o a c b e m=>?_;obtain rfl:=a;obtain rfl:=b;exact⟨by decide,uU c (em (show j<5 by exact Z4 hj)) q⟩
theorem kI (q:K (.str "int") σ):Ph (n+1) 0 244 [.int i] σ K KE:=
 aK (k:=1) (d:=[]) (r:=0) (m:=qd) rfl rfl rfl (bQ rfl ⟨by decide,gx rfl ⟨by decide,gx rfl q⟩⟩)
theorem nP (q:K (.str "sym") σ):Ph (n+1) 0 244 [.str z] σ K KE:=
 aK (k:=1) (d:=[]) (r:=0) (m:=qd) rfl rfl rfl (bQ rfl ⟨by decide,gx rfl ⟨by decide,gx rfl ⟨by decide,gx rfl q⟩⟩⟩)
variable {f:List (Nat×SV)}
theorem il (hk:σ.ob k=some (.inst C f)) (hC:dR.contains C=true) (q:K (.str "thing") σ):Ph (n+1) 0 244 [.ref k] σ K KE:=
 aK (k:=1) (d:=[]) (r:=0) (m:=qd) rfl rfl rfl (bQ rfl ⟨by decide,uU hk hC ⟨by decide,uU hk hC ⟨by decide,uU hk hC q⟩⟩⟩)
theorem qO (h:Wv σ W s) (q:∀o σ' s',Po σ σ' W s s'->(("Integer":Str),o)∈s'.ks->K (.ref o) σ'):Ph (n+127) 0 642 [.ref W,.int i] σ K KE:=by
 exact aK (k:=2) (d:=[]) (r:=0) (m:=r6) rfl rfl rfl (bQ rfl ⟨by decide,gx rfl ⟨by decide,gx rfl (h.me rfl rfl (i7 h (by decide+kernel) q))⟩⟩)
theorem jO (h:Wv σ W s) (q:∀o σ' s',Po σ σ' W s s'->(("Symbol":Str),o)∈s'.ks->K (.ref o) σ'):Ph (n+127) 0 642 [.ref W,.str z] σ K KE:=by
 exact aK (k:=2) (d:=[]) (r:=0) (m:=r6) rfl rfl rfl (bQ rfl ⟨by decide,gx rfl ⟨by decide,gx rfl ⟨by decide,gx rfl (h.me rfl rfl (i7 h (by decide+kernel) q))⟩⟩⟩)
theorem kJ {v:SV} (hk:σ.ob k=some (.inst C f)) (hC:dR.contains C=true) (hr:qo C 1=true) (ho:f.lookup 1=some v) (q:K v σ):Ph (n+1) 0 642 [.ref W,.ref k] σ K KE:=
 aK (k:=2) (d:=[]) (r:=0) (m:=r6) rfl rfl rfl (bQ rfl ⟨by decide,uU hk hC ⟨by decide,uU hk hC ⟨by decide,uU hk hC (ao hk ⟨hr,_,ho,q⟩)⟩⟩⟩)
theorem JJ:(jt.all λz=>Nat.ble z.length 50000&&(Nat.ble (""++z).length 50000&&((""++z)++""==z)))=true:=by decide+kernel
theorem kn (m:Mo σ z k) (hz:z∈jt) (q:∀σ',bC σ σ'->K (.str z) σ'):Ph (n+1) 0 297 [.ref k] σ K KE:=by
 obtain⟨j,c⟩:=(WU _ _).mp (WZ.mp JJ z hz);obtain⟨c,b⟩:=(WU _ _).mp c;have b:(""++z)++""=z:=by simpa using b
 refine gz m λi l g p d h=>?_;refine aK (k:=1) (d:=[]) (r:=3) (m:=BZ) rfl rfl rfl ⟨bl rfl,t_ ac rfl ⟨1,?_⟩⟩;have e:=ae (o:=.tup [.str "",.str "",.ref σ.nx]) (ae (o:=.dic0) h);have f:=ae (o:=.tup [.str "",.str "",.ref σ.nx]) (ac (σ:=σ) (o:=.dic0));have a:=(au (o:=.opq) (cx h)).trans e;refine g_ e rfl rfl (.d0 rfl f (g_ e rfl rfl (ao f ?_)));refine g_ a rfl rfl (bQ rfl (g_ a rfl rfl (bQ rfl (g_ a rfl rfl (bQ rfl (g_ a rfl rfl (eQ ⟨bl (by decide+kernel),bl j⟩ ⟨bl c,bl (by decide+kernel)⟩ ?_)))))));show K (.str ((""++z)++"")) _;rw[b];exact q _ ((Kp.refl.new.new).setN (Xy _))
def Er (σ:Sg) (e:Nat) (nm msg:Str):Prop:=∃i o t,d9 σ 181 e i o false [(13,.ref t),(14,.none)]∧Mo σ nm o∧∃i o,d9 σ 62 t i o false [(6,.str msg)]
def Xc (σ:Sg) (k:Nat) (nm msg:Str):Prop:=∃d e,σ.ob k=some (.exc d)∧σ.ob d=some (.xdic [(42,.str "a Ruby error"),(43,.ref e)])∧Er σ e nm msg
variable {msg:Str}
theorem Er.up (m:Er σ k z msg) (e:fV σ σ'):Er σ' k z msg:=by
 refine pi m λi o t h m a=>?_;refine mZ a λb o2 c=>?_;exact(mQ i o t (h.up rfl e) (m.up e) (rU b o2 (c.up rfl e)))
theorem w6 (h:Wv σ W s) (hz:jt.contains z=true) (q:∀k σ' s',Po σ σ' W s s'->Er σ' k z msg->K (.ref k) σ'):Ph (n+128) 0 761 [.ref W,.str z,.str msg] σ K KE:=by
 refine aK (k:=3) (d:=[]) (r:=0) (m:=DF) rfl rfl rfl (h.me rfl rfl (ch h λx b=>?_));refine b.wd.me rfl rfl (i7 b.wd hz λo g B a p=>?_);refine a.wd.me rfl rfl (fS a.wd λt A D l C e y w=>?_);refine gp MX λf i c j v ⟨d,u⟩=>⟨rfl,?_⟩;subst u;exact q _ _ _ (((b.trans a).trans e.p).ext c) (mQ _ _ _ ⟨d,v⟩ ((a.wd.ms _ p).up (e.p.kp.trans c.to)) (rU _ _ (w.up rfl c.to)))
theorem w_raised (h:σ.ob k=some (.excF none)) (q:∀d σ',dB k σ σ'->σ'.ob k=some (.excF (some d))->σ'.ob d=some (.xdic [(42,.str "a Ruby error"),(43,x)])->K .none σ'):Ph (n+2) 0 435 [.ref k,x] σ K KE:=by
 refine aK (k:=2) (d:=[]) (r:=0) (m:=Do) rfl rfl rfl ?_;refine aK (k:=2) (d:=[]) (r:=0) (m:=Au) rfl rfl rfl (ao h ⟨rfl,?_⟩);have a:=aE (o:=.excF none) h;refine ao a ⟨rfl,?_⟩;have c:=aE (o:=.excF (some (σ.set k (.excF none)).nx)) (ae (o:=.xdic [(42,.str "a Ruby error")]) a);have b:=(au (o:=.excF (some (σ.set k (.excF none)).nx)) ((cx a).symm:(σ.set k (.excF none)).nx≠k)).trans (ac (σ:=σ.set k (.excF none)) (o:=.xdic [(42,.str "a Ruby error")]));refine ao c ⟨rfl,ao b ⟨⟨rfl,bl rfl⟩,?_⟩⟩;exact q _ _ ((((Kp.refl.set λZ Z h=>h rfl).new).set λZ Z h=>h rfl).setN (Xy _)) ((au ((cx a).symm:(σ.set k (.excF none)).nx≠k).symm).trans c) (aE b)
theorem kf (h:Wv σ W s) (hz:jt.contains z=true) (q:∀e σ' s',Po σ σ' W s s'->Xc σ' e z msg->KE e σ'):Ph (n+129) 0 768 [.ref W,.str z,.str msg] σ K KE:=by
 refine aK (k:=3) (d:=[]) (r:=0) (m:=Gj) rfl rfl rfl (h.me rfl rfl (w6 h hz λe a p j l=>⟨bl rfl,?_⟩));refine wz<|w_raised ac λd b t c f=>⟨rfl,ao c ⟨_,rfl,?_⟩⟩;have i:bC a b:=nk Kp.refl.new t (Xy _);have g:bC a (b.set a.nx (.exc d)):=i.setN (Xy _);have o:d≠a.nx:=λe=>by
  rw[e,c]at f;cases f
 exact q _ _ p (j.ext g) (j6 d e (aE c) ((au o).trans f) (l.up g.to))
noncomputable def kN (j:Nat):Str:=match j with
 |0=>"no implicit conversion from nil to integer"
 |j=>(⟨#[]⟩:Str)++"no implicit conversion of "++g8.getD j ""++" into Integer"
theorem lN (hj:j<6):jt.contains (g8.getD (j+3) "")=true:=by
 have:(List.range 6).all (λj=>jt.contains (g8.getD (j+3) ""))=true:=by decide+kernel
 exact WZ.mp this j (XG.mpr hj)
theorem mI (hj:j<5):qo ([0,0,0,0,82,120,40,62,140].getD (j+4) 0) 1=true:=by
 have:(List.range 5).all (λj=>qo ([0,0,0,0,82,120,40,62,140].getD (j+4) 0) 1)=true:=by decide+kernel
 exact WZ.mp this j (XG.mpr hj)
theorem Et (h:Wv σ W s) (hj:j<8) (ho:fM σ (j+1) x) (q:∀σ' s',Po σ σ' W s s'->K (.str (g8.getD (j+1) "")) σ'):Ph (n+128) 0 365 [.ref W,x] σ K KE:=by
 refine aK (k:=2) (d:=[]) (r:=0) (m:=Gl) rfl rfl rfl ?_
 match j,hj,ho,q with
 |0,_,ho,q=>subst ho;exact bQ rfl ⟨by decide,gx rfl (q _ _ (.refl h))⟩
 |1,_,ho,q=>subst ho;exact bQ rfl ⟨by decide,gx rfl (q _ _ (.refl h))⟩
 |2,hj,ho,q=>
  subst ho;exact bQ rfl ⟨by decide,gx rfl (h.me rfl rfl (jO h λo σ' s' p m=>kn (z:="Symbol") (p.wd.ms _ m) (by decide+kernel) λa e=>q _ _ (p.ext e)))⟩
 |j+3,hj,ho,q=>
  obtain⟨k,C,f,o,rfl,hk,rfl,ho,m⟩:=ho;exact bQ rfl ⟨by decide,uU hk (em (Z4 hj)) (h.me rfl rfl (kJ hk (em (Z4 hj)) (mI (Z4 hj)) ho (kn m (by simpa using (lN (show j+1<6 by exact Z3 hj))) λa e=>q _ _ ((Po.refl h).ext e))))⟩
theorem fP (hj:j<8) (ho:fM σ (j+1) x):Nat.ble (kd x) 4=true∧Nat.beq (kd x) 0=false:=by
 match j,hj,ho with
 |0,_,ho=>subst ho;exact⟨rfl,rfl⟩
 |1,_,ho=>subst ho;exact⟨rfl,rfl⟩
 |2,hj,ho=>subst ho;exact⟨rfl,rfl⟩
 |j+3,hj,ho=>refine sD ho λk C f o a c b ho m=>?_;obtain rfl:=a;obtain rfl:=b;exact⟨rfl,rfl⟩
theorem fh (hj:j<9):((g8.getD j "").length≤50000∧((⟨#[]⟩:Str)++"no implicit conversion of "++g8.getD j "").length≤50000)∧((⟨#[]⟩:Str)++"no implicit conversion of "++g8.getD j ""++" into Integer").length≤50000:=by
 have:(List.range 9).all (λj=>(Nat.ble (g8.getD j "").length 50000&&Nat.ble ((⟨#[]⟩:Str)++"no implicit conversion of "++g8.getD j "").length 50000)&&Nat.ble ((⟨#[]⟩:Str)++"no implicit conversion of "++g8.getD j ""++" into Integer").length 50000)=true:=by decide+kernel
 have:=WZ.mp this j (XG.mpr hj);obtain⟨a,c⟩:=(WU _ _).mp this;obtain⟨a,b⟩:=(WU _ _).mp a;exact⟨⟨bl a,bl b⟩,bl c⟩
theorem y5:kN 0="no implicit conversion from nil to integer":=by rfl
theorem yT:kN (j+1)=(⟨#[]⟩:Str)++"no implicit conversion of "++g8.getD (j+1) ""++" into Integer":=by rfl
theorem js (q:K (.int i) σ):Ph (n+2) 0 372 [.ref W,.int i] σ K KE:=
 aK (k:=2) (d:=[]) (r:=0) (m:=wW) rfl rfl rfl (bQ rfl (zF q))
theorem lh (h:Wv σ W s) (hj:j<9) (ho:fM σ j x) (q:∀e σ' s',Po σ σ' W s s'->Xc σ' e "TypeError" (kN j)->KE e σ'):Ph (n+130) 0 372 [.ref W,x] σ K KE:=by
 refine aK (k:=2) (d:=[]) (r:=0) (m:=wW) rfl rfl rfl ?_;cases j with
 |zero=>
  subst ho;rw[y5]at q;exact bQ rfl (h.me rfl rfl (kf h (by decide+kernel) q))
 |succ j=>
  obtain⟨a,b⟩:=fP (Z4 hj) ho;rw[yT]at q;refine bQ a ?_;rw[b];refine zE hj ho (h.me rfl rfl ⟨bl (by decide+kernel),Et h (Z4 hj) ho λi o f=>(I05 (fh hj).1.1 (fh hj).1.2 (fh hj).2 (fh hj).2 (kf f.wd (by decide+kernel) λe c g l x=>q e c g (f.trans l) x))⟩)
theorem yn {b:Bool} (q:K (.str (if b then"true" else"false")) σ):Ph (n+2) 0 358 [.bool b] σ K KE:=by
 refine aK (k:=1) (d:=[.int 6,.none]) (r:=1) (m:=zZ) rfl rfl rfl ?_;refine aK (k:=1) (d:=[]) (r:=0) (m:=qd) rfl rfl rfl (bQ rfl ⟨by decide,gx rfl ?_⟩);refine g6 (show aD "bool" "thing"=false from by rw[cC];decide+kernel) ?_;refine g6 (show aD "bool" "sym"=false from by rw[cC];decide+kernel) ?_;refine g6 (show aD "bool" "nil"=false from by rw[cC];decide+kernel) ?_;refine kS aQ ?_;cases b<;>exact q
theorem jq (q:K (.int i) σ):Ph (n+2) 0 475 [.ref W,.int i] σ K KE:=
 aK (k:=2) (d:=[]) (r:=1) (m:=we) rfl rfl rfl (zF q)
theorem IE (h:Wv σ W s) (hj:j<8) (ho:fM σ (j+1) x) (q:∀σ' s',Po σ σ' W s s'->K (.str (g8.getD (j+1) "")) σ'):
  aO (aP (bH bt (aa (aV 1) (aa (mH 0) ab)))) (ag 358 (aa (aV 1) ab)) (ag 297 (aa (am (aV 0) 48 (aa (aV 1) ab)) ab)) (Ph (n+129)) ⟨[some (.ref W),some x,none],[],[]⟩ σ K KE:=by
 match j,hj,ho,q with
 |0,_,ho,q=>subst ho;exact⟨by decide,gx rfl (yn (q _ _ (.refl h)))⟩
 |1,_,ho,q=>subst ho;exact⟨by decide,gx rfl (yn (q _ _ (.refl h)))⟩
 |2,hj,ho,q=>
  subst ho;exact⟨by decide,gx rfl (h.me rfl rfl (jO h λo σ' s' p m=>kn (z:="Symbol") (p.wd.ms _ m) (by decide+kernel) λa e=>q _ _ (p.ext e)))⟩
 |j+3,hj,ho,q=>
  obtain⟨k,C,f,o,rfl,hk,rfl,ho,m⟩:=ho;exact⟨by decide,uU hk (em (Z4 hj)) (h.me rfl rfl (kJ hk (em (Z4 hj)) (mI (Z4 hj)) ho (kn m (by simpa using (lN (show j+1<6 by exact Z3 hj))) λa e=>q _ _ ((Po.refl h).ext e))))⟩
theorem lQ (h:Wv σ W s) (hj:j<9) (ho:fM σ j x) (q:∀e σ' s',Po σ σ' W s s'->Xc σ' e "TypeError" (kN j)->KE e σ'):Ph (n+130) 0 475 [.ref W,x] σ K KE:=by
 refine aK (k:=2) (d:=[]) (r:=1) (m:=we) rfl rfl rfl (zE hj ho ?_);cases j with
 |zero=>
  subst ho;rw[y5]at q;exact bQ rfl (h.me rfl rfl (kf h (by decide+kernel) q))
 |succ j=>
  obtain⟨a,b⟩:=fP (Z4 hj) ho;rw[yT]at q;refine bQ a ?_;rw[b];refine IE h (Z4 hj) ho λi o f=>?_;exact f.wd.me rfl rfl (I06 (bl (by decide+kernel)) (fh hj).1.1 (fh hj).1.2 (fh hj).2 (fh hj).2 (kf f.wd (by decide+kernel) λe c g l x=>q e c g (f.trans l) x))
noncomputable def oI (x:Option Int):SV:=match x with
 |none=>.none
 |some i=>.int i
noncomputable def bM (i n:Int):Int:=if i<0 then i+n else i
noncomputable def fD (x:Option Int) (n:Int):Int:=match x with
 |none=>0
 |some i=>bM i n
noncomputable def cg (y:Option Int) (b:Bool) (n:Int):Int:=match y with
 |none=>n
 |some i=>bM i n+(if b then 0 else 1)
noncomputable def om (f l:Int):Int:=if l - f>0 then l - f else 0
noncomputable def pJ (f c n:Int):Option (Int×Int):=if f<0∨n<f∨c<0 then none else some (f,if n - f<c then n - f else c)
abbrev Rg (σ:Sg) (k:Nat) (x y:SV) (b:Bool):Prop:=∃i o,d9 σ 140 k i o true [(10,x),(11,y),(12,.bool b)]
def yb (σ:Sg) (p:Option (Int×Int)) (v:SV):Prop:=match p with
 |none=>v=.none
 |some p=>∃t,v=.ref t∧σ.ob t=some (.tup [.int p.1,.int p.2])
variable {f c m:Int} {b:Bool} {x y:Option Int}
theorem tt (C:Int->Prop) {A B:Prop} (f m:Int) (a:C (f+m)->A) (b:C f->B) (q:C (bM f m)):bI (decide (f<0)) A B:=
 bW (λh=>a (by rw[←show bM f m=f+m from Xn h];exact q)) (λh=>b (by rw[show f=bM f m from(Xh h).symm];exact q))
variable {Φ:Nat->eL} {fr:cf}
theorem lq {i:Nat} {v:AE} {K:ft} (h1:fr.loc[i]?=some (some (.int f))) (h2:∀K':KV,K' (.int m) σ->v Φ fr σ K' KE) (hl:Nat.blt i fr.loc.length=true) (q:K .next (fr.put i (.int (f+m))) σ):i8 i v aF Φ fr σ K KE:=by
 refine⟨_,h1,_,rfl,h2 _ ?_⟩;refine kS hl ?_;exact q
theorem iB:bM (x.getD 0) m=fD x m:=by cases x<;>rfl
theorem sN (h:(y==none|| !b)=true):bM (y.getD (-1)) m+1=cg y b m:=by
 cases y with
 |none=>show(if(-1:Int)<0 then -1+m else -1)+1=m;rw[Xn (by decide)];lia
 |some i=>cases b with
  |true=>exact cp h
  |false=>rfl
theorem qX (h:(y==none|| !b)=false):bM (y.getD (-1)) m=cg y b m:=by
 cases y with
 |none=>exact kP h
 |some i=>cases b with
  |true=>exact(Int.add_zero _).symm
  |false=>exact kP h
theorem lA (h:Rg σ k (oI x) (oI y) b) (q:∀t σ',bC σ σ'->σ'.ob t=some (.tup [.int (fD x m),.int (cg y b m)])->K (.ref t) σ'):Ph (n+3) 0 386 [.ref W,.ref k,.int m] σ K KE:=by
 refine tV h λi o d c=>?_;refine aK (k:=3) (d:=[]) (r:=2) (m:=vw) rfl rfl rfl ?_;have A:∀(a:KV) e,a (.int (x.getD 0)) σ->aO (ai .Is (aj (aV 1) 10) aN) (aI 0) (ag 372 (aa (aV 0) (aa (aj (aV 1) 10) ab))) (Ph (n+2)) ⟨some (.ref W)::some (.ref k)::e,[],[]⟩ σ a KE:=λa e q=>by
  cases x with
  |none=>exact g_ c rfl rfl (bQ rfl q)
  |some i=>exact g_ c rfl rfl (bQ rfl (g_ c rfl rfl (js q)))
 have B:∀(a:KV) e,a (.int (y.getD (-1))) σ->aO (ai .Is (aj (aV 1) 11) aN) (jI (aI 1)) (ag 372 (aa (aV 0) (aa (aj (aV 1) 11) ab))) (Ph (n+2)) ⟨some (.ref W)::some (.ref k)::e,[],[]⟩ σ a KE:=λa e q=>by
  cases y with
  |none=>exact g_ c rfl rfl (bQ rfl q)
  |some i=>exact g_ c rfl rfl (bQ rfl (g_ c rfl rfl (js q)))
 have D:∀(a:Bool->Sg->Prop) e,a (y==none|| !b) σ->cD [ai .Is (aj (aV 1) 11) aN,cF (aP (aj (aV 1) 12))] (Ph (n+2)) ⟨some (.ref W)::some (.ref k)::e,[],[]⟩ σ a KE:=λa e q=>by
  cases y with
  |none=>exact g_ c rfl rfl (bQ rfl q)
  |some i=>cases b<;>exact g_ c rfl rfl (bQ rfl (g_ c rfl rfl q))
 have g:∀f l,fD x m=f->cg y b m=l->aq (aU (aa (aV 3) (aa (aV 4) ab))) (Ph (n+2)) ⟨[some (.ref W),some (.ref k),some (.int m),some (.int f),some (.int l)],[],[]⟩ σ (bp K) KE:=λf l p s=>
  ⟨bl rfl,q _ _ Kp.refl.new (by rw[p,s];exact ac)⟩
 refine A _ _ (B _ _ ?_);refine tt (λj=>aw (ai .Lt (aV 4) (aI 0)) (i8 4 (aV 2) aF) (aw (cD [ai .Is (aj (aV 1) 11) aN,cF (aP (aj (aV 1) 12))]) (i8 4 (aI 1) aF) (aq (aU (aa (aV 3) (aa (aV 4) ab))))) (Ph (n+2)) ⟨[some (.ref W),some (.ref k),some (.int m),some (.int j),some (.int (y.getD (-1)))],[],[]⟩ σ (bp K) KE) (x.getD 0) m (λq=>lq rfl (λZ q=>q) rfl q) id ?_;refine tt (λj=>aw (cD [ai .Is (aj (aV 1) 11) aN,cF (aP (aj (aV 1) 12))]) (i8 4 (aI 1) aF) (aq (aU (aa (aV 3) (aa (aV 4) ab)))) (Ph (n+2)) ⟨[some (.ref W),some (.ref k),some (.int m),some (.int (bM (x.getD 0) m)),some (.int j)],[],[]⟩ σ (bp K) KE) (y.getD (-1)) m (λq=>lq rfl (λZ q=>q) rfl q) id ?_;refine D _ _ (rQ (λh=>?_) λh=>?_)
 ·exact lq rfl (λZ q=>q) rfl (g _ _ iB.symm (sN h).symm)
 ·exact g _ _ iB.symm (qX h).symm
theorem jX {D:Prop} (d:K (.ref σ.nx) (σ.new (.tup [.int f,.int (if m - f<c then m - f else c)]))->D) (q:∀v σ',bC σ σ'->yb σ' (pJ f c m) v->K v σ'):bI (decide (f<0)) (K .none σ) (bI (decide (m<f)) (K .none σ) (bI (decide (c<0)) (K .none σ) D)):=by
 have a:(f<0∨m<f∨c<0)->K .none σ:=λh=>q _ _ .refl (by rw[show pJ f c m=none from Xn h];rfl);exact bW (λh=>a (.inl h)) λb=>bW (λh=>a (.inr (.inl h))) λg=>bW (λh=>a (.inr (.inr h))) λe=>
  d<|q _ _ Kp.refl.new (by rw[show pJ f c m=some _ from Xh (by lia)];exact(bv _ rfl ac))
theorem n8 (hl:σ.ob l=some (.list [.ref k])) (h:Rg σ k (oI x) (oI y) b) (q:∀v σ',bC σ σ'->yb σ' (pJ (fD x m) (om (fD x m) (cg y b m)) m) v->K v σ'):Ph (n+4) 0 393 [.ref W,.ref l,.int m] σ K KE:=by
 refine aK (k:=3) (d:=[]) (r:=3) (m:=uo) rfl rfl rfl (ao hl ⟨bl rfl,i_ hl rfl (lA h λt σ' e g=>t_ g rfl ?_)⟩);exact jX (K:=K) (f:=fD x m) (m:=m) (c:=om (fD x m) (cg y b m)) (λq=>⟨bl rfl,q⟩) λv a i h=>q v a (e.trans i) h
theorem oE (hl:σ.ob l=some (.list [.int f,.int c])) (q:∀v σ',bC σ σ'->yb σ' (pJ (bM f m) c m) v->K v σ'):Ph (n+4) 0 393 [.ref W,.ref l,.int m] σ K KE:=by
 refine aK (k:=3) (d:=[]) (r:=3) (m:=uo) rfl rfl rfl (ao hl ⟨bl rfl,i_ hl rfl (js (i_ hl rfl (js ⟨bl rfl,t_ ac rfl ?_⟩)))⟩);refine tt (λb=>aw (cD [ai .Lt (aV 3) (aI 0),ai .Gt (aV 3) (aV 2),ai .Lt (aV 5) (aI 0)]) (aq aN) (aq (aU (aa (aV 3) (aa (bH fi (aa (aV 5) (aa (ap .Sub (aV 2) (aV 3)) ab))) ab)))) (Ph (n+3)) ⟨[some (.ref W),some (.ref l),some (.int m),some (.int b),none,some (.int c)],[],[]⟩ (σ.new (.tup [.int f,.int c])) (bp K) KE) f m (λq=>lq rfl (λZ q=>q) rfl q) id ?_;exact jX (K:=K) (f:=bM f m) (m:=m) (c:=c) (λq=>⟨bl rfl,q⟩) λv a e h=>q v a (Kp.refl.new.trans e) h
theorem jE {x y:SV} (hw:Wv σ W s) (hj:j<8) (h:Rg σ k x y b) (ho:fM σ (j+1) x∨x=.none∧fM σ (j+1) y) (q:∀e σ' s',Po σ σ' W s s'->Xc σ' e "TypeError" (kN (j+1))->KE e σ'):Ph (n+131) 0 386 [.ref W,.ref k,.int m] σ K KE:=by
 refine tV h λi o d c=>?_;refine aK (k:=3) (d:=[]) (r:=2) (m:=vw) rfl rfl rfl ?_;rcases ho with ho|⟨rfl,ho⟩
 ·obtain⟨a,b⟩:=fP hj ho
  refine g_ c rfl rfl (bQ a ?_);rw[b];exact g_ c rfl rfl (lh hw (Z5 hj) ho q)
 ·obtain⟨a,b⟩:=fP hj ho
  refine g_ c rfl rfl (bQ rfl (g_ c rfl rfl (bQ a ?_)));rw[b];exact g_ c rfl rfl (lh hw (Z5 hj) ho q)
end
inductive Pl|one (i:Int)|two (i c:Int)|rng (x y:Option Int) (b:Bool)|odd (j:Nat)
inductive F9 (σ:Sg) (l j:Nat):Prop
 |b {x y} (h:σ.ob l=some (.list [x,y])) (o:fM σ j x)
 |c {i x} (h:σ.ob l=some (.list [.int i,x])) (o:fM σ j x)
 |d {k x y b j'} (h:σ.ob l=some (.list [.ref k])) (r:Rg σ k x y b) (e:j=j'+1) (o:fM σ (j'+1) x∨x=.none∧fM σ (j'+1) y)
def Hd (σ:Sg) (l:Nat) (p:Pl):Prop:=match p with
 |.one i=>σ.ob l=some (.list [.int i])
 |.two i c=>σ.ob l=some (.list [.int i,.int c])
 |.rng x y b=>∃k,σ.ob l=some (.list [.ref k])∧Rg σ k (oI x) (oI y) b
 |.odd j=>j<9∧((∃x,σ.ob l=some (.list [x])∧j<7∧fM σ j x)∨F9 σ l j)
noncomputable def cG (m:Int) (p:Pl):Option (Int×Int):=match p with
 |.one i=>if 0≤bM i m∧bM i m<m then some (bM i m,1)else none
 |.two i c=>pJ (bM i m) c m
 |.rng x y b=>pJ (fD x m) (om (fD x m) (cg y b m)) m
 |.odd _=>none
section
variable {σ σ' σ1 σ0:Sg} {W:Nat} {s s' s1:Ws} {n C:Nat} {K:KV} {KE:KX} {z msg:Str} {k o l:Nat} {i f c m:Int} {fz b:Bool} {x y:Option Int} {xs:List SV} {r:List (Nat×SV)}
theorem gH {p:Int×Int} (h:pJ f c m=some p):0≤p.1∧0≤p.2∧p.1+p.2≤m:=by
 unfold pJ at h;split at h
 ·exact cX h
 ·obtain rfl:=jS h
  show 0≤f∧0≤(if m - f<c then m - f else c)∧f+(if m - f<c then m - f else c)≤m;split<;>omega
variable {j D:Nat}
theorem lJ {v:SV} (hj:j<9) (ho:fM σ j v) (hD:(dR.contains D&& !Nat.beq D 40&& !Nat.beq ([0,0,0,0,82,120,40,62,140].getD j 0) D)=true) {K:Bool->Prop} (q:K false):tE σ v D K:=by
 obtain⟨d,g⟩:=(WU _ _).mp hD;have a:=((WU _ _).mp d).1
 match j,hj,ho with
 |0,_,ho=>subst ho;exact⟨⟨rfl,a⟩,q⟩
 |1,_,ho=>subst ho;exact⟨⟨rfl,a⟩,q⟩
 |2,_,ho=>subst ho;exact⟨⟨rfl,a⟩,q⟩
 |3,_,ho=>subst ho;exact⟨⟨rfl,a⟩,q⟩
 |j+4,hj,ho=>
  refine sD ho λk C f o b e c ho m=>?_;obtain rfl:=b;obtain rfl:=c;refine ao e ⟨false,?_,q⟩;unfold IC;rw[em (Z4 hj),d];show some _=_;rw[show Nat.beq ([0,0,0,0,82,120,40,62,140].getD (j+4) 0) D=false from by simpa using g]
theorem kA (hw:Wv σ W s) (hj:j<9) (h:F9 σ l j) (q:∀e σ' s',Po σ σ' W s s'->Xc σ' e "TypeError" (kN j)->KE e σ'):Ph (n+132) 0 393 [.ref W,.ref l,.int m] σ K KE:=by
 refine aK (k:=3) (d:=[]) (r:=3) (m:=uo) rfl rfl rfl ?_;cases h with
 |b h o=>exact ao h ⟨bl rfl,i_ h rfl (lh hw hj o q)⟩
 |c h o=>exact ao h ⟨bl rfl,i_ h rfl (js (i_ h rfl (lh hw hj o q)))⟩
 |d h r e o=>
  subst e;exact ao h ⟨bl rfl,i_ h rfl (jE hw (Z4 hj) r o q)⟩
theorem ol (q:K (.int (bM i m)) σ):Ph (n+3) 0 400 [.ref W,.int i,.int m] σ K KE:=
 aK (k:=3) (d:=[]) (r:=1) (m:=u9) rfl rfl rfl (js (tt (λf=>K (.int f) σ) i m id id q))
theorem l6 {x:SV} (hw:Wv σ W s) (hj:j<9) (ho:fM σ j x) (q:∀e σ' s',Po σ σ' W s s'->Xc σ' e "TypeError" (kN j)->KE e σ'):Ph (n+131) 0 400 [.ref W,x,.int m] σ K KE:=
 aK (k:=3) (d:=[]) (r:=1) (m:=u9) rfl rfl rfl (lh hw hj ho q)
variable {Φ:Nat->eL} {fr:cf}
theorem f9 {x:SV} {K:ft} {a r:AS} (h2:fr.loc[2]?=some (some (.ref l))) (h:σ.ob l=some (.list [x])) (hx:∀K:Bool->Prop,K false->tE σ x 140 K) (q:a Φ fr σ (kX (λfr σ=>r Φ fr σ K KE) K) KE):aw (bO [ai .Eq (bH aZ (aa (aV 2) ab)) (aI 1),cF (aP (bH bt (aa (ax (aV 2) (aI 0)) (aa (aG 140) ab))))]) a r Φ fr σ K KE:=by
 obtain⟨b,c,d⟩:=fr
 match b,h2 with
 |_::_::v::_,h2=>
  have:v=some (.ref l):=W7 h2;subst this;exact ao h ⟨bl rfl,i_ h rfl (hx _ q)⟩
theorem FH {a o li:Nat} (hs:d9 σ 82 a f o fz [(7,.ref li)]) (hl:σ.ob li=some (.list xs)) (hx:xs.length≤1000) (h:σ.ob l=some (.list [.int i])) (q:∀v,(∀p,cG xs.length (.one i)=some p->xs[p.1.toNat]?=some v)->(cG xs.length (.one i)=none->v=.none)->K v σ):Ph (n+4) 0 447 [.ref W,.ref a,.ref l] σ K KE:=by
 obtain⟨d,hs⟩:=hs;refine aK (k:=3) (d:=[]) (r:=1) (m:=u7) rfl rfl rfl (i_ h rfl (g_ hs rfl rfl (ao hl ⟨by exact Z1 hx,ol ?_⟩)));refine bW (λc=>g_ hs rfl rfl (ao hl ⟨by exact Z1 hx,bW (λg=>?_) λg=>?_⟩)) λc=>?_
 ·refine g_ hs rfl rfl (ao hl (bW (λh=>absurd h (hO c)) λZ=>⟨⟨c,by exact XdP g hx⟩,?_⟩))
  have e:cG xs.length (.one i)=some (bM i xs.length,1):=Xn ⟨c,g⟩;have j:(bM i xs.length).toNat<xs.length:=by exact QD c g
  refine⟨_,Xf j,q _ (λp b=>?_) λh=>by rw[e]at h;exact zG h⟩;rw[e]at b;obtain rfl:=jS b;exact Xf j
 ·exact q _ (λp b=>by rw[show cG xs.length (.one i)=none from Xh (PS g)]at b;exact cX b) λZ=>rfl
 ·exact q _ (λp b=>by rw[show cG xs.length (.one i)=none from Xh (L4 c)]at b;exact cX b) λZ=>rfl
def Wt (σ:Sg) (l:Nat):Prop:=(∃x y,σ.ob l=some (.list [x,y]))∨∃k x y b,σ.ob l=some (.list [.ref k])∧Rg σ k x y b
noncomputable def MA (p:Pl):Bool:=match p with
 |.two _ _=>true
 |.rng _ _ _=>true
 |_=>false
variable {p:Pl}
theorem Hd.two (h:Hd σ l p) (hp:MA p=true):Wt σ l:=by
 cases p with
 |one i=>exact cp hp
 |odd j=>exact cp hp
 |two i c=>exact .inl (rU _ _ h)
 |rng x y b=>refine bn h λk h r=>?_;exact .inr (yx k _ _ _ h r)
theorem F9.two (h:F9 σ l j):Wt σ l:=by
 cases h with
 |b h o=>exact .inl (rU _ _ h)
 |c h o=>exact .inl (rU _ _ h)
 |d h r e o=>exact .inr (yx _ _ _ _ h r)
theorem tD (h:Hd σ l p) (hp:MA p=true) (q:∀v σ',bC σ σ'->yb σ' (cG m p) v->K v σ'):Ph (n+4) 0 393 [.ref W,.ref l,.int m] σ K KE:=by
 cases p with
 |one i=>exact cp hp
 |odd j=>exact cp hp
 |two i c=>exact oE h q
 |rng x y b=>refine bn h λk h r=>?_;exact n8 h r q
theorem gj {K:ft} {a r:AS} (h2:fr.loc[2]?=some (some (.ref l))) (h:Wt σ l) (q:r Φ fr σ K KE):aw (bO [ai .Eq (bH aZ (aa (aV 2) ab)) (aI 1),cF (aP (bH bt (aa (ax (aV 2) (aI 0)) (aa (aG 140) ab))))]) a r Φ fr σ K KE:=by
 obtain⟨c,e,f⟩:=fr
 match c,h2 with
 |_::_::v::_,h2=>
  have:v=some (.ref l):=W7 h2;subst this;rcases h with⟨x,y,h⟩|⟨k,x,y,b,h,i,o,d,r⟩
  ·exact ao h ⟨bl rfl,q⟩
  ·exact ao h ⟨bl rfl,i_ h rfl (uz r rfl q)⟩
variable {α:Type}
noncomputable def c9 (xs:List α) (p:Int×Int):List α:=(xs.drop p.1.toNat).take p.2.toNat
theorem hY {xs:List α} {p:Int×Int}:(c9 xs p).length≤xs.length:=by
 unfold c9;rw[YH,Y2];omega
def FG (σ:Sg) (n:Int) (v:SV) (xs:List SV):Prop:=∃k i o l,v=.ref k∧n<i∧Mo σ "Array" o∧Li σ k i o false l xs
def vF (σ:Sg) (n:Int) (v:SV) (z:Str):Prop:=∃k i o,v=.ref k∧n<i∧Mo σ "String" o∧d9 σ 62 k i o false [(6,.str z)]
theorem Nw.pre (e:bC σ σ1) (h:Nw σ1 σ' W s s' k i):Nw σ σ' W s s' k i:=⟨⟨h.p.wd,h.p.ev,e.to.trans h.p.kp⟩,WX e.nx h.fr,h.i0,h.i1⟩
theorem Uv {a o:Nat} {li:Nat} (hs:d9 σ 82 a f o fz [(7,.ref li)]) (hl:σ.ob li=some (.list xs)) (hx:xs.length≤1000) (h:σ.ob l=some (.list [.int i])) (q:∀v,(∀p,cG xs.length (.one i)=some p->xs[p.1.toNat]?=some v)->(cG xs.length (.one i)=none->v=.none)->K v σ):Ph (n+5) 0 454 [.ref W,.ref a,.ref l] σ K KE:=
 aK (k:=3) (d:=[]) (r:=1) (m:=rG) rfl rfl rfl (f9 rfl h (λK q=>⟨⟨rfl,rfl⟩,q⟩) (FH hs hl hx h q))
theorem yd {a o:Nat} {li:Nat} (hw:Wv σ W s) (hs:d9 σ 82 a f o fz [(7,.ref li)]) (hl:σ.ob li=some (.list xs)) (hx:xs.length≤1000) (h:Hd σ l p) (hp:MA p=true)
  (q0:∀σ',bC σ σ'->cG xs.length p=none->K .none σ') (q1:∀v σ' s' r,cG xs.length p=some r->Po σ σ' W s s'->FG σ' s.n v (c9 xs r)->K v σ'):Ph (n+130) 0 454 [.ref W,.ref a,.ref l] σ K KE:=by
 obtain⟨d,hs⟩:=hs;refine aK (k:=3) (d:=[]) (r:=1) (m:=rG) rfl rfl rfl (gj rfl (h.two hp) (g_ hs rfl rfl (ao hl ⟨by exact Z1 hx,tD h hp λv z e q=>?_⟩)));cases hq:cG xs.length p with
 |none=>
  rw[hq]at q;subst q;exact bQ rfl (q0 _ e hq)
 |some r=>
  rw[hq]at q;refine bn q λt u w=>?_;obtain rfl:=u;have g:0≤r.1∧0≤r.2∧r.1+r.2≤xs.length:=by
   cases p with
   |one i=>exact cp hp
   |odd j=>exact cp hp
   |two i c=>exact gH hq
   |rng x y b=>exact gH hq
  refine bQ rfl ((hw.up e).me rfl rfl (g_ (e.ob _ _ hs trivial) rfl rfl (i_ w rfl (i_ w rfl (i_ w rfl (ao (e.ob _ _ hl trivial) (eQ (Z1 hx) (eQ g.1 (va g.2.1) (DY g.1 g.2.1 g.2.2)) ?_)))))));have E:(xs.drop r.1.toNat).take ((r.1+r.2).toNat - r.1.toNat)=c9 xs r:=by
   unfold c9;congr 1;exact LR g
  rw[E];have B:bC σ (z.new (.list (c9 xs r))):=e.new;refine iy (hw.up B) ac (WX hY (Z1 hx)) λk i o F C G A H D li=>?_;exact q1 _ _ _ _ hq (A.pre B).p (H6 _ _ _ _ rfl A.i0 D li)
noncomputable def SH (o:SO):Bool:=match o with
 |.inst C _=>Nat.beq C 834||Nat.beq C 228
 |.dic _=>true
 |.dic0=>true
 |.ctab _ _=>true
 |.code _=>true
 |_=>false
abbrev qs (j:Nat):Sg->Sg->Prop:=Kp λk o=>fm o=true∧k≠j
noncomputable def fY (xs:List α) (p:Int×Int):List α:=xs.take p.1.toNat++xs.drop (p.1+p.2).toNat
variable {a li ow:Nat} {v:SV}
theorem iw {o:SO} (h:Wv σ W s) (b:dB j σ σ') (hj:σ.ob j=some o) (ho:SH o=false):Wv σ' W s:=by
 obtain⟨⟨v,C,B,t,x,w⟩,m,r,n,f,y,D,F⟩:=h;have a:∀{k o2},σ.ob k=some o2->SH o2=true->k≠j:=λl e A=>by
  rw[A,hj]at l;obtain rfl:=jS l;rw[ho]at e;exact cp e
 have z:SH (eR s.ks)=true:=by
  unfold eR;split<;>rfl
 refine⟨iG v C B t x ⟨b.ob _ _ w.w (a w.w rfl),w.ne,b.ob _ _ w.d0 (a w.d0 rfl),b.ob _ _ w.d1 (a w.d1 rfl)⟩,b.ob _ _ m (a m z),λp u=>?_,n,f,y,jy D b λk o h c=>a h (by cases o<;>first|rfl|exact cp c),F⟩;refine gz (r p u) λi E g q d h=>?_;exact(iG i E g q d (b.ob _ _ h (a h rfl)))
theorem Kp.stx (e:fV σ σ'):qs k σ σ':=⟨e.nx,λj o h p=>e.ob j o h p.1⟩
theorem dB.stx (e:dB k σ σ'):qs k σ σ':=⟨e.nx,λj o h p=>e.ob j o h p.2⟩
theorem iD {d:Nat} (h:σ.ob a=some (.inst 82 (fW i (.ref ow) d false r))) (q:K .none σ):Ph (n+1) 0 379 [.ref W,.ref a] σ K KE:=
 aK (k:=2) (d:=[]) (r:=0) (m:=Ds) rfl rfl rfl (g_ h rfl rfl q)
theorem DX (hs:d9 σ 82 a f ow false [(7,.ref li)]) (hl:σ.ob li=some (.list xs)) (hx:xs.length≤1000) (h:σ.ob l=some (.list [.int i])) (q0:cG xs.length (.one i)=none->K .none σ)
  (q1:∀v r σ',cG xs.length (.one i)=some r->xs[r.1.toNat]?=some v->dB li σ σ'->σ'.ob li=some (.list (fY xs r))->K v σ'):Ph (n+5) 0 461 [.ref W,.ref a,.ref l] σ K KE:=by
 obtain⟨d,hs⟩:=hs;refine aK (k:=3) (d:=[]) (r:=2) (m:=qT) rfl rfl rfl (iD hs (f9 rfl h (λK q=>⟨⟨rfl,rfl⟩,q⟩) ?_));refine aK (k:=3) (d:=[]) (r:=1) (m:=xH) rfl rfl rfl (iD hs (i_ h rfl (g_ hs rfl rfl (ao hl ⟨by exact Z1 hx,ol ?_⟩))));refine bW (λb=>g_ hs rfl rfl (ao hl ⟨by exact Z1 hx,bW (λc=>?_) λc=>?_⟩)) λb=>?_
 ·have e:cG xs.length (.one i)=some (bM i xs.length,1):=Xn ⟨b,c⟩
  have g:(bM i xs.length).toNat<xs.length:=by exact QD b c
  refine g_ hs rfl rfl ⟨ao hl trivial,ao hl ⟨xs.take (bM i xs.length).toNat,xs[(bM i xs.length).toNat],xs.drop ((bM i xs.length).toNat+1),?_,?_,by exact Z1 hx,?_⟩⟩
  ·rw[List.getElem_cons_drop,ZW]
  ·rw[YH];lia
  ·refine q1 _ _ _ e (Xf g) (Kp.refl.set λZ Z h=>h rfl) ?_
   rw[show fY xs (bM i xs.length,1)=xs.take (bM i xs.length).toNat++xs.drop ((bM i xs.length).toNat+1) from by
    unfold fY;congr 2;show(bM i xs.length+1).toNat=_;exact Xft b]
   exact aE hl
 ·exact q0 (Xh (PS c))
 ·exact q0 (Xh (L4 b))
theorem rz (hw:Wv σ W s) (hs:d9 σ 82 a f ow false [(7,.ref li)]) (hl:σ.ob li=some (.list xs)) (hx:xs.length≤1000) (h:Hd σ l p) (hp:MA p=true)
  (q0:∀σ',bC σ σ'->cG xs.length p=none->K .none σ') (q1:∀v σ' s' r,cG xs.length p=some r->Wv σ' W s'->Wn s s'->qs li σ σ'->σ'.ob li=some (.list (fY xs r))->FG σ' s.n v (c9 xs r)->K v σ'):Ph (n+130) 0 461 [.ref W,.ref a,.ref l] σ K KE:=by
 obtain⟨d,hs⟩:=hs;refine aK (k:=3) (d:=[]) (r:=2) (m:=qT) rfl rfl rfl (iD hs (gj rfl (h.two hp) (g_ hs rfl rfl (ao hl ⟨by exact Z1 hx,tD h hp λv q w A=>?_⟩))));cases hq:cG xs.length p with
 |none=>
  rw[hq]at A;subst A;exact bQ rfl (q0 _ w hq)
 |some r=>
  rw[hq]at A;refine bn A λt B u=>?_;obtain rfl:=B;have g:0≤r.1∧0≤r.2∧r.1+r.2≤xs.length:=by
   cases p with
   |one i=>exact cp hp
   |odd j=>exact cp hp
   |two i c=>exact gH hq
   |rng x y b=>exact gH hq
  have e:=w.ob _ _ hl trivial;refine bQ rfl (g_ (w.ob _ _ hs trivial) rfl rfl (i_ u rfl (i_ u rfl (i_ u rfl (ao e (eQ (Z1 hx) (eQ g.1 (va g.2.1) (DY g.1 g.2.1 g.2.2)) ?_))))));have I:(xs.drop r.1.toNat).take ((r.1+r.2).toNat - r.1.toNat)=c9 xs r:=by
   unfold c9;congr 1;exact LR g
  rw[I];have E:bC σ (q.new (.list (c9 xs r))):=w.new;refine g_ (ae (o:=.list (c9 xs r)) (w.ob _ _ hs trivial)) rfl rfl (i_ (ae (o:=.list (c9 xs r)) u) rfl (i_ (ae (o:=.list (c9 xs r)) u) rfl (i_ (ae (o:=.list (c9 xs r)) u) rfl (ao (ae (o:=.list (c9 xs r)) e) ⟨gc g.1 (va g.2.1) (DY g.1 g.2.1 g.2.2) (Z1 hx),?_⟩))));have C:dB li (q.new (.list (c9 xs r))) ((q.new (.list (c9 xs r))).set li (.list (fY xs r))):=Kp.refl.set λZ Z h=>h rfl;have D:=iw (hw.up E) C (ae (o:=.list (c9 xs r)) e) rfl;have F:q.nx≠li:=(cx e).symm;refine D.me rfl rfl (iy D (C.ob _ _ ac F) (WX hY (Z1 hx)) λk i o L G M z N H J=>?_);exact q1 _ _ _ _ hq z.p.wd z.p.ev ((E.to.trans C.stx).trans z.p.kp.stx) (z.p.kp.ob _ _ (aE (o:=.list (fY xs r)) (ae (o:=.list (c9 xs r)) e)) rfl) (H6 _ _ _ _ rfl z.i0 H J)
theorem jR (hj:j<7):(dR.contains 140&& !Nat.beq 140 40&& !Nat.beq ([0,0,0,0,82,120,40,62,140].getD j 0) 140)=true:=by
 have:(List.range 7).all (λj=>dR.contains 140&& !Nat.beq 140 40&& !Nat.beq ([0,0,0,0,82,120,40,62,140].getD j 0) 140)=true:=by decide+kernel
 exact WZ.mp this j (XG.mpr hj)
theorem Hj (hj:j<7):(dR.contains 62&& !Nat.beq 62 40&& !Nat.beq ([0,0,0,0,82,120,40,62,140].getD j 0) 62)=true:=by
 have:(List.range 7).all (λj=>dR.contains 62&& !Nat.beq 62 40&& !Nat.beq ([0,0,0,0,82,120,40,62,140].getD j 0) 62)=true:=by decide+kernel
 exact WZ.mp this j (XG.mpr hj)
theorem IW (hw:Wv σ W s) (hs:d9 σ 82 a f ow fz [(7,.ref li)]) (hl:σ.ob li=some (.list xs)) (hx:xs.length≤1000) (h:Hd σ l (.odd j)) (q:∀e σ' s',Po σ σ' W s s'->Xc σ' e "TypeError" (kN j)->KE e σ'):Ph (n+133) 0 454 [.ref W,.ref a,.ref l] σ K KE:=by
 obtain⟨d,hs⟩:=hs;refine aK (k:=3) (d:=[]) (r:=1) (m:=rG) rfl rfl rfl ?_;obtain⟨b,⟨x,h,g,c⟩|h⟩:=h
 ·refine f9 rfl h (λK q=>lJ b c (jR g) q) ?_
  exact aK (k:=3) (d:=[]) (r:=1) (m:=u7) rfl rfl rfl (i_ h rfl (g_ hs rfl rfl (ao hl ⟨by exact Z1 hx,l6 hw b c q⟩)))
 ·exact gj rfl h.two (g_ hs rfl rfl (ao hl ⟨by exact Z1 hx,kA hw b h q⟩))
theorem EN (hw:Wv σ W s) (hs:d9 σ 82 a f ow false [(7,.ref li)]) (hl:σ.ob li=some (.list xs)) (hx:xs.length≤1000) (h:Hd σ l (.odd j)) (q:∀e σ' s',Po σ σ' W s s'->Xc σ' e "TypeError" (kN j)->KE e σ'):Ph (n+133) 0 461 [.ref W,.ref a,.ref l] σ K KE:=by
 obtain⟨d,hs⟩:=hs;refine aK (k:=3) (d:=[]) (r:=2) (m:=qT) rfl rfl rfl (iD hs ?_);obtain⟨b,⟨x,h,g,c⟩|h⟩:=h
 ·refine f9 rfl h (λK q=>lJ b c (jR g) q) ?_
  exact aK (k:=3) (d:=[]) (r:=1) (m:=xH) rfl rfl rfl (iD hs (i_ h rfl (g_ hs rfl rfl (ao hl ⟨by exact Z1 hx,l6 hw b c q⟩))))
 ·exact gj rfl h.two (g_ hs rfl rfl (ao hl ⟨by exact Z1 hx,kA hw b h q⟩))
theorem pS {i:Nat} (h:fr.loc[i]?=some (some v)):aV i Φ fr σ K KE=K v σ:=by
 unfold aV;rw[h]
theorem rK {i j g:Nat} {K:ft} {r:AS} (h1:fr.loc[i]?=some (some (.int f))) (h2:fr.loc[j]?=some (some (.int m))) (hl:Nat.blt g fr.loc.length=true) (q:r Φ (fr.put g (.int (bM f m))) σ K KE):ay (.l g) (aO (ai .Lt (aV i) (aI 0)) (ap .Add (aV i) (aV j)) (aV i)) r Φ fr σ K KE:=by
 unfold ay aO ai ap;rw[pS h1];refine tt (λa=>r Φ (fr.put g (.int a)) σ K KE) f m (λq=>?_) (λq=>?_) q
 ·rw[pS h1,pS h2]
  refine kS hl ?_;exact q
 ·rw[pS h1]
  refine kS hl ?_;exact q
theorem mr (q:∀v σ',bC σ σ'->yb σ' (pJ (bM f m) c m) v->K v σ'):Ph (n+1) 0 489 [.int f,.int c,.int m] σ K KE:=by
 refine aK (k:=3) (d:=[]) (r:=1) (m:=En) rfl rfl rfl ?_;refine rK rfl rfl rfl ?_;exact jX (K:=K) (f:=bM f m) (m:=m) (c:=c) (λq=>⟨bl rfl,q⟩) q
theorem wq (h:Rg σ k (oI x) (oI y) b) (q:∀v σ',bC σ σ'->yb σ' (pJ (fD x m) (om (fD x m) (cg y b m)) m) v->K v σ'):Ph (n+4) 0 496 [.ref W,.ref k,.int m] σ K KE:=by
 refine tV h λi o d c=>?_;refine aK (k:=3) (d:=[]) (r:=4) (m:=uK) rfl rfl rfl ?_;have A:∀(a:KV) fr,a (.int (x.getD 0)) σ->aO (ai .Is (aj (aV 1) 10) aN) (aI 0) (ag 475 (aa (aV 0) (aa (aj (aV 1) 10) ab))) (Ph (n+3)) ⟨some (.ref W)::some (.ref k)::fr,[],[]⟩ σ a KE:=λa fr q=>by
  cases x with
  |none=>exact g_ c rfl rfl (bQ rfl q)
  |some i=>exact g_ c rfl rfl (bQ rfl (g_ c rfl rfl (jq q)))
 have B:∀(a:KV) fr,a (.int (y.getD (-1))) σ->aO (ai .Is (aj (aV 1) 11) aN) (jI (aI 1)) (ag 475 (aa (aV 0) (aa (aj (aV 1) 11) ab))) (Ph (n+3)) ⟨some (.ref W)::some (.ref k)::fr,[],[]⟩ σ a KE:=λa fr q=>by
  cases y with
  |none=>exact g_ c rfl rfl (bQ rfl q)
  |some i=>exact g_ c rfl rfl (bQ rfl (g_ c rfl rfl (jq q)))
 have D:∀(a:Bool->Sg->Prop) fr,a (y==none|| !b) σ->cD [cF (aP (aj (aV 1) 12)),ai .Is (aj (aV 1) 11) aN] (Ph (n+3)) ⟨some (.ref W)::some (.ref k)::fr,[],[]⟩ σ a KE:=λa fr q=>by
  cases y with
  |none=>cases b<;>exact g_ c rfl rfl (by first|exact q|exact g_ c rfl rfl (bQ rfl q))
  |some i=>cases b<;>exact g_ c rfl rfl (by first|exact q|exact g_ c rfl rfl (bQ rfl q))
 have l:∀e,cg y b m=e->ay (.l 6) (aO (ai .Lt (aV 3) (aI 0)) (ap .Add (aV 3) (aV 2)) (aV 3)) (aq (ag 489 (aa (aV 3) (aa (bH iA (aa (aI 0) (aa (ap .Sub (aV 5) (aV 6)) ab))) (aa (aV 2) ab))))) (Ph (n+3)) ⟨[some (.ref W),some (.ref k),some (.int m),some (.int (x.getD 0)),some (.int (y.getD (-1))),some (.int e),none],[],[]⟩ σ (bp K) KE:=λe p=>by
  refine rK rfl rfl rfl ?_;subst p;refine mr ?_;rw[iB];exact q
 refine A _ _ (B _ _ ?_);refine rK (g:=5) (i:=4) (j:=2) (f:=y.getD (-1)) (m:=m) (fr:=⟨[some (.ref W),some (.ref k),some (.int m),some (.int (x.getD 0)),some (.int (y.getD (-1))),none,none],[],[]⟩) rfl rfl rfl ?_;refine D _ _ (rQ (λh=>?_) λh=>?_)
 ·exact lq rfl (λZ q=>q) rfl (l _ (sN h).symm)
 ·exact l _ (qX h).symm
noncomputable abbrev zs (cs:List Nat):Str:=⟨cs.toArray⟩
variable {cs:List Nat} {ρ:Int×Int}
theorem Qp (h0:0≤i) (h1:i≤f) (h2:f≤cs.length):Txt.slice (zs cs) (some i) (some f)=zs ((cs.drop i.toNat).take (f - i).toNat):=XJ (slice_closesL (x:=zs cs) h0 h1 (by show f≤((cs.toArray.size:Nat):Int);rw[Xq];exact h2))
theorem Iu (h0:0≤f) (h2:f≤cs.length):Txt.slice (zs cs) none (some f)=zs (cs.take f.toNat):=by
 have:=XJ (slice_closes_toL (x:=zs cs) h0 (by show f≤((cs.toArray.size:Nat):Int);rw[Xq];exact h2));rw[Int.sub_zero]at this;exact this
theorem HZ (h0:0≤f) (h2:f≤cs.length):Txt.slice (zs cs) (some f) none=zs (cs.drop f.toNat):=by
 have:=XJ (slice_closes_fromL (x:=zs cs) (b:=cs.length) h0 (by show f≤((cs.toArray.size:Nat):Int);rw[Xq];exact h2) (by show _=((cs.toArray.size:Nat):Int);exact Yi _ (Xq)));rw[this];show zs ((cs.drop f.toNat).take _)=_;rw[Yq];rw[Y2];omega
theorem m7 {a b:List Nat}:zs a++zs b=zs (a++b):=by
 show(⟨a.toArray++b.toArray⟩:Str)=_;rw[List.append_toArray]
theorem de:(zs cs).length=cs.length:=Xq ..
theorem qG (h0: -m≤i) (h1:i<m):i % m=bM i m:=by
 unfold bM;split
 ·rw[show i % m=(i+m) % m from by simp];exact Int.emod_eq_of_lt (Xfv h0) (XeP (by assumption))
 ·exact Int.emod_eq_of_lt (Fk (by assumption)) h1
theorem pw (hz:cs.length≤1000) (h:Hd σ l p) (hp:∀j,p≠ .odd j) (q:∀v σ',bC σ σ'->yb σ' (cG cs.length p) v->K v σ'):Ph (n+5) 0 503 [.ref W,.str (zs cs),.ref l] σ K KE:=by
 have a:(zs cs).length≤50000:=by rw[de];exact Z1 hz
 refine aK (k:=3) (d:=[]) (r:=2) (m:=xp) rfl rfl rfl ?_;rw[←de]at q;cases p with
 |odd j=>exact absurd rfl (hp j)
 |two i c=>
  exact ao h ⟨bl rfl,i_ h rfl (jq (i_ h rfl (jq ⟨a,mr q⟩)))⟩
 |rng x y b=>
  refine bn h λk h r=>?_;refine tV r λi o d e=>?_;exact ao h ⟨bl rfl,i_ h rfl (uz e rfl (i_ h rfl (uz e rfl (i_ h rfl ⟨a,wq (w9 i o d e) q⟩))))⟩
 |one i=>
  refine ao h ⟨bl rfl,i_ h rfl ⟨⟨rfl,rfl⟩,i_ h rfl ⟨⟨rfl,rfl⟩,i_ h rfl (jq ⟨a,?_⟩)⟩⟩⟩;refine bW (λf=>⟨a,bW (λg=>(eQ a (by lia) ⟨bl rfl,?_⟩)) λg=>?_⟩) λf=>?_
  ·refine q _ _ Kp.refl.new ?_
   rw[show cG (zs cs).length (.one i)=some (bM i (zs cs).length,1) from Xn (by unfold bM;split<;>lia),qG f g];exact(bv _ rfl ac)
  ·refine q _ _ .refl ?_
   rw[show cG (zs cs).length (.one i)=none from Xh (by unfold bM;split<;>lia)];rfl
  ·refine q _ _ .refl ?_
   rw[show cG (zs cs).length (.one i)=none from Xh (by unfold bM;split<;>lia)];rfl
theorem l9 (hw:Wv σ W s) (hz:cs.length≤1000) (h:Hd σ l (.odd j)) (q:∀e σ' s',Po σ σ' W s s'->Xc σ' e "TypeError" (kN j)->KE e σ'):Ph (n+133) 0 503 [.ref W,.str (zs cs),.ref l] σ K KE:=by
 refine aK (k:=3) (d:=[]) (r:=2) (m:=xp) rfl rfl rfl ?_;obtain⟨g,⟨x,h,t,f⟩|h⟩:=h
 ·exact ao h ⟨bl rfl,i_ h rfl (lJ g f (Hj t) (i_ h rfl (lJ g f (jR t) (i_ h rfl (lQ hw g f q)))))⟩
 ·cases h with
  |b h o=>exact ao h ⟨bl rfl,i_ h rfl (lQ hw g o q)⟩
  |c h o=>exact ao h ⟨bl rfl,i_ h rfl (jq (i_ h rfl (lQ hw g o q)))⟩
  |d h r e o=>
   subst e;refine tV r λi u d p=>?_;refine ao h ⟨bl rfl,i_ h rfl (uz p rfl (i_ h rfl (uz p rfl (i_ h rfl ⟨(by rw[de];exact Z1 hz:(zs cs).length≤50000),?_⟩))))⟩;refine aK (k:=3) (d:=[]) (r:=4) (m:=uK) rfl rfl rfl ?_;rcases o with f|⟨rfl,f⟩
   ·obtain⟨a,b⟩:=fP (Z4 g) f
    refine g_ p rfl rfl (bQ a ?_);rw[b];exact g_ p rfl rfl (lQ hw (Z2 g) f q)
   ·obtain⟨a,b⟩:=fP (Z4 g) f
    refine g_ p rfl rfl (bQ rfl (g_ p rfl rfl (bQ a ?_)));rw[b];exact g_ p rfl rfl (lQ hw (Z2 g) f q)
theorem gI (h:cG m p=some ρ):0≤ρ.1∧0≤ρ.2∧ρ.1+ρ.2≤m:=by
 cases p with
 |one i=>
  have h:(if 0≤bM i m∧bM i m<m then some (bM i m,1)else none)=some ρ:=h;split at h
  ·obtain rfl:=jS h
   show 0≤bM i m∧(0:Int)≤1∧bM i m+1≤m;lia
  ·exact cX h
 |odd j=>exact cX h
 |two i c=>exact gH h
 |rng x y b=>exact gH h
theorem qx (h:0≤ρ.1∧0≤ρ.2∧ρ.1+ρ.2≤cs.length):Txt.slice (zs cs) (some ρ.1) (some (ρ.1+ρ.2))=zs (c9 cs ρ):=by
 rw[Qp h.1 (va h.2.1) h.2.2];unfold c9;congr 4;exact Xe1
theorem AQ (h:0≤ρ.1∧0≤ρ.2∧ρ.1+ρ.2≤cs.length):Txt.slice (zs cs) none (some ρ.1)++Txt.slice (zs cs) (some (ρ.1+ρ.2)) none=zs (fY cs ρ):=by
 rw[Iu h.1 (XdF h.2.2 h.2.1),HZ (XeU h.1 h.2.1) h.2.2,m7];rfl
theorem Dr (hw:Wv σ W s) (hs:d9 σ 62 a f ow fz [(6,.str (zs cs))]) (hz:cs.length≤1000) (h:Hd σ l p) (hp:∀j,p≠ .odd j)
  (q0:∀σ',bC σ σ'->cG cs.length p=none->K .none σ') (q1:∀v σ' s' r,cG cs.length p=some r->Po σ σ' W s s'->vF σ' s.n v (zs (c9 cs r))->K v σ'):Ph (n+130) 0 510 [.ref W,.ref a,.ref l] σ K KE:=by
 obtain⟨d,hs⟩:=hs;have e:(zs cs).length≤50000:=by rw[de];exact Z1 hz
 refine aK (k:=3) (d:=[]) (r:=1) (m:=xC) rfl rfl rfl (g_ hs rfl rfl (pw hz h hp λv y b c=>?_));cases hq:cG cs.length p with
 |none=>
  rw[hq]at c;subst c;exact bQ rfl (q0 _ b hq)
 |some r=>
  rw[hq]at c;refine bn c λt q g=>?_;obtain rfl:=q;refine bQ rfl ((hw.up b).me rfl rfl (g_ (b.ob _ _ hs trivial) rfl rfl (i_ g rfl (i_ g rfl (i_ g rfl ⟨e,?_⟩)))));refine fS (hw.up b) λk i o x z u w tx=>q1 _ _ _ _ hq (u.pre b).p (gW _ _ _ rfl u.i0 w ?_);rw[←qx (gI hq)];exact tx
theorem Mo.but {o:SO} (mo:Mo σ z k) (b:dB j σ σ') (hj:σ.ob j=some o) (ho:SH o=false):Mo σ' z k:=by
 refine gz mo λi c a f d h=>?_;refine(iG i c a f d (b.ob _ _ h λe=>?_));rw[e,hj]at h;obtain rfl:=jS h;exact kP ho
theorem tz {d:Nat} (h:σ.ob a=some (.inst 62 (fW i (.ref ow) d false r))) (q:K .none σ):Ph (n+1) 0 482 [.ref W,.ref a] σ K KE:=
 aK (k:=2) (d:=[]) (r:=0) (m:=BN) rfl rfl rfl (g_ h rfl rfl q)
theorem DW (hw:Wv σ W s) (hs:d9 σ 62 a f ow false [(6,.str (zs cs))]) (hz:cs.length≤1000) (h:Hd σ l p) (hp:∀j,p≠ .odd j)
  (q0:∀σ',bC σ σ'->cG cs.length p=none->K .none σ') (q1:∀v σ' s' r,cG cs.length p=some r->Wv σ' W s'->Wn s s'->qs a σ σ'->d9 σ' 62 a f ow false [(6,.str (zs (fY cs r)))]->vF σ' s.n v (zs (c9 cs r))->K v σ'):Ph (n+130) 0 517 [.ref W,.ref a,.ref l] σ K KE:=by
 obtain⟨d,hs⟩:=hs;have c:(zs cs).length≤50000:=by rw[de];exact Z1 hz
 refine aK (k:=3) (d:=[]) (r:=2) (m:=wF) rfl rfl rfl (tz hs (g_ hs rfl rfl (pw hz h hp λv C y z=>?_)));cases hq:cG cs.length p with
 |none=>
  rw[hq]at z;subst z;exact bQ rfl (q0 _ y hq)
 |some r=>
  rw[hq]at z;refine bn z λt B u=>?_;obtain rfl:=B;have D:=hw.up y;have q:=y.ob _ _ hs trivial;refine bQ rfl (D.me rfl rfl (g_ q rfl rfl (i_ u rfl (i_ u rfl (i_ u rfl ⟨c,?_⟩)))));refine fS D λk i o w F g E tx=>?_;rw[qx (gI hq)]at tx;have b:=g.p.kp.ob _ _ q rfl;refine g_ b rfl rfl (i_ (g.p.kp.ob _ _ u rfl) rfl ⟨c,g_ b rfl rfl (i_ (g.p.kp.ob _ _ u rfl) rfl (i_ (g.p.kp.ob _ _ u rfl) rfl (eQ c ⟨WX (Txt.slice_le _ _ _) c,WX (Txt.slice_le _ _ _) c⟩ (lT b rfl ?_))))⟩);have H:k≠a:=λe=>absurd (C.wf _ _ q) (by rw[←e];exact YM.mpr g.fr);have A:dB a w (w.set a (.inst 62 (fW f (.ref ow) d false [(6,.str (zs (fY cs r)))]))):=Kp.refl.set λZ Z h=>h rfl;obtain⟨G,tx⟩:=tx;have x:=q1 (.ref k) _ F r hq (iw g.p.wd A b rfl) g.p.ev ((y.to.trans g.p.kp.stx).trans A.stx) ⟨d,aE b⟩ (gW _ _ _ rfl g.i0 (E.but A b rfl) ⟨G,A.ob _ _ tx H⟩);rw[←AQ (gI hq)]at x;exact x
theorem wZ (hw:Wv σ W s) (hs:d9 σ 62 a f ow fz [(6,.str (zs cs))]) (hz:cs.length≤1000) (h:Hd σ l (.odd j)) (q:∀e σ' s',Po σ σ' W s s'->Xc σ' e "TypeError" (kN j)->KE e σ'):Ph (n+134) 0 510 [.ref W,.ref a,.ref l] σ K KE:=by
 obtain⟨d,hs⟩:=hs;exact aK (k:=3) (d:=[]) (r:=1) (m:=xC) rfl rfl rfl (g_ hs rfl rfl (l9 hw hz h q))
theorem vd (hw:Wv σ W s) (hs:d9 σ 62 a f ow false [(6,.str (zs cs))]) (hz:cs.length≤1000) (h:Hd σ l (.odd j)) (q:∀e σ' s',Po σ σ' W s s'->Xc σ' e "TypeError" (kN j)->KE e σ'):Ph (n+134) 0 517 [.ref W,.ref a,.ref l] σ K KE:=by
 obtain⟨d,hs⟩:=hs;exact aK (k:=3) (d:=[]) (r:=2) (m:=wF) rfl rfl rfl (tz hs (g_ hs rfl rfl (l9 hw hz h q)))
noncomputable def yq (j:Nat):Str:=match j with
 |0=>"from nil to integer"
 |j=>"of "++g8.getD j ""++" into Integer"
noncomputable def dW (j:Nat):Str:="TypeError: no implicit conversion "++yq j
variable {kT P:Nat}
theorem SN (hj:j<9):"TypeError"++": "++kN j=dW j:=by
 have:(List.range 9).all (λj=>"TypeError"++": "++kN j==dW j)=true:=by decide+kernel
 exact XJ (WZ.mp this j (XG.mpr hj))
theorem Tu (hj:j<9):(kN j).length≤50000:=by
 have:(List.range 9).all (λj=>Nat.ble (kN j).length 50000)=true:=by decide+kernel
 exact bl (WZ.mp this j (XG.mpr hj))
variable {ln col:Nat}
theorem yR {q:Str} (h:mL σ kT P q) (g:∀k kc σ',dB kT σ σ'->σ'.ob k=some (.clo j cs kc)->σ'.ob kc=some (.code q)->mL σ' kT P q->K (.ref k) σ'):gY σ j q kT P cs ln col K:=by
 refine bn h λa h e=>?_;unfold gY;refine ao h ⟨rfl,?_⟩;cases hf:fC a ln col with
 |some p=>
  have hp:=e p (Yh hf);exact g _ _ _ Kp.refl.new ac (ae hp) (bv a (ae h) (λp hp=>ae (e p hp)))
 |none=>
  have b:dB kT σ (((σ.new (.code q)).set kT (.ctab P (a++[((ln,col),σ.nx)]))).new (.clo j cs σ.nx)):=(Kp.refl.new.set λZ Z h=>h rfl).new;have c:(((σ.new (.code q)).set kT (.ctab P (a++[((ln,col),σ.nx)]))).new (.clo j cs σ.nx)).ob σ.nx=some (.code q):=ae ((au (cx h).symm).trans ac);refine g _ _ _ b ac c (bv _ (ae (aE (ae h))) (λp hp=>?_));rcases W6.mp hp with hp|hp
  ·exact b.ob _ _ (e p hp) λd=>by have:=e p hp;rw[d,h]at this;cases this
  ·cases XA.mp hp
   exact c
variable {es:List ((Nat×Nat)×Nat)}
theorem q9 (h:Wv σ W s) (b:dB kT σ σ') (hj:σ.ob kT=some (.ctab P es)) (tb:mL σ' 0 920 (aT 0).qual∧mL σ' 1 932 (aT 2).qual):Wv σ' W s:=by
 obtain⟨⟨r,y,x,o,t,w⟩,m,n,j,e,u,_,A⟩:=h;have a:∀{k o2},σ.ob k=some o2->o2≠ .ctab P es->k≠kT:=λg c v=>by
  rw[v,hj]at g;obtain rfl:=jS g;exact c rfl
 refine⟨iG r y x o t ⟨b.ob _ _ w.w (a w.w nofun),w.ne,b.ob _ _ w.d0 (a w.d0 nofun),b.ob _ _ w.d1 (a w.d1 nofun)⟩,b.ob _ _ m (a m (by unfold eR;split<;>exact nofun)),λp q=>?_,j,e,u,tb,A⟩;refine gz (n p q) λi z f l d h=>?_;exact(iG i z f l d (b.ob _ _ h (a h nofun)))
theorem pd (b:dB kT σ σ') (hj:σ.ob kT=some (.ctab P es)):fV σ σ':=⟨b.nx,λk o h p=>b.ob k o h λe=>by
 rw[e,hj]at h;obtain rfl:=jS h;exact cp p⟩
theorem kz (hw:Wv σ W s) (g:∀k kc σ',Wv σ' W s->fV σ σ'->σ'.ob k=some (.clo j cs kc)->σ'.ob kc=some (.code (aT 0).qual)->K (.ref k) σ'):gY σ j (aT 0).qual 0 920 cs ln col K:=by
 refine bn hw.tb.1 λl h e=>?_;refine yR (bv l h e) λk kc σ' b i m t=>?_;have s:=pd b h;exact g k kc σ' (q9 hw b h ⟨t,by
  refine bn hw.tb.2 λa d c=>?_;exact(bv a (b.ob _ _ d (by decide)) (λp f=>s.ob _ _ (c p f) rfl))⟩) s i m
theorem qI (hw:Wv σ W s) (g:∀k kc σ',Wv σ' W s->fV σ σ'->σ'.ob k=some (.clo j cs kc)->σ'.ob kc=some (.code (aT 2).qual)->K (.ref k) σ'):gY σ j (aT 2).qual 1 932 cs ln col K:=by
 refine bn hw.tb.2 λl h e=>?_;refine yR (bv l h e) λk kc σ' b i m t=>?_;have s:=pd b h;exact g k kc σ' (q9 hw b h ⟨by
  refine bn hw.tb.1 λa d c=>?_;exact(bv a (b.ob _ _ d (by decide)) (λp f=>s.ob _ _ (c p f) rfl)),t⟩) s i m
theorem FZ {φ:qh} {args:List SV} (e:gq xz (10000+j)=φ) (h:φ (Ph n) args σ K KE):Ph (n+1) 0 (10000+j) args σ K KE:=by
 have a:Ph (n+1) 0 (10000+j) args σ K KE=F (Ph n) (10000+j) args σ K KE:=by
  unfold Ph;rfl
 rw[a];unfold F;rw[show Nat.blt (10000+j) 10000=false from by
  cases h:Nat.blt (10000+j) 10000 with
  |false=>rfl
  |true=>rw[YW]at h;omega]
 subst e;exact h
theorem fv {m:AE} {kc:Nat} (e:gq xz (10000+j)=mX j m) (hk:σ.ob k=some (.clo j cs kc)) (hc:σ.ob kc=some (.code (aT j).qual))
  (q:∀KE:KX,(∀e σ' i,i<9->Xc σ' e "TypeError" (kN i)->K (.str (dW i)) σ'->KE e σ')->m (Ph n) ⟨[],cs,[]⟩ σ K KE):Ph (n+2) 0 918 [.ref k] σ K KE:=by
 refine dh (φ:=mY) rfl rfl ⟨rfl,⟨_,rfl,_,rfl,ao hk (FZ e (ao hk ⟨rfl,ao hc ⟨rfl,q _ ?_⟩⟩))⟩⟩;intro A σ' i c s b;refine jC s λd B f h a=>?_;obtain⟨D,v,t,⟨C,g⟩,⟨x,r,p,w,u,l⟩,y,E,z,o⟩:=a;refine⟨by decide,⟨_,rfl,_,rfl,ao f (ao h ⟨rfl,_,rfl,ao g ⟨rfl,_,rfl,ao l ⟨rfl,_,rfl,?_⟩⟩⟩)⟩⟩;refine⟨⟨bl (by decide+kernel),bl (by decide+kernel)⟩,⟨_,rfl,_,rfl,ao f (ao h ⟨rfl,_,rfl,ao g ⟨rfl,_,rfl,ao o ⟨rfl,_,rfl,⟨bl (by decide+kernel),Tu c⟩,?_⟩⟩⟩)⟩⟩;rw[SN c];exact b
def jo (σ:Sg) (k:Nat) (p:Pl):Prop:=match p with
 |.one i=>σ.ob k=some (.tup [.str "one",.int i,.int 0,.bool false])
 |.two i c=>σ.ob k=some (.tup [.str "two",.int i,.int c,.bool false])
 |.rng x y b=>σ.ob k=some (.tup [.str "range",oI x,oI y,.bool b])
 |.odd j=>σ.ob k=some (.tup [.str "odd",.str (dW j),.int 0,.bool false])
noncomputable def fK (r:Int×Int):List Int:=(List.range r.2.toNat).map λk:Nat=>r.1+k
def gX (σ:Sg) (v:SV) (m:Int) (p:Pl):Prop:=match cG m p with
 |none=>v=.none
 |some r=>∃t l,v=.ref t∧σ.ob t=some (.tup [.int r.1,.ref l])∧σ.ob l=some (.list ((fK r).map .int))
variable {pl hl:Nat} {v2:SV}
theorem dq:(fK ρ).length=ρ.2.toNat:=by
 unfold fK;rw[W0,Yg]
theorem jo.up (h:jo σ k p) (e:fV σ σ'):jo σ' k p:=by
 cases p<;>exact e.ob _ _ h rfl
theorem gX.up (h:gX σ v m p) (e:fV σ σ'):gX σ' v m p:=by
 unfold gX at h ⊢;cases hq:cG m p with
 |none=>rw[hq]at h;exact h
 |some r=>
  rw[hq]at h;obtain⟨t,l,rfl,h,h2⟩:=h;exact(j6 t l rfl (e.ob _ _ h rfl) (e.ob _ _ h2 rfl))
theorem Rg.up {x y:SV} (h:Rg σ k x y b) (e:fV σ σ'):Rg σ' k x y b:=by
 refine mZ h λi o h=>?_;exact(rU i o (h.up rfl e))
theorem F9.up (hj:j<9) (h:F9 σ l j) (e:fV σ σ'):F9 σ' l j:=by
 cases h with
 |b h o=>exact .b (e.ob _ _ h rfl) (o.up hj e)
 |c h o=>exact .c (e.ob _ _ h rfl) (o.up hj e)
 |d h r e2 o=>
  subst e2;exact .d (e.ob _ _ h rfl) (r.up e) rfl (o.imp (λo=>o.up hj e) λo=>⟨o.1,o.2.up hj e⟩)
theorem Hd.up (h:Hd σ l p) (e:fV σ σ'):Hd σ' l p:=by
 cases p with
 |one i=>exact e.ob _ _ h rfl
 |two i c=>exact e.ob _ _ h rfl
 |rng x y b=>refine bn h λk h r=>?_;exact(bv k (e.ob _ _ h rfl) (r.up e))
 |odd j=>
  obtain⟨a,⟨x,h,d,o⟩|h⟩:=h
  ·exact⟨a,.inl (jn x (e.ob _ _ h rfl) d (o.up a e))⟩
  ·exact⟨a,.inr (h.up a e)⟩
theorem Wd {a b c:Option SV} {K:List Nat->Sg->Prop} (q:∀σ' k0 k1 k2,bC σ σ'->σ'.ob k0=some (.cell a)->σ'.ob k1=some (.cell b)->σ'.ob k2=some (.cell c)->K [k0,k1,k2] σ'):Hu [a,b,c] σ K:=
 q _ _ _ _ Kp.refl.new.new.new (ae (ae ac)) (ae ac) ac
theorem gu:aD "one" "odd"=false∧aD "two" "odd"=false∧aD "range" "odd"=false∧aD "one" "two"=false∧aD "range" "two"=false∧aD "two" "one"=false∧aD "range" "one"=false:=by
 simp only[cC];decide+kernel
theorem LQ:(aT 1).qual=(aT 0).qual:=by kernel_rfl
theorem NZ:(aT 3).qual=(aT 2).qual:=by kernel_rfl
theorem t8 {x y:SV} {d:PyData} {K:Bool->Prop} (hx:yQ σ x d) (hy:yQ σ y d) (hs:SeqAt.shaped d=true) (q:K true):We σ x y K:=⟨d,d,hx,hy,by rw[hs];rfl,by rw[SeqAt.eqv_refl d (SeqAt.canLay_of_shaped hs)];exact q⟩
theorem Xdv {a b:Int}:SeqAt.shaped (.tuple [.int a,.int b])=true:=by
 simp[SeqAt.shaped,PyData.canLay0,PyData.canLayAll0,PyData.depth,PyData.depthAll]
theorem Wj:SeqAt.shaped .none=true:=by
 simp[SeqAt.shaped,PyData.canLay0,PyData.depth]
def Xfw:AE:=aO (ai .Is (aV 1) aN) aN (aU (aa (ax (aV 1) (aI 0)) (aa (bH aZ (aa (ax (aV 1) (aI 1)) ab)) ab)))
variable {a0:Option SV} {cv:List SV}
theorem ym {A:List (Option SV)} {cel:List Nat} {K:Bool->Sg->Prop} (hm:m≤1000) (hv:yb σ (cG m p) v2) (hdu:gX σ v m p) (q:∀σ',bC σ σ'->K false σ'):Xfw Φ ⟨a0::some v::A,cel,cv⟩ σ (λy σ=>iE σ .NotEq v2 y λb=>K b σ) KE:=by
 unfold gX at hdu;cases hq:cG m p with
 |none=>
  rw[hq]at hv hdu;have hv:v2=.none:=hv;subst hv hdu;exact bQ rfl (t8 (.val .none rfl) (.val .none rfl) Wj (q _ .refl))
 |some r=>
  rw[hq]at hv hdu;refine bn hv λt a d=>?_;obtain rfl:=a;obtain⟨e,l,rfl,h2,hl⟩:=hdu;have g:=gI hq;have c:((fK r).map SV.int).length=r.2.toNat:=by rw[W0,dq]
  refine bQ rfl (i_ h2 rfl (i_ h2 rfl (ao hl (eQ (by rw[c];lia) (bl rfl) ?_))));rw[c,show((r.2.toNat:Nat):Int)=r.2 by exact QJ g.2.1];exact t8 (.tup _ _ _ rfl (ae d) rfl) (.tup _ _ _ rfl ac rfl) Xdv (q _ Kp.refl.new)
theorem JN (hw:Wv σ W s) (hm:m≤1000) (h:Hd σ hl (.two i c)) (hpl:jo σ pl (.two i c)) (hdu:gX σ v m (.two i c)) (q:∀σ' s',Po σ σ' W s s'->K (.bool true) σ'):Ph (n+140) 0 925 [.ref W,.int m,.ref hl,.ref pl,v] σ K KE:=by
 refine dh (φ:=fX 5 [] [some 3,some 4,none,none,none,none,none,none,none,none] [some 2,some 1,some 0] qg) rfl rfl ⟨rfl,Wd λo F G E b r y A=>?_⟩
 replace hw:=hw.up b
 replace h:=h.up b.to
 replace hpl:=hpl.up b.to
 replace hdu:=hdu.up b.to
 replace q:∀σ' s',Po o σ' W s s'->K (.bool true) σ':=λσ' s' p=>q σ' s' ⟨p.wd,p.ev,b.to.trans p.kp⟩
 refine t_ hpl rfl (c_ rfl r (ao h ⟨bl rfl,?_⟩));refine kz hw λk D u e a B x=>?_;refine fv rfl B x λz Z=>?_;have j:=a.ob _ _ r rfl;have l:=a.ob _ _ y rfl;have f:=a.ob _ _ A rfl;refine c_ rfl f (c_ rfl j (c_ rfl l (oE (a.ob _ _ h rfl) λH w g C=>?_)));show bI (aD "two" "odd") _ _;rw[gu.2.1];refine ym (p:=.two i c) hm C ((hdu.up a).up g.to) λd t=>?_;show bI (aD "two" "two") _ _;rw[aQ];exact q d s ⟨(e.up g).up t,.refl,(a.trans g.to).trans t.to⟩
theorem MG {a0 a1 a2 a4 a5 a6 a8 a9:Option SV} {k0 k1 k2:Nat} {K:Bool->Sg->Prop} (c1:σ.ob k1=some (.cell (some (.int m)))) (q:K false σ):aO (cD [ai .Is (aV 3) aN,ai .GtE (aV 3) (aI 0)]) (aV 7) (ap .Sub (aV 7) (aC 1)) Φ ⟨[a0,a1,a2,some (oI x),a4,a5,a6,some (.int (fD x m)),a8,a9],[k0,k1,k2],cv⟩ σ (λu σ=>aO (ai .Is (aV 3) aN) (aI 0) (aV 3) Φ ⟨[a0,a1,a2,some (oI x),a4,a5,a6,some (.int (fD x m)),a8,a9],[k0,k1,k2],cv⟩ σ (λw σ=>iE σ .NotEq u w λv=>K v σ) KE) KE:=by
 cases x with
 |none=>exact bQ rfl (bQ rfl q)
 |some i=>
  refine bQ rfl (bW (λa=>bQ rfl ?_) λa=>c_ rfl c1 (bQ rfl ?_))
  ·show K (!decide (bM i m=i)) σ
   rw[Xx (show bM i m=i from Xh (hO a))];exact q
  ·show K (!decide (bM i m - m=i)) σ
   rw[Xx (show bM i m - m=i by unfold bM;rw[Xn (qz a)];exact F6)];exact q
theorem GR {a0 a1 a2 a3 a6 a7 a9:Option SV} {k0 k1 k2:Nat} (c1:σ.ob k1=some (.cell (some (.int m)))) (q:K (.bool true) σ):aw (ai .Is (aV 4) aN) (aq (bF .Eq (aV 8) (aC 1))) (ay (.l 9) (aO (aP (aV 5)) (aV 8) (ap .Sub (aV 8) (aI 1))) (aq (bF .Eq (aO (ai .GtE (aV 4) (aI 0)) (aV 9) (ap .Sub (aV 9) (aC 1))) (aV 4)))) Φ ⟨[a0,a1,a2,a3,some (oI y),some (.bool b),a6,a7,some (.int (cg y b m)),a9],[k0,k1,k2],cv⟩ σ (bp K) KE:=by
 cases y with
 |none=>
  refine bQ rfl (c_ rfl c1 ?_);show K (.bool (decide (m=m))) σ;rw[Xx rfl];exact q
 |some j=>
  refine bQ rfl ?_;have a:∀e,e=bM j m->aq (bF .Eq (aO (ai .GtE (aV 4) (aI 0)) (aV 9) (ap .Sub (aV 9) (aC 1))) (aV 4)) Φ ⟨[a0,a1,a2,a3,some (.int j),some (.bool b),a6,a7,some (.int (cg (some j) b m)),some (.int e)],[k0,k1,k2],cv⟩ σ (bp K) KE:=λe d=>by
   subst d;refine bW (λc=>?_) λc=>c_ rfl c1 ?_
   ·show K (.bool (decide (bM j m=j))) σ
    rw[Xx (show bM j m=j from Xh (hO c))];exact q
   ·show K (.bool (decide (bM j m - m=j))) σ
    rw[Xx (show bM j m - m=j by unfold bM;rw[Xn (qz c)];exact F6)];exact q
  cases b with
  |true=>exact a _ (show bM j m+0=bM j m by exact Xcl)
  |false=>exact a _ (show bM j m+1 - 1=bM j m by exact F6)
theorem Qb (hw:Wv σ W s) (hm:m≤1000) (h:Hd σ hl (.rng x y b)) (hpl:jo σ pl (.rng x y b)) (hdu:gX σ v m (.rng x y b)) (q:∀σ' s',Po σ σ' W s s'->K (.bool true) σ'):Ph (n+140) 0 925 [.ref W,.int m,.ref hl,.ref pl,v] σ K KE:=by
 refine dh (φ:=fX 5 [] [some 3,some 4,none,none,none,none,none,none,none,none] [some 2,some 1,some 0] qg) rfl rfl ⟨rfl,Wd λB V X T o u M P=>?_⟩
 replace hw:=hw.up o
 replace h:=h.up o.to
 replace hpl:=hpl.up o.to
 replace hdu:=hdu.up o.to
 replace q:∀σ' s',Po B σ' W s s'->K (.bool true) σ':=λσ' s' p=>q σ' s' ⟨p.wd,p.ev,o.to.trans p.kp⟩
 refine bn h λk h r=>?_;refine tV r λD C F H=>?_;refine t_ hpl rfl (c_ rfl u (ao h ⟨bl rfl,c_ rfl u (i_ h rfl (uz H rfl ?_))⟩));refine kz hw λU S f A e z L=>?_;refine fv rfl z L λN Z=>?_;have l:=e.ob _ _ u rfl;have d:=e.ob _ _ M rfl;have i:=e.ob _ _ P rfl;have G:=e.ob _ _ h rfl;have g:=e.ob _ _ H rfl;refine c_ rfl i (c_ rfl l (c_ rfl d (n8 G (w9 D C F g) λY I E R=>?_)));show bI (aD "range" "odd") _ _;rw[gu.2.2.1];refine ym (p:=.rng x y b) hm R ((hdu.up e).up E.to) λw Q=>?_;have a:bC f w:=E.trans Q;show bI (aD "range" "two") _ _;rw[gu.2.2.2.2.1];refine c_ rfl (a.ob _ _ i trivial) (c_ rfl (a.ob _ _ l trivial) (i_ (a.ob _ _ G trivial) rfl (c_ rfl (a.ob _ _ d trivial) (lA (w9 D C F (a.ob _ _ g trivial)) λt j J O=>t_ O rfl ?_))));have c:bC f j:=a.trans J;refine MG (c.ob _ _ d trivial) ?_;refine GR (c.ob _ _ d trivial) ?_;exact q j s ⟨A.up c,.refl,e.trans c.to⟩
theorem wi (hw:Wv σ W s) (g:∀k kc σ',Wv σ' W s->fV σ σ'->σ'.ob k=some (.clo j cs kc)->σ'.ob kc=some (.code (aT 1).qual)->K (.ref k) σ'):gY σ j (aT 1).qual 0 920 cs ln col K:=by
 rw[LQ]at g ⊢;exact kz hw g
theorem xO (hw:Wv σ W s) (g:∀k kc σ',Wv σ' W s->fV σ σ'->σ'.ob k=some (.clo j cs kc)->σ'.ob kc=some (.code (aT 3).qual)->K (.ref k) σ'):gY σ j (aT 3).qual 1 932 cs ln col K:=by
 rw[NZ]at g ⊢;exact qI hw g
theorem Ir (hw:Wv σ W s) (h:Hd σ hl (.odd j)) (hpl:jo σ pl (.odd j)) (q:∀σ' s',Po σ σ' W s s'->K (.bool true) σ'):Ph (n+140) 0 925 [.ref W,.int m,.ref hl,.ref pl,.none] σ K KE:=by
 refine dh (φ:=fX 5 [] [some 3,some 4,none,none,none,none,none,none,none,none] [some 2,some 1,some 0] qg) rfl rfl ⟨rfl,Wd λB k0 k1 V G t P R=>?_⟩
 replace hw:=hw.up G
 replace h:=h.up G.to
 replace hpl:=hpl.up G.to
 replace q:∀σ' s',Po B σ' W s s'->K (.bool true) σ':=λσ' s' p=>q σ' s' ⟨p.wd,p.ev,G.to.trans p.kp⟩
 obtain⟨w,⟨x,h,h7,ho⟩|h⟩:=h
 ·exact t_ hpl rfl (c_ rfl t (ao h ⟨bl rfl,c_ rfl t (i_ h rfl (lJ w ho (jR h7) (q _ s (.refl hw))))⟩))
 have i:∀{O:KV} {D:KX} {Q E:Nat},(∀a C,Po B a W s C->O (.str (dW j)) a)->gY B 0 (aT 0).qual 0 920 [k0,k1,V] Q E (λv σ=>Ph (n+139) 0 918 [v] σ O D):=λ{O D Q E} g=>
  kz hw λX T U N l z J=>fv (m:=mL0) rfl z J λM H=>
   c_ rfl (l.ob _ _ R rfl) (c_ rfl (l.ob _ _ t rfl) (c_ rfl (l.ob _ _ P rfl) (kA N w (h.up w l) λe a C p x=>H e a j w x (g a C ⟨p.wd,p.ev,l.trans p.kp⟩))))
 cases h with
 |b h o=>
  refine t_ hpl rfl (c_ rfl t (ao h ⟨bl rfl,i λa C f=>?_⟩));show bI (aD "odd" "odd") _ _;rw[aQ];show bI (aD (dW j) (dW j)) _ _;rw[aQ];exact c_ rfl (f.kp.ob _ _ t rfl) (ao (f.kp.ob _ _ h rfl) ⟨bl rfl,q _ _ f⟩)
 |c h o=>
  refine t_ hpl rfl (c_ rfl t (ao h ⟨bl rfl,i λa C f=>?_⟩));show bI (aD "odd" "odd") _ _;rw[aQ];show bI (aD (dW j) (dW j)) _ _;rw[aQ];exact c_ rfl (f.kp.ob _ _ t rfl) (ao (f.kp.ob _ _ h rfl) ⟨bl rfl,q _ _ f⟩)
 | @d k x y b j' h r l o=>
  refine tV r λir or dr S=>?_;refine t_ hpl rfl (c_ rfl t (ao h ⟨bl rfl,c_ rfl t (i_ h rfl (uz S rfl ?_))⟩));refine i λa C f=>?_;show bI (aD "odd" "odd") _ _;rw[aQ];show bI (aD (dW j) (dW j)) _ _;rw[aQ];refine c_ rfl (f.kp.ob _ _ t rfl) (ao (f.kp.ob _ _ h rfl) ⟨bl rfl,?_⟩);refine wi f.wd λX T Y I F z J=>fv (m:=mL1) rfl z J λM H=>?_;have u:=f.kp.trans F;refine c_ rfl (u.ob _ _ R rfl) (c_ rfl (u.ob _ _ t rfl) (i_ (u.ob _ _ h rfl) rfl (c_ rfl (u.ob _ _ P rfl) (jE I (Z12 l w) (w9 ir or dr (F.ob _ _ (f.kp.ob _ _ S rfl) rfl)) ((o.imp (λo=>o.up (Me l w) f.kp) λo=>⟨o.1,o.2.up (Me l w) f.kp⟩:fM a (j'+1) x∨x=.none∧fM a (j'+1) y).imp (λo=>o.up (Me l w) F) λo=>⟨o.1,o.2.up (Me l w) F⟩) λe A s5 L x=>H e A (j'+1) (Me l w) x ?_))));subst l;show K (.bool (aD (dW (j'+1)) (dW (j'+1)))) A;rw[aQ];exact q A s5 ⟨L.wd,f.ev.trans L.ev,u.trans L.kp⟩
theorem RT (hw:Wv σ W s) (h:Hd σ hl (.one i)) (hpl:jo σ pl (.one i)) (q:∀σ' s',Po σ σ' W s s'->K (.bool true) σ'):Ph (n+140) 0 925 [.ref W,.int m,.ref hl,.ref pl,v] σ K KE:=by
 refine dh (φ:=fX 5 [] [some 3,some 4,none,none,none,none,none,none,none,none] [some 2,some 1,some 0] qg) rfl rfl ⟨rfl,Wd λc d e f a b g j=>?_⟩
 replace h:=h.up a.to
 replace hpl:=hpl.up a.to
 exact t_ hpl rfl (c_ rfl b (ao h ⟨bl rfl,c_ rfl b (i_ h rfl ⟨⟨rfl,rfl⟩,q _ s ⟨hw.up a,.refl,a.to⟩⟩)⟩))
theorem Xav (hw:Wv σ W s) (hm:m≤1000) (h:Hd σ hl p) (hpl:jo σ pl p) (hdu:gX σ v m p) (q:∀σ' s',Po σ σ' W s s'->K (.bool true) σ'):Ph (n+140) 0 925 [.ref W,.int m,.ref hl,.ref pl,v] σ K KE:=by
 cases p with
 |one i=>exact RT hw h hpl q
 |two i c=>exact JN hw hm h hpl hdu q
 |rng x y b=>exact Qb hw hm h hpl hdu q
 |odd j=>
  have:v=.none:=hdu;subst this;exact Ir hw h hpl q
abbrev Ti:=Nat×Nat×Int
noncomputable def tx (ts:List Ti):List SV:=ts.map λt=>.ref t.1
noncomputable def tc (ts:List Ti):List Nat:=ts.map λt=>t.2.1
noncomputable def tn (ts:List Ti):List Int:=ts.map λt=>t.2.2
def jf (σ:Sg) (n:Int) (ts:List Ti):Prop:=∀t∈ts,t.2.2≤n∧∃o,d9 σ 62 t.1 t.2.2 o false [(6,.str (zs [t.2.1]))]
noncomputable def q6 (p:Pl):Bool:=match p with
 |.odd _=>true
 |_=>false
noncomputable def eM (p:Pl):Bool:=match p with
 |.one _=>true
 |_=>false
noncomputable def x8 (p:Pl):Str:=match p with
 |.one _=>"one"
 |.two _ _=>"two"
 |.rng _ _ _=>"range"
 |.odd _=>"odd"
def f3 (σ:Sg) (n:Int) (xs:List SV) (p:Pl) (v:SV):Prop:=match p with
 |.odd j=>v=.str (dW j)
 |p=>match cG xs.length p with
  |none=>v=.none
  |some r=>match eM p with
   |true=>xs[r.1.toNat]?=some v
   |false=>FG σ n v (c9 xs r)
def fE (σ:Sg) (n:Int) (cs:List Nat) (p:Pl) (v:SV):Prop:=match p with
 |.odd j=>v=.str (dW j)
 |p=>match cG cs.length p with
  |none=>v=.none
  |some r=>vF σ n v (zs (c9 cs r))
variable {ts:List Ti}
theorem jf.up {n':Int} (h:jf σ i ts) (e:fV σ σ') (hn:i≤n'):jf σ' n' ts:=λt a=>⟨Xl (h t a).1 hn,(h t a).2.imp λo h=>h.up rfl e⟩
theorem jo.st (h:jo σ k p):∃a b c,σ.ob k=some (.tup [.str (x8 p),a,b,c]):=by
 cases p<;>exact(w9 _ _ _ h)
theorem oO (h:q6 p=false):aD (x8 p) "odd"=false:=by
 cases p with
 |one i=>exact gu.1
 |two i c=>exact gu.2.1
 |rng x y b=>exact gu.2.2.1
 |odd j=>exact kP h
theorem oB (h:q6 p=false):aD (x8 p) "one"=eM p:=by
 cases p with
 |one i=>exact aQ
 |two i c=>exact gu.2.2.2.2.2.1
 |rng x y b=>exact gu.2.2.2.2.2.2
 |odd j=>exact kP h
variable {β:Type}
theorem oo {g:α->β} {xs:List α}:c9 (xs.map g) ρ=(c9 xs ρ).map g:=by
 unfold c9;rw[←List.map_drop,←List.map_take]
theorem wV {g:α->β} {xs:List α}:fY (xs.map g) ρ=(fY xs ρ).map g:=by
 unfold fY;rw[←List.map_drop,←List.map_take,←Xa]
theorem uG {xs:List α} {q:Nat} (hq:q<ρ.2.toNat):(c9 xs ρ)[q]?=xs[ρ.1.toNat+q]? :=by
 unfold c9;rw[List.getElem?_take,Xn hq,List.getElem?_drop]
theorem hR {b:SV->List SV->Sg->(List SV->Sg->Prop)->Prop} {K:List SV->Sg->Prop} {xs os:List SV} (hl:σ.ob l=some (.list xs)) (ln:os.length=xs.length) (hb:∀(i:Nat) (x o:SV),xs[i]?=some x->os[i]?=some o->∀ys (K':List SV->Sg->Prop),K' (ys++[o]) σ->b x ys σ K') (q:K os σ):bS (.list l xs.length) b K xs.length 0 [] σ:=by
 have d:∀m i,i+m=xs.length->bS (.list l xs.length) b K m i (os.take i) σ:=by
  intro m
  induction m with
  |zero=>
   intro i a;refine⟨ao hl rfl,?_⟩;rw[Yq (by lia)];exact q
  |succ m ih=>
   intro i a;have c:i<xs.length:=by exact Hw a
   have e:i<os.length:=by exact Z28 ln a
   refine⟨ao hl rfl,ao hl ⟨_,Xf c,hb i _ _ (Xf c) (Xf e) _ _ ?_⟩⟩;rw[Y7];exact ih (i+1) (vX a)
 exact d xs.length 0 (X9 _)
theorem oQ {b:SV->List SV->Sg->(List SV->Sg->Prop)->Prop} {K:List SV->Sg->Prop} {N:Nat} {g:Nat->List SV} (hb:∀i,i<N->∀ys (K':List SV->Sg->Prop),K' (ys++g i) σ->b (.int i) ys σ K') (q:K ((List.range N).flatMap g) σ):bS (.rng N) b K N 0 [] σ:=by
 have c:∀m i,i+m=N->bS (.rng N) b K m i ((List.range i).flatMap g) σ:=by
  intro m
  induction m with
  |zero=>
   intro i a;have:i=N:=by exact Z15 a
   subst this;exact⟨trivial,q⟩
  |succ m ih=>
   intro i a;refine⟨trivial,hb i (Hw a) _ _ ?_⟩;have:=ih (i+1) (vX a);rw[YQ,YE,YC,Y4,XO]at this;exact this
 exact c N 0 (X9 _)
theorem GH:("":Str)=zs []:=by kernel_rfl
theorem CO:Txt.join "" (cs.map λc=>zs [c])=zs cs:=by
 show Builtin.Str.glued "" _=_;rw[StrLaws.glued_eq_join]
 induction cs with
 |nil=>exact GH
 |cons c cs ih=>
  cases cs with
  |nil=>rfl
  |cons d cs=>
   show zs [c]++""++Str.join "" ((d::cs).map λc=>zs [c])=_;rw[ih,GH,m7,m7];rfl
theorem nh {C:SV->Sg->Prop} (hl:σ.ob l=some (.list (cs.map λc=>SV.str (zs [c])))) (h:cs.length≤10000) (q:C (.str (zs cs)) σ):dw [.str "",.ref l] σ C:=by
 refine ao hl ⟨cs.map λc=>zs [c],by rw[Yp];rfl,?_,by rw[CO];exact q⟩;have e:((cs.map λc=>zs [c]).map λz:Str=>z.length)=cs.map λZ=>1:=by
  rw[Yp];rfl
 have b:("":Str).length=0:=by rw[GH];rfl
 have a:(cs.map λZ:Nat=>1).sum=cs.length:=by
  clear hl h q e
  induction cs with
  |nil=>rfl
  |cons c cs ih=>rw[W4,XD,ih];rw[Yc];exact Z67
 show((cs.map λc=>zs [c]).map λz:Str=>z.length).sum+_*("":Str).length≤_;rw[e,b,a];lia
variable {is:List Int}
theorem mF:mA (is.map SV.int)=some (is.map PyData.int):=by
 induction is with
 |nil=>rfl
 |cons i is ih=>
  show((um (.int i)).bind λd=>(mA (is.map SV.int)).map (d::·))=_;rw[ih];rfl
theorem kH:SeqAt.shaped (.list (is.map PyData.int))=true:=by
 have a:PyData.canLayAll0 (is.map PyData.int)=true:=by
  induction is with
  |nil=>simp[PyData.canLayAll0]
  |cons i is ih=>rw[W4];simp[PyData.canLayAll0,PyData.canLay0];exact ih
 have c:PyData.depthAll (is.map PyData.int)=0:=by
  induction is with
  |nil=>simp[PyData.depthAll]
  |cons i is ih=>
   have b:PyData.canLayAll0 (is.map PyData.int)=true:=by
    rw[W4]at a;simp[PyData.canLayAll0,PyData.canLay0]at a;exact a
   rw[W4];simp[PyData.depthAll,PyData.depth];exact ih b
 simp[SeqAt.shaped,PyData.canLay0,PyData.depth,a,c]
theorem pq {l2:Nat} {K:Bool->Prop} (h1:σ.ob l=some (.list (is.map .int))) (h2:σ.ob l2=some (.list (is.map .int))) (q:K true):We σ (.ref l) (.ref l2) K:=t8 (.list _ _ _ rfl h1 mF) (.list _ _ _ rfl h2 mF) kH q
def rM (xs:List α) (is:List Int) (ds:List α):Prop:=is.length=ds.length∧∀(q:Nat) (i:Int),is[q]?=some i->0≤i∧i<1000000∧xs[i.toNat]?=ds[q]?
variable {ds:List Nat} {us:List Ti} {loc:List (Option SV)} {cel:List Nat} {ci k0 k1 ld:Nat} {KC:List SV->Sg->Prop}
theorem rM.map {g:α->β} {xs ds:List α} (h:rM xs is ds):rM (xs.map g) is (ds.map g):=⟨by rw[W0];exact h.1,λq i a=>⟨(h.2 q i a).1,(h.2 q i a).2.1,by rw[Xd,Xd,(h.2 q i a).2.2]⟩⟩
theorem rV {xs:List α} (h:0≤ρ.1∧0≤ρ.2∧ρ.1+ρ.2≤xs.length) (hx:xs.length≤1000):rM xs (fK ρ) (c9 xs ρ):=by
 refine⟨?_,λq i c=>?_⟩
 ·rw[dq];unfold c9;rw[YH,Y2];lia
 ·unfold fK at c
  rw[Xd,W8]at c;obtain⟨u,b,rfl⟩:=c;have a:q<ρ.2.toNat:=by
   have:=(Yx.mp b).1;rw[Yg]at this;exact this
  have:u=q:=by
   rw[Y5 a]at b;exact(W7 b).symm
  subst this;refine⟨by lia,by lia,?_⟩;rw[uG a];congr 1;lia
theorem oi (hci:cel[ci]?=some k0) (c0:σ.ob k0=some (.cell (some (.str (zs cs))))) (hl:σ.ob l=some (.list (is.map .int))) (hs:rM cs is ds) (q:KC (ds.map λc=>.str (zs [c])) σ):bS (.list l (is.map SV.int).length) (kY (cB (ax (aC ci) aX)) Φ ⟨loc,cel,cv⟩) KC (is.map SV.int).length 0 [] σ:=by
 refine hR hl (by rw[W0,W0];exact hs.1.symm) (λu w o a b m k g=>?_) q;rw[Xd,W8]at a b;obtain⟨i,h,rfl⟩:=a;obtain⟨c,f,rfl⟩:=b;refine wI (hs.2 u i h) λe j d=>?_;refine c_ hci c0 ⟨⟨e,j⟩,c,?_,g⟩;show cs.toArray[i.toNat]?=some c;rw[ZY,d,f]
theorem nc {t:Ti} (h:∃o,d9 σ 62 t.1 t.2.2 o false [(6,.str (zs [t.2.1]))]) {K:SV->Prop} (q:K (.int t.2.2)):DK σ (.ref t.1) 0 K:=by
 refine mZ h λo d h=>?_;exact g_ h rfl rfl q
theorem oy (hci:cel[ci]?=some k0) (c0:σ.ob k0=some (.cell (some (.ref li)))) (hli:σ.ob li=some (.list (tx ts))) (its:jf σ i ts) (hl:σ.ob l=some (.list (is.map .int))) (hs:rM ts is us) (hu:∀t∈us,t∈ts) (q:KC ((tn us).map .int) σ):bS (.list l (is.map SV.int).length) (kY (cB (aj (ax (aC ci) aX) 0)) Φ ⟨loc,cel,cv⟩) KC (is.map SV.int).length 0 [] σ:=by
 refine hR hl (by unfold tn;rw[W0,W0,W0];exact hs.1.symm) (λu w o a b m k g=>?_) q;unfold tn at b;rw[Yp,Xd,W8]at b;rw[Xd,W8]at a;obtain⟨i,h,rfl⟩:=a;obtain⟨t,d,rfl⟩:=b;refine wI (hs.2 u i h) λc j f=>?_;have e:(tx ts)[i.toNat]?=some (.ref t.1):=by unfold tx;rw[Xd,f,d];rfl
 refine c_ hci c0 (ao hli ?_);show bI (decide (i<0)) _ _;rw[Xo (hO c)];exact⟨⟨c,j⟩,_,e,nc (its t (hu t (X0 d))).2 g⟩
theorem jZ (hl:σ.ob l=some (.list (tx us))) (its:jf σ i us) (q:KC ((tn us).map .int) σ):bS (.list l (tx us).length) (kY (cB (aj aX 0)) Φ ⟨loc,cel,cv⟩) KC (tx us).length 0 [] σ:=by
 refine hR hl (by unfold tn tx;rw[W0,W0,W0]) (λu w o a c h f g=>?_) q;unfold tn at c;unfold tx at a;rw[Yp,Xd,W8]at c;rw[Xd,W8]at a;obtain⟨t,d,rfl⟩:=c;obtain⟨e,b,rfl⟩:=a;rw[d]at b;cases b;exact nc (its t (X0 d)).2 g
theorem oF {xs:List α} {t:α} (h:t∈c9 xs ρ):t∈xs:=by
 unfold c9 at h;exact List.mem_of_mem_drop (List.mem_of_mem_take h)
theorem jf.sub (h:jf σ i ts) (hu:∀t∈us,t∈ts):jf σ i us:=λt a=>h t (hu t a)
theorem dA:(tx ts).length=ts.length:=W0 ..
theorem cL:(tc ts).length=ts.length:=W0 ..
theorem Fj:(tn ts).length=ts.length:=W0 ..
theorem tY {hs:List Int} {w:Int} (h:∀i∈hs,i≤m) (hw:m<w):(hs.any (·==w))=false:=by
 rw[YA];intro i a e;have:=h i a;have:i=w:=by simpa using e
 exact XaO hw (by assumption) this
variable {pc g:SV}
theorem wp {hs:List Int} (hld:σ.ob ld=some (.list (hs.map .int))) (hpl:jo σ pl (.odd j)) (hg:g=.str (dW j)) (hpc:pc=.str (dW j)) (q:∀σ',bC σ σ'->K (.bool true) σ'):Ph (n+1) 0 930 [g,pc,.ref li,.str z,.ref ld,.ref pl,v] σ K KE:=by
 subst hg hpc;refine dh (φ:=fX 7 [] [some 0,some 1,some 4,some 5,some 6] [some 3,some 2] sw) rfl rfl ⟨rfl,?_⟩;have a:bC σ ((σ.new (.cell (some (.str z)))).new (.cell (some (.ref li)))):=Kp.refl.new.new;have hpl:=hpl.up a.to;refine i_ hpl rfl ?_;refine kS aQ ?_;refine⟨by decide,gx rfl ⟨by decide,gx rfl (i_ hpl rfl ?_)⟩⟩;refine kS aQ ?_;refine i_ hpl rfl ?_;show K (.bool (aD (dW j) (dW j))) _;rw[aQ];exact q _ a
theorem D3 {hs:List Int} (ho:q6 p=false) (its:jf σ i ts) (hts:ts.length≤1000) (hli:σ.ob li=some (.list (tx ts))) (hld:σ.ob ld=some (.list (hs.map .int))) (hle:∀i∈hs,i≤m) (hpl:jo σ pl p) (hdu:gX σ v ts.length p) (hg:f3 σ m (tx ts) p g) (hpc:fE σ m (tc ts) p pc) (q:∀σ',bC σ σ'->K (.bool true) σ'):Ph (n+1) 0 930 [g,pc,.ref li,.str (zs (tc ts)),.ref ld,.ref pl,v] σ K KE:=by
 refine dh (φ:=fX 7 [] [some 0,some 1,some 4,some 5,some 6] [some 3,some 2] sw) rfl rfl ⟨rfl,?_⟩;have a:bC σ ((σ.new (.cell (some (.str (zs (tc ts)))))).new (.cell (some (.ref li)))):=Kp.refl.new.new;have A:((σ.new (.cell (some (.str (zs (tc ts)))))).new (.cell (some (.ref li)))).ob σ.nx=some (.cell (some (.str (zs (tc ts))))):=ae ac;have w:((σ.new (.cell (some (.str (zs (tc ts)))))).new (.cell (some (.ref li)))).ob (σ.nx+1)=some (.cell (some (.ref li))):=ac;show sw (Ph n) ⟨[some g,some pc,some (.ref ld),some (.ref pl),some v],[σ.nx,σ.nx+1],[]⟩ ((σ.new (.cell (some (.str (zs (tc ts)))))).new (.cell (some (.ref li)))) (bp K) KE;revert a A w;generalize ((σ.new (.cell (some (.str (zs (tc ts)))))).new (.cell (some (.ref li))))=σ1;generalize σ.nx=k0;generalize k0+1=k1;intro a A w;refine tV ((hpl.up a.to).st) λq1 q2 X s=>?_;have hdu:=hdu.up a.to;refine i_ s rfl ?_;refine g6 (oO ho) ?_;unfold gX at hdu;have hg:(match cG (tx ts).length p with
  |none=>g=.none
  |some r=>match eM p with
   |true=>(tx ts)[r.1.toNat]?=some g
   |false=>FG σ m g (c9 (tx ts) r)):=by
  cases p<;>first|exact hg|exact kP ho
 have hpc:(match cG (tc ts).length p with
  |none=>pc=.none
  |some r=>vF σ m pc (zs (c9 (tc ts) r))):=by
  cases p<;>first|exact hpc|exact kP ho
 rw[dA]at hg;rw[cL]at hpc;cases hq:cG ts.length p with
 |none=>
  rw[hq]at hdu hg hpc;have hg:g=.none:=hg;have hpc:pc=.none:=hpc;subst hdu hg hpc;exact bQ rfl (bQ rfl (bQ rfl (q _ a)))
 |some ρ=>
  rw[hq]at hdu hg hpc;refine jC hdu λt l o H x=>?_;obtain rfl:=o;refine mC hpc λpk V op C S z k=>?_;obtain rfl:=C;refine gz z λT N I J L D=>?_;obtain⟨dp,e⟩:=k;have e:=a.ob _ _ e trivial;have h:=gI hq;refine bQ rfl (uz e rfl (g_ e rfl rfl (g_ (a.ob _ _ D trivial) rfl rfl ?_)));show bI (!(aD "String" "String")) _ _;rw[aQ];refine g_ e rfl rfl (g_ e rfl rfl (.li rfl (a.ob _ _ hld trivial) ?_));rw[tY hle S];refine g_ e rfl rfl ⟨trivial,i_ H rfl (ao x ⟨?_,?_⟩)⟩
  ·show((fK ρ).map SV.int).length≤10000
   rw[W0,dq];exact Im h.2.2 h.1 hts
  have M:rM (tc ts) (fK ρ) (tc (c9 ts ρ)):=(rV h hts:rM ts (fK ρ) (c9 ts ρ)).map;refine oi (ci:=0) rfl A x M ?_;have O:(tc (c9 ts ρ)).length≤10000:=by
   rw[cL];exact WX hY (Z1 hts)
  dsimp only[ab];refine nh (cs:=tc (c9 ts ρ)) ac O ?_;show bI (!(aD (zs (c9 (tc ts) ρ)) (zs (tc (c9 ts ρ))))) _ _;have P:c9 (tc ts) ρ=tc (c9 ts ρ):=oo;rw[P,aQ];have b:bC σ1 (σ1.new (.list ((tc (c9 ts ρ)).map λc=>SV.str (zs [c])))):=Kp.refl.new;generalize (σ1.new (.list ((tc (c9 ts ρ)).map λc=>SV.str (zs [c]))))=σ2 at b;refine i_ (b.ob _ _ s trivial) rfl ?_;show bI (aD (x8 p) "one") _ _;rw[oB ho];cases h1:eM p with
  |true=>
   rw[h1]at hg;have hg:(tx ts)[ρ.1.toNat]?=some g:=hg;have j:=hg;unfold tx at j;rw[Xd,W8]at j;refine bn j λt u o=>?_;obtain rfl:=o;refine mZ ((((its.up a.to (XS _)).up b.to (XS _)) t (X0 u)).2) λU R F=>?_;refine uz F rfl (g_ F rfl rfl (c_ rfl (b.ob _ _ w trivial) (i_ (b.ob _ _ H trivial) rfl (ao (b.ob _ _ (a.ob _ _ hli trivial) trivial) ?_))));show bI (decide (ρ.1<0)) _ _;rw[Xo (hO h.1)];refine⟨⟨h.1,by lia⟩,_,hg,nc (rU U R F) ?_⟩;show K (.bool (decide (t.2.2=t.2.2))) _;rw[Xx rfl];exact q _ (a.trans b)
  |false=>
   rw[h1]at hg;refine sD hg λgk Y W lg E y k G f=>?_;obtain rfl:=E;refine gz k λT N I J L B=>?_;obtain⟨dg,d⟩:=G;have d:=(a.trans b).ob _ _ d trivial;have f:=(a.trans b).ob _ _ f trivial;refine uz d rfl (g_ d rfl rfl (g_ ((a.trans b).ob _ _ B trivial) rfl rfl ?_));show bI (!(aD "Array" "Array")) _ _;rw[aQ];refine g_ d rfl rfl (g_ d rfl rfl (.li rfl (b.ob _ _ (a.ob _ _ hld trivial) trivial) ?_));rw[tY hle y];have Q:c9 (tx ts) ρ=tx (c9 ts ρ):=oo;rw[Q]at f;refine g_ d rfl rfl (ao f ⟨?_,?_⟩)
   ·show(tx (c9 ts ρ)).length≤10000
    rw[dA];exact WX hY (Z1 hts)
   refine jZ f (((its.up a.to (XS _)).up b.to (XS _)).sub λt u=>oF u) ?_;refine i_ (ae (b.ob _ _ H trivial)) rfl (ao (ae (b.ob _ _ x trivial)) ⟨?_,?_⟩)
   ·show((fK ρ).map SV.int).length≤10000
    rw[W0,dq];exact Im h.2.2 h.1 hts
   refine oy (ci:=1) rfl (ae (b.ob _ _ w trivial)) (ae (b.ob _ _ (a.ob _ _ hli trivial) trivial)) (((its.up a.to (XS _)).up b.to (XS _)).up Kp.refl.new (XS _)) (ae (b.ob _ _ x trivial)) (rV h hts:rM ts (fK ρ) (c9 ts ρ)) (λt u=>oF u) ?_;exact pq (ae ac) ac (q _ ((a.trans b).trans Kp.refl.new.new))
noncomputable def isL (o:SO):Bool:=match o with
 |.list _=>true
 |_=>false
abbrev yp:Sg->Sg->Prop:=Kp λZ o=>fm o=true∧isL o=false
abbrev zI (b:Bool) (j:Nat):Sg->Sg->Prop:=Kp λk o=>fm o=true∧(b=true->k≠j)
noncomputable def fT (b:Bool) (xs:List α) (p:Pl):List α:=match b with
 |false=>xs
 |true=>match cG xs.length p with
  |none=>xs
  |some r=>fY xs r
variable {rk tk oR oT:Nat}
theorem Kp.mono {P Q:Nat->SO->Prop} (e:Kp P σ σ') (h:∀k o,σ.ob k=some o->Q k o->P k o):Kp Q σ σ':=⟨e.nx,λk o a q=>e.ob k o a (h k o a q)⟩
theorem Mo.upn (m:Mo σ z k) (e:yp σ σ'):Mo σ' z k:=by
 refine gz m λi b a c d h=>?_;exact(iG i b a c d (e.ob _ _ h ⟨rfl,rfl⟩))
theorem fM.upn {x:SV} (hj:j<9) (h:fM σ j x) (e:yp σ σ'):fM σ' j x:=by
 match j,hj,h with
 |0,_,h=>exact h
 |1,_,h=>exact h
 |2,_,h=>exact h
 |3,_,h=>exact h
 |j+4,hj,h=>
  refine sD h λk C f o b c a d m=>?_;refine(ww k C f o b (e.ob _ _ c ⟨?_,rfl⟩) a d (m.upn e));have:(List.range 5).all (λj=> !Nat.beq ([0,0,0,0,82,120,40,62,140].getD (j+4) 0) 834)=true:=by decide+kernel
  have:=WZ.mp this j (XG.mpr (Z4 hj));rw[←a]at this;exact this
theorem Rg.upn {x y:SV} (h:Rg σ k x y b) (e:yp σ σ'):Rg σ' k x y b:=by
 refine tV h λi o d h=>?_;exact(w9 i o d (e.ob _ _ h ⟨rfl,rfl⟩))
theorem Hd.upn (h:Hd σ l p) (e:yp σ σ') (el:∀xs,σ.ob l=some (.list xs)->σ'.ob l=some (.list xs)):Hd σ' l p:=by
 cases p with
 |one i=>exact el _ h
 |two i c=>exact el _ h
 |rng x y b=>refine bn h λk h r=>?_;exact(bv k (el _ h) (r.upn e))
 |odd j=>
  obtain⟨a,⟨x,h,f,o⟩|h⟩:=h
  ·exact⟨a,.inl (jn x (el _ h) f (o.upn a e))⟩
  ·refine⟨a,.inr ?_⟩
   cases h with
   |b h o=>exact .b (el _ h) (o.upn a e)
   |c h o=>exact .c (el _ h) (o.upn a e)
   |d h r e2 o=>
    subst e2;exact .d (el _ h) (r.upn e) rfl (o.imp (λo=>o.upn a e) λo=>⟨o.1,o.2.upn a e⟩)
theorem dy (ho:q6 p=false) (hq:cG xs.length p=none):f3 σ i xs p .none:=by
 cases p<;>first|(exact kP ho;done)|(unfold f3;dsimp only;rw[hq])
theorem lH {w:Int} {r:Int×Int} (hq:cG xs.length (.one w)=some r) (hv:xs[r.1.toNat]?=some v):f3 σ i xs (.one w) v:=by
 unfold f3;dsimp only;rw[hq];exact hv
theorem f7 {r:Int×Int} (h2:MA p=true) (hq:cG xs.length p=some r) (hv:FG σ i v (c9 xs r)):f3 σ i xs p v:=by
 cases p<;>first|(exact cp h2;done)|(unfold f3;dsimp only;rw[hq];exact hv)
theorem ji (ho:q6 p=false) (hq:cG cs.length p=none):fE σ i cs p .none:=by
 cases p<;>first|(exact kP ho;done)|(unfold fE;dsimp only;rw[hq])
theorem jl {r:Int×Int} (ho:q6 p=false) (hq:cG cs.length p=some r) (hv:vF σ i v (zs (c9 cs r))):fE σ i cs p v:=by
 cases p<;>first|(exact kP ho;done)|(unfold fE;dsimp only;rw[hq];exact hv)
theorem d7 {xs:List α} (hq:cG xs.length p=none):fT b xs p=xs:=by
 unfold fT;cases b
 ·rfl
 ·dsimp only;rw[hq]
theorem f6 {xs:List α} {r:Int×Int} (hq:cG xs.length p=some r):fT true xs p=fY xs r:=by
 unfold fT;dsimp only;rw[hq]
theorem Kp.str (e:fV σ σ'):zI b j σ σ':=e.mono λZ Z Z h=>h.1
theorem PJ (hw:Wv σ W s) (hs:d9 σ 82 rk i oR fz [(7,.ref li)]) (hl':σ.ob li=some (.list xs)) (hx:xs.length≤1000) (h:Hd σ hl p) (hb:b=true->fz=false)
  (q:∀v σ' s',Wv σ' W s'->Wn s s'->zI b li σ σ'->σ'.ob li=some (.list (fT b xs p))->f3 σ' s.n xs p v->K v σ')
  (qe:∀e σ' s' j,p=.odd j->Po σ σ' W s s'->Xc σ' e "TypeError" (kN j)->KE e σ'):Ph (n+134) 0 (cond b 461 454) [.ref W,.ref rk,.ref hl] σ K KE:=by
 cases p with
 |odd j=>
  cases b with
  |false=>exact IW hw hs hl' hx h λe σ' s' p x=>qe e σ' s' j rfl p x
  |true=>
   have:=hb rfl;subst this;exact EN hw hs hl' hx h λe σ' s' p x=>qe e σ' s' j rfl p x
 |one w=>
  cases b with
  |false=>
   refine Uv hs hl' hx h λv l f=>q v σ s hw .refl .refl hl' ?_;cases a:cG xs.length (.one w)with
   |none=>rw[f a];exact dy rfl a
   |some r=>exact lH a (l r a)
  |true=>
   have:=hb rfl;subst this;exact DX hs hl' hx h (λa=>q _ σ s hw .refl .refl (by rw[d7 a];exact hl') (dy rfl a)) λv r σ' a d e f=>q _ σ' s (iw hw e hl' rfl) .refl (e.mono λZ Z Z h=>h.2 rfl) (by rw[f6 a];exact f) (lH a d)
 |two w c=>
  cases b with
  |false=>exact yd hw hs hl' hx h rfl (λσ' e a=>q _ σ' s (hw.up e) .refl e.to (e.ob _ _ hl' trivial) (dy rfl a)) λv σ' s' r a p d=>q _ σ' s' p.wd p.ev p.kp.str (p.kp.ob _ _ hl' rfl) (f7 rfl a d)
  |true=>
   have:=hb rfl;subst this;exact rz hw hs hl' hx h rfl (λσ' e a=>q _ σ' s (hw.up e) .refl e.to (by rw[d7 a];exact e.ob _ _ hl' trivial) (dy rfl a)) λv σ' s' r a k g e f d=>q _ σ' s' k g (e.mono λZ Z Z h=>⟨h.1,h.2 rfl⟩) (by rw[f6 a];exact f) (f7 rfl a d)
 |rng x y c=>
  cases b with
  |false=>exact yd hw hs hl' hx h rfl (λσ' e a=>q _ σ' s (hw.up e) .refl e.to (e.ob _ _ hl' trivial) (dy rfl a)) λv σ' s' r a p d=>q _ σ' s' p.wd p.ev p.kp.str (p.kp.ob _ _ hl' rfl) (f7 rfl a d)
  |true=>
   have:=hb rfl;subst this;exact rz hw hs hl' hx h rfl (λσ' e a=>q _ σ' s (hw.up e) .refl e.to (by rw[d7 a];exact e.ob _ _ hl' trivial) (dy rfl a)) λv σ' s' r a k g e f d=>q _ σ' s' k g (e.mono λZ Z Z h=>⟨h.1,h.2 rfl⟩) (by rw[f6 a];exact f) (f7 rfl a d)
theorem UN (hw:Wv σ W s) (hs:d9 σ 62 tk i oT fz [(6,.str (zs cs))]) (hx:cs.length≤1000) (h:Hd σ hl p) (hb:b=true->fz=false)
  (q:∀v σ' s',Wv σ' W s'->Wn s s'->zI b tk σ σ'->d9 σ' 62 tk i oT fz [(6,.str (zs (fT b cs p)))]->fE σ' s.n cs p v->K v σ')
  (qe:∀e σ' s' j,p=.odd j->Po σ σ' W s s'->Xc σ' e "TypeError" (kN j)->KE e σ'):Ph (n+134) 0 (cond b 517 510) [.ref W,.ref tk,.ref hl] σ K KE:=by
 cases ho:q6 p with
 |true=>
  cases p with
  |odd j=>
   cases b with
   |false=>exact wZ hw hs hx h λe σ' s' p x=>qe e σ' s' j rfl p x
   |true=>
    have:=hb rfl;subst this;exact vd hw hs hx h λe σ' s' p x=>qe e σ' s' j rfl p x
  |one w=>exact cp ho
  |two w c=>exact cp ho
  |rng x y c=>exact cp ho
 |false=>
  have f:∀j,p≠ .odd j:=λj e=>by rw[e]at ho;exact kP ho
  cases b with
  |false=>exact Dr hw hs hx h f (λσ' e a=>q _ σ' s (hw.up e) .refl e.to (hs.up rfl e.to) (ji ho a)) λv σ' s' r a p d=>q _ σ' s' p.wd p.ev p.kp.str (hs.up rfl p.kp) (jl ho a d)
  |true=>
   have:=hb rfl;subst this;exact DW hw hs hx h f (λσ' e a=>q _ σ' s (hw.up e) .refl e.to (by rw[d7 a];exact hs.up rfl e.to) (ji ho a)) λv σ' s' r a k g e l d=>q _ σ' s' k g (e.mono λZ Z Z h=>⟨h.1,h.2 rfl⟩) (by rw[f6 a];exact l) (jl ho a d)
noncomputable abbrev fH (b:Bool):List SV:=[.glob (cond b 461 454),.glob (cond b 517 510)]
theorem Fg {k4 k6 k7 lr ln col:Nat} (hw:Wv σ W s) (hs:d9 σ 82 rk i oR fz [(7,.ref li)]) (hl':σ.ob li=some (.list xs)) (hx:xs.length≤1000) (h:Hd σ hl p) (hb:b=true->fz=false)
  (c4:σ.ob k4=some (.cell (some (.ref hl)))) (c6:σ.ob k6=some (.cell (some (.ref rk)))) (c0:σ.ob k0=some (.cell (some (.ref lr)))) (c7:σ.ob k7=some (.cell (some (.ref W)))) (hr:σ.ob lr=some (.list (fH b)))
  (q:∀v σ' s',Wv σ' W s'->Wn s s'->zI b li σ σ'->σ'.ob li=some (.list (fT b xs p))->f3 σ' s.n xs p v->K v σ'):gY σ 2 (aT 2).qual 1 932 [k4,k6,k0,k7] ln col (λv σ=>Ph (n+137) 0 918 [v] σ K KE):=by
 refine qI hw λz y g f a d m=>fv rfl d m λt l=>?_;refine c_ rfl (a.ob _ _ c0 rfl) (i_ (a.ob _ _ hr rfl) rfl ⟨by cases b<;>rfl,c_ rfl (a.ob _ _ c7 rfl) (c_ rfl (a.ob _ _ c6 rfl) (c_ rfl (a.ob _ _ c4 rfl) ?_))⟩);refine PJ f (hs.up rfl a) (a.ob _ _ hl' rfl) hx (h.up a) hb (λv σ' s' u k e r w=>q v σ' s' u k (a.str.trans e) r w) λe σ' s' j o c x=>?_;subst o;refine l e σ' j h.1 x (q _ σ' s' c.wd c.ev (a.trans c.kp).str ?_ rfl);rw[d7 rfl];exact c.kp.ob _ _ (a.ob _ _ hl' rfl) rfl
theorem Ei {k4 k5 k7 lr ln col:Nat} (hw:Wv σ W s) (hs:d9 σ 62 tk i oT fz [(6,.str (zs cs))]) (hx:cs.length≤1000) (h:Hd σ hl p) (hb:b=true->fz=false)
  (c4:σ.ob k4=some (.cell (some (.ref hl)))) (c5:σ.ob k5=some (.cell (some (.ref tk)))) (c0:σ.ob k0=some (.cell (some (.ref lr)))) (c7:σ.ob k7=some (.cell (some (.ref W)))) (hr:σ.ob lr=some (.list (fH b)))
  (q:∀v σ' s',Wv σ' W s'->Wn s s'->zI b tk σ σ'->d9 σ' 62 tk i oT fz [(6,.str (zs (fT b cs p)))]->fE σ' s.n cs p v->K v σ'):gY σ 3 (aT 3).qual 1 932 [k4,k0,k5,k7] ln col (λv σ=>Ph (n+137) 0 918 [v] σ K KE):=by
 refine xO hw λz y g f a d m=>fv rfl d m λt l=>?_;refine c_ rfl (a.ob _ _ c0 rfl) (i_ (a.ob _ _ hr rfl) rfl ⟨by cases b<;>rfl,c_ rfl (a.ob _ _ c7 rfl) (c_ rfl (a.ob _ _ c5 rfl) (c_ rfl (a.ob _ _ c4 rfl) ?_))⟩);refine UN f (hs.up rfl a) hx (h.up a) hb (λv σ' s' u k e r w=>q v σ' s' u k (a.str.trans e) r w) λe σ' s' j o c x=>?_;subst o;refine l e σ' j h.1 x (q _ σ' s' c.wd c.ev (a.trans c.kp).str ?_ rfl);rw[d7 rfl];exact hs.up rfl (a.trans c.kp)
noncomputable def uw (b:Bool) (m:Int) (p:Pl):List Int:=match b with
 |false=>[]
 |true=>match cG m p with
  |none=>[]
  |some r=>fK r
noncomputable def nO (m:Nat) (gn:List Int):List Int:=((List.range m).filter λk:Nat=> !(gn.any (·==(k:Int)))).map Int.ofNat
theorem rX {a b:Nat} (g:a<b) (h:b≤1000):a<1000000:=Xi g (WX h (Xv rfl))
variable {A B:Nat}
theorem Ap:(fK ((A:Int),(B:Int))).any (·==(k:Int))=decide (A≤k∧k<A+B):=by
 cases e:decide (A≤k∧k<A+B)with
 |true=>
  exact Yt.mpr (bv _ (Xb.mpr (bv (k - A) (XG.mpr (Nat.lt_of_add_lt_add_left (Y9 (Yd (Zh (W5 e).1:A+(k - A)=k)) (W5 e).2))) rfl)) (Xu.mpr (Yi Int.ofNat (Zh (W5 e).1:A+(k - A)=k))))
 |false=>
  refine YA.mpr λi c d=>of_decide_eq_false e ?_;refine bn (Xb.mp c) λu a b=>?_;exact(Int.ofNat.inj (b.trans (XJ d)):A+u=k)▸⟨X4 ..,Nat.add_lt_add_left (XG.mp a) _⟩
theorem tm:List.range' 0 A++List.range' A B=List.range' 0 (A+B):=by
 have h:=List.range'_append_1 (s:=0) (m:=A) (n:=B);rw[X9]at h;exact h
theorem EH {m A B:Nat} (h:A+B≤m):(List.range m).filter (λk:Nat=> !((fK ((A:Int),(B:Int))).any (·==(k:Int))))=List.range A++List.range' (A+B) (m - (A+B)):=by
 have e:List.range m=(List.range' 0 A++List.range' A B)++List.range' (A+B) (m - (A+B)):=by
  rw[tm,tm,Zh h,List.range_eq_range']
 have b:(List.range' 0 A).filter (λk=> !decide (A≤k∧k<A+B))=List.range' 0 A:=ZA.mpr λk a=>
  Yi not (Xo λz=>Nat.not_le.mpr (X9 A▸(ZI.mp a).2) z.1)
 have d:(List.range' A B).filter (λk=> !decide (A≤k∧k<A+B))=[]:=List.filter_eq_nil_iff.mpr λk a z=>
  XE ((Yi not (Xx (ZI.mp a))).symm.trans z)
 have c:(List.range' (A+B) (m - (A+B))).filter (λk=> !decide (A≤k∧k<A+B))=List.range' (A+B) (m - (A+B)):=ZA.mpr λk a=>
  Yi not (Xo λz=>Nat.not_le.mpr z.2 (ZI.mp a).1)
 rw[(funext λk=>Yi not Ap:(λk:Nat=> !((fK ((A:Int),(B:Int))).any (·==(k:Int))))=λk=> !decide (A≤k∧k<A+B)),e,List.filter_append,List.filter_append,b,d,c,XO,List.range_eq_range']
theorem SU {xs:List α} {A B q:Nat} (hx:xs.length≤1000) (g:A+B≤xs.length) (hq:((List.range A++List.range' (A+B) (xs.length - (A+B))).map Int.ofNat)[q]?=some i):0≤i∧i<1000000∧xs[i.toNat]?=(xs.take A++xs.drop (A+B))[q]? :=by
 rw[Xd,W8]at hq;refine bn hq λu a e=>?_;subst e;refine eQ (Yl u) ?_ ?_
 ·rw[Zv,Yg]at a
  by_cases hc:q<A
  ·rw[Xn hc,Y5 hc]at a
   exact jS a▸YY.mpr (rX (Xi hc (WX (X4 A B) g)) hx)
  ·rw[Xh hc]at a
   refine bn (List.mem_range'.mp (X0 a)) λk c e=>?_;refine YY.mpr (rX ?_ hx);rw[e,Nat.one_mul];exact Xi (Nat.add_lt_add_left c _) (Yd (Zh g))
 ·show xs[u]?=_
  rw[Zv,Yg]at a;rw[Zv,YH,Nat.min_eq_left (WX (X4 A B) g)];by_cases hc:q<A
  ·rw[Xn hc,Y5 hc]at a
   rw[Xn hc,List.getElem?_take,Xn hc,jS a]
  ·rw[Xh hc]at a
   rw[Xh hc,List.getElem?_drop];obtain⟨d,b⟩:=Yx.mp a;rw[List.getElem_range',Nat.one_mul]at b;rw[b]
theorem j7 {xs:List α} (hx:xs.length≤1000):rM xs (nO xs.length (uw b xs.length p)) (fT b xs p):=by
 have c:rM xs (nO xs.length []) xs:=by
  unfold nO;have e:(List.range xs.length).filter (λk:Nat=> !(([]:List Int).any (·==(k:Int))))=List.range xs.length:=ZA.mpr λk j=>rfl;rw[e];refine⟨by rw[W0,Yg],λq i a=>?_⟩;rw[Xd,W8]at a;refine bn a λu h e=>?_;subst e;obtain⟨d,f⟩:=Yx.mp h;rw[List.getElem_range]at f;rw[Yg]at d;subst f;exact eQ (Yl _) (YY.mpr (rX d hx)) rfl
 cases b with
 |false=>exact c
 |true=>
  delta uw fT;dsimp only;cases a:cG xs.length p with
  |none=>exact c
  |some ρ=>
   have g:=gI a;clear a c;obtain⟨x,y⟩:=ρ;obtain⟨A,rfl⟩:=XM g.1;obtain⟨B,rfl⟩:=XM g.2.1;have g:A+B≤xs.length:=YK.mp g.2.2;dsimp only;unfold nO;rw[EH g];refine⟨?_,λq i a=>SU hx g a⟩;show _=(xs.take A++xs.drop (A+B)).length;rw[W0,Yb,Yb,Yg,List.length_range',YH,Y2,Nat.min_eq_left (WX (X4 A B) g)]
theorem oM {g:α->β} {xs:List α}:fT b (xs.map g) p=(fT b xs p).map g:=by
 unfold fT;cases b with
 |false=>rfl
 |true=>
  dsimp only;rw[W0];cases hq:cG xs.length p with
  |none=>rfl
  |some r=>exact wV
theorem nQ {xs:List α} {t:α} (h:t∈fT b xs p):t∈xs:=by
 unfold fT at h;cases b with
 |false=>exact h
 |true=>
  dsimp only at h;cases hq:cG xs.length p with
  |none=>rw[hq]at h;exact h
  |some r=>
   rw[hq]at h;rcases W6.mp h with h|h
   ·exact List.mem_of_mem_take h
   ·exact List.mem_of_mem_drop h
theorem pe {m:Nat}:(nO m is).length≤m:=by
 unfold nO;rw[W0];exact WX (List.length_filter_le _ _) (by rw[Yg];exact Xy _)
theorem Bz {m:Nat}:(List.range m).flatMap (λk:Nat=>cond (is.any (·==(k:Int))) [] [SV.int k])=(nO m is).map SV.int:=by
 unfold nO;generalize List.range m=l
 induction l with
 |nil=>rfl
 |cons k l ih=>
  rw[YC,Y0,ih];cases h:is.any (·==(k:Int))<;>rfl
variable {N:Nat}
theorem FU (hci:cel[1]?=some k1) (c1:σ.ob k1=some (.cell (some (.ref l)))) (hl:σ.ob l=some (.list (is.map .int))) (q:KC ((nO N is).map .int) σ):bS (.rng N) (kY (pK (ai .NotIn aX (aC 1)) aX) Φ ⟨loc,cel,cv⟩) KC N 0 [] σ:=by
 refine oQ (g:=λk:Nat=>cond (is.any (·==(k:Int))) [] [SV.int k]) (λi c b a g=>?_) (by rw[Bz];exact q);refine c_ hci c1 (.li rfl hl ?_);cases h:is.any (·==(i:Int))with
 |true=>
  rw[h]at g;have g:a (b++[]) σ:=g;rw[XO]at g;exact g
 |false=>rw[h]at g;exact g
noncomputable def ko (o:SO):Nat:=match o with
 |.inst C _=>C+5
 |.list _=>1
 |.tup _=>2
 |.cell _=>3
 |_=>0
abbrev Hy (b:Bool) (li tk:Nat):Sg->Sg->Prop:=Kp λk o=>fm o=true∧(b=true->k≠li∧k≠tk)
def oz (J:Nat->Prop) (σ:Sg) (v:SV) (m:Int) (p:Pl):Prop:=match cG m p with
 |none=>v=.none
 |some r=>∃t l,v=.ref t∧σ.ob t=some (.tup [.int r.1,.ref l])∧σ.ob l=some (.list ((fK r).map .int))∧J l
end
structure Cu (σ:Sg) (b:Bool) (ts:List Ti) (p:Pl) (n:Int) (N lc ld lr hl pl li tk rk W:Nat) (v:SV):Prop where
 c0:σ.ob N=some (.cell (some (.ref lr)))
 hlr:σ.ob lr=some (.list (fH b))
 c1:∃o,σ.ob (N+1)=some (.cell o)
 c2:σ.ob (N+2)=some (.cell (some (.str (zs (tc ts)))))
 c3:σ.ob (N+3)=some (.cell (some (.ref lc)))
 hlc:σ.ob lc=some (.list (tx ts))
 c4:σ.ob (N+4)=some (.cell (some (.ref hl)))
 c5:σ.ob (N+5)=some (.cell (some (.ref tk)))
 c6:σ.ob (N+6)=some (.cell (some (.ref rk)))
 c7:σ.ob (N+7)=some (.cell (some (.ref W)))
 its:jf σ n ts
 hld:∃hs:List Int,σ.ob ld=some (.list (hs.map .int))∧∀i∈hs,i≤n
 hpl:jo σ pl p
 du:oz (λl=>b=true->l≠li) σ v ts.length p
 ne:b=true->lr≠li∧lc≠li∧ld≠li∧∀t∈ts,t.1≠tk
section
variable {σ σ' σ1 σ0:Sg} {W:Nat} {s s' s1:Ws} {n C:Nat} {K:KV} {KE:KX} {z msg:Str} {k o l a li ow kT P j pl hl rk tk oR oT N lc lr ld:Nat} {i f c m ir it:Int} {fz b:Bool} {x y:Option Int} {xs:List SV} {r:List (Nat×SV)} {p:Pl} {v v2:SV} {cs ds:List Nat} {ρ:Int×Int} {ts us:List Ti} {is:List Int} {Φ:Nat->eL} {loc:List (Option SV)} {cel:List Nat} {cv:List SV} {ci k0 k1:Nat} {KC:List SV->Sg->Prop}
theorem bG {o o':SO} (h:σ.ob k=some o) (hj:σ.ob j=some o') (ne:Nat.beq (ko o) (ko o')=false):k≠j:=λa=>by
 rw[a,hj]at h;obtain rfl:=jS h;rw[ZR]at ne;exact kP ne
theorem zI.kp {o o':SO} (e:zI b j σ σ') (hj:σ.ob j=some o') (h:σ.ob k=some o) (st:fm o=true) (ne:Nat.beq (ko o) (ko o')=false):σ'.ob k=some o:=e.ob k o h ⟨st,λZ=>bG h hj ne⟩
theorem Hy.kp {o o1 o2:SO} (e:Hy b li tk σ σ') (h1:σ.ob li=some o1) (h2:σ.ob tk=some o2) (h:σ.ob k=some o) (st:fm o=true) (ne1:Nat.beq (ko o) (ko o1)=false) (ne2:Nat.beq (ko o) (ko o2)=false):σ'.ob k=some o:=e.ob k o h ⟨st,λZ=>⟨bG h h1 ne1,bG h h2 ne2⟩⟩
variable {J:Nat->Prop}
theorem oz.du (h:oz J σ v m p):gX σ v m p:=by
 unfold oz at h;unfold gX;cases hq:cG m p with
 |none=>rw[hq]at h;exact h
 |some r=>
  rw[hq]at h;refine ux h λt l a c b d=>?_;exact(j6 t l a c b)
theorem gX.dx (h:gX σ v m p) (hJ:∀l,l<σ.nx->J l):oz J σ v m p:=by
 unfold gX at h;unfold oz;cases hq:cG m p with
 |none=>rw[hq]at h;exact h
 |some r=>
  rw[hq]at h;refine jC h λt l b c a=>?_;exact(ya t l b c a (hJ l (σ.wf _ _ a)))
theorem oz.up (h:oz J σ v m p) (e:fV σ σ'):oz J σ' v m p:=by
 unfold oz at h ⊢;cases hq:cG m p with
 |none=>rw[hq]at h;exact h
 |some r=>
  rw[hq]at h;refine ux h λt l b d c a=>?_;exact(ya t l b (e.ob _ _ d rfl) (e.ob _ _ c rfl) a)
variable {F:List (Nat×SV)}
theorem Cu.up {is:List SV} (h:Cu σ b ts p i N lc ld lr hl pl li tk rk W v) (e:Hy b li tk σ σ') (h1:σ.ob li=some (.list is)) (h2:σ.ob tk=some (.inst 62 F)):Cu σ' b ts p i N lc ld lr hl pl li tk rk W v:=by
 obtain⟨B,n,⟨P,E⟩,K,J,s,H,G,O,I,j,⟨C,y,w⟩,u,c,f⟩:=h;have a:∀{k o},σ.ob k=some (.cell o)->σ'.ob k=some (.cell o):=λh=>e.kp h1 h2 h rfl rfl rfl;have m:∀{k xs},σ.ob k=some (.list xs)->(b=true->k≠li)->σ'.ob k=some (.list xs):=λh g=>e.ob _ _ h ⟨rfl,λq=>⟨g q,bG h h2 rfl⟩⟩;have z:∀{k xs},σ.ob k=some (.tup xs)->σ'.ob k=some (.tup xs):=λh=>e.kp h1 h2 h rfl rfl rfl;refine⟨a B,m n λq=>(f q).1,⟨_,a E⟩,a K,a J,m s λq=>(f q).2.1,a H,a G,a O,a I,λt x=>⟨(j t x).1,?_⟩,bv C (m y λq=>(f q).2.2.1) w,?_,?_,f⟩
 ·refine mZ ((j t x).2) λo d h=>?_
  exact(rU o d (e.ob _ _ h ⟨rfl,λq=>⟨bG h h1 rfl,(f q).2.2.2 t x⟩⟩))
 ·cases p<;>exact z u
 ·dsimp only[oz]at c ⊢
  cases hq:cG ts.length p with
  |none=>rw[hq]at c;exact c
  |some r=>
   rw[hq]at c;refine ux c λt l L D M A=>?_;exact(ya t l L (z D) (m M A) A)
theorem Cu.ext (h:Cu σ b ts p i N lc ld lr hl pl li tk rk W v) (e:bC σ σ'):Cu σ' b ts p i N lc ld lr hl pl li tk rk W v:=by
 obtain⟨m,a,⟨A,q⟩,w,u,c,s,r,z,t,l,⟨n,j,f⟩,d,x,y⟩:=h;have g:∀{k o},σ.ob k=some o->σ'.ob k=some o:=λh=>e.ob _ _ h trivial;exact⟨g m,g a,⟨_,g q⟩,g w,g u,g c,g s,g r,g z,g t,l.up e.to (XS _),bv n (g j) f,d.up e.to,x.up e.to,y⟩
theorem pz (h:f3 σ i xs p v) (e:zI b tk σ σ') (h2:σ.ob tk=some (.inst 62 F)):f3 σ' i xs p v:=by
 have t:∀{ys},FG σ i v ys->FG σ' i v ys:=λz=>by
  refine sD z λk f o l q u a c x=>?_;obtain⟨w,r,g,m,n,j⟩:=a;obtain⟨d,s⟩:=c;exact(ww k f o l q u (iG w r g m n (e.kp h2 j rfl rfl)) ⟨d,e.kp h2 s rfl rfl⟩ (e.kp h2 x rfl rfl))
 unfold f3 at h ⊢;cases p<;>dsimp only at h ⊢<;>first|exact h|skip
 all_goals
  revert h;split
  ·exact id
  ·intro h
   first|exact h|exact t h
theorem fE.ge {i':Int} (h:fE σ i' cs p v) (hi:i≤i'):fE σ i cs p v:=by
 have b:∀{z},vF σ i' v z->vF σ i v z:=λ⟨k,a,o,c,d,h⟩=>(mQ k a o c (Yk hi d) h);unfold fE at h ⊢;cases p<;>dsimp only at h ⊢<;>first|exact h|skip
 all_goals
  revert h;split
  ·exact id
  ·intro h
   exact b h
theorem Cu.told {g pc:SV} (h:Cu σ b ts p i N lc ld lr hl pl li tk rk W v) (hts:ts.length≤1000) (hg:f3 σ i (tx ts) p g) (hpc:fE σ i (tc ts) p pc) (q:∀σ',bC σ σ'->K (.bool true) σ'):Ph (n+1) 0 930 [g,pc,.ref lc,.str (zs (tc ts)),.ref ld,.ref pl,v] σ K KE:=by
 refine bn h.hld λe a d=>?_;cases ho:q6 p with
 |false=>exact D3 ho h.its hts h.hlc a d h.hpl h.du.du hg hpc q
 |true=>
  cases p with
  |odd j=>exact wp a h.hpl hg hpc q
  |one w=>exact cp ho
  |two w c=>exact cp ho
  |rng x y c=>exact cp ho
def zA:AS:=ay (.c 1) (aO (bO [aP (aV 2),ai .IsNot (aV 1) aN]) (ax (aV 1) (aI 1)) (bK ab)) (lu (Tg.put (.l 6)) (bH bD (aa (bH aZ (aa (aC 2) ab)) ab)) (pK (ai .NotIn aX (aC 1)) aX) (aw (ai .NotEq (bP (aj (aC 6) 7) (cB (aj aX 0))) (bP (aV 6) (cB (aj (ax (aC 3) aX) 0)))) (aq (aB false)) (aq (bF .Eq (aj (aC 5) 6) (kW gQ dw (aS "") (aa (bP (aV 6) (cB (ax (aC 2) aX))) ab))))))
def NR:AS:=cT [.l 4,.l 5] (aU (aa (ag 918 (aa (lB 2 (aT 2).qual 1 932 [4,6,0,7] 750 0) ab)) (aa (ag 918 (aa (lB 3 (aT 3).qual 1 932 [4,0,5,7] 751 0) ab)) ab))) (aw (cF (aP (ag 930 (aa (aV 4) (aa (aV 5) (aa (aC 3) (aa (aC 2) (aa (aV 3) (aa (aV 0) (aa (aV 1) ab)))))))))) (aq (aB false)) zA)
variable {g pc:SV}
theorem ut (h:fE σ i cs p v) (e:bC σ σ'):fE σ' i cs p v:=by
 have c:∀{z},vF σ i v z->vF σ' i v z:=λ⟨k,b,o,d,f,a,h⟩=>(gW k b o d f (a.up e.to) (h.up rfl e.to));unfold fE at h ⊢;cases p<;>dsimp only at h ⊢<;>first|exact h|skip
 all_goals
  revert h;split
  ·exact id
  ·intro h
   exact c h
theorem Dq:fT b (tc ts) p=tc (fT b ts p):=oM
theorem ET:fT b (tx ts) p=tx (fT b ts p):=oM
theorem Dt (h:Cu σ b ts p i N lc ld lr hl pl li tk rk W v) (hr:d9 σ 82 rk ir oR fz [(7,.ref li)]) (hli:σ.ob li=some (.list (tx (fT b ts p)))) (ht:d9 σ 62 tk it oT fz [(6,.str (zs (tc (fT b ts p))))]) (hts:ts.length≤1000)
  (q:∀σ',dB (N+1) σ σ'->K (.bool true) σ'):zA Φ ⟨[some (.ref pl),some v,some (.bool b),some (.ref ld),some g,some pc,none],[N,N+1,N+2,N+3,N+4,N+5,N+6,N+7],[]⟩ σ (bp K) KE:=by
 have x:=h.du.du;obtain⟨M,hr⟩:=hr;obtain⟨O,ht⟩:=ht;obtain⟨L,k⟩:=h.c1;have u:∀{A:List (Option SV)} {C:SV->Sg->Prop},(∀j σ',bC σ σ'->σ'.ob j=some (.list ((uw b ts.length p).map .int))->C (.ref j) σ')->aO (bO [aP (aV 2),ai .IsNot (aV 1) aN]) (ax (aV 1) (aI 1)) (bK ab) Φ ⟨some (.ref pl)::some v::some (.bool b)::A,[N,N+1,N+2,N+3,N+4,N+5,N+6,N+7],[]⟩ σ C KE:=λ{A C} q=>by
  unfold gX at x;unfold uw at q;cases b with
  |false=>exact⟨bl rfl,q _ _ Kp.refl.new ac⟩
  |true=>
   dsimp only at q;cases hq:cG ts.length p with
   |none=>
    rw[hq]at x q;subst x;exact bQ rfl ⟨bl rfl,q _ _ Kp.refl.new ac⟩
   |some r=>
    rw[hq]at x q;refine jC x λt l D B J=>?_;obtain rfl:=D;exact bQ rfl (i_ B rfl (q l σ .refl J))
 refine u λj f z F=>⟨_,rfl,ao (z.ob _ _ k trivial) ?_⟩;have c:dB (N+1) σ (f.set (N+1) (.cell (some (.ref j)))):=z.to.set λZ Z h=>h rfl;have w:(f.set (N+1) (.cell (some (.ref j)))).ob (N+1)=some (.cell (some (.ref j))):=aE (z.ob _ _ k trivial);have s:(f.set (N+1) (.cell (some (.ref j)))).ob j=some (.list ((uw b ts.length p).map .int)):=(au (bG F (z.ob _ _ k trivial) rfl)).trans F;generalize (f.set (N+1) (.cell (some (.ref j))))=σ3 at c w s ⊢;have n:jf σ3 i ts:=λt ht=>by
  obtain⟨I,o,d,B⟩:=h.its t ht;exact⟨I,o,d,c.ob _ _ B (bG B k rfl)⟩
 have H:(0:Int)≤(zs (tc ts)).length∧((zs (tc ts)).length:Int)≤1000000:=by exact EC (by rw[de,cL];exact Z1 hts:(zs (tc ts)).length≤50000)
 refine c_ rfl (c.ob _ _ h.c2 (d6)) ⟨(by rw[de,cL];exact Z1 hts:(zs (tc ts)).length≤50000),ao ac ⟨⟨rfl,H.1,H.2⟩,?_⟩⟩;refine⟨by show((zs (tc ts)).length:Int).toNat≤10000;rw[(by rw[de,cL];exact Ae:((zs (tc ts)).length:Int).toNat=ts.length)];exact Z1 hts,?_⟩;show bS (.rng ((zs (tc ts)).length:Int).toNat) _ _ ((zs (tc ts)).length:Int).toNat 0 [] (σ3.new (.rng 0 (zs (tc ts)).length));rw[(by rw[de,cL];exact Ae:((zs (tc ts)).length:Int).toNat=ts.length)];refine FU rfl (ae w) (ae s) ?_;have e:bC σ3 ((σ3.new (.rng 0 (zs (tc ts)).length)).new (.list ((nO ts.length (uw b ts.length p)).map .int))):=Kp.refl.new.new;have a:((σ3.new (.rng 0 (zs (tc ts)).length)).new (.list ((nO ts.length (uw b ts.length p)).map .int))).ob (σ3.new (.rng 0 (zs (tc ts)).length)).nx=some (.list ((nO ts.length (uw b ts.length p)).map .int)):=ac;generalize ((σ3.new (.rng 0 (zs (tc ts)).length)).new (.list ((nO ts.length (uw b ts.length p)).map .int)))=σ5 at e a ⊢;generalize (σ3.new (.rng 0 (zs (tc ts)).length)).nx=lf at a ⊢;have E:(fT b ts p).length≤1000:=by
  have:=(j7 (b:=b) (p:=p) hts).1;rw[←this];exact WX pe hts
 have G:((nO ts.length (uw b ts.length p)).map SV.int).length≤10000:=by
  rw[W0];exact WX pe (Z1 hts)
 refine c_ rfl (e.ob _ _ (c.ob _ _ h.c6 (d6)) trivial) (g_ (e.ob _ _ (c.ob _ _ hr (bG hr k rfl)) trivial) rfl rfl (ao (e.ob _ _ (c.ob _ _ hli (bG hli k rfl)) trivial) ⟨by show(tx (fT b ts p)).length≤10000;rw[dA];exact Z1 E,?_⟩));refine jZ (e.ob _ _ (c.ob _ _ hli (bG hli k rfl)) trivial) ((n.up e.to (XS _)).sub λt ht=>nQ ht) ?_;refine ao (ae a) ⟨G,?_⟩;refine oy (ci:=3) rfl (ae (e.ob _ _ (c.ob _ _ h.c3 (d6)) trivial)) (ae (e.ob _ _ (c.ob _ _ h.hlc (bG h.hlc k rfl)) trivial)) ((n.up e.to (XS _)).up Kp.refl.new (XS _)) (ae a) (j7 (b:=b) (p:=p) hts) (λt ht=>nQ ht) ?_;refine pq (ae ac) ac ?_;have y:bC σ5 ((σ5.new (.list ((tn (fT b ts p)).map .int))).new (.list ((tn (fT b ts p)).map .int))):=Kp.refl.new.new;generalize ((σ5.new (.list ((tn (fT b ts p)).map .int))).new (.list ((tn (fT b ts p)).map .int)))=σ7 at y ⊢;have m:=e.trans y;refine c_ rfl (m.ob _ _ (c.ob _ _ h.c5 (d6)) trivial) (g_ (m.ob _ _ (c.ob _ _ ht (bG ht k rfl)) trivial) rfl rfl ⟨trivial,ao (y.ob _ _ a trivial) ⟨G,?_⟩⟩);refine oi (ci:=2) rfl (m.ob _ _ (c.ob _ _ h.c2 (d6)) trivial) (y.ob _ _ a trivial) (ds:=tc (fT b ts p)) (j7 (b:=b) (p:=p) hts).map ?_;dsimp only[ab];refine nh (cs:=tc (fT b ts p)) ac (by rw[cL];exact Z1 E) ?_;show K (.bool (aD (zs (tc (fT b ts p))) (zs (tc (fT b ts p))))) _;rw[aQ];exact q _ (c.trans (bC.to (m.trans Kp.refl.new)))
theorem z7 (hw:Wv σ W s) (h:Cu σ b ts p s.n N lc ld lr hl pl li tk rk W v) (hr:d9 σ 82 rk ir oR fz [(7,.ref li)]) (hli:σ.ob li=some (.list (tx ts))) (ht:d9 σ 62 tk it oT fz [(6,.str (zs (tc ts)))]) (hts:ts.length≤1000) (hh:Hd σ hl p) (hne:b=true->hl≠li) (hb:b=true->fz=false)
  (q:∀σ' s',Wv σ' W s'->Wn s s'->(Kp (λk o=>(fm o=true∧(b=true->k≠li∧k≠tk))∧k≠N+1) σ σ')->K (.bool true) σ'):NR (Ph (n+138)) ⟨[some (.ref pl),some v,some (.bool b),some (.ref ld),none,none,none],[N,N+1,N+2,N+3,N+4,N+5,N+6,N+7],[]⟩ σ (bp K) KE:=by
 refine Fg hw hr hli (by rw[dA];exact hts) hh hb h.c4 h.c6 h.c0 h.c7 h.hlr λg c S I m r B G=>?_;have u:Hy b li tk σ c:=r.mono λZ Z Z h=>⟨h.1,λq=>(h.2 q).1⟩;obtain⟨P,ht⟩:=ht;obtain⟨M,hr⟩:=hr;have j:=h.up u hli ht;have e:=r.kp hli ht rfl rfl;have A:Hd c hl p:=hh.upn (r.mono λk o E h=>⟨h.1,λZ J=>by rw[J,hli]at E;obtain rfl:=jS E;cases h.2⟩) λR F=>r.ob _ _ F ⟨rfl,hne⟩;rw[ET]at B;refine Ei I ⟨P,e⟩ (by rw[cL];exact hts) A hb j.c4 j.c5 j.c0 j.c7 j.hlr λx a sC L C y i O=>?_;have t:Hy b li tk c a:=y.mono λZ Z Z h=>⟨h.1,λq=>(h.2 q).2⟩;have l:=(j.up t B e).ext (σ':=a.new (.tup [g,x])) Kp.refl.new;rw[Dq]at i;refine⟨bl rfl,t_ ac rfl (c_ rfl l.c3 (c_ rfl l.c2 (l.told hts (pz (b:=true) (pz G y e) (Kp.str (bC.to Kp.refl.new)) i.choose_spec:f3 (a.new (.tup [g,x])) s.n (tx ts) p g) (ut (O.ge m.n) Kp.refl.new:fE (a.new (.tup [g,x])) s.n (tc ts) p x) λf z=>?_)))⟩;have d:bC a f:=Kp.refl.new.trans z;obtain⟨Q,H⟩:=(l.ext z).c1;refine Dt (l.ext z) ⟨M,d.ob _ _ (y.kp e (r.kp hli hr rfl rfl) rfl rfl) trivial⟩ (d.ob _ _ (y.kp e B rfl rfl) trivial) (i.up rfl d.to) hts λw D=>?_;refine q w sC (iw (L.up d) D H rfl) (m.trans C) ?_;exact(((u.mono λZ Z Z h=>h.1:Kp (λk o=>(fm o=true∧(b=true->k≠li∧k≠tk))∧k≠N+1) σ c).trans (t.mono λZ Z Z h=>h.1:Kp (λk o=>(fm o=true∧(b=true->k≠li∧k≠tk))∧k≠N+1) c a)).trans (d.to:Kp (λk o=>(fm o=true∧(b=true->k≠li∧k≠tk))∧k≠N+1) a f)).trans (D.mono λZ Z Z h=>h.2:Kp (λk o=>(fm o=true∧(b=true->k≠li∧k≠tk))∧k≠N+1) f w)
theorem mk8 {a b c d:Option SV} {K:List Nat->Sg->Prop} (q:∀σ',bC σ σ'->σ.nx+7<σ'.nx->σ'.ob σ.nx=some (.cell none)->σ'.ob (σ.nx+1)=some (.cell none)->σ'.ob (σ.nx+2)=some (.cell none)->σ'.ob (σ.nx+3)=some (.cell none)->σ'.ob (σ.nx+4)=some (.cell a)->σ'.ob (σ.nx+5)=some (.cell b)->σ'.ob (σ.nx+6)=some (.cell c)->σ'.ob (σ.nx+7)=some (.cell d)->K [σ.nx,σ.nx+1,σ.nx+2,σ.nx+3,σ.nx+4,σ.nx+5,σ.nx+6,σ.nx+7] σ'):Hu [none,none,none,none,a,b,c,d] σ K:=
 q _ Kp.refl.new.new.new.new.new.new.new.new (XY _) (ae (ae (ae (ae (ae (ae (ae ac))))))) (ae (ae (ae (ae (ae (ae ac)))))) (ae (ae (ae (ae (ae ac))))) (ae (ae (ae (ae ac)))) (ae (ae (ae ac))) (ae (ae ac)) (ae ac) ac
theorem yD (hw:Wv σ W s) (hr:d9 σ 82 rk ir oR fz [(7,.ref li)]) (hli:σ.ob li=some (.list (tx ts))) (ht:d9 σ 62 tk it oT fz [(6,.str (zs (tc ts)))]) (hts:ts.length≤900) (hb:b=true->fz=false) (its:jf σ s.n ts) (hn:ir≤s.n∧it≤s.n) (hh:Hd σ hl p) (hpl:jo σ pl p) (hdu:oz (λl=>b=true->l≠li) σ v ts.length p)
  (ne:b=true->hl≠li∧∀t∈ts,t.1≠tk) (q:∀σ' s',Wv σ' W s'->Wn s s'->Hy b li tk σ σ'->K (.bool true) σ'):Ph (n+140) 0 935 [.ref W,.ref rk,.ref tk,.ref hl,.ref pl,v,.bool b] σ K KE:=by
 have S:=σ.wf _ _ hli;obtain⟨dr,hr⟩:=hr;obtain⟨dt,ht⟩:=ht;refine dh (φ:=fX 7 [] [some 4,some 5,some 6,none,none,none,none] [none,none,none,none,some 3,some 2,some 1,some 0] Gn) rfl rfl ⟨rfl,mk8 λa D J u V P O X I L Y=>?_⟩;generalize hN:σ.nx=N at*;refine c_ rfl L (g_ (D.ob _ _ hr trivial) rfl rfl (.inl (ao (D.ob _ _ hli trivial) ⟨by rw[dA];exact Z1 hts,c_ rfl (ae I) (g_ (ae (D.ob _ _ ht trivial)) rfl rfl ⟨bl rfl,t_ ac rfl ⟨_,rfl,ao (ae (ae O)) ⟨_,rfl,ao ((au (d6)).trans (ae (ae P))) ?_⟩⟩⟩)⟩)));have m:bC σ ((((a.new (.list (tx ts))).new (.tup [.ref a.nx,.str (zs (tc ts))])).set (N+3) (.cell (some (.ref a.nx)))).set (N+2) (.cell (some (.str (zs (tc ts)))))):=((D.new.new).setN (yE hN)).setN (yE hN);have g:∀{k o},k≠N+3->k≠N+2->a.ob k=some o->((((a.new (.list (tx ts))).new (.tup [.ref a.nx,.str (zs (tc ts))])).set (N+3) (.cell (some (.ref a.nx)))).set (N+2) (.cell (some (.str (zs (tc ts)))))).ob k=some o:=λG h2 h=>(au h2).trans ((au G).trans (ae (ae h)));have M:((((a.new (.list (tx ts))).new (.tup [.ref a.nx,.str (zs (tc ts))])).set (N+3) (.cell (some (.ref a.nx)))).set (N+2) (.cell (some (.str (zs (tc ts)))))).ob (N+2)=some (.cell (some (.str (zs (tc ts))))):=aE ((au (d6)).trans (ae (ae P)));have E:((((a.new (.list (tx ts))).new (.tup [.ref a.nx,.str (zs (tc ts))])).set (N+3) (.cell (some (.ref a.nx)))).set (N+2) (.cell (some (.str (zs (tc ts)))))).ob (N+3)=some (.cell (some (.ref a.nx))):=(au (d6)).trans (aE (ae (ae O)));have z:((((a.new (.list (tx ts))).new (.tup [.ref a.nx,.str (zs (tc ts))])).set (N+3) (.cell (some (.ref a.nx)))).set (N+2) (.cell (some (.str (zs (tc ts)))))).ob a.nx=some (.list (tx ts)):=(au (Z23 J)).trans ((au (Z23 J)).trans (ae ac));generalize ((((a.new (.list (tx ts))).new (.tup [.ref a.nx,.str (zs (tc ts))])).set (N+3) (.cell (some (.ref a.nx)))).set (N+2) (.cell (some (.str (zs (tc ts))))))=σ5 at m g M E z ⊢;have u:=g (Hx) (Hx) u;have C:a.nx≠li:=by exact Z24 S J
 generalize a.nx=lc at z E C ⊢;refine c_ rfl (g (d6) (d6) L) (g_ (m.ob _ _ hr trivial) rfl rfl (c_ rfl (g (d6) (d6) I) (g_ (m.ob _ _ ht trivial) rfl rfl ⟨bl rfl,c_ rfl (ae E) (ao (ae z) ⟨by show(tx ts).length≤10000;rw[dA];exact Z1 hts,?_⟩)⟩)));refine jZ (ae z) ((its.up m.to (XS _)).up (bC.to Kp.refl.new) (XS _)) ?_;refine ao (ae ac) (ao ac ⟨⟨bl rfl,by rw[W0,Fj];exact Z1 hts⟩,?_⟩);have c:bC σ5 (((σ5.new (.list [.int ir,.int it])).new (.list ((tn ts).map .int))).new (.list ([.int ir,.int it]++(tn ts).map .int))):=Kp.refl.new.new.new;have j:(((σ5.new (.list [.int ir,.int it])).new (.list ((tn ts).map .int))).new (.list ([.int ir,.int it]++(tn ts).map .int))).ob ((σ5.new (.list [.int ir,.int it])).new (.list ((tn ts).map .int))).nx=some (.list ((ir::it::tn ts).map .int)):=ac;have B:((σ5.new (.list [.int ir,.int it])).new (.list ((tn ts).map .int))).nx≠li:=by
  have:=m.nx;show σ5.nx+1+1≠li;lia
 generalize (((σ5.new (.list [.int ir,.int it])).new (.list ((tn ts).map .int))).new (.list ([.int ir,.int it]++(tn ts).map .int)))=σ8 at c j ⊢;generalize ((σ5.new (.list [.int ir,.int it])).new (.list ((tn ts).map .int))).nx=ld at j B ⊢;have T:∀{A:List (Option SV)} {F:SV->Sg->Prop},F (.ref σ8.nx) (σ8.new (.list (fH b)))->aO (aP (aV 2)) (bK (aa (aG 461) (aa (aG 517) ab))) (bK (aa (aG 454) (aa (aG 510) ab))) (Ph (n+139)) ⟨some (.ref pl)::some v::some (.bool b)::A,[N,N+1,N+2,N+3,N+4,N+5,N+6,N+7],[]⟩ σ8 F KE:=λ{A F} q=>by
  cases b<;>exact⟨bl rfl,q⟩
 refine T ⟨_,rfl,ao (ae (c.ob _ _ u trivial)) ?_⟩;have d:bC σ ((σ8.new (.list (fH b))).set N (.cell (some (.ref σ8.nx)))):=((m.trans c).new).setN (Z76 hN);have f:∀{k o},k≠N->σ8.ob k=some o->((σ8.new (.list (fH b))).set N (.cell (some (.ref σ8.nx)))).ob k=some o:=λG h=>(au G).trans (ae h);have y:((σ8.new (.list (fH b))).set N (.cell (some (.ref σ8.nx)))).ob N=some (.cell (some (.ref σ8.nx))):=aE (ae (c.ob _ _ u trivial));have x:((σ8.new (.list (fH b))).set N (.cell (some (.ref σ8.nx)))).ob σ8.nx=some (.list (fH b)):=(au (by have:=(m.trans c).nx;have:=σ8.wf _ _ (c.ob _ _ u trivial);exact Z31 this:σ8.nx≠N)).trans ac;have r:σ8.nx≠li:=by have:=(m.trans c).nx;lia
 generalize ((σ8.new (.list (fH b))).set N (.cell (some (.ref σ8.nx))))=σ9 at d f y x ⊢;generalize σ8.nx=lr at y x r ⊢;have cu:Cu σ9 b ts p s.n N lc ld lr hl pl li tk rk W v:=⟨y,x,⟨_,f (pD) (c.ob _ _ (g (d6) (d6) V) trivial)⟩,f (pD) (c.ob _ _ M trivial),f (pD) (c.ob _ _ E trivial),f (bG (c.ob _ _ z trivial) (c.ob _ _ u trivial) rfl) (c.ob _ _ z trivial),f (pD) (c.ob _ _ (g (d6) (d6) X) trivial),f (pD) (c.ob _ _ (g (d6) (d6) I) trivial),f (pD) (c.ob _ _ (g (d6) (d6) L) trivial),f (pD) (c.ob _ _ (g (d6) (d6) Y) trivial),its.up d.to (XS _),(bv _ (f (bG j (c.ob _ _ u trivial) rfl) j) (λi hi=>by
  rcases WY.mp hi with rfl|hi
  ·exact hn.1
  ·rcases WY.mp hi with rfl|hi
   ·exact hn.2
   ·refine bn (Xb.mp hi) λt ht H=>?_;obtain rfl:=H
    exact(its t ht).1)),hpl.up d.to,hdu.up d.to,λh=>(gc r C B ((ne h).2))⟩
 exact(z7 (n:=n+1) (K:=K) (KE:=KE) (hw.up d) cu ⟨dr,d.ob _ _ hr trivial⟩ (d.ob _ _ hli trivial) ⟨dt,d.ob _ _ ht trivial⟩ (Z1 hts) (hh.up d.to) (λh=>(ne h).1) hb λσ' s' w R e=>q σ' s' w R ⟨WX d.nx e.nx,λk o Q U=>e.ob k o (d.ob _ _ Q trivial) ⟨U,λek=>by have:=σ.wf _ _ Q;lia⟩⟩)
variable {g:Int}
theorem Bx {k:Int} (hk:0≤k∧k<m) (q:K (.bool (decide (cg y b m≤k))) σ):Ph (n+1) 0 906 [.int m,.int k,oI y,.bool b] σ K KE:=by
 refine aK (k:=4) (d:=[]) (r:=1) (m:=Ba) rfl rfl rfl ?_;cases y with
 |none=>
  refine bQ rfl ?_;rw[Xo (show¬cg none b m≤k by show¬m≤k;exact XaH hk.2)]at q;exact q
 |some h=>
  refine bQ rfl ?_;have c:∀a:Int,a - h=k - bM h m->aq (ti (bF .Gt (aV 4) (aV 2)) (eK (aV 3) [bF .Eq (aV 4) (aV 2)])) (Ph n) ⟨[some (.int m),some (.int k),some (.int h),some (.bool b),some (.int a)],[],[]⟩ σ (bp K) KE:=λa e=>by
   refine bW (λg=>?_) λg=>?_
   ·show K (.bool (decide (h<a))) σ
    rw[Xx g];rw[Xx (show cg (some h) b m≤k by show bM h m+(if b then 0 else 1)≤k;split<;>lia)]at q;exact q
   ·cases b with
    |true=>
     show K (.bool (decide (a=h))) σ;rw[show decide (a=h)=decide (cg (some h) true m≤k) from by
      rw[decide_eq_decide];show a=h↔bM h m+0≤k;lia]
     exact q
    |false=>
     rw[Xo (show¬cg (some h) false m≤k by show¬bM h m+1≤k;lia)]at q;exact q
  refine bW (λf=>c k ?_) λf=>c (k - m) ?_
  ·rw[show bM h m=h from Xh (hO f)]
  ·rw[show bM h m=h+m from Xn (qz f)];lia
theorem zT:(List.range N).flatMap (λk:Nat=>cond (decide ((k:Int)=g)) [SV.int k] [])=if 0≤g∧g<N then[SV.int g]else[]:=by
 induction N with
 |zero=>rw[Xh (by lia)];rfl
 |succ N ih=>
  rw[YQ,YE,ih,YC,Y4,XO];by_cases h1:(N:Int)=g
  ·rw[Xx h1,Xh (by lia),Xn (by lia),h1];rfl
  ·rw[Xo h1,cond_false,XO]
   by_cases h2:0≤g∧g<N
   ·rw[Xn h2,Xn (by lia)]
   ·rw[Xh h2,Xh (by lia)]
theorem pI (h:0≤g):(List.range N).flatMap (λk:Nat=>cond (decide (g≤(k:Int))) [SV.int k] [])=(fK (g,(N:Int) - g)).map .int:=by
 induction N with
 |zero=>
  show[]=((List.range ((0:Int) - g).toNat).map _).map _;rw[show((0:Int) - g).toNat=0 by lia];rfl
 |succ N ih=>
  rw[YQ,YE,ih,YC,Y4,XO];by_cases h1:g≤N
  ·rw[Xx h1]
   show _=((List.range (((N+1:Nat):Int) - g).toNat).map _).map _;rw[show(((N+1:Nat):Int) - g).toNat=((N:Int) - g).toNat+1 by lia,YQ,Xa,Xa];congr 1;show[SV.int N]=[SV.int (g+_)];rw[show g+(((N:Int) - g).toNat:Nat)=N by lia]
  ·rw[Xo h1]
   show _=((List.range (((N+1:Nat):Int) - g).toNat).map _).map _;rw[show(((N+1:Nat):Int) - g).toNat=((N:Int) - g).toNat by lia];exact XO _
theorem qJ (h:0≤c):(List.range N).flatMap (λk:Nat=>cond (decide ((k:Int)<c)) [SV.int (g+k)] [])=(fK (g,if(N:Int)<c then N else c)).map .int:=by
 induction N with
 |zero=>
  show[]=((List.range (if((0:Nat):Int)<c then((0:Nat):Int)else c).toNat).map _).map _;rw[show(if((0:Nat):Int)<c then((0:Nat):Int)else c).toNat=0 by split<;>lia];rfl
 |succ N ih=>
  rw[YQ,YE,ih,YC,Y4,XO];show((List.range (if(N:Int)<c then(N:Int)else c).toNat).map _).map _++_=((List.range (if((N+1:Nat):Int)<c then((N+1:Nat):Int)else c).toNat).map _).map _;by_cases h1:(N:Int)<c
  ·rw[Xx h1,show(if((N+1:Nat):Int)<c then((N+1:Nat):Int)else c).toNat=N+1 by split<;>lia,show(if(N:Int)<c then(N:Int)else c).toNat=N by rw[Xn h1];exact Ae,YQ,Xa,Xa]
   rfl
  ·rw[Xo h1,show(if((N+1:Nat):Int)<c then((N+1:Nat):Int)else c).toNat=(if(N:Int)<c then(N:Int)else c).toNat by rw[Xh h1];split<;>lia]
   exact XO _
theorem j9 {b:pv} {fr:cf} {gk:Nat->List SV} (hm:0≤m∧m≤5000) (hb:∀σ',bC σ σ'->∀i:Nat,(i:Int)<m->∀ys (K':List SV->Sg->Prop),K' (ys++gk i) σ'->kY b Φ fr (.int i) ys σ' K') (q:∀σ',bC σ σ'->KC ((List.range m.toNat).flatMap gk) σ'):bD [.int m] σ (λv σ=>q5 σ v λs=>s.len≤10000∧bS s (kY b Φ fr) KC s.len 0 [] σ):=by
 refine ao ac (eQ (eQ rfl hm.1 (vc hm.2)) (by show m.toNat≤10000;exact UQ hm.2) ?_);refine oQ (g:=gk) (λi a ys K' g=>hb _ Kp.refl.new i (by lia) ys K' g) ?_;exact q _ Kp.refl.new
theorem uN {b:SV->List SV->Sg->(List SV->Sg->Prop)->Prop} {K:List SV->Sg->Prop} {xs:List SV} {g:SV->List SV} (hl:σ.ob l=some (.list xs)) (hb:∀x∈xs,∀ys (K':List SV->Sg->Prop),K' (ys++g x) σ->b x ys σ K') (q:K (xs.flatMap g) σ):bS (.list l xs.length) b K xs.length 0 [] σ:=by
 have d:∀m i,i+m=xs.length->bS (.list l xs.length) b K m i ((xs.take i).flatMap g) σ:=by
  intro m
  induction m with
  |zero=>
   intro i a;refine⟨ao hl rfl,?_⟩;rw[Yq (Z16 a)];exact q
  |succ m ih=>
   intro i a;have c:i<xs.length:=by exact Hw a
   refine⟨ao hl rfl,ao hl ⟨_,Xf c,hb _ (List.getElem_mem c) _ _ ?_⟩⟩;have:=ih (i+1) (vX a);rw[←Y7 c,YE,YC,Y4,XO]at this;exact this
 exact d xs.length 0 (X9 _)
theorem Px:PyData.eqv (.list [.int g]) (.list [])=false:=by simp[PyData.eqv,PyData.eqvAll]
theorem Si:SeqAt.shaped (.list [.int g])=true:=kH (is:=[g])
theorem yi:SeqAt.shaped (.list [])=true:=kH (is:=[])
noncomputable def gR (p:Pl):Option Int:=match p with
 |.one i=>some i
 |.two i _=>some i
 |.rng x _ _=>x
 |.odd _=>none
noncomputable def yW (p:Pl):SV:=match p with
 |.two _ c=>.int c
 |.rng _ y _=>oI y
 |_=>.int 0
noncomputable def yv (p:Pl):Bool:=match p with
 |.rng _ _ b=>b
 |_=>false
def nS:AS:=aw (ai .Eq (aV 1) (aS "two")) (aq (aU (aa (ax (aC 1) (aI 0)) (aa (bP (bH bD (aa (bH aZ (aa (aC 0) ab)) ab)) (pK (ai .Lt aX (aC 4)) (ax (aC 0) aX))) ab)))) (aq (aU (aa (ax (aC 1) (aI 0)) (aa (bP (aC 0) (pK (cF (aP (ag 906 (aa (aC 5) (aa aX (aa (aC 4) (aa (aC 3) ab))))))) aX)) ab))))
def yH:AS:=ay (.c 0) (bP (bH bD (aa (aC 5) ab)) (pK (ai .GtE aX (ax (aC 1) (aI 0))) aX)) nS
def zq:AS:=aw (cD [ai .Eq (aC 1) (bK ab),bO [ai .Eq (aV 1) (aS "two"),ai .Lt (aC 4) (aI 0)]]) (aq aN) (aw (ai .Eq (aV 1) (aS "one")) (aq (aU (aa (ax (aC 1) (aI 0)) (aa (aC 1) ab)))) yH)
abbrev Blw (N:Nat):Sg->Sg->Prop:=Kp λk Z=>k<N
variable {lb lg:Nat} {a0 a2:Option SV}
theorem jo.pt (h:jo σ k p) (ho:q6 p=false):σ.ob k=some (.tup [.str (x8 p),oI (gR p),yW p,.bool (yv p)]):=by
 cases p<;>first|exact h|exact kP ho
theorem w8 (hm:0≤m∧m≤1000) (hg:bM i m=g) (g0:0≤g∧g≤m) (h0:0≤c) (c0:σ.ob N=some (.cell (some (.ref lb)))) (hlb:σ.ob lb=some (.list ((fK (g,m - g)).map .int))) (c1:σ.ob (N+1)=some (.cell (some (.ref lg)))) (hlg:σ.ob lg=some (.list [.int g])) (c4:σ.ob (N+4)=some (.cell (some (.int c))))
  (q:∀v σ',Blw N σ σ'->gX σ' v m (.two i c)->K v σ'):nS Φ ⟨[a0,some (.str "two"),a2],[N,N+1,N+2,N+3,N+4,N+5],[]⟩ σ (bp K) KE:=by
 refine kS aQ ?_;refine c_ rfl c1 (i_ hlg rfl (c_ rfl c0 (ao hlb ⟨by rw[(by rw[W0,dq]:((fK (g,m - g)).map SV.int).length=(m - g).toNat)];exact HH hm.1 hm.2 g0.1 g0.2,?_⟩)));dsimp only[ab];refine j9 (gk:=λk:Nat=>cond (decide ((k:Int)<c)) [SV.int (g+k)] []) (by rw[(by rw[W0,dq]:((fK (g,m - g)).map SV.int).length=(m - g).toNat)];lia) (λσ' e k a f d q=>?_) λσ' e=>⟨bl rfl,q _ _ (bC.to (Kp.new (Kp.new e))) ?_⟩
 ·refine c_ rfl (e.ob _ _ c4 trivial) (bW (λh=>c_ rfl (e.ob _ _ c0 trivial) (ao (e.ob _ _ hlb trivial) ?_)) λh=>?_)
  ·show bI (decide ((k:Int)<0)) _ _
   rw[Xo (Cy)];rw[(by rw[W0,dq]:((fK (g,m - g)).map SV.int).length=(m - g).toNat)]at a;refine⟨⟨by exact UM,by lia⟩,.int (g+k),?_,?_⟩
   ·dsimp only[fK]
    rw[Yp,Xd,Y5 (by show(k:Int).toNat<(m - g).toNat;lia)];rfl
   ·rw[Xx h]at q
    exact q
  ·rw[Xo h]at q
   have q:d (f++[]) σ':=q;rw[XO]at q;exact q
 ·have b:cG m (.two i c)=some (g,if m - g<c then m - g else c):=by
   show pJ (bM i m) c m=_;rw[hg];exact Xh (TJ g0 h0)
  unfold gX;rw[b];refine(j6 _ _ rfl ac ?_);rw[qJ h0,(by rw[W0,dq]:((fK (g,m - g)).map SV.int).length=(m - g).toNat),show(((((m - g).toNat:Nat):Int).toNat:Nat):Int)=m - g by lia];exact ae ac
theorem xE (hm:0≤m∧m≤1000) (hg:fD x m=g) (g0:0≤g∧g≤m) (c0:σ.ob N=some (.cell (some (.ref lb)))) (hlb:σ.ob lb=some (.list ((fK (g,m - g)).map .int))) (c1:σ.ob (N+1)=some (.cell (some (.ref lg)))) (hlg:σ.ob lg=some (.list [.int g])) (c3:σ.ob (N+3)=some (.cell (some (.bool b)))) (c4:σ.ob (N+4)=some (.cell (some (oI y)))) (c5:σ.ob (N+5)=some (.cell (some (.int m))))
  (q:∀v σ',Blw N σ σ'->gX σ' v m (.rng x y b)->K v σ'):nS (Ph (n+1)) ⟨[a0,some (.str "range"),a2],[N,N+1,N+2,N+3,N+4,N+5],[]⟩ σ (bp K) KE:=by
 refine g6 gu.2.2.2.2.1 ?_;refine c_ rfl c1 (i_ hlg rfl (c_ rfl c0 (ao hlb ⟨by show((fK (g,m - g)).map SV.int).length≤10000;rw[(by rw[W0,dq]:((fK (g,m - g)).map SV.int).length=(m - g).toNat)];exact HH hm.1 hm.2 g0.1 g0.2,?_⟩)));refine uN (g:=λx=>match x with
  |.int k=>cond (decide (k<cg y b m)) [SV.int k] []
  |_=>[]) hlb (λw o f d q=>?_) ⟨bl rfl,q _ _ (bC.to Kp.refl.new.new) ?_⟩
 ·refine bn (Xb.mp o) λk p a=>?_;obtain rfl:=a
  refine bn (Xb.mp p) λu i a=>?_;obtain rfl:=a;have i:u<(m - g).toNat:=XG.mp i;refine c_ rfl c5 (c_ rfl c4 (c_ rfl c3 (Bx (by show 0≤g+(u:Int)∧g+(u:Int)<m;lia) ?_)));refine Wo (λh=>?_) λh=>?_
  ·have q:d (f++cond (decide (g+(u:Int)<cg y b m)) [SV.int (g+u)] []) σ:=q
   rw[Xx (show g+(u:Int)<cg y b m by have:¬cg y b m≤g+(u:Int):=h;exact qz h)]at q;exact q
  ·have q:d (f++cond (decide (g+(u:Int)<cg y b m)) [SV.int (g+u)] []) σ:=q
   rw[Xo (show¬g+(u:Int)<cg y b m by have:cg y b m≤g+(u:Int):=h;exact hO h)]at q;have q:d (f++[]) σ:=q;rw[XO]at q;exact q
 ·have j:0≤om g (cg y b m):=by unfold om;split<;>lia
  have r:cG m (.rng x y b)=some (g,if m - g<om g (cg y b m)then m - g else om g (cg y b m)):=by
   show pJ (fD x m) (om (fD x m) (cg y b m)) m=_;rw[hg];exact Xh (TJ g0 j)
  unfold gX;rw[r];refine(j6 _ _ rfl ac ?_);have e:((fK (g,m - g)).map SV.int).flatMap (λx=>match x with
   |.int k=>cond (decide (k<cg y b m)) [SV.int k] []
   |_=>[])=(fK (g,if m - g<om g (cg y b m)then m - g else om g (cg y b m))).map .int:=by
   have l:=qJ (g:=g) (c:=om g (cg y b m)) (N:=(m - g).toNat) j;rw[show(((m - g).toNat:Nat):Int)=m - g by lia]at l;rw[←l];dsimp only[fK];rw[Yp,List.flatMap_map];show(List.range (m - g).toNat).flatMap _=_;congr 1
   funext u
   show cond (decide (g+(u:Int)<cg y b m)) _ _=_;rw[show decide (g+(u:Int)<cg y b m)=decide ((u:Int)<om g (cg y b m)) from by
    rw[decide_eq_decide];unfold om;split<;>lia]
  rw[e];exact ae ac
theorem ua (hm:0≤m∧m≤1000) (g0:0≤g∧g≤m) (c0:∃o,σ.ob N=some (.cell o)) (c1:σ.ob (N+1)=some (.cell (some (.ref lg)))) (hlg:σ.ob lg=some (.list [.int g])) (c5:σ.ob (N+5)=some (.cell (some (.int m))))
  (q:∀lb σ',dB N σ σ'->σ'.ob N=some (.cell (some (.ref lb)))->σ'.ob lb=some (.list ((fK (g,m - g)).map .int))->nS Φ ⟨loc,[N,N+1,N+2,N+3,N+4,N+5],[]⟩ σ' (bp K) KE):yH Φ ⟨loc,[N,N+1,N+2,N+3,N+4,N+5],[]⟩ σ (bp K) KE:=by
 obtain⟨o,c0⟩:=c0;refine c_ rfl c5 ?_;refine j9 (gk:=λk:Nat=>cond (decide (g≤(k:Int))) [SV.int k] []) (Xdq hm.1 hm.2) (λσ' e k d c b q=>?_) λσ' e=>⟨_,rfl,ao (ae (e.ob _ _ c0 trivial)) (q σ'.nx _ ((bC.to (Kp.new e)).set λZ Z h=>h rfl) (aE (ae (e.ob _ _ c0 trivial))) ?_)⟩
 ·refine c_ rfl (e.ob _ _ c1 trivial) (i_ (e.ob _ _ hlg trivial) rfl (bW (λh=>?_) λh=>?_))
  ·rw[Xx h]at q
   exact q
  ·rw[Xo h]at q
   have q:b (c++[]) σ':=q;rw[XO]at q;exact q
 ·have a:=ac (σ:=σ') (o:=.list ((List.range m.toNat).flatMap λk:Nat=>cond (decide (g≤(k:Int))) [SV.int k] []))
  rw[pI g0.1,show((m.toNat:Nat):Int)=m by exact QJ hm.1]at a ⊢;exact(au (bG a (ae (e.ob _ _ c0 trivial)) rfl)).trans a
theorem HJ {l2:Nat} {K:Bool->Prop} (h1:σ.ob l=some (.list [.int g])) (h2:σ.ob l2=some (.list [])) (q:K false):We σ (.ref l) (.ref l2) K:=⟨.list [.int g],.list [],.list _ _ _ rfl h1 rfl,.list _ _ _ rfl h2 rfl,by rw[Si,yi];rfl,by rw[Px];exact q⟩
theorem CF (ho:q6 p=false) (hm:0≤m∧m≤1000) (hg:bM ((gR p).getD 0) m=g) (c0:∃o,σ.ob N=some (.cell o)) (c1:σ.ob (N+1)=some (.cell (some (.ref lg)))) (hlg:σ.ob lg=some (.list (if 0≤g∧g<(if eM p then m else m+1)then[.int g]else[]))) (c3:σ.ob (N+3)=some (.cell (some (.bool (yv p))))) (c4:σ.ob (N+4)=some (.cell (some (yW p)))) (c5:σ.ob (N+5)=some (.cell (some (.int m))))
  (q:∀v σ',Blw N σ σ'->gX σ' v m p->K v σ'):zq (Ph (n+1)) ⟨[a0,some (.str (x8 p)),a2],[N,N+1,N+2,N+3,N+4,N+5],[]⟩ σ (bp K) KE:=by
 have u:∀σ',bC σ σ'->cG m p=none->K .none σ':=λσ' e h=>q _ _ e.to (by unfold gX;rw[h]);by_cases a:0≤g∧g<(if eM p then m else m+1)
 ·rw[Xn a]at hlg
  refine c_ rfl c1 ⟨bl rfl,HJ (ae hlg) ac ?_⟩;have k:bC σ (σ.new (.list [])):=Kp.refl.new;obtain⟨z,c0⟩:=c0;have c0:=k.ob _ _ c0 trivial;have c1:=k.ob _ _ c1 trivial;have c3:=k.ob _ _ c3 trivial;have c4:=k.ob _ _ c4 trivial;have c5:=k.ob _ _ c5 trivial;have hlg:=k.ob _ _ hlg trivial;generalize σ.new (.list [])=σ1 at k c0 c1 c3 c4 c5 hlg ⊢;cases p with
  |odd j=>exact kP ho
  |one i=>
   have a:0≤g∧g<m:=a;have hg:bM i m=g:=hg;show bI (aD "one" "two") _ _;rw[gu.2.2.2.1];show bI (aD "one" "one") _ _;rw[aQ];refine c_ rfl c1 (i_ hlg rfl (c_ rfl c1 ⟨bl rfl,q _ _ (bC.to (Kp.new k)) ?_⟩));unfold gX;rw[show cG m (.one i)=some (bM i m,1) from Xn (by rw[hg];exact a),hg];refine(j6 _ _ rfl ac (ae ?_));rw[show(fK (g,1)).map SV.int=[.int g] from by
    show[SV.int (g+((0:Nat):Int))]=_;rw[show g+((0:Nat):Int)=g by lia]]
   exact hlg
  |two i c=>
   have a:0≤g∧g<m+1:=a;have hg:bM i m=g:=hg;show bI (aD "two" "two") _ _;rw[aQ];refine c_ rfl c4 (bW (λh=>?_) λh=>?_)
   ·exact u _ k (Xn (.inr (.inr h)))
   ·show bI (aD "two" "one") _ _
    rw[gu.2.2.2.2.2.1];refine ua hm (xk (by assumption) a hg) ⟨_,c0⟩ c1 hlg c5 λw σ' f s r=>?_;exact w8 hm hg (xk (by assumption) a hg) (by have h:¬c<0:=h;exact Fk (by assumption)) s r (f.ob _ _ c1 (pD)) (f.ob _ _ hlg (bG hlg c0 rfl)) (f.ob _ _ c4 (pD)) λv l t d=>q v l ((k.to.trans (f.mono λZ Z Z h=>by exact Z30 h)).trans t) d
  |rng x y b=>
   have a:0≤g∧g<m+1:=a;have hg:bM (x.getD 0) m=g:=hg;rw[iB]at hg;show bI (aD "range" "two") _ _;rw[gu.2.2.2.2.1];show bI (aD "range" "one") _ _;rw[gu.2.2.2.2.2.2];refine ua hm (xk (by assumption) a hg) ⟨_,c0⟩ c1 hlg c5 λw σ' f s r=>?_;exact xE hm hg (xk (by assumption) a hg) s r (f.ob _ _ c1 (pD)) (f.ob _ _ hlg (bG hlg c0 rfl)) (f.ob _ _ c3 (pD)) (f.ob _ _ c4 (pD)) (f.ob _ _ c5 (pD)) λv l t d=>q v l ((k.to.trans (f.mono λZ Z Z h=>by exact Z30 h)).trans t) d
 ·rw[Xh a]at hlg
  refine c_ rfl c1 ⟨bl rfl,t8 (.list _ [] [] rfl (ae hlg) rfl) (.list _ [] [] rfl ac rfl) yi (u _ Kp.refl.new ?_)⟩;cases p with
  |odd j=>exact kP ho
  |one i=>
   have a:¬(0≤g∧g<m):=a;have hg:bM i m=g:=hg;exact Xh (by rw[hg];exact a)
  |two i c=>
   have hg:bM i m=g:=hg;exact Xn (LA a hg)
  |rng x y b=>
   have a:¬(0≤g∧g<m+1):=a;have hg:bM (x.getD 0) m=g:=hg;rw[iB]at hg;exact Xn (LA a hg)
variable {nn mk:Int}
theorem rO (hm:0≤m∧m≤1000) (hn:nn=m∨nn=m+1) (hg:bM mk m=g) (c2:σ.ob (N+2)=some (.cell (some (.int mk)))) (c5:σ.ob (N+5)=some (.cell (some (.int m)))) (q:∀σ',bC σ σ'->KC (if 0≤g∧g<nn then[.int g]else[]) σ'):
  bD [.int nn] σ (λv σ=>q5 σ v λs=>s.len≤10000∧bS s (kY (pK (cD [ai .Eq aX (aC 2),bO [ai .Lt (aC 2) (aI 0),ai .Eq (ap .Sub aX (aC 5)) (aC 2)]]) aX) Φ ⟨loc,[N,N+1,N+2,N+3,N+4,N+5],[]⟩) KC s.len 0 [] σ):=by
 refine j9 (gk:=λk:Nat=>cond (decide ((k:Int)=g)) [SV.int k] []) (by lia) (λσ' e k j f d q=>?_) λσ' e=>?_
 ·have c2:=e.ob _ _ c2 trivial
  have b:(k:Int)=g->d (f++[.int k]) σ':=λh=>by
   rw[Xx h]at q;exact q
  have i:¬(k:Int)=g->d f σ':=λh=>by
   rw[Xo h]at q;have q:d (f++[]) σ':=q;rw[XO]at q;exact q
  unfold bM at hg;refine c_ rfl c2 (bW (λh=>b ?_) λh=>c_ rfl c2 (bW (λa=>c_ rfl (e.ob _ _ c5 trivial) (c_ rfl c2 (bW (λc=>b ?_) λc=>i ?_))) λa=>i ?_))
  ·have h:(k:Int)=mk:=h
   rw[Xh (by lia)]at hg;lia
  ·have c:(k:Int) - m=mk:=c
   have a:mk<0:=a;rw[Xn a]at hg;lia
  ·have c:¬(k:Int) - m=mk:=c
   have a:mk<0:=a;rw[Xn a]at hg;lia
  ·have h:¬(k:Int)=mk:=h
   have a:¬mk<0:=a;rw[Xh a]at hg;lia
 ·have:=q σ' e
  rw[zT,show((nn.toNat:Nat):Int)=nn by lia];exact this
theorem mk6 {a:Option SV} {K:List Nat->Sg->Prop} (q:∀σ',bC σ σ'->σ'.ob σ.nx=some (.cell none)->σ'.ob (σ.nx+1)=some (.cell none)->σ'.ob (σ.nx+2)=some (.cell none)->σ'.ob (σ.nx+3)=some (.cell none)->σ'.ob (σ.nx+4)=some (.cell none)->σ'.ob (σ.nx+5)=some (.cell a)->K [σ.nx,σ.nx+1,σ.nx+2,σ.nx+3,σ.nx+4,σ.nx+5] σ'):Hu [none,none,none,none,none,a] σ K:=
 q _ Kp.refl.new.new.new.new.new.new (ae (ae (ae (ae (ae ac))))) (ae (ae (ae (ae ac)))) (ae (ae (ae ac))) (ae (ae ac)) (ae ac) ac
theorem OD (hm:0≤m∧m≤1000) (hpl:jo σ pl p) (q:∀v σ',bC σ σ'->gX σ' v m p->K v σ'):Ph (n+2) 0 911 [.int m,.ref pl] σ K KE:=by
 refine dh (φ:=fX 2 [] [some 1,none,none] [none,none,none,none,none,some 0] Ai) rfl rfl ⟨rfl,mk6 λa C z f u s r g=>?_⟩;have G:=σ.wf;generalize hN:σ.nx=N at*;cases ho:q6 p with
 |true=>
  cases p with
  |one i=>exact cp ho
  |two i c=>exact cp ho
  |rng x y b=>exact cp ho
  |odd j=>
   refine t_ (C.ob _ _ hpl trivial) rfl ⟨_,rfl,ao r ⟨_,rfl,ao ((au (d6)).trans s) ?_⟩⟩;refine kS aQ ?_;exact q _ _ ((C.setN (yE hN)).setN (yE hN)) rfl
 |false=>
  refine t_ (C.ob _ _ (hpl.pt ho) trivial) rfl ⟨_,rfl,ao r ⟨_,rfl,ao ((au (d6)).trans s) ?_⟩⟩;refine g6 (oO ho) ?_;have J:bC σ ((a.set (N+4) (.cell (some (yW p)))).set (N+3) (.cell (some (.bool (yv p))))):=(C.setN (yE hN)).setN (yE hN);have B:∀{k o},k≠N+4->k≠N+3->a.ob k=some o->((a.set (N+4) (.cell (some (yW p)))).set (N+3) (.cell (some (.bool (yv p))))).ob k=some o:=λw S h=>(au S).trans ((au w).trans h);have s:((a.set (N+4) (.cell (some (yW p)))).set (N+3) (.cell (some (.bool (yv p))))).ob (N+3)=some (.cell (some (.bool (yv p)))):=aE ((au (d6)).trans s);have r:((a.set (N+4) (.cell (some (yW p)))).set (N+3) (.cell (some (.bool (yv p))))).ob (N+4)=some (.cell (some (yW p))):=(au (d6)).trans (aE r);have z:=B (Hx) (Hx) z;have f:=B (d6) (d6) f;have u:=B (d6) (d6) u;have g:=B (d6) (d6) g;generalize ((a.set (N+4) (.cell (some (yW p)))).set (N+3) (.cell (some (.bool (yv p)))))=σ5 at J z f u s r g ⊢;have H:∀{L O:Option SV} {E:SV->Sg->Prop},E (.int ((gR p).getD 0)) σ5->aO (ai .Is (aV 2) aN) (aI 0) (aV 2) (Ph (n+1)) ⟨[L,O,some (oI (gR p))],[N,N+1,N+2,N+3,N+4,N+5],[]⟩ σ5 E KE:=λ{L O E} q=>by
   cases h:gR p with
   |none=>rw[h]at q;exact bQ rfl q
   |some i=>rw[h]at q;exact bQ rfl q
  refine H ⟨_,rfl,ao u ?_⟩;have I:bC σ (σ5.set (N+2) (.cell (some (.int ((gR p).getD 0))))):=J.setN (yE hN);have A:∀{k o},k≠N+2->σ5.ob k=some o->(σ5.set (N+2) (.cell (some (.int ((gR p).getD 0))))).ob k=some o:=λw h=>(au w).trans h;have u:(σ5.set (N+2) (.cell (some (.int ((gR p).getD 0))))).ob (N+2)=some (.cell (some (.int ((gR p).getD 0)))):=aE u;have z:=A (Hx) z;have f:=A (d6) f;have s:=A (d6) s;have r:=A (d6) r;have g:=A (d6) g;generalize (σ5.set (N+2) (.cell (some (.int ((gR p).getD 0)))))=σ6 at I z f u s r g ⊢;have l:∀F,(if eM p then m else m+1)=F->∀σ',bC σ6 σ'->zq (Ph (n+1)) ⟨[some (.ref pl),some (.str (x8 p)),some (oI (gR p))],[N,N+1,N+2,N+3,N+4,N+5],[]⟩ ((σ'.new (.list (if 0≤bM ((gR p).getD 0) m∧bM ((gR p).getD 0) m<F then[.int (bM ((gR p).getD 0) m)]else[]))).set (N+1) (.cell (some (.ref σ'.nx)))) (bp K) KE:=λF R σ' e=>by
   subst R;have Q:=ac (σ:=σ') (o:=.list (if 0≤bM ((gR p).getD 0) m∧bM ((gR p).getD 0) m<(if eM p then m else m+1)then[.int (bM ((gR p).getD 0) m)]else[]));have f:=ae (o:=.list (if 0≤bM ((gR p).getD 0) m∧bM ((gR p).getD 0) m<(if eM p then m else m+1)then[.int (bM ((gR p).getD 0) m)]else[])) (e.ob _ _ f trivial);have t:∀{k o},k≠N+1->σ6.ob k=some o->((σ'.new (.list (if 0≤bM ((gR p).getD 0) m∧bM ((gR p).getD 0) m<(if eM p then m else m+1)then[.int (bM ((gR p).getD 0) m)]else[]))).set (N+1) (.cell (some (.ref σ'.nx)))).ob k=some o:=λw h=>(au w).trans (ae (e.ob _ _ h trivial));refine CF ho hm rfl ⟨_,t (Hx) z⟩ (aE f) ((au (bG Q f rfl)).trans Q) (t (d6) s) (t (d6) r) (t (d6) g) λv D P d=>q v D ?_ d;have M:bC σ ((σ'.new (.list (if 0≤bM ((gR p).getD 0) m∧bM ((gR p).getD 0) m<(if eM p then m else m+1)then[.int (bM ((gR p).getD 0) m)]else[]))).set (N+1) (.cell (some (.ref σ'.nx)))):=((I.trans e).new).setN (yE hN);exact⟨WX M.nx P.nx,λk o h Z=>P.ob _ _ (M.ob _ _ h trivial) (by have:=G _ _ h;exact Z75 this)⟩
  show bI (aD (x8 p) "one") _ _;rw[oB ho];cases w:eM p with
  |true=>
   rw[w]at l;refine c_ rfl g ?_;exact rO hm (.inl rfl) rfl u g λσ' e=>⟨_,rfl,ao (ae (e.ob _ _ f trivial)) (l m rfl σ' e)⟩
  |false=>
   rw[w]at l;refine c_ rfl g ?_;exact rO hm (.inr rfl) rfl u g λσ' e=>⟨_,rfl,ao (ae (e.ob _ _ f trivial)) (l (m+1) rfl σ' e)⟩
def Bc (σ:Sg) (b:Nat) (c:Int) (e:Bool):Prop:=∃g s c' z,Box σ b g s c' e z∧c'≤c
def Mn (σ:Sg) (s:Ws):Prop:=∃k f o,s.tl=[(41,.ref k)]∧σ.ob k=some (.inst 40 f)∧f.lookup 1=some (.ref o)∧Mo σ "Object" o
def Hv (σ:Sg) (k:Nat) (x y:SV) (b:Bool):Prop:=∃i o,d9 σ 140 k i o true [(10,x),(11,y),(12,.bool b)]∧Mo σ "Range" o
variable {lo hi:Int} {e:Bool} {x y:SV} {bx:Nat}
theorem Bc.ob (B:Bc σ bx c e):∃g s c' z,σ.ob bx=some (.list [.int g,.int s,.int c',.bool e,.int z]):=by
 refine HA B λg s c' z B h=>?_;exact(V3 g s c' z B.h)
theorem Bc.up {P:Nat->SO->Prop} (B:Bc σ bx c e) (h:Kp P σ σ') (hP:∀xs,P bx (.list xs)):Bc σ' bx c e:=by
 refine HA B λg s d z a b=>?_;obtain⟨i,l,k,j,f⟩:=a;exact(yx g s d z ⟨h.ob _ _ i (hP _),l,k,j,f⟩ b)
variable {c':Int}
theorem Bc.ge (B:Bc σ bx c e) (h:c≤c'):Bc σ bx c' e:=by
 refine HA B λg s d z b a=>?_;exact(yx g s d z b (Xl a h))
theorem qa (B:Bc σ bx c e) (hc:c<99000) (h0:0<m) (h1:m<1000) (q:∀r σ',0≤r->r<m->Bc σ' bx (c+1) e->dB bx σ σ'->K (.int r) σ'):Ph (n+1) 0 866 [.ref bx,.int m] σ K KE:=by
 refine HA B λg s p z B h=>?_;refine Vm B (Xeo hc h) h0 h1 λr b i σ' d j hc f L=>q r σ' d j (yx b s i z f (I5 h hc)) ⟨L.nx,λk o a l=>(L.ob k (σ.wf _ _ a) l).trans a⟩
theorem Wv.but (h:Wv σ W s) (B:Bc σ bx c e) (b:dB bx σ σ'):Wv σ' W s:=by
 refine mG B.ob λg s d z a=>?_;exact iw h b a rfl
theorem Ak (B:Bc σ bx c e) (hc:c<90000) (h0:lo≤hi) (h1:hi - lo<900) (q:∀r σ',Bc σ' bx (c+4) e->dB bx σ σ'->K (.int r) σ'):Ph (n+2) 0 878 [.ref bx,.int lo,.int hi] σ K KE:=by
 refine aK (k:=3) (d:=[]) (r:=1) (m:=GV) rfl rfl rfl ?_;refine qa B (cS hc) (by decide) (by decide) λr a Z Z i v=>bW (λh=>?_) λh=>?_
 ·exact qa i (fp hc) (by lia) (fp h1) λN g Z Z G A=>q _ g (G.ge (nj)) (v.trans A)
 ·refine mG i.ob λR S O l s=>?_
  refine(gc (gc (by decide) (by decide) (by decide) (by decide)) (gc (by decide) (by decide) (by decide) (by decide)) (gc (by decide) (by decide) (by decide) (by decide)) (i_ s rfl ⟨bl rfl,?_⟩));have z:bC a (a.new (.list [.int (2 ^ (63:Int).toNat),.int (2 ^ (64:Int).toNat),.int (10 ^ (30:Int).toNat),.int l])):=Kp.refl.new;have L:a.nx≠bx:=(cx s).symm;refine qa (i.up z λZ=>trivial) (fp hc) (by decide) (by decide) λf F u J E y=>?_;have j:=y.ob _ _ (ac (σ:=a) (o:=.list [.int (2 ^ (63:Int).toNat),.int (2 ^ (64:Int).toNat),.int (10 ^ (30:Int).toNat),.int l])) L;refine ao j ?_;show bI (decide (f<0)) _ _;rw[Xo (hO u)];have p:∃w:Int,[SV.int (2 ^ (63:Int).toNat),.int (2 ^ (64:Int).toNat),.int (10 ^ (30:Int).toNat),.int l][f.toNat]?=some (.int w):=by
   have:f=0∨f=1∨f=2∨f=3:=by lia
   rcases this with rfl|rfl|rfl|rfl<;>exact⟨_,rfl⟩
  obtain⟨w,D⟩:=p;refine⟨⟨by exact Cz u,by exact cS J⟩,_,D,?_⟩;refine qa E (tP hc) (by decide) (by decide) λP C Z Z M I=>?_;refine qa M (El hc) (by decide) (by decide) λQ b Z Z x H=>?_;have t:dB bx σ b:=(((v.trans z.to).trans y).trans I).trans H;exact bW (λh=>q _ b (x.ge (C7)) t) λh=>q _ b (x.ge (C7)) t
theorem Mn.upn (h:Mn σ s) (e:yp σ σ') (ht:s'.tl=s.tl):Mn σ' s':=by
 refine mC h λk f o b d a c=>?_;exact(gW k f o (ht.trans b) (e.ob _ _ d ⟨rfl,rfl⟩) a (c.upn e))
theorem Kp.snl (e:fV σ σ'):yp σ σ':=e.mono λZ Z Z h=>h.1
theorem mT (m:Mo σ z o) (q:K (.bool true) σ):Ph (n+2) 0 251 [.ref o,.ref o] σ K KE:=by
 refine gz m λi b a c d h=>?_;refine aK (k:=2) (d:=[]) (r:=1) (m:=Dm) rfl rfl rfl (il h rfl (il h rfl ?_));show bI (!(aD "thing" "thing")) _ _;rw[aQ];show bI (aD "thing" "thing") _ _;rw[aQ];refine g_ h rfl rfl (g_ h rfl rfl ?_);show K (.bool (decide (i=i))) σ;rw[Xx rfl];exact q
def yY:AS:=ay (.l 5) (eF 140 137 (aa (am (aV 0) 0 ab) (aa (am (aV 0) 44 (aa (aS "Range") ab)) (aa (aV 1) (aa (aV 2) (aa (aV 3) ab)))))) (az (aV 5) 4 (aB true) (aq (aV 5)))
theorem eY {a4:Option SV} (h:Wv σ W s) (q:∀k σ' s',Po σ σ' W s s'->σ.nx≤k->Hv σ' k x y b->K (.ref k) σ'):yY (Ph (n+127)) ⟨[some (.ref W),some x,some y,some (.bool b),a4,none],[],[]⟩ σ (bp K) KE:=by
 refine h.me rfl rfl (ch h λu c=>?_);refine c.wd.me rfl rfl (i7 c.wd (by decide+kernel) λo a p g l=>?_);refine gp wj λf e r m j ⟨d,t⟩=>⟨rfl,?_⟩;subst t;refine lT j rfl ?_;have i:bC a (e.set a.nx (.inst 140 (fW (s.n+1) (.ref o) d true [(10,x),(11,y),(12,.bool b)]))):=r.setN (Xy _);exact q _ _ p ((c.trans g).ext i) (WX c.kp.nx g.kp.nx:σ.nx≤a.nx) (uA _ _ ⟨d,aE j⟩ ((g.wd.ms _ l).up i.to))
theorem Hv.rg (h:Hv σ k x y b):Rg σ k x y b:=let ⟨i,o,h,_⟩:=h;(rU i o h)
theorem mK:qj=aw (bO [ai .IsNot (aV 1) aN,ai .IsNot (aV 2) aN]) (ay (.l 4) (ti (bF .Eq (ag 244 (aa (aV 1) ab)) (aS "bool")) (bF .Eq (ag 244 (aa (aV 2) ab)) (aS "bool"))) (aw (cD [aP (aV 4),cF (aP (ag 251 (aa (am (aV 0) 48 (aa (aV 1) ab)) (aa (am (aV 0) 48 (aa (aV 2) ab)) ab))))]) (cQ (am (aV 0) 56 (aa (aS "ArgumentError") (aa (aS "bad value for range") ab))) aF) aF)) yY:=rfl
theorem jB:aD "int" "bool"=false∧aD "sym" "bool"=false∧aD "thing" "bool"=false:=by
 decide+kernel
theorem f4 (h:Wv σ W s) (hx:Nat.ble (kd x) 4=true) (hy:Nat.ble (kd y) 4=true) (hn:x=.none∨y=.none) (q:∀k σ' s',Po σ σ' W s s'->σ.nx≤k->Hv σ' k x y b->K (.ref k) σ'):Ph (n+128) 0 705 [.ref W,x,y,.bool b] σ K KE:=by
 refine aK (k:=4) (d:=[]) (r:=2) (m:=qj) rfl rfl rfl ?_;rw[mK];by_cases h1:x=.none
 ·subst h1
  exact bQ rfl (eY h q)
 ·have a:y=.none:=hn.resolve_left h1
  subst a;refine bQ hx ?_;rw[(by cases x<;>first|exact absurd rfl h1|rfl:Nat.beq (kd x) 0=false)];exact bQ rfl (eY h q)
theorem lV {i j:Int} (h:Wv σ W s) (q:∀k σ' s',Po σ σ' W s s'->σ.nx≤k->Hv σ' k (.int i) (.int j) b->K (.ref k) σ'):Ph (n+128) 0 705 [.ref W,.int i,.int j,.bool b] σ K KE:=by
 refine aK (k:=4) (d:=[]) (r:=2) (m:=qj) rfl rfl rfl ?_;rw[mK];refine bQ rfl (bQ rfl (kI ?_));refine g6 jB.1 ?_;refine kI ?_;refine g6 jB.1 ?_;refine h.me rfl rfl (qO h λo u w c g=>?_);refine c.wd.me rfl rfl (qO c.wd λo2 l v a e=>?_);have t:o=o2:=a.wd.uq _ (a.ev.ks _ g) _ e rfl;subst t;exact mT (a.wd.ms _ e) (eY a.wd λk σ' s' p f r=>q k σ' s' ((c.trans a).trans p) (WX (WX c.kp.nx a.kp.nx) f) r)
theorem qy (hj:j<6) (ho:fM σ (j+3) x) (h:Wv σ W s) (q:∀k σ' s',Po σ σ' W s s'->σ.nx≤k->Hv σ' k x x b->K (.ref k) σ'):Ph (n+128) 0 705 [.ref W,x,x,.bool b] σ K KE:=by
 refine aK (k:=4) (d:=[]) (r:=2) (m:=qj) rfl rfl rfl ?_;rw[mK]
 match j,hj,ho with
 |0,_,ho=>
  have ho:x=.str "a":=ho;subst ho;refine bQ rfl (bQ rfl (nP ?_));refine g6 jB.2.1 ?_;refine nP ?_;refine g6 jB.2.1 ?_;refine h.me rfl rfl (jO h λo v y e t=>?_);refine e.wd.me rfl rfl (jO e.wd λo2 l w a g=>?_);have u:o=o2:=a.wd.uq _ (a.ev.ks _ t) _ g rfl;subst u;exact mT (a.wd.ms _ g) (eY a.wd λk σ' s' p f r=>q k σ' s' ((e.trans a).trans p) (WX (WX e.kp.nx a.kp.nx) f) r)
 |j+1,hj,ho=>
  obtain⟨k,C,f,o,rfl,hk,rfl,ho,m⟩:=ho;have c:=em (show j<5 by exact Z4 hj);have i:=mI (show j<5 by exact Z4 hj);refine bQ rfl (bQ rfl (il hk c ?_));refine g6 jB.2.2 ?_;refine il hk c ?_;refine g6 jB.2.2 ?_;refine h.me rfl rfl (kJ hk c i ho ?_);refine h.me rfl rfl (kJ hk c i ho ?_);exact mT m (eY h q)
variable {d:Nat} {i1 i2:Int} {r t:Nat} {ow:SV}
theorem BG (h:σ.ob k=some (.inst 120 [])) (q:∀d r σ',dB k σ σ'->σ.nx≤r->σ'.ob r=some .dic0->σ'.ob k=some (.inst 120 (fW i ow d false [(8,.ref r),(9,.none)]))->K .none σ'):Ph (n+2) 0 98 [.ref k,.int i,ow] σ K KE:=by
 refine aK (k:=3) (d:=[]) (r:=0) (m:=m98) rfl rfl rfl (ey rfl _ _ _ _ h λf a e g ⟨d,p⟩=>?_);subst p;have j:=ae (o:=.dic0) g;have c:=aE (o:=.inst 120 (fW i ow d false [(8,.ref a.nx)])) j;have b:a.nx≠k:=(cx g).symm;exact lT j rfl (lT c rfl (q d a.nx _ ((e.new.set λZ Z h=>h rfl).set λZ Z h=>h rfl) e.nx ((au b).trans ((au b).trans ac)) (aE c)))
theorem Xao:aD "int" "thing"=false:=by
 decide+kernel
theorem Ux (hk:σ.ob k=some (.inst 120 (fW i ow d false [(8,.ref r),(9,.none)]))) (hr:σ.ob r=some .dic0) (q:∀σ',dB r σ σ'->K .none σ'):Ph (n+3) 0 105 [.ref k,.int i1,.int i2] σ K KE:=by
 refine aK (k:=3) (d:=[]) (r:=2) (m:=EE) rfl rfl rfl ?_;refine dh (φ:=fX 1 [.int 12,.none] [some 0,none,none] [some 2,some 1] Gm) rfl rfl ⟨rfl,kI ?_⟩;show bI (!(aD "int" "thing")) _ _;rw[Xao];refine⟨bl rfl,?_⟩;have b:=(Kp.refl.new.new.new:bC σ (((σ.new (.cell (some .none))).new (.cell (some (.int 12)))).new (.tup [.str "int",.int i1]))).ob _ _ hk trivial;have a:=(Kp.refl.new.new.new:bC σ (((σ.new (.cell (some .none))).new (.cell (some (.int 12)))).new (.tup [.str "int",.int i1]))).ob _ _ hr trivial;refine g_ b rfl rfl ⟨ao a trivial,⟨rfl,ao a (ao (ac:(((σ.new (.cell (some .none))).new (.cell (some (.int 12)))).new (.tup [.str "int",.int i1])).ob ((σ.new (.cell (some .none))).new (.cell (some (.int 12)))).nx=some (.tup [.str "int",.int i1])) ?_)⟩⟩;refine bQ rfl ⟨bl rfl,g_ (ae b) rfl rfl (ao (ae a) (ao (ae (ac:(((σ.new (.cell (some .none))).new (.cell (some (.int 12)))).new (.tup [.str "int",.int i1])).ob ((σ.new (.cell (some .none))).new (.cell (some (.int 12)))).nx=some (.tup [.str "int",.int i1]))) ?_))⟩;exact q _ (Kp.set (Kp.new (bC.to (Kp.refl.new.new.new:bC σ (((σ.new (.cell (some .none))).new (.cell (some (.int 12)))).new (.tup [.str "int",.int i1]))))) λZ Z h=>h rfl)
theorem Fl (q:K (.int i) σ):Ph (n+1) 0 698 [.ref W,.int i] σ K KE:=aK (k:=2) (d:=[]) (r:=1) (m:=C5) rfl rfl rfl ⟨⟨rfl,rfl⟩,q⟩
theorem wJ (h:Wv σ W s) (hl:σ.ob l=some (.list [.ref t])) (ht:σ.ob t=some (.tup [.int i1,.int i2])) (q:∀k i o d r σ' s',Po σ σ' W s s'->σ'.ob k=some (.inst 120 (fW i (.ref o) d false [(8,.ref r),(9,.none)]))->Mo σ' "Hash" o->K (.ref k) σ'):Ph (n+130) 0 691 [.ref W,.ref l] σ K KE:=by
 refine aK (k:=2) (d:=[]) (r:=3) (m:=DG) rfl rfl rfl (h.me rfl rfl (ch h λC p=>?_));refine p.wd.me rfl rfl (i7 (n:=n+3) p.wd (by decide+kernel) λo b A j z=>?_);refine wz (BG ac λd r u B v y g=>⟨rfl,?_⟩);have a:bC b u:=nk Kp.refl.new B (Xy _);have c:=p.kp.trans j.kp;refine ao (a.ob _ _ (c.ob _ _ hl rfl) trivial) ⟨ao (a.ob _ _ (c.ob _ _ hl rfl) trivial) rfl,ao (a.ob _ _ (c.ob _ _ hl rfl) trivial) ⟨_,rfl,t_ (a.ob _ _ (c.ob _ _ ht rfl) trivial) rfl (O8 g rfl rfl ((j.wd.up a).me rfl rfl (Fl (Ux g y λf x=>?_))))⟩⟩;have w:bC b f:=iL a x (WX (Zt _) v);refine⟨ao (w.ob _ _ (c.ob _ _ hl rfl) trivial) rfl,?_⟩;exact q _ _ o d r f A ((p.trans j).ext w) (x.ob _ _ g (λe=>by rw[e,y]at g;cases g)) ((j.wd.ms _ z).up w.to)
theorem lst {P:Nat->Prop} (h:P n) (k:j<n->P j) (hj:j<n+1):P j:=(Nat.lt_succ_iff_lt_or_eq.mp hj).elim k λe=>e▸h
theorem XeH {P:Nat->Prop} (h0:P 0) (h1:P 1) (h2:P 2) (h3:P 3) (h4:P 4) (h5:P 5) (h6:P 6) (h7:P 7) (h8:P 8) (j:Nat) (hj:j<9):P j:=
 lst h8 (lst h7 (lst h6 (lst h5 (lst h4 (lst h3 (lst h2 (lst h1 (lst h0 λh=>absurd h (ZU _))))))))) hj
theorem jx (hj:j<9) (h:Wv σ W s) (hm:Mn σ s) (q:∀v σ' s',Po σ σ' W s s'->fM σ' j v->K v σ'):Ph (n+131) 0 885 [.ref W,.int (j:Nat)] σ K KE:=by
 refine gz h.w λZ Z Z Z Z g=>?_;refine aK (k:=2) (d:=[]) (r:=0) (m:=wP) rfl rfl rfl ?_;revert q;refine XeH (P:=λj=>(∀v σ' s',Po σ σ' W s s'->fM σ' j v->K v σ')->wP (Ph (n+130)) ⟨List.map some [SV.ref W,SV.int (j:Nat)]++(List.map some []++List.replicate 0 none),[],[]⟩ σ (bp K) KE) ?_ ?_ ?_ ?_ ?_ ?_ ?_ ?_ ?_ j hj
 ·intro q
  exact⟨bl rfl,i_ ac rfl (q _ _ s ((Po.refl h).ext Kp.refl.new) rfl)⟩
 ·intro q
  exact⟨bl rfl,i_ ac rfl (q _ _ s ((Po.refl h).ext Kp.refl.new) rfl)⟩
 ·intro q
  exact⟨bl rfl,i_ ac rfl (q _ _ s ((Po.refl h).ext Kp.refl.new) rfl)⟩
 ·intro q
  exact⟨bl rfl,i_ ac rfl (q _ _ s ((Po.refl h).ext Kp.refl.new) rfl)⟩
 ·intro q
  have c:bC σ (σ.new (.list [.int 1])):=Kp.refl.new;exact h.me rfl rfl ⟨bl rfl,iy (h.up c) ac (bl rfl) λk i o x σ' s' e _ a ⟨⟨d,b⟩,_⟩=>q _ σ' s' ⟨e.p.wd,e.p.ev,c.to.trans e.p.kp⟩ (ww k 82 _ o rfl b rfl rfl a)⟩
 ·intro q
  have c:bC σ ((σ.new (.tup [.int 1,.int 2])).new (.list [.ref σ.nx])):=Kp.refl.new.new;exact h.me rfl rfl (eQ (bl rfl) (bl rfl) (wJ (h.up c) ac (ae ac) λk i o d r σ' s' p b a=>q _ σ' s' ⟨p.wd,p.ev,c.to.trans p.kp⟩ (ww k 120 _ o rfl b rfl rfl a)))
 ·intro q
  refine mC hm λk f o t w u l=>?_;exact ao g.w ⟨rfl,_,(show List.lookup 41 s.tl=some (.ref k) by rw[t];rfl),q _ σ s (.refl h) (ww k 40 f o rfl w rfl u l)⟩
 ·intro q
  exact h.me rfl rfl (fS h λk i o σ' s' e a ⟨d,b⟩=>q _ σ' s' e.p (ww k 62 _ o rfl b rfl rfl a))
 ·intro q
  exact h.me rfl rfl (lV h λk σ' s' p _ ⟨i,o,⟨d,b⟩,a⟩=>q _ σ' s' p (ww k 140 _ o rfl b rfl rfl a))
def sO:AS:=aq (aU (aa (aV 7) (aa (aU (aa (aS "odd") (aa (ap .Add (aS "TypeError: no implicit conversion ") (aV 6)) (aa (aI 0) (aa (aB false) ab))))) ab)))
def yr:AS:=ay (.l 8) (ax (bK (aa (aU (aa (aV 5) (aa aN ab))) (aa (aU (aa aN (aa (aV 5) ab))) (aa (aU (aa (aV 5) (aa (aV 5) ab))) ab)))) (ag 866 (aa (aV 1) (aa (aO (ai .Lt (aV 4) (aI 3)) (aI 2) (aI 3)) ab)))) (ay (.l 7) (bK (aa (am (aV 0) 54 (aa (ax (aV 8) (aI 0)) (aa (ax (aV 8) (aI 1)) (aa (bF .Eq (ag 866 (aa (aV 1) (aa (aI 2) ab))) (aI 1)) ab)))) ab)) aF)
def x7:AS:=lD (ai .Eq (aV 3) (aI 0)) (ay (.l 7) (bK (aa (aV 5) ab)) aF) (lD (ai .Eq (aV 3) (aI 1)) (ay (.l 7) (bK (aa (aV 5) (aa (ag 878 (aa (aV 1) (aa (ap .Sub (ap .Sub (aI 0) (aV 2)) (aI 2)) (aa (ap .Add (aV 2) (aI 2)) ab)))) ab))) aF) (lD (ai .Eq (aV 3) (aI 2)) (ay (.l 7) (bK (aa (ag 878 (aa (aV 1) (aa (ap .Sub (ap .Sub (aI 0) (aV 2)) (aI 2)) (aa (ap .Add (aV 2) (aI 2)) ab)))) (aa (aV 5) ab))) aF) (lD (ai .Eq (aV 3) (aI 3)) (ay (.l 7) (bK (aa (aV 5) (aa (ag 885 (aa (aV 0) (aa (ag 866 (aa (aV 1) (aa (aI 9) ab))) ab))) ab))) aF) yr aF) aF) aF) sO
def yZ:AS:=ay (.l 5) (ag 885 (aa (aV 0) (aa (aV 4) ab))) (ay (.l 6) (aO (ai .Eq (aV 4) (aI 0)) (aS "from nil to integer") (ap .Add (ap .Add (aS "of ") (ax (ag 845 ab) (aV 4))) (aS " into Integer"))) x7)
end
structure St (σ:Sg) (W:Nat) (s:Ws) (bx:Nat) (c:Int) (e:Bool):Prop where
 w:Wv σ W s
 m:Mn σ s
 b:Bc σ bx c e
structure Go (σ σ':Sg) (W:Nat) (s s':Ws) (bx:Nat) (c:Int) (e:Bool):Prop where
 st:St σ' W s' bx c e
 ev:Wn s s'
 kp:qs bx σ σ'
section
variable {σ σ' σ1 σ0:Sg} {W:Nat} {s s' s1:Ws} {n C:Nat} {K:KV} {KE:KX} {z msg:Str} {k o l a li ow kT P j pl N lb lg d hl bx:Nat} {i f c m g nn mk lo hi i1 i2 c1 c2:Int} {fz b e:Bool} {x y v:SV} {xs:List SV} {r t:Nat} {p:Pl} {cs ds:List Nat} {ρ:Int×Int} {is:List Int} {Φ:Nat->eL} {a0 a1 a2 a3 a4 a5 a7 a8:Option SV}
theorem St.ne {o:SO} (h:St σ W s bx c e) (hk:σ.ob k=some o) (hL:isL o=false):k≠bx:=λb=>by
 refine mG h.b.ob λg s d z a=>?_;rw[b,a]at hk;obtain rfl:=jS hk;exact kP hL
theorem St.snl (h:St σ W s bx c e) (k:qs bx σ σ'):yp σ σ':=k.mono λZ Z a p=>⟨p.1,h.ne a p.2⟩
theorem St.tk (h:St σ W s bx c e) (hc:c<99000) (h0:0<m) (h1:m<1000) (q:∀r σ',0≤r->r<m->Go σ σ' W s s bx (c+1) e->K (.int r) σ'):Ph (n+1) 0 866 [.ref bx,.int m] σ K KE:=
 qa h.b hc h0 h1 λr σ' d a B b=>q r σ' d a ⟨⟨h.w.but h.b b,h.m.upn (h.snl b.stx) rfl,B⟩,.refl,b.stx⟩
theorem St.mark (h:St σ W s bx c e) (hc:c<90000) (h0:lo≤hi) (h1:hi - lo<900) (q:∀r σ',Go σ σ' W s s bx (c+4) e->K (.int r) σ'):Ph (n+2) 0 878 [.ref bx,.int lo,.int hi] σ K KE:=
 Ak h.b hc h0 h1 λr σ' B b=>q r σ' ⟨⟨h.w.but h.b b,h.m.upn (h.snl b.stx) rfl,B⟩,.refl,b.stx⟩
theorem St.po (h:St σ W s bx c e) (p:Po σ σ' W s s'):Go σ σ' W s s' bx c e:=⟨⟨p.wd,h.m.upn p.kp.snl p.ev.tl,h.b.up p.kp λZ=>rfl⟩,p.ev,p.kp.stx⟩
theorem St.ext (h:St σ W s bx c e) (p:bC σ σ'):Go σ σ' W s s bx c e:=h.po ((Po.refl h.w).ext p)
theorem Go.refl (h:St σ W s bx c e):Go σ σ W s s bx c e:=⟨h,.refl,.refl⟩
theorem Go.trans (a:Go σ σ1 W s s1 bx c e) (b:Go σ1 σ' W s1 s' bx c1 e):Go σ σ' W s s' bx c1 e:=⟨b.st,a.ev.trans b.ev,a.kp.trans b.kp⟩
theorem Go.new {o:SO} (a:Go σ σ1 W s s1 bx c e):Go σ (σ1.new o) W s s1 bx c e:=a.trans (a.st.ext Kp.refl.new)
variable {c':Int}
theorem Go.ge (a:Go σ σ1 W s s1 bx c e) (h:c≤c'):Go σ σ1 W s s1 bx c' e:=⟨⟨a.st.w,a.st.m,a.st.b.ge h⟩,a.ev,a.kp⟩
theorem kr (hj:j<9):(yq j).length≤50000∧(g8.getD j "").length≤50000∧("of "++g8.getD j "").length≤50000:=by
 have:(List.range 9).all (λj=>Nat.ble (yq j).length 50000&&(Nat.ble (g8.getD j "").length 50000&&Nat.ble ("of "++g8.getD j "").length 50000))=true:=by decide+kernel
 have:=WZ.mp this j (XG.mpr hj);obtain⟨a,b⟩:=(WU _ _).mp this;obtain⟨b,c⟩:=(WU _ _).mp b;exact⟨bl a,bl b,bl c⟩
theorem Kx:yq (j+1)="of "++g8.getD (j+1) ""++" into Integer":=by rfl
theorem Ru:yq 0="from nil to integer":=by rfl
abbrev qr (σ:Sg) (bx j:Nat) (c:Int) (e:Bool) (W:Nat) (s:Ws) (K:KV):Prop:=∀t hl pl σ' s',Go σ σ' W s s' bx c e->σ'.ob t=some (.tup [.ref hl,.ref pl])->Hd σ' hl (.odd j)->jo σ' pl (.odd j)->K (.ref t) σ'
theorem qr.pre (q:qr σ bx j c' e W s K) (g:Go σ σ1 W s s1 bx c e):qr σ1 bx j c' e W s1 K:=λt k f a h b i l d=>q t k f a h (g.trans b) i l d
theorem sg (h:St σ W s bx c e) (hj:j<9) (hl0:Hd σ hl (.odd j)) (q:∀t pl σ' s',Go σ σ' W s s' bx c e->σ'.ob t=some (.tup [.ref hl,.ref pl])->Hd σ' hl (.odd j)->jo σ' pl (.odd j)->K (.ref t) σ'):sO Φ ⟨[a0,a1,a2,a3,a4,a5,some (.str (yq j)),some (.ref hl),a8],[],[]⟩ σ (bp K) KE:=by
 have a:bC σ ((σ.new (.tup [.str "odd",.str (dW j),.int 0,.bool false])).new (.tup [.ref hl,.ref σ.nx])):=Kp.refl.new.new;refine(gc ⟨bl (by decide+kernel),(kr hj).1⟩ (bl rfl) (bl rfl) ?_);exact q _ σ.nx _ s (h.ext a) ac (hl0.up a.to) (ae ac)
theorem jW (h:St σ W s bx c e) (hj:j<9) (hd:∀σ' l,yp σ σ'->σ'.ob l=some (.list xs)->Hd σ' l (.odd j)) (q:qr σ bx j c e W s K):sO Φ ⟨[a0,a1,a2,a3,a4,a5,some (.str (yq j)),some (.ref σ.nx),a8],[],[]⟩ (σ.new (.list xs)) (bp K) KE:=by
 have a:bC σ (σ.new (.list xs)):=Kp.refl.new;have g:=h.ext a;exact sg g.st hj (hd _ _ (Kp.snl (bC.to a)) ac) λt d σ' f b k i m=>q t _ d σ' f (g.trans b) k i m
def rE (x:SV) (j:Nat) (u w:SV):Prop:=(u=x∧w=.none)∨(u=.none∧w=x)∨(u=x∧w=x∧3≤j)
def zh:AS:=ay (.l 7) (bK (aa (am (aV 0) 54 (aa (ax (aV 8) (aI 0)) (aa (ax (aV 8) (aI 1)) (aa (bF .Eq (ag 866 (aa (aV 1) (aa (aI 2) ab))) (aI 1)) ab)))) ab)) aF
variable {u w:SV} {a6:Option SV} {K':ft}
theorem qP (h:Wv σ W s) (hj:j+1<9) (ho:fM σ (j+1) x) (hp:rE x (j+1) u w) (q:∀k σ' s',Po σ σ' W s s'->Rg σ' k u w b->(fM σ' (j+1) u∨u=.none∧fM σ' (j+1) w)->K (.ref k) σ'):Ph (n+128) 0 705 [.ref W,u,w,.bool b] σ K KE:=by
 have a:=(fP (show j<8 by exact Z4 hj) ho).1;rcases hp with⟨rfl,rfl⟩|⟨rfl,rfl⟩|⟨rfl,rfl,h3⟩
 ·exact f4 h a rfl (.inr rfl) λk σ' s' p Z r=>q k σ' s' p r.rg (.inl (ho.up hj p.kp))
 ·exact f4 h rfl a (.inl rfl) λk σ' s' p Z r=>q k σ' s' p r.rg (.inr ⟨rfl,ho.up hj p.kp⟩)
 ·obtain⟨j,rfl⟩:∃i,j=i+2:=⟨j - 2,by lia⟩
  exact qy (by lia) ho h λk σ' s' p Z r=>q k σ' s' p r.rg (.inl (ho.up hj p.kp))
theorem Gb (h:St σ W s bx c e) (hc:c<80000) (hj:j+1<9) (ho:fM σ (j+1) x) (hp:rE x (j+1) u w) (ht:σ.ob t=some (.tup [u,w])) (q:∀l σ' s',Go σ σ' W s s' bx (c+1) e->Hd σ' l (.odd (j+1))->K' .next ⟨[some (.ref W),some (.ref bx),a2,a3,a4,a5,a6,some (.ref l),some (.ref t)],[],[]⟩ σ'):zh (Ph (n+129)) ⟨[some (.ref W),some (.ref bx),a2,a3,a4,a5,a6,none,some (.ref t)],[],[]⟩ σ K' KE:=by
 refine h.w.me rfl rfl (i_ ht rfl (i_ ht rfl (h.tk (cS hc) (by decide) (by decide) λr m Z Z b=>?_)));refine qP b.st.w hj (ho.upn hj (h.snl b.kp)) hp λk a g p i f=>⟨bl rfl,?_⟩;have d:bC a (a.new (.list [.ref k])):=Kp.refl.new;refine q _ _ g (b.trans (b.st.po p)).new ⟨hj,.inr (.d ac (i.up d.to) rfl (f.imp (λo=>o.up hj d.to) λo=>⟨o.1,o.2.up hj d.to⟩))⟩
theorem Gw (h:St σ W s bx c e) (hc:c<79000) (hj:j+1<9) (ho:fM σ (j+1) x) (q:∀l σ' s' a8,Go σ σ' W s s' bx (c+2) e->Hd σ' l (.odd (j+1))->K' .next ⟨[some (.ref W),some (.ref bx),a2,a3,some (.int ((j+1:Nat):Int)),some x,a6,some (.ref l),a8],[],[]⟩ σ'):yr (Ph (n+129)) ⟨[some (.ref W),some (.ref bx),a2,a3,some (.int ((j+1:Nat):Int)),some x,a6,none,none],[],[]⟩ σ K' KE:=by
 refine(I05 (bl rfl) (bl rfl) (bl rfl) (bl rfl) ?_);have d:((((σ.new (.tup [x,.none])).new (.tup [.none,x])).new (.tup [x,x])).new (.list [.ref σ.nx,.ref (σ.nx+1),.ref (σ.nx+1+1)])).ob (σ.nx+1)=some (.tup [.none,x]):=ae (ae ac);have k:=h.ext (Kp.refl.new.new.new.new:bC σ ((((σ.new (.tup [x,.none])).new (.tup [.none,x])).new (.tup [x,x])).new (.list [.ref σ.nx,.ref (σ.nx+1),.ref (σ.nx+1+1)])));have G:σ.nx+1+1+1≠bx:=λO=>by
  refine mG h.b.ob λg s N z C=>?_;have:=σ.wf _ _ C;lia
 have D:∀f:Int,0<f->f<1000->(∀r:Int,0≤r->r<f->r<2∨r<3∧3≤j+1)->∀m:SV->Sg->Prop,(∀t u w a,Go σ a W s s bx (c+1) e->a.ob t=some (.tup [u,w])->rE x (j+1) u w->m (.ref t) a)->Ph (n+129) 0 866 [.ref bx,.int f] ((((σ.new (.tup [x,.none])).new (.tup [.none,x])).new (.tup [x,x])).new (.list [.ref σ.nx,.ref (σ.nx+1),.ref (σ.nx+1+1)])) (λy σ'=>wN σ' (.ref (σ.nx+1+1+1)) y λv=>m v σ') KE:=λf K A M m q=>by
  refine k.st.tk (n:=n+128) (cS hc) K A λr a o B b=>?_;refine ao (b.kp.ob _ _ (ac:((((σ.new (.tup [x,.none])).new (.tup [.none,x])).new (.tup [x,x])).new (.list [.ref σ.nx,.ref (σ.nx+1),.ref (σ.nx+1+1)])).ob (σ.nx+1+1+1)=some (.list [.ref σ.nx,.ref (σ.nx+1),.ref (σ.nx+1+1)])) ⟨rfl,G⟩) ?_;show bI (decide (r<0)) _ _;rw[Xo (hO o)];have p:∃t u w,[SV.ref σ.nx,.ref (σ.nx+1),.ref (σ.nx+1+1)][r.toNat]?=some (.ref t)∧a.ob t=some (.tup [u,w])∧rE x (j+1) u w:=by
   have d:=b.kp.ob _ _ d ⟨rfl,k.st.ne d rfl⟩;have:=M r o B;have:r=0∨r=1∨(r=2∧3≤j+1):=by lia
   rcases this with rfl|rfl|⟨rfl,h⟩
   ·exact(mQ _ _ _ rfl (b.kp.ob _ _ (ae (ae (ae ac)):((((σ.new (.tup [x,.none])).new (.tup [.none,x])).new (.tup [x,x])).new (.list [.ref σ.nx,.ref (σ.nx+1),.ref (σ.nx+1+1)])).ob σ.nx=some (.tup [x,.none])) ⟨rfl,k.st.ne (ae (ae (ae ac)):((((σ.new (.tup [x,.none])).new (.tup [.none,x])).new (.tup [x,x])).new (.list [.ref σ.nx,.ref (σ.nx+1),.ref (σ.nx+1+1)])).ob σ.nx=some (.tup [x,.none])) rfl⟩) (.inl ⟨rfl,rfl⟩))
   ·exact(mQ _ _ _ rfl d (.inr (.inl ⟨rfl,rfl⟩)))
   ·exact(mQ _ _ _ rfl (b.kp.ob _ _ (ae ac:((((σ.new (.tup [x,.none])).new (.tup [.none,x])).new (.tup [x,x])).new (.list [.ref σ.nx,.ref (σ.nx+1),.ref (σ.nx+1+1)])).ob (σ.nx+1+1)=some (.tup [x,x])) ⟨rfl,k.st.ne (ae ac:((((σ.new (.tup [x,.none])).new (.tup [.none,x])).new (.tup [x,x])).new (.list [.ref σ.nx,.ref (σ.nx+1),.ref (σ.nx+1+1)])).ob (σ.nx+1+1)=some (.tup [x,x])) rfl⟩) (.inr (.inr (eQ rfl rfl h))))
  refine pi p λt u w J E L=>?_;exact⟨⟨o,by exact Xfo B A⟩,_,J,q t u w a (k.trans b) E L⟩
 have i:∀t u w a,Go σ a W s s bx (c+1) e->a.ob t=some (.tup [u,w])->rE x (j+1) u w->zh (Ph (n+129)) ⟨[some (.ref W),some (.ref bx),a2,a3,some (.int ((j+1:Nat):Int)),some x,a6,none,some (.ref t)],[],[]⟩ a K' KE:=λt u w a b H F=>
  Gb b.st (fp hc) hj (ho.upn hj (h.snl b.kp)) F H λl σ' s' g I=>q l σ' s' _ ((b.trans g).ge (nj)) I
 refine bW (λh=>?_) λh=>?_
 ·exact D 2 (by decide) (by decide) (λr Z h=>.inl h) _ i
 ·refine D 3 (by decide) (by decide) (λr Z d=>.inr ⟨d,?_⟩) _ i
  lia
def zC:AS:=aw (bO [ai .Eq (aV 3) (aI 4),ai .Eq (aV 4) (aI 0)]) (ay (.l 4) (aI 3) aF) yZ
def yw:AS:=aw (bO [ai .Eq (aV 3) (aI 0),ai .Gt (aV 4) (aI 6)]) (ay (.l 4) (ap .Sub (aV 4) (aI 7)) aF) zC
theorem DR:vz=cT [.l 3,.l 4] (aU (aa (ag 866 (aa (aV 1) (aa (aI 5) ab))) (aa (ag 866 (aa (aV 1) (aa (aI 9) ab))) ab))) yw:=rfl
variable {wy:Int}
theorem rI (h:St σ W s bx c e) (hc:c<78000) (hm:0≤m∧m≤300) (hj:j<9) (ho:fM σ j x) (hw:0≤wy∧wy<5) (h0:wy=0->j<7) (h4:wy=4->j≠0) (q:qr σ bx j (c+8) e W s K):x7 (Ph (n+131)) ⟨[some (.ref W),some (.ref bx),some (.int m),some (.int wy),some (.int (j:Nat)),some x,some (.str (yq j)),none,none],[],[]⟩ σ (bp K) KE:=by
 have:wy=0∨wy=1∨wy=2∨wy=3∨wy=4:=by lia
 rcases this with rfl|rfl|rfl|rfl|rfl
 ·exact⟨bl rfl,jW ((Go.refl h).ge (c':=c+8) (qb)).st hj (λd l f k=>⟨hj,.inl (jn x k (h0 rfl) (ho.upn hj f))⟩) q⟩
 ·refine h.mark (n:=n+129) (cS hc) (mV hm) (nr hm) λr a b=>⟨bl rfl,?_⟩
  have o1:=ho.upn hj (h.snl b.kp);have b:=b.ge (c':=c+8) (ky);exact jW b.st hj (λd l f k=>⟨hj,.inr (.b k (o1.upn hj f))⟩) ((λg=>q.pre g:∀{a s1},Go σ a W s s1 bx (c+8) e->qr a bx j (c+8) e W s1 K) b)
 ·refine h.mark (n:=n+129) (cS hc) (mV hm) (nr hm) λr a b=>⟨bl rfl,?_⟩
  have b:=b.ge (c':=c+8) (ky);exact jW b.st hj (λd l f k=>⟨hj,.inr (.c k ((ho.upn hj (h.snl b.kp)).upn hj f))⟩) ((λg=>q.pre g:∀{a s1},Go σ a W s s1 bx (c+8) e->qr a bx j (c+8) e W s1 K) b)
 ·refine h.tk (n:=n+130) (cS hc) (by decide) (by decide) λr a y B b=>?_
  obtain⟨r,rfl⟩:=XM y;refine jx (j:=r) (Sl B) b.st.w b.st.m λv o w u F=>⟨bl rfl,?_⟩;have p:=(b.trans (b.st.po u)).ge (c':=c+8) (ky);exact jW p.st hj (λd l f k=>⟨hj,.inr (.b k (((ho.upn hj (h.snl b.kp)).up hj u.kp).upn hj f))⟩) ((λg=>q.pre g:∀{a s1},Go σ a W s s1 bx (c+8) e->qr a bx j (c+8) e W s1 K) p)
 ·obtain⟨j,rfl⟩:∃i,j=i+1:=⟨j - 1,by have:=h4 rfl;exact Z48 this⟩
  refine Gw (n:=n+2) h (cS hc) hj ho λl d G H g C=>?_;have g:=g.ge (c':=c+8) (ky);exact sg g.st hj C λt D o w p A z E=>q t l D o w (g.trans p) A z E
theorem xA (q:K (.ref σ.nx) (σ.new (.list (g8.map .str)))):Ph (n+1) 0 845 [] σ K KE:=aK (k:=0) (d:=[]) (r:=0) (m:=D1) rfl rfl rfl ⟨bl rfl,q⟩
theorem nB (h:St σ W s bx c e) (hc:c<78000) (hm:0≤m∧m≤300) (hj:j<9) (hw:0≤wy∧wy<5) (h0:wy=0->j<7) (h4:wy=4->j≠0) (q:qr σ bx j (c+8) e W s K):yZ (Ph (n+131)) ⟨[some (.ref W),some (.ref bx),some (.int m),some (.int wy),some (.int (j:Nat)),none,none,none,none],[],[]⟩ σ (bp K) KE:=by
 refine jx hj h.w h.m λx a k i f=>?_;have b:=h.po i;cases j with
 |zero=>
  have:=rI (n:=n) (KE:=KE) b.st hc hm hj f hw h0 h4 (q.pre b);rw[Ru]at this;exact this
 |succ j=>
  refine bW (λh=>by have h:((j+1:Nat):Int)=0:=h;omega) λZ=>?_;refine xA (ao ac ?_);show bI (decide (((j+1:Nat):Int)<0)) _ _;rw[Xo (by omega)];have d:bC a (a.new (.list (g8.map .str))):=Kp.refl.new;have g:=b.trans (b.st.ext d);refine⟨⟨by omega,by omega⟩,.str (g8.getD (j+1) ""),?_,⟨bl (by decide+kernel),(kr hj).2.1⟩,⟨(kr hj).2.2,bl (by decide+kernel)⟩,?_⟩
  ·rw[Xd]
   show Option.map _ g8[j+1]?=_;rw[Xf (show j+1<g8.length by show j+1<9;omega)];congr 1;congr 1;rw[YX,Xf (show j+1<g8.length by show j+1<9;omega)];rfl
  ·have:=rI (n:=n) (KE:=KE) g.st hc hm hj (f.up hj d.to) hw h0 h4 (q.pre g)
   rw[Kx]at this;exact this
variable {fr:cf}
theorem tJ {K:Bool->Sg->Prop} (q:K true σ):bO [] Φ fr σ K KE:=q
theorem ph {A B:Prop} (q:A):bI true A B:=q
variable {R:cf->Sg->Prop}
theorem ng {i:Nat} {a:AE} {K:ft} (ha:∀K':KV,K' v σ->a Φ fr σ K' KE) (hl:Nat.blt i fr.loc.length=true) (q:R (fr.put i v) σ):ay (.l i) a aF Φ fr σ (kX R K) KE:=by
 refine ha _ ?_;refine kS hl ?_;exact q
theorem mO (h:St σ W s bx c e) (hc:c<78000) (hm:0≤m∧m≤300) (hj:j<9) (hw:0≤wy∧wy<5) (h0:wy=0->j<7) (q:∀j,j<9->qr σ bx j (c+8) e W s K):zC (Ph (n+131)) ⟨[some (.ref W),some (.ref bx),some (.int m),some (.int wy),some (.int (j:Nat)),none,none,none,none],[],[]⟩ σ (bp K) KE:=by
 refine bW (λb=>bW (λa=>?_) λa=>?_) λb=>?_
 ·refine tJ (ph (ng (v:=.int 3) (λZ q=>q) rfl ?_))
  exact(nB (j:=3) h hc hm (by decide) hw (λZ=>by decide) (λZ=>by decide) (q 3 (by decide)))
 ·refine nB h hc hm hj hw h0 (λZ=>?_) (q j hj)
  have a:¬(j:Int)=0:=a;lia
 ·exact nB h hc hm hj hw h0 (λa=>absurd a b) (q j hj)
theorem zO (h:St σ W s bx c e) (hc:c<78000) (hm:0≤m∧m≤300) (hj:j<9) (hw:0≤wy∧wy<5) (q:∀j,j<9->qr σ bx j (c+8) e W s K):yw (Ph (n+131)) ⟨[some (.ref W),some (.ref bx),some (.int m),some (.int wy),some (.int (j:Nat)),none,none,none,none],[],[]⟩ σ (bp K) KE:=by
 refine bW (λb=>bW (λa=>?_) λa=>?_) λb=>?_
 ·have a:6<(j:Int):=a
  have:=mO (n:=n) (KE:=KE) (j:=j - 7) h hc hm (by lia) hw (λZ=>by lia) q;rw[show((j - 7:Nat):Int)=(j:Int) - 7 by lia]at this;refine tJ (ph (ng (v:=.int ((j:Int) - 7)) (λZ q=>q) rfl ?_));exact this
 ·have a:¬6<(j:Int):=a
  exact mO h hc hm hj hw (λZ=>by lia) q
 ·exact mO h hc hm hj hw (λa=>absurd a b) q
theorem U3 (h:St σ W s bx c e) (hc:c<77000) (hm:0≤m∧m≤300) (q:∀j,j<9->qr σ bx j (c+10) e W s K):Ph (n+132) 0 892 [.ref W,.ref bx,.int m] σ K KE:=by
 refine aK (k:=3) (d:=[]) (r:=6) (m:=vz) rfl rfl rfl ?_;rw[DR];refine h.tk (n:=n+130) (cS hc) (by decide) (by decide) λg v f w a=>?_;refine a.st.tk (n:=n+130) (fp hc) (by decide) (by decide) λr l p i t=>⟨bl rfl,t_ ac rfl ?_⟩;obtain⟨r,rfl⟩:=XM p;have b:=(a.trans t).new (o:=.tup [.int g,.int (r:Int)]);refine zO b.st (tP hc) hm (Sl i) ⟨f,w⟩ λj u=>?_;have:=(q j u).pre b;rw[show c+1+1+8=c+10 by lia];exact this
abbrev xi (σ:Sg) (bx:Nat) (c:Int) (e:Bool) (W:Nat) (s:Ws) (K:KV):Prop:=∀t hl pl p σ' s',Go σ σ' W s s' bx c e->σ'.ob t=some (.tup [.ref hl,.ref pl])->Hd σ' hl p->jo σ' pl p->K (.ref t) σ'
variable {tn:Int} {x y:Option Int}
theorem xi.pre (q:xi σ bx c' e W s K) (g:Go σ σ1 W s s1 bx c e):xi σ1 bx c' e W s1 K:=λt j f p a h b i k d=>q t j f p a h (g.trans b) i k d
theorem xi.le (q:xi σ bx c' e W s K) (h:c≤c'):xi σ bx c e W s K:=λt j f p a g b i k d=>q t j f p a g (b.ge h) i k d
theorem r9 {K:ft} (q:R fr σ):aF Φ fr σ (kX R K) KE:=q
theorem E3 {K:Bool->Sg->Prop} (q:K false σ):cD [] Φ fr σ K KE:=q
theorem yC {A B:Prop} (q:B):bI false A B:=q
theorem dQ {i:Nat} {a:AE} {r:AS} {K:ft} (hl:Nat.blt i fr.loc.length=true) (q:a Φ fr σ (λv σ'=>r Φ (fr.put i v) σ' K KE) KE):ay (.l i) a r Φ fr σ K KE:=by
 show a Φ fr σ (λv σ'=>bI (Nat.blt i fr.loc.length) (r Φ (fr.put i v) σ' K KE) False) KE;rw[hl];exact q
theorem G3 {i:Nat} {a:AE} {K:ft} (hl:Nat.blt i fr.loc.length=true) (q:a Φ fr σ (λv σ'=>R (fr.put i v) σ') KE):ay (.l i) a aF Φ fr σ (kX R K) KE:=by
 show a Φ fr σ (λv σ'=>bI (Nat.blt i fr.loc.length) (R (fr.put i v) σ') False) KE;rw[hl];exact q
theorem cy {t:AT} {a r:AS} {K:ft} (ht:∀K':Bool->Sg->Prop,K' false σ->t Φ fr σ K' KE) (q:r Φ fr σ K KE):aw t a r Φ fr σ K KE:=ht _ q
theorem iW {t:AT} {a r:AS} {K:ft} (ht:∀K':Bool->Sg->Prop,K' true σ->t Φ fr σ K' KE) (q:a Φ fr σ (kX (λfr σ=>r Φ fr σ K KE) K) KE):aw t a r Φ fr σ K KE:=ht _ q
theorem yk {t:AT} {a b r:AS} {K:ft} (ht:∀K':Bool->Sg->Prop,K' false σ->t Φ fr σ K' KE) (q:b Φ fr σ (kX (λfr σ=>r Φ fr σ K KE) K) KE):lD t a b r Φ fr σ K KE:=ht _ q
theorem Ia {t:AT} {a b r:AS} {K:ft} (ht:∀K':Bool->Sg->Prop,K' true σ->t Φ fr σ K' KE) (q:a Φ fr σ (kX (λfr σ=>r Φ fr σ K KE) K) KE):lD t a b r Φ fr σ K KE:=ht _ q
theorem aN_ (q:K .none σ):aN Φ fr σ K KE:=q
theorem hZ {i j:Nat} {K:cf->Sg->Prop} (h1:Nat.blt j fr.loc.length=true) (h2:Nat.blt i (fr.put j w).loc.length=true) (q:K ((fr.put j w).put i v) σ):kR [Tg.l i,Tg.l j].reverse [v,w].reverse fr σ K:=by
 show bI (Nat.blt j fr.loc.length) (bI (Nat.blt i (fr.put j w).loc.length) (K ((fr.put j w).put i v) σ) False) False;rw[h1,h2];exact q
theorem tC (h:Wv σ W s) (q:∀k σ' s',Po σ σ' W s s'->Rg σ' k (oI x) (oI y) b->K (.ref k) σ'):Ph (n+128) 0 705 [.ref W,oI x,oI y,.bool b] σ K KE:=by
 cases x with
 |none=>exact f4 h rfl (by cases y<;>rfl) (.inl rfl) λk σ' s' p Z r=>q k σ' s' p r.rg
 |some i=>
  cases y with
  |none=>exact f4 h rfl rfl (.inr rfl) λk σ' s' p Z r=>q k σ' s' p r.rg
  |some j=>exact lV h λk σ' s' p Z r=>q k σ' s' p r.rg
theorem tL (h:St σ W s bx c e) (q:xi σ bx c e W s K):aq (aU (aa (bK (aa (am (aV 0) 54 (aa (aV 5) (aa (aV 7) (aa (aV 8) ab)))) ab)) (aa (aU (aa (aS "range") (aa (aV 5) (aa (aV 7) (aa (aV 8) ab))))) ab))) (Ph (n+128)) ⟨[some (.ref W),a1,a2,a3,a4,some (oI x),a6,some (oI y),some (.bool b)],[],[]⟩ σ (bp K) KE:=by
 refine h.w.me rfl rfl (tC h.w λk a i f g=>(gc (bl rfl) (bl rfl) (bl rfl) ?_));have d:bC a (((a.new (.list [.ref k])).new (.tup [.str "range",oI x,oI y,.bool b])).new (.tup [.ref a.nx,.ref (a.nx+1)])):=Kp.refl.new.new.new;exact q _ a.nx (a.nx+1) (.rng x y b) _ i ((h.po f).trans ((h.po f).st.ext d)) ac (bv k (ae (ae ac)) (g.up d.to)) (ae ac)
theorem nM (h:St σ W s bx c e) (hc:c<90000) (q:xi σ bx (c+1) e W s K):ay (.l 8) (ti (bF .Eq (aV 3) (aI 0)) (bF .Eq (ag 866 (aa (aV 1) (aa (aI 2) ab))) (aI 1))) (aq (aU (aa (bK (aa (am (aV 0) 54 (aa (aV 5) (aa (aV 7) (aa (aV 8) ab)))) ab)) (aa (aU (aa (aS "range") (aa (aV 5) (aa (aV 7) (aa (aV 8) ab))))) ab)))) (Ph (n+128)) ⟨[some (.ref W),some (.ref bx),a2,some (.int tn),a4,some (oI x),a6,some (oI y),none],[],[]⟩ σ (bp K) KE:=by
 refine bW (λb=>?_) λb=>?_
 ·exact tL h (q.le (qb))
 ·refine h.tk (n:=n+127) (cS hc) (by decide) (by decide) λr d g f a=>?_
  exact tL a.st (q.pre a)
theorem Us (h:St σ W s bx c e) (hc:c<70000) (hm:0≤m∧m≤300) (q:xi σ bx (c+20) e W s K):Ph (n+133) 0 899 [.ref W,.ref bx,.int m,.int tn] σ K KE:=by
 refine aK (k:=4) (d:=[]) (r:=5) (m:=G0) rfl rfl rfl ?_;refine dQ rfl ⟨by decide,?_⟩;have R:0≤tn % 6∧tn % 6<6:=⟨YN _ (by decide),Yw _ (by decide)⟩;generalize tn % 6=wy at R ⊢;have:wy=0∨wy=1∨wy=2∨wy=3∨wy=4∨wy=5:=by lia
 rcases this with rfl|rfl|rfl|rfl|rfl|rfl
 ·refine cy (λZ q=>q) (cy (λZ q=>q) (cy (λZ q=>q) (yk (λZ q=>q) (dQ rfl ?_))))
  refine h.mark (n:=n+130) (cS hc) (mV hm) (nr hm) λb a i=>?_;refine ng (v:=.none) (λZ q=>q) rfl ?_;exact nM (n:=n+4) (x:=some b) (y:=none) i.st (fp hc) ((q.pre i).le (nj))
 ·refine cy (λZ q=>q) (cy (λZ q=>q) (iW (λZ q=>q) ?_))
  refine h.mark (n:=n+130) (cS hc) (mV hm) (nr hm) λb a i=>?_;refine i.st.mark (n:=n+130) (fp hc) (by show -1≤m+2;exact I5 hm.1 (by decide)) (by show m+2 - -1<900;lia) λz p l=>⟨bl rfl,t_ ac rfl (gc (bl rfl) (bl rfl) (bl rfl) ?_)⟩;have u:=(i.trans l).new (o:=.tup [.int b,.int z]);generalize p.new (.tup [.int b,.int z])=f at u ⊢;exact(q.pre u) _ f.nx (f.nx+1) (.two b z) _ s ((u.st.ext (Kp.refl.new.new.new:bC f (((f.new (.list [.int b,.int z])).new (.tup [.str "two",.int b,.int z,.bool false])).new (.tup [.ref f.nx,.ref (f.nx+1)])))).ge (nj)) ac (ae (ae ac)) (ae ac)
 ·have N:∀{a A} (x y:Option Int),Go σ a W s s bx A e->A≤c+12->ay (.l 8) (ti (bF .Eq (aV 3) (aI 0)) (bF .Eq (ag 866 (aa (aV 1) (aa (aI 2) ab))) (aI 1))) (aq (aU (aa (bK (aa (am (aV 0) 54 (aa (aV 5) (aa (aV 7) (aa (aV 8) ab)))) ab)) (aa (aU (aa (aS "range") (aa (aV 5) (aa (aV 7) (aa (aV 8) ab))))) ab)))) (Ph (n+132)) ⟨[some (.ref W),some (.ref bx),some (.int m),some (.int tn),some (.int 2),some (oI x),none,some (oI y),none],[],[]⟩ a (bp K) KE:=λ{a A} x y g hc=>nM (n:=n+4) g.st (Nh hc (by assumption)) ((q.pre g).le (Dz hc))
  have B:∀{a A} (x:Option Int),Go σ a W s s bx A e->A≤c+7->ay (.l 7) (aO (cD [ai .Eq (aV 4) (aI 0),ai .Eq (ag 866 (aa (aV 1) (aa (aI 4) ab))) (aI 3)]) aN (ag 878 (aa (aV 1) (aa (ap .Sub (ap .Sub (aI 0) (aV 2)) (aI 2)) (aa (ap .Add (aV 2) (aI 2)) ab))))) aF (Ph (n+132)) ⟨[some (.ref W),some (.ref bx),some (.int m),some (.int tn),some (.int 2),some (oI x),none,none,none],[],[]⟩ a (kX (λS σ=>ay (.l 8) (ti (bF .Eq (aV 3) (aI 0)) (bF .Eq (ag 866 (aa (aV 1) (aa (aI 2) ab))) (aI 1))) (aq (aU (aa (bK (aa (am (aV 0) 54 (aa (aV 5) (aa (aV 7) (aa (aV 8) ab)))) ab)) (aa (aU (aa (aS "range") (aa (aV 5) (aa (aV 7) (aa (aV 8) ab))))) ab)))) (Ph (n+132)) S σ (bp K) KE) (bp K)) KE:=λ{a A} x g hc=>by
   refine G3 rfl ?_;refine g.st.tk (n:=n+131) (Nh hc (by assumption)) (by decide) (by decide) λr p Z Z l=>bW (λh=>?_) λh=>?_
   ·refine ph (aN_ ?_)
    exact N x none (g.trans l) (Dz hc)
   ·refine E3 (yC ?_)
    refine l.st.mark (n:=n+130) (Xa6 hc (by assumption)) (mV hm) (nr hm) λz f u=>?_;exact N x (some z) ((g.trans l).trans u) (Xec hc)
  refine cy (λZ q=>q) (cy (λZ q=>q) (cy (λZ q=>q) (yk (λZ q=>q) (dQ rfl ?_))));refine h.tk (n:=n+131) (cS hc) (by decide) (by decide) λr a Z Z i=>bW (λh=>?_) λh=>?_
  ·refine tJ (ph (aN_ ?_))
   exact B none i (ky)
  ·refine yC ?_
   refine i.st.mark (n:=n+130) (fp hc) (mV hm) (nr hm) λb p l=>?_;exact B (some b) (i.trans l) (nj)
 ·refine cy (λZ q=>q) (iW (λZ q=>q) ?_)
  refine h.mark (n:=n+130) (cS hc) (mV hm) (nr hm) λb a i=>(gc (bl rfl) (bl rfl) (bl rfl) ?_);exact(q.pre i) _ a.nx (a.nx+1) (.one b) _ s ((i.st.ext (Kp.refl.new.new.new:bC a (((a.new (.list [.int b])).new (.tup [.str "one",.int b,.int 0,.bool false])).new (.tup [.ref a.nx,.ref (a.nx+1)])))).ge (ky)) ac (ae (ae ac)) (ae ac)
 ·refine iW (λZ q=>q) ?_
  exact U3 h (cS hc) hm λj Y t P U C V g I O X=>q t P U (.odd j) C V (g.ge (ky)) I O X
 ·refine cy (λZ q=>q) (cy (λZ q=>q) (cy (λZ q=>q) (Ia (λZ q=>q) (dQ rfl ?_))))
  refine h.tk (n:=n+131) (cS hc) (XcI hm.1) (by lia) λb a Z Z i=>dQ rfl ?_;refine i.st.tk (n:=n+131) (fp hc) (by decide) (by decide) λr p Z Z l=>?_;have J:∀w:Int,0≤w->w<2->IntMulOk m w:=λw I O=>.of_left (intBits_le_64 (by lia) (La hm.2));refine l.st.tk (n:=n+131) (tP hc) (by decide) (by decide) λH f D F u=>⟨J _ D F,?_⟩;refine u.st.tk (n:=n+131) (El hc) (by decide) (by decide) λL Q E G T=>(eQ (J _ E G) (bl rfl) (t_ ac rfl ?_));have M:=(((i.trans l).trans u).trans T).new (o:=.tup [.int (b - m*H),.int (b+r - 2 - m*L)]);refine hZ rfl rfl (r9 ?_);exact nM (n:=n+4) (x:=some (b - m*H)) (y:=some (b+r - 2 - m*L)) M.st (Xcw hc) ((q.pre M).le (Xad))
variable {d0 d1 si gl ou:Nat} {x:SV}
theorem UH (h:Wv σ W s) (w:WvF σ W s d0 d1 si gl ou) (b:dB W σ σ') (hm:s'.m=s.m) (hk:s'.ks=s.ks) (ht:(∀a,Nat.beq a 41=false->s'.tl.lookup a=none)∧s'.tl.length≤10) (h2:σ'.ob W=some (.inst 834 (jV d0 d1 si gl ou s'))):Wv σ' W s':=by
 obtain⟨_,m,q,l,f,r,u,y⟩:=h;have c:∀{k o},σ.ob k=some o->o≠ .inst 834 (jV d0 d1 si gl ou s)->k≠W:=λhk v t=>by
  rw[t,w.w]at hk;exact v (W7 hk).symm
 refine⟨iG d0 d1 si gl ou ⟨h2,by rw[hm];exact w.ne,b.ob _ _ w.d0 (c w.d0 nofun),b.ob _ _ w.d1 (c w.d1 nofun)⟩,by rw[hm,hk];exact b.ob _ _ m (c m f5),λp j=>?_,by rw[hk];exact l,by rw[hk];exact f,by rw[hk];exact r,jy u b (pP w.w rfl),ht⟩;rw[hk]at j;refine gz (q p j) λi x g n d h=>?_;refine(iG i x g n d (b.ob _ _ h (c h ?_)));intro e;injection e with e;exact absurd e (by decide)
theorem Ik:oY []≤40:=bl (by decide+kernel)
theorem wK (h:Wv σ W s) {ks:List (Str×Nat)} (hk:∀p∈ks,p.1∈jt) (hl:σ.ob l=some (.list (ks.map λp=>.str p.1))) {W':ft} (hN:ks.length=N) (q:∀fr,W' .next fr σ):∀m i fr,i+m=N->(∃a1 a2 a3 a4 a5,fr=⟨[some (.ref W),a1,a2,a3,a4,a5],[],[]⟩)->nH (.list l N) (Tg.put (.l 5)) (λfr σ K=>cQ (am (aV 0) 46 (aa (aV 5) ab)) aF (Ph (n+1)) fr σ K pZ) W' m i fr σ:=by
 intro m
 induction m with
 |zero=>
  intro i fr a b;exact⟨ao hl ((W0 ..).trans hN),q fr⟩
 |succ m ih=>
  intro i fr a ⟨a1,a2,a3,a4,a5,b⟩;subst b;have c:i<ks.length:=by exact Z28 hN a
  refine⟨ao hl ((W0 ..).trans hN),ao hl ⟨.str ks[i].1,by rw[Xd,Xf c];rfl,h.me rfl rfl (ju h (hk _ (List.getElem_mem c)) ?_)⟩⟩;exact ih (i+1) _ (vX a) (iG a1 a2 a3 a4 _ rfl)
def oV:AS:=mj (bH dG (aa (aj (aV 0) 34) ab)) (Tg.put (.l 5)) (cQ (am (aV 0) 46 (aa (aV 5) ab)) aF) aF
theorem xG (h:Wv σ W s) (hk:∃p,p∈s.ks) (q:∀σ',bC σ σ'->K .none σ'):oV (Ph (n+1)) ⟨[some (.ref W),a1,a2,a3,a4,a5],[],[]⟩ σ (bp K) KE:=by
 refine gz h.w λZ Z Z Z Z b=>?_;have a:=h.m;have d:=h.len;have c:=h.nm;refine g_ b.w rfl rfl (.inr (.inr ?_));revert a d c hk;cases s.ks with
 |nil=>exactλ⟨p,j⟩=>nomatch j
 |cons p r=>
  intro hk a d c;rw[(rfl:eR (p::r)=.dic (vI (p::r)))]at a;refine ao a ⟨by rw[W0];exact Z62 d,?_⟩;have i:pO (vI (p::r))=(p::r).map λp=>SV.str p.1:=by unfold pO;rw[Yp];rfl
  rw[i];have g:bC σ (σ.new (.list ((p::r).map λp=>.str p.1))):=Kp.refl.new;refine ao ac ?_;have:=wK (n:=n) (h.up g) c ac (W':=kX (λe σ=>aF (Ph (n+1)) e σ (bp K) KE) (bp K)) (W0 (f:=λp:Str×Nat=>SV.str p.1) (as:=p::r)).symm (λe=>q _ g) _ 0 ⟨[some (.ref W),a1,a2,a3,a4,a5],[],[]⟩ (X9 _) (iG a1 a2 a3 a4 a5 rfl);exact this
def Vn:AS:=az (aV 0) 41 (eF 40 37 (aa (am (aV 0) 0 ab) (aa (am (aV 0) 44 (aa (aS "Object") ab)) ab))) (az (aV 0) 40 (aB true) oV)
theorem vD (h:Wv σ W s) (ht:s.tl=[]) (q:∀σ' s',Wv σ' W s'->Mn σ' s'->s.n≤s'.n->qs W σ σ'->K .none σ'):Vn (Ph (n+127)) ⟨[some (.ref W),a1,a2,a3,a4,a5],[],[]⟩ σ (bp K) KE:=by
 refine h.me rfl rfl (ch h λY A=>?_);refine A.wd.me rfl rfl (i7 A.wd (by decide+kernel) λo b M x J=>?_);refine gp (ey rfl) λf j C Q N ⟨d,R⟩=>⟨rfl,?_⟩;subst R;have t2:M.tl=[]:=x.ev.tl.trans ht;obtain⟨i,c,g,w,V⟩:=M;subst t2;refine gz (x.wd.up C).w λm r t l p u=>?_;refine lT u.w rfl ?_;have F:dB W j (j.set W (.inst 834 (jV m r t l p ⟨i,c,g,w,[(41,.ref b.nx)]⟩))):=Kp.refl.set λZ Z h=>h rfl;have H:=aE (o:=.inst 834 (jV m r t l p ⟨i,c,g,w,[(41,.ref b.nx)]⟩)) u.w;have L:∀k,(∀a,Nat.beq a 41=false->([(41,SV.ref k)]:List (Nat×SV)).lookup a=none)∧([(41,SV.ref k)]:List (Nat×SV)).length≤10:=λk=>⟨λa P=>by
  rw[Xk];have:(a==41)=false:=by
   cases e:(a==41)with
   |false=>rfl
   |true=>rw[XJ e]at P;exact kP P
  rw[this];rfl,bl rfl⟩
 have D:=UH (s':=⟨i,c,g,w,[(41,.ref b.nx)]⟩) (x.wd.up C) u F rfl rfl (L _) H;change az (aV 0) 40 (aB true) oV (Ph (n+127)) ⟨[some (.ref W),a1,a2,a3,a4,a5],[],[]⟩ (j.set W (.inst 834 (jV m r t l p ⟨i,c,g,w,[(41,.ref b.nx)]⟩))) (bp K) KE;generalize (j.set W (.inst 834 (jV m r t l p ⟨i,c,g,w,[(41,.ref b.nx)]⟩)))=σ4 at F H D ⊢;refine gz D.w λm r t l p v=>?_;refine lT v.w rfl ?_;have E:dB W σ4 (σ4.set W (.inst 834 (jV m r t l p ⟨i,c,g,true,[(41,.ref b.nx)]⟩))):=Kp.refl.set λZ Z h=>h rfl;have I:=aE (o:=.inst 834 (jV m r t l p ⟨i,c,g,true,[(41,.ref b.nx)]⟩)) v.w;have B:=UH (s':=⟨i,c,g,true,[(41,.ref b.nx)]⟩) D v E rfl rfl (L _) I;change oV (Ph (n+127)) ⟨[some (.ref W),a1,a2,a3,a4,a5],[],[]⟩ (σ4.set W (.inst 834 (jV m r t l p ⟨i,c,g,true,[(41,.ref b.nx)]⟩))) (bp K) KE;generalize (σ4.set W (.inst 834 (jV m r t l p ⟨i,c,g,true,[(41,.ref b.nx)]⟩)))=σ5 at E I B ⊢;refine xG (n:=n+126) B ⟨_,J⟩ λG z=>?_;have y:dB W j σ5:=F.trans E;have X:∀{k o},j.ob k=some o->fm o=true->k≠W:=λO S U=>by
  rw[U,u.w]at O;obtain rfl:=jS O;exact cp S
 refine q G ⟨i,c,g,true,[(41,.ref b.nx)]⟩ (B.up z) (gW b.nx _ o rfl (z.ob _ _ (y.ob _ _ N (X N rfl)) trivial) rfl ((B.ms _ J:Mo σ5 "Object" o).up z.to)) ?_ ?_
 ·have T:=A.ev.n
  exact Xl T x.ev.n
 ·exact((((A.trans x).kp.trans C.to).stx).trans y.stx).trans z.to
theorem Gf (hd:σ.ob d0=some .dic0) (hW:σ.ob W=some (.inst 834 [])) (tb:mL σ 0 920 (aT 0).qual∧mL σ 1 932 (aT 2).qual) (q:∀σ' s',Wv σ' W s'->Mn σ' s'->qs W σ σ'->K .none σ'):Ph (n+128) 0 573 [.ref W,.ref d0] σ K KE:=by
 refine aK (k:=2) (d:=[.none,.none,.int 20000]) (r:=1) (m:=Fm) rfl rfl rfl ?_;refine sA Kp.refl hW rfl λj N t=>?_;refine bQ rfl (sA (k:=W) Kp.refl (ae t) rfl λC B h2=>?_);refine sA B h2 rfl λG b3 h3=>sA b3 h3 rfl λD b4 E=>sA b4 E rfl λa1 V H=>sA V H rfl λa2 R M=>sA R M rfl λa4 S h7=>?_;refine sA S.new (ae h7) rfl λb v x=>?_;refine sA (k:=W) Kp.refl (ae x) rfl λX Y h9=>?_;refine sA Y h9 rfl λa3 T ha=>sA T ha rfl λa0 y z=>sA y.new (ae z) rfl λO J I=>⟨bl rfl,sA J.new (ae I) rfl λL A u=>sA A u rfl λF be U=>sA be U rfl λf s Q=>?_⟩;have i:d0≠W:=λe=>by
  rw[e,hW]at hd;cases hd
 have h:dB W σ b:=(N.new).trans v;have c:dB W σ f:=(h.new).trans s;have Bo:b.ob j.nx=some .dic0:=v.ob _ _ ac (cx t).symm;have l:b.ob d0=some .dic0:=h.ob _ _ hd i;have o:f.ob b.nx=some .dic0:=s.ob _ _ ac (cx x).symm;have P:Wv f W ⟨b.nx,0,[],false,[]⟩:=⟨iG d0 j.nx _ _ _ ⟨Q,⟨cx l,cx Bo⟩,c.ob _ _ hd i,s.ob _ _ (ae Bo) (cx t).symm⟩,o,(λp g=>nomatch g),(λp g=>nomatch g),by show 0+oY []≤40;rw[X9];exact Ik,(λp g=>nomatch g),jy tb c (pP hW rfl),⟨λa Z=>rfl,bl rfl⟩⟩;exact vD P rfl λσ' s' w m Z k=>q σ' s' w m (c.stx.trans k)
variable {nm:Str} {d:List Nat}
def wR (σ:Sg) (k pa:Nat):Prop:=∃i o nm d,σ.ob k=some (.inst 228 (uy i (.ref o) (.str nm) (.bool true) (.ref pa) .none d .none .none))
theorem rS (h:Wv σ W s) (q:∀k σ' s',Po σ σ' W s s'->wR σ' k a->K (.ref k) σ'):Ph (n+127) 0 635 [.ref W,.str nm,.bool true,.ref a] σ K KE:=by
 refine aK (k:=4) (d:=[.none,.none]) (r:=3) (m:=Gg) rfl rfl rfl (h.me rfl rfl (i7 h (by decide+kernel) λo p t e v=>?_));refine bQ rfl (bQ rfl ?_);refine e.wd.me rfl rfl (ch e.wd λb u=>?_);refine gp G7 λf c l i g ⟨d,j⟩=>⟨rfl,?_⟩;subst j;refine lT g rfl ?_;exact q _ _ _ ((e.trans u).ext (l.setN (Xy _):bC b (c.set b.nx (.inst 228 (uy (t.n+1) (.ref o) (.str nm) (.bool true) (.ref a) .none d .none .none))))) (V3 _ _ _ d (aE g))
theorem kZ (h:wR σ k a) (hm:Mo σ z a) (q:K (.str z) σ):Ph (n+2) 0 663 [.ref W,.ref k] σ K KE:=by
 refine mG h λi o g d h=>?_;refine gz hm λe c b j f hm=>?_;refine aK (k:=2) (d:=[]) (r:=0) (m:=CT) rfl rfl rfl ⟨2,?_⟩;refine g_ h rfl rfl (bQ rfl (g_ h rfl rfl ?_));refine g_ hm rfl rfl (bQ rfl (O8 hm rfl rfl (qY hm ?_)));exact g_ hm rfl rfl q
theorem unm:((kC 558).any λy=>aD y "Array")=false∧((kC 558).any λy=>aD y "String")=false∧aD "Array" "String"=false:=by decide+kernel
theorem Nr {K:Bool->Prop} (h:((kC 558).any λy=>aD y z)=b) (q:K b):inT (.str z) 558 K:=⟨rfl,by
 subst h;exact q⟩
theorem zp {i:Nat} {K:Bool->Sg->Prop} (h1:fr.loc[i]?=some (some (.str z))) (h:((kC 558).any λy=>aD y z)=b) (q:K b σ):ai .In (aV i) (aG 558) Φ fr σ K KE:=by
 unfold ai;rw[pS h1];exact Nr (K:=λb=>K b σ) h q
theorem Bh {i:Nat} {z2:Str} {K:Bool->Sg->Prop} (h1:fr.loc[i]?=some (some (.str z))) (h:aD z z2=b) (q:K b σ):ai .Eq (aV i) (aS z2) Φ fr σ K KE:=by
 subst h;unfold ai;rw[pS h1];exact q
theorem qR (h:Wv σ W s) (hs:wR σ k a) (hm:Mo σ "Array" a) (q:∀r i l σ' s',Nw σ σ' W s s' r i->σ.nx≤l->Li σ' r i k false l []->K (.ref r) σ'):Ph (n+10) 0 719 [.ref W,.ref k] σ K KE:=by
 have g:=hs;refine mG hs λv w x d j=>?_;refine aK (k:=2) (d:=[]) (r:=2) (m:=wn) rfl rfl rfl (O8 j rfl rfl (qY j ?_));refine h.me rfl rfl (kZ (n:=n+7) g hm (h.me rfl rfl (ch h λb e=>⟨bl rfl,t_ ac rfl ?_⟩)));refine hZ rfl rfl (cy (λZ q=>zp rfl unm.1 q) (cy (λZ q=>Bh rfl unm.2.2 q) (iW (λZ q=>Bh rfl aQ q) ?_)));refine⟨bl rfl,gp te λf c o t p ⟨d,u⟩=>⟨rfl,?_⟩⟩;subst u;exact q _ _ _ _ _ ⟨e.ext ((Kp.new (Kp.new Kp.refl)).trans o:bC b c),WX (e.kp.nx:σ.nx≤b.nx) (WX (Zt _) (Zt _)),by exact xg,XS _⟩ (WX (e.kp.nx:σ.nx≤b.nx) (Zt _)) ⟨⟨d,p⟩,o.ob _ _ ac trivial⟩
theorem tI (h:Wv σ W s) (hs:wR σ k a) (hm:Mo σ "String" a) (q:∀r i σ' s',Nw σ σ' W s s' r i->d9 σ' 62 r i k false [(6,.str "")]->K (.ref r) σ'):Ph (n+10) 0 719 [.ref W,.ref k] σ K KE:=by
 have e:=hs;refine mG hs λu v w d g=>?_;refine aK (k:=2) (d:=[]) (r:=2) (m:=wn) rfl rfl rfl (O8 g rfl rfl (qY g ?_));refine h.me rfl rfl (kZ (n:=n+7) e hm (h.me rfl rfl (ch h λb j=>⟨bl rfl,t_ ac rfl ?_⟩)));refine hZ rfl rfl (cy (λZ q=>zp rfl unm.2.1 q) (iW (λZ q=>Bh rfl aQ q) ?_));refine gp sr λf c t o l ⟨d,p⟩=>⟨rfl,?_⟩;subst p;exact q _ _ _ _ ⟨j.ext ((Kp.new Kp.refl).trans t:bC b c),WX (j.kp.nx:σ.nx≤b.nx) (Zt _),by exact xg,XS _⟩ ⟨d,l⟩
end
structure uu (σ:Sg) (n:Int) (rk tk li:Nat) (ir it:Int) (oR oT:Nat) (fz:Bool) (ts:List Ti):Prop where
 r:d9 σ 82 rk ir oR fz [(7,.ref li)]
 l:σ.ob li=some (.list (tx ts))
 t:d9 σ 62 tk it oT fz [(6,.str (zs (tc ts)))]
 its:jf σ n ts
 n:ir≤n∧it≤n
section
variable {σ σ' σ1 σ0:Sg} {W:Nat} {s s' s1:Ws} {n C:Nat} {K:KV} {KE:KX} {z nm msg:Str} {k o l a li ow kT P j pl N lb lg hl bx d0 d1 si gl ou rk tk oR oT:Nat} {i f c m g nn mk lo hi i1 i2 c1 c2 wy tn ir it:Int} {fz b e:Bool} {v u w x:SV} {xs:List SV} {r t:Nat} {p:Pl} {cs ds d:List Nat} {ts:List Ti} {ρ:Int×Int} {is:List Int} {Φ:Nat->eL} {a0 a1 a2 a3 a4 a5 a6 a7 a8:Option SV} {K':ft} {KC:List SV->Sg->Prop} {k0:Nat} {loc:List (Option SV)} {cv:List SV}
theorem uu.up {n':Int} (h:uu σ i rk tk li ir it oR oT fz ts) (e:fV σ σ') (hn:i≤n'):uu σ' n' rk tk li ir it oR oT fz ts:=⟨h.r.up rfl e,e.ob _ _ h.l rfl,h.t.up rfl e,h.its.up e hn,Xl h.n.1 hn,Xl h.n.2 hn⟩
theorem uR (q:∀ts σ' s',Go σ σ' W s s' bx c e->tc ts=cs->jf σ' s'.n ts->KC (tx ts) σ') (h:St σ W s bx c e) (c0:σ.ob k0=some (.cell (some (.ref W)))):bS (.str (zs cs)) (kY (cB (am (aC 0) 6 (aa aX ab))) (Ph (n+127)) ⟨loc,[k0],cv⟩) KC cs.length 0 [] σ:=by
 have x:∀m i ts a d,i+m=cs.length->tc ts=cs.take i->jf a d.n ts->Go σ a W s d bx c e->bS (.str (zs cs)) (kY (cB (am (aC 0) 6 (aa aX ab))) (Ph (n+127)) ⟨loc,[k0],cv⟩) KC m i (tx ts) a:=by
  intro m
  induction m with
  |zero=>
   intro i ts a d f p b g;refine⟨trivial,q ts a d g ?_ b⟩;rw[p,Yq (Z16 f)]
  |succ m ih=>
   intro i ts a d f p b g;have r:i<cs.length:=by exact Hw f
   have u:(zs cs).cps[i]?=some cs[i]:=by
    show cs.toArray[i]?=_;rw[ZY,Xf r]
   refine⟨trivial,_,u,c_ rfl (g.kp.ob _ _ c0 ⟨rfl,h.ne c0 rfl⟩) (g.st.w.me rfl rfl (fS g.st.w λk w o l v j z y=>?_))⟩;have:=ih (i+1) (ts++[(k,cs[i],w)]) l v (vX f) (by
    unfold tc;rw[Xa,←Y7 r];show tc ts++_=_;rw[p];rfl) (λt hm=>by
     rcases W6.mp hm with hm|hm
     ·exact(b.up j.p.kp j.p.ev.n) t hm
     ·cases XA.mp hm
      exact⟨j.i1,o,y⟩) (g.trans (g.st.po j.p))
   unfold tx at this;rw[Xa]at this;exact this
 exact x cs.length 0 [] σ s (X9 _) rfl (λt hm=>nomatch hm) (.refl h)
theorem Mn.but {o:SO} (h:Mn σ s) (b:dB j σ σ') (hj:σ.ob j=some o) (h1:Nat.beq 45 (ko o)=false) (h2:Nat.beq 233 (ko o)=false):Mn σ' s:=by
 refine mC h λk f o2 p g l c=>?_;refine gz c λi m a n d e=>?_;exact(gW k f o2 p (b.ob _ _ g (bG g hj h1)) l (iG i m a n d (b.ob _ _ e (bG e hj h2))))
theorem St.but {o:SO} (h:St σ W s bx c e) (b:dB j σ σ') (hj:σ.ob j=some o) (h0:SH o=false) (h1:Nat.beq 45 (ko o)=false) (h2:Nat.beq 233 (ko o)=false) (h3:isL o=false):St σ' W s bx c e:=⟨iw h.w b hj h0,h.m.but b hj h1 h2,h.b.up b λa=>(h.ne hj h3).symm⟩
abbrev Wb (bx rk tk:Nat):Sg->Sg->Prop:=Kp λk o=>fm o=true∧k≠bx∧k≠rk∧k≠tk
theorem wt (h:St σ W s bx c e) (hc:c<90000) (ho:uu σ s.n rk tk li ir it oR oT false ts) (hne:∀t∈ts,t.1≠tk) (q:∀t fz σ',St σ' W s bx (c+1) e->Wb bx rk tk σ σ'->σ'.ob t=some (.tup [.ref rk,.ref tk])->uu σ' s.n rk tk li ir it oR oT fz ts->K (.ref t) σ'):
  az (aV 3) 4 (bF .Eq (ag 866 (aa (aV 0) (aa (aI 3) ab))) (aI 0)) (az (aV 4) 4 (aj (aV 3) 4) (aq (aU (aa (aV 3) (aa (aV 4) ab))))) (Ph (n+1)) ⟨[some (.ref bx),a1,a2,some (.ref rk),some (.ref tk)],[k0],[]⟩ σ (bp K) KE:=by
 refine h.tk (cS hc) (by decide) (by decide) λr a Z Z B=>?_;obtain⟨u,O⟩:=ho.r;obtain⟨C,k⟩:=ho.t;have E:=h.snl B.kp;have f:=E.ob _ _ O ⟨rfl,rfl⟩;have G:li≠bx:=λe=>by
  refine mG h.b.ob λg Q P z I=>?_;have l:=ho.l;rw[e,I]at l;have l:=W7 l;injection l with l;unfold tx at l;cases ts with
  |nil=>exact nCN l
  |cons t ts=>cases l
 have M:∀fz:Bool,pH a (.ref rk) 4 (.bool fz) λσ=>az (aV 4) 4 (aj (aV 3) 4) (aq (aU (aa (aV 3) (aa (aV 4) ab)))) (Ph (n+1)) ⟨[some (.ref bx),a1,a2,some (.ref rk),some (.ref tk)],[k0],[]⟩ σ (bp K) KE:=λfz=>by
  refine lT f rfl ?_;have p:dB rk a (a.set rk (.inst 82 (fW ir (.ref oR) u fz [(7,.ref li)]))):=Kp.refl.set λZ Z h=>h rfl;have i:=aE (o:=.inst 82 (fW ir (.ref oR) u fz [(7,.ref li)])) f;have F:=B.st.but p f rfl rfl rfl rfl;have b:=p.ob _ _ (E.ob _ _ k ⟨rfl,rfl⟩) (bG (E.ob _ _ k ⟨rfl,rfl⟩) f rfl);have m:=p.ob _ _ (B.kp.ob _ _ ho.l ⟨rfl,G⟩) (bG (B.kp.ob _ _ ho.l ⟨rfl,G⟩) f rfl);have j:∀t∈ts,∃o,d9 (a.set rk (.inst 82 (fW ir (.ref oR) u fz [(7,.ref li)]))) 62 t.1 t.2.2 o false [(6,.str (zs [t.2.1]))]:=λt k=>by
   obtain⟨_,o,d,h⟩:=ho.its t k;have h:=E.ob _ _ h ⟨rfl,rfl⟩;exact⟨o,d,p.ob _ _ h (bG h f rfl)⟩
  change az (aV 4) 4 (aj (aV 3) 4) (aq (aU (aa (aV 3) (aa (aV 4) ab)))) (Ph (n+1)) ⟨[some (.ref bx),a1,a2,some (.ref rk),some (.ref tk)],[k0],[]⟩ (a.set rk (.inst 82 (fW ir (.ref oR) u fz [(7,.ref li)]))) (bp K) KE;generalize (a.set rk (.inst 82 (fW ir (.ref oR) u fz [(7,.ref li)])))=σ2 at p i F b m j ⊢;refine g_ i rfl rfl (lT b rfl ?_);have w:dB tk σ2 (σ2.set tk (.inst 62 (fW it (.ref oT) C fz [(6,.str (zs (tc ts)))]))):=Kp.refl.set λZ Z h=>h rfl;have y:=aE (o:=.inst 62 (fW it (.ref oT) C fz [(6,.str (zs (tc ts)))])) b;have H:=F.but w b rfl rfl rfl rfl;have D:=w.ob _ _ i (bG i b rfl);have A:=w.ob _ _ m (bG m b rfl);change aq (aU (aa (aV 3) (aa (aV 4) ab))) (Ph (n+1)) ⟨[some (.ref bx),a1,a2,some (.ref rk),some (.ref tk)],[k0],[]⟩ (σ2.set tk (.inst 62 (fW it (.ref oT) C fz [(6,.str (zs (tc ts)))]))) (bp K) KE;generalize (σ2.set tk (.inst 62 (fW it (.ref oT) C fz [(6,.str (zs (tc ts)))])))=σ3 at w y H D A ⊢;have x:jf σ3 s.n ts:=λt k=>by
   refine mZ (j t k) λo d h=>?_;exact⟨(ho.its t k).1,o,d,w.ob _ _ h (hne t k)⟩
  have v:bC σ3 (σ3.new (.tup [.ref rk,.ref tk])):=Kp.refl.new;have N:Wb bx rk tk σ a:=B.kp.mono λZ Z Z h=>⟨h.1,h.2.1⟩;have L:Wb bx rk tk a σ2:=p.mono λZ Z Z h=>h.2.2.1;have J:Wb bx rk tk σ2 σ3:=w.mono λZ Z Z h=>h.2.2.2;refine⟨bl rfl,?_⟩;exact q σ3.nx fz _ (H.ext v).st (((N.trans L).trans J).trans v.to) ac ⟨⟨u,v.ob _ _ D trivial⟩,v.ob _ _ A trivial,⟨C,v.ob _ _ y trivial⟩,x.up v.to (XS _),ho.n⟩
 exact M _
abbrev pQ (σ:Sg) (W:Nat) (s:Ws) (bx:Nat) (c:Int) (e:Bool) (cs:List Nat) (K:KV):Prop:=∀t rk tk li ir it oR oT fz ts σ' s',St σ' W s' bx c e->Wn s s'->qs bx σ σ'->σ'.ob t=some (.tup [.ref rk,.ref tk])->uu σ' s'.n rk tk li ir it oR oT fz ts->tc ts=cs->K (.ref t) σ'
theorem pQ.pre {c':Int} (q:pQ σ W s bx c' e cs K) (g:Go σ σ1 W s s1 bx c e):pQ σ1 W s1 bx c' e cs K:=λt j o d w i b n p h a r u k v l m f=>q t j o d w i b n p h a r u (g.ev.trans k) (g.kp.trans v) l m f
theorem pu (h:St σ W s bx c e) (hc:c<90000) (ho:uu σ s.n rk tk li ir it oR oT false ts) (hne:∀t∈ts,t.1≠tk) (hN:N≤rk∧N≤tk) (htc:tc ts=cs) (q:∀t fz σ',St σ' W s bx (c+1) e->(Kp (λk o=>fm o=true∧k≠bx∧k<N) σ σ')->σ'.ob t=some (.tup [.ref rk,.ref tk])->uu σ' s.n rk tk li ir it oR oT fz ts->K (.ref t) σ'):
  az (aV 3) 4 (bF .Eq (ag 866 (aa (aV 0) (aa (aI 3) ab))) (aI 0)) (az (aV 4) 4 (aj (aV 3) 4) (aq (aU (aa (aV 3) (aa (aV 4) ab))))) (Ph (n+1)) ⟨[some (.ref bx),a1,a2,some (.ref rk),some (.ref tk)],[k0],[]⟩ σ (bp K) KE:=
 wt h hc ho hne λt fz σ' a k b d=>q t fz σ' a (k.mono λZ Z Z h=>⟨h.1,h.2.1,by omega,by omega⟩) b d
def vk:AS:=az (aV 3) 4 (bF .Eq (ag 866 (aa (aV 0) (aa (aI 3) ab))) (aI 0)) (az (aV 4) 4 (aj (aV 3) 4) (aq (aU (aa (aV 3) (aa (aV 4) ab)))))
variable {lI:Nat} {fr:cf}
theorem p_l {i:Nat} {K:cf->Sg->Prop} (hl:Nat.blt i fr.loc.length=true) (q:K (fr.put i v) σ):(Tg.l i).put v fr σ K:=by
 show bI (Nat.blt i fr.loc.length) _ _;rw[hl];exact q
theorem yf (a:qs bx σ σ1) (b:Kp (λk o=>fm o=true∧k≠bx∧k<N) σ1 σ') (hN:σ.nx≤N):qs bx σ σ':=⟨WX a.nx b.nx,λk o c p=>b.ob k o (a.ob k o c p) ⟨p.1,p.2,Xi (σ.wf _ _ c) hN⟩⟩
theorem xl (h:St σ W s bx c e) (hc:c<90000) (hz:cs.length≤900) (c0:σ.ob k0=some (.cell (some (.ref W)))) (hI:σ.ob lI=some (.list (tx ts))) (its:jf σ s.n ts) (htc:tc ts=cs) (q:pQ σ W s bx (c+1) e cs K):
  cT [.l 3,.l 4] (aU (aa (am (aC 0) 51 (aa (aV 2) ab)) (aa (am (aC 0) 6 (aa (aV 1) ab)) ab))) aF (Ph (n+128)) ⟨[some (.ref bx),some (.str (zs cs)),some (.ref lI),none,none],[k0],[]⟩ σ (kX (λfr σ=>vk (Ph (n+128)) fr σ (bp K) KE) K') KE:=by
 have m:(tx ts).length≤10000:=by
  rw[dA,←cL,htc];exact Z1 hz
 refine c_ rfl c0 (h.w.me rfl rfl (iy (n:=n+1) h.w hI m λk i o y x O b I G l=>?_));have r:=h.po b.p;refine c_ rfl (b.p.kp.ob _ _ c0 rfl) (r.st.w.me rfl rfl (fS (n:=n+1) r.st.w λg z o2 f v a F A=>⟨bl rfl,t_ ac rfl ?_⟩));refine hZ rfl rfl (r9 ?_);have d:=its.up b.p.kp b.p.ev.n;rw[←htc]at A;have p:=(r.trans (r.st.po a.p)).new (o:=.tup [.ref k,.ref g]);have j:=(⟨(l.up a.p.kp).1,(l.up a.p.kp).2,A,d.up a.p.kp a.p.ev.n,Xl b.i1 a.p.ev.n,a.i1⟩:uu f v.n k g y i z o o2 false ts).up (σ':=f.new (.tup [.ref k,.ref g])) (n':=v.n) (bC.to Kp.refl.new) (XS _);generalize (f.new (.tup [.ref k,.ref g]))=σ7 at p j ⊢;refine pu (n:=n+127) (N:=σ.nx) p.st hc j (λt w H=>?_) ⟨b.fr,WX b.p.kp.nx a.fr⟩ htc λt B σ' D C w u=>?_
 ·obtain⟨_,o3,M,J⟩:=d t w
  have E:=x.wf _ _ J;have L:=a.fr;exact Z37 L H E
 ·exact q t k g y i z o o2 B ts σ' v D p.ev (yf p.kp C (Xy _)) w u htc
theorem xT (h:St σ W s bx c e) (hc:c<90000) (hz:cs.length≤900) (c0:σ.ob k0=some (.cell (some (.ref W)))) (hI:σ.ob lI=some (.list (tx ts))) (its:jf σ s.n ts) (htc:tc ts=cs) (q:pQ σ W s bx (c+1) e cs K):
  ay (.l 3) (am (aC 0) 43 (aa (am (aC 0) 47 (aa (aS "Row") (aa (aB true) (aa (am (aC 0) 44 (aa (aS "Array") ab)) ab)))) ab)) (ay (.l 4) (am (aC 0) 43 (aa (am (aC 0) 47 (aa (aS "Line") (aa (aB true) (aa (am (aC 0) 44 (aa (aS "String") ab)) ab)))) ab)) (cQ (kW eX ki (aj (aV 3) 7) (aa (aV 2) ab)) (az (aV 4) 6 (aV 1) aF))) (Ph (n+128)) ⟨[some (.ref bx),some (.str (zs cs)),some (.ref lI),none,none],[k0],[]⟩ σ (kX (λfr σ=>vk (Ph (n+128)) fr σ (bp K) KE) K') KE:=by
 have R:(tx ts).length≤10000:=by
  rw[dA,←cL,htc];exact Z1 hz
 refine dQ rfl ?_;refine c_ rfl c0 (h.w.me rfl rfl (c_ rfl c0 (h.w.me rfl rfl (c_ rfl c0 (h.w.me rfl rfl (i7 (n:=n+2) h.w (by decide+kernel) λa b6 s5 B m5=>?_))))));refine rS (n:=n+1) B.wd λk b5 s6 D a8=>qR (n:=n+118) D.wd a8 ((B.wd.ms _ m5).up D.kp) λY ir l i s7 f a3 a6=>?_;have G:=h.po ((B.trans D).trans f.p);have x:fV σ i:=(B.kp.trans D.kp).trans f.p.kp;refine dQ rfl ?_;refine c_ rfl (x.ob _ _ c0 rfl) (G.st.w.me rfl rfl (c_ rfl (x.ob _ _ c0 rfl) (G.st.w.me rfl rfl (c_ rfl (x.ob _ _ c0 rfl) (G.st.w.me rfl rfl (i7 (n:=n+2) G.st.w (by decide+kernel) λa2 b7 s8 F m8=>?_))))));refine rS (n:=n+1) F.wd λO S s9 P b4=>tI (n:=n+118) P.wd b4 ((F.wd.ms _ m8).up P.kp) λr L b M j ta=>?_;have C:fV i b:=(F.kp.trans P.kp:fV i S).trans j.p.kp;have I:=G.trans (G.st.po ((F.trans P).trans j.p));have n7:s7.n≤M.n:=Xl F.ev.n (Xl P.ev.n j.p.ev.n);have T:=its.up (x.trans C) (Xl (Xl (B.ev.n) (Xl D.ev.n f.p.ev.n)) n7:s.n≤M.n);have lia:=a6.up C;have b3:=C.ob _ _ (x.ob _ _ hI rfl) rfl;obtain⟨dr,hr⟩:=lia.1;obtain⟨H,m⟩:=ta;have a5:σ.nx≤Y:=WX (WX B.kp.nx D.kp.nx) f.fr;have fl:σ.nx≤l:=WX (WX B.kp.nx D.kp.nx) a3;have a4:i.nx≤r:=WX (F.kp.trans P.kp:fV i S).nx j.fr;have b8:lI≠l:=λek=>by
  have:=σ.wf _ _ hI;exact Z37 fl ek this
 have a7:bx≠l:=λek=>by
  refine mG h.b.ob λg s' c' z hb=>?_;have:=σ.wf _ _ hb;exact Z37 fl ek this
 refine g_ hr rfl rfl ⟨ao lia.2 trivial,ao lia.2 (ao b3 ⟨⟨rfl,R⟩,?_⟩)⟩;have u:dB l b (b.set l (.list (tx ts))):=Kp.refl.set λZ Z h=>h rfl;have y:=aE (o:=.list (tx ts)) lia.2;have E:=u.ob _ _ hr (bG hr lia.2 rfl);have d:=u.ob _ _ m (bG m lia.2 rfl);have s1:St (b.set l (.list (tx ts))) W M bx c e:=⟨iw I.st.w u lia.2 rfl,I.st.m.but u lia.2 rfl rfl,I.st.b.up u λxs=>a7⟩;have w:jf (b.set l (.list (tx ts))) M.n ts:=λt m=>by
  obtain⟨h1,o3,d3,J⟩:=T t m;exact⟨h1,o3,d3,u.ob _ _ J (bG J lia.2 rfl)⟩
 change az (aV 4) 6 (aV 1) aF (Ph (n+128)) ⟨[some (.ref bx),some (.str (zs cs)),some (.ref lI),some (.ref Y),some (.ref r)],[k0],[]⟩ (b.set l (.list (tx ts))) (kX (λfr σ=>vk (Ph (n+128)) fr σ (bp K) KE) K') KE;generalize (b.set l (.list (tx ts)))=σb at u y E d s1 w ⊢;refine lT d rfl (r9 ?_);have A:dB r σb (σb.set r (.inst 62 (fW L (.ref O) H false [(6,.str (zs cs))]))):=Kp.refl.set λZ Z h=>h rfl;have V:=aE (o:=.inst 62 (fW L (.ref O) H false [(6,.str (zs cs))])) d;have s2:=s1.but A d rfl rfl rfl rfl;have X:=A.ob _ _ E (bG E d rfl);have U:=A.ob _ _ y (bG y d rfl);have Q:∀t∈ts,t.1≠r:=λt m ek=>by
  obtain⟨_,o3,d3,J⟩:=its t m;have:=σ.wf _ _ J;have:=x.nx;lia
 have v:jf (σb.set r (.inst 62 (fW L (.ref O) H false [(6,.str (zs cs))]))) M.n ts:=λt m=>by
  obtain⟨h1,o3,d3,J⟩:=w t m;exact⟨h1,o3,d3,A.ob _ _ J (Q t m)⟩
 change vk (Ph (n+128)) ⟨[some (.ref bx),some (.str (zs cs)),some (.ref lI),some (.ref Y),some (.ref r)],[k0],[]⟩ (σb.set r (.inst 62 (fW L (.ref O) H false [(6,.str (zs cs))]))) (bp K) KE;generalize (σb.set r (.inst 62 (fW L (.ref O) H false [(6,.str (zs cs))])))=σc at A V s2 X U v ⊢;have kc:qs bx σ σc:=⟨WX I.kp.nx (WX u.nx A.nx),λk o hk p=>by
  have:=σ.wf _ _ hk;have:=x.nx;exact A.ob _ _ (u.ob _ _ (I.kp.ob _ _ hk p) (HB fl (by assumption))) (by lia)⟩
 refine pu (n:=n+127) (N:=σ.nx) s2 hc ⟨⟨dr,X⟩,U,⟨H,by rw[htc];exact V⟩,v,Xl f.i1 n7,j.i1⟩ Q ⟨a5,by have:=x.nx;exact Z33 this a4⟩ htc λt fz a0 st a9 m a1=>?_;exact q t Y r l ir L k O fz ts a0 M st I.ev (yf kc a9 (Xy _)) m a1 htc
theorem Ez (h:St σ W s bx c e) (hc:c<80000) (hz:cs.length≤900) (q:pQ σ W s bx (c+2) e cs K):Ph (n+129) 0 871 [.ref W,.ref bx,.str (zs cs)] σ K KE:=by
 refine dh (φ:=fX 3 [] [some 1,some 2,none,none,none] [some 0] vW) rfl rfl ⟨rfl,?_⟩;have C:bC σ (σ.new (.cell (some (.ref W)))):=Kp.refl.new;have l:(σ.new (.cell (some (.ref W)))).ob σ.nx=some (.cell (some (.ref W))):=ac;have u:=h.ext C;change vW (Ph (n+128)) ⟨[some (.ref bx),some (.str (zs cs)),none,none,none],[σ.nx],[]⟩ (σ.new (.cell (some (.ref W)))) (bp K) KE;generalize (σ.new (.cell (some (.ref W))))=σ1 at C l u ⊢;generalize σ.nx=k0 at l ⊢;refine⟨by show cs.toArray.size≤10000;rw[Xq];exact Z1 hz,?_⟩;show bS (.str (zs cs)) _ _ cs.toArray.size 0 [] _;rw[Xq];refine uR (n:=n+1) (λi a B w m y=>?_) u.st l;refine p_l rfl ?_;have k:=(u.trans w).new (o:=.list (tx i));have p:=ac (σ:=a) (o:=.list (tx i));have j:=ae (o:=.list (tx i)) (w.kp.ob _ _ l ⟨rfl,u.st.ne l rfl⟩);have b:=y.up (σ':=a.new (.list (tx i))) (n':=B.n) (bC.to Kp.refl.new) (XS _);have A:a.nx≠bx:=λG=>by
  refine mG w.st.b.ob λg L J z D=>?_;have:=a.wf _ _ D;exact Z36 G this
 change lD _ _ _ _ (Ph (n+128)) ⟨[some (.ref bx),some (.str (zs cs)),some (.ref a.nx),none,none],[k0],[]⟩ (a.new (.list (tx i))) (bp K) KE;generalize (a.new (.list (tx i)))=σ3 at k p j b ⊢;generalize a.nx=lI at p A ⊢;refine k.st.tk (n:=n+127) (cS hc) (by decide) (by decide) λr v Z Z f=>?_;have d:jf v B.n i:=λt H=>by
  obtain⟨F,o3,E,I⟩:=b t H;exact⟨F,o3,E,(k.st.snl f.kp).ob _ _ I ⟨rfl,rfl⟩⟩
 have x:=q.pre (k.trans f);rw[show c+2=c+1+1 by lia]at x;refine bW (λh=>?_) λh=>?_
 ·exact xT (n:=n) (K':=bp K) f.st (fp hc) hz ((k.st.snl f.kp).ob _ _ j ⟨rfl,rfl⟩) (f.kp.ob _ _ p ⟨rfl,A⟩) d m x
 ·exact xl (n:=n) (K':=bp K) f.st (fp hc) hz ((k.st.snl f.kp).ob _ _ j ⟨rfl,rfl⟩) (f.kp.ob _ _ p ⟨rfl,A⟩) d m x
variable {vs:List Value} {W':ft}
def Nu:AS:=ay (.l 3) (eK (aV 3) [bF .Eq (aV 4) (aI 0)]) (ay (.l 2) (ap .Mod (ap .Add (ap .Add (ap .Mult (aV 2) (aI 48271)) (ap .Mult (aV 4) (aI 69621))) (aI 31)) (aI 2147483629)) (aw (bO [ai .Eq (aV 1) (aI 0),ai .GtE (bH fc (aa (aV 4) ab)) (ap .Pow (aI 10) (aI 18))]) (ay (.l 1) (bH fc (aa (aV 4) ab)) aF) aF))
theorem qZ {sd cell:Int} {K:ft} (g0:0≤g) (q:∀g' s' b',0≤g'->0≤s'->s'<2147483629->K .next ⟨[a0,some (.int g'),some (.int s'),some (.bool b'),some (.int cell)],[],[]⟩ σ):Nu Φ ⟨[a0,some (.int g),some (.int sd),some (.bool b),some (.int cell)],[],[]⟩ σ K KE:=by
 have A:∀b',ay (.l 2) (ap .Mod (ap .Add (ap .Add (ap .Mult (aV 2) (aI 48271)) (ap .Mult (aV 4) (aI 69621))) (aI 31)) (aI 2147483629)) (aw (bO [ai .Eq (aV 1) (aI 0),ai .GtE (bH fc (aa (aV 4) ab)) (ap .Pow (aI 10) (aI 18))]) (ay (.l 1) (bH fc (aa (aV 4) ab)) aF) aF) Φ ⟨[a0,some (.int g),some (.int sd),some (.bool b'),some (.int cell)],[],[]⟩ σ K KE:=λb'=>by
  have a:0≤(sd*48271+cell*69621+31) % 2147483629:=YN _ (by decide);have c:(sd*48271+cell*69621+31) % 2147483629<2147483629:=Yw _ (by decide);refine(gc (.of_right (by decide)) (.of_right (by decide)) (by decide) ?_);generalize (sd*48271+cell*69621+31) % 2147483629=sd' at a c ⊢;refine bW (λh=>⟨gc (by decide) (by decide) (by decide) (by decide),bW (λd=>?_) λd=>?_⟩) λh=>?_
  ·exact q (if cell<0 then -cell else cell) sd' b' (by split<;>omega) a c
  ·exact q g sd' b' g0 a c
  ·exact q g sd' b' g0 a c
 cases b
 ·exact A false
 ·exact A (decide (cell=0))
theorem sf (hl':σ.ob l=some (.list (is.map .int))) (q:∀g sd b a4,0≤g->0≤sd->sd<2147483629->W' .next ⟨[a0,some (.int g),some (.int sd),some (.bool b),a4],[],[]⟩ σ):∀m i g sd b a4,i+m=(is.map SV.int).length->0≤g->0≤sd->sd<2147483629->nH (.list l (is.map SV.int).length) (Tg.put (.l 4)) (λfr σ K=>Nu Φ fr σ K pZ) W' m i ⟨[a0,some (.int g),some (.int sd),some (.bool b),a4],[],[]⟩ σ:=by
 intro m
 induction m with
 |zero=>exactλi g sd b a4 c a e d=>⟨ao hl' rfl,q g sd b a4 a e d⟩
 |succ m ih=>
  intro i g sd b a4 c a e d;have k:i<is.length:=by rw[W0]at c;exact Hw c
  refine⟨ao hl' rfl,ao hl' ⟨.int is[i],by rw[Xd,Xf k];rfl,p_l rfl (qZ a λf j h a e d=>?_)⟩⟩;exact ih (i+1) f j h _ (vX c) a e d
theorem O9 (hs:σ.ob k=some (.raw (is.map .int) vs)) (hlen:is.length≤63) (q:∀bx e σ',bC σ σ'->Bc σ' bx 0 e->K (.ref bx) σ'):Ph (n+1) 0 859 [.ref k] σ K KE:=by
 refine aK (k:=1) (d:=[]) (r:=4) (m:=GT) rfl rfl rfl ⟨bl rfl,t_ ac rfl ?_⟩;have o:bC σ (σ.new (.tup [.int 0,.int 29,.bool true])):=Kp.refl.new;have f:(is.map SV.int).length≤1000000:=by rw[W0];exact Z1 hlen
 refine ao (o.ob _ _ hs trivial) ⟨f,⟨by decide,?_⟩⟩;have p:(is.map SV.int).take (63:Int).toNat=is.map .int:=Yq (by rw[W0];exact hlen);rw[p];refine ao ac ?_;refine sf (l:=(σ.new (.tup [.int 0,.int 29,.bool true])).nx) (a0:=some (.ref k)) ac (λg j b v s u t=>?_) _ 0 0 29 true none (X9 _) (by decide) (by decide) (by decide);have i:bC σ ((σ.new (.tup [.int 0,.int 29,.bool true])).new (.list (is.map .int))):=o.new;generalize ((σ.new (.tup [.int 0,.int 29,.bool true])).new (.list (is.map .int)))=σ2 at i ⊢;have a:=i.ob _ _ hs trivial;have c:∀z,K (.ref σ2.nx) (σ2.new (.list [.int g,.int j,.int 0,.bool b,.int z])):=λz=>q _ b _ i.new (yx g j 0 z ⟨ac,s,u,t,by decide⟩ (by decide));refine ao a ⟨f,bW (λh=>?_) λh=>⟨bl rfl,c 0⟩⟩;rw[W0]at h;refine ao a ⟨⟨by rw[W0];lia,by decide⟩,.int (is[is.length - 1]'(S7 hlen h)),?_,bl rfl,c _⟩;rw[W0,Xd,show((-1:Int)+(is.length:Nat)).toNat=is.length - 1 by lia,Xf (S7 hlen h)];rfl
noncomputable abbrev V9:List SV:=[.str "a",.str "b",.str "\n",.str ⟨#[233]⟩,.str ⟨#[128512]⟩]
theorem uI (q:K (.ref σ.nx) (σ.new (.list V9))):Ph (n+1) 0 852 [] σ K KE:=aK (k:=0) (d:=[]) (r:=0) (m:=F2) rfl rfl rfl (gc ⟨by decide,by decide⟩ ⟨by decide,by decide⟩ (bl rfl) q)
theorem xM:("a":Str)=zs [97]∧("b":Str)=zs [98]∧("\n":Str)=zs [10]∧("abc":Str)=zs [97,98,99]:=⟨by kernel_rfl,by kernel_rfl,by kernel_rfl,by kernel_rfl⟩
theorem PC (h0:0≤i) (h1:i<5):∃c,V9[i.toNat]?=some (.str (zs [c]))∧c<1114112:=by
 have:i=0∨i=1∨i=2∨i=3∨i=4:=by lia
 rcases this with rfl|rfl|rfl|rfl|rfl
 ·exact(bv 97 (by rw[←xM.1];rfl) (by decide))
 ·exact(bv 98 (by rw[←xM.2.1];rfl) (by decide))
 ·exact(bv 10 (by rw[←xM.2.2.1];rfl) (by decide))
 ·exact(bv 233 rfl (by decide))
 ·exact(bv 128512 rfl (by decide))
theorem uT (hN:N≤50) (h:St σ W s bx c e) (hc:c<60000) (c0:σ.ob k0=some (.cell (some (.ref bx)))) (q:∀(cs:List Nat) σ',cs.length=N->(∀c∈cs,c<1114112)->Go σ σ' W s s bx (c+N) e->KC (cs.map λc=>.str (zs [c])) σ'):bS (.rng N) (kY (cB (ax (ag 852 ab) (ag 866 (aa (aC 0) (aa (aI 5) ab))))) (Ph (n+1)) ⟨loc,[k0],cv⟩) KC N 0 [] σ:=by
 have B:∀(m i:Nat) (cs:List Nat) a,i+m=N->cs.length=i->(∀c∈cs,c<1114112)->Go σ a W s s bx (c+i) e->bS (.rng N) (kY (cB (ax (ag 852 ab) (ag 866 (aa (aC 0) (aa (aI 5) ab))))) (Ph (n+1)) ⟨loc,[k0],cv⟩) KC m i (cs.map λc=>.str (zs [c])) a:=by
  intro m
  induction m with
  |zero=>
   intro i cs a f b t g;have:i=N:=by exact Z15 f
   subst this;exact⟨trivial,q cs a b t g⟩
  |succ m ih=>
   intro i cs a f b t g;refine⟨trivial,uI ?_⟩;have d:=g.new (o:=.list V9);have y:a.nx≠bx:=λA=>by
    refine mG g.st.b.ob λg D C z w=>?_;have:=a.wf _ _ w;exact Z36 A this
   refine c_ rfl (d.kp.ob _ _ c0 ⟨rfl,h.ne c0 rfl⟩) (d.st.tk (by lia) (by decide) (by decide) λr k l u v=>ao (v.kp.ob _ _ (ac (σ:=a) (o:=.list V9)) ⟨rfl,y⟩) ?_);show bI (decide (r<0)) _ _;rw[Xo (hO l)];refine bn (PC l u) λx j p=>?_;refine⟨⟨l,by exact cS u⟩,_,j,?_⟩;have:=ih (i+1) (cs++[x]) k (vX f) (by rw[Yb,b];rfl) (λc h=>(W6.mp h).elim (t c) λh=>by cases XA.mp h;exact p) ((d.trans v).ge (by lia));rw[Xa]at this;exact this
 exact B N 0 [] σ (X9 _) rfl (λZ h=>nomatch h) ((Go.refl h).ge (qb))
end
structure Lp (σ:Sg) (W:Nat) (s:Ws) (bx:Nat) (c:Int) (e:Bool) (N rk tk li:Nat) (ir it:Int) (oR oT:Nat) (fz:Bool) (ts:List Ti) (xs:List SV) (vs:List Value):Prop where
 st:St σ W s bx c e
 ho:uu σ s.n rk tk li ir it oR oT fz ts
 cN:σ.ob N=some (.cell (some (.ref bx)))
 raw:σ.ob 2=some (.raw xs vs)
 nl:li≠bx
def Fx:AS:=gF [.l 7,.l 8] (ag 899 (aa (aV 1) (aa (aC 0) (aa (aV 5) (aa (aV 6) ab))))) (ay (.l 9) (ag 911 (aa (aV 5) (aa (aV 8) ab))) (aw (cF (aP (ag 925 (aa (aV 1) (aa (aV 5) (aa (aV 7) (aa (aV 8) (aa (aV 9) ab)))))))) (aq (aB false)) (aw (cF (aP (ag 935 (aa (aV 1) (aa (aV 3) (aa (aV 4) (aa (aV 7) (aa (aV 8) (aa (aV 9) (aa (aB false) ab)))))))))) (aq (aB false)) (aw (cF (aP (ag 935 (aa (aV 1) (aa (am (aV 1) 51 (aa (aj (aV 3) 7) ab)) (aa (am (aV 1) 6 (aa (aV 2) ab)) (aa (aV 7) (aa (aV 8) (aa (aV 9) (aa (aB true) ab)))))))))) (aq (aB false)) aF))))
section
variable {σ σ' σ1 σ0:Sg} {W:Nat} {s s' s1:Ws} {n C:Nat} {K:KV} {KE:KX} {z nm msg:Str} {k o l a li ow kT P j pl N lb lg hl bx rk tk oR oT:Nat} {i f c c' m g nn mk lo hi ir it tn:Int} {fz b e:Bool} {v u w x:SV} {xs:List SV} {r t:Nat} {p:Pl} {cs ds d:List Nat} {ts:List Ti} {is:List Int} {vs:List Value} {Φ:Nat->eL} {a0 a1 a2 a3 a4 a5 a6 a7 a8 a9:Option SV} {W' K':ft} {KC:List SV->Sg->Prop} {k0:Nat} {loc:List (Option SV)} {cv:List SV}
theorem Lp.go (h:Lp σ W s bx c e N rk tk li ir it oR oT fz ts xs vs) (g:Go σ σ' W s s' bx c' e):Lp σ' W s' bx c' e N rk tk li ir it oR oT fz ts xs vs:=by
 have a:=h.st.snl g.kp;obtain⟨i,k⟩:=h.ho.r;obtain⟨f,b⟩:=h.ho.t;exact⟨g.st,⟨⟨i,a.ob _ _ k ⟨rfl,rfl⟩⟩,g.kp.ob _ _ h.ho.l ⟨rfl,h.nl⟩,⟨f,a.ob _ _ b ⟨rfl,rfl⟩⟩,λt b=>by
  obtain⟨j,o,d,l⟩:=h.ho.its t b;exact⟨Xl j g.ev.n,o,d,a.ob _ _ l ⟨rfl,rfl⟩⟩,Xl h.ho.n.1 g.ev.n,Xl h.ho.n.2 g.ev.n⟩,a.ob _ _ h.cN ⟨rfl,rfl⟩,a.ob _ _ h.raw ⟨rfl,rfl⟩,h.nl⟩
variable {fr:cf}
theorem nX {i j:Nat} {K:cf->Sg->Prop} (h1:Nat.blt i fr.loc.length=true) (h2:Nat.blt j (fr.put i v).loc.length=true) (q:K ((fr.put i v).put j w) σ):kR [Tg.l i,Tg.l j] [v,w] fr σ K:=by
 show bI (Nat.blt i fr.loc.length) (bI (Nat.blt j (fr.put i v).loc.length) (K ((fr.put i v).put j w) σ) False) False;rw[h1,h2];exact q
theorem E5 {A B:Prop} (q:B):jF (.bool true) (λb=>bI (!b) A B):=q
theorem Pc {K:ft} (q:K .next fr σ):aF Φ fr σ K KE:=q
theorem FW (h:Lp σ W s bx c e N rk tk li ir it oR oT fz ts xs vs) (hc:c<60000) (hts:ts.length≤50) (htc:tc ts=cs) (q:∀σ' s' a7 a8 a9,Lp σ' W s' bx (c+20) e N rk tk li ir it oR oT fz ts xs vs->K' .next ⟨[some (.ref 2),some (.ref W),some (.str (zs cs)),some (.ref rk),some (.ref tk),some (.int ts.length),some (.int tn),a7,a8,a9],[N],[]⟩ σ'):Fx (Ph (n+150)) ⟨[some (.ref 2),some (.ref W),some (.str (zs cs)),some (.ref rk),some (.ref tk),some (.int ts.length),some (.int tn),a7,a8,a9],[N],[]⟩ σ K' KE:=by
 subst htc;refine c_ rfl h.cN (Us (n:=n+17) h.st (cS hc) (EC hts) λt hl pl p a4 s1 g1 U hh z=>t_ U rfl (nX rfl rfl (dQ rfl ?_)));refine OD (n:=n+148) (EC hts) z λv a0 B V=>?_;have I:=(h.go g1).go ((h.go g1).st.ext B);refine Xav (n:=n+10) I.st.w (E6 hts) (hh.up B.to) (z.up B.to) V λO s3 D=>E5 ?_;have w:=I.go (I.st.po D);refine yD (n:=n+10) (b:=false) w.st.w w.ho.r w.ho.l w.ho.t (Z1 hts) nofun w.ho.its w.ho.n ((hh.up B.to).up D.kp) ((z.up B.to).up D.kp) ((V.up D.kp).dx λl Z q=>nomatch q) nofun λa s4 T Y k4=>E5 ?_;have J:Po O a W s3 s4:=⟨T,Y,k4.mono λZ Z Z h=>⟨h,nofun⟩⟩;have F:=w.go (w.st.po J);have m:=((hh.up B.to).up D.kp).up J.kp;obtain⟨dr,K⟩:=F.ho.r;refine T.me rfl rfl (g_ K rfl rfl (iy (n:=n+23) T F.ho.l (by rw[dA];exact Z1 hts) λk i o l' a3 s5 g C a2 Q=>?_));refine g.p.wd.me rfl rfl (fS (n:=n+23) g.p.wd λk2 i2 o2 X s6 u a1 t6=>?_);have f:=g.p.trans u.p;have A:=F.ho.its;have G:=Q.up u.p.kp;have E:a.nx≤k2:=WX g.p.kp.nx u.fr;have M:=m.up f.kp;have P:hl<a.nx:=by
  cases p with
  |one i=>exact a.wf _ _ m
  |two i c=>exact a.wf _ _ m
  |rng x y b=>refine bn m λk h r=>?_;exact a.wf _ _ h
  |odd j=>
   obtain⟨hj,⟨x,h,h7,o⟩|h⟩:=m
   ·exact a.wf _ _ h
   ·cases h with
    |b h o=>exact a.wf _ _ h
    |c h o=>exact a.wf _ _ h
    |d h r e o=>exact a.wf _ _ h
 have R:oz (λl=>true=true->l≠l') X v ts.length p:=oz.up (((V.up D.kp).up J.kp).dx λl I Z=>by exact HB C I) f.kp;refine yD (n:=n+10) (b:=true) f.wd G.1 G.2 t6 (Z1 hts) (λZ=>rfl) (A.up f.kp f.ev.n) ⟨Xl g.i1 u.p.ev.n,u.i1⟩ M ((((z.up B.to).up D.kp).up J.kp).up f.kp) R (λZ=>⟨by exact HB C P,λt U=>by
  obtain⟨_,o3,d3,w⟩:=A t U;have:=a.wf _ _ w;exact HB E this⟩) λH s7 w7 L k7=>E5 (Pc ?_)
 have S:Po a H W s4 s7:=⟨w7,f.ev.trans L,WX f.kp.nx k7.nx,λk o hk st=>k7.ob _ _ (f.kp.ob _ _ hk st) ⟨st,λZ=>by
  have:=a.wf _ _ hk;exact⟨by exact HB C this,by exact HB E this⟩⟩⟩
 exact q H s7 _ _ _ (F.go (F.st.po S))
theorem Mq {M i:Nat} {K:SV->Prop} (q:K (.int i)):(kU.rng M).at σ i K:=q
theorem sQ {M:Nat} (hts:ts.length≤50) (htc:tc ts=cs) (q:∀c σ' s' a6 a7 a8 a9,Lp σ' W s' bx c e N rk tk li ir it oR oT fz ts xs vs->W' .next ⟨[some (.ref 2),some (.ref W),some (.str (zs cs)),some (.ref rk),some (.ref tk),some (.int ts.length),a6,a7,a8,a9],[N],[]⟩ σ'):∀(m i:Nat) (c:Int) σ s a6 a7 a8 a9,i+m=M->c+20*m<50000->Lp σ W s bx c e N rk tk li ir it oR oT fz ts xs vs->nH (.rng M) (Tg.put (.l 6)) (λfr σ K=>Fx (Ph (n+150)) fr σ K pZ) W' m i ⟨[some (.ref 2),some (.ref W),some (.str (zs cs)),some (.ref rk),some (.ref tk),some (.int ts.length),a6,a7,a8,a9],[N],[]⟩ σ:=by
 intro m
 induction m with
 |zero=>exactλi c σ s a6 a7 a8 a9 a d h=>⟨trivial,q c σ s a6 a7 a8 a9 h⟩
 |succ m ih=>
  intro i c σ s a6 a7 a8 a9 a d h;refine⟨trivial,Mq (p_l rfl ?_)⟩;refine FW (n:=n) h (by lia) hts htc λσ' s' a7 a8 a9 b=>?_;exact ih (i+1) (c+20) σ' s' _ a7 a8 a9 (vX a) (by lia) b
theorem l5:mA (cs.map λc=>SV.str (zs [c]))=some (cs.map λc=>PyData.str (zs [c])):=by
 induction cs with
 |nil=>rfl
 |cons i is ih=>
  show((um (.str (zs [i]))).bind λd=>(mA (is.map λc=>SV.str (zs [c]))).map (d::·))=_;rw[ih];rfl
theorem vp (hv:∀c∈cs,c<1114112):SeqAt.shaped (.list (cs.map λc=>PyData.str (zs [c])))=true:=by
 have a:PyData.canLayAll0 (cs.map λc=>PyData.str (zs [c]))=true:=by
  induction cs with
  |nil=>simp[PyData.canLayAll0]
  |cons i is ih=>
   rw[W4];simp[PyData.canLayAll0,PyData.canLay0];refine⟨?_,ih λc h=>hv c (.tail _ h)⟩;have:=hv i (.head _);show(#[i]:Array Nat).all (·<0x110000)=true;simp[this]
 have b:PyData.depthAll (cs.map λc=>PyData.str (zs [c]))=0:=by
  clear a hv
  induction cs with
  |nil=>simp[PyData.depthAll]
  |cons i is ih=>
   rw[W4];simp[PyData.depthAll,PyData.depth];exact ih
 simp[SeqAt.shaped,PyData.canLay0,PyData.depth,a,b]
theorem He (h:Lp σ W s bx c e N rk tk li ir it oR oT fz ts xs vs) (hts:ts.length≤50) (htc:tc ts=cs) (hv:∀c∈cs,c<1114112) (q:∀σ',bC σ σ'->K (.bool true) σ'):aq (bF .Eq (bP (aj (aV 3) 7) (cB (aj aX 6))) (bH dG (aa (aV 2) ab))) Φ ⟨[a0,a1,some (.str (zs cs)),some (.ref rk),a4,a5,a6,a7,a8,a9],[N],[]⟩ σ (bp K) KE:=by
 subst htc;obtain⟨n,l⟩:=h.ho.r;refine g_ l rfl rfl (ao h.ho.l ⟨by show(tx ts).length≤10000;rw[dA];exact Z1 hts,?_⟩);refine hR (os:=(tc ts).map λc=>.str (zs [c])) h.ho.l (by rw[W0,cL,dA]) (λi x o b f r p g=>?_) ?_
 ·unfold tx at b
  unfold tc at f;rw[Yp,Xd,W8]at f;rw[Xd,W8]at b;obtain⟨t,j,rfl⟩:=f;obtain⟨m,a,rfl⟩:=b;rw[j]at a;cases a;obtain⟨_,o,d,k⟩:=h.ho.its t (X0 j);exact g_ k rfl rfl g
 ·refine .inr (.inl ⟨by rw[de,cL];exact Z1 hts,?_⟩)
  exact t8 (.list _ _ _ rfl (ae ac) l5) (.list _ _ _ rfl ac l5) (vp hv) (q _ Kp.refl.new.new)
def y9:AS:=mj (bH bD (aa (aO (aP (ax (aC 0) (aI 3))) (aI 6) (ap .Add (aI 6) (ap .Mult (aI 3) (bH fi (aa (aI 6) (aa (bH aZ (aa (aV 0) ab)) ab)))))) ab)) (Tg.put (.l 6)) Fx (aq (bF .Eq (bP (aj (aV 3) 7) (cB (aj aX 6))) (bH dG (aa (aV 2) ab))))
def yO:AS:=gF [.l 3,.l 4] (ag 871 (aa (aV 1) (aa (aC 0) (aa (aV 2) ab)))) (ay (.l 5) (bH aZ (aa (aV 2) ab)) y9)
def P3:AS:=ay (.l 2) (aO (aP (ax (aC 0) (aI 3))) (aS "abc") (kW gQ dw (aS "") (aa (bP (bH bD (aa (ag 866 (aa (aC 0) (aa (aI 13) ab))) ab)) (cB (ax (ag 852 ab) (ag 866 (aa (aC 0) (aa (aI 5) ab)))))) ab))) yO
theorem NX {o:Option SV} {K:Option SV->Prop} (q:K o):jc (.cell o) K:=q
theorem xo {i:Nat} {K:cf->Sg->Prop} (h1:Nat.blt i fr.loc.length=true) (q:K (fr.put i v) σ):kR [Tg.l i] [v] fr σ K:=by
 show bI (Nat.blt i fr.loc.length) (K (fr.put i v) σ) False;rw[h1];exact q
theorem D2 (h:Lp σ W s bx c e N rk tk li ir it oR oT fz ts xs vs) (hx:xs.length≤100) (hc:c<1000) (hts:ts.length≤50) (htc:tc ts=cs) (hv:∀c∈cs,c<1114112) (q:∀σ' s',Wv σ' W s'->σ'.ob 2=some (.raw xs vs)->K (.bool true) σ'):y9 (Ph (n+150)) ⟨[some (.ref 2),some (.ref W),some (.str (zs cs)),some (.ref rk),some (.ref tk),some (.int ts.length),none,none,none,none],[N],[]⟩ σ (bp K) KE:=by
 have j:∀b:KV,(∀M:Int,0≤M->M≤24->b (.int M) σ)->aO (aP (ax (aC 0) (aI 3))) (aI 6) (ap .Add (aI 6) (ap .Mult (aI 3) (bH fi (aa (aI 6) (aa (bH aZ (aa (aV 0) ab)) ab))))) (Ph (n+150)) ⟨[some (.ref 2),some (.ref W),some (.str (zs cs)),some (.ref rk),some (.ref tk),some (.int ts.length),none,none,none,none],[N],[]⟩ σ b KE:=λb q=>by
  refine mG h.st.b.ob λg s' p z i=>?_;refine c_ rfl h.cN (i_ i rfl ?_);cases e with
  |true=>exact q 6 (by decide) (by decide)
  |false=>
   refine ao h.raw (eQ (Z1 hx) (.of_left (by decide)) (q _ ?_ ?_))<;>(have:∀L:Int,0≤L->0≤6+3*(if L<6 then L else 6)∧6+3*(if L<6 then L else 6)≤24:=λL r=>by split<;>lia)
   ·exact(this _ (Yl _)).1
   ·exact(this _ (Yl _)).2
 refine j _ λM m k=>?_;refine ao ac ⟨eQ rfl m (vc k),?_⟩;have l:bC σ (σ.new (.rng 0 M)):=Kp.refl.new;refine sQ (n:=n) hts htc (λc σ' s' v o u t d=>?_) M.toNat 0 c _ s none none none none (X9 _) (by lia) (h.go (h.st.ext l));exact He d hts htc hv λa f=>q a s' (d.st.w.up f) (f.ob _ _ d.raw trivial)
theorem B9 (h:St σ W s bx c e) (cN:σ.ob N=some (.cell (some (.ref bx)))) (raw:σ.ob 2=some (.raw xs vs)) (hx:xs.length≤100) (hc:c<900) (hz:cs.length≤50) (hv:∀c∈cs,c<1114112) (q:∀σ' s',Wv σ' W s'->σ'.ob 2=some (.raw xs vs)->K (.bool true) σ'):yO (Ph (n+150)) ⟨[some (.ref 2),some (.ref W),some (.str (zs cs)),none,none,none,none,none,none,none],[N],[]⟩ σ (bp K) KE:=by
 refine c_ rfl cN (Ez (n:=n+21) h (cS hc) (Z1 hz) λt y v k p r x u o d i E f B D C l b=>t_ C rfl (nX rfl rfl (dQ rfl ?_)));have j:=h.snl D;have w:k≠bx:=λA=>by
  refine mG f.b.ob λg s' F z m=>?_;have a:=l.l;rw[A,m]at a;have a:=W7 a;injection a with a;unfold tx at a;cases d with
  |nil=>exact nCN a
  |cons t d=>cases a
 refine⟨by rw[de];exact Z1 hz,?_⟩;rw[(by rw[de,←b,cL]:((zs cs).length:Int)=d.length)];exact D2 (⟨f,l,j.ob _ _ cN ⟨rfl,rfl⟩,j.ob _ _ raw ⟨rfl,rfl⟩,w⟩:Lp i W E bx (c+2) e N y v k p r x u o d xs vs) hx (fp hc) (by rw[←cL,b];exact hz:d.length≤50) b hv q
theorem GF (h:St σ W s bx c e) (cN:σ.ob N=some (.cell (some (.ref bx)))) (raw:σ.ob 2=some (.raw xs vs)) (hx:xs.length≤100) (hc:c<800) (q:∀σ' s',Wv σ' W s'->σ'.ob 2=some (.raw xs vs)->K (.bool true) σ'):P3 (Ph (n+150)) ⟨[some (.ref 2),some (.ref W),none,none,none,none,none,none,none,none],[N],[]⟩ σ (bp K) KE:=by
 have m:∀d:KV,(∀(cs:List Nat) σ',cs.length≤50->(∀c∈cs,c<1114112)->Go σ σ' W s s bx (c+20) e->d (.str (zs cs)) σ')->aO (aP (ax (aC 0) (aI 3))) (aS "abc") (kW gQ dw (aS "") (aa (bP (bH bD (aa (ag 866 (aa (aC 0) (aa (aI 13) ab))) ab)) (cB (ax (ag 852 ab) (ag 866 (aa (aC 0) (aa (aI 5) ab)))))) ab)) (Ph (n+150)) ⟨[some (.ref 2),some (.ref W),none,none,none,none,none,none,none,none],[N],[]⟩ σ d KE:=λd q=>by
  refine mG h.b.ob λg s' v z l=>?_;refine c_ rfl cN (i_ l rfl ?_);cases e with
  |true=>
   have:=q [97,98,99] σ (by decide) (by decide) ((Go.refl h).ge (qb));rw[←xM.2.2.2]at this;exact this
  |false=>
   refine⟨trivial,c_ rfl cN (h.tk (n:=n+149) (cS hc) (by decide) (by decide) λr i t k a=>?_)⟩;refine ao ac (eQ (eQ rfl t (by lia)) (by show r.toNat≤10000;exact QZ k) ?_);refine uT (n:=n+149) (QZ k) (a.new (o:=.rng 0 r)).st (fp hc) ((a.new (o:=.rng 0 r)).kp.ob _ _ cN ⟨rfl,h.ne cN rfl⟩) λcs p b f u=>?_;dsimp only[ab];refine nh (cs:=cs) ac (by lia) ?_;exact q cs _ (by lia) f ((((a.new (o:=.rng 0 r)).trans u).new (o:=.list (cs.map λc=>.str (zs [c])))).ge (by lia))
 refine dQ rfl ?_;refine m _ λcs i b f a=>?_;have j:=h.snl a.kp;exact B9 a.st (j.ob _ _ cN ⟨rfl,rfl⟩) (j.ob _ _ raw ⟨rfl,rfl⟩) hx (fp hc) b f q
theorem H8 (h0:σ.ob 0=some (.ctab 920 [])) (h1:σ.ob 1=some (.ctab 932 [])) (h2:σ.ob 2=some (.raw (is.map .int) vs)) (hlen:is.length≤63) (q:∀σ' W s',Wv σ' W s'->σ'.ob 2=some (.raw (is.map .int) vs)->K (.bool true) σ'):Ph (n+151) 0 940 [.ref 2] σ K KE:=by
 refine dh (φ:=fX 1 [] [some 0,none,none,none,none,none,none,none,none,none] [none] xI) rfl rfl ⟨rfl,?_⟩;have u:bC σ (σ.new (.cell none)):=Kp.refl.new;have m:(σ.new (.cell none)).ob σ.nx=some (.cell none):=ac;change xI (Ph (n+150)) ⟨[some (.ref 2),none,none,none,none,none,none,none,none,none],[σ.nx],[]⟩ (σ.new (.cell none)) (bp K) KE;generalize (σ.new (.cell none))=σ1 at u m ⊢;generalize σ.nx=N at m ⊢;refine O9 (n:=n+149) (u.ob _ _ h2 trivial) hlen λd e a v D=>?_;have j:=u.trans v;have k:bC a ((a.new .dic0).new (.inst 834 [])):=Kp.refl.new.new;have l:((a.new .dic0).new (.inst 834 [])).ob (a.new .dic0).nx=some (.inst 834 []):=ac;refine wz (n:=n+149) (Gf (n:=n+21) (ae ac:((a.new .dic0).new (.inst 834 [])).ob a.nx=some .dic0) l ⟨bv ([]) ((j.trans k).ob _ _ h0 trivial) (λZ h=>nomatch h),bv ([]) ((j.trans k).ob _ _ h1 trivial) (λZ h=>nomatch h)⟩ λb F A E o=>(eQ rfl (bl rfl) ?_));generalize (a.new .dic0).nx=W at l A o ⊢;have y:=D.up k λZ=>trivial;have t:d≠W:=λC=>by
  refine mG y.ob λg s' H z x=>?_;rw[C,l]at x;cases x
 have f:=(j.trans k).ob _ _ h2 trivial;have p:St b W F d 0 e:=⟨A,E,(y.up o λG=>⟨rfl,t⟩)⟩;have s:bC b (b.new (.tup [.ref d,.ref W])):=Kp.refl.new;have c:=s.ob _ _ (o.ob _ _ (k.ob _ _ (v.ob _ _ m trivial) trivial) ⟨rfl,bG (k.ob _ _ (v.ob _ _ m trivial) trivial) l rfl⟩) trivial;have i:=s.ob _ _ (o.ob _ _ f ⟨rfl,bG f l rfl⟩) trivial;refine t_ ac rfl ⟨_,rfl,ao c (NX (xo rfl ?_))⟩;have B:dB N (b.new (.tup [.ref d,.ref W])) ((b.new (.tup [.ref d,.ref W])).set N (.cell (some (.ref d)))):=Kp.refl.set λZ Z h=>h rfl;exact GF ((p.ext s).st.but B c rfl rfl rfl rfl) (aE c:((b.new (.tup [.ref d,.ref W])).set N (.cell (some (.ref d)))).ob N=some (.cell (some (.ref d)))) (B.ob _ _ i (bG i c rfl)) (by rw[W0];exact Z1 hlen) (by decide) λσ' s' w r=>q σ' W s' w r
theorem HG:PySem.Challenge.rw_sm0031_01.Holds:=Xfp λd vs a=>H8 (n:=349) rfl rfl rfl a λb W c w r=>⟨rfl,let ⟨es,h,_⟩:=w.tb.1;⟨es,h⟩,let ⟨es,h,_⟩:=w.tb.2;⟨es,h⟩,r⟩
end
end Mine
theorem PySem.Challenge.cw_sm0031_01_holds : PySem.Challenge.rw_sm0031_01.Holds :=
  Mine.HG
