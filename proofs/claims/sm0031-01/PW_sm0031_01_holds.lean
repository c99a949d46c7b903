import PyProof.Rows.All
import Wide.All
import OpenK.AllK
import Wide.FinOn
import KE.KTab
import KE.KIsNot
import KE.KTryDeep
import KE.KLam
import KE.KAnyBase
import PyProof.DictRoadsH
import PyProof.Rows.EqMixed
import KE.KDictList
import KE.KPar
import KE.KNestM
import Lean
import PySem.Challenge.RW_sm0031_01
set_option Elab.async false
set_option maxRecDepth 100000
set_option maxHeartbeats 0
set_option linter.all false
set_option genSizeOf false
set_option genInjectivity false
set_option tactic.hygienic false
set_option bootstrap.genMatcherCode false
namespace Mine
abbrev WU:=@Bool.and_eq_true
abbrev WV:=@PySem.wpAny_bind
abbrev WW:=@List.mem_append_right
abbrev WX:=@Nat.le_trans
abbrev WY:=@List.mem_cons
abbrev WZ:=@List.all_eq_true
abbrev W0:=@List.length_map
abbrev W1:=@PySem.wpAny_pure
abbrev W2:=@List.nodup_cons
abbrev W3:=@List.mem_append_left
abbrev W4:=@List.map_cons
abbrev W5:=@of_decide_eq_true
abbrev W6:=@List.mem_append
abbrev W7:=@Option.some.inj
abbrev W8:=@Option.map_eq_some_iff
abbrev W9:=@Nat.eq_of_beq_eq_true
abbrev Xa:=@List.map_append
abbrev Xb:=@List.mem_map
abbrev Xd:=@List.getElem?_map
abbrev Xe:=@PySem.Heap.lt_size
abbrev Xf:=@List.getElem?_eq_getElem
abbrev Xh:=@if_neg
abbrev Xi:=@Nat.lt_of_lt_of_le
abbrev Xj:=@Bool.not_eq_true'
abbrev Xk:=@List.lookup_cons
abbrev Xl:=@Int.le_trans
abbrev Xm:=@List.mem_map_of_mem
abbrev Xn:=@if_pos
abbrev Xo:=@decide_eq_false
abbrev Xp:=@PySem.Heap.get?_push_of_some
abbrev Xq:=@List.size_toArray
abbrev Xr:=@Bool.and_eq_true_iff
abbrev Xu:=@beq_iff_eq
abbrev Xv:=@Nat.le_of_ble_eq_true
abbrev Xw:=@List.mem_of_elem_eq_true
abbrev Xx:=@decide_eq_true
abbrev Xy:=@Nat.le_refl
abbrev Xz:=@Bool.false_eq_true
abbrev XA:=@List.mem_singleton
abbrev XC:=@Nat.ne_of_lt
abbrev XD:=@List.sum_cons
abbrev XE:=@Bool.false_ne_true
abbrev XG:=@List.mem_range
abbrev XH:=@PySem.wpAny_holding
abbrev XI:=@PySem.sizeLine_eq
abbrev XJ:=@LawfulBEq.eq_of_beq
abbrev XK:=@PySem.F.excBase_ValueError
abbrev XM:=@Int.eq_ofNat_of_zero_le
abbrev XN:=@PySem.Heap.get?_push_size
abbrev XO:=@List.append_nil
abbrev XR:=@PySem.Heap.get?_update_other
abbrev XS:=@Int.le_refl
abbrev XU:=@List.contains_iff_mem
abbrev XV:=@Array.getElem?_eq_some_iff
abbrev XW:=@Option.isNone_iff_eq_none
abbrev XX:=@Nat.lt_irrefl
abbrev XY:=@Nat.lt_succ_self
abbrev XZ:=@decide_eq_true_eq
abbrev X0:=@List.mem_of_getElem?
abbrev X4:=@Nat.le_add_right
abbrev X5:=@PySem.Heap.size_after_update
abbrev X6:=@PySem.W.Fast.te14364793385576792824
abbrev X7:=@PySem.Heap.dictOf_iff
abbrev X8:=@List.sum_append
abbrev X9:=@Nat.zero_add
abbrev Yb:=@List.length_append
abbrev Yc:=@List.length_cons
abbrev Yd:=@Nat.le_of_eq
abbrev Ye:=@List.exists_cons_of_ne_nil
abbrev Yg:=@List.length_range
abbrev Yh:=@List.mem_of_find?_eq_some
abbrev Yi:=@congrArg
abbrev Yj:=@PySem.Heap.get?_update_self
abbrev Yk:=@Int.lt_of_le_of_lt
abbrev Yl:=@Int.natCast_nonneg
abbrev Ym:=@PySem.wpAny_mono
abbrev Yn:=@List.mem_filterMap
abbrev Yo:=@Option.isSome_iff_exists
abbrev Yp:=@List.map_map
abbrev Yq:=@List.take_of_length_le
abbrev Yr:=@PySem.wpAny_standAt
abbrev Ys:=@List.all_cons
abbrev Yt:=@List.any_eq_true
abbrev Yu:=@if_false
abbrev Yv:=@PyProof.Rows.assignInOrder_cons
abbrev Yw:=@Int.emod_lt_of_pos
abbrev Yx:=@List.getElem?_eq_some_iff
abbrev Yy:=@List.find?_cons
abbrev Yz:=@Nat.le_succ_of_le
abbrev YA:=@List.any_eq_false
abbrev YB:=@List.forall_mem_cons
abbrev YC:=@List.flatMap_cons
abbrev YD:=@Int.add_assoc
abbrev YE:=@List.flatMap_append
abbrev YF:=@beq_self_eq_true
abbrev YG:=@Option.bind_eq_some_iff
abbrev YH:=@List.length_take
abbrev YI:=@PySem.W.hideAll_get
abbrev YJ:=@PySem.wpAny_field
abbrev YK:=@Int.ofNat_le
abbrev YL:=@PySem.Obj.data_mapFields
abbrev YM:=@Nat.not_lt
abbrev YN:=@Int.emod_nonneg
abbrev YQ:=@List.range_succ
abbrev YR:=@PySem.Obj.isFreed_of_fields
abbrev YS:=@List.nodup_append
abbrev YT:=@PySem.wpAny_truthy_bool
abbrev YU:=@Int.le_add_of_nonneg_right
abbrev YV:=@PySem.wpAny_bindName
abbrev YW:=@Nat.blt_eq
abbrev YX:=@List.getD_eq_getElem?_getD
abbrev YY:=@Int.ofNat_lt
abbrev YZ:=@PySem.codeAny_mono
abbrev Y0:=@List.filter_cons
abbrev Y1:=@List.not_mem_nil
abbrev Y2:=@List.length_drop
abbrev Y3:=@List.isEmpty_iff
abbrev Y4:=@List.flatMap_nil
abbrev Y5:=@List.getElem?_range
abbrev Y6:=@Nat.succ_add_eq_add_succ
abbrev Y7:=@List.take_append_getElem
abbrev Y8:=@Nat.le_add_left
abbrev Y9:=@Nat.lt_of_le_of_lt
abbrev Za:=@Int.lt_of_lt_of_le
abbrev Zb:=@Nat.lt_add_of_pos_right
abbrev Zc:=@Nat.ne_of_gt
abbrev Zd:=@PySem.wpAny_setField
abbrev Ze:=@PySem.wpAny_loadPart
abbrev Zf:=@bne_self_eq_false
abbrev Zg:=@Nat.lt_succ_of_lt
abbrev Zh:=@Nat.add_sub_of_le
abbrev Zi:=@PySem.F.slot_dict_get
abbrev Zj:=@Array.getElem?_toList
abbrev Zk:=@Nat.le_of_not_lt
abbrev Zl:=@Nat.succ_le_succ
abbrev Zm:=@PySem.wpAny_call_entry
abbrev Zn:=@Bool.not_true
abbrev Zo:=@Nat.add_le_add_right
abbrev Zp:=@Int.add_le_add_right
abbrev Zq:=@congrFun
abbrev Zr:=@Bool.or_eq_false_iff
abbrev Zs:=@PySem.Around.frames_deeper
abbrev Zt:=@Nat.le_succ
abbrev Zu:=@PySem.codeAny_call_builtin
abbrev Zv:=@List.getElem?_append
abbrev Zw:=@List.forIn_cons
abbrev Zx:=@List.find?_some
abbrev Zy:=@List.countP_eq_length_filter
abbrev Zz:=@Nat.add_le_add_left
abbrev ZA:=@List.filter_eq_self
abbrev ZB:=@Nat.lt_trans
abbrev ZC:=@Nat.succ.inj
abbrev ZD:=@List.find?_eq_none
abbrev ZE:=@PySem.wpAny_call
abbrev ZF:=@List.getElem?_eq_none_iff
abbrev ZG:=@PySem.F.slot_list_delitem
abbrev ZH:=@PySem.getMethod_builtin
abbrev ZI:=@List.mem_range'_1
abbrev ZJ:=@PySem.W.Looks.of_pure
abbrev ZK:=@PySem.W.any_some
abbrev ZL:=@PySem.F.plainAttrs_dict
abbrev ZM:=@Nat.succ_pos
abbrev ZN:=@PySem.W.hideAll_none
abbrev ZO:=@if_true
abbrev ZP:=@PySem.W.looks_findIn
abbrev ZQ:=@Nat.lt_of_succ_lt_succ
abbrev ZR:=@Nat.beq_refl
abbrev ZS:=@List.map_nil
abbrev ZT:=@PySem.wpAny_execs_nil
abbrev ZU:=@Nat.not_lt_zero
abbrev ZV:=@Nat.sub_eq_zero_of_le
abbrev ZW:=@List.take_append_drop
abbrev ZX:=@PySem.F.type_dict_get
abbrev ZY:=@List.getElem?_toArray
abbrev ZZ:=@PySem.W.looks_clsIn
abbrev Z0:=@List.nodup_nil
abbrev Z6:=@PySem.wpAny_listPart
abbrev Z7:=@List.any_cons
abbrev Z8:=@PySem.wpAny_Name
abbrev Z9:=@List.sum_nil
section
variable {a b c d i j k m n p q:Nat}
theorem Z1 (h:a≤b) (e:Nat.ble b c=true:=by exact Eq.refl true):a≤c:=WX h (Xv e)
theorem Z2 (h:a<b) (e:Nat.ble b c=true:=by exact Eq.refl true):a<c:=Xi h (Xv e)
theorem Z3 (h:a+k<m) (e:Nat.ble (m+i) (j+k)=true:=by exact Eq.refl true):a+i<j:=Nat.lt_of_add_lt_add_right (Xi (Nat.add_right_comm a k i▸Nat.add_lt_add_right h i) (Xv e))
theorem Z4 (h:a+k<m) (e:Nat.ble m (j+k)=true:=by exact Eq.refl true):a<j:=Z3 (i:=0) h e
theorem Z5 (h:a<m) (e:Nat.ble (m+i) j=true:=by exact Eq.refl true):a+i<j:=Z3 (k:=0) h e
theorem VZ (g:b=a) (h:a≤m) (e:Nat.ble m j=true:=by exact Eq.refl true):b≤j:=g▸Z1 h e
theorem S8 (g:a=b) (h:a<m) (e:Nat.ble m j=true:=by exact Eq.refl true):b<j:=g▸Z2 h e
theorem Z12 (g:a=b+k) (h:a<m) (e:Nat.ble m (j+k)=true:=by exact Eq.refl true):b<j:=Z4 (g▸h) e
theorem yb (h:a=b):a≤b+k:=h▸X4 ..
theorem Z15 (h:a+0=b):a=b:=h
theorem Z16 (h:a+0=b):b≤a:=Yd h.symm
theorem d7 (e:Nat.beq i j=false:=by exact Eq.refl false):a+i≠a+j:=λh=>Nat.ne_of_beq_eq_false e (Nat.add_left_cancel h)
theorem HA (e:Nat.beq 0 j=false:=by exact Eq.refl false):a≠a+j:=d7 (i:=0) e
theorem qm (e:Nat.beq i 0=false:=by exact Eq.refl false):a+i≠a:=d7 (j:=0) e
theorem Z23 (h:b+k<a) (e:Nat.ble j k=true:=by exact Eq.refl true):a≠b+j:=by have:=Xv e;lia
theorem Z24 (h:b<c) (g:c+k<a):a≠b:=(XC (ZB h (Y9 (X4 c k) g))).symm
theorem Z25 (h:a+k<b) (e:Nat.ble j k=true:=by exact Eq.refl true):a+j<b:=Y9 (Zz (Xv e) a) h
theorem vH (h:a+(b+1)=c):a+1+b=c:=(Nat.add_right_comm a 1 b).trans h
theorem HB (h:a+(b+1)=c):a<c:=h▸Zb (ZM b)
theorem Z28 (g:b=c) (h:a+(d+1)=c):a<b:=g.symm▸HB h
theorem Hy (h:c≤b) (g:a<c):a≠b:=XC (Xi g h)
theorem Z30 (h:a<b):a≠b:=XC h
theorem Z31 (h:b<a):a≠b:=Zc h
theorem Z33 (h:a≤b) (k:b≤c):a≤c:=WX h k
theorem Z36 (h:a=b) (g:b<a):False:=absurd h (Zc g)
theorem Wq (h:a≤b) (g:c=b) (f:c<a):False:=absurd (Xi f h) (g▸XX _)
theorem Z40 (h:a<b):a<b+k:=Xi h (X4 ..)
theorem Z41:a<b+(a+1):=Xi (XY a) (Y8 ..)
theorem Z42:a<a+(b+1):=by simp
theorem Z44 (h:0<b):0<a+b:=Xi h (Y8 ..)
theorem Z46 (h:1≤a):a=a - 1+1:=(Nat.sub_add_cancel h).symm
theorem Z48 (h:a≠0):a=a - 1+1:=Z46 (Nat.pos_of_ne_zero h)
theorem Z49 (h:b<a):a - b=a - (b+1)+1:=(Nat.sub_add_cancel (Nat.sub_pos_of_lt h)).symm
theorem Z50 (h:a≤b):a - b=0:=ZV h
theorem Z51 (h:a≤b):a - (b+1)=0:=ZV (Yz h)
theorem Z54 (h:¬b<a):a - (b+1)=0:=Z51 (Zk h)
theorem Z55 (h:¬b<a):a - b=0:=Z50 (Zk h)
theorem Z56 (h:b+1≤c) (g:a+c≤n):a+1+b≤n:=WX (Yd (vH rfl)) (WX (Zz h a) g)
theorem Z58 (h:b≤c) (g:a+c≤n):a+b≤n:=WX (Zz h a) g
theorem Z59 (h:b+1≤c) (g:a+16*c≤n) (e:Nat.ble j 16=true:=by exact Eq.refl true):a+j+16*b≤n:=by have:=Xv e;lia
theorem Z60 (h:b+1≤c) (g:a+16*c≤n) (f:j≤m) (e:Nat.ble m 16=true:=by exact Eq.refl true):a+j+16*b≤n:=WX (Yd (Nat.add_assoc ..)) (Z58 (WX (Zo (WX f (Xv e)) (16*b)) (WX (Yd (Nat.add_comm ..)) (Nat.mul_le_mul_left 16 h))) g)
theorem Z62 (h:a+b≤m) (e:Nat.ble m n=true:=by exact Eq.refl true):a≤n:=WX (X4 ..) (Z1 h e)
theorem Z63 (h:a+b≤m) (e:Nat.ble m n=true:=by exact Eq.refl true):b≤n:=WX (Y8 ..) (Z1 h e)
theorem Z67:a+b=b+a:=Nat.add_comm ..
theorem Z68 (h:a=k) (e:Nat.ble (k+1) m=true:=by exact Eq.refl true):a<m:=h▸Xv e
theorem Z69 (h:a≤k+1):a+1≤k+1+1:=Zl h
theorem Z71 (h:a=b+1):0<a:=h▸ZM b
theorem L6:a+(b+c)≤b+(a+c):=Yd (Nat.add_left_comm ..)
theorem Z73:a+b≤a+(c+b):=by simp
theorem Z75 (h:a<b):a<b:=h
theorem Z76 (h:a=b):a≤b:=Yd h
variable {x y z i j k l m n:Int}
theorem uP (h:x≤i) (e:decide (i≤j)=true:=by exact Eq.refl true):x≤j:=Xl h (W5 e)
theorem cQ (h:x<i) (e:decide (i≤j)=true:=by exact Eq.refl true):x<j:=Za h (W5 e)
theorem SK (h:x≤i) (e:decide (i<j)=true:=by exact Eq.refl true):x<j:=Yk h (W5 e)
theorem fo (h:x<i) (e:decide (i+k≤j)=true:=by exact Eq.refl true):x+k<j:=Za (Int.add_lt_add_right h k) (W5 e)
theorem rS (h:x<i) (e:decide (i+(k+l)≤j)=true:=by exact Eq.refl true):x+k+l<j:=by rw[YD];exact fo h e
theorem Bu (h:x<i) (e:decide (i+(k+(l+m))≤j)=true:=by exact Eq.refl true):x+k+l+m<j:=by rw[YD];exact rS h e
theorem Xft (h:x<i) (e:decide (i+(k+(l+(m+n)))≤j)=true:=by exact Eq.refl true):x+k+l+m+n<j:=by rw[YD];exact Bu h e
theorem pC (e:decide (0≤j)=true:=by exact Eq.refl true):x≤x+j:=YU (W5 e)
theorem kn (e:decide (i≤j)=true:=by exact Eq.refl true):x+i≤x+j:=Int.add_le_add_left (W5 e) x
theorem m6 (e:decide (i+k≤j)=true:=by exact Eq.refl true):x+i+k≤x+j:=by rw[YD];exact kn e
theorem Xbk (e:decide (i+(k+l)≤j)=true:=by exact Eq.refl true):x+i+k+l≤x+j:=by rw[YD];exact m6 e
theorem Cc (e:decide (i+(k+(l+m))≤j)=true:=by exact Eq.refl true):x+i+k+l+m≤x+j:=by rw[YD];exact Xbk e
theorem XfF (e:decide (i+(k+(l+(m+n)))≤j)=true:=by exact Eq.refl true):x+i+k+l+m+n≤x+j:=by rw[YD];exact Cc e
theorem T0 (h:x≤y+i) (g:y<m) (e:decide (m+i≤j)=true:=by exact Eq.refl true):x<j:=Yk h (fo g e)
theorem XcW (h:x≤y+i) (g:y<m) (e:decide (m+(i+k)≤j)=true:=by exact Eq.refl true):x+k<j:=Yk (Zp h k) (rS g e)
theorem FA (h:x≤y+i) (e:decide (i+k≤j)=true:=by exact Eq.refl true):x+k≤y+j:=Xl (Zp h k) (m6 e)
theorem Xac (h:x≤y+i) (e:decide (i+(k+l)≤j)=true:=by exact Eq.refl true):x+k+l≤y+j:=by rw[YD];exact FA h e
theorem xz:x<x+1:=by lia
theorem XfE:x+0=x:=Int.add_zero _
theorem DH:x+y - y=x:=Int.add_sub_cancel x y
theorem XcT:x+y - x=y:=by rw[Int.add_comm];exact Int.add_sub_cancel y x
theorem By (h:¬x<y):y≤x:=Int.not_lt.mp h
theorem qO (h:¬x≤y):y<x:=Int.not_le.mp h
theorem hO (h:x≤y):¬y<x:=Int.not_lt.mpr h
theorem WH (h:x<y):¬y≤x:=Int.not_le.mpr h
theorem FK (h:x<y):x≤y:=Int.le_of_lt h
theorem tq (h:x<y):y≠x:=(Int.ne_of_lt h).symm
theorem VF (h:x≤i) (e:decide (i.toNat≤a)=true:=by exact Eq.refl true):x.toNat≤a:=WX (Int.toNat_le_toNat h) (W5 e)
theorem JD (h:x<i) (e:decide ((i - 1).toNat≤a)=true:=by exact Eq.refl true):x.toNat≤a:=WX (Int.toNat_le_toNat (Int.le_sub_one_of_lt h)) (W5 e)
theorem Qs (h:0≤x):((x.toNat:Nat):Int)=x:=Int.toNat_of_nonneg h
theorem Xch (h:0≤x):(x+1).toNat=x.toNat+1:=Int.toNat_add h (by decide)
theorem Rv (h:0≤x) (g:x<(a:Int)):x.toNat<a:=(Int.toNat_lt h).mpr g
theorem I9 (h:0≤x) (g:x.toNat<a):x<(a:Int):=(Int.toNat_lt h).mp g
theorem OD:(0:Int)≤(a:Int):=Yl a
theorem FM:¬(a:Int)<0:=Int.not_lt.mpr (Yl a)
theorem Ed:((a:Int)).toNat=a:=Int.toNat_natCast a
theorem Gq (h:a≤b) (e:decide ((b:Int)≤i)=true:=by exact Eq.refl true):(a:Int)≤i:=Xl (YK.mpr h) (W5 e)
theorem XcY (h:a≤b) (e:decide ((b:Int)<i)=true:=by exact Eq.refl true):(a:Int)<i:=Yk (YK.mpr h) (W5 e)
theorem XfG (g:x<(b:Int)) (h:b≤c) (e:decide ((c:Int)≤i)=true:=by exact Eq.refl true):x<i:=Za g (Gq h e)
theorem Ss (h:(a:Int)<i) (e:decide (i≤(b:Int))=true:=by exact Eq.refl true):a<b:=YY.mp (Za h (W5 e))
theorem XeF (h:0≤x) (e:decide (0≤k)=true:=by exact Eq.refl true):0≤x+k:=Int.add_nonneg h (W5 e)
theorem XeA (h:0≤x) (e:decide (0<k)=true:=by exact Eq.refl true):0<x+k:=Int.add_pos_of_nonneg_of_pos h (W5 e)
theorem Xdy (h:0≤x) (g:0≤y):0≤x+y:=Int.add_nonneg h g
theorem uZ (h:0≤y):x≤x+y:=YU h
theorem z8 (h:0≤y) (e:decide (i≤0)=true:=by exact Eq.refl true):i≤y:=Xl (W5 e) h
theorem U5 (h:¬x<i):¬(0≤x∧x<i):=λg=>h g.2
theorem Mf (h:¬0≤x):¬(0≤x∧x<i):=λg=>h g.1
theorem Xax (h:0≤x) (g:x≤i) (e:decide (i≤j)=true:=by exact Eq.refl true):0≤x∧x≤j:=⟨h,uP g e⟩
theorem Ff (h:a≤b) (e:decide ((b:Int)≤i)=true:=by exact Eq.refl true):0≤(a:Int)∧(a:Int)≤i:=⟨OD,Gq h e⟩
theorem Xcu (h:0≤x) (g:x<i) (e:decide (i≤j)=true:=by exact Eq.refl true):0≤x∧x<j:=⟨h,cQ g e⟩
theorem Xah (h:0≤x) (g:x<i) (f:k≤0) (e:decide (i≤j)=true:=by exact Eq.refl true):k≤x∧x<j:=⟨Xl f h,cQ g e⟩
theorem WA (h:x<i) (g:y≤x) (e:decide (i≤j)=true:=by exact Eq.refl true):y<j:=Yk g (cQ h e)
theorem XdH (h:x<0):x+y<y:=by lia
theorem Xc9 (h: -y≤x):0≤x+y:=by lia
theorem Oa (h:z≤y) (g:x≤z+i):x≤y+i:=Xl g (Zp h i)
theorem Xfk (h:x<y) (g:y<i) (e:decide (i≤j)=true:=by exact Eq.refl true):x<j:=Int.lt_trans h (cQ g e)
theorem J9 (h:0≤x) (g:x≤m) (f:0≤y) (k:y≤x) (e:decide (m.toNat≤a)=true:=by exact Eq.refl true):(x - y).toNat≤a:=VF (Xl (Int.sub_le_self x f) g) e
theorem Kx (g:x+y≤(b:Int)) (f:0≤x) (h:b≤c) (e:Nat.ble c a=true:=by exact Eq.refl true):y.toNat≤a:=Int.toNat_le.mpr (Xl (Int.le_add_of_nonneg_left f) (Xl g (YK.mpr (WX h (Xv e)))))
theorem Ar (h:0≤x) (g:0≤y) (k:x+y≤(a:Int)):(x+y).toNat≤a:=Int.toNat_le.mpr k
theorem XaS (h:x+y≤z) (g:0≤y):x≤z:=Xl (YU g) h
theorem Xcm (h:x<y) (g:z≤x) (f:z=y):False:=absurd (Yk (f▸g) h) (Int.lt_irrefl _)
universe u0 u1 u2 u3 u4 u5 u6
variable {p q r:Prop} {R:Prop}
theorem vR (h:p∧q∧r) (k:p->q->r->R):R:=by
 obtain⟨b,c,a⟩:=h;exact k b c a
theorem eQ (x1:p) (x2:q) (x3:r):p∧q∧r:=⟨x1,x2,x3⟩
variable {s:Prop}
theorem E04 (h:p∧q∧r∧s) (k:p->q->r->s->R):R:=by
 obtain⟨c,d,a,b⟩:=h;exact k c d a b
theorem f4 (x1:p) (x2:q) (x3:r) (x4:s):p∧q∧r∧s:=⟨x1,x2,x3,x4⟩
theorem I05 {p q r s t:Prop} (x1:p) (x2:q) (x3:r) (x4:s) (x5:t):p∧q∧r∧s∧t:=⟨x1,x2,x3,x4,x5⟩
theorem I06 {p q r s t u:Prop} (x1:p) (x2:q) (x3:r) (x4:s) (x5:t) (x6:u):p∧q∧r∧s∧t∧u:=⟨x1,x2,x3,x4,x5,x6⟩
variable {α0:Sort u0}
theorem bn {p q:α0->Prop} (h:∃a,p a∧q a) (k:∀a,p a->q a->R):R:=by
 obtain⟨a,b,c⟩:=h;exact k a b c
theorem bv {p q:α0->Prop} (a:α0) (x1:p a) (x2:q a):∃a,p a∧q a:=⟨a,x1,x2⟩
theorem ia {p q r:α0->Prop} (h:∃a,p a∧q a∧r a) (k:∀a,p a->q a->r a->R):R:=by
 obtain⟨a,b,c,d⟩:=h;exact k a b c d
theorem ju {p q r:α0->Prop} (a:α0) (x1:p a) (x2:q a) (x3:r a):∃a,p a∧q a∧r a:=⟨a,x1,x2,x3⟩
theorem E14 {p q r s:α0->Prop} (h:∃a,p a∧q a∧r a∧s a) (k:∀a,p a->q a->r a->s a->R):R:=by
 obtain⟨a,e,c,d,b⟩:=h;exact k a e c d b
variable {α1:Sort u1}
theorem mY {p:α0->α1->Prop} (h:∃a b,p a b) (k:∀a b,p a b->R):R:=by
 obtain⟨a,b,c⟩:=h;exact k a b c
theorem qU {p:α0->α1->Prop} (a:α0) (b:α1) (x1:p a b):∃a b,p a b:=⟨a,b,x1⟩
theorem gS {p q:α0->α1->Prop} (h:∃a b,p a b∧q a b) (k:∀a b,p a b->q a b->R):R:=by
 obtain⟨a,b,c,d⟩:=h;exact k a b c d
theorem uu {p q:α0->α1->Prop} (a:α0) (b:α1) (x1:p a b) (x2:q a b):∃a b,p a b∧q a b:=⟨a,b,x1,x2⟩
theorem jv {p q r:α0->α1->Prop} (h:∃a b,p a b∧q a b∧r a b) (k:∀a b,p a b->q a b->r a b->R):R:=by
 obtain⟨a,b,e,c,d⟩:=h;exact k a b e c d
theorem kh {p q r:α0->α1->Prop} (a:α0) (b:α1) (x1:p a b) (x2:q a b) (x3:r a b):∃a b,p a b∧q a b∧r a b:=⟨a,b,x1,x2,x3⟩
theorem ux {p q r s:α0->α1->Prop} (h:∃a b,p a b∧q a b∧r a b∧s a b) (k:∀a b,p a b->q a b->r a b->s a b->R):R:=by
 obtain⟨a,b,f,d,e,c⟩:=h;exact k a b f d e c
theorem yv {p q r s:α0->α1->Prop} (a:α0) (b:α1) (x1:p a b) (x2:q a b) (x3:r a b) (x4:s a b):∃a b,p a b∧q a b∧r a b∧s a b:=⟨a,b,x1,x2,x3,x4⟩
theorem I25 {p q r s t:α0->α1->Prop} (a:α0) (b:α1) (x1:p a b) (x2:q a b) (x3:r a b) (x4:s a b) (x5:t a b):∃a b,p a b∧q a b∧r a b∧s a b∧t a b:=⟨a,b,x1,x2,x3,x4,x5⟩
variable {α2:Sort u2}
theorem tC {p:α0->α1->α2->Prop} (h:∃a b c,p a b c) (k:∀a b c,p a b c->R):R:=by
 obtain⟨a,b,c,d⟩:=h;exact k a b c d
theorem xI {p:α0->α1->α2->Prop} (a:α0) (b:α1) (c:α2) (x1:p a b c):∃a b c,p a b c:=⟨a,b,c,x1⟩
theorem uz {p q:α0->α1->α2->Prop} (h:∃a b c,p a b c∧q a b c) (k:∀a b c,p a b c->q a b c->R):R:=by
 obtain⟨a,b,c,e,d⟩:=h;exact k a b c e d
theorem uA {p q:α0->α1->α2->Prop} (a:α0) (b:α1) (c:α2) (x1:p a b c) (x2:q a b c):∃a b c,p a b c∧q a b c:=⟨a,b,c,x1,x2⟩
theorem oH {p q r:α0->α1->α2->Prop} (h:∃a b c,p a b c∧q a b c∧r a b c) (k:∀a b c,p a b c->q a b c->r a b c->R):R:=by
 obtain⟨a,b,c,f,d,e⟩:=h;exact k a b c f d e
theorem nG {p q r:α0->α1->α2->Prop} (a:α0) (b:α1) (c:α2) (x1:p a b c) (x2:q a b c) (x3:r a b c):∃a b c,p a b c∧q a b c∧r a b c:=⟨a,b,c,x1,x2,x3⟩
theorem lq {p q r s:α0->α1->α2->Prop} (h:∃a b c,p a b c∧q a b c∧r a b c∧s a b c) (k:∀a b c,p a b c->q a b c->r a b c->s a b c->R):R:=by
 obtain⟨a,b,c,g,e,f,d⟩:=h;exact k a b c g e f d
theorem hH {p q r s:α0->α1->α2->Prop} (a:α0) (b:α1) (c:α2) (x1:p a b c) (x2:q a b c) (x3:r a b c) (x4:s a b c):∃a b c,p a b c∧q a b c∧r a b c∧s a b c:=⟨a,b,c,x1,x2,x3,x4⟩
theorem E35 {p q r s t:α0->α1->α2->Prop} (h:∃a b c,p a b c∧q a b c∧r a b c∧s a b c∧t a b c) (k:∀a b c,p a b c->q a b c->r a b c->s a b c->t a b c->R):R:=by
 obtain⟨a,b,c,g,e,f,d,i⟩:=h;exact k a b c g e f d i
theorem I35 {p q r s t:α0->α1->α2->Prop} (a:α0) (b:α1) (c:α2) (x1:p a b c) (x2:q a b c) (x3:r a b c) (x4:s a b c) (x5:t a b c):∃a b c,p a b c∧q a b c∧r a b c∧s a b c∧t a b c:=⟨a,b,c,x1,x2,x3,x4,x5⟩
theorem E36 {p q r s t u:α0->α1->α2->Prop} (h:∃a b c,p a b c∧q a b c∧r a b c∧s a b c∧t a b c∧u a b c) (k:∀a b c,p a b c->q a b c->r a b c->s a b c->t a b c->u a b c->R):R:=by
 obtain⟨a,b,c,i,e,g,d,j,f⟩:=h;exact k a b c i e g d j f
theorem V3 {p q r s t u:α0->α1->α2->Prop} (a:α0) (b:α1) (c:α2) (x1:p a b c) (x2:q a b c) (x3:r a b c) (x4:s a b c) (x5:t a b c) (x6:u a b c):∃a b c,p a b c∧q a b c∧r a b c∧s a b c∧t a b c∧u a b c:=⟨a,b,c,x1,x2,x3,x4,x5,x6⟩
variable {α3:Sort u3}
theorem mH {p:α0->α1->α2->α3->Prop} (h:∃a b c d,p a b c d) (k:∀a b c d,p a b c d->R):R:=by
 obtain⟨a,b,c,d,e⟩:=h;exact k a b c d e
theorem V7 {p:α0->α1->α2->α3->Prop} (a:α0) (b:α1) (c:α2) (d:α3) (x1:p a b c d):∃a b c d,p a b c d:=⟨a,b,c,d,x1⟩
theorem Hp {p q:α0->α1->α2->α3->Prop} (h:∃a b c d,p a b c d∧q a b c d) (k:∀a b c d,p a b c d->q a b c d->R):R:=by
 obtain⟨a,b,c,d,f,e⟩:=h;exact k a b c d f e
theorem yT {p q:α0->α1->α2->α3->Prop} (a:α0) (b:α1) (c:α2) (d:α3) (x1:p a b c d) (x2:q a b c d):∃a b c d,p a b c d∧q a b c d:=⟨a,b,c,d,x1,x2⟩
theorem Kq {p q r:α0->α1->α2->α3->Prop} (h:∃a b c d,p a b c d∧q a b c d∧r a b c d) (k:∀a b c d,p a b c d->q a b c d->r a b c d->R):R:=by
 obtain⟨a,b,c,d,g,f,e⟩:=h;exact k a b c d g f e
theorem I43 {p q r:α0->α1->α2->α3->Prop} (a:α0) (b:α1) (c:α2) (d:α3) (x1:p a b c d) (x2:q a b c d) (x3:r a b c d):∃a b c d,p a b c d∧q a b c d∧r a b c d:=⟨a,b,c,d,x1,x2,x3⟩
theorem E44 {p q r s:α0->α1->α2->α3->Prop} (h:∃a b c d,p a b c d∧q a b c d∧r a b c d∧s a b c d) (k:∀a b c d,p a b c d->q a b c d->r a b c d->s a b c d->R):R:=by
 obtain⟨a,b,c,d,i,g,f,e⟩:=h;exact k a b c d i g f e
theorem Tu {p q r s:α0->α1->α2->α3->Prop} (a:α0) (b:α1) (c:α2) (d:α3) (x1:p a b c d) (x2:q a b c d) (x3:r a b c d) (x4:s a b c d):∃a b c d,p a b c d∧q a b c d∧r a b c d∧s a b c d:=⟨a,b,c,d,x1,x2,x3,x4⟩
theorem rL {p q r s t:α0->α1->α2->α3->Prop} (h:∃a b c d,p a b c d∧q a b c d∧r a b c d∧s a b c d∧t a b c d) (k:∀a b c d,p a b c d->q a b c d->r a b c d->s a b c d->t a b c d->R):R:=by
 obtain⟨a,b,c,d,i,g,f,e,j⟩:=h;exact k a b c d i g f e j
theorem uN {p q r s t:α0->α1->α2->α3->Prop} (a:α0) (b:α1) (c:α2) (d:α3) (x1:p a b c d) (x2:q a b c d) (x3:r a b c d) (x4:s a b c d) (x5:t a b c d):∃a b c d,p a b c d∧q a b c d∧r a b c d∧s a b c d∧t a b c d:=⟨a,b,c,d,x1,x2,x3,x4,x5⟩
variable {α4:Sort u4}
theorem gE {p:α0->α1->α2->α3->α4->Prop} (h:∃a b c d e,p a b c d e) (k:∀a b c d e,p a b c d e->R):R:=by
 obtain⟨a,b,c,d,e,f⟩:=h;exact k a b c d e f
theorem iM {p:α0->α1->α2->α3->α4->Prop} (a:α0) (b:α1) (c:α2) (d:α3) (e:α4) (x1:p a b c d e):∃a b c d e,p a b c d e:=⟨a,b,c,d,e,x1⟩
theorem E52 {p q:α0->α1->α2->α3->α4->Prop} (h:∃a b c d e,p a b c d e∧q a b c d e) (k:∀a b c d e,p a b c d e->q a b c d e->R):R:=by
 obtain⟨a,b,c,d,e,g,f⟩:=h;exact k a b c d e g f
theorem VY {p q r:α0->α1->α2->α3->α4->Prop} (h:∃a b c d e,p a b c d e∧q a b c d e∧r a b c d e) (k:∀a b c d e,p a b c d e->q a b c d e->r a b c d e->R):R:=by
 obtain⟨a,b,c,d,e,i,g,f⟩:=h;exact k a b c d e i g f
theorem Eg {p q r:α0->α1->α2->α3->α4->Prop} (a:α0) (b:α1) (c:α2) (d:α3) (e:α4) (x1:p a b c d e) (x2:q a b c d e) (x3:r a b c d e):∃a b c d e,p a b c d e∧q a b c d e∧r a b c d e:=⟨a,b,c,d,e,x1,x2,x3⟩
theorem Nf {p q r s t u:α0->α1->α2->α3->α4->Prop} (h:∃a b c d e,p a b c d e∧q a b c d e∧r a b c d e∧s a b c d e∧t a b c d e∧u a b c d e) (k:∀a b c d e,p a b c d e->q a b c d e->r a b c d e->s a b c d e->t a b c d e->u a b c d e->R):R:=by
 obtain⟨a,b,c,d,e,l,i,g,f,m,j⟩:=h;exact k a b c d e l i g f m j
theorem V4 {p q r s t u:α0->α1->α2->α3->α4->Prop} (a:α0) (b:α1) (c:α2) (d:α3) (e:α4) (x1:p a b c d e) (x2:q a b c d e) (x3:r a b c d e) (x4:s a b c d e) (x5:t a b c d e) (x6:u a b c d e):∃a b c d e,p a b c d e∧q a b c d e∧r a b c d e∧s a b c d e∧t a b c d e∧u a b c d e:=⟨a,b,c,d,e,x1,x2,x3,x4,x5,x6⟩
variable {α5:Sort u5}
theorem E61 {p:α0->α1->α2->α3->α4->α5->Prop} (h:∃a b c d e f,p a b c d e f) (k:∀a b c d e f,p a b c d e f->R):R:=by
 obtain⟨a,b,c,d,e,f,g⟩:=h;exact k a b c d e f g
theorem Us {p:α0->α1->α2->α3->α4->α5->Prop} (a:α0) (b:α1) (c:α2) (d:α3) (e:α4) (f:α5) (x1:p a b c d e f):∃a b c d e f,p a b c d e f:=⟨a,b,c,d,e,f,x1⟩
theorem E65 {p q r s t:α0->α1->α2->α3->α4->α5->Prop} (h:∃a b c d e f,p a b c d e f∧q a b c d e f∧r a b c d e f∧s a b c d e f∧t a b c d e f) (k:∀a b c d e f,p a b c d e f->q a b c d e f->r a b c d e f->s a b c d e f->t a b c d e f->R):R:=by
 obtain⟨a,b,c,d,e,f,l,j,i,g,m⟩:=h;exact k a b c d e f l j i g m
theorem I65 {p q r s t:α0->α1->α2->α3->α4->α5->Prop} (a:α0) (b:α1) (c:α2) (d:α3) (e:α4) (f:α5) (x1:p a b c d e f) (x2:q a b c d e f) (x3:r a b c d e f) (x4:s a b c d e f) (x5:t a b c d e f):∃a b c d e f,p a b c d e f∧q a b c d e f∧r a b c d e f∧s a b c d e f∧t a b c d e f:=⟨a,b,c,d,e,f,x1,x2,x3,x4,x5⟩
variable {e f g k l m n:Nat} {x1 y1 z1:Int}
theorem Y30:(a+(b+(c+(d+e))))≤(d+(a+(b+(c+e)))):=by lia
theorem Y48:(a+(b+(c+(d+(e+f)))))≤(d+(e+(a+(b+(c+f))))):=by lia
theorem Y72:((a+(b+0))+(c+d))≤(c+(0+(0+(a+(b+d))))):=by lia
theorem SJ (h0:((0:Int)≤x)∧(((0:Int)≤y)∧((x+y)≤((a:Nat):Int)))):((Int.toNat (x+y))-(Int.toNat x))=(Int.toNat y):=by lia
theorem O1 (h0:((0:Int)≤x)∧(x≤y)) (h1:(0:Int)≤z):¬((x<(0:Int))∨((y<x)∨(z<(0:Int)))):=by lia
theorem wi (h0:((0:Int)≤x)∧(x<z)) (h1:((0:Int)≤x)∧(x<(y+(1:Int)))) (h2:x1=x):((0:Int)≤x)∧(x≤y):=by lia
theorem R0 (h0:¬(((0:Int)≤x1)∧(x1<(y+(1:Int))))) (h1:x=x1):(x<(0:Int))∨((y<x)∨(z<(0:Int))):=by lia
theorem mT (h0:((0:Int)≤x)∧(x≤(300:Int))):(((0:Int)-x)-(2:Int))≤(x+(2:Int)):=by lia
theorem ng (h0:((0:Int)≤x)∧(x≤(300:Int))):((x+(2:Int))-(((0:Int)-x)-(2:Int)))<(900:Int):=by lia
theorem Lj (h0:a≤63) (h1:(0:Int)<((a:Nat):Int)):(a-1)<a:=by lia
universe u8
variable {α:Type u8} {P:Prop} {a b:α} {l m:List α}
theorem yP (h:some a=none):P:=by cases h
theorem cZ (h:none=some a):P:=by cases h
theorem kB (h:true=false):P:=by cases h
theorem ch (h:false=true):P:=by cases h
theorem nCN (h:a::l=[]):P:=by cases h
theorem nNC (h:[]=a::l):P:=by cases h
theorem jS (h:some a=some b):a=b:=by cases h;rfl
end
open PySem PySem.W PySem.Calls PyProof.Rows
noncomputable abbrev PP:Program:=PySem.Challenge.rw_sm0031_01.row.toRowW.prog
noncomputable def V6:List Stmt->Nat->Stmt
 |[],_=>.Pass default
 |x::_,0=>x
 |_::r,n+1=>V6 r n
noncomputable def sT (i:Nat):Stmt:=V6 (behindTheImports PP) i
noncomputable def xN:Stmt->List Stmt
 |.ClassDef _ _ _ body _ _ _ _ _ _ _=>body
 |_=>[]
noncomputable def sC (i j:Nat):Stmt:=V6 (xN (sT i)) j
noncomputable def Xag (cls:Value) (qual:Str) (gl:Addr) (cl:List (Str×Addr)) (dv kv doc pm:Value) (an:Option Addr) (cd ct:Value) (bi:Addr):Stmt->Obj
 |.FunctionDef name args body _ _ _ scope _ _ _=>{cls:=cls,data:=.func {name:=name,qualname:=qual,params:=args,body:=.stmts body,scope:=scope,globals:=gl,closure:=cl,defaults:=dv,kwdefaults:=kv,doc:=doc,pyModule:=pm,annotations:=an,code:=cd,closureTuple:=ct,builtins:=bi}}
 |_=>{cls:=.none}
noncomputable def fu (cls:Value) (s:Stmt) (qual:Str) (gl:Addr) (cl:List (Str×Addr)) (dv kv doc pm:Value) (an:Option Addr) (cd ct:Value) (bi:Addr):Obj:=Xag cls qual gl cl dv kv doc pm an cd ct bi s
noncomputable def vn:Value:=.none
noncomputable def vb (b:Bool):Value:=.bool b
noncomputable def vi (i:Int) (t:Nat):Value:=.int i t
noncomputable def vs (x:Str) (t:Nat):Value:=.str x t
noncomputable def vt (x:String):Value:=.type x
noncomputable def vu (x:String):Value:=.builtin x
noncomputable def vr (a:Nat):Value:=.ref a
noncomputable def en (x:Str) (t:Nat) (v:Value):Str×Nat×Value:=(x,t,v)
noncomputable def tu (xs:List Value):Obj:={cls:=.type "tuple",data:=.seq xs.toArray}
noncomputable def fl (c:Value) (xs:List Value):Obj:={cls:=c,data:=.fields xs.toArray}
noncomputable def Vg (P:Params):List (Str×Nat×Value)->List DictEntry
 |[]=>[]
 |e::r=>⟨PyData.keyHash P e.1,.str e.1 e.2.1,e.2.2⟩::Vg P r
noncomputable def di (P:Params) (es:List (Str×Nat×Value)) (n:Nat):Obj:={cls:=.type "dict",data:=.dict (Vg P es).toArray n}
noncomputable def j7:List Obj->List Obj×List Obj
 |[]=>([],[])
 |x::r=>(x::(j7 r).2,(j7 r).1)
noncomputable def wV:Nat->List Obj->BT
 |0,_=>.nil
 |_+1,[]=>.nil
 |k+1,x::r=>.node x (wV k (j7 r).1) (wV k (j7 r).2)
noncomputable def eP:Env:={scope:=PP.main.scope,locals:=mainNs,globals:=mainNs,cells:=[],code:=.ref 13,frame:=some 14}
noncomputable abbrev cE:Code:=Code.body (behindTheImports PP) eP
noncomputable abbrev B0:List Frame:=[topFrame ⟨0,0,0,0⟩]
noncomputable def mI (a n:Nat):List Stmt:=((behindTheImports PP).drop a).take n
noncomputable def f0 (s:Stmt) (q:Str) (g b:Nat):Obj:=fu vn s q g [] vn vn vn vn none vn vn b
noncomputable def f1 (s:Stmt) (q:Str) (g:Nat) (d:Value) (m:Str) (t c b:Nat):Obj:=fu (vt "function") s q g [] d vn vn (vs m t) none (vr c) vn b
noncomputable def cd (n q:Str) (t:Nat) (l a k:Int) (b:Nat) (g:Bool) (s:Nat) (u v y z:Value) (m:Nat):Obj:=fl (vt "code") [vs n t,vs q (t+1),vs "/claim/cut.py" (t+2),vi l 0,vi a 0,vi 0 0,vi 0 0,vi k 0,vr b,vb g,vi 181 0,vr s,u,v,y,z,vi m 0,vi l 0,vs "/claim/cut.py" (m+1)]
noncomputable abbrev o0 (P:Params):Obj:=boot_o_0 P
noncomputable abbrev o1 (P:Params):Obj:=boot_o_1 P
noncomputable abbrev o2 (P:Params):Obj:=boot_o_2 P
noncomputable def o3 (P:Params):Obj:=di P [en "__name__" 165 (vs "law_sm0031_01" 1543),en "__doc__" 166 vn,en "__package__" 167 vn,en "__loader__" 168 (vu "__main__.__loader__#opaque"),en "__spec__" 169 vn,en "__annotations__" 170 (vr 6),en "__builtins__" 171 (vr 4),en "__file__" 173 (vs "/claim/cut.py" 172),en "__cached__" 174 vn,en "_wall" 193 (vr 21),en "SIMPLE_ESCAPES" 229 (vr 22),en "OPERATORS" 257 (vr 23),en "GLOBAL_SIGNS" 259 (vs "!@~&`'+$?:\"/\\;,.<>_*" 258),en "DEEPEST_KEY" 261 (vi 12 260),en "MOST_SEEN" 263 (vi 20000 262),en "Thing" 298 (vr 40),en "Text" 326 (vr 62),en "ListThing" 353 (vr 82),en "TableThing" 405 (vr 120),en "RangeThing" 436 (vr 140),en "ProcThing" 479 (vr 161),en "ErrorThing" 507 (vr 181),en "FiberThing" 537 (vr 201),en "ModuleThing" 584 (vr 228),en "is_int" 591 (vr 237),en "sort_of" 598 (vr 244),en "same" 607 (vr 251),en "takes_in" 615 (vr 258),en "code_of" 621 (vr 264),en "is_word" 629 (vr 271),en "is_figures" 635 (vr 276),en "is_label" 642 (vr 283),en "is_plain_symbol" 649 (vr 290),en "full_name" 659 (vr 297),en "show_letter" 669 (vr 304),en "show_text" 675 (vr 309),en "show_symbol" 682 (vr 316),en "show_pair" 692 (vr 323),en "show_range" 703 (vr 330),en "show_held" 709 (vr 335),en "show_thing" 720 (vr 342),en "message_text" 732 (vr 350),en "show" 743 (vr 358),en "kind_word" 753 (vr 365),en "need_int" 761 (vr 372),en "need_open" 769 (vr 379),en "limits_of" 780 (vr 386),en "span_in" 792 (vr 393),en "place_of" 802 (vr 400),en "GemError" 832 (vr 418),en "Raised" 857 (vr 438),en "list_item" 869 (vr 447),en "list_at" 879 (vr 454),en "list_slice_out" 890 (vr 461),en "list_delete_at" 900 (vr 468),en "whole" 911 (vr 475),en "need_free" 921 (vr 482),en "span_of" 931 (vr 489),en "span_of_range" 944 (vr 496),en "span_for" 955 (vr 503),en "part" 965 (vr 510),en "take_part" 976 (vr 517),en "raise_version" 985 (vr 524),en "own_module" 995 (vr 531),en "class_above" 1002 (vr 538),en "make_own" 1012 (vr 545),en "MODULES" 1018 (vr 546),en "BUILTINS" 1135 (vr 547),en "MIXED" 1157 (vr 550),en "UNMADE" 1163 (vr 558),en "World" 1542 (vr 834),en "_law_kinds" 1550 (vr 845),en "_law_signs" 1556 (vr 852),en "_law_box" 1567 (vr 859),en "_law_take" 1577 (vr 866),en "_law_holders" 1583 (vr 871),en "_law_mark" 1593 (vr 878),en "_law_strange" 1601 (vr 885),en "_law_odd" 1616 (vr 892),en "_law_span" 1631 (vr 899),en "_law_past" 1642 (vr 906),en "_law_due" 1648 (vr 911),en "_law_heard" 1656 (vr 918),en "_law_limits_right" 1678 (vr 925),en "_law_told_right" 1684 (vr 930),en "_law_cut_right" 1690 (vr 935),en "law" 1696 (vr 940)] 87
noncomputable abbrev o4 (P:Params):Obj:=boot_o_4 P
noncomputable abbrev o5 (P:Params):Obj:=boot_o_5 P
noncomputable abbrev o6 (P:Params):Obj:=boot_o_6 P
noncomputable abbrev o7 (P:Params):Obj:=boot_o_7 P
noncomputable abbrev o8 (P:Params):Obj:=boot_o_8 P
noncomputable abbrev o9 (P:Params):Obj:=boot_o_9 P
noncomputable abbrev o10 (P:Params):Obj:=boot_o_10 P
noncomputable section
def o11:Obj:=tu []
def o12:Obj:=fl vn [vi 1 0,vi 0 0,vr 20,vi 10 0,vi 0 0,vr 29,vi 19 0,vi 0 0,vr 50,vi 24 0,vi 0 0,vr 70,vi 29 0,vi 0 0,vr 90,vi 49 0,vi 0 0,vr 128,vi 56 0,vi 0 0,vr 148,vi 69 0,vi 0 0,vr 169,vi 75 0,vi 0 0,vr 189,vi 83 0,vi 0 0,vr 209,vi 101 0,vi 0 0,vr 236,vi 103 0,vi 0 0,vr 243,vi 111 0,vi 0 0,vr 250,vi 116 0,vi 0 0,vr 257,vi 121 0,vi 0 0,vr 263,vi 136 0,vi 0 0,vr 270,vi 143 0,vi 0 0,vr 275,vi 145 0,vi 0 0,vr 282,vi 147 0,vi 0 0,vr 289,vi 157 0,vi 0 0,vr 296,vi 172 0,vi 0 0,vr 303,vi 182 0,vi 0 0,vr 308,vi 185 0,vi 0 0,vr 315,vi 187 0,vi 0 0,vr 322,vi 191 0,vi 0 0,vr 329,vi 195 0,vi 0 0,vr 334,vi 205 0,vi 0 0,vr 341,vi 219 0,vi 0 0,vr 349,vi 230 0,vi 0 0,vr 357,vi 242 0,vi 0 0,vr 364,vi 248 0,vi 0 0,vr 371,vi 254 0,vi 0 0,vr 378,vi 257 0,vi 0 0,vr 385,vi 267 0,vi 0 0,vr 392,vi 278 0,vi 0 0,vr 399,vi 282 0,vi 0 0,vr 406,vi 287 0,vi 0 0,vr 427,vi 293 0,vi 0 0,vr 446,vi 296 0,vi 0 0,vr 453,vi 301 0,vi 0 0,vr 460,vi 311 0,vi 0 0,vr 467,vi 316 0,vi 0 0,vr 474,vi 324 0,vi 0 0,vr 481,vi 327 0,vi 0 0,vr 488,vi 332 0,vi 0 0,vr 495,vi 340 0,vi 0 0,vr 502,vi 350 0,vi 0 0,vr 509,vi 353 0,vi 0 0,vr 516,vi 362 0,vi 0 0,vr 523,vi 364 0,vi 0 0,vr 530,vi 376 0,vi 0 0,vr 537,vi 378 0,vi 0 0,vr 544,vi 390 0,vi 0 0,vr 564,vi 606 0,vi 0 0,vr 844,vi 608 0,vi 0 0,vr 851,vi 610 0,vi 0 0,vr 858,vi 618 0,vi 0 0,vr 865,vi 627 0,vi 0 0,vr 870,vi 639 0,vi 0 0,vr 877,vi 644 0,vi 0 0,vr 884,vi 650 0,vi 0 0,vr 891,vi 670 0,vi 0 0,vr 898,vi 689 0,vi 0 0,vr 905,vi 694 0,vi 0 0,vr 910,vi 708 0,vi 0 0,vr 917,vi 713 0,vi 0 0,vr 924,vi 731 0,vi 0 0,vr 929,vi 745 0,vi 0 0,vr 934,vi 759 0,vi 0 0,vr 939]
def o13:Obj:=cd "<module>" "<module>" 182 1 0 0 11 false 12 vn vn vn vn 185
def o14:Obj:={cls:=(vt "frame"),slots:=(List.toArray [some (vr 13),some (vr 3),some (vr 3),none,some (vs "__main__" 164),none,some (vr 0)])}
def o15:Obj:=tu []
def o16:Obj:=fl vn []
def o17:Obj:=tu [vs "k" 190]
def o18:Obj:=tu []
def o19:Obj:=f0 (sT 0) "_wall" 0 0
def o20:Obj:=cd "_wall" "_wall" 187 1 1 3 15 true 16 vn (vr 17) (vr 18) (vr 19) 191
def o21:Obj:=f1 (sT 0) "_wall" 3 vn "__main__" 164 20 0
def o22 (P:Params):Obj:=di P [en "\\" 196 (vs "\\\\" 197),en "\"" 198 (vs "\\\"" 199),en "\n" 200 (vs "\\n" 201),en "\t" 202 (vs "\\t" 203),en "\x0d" 204 (vs "\\r" 205),en "\x1b" 206 (vs "\\e" 207),en "\x07" 208 (vs "\\a" 209),en "\x08" 210 (vs "\\b" 211),en "\x0b" 212 (vs "\\v" 213),en "\x0c" 214 (vs "\\f" 215),en "\x7f" 216 (vs "\\x7F" 217)] 11
def o23:Obj:=tu [vs "+" 230,vs "-" 231,vs "*" 232,vs "/" 233,vs "%" 234,vs "**" 235,vs "==" 236,vs "!=" 237,vs "<" 238,vs ">" 239,vs "<=" 240,vs ">=" 241,vs "<=>" 242,vs "===" 243,vs "[]" 244,vs "[]=" 245,vs "<<" 246,vs ">>" 247,vs "!" 248,vs "~" 249,vs "+@" 250,vs "-@" 251,vs "&" 252,vs "|" 253,vs "^" 254,vs "=~" 255,vs "!~" 256]
def o24:Obj:=tu []
def o25:Obj:=fl (vt "builtin_function_or_method") [vu "type.__prepare__",vt "type"]
def o26 (P:Params):Obj:=di P [en "__module__" 271 (vs "gemrows.things" 194),en "__qualname__" 273 (vs "Thing" 272),en "__firstlineno__" 275 (vi 10 274),en "__init__" 284 (vr 37),en "__static_attributes__" 291 (vr 38)] 5
def o27:Obj:=tu []
def o28:Obj:=fl vn [vi 12 0,vi 4 0,vr 36]
def o29:Obj:=cd "Thing" "Thing" 266 10 0 0 27 false 28 vn vn vn vn 269
def o30:Obj:={cls:=(vt "frame"),slots:=(List.toArray [some (vr 29),some (vr 3),some (vr 26),none,some (vs "gemrows.things" 194),none,some (vr 0)])}
def o31:Obj:=tu []
def o32:Obj:=fl vn []
def o33:Obj:=tu [vs "self" 279,vs "number" 280,vs "owner" 281]
def o34:Obj:=tu []
def o35:Obj:=f0 (sC 7 0) "Thing.__init__" 0 0
def o36:Obj:=cd "__init__" "Thing.__init__" 276 12 3 3 31 true 32 vn (vr 33) (vr 34) (vr 35) 282
def o37:Obj:=f1 (sC 7 0) "Thing.__init__" 3 vn "gemrows.things" 194 36 0
def o38:Obj:=tu [vs "fields" 285,vs "frozen" 286,vs "ident" 287,vs "number" 288,vs "own" 289,vs "owner" 290]
def o39 (P:Params):Obj:=di P [en "__module__" 271 (vs "gemrows.things" 194),en "__firstlineno__" 275 (vi 10 274),en "__init__" 284 (vr 37),en "__static_attributes__" 291 (vr 38),en "__dict__" 293 (vr 41),en "__weakref__" 295 (vr 42),en "__doc__" 296 vn] 4
def KL:Obj:={cls:=(vt "type"),data:=.cls {name:="Thing",bases:=[vt "object"],mro:=[vr 40,vt "object"],ns:=39,qualname:="Thing",hasDict:=true,slotNames:=[],subclasses:=[vr 62,vr 82,vr 120,vr 140,vr 161,vr 181,vr 201,vr 228],abstract:=false,collection:=none,hasDel:=false},slots:=(List.toArray [none,none,some (vs "Thing" 264),some (vs "Thing" 272),some (vu "object.__new__"),some (vb true)])}
def o41:Obj:=fl (vt "getset_descriptor") [vs "__dict__" 292,vr 40,vu "function.__dict__",vu "function.__dict__#set"]
def o42:Obj:=fl (vt "getset_descriptor") [vs "__weakref__" 294,vr 40,vu "ExceptionGroup.__weakref__",vn]
def o43:Obj:=fl (vt "super") [vr 40,vr 40,vr 40]
def o44:Obj:=fl (vt "builtin_function_or_method") [vu "object.__init_subclass__",vr 40]
def o45:Obj:=tu [vr 40]
def o46:Obj:=fl (vt "builtin_function_or_method") [vu "type.__prepare__",vt "type"]
def o47 (P:Params):Obj:=di P [en "__module__" 306 (vs "gemrows.things" 194),en "__qualname__" 308 (vs "Text" 307),en "__firstlineno__" 310 (vi 19 309),en "__init__" 321 (vr 59),en "__static_attributes__" 323 (vr 60)] 5
def o48:Obj:=tu []
def o49:Obj:=fl vn [vi 21 0,vi 4 0,vr 58]
def o50:Obj:=cd "Text" "Text" 301 19 0 0 48 false 49 vn vn vn vn 304
def o51:Obj:={cls:=(vt "frame"),slots:=(List.toArray [some (vr 50),some (vr 3),some (vr 47),none,some (vs "gemrows.things" 194),none,some (vr 0)])}
def o52:Obj:=tu [vs "" 311]
def o53:Obj:=tu []
def o54:Obj:=fl vn []
def o55:Obj:=tu [vs "self" 315,vs "number" 316,vs "owner" 317,vs "text" 318]
def o56:Obj:=tu []
def o57:Obj:=f0 (sC 8 0) "Text.__init__" 0 0
def o58:Obj:=cd "__init__" "Text.__init__" 312 21 4 3 53 true 54 vn (vr 55) (vr 56) (vr 57) 319
def o59:Obj:=f1 (sC 8 0) "Text.__init__" 3 (vr 52) "gemrows.things" 194 58 0
def o60:Obj:=tu [vs "text" 322]
def o61 (P:Params):Obj:=di P [en "__module__" 306 (vs "gemrows.things" 194),en "__firstlineno__" 310 (vi 19 309),en "__init__" 321 (vr 59),en "__static_attributes__" 323 (vr 60),en "__doc__" 324 vn] 2
def o62:Obj:={cls:=(vt "type"),data:=.cls {name:="Text",bases:=[vr 40],mro:=[vr 62,vr 40,vt "object"],ns:=61,qualname:="Text",hasDict:=true,slotNames:=[],subclasses:=[],abstract:=false,collection:=none,hasDel:=false},slots:=(List.toArray [some (vr 45),none,some (vs "Text" 299),some (vs "Text" 307),some (vu "object.__new__"),some (vb true)])}
def o63:Obj:=fl (vt "super") [vr 62,vr 62,vr 62]
def o64:Obj:=fl (vt "builtin_function_or_method") [vu "object.__init_subclass__",vr 62]
def o65:Obj:=tu [vr 40]
def o66:Obj:=fl (vt "builtin_function_or_method") [vu "type.__prepare__",vt "type"]
def o67 (P:Params):Obj:=di P [en "__module__" 334 (vs "gemrows.things" 194),en "__qualname__" 336 (vs "ListThing" 335),en "__firstlineno__" 338 (vi 24 337),en "__init__" 348 (vr 79),en "__static_attributes__" 350 (vr 80)] 5
def o68:Obj:=tu []
def o69:Obj:=fl vn [vi 26 0,vi 4 0,vr 78]
def o70:Obj:=cd "ListThing" "ListThing" 329 24 0 0 68 false 69 vn vn vn vn 332
def o71:Obj:={cls:=(vt "frame"),slots:=(List.toArray [some (vr 70),some (vr 3),some (vr 67),none,some (vs "gemrows.things" 194),none,some (vr 0)])}
def o72:Obj:=tu [vn]
def o73:Obj:=tu []
def o74:Obj:=fl vn []
def o75:Obj:=tu [vs "self" 342,vs "number" 343,vs "owner" 344,vs "items" 345]
def o76:Obj:=tu []
def o77:Obj:=f0 (sC 9 0) "ListThing.__init__" 0 0
def o78:Obj:=cd "__init__" "ListThing.__init__" 339 26 4 3 73 true 74 vn (vr 75) (vr 76) (vr 77) 346
def o79:Obj:=f1 (sC 9 0) "ListThing.__init__" 3 (vr 72) "gemrows.things" 194 78 0
def o80:Obj:=tu [vs "items" 349]
def o81 (P:Params):Obj:=di P [en "__module__" 334 (vs "gemrows.things" 194),en "__firstlineno__" 338 (vi 24 337),en "__init__" 348 (vr 79),en "__static_attributes__" 350 (vr 80),en "__doc__" 351 vn] 2
def o82:Obj:={cls:=(vt "type"),data:=.cls {name:="ListThing",bases:=[vr 40],mro:=[vr 82,vr 40,vt "object"],ns:=81,qualname:="ListThing",hasDict:=true,slotNames:=[],subclasses:=[],abstract:=false,collection:=none,hasDel:=false},slots:=(List.toArray [some (vr 65),none,some (vs "ListThing" 327),some (vs "ListThing" 335),some (vu "object.__new__"),some (vb true)])}
def o83:Obj:=fl (vt "super") [vr 82,vr 82,vr 82]
def o84:Obj:=fl (vt "builtin_function_or_method") [vu "object.__init_subclass__",vr 82]
def o85:Obj:=tu [vr 40]
def o86:Obj:=fl (vt "builtin_function_or_method") [vu "type.__prepare__",vt "type"]
def o87 (P:Params):Obj:=di P [en "__module__" 361 (vs "gemrows.things" 194),en "__qualname__" 363 (vs "TableThing" 362),en "__firstlineno__" 365 (vi 29 364),en "__init__" 374 (vr 98),en "put" 385 (vr 105),en "row" 393 (vr 112),en "pairs" 399 (vr 117),en "__static_attributes__" 402 (vr 118)] 8
def o88:Obj:=tu []
def o89:Obj:=fl vn [vi 31 0,vi 4 0,vr 97,vi 36 0,vi 4 0,vr 104,vi 44 0,vi 4 0,vr 111,vi 47 0,vi 4 0,vr 116]
def o90:Obj:=cd "TableThing" "TableThing" 356 29 0 0 88 false 89 vn vn vn vn 359
def o91:Obj:={cls:=(vt "frame"),slots:=(List.toArray [some (vr 90),some (vr 3),some (vr 87),none,some (vs "gemrows.things" 194),none,some (vr 0)])}
def o92:Obj:=tu []
def o93:Obj:=fl vn []
def o94:Obj:=tu [vs "self" 369,vs "number" 370,vs "owner" 371]
def o95:Obj:=tu []
def o96:Obj:=f0 (sC 10 0) "TableThing.__init__" 0 0
def o97:Obj:=cd "__init__" "TableThing.__init__" 366 31 3 3 92 true 93 vn (vr 94) (vr 95) (vr 96) 372
def o98:Obj:=f1 (sC 10 0) "TableThing.__init__" 3 vn "gemrows.things" 194 97 0
def o99:Obj:=tu []
def Xen:Obj:=fl vn []
def Q5:Obj:=tu [vs "self" 378,vs "key" 379,vs "value" 380,vs "code" 381,vs "row" 382]
def Ip:Obj:=tu []
def XdM:Obj:=f0 (sC 10 1) "TableThing.put" 0 0
def Uv:Obj:=cd "put" "TableThing.put" 375 36 3 3 99 true 100 vn (vr 101) (vr 102) (vr 103) 383
def GF:Obj:=f1 (sC 10 1) "TableThing.put" 3 vn "gemrows.things" 194 104 0
def Sw:Obj:=tu []
def XcU:Obj:=fl vn []
def VG:Obj:=tu [vs "self" 389,vs "key" 390]
def MW:Obj:=tu []
def Xck:Obj:=f0 (sC 10 2) "TableThing.row" 0 0
def Ot:Obj:=cd "row" "TableThing.row" 386 44 2 3 106 true 107 vn (vr 108) (vr 109) (vr 110) 391
def Iq:Obj:=f1 (sC 10 2) "TableThing.row" 3 vn "gemrows.things" 194 111 0
def Km:Obj:=tu []
def XcS:Obj:=fl vn []
def Xda:Obj:=f0 (sC 10 3) "TableThing.pairs" 0 0
def QN:Obj:=cd "pairs" "TableThing.pairs" 394 47 1 3 113 true 114 vn vn vn (vr 115) 397
def TC:Obj:=f1 (sC 10 3) "TableThing.pairs" 3 vn "gemrows.things" 194 116 0
def Qk:Obj:=tu [vs "rows" 400,vs "spare" 401]
def QQ (P:Params):Obj:=di P [en "__module__" 361 (vs "gemrows.things" 194),en "__firstlineno__" 365 (vi 29 364),en "__init__" 374 (vr 98),en "put" 385 (vr 105),en "row" 393 (vr 112),en "pairs" 399 (vr 117),en "__static_attributes__" 402 (vr 118),en "__doc__" 403 vn] 2
def Qe:Obj:={cls:=(vt "type"),data:=.cls {name:="TableThing",bases:=[vr 40],mro:=[vr 120,vr 40,vt "object"],ns:=119,qualname:="TableThing",hasDict:=true,slotNames:=[],subclasses:=[],abstract:=false,collection:=none,hasDel:=false},slots:=(List.toArray [some (vr 85),none,some (vs "TableThing" 354),some (vs "TableThing" 362),some (vu "object.__new__"),some (vb true)])}
def XdE:Obj:=fl (vt "super") [vr 120,vr 120,vr 120]
def Xfn:Obj:=fl (vt "builtin_function_or_method") [vu "object.__init_subclass__",vr 120]
def TZ:Obj:=tu [vr 40]
def XfB:Obj:=fl (vt "builtin_function_or_method") [vu "type.__prepare__",vt "type"]
def Xdk (P:Params):Obj:=di P [en "__module__" 413 (vs "gemrows.things" 194),en "__qualname__" 415 (vs "RangeThing" 414),en "__firstlineno__" 417 (vi 49 416),en "__init__" 429 (vr 137),en "__static_attributes__" 433 (vr 138)] 5
def Xbx:Obj:=tu []
def Xc1:Obj:=fl vn [vi 51 0,vi 4 0,vr 136]
def XdG:Obj:=cd "RangeThing" "RangeThing" 408 49 0 0 126 false 127 vn vn vn vn 411
def Xdx:Obj:={cls:=(vt "frame"),slots:=(List.toArray [some (vr 128),some (vr 3),some (vr 125),none,some (vs "gemrows.things" 194),none,some (vr 0)])}
def HJ:Obj:=tu [vn,vn,vb false]
def Qq:Obj:=tu []
def WO:Obj:=fl vn []
def SS:Obj:=tu [vs "self" 421,vs "number" 422,vs "owner" 423,vs "first" 424,vs "last" 425,vs "is_open" 426]
def RR:Obj:=tu []
def XcD:Obj:=f0 (sC 11 0) "RangeThing.__init__" 0 0
def UZ:Obj:=cd "__init__" "RangeThing.__init__" 418 51 6 3 131 true 132 vn (vr 133) (vr 134) (vr 135) 427
def A7:Obj:=f1 (sC 11 0) "RangeThing.__init__" 3 (vr 130) "gemrows.things" 194 136 0
def IA:Obj:=tu [vs "first" 430,vs "last" 431,vs "open" 432]
def TY (P:Params):Obj:=di P [en "__module__" 413 (vs "gemrows.things" 194),en "__firstlineno__" 417 (vi 49 416),en "__init__" 429 (vr 137),en "__static_attributes__" 433 (vr 138),en "__doc__" 434 vn] 2
def UA:Obj:={cls:=(vt "type"),data:=.cls {name:="RangeThing",bases:=[vr 40],mro:=[vr 140,vr 40,vt "object"],ns:=139,qualname:="RangeThing",hasDict:=true,slotNames:=[],subclasses:=[],abstract:=false,collection:=none,hasDel:=false},slots:=(List.toArray [some (vr 123),none,some (vs "RangeThing" 406),some (vs "RangeThing" 414),some (vu "object.__new__"),some (vb true)])}
def XdX:Obj:=fl (vt "super") [vr 140,vr 140,vr 140]
def XbI:Obj:=fl (vt "builtin_function_or_method") [vu "object.__init_subclass__",vr 140]
def MG:Obj:=tu [vr 40]
def XaL:Obj:=fl (vt "builtin_function_or_method") [vu "type.__prepare__",vt "type"]
def Xd2 (P:Params):Obj:=di P [en "__module__" 444 (vs "gemrows.things" 194),en "__qualname__" 446 (vs "ProcThing" 445),en "__firstlineno__" 448 (vi 56 447),en "__init__" 466 (vr 158),en "__static_attributes__" 476 (vr 159)] 5
def Xek:Obj:=tu []
def XbY:Obj:=fl vn [vi 58 0,vi 4 0,vr 157]
def Xc4:Obj:=cd "ProcThing" "ProcThing" 439 56 0 0 146 false 147 vn vn vn vn 442
def WM:Obj:={cls:=(vt "frame"),slots:=(List.toArray [some (vr 148),some (vr 3),some (vr 145),none,some (vs "gemrows.things" 194),none,some (vr 0)])}
def TI:Obj:=tu []
def IN:Obj:=tu [vn,vn,vn,vn,vr 150,vn,vn,vb false,vn]
def Pt:Obj:=tu []
def Xai:Obj:=fl vn []
def SN:Obj:=tu [vs "self" 452,vs "number" 453,vs "owner" 454,vs "params" 455,vs "body" 456,vs "env" 457,vs "self_value" 458,vs "nesting" 459,vs "home" 460,vs "site" 461,vs "is_lambda" 462,vs "definer" 463]
def Jr:Obj:=tu []
def Xbb:Obj:=f0 (sC 12 0) "ProcThing.__init__" 0 0
def SC:Obj:=cd "__init__" "ProcThing.__init__" 449 58 12 3 152 true 153 vn (vr 154) (vr 155) (vr 156) 464
def UF:Obj:=f1 (sC 12 0) "ProcThing.__init__" 3 (vr 151) "gemrows.things" 194 157 0
def Uq:Obj:=tu [vs "body" 467,vs "definer" 468,vs "env" 469,vs "home" 470,vs "is_lambda" 471,vs "nesting" 472,vs "params" 473,vs "self_value" 474,vs "site" 475]
def Jz (P:Params):Obj:=di P [en "__module__" 444 (vs "gemrows.things" 194),en "__firstlineno__" 448 (vi 56 447),en "__init__" 466 (vr 158),en "__static_attributes__" 476 (vr 159),en "__doc__" 477 vn] 2
def Ug:Obj:={cls:=(vt "type"),data:=.cls {name:="ProcThing",bases:=[vr 40],mro:=[vr 161,vr 40,vt "object"],ns:=160,qualname:="ProcThing",hasDict:=true,slotNames:=[],subclasses:=[],abstract:=false,collection:=none,hasDel:=false},slots:=(List.toArray [some (vr 143),none,some (vs "ProcThing" 437),some (vs "ProcThing" 445),some (vu "object.__new__"),some (vb true)])}
def XcA:Obj:=fl (vt "super") [vr 161,vr 161,vr 161]
def Wr:Obj:=fl (vt "builtin_function_or_method") [vu "object.__init_subclass__",vr 161]
def LN:Obj:=tu [vr 40]
def WR:Obj:=fl (vt "builtin_function_or_method") [vu "type.__prepare__",vt "type"]
def Xfv (P:Params):Obj:=di P [en "__module__" 487 (vs "gemrows.things" 194),en "__qualname__" 489 (vs "ErrorThing" 488),en "__firstlineno__" 491 (vi 69 490),en "__init__" 501 (vr 178),en "__static_attributes__" 504 (vr 179)] 5
def Xfq:Obj:=tu []
def Xep:Obj:=fl vn [vi 71 0,vi 4 0,vr 177]
def Xar:Obj:=cd "ErrorThing" "ErrorThing" 482 69 0 0 167 false 168 vn vn vn vn 485
def XaJ:Obj:={cls:=(vt "frame"),slots:=(List.toArray [some (vr 169),some (vr 3),some (vr 166),none,some (vs "gemrows.things" 194),none,some (vr 0)])}
def R3:Obj:=tu [vn]
def K2:Obj:=tu []
def Xdh:Obj:=fl vn []
def Qa:Obj:=tu [vs "self" 495,vs "number" 496,vs "owner" 497,vs "message" 498]
def UJ:Obj:=tu []
def Wu:Obj:=f0 (sC 13 0) "ErrorThing.__init__" 0 0
def PW:Obj:=cd "__init__" "ErrorThing.__init__" 492 71 4 3 172 true 173 vn (vr 174) (vr 175) (vr 176) 499
def Hg:Obj:=f1 (sC 13 0) "ErrorThing.__init__" 3 (vr 171) "gemrows.things" 194 177 0
def Mr:Obj:=tu [vs "cause" 502,vs "message" 503]
def Mc (P:Params):Obj:=di P [en "__module__" 487 (vs "gemrows.things" 194),en "__firstlineno__" 491 (vi 69 490),en "__init__" 501 (vr 178),en "__static_attributes__" 504 (vr 179),en "__doc__" 505 vn] 2
def K4:Obj:={cls:=(vt "type"),data:=.cls {name:="ErrorThing",bases:=[vr 40],mro:=[vr 181,vr 40,vt "object"],ns:=180,qualname:="ErrorThing",hasDict:=true,slotNames:=[],subclasses:=[],abstract:=false,collection:=none,hasDel:=false},slots:=(List.toArray [some (vr 164),none,some (vs "ErrorThing" 480),some (vs "ErrorThing" 488),some (vu "object.__new__"),some (vb true)])}
def XeV:Obj:=fl (vt "super") [vr 181,vr 181,vr 181]
def XdK:Obj:=fl (vt "builtin_function_or_method") [vu "object.__init_subclass__",vr 181]
def NA:Obj:=tu [vr 40]
def Xct:Obj:=fl (vt "builtin_function_or_method") [vu "type.__prepare__",vt "type"]
def Xcr (P:Params):Obj:=di P [en "__module__" 515 (vs "gemrows.things" 194),en "__qualname__" 517 (vs "FiberThing" 516),en "__firstlineno__" 519 (vi 75 518),en "__init__" 529 (vr 198),en "__static_attributes__" 534 (vr 199)] 5
def XeK:Obj:=tu []
def Xej:Obj:=fl vn [vi 77 0,vi 4 0,vr 197]
def Xdz:Obj:=cd "FiberThing" "FiberThing" 510 75 0 0 187 false 188 vn vn vn vn 513
def Xe3:Obj:={cls:=(vt "frame"),slots:=(List.toArray [some (vr 189),some (vr 3),some (vr 186),none,some (vs "gemrows.things" 194),none,some (vr 0)])}
def NT:Obj:=tu [vn]
def Pa:Obj:=tu []
def Xb1:Obj:=fl vn []
def Rr:Obj:=tu [vs "self" 523,vs "number" 524,vs "owner" 525,vs "proc" 526]
def M3:Obj:=tu []
def Wk:Obj:=f0 (sC 14 0) "FiberThing.__init__" 0 0
def LM:Obj:=cd "__init__" "FiberThing.__init__" 520 77 4 3 192 true 193 vn (vr 194) (vr 195) (vr 196) 527
def N7:Obj:=f1 (sC 14 0) "FiberThing.__init__" 3 (vr 191) "gemrows.things" 194 197 0
def Jw:Obj:=tu [vs "back" 530,vs "proc" 531,vs "rows" 532,vs "state" 533]
def VX (P:Params):Obj:=di P [en "__module__" 515 (vs "gemrows.things" 194),en "__firstlineno__" 519 (vi 75 518),en "__init__" 529 (vr 198),en "__static_attributes__" 534 (vr 199),en "__doc__" 535 vn] 2
def Tl:Obj:={cls:=(vt "type"),data:=.cls {name:="FiberThing",bases:=[vr 40],mro:=[vr 201,vr 40,vt "object"],ns:=200,qualname:="FiberThing",hasDict:=true,slotNames:=[],subclasses:=[],abstract:=false,collection:=none,hasDel:=false},slots:=(List.toArray [some (vr 184),none,some (vs "FiberThing" 508),some (vs "FiberThing" 516),some (vu "object.__new__"),some (vb true)])}
def XeS:Obj:=fl (vt "super") [vr 201,vr 201,vr 201]
def Xeq:Obj:=fl (vt "builtin_function_or_method") [vu "object.__init_subclass__",vr 201]
def SL:Obj:=tu [vr 40]
def Xa0:Obj:=fl (vt "builtin_function_or_method") [vu "type.__prepare__",vt "type"]
def Xdm (P:Params):Obj:=di P [en "__module__" 545 (vs "gemrows.things" 194),en "__qualname__" 547 (vs "ModuleThing" 546),en "__firstlineno__" 549 (vi 83 548),en "__init__" 562 (vr 218),en "is_own" 569 (vr 225),en "__static_attributes__" 581 (vr 226)] 6
def XeT:Obj:=tu []
def Xdp:Obj:=fl vn [vi 85 0,vi 4 0,vr 217,vi 99 0,vi 4 0,vr 224]
def XfL:Obj:=cd "ModuleThing" "ModuleThing" 540 83 0 0 207 false 208 vn vn vn vn 543
def XeW:Obj:={cls:=(vt "frame"),slots:=(List.toArray [some (vr 209),some (vr 3),some (vr 206),none,some (vs "gemrows.things" 194),none,some (vr 0)])}
def LY:Obj:=tu [vn,vb false,vn,vn]
def PH:Obj:=tu []
def Xad:Obj:=fl vn []
def JT:Obj:=tu [vs "self" 553,vs "number" 554,vs "owner" 555,vs "name" 556,vs "is_class" 557,vs "parent" 558,vs "outer" 559]
def Kz:Obj:=tu []
def XeD:Obj:=f0 (sC 15 0) "ModuleThing.__init__" 0 0
def SI:Obj:=cd "__init__" "ModuleThing.__init__" 550 85 7 3 212 true 213 vn (vr 214) (vr 215) (vr 216) 560
def wK:Obj:=f1 (sC 15 0) "ModuleThing.__init__" 3 (vr 211) "gemrows.things" 194 217 0
def QD:Obj:=tu []
def Xex:Obj:=fl vn []
def Ie:Obj:=tu [vs "self" 566]
def Kj:Obj:=tu []
def Xdf:Obj:=f0 (sC 15 1) "ModuleThing.is_own" 0 0
def LR:Obj:=cd "is_own" "ModuleThing.is_own" 563 99 1 3 219 true 220 vn (vr 221) (vr 222) (vr 223) 567
def z9:Obj:=f1 (sC 15 1) "ModuleThing.is_own" 3 vn "gemrows.things" 194 224 0
def Un:Obj:=tu [vs "ahead" 570,vs "attached" 571,vs "constants" 572,vs "is_class" 573,vs "kept" 574,vs "methods" 575,vs "mixed" 576,vs "name" 577,vs "native" 578,vs "outer" 579,vs "parent" 580]
def KU (P:Params):Obj:=di P [en "__module__" 545 (vs "gemrows.things" 194),en "__firstlineno__" 549 (vi 83 548),en "__init__" 562 (vr 218),en "is_own" 569 (vr 225),en "__static_attributes__" 581 (vr 226),en "__doc__" 582 vn] 2
def NU:Obj:={cls:=(vt "type"),data:=.cls {name:="ModuleThing",bases:=[vr 40],mro:=[vr 228,vr 40,vt "object"],ns:=227,qualname:="ModuleThing",hasDict:=true,slotNames:=[],subclasses:=[],abstract:=false,collection:=none,hasDel:=false},slots:=(List.toArray [some (vr 204),none,some (vs "ModuleThing" 538),some (vs "ModuleThing" 546),some (vu "object.__new__"),some (vb true)])}
def WE:Obj:=fl (vt "super") [vr 228,vr 228,vr 228]
def XaF:Obj:=fl (vt "builtin_function_or_method") [vu "object.__init_subclass__",vr 228]
def UX:Obj:=tu []
def Xcv:Obj:=fl vn []
def PL:Obj:=tu [vs "value" 588]
def VR:Obj:=tu []
def WL:Obj:=f0 (sT 16) "is_int" 0 0
def QA:Obj:=cd "is_int" "is_int" 585 101 1 3 231 true 232 vn (vr 233) (vr 234) (vr 235) 589
def AP:Obj:=f1 (sT 16) "is_int" 3 vn "gemrows.things" 194 236 0
def Kf:Obj:=tu []
def WK:Obj:=fl vn []
def Iu:Obj:=tu [vs "value" 595]
def US:Obj:=tu []
def Xfu:Obj:=f0 (sT 17) "sort_of" 0 0
def Kk:Obj:=cd "sort_of" "sort_of" 592 103 1 3 238 true 239 vn (vr 240) (vr 241) (vr 242) 596
def AV:Obj:=f1 (sT 17) "sort_of" 3 vn "gemrows.things" 194 243 0
def Lc:Obj:=tu []
def Xfb:Obj:=fl vn []
def Pz:Obj:=tu [vs "one" 602,vs "other" 603,vs "sort" 604]
def U4:Obj:=tu []
def XdQ:Obj:=f0 (sT 18) "same" 0 0
def R5:Obj:=cd "same" "same" 599 111 2 3 245 true 246 vn (vr 247) (vr 248) (vr 249) 605
def D0:Obj:=f1 (sT 18) "same" 3 vn "gemrows.things" 194 250 0
def NV:Obj:=tu []
def XdL:Obj:=fl vn []
def J6:Obj:=tu [vs "room" 611,vs "many" 612]
def Ml:Obj:=tu []
def Xaa:Obj:=f0 (sT 19) "takes_in" 0 0
def Qm:Obj:=cd "takes_in" "takes_in" 608 116 2 3 252 true 253 vn (vr 254) (vr 255) (vr 256) 613
def RJ:Obj:=f1 (sT 19) "takes_in" 3 vn "gemrows.things" 194 257 0
def Qn:Obj:=tu [vi 12 260,vn]
def VW:Obj:=tu []
def Xbv:Obj:=fl vn []
def Xel:Obj:=f0 (sT 20) "code_of" 0 0
def I8:Obj:=cd "code_of" "code_of" 616 121 3 3 260 true 261 vn vn vn (vr 262) 619
def Hl:Obj:=f1 (sT 20) "code_of" 3 (vr 259) "gemrows.things" 194 263 0
def PS:Obj:=tu []
def Xfp:Obj:=fl vn []
def S9:Obj:=tu [vs "text" 625,vs "letter" 626]
def Uo:Obj:=tu []
def XaM:Obj:=f0 (sT 21) "is_word" 0 0
def L4:Obj:=cd "is_word" "is_word" 622 136 1 3 265 true 266 vn (vr 267) (vr 268) (vr 269) 627
def HH:Obj:=f1 (sT 21) "is_word" 3 vn "gemrows.things" 194 270 0
def Vp:Obj:=tu []
def Xca:Obj:=fl vn []
def Xew:Obj:=f0 (sT 22) "is_figures" 0 0
def Ja:Obj:=cd "is_figures" "is_figures" 630 143 1 3 272 true 273 vn vn vn (vr 274) 633
def Nq:Obj:=f1 (sT 22) "is_figures" 3 vn "gemrows.things" 194 275 0
def HO:Obj:=tu []
def Xee:Obj:=fl vn []
def HR:Obj:=tu [vs "name" 639]
def Ig:Obj:=tu []
def Wm:Obj:=f0 (sT 23) "is_label" 0 0
def K8:Obj:=cd "is_label" "is_label" 636 145 1 3 277 true 278 vn (vr 279) (vr 280) (vr 281) 640
def N6:Obj:=f1 (sT 23) "is_label" 3 vn "gemrows.things" 194 282 0
def Rl:Obj:=tu []
def XbH:Obj:=fl vn []
def TQ:Obj:=tu [vs "name" 646]
def Ov:Obj:=tu []
def XeJ:Obj:=f0 (sT 24) "is_plain_symbol" 0 0
def TA:Obj:=cd "is_plain_symbol" "is_plain_symbol" 643 147 1 3 284 true 285 vn (vr 286) (vr 287) (vr 288) 647
def KT:Obj:=f1 (sT 24) "is_plain_symbol" 3 vn "gemrows.things" 194 289 0
def LB:Obj:=tu []
def Xcj:Obj:=fl vn []
def UT:Obj:=tu [vs "module" 653,vs "ahead" 654,vs "behind" 655,vs "met" 656]
def PG:Obj:=tu []
def XbL:Obj:=f0 (sT 25) "full_name" 0 0
def RE:Obj:=cd "full_name" "full_name" 650 157 1 3 291 true 292 vn (vr 293) (vr 294) (vr 295) 657
def Fk:Obj:=f1 (sT 25) "full_name" 3 vn "gemrows.things" 194 296 0
def Ia:Obj:=tu []
def XeR:Obj:=fl vn []
def LJ:Obj:=tu [vs "letter" 663,vs "follower" 664,vs "number" 665,vs "figures" 666]
def Sr:Obj:=tu []
def Xcl:Obj:=f0 (sT 26) "show_letter" 0 0
def Rn:Obj:=cd "show_letter" "show_letter" 660 172 2 3 298 true 299 vn (vr 300) (vr 301) (vr 302) 667
def Vo:Obj:=f1 (sT 26) "show_letter" 3 vn "gemrows.things" 194 303 0
def Uh:Obj:=tu []
def XdI:Obj:=fl vn []
def Xfe:Obj:=f0 (sT 27) "show_text" 0 0
def Vb:Obj:=cd "show_text" "show_text" 670 182 1 3 305 true 306 vn vn vn (vr 307) 673
def Qt:Obj:=f1 (sT 27) "show_text" 3 vn "gemrows.things" 194 308 0
def Ps:Obj:=tu []
def XcZ:Obj:=fl vn []
def PV:Obj:=tu [vs "name" 679]
def Vj:Obj:=tu []
def Wo:Obj:=f0 (sT 28) "show_symbol" 0 0
def Q4:Obj:=cd "show_symbol" "show_symbol" 676 185 1 3 310 true 311 vn (vr 312) (vr 313) (vr 314) 680
def JV:Obj:=f1 (sT 28) "show_symbol" 3 vn "gemrows.things" 194 315 0
def P8:Obj:=tu []
def XbN:Obj:=fl vn []
def VQ:Obj:=tu [vs "key" 686,vs "value" 687,vs "deep" 688,vs "room" 689]
def Q1:Obj:=tu []
def Xaw:Obj:=f0 (sT 29) "show_pair" 0 0
def J8:Obj:=cd "show_pair" "show_pair" 683 187 4 3 317 true 318 vn (vr 319) (vr 320) (vr 321) 690
def Sc:Obj:=f1 (sT 29) "show_pair" 3 vn "gemrows.things" 194 322 0
def MQ:Obj:=tu []
def Xfy:Obj:=fl vn []
def L9:Obj:=tu [vs "value" 696,vs "deep" 697,vs "room" 698,vs "first" 699,vs "last" 700]
def Qb:Obj:=tu []
def XaH:Obj:=f0 (sT 30) "show_range" 0 0
def Vu:Obj:=cd "show_range" "show_range" 693 191 3 3 324 true 325 vn (vr 326) (vr 327) (vr 328) 701
def Kr:Obj:=f1 (sT 30) "show_range" 3 vn "gemrows.things" 194 329 0
def N2:Obj:=tu []
def Xe6:Obj:=fl vn []
def Xfs:Obj:=f0 (sT 31) "show_held" 0 0
def IR:Obj:=cd "show_held" "show_held" 704 195 3 3 331 true 332 vn vn vn (vr 333) 707
def Qr:Obj:=f1 (sT 31) "show_held" 3 vn "gemrows.things" 194 334 0
def VJ:Obj:=tu []
def XbS:Obj:=fl vn []
def HL:Obj:=tu [vs "value" 713,vs "deep" 714,vs "room" 715,vs "name" 716,vs "told" 717]
def TR:Obj:=tu []
def XdY:Obj:=f0 (sT 32) "show_thing" 0 0
def HW:Obj:=cd "show_thing" "show_thing" 710 205 3 3 336 true 337 vn (vr 338) (vr 339) (vr 340) 718
def Vk:Obj:=f1 (sT 32) "show_thing" 3 vn "gemrows.things" 194 341 0
def Q8:Obj:=tu [vi 6 721,vn]
def UV:Obj:=tu []
def WN:Obj:=fl vn []
def R4:Obj:=tu [vs "error" 725,vs "deep" 726,vs "room" 727,vs "met" 728,vs "message" 729]
def Nt:Obj:=tu []
def Xao:Obj:=f0 (sT 33) "message_text" 0 0
def JP:Obj:=cd "message_text" "message_text" 722 219 3 3 344 true 345 vn (vr 346) (vr 347) (vr 348) 730
def Kd:Obj:=f1 (sT 33) "message_text" 3 (vr 343) "gemrows.things" 194 349 0
def Iy:Obj:=tu [vi 6 733,vn]
def SR:Obj:=tu []
def Xbt:Obj:=fl vn []
def OC:Obj:=tu [vs "value" 737,vs "deep" 738,vs "room" 739,vs "sort" 740]
def OU:Obj:=tu []
def Xaf:Obj:=f0 (sT 34) "show" 0 0
def O8:Obj:=cd "show" "show" 734 230 3 3 352 true 353 vn (vr 354) (vr 355) (vr 356) 741
def CO:Obj:=f1 (sT 34) "show" 3 (vr 351) "gemrows.things" 194 357 0
def Ry:Obj:=tu []
def XeL:Obj:=fl vn []
def MX:Obj:=tu [vs "world" 749,vs "value" 750]
def T8:Obj:=tu []
def XfJ:Obj:=f0 (sT 36) "kind_word" 0 0
def KB:Obj:=cd "kind_word" "kind_word" 746 242 2 3 359 true 360 vn (vr 361) (vr 362) (vr 363) 751
def Bq:Obj:=f1 (sT 36) "kind_word" 3 vn "gemrows.needs" 744 364 0
def VB:Obj:=tu []
def XcJ:Obj:=fl vn []
def NQ:Obj:=tu [vs "world" 757,vs "value" 758]
def Jf:Obj:=tu []
def Xc0:Obj:=f0 (sT 37) "need_int" 0 0
def UC:Obj:=cd "need_int" "need_int" 754 248 2 3 366 true 367 vn (vr 368) (vr 369) (vr 370) 759
def Gk:Obj:=f1 (sT 37) "need_int" 3 vn "gemrows.needs" 744 371 0
def RQ:Obj:=tu []
def XbR:Obj:=fl vn []
def RD:Obj:=tu [vs "world" 765,vs "thing" 766]
def Lh:Obj:=tu []
def Xce:Obj:=f0 (sT 38) "need_open" 0 0
def PX:Obj:=cd "need_open" "need_open" 762 254 2 3 373 true 374 vn (vr 375) (vr 376) (vr 377) 767
def Ag:Obj:=f1 (sT 38) "need_open" 3 vn "gemrows.needs" 744 378 0
def Q2:Obj:=tu []
def XdR:Obj:=fl vn []
def TS:Obj:=tu [vs "world" 773,vs "span" 774,vs "size" 775,vs "first" 776,vs "last" 777]
def IO:Obj:=tu []
def Xdu:Obj:=f0 (sT 39) "limits_of" 0 0
def TN:Obj:=cd "limits_of" "limits_of" 770 257 3 3 380 true 381 vn (vr 382) (vr 383) (vr 384) 778
def DA:Obj:=f1 (sT 39) "limits_of" 3 vn "gemrows.needs" 744 385 0
def Oz:Obj:=tu []
def XcK:Obj:=fl vn []
def IG:Obj:=tu [vs "world" 784,vs "args" 785,vs "size" 786,vs "first" 787,vs "last" 788,vs "count" 789]
def NK:Obj:=tu []
def Xcx:Obj:=f0 (sT 40) "span_in" 0 0
def TF:Obj:=cd "span_in" "span_in" 781 267 3 3 387 true 388 vn (vr 389) (vr 390) (vr 391) 790
def GZ:Obj:=f1 (sT 40) "span_in" 3 vn "gemrows.needs" 744 392 0
def KD:Obj:=tu []
def XfD:Obj:=fl vn []
def Pn:Obj:=tu [vs "world" 796,vs "value" 797,vs "size" 798,vs "place" 799]
def Th:Obj:=tu []
def WP:Obj:=f0 (sT 41) "place_of" 0 0
def Rk:Obj:=cd "place_of" "place_of" 793 278 3 3 394 true 395 vn (vr 396) (vr 397) (vr 398) 800
def EZ:Obj:=f1 (sT 41) "place_of" 3 vn "gemrows.needs" 744 399 0
def RH:Obj:=tu [vt "ValueError"]
def Xaz:Obj:=fl (vt "builtin_function_or_method") [vu "type.__prepare__",vt "type"]
def XdD (P:Params):Obj:=di P [en "__module__" 812 (vs "gemrows.errors" 803),en "__qualname__" 814 (vs "GemError" 813),en "__firstlineno__" 816 (vi 282 815),en "__init__" 825 (vr 415),en "__static_attributes__" 827 (vr 416)] 5
def XbG:Obj:=tu []
def Xfd:Obj:=fl vn [vi 284 0,vi 4 0,vr 414]
def WF:Obj:=cd "GemError" "GemError" 807 282 0 0 404 false 405 vn vn vn vn 810
def Xd1:Obj:={cls:=(vt "frame"),slots:=(List.toArray [some (vr 406),some (vr 3),some (vr 403),none,some (vs "gemrows.errors" 803),none,some (vr 0)])}
def K3:Obj:=tu [vs "" 817]
def TJ:Obj:=tu []
def XdP:Obj:=fl vn []
def J3:Obj:=tu [vs "self" 821,vs "reason" 822]
def Ms:Obj:=tu []
def Xd3:Obj:=f0 (sC 43 0) "GemError.__init__" 0 0
def Kn:Obj:=cd "__init__" "GemError.__init__" 818 284 2 3 409 true 410 vn (vr 411) (vr 412) (vr 413) 823
def GC:Obj:=f1 (sC 43 0) "GemError.__init__" 3 (vr 408) "gemrows.errors" 803 414 0
def Kt:Obj:=tu [vs "reason" 826]
def Rp (P:Params):Obj:=di P [en "__module__" 812 (vs "gemrows.errors" 803),en "__firstlineno__" 816 (vi 282 815),en "__init__" 825 (vr 415),en "__static_attributes__" 827 (vr 416),en "__weakref__" 829 (vr 419),en "__doc__" 830 vn] 3
def Me:Obj:={cls:=(vt "type"),data:=.cls {name:="GemError",bases:=[vt "ValueError"],mro:=[vr 418,vt "ValueError",vt "Exception",vt "BaseException",vt "object"],ns:=417,qualname:="GemError",hasDict:=true,slotNames:=[],subclasses:=[vr 438],abstract:=false,collection:=none,hasDel:=false},slots:=(List.toArray [some (vr 401),none,some (vs "GemError" 805),some (vs "GemError" 813),some (vu "ValueError.__new__"),some (vb true)])}
def NR:Obj:=fl (vt "getset_descriptor") [vs "__weakref__" 828,vr 418,vu "ExceptionGroup.__weakref__",vn]
def Xe1:Obj:=fl (vt "super") [vr 418,vr 418,vr 418]
def XcH:Obj:=fl (vt "builtin_function_or_method") [vu "object.__init_subclass__",vr 418]
def JK:Obj:=tu [vr 418]
def Xdq:Obj:=fl (vt "builtin_function_or_method") [vu "type.__prepare__",vt "type"]
def Wl (P:Params):Obj:=di P [en "__module__" 840 (vs "gemrows.errors" 803),en "__qualname__" 842 (vs "Raised" 841),en "__firstlineno__" 844 (vi 287 843),en "__init__" 852 (vr 435),en "__static_attributes__" 854 (vr 436)] 5
def XcI:Obj:=tu []
def Xer:Obj:=fl vn [vi 289 0,vi 4 0,vr 434]
def Xcb:Obj:=cd "Raised" "Raised" 835 287 0 0 425 false 426 vn vn vn vn 838
def XcX:Obj:={cls:=(vt "frame"),slots:=(List.toArray [some (vr 427),some (vr 3),some (vr 424),none,some (vs "gemrows.errors" 803),none,some (vr 0)])}
def VC:Obj:=tu []
def XdZ:Obj:=fl vn []
def MD:Obj:=tu [vs "self" 848,vs "thing" 849]
def Im:Obj:=tu []
def XeY:Obj:=f0 (sC 44 0) "Raised.__init__" 0 0
def LZ:Obj:=cd "__init__" "Raised.__init__" 845 289 2 3 429 true 430 vn (vr 431) (vr 432) (vr 433) 850
def z6:Obj:=f1 (sC 44 0) "Raised.__init__" 3 vn "gemrows.errors" 803 434 0
def TX:Obj:=tu [vs "thing" 853]
def UG (P:Params):Obj:=di P [en "__module__" 840 (vs "gemrows.errors" 803),en "__firstlineno__" 844 (vi 287 843),en "__init__" 852 (vr 435),en "__static_attributes__" 854 (vr 436),en "__doc__" 855 vn] 2
def Sm:Obj:={cls:=(vt "type"),data:=.cls {name:="Raised",bases:=[vr 418],mro:=[vr 438,vr 418,vt "ValueError",vt "Exception",vt "BaseException",vt "object"],ns:=437,qualname:="Raised",hasDict:=true,slotNames:=[],subclasses:=[],abstract:=false,collection:=none,hasDel:=false},slots:=(List.toArray [some (vr 422),none,some (vs "Raised" 833),some (vs "Raised" 841),some (vu "ValueError.__new__"),some (vb true)])}
def Xdd:Obj:=fl (vt "super") [vr 438,vr 438,vr 438]
def XcF:Obj:=fl (vt "builtin_function_or_method") [vu "object.__init_subclass__",vr 438]
def HV:Obj:=tu []
def Xez:Obj:=fl vn []
def IY:Obj:=tu [vs "world" 863,vs "self" 864,vs "args" 865,vs "place" 866]
def LU:Obj:=tu []
def XeE:Obj:=f0 (sT 46) "list_item" 0 0
def K6:Obj:=cd "list_item" "list_item" 860 293 3 3 441 true 442 vn (vr 443) (vr 444) (vr 445) 867
def GW:Obj:=f1 (sT 46) "list_item" 3 vn "gemrows.lists" 858 446 0
def Sb:Obj:=tu []
def WJ:Obj:=fl vn []
def MO:Obj:=tu [vs "world" 873,vs "self" 874,vs "args" 875,vs "span" 876]
def Md:Obj:=tu []
def XaR:Obj:=f0 (sT 47) "list_at" 0 0
def Ib:Obj:=cd "list_at" "list_at" 870 296 3 3 448 true 449 vn (vr 450) (vr 451) (vr 452) 877
def zT:Obj:=f1 (sT 47) "list_at" 3 vn "gemrows.lists" 858 453 0
def I2:Obj:=tu []
def Xdt:Obj:=fl vn []
def Tm:Obj:=tu [vs "world" 883,vs "self" 884,vs "args" 885,vs "span" 886,vs "gone" 887]
def NF:Obj:=tu []
def Xc3:Obj:=f0 (sT 48) "list_slice_out" 0 0
def S6:Obj:=cd "list_slice_out" "list_slice_out" 880 301 3 3 455 true 456 vn (vr 457) (vr 458) (vr 459) 888
def DJ:Obj:=f1 (sT 48) "list_slice_out" 3 vn "gemrows.lists" 858 460 0
def Sv:Obj:=tu []
def Wj:Obj:=fl vn []
def UN:Obj:=tu [vs "world" 894,vs "self" 895,vs "args" 896,vs "place" 897]
def Qi:Obj:=tu []
def Xas:Obj:=f0 (sT 49) "list_delete_at" 0 0
def Qu:Obj:=cd "list_delete_at" "list_delete_at" 891 311 3 3 462 true 463 vn (vr 464) (vr 465) (vr 466) 898
def Bf:Obj:=f1 (sT 49) "list_delete_at" 3 vn "gemrows.lists" 858 467 0
def LL:Obj:=tu []
def Xfl:Obj:=fl vn []
def IX:Obj:=tu [vs "world" 906,vs "value" 907,vs "name" 908]
def Io:Obj:=tu []
def XdJ:Obj:=f0 (sT 51) "whole" 0 0
def P2:Obj:=cd "whole" "whole" 903 316 2 3 469 true 470 vn (vr 471) (vr 472) (vr 473) 909
def Fi:Obj:=f1 (sT 51) "whole" 3 vn "gemrows.numbers" 901 474 0
def NS:Obj:=tu []
def XeP:Obj:=fl vn []
def Kb:Obj:=tu [vs "world" 917,vs "one" 918]
def TH:Obj:=tu []
def Xdg:Obj:=f0 (sT 53) "need_free" 0 0
def K5:Obj:=cd "need_free" "need_free" 914 324 2 3 476 true 477 vn (vr 478) (vr 479) (vr 480) 919
def EV:Obj:=f1 (sT 53) "need_free" 3 vn "gemrows.texts" 912 481 0
def IQ:Obj:=tu []
def Xb5:Obj:=fl vn []
def S4:Obj:=tu [vs "place" 925,vs "count" 926,vs "size" 927,vs "begin" 928]
def ND:Obj:=tu []
def XeZ:Obj:=f0 (sT 54) "span_of" 0 0
def Iv:Obj:=cd "span_of" "span_of" 922 327 3 3 483 true 484 vn (vr 485) (vr 486) (vr 487) 929
def Gp:Obj:=f1 (sT 54) "span_of" 3 vn "gemrows.texts" 912 488 0
def Ts:Obj:=tu []
def Xa1:Obj:=fl vn []
def Sh:Obj:=tu [vs "world" 935,vs "value" 936,vs "size" 937,vs "first" 938,vs "last" 939,vs "end" 940,vs "begin" 941]
def M9:Obj:=tu []
def Xcd:Obj:=f0 (sT 55) "span_of_range" 0 0
def Mb:Obj:=cd "span_of_range" "span_of_range" 932 332 3 3 490 true 491 vn (vr 492) (vr 493) (vr 494) 942
def Em:Obj:=f1 (sT 55) "span_of_range" 3 vn "gemrows.texts" 912 495 0
def Vc:Obj:=tu []
def Xfm:Obj:=fl vn []
def TT:Obj:=tu [vs "world" 948,vs "text" 949,vs "args" 950,vs "at" 951,vs "place" 952]
def HP:Obj:=tu []
def XbO:Obj:=f0 (sT 56) "span_for" 0 0
def Uc:Obj:=cd "span_for" "span_for" 945 340 3 3 497 true 498 vn (vr 499) (vr 500) (vr 501) 953
def Bn:Obj:=f1 (sT 56) "span_for" 3 vn "gemrows.texts" 912 502 0
def M1:Obj:=tu []
def XcB:Obj:=fl vn []
def MY:Obj:=tu [vs "world" 959,vs "one" 960,vs "args" 961,vs "span" 962]
def QY:Obj:=tu []
def Xdi:Obj:=f0 (sT 57) "part" 0 0
def Jb:Obj:=cd "part" "part" 956 350 3 3 504 true 505 vn (vr 506) (vr 507) (vr 508) 963
def GQ:Obj:=f1 (sT 57) "part" 3 vn "gemrows.texts" 912 509 0
def KH:Obj:=tu []
def Xbn:Obj:=fl vn []
def RI:Obj:=tu [vs "world" 969,vs "one" 970,vs "args" 971,vs "span" 972,vs "found" 973]
def HU:Obj:=tu []
def Xe0:Obj:=f0 (sT 58) "take_part" 0 0
def MR:Obj:=cd "take_part" "take_part" 966 353 3 3 511 true 512 vn (vr 513) (vr 514) (vr 515) 974
def Ac:Obj:=f1 (sT 58) "take_part" 3 vn "gemrows.texts" 912 516 0
def Sl:Obj:=tu []
def XdO:Obj:=fl vn []
def Mj:Obj:=tu [vs "world" 982]
def Lu:Obj:=tu []
def XbQ:Obj:=f0 (sT 60) "raise_version" 0 0
def UL:Obj:=cd "raise_version" "raise_version" 979 362 1 3 518 true 519 vn (vr 520) (vr 521) (vr 522) 983
def JJ:Obj:=f1 (sT 60) "raise_version" 3 vn "gemrows.lines" 977 523 0
def Ob:Obj:=tu []
def XbF:Obj:=fl vn []
def VV:Obj:=tu [vs "world" 989,vs "value" 990,vs "waiting" 991,vs "one" 992]
def Ud:Obj:=tu []
def Xci:Obj:=f0 (sT 61) "own_module" 0 0
def KJ:Obj:=cd "own_module" "own_module" 986 364 2 3 525 true 526 vn (vr 527) (vr 528) (vr 529) 993
def Jy:Obj:=f1 (sT 61) "own_module" 3 vn "gemrows.lines" 977 530 0
def Pd:Obj:=tu []
def Xd5:Obj:=fl vn []
def Tt:Obj:=tu [vs "value" 999]
def Oc:Obj:=tu []
def Xa8:Obj:=f0 (sT 62) "class_above" 0 0
def PY:Obj:=cd "class_above" "class_above" 996 376 1 3 532 true 533 vn (vr 534) (vr 535) (vr 536) 1000
def Ny:Obj:=f1 (sT 62) "class_above" 3 vn "gemrows.lines" 977 537 0
def Nc:Obj:=tu []
def Xa7:Obj:=fl vn []
def LP:Obj:=tu [vs "world" 1006,vs "value" 1007,vs "above" 1008,vs "parent" 1009]
def J5:Obj:=tu []
def XcQ:Obj:=f0 (sT 63) "make_own" 0 0
def PA:Obj:=cd "make_own" "make_own" 1003 378 2 3 539 true 540 vn (vr 541) (vr 542) (vr 543) 1010
def VK:Obj:=f1 (sT 63) "make_own" 3 vn "gemrows.lines" 977 544 0
def Ld:Obj:=tu [vs "Kernel" 1015,vs "Comparable" 1016,vs "Enumerable" 1017]
def Mp (P:Params):Obj:=di P [en "BasicObject" 1019 vn,en "Object" 1021 (vs "BasicObject" 1022),en "Module" 1024 (vs "Object" 1025),en "Class" 1027 (vs "Module" 1028),en "Kernel" 1030 vn,en "Comparable" 1032 vn,en "Enumerable" 1034 vn,en "NilClass" 1036 (vs "Object" 1037),en "TrueClass" 1039 (vs "Object" 1040),en "FalseClass" 1042 (vs "Object" 1043),en "Numeric" 1045 (vs "Object" 1046),en "Integer" 1048 (vs "Numeric" 1049),en "String" 1051 (vs "Object" 1052),en "Symbol" 1054 (vs "Object" 1055),en "Array" 1057 (vs "Object" 1058),en "Hash" 1060 (vs "Object" 1061),en "Range" 1063 (vs "Object" 1064),en "Proc" 1066 (vs "Object" 1067),en "Fiber" 1069 (vs "Object" 1070),en "Exception" 1072 (vs "Object" 1073),en "ScriptError" 1075 (vs "Exception" 1076),en "NotImplementedError" 1078 (vs "ScriptError" 1079),en "SystemStackError" 1081 (vs "Exception" 1082),en "StandardError" 1084 (vs "Exception" 1085),en "ArgumentError" 1087 (vs "StandardError" 1088),en "UncaughtThrowError" 1090 (vs "ArgumentError" 1091),en "FiberError" 1093 (vs "StandardError" 1094),en "IndexError" 1096 (vs "StandardError" 1097),en "KeyError" 1099 (vs "IndexError" 1100),en "StopIteration" 1102 (vs "IndexError" 1103),en "LocalJumpError" 1105 (vs "StandardError" 1106),en "NameError" 1108 (vs "StandardError" 1109),en "NoMethodError" 1111 (vs "NameError" 1112),en "NoMatchingPatternError" 1114 (vs "StandardError" 1115),en "NoMatchingPatternKeyError" 1117 (vs "NoMatchingPatternError" 1118),en "RangeError" 1119 (vs "StandardError" 1120),en "RuntimeError" 1121 (vs "StandardError" 1122),en "FrozenError" 1123 (vs "RuntimeError" 1124),en "TypeError" 1125 (vs "StandardError" 1126),en "ZeroDivisionError" 1127 (vs "StandardError" 1128)] 40
def Xd7 (P:Params):Obj:=di P [en "Proc" 1066 (vs "Object" 1067),en "Fiber" 1069 (vs "Object" 1070),en "Exception" 1072 (vs "Object" 1073),en "ScriptError" 1075 (vs "Exception" 1076),en "NotImplementedError" 1078 (vs "ScriptError" 1079),en "SystemStackError" 1081 (vs "Exception" 1082),en "StandardError" 1084 (vs "Exception" 1085),en "ArgumentError" 1087 (vs "StandardError" 1088),en "UncaughtThrowError" 1090 (vs "ArgumentError" 1091),en "FiberError" 1093 (vs "StandardError" 1094),en "IndexError" 1096 (vs "StandardError" 1097),en "KeyError" 1099 (vs "IndexError" 1100),en "StopIteration" 1102 (vs "IndexError" 1103),en "LocalJumpError" 1105 (vs "StandardError" 1106),en "NameError" 1108 (vs "StandardError" 1109),en "NoMethodError" 1111 (vs "NameError" 1112),en "NoMatchingPatternError" 1114 (vs "StandardError" 1115)] 17
def Xev (P:Params):Obj:=di P [en "NoMatchingPatternKeyError" 1117 (vs "NoMatchingPatternError" 1118),en "RangeError" 1119 (vs "StandardError" 1120),en "RuntimeError" 1121 (vs "StandardError" 1122),en "FrozenError" 1123 (vs "RuntimeError" 1124),en "TypeError" 1125 (vs "StandardError" 1126),en "ZeroDivisionError" 1127 (vs "StandardError" 1128)] 6
def M5 (P:Params):Obj:=di P [en "Object" 1136 (vr 551),en "Numeric" 1138 (vr 552),en "String" 1140 (vr 553),en "Symbol" 1142 (vr 554),en "Array" 1144 (vr 555),en "Hash" 1146 (vr 556),en "Range" 1148 (vr 557)] 7
def MC:Obj:=tu [vs "Kernel" 1137]
def Vy:Obj:=tu [vs "Comparable" 1139]
def M4:Obj:=tu [vs "Comparable" 1141]
def IZ:Obj:=tu [vs "Comparable" 1143]
def KO:Obj:=tu [vs "Enumerable" 1145]
def Oe:Obj:=tu [vs "Enumerable" 1147]
def OJ:Obj:=tu [vs "Enumerable" 1149]
def OX:Obj:=tu [vs "NilClass" 1158,vs "TrueClass" 1159,vs "FalseClass" 1160,vs "Integer" 1161,vs "Symbol" 1162]
def Xa2:Obj:=tu []
def XaX:Obj:=fl (vt "builtin_function_or_method") [vu "type.__prepare__",vt "type"]
def Xbm (P:Params):Obj:=di P [en "__module__" 1171 (vs "gemrows.world" 1013),en "__qualname__" 1173 (vs "World" 1172),en "__firstlineno__" 1175 (vi 390 1174),en "__init__" 1188 (vr 573),en "tick" 1195 (vr 580),en "write" 1203 (vr 587),en "number" 1210 (vr 594),en "next_ident" 1217 (vr 601),en "ident" 1226 (vr 608),en "builtin" 1235 (vr 615),en "make_builtin" 1241 (vr 620),en "give_own" 1249 (vr 627),en "new_module" 1264 (vr 635),en "class_of" 1272 (vr 642),en "own_of" 1280 (vr 649),en "own_behind" 1288 (vr 656),en "root_of" 1296 (vr 663),en "real_class" 1304 (vr 670),en "text" 1312 (vr 677),en "list_of" 1320 (vr 684),en "table_of" 1331 (vr 691),en "key_of" 1340 (vr 698),en "range_of" 1352 (vr 705),en "proc" 1369 (vr 712),en "thing" 1379 (vr 719),en "is_error_class" 1387 (vr 726),en "spread" 1395 (vr 733),en "numbers_of" 1403 (vr 740),en "need_size" 1411 (vr 747),en "sized_text" 1419 (vr 754),en "error" 1428 (vr 761),en "fail" 1437 (vr 768),en "need_thawed" 1445 (vr 775),en "set_field" 1455 (vr 782),en "describe" 1463 (vr 789),en "own_constant" 1472 (vr 796),en "find_constant" 1481 (vr 803),en "constant" 1490 (vr 810),en "find_in" 1499 (vr 817),en "constant_in" 1508 (vr 824),en "set_constant" 1518 (vr 831),en "__static_attributes__" 1535 (vr 832)] 42
def Xb6:Obj:=tu []
def Xb7:Obj:=fl vn [vi 392 0,vi 4 0,vr 572,vi 413 0,vi 4 0,vr 579,vi 416 0,vi 4 0,vr 586,vi 419 0,vi 4 0,vr 593,vi 423 0,vi 4 0,vr 600,vi 427 0,vi 4 0,vr 607,vi 443 0,vi 4 0,vr 614,vi 447 0,vi 4 0,vr 619,vi 460 0,vi 4 0,vr 626,vi 464 0,vi 4 0,vr 634,vi 473 0,vi 4 0,vr 641,vi 482 0,vi 4 0,vr 648,vi 485 0,vi 4 0,vr 655,vi 488 0,vi 4 0,vr 662,vi 493 0,vi 4 0,vr 669,vi 496 0,vi 4 0,vr 676,vi 499 0,vi 4 0,vr 683,vi 502 0,vi 4 0,vr 690,vi 508 0,vi 4 0,vr 697,vi 515 0,vi 4 0,vr 704,vi 524 0,vi 4 0,vr 711,vi 528 0,vi 4 0,vr 718,vi 554 0,vi 4 0,vr 725,vi 561 0,vi 4 0,vr 732,vi 564 0,vi 4 0,vr 739,vi 567 0,vi 4 0,vr 746,vi 570 0,vi 4 0,vr 753,vi 573 0,vi 4 0,vr 760,vi 576 0,vi 4 0,vr 767,vi 579 0,vi 4 0,vr 774,vi 582 0,vi 4 0,vr 781,vi 585 0,vi 4 0,vr 788,vi 588 0,vi 4 0,vr 795,vi 591 0,vi 4 0,vr 802,vi 594 0,vi 4 0,vr 809,vi 597 0,vi 4 0,vr 816,vi 600 0,vi 4 0,vr 823,vi 603 0,vi 4 0,vr 830]
def Xbg:Obj:=cd "World" "World" 1166 390 0 0 562 false 563 vn vn vn vn 1169
def Xak:Obj:={cls:=(vt "frame"),slots:=(List.toArray [some (vr 564),some (vr 3),some (vr 561),none,some (vs "gemrows.world" 1013),none,some (vr 0)])}
def Sp:Obj:=tu [vn,vn,vi 20000 1176]
def Lw:Obj:=tu []
def XbV:Obj:=fl vn []
def TG:Obj:=tu [vs "self" 1180,vs "natives" 1181,vs "prelude" 1182,vs "read" 1183,vs "most" 1184,vs "name" 1185]
def N8:Obj:=tu []
def Wi:Obj:=f0 (sC 69 0) "World.__init__" 0 0
def T4:Obj:=cd "__init__" "World.__init__" 1177 392 5 3 567 true 568 vn (vr 569) (vr 570) (vr 571) 1186
def EM:Obj:=f1 (sC 69 0) "World.__init__" 3 (vr 566) "gemrows.world" 1013 572 0
def IW:Obj:=tu []
def XaQ:Obj:=fl vn []
def R6:Obj:=tu [vs "self" 1192]
def QO:Obj:=tu []
def XeC:Obj:=f0 (sC 69 1) "World.tick" 0 0
def QX:Obj:=cd "tick" "World.tick" 1189 413 1 3 574 true 575 vn (vr 576) (vr 577) (vr 578) 1193
def Jx:Obj:=f1 (sC 69 1) "World.tick" 3 vn "gemrows.world" 1013 579 0
def TV:Obj:=tu []
def Xcp:Obj:=fl vn []
def Nm:Obj:=tu [vs "self" 1199,vs "text" 1200]
def ML:Obj:=tu []
def XbT:Obj:=f0 (sC 69 2) "World.write" 0 0
def UH:Obj:=cd "write" "World.write" 1196 416 2 3 581 true 582 vn (vr 583) (vr 584) (vr 585) 1201
def KP:Obj:=f1 (sC 69 2) "World.write" 3 vn "gemrows.world" 1013 586 0
def OF:Obj:=tu []
def Xde:Obj:=fl vn []
def Qv:Obj:=tu [vs "self" 1207]
def Mh:Obj:=tu []
def Wg:Obj:=f0 (sC 69 3) "World.number" 0 0
def PB:Obj:=cd "number" "World.number" 1204 419 1 3 588 true 589 vn (vr 590) (vr 591) (vr 592) 1208
def CL:Obj:=f1 (sC 69 3) "World.number" 3 vn "gemrows.world" 1013 593 0
def IC:Obj:=tu []
def XbJ:Obj:=fl vn []
def Tx:Obj:=tu [vs "self" 1214]
def Qo:Obj:=tu []
def Xcw:Obj:=f0 (sC 69 4) "World.next_ident" 0 0
def HX:Obj:=cd "next_ident" "World.next_ident" 1211 423 1 3 595 true 596 vn (vr 597) (vr 598) (vr 599) 1215
def SX:Obj:=f1 (sC 69 4) "World.next_ident" 3 vn "gemrows.world" 1013 600 0
def Ji:Obj:=tu []
def Xcy:Obj:=fl vn []
def Ol:Obj:=tu [vs "self" 1221,vs "value" 1222,vs "sort" 1223]
def Ks:Obj:=tu []
def Xbf:Obj:=f0 (sC 69 5) "World.ident" 0 0
def JS:Obj:=cd "ident" "World.ident" 1218 427 2 3 602 true 603 vn (vr 604) (vr 605) (vr 606) 1224
def Jj:Obj:=f1 (sC 69 5) "World.ident" 3 vn "gemrows.world" 1013 607 0
def RT:Obj:=tu []
def Xe5:Obj:=fl vn []
def O0:Obj:=tu [vs "self" 1230,vs "name" 1231,vs "found" 1232]
def RZ:Obj:=tu []
def XaP:Obj:=f0 (sC 69 6) "World.builtin" 0 0
def MA:Obj:=cd "builtin" "World.builtin" 1227 443 2 3 609 true 610 vn (vr 611) (vr 612) (vr 613) 1233
def AI:Obj:=f1 (sC 69 6) "World.builtin" 3 vn "gemrows.world" 1013 614 0
def OQ:Obj:=tu []
def Xes:Obj:=fl vn []
def Xa6:Obj:=f0 (sC 69 7) "World.make_builtin" 0 0
def Vq:Obj:=cd "make_builtin" "World.make_builtin" 1236 447 2 3 616 true 617 vn vn vn (vr 618) 1239
def Dk:Obj:=f1 (sC 69 7) "World.make_builtin" 3 vn "gemrows.world" 1013 619 0
def Py:Obj:=tu []
def XdV:Obj:=fl vn []
def QG:Obj:=tu [vs "self" 1245,vs "name" 1246]
def Pw:Obj:=tu []
def Xbl:Obj:=f0 (sC 69 8) "World.give_own" 0 0
def UU:Obj:=cd "give_own" "World.give_own" 1242 460 2 3 621 true 622 vn (vr 623) (vr 624) (vr 625) 1247
def Hm:Obj:=f1 (sC 69 8) "World.give_own" 3 vn "gemrows.world" 1013 626 0
def VI:Obj:=tu [vn,vn,vn]
def Nl:Obj:=tu []
def Xa5:Obj:=fl vn []
def OI:Obj:=tu [vs "self" 1253,vs "name" 1254,vs "is_class" 1255,vs "parent" 1256,vs "outer" 1257,vs "attached" 1258,vs "owner" 1259,vs "stands" 1260,vs "found" 1261]
def HZ:Obj:=tu []
def Xei:Obj:=f0 (sC 69 9) "World.new_module" 0 0
def OW:Obj:=cd "new_module" "World.new_module" 1250 464 6 3 629 true 630 vn (vr 631) (vr 632) (vr 633) 1262
def Ai:Obj:=f1 (sC 69 9) "World.new_module" 3 (vr 628) "gemrows.world" 1013 634 0
def Rw:Obj:=tu []
def Xbu:Obj:=fl vn []
def Ik:Obj:=tu [vs "self" 1268,vs "value" 1269]
def Jn:Obj:=tu []
def XaA:Obj:=f0 (sC 69 10) "World.class_of" 0 0
def OR:Obj:=cd "class_of" "World.class_of" 1265 473 2 3 636 true 637 vn (vr 638) (vr 639) (vr 640) 1270
def Bi:Obj:=f1 (sC 69 10) "World.class_of" 3 vn "gemrows.world" 1013 641 0
def P3:Obj:=tu []
def Xfh:Obj:=fl vn []
def KF:Obj:=tu [vs "self" 1276,vs "value" 1277]
def I7:Obj:=tu []
def Ww:Obj:=f0 (sC 69 11) "World.own_of" 0 0
def Qc:Obj:=cd "own_of" "World.own_of" 1273 482 2 3 643 true 644 vn (vr 645) (vr 646) (vr 647) 1278
def Rh:Obj:=f1 (sC 69 11) "World.own_of" 3 vn "gemrows.world" 1013 648 0
def KQ:Obj:=tu []
def WS:Obj:=fl vn []
def Ni:Obj:=tu [vs "self" 1284,vs "module" 1285]
def LI:Obj:=tu []
def Xe2:Obj:=f0 (sC 69 12) "World.own_behind" 0 0
def Oj:Obj:=cd "own_behind" "World.own_behind" 1281 485 2 3 650 true 651 vn (vr 652) (vr 653) (vr 654) 1286
def Nj:Obj:=f1 (sC 69 12) "World.own_behind" 3 vn "gemrows.world" 1013 655 0
def Ui:Obj:=tu []
def Xdc:Obj:=fl vn []
def HY:Obj:=tu [vs "self" 1292,vs "module" 1293]
def OZ:Obj:=tu []
def Xbq:Obj:=f0 (sC 69 13) "World.root_of" 0 0
def LH:Obj:=cd "root_of" "World.root_of" 1289 488 2 3 657 true 658 vn (vr 659) (vr 660) (vr 661) 1294
def Bo:Obj:=f1 (sC 69 13) "World.root_of" 3 vn "gemrows.world" 1013 662 0
def Td:Obj:=tu []
def WB:Obj:=fl vn []
def VH:Obj:=tu [vs "self" 1300,vs "module" 1301]
def PF:Obj:=tu []
def Xba:Obj:=f0 (sC 69 14) "World.real_class" 0 0
def RS:Obj:=cd "real_class" "World.real_class" 1297 493 2 3 664 true 665 vn (vr 666) (vr 667) (vr 668) 1302
def H9:Obj:=f1 (sC 69 14) "World.real_class" 3 vn "gemrows.world" 1013 669 0
def N3:Obj:=tu []
def Xet:Obj:=fl vn []
def KZ:Obj:=tu [vs "self" 1308,vs "text" 1309]
def VO:Obj:=tu []
def Xec:Obj:=f0 (sC 69 15) "World.text" 0 0
def Mq:Obj:=cd "text" "World.text" 1305 496 2 3 671 true 672 vn (vr 673) (vr 674) (vr 675) 1310
def EY:Obj:=f1 (sC 69 15) "World.text" 3 vn "gemrows.world" 1013 676 0
def JB:Obj:=tu []
def Xef:Obj:=fl vn []
def PR:Obj:=tu [vs "self" 1316,vs "items" 1317]
def I4:Obj:=tu []
def Xab:Obj:=f0 (sC 69 16) "World.list_of" 0 0
def Mw:Obj:=cd "list_of" "World.list_of" 1313 499 2 3 678 true 679 vn (vr 680) (vr 681) (vr 682) 1318
def Fn:Obj:=f1 (sC 69 16) "World.list_of" 3 vn "gemrows.world" 1013 683 0
def NP:Obj:=tu []
def Xan:Obj:=fl vn []
def SQ:Obj:=tu [vs "self" 1324,vs "pairs" 1325,vs "found" 1326,vs "key" 1327,vs "value" 1328]
def Rd:Obj:=tu []
def XfC:Obj:=f0 (sC 69 17) "World.table_of" 0 0
def Ut:Obj:=cd "table_of" "World.table_of" 1321 502 2 3 685 true 686 vn (vr 687) (vr 688) (vr 689) 1329
def C4:Obj:=f1 (sC 69 17) "World.table_of" 3 vn "gemrows.world" 1013 690 0
def Pp:Obj:=tu []
def Xe9:Obj:=fl vn []
def Qx:Obj:=tu [vs "self" 1335,vs "key" 1336,vs "found" 1337]
def VT:Obj:=tu []
def XbE:Obj:=f0 (sC 69 18) "World.key_of" 0 0
def OP:Obj:=cd "key_of" "World.key_of" 1332 508 2 3 692 true 693 vn (vr 694) (vr 695) (vr 696) 1338
def EW:Obj:=f1 (sC 69 18) "World.key_of" 3 vn "gemrows.world" 1013 697 0
def Oo:Obj:=tu []
def WC:Obj:=fl vn []
def Oi:Obj:=tu [vs "self" 1344,vs "first" 1345,vs "last" 1346,vs "is_open" 1347,vs "is_odd" 1348,vs "found" 1349]
def Np:Obj:=tu []
def XfA:Obj:=f0 (sC 69 19) "World.range_of" 0 0
def QP:Obj:=cd "range_of" "World.range_of" 1341 515 4 3 699 true 700 vn (vr 701) (vr 702) (vr 703) 1350
def EI:Obj:=f1 (sC 69 19) "World.range_of" 3 vn "gemrows.world" 1013 704 0
def T6:Obj:=tu []
def XaV:Obj:=fl vn []
def LC:Obj:=tu [vs "self" 1356,vs "params" 1357,vs "body" 1358,vs "env" 1359,vs "self_value" 1360,vs "nesting" 1361,vs "home" 1362,vs "site" 1363,vs "is_lambda" 1364,vs "definer" 1365,vs "owner" 1366]
def IM:Obj:=tu []
def Xeh:Obj:=f0 (sC 69 20) "World.proc" 0 0
def RA:Obj:=cd "proc" "World.proc" 1353 524 10 3 706 true 707 vn (vr 708) (vr 709) (vr 710) 1367
def Px:Obj:=f1 (sC 69 20) "World.proc" 3 vn "gemrows.world" 1013 711 0
def Ii:Obj:=tu []
def XdC:Obj:=fl vn []
def Tn:Obj:=tu [vs "self" 1373,vs "module" 1374,vs "root" 1375,vs "number" 1376]
def Nv:Obj:=tu []
def XfI:Obj:=f0 (sC 69 21) "World.thing" 0 0
def NJ:Obj:=cd "thing" "World.thing" 1370 528 2 3 713 true 714 vn (vr 715) (vr 716) (vr 717) 1377
def EL:Obj:=f1 (sC 69 21) "World.thing" 3 vn "gemrows.world" 1013 718 0
def IB:Obj:=tu []
def Xfj:Obj:=fl vn []
def VN:Obj:=tu [vs "self" 1383,vs "module" 1384]
def PZ:Obj:=tu []
def Xb8:Obj:=f0 (sC 69 22) "World.is_error_class" 0 0
def U0:Obj:=cd "is_error_class" "World.is_error_class" 1380 554 2 3 720 true 721 vn (vr 722) (vr 723) (vr 724) 1385
def RB:Obj:=f1 (sC 69 22) "World.is_error_class" 3 vn "gemrows.world" 1013 725 0
def Ij:Obj:=tu []
def XbP:Obj:=fl vn []
def Sy:Obj:=tu [vs "self" 1391,vs "value" 1392]
def Kg:Obj:=tu []
def Xem:Obj:=f0 (sC 69 23) "World.spread" 0 0
def S7:Obj:=cd "spread" "World.spread" 1388 561 2 3 727 true 728 vn (vr 729) (vr 730) (vr 731) 1393
def JG:Obj:=f1 (sC 69 23) "World.spread" 3 vn "gemrows.world" 1013 732 0
def JN:Obj:=tu []
def Xe7:Obj:=fl vn []
def IJ:Obj:=tu [vs "self" 1399,vs "value" 1400]
def Pr:Obj:=tu []
def XaO:Obj:=f0 (sC 69 24) "World.numbers_of" 0 0
def Up:Obj:=cd "numbers_of" "World.numbers_of" 1396 564 2 3 734 true 735 vn (vr 736) (vr 737) (vr 738) 1401
def Ta:Obj:=f1 (sC 69 24) "World.numbers_of" 3 vn "gemrows.world" 1013 739 0
def PM:Obj:=tu []
def XcG:Obj:=fl vn []
def RU:Obj:=tu [vs "self" 1407,vs "count" 1408]
def T9:Obj:=tu []
def Xfw:Obj:=f0 (sC 69 25) "World.need_size" 0 0
def P1:Obj:=cd "need_size" "World.need_size" 1404 567 2 3 741 true 742 vn (vr 743) (vr 744) (vr 745) 1409
def Mt:Obj:=f1 (sC 69 25) "World.need_size" 3 vn "gemrows.world" 1013 746 0
def R9:Obj:=tu []
def XeI:Obj:=fl vn []
def Ir:Obj:=tu [vs "self" 1415,vs "text" 1416]
def PN:Obj:=tu []
def Xdo:Obj:=f0 (sC 69 26) "World.sized_text" 0 0
def Pb:Obj:=cd "sized_text" "World.sized_text" 1412 570 2 3 748 true 749 vn (vr 750) (vr 751) (vr 752) 1417
def Tv:Obj:=f1 (sC 69 26) "World.sized_text" 3 vn "gemrows.world" 1013 753 0
def H0:Obj:=tu []
def Xd0:Obj:=fl vn []
def U7:Obj:=tu [vs "self" 1423,vs "name" 1424,vs "message" 1425]
def Nu:Obj:=tu []
def Xbe:Obj:=f0 (sC 69 27) "World.error" 0 0
def NZ:Obj:=cd "error" "World.error" 1420 573 3 3 755 true 756 vn (vr 757) (vr 758) (vr 759) 1426
def Ej:Obj:=f1 (sC 69 27) "World.error" 3 vn "gemrows.world" 1013 760 0
def VU:Obj:=tu []
def Xdn:Obj:=fl vn []
def MJ:Obj:=tu [vs "self" 1432,vs "name" 1433,vs "message" 1434]
def UP:Obj:=tu []
def WD:Obj:=f0 (sC 69 28) "World.fail" 0 0
def Kv:Obj:=cd "fail" "World.fail" 1429 576 3 3 762 true 763 vn (vr 764) (vr 765) (vr 766) 1435
def BQ:Obj:=f1 (sC 69 28) "World.fail" 3 vn "gemrows.world" 1013 767 0
def MF:Obj:=tu []
def XaC:Obj:=fl vn []
def PJ:Obj:=tu [vs "self" 1441,vs "value" 1442]
def Ql:Obj:=tu []
def Xd6:Obj:=f0 (sC 69 29) "World.need_thawed" 0 0
def Se:Obj:=cd "need_thawed" "World.need_thawed" 1438 579 2 3 769 true 770 vn (vr 771) (vr 772) (vr 773) 1443
def P5:Obj:=f1 (sC 69 29) "World.need_thawed" 3 vn "gemrows.world" 1013 774 0
def So:Obj:=tu []
def Xb2:Obj:=fl vn []
def MU:Obj:=tu [vs "self" 1449,vs "value" 1450,vs "name" 1451,vs "item" 1452]
def VP:Obj:=tu []
def Xco:Obj:=f0 (sC 69 30) "World.set_field" 0 0
def II:Obj:=cd "set_field" "World.set_field" 1446 582 4 3 776 true 777 vn (vr 778) (vr 779) (vr 780) 1453
def K9:Obj:=f1 (sC 69 30) "World.set_field" 3 vn "gemrows.world" 1013 781 0
def Ri:Obj:=tu []
def XeO:Obj:=fl vn []
def Lx:Obj:=tu [vs "self" 1459,vs "value" 1460]
def Jk:Obj:=tu []
def Xfx:Obj:=f0 (sC 69 31) "World.describe" 0 0
def UI:Obj:=cd "describe" "World.describe" 1456 585 2 3 783 true 784 vn (vr 785) (vr 786) (vr 787) 1461
def NI:Obj:=f1 (sC 69 31) "World.describe" 3 vn "gemrows.world" 1013 788 0
def U6:Obj:=tu []
def XdS:Obj:=fl vn []
def L5:Obj:=tu [vs "self" 1467,vs "module" 1468,vs "name" 1469]
def QI:Obj:=tu []
def Xfz:Obj:=f0 (sC 69 32) "World.own_constant" 0 0
def OK:Obj:=cd "own_constant" "World.own_constant" 1464 588 3 3 790 true 791 vn (vr 792) (vr 793) (vr 794) 1470
def Ln:Obj:=f1 (sC 69 32) "World.own_constant" 3 vn "gemrows.world" 1013 795 0
def OY:Obj:=tu []
def Xeg:Obj:=fl vn []
def Pc:Obj:=tu [vs "self" 1476,vs "nesting" 1477,vs "name" 1478]
def Pv:Obj:=tu []
def Xcs:Obj:=f0 (sC 69 33) "World.find_constant" 0 0
def UO:Obj:=cd "find_constant" "World.find_constant" 1473 591 3 3 797 true 798 vn (vr 799) (vr 800) (vr 801) 1479
def Q3:Obj:=f1 (sC 69 33) "World.find_constant" 3 vn "gemrows.world" 1013 802 0
def NW:Obj:=tu []
def Xcc:Obj:=fl vn []
def LG:Obj:=tu [vs "self" 1485,vs "nesting" 1486,vs "name" 1487]
def Ls:Obj:=tu []
def Xc7:Obj:=f0 (sC 69 34) "World.constant" 0 0
def Id:Obj:=cd "constant" "World.constant" 1482 594 3 3 804 true 805 vn (vr 806) (vr 807) (vr 808) 1488
def Q0:Obj:=f1 (sC 69 34) "World.constant" 3 vn "gemrows.world" 1013 809 0
def Lf:Obj:=tu []
def XdF:Obj:=fl vn []
def MK:Obj:=tu [vs "self" 1494,vs "module" 1495,vs "name" 1496]
def Na:Obj:=tu []
def Xcz:Obj:=f0 (sC 69 35) "World.find_in" 0 0
def Uw:Obj:=cd "find_in" "World.find_in" 1491 597 3 3 811 true 812 vn (vr 813) (vr 814) (vr 815) 1497
def Pf:Obj:=f1 (sC 69 35) "World.find_in" 3 vn "gemrows.world" 1013 816 0
def SH:Obj:=tu []
def Xcn:Obj:=fl vn []
def Lk:Obj:=tu [vs "self" 1503,vs "module" 1504,vs "name" 1505]
def Nh:Obj:=tu []
def Xdw:Obj:=f0 (sC 69 36) "World.constant_in" 0 0
def LE:Obj:=cd "constant_in" "World.constant_in" 1500 600 3 3 818 true 819 vn (vr 820) (vr 821) (vr 822) 1506
def Vm:Obj:=f1 (sC 69 36) "World.constant_in" 3 vn "gemrows.world" 1013 823 0
def Vt:Obj:=tu []
def Xdl:Obj:=fl vn []
def PI:Obj:=tu [vs "self" 1512,vs "module" 1513,vs "name" 1514,vs "value" 1515]
def Qh:Obj:=tu []
def Xc2:Obj:=f0 (sC 69 37) "World.set_constant" 0 0
def T7:Obj:=cd "set_constant" "World.set_constant" 1509 603 4 3 825 true 826 vn (vr 827) (vr 828) (vr 829) 1516
def LO:Obj:=f1 (sC 69 37) "World.set_constant" 3 vn "gemrows.world" 1013 830 0
def Qj:Obj:=tu [vs "const_version" 1519,vs "globals" 1520,vs "here" 1521,vs "is_ready" 1522,vs "last_ident" 1523,vs "last_number" 1524,vs "made" 1525,vs "main" 1526,vs "most" 1527,vs "natives" 1528,vs "out" 1529,vs "prelude" 1530,vs "read" 1531,vs "symbol_idents" 1532,vs "taken" 1533,vs "version" 1534]
def Pi (P:Params):Obj:=di P [en "__module__" 1171 (vs "gemrows.world" 1013),en "__firstlineno__" 1175 (vi 390 1174),en "__init__" 1188 (vr 573),en "tick" 1195 (vr 580),en "write" 1203 (vr 587),en "number" 1210 (vr 594),en "next_ident" 1217 (vr 601),en "ident" 1226 (vr 608),en "builtin" 1235 (vr 615),en "make_builtin" 1241 (vr 620),en "give_own" 1249 (vr 627),en "new_module" 1264 (vr 635),en "class_of" 1272 (vr 642),en "own_of" 1280 (vr 649),en "own_behind" 1288 (vr 656),en "root_of" 1296 (vr 663),en "real_class" 1304 (vr 670),en "text" 1312 (vr 677),en "list_of" 1320 (vr 684),en "table_of" 1331 (vr 691),en "key_of" 1340 (vr 698),en "range_of" 1352 (vr 705),en "proc" 1369 (vr 712),en "thing" 1379 (vr 719),en "is_error_class" 1387 (vr 726),en "spread" 1395 (vr 733),en "numbers_of" 1403 (vr 740),en "need_size" 1411 (vr 747),en "sized_text" 1419 (vr 754),en "error" 1428 (vr 761),en "fail" 1437 (vr 768),en "need_thawed" 1445 (vr 775),en "set_field" 1455 (vr 782),en "describe" 1463 (vr 789),en "own_constant" 1472 (vr 796),en "find_constant" 1481 (vr 803),en "constant" 1490 (vr 810),en "find_in" 1499 (vr 817),en "constant_in" 1508 (vr 824),en "set_constant" 1518 (vr 831),en "__static_attributes__" 1535 (vr 832),en "__dict__" 1537 (vr 835),en "__weakref__" 1539 (vr 836),en "__doc__" 1540 vn] 4
def Qw:Obj:={cls:=(vt "type"),data:=.cls {name:="World",bases:=[vt "object"],mro:=[vr 834,vt "object"],ns:=833,qualname:="World",hasDict:=true,slotNames:=[],subclasses:=[],abstract:=false,collection:=none,hasDel:=false},slots:=(List.toArray [none,none,some (vs "World" 1164),some (vs "World" 1172),some (vu "object.__new__"),some (vb true)])}
def Ki:Obj:=fl (vt "getset_descriptor") [vs "__dict__" 1536,vr 834,vu "function.__dict__",vu "function.__dict__#set"]
def SZ:Obj:=fl (vt "getset_descriptor") [vs "__weakref__" 1538,vr 834,vu "ExceptionGroup.__weakref__",vn]
def XeM:Obj:=fl (vt "super") [vr 834,vr 834,vr 834]
def Xby:Obj:=fl (vt "builtin_function_or_method") [vu "object.__init_subclass__",vr 834]
def LD:Obj:=tu []
def Xcq:Obj:=fl vn []
def J0:Obj:=tu []
def RP:Obj:=tu []
def Xds:Obj:=f0 (sT 71) "_law_kinds" 0 0
def RC:Obj:=cd "_law_kinds" "_law_kinds" 1545 606 0 3 839 true 840 vn (vr 841) (vr 842) (vr 843) 1548
def Ci:Obj:=f1 (sT 71) "_law_kinds" 3 vn "law_sm0031_01" 1543 844 0
def Vn:Obj:=tu []
def XaI:Obj:=fl vn []
def N0:Obj:=tu []
def Ng:Obj:=tu []
def XbD:Obj:=f0 (sT 72) "_law_signs" 0 0
def Mz:Obj:=cd "_law_signs" "_law_signs" 1551 608 0 3 846 true 847 vn (vr 848) (vr 849) (vr 850) 1554
def C6:Obj:=f1 (sT 72) "_law_signs" 3 vn "law_sm0031_01" 1543 851 0
def MI:Obj:=tu []
def XbK:Obj:=fl vn []
def Iz:Obj:=tu [vs "script" 1560,vs "great" 1561,vs "seed" 1562,vs "bare" 1563,vs "cell" 1564]
def PO:Obj:=tu []
def Xfc:Obj:=f0 (sT 73) "_law_box" 0 0
def T5:Obj:=cd "_law_box" "_law_box" 1557 610 1 3 853 true 854 vn (vr 855) (vr 856) (vr 857) 1565
def D8:Obj:=f1 (sT 73) "_law_box" 3 vn "law_sm0031_01" 1543 858 0
def Mg:Obj:=tu []
def Xeo:Obj:=fl vn []
def Sz:Obj:=tu [vs "box" 1571,vs "many" 1572,vs "digit" 1573,vs "mixed" 1574]
def IL:Obj:=tu []
def XdT:Obj:=f0 (sT 74) "_law_take" 0 0
def OT:Obj:=cd "_law_take" "_law_take" 1568 618 2 3 860 true 861 vn (vr 862) (vr 863) (vr 864) 1575
def Am:Obj:=f1 (sT 74) "_law_take" 3 vn "law_sm0031_01" 1543 865 0
def MZ:Obj:=tu []
def Xae:Obj:=fl vn []
def XaE:Obj:=f0 (sT 75) "_law_holders" 0 0
def JR:Obj:=cd "_law_holders" "_law_holders" 1578 627 3 3 867 true 868 vn vn vn (vr 869) 1581
def FC:Obj:=f1 (sT 75) "_law_holders" 3 vn "law_sm0031_01" 1543 870 0
def Jp:Obj:=tu []
def Xdb:Obj:=fl vn []
def JH:Obj:=tu [vs "box" 1587,vs "least" 1588,vs "most" 1589,vs "far" 1590]
def SW:Obj:=tu []
def XeN:Obj:=f0 (sT 76) "_law_mark" 0 0
def LQ:Obj:=cd "_law_mark" "_law_mark" 1584 639 3 3 872 true 873 vn (vr 874) (vr 875) (vr 876) 1591
def Hc:Obj:=f1 (sT 76) "_law_mark" 3 vn "law_sm0031_01" 1543 877 0
def MP:Obj:=tu []
def XbX:Obj:=fl vn []
def Nk:Obj:=tu [vs "world" 1597,vs "spot" 1598]
def HT:Obj:=tu []
def Xat:Obj:=f0 (sT 77) "_law_strange" 0 0
def J2:Obj:=cd "_law_strange" "_law_strange" 1594 644 2 3 879 true 880 vn (vr 881) (vr 882) (vr 883) 1599
def Bx:Obj:=f1 (sT 77) "_law_strange" 3 vn "law_sm0031_01" 1543 884 0
def KM:Obj:=tu []
def Xd4:Obj:=fl vn []
def JF:Obj:=tu [vs "world" 1605,vs "box" 1606,vs "size" 1607,vs "way" 1608,vs "spot" 1609,vs "strange" 1610,vs "reason" 1611,vs "handed" 1612,vs "pair" 1613]
def H7:Obj:=tu []
def XaG:Obj:=f0 (sT 78) "_law_odd" 0 0
def Rt:Obj:=cd "_law_odd" "_law_odd" 1602 650 3 3 886 true 887 vn (vr 888) (vr 889) (vr 890) 1614
def F7:Obj:=f1 (sT 78) "_law_odd" 3 vn "law_sm0031_01" 1543 891 0
def MH:Obj:=tu []
def XaD:Obj:=fl vn []
def H6:Obj:=tu [vs "world" 1620,vs "box" 1621,vs "size" 1622,vs "turn" 1623,vs "way" 1624,vs "low" 1625,vs "many" 1626,vs "high" 1627,vs "is_open" 1628]
def NE:Obj:=tu []
def Xfg:Obj:=f0 (sT 79) "_law_span" 0 0
def Ro:Obj:=cd "_law_span" "_law_span" 1617 670 4 3 893 true 894 vn (vr 895) (vr 896) (vr 897) 1629
def GX:Obj:=f1 (sT 79) "_law_span" 3 vn "law_sm0031_01" 1543 898 0
def M6:Obj:=tu []
def Xap:Obj:=fl vn []
def Tw:Obj:=tu [vs "size" 1635,vs "k" 1636,vs "high" 1637,vs "is_open" 1638,vs "name" 1639]
def NY:Obj:=tu []
def Xbh:Obj:=f0 (sT 80) "_law_past" 0 0
def LV:Obj:=cd "_law_past" "_law_past" 1632 689 4 3 900 true 901 vn (vr 902) (vr 903) (vr 904) 1640
def Aa:Obj:=f1 (sT 80) "_law_past" 3 vn "law_sm0031_01" 1543 905 0
def P7:Obj:=tu []
def XbZ:Obj:=fl vn []
def Xey:Obj:=f0 (sT 81) "_law_due" 0 0
def O7:Obj:=cd "_law_due" "_law_due" 1643 694 2 3 907 true 908 vn vn vn (vr 909) 1646
def C0:Obj:=f1 (sT 81) "_law_due" 3 vn "law_sm0031_01" 1543 910 0
def Oh:Obj:=tu []
def Xav:Obj:=fl vn []
def Lb:Obj:=tu [vs "act" 1652,vs "error" 1653]
def Ul:Obj:=tu []
def XaN:Obj:=f0 (sT 82) "_law_heard" 0 0
def JM:Obj:=cd "_law_heard" "_law_heard" 1649 708 1 3 912 true 913 vn (vr 914) (vr 915) (vr 916) 1654
def Eu:Obj:=f1 (sT 82) "_law_heard" 3 vn "law_sm0031_01" 1543 917 0
def Ra:Obj:=tu []
def XfK:Obj:=fl vn []
def MS:Obj:=tu [vs "world" 1660,vs "size" 1661,vs "handed" 1662,vs "plan" 1663,vs "due" 1664,vs "sort" 1665,vs "low" 1666,vs "high" 1667,vs "is_open" 1668,vs "found" 1669,vs "lowest" 1670,vs "behind" 1671,vs "stop" 1672]
def Rx:Obj:=tu [vs "world" 1673,vs "size" 1674,vs "handed" 1675]
def Xbw:Obj:=f0 (sT 83) "_law_limits_right" 0 0
def F5:Obj:=cd "_law_limits_right" "_law_limits_right" 1657 713 5 3 919 true 920 vn (vr 921) (vr 922) (vr 923) 1676
def BX:Obj:=f1 (sT 83) "_law_limits_right" 3 vn "law_sm0031_01" 1543 924 0
def Jl:Obj:=tu []
def XcV:Obj:=fl vn []
def Xaq:Obj:=f0 (sT 84) "_law_told_right" 0 0
def Pq:Obj:=cd "_law_told_right" "_law_told_right" 1679 731 7 3 926 true 927 vn vn vn (vr 928) 1682
def FQ:Obj:=f1 (sT 84) "_law_told_right" 3 vn "law_sm0031_01" 1543 929 0
def Mm:Obj:=tu []
def Xbs:Obj:=fl vn []
def Xd8:Obj:=f0 (sT 85) "_law_cut_right" 0 0
def Ga:Obj:=cd "_law_cut_right" "_law_cut_right" 1685 745 7 3 931 true 932 vn vn vn (vr 933) 1688
def A4:Obj:=f1 (sT 85) "_law_cut_right" 3 vn "law_sm0031_01" 1543 934 0
def OH:Obj:=tu []
def XdA:Obj:=fl vn []
def Wt:Obj:=f0 (sT 86) "law" 0 0
def M0:Obj:=cd "law" "law" 1691 759 1 3 936 true 937 vn vn vn (vr 938) 1694
def Fy:Obj:=f1 (sT 86) "law" 3 vn "law_sm0031_01" 1543 939 0
def Os:Obj:=fl vn []
def Ux (P:Params):Obj:=di P [en "__name__" 165 (vs "gemrows.things" 194),en "__doc__" 166 vn,en "__package__" 167 vn,en "__loader__" 168 (vu "__main__.__loader__#opaque"),en "__spec__" 169 vn,en "__annotations__" 170 (vr 6),en "__builtins__" 171 (vr 4),en "__file__" 173 (vs "/claim/cut.py" 172),en "__cached__" 174 vn,en "_wall" 193 (vr 21),en "SIMPLE_ESCAPES" 229 (vr 22)] 11
def D9:Obj:=fl vn [vi 1 0,vi 0 0,vr 20]
def Es (P:Params):Obj:=di P [en "__name__" 165 (vs "gemrows.things" 194),en "__doc__" 166 vn,en "__package__" 167 vn,en "__loader__" 168 (vu "__main__.__loader__#opaque"),en "__spec__" 169 vn,en "__annotations__" 170 (vr 6),en "__builtins__" 171 (vr 4),en "__file__" 173 (vs "/claim/cut.py" 172),en "__cached__" 174 vn,en "_wall" 193 (vr 21),en "SIMPLE_ESCAPES" 229 (vr 22),en "OPERATORS" 257 (vr 23),en "GLOBAL_SIGNS" 259 (vs "!@~&`'+$?:\"/\\;,.<>_*" 258),en "DEEPEST_KEY" 261 (vi 12 260),en "MOST_SEEN" 263 (vi 20000 262),en "Thing" 298 (vr 40),en "Text" 326 (vr 62),en "ListThing" 353 (vr 82),en "TableThing" 405 (vr 120),en "RangeThing" 436 (vr 140),en "ProcThing" 479 (vr 161),en "ErrorThing" 507 (vr 181),en "FiberThing" 537 (vr 201)] 23
def w6:Obj:=fl vn [vi 1 0,vi 0 0,vr 20,vi 10 0,vi 0 0,vr 29,vi 19 0,vi 0 0,vr 50,vi 24 0,vi 0 0,vr 70,vi 29 0,vi 0 0,vr 90,vi 49 0,vi 0 0,vr 128,vi 56 0,vi 0 0,vr 148,vi 69 0,vi 0 0,vr 169,vi 75 0,vi 0 0,vr 189]
def xG:Obj:={cls:=(vt "type"),data:=.cls {name:="Thing",bases:=[vt "object"],mro:=[vr 40,vt "object"],ns:=39,qualname:="Thing",hasDict:=true,slotNames:=[],subclasses:=[vr 62,vr 82,vr 120,vr 140,vr 161,vr 181,vr 201],abstract:=false,collection:=none,hasDel:=false},slots:=(List.toArray [none,none,some (vs "Thing" 264),some (vs "Thing" 272),some (vu "object.__new__"),some (vb true)])}
def E9 (P:Params):Obj:=di P [en "__name__" 165 (vs "gemrows.world" 1013),en "__doc__" 166 vn,en "__package__" 167 vn,en "__loader__" 168 (vu "__main__.__loader__#opaque"),en "__spec__" 169 vn,en "__annotations__" 170 (vr 6),en "__builtins__" 171 (vr 4),en "__file__" 173 (vs "/claim/cut.py" 172),en "__cached__" 174 vn,en "_wall" 193 (vr 21),en "SIMPLE_ESCAPES" 229 (vr 22),en "OPERATORS" 257 (vr 23),en "GLOBAL_SIGNS" 259 (vs "!@~&`'+$?:\"/\\;,.<>_*" 258),en "DEEPEST_KEY" 261 (vi 12 260),en "MOST_SEEN" 263 (vi 20000 262),en "Thing" 298 (vr 40),en "Text" 326 (vr 62),en "ListThing" 353 (vr 82),en "TableThing" 405 (vr 120),en "RangeThing" 436 (vr 140),en "ProcThing" 479 (vr 161),en "ErrorThing" 507 (vr 181),en "FiberThing" 537 (vr 201),en "ModuleThing" 584 (vr 228),en "is_int" 591 (vr 237),en "sort_of" 598 (vr 244),en "same" 607 (vr 251),en "takes_in" 615 (vr 258),en "code_of" 621 (vr 264),en "is_word" 629 (vr 271),en "is_figures" 635 (vr 276),en "is_label" 642 (vr 283),en "is_plain_symbol" 649 (vr 290),en "full_name" 659 (vr 297),en "show_letter" 669 (vr 304),en "show_text" 675 (vr 309),en "show_symbol" 682 (vr 316),en "show_pair" 692 (vr 323),en "show_range" 703 (vr 330),en "show_held" 709 (vr 335),en "show_thing" 720 (vr 342),en "message_text" 732 (vr 350),en "show" 743 (vr 358),en "kind_word" 753 (vr 365),en "need_int" 761 (vr 372),en "need_open" 769 (vr 379),en "limits_of" 780 (vr 386),en "span_in" 792 (vr 393),en "place_of" 802 (vr 400),en "GemError" 832 (vr 418),en "Raised" 857 (vr 438),en "list_item" 869 (vr 447),en "list_at" 879 (vr 454),en "list_slice_out" 890 (vr 461),en "list_delete_at" 900 (vr 468),en "whole" 911 (vr 475),en "need_free" 921 (vr 482),en "span_of" 931 (vr 489),en "span_of_range" 944 (vr 496),en "span_for" 955 (vr 503),en "part" 965 (vr 510),en "take_part" 976 (vr 517),en "raise_version" 985 (vr 524),en "own_module" 995 (vr 531),en "class_above" 1002 (vr 538),en "make_own" 1012 (vr 545),en "MODULES" 1018 (vr 546)] 67
def uH:Obj:=fl vn [vi 1 0,vi 0 0,vr 20,vi 10 0,vi 0 0,vr 29,vi 19 0,vi 0 0,vr 50,vi 24 0,vi 0 0,vr 70,vi 29 0,vi 0 0,vr 90,vi 49 0,vi 0 0,vr 128,vi 56 0,vi 0 0,vr 148,vi 69 0,vi 0 0,vr 169,vi 75 0,vi 0 0,vr 189,vi 83 0,vi 0 0,vr 209,vi 101 0,vi 0 0,vr 236,vi 103 0,vi 0 0,vr 243,vi 111 0,vi 0 0,vr 250,vi 116 0,vi 0 0,vr 257,vi 121 0,vi 0 0,vr 263,vi 136 0,vi 0 0,vr 270,vi 143 0,vi 0 0,vr 275,vi 145 0,vi 0 0,vr 282,vi 147 0,vi 0 0,vr 289,vi 157 0,vi 0 0,vr 296,vi 172 0,vi 0 0,vr 303,vi 182 0,vi 0 0,vr 308,vi 185 0,vi 0 0,vr 315,vi 187 0,vi 0 0,vr 322,vi 191 0,vi 0 0,vr 329,vi 195 0,vi 0 0,vr 334,vi 205 0,vi 0 0,vr 341,vi 219 0,vi 0 0,vr 349,vi 230 0,vi 0 0,vr 357,vi 242 0,vi 0 0,vr 364,vi 248 0,vi 0 0,vr 371,vi 254 0,vi 0 0,vr 378,vi 257 0,vi 0 0,vr 385,vi 267 0,vi 0 0,vr 392,vi 278 0,vi 0 0,vr 399,vi 282 0,vi 0 0,vr 406,vi 287 0,vi 0 0,vr 427,vi 293 0,vi 0 0,vr 446,vi 296 0,vi 0 0,vr 453,vi 301 0,vi 0 0,vr 460,vi 311 0,vi 0 0,vr 467,vi 316 0,vi 0 0,vr 474,vi 324 0,vi 0 0,vr 481,vi 327 0,vi 0 0,vr 488,vi 332 0,vi 0 0,vr 495,vi 340 0,vi 0 0,vr 502,vi 350 0,vi 0 0,vr 509,vi 353 0,vi 0 0,vr 516,vi 362 0,vi 0 0,vr 523,vi 364 0,vi 0 0,vr 530,vi 376 0,vi 0 0,vr 537,vi 378 0,vi 0 0,vr 544]
def Ee (P:Params):Obj:=di P [en "__name__" 165 (vs "gemrows.world" 1013),en "__doc__" 166 vn,en "__package__" 167 vn,en "__loader__" 168 (vu "__main__.__loader__#opaque"),en "__spec__" 169 vn,en "__annotations__" 170 (vr 6),en "__builtins__" 171 (vr 4),en "__file__" 173 (vs "/claim/cut.py" 172),en "__cached__" 174 vn,en "_wall" 193 (vr 21),en "SIMPLE_ESCAPES" 229 (vr 22),en "OPERATORS" 257 (vr 23),en "GLOBAL_SIGNS" 259 (vs "!@~&`'+$?:\"/\\;,.<>_*" 258),en "DEEPEST_KEY" 261 (vi 12 260),en "MOST_SEEN" 263 (vi 20000 262),en "Thing" 298 (vr 40),en "Text" 326 (vr 62),en "ListThing" 353 (vr 82),en "TableThing" 405 (vr 120),en "RangeThing" 436 (vr 140),en "ProcThing" 479 (vr 161),en "ErrorThing" 507 (vr 181),en "FiberThing" 537 (vr 201),en "ModuleThing" 584 (vr 228),en "is_int" 591 (vr 237),en "sort_of" 598 (vr 244),en "same" 607 (vr 251),en "takes_in" 615 (vr 258),en "code_of" 621 (vr 264),en "is_word" 629 (vr 271),en "is_figures" 635 (vr 276),en "is_label" 642 (vr 283),en "is_plain_symbol" 649 (vr 290),en "full_name" 659 (vr 297),en "show_letter" 669 (vr 304),en "show_text" 675 (vr 309),en "show_symbol" 682 (vr 316),en "show_pair" 692 (vr 323),en "show_range" 703 (vr 330),en "show_held" 709 (vr 335),en "show_thing" 720 (vr 342),en "message_text" 732 (vr 350),en "show" 743 (vr 358),en "kind_word" 753 (vr 365),en "need_int" 761 (vr 372),en "need_open" 769 (vr 379),en "limits_of" 780 (vr 386),en "span_in" 792 (vr 393),en "place_of" 802 (vr 400),en "GemError" 832 (vr 418),en "Raised" 857 (vr 438),en "list_item" 869 (vr 447),en "list_at" 879 (vr 454),en "list_slice_out" 890 (vr 461),en "list_delete_at" 900 (vr 468),en "whole" 911 (vr 475),en "need_free" 921 (vr 482),en "span_of" 931 (vr 489),en "span_of_range" 944 (vr 496),en "span_for" 955 (vr 503),en "part" 965 (vr 510),en "take_part" 976 (vr 517),en "raise_version" 985 (vr 524),en "own_module" 995 (vr 531),en "class_above" 1002 (vr 538),en "make_own" 1012 (vr 545),en "MODULES" 1018 (vr 546),en "BUILTINS" 1135 (vr 547),en "MIXED" 1157 (vr 550)] 69
def vJ:Obj:=fl vn [vi 1 0,vi 0 0,vr 20,vi 10 0,vi 0 0,vr 29,vi 19 0,vi 0 0,vr 50,vi 24 0,vi 0 0,vr 70,vi 29 0,vi 0 0,vr 90,vi 49 0,vi 0 0,vr 128,vi 56 0,vi 0 0,vr 148,vi 69 0,vi 0 0,vr 169,vi 75 0,vi 0 0,vr 189,vi 83 0,vi 0 0,vr 209,vi 101 0,vi 0 0,vr 236,vi 103 0,vi 0 0,vr 243,vi 111 0,vi 0 0,vr 250,vi 116 0,vi 0 0,vr 257,vi 121 0,vi 0 0,vr 263,vi 136 0,vi 0 0,vr 270,vi 143 0,vi 0 0,vr 275,vi 145 0,vi 0 0,vr 282,vi 147 0,vi 0 0,vr 289,vi 157 0,vi 0 0,vr 296,vi 172 0,vi 0 0,vr 303,vi 182 0,vi 0 0,vr 308,vi 185 0,vi 0 0,vr 315,vi 187 0,vi 0 0,vr 322,vi 191 0,vi 0 0,vr 329,vi 195 0,vi 0 0,vr 334,vi 205 0,vi 0 0,vr 341,vi 219 0,vi 0 0,vr 349,vi 230 0,vi 0 0,vr 357,vi 242 0,vi 0 0,vr 364,vi 248 0,vi 0 0,vr 371,vi 254 0,vi 0 0,vr 378,vi 257 0,vi 0 0,vr 385,vi 267 0,vi 0 0,vr 392,vi 278 0,vi 0 0,vr 399,vi 282 0,vi 0 0,vr 406,vi 287 0,vi 0 0,vr 427,vi 293 0,vi 0 0,vr 446,vi 296 0,vi 0 0,vr 453,vi 301 0,vi 0 0,vr 460,vi 311 0,vi 0 0,vr 467,vi 316 0,vi 0 0,vr 474,vi 324 0,vi 0 0,vr 481,vi 327 0,vi 0 0,vr 488,vi 332 0,vi 0 0,vr 495,vi 340 0,vi 0 0,vr 502,vi 350 0,vi 0 0,vr 509,vi 353 0,vi 0 0,vr 516,vi 362 0,vi 0 0,vr 523,vi 364 0,vi 0 0,vr 530,vi 376 0,vi 0 0,vr 537,vi 378 0,vi 0 0,vr 544]
def Fh (P:Params):Obj:=di P [en "__name__" 165 (vs "gemrows.world" 1013),en "__doc__" 166 vn,en "__package__" 167 vn,en "__loader__" 168 (vu "__main__.__loader__#opaque"),en "__spec__" 169 vn,en "__annotations__" 170 (vr 6),en "__builtins__" 171 (vr 4),en "__file__" 173 (vs "/claim/cut.py" 172),en "__cached__" 174 vn,en "_wall" 193 (vr 21),en "SIMPLE_ESCAPES" 229 (vr 22),en "OPERATORS" 257 (vr 23),en "GLOBAL_SIGNS" 259 (vs "!@~&`'+$?:\"/\\;,.<>_*" 258),en "DEEPEST_KEY" 261 (vi 12 260),en "MOST_SEEN" 263 (vi 20000 262),en "Thing" 298 (vr 40),en "Text" 326 (vr 62),en "ListThing" 353 (vr 82),en "TableThing" 405 (vr 120),en "RangeThing" 436 (vr 140),en "ProcThing" 479 (vr 161),en "ErrorThing" 507 (vr 181),en "FiberThing" 537 (vr 201),en "ModuleThing" 584 (vr 228),en "is_int" 591 (vr 237),en "sort_of" 598 (vr 244),en "same" 607 (vr 251),en "takes_in" 615 (vr 258),en "code_of" 621 (vr 264),en "is_word" 629 (vr 271),en "is_figures" 635 (vr 276),en "is_label" 642 (vr 283),en "is_plain_symbol" 649 (vr 290),en "full_name" 659 (vr 297),en "show_letter" 669 (vr 304),en "show_text" 675 (vr 309),en "show_symbol" 682 (vr 316),en "show_pair" 692 (vr 323),en "show_range" 703 (vr 330),en "show_held" 709 (vr 335),en "show_thing" 720 (vr 342),en "message_text" 732 (vr 350),en "show" 743 (vr 358),en "kind_word" 753 (vr 365),en "need_int" 761 (vr 372),en "need_open" 769 (vr 379),en "limits_of" 780 (vr 386),en "span_in" 792 (vr 393),en "place_of" 802 (vr 400),en "GemError" 832 (vr 418),en "Raised" 857 (vr 438),en "list_item" 869 (vr 447),en "list_at" 879 (vr 454),en "list_slice_out" 890 (vr 461),en "list_delete_at" 900 (vr 468),en "whole" 911 (vr 475),en "need_free" 921 (vr 482),en "span_of" 931 (vr 489),en "span_of_range" 944 (vr 496),en "span_for" 955 (vr 503),en "part" 965 (vr 510),en "take_part" 976 (vr 517),en "raise_version" 985 (vr 524),en "own_module" 995 (vr 531),en "class_above" 1002 (vr 538),en "make_own" 1012 (vr 545),en "MODULES" 1018 (vr 546),en "BUILTINS" 1135 (vr 547),en "MIXED" 1157 (vr 550),en "UNMADE" 1163 (vr 558),en "World" 1542 (vr 834)] 71
def we:Obj:=fl vn [vi 1 0,vi 0 0,vr 20,vi 10 0,vi 0 0,vr 29,vi 19 0,vi 0 0,vr 50,vi 24 0,vi 0 0,vr 70,vi 29 0,vi 0 0,vr 90,vi 49 0,vi 0 0,vr 128,vi 56 0,vi 0 0,vr 148,vi 69 0,vi 0 0,vr 169,vi 75 0,vi 0 0,vr 189,vi 83 0,vi 0 0,vr 209,vi 101 0,vi 0 0,vr 236,vi 103 0,vi 0 0,vr 243,vi 111 0,vi 0 0,vr 250,vi 116 0,vi 0 0,vr 257,vi 121 0,vi 0 0,vr 263,vi 136 0,vi 0 0,vr 270,vi 143 0,vi 0 0,vr 275,vi 145 0,vi 0 0,vr 282,vi 147 0,vi 0 0,vr 289,vi 157 0,vi 0 0,vr 296,vi 172 0,vi 0 0,vr 303,vi 182 0,vi 0 0,vr 308,vi 185 0,vi 0 0,vr 315,vi 187 0,vi 0 0,vr 322,vi 191 0,vi 0 0,vr 329,vi 195 0,vi 0 0,vr 334,vi 205 0,vi 0 0,vr 341,vi 219 0,vi 0 0,vr 349,vi 230 0,vi 0 0,vr 357,vi 242 0,vi 0 0,vr 364,vi 248 0,vi 0 0,vr 371,vi 254 0,vi 0 0,vr 378,vi 257 0,vi 0 0,vr 385,vi 267 0,vi 0 0,vr 392,vi 278 0,vi 0 0,vr 399,vi 282 0,vi 0 0,vr 406,vi 287 0,vi 0 0,vr 427,vi 293 0,vi 0 0,vr 446,vi 296 0,vi 0 0,vr 453,vi 301 0,vi 0 0,vr 460,vi 311 0,vi 0 0,vr 467,vi 316 0,vi 0 0,vr 474,vi 324 0,vi 0 0,vr 481,vi 327 0,vi 0 0,vr 488,vi 332 0,vi 0 0,vr 495,vi 340 0,vi 0 0,vr 502,vi 350 0,vi 0 0,vr 509,vi 353 0,vi 0 0,vr 516,vi 362 0,vi 0 0,vr 523,vi 364 0,vi 0 0,vr 530,vi 376 0,vi 0 0,vr 537,vi 378 0,vi 0 0,vr 544,vi 390 0,vi 0 0,vr 564]
def z0 (P:Params) (r:List Obj):List Obj:=o0 P::o1 P::o2 P::r
def z4 (P:Params) (r:List Obj):List Obj:=o4 P::o5 P::o6 P::o7 P::o8 P::o9 P::o10 P::o11::r
def CK (P:Params) (r:List Obj):List Obj:=o13::o14::r
def Hu (P:Params) (r:List Obj):List Obj:=o15::o16::o17::o18::o19::o20::o21::o22 P::r
def Rq (P:Params) (r:List Obj):List Obj:=o23::o24::o25::o26 P::o27::o28::o29::o30::o31::o32::o33::o34::o35::o36::o37::o38::o39 P::r
def Ub (P:Params) (r:List Obj):List Obj:=o41::o42::o43::o44::o45::o46::o47 P::o48::o49::o50::o51::o52::o53::o54::o55::o56::o57::o58::o59::o60::o61 P::o62::o63::o64::o65::o66::o67 P::o68::o69::o70::o71::o72::o73::o74::o75::o76::o77::o78::o79::o80::o81 P::o82::o83::o84::o85::o86::o87 P::o88::o89::o90::o91::o92::o93::o94::o95::o96::o97::o98::o99::Xen::Q5::Ip::XdM::Uv::GF::Sw::XcU::VG::MW::Xck::Ot::Iq::Km::XcS::Xda::QN::TC::Qk::QQ P::Qe::XdE::Xfn::TZ::XfB::Xdk P::Xbx::Xc1::XdG::Xdx::HJ::Qq::WO::SS::RR::XcD::UZ::A7::IA::TY P::UA::XdX::XbI::MG::XaL::Xd2 P::Xek::XbY::Xc4::WM::TI::IN::Pt::Xai::SN::Jr::Xbb::SC::UF::Uq::Jz P::Ug::XcA::Wr::LN::WR::Xfv P::Xfq::Xep::Xar::XaJ::R3::K2::Xdh::Qa::UJ::Wu::PW::Hg::Mr::Mc P::K4::XeV::XdK::NA::Xct::Xcr P::XeK::Xej::Xdz::Xe3::NT::Pa::Xb1::Rr::M3::Wk::LM::N7::Jw::VX P::Tl::XeS::Xeq::r
def xb (P:Params) (r:List Obj):List Obj:=SL::Xa0::Xdm P::XeT::Xdp::XfL::XeW::LY::PH::Xad::JT::Kz::XeD::SI::wK::QD::Xex::Ie::Kj::Xdf::LR::z9::Un::KU P::NU::WE::XaF::UX::Xcv::PL::VR::WL::QA::AP::Kf::WK::Iu::US::Xfu::Kk::AV::Lc::Xfb::Pz::U4::XdQ::R5::D0::NV::XdL::J6::Ml::Xaa::Qm::RJ::Qn::VW::Xbv::Xel::I8::Hl::PS::Xfp::S9::Uo::XaM::L4::HH::Vp::Xca::Xew::Ja::Nq::HO::Xee::HR::Ig::Wm::K8::N6::Rl::XbH::TQ::Ov::XeJ::TA::KT::LB::Xcj::UT::PG::XbL::RE::Fk::Ia::XeR::LJ::Sr::Xcl::Rn::Vo::Uh::XdI::Xfe::Vb::Qt::Ps::XcZ::PV::Vj::Wo::Q4::JV::P8::XbN::VQ::Q1::Xaw::J8::Sc::MQ::Xfy::L9::Qb::XaH::Vu::Kr::N2::Xe6::Xfs::IR::Qr::VJ::XbS::HL::TR::XdY::HW::Vk::Q8::UV::WN::R4::Nt::Xao::JP::Kd::Iy::SR::Xbt::OC::OU::Xaf::O8::CO::Ry::XeL::MX::T8::XfJ::KB::Bq::VB::XcJ::NQ::Jf::Xc0::UC::Gk::RQ::XbR::RD::Lh::Xce::PX::Ag::Q2::XdR::TS::IO::Xdu::TN::DA::Oz::XcK::IG::NK::Xcx::TF::GZ::KD::XfD::Pn::Th::WP::Rk::EZ::RH::Xaz::XdD P::XbG::Xfd::WF::Xd1::K3::TJ::XdP::J3::Ms::Xd3::Kn::GC::Kt::Rp P::Me::NR::Xe1::XcH::JK::Xdq::Wl P::XcI::Xer::Xcb::XcX::VC::XdZ::MD::Im::XeY::LZ::z6::TX::UG P::Sm::Xdd::XcF::HV::Xez::IY::LU::XeE::K6::GW::Sb::WJ::MO::Md::XaR::Ib::zT::I2::Xdt::Tm::NF::Xc3::S6::DJ::Sv::Wj::UN::Qi::Xas::Qu::Bf::LL::Xfl::IX::Io::XdJ::P2::Fi::NS::XeP::Kb::TH::Xdg::K5::EV::IQ::Xb5::S4::ND::XeZ::Iv::Gp::Ts::Xa1::Sh::M9::Xcd::Mb::Em::Vc::Xfm::TT::HP::XbO::Uc::Bn::M1::XcB::MY::QY::Xdi::Jb::GQ::KH::Xbn::RI::HU::Xe0::MR::Ac::Sl::XdO::Mj::Lu::XbQ::UL::JJ::Ob::XbF::VV::Ud::Xci::KJ::Jy::Pd::Xd5::Tt::Oc::Xa8::PY::Ny::Nc::Xa7::LP::J5::XcQ::PA::VK::Ld::r
def CM (P:Params) (r:List Obj):List Obj:=Mp P::Xd7 P::Xev P::M5 P::MC::Vy::M4::IZ::KO::Oe::OJ::r
def TU (P:Params) (r:List Obj):List Obj:=OX::Xa2::XaX::Xbm P::Xb6::Xb7::Xbg::Xak::Sp::Lw::XbV::TG::N8::Wi::T4::EM::IW::XaQ::R6::QO::XeC::QX::Jx::TV::Xcp::Nm::ML::XbT::UH::KP::OF::Xde::Qv::Mh::Wg::PB::CL::IC::XbJ::Tx::Qo::Xcw::HX::SX::Ji::Xcy::Ol::Ks::Xbf::JS::Jj::RT::Xe5::O0::RZ::XaP::MA::AI::OQ::Xes::Xa6::Vq::Dk::Py::XdV::QG::Pw::Xbl::UU::Hm::VI::Nl::Xa5::OI::HZ::Xei::OW::Ai::Rw::Xbu::Ik::Jn::XaA::OR::Bi::P3::Xfh::KF::I7::Ww::Qc::Rh::KQ::WS::Ni::LI::Xe2::Oj::Nj::Ui::Xdc::HY::OZ::Xbq::LH::Bo::Td::WB::VH::PF::Xba::RS::H9::N3::Xet::KZ::VO::Xec::Mq::EY::JB::Xef::PR::I4::Xab::Mw::Fn::NP::Xan::SQ::Rd::XfC::Ut::C4::Pp::Xe9::Qx::VT::XbE::OP::EW::Oo::WC::Oi::Np::XfA::QP::EI::T6::XaV::LC::IM::Xeh::RA::Px::Ii::XdC::Tn::Nv::XfI::NJ::EL::IB::Xfj::VN::PZ::Xb8::U0::RB::Ij::XbP::Sy::Kg::Xem::S7::JG::JN::Xe7::IJ::Pr::XaO::Up::Ta::PM::XcG::RU::T9::Xfw::P1::Mt::R9::XeI::Ir::PN::Xdo::Pb::Tv::H0::Xd0::U7::Nu::Xbe::NZ::Ej::VU::Xdn::MJ::UP::WD::Kv::BQ::MF::XaC::PJ::Ql::Xd6::Se::P5::So::Xb2::MU::VP::Xco::II::K9::Ri::XeO::Lx::Jk::Xfx::UI::NI::U6::XdS::L5::QI::Xfz::OK::Ln::OY::Xeg::Pc::Pv::Xcs::UO::Q3::NW::Xcc::LG::Ls::Xc7::Id::Q0::Lf::XdF::MK::Na::Xcz::Uw::Pf::SH::Xcn::Lk::Nh::Xdw::LE::Vm::Vt::Xdl::PI::Qh::Xc2::T7::LO::Qj::Pi P::Qw::Ki::SZ::XeM::Xby::r
def XeU (P:Params) (r:List Obj):List Obj:=LD::Xcq::J0::RP::Xds::RC::Ci::Vn::XaI::N0::Ng::XbD::Mz::C6::MI::XbK::Iz::PO::Xfc::T5::D8::Mg::Xeo::Sz::IL::XdT::OT::Am::MZ::Xae::XaE::JR::FC::Jp::Xdb::JH::SW::XeN::LQ::Hc::MP::XbX::Nk::HT::Xat::J2::Bx::KM::Xd4::JF::H7::XaG::Rt::F7::MH::XaD::H6::NE::Xfg::Ro::GX::M6::Xap::Tw::NY::Xbh::LV::Aa::P7::XbZ::Xey::O7::C0::Oh::Xav::Lb::Ul::XaN::JM::Eu::Ra::XfK::MS::Rx::Xbw::F5::BX::Jl::XcV::Xaq::Pq::FQ::Mm::Xbs::Xd8::Ga::A4::OH::XdA::Wt::M0::Fy::r
def l_b (P:Params):List Obj:=z0 P (boot_o_3 P::z4 P (Os::CK P ([])))
def Xd9 (P:Params):List Obj:=z0 P (Ux P::z4 P (D9::CK P (Hu P ([]))))
def UM (P:Params):List Obj:=z0 P (Es P::z4 P (w6::CK P (Hu P (Rq P (xG::Ub P ([]))))))
def Jg (P:Params):List Obj:=z0 P (E9 P::z4 P (uH::CK P (Hu P (Rq P (KL::Ub P (xb P ([])))))))
def Tk (P:Params):List Obj:=z0 P (Ee P::z4 P (vJ::CK P (Hu P (Rq P (KL::Ub P (xb P (CM P ([]))))))))
def SM (P:Params):List Obj:=z0 P (Fh P::z4 P (we::CK P (Hu P (Rq P (KL::Ub P (xb P (CM P (TU P ([])))))))))
def l_e (P:Params):List Obj:=z0 P (o3 P::z4 P (o12::CK P (Hu P (Rq P (KL::Ub P (xb P (CM P (TU P (XeU P ([]))))))))))
def l_f (P:Params):List Obj:=l_e P
end
noncomputable def HK (P:Params):Frag:=(nat_lit 2,o2 P)::(nat_lit 3,o3 P)::(nat_lit 15,o15)::(nat_lit 17,o17)::(nat_lit 18,o18)::(nat_lit 20,o20)::(nat_lit 21,o21)::(nat_lit 22,o22 P)::(nat_lit 23,o23)::(nat_lit 31,o31)::(nat_lit 33,o33)::(nat_lit 34,o34)::(nat_lit 36,o36)::(nat_lit 37,o37)::(nat_lit 38,o38)::(nat_lit 39,o39 P)::(nat_lit 40,KL)::(nat_lit 41,o41)::(nat_lit 42,o42)::(nat_lit 45,o45)::(nat_lit 52,o52)::(nat_lit 53,o53)::(nat_lit 55,o55)::(nat_lit 56,o56)::(nat_lit 58,o58)::(nat_lit 59,o59)::(nat_lit 60,o60)::(nat_lit 61,o61 P)::(nat_lit 62,o62)::(nat_lit 65,o65)::(nat_lit 72,o72)::(nat_lit 73,o73)::(nat_lit 75,o75)::(nat_lit 76,o76)::(nat_lit 78,o78)::(nat_lit 79,o79)::(nat_lit 80,o80)::(nat_lit 81,o81 P)::(nat_lit 82,o82)::(nat_lit 85,o85)::(nat_lit 92,o92)::(nat_lit 94,o94)::(nat_lit 95,o95)::(nat_lit 97,o97)::(nat_lit 98,o98)::(nat_lit 99,o99)::(nat_lit 101,Q5)::(nat_lit 102,Ip)::(nat_lit 104,Uv)::(nat_lit 105,GF)::(nat_lit 106,Sw)::(nat_lit 108,VG)::(nat_lit 109,MW)::(nat_lit 111,Ot)::(nat_lit 112,Iq)::(nat_lit 113,Km)::(nat_lit 116,QN)::(nat_lit 117,TC)::(nat_lit 118,Qk)::(nat_lit 119,QQ P)::(nat_lit 120,Qe)::(nat_lit 123,TZ)::(nat_lit 130,HJ)::(nat_lit 131,Qq)::(nat_lit 133,SS)::(nat_lit 134,RR)::(nat_lit 136,UZ)::(nat_lit 137,A7)::(nat_lit 138,IA)::(nat_lit 139,TY P)::(nat_lit 140,UA)::(nat_lit 143,MG)::(nat_lit 150,TI)::(nat_lit 151,IN)::(nat_lit 152,Pt)::(nat_lit 154,SN)::(nat_lit 155,Jr)::(nat_lit 157,SC)::(nat_lit 158,UF)::(nat_lit 159,Uq)::(nat_lit 160,Jz P)::(nat_lit 161,Ug)::(nat_lit 164,LN)::(nat_lit 171,R3)::(nat_lit 172,K2)::(nat_lit 174,Qa)::(nat_lit 175,UJ)::(nat_lit 177,PW)::(nat_lit 178,Hg)::(nat_lit 179,Mr)::(nat_lit 180,Mc P)::(nat_lit 181,K4)::(nat_lit 184,NA)::(nat_lit 191,NT)::(nat_lit 192,Pa)::(nat_lit 194,Rr)::(nat_lit 195,M3)::(nat_lit 197,LM)::(nat_lit 198,N7)::(nat_lit 199,Jw)::(nat_lit 200,VX P)::(nat_lit 201,Tl)::(nat_lit 204,SL)::(nat_lit 211,LY)::(nat_lit 212,PH)::(nat_lit 214,JT)::(nat_lit 215,Kz)::(nat_lit 217,SI)::(nat_lit 218,wK)::(nat_lit 219,QD)::(nat_lit 221,Ie)::(nat_lit 222,Kj)::(nat_lit 224,LR)::(nat_lit 225,z9)::(nat_lit 226,Un)::(nat_lit 227,KU P)::(nat_lit 228,NU)::(nat_lit 231,UX)::(nat_lit 233,PL)::(nat_lit 234,VR)::(nat_lit 236,QA)::(nat_lit 237,AP)::(nat_lit 238,Kf)::(nat_lit 240,Iu)::(nat_lit 241,US)::(nat_lit 243,Kk)::(nat_lit 244,AV)::(nat_lit 245,Lc)::(nat_lit 247,Pz)::(nat_lit 248,U4)::(nat_lit 250,R5)::(nat_lit 251,D0)::(nat_lit 252,NV)::(nat_lit 254,J6)::(nat_lit 255,Ml)::(nat_lit 257,Qm)::(nat_lit 258,RJ)::(nat_lit 259,Qn)::(nat_lit 260,VW)::(nat_lit 263,I8)::(nat_lit 264,Hl)::(nat_lit 265,PS)::(nat_lit 267,S9)::(nat_lit 268,Uo)::(nat_lit 270,L4)::(nat_lit 271,HH)::(nat_lit 272,Vp)::(nat_lit 275,Ja)::(nat_lit 276,Nq)::(nat_lit 277,HO)::(nat_lit 279,HR)::(nat_lit 280,Ig)::(nat_lit 282,K8)::(nat_lit 283,N6)::(nat_lit 284,Rl)::(nat_lit 286,TQ)::(nat_lit 287,Ov)::(nat_lit 289,TA)::(nat_lit 290,KT)::(nat_lit 291,LB)::(nat_lit 293,UT)::(nat_lit 294,PG)::(nat_lit 296,RE)::(nat_lit 297,Fk)::(nat_lit 298,Ia)::(nat_lit 300,LJ)::(nat_lit 301,Sr)::(nat_lit 303,Rn)::(nat_lit 304,Vo)::(nat_lit 305,Uh)::(nat_lit 308,Vb)::(nat_lit 309,Qt)::(nat_lit 310,Ps)::(nat_lit 312,PV)::(nat_lit 313,Vj)::(nat_lit 315,Q4)::(nat_lit 316,JV)::(nat_lit 317,P8)::(nat_lit 319,VQ)::(nat_lit 320,Q1)::(nat_lit 322,J8)::(nat_lit 323,Sc)::(nat_lit 324,MQ)::(nat_lit 326,L9)::(nat_lit 327,Qb)::(nat_lit 329,Vu)::(nat_lit 330,Kr)::(nat_lit 331,N2)::(nat_lit 334,IR)::(nat_lit 335,Qr)::(nat_lit 336,VJ)::(nat_lit 338,HL)::(nat_lit 339,TR)::(nat_lit 341,HW)::(nat_lit 342,Vk)::(nat_lit 343,Q8)::(nat_lit 344,UV)::(nat_lit 346,R4)::(nat_lit 347,Nt)::(nat_lit 349,JP)::(nat_lit 350,Kd)::(nat_lit 351,Iy)::(nat_lit 352,SR)::(nat_lit 354,OC)::(nat_lit 355,OU)::(nat_lit 357,O8)::(nat_lit 358,CO)::(nat_lit 359,Ry)::(nat_lit 361,MX)::(nat_lit 362,T8)::(nat_lit 364,KB)::(nat_lit 365,Bq)::(nat_lit 366,VB)::(nat_lit 368,NQ)::(nat_lit 369,Jf)::(nat_lit 371,UC)::(nat_lit 372,Gk)::(nat_lit 373,RQ)::(nat_lit 375,RD)::(nat_lit 376,Lh)::(nat_lit 378,PX)::(nat_lit 379,Ag)::(nat_lit 380,Q2)::(nat_lit 382,TS)::(nat_lit 383,IO)::(nat_lit 385,TN)::(nat_lit 386,DA)::(nat_lit 387,Oz)::(nat_lit 389,IG)::(nat_lit 390,NK)::(nat_lit 392,TF)::(nat_lit 393,GZ)::(nat_lit 394,KD)::(nat_lit 396,Pn)::(nat_lit 397,Th)::(nat_lit 399,Rk)::(nat_lit 400,EZ)::(nat_lit 401,RH)::(nat_lit 408,K3)::(nat_lit 409,TJ)::(nat_lit 411,J3)::(nat_lit 412,Ms)::(nat_lit 414,Kn)::(nat_lit 415,GC)::(nat_lit 416,Kt)::(nat_lit 417,Rp P)::(nat_lit 418,Me)::(nat_lit 419,NR)::(nat_lit 422,JK)::(nat_lit 429,VC)::(nat_lit 431,MD)::(nat_lit 432,Im)::(nat_lit 434,LZ)::(nat_lit 435,z6)::(nat_lit 436,TX)::(nat_lit 437,UG P)::(nat_lit 438,Sm)::(nat_lit 441,HV)::(nat_lit 443,IY)::(nat_lit 444,LU)::(nat_lit 446,K6)::(nat_lit 447,GW)::(nat_lit 448,Sb)::(nat_lit 450,MO)::(nat_lit 451,Md)::(nat_lit 453,Ib)::(nat_lit 454,zT)::(nat_lit 455,I2)::(nat_lit 457,Tm)::(nat_lit 458,NF)::(nat_lit 460,S6)::(nat_lit 461,DJ)::(nat_lit 462,Sv)::(nat_lit 464,UN)::(nat_lit 465,Qi)::(nat_lit 467,Qu)::(nat_lit 468,Bf)::(nat_lit 469,LL)::(nat_lit 471,IX)::(nat_lit 472,Io)::(nat_lit 474,P2)::(nat_lit 475,Fi)::(nat_lit 476,NS)::(nat_lit 478,Kb)::(nat_lit 479,TH)::(nat_lit 481,K5)::(nat_lit 482,EV)::(nat_lit 483,IQ)::(nat_lit 485,S4)::(nat_lit 486,ND)::(nat_lit 488,Iv)::(nat_lit 489,Gp)::(nat_lit 490,Ts)::(nat_lit 492,Sh)::(nat_lit 493,M9)::(nat_lit 495,Mb)::(nat_lit 496,Em)::(nat_lit 497,Vc)::(nat_lit 499,TT)::(nat_lit 500,HP)::(nat_lit 502,Uc)::(nat_lit 503,Bn)::(nat_lit 504,M1)::(nat_lit 506,MY)::(nat_lit 507,QY)::(nat_lit 509,Jb)::(nat_lit 510,GQ)::(nat_lit 511,KH)::(nat_lit 513,RI)::(nat_lit 514,HU)::(nat_lit 516,MR)::(nat_lit 517,Ac)::(nat_lit 518,Sl)::(nat_lit 520,Mj)::(nat_lit 521,Lu)::(nat_lit 523,UL)::(nat_lit 524,JJ)::(nat_lit 525,Ob)::(nat_lit 527,VV)::(nat_lit 528,Ud)::(nat_lit 530,KJ)::(nat_lit 531,Jy)::(nat_lit 532,Pd)::(nat_lit 534,Tt)::(nat_lit 535,Oc)::(nat_lit 537,PY)::(nat_lit 538,Ny)::(nat_lit 539,Nc)::(nat_lit 541,LP)::(nat_lit 542,J5)::(nat_lit 544,PA)::(nat_lit 545,VK)::(nat_lit 546,Ld)::(nat_lit 547,Mp P)::(nat_lit 550,M5 P)::(nat_lit 551,MC)::(nat_lit 552,Vy)::(nat_lit 553,M4)::(nat_lit 554,IZ)::(nat_lit 555,KO)::(nat_lit 556,Oe)::(nat_lit 557,OJ)::(nat_lit 558,OX)::(nat_lit 566,Sp)::(nat_lit 567,Lw)::(nat_lit 569,TG)::(nat_lit 570,N8)::(nat_lit 572,T4)::(nat_lit 573,EM)::(nat_lit 574,IW)::(nat_lit 576,R6)::(nat_lit 577,QO)::(nat_lit 579,QX)::(nat_lit 580,Jx)::(nat_lit 581,TV)::(nat_lit 583,Nm)::(nat_lit 584,ML)::(nat_lit 586,UH)::(nat_lit 587,KP)::(nat_lit 588,OF)::(nat_lit 590,Qv)::(nat_lit 591,Mh)::(nat_lit 593,PB)::(nat_lit 594,CL)::(nat_lit 595,IC)::(nat_lit 597,Tx)::(nat_lit 598,Qo)::(nat_lit 600,HX)::(nat_lit 601,SX)::(nat_lit 602,Ji)::(nat_lit 604,Ol)::(nat_lit 605,Ks)::(nat_lit 607,JS)::(nat_lit 608,Jj)::(nat_lit 609,RT)::(nat_lit 611,O0)::(nat_lit 612,RZ)::(nat_lit 614,MA)::(nat_lit 615,AI)::(nat_lit 616,OQ)::(nat_lit 619,Vq)::(nat_lit 620,Dk)::(nat_lit 621,Py)::(nat_lit 623,QG)::(nat_lit 624,Pw)::(nat_lit 626,UU)::(nat_lit 627,Hm)::(nat_lit 628,VI)::(nat_lit 629,Nl)::(nat_lit 631,OI)::(nat_lit 632,HZ)::(nat_lit 634,OW)::(nat_lit 635,Ai)::(nat_lit 636,Rw)::(nat_lit 638,Ik)::(nat_lit 639,Jn)::(nat_lit 641,OR)::(nat_lit 642,Bi)::(nat_lit 643,P3)::(nat_lit 645,KF)::(nat_lit 646,I7)::(nat_lit 648,Qc)::(nat_lit 649,Rh)::(nat_lit 650,KQ)::(nat_lit 652,Ni)::(nat_lit 653,LI)::(nat_lit 655,Oj)::(nat_lit 656,Nj)::(nat_lit 657,Ui)::(nat_lit 659,HY)::(nat_lit 660,OZ)::(nat_lit 662,LH)::(nat_lit 663,Bo)::(nat_lit 664,Td)::(nat_lit 666,VH)::(nat_lit 667,PF)::(nat_lit 669,RS)::(nat_lit 670,H9)::(nat_lit 671,N3)::(nat_lit 673,KZ)::(nat_lit 674,VO)::(nat_lit 676,Mq)::(nat_lit 677,EY)::(nat_lit 678,JB)::(nat_lit 680,PR)::(nat_lit 681,I4)::(nat_lit 683,Mw)::(nat_lit 684,Fn)::(nat_lit 685,NP)::(nat_lit 687,SQ)::(nat_lit 688,Rd)::(nat_lit 690,Ut)::(nat_lit 691,C4)::(nat_lit 692,Pp)::(nat_lit 694,Qx)::(nat_lit 695,VT)::(nat_lit 697,OP)::(nat_lit 698,EW)::(nat_lit 699,Oo)::(nat_lit 701,Oi)::(nat_lit 702,Np)::(nat_lit 704,QP)::(nat_lit 705,EI)::(nat_lit 706,T6)::(nat_lit 708,LC)::(nat_lit 709,IM)::(nat_lit 711,RA)::(nat_lit 712,Px)::(nat_lit 713,Ii)::(nat_lit 715,Tn)::(nat_lit 716,Nv)::(nat_lit 718,NJ)::(nat_lit 719,EL)::(nat_lit 720,IB)::(nat_lit 722,VN)::(nat_lit 723,PZ)::(nat_lit 725,U0)::(nat_lit 726,RB)::(nat_lit 727,Ij)::(nat_lit 729,Sy)::(nat_lit 730,Kg)::(nat_lit 732,S7)::(nat_lit 733,JG)::(nat_lit 734,JN)::(nat_lit 736,IJ)::(nat_lit 737,Pr)::(nat_lit 739,Up)::(nat_lit 740,Ta)::(nat_lit 741,PM)::(nat_lit 743,RU)::(nat_lit 744,T9)::(nat_lit 746,P1)::(nat_lit 747,Mt)::(nat_lit 748,R9)::(nat_lit 750,Ir)::(nat_lit 751,PN)::(nat_lit 753,Pb)::(nat_lit 754,Tv)::(nat_lit 755,H0)::(nat_lit 757,U7)::(nat_lit 758,Nu)::(nat_lit 760,NZ)::(nat_lit 761,Ej)::(nat_lit 762,VU)::(nat_lit 764,MJ)::(nat_lit 765,UP)::(nat_lit 767,Kv)::(nat_lit 768,BQ)::(nat_lit 769,MF)::(nat_lit 771,PJ)::(nat_lit 772,Ql)::(nat_lit 774,Se)::(nat_lit 775,P5)::(nat_lit 776,So)::(nat_lit 778,MU)::(nat_lit 779,VP)::(nat_lit 781,II)::(nat_lit 782,K9)::(nat_lit 783,Ri)::(nat_lit 785,Lx)::(nat_lit 786,Jk)::(nat_lit 788,UI)::(nat_lit 789,NI)::(nat_lit 790,U6)::(nat_lit 792,L5)::(nat_lit 793,QI)::(nat_lit 795,OK)::(nat_lit 796,Ln)::(nat_lit 797,OY)::(nat_lit 799,Pc)::(nat_lit 800,Pv)::(nat_lit 802,UO)::(nat_lit 803,Q3)::(nat_lit 804,NW)::(nat_lit 806,LG)::(nat_lit 807,Ls)::(nat_lit 809,Id)::(nat_lit 810,Q0)::(nat_lit 811,Lf)::(nat_lit 813,MK)::(nat_lit 814,Na)::(nat_lit 816,Uw)::(nat_lit 817,Pf)::(nat_lit 818,SH)::(nat_lit 820,Lk)::(nat_lit 821,Nh)::(nat_lit 823,LE)::(nat_lit 824,Vm)::(nat_lit 825,Vt)::(nat_lit 827,PI)::(nat_lit 828,Qh)::(nat_lit 830,T7)::(nat_lit 831,LO)::(nat_lit 832,Qj)::(nat_lit 833,Pi P)::(nat_lit 834,Qw)::(nat_lit 835,Ki)::(nat_lit 836,SZ)::(nat_lit 839,LD)::(nat_lit 841,J0)::(nat_lit 842,RP)::(nat_lit 844,RC)::(nat_lit 845,Ci)::(nat_lit 846,Vn)::(nat_lit 848,N0)::(nat_lit 849,Ng)::(nat_lit 851,Mz)::(nat_lit 852,C6)::(nat_lit 853,MI)::(nat_lit 855,Iz)::(nat_lit 856,PO)::(nat_lit 858,T5)::(nat_lit 859,D8)::(nat_lit 860,Mg)::(nat_lit 862,Sz)::(nat_lit 863,IL)::(nat_lit 865,OT)::(nat_lit 866,Am)::(nat_lit 867,MZ)::(nat_lit 870,JR)::(nat_lit 871,FC)::(nat_lit 872,Jp)::(nat_lit 874,JH)::(nat_lit 875,SW)::(nat_lit 877,LQ)::(nat_lit 878,Hc)::(nat_lit 879,MP)::(nat_lit 881,Nk)::(nat_lit 882,HT)::(nat_lit 884,J2)::(nat_lit 885,Bx)::(nat_lit 886,KM)::(nat_lit 888,JF)::(nat_lit 889,H7)::(nat_lit 891,Rt)::(nat_lit 892,F7)::(nat_lit 893,MH)::(nat_lit 895,H6)::(nat_lit 896,NE)::(nat_lit 898,Ro)::(nat_lit 899,GX)::(nat_lit 900,M6)::(nat_lit 902,Tw)::(nat_lit 903,NY)::(nat_lit 905,LV)::(nat_lit 906,Aa)::(nat_lit 907,P7)::(nat_lit 910,O7)::(nat_lit 911,C0)::(nat_lit 912,Oh)::(nat_lit 914,Lb)::(nat_lit 915,Ul)::(nat_lit 917,JM)::(nat_lit 918,Eu)::(nat_lit 919,Ra)::(nat_lit 921,MS)::(nat_lit 922,Rx)::(nat_lit 924,F5)::(nat_lit 925,BX)::(nat_lit 926,Jl)::(nat_lit 929,Pq)::(nat_lit 930,FQ)::(nat_lit 931,Mm)::(nat_lit 934,Ga)::(nat_lit 935,A4)::(nat_lit 936,OH)::(nat_lit 939,M0)::(nat_lit 940,Fy)::[]
noncomputable def as:List Addr:=[2,3,15,17,18,20,21,22,23,31,33,34,36,37,38,39,40,41,42,45,52,53,55,56,58,59,60,61,62,65,72,73,75,76,78,79,80,81,82,85,92,94,95,97,98,99,101,102,104,105,106,108,109,111,112,113,116,117,118,119,120,123,130,131,133,134,136,137,138,139,140,143,150,151,152,154,155,157,158,159,160,161,164,171,172,174,175,177,178,179,180,181,184,191,192,194,195,197,198,199,200,201,204,211,212,214,215,217,218,219,221,222,224,225,226,227,228,231,233,234,236,237,238,240,241,243,244,245,247,248,250,251,252,254,255,257,258,259,260,263,264,265,267,268,270,271,272,275,276,277,279,280,282,283,284,286,287,289,290,291,293,294,296,297,298,300,301,303,304,305,308,309,310,312,313,315,316,317,319,320,322,323,324,326,327,329,330,331,334,335,336,338,339,341,342,343,344,346,347,349,350,351,352,354,355,357,358,359,361,362,364,365,366,368,369,371,372,373,375,376,378,379,380,382,383,385,386,387,389,390,392,393,394,396,397,399,400,401,408,409,411,412,414,415,416,417,418,419,422,429,431,432,434,435,436,437,438,441,443,444,446,447,448,450,451,453,454,455,457,458,460,461,462,464,465,467,468,469,471,472,474,475,476,478,479,481,482,483,485,486,488,489,490,492,493,495,496,497,499,500,502,503,504,506,507,509,510,511,513,514,516,517,518,520,521,523,524,525,527,528,530,531,532,534,535,537,538,539,541,542,544,545,546,547,550,551,552,553,554,555,556,557,558,566,567,569,570,572,573,574,576,577,579,580,581,583,584,586,587,588,590,591,593,594,595,597,598,600,601,602,604,605,607,608,609,611,612,614,615,616,619,620,621,623,624,626,627,628,629,631,632,634,635,636,638,639,641,642,643,645,646,648,649,650,652,653,655,656,657,659,660,662,663,664,666,667,669,670,671,673,674,676,677,678,680,681,683,684,685,687,688,690,691,692,694,695,697,698,699,701,702,704,705,706,708,709,711,712,713,715,716,718,719,720,722,723,725,726,727,729,730,732,733,734,736,737,739,740,741,743,744,746,747,748,750,751,753,754,755,757,758,760,761,762,764,765,767,768,769,771,772,774,775,776,778,779,781,782,783,785,786,788,789,790,792,793,795,796,797,799,800,802,803,804,806,807,809,810,811,813,814,816,817,818,820,821,823,824,825,827,828,830,831,832,833,834,835,836,839,841,842,844,845,846,848,849,851,852,853,855,856,858,859,860,862,863,865,866,867,870,871,872,874,875,877,878,879,881,882,884,885,886,888,889,891,892,893,895,896,898,899,900,902,903,905,906,907,910,911,912,914,915,917,918,919,921,922,924,925,926,929,930,931,934,935,936,939,940]
noncomputable def keep:List Nat:=[0,2,3,4,5,6,7,8,9,10,11,12,13,14,15,16,17,18,19,21,22,23,24,25,26,27,28,29,30,31,32,36,37,38,39,40,41,43,44,46,47,48,49,51,53,54,55,56,57,58,60,61,62,63,65,66,67,68,69,71,72,73,74,75,76,77,78,79,80,81,82,83,84,85,86]
noncomputable def Fu (w:World) (os:OsState):SharedT:=⟨wV 12 (l_b w.params),15,{},#[],{},187,os⟩
noncomputable def m9 (w:World) (os:OsState):SharedT:=⟨wV 12 (Xd9 w.params),23,{},#[],{},230,os⟩
noncomputable def oE (w:World) (os:OsState):SharedT:=⟨wV 12 (UM w.params),204,{},#[],{},538,os⟩
noncomputable def iV (w:World) (os:OsState):SharedT:=⟨wV 12 (Jg w.params),547,{},#[],{},1019,os⟩
noncomputable def iQ (w:World) (os:OsState):SharedT:=⟨wV 12 (Tk w.params),558,{},#[],{},1158,os⟩
noncomputable def oJ (w:World) (os:OsState):SharedT:=⟨wV 12 (SM w.params),839,{},#[],{},1543,os⟩
noncomputable def S_e (w:World) (os:OsState):SharedT:=⟨wV 12 (l_e w.params),941,{},#[],{},1697,os⟩
theorem QZ (w:World):(λos=>PySem.W.Fast.tw10110043849684766642 PySem.W.Fast.tw14364793385576792824 PP (w.withFollow "special-get-raises" false) 11 (some (.ref 6)) 1 214 (Fu (w.withFollow "special-get-raises" false) os) (piecesOf (mI 0 3) eP cE ⟨0,0,0,0⟩ B0))=λos=>some (.next,m9 (w.withFollow "special-get-raises" false) os,cE,⟨5,0,5,14⟩):=by kernel_rfl
theorem Pm (w:World):(λos=>PySem.W.Fast.tw10110043849684766642 PySem.W.Fast.tw14364793385576792824 PP (w.withFollow "special-get-raises" true) 11 (some (.ref 6)) 1 214 (Fu (w.withFollow "special-get-raises" true) os) (piecesOf (mI 0 3) eP cE ⟨0,0,0,0⟩ B0))=λos=>some (.next,m9 (w.withFollow "special-get-raises" true) os,cE,⟨5,0,5,14⟩):=by kernel_rfl
theorem XbU (w:World):(λos=>PySem.W.Fast.tw10110043849684766642 PySem.W.Fast.tw14364793385576792824 PP w 11 (some (.ref 6)) 1 214 (Fu w os) (piecesOf (mI 0 3) eP cE ⟨0,0,0,0⟩ B0))=λos=>some (.next,m9 w os,cE,⟨5,0,5,14⟩):=byRow2 "special-get-raises" (P:=λw=>(λos=>PySem.W.Fast.tw10110043849684766642 PySem.W.Fast.tw14364793385576792824 PP w 11 (some (.ref 6)) 1 214 (Fu w os) (piecesOf (mI 0 3) eP cE ⟨0,0,0,0⟩ B0))=λos=>some (.next,m9 w os,cE,⟨5,0,5,14⟩)) QZ Pm w
theorem Ku (w:World):(λos=>PySem.W.Fast.tw10110043849684766642 PySem.W.Fast.tw14364793385576792824 PP w 11 (some (.ref 6)) 1 2150 (m9 w os) (piecesOf (mI 3 12) eP cE ⟨5,0,5,14⟩ B0))=λos=>some (.next,oE w os,cE,⟨75,0,82,24⟩):=by kernel_rfl
theorem Vl (w:World):(λos=>PySem.W.Fast.tw10110043849684766642 PySem.W.Fast.tw14364793385576792824 PP w 11 (some (.ref 6)) 1 2074 (oE w os) (piecesOf (mI 15 51) eP cE ⟨75,0,82,24⟩ B0))=λos=>some (.next,iV w os,cE,⟨386,0,386,7⟩):=by kernel_rfl
theorem EU (w:World):(λos=>PySem.W.Fast.tw10110043849684766642 PySem.W.Fast.tw14364793385576792824 PP (w.withFollow "special-get-raises" false) 11 (some (.ref 6)) 1 888 (iV (w.withFollow "special-get-raises" false) os) (piecesOf (mI 66 2) eP cE ⟨386,0,386,7⟩ B0))=λos=>some (.next,iQ (w.withFollow "special-get-raises" false) os,cE,⟨388,0,388,5⟩):=by kernel_rfl
theorem BL (w:World):(λos=>PySem.W.Fast.tw10110043849684766642 PySem.W.Fast.tw14364793385576792824 PP (w.withFollow "special-get-raises" true) 11 (some (.ref 6)) 1 888 (iV (w.withFollow "special-get-raises" true) os) (piecesOf (mI 66 2) eP cE ⟨386,0,386,7⟩ B0))=λos=>some (.next,iQ (w.withFollow "special-get-raises" true) os,cE,⟨388,0,388,5⟩):=by kernel_rfl
theorem H8 (w:World):(λos=>PySem.W.Fast.tw10110043849684766642 PySem.W.Fast.tw14364793385576792824 PP w 11 (some (.ref 6)) 1 888 (iV w os) (piecesOf (mI 66 2) eP cE ⟨386,0,386,7⟩ B0))=λos=>some (.next,iQ w os,cE,⟨388,0,388,5⟩):=byRow2 "special-get-raises" (P:=λw=>(λos=>PySem.W.Fast.tw10110043849684766642 PySem.W.Fast.tw14364793385576792824 PP w 11 (some (.ref 6)) 1 888 (iV w os) (piecesOf (mI 66 2) eP cE ⟨386,0,386,7⟩ B0))=λos=>some (.next,iQ w os,cE,⟨388,0,388,5⟩)) EU BL w
theorem P9 (w:World):(λos=>PySem.W.Fast.tw10110043849684766642 PySem.W.Fast.tw14364793385576792824 PP w 11 (some (.ref 6)) 1 1476 (iQ w os) (piecesOf (mI 68 2) eP cE ⟨388,0,388,5⟩ B0))=λos=>some (.next,oJ w os,cE,⟨390,0,604,17⟩):=by kernel_rfl
theorem p_e (w:World):(λos=>PySem.W.Fast.tw10110043849684766642 PySem.W.Fast.tw14364793385576792824 PP w 11 (some (.ref 6)) 1 504 (oJ w os) (piecesOf (mI 70 17) eP cE ⟨390,0,604,17⟩ B0))=λos=>some (.next,S_e w os,cE,⟨759,0,773,59⟩):=by kernel_rfl
section
variable {p:Program} {m:Nat} {b n:Nat}
theorem G5 {w:World} {a:Option Value} {s:SharedT} {t:Thread}:segRunT treeTable p w m a b n s t=PySem.W.Fast.tw10110043849684766642 PySem.W.Fast.tw14364793385576792824 p w m a b n s t:=by
 rw[PySem.W.Fast.te10110043849684766642,X6]
theorem gG {w:World} {S1 S2:World->OsState->SharedT} {N a n:Nat} {p1 p2:Pos} (os:OsState)
  (h:(λos=>PySem.W.Fast.tw10110043849684766642 PySem.W.Fast.tw14364793385576792824 PP w 11 (some (.ref 6)) 1 N (S1 w os) (piecesOf (mI a n) eP cE p1 B0))=λos=>some (.next,S2 w os,cE,p2))
  {M:Nat} {r:Shared} (k:topRun treeTable PP w 11 (some (.ref 6)) M (S2 w os).abs (restOf ((behindTheImports PP).drop (a+n)) eP cE p2 B0)=some r):
  topRun treeTable PP w 11 (some (.ref 6)) (N+M) (S1 w os).abs (restOf ((behindTheImports PP).drop a) eP cE p1 B0)=some r:=by
 have e:(behindTheImports PP).drop a=mI a n++(behindTheImports PP).drop (a+n):=by
  unfold mI;rw[←List.drop_drop,ZW]
 rw[e];refine piece_app (segRun_of ?_) k;rw[G5];exact Zq h os
noncomputable def Ha (P:Params):Heap:={objs:=(l_b P).toArray}
noncomputable def H1 (P:Params):Heap:={objs:=(l_f P).toArray}
theorem Dh (w:World):(λos=>PySem.W.Fast.tw15667345088766844465 PySem.W.Fast.tw14364793385576792824 PP w 11 (some (.ref 6)) 12 {heap:=boot_heap w.params,drawn:=boot_drawn,toks:=boot_toks,os:=os} (topStub PP))=λos=>some ({heap:=Ha w.params,toks:=187,os:=os},(⟨PySem.W.Fast.tw11892475500146522536 PySem.W.Fast.tw14364793385576792824 cE,cE,⟨0,0,0,0⟩,B0⟩:Thread)):=by kernel_rfl
theorem sQ (w:World):(λos=>PySem.W.Fast.tw14374325043358763698 PySem.W.Fast.tw14364793385576792824 PP w 11 (some (.ref 6)) 1 1 {heap:=Ha w.params,toks:=187,os:=os} (blockOf (behindTheImports PP) eP cE ⟨0,0,0,0⟩ B0))=λos=>some (.next,(Fu w os).abs,cE,⟨0,0,0,0⟩):=by kernel_rfl
theorem Gr (w:World):(λos=>PySem.W.Fast.tw14082659384304107361 PySem.W.Fast.tw14364793385576792824 PP w 11 (some (.ref 6)) 2 (S_e w os).abs (restOf ((behindTheImports PP).drop (70+17)) eP cE ⟨759,0,773,59⟩ B0))=λos=>some {heap:=H1 w.params,toks:=1697,os:=os}:=by kernel_rfl
theorem va (w:World) (os:OsState):topRun treeTable PP w 11 (some (.ref 6)) (12+(1+(214+(2150+(2074+(888+(1476+(504+2)))))))) {heap:=boot_heap w.params,drawn:=boot_drawn,toks:=boot_toks,os:=os} (topStub PP)=some {heap:=H1 w.params,toks:=1697,os:=os}:=by
 refine go_top (t':=⟨denote treeTable cE,cE,⟨0,0,0,0⟩,B0⟩) (s':={heap:=Ha w.params,toks:=187,os:=os}) ?_ ?_
 ·have z:=Zq (Dh w) os
  rw[←PySem.W.Fast.te15667345088766844465,←PySem.W.Fast.te11892475500146522536,←X6]at z;exact z
 refine piece_block (s':=(Fu w os).abs) (p':=⟨0,0,0,0⟩) ?_ ?_
 ·have z:=Zq (sQ w) os
  rw[←PySem.W.Fast.te14374325043358763698,←X6]at z;exact z
 refine gG (S1:=Fu) (S2:=m9) os (XbU w) (gG (S1:=m9) (S2:=oE) os (Ku w) (gG (S1:=oE) (S2:=iV) os (Vl w) (gG (S1:=iV) (S2:=iQ) os (H8 w) (gG (S1:=iQ) (S2:=oJ) os (P9 w) (gG (S1:=oJ) (S2:=S_e) os (p_e w) (?_))))));have z:=Zq (Gr w) os;rw[←PySem.W.Fast.te14082659384304107361,←X6]at z;exact z
noncomputable def Iw (l:List Nat) (b:List Stmt):List Stmt:=l.map λi=>V6 b i
noncomputable def kL:Program:={PP with main:={PP.main with body:=Iw keep PP.main.body}}
noncomputable def iD:List Str:=["SIMPLE_ESCAPES","Text","ListThing","RangeThing","ProcThing","ErrorThing","FiberThing","ModuleThing","code_of","message_text","show","GemError","BUILTINS","MIXED"]
noncomputable def jg:Hook:=kmHook HK as (λZ=>by kernel_rfl) [932,920]
noncomputable def XT (s:Shared):Bool:=xlAt kL [] s&&recOk (RowW.records PySem.Challenge.rw_sm0031_01.row.toRowW) s
noncomputable def Bs (w:World) (os:OsState):Shared:={heap:=H1 w.params,gens:= #[],drawn:={},toks:=1697,os:=os}
theorem J1 (w:World):(λos=>(staticsOk (importedModules PP.main.body) (boot_heap w.params) (H1 w.params)&&namesBound PP (H1 w.params)&&gensDone (Bs w os)&&laidKept (boot_heap w.params) (H1 w.params)))=λZ=>true:=by kernel_rfl
theorem I0 (w:World):(λos=>Hook.obs jg (Bs w os))=λZ=>Hook.val jg w:=by kernel_rfl
theorem rV (w:World):(λos=>PySem.W.Fast.tw4187177175401517315 kL iD (importedModules PP.main.body) XT true (Bs w os))=λZ=>openGood kL iD:=by kernel_rfl
set_option profiler true in
theorem uJ:PySem.W.Fast.tw9446332074065402090 PySem.Challenge.rw_sm0031_01=true:=by kernel_rfl
theorem O9:PySem.Challenge.rw_sm0031_01.wellSaid=true:=by
 have z:=uJ;rw[←PySem.W.Fast.te9446332074065402090]at z;exact z
theorem left:LeftO PP kL iD XT (Hook.obs jg) (Hook.val jg) 14726:=by
 refine LeftO.of_pieces (H₀:=boot_heap) (H₁:=H1) (gs₀:= #[]) (gs₁:= #[]) (d₀:=boot_drawn) (d₁:={}) (k₀:=boot_toks) (k₁:=1697) (m₀:=11) (ann:=some (.ref 6)) (M:=12+(1+(214+(2150+(2074+(888+(1476+(504+2)))))))) (boot_open (by rfl) (by decide) (λs=>by rfl)) (λw=>by kernel_rfl) va (by decide) (λw=>?_)
 funext os
 refine looks_pair ?_ (looks_pair ?_ ?_)
 ·exact Zq (J1 w) os
 ·have z:=Zq (rV w) os
  rw[←PySem.W.Fast.te4187177175401517315]at z;exact z
 ·exact Zq (I0 w) os
theorem head (hc:∀d:DefRec,defOf kL PySem.Challenge.rw_sm0031_01.row.toRowW.name=some (d,[])->WalkO kL iD (XL kL []) (Hook.says jg) PySem.Challenge.rw_sm0031_01.row.toRowW d [] λf vs=>call f vs):PySem.Challenge.rw_sm0031_01.Holds:=by
 refine holds_law O9 λO9=>?_;refine holds_open (q:=kL) (loose:=iD) (Xt:=XT) (XP:=XL kL []) (Yf:=Hook.obs jg) (Ya:=Hook.val jg) (YP:=Hook.says jg) (N:=14726) left (Hook.of jg) (Hook.keeps jg) (λs e=>xl_of s (Xr.mp e).1) XL.keeps (by rfl) (by rfl) (by rfl) (λs e=>recFacts_of (Xr.mp e).2) (by rfl) (by assumption) (by decide+kernel) ⟨rfl,rfl,rfl,rfl,rfl,by decide+kernel⟩ ?hw (hc _ (by rfl))
 w_witness2
end
set_option backward.match.sparseCases false
abbrev bu:=List (Addr×Obj)
structure aY (l:bu):Prop where
 nd:(l.map (·.1)).Nodup
section
variable {d:Addr} {o:Obj}
theorem aY.cons {l:bu} (k:aY l) (h:∀p∈l,p.1<d):aY ((d,o)::l):=by
 refine⟨W2.mpr ⟨λm=>?_,k.nd⟩⟩;refine bn (Xb.mp m) λp a e=>?_;have z:=h p a;have b:p.1=d:=e;exact absurd (b▸z) (XX _)
variable {o':Obj}
theorem aY.cons2 {l:bu} {x d:Addr} (k:aY l) (h:∀p∈l,p.1<d) (h2:d<x):aY ((x,o)::(d,o')::l):=by
 refine(k.cons (o:=o') h).cons λp hp=>?_;rcases WY.mp hp with rfl|hp
 ·exact h2
 ·exact ZB (h p hp) h2
variable {l:bu} {p:Addr×Obj}
theorem aY.tail (k:aY (p::l)):aY l:=⟨(W2.mp k.nd).2⟩
theorem aY.off {l:bu} (k:aY (p::l)):∀q∈l,q.1≠p.1:=λq a e=>(W2.mp k.nd).1 (by
 have z:q.1∈l.map (·.1):=Xm a;rw[e]at z;exact z)
variable {l':bu}
theorem Upd.same (u:Upd d o o' l l'):l'.map (·.1)=l.map (·.1):=by
 induction u with
 |head _=>rfl
 |tail _ r ih=>exact Yi (List.cons _) ih
theorem aY.upd (k:aY l) (u:Upd d o o' l l'):aY l':=⟨by rw[Upd.same u];exact k.nd⟩
theorem Xbd (k:aY ((d,o)::l)):Upd d o o' ((d,o)::l) ((d,o')::l):=.head k.off
theorem Upd.mem (u:Upd d o o' l l'):(d,o)∈l:=by
 induction u with
 |head _=>exact .head _
 |tail _ r ih=>exact .tail _ ih
theorem Q6 (k:aY (p::l)) (u:aY l->Upd d o o' l l'):Upd d o o' (p::l) (p::l'):=
 have u:=u k.tail
 .tail (λe=>k.off _ (Upd.mem u) e.symm) u
theorem Uy:∀{pre:bu},aY (pre++l)->(aY l->Upd d o o' l l')->Upd d o o' (pre++l) (pre++l')
 |[],k,u=>u k
 |_::_,k,u=>Q6 k λk=>Uy k u
end
inductive dC (d:Addr) (o o':Obj):bu->bu->Prop
 |here {r}:dC d o o' ((d,o)::r) ((d,o')::r)
 |there {p r r'}:dC d o o' r r'->dC d o o' (p::r) (p::r')
 |app {q r r'}:dC d o o' r r'->dC d o o' (q++r) (q++r')
 |left {q q' r}:dC d o o' q q'->dC d o o' (q++r) (q'++r)
section
variable {d:Addr} {o o':Obj} {l l':bu}
theorem dC.mem (u:dC d o o' l l'):(d,o)∈l:=by
 induction u with
 |here=>exact .head _
 |there _ ih=>exact .tail _ ih
 |app _ ih=>exact WW _ ih
 |left _ ih=>exact W3 _ ih
theorem pz:∀{q q' r:bu},Upd d o o' q q'->(∀p∈r,p.1≠d)->Upd d o o' (q++r) (q'++r)
 |_,_,r,.head h,off=>.head λp a=>(W6.mp a).elim (h p) (off p)
 |_,_,r,.tail h u,off=>.tail h (pz u off)
theorem aY.parts {q r:bu} (k:aY (q++r)):aY q∧∀d o,(d,o)∈q->∀p∈r,p.1≠d:=by
 have n:=k.nd;rw[Xa]at n;have n:=YS.mp n;refine⟨⟨n.1⟩,λd o b p a e=>?_⟩;exact n.2.2 d (Xm b) p.1 (Xm a) e.symm
theorem dC.go (u:dC d o o' l l') (k:aY l):Upd d o o' l l':=by
 induction u with
 |here=>exact Xbd k
 |there _ ih=>exact Q6 k ih
 |app _ ih=>exact Uy k ih
 |left u ih=>exact pz (ih k.parts.1) (k.parts.2 _ _ u.mem)
inductive In (e:Addr×Obj):bu->Prop
 |here {r}:In e (e::r)
 |there {p r}:In e r->In e (p::r)
 |right {q r}:In e r->In e (q++r)
 |left {q r}:In e q->In e (q++r)
 |of {q r}:e∈q->In e (q++r)
 |all {q}:e∈q->In e q
variable {e:Addr×Obj}
theorem In.mem (i:In e l):e∈l:=by
 induction i with
 |here=>exact .head _
 |there _ ih=>exact .tail _ ih
 |right _ ih=>exact WW _ ih
 |left _ ih=>exact W3 _ ih
 |of h=>exact W3 _ h
 |all h=>exact h
variable {prog:Program} {w:World} {p:Program} {loose:List Str} {mean:ExcName->Option Value} {mg mb:Str->Option Value}
end
section
variable {prog:Program} {w:World} {p:Program} {loose:List Str} {mean:ExcName->Option Value} {mg mb:Str->Option Value}
structure Cx (w:World) (p:Program) (loose:List Str) (mean:ExcName->Option Value) (mg mb:Str->Option Value) (A:Around) (base:Heap) (outer:List Env) (g:Heap) (l:bu) (h:Heap):Prop where
 X:(HK w.params).In base
 T:Top p loose mean mg mb base
 B:Below A base outer g
 st:g.StaysIn h
 sz:g.objs.size≤h.objs.size
 led:∀q∈l,h.get? q.1=some q.2∧g.get? q.1=none
 keys:aY l
structure Ex (g:Heap) (l:bu) (h:Heap):Prop where
 st:g.StaysIn h
 sz:g.objs.size≤h.objs.size
 led:∀q∈l,h.get? q.1=some q.2∧g.get? q.1=none
 keys:aY l
variable {A:Around} {base g:Heap} {outer:List Env} {l:bu} {s:Shared} {R:Result->Shared->Prop} {h:Heap} {L:Addr} {m:Str->Option Value}
theorem nR (F:Fr g L h m):g.objs.size≤h.objs.size:=by
 refine uz F.ns λo Z Z e Z=>?_;exact WX F.above (Nat.le_of_lt (Xe e))
theorem l5 (F:Fr g L h m) (N:News g L h l) (k:aY l):Ex g l h:=
 ⟨F.keep,nR F,λq a=>⟨(N q a).1,(N q a).2.2⟩,k⟩
def mR (g:Heap) (R:Result->Shared->Prop) (v:Value) (s':Shared):Prop:=R (.ok (.ret v)) s'
variable {name qual:Str} {params:Arguments} {body:List Stmt} {dV kV doc pm cdv ct oc:Value} {an od:Option Addr} {osl:Array (Option Value)} {f:Addr} {args:Args}
set_option backward.match.sparseCases true in
theorem JL {scope:Scope} {binds:List (Str×Value)}
  (c:Cx w p loose mean mg mb A base outer g l s.heap)
  (ho:(HK w.params).lookup f=some ⟨oc,od,.func (fnOf name qual params body scope dV kV doc pm an cdv ct),osl⟩) (hcd:codeIn (HK w.params) cdv qual=true) (hroom:A.depth<recursionLimit)
  (hbind:BindsTo s (fnOf name qual params body scope dV kV doc pm an cdv ct) args binds) (hloc:∀y∈binds,scope.names.lookup y.1=some .local)
  (h:∀L' h₁,Fr g L' h₁ (λy=>binds.reverse.lookup y)->News g L' h₁ l->Below A base outer g->(HK w.params).In g->Top p loose mean mg mb g->aY l->
   wpAny (model prog w) (A.deeper (envOf qual scope L' f cdv)) (execs body (envOf qual scope L' f cdv))
    (λfl s'=>mR g R (match fl with|.ret v=>v|_=>.none) s')
    (λe s'=>wpAny (model prog w) (A.deeper (envOf qual scope L' f cdv)) (leaving (envOf qual scope L' f cdv) e) (λZ s''=>R (.error e) s'') (λe' s''=>R (.error e') s'') s')
    {s with heap:=h₁,toks:=s.toks+binds.length})
  (hco:scope.isCoroutine=false:=by rfl) (hgen:scope.isGenerator=false:=by rfl) (hk:scope.kind=.function:=by rfl)
  (hcell:∀x∈scope.names,x.2≠ .cell:=by decide):codeAny (model prog w) A (.call (.ref f) args) R s:=by
 refine codeAny_call_def (fd:=fnOf name qual params body scope dV kV doc pm an cdv ct) (body:=body) (binds:=binds) hroom (((c.X.keeps c.B.stays).keeps c.st) _ _ ho) rfl ((c.T.keeps c.B.stays).nolimit.keeps c.st) (codeRec_of ((c.X.keeps c.B.stays).keeps c.st) hcd) rfl hbind hcell hloc (λh₁ i a=>?_) hco hgen hk;refine Ym (h s.heap.objs.size h₁ ⟨i,λb o e=>a b o (c.st b o e),c.sz⟩ (λq d=>⟨a _ _ (c.led q d).1,XC (Xe (c.led q d).1),(c.led q d).2⟩) c.B (c.X.keeps c.B.stays) (c.T.keeps c.B.stays) c.keys) (λfl s' j=>?_) λZ Z y=>y;exact j
variable {h₀:Heap} {env:Env}
theorem yr (XB:(HK w.params).In base) (TB:Top p loose mean mg mb base) (B:Below A base outer h₀) (F:Fr h₀ L h m) (N:News h₀ L h l) (k:aY l) (hf:env.frame=some L) (hke:env.scope.kind=.function)
  {A':Around} (hA:A'.frames=some (env::outer)):
  Cx w p loose mean mg mb A' base (env::outer) (hideAll h (l.map (·.1))) l h:=by
 have x:∀b o,h₀.get? b=some o->b∉l.map (·.1):=λb o e q=>by
  refine bn (Xb.mp q) λp r u=>?_;obtain rfl:=u;rw[(N p r).2.2]at e;exact cZ e
 have z:h₀.StaysIn (hideAll h (l.map (·.1))):=λb o e=>YI _ (F.keep b o e) (x b o e);refine lq F.ns λG J I C s D y=>?_;have H:L∉l.map (·.1):=λq=>by
  refine bn (Xb.mp q) λp r e=>?_;exact(N p r).2.1 e
 have i:base.get? L=none:=by
  cases n:base.get? L with
  |none=>rfl
  |some o=>exact absurd (Xi (Xe (B.stays L o n)) F.above) (XX _)
 have E:h.FunFrames base (env::outer):=(eQ (by rw[hke];decide) (yv L G hf i C (λvs e=>by rw[s]at e;cases e)) (B.frames.of_keeps λb o e Z=>(bv o (F.keep b o e) rfl)));refine⟨XB,TB,⟨hA,λb o e=>z b o (B.stays b o e),funFrames_hideAll E λg t b v d=>?_⟩,λb o e=>of_hideAll _ e,Yd (hideAll_size _ _),λq n=>⟨(N q n).1,ZN _ (Xm n)⟩,k⟩;cases t with
 |head=>exact H ((W7 (hf.symm.trans d):L=b)▸v)
 |tail _ t=>
  refine gS (funFrames_in B.frames g t) λa j c f=>?_;rw[c]at d;exact x a j f ((W7 d:a=b)▸v)
theorem wQ (F:Fr h₀ L h m) (N:News h₀ L h l) {l':bu} {h':Heap} (x:Ex (hideAll h (l.map (·.1))) l' h'):Fr h₀ L h' m∧News h₀ L h' l':=by
 have u:∀b o,h₀.get? b=some o->b∉l.map (·.1):=λb o e q=>by
  refine bn (Xb.mp q) λp a g=>?_;obtain rfl:=g;rw[(N p a).2.2]at e;exact cZ e
 have n:h₀.StaysIn (hideAll h (l.map (·.1))):=λb o e=>YI _ (F.keep b o e) (u b o e);refine lq F.ns λr s t k c d i=>?_;have j:L∉l.map (·.1):=λq=>by
  refine bn (Xb.mp q) λp a e=>?_;exact(N p a).2.1 e
 refine⟨⟨hH r s t (x.st _ _ (YI (l.map (·.1)) k j)) c d i,λb o e=>x.st b o (n b o e),F.above⟩,λq f=>(eQ ((x.led q f).1) (λe=>?_) ?_)⟩
 ·have:=(x.led q f).2;rw[e,YI (l.map (·.1)) k j]at this;exact yP this
 ·cases z:h₀.get? q.1 with
  |none=>rfl
  |some o=>have:=(x.led q f).2;rw[n _ _ z]at this;exact yP this
noncomputable def bT:List Str->List (Option Value)->Str->Option Value
 |n::ns,v::vs,x=>if x=n then v else bT ns vs x
 |_,_,_=>none
end
structure gZ (env:Env) (L:Addr) (ns:List Str):Prop where
 nd:ns.Nodup
 loc:∀x∈ns,env.kindOf x=some .local
 dbg:∀x∈ns,(x==("__debug__":Str))=false
 kind:env.scope.kind=.function
 fl:env.locals=L
structure Gd (A:Around) (env:Env) (outer:List Env) (L:Addr):Prop where
 fs:A.frames=some (env::outer)
 fr:env.frame=some L
 ke:env.scope.kind=.function
inductive g9 (x:Str) (v:Option Value):List Str->List (Option Value)->Prop
 |here {ns vs}:g9 x v (x::ns) (v::vs)
 |there {n u ns vs}:g9 x v ns vs->g9 x v (n::ns) (u::vs)
inductive rz (x:Str) (v:Value):List Str->List (Option Value)->List (Option Value)->Prop
 |here {ns u vs}:rz x v (x::ns) (u::vs) (some v::vs)
 |there {n u ns vs vs'}:rz x v ns vs vs'->rz x v (n::ns) (u::vs) (u::vs')
section
variable {x:Str} {ns:List Str} {vs:List (Option Value)}
theorem g9.mem {v:Option Value} (p:g9 x v ns vs):x∈ns:=by
 induction p with
 |here=>exact .head _
 |there _ ih=>exact .tail _ ih
theorem g9.get {v:Option Value} (p:g9 x v ns vs) (nd:ns.Nodup):bT ns vs x=v:=by
 induction p with
 |here=>simp[bT]
 |there q ih=>
  have a:=W2.mp nd;rw[bT,Xh (λe:x=_=>a.1 (by rw[←e];exact q.mem)),ih a.2]
variable {v:Value}
theorem rz.mem {vs vs':List (Option Value)} (p:rz x v ns vs vs'):x∈ns:=by
 induction p with
 |here=>exact .head _
 |there _ ih=>exact .tail _ ih
theorem rz.is {vs vs':List (Option Value)} (p:rz x v ns vs vs') (nd:ns.Nodup):bT ns vs'=λy=>if y=x then some v else bT ns vs y:=by
 funext y
 induction p with
 |here=>by_cases h:y=x<;>simp[bT,h]
 |there q ih=>
  rw[bT,bT,ih (W2.mp nd).2];by_cases h:y=x
  ·subst h
   rw[Xn rfl,Xn rfl,Xh (λe:y=_=>(W2.mp nd).1 (by rw[←e];exact q.mem))]
  ·rw[Xh h,Xh h]
variable {M:Model} {A:Around} {E:Value->Shared->Prop} {s:Shared} {env:Env} {L:Addr} {h₀:Heap} {vs':List (Option Value)} {news:bu} {pos:Pos} {Q:Value->Shared->Prop}
theorem R8 (S:gZ env L ns) (F:Fr h₀ L s.heap (bT ns vs)) (P:g9 x (some v) ns vs) (h:Q v s):wpAny M A (loadName env x) Q E s:=
 wpAny_loadName_local S.kind (S.loc x P.mem) (S.fl▸F.ns) (P.get S.nd) h
theorem ldS (S:gZ env L ns) (F:Fr h₀ L s.heap (bT ns vs)) (P:g9 x (some v) ns vs) (h:Q v s):wpAny M A (eval (.Name x pos) env) Q E s:=
 Z8 (R8 S F P h) (S.dbg x P.mem)
variable {Q:Unit->Shared->Prop}
theorem stS (S:gZ env L ns) (F:Fr h₀ L s.heap (bT ns vs)) (N:News h₀ L s.heap news) (P:rz x v ns vs vs')
  (h:∀h',Fr h₀ L h' (bT ns vs')->News h₀ L h' news->Q () {s with heap:=h',toks:=s.toks+1}):wpAny M A (storeName env x v) Q E s:=by
 have e:=S.fl;subst e;exact wpAny_storeName_local (S.loc x P.mem) F.ns (λh' b a=>h h' (by rw[P.is S.nd];exact F.set b a) (N.set a)) (by rw[S.kind];rfl)
noncomputable def fM (env:Env) (x:Str):Bool:=env.scope.kind== .function&&env.kindOf x==some .globalImplicit&& !(x==("__debug__":Str))&& !(x==("__name__":Str))&&env.globals==mainGlobals&&env.builtins==builtinsNs
variable {mg mb:Str->Option Value} {mean:ExcName->Option Value} {m:Str->Option Value} {Q:Value->Shared->Prop}
theorem glS {K:Frag} {p:Program} {loose:List Str} (F:Fr h₀ L s.heap m) (X:K.In h₀) (T:Top p loose mean mg mb h₀) (e:nsIn K mainGlobals x=some (some v))
  (hx:fM env x=true) (h:Q v s):wpAny M A (eval (.Name x pos) env) Q E s:=by
 unfold fM at hx;simp only[WU,Xj,Xu]at hx;have a:=topRead_of T;exact Name_function_global hx.1.1.1.1.1 hx.1.1.1.1.2 (loadGlobal_global (by rw[hx.1.2];exact a.g.keeps F.keep) (mg_of X a.g e) h) hx.1.1.1.2
theorem biS {K:Frag} {p:Program} {loose:List Str} (F:Fr h₀ L s.heap m) (X:K.In h₀) (T:Top p loose mean mg mb h₀) (e:nsIn K mainGlobals x=some none) (hv:bootBuiltins x=some v)
  (hx:fM env x=true) (h:Q v s):wpAny M A (eval (.Name x pos) env) Q E s:=by
 unfold fM at hx;simp only[WU,Xj,Xu]at hx;have a:=topRead_of T;exact Name_function_global hx.1.1.1.1.1 hx.1.1.1.1.2 (loadGlobal_builtin (by rw[hx.1.2];exact a.g.keeps F.keep) (mg_none_of X a.g e) (by rw[hx.2];exact a.b.keeps F.keep) ((a.builtins x (λq=>by have:=hx.1.1.2;simp[q]at this)).trans hv) h) hx.1.1.1.2
variable {prog:Program} {w:World} {l:Addr} {news':bu}
noncomputable abbrev aL (vs:List Value) (n:Nat):Obj:={cls:=.type "list",data:=.seq vs.toArray n}
variable {n:Nat}
theorem bJ (N:News h₀ L s.heap news) {vs:List Value} (hm:(l,aL vs n)∈news):s.heap.IsList l vs.toArray:=(ju _ ((N _ hm).1) rfl ⟨n,rfl⟩)
theorem UK {value slice:Expr} {vs:List Value} {k:Int} {u:Tok} (N:News h₀ L s.heap news) (hm:(l,aL vs n)∈news) (hk:(decide (0≤k)&&decide (k<2 ^ 63))=true) (hx:vs[k.toNat]?=some v)
  (h:Q v s) (hs:subscripted slice false (.ref l) (.int k u)=operate [.ref l,.int k u] (getItem (.ref l) (.int k u))):
  wpAny (model prog w) A (subscriptTail value slice (.ref l) (.int k u)) Q E s:=by
 simp only[WU,XZ]at hk;exact tail_any (bJ N hm).typeIs PySem.F.slot_list_getitem.lookup (wpAny_getItem_list (bJ N hm) hk.1 hk.2 (by simpa using hx) h) hs
noncomputable def bB:List Str->List (Option Value)->List (Str×Value)
 |n::ns,some v::vs=>(n,v)::bB ns vs
 |_::ns,none::vs=>bB ns vs
 |_,_=>[]
theorem co:∀(ns:List Str) (vs:List (Option Value)) (x:Str×Value),x∈bB ns vs->x.1∈ns
 |[],vs,x,h=>by cases vs<;>cases h
 |n::ns,[],x,h=>by cases h
 |n::ns,some v::vs,x,h=>by
  rcases WY.mp h with rfl|h
  ·exact .head _
  ·exact .tail _ (co ns vs x h)
 |n::ns,none::vs,x,h=>.tail _ (co ns vs x h)
theorem gU {l:List (Str×Value)} {y:Str} (h:∀x∈l,x.1≠y):l.lookup y=none:=by
 induction l with
 |nil=>rfl
 |cons a l ih=>
  obtain⟨k,v⟩:=a;have:(y==k)=false:=by simpa usingλe=>h (k,v) (.head _) e.symm
  rw[Xk,this];exact ih λx b=>h x (.tail _ b)
theorem dD:∀(ns:List Str) (vs:List (Option Value)),ns.Nodup->(λy=>(bB ns vs).reverse.lookup y)=bT ns vs
 |[],vs,_=>by funext y;cases vs<;>rfl
 |n::ns,[],_=>by funext y;rfl
 |n::ns,some v::vs,nd=>by
  have b:=W2.mp nd;have a:=dD ns vs b.2
  funext y
  have a:=Zq a y
  try dsimp only at a
  show((n,v)::bB ns vs).reverse.lookup y=if y=n then some v else bT ns vs y
  rw[List.reverse_cons,List.lookup_append,a];by_cases h:y=n
  ·subst h
   rw[Xn rfl,←a,gU λx c e=>b.1 (by rw[←e];exact co ns vs x (List.mem_reverse.mp c))];simp
  ·rw[Xh h]
   have:(y==n)=false:=by simpa using h
   cases bT ns vs y<;>simp[Xk,this]
 |n::ns,none::vs,nd=>by
  have b:=W2.mp nd;have a:=dD ns vs b.2
  funext y
  have a:=Zq a y
  try dsimp only at a
  show(bB ns vs).reverse.lookup y=if y=n then none else bT ns vs y
  rw[a];by_cases h:y=n
  ·subst h
   rw[Xn rfl,←a,gU λx c e=>b.1 (by rw[←e];exact co ns vs x (List.mem_reverse.mp c))]
  ·rw[Xh h]
noncomputable def ji (sc:Scope) (ns:List Str):Bool:=decide ns.Nodup&&ns.all (λx=>sc.names.lookup x==some .local&& !(x==("__debug__":Str)))&&sc.kind== .function
theorem jO (h:ji env.scope ns=true):gZ env env.locals ns:=by
 unfold ji at h;simp only[WU,XZ,WZ,Xj,Xu]at h;exact⟨h.1.1,λx a=>(h.1.2 x a).1,λx a=>(h.1.2 x a).2,h.2,rfl⟩
variable {p:Program} {loose:List Str} {base g:Heap} {outer:List Env} {l:bu} {R:Result->Shared->Prop} {name qual:Str} {osl:Array (Option Value)} {f:Addr}
set_option backward.match.sparseCases true in
theorem Gc (ns:List Str) (vs:List (Option Value)) {params:Arguments} {body:List Stmt} {scope:Scope} {dV kV doc pm cdv ct oc:Value} {an od:Option Addr} {args:Args}
  (c:Cx w p loose mean mg mb A base outer g l s.heap)
  (ho:(HK w.params).lookup f=some ⟨oc,od,.func (fnOf name qual params body scope dV kV doc pm an cdv ct),osl⟩) (hcd:codeIn (HK w.params) cdv qual=true) (hroom:A.depth<recursionLimit)
  (hS:ji scope ns=true)
  (hbind:BindsTo s (fnOf name qual params body scope dV kV doc pm an cdv ct) args (bB ns vs))
  (h:∀L' h₁,gZ (envOf qual scope L' f cdv) L' ns->Fr g L' h₁ (bT ns vs)->News g L' h₁ l->Below A base outer g->(HK w.params).In g->Top p loose mean mg mb g->aY l->
   wpAny (model prog w) (A.deeper (envOf qual scope L' f cdv)) (execs body (envOf qual scope L' f cdv))
    (λfl s'=>mR g R (match fl with|.ret v=>v|_=>.none) s')
    (λe s'=>wpAny (model prog w) (A.deeper (envOf qual scope L' f cdv)) (leaving (envOf qual scope L' f cdv) e) (λZ s''=>R (.error e) s'') (λe' s''=>R (.error e') s'') s')
    {s with heap:=h₁,toks:=s.toks+(bB ns vs).length})
  (hx:(!scope.isCoroutine&& !scope.isGenerator&&scope.names.all λx=>x.2 != .cell)=true):codeAny (model prog w) A (.call (.ref f) args) R s:=by
 have S:=λL'=>jO (env:=envOf qual scope L' f cdv) hS;simp only[WU,Xj,WZ,bne_iff_ne]at hx;exact JL c ho hcd hroom hbind (λy a=>(S f).loc _ (co _ _ _ a)) (λL' h₁ F N B X T k=>h L' h₁ (S L') (by rw[←dD ns vs (S f).nd];exact F) N B X T k) hx.1.1 hx.1.2 (S f).kind hx.2
end
structure da (A:Around) (n:Nat):Prop where
 d:A.depth+n≤900
 u:A.units+16*n≤9000
 hd:A.handled=none
section
variable {A:Around} {n:Nat}
theorem da.lt (r:da A n):A.depth<recursionLimit:=Y9 (WX (X4 _ _) r.d) (by decide)
variable {env:Env}
theorem da.deeper {n m:Nat} (r:da A n) (h:m+1≤n):da (A.deeper env) m:=⟨by have:=r.d;exact Z56 h this,by have:=r.u;exact Z59 h this,r.hd⟩
variable {kw:List (Str×Value)}
theorem da.make {n m:Nat} {C:Addr} {vals:List Value} (r:da A n) (h:m+1≤n):da (A.under (.builtin "type.__call__" ⟨.ref C::vals,kw⟩)) m:=
 ⟨by have:=r.d;rw[depth_under_kw];exact Z56 h this,by
  have e:(Code.builtin "type.__call__" ⟨.ref C::vals,kw⟩).cUnits≤4:=Xv (by kernel_rfl);show A.units+(Code.builtin "type.__call__" ⟨.ref C::vals,kw⟩).cUnits+16*m≤9000;generalize (Code.builtin "type.__call__" ⟨.ref C::vals,kw⟩).cUnits=y at e ⊢;exact Z60 h r.u e,r.hd⟩
end
structure cJ (o:Obj) (m:Str->Option Value) (k:Nat):Prop where
 is:∃es n,o=dictOf es n∧(∀x,getL x es=some (m x))∧es.length≤k
theorem mf (name:Str) (hsh:Int) (t:Tok) (v:Value):∀(es:List DictEntry) (m:Str->Option Value),(∀x,getL x es=some (m x))->∀x,getL x (putL name hsh (.str name t) v es)=some (if x=name then some v else m x):=by
 intro es m h;have k:es.any (·.refKey)=false:=by
  cases hb:es.any (·.refKey)with
  |false=>rfl
  |true=>
   exfalso;have i:∀x,es.find? (·.key.isStr x)≠none:=λx e=>by
    have:=h x;unfold getL at this;rw[e]at this;simp[hb]at this
   have j:∃x:Str,es.find? (·.key.isStr x)=none:=by
    have:∃n:Nat,∀e∈es,∀y t,e.key=.str y t->y.cps.size<n:=by
     clear h i hb
     induction es with
     |nil=>exact⟨0,λZ h=>nomatch h⟩
     |cons a l ih=>
      obtain⟨n,c⟩:=ih;refine⟨n+(match a.key with|.str y _=>y.cps.size+1|_=>0),λe he y t q=>?_⟩;rcases WY.mp he with rfl|he
      ·rw[q];show y.cps.size<n+(y.cps.size+1);exact Z41
      ·have:=c e he y t q;exact Z40 this
    obtain⟨n,c⟩:=this;refine⟨⟨Array.replicate n 0⟩,ZD.mpr λe he q=>?_⟩;cases hk:e.key with
    |str y t=>
     rw[hk]at q;have s:y=⟨Array.replicate n 0⟩:=by simpa [Value.isStr]using q
     have:=c e he y t hk;rw[s]at this;simp at this
    |_=>rw[hk]at q;simp[Value.isStr]at q
   obtain⟨x,b⟩:=j;exact i x b
 have p:∀(l:List DictEntry),(∀e∈l,e.refKey=false)->∀x,(putL name hsh (.str name t) v l).any (·.refKey)=false∧((putL name hsh (.str name t) v l).find? (·.key.isStr x)).map (·.val)=if x=name then some v else(l.find? (·.key.isStr x)).map (·.val):=by
  intro l f x
  induction l with
  |nil=>
   refine⟨by rfl,?_⟩;simp only[putL,Yy,Value.isStr];by_cases b:x=name
   ·subst b;simp
   ·have:(name==x)=false:=by simpa using Ne.symm b
    simp[this,b]
  |cons a l ih=>
   have o:=f a (.head _);dsimp only[putL];by_cases hk:a.key.isStr name=true
   ·rw[Xn hk]
    refine⟨?_,?_⟩
    ·simp only[Z7,Zr]
     refine⟨o,?_⟩;exact YA.mpr λe he=>by simp[f e (.tail _ he)]
    ·simp only[Yy]
     by_cases b:x=name
     ·subst b;simp[hk]
     ·have g:a.key.isStr x=false:=by
       cases g:a.key.isStr x with
       |false=>rfl
       |true=>exact absurd (Value.isStr_inj _ _ _ g hk) b
      simp[g,b]
   ·rw[Xh hk]
    refine⟨by simp[o,(ih λe he=>f e (.tail _ he)).1],?_⟩;simp only[Yy];cases g:a.key.isStr x with
    |true=>
     have b:x≠name:=λe=>hk (e▸g);simp[b]
    |false=>exact(ih λe he=>f e (.tail _ he)).2
 have f:∀e∈es,e.refKey=false:=λe he=>by
  have:=YA.mp k e he
  simpa using this
 intro x;obtain⟨r,d⟩:=p es f x;have b:=h x;unfold getL at b ⊢;cases q:es.find? (·.key.isStr x)with
 |some e=>
  rw[q]at b d;cases q':(putL name hsh (.str name t) v es).find? (·.key.isStr x)with
  |some e'=>
   rw[q']at d;simp only[Option.map_some]at d;show some (some e'.val)=_;rw[d];by_cases c:x=name
   ·simp[c]
   ·simp[c,←b]
  |none=>
   rw[q']at d;by_cases c:x=name<;>simp[c]at d
 |none=>
  rw[q]at b d;simp only[k,Xz,Yu,Option.some.injEq]at b;cases q':(putL name hsh (.str name t) v es).find? (·.key.isStr x)with
  |some e'=>
   rw[q']at d;simp only[Option.map_some,Option.map_none]at d;show some (some e'.val)=_;rw[d];by_cases c:x=name
   ·simp[c]
   ·simp[c]at d
  |none=>
   rw[q']at d;simp only[r,Xz,Yu];by_cases c:x=name
   ·simp[c]at d
   ·simp[c,←b]
theorem dW (name:Str) (hsh:Int) (key v:Value):∀es:List DictEntry,(putL name hsh key v es).length≤es.length+1
 |[]=>Xy _
 |e::r=>by
  dsimp only[putL];split
  ·simp
  ·have:=dW name hsh key v r
   simp only[Yc];exact Z69 this
theorem qd:cJ (dictOf [] 0) (λZ=>none) 0:=⟨[],0,rfl,λZ=>rfl,Xy _⟩
theorem cJ.put {es:List DictEntry} {m:Str->Option Value} {k:Nat} (name:Str) (hsh:Int) (t:Tok) (v:Value) (g:∀x,getL x es=some (m x)) (z:es.length≤k) (n':Nat):
  cJ (dictOf (putL name hsh (.str name t) v es) n') (λx=>if x=name then some v else m x) (k+1):=⟨_,_,rfl,mf name hsh t v es m g,WX (dW ..) (Zo z 1)⟩
section
variable {prog:Program} {w:World} {A:Around} {E:Value->Shared->Prop} {h:Heap} {gn:Array GenState} {d:Drawn} {t:Nat} {os:OsState} {K:Frag} {L x dx C:Addr} {h₀:Heap} {m:Str->Option Value} {news news':bu} {o:Obj} {ns:List Str} {vs vs':List (Option Value)} {name:Str} {v:Value} {k:Nat}
noncomputable def kG (K:Frag) (C:Addr) (name:Str):Bool:=plainGet K C name&&hasDictIn K C&&(findIn K (.ref C) name).any (noGet K)
noncomputable def f9 (K:Frag) (C:Addr) (name:Str):Bool:=findIn K (.ref C) "__setattr__"==some (some (.builtin "object.__setattr__"))&&plainOver K C&&takerIn K C name==some none&&hasDictIn K C
theorem f8 (N:News h₀ L h news) (i1:In (x,instObj C dx) news) (i2:In (dx,o) news):InstAt h x (instObj C dx) C (some o):=⟨(N _ i1.mem).1,rfl,rfl,(N _ i2.mem).1⟩
variable {mm:Str->Option Value} {Q:Value->Shared->Prop}
theorem Xbj {expr:Bool} (F:Fr h₀ L h m) (X:K.In h₀) (I:InstAt h x (instObj C dx) C (some o)) (D:cJ o mm k) (P:mm name=some v)
  (c:kG K C name=true) (hv:handedIn v=true) (q:Q v ⟨h,gn,d,t+1,os⟩):wpAny (model prog w) A (getAttr (.ref x) name expr) Q E ⟨h,gn,d,t,os⟩:=by
 refine jv D.is λi n a g Z=>?_;obtain rfl:=a;unfold kG at c;simp only[WU]at c;refine bn (ZK c.2) λb f e=>?_;exact get_own F X I c.1.1 c.1.2 f e (by rw[g,P]) hv q
variable {u':Obj->bu} {Q:Unit->Shared->Prop}
theorem XfO (F:Fr h₀ L h m) (X:K.In h₀) (N:News h₀ L h news) (kk:aY news) (i1:In (x,instObj C dx) news) (D:cJ o mm k) (hk:k≤900)
  (c:f9 K C name=true) (u:∀o',dC dx o o' news (u' o'))
  (q:∀o' h',cJ o' (λy=>if y=name then some v else mm y) (k+1)->Fr h₀ L h' m->News h₀ L h' (u' o')->aY (u' o')->Q () ⟨h',gn,d,t+2,os⟩):
  wpAny (model prog w) A (setAttr (.ref x) name v) Q E ⟨h,gn,d,t,os⟩:=by
 refine jv D.is λa n b g z=>?_;obtain rfl:=b;unfold f9 at c;simp only[WU,Xu]at c;have U:=(u (dictOf (putL name (PyData.keyHash w.params name) (.str name (t+1)) v a) (putN name a n))).go kk;exact set_dict F X N ⟨(N _ i1.mem).1,rfl,rfl,(N _ (Upd.mem ((u (dictOf a n)).go kk))).1⟩ rfl c.1.1.1 c.1.1.2 c.1.2 c.2 (by rw[g];rfl) rfl U (WX (dW ..) (by lia))
  λh' f e=>q _ h' (cJ.put name _ _ v g z _) f e (kk.upd U)
noncomputable def j0 (K:Frag) (C:Addr) (name:Str) (f:Addr):Bool:=plainGet K C name&&findIn K (.ref C) name==some (some (.ref f))&&isFn K (.ref f)
variable {f:Addr} {s:Shared}
theorem Um {pl:Sem Bool} {Q:Value×List Value->Shared->Prop} (F:Fr h₀ L s.heap m) (X:K.In h₀) (I:InstAt s.heap x (instObj C dx) C (some o)) (D:cJ o mm k) (P:mm name=none)
  (c:j0 K C name f=true) (q:Q (.ref f,[.ref x]) s):wpAny (model prog w) A (getMethod (.ref x) name pl) Q E s:=by
 refine jv D.is λb n a g Z=>?_;obtain rfl:=a;unfold j0 at c;simp only[WU,Xu]at c;exact method_inst F X I c.1.1 c.1.2 c.2 (by rw[g,P]) q
variable {l:Addr} {env:Env} {pos:Pos} {i j:Int} {a b u u':Tok} {nm:Str} {sc:Scope} {ad:Addr} {cd:Value} {Q:Value->Shared->Prop}
theorem Xcg (q:Q (.int i t) ⟨h,gn,d,t+1,os⟩) {kk}:wpAny (model prog w) A (eval (.Constant (.int i) kk pos) env) Q E ⟨h,gn,d,t,os⟩:=wpAny_Constant_int q
theorem Wx {z:Str} (q:Q (.str z t) ⟨h,gn,d,t+1,os⟩) {kk}:wpAny (model prog w) A (eval (.Constant (.str z) kk pos) env) Q E ⟨h,gn,d,t,os⟩:=wpAny_Constant_str q
theorem XcC (q:Q (.int (i+j) t) ⟨h,gn,d,t+1,os⟩):wpAny (model prog w) A (binaryOp .Add (.int i a) (.int j b)) Q E ⟨h,gn,d,t,os⟩:=add_int q
theorem Xfo (q:Q (.int (i - j) t) ⟨h,gn,d,t+1,os⟩):wpAny (model prog w) A (binaryOp .Sub (.int i a) (.int j b)) Q E ⟨h,gn,d,t,os⟩:=sub_int q
theorem SU (q:Q (.int (i+j) t) ⟨h,gn,d,t+1,os⟩):wpAny (model prog w) A (inplaceOp .Add (.int i a) (.int j b)) Q E ⟨h,gn,d,t,os⟩:=AutoIntOps.iadd_0 q
theorem Wz (q:Q (.int (i*j) t) ⟨h,gn,d,t+1,os⟩) (hm:IntMulOk i j):wpAny (model prog w) A (binaryOp .Mult (.int i a) (.int j b)) Q E ⟨h,gn,d,t,os⟩:=mul_int q hm
theorem Xe8 (hj:0<j) (q:Q (.int (i % j) t) ⟨h,gn,d,t+1,os⟩):wpAny (model prog w) A (binaryOp .Mod (.int i a) (.int j b)) Q E ⟨h,gn,d,t,os⟩:=
 mod_int' (tq hj) (by rw[Int.fmod_eq_emod_of_nonneg _ (FK hj)];exact q)
theorem WT (hj:0<j) (hj2:j<1073741824) (q:Q (.int (i / j) t) ⟨h,gn,d,t+1,os⟩):wpAny (model prog w) A (binaryOp .FloorDiv (.int i a) (.int j b)) Q E ⟨h,gn,d,t,os⟩:=
 floordiv_int (tq hj) (by rw[Int.fdiv_eq_ediv_of_nonneg _ (FK hj)];exact q) (.inl (PyProof.noPylong_small (by lia)))
theorem XaB (h0:0≤i) (h1:i<2 ^ 64) (hj:0≤j) (hj2:j≤1000) (q:Q (.int (i ^ j.toNat) t) ⟨h,gn,d,t+1,os⟩):wpAny (model prog w) A (binaryOp .Pow (.int i a) (.int j b)) Q E ⟨h,gn,d,t,os⟩:=
 pow_int_small hj (uP hj2) (by lia) q
variable {Q:Unit->Shared->Prop}
theorem stE (S:gZ env L ns) (F:Fr h₀ L h (bT ns vs)) (N:News h₀ L h news) (P:rz nm v ns vs vs')
  (q:∀h',Fr h₀ L h' (bT ns vs')->News h₀ L h' news->Q () ⟨h',gn,d,t+1,os⟩):wpAny (model prog w) A (storeName env nm v) Q E ⟨h,gn,d,t,os⟩:=stS S F N P q
variable {xs:List Value} {n:Nat} {Q:Value->Shared->Prop}
theorem PD {value slice:Expr} (N:News h₀ L h news) (hm:In (l,aL xs n) news) (hk:(decide (0≤i)&&decide (i<2 ^ 63))=true) (hx:xs[i.toNat]?=some v)
  (q:Q v ⟨h,gn,d,t,os⟩) (hs:subscripted slice false (.ref l) (.int i u)=operate [.ref l,.int i u] (getItem (.ref l) (.int i u))):
  wpAny (model prog w) A (subscriptTail value slice (.ref l) (.int i u)) Q E ⟨h,gn,d,t,os⟩:=UK N hm.mem hk hx q hs
noncomputable abbrev cR (xs:List Value):Obj:={cls:=.type "tuple",data:=.seq xs.toArray}
theorem v4 (F:Fr h₀ L h m) (N:News h₀ L h news) (kk:aY news) (hz:xs.length≤1000)
  (q:∀D h',Fr h₀ L h' m->News h₀ L h' ((D,cR xs)::news)->aY ((D,cR xs)::news)->Q (.ref D) ⟨h',gn,d,t,os⟩):wpAny (model prog w) A (newTuple xs) Q E ⟨h,gn,d,t,os⟩:=
 kup_newTuple F N (λD h' c b a=>q D h' c b (kk.cons a)) (WX hz (by decide))
theorem lC (F:Fr h₀ L h m) (N:News h₀ L h news) (kk:aY news) (hz:xs.length≤1000)
  (q:∀D h',Fr h₀ L h' m->News h₀ L h' ((D,aL xs 0)::news)->aY ((D,aL xs 0)::news)->Q (.ref D) ⟨h',gn,d,t,os⟩):wpAny (model prog w) A (newList xs) Q E ⟨h,gn,d,t,os⟩:=
 newList_K F N (λD h' c b a=>q D h' c b (kk.cons a)) (WX hz (by decide))
theorem gh (N:News h₀ L h news) (hm:In (l,cR xs) news):IsTup h l xs.toArray:=News.isTup N hm.mem
variable {Q:Unit->Shared->Prop}
theorem uW {elts:List Expr} {kt:Nat} (F:Fr h₀ L h m) (N:News h₀ L h news) (hm:In (l,cR xs) news) (hh:A.handled=none)
  (hn:(assignEach elts env).length=xs.length) (hs:(assignEach elts env).findIdx? (·.1)=none)
  (q:∀h',Fr h₀ L h' m->News h₀ L h' news->wpAny (model prog w) A (assignInOrder ((assignEach elts env).map (·.2)) xs) Q E ⟨h',gn,d,t,os⟩):
  wpAny (model prog w) A (assign (.Tuple elts kt pos) env (.ref l)) Q E ⟨h,gn,d,t,os⟩:=
 unpackN_ F N (gh N hm) hh (by simpa using hn) hs λh' a b=>by simpa using q h' a b
theorem mM (q:wpAny (model prog w) A (storeName env nm v) Q E s):wpAny (model prog w) A (assign (.Name nm pos) env v) Q E s:=
 WV (Yr (YV q))
theorem Cj (q:Q () s):wpAny (model prog w) A (assignInOrder ((assignEach [] env).map (·.2)) []) Q E s:=W1 q
theorem xT {e:Expr} {r:List Expr} {y:Value} {ys:List Value} (q:wpAny (model prog w) A (assign e env y) (λZ s₁=>wpAny (model prog w) A (assignInOrder ((assignEach r env).map (·.2)) ys) Q E s₁) E s)
  (he:assignEach (e::r) env=(false,assign e env)::assignEach r env):wpAny (model prog w) A (assignInOrder ((assignEach (e::r) env).map (·.2)) (y::ys)) Q E s:=by
 rw[he];exact Yv q
theorem pX {o ix:Expr} (q:wpAny (model prog w) A (eval o env) (λov s₁=>wpAny (model prog w) A (eval ix env) (λiv s₂=>wpAny (model prog w) A (setItem ov iv v) Q E s₂) E s₁) E s):
  wpAny (model prog w) A (assign (.Subscript o ix pos) env v) Q E s:=by
 show wpAny _ _ (holding [v] (eval o env)>>=_) _ _ _;refine WV (XH (Ym q (λov s₁ c=>WV (XH (Ym c (λiv s₂ a=>WV (Yr (WV (XH (Ym a (λZ d b=>?_) λZ Z e=>e))))) λZ Z e=>e))) λZ Z e=>e));intro g p f;rw[Sem.wp_release];exact b
theorem tY {u':Obj->bu} (F:Fr h₀ L h m) (N:News h₀ L h news) (kk:aY news) (U:∀o',dC l (aL xs n) o' news (u' o')) (hk:(decide (0≤i)&&decide (i<2 ^ 63)&&decide (i.toNat<xs.length))=true)
  (q:∀h',Fr h₀ L h' m->News h₀ L h' (u' (aL (xs.set i.toNat v) n))->aY (u' (aL (xs.set i.toNat v) n))->Q () ⟨h',gn,d,t,os⟩):
  wpAny (model prog w) A (setItem (.ref l) (.int i a) v) Q E ⟨h,gn,d,t,os⟩:=by
 simp only[WU,XZ]at hk;have k:=λh' p j=>q h' p j (kk.upd ((U (aL (xs.set i.toNat v) n)).go kk));refine ux ((U (aL (xs.set i.toNat v) n)).go kk).split λg b c e f o=>?_;refine ki_setAt (N _ (Upd.mem ((U (aL xs n)).go kk))).1 hk.1.1 hk.1.2 (by simp;exact I9 hk.1.1 hk.2) (k _ (F.change (Heap.SameBut.update ..) (N _ (Upd.mem ((U (aL xs n)).go kk))).2.1 (N _ (Upd.mem ((U (aL xs n)).go kk))).2.2) ?_);rw[e];subst c;refine ki_turn _ N f o ?_ ?_
 ·apply Array.toList_inj.mp
  simp
 ·simp
noncomputable abbrev Lg (b:Addr×Obj) (W T R:bu):bu:=b::(W++(T++R))
variable {b e:Addr×Obj} {W T R:bu} {q:Addr×Obj}
theorem Ao:q∈Lg b W T (e::R)↔q∈e::Lg b W T R:=by
 simp only[WY,W6];constructor
 ·rintro(h|h|h|h|h)<;>simp[h]
 ·rintro(h|h|h|h|h)<;>simp[h]
theorem yO {g h:Heap} (N:News g L h (e::Lg b W T R)):News g L h (Lg b W T (e::R)):=λq a=>N q (Ao.mp a)
theorem yL (k:aY (e::Lg b W T R)):aY (Lg b W T (e::R)):=by
 refine⟨List.Perm.nodup ?_ k.nd⟩;refine List.Perm.map _ ?_;refine(List.Perm.swap b e _).trans (List.Perm.cons b ?_);rw[←List.append_assoc,←List.append_assoc];exact List.perm_middle.symm
noncomputable def gc:Flow->Value
 |.ret v=>v
 |_=>.none
def LX (g:Heap) (R:Result->Shared->Prop) (fl:Flow) (s':Shared):Prop:=mR g R (gc fl) s'
def pP (prog:Program) (w:World) (A:Around) (env:Env) (R:Result->Shared->Prop) (e:Value) (s':Shared):Prop:=
 wpAny (model prog w) (A.deeper env) (leaving env e) (λZ s''=>R (.error e) s'') (λe' s''=>R (.error e') s'') s'
variable {p:Program} {loose:List Str} {mean:ExcName->Option Value} {mg mb:Str->Option Value} {base g:Heap} {outer:List Env} {l:bu} {R:Result->Shared->Prop} {h0:Heap}
noncomputable def iE (K:Frag) (scope:Scope) (ns:List Str) (cdv:Value) (qual:Str):Bool:=codeIn K cdv qual&&ji scope ns&&(!scope.isCoroutine&& !scope.isGenerator&&scope.names.all λx=>x.2 != .cell)
variable {body:List Stmt} {scope:Scope} {osl:Array (Option Value)}
theorem Af (ns:List Str) (vs:List (Option Value)) {name qual:Str} {params:Arguments} {dV kV doc pm cdv ct oc:Value} {an od:Option Addr} {args:Args}
  (rm:da A (n+1)) (c:Cx w p loose mean mg mb A base outer g l h0)
  (ho:(HK w.params).lookup f=some ⟨oc,od,.func (fnOf name qual params body scope dV kV doc pm an cdv ct),osl⟩)
  (hc:iE (HK w.params) scope ns cdv qual=true)
  (hbind:BindsTo ⟨h0,gn,d,t,os⟩ (fnOf name qual params body scope dV kV doc pm an cdv ct) args (bB ns vs))
  (h:∀L' h₁ t₁,(A.deeper (envOf qual scope L' f cdv)).handled=none->Gd (A.deeper (envOf qual scope L' f cdv)) (envOf qual scope L' f cdv) outer L'->da (A.deeper (envOf qual scope L' f cdv)) n->gZ (envOf qual scope L' f cdv) L' ns->Fr g L' h₁ (bT ns vs)->News g L' h₁ l->Below A base outer g->(HK w.params).In g->Top p loose mean mg mb g->(HK w.params).In base->Top p loose mean mg mb base->aY l->
   wpAny (model prog w) (A.deeper (envOf qual scope L' f cdv)) (execs body (envOf qual scope L' f cdv)) (LX g R) (pP prog w A (envOf qual scope L' f cdv) R) ⟨h₁,gn,d,t₁,os⟩):codeAny (model prog w) A (.call (.ref f) args) R ⟨h0,gn,d,t,os⟩:=by
 unfold iE at hc;rw[WU,WU]at hc;exact Gc (s:=⟨h0,gn,d,t,os⟩) ns vs c ho hc.1.1 rm.lt hc.1.2 hbind (λL' h₁ S F N B X T k=>Ym (h L' h₁ _ rm.hd ⟨Zs B.stack,rfl,S.kind⟩ (rm.deeper (Xy _)) S F N B X T c.X c.T k) (λfl a z=>by cases fl<;>exact z) λe a z=>z) hc.2
theorem IT {X Y:Prop} (h:X):if true=true then X else Y:=h
theorem Xa9 {X Y:Prop} (h:Y):if false=true then X else Y:=h
def rq (Q:Value->Shared->Prop) (E:Value->Shared->Prop) (r:Result) (s':Shared):Prop:=match r with
 |.ok (.ret v)=>Q v s'
 |.ok _=>False
 |.error e=>E e s'
variable {M:Model} {Q:Value->Shared->Prop} {f:Value} {pos:List Value} {kw:List (Str×Value)} {e:Value}
theorem Of (q:codeAny M A (.call f ⟨pos,kw⟩) (rq Q E) s):wpAny M A (call f pos kw) Q E s:=ZE (YZ q λr a z=>by
 rcases r with e|(v|_|_|_)<;>exact z)
variable {A':Around} {h':Heap} {l':bu} {a:Addr}
theorem Rb (XB:(HK w.params).In base) (TB:Top p loose mean mg mb base) (B:Below A base outer h₀) (F:Fr h₀ L h m) (N:News h₀ L h l) (k:aY l) (G:Gd A' env outer L):
  Cx w p loose mean mg mb A' base (env::outer) (hideAll h (l.map (·.1))) l h:=
 yr XB TB B F N k G.fr G.ke G.fs
theorem yo {vals:List Value} (XB:(HK w.params).In base) (TB:Top p loose mean mg mb base) (B:Below A base outer h₀) (F:Fr h₀ L h m) (N:News h₀ L h l) (k:aY l) (G:Gd A' env outer L):
  Cx w p loose mean mg mb (A'.under (.builtin "type.__call__" ⟨.ref C::vals,kw⟩)) base (env::outer) (hideAll h (l.map (·.1))) l h:=
 yr XB TB B F N k G.fr G.ke G.fs
def ck (K:Frag) (M:Model) (A:Around) (f:Value) (first:List Value) (Q:Value->Shared->Prop) (E:Value->Shared->Prop) (vs:List Value) (s:Shared):Prop:=K.In s.heap∧wpAny M A (call f (first++vs)) Q E s
def cb (M:Model) (A:Around) (f:Value) (first:List Value) (Q:Value->Shared->Prop) (E:Value->Shared->Prop) (vs:List Value) (s:Shared):Prop:=wpAny M A (call f (first++vs)) Q E s
variable {pos:Pos} {first vs:List Value} {e:Expr} {rest:List Expr} {a b:Value} {id:String} {fa:Addr}
theorem cwF (X:K.In h₀) (hk:keepIn K (.ref fa)=true) (q:wpAny M A (spliced (backTo pos (starEach (e::rest) env))) (ck K M A (.ref fa) first Q E) E s)
  (he:starEach (e::rest) env=(false,eval e env)::starEach rest env) (hplain:(backTo pos (starEach rest env)).any (·.1)=false):
  wpAny M A (callWith pos (.ref fa) first (backTo pos (starEach (e::rest) env)) []) Q E s:=callWith_K X hk q he hplain
theorem XcN (X:K.In h₀) (F:Fr h₀ L h m) (hk:keepIn K (.ref fa)=true) (q:wpAny M A (call (.ref fa) []) Q E ⟨h,gn,d,t,os⟩):
  wpAny M A (callWith pos (.ref fa) [] (backTo pos (starEach [] env)) []) Q E ⟨h,gn,d,t,os⟩:=callWith_K0 (X.keeps F.keep) hk q
theorem Xbi (X:K.In h₀) (F:Fr h₀ L h m) (hk:keepIn K (.ref fa)=true) (q:wpAny M A (call (.ref fa) [a]) Q E ⟨h,gn,d,t,os⟩):
  wpAny M A (callWith pos (.ref fa) [a] (backTo pos (starEach [] env)) []) Q E ⟨h,gn,d,t,os⟩:=callWith_K0 (X.keeps F.keep) hk q
theorem cwB (q:wpAny M A (spliced (backTo pos (starEach (e::rest) env))) (cb M A (.builtin id) first Q E) E s)
  (he:starEach (e::rest) env=(false,eval e env)::starEach rest env) (hplain:(backTo pos (starEach rest env)).any (·.1)=false):
  wpAny M A (callWith pos (.builtin id) first (backTo pos (starEach (e::rest) env)) []) Q E s:=callWith_method1 q he hplain
def Sub (l' l:bu):Prop:=∀P:Addr×Obj->Nat,(l'.map P).sum≤(l.map P).sum
variable {P:Addr×Obj->Nat}
theorem oq {l:bu}:0<(l.map P).sum->∃q∈l,0<P q:=by
 induction l with
 |nil=>intro h;cases h
 |cons a l ih=>
  intro h;rw[W4,XD]at h;by_cases ha:0<P a
  ·exact(bv a (.head _) ha)
  ·refine bn (ih (by lia)) λq c b=>?_
   exact(bv q (.tail _ c) b)
theorem nO (h:q∈l) (hp:0<P q):0<(l.map P).sum:=by
 induction h with
 |head=>rw[W4,XD];exact Z40 hp
 |tail _ _ ih=>rw[W4,XD];exact Z44 ih
open Classical in
theorem Sub.mem {l' l:bu} (s:Sub l' l):∀q∈l',q∈l:=λq c=>by
 refine bn (oq (Xi (nO c (by simp)) (s λp=>if p=q then 1 else 0))) λd a b=>?_;by_cases e:d=q
 ·exact e▸a
 ·simp[e]at b
theorem fN:(l.map (·.1)).Nodup↔∀a:Addr,(l.map λp=>if p.1=a then 1 else 0).sum≤1:=by
 induction l with
 |nil=>simp
 |cons b l ih=>
  rw[W4,W2,ih];constructor
  ·rintro⟨i,g⟩ a
   rw[W4,XD];by_cases e:b.1=a
   ·have:(l.map λp=>if p.1=a then 1 else 0).sum=0:=by
     cases z:(l.map λp=>if p.1=a then 1 else 0).sum with
     |zero=>rfl
     |succ n=>
      refine bn (oq (l:=l) (P:=λp=>if p.1=a then 1 else 0) (Z71 z)) λq c d=>?_;by_cases e':q.1=a
      ·exact absurd (e'.trans e.symm▸Xm (f:=λp:Addr×Obj=>p.1) c) i
      ·simp[e']at d
    rw[this];simp[e]
   ·simp only[e,Yu];have:=g a;exact Z58 this (by decide)
  ·intro h
   refine⟨λm=>?_,λa=>?_⟩
   ·refine bn (Xb.mp m) λq c e=>?_
    have:=h b.1;rw[W4,XD]at this;have:=nO (P:=λp=>if p.1=b.1 then 1 else 0) c (by show 0<if q.1=b.1 then 1 else 0;rw[Xn e];exact Nat.one_pos);simp at*;lia
   ·have:=h a
    rw[W4,XD]at this;exact Z63 this
theorem aY.sub (k:aY l) (s:Sub l' l):aY l':=⟨fN.mpr λa=>WX (s _) (fN.mp k.nd a)⟩
theorem kz (N:News g L h l) (s:Sub l' l):News g L h l':=λq a=>N q (s.mem q a)
variable {vs:List (Option Value)}
theorem lu {hsh:Int} {key v:Value}:∀{es:List DictEntry},(es.find? (·.key.isStr name)).isSome=true->(putL name hsh key v es).length=es.length
 |[],h=>by simp at h
 |e::r,h=>by
  unfold putL;split
  ·rfl
  ·rename_i hk
   rw[Yy]at h;have a:e.key.isStr name=false:=by simpa using hk
   simp only[a]at h;simp[lu h]
variable {a:Addr} {kvs:List (Str×Value)} {x:Str}
abbrev SD (prog:Program) (w:World) (o:Obj) (kvs:List (Str×Value)):Prop:=o.IsDictOf (strKind prog w) kvs
theorem kN:SD prog w (dictOf [] 0) []:=by
 refine bn (X7.mp (Heap.DictOf.new (knd:=strKind prog w) ({}:Heap))) λo a b=>?_;rw[XN _ rfl]at a;have e:(dictOf [] 0:Obj)=o:=W7 a;rw[e];exact b
theorem lY (N:News h₀ L h news) (i:In (a,o) news) (D:SD prog w o kvs) (lo:(a==sysModules)=false)
  (q:Q ((valueAt kvs x).getD .none) ⟨h,gn,d,t+1,os⟩):wpAny (model prog w) A (call (.builtin "dict.get") [.ref a,.str x u]) Q E ⟨h,gn,d,t,os⟩:=by
 have b:h.MapOf (strKind prog w) a (valueAt kvs):=(X7.mpr (bv o (N.get i.mem) D):h.DictOf (strKind prog w) a kvs).mapOf;refine Zm (s:=⟨h,gn,d,t,os⟩) F.slot_dict_get b.typeIs F.entry_dict_get ?_ (F.args_dict_get_2 _ _);show wpAny _ _ (dictGet a _>>=_) _ _ _;refine WV (wpAny_dictGet_of (strKind_is prog w x u) b ?_);cases hf:valueAt kvs x with
 |some v=>rw[hf]at q;exact W1 (bv v rfl q)
 |none=>
  rw[hf]at q;exact WV (wpAny_missed_other lo (W1 (bv .none rfl q)))
theorem inD (N:News h₀ L h news) (i:In (a,o) news) (D:SD prog w o kvs) (lo:(a==sysModules)=false)
  (q:Q (.bool (valueAt kvs x).isSome) ⟨h,gn,d,t+1,os⟩):wpAny (model prog w) A (compareOp .In (.str x u) (.ref a)) Q E ⟨h,gn,d,t,os⟩:=
 wpAny_in_of (strKind_is prog w x u) lo (X7.mpr (bv o (N.get i.mem) D):h.DictOf (strKind prog w) a kvs).mapOf q
variable {Q:Unit->Shared->Prop}
theorem Xbp {u':Obj->bu} (F:Fr h₀ L h m) (N:News h₀ L h news) (kk:aY news) (D:SD prog w o kvs) (hz:kvs.length≤1000) (U:∀o',dC a o o' news (u' o'))
  (q:∀o' h',SD prog w o' (stored kvs x v)->Fr h₀ L h' m->News h₀ L h' (u' o')->aY (u' o')->Q () ⟨h',gn,d,t+1,os⟩):wpAny (model prog w) A (setItem (.ref a) (.str x u) v) Q E ⟨h,gn,d,t,os⟩:=by
 refine wpAny_setItem_pairs (s:=⟨h,gn,d,t,os⟩) (hsz:=by rw[XI];exact Z1 hz) (strKind_is prog w x u) (X7.mpr (bv o (N _ ((U o).mem)).1 D)) λh' b g=>?_;refine bn (X7.mp b) λo' f e=>?_;have V:=(U o').go kk;have c:=kk.upd V;refine ux V.split λn i j k l p=>?_;refine q o' h' e (F.change g (N _ ((U o).mem)).2.1 (N _ ((U o).mem)).2.2) ?_ c;rw[k];rw[j]at N;exact N.setAt l p g f
variable {Q:Value->Shared->Prop}
theorem sq (F:Fr h₀ L h m) (N:News h₀ L h news) (kk:aY news) (lim:h₀.NoLimit)
  (q:∀D h',(D==sysModules)=false->Fr h₀ L h' m->News h₀ L h' ((D,dictOf [] 0)::news)->aY ((D,dictOf [] 0)::news)->Q (.ref D) ⟨h',gn,d,t,os⟩):wpAny (model prog w) A (eval (.Dict [] [] pos) env) Q E ⟨h,gn,d,t,os⟩:=
 wpAny_Dict_empty (q _ _ (F.notModules (modules_low lim)) (F.push _) (News.push F N _) (kk.cons λp a=>Xe (N p a).1))
end
structure cV (env:Env) (x:Str) (c:Addr):Prop where
 kd:env.kindOf x=some .cell
 at_:env.cells.lookup x=some c
 fn:env.scope.kind=.function
def ff (o:Obj) (v:Option Value):Prop:=o.data=.cell v
section
variable {prog:Program} {w:World} {A:Around} {E:Value->Shared->Prop} {h:Heap} {gn:Array GenState} {d:Drawn} {t:Nat} {os:OsState} {L c:Addr} {h₀:Heap} {m:Str->Option Value} {news:bu} {o:Obj} {x:Str} {v:Value} {env:Env} {pos:Pos} {Q:Value->Shared->Prop}
theorem um (N:News h₀ L h news) (K:cV env x c) (i:In (c,o) news) (D:ff o (some v)) (hd:(!(x==("__debug__":Str)))=true) (q:Q v ⟨h,gn,d,t,os⟩):wpAny (model prog w) A (eval (.Name x pos) env) Q E ⟨h,gn,d,t,os⟩:=
 Z8 (wpAny_loadName_cell K.fn K.kd K.at_ (bv o (N.get i.mem) D) q) (by simpa using hd)
theorem GV {u':Obj->bu} {v₀:Option Value} {Q:Unit->Shared->Prop} (F:Fr h₀ L h m) (N:News h₀ L h news) (kk:aY news) (K:cV env x c) (D:ff o v₀) (U:∀o',dC c o o' news (u' o'))
  (q:∀o' h',ff o' (some v)->Fr h₀ L h' m->News h₀ L h' (u' o')->aY (u' o')->Q () ⟨h',gn,d,t,os⟩):wpAny (model prog w) A (storeName env x v) Q E ⟨h,gn,d,t,os⟩:=by
 refine wpAny_storeName_cell K.fn K.kd K.at_ (bv o (N _ (U o).mem).1 D) λh' p f=>?_;refine bn p λo' e b=>?_;have V:=(U o').go kk;have a:=kk.upd V;refine ux V.split λl g i j k n=>?_;refine q o' h' b (F.change f (N _ (U o).mem).2.1 (N _ (U o).mem).2.2) ?_ a;rw[j];rw[i]at N;exact N.setAt k n f e
end
inductive eZ (env:Env):List (Str×Option Value)->bu->Prop
 |nil:eZ env [] []
 |cons {x v c o r l}:cV env x c->ff o v->eZ env r l->eZ env ((x,v)::r) ((c,o)::l)
section
variable {b:Addr×Obj}
theorem xO {W T R cs:bu} {q:Addr×Obj}:q∈Lg b W T (cs++R)↔q∈cs++Lg b W T R:=by
 simp only[WY,W6];constructor
 ·rintro(h|h|h|h|h)<;>simp[h]
 ·rintro(h|h|h|h|h)<;>simp[h]
theorem Du {g h:Heap} {L:Addr} {W T R cs:bu} (N:News g L h (cs++Lg b W T R)):News g L h (Lg b W T (cs++R)):=λq a=>N q (xO.mp a)
theorem mF (kindOf:Str->Option NameKind):∀(binds:List (Str×Value)) (m:Str->Option Value) (y:Str),
  bindL kindOf binds m y=match(binds.filter λx=>kindOf x.1==some .local).reverse.lookup y with|some v=>some v|none=>m y
 |[],m,y=>rfl
 |(n,v)::r,m,y=>by
  dsimp only[bindL];rw[mF kindOf r];by_cases hk:kindOf n=some .local
  ·have a:(kindOf n==some .local)=true:=by simp[hk]
   rw[Y0];simp only[hk,ZO,a,List.reverse_cons,List.lookup_append,YF];cases h:(r.filter λx=>kindOf x.1==some .local).reverse.lookup y with
   |some z=>rfl
   |none=>
    simp only[Option.none_or,Xk,List.lookup_nil];by_cases hy:y=n
    ·subst hy;simp
    ·have:(y==n)=false:=by simpa using hy
     simp[this,hy]
  ·have a:(kindOf n==some .local)=false:=by simpa using hk
   rw[Y0];simp only[hk,Yu,a,Xz]
variable {prog:Program} {w:World} {p:Program} {loose:List Str} {mean:ExcName->Option Value} {mg mb:Str->Option Value} {A:Around} {base g:Heap} {outer:List Env} {R:Result->Shared->Prop} {h0:Heap} {gn:Array GenState} {d:Drawn} {t:Nat} {os:OsState}
noncomputable def iy (K:Frag) (scope:Scope) (ns cn:List Str) (cdv:Value) (qual:Str):Bool:=
 codeIn K cdv qual&&ji scope ns&&(!scope.isCoroutine&& !scope.isGenerator)&&((cellsFrom 0 scope.names []).map (·.1)==cn)&&decide cn.Nodup&&cn.all (λx=>scope.names.lookup x==some .cell)
variable {env:Env}
theorem pG {cm:Str->Option Value} {cs:List (Str×Addr)} {cells:bu} (x:CellsAre cm cs cells) (h:∀n c,(n,c)∈cs->cV env n c):eZ env (cs.map λx=>(x.1,cm x.1)) cells:=by
 induction x with
 |nil=>exact .nil
 |cons e r ih=>exact .cons (h _ _ (.head _)) e (ih λa d b=>h a d (.tail _ b))
variable {scope:Scope}
theorem Dc (ns:List Str) (vs:List (Option Value)) (cv:List (Str×Option Value)) {name qual:Str} {params:Arguments} {body:List Stmt} {dV kV doc pm cdv ct oc:Value} {an od:Option Addr} {osl:Array (Option Value)} {f:Addr} {args:Args} {n:Nat}
  {binds:List (Str×Value)} {W T I:bu}
  (rm:da A (n+1)) (c:Cx w p loose mean mg mb A base outer g (Lg b W T I) h0)
  (ho:(HK w.params).lookup f=some ⟨oc,od,.func (fnOf name qual params body scope dV kV doc pm an cdv ct),osl⟩)
  (hc:iy (HK w.params) scope ns (cv.map (·.1)) cdv qual=true)
  (hbind:BindsTo ⟨h0,gn,d,t,os⟩ (fnOf name qual params body scope dV kV doc pm an cdv ct) args binds)
  (hk:(binds.all λy=>scope.names.lookup y.1==some .local||scope.names.lookup y.1==some .cell)=true)
  (hl:(binds.filter λx=>scope.names.lookup x.1==some .local)=bB ns vs)
  (hv:(cv.map λx=>bindC (λy=>scope.names.lookup y) binds (λZ=>none) x.1)=cv.map (·.2))
  (h:∀L' h₁ t₁ cs,eZ (envOfC qual scope L' f cdv) cv cs->(A.deeper (envOfC qual scope L' f cdv)).handled=none->Gd (A.deeper (envOfC qual scope L' f cdv)) (envOfC qual scope L' f cdv) outer L'->da (A.deeper (envOfC qual scope L' f cdv)) n->gZ (envOfC qual scope L' f cdv) L' ns->
   Fr g L' h₁ (bT ns vs)->News g L' h₁ (Lg b W T (cs++I))->Below A base outer g->(HK w.params).In g->Top p loose mean mg mb g->(HK w.params).In base->Top p loose mean mg mb base->aY (Lg b W T (cs++I))->
   wpAny (model prog w) (A.deeper (envOfC qual scope L' f cdv)) (execs body (envOfC qual scope L' f cdv)) (LX g R) (pP prog w A (envOfC qual scope L' f cdv) R) ⟨h₁,gn,d,t₁,os⟩):codeAny (model prog w) A (.call (.ref f) args) R ⟨h0,gn,d,t,os⟩:=by
 unfold iy at hc;simp only[WU,Xj,Xu,XZ]at hc;obtain⟨⟨⟨⟨⟨M,hS⟩,E,s⟩,D⟩,C⟩,G⟩:=hc;have S:=λL'=>jO (env:=envOfC qual scope L' f cdv) hS;have V:=c.X.keeps c.B.stays;have Xs:=V.keeps c.st;have Tg:=c.T.keeps c.B.stays;refine codeAny_call_function rm.lt (Xs _ _ ho) rfl E s rfl (codeRec_of Xs M) (hbind _ _ _ _ ?_);refine wpAny_newFunctionEnv_cells (S f).kind (kindsX hk _) λQ he s' x=>?_;subst he;refine⟨(Tg.nolimit.keeps c.st).keeps x.toInCall.keep,codeAny_func ?_⟩;refine gS x.done λh₁ tk r Z=>?_;obtain rfl:=r;have j:=x.toInCall.keep;have m:(cellsFrom (h0.objs.size+1) scope.names []).map (·.1)=cv.map (·.1):=(cellsFrom_names scope.names (h0.objs.size+1) 0 [] [] rfl).trans D;have k:((cellsFrom (h0.objs.size+1) scope.names []).map (·.1)).Nodup:=by rw[m];exact C
 refine bn (Cl.news (h₀:=h0) (Xy _) λn c u=>⟨x.cell n c (lookup_of_mem_nodup k u),x.above n c u⟩) λi v Y=>?_;have FF:Fr g h0.objs.size h₁ (bT ns vs):=by
  refine⟨?_,λb o e=>(j:∀b o,h0.get? b=some o->h₁.get? b=some o) b o (c.st b o e),c.sz⟩;have e:bT ns vs=bindL (envOfC qual scope h0.objs.size f cdv).kindOf binds (λZ=>none):=by
   rw[←dD ns vs (S f).nd]
   funext y
   rw[mF];have e2:(binds.filter λx=>(envOfC qual scope h0.objs.size f cdv).kindOf x.1==some .local)=bB ns vs:=hl;rw[e2];cases(bB ns vs).reverse.lookup y<;>rfl
  rw[e];exact x.toInCall.ns
 have N:eZ (envOfC qual scope h0.objs.size f cdv) cv i:=by
  have z:=pG (env:=envOfC qual scope h0.objs.size f cdv) Y λn c u=>⟨?_,lookup_of_mem_nodup k u,(S f).kind⟩
  ·have e:(cellsFrom (h0.objs.size+1) scope.names []).map (λx=>(x.1,bindC (envOfC qual scope h0.objs.size f cdv).kindOf binds (λZ=>none) x.1))=cv:=by
    have e1:(cellsFrom (h0.objs.size+1) scope.names []).map (λx=>(x.1,bindC (envOfC qual scope h0.objs.size f cdv).kindOf binds (λZ=>none) x.1))=(cv.map (·.1)).map λn=>(n,bindC (envOfC qual scope h0.objs.size f cdv).kindOf binds (λZ=>none) n):=by
     rw[←m,Yp];rfl
    rw[e1,Yp];have J:∀x∈cv,bindC (envOfC qual scope h0.objs.size f cdv).kindOf binds (λZ=>none) x.1=x.2:=λx B=>(List.map_inj_left.mp hv) x B;refine(List.map_congr_left λx B=>?_).trans (List.map_id _);show(x.1,bindC _ binds (λZ=>none) x.1)=x;exact Yi _ (J x B)
   exact e▸z
  ·have L:n∈cv.map (·.1):=by rw[←m];exact Xm (f:=(·.1)) u
   have:=WZ.mp G n L;have this:scope.names.lookup n=some .cell:=by simpa using this
   exact this
 have O:News g h0.objs.size h₁ (i++Lg b W T I):=λq hq=>by
  rcases W6.mp hq with hq|hq
  ·refine⟨(v q hq).1,(v q hq).2.1,?_⟩
   cases z:g.get? q.1 with
   |none=>rfl
   |some o=>have:=(v q hq).2.2;rw[c.st _ _ z]at this;exact yP this
  ·exact⟨(j:∀b o,h0.get? b=some o->h₁.get? b=some o) _ _ (c.led q hq).1,XC ((λq hq=>Xe (c.led q hq).1:∀q∈Lg b W T I,q.1<h0.objs.size) q hq),(c.led q hq).2⟩
 have KK:aY (i++Lg b W T I):=by
  refine⟨?_⟩;rw[Xa];refine YS.mpr ⟨?_,c.keys.nd,λa ha b' hb e=>?_⟩
  ·have e:i.map (·.1)=(cellsFrom (h0.objs.size+1) scope.names []).map (·.2):=by
    clear v N O hl hv;have F:∀{U:Str->Option Value} {cs:List (Str×Addr)} {l:bu},CellsAre U cs l->l.map (·.1)=cs.map (·.2):=by
     intro U cs l hy
     induction hy with
     |nil=>rfl
     |cons _ _ ih=>simp[ih]
    exact F Y
   rw[e];refine List.nodup_iff_pairwise_ne.mpr ?_;exact List.pairwise_map.mpr (x.apart.imp λH=>H)
  ·refine bn (Xb.mp ha) λq hq r=>?_;obtain rfl:=r
   refine bn (Xb.mp hb) λq' K e'=>?_;have X:=(v q hq).2.2;rw[e,←e',(c.led q' K).1]at X;exact yP X
 refine Ym (h _ h₁ tk i N rm.hd ⟨Zs c.B.stack,rfl,(S f).kind⟩ (rm.deeper (Xy _)) (S _) FF (Du O) c.B V Tg c.X c.T (KK.sub λP=>by simp only[Lg,Xa,W4,X8,XD];exact Y30)) (λfl s' hl=>?_) λZ Z y=>y;cases fl<;>exact hl
end
structure It (prog:Program) (w:World) (I:Addr) (side:bu) (n:Nat) (P:Nat->Value->Prop) (St:Nat->Heap->Prop):Prop where
 W:∀A:Around,A.handled=none->Walks prog w A I (I::side.map (·.1)) [I] n P St
 live:∀i h,St i h->∃o,h.get? I=some o
section
variable {prog:Program} {w:World} {A:Around} {E:Value->Shared->Prop} {h:Heap} {gn:Array GenState} {d:Drawn} {t:Nat} {os:OsState} {L l:Addr} {h₀:Heap} {m:Str->Option Value} {b:Addr×Obj} {W T R:bu}
noncomputable abbrev Da (a b c:Int) (t u v:Tok):Obj:={cls:=.type "range",dict:=none,data:=.fields #[.int a t,.int b u,.int c v],slots:= #[]}
noncomputable def eK (cells:List (Str×Addr)):List (Str×NameKind)->List (Str×Addr)->Option (List (Str×Addr))
 |[],acc=>some acc
 |(n,k)::r,acc=>if k== .free then(match cells.lookup n with|some c=>eK cells r ((n,c)::acc)|none=>none)else eK cells r acc
variable {env:Env}
theorem dJ:∀(names:List (Str×NameKind)) (acc cl:List (Str×Addr)),eK env.cells names acc=some cl->
  (forIn names acc λx r=>(if x.2==NameKind.free then do let a ←cellOf env x.1;pure (ForInStep.yield ((x.1,a)::r))else pure (ForInStep.yield r):Sem (ForInStep (List (Str×Addr)))))=pure cl
 |[],acc,cl,h=>by obtain rfl:=jS h;rfl
 |(n,k)::r,acc,cl,h=>by
  dsimp only[eK]at h;rw[Zw];by_cases hk:(k==NameKind.free)=true
  ·rw[Xn hk]at h
   simp only[hk,ZO];cases hc:env.cells.lookup n with
   |none=>rw[hc]at h;exact cZ h
   |some c=>
    rw[hc]at h;rw[(by unfold cellOf;rw[hc]:cellOf env n=pure c)];exact dJ r _ cl h
  ·rw[Xh hk]at h
   simp only[hk,Yu,Xz,pure_bind];exact dJ r _ cl h
variable {scope:Scope} {cl:List (Str×Addr)}
theorem dR (h:eK env.cells scope.names []=some cl):closureFor scope env=pure cl:=by
 have z:=dJ _ _ _ h;have e:(λ(x:Str×NameKind) (r:List (Str×Addr))=>(if x.2==NameKind.free then do let a ←cellOf env x.1;pure (ForInStep.yield ((x.1,a)::r))else pure (ForInStep.yield r):Sem (ForInStep (List (Str×Addr)))))=(λx r=>match x with
  |(name,kind)=>if(kind==NameKind.free)=true then do let __do_lift ←cellOf env name;pure (ForInStep.yield ((name,__do_lift)::r))else pure (ForInStep.yield r)):=by
  funext x r;obtain⟨n,k⟩:=x;rfl
 rw[e]at z
 first
  |exact z
  |(simp only[z,pure_bind];done)
  |(show(_>>=_)=_;rw[z];rfl)
theorem cL {cells:List (Str×Addr)}:∀{names:List (Str×NameKind)} {acc cl:List (Str×Addr)} {x:Str},eK cells names acc=some cl->(names.map (·.1)).Nodup->
  (x∉names.map (·.1)->cl.lookup x=acc.lookup x)∧(names.lookup x=some .free->cl.lookup x=cells.lookup x)
 |[],acc,cl,x,h,_=>by obtain rfl:=jS h;exact⟨λZ=>rfl,λh=>by exact cZ h⟩
 |(n,k)::r,acc,cl,x,h,nd=>by
  dsimp only[eK]at h;by_cases hk:(k==NameKind.free)=true
  ·rw[Xn hk]at h
   cases hc:cells.lookup n with
   |none=>rw[hc]at h;exact cZ h
   |some c=>
    rw[hc]at h;have d:= @cL cells r _ cl x h (W2.mp nd).2;refine⟨λa=>?_,λa=>?_⟩
    ·have b:(x==n)=false:=by simpa usingλe:x=n=>a (e▸ .head _)
     rw[d.1 λm=>a (.tail _ m),Xk,b]
    ·by_cases e:x=n
     ·subst e
      rw[(@cL cells r _ cl x h (W2.mp nd).2).1 (W2.mp nd).1,hc];simp
     ·have b:(x==n)=false:=by simpa using e
      rw[Xk,b]at a;exact d.2 a
  ·rw[Xh hk]at h
   have d:= @cL cells r _ cl x h (W2.mp nd).2;refine⟨λa=>d.1 λm=>a (.tail _ m),λa=>?_⟩;by_cases e:x=n
   ·subst e
    simp at a;rw[a]at hk;exact absurd rfl hk
   ·have b:(x==n)=false:=by simpa using e
    rw[Xk,b]at a;exact d.2 a
noncomputable def jz (scope:Scope) (env:Env) (x:Str):Bool:=
 scope.kind== .function&&env.scope.kind== .function&&decide (scope.names.map (·.1)).Nodup&&scope.names.all (λy=>y.2 != .cell)&&scope.names.lookup x==some .local&&(eK env.cells scope.names []).isSome
end
structure df (scope:Scope) (env:Env) (cl:List (Str×Addr)):Prop where
 cl:eK env.cells scope.names []=some cl
 nd:(scope.names.map (·.1)).Nodup
 kd:scope.kind=.function
section
variable {env:Env}
theorem df.cell {scope:Scope} {cl:List (Str×Addr)} {C c:Addr} {x:Str} (k:df scope env cl) (K:cV env x c) (hx:scope.names.lookup x=some .free):cV (compEnvC scope cl C env) x c:=by
 refine⟨?_,((cL k.cl k.nd).2 hx).trans K.at_,k.kd⟩;have:∀b:List (Str×NameKind),b.lookup x=some .free->((b.map λ(n,k)=>if(k==NameKind.free&&env.scope.kind== .function&&env.kindOf n==some .cell)then(n,NameKind.cell)else(n,k)).lookup x)=some .cell:=by
  intro b
  induction b with
  |nil=>intro h;exact cZ h
  |cons a r ih=>
   obtain⟨n,k⟩:=a;intro h;rw[Xk]at h;rw[W4];by_cases e:x=n
   ·subst e
    simp at h;subst h;simp[K.fn,K.kd]
   ·have d:(x==n)=false:=by simpa using e
    simp only[d]at h;show List.lookup x ((if(k==NameKind.free&&env.scope.kind== .function&&env.kindOf n==some .cell)=true then(n,NameKind.cell)else(n,k))::_)=_;by_cases hc:(k==NameKind.free&&env.scope.kind== .function&&env.kindOf n==some .cell)=true
    ·rw[Xn hc,Xk,d];exact(ih h)
    ·rw[Xh hc,Xk,d];exact(ih h)
 exact this _ hx
def pn (o:Obj) (x:Str) (v:Value):Prop:=∃es ep,∃m:Str->Option Value,o.data=.dict es ep∧StrKeys es∧(∀y,nsFind es y=m y)∧m x=some v
variable {prog:Program} {w:World} {A:Around} {E:Value->Shared->Prop} {h:Heap} {gn:Array GenState} {d:Drawn} {t:Nat} {os:OsState} {L C c:Addr} {h₀:Heap} {m:Str->Option Value} {news:bu} {o:Obj} {x:Str} {v:Value} {pos:Pos} {scope:Scope} {cl:List (Str×Addr)} {Q:Value->Shared->Prop}
theorem OG (N:News h₀ L h news) (i:In (C,o) news) (D:pn o x v) (hb:(scope.kind== .function&&(relabel scope env).names.lookup x==some .local&& !(x==("__debug__":Str)))=true) (q:Q v ⟨h,gn,d,t,os⟩):
  wpAny (model prog w) A (eval (.Name x pos) (compEnvC scope cl C env)) Q E ⟨h,gn,d,t,os⟩:=by
 simp only[WU,Xu,Xj]at hb;refine lq D λb g e a c j f=>?_;exact Z8 (wpAny_loadName_local (m:=e) hb.1.1 hb.1.2 (hH o b g (N.get i.mem) a c j) f q) hb.2
theorem Dx (N:News h₀ L h news) (ok:df scope env cl) (K:cV env x c) (i:In (c,o) news) (D:ff o (some v)) (hb:(scope.names.lookup x==some .free&& !(x==("__debug__":Str)))=true) (q:Q v ⟨h,gn,d,t,os⟩):
  wpAny (model prog w) A (eval (.Name x pos) (compEnvC scope cl C env)) Q E ⟨h,gn,d,t,os⟩:=by
 simp only[WU,Xu,Xj]at hb;exact um N (ok.cell K hb.1) i D (by simp[hb.2]) q
def ub (M:Model) (A:Around) (E:Value->Shared->Prop) (env:Env) (e:Expr) (scope:Scope) (cl:List (Str×Addr)) (Q:Value->Shared->Prop) (it:Value) (s₂:Shared):Prop:=
 wpAny M A (newList []) (λacc s₃=>wpAny M A (newFunctionEnv scope env.globals cl [] env.qual none .none (some env)) (λcenv s₄=>
  codeAny M A (.compStart e 0 it acc {cenv with scope:=relabel scope env}) (compPost M A E none Q acc cenv.locals) s₄) E s₃) E s₂
theorem gK {names:List (Str×NameKind)} (nd:(names.map (·.1)).Nodup) {y:Str×NameKind} (hy:y∈names) (hl:y.2=.local):names.lookup y.1=some .local:=by
 induction names with
 |nil=>cases hy
 |cons a r ih=>
  obtain⟨n,k⟩:=a;rcases WY.mp hy with rfl|hy
  ·simp at hl ⊢;exact hl
  ·have:(y.1==n)=false:=by
    have b:y.1≠n:=λe=>(W2.mp nd).1 (by have z:=Xm (f:=λp:Str×NameKind=>p.1) hy;rw[e]at z;exact z)
    simpa using b
   rw[Xk,this];exact ih (W2.mp nd).2 hy
variable {s:Shared}
theorem Oy {M:Model} {elt iter:Expr} {x:Str} {px:Pos} {ifs:List Expr} (hb:jz scope env x=true)
  (h:∀cl,df scope env cl->wpAny M A (eval iter env) (λxv s₁=>wpAny M A (pyIter xv) (λit s₂=>ub M A E env (.ListComp elt [⟨.Name x px,iter,ifs,0⟩] scope pos) scope cl Q it s₂) E s₁) E s)
  (hs:∀x,foldedSetIterable iter env x=pure x):
  wpAny M A (eval (.ListComp elt [⟨.Name x px,iter,ifs,0⟩] scope pos) env) Q E s:=by
 unfold jz at hb;simp only[WU,Xu,XZ,WZ]at hb;obtain⟨⟨⟨⟨⟨c,_⟩,b⟩,i⟩,g⟩,f⟩:=hb;obtain⟨cl,a⟩:=Yo.mp f;rw[eval_ListComp];exact wpAny_comprehension_free (use:=none) rfl hs (dR a) c (λy e d=>gK b e d) (h cl ⟨a,b,c⟩)
def yK (prog:Program) (w:World) (A:Around) (E:Value->Shared->Prop) (env:Env) (target:Expr) (body:List Stmt) (Q:Flow->Shared->Prop) (it:Value) (s:Shared):Prop:=
 codeAny (model prog w) A (.forLoop target it body [] env) (λr s'=>match r with|.ok f=>Q f s'|.error e=>cameBackBy (model prog w) A env E e s') s
variable {Q:Flow->Shared->Prop}
theorem Xfa {target iter:Expr} {body:List Stmt}
  (h:wpAny (model prog w) A (eval iter env) (λx s₁=>wpAny (model prog w) A (pyIter x) (λit s₂=>yK prog w A E env target body Q it s₂) E s₁) E s)
  (hs:∀x,foldedSetIterable iter env x=pure x):wpAny (model prog w) A (exec (.For target iter body [] pos) env) Q E s:=wpAny_For h hs
def ib (x:Addr) (Q:Value->Shared->Prop) (E:Value->Shared->Prop) (r:Result) (s':Shared):Prop:=match r with
 |.ok (.ret v)=>v=.none∧Q (.ref x) s'
 |.ok _=>False
 |.error e=>E e s'
variable {K:Frag} {l:Addr} {b:Addr×Obj} {W T R:bu} {fI:Addr} {vals:List Value} {Q:Value->Shared->Prop}
theorem RW (F:Fr h₀ L h m) (X:K.In h₀) (N:News h₀ L h (Lg b W T R)) (kk:aY (Lg b W T R)) (hi:findIn K (.ref C) "__init__"=some (some (.ref fI))) (hm:(makesIn K C&&isFn K (.ref fI))=true)
  (q:∀x dx h',Fr h₀ L h' m->News h₀ L h' (Lg b W T ((x,instObj C dx)::(dx,dictOf [] 0)::R))->aY (Lg b W T ((x,instObj C dx)::(dx,dictOf [] 0)::R))->
   codeAny (model prog w) (A.under (.builtin "type.__call__" ⟨.ref C::vals,[]⟩)) (.call (.ref fI) ⟨.ref x::vals,[]⟩) (ib x Q E) ⟨h',gn,d,t,os⟩):
  wpAny (model prog w) A (call (.ref C) vals) Q E ⟨h,gn,d,t,os⟩:=by
 rw[WU]at hm;refine call_cls (s:=⟨h,gn,d,t,os⟩) F X N hm.1 hi hm.2 λx dx h' g f a c=>?_;have s:Sub (Lg b W T ((x,instObj C dx)::(dx,dictOf [] 0)::R)) ((x,instObj C dx)::(dx,dictOf [] 0)::Lg b W T R):=λP=>by
  simp only[Lg,Xa,W4,X8,XD];exact Y48
 refine YZ (q x dx h' g (kz f s) ((kk.cons2 a c).sub s)) λr i z=>?_;rcases r with e|(v|_|_|_)<;>exact z
variable {pl:Sem Bool}
theorem VM {f:Value} {name:Str} {Q:Value×List Value->Shared->Prop} (F:Fr h₀ L h m) (X:K.In h₀) (e:findCls K (.ref C) (.type "type") name=some (.val f))
  (c:(specialIn K (.ref C) "__getattribute__"==some (some (.builtin "type.__getattribute__"))&&typeIn K (.ref C)==some (.type "type")&&readsIn K C (.type "type")&&handedIn f)=true) (q:Q (f,[]) ⟨h,gn,d,t+1,os⟩):
  wpAny (model prog w) A (getMethod (.ref C) name pl) Q E ⟨h,gn,d,t,os⟩:=by
 simp only[WU,Xu]at c;exact method_of_cls (s:=⟨h,gn,d,t,os⟩) F X c.1.1.1 (cls_val (s:=⟨h,gn,d,t,os⟩) F X c.1.1.2 c.1.2 e c.2 q)
variable {mean:ExcName->Option Value} {mg mb:Str->Option Value}
theorem sy {p:Program} {loose:List Str} (F:Fr h₀ L h m) (N:News h₀ L h (Lg b W T R)) (kk:aY (Lg b W T R)) (Tp:Top p loose mean mg mb h₀)
  (q:∀D h',(D==sysModules)=false->Fr h₀ L h' m->News h₀ L h' (Lg b W T ((D,dictOf [] 0)::R))->aY (Lg b W T ((D,dictOf [] 0)::R))->Q (.ref D) ⟨h',gn,d,t,os⟩):wpAny (model prog w) A (eval (.Dict [] [] pos) env) Q E ⟨h,gn,d,t,os⟩:=
 sq F N kk Tp.nolimit λD h' a f c e=>q D h' a f (yO c) (yL e)
variable {l:bu}
theorem Cx.xs {p:Program} {loose:List Str} {base g h:Heap} {outer:List Env} (C:Cx w p loose mean mg mb A base outer g l h):(HK w.params).In h:=(C.X.keeps C.B.stays).keeps C.st
noncomputable def cI (K:Frag) (a:Addr) (x:Str):Option (Option Value):=(K.lookup a).bind λo=>
 if(o.cls== .type "dict"&&o.dict.isNone&&o.slots.isEmpty&& !(a==sysModules))=true then(match o.data with
  |.dict es _=>if(es.all λe=>isExactStrKey e.key)=true then some ((es.toList.find? λe=>e.key.isStr x).map (·.val))else none
  |_=>none)else none
variable {a:Addr} {u:Tok} {r:Option Value}
set_option tactic.hygienic true in
theorem f6 (e:cI K a x=some r):∃o es ep,K.lookup a=some o∧o.ExactDict∧o.data=.dict es ep∧(es.all λe=>isExactStrKey e.key)=true∧(es.toList.find? λe=>e.key.isStr x).map (·.val)=r∧(a==sysModules)=false:=by
 unfold cI at e;refine bn (YG.mp e) λo b e=>?_;split at e
 ·rename_i hc
  simp only[WU,Xu,Xj,XW]at hc;split at e
  ·rename_i es ep hd
   split at e
   ·rename_i hall
    exact(V3 o es ep b (eQ hc.1.1.1 hc.1.1.2 (by simpa using hc.1.2)) hd hall (W7 e) hc.2)
   ·exact cZ e
  ·exact cZ e
 ·exact cZ e
theorem lQ {Q:Option Value->Shared->Prop} (X:K.In h) (e:cI K a x=some r) (q:Q r ⟨h,gn,d,t+1,os⟩):wpAny (model prog w) A (dictGet a (.str x u)) Q E ⟨h,gn,d,t,os⟩:=by
 refine E36 (f6 e) λo b y g z m c n p=>?_;have g:=X _ _ g
 try with_reducible refine XH ?_
 refine WV (wpAny_pyHash_str (WV (KTD.kt_dictFind_strs (s:=⟨h,gn,d,t+1,os⟩) g m c ?_)));have f:Q (findBy (λk v=>v.isStr k) b x) ⟨h,gn,d,t+1,os⟩:=by
  have j:findBy (λk v=>v.isStr k) b x=(b.toList.find? λe=>e.key.isStr x).map (·.val):=by
   obtain⟨l⟩:=b;simp[findBy]
  rw[j,n];exact q
 rw[findBy_of_findIdx?]at f;cases hi:b.findIdx? λe=>e.key.isStr x with
 |none=>rw[hi]at f;exact W1 f
 |some i=>rw[hi]at f;exact WV (wpAny_dictEntries (s:=⟨h,gn,d,t+1,os⟩) g m (W1 f))
theorem cW (X:K.In s.heap) (e:cI K a x=some r):s.TypeIs (.ref a) "dict":=let ⟨o,_,_,ho,hx,_⟩:=f6 e;(bv o (X _ _ ho) hx.1)
theorem My {value slice:Expr} (F:Fr h₀ L h m) (X₀:K.In h₀) (e:cI K a x=some (some v)) (q:Q v ⟨h,gn,d,t+1,os⟩)
  (hs:subscripted slice false (.ref a) (.str x u)=operate [.ref a,.str x u] (getItem (.ref a) (.str x u))) (hg:∀r,letTemporaryGo value (.ref a) r=pure ()):
  wpAny (model prog w) A (subscriptTail value slice (.ref a) (.str x u)) Q E ⟨h,gn,d,t,os⟩:=by
 have X:K.In h:=X₀.keeps F.keep;refine subscriptTail_builtin (cW (s:=⟨h,gn,d,t,os⟩) X e) slot_dict_getitem.lookup ?_ hs hg;unfold getItem
 try with_reducible refine XH ?_
 refine WV (wpAny_sequenceKey (cW (s:=⟨h,gn,d,t,os⟩) X e) (by decide) ?_);refine WV (wpAny_callSpecial?_slot (name:=Str.ofString "__getitem__") (cW (s:=⟨h,gn,d,t,os⟩) X e) slot_dict_getitem
  (Zm slot_dict_getitem (cW (s:=⟨h,gn,d,t,os⟩) X e) entry_dict_getitem ?_ (args_dict_getitem _ _)))
 show wpAny _ _ (dictGet a (.str x u)>>=_) _ _ _;exact WV (lQ X e (W1 (bv v rfl (W1 q))))
variable {Q:Value×List Value->Shared->Prop}
theorem Cn (F:Fr h₀ L h m) (X₀:K.In h₀) (e:(cI K a "").isSome=true) (q:Q (.builtin "dict.get",[.ref a]) ⟨h,gn,d,t,os⟩):wpAny (model prog w) A (getMethod (.ref a) "get" pl) Q E ⟨h,gn,d,t,os⟩:=by
 have X:K.In h:=X₀.keeps F.keep;obtain⟨r,e⟩:=Yo.mp e;exact ZH (cW (s:=⟨h,gn,d,t,os⟩) X e) ZL Zi ZX (λb c=>by
  refine oH (f6 e) λo Z Z f g Z=>?_;injection c with c;subst c;exact(bv o (X _ _ f) g.2.1)) q
variable {dflt:Value} {Q:Value->Shared->Prop}
theorem yS (F:Fr h₀ L h m) (X₀:K.In h₀) (e:cI K a x=some r) (q:Q (r.getD dflt) ⟨h,gn,d,t+1,os⟩):wpAny (model prog w) A (call (.builtin "dict.get") [.ref a,.str x u,dflt]) Q E ⟨h,gn,d,t,os⟩:=by
 refine Zm (s:=⟨h,gn,d,t,os⟩) Zi (cW (s:=⟨h,gn,d,t,os⟩) (X₀.keeps F.keep:K.In h) e) PySem.F.entry_dict_get ?_ (PySem.F.args_dict_get_3 _ _ _);show wpAny _ _ (dictGet a _>>=_) _ _ _;refine WV (lQ (X₀.keeps F.keep:K.In h) e ?_);cases r with
 |some v=>exact W1 (bv v rfl q)
 |none=>
  exact WV (wpAny_missed_other ((f6 e).choose_spec.choose_spec.choose_spec.2.2.2.2.2) (W1 (bv dflt rfl q)))
noncomputable def qj (K:Frag) (a:Addr):Option (List Value):=match K.lookup a with
 |some o=>if(o.cls== .type "tuple")=true then(match o.data with|.seq items _=>some items.toList|_=>none)else none
 |none=>none
set_option tactic.hygienic true in
theorem hQ {vs:List Value} (X:K.In h) (e:qj K a=some vs):IsTup h a vs.toArray:=by
 unfold qj at e;split at e
 ·rename_i o ho
  split at e
  ·rename_i hc
   split at e
   ·rename_i items n hd
    refine(ju o (X _ _ ho) (by simpa using hc) ⟨n,?_⟩);rw[←W7 e,hd]
   ·exact cZ e
  ·exact cZ e
 ·exact cZ e
noncomputable def lv:List Value->Option (List Str)
 |[]=>some []
 |.str x _::r=>(lv r).map (x::·)
 |_=>none
theorem gC:∀{vs:List Value} {ys:List Str},lv vs=some ys->StrsAre vs ys
 |[],ys,h=>by obtain rfl:=jS h;exact .nil
 |v::r,ys,h=>by
  cases v with
  |str x t=>
   simp only[lv,W8]at h;obtain⟨zs,a,rfl⟩:=h;exact .cons _ _ (gC a)
  |_=>simp[lv]at h
noncomputable def fv (K:Frag) (a:Addr):Option (List Str):=(qj K a).bind lv
variable {b:Bool}
theorem F0 (F:Fr h₀ L h m) (X₀:K.In h₀) (e:((fv K a).map λys=> !(ys.any (·==x)))=some b) (q:Q (.bool b) ⟨h,gn,d,t,os⟩):
  wpAny (model prog w) A (compareOp .NotIn (.str x u) (.ref a)) Q E ⟨h,gn,d,t,os⟩:=by
 refine bn (W8.mp e) λys g c=>?_;obtain rfl:=c;refine bn (YG.mp g) λvs i f=>?_;exact notin_tuple_strs (s:=⟨h,gn,d,t,os⟩) (hQ (X₀.keeps F.keep) i) (by simpa using gC f) q
theorem inK (F:Fr h₀ L h m) (X₀:K.In h₀) (e:((fv K a).map λys=>(ys.any (·==x)))=some b) (q:Q (.bool b) ⟨h,gn,d,t,os⟩):
  wpAny (model prog w) A (compareOp .In (.str x u) (.ref a)) Q E ⟨h,gn,d,t,os⟩:=by
 refine bn (W8.mp e) λys g c=>?_;obtain rfl:=c;refine bn (YG.mp g) λvs i f=>?_;exact in_tuple_strs (s:=⟨h,gn,d,t,os⟩) (hQ (X₀.keeps F.keep) i) (by simpa using gC f) q
variable {kvs:List (Str×Value)}
theorem Dj {Q:Value×List Value->Shared->Prop} (N:News h₀ L h news) (i:In (a,o) news) (D:SD prog w o kvs) (q:Q (.builtin "dict.get",[.ref a]) ⟨h,gn,d,t,os⟩):
  wpAny (model prog w) A (getMethod (.ref a) "get" pl) Q E ⟨h,gn,d,t,os⟩:=by
 have b:h.DictOf (strKind prog w) a kvs:=X7.mpr (bv o (N.get i.mem) D);exact ZH (s:=⟨h,gn,d,t,os⟩) b.typeIs ZL Zi ZX b.mapOf.noDict q
variable {aW:Addr} {b:Addr×Obj} {n:Int} {rd:Bool} {name:Str}
theorem DY (F:Fr h₀ L h m) (X₀:K.In h₀) (e:cI K a x=some none) (q:Q dflt ⟨h,gn,d,t+1,os⟩):wpAny (model prog w) A (call (.builtin "dict.get") [.ref a,.str x u,dflt]) Q E ⟨h,gn,d,t,os⟩:=yS F X₀ e q
theorem As (F:Fr h₀ L h m) (X₀:K.In h₀) (e:cI K a x=some (some v)) (q:Q v ⟨h,gn,d,t+1,os⟩):wpAny (model prog w) A (call (.builtin "dict.get") [.ref a,.str x u,dflt]) Q E ⟨h,gn,d,t,os⟩:=yS F X₀ e q
theorem XcE (N:News h₀ L h news) (i:In (a,o) news) (D:SD prog w o kvs) (lo:(a==sysModules)=false) (e:valueAt kvs x=none)
  (q:Q (.bool false) ⟨h,gn,d,t+1,os⟩):wpAny (model prog w) A (compareOp .In (.str x u) (.ref a)) Q E ⟨h,gn,d,t,os⟩:=inD N i D lo (by rw[e];exact q)
theorem Ea {y:Str} {u':Tok} (h1:x.length≤50000) (h2:y.length≤50000) (q:∀t' tk,Q (.str (x++y) t') ⟨h,gn,d,tk,os⟩):wpAny (model prog w) A (binaryOp .Add (.str x u) (.str y u')) Q E ⟨h,gn,d,t,os⟩:=
 PyProof.Rows.add_str (s:=⟨h,gn,d,t,os⟩) q (by rw[XI];lia)
def ct (M:Model) (A:Around) (T:String) (Q:Value->Shared->Prop) (E:Value->Shared->Prop) (vs:List Value) (s:Shared):Prop:=wpAny M A (call (.type T) vs) Q E s
theorem cwT {M:Model} {T:String} {e:Expr} {rest:List Expr} (q:wpAny M A (spliced (backTo pos (starEach (e::rest) env))) (ct M A T Q E) E s)
  (he:starEach (e::rest) env=(false,eval e env)::starEach rest env) (hplain:(backTo pos (starEach rest env)).any (·.1)=false):
  wpAny M A (callWith pos (.type T) [] (backTo pos (starEach (e::rest) env)) []) Q E s:=PyProof.Rows.callWith_type1 q he hplain
variable {l:Addr}
theorem Tc {D:Addr} {o:Obj} {h':Heap} (F:Fr h₀ L h m) (N:News h₀ L h (Lg b W T R)) (kk:aY (Lg b W T R)) (hD:D=h.objs.size) (hk:∀b o,h.get? b=some o->h'.get? b=some o) (ho:h'.get? D=some o):
  Fr h₀ L h' m∧News h₀ L h' (Lg b W T ((D,o)::R))∧aY (Lg b W T ((D,o)::R)):=by
 subst hD;refine⟨⟨F.ns.keeps hk,λb o e=>hk b o (F.keep b o e),F.above⟩,yO λp hp=>?_,yL (kk.cons λp hp=>Xe (N p hp).1)⟩;rcases WY.mp hp with rfl|hp
 ·exact⟨ho,Zc F.ns.lt,by
  cases e:h₀.get? h.objs.size with
  |none=>rfl
  |some o=>exact absurd (Xe (F.keep _ _ e)) (XX _)⟩
 ·exact⟨hk _ _ (N p hp).1,(N p hp).2⟩
theorem IP {xs:List Value} {k:Nat} (F:Fr h₀ L h m) (N:News h₀ L h (Lg b W T R)) (kk:aY (Lg b W T R)) (i:In (l,aL xs k) (Lg b W T R)) (hz:xs.length≤10000)
  (q:∀D c h',Fr h₀ L h' m->News h₀ L h' (Lg b W T ((D,aL xs c)::R))->aY (Lg b W T ((D,aL xs c)::R))->Q (.ref D) ⟨h',gn,d,t,os⟩):
  wpAny (model prog w) A (call (.type "list") [.ref l]) Q E ⟨h,gn,d,t,os⟩:=
 call_list_seq (s:=⟨h,gn,d,t,os⟩) (hsz:=by rw[XI];simp;exact Z1 hz) l (.inl rfl) (N.get i.mem) rfl rfl λh' a n f=>by
  refine vR (Tc (o:=aL xs a) F N kk rfl n f) λj e g=>?_;exact q _ _ _ j e g
variable {test:Expr} {body:List Stmt} {Q:Flow->Shared->Prop}
def HG (prog:Program) (w:World) (A:Around) (E:Value->Shared->Prop) (env:Env) (test:Expr) (body:List Stmt) (Q:Flow->Shared->Prop) (s:Shared):Prop:=
 codeAny (model prog w) A (.whileLoop test body [] env) (λr s'=>match r with|.ok f=>Q f s'|.error e=>cameBackBy (model prog w) A env E e s') s
def XaY (prog:Program) (w:World) (A:Around) (E:Value->Shared->Prop) (env:Env) (test:Expr) (body:List Stmt) (Q:Flow->Shared->Prop) (f:Flow) (s:Shared):Prop:=match f with
 |.next=>HG prog w A E env test body Q s
 |.cont=>HG prog w A E env test body Q s
 |.brk=>Q .next s
 |.ret v=>Q (.ret v) s
theorem Xbr (h:HG prog w A E env test body Q s):wpAny (model prog w) A (exec (.While test body [] pos) env) Q E s:=wpAny_While h
theorem CS (h:∀E',wpAny (model prog w) A (isTrue test env (eval test env)) (λb s₂=>if b=true then wpAny (model prog w) A (execs body env) (XaY prog w A E env test body Q) E' s₂ else Q .next s₂) E' s):HG prog w A E env test body Q s:=by
 unfold HG;refine codeAny_of_tree ?_;show wpAny _ A ((whileTurn test body [] env).onRaise (λx=>do noteFrame x env;theTreesLotGoes x)) _ _ s;refine wpAny_noted ?_;simp only[whileTurn];refine WV (Ym (h _) (λb s₂ c=>?_) λZ Z e=>e);cases b with
 |false=>
  exact WV (ZT (W1 c))
 |true=>
  refine WV (Ym c (λf d a=>?_) λZ Z e=>e);cases f with
  |next=>exact W1 ⟨rfl,a⟩
  |cont=>exact W1 ⟨rfl,a⟩
  |brk=>exact W1 a
  |ret v=>exact W1 a
variable {n1 n2:Str} {a b:Value}
theorem MB {p1 p2 tpos pos:Pos} {kk:Nat} {value:Expr}
  (q:wpAny (model prog w) A (eval value env) (λv s₁=>wpAny (model prog w) A (unpackItems v [n1,n2].length none) (λitems s₂=>wpAny (model prog w) A (assignInOrder ([n1,n2].reverse.map λn=>bindName env n) items.reverse) (λZ=>Q .next) E s₂) E s₁) E s)
  (hs:swapsWithSole [.Tuple [.Name n1 p1,.Name n2 p2] kk tpos] value pos.line env=pure false) (hw:swappedStores [.Tuple [.Name n1 p1,.Name n2 p2] kk tpos] value env=pure (some [n1,n2])):
  wpAny (model prog w) A (exec (.Assign [.Tuple [.Name n1 p1,.Name n2 p2] kk tpos] value pos) env) Q E s:=Assign_Tuple_swapped (names:=[n1,n2]) q hs hw
theorem Ct {n3:Str} {p1 p2 p3 tpos pos:Pos} {kk:Nat} {value:Expr}
  (q:wpAny (model prog w) A (eval value env) (λv s₁=>wpAny (model prog w) A (unpackItems v [n1,n2,n3].length none) (λitems s₂=>wpAny (model prog w) A (assignInOrder ([n1,n2,n3].reverse.map λn=>bindName env n) items.reverse) (λZ=>Q .next) E s₂) E s₁) E s)
  (hs:swapsWithSole [.Tuple [.Name n1 p1,.Name n2 p2,.Name n3 p3] kk tpos] value pos.line env=pure false) (hw:swappedStores [.Tuple [.Name n1 p1,.Name n2 p2,.Name n3 p3] kk tpos] value env=pure (some [n1,n2,n3])):
  wpAny (model prog w) A (exec (.Assign [.Tuple [.Name n1 p1,.Name n2 p2,.Name n3 p3] kk tpos] value pos) env) Q E s:=Assign_Tuple_swapped (names:=[n1,n2,n3]) q hs hw
variable {y:Str} {u':Tok} {Q:Value->Shared->Prop}
theorem zX (q:Q (.bool true) ⟨h,gn,d,t,os⟩):wpAny (model prog w) A (compareOp .Eq (.str x u) (.str x u')) Q E ⟨h,gn,d,t,os⟩:=PySem.P.eq_str (by simpa using q)
theorem Aw (e:(x.cps.toList==y.cps.toList)=false) (q:Q (.bool false) ⟨h,gn,d,t,os⟩):wpAny (model prog w) A (compareOp .Eq (.str x u) (.str y u')) Q E ⟨h,gn,d,t,os⟩:=PySem.P.eq_str (by rw[e];exact q)
theorem DQ (q:Q (.bool false) ⟨h,gn,d,t,os⟩):wpAny (model prog w) A (compareOp .NotEq (.str x u) (.str x u')) Q E ⟨h,gn,d,t,os⟩:=PySem.P.ne_str (by simpa using q)
theorem ES (e:(x.cps.toList==y.cps.toList)=false) (q:Q (.bool true) ⟨h,gn,d,t,os⟩):wpAny (model prog w) A (compareOp .NotEq (.str x u) (.str y u')) Q E ⟨h,gn,d,t,os⟩:=PySem.P.ne_str (by
 rw[(by rw[bne,e];rfl:(x.cps.toList !=y.cps.toList)=true)];exact q)
variable {x dx D:Addr} {T:String} {i:Int} {z:Str} {b:Bool}
theorem Xb4 (F:Fr h₀ L h m) (X:K.In h₀) (N:News h₀ L h news) (i1:In (x,instObj C dx) news) (i2:In (dx,o) news) (c:isIn K (.ref C) C=true) (q:Q (.bool true) ⟨h,gn,d,t,os⟩):wpAny (model prog w) A (call (.builtin "isinstance") [.ref x,.ref C]) Q E ⟨h,gn,d,t,os⟩:=
 isi_call (s:=⟨h,gn,d,t,os⟩) (X.keeps F.keep) (λM=>(f8 N i1 i2).type) c (by intro e;cases e) q
noncomputable def fH (K:Frag) (D:Addr):Bool:=plainGet K D "__class__"&&hasDictIn K D&&(findIn K (.ref D) "__class__"==some (some (.builtin "object.__class__")))&&(specialIn K (.builtin "object.__class__") "__get__"==some (some (.builtin "getset_descriptor.__get__")))&&
 (takesIn K (.builtin "object.__class__")==some true)&&(mroIn K D (.type "object")==some true)
theorem Xbo (F:Fr h₀ L h m) (X:K.In h₀) (N:News h₀ L h news) (i1:In (x,instObj D dx) news) (i2:In (dx,o) news) (c:(kin_not K D C&&fH K D)=true) (q:Q (.bool false) ⟨h,gn,d,t+1,os⟩):wpAny (model prog w) A (call (.builtin "isinstance") [.ref x,.ref C]) Q E ⟨h,gn,d,t,os⟩:=by
 unfold fH at c;simp only[WU,Xu]at c;refine vR c λf a e=>?_;obtain⟨⟨⟨⟨i,b⟩,j⟩,g⟩,k⟩:=a;exact kin_callC (s:=⟨h,gn,d,t,os⟩) (X.keeps F.keep) (f8 N i1 i2) f i b j g k e q
theorem Qd (F:Fr h₀ L h m) (X:K.In h₀) (N:News h₀ L h news) (i1:In (x,instObj D dx) news) (i2:In (dx,o) news) (ty:typeOf (.type T)=pure (.type "type")) (c:(kin_notT K D T&&fH K D)=true) (q:Q (.bool false) ⟨h,gn,d,t+1,os⟩):wpAny (model prog w) A (call (.builtin "isinstance") [.ref x,.type T]) Q E ⟨h,gn,d,t,os⟩:=by
 unfold fH at c;simp only[WU,Xu]at c;refine vR c λf a e=>?_;obtain⟨⟨⟨⟨i,b⟩,j⟩,g⟩,k⟩:=a;exact kin_callT (s:=⟨h,gn,d,t,os⟩) (X.keeps F.keep) (f8 N i1 i2) f ty i b j g k e q
theorem Db (F:Fr h₀ L h m) (X:K.In h₀) (c:isNotIn K "int" C=true) (q:Q (.bool false) ⟨h,gn,d,t+1,os⟩):wpAny (model prog w) A (call (.builtin "isinstance") [.int i u,.ref C]) Q E ⟨h,gn,d,t,os⟩:=
 isn_call (s:=⟨h,gn,d,t,os⟩) (P:=λZ=>True) (X.keeps F.keep) (λM=>ZJ rfl) c (by intro e;cases e) trivial int_cls q
theorem CW (F:Fr h₀ L h m) (X:K.In h₀) (c:isNotIn K "str" C=true) (q:Q (.bool false) ⟨h,gn,d,t+1,os⟩):wpAny (model prog w) A (call (.builtin "isinstance") [.str z u,.ref C]) Q E ⟨h,gn,d,t,os⟩:=
 isn_call (s:=⟨h,gn,d,t,os⟩) (P:=λZ=>True) (X.keeps F.keep) (λM=>ZJ rfl) c (by intro e;cases e) trivial str_cls q
theorem vz (F:Fr h₀ L h m) (X:K.In h₀) (c:isNotIn K "bool" C=true) (q:Q (.bool false) ⟨h,gn,d,t+1,os⟩):wpAny (model prog w) A (call (.builtin "isinstance") [.bool b,.ref C]) Q E ⟨h,gn,d,t,os⟩:=
 isn_call (s:=⟨h,gn,d,t,os⟩) (P:=λZ=>True) (X.keeps F.keep) (λM=>ZJ rfl) c (by intro e;cases e) trivial bool_cls q
theorem wP (F:Fr h₀ L h m) (X:K.In h₀) (c:isNotIn K "NoneType" C=true) (q:Q (.bool false) ⟨h,gn,d,t+1,os⟩):wpAny (model prog w) A (call (.builtin "isinstance") [.none,.ref C]) Q E ⟨h,gn,d,t,os⟩:=
 isn_call (s:=⟨h,gn,d,t,os⟩) (P:=λZ=>True) (X.keeps F.keep) (λM=>ZJ rfl) c (by intro e;cases e) trivial none_cls q
end
structure Cf (w:World) where
 p:Program
 loose:List Str
 mean:ExcName->Option Value
 mg:Str->Option Value
 mb:Str->Option Value
 A0:Around
 base:Heap
 outer:List Env
 g:Heap
 gn:Array GenState
 d:Drawn
 os:OsState
 qual:Str
 L:Addr
 f:Addr
 cd:Value
 cl:List (Str×Addr)
 A:Around
 E:Value->Shared->Prop
section
variable {w:World}
@[reducible] noncomputable def Cf.ev (c:Cf w) (sc:Scope):Env:=envX c.qual sc c.L c.f c.cd (cellsFrom (c.L+1) sc.names c.cl)
def lf (c:Cf w) {α:Type} (Q:α->Heap->Nat->Prop) (a:α) (s:Shared):Prop:=∃h t,s=⟨h,c.gn,c.d,t,c.os⟩∧Q a h t
def Wp (c:Cf w) {α:Type} (e:Sem α) (Q:α->Heap->Nat->Prop) (h:Heap) (t:Nat):Prop:=wpAny (model PP w) c.A e (lf c Q) c.E ⟨h,c.gn,c.d,t,c.os⟩
structure Ok (c:Cf w) (nn:Nat) (sc:Scope) (ns:List Str):Prop where
 S:gZ (c.ev sc) c.L ns
 G:Gd c.A (c.ev sc) c.outer c.L
 hA:c.A=c.A0.deeper (c.ev sc)
 hh:c.A.handled=none
 rm:da c.A nn
 B:Below c.A0 c.base c.outer c.g
 X:(HK w.params).In c.g
 T:Top c.p c.loose c.mean c.mg c.mb c.g
 XB:(HK w.params).In c.base
 TB:Top c.p c.loose c.mean c.mg c.mb c.base
structure At (c:Cf w) (ns:List Str) (vs:List (Option Value)) (l:bu) (h:Heap):Prop where
 F:Fr c.g c.L h (bT ns vs)
 N:News c.g c.L h l
 k:aY l
variable {c:Cf w} {α β:Type} {e:Sem α} {Q:α->Heap->Nat->Prop} {h:Heap} {t:Nat}
theorem aJ {a:α} (q:Q a h t):lf c Q a ⟨h,c.gn,c.d,t,c.os⟩:=(uu h t rfl q)
theorem Wp.go {P:α->Shared->Prop} (x:Wp c e Q h t) (y:∀a h t,Q a h t->P a ⟨h,c.gn,c.d,t,c.os⟩):wpAny (model PP w) c.A e P c.E ⟨h,c.gn,c.d,t,c.os⟩:=
 Ym x (λa s z=>by refine gS z λh t b q=>?_;obtain rfl:=b;exact y a h t q) λZ Z e=>e
theorem Wp.mono {P:α->Heap->Nat->Prop} (x:Wp c e Q h t) (y:∀a h t,Q a h t->P a h t):Wp c e P h t:=x.go λa h t q=>(uu h t rfl (y a h t q))
variable {vs:List (Option Value)}
theorem At.sub {ns:List Str} {l l':bu} (H:At c ns vs l h) (s:Sub l' l):At c ns vs l' h:=⟨H.F,kz H.N s,H.k.sub s⟩
theorem kO {nn:Nat} {sc:Scope} {ns:List Str} {l:bu} (O:Ok c nn sc ns) (H:At c ns vs l h):(HK w.params).In h:=O.X.keeps H.F.keep
variable {nn:Nat} {sc:Scope} {ns:List Str} {vs':List (Option Value)} {l:bu} {env:Env} {Q:Value->Heap->Nat->Prop} {pos px:Pos} {x:Str} {v:Value} {e e1 e2:Expr} {i j:Int} {a b:Tok} {z:Str} {kk:Nat}
theorem Si (O:Ok c nn sc ns) (H:At c ns vs l h) (P:g9 x (some v) ns vs) (q:Q v h t):Wp c (loadName (c.ev sc) x) Q h t:=R8 O.S H.F P (aJ q)
theorem L8 (O:Ok c nn sc ns) (H:At c ns vs l h) (P:g9 x (some v) ns vs) (q:Q v h t):Wp c (eval (.Name x pos) (c.ev sc)) Q h t:=ldS O.S H.F P (aJ q)
theorem Mv {k} (q:Q (.int i t) h (t+1)):Wp c (eval (.Constant (.int i) k pos) env) Q h t:=Xcg (aJ q)
theorem yN {k} (q:Q (.str z t) h (t+1)):Wp c (eval (.Constant (.str z) k pos) env) Q h t:=Wx (aJ q)
theorem BY {k} (q:Q .none h t):Wp c (eval (.Constant .none k pos) env) Q h t:=wpAny_Constant_none (aJ q)
theorem FR {k} {b:Bool} (q:Q (.bool b) h t):Wp c (eval (.Constant (.bool b) k pos) env) Q h t:=wpAny_Constant_bool (aJ q)
variable {op:Operator}
theorem rM (q:Wp c (eval e1 env) (λa h t=>Wp c (eval e2 env) (λb h t=>Wp c (binaryOp op a b) Q h t) h t) h t):Wp c (eval (.BinOp e1 op e2 pos) env) Q h t:=
 wpAny_BinOp (q.go λZ Z Z y=>y.go λZ Z Z z=>z)
theorem t8 (q:Wp c (eval e1 env) (λa h t=>Wp c (eval e2 env) (λb h t=>Wp c (subscriptTail e1 e2 a b) Q h t) h t) h t):Wp c (eval (.Subscript e1 e2 pos) env) Q h t:=
 Subscript_ (q.go λZ Z Z y=>y.go λZ Z Z z=>z)
theorem I3 (q:Q (.int (i+j) t) h (t+1)):Wp c (binaryOp .Add (.int i a) (.int j b)) Q h t:=XcC (aJ q)
theorem Cm (q:Q (.int (i - j) t) h (t+1)):Wp c (binaryOp .Sub (.int i a) (.int j b)) Q h t:=Xfo (aJ q)
theorem tG (q:Q (.int (i+j) t) h (t+1)):Wp c (inplaceOp .Add (.int i a) (.int j b)) Q h t:=SU (aJ q)
theorem UE (m:IntMulOk i j) (q:Q (.int (i*j) t) h (t+1)):Wp c (binaryOp .Mult (.int i a) (.int j b)) Q h t:=Wz (aJ q) m
theorem Lq (m:0<j) (q:Q (.int (i % j) t) h (t+1)):Wp c (binaryOp .Mod (.int i a) (.int j b)) Q h t:=Xe8 m (aJ q)
theorem Ix (m:0<j) (m2:j<1073741824) (q:Q (.int (i / j) t) h (t+1)):Wp c (binaryOp .FloorDiv (.int i a) (.int j b)) Q h t:=WT m m2 (aJ q)
theorem SA (h0:0≤i) (h1:i<2 ^ 64) (hj:0≤j) (hj2:j≤1000) (q:Q (.int (i ^ j.toNat) t) h (t+1)):Wp c (binaryOp .Pow (.int i a) (.int j b)) Q h t:=XaB h0 h1 hj hj2 (aJ q)
theorem Xau (q:Q (.bool (decide (i<j))) h t):Wp c (compareOp .Lt (.int i a) (.int j b)) Q h t:=lt_int (aJ q)
theorem XaW (q:Q (.bool (decide (i≤j))) h t):Wp c (compareOp .LtE (.int i a) (.int j b)) Q h t:=le_int (aJ q)
theorem Xbz (q:Q (.bool (decide (j<i))) h t):Wp c (compareOp .Gt (.int i a) (.int j b)) Q h t:=gt_int (aJ q)
theorem XbB (q:Q (.bool (decide (j≤i))) h t):Wp c (compareOp .GtE (.int i a) (.int j b)) Q h t:=ge_int (aJ q)
theorem XcO (q:Q (.bool (decide (i=j))) h t):Wp c (compareOp .Eq (.int i a) (.int j b)) Q h t:=eq_int (aJ q)
theorem Xdv (q:Q (.bool (i !=j)) h t):Wp c (compareOp .NotEq (.int i a) (.int j b)) Q h t:=ne_int (aJ q)
def Br (b:Bool) (X Y:Prop):Prop:=(b=true->X)∧(b=false->Y)
variable {X Y:Prop}
theorem Br.ite {b:Bool} (x:Br b X Y):if b=true then X else Y:=by
 cases b with
 |true=>exact x.1 rfl
 |false=>exact x.2 rfl
def Nx (c:Cf w) (rest:List Stmt) (env:Env) (Q:Flow->Heap->Nat->Prop) (f:Flow) (h:Heap) (t:Nat):Prop:=match f with
 |.next=>Wp c (execs rest env) Q h t
 |f=>Q f h t
variable {p2:Pos} {st:Stmt} {rest body orelse:List Stmt} {Q:Flow->Heap->Nat->Prop} {QB:Bool->Heap->Nat->Prop} {QV:Value->Heap->Nat->Prop} {whole:Sem Value} {b:Bool}
theorem zE (q:Q .next h t):Wp c (execs [] env) Q h t:=ZT (aJ q)
theorem cf (q:Wp c (exec st env) (Nx c rest env Q) h t):Wp c (execs (st::rest) env) Q h t:=
 wpAny_execs_cons (q.go λf h t y=>by cases f<;>first|exact y|exact aJ y)
theorem Jd (hs:swapsWith e (some (.Name x px)) pos.line env=pure false) (q:Wp c (eval e env) (λv h t=>Wp c (storeName env x v) (λZ h t=>Wp c (execs rest env) Q h t) h t) h t):Wp c (execs (.Assign [.Name x px] e pos::rest) env) Q h t:=
 cf (wpAny_Assign_Name (q.go λv h t y=>y.go λZ h t z=>aJ z) hs)
theorem Xdr (O:Ok c nn sc ns) (H:At c ns vs l h) (P:rz x v ns vs vs') {R:Unit->Heap->Nat->Prop} (q:∀h',At c ns vs' l h'->R () h' (t+1)):Wp c (storeName (c.ev sc) x v) R h t:=
 stE O.S H.F H.N P λh' a b=>aJ (q h' ⟨a,b,H.k⟩)
theorem tE (q:Wp c (eval e env) (λv h t=>Q (.ret v) h t) h t):Wp c (execs (.Return (some e) pos::rest) env) Q h t:=cf (wpAny_Return_some (q.go λv h t y=>aJ y))
theorem Ur (q:Wp c (isTrue e env (eval e env)) (λb h t=>Br b (Wp c (execs body env) (Nx c rest env Q) h t) (Wp c (execs orelse env) (Nx c rest env Q) h t)) h t):Wp c (execs (.If e body orelse pos::rest) env) Q h t:=
 cf (wpAny_If (q.go λb h t y=>y.ite))
theorem LK (q:Wp c (isTrue e env (eval e env)) (λb h t=>Br b (Wp c (execs body env) (Nx c rest env Q) h t) (Wp c (execs rest env) Q h t)) h t):Wp c (execs (.If e body [] pos::rest) env) Q h t:=
 Ur (q.mono λb h t y=>⟨y.1,λz=>zE (y.2 z)⟩)
theorem E8 (hs:swapsWith e none pos.line env=pure false) (hi:interactive env=false) (q:Wp c (eval e env) (λZ h t=>Wp c (execs rest env) Q h t) h t):Wp c (execs (.Expr e pos::rest) env) Q h t:=
 cf (wpAny_Expr_any (q.go λv h t y=>aJ y) hi hs)
variable {o:Expr}
theorem xa {attr:Str} (hs:swapsWith e (some (.Attribute o attr px)) pos.line env=pure false) (q:Wp c (eval e env) (λv h t=>Wp c (eval o env) (λov h t=>Wp c (setAttr ov attr v) (λZ h t=>Wp c (execs rest env) Q h t) h t) h t) h t):
  Wp c (execs (.Assign [.Attribute o attr px] e pos::rest) env) Q h t:=cf (plainObj_wpAny_Assign_Attribute (q.go λv h t y=>y.go λv h t y=>y.go λZ h t y=>aJ y) hs)
theorem Aj {o ix:Expr} (hs:swapsWith e (some (.Subscript o ix px)) pos.line env=pure false) (q:Wp c (eval e env) (λv h t=>Wp c (eval o env) (λov h t=>Wp c (eval ix env) (λiv h t=>Wp c (setItem ov iv v) (λZ h t=>Wp c (execs rest env) Q h t) h t) h t) h t) h t):
  Wp c (execs (.Assign [.Subscript o ix px] e pos::rest) env) Q h t:=cf (wpAny_Assign_Subscript (q.go λv h t y=>y.go λv h t y=>y.go λv h t y=>y.go λZ h t y=>aJ y) hs)
theorem EN (q:Wp c (loadName env x) (λold h t=>Wp c (eval e env) (λv h t=>Wp c (inplaceOp op old v) (λr h t=>Wp c (storeName env x r) (λZ h t=>Wp c (execs rest env) Q h t) h t) h t) h t) h t):
  Wp c (execs (.AugAssign (.Name x px) op e pos::rest) env) Q h t:=cf (wpAny_AugAssign_Name (q.go λv h t y=>y.go λv h t y=>y.go λv h t y=>y.go λZ h t y=>aJ y))
theorem F6 {attr:Str} (q:Wp c (eval o env) (λov h t=>Wp c (getAttr ov attr true) (λold h t=>Wp c (eval e env) (λv h t=>Wp c (inplaceOp op old v) (λr h t=>Wp c (setAttr ov attr r) (λZ h t=>Wp c (execs rest env) Q h t) h t) h t) h t) h t) h t):
  Wp c (execs (.AugAssign (.Attribute o attr px) op e pos::rest) env) Q h t:=cf (wpAny_AugAssign_AttributeAny (q.go λv h t y=>y.go λv h t y=>y.go λv h t y=>y.go λv h t y=>y.go λZ h t y=>aJ y))
theorem AW {op:CmpOp} (q:Wp c (eval e1 env) (λa h t=>Wp c (eval e2 env) (λb h t=>Wp c (compareOp op a b) (λv h t=>Wp c (truthy v) QB h t) h t) h t) h t) (hm:behindInMarks op e2=false):Wp c (isTrue (.Compare e1 [op] [e2] pos) env whole) QB h t:=
 wpAny_isTrue_Compare1 (q.go λv h t y=>y.go λv h t y=>y.go λv h t y=>y) hm
theorem Sf {op:CmpOp} (q:Wp c (eval e1 env) (λa h t=>Wp c (eval e2 env) (λb h t=>Wp c (compareOp op a b) QV h t) h t) h t) (hm:behindInMarks op e2=false):Wp c (eval (.Compare e1 [op] [e2] pos) env) QV h t:=
 wpAny_Compare1 (q.go λv h t y=>y.go λv h t y=>y) hm
theorem Kh (q:QB b h t):Wp c (truthy (.bool b)) QB h t:=YT (aJ q)
theorem Xay (q:QB false h t):Wp c (truthy .none) QB h t:=truthy_none (aJ q)
variable {es:List Expr}
theorem Dt (q:Wp c (isTrue e env (eval e env)) (λb h t=>Br b (Wp c (isTrue (.BoolOp .And es pos) env whole) QB h t) (QB false h t)) h t):Wp c (isTrue (.BoolOp .And (e::es) pos) env whole) QB h t:=
 isTrue_and (q.go λb h t y=>(show Br b _ _ from⟨y.1,λz=>aJ (y.2 z)⟩).ite)
theorem wZ (q:QB true h t):Wp c (isTrue (.BoolOp .And [] pos) env whole) QB h t:=isTrue_and_nil (aJ q)
theorem RM (q:Wp c (isTrue e env (eval e env)) (λb h t=>Br b (QB true h t) (Wp c (isTrue (.BoolOp .Or es pos) env whole) QB h t)) h t):Wp c (isTrue (.BoolOp .Or (e::es) pos) env whole) QB h t:=
 isTrue_or (q.go λb h t y=>(show Br b _ _ from⟨λz=>aJ (y.1 z),y.2⟩).ite)
theorem E6 (q:QB false h t):Wp c (isTrue (.BoolOp .Or [] pos) env whole) QB h t:=isTrue_or_nil (aJ q)
theorem DV (q:Wp c (isTrue e env (eval e env)) (λb h t=>QB (!b) h t) h t):Wp c (isTrue (.UnaryOp .Not e pos) env whole) QB h t:=isTrue_not (q.go λb h t y=>aJ y)
theorem tS (hs:isTrue e env whole=(do let v ←whole;standAt e.pos;holding [v] (truthy v))) (q:Wp c whole (λv h t=>Wp c (truthy v) QB h t) h t):Wp c (isTrue e env whole) QB h t:=isTrue_plain (q.go λv h t y=>y) hs
theorem yV {op:BoolOp} (q:Wp c (eval e env) QV h t):Wp c (eval (.BoolOp op [e] pos) env) QV h t:=BoolOp_one q
theorem ON (q:Wp c (eval e1 env) (λv h t=>Wp c (truthy v) (λb h t=>Br b (Wp c (eval (.BoolOp .And (e2::es) pos) env) QV h t) (QV v h t)) h t) h t):Wp c (eval (.BoolOp .And (e1::e2::es) pos) env) QV h t:=
 BoolOp_and (q.go λv h t y=>y.go λb h t y=>(show Br b _ _ from⟨y.1,λz=>aJ (y.2 z)⟩).ite)
theorem Xc5 (q:Wp c (eval e1 env) (λv h t=>Wp c (truthy v) (λb h t=>Br b (QV v h t) (Wp c (eval (.BoolOp .Or (e2::es) pos) env) QV h t)) h t) h t):Wp c (eval (.BoolOp .Or (e1::e2::es) pos) env) QV h t:=
 BoolOp_or (q.go λv h t y=>y.go λb h t y=>(show Br b _ _ from⟨λz=>aJ (y.1 z),y.2⟩).ite)
theorem PK {op:UnaryOp} (q:Wp c (eval e env) (λv h t=>Wp c (unaryOp op v) QV h t) h t):Wp c (eval (.UnaryOp op e pos) env) QV h t:=UnaryOp_ (q.go λv h t y=>y)
theorem PQ (q:Wp c (truthy v) (λb h t=>QV (.bool !b) h t) h t):Wp c (unaryOp .Not v) QV h t:=not_of (q.go λb h t y=>aJ y)
theorem Vr (q:Wp c (isTrue e env (eval e env)) (λb h t=>Br b (Wp c (eval e1 env) QV h t) (Wp c (eval e2 env) QV h t)) h t):Wp c (eval (.IfExp e e1 e2 pos) env) QV h t:=IfExp_ (q.go λb h t y=>y.ite)
theorem N9 {a:Addr} (q:QV (.bool false) h t):Wp c (compareOp .Is (.ref a) .none) QV h t:=is_ref_none (aJ q)
theorem Gw {a:Addr} (q:QV (.bool true) h t):Wp c (compareOp .IsNot (.ref a) .none) QV h t:=isnot_ref_none (aJ q)
theorem Xa3 (q:QV (.bool true) h t):Wp c (compareOp .Is .none .none) QV h t:=is_none_none (aJ q)
theorem OM (q:QV (.bool false) h t):Wp c (compareOp .IsNot .none .none) QV h t:=isnot_none_none (aJ q)
variable {u:Tok}
theorem Xdj (q:QV (.bool false) h t):Wp c (compareOp .Is (.str z u) .none) QV h t:=is_str_none (aJ q)
theorem Uf (q:QV (.bool true) h t):Wp c (compareOp .IsNot (.str z u) .none) QV h t:=isnot_str_none (aJ q)
theorem XaZ {z:Int} (q:QV (.bool false) h t):Wp c (compareOp .Is (.int z u) .none) QV h t:=is_int_none (aJ q)
theorem AQ {z:Int} (q:QV (.bool true) h t):Wp c (compareOp .IsNot (.int z u) .none) QV h t:=isnot_int_none (aJ q)
theorem Xaj {z:Bool} (q:QV (.bool false) h t):Wp c (compareOp .Is (.bool z) .none) QV h t:=is_bool_none (aJ q)
theorem ID {z:Bool} (q:QV (.bool true) h t):Wp c (compareOp .IsNot (.bool z) .none) QV h t:=isnot_bool_none (aJ q)
noncomputable def bg:Expr->Bool
 |.Starred .. =>false
 |_=>true
theorem cU {rest:List Expr} (h:bg e=true):starEach (e::rest) env=(false,eval e env)::starEach rest env:=by
 cases e<;>first|rfl|(exact nomatch h)
def Wa (c:Cf w) (env:Env):List Expr->(List Value->Heap->Nat->Prop)->Heap->Nat->Prop
 |[],Q,h,t=>Q [] h t
 |e::r,Q,h,t=>Wp c (eval e env) (λv h t=>Wa c env r (λvs=>Q (v::vs)) h t) h t
variable {a:Value} {rest:List Expr} {Q:List Value->Heap->Nat->Prop} {fa:Addr} {id:String} {first xs:List Value}
theorem BC (q:Q [] h t):Wa c env [] Q h t:=q
theorem wp (q:Wp c (eval e env) (λv h t=>Wa c env rest (λvs=>Q (v::vs)) h t) h t):Wa c env (e::rest) Q h t:=q
theorem Wa.go:∀{es:List Expr} {Q:List Value->Heap->Nat->Prop} {h:Heap} {t:Nat},es.all bg=true->Wa c env es Q h t->∀{P:List Value->Shared->Prop},(∀vs h t,Q vs h t->P vs ⟨h,c.gn,c.d,t,c.os⟩)->wpAny (model PP w) c.A (spliced (backTo pos (starEach es env))) P c.E ⟨h,c.gn,c.d,t,c.os⟩
 |[],Q,h,t,_,q,P,y=>spliced_none (y _ _ _ q)
 |e::r,Q,h,t,hp,q,P,y=>by
  rw[Ys,WU]at hp;exact spliced_more (Wp.go q λv h t z=>Wa.go hp.2 z λvs h t z=>y _ _ _ z) (cU hp.1)
theorem d6:∀{es:List Expr},es.all bg=true->(backTo pos (starEach es env)).any (·.1)=false
 |[],_=>rfl
 |e::r,hp=>by
  rw[Ys,WU]at hp;rw[cU hp.1];show(false||(backTo pos (starEach r env)).any (·.1))=false;rw[d6 hp.2];rfl
def Ck (c:Cf w) (f:Value) (first:List Value) (Q:Value->Heap->Nat->Prop) (vs:List Value) (h:Heap) (t:Nat):Prop:=(HK w.params).In h∧Wp c (call f (first++vs)) Q h t
theorem wN (O:Ok c nn sc ns) (hk:(keepIn (HK w.params) (.ref fa)&&(e::rest).all bg)=true) (q:Wa c env (e::rest) (Ck c (.ref fa) first QV) h t):Wp c (callWith pos (.ref fa) first (backTo pos (starEach (e::rest) env)) []) QV h t:=by
 rw[WU]at hk;have a:=hk.2;rw[Ys,WU]at a;exact cwF O.X hk.1 (Wa.go hk.2 q λvs h t z=>z) (cU a.1) (d6 a.2)
theorem QR (O:Ok c nn sc ns) (H:At c ns vs l h) (hk:keepIn (HK w.params) (.ref fa)=true) (q:Wp c (call (.ref fa) []) QV h t):Wp c (callWith pos (.ref fa) [] (backTo pos (starEach [] env)) []) QV h t:=XcN O.X H.F hk q
theorem RY (O:Ok c nn sc ns) (H:At c ns vs l h) (hk:keepIn (HK w.params) (.ref fa)=true) (q:Wp c (call (.ref fa) [a]) QV h t):Wp c (callWith pos (.ref fa) [a] (backTo pos (starEach [] env)) []) QV h t:=Xbi O.X H.F hk q
theorem tZ (O:Ok c nn sc ns) (H:At c ns vs l h) (e:nsIn (HK w.params) mainGlobals x=some (some v)) (hx:fM env x=true) (q:QV v h t):Wp c (eval (.Name x px) env) QV h t:=glS H.F O.X O.T e hx (aJ q)
theorem vp (O:Ok c nn sc ns) (H:At c ns vs l h) (e:nsIn (HK w.params) mainGlobals x=some none) (hv:bootBuiltins x=some v) (hx:fM env x=true) (q:QV v h t):Wp c (eval (.Name x px) env) QV h t:=biS H.F O.X O.T e hv hx (aJ q)
theorem gJ {fe:Expr} (he:eval (.Call fe es [] pos) env=(do callWith pos (←eval fe env) [] (backTo pos (starEach es env)) (backToKw pos (keywordEach [] env)))) (q:Wp c (eval fe env) (λf h t=>Wp c (callWith pos f [] (backTo pos (starEach es env)) []) QV h t) h t):Wp c (eval (.Call fe es [] pos) env) QV h t:=Call_ (q.go λf h t y=>y) he
theorem Ft (O:Ok c nn sc ns) (H:At c ns vs l h) (ev:nsIn (HK w.params) mainGlobals x=some (some (.ref fa))) (hk:(fM env x&&(keepIn (HK w.params) (.ref fa)&&(e::rest).all bg))=true)
  (he:eval (.Call (.Name x px) (e::rest) [] pos) env=(do callWith pos (←eval (.Name x px) env) [] (backTo pos (starEach (e::rest) env)) (backToKw pos (keywordEach [] env))))
  (q:Wa c env (e::rest) (Ck c (.ref fa) [] QV) h t):Wp c (eval (.Call (.Name x px) (e::rest) [] pos) env) QV h t:=by
 rw[WU]at hk;exact gJ he (tZ O H ev hk.1 (wN O hk.2 q))
theorem XcL (O:Ok c nn sc ns) (H:At c ns vs l h) (ev:nsIn (HK w.params) mainGlobals x=some none) (hv:bootBuiltins x=some (.builtin id)) (hk:(fM env x&&(e::rest).all bg)=true)
  (he:eval (.Call (.Name x px) (e::rest) [] pos) env=(do callWith pos (←eval (.Name x px) env) [] (backTo pos (starEach (e::rest) env)) (backToKw pos (keywordEach [] env))))
  (q:Wa c env (e::rest) (λvs h t=>Wp c (call (.builtin id) vs) QV h t) h t):Wp c (eval (.Call (.Name x px) (e::rest) [] pos) env) QV h t:=by
 rw[WU]at hk;have a:=hk.2;rw[Ys,WU]at a;exact gJ he (vp O H ev hv hk.1 (cwB (Wa.go hk.2 q λvs h t z=>z) (cU a.1) (d6 a.2)))
theorem Jt (O:Ok c nn sc ns) (H:At c ns vs l h) (ev:nsIn (HK w.params) mainGlobals x=some none) (hv:bootBuiltins x=some (.type id)) (hk:(fM env x&&(e::rest).all bg)=true)
  (he:eval (.Call (.Name x px) (e::rest) [] pos) env=(do callWith pos (←eval (.Name x px) env) [] (backTo pos (starEach (e::rest) env)) (backToKw pos (keywordEach [] env))))
  (q:Wa c env (e::rest) (λvs h t=>Wp c (call (.type id) vs) QV h t) h t):Wp c (eval (.Call (.Name x px) (e::rest) [] pos) env) QV h t:=by
 rw[WU]at hk;have a:=hk.2;rw[Ys,WU]at a;exact gJ he (vp O H ev hv hk.1 (cwT (Wa.go hk.2 q λvs h t z=>z) (cU a.1) (d6 a.2)))
theorem yw (hk:(e::rest).all bg=true) (q:Wa c env (e::rest) (λvs h t=>Wp c (call (.builtin id) (first++vs)) QV h t) h t):Wp c (callWith pos (.builtin id) first (backTo pos (starEach (e::rest) env)) []) QV h t:=by
 have a:=hk;rw[Ys,WU]at a;exact cwB (Wa.go hk q λvs h t z=>z) (cU a.1) (d6 a.2)
variable {name:Str}
theorem Gu {apos:Pos} {pl:Sem Bool} (he:eval (.Call (.Attribute o name apos) es [] pos) env=(do
   let ov ←eval o env
   standAt apos.atName
   let (f,first) ←holding [ov] (getMethod ov name pl)
   callWith pos f first (backTo pos (starEach es env)) []))
  (q:Wp c (eval o env) (λov h t=>Wp c (getMethod ov name pl) (λfx h t=>Wp c (callWith pos fx.1 fx.2 (backTo pos (starEach es env)) []) QV h t) h t) h t):Wp c (eval (.Call (.Attribute o name apos) es [] pos) env) QV h t:=
 MethodCall_ (q.go λv h t y=>y.go λf h t y=>y) he
variable {kt:Nat}
theorem Rs (hk:es.all bg=true) (q:Wa c env es (λvs h t=>Wp c (newTuple vs) QV h t) h t):Wp c (eval (.Tuple es kt pos) env) QV h t:=Tuple_ (Wa.go hk q λvs h t z=>z)
theorem O5 (hk:es.all bg=true) (q:Wa c env es (λvs h t=>Wp c (newList vs) QV h t) h t):Wp c (eval (.List es pos) env) QV h t:=List_ (Wa.go hk q λvs h t z=>z)
def Cl (q:Cf w) (l:bu) (h:Heap):Prop:=Cx w q.p q.loose q.mean q.mg q.mb q.A0 q.base q.outer q.g l h
def Co (q:Cf w) (f:Value) (args:List Value) (Q:Value->Heap->Nat->Prop) (h:Heap) (t:Nat):Prop:=codeAny (model PP w) q.A0 (.call f ⟨args,[]⟩) (rq (lf q Q) q.E) ⟨h,q.gn,q.d,t,q.os⟩
variable {q:Cf w} {l':bu} {h':Heap} {Q:Value->Heap->Nat->Prop} {g:Heap} {scope:Scope} {osl:Array (Option Value)} {args:List Value}
theorem lS (ns:List Str) (vs:List (Option Value)) {name qual:Str} {params:Arguments} {dV kV doc pm cdv ct oc:Value} {an od:Option Addr} {f:Addr} {n:Nat}
  (rm:da q.A0 (n+1)) (C:Cl q l h)
  (ho:(HK w.params).lookup f=some ⟨oc,od,.func (fnOf name qual params body scope dV kV doc pm an cdv ct),osl⟩)
  (hc:(iE (HK w.params) scope ns cdv qual&&(scope.names.all λx=> !(x.2== .cell)))=true)
  (hbind:BindsTo ⟨h,q.gn,q.d,t,q.os⟩ (fnOf name qual params body scope dV kV doc pm an cdv ct) ⟨args,[]⟩ (bB ns vs))
  (k:∀c:Cf w,c.g=q.g->c.outer=q.outer->c.cd=cdv->c.qual=qual->
   (∀v h t,wpAny (model PP w) c.A (leaving (c.ev scope) v) (λZ s=>q.E v s) q.E ⟨h,c.gn,c.d,t,c.os⟩->c.E v ⟨h,c.gn,c.d,t,c.os⟩)->(∀v h t,q.E v ⟨h,q.gn,q.d,t,q.os⟩->q.E v ⟨h,c.gn,c.d,t,c.os⟩)->
   Ok c n scope ns->∀h' t',At c ns vs l h'->Wp c (execs body (c.ev scope)) (λfl h t=>Q (gc fl) h t) h' t'):Co q (.ref f) args Q h t:=by
 rw[WU]at hc;have u:∀d,envOfC qual scope d f cdv=envOf qual scope d f cdv:=λd=>by
  have z:=hc.2;have j:∀(l:List (Str×NameKind)) (n:Nat) (b:List (Str×Addr)),(l.all λx=> !(x.2== .cell))=true->cellsFrom n l b=b:=by
   intro l
   induction l with
   |nil=>intro n b _;rfl
   |cons a r ih=>
    intro n b m;rw[Ys,WU]at m;obtain⟨x,kd⟩:=a;dsimp only[cellsFrom];have:(kd==NameKind.cell)=false:=by simpa using m.1
    rw[this,Xh XE];exact ih _ _ m.2
  unfold envOfC;rw[j _ _ _ z];rfl
 refine Af ns vs rm C ho hc.1 hbind λd g e o G i S F N B X T D y p=>?_;rw[←u d]at o G i S ⊢;refine Wp.go (k {q with qual:=qual,L:=d,f:=f,cd:=cdv,cl:=[],A:=q.A0.deeper (envOfC qual scope d f cdv),E:=pP PP w q.A0 (envOfC qual scope d f cdv) (rq (lf q Q) q.E)}
  rfl rfl rfl rfl (λv h t z=>z) (λZ Z Z z=>z) ⟨S,G,rfl,o,i,B,X,T,D,y⟩ g e ⟨F,N,p⟩) λfl h' t' z=>aJ (c:=q) z
theorem pW (ns:List Str) (vs:List (Option Value)) (cv:List (Str×Option Value)) {name qual:Str} {params:Arguments} {dV kV doc pm cdv ct oc:Value} {an od:Option Addr} {f:Addr} {n:Nat}
  {binds:List (Str×Value)} {b:Addr×Obj} {W T I:bu}
  (rm:da q.A0 (n+1)) (C:Cl q (Lg b W T I) h)
  (ho:(HK w.params).lookup f=some ⟨oc,od,.func (fnOf name qual params body scope dV kV doc pm an cdv ct),osl⟩)
  (hc:iy (HK w.params) scope ns (cv.map (·.1)) cdv qual=true)
  (hbind:BindsTo ⟨h,q.gn,q.d,t,q.os⟩ (fnOf name qual params body scope dV kV doc pm an cdv ct) ⟨args,[]⟩ binds)
  (hk:(binds.all λy=>scope.names.lookup y.1==some .local||scope.names.lookup y.1==some .cell)=true)
  (hl:(binds.filter λx=>scope.names.lookup x.1==some .local)=bB ns vs)
  (hv:(cv.map λx=>bindC (λy=>scope.names.lookup y) binds (λZ=>none) x.1)=cv.map (·.2))
  (k:∀c:Cf w,c.g=q.g->c.outer=q.outer->c.cd=cdv->c.qual=qual->
   (∀v h t,wpAny (model PP w) c.A (leaving (c.ev scope) v) (λZ s=>q.E v s) q.E ⟨h,c.gn,c.d,t,c.os⟩->c.E v ⟨h,c.gn,c.d,t,c.os⟩)->(∀v h t,q.E v ⟨h,q.gn,q.d,t,q.os⟩->q.E v ⟨h,c.gn,c.d,t,c.os⟩)->
   Ok c n scope ns->∀h' t' cs,eZ (c.ev scope) cv cs->At c ns vs (Lg b W T (cs++I)) h'->Wp c (execs body (c.ev scope)) (λfl h t=>Q (gc fl) h t) h' t'):Co q (.ref f) args Q h t:=by
 refine Dc ns vs cv rm C ho hc hbind hk hl hv λe d a cs Y l G g S F N B X T m j i=>?_;exact Wp.go (k {q with qual:=qual,L:=e,f:=f,cd:=cdv,cl:=[],A:=q.A0.deeper (envOfC qual scope e f cdv),E:=pP PP w q.A0 (envOfC qual scope e f cdv) (rq (lf q Q) q.E)}
  rfl rfl rfl rfl (λv h t z=>z) (λZ Z Z z=>z) ⟨S,G,rfl,l,g,B,X,T,m,j⟩ d a cs Y ⟨F,N,i⟩) λfl h' t' z=>aJ (c:=q) z
theorem zw {f:Value} (O:Ok c nn sc ns) (H:At c ns vs l h)
  (k:∀q:Cf w,Cl q l h->da q.A0 nn->(∀l' h',Ex q.g l' h'->At c ns vs l' h')->q.g=hideAll h (l.map (·.1))->q.outer=c.ev sc::c.outer->(∀v h t,c.E v ⟨h,c.gn,c.d,t,c.os⟩->q.E v ⟨h,q.gn,q.d,t,q.os⟩)->Co q f args Q h t):Wp c (call f args) Q h t:=
 Of (k {c with A0:=c.A,outer:=c.ev sc::c.outer,g:=hideAll h (l.map (·.1))} (Rb O.XB O.TB O.B H.F H.N H.k O.G) O.rm (λl' h' x=>let z:=wQ H.F H.N x;⟨z.1,z.2,x.keys⟩) rfl rfl λZ Z Z z=>z)
variable {R:Unit->Heap->Nat->Prop} {x dx C D a:Addr} {o:Obj} {ns':List Str} {ws ws':List (Option Value)} {k n:Nat} {u:Value} {u':Obj->bu} {b:Addr×Obj} {W T I:bu} {tk:Tok} {value slice:Expr} {K:Frag}
theorem D7 (H:At c ns vs l h) (hm:In (a,aL xs n) l) (hk:(decide (0≤i)&&decide (i<2 ^ 63))=true) (hx:xs[i.toNat]?=some v) (hs:subscripted slice false (.ref a) (.int i tk)=operate [.ref a,.int i tk] (getItem (.ref a) (.int i tk))) (q:Q v h t):
  Wp c (subscriptTail value slice (.ref a) (.int i tk)) Q h t:=PD H.N hm hk hx (aJ q) hs
theorem Xb0 (O:Ok c nn sc ns) (H:At c ns vs (Lg b W T I) h) (q:∀D h',(D==sysModules)=false->At c ns vs (Lg b W T ((D,dictOf [] 0)::I)) h'->Q (.ref D) h' t):Wp c (eval (.Dict [] [] pos) env) Q h t:=
 sy H.F H.N H.k O.T λD h' d f e a=>aJ (q D h' d ⟨f,e,a⟩)
theorem A9 (H:At c ns vs l h) (U:∀o',dC a (aL xs n) o' l (u' o')) (hk:(decide (0≤i)&&decide (i<2 ^ 63)&&decide (i.toNat<xs.length))=true) (q:∀h',At c ns vs (u' (aL (xs.set i.toNat v) n)) h'->R () h' t):
  Wp c (setItem (.ref a) (.int i tk) v) R h t:=tY H.F H.N H.k U hk λh' d e b=>aJ (q h' ⟨d,e,b⟩)
theorem wr (H:At c ns vs (Lg b W T I) h) (im:In (a,aL xs kk) (Lg b W T I)) (hz:xs.length≤10000) (q:∀D e h',At c ns vs (Lg b W T ((D,aL xs e)::I)) h'->Q (.ref D) h' t):Wp c (call (.type "list") [.ref a]) Q h t:=
 IP H.F H.N H.k im hz λD e h' g f d=>aJ (q D e h' ⟨g,f,d⟩)
variable {QF:Flow->Heap->Nat->Prop} {nm n1 n2 n3:Str} {tk':Tok} {p1 p3 tpos:Pos} {ix:Expr} {elts:List Expr} {rest:List Stmt} {y:Value} {ys:List Value} {z':Str} {kvs:List (Str×Value)} {pl:Sem Bool} {QM:Value×List Value->Heap->Nat->Prop} {cells:List (Str×Addr)}
theorem sG (hs:swapsWithSole [.Tuple elts kt tpos] value pos.line env=pure false) (hw:swappedStores [.Tuple elts kt tpos] value env=pure none)
  (q:Wp c (eval value env) (λv h t=>Wp c (assign (.Tuple elts kt tpos) env v) (λZ h t=>Wp c (execs rest env) QF h t) h t) h t):Wp c (execs (.Assign [.Tuple elts kt tpos] value pos::rest) env) QF h t:=
 cf (Assign_Tuple (q.go λv h t y=>y.go λZ h t y=>aJ y) hs hw)
theorem tI (O:Ok c nn sc ns) (H:At c ns vs l h) (hm:In (a,cR xs) l) (hn:(assignEach elts env).length=xs.length) (hs:(assignEach elts env).findIdx? (·.1)=none)
  (q:∀h',At c ns vs l h'->Wp c (assignInOrder ((assignEach elts env).map (·.2)) xs) R h' t):Wp c (assign (.Tuple elts kt pos) env (.ref a)) R h t:=
 uW H.F H.N hm O.hh hn hs λh' d b=>(q h' ⟨d,b,H.k⟩).go λZ h t y=>aJ y
theorem yB (q:R () h t):Wp c (assignInOrder ((assignEach [] env).map (·.2)) []) R h t:=Cj (aJ q)
theorem rJ (he:assignEach (e::elts) env=(false,assign e env)::assignEach elts env) (q:Wp c (assign e env y) (λZ h t=>Wp c (assignInOrder ((assignEach elts env).map (·.2)) ys) R h t) h t):
  Wp c (assignInOrder ((assignEach (e::elts) env).map (·.2)) (y::ys)) R h t:=xT (q.go λZ h t y=>y) he
theorem nA (q:Wp c (storeName env nm v) R h t):Wp c (assign (.Name nm pos) env v) R h t:=mM q
theorem Ay (q:Wp c (eval e env) (λov h t=>Wp c (eval ix env) (λiv h t=>Wp c (setItem ov iv v) R h t) h t) h t):Wp c (assign (.Subscript e ix pos) env v) R h t:=pX (q.go λv h t y=>y.go λv h t y=>y)
theorem DW (hs:swapsWithSole [.Tuple [.Name n1 p1,.Name n2 p2] kt tpos] value pos.line env=pure false) (hw:swappedStores [.Tuple [.Name n1 p1,.Name n2 p2] kt tpos] value env=pure (some [n1,n2]))
  (q:Wp c (eval value env) (λv h t=>Wp c (unpackItems v [n1,n2].length none) (λitems h t=>Wp c (assignInOrder ([n1,n2].reverse.map λn=>bindName env n) items.reverse) (λZ h t=>Wp c (execs rest env) QF h t) h t) h t) h t):
  Wp c (execs (.Assign [.Tuple [.Name n1 p1,.Name n2 p2] kt tpos] value pos::rest) env) QF h t:=cf (MB (q.go λv h t y=>y.go λv h t y=>y.go λZ h t y=>aJ y) hs hw)
theorem vL (hs:swapsWithSole [.Tuple [.Name n1 p1,.Name n2 p2,.Name n3 p3] kt tpos] value pos.line env=pure false) (hw:swappedStores [.Tuple [.Name n1 p1,.Name n2 p2,.Name n3 p3] kt tpos] value env=pure (some [n1,n2,n3]))
  (q:Wp c (eval value env) (λv h t=>Wp c (unpackItems v [n1,n2,n3].length none) (λitems h t=>Wp c (assignInOrder ([n1,n2,n3].reverse.map λn=>bindName env n) items.reverse) (λZ h t=>Wp c (execs rest env) QF h t) h t) h t) h t):
  Wp c (execs (.Assign [.Tuple [.Name n1 p1,.Name n2 p2,.Name n3 p3] kt tpos] value pos::rest) env) QF h t:=cf (Ct (q.go λv h t y=>y.go λv h t y=>y.go λZ h t y=>aJ y) hs hw)
theorem tz {m:Nat} {QL:List Value->Heap->Nat->Prop} (O:Ok c nn sc ns) (H:At c ns vs l h) (hm:In (a,cR xs) l) (hz:m=xs.toArray.size) (q:∀h',At c ns vs l h'->QL xs h' t):Wp c (unpackItems (.ref a) m none) QL h t:=by
 subst hz;refine unpackItems_tuple (s:=⟨h,c.gn,c.d,t,c.os⟩) (items:=xs.toArray) O.hh (gh H.N hm) λh' d=>?_;exact aJ (q h' ⟨H.F.extBut d (Xy _),λp b=>⟨d _ _ (XC (Xe (H.N p b).1)) (H.N p b).1,(H.N p b).2⟩,H.k⟩)
theorem EA {v1 v2:Value} (q:Wp c (storeName env n2 v2) (λZ h t=>Wp c (storeName env n1 v1) R h t) h t):Wp c (assignInOrder ([n1,n2].reverse.map λn=>bindName env n) [v1,v2].reverse) R h t:=by
 refine Yv (YV (q.go λZ h t z=>?_));exact Yv (YV (z.go λZ h t z=>W1 (aJ z)))
theorem DS {v1 v2 v3:Value} (q:Wp c (storeName env n3 v3) (λZ h t=>Wp c (storeName env n2 v2) (λZ h t=>Wp c (storeName env n1 v1) R h t) h t) h t):Wp c (assignInOrder ([n1,n2,n3].reverse.map λn=>bindName env n) [v1,v2,v3].reverse) R h t:=by
 refine Yv (YV (q.go λZ h t z=>?_));refine Yv (YV (z.go λZ h t z=>?_));exact Yv (YV (z.go λZ h t z=>W1 (aJ z)))
theorem Ev {u u':Tok} (q:Q (.bool true) h t):Wp c (compareOp .Eq (.str z u) (.str z u')) Q h t:=zX (aJ q)
theorem F8 {u u':Tok} (e:(z.cps.toList==z'.cps.toList)=false) (q:Q (.bool false) h t):Wp c (compareOp .Eq (.str z u) (.str z' u')) Q h t:=Aw e (aJ q)
theorem GG {u u':Tok} (q:Q (.bool false) h t):Wp c (compareOp .NotEq (.str z u) (.str z u')) Q h t:=DQ (aJ q)
theorem Aq {u u':Tok} (e:(z.cps.toList==z'.cps.toList)=false) (q:Q (.bool true) h t):Wp c (compareOp .NotEq (.str z u) (.str z' u')) Q h t:=ES e (aJ q)
theorem Fw {u u':Tok} (h1:z.length≤50000) (h2:z'.length≤50000) (q:∀t' tk,Q (.str (z++z') t') h tk):Wp c (binaryOp .Add (.str z u) (.str z' u')) Q h t:=Ea h1 h2 λt' tk=>aJ (q t' tk)
theorem sI (H:At c ns vs l h) (im:In (a,o) l) (Dd:SD PP w o kvs) (q:QM (.builtin "dict.get",[.ref a]) h t):Wp c (getMethod (.ref a) "get" pl) QM h t:=Dj H.N im Dd (aJ q)
theorem I6 (H:At c ns vs l h) (im:In (a,o) l) (Dd:SD PP w o kvs) (lo:(a==sysModules)=false) (e:valueAt kvs z=none) (q:Q (.bool false) h (t+1)):Wp c (compareOp .In (.str z tk) (.ref a)) Q h t:=XcE H.N im Dd lo e (aJ q)
theorem sf (H:At c ns vs l h) (Dd:SD PP w o kvs) (hz:kvs.length≤1000) (U:∀o',dC a o o' l (u' o')) (q:∀o' h',SD PP w o' (stored kvs z v)->At c ns vs (u' o') h'->R () h' (t+1)):Wp c (setItem (.ref a) (.str z tk) v) R h t:=
 Xbp H.F H.N H.k Dd hz U λo' h' e f d b=>aJ (q o' h' e ⟨f,d,b⟩)
theorem xA (O:Ok c nn sc ns) (H:At c ns vs l h) (e:(cI (HK w.params) a "").isSome=true) (q:QM (.builtin "dict.get",[.ref a]) h t):Wp c (getMethod (.ref a) "get" pl) QM h t:=Cn H.F O.X e (aJ q)
theorem vA (O:Ok c nn sc ns) (H:At c ns vs l h) (e:cI (HK w.params) a z=some (some v)) (hs:subscripted slice false (.ref a) (.str z tk)=operate [.ref a,.str z tk] (getItem (.ref a) (.str z tk))) (hg:∀r,letTemporaryGo value (.ref a) r=pure ()) (q:Q v h (t+1)):
  Wp c (subscriptTail value slice (.ref a) (.str z tk)) Q h t:=My H.F O.X e (aJ q) hs hg
theorem KI {dflt:Value} (O:Ok c nn sc ns) (H:At c ns vs l h) (e:cI (HK w.params) a z=some none) (q:Q dflt h (t+1)):Wp c (call (.builtin "dict.get") [.ref a,.str z tk,dflt]) Q h t:=DY H.F O.X e (aJ q)
theorem Kl {dflt:Value} (O:Ok c nn sc ns) (H:At c ns vs l h) (e:cI (HK w.params) a z=some (some v)) (q:Q v h (t+1)):Wp c (call (.builtin "dict.get") [.ref a,.str z tk,dflt]) Q h t:=As H.F O.X e (aJ q)
theorem sJ {b:Bool} (O:Ok c nn sc ns) (H:At c ns vs l h) (e:((fv (HK w.params) a).map λys=> !(ys.any (·==z)))=some b) (q:Q (.bool b) h t):Wp c (compareOp .NotIn (.str z tk) (.ref a)) Q h t:=F0 H.F O.X e (aJ q)
theorem SP (O:Ok c nn sc ns) (H:At c ns vs l h) (i1:In (x,instObj C dx) l) (i2:In (dx,o) l) (cc:isIn (HK w.params) (.ref C) C=true) (q:Q (.bool true) h t):Wp c (call (.builtin "isinstance") [.ref x,.ref C]) Q h t:=Xb4 H.F O.X H.N i1 i2 cc (aJ q)
theorem KA (O:Ok c nn sc ns) (H:At c ns vs l h) (i1:In (x,instObj D dx) l) (i2:In (dx,o) l) (cc:(kin_not (HK w.params) D C&&fH (HK w.params) D)=true) (q:Q (.bool false) h (t+1)):Wp c (call (.builtin "isinstance") [.ref x,.ref C]) Q h t:=Xbo H.F O.X H.N i1 i2 cc (aJ q)
theorem Ad {Ty:String} (O:Ok c nn sc ns) (H:At c ns vs l h) (i1:In (x,instObj D dx) l) (i2:In (dx,o) l) (ty:typeOf (.type Ty)=pure (.type "type")) (cc:(kin_notT (HK w.params) D Ty&&fH (HK w.params) D)=true) (q:Q (.bool false) h (t+1)):
  Wp c (call (.builtin "isinstance") [.ref x,.type Ty]) Q h t:=Qd H.F O.X H.N i1 i2 ty cc (aJ q)
theorem uF (O:Ok c nn sc ns) (H:At c ns vs l h) (cc:isNotIn (HK w.params) "int" C=true) (q:Q (.bool false) h (t+1)):Wp c (call (.builtin "isinstance") [.int i tk,.ref C]) Q h t:=Db H.F O.X cc (aJ q)
theorem xc (O:Ok c nn sc ns) (H:At c ns vs l h) (cc:isNotIn (HK w.params) "str" C=true) (q:Q (.bool false) h (t+1)):Wp c (call (.builtin "isinstance") [.str z tk,.ref C]) Q h t:=CW H.F O.X cc (aJ q)
variable {bb:Bool}
theorem ue (O:Ok c nn sc ns) (H:At c ns vs l h) (cc:isNotIn (HK w.params) "bool" C=true) (q:Q (.bool false) h (t+1)):Wp c (call (.builtin "isinstance") [.bool bb,.ref C]) Q h t:=vz H.F O.X cc (aJ q)
theorem rG (O:Ok c nn sc ns) (H:At c ns vs l h) (cc:isNotIn (HK w.params) "NoneType" C=true) (q:Q (.bool false) h (t+1)):Wp c (call (.builtin "isinstance") [.none,.ref C]) Q h t:=wP H.F O.X cc (aJ q)
theorem LA (q:Q (.bool false) h (t+1)):Wp c (call (.builtin "isinstance") [.int i tk,.type "bool"]) Q h t:=IsiPair.int_bool (aJ q)
theorem HQ (q:Q (.bool true) h t):Wp c (call (.builtin "isinstance") [.int i tk,.type "int"]) Q h t:=IsiPair.int_int (aJ q)
theorem Ke (q:Q (.bool false) h (t+1)):Wp c (call (.builtin "isinstance") [.int i tk,.type "str"]) Q h t:=IsiPair.int_str (aJ q)
theorem Uz (q:Q (.bool true) h t):Wp c (call (.builtin "isinstance") [.bool bb,.type "bool"]) Q h t:=IsiPair.bool_bool (aJ q)
theorem Uu (q:Q (.bool true) h t):Wp c (call (.builtin "isinstance") [.bool bb,.type "int"]) Q h t:=IsiPair.bool_int (aJ q)
theorem Mk (q:Q (.bool false) h (t+1)):Wp c (call (.builtin "isinstance") [.bool bb,.type "str"]) Q h t:=IsiPair.bool_str (aJ q)
theorem MT (q:Q (.bool false) h (t+1)):Wp c (call (.builtin "isinstance") [.str z tk,.type "bool"]) Q h t:=IsiPair.str_bool (aJ q)
theorem JX (q:Q (.bool false) h (t+1)):Wp c (call (.builtin "isinstance") [.str z tk,.type "int"]) Q h t:=IsiPair.str_int (aJ q)
theorem Rm (q:Q (.bool true) h t):Wp c (call (.builtin "isinstance") [.str z tk,.type "str"]) Q h t:=IsiPair.str_str (aJ q)
theorem PT (q:Q (.bool false) h (t+1)):Wp c (call (.builtin "isinstance") [.none,.type "bool"]) Q h t:=IsiPair.NoneType_bool (aJ q)
theorem Tf (q:Q (.bool false) h (t+1)):Wp c (call (.builtin "isinstance") [.none,.type "int"]) Q h t:=IsiPair.NoneType_int (aJ q)
theorem IK (q:Q (.bool false) h (t+1)):Wp c (call (.builtin "isinstance") [.none,.type "str"]) Q h t:=IsiPair.NoneType_str (aJ q)
theorem Cv {f:Value} (O:Ok c nn sc ns) (H:At c ns vs l h) (e:findCls (HK w.params) (.ref C) (.type "type") name=some (.val f))
  (cc:(specialIn (HK w.params) (.ref C) "__getattribute__"==some (some (.builtin "type.__getattribute__"))&&typeIn (HK w.params) (.ref C)==some (.type "type")&&readsIn (HK w.params) C (.type "type")&&handedIn f)=true) (q:QM (f,[]) h (t+1)):Wp c (getMethod (.ref C) name pl) QM h t:=
 VM H.F O.X e cc (aJ q)
theorem QU (H:At c ns vs l h) (Ka:cV env nm a) (im:In (a,o) l) (Dd:ff o (some v)) (hd:(!(nm==("__debug__":Str)))=true) (q:Q v h t):Wp c (eval (.Name nm pos) env) Q h t:=um H.N Ka im Dd hd (aJ q)
theorem Tj {v₀:Option Value} (H:At c ns vs l h) (Ka:cV env nm a) (Dd:ff o v₀) (U:∀o',dC a o o' l (u' o')) (q:∀o' h',ff o' (some v)->At c ns vs (u' o') h'->R () h' t):Wp c (storeName env nm v) R h t:=
 GV H.F H.N H.k Ka Dd U λo' h' e f d b=>aJ (q o' h' e ⟨f,d,b⟩)
theorem TL (H:At c ns vs l h) (im:In (a,o) l) (Dd:pn o nm v) (hb:(scope.kind== .function&&(relabel scope env).names.lookup nm==some .local&& !(nm==("__debug__":Str)))=true) (q:Q v h t):Wp c (eval (.Name nm pos) (compEnvC scope cells a env)) Q h t:=OG H.N im Dd hb (aJ q)
theorem Sd {cl:List (Str×Addr)} (H:At c ns vs l h) (ok:df scope env cl) (Ka:cV env nm a) (im:In (a,o) l) (Dd:ff o (some v)) (hb:(scope.names.lookup nm==some .free&& !(nm==("__debug__":Str)))=true) (q:Q v h t):
  Wp c (eval (.Name nm pos) (compEnvC scope cl D env)) Q h t:=Dx H.N ok Ka im Dd hb (aJ q)
def Eo (c:Cf w) (h:Heap) (m:Sem α) (t:Nat) (a:α) (t':Nat):Prop:=∀Q:α->Heap->Nat->Prop,Q a h t'->Wp c m Q h t
@[reducible] noncomputable def Cf.wE (c:Cf w) (E':Value->Shared->Prop):Cf w:={c with E:=E'}
theorem Ok.wE (O:Ok c nn sc ns) (E':Value->Shared->Prop):Ok (c.wE E') nn sc ns:=⟨O.S,O.G,O.hA,O.hh,O.rm,O.B,O.X,O.T,O.XB,O.TB⟩
def Rc (c:Cf w) (env:Env) (e:Expr) (scope:Scope) (cl:List (Str×Addr)) (Q:Value->Heap->Nat->Prop) (it:Value) (h:Heap) (t:Nat):Prop:=ub (model PP w) c.A c.E env e scope cl (lf c Q) it ⟨h,c.gn,c.d,t,c.os⟩
variable {x:Str} {elt iter test:Expr} {ifs:List Expr} {cl:List (Str×Addr)}
def Wh (c:Cf w) (env:Env) (test:Expr) (body:List Stmt) (Q:Flow->Heap->Nat->Prop) (h:Heap) (t:Nat):Prop:=HG PP w c.A c.E env test body (lf c Q) ⟨h,c.gn,c.d,t,c.os⟩
def WhQ (c:Cf w) (env:Env) (test:Expr) (body:List Stmt) (Q:Flow->Heap->Nat->Prop) (f:Flow) (h:Heap) (t:Nat):Prop:=match f with
 |.next=>Wh c env test body Q h t
 |.cont=>Wh c env test body Q h t
 |.brk=>Q .next h t
 |.ret v=>Q (.ret v) h t
theorem Oq (q:Wh c env test body (Nx c rest env QF) h t):Wp c (execs (.While test body [] pos::rest) env) QF h t:=cf (Xbr q)
def FoG (c:Cf w) (env:Env) (target:Expr) (body:List Stmt) (Q:Flow->Heap->Nat->Prop) (it:Value) (h:Heap) (t:Nat):Prop:=yK PP w c.A c.E env target body (lf c Q) it ⟨h,c.gn,c.d,t,c.os⟩
theorem UR {target:Expr} (hs:∀x,foldedSetIterable iter env x=pure x) (q:Wp c (eval iter env) (λxv h t=>Wp c (pyIter xv) (λit h t=>FoG c env target body (Nx c rest env QF) it h t) h t) h t):Wp c (execs (.For target iter body [] pos::rest) env) QF h t:=
 cf (Xfa (q.go λv h t y=>y.go λit h t y=>y) hs)
end
structure uh (h:Heap) (e:Addr) (cl:Value) (dc:Option Addr) (T:Addr) (fl:Value):Prop where
 ex:∃oe vs,h.get? e=some oe∧oe.cls=cl∧oe.dict=dc∧oe.data=.fields vs∧vs[1]?=some (.ref T)
 ne:T≠e
 tb:∃oT ts,h.get? T=some oT∧oT.data=.fields ts∧ts[3]?=some fl
structure Lv (fs:List Addr) (e T₀:Addr) (cl:Value) (dc:Option Addr) (fl:Value) (h h':Heap):Prop where
 sz:h.objs.size≤h'.objs.size
 oth:∀b o,h.get? b=some o->b∉fs->b≠e->b≠T₀->h'.get? b=some o
 frm:∀b o,h.get? b=some o->b∈fs->b≠e->b≠T₀->∃sl,h'.get? b=some {o with slots:=sl}
 exn:∃T,h.objs.size≤T∧uh h' e cl dc T fl
section
variable {M:Model} {A:Around} {E:Value->Shared->Prop} {s:Shared}
theorem fU (f:Array Value->Array Value) (o:Obj):(o.mapFields f).dict=o.dict:=by
 obtain⟨_,_,a,_⟩:=o;cases a<;>rfl
variable {base:Heap} {env:Env} {outer:List Env} {L e:Addr} {oe:Obj} {vs:Array Value} {Q:Unit->Shared->Prop}
theorem jB {head:Value} {hadNext:Bool}
  (hfr:A.frames=some (env::outer)) (hl:s.heap.FunFrames base (env::outer)) (hf:env.frame=some L)
  (he:s.heap.get? e=some oe) (hd:oe.data=.fields vs) (hsz:1<vs.size)
  (h:∀h',Lv ((env::outer).filterMap (·.frame)) e e oe.cls oe.dict (rawInt L) s.heap h'->Q () {s with heap:=h'}):
  wpAny M A (do let a ←frameOf env;let pl ←entryPlaceOf L hadNext;let b ←EntryCells.newEntry head a .none (rawInt L) .none pl;setField (.ref e) 1 b) Q E s:=by
 have p:e∉(env::outer).filterMap (·.frame):=λq=>by
  obtain⟨_,o,r,t⟩:=hl.mem q;rw[he]at r;injection r with r;subst r;exact t vs hd
 refine WV (wpAny_frameOf_fun hfr hl hf λc d=>?_);refine WV (wpAny_entryPlaceOf λpl m=>?_);refine WV (wpAny_newObj_type ?_ (m.sizeOk5 _ _ _ _ _));have i:c.get? e=some oe:=(d.2.1 e p).trans he;have j:=Xp (h:=c) {cls:=.type "traceback",dict:=none,data:=.fields ([head,.ref L,.none,rawInt L,.none]++(if pl.isEmpty then List.replicate 6 Value.none else pl)).toArray} i;refine Zd j hd hsz (h _ ?_);have n:c.objs.size≠e:=Zc (Xe i);have g:=YL hd (·.setIfInBounds 1 (Value.ref c.objs.size));have k:=(XR (c.push {cls:=.type "traceback",dict:=none,data:=.fields ([head,.ref L,.none,rawInt L,.none]++(if pl.isEmpty then List.replicate 6 Value.none else pl)).toArray})
  (Obj.mapFields (·.setIfInBounds 1 (Value.ref c.objs.size))) (Ne.symm n)).trans (XN c rfl)
 have keep:∀b o,b≠e->c.get? b=some o->
   ((c.push {cls:=.type "traceback",dict:=none,data:=.fields ([head,.ref L,.none,rawInt L,.none]++(if pl.isEmpty then List.replicate 6 Value.none else pl)).toArray}).update e (Obj.mapFields (·.setIfInBounds 1 (Value.ref c.objs.size)))).get? b=some o:=
  λb o f l=>by
   rw[XR _ _ (Ne.symm f)];exact Xp _ l
 refine⟨?_,λb o l q f Z=>keep b o f ((d.2.1 b q).trans l),λb o l q f Z=>?_,c.objs.size,Yd d.1.symm,I25 _ _ (Yj (Obj.mapFields (·.setIfInBounds 1 (Value.ref c.objs.size))) j (YR g)) (Obj.cls_mapFields _ _) (fU _ _) g (by simp[hsz]),n,_,_,k,rfl,by first|(rfl;done)|(rcases m with rfl|⟨_,_,_,_,_,_,_,rfl⟩<;>simp)⟩
 ·rw[X5]
  have:(c.push {cls:=.type "traceback",dict:=none,data:=.fields ([head,.ref L,.none,rawInt L,.none]++(if pl.isEmpty then List.replicate 6 Value.none else pl)).toArray}).objs.size=c.objs.size+1:=by simp
  rw[this,d.1];exact Zt _
 ·obtain⟨u,v⟩:=d.2.2 b o l
  exact⟨u,keep b _ f v⟩
theorem iG
  (hfr:A.frames=some (env::outer)) (hl:s.heap.FunFrames base (env::outer)) (hf:env.frame=some L)
  (he:s.heap.get? e=some oe) (hd:oe.data=.fields vs) (h1:vs[1]?=some .none)
  (h:∀h',Lv ((env::outer).filterMap (·.frame)) e e oe.cls oe.dict (rawInt L) s.heap h'->Q () {s with heap:=h'}):wpAny M A (noteFrame (.ref e) env) Q E s:=by
 dsimp only[noteFrame];simp only[hf];refine WV (YJ he hd h1 ?_);rw[Xh (by decide)];exact jB hfr hl hf he hd (XV.mp h1).1 h
variable {T:Addr} {cl:Value} {dc:Option Addr}
theorem jn
  (hfr:A.frames=some (env::outer)) (hl:s.heap.FunFrames base (env::outer)) (hf:env.frame=some L) (hx:uh s.heap e cl dc T .none)
  (h:∀h',Lv ((env::outer).filterMap (·.frame)) e T cl dc (rawInt L) s.heap h'->Q () {s with heap:=h'}):wpAny M A (noteFrame (.ref e) env) Q E s:=by
 obtain⟨⟨m,vs,k,rfl,rfl,hd,h1⟩,hTe,oT,ts,hT,hdT,h3⟩:=hx;dsimp only[noteFrame];simp only[hf];refine WV (YJ k hd h1 ?_);rw[Xn (show(Value.ref T !=Value.none)=true from by rfl)];refine WV (YJ hT hdT h3 ?_);rw[Xh (show¬((Value.none==rawInt L)=true) from by simp[rawInt])];refine WV (Zd hT hdT (XV.mp h3).1 ?_);have a:∀b,b≠T->(s.heap.update T (Obj.mapFields (·.setIfInBounds 3 Value.none))).get? b=s.heap.get? b:=λb c=>XR _ _ (Ne.symm c);have d:∀b o,s.heap.get? b=some o->(∀vs,o.data≠ .fields vs)->b≠T:=λb o c i q=>by
  rw[q,hT]at c;injection c with c;subst c;exact i ts hdT
 refine jB hfr (hl.of_keeps λb o c i=>⟨o,(a b (d b o c i)).trans c,rfl⟩) hf ((a e (Ne.symm hTe)).trans k) hd (XV.mp h1).1 λh' x=>h h' ?_;have l:(s.heap.update T (Obj.mapFields (·.setIfInBounds 3 Value.none))).objs.size=s.heap.objs.size:=X5 ..;refine⟨by rw[←l];exact x.sz,λb o c j f g=>x.oth b o ((a b g).trans c) j f f,λb o c j f g=>x.frm b o ((a b g).trans c) j f f,?_⟩;have z:=x.exn;rw[l]at z;exact z
theorem eH {cl fl:Value} (hx:uh s.heap e cl dc T fl)
  (h:∀h',h'.objs.size=s.heap.objs.size->(∀b,b≠T->h'.get? b=s.heap.get? b)->uh h' e cl dc T .none->Q () {s with heap:=h'}):wpAny M A (setFlight (.ref e) none) Q E s:=by
 obtain⟨⟨p,vs,k,q,i,l,m⟩,g,t,n,j,d,r⟩:=hx;have c:3<n.size:=(XV.mp r).1;have a:∀b,b≠T->(s.heap.update T (Obj.mapFields (·.setIfInBounds 3 ((none:Option Addr).elim Value.none λf=>rawInt f)))).get? b=s.heap.get? b:=
  λb o=>XR _ _ (Ne.symm o)
 refine WV (YJ k l m ?_);rw[Xn (show(Value.ref T !=Value.none)=true from by rfl)];refine Zd j d c (h _ (X5 ..) a ?_);exact⟨I25 p vs ((a e (Ne.symm g)).trans k) q i l m,g,_,_,Yj _ j (YR (YL d _)),YL d _,by simp[c]⟩
theorem Lv.land {fs:List Addr} {e T₀ T:Addr} {cl fl:Value} {h h₁ h':Heap} (x:Lv fs e T₀ cl dc fl h h₁) (hT:h.objs.size≤T) (hs:h'.objs.size=h₁.objs.size) (o:∀b,b≠T->h'.get? b=h₁.get? b) (y:uh h' e cl dc T .none):Lv fs e T₀ cl dc .none h h':=by
 have f:∀b o,h.get? b=some o->b≠T:=λb o q z=>by rw[z]at q;exact absurd (Xe q) (YM.mpr hT)
 exact⟨by rw[hs];exact x.sz,λb a q m c d=>(o b (f b a q)).trans (x.oth b a q m c d),λb a q m c d=>let ⟨sl,z⟩:=x.frm b a q m c d;⟨sl,(o b (f b a q)).trans z⟩,T,hT,y⟩
theorem l7
  (hfr:A.frames=some (env::outer)) (hl:s.heap.FunFrames base (env::outer)) (hf:env.frame=some L)
  (he:s.heap.get? e=some oe) (hd:oe.data=.fields vs) (h1:vs[1]?=some .none)
  (h:∀h',Lv ((env::outer).filterMap (·.frame)) e e oe.cls oe.dict .none s.heap h'->Q () {s with heap:=h'}):wpAny M A (leaving env (.ref e)) Q E s:=by
 unfold leaving;refine WV (iG hfr hl hf he hd h1 λa x=>?_);refine bn x.exn λT b y=>?_;exact eH y λh' c o z=>h h' (x.land b c o z)
theorem mU
  (hfr:A.frames=some (env::outer)) (hl:s.heap.FunFrames base (env::outer)) (hf:env.frame=some L) (hx:uh s.heap e cl dc T .none)
  (h:∀h',Lv ((env::outer).filterMap (·.frame)) e T cl dc .none s.heap h'->Q () {s with heap:=h'}):wpAny M A (leaving env (.ref e)) Q E s:=by
 unfold leaving;refine WV (jn hfr hl hf hx λa x=>?_);refine bn x.exn λT b y=>?_;exact eH y λh' c o z=>h h' (x.land b c o z)
open Builtin Builtin.ObjectAttr
noncomputable def d8 (K:Frag) (C:Addr):Bool:=match K.lookup C with
 |some ⟨_,_,.cls cd,sl⟩=> !cd.abstract&& !cd.hasDel&&(sl.toList[4]?).join==some (.builtin "ValueError.__new__")&& !cd.mro.isEmpty&&cd.mro.contains (.ref C)&&cd.mro.contains (.type "ValueError")&&
   !cd.mro.contains (.type "AttributeError")&& !cd.mro.contains (.type "NameError")&&
   specialIn K (.ref C) "__call__"==some (some (.builtin "type.__call__"))&&instIn K (.ref C) (.type "type")==some true
 |_=>false
end
section
open Builtin Builtin.ObjectAttr
structure iA (M:Model) (h:Heap) (C:Addr):Prop where
 obj:∃oc od cd sl,h.get? C=some ⟨oc,od,.cls cd,sl⟩∧cd.abstract=false∧cd.hasDel=false∧cd.mro.isEmpty=false
 made:Looks M h (Bind.madeBy (.ref C)) (some "ValueError.__new__")
 base:Looks M h (Bind.staticBase (.ref C)) (.ref C)
 self:Looks M h (isSubtype (.ref C) (.ref C)) true
 top:Looks M h (isSubtype (.ref C) (.type "ValueError")) true
 noA:Looks M h (isSubtype (.ref C) (.type "AttributeError")) false
 noN:Looks M h (isSubtype (.ref C) (.type "NameError")) false
 call:Looks M h (specialOf (.ref C) "__call__") (some (.builtin "type.__call__"))
 typ:Looks M h (isInstance (.ref C) (.type "type")) true
set_option tactic.hygienic true in
theorem qb {K:Frag} {M:Model} {h:Heap} (X:K.In h) {C:Addr} (e:d8 K C=true):iA M h C:=by
 unfold d8 at e;split at e
 ·rename_i oc od cd sl ho
  simp only[WU,Xj,Xu]at e;obtain⟨⟨⟨⟨⟨⟨⟨⟨⟨v,x⟩,t⟩,d⟩,p⟩,w⟩,g⟩,i⟩,u⟩,o⟩:=e;have m:clsIn K C=some cd:=by unfold clsIn;rw[ho]
  have j:Looks M h (mroOf (.ref C)) cd.mro:=(ZZ X m).andThen .now;obtain⟨c,l,n⟩:∃c l,cd.mro=c::l:=by cases q:cd.mro with|nil=>rw[q]at d;cases d|cons c l=>exact(qU c l rfl)
  have a:Looks M h (Bind.madeBy (.ref C)) (some "ValueError.__new__"):=by
   intro A Q E s k q;refine WV (j A _ E s k ?_);rw[n,Zw];refine WV (WV (WV (WV (Ze (k _ _ (X _ _ ho)) (W1 ?_)))));rw[←Zj,t];exact W1 (W1 (W1 q))
  have f:∀b r,cd.mro.contains b=r->Looks M h (isSubtype (.ref C) b) r:=λb r q=>looks_mroIn X (by unfold mroIn;rw[m,Option.bind_some,Xh (by rw[d];decide),q]);refine⟨Tu oc od cd sl (X _ _ ho) v x d,a,?_,f _ _ p,f _ _ w,f _ _ g,f _ _ i,looks_specialIn X u,looks_instIn X o⟩
  ·intro A Q E s k q
   refine WV (j A _ E s k ?_);rw[n,Zw];exact WV (WV (WV (a A _ E s k (W1 (W1 (W1 q))))))
 ·exact ch e
noncomputable abbrev ka (C t:Addr):Obj:={cls:=.ref C,data:=.fields #[.ref t,.none,.none,.none,.bool false,.none]}
noncomputable abbrev lD (xs:List Value):Obj:={cls:=.type "tuple",data:=.seq xs.toArray}
variable {prog:Program} {w:World} {A:Around} {K:Frag} {C:Addr} {R:Result->Shared->Prop} {E:Value->Shared->Prop} {h:Heap} {g:Array GenState} {d:Drawn} {t:Nat} {os:OsState} {rest:List Value} {Q:Unit->Shared->Prop}
theorem nK (Y:iA (model prog w) h C) (q:Q () ⟨h,g,d,t,os⟩):wpAny (model prog w) A (checkBuiltinCall "ValueError.__new__" ⟨.ref C::rest,[]⟩) Q E ⟨h,g,d,t,os⟩:=by
 obtain⟨⟨m,o,cd,r,s,l,n,p⟩,b,e,a,f,i,k,c,j⟩:=Y;simp only[checkBuiltinCall,XK.newKind,XK.newSplit,XK.newRow]
 repeat (first|simp only[Zf,Xz,Yu,hstar,ZO]|lk)
 exact q
theorem Xfi (Y:iA (model prog w) h C) (hr:rest.length≤1000)
  (hq:R (.ok (.ret (.ref (h.objs.size+1)))) ⟨(h.push (lD rest)).push (ka C h.objs.size),g,d,t,os⟩):
  codeAny (model prog w) A (.builtin "ValueError.__new__" ⟨.ref C::rest,[]⟩) R ⟨h,g,d,t,os⟩:=by
 obtain⟨⟨y,x,cd,u,l,v,r,s⟩,f,j,e,q,k,o,i,m⟩:=Y;have b:=XK.ends;refine PySem.codeAny_builtinAt XK.entry ?_;refine PySem.wpAt_bind ?_;refine PySem.wpAt_bind (PySem.wpAt_stack λp a=>PySem.wpAt_of_wpAny ?_)
 wp_walk
 refine PySem.wpAt_of_wpAny ?_;rw[XK.owner]
 repeat (first|simp only[Zf,Xz,Yu,ZO,Zn]|lk)
 rw[Xh (by rw[Xq];exact YM.mpr (by rw[XI];exact Z1 hr:rest.length≤sizeLine))];have c:=Xp (lD rest) l;have n:=Xp (ka C h.objs.size) c
 repeat (first|simp only[r,Zf,Xz,Yu,ZO,Zn]|lk)
 rw[Heap.size_push];exact hq
theorem Q9 (Y:iA (model prog w) h C) (hr:rest.length≤1000)
  (hq:R (.ok (.ret (.ref (h.objs.size+1)))) ⟨(h.push (lD rest)).push (ka C h.objs.size),g,d,t,os⟩):
  codeAny (model prog w) A (.call (.builtin "ValueError.__new__") ⟨.ref C::rest,[]⟩) R ⟨h,g,d,t,os⟩:=
 codeAny_call_builtin_code (Code.quiet_builtin _ XK.quiet) (nK Y (Xfi Y hr hq))
theorem na {init:Value} (Y:iA (model prog w) h C) (hi:Looks (model prog w) h (typeLookup (.ref C) "__init__") (some init))
  (hb:∀self,Looks (model prog w) h (bindSpecial init self) (init,[self])) (hr:rest.length≤1000)
  (hq:codeAny (model prog w) (A.under (.builtin "type.__call__" ⟨.ref C::rest,[]⟩)) (.call init ⟨.ref (h.objs.size+1)::rest,[]⟩) (InitBack (h.objs.size+1) R) ⟨(h.push (lD rest)).push (ka C h.objs.size),g,d,t,os⟩):
  codeAny (model prog w) A (.call (.ref C) ⟨rest,[]⟩) R ⟨h,g,d,t,os⟩:=by
 have q:=Y;obtain⟨⟨H,E,cd,B,j,D,I,n⟩,i,l,self,s,m,p,c,f⟩:=Y;refine codeAny_of_tree ?_;refine nd_load j ?_;show wpAny _ _ (callAny.viaDunder (.ref C) _) _ _ _;refine WV (c.at ?_);dsimp only;rw[tc_bind];refine WV (W1 (WV (W1 ?_)));refine W1 (a:=Fin.again (.call (.builtin "type.__call__") ⟨.ref C::rest,[]⟩)) (And.intro rfl ?_);refine codeAny_call_builtin_at (Code.quiet_builtin _ (by decide+kernel)) entry_typeCall (check_slot tc_kind tc_split f (tc_args _ _ _) ?_);have x:Looks (model prog w) h (mroOf (.ref C)) cd.mro:=((Looks.ld (part:=none) j).andThen .now).andThen .now
 repeat (first|simp only[n,Xz,Yu]|with_reducible refine ZE ?_|lk)
 refine Q9 q hr ?_;have k:∀b o,h.get? b=some o->((h.push (lD rest)).push (ka C h.objs.size)).get? b=some o:=λb o e=>Xp _ (Xp _ e);have u:Looks (model prog w) ((h.push (lD rest)).push (ka C h.objs.size)) (typeOf (.ref (h.objs.size+1))) (.ref C):=(Looks.ld (by heap_get:((h.push (lD rest)).push (ka C h.objs.size)).get? (h.objs.size+1)=some (ka C h.objs.size))).andThen .now;have J:=self.keeps k;have F:=hi.keeps k;have G:=(hb (.ref (h.objs.size+1))).keeps k
 repeat (first|with_reducible refine ZE ?_|lk)
 refine YZ hq λr y z=>?_;rcases r with e|(v|_|_|_)<;>first|exact z|exact z.elim|skip
 obtain⟨rfl,z⟩:=z;exact W1 (W1 z)
end
section
open Builtin Builtin.ObjectAttr
noncomputable def kH:Value->Bool
 |.ref _=>true
 |_=>false
noncomputable def GP:List Value:=[.type "ValueError",.type "Exception",.type "BaseException",.type "object"]
noncomputable def eU (K:Frag) (C:Addr):Bool:=(clsIn K C).any λcd=>cd.hasDict&& !cd.mro.isEmpty&&(cd.mro.dropWhile kH==GP)
noncomputable def kg (K:Frag) (C:Addr) (name:Str):Bool:=findIn K (.ref C) "__getattribute__"==some (some (.builtin "BaseException.__getattribute__"))&&findIn K (.ref C) "__getattr__"==some none&&findIn K (.ref C) name==some none&&eU K C
noncomputable def c8 (K:Frag) (C:Addr) (name:Str):Bool:=findIn K (.ref C) "__setattr__"==some (some (.builtin "object.__setattr__"))&&findIn K (.ref C) name==some none&&eU K C
theorem qG {l:List Value} {v:Value} (e:(l.dropWhile kH).contains v=true):l.contains v=true:=by
 induction l with
 |nil=>exact e
 |cons a r ih=>
  rw[List.dropWhile_cons]at e;split at e
  ·rw[List.contains_cons,ih e,Bool.or_true]
  ·exact e
theorem gN (self:Value):∀{l:List Value},refuseLoop self "__setattr__" l=refuseLoop self "__setattr__" (l.dropWhile kH)
 |[]=>rfl
 |a::r=>by
  rw[List.dropWhile_cons];cases a with
  |ref C=>rw[refuseLoop_ref,Xn (show kH (.ref C)=true from rfl)];exact gN self
  |_=>rfl
variable {prog:Program} {w:World} {A:Around} {E:Value->Shared->Prop} {K:Frag} {C x:Addr} {ox:Obj} {od:Option Obj} {h:Heap} {g:Array GenState} {d:Drawn} {t:Nat} {os:OsState} {name:Str} {v:Value}
theorem jN {M:Model} {b:Value} (X:K.In h) (I:InstAt h x ox C od) (c:eU K C=true) (hb:GP.contains b=true):Looks M h (isInstance (.ref x) b) true:=by
 refine bn (ZK c) λcd d a=>?_;simp only[WU,Xj,Xu]at a;exact I.type.andThen (looks_mroIn X (by unfold mroIn;rw[d,Option.bind_some,Xh (by rw[a.1.2];decide),qG (by rw[a.2];exact hb)]))
variable {o:Obj} {mm:Str->Option Value} {k:Nat} {Q:Value->Shared->Prop}
theorem Wy {expr:Bool} (X:K.In h) (I:InstAt h x ox C (some o)) (D:cJ o mm k) (P:mm name=some v) (c:kg K C name=true) (hv:handedIn v=true) (q:Q v ⟨h,g,d,t+1,os⟩):
  wpAny (model prog w) A (getAttr (.ref x) name expr) Q E ⟨h,g,d,t,os⟩:=by
 refine jv D.is λG n i H Z=>?_;obtain rfl:=i;unfold kg at c;simp only[WU,Xu]at c;obtain⟨⟨⟨J,s⟩,u⟩,j⟩:=c;have F:=I.type (M:=model prog w);refine bn (ZK j) λcd y m=>?_;simp only[WU,Xj,Xu]at m;have B:hasDictIn K C=true:=by
  unfold hasDictIn;rw[y];exact m.1.1
 have L:=looks_find (M:=model prog w) X I (findObj_own B u rfl (by rw[lookIn_dict,H,P]):findObj K C (some (dictOf G n)) name=some (.value v));have r:=PySem.F.attrBase_ValueError;have f:(Value.builtin "BaseException.__getattribute__"==Value.builtin "object.__getattribute__")=false:=by decide+kernel
 refine WV (wpAny_mkText (XH (WV (F.at (WV ((ZP (M:=model prog w) X J).at ?_))))));dsimp only;rw[f,Bool.and_false,Xh XE];refine WV ((ZP (M:=model prog w) X s).at ?_);refine WV (wpAny_attempt (XH ?_));unfold callGetattribute;rw[(by cases expr<;>rfl:(expr&&onTheHeap (Value.builtin "BaseException.__getattribute__"))=false),Xh XE];unfold boundAndCalled;refine WV ?_;rw[r.ga.bind (.ref x)];refine W1 ?_;have e:∀p:Around,wpAny (model prog w) p (Builtin.«object.__getattribute__» ⟨[.ref x,.str name t],[]⟩) (λa l=>a=.done (.ret v)∧l=⟨h,g,d,t+1,os⟩) (λZ Z=>False) ⟨h,g,d,t+1,os⟩:=λp=>by
  unfold Builtin.«object.__getattribute__»
  repeat lk
  exact⟨rfl,rfl⟩
 refine ZE (Zu (A:=A) (id:="BaseException.__getattribute__") r.ga.plain PySem.F.entry_bexc_ga ?_);refine @PySem.W.check_slot (model prog w) _ _ ⟨h,g,d,t+1,os⟩ "BaseException.__getattribute__" "BaseException" "__getattribute__" (.ref x) [.str name t] [] _ (by decide+kernel:builtinKind "BaseException.__getattribute__"=some .slot) (by decide+kernel:splitId "BaseException.__getattribute__"=some ("BaseException","__getattribute__")) (jN (M:=model prog w) (b:=.type "BaseException") X I j (by decide+kernel)) (PySem.F.args_bexc_ga (.ref x) (.str name t):argsOk "BaseException.__getattribute__" ⟨[.ref x,.str name t],[]⟩) ?_;refine Ym (e _) (λa l z=>?_) λZ Z z=>z.elim;obtain⟨rfl,rfl⟩:=z;show wpAny _ _ (handedOut v) _ _ _;rw[handedOut_of hv];exact W1 q
end
section
open Builtin Builtin.ObjectAttr
variable {prog:Program} {w:World} {A:Around} {E:Value->Shared->Prop} {K:Frag} {C x dx:Addr} {ox:Obj} {od:Option Obj} {h:Heap} {g:Array GenState} {d:Drawn} {t:Nat} {os:OsState} {name:Str} {v:Value} {R:Result->Shared->Prop} {k:Nat} {mm:Str->Option Value}
set_option tactic.hygienic true in
theorem iP {o:Obj} {tk:Tok} {Q:Fin->Shared->Prop} (D:cJ o mm k) (hk:k≤900) (hd:h.get? dx=some o)
  (q:∀o',cJ o' (λy=>if y=name then some v else mm y) (k+1)->∀h',h'.objs.size=h.objs.size->(∀b,b≠dx->h'.get? b=h.get? b)->h'.get? dx=some o'->Q (.done (.ret .none)) ⟨h',g,d,t+1,os⟩):
  wpAny (model prog w) A (storeInDict dx (.str name tk) name v) Q E ⟨h,g,d,t,os⟩:=by
 refine jv D.is λa n i j z=>?_;obtain rfl:=i;have f:=Yj (Obj.putName name (PyData.keyHash w.params name) (.str name t) v) hd (by rw[(putName_dict .. :Obj.putName name (PyData.keyHash w.params name) (.str name t) v (dictOf a n)=dictOf (putL name (PyData.keyHash w.params name) (.str name t) v a) (putN name a n))];rfl);rw[(putName_dict .. :Obj.putName name (PyData.keyHash w.params name) (.str name t) v (dictOf a n)=dictOf (putL name (PyData.keyHash w.params name) (.str name t) v a) (putN name a n))]at f;have e:=j name;rw[←lookIn_dict name a n]at e;refine WV (W1 (WV ?_));refine WV (WV (wpAny_askSetting (W1 (WV (wpAny_mkText (WV (Ze hd ?_)))))));dsimp only;have c:(!a.toArray.any (·.key.isStr name)&&a.toArray.any (·.refKey))=false:=by
  unfold lookIn at e;dsimp only[dictOf]at e;rw[←Array.any_toList,←Array.any_toList];split at e
  ·rename_i en he
   rw[Yt.mpr (bv en (Yh he) (Zx he))];rfl
  ·split at e
   ·exact cZ e
   ·rename_i z;rw[Bool.not_eq_true]at z;rw[z,Bool.and_false]
 rw[aRefKeyMayBeTheName_at,c];refine wpAny_updatePart hd ?_;refine WV (wpAny_lookBehind f (pastItsLine_dict (by rw[Xq,XI];have:=dW name (PyData.keyHash w.params name) (.str name t) v a;lia)) ?_);exact W1 (q _ (cJ.put name _ _ v j z _) _ (X5 ..) (λb l=>XR _ _ (Ne.symm l)) f)
theorem Va {tk:Tok} (X:K.In h) (I:InstAt h x ox C od) (c:c8 K C name=true)
  (hq:∀b,wpAny (model prog w) A.in1 (storeInOwnDict (.ref x) (.ref C) (.str name tk) name v b)
   (λfin s'=>match fin with|.done f=>R (.ok f) s'|.again c'=>c'.quiet=true∧codeAny (model prog w) A c' R s') (λe s'=>R (.error e) s') ⟨h,g,d,t,os⟩):
  codeAny (model prog w) A (.call (.builtin "object.__setattr__") ⟨[.ref x,.str name tk,v],[]⟩) R ⟨h,g,d,t,os⟩:=by
 unfold c8 at c;simp only[WU,Xu]at c;obtain⟨⟨o,n⟩,i⟩:=c;have a:=PySem.F.store_object;refine bn (ZK i) λcd m j=>?_;simp only[WU,Xj,Xu]at j;refine Zu (A:=A) (id:="object.__setattr__") a.slot.plain a.entry ?_;refine @PySem.W.check_slot (model prog w) _ _ ⟨h,g,d,t,os⟩ "object.__setattr__" "object" "__setattr__" (.ref x) [.str name tk,v] [] _ a.kind a.split (jN (M:=model prog w) (b:=.type "object") X I i (by decide+kernel)) (a.args (.ref x) (.str name tk) v:argsOk "object.__setattr__" ⟨[.ref x,.str name tk,v],[]⟩) ?_;have k:Looks (model prog w) h (mroOf (.ref C)) cd.mro:=(ZZ X m).andThen .now;have l:Looks (model prog w) h (storeTaker? none) none:=.now;rw[osa_eq,refuse_eq];refine WV (WV (I.type.here (WV (k.here ?_))));rw[gN,j.2,show GP=[.type "ValueError",.type "Exception",.type "BaseException",.type "object"] from rfl,PySem.F.store_ValueError.passes (.ref x)];refine W1 (WV (I.type.here (WV ((ZP X n).here (WV (l.here ?_))))));exact hq _
variable {vs:Array Value} {Q:Unit->Shared->Prop}
theorem OE (X:K.In h) (hx:h.get? x=some ox) (hcl:ox.cls=.ref C) (hd:ox.data=.fields vs) (hn:ox.dict=none) (c:c8 K C name=true)
  (q:∀o' h',cJ o' (λy=>if y=name then some v else none) 1->h'.objs.size=h.objs.size+1->(∀b o,h.get? b=some o->b≠x->h'.get? b=some o)->h'.get? x=some {ox with dict:=some h.objs.size}->h'.get? h.objs.size=some o'->Q () ⟨h',g,d,t+2,os⟩):
  wpAny (model prog w) A (setAttr (.ref x) name v) Q E ⟨h,g,d,t,os⟩:=by
 have I:InstAt h x ox C none:=⟨hx,hcl,by unfold notCls;rw[hd],by rw[hn];trivial⟩;have i:=c;unfold c8 at i;simp only[WU,Xu]at i;obtain⟨⟨G,H⟩,r⟩:=i;refine bn (ZK r) λcd u m=>?_;simp only[WU,Xj,Xu]at m;obtain⟨L,z,p,D⟩:=ox;dsimp only at hcl hd hn;subst hcl hd hn;refine set_plain (s:=⟨h,g,d,t,os⟩) X I G (Va X I c λb=>?_);refine WV (W1 (WV (WV (Ze hx (WV ((ZZ (M:=model prog w) X u).here ?_))))));rw[m.1.1];refine WV (wpAny_alloc ?_);refine WV (wpAny_update (Xp (emptyDict) hx) ?_);refine W1 (a:=some h.objs.size) ?_;have n:∀b,b≠x->((h.push emptyDict).update x λo=>{o with dict:=some h.objs.size}).get? b=(h.push emptyDict).get? b:=λb k=>XR _ _ (Ne.symm k);have j:((h.push emptyDict).update x λo=>{o with dict:=some h.objs.size}).objs.size=h.objs.size+1:=by rw[X5];simp
 refine WV (W1 ?_);refine iP (tk:=t) (o:=dictOf [] 0) qd (by decide) ((n _ (XC (Xe hx):x≠h.objs.size).symm).trans (XN h rfl):((h.push emptyDict).update x λo=>{o with dict:=some h.objs.size}).get? h.objs.size=some emptyDict) λo' B h' F f l=>?_;exact q o' h' B (F.trans j) (λb J e k=>(f b (XC (Xe e))).trans ((n b k).trans (Xp _ e))) ((f x (XC (Xe hx):x≠h.objs.size)).trans (Yj (λo:Obj=>{o with dict:=some h.objs.size}) (Xp (emptyDict) hx) rfl)) l
theorem QJ {o:Obj} (X:K.In h) (hx:h.get? x=some ox) (hcl:ox.cls=.ref C) (hd:ox.data=.fields vs) (hn:ox.dict=some dx) (ho:h.get? dx=some o) (D:cJ o mm k) (hk:k≤900) (c:c8 K C name=true)
  (q:∀o' h',cJ o' (λy=>if y=name then some v else mm y) (k+1)->h'.objs.size=h.objs.size->(∀b,b≠dx->h'.get? b=h.get? b)->h'.get? dx=some o'->Q () ⟨h',g,d,t+2,os⟩):
  wpAny (model prog w) A (setAttr (.ref x) name v) Q E ⟨h,g,d,t,os⟩:=by
 have I:InstAt h x ox C (some o):=⟨hx,hcl,by unfold notCls;rw[hd],by rw[hn];exact ho⟩;have f:=c;unfold c8 at f;simp only[WU,Xu]at f;obtain⟨⟨B,F⟩,m⟩:=f;refine bn (ZK m) λcd n e=>?_;simp only[WU,Xj,Xu]at e;obtain⟨G,p,l,u⟩:=ox;dsimp only at hcl hd hn;subst hcl hd hn;refine set_plain (s:=⟨h,g,d,t,os⟩) X I B (Va X I c λb=>?_);refine WV (W1 (WV (WV (Ze hx (WV ((ZZ (M:=model prog w) X n).here ?_))))));rw[e.1.1];refine W1 (a:=some dx) (WV (W1 ?_));exact iP (tk:=t) D hk ho λo' r h' z i j=>q o' h' r z i j
end
section
open Builtin Builtin.ObjectAttr
noncomputable abbrev kR (C:Addr) (dc:Option Addr) (a:Addr):Obj:={cls:=.ref C,dict:=dc,data:=.fields #[.ref a,.none,.none,.none,.bool false,.none]}
variable {prog:Program} {w:World} {A:Around} {E:Value->Shared->Prop} {h:Heap} {gn:Array GenState} {d:Drawn} {t:Nat} {os:OsState} {K:Frag} {L l x a:Addr} {h₀:Heap} {m:Str->Option Value} {b:Addr×Obj} {W T R:bu} {C fI:Addr} {vals:List Value} {Q:Value->Shared->Prop}
theorem E4 (F:Fr h₀ L h m) (X:K.In h₀) (N:News h₀ L h (Lg b W T R)) (kk:aY (Lg b W T R)) (hi:findIn K (.ref C) "__init__"=some (some (.ref fI))) (hm:(d8 K C&&isFn K (.ref fI))=true) (hr:vals.length≤1000)
  (q:∀x tA h',Fr h₀ L h' m->News h₀ L h' (Lg b W T ((x,kR C none tA)::(tA,cR vals)::R))->aY (Lg b W T ((x,kR C none tA)::(tA,cR vals)::R))->
   codeAny (model prog w) (A.under (.builtin "type.__call__" ⟨.ref C::vals,[]⟩)) (.call (.ref fI) ⟨.ref x::vals,[]⟩) (ib x Q E) ⟨h',gn,d,t,os⟩):
  wpAny (model prog w) A (call (.ref C) vals) Q E ⟨h,gn,d,t,os⟩:=by
 rw[WU]at hm;have Xs:=X.keeps F.keep;refine ZE (na (qb Xs hm.1) (ZP Xs hi) (λa=>bind_fn Xs a (Xu.mp hm.2)) hr ?_);have c:=(N.push F (lD vals)).push (F.push _) (ka C h.objs.size);rw[Heap.size_push]at c;have s:Sub (Lg b W T ((h.objs.size+1,kR C none h.objs.size)::(h.objs.size,cR vals)::R)) ((h.objs.size+1,kR C none h.objs.size)::(h.objs.size,cR vals)::Lg b W T R):=λP=>by
  simp only[Lg,Xa,W4,X8,XD];exact Y48
 refine YZ (q _ h.objs.size _ ((F.push _).push _) (kz c s) ((kk.cons2 (λp f=>Xe (N p f).1:∀p∈Lg b W T R,p.1<h.objs.size) (XY _)).sub s)) λr g z=>?_;rcases r with e|(v|_|_|_)<;>exact z
variable {k:Nat} {dx:Addr} {v:Value} {ox:Obj} {od:Option Obj}
set_option tactic.hygienic true in
theorem R7 {vs:Array Value} {old:Value} {R:Value->Shared->Prop} (X:K.In h) (I:InstAt h x ox C od) (hd:ox.data=.fields vs) (h0:vs[0]?=some old) (c:eU K C=true)
  (q:∀h',h'.objs.size=h.objs.size+1->(∀b o,h.get? b=some o->b≠x->h'.get? b=some o)->h'.get? x=some (ox.mapFields (·.setIfInBounds 0 (.ref h.objs.size)))->h'.get? h.objs.size=some (cR [v])->R .none ⟨h',gn,d,t,os⟩):
  wpAny (model prog w) A (call (.builtin "ValueError.__init__") [.ref x,v]) R E ⟨h,gn,d,t,os⟩:=by
 have F:=XK;have z:=jN (M:=model prog w) (b:=.type "ValueError") X I c (by decide+kernel);refine ZE (Zu (A:=A) (id:="ValueError.__init__") F.init.plain F.initEntry ?_);refine bn (ZK c) λcd j B=>?_;obtain⟨i,y,g⟩:∃i,K.lookup C=some i∧i.data=.cls cd:=by
  unfold clsIn at j;split at j
  ·rename_i o1 o2 o3 o4 e
   exact⟨_,e,by obtain rfl:=jS j;rfl⟩
  ·exact cZ j
 obtain⟨p,s,n,m⟩:=i;dsimp only at g;subst g;have G:=X _ _ y;have l:=I.at_;have D:=I.type (M:=model prog w);have a:=Xp (cR [v]) l;have k:0<vs.size:=(XV.mp h0).1;have f:R .none ⟨(h.push (cR [v])).update x (Obj.mapFields (·.setIfInBounds 0 (.ref h.objs.size))),gn,d,t,os⟩:=by
  refine q _ (by rw[X5];simp) (λb o e u=>(XR _ _ (Ne.symm u)).trans (Xp _ e)) (Yj _ a (YR (YL hd _))) ?_;exact(XR _ _ (XC (Xe l))).trans (XN h rfl)
 simp only[checkBuiltinCall,F.initKind,F.initSplit,F.initRow]
 repeat (first|simp only[F.noStar,Zf,Xz,Yu,ZO,Zn]|lk)
 rw[hd];refine W1 ?_;rw[h0];refine W1 (WV (Zd a hd k ?_));cases old with
 |ref r=>exact wpAny_letGo (W1 f)
 |_=>exact W1 (W1 f)
theorem BH {e:Expr} {env:Env} {pos:Pos} {Q:Flow->Shared->Prop} {s:Shared} (hh:A.handled=none)
  (h:wpAny (model prog w) A (eval e env) (λv s₁=>∃x C ox od vs,v=.ref x∧K.In s₁.heap∧InstAt s₁.heap x ox C od∧ox.data=.fields vs∧vs[1]?=some .none∧(eU K C&&typeIn K (.ref C)==some (.type "type"))=true∧E (.ref x) s₁) E s):
  wpAny (model prog w) A (exec (.Raise (some e) none pos) env) Q E s:=by
 show wpAny (model prog w) A (do standAt pos;raiseStmt env (some (do let v ←eval e env;standAt pos;pure v)) none) Q E s;refine WV (Yr ?_);refine WV (WV (Ym h (λv s₁ g=>WV (Yr (W1 ?_))) λZ Z x=>x));refine Nf g λx C ox od vs k X I n t i=>?_;obtain rfl:=k;obtain⟨c,q⟩:=i;rw[WU,Xu]at c;obtain⟨a,o,p,l,d⟩:=s₁;have m:=I.at_;have f:∀{j:Bool->Shared->Prop},j false ⟨a,o,p,l,d⟩->wpAny (model prog w) A (isType (.ref x)) j E ⟨a,o,p,l,d⟩:=by
  intro j r;simp only[isType,loadHead];refine WV (Ze m ?_);rw[n];exact W1 r
 refine WV (W1 ?_);dsimp only;refine WV (XH ?_);refine WV (WV (f ?_));simp only[Xz,Yu];refine W1 ?_;simp only[Xz,Yu];refine WV ((jN (M:=model prog w) (b:=.type "BaseException") X I c.1 (by decide+kernel)).at ?_);simp only[ZO];refine W1 ?_;refine WV (f ?_);simp only[Xz,Yu];unfold raisedInstance;refine WV (WV ((I.type (M:=model prog w)).at (WV ((looks_typeIn (M:=model prog w) X c.2).at ?_))));rw[Xn (by rfl)];refine W1 ?_;delta setFlight raiseNew;refine WV (WV (YJ m n t ?_));rw[Xh (by decide)];refine W1 (WV (wpAny_handled ?_));rw[hh]
 first
  |exact wpAny_throw q
  |exact WV (W1 (wpAny_throw q))
end
section
variable {w:World}
noncomputable def eq (l:List Env):List Addr:=l.filterMap (·.frame)
@[reducible] noncomputable def Cf.wg (c:Cf w) (g:Heap):Cf w:={c with g:=g}
variable {c:Cf w} {nn:Nat} {sc:Scope} {ns:List Str} {vs:List (Option Value)} {l l':bu} {h h':Heap}
theorem Ok.turn {g':Heap} (O:Ok c nn sc ns) (T:KtsTurn (eq c.outer) c.g g'):Ok (c.wg g') nn sc ns:=by
 have a:c.base.StaysIn g':=λb o e=>T.other b o (O.B.stays b o e) (λd=>by rw[(O.B.frames.mem d).1]at e;exact cZ e);refine⟨O.S,O.G,O.hA,O.hh,O.rm,⟨O.B.stack,a,O.B.frames.of_keeps λb o e Z=>?_⟩,O.XB.keeps a,O.TB.keeps a,O.XB,O.TB⟩;obtain⟨g,f⟩:=T.up e;exact(bv _ f rfl)
theorem HE {g1:Heap} (O:Ok c nn sc ns) (H:At c ns vs l h) (k:KtsTurn (eq (c.ev sc::c.outer)) (hideAll h (l.map (·.1))) g1) (x:Ex g1 l' h'):
  ∃g',KtsTurn (eq c.outer) c.g g'∧Ok (c.wg g') nn sc ns∧At (c.wg g') ns vs l' h':=by
 have F:=H.F;have N:=H.N;have C:∀b o,c.g.get? b=some o->b∉l.map (·.1):=λb o e q=>by
  refine bn (Xb.mp q) λp f w=>?_;obtain rfl:=w;rw[(N p f).2.2]at e;exact cZ e
 have m:c.g.StaysIn (hideAll h (l.map (·.1))):=λb o e=>YI _ (F.keep b o e) (C b o e);refine lq F.ns λM I B D i s j=>?_;have J:c.L∉l.map (·.1):=λq=>by
  refine bn (Xb.mp q) λp f e=>?_;exact(N p f).2.1 e
 obtain⟨P,a⟩:=k.up (YI (l.map (·.1)) D J);have G:c.g.get? c.L=none:=kts_self F;have K:∀b,b∈eq (c.ev sc::c.outer)->b=c.L∨b∈eq c.outer:=λb n=>by
  refine bn (Yn.mp n) λu he y=>?_;rcases WY.mp he with rfl|he
  ·exact .inl (W7 (y.symm.trans (show(c.ev sc).frame=some c.L from rfl)))
  ·exact .inr (Yn.mpr (bv u he y))
 have t:∀b o,c.g.get? b=some o->b∉eq c.outer->h'.get? b=some o:=λb o e E=>x.st _ _ (k.other b o (m b o e) λn=>by
  rcases K b n with rfl|z
  ·rw[G]at e;exact cZ e
  ·exact E z)
 have v:∀b o,c.g.get? b=some o->b∈eq c.outer->∃d,h'.get? b=some {o with slots:=d}:=λb o e Z=>by
  obtain⟨d,z⟩:=k.up (m b o e);exact⟨d,x.st _ _ z⟩
 obtain⟨T,S⟩:=kts_turn_at (h:=h') (fs:=eq c.outer) (g:=c.g) (λb A=>by
  obtain⟨_,o,t,_⟩:=O.B.frames.mem A;exact⟨o,t⟩) t v
 refine(ju _ T (O.turn T) ⟨⟨hH _ I B (x.st _ _ a) i s j,S,by rw[T.size];exact F.above⟩,λq r=>(eQ ((x.led q r).1) (λe=>?_) (T.none_ _ ?_)),x.keys⟩)
 ·have:=(x.led q r).2;rw[e,a]at this;exact yP this
 ·cases z:c.g.get? q.1 with
  |none=>rfl
  |some o=>
   obtain⟨d,L⟩:=k.up (m _ _ z);have:=(x.led q r).2;rw[L]at this;exact yP this
def RX (cl:Value) (dc:Option Addr) (fs:List Addr) (g:Heap) (l:bu) (e:Addr) (h:Heap):Prop:=∃g' oe T oT,KtsTurn fs g g'∧Ex g' ((e,oe)::(T,oT)::l) h∧uh h e cl dc T .none
variable {e T₀:Addr} {oe:Obj} {cl:Value} {dc:Option Addr}
theorem RX.turn {fs:List Addr} {g g':Heap} (k:KtsTurn fs g g') (x:RX cl dc fs g' l e h):RX cl dc fs g l e h:=by
 refine Hp x λb c T a d x=>?_;exact(yT b c T a (k.trans d) x)
theorem sU (O:Ok c nn sc ns) (H:At c ns vs ((e,oe)::l) h) (hT:∀q∈l,q.1≠T₀) (gT:c.g.get? T₀=none) (nT:T₀≠c.L) (x:Lv (eq (c.ev sc::c.outer)) e T₀ cl dc .none h h'):RX cl dc (eq c.outer) c.g l e h':=by
 have F:=H.F;have N:=H.N;refine lq F.ns λW X R V D I E=>?_;have L:c.g.get? c.L=none:=kts_self F;have A:∀b,b∈eq (c.ev sc::c.outer)->b=c.L∨b∈eq c.outer:=λb a=>by
  refine bn (Yn.mp a) λd he k=>?_;rcases WY.mp he with rfl|he
  ·exact .inl (W7 (k.symm.trans (show(c.ev sc).frame=some c.L from rfl)))
  ·exact .inr (Yn.mpr (bv d he k))
 have lf:∀b,b∈eq c.outer->b∈eq (c.ev sc::c.outer):=λb a=>by
  refine bn (Yn.mp a) λd he k=>?_;exact Yn.mpr (bv d (.tail _ he) k)
 have u:c.g.get? e=none:=(N _ (.head _)).2.2;have w:∀b∈eq c.outer,∃o,c.g.get? b=some o:=λb C=>by
  obtain⟨_,o,f,_⟩:=O.B.frames.mem C;exact⟨o,f⟩
 have r:∀b,c.g.get? b=none->b≠c.L->b∉eq (c.ev sc::c.outer):=λb q J a=>by
  rcases A b a with rfl|z
  ·exact J rfl
  ·obtain⟨o,f⟩:=w b z;rw[q]at f;exact cZ f
 have f:∀b o,c.g.get? b=some o->b∉eq c.outer->h'.get? b=some o:=λb o q K=>x.oth b o (F.keep _ _ q) (λa=>by
  rcases A b a with rfl|z
  ·rw[L]at q;exact cZ q
  ·exact K z) (λz=>by rw[z,u]at q;exact cZ q) (λz=>by rw[z,gT]at q;exact cZ q)
 obtain⟨T,S⟩:=kts_turn_at (h:=h') (fs:=eq c.outer) (g:=c.g) w f (λb o q a=>x.frm b o (F.keep _ _ q) (lf b a) (λz=>by rw[z,u]at q;exact cZ q) (λz=>by rw[z,gT]at q;exact cZ q):∀b o,c.g.get? b=some o->b∈eq c.outer->∃sl,h'.get? b=some {o with slots:=sl});refine bn x.exn λTb i y=>?_;obtain⟨⟨s,P,t,_⟩,v,Q,U,n,_⟩:=id y;have m:c.g.get? Tb=none:=by
  cases q:c.g.get? Tb with
  |none=>rfl
  |some o=>exact absurd (Xi (Xe (F.keep _ _ q)) i) (XX _)
 have j:=H.k.nd;rw[W4,W2]at j;have G:∀q∈(e,oe)::l,q.1<h.objs.size:=λq hq=>Xe (N q hq).1;refine(I43 _ s Tb Q T ⟨S,?_,λq hq=>?_,⟨?_⟩⟩ y)
 ·rw[T.size];exact WX (nR F) x.sz
 ·rcases WY.mp hq with rfl|hq
  ·exact⟨t,T.none_ _ u⟩
  ·rcases WY.mp hq with rfl|hq
   ·exact⟨n,T.none_ _ m⟩
   ·have z:=N q (.tail _ hq)
    exact⟨x.oth _ _ z.1 (r _ z.2.2 z.2.1) (λM=>j.1 (Xb.mpr (bv q hq M))) (hT q hq),T.none_ _ z.2.2⟩
 ·rw[W4,W4,W2,W2]
  refine(eQ (λq=>?_) (λq=>?_) j.2)
  ·rcases WY.mp q with q|q
   ·exact v q.symm
   ·exact j.1 q
  ·refine bn (Xb.mp q) λp B q=>?_
   exact absurd (G p (.tail _ B)) (by rw[q];exact YM.mpr i)
theorem fC (O:Ok c nn sc ns) (H:At c ns vs l h):h.FunFrames c.base (c.ev sc::c.outer):=by
 refine lq H.F.ns λg k m f d i j=>?_;have a:c.base.get? c.L=none:=by
  cases hq:c.base.get? c.L with
  |none=>rfl
  |some o=>exact absurd (Xi (Xe (O.B.stays c.L o hq)) H.F.above) (XX _)
 exact(eQ (by rw[O.G.ke];decide) (yv c.L g O.G.fr a f (λvs e=>by rw[d]at e;cases e)) (O.B.frames.of_keeps λb o e Z=>(bv o (H.F.keep b o e) rfl)))
variable {Q:Unit->Shared->Prop} {E:Value->Shared->Prop}
theorem Az {t:Nat} {C:Addr} {a:Addr} (O:Ok c nn sc ns) (H:At c ns vs ((e,kR C dc a)::l) h)
  (q:∀h',RX (.ref C) dc (eq c.outer) c.g l e h'->Q () ⟨h',c.gn,c.d,t,c.os⟩):wpAny (model PP w) c.A (leaving (c.ev sc) (.ref e)) Q E ⟨h,c.gn,c.d,t,c.os⟩:=by
 have b:=H.k.nd;rw[W4,W2]at b;exact l7 (s:=⟨h,c.gn,c.d,t,c.os⟩) O.G.fs (fC O H) O.G.fr (H.N _ (.head _)).1 rfl rfl λh' x=>q h' (sU O H (λq d z=>b.1 (Xb.mpr ⟨q,d,z⟩)) (H.N _ (.head _)).2.2 (H.N _ (.head _)).2.1 x)
theorem EO {t:Nat} {h0:Heap} {l0:bu} (O:Ok c nn sc ns) (H:At c ns vs l0 h0) (x:RX cl dc (eq (c.ev sc::c.outer)) (hideAll h0 (l0.map (·.1))) l e h)
  (q:∀h',RX cl dc (eq c.outer) c.g l e h'->Q () ⟨h',c.gn,c.d,t,c.os⟩):wpAny (model PP w) c.A (leaving (c.ev sc) (.ref e)) Q E ⟨h,c.gn,c.d,t,c.os⟩:=by
 refine Kq x λo d T i k n y=>?_;refine ia (HE O H k n) λg m b a=>?_;have f:=a.k.nd;rw[W4,W4,W2,W2]at f;have s:Sub ((e,d)::l) ((e,d)::(T,i)::l):=λP=>by simp only[W4,XD];exact Z73
 refine mU (s:=⟨h,c.gn,c.d,t,c.os⟩) b.G.fs (fC (c:=c.wg g) b a) b.G.fr y λh' z=>q h' (RX.turn m ?_);exact sU (c:=c.wg g) b (a.sub s) (λq j z=>f.2.1 (Xb.mpr ⟨q,j,z⟩)) (a.N _ (.tail _ (.head _))).2.2 (a.N _ (.tail _ (.head _))).2.1 z
variable {vs':List (Option Value)} {t:Nat} {env:Env} {v:Value} {Q:Value->Heap->Nat->Prop} {QF:Flow->Heap->Nat->Prop} {R:Unit->Heap->Nat->Prop} {x dx C a:Addr} {o:Obj} {ns':List Str} {ws ws':List (Option Value)} {k n:Nat} {name:Str} {b:Addr×Obj} {W T I:bu} {e:Expr} {pos:Pos} {rest:List Stmt} {pl:Sem Bool}
theorem un (O:Ok c nn sc ns) (H:At c ns vs l h):Eo c h (getMethod (.type "ValueError") "__init__" pl) t (.builtin "ValueError.__init__",[]) (t+1):=λZ q=>
 method_type (s:=⟨h,c.gn,c.d,t,c.os⟩) (K:=[]) H.F (λZ Z e=>nomatch e) (T:="ValueError") (name:="__init__") (v:=.builtin "ValueError.__init__") (by kernel_rfl) (by kernel_rfl) (by kernel_rfl) (by kernel_rfl) (aJ q)
variable {prog:Program} {A:Around} {gn:Array GenState} {d:Drawn} {os:OsState} {L:Addr} {h₀:Heap} {m:Str->Option Value} {news:bu} {i:Int} {u:Tok}
theorem rj:(dictOf [] 0:Obj).IsDictOf (intKind prog w) ([]:List (Int×Value)):=by
 refine bn (X7.mp (Heap.DictOf.new (knd:=intKind prog w) ({}:Heap))) λo a b=>?_;rw[XN _ rfl]at a;have e:(dictOf [] 0:Obj)=o:=W7 a;rw[e];exact b
theorem xt {Q:Value->Shared->Prop} (N:News h₀ L h news) (im:In (a,dictOf [] 0) news) (lo:(a==sysModules)=false) (q:Q (.bool true) ⟨h,gn,d,t+1,os⟩):wpAny (model prog w) A (compareOp .NotIn (.int i u) (.ref a)) Q E ⟨h,gn,d,t,os⟩:=
 wpAny_notIn_of (intKind_is prog w i u) lo (X7.mpr (bv _ (N.get im.mem) rj):h.DictOf (intKind prog w) a []).mapOf q
theorem Jh {u':Obj->bu} {Q:Unit->Shared->Prop} (F:Fr h₀ L h m) (N:News h₀ L h news) (kk:aY news) (U:∀o',dC a (dictOf [] 0) o' news (u' o'))
  (q:∀o' h',Fr h₀ L h' m->News h₀ L h' (u' o')->aY (u' o')->Q () ⟨h',gn,d,t+1,os⟩):wpAny (model prog w) A (setItem (.ref a) (.int i u) v) Q E ⟨h,gn,d,t,os⟩:=by
 refine wpAny_setItem_pairs (kvs:=[]) (s:=⟨h,gn,d,t,os⟩) (hsz:=by rw[XI];decide) (intKind_is prog w i u) (X7.mpr (bv _ (N _ ((U (dictOf [] 0)).mem)).1 rj)) λh' b f=>?_;refine bn (X7.mp b) λo' e k=>?_;have V:=(U o').go kk;have c:=kk.upd V;refine ux V.split λo g j l n p=>?_;refine q o' h' (F.change f (N _ ((U (dictOf [] 0)).mem)).2.1 (N _ ((U (dictOf [] 0)).mem)).2.2) ?_ c;rw[l];rw[j]at N;exact N.setAt n p f e
variable {u':Obj->bu}
theorem qi (H:At c ns vs l h) (im:In (a,dictOf [] 0) l) (lo:(a==sysModules)=false) (q:Q (.bool true) h (t+1)):Wp c (compareOp .NotIn (.int i u) (.ref a)) Q h t:=xt H.N im lo (aJ q)
theorem vq (H:At c ns vs l h) (U:∀o',dC a (dictOf [] 0) o' l (u' o')) (q:∀o' h',At c ns vs (u' o') h'->R () h' (t+1)):Wp c (setItem (.ref a) (.int i u) v) R h t:=
 Jh H.F H.N H.k U λo' h' e d b=>aJ (q o' h' ⟨e,d,b⟩)
variable {e1 e2:Expr} {es:List Expr} {out z:Str} {tk:Tok}
theorem Dq (q:Wp c (joinParts Str.empty (evalEach (e1::e2::es) env)) Q h t):Wp c (eval (.JoinedStr (e1::e2::es) pos) env) Q h t:=JoinedStr_many q
theorem vO (q:Wp c (eval e env) (λv h t=>∃y u,v=.str y u∧(out++y).length≤50000∧Wp c (joinParts (out++y) (evalEach es env)) Q h t) h t):Wp c (joinParts out (evalEach (e::es) env)) Q h t:=
 joinParts_cons (q.go λv h t z=>by obtain⟨y,u,rfl,hz,z⟩:=z;exact⟨by rw[XI];exact Z1 hz,z⟩)
theorem Gn (hz:out.length≤50000) (q:Q (.str out t) h (t+1)):Wp c (joinParts out (evalEach [] env)) Q h t:=joinParts_nil (aJ q) (by rw[XI];exact Z1 hz)
theorem IE (q:Wp c (eval e env) (λv h t=>Wp c (formatField v Str.empty) Q h t) h t):Wp c (eval (.FormattedValue e (-1) none pos) env) Q h t:=FormattedValue_plain (q.go λZ Z Z z=>z)
theorem AR (hz:z.length≤50000) (q:∀u t,Q (.str z u) h t):Wp c (formatField (.str z tk) Str.empty) Q h t:=
 WV (wpAny_rule (habitSame_str (λa tk=>aJ (q a tk)) (by rw[XI];exact Z1 hz)))
theorem fh {n:Nat} {l:List (Str×NameKind)}:∀{n:Nat} {acc:List (Str×Addr)},(l.all λx=> !(x.2== .cell))=true->cellsFrom n l acc=acc:=by
 induction l with
 |nil=>intro n acc _;rfl
 |cons a r ih=>
  intro n acc b;rw[Ys,WU]at b;obtain⟨x,kd⟩:=a;unfold cellsFrom;have:(kd==NameKind.cell)=false:=by simpa using b.1
  rw[this,Xh XE];exact ih b.2
noncomputable def i6 (scope:Scope):Bool:=ji scope []&&(!scope.isCoroutine&& !scope.isGenerator)&&scope.names.all λx=> !(x.2== .cell)
variable {p:Program} {loose:List Str} {mean:ExcName->Option Value} {mg mb:Str->Option Value} {base g h0:Heap} {outer:List Env} {R:Result->Shared->Prop} {cl:List (Str×Addr)}
theorem BK {name qual:Str} {params:Arguments} {body:Expr} {scope:Scope} {pm ctv:Value} {c':Addr} {f:Addr}
  (rm:da A (n+1)) (c:Cx w p loose mean mg mb A base outer g l h0) (ho:(f,kla_obj name qual params body scope cl pm c' ctv)∈l) (hcd:h0.CodeRec (.ref c') qual) (hc:i6 scope=true)
  (hb:bindArgs (kla_fn name qual params body scope cl pm (.ref c') ctv) ⟨[],[]⟩=pure [])
  (h:∀L' h₁ t₁,(A.deeper (envX qual scope L' f (.ref c') cl)).handled=none->Gd (A.deeper (envX qual scope L' f (.ref c') cl)) (envX qual scope L' f (.ref c') cl) outer L'->da (A.deeper (envX qual scope L' f (.ref c') cl)) n->gZ (envX qual scope L' f (.ref c') cl) L' []->Fr g L' h₁ (bT [] [])->News g L' h₁ l->Below A base outer g->(HK w.params).In g->Top p loose mean mg mb g->(HK w.params).In base->Top p loose mean mg mb base->aY l->
   wpAny (model prog w) (A.deeper (envX qual scope L' f (.ref c') cl)) (eval body (envX qual scope L' f (.ref c') cl)) (λv s'=>R (.ok (.ret v)) s') (pP prog w A (envX qual scope L' f (.ref c') cl) R) ⟨h₁,gn,d,t₁,os⟩):codeAny (model prog w) A (.call (.ref f) ⟨[],[]⟩) R ⟨h0,gn,d,t,os⟩:=by
 unfold i6 at hc;rw[WU,WU,WU,Xj,Xj]at hc;obtain⟨⟨hS,r,m⟩,j⟩:=hc;have S:∀L',gZ (envX qual scope L' f (.ref c') cl) L' []:=λL'=>jO (env:=envX qual scope L' f (.ref c') cl) hS;have i:∀x∈scope.names,x.2≠ .cell:=λx z e=>by
  have:=WZ.mp j x z;rw[e]at this;exact ch this
 have Tg:=c.T.keeps c.B.stays;refine kla_callFunE rm.lt (c.led _ ho).1 rfl r m rfl hcd ?_;rw[hb];refine W1 (wpAny_newFunctionEnv i (λy B=>by cases B) (λh₁ u k=>⟨(Tg.nolimit.keeps c.st).fresh _ k,?_⟩) (S f).kind);show codeAny _ _ (.expr body (envX qual scope h0.objs.size f (.ref c') cl)) _ _;have a:∀b o,h0.get? b=some o->h₁.get? b=some o:=λb o e=>k.extBut b o (XC (Xe e)) (Xp _ e);exact kla_codeExpr (h h0.objs.size h₁ _ rm.hd ⟨Zs c.B.stack,rfl,(S f).kind⟩ (rm.deeper (Xy _)) (S _) ⟨u,λb o e=>a b o (c.st b o e),c.sz⟩ (λq s=>⟨a _ _ (c.led q s).1,XC (Xe (c.led q s).1),(c.led q s).2⟩) c.B (c.X.keeps c.B.stays) Tg c.X c.T c.keys)
theorem rR {q:Cf w} {name qual:Str} {params:Arguments} {body:Expr} {scope:Scope} {pm ctv:Value} {c':Addr} {f:Addr} {h:Heap} {t:Nat}
  (rm:da q.A0 (n+1)) (C:Cl q l h) (ho:(f,kla_obj name qual params body scope cl pm c' ctv)∈l) (hcd:h.CodeRec (.ref c') qual) (hc:i6 scope=true) (hb:bindArgs (kla_fn name qual params body scope cl pm (.ref c') ctv) ⟨[],[]⟩=pure [])
  (k:∀c:Cf w,c.g=q.g->c.outer=q.outer->c.cl=cl->c.cd=.ref c'->c.qual=qual->
   (∀v h t,wpAny (model PP w) c.A (leaving (c.ev scope) v) (λZ s=>q.E v s) q.E ⟨h,c.gn,c.d,t,c.os⟩->c.E v ⟨h,c.gn,c.d,t,c.os⟩)->(∀v h t,q.E v ⟨h,q.gn,q.d,t,q.os⟩->q.E v ⟨h,c.gn,c.d,t,c.os⟩)->
   Ok c n scope []->∀h' t',At c [] [] l h'->Wp c (eval body (c.ev scope)) Q h' t'):Co q (.ref f) [] Q h t:=by
 have b:(scope.names.all λx=> !(x.2== .cell))=true:=by
  unfold i6 at hc;rw[WU]at hc;exact hc.2
 refine BK rm C ho hcd hc hb λa e d i G g S F N B X T o m j=>?_;rw[(by rw[fh (n:=0) b]:envX qual scope a f (.ref c') cl=envX qual scope a f (.ref c') (cellsFrom (a+1) scope.names cl))]at i G g S ⊢;exact Wp.go (k {q with qual:=qual,L:=a,f:=f,cd:=.ref c',cl:=cl,A:=q.A0.deeper (envX qual scope a f (.ref c') (cellsFrom (a+1) scope.names cl)),E:=pP PP w q.A0 (envX qual scope a f (.ref c') (cellsFrom (a+1) scope.names cl)) (rq (lf q Q) q.E)}
  rfl rfl rfl rfl rfl (λv h t z=>z) (λZ Z Z z=>z) ⟨S,G,rfl,i,g,B,X,T,o,m⟩ e d ⟨F,N,j⟩) λv h' t' z=>aJ (c:=q) z
end
open PyProof
inductive SV
 |none|bool (b:Bool)|int (i:Int)|str (z:Str)|ref (k:Nat)|glob (a:Addr)|ty (s:Nat)
structure Qp where
 params:Arguments
 body:Expr
 scope:Scope
 qual:Str
 cn:List Str
noncomputable def iH:Nat->Expr->List Expr
 |0,_=>[]
 |n+1,e=>match e with
  |.Lambda .. =>[e]
  |.Call _ as _ _=>as.flatMap (iH n)
  |.BoolOp _ es _=>es.flatMap (iH n)
  |.Compare l _ rs _=>iH n l++rs.flatMap (iH n)
  |.Tuple es _ _=>es.flatMap (iH n)
  |_=>[]
noncomputable def pB:Nat->Stmt->List Expr
 |0,_=>[]
 |n+1,s=>match s with
  |.Assign _ v _=>iH 9 v
  |.Return (some e) _=>iH 9 e
  |.If _ b o _=>b.flatMap (pB n)++o.flatMap (pB n)
  |_=>[]
noncomputable def fR (s:Stmt):List Stmt:=match s with
 |.FunctionDef _ _ body _ _ _ _ _ _ _=>body
 |_=>[]
noncomputable def ya (q:Str) (e:Expr):Qp:=match e with
 |.Lambda p b s _=>⟨p,b,s,(q++".<locals>.")++"<lambda>",(s.names.filter λy=>y.2== .free).map (·.1)⟩
 |_=>⟨default,default,default,q,[]⟩
noncomputable def aT (j:Nat):Qp:=(((fR (sT 83)).flatMap (pB 9)).map (ya "_law_limits_right")++((fR (sT 85)).flatMap (pB 9)).map (ya "_law_cut_right")).getD j ⟨default,default,default,default,[]⟩
inductive SO
 |inst (C:Addr) (f:List (Nat×SV))|list (xs:List SV)|tup (xs:List SV)|dic (kvs:List (Str×SV))|dic0|excF (d:Option Nat)|exc (d:Nat)|xdic (f:List (Nat×SV))
 |cell (v:Option SV)|clo (j:Nat) (cs:List Nat) (kc:Nat)|ctab (P:Addr) (es:List ((Nat×Nat)×Nat))|code (q:Str)|rng (a b:Int)|raw (xs:List SV) (vs:List Value)|opq
structure Sg where
 ob:Nat->Option SO
 nx:Nat
 wf:∀k o,ob k=some o->k<nx
noncomputable def Sg.set (σ:Sg) (k:Nat) (o:SO):Sg:=⟨λj=>if j=k∧k<σ.nx then some o else σ.ob j,σ.nx,λj o' h=>by
 split at h
 ·rename_i e;exact e.1▸e.2
 ·exact σ.wf _ _ h⟩
noncomputable def Sg.new (σ:Sg) (o:SO):Sg:=⟨λj=>if j=σ.nx then some o else σ.ob j,σ.nx+1,λj o' h=>by
 split at h
 ·rename_i e;rw[e];exact XY _
 ·exact Zg (σ.wf _ _ h)⟩
noncomputable def Sg.del (σ:Sg) (k:Nat):Sg:=⟨λj=>if j=k then none else σ.ob j,σ.nx,λj o' h=>by
 split at h
 ·exact cZ h
 ·exact σ.wf _ _ h⟩
section
variable {σ:Sg} {k:Nat} {o o0:SO}
theorem aE (h:σ.ob k=some o0):(σ.set k o).ob k=some o:=Xn ⟨rfl,σ.wf _ _ h⟩
theorem au {k j:Nat} (e:j≠k):(σ.set k o).ob j=σ.ob j:=Xh λz=>e z.1
theorem ac:(σ.new o).ob σ.nx=some o:=Xn rfl
theorem ae {o o':SO} (h:σ.ob k=some o'):(σ.new o).ob k=some o':=(Xh (XC (σ.wf _ _ h))).trans h
theorem dY (h:k≠σ.nx):(σ.new o).ob k=σ.ob k:=Xh h
theorem gB {k j:Nat} (e:j≠k):(σ.del k).ob j=σ.ob j:=Xh e
theorem Fm:(σ.del k).ob k=none:=Xn rfl
structure ca where
 loc:List (Option SV)
 cel:List Nat
 cv:List SV
noncomputable def ca.put (fr:ca) (i:Nat) (v:SV):ca:=⟨fr.loc.set i (some v),fr.cel,fr.cv⟩
inductive Flw|next|cont|brk|ret (v:SV)
abbrev KV:=SV->Sg->Prop
abbrev KX:=Nat->Sg->Prop
abbrev eO:=Nat->List SV->Sg->KV->KX->Prop
abbrev AE:=(Nat->eO)->ca->Sg->KV->KX->Prop
abbrev AT:=(Nat->eO)->ca->Sg->(Bool->Sg->Prop)->KX->Prop
abbrev AL:=(Nat->eO)->ca->Sg->(List SV->Sg->Prop)->KX->Prop
abbrev eY:=Flw->ca->Sg->Prop
abbrev AS:=(Nat->eO)->ca->Sg->eY->KX->Prop
def bI (b:Bool) (A B:Prop):Prop:=match b with|true=>A|false=>B
variable {b:Bool} {A B:Prop}
theorem qu (x:b=true->A) (y:b=false->B):bI b A B:=by cases b;exact y rfl;exact x rfl
theorem jV (h:b=true) (k:A):bI b A B:=h▸k
theorem gX (h:b=false) (k:B):bI b A B:=h▸k
theorem bW {p:Prop} [Decidable p] (x:p->A) (y:¬p->B):bI (decide p) A B:=qu (λh=>x (W5 h)) λh=>y (of_decide_eq_false h)
theorem XeQ {p:Prop} [Decidable p] (x:¬p->A) (y:p->B):bI (!decide p) A B:=qu (λh=>x (by simpa using h)) λh=>y (by simpa using h)
theorem bI.br (x:bI b A B):(b=true->A)∧(b=false->B):=by cases b;exact⟨λh=>(nomatch h),λZ=>x⟩;exact⟨λZ=>x,λh=>(nomatch h)⟩
def aR (x:SV) (K:Int->Prop):Prop:=match x with
 |.int i=>K i
 |_=>False
def cj (x:SV) (K:Str->Prop):Prop:=match x with
 |.str i=>K i
 |_=>False
def bF (x:SV) (K:Nat->Prop):Prop:=match x with
 |.ref i=>K i
 |_=>False
def gA (x:SV) (K:Nat->Prop):Prop:=match x with
 |.glob i=>K i
 |_=>False
noncomputable def kd (x:SV):Nat:=match x with
 |.none=>0|.bool _=>1|.int _=>2|.str _=>3|.ref _=>4|.glob _=>5|.ty _=>6
end
inductive qq {α β:Type} (x:β) (c:α->β) (K:α->Prop):Prop
 |mk (i:α) (e:x=c i) (k:K i):qq x c K
inductive OnJ {α β γ:Type} (x:γ) (c:α->β->γ) (K:α->β->Prop):Prop
 |mk (i:α) (j:β) (e:x=c i j) (k:K i j):OnJ x c K
section
variable {x:SV}
theorem bU {K:Int->Prop} (h:aR x K):qq x SV.int K:=by cases x<;>first|exact⟨_,rfl,h⟩|exact h.elim
theorem b0 {K:Str->Prop} (h:cj x K):qq x SV.str K:=by cases x<;>first|exact⟨_,rfl,h⟩|exact h.elim
variable {K:Nat->Prop}
theorem bh (h:bF x K):qq x SV.ref K:=by cases x<;>first|exact⟨_,rfl,h⟩|exact h.elim
theorem gi (h:gA x K):qq x SV.glob K:=by cases x<;>first|exact⟨_,rfl,h⟩|exact h.elim
end
inductive bN (σ:Sg) (k:Nat) (K:SO->Prop):Prop
 |mk (o:SO) (h:σ.ob k=some o) (q:K o)
inductive bX {α:Type} (o:Option α) (K:α->Prop):Prop
 |mk (x:α) (h:o=some x) (q:K x)
def cP (o:SO) (K:List SV->Prop):Prop:=match o with
 |.list xs=>K xs
 |_=>False
def xf (o:SO) (K:List SV->Prop):Prop:=match o with
 |.list xs=>K xs
 |.raw xs _=>K xs
 |_=>False
def iZ (o:SO) (K:List SV->Prop):Prop:=match o with
 |.tup xs=>K xs
 |_=>False
def gw (o:SO) (K:Addr->List (Nat×SV)->Prop):Prop:=match o with
 |.inst C f=>K C f
 |_=>False
def ym (o:SO) (K:Nat->Prop):Prop:=match o with
 |.exc f=>K f
 |_=>False
def kD (o:SO) (K:Option Nat->Prop):Prop:=match o with
 |.excF f=>K f
 |_=>False
def BV (o:SO) (K:List (Nat×SV)->Prop):Prop:=match o with
 |.xdic f=>K f
 |_=>False
def ja (o:SO) (K:Option SV->Prop):Prop:=match o with
 |.cell v=>K v
 |_=>False
def mB (o:SO) (K:List (Str×SV)->Prop):Prop:=match o with
 |.dic v=>K v
 |_=>False
def Rf (o:SO) (K:Prop):Prop:=match o with
 |.dic0=>K
 |_=>False
def y4 (o:SO) (K:Int->Int->Prop):Prop:=match o with
 |.rng a b=>K a b
 |_=>False
noncomputable def jQ (o:SO):Bool:=match o with
 |.tup _=>true
 |_=>false
noncomputable def uo (o:SO):Bool:=match o with
 |.excF _=>true
 |_=>false
noncomputable def qz (o:SO):Bool:=match o with
 |.exc _=>true
 |_=>false
noncomputable def jL (o:SO):Bool:=match o with
 |.dic0=>true
 |_=>false
section
variable {o:SO} {K:List SV->Prop}
theorem cq (h:cP o K):qq o SO.list K:=by cases o<;>first|exact⟨_,rfl,h⟩|exact h.elim
theorem iq (h:iZ o K):qq o SO.tup K:=by cases o<;>first|exact⟨_,rfl,h⟩|exact h.elim
theorem gf {K:Addr->List (Nat×SV)->Prop} (h:gw o K):OnJ o SO.inst K:=by cases o<;>first|exact⟨_,_,rfl,h⟩|exact h.elim
theorem ER {K:Nat->Prop} (h:ym o K):qq o SO.exc K:=by cases o<;>first|exact⟨_,rfl,h⟩|exact h.elim
theorem kA {K:Option Nat->Prop} (h:kD o K):qq o SO.excF K:=by cases o<;>first|exact⟨_,rfl,h⟩|exact h.elim
theorem yX {K:List (Nat×SV)->Prop} (h:BV o K):qq o SO.xdic K:=by cases o<;>first|exact⟨_,rfl,h⟩|exact h.elim
theorem oU {K:Option SV->Prop} (h:ja o K):qq o SO.cell K:=by cases o<;>first|exact⟨_,rfl,h⟩|exact h.elim
theorem kK {K:List (Str×SV)->Prop} (h:mB o K):qq o SO.dic K:=by cases o<;>first|exact⟨_,rfl,h⟩|exact h.elim
theorem QC {K:Prop} (h:Rf o K):o=.dic0∧K:=by cases o<;>first|exact⟨rfl,h⟩|exact h.elim
variable {K:Int->Int->Prop}
theorem E0 (h:y4 o K):OnJ o SO.rng K:=by cases o<;>first|exact⟨_,_,rfl,h⟩|exact h.elim
def one (vs:List SV) (K:SV->Prop):Prop:=match vs with
 |[x]=>K x
 |_=>False
def two (vs:List SV) (K:SV->SV->Prop):Prop:=match vs with
 |[x,y]=>K x y
 |_=>False
noncomputable def cx:List Str:=(["number","owner","fields","own","frozen","ident","text","items","rows","spare","first","last"]:List Str)++((["open","message","cause","name","is_class","parent","outer","methods","constants","mixed","ahead","attached"]:List Str)++((["native","kept","natives","prelude","read","most","taken","last_number","last_ident","symbol_idents","made","version"]:List Str)++((["const_version","globals","out","here","is_ready","main","reason","thing","builtin","make_builtin","give_own","new_module"]:List Str)++(["class_of","is_own","root_of","list_of","table_of","key_of","range_of","error","fail","put"]:List Str))))
noncomputable def cK (a:Nat):Str:=cx.getD a ""
abbrev Tb:=Nat->Option (Addr×Addr)
noncomputable def Tb.le (τ τ':Tb):Prop:=∀k p,τ k=some p->τ' k=some p
variable {τ:Tb}
theorem Tb.le.refl:τ.le τ:=λZ Z h=>h
theorem Tb.le.trans {a b c:Tb} (x:a.le b) (y:b.le c):a.le c:=λk p h=>y k p (x k p h)
noncomputable def Tb.up (τ:Tb) (k:Nat) (p:Addr×Addr):Tb:=λj=>if j=k then some p else τ j
noncomputable def Hx (s:Nat):String:=match s with
 |0=>"bool"
 |1=>"int"
 |_=>"str"
end
inductive RVr (τ:Tb) (k:Nat) (V:Value):Prop
 |mk (x d:Addr) (e:V=.ref x) (h:τ k=some (x,d)):RVr τ k V
def RV (τ:Tb) (v:SV) (V:Value):Prop:=match v with
 |.none=>V=.none
 |.bool b=>V=.bool b
 |.int i=>∃u,V=.int i u
 |.str z=>∃u,V=.str z u
 |.ref k=>RVr τ k V
 |.glob a=>V=.ref a
 |.ty s=>V=.type (Hx s)
section
variable {τ τ':Tb} {v:SV} {V:Value}
theorem RV.up (r:RV τ v V) (t:τ.le τ'):RV τ' v V:=by
 cases v
 case ref=>obtain⟨x,d,e,h⟩:=r;exact⟨x,d,e,t _ _ h⟩
 all_goals exact r
theorem RV.handed (r:RV τ v V):handedIn V=true:=by
 cases v
 case ref=>obtain⟨x,d,rfl,h⟩:=r;rfl
 case int=>obtain⟨x,rfl⟩:=r;rfl
 case str=>obtain⟨x,rfl⟩:=r;rfl
 all_goals (obtain rfl:=r;rfl)
def RO (τ:Tb) (v:Option SV) (V:Option Value):Prop:=match v with
 |none=>V=none
 |some v=>∃W,V=some W∧RV τ v W
theorem RO.up {v:Option SV} {V:Option Value} (r:RO τ v V) (t:τ.le τ'):RO τ' v V:=by
 cases v with
 |none=>exact r
 |some v=>refine bn r λW e h=>?_;exact(bv W e (h.up t))
end
inductive Cns {α:Type} (P:α->Prop) (R:List α->Prop) (Vs:List α):Prop
 |mk (V:α) (Ws:List α) (e:Vs=V::Ws) (h:P V) (r:R Ws):Cns P R Vs
def bZ (τ:Tb):List SV->List Value->Prop
 |[],Vs=>Vs=[]
 |v::vs,Vs=>Cns (RV τ v) (bZ τ vs) Vs
section
variable {τ τ':Tb} {v:List SV}
theorem bZ.up (t:τ.le τ'):∀{V:List Value},bZ τ v V->bZ τ' v V:=by
 induction v with
 |nil=>exactλr=>r
 |cons a v ih=>exactλ⟨A,B,e,h,r⟩=>⟨A,B,e,h.up t,ih r⟩
theorem bZ.len:∀{V:List Value},bZ τ v V->V.length=v.length:=by
 induction v with
 |nil=>intro V r;obtain rfl:=r;rfl
 |cons a v ih=>rintro V ⟨A,B,rfl,h,r⟩;rw[Yc,Yc,ih r]
theorem bZ.app {v v':List SV} {V':List Value} (r':bZ τ v' V'):∀{V:List Value},bZ τ v V->bZ τ (v++v') (V++V'):=by
 induction v with
 |nil=>intro V r;obtain rfl:=r;exact r'
 |cons a v ih=>rintro V ⟨A,B,rfl,h,r⟩;exact⟨A,_,rfl,h,ih r⟩
theorem bZ.get:∀{V:List Value} {i:Nat} {x:SV},bZ τ v V->v[i]?=some x->∃X,V[i]?=some X∧RV τ x X:=by
 induction v with
 |nil=>intro V i x r h;exact cZ h
 |cons a v ih=>
  rintro V i x ⟨A,B,rfl,h,r⟩ e;cases i with
  |zero=>obtain rfl:=jS e;exact(bv A rfl h)
  |succ i=>exact ih (V:=B) (i:=i) r e
variable {x:SV}
theorem bZ.set {X:Value} (hx:RV τ x X):∀{V:List Value} {i:Nat},bZ τ v V->bZ τ (v.set i x) (V.set i X):=by
 induction v with
 |nil=>intro V i r;obtain rfl:=r;exact rfl
 |cons a v ih=>
  rintro V i ⟨A,B,rfl,h,r⟩;cases i with
  |zero=>exact⟨X,B,rfl,hx,r⟩
  |succ i=>exact⟨A,_,rfl,h,ih r⟩
theorem bZ.take:∀{V:List Value} {i:Nat},bZ τ v V->bZ τ (v.take i) (V.take i):=by
 induction v with
 |nil=>intro V i r;obtain rfl:=r;rw[List.take_nil,List.take_nil];exact rfl
 |cons a v ih=>
  rintro V i ⟨A,B,rfl,h,r⟩;cases i with
  |zero=>exact rfl
  |succ i=>exact⟨A,_,rfl,h,ih r⟩
theorem bZ.drop:∀{V:List Value} {i:Nat},bZ τ v V->bZ τ (v.drop i) (V.drop i):=by
 induction v with
 |nil=>intro V i r;obtain rfl:=r;rw[List.drop_nil,List.drop_nil];exact rfl
 |cons a v ih=>
  rintro V i ⟨A,B,rfl,h,r⟩;cases i with
  |zero=>exact⟨A,B,rfl,h,r⟩
  |succ i=>exact ih (V:=B) (i:=i) r
end
inductive One (τ:Tb) (Vs:List Value) (K:SV->Prop):Prop
 |mk (x:SV) (A:Value) (e:Vs=[A]) (r:RV τ x A) (k:K x):One τ Vs K
inductive Two (τ:Tb) (Vs:List Value) (K:SV->SV->Prop):Prop
 |mk (x y:SV) (A B:Value) (e:Vs=[A,B]) (r:RV τ x A) (r2:RV τ y B) (k:K x y):Two τ Vs K
section
variable {τ:Tb}
theorem l9 {vs:List SV} {K:SV->Prop} {Vs:List Value} (h:one vs K) (r:bZ τ vs Vs):One τ Vs K:=by
 rcases vs with _|⟨x,_|⟨y,vs⟩⟩
 ·exact h.elim
 ·obtain⟨A,B,rfl,h1,r⟩:=r;obtain rfl:=r;exact⟨x,A,rfl,h1,h⟩
 ·exact h.elim
theorem jG {vs:List SV} {K:SV->SV->Prop} {Vs:List Value} (h:two vs K) (r:bZ τ vs Vs):Two τ Vs K:=by
 rcases vs with _|⟨x,_|⟨y,_|⟨z,vs⟩⟩⟩
 ·exact h.elim
 ·exact h.elim
 ·obtain⟨A,_,rfl,h1,B,_,rfl,h2,r⟩:=r;obtain rfl:=r;exact⟨x,y,A,B,rfl,h1,h2,h⟩
 ·exact h.elim
def gO (τ:Tb):List (Option SV)->List (Option Value)->Prop
 |[],Vs=>Vs=[]
 |v::vs,Vs=>Cns (RO τ v) (gO τ vs) Vs
variable {τ':Tb} {v:List (Option SV)}
theorem gO.up (t:τ.le τ'):∀{V:List (Option Value)},gO τ v V->gO τ' v V:=by
 induction v with
 |nil=>exactλr=>r
 |cons a v ih=>exactλ⟨A,B,e,h,r⟩=>⟨A,B,e,h.up t,ih r⟩
theorem gO.slot:∀{V:List (Option Value)} {ns:List Str} {i:Nat} {nm:Str} {x:SV},gO τ v V->ns[i]?=some nm->v[i]?=some (some x)->∃X,g9 nm (some X) ns V∧RV τ x X:=by
 induction v with
 |nil=>intro V ns i nm x _ _ e;exact cZ e
 |cons a v ih=>
  rintro V ns i nm x ⟨A,B,rfl,h,r⟩ e1 e2;cases ns with
  |nil=>exact cZ e1
  |cons n ns=>
   cases i with
   |zero=>obtain rfl:=jS e1;obtain rfl:=jS e2;obtain⟨W,rfl,h⟩:=h;exact(bv W .here h)
   |succ i=>refine bn (ih (ns:=ns) (i:=i) r e1 e2) λX s b=>?_;exact(bv X (.there s) b)
variable {x:SV}
theorem gO.put {X:Value} (hx:RV τ x X):∀{V:List (Option Value)} {ns:List Str} {i:Nat} {nm:Str},gO τ v V->ns[i]?=some nm->i<v.length->∃V',rz nm X ns V V'∧gO τ (v.set i (some x)) V':=by
 induction v with
 |nil=>intro V ns i nm _ _ e;exact absurd e (ZU _)
 |cons a v ih=>
  rintro V ns i nm ⟨A,B,rfl,h,r⟩ e1 e2;cases ns with
  |nil=>exact cZ e1
  |cons n ns=>
   cases i with
   |zero=>obtain rfl:=jS e1;exact(bv _ .here ⟨_,_,rfl,bv X rfl hx,r⟩)
   |succ i=>refine bn (ih (ns:=ns) (i:=i) r e1 (ZQ e2)) λV' p hV=>?_;exact(bv _ (.there p) ⟨_,_,rfl,h,hV⟩)
def FX (τ:Tb) (o:Obj) (f:List (Nat×SV)):Prop:=∃es n,o=dictOf es n∧es.length≤f.length∧(∃mm:Str->Option Value,(∀x,getL x es=some (mm x))∧(∀a,a<58->RO τ (f.lookup a) (mm (cK a)))∧∀x,(∀a,a<58->x≠cK a)->mm x=.none)
variable {o:Obj} {f:List (Nat×SV)}
theorem FX.up (h:FX τ o f) (t:τ.le τ'):FX τ' o f:=by
 refine jv h λc n e z b=>?_;refine ia b λd g r q=>?_;exact(kh c n e z (ju d g (λa i=>(r a i).up t) q))
def RK (τ:Tb):List (Str×SV)->List (Str×Value)->Prop
 |[],Vs=>Vs=[]
 |a::r,Vs=>∃V Ws,Vs=(a.1,V)::Ws∧RV τ a.2 V∧RK τ r Ws
theorem RK.up (t:τ.le τ') {v:List (Str×SV)}:∀{V:List (Str×Value)},RK τ v V->RK τ' v V:=by
 induction v with
 |nil=>exactλr=>r
 |cons a v ih=>exactλ⟨A,B,e,h,r⟩=>(kh A B e (h.up t) (ih r))
def JE (τ:Tb) (cn:List Str) (cs:List Nat) (clos:List (Str×Addr)):Prop:=∀(i:Nat) (y:Str),cn[i]?=some y->∃k a d,cs[i]?=some k∧τ k=some (a,d)∧clos.lookup y=some a
def jh (τ:Tb):List ((Nat×Nat)×Nat)->List Value->Prop
 |[],ps=>ps=[]
 |p::r,ps=>∃t u c e rest,ps=.int p.1.1 t:: .int p.1.2 u:: .ref c::rest∧τ p.2=some (c,e)∧jh τ r rest
theorem jh.up (t:τ.le τ') {es:List ((Nat×Nat)×Nat)}:∀{ps:List Value},jh τ es ps->jh τ' es ps:=by
 induction es with
 |nil=>exactλh=>h
 |cons p r ih=>rintro ps ⟨a,b,c,e,d,i,g,f⟩;exact(Eg a b c e d i (t _ _ g) (ih f))
def XF (τ:Tb) (l:bu) (x:Addr) (d:Option Nat):Prop:=match d with
 |none=>∃a,(x,kR 438 none a)∈l
 |some k=>∃a D e,τ k=some (D,e)∧(x,kR 438 (some D) a)∈l
end
inductive LsR (τ:Tb) (l:bu) (x:Addr) (xs:List SV):Prop
 |mk (vs:List Value) (n:Nat) (h:(x,aL vs n)∈l) (r:bZ τ xs vs):LsR τ l x xs
inductive ExR (τ:Tb) (l:bu) (x:Addr) (k:Nat):Prop
 |mk (n:Array Value) (sl:Array (Option Value)) (D e:Addr) (h:τ k=some (D,e)) (i:(x,(⟨.ref 438,some D,.fields n,sl⟩:Obj))∈l):ExR τ l x k
inductive InR (τ:Tb) (l:bu) (x d C:Addr) (f:List (Nat×SV)):Prop
 |mk (o:Obj) (i:(x,instObj C d)∈l) (j:(d,o)∈l) (h:FX τ o f):InR τ l x d C f
def gH (w:World) (τ:Tb) (l:bu) (x d:Addr) (o:SO):Prop:=match o with
 |.inst C f=>InR τ l x d C f
 |.list xs=>LsR τ l x xs
 |.tup xs=>∃vs,(x,cR vs)∈l∧bZ τ xs vs
 |.dic xs=>∃vs o,(x,o)∈l∧SD PP w o vs∧RK τ xs vs∧(x==sysModules)=false
 |.dic0=>(x,dictOf [] 0)∈l∧(x==sysModules)=false
 |.excF d=>XF τ l x d
 |.exc k=>ExR τ l x k
 |.xdic f=>∃o,(x,o)∈l∧FX τ o f
 |.cell v=>∃V o,(x,o)∈l∧ff o V∧RO τ v V
 |.clo j cs kc=>∃clos pm ctv c e,(x,kla_obj "<lambda>" (aT j).qual (aT j).params (aT j).body (aT j).scope clos pm c ctv)∈l∧τ kc=some (c,e)∧JE τ (aT j).cn cs clos
 |.ctab P es=>x=P∧∃ps:Array Value,(x,tabObj ps)∈l∧jh τ es ps.toList
 |.code q=>∃oc vs t,(x,oc)∈l∧oc.data=.fields vs∧vs[1]?=some (.str q t)
 |.rng a b=>∃t u v,(x,Da a b 1 t u v)∈l
 |.raw xs vs=>(x,aL vs 0)∈l∧bZ τ xs vs
 |.opq=>True
section
variable {τ τ':Tb} {x d:Addr} {o:SO}
set_option tactic.hygienic true in
theorem gH.go {w:World} {l l':bu} (r:gH w τ l x d o) (t:τ.le τ') (m:∀q∈l,q.1=x∨q.1=d->q∈l'):gH w τ' l' x d o:=by
 cases o
 case inst=>obtain⟨o,f,g,h⟩:=r;exact⟨o,m _ f (.inl rfl),m _ g (.inr rfl),h.up t⟩
 case list=>obtain⟨a,b,f,g⟩:=r;exact⟨a,b,m _ f (.inl rfl),g.up t⟩
 case tup=>refine bn r λa f g=>?_;exact(bv a (m _ f (.inl rfl)) (g.up t))
 case dic=>refine ux r λa b f g h z=>?_;exact(yv a b (m _ f (.inl rfl)) g (RK.up t h) z)
 case dic0=>exact⟨m _ r.1 (.inl rfl),r.2⟩
 case excF d=>
  cases d with
  |none=>obtain⟨a,f⟩:=r;exact⟨a,m _ f (.inl rfl)⟩
  |some k=>refine uz r λa D e f g=>?_;exact(uA a D e (t _ _ f) (m _ g (.inl rfl)))
 case exc=>obtain⟨n,s,D,e,f,g⟩:=r;exact⟨n,s,D,e,t _ _ f,m _ g (.inl rfl)⟩
 case xdic=>refine bn r λo g h=>?_;exact(bv o (m _ g (.inl rfl)) (h.up t))
 case cell=>refine jv r λV o f g h=>?_;exact(kh V o (m _ f (.inl rfl)) g (h.up t))
 case clo=>
  refine VY r λa b c d e f g h=>?_;refine(Eg a b c d e (m _ f (.inl rfl)) (t _ _ g) (λi y u=>?_));refine oH (h i y u) λk a d v A p=>?_;exact(nG k a d v (t _ _ A) p)
 case ctab=>obtain⟨e,j,f,g⟩:=r;exact⟨e,j,m _ f (.inl rfl),g.up t⟩
 case code=>refine uz r λa b c f g=>?_;exact(uA a b c (m _ f (.inl rfl)) g)
 case rng=>refine tC r λa b c f=>?_;exact(xI a b c (m _ f (.inl rfl)))
 case raw=>exact⟨m _ r.1 (.inl rfl),r.2.up t⟩
 all_goals trivial
end
inductive LsK (τ:Tb) (l:bu) (x:Addr) (K:List SV->Prop):Prop
 |mk (xs:List SV) (vs:List Value) (n:Nat) (h:(x,aL vs n)∈l) (r:bZ τ xs vs) (k:K xs):LsK τ l x K
section
variable {τ:Tb} {l:bu} {x d:Addr} {o:SO}
set_option tactic.hygienic true in
theorem qQ {w:World} {K:List SV->Prop} (h:xf o K) (r:gH w τ l x d o):LsK τ l x K:=by
 cases o
 case list xs=>obtain⟨vs,n,b,a⟩:=r;exact⟨xs,vs,n,b,a,h⟩
 case raw xs vs=>exact⟨xs,vs,0,r.1,r.2,h⟩
 all_goals exact h.elim
structure Xs where
 own:bu
 far:bu
end
inductive ROb (w:World) (τ:Tb) (l:bu) (k:Nat) (o:SO):Prop
 |mk (x d:Addr) (e:τ k=some (x,d)) (r:gH w τ l x d o):ROb w τ l k o
inductive RGt (w:World) (τ:Tb) (l:bu) (k:Nat) (o:SO) (V:Value):Prop
 |mk (x d:Addr) (e:V=.ref x) (h:τ k=some (x,d)) (r:gH w τ l x d o):RGt w τ l k o V
structure aD (w:World) (τ:Tb) (σ:Sg) (X:Xs) (l:bu):Prop where
 nx:∀k p,τ k=some p->k<σ.nx
 ob:∀k o,σ.ob k=some o->ROb w τ l k o
 dj:∀k k' p p',τ k=some p->τ k'=some p'->k≠k'->p.1≠p'.1∧p.1≠p'.2∧p.2≠p'.1∧p.2≠p'.2
 nz:∃z,z∈l.map (·.1)∧∀q∈X.far,z≠q.1
 inl:∀k p,τ k=some p->p.1∈l.map (·.1)∧p.2∈l.map (·.1)
 X1:∀q∈X.own++X.far,q∈l
 X2:∀k o p,σ.ob k=some o->τ k=some p->∀q∈X.own,q.1≠p.1∧q.1≠p.2
 X3:∀k p,τ k=some p->∀q∈X.far,q.1≠p.1∧q.1≠p.2
section
variable {w:World} {τ:Tb} {σ:Sg} {X:Xs} {l:bu}
theorem aD.ne (R:aD w τ σ X l):l≠[]:=λe=>by
 refine bn R.nz λz h Z=>?_;rw[e]at h;cases h
theorem aD.fresh (R:aD w τ σ X l):τ σ.nx=none:=by
 cases h:τ σ.nx with
 |none=>rfl
 |some p=>exact absurd (R.nx _ _ h) (XX _)
variable {k:Nat} {o:SO} {V:Value}
theorem aD.get (R:aD w τ σ X l) (rv:RV τ (.ref k) V) (h:σ.ob k=some o):RGt w τ l k o V:=by
 obtain⟨x,d,e,b⟩:=rv;obtain⟨g,f,a,c⟩:=R.ob k o h;rw[b]at a;cases a;exact⟨x,d,e,b,c⟩
theorem aD.le_up (R:aD w τ σ X l) (p:Addr×Addr):τ.le (τ.up σ.nx p):=λk q h=>by
 unfold Tb.up;rw[Xh (λe=>?_)]
 ·exact h
 ·rw[e,R.fresh]at h;exact cZ h
variable {l':bu}
theorem aD.cong (R:aD w τ σ X l) (m:∀q∈l,q∈l'):aD w τ σ X l':=by
 refine⟨R.nx,λk o h=>?_,R.dj,?_,λk p h=>?_,λq a=>m q (R.X1 q a),R.X2,R.X3⟩
 ·obtain⟨x,d,e,r⟩:=R.ob k o h
  exact⟨x,d,e,r.go Tb.le.refl λq a Z=>m q a⟩
 ·refine bn R.nz λz v n=>?_
  refine bn (Xb.mp v) λq a b=>?_;obtain rfl:=b;exact(bv q.1 (Xm (f:=(·.1)) (m q a)) n)
 ·obtain⟨y,i⟩:=R.inl k p h
  refine bn (Xb.mp y) λc s t=>?_;refine bn (Xb.mp i) λg j u=>?_;exact⟨Xb.mpr (bv c (m c s) t),Xb.mpr (bv g (m g j) u)⟩
variable {x d:Addr}
theorem aD.new (R:aD w τ σ X l) {n:bu} (hx:x∉l.map (·.1)) (hd:d∉l.map (·.1)) (ix:x∈n.map (·.1)) (id':d∈n.map (·.1)) (r:gH w (τ.up σ.nx (x,d)) (n++l) x d o):aD w (τ.up σ.nx (x,d)) (σ.new o) X (n++l):=by
 have m:=R.le_up (x,d);have g:∀k p,(τ.up σ.nx (x,d)) k=some p->(k=σ.nx∧p=(x,d))∨(k≠σ.nx∧τ k=some p):=λk p h=>by
  unfold Tb.up at h;split at h
  ·exact .inl ⟨‹_›,(W7 h).symm⟩
  ·exact .inr ⟨‹_›,h⟩
 refine⟨λk p h=>?_,λk s h=>?_,λk y p u h j e=>?_,R.nz.imp λz t=>⟨by rw[Xa];exact WW _ t.1,t.2⟩,λk p h=>?_,λq c=>WW _ (R.X1 q c),λk s p h f q c=>?_,λk p f q c=>?_⟩
 ·rcases g k p h with⟨rfl,_⟩|⟨_,h⟩
  ·exact XY _
  ·exact Zg (R.nx _ _ h)
 ·by_cases e:k=σ.nx
  ·subst e
   rw[ac]at h;obtain rfl:=jS h;exact⟨x,d,Xn rfl,r⟩
  ·rw[dY e]at h
   obtain⟨a,b,v,A⟩:=R.ob k s h;exact⟨a,b,m _ _ v,A.go m λq c Z=>WW _ c⟩
 ·rcases g k p h with⟨rfl,rfl⟩|⟨_,h⟩<;>rcases g y u j with⟨rfl,rfl⟩|⟨_,j⟩
  ·exact absurd rfl e
  ·have z:=R.inl _ _ j
   exact(f4 (λe=>hx ((show x=_ from e)▸z.1)) (λe=>hx ((show x=_ from e)▸z.2)) (λe=>hd ((show d=_ from e)▸z.1)) (λe=>hd ((show d=_ from e)▸z.2)))
  ·have z:=R.inl _ _ h
   exact(f4 (λe=>hx ((show _=x from e)▸z.1)) (λe=>hd ((show _=d from e)▸z.1)) (λe=>hx ((show _=x from e)▸z.2)) (λe=>hd ((show _=d from e)▸z.2)))
  ·exact R.dj _ _ _ _ h j e
 ·rw[Xa]
  rcases g k p h with⟨rfl,rfl⟩|⟨_,h⟩
  ·exact⟨W3 _ ix,W3 _ id'⟩
  ·exact⟨WW _ (R.inl _ _ h).1,WW _ (R.inl _ _ h).2⟩
 ·have i:q.1∈l.map (·.1):=Xm (R.X1 q (W3 _ c))
  rcases g k p f with⟨rfl,rfl⟩|⟨ne,f⟩
  ·exact⟨λe=>hx ((show _=x from e)▸i),λe=>hd ((show _=d from e)▸i)⟩
  ·rw[dY ne]at h
   exact R.X2 _ _ _ h f q c
 ·have i:q.1∈l.map (·.1):=Xm (R.X1 q (WW _ c))
  rcases g k p f with⟨rfl,rfl⟩|⟨ne,f⟩
  ·exact⟨λe=>hx ((show _=x from e)▸i),λe=>hd ((show _=d from e)▸i)⟩
  ·exact R.X3 _ _ f q c
theorem aD.new1 {D:Addr} {ob:Obj} (R:aD w τ σ X l) (k:aY ((D,ob)::l)) (r:gH w (τ.up σ.nx (D,D)) ((D,ob)::l) D D o):aD w (τ.up σ.nx (D,D)) (σ.new o) X ((D,ob)::l):=
 have h:=(W2.mp k.nd).1
 R.new (n:=[(D,ob)]) h h (.head _) (.head _) r
theorem aD.chg (R:aD w τ σ X l) {o0 o:SO} {x d a:Addr} (h:σ.ob k=some o0) (ht:τ k=some (x,d)) (ha:a=x∨a=d) (hl:∀q∈l,q.1≠a->q∈l') (hm:∀z,z∈l.map (·.1)->z∈l'.map (·.1)) (r:gH w τ l' x d o):aD w τ (σ.set k o) X l':=by
 refine⟨R.nx,λf g b=>?_,R.dj,R.nz.imp λz j=>⟨hm _ j.1,j.2⟩,λf p b=>⟨hm _ (R.inl _ _ b).1,hm _ (R.inl _ _ b).2⟩,λq hq=>hl q (R.X1 q hq) ?_,λf g p b i=>?_,R.X3⟩
 ·by_cases e:f=k
  ·subst e
   rw[aE h]at b;cases b;exact⟨x,d,ht,r⟩
  ·rw[au e]at b
   obtain⟨t,m,c,s⟩:=R.ob f g b;refine⟨t,m,c,s.go Tb.le.refl λq hq hx=>hl q hq λn=>?_⟩;rcases ha with rfl|rfl<;>rcases hx with hx|hx<;>rw[n]at hx
   ·exact(R.dj _ _ _ _ c ht e).1 hx.symm
   ·exact(R.dj _ _ _ _ c ht e).2.2.1 hx.symm
   ·exact(R.dj _ _ _ _ c ht e).2.1 hx.symm
   ·exact(R.dj _ _ _ _ c ht e).2.2.2 hx.symm
 ·rcases W6.mp hq with hq|hq
  ·have z:=R.X2 _ _ _ h ht q hq
   rcases ha with rfl|rfl
   ·exact z.1
   ·exact z.2
  ·have z:=R.X3 _ _ ht q hq
   rcases ha with rfl|rfl
   ·exact z.1
   ·exact z.2
 ·by_cases e:f=k
  ·subst e;exact R.X2 _ _ _ h i
  ·rw[au e]at b;exact R.X2 _ _ _ b i
variable {q:Addr×Obj}
theorem aD.lay (R:aD w τ σ X l) (h:q.1∉l.map (·.1)):aD w τ σ ⟨X.own,q::X.far⟩ (q::l):=by
 have a:=R.cong (l':=q::l) λp hp=>.tail _ hp;refine⟨a.nx,a.ob,a.dj,R.nz.imp λz b=>⟨.tail _ b.1,λp hp=>(WY.mp hp).elim (λe f=>h (by rw[←e,←f];exact b.1)) (b.2 p)⟩,a.inl,λp hp=>?_,a.X2,λk p c d hp=>?_⟩
 ·rcases W6.mp hp with hp|hp
  ·exact a.X1 p (W3 _ hp)
  ·rcases WY.mp hp with rfl|hp
   ·exact .head _
   ·exact a.X1 p (WW _ hp)
 ·rcases WY.mp hp with rfl|hp
  ·have z:=R.inl _ _ c
   exact⟨λe=>h (e▸z.1),λe=>h (e▸z.2)⟩
  ·exact R.X3 _ _ c d hp
theorem aD.unlay (R:aD w τ σ ⟨X.own,q::X.far⟩ l):aD w τ σ X l:=
 ⟨R.nx,R.ob,R.dj,R.nz.imp λz b=>⟨b.1,λp a=>b.2 p (.tail _ a)⟩,R.inl,λp a=>R.X1 p ((W6.mp a).elim (W3 _) λz=>WW _ (.tail _ z)),R.X2,λk p h c a=>R.X3 k p h c (.tail _ a)⟩
theorem aD.drop {r:bu} (R:aD w τ σ ⟨X.own,q::X.far⟩ l) (hk:∀p∈X.own++X.far,p.1≠q.1) (hl:∀p∈l,p.1≠q.1->p∈r):aD w τ σ X r:=by
 have a:∀z,z∈l.map (·.1)->z≠q.1->z∈r.map (·.1):=λz c n=>by
  refine bn (Xb.mp c) λp b g=>?_;obtain rfl:=g;exact Xm (hl p b n)
 have f:∀k p,τ k=some p->p.1≠q.1∧p.2≠q.1:=λk p h=>(R.X3 k p h q (.head _)).imp Ne.symm Ne.symm;refine⟨R.nx,λk i h=>?_,R.dj,R.nz.imp λz c=>⟨a _ c.1 (c.2 q (.head _)),λp b=>c.2 p (.tail _ b)⟩,λk p h=>⟨a _ (R.inl _ _ h).1 (f k p h).1,a _ (R.inl _ _ h).2 (f k p h).2⟩,λp b=>hl p (R.X1 p ((W6.mp b).elim (W3 _) λz=>WW _ (.tail _ z))) (hk p b),R.X2,λk p h m b=>R.X3 k p h m (.tail _ b)⟩;obtain⟨x,d,e,r⟩:=R.ob k i h;exact⟨x,d,e,r.go Tb.le.refl λp b hx=>hl p b λj=>by
  rcases hx with hx|hx<;>rw[j]at hx
  ·exact(f k _ e).1 hx.symm
  ·exact(f k _ e).2 hx.symm⟩
theorem aD.adopt {D:Addr} {EE:Obj} (R:aD w τ σ ⟨X.own,(D,EE)::X.far⟩ l) (hk:∀p∈X.own++X.far,p.1≠D) (r:gH w (τ.up σ.nx (D,D)) l D D o):aD w (τ.up σ.nx (D,D)) (σ.new o) X l:=by
 have n:∀k p,τ k=some p->D≠p.1∧D≠p.2:=λk p h=>R.X3 k p h _ (.head _);have g:∀k p,(τ.up σ.nx (D,D)) k=some p->(k=σ.nx∧p=(D,D))∨(k≠σ.nx∧τ k=some p):=λk p h=>by
  unfold Tb.up at h;split at h
  ·exact .inl ⟨‹_›,(W7 h).symm⟩
  ·exact .inr ⟨‹_›,h⟩
 have i:D∈l.map (·.1):=Xm (f:=(·.1)) (R.X1 (D,EE) (WW _ (.head _)));refine⟨λk p h=>?_,λk s h=>?_,λk x p u h j e=>?_,R.nz.imp λz t=>⟨t.1,λp m=>t.2 p (.tail _ m)⟩,λk p h=>?_,λp m=>R.X1 p ((W6.mp m).elim (W3 _) λz=>WW _ (.tail _ z)),λk s p h c q d=>?_,λk p c q d=>?_⟩
 ·rcases g k p h with⟨rfl,_⟩|⟨_,h⟩
  ·exact XY _
  ·exact Zg (R.nx _ _ h)
 ·by_cases e:k=σ.nx
  ·subst e
   rw[ac]at h;obtain rfl:=jS h;exact⟨D,D,Xn rfl,r⟩
  ·rw[dY e]at h
   obtain⟨a,b,v,y⟩:=R.ob k s h;exact⟨a,b,(R.le_up (D,D)) _ _ v,y.go (R.le_up (D,D)) λq d Z=>d⟩
 ·rcases g k p h with⟨rfl,rfl⟩|⟨_,h⟩<;>rcases g x u j with⟨rfl,rfl⟩|⟨_,j⟩
  ·exact absurd rfl e
  ·have z:=n _ _ j
   exact(f4 z.1 z.2 z.1 z.2)
  ·have z:=n _ _ h
   exact(f4 z.1.symm z.1.symm z.2.symm z.2.symm)
  ·exact R.dj _ _ _ _ h j e
 ·rcases g k p h with⟨rfl,rfl⟩|⟨_,h⟩
  ·exact⟨i,i⟩
  ·exact R.inl _ _ h
 ·rcases g k p c with⟨rfl,rfl⟩|⟨ne,c⟩
  ·have z:=hk q (W3 _ d);exact⟨z,z⟩
  ·rw[dY ne]at h
   exact R.X2 _ _ _ h c q d
 ·rcases g k p c with⟨rfl,rfl⟩|⟨ne,c⟩
  ·have z:=hk q (WW _ d);exact⟨z,z⟩
  ·exact R.X3 _ _ c q (.tail _ d)
variable {o:Obj}
theorem aD.far (R:aD w τ σ ⟨X.own,q::X.far⟩ l) (hk:∀p∈X.own++X.far,p.1≠q.1) (hl:∀p∈l,p.1≠q.1->p∈l') (hm:(q.1,o)∈l'):aD w τ σ ⟨X.own,(q.1,o)::X.far⟩ l':=by
 have a:∀z,z∈l.map (·.1)->z∈l'.map (·.1):=λz b=>by
  refine bn (Xb.mp b) λp hp c=>?_;obtain rfl:=c;by_cases e:p.1=q.1
  ·rw[e];exact Xm (f:=(·.1)) hm
  ·exact Xm (hl p hp e)
 refine⟨R.nx,λk g h=>?_,R.dj,R.nz.imp λz b=>⟨a _ b.1,λp hp=>(WY.mp hp).elim (λe=>by rw[e];exact b.2 q (.head _)) λhp=>b.2 p (.tail _ hp)⟩,λk p h=>⟨a _ (R.inl _ _ h).1,a _ (R.inl _ _ h).2⟩,λp hp=>?_,R.X2,λk p h j hp=>?_⟩
 ·obtain⟨x,d,e,r⟩:=R.ob k g h
  have z:=R.X3 _ _ e q (.head _);exact⟨x,d,e,r.go Tb.le.refl λp hp hx=>hl p hp λi=>by
   rcases hx with hx|hx<;>rw[i]at hx
   ·exact z.1 hx
   ·exact z.2 hx⟩
 ·rcases W6.mp hp with hp|hp
  ·exact hl p (R.X1 p (W3 _ hp)) (hk p (W3 _ hp))
  ·rcases WY.mp hp with rfl|hp
   ·exact hm
   ·exact hl p (R.X1 p (WW _ (.tail _ hp))) (hk p (WW _ hp))
 ·rcases WY.mp hp with rfl|hp
  ·exact R.X3 k p h q (.head _)
  ·exact R.X3 k p h j (.tail _ hp)
structure Ek where
 sc:Scope
 ns:List Str
 cn:List Str
 cm:Option (Scope×Str)
 lm:Bool
 cd:Value
 qn:Str
end
section
variable {w:World}
structure nB (env:Env) (x:Str) (c:Addr):Prop where
 kd:env.kindOf x=some .free
 at_:env.cells.lookup x=some c
 fn:env.scope.kind=.function
 nm:(x==("__classdict__":Str))=false
def nQ (lm:Bool) (env:Env) (x:Str) (c:Addr):Prop:=match lm with
 |false=>cV env x c
 |true=>nB env x c
variable {env:Env} {x:Str}
theorem nQ.at_ {lm:Bool} {c:Addr} (h:nQ lm env x c):env.cells.lookup x=some c:=by
 cases lm
 ·exact cV.at_ h
 ·exact nB.at_ h
def gF (c:Cf w) (κ:Ek) (fr:ca) (τ:Tb):Prop:=∀(i:Nat) (x:Str),κ.cn[i]?=some x->∃k a d,fr.cel[i]?=some k∧τ k=some (a,d)∧nQ κ.lm (c.ev κ.sc) x a
variable {c:Cf w} {κ:Ek} {fr:ca} {τ τ':Tb}
theorem gF.up (e:gF c κ fr τ) (t:τ.le τ'):gF c κ fr τ':=λi x h=>by
 refine oH (e i x h) λk a d b f g=>?_;exact(nG k a d b (t _ _ f) g)
def QH (c:Cf w) (κ:Ek) (fr:ca) (τ:Tb) (X:Xs) (env:Env) (s:Scope) (x:Str):Prop:=∃cl C oC v V,env=compEnvC s cl C (c.ev κ.sc)∧df s (c.ev κ.sc) cl∧(C,oC)∈X.far∧pn oC x V∧fr.cv=[v]∧RV τ v V
def iR (c:Cf w) (κ:Ek) (fr:ca) (τ:Tb) (X:Xs) (env:Env):Prop:=gF c κ fr τ∧match κ.cm with
 |none=>env=c.ev κ.sc
 |some (s,x)=>QH c κ fr τ X env s x
variable {X:Xs}
theorem iR.up (e:iR c κ fr τ X env) (t:τ.le τ'):iR c κ fr τ' X env:=by
 refine⟨e.1.up t,?_⟩;have z:=e.2;cases h:κ.cm with
 |none=>rw[h]at z;exact z
 |some p=>
  rw[h]at z;refine Nf z λk C a v V d f j g i b=>?_;exact(V4 k C a v V d f j g i (b.up t))
theorem iR.fnI (e:iR c κ fr τ X env) (hc:κ.cm=none):env=c.ev κ.sc:=by
 have z:=e.2;rw[hc]at z;exact z
variable {s:Scope}
theorem iR.cmI (e:iR c κ fr τ X env) (hc:κ.cm=some (s,x)):QH c κ fr τ X env s x:=by
 have z:=e.2;rw[hc]at z;exact z
theorem iR.fn (hc:κ.cm=none) (h:gF c κ fr τ):iR c κ fr τ X (c.ev κ.sc):=⟨h,by rw[hc]⟩
end
section
variable {w:World}
structure n0 (c:Cf w) (ns:List Str) (fr:ca) (σ:Sg) (τ:Tb) (X:Xs) (h:Heap) (g':Heap) (vs:List (Option Value)) (l:bu):Prop where
 T:KtsTurn (eq c.outer) c.g g'
 A:At (c.wg g') ns vs l h
 L:gO τ fr.loc vs
 R:aD w τ σ X l
def GL (w:World) (fs:List Addr) (g:Heap) (k:Nat) (σ:Sg) (τ:Tb) (X:Xs) (e:Addr) (h:Heap):Prop:=
 ∃kd D y z l,τ k=some (e,y)∧σ.ob k=some (.exc kd)∧τ kd=some (D,z)∧(∀q∈X.own,q.1≠e∧q.1≠y)∧(∀oe,aD w τ (σ.del k) X ((e,oe)::l))∧RX (.ref 438) (some D) fs g l e h
inductive BG (c:Cf w) (κ:Ek) (fr:ca) (k:Nat) (σ:Sg) (τ:Tb) (X:Xs) (e:Addr) (h:Heap):Prop
 |fresh {g' vs l kd D y z a σ0} (S:n0 c κ.ns fr σ0 τ X h g' vs l) (ht:τ k=some (e,y)) (hs:σ0.ob k=some (.excF (some kd))) (hd:τ kd=some (D,z)) (h1:(e,kR 438 (some D) a)∈l) (hσ:σ=σ0.set k (.exc kd))
 |call {g' vs l0 h0} (T:KtsTurn (eq c.outer) c.g g') (H:At (c.wg g') κ.ns vs l0 h0) (L:gO τ fr.loc vs) (q:GL w (eq (c.ev κ.sc::c.outer)) (hideAll h0 (l0.map (·.1))) k σ τ X e h)
def XL (c:Cf w) (κ:Ek) (fr:ca) (τ0:Tb) (X:Xs) (KE:KX):Prop:=∀k σ τ e h t,τ0.le τ->KE k σ->BG c κ fr k σ τ X e h->c.E (.ref e) ⟨h,c.gn,c.d,t,c.os⟩
def XQ (q:Cf w) (τ0:Tb) (X:Xs) (KE:KX):Prop:=∀k σ τ e h t,τ0.le τ->KE k σ->GL w (eq q.outer) q.g k σ τ X e h->q.E (.ref e) ⟨h,q.gn,q.d,t,q.os⟩
def aM (w:World) (m:Nat) (φ:List SV->Sg->KV->KX->Prop) (f:Value):Prop:=∀(q:Cf w) (Q:Value->Heap->Nat->Prop) h t τ σ X l args avs K KE,da q.A0 m->Cl q l h->aD w τ σ X l->bZ τ args avs->φ args σ K KE->XQ q τ X KE->(∀v σ τ' V h t g1 l,τ.le τ'->RV τ' v V->KtsTurn (eq q.outer) q.g g1->Ex g1 l h->aD w τ' σ X l->K v σ->Q V h t)->Co q f avs Q h t
def jo (w:World) (m:Nat) (φ:List SV->Sg->KV->KX->Prop):Prop:=∀(q:Cf w) (Q:Value->Heap->Nat->Prop) h t τ σ X l k V K KE,da q.A0 m->Cl q l h->aD w τ σ X l->RV τ (.ref k) V->φ [.ref k] σ K KE->XQ q τ X KE->(∀v σ τ' V h t g1 l,τ.le τ'->RV τ' v V->KtsTurn (eq q.outer) q.g g1->Ex g1 l h->aD w τ' σ X l->K v σ->Q V h t)->Co q V [] Q h t
structure ar (w:World) (Φ:Nat->eO) (n:Nat):Prop where
 ok:∀j,j≤n->∀f,Nat.blt f 10000=true->aM w (n - j) (Φ j f) (.ref f)
 lm:∀j,jo w n (Φ 0 (10000+j))
 no:∀j f args σ K KE,n<j->¬Φ j f args σ K KE
structure Hn (c:Cf w) (n:Nat) (κ:Ek):Prop extends Ok c n κ.sc κ.ns where
 Y:c.cd=κ.cd∧c.qual=κ.qn
variable {c:Cf w} {n:Nat}
theorem Hn.wE {κ:Ek} (O:Hn c n κ) (E':Value->Shared->Prop):Hn (c.wE E') n κ:=⟨O.toOk.wE E',O.Y⟩
end
section
variable {w:World}
structure Cw (w:World) (κ:Ek) where
 c:Cf w
 Φ:Nat->eO
 n:Nat
 env:Env
 fr:ca
 τ0:Tb
 X:Xs
 KE:KX
 P:ar w Φ n
 O:Hn c n κ
 E:XL c κ fr τ0 X KE
variable {κ:Ek}
inductive Hj (c:Cf w) (ns:List Str) (fr:ca) (σ:Sg) (τ:Tb) (X:Xs) (h:Heap):Prop
 |mk (g':Heap) (vs:List (Option Value)) (l:bu) (S:n0 c ns fr σ τ X h g' vs l):Hj c ns fr σ τ X h
structure Hs (G:Cw w κ) (τ:Tb) (σ:Sg) (h:Heap):Prop where
 V:iR G.c κ G.fr τ G.X G.env
 S:Hj G.c κ.ns G.fr σ τ G.X h
 le:G.τ0.le τ
def QE (G:Cw w κ) (τ:Tb) (K:KV) (Q:Value->Heap->Nat->Prop):Prop:=∀v σ τ' V h t,τ.le τ'->RV τ' v V->Hs G τ' σ h->K v σ->Q V h t
def QT (G:Cw w κ) (τ:Tb) (K:Bool->Sg->Prop) (Q:Bool->Heap->Nat->Prop):Prop:=∀v σ τ' h t,τ.le τ'->Hs G τ' σ h->K v σ->Q v h t
def QL (G:Cw w κ) (τ:Tb) (K:List SV->Sg->Prop) (Q:List Value->Heap->Nat->Prop):Prop:=∀v σ τ' V h t,τ.le τ'->bZ τ' v V->Hs G τ' σ h->K v σ->Q V h t
variable {τ τ1:Tb} {K:KV} {Q:Value->Heap->Nat->Prop}
theorem QE.pre {G:Cw w κ} (q:QE G τ K Q) (le:τ.le τ1):QE G τ1 K Q:=λv b a V h t l=>q v b a V h t (le.trans l)
variable {K:Bool->Sg->Prop} {Q:Bool->Heap->Nat->Prop}
theorem QT.pre {G:Cw w κ} (q:QT G τ K Q) (le:τ.le τ1):QT G τ1 K Q:=λv b a h t l=>q v b a h t (le.trans l)
def av (w:World) (κ:Ek) (e:Expr) (m:AE):Prop:=∀(G:Cw w κ) {τ σ h t K} {Q:Value->Heap->Nat->Prop},Hs G τ σ h->m G.Φ G.fr σ K G.KE->QE G τ K Q->Wp G.c (eval e G.env) Q h t
def fp (w:World) (κ:Ek) (e:Expr) (m:AT):Prop:=∀(G:Cw w κ) {τ σ h t K} {Q:Bool->Heap->Nat->Prop},Hs G τ σ h->m G.Φ G.fr σ K G.KE->QT G τ K Q->Wp G.c (isTrue e G.env (eval e G.env)) Q h t
def em (w:World) (κ:Ek) (es:List Expr) (m:AL):Prop:=∀(G:Cw w κ) {τ σ h t K} {Q:List Value->Heap->Nat->Prop},Hs G τ σ h->m G.Φ G.fr σ K G.KE->QL G τ K Q->Wa G.c G.env es Q h t
variable {G:Cw w κ} {τ':Tb} {σ:Sg} {h h':Heap} {t:Nat} {vs:List (Option Value)} {l:bu}
theorem Hs.go {σ':Sg} {g':Heap} (H:Hs G τ σ h) (t:τ.le τ') (S:n0 G.c κ.ns G.fr σ' τ' G.X h' g' vs l):Hs G τ' σ' h':=⟨H.V.up t,⟨_,_,_,S⟩,H.le.trans t⟩
variable {c:Cf w}
theorem bL {α:Type} {e:Sem α} {Q:α->Heap->Nat->Prop} (g':Heap) (x:Wp (c.wg g') e Q h t):Wp c e Q h t:=x
theorem qo {α:Type} {e:Sem α} {Q:α->Heap->Nat->Prop} (g':Heap) (x:Wp c e Q h t):Wp (c.wg g') e Q h t:=x
variable {K:KV} {Q:Value->Heap->Nat->Prop}
theorem lU {f:Nat} {args:List SV} {avs:List Value} (hf:Nat.blt f 10000=true) (H:Hs G τ σ h) (ha:bZ τ args avs) (m:G.Φ 0 f args σ K G.KE) (q:QE G τ K Q):Wp G.c (call (.ref f) avs) Q h t:=by
 obtain⟨A,vs,l,S⟩:=H.S;have O:=G.O.turn S.T;refine bL A (zw O S.A λB C s L n o x=>G.P.ok 0 (Nat.zero_le _) f hf B Q h t τ σ G.X _ args avs K G.KE s C S.R ha m (λk b c e p j i w fl=>x _ _ _ (G.E _ _ _ _ _ _ (H.le.trans i) w (.call S.T S.A (S.L.up i) ?_))) λv b c V p j E J a d g D u r=>?_)
 ·rw[n,o]at fl;exact fl
 ·rw[n,o]at g
  refine ia (HE O S.A g D) λI y F z=>?_;exact q v b c V p j a d (H.go a ⟨S.T.trans y,z,S.L.up a,u⟩) r
variable {V:Value}
theorem OB {j k:Nat} (H:Hs G τ σ h) (rv:RV τ (.ref k) V) (m:G.Φ 0 (10000+j) [.ref k] σ K G.KE) (q:QE G τ K Q):Wp G.c (call V []) Q h t:=by
 obtain⟨A,vs,l,S⟩:=H.S;have O:=G.O.turn S.T;refine bL A (zw O S.A λB C s L n o x=>G.P.lm j B Q h t τ σ G.X _ k V K G.KE s C S.R rv m (λk b c e p i g w fl=>x _ _ _ (G.E _ _ _ _ _ _ (H.le.trans g) w (.call S.T S.A (S.L.up g) ?_))) λv b c V p i E J a d f D u r=>?_)
 ·rw[n,o]at fl;exact fl
 ·rw[n,o]at f
  refine ia (HE O S.A f D) λI y F z=>?_;exact q v b c V p i a d (H.go a ⟨S.T.trans y,z,S.L.up a,u⟩) r
variable {v:SV}
theorem Hs.re (H:Hs G τ σ h) (rv:RV τ v V) (k:K v σ) (q:QE G τ K Q) (t:Nat):Q V h t:=q v σ τ V h t Tb.le.refl rv H k
variable {Q:Bool->Heap->Nat->Prop}
theorem Hs.rt {K:Bool->Sg->Prop} (H:Hs G τ σ h) {b:Bool} (k:K b σ) (q:QT G τ K Q) (t:Nat):Q b h t:=q b σ τ h t Tb.le.refl H k
variable {e e1 e2:Expr} {es:List Expr} {m m1 m2:AE} {ml:AL} {pos px:Pos} {x:Str} {i:Nat} {kk:Nat}
def aV (i:Nat):AE:=λZ fr σ K Z=>match fr.loc[i]? with
 |some (some v)=>K v σ
 |_=>False
theorem s_v (i:Nat) (hx:κ.ns[i]?=some x) (hc:κ.cm=none):av w κ (.Name x pos) (aV i):=by
 intro G c d h t K Q H m q;rw[H.V.fnI hc];obtain⟨a,vs,l,S⟩:=H.S;unfold aV at m;cases e:G.fr.loc[i]? with
 |none=>rw[e]at m;exact m.elim
 |some v=>cases v with
  |none=>rw[e]at m;exact m.elim
  |some v=>
   rw[e]at m;refine bn (S.L.slot hx e) λX s b=>?_;exact bL a (L8 (G.O.turn S.T) S.A s (H.re b m q _))
def aN:AE:=λZ Z σ K Z=>K .none σ
theorem s_n:av w κ (.Constant .none kk pos) aN:=λG Z Z Z Z Z Z H m q=>BY (H.re (v:=.none) rfl m q _)
def aB (b:Bool):AE:=λZ Z σ K Z=>K (.bool b) σ
theorem s_b {b:Bool}:av w κ (.Constant (.bool b) kk pos) (aB b):=λG Z Z Z Z Z Z H m q=>FR (H.re (v:=.bool b) rfl m q _)
def aI (i:Int):AE:=λZ Z σ K Z=>K (.int i) σ
theorem s_i {i:Int}:av w κ (.Constant (.int i) kk pos) (aI i):=λG Z Z Z Z Z Z H m q=>Mv (H.re (v:=.int i) ⟨_,rfl⟩ m q _)
def aS (z:Str):AE:=λZ Z σ K Z=>K (.str z) σ
theorem s_s {z:Str}:av w κ (.Constant (.str z) kk pos) (aS z):=λG Z Z Z Z Z Z H m q=>yN (H.re (v:=.str z) ⟨_,rfl⟩ m q _)
noncomputable def bA (κ:Ek) (x:Str):Bool:=(match κ.cm with
 |none=>κ.sc.kind== .function&&κ.sc.names.lookup x==some .globalImplicit
 |some p=>p.1.kind== .function&&p.1.names.lookup x==some .globalImplicit)&& !(x==("__debug__":Str))&& !(x==("__name__":Str))
variable {env:Env}
theorem gx (names:List (Str×NameKind)) (h:names.lookup x=some .globalImplicit):((names.map λ(n,k)=>if(k==NameKind.free&&env.scope.kind== .function&&env.kindOf n==some .cell)then(n,NameKind.cell)else(n,k)).lookup x)=some .globalImplicit:=by
 induction names with
 |nil=>exact cZ h
 |cons a r ih=>
  obtain⟨n,k⟩:=a;rw[Xk]at h;rw[W4];by_cases e:x=n
  ·subst e
   simp at h;subst h;simp
  ·have b:(x==n)=false:=by simpa using e
   simp only[b]at h;show List.lookup x ((if(k==NameKind.free&&env.scope.kind== .function&&env.kindOf n==some .cell)=true then(n,NameKind.cell)else(n,k))::_)=_;by_cases hc:(k==NameKind.free&&env.scope.kind== .function&&env.kindOf n==some .cell)=true
   ·rw[Xn hc,Xk,b];exact(ih h)
   ·rw[Xh hc,Xk,b];exact(ih h)
variable {X:Xs}
theorem bV {fr:ca} (V:iR c κ fr τ X env) (h:bA κ x=true):fM env x=true:=by
 unfold bA at h;rw[WU,WU]at h;obtain⟨⟨b,g⟩,f⟩:=h;cases e:κ.cm with
 |none=>
  rw[e]at b;rw[V.fnI e];rw[WU]at b;show((κ.sc.kind== .function)&&(κ.sc.names.lookup x==some .globalImplicit)&& !(x==("__debug__":Str))&& !(x==("__name__":Str))&&(mainGlobals==mainGlobals)&&(builtinsNs==builtinsNs))=true;rw[b.1,b.2,g,f];rfl
 |some p=>
  obtain⟨a,k⟩:=p;rw[e]at b;refine E52 (V.cmI e) λl C j v V d Z=>?_;obtain rfl:=d;rw[WU]at b;have i:(relabel a (c.ev κ.sc)).names.lookup x=some .globalImplicit:=gx (env:=c.ev κ.sc) _ (by simpa using b.2);show((a.kind== .function)&&((relabel a (c.ev κ.sc)).names.lookup x==some .globalImplicit)&& !(x==("__debug__":Str))&& !(x==("__name__":Str))&&(mainGlobals==mainGlobals)&&(builtinsNs==builtinsNs))=true;rw[b.1,i,g,f];simp
def aG (a:Addr):AE:=λZ Z σ K Z=>K (.glob a) σ
theorem s_g {a:Addr} (e:nsIn (HK w.params) mainGlobals x=some (some (.ref a))) (hx:bA κ x=true):av w κ (.Name x pos) (aG a):=by
 intro G c d h t K Q H m q;obtain⟨b,vs,l,S⟩:=H.S;exact bL b (tZ (G.O.turn S.T) S.A e (bV H.V hx) (H.re (v:=.glob a) rfl m q _))
def tX (op:Operator) (x y:SV) (K:SV->Prop):Prop:=match op with
 |.Add=>bI (Nat.beq (kd x) 3) (cj x λa=>cj y λb=>(a.length≤50000∧b.length≤50000)∧K (.str (a++b))) (aR x λi=>aR y λj=>K (.int (i+j)))
 |.Sub=>aR x λi=>aR y λj=>K (.int (i - j))
 |.Mult=>aR x λi=>aR y λj=>IntMulOk i j∧K (.int (i*j))
 |.Mod=>aR x λi=>aR y λj=>0<j∧K (.int (i % j))
 |.FloorDiv=>aR x λi=>aR y λj=>(0<j∧j<1073741824)∧K (.int (i / j))
 |.Pow=>aR x λi=>aR y λj=>(0≤i∧i<2 ^ 64∧0≤j∧j≤1000)∧K (.int (i ^ j.toNat))
 |_=>False
end
section
variable {w:World} {κ:Ek} {e e1 e2:Expr} {es:List Expr} {m m1 m2:AE} {ml:AL} {pos px:Pos} {x:Str} {i:Nat} {kk:Nat}
inductive On2 {α:Type} (c:α->Tok->Value) (A B:Value) (K:α->α->Prop):Prop
 |mk (i j:α) (u v:Tok) (a:A=c i u) (b:B=c j v) (k:K i j):On2 c A B K
variable {τ τ':Tb} {A B:Value}
theorem bR {x y:SV} {K:Int->Int->Prop} (ra:RV τ x A) (rb:RV τ' y B) (h:aR x λi=>aR y λj=>K i j):On2 Value.int A B K:=by
 obtain⟨i,a,h⟩:=bU h;obtain⟨j,b,h⟩:=bU h;subst a b;obtain⟨u,rfl⟩:=ra;obtain⟨v,rfl⟩:=rb;exact⟨_,_,_,_,rfl,rfl,h⟩
theorem kr {x y:SV} {K:Str->Str->Prop} (ra:RV τ x A) (rb:RV τ' y B) (h:cj x λi=>cj y λj=>K i j):On2 Value.str A B K:=by
 obtain⟨i,a,h⟩:=b0 h;obtain⟨j,b,h⟩:=b0 h;subst a b;obtain⟨u,rfl⟩:=ra;obtain⟨v,rfl⟩:=rb;exact⟨_,_,_,_,rfl,rfl,h⟩
variable {c:Cf w} {K:SV->Prop} {Q:Value->Heap->Nat->Prop}
theorem JW {op:Operator} {a b:SV} {h:Heap} {t:Nat} (ra:RV τ a A) (rb:RV τ' b B) (m:tX op a b K) (q:∀v V t,K v->RV τ v V->Q V h t):Wp c (binaryOp op A B) Q h t:=by
 cases op
 case Add=>
  cases z:Nat.beq (kd a) 3 with
  |true=>obtain⟨x,y,u,v,rfl,rfl,m⟩:=kr ra rb (m.br.1 z);exact Fw m.1.1 m.1.2 λd e=>q _ _ _ m.2 ⟨_,rfl⟩
  |false=>obtain⟨x,y,u,v,rfl,rfl,m⟩:=bR ra rb (m.br.2 z);exact I3 (q _ _ _ m ⟨_,rfl⟩)
 case Sub=>obtain⟨x,y,u,v,rfl,rfl,m⟩:=bR ra rb m;exact Cm (q _ _ _ m ⟨_,rfl⟩)
 case Mult=>obtain⟨x,y,u,v,rfl,rfl,m⟩:=bR ra rb m;exact UE m.1 (q _ _ _ m.2 ⟨_,rfl⟩)
 case Mod=>obtain⟨x,y,u,v,rfl,rfl,m⟩:=bR ra rb m;exact Lq m.1 (q _ _ _ m.2 ⟨_,rfl⟩)
 case FloorDiv=>obtain⟨x,y,u,v,rfl,rfl,m⟩:=bR ra rb m;exact Ix m.1.1 m.1.2 (q _ _ _ m.2 ⟨_,rfl⟩)
 case Pow=>obtain⟨x,y,u,v,rfl,rfl,m⟩:=bR ra rb m;exact SA m.1.1 m.1.2.1 m.1.2.2.1 m.1.2.2.2 (q _ _ _ m.2 ⟨_,rfl⟩)
 all_goals exact m.elim
def ap (op:Operator) (a b:AE):AE:=λΦ fr σ K KE=>a Φ fr σ (λx σ=>b Φ fr σ (λy σ=>tX op x y λv=>K v σ) KE) KE
theorem QW {op:Operator} (s1:av w κ e1 m1) (s2:av w κ e2 m2):av w κ (.BinOp e1 op e2 pos) (ap op m1 m2):=λG Z Z Z Z Z Z H m q=>
 rM (s1 G H m λu i o s r j c g h b=>s2 G h b λy x n p v z a e d f=>JW (g.up a) e f λZ Z t k l=>d.re l k (q.pre (c.trans a)) t)
noncomputable def Pu:List Addr:=[40,62,82,120,140,181,228,834]
noncomputable def NL:List (Addr×Nat):=[(834,0),(834,5),(834,6),(834,43)]
noncomputable def qp (C:Addr) (a:Nat):Bool:=Pu.contains C&&Nat.blt a 44&& !(NL.contains (C,a))
theorem Fj:(Pu.all λC=>(List.range 44).all λa=>NL.contains (C,a)||(kG (HK w.params) C (cK a)&&f9 (HK w.params) C (cK a)))=true:=by kernel_rfl
variable {C a:Nat}
theorem zc (h:qp C a=true):kG (HK w.params) C (cK a)=true∧f9 (HK w.params) C (cK a)=true∧a<58:=by
 unfold qp at h;rw[WU,WU,Xj,YW]at h;have z:=WZ.mp (WZ.mp (Fj (w:=w)) C (XU.mp h.1.1)) a (XG.mpr h.1.2);rw[h.2,Bool.false_or,WU]at z;exact⟨z.1,z.2,ZB h.1.2 (by decide)⟩
noncomputable def zz:List (Addr×Nat×Addr):=[(834,0,594),(834,44,615),(834,45,620),(834,46,627),(834,47,635),(834,48,642),(834,50,663),(834,6,677),(834,51,684),(834,52,691),(834,53,698),(834,54,705),(834,43,719),(834,55,761),(834,56,768),(228,49,225),(120,57,105)]
noncomputable def oO (C:Addr) (m:Nat):Option Addr:=(zz.find? λx=>Nat.beq x.1 C&&Nat.beq x.2.1 m).map (·.2.2)
theorem rE:(zz.all λx=>Nat.blt x.2.1 58&&(Nat.blt x.2.2 10000&&j0 (HK w.params) x.1 (cK x.2.1) x.2.2)&&keepIn (HK w.params) (.ref x.2.2))=true:=by kernel_rfl
theorem vf {C m fa:Nat} (h:oO C m=some fa):m<58∧j0 (HK w.params) C (cK m) fa=true∧keepIn (HK w.params) (.ref fa)=true∧Nat.blt fa 10000=true:=by
 refine bn (W8.mp h) λx b e=>?_;have z:=WZ.mp (rE (w:=w)) x (Yh b);have a:=Zx b;rw[WU,WU,WU,YW]at z;rw[WU]at a;cases W9 a.1;cases W9 a.2;subst e;exact(f4 z.1.1 z.1.2.2 z.2 z.1.2.1)
variable {l:bu}
theorem In.at_ {e:Addr×Obj} (h:e∈l):In e l:=.all h
variable {d:Addr} {o:Obj}
theorem dM (h:(d,o)∈l):∃pre post,l=pre++(d,o)::post∧∀o',dC d o o' l (pre++(d,o')::post):=by
 refine mY (List.append_of_mem h) λpre post a=>?_;obtain rfl:=a;exact(uu pre post rfl (λo'=>.app .here))
theorem cY {pre post:bu} {d:Addr} {o o':Obj}:∀q∈pre++(d,o)::post,q.1≠d->q∈pre++(d,o')::post:=λq hq a=>by
 rcases W6.mp hq with hq|hq
 ·exact W3 _ hq
 ·rcases WY.mp hq with rfl|hq
  ·exact absurd rfl a
  ·exact WW _ (.tail _ hq)
theorem cO {pre post:bu} {o o':Obj}:∀z,z∈(pre++(d,o)::post).map (·.1)->z∈(pre++(d,o')::post).map (·.1):=λz h=>by
 simpa using h
theorem dA {pre post:bu} {o':Obj}:(d,o')∈pre++(d,o')::post:=WW _ (.head _)
variable {f:List (Nat×SV)}
theorem FX.dm (h:FX τ o f):∃mm,cJ o mm f.length∧(∀a,a<58->RO τ (f.lookup a) (mm (cK a))):=by
 refine jv h λc n e z b=>?_;refine ia b λmm g r q=>?_;exact(bv mm ⟨c,n,e,g,z⟩ r)
theorem FX.get {x:SV} (h:FX τ o f) (ha:a<58) (hf:f.lookup a=some x):∃mm V,cJ o mm f.length∧mm (cK a)=some V∧RV τ x V:=by
 refine bn h.dm λmm D r=>?_;have z:=r a ha;rw[hf]at z;refine bn z λW e b=>?_;exact(kh mm W D e b)
theorem FX.non (h:FX τ o f) (ha:a<58) (hf:f.lookup a=none):∃mm,cJ o mm f.length∧mm (cK a)=none:=by
 refine bn h.dm λmm D r=>?_;have z:=r a ha;rw[hf]at z;exact(bv mm D z)
variable {G:Cw w κ} {σ:Sg} {h:Heap} {t:Nat}
def XfH (σ:Sg) (o:SO) (a:Nat) (K:SV->Prop):Prop:=bI (qz o) (ym o λd=>bN σ d λo=>BV o λf=>a=43∧bX (f.lookup a) K) (gw o λC f=>qp C a=true∧bX (f.lookup a) K)
def Df (σ:Sg) (v:SV) (a:Nat) (K:SV->Prop):Prop:=bF v λk=>bN σ k λo=>XfH σ o a K
theorem Bh:kg (HK w.params) 438 (cK 43)=true:=by kernel_rfl
variable {vs:List (Option Value)} {v:SV} {V:Value}
theorem Sa {ns:List Str} {X:Xs} (hX:(HK w.params).In c.g) (A:At c ns vs l h) (R:aD w τ σ X l) {expr:Bool} (rv:RV τ v V) (m:Df σ v a K) (q:∀x W,RV τ x W->K x->Q W h (t+1)):Wp c (getAttr V (cK a) expr) Q h t:=by
 obtain⟨k,rfl,o,hob,m⟩:=bh m;obtain⟨x,d,rfl,hk,e2⟩:=R.get rv hob;cases z:qz o with
 |true=>
  obtain⟨kd,rfl,o2,hob2,p1⟩:=ER (m.br.1 z);obtain⟨f,rfl,rfl,y,hf,qk⟩:=yX p1;obtain⟨n,F,D,e,s,j⟩:=e2;obtain⟨G,H,u,o,g,i⟩:=R.ob _ _ hob2;cases s.symm.trans u;refine jv (i.get (by decide) hf) λp W E e b=>?_;exact Wy (hX.keeps A.F.keep) ⟨(A.N _ j).1,rfl,rfl,(A.N _ g).1⟩ E e Bh b.handed (aJ (c:=c) (q _ _ b qk))
 |false=>
  obtain⟨C,f,rfl,hr,y,hf,qk⟩:=gf (m.br.2 z);obtain⟨o,j,g,i⟩:=e2;refine vR (zc (w:=w) hr) λB Z r=>?_;refine jv (i.get r hf) λp W D e b=>?_;exact Xbj A.F hX (f8 A.N (In.at_ j) (In.at_ g)) D e B b.handed (aJ (c:=c) (q _ _ b qk))
theorem lO {expr:Bool} (H:Hs G τ σ h) (rv:RV τ v V) (m:Df σ v a K) (q:∀x W,RV τ x W->K x->Q W h (t+1)):Wp G.c (getAttr V (cK a) expr) Q h t:=by
 obtain⟨b,vs,l,S⟩:=H.S;exact bL b (Sa (G.O.turn S.T).X S.A S.R rv m q)
variable {e3:Expr} {m3:AE} {mt mt1 mt2:AT} {apos:Pos} {QV:Value->Heap->Nat->Prop}
theorem pd {ob:Expr} {attr:Str} {env:Env} (hb:∀env x,attributeBase ob attr env x=x) (q:Wp c (eval ob env) (λov h t=>Wp c (getAttr ov attr true) QV h t) h t):Wp c (eval (.Attribute ob attr pos) env) QV h t:=by
 show wpAny _ _ (do
  let o ←attributeBase ob attr env (eval ob env)
  standAt pos.atName
  let r ←holding [o] (getAttr o attr true)
  letTemporaryGo ob o r
  pure r) _ _ _
 rw[hb];exact WV (q.go λov h t y=>WV (Yr (WV (XH (y.go λr h t y=>WV (wpAny_letTemporaryGo (W1 (aJ y))))))))
def aj (m:AE) (a:Nat):AE:=λΦ fr σ K KE=>m Φ fr σ (λv σ=>Df σ v a λx=>K x σ) KE
theorem CR {ob:Expr} {attr:Str} (a:Nat) (hn:cK a=attr) (hb:∀env x,attributeBase ob attr env x=x) (s:av w κ ob m):av w κ (.Attribute ob attr pos) (aj m a):=by
 subst hn;exactλG Z Z Z Z Z Z H m q=>pd hb (s G H m λh j g n i l f d b c=>lO b d c λx W e k=>b.re e k (q.pre f) _)
@[irreducible] noncomputable def aC (i:Nat):AE:=λZ fr σ K Z=>bX (fr.cel[i]?) λk=>bN σ k λo=>ja o λv=>bX v λv=>K v σ
theorem Js {fr:ca} {X:Xs} (ce:gF c κ fr τ) (hx:κ.cn[i]?=some x) (R:aD w τ σ X l) (mm:bX (fr.cel[i]?) λk=>bN σ k λo=>ja o λv=>bX v λv=>K v):
  ∃a o v V,nQ κ.lm (c.ev κ.sc) x a∧(a,o)∈l∧ff o (some V)∧RV τ v V∧K v:=by
 refine oH (ce i x hx) λk a d h j f=>?_;obtain⟨p,b,q,g,mm⟩:=mm;rw[h]at b;obtain rfl:=jS b;obtain⟨v,rfl,v',hv,mq⟩:=oU mm;subst hv;obtain⟨n,r,f1,V,o,m,e,W,rfl,rv⟩:=R.ob _ _ g;rw[j]at f1;cases f1;exact(uN _ _ _ _ f m e rv mq)
theorem s_c (i:Nat) (hx:κ.cn[i]?=some x) (hc:κ.cm=none) (hd:(!(x==("__debug__":Str)))=true):av w κ (.Name x pos) (aC i):=by
 intro G j k h t K Q H m q;unfold aC at m;rw[H.V.fnI hc];obtain⟨e,vs,l,S⟩:=H.S;refine rL (Js H.V.1 hx S.R m) λa o v V b g f d m=>?_;cases hl:κ.lm with
 |false=>rw[hl]at b;exact bL e (QU S.A b (In.at_ g) f hd (H.re d m q _))
 |true=>
  rw[hl]at b;exact bL e (Z8 (wpAny_loadName_free b.fn b.kd b.at_ (bv o ((S.A.N _ g).1) f) (aJ (c:=G.c) (H.re d m q _)) b.nm) (by simpa using hd))
theorem XfM (hl:κ.lm=false) (i:Nat) {s:Scope} {y:Str} (hx:κ.cn[i]?=some x) (hc:κ.cm=some (s,y)) (hb:(s.names.lookup x==some .free&& !(x==("__debug__":Str)))=true):av w κ (.Name x pos) (aC i):=by
 intro G r z h t K Q H m q;unfold aC at m;refine VY (H.V.cmI hc) λu C p n k e j Z=>?_;rw[e];obtain⟨d,vs,l,S⟩:=H.S;refine rL (Js H.V.1 hx S.R m) λa o v V b g f c m=>?_;rw[hl]at b;exact bL d (Sd S.A j b (In.at_ g) f hb (H.re c m q _))
def aX:AE:=λZ fr σ K Z=>one fr.cv λv=>K v σ
theorem s_x {s:Scope} (hc:κ.cm=some (s,x)) (hb:(s.kind== .function&&s.names.lookup x==some .local&& !(x==("__debug__":Str)))=true):av w κ (.Name x pos) aX:=by
 intro G j n h t K Q H m q;refine Nf (H.V.cmI hc) λk C i g f e o b d c r=>?_;rw[e];obtain⟨a,vs,l,S⟩:=H.S;unfold aX at m;rw[c]at m;rw[WU,WU]at hb;refine bL a (TL S.A (In.at_ (S.R.X1 _ (WW _ b))) d ?_ (H.re r m q _));rw[show(relabel s ((G.c.wg a).ev κ.sc)).names.lookup x=some .local from(lookup_relabel_local (by simpa using hb.1.2):(relabel s (G.c.ev κ.sc)).names.lookup x=some .local),hb.1.1,hb.2];rfl
theorem fj {j:Int} {n:Nat} (h0:0≤j) (h:j.toNat<n):seqIndex? j n=some j.toNat:=by
 unfold seqIndex?;have b:¬j<0:=by exact hO h0
 have a:j<n:=by exact I9 h0 h
 simp[b,h0,a]
def itm (xs:List SV) (j:Int) (K:SV->Prop):Prop:=(0≤j∧j<1000000)∧bX (xs[j.toNat]?) K
def XcR (o:SO) (j:Int) (K:SV->Prop):Prop:=bI (jQ o) (iZ o λxs=>itm xs j K) (xf o λxs=>bI (decide (j<0)) ((-(xs.length:Int)≤j∧-1000000≤j)∧bX (xs[(j+xs.length).toNat]?) K) (itm xs j K))
def xF (σ:Sg) (v i:SV) (K:SV->Prop):Prop:=aR i λj=>bI (Nat.beq (kd v) 3) (cj v λz=>(0≤j∧j<1000000)∧bX (z.cps[j.toNat]?) λc=>K (.str ⟨#[c]⟩)) (bF v λk=>bN σ k λo=>XcR o j K)
theorem P4 {v i:SV} {V I:Value} {value slice:Expr} (hs:∀o i:Value,subscripted slice false o i=operate [o,i] (getItem o i)) (H:Hs G τ σ h) (rv:RV τ v V) (ri:RV τ i I) (m:xF σ v i K) (q:∀x W t,RV τ x W->K x->Q W h t):Wp G.c (subscriptTail value slice V I) Q h t:=by
 obtain⟨j,rfl,m⟩:=bU m;obtain⟨u,rfl⟩:=ri;obtain⟨n,vs,l,S⟩:=H.S;cases z:Nat.beq (kd v) 3 with
 |true=>
  obtain⟨z,rfl,a,c,b,m⟩:=b0 (m.br.1 z);obtain⟨v,rfl⟩:=rv;refine tail_any (s:=⟨h,G.c.gn,G.c.d,t,G.c.os⟩) (typeIs_str _ _ _) PySem.F.slot_str_getitem.lookup (PySem.P.getItem_str ?_ (c:=_) ?_ (aJ (c:=G.c) (q (.str _) _ _ ⟨_,rfl⟩ m))) (hs _ _)
  ·simp;exact Xah a.1 a.2 (by decide)
  ·rw[fj a.1 (by have:=(XV.mp b).1;exact this)]
   exact b
 |false=>
  obtain⟨k,rfl,o,hob,p1⟩:=bh (m.br.2 z);obtain⟨y,d,rfl,hk,f2⟩:=S.R.get rv hob;cases z2:jQ o with
  |true=>
   obtain⟨A,rfl,a,x,b,g⟩:=iq (p1.br.1 z2);refine bn f2 λw e f=>?_;refine bn (f.get b) λV hV rv=>?_;exact bL n (item_tupleT (s:=⟨h,G.c.gn,G.c.d,t,G.c.os⟩) (gh S.A.N (In.at_ e)) (z8 a.1) (cQ a.2) (j:=_) (fj a.1 (Yx.mp hV).1) hV (aJ (c:=G.c) (q _ _ _ rv g)) (hs _ _))
  |false=>
   obtain⟨A,w,C,e,f,g⟩:=qQ (p1.br.2 z2) f2;cases hd:decide (j<0)with
   |false=>
    obtain⟨a,x,b,p⟩:=g.br.2 hd;refine bn (f.get b) λV hV rv=>?_;exact bL n (D7 S.A (In.at_ e) (by simp;exact Xcu a.1 a.2) hV (hs _ _) (q _ _ _ rv p))
   |true=>
    have B:=W5 hd;obtain⟨a,x,b,p⟩:=g.br.1 hd;refine bn (f.get b) λV hV rv=>?_;have r:=f.len;exact bL n (tail_any (s:=⟨h,G.c.gn,G.c.d,t,G.c.os⟩) (bJ S.A.N e).typeIs PySem.F.slot_list_getitem.lookup (wpAny_getItem_list_neg (bJ S.A.N e) B (by simp;lia) (by lia) (by simpa [r]using hV) (aJ (c:=G.c) (q _ _ _ rv p))) (hs _ _))
def ax (a b:AE):AE:=λΦ fr σ K KE=>a Φ fr σ (λx σ=>b Φ fr σ (λy σ=>xF σ x y λv=>K v σ) KE) KE
theorem Vx (hs:∀o i:Value,subscripted e2 false o i=operate [o,i] (getItem o i)) (s1:av w κ e1 m1) (s2:av w κ e2 m2):av w κ (.Subscript e1 e2 pos) (ax m1 m2):=λG Z Z Z Z Z Z H m q=>
 t8 (s1 G H m λx j r v u l d g h c=>s2 G h c λA z p s y B b e a f=>P4 hs a (g.up b) e f λZ Z t n k=>a.re n k (q.pre (d.trans b)) t)
@[irreducible] noncomputable def aA (a b:Str):Bool:=decide (a=b)
variable {a:Str}
theorem aQ:aA a a=true:=by unfold aA;simp
theorem cC {a b:Str}:(aA a b=false)=(a≠b):=by unfold aA;simp
noncomputable def lW:List Str:=["Kernel","Comparable","Enumerable"]
noncomputable def pv:List Str:=["NilClass","TrueClass","FalseClass","Integer","Symbol"]
theorem uT:fv (HK w.params) 546=some lW:=by kernel_rfl
theorem uU:fv (HK w.params) 558=some pv:=by kernel_rfl
theorem lw (l:List Str) (z:Str):(l.any λy=>y==z)=(l.any λy=>aA y z):=by
 congr 1;funext y;unfold aA;by_cases e:y=z<;>simp[e]
theorem tF {a b:Str} (h:a≠b):(a.cps.toList==b.cps.toList)=false:=by
 have:a.cps.toList≠b.cps.toList:=λe=>h (by
  cases a;cases b;congr;exact Array.toList_inj.mp e)
 simpa using this
theorem lx {ys:List Int}:∀{Vs:List Value},bZ τ (ys.map SV.int) Vs->IntsAre Vs ys:=by
 induction ys with
 |nil=>intro Vs r;obtain rfl:=r;exact .nil
 |cons y ys ih=>rintro Vs ⟨A,B,rfl,⟨u,rfl⟩,r⟩;exact .cons _ _ (ih r)
theorem sk {ys:List Str}:∀{Vs:List Value},bZ τ (ys.map SV.str) Vs->StrsAre Vs ys:=by
 induction ys with
 |nil=>intro Vs r;obtain rfl:=r;exact .nil
 |cons y ys ih=>rintro Vs ⟨A,B,rfl,⟨u,rfl⟩,r⟩;exact .cons _ _ (ih r)
noncomputable def nC (x:SV):Bool:=Nat.beq (kd x) 4||Nat.beq (kd x) 0
noncomputable def tj (x:SV):Option PyData:=match x with
 |.none=>some .none
 |.bool b=>some (.bool b)
 |.int i=>some (.int i)
 |.str z=>some (.str z)
 |_=>none
noncomputable def mz:List SV->Option (List PyData)
 |[]=>some []
 |x::r=>(tj x).bind λd=>(mz r).map (d::·)
end
section
variable {w:World} {κ:Ek} {G:Cw w κ} {τ:Tb} {σ:Sg} {h:Heap} {t:Nat}
inductive zq (σ:Sg) (x:SV):PyData->Prop
 |val (d:PyData) (h:tj x=some d):zq σ x d
 |list (k:Nat) (xs:List SV) (ds:List PyData) (hx:x=.ref k) (ho:σ.ob k=some (.list xs)) (h:mz xs=some ds):zq σ x (.list ds)
 |tup (k:Nat) (xs:List SV) (ds:List PyData) (hx:x=.ref k) (ho:σ.ob k=some (.tup xs)) (h:mz xs=some ds):zq σ x (.tuple ds)
inductive Wb (σ:Sg) (x y:SV) (K:Bool->Prop):Prop
 |mk (d e:PyData) (hx:zq σ x d) (hy:zq σ y e) (h:(SeqAt.shaped d&&SeqAt.shaped e)=true) (q:K (PyData.eqv d e))
def oV (σ:Sg) (x y:SV) (K:Bool->Prop):Prop:=bI (nC x) (Wb σ x y K) (bI (Nat.beq (kd x) 3) (cj x λa=>cj y λb=>K (aA a b)) (aR x λi=>aR y λj=>K (decide (i=j))))
@[irreducible] noncomputable def gP (x y:SV) (K:Bool->Prop):Prop:=(Nat.beq (kd y) 0=true)∧Nat.ble (kd x) 4=true∧K (Nat.beq (kd x) 0)
inductive InI (σ:Sg) (x:SV) (k:Nat) (K:Bool->Prop):Prop
 |d0 {z} (hx:x=.str z) (h:σ.ob k=some .dic0) (q:K false)
 |li {i:Int} {ys:List Int} (hx:x=.int i) (h:σ.ob k=some (.list (ys.map SV.int))) (q:K (ys.any (·==i)))
inductive XbC (σ:Sg) (x:SV) (k:Nat) (K:Bool->Prop):Prop
 |d0 {j:Int} (hx:x=.int j) (h:σ.ob k=some .dic0) (q:K true)
 |li {i:Int} {ys:List Int} (hx:x=.int i) (h:σ.ob k=some (.list (ys.map SV.int))) (q:K (!(ys.any (·==i))))
noncomputable def j6 (a:Addr):List Str:=cond (Nat.beq a 546) lW pv
def inT (x:SV) (a:Addr) (K:Bool->Prop):Prop:=((Nat.beq a 546||Nat.beq a 558)=true)∧cj x λz=>K ((j6 a).any λy=>aA y z)
def yq (σ:Sg) (x y:SV) (K:Bool->Prop):Prop:=bI (Nat.beq (kd y) 5) (gA y λa=>inT x a K) (bF y λk=>InI σ x k K)
def qy (σ:Sg) (x y:SV) (K:Bool->Prop):Prop:=bI (Nat.beq (kd y) 5) (gA y λa=>inT x a λb=>K (!b)) (bF y λk=>XbC σ x k K)
def iX (σ:Sg) (op:CmpOp) (x y:SV) (K:Bool->Prop):Prop:=match op with
 |.Lt=>aR x λi=>aR y λj=>K (decide (i<j))
 |.LtE=>aR x λi=>aR y λj=>K (decide (i≤j))
 |.Gt=>aR x λi=>aR y λj=>K (decide (j<i))
 |.GtE=>aR x λi=>aR y λj=>K (decide (j≤i))
 |.Eq=>oV σ x y K
 |.NotEq=>oV σ x y λb=>K (!b)
 |.Is=>gP x y K
 |.IsNot=>gP x y λb=>K (!b)
 |.In=>yq σ x y K
 |.NotIn=>qy σ x y K
variable {op:CmpOp} {a b:SV} {A B:Value} {K:Bool->Prop} {Q:Value->Heap->Nat->Prop}
theorem yu {y:SV} (h:Nat.beq (kd y) 0=true):y=.none:=by cases y<;>first|rfl|exact nomatch h
variable {c:Cf w}
theorem is_ (ra:RV τ a A) (rb:RV τ b B) (m:gP a b K) (q:∀b,K b->Q (.bool b) h t):Wp c (compareOp .Is A B) Q h t:=by
 unfold gP at m;obtain⟨e,f,m⟩:=m;cases yu e;obtain rfl:=rb;cases a
 case none=>obtain rfl:=ra;exact Xa3 (q _ m)
 case int=>obtain⟨u,rfl⟩:=ra;exact XaZ (q _ m)
 case str=>obtain⟨u,rfl⟩:=ra;exact Xdj (q _ m)
 case bool=>obtain rfl:=ra;exact Xaj (q _ m)
 case ref=>obtain⟨x,d,rfl,_⟩:=ra;exact N9 (q _ m)
 all_goals exact nomatch f
theorem Qz (ra:RV τ a A) (rb:RV τ b B) (m:gP a b λb=>K (!b)) (q:∀b,K b->Q (.bool b) h t):Wp c (compareOp .IsNot A B) Q h t:=by
 unfold gP at m;obtain⟨e,f,m⟩:=m;cases yu e;obtain rfl:=rb;cases a
 case none=>obtain rfl:=ra;exact OM (q _ m)
 case int=>obtain⟨u,rfl⟩:=ra;exact AQ (q _ m)
 case str=>obtain⟨u,rfl⟩:=ra;exact Uf (q _ m)
 case bool=>obtain rfl:=ra;exact ID (q _ m)
 case ref=>obtain⟨x,d,rfl,_⟩:=ra;exact Gw (q _ m)
 all_goals exact nomatch f
theorem Ky {a:Addr} (h:(Nat.beq a 546||Nat.beq a 558)=true):fv (HK w.params) a=some (j6 a):=by
 rw[Bool.or_eq_true]at h;rcases h with h|h
 ·cases W9 h;exact uT
 ·cases W9 h;exact uU
theorem in_ (H:Hs G τ σ h) (ra:RV τ a A) (rb:RV τ b B) (m:yq σ a b K) (q:∀b t',K b->Q (.bool b) h t'):Wp G.c (compareOp .In A B) Q h t:=by
 obtain⟨f,vs,l,S⟩:=H.S;cases e:Nat.beq (kd b) 5 with
 |true=>
  obtain⟨y,rfl,hy,m⟩:=gi (m.br.1 e);obtain rfl:=rb;obtain⟨z,rfl,m⟩:=b0 m;obtain⟨u,rfl⟩:=ra;refine bL f (inK (t:=t) S.A.F (G.O.turn S.T).X (b:=_) (by rw[Ky hy];rfl) (aJ (c:=G.c) (q _ _ ?_)));show K ((j6 y).any λy=>y==z);rw[lw];exact m
 |false=>
  obtain⟨k,rfl,m⟩:=bh (m.br.2 e);cases m with
  |d0 hx hob p=>
   subst hx;obtain⟨u,rfl⟩:=ra;obtain⟨y,d,rfl,hk,g1,g2⟩:=S.R.get rb hob;exact bL f (I6 S.A (In.at_ g1) kN g2 rfl (q _ _ p))
  |li hx hob p=>
   subst hx;obtain⟨u,rfl⟩:=ra;obtain⟨y,d,rfl,hk,ws,n',g1,g2⟩:=S.R.get rb hob;exact bL f (in_list_ints (s:=⟨h,G.c.gn,G.c.d,t,G.c.os⟩) (bJ S.A.N g1) (lx g2) (aJ (c:=G.c) (q _ _ p)))
theorem Xb3 (H:Hs G τ σ h) (ra:RV τ a A) (rb:RV τ b B) (m:qy σ a b K) (q:∀b t',K b->Q (.bool b) h t'):Wp G.c (compareOp .NotIn A B) Q h t:=by
 obtain⟨f,vs,l,S⟩:=H.S;cases e:Nat.beq (kd b) 5 with
 |true=>
  obtain⟨y,rfl,hy,m⟩:=gi (m.br.1 e);obtain rfl:=rb;obtain⟨z,rfl,m⟩:=b0 m;obtain⟨u,rfl⟩:=ra;refine bL f (sJ (G.O.turn S.T) S.A (b:=_) (by rw[Ky hy];rfl) (q _ _ ?_));show K (!((j6 y).any λy=>y==z));rw[lw];exact m
 |false=>
  obtain⟨k,rfl,m⟩:=bh (m.br.2 e);cases m with
  |d0 hx hob p=>
   subst hx;obtain⟨u,rfl⟩:=ra;obtain⟨y,d,rfl,hk,g1,g2⟩:=S.R.get rb hob;exact bL f (qi S.A (In.at_ g1) g2 (q _ _ p))
  |li hx hob p=>
   subst hx;obtain⟨u,rfl⟩:=ra;obtain⟨y,d,rfl,hk,ws,n',g1,g2⟩:=S.R.get rb hob;exact bL f (notin_list_ints (s:=⟨h,G.c.gn,G.c.d,t,G.c.os⟩) (bJ S.A.N g1) (lx g2) (aJ (c:=G.c) (q _ _ p)))
theorem jP {A:Around} {n:Nat} (r:da A n):A.units+64<cLine:=by
 have a:=r.u;have:(9100:Nat)≤cLine:=by decide
 lia
variable {x:SV} {V:Value}
theorem x8 {hh:Heap} {d:PyData} (r:RV τ x V) (h:tj x=some d):Reads hh V d []:=by
 cases x
 case none=>obtain rfl:=jS h;obtain rfl:=r;exact .none
 case bool=>obtain rfl:=jS h;obtain rfl:=r;exact .bool _
 case int=>obtain rfl:=jS h;obtain⟨u,rfl⟩:=r;exact .int _ _
 case str=>obtain rfl:=jS h;obtain⟨u,rfl⟩:=r;exact .str _ _
 all_goals exact cZ h
theorem zf {hh:Heap} {xs:List SV}:∀{Vs:List Value} {ds:List PyData},bZ τ xs Vs->mz xs=some ds->ReadsAll hh Vs ds []:=by
 induction xs with
 |nil=>intro Vs ds r h;obtain rfl:=r;obtain rfl:=jS h;exact .nil
 |cons x xs ih=>
  rintro Vs ds ⟨A,B,rfl,r1,r2⟩ h;refine bn (YG.mp h) λd b h=>?_;refine bn (W8.mp h) λe c a=>?_;obtain rfl:=a;exact .cons (as:=[]) (bs:=[]) (x8 r1 b) (ih r2 c)
theorem v8 {d:PyData} (H:Hs G τ σ h) (ra:RV τ a A) (m:zq σ a d):∃as,Reads h A d as:=by
 obtain⟨b,vs,l,S⟩:=H.S;cases m with
 |val d hd=>exact⟨_,x8 ra hd⟩
 |list k xs ds hx ho hd=>
  subst hx;obtain⟨y,d,rfl,hk,ws,n,g1,g2⟩:=S.R.get ra ho;exact⟨_,.list (S.A.N _ g1).1 rfl rfl (zf g2 hd)⟩
 |tup k xs ds hx ho hd=>
  subst hx;obtain⟨y,d,rfl,hk,ws,g1,g2⟩:=S.R.get ra ho;exact⟨_,.tuple (S.A.N _ g1).1 rfl rfl (zf g2 hd)⟩
theorem eq_ (H:Hs G τ σ h) (ra:RV τ a A) (rb:RV τ b B) (m:oV σ a b K) (q:∀b t',K b->Q (.bool b) h t'):Wp G.c (compareOp .Eq A B) Q h t:=by
 cases e0:nC a with
 |true=>
  obtain⟨d,e,i,g,f,p⟩:=m.br.1 e0;obtain⟨as,k⟩:=v8 H ra i;obtain⟨l,j⟩:=v8 H rb g;rw[WU]at f;exact SeqAt.compareEq_shaped (s:=⟨h,G.c.gn,G.c.d,t,G.c.os⟩) k j f.1 f.2 (jP G.O.rm) (aJ (c:=G.c) (q _ _ p))
 |false=>
  have m:=m.br.2 e0;cases z:Nat.beq (kd a) 3 with
  |true=>
   obtain⟨x,y,u,v,rfl,rfl,m⟩:=kr ra rb (m.br.1 z);by_cases e:x=y
   ·subst e;rw[aQ]at m;exact Ev (q _ _ m)
   ·rw[cC.mpr e]at m;exact F8 (tF e) (q _ _ m)
  |false=>obtain⟨x,y,u,v,rfl,rfl,m⟩:=bR ra rb (m.br.2 z);exact XcO (q _ _ m)
theorem ne_ (H:Hs G τ σ h) (ra:RV τ a A) (rb:RV τ b B) (m:oV σ a b λb=>K (!b)) (q:∀b t',K b->Q (.bool b) h t'):Wp G.c (compareOp .NotEq A B) Q h t:=by
 cases e0:nC a with
 |true=>
  obtain⟨d,e,i,g,f,p⟩:=m.br.1 e0;obtain⟨as,k⟩:=v8 H ra i;obtain⟨l,j⟩:=v8 H rb g;rw[WU]at f;exact SeqAt.compareNe_shaped (s:=⟨h,G.c.gn,G.c.d,t,G.c.os⟩) k j f.1 f.2 (jP G.O.rm) (aJ (c:=G.c) (q _ _ p))
 |false=>
  have m:=m.br.2 e0;cases z:Nat.beq (kd a) 3 with
  |true=>
   obtain⟨x,y,u,v,rfl,rfl,m⟩:=kr ra rb (m.br.1 z);by_cases e:x=y
   ·subst e;rw[aQ]at m;exact GG (q _ _ m)
   ·rw[cC.mpr e]at m;exact Aq (tF e) (q _ _ m)
  |false=>
   obtain⟨x,y,u,v,rfl,rfl,m⟩:=bR ra rb (m.br.2 z);refine Xdv (q _ _ ?_);have:(x !=y)= !decide (x=y):=by by_cases e:x=y<;>rfl
   rw[this];exact m
theorem wq (H:Hs G τ σ h) (ra:RV τ a A) (rb:RV τ b B) (m:iX σ op a b K) (q:∀b t',K b->Q (.bool b) h t'):Wp G.c (compareOp op A B) Q h t:=by
 cases op with
 |Lt=>obtain⟨x,y,u,v,rfl,rfl,m⟩:=bR ra rb m;exact Xau (q _ _ m)
 |LtE=>obtain⟨x,y,u,v,rfl,rfl,m⟩:=bR ra rb m;exact XaW (q _ _ m)
 |Gt=>obtain⟨x,y,u,v,rfl,rfl,m⟩:=bR ra rb m;exact Xbz (q _ _ m)
 |GtE=>obtain⟨x,y,u,v,rfl,rfl,m⟩:=bR ra rb m;exact XbB (q _ _ m)
 |Eq=>exact eq_ H ra rb m q
 |NotEq=>exact ne_ H ra rb m q
 |Is=>exact is_ ra rb m λb k=>q b _ k
 |IsNot=>exact Qz ra rb m λb k=>q b _ k
 |In=>exact in_ H ra rb m q
 |NotIn=>exact Xb3 H ra rb m q
variable {e e1 e2 e3:Expr} {m m1 m2 m3:AE} {pos:Pos}
def bG (op:CmpOp) (a b:AE):AE:=λΦ fr σ K KE=>a Φ fr σ (λx σ=>b Φ fr σ (λy σ=>iX σ op x y λv=>K (.bool v) σ) KE) KE
def ai (op:CmpOp) (a b:AE):AT:=λΦ fr σ K KE=>a Φ fr σ (λx σ=>b Φ fr σ (λy σ=>iX σ op x y λv=>K v σ) KE) KE
theorem Ox (hm:behindInMarks op e2=false) (s1:av w κ e1 m1) (s2:av w κ e2 m2):av w κ (.Compare e1 [op] [e2] pos) (bG op m1 m2):=λG Z Z Z Z Z Z H m q=>
 Sf (s1 G H m λs i n r p j d g h c=>s2 G h c λy x l o u z b e a f=>wq a (g.up b) e f λv t k=>a.re (v:=.bool v) rfl k (q.pre (d.trans b)) t) hm
theorem O6 (hm:behindInMarks op e2=false) (s1:av w κ e1 m1) (s2:av w κ e2 m2):fp w κ (.Compare e1 [op] [e2] pos) (ai op m1 m2):=λG Z Z Z Z Z Z H m q=>
 AW (s1 G H m λs i n r p j d g h c=>s2 G h c λy x l o u z b e a f=>wq a (g.up b) e f λv t k=>Kh (a.rt k (q.pre (d.trans b)) t)) hm
def kZ (op op':CmpOp) (a b d:AE):AT:=λΦ fr σ K KE=>a Φ fr σ (λx σ=>b Φ fr σ (λy σ=>iX σ op x y λv=>bI v (d Φ fr σ (λz σ=>iX σ op' y z λv=>K v σ) KE) (K false σ)) KE) KE
variable {env:Env}
theorem xj {op op':CmpOp} {whole:Sem Value} {Q:Bool->Heap->Nat->Prop} (hm:markedEach [op,op'] [e2,e3]=id)
  (q:Wp c (eval e1 env) (λA h t=>Wp c (eval e2 env) (λB h t=>Wp c (compareOp op A B) (λV h t=>∃b,V=.bool b∧Br b (Wp c (eval e3 env) (λD h t=>Wp c (compareOp op' B D) (λV h t=>∃b,V=.bool b∧Q b h t) h t) h t) (Q false h t)) h t) h t) h t):
  Wp c (isTrue (.Compare e1 [op,op'] [e2,e3] pos) env whole) Q h t:=by
 show wpAny _ _ (do testChain pos (←eval e1 env) [op,op'] (markedEach [op,op'] [e2,e3] [eval e2 env,eval e3 env])) _ _ _;rw[hm];refine WV (q.go λA m n y=>WV (XH (y.go λB j l y=>WV (Yr (WV (XH (y.go λV g o y=>?_)))))));obtain⟨b,rfl,k⟩:=y;refine WV (wpAny_release' (WV (XH (YT ?_))));cases b with
 |false=>exact W1 (aJ (k.2 rfl))
 |true=>
  refine WV (XH ((k.1 rfl).go λD e f y=>WV (Yr (WV (wpAny_operating (y.go λV d i y=>?_))))));refine bn y λb a k=>?_;obtain rfl:=a;exact XH (YT (aJ k))
theorem DB {op op':CmpOp} (hm:markedEach [op,op'] [e2,e3]=id) (s1:av w κ e1 m1) (s2:av w κ e2 m2) (s3:av w κ e3 m3):fp w κ (.Compare e1 [op,op'] [e2,e3] pos) (kZ op op' m1 m2 m3):=λG Z Z Z Z Z Z H m q=>
 xj hm (s1 G H m λE o A D C r c l n g=>s2 G n g λJ I x B F K b e a j=>wq a (l.up b) e j λv t k=>(ju v rfl (λz=>s3 G a (k.br.1 z) λs p L y M u f h d i=>wq d (e.up f) h i λv t k=>(bv v rfl (d.rt k (q.pre ((c.trans b).trans f)) t))) (λz=>a.rt (k.br.2 z) (q.pre (c.trans b)) t)))
variable {es:List Expr} {mt mt1 mt2:AT} {ml:AL} {px apos:Pos} {x:Str} {i:Nat} {kk:Nat}
def jF (v:SV) (K:Bool->Prop):Prop:=match v with
 |.bool b=>K b
 |.none=>K false
 |_=>False
variable {v:SV}
theorem jU {Q:Bool->Heap->Nat->Prop} (rv:RV τ v V) (m:jF v K) (q:∀b,K b->Q b h t):Wp c (truthy V) Q h t:=by
 cases v
 case bool=>obtain rfl:=rv;exact Kh (q _ m)
 case none=>obtain rfl:=rv;exact Xay (q _ m)
 all_goals exact m.elim
def aP (a:AE):AT:=λΦ fr σ K KE=>a Φ fr σ (λx σ=>jF x λb=>K b σ) KE
theorem TK (hp:∀env whole,isTrue e env whole=(do let v ←whole;standAt e.pos;holding [v] (truthy v))) (s:av w κ e m):fp w κ e (aP m):=λG Z Z Z Z Z Z H m q=>
 tS (hp _ _) (s G H m λl i j g h n c d f a=>jU d a λb k=>f.rt k (q.pre c) _)
def cF (a:AT):AT:=λΦ fr σ K KE=>a Φ fr σ (λb σ=>K (!b) σ) KE
theorem O4 (s:fp w κ e mt):fp w κ (.UnaryOp .Not e pos) (cF mt):=λG Z Z Z Z Z Z H m q=>DV (s G H m λh f g d i b c a=>c.rt a (q.pre b) _)
def bO:List AT->AT
 |[]=>λZ Z σ K Z=>K true σ
 |a::r=>λΦ fr σ K KE=>a Φ fr σ (λb σ=>bI b (bO r Φ fr σ K KE) (K false σ)) KE
def cD:List AT->AT
 |[]=>λZ Z σ K Z=>K false σ
 |a::r=>λΦ fr σ K KE=>a Φ fr σ (λb σ=>bI b (K true σ) (cD r Φ fr σ K KE)) KE
end
section
variable {w:World} {κ:Ek} {G:Cw w κ} {τ:Tb} {σ:Sg} {h:Heap} {t:Nat} {e e1 e2 e3:Expr} {es:List Expr} {m m1 m2 m3:AE} {mt mt1 mt2:AT} {ml:AL} {pos px apos:Pos} {x:Str} {i:Nat} {kk:Nat}
inductive jp (w:World) (κ:Ek):List Expr->List AT->Prop
 |nil:jp w κ [] []
 |cons {e es a as} (h:fp w κ e a) (r:jp w κ es as):jp w κ (e::es) (a::as)
theorem K7 {as:List AT} (s:jp w κ es as):fp w κ (.BoolOp .And es pos) (bO as):=by
 have g:∀(G:Cw w κ) {e f h t K} {Q:Bool->Heap->Nat->Prop} {a:Sem Value},Hs G e f h->bO as G.Φ G.fr f K G.KE->QT G e K Q->Wp G.c (isTrue (.BoolOp .And es pos) G.env a) Q h t:=by
  induction s with
  |nil=>intro G e f h t K Q a H m q;exact wZ (H.rt m q _)
  |cons h r ih=>intro G e f o t K Q a H m q;exact Dt (h G H m λj l i k n d c b=>⟨λz=>ih G c (b.br.1 z) (q.pre d),λz=>c.rt (b.br.2 z) (q.pre d) _⟩)
 exactλG Z Z Z Z Z Z H m q=>g G H m q
theorem XbA {as:List AT} (s:jp w κ es as):fp w κ (.BoolOp .Or es pos) (cD as):=by
 have g:∀(G:Cw w κ) {e f h t K} {Q:Bool->Heap->Nat->Prop} {a:Sem Value},Hs G e f h->cD as G.Φ G.fr f K G.KE->QT G e K Q->Wp G.c (isTrue (.BoolOp .Or es pos) G.env a) Q h t:=by
  induction s with
  |nil=>intro G e f h t K Q a H m q;exact E6 (H.rt m q _)
  |cons h r ih=>intro G e f o t K Q a H m q;exact RM (h G H m λj l i k n d c b=>⟨λz=>c.rt (b.br.1 z) (q.pre d) _,λz=>ih G c (b.br.2 z) (q.pre d)⟩)
 exactλG Z Z Z Z Z Z H m q=>g G H m q
def eL (a:AE):List AE->AE
 |[]=>a
 |b::r=>λΦ fr σ K KE=>a Φ fr σ (λx σ=>jF x λbb=>bI bb (eL b r Φ fr σ K KE) (K x σ)) KE
def rO (a b:AE):AE:=λΦ fr σ K KE=>a Φ fr σ (λx σ=>jF x λbb=>bI bb (K x σ) (b Φ fr σ K KE)) KE
inductive iU (w:World) (κ:Ek):List Expr->List AE->Prop
 |nil:iU w κ [] []
 |cons {e es a as} (h:av w κ e a) (r:iU w κ es as):iU w κ (e::es) (a::as)
theorem IV {ms:List AE} (s1:av w κ e m) (s:iU w κ es ms):av w κ (.BoolOp .And (e::es) pos) (eL m ms):=by
 induction s generalizing e m with
 |nil=>exactλG Z Z Z Z Z Z H m q=>yV (s1 G H m q)
 |cons h r ih=>exactλG Z Z Z Z Z Z H m q=>ON (s1 G H m λj i l n g o c a d f=>jU a f λb k=>⟨λz=>ih h G d (k.br.1 z) (q.pre c),λz=>d.re a (k.br.2 z) (q.pre c) _⟩)
theorem Xbc (s1:av w κ e1 m1) (s2:av w κ e2 m2):av w κ (.BoolOp .Or [e1,e2] pos) (rO m1 m2):=λG Z Z Z Z Z Z H m q=>
 Xc5 (s1 G H m λh g i j f l c a d e=>jU a e λb k=>⟨λz=>d.re a (k.br.1 z) (q.pre c) _,λz=>yV (s2 G d (k.br.2 z) (q.pre c))⟩)
def ud (a:AE):AE:=λΦ fr σ K KE=>a Φ fr σ (λx σ=>jF x λb=>K (.bool !b) σ) KE
theorem Nb (s:av w κ e m):av w κ (.UnaryOp .Not e pos) (ud m):=λG Z Z Z Z Z Z H m q=>
 PK (s G H m λi h j l g n d a f c=>PQ (jU a c λb k=>f.re (v:=.bool !b) rfl k (q.pre d) _))
def aO (t:AT) (a b:AE):AE:=λΦ fr σ K KE=>t Φ fr σ (λx σ=>bI x (a Φ fr σ K KE) (b Φ fr σ K KE)) KE
theorem UY (s:fp w κ e mt) (s1:av w κ e1 m1) (s2:av w κ e2 m2):av w κ (.IfExp e e1 e2 pos) (aO mt m1 m2):=λG Z Z Z Z Z Z H m q=>
 Vr (s G H m λg f h d i b c a=>⟨λz=>s1 G c (a.br.1 z) (q.pre b),λz=>s2 G c (a.br.2 z) (q.pre b)⟩)
def ab:AL:=λZ Z σ K Z=>K [] σ
def aa (a:AE) (r:AL):AL:=λΦ fr σ K KE=>a Φ fr σ (λv σ=>r Φ fr σ (λvs σ=>K (v::vs) σ) KE) KE
theorem Qy:em w κ [] ab:=λG a b h t K Q H m q=>BC (q ([]) b a ([]) h t Tb.le.refl rfl H m)
theorem Ge (s:av w κ e m) (r:em w κ es ml):em w κ (e::es) (aa m ml):=λG Z Z Z Z Z Z H m q=>
 wp (s G H m λi v y h z x c t u b=>r G u b λn l d g k p a j f o=>q (i::n) l d (h::g) k p (c.trans a) ⟨_,_,rfl,t.up a,j⟩ f o)
variable {h':Heap} {vs:List (Option Value)} {ob:Obj} {o:SO}
theorem Hs.new1 {g':Heap} {l:bu} {D:Addr} (H:Hs G τ σ h) (S:n0 G.c κ.ns G.fr σ τ G.X h g' vs l) (A:At (G.c.wg g') κ.ns vs ((D,ob)::l) h') (r:gH w (τ.up σ.nx (D,D)) ((D,ob)::l) D D o):
  Hs G (τ.up σ.nx (D,D)) (σ.new o) h':=H.go (S.R.le_up _) ⟨S.T,A,S.L.up (S.R.le_up _),S.R.new1 A.k r⟩
variable {K:KV} {Q:Value->Heap->Nat->Prop}
theorem dN {g':Heap} {l:bu} {D:Addr} (H:Hs G τ σ h) (S:n0 G.c κ.ns G.fr σ τ G.X h g' vs l) (A:At (G.c.wg g') κ.ns vs ((D,ob)::l) h') (r:gH w (τ.up σ.nx (D,D)) ((D,ob)::l) D D o)
  (k:K (.ref σ.nx) (σ.new o)) (q:QE G τ K Q) (t:Nat):Q (.ref D) h' t:=q (.ref σ.nx) (σ.new o) _ (.ref D) h' t (S.R.le_up (D,D)) ⟨D,D,rfl,Xn rfl⟩ (H.new1 S A r) k
variable {vs:List SV} {Vs:List Value}
theorem vK (H:Hs G τ σ h) (r:bZ τ vs Vs) (m:vs.length≤1000∧K (.ref σ.nx) (σ.new (.tup vs))) (q:QE G τ K Q):Wp G.c (newTuple Vs) Q h t:=by
 obtain⟨c,e,l,S⟩:=H.S;exact bL c (v4 S.A.F S.A.N S.A.k (by rw[r.len];exact m.1) λD f a b d=>aJ (dN H S ⟨a,b,d⟩ (o:=.tup vs) (bv Vs (.head _) (r.up (S.R.le_up _))) m.2 q _))
theorem qW (H:Hs G τ σ h) (r:bZ τ vs Vs) (m:vs.length≤1000∧K (.ref σ.nx) (σ.new (.list vs))) (q:QE G τ K Q):Wp G.c (newList Vs) Q h t:=by
 obtain⟨c,e,l,S⟩:=H.S;exact bL c (lC S.A.F S.A.N S.A.k (by rw[r.len];exact m.1) λD f a b d=>aJ (dN H S ⟨a,b,d⟩ (o:=.list vs) ⟨Vs,0,.head _,r.up (S.R.le_up _)⟩ m.2 q _))
def aU (ml:AL):AE:=λΦ fr σ K KE=>ml Φ fr σ (λvs σ=>vs.length≤1000∧K (.ref σ.nx) (σ.new (.tup vs))) KE
variable {kt:Nat}
theorem PE (hk:es.all bg=true) (s:em w κ es ml):av w κ (.Tuple es kt pos) (aU ml):=λG Z Z Z Z Z Z H m q=>Rs hk (s G H m λg f h i e j c a d b=>vK d a b (q.pre c))
def bK (ml:AL):AE:=λΦ fr σ K KE=>ml Φ fr σ (λvs σ=>vs.length≤1000∧K (.ref σ.nx) (σ.new (.list vs))) KE
theorem Sq (hk:es.all bg=true) (s:em w κ es ml):av w κ (.List es pos) (bK ml):=λG Z Z Z Z Z Z H m q=>O5 hk (s G H m λg f h i e j c a d b=>qW d a b (q.pre c))
variable {c:Cf w} {ns:List Str} {vs:List (Option Value)} {r:bu}
theorem yF {b e:Addr×Obj} (A:At c ns vs (Lg b [] [] (e::r)) h):At c ns vs (e::b::r) h:=A.sub λP=>by
 show _≤((b::e::r).map P).sum;simp only[W4,XD];exact L6
def gW:AE:=λZ Z σ K Z=>K (.ref σ.nx) (σ.new .dic0)
theorem Re:av w κ (.Dict [] [] pos) gW:=by
 intro G g j h t K Q H m q;obtain⟨e,f,l,S⟩:=H.S;refine mY (Ye S.R.ne) λb r a=>?_;obtain rfl:=a;exact bL e (Xb0 (b:=b) (W:=[]) (T:=[]) (I:=r) (G.O.turn S.T) S.A λD i d c=>dN H S (yF c) (o:=.dic0) ⟨.head _,d⟩ m q _)
variable {env:Env}
theorem yR (g':Heap):∀{es:List Expr} {Q:List Value->Heap->Nat->Prop} {h:Heap} {t:Nat},Wa c env es Q h t->Wa (c.wg g') env es Q h t:=by
 intro es
 induction es with
 |nil=>exactλx=>x
 |cons e r ih=>intro Q h t x;exact qo (c:=c) g' (Wp.mono (show Wp c (eval e env) _ h t from x) λv h t y=>ih y)
def ag (f:Nat) (ml:AL):AE:=λΦ fr σ K KE=>ml Φ fr σ (λvs σ=>Φ 0 f vs σ K KE) KE
theorem ey:eval (.Call (.Name x px) es [] pos) env=(do callWith pos (←eval (.Name x px) env) [] (backTo pos (starEach es env)) (backToKw pos (keywordEach [] env))):=rfl
theorem HC {f:Value} {first:List Value} {vs:List Value} (g':Heap) (H:Hs G τ σ h) (q:Wp G.c (call f (first++vs)) Q h t):Ck (G.c.wg g') f first Q vs h t:=by
 obtain⟨b,a,d,S⟩:=H.S;exact⟨kO (c:=G.c.wg b) (G.O.turn S.T) S.A,q⟩
theorem Cy {f:Nat} (hf:Nat.blt f 10000=true) (ev:nsIn (HK w.params) mainGlobals x=some (some (.ref f))) (hx:bA κ x=true) (hk:(keepIn (HK w.params) (.ref f)&&(e::es).all bg)=true) (s:em w κ (e::es) ml):av w κ (.Call (.Name x px) (e::es) [] pos) (ag f ml):=by
 intro G u v h t K Q H m q;obtain⟨d,r,l,S⟩:=H.S;exact bL d (Ft (G.O.turn S.T) S.A ev (by rw[WU];exact⟨bV H.V hx,hk⟩) ey (yR d (s G H m λp i k o n j c g a b=>HC d a (lU hf a g b (q.pre c)))))
theorem vY {f:Nat} (hf:Nat.blt f 10000=true) (ev:nsIn (HK w.params) mainGlobals x=some (some (.ref f))) (hx:bA κ x=true) (hk:keepIn (HK w.params) (.ref f)=true):av w κ (.Call (.Name x px) [] [] pos) (ag f ab):=by
 intro G c d h t K Q H m q;obtain⟨a,b,l,S⟩:=H.S;exact bL a (gJ ey (tZ (G.O.turn S.T) S.A ev (bV H.V hx) (QR (G.O.turn S.T) S.A hk (qo a (lU hf H (args:=[]) rfl m q)))))
def Bb (σ:Sg) (v:SV) (mc:Nat) (K:Nat->Prop):Prop:=bF v λk=>bN σ k λo=>gw o λC f=>f.lookup mc=none∧bX (oO C mc) K
def am (o:AE) (mc:Nat) (ml:AL):AE:=λΦ fr σ K KE=>o Φ fr σ (λv σ=>Bb σ v mc λfa=>ml Φ fr σ (λvs σ=>Φ 0 fa (v::vs) σ K KE) KE) KE
theorem tU (hp:es.all bg=true):(backTo pos (starEach es env)).all (λx=> !x.1)=true:=by
 induction es with
 |nil=>rfl
 |cons e r ih=>
  rw[Ys,WU]at hp;rw[cU hp.1];show((!false)&&(backTo pos (starEach r env)).all (λx=> !x.1))=true;rw[ih hp.2];rfl
variable {name:Str}
theorem ii {o:Expr} {env:Env} {QV:Value->Heap->Nat->Prop} (hb:∀env x,attributeBase o name env x=x) (hk:es.all bg=true) (hn:(Nat.blt es.length 30&&(apos.endLine==pos.line))=true)
  (q:∀pl,Wp c (eval o env) (λov h t=>Wp c (getMethod ov name pl) (λfx h t=>Wp c (callWith pos fx.1 fx.2 (backTo pos (starEach es env)) []) QV h t) h t) h t):Wp c (eval (.Call (.Attribute o name apos) es [] pos) env) QV h t:=by
 rw[WU,YW]at hn;have a:methodCallForm (es.length+([]:List Keyword).length) (backTo pos (starEach es env)) (backToKw pos (keywordEach [] env))=true:=by
  unfold methodCallForm;rw[tU hk];show(true&&([]:List (Option Str×Sem Value)).all (λx=>x.1.isSome)&&decide (es.length+0+0<30))=true;rw[Xx (show es.length+0+0<30 from hn.1)];rfl
 refine Gu (pl:=do return (←importBound o env).getD true) ?_ (q _);rw[show eval (.Call (.Attribute o name apos) es [] pos) env=(do
  let ov ←attributeBase o name env (eval o env)
  standAt apos.atName
  methodCall o name apos pos env ov (es.length+([]:List Keyword).length) (backTo pos (starEach es env)) (backToKw pos (keywordEach [] env))) from rfl,hb]
 dsimp only[methodCall];rw[a];have:methodCallPos true o env apos pos=pure pos:=by
  unfold methodCallPos;rw[hn.2];rfl
 rw[this];rfl
theorem AN {o:Expr} {mo:AE} (mc:Nat) (hn:cK mc=name) (hb:∀env x,attributeBase o name env x=x) (hk:es.all bg=true) (hl:(Nat.blt es.length 30&&(apos.endLine==pos.line))=true) (so:av w κ o mo) (s:em w κ es ml):av w κ (.Call (.Attribute o name apos) es [] pos) (am mo mc ml):=by
 intro G τ U h t K Q H m q;subst hn;refine ii hb hk hl λpl=>so G H m λa1 X N a0 O M L P r J=>?_;obtain⟨u,ws,l,S⟩:=r.S;obtain⟨k,T,ob,R,p⟩:=bh J;have B:=P;rw[T]at B;obtain⟨C,f,rfl,hf,fa,hm,p2⟩:=gf p;obtain⟨y,d,eV,hx,o',g1,g2,g3⟩:=S.R.get B R;refine E04 (vf (w:=w) hm) λm1 m2 W m4=>?_;refine bn (g3.non m1 hf) λmm D g=>?_;rw[T]at p2;rw[eV];refine bL u (Um (s:=⟨O,G.c.gn,G.c.d,M,G.c.os⟩) S.A.F (G.O.turn S.T).X (f8 S.A.N (In.at_ g1) (In.at_ g2)) D g m2 (aJ (c:=G.c) ?_));have z:QL G N (λvs U=>G.Φ 0 fa (.ref k::vs) U K G.KE) λV h t=>Wp G.c (call (.ref fa) (.ref y::V)) Q h t:=λj E v A F I b i a n=>lU m4 a (args:=.ref k::j) ⟨_,_,rfl,⟨y,d,rfl,b _ _ hx⟩,i⟩ n (q.pre (L.trans b));cases es with
 |nil=>exact bL u (RY (G.O.turn S.T) S.A W (qo u (s G (Q:=λVs Y t2=>Wp G.c (call (.ref fa) (.ref y::Vs)) Q Y t2) r p2 z)))
 |cons e es=>exact bL u (wN (G.O.turn S.T) (by rw[WU];exact⟨W,hk⟩) (yR u (s G r p2 λj E v A F I b i a n=>HC u a (z j E v A F I b i a n))))
def RF (τ:Tb) (f:Flw) (F:Flow):Prop:=match f with
 |.next=>F=.next
 |.cont=>F=.cont
 |.brk=>F=.brk
 |.ret v=>∃V,F=.ret V∧RV τ v V
end
section
variable {w:World} {κ:Ek}
structure Cs (w:World) (κ:Ek) where
 c:Cf w
 Φ:Nat->eO
 n:Nat
 τ0:Tb
 X:Xs
 KE:KX
 P:ar w Φ n
 O:Hn c n κ
 E:∀fr,XL c κ fr τ0 X KE
@[reducible] noncomputable def Cs.at (G:Cs w κ) (fr:ca):Cw w κ:=⟨G.c,G.Φ,G.n,G.c.ev κ.sc,fr,G.τ0,G.X,G.KE,G.P,G.O,G.E fr⟩
def QS (G:Cs w κ) (τ:Tb) (K:eY) (Q:Flow->Heap->Nat->Prop):Prop:=∀f fr σ τ' F h t,τ.le τ'->RF τ' f F->Hs (G.at fr) τ' σ h->K f fr σ->Q F h t
variable {τ τ1:Tb} {K:eY} {Q:Flow->Heap->Nat->Prop}
theorem QS.pre {G:Cs w κ} (q:QS G τ K Q) (le:τ.le τ1):QS G τ1 K Q:=λf c b a F h t l=>q f c b a F h t (le.trans l)
def bq (w:World) (κ:Ek) (ss:List Stmt) (m:AS):Prop:=∀(G:Cs w κ) {fr τ σ h t K} {Q:Flow->Heap->Nat->Prop},Hs (G.at fr) τ σ h->m G.Φ fr σ K G.KE->QS G τ K Q->Wp G.c (execs ss (G.c.ev κ.sc)) Q h t
inductive Tg
 |l (i:Nat)
 |c (i:Nat)
noncomputable def Tg.put (tg:Tg) (v:SV) (fr:ca) (σ:Sg) (K:ca->Sg->Prop):Prop:=match tg with
 |.l i=>bI (Nat.blt i fr.loc.length) (K (fr.put i v) σ) False
 |.c i=>bX (fr.cel[i]?) λk=>bN σ k λo=>ja o λZ=>K fr (σ.set k (.cell (some v)))
noncomputable def Tg.is (κ:Ek) (x:Str) (tg:Tg):Prop:=match tg with
 |.l i=>κ.ns[i]?=some x
 |.c i=>κ.cn[i]?=some x∧κ.lm=false
variable {e e1 e2 e3:Expr} {es:List Expr} {m m1 m2 m3:AE} {mt mt1 mt2:AT} {ml:AL} {ms ms1 ms2:AS} {pos px apos:Pos} {x:Str} {i:Nat} {kk:Nat} {rest body orelse:List Stmt} {G:Cs w κ} {fr:ca} {σ:Sg} {h:Heap} {t:Nat}
theorem Hs.rs (H:Hs (G.at fr) τ σ h) {f:Flw} {F:Flow} (rf:RF τ f F) (k:K f fr σ) (q:QS G τ K Q) (t:Nat):Q F h t:=q f fr σ τ F h t Tb.le.refl rf H k
variable {v:SV} {V:Value} {R:Unit->Heap->Nat->Prop} {K:ca->Sg->Prop}
theorem dK {tg:Tg} (hx:tg.is κ x) (hc:κ.cm=none) (H:Hs (G.at fr) τ σ h) (rv:RV τ v V) (m:tg.put v fr σ K) (q:∀fr σ h t,Hs (G.at fr) τ σ h->K fr σ->R () h t):Wp G.c (storeName (G.c.ev κ.sc) x V) R h t:=by
 obtain⟨n,vs,l,S⟩:=H.S;cases tg with
 |l i=>
  cases z:Nat.blt i fr.loc.length with
  |false=>exact(bI.br m).2 z |>.elim
  |true=>
   refine bn (S.L.put rv hx (YW.mp z)) λD p y=>?_;exact bL n (Xdr (G.O.turn S.T) S.A p λe b=>q (fr.put i v) σ e (t+1) ⟨.fn hc H.V.1,⟨_,_,_,S.T,b,y,S.R⟩,H.le⟩ ((bI.br m).1 z))
 |c i=>
  refine oH (H.V.1 i x hx.1) λk a d B s g=>?_;rw[hx.2]at g;obtain⟨N,r,o,j,p⟩:=m;rw[B]at r;obtain rfl:=jS r;obtain⟨J,rfl,p2⟩:=oU p;obtain⟨L,O,f1,I,o,F,w,M⟩:=S.R.ob _ _ j;rw[s]at f1;cases f1;refine gS (dM F) λA u f U=>?_;obtain rfl:=f;exact bL n (Tj S.A g w U λE e C b=>q fr _ e t ⟨H.V,⟨_,_,_,S.T,b,S.L,S.R.chg (o:=.cell (some v)) j s (.inl rfl) cY cO (kh (some V) E dA C (bv V rfl rv))⟩,H.le⟩ p2)
def aF:AS:=λZ fr σ K Z=>K .next fr σ
theorem P6:bq w κ [] aF:=λG Z Z Z Z Z Z Z H m q=>zE (H.rs (f:=.next) rfl m q _)
def ay (tg:Tg) (a:AE) (r:AS):AS:=λΦ fr σ K KE=>a Φ fr σ (λv σ=>tg.put v fr σ λfr σ=>r Φ fr σ K KE) KE
theorem PC {tg:Tg} (hx:tg.is κ x) (hc:κ.cm=none) (hs:∀env,κ.sc=env.scope->swapsWith e (some (.Name x px)) pos.line env=pure false) (s:av w κ e m) (r:bq w κ rest ms):bq w κ (.Assign [.Name x px] e pos::rest) (ay tg m ms):=λG l Z Z Z Z Z Z H m q=>
 Jd (hs _ rfl) (s (G.at l) H m λh g i j f n c a d b=>dK (G:=G) hx hc d a b λZ Z Z Z H k=>r G H k (q.pre c))
def aq (a:AE):AS:=λΦ fr σ K KE=>a Φ fr σ (λv σ=>K (.ret v) fr σ) KE
theorem KG (s:av w κ e m):bq w κ (.Return (some e) pos::rest) (aq m):=λG l Z Z Z Z Z Z H m q=>tE (s (G.at l) H m λc i j k h n d a g b=>Hs.rs (G:=G) g (f:=.ret c) (bv _ rfl a) b (q.pre d) _)
def kX (r:ca->Sg->Prop) (K:eY):eY:=λf fr σ=>match f with
 |.next=>r fr σ
 |f=>K f fr σ
def lE (t:AT) (a b r:AS):AS:=λΦ fr σ K KE=>t Φ fr σ (λx σ=>bI x (a Φ fr σ (kX (λfr σ=>r Φ fr σ K KE) K) KE) (b Φ fr σ (kX (λfr σ=>r Φ fr σ K KE) K) KE)) KE
def aw (t:AT) (a r:AS):AS:=λΦ fr σ K KE=>t Φ fr σ (λx σ=>bI x (a Φ fr σ (kX (λfr σ=>r Φ fr σ K KE) K) KE) (r Φ fr σ K KE)) KE
set_option tactic.hygienic true in
theorem OA {K:eY} (r:bq w κ rest ms) (le:τ1.le τ) (q:QS G τ1 K Q):QS G τ (kX (λfr σ=>ms G.Φ fr σ K G.KE) K) λF h t=>Nx G.c rest (G.c.ev κ.sc) Q F h t:=by
 intro f fr σ b F h t a c H k;cases f
 case next=>obtain rfl:=c;exact r G H k (q.pre (le.trans a))
 case cont=>obtain rfl:=c;exact q .cont fr σ b _ h t (le.trans a) rfl H k
 case brk=>obtain rfl:=c;exact q .brk fr σ b _ h t (le.trans a) rfl H k
 case ret v=>refine bn c λV d e=>?_;obtain rfl:=d;exact q (.ret v) fr σ b _ h t (le.trans a) (bv V rfl e) H k
theorem XcP (s:fp w κ e mt) (s1:bq w κ body ms1) (s2:bq w κ orelse ms2) (r:bq w κ rest ms):bq w κ (.If e body orelse pos::rest) (lE mt ms1 ms2 ms):=λG i Z Z Z Z Z Z H m q=>
 Ur (s (G.at i) H m λg f h d j b c a=>⟨λz=>s1 G c (a.br.1 z) (OA r b q),λz=>s2 G c (a.br.2 z) (OA r b q)⟩)
theorem UB (s:fp w κ e mt) (s1:bq w κ body ms1) (r:bq w κ rest ms):bq w κ (.If e body [] pos::rest) (aw mt ms1 ms):=λG i Z Z Z Z Z Z H m q=>
 LK (s (G.at i) H m λg f h d j b c a=>⟨λz=>s1 G c (a.br.1 z) (OA r b q),λz=>r G c (a.br.2 z) (q.pre b)⟩)
def cS (a:AE) (r:AS):AS:=λΦ fr σ K KE=>a Φ fr σ (λZ σ=>r Φ fr σ K KE) KE
theorem N5 (hs:∀env,κ.sc=env.scope->swapsWith e none pos.line env=pure false) (s:av w κ e m) (r:bq w κ rest ms):bq w κ (.Expr e pos::rest) (cS m ms):=λG k Z Z Z Z Z Z H m q=>
 E8 (hs _ rfl) (by dsimp only[interactive];rw[G.O.S.kind];rfl) (s (G.at k) H m λh g i j f l b d c a=>r G c a (q.pre b))
noncomputable def fO:List (Nat×SV)->Nat->SV->List (Nat×SV)
 |[],a,x=>[(a,x)]
 |p::r,a,x=>cond (Nat.beq a p.1) ((p.1,x)::r) (p::fO r a x)
variable {a:Nat} {x:SV} {f:List (Nat×SV)}
theorem my {b:Nat}:(fO f a x).lookup b=if b=a then some x else f.lookup b:=by
 induction f with
 |nil=>
  show List.lookup b [(a,x)]=_;rw[Xk];by_cases e:b=a
  ·rw[Xn e,e,YF]
  ·rw[Xh e,show(b==a)=false by simpa using e]
 |cons p r ih=>
  obtain⟨c,y⟩:=p;show List.lookup b (cond (Nat.beq a c) ((c,x)::r) ((c,y)::fO r a x))=_;cases e:Nat.beq a c with
  |true=>
   cases W9 e;show List.lookup b ((a,x)::r)=_;rw[Xk,Xk];by_cases e:b=a
   ·rw[Xn e,e,YF]
   ·rw[Xh e,show(b==a)=false by simpa using e]
  |false=>
   show List.lookup b ((c,y)::fO r a x)=_;rw[Xk,Xk,ih];by_cases e2:b=c
   ·subst e2
    have:b≠a:=λz=>by rw[z]at e;exact absurd e (by simp[ZR])
    rw[YF];show some y=if b=a then some x else some y
    rw[Xh this]
   ·rw[show(b==c)=false by simpa using e2]
theorem lZ:(fO f a x).length=if(f.lookup a).isSome then f.length else f.length+1:=by
 induction f with
 |nil=>rfl
 |cons p r ih=>
  obtain⟨c,y⟩:=p;show(cond (Nat.beq a c) ((c,x)::r) ((c,y)::fO r a x)).length=_;rw[Xk];cases e:Nat.beq a c with
  |true=>
   cases W9 e;rw[YF];rfl
  |false=>
   have:(a==c)=false:=beq_eq_false_iff_ne.mpr λz=>by rw[z,ZR]at e;exact kB e
   rw[this];show(fO r a x).length+1=_;rw[ih];show _=if(r.lookup a).isSome=true then r.length+1 else r.length+1+1
   split<;>rfl
theorem pF:(List.range 58).all (λa=>(List.range 58).all λb=>Nat.beq a b|| !(cK a==cK b))=true:=by kernel_rfl
theorem oK {a b:Nat} (ha:a<58) (hb:b<58) (h:cK a=cK b):a=b:=by
 have z:=WZ.mp (WZ.mp pF a (XG.mpr ha)) b (XG.mpr hb);rw[h,YF,Zn,Bool.or_false]at z;exact W9 z
variable {mm:Str->Option Value}
theorem FX.put {es:List DictEntry} {n':Nat} {a:Nat} {hsh:Int} {tk:Tok} (z:es.length≤f.length) (g:∀x,getL x es=some (mm x)) (r:∀a,a<58->RO τ (f.lookup a) (mm (cK a))) (q:∀x,(∀a,a<58->x≠cK a)->mm x=.none) (ha:a<58) (rv:RV τ v V):
  FX τ (dictOf (putL (cK a) hsh (.str (cK a) tk) V es) n') (fO f a v):=by
 refine(kh _ _ rfl ?_ (ju (λx=>if x=cK a then some V else mm x) (mf _ _ _ _ es mm g) (λb h=>?_) (λx j=>?_)))
 ·rw[lZ]
  split
  ·rename_i hsm
   obtain⟨k,d⟩:=Yo.mp hsm;have i:=r a ha;rw[d]at i;refine bn i λW hV Z=>?_;have c:=g (cK a);rw[hV]at c;unfold getL at c;have:(es.find? (·.key.isStr (cK a))).isSome=true:=by
    cases q2:es.find? (·.key.isStr (cK a))with
    |some _=>rfl
    |none=>rw[q2]at c;simp at c
   rw[lu this];exact z
  ·exact WX (dW ..) (Zo z 1)
 ·rw[my]
  by_cases e:b=a
  ·subst e;show RO τ _ (if cK b=cK b then some V else mm (cK b));rw[Xn rfl,Xn rfl];exact(bv V rfl rv)
  ·show RO τ _ (if cK b=cK a then some V else mm (cK b));rw[Xh e,Xh λz=>e (oK h ha z)]
   exact r b h
 ·show(if x=cK a then some V else mm x)=none
  rw[Xh (j a ha)];exact q x j
theorem dn {q:Addr×Obj} {l:bu} (h:q∈l):∃r,(∀p∈l,p∈q::r)∧Sub (q::r) l∧∀p∈r,p∈l:=by
 refine mY (List.append_of_mem h) λb a c=>?_;obtain rfl:=c;refine(ju (b++a) (λp hp=>?_) (λP=>?_) (λp hp=>?_))
 ·rcases W6.mp hp with hp|hp
  ·exact .tail _ (W3 _ hp)
  ·rcases WY.mp hp with rfl|hp
   ·exact .head _
   ·exact .tail _ (WW _ hp)
 ·simp only[Xa,W4,X8,XD];exact L6
 ·rcases W6.mp hp with hp|hp
  ·exact W3 _ hp
  ·exact WW _ (.tail _ hp)
variable {c:Cf w} {ns:List Str} {vs:List (Option Value)}
theorem At.chg1 {r:bu} {q:Addr×Obj} {o3:Obj} {h h':Heap} (A:At c ns vs (q::r) h) (hs:Heap.SameBut q.1 h h') (g:h'.get? q.1=some o3):At c ns vs ((q.1,o3)::r) h':=by
 refine⟨A.F.change hs (A.N _ (.head _)).2.1 (A.N _ (.head _)).2.2,λp hp=>?_,⟨A.k.nd⟩⟩;rcases WY.mp hp with rfl|hp
 ·exact⟨g,(A.N _ (.head _)).2⟩
 ·exact⟨(hs.2 _ (A.k.off p hp)).trans (A.N p (.tail _ hp)).1,(A.N p (.tail _ hp)).2⟩
theorem At.chg2 {r:bu} {x:Addr} {o o' oD:Obj} {h h':Heap} (A:At c ns vs ((x,o)::r) h) (ho:∀b o,h.get? b=some o->b≠x->h'.get? b=some o) (hx:h'.get? x=some o') (hd:h'.get? h.objs.size=some oD):At c ns vs ((x,o')::(h.objs.size,oD)::r) h':=by
 have d:∀p∈(x,o)::r,p.1<h.objs.size:=λp hp=>Xe (A.N p hp).1;have g:c.g.get? h.objs.size=none:=by
  cases q:c.g.get? h.objs.size with
  |none=>rfl
  |some o=>exact absurd (Xe (A.F.keep _ _ q)) (XX _)
 have F:=A.F;have f:=F.ns.lt;refine uz F.ns λj k l i m=>?_;refine⟨⟨uA j k l (ho _ _ i (Ne.symm (A.N _ (.head _)).2.1)) m,λb o e=>ho _ _ (F.keep b o e) (λq=>by rw[q,(A.N _ (.head _)).2.2]at e;exact cZ e),F.above⟩,λp hp=>?_,⟨?_⟩⟩
 ·rcases WY.mp hp with rfl|hp
  ·exact⟨hx,(A.N _ (.head _)).2⟩
  ·rcases WY.mp hp with rfl|hp
   ·exact(eQ hd (Zc f) g)
   ·exact⟨ho _ _ (A.N p (.tail _ hp)).1 (A.k.off p hp),(A.N p (.tail _ hp)).2⟩
 ·have a:=W2.mp A.k.nd
  refine W2.mpr ⟨λq=>?_,W2.mpr ⟨λq=>?_,a.2⟩⟩
  ·rcases WY.mp q with e|e
   ·exact absurd (d _ (.head _)) (by show¬x<_;rw[show x=h.objs.size from e];exact XX _)
   ·exact a.1 e
  ·refine bn (Xb.mp q) λp hp e=>?_
   exact absurd (d p (.tail _ hp)) (by rw[e];exact XX _)
def KN (σ:Sg) (k:Nat) (o:SO) (a:Nat) (x:SV) (K:Sg->Prop):Prop:=gw o λC f=>(qp C a=true∧f.length≤800)∧K (σ.set k (.inst C (fO f a x)))
def Lr (σ:Sg) (k:Nat) (d:Option Nat) (a:Nat) (x:SV) (K:Sg->Prop):Prop:=match d with
 |none=>K ((σ.new (.xdic [(a,x)])).set k (.excF (some σ.nx)))
 |some d=>bN σ d λo=>BV o λf=>(f.lookup a=none∧f.length≤800)∧K (σ.set d (.xdic (fO f a x)))
def pQ (σ:Sg) (v:SV) (a:Nat) (x:SV) (K:Sg->Prop):Prop:=bF v λk=>bN σ k λo=>bI (uo o) (kD o λd=>[42,43].contains a=true∧Lr σ k d a x K) (KN σ k o a x K)
variable {G:Cw w κ} {y:SV} {Y:Value} {K:Sg->Prop} {k:Nat}
theorem Vz {o:SO} (H:Hs G τ σ h) (rv:RV τ (.ref k) V) (ry:RV τ y Y) (hob:σ.ob k=some o) (p:KN σ k o a y K) (q:∀σ τ' h t,τ.le τ'->Hs G τ' σ h->K σ->R () h t):Wp G.c (setAttr V (cK a) Y) R h t:=by
 obtain⟨B,vs,l,S⟩:=H.S;obtain⟨C,f,rfl,hr,p2⟩:=gf p;obtain⟨E,I,rfl,hk,o0,h1,h2,h3⟩:=S.R.get rv hob;refine vR (zc (w:=w) hr.1) λZ d u=>?_;refine jv h3 λm D b z i=>?_;obtain rfl:=b;refine ia i λJ g r A=>?_;refine gS (dM h2) λv n b U=>?_;obtain rfl:=b;unfold f9 at d;rw[WU,WU,WU,Xu,Xu]at d;have j:E≠I:=λe=>by
  have s:=(S.A.N _ h1).1;rw[e,(S.A.N _ h2).1]at s;cases s
 refine bL B (set_dict S.A.F (G.O.turn S.T).X S.A.N ⟨(S.A.N _ h1).1,rfl,rfl,(S.A.N _ h2).1⟩ rfl d.1.1.1 d.1.1.2 d.1.2 d.2 (by rw[g];rfl) rfl ((U (dictOf (putL (cK a) (PyData.keyHash w.params (cK a)) (.str (cK a) (t+1)) Y m) (putN (cK a) m D))).go S.A.k) (WX (dW ..) (by omega)) λL F x=>?_);exact aJ (c:=G.c) (q _ _ _ _ Tb.le.refl ⟨H.V,⟨_,_,_,S.T,⟨F,x,S.A.k.upd ((U _).go S.A.k)⟩,S.L,S.R.chg (o:=.inst C (fO f a y)) hob hk (.inr rfl) cY cO ⟨_,cY _ h1 j,dA,FX.put z g r A u ry⟩⟩,H.le⟩ p2)
theorem G1:([42,43].all λa=>c8 (HK w.params) 438 (cK a)&&Nat.blt a 58)=true:=by kernel_rfl
theorem VL (h:[42,43].contains a=true):c8 (HK w.params) 438 (cK a)=true∧a<58:=by
 have z:=WZ.mp (G1 (w:=w)) a (XU.mp h);rw[WU,YW]at z;exact z
theorem FX.of {o':Obj} (D:cJ o' (λx=>if x=cK a then some V else mm x) (f.length+1)) (r:∀a,a<58->RO τ (f.lookup a) (mm (cK a))) (q:∀x,(∀a,a<58->x≠cK a)->mm x=.none) (hn:f.lookup a=none) (ha:a<58) (rv:RV τ v V):FX τ o' (fO f a v):=by
 refine jv D.is λh n e g z=>?_;refine(kh h n e ?_ (ju _ g (λb c=>?_) (λx d=>?_)))
 ·rw[lZ,hn];exact z
 ·rw[my]
  by_cases e:b=a
  ·subst e;show RO τ _ (if cK b=cK b then some V else mm (cK b));rw[Xn rfl,Xn rfl];exact(bv V rfl rv)
  ·show RO τ _ (if cK b=cK a then some V else mm (cK b));rw[Xh e,Xh λz=>e (oK c ha z)]
   exact r b c
 ·show(if x=cK a then some V else mm x)=none
  rw[Xh (d a ha)];exact q x d
theorem U3 {d:Option Nat} (H:Hs G τ σ h) (rv:RV τ (.ref k) V) (ry:RV τ y Y) (hob:σ.ob k=some (.excF d)) (ha:[42,43].contains a=true) (p:Lr σ k d a y K) (q:∀σ τ' h t,τ.le τ'->Hs G τ' σ h->K σ->R () h t):Wp G.c (setAttr V (cK a) Y) R h t:=by
 obtain⟨u,vs,l,S⟩:=H.S;obtain⟨M,T⟩:=VL (w:=w) ha;cases d with
 |none=>
  obtain⟨C,d0,rfl,hk,a0,h1⟩:=S.R.get rv hob;refine ia (dn h1) λr B v m3=>?_;refine bL u (OE (kO (c:=G.c.wg u) (G.O.turn S.T) S.A) (S.A.N _ h1).1 rfl rfl rfl M λi F D Q n L s=>aJ (c:=G.c) ?_);have x:=W2.mp ((S.A.sub v).chg2 n L s).k.nd;have j:=W2.mp x.2;have R1:=(S.R.cong B).new1 (D:=h.objs.size) (ob:=i) (o:=.xdic [(a,y)]) ⟨W2.mpr ⟨λz=>(WY.mp z).elim (λe=>x.1 (e▸ .head _)) j.1,W2.mpr ⟨λz=>x.1 (.tail _ z),j.2⟩⟩⟩
   ⟨i,.head _,FX.of (f:=[]) (mm:=λZ=>none) D (λZ Z=>rfl) (λZ Z=>rfl) rfl T (ry.up (S.R.le_up _))⟩
  have m:=S.R.le_up (h.objs.size,h.objs.size);refine q _ _ F _ m ⟨H.V.up m,⟨_,_,_,S.T,(S.A.sub v).chg2 n L s,S.L.up m,R1.chg (a:=C) (l':=(C,kR 438 (some h.objs.size) a0)::(h.objs.size,i)::r) (o:=.excF (some σ.nx)) (ae hob) (m _ _ hk) (.inl rfl) (λq hq E=>?_) (λz hz=>?_) (uA a0 _ _ (Xn rfl) (.head _))⟩,H.le.trans m⟩ p
  ·rcases WY.mp hq with rfl|hq
   ·exact .tail _ (.head _)
   ·rcases WY.mp hq with rfl|hq
    ·exact absurd rfl E
    ·exact .tail _ (.tail _ hq)
  ·rcases WY.mp hz with rfl|hz
   ·exact .tail _ (.head _)
   ·rcases WY.mp hz with rfl|hz
    ·exact .head _
    ·exact .tail _ (.tail _ hz)
 |some kd=>
  obtain⟨o2,b,U⟩:=p;obtain⟨f,rfl,hf,p2⟩:=yX U;obtain⟨C,d0,rfl,hk,a0,D,e,hkd,h1⟩:=S.R.get rv hob;obtain⟨D',e',O,o,J,X⟩:=S.R.ob _ _ b;cases hkd.symm.trans O;refine jv X λP N I z A=>?_;obtain rfl:=I;refine ia A λmm g r W=>?_;refine ia (dn J) λrr B v m3=>?_;refine bL u (QJ (kO (c:=G.c.wg u) (G.O.turn S.T) S.A) (S.A.N _ h1).1 rfl rfl rfl (S.A.N _ J).1 ⟨P,N,rfl,g,z⟩ (by omega) M λi F DM Q n s=>aJ (c:=G.c) ?_);refine q _ _ F _ Tb.le.refl ⟨H.V,⟨_,_,_,S.T,(S.A.sub v).chg1 (q:=(D,dictOf P N)) ⟨Q,n⟩ s,S.L,(S.R.cong B).chg (a:=D) (l':=(D,i)::rr) (o:=.xdic (fO f a y)) b O (.inl rfl) (λq hq E=>.tail _ ((WY.mp hq).resolve_left λe=>E (e▸rfl))) (λZ z=>z) ⟨i,.head _,FX.of DM r W hf.1 T ry⟩⟩,H.le⟩ p2
theorem lT (H:Hs G τ σ h) (rv:RV τ v V) (ry:RV τ y Y) (m:pQ σ v a y K) (q:∀σ τ' h t,τ.le τ'->Hs G τ' σ h->K σ->R () h t):Wp G.c (setAttr V (cK a) Y) R h t:=by
 obtain⟨k,rfl,o,hob,p⟩:=bh m;cases z:uo o with
 |false=>exact Vz H rv ry hob (p.br.2 z) q
 |true=>
  obtain⟨d,rfl,ha,p2⟩:=kA (p.br.1 z);exact U3 H rv ry hob ha p2 q
variable {x:Str}
def az (o:AE) (a:Nat) (v:AE) (r:AS):AS:=λΦ fr σ K KE=>v Φ fr σ (λy σ=>o Φ fr σ (λx σ=>pQ σ x a y λσ=>r Φ fr σ K KE) KE) KE
theorem Fz {ob:Expr} {attr:Str} (a:Nat) (hn:cK a=attr) (hs:∀env,κ.sc=env.scope->swapsWith e (some (.Attribute ob attr px)) pos.line env=pure false) (s:av w κ e m) (so:av w κ ob m1) (r:bq w κ rest ms):bq w κ (.Assign [.Attribute ob attr px] e pos::rest) (az m1 a m ms):=by
 subst hn;exactλG l Z Z Z Z Z Z H m q=>xa (hs _ rfl) (s (G.at l) H m λB z v A y p j f c i=>so (G.at l) c i λC u t n x D b g h d=>lT h g (f.up b) d λZ Z Z Z o H k=>r G H k (q.pre ((j.trans b).trans o)))
def iI (i:Nat) (v:AE) (r:AS):AS:=λΦ fr σ K KE=>bX (fr.loc[i]?) λa=>bX a λa=>aR a λa=>v Φ fr σ (λy σ=>aR y λb=>(Tg.l i).put (.int (a+b)) fr σ λfr σ=>r Φ fr σ K KE) KE
theorem PU (i:Nat) (hx:κ.ns[i]?=some x) (hc:κ.cm=none) (s:av w κ e m) (r:bq w κ rest ms):bq w κ (.AugAssign (.Name x px) .Add e pos::rest) (iI i m ms):=by
 intro G B P U h t K Q H m q;obtain⟨y,vs,l,S⟩:=H.S;obtain⟨a,z,T,g,p⟩:=m;obtain⟨a,rfl,p⟩:=bU p;subst g;refine bn (S.L.slot hx z) λR A f=>?_;obtain⟨u,rfl⟩:=f;refine EN (bL y (Si (G.O.turn S.T) S.A A (qo y (s (G.at B) H p λN J F L I D n d c j=>?_))));obtain⟨b,C,E⟩:=bU j;have o:=d;rw[C]at o;obtain⟨O,M⟩:=o;rw[M];exact tG (dK (G:=G) (tg:=.l i) hx hc c (v:=.int (a+b)) ⟨_,rfl⟩ E λZ Z Z Z H k=>r G H k (q.pre n))
def r7 (o:AE) (a:Nat) (v:AE) (r:AS):AS:=λΦ fr σ K KE=>o Φ fr σ (λx σ=>Df σ x a λold=>aR old λi=>v Φ fr σ (λy σ=>aR y λj=>pQ σ x a (.int (i+j)) λσ=>r Φ fr σ K KE) KE) KE
theorem FE {ob:Expr} {attr:Str} (a:Nat) (hn:cK a=attr) (s:av w κ e m) (so:av w κ ob m1) (r:bq w κ rest ms):bq w κ (.AugAssign (.Attribute ob attr px) .Add e pos::rest) (r7 m1 a m ms):=by
 subst hn;intro G x X Y h t K Q H m q;refine F6 (so (G.at x) H m λT I F z L U o b c g=>lO c b g λJ W D p=>?_);obtain⟨i,rfl,p⟩:=bU p;obtain⟨u,rfl⟩:=D;refine s (G.at x) c p λS O M P N C d l f n=>?_;obtain⟨j,B,E⟩:=bU n;have v:=l;rw[B]at v;obtain⟨V,R⟩:=v;rw[R];exact tG (lT f (b.up d) (y:=.int (i+j)) ⟨_,rfl⟩ E λZ Z Z Z A H k=>r G H k (q.pre ((o.trans d).trans A)))
variable {G:Cs w κ}
end
section
variable {w:World} {κ:Ek} {e e1 e2 e3:Expr} {es:List Expr} {m m1 m2 m3:AE} {ml:AL} {ms ms1 ms2:AS} {pos px apos:Pos} {x:Str} {rest body:List Stmt} {G:Cs w κ} {fr:ca} {τ:Tb} {σ:Sg} {h:Heap} {t:Nat}
inductive mw (κ:Ek):List Expr->List Tg->Prop
 |nil:mw κ [] []
 |cons {x p es i is} (hx:Tg.is κ x i) (r:mw κ es is):mw κ (.Name x p::es) (i::is)
def FU (vs:List SV) (K:SV->List SV->Prop):Prop:=match vs with
 |v::vs=>K v vs
 |[]=>False
def jY:List Tg->List SV->ca->Sg->(ca->Sg->Prop)->Prop
 |[],_,fr,σ,K=>K fr σ
 |i::is,vs,fr,σ,K=>FU vs λv vs=>i.put v fr σ λfr σ=>jY is vs fr σ K
def js (σ:Sg) (v:SV) (n:Nat) (K:List SV->Prop):Prop:=bF v λk=>bN σ k λo=>iZ o λxs=>Nat.beq xs.length n=true∧K xs
def gu (is:List Tg) (a:AE) (r:AS):AS:=λΦ fr σ K KE=>a Φ fr σ (λv σ=>js σ v is.length λxs=>jY is xs fr σ λfr σ=>r Φ fr σ K KE) KE
variable {is:List Tg}
theorem gq {env:Env} (h:mw κ es is):(assignEach es env).length=is.length∧(assignEach es env).findIdx? (·.1)=none:=by
 induction h with
 |nil=>exact⟨rfl,rfl⟩
 | @cons x p es i is hx r ih=>
  have e:assignEach (.Name x p::es) env=(false,assign (.Name x p) env)::assignEach es env:=rfl;rw[e];refine⟨by rw[Yc,Yc,ih.1],?_⟩;rw[List.findIdx?_cons,ih.2];rfl
theorem jq {R:Unit->Heap->Nat->Prop} {K:ca->Sg->Prop} (hc:κ.cm=none) (hn:mw κ es is):∀{xs:List SV} {Vs:List Value} {fr:ca} {σ:Sg} {h:Heap} {t:Nat},xs.length=is.length->bZ τ xs Vs->jY is xs fr σ K->
  Hs (G.at fr) τ σ h->(∀fr σ h t,Hs (G.at fr) τ σ h->K fr σ->R () h t)->Wp G.c (assignInOrder ((assignEach es (G.c.ev κ.sc)).map (·.2)) Vs) R h t:=by
 induction hn with
 |nil=>
  intro xs Vs fr σ h t a r e H q;cases xs with
  |nil=>obtain rfl:=r;exact yB (q _ _ _ _ H e)
  |cons=>cases a
 |cons hx r ih=>
  intro xs Vs fr σ h t a b e H q;cases xs with
  |nil=>exact e.elim
  |cons x xs=>
   obtain⟨V,Ws,rfl,rv,b⟩:=b;exact rJ rfl (nA (dK (K:=λfr σ=>jY _ xs fr σ K) hx hc H rv e λZ Z Z Z H k=>ih (ZC a) b k H q))
variable {n:Nat} {v:SV} {V:Value}
theorem iN {K:List SV->Prop} {P:Prop} (H:Hs (G.at fr) τ σ h) (rv:RV τ v V) (m:js σ v n K) (q:∀a xs Vs,V=.ref a->bZ τ xs Vs->xs.length=n->K xs->∀g' vs l,n0 G.c κ.ns fr σ τ G.X h g' vs l->(a,cR Vs)∈l->P):P:=by
 obtain⟨g',vs,l,S⟩:=H.S;obtain⟨k,rfl,o,hob,m⟩:=bh m;obtain⟨xs,rfl,m⟩:=iq m;obtain⟨c,b,rfl,hk,Vs,h1,h2⟩:=S.R.get rv hob;exact q _ _ _ rfl h2 (W9 m.1) m.2 _ _ _ S h1
variable {kt:Nat} {tpos:Pos}
theorem JI (hn:mw κ es is) (hc:κ.cm=none) (hs:∀env,κ.sc=env.scope->swapsWithSole [.Tuple es kt tpos] e pos.line env=pure false) (hw:∀env,κ.sc=env.scope->swappedStores [.Tuple es kt tpos] e env=pure none) (s:av w κ e m) (r:bq w κ rest ms):
  bq w κ (.Assign [.Tuple es kt tpos] e pos::rest) (gu is m ms):=λG l Z Z Z Z Z Z H m q=>
 sG (hs _ rfl) (hw _ rfl) (s (G.at l) H m λx j p v u n d f a c=>iN (G:=G) a f c λF A D z g h y i B C b o=>by
  rw[z];exact bL i (tI (G.O.turn b.T) b.A (In.at_ o) ((gq (env:=G.c.ev κ.sc) hn).1.trans (h.symm.trans g.len.symm)) (gq (env:=G.c.ev κ.sc) hn).2 λE t=>qo i (jq (G:=G) hc hn h g y ⟨a.V,⟨_,_,_,b.T,t,b.L,b.R⟩,a.le⟩ λZ Z Z Z H k=>r G H k (q.pre d))))
def cT (is:List Tg) (a:AE) (r:AS):AS:=λΦ fr σ K KE=>a Φ fr σ (λv σ=>js σ v is.length λxs=>jY is.reverse xs.reverse fr σ λfr σ=>r Φ fr σ K KE) KE
variable {xs:List SV} {Vs:List Value}
theorem bZ.two (r:bZ τ xs Vs) (n:xs.length=2):∃a b A B,xs=[a,b]∧Vs=[A,B]∧RV τ a A∧RV τ b B:=by
 rcases xs with _|⟨a,_|⟨b,_|⟨c,xs⟩⟩⟩<;>try cases n
 obtain⟨A,_,rfl,h1,B,_,rfl,h2,r⟩:=r;obtain rfl:=r;exact(Tu a b A B rfl rfl h1 h2)
theorem bZ.three (r:bZ τ xs Vs) (n:xs.length=3):∃a b c A B C,xs=[a,b,c]∧Vs=[A,B,C]∧RV τ a A∧RV τ b B∧RV τ c C:=by
 rcases xs with _|⟨a,_|⟨b,_|⟨c,_|⟨d,xs⟩⟩⟩⟩<;>try cases n
 obtain⟨A,_,rfl,h1,B,_,rfl,h2,C,_,rfl,h3,r⟩:=r;obtain rfl:=r;exact(I65 a b c A B C rfl rfl h1 h2 h3)
theorem vW {tpos p1 p2:Pos} {n1 n2:Str} {i1 i2:Tg} (h1:i1.is κ n1) (h2:i2.is κ n2) (hc:κ.cm=none) (hs:∀env,κ.sc=env.scope->swapsWithSole [.Tuple [.Name n1 p1,.Name n2 p2] kt tpos] e pos.line env=pure false)
  (hw:∀env,κ.sc=env.scope->swappedStores [.Tuple [.Name n1 p1,.Name n2 p2] kt tpos] e env=pure (some [n1,n2])) (s:av w κ e m) (r:bq w κ rest ms):bq w κ (.Assign [.Tuple [.Name n1 p1,.Name n2 p2] kt tpos] e pos::rest) (cT [i1,i2] m ms):=λG b Z Z Z Z K Z H m q=>
 DW (hs _ rfl) (hw _ rfl) (s (G.at b) H m λD f t C B o g i a d=>iN (G:=G) a i d λP J N I n A F l L M c p=>by
  refine E44 (n.two A) λx y X Y z j E u=>?_;have k:=F;rw[z]at k;have k:i2.put y b f λb h=>i1.put x b h λb h=>ms G.Φ b h K G.KE:=k;rw[I];exact bL l (tz (G.O.turn c.T) c.A (In.at_ p) (by rw[j];rfl) λO v=>by
   rw[j];exact EA (qo l (dK (G:=G) h2 hc ⟨a.V,⟨_,_,_,c.T,v,c.L,c.R⟩,a.le⟩ u k λZ Z Z Z H k=>dK (G:=G) h1 hc H E k λZ Z Z Z H k=>r G H k (q.pre g))))
  )
theorem vS {tpos p1 p2 p3:Pos} {n1 n2 n3:Str} {i1 i2 i3:Tg} (k1:i1.is κ n1) (k2:i2.is κ n2) (k3:i3.is κ n3) (hc:κ.cm=none) (hs:∀env,κ.sc=env.scope->swapsWithSole [.Tuple [.Name n1 p1,.Name n2 p2,.Name n3 p3] kt tpos] e pos.line env=pure false)
  (hw:∀env,κ.sc=env.scope->swappedStores [.Tuple [.Name n1 p1,.Name n2 p2,.Name n3 p3] kt tpos] e env=pure (some [n1,n2,n3])) (s:av w κ e m) (r:bq w κ rest ms):bq w κ (.Assign [.Tuple [.Name n1 p1,.Name n2 p2,.Name n3 p3] kt tpos] e pos::rest) (cT [i1,i2,i3] m ms):=λG a Z Z Z Z K Z H m q=>
 vL (hs _ rfl) (hw _ rfl) (s (G.at a) H m λF g v E C o h i b f=>iN (G:=G) b i f λR M P L n B J l N O c t=>by
  refine E65 (n.three B) λx y u X Y U D j I z p=>?_;have k:=J;rw[D]at k;have k:i3.put u a g λa d=>i2.put y a d λa d=>i1.put x a d λa d=>ms G.Φ a d K G.KE:=k;rw[L];exact bL l (tz (G.O.turn c.T) c.A (In.at_ t) (by rw[j];rfl) λQ A=>by
   rw[j];exact DS (qo l (dK (G:=G) k3 hc ⟨b.V,⟨_,_,_,c.T,A,c.L,c.R⟩,b.le⟩ p k λZ Z Z Z H k=>dK (G:=G) k2 hc H z k λZ Z Z Z H k=>dK (G:=G) k1 hc H I k λZ Z Z Z H k=>r G H k (q.pre h))))
  )
variable {X:Xs} {k:Nat}
theorem aD.ex {σ0:Sg} {pre post:bu} {so o:SO} {e d:Addr} {ob oe:Obj} (R:aD w τ σ0 X (pre++(e,ob)::post)) (ht:τ k=some (e,d)) (hs:σ0.ob k=some so):aD w τ ((σ0.set k o).del k) X ((e,oe)::(pre++post)):=by
 have j:∀q∈pre++(e,ob)::post,q.1≠e->q∈(e,oe)::(pre++post):=λq hq f=>by
  rcases W6.mp hq with hq|hq
  ·exact .tail _ (W3 _ hq)
  ·rcases WY.mp hq with rfl|hq
   ·exact absurd rfl f
   ·exact .tail _ (WW _ hq)
 have i:∀z,z∈(pre++(e,ob)::post).map (·.1)->z∈((e,oe)::(pre++post)).map (·.1):=λz h=>by
  rw[Xa,W4]at h;rw[W4,Xa];rcases W6.mp h with h|h
  ·exact .tail _ (W3 _ h)
  ·rcases WY.mp h with rfl|h
   ·exact .head _
   ·exact .tail _ (WW _ h)
 have a:∀b c,((σ0.set k o).del k).ob b=some c->b≠k∧σ0.ob b=some c:=λb c h=>by
  by_cases z:b=k
  ·subst z;rw[Fm]at h;exact cZ h
  ·rw[gB z,au z]at h;exact⟨z,h⟩
 refine⟨R.nx,λb c h=>?_,R.dj,R.nz.imp λz l=>⟨i _ l.1,l.2⟩,λk p h=>⟨i _ (R.inl k p h).1,i _ (R.inl k p h).2⟩,λq hq=>j q (R.X1 q hq) ?_,λb c p h r=>R.X2 b c p (a _ _ h).2 r,R.X3⟩
 ·obtain⟨f,h⟩:=a _ _ h
  obtain⟨n,s,g,t⟩:=R.ob _ _ h;refine⟨n,s,g,t.go Tb.le.refl λq hq hx=>j q hq λm=>?_⟩;rcases hx with hx|hx<;>rw[m]at hx
  ·exact(R.dj _ _ _ _ g ht f).1 hx.symm
  ·exact(R.dj _ _ _ _ g ht f).2.2.1 hx.symm
 ·rcases W6.mp hq with hq|hq
  ·exact(R.X2 _ _ _ hs ht q hq).1
  ·exact(R.X3 _ _ ht q hq).1
variable {c:Cf w} {E:Value->Shared->Prop}
theorem ni {e:Addr} {Q:Unit->Shared->Prop} (O:Ok c n κ.sc κ.ns) (fl:BG c κ fr k σ τ X e h)
  (q:∀h',GL w (eq c.outer) c.g k σ τ X e h'->Q () ⟨h',c.gn,c.d,t,c.os⟩):wpAny (model PP w) c.A (leaving (c.ev κ.sc) (.ref e)) Q E ⟨h,c.gn,c.d,t,c.os⟩:=by
 cases fl with
 | @fresh g' vs l kd D y z a σ0 S b d i h1 hσ=>
  refine gS (dM h1) λg f m U=>?_;obtain rfl:=m;have o:At (c.wg g') κ.ns vs ((e,kR 438 (some D) a)::(g++f)) h:=S.A.sub λP=>by
   simp only[Xa,W4,X8,XD];exact L6
  refine Az (c:=c.wg g') (O.turn S.T) o λh' j=>q h' ?_;subst hσ;exact(V4 kd D y z _ b (aE d) i (λq p=>S.R.X2 _ _ _ d b q p) (λs=>S.R.ex b d) (j.turn S.T))
 | @call g' vs l0 h0 T H L fq=>
  refine Nf fq λkd D y z l b d i r R x=>?_;exact EO (c:=c.wg g') (O.turn T) H x λh' j=>q h' (V4 kd D y z l b d i r R (j.turn T))
def bp (K:KV):eY:=λf Z σ=>match f with
 |.ret v=>K v σ
 |.next=>K .none σ
 |_=>False
def bo (k:Nat) (dfl:List SV) (r:Nat) (m:AS):(Nat->eO)->List SV->Sg->KV->KX->Prop:=λΦ args σ K KE=>(Nat.beq args.length k)=true∧m Φ ⟨args.map some++(dfl.map some++List.replicate r none),[],[]⟩ σ (bp K) KE
theorem gO.app {v':List (Option SV)} {V':List (Option Value)} (r':gO τ v' V') {v:List SV}:∀{V:List Value},bZ τ v V->gO τ (v.map some++v') (V.map some++V'):=by
 induction v with
 |nil=>intro V r;obtain rfl:=r;exact r'
 |cons a v ih=>rintro V ⟨A,B,rfl,h,r⟩;exact⟨some A,_,rfl,bv A rfl h,ih r⟩
theorem gO.rep {r:Nat}:gO τ (List.replicate r none) (List.replicate r none):=by
 induction r with
 |zero=>exact rfl
 |succ r ih=>exact⟨_,_,rfl,rfl,ih⟩
variable {K:KV} {Q:Value->Heap->Nat->Prop}
set_option tactic.hygienic true in
theorem qI {q:Cf w} (hG:G.c=c) (hX:G.X=X) (hcg:c.g=q.g) (hco:c.outer=q.outer) (link:∀v σ τ' V h t g1 l,τ.le τ'->RV τ' v V->KtsTurn (eq q.outer) q.g g1->Ex g1 l h->aD w τ' σ X l->K v σ->Q V h t):QS G τ (bp K) λF h t=>Q (gc F) h t:=by
 subst hG hX;intro f g a b F o k j i H1 d;obtain⟨m,vs,n,S⟩:=H1.S;have T:=S.T;rw[show(G.at g).c.outer=q.outer from hco,show(G.at g).c.g=q.g from hcg]at T;cases f
 case next=>obtain rfl:=i;exact link .none a b .none o k m n j rfl T (l5 S.A.F S.A.N S.A.k) S.R d
 case cont=>exact d.elim
 case brk=>exact d.elim
 case ret v=>refine bn i λV e p=>?_;obtain rfl:=e;exact link v a b V o k m n j p T (l5 S.A.F S.A.N S.A.k) S.R d
variable {name qual:Str}
theorem U1 {f:Addr} {Φ:Nat->eO} {m:AS} {k r:Nat} {dfl:List SV} {dV:List Value} {params:Arguments} {dVl kV doc pm cdv ct oc:Value} {an od:Option Addr} {osl:Array (Option Value)}
  (hcd0:κ.cd=cdv) (hqn0:κ.qn=qual) (hcm:κ.cm=none) (hcn:κ.cn=[]) (ho:(HK w.params).lookup f=some ⟨oc,od,.func (fnOf name qual params body κ.sc dVl kV doc pm an cdv ct),osl⟩)
  (hc:(iE (HK w.params) κ.sc κ.ns cdv qual&&(κ.sc.names.all λx=> !(x.2== .cell)))=true) (hd:∀τ,bZ τ dfl dV)
  (hb:∀(s:Shared) (avs:List Value),(HK w.params).In s.heap->avs.length=k->BindsTo s (fnOf name qual params body κ.sc dVl kV doc pm an cdv ct) ⟨avs,[]⟩ (bB κ.ns (avs.map some++(dV.map some++List.replicate r none))))
  (hm:bq w κ body m) (P:ar w Φ n):aM w (n+1) (bo k dfl r m Φ) (.ref f):=by
 intro q Q h t τ T X l a avs K L E C R B m M g;have j:avs.length=k:=B.len.trans (W9 m.1);refine lS κ.ns (avs.map some++(dV.map some++List.replicate r none)) E C ho hc (hb _ avs (show(HK w.params).In h from Cx.xs C) j) ?_;intro c d b A z y v O S N J;exact hm ⟨c,Φ,n,τ,X,L,P,⟨O,A.trans hcd0.symm,z.trans hqn0.symm⟩,λfr k o p e U I G H u=>y _ _ _ (ni O u λF D=>v _ _ _ (M k o p e F I G H (by rw[d,b]at D;exact D)))⟩ (fr:=⟨a.map some++(dfl.map some++List.replicate r none),[],[]⟩)
  ⟨.fn hcm (λi x h=>by rw[hcn]at h;exact cZ h:gF c κ ⟨a.map some++(dfl.map some++List.replicate r none),[],[]⟩ τ),⟨c.g,_,l,.refl,J,(gO.app gO.rep (hd τ)).app B,R⟩,Tb.le.refl⟩ m.2 (qI rfl rfl d b g)
variable {G:Cw w κ}
def ei (C fI:Addr) (ml:AL):AE:=λΦ fr σ K KE=>ml Φ fr σ (λvs σ=>Φ 1 fI (.ref σ.nx::vs) (σ.new (.inst C [])) (λv σ'=>v=.none∧K (.ref σ.nx) σ') KE) KE
theorem Gj:FX τ (dictOf [] 0) []:=(kh ([]) 0 rfl (Xy _) (ju (λZ=>none) (λZ=>rfl) (λZ Z=>rfl) (λZ Z=>rfl)))
variable {C fI:Addr}
theorem Kc {vs:List SV} (H:Hs G τ σ h) (ra:bZ τ vs Vs)
  (hf:Nat.blt fI 10000=true) (hi:findIn (HK w.params) (.ref C) "__init__"=some (some (.ref fI))) (hm:(makesIn (HK w.params) C&&isFn (HK w.params) (.ref fI))=true) (m:G.Φ 1 fI (.ref σ.nx::vs) (σ.new (.inst C [])) (λv σ'=>v=.none∧K (.ref σ.nx) σ') G.KE)
  (q:QE G τ K Q):Wp G.c (call (.ref C) Vs) Q h t:=by
 obtain⟨p,ws,l,S⟩:=H.S;have U:1≤G.n:=by
  rcases Nat.eq_zero_or_pos G.n with h|h
  ·exact absurd m (G.P.no _ _ _ _ _ _ (by rw[h];decide))
  ·exact h
 obtain⟨L,en⟩:∃L,G.n=L+1:=⟨G.n - 1,by exact Z46 U⟩;have O:=G.O.turn S.T;have X:=G.P.ok 1 U fI hf;rw[en]at O X;refine mY (Ye S.R.ne) λb r J=>?_;obtain rfl:=J;refine bL p ?_;refine RW (b:=b) (W:=[]) (T:=[]) (R:=r) S.A.F O.X S.A.N S.A.k hi hm λx f B F' N' K'=>?_;have i:At (G.c.wg p) κ.ns ws ([(x,instObj C f),(f,dictOf [] 0)]++(b::r)) B:=At.sub (l:=Lg b [] [] ((x,instObj C f)::(f,dictOf [] 0)::r)) ⟨F',N',K'⟩ λP=>by
  simp only[Lg,Xa,W4,ZS,X8,XD,Z9];exact Y72
 have N:=i.k.nd;rw[Xa,YS]at N;have A:∀z,z∈[(x,instObj C f),(f,dictOf [] 0)].map (·.1)->z∉(b::r).map (·.1):=λz hz D=>N.2.2 z hz z D rfl;have j:=S.R.le_up (x,f);have z:Co {G.c.wg p with A0:=(G.c.wg p).A.under (.builtin "type.__call__" ⟨.ref C::Vs,[]⟩),outer:=(G.c.wg p).ev κ.sc::(G.c.wg p).outer,g:=hideAll B (([(x,instObj C f),(f,dictOf [] 0)]++(b::r)).map (·.1))} (.ref fI) (.ref x::Vs) (λV I F=>V=.none∧Q (.ref x) I F) B t:=
  X _ _ B t (τ.up σ.nx (x,f)) (σ.new (.inst C [])) G.X _ (.ref σ.nx::vs) (.ref x::Vs) _ G.KE (O.rm.make (Xy _)) (yo (C:=C) (vals:=Vs) (kw:=[]) O.XB O.TB O.B i.F i.N i.k O.G) (S.R.new (x:=x) (d:=f) (n:=[(x,instObj C f),(f,dictOf [] 0)]) (o:=.inst C []) (A x (.head _)) (A f (.tail _ (.head _))) (.head _) (.tail _ (.head _)) ⟨_,.head _,.tail _ (.head _),Gj⟩) ⟨_,_,rfl,⟨x,f,rfl,Xn rfl⟩,ra.up j⟩ m
   (λk s u e Y M a ke fl=>G.E _ _ _ _ _ _ ((H.le.trans j).trans a) ke (.call S.T i (S.L.up (j.trans a)) fl))
   λv s u V Y M g1 l1 a rv kt ex R1 E=>by
    obtain⟨rfl,E⟩:=E;obtain rfl:=rv;refine ia (HE O i kt ex) λg2 T2 O2 A2=>?_;exact⟨rfl,q (.ref σ.nx) s u (.ref x) Y M (j.trans a) ⟨_,_,rfl,a _ _ (Xn rfl)⟩ (H.go (j.trans a) ⟨S.T.trans T2,A2,S.L.up (j.trans a),R1⟩) E⟩
 refine YZ z λr s' y=>?_;rcases r with e|(v|_|_|_)
 ·exact y
 ·exact y
 ·exact y
 ·exact y
 ·obtain⟨h2,t2,rfl,rfl,y⟩:=y
  exact⟨rfl,aJ (c:=G.c) y⟩
theorem Tz (hf:Nat.blt fI 10000=true) (ev:nsIn (HK w.params) mainGlobals x=some (some (.ref C))) (hx:bA κ x=true) (hk:(keepIn (HK w.params) (.ref C)&&(e::es).all bg)=true) (hi:findIn (HK w.params) (.ref C) "__init__"=some (some (.ref fI))) (hm:(makesIn (HK w.params) C&&isFn (HK w.params) (.ref fI))=true)
  (s:em w κ (e::es) ml):av w κ (.Call (.Name x px) (e::es) [] pos) (ei C fI ml):=by
 intro G r u h t K Q H m q;obtain⟨d,p,l,S⟩:=H.S;exact bL d (Ft (G.O.turn S.T) S.A ev (by rw[WU];exact⟨bV H.V hx,hk⟩) ey (yR d (s G H m λo g j n k i c f a b=>HC d a (Kc a f hf hi hm b (q.pre c)))))
theorem xV {C f:Addr} (hf0:Nat.blt f 10000=true) (hb:∀env y,attributeBase (.Name x px) name env y=y) (ev:nsIn (HK w.params) mainGlobals x=some (some (.ref C))) (hx:bA κ x=true) (hk:(keepIn (HK w.params) (.ref f)&&(e::es).all bg)=true) (hl:(Nat.blt (e::es).length 30&&(apos.endLine==pos.line))=true)
  (hf:findCls (HK w.params) (.ref C) (.type "type") name=some (.val (.ref f)))
  (cc:(specialIn (HK w.params) (.ref C) "__getattribute__"==some (some (.builtin "type.__getattribute__"))&&typeIn (HK w.params) (.ref C)==some (.type "type")&&readsIn (HK w.params) C (.type "type")&&handedIn (.ref f))=true) (s:em w κ (e::es) ml):
  av w κ (.Call (.Attribute (.Name x px) name apos) (e::es) [] pos) (ag f ml):=by
 intro G u v h t K Q H m q;obtain⟨d,r,l,S⟩:=H.S;rw[WU]at hk;exact bL d (ii hb hk.2 hl λz=>tZ (G.O.turn S.T) S.A ev (bV H.V hx) (Cv (G.O.turn S.T) S.A hf cc (wN (G.O.turn S.T) (by rw[WU];exact hk) (yR d (s G H m λp i k o n j c g a b=>HC d a (lU hf0 a g b (q.pre c)))))))
abbrev de:=List SV->Sg->KV->Prop
def ft (w:World) (f:Value) (sem:de):Prop:=∀{κ:Ek} (G:Cw w κ) {τ:Tb} {σ:Sg} {h:Heap} {t:Nat} {K:KV} {vs:List SV} {Vs:List Value} {Q:Value->Heap->Nat->Prop},
 Hs G τ σ h->bZ τ vs Vs->sem vs σ K->QE G τ K Q->Wp G.c (call f Vs) Q h t
def bH (sem:de) (ml:AL):AE:=λΦ fr σ K KE=>ml Φ fr σ (λvs σ=>sem vs σ K) KE
variable {id:String} {sem:de}
theorem pE (hB:ft w (.builtin id) sem) (ev:nsIn (HK w.params) mainGlobals x=some none) (hv:bootBuiltins x=some (.builtin id)) (hx:bA κ x=true) (hk:(e::es).all bg=true) (s:em w κ (e::es) ml):av w κ (.Call (.Name x px) (e::es) [] pos) (bH sem ml):=by
 intro G r u h t K Q H m q;obtain⟨c,p,l,S⟩:=H.S;exact bL c (XcL (G.O.turn S.T) S.A ev hv (by rw[WU];exact⟨bV H.V hx,hk⟩) ey (yR c (s G H m λo g j n k i b d f a=>qo c (hB G f d a (q.pre b)))))
theorem LW (hB:ft w (.type id) sem) (ev:nsIn (HK w.params) mainGlobals x=some none) (hv:bootBuiltins x=some (.type id)) (hx:bA κ x=true) (hk:(e::es).all bg=true) (s:em w κ (e::es) ml):av w κ (.Call (.Name x px) (e::es) [] pos) (bH sem ml):=by
 intro G r u h t K Q H m q;obtain⟨c,p,l,S⟩:=H.S;exact bL c (Jt (G.O.turn S.T) S.A ev hv (by rw[WU];exact⟨bV H.V hx,hk⟩) ey (yR c (s G H m λo g j n k i b d f a=>qo c (hB G f d a (q.pre b)))))
def mG (i:Nat):AE:=λZ Z σ K Z=>K (.ty i) σ
theorem G7 (i:Nat) (ev:nsIn (HK w.params) mainGlobals x=some none) (hv:bootBuiltins x=some (.type (Hx i))) (hx:bA κ x=true):av w κ (.Name x pos) (mG i):=by
 intro G c d h t K Q H m q;obtain⟨a,b,l,S⟩:=H.S;exact bL a (vp (G.O.turn S.T) S.A ev hv (bV H.V hx) (H.re (v:=.ty i) rfl m q _))
noncomputable def dQ:List Addr:=[40,62,82,120,140,181,228]
noncomputable def SB (C D:Addr):Option Bool:=cond (dQ.contains C&&(dQ.contains D&& !(Nat.beq D 40))) (some (Nat.beq C D)) none
theorem DX:(dQ.all λC=>dQ.all λD=>Nat.beq D 40||cond (Nat.beq C D) (isIn (HK w.params) (.ref C) C) (kin_not (HK w.params) C D&&fH (HK w.params) C))=true:=by kernel_rfl
theorem mC:(dQ.all λC=>(isNotIn (HK w.params) "int" C&&(isNotIn (HK w.params) "str" C&&(isNotIn (HK w.params) "bool" C&&isNotIn (HK w.params) "NoneType" C)))&&[0,1,2].all λs=>kin_notT (HK w.params) C (Hx s)&&fH (HK w.params) C)=true:=by kernel_rfl
variable {D:Addr}
theorem Mu {b:Bool} (h:SB C D=some b):b=Nat.beq C D∧cond (Nat.beq C D) (isIn (HK w.params) (.ref C) C) (kin_not (HK w.params) C D&&fH (HK w.params) C)=true:=by
 unfold SB at h;cases hc:dQ.contains C&&(dQ.contains D&& !(Nat.beq D 40))with
 |false=>rw[hc]at h;exact cZ h
 |true=>
  rw[hc]at h;rw[WU,WU,Xj]at hc;have z:=WZ.mp (WZ.mp (DX (w:=w)) C (XU.mp hc.1)) D (XU.mp hc.2.1);rw[hc.2.2,Bool.false_or]at z;exact⟨(W7 h).symm,z⟩
theorem wO (h:dQ.contains D=true):(isNotIn (HK w.params) "int" D&&(isNotIn (HK w.params) "str" D&&(isNotIn (HK w.params) "bool" D&&isNotIn (HK w.params) "NoneType" D)))=true:=(WU _ _▸WZ.mp (mC (w:=w)) D (XU.mp h)).1
variable {s:Nat}
theorem Ef (h:dQ.contains D=true) (hs:s∈[0,1,2]):(kin_notT (HK w.params) D (Hx s)&&fH (HK w.params) D)=true:=WZ.mp (WU _ _▸WZ.mp (mC (w:=w)) D (XU.mp h)).2 s hs
theorem tyT (h:s∈[0,1,2]):typeOf (.type (Hx s))=pure (.type "type"):=by
 have:s=0∨s=1∨s=2:=by simpa using h
 rcases this with rfl|rfl|rfl<;>rfl
def HI (c:SV) (K:Nat->Prop):Prop:=match c with
 |.ty s=>K s
 |_=>False
variable {x:SV}
theorem Uj {K:Nat->Prop} (h:HI x K):∃i,x=.ty i∧K i:=by cases x<;>first|exact(bv _ rfl h)|exact h.elim
noncomputable def NG (x:SV) (s:Nat):Bool:=match x with
 |.int _=>Nat.beq s 1
 |.str _=>Nat.beq s 2
 |.bool _=>Nat.blt s 2
 |_=>false
def tL (σ:Sg) (x:SV) (D:Addr) (K:Bool->Prop):Prop:=bI (Nat.beq (kd x) 4) (bF x λk=>bN σ k λo=>gw o λC Z=>bX (SB C D) K) ((Nat.blt (kd x) 4=true∧dQ.contains D=true)∧K false)
@[irreducible] noncomputable def nH (σ:Sg) (x:SV) (s:Nat) (K:Bool->Prop):Prop:=bI (Nat.beq (kd x) 4) (bF x λk=>bN σ k λo=>gw o λC Z=>dQ.contains C=true∧K false) (Nat.blt (kd x) 4=true∧K (NG x s))
def bt:de:=λvs σ K=>two vs λx c=>bI (Nat.beq (kd c) 5) (gA c λD=>tL σ x D λb=>K (.bool b) σ) (HI c λs=>s∈[0,1,2]∧nH σ x s λb=>K (.bool b) σ)
variable {A:Value}
theorem vE {K:Bool->Prop} (H:Hs G τ σ h) (ra:RV τ x A) (m:tL σ x D K) (q:∀b t,K b->Q (.bool b) h t):Wp G.c (call (.builtin "isinstance") [A,.ref D]) Q h t:=by
 obtain⟨a,g,l,S⟩:=H.S;have O:=G.O.turn S.T;cases z:Nat.beq (kd x) 4 with
 |true=>
  obtain⟨k,rfl,o,hob,p1⟩:=bh (m.br.1 z);obtain⟨C,f,rfl,b,hb,p⟩:=gf p1;obtain⟨y,d,rfl,hk,o,g1,g2,g3⟩:=S.R.get ra hob;obtain⟨rfl,z⟩:=Mu (w:=w) hb;cases hcd:Nat.beq C D with
  |true=>
   rw[hcd]at z p;cases W9 hcd;exact bL a (SP O S.A (In.at_ g1) (In.at_ g2) z (q _ _ p))
  |false=>
   rw[hcd]at z p;exact bL a (KA O S.A (In.at_ g1) (In.at_ g2) z (q _ _ p))
 |false=>
  obtain⟨⟨c,e⟩,p⟩:=m.br.2 z;have y:=wO (w:=w) e;rw[WU,WU,WU]at y;cases x
  case none=>cases ra;exact bL a (rG O S.A y.2.2.2 (q _ _ p))
  case bool=>obtain rfl:=ra;exact bL a (ue O S.A y.2.2.1 (q _ _ p))
  case int=>obtain⟨u,rfl⟩:=ra;exact bL a (uF O S.A y.1 (q _ _ p))
  case str=>obtain⟨u,rfl⟩:=ra;exact bL a (xc O S.A y.2.1 (q _ _ p))
  all_goals exact ch c
theorem uG (hs:s∈[0,1,2]) {K:Bool->Prop} (H:Hs G τ σ h) (ra:RV τ x A) (m:nH σ x s K) (q:∀b t,K b->Q (.bool b) h t):Wp G.c (call (.builtin "isinstance") [A,.type (Hx s)]) Q h t:=by
 unfold nH at m;obtain⟨c,e,l,S⟩:=H.S;cases z:Nat.beq (kd x) 4 with
 |true=>
  obtain⟨k,rfl,o,hob,p1⟩:=bh (m.br.1 z);obtain⟨C,f,rfl,hC,p⟩:=gf p1;obtain⟨y,d,rfl,hk,o,g1,g2,g3⟩:=S.R.get ra hob;exact bL c (Ad (G.O.turn S.T) S.A (In.at_ g1) (In.at_ g2) (tyT hs) (Ef (w:=w) hC hs) (q _ _ p))
 |false=>
  obtain⟨a,p⟩:=m.br.2 z;cases x
  case none=>cases ra;rcases hs with _|⟨_,_|⟨_,_|⟨_,h⟩⟩⟩;exact PT (q _ _ p);exact Tf (q _ _ p);exact IK (q _ _ p);exact nomatch h
  case bool=>cases ra;rcases hs with _|⟨_,_|⟨_,_|⟨_,h⟩⟩⟩;exact Uz (q _ _ p);exact Uu (q _ _ p);exact Mk (q _ _ p);exact nomatch h
  case int=>obtain⟨u,rfl⟩:=ra;rcases hs with _|⟨_,_|⟨_,_|⟨_,h⟩⟩⟩;exact LA (q _ _ p);exact HQ (q _ _ p);exact Ke (q _ _ p);exact nomatch h
  case str=>obtain⟨u,rfl⟩:=ra;rcases hs with _|⟨_,_|⟨_,_|⟨_,h⟩⟩⟩;exact MT (q _ _ p);exact JX (q _ _ p);exact Rm (q _ _ p);exact nomatch h
  all_goals exact ch a
theorem Ax:ft w (.builtin "isinstance") bt:=by
 intro j G g e h t K vs i Q H r m q;obtain⟨x,c,A,B,rfl,ra,rb,m⟩:=jG m r;have a:∀b t,K (.bool b) e->Q (.bool b) h t:=λb t k=>H.re (v:=.bool b) rfl k q _;cases z:Nat.beq (kd c) 5 with
 |true=>
  obtain⟨D,rfl,p⟩:=gi (m.br.1 z);obtain rfl:=rb;exact vE H ra p a
 |false=>
  refine ia (Uj (m.br.2 z)) λs d f p=>?_;obtain rfl:=d;obtain rfl:=rb;exact uG f H ra p a
def aZ:de:=λvs σ K=>one vs λx=>bI (Nat.beq (kd x) 3) (cj x λz=>z.length≤50000∧K (.int z.length) σ) (bF x λk=>bN σ k λo=>xf o λxs=>xs.length≤1000000∧K (.int xs.length) σ)
theorem BI:ft w (.builtin "len") aZ:=by
 intro E G n D h t K vs C Q H r m q;obtain⟨x,A,rfl,ra,m⟩:=l9 m r;cases z:Nat.beq (kd x) 3 with
 |true=>
  obtain⟨z,rfl,a,p⟩:=b0 (m.br.1 z);obtain⟨u,rfl⟩:=ra;exact PySem.P.len_str (s:=⟨h,G.c.gn,G.c.d,t,G.c.os⟩) (by lia) (aJ (c:=G.c) (H.re (v:=.int _) ⟨_,rfl⟩ p q _))
 |false=>
  obtain⟨f,j,l,S⟩:=H.S;obtain⟨k,rfl,o,hob,p1⟩:=bh (m.br.2 z);obtain⟨y,d,rfl,hk,f2⟩:=S.R.get ra hob;obtain⟨B,vs,i,b,g,a,p⟩:=qQ p1 f2;have e:vs.toArray.size=_:=(Xq).trans g.len;refine bL f (PyProof.Rows.len_list (s:=⟨h,G.c.gn,G.c.d,t,G.c.os⟩) (bJ S.A.N b) ?_ (aJ (c:=G.c) (H.re (v:=.int _) ⟨_,rfl⟩ ?_ q _)))
  ·rw[e];exact XcY a
  ·rw[e];exact p
def iw:de:=λvs σ K=>two vs λx y=>aR x λa=>aR y λb=>K (.int (if b>a then b else a)) σ
def fk:de:=λvs σ K=>two vs λx y=>aR x λa=>aR y λb=>K (.int (if b<a then b else a)) σ
def eS:de:=λvs σ K=>one vs λx=>aR x λa=>K (.int (if a<0 then -a else a)) σ
def kC:de:=λvs σ K=>one vs λx=>aR x λa=>(0≤a∧a≤1114111)∧K (.str ⟨#[a.toNat]⟩) σ
theorem Dp:ft w (.builtin "max") iw:=by
 intro p G i o h t K vs j Q H r m q;obtain⟨x,y,A,B,rfl,ra,rb,m⟩:=jG m r;obtain⟨a,b,u,v,rfl,rfl,m⟩:=bR ra rb m;obtain⟨e,g,l,S⟩:=H.S;exact bL e (max_two_N (s:=⟨h,G.c.gn,G.c.d,t,G.c.os⟩) G.O.hh S.A.F S.A.N λn k f d=>aJ (c:=G.c) (Hs.re ⟨H.V,⟨_,_,_,S.T,⟨f,d,S.A.k⟩,S.L,S.R⟩,H.le⟩ (v:=.int _) ⟨_,rfl⟩ m q _))
theorem G6:ft w (.builtin "min") fk:=by
 intro p G i o h t K vs j Q H r m q;obtain⟨x,y,A,B,rfl,ra,rb,m⟩:=jG m r;obtain⟨a,b,u,v,rfl,rfl,m⟩:=bR ra rb m;obtain⟨e,g,l,S⟩:=H.S;exact bL e (min_two_N (s:=⟨h,G.c.gn,G.c.d,t,G.c.os⟩) G.O.hh S.A.F S.A.N λn k f d=>aJ (c:=G.c) (Hs.re ⟨H.V,⟨_,_,_,S.T,⟨f,d,S.A.k⟩,S.L,S.R⟩,H.le⟩ (v:=.int _) ⟨_,rfl⟩ m q _))
theorem B7:ft w (.builtin "abs") eS:=by
 intro g G b f h t K vs d Q H r m q;obtain⟨x,A,rfl,ra,m⟩:=l9 m r;obtain⟨a,rfl,m⟩:=bU m;obtain⟨u,rfl⟩:=ra;exact call_abs_int (s:=⟨h,G.c.gn,G.c.d,t,G.c.os⟩) λu e=>aJ (c:=G.c) (H.re (v:=.int _) ⟨_,rfl⟩ m q _)
theorem FH:ft w (.builtin "chr") kC:=by
 intro f G b d h t K vs e Q H r m q;obtain⟨x,A,rfl,ra,m⟩:=l9 m r;obtain⟨a,rfl,hz,m⟩:=bU m;obtain⟨u,rfl⟩:=ra;exact PySem.P.chr_of_int (s:=⟨h,G.c.gn,G.c.d,t,G.c.os⟩) (by simp;omega) (aJ (c:=G.c) (H.re (v:=.str _) ⟨_,rfl⟩ m q _))
def jR (a:AE):AE:=λΦ fr σ K KE=>a Φ fr σ (λx σ=>aR x λi=>K (.int (-i)) σ) KE
theorem Op (s:av w κ e m):av w κ (.UnaryOp .USub e pos) (jR m):=by
 intro G y z h t K Q H m q;refine PK (s G H m λr n o p f d b g j a=>?_);obtain⟨i,e,k⟩:=bU a;have l:=g;rw[e]at l;obtain⟨u,x⟩:=l;rw[x];exact PySem.P.neg_int (s:=⟨f,G.c.gn,G.c.d,d,G.c.os⟩) (aJ (c:=G.c) (j.re (v:=.int _) ⟨_,rfl⟩ k (q.pre b) _))
variable {ns:List Str} {vs:List (Option Value)} {l:bu}
theorem At.push (A:At c ns vs l h) (ob:Obj) (hf:ob.isFreed=false):At c ns vs ((h.objs.size,ob)::l) (h.push ob):=
 ⟨A.F.push _,News.push A.F A.N ob hf,A.k.cons λp a=>Xe (A.N p a).1⟩
def bD:de:=λvs σ K=>one vs λx=>aR x λn=>K (.ref σ.nx) (σ.new (.rng 0 n))
theorem tB:ft w (.type "range") bD:=by
 intro i G e g h t K vs f Q H r m q;obtain⟨x,A,rfl,ra,m⟩:=l9 m r;obtain⟨a,rfl,m⟩:=bU m;obtain⟨u,rfl⟩:=ra;obtain⟨b,d,l,S⟩:=H.S;exact bL b (call_range_1 (s:=⟨h,G.c.gn,G.c.d,t,G.c.os⟩) (aJ (c:=G.c) (dN H S (S.A.push _ rfl) (o:=.rng 0 a) (xI _ _ _ (.head _)) m q _)))
def oN:de:=λvs σ K=>one vs λx=>bF x λk=>bN σ k λo=>cP o λxs=>xs.length≤10000∧K (.ref σ.nx) (σ.new (.list xs))
theorem wR:ft w (.type "list") oN:=by
 intro u G j s h t K vs n Q H r m q;obtain⟨x,A,rfl,ra,m⟩:=l9 m r;obtain⟨k,rfl,o,hob,m⟩:=bh m;obtain⟨c,rfl,hz,m⟩:=cq m;obtain⟨g,i,l,S⟩:=H.S;obtain⟨y,d,rfl,hk,vs,n',g1,g2⟩:=S.R.get ra hob;refine mY (Ye S.R.ne) λb r a=>?_;obtain rfl:=a;exact bL g (wr (b:=b) (W:=[]) (T:=[]) (I:=r) S.A (In.at_ g1) (by rw[g2.len];exact hz) λD e p f=>dN H S (yF f) (o:=.list c) ⟨_,_,.head _,g2.up (S.R.le_up _)⟩ m q _)
def qJ (w:World) (name:Str) (gm:Sg->SV->Prop) (sem:de):Prop:=∃id:String,ft w (.builtin id) sem∧
 ∀{κ:Ek} (G:Cw w κ) {τ:Tb} {σ:Sg} {h:Heap} {t:Nat} {v:SV} {V:Value} {pl:Sem Bool} {Q:Value×List Value->Heap->Nat->Prop},
  Hs G τ σ h->RV τ v V->gm σ v->(∀t',Q (.builtin id,[V]) h t')->Wp G.c (getMethod V name pl) Q h t
def kY (gm:Sg->SV->Prop) (sem:de) (o:AE) (ml:AL):AE:=λΦ fr σ K KE=>o Φ fr σ (λv σ=>gm σ v∧ml Φ fr σ (λvs σ=>sem (v::vs) σ K) KE) KE
variable {o:Expr}
theorem xu {mo:AE} {gm:Sg->SV->Prop} (hB:qJ w name gm sem) (hb:∀env x,attributeBase o name env x=x) (hk:(e::es).all bg=true) (hl:(Nat.blt (e::es).length 30&&(apos.endLine==pos.line))=true) (so:av w κ o mo) (s:em w κ (e::es) ml):
  av w κ (.Call (.Attribute o name apos) (e::es) [] pos) (kY gm sem mo ml):=by
 intro G F J h t K Q H m q;refine bn hB λI hB A=>?_;exact ii hb hk hl λL=>so G H m λi n u z y p f c d a=>A G d c a.1 λE=>yw hk (s G d a.2 λk C r v B D b j g l=>hB G g (vs:=i::k) ⟨_,_,rfl,c.up b,j⟩ l (q.pre (f.trans b)))
def gR:Sg->SV->Prop:=λZ v=>cj v λZ=>True
def eW:Sg->SV->Prop:=λσ v=>bF v λk=>bN σ k λo=>cP o λZ=>True
end
section
variable {w:World} {κ:Ek}
inductive L7 (z:Str) (xs:List SV) (K:Str->Prop):Prop
 |mk (ys:List Str) (h:xs=ys.map SV.str) (hz:(ys.map (·.length)).sum+ys.length*z.length≤16777216) (q:K (Txt.join z ys))
def dq:de:=λvs σ K=>two vs λx y=>cj x λz=>bF y λk=>bN σ k λo=>cP o λxs=>L7 z xs λy=>K (.str y) σ
theorem vx:qJ w "join" gR dq:=by
 refine(bv ("str.join") ?_ ?_)
 ·intro g G b f h t K vs C Q H r m q
  obtain⟨x,y,A,B,rfl,ra,rb,m⟩:=jG m r;obtain⟨z,rfl,m⟩:=b0 m;obtain⟨u,rfl⟩:=ra;obtain⟨k,rfl,o,hob,m⟩:=bh m;obtain⟨n,rfl,ys,rfl,hz,p⟩:=cq m;obtain⟨e,j,l,S⟩:=H.S;obtain⟨y,d,rfl,hk,vs,n',g1,g2⟩:=S.R.get rb hob;exact bL e (PyProof.Rows.join_list (s:=⟨h,G.c.gn,G.c.d,t,G.c.os⟩) (bJ S.A.N g1) (sk g2) hz λi k=>aJ (c:=G.c) (H.re (v:=.str _) ⟨_,rfl⟩ p q _))
 ·intro g G b f h t v V D Q H a m q
  obtain⟨z,rfl,m⟩:=b0 m;obtain⟨u,rfl⟩:=a;exact PySem.GM.join (s:=⟨h,G.c.gn,G.c.d,t,G.c.os⟩) (aJ (c:=G.c) (q _))
theorem KY (vs:List Value) {x y:Int} (h:0≤x) (h1:x≤y) (h2:y.toNat≤vs.length):slicePick vs.toArray (some x) (some y) none=((vs.drop x.toNat).take (y.toNat - x.toNat)).toArray:=by
 obtain⟨a,rfl⟩:=XM h;obtain⟨b,rfl⟩:=XM (Xl h h1);exact slicePick_run vs.toArray a b (by rw[Xq];exact h2) (YK.mp h1)
theorem Te (vs:List Value) {y:Int} (h:0≤y):slicePick vs.toArray none (some y) none=(vs.take y.toNat).toArray:=by
 obtain⟨b,rfl⟩:=XM h;exact slicePick_upto' vs.toArray b
def slS (z:Str) (a b:SV) (K:Str->Prop):Prop:=bI (Nat.beq (kd a) 0) (aR b λy=>K (Txt.slice z none (some y))) (aR a λx=>bI (Nat.beq (kd b) 0) (K (Txt.slice z (some x) none)) (aR b λy=>K (Txt.slice z (some x) (some y))))
def slL (xs:List SV) (a b:SV) (K:List SV->Prop):Prop:=bI (Nat.beq (kd a) 0) (aR b λy=>0≤y∧K (xs.take y.toNat)) (aR a λx=>aR b λy=>(0≤x∧x≤y∧y.toNat≤xs.length)∧K ((xs.drop x.toNat).take (y.toNat - x.toNat)))
def sP (σ:Sg) (v a b:SV) (K:SV->Sg->Prop):Prop:=bI (Nat.beq (kd v) 3) (cj v λz=>z.length≤50000∧slS z a b λy=>K (.str y) σ) (bF v λk=>bN σ k λo=>xf o λxs=>xs.length≤1000000∧slL xs a b λys=>K (.ref σ.nx) (σ.new (.list ys)))
variable {v:SV}
theorem kd0 (h:Nat.beq (kd v) 0=true):v=.none:=by cases v<;>first|rfl|exact ch h
def sF:Option AE->AE
 |none=>λZ Z σ K Z=>K .none σ
 |some a=>a
inductive pL (w:World) (κ:Ek):Option Expr->Option AE->Prop
 |none:pL w κ none none
 |some {e m} (s:av w κ e m):pL w κ (some e) (some m)
variable {e e1 e2 e3:Expr} {es:List Expr} {m m1 m2 m3:AE} {ml:AL} {pos px apos:Pos} {x:Str} {lo hi:Option Expr} {ma mb:Option AE} {G:Cw w κ} {τ:Tb} {σ:Sg} {h:Heap} {t:Nat} {K:KV} {Q:Value->Heap->Nat->Prop}
theorem yt (s:pL w κ lo ma) (H:Hs G τ σ h) (m:sF ma G.Φ G.fr σ K G.KE) (q:QE G τ K Q):Wp G.c (evalPart lo G.env) Q h t:=by
 cases s with
 |none=>exact W1 (aJ (c:=G.c) (H.re (v:=.none) rfl m q _))
 |some s=>exact s G H m q
def ew (o:AE) (ma mb:Option AE):AE:=λΦ fr σ K KE=>o Φ fr σ (λv σ=>sF ma Φ fr σ (λa σ=>sF mb Φ fr σ (λb σ=>sP σ v a b K) KE) KE) KE
variable {p:Pos}
theorem eG {o i:Value}:subscripted (.Slice lo hi none p) false o i=operate [i,o] (getItem o i):=rfl
variable {o:Expr} {g':Heap} {l:bu}
theorem Jm {vs:List Value} {n':Nat} {y:Addr} {A B:Value} {a b:Option Int} {ys:List SV} {ws:List Value} {vv:List (Option Value)} (H:Hs G τ σ h) (S:n0 G.c κ.ns G.fr σ τ G.X h g' vv l) (g1:(y,aL vs n')∈l) (pa:IsPart A a) (pb:IsPart B b) (hp:slicePick vs.toArray a b none=ws.toArray) (hz:vs.length≤1000000) (r:bZ τ ys ws)
  (k:K (.ref σ.nx) (σ.new (.list ys))) (q:QE G τ K Q):Wp G.c (subscriptTail o (.Slice lo hi none p) (.ref y) (.ref h.objs.size)) Q (h.push {cls:=.type "slice",data:=.fields #[A,B,.none]}) t:=by
 refine bL g' (kba_turn (value':=.Name "" default) (λZ=>rfl) (slice_list (s:=⟨h,G.c.gn,G.c.d,t,G.c.os⟩) S.A.F S.A.N (bJ S.A.N g1) pa pb (λf e d=>?_) eG (λZ=>rfl) ?_))
 ·rw[hp]at d
  exact aJ (c:=G.c) (dN (D:=h.objs.size+1) H S ⟨e,d,S.A.k.cons λp hp=>Zg (Xe (S.A.N p hp).1)⟩ (o:=.list ys) ⟨_,_,.head _,r.up (S.R.le_up _)⟩ k q _)
 ·rw[XI,Xq];exact Z1 hz
variable {V A B:Value}
theorem BF {v a b:SV} (H:Hs G τ σ h) (rv:RV τ v V) (ra:RV τ a A) (rb:RV τ b B) (m:sP σ v a b K) (q:QE G τ K Q):
  Wp G.c (subscriptTail o (.Slice lo hi none p) V (.ref h.objs.size)) Q (h.push {cls:=.type "slice",data:=.fields #[A,B,.none]}) t:=by
 obtain⟨r,J,l,S⟩:=H.S;cases z:Nat.beq (kd v) 3 with
 |true=>
  obtain⟨z,rfl,e,f⟩:=b0 (m.br.1 z);obtain⟨u,rfl⟩:=rv;cases za:Nat.beq (kd a) 0 with
  |true=>
   cases kd0 za;obtain rfl:=ra;obtain⟨y,rfl,p2⟩:=bU (f.br.1 za);obtain⟨n,rfl⟩:=rb;exact bL r (slice_strN_ns (s:=⟨h,G.c.gn,G.c.d,t,G.c.os⟩) S.A.F S.A.N (λD w k j g=>aJ (c:=G.c) (Hs.re ⟨H.V,⟨_,_,_,S.T,⟨j,g,S.A.k⟩,S.L,S.R⟩,H.le⟩ (v:=.str _) ⟨_,rfl⟩ p2 q _)) eG (λZ=>by cases o<;>rfl) (by rw[XI];exact Z1 e))
  |false=>
   obtain⟨x,rfl,p2⟩:=bU (f.br.2 za);obtain⟨I,rfl⟩:=ra;cases zb:Nat.beq (kd b) 0 with
   |true=>
    cases kd0 zb;obtain rfl:=rb;exact bL r (slice_strN_sn (s:=⟨h,G.c.gn,G.c.d,t,G.c.os⟩) S.A.F S.A.N (λD w k j g=>aJ (c:=G.c) (Hs.re ⟨H.V,⟨_,_,_,S.T,⟨j,g,S.A.k⟩,S.L,S.R⟩,H.le⟩ (v:=.str _) ⟨_,rfl⟩ (p2.br.1 zb) q _)) eG (λZ=>by cases o<;>rfl) (by rw[XI];exact Z1 e))
   |false=>
    obtain⟨y,rfl,p3⟩:=bU (p2.br.2 zb);obtain⟨n,rfl⟩:=rb;exact bL r (slice_strN_ss (s:=⟨h,G.c.gn,G.c.d,t,G.c.os⟩) S.A.F S.A.N (λD w k j g=>aJ (c:=G.c) (Hs.re ⟨H.V,⟨_,_,_,S.T,⟨j,g,S.A.k⟩,S.L,S.R⟩,H.le⟩ (v:=.str _) ⟨_,rfl⟩ p3 q _)) eG (λZ=>by cases o<;>rfl) (by rw[XI];exact Z1 e))
 |false=>
  obtain⟨k,rfl,ob,hob,p0⟩:=bh (m.br.2 z);obtain⟨y,d,rfl,hk,f2⟩:=S.R.get rv hob;obtain⟨F,vs,E,C,i,e,f⟩:=qQ p0 f2;cases za:Nat.beq (kd a) 0 with
  |true=>
   cases kd0 za;obtain rfl:=ra;obtain⟨y,rfl,h0,p2⟩:=bU (f.br.1 za);obtain⟨n,rfl⟩:=rb;exact Jm H S C .none (.int _ _) (Te vs h0) (i.len▸e) i.take p2 q
  |false=>
   obtain⟨x,y,u,n,rfl,rfl,h0,p2⟩:=bR ra rb (f.br.2 za);exact Jm H S C (.int _ _) (.int _ _) (KY vs h0.1 h0.2.1 (i.len▸h0.2.2)) (i.len▸e) i.drop.take p2 q
theorem wz {mo:AE} (so:av w κ o mo) (sa:pL w κ lo ma) (sb:pL w κ hi mb):av w κ (.Subscript o (.Slice lo hi none p) pos) (ew mo ma mb):=by
 intro G Y σ h t K Q H m q;refine t8 (so G H m λW M L d R X r i j g=>?_);refine wpAny_Slice (Wp.go (yt sa (Q:=λ(A:Value) v C=>Wp G.c (evalPart hi G.env) (λB k x=>Wp G.c (subscriptTail o (.Slice lo hi none p) d (.ref k.objs.size)) Q (k.push {cls:=.type "slice",data:=.fields #[A,B,.none]}) x) v C) j g λO D I P N E b s u e=>?_) λA v C y=>Wp.go y λB k x z=>W1 (aJ (c:=G.c) z));exact yt sb u e λU T F J S V a l f n=>BF f (i.up (b.trans a)) (s.up a) l n (q.pre ((r.trans b).trans a))
def ku:de:=λvs σ K=>two vs λx y=>bF x λk=>bF y λk2=>bN σ k λo=>bN σ k2 λo2=>cP o λxs=>cP o2 λys=>(xs=[]∧ys.length≤10000)∧K .none (σ.set k (.list ys))
theorem jr {name:Str} {id:String} (hs:PySem.Slot "list" name id) (hty:typeOf (.builtin id)=pure (.type "method_descriptor")) {pl:Sem Bool} {Q:Value×List Value->Heap->Nat->Prop}
  (H:Hs G τ σ h) (rv:RV τ v V) (m:eW σ v) (q:∀t',Q (.builtin id,[V]) h t'):Wp G.c (getMethod V name pl) Q h t:=by
 obtain⟨b,f,l,S⟩:=H.S;obtain⟨k,rfl,o,hob,m⟩:=bh m;obtain⟨g,rfl,m⟩:=cq m;obtain⟨y,d,rfl,hk,vs,n',g1,g2⟩:=S.R.get rv hob;exact bL b (ZH (s:=⟨h,G.c.gn,G.c.d,t,G.c.os⟩) (bJ (s:=⟨h,G.c.gn,G.c.d,t,G.c.os⟩) S.A.N g1).typeIs PySem.F.plainAttrs_list hs hty (λa e=>by obtain rfl:=PySem.Value.ref.inj e;exact(bv _ ((S.A.N _ g1).1) rfl)) (aJ (c:=G.c) (q _)))
theorem Gx:qJ w "extend" eW ku:=by
 refine(bv ("list.extend") ?_ (by intro N G F M h t v V pl Q H E m q;exact jr PySem.F.slot_list_extend PySem.F.type_list_extend H E m q));intro N G F M h t K vs W Q H r m q;obtain⟨x,y,A,B,rfl,ra,rb,m⟩:=jG m r;obtain⟨k,rfl,p1⟩:=bh m;obtain⟨X,rfl,o1,hob,o2,hob2,p2⟩:=bh p1;obtain⟨T,rfl,p3⟩:=cq p2;obtain⟨C,rfl,⟨rfl,hz⟩,p⟩:=cq p3;obtain⟨u,R,l,S⟩:=H.S;obtain⟨Y,d1,rfl,hk1,v1,n1,g1,r1⟩:=S.R.get ra hob;obtain⟨O,P,rfl,hk2,v2,n2,g2,r2⟩:=S.R.get rb hob2;obtain rfl:=r1;have b:=r2.len;refine gS (dM g1) λI D i U=>?_;obtain rfl:=i;have j:¬(!(([]:List Value).toArray).isEmpty&&Builtin.List.listTooLong ((([]:List Value).toArray).size+v2.toArray.size))=true:=by simp
 have d:(([]:List Value).toArray).toList.length≤sizeLine:=by rw[XI];decide
 have a:(([]:List Value).toArray).size+v2.toArray.size≤sizeLine+1:=by rw[XI];simp;exact VZ b hz
 by_cases e:v2=[]
 ·subst e
  cases C with
  |cons=>cases b
  |nil=>exact bL u (kxn_extend (s:=⟨h,G.c.gn,G.c.d,t,G.c.os⟩) (its:=([]:List Value).toArray) (n:=n1) (its2:=([]:List Value).toArray) (n2:=n2) S.A.F S.A.N g2 rfl ((U (aL [] n1)).go S.A.k) j d a λL g f=>aJ (c:=G.c) (Hs.re (v:=.none) ⟨H.V,⟨_,_,_,S.T,⟨g,f,S.A.k⟩,S.L,S.R.chg (o:=.list []) hob hk1 (.inl rfl) (λq J Z=>J) (λZ z=>z) ⟨_,_,g1,rfl⟩⟩,H.le⟩ rfl p q _))
 ·exact bL u (kl_extend (s:=⟨h,G.c.gn,G.c.d,t,G.c.os⟩) (its:=([]:List Value).toArray) (n:=n1) (its2:=v2.toArray) (n2:=n2) (l:=v2) S.A.F S.A.N g2 (by simp) (by simpa using e) ((U (aL v2 (n1+1))).go S.A.k) j d a λL g f=>aJ (c:=G.c) (Hs.re (v:=.none) ⟨H.V,⟨_,_,_,S.T,⟨g,f,S.A.k.upd ((U (aL v2 (n1+1))).go S.A.k)⟩,S.L,S.R.chg (o:=.list C) hob hk1 (.inl rfl) cY cO ⟨_,_,dA,r2⟩⟩,H.le⟩ rfl p q _))
end
section
variable {w:World} {κ:Ek}
inductive Xeb (xs:List SV) (i:Int) (K:SV->List SV->Prop):Prop
 |mk (a:List SV) (x:SV) (b:List SV) (h:xs=a++x::b) (hi:i=a.length) (hz:xs.length≤10000) (q:K x (a++b))
def nJ:de:=λvs σ K=>two vs λx y=>bF x λk=>aR y λi=>bN σ k λo=>cP o λxs=>Xeb xs i λx ys=>K x (σ.set k (.list ys))
variable {τ:Tb}
theorem bZ.split {ys:List SV} {x:SV} {xs:List SV}:∀{V:List Value},bZ τ (xs++x::ys) V->∃A B W,V=A++W::B∧bZ τ xs A∧RV τ x W∧bZ τ ys B:=by
 induction xs with
 |nil=>rintro V ⟨W,B,rfl,h,r⟩;exact(hH ([]) _ _ rfl rfl h r)
 |cons a xs ih=>
  rintro V ⟨A,B,rfl,h,r⟩;refine lq (ih r) λf c W b g e d=>?_;obtain rfl:=b;exact(hH (A::f) c W rfl ⟨_,_,rfl,h,g⟩ e d)
theorem mS (W:Value) (Q:List Value) (P:List Value):kl_cut (P++W::Q) P.length=some (P,W,Q):=by
 induction P with
 |nil=>rfl
 |cons p P ih=>
  show(match kl_cut (P++W::Q) P.length with|some (p',y,q)=>some (p::p',y,q)|none=>none)=_;rw[ih]
theorem FY:qJ w "pop" eW nJ:=by
 refine(bv ("list.pop") ?_ (by intro R G F O h t v V pl Q H D m q;exact jr PySem.F.slot_list_pop PySem.F.type_list_pop H D m q));intro R G F O h t K vs Y Q H r m q;obtain⟨x,y,A,B,rfl,ra,rb,m⟩:=jG m r;obtain⟨k,rfl,p1⟩:=bh m;obtain⟨i,rfl,o1,hob,p2⟩:=bU p1;obtain⟨u,rfl⟩:=rb;obtain⟨X,rfl,a,x,b,rfl,hi,hz,p⟩:=cq p2;obtain⟨L,T,l,S⟩:=H.S;obtain⟨y1,d1,rfl,hk1,v1,n1,g1,r1⟩:=S.R.get ra hob;have e:=r1.len;refine lq r1.split λP d W f j M E=>?_;obtain rfl:=f;refine gS (dM g1) λI z g U=>?_;obtain rfl:=g;have C:P.length<(P++W::d).length:=by rw[Yb,Yc];exact Z42
 rw[hi,←j.len];refine bL L (kl_popAt (s:=⟨h,G.c.gn,G.c.d,t,G.c.os⟩) (its:=(P++W::d).toArray) (n:=n1) (k:=P.length) (p:=P) (q:=d) (y:=W) S.A.F S.A.N ?_ ?_ ?_ ((U (aL (P++d) (n1+1))).go S.A.k) ?_ λh' N J=>aJ (c:=G.c) (Hs.re (v:=x) ⟨H.V,⟨_,_,_,S.T,⟨N,J,S.A.k.upd ((U (aL (P++d) (n1+1))).go S.A.k)⟩,S.L,S.R.chg (o:=.list (a++b)) hob hk1 (.inl rfl) cY cO ⟨_,_,dA,E.app j⟩⟩,H.le⟩ M p q _))
 ·unfold Builtin.List.listFitsIndex
  simp;lia
 ·rw[Xq]
  exact fj (Yl _) (by rw[Int.toNat_natCast];exact C)
 ·exact mS W d P
 ·rw[XI]
  show(P++W::d).length≤_;exact VZ e hz
variable {E:Value->Shared->Prop} {u:Tok} {Q:Bool->Shared->Prop}
theorem Ey {A:Around} {s:Shared} {a:Str} {t:Tok} {b:Int} (h:Q false s):wpAny (model PP w) A (eqBool (.str a t) (.int b u)) Q E s:=by
 dsimp only[eqBool];refine XH ?_;rw[Xh (by simp)];exact WV (EqMixed.eq_str_int (YT h))
theorem Ec {A:Around} {s:Shared} {a:Str} {t:Tok} {b:Int} (h:Q false s):wpAny (model PP w) A (eqBool (.int b u) (.str a t)) Q E s:=by
 dsimp only[eqBool];refine XH ?_;rw[Xh (by simp)];exact WV (EqMixed.eq_int_str (YT h))
noncomputable def rD (k:Str ⊕ Int) (v:Value):Bool:=match k with
 |.inl s=>Value.isStrOf s v
 |.inr i=>Value.isInt i v
theorem eA {s:Str} {v:Value} (h:rD (.inl s) v=true):∃t,v=.str s t:=Value.isStrOf_shape h
theorem eu {i:Int} {v:Value} (h:rD (.inr i) v=true):∃t,v=.int i t:=Value.isInt_shape h
noncomputable def qg (w:World):KeyKind PP w (Str ⊕ Int) where
 is:=rD
 hash:=λk=>match k with
  |.inl s=>hashStr w s
  |.inr i=>hashInt i
 inj:=λv a b ha hb=>by
  cases a with
  |inl s=>
   obtain⟨t,rfl⟩:=eA ha;cases b with
   |inl s2=>obtain⟨t2,e⟩:=eA hb;cases e;rfl
   |inr i2=>obtain⟨t2,e⟩:=eu hb;cases e
  |inr i=>
   obtain⟨t,rfl⟩:=eu ha;cases b with
   |inl s2=>obtain⟨t2,e⟩:=eA hb;cases e
   |inr i2=>obtain⟨t2,e⟩:=eu hb;cases e;rfl
 byValue:=λk v h=>by
  cases k with
  |inl s=>obtain⟨t,rfl⟩:=eA h;rfl
  |inr i=>obtain⟨t,rfl⟩:=eu h;rfl
 pyHash:=λ{A E s k v Q} hv h=>by
  cases k with
  |inl s=>obtain⟨t,rfl⟩:=eA hv;exact wpAny_pyHash_str h
  |inr i=>obtain⟨t,rfl⟩:=eu hv;exact wpAny_pyHash_int h
 eqBool:=λ{A E s a b u v Q} hu hv h=>by
  cases a with
  |inl s1=>
   obtain⟨t,rfl⟩:=eA hu;cases b with
   |inl s2=>obtain⟨t2,rfl⟩:=eA hv;exact wpAny_eqBool_str (by simpa using h)
   |inr i2=>obtain⟨t2,rfl⟩:=eu hv;exact Ey (by simpa using h)
  |inr i1=>
   obtain⟨t,rfl⟩:=eu hu;cases b with
   |inl s2=>obtain⟨t2,rfl⟩:=eA hv;exact Ec (by simpa using h)
   |inr i2=>obtain⟨t2,rfl⟩:=eu hv;exact wpAny_eqBool_int (by rw[show(i1==i2)=decide (Sum.inr i1=(Sum.inr i2:Str ⊕ Int)) by rw[Bool.eq_iff_iff];simp];exact h)
 «strs»:=λk x t v h=>by
  cases k with
  |inl s=>obtain⟨u,hu⟩:=eA h;cases hu;cases v<;>rfl
  |inr i=>obtain⟨u,hu⟩:=eu h;cases hu
variable {c:Cf w} {nn:Nat} {ns:List Str} {vs:List (Option Value)} {l:bu} {h:Heap} {t:Nat} {Q:Value->Heap->Nat->Prop} {R:Unit->Heap->Nat->Prop} {a y:Addr} {i:Int} {z:Str} {u2:Tok} {v:Value} {u':Obj->bu}
theorem yH (hy:h.get? y=some (cR [.str z u,.int i u2])):(tupleKind (qg w)).is h [.inl z,.inr i] y:=by
 refine(hH _ (#[.str z u,.int i u2]) _ hy rfl rfl ?_);exact .cons (by simp[qg,rD,Value.isStrOf]) (.cons (by simp[qg,rD,Value.isInt]) .nil)
theorem yj {K:Type} [DecidableEq K] {knd:HeapKind PP w K} (ha:h.get? a=some (dictOf [] 0)):h.DictOfH knd a []:=(V3 _ (#[]) 0 ha (eQ rfl rfl rfl) rfl rfl (λZ b=>(nomatch b)) Z0)
theorem EP (rm:da c.A nn) (H:At c ns vs l h) (i1:(a,dictOf [] 0)∈l) (i2:(y,cR [.str z u,.int i u2])∈l) (lo:(a==sysModules)=false) (q:∀t,Q .none h t):Wp c (call (.builtin "dict.get") [.ref a,.ref y]) Q h t:=by
 have b:=yj (knd:=tupleKind (qg w)) ((H.N _ i1).1);refine call_meetsIn F.slot_dict_get b.typeIs F.entry_dict_get (F.args_dict_get_2 _ _) (meetsH_dict_get (tupleKind (qg w)) a y lo) ⟨(by have:=jP rm;exact Z25 this),_,[],yH (H.N _ i2).1,b,aJ (q _)⟩
theorem BR (rm:da c.A nn) (H:At c ns vs l h) (U:∀o',dC a (dictOf [] 0) o' l (u' o')) (i2:(y,cR [.str z u,.int i u2])∈l) (q:∀o' h' t,At c ns vs (u' o') h'->R () h' t):Wp c (setItem (.ref a) (.ref y) v) R h t:=by
 refine wpAny_setItem_heap (knd:=tupleKind (qg w)) (xs:=[]) (s:=⟨h,c.gn,c.d,t,c.os⟩) (hsz:=by rw[XI];decide) (by have:=jP rm;exact Z25 this) (yH (H.N _ i2).1) (yj (H.N _ ((U (dictOf [] 0)).mem)).1) λh' b f=>?_;refine uz b λo' p r e Z=>?_;have V:=(U o').go H.k;have d:=H.k.upd V;refine ux V.split λn g j k m o=>?_;have N:=H.N;rw[j]at N;exact aJ (q o' h' _ ⟨H.F.change f (H.N _ ((U (dictOf [] 0)).mem)).2.1 (H.N _ ((U (dictOf [] 0)).mem)).2.2,by rw[k];exact N.setAt m o f e,d⟩)
noncomputable def gV (kvs:List (Str×SV)) (z:Str):SV:=match kvs.find? λkv=>aA kv.1 z with
 |some kv=>kv.2
 |none=>.none
variable {kvs:List (Str×SV)}
theorem DN:∀{kv:List (Str×Value)},RK τ kvs kv->RV τ (gV kvs z) ((valueAt kv z).getD .none):=by
 induction kvs with
 |nil=>intro kv h;obtain rfl:=h;exact rfl
 |cons p r a=>
  rintro kv ⟨V,s,rfl,h1,h2⟩;have a:=a h2;dsimp only[gV,valueAt]at a ⊢;rw[Yy,Yy];by_cases e:p.1=z
  ·subst e
   rw[aQ,Xx rfl];exact h1
  ·rw[cC.mpr e,Xo e]
   exact a
theorem q6:∀{kv:List (Str×Value)},RK τ kvs kv->kv.length=kvs.length:=by
 induction kvs with
 |nil=>intro kv h;obtain rfl:=h;rfl
 |cons p r ih=>rintro kv ⟨V,s,rfl,h1,h2⟩;rw[Yc,Yc,ih h2]
theorem O3:∀{kv:List (Str×Value)},RK τ kvs kv->(kvs.any λx=>aA x.1 z)=false->(kv.any λx=>decide (x.1=z))=false:=by
 induction kvs with
 |nil=>intro kv h _;obtain rfl:=h;rfl
 |cons p r ih=>
  rintro kv ⟨V,s,rfl,h1,h2⟩ hn;rw[Z7,Zr]at hn;rw[Z7,Zr];exact⟨Xo (cC.mp hn.1),ih h2 hn.2⟩
variable {v:SV} {V:Value}
theorem CZ (rv:RV τ v V):∀{kv:List (Str×Value)},RK τ kvs kv->RK τ (kvs++[(z,v)]) (kv++[(z,V)]):=by
 induction kvs with
 |nil=>intro kv h;obtain rfl:=h;exact(kh V ([]) rfl rv rfl)
 |cons p r ih=>rintro kv ⟨V,s,rfl,h1,h2⟩;exact(kh V _ rfl h1 (ih h2))
theorem tv (rv:RV τ v V) {kv:List (Str×Value)} (h:RK τ kvs kv) (hn:(kvs.any λx=>aA x.1 z)=false):RK τ (kvs++[(z,v)]) (stored kv z V):=by
 unfold stored;rw[Xh (by rw[O3 h hn];decide)];exact CZ rv h
noncomputable def Nr:List (Str×Option Str):=([("BasicObject",none),("Object",some "BasicObject"),("Module",some "Object"),("Class",some "Module"),("Kernel",none),("Comparable",none),("Enumerable",none),("Numeric",some "Object"),("Integer",some "Numeric")]:List (Str×Option Str))++([("String",some "Object"),("Symbol",some "Object"),("Array",some "Object"),("Hash",some "Object"),("Range",some "Object"),("Exception",some "Object"),("StandardError",some "Exception"),("TypeError",some "StandardError")]:List (Str×Option Str))
noncomputable def rp:List (Str×Option Addr):=([("Object",some 551),("Numeric",some 552),("String",some 553),("Symbol",some 554),("Array",some 555),("Hash",some 556),("Range",some 557),("BasicObject",none),("Module",none)]:List (Str×Option Addr))++([("Class",none),("Kernel",none),("Comparable",none),("Enumerable",none),("Integer",none),("Exception",none),("StandardError",none),("TypeError",none)]:List (Str×Option Addr))
noncomputable def oS (o:Option Str):SV:=match o with
 |some z=>.str z
 |none=>.none
noncomputable def oG (o:Option Addr) (d:SV):SV:=match o with
 |some z=>.glob z
 |none=>d
noncomputable def Xfr (o:Option Str) (x:Option (Option Value)):Bool:=match x with
 |some (some V)=>(match o with
  |some z=>(match V with
   |.str y _=>y==z
   |_=>false)
  |none=>(match V with
   |.none=>true
   |_=>false))
 |_=>false
noncomputable def XdB (o:Option Addr) (x:Option (Option Value)):Bool:=match x with
 |some V=>(match o with
  |some z=>(match V with
   |some (.ref a)=>Nat.beq a z
   |_=>false)
  |none=>V.isNone)
 |_=>false
theorem EG:(Nr.all λp=>Xfr p.2 (cI (HK w.params) 547 p.1))=true:=by kernel_rfl
theorem F2:(rp.all λp=>XdB p.2 (cI (HK w.params) 550 p.1))=true:=by kernel_rfl
set_option tactic.hygienic true in
theorem Rj {p:Str×Option Str} (h:p∈Nr):∃V,cI (HK w.params) 547 p.1=some (some V)∧∀τ,RV τ (oS p.2) V:=by
 have z:=WZ.mp (EG (w:=w)) p h;generalize cI (HK w.params) 547 p.1=x at z;generalize p.2=o at z;rcases x with _|_|V
 ·exact ch z
 ·exact ch z
 ·refine⟨V,rfl,λτ=>?_⟩
  cases o with
  |none=>cases V<;>first|exact rfl|exact ch z
  |some y=>
   cases V
   case str a b=>cases XJ (show(a==y)=true from z);exact⟨_,rfl⟩
   all_goals exact ch z
set_option tactic.hygienic true in
theorem NH {p:Str×Option Addr} (h:p∈rp):cI (HK w.params) 550 p.1=some (p.2.map λa=>.ref a):=by
 have z:=WZ.mp (F2 (w:=w)) p h;generalize cI (HK w.params) 550 p.1=x at z;generalize p.2=o at z;rcases x with _|_|V
 ·exact ch z
 ·cases o with
  |none=>rfl
  |some y=>exact ch z
 ·cases o with
  |none=>exact ch z
  |some y=>
   cases V
   case ref a=>cases W9 z;rfl
   all_goals exact ch z
end
section
variable {w:World} {κ:Ek}
inductive Vi {α:Type} (l:List (Str×α)) (z:Str) (K:α->Prop):Prop
 |mk (p:Str×α) (h:p∈l) (e:p.1=z) (q:K p.2)
variable {e e1 e2 e3:Expr} {es:List Expr} {m m1 m2 m3:AE} {ml:AL} {ms:AS} {pos px apos:Pos} {x:Str} {rest:List Stmt}
def ki (i:AE):AE:=λΦ fr σ K KE=>i Φ fr σ (λv σ=>cj v λz=>Vi Nr z λu=>K (oS u) σ) KE
theorem uS (ev:nsIn (HK w.params) mainGlobals x=some (some (.ref 547))) (hx:bA κ x=true) (hs:∀o i:Value,subscripted e false o i=operate [o,i] (getItem o i)) (s:av w κ e m):av w κ (.Subscript (.Name x px) e pos) (ki m):=by
 intro G L O h t K Q H m q;obtain⟨g,vs,l,S⟩:=H.S;refine t8 (bL g (tZ (G.O.turn S.T) S.A ev (bV H.V hx) (qo g (s G H m λD r y E C u c d a b=>?_))));obtain⟨z,J,p,n,rfl,k⟩:=b0 b;have f:=d;rw[J]at f;obtain⟨M,I⟩:=f;obtain⟨v,A,N,j⟩:=a.S;refine bn (Rj (w:=w) n) λV B F=>?_;rw[I];exact bL v (vA (G.O.turn j.T) j.A B (hs _ _) (λZ=>rfl) (a.re (F _) k (q.pre c) _))
@[irreducible] noncomputable def vQ (σ:Sg) (k:Nat) (z:Str) (K:SV->Prop):Prop:=bN σ k λo=>bI (jL o) (K .none) (mB o λkvs=>K (gV kvs z))
theorem Vf {vs:List SV} {K:SV->List SV->Prop} (h:FU vs K):∃x r,vs=x::r∧K x r:=by
 cases vs with
 |nil=>exact h.elim
 |cons x r=>exact(uu x r rfl h)
def SIk (σ:Sg) (j:Nat) (K:Prop):Prop:=bN σ j λo=>iZ o λks=>two ks λa b=>cj a λZ=>aR b λZ=>K
variable {σ:Sg} {τ:Tb} {X:Xs} {l:bu} {V:Value}
theorem sN {j:Nat} {K:Prop} (R:aD w τ σ X l) (rv:RV τ (.ref j) V) (m:SIk σ j K):∃y z u i u2,V=.ref y∧(y,cR [.str z u,.int i u2])∈l∧K:=by
 obtain⟨o,c,m⟩:=m;obtain⟨e,rfl,m⟩:=iq m;obtain⟨y,d,rfl,hk,vs,h1,h2⟩:=R.get rv c;obtain⟨a,b,A,B,rfl,ra,rb,m⟩:=jG m h2;obtain⟨z,rfl,m⟩:=b0 m;obtain⟨i,rfl,m⟩:=bU m;obtain⟨u,rfl⟩:=ra;obtain⟨u2,rfl⟩:=rb;exact(Eg _ _ _ _ _ rfl h1 m)
def fy:de:=λvs σ K=>FU vs λx vs=>FU vs λy vs=>bI (Nat.beq (kd y) 4) (bF x λk=>bF y λj=>vs=[]∧bN σ k λo=>Rf o (SIk σ j (K .none σ))) (cj y λz=>bI (Nat.beq (kd x) 4) (bF x λk=>vs=[]∧vQ σ k z λv=>K v σ) (one vs λd=>x=.glob 550∧Vi rp z λo=>K (oG o d) σ))
def iS:Sg->SV->Prop:=λσ v=>bI (Nat.beq (kd v) 4) (bF v λk=>bN σ k λo=>bI (jL o) True (mB o λZ=>True)) (v=.glob 550)
theorem nW {o:SO} (h:jL o=true):o=.dic0:=by cases o<;>first|rfl|exact ch h
theorem wX:qJ w "get" iS fy:=by
 refine(bv ("dict.get") ?_ ?_)
 ·intro O G L N h t K vs C Q H r m q
  refine gS (Vf m) λx vs f I=>?_;obtain rfl:=f;refine gS (Vf I) λy vs f E=>?_;obtain rfl:=f;obtain⟨e,J,l,S⟩:=H.S;cases zy:Nat.beq (kd y) 4 with
  |true=>
   obtain⟨k,rfl,p3⟩:=bh (E.br.1 zy);obtain⟨j,rfl,rfl,o,b,g⟩:=bh p3;obtain⟨rfl,p5⟩:=QC g;obtain⟨A,_,rfl,ra,B,C,rfl,rb,rs⟩:=r;obtain rfl:=rs;obtain⟨y,d,rfl,hk,g1,g4⟩:=S.R.get ra b;refine VY (sN S.R rb p5) λR z u i P p M F=>?_;obtain rfl:=p;exact bL e (EP (G.O.turn S.T).rm S.A g1 M g4 λt=>H.re (v:=.none) rfl F q t)
  |false=>
  obtain⟨z,rfl,p3⟩:=b0 (E.br.2 zy);obtain⟨A,_,rfl,ra,_,C,rfl,⟨u,rfl⟩,rs⟩:=r;cases zx:Nat.beq (kd x) 4 with
  |true=>
   obtain⟨k,rfl,rfl,pg⟩:=bh (p3.br.1 zx);unfold vQ at pg;obtain⟨o,b,g⟩:=pg;obtain rfl:=rs;cases zo:jL o with
   |true=>
    cases nW zo;obtain⟨y,d,rfl,hk,g1,g4⟩:=S.R.get ra b;exact bL e (lY S.A.N (In.at_ g1) kN g4 (aJ (c:=G.c) (H.re (v:=.none) rfl (g.br.1 zo) q _)))
   |false=>
    obtain⟨s,rfl,p5⟩:=kK (g.br.2 zo);obtain⟨y,d,rfl,hk,kv,o,g1,g2,g3,g4⟩:=S.R.get ra b;exact bL e (lY S.A.N (In.at_ g1) g2 g4 (aJ (c:=G.c) (H.re (DN g3) p5 q _)))
  |false=>
   obtain⟨d,D,rfl,rd,rfl,o,mx,rfl,p5⟩:=l9 (p3.br.2 zx) rs;obtain rfl:=ra;have z:=NH (w:=w) mx;cases eo:o.2 with
   |some a=>rw[eo]at z p5;exact bL e (Kl (G.O.turn S.T) S.A z (H.re (v:=.glob a) rfl p5 q _))
   |none=>rw[eo]at z p5;exact bL e (KI (G.O.turn S.T) S.A z (H.re rd p5 q _))
 ·intro O G L N h t v V T Q H n m q
  obtain⟨e,J,l,S⟩:=H.S;cases zx:Nat.beq (kd v) 4 with
  |true=>
   obtain⟨k,rfl,o,b,g⟩:=bh (m.br.1 zx);cases zo:jL o with
   |true=>
    cases nW zo;obtain⟨y,d,rfl,hk,g1,g4⟩:=S.R.get n b;exact bL e (sI S.A (In.at_ g1) kN (q _))
   |false=>
    obtain⟨s,rfl,p5⟩:=kK (g.br.2 zo);obtain⟨y,d,rfl,hk,kv,o,g1,g2,g3,g4⟩:=S.R.get n b;exact bL e (sI S.A (In.at_ g1) g2 (q _))
  |false=>
   cases m.br.2 zx;obtain rfl:=n;exact bL e (xA (G.O.turn S.T) S.A (by kernel_rfl) (q _))
noncomputable def ye (o:SO):Bool:=match o with
 |.list _=>true
 |_=>false
@[irreducible] noncomputable def Wc (o:SO) (z:Str) (v:SV) (K:SO->Prop):Prop:=bI (jL o) (K (.dic [(z,v)])) (mB o λkvs=>((kvs.any λx=>aA x.1 z)=false∧kvs.length≤900)∧K (.dic (kvs++[(z,v)])))
def Xa4 (σ:Sg) (o:SO) (i v:SV) (K:SO->Prop):Prop:=bI (Nat.beq (kd i) 3) (cj i λz=>Wc o z v K) (bI (jL o) (bI (Nat.beq (kd i) 4) (bF i λj=>SIk σ j (K .opq)) (aR i λZ=>K .opq))
 (cP o λxs=>aR i λj=>(0≤j∧j.toNat<xs.length∧j<1000000)∧K (.list (xs.set j.toNat v))))
def GB (σ:Sg) (o i v:SV) (K:Sg->Prop):Prop:=bF o λk=>bN σ k λo=>Xa4 σ o i v λo=>K (σ.set k o)
variable {h:Heap}
theorem lK {G:Cw w κ} {t:Nat} {o i v:SV} {O' I V:Value} {K:Sg->Prop} {R':Unit->Heap->Nat->Prop}
  (H:Hs G τ σ h) (ro:RV τ o O') (ri:RV τ i I) (rv:RV τ v V) (m:GB σ o i v K) (q:∀σ' h' t',Hs G τ σ' h'->K σ'->R' () h' t'):Wp G.c (setItem O' I V) R' h t:=by
 obtain⟨f,vs,l,S⟩:=H.S;obtain⟨k,rfl,o,hob,p1⟩:=bh m;cases zi:Nat.beq (kd i) 3 with
 |true=>
  obtain⟨z,rfl,p3⟩:=b0 (p1.br.1 zi);obtain⟨u,rfl⟩:=ri;unfold Wc at p3;cases z0:jL o with
  |true=>
   cases nW z0;obtain⟨y,d,rfl,hk,g1,g4⟩:=S.R.get ro hob;refine gS (dM g1) λe b a U=>?_;obtain rfl:=a;exact bL f (sf S.A kN (Nat.zero_le _) U λp h' n c=>q _ _ _ ⟨H.V,⟨_,_,_,S.T,c,S.L,S.R.chg (o:=.dic [(z,v)]) hob hk (.inl rfl) cY cO (yv _ _ dA n (tv (kvs:=[]) (kv:=[]) rv rfl rfl) g4)⟩,H.le⟩ (p3.br.1 z0))
  |false=>
   obtain⟨kvs,rfl,h0,p4⟩:=kK (p3.br.2 z0);obtain⟨y,d,rfl,hk,kv,o,g1,g2,g3,g4⟩:=S.R.get ro hob;refine gS (dM g1) λe b a U=>?_;obtain rfl:=a;exact bL f (sf S.A g2 (by rw[q6 g3];omega) U λp h' n c=>q _ _ _ ⟨H.V,⟨_,_,_,S.T,c,S.L,S.R.chg (o:=.dic (kvs++[(z,v)])) hob hk (.inl rfl) cY cO (yv _ _ dA n (tv rv g3 h0.1) g4)⟩,H.le⟩ p4)
 |false=>
  cases z0:jL o with
  |true=>
   cases nW z0;obtain⟨y,d,rfl,hk,g1,g4⟩:=S.R.get ro hob;refine gS (dM g1) λe b a U=>?_;obtain rfl:=a;cases z4:Nat.beq (kd i) 4 with
   |true=>
    obtain⟨j,rfl,p3⟩:=bh (((p1.br.2 zi).br.1 z0).br.1 z4);refine VY (sN S.R ri p3) λB z u i A g x r=>?_;obtain rfl:=g;exact bL f (BR (G.O.turn S.T).rm S.A U x λp h' t c=>q _ _ _ ⟨H.V,⟨_,_,_,S.T,c,S.L,S.R.chg (o:=.opq) hob hk (.inl rfl) cY cO trivial⟩,H.le⟩ r)
   |false=>
    obtain⟨j,rfl,p3⟩:=bU (((p1.br.2 zi).br.1 z0).br.2 z4);obtain⟨u,rfl⟩:=ri;exact bL f (vq S.A U λp h' c=>q _ _ _ ⟨H.V,⟨_,_,_,S.T,c,S.L,S.R.chg (o:=.opq) hob hk (.inl rfl) cY cO trivial⟩,H.le⟩ p3)
  |false=>
   obtain⟨s,rfl,p3⟩:=cq ((p1.br.2 zi).br.2 z0);obtain⟨j,rfl,h0,p4⟩:=bU p3;obtain⟨u,rfl⟩:=ri;obtain⟨y,d,rfl,hk,ws,n',g1,g2⟩:=S.R.get ro hob;refine gS (dM g1) λe b a U=>?_;obtain rfl:=a;exact bL f (A9 S.A U (by simp[g2.len];omega) λh' c=>q _ _ _ ⟨H.V,⟨_,_,_,S.T,c,S.L,S.R.chg (o:=.list (s.set j.toNat v)) hob hk (.inl rfl) cY cO ⟨_,_,dA,g2.set rv⟩⟩,H.le⟩ p4)
def i9 (o i v:AE) (r:AS):AS:=λΦ fr σ K KE=>v Φ fr σ (λv σ=>o Φ fr σ (λo σ=>i Φ fr σ (λi σ=>GB σ o i v λσ=>r Φ fr σ K KE) KE) KE) KE
theorem Bz {o i:Expr} (hs:∀env,κ.sc=env.scope->swapsWith e (some (.Subscript o i px)) pos.line env=pure false) (s:av w κ e m) (so:av w κ o m1) (si:av w κ i m2) (r:bq w κ rest ms):bq w κ (.Assign [.Subscript o i px] e pos::rest) (i9 m1 m2 m ms):=λG d Z Z Z Z Z Z H m q=>
 Aj (hs _ rfl) (s (G.at d) H m λO L I N K z p j c n=>so (G.at d) c n λP D C y J Q b k l h=>si (G.at d) l h λx v M A u F a g t f=>lK t (k.up a) g (j.up (b.trans a)) f λE S R B m=>r G B m (q.pre ((p.trans b).trans a)))
def nt (tg:Tg) (o i a:AE) (r:AS):AS:=λΦ fr σ K KE=>a Φ fr σ (λv σ=>js σ v 2 λxs=>two xs λx y=>tg.put x fr σ λfr σ=>o Φ fr σ (λo σ=>i Φ fr σ (λi σ=>GB σ o i y λσ=>r Φ fr σ K KE) KE) KE) KE
variable {kt:Nat}
theorem vZ {tpos:Pos} {tg:Tg} {o i:Expr} {p2:Pos} (hx:tg.is κ x) (hc:κ.cm=none) (hs:∀env,κ.sc=env.scope->swapsWithSole [.Tuple [.Name x px,.Subscript o i p2] kt tpos] e pos.line env=pure false) (hw:∀env,κ.sc=env.scope->swappedStores [.Tuple [.Name x px,.Subscript o i p2] kt tpos] e env=pure none)
  (s:av w κ e m) (so:av w κ o m1) (si:av w κ i m2) (r:bq w κ rest ms):bq w κ (.Assign [.Tuple [.Name x px,.Subscript o i p2] kt tpos] e pos::rest) (nt tg m1 m2 m ms):=λG K Z Z Z Z Z Z H m q=>
 sG (hs _ rfl) (hw _ rfl) (s (G.at K) H m λa0 I O Y X L h t b g=>iN (G:=G) b t g λza zx zV ze D zn zk C zv zl d M=>by
  obtain⟨x,y,A,B,z,r1,S,k⟩:=jG zk D;rw[ze];refine bL C (tI (G.O.turn d.T) d.A (In.at_ M) (by rw[z];rfl) rfl λh' T=>?_);rw[z];refine qo C (rJ rfl (nA (dK (G:=G) hx hc ⟨b.V,⟨_,_,_,d.T,T,d.L,d.R⟩,b.le⟩ r1 k λf Z Z Z R U=>rJ rfl (Ay ?_))));exact so (G.at f) R U λa5 E N a3 a4 a6 c n u p=>si (G.at f) u p λJ a2 W Q V P a j v l=>lK v (n.up a) j (S.up (c.trans a)) l λa1 h5 t5 F m=>yB (r G F m (q.pre ((h.trans c).trans a))))
def pR:KX:=λZ Z=>False
noncomputable def Cs.lay (G:Cs w κ) (E':Value->Shared->Prop) (X:Xs):Cs w κ:=⟨G.c.wE E',G.Φ,G.n,G.τ0,X,pR,G.P,G.O.wE E',λZ Z Z Z Z Z Z Z ke Z=>ke.elim⟩
variable {c:Cf w} {g':Heap} {vs:List (Option Value)}
theorem n0.wE {ns:List Str} {fr:ca} (S:n0 c ns fr σ τ X h g' vs l) (E':Value->Shared->Prop):n0 (c.wE E') ns fr σ τ X h g' vs l:=⟨S.T,⟨S.A.F,S.A.N,S.A.k⟩,S.L,S.R⟩
variable {E':Value->Shared->Prop}
theorem n0.nE {ns:List Str} {fr:ca} (S:n0 (c.wE E') ns fr σ τ X h g' vs l):n0 c ns fr σ τ X h g' vs l:=⟨S.T,⟨S.A.F,S.A.N,S.A.k⟩,S.L,S.R⟩
variable {mt:AT} {ms1 ms2:AS} {body:List Stmt} {G:Cs w κ} {fr:ca} {t:Nat} {E1 E2:Value->Shared->Prop}
end
section
variable {w:World} {κ:Ek} {e e1 e2 e3:Expr} {m m1 m2:AE} {mt:AT} {ms ms1 ms2:AS} {pos px:Pos} {x:Str} {rest body:List Stmt} {G:Cs w κ} {fr:ca} {τ:Tb} {σ:Sg} {h:Heap} {t:Nat} {E1 E2:Value->Shared->Prop}
structure Hf (G:Cs w κ) (X:Xs) (fr:ca) (τ:Tb) (σ:Sg) (h:Heap):Prop where
 V:gF G.c κ fr τ
 S:Hj G.c κ.ns fr σ τ X h
 le:G.τ0.le τ
theorem Hs.f (H:Hs (G.at fr) τ σ h):Hf G G.X fr τ σ h:=⟨H.V.1,H.S,H.le⟩
theorem Hf.s (hc:κ.cm=none) (H:Hf G G.X fr τ σ h):Hs (G.at fr) τ σ h:=⟨.fn hc H.V,H.S,H.le⟩
theorem Hf.lay {X:Xs} (hc:κ.cm=none) (H:Hf G X fr τ σ h) (E':Value->Shared->Prop):Hs ((G.lay E' X).at fr) τ σ h:=by
 obtain⟨a,vs,l,S⟩:=H.S;exact⟨.fn hc H.V,⟨a,vs,l,S.wE E'⟩,H.le⟩
variable {E':Value->Shared->Prop}
theorem Hs.unl {X:Xs} (H:Hs ((G.lay E' X).at fr) τ σ h):Hf G X fr τ σ h:=by
 obtain⟨a,vs,l,S⟩:=H.S;exact⟨H.V.1,⟨a,vs,l,S.nE⟩,H.le⟩
def flK (again:ca->Sg->Prop) (W:eY):eY:=λf fr σ=>match f with
 |.next=>again fr σ
 |.cont=>again fr σ
 |.brk=>W .next fr σ
 |.ret v=>W (.ret v) fr σ
def whM (t:AT) (b:AS) (Φ:Nat->eO) (W:eY):Nat->ca->Sg->Prop
 |0,_,_=>False
 |n+1,fr,σ=>t Φ fr σ (λx σ=>bI x (b Φ fr σ (flK (whM t b Φ W n) W) pR) (W .next fr σ)) pR
def V8 (t:AT) (b r:AS):AS:=λΦ fr σ K KE=>∃n,whM t b Φ (kX (λfr σ=>r Φ fr σ K KE) K) n fr σ
theorem FO {c:Cf w} {env:Env} {test:Expr} {QF:Flow->Heap->Nat->Prop} (q:∀E',Wp (c.wE E') (isTrue test env (eval test env)) (λb h t=>Br b (Wp (c.wE E') (execs body env) (WhQ c env test body QF) h t) (QF .next h t)) h t):Wh c env test body QF h t:=by
 refine CS λE'=>(q E').go λb h t y=>?_;refine Br.ite ⟨λz=>(y.1 z).go λf h t u=>?_,λz=>aJ (y.2 z)⟩;cases f<;>first|exact u|exact aJ u
variable {Q:Flow->Heap->Nat->Prop} {n:Nat}
set_option tactic.hygienic true in
theorem wh_ (hc:κ.cm=none) (st:fp w κ e mt) (sb:bq w κ body ms) {W:eY}:∀{fr:ca} {τ:Tb} {σ:Sg} {h:Heap} {t:Nat},whM mt ms G.Φ W n fr σ->Hf G G.X fr τ σ h->QS G τ W Q->Wh G.c (G.c.ev κ.sc) e body Q h t:=by
 induction n with
 |zero=>intro _ _ _ _ _ m;exact m.elim
 |succ n ih=>
  intro fr τ σ h t m H q;refine FO λA=>st ((G.lay A G.X).at fr) (H.lay hc A) m λE p x y s c i b=>⟨λz=>sb (G.lay A G.X) i (b.br.1 z) λf a d g F B C u j l k=>?_,λz=>q .next fr p x .next y s c rfl (Hf.s hc (Hs.unl i)) (b.br.2 z)⟩;have o:=c.trans u;cases f
  case next=>obtain rfl:=j;exact ih k (Hs.unl l) (q.pre o)
  case cont=>obtain rfl:=j;exact ih k (Hs.unl l) (q.pre o)
  case brk=>obtain rfl:=j;exact q .next a d g .next B C o rfl (Hf.s hc (Hs.unl l)) k
  case ret v=>refine bn j λV r D=>?_;obtain rfl:=r;exact q (.ret v) a d g (.ret V) B C o (bv V rfl D) (Hf.s hc (Hs.unl l)) k
theorem Xcf (hc:κ.cm=none) (st:fp w κ e mt) (sb:bq w κ body ms) (r:bq w κ rest ms1):bq w κ (.While e body [] pos::rest) (V8 mt ms ms1):=λG a Z Z Z Z Z Z H m q=>by
 obtain⟨n,m⟩:=m;exact Oq (wh_ hc st sb m H.f (OA r Tb.le.refl q))
end
section
variable {w:World} {κ:Ek}
inductive kW
 |list (k n:Nat)|tp (k n:Nat)|rng (n:Nat)|str (z:Str)|kt (a:Addr)
noncomputable def Hr:List (Addr×List Str):=[(551,["Kernel"]),(552,["Comparable"]),(553,["Comparable"]),(554,["Comparable"]),(555,["Enumerable"]),(556,["Enumerable"]),(557,["Enumerable"])]
noncomputable def uV (a:Addr):List Str:=match Hr.find? λp=>Nat.beq p.1 a with
 |some p=>p.2
 |none=>[]
noncomputable def kW.len (s:kW):Nat:=match s with
 |.list _ n=>n
 |.tp _ n=>n
 |.rng n=>n
 |.str z=>z.cps.size
 |.kt a=>(uV a).length
noncomputable def kW.ok (s:kW) (σ:Sg):Prop:=match s with
 |.list k n=>bN σ k λo=>cP o λxs=>xs.length=n
 |.tp k n=>bN σ k λo=>iZ o λxs=>xs.length=n
 |.kt a=>(Hr.any λp=>Nat.beq p.1 a)=true
 |_=>True
noncomputable def kW.at (s:kW) (σ:Sg) (i:Nat) (K:SV->Prop):Prop:=match s with
 |.list k _=>bN σ k λo=>cP o λxs=>bX xs[i]? K
 |.tp k _=>bN σ k λo=>iZ o λxs=>bX xs[i]? K
 |.rng _=>K (.int i)
 |.str z=>bX (z.cps[i]?) λc=>K (.str ⟨#[c]⟩)
 |.kt a=>bX ((uV a)[i]?) λz=>K (.str z)
def Xb9 (k:Nat) (o:SO) (K:kW->Prop):Prop:=bI (ye o) (cP o λxs=>K (.list k xs.length)) (bI (jQ o) (iZ o λxs=>K (.tp k xs.length)) (y4 o λa b=>(a=0∧0≤b∧b≤1000000)∧K (.rng b.toNat)))
def rX (σ:Sg) (v:SV) (K:kW->Prop):Prop:=bI (Nat.beq (kd v) 3) (cj v λz=>K (.str z)) (bI (Nat.beq (kd v) 5) (gA v λa=>(Hr.any λp=>Nat.beq p.1 a)=true∧K (.kt a)) (bF v λk=>bN σ k λo=>Xb9 k o K))
noncomputable def pS:List String:=["enumerate","zip","dict_itemiterator","dict_reverseitemiterator","odict_iterator","itertools.zip_longest","itertools.pairwise"]
structure km (w:World) (s:kW) (I:Addr) (τ:Tb) (St:Nat->Heap->Prop):Prop where
 go:∀{τ':Tb} {σ:Sg} {X:Xs} {l:bu} {h:Heap} {i:Nat},τ.le τ'->aD w τ' σ X l->(∀p∈l,h.get? p.1=some p.2)->(HK w.params).In h->St i h->s.ok σ->
  ∃side P St',It PP w I side s.len P St'∧St' i h∧(∀j h',St' j h'->St j h')∧∀v K,P i v->s.at σ i K->∃x,RV τ' x v∧K x
 keep:∀{i:Nat} {h h':Heap},St i h->(∀o,h.get? I=some o->h'.get? I=some o)->St i h'
 own:∀{i:Nat} {h:Heap},St i h->∃o ty fs,h.get? I=some o∧o.cls=.type ty∧o.data=.fields fs∧pS.contains ty=false
variable {I a:Addr}
theorem ve (ws:List Value) (hne:a≠I) {nn:Nat}:It PP w I [(a,aL ws nn)] ws.length (λi v=>ws[i]?=some v) (λi h=>h.IsListIter I a i∧h.IsList a ws.toArray):=⟨λd b=>by
 simpa using (Walks.list (prog:=PP) (w:=w) (A:=d) b I a hne ws.toArray),λi h ⟨⟨o,c,_⟩,_⟩=>⟨o,c⟩⟩
variable {ob:Obj}
theorem ti (ws:List Value) (hne:a≠I):It PP w I [(a,ob)] ws.length (λi v=>ws[i]?=some v) (λi h=>h.IsTupleIter I a i∧h.IsTuple a ws.toArray):=⟨λd b=>by
 simpa using (Walks.tuple (prog:=PP) (w:=w) (A:=d) b I a hne ws.toArray),λi h ⟨⟨o,c,_⟩,_⟩=>⟨o,c⟩⟩
variable {τ:Tb} {k n:Nat}
theorem qL {I a d:Addr} (ht:τ k=some (a,d)) (hne:a≠I):km w (.list k n) I τ (λi h=>h.IsListIter I a i):=by
 refine⟨λ{A L X l h i} u R F Z s f=>?_,λ⟨o,e,x⟩ q=>(bv o (q o e) x),λ⟨o,e,B,D⟩=>(hH o _ _ e B D (by decide))⟩;obtain⟨C,b,f⟩:=f;obtain⟨J,rfl,hn⟩:=cq f;obtain⟨x,M,p,j,nn,G,g⟩:=R.ob _ _ b;rw[u _ _ ht]at p;cases p;have r:=ve (w:=w) (I:=I) j hne (nn:=nn);rw[(g.len.trans hn:j.length=n)]at r;refine(hH _ _ _ r ⟨s,ju _ (F _ G) rfl ⟨nn,rfl⟩⟩ (λZ Z z=>z.1) (λv K H m=>?_));obtain⟨C,c,m⟩:=m;cases b.symm.trans c;obtain⟨x,t,m⟩:=m;refine bn (g.get t) λX E y=>?_;cases E.symm.trans H;exact(bv x y m)
theorem G0 {I a d:Addr} (ht:τ k=some (a,d)) (hne:a≠I):km w (.tp k n) I τ (λi h=>h.IsTupleIter I a i):=by
 refine⟨λ{A J X l h i} u R E Z s g=>?_,λ⟨o,f,x⟩ q=>(bv o (q o f) x),λ⟨o,f,B,C⟩=>(hH o _ _ f B C (by decide))⟩;obtain⟨ob,b,g⟩:=g;obtain⟨H,rfl,hn⟩:=iq g;obtain⟨x,L,p,e,F,j⟩:=R.ob _ _ b;rw[u _ _ ht]at p;cases p;have r:=ti (w:=w) (I:=I) e hne (ob:=cR e);rw[(j.len.trans hn:e.length=n)]at r;refine(hH _ _ _ r ⟨s,ju _ (E _ F) rfl ⟨0,rfl⟩⟩ (λZ Z z=>z.1) (λv K G m=>?_));obtain⟨ob,c,m⟩:=m;cases b.symm.trans c;obtain⟨x,t,m⟩:=m;refine bn (j.get t) λX D y=>?_;cases D.symm.trans G;exact(bv x y m)
theorem wn:km w (.rng n) I τ (λi h=>IsRangeIter h I (0+(i:Nat)*1) ((n:Int) - (i:Nat)) 1):=by
 refine⟨λ{b g X l h i} f R j Z a k=>⟨[],λi v=>∃t,v=.int (0+i*1) t,λi h=>IsRangeIter h I (0+(i:Nat)*1) ((n:Int) - (i:Nat)) 1,⟨λc d=>?_,λi h a=>⟨_,a⟩⟩,a,λZ Z z=>z,λv K e m=>?_⟩,λa q=>q _ a,λa=>(hH _ _ _ a rfl rfl (by decide))⟩
 ·have z:=Walks.range (prog:=PP) (w:=w) (A:=c) d I 0 1 n
  exact z
 ·obtain⟨t,rfl⟩:=e
  exact⟨.int i,⟨t,by simp⟩,m⟩
theorem oQ {z:Str} {u:Tok} {ty:String} (hty:pS.contains ty=false) (hW:∀A:Around,A.handled=none->Walks PP w A I [I] [I] z.cps.size (SignAt z) (λi h=>h.IsStrIter I ty z u i)):km w (.str z) I τ (λi h=>h.IsStrIter I ty z u i):=by
 refine⟨λ{g r X l h i} p R s Z f t=>(hH ([]) _ _ ⟨hW,λi h ⟨o,a,_⟩=>⟨o,a⟩⟩ f (λZ Z z=>z) (λv K k m=>?_)),λ⟨o,a,x⟩ q=>(bv o (q o a) x),λ⟨o,a,d,j⟩=>(hH o _ _ a d j hty)⟩;refine gS k λc u d b=>?_;obtain rfl:=b;obtain⟨n,e,m⟩:=m;cases d.symm.trans e;exact(bv (.str ⟨#[c]⟩) ⟨u,rfl⟩ m)
noncomputable def tN:List Str->List Value->Bool
 |[],vs=>vs.isEmpty
 |z::zs,vs=>match vs with
  |[]=>false
  |v::vs=>(match v with
   |.str y _=>y==z
   |_=>false)&&tN zs vs
set_option tactic.hygienic true in
theorem DU {zs:List Str}:∀{vs:List Value},tN zs vs=true->bZ τ (zs.map SV.str) vs:=by
 induction zs with
 |nil=>intro vs h;cases vs with
  |nil=>rfl
  |cons=>exact ch h
 |cons z zs ih=>intro vs h;cases vs with
  |nil=>exact ch h
  |cons v vs=>
   have h:=WU _ _▸h;cases v
   case str y u=>cases XJ h.1;exact⟨_,_,rfl,⟨_,rfl⟩,ih h.2⟩
   all_goals cases h.1
theorem zM:(Hr.all λp=>match qj (HK w.params) p.1 with
 |some xs=>tN (uV p.1) xs
 |none=>false)=true:=by kernel_rfl
theorem zp (h:(Hr.any λp=>Nat.beq p.1 a)=true):∃xs,qj (HK w.params) a=some xs∧∀τ,bZ τ ((uV a).map SV.str) xs:=by
 refine bn (Yt.mp h) λp b e=>?_;cases W9 e;have z:=WZ.mp (zM (w:=w)) p b;cases ez:qj (HK w.params) p.1 with
 |none=>rw[ez]at z;exact ch z
 |some xs=>rw[ez]at z;exact(bv xs rfl (λτ=>DU z))
theorem Eb (hne:a≠I):km w (.kt a) I τ (λi h=>h.IsTupleIter I a i):=by
 refine⟨λ{b C X l h i} B R D t j A=>?_,λ⟨o,e,x⟩ q=>(bv o (q o e) x),λ⟨o,e,n,p⟩=>(hH o _ _ e n p (by decide))⟩;refine bn (zp (w:=w) A) λd s f=>?_;have c:d.length=(uV a).length:=(f b).len.trans (W0 _);have g:=ti (w:=w) (I:=I) d hne (ob:=cR d);rw[c]at g;refine(hH _ _ _ g ⟨j,hQ t s⟩ (λZ Z z=>z.1) (λv K y m=>?_));obtain⟨z,u,m⟩:=m;refine bn ((f b).get (i:=i) (x:=.str z) (by rw[Xd,u];rfl)) λX r k=>?_;cases r.symm.trans y;exact(bv _ k m)
variable {G:Cs w κ} {fr:ca} {σ:Sg} {h:Heap} {t:Nat} {s:kW}
theorem fB {Q:Value->Shared->Prop} {St:Nat->Heap->Prop} {g':Heap} {vs:List (Option Value)} {l:bu} (ob:Obj) (hf:ob.isFreed=false) (H:Hs (G.at fr) τ σ h) (S:n0 G.c κ.ns fr σ τ G.X h g' vs l) (it:km w s h.objs.size τ St) (st:St 0 (h.push ob)) (q:∀I o h St,km w s I τ St->St 0 h->Hf G ⟨G.X.own,(I,o)::G.X.far⟩ fr τ σ h->(∀p∈G.X.own++G.X.far,p.1≠I)->Q (.ref I) ⟨h,G.c.gn,G.c.d,t,G.c.os⟩):
  Q (.ref h.objs.size) ⟨h.push ob,G.c.gn,G.c.d,t,G.c.os⟩:=by
 have b:=S.A.push ob hf;have a:=(W2.mp b.k.nd).1;exact q h.objs.size ob _ St it st ⟨H.V.1,⟨_,_,_,S.T,b,S.L,S.R.lay a⟩,H.le⟩ λp c e=>a (e▸Xm (f:=(·.1)) (S.R.X1 p c))
variable {v:SV} {V:Value}
theorem sE {K:kW->Prop} {Q:Value->Heap->Nat->Prop} (H:Hs (G.at fr) τ σ h) (rv:RV τ v V) (m:rX σ v K) (q:∀s,K s->∀I o h St,km w s I τ St->St 0 h->Hf G ⟨G.X.own,(I,o)::G.X.far⟩ fr τ σ h->(∀p∈G.X.own++G.X.far,p.1≠I)->Q (.ref I) h t):Wp G.c (pyIter V) Q h t:=by
 obtain⟨J,D,l,S⟩:=H.S;cases z3:Nat.beq (kd v) 3 with
 |true=>
  obtain⟨z,rfl,k⟩:=b0 (m.br.1 z3);obtain⟨u,rfl⟩:=rv;cases ha:z.cps.all (·<128)
  ·exact wpAny_pyIter_wide ha (fB (St:=λi j=>j.IsStrIter h.objs.size "str_iterator" z u i) _ rfl H S (oQ (by decide) λL B=>Walks.strWide B _ z u) (ju _ (XN _ rfl) rfl rfl) λI o h St f g H e=>aJ (c:=G.c) (q _ k I o h St f g H e))
  ·exact wpAny_pyIter_ascii ha (fB (St:=λi j=>j.IsStrIter h.objs.size "str_ascii_iterator" z u i) _ rfl H S (oQ (by decide) λL B=>Walks.strAscii B _ z u) (ju _ (XN _ rfl) rfl rfl) λI o h St f g H e=>aJ (c:=G.c) (q _ k I o h St f g H e))
 |false=>
  cases z5:Nat.beq (kd v) 5 with
  |true=>
   obtain⟨a,rfl,ok,k⟩:=gi ((m.br.2 z3).br.1 z5);obtain rfl:=rv;refine bn (zp (w:=w) ok) λD A Z=>?_;have C:=hQ (kO (c:=G.c.wg J) (G.O.turn S.T) S.A) A;have r:a<h.objs.size:=by refine bn C λo F Z=>?_;exact Xe F
   exact wpAny_pyIter_tuple (s:=⟨h,G.c.gn,G.c.d,t,G.c.os⟩) C (fB (St:=λi j=>j.IsTupleIter h.objs.size a i) _ rfl H S (Eb (XC r)) (ju _ (XN _ rfl) rfl rfl) λI o h St f g H e=>aJ (c:=G.c) (q _ k I o h St f g H e))
  |false=>
   obtain⟨k,rfl,o,hob,m2⟩:=bh ((m.br.2 z3).br.2 z5);cases zl:ye o with
   |true=>
    obtain⟨E,rfl,m3⟩:=cq (m2.br.1 zl);obtain⟨y,d,rfl,hk,vs,n',g1,g2⟩:=S.R.get rv hob;exact wpAny_pyIter_list (s:=⟨h,G.c.gn,G.c.d,t,G.c.os⟩) (bJ S.A.N g1) (fB (St:=λi j=>j.IsListIter h.objs.size y i) _ rfl H S (qL hk (XC (Xe (S.A.N _ g1).1))) (ju _ (XN _ rfl) rfl rfl) λI o h St f g H e=>aJ (c:=G.c) (q _ m3 I o h St f g H e))
   |false=>
    cases zt:jQ o with
    |true=>
     obtain⟨E,rfl,m4⟩:=iq ((m2.br.2 zl).br.1 zt);obtain⟨y,d,rfl,hk,vs,g1,g2⟩:=S.R.get rv hob;exact wpAny_pyIter_tuple (s:=⟨h,G.c.gn,G.c.d,t,G.c.os⟩) (gh S.A.N (In.at_ g1)) (fB (St:=λi j=>j.IsTupleIter h.objs.size y i) _ rfl H S (G0 hk (XC (Xe (S.A.N _ g1).1))) (ju _ (XN _ rfl) rfl rfl) λI o h St f g H e=>aJ (c:=G.c) (q _ m4 I o h St f g H e))
    |false=>
     obtain⟨a,b,rfl,⟨rfl,hb0,hb1⟩,m4⟩:=E0 ((m2.br.2 zl).br.2 zt);obtain⟨y,d,rfl,hk,t1,u1,v1,g1⟩:=S.R.get rv hob;have n:Builtin.Range.small 0 b 1=true:=small_one (By (by decide)) (qO (by decide)) (z8 hb0) (SK hb1);have x:Builtin.Range.rangeSize 0 b 1=((b.toNat:Nat):Int):=by rw[rangeSize_one];split<;>lia
     refine wpAny_pyIter_range (s:=⟨h,G.c.gn,G.c.d,t,G.c.os⟩) ((S.A.N _ g1).1:IsRange h y 0 b 1 t1 u1 v1) n (fB (St:=λi j=>IsRangeIter j h.objs.size (0+(i:Nat)*1) (((b.toNat:Nat):Int) - (i:Nat)) 1) _ rfl H S wn ?_ λI o h St f g H e=>aJ (c:=G.c) (q _ m4 I o h St f g H e));rw[x];show(h.push _).get? _=_;have A:(0:Int)+((0:Nat):Int)*1=0:=rfl;have M:((b.toNat:Nat):Int) - ((0:Nat):Int)=((b.toNat:Nat):Int):=by rfl
     rw[A,M];exact XN _ rfl
variable {c:Cf w} {ns:List Str} {vs:List (Option Value)} {r:bu} {oI:Obj} {side:bu} {i:Nat} {P:Nat->Value->Prop} {St:Nat->Heap->Prop} {Q:Option Value->Shared->Prop} {E:Value->Shared->Prop}
theorem Ue (J:It PP w I side n P St) (hh:c.A.handled=none) (st:St i h) (hi:i<n) (A:At c ns vs ((I,oI)::r) h)
  (q:∀v h' tk o',P i v->St (i+1) h'->At c ns vs ((I,o')::r) h'->Q (some v) ⟨h',c.gn,c.d,tk,c.os⟩):wpAny (model PP w) c.A (pyNext (.ref I)) Q E ⟨h,c.gn,c.d,t,c.os⟩:=by
 refine(J.W c.A hh).item i _ _ _ hi st λv h' tk l d g=>?_;obtain⟨o',f⟩:=J.live _ _ d;have a:∀b o,b≠I->h.get? b=some o->h'.get? b=some o:=λb o j e=>g b o (λk=>j (XA.mp k)) e;refine q v h' tk o' l d ⟨⟨A.F.ns.at' λo e=>a _ o (Ne.symm (A.N _ (.head _)).2.1) e,λb o e=>a b o (λq=>?_) (A.F.keep b o e),A.F.above⟩,λp hp=>?_,⟨A.k.nd⟩⟩
 ·rw[q]at e;rw[(A.N _ (.head _)).2.2]at e;exact cZ e
 ·rcases WY.mp hp with rfl|hp
  ·exact⟨f,(A.N _ (.head _)).2⟩
  ·exact⟨a _ _ (A.k.off p hp) (A.N p (.tail _ hp)).1,(A.N p (.tail _ hp)).2⟩
theorem XdW (J:It PP w I side n P St) (hh:c.A.handled=none) (st:St n h) (A:At c ns vs ((I,oI)::r) h)
  (q:∀h' tk,At c ns vs r h'->Q none ⟨h',c.gn,c.d,tk,c.os⟩):wpAny (model PP w) c.A (pyNext (.ref I)) Q E ⟨h,c.gn,c.d,t,c.os⟩:=by
 refine(J.W c.A hh).done _ _ _ st λh' tk i=>?_;have a:∀b o,b≠I->h.get? b=some o->h'.get? b=some o:=λb o f e=>i b o (λg=>f (XA.mp g)) e;refine q h' tk ⟨⟨A.F.ns.at' λo e=>a _ o (Ne.symm (A.N _ (.head _)).2.1) e,λb o e=>a b o (λq=>?_) (A.F.keep b o e),A.F.above⟩,λp d=>?_,A.k.tail⟩
 ·rw[q]at e;rw[(A.N _ (.head _)).2.2]at e;exact cZ e
 ·exact⟨a _ _ (A.k.off p d) (A.N p (.tail _ d)).1,(A.N p (.tail _ d)).2⟩
variable {ow fa:bu} {τ1:Tb}
theorem Hf.here {q:Addr×Obj} (H:Hf G ⟨ow,q::fa⟩ fr τ σ h):h.get? q.1=some q.2:=by
 obtain⟨a,vs,l,S⟩:=H.S;exact(S.A.N q (S.R.X1 q (WW _ (.head _)))).1
theorem yd {K:SV->Prop} (it:km w s I τ1 St) (le:τ1.le τ) (off:∀p∈ow++fa,p.1≠I) (st:St i h) (hi:i<s.len) (H:Hf G ⟨ow,(I,oI)::fa⟩ fr τ σ h) (ok:s.ok σ) (m:s.at σ i K) (q:∀V x h t o,RV τ x V->K x->St (i+1) h->Hf G ⟨ow,(I,o)::fa⟩ fr τ σ h->Q (some V) ⟨h,G.c.gn,G.c.d,t,G.c.os⟩):
  wpAny (model PP w) G.c.A (pyNext (.ref I)) Q E ⟨h,G.c.gn,G.c.d,t,G.c.os⟩:=by
 obtain⟨g,vs,l,S⟩:=H.S;refine lq (it.go le S.R (λp a=>(S.A.N p a).1) (kO (c:=G.c.wg g) (G.O.turn S.T) S.A) st ok) λj P B J b wQ k=>?_;refine ia (dn (S.R.X1 (I,oI) (WW _ (.head _)))) λr C A L=>?_;refine Ue (c:=G.c.wg g) J G.O.hh b hi (S.A.sub A) λV F z f n d y=>?_;refine bn (k V K n m) λx u v=>?_;exact q V x F z f u v (wQ _ _ d) ⟨H.V,⟨_,_,_,S.T,y,S.L,aD.far (X:=⟨ow,fa⟩) (q:=(I,oI)) (o:=f) (l':=(I,f)::r) (S.R.cong C) off (λp a D=>.tail _ ((WY.mp a).resolve_left λe=>D (e▸rfl))) (.head _)⟩,H.le⟩
theorem Tq (it:km w s I τ1 St) (le:τ1.le τ) (st:St s.len h) (H:Hf G ⟨ow,(I,oI)::fa⟩ fr τ σ h) (ok:s.ok σ) (hn:∀h' tk,Hf G ⟨ow,fa⟩ fr τ σ h'->Q none ⟨h',G.c.gn,G.c.d,tk,G.c.os⟩) (off:∀p∈ow++fa,p.1≠I):
  wpAny (model PP w) G.c.A (pyNext (.ref I)) Q E ⟨h,G.c.gn,G.c.d,t,G.c.os⟩:=by
 obtain⟨d,vs,l,S⟩:=H.S;refine lq (it.go le S.R (λp a=>(S.A.N p a).1) (kO (c:=G.c.wg d) (G.O.turn S.T) S.A) st ok) λf P j J b wQ k=>?_;refine ia (dn (S.R.X1 (I,oI) (WW _ (.head _)))) λr m i o=>?_;exact XdW (c:=G.c.wg d) J G.O.hh b (S.A.sub i) λh' tk g=>hn h' tk ⟨H.V,⟨_,_,_,S.T,g,S.L,aD.drop (X:=⟨ow,fa⟩) (q:=(I,oI)) (S.R.cong m) off λp a n=>(WY.mp a).resolve_left λe=>n (e▸rfl)⟩,H.le⟩
abbrev iO:=SV->ca->Sg->(ca->Sg->Prop)->Prop
variable {o:Obj}
set_option backward.match.sparseCases true in
theorem JU {ty:String} {fs:Array Value} {a r:Addr} {A:Around} {s':Shared} {Q':Unit->Shared->Prop} (hc:o.cls=.type ty) (hd:o.data=.fields fs) (hn:pS.contains ty=false) (q:Q' () s'):wpAny (model PP w) A (match o.cls,o.data with
  |.type n,.fields vs=>
   if pS.contains n&&vs[0]? ==some (rawInt a)then do
    rule "for.unpacks-the-owned-tuple"
    updateField r 0 .none
   else pure ()
  |_,_=>pure ()) Q' E s':=by
 rw[hc,hd];show wpAny _ A (if(pS.contains ty&&_)=true then _ else _) Q' E s';rw[hn,Bool.false_and,Xh XE];exact W1 q
def VS (w:World) (tg:Expr):Prop:=∀{I:Addr} {v:Value} {A:Around} {E:Value->Shared->Prop} {s':Shared} {Q':Unit->Shared->Prop},(∃o ty fs,s'.heap.get? I=some o∧o.cls=.type ty∧o.data=.fields fs∧pS.contains ty=false)->Q' () s'->wpAny (model PP w) A (letOwnedTupleGo tg (.ref I) v) Q' E s'
theorem vc {es:List Expr} {kt:Nat} {p:Pos}:VS w (.Tuple es kt p):=λ{I v A E b e} h q=>by
 cases v with
 |ref a=>exact h.elim λo h=>h.elim λc h=>h.elim λd h=>WV (wpAny_load h.1 (JU h.2.1 h.2.2.1 h.2.2.2 q))
 |_=>exact W1 q
def Ou (w:World) (κ:Ek) (tg:Expr) (put:iO):Prop:=∀(G:Cs w κ) {fr τ σ h t x V K} {R:Unit->Heap->Nat->Prop},Hs (G.at fr) τ σ h->RV τ x V->put x fr σ K->(∀fr σ h t,Hs (G.at fr) τ σ h->K fr σ->R () h t)->Wp G.c (assign tg (G.c.ev κ.sc) V) R h t
structure lh (w:World) (κ:Ek) (tg:Expr) (put:iO):Prop where
 own:VS w tg
 go:Ou w κ tg put
theorem th {x:Str} {px:Pos} {tg:Tg} (hx:tg.is κ x) (hc:κ.cm=none):lh w κ (.Name x px) tg.put:=⟨λZ q=>W1 q,λG Z Z Z Z Z Z Z Z Z H a m q=>nA (dK hx hc H a m q)⟩
def mX (is:List Tg):iO:=λv fr σ K=>js σ v is.length λxs=>jY is xs fr σ K
theorem MV {es:List Expr} {is:List Tg} {kt:Nat} {tpos:Pos} (hn:mw κ es is) (hc:κ.cm=none):lh w κ (.Tuple es kt tpos) (mX is):=.mk vc λG k l u h t x V K R H e m q=>
 iN (G:=G) H e m λv n r j b c i d o p a f=>by
  rw[j];exact bL d (tI (G.O.turn a.T) a.A (In.at_ f) ((gq (env:=G.c.ev κ.sc) hn).1.trans (c.symm.trans b.len.symm)) (gq (env:=G.c.ev κ.sc) hn).2 λs g=>qo d (jq (G:=G) hc hn c b i ⟨H.V,⟨_,_,_,a.T,g,a.L,a.R⟩,H.le⟩ q))
def nM (s:kW) (put:iO) (b:ca->Sg->eY->Prop) (W:eY):Nat->Nat->ca->Sg->Prop
 |0,_,fr,σ=>s.ok σ∧W .next fr σ
 |m+1,i,fr,σ=>s.ok σ∧s.at σ i λx=>put x fr σ λfr σ=>b fr σ (flK (nM s put b W m (i+1)) W)
def lM (a:AE) (put:iO) (b r:AS):AS:=λΦ fr σ K KE=>a Φ fr σ (λv σ=>rX σ v λs=>nM s put (λfr σ K=>b Φ fr σ K pR) (kX (λfr σ=>r Φ fr σ K KE) K) s.len 0 fr σ) KE
variable {e:Expr} {m:AE} {ms ms1:AS} {pos px:Pos} {tg:Expr} {put:iO} {rest body:List Stmt} {E':Value->Shared->Prop}
theorem Wp.to {α:Type} {e:Sem α} {Q:α->Heap->Nat->Prop} {Q':α->Shared->Prop} (x:Wp (c.wE E') e Q h t) (y:∀v h t,Q v h t->Q' v ⟨h,c.gn,c.d,t,c.os⟩):wpAny (model PP w) c.A e Q' E' ⟨h,c.gn,c.d,t,c.os⟩:=Wp.go x y
theorem Hf.unfar {q:Addr×Obj} (H:Hf G ⟨ow,q::fa⟩ fr τ σ h):Hf G ⟨ow,fa⟩ fr τ σ h:=by
 obtain⟨a,vs,l,S⟩:=H.S;exact⟨H.V,⟨_,_,_,S.T,S.A,S.L,aD.unlay (X:=⟨ow,fa⟩) S.R⟩,H.le⟩
end
section
variable {w:World} {κ:Ek}
structure Fp (w:World) (κ:Ek) where
 G:Cs w κ
 s:kW
 τ:Tb
 St:Nat->Heap->Prop
 I:Addr
 put:iO
 ms:AS
 W:eY
noncomputable def Fp.sh (p:Fp w κ) (h:Heap) (t:Nat):Shared:=⟨h,p.G.c.gn,p.G.c.d,t,p.G.c.os⟩
noncomputable def Fp.M (p:Fp w κ) (k i:Nat) (fr:ca) (σ:Sg):Prop:=nM p.s p.put (λfr σ K=>p.ms p.G.Φ fr σ K pR) p.W k i fr σ
noncomputable def Fp.X (p:Fp w κ) (o:Obj):Xs:=⟨p.G.X.own,(p.I,o)::p.G.X.far⟩
inductive FI (p:Fp w κ) (k:Nat) (s':Shared):Prop
 |mk (i:Nat) (fr:ca) (σ:Sg) (τ':Tb) (h:Heap) (t:Nat) (o:Obj) (e:s'=p.sh h t) (hk:i+k=p.s.len) (le:p.τ.le τ') (st:p.St i h) (H:Hf p.G (p.X o) fr τ' σ h) (m:p.M k i fr σ):FI p k s'
noncomputable def Fp.Z (p:Fp w κ) (k:Nat) (s:Shared):Prop:=∃m,m<k+1∧FI p m s
variable {p:Fp w κ} {k i:Nat} {tg:Expr} {body:List Stmt} {fr:ca} {τ':Tb} {σ:Sg} {R:Result->Shared->Prop} {s:kW} {I:Addr} {o:Obj} {h h':Heap} {St:Nat->Heap->Prop}
theorem km.keep1 {τ1 τ2:Tb} {σ2:Sg} {fr2:ca} {G:Cs w κ} {ow fa:bu} (it:km w s I τ1 St) (st:St i h) (H:Hf G ⟨ow,(I,o)::fa⟩ fr τ' σ h) (H':Hf G ⟨ow,(I,o)::fa⟩ fr2 τ2 σ2 h'):St i h':=it.keep st λo a=>W7 (H.here.symm.trans a)▸H'.here
theorem ol {Q:Flow->Shared->Prop} {F F':Flow} {s:Shared} (e:F=F') (z:Q F' s):Q F s:=e.symm▸z
theorem FI.end4 (hc:κ.cm=none) (q:QS p.G p.τ p.W λF h t=>R (.ok F) (p.sh h t)) {t:Nat} {f:Flw} {F:Flow} (le:p.τ.le τ') (rf:RF τ' f F) (H:Hf p.G (p.X o) fr τ' σ h) (m:p.W f fr σ):R (.ok F) (p.sh h t):=q f fr σ τ' F h t le rf (Hf.s hc H.unfar) m
variable {E:Value->Shared->Prop} {V:Value}
theorem FI.turn {Qf:Flow->Shared->Prop} (hc:κ.cm=none) (ha:lh w κ tg p.put) (sb:bq w κ body p.ms) (it:km w p.s p.I p.τ p.St) (hk:i+(k+1)=p.s.len) (le:p.τ.le τ') (q:QS p.G p.τ p.W λF h t=>R (.ok F) (p.sh h t))
  (z1:∀s,p.Z k s->Qf .next s) (z2:∀s,p.Z k s->Qf .cont s) (z3:∀s,R (.ok .next) s->Qf .brk s) (z4:∀v s,R (.ok (.ret v)) s->Qf (.ret v) s)
  {x:SV} {h2:Heap} {t2:Nat} {o2:Obj} (rv:RV τ' x V) (kx:p.put x fr σ λfr σ=>p.ms p.G.Φ fr σ (flK (p.M k (i+1)) p.W) pR) (st2:p.St (i+1) h2) (H2:Hf p.G (p.X o2) fr τ' σ h2):
  wpAny (model PP w) p.G.c.A (assign tg (p.G.c.ev κ.sc) V) (λZ s₂=>wpAny (model PP w) p.G.c.A (execs body (p.G.c.ev κ.sc)) Qf E s₂) E (p.sh h2 t2):=by
 refine Wp.to (c:=p.G.c) (ha.go (p.G.lay _ (p.X o2)) (R:=λZ h t=>wpAny (model PP w) p.G.c.A (execs body (p.G.c.ev κ.sc)) Qf E (p.sh h t)) (H2.lay hc _) rv kx λA C D G r B=>?_) λZ Z Z y=>y;refine Wp.to (c:=p.G.c) (sb (p.G.lay _ (p.X o2)) (Q:=λf h t=>Qf f (p.sh h t)) r B λf d e o F u l n a g j=>?_) λZ Z Z y=>y;show Qf F (p.sh u l);have b:=le.trans n;have z:p.M k (i+1) d e->p.Z k (p.sh u l):=λm=>(bv k (XY _) ⟨i+1,d,e,o,u,l,o2,rfl,(Y6 i k).trans hk,b,it.keep1 (it.keep1 st2 H2 r.unl) r.unl g.unl,g.unl,m⟩);cases f with
 |next=>exact ol a (z1 _ (z j))
 |cont=>exact ol a (z2 _ (z j))
 |brk=>exact ol a (z3 _ (FI.end4 (f:=.next) (F:=.next) hc q b rfl g.unl j))
 |ret v=>exact Exists.elim a λV a=>ol a.1 (z4 _ _ (FI.end4 (f:=.ret v) (F:=.ret V) hc q b (bv V rfl a.2) g.unl j))
variable {n:Nat}
theorem FI.loop (hc:κ.cm=none) (ha:lh w κ tg p.put) (sb:bq w κ body p.ms) (it:km w p.s p.I p.τ p.St) (off:∀q∈p.G.X.own++p.G.X.far,q.1≠p.I) (q:QS p.G p.τ p.W λF h t=>R (.ok F) (p.sh h t)) {s':Shared} (j:FI p n s'):
  codeAny (model PP w) p.G.c.A (.forLoop tg (.ref p.I) body [] (p.G.c.ev κ.sc)) R s':=by
 refine codeAny_forLoop_any (FI p) (λk s' y=>?_) n j;obtain⟨i,l,B,c,h,t,o,e,f,b,g,H,m⟩:=y;rw[e];cases k with
 |zero=>exact Tq it b (show p.St p.s.len h from f▸g) H m.1 (λA d v=>ZT (q .next l B c .next A d b rfl (Hf.s hc v) m.2)) off
 |succ k=>exact yd it b off g (f▸Zb (ZM k)) H m.1 m.2 λV x C D o2 s u a r=>ha.own (it.own a) (FI.turn hc ha sb it f b q (λZ z=>z) (λZ z=>z) (λZ z=>z) (λZ Z z=>z) s u a r)
variable {e:Expr} {m:AE} {ms ms1:AS} {pos px:Pos} {put:iO} {rest:List Stmt} {G:Cs w κ} {τ:Tb} {t:Nat}
theorem XcM (hc:κ.cm=none) (ha:lh w κ tg put) (sb:bq w κ body ms) {W:eY} {Q:Flow->Heap->Nat->Prop} (it:km w s I τ St) (st:St 0 h) (H:Hf G ⟨G.X.own,(I,o)::G.X.far⟩ fr τ σ h) (off:∀p∈G.X.own++G.X.far,p.1≠I) (m:nM s put (λfr σ K=>ms G.Φ fr σ K pR) W s.len 0 fr σ) (q:QS G τ W Q):FoG G.c (G.c.ev κ.sc) tg body Q (.ref I) h t:=by
 show codeAny _ _ _ _ _;exact FI.loop (p:=⟨G,s,τ,St,I,put,ms,W⟩) hc ha sb it off (λf fr σ a F h t l b H k=>show lf G.c Q F ⟨h,G.c.gn,G.c.d,t,G.c.os⟩ from aJ (q f fr σ a F h t l b H k)) ⟨0,fr,σ,τ,h,t,o,rfl,X9 _,Tb.le.refl,st,H,m⟩
theorem Uk (hc:κ.cm=none) (hs:∀env x,foldedSetIterable e env x=pure x) (ha:lh w κ tg put) (s:av w κ e m) (sb:bq w κ body ms) (r:bq w κ rest ms1):bq w κ (.For tg e body [] pos::rest) (lM m put ms ms1):=λG j Z Z Z Z Z Z H m q=>
 UR (hs _) (s (G.at j) H m λv g p u t n b d f a=>sE (G:=G) f d a λs k I o h St i l H c=>XcM hc ha sb i l H c k (OA r b q))
variable {ow fa fa':bu} {q:Addr×Obj}
theorem Hf.sub {fa fa':bu} (H:Hf G ⟨ow,fa⟩ fr τ σ h) (m:∀q∈fa',q∈fa):Hf G ⟨ow,fa'⟩ fr τ σ h:=by
 obtain⟨d,vs,l,S⟩:=H.S;refine⟨H.V,⟨_,_,_,S.T,S.A,S.L,S.R.nx,S.R.ob,S.R.dj,S.R.nz.imp λz c=>⟨c.1,λp a=>c.2 p (m p a)⟩,S.R.inl,λp a=>S.R.X1 p ?_,S.R.X2,λk p h b a=>S.R.X3 k p h b (m b a)⟩,H.le⟩;exact(W6.mp a).elim (W3 _) λz=>WW _ (m p z)
theorem Hf.chg {o3:Obj} (H:Hf G ⟨ow,q::fa⟩ fr τ σ h) (off:∀p∈ow++fa,p.1≠q.1) (hs:Heap.SameBut q.1 h h') (g:h'.get? q.1=some o3):Hf G ⟨ow,(q.1,o3)::fa⟩ fr τ σ h':=by
 obtain⟨i,vs,l,S⟩:=H.S;refine ia (dn (S.R.X1 q (WW _ (.head _)))) λr b d f=>?_;exact⟨H.V,⟨_,_,(q.1,o3)::r,S.T,(S.A.sub d).chg1 hs g,S.L,aD.far (X:=⟨ow,fa⟩) (q:=q) (o:=o3) (S.R.cong b) off (λp a c=>.tail _ ((WY.mp a).resolve_left λe=>c (e▸rfl))) (.head _)⟩,H.le⟩
theorem Hf.drop (H:Hf G ⟨ow,q::fa⟩ fr τ σ h) (off:∀p∈ow++fa,p.1≠q.1) (hs:Heap.SameBut q.1 h h'):Hf G ⟨ow,fa⟩ fr τ σ h':=by
 obtain⟨g,vs,l,S⟩:=H.S;refine ia (dn (S.R.X1 q (WW _ (.head _)))) λr b d f=>?_;have A:=S.A.sub d;exact⟨H.V,⟨_,_,r,S.T,⟨A.F.change hs (A.N _ (.head _)).2.1 (A.N _ (.head _)).2.2,λp a=>⟨(hs.2 _ (A.k.off p a)).trans (A.N p (.tail _ a)).1,(A.N p (.tail _ a)).2⟩,A.k.tail⟩,S.L,aD.drop (X:=⟨ow,fa⟩) (q:=q) (S.R.cong b) off λp a c=>(WY.mp a).resolve_left λe=>c (e▸rfl)⟩,H.le⟩
variable {ws:List Value} {ys:List SV}
theorem Hf.adopt {D:Addr} {nD:Nat} (H:Hf G ⟨ow,(D,aL ws nD)::fa⟩ fr τ σ h) (off:∀p∈ow++fa,p.1≠D) (r:bZ τ ys ws):∃τ',τ.le τ'∧RV τ' (.ref σ.nx) (.ref D)∧Hf G ⟨ow,fa⟩ fr τ' (σ.new (.list ys)) h:=by
 obtain⟨b,vs,l,S⟩:=H.S;have a:=S.R.le_up (D,D);exact(ju _ a ⟨D,D,rfl,Xn rfl⟩ ⟨H.V.up a,⟨_,_,_,S.T,S.A,S.L.up a,aD.adopt (X:=⟨ow,fa⟩) S.R off ⟨ws,nD,S.R.X1 _ (WW _ (.head _)),r.up a⟩⟩,H.le.trans a⟩)
theorem Hf.lays {ob:Obj} {x:Addr} (hx:x=h.objs.size) (H:Hf G ⟨ow,fa⟩ fr τ σ h) (hs:∀b o,h.get? b=some o->h'.get? b=some o) (g:h'.get? x=some ob):Hf G ⟨ow,(x,ob)::fa⟩ fr τ σ h'∧∀p∈ow++fa,p.1≠x:=by
 obtain⟨d,vs,l,S⟩:=H.S;have c:x∉l.map (·.1):=λe=>by
  refine bn (Xb.mp e) λp hp e=>?_;have:=(λp hp=>Xe (S.A.N p hp).1:∀p∈l,p.1<h.objs.size) p hp;rw[e,hx]at this;exact XX _ this
 have i:∀a o,(G.c.wg d).g.get? a=some o->a<h.objs.size:=λa o e=>Xe (S.A.F.keep a o e);refine⟨⟨H.V,⟨_,_,(x,ob)::l,S.T,⟨⟨S.A.F.ns.at' λo e=>hs _ o e,λb o e=>hs b o (S.A.F.keep b o e),S.A.F.above⟩,λp hp=>?_,S.A.k.cons λp hp=>hx▸(λp hp=>Xe (S.A.N p hp).1:∀p∈l,p.1<h.objs.size) p hp⟩,S.L,S.R.lay c⟩,H.le⟩,λp hp e=>c (e▸Xm (f:=(·.1)) (S.R.X1 p hp))⟩;rcases WY.mp hp with rfl|hp
 ·refine⟨g,λe=>?_,?_⟩
  ·have:=S.A.F.ns.lt
   rw[←e]at this;rw[hx]at this;exact XX _ this
  ·cases z:(G.c.wg d).g.get? x with
   |none=>rfl
   |some o=>have:=i _ _ z;rw[hx]at this;exact absurd this (XX _)
 ·exact⟨hs _ _ (S.A.N p hp).1,(S.A.N p hp).2⟩
noncomputable def Ek.comp (κ:Ek) (scope:Scope) (x:Str):Ek:=⟨κ.sc,κ.ns,κ.cn,some (scope,x),κ.lm,κ.cd,κ.qn⟩
abbrev n4:=(Nat->eO)->ca->List SV->Sg->(List SV->Sg->Prop)->KX->Prop
def RC1 (τ:Tb) (ys ys':List SV) (y:Option Value):Prop:=match y with
 |some V=>∃v,ys'=ys++[v]∧RV τ v V
 |none=>ys'=ys
def jf (w:World) (κ:Ek) (ifs:List Expr) (elt:Expr) (b:n4):Prop:=∀(G:Cw w κ) {τ σ h t ys K} {Q:Option Value->Heap->Nat->Prop},Hs G τ σ h->b G.Φ G.fr ys σ K G.KE->(∀y ys' σ τ' h t,τ.le τ'->RC1 τ' ys ys' y->Hs G τ' σ h->K ys' σ->Q y h t)->
 wpAny (model PP w) G.c.A (forIn ifs true λc r=>if r=true then do let ok ←isTrue c G.env (eval c G.env);pure (ForInStep.yield ok)else pure (ForInStep.yield r)) (λok s₃=>
  if ok=true then wpAny (model PP w) G.c.A (eval elt G.env) (λy s₄=>lf G.c (λy h t=>Q (some y) h t) y s₄) G.c.E s₃ else lf G.c (λZ h t=>Q none h t) ok s₃) G.c.E ⟨h,G.c.gn,G.c.d,t,G.c.os⟩
def cB (el:AE):n4:=λΦ fr ys σ K KE=>el Φ fr σ (λy σ=>K (ys++[y]) σ) KE
def pZ (t:AT) (el:AE):n4:=λΦ fr ys σ K KE=>t Φ fr σ (λb σ=>bI b (el Φ fr σ (λy σ=>K (ys++[y]) σ) KE) (K ys σ)) KE
variable {e1:Expr} {mt:AT}
theorem c_b (s:av w κ e m):jf w κ [] e (cB m):=λG Z Z Z Z Z Z Z H m q=>
 wpAny_tests_nil (IT ((s G H m λj b f i g d c k l a=>q (some i) _ b f g d c (bv j rfl k) l a).go λy h t z=>aJ z))
theorem WI (s1:fp w κ e1 mt) (s:av w κ e m):jf w κ [e1] e (pZ mt m):=λG C D h t E K Q H m q=>
 wpAny_tests_one ((s1 G (Q:=λb h t=>Br b (Wp G.c (eval e G.env) (λy h t=>Q (some y) h t) h t) (Q none h t)) H m λB u k r v c a d=>⟨λz=>s G a (d.br.1 z) λp g l o n j i x A f=>q (some o) _ g l n j (c.trans i) (bv p rfl x) A f,λz=>q none _ u k r v c rfl a (d.br.2 z)⟩).go λb h t z=>by
  cases b with
  |true=>exact IT ((z.1 rfl).go λy h t z=>aJ z)
  |false=>exact Xa9 (aJ (z.2 rfl)))
def bS (s:kW) (b:SV->List SV->Sg->(List SV->Sg->Prop)->Prop) (K:List SV->Sg->Prop):Nat->Nat->List SV->Sg->Prop
 |0,_,ys,σ=>s.ok σ∧K ys σ
 |m+1,i,ys,σ=>s.ok σ∧s.at σ i λx=>b x ys σ λys σ=>bS s b K m (i+1) ys σ
def kU (b:n4) (Φ:Nat->eO) (fr:ca):SV->List SV->Sg->(List SV->Sg->Prop)->Prop:=λx ys σ K=>b Φ ⟨fr.loc,fr.cel,[x]⟩ ys σ K pR
noncomputable def i8 (κ:Ek) (scope:Scope) (x:Str):Bool:=scope.kind== .function&&κ.sc.kind== .function&&decide (scope.names.map (·.1)).Nodup&&scope.names.all (λy=>y.2 != .cell)&&scope.names.lookup x==some .local&&scope.names.all λy=>y.2 != .free||κ.cn.contains y.1
theorem iW {cells:List (Str×Addr)} {names:List (Str×NameKind)}:∀{acc:List (Str×Addr)},(∀y∈names,y.2=.free->(cells.lookup y.1).isSome=true)->(eK cells names acc).isSome=true:=by
 induction names with
 |nil=>intro acc _;rfl
 |cons a r ih=>
  intro acc h;obtain⟨n,k⟩:=a;dsimp only[eK];have b:=λacc=>ih (acc:=acc) λy d=>h y (.tail _ d);by_cases hk:(k==NameKind.free)=true
  ·rw[Xn hk]
   have:=h (n,k) (.head _) (XJ hk);cases hc:cells.lookup n with
   |none=>rw[hc]at this;exact ch this
   |some c=>exact b _
  ·rw[Xh hk];exact b _
theorem lX {c:Cf w} {scope:Scope} {x:Str} (ce:gF c κ fr τ) (h:i8 κ scope x=true):jz scope (c.ev κ.sc) x=true:=by
 unfold i8 at h;rw[WU]at h;obtain⟨m,j⟩:=h;unfold jz;rw[WU];refine⟨m,iW λy f g=>?_⟩;have z:=WZ.mp j y f;rw[g]at z;obtain⟨i,b,e⟩:=List.getElem_of_mem (XU.mp z);refine oH (ce i y.1 (by rw[Xf b,e])) λk a d n o l=>?_;rw[l.at_];rfl
variable {elt iter:Expr} {x:Str} {ifs:List Expr} {scope:Scope} {b:n4}
noncomputable def Cs.cmp (G:Cs w κ) (fr:ca) (E':Value->Shared->Prop) (X:Xs) (scope:Scope) (x:Str) (cl:List (Str×Addr)) (C:Addr) (v:SV):Cw w (κ.comp scope x):=⟨G.c.wE E',G.Φ,G.n,compEnvC scope cl C (G.c.ev κ.sc),⟨fr.loc,fr.cel,[v]⟩,G.τ0,X,pR,G.P,⟨G.O.toOk.wE E',G.O.Y⟩,λZ Z Z Z Z Z Z ke Z=>ke.elim⟩
variable {X:Xs} {cl:List (Str×Addr)} {C:Addr} {oC:Obj}
theorem Hf.cmp {v:SV} (H:Hf G X fr τ σ h) (ok:df scope (G.c.ev κ.sc) cl) (hC:(C,oC)∈X.far) (hv:pn oC x V) (rv:RV τ v V) (E':Value->Shared->Prop):Hs (G.cmp fr E' X scope x cl C v) τ σ h:=by
 obtain⟨a,vs,l,S⟩:=H.S;exact⟨⟨H.V,cl,C,oC,v,V,rfl,ok,hC,hv,rfl,rv⟩,⟨a,vs,l,S.T,⟨S.A.F,S.A.N,S.A.k⟩,S.L,S.R⟩,H.le⟩
theorem Hs.unc {v:SV} {E':Value->Shared->Prop} (H:Hs (G.cmp fr E' X scope x cl C v) τ σ h):Hf G X fr τ σ h:=by
 obtain⟨a,vs,l,S⟩:=H.S;exact⟨H.V.1,⟨a,vs,l,S.T,⟨S.A.F,S.A.N,S.A.k⟩,S.L,S.R⟩,H.le⟩
end
section
variable {w:World} {κ:Ek} {G:Cs w κ} {fr:ca} {τ:Tb} {σ:Sg} {h h':Heap} {t:Nat} {elt iter:Expr} {x:Str} {px pos:Pos} {ifs:List Expr} {scope:Scope} {b:n4}
inductive Ho (G:Cs w κ) (fr:ca) (τ:Tb) (K:List SV->Sg->Prop) (C D:Addr) (h:Heap):Prop
 |mk (oC:Obj) (ws:List Value) (nD:Nat) (ys:List SV) (σ:Sg) (τ':Tb) (m:Str->Option Value) (le:τ.le τ') (r:bZ τ' ys ws) (k:K ys σ) (hC:h.Ns C m) (cd:C≠D) (oc:∀p∈G.X.own++G.X.far,p.1≠C) (od:∀p∈G.X.own++G.X.far,p.1≠D) (H:Hf G ⟨G.X.own,(C,oC)::(D,aL ws nD)::G.X.far⟩ fr τ' σ h):Ho G fr τ K C D h
variable {env:Env} {cl:List (Str×Addr)}
theorem tw {C:Addr} (h1:(scope.kind== .function)=true):((compEnvC scope cl C env).scope.kind== .class||((compEnvC scope cl C env).scope.kind== .module&&(compEnvC scope cl C env).locals !=(compEnvC scope cl C env).globals))=false:=by
 simp[compEnvC,relabel,XJ h1]
structure Cp (w:World) (κ:Ek) where
 G:Cs w κ
 fr:ca
 τ:Tb
 s:kW
 St:Nat->Heap->Prop
 b:n4
 K:List SV->Sg->Prop
 C:Addr
 D:Addr
 I:Addr
noncomputable def Cp.sh (p:Cp w κ) (h:Heap) (t:Nat):Shared:=⟨h,p.G.c.gn,p.G.c.d,t,p.G.c.os⟩
noncomputable def Cp.X (p:Cp w κ) (oC:Obj) (ws:List Value) (n:Nat) (oI:Obj):Xs:=⟨p.G.X.own,(p.C,oC)::(p.D,aL ws n)::(p.I,oI)::p.G.X.far⟩
structure Cp.Ok (p:Cp w κ):Prop where
 it:km w p.s p.I p.τ p.St
 oI:∀q∈p.G.X.own++p.G.X.far,q.1≠p.I
 oD:∀q∈p.G.X.own++p.G.X.far,q.1≠p.D
 oC:∀q∈p.G.X.own++p.G.X.far,q.1≠p.C
 DI:p.D≠p.I
 CI:p.C≠p.I
 DC:p.D≠p.C
 n:p.s.len≤10000
def xp (o:Obj) (m:Str->Option Value):Prop:=∃es ep,o.data=.dict es ep∧StrKeys es∧∀y,nsFind es y=m y
variable {m:Str->Option Value}
theorem xp.at {o:Obj} {a:Addr} (n:xp o m) (g:h.get? a=some o):h.Ns a m:=n.elim λb n=>n.elim λc n=>(uA o b c g n)
theorem xp.of {a:Addr} (n:h.Ns a m):∃o,h.get? a=some o∧xp o m:=n.elim λo n=>n.elim λb n=>n.elim λc n=>⟨o,n.1,b,c,n.2⟩
end
section
variable {w:World} {κ:Ek} {G:Cs w κ} {fr:ca} {τ:Tb} {σ:Sg} {h h':Heap} {t:Nat} {elt iter:Expr} {x:Str} {px pos:Pos} {ifs:List Expr} {scope:Scope} {b:n4}
inductive CJ (p:Cp w κ) (k i:Nat) (ys:List SV) (h:Heap):Prop
 |mk (mm:Str->Option Value) (ws:List Value) (n:Nat) (σ:Sg) (τ':Tb) (oC:Obj) (oI:Obj) (le:p.τ.le τ') (r:bZ τ' ys ws) (st:p.St i h) (ns:xp oC mm) (H:Hf p.G (p.X oC ws n oI) p.fr τ' σ h) (m:bS p.s (kU p.b p.G.Φ p.fr) p.K k i ys σ)
inductive CX (p:Cp w κ) (k:Nat) (s':Shared):Prop
 |mk (i:Nat) (ys:List SV) (h:Heap) (t:Nat) (e:s'=p.sh h t) (hk:i+k=p.s.len) (hl:ys.length≤i) (j:CJ p k i ys h):CX p k s'
inductive CN (p:Cp w κ) (k i:Nat) (ys:List SV) (y:Option Value) (h:Heap):Prop
 |mk (mm:Str->Option Value) (ys':List SV) (ws:List Value) (n:Nat) (σ:Sg) (τ':Tb) (oC:Obj) (oI:Obj) (le:p.τ.le τ') (r:bZ τ' ys ws) (y:RC1 τ' ys ys' y) (st:p.St (i+1) h) (ns:xp oC mm) (H:Hf p.G (p.X oC ws n oI) p.fr τ' σ h) (m:bS p.s (kU p.b p.G.Φ p.fr) p.K k (i+1) ys' σ)
variable {ow fa:bu} {A B A' B':Addr×Obj} {I:Addr} {oI:Obj}
theorem Hf.rot (H:Hf G ⟨ow,A::B::(I,oI)::fa⟩ fr τ σ h):Hf G ⟨ow,(I,oI)::A::B::fa⟩ fr τ σ h:=H.sub λq hq=>by
 rcases WY.mp hq with e|hq
 ·exact e▸ .tail _ (.tail _ (.head _))
 ·rcases WY.mp hq with e|hq
  ·exact e▸ .head _
  ·rcases WY.mp hq with e|hq
   ·exact e▸ .tail _ (.head _)
   ·exact .tail _ (.tail _ (.tail _ hq))
theorem Hf.at3 (H:Hf G ⟨ow,A::B::(I,oI)::fa⟩ fr τ σ h):h.get? I=some oI:=H.rot.here
variable {s:kW} {St:Nat->Heap->Prop}
theorem km.keep3 {τ1 τ':Tb} {σ':Sg} {i:Nat} (it:km w s I τ1 St) (st:St i h) (H:Hf G ⟨ow,A::B::(I,oI)::fa⟩ fr τ σ h) (H':Hf G ⟨ow,A'::B'::(I,oI)::fa⟩ fr τ' σ' h'):St i h':=it.keep st λo a=>W7 (H.at3.symm.trans a)▸H'.at3
theorem uQ {a b c:Addr} {ob oc:Obj} (h:∀q∈ow++fa,q.1≠a) (hb:b≠a) (hc:c≠a):∀q∈ow++(b,ob)::(c,oc)::fa,q.1≠a:=λq d=>(W6.mp d).elim (λz=>h q (W3 _ z)) λz=>(WY.mp z).elim (λe=>e▸hb) λz=>(WY.mp z).elim (λe=>e▸hc) λz=>h q (WW _ z)
variable {p:Cp w κ} {k i:Nat} {ys:List SV}
theorem CN.skip (o:p.Ok) (j:CN p k i ys none h) (hk:i+(k+1)=p.s.len) (hl:ys.length≤i) (t:Nat):∃m,m<k+1∧CX p m (p.sh h t):=
 match j with
 |.mk mm _ ws n σ τ' oC oI le r y st ns H m=>(bv k (XY _) ⟨i+1,ys,h,t,rfl,(Y6 i k).trans hk,Yz hl,mm,ws,n,σ,τ',oC,oI,le,r,st,ns,H,Eq.rec (motive:=λz Z=>bS p.s (kU p.b p.G.Φ p.fr) p.K k (i+1) z σ) m y⟩)
variable {n:Nat}
theorem sz_ {ws:List Value} (hn:n≤10000) (hl:ys.length≤i) (r:bZ τ ys ws) (hk:i+(k+1)=n):ws.toArray.size≤sizeLine:=(Xq (as:=ws)).symm▸r.len.symm▸WX hl (WX (hk▸X4 i (k+1)) (WX hn (by decide)))
variable {E:Value->Shared->Prop}
theorem CN.app (o:p.Ok) {y:Value} (j:CN p k i ys (some y) h) (hk:i+(k+1)=p.s.len) (hl:ys.length≤i) (t:Nat):wpAny (model PP w) p.G.c.A (call (.builtin "list.append") [.ref p.D,y]) (λZ s=>∃m,m<k+1∧CX p m s) E (p.sh h t):=by
 obtain⟨z,g,b,n,F,c,C,oI,B,r,e,A,D,H,m⟩:=j;refine Exists.elim (show∃v,g=ys++[v]∧RV c v y from e) λv e=>?_;have G:b.toArray.size≤sizeLine:=sz_ o.n hl r hk;refine wpAny_list_append_plain (s:=p.sh h t) (hsz:=G) (⟨n,H.rot.rot.here⟩:h.PlainList p.D b.toArray) λx l f=>l.elim λu d=>?_;have d:x.get? p.D=some (aL (b++[y]) u):=d.trans (Yi (λa=>some ({cls:=.type "list",data:=.seq a u}:Obj)) (List.push_toArray b y));exact(bv k (XY _) ⟨i+1,ys++[v],x,t,rfl,(Y6 i k).trans hk,(Yb (as:=ys) (bs:=[v])).symm▸Zl hl,z,b++[y],u,F,c,C,oI,B,bZ.app (v':=[v]) (V':=[y]) ⟨y,[],rfl,e.2,rfl⟩ r,o.it.keep A (λI d=>(f.2 p.I o.DI.symm).trans d),D,(Hf.chg (q:=(p.D,aL b n)) H.rot.rot (uQ o.oD o.DI.symm o.DC.symm) f d).rot,e.1▸m⟩)
noncomputable def Cp.Z (p:Cp w κ) (k:Nat) (s:Shared):Prop:=∃m,m<k+1∧CX p m s
variable {cl:List (Str×Addr)}
theorem CJ.turn (o:p.Ok) (hb:i8 κ scope x=true) (sb:jf w (κ.comp scope x) ifs elt p.b) (ok:df scope (p.G.c.ev κ.sc) cl) (hk:i+(k+1)=p.s.len) (hl:ys.length≤i) (mm:Str->Option Value) (ws:List Value) (n:Nat) {τ':Tb} {oC:Obj} (le:p.τ.le τ') (rr:bZ τ' ys ws) (ns:xp oC mm) {V:Value}
  {xv:SV} {h2:Heap} {t2:Nat} {o2:Obj} (rv:RV τ' xv V) (kx:kU p.b p.G.Φ p.fr xv ys σ λys σ=>bS p.s (kU p.b p.G.Φ p.fr) p.K k (i+1) ys σ) (st2:p.St (i+1) h2) (H2:Hf p.G ⟨p.G.X.own,(p.I,o2)::(p.C,oC)::(p.D,aL ws n)::p.G.X.far⟩ p.fr τ' σ h2):
  wpAny (model PP w) p.G.c.A (assign (.Name x px) (compEnvC scope cl p.C (p.G.c.ev κ.sc)) V) (λZ s₂=>
   wpAny (model PP w) p.G.c.A (forIn ifs true λc r=>if r=true then do let ok ←isTrue c (compEnvC scope cl p.C (p.G.c.ev κ.sc)) (eval c (compEnvC scope cl p.C (p.G.c.ev κ.sc)));pure (ForInStep.yield ok)else pure (ForInStep.yield r)) (λok s₃=>
    if ok=true then wpAny (model PP w) p.G.c.A (eval elt (compEnvC scope cl p.C (p.G.c.ev κ.sc))) (λx s₄=>wpAny (model PP w) p.G.c.A (call (.builtin "list.append") [.ref p.D,x]) (λZ s=>p.Z k s) E s₄) E s₃
    else p.Z k s₃) E s₂) E (p.sh h2 t2):=by
 have A:=(Xr.mp (Xr.mp hb).1).2;refine wpAny_assign_Name (wpAny_storeName_local (m:=mm) (lookup_relabel_local (XJ A)) (ns.at (H2.rot.rot:Hf p.G (p.X oC ws n o2) p.fr τ' σ h2).here) (λG C g=>?_) (tw ((Xr.mp (Xr.mp (Xr.mp (Xr.mp (Xr.mp hb).1).1).1).1).1)));refine Exists.elim (xp.of C) λb z=>?_;have F:Hf p.G (p.X b ws n o2) p.fr τ' σ G:=(H2.rot.rot:Hf p.G (p.X oC ws n o2) p.fr τ' σ h2).chg (q:=(p.C,oC)) (uQ o.oC o.DC o.CI.symm) g z.1;have u:p.St (i+1) G:=o.it.keep st2 λM J=>(g.2 p.I o.CI.symm).trans J;refine Ym (sb (p.G.cmp p.fr E (p.X b ws n o2) scope x cl p.C xv) (Q:=λy h Z=>CN p k i ys y h)
    (F.cmp ok (.head _) (z.2.elim λK z=>z.elim λI z=>(hH K I _ z.1 z.2.1 z.2.2 (Xn rfl))) rv _) kx λZ j v t Z Z f L D ck=>⟨_,j,ws,n,v,t,b,o2,le.trans f,rr.up f,L,o.it.keep3 u F D.unc,z.2,D.unc,ck⟩) (λB s₄ a=>?_) λZ Z e=>e
 cases B with
 |false=>exact a.elim λA y=>y.elim λl y=>y.1▸y.2.skip o hk hl l
 |true=>exact Ym (show wpAny _ _ _ _ _ _ from a) (λy H d=>d.elim λA z=>z.elim λl z=>z.1▸z.2.app o hk hl l) λZ Z e=>e
variable {R:Result->Shared->Prop}
theorem CJ.loop (o:p.Ok) (hb:i8 κ scope x=true) (sb:jf w (κ.comp scope x) ifs elt p.b) (ok:df scope (p.G.c.ev κ.sc) cl) (hk:i+n=p.s.len) (hl:ys.length≤i) (j:CJ p n i ys h) {t:Nat} (q:∀h t,Ho p.G p.fr p.τ p.K p.C p.D h->R (.ok .next) (p.sh h t)):
  codeAny (model PP w) p.G.c.A (.compLoop (.ListComp elt [⟨.Name x px,iter,ifs,0⟩] scope pos) 0 (.ref p.I) (.ref p.D) (compEnvC scope cl p.C (p.G.c.ev κ.sc))) R (p.sh h t):=by
 refine codeAny_compLoop_tests (CX p) (λk F B=>?_) n ⟨i,ys,h,t,rfl,hk,hl,j⟩;obtain⟨i,ys,h,t,e,hk,hl,f,l,n,D,b,z,oI,a,u,g,s,H,m⟩:=B;rw[e];cases k with
 |zero=>exact Tq o.it a (hk▸g) H.rot m.1 (λC c r=>q C c ⟨z,l,n,ys,D,b,f,a,u,m.2,s.at r.here,o.DC.symm,o.oC,o.oD,r⟩) (uQ o.oI o.CI o.DI)
 |succ k=>exact yd o.it a (uQ o.oI o.CI o.DI) g (hk▸Zb (ZM k)) H.rot m.1 m.2 λV x E G o2 y A d v=>CJ.turn o hb sb ok hk hl f l n a u s y A d v
variable {K:List SV->Sg->Prop}
theorem su {bb:SV->List SV->Sg->(List SV->Sg->Prop)->Prop}:∀{n:Nat},bS s bb K n 0 ys σ->s.ok σ:=λ{n} m=>by
 cases n with
 |zero=>exact m.1
 |succ n=>exact m.1
theorem G3 (o:p.Ok) (hb:i8 κ scope x=true) (sb:jf w (κ.comp scope x) ifs elt p.b) (ok:df scope (p.G.c.ev κ.sc) cl) (j:CJ p p.s.len 0 [] h) (q:∀h t,Ho p.G p.fr p.τ p.K p.C p.D h->R (.ok .next) (p.sh h t)):
  codeAny (model PP w) p.G.c.A (.compStart (.ListComp elt [⟨.Name x px,iter,ifs,0⟩] scope pos) 0 (.ref p.I) (.ref p.D) (compEnvC scope cl p.C (p.G.c.ev κ.sc))) R (p.sh h t):=
 by
 have a:=λt=>j.loop (iter:=iter) (px:=px) (pos:=pos) o hb sb ok (X9 _) (Xy _) (t:=t) q;obtain⟨r,u,n,A,g,s,oI,f,y,e,v,H,m⟩:=j;obtain⟨k,vs,l,S⟩:=H.S;exact(o.it.go f S.R (λp d=>(S.A.N p d).1) (kO (c:=p.G.c.wg k) (p.G.O.turn S.T) S.A) e (su m)).elim λb z=>z.elim λP z=>z.elim λi z=>
  codeAny_compStart_list (a _) ((z.1.W p.G.c.A p.G.O.hh).self 0 _ _ _ z.2.1 (a _))
theorem Hf.here2 (H:Hf G ⟨ow,A::B::fa⟩ fr τ σ h):h.get? B.1=some B.2:=(H.sub (fa':=B::fa) λq a=>.tail _ a).here
theorem rN {α:Type} {p a:α} {l r:List α} (h:p∈l++r):p∈l++a::r:=(W6.mp h).elim (W3 _) λz=>WW _ (.tail _ z)
theorem xZ (hb:i8 κ scope x=true) (sb:jf w (κ.comp scope x) ifs elt b) {use:Option (Value->Sem Unit)} {Q:Value->Shared->Prop} (ok:df scope (G.c.ev κ.sc) cl) {h:Heap} (it:km w s I τ St) (st:St 0 h) (H:Hf G ⟨G.X.own,(I,oI)::G.X.far⟩ fr τ σ h) (off:∀p∈G.X.own++G.X.far,p.1≠I) (hn:s.len≤10000) (m:bS s (kU b G.Φ fr) K s.len 0 [] σ)
  (q:∀C D h t,Ho G fr τ K C D h->compPost (model PP w) G.c.A E use Q (.ref D) C (.ok .next) ⟨h,G.c.gn,G.c.d,t,G.c.os⟩):
  wpAny (model PP w) G.c.A (newList []) (λacc s₃=>wpAny (model PP w) G.c.A (newFunctionEnv scope (G.c.ev κ.sc).globals cl [] (G.c.ev κ.sc).qual none .none (some (G.c.ev κ.sc))) (λcenv s₄=>
   codeAny (model PP w) G.c.A (.compStart (.ListComp elt [⟨.Name x px,iter,ifs,0⟩] scope pos) 0 (.ref I) acc {cenv with scope:=relabel scope (G.c.ev κ.sc)}) (compPost (model PP w) G.c.A E use Q acc cenv.locals) s₄) E s₃) E ⟨h,G.c.gn,G.c.d,t,G.c.os⟩:=by
 have i:=Xr.mp (Xr.mp (Xr.mp hb).1).1;have N:=XJ (Xr.mp (Xr.mp i.1).1).1;obtain⟨J,vs,l,S⟩:=H.S;refine lC (h₀:=J) S.A.F S.A.N S.A.k (by decide) λD d B M z=>?_;have j:=(W2.mp z.nd).1;have H1:Hf G ⟨G.X.own,(D,aL [] 0)::(I,oI)::G.X.far⟩ fr τ σ d:=⟨H.V,⟨_,_,_,S.T,⟨B,M,z⟩,S.L,S.R.lay j⟩,H.le⟩;have c:∀p∈G.X.own++(I,oI)::G.X.far,p.1≠D:=λp g e=>j (e▸Xm (f:=(·.1)) (S.R.X1 p g));refine wpAny_newFunctionEnv (λy u=>bne_iff_ne.mp (WZ.mp i.2 y u)) (λy u=>(Y1 u).elim) (λL v k=>?_) N;refine Exists.elim (xp.of v) λA n=>?_;have a:∀b o,d.get? b=some o->L.get? b=some o:=λb o e=>k.extBut b o (XC (Xe e)) (Xp _ e);exact G3 (p:=⟨G,fr,τ,s,St,b,K,d.objs.size,D,I⟩) ⟨it,off,λp g=>c p (rN g),λp g=>(H1.lays (x:=d.objs.size) rfl a n.1).2 p (rN (rN g)),(c (I,oI) (WW _ (.head _))).symm,((H1.lays (x:=d.objs.size) rfl a n.1).2 (I,oI) (WW _ (.tail _ (.head _)))).symm,(H1.lays (x:=d.objs.size) rfl a n.1).2 (D,aL [] 0) (WW _ (.head _)),hn⟩ hb sb ok ⟨_,[],0,σ,τ,A,oI,Tb.le.refl,rfl,it.keep st λo F=>a _ o ((W7 (H.here.symm.trans F))▸Hf.here2 H1),n.2,(H1.lays (x:=d.objs.size) rfl a n.1).1,m⟩ λh t r=>q _ _ h t r
noncomputable def Cw.cs (G:Cw w κ):Cs w κ:=⟨G.c,G.Φ,G.n,G.τ0,G.X,pR,G.P,G.O,λZ Z Z Z Z Z Z Z ke Z=>ke.elim⟩
theorem Hs.cs {G:Cw w κ} (hc:κ.cm=none) (H:Hs G τ σ h):Hs (G.cs.at G.fr) τ σ h:=⟨.fn hc H.V.1,H.S,H.le⟩
variable {e e1:Expr} {m:AE} {ms:AS} {ppos:Pos} {rest:List Stmt}
def bP (a:AE) (b:n4):AE:=λΦ fr σ K KE=>a Φ fr σ (λv σ=>rX σ v λs=>s.len≤10000∧bS s (kU b Φ fr) (λys σ=>K (.ref σ.nx) (σ.new (.list ys))) s.len 0 [] σ) KE
theorem Ho.fin {G:Cs w κ} {ws:List Value} {nD:Nat} {τ':Tb} {C D:Addr} {oC:Obj} (r:bZ τ' ys ws) (cd:C≠D) (oc:∀p∈G.X.own++G.X.far,p.1≠C) (od:∀p∈G.X.own++G.X.far,p.1≠D) (H:Hf G ⟨G.X.own,(C,oC)::(D,aL ws nD)::G.X.far⟩ fr τ' σ h) (hs:Heap.SameBut C h h'):∃τ2,τ'.le τ2∧RV τ2 (.ref σ.nx) (.ref D)∧Hf G G.X fr τ2 (σ.new (.list ys)) h':=by
 have a:∀p∈G.X.own++(D,aL ws nD)::G.X.far,p.1≠C:=λp hp=>by
  rcases W6.mp hp with hp|hp
  ·exact oc p (W3 _ hp)
  ·rcases WY.mp hp with rfl|hp
   ·exact cd.symm
   ·exact oc p (WW _ hp)
 exact(H.drop (q:=(C,oC)) a hs).adopt od r
theorem Dr (hc:κ.cm=none) (hs:∀env x,foldedSetIterable iter env x=pure x) (hb:i8 κ scope x=true) (s:av w κ iter m) (sb:jf w (κ.comp scope x) ifs elt b):av w κ (.ListComp elt [⟨.Name x px,iter,ifs,0⟩] scope pos) (bP m b):=by
 intro G τ σ h t K Q H m q;have j:=H.V.fnI hc;rw[j];refine Oy (lX H.V.1 hb) (λP ok=>Wp.go (Q:=λV h t=>Wp G.c (pyIter V) (λe h t=>Rc G.c (G.c.ev κ.sc) (.ListComp elt [⟨.Name x px,iter,ifs,0⟩] scope pos) scope P Q e h t) h t) ?_ λv h t y=>Wp.go y λe h t y=>y) (hs _);rw[←j];refine s G H m λU A N T S F a o p f=>?_;rw[j];exact sE (G:=G.cs) (p.cs hc) o f λs k I oI h St e E Hi g=>xZ (G:=G.cs) hb sb ok e E Hi g k.1 k.2 λC D h t r=>by
  obtain⟨oC,ws,nD,ys,L,O,B,d,X,J,l,cd,oc,W,R⟩:=r;refine(bv B l (λY n=>?_));refine ia (Ho.fin X cd oc W R n) λi u M z=>?_;exact aJ (c:=G.c) (q _ _ i _ Y t (a.trans (d.trans u)) M ⟨H.V.up (a.trans (d.trans u)),z.S,z.le⟩ J)
theorem xD {env:Env} (hb:jz scope env x=true):∃cl,df scope env cl:=by
 unfold jz at hb;rw[WU,WU,WU,WU,WU]at hb;obtain⟨⟨⟨⟨⟨d,_⟩,b⟩,f⟩,e⟩,c⟩:=hb;obtain⟨cl,a⟩:=Yo.mp c;exact⟨cl,a,W5 b,XJ d⟩
def mA (put:iO) (a:AE) (b:n4) (r:AS):AS:=λΦ fr σ K KE=>bP a b Φ fr σ (λv σ=>put v fr σ λfr σ=>r Φ fr σ K KE) KE
theorem AU {put:iO} {x2:Str} {px2:Pos} (hc:κ.cm=none) (ha:lh w κ (.Name x px) put) (hs:∀env x,foldedSetIterable iter env x=pure x) (hb:i8 κ scope x2=true) (hw:∀env,κ.sc=env.scope->swapsWith (.ListComp elt [⟨.Name x2 px2,iter,ifs,0⟩] scope pos) (some (.Name x px)) ppos.line env=pure true)
  (s:av w κ iter m) (sb:jf w (κ.comp scope x2) ifs elt b) (r:bq w κ rest ms):bq w κ (.Assign [.Name x px] (.ListComp elt [⟨.Name x2 px2,iter,ifs,0⟩] scope pos) ppos::rest) (mA put m b ms):=by
 intro G M τ σ h t K Q H m q;refine cf ?_;rw[exec_Assign_Name_used _ _ _ _ (hw _ rfl),arm_evalThenUse_ListComp];obtain⟨cl,e⟩:=xD (lX H.V.1 hb);refine WV (Yr (WV (WV (wpAny_comprehension_free (use:=some (assign (.Name x px) (G.c.ev κ.sc))) rfl (hs _) (dR e.cl) e.kd (λy hy hl=>gK e.nd hy hl) (Wp.go (s (G.at M) H m λa1 S a4 a5 a0 E B L z A=>sE (G:=G) (t:=E) (Q:=λi h t=>_) z L A λs k I oI h St i st Hi J=>?_) λv h t y=>Wp.go y λi h t y=>y)))));refine xZ hb sb e i st Hi J k.1 k.2 λC D h t rc=>?_;obtain⟨d,ws,X,ys,F,l,mm,n,rr,T,f,cd,W,P,N⟩:=rc;have a:∀p∈G.X.own++(C,d)::G.X.far,p.1≠D:=λp hp=>by
  rcases W6.mp hp with hp|hp
  ·exact P p (W3 _ hp)
  ·rcases WY.mp hp with rfl|hp
   ·exact cd
   ·exact P p (WW _ hp)
 have U:Hf G ⟨G.X.own,(D,aL ws X)::(C,d)::G.X.far⟩ M l F h:=N.sub λq hq=>by
  rcases WY.mp hq with rfl|hq
  ·exact .tail _ (.head _)
  ·rcases WY.mp hq with rfl|hq
   ·exact .head _
   ·exact .tail _ (.tail _ hq)
 refine ia (U.adopt a rr) λV j Y H2=>?_;refine Wp.to (c:=G.c) (ha.go (G.lay _ ⟨G.X.own,(C,d)::G.X.far⟩) (R:=λZ h t=>∃m,h.Ns C m∧∀O,Heap.SameBut C h O->_) (H2.lay hc _) Y T λa2 a3 h3 t3 dH dk=>?_) λZ Z Z y=>y;refine uz f λo es ep g x=>?_;rw[N.here]at g;obtain rfl:=jS g;refine(bv mm (uA _ es ep dH.unl.here x) (λO u=>W1 (W1 (aJ (c:=G.c) (r G (Hf.s hc (dH.unl.drop (q:=(C,d)) W u)) dk (q.pre ((B.trans n).trans j)))))))
def Hv:List (Option SV)->Sg->(List Nat->Sg->Prop)->Prop
 |[],σ,K=>K [] σ
 |v::r,σ,K=>Hv r (σ.new (.cell v)) λks σ'=>K (σ.nx::ks) σ'
theorem GY {env:Env} {X:Xs} {cn:List Str}:∀{sv:List (Option SV)} {Vv:List (Option Value)} {cs:bu} {τ:Tb} {σ:Sg} {l:bu} {K:List Nat->Sg->Prop},eZ env (cn.zip Vv) cs->cn.length=Vv.length->gO τ sv Vv->aD w τ σ X l->aY (cs++l)->Hv sv σ K->
  ∃τ' ks σ',τ.le τ'∧aD w τ' σ' X (cs++l)∧K ks σ'∧∀(i:Nat) (x:Str),cn[i]?=some x->∃k a d,ks[i]?=some k∧τ' k=some (a,d)∧cV env x a:=by
 induction cn with
 |nil=>
  intro sv Vv cs τ σ l K c f r R k m;cases Vv with
  |cons=>cases f
  |nil=>
   cases c;cases sv with
   |cons=>obtain⟨_,_,e,_⟩:=r;exact nNC e
   |nil=>exact(hH τ ([]) σ Tb.le.refl R m (λi x h=>by exact cZ h))
 |cons x cn ih=>
  intro sv Vv cs τ σ l K c f r R k m;cases Vv with
  |nil=>cases f
  |cons V Vv=>
   cases sv with
   |nil=>exact nCN r
   |cons v sv=>
    obtain⟨A,B,e,E,C⟩:=r;cases e;cases c with
    | @cons _ _ c o _ cs' h1 h2 h3=>
     have p:c∉(cs'++l).map (·.1)∧((cs'++l).map (·.1)).Nodup:=W2.mp k.nd;have g:c∉l.map (·.1):=λz=>p.1 (by rw[Xa];exact WW _ z);have j:(l.map (·.1)).Nodup:=by
      have:=p.2;rw[Xa]at this;exact(YS.mp this).2.1
     have n:=R.le_up (c,c);have t:aY (cs'++(c,o)::l):=k.sub (l:=(c,o)::cs'++l) λP=>by
      simp only[Xa,W4,X8,XD,List.cons_append];exact L6
     refine lq (ih h3 (ZC f) (C.up n) (R.new1 (D:=c) (ob:=o) (o:=.cell v) ⟨W2.mpr ⟨g,j⟩⟩ (kh V o (.head _) h2 (E.up n))) t m) λτ' ks σ' b u s F=>?_;refine(hH τ' (σ.nx::ks) σ' (n.trans b) (u.cong λq hq=>?_) s (λi y h=>?_))
     ·rcases W6.mp hq with hq|hq
      ·exact .tail _ (W3 _ hq)
      ·rcases WY.mp hq with rfl|hq
       ·exact .head _
       ·exact .tail _ (WW _ hq)
     ·cases i with
      |zero=>obtain rfl:=jS h;exact(nG σ.nx c c rfl (b _ _ (Xn rfl)) h1)
      |succ i=>exact F i y h
noncomputable def xy (ix:List (Option Nat)) (vs:List SV):List (Option SV):=ix.map λo=>o.bind λi=>vs[i]?
noncomputable def eN (ix:List (Option Nat)) (vs:List Value):List (Option Value):=ix.map λo=>o.bind λi=>vs[i]?
theorem yh {vs:List SV} {Vs:List Value} (r:bZ τ vs Vs) {ix:List (Option Nat)}:gO τ (xy ix vs) (eN ix Vs):=by
 induction ix with
 |nil=>exact rfl
 |cons o ix ih=>
  refine⟨_,_,rfl,?_,ih⟩;cases o with
  |none=>exact rfl
  |some i=>
   show RO τ (vs[i]?) (Vs[i]?);cases e:vs[i]? with
   |none=>
    have:=ZF.mp e;exact ZF.mpr (by rw[r.len];exact this)
   |some v=>exact r.get e
def fX (k:Nat) (dfl:List SV) (li ci:List (Option Nat)) (m:AS):(Nat->eO)->List SV->Sg->KV->KX->Prop:=λΦ args σ K KE=>(Nat.beq args.length k)=true∧Hv (xy ci (args++dfl)) σ λks σ=>m Φ ⟨xy li (args++dfl),ks,[]⟩ σ (bp K) KE
def BdC (κ:Ek) (f:FuncData) (li ci:List (Option Nat)) (avs all:List Value) (s:Shared):Prop:=
 ∃binds,BindsTo s f ⟨avs,[]⟩ binds∧(binds.all λy=>κ.sc.names.lookup y.1==some .local||κ.sc.names.lookup y.1==some .cell)=true∧(binds.filter λx=>κ.sc.names.lookup x.1==some .local)=bB κ.ns (eN li all)∧
  ((κ.cn.zip (eN ci all)).map λx=>bindC (λy=>κ.sc.names.lookup y) binds (λZ=>none) x.1)=(κ.cn.zip (eN ci all)).map (·.2)
theorem zZ {f:Addr} {Φ:Nat->eO} {body:List Stmt} {m:AS} {li ci:List (Option Nat)} {dfl:List SV} {dV:List Value} {name qual:Str} {params:Arguments} {dVl kV doc pm cdv ct oc:Value} {an od:Option Addr} {osl:Array (Option Value)}
  (hcd0:κ.cd=cdv) (hqn0:κ.qn=qual) (hcm:κ.cm=none) (hlm:κ.lm=false) (ho:(HK w.params).lookup f=some ⟨oc,od,.func (fnOf name qual params body κ.sc dVl kV doc pm an cdv ct),osl⟩)
  (hc:iy (HK w.params) κ.sc κ.ns κ.cn cdv qual=true) (hci:κ.cn.length=ci.length) (hd:∀τ,bZ τ dfl dV)
  (hb:∀(s:Shared) (avs:List Value),(HK w.params).In s.heap->avs.length=k->BdC κ (fnOf name qual params body κ.sc dVl kV doc pm an cdv ct) li ci avs (avs++dV) s)
  (hm:bq w κ body m) (P:ar w Φ n):aM w (n+1) (fX k dfl li ci m Φ) (.ref f):=by
 intro q Q h t τ σ X l z avs K KE rm C R U m xq v;have y:avs.length=k:=U.len.trans (W9 m.1);refine E14 (hb ⟨h,q.gn,q.d,t,q.os⟩ avs (show(HK w.params).In h from Cx.xs C) y) λJ b1 b2 b3 b4=>?_;refine mY (Ye R.ne) λb r N=>?_;obtain rfl:=N;have j:κ.cn.length=(eN ci (avs++dV)).length:=hci.trans (W0 _).symm;refine pW (b:=b) (W:=[]) (T:=[]) (I:=r) κ.ns (eN li (avs++dV)) (κ.cn.zip (eN ci (avs++dV))) rm C ho (by rw[(List.map_fst_zip (Yd j):(κ.cn.zip (eN ci (avs++dV))).map (·.1)=κ.cn)];exact hc) b1 b2 b3 b4 ?_;intro c u p S M L H O h' t' cs F H';have A:At c κ.ns (eN li (avs++dV)) (cs++b::r) h':=H'.sub λP=>by
  simp only[Lg,Xa,W4,ZS,X8,XD,Z9];lia
 have g:=bZ.app (hd τ) U;refine lq (GY F j (yh (ix:=ci) g) R A.k m.2) λD ks a0 o R' Y cc=>?_;exact hm ⟨c,Φ,n,τ,X,KE,P,⟨O,S.trans hcd0.symm,M.trans hqn0.symm⟩,λfr k B E e h1 t1 o ke G=>L _ _ _ (ni O G λh2 V=>H _ _ _ (xq k B E e h2 t1 o ke (by rw[u,p]at V;exact V)))⟩ (fr:=⟨xy li (z++dfl),ks,[]⟩) (τ:=D)
  ⟨.fn hcm (λi x h=>by
   refine oH (cc i x h) λk a d e1 e2 e3=>?_;exact(nG k a d e1 e2 (by rw[hlm];exact e3))),⟨c.g,_,_,.refl,A,(yh g).up o,R'⟩,o⟩ Y (QS.pre (qI rfl rfl u p v) o)
variable {e2:Expr} {es:List Expr} {m1 m2:AE} {ml:AL} {apos:Pos} {G:Cw w κ}
def GS (fI:Addr) (ml:AL):AE:=λΦ fr σ K KE=>ml Φ fr σ (λvs σ=>vs.length≤1000∧Φ 1 fI (.ref σ.nx::vs) (σ.new (.excF none)) (λv σ'=>v=.none∧K (.ref σ.nx) σ') KE) KE
theorem CA {fI:Addr} {vs:List SV} {Vs:List Value} {K:KV} {Q:Value->Heap->Nat->Prop} (H:Hs G τ σ h) (ra:bZ τ vs Vs)
  (hf:Nat.blt fI 10000=true) (hi:findIn (HK w.params) (.ref 438) "__init__"=some (some (.ref fI))) (hm:(d8 (HK w.params) 438&&isFn (HK w.params) (.ref fI))=true) (m:vs.length≤1000∧G.Φ 1 fI (.ref σ.nx::vs) (σ.new (.excF none)) (λv σ'=>v=.none∧K (.ref σ.nx) σ') G.KE)
  (q:QE G τ K Q):Wp G.c (call (.ref 438) Vs) Q h t:=by
 obtain⟨p,ws,l,S⟩:=H.S;have U:1≤G.n:=by
  rcases Nat.eq_zero_or_pos G.n with h|h
  ·exact absurd m.2 (G.P.no _ _ _ _ _ _ (by rw[h];decide))
  ·exact h
 obtain⟨L,en⟩:∃L,G.n=L+1:=⟨G.n - 1,by exact Z46 U⟩;have O:=G.O.turn S.T;have X:=G.P.ok 1 U fI hf;rw[en]at O X;refine mY (Ye S.R.ne) λb r J=>?_;obtain rfl:=J;refine bL p ?_;rw[WU]at hm;refine E4 (b:=b) (W:=[]) (T:=[]) (R:=r) S.A.F O.X S.A.N S.A.k hi (by rw[WU];exact hm) (by rw[ra.len];exact m.1) λx a B F' N' K'=>?_;have i:At (G.c.wg p) κ.ns ws ([(x,kR 438 none a),(a,cR Vs)]++(b::r)) B:=At.sub (l:=Lg b [] [] ((x,kR 438 none a)::(a,cR Vs)::r)) ⟨F',N',K'⟩ λP=>by
  simp only[Lg,Xa,W4,ZS,X8,XD,Z9];exact Y72
 have N:=i.k.nd;rw[Xa,YS]at N;have A:∀z,z∈[(x,kR 438 none a),(a,cR Vs)].map (·.1)->z∉(b::r).map (·.1):=λz hz D=>N.2.2 z hz z D rfl;have j:=S.R.le_up (x,x);have z:Co {G.c.wg p with A0:=(G.c.wg p).A.under (.builtin "type.__call__" ⟨.ref 438::Vs,[]⟩),outer:=(G.c.wg p).ev κ.sc::(G.c.wg p).outer,g:=hideAll B (([(x,kR 438 none a),(a,cR Vs)]++(b::r)).map (·.1))} (.ref fI) (.ref x::Vs) (λV I F=>V=.none∧Q (.ref x) I F) B t:=
  X _ _ B t (τ.up σ.nx (x,x)) (σ.new (.excF none)) G.X _ (.ref σ.nx::vs) (.ref x::Vs) _ G.KE (O.rm.make (Xy _)) (yo (C:=438) (vals:=Vs) (kw:=[]) O.XB O.TB O.B i.F i.N i.k O.G) (S.R.new (x:=x) (d:=x) (n:=[(x,kR 438 none a),(a,cR Vs)]) (o:=.excF none) (A x (.head _)) (A x (.head _)) (.head _) (.head _) ⟨a,.head _⟩) ⟨_,_,rfl,⟨x,x,rfl,Xn rfl⟩,ra.up j⟩ m.2
   (λk s u e Y M f ke fl=>G.E _ _ _ _ _ _ ((H.le.trans j).trans f) ke (.call S.T i (S.L.up (j.trans f)) fl))
   λv s u V Y M g1 l1 f rv kt ex R1 E=>by
    obtain⟨rfl,E⟩:=E;obtain rfl:=rv;refine ia (HE O i kt ex) λg2 T2 O2 A2=>?_;exact⟨rfl,q (.ref σ.nx) s u (.ref x) Y M (j.trans f) ⟨_,_,rfl,f _ _ (Xn rfl)⟩ (H.go (j.trans f) ⟨S.T.trans T2,A2,S.L.up (j.trans f),R1⟩) E⟩
 refine YZ z λr s' y=>?_;rcases r with e|(v|_|_|_)
 ·exact y
 ·exact y
 ·exact y
 ·exact y
 ·obtain⟨h2,t2,rfl,rfl,y⟩:=y
  exact⟨rfl,aJ (c:=G.c) y⟩
theorem OL {fI:Addr} (hf:Nat.blt fI 10000=true) (ev:nsIn (HK w.params) mainGlobals x=some (some (.ref 438))) (hx:bA κ x=true) (hk:(keepIn (HK w.params) (.ref 438)&&(e::es).all bg)=true) (hi:findIn (HK w.params) (.ref 438) "__init__"=some (some (.ref fI))) (hm:(d8 (HK w.params) 438&&isFn (HK w.params) (.ref fI))=true)
  (s:em w κ (e::es) ml):av w κ (.Call (.Name x px) (e::es) [] pos) (GS fI ml):=by
 intro G r u h t K Q H m q;obtain⟨d,p,l,S⟩:=H.S;exact bL d (Ft (G.O.turn S.T) S.A ev (by rw[WU];exact⟨bV H.V hx,hk⟩) ey (yR d (s G H m λo g j n k i c f a b=>HC d a (CA a f hf hi hm b (q.pre c)))))
def jW:de:=λvs σ K=>two vs λx Z=>bF x λk=>bN σ k λo=>kD o λd=>d=none∧K .none (σ.set k (.excF none))
theorem vC:eU (HK w.params) 438=true:=by kernel_rfl
theorem G8:ft w (.builtin "ValueError.__init__") jW:=by
 intro O G n F h t K vs J Q H r m q;obtain⟨x,y,A,B,rfl,ra,rb,m⟩:=jG m r;obtain⟨k,rfl,o,hob,p⟩:=bh m;obtain⟨d,rfl,rfl,p2⟩:=kA p;obtain⟨g,I,l,S⟩:=H.S;obtain⟨b,M,rfl,hk,a,h1⟩:=S.R.get ra hob;refine ia (dn h1) λi D C P=>?_;refine bL g (R7 (od:=none) (old:=.ref a) (kO (c:=G.c.wg g) (G.O.turn S.T) S.A) ⟨(S.A.N _ h1).1,rfl,rfl,trivial⟩ rfl rfl vC λL N s f u=>aJ (c:=G.c) ?_);have j:aD w n F G.X ((b,kR 438 none a)::(h.objs.size,cR [B])::i):=(S.R.cong D).cong λq hq=>by
  rcases WY.mp hq with rfl|hq
  ·exact .head _
  ·exact .tail _ (.tail _ hq)
 exact Hs.re (v:=.none) ⟨H.V,⟨_,_,_,S.T,(S.A.sub C).chg2 (o':=kR 438 none h.objs.size) s f u,S.L,j.chg (a:=b) (l':=(b,kR 438 none h.objs.size)::(h.objs.size,cR [B])::i) (o:=.excF none) hob hk (.inl rfl) (λq hq E=>.tail _ ((WY.mp hq).resolve_left λe=>E (e▸rfl))) (λZ z=>z) ⟨_,.head _⟩⟩,H.le⟩ rfl p2 q _
theorem RN {o:Expr} (hn:o=.Name "ValueError" px) (hb:∀env y,attributeBase o "__init__" env y=y) (ev:nsIn (HK w.params) mainGlobals "ValueError"=some none) (hx:bA κ "ValueError"=true) (hk:(e::es).all bg=true) (hl:(Nat.blt (e::es).length 30&&(apos.endLine==pos.line))=true)
  (s:em w κ (e::es) ml):av w κ (.Call (.Attribute o "__init__" apos) (e::es) [] pos) (bH jW ml):=by
 intro G u v h t K Q H m q;subst hn;obtain⟨j,r,l,S⟩:=H.S;refine ii hb hk hl λx=>bL j (vp (G.O.turn S.T) S.A ev (by kernel_rfl:bootBuiltins "ValueError"=some (.type "ValueError")) (bV H.V hx) (un (G.O.turn S.T) S.A _ (yw hk (s G H m λp f i n k g b c d a=>G8 G d c a (q.pre b)))))
def nu (a:AE):AS:=λΦ fr σ Z KE=>a Φ fr σ (λv σ=>bF v λk=>bN σ k λo=>kD o λd=>bX d λkd=>KE k (σ.set k (.exc kd))) KE
theorem qa:(eU (HK w.params) 438&&typeIn (HK w.params) (.ref 438)==some (.type "type"))=true:=by kernel_rfl
theorem wH (s:av w κ e m):bq w κ (.Raise (some e) none pos::rest) (nu m):=by
 intro G b I L h t K Q H m q;refine cf (BH (K:=HK w.params) G.O.hh (Wp.go (s (G.at b) (Q:=λv h t=>∃x C ox od vs,v=.ref x∧(HK w.params).In h∧InstAt h x ox C od∧ox.data=.fields vs∧vs[1]?=some .none∧(eU (HK w.params) C&&typeIn (HK w.params) (.ref C)==some (.type "type"))=true∧G.c.E (.ref x) ⟨h,G.c.gn,G.c.d,t,G.c.os⟩) H m λv i r V M E B n H1 k=>?_) λv h t y=>y));obtain⟨k,rfl,o,hob,p⟩:=bh k;obtain⟨d,rfl,kd,rfl,p2⟩:=kA p;obtain⟨u,F,l,S⟩:=H1.S;obtain⟨A,J,rfl,hk,a,D,z,hkd,hx⟩:=S.R.get n hob;refine bn (Xb.mp (S.R.inl _ _ hkd).1) λp g j=>?_;have f:=(S.A.N _ g).1;rw[j]at f;exact(V4 A 438 _ (some p.2) _ rfl (kO (c:=G.c.wg u) (G.O.turn S.T) S.A) ⟨(S.A.N _ hx).1,rfl,rfl,f⟩ rfl rfl ⟨qa,G.E b _ _ _ _ _ _ H1.le p2 (.fresh S hk hob hkd hx rfl)⟩)
def lF (a:AE):AE:=λΦ fr σ K KE=>a Φ fr σ (λv σ=>cj v λz=>z.length≤50000∧K (.str z) σ) KE
theorem OS (s:av w κ e m):av w κ (.FormattedValue e (-1) none pos) (lF m):=λG y A h t K Q H m q=>IE (s G H m λo g j n l i b c d a=>by
 obtain⟨z,x,p,k⟩:=b0 a;have f:=c;rw[x]at f;obtain⟨u,r⟩:=f;rw[r];exact AR p λu t=>d.re (v:=.str z) ⟨u,rfl⟩ k (q.pre b) t)
def fc:List AE->Str->AE
 |[],out=>λZ Z σ K Z=>out.length≤50000∧K (.str out) σ
 |a::r,out=>λΦ fr σ K KE=>a Φ fr σ (λv σ=>cj v λy=>(out++y).length≤50000∧fc r (out++y) Φ fr σ K KE) KE
theorem Sj {ms:List AE} (s:iU w κ es ms):∀(out:Str) (G:Cw w κ) {τ σ h t K} {Q:Value->Heap->Nat->Prop},Hs G τ σ h->fc ms out G.Φ G.fr σ K G.KE->QE G τ K Q->Wp G.c (joinParts out (evalEach es G.env)) Q h t:=by
 induction s with
 |nil=>intro out G τ σ h t K Q H m q;exact Gn (t:=t) m.1 (H.re (v:=.str out) ⟨_,rfl⟩ m.2 q _)
 |cons h r ih=>
  intro out G τ σ y t K Q H m q;refine vO (h G H m λn f i l j g b c d a=>?_);obtain⟨z,x,o,k⟩:=b0 a;have e:=c;rw[x]at e;obtain⟨u,p⟩:=e;exact(kh z u p o (ih _ G d k (q.pre b)))
theorem FW {ms:List AE} (s:iU w κ (e1::e2::es) ms):av w κ (.JoinedStr (e1::e2::es) pos) (fc ms Str.empty):=λG Z Z Z Z Z Z H m q=>Dq (Sj s Str.empty G H m q)
def y6 (o:SO) (K:Addr->List ((Nat×Nat)×Nat)->Prop):Prop:=match o with
 |.ctab P es=>K P es
 |_=>False
def ph (o:SO) (K:Nat->List Nat->Nat->Prop):Prop:=match o with
 |.clo L cs kc=>K L cs kc
 |_=>False
def nk (o:SO) (K:Str->Prop):Prop:=match o with
 |.code q=>K q
 |_=>False
variable {o:SO}
theorem D5 {K:Addr->List ((Nat×Nat)×Nat)->Prop} (h:y6 o K):∃P es,o=.ctab P es∧K P es:=by cases o<;>first|exact(uu _ _ rfl h)|exact h.elim
theorem sO {K:Nat->List Nat->Nat->Prop} (h:ph o K):∃L cs kc,o=.clo L cs kc∧K L cs kc:=by cases o<;>first|exact(uA _ _ _ rfl h)|exact h.elim
theorem uK {K:Str->Prop} (h:nk o K):∃q,o=.code q∧K q:=by cases o<;>first|exact(bv _ rfl h)|exact h.elim
noncomputable def fA (es:List ((Nat×Nat)×Nat)) (ln col:Nat):Option ((Nat×Nat)×Nat):=es.find? λp=>Nat.beq p.1.1 ln&&Nat.beq p.1.2 col
variable {es:List ((Nat×Nat)×Nat)}
theorem n8:∀{ps:List Value},jh τ es ps->TriplesOk ps:=by
 induction es with
 |nil=>intro ps h;obtain rfl:=h;trivial
 |cons p r ih=>rintro ps ⟨a,b,c,e,d,rfl,h2,h3⟩;show TriplesOk d;exact ih h3
theorem ul:∀{ps:List Value},jh τ es ps->(fA es pos.line pos.col=none->codeAmong pos ps=none)∧∀p,fA es pos.line pos.col=some p->∃c e,codeAmong pos ps=some (.ref c)∧τ p.2=some (c,e):=by
 induction es with
 |nil=>intro ps h;obtain rfl:=h;exact⟨λZ=>rfl,λp h=>by exact cZ h⟩
 |cons p r ih=>
  rintro ps ⟨a,b,c,e,d,rfl,h2,h3⟩;have g:codeAmong pos (.int p.1.1 a:: .int p.1.2 b:: .ref c::d)=if((p.1.1:Int)==pos.line&&(p.1.2:Int)==pos.col)=true then some (.ref c)else codeAmong pos d:=rfl
  have f:((p.1.1:Int)==pos.line&&(p.1.2:Int)==pos.col)=(Nat.beq p.1.1 pos.line&&Nat.beq p.1.2 pos.col):=by
   have k:∀x y:Nat,((x:Int)==y)=Nat.beq x y:=λx y=>by
    cases h:Nat.beq x y with
    |true=>rw[W9 h];simp
    |false=>exact beq_eq_false_iff_ne.mpr λe=>by rw[Int.ofNat.inj e,ZR]at h;exact kB h
   rw[k,k]
  rw[g,f];unfold fA;rw[Yy];cases hb:Nat.beq p.1.1 pos.line&&Nat.beq p.1.2 pos.col with
  |true=>
   refine⟨λh=>absurd (show some p=none from h) (by trivial),λq h=>?_⟩;cases W7 (show some p=some q from h);exact(uu c e (Xn rfl) h2)
  |false=>rw[Xh XE];exact(ih h3)
theorem vj {k c e:Nat} {ln col:Nat} (hk:τ k=some (c,e)):∀{ps:List Value},jh τ es ps->jh τ (es++[((ln,col),k)]) (ps++[.int ln 0,.int col 0,.ref c]):=by
 induction es with
 |nil=>intro ps h;obtain rfl:=h;exact(Eg 0 0 c e ([]) rfl hk rfl)
 |cons p r ih=>rintro ps ⟨a,b,f,g,d,rfl,h2,h3⟩;exact(Eg a b f g _ rfl h2 (ih h3))
noncomputable def vU (κ:Ek) (L:Qp) (ix:List Nat):Bool:=decide (L.scope.names.map (·.1)).Nodup&&L.scope.names.all (λy=>y.2 != .free||κ.cn.contains y.1)&&L.cn.all (λy=>L.scope.names.lookup y==some .free)&&(ix.map λi=>κ.cn[i]?)==L.cn.map some
@[irreducible] noncomputable def g8 (σ:Sg) (j:Nat) (q:Str) (kT:Nat) (P:Addr) (cs:List Nat) (ln col:Nat) (K:SV->Sg->Prop):Prop:=bN σ kT λo=>y6 o λP' es=>P'=P∧match fA es ln col with
 |some p=>K (.ref σ.nx) (σ.new (.clo j cs p.2))
 |none=>K (.ref (σ.nx+1)) (((σ.new (.code q)).set kT (.ctab P (es++[((ln,col),σ.nx)]))).new (.clo j cs σ.nx))
def lP (j:Nat) (q:Str) (kT:Nat) (P:Addr) (ix:List Nat) (ln col:Nat):AE:=λZ fr σ K Z=>g8 σ j q kT P (ix.map λi=>fr.cel.getD i 0) ln col K
variable {c:Cf w}
theorem Xe4 {L:Qp} {ix:List Nat} (ce:gF c κ fr τ) (hl:κ.lm=false) (h:vU κ L ix=true):∃clos,closureFor L.scope (c.ev κ.sc)=pure clos∧JE τ L.cn (ix.map λi=>fr.cel.getD i 0) clos:=by
 unfold vU at h;rw[WU,WU,WU,XZ,Xu]at h;obtain⟨⟨⟨w,p⟩,r⟩,t⟩:=h;have u:(eK (c.ev κ.sc).cells L.scope.names []).isSome=true:=iW λy f v=>by
  have z:=WZ.mp p y f;rw[v]at z;obtain⟨i,q,e⟩:=List.getElem_of_mem (XU.mp z);refine oH (ce i y.1 (by rw[Xf q,e])) λk a d m n g=>?_;rw[g.at_];rfl
 obtain⟨clos,b⟩:=Yo.mp u;refine(bv clos (dR b) (λi y f=>?_));have l:(ix.map λi=>κ.cn[i]?)[i]?=some (some y):=by rw[t,Xd,f];rfl
 rw[Xd]at l;refine bn (W8.mp l) λj s o=>?_;refine oH (ce j y o) λk a d m n g=>?_;refine(nG k a d ?_ n (((cL b w).2 (by simpa using (WZ.mp r y (X0 f)))).trans g.at_));rw[Xd,s];show some (fr.cel.getD j 0)=some k;rw[YX,m];rfl
variable {X:Xs} {l:bu}
theorem ME {kT:Nat} {P:Addr} (R:aD w τ σ X l) (h:σ.ob kT=some (.ctab P es)):∃d ps,τ kT=some (P,d)∧(P,tabObj ps)∈l∧jh τ es ps.toList:=by
 obtain⟨x,d,e,a,ps,c,b⟩:=R.ob _ _ h;subst a;exact(kh d ps e c b)
theorem Mx (j:Nat) {L:Qp} (hL:aT j=L) {kT:Nat} {P cA:Addr} {ix:List Nat} (hc:κ.cm=none) (hl:κ.lm=false) (hb:vU κ L ix=true) (hq:(κ.qn++".<locals>.")++"<lambda>"=L.qual) (hd:∀env,defaultsOf L.params env=([],[])) (hcd:κ.cd=.ref cA) (hC:∀h:Heap,(HK w.params).In h->CodeHd h cA P):
  av w κ (.Lambda L.params L.body L.scope pos) (lP j L.qual kT P ix pos.line pos.col):=by
 intro G τ F h t K Q H m q;subst hL;rw[H.V.fnI hc];obtain⟨N,vs,l,S⟩:=H.S;change g8 F j _ kT P _ _ _ K at m;unfold g8 at m;obtain⟨o,R,m⟩:=m;obtain⟨n,es,rfl,rfl,m⟩:=D5 m;refine jv (ME S.R R) λdT I U hm O=>?_;refine bn (Xe4 H.V.1 hl hb) λx M cr=>?_;have T:(G.c.ev κ.sc).qual++"<lambda>"=(aT j).qual:=by
  rw[←hq,←G.O.Y.2]
 refine bL N (kla_eval (hd _) ?_);rw[T];cases ef:fA es pos.line pos.col with
 |some p=>
  rw[ef]at m;refine gS ((ul O).2 p ef) λb e V W=>?_;refine kla_hit (s:=⟨h,G.c.gn,G.c.d,t,G.c.os⟩) S.A.F S.A.N (G.O.turn S.T).T (hC _ (G.O.turn S.T).X:CodeHd N cA n) (G.O.Y.1.trans hcd:(G.c.wg N).cd=.ref cA) hm (n8 O) V M λf E h' tk F' X C=>aJ (c:=G.c) ?_;exact dN H S ⟨F',X,S.A.k.cons C⟩ (o:=.clo j _ p.2) (Eg x _ E b e (.head _) (S.R.le_up _ _ _ W) (λi y Y=>by
   refine oH (cr i y Y) λk a d e1 e2 e3=>?_;exact(nG k a d e1 (S.R.le_up _ _ _ e2) e3))) m q _
 |none=>
  rw[ef]at m;refine ia (dn hm) λr m1 m2 m3=>?_;have A:=S.A.sub m2;refine kla_nest (s:=⟨h,G.c.gn,G.c.d,t,G.c.os⟩) A.F A.N (G.O.turn S.T).T (hC _ (G.O.turn S.T).X:CodeHd N cA n) (G.O.Y.1.trans hcd:(G.c.wg N).cd=.ref cA) (.head A.k.off) (n8 O) ((ul O).1 ef) M λf b J ws u E h' tk F' X a1 a0 a2 B=>aJ (c:=G.c) ?_;have C:∀q∈(n,tabObj I)::r,q.1<b:=a2;have g:=S.R.le_up (b,b);have R2:=((S.R.cong m1).new1 (D:=b) (ob:=J) (o:=.code (aT j).qual) (A.k.cons (d:=b) (o:=J) C) (nG J ws u (.head _) a1 a0)).chg (a:=n) (l':=(b,J)::(n,tabObj (I++ #[rawInt pos.line,rawInt pos.col,.ref b]))::r) (o:=.ctab n (es++[((pos.line,pos.col),F.nx)])) (ae R) (g _ _ U:(τ.up F.nx (b,b)) kT=some (n,dT)) (.inl rfl) (λq hq ne=>by
    rcases WY.mp hq with rfl|hq
    ·exact .head _
    ·exact .tail _ (.tail _ ((WY.mp hq).resolve_left λe=>ne (e▸rfl)))) (λZ z=>z) ⟨rfl,_,.tail _ (.head _),by
     have:=vj (τ:=τ.up F.nx (b,b)) (k:=F.nx) (c:=b) (e:=b) (ln:=pos.line) (col:=pos.col) (Xn rfl) (O.up g);rw[Array.toList_append];exact this⟩
  have k2:∀ob:Obj,aY ((f,ob)::(b,J)::(n,tabObj (I++ #[rawInt pos.line,rawInt pos.col,.ref b]))::r):=λob=>((⟨A.k.nd⟩:aY ((n,tabObj (I++ #[rawInt pos.line,rawInt pos.col,.ref b]))::r)).cons (d:=b) (o:=J) λq hq=>by
    rcases WY.mp hq with rfl|hq
    ·exact(C (n,tabObj I) (.head _):n<b)
    ·exact C _ (.tail _ hq)).cons λq hq=>by
    rcases WY.mp hq with rfl|hq
    ·exact B
    ·rcases WY.mp hq with rfl|hq
     ·exact ZB (C (n,tabObj I) (.head _):n<b) B
     ·exact ZB (C _ (.tail _ hq)) B
  have v:=R2.le_up (f,f);exact q (.ref (F.nx+1)) _ _ (.ref f) h' tk (g.trans v) ⟨f,f,rfl,Xn rfl⟩ (H.go (g.trans v) ⟨S.T,⟨F',X,k2 _⟩,S.L.up (g.trans v),R2.new1 (D:=f) (o:=.clo j (ix.map λi=>G.fr.cel.getD i 0) F.nx) (k2 _) (Eg x _ E b b (.head _) (v _ _ (Xn rfl)) (λi y Y=>(cr i y Y).imp λk z=>z.imp λa z=>z.imp λd z=>(eQ z.1 (v _ _ (g _ _ z.2.1)) z.2.2)))⟩) m
def xC (i:Nat):AE:=λΦ fr σ K KE=>bX (fr.loc[i]?) λv=>bX v λv=>bF v λk=>bN σ k λo=>ph o λj Z Z=>Φ 0 (10000+j) [.ref k] σ K KE
theorem QK (i:Nat) (hx:κ.ns[i]?=some x) (hc:κ.cm=none):av w κ (.Call (.Name x px) [] [] pos) (xC i):=by
 intro G u z h t K Q H m q;rw[H.V.fnI hc];obtain⟨f,vs,l,S⟩:=H.S;obtain⟨v,c,r,g,p⟩:=m;subst g;obtain⟨k,rfl,o,hob,p⟩:=bh p;refine uz (sO p) λj n A a p=>?_;obtain rfl:=a;refine bn (S.L.slot hx c) λX s b=>?_;refine bL f (gJ ey (L8 (G.O.turn S.T) S.A s ?_));obtain⟨y,d,rfl,hk,clos,pm,ctv,c',e,h1,_⟩:=S.R.get b hob;exact callWith_F0 (s:=⟨h,G.c.gn,G.c.d,_,G.c.os⟩) (V7 _ _ _ _ ((S.A.N _ h1).1)) (OB H b p q)
def ny (j:Nat) (m:AE):(Nat->eO)->List SV->Sg->KV->KX->Prop:=λΦ args σ K KE=>one args λv=>bF v λk=>bN σ k λo=>ph o λj' cs kc=>j'=j∧bN σ kc λo=>nk o λq=>q=(aT j).qual∧m Φ ⟨[],cs,[]⟩ σ K KE
noncomputable def nV (j:Nat) (cd:Value):Ek:=⟨(aT j).scope,[],(aT j).cn,none,true,cd,(aT j).qual⟩
variable {Φ:Nat->eO}
theorem G2 {j n:Nat} (P:ar w Φ n) (hc:i6 (aT j).scope=true) (hk:((aT j).scope.kind== .function&&(aT j).cn.all λy=>(aT j).scope.names.lookup y==some .free&& !(y==("__classdict__":Str)))=true)
  (hb:∀clos pm c' ctv,bindArgs (kla_fn "<lambda>" (aT j).qual (aT j).params (aT j).body (aT j).scope clos pm (.ref c') ctv) ⟨[],[]⟩=pure []) (hm:∀cd,av w (nV j cd) (aT j).body m):jo w (n+1) (ny j m Φ):=by
 intro q Q h t τ σ X l k V K KE rm C R rv p xq s;obtain⟨k',ek,o,a6,p⟩:=bh (x:=.ref k) (K:=λk=>bN σ k λo=>ph o λb F kc=>b=j∧bN σ kc λo=>nk o λq=>q=(aT j).qual∧m Φ ⟨[],F,[]⟩ σ K KE) p;cases ek;refine oH (sO p) λb F kc G a5 a2=>?_;obtain rfl:=G;obtain rfl:=a5;obtain⟨o2,B,p⟩:=a2;refine ia (uK p) λq1 I a4 p2=>?_;obtain rfl:=I;obtain rfl:=a4;obtain⟨y,d,rfl,hk1,clos,pm,ctv,c',e,h1,hkc,cr⟩:=R.get rv a6;obtain⟨x2,d2,e2,oc,vs,u,N,M,L⟩:=R.ob _ _ B;cases hkc.symm.trans e2;refine rR rm C h1 (Tu _ _ vs u rfl ((C.led _ N).1) M L) hc (hb _ _ _ _) λc E D H a0 Y W a3 O h' t' A=>?_;rw[WU,Xu]at hk;have r:((aT b).scope.names.all λx=> !(x.2== .cell))=true:=by
  unfold i6 at hc;rw[WU]at hc;exact hc.2
 have ce:gF c (nV b (.ref c')) ⟨[],F,[]⟩ τ:=λi x hx=>by
  refine oH (cr i x hx) λk a d e1 e2 e3=>?_;have z:=WZ.mp hk.2 x (X0 hx);rw[WU,Xu,Xj]at z;refine(nG k a d e1 e2 (⟨z.1,?_,hk.1,z.2⟩:nB (c.ev (aT b).scope) x a));show(cellsFrom (c.L+1) (aT b).scope.names c.cl).lookup x=some a;rw[fh (n:=0) r,H];exact e3
 refine hm (.ref c') ⟨c,Φ,n,c.ev (aT b).scope,⟨[],F,[]⟩,τ,X,KE,P,⟨O,a0,Y⟩,λk g f e h1 t1 J ke a1=>W _ _ _ (ni (κ:=nV b (.ref c')) O a1 λN fq=>a3 _ _ _ (xq k g f e N t1 J ke (by rw[E,D]at fq;exact fq)))⟩ (τ:=τ) (σ:=σ) (K:=K)
  ⟨⟨ce,rfl⟩,⟨c.g,_,l,.refl,A,rfl,R⟩,Tb.le.refl⟩ p2 λv g f V1 h3 t3 J U H1 kk=>?_
 obtain⟨g2,a7,l2,S⟩:=H1.S;have T:KtsTurn (eq c.outer) c.g g2:=S.T;rw[D,E]at T;exact s v g f V1 h3 t3 g2 l2 J U T (l5 S.A.F S.A.N S.A.k) S.R kk
def xK (F:(Nat->eO)->eO):Nat->Nat->eO
 |0,_=>λZ Z Z Z Z=>False
 |n+1,j=>match j with
  |0=>F (xK F n)
  |j+1=>xK F n j
theorem Bj {F:(Nat->eO)->eO} (hF:∀n Φ,ar w Φ n->(∀f,Nat.blt f 10000=true->aM w (n+1) (F Φ f) (.ref f))∧∀j,jo w (n+1) (F Φ (10000+j))) (n:Nat):ar w (xK F n) n:=by
 induction n with
 |zero=>exact⟨λj Z f Z q Q h t g c X l a i K b Z Z Z Z m=>m.elim,λj q Q h t g c X l k V K b Z Z Z Z m=>m.elim,λj f a c K b Z m=>m⟩
 |succ n ih=>
  refine⟨λj d f e=>?_,(hF n _ ih).2,λj f a c K b d m=>?_⟩
  ·cases j with
   |zero=>exact(hF n _ ih).1 f e
   |succ j=>
    have:=ih.ok j (Nat.le_of_succ_le_succ d) f e;rw[Nat.succ_sub_succ];exact this
  ·cases j with
   |zero=>exact absurd d (ZU _)
   |succ j=>exact ih.no j f a c K b (ZQ d) m
def fQ:AS:=λZ Z Z Z Z=>False
theorem yM {ss:List Stmt}:bq w κ ss fQ:=λZ Z Z Z Z Z Z Z Z m=>m.elim
variable {α:Type}
theorem uC (p:Nat->Bool) {a b:Nat} (hp:∀k,p k=true↔a≤k∧k<b) (hab:a≤b) (xs:List α):∀n,(xs.zipIdx n).filterMap (λq=>if p q.2=true then none else some q.1)=xs.take (a - n)++xs.drop (b - n):=by
 induction xs with
 |nil=>intro n;simp
 |cons x xs ih=>
  intro n;rw[List.zipIdx_cons,List.filterMap_cons,ih (n+1)];by_cases h:p n=true
  ·have z:=(hp n).mp h
   rw[Xn h];have d:a - n=0:=by exact Z50 z.1
   have e:b - n=(b - (n+1))+1:=by exact Z49 z.2
   have f:a - (n+1)=0:=by exact Z51 z.1
   rw[d,e,f];rfl
  ·rw[Xh h]
   by_cases hn:n<a
   ·have d:a - n=(a - (n+1))+1:=by exact Z49 hn
    have e:b - n=(b - (n+1))+1:=by lia
    rw[d,e];rfl
   ·have c:b≤n:=by
     apply Zk;intro c;exact h ((hp n).mpr ⟨Zk hn,c⟩)
    have f:a - (n+1)=0:=by exact Z54 hn
    have g:b - (n+1)=0:=by exact Z51 c
    rw[(by exact Z55 hn:a - n=0),(by exact Z50 c:b - n=0),f,g];rfl
variable {A:Around} {s:Shared}
theorem Bw {l sl:Addr} {ws:List Value} {n a b:Nat} {t u:Tok} {Q:Value->Shared->Prop} (hl:s.heap.get? l=some (aL ws n)) (hs:s.heap.IsSliceOf sl (.int a t) (.int b u) .none) (hab:a≤b) (hb:b≤ws.length) (hz:ws.length≤1000000)
  (h:∀F:Array Value->Array Value,F ws.toArray=(ws.take a++ws.drop b).toArray->Q .none {s with heap:=s.heap.update l (Obj.mapSeq F)}):wpAny (model PP w) A (call (.builtin "list.__delitem__") [.ref l,.ref sl]) Q E s:=by
 refine ia (id hs) λg c f d=>?_;refine Zm ZG (bv _ hl rfl) PySem.F.entry_list_delitem ?_ (PySem.F.args_list_delitem_2 _ _);show wpAny _ _ (Builtin.List.listSubscript? (.ref sl)>>=_) _ _ s;refine WV ?_;refine WV (wpAny_specialOf ((bv g c f):s.TypeIs (.ref sl) "slice") slice_no_index ?_);refine W1 ?_;refine WV (wpAny_typeOf ((bv g c f):s.TypeIs (.ref sl) "slice") ?_);rw[Xh (by decide)];rw[listSliceParts_eq];refine WV (WV (YJ c d (x:=.none) rfl (WV (Z6 .none ?_))));rw[Xh (show¬((rawPart none==rawInt 0)=true) from XE)];refine WV (YJ c d (x:=.int a t) rfl (WV (Z6 (.int _ _) ?_)));refine WV (YJ c d (x:=.int b u) rfl (WV (Z6 (.int _ _) (W1 ?_))));refine WV (m:=Builtin.List.listItems (.ref l)) ?_;refine WV (wpAny_seqItems hl rfl (W1 ?_));refine WV (wpAny_of_eq (sliceIndices_raw (some (a:Int)) (some (b:Int)) none ws.toArray.size (by trivial)) ?_);have j:sliceBounds (some (a:Int)) (some (b:Int)) none ws.toArray.size=((a:Int),(b:Int),1):=by
  simp only[sliceBounds,Option.getD_none,Xq];have r:¬((a:Int)<0):=by exact FM
  have o:¬((b:Int)<0):=by exact FM
  simp only[r,o,Yu,show(1:Int)>0 by decide,ZO];congr 1
  ·lia
  ·congr 1;lia
 rw[j];have e:∀(p:Nat->Bool),(∀k,p k=(decide ((a:Int)≤(k:Int))&&decide ((k:Int)<(b:Int))&&(((k:Int) - (a:Int)) % 1==0)))->(ws.toArray.toList.zipIdx.filterMap λq=>if p q.2=true then none else some q.1).toArray=(ws.take a++ws.drop b).toArray:=λp i=>by
  congr 1;refine(uC p (λk=>?_) hab ws 0).trans (by rw[Nat.sub_zero,Nat.sub_zero]);rw[i,WU,WU,XZ,XZ,Int.emod_one];exact⟨λz=>⟨YK.mp z.1.1,YY.mp z.1.2⟩,λz=>⟨⟨YK.mpr z.1,YY.mpr z.2⟩,rfl⟩⟩
 refine WV (wpAny_rule (WV (wpAny_updateSeq hl rfl (WV (wpAny_letGo (W1 (bv _ rfl (h _ (e _ λk=>rfl)))))) ?_ ?_)))
 ·rw[XI,Xq];exact Z1 hz
 ·refine WX (Yd (Yi Array.size (e _ λk=>rfl))) ?_
  rw[Xq,Yb,YH,Y2,XI];lia
variable {o lo hi:Expr} {mo ma mb:AE} {p2 p3:Pos}
def Ih (σ:Sg) (v a b:SV) (K:Sg->Prop):Prop:=bF v λk=>bN σ k λo=>cP o λxs=>aR a λx=>aR b λy=>(0≤x∧x≤y∧y.toNat≤xs.length∧xs.length≤1000000)∧K (σ.set k (.list (xs.take x.toNat++xs.drop y.toNat)))
def wY (o a b:AE) (r:AS):AS:=λΦ fr σ K KE=>o Φ fr σ (λv σ=>a Φ fr σ (λx σ=>b Φ fr σ (λy σ=>Ih σ v x y λσ=>r Φ fr σ K KE) KE) KE) KE
theorem JY {σ:Sg} {h:Heap} {t:Nat} {v a b:SV} {V A B:Value} {K:Sg->Prop} {R:Unit->Heap->Nat->Prop} (H:Hs G τ σ h) (rv:RV τ v V) (ra:RV τ a A) (rb:RV τ b B) (m:Ih σ v a b K) (q:∀σ τ' h t,τ.le τ'->Hs G τ' σ h->K σ->R () h t):
  Wp G.c (delItem V (.ref h.objs.size)) R (h.push {cls:=.type "slice",data:=.fields #[A,B,.none]}) t:=by
 obtain⟨k,rfl,o,hob,p1⟩:=bh m;obtain⟨p,rfl,p2⟩:=cq p1;obtain⟨x,y,u,v,rfl,rfl,hz,p3⟩:=bR ra rb p2;obtain⟨x,rfl⟩:=XM hz.1;obtain⟨y,rfl⟩:=XM (Xl hz.1 hz.2.1);obtain⟨D,vs,l,S⟩:=H.S;obtain⟨I,d,rfl,hk,ws,n,g1,g2⟩:=S.R.get rv hob;refine ia (dn (List.Mem.tail (h.objs.size,({cls:=.type "slice",data:=.fields #[.int x u,.int y v,.none]}:Obj)) g1)) λr J E M=>?_;have w:=(S.A.push {cls:=.type "slice",data:=.fields #[.int x u,.int y v,.none]} rfl).sub E;have i:=(w.N _ (.head _)).1;have f:=g2.len;refine bL D (wpAny_delItem_slot (s:=⟨_,G.c.gn,G.c.d,t,G.c.os⟩) (bv _ i rfl) (by decide) ZG (Bw (s:=⟨_,G.c.gn,G.c.d,t,G.c.os⟩) i (Heap.IsSliceOf.new ..) (YK.mp hz.2.1) (by have:=hz.2.2.1;lia) (VZ f hz.2.2.2) λF C=>aJ (c:=G.c) ?_));have j:=IsL.update (n:=n) i F;rw[C]at j;exact q _ _ _ t Tb.le.refl ⟨H.V,⟨_,_,_,S.T,w.chg1 (o3:=aL (ws.take x++ws.drop y) _) (Heap.SameBut.update ..) j,S.L,((S.R.cong (l':=_::l) λq g=>.tail _ g).cong J).chg (a:=I) (o:=.list (p.take x++p.drop y)) hob hk (.inl rfl) (λq g L=>.tail _ ((WY.mp g).resolve_left λe=>L (e▸rfl))) (λZ z=>z) ⟨_,_,.head _,g2.drop.app g2.take⟩⟩,H.le⟩ p3
theorem Su (so:av w κ o mo) (sa:av w κ lo ma) (sb:av w κ hi mb) (r:bq w κ rest ms):bq w κ (.Delete [.Subscript o (.Slice (some lo) (some hi) none p3) p2] pos::rest) (wY mo ma mb ms):=by
 intro G d τ σ h t K Q H m q;refine cf (wpAny_Delete (wpAny_deleteEach_cons ?_));rw[arm_delete_Subscript];refine WV (Wp.go (so (G.at d) (Q:=λv h t=>wpAny (model PP w) G.c.A _ _ _ ⟨h,G.c.gn,G.c.d,t,G.c.os⟩) H m λa2 P O F V a3 p i k g=>?_) λZ Z Z y=>y);refine WV (XH (wpAny_Slice (Wp.go (sa (G.at d) (Q:=λA x E=>Wp G.c (evalPart (some hi) (G.c.ev κ.sc)) (λB D C=>wpAny (model PP w) G.c.A _ _ _ ⟨D.push {cls:=.type "slice",data:=.fields #[A,B,.none]},G.c.gn,G.c.d,C,G.c.os⟩) x E) k g λT I M U S J b s u e=>?_) λA x E y=>Wp.go y λB D C z=>W1 z)));refine sb (G.at d) u e λa0 X L N W a1 a l f n=>?_;refine WV (Yr (WV (XH (Wp.go (JY (G:=G.at d) f (i.up (b.trans a)) (s.up a) l n (R:=λZ h t=>wpAny (model PP w) G.c.A _ _ _ ⟨h,G.c.gn,G.c.d,t,G.c.os⟩) λZ Z Z Z j zH Y=>?_) λZ Z Z y=>y))));exact wpAny_release (wpAny_deleteEach_nil (aJ (c:=G.c) (r G zH Y (q.pre (((p.trans b).trans a).trans j)))))
noncomputable def wo (z:Str):List SV:=z.cps.toList.map λc=>.str ⟨#[c]⟩
theorem qM {xs:List SV}:∀{vs:List Value},vs.length=xs.length->(∀(j:Nat) (x:SV) (v:Value),xs[j]?=some x->vs[j]?=some v->RV τ x v)->bZ τ xs vs:=by
 induction xs with
 |nil=>intro vs h _;cases vs with
  |nil=>rfl
  |cons=>cases h
 |cons x xs ih=>intro vs h q;cases vs with
  |nil=>cases h
  |cons v vs=>exact⟨v,vs,rfl,q 0 x v rfl rfl,ih (ZC h) λj x v a b=>q (j+1) x v a b⟩
def iC:de:=λvs σ K=>one vs λx=>cj x λz=>z.length≤10000∧K (.ref σ.nx) (σ.new (.list (wo z)))
theorem mV:ft w (.type "list") iC:=by
 intro M G F L h t K vs I Q H r m q;obtain⟨x,A,rfl,ra,m⟩:=l9 m r;obtain⟨z,rfl,hz,p⟩:=b0 m;obtain⟨u,rfl⟩:=ra;obtain⟨d,E,l,S⟩:=H.S;have f:z.cps.size≤10000:=hz;refine bL d (call_list_str (s:=⟨h,G.c.gn,G.c.d,t,G.c.os⟩) G.O.hh z u (λk J b i n D a=>aJ (c:=G.c) ?_) (by rw[XI];exact Z1 f));have B:News d (G.c.wg d).L k ((h.objs.size,aL b.toList i)::l):=λp hp=>by
  rcases WY.mp hp with rfl|hp
  ·refine⟨by show k.get? _=_;rw[D],Zc S.A.F.ns.lt,?_⟩
   cases z:d.get? h.objs.size with
   |none=>rfl
   |some o=>exact absurd (Xe (S.A.F.keep _ _ z)) (XX _)
  ·exact⟨n _ _ (S.A.N p hp).1,(S.A.N p hp).2⟩
 exact dN H S ⟨S.A.F.keeps n,B,S.A.k.cons λp hp=>Xe (S.A.N p hp).1⟩ (o:=.list (wo z)) ⟨b.toList,i,.head _,qM (by unfold wo;rw[W0,Array.length_toList,Array.length_toList];exact a.1) λj x v g C=>by
  refine gS (a.2 j v (by rw[←Zj];exact C)) λc u y e=>?_;obtain rfl:=e;unfold wo at g;rw[Xd,Zj,y]at g;obtain rfl:=jS g;exact⟨u,rfl⟩⟩ p q _
noncomputable def pK (kvs:List (Str×SV)):List SV:=kvs.map λp=>.str p.1
theorem Gy {kvs:List (Str×SV)}:∀{kv:List (Str×Value)} {j:Nat} {k:Str} {x:Value},RK τ kvs kv->kv[j]?=some (k,x)->(pK kvs)[j]?=some (.str k):=by
 induction kvs with
 |nil=>intro kv j k x h e;obtain rfl:=h;exact cZ e
 |cons p r ih=>
  rintro kv j k x ⟨V,s,rfl,h1,h2⟩ e;cases j with
  |zero=>cases e;rfl
  |succ j=>exact ih h2 e
def jb:de:=λvs σ K=>one vs λx=>bF x λk=>bN σ k λo=>mB o λkvs=>kvs.length≤10000∧K (.ref σ.nx) (σ.new (.list (pK kvs)))
theorem mZ:ft w (.type "list") jb:=by
 intro U G M T h t K vs N Q H r m q;obtain⟨x,A,rfl,ra,m⟩:=l9 m r;obtain⟨k,rfl,o,hob,p1⟩:=bh m;obtain⟨b,rfl,hz,p⟩:=kK p1;obtain⟨C,L,l,S⟩:=H.S;obtain⟨y,d,rfl,hk,kv,o,g1,g2,g3,g4⟩:=S.R.get ra hob;refine mY g2 λE i r=>?_;have f:=q6 g3;refine bL C (kdl_N (s:=⟨h,G.c.gn,G.c.d,t,G.c.os⟩) (kdl_dict g4) G.O.hh S.A.F S.A.N ((uu o E ((S.A.N _ g1).1) r):h.DictAt (strKind PP w) y kv i) (by rw[XI];exact VZ f hz) λD c R O I F z B a g=>aJ (c:=G.c) ?_);exact dN H S ⟨F,z,S.A.k.cons B⟩ (o:=.list (pK b)) ⟨I,c,.head _,qM (by unfold pK;rw[a,f,W0]) λj x v e J=>by
  refine gS (g j v J) λk P u n=>?_;rw[Gy g3 u]at e;obtain rfl:=jS e;exact Value.isStrOf_shape n⟩ p q _
variable {nn:Nat} {sc:Scope} {ns:List Str} {vs:List (Option Value)} {e T₀:Addr} {oe:Obj} {cl:Value} {dc:Option Addr}
theorem yi (O:Ok c nn sc ns) (H:At c ns vs ((e,oe)::l) h) (hT:∀q∈l,q.1≠T₀) (gT:c.g.get? T₀=none) (nT:T₀≠c.L) (x:Lv (eq (c.ev sc::c.outer)) e T₀ cl dc .none h h'):
  ∃g' oe' T oT,KtsTurn (eq c.outer) c.g g'∧At (c.wg g') ns vs ((e,oe')::(T,oT)::l) h'∧uh h' e cl dc T .none:=by
 refine Kq (sU O H hT gT nT x) λg' oe' T oT k a y=>?_;refine lq H.F.ns λt u r n f i g=>?_;obtain⟨D,d⟩:=x.frm c.L t n (Yn.mpr (bv (c.ev sc) (.head _) rfl)) (λz=>(H.N _ (.head _)).2.1 z.symm) (λz=>nT z.symm);have j:T≠c.L:=λz=>by
  refine bn x.exn λA b s=>?_;obtain⟨⟨o1,B,v,_,_,w,f1⟩,_⟩:=y;obtain⟨⟨o2,C,o,_,_,m,p⟩,_⟩:=s;rw[v]at o;obtain rfl:=jS o;rw[w]at m;cases m;rw[f1]at p;cases p;exact absurd (Xe n) (by rw[←z];exact YM.mpr b)
 exact(I43 g' oe' T oT k ⟨⟨hH _ u r d f i g,a.st,by rw[k.size];exact H.F.above⟩,λq hq=>(eQ ((a.led q hq).1) (by
  rcases WY.mp hq with rfl|hq
  ·exact(H.N _ (.head _)).2.1
  ·rcases WY.mp hq with rfl|hq
   ·exact j
   ·exact(H.N _ (.tail _ hq)).2.1) ((a.led q hq).2)),a.keys⟩ y)
theorem aD.undel0 {X:Xs} (R:aD w τ (σ.del k) X l) {o:SO} {x d:Addr} (ht:τ k=some (x,d)) (hs:σ.ob k=some o) (hX:∀q∈X.own,q.1≠x∧q.1≠d) (r:gH w τ l x d o):aD w τ σ X l:=by
 refine⟨R.nx,λa c b=>?_,R.dj,R.nz,R.inl,R.X1,λa c p b f=>?_,R.X3⟩
 ·by_cases e:a=k
  ·subst e;rw[hs]at b;cases b;exact⟨x,d,ht,r⟩
  ·exact R.ob a c ((gB e).trans b)
 ·by_cases e:a=k
  ·subst e;rw[ht]at f;obtain rfl:=jS f;exact hX
  ·exact R.X2 a c p ((gB e).trans b) f
variable {Q:Unit->Shared->Prop}
theorem wt {n:Nat} (O:Ok c n κ.sc κ.ns) (fl:BG c κ fr k σ τ X e h)
  (q:∀h' g' vs l D n sl T y,KtsTurn (eq c.outer) c.g g'->At (c.wg g') κ.ns vs l h'->gO τ fr.loc vs->aD w τ σ X l->τ k=some (e,y)->h'.get? e=some ⟨.ref 438,some D,.fields n,sl⟩->∀oD,h'.get? D=some oD->uh h' e (.ref 438) (some D) T .none->Q () ⟨h',c.gn,c.d,t,c.os⟩):
  wpAny (model PP w) c.A (noteFrame (.ref e) (c.ev κ.sc)) (λZ s2=>wpAny (model PP w) c.A (setFlight (.ref e) none) Q E s2) E ⟨h,c.gn,c.d,t,c.os⟩:=by
 have o:∀{g1 g' h' vs l kd D y z d T j},KtsTurn (eq c.outer) c.g g'->At (c.wg g') κ.ns vs ((e,d)::(T,j)::l) h'->gO τ fr.loc vs->τ k=some (e,y)->σ.ob k=some (.exc kd)->τ kd=some (D,z)->(∀q∈X.own,q.1≠e∧q.1≠y)->(∀d,aD w τ (σ.del k) X ((e,d)::l))->uh h' e (.ref 438) (some D) T .none->g1=g'->Q () ⟨h',c.gn,c.d,t,c.os⟩:=by
  intro g1 g' h' vs l kd D y z d T j tu A L b g i hX R x _;obtain⟨⟨a1,C,e1,c1,d1,f1,g1⟩,_⟩:=id x;obtain⟨cl,dc,dt,sl⟩:=a1;obtain rfl:=c1;obtain rfl:=d1;obtain rfl:=f1;have e2:=(A.N _ (.head _)).1;rw[e1]at e2;obtain rfl:=jS e2;have R1:=(R ⟨.ref 438,some D,.fields C,sl⟩).cong (l':=(e,⟨.ref 438,some D,.fields C,sl⟩)::(T,j)::l) λq hq=>by
   rcases WY.mp hq with rfl|hq
   ·exact .head _
   ·exact .tail _ (.tail _ hq)
  refine bn (Xb.mp (R1.inl _ _ i).1) λp hp ep=>?_;have hD:=(A.N _ hp).1;rw[ep]at hD;exact q h' g' vs _ D C sl T y tu A L (R1.undel0 b g hX ⟨C,sl,D,z,i,.head _⟩) b e1 _ hD x
 cases fl with
 | @fresh g' vs l kd D y z a σ0 S b g i h1 hσ=>
  refine gS (dM h1) λM v a0 U=>?_;obtain rfl:=a0;have F:At (c.wg g') κ.ns vs ((e,kR 438 (some D) a)::(M++v)) h:=S.A.sub λP=>by
   simp only[Xa,W4,X8,XD];exact L6
  have B:=O.turn S.T;have K:=F.N _ (.head _);have r:=F.k.nd;rw[W4,W2]at r;refine iG (s:=⟨h,c.gn,c.d,t,c.os⟩) B.G.fs (fC (c:=c.wg g') B F) B.G.fr K.1 rfl rfl λu x=>?_;refine bn x.exn λT hT Y=>?_;refine eH Y λh2 f o2 I=>?_;refine Kq (yi B F (λq hq z=>r.1 (Xb.mpr ⟨q,hq,z⟩)) K.2.2 K.2.1 (x.land hT f o2 I)) λW V T2 j tu N x2=>?_;subst hσ;exact o (g1:=W) (S.T.trans tu) N S.L b (aE g) i (λq hq=>S.R.X2 _ _ _ g b q hq) (λd=>S.R.ex b g) x2 rfl
 | @call g' vs l0 h0 T H L fq=>
  refine Nf fq λkd D y z l b g i hX R x=>?_;refine Kq x λg1 d T1 j k1 ex Y=>?_;refine ia (HE (O.turn T) H k1 ex) λW k2 G m=>?_;have r:=m.k.nd;rw[W4,W4,W2,W2]at r;have s:Sub ((e,d)::l) ((e,d)::(T1,j)::l):=λP=>by simp only[W4,XD];exact Z73
  refine jn (s:=⟨h,c.gn,c.d,t,c.os⟩) G.G.fs (fC (c:=(c.wg g').wg W) G m) G.G.fr Y λu x=>?_;refine bn x.exn λT3 J y3=>?_;refine eH y3 λh2 f o2 I=>?_;refine Kq (yi G (m.sub s) (λq hq z=>r.2.1 (Xb.mpr ⟨q,hq,z⟩)) (m.N _ (.tail _ (.head _))).2.2 (m.N _ (.tail _ (.head _))).2.1 (x.land J f o2 I)) λg3 V T2 a2 tu N x2=>?_;exact o (g1:=g3) ((T.trans k2).trans tu) N L b g i hX R x2 rfl
abbrev AH:=ca->Sg->(SV->Prop)->Prop
def jK (w:World) (κ:Ek) (e:Expr) (m:AH):Prop:=∀(c:Cf w) {fr τ σ X vs l h t K} {Q:Value->Heap->Nat->Prop},(HK w.params).In c.g->gZ (c.ev κ.sc) c.L κ.ns->At c κ.ns vs l h->gO τ fr.loc vs->aD w τ σ X l->m fr σ K->(∀v V t,RV τ v V->K v->Q V h t)->Wp c (eval e (c.ev κ.sc)) Q h t
variable {e ob:Expr} {m m1 m2:AH} {attr:Str} {kk:Nat} {z:Str}
def hV (i:Nat):AH:=λfr Z K=>bX (fr.loc[i]?) λv=>bX v K
theorem h_v (i:Nat) (hx:κ.ns[i]?=some x):jK w κ (.Name x pos) (hV i):=by
 intro c e g j X vs l h t K Q k S A L R m q;obtain⟨v,b,f,d,p⟩:=m;subst d;refine bn (L.slot hx b) λV s a=>?_;exact ldS S A.F s (aJ (c:=c) (q _ _ _ a p))
def dF (m:AH) (a:Nat):AH:=λfr σ K=>m fr σ λv=>Df σ v a K
theorem Fv (a:Nat) (hn:cK a=attr) (hb:∀env x,attributeBase ob attr env x=x) (s:jK w κ ob m):jK w κ (.Attribute ob attr pos) (dF m a):=by
 subst hn;exactλc Z Z Z Z Z Z Z Z Z Z d S A L R m q=>pd hb (s c d S A L R m λv V t e k=>Sa d A R e k λx W b k=>q _ _ _ b k)
def hS (z:Str):AH:=λZ Z K=>K (.str z)
theorem h_s:jK w κ (.Constant (.str z) kk pos) (hS z):=λc Z Z Z Z Z Z Z Z Z Z a S A L R m q=>yN (q (.str z) _ _ ⟨_,rfl⟩ m)
def pM (op:Operator) (m1 m2:AH):AH:=λfr σ K=>m1 fr σ λx=>m2 fr σ λy=>tX op x y K
theorem Ma {op:Operator} (s1:jK w κ e1 m1) (s2:jK w κ e2 m2):jK w κ (.BinOp e1 op e2 pos) (pM op m1 m2):=λc Z Z Z Z Z Z Z Z Z Z b S A L R m q=>
 rM (s1 c b S A L R m λv V t a k=>s2 c b S A L R k λy Y t d k=>JW a d k λZ Z t k a=>q _ _ _ a k)
variable {e:Addr}
theorem XeB {M:Model} {g:Array GenState} {d:Drawn} {os:OsState} {od:Option Obj} {Q:Bool->Shared->Prop} (hM:M=model PP w) (X:(HK w.params).In h) (I:InstAt h e oe 438 od)
  (q:Q true ⟨h,g,d,t,os⟩):wpAny M A (excMatches (.ref e) (.ref 438)) Q E ⟨h,g,d,t,os⟩:=by
 subst hM;have b:Looks (model PP w) h (isInstance (.ref 438) (.type "tuple")) false:=Looks.of_peek X (by kernel_rfl);have a:Looks (model PP w) h (isExcClass (.ref 438)) true:=Looks.of_peek X (by kernel_rfl);have c:Looks (model PP w) h (isSubtype (.ref 438) (.ref 438)) true:=Looks.of_peek X (by kernel_rfl);refine WV (b.at ?_);simp only[Xz,Yu,pure_bind];simp only[Zw,List.forIn_nil,bind_assoc];refine WV (a.at ?_);simp only[Zn,Xz,Yu,pure_bind];refine WV ((I.type (M:=model PP w)).at ?_);refine WV (c.at ?_);exact W1 q
theorem nc {M:Model} {e T:Addr} (hx:uh s.heap e cl dc T .none)
  (h:∀h',(∀b o,s.heap.get? b=some o->h'.get? b=some o)->h'.objs.size=s.heap.objs.size->Q () {s with heap:=h'}):wpAny M A (setFlight (.ref e) none) Q E s:=by
 obtain⟨⟨x,vs,l,w,t,m,k⟩,p,r,f,g,d,j⟩:=hx;have c:3<f.size:=(XV.mp j).1;refine WV (YJ l m k ?_);rw[Xn (show(Value.ref T !=Value.none)=true from by rfl)];refine Zd g d c (h _ (λb o q=>?_) (X5 ..));by_cases z:b=T
 ·subst z
  rw[Yj _ g (YR (YL d _)),←q,g];obtain⟨cl,dc,v,n⟩:=r;obtain rfl:=d;have z:f.setIfInBounds 3 .none=f:=Array.ext (by simp) λi k u=>by
   rw[Array.getElem_setIfInBounds];split
   ·subst i;exact(W7 ((Array.getElem?_eq_getElem c).symm.trans j)).symm
   ·rfl
  exact Yi some (Yi (λa=>(⟨cl,dc,.fields a,n⟩:Obj)) z)
 ·rw[XR _ _ (Ne.symm z)];exact q
theorem At.same (A:At c ns vs l h) (k:∀b o,h.get? b=some o->h'.get? b=some o):At c ns vs l h':=by
 refine uz A.F.ns λe f g d z=>?_;exact⟨⟨uA e f g (k _ _ d) z,λb o q=>k _ _ (A.F.keep b o q),A.F.above⟩,λq a=>⟨k _ _ (A.N q a).1,(A.N q a).2⟩,A.k⟩
variable {E':Value->Shared->Prop}
theorem BG.wE (fl:BG (c.wE E') κ fr k σ τ X e h):BG c κ fr k σ τ X e h:=by
 cases fl with
 |fresh S ht hs hd h1 hσ=>exact .fresh ⟨S.T,⟨S.A.F,S.A.N,S.A.k⟩,S.L,S.R⟩ ht hs hd h1 hσ
 |call T H L q=>exact .call T ⟨H.F,H.N,H.k⟩ L q
variable {env:Env}
theorem JO {body:List Stmt} {h0:ExceptHandler} {Q:Flow->Heap->Nat->Prop}
  (hE:∀v s,E' v s->wpAny (model PP w) c.A (noteFrame v env) (λZ s2=>wpAny (model PP w) c.A (setFlight v none) (λZ s3=>wpAny (model PP w) c.A (handleBy v env [h0]) (lf c Q) c.E s3) c.E s2) c.E s)
  (q:Wp (c.wE E') (execs body env) (λf h t=>(match f with|.next=>False|_=>True)∧Q f h t) h t):Wp c (exec (.Try body [h0] [] [] pos) env) Q h t:=
 wpAny_Try_except (Ym q (λf s y=>by
  refine jv y λh t a b d=>?_;obtain rfl:=a;cases f
  ·exact b.elim
  all_goals exact aJ d) hE)
def NB (k r i:Nat) (m:AE) (mh:AH):(Nat->eO)->List SV->Sg->KV->KX->Prop:=λΦ args σ K KE=>Nat.beq args.length k=true∧m Φ ⟨args.map some++List.replicate r none,[],[]⟩ σ K λe σ=>i<k+r∧mh (ca.put ⟨args.map some++List.replicate r none,[],[]⟩ i (.ref e)) σ λv=>K v σ
end
section
variable {w:World} {κ:Ek}
inductive TyR (h4:Heap) (τ1:Tb) (σ1:Sg) (K:KV) (f:Flow) (h:Heap) (t:Nat):Prop
 |mk (V:Value) (v:SV) (e:f=.ret V) (eh:h=h4) (rv:RV τ1 v V) (k:K v σ1):TyR h4 τ1 σ1 K f h t
theorem GU {args:List SV} {k r i:Nat} (hn:args.length=k) (h:i<k+r):i<(args.map some++List.replicate r none).length:=by
 rw[Yb,W0,List.length_replicate,hn];exact h
theorem ww {c q:Cf w} {g:Heap} (ho:c.outer=q.outer) (hg:c.g=q.g) (T:KtsTurn (eq c.outer) c.g g):KtsTurn (eq q.outer) q.g g:=by
 rw[←ho,←hg];exact T
structure Tp where
 e:Expr
 e2:Expr
 m:AE
 mh:AH
 k:Nat
 r:Nat
 i:Nat
 x:Str
 y:Str
 name:Str
 qual:Str
 params:Arguments
 dVl:Value
 kV:Value
 doc:Value
 pm:Value
 cdv:Value
 ct:Value
 an:Option Addr
 p1:Pos
 p2:Pos
 p3:Pos
 p4:Pos
 p5:Pos
noncomputable def Tp.hs (p:Tp):ExceptHandler:=.ExceptHandler (some (.Name p.x p.p2)) (some p.y) [.Return (some p.e2) p.p3] p.p4
noncomputable def Tp.body (p:Tp):List Stmt:=[.Try [.Return (some p.e) p.p1] [p.hs] [] [] p.p5]
noncomputable def Tp.fr (p:Tp) (args:List SV):ca:=⟨args.map some++List.replicate p.r none,[],[]⟩
structure Tp.Ok (p:Tp) (w:World) (κ:Ek):Prop where
 cd:κ.cd=p.cdv
 qn:κ.qn=p.qual
 cm:κ.cm=none
 cn:κ.cn=[]
 hm:av w κ p.e p.m
 hh:jK w κ p.e2 p.mh
 hi:κ.ns[p.i]?=some p.y
 ev:nsIn (HK w.params) mainGlobals p.x=some (some (.ref 438))
 hx:bA κ p.x=true
def TyQ (c:Cf w) (τ:Tb) (X:Xs) (K:KV) (Q:Flow->Heap->Nat->Prop):Prop:=∀v σ τ' V h t g' l,τ.le τ'->RV τ' v V->KtsTurn (eq c.outer) c.g g'->Ex g' l h->aD w τ' σ X l->K v σ->Q (.ret V) h t
inductive TyE (p:Tp) (κ:Ek) (c:Cf w) (args:List SV) (τ:Tb) (X:Xs) (K:KV) (v:Value) (s:Shared):Prop
 |mk (e1:Addr) (h1:Heap) (t1:Nat) (k1:Nat) (σ1:Sg) (τ1:Tb) (ev:v=.ref e1) (es:s=⟨h1,c.gn,c.d,t1,c.os⟩) (hi:p.i<p.k+p.r) (m:p.mh (ca.put (p.fr args) p.i (.ref k1)) σ1 λv=>K v σ1) (le:τ.le τ1) (fl:BG c κ (p.fr args) k1 σ1 τ1 X e1 h1):TyE p κ c args τ X K v s
variable {p:Tp} {c:Cf w} {n:Nat} {args:List SV} {τ:Tb} {X:Xs} {K:KV} {Q:Flow->Heap->Nat->Prop}
theorem Je (o:p.Ok w κ) (O:Ok c n κ.sc κ.ns) (hn:args.length=p.k) (q:TyQ c τ X K Q) (v:Value) (s:Shared) (y:TyE p κ c args τ X K v s):
  wpAny (model PP w) c.A (noteFrame v (c.ev κ.sc)) (λZ s2=>wpAny (model PP w) c.A (setFlight v none) (λZ s3=>wpAny (model PP w) c.A (handleBy v (c.ev κ.sc) [p.hs]) (lf c Q) c.E s3) c.E s2) c.E s:=by
 obtain⟨B,h1,G,N,b,a,P,Y,u,m1,J,fl⟩:=y;rw[P,Y];refine wt O fl λg m vs l D n sl T y tu A L R U M S C x=>?_;refine wpAny_handleBy_cons (codeAny_handlers_test (glS (s:=⟨g,c.gn,c.d,G,c.os⟩) A.F (O.turn tu).X (O.turn tu).T o.ev (bV (.fn (c:=c) (X:=X) o.cm (λi x h=>by rw[o.cn]at h;exact cZ h:gF c κ (p.fr args) a)) o.hx) (XeB (od:=some S) rfl ((O.turn tu).X.keeps A.F.keep:(HK w.params).In g) ⟨M,rfl,rfl,C⟩ (codeAny_handlers_suite_as ?_)))) (by intro q;cases q);refine nc (s:=⟨g,c.gn,c.d,G,c.os⟩) x λh3 W Z=>?_;have d:=A.same W;refine Exists.elim (L.put (x:=.ref N) (X:=.ref B) ⟨_,_,rfl,U⟩ o.hi (GU hn u)) λa0 z=>?_;refine stE O.S d.F d.N z.1 λh4 k F=>?_;refine Wp.go (c:={c.wg m with A:=c.A.mark (some (.ref B)),E:=_}) (Q:=TyR h4 a b K) (tE (o.hh {c.wg m with A:=c.A.mark (some (.ref B)),E:=_} (O.turn tu).X O.S ⟨k,F,d.k⟩ z.2 R m1 λv V t j e=>⟨V,v,rfl,rfl,j,e⟩)) ?_;intro f hh t5 r;obtain⟨V,v,I,eh,j,e⟩:=r;rw[I,eh];exact wpAny_nameGoes_keeps (O.S.loc p.y (X0 o.hi)) k.ns (by rw[O.S.kind];rfl) λh5 v5 hn H=>aJ (q v b a V h5 _ m l J j tu (l5 (k.set hn H) (F.set H) d.k) R e)
theorem Lo (o:p.Ok w κ) {Φ:Nat->eO} (P:ar w Φ n) (O:Hn c n κ) {avs:List Value} {σ:Sg} {h:Heap} {t:Nat} {l:bu} (L:gO τ (p.fr args).loc (avs.map some++List.replicate p.r none)) (R:aD w τ σ X l) (A:At c κ.ns (avs.map some++List.replicate p.r none) l h)
  (m0:p.m Φ (p.fr args) σ K λe σ=>p.i<p.k+p.r∧p.mh (ca.put (p.fr args) p.i (.ref e)) σ λv=>K v σ) (q:TyQ c τ X K Q):Wp (c.wE (TyE p κ c args τ X K)) (execs [.Return (some p.e) p.p1] (c.ev κ.sc)) (λf h t=>(match f with|.next=>False|_=>True)∧Q f h t) h t:=by
 refine tE (o.hm ⟨c.wE _,Φ,n,c.ev κ.sc,p.fr args,τ,X,_,P,O.wE _,λy a b z k g d m j=>⟨z,k,g,y,a,b,rfl,rfl,m.1,m.2,d,j.wE⟩⟩ (h:=h) (t:=t) ⟨.fn o.cm (λi x h=>by rw[o.cn]at h;exact cZ h:gF c κ (p.fr args) τ),⟨c.g,_,l,.refl,⟨A.F,A.N,A.k⟩,L,R⟩,Tb.le.refl⟩ m0 λv a b V k g d s H1 r=>⟨trivial,?_⟩);obtain⟨u,vs,B,S⟩:=H1.S;exact q v a b V k g u B d s S.T (l5 S.A.F S.A.N S.A.k) S.R r
theorem B8 {f:Addr} {Φ:Nat->eO} {oc:Value} {od:Option Addr} {osl:Array (Option Value)} (o:p.Ok w κ) (ho:(HK w.params).lookup f=some ⟨oc,od,.func (fnOf p.name p.qual p.params p.body κ.sc p.dVl p.kV p.doc p.pm p.an p.cdv p.ct),osl⟩)
  (hc:(iE (HK w.params) κ.sc κ.ns p.cdv p.qual&&(κ.sc.names.all λx=> !(x.2== .cell)))=true)
  (hb:∀(s:Shared) (avs:List Value),(HK w.params).In s.heap->avs.length=p.k->BindsTo s (fnOf p.name p.qual p.params p.body κ.sc p.dVl p.kV p.doc p.pm p.an p.cdv p.ct) ⟨avs,[]⟩ (bB κ.ns (avs.map some++List.replicate p.r none)))
  (P:ar w Φ n):aM w (n+1) (NB p.k p.r p.i p.m p.mh Φ) (.ref f):=by
 intro q Q h t E Y X l r avs K U z C R k m xq a;have u:=W9 m.1;refine lS κ.ns (avs.map some++List.replicate p.r none) z C ho hc (hb _ avs (show(HK w.params).In h from Cx.xs C) (k.len.trans u)) ?_;intro c g d j i I H O W S G;have L:TyQ c E X K (λfl h t=>Q (gc fl) h t):=λv b e V N B F J A D T M R y=>a v b e V N B F J A D (ww d g T) M R y;exact cf (JO (Je o O u L) (Lo o P ⟨O,j.trans o.cd.symm,i.trans o.qn.symm⟩ (gO.app gO.rep k) R G m.2 L))
variable {β:Type}
def Og (P:β->Prop) (o:Option β):Prop:=∀m,o=some m->P m
variable {α:Type} {P:β->Prop} {R:α->Prop} {o:Option β} {m:β}
theorem ah (s:P m):Og P (some m):=λZ e=>W7 e▸s
theorem al:Og P none:=λZ e=>nomatch e
theorem af {oa:Option α} {f:α->Option β} (h:Og R oa) (k:∀m,R m->Og P (f m)):Og P (oa.bind f):=by
 cases oa with
 |none=>exact al
 |some a=>exact k a (h a rfl)
noncomputable def gd (b:Bool) (o:Option β):Option β:=match b with
 |true=>o
 |false=>none
theorem bj {b:Bool} (h:b=true->Og P o):Og P (gd b o):=by
 cases b with
 |false=>exact al
 |true=>exact h rfl
noncomputable def dI:List Str->Str->Option Nat
 |[],_=>none
 |y::r,x=>match y==x with
  |true=>some 0
  |false=>(dI r x).map (·+1)
variable {x:Str}
theorem UW {l:List Str}:∀{i:Nat},dI l x=some i->l[i]?=some x:=by
 induction l with
 |nil=>intro i h;exact cZ h
 |cons y r ih=>
  intro i h;dsimp only[dI]at h;split at h
  ·rename_i e;obtain rfl:=jS h;rw[XJ e];rfl
  ·refine bn (W8.mp h) λj b a=>?_;obtain rfl:=a
   exact ih b
theorem dZ {P:β->Prop} {l:List Str} {f:Nat->Option β} (k:∀i,l[i]?=some x->Og P (f i)):Og P ((dI l x).bind f):=af (R:=λi=>l[i]?=some x) (λZ e=>UW e) k
theorem i7 {i:Nat} (h:cx[i]?=some x):cK i=x:=by
 unfold cK;rw[YX,h];rfl
end
section
variable {w:World} {κ:Ek}
inductive Vw
 |name (x:Str) (p:Pos)|attr (o:Expr) (a:Str) (p:Pos)|sub (o i:Expr) (p:Pos)|slice (lo hi st:Option Expr) (p:Pos)|tup (es:List Expr) (k:Nat) (p:Pos)
 |call (f:Expr) (as:List Expr) (ks:List Keyword) (p:Pos)|con (c:Const) (k:Nat) (p:Pos)|comp (e:Expr) (g:List Comprehension) (s:Scope) (p:Pos)|set|tst|lst|no
noncomputable def dl (e:Expr):Vw:=match e with
 |.Name x p=>.name x p
 |.Attribute o a p=>.attr o a p
 |.Subscript o i p=>.sub o i p
 |.Slice a b c p=>.slice a b c p
 |.Tuple es k p=>.tup es k p
 |.Call f as ks p=>.call f as ks p
 |.Constant c k p=>.con c k p
 |.ListComp e g s p=>.comp e g s p
 |.Set .. =>.set
 |.List .. =>.lst
 |.UnaryOp .. =>.tst
 |.BoolOp .. =>.tst
 |.IfExp .. =>.tst
 |.Compare .. =>.tst
 |_=>.no
noncomputable def Vw.is (v:Vw) (e:Expr):Prop:=match v with
 |.name x p=>e=.Name x p
 |.attr o a p=>e=.Attribute o a p
 |.sub o i p=>e=.Subscript o i p
 |.slice a b c p=>e=.Slice a b c p
 |.tup es k p=>e=.Tuple es k p
 |.call f as ks p=>e=.Call f as ks p
 |.con c k p=>e=.Constant c k p
 |.comp d g s p=>e=.ListComp d g s p
 |_=>True
noncomputable def io (o:Expr):Bool:=match dl o with
 |.call .. =>false
 |_=>true
noncomputable def gQ (o:Expr):Bool:=match dl o with
 |.set=>false
 |_=>true
noncomputable def kS (o:Expr):Bool:=match dl o with
 |.slice .. =>false
 |_=>true
noncomputable def Dl (o:Expr):Bool:=match dl o with
 |.tst=>false
 |_=>true
noncomputable def tT (o:Expr):Bool:=match dl o with
 |.lst=>true
 |_=>false
structure WG (e:Expr):Prop where
 is:(dl e).is e
 call:io e=true->∀(attr:Str) (env:Env) (x:Sem Value),attributeBase e attr env x=x
 set:gQ e=true->(∀(env:Env) (x:Value),foldedSetIterable e env x=pure x)∧∀op,behindInMarks op e=false
 slice:kS e=true->∀a i:Value,subscripted e false a i=operate [a,i] (getItem a i)
 val:Dl e=true->∀(env:Env) (whole:Sem Value),isTrue e env whole=(do let v ←whole;standAt e.pos;holding [v] (truthy v))
theorem bw (e:Expr):WG e:=by
 cases e<;>exact⟨(by first|rfl|trivial),(λh=>by first|exactλZ Z Z=>rfl|(exact ch h)),(λh=>by first|exact⟨λZ Z=>rfl,λZ=>rfl⟩|(exact ch h)),(λh=>by first|exactλZ Z=>rfl|(exact ch h)),(λh=>by first|exactλZ Z=>rfl|(exact ch h))⟩
variable {a:Expr}
theorem sK {o:Expr} {op op':CmpOp} (h:gQ o=true):markedEach [op,op'] [a,o]=id:=by
 funext ts
 rcases ts with _|⟨t,_|⟨t2,_|⟨t3,ts⟩⟩⟩
 ·rfl
 ·rfl
 ·show[t,markedBehindIn op' o t2]=_
  dsimp only[markedBehindIn];rw[(((bw o).set h).2 op':behindInMarks op' o=false)];rfl
 ·rfl
variable {α:Type}
noncomputable def iu (m:Sem α):Option α:=match m with
 |.pure a=>some a
 |_=>none
theorem jZ {m:Sem α} {a:α} (h:iu m=some a):m=pure a:=by
 cases m<;>first|(obtain rfl:=jS h;rfl)|exact cZ h
noncomputable def GD (s:Scope):Env:=envX "" s 0 0 .none []
variable {e:Expr} {s:Scope}
theorem AY {ts:List Expr} {line:Nat} {env:Env} (h:s=env.scope):swapsWithSole ts e line env=swapsWithSole ts e line (GD s):=by
 subst h;rcases ts with _|⟨t,_|⟨t2,ts⟩⟩
 ·rfl
 ·show swapsWith e (some t) line env=swapsWith e (some t) line (GD env.scope)
  rfl
 ·rfl
theorem BE {ts:List Expr} {env:Env} (h:s=env.scope):swappedStores ts e env=swappedStores ts e (GD s):=by
 subst h;rfl
noncomputable def UD:List (Str×Nat):=([("is_int",237),("sort_of",244),("same",251),("code_of",264),("full_name",297),("kind_word",365),("need_int",372),("need_open",379),("limits_of",386),("span_in",393),("place_of",400),("list_item",447),("list_at",454)]:List (Str×Nat))++(([("list_slice_out",461),("list_delete_at",468),("whole",475),("need_free",482),("span_of",489),("span_of_range",496),("span_for",503),("part",510),("take_part",517),("show",358),("_law_kinds",845),("_law_signs",852),("_law_box",859)]:List (Str×Nat))++
 ([("_law_take",866),("_law_holders",871),("_law_mark",878),("_law_strange",885),("_law_odd",892),("_law_span",899),("_law_past",906),("_law_due",911),("_law_heard",918),("_law_limits_right",925),("_law_told_right",930),("_law_cut_right",935)]:List (Str×Nat)))
noncomputable def clL:List (Str×Nat×Nat):=[("Thing",40,37),("Text",62,59),("ListThing",82,79),("TableThing",120,98),("RangeThing",140,137),("ErrorThing",181,178),("ModuleThing",228,218),("World",834,573)]
noncomputable def kcL:List (Str×Nat×Nat):=[("Thing",40,37),("GemError",418,415)]
noncomputable def coL:List (Str×Nat):=[("MODULES",546),("UNMADE",558),("MIXED",550)]
noncomputable def je (o:Option (Option Value)) (a:Nat):Bool:=match o with
 |some o=>(match o with
  |some v=>(match v with
   |.ref b=>Nat.beq b a
   |_=>false)
  |none=>false)
 |none=>false
variable {o:Option (Option Value)} {a:Nat}
set_option tactic.hygienic true in
theorem fb (h:je o a=true):o=some (some (.ref a)):=by
 rcases o with _|_|v
 ·exact ch h
 ·exact ch h
 ·cases v
  case ref b=>rw[W9 h]
  all_goals exact ch h
noncomputable def fnB (w:World) (p:Str×Nat):Bool:=Nat.blt p.2 10000&&(je (nsIn (HK w.params) mainGlobals p.1) p.2&&keepIn (HK w.params) (.ref p.2))
theorem Hk:(UD.all λp=>fnB w p)=true:=by kernel_rfl
noncomputable def clB (w:World) (p:Str×Nat×Nat):Bool:=Nat.blt p.2.2 10000&&(je (nsIn (HK w.params) mainGlobals p.1) p.2.1&&(keepIn (HK w.params) (.ref p.2.1)&&(je (findIn (HK w.params) (.ref p.2.1) "__init__") p.2.2&&(makesIn (HK w.params) p.2.1&&isFn (HK w.params) (.ref p.2.2)))))
theorem qR:(clL.all λp=>clB w p)=true:=by kernel_rfl
theorem zW:(coL.all λp=>je (nsIn (HK w.params) mainGlobals p.1) p.2)=true:=by kernel_rfl
noncomputable def cfO (o:Option CFound) (f:Nat):Bool:=match o with
 |some c=>(match c with
  |.val v=>(match v with
   |.ref b=>Nat.beq b f
   |_=>false)
  |_=>false)
 |none=>false
set_option tactic.hygienic true in
theorem Xam {o:Option CFound} (h:cfO o a=true):o=some (.val (.ref a)):=by
 rcases o with _|c
 ·exact ch h
 ·cases c
  case val v=>
   cases v
   case ref b=>rw[W9 h]
   all_goals exact ch h
  all_goals exact ch h
noncomputable def kcB (w:World) (p:Str×Nat×Nat):Bool:=Nat.blt p.2.2 10000&&(je (nsIn (HK w.params) mainGlobals p.1) p.2.1&&(keepIn (HK w.params) (.ref p.2.2)&&(cfO (findCls (HK w.params) (.ref p.2.1) (.type "type") "__init__") p.2.2&&
 (specialIn (HK w.params) (.ref p.2.1) "__getattribute__"==some (some (.builtin "type.__getattribute__"))&&typeIn (HK w.params) (.ref p.2.1)==some (.type "type")&&readsIn (HK w.params) p.2.1 (.type "type")&&handedIn (.ref p.2.2)))))
theorem Gv:(kcL.all λp=>kcB w p)=true:=by kernel_rfl
noncomputable def kxB (w:World):Bool:=je (nsIn (HK w.params) mainGlobals "Raised") 438&&(keepIn (HK w.params) (.ref 438)&&(je (findIn (HK w.params) (.ref 438) "__init__") 435&&(d8 (HK w.params) 438&&isFn (HK w.params) (.ref 435))))
theorem D3:kxB w=true:=by kernel_rfl
noncomputable def zj (o:Option (Option Value)):Bool:=match o with
 |some o=>o.isNone
 |none=>false
theorem z7 (h:zj o=true):o=some none:=by
 rcases o with _|_|v
 ·exact ch h
 ·rfl
 ·exact ch h
noncomputable def biL:List Str:=["isinstance","len","max","min","abs","chr","range","list","ValueError","bool","int","str"]
theorem EK:(biL.all λx=>zj (nsIn (HK w.params) mainGlobals x))=true:=by kernel_rfl
variable {x:Str}
theorem eM (h:x∈biL):nsIn (HK w.params) mainGlobals x=some none:=z7 (WZ.mp (EK (w:=w)) x h)
def BM (a b:de):de:=λvs σ K=>a vs σ K∨b vs σ K
theorem nZ {f:Value} {a b:de} (ha:ft w f a) (hb:ft w f b):ft w f (BM a b):=λG Z Z Z Z Z Z Z Z H r m q=>m.elim (λm=>ha G H r m q) λm=>hb G H r m q
def dG:de:=BM oN (BM iC jb)
noncomputable def lk (l:List (Str×α)) (x:Str):Option α:=(l.find? λp=>p.1==x).map (·.2)
variable {β:Type}
theorem fY {P:β->Prop} {l:List (Str×α)} {f:α->Option β} (k:∀a,(x,a)∈l->Og P (f a)):Og P ((lk l x).bind f):=af (R:=λa=>(x,a)∈l) (λa e=>by
 refine bn (W8.mp e) λp c b=>?_;obtain rfl:=b;have z:=Zx c;rw[←XJ z];exact(Yh c)) k
noncomputable def bz (a b:Option β):Option β:=match a with
 |some x=>some x
 |none=>b
theorem bY {P:β->Prop} {a b:Option β} (h:Og P a) (k:Og P b):Og P (bz a b):=by
 cases a with
 |none=>exact k
 |some x=>exact h
def yQ (w:World) (κ:Ek) (x:Str) (g:AL->AE):Prop:=∀{e:Expr} {es:List Expr} {pos px:Pos} {ml:AL},(e::es).all bg=true->em w κ (e::es) ml->av w κ (.Call (.Name x px) (e::es) [] pos) (g ml)
noncomputable def biT:List (Str×de):=[("isinstance",bt),("len",aZ),("max",iw),("min",fk),("abs",eS),("chr",kC),("range",bD),("list",dG)]
noncomputable def rh (x:Str):Option (AL->AE):=bz ((lk UD x).bind λf=>some (ag f)) (bz ((lk clL x).bind λp=>some (ei p.1 p.2)) (bz (gd (x=="Raised") (some (GS 435))) ((lk biT x).bind λs=>some (bH s))))
theorem forall_cons {P:α->Prop} {a:α} {l:List α} (h:P a) (r:∀x∈l,P x):∀x∈a::l,P x:=λx b=>(WY.mp b).elim (λe=>e▸h) (r x)
theorem biA:∀p∈biT,bA κ p.1=true->yQ w κ p.1 (bH p.2):=
 forall_cons (λa Z Z Z Z Z b s=>pE (id:="isinstance") Ax (eM (Xw rfl)) (by kernel_rfl) a b s)
 (forall_cons (λa Z Z Z Z Z b s=>pE (id:="len") BI (eM (Xw rfl)) (by kernel_rfl) a b s)
 (forall_cons (λa Z Z Z Z Z b s=>pE (id:="max") Dp (eM (Xw rfl)) (by kernel_rfl) a b s)
 (forall_cons (λa Z Z Z Z Z b s=>pE (id:="min") G6 (eM (Xw rfl)) (by kernel_rfl) a b s)
 (forall_cons (λa Z Z Z Z Z b s=>pE (id:="abs") B7 (eM (Xw rfl)) (by kernel_rfl) a b s)
 (forall_cons (λa Z Z Z Z Z b s=>pE (id:="chr") FH (eM (Xw rfl)) (by kernel_rfl) a b s)
 (forall_cons (λa Z Z Z Z Z b s=>LW (id:="range") tB (eM (Xw rfl)) (by kernel_rfl) a b s)
 (forall_cons (λa Z Z Z Z Z b s=>LW (id:="list") (nZ wR (nZ mV mZ)) (eM (Xw rfl)) (by kernel_rfl) a b s) (λZ h=>nomatch h))))))))
theorem BO {f:Nat} (h:(x,f)∈UD):Nat.blt f 10000=true∧nsIn (HK w.params) mainGlobals x=some (some (.ref f))∧keepIn (HK w.params) (.ref f)=true:=by
 have z:=WZ.mp (Hk (w:=w)) _ h;dsimp only[fnB]at z;rw[WU,WU]at z;exact⟨z.1,fb z.2.1,z.2.2⟩
theorem r9 (hx:bA κ x=true):Og (yQ w κ x) (rh x):=by
 refine bY (fY λf a=>ah ?_) (bY (fY λp a=>ah ?_) (bY (bj λh=>ah ?_) (fY λs a=>ah (biA _ a hx))))
 ·intro e d b g i c s
  refine vR (BO (w:=w) a) λl k j=>?_;exact Cy l k hx (by rw[j,c];rfl) s
 ·intro e d b g i c s
  have z:=WZ.mp (qR (w:=w)) _ a;dsimp only[clB]at z;rw[WU,WU,WU,WU]at z;exact Tz z.1 (fb z.2.1) hx (by rw[z.2.2.1,c];rfl) (fb z.2.2.2.1) z.2.2.2.2 s
 ·intro e d b g i c s
  cases XJ h;have z:=D3 (w:=w);unfold kxB at z;rw[WU,WU,WU]at z;exact OL rfl (fb z.1) hx (by rw[z.2.1,c];rfl) (fb z.2.2.1) z.2.2.2 s
noncomputable def Ua:List (Str×Nat):=[("bool",0),("int",1),("str",2)]
theorem XeH:∀p∈Ua,∀pos,bA κ p.1=true->av w κ (.Name p.1 pos) (mG p.2):=
 forall_cons (λZ a=>G7 0 (eM (Xw rfl)) (by kernel_rfl) a)
 (forall_cons (λZ a=>G7 1 (eM (Xw rfl)) (by kernel_rfl) a)
 (forall_cons (λZ a=>G7 2 (eM (Xw rfl)) (by kernel_rfl) a) (λZ h=>nomatch h)))
noncomputable def q8 (x:Str):Option AE:=bz ((lk UD x).bind λf=>some (aG f)) (bz ((lk clL x).bind λp=>some (aG p.1)) (bz ((lk coL x).bind λa=>some (aG a)) ((lk Ua x).bind λi=>some (mG i))))
variable {pos:Pos}
theorem pu (hx:bA κ x=true):Og (av w κ (.Name x pos)) (q8 x):=by
 refine bY (fY λf b=>ah (s_g (BO b).2.1 hx)) (bY (fY λp b=>ah ?_) (bY (fY λa b=>ah (s_g (fb (WZ.mp zW _ b)) hx)) ?_))
 ·have z:=WZ.mp (qR (w:=w)) _ b
  dsimp only[clB]at z;rw[WU,WU]at z;exact s_g (fb z.2.1) hx
 ·exact fY λi b=>ah (XeH _ b _ hx)
noncomputable def sH (x:Str):Bool:= !(x==("__debug__":Str))
noncomputable def tf (κ:Ek) (x:Str):Option AE:=match κ.cm with
 |none=>bz ((dI κ.ns x).bind λi=>some (aV i)) (bz ((dI κ.cn x).bind λi=>gd (sH x) (some (aC i))) (gd (bA κ x) (q8 x)))
 |some p=>bz (gd (x==p.2&&(p.1.kind== .function&&p.1.names.lookup x==some .local&&sH x)) (some aX)) (bz ((dI κ.cn x).bind λi=>gd (!κ.lm&&(p.1.names.lookup x==some .free&&sH x)) (some (aC i))) (gd (bA κ x) (q8 x)))
theorem vd:Og (av w κ (.Name x pos)) (tf κ x):=by
 unfold tf;cases hc:κ.cm with
 |none=>exact bY (dZ λi h=>ah (s_v i h hc)) (bY (dZ λi h=>bj λa=>ah (s_c i h hc a)) (bj pu))
 |some p=>
  obtain⟨s,y⟩:=p;refine bY (bj λh=>ah ?_) (bY (dZ λi h=>bj λa=>ah ?_) (bj pu))
  ·rw[WU]at h
   cases XJ h.1;exact s_x hc h.2
  ·rw[WU,Xj]at a
   exact XfM a.1 i h hc a.2
noncomputable def hdL:List Nat:=[461,517,454,510]
theorem Ab:(hdL.all λf=>Nat.blt f 10000&&keepIn (HK w.params) (.ref f))=true:=by kernel_rfl
def kJ (m:AE) (ml:AL):AE:=λΦ fr σ K KE=>m Φ fr σ (λv σ=>gA v λf=>hdL.contains f=true∧ml Φ fr σ (λvs σ=>Φ 0 f vs σ K KE) KE) KE
theorem xh {o i e:Expr} {es:List Expr} {pos p:Pos} {m:AE} {ml:AL} (hk:(e::es).all bg=true) (sm:av w κ (.Subscript o i p) m) (s:em w κ (e::es) ml):av w κ (.Call (.Subscript o i p) (e::es) [] pos) (kJ m ml):=by
 intro G R T h t K Q H m q;refine gJ rfl (sm G H m λI A D n F B d v b c=>?_);obtain⟨f,y,O,k⟩:=gi c;have x:=v;rw[y]at x;have z:=WZ.mp (Ab (w:=w)) f (XU.mp O);rw[WU]at z;obtain⟨g,P,l,S⟩:=b.S;rw[show n=.ref f from x];exact bL g (wN (G.O.turn S.T) (by rw[z.2,hk];rfl) (yR g (s G b k λM L C E J N j r a u=>HC g a (lU z.1 a r u (q.pre (d.trans j))))))
def NX (σ:Sg) (x y:SV) (K:KV):Prop:=bF x λk=>bF y λk2=>bN σ k λo=>bN σ k2 λo2=>cP o λxs=>cP o2 λys=>(xs.length≤1000∧ys.length≤1000)∧K (.ref σ.nx) (σ.new (.list (xs++ys)))
theorem Vd {G:Cw w κ} {τ:Tb} {σ:Sg} {h:Heap} {t:Nat} {x y:SV} {A B:Value} {K:KV} {Q:Value->Heap->Nat->Prop} (H:Hs G τ σ h) (ra:RV τ x A) (rb:RV τ y B) (m:NX σ x y K) (q:QE G τ K Q):Wp G.c (binaryOp .Add A B) Q h t:=by
 obtain⟨k,rfl,p1⟩:=bh m;obtain⟨z,rfl,o,h1,o2,h2,p2⟩:=bh p1;obtain⟨f,rfl,p3⟩:=cq p2;obtain⟨e,rfl,p⟩:=cq p3;obtain⟨i,j,l,S⟩:=H.S;obtain⟨x,d,rfl,hk,vs,n,i1,i2⟩:=S.R.get ra h1;obtain⟨u,r,rfl,hk2,vs2,n2,j1,j2⟩:=S.R.get rb h2;refine bL i (add_lists (s:=⟨h,G.c.gn,G.c.d,t,G.c.os⟩) (hsz:=by rw[XI,i2.len,j2.len];omega) S.A.F S.A.N (bJ S.A.N i1) (bJ S.A.N j1) λv b g=>aJ (c:=G.c) ?_);exact dN H S ⟨b,g,S.A.k.cons λp a=>Xe (S.A.N p a).1⟩ (o:=.list (f++e)) ⟨_,0,.head _,bZ.app (j2.up (S.R.le_up _)) (i2.up (S.R.le_up _))⟩ p.2 q _
def q5 (m1 m2:AE):AE:=λΦ fr σ K KE=>m1 Φ fr σ (λx σ=>m2 Φ fr σ (λy σ=>NX σ x y K) KE) KE
variable {a b:Expr}
theorem CT {m1 m2:AE} (s1:av w κ a m1) (s2:av w κ b m2):av w κ (.BinOp a .Add b pos) (q5 m1 m2):=λG Z Z Z Z Z Z H m q=>
 rM (s1 G H m λt k o s r l e i j d=>s2 G j d λx v n p u y c g f h=>Vd f (i.up c) g h (q.pre (e.trans c)))
noncomputable def hU (p:Arguments):Bool:=p.posonlyargs.isEmpty&&(p.args.isEmpty&&(p.vararg.isNone&&(p.kwonlyargs.isEmpty&&(p.kw_defaults.isEmpty&&(p.kwarg.isNone&&p.defaults.isEmpty)))))
variable {p:Arguments}
theorem iT (h:hU p=true):p=⟨[],[],none,[],[],none,[]⟩:=by
 obtain⟨a,b,c,d,e,f,g⟩:=p;dsimp only[hU]at h;simp only[WU,Y3,XW]at h;obtain⟨rfl,rfl,rfl,rfl,rfl,rfl,rfl⟩:=h;rfl
noncomputable def wI (f:Expr->Expr->Bool):List Expr->List Expr->Bool
 |[],bs=>bs.isEmpty
 |a::as,bs=>match bs with
  |[]=>false
  |b::bs=>f a b&&wI f as bs
noncomputable def vwN (v:Vw) (K:Str->Pos->Bool):Bool:=match v with
 |.name y q=>K y q
 |_=>false
noncomputable def vwC (v:Vw) (K:Const->Nat->Pos->Bool):Bool:=match v with
 |.con d l q=>K d l q
 |_=>false
noncomputable def vwU (v:Vw) (K:Expr->Expr->Pos->Bool):Bool:=match v with
 |.sub o i q=>K o i q
 |_=>false
noncomputable def vwK (v:Vw) (K:Expr->List Expr->List Keyword->Pos->Bool):Bool:=match v with
 |.call g bs ls q=>K g bs ls q
 |_=>false
variable {v:Vw}
theorem Xal {K:Str->Pos->Bool} (h:vwN v K=true):∃y q,v=.name y q∧K y q=true:=by cases v<;>first|exact(uu _ _ rfl h)|exact absurd h XE
theorem Xeu {K:Const->Nat->Pos->Bool} (h:vwC v K=true):∃d l q,v=.con d l q∧K d l q=true:=by cases v<;>first|exact(uA _ _ _ rfl h)|exact absurd h XE
theorem XeG {K:Expr->Expr->Pos->Bool} (h:vwU v K=true):∃o i q,v=.sub o i q∧K o i q=true:=by cases v<;>first|exact(uA _ _ _ rfl h)|exact absurd h XE
theorem Xed {K:Expr->List Expr->List Keyword->Pos->Bool} (h:vwK v K=true):∃g bs ls q,v=.call g bs ls q∧K g bs ls q=true:=by cases v<;>first|exact(yT _ _ _ _ rfl h)|exact absurd h XE
noncomputable def eqV (f:Expr->Expr->Bool) (u v:Vw):Bool:=match u with
 |.name x p=>vwN v λy q=>x==y&&decide (p=q)
 |.con c k p=>vwC v λd l q=>decide (c=d)&&(k==l&&decide (p=q))
 |.sub o i p=>vwU v λo' i' q=>f o o'&&(f i i'&&decide (p=q))
 |.call g as ks p=>vwK v λg' bs ls q=>f g g'&&(wI f as bs&&((ks.isEmpty&&ls.isEmpty)&&decide (p=q)))
 |_=>false
noncomputable def eqE:Nat->Expr->Expr->Bool
 |0,_,_=>false
 |n+1,a,b=>eqV (eqE n) (dl a) (dl b)
variable {f:Expr->Expr->Bool}
theorem Ju (h:∀a b,f a b=true->a=b) {as:List Expr}:∀{bs:List Expr},wI f as bs=true->as=bs:=by
 induction as with
 |nil=>intro bs e;exact(Y3.mp e).symm
 |cons a as ih=>
  intro bs e;cases bs with
  |nil=>exact ch e
  |cons b bs=>
   have e:(f a b&&wI f as bs)=true:=e;rw[WU]at e;rw[h a b e.1,ih e.2]
theorem XdU (h:∀a b,f a b=true->a=b) {u v:Vw} (hu:u.is a) (hv:v.is b) (e:eqV f u v=true):a=b:=by
 cases u<;>first|(exact ch e;done)|skip
 ·refine gS (Xal e) λy q k e=>?_;obtain rfl:=k
  have e:=(WU _ _).mp e;rw[hu,hv,XJ e.1,W5 e.2]
 ·refine uz (XeG e) λo i q j e=>?_;obtain rfl:=j
  have e:=(WU _ _).mp e;have c:=(WU _ _).mp e.2;rw[hu,hv,h _ _ e.1,h _ _ c.1,W5 c.2]
 ·refine Hp (Xed e) λg p n q m e=>?_;obtain rfl:=m
  have e:=(WU _ _).mp e;have c:=(WU _ _).mp e.2;rw[hu,hv,h _ _ e.1,Ju h c.1,Y3.mp ((WU _ _).mp ((WU _ _).mp c.2).1).1,Y3.mp ((WU _ _).mp ((WU _ _).mp c.2).1).2,W5 ((WU _ _).mp c.2).2]
 ·refine uz (Xeu e) λd l q j e=>?_;obtain rfl:=j
  have e:=(WU _ _).mp e;have c:=(WU _ _).mp e.2;rw[hu,hv,W5 e.1,XJ c.1,W5 c.2]
theorem XaK {n:Nat}:∀(a b:Expr),eqE n a b=true->a=b:=by
 induction n with
 |zero=>intro a b e;exact ch e
 |succ n ih=>exactλa b e=>XdU ih (bw a).is (bw b).is e
noncomputable def TD (v:Value) (a:Nat):Bool:=match v with
 |.ref b=>Nat.beq b a
 |_=>false
set_option tactic.hygienic true in
theorem Jq {v:Value} {a:Nat} (h:TD v a=true):v=.ref a:=by
 cases v
 case ref b=>exact Yi _ (W9 h)
 all_goals exact ch h
noncomputable def t7 (κ:Ek) (j kT:Nat) (P cA:Addr) (p:Arguments) (b:Expr) (s:Scope) (pos:Pos):Option AE:=
 gd (hU p&&hU (aT j).params&&(eqE 9 (aT j).body b&&decide ((aT j).scope=s))&&(κ.cm.isNone&& !κ.lm&&(TD κ.cd cA&&((κ.qn++".<locals>.")++"<lambda>"==(aT j).qual)))&&vU κ (aT j) ((aT j).cn.map λy=>(dI κ.cn y).getD 0))
  (some (lP j (aT j).qual kT P ((aT j).cn.map λy=>(dI κ.cn y).getD 0) pos.line pos.col))
theorem jM {cA P:Addr} (h:(cA,P)=(924,920)∨(cA,P)=(934,932)):∀hp:Heap,(HK w.params).In hp->CodeHd hp cA P:=λhp X=>by
 rcases h with h|h<;>cases h
 ·exact(Us _ _ _ _ _ _ (V3 _ _ _ (X _ _ (by kernel_rfl:(HK w.params).lookup 924=some F5)) rfl rfl rfl rfl ⟨rfl,rfl,rfl,rfl,by decide⟩))
 ·exact(Us _ _ _ _ _ _ (V3 _ _ _ (X _ _ (by kernel_rfl:(HK w.params).lookup 934=some Ga)) rfl rfl rfl rfl ⟨rfl,rfl,rfl,rfl,by decide⟩))
theorem hZ {j kT:Nat} {P cA:Addr} (h:(cA,P)=(924,920)∨(cA,P)=(934,932)):Og (av w κ (.Lambda p b s pos)) (t7 κ j kT P cA p b s pos):=by
 refine bj λz=>ah ?_;simp only[WU,Xj,XZ,XW]at z;obtain⟨⟨⟨⟨m,a⟩,e,d⟩,⟨k,l⟩,c,g⟩,f⟩:=z;have z:=Mx (w:=w) j rfl (kT:=kT) (pos:=pos) k l f (XJ g) (λi=>by rw[iT a];rfl) (Jq c) (jM h);rw[iT a,XaK _ _ e,d,←iT m]at z;exact z
noncomputable def OV (κ:Ek) (p:Arguments) (b:Expr) (s:Scope) (pos:Pos):Option AE:=bz (t7 κ 0 0 920 924 p b s pos) (bz (t7 κ 1 0 920 924 p b s pos) (bz (t7 κ 2 1 932 934 p b s pos) (t7 κ 3 1 932 934 p b s pos)))
theorem xe:Og (av w κ (.Lambda p b s pos)) (OV κ p b s pos):=bY (hZ (.inl rfl)) (bY (hZ (.inl rfl)) (bY (hZ (.inr rfl)) (hZ (.inr rfl))))
abbrev DE:=Ek->Expr->Option AE
abbrev DT:=Ek->Expr->Option AT
def SE (w:World) (E:DE):Prop:=∀κ e,Og (av w κ e) (E κ e)
def ST (w:World) (T:DT):Prop:=∀κ e,Og (fp w κ e) (T κ e)
noncomputable def dL (E:DE) (κ:Ek):List Expr->Option AL
 |[]=>some ab
 |e::es=>(E κ e).bind λm=>(dL E κ es).bind λml=>some (aa m ml)
noncomputable def V5 (E:DE) (κ:Ek):List Expr->Option (List AE)
 |[]=>some []
 |e::es=>(E κ e).bind λm=>(V5 E κ es).bind λml=>some (m::ml)
noncomputable def Wd (T:DT) (κ:Ek):List Expr->Option (List AT)
 |[]=>some []
 |e::es=>(T κ e).bind λm=>(Wd T κ es).bind λml=>some (m::ml)
noncomputable def dP (E:DE) (κ:Ek) (o:Option Expr):Option (Option AE):=match o with
 |none=>some none
 |some e=>(E κ e).bind λm=>some (some m)
section
variable {E:DE} {T:DT} (hE:SE w E) (hT:ST w T)
include hE
theorem iY (es:List Expr):Og (em w κ es) (dL E κ es):=by
 induction es with
 |nil=>exact ah Qy
 |cons e es ih=>exact af (hE κ e) λm s=>af ih λa r=>ah (Ge s r)
theorem tR (es:List Expr):Og (iU w κ es) (V5 E κ es):=by
 induction es with
 |nil=>exact ah .nil
 |cons e es ih=>exact af (hE κ e) λm s=>af ih λa r=>ah (.cons s r)
theorem yc (o:Option Expr):Og (pL w κ o) (dP E κ o):=by
 cases o with
 |none=>exact ah .none
 |some e=>exact af (hE κ e) λm s=>ah (.some s)
omit hE in
include hT in
theorem tJ (es:List Expr):Og (jp w κ es) (Wd T κ es):=by
 induction es with
 |nil=>exact ah .nil
 |cons e es ih=>exact af (hT κ e) λm s=>af ih λa r=>ah (.cons s r)
end
noncomputable def yI (x:Str):Option (AE->AL->AE):=bz (gd (x=="get") (some (kY iS fy))) (bz (gd (x=="extend") (some (kY eW ku))) (bz (gd (x=="pop") (some (kY eW nJ))) (gd (x=="join") (some (kY gR dq)))))
def S5 (w:World) (κ:Ek) (x:Str) (g:AE->AL->AE):Prop:=∀{o e:Expr} {es:List Expr} {pos apos:Pos} {mo:AE} {ml:AL},io o=true->(e::es).all bg=true->(Nat.blt (e::es).length 30&&(apos.endLine==pos.line))=true->av w κ o mo->em w κ (e::es) ml->av w κ (.Call (.Attribute o x apos) (e::es) [] pos) (g mo ml)
theorem TO:Og (S5 w κ x) (yI x):=by
 refine bY (bj λh=>ah ?_) (bY (bj λh=>ah ?_) (bY (bj λh=>ah ?_) (bj λh=>ah ?_)))<;>(cases XJ h;intro o e j i g l k f c b a d)
 ·exact xu wX ((bw o).call f _) c b a d
 ·exact xu Gx ((bw o).call f _) c b a d
 ·exact xu FY ((bw o).call f _) c b a d
 ·exact xu vx ((bw o).call f _) c b a d
def Nz (w:World) (κ:Ek) (x:Str) (g:AL->AE):Prop:=∀{e:Expr} {es:List Expr} {pos px apos:Pos} {ml:AL},(e::es).all bg=true->(Nat.blt (e::es).length 30&&(apos.endLine==pos.line))=true->em w κ (e::es) ml->av w κ (.Call (.Attribute (.Name x px) "__init__" apos) (e::es) [] pos) (g ml)
noncomputable def yg (x:Str):Option (AL->AE):=bz (gd (x=="ValueError") (some (bH jW))) ((lk kcL x).bind λp=>some (ag p.2))
theorem Kw (hx:bA κ x=true):Og (Nz w κ x) (yg x):=by
 refine bY (bj λh=>ah ?_) (fY λp f=>ah ?_)
 ·cases XJ h
  intro e g b i a j d c s;exact RN rfl (λZ Z=>rfl) (eM (.tail _ (.tail _ (.tail _ (.tail _ (.tail _ (.tail _ (.tail _ (.tail _ (.head _)))))))))) hx d c s
 ·intro e g b i a j d c s
  have z:=WZ.mp (Gv (w:=w)) _ f;unfold kcB at z;rw[WU,WU,WU,WU]at z;exact xV z.1 (λZ Z=>rfl) (fb z.2.1) hx (by rw[z.2.2.1,d];rfl) c (Xam z.2.2.2.1) z.2.2.2.2 s
noncomputable def mOk (o:Expr) (es:List Expr) (apos pos:Pos):Bool:=io o&&(es.all bg&&(Nat.blt es.length 30&&(apos.endLine==pos.line)))
noncomputable def mK (E:DE) (κ:Ek) (o:Expr) (a:Str) (apos:Pos) (as:List Expr) (pos:Pos):Option AE:=gd (mOk o as apos pos) (bz
 (gd (a=="__init__") (match dl o with
  |.name x _=>gd (bA κ x) (match as with
   |[]=>none
   |e::es=>(yg x).bind λg=>(dL E κ (e::es)).bind λml=>some (g ml))
  |_=>none)) (bz
 (match as with
  |[]=>none
  |e::es=>(yI a).bind λg=>(E κ o).bind λmo=>(dL E κ (e::es)).bind λml=>some (g mo ml))
 ((dI cx a).bind λi=>(E κ o).bind λmo=>(dL E κ as).bind λml=>some (am mo i ml))))
noncomputable def sM (E:DE) (κ:Ek) (f:Expr) (as:List Expr) (pos:Pos):Option AE:=match dl f with
 |.name x _=>(match as with
  |[]=>bz (match κ.cm with
    |none=>(dI κ.ns x).bind λi=>some (xC i)
    |some _=>none) (gd (bA κ x) ((lk UD x).bind λf=>some (ag f ab)))
  |e::es=>gd (bA κ x&&(e::es).all bg) ((rh x).bind λg=>(dL E κ (e::es)).bind λml=>some (g ml)))
 |.attr o a apos=>mK E κ o a apos as pos
 |.sub o i p=>(match as with
  |[]=>none
  |e::es=>gd ((e::es).all bg) ((E κ (.Subscript o i p)).bind λm=>(dL E κ (e::es)).bind λml=>some (kJ m ml)))
 |_=>none
noncomputable def DD (E:DE) (κ:Ek) (o i:Expr):Option AE:=match dl i with
 |.slice lo hi st _=>(match st with
  |none=>(E κ o).bind λm=>(dP E κ lo).bind λma=>(dP E κ hi).bind λmb=>some (ew m ma mb)
  |some _=>none)
 |_=>gd (kS i) (bz (match dl o with
   |.name x _=>gd (x=="BUILTINS"&&bA κ x) ((E κ i).bind λm=>some (ki m))
   |_=>none) ((E κ o).bind λm=>(E κ i).bind λmi=>some (ax m mi)))
noncomputable def dBd (E:DE) (T:DT) (κ:Ek) (ifs:List Expr) (elt:Expr):Option n4:=match ifs with
 |[]=>(E κ elt).bind λm=>some (cB m)
 |c::r=>(match r with
  |[]=>(T κ c).bind λmt=>(E κ elt).bind λm=>some (pZ mt m)
  |_::_=>none)
noncomputable def nX (E:DE) (T:DT) (κ:Ek) (elt:Expr) (gens:List Comprehension) (scope:Scope):Option (AE×n4):=match κ.cm with
 |some _=>none
 |none=>(match gens with
  |[]=>none
  |g::r=>(match r with
   |_::_=>none
   |[]=>(match dl g.target with
    |.name x _=>gd (decide (g.is_async=0)&&(gQ g.iter&&i8 κ scope x)) ((E κ g.iter).bind λm=>(dBd E T (κ.comp scope x) g.ifs elt).bind λb=>some (m,b))
    |_=>none)))
noncomputable def M8 (c:Const):Option AE:=match c with
 |.none=>some aN
 |.bool b=>some (aB b)
 |.int i=>some (aI i)
 |.str z=>some (aS z)
 |_=>none
noncomputable def KR (E:DE) (κ:Ek) (l:Expr) (ops:List CmpOp) (rs:List Expr):Option AE:=match ops with
 |[]=>none
 |op::ops=>(match ops with
  |_::_=>none
  |[]=>(match rs with
   |[]=>none
   |r::rs=>(match rs with
    |_::_=>none
    |[]=>gd (gQ r) ((E κ l).bind λm1=>(E κ r).bind λm2=>some (bG op m1 m2)))))
noncomputable def XbM (l:Bool) (op:Operator) (m1 m2:AE):Option AE:=match l with
 |false=>some (ap op m1 m2)
 |true=>(match op with
  |.Add=>some (q5 m1 m2)
  |_=>none)
noncomputable def tt (E:DE) (T:DT):DE:=λκ e=>match e with
 |.Name x _=>tf κ x
 |.Constant c _ _=>M8 c
 |.BinOp a op b _=>(E κ a).bind λm1=>(E κ b).bind λm2=>XbM (tT a) op m1 m2
 |.UnaryOp op a _=>(match op with
  |.USub=>(E κ a).bind λm=>some (jR m)
  |.Not=>(E κ a).bind λm=>some (ud m)
  |_=>none)
 |.Compare l ops rs _=>KR E κ l ops rs
 |.BoolOp op es _=>(match op with
  |.And=>(match es with
   |[]=>none
   |e::es=>(E κ e).bind λm=>(V5 E κ es).bind λms=>some (eL m ms))
  |.Or=>(match es with
   |[]=>none
   |a::es=>(match es with
    |[]=>none
    |b::es=>(match es with
     |[]=>(E κ a).bind λm1=>(E κ b).bind λm2=>some (rO m1 m2)
     |_::_=>none))))
 |.IfExp t a b _=>(T κ t).bind λmt=>(E κ a).bind λm1=>(E κ b).bind λm2=>some (aO mt m1 m2)
 |.Tuple es _ _=>gd (es.all bg) ((dL E κ es).bind λml=>some (aU ml))
 |.List es _=>gd (es.all bg) ((dL E κ es).bind λml=>some (bK ml))
 |.Dict ks vs _=>(match ks with
  |[]=>(match vs with
   |[]=>some gW
   |_::_=>none)
  |_::_=>none)
 |.Attribute o a _=>(dI cx a).bind λi=>gd (io o) ((E κ o).bind λm=>some (aj m i))
 |.Subscript o i _=>DD E κ o i
 |.Call f as ks pos=>(match ks with
  |[]=>sM E κ f as pos
  |_::_=>none)
 |.ListComp elt gens scope _=>(nX E T κ elt gens scope).bind λp=>some (bP p.1 p.2)
 |.JoinedStr es _=>(match es with
  |[]=>none
  |e1::es=>(match es with
   |[]=>none
   |e2::es=>(V5 E κ (e1::e2::es)).bind λms=>some (fc ms Str.empty)))
 |.FormattedValue a cv sp _=>(match sp with
  |none=>gd (decide (cv=-1)) ((E κ a).bind λm=>some (lF m))
  |some _=>none)
 |.Lambda p b s pos=>OV κ p b s pos
 |_=>none
noncomputable def zK (E:DE) (κ:Ek) (l:Expr) (ops:List CmpOp) (rs:List Expr):Option AT:=match ops with
 |[]=>none
 |op::ops=>(match rs with
  |[]=>none
  |r::rs=>(match ops with
   |[]=>(match rs with
    |[]=>gd (gQ r) ((E κ l).bind λm1=>(E κ r).bind λm2=>some (ai op m1 m2))
    |_::_=>none)
   |op'::ops=>(match rs with
    |[]=>none
    |r'::rs=>(match ops with
     |_::_=>none
     |[]=>(match rs with
      |_::_=>none
      |[]=>gd (gQ r') ((E κ l).bind λm1=>(E κ r).bind λm2=>(E κ r').bind λm3=>some (kZ op op' m1 m2 m3)))))))
noncomputable def ru (E:DE) (T:DT):DT:=λκ e=>match e with
 |.UnaryOp op a _=>(match op with
  |.Not=>(T κ a).bind λm=>some (cF m)
  |_=>none)
 |.BoolOp op es _=>(match op with
  |.And=>(Wd T κ es).bind λms=>some (bO ms)
  |.Or=>(Wd T κ es).bind λms=>some (cD ms))
 |.Compare l ops rs _=>zK E κ l ops rs
 |e=>gd (Dl e) ((E κ e).bind λm=>some (aP m))
end
section
variable {w:World} {κ:Ek}
section
variable {E:DE} {T:DT} (hE:SE w E) (hT:ST w T)
include hE
theorem pH {o:Expr} {a:Str} {apos pos:Pos} {as:List Expr}:Og (av w κ (.Call (.Attribute o a apos) as [] pos)) (mK E κ o a apos as pos):=by
 unfold mK;refine bj λz=>?_;unfold mOk at z;rw[WU,WU]at z;refine bY (bj λl=>?_) (bY ?_ ?_)
 ·have f:=(bw o).is
  cases hw:dl o<;>first|exact al|skip
  rw[hw]at f;obtain rfl:=f;refine bj λk=>?_;cases XJ l;cases as with
  |nil=>exact al
  |cons e es=>exact af (Kw k) λg b=>af (iY hE _) λd s=>ah (b z.2.1 z.2.2 s)
 ·cases as with
  |nil=>exact al
  |cons e es=>exact af TO λg b=>af (hE κ o) λj c=>af (iY hE _) λd s=>ah (b z.1 z.2.1 z.2.2 c s)
 ·exact dZ λi h=>af (hE κ o) λj c=>af (iY hE _) λd s=>ah (AN i (i7 h) ((bw o).call z.1 _) z.2.1 z.2.2 c s)
theorem tH {f:Expr} {as:List Expr} {pos:Pos}:Og (av w κ (.Call f as [] pos)) (sM E κ f as pos):=by
 unfold sM;have a:=(bw f).is;cases hw:dl f<;>rw[hw]at a<;>first|exact al|obtain rfl:=a
 ·cases as with
  |nil=>
   refine bY ?_ (bj λn=>fY λf c=>ah ?_)
   ·cases hc:κ.cm with
    |none=>exact dZ λi b=>ah (QK i b hc)
    |some p=>exact al
   ·refine vR (BO (w:=w) c) λq l j=>?_
    exact vY q l n j
  |cons e es=>exact bj λh=>af (r9 ((WU _ _).mp h).1) λg k=>af (iY hE _) λd s=>ah (k ((WU _ _).mp h).2 s)
 ·exact pH hE
 ·cases as with
  |nil=>exact al
  |cons e es=>exact bj λh=>af (hE κ _) λm o=>af (iY hE _) λd s=>ah (xh h o s)
set_option tactic.hygienic true in
theorem xU {o i:Expr} {pos:Pos}:Og (av w κ (.Subscript o i pos)) (DD E κ o i):=by
 unfold DD;have a:=(bw i).is;have c:Og (av w κ (.Subscript o i pos)) (gd (kS i) (bz (match dl o with
   |.name x _=>gd (x=="BUILTINS"&&bA κ x) ((E κ i).bind λm=>some (ki m))
   |_=>none) ((E κ o).bind λm=>(E κ i).bind λf=>some (ax m f)))):=by
  refine bj λh=>bY ?_ (af (hE κ o) λm e=>af (hE κ i) λf b=>ah (Vx ((bw i).slice h) e b));have a:=(bw o).is;cases hw:dl o<;>first|exact al|skip
  rw[hw]at a;obtain rfl:=a;refine bj λd=>af (hE κ i) λm b=>ah ?_;rw[WU]at d;cases XJ d.1;exact uS (fb (by kernel_rfl:je (nsIn (HK w.params) mainGlobals "BUILTINS") 547=true)) d.2 ((bw i).slice h) b
 cases hw:dl i<;>first|exact c|skip
 rw[hw]at a;obtain rfl:=a;rename_i lo hi st p;cases st with
 |some _=>exact al
 |none=>exact af (hE κ o) λm e=>af (yc hE lo) λl j=>af (yc hE hi) λk g=>ah (wz e j g)
include hT
theorem EH {ifs:List Expr} {elt:Expr}:Og (jf w κ ifs elt) (dBd E T κ ifs elt):=by
 rcases ifs with _|⟨c,_|⟨d,r⟩⟩
 ·exact af (hE κ elt) λm s=>ah (c_b s)
 ·exact af (hT κ c) λb a=>af (hE κ elt) λm s=>ah (WI a s)
 ·exact al
structure Pe (w:World) (κ:Ek) (elt:Expr) (gens:List Comprehension) (scope:Scope) (p:AE×n4):Prop where
 cm:κ.cm=none
 ok:∃x px iter ifs,gens=[⟨.Name x px,iter,ifs,0⟩]∧(∀env v,foldedSetIterable iter env v=pure v)∧i8 κ scope x=true∧av w κ iter p.1∧jf w (κ.comp scope x) ifs elt p.2
theorem lG {elt:Expr} {gens:List Comprehension} {scope:Scope}:Og (Pe w κ elt gens scope) (nX E T κ elt gens scope):=by
 unfold nX;cases hc:κ.cm with
 |some _=>exact al
 |none=>
  rcases gens with _|⟨g,_|⟨g2,r⟩⟩
  ·exact al
  ·obtain⟨d,c,e,a⟩:=g
   have f:=(bw d).is;show Og _ (match dl d with
    |.name x _=>gd (decide (a=0)&&(gQ c&&i8 κ scope x)) ((E κ c).bind λm=>(dBd E T (κ.comp scope x) e elt).bind λb=>some (m,b))
    |_=>none)
   cases hw:dl d<;>first|exact al|skip
   rw[hw]at f;obtain rfl:=f;refine bj λh=>af (hE κ c) λm s=>af (EH hE hT) λb i=>ah ?_;rw[WU,WU,XZ]at h;cases h.1;exact⟨hc,_,_,_,_,rfl,((bw c).set h.2.1).1,h.2.2,s,i⟩
  ·exact al
end
variable {k:Nat}
theorem u9 {c:Const} {pos:Pos}:Og (av w κ (.Constant c k pos)) (M8 c):=by
 cases c<;>first|exact al|skip
 ·exact ah s_n
 ·exact ah s_b
 ·exact ah s_i
 ·exact ah s_s
section
variable {E:DE} {T:DT} (hE:SE w E) (hT:ST w T)
include hE
theorem vP {l:Expr} {ops:List CmpOp} {rs:List Expr} {pos:Pos}:Og (av w κ (.Compare l ops rs pos)) (KR E κ l ops rs):=by
 rcases ops with _|⟨op,_|⟨op2,ops⟩⟩<;>first|exact al|skip
 rcases rs with _|⟨r,_|⟨r2,rs⟩⟩<;>first|exact al|skip
 exact bj λh=>af (hE κ l) λc a=>af (hE κ r) λd b=>ah (Ox (((bw r).set h).2 op) a b)
theorem sV {l:Expr} {ops:List CmpOp} {rs:List Expr} {pos:Pos}:Og (fp w κ (.Compare l ops rs pos)) (zK E κ l ops rs):=by
 rcases ops with _|⟨op,ops⟩
 ·exact al
 rcases rs with _|⟨r,rs⟩
 ·exact al
 rcases ops with _|⟨op',ops⟩
 ·rcases rs with _|⟨r',rs⟩
  ·exact bj λh=>af (hE κ l) λc a=>af (hE κ r) λe b=>ah (O6 (((bw r).set h).2 op) a b)
  ·exact al
 ·rcases rs with _|⟨r',rs⟩
  ·exact al
  rcases ops with _|⟨op2,ops⟩
  ·rcases rs with _|⟨r2,rs⟩
   ·exact bj λh=>af (hE κ l) λc a=>af (hE κ r) λe b=>af (hE κ r') λf d=>ah (DB (sK h) a b d)
   ·exact al
  ·exact al
include hT
set_option tactic.hygienic true in
theorem J7:SE w (tt E T):=λc e=>by
 cases e<;>first|exact al|skip
 case Name=>exact vd
 case Constant=>exact u9
 case BinOp a op b pos=>
  refine af (hE c a) λq j=>af (hE c b) λn g=>?_;cases tT a
  ·exact ah (QW j g)
  ·cases op<;>first|exact al|exact ah (CT j g)
 case UnaryOp op a pos=>
  cases op<;>first|exact al|skip
  ·exact af (hE c a) λm s=>ah (Nb s)
  ·exact af (hE c a) λm s=>ah (Op s)
 case Compare=>exact vP hE
 case BoolOp op es pos=>
  cases op
  ·cases es with
   |nil=>exact al
   |cons e es=>exact af (hE c e) λm s=>af (tR hE es) λF r=>ah (IV s r)
  ·rcases es with _|⟨a,_|⟨b,_|⟨d,es⟩⟩⟩<;>first|exact al|skip
   exact af (hE c a) λq j=>af (hE c b) λn g=>ah (Xbc j g)
 case IfExp t a b pos=>exact af (hT c t) λI z=>af (hE c a) λq j=>af (hE c b) λn g=>ah (UY z j g)
 case Tuple es k pos=>exact bj λh=>af (iY hE es) λv s=>ah (PE h s)
 case List es pos=>exact bj λh=>af (iY hE es) λv s=>ah (Sq h s)
 case Dict ks vs pos=>
  cases ks with
  |cons _ _=>exact al
  |nil=>cases vs with
   |cons _ _=>exact al
   |nil=>exact ah Re
 case Attribute o a pos=>exact dZ λi A=>bj λh=>af (hE c o) λm s=>ah (CR i (i7 A) ((bw o).call h _) s)
 case Subscript o i pos=>exact xU hE
 case Call f as ks pos=>
  cases ks with
  |nil=>exact tH hE
  |cons _ _=>exact al
 case ListComp elt gens scope pos=>
  refine af (lG hE hT) λp h=>ah ?_;refine rL h.ok λx H u C l G y B D=>?_;obtain rfl:=l;exact Dr h.cm G y B D
 case JoinedStr es pos=>
  rcases es with _|⟨a,_|⟨b,es⟩⟩<;>first|exact al|skip
  exact af (tR hE _) λF s=>ah (FW s)
 case FormattedValue a cv sp pos=>
  cases sp with
  |some _=>exact al
  |none=>
   refine bj λh=>af (hE c a) λm s=>ah ?_;cases W5 h;exact OS s
 case Lambda=>exact xe
set_option tactic.hygienic true in
theorem Od:ST w (ru E T):=λc e=>by
 have b:∀e,Og (fp w c e) (gd (Dl e) ((E c e).bind λm=>some (aP m))):=λe=>bj λh=>af (hE c e) λm s=>ah (TK ((bw e).val h) s);cases e<;>first|exact b _|skip
 case UnaryOp op a pos=>
  cases op<;>first|exact al|skip
  exact af (hT c a) λm s=>ah (O4 s)
 case BoolOp op es pos=>
  cases op
  ·exact af (tJ hT es) λd s=>ah (K7 s)
  ·exact af (tJ hT es) λd s=>ah (XbA s)
 case Compare=>exact sV hE
end
noncomputable def yx:Nat->DE×DT
 |0=>(λZ Z=>none,λZ Z=>none)
 |n+1=>(tt (yx n).1 (yx n).2,ru (yx n).1 (yx n).2)
theorem tV (n:Nat):SE w (yx n).1∧ST w (yx n).2:=by
 induction n with
 |zero=>exact⟨λZ Z=>al,λZ Z=>al⟩
 |succ n ih=>exact⟨J7 ih.1 ih.2,Od ih.1 ih.2⟩
noncomputable def dE:DE:=(yx 20).1
noncomputable def dT:DT:=(yx 20).2
theorem nN:SE w dE:=(tV 20).1
theorem DZ:ST w dT:=(tV 20).2
noncomputable def se (κ:Ek) (x:Str):Option Tg:=bz ((dI κ.ns x).bind λi=>some (.l i)) (gd (!κ.lm) ((dI κ.cn x).bind λi=>some (.c i)))
theorem fK {x:Str}:Og (λtg:Tg=>tg.is κ x) (se κ x):=bY (dZ λi h=>ah h) (bj λa=>dZ λi h=>ah ⟨h,by simpa using a⟩)
noncomputable def rY (κ:Ek):List Expr->Option (List Tg)
 |[]=>some []
 |e::es=>match dl e with
  |.name x _=>(se κ x).bind λt=>(rY κ es).bind λts=>some (t::ts)
  |_=>none
theorem rZ {es:List Expr}:Og (mw κ es) (rY κ es):=by
 induction es with
 |nil=>exact ah .nil
 |cons e es ih=>
  dsimp only[rY];have b:=(bw e).is;cases hw:dl e<;>first|exact al|skip
  rw[hw]at b;obtain rfl:=b;exact af fK λt c=>af ih λd a=>ah (.cons c a)
noncomputable def eqO (o:Option Bool) (b:Bool):Bool:=match o with
 |some c=>c==b
 |none=>false
theorem Lz {o:Option Bool} {b:Bool} (h:eqO o b=true):o=some b:=by
 cases o with
 |none=>exact ch h
 |some c=>rw[XJ h]
noncomputable def Hw (κ:Ek) (t e:Expr) (line:Nat) (b:Bool):Bool:=eqO (iu (swapsWithSole [t] e line (GD κ.sc))) b
theorem rW {t e:Expr} {line:Nat} {b:Bool} (h:Hw κ t e line b=true):∀env,κ.sc=env.scope->swapsWith e (some t) line env=pure b:=λenv a=>(AY (ts:=[t]) a).trans (jZ (Lz h))
noncomputable def AC (E:DE) (κ:Ek) (e:Expr) (r:AS) (ns:List Str) (a b:Expr):Option AS:=match dl a with
 |.name x _=>(match dl b with
  |.name y _=>gd (ns==[x,y]) ((se κ x).bind λi=>(se κ y).bind λj=>(E κ e).bind λm=>some (cT [i,j] m r))
  |_=>none)
 |_=>none
noncomputable def GH (E:DE) (κ:Ek) (e:Expr) (r:AS) (ns:List Str) (a b c:Expr):Option AS:=match dl a with
 |.name x _=>(match dl b with
  |.name y _=>(match dl c with
   |.name z _=>gd (ns==[x,y,z]) ((se κ x).bind λi=>(se κ y).bind λj=>(se κ z).bind λk=>(E κ e).bind λm=>some (cT [i,j,k] m r))
   |_=>none)
  |_=>none)
 |_=>none
noncomputable def dNS (E:DE) (κ:Ek) (e:Expr) (r:AS) (a b:Expr):Option AS:=match dl a with
 |.name x _=>(match dl b with
  |.sub o i _=>(se κ x).bind λt=>(E κ o).bind λmo=>(E κ i).bind λmi=>(E κ e).bind λm=>some (nt t mo mi m r)
  |_=>none)
 |_=>none
noncomputable def Rz (E:DE) (κ:Ek) (e:Expr) (r:AS) (o:Option (List Str)) (es:List Expr):Option AS:=match o with
 |none=>bz ((rY κ es).bind λis=>(E κ e).bind λm=>some (gu is m r)) (match es with
  |[]=>none
  |a::es=>(match es with
   |[]=>none
   |b::es=>(match es with
    |[]=>dNS E κ e r a b
    |_::_=>none)))
 |some ns=>(match es with
  |[]=>none
  |a::es=>(match es with
   |[]=>none
   |b::es=>(match es with
    |[]=>AC E κ e r ns a b
    |c::es=>(match es with
     |[]=>GH E κ e r ns a b c
     |_::_=>none))))
noncomputable def Ru (E:DE) (T:DT) (κ:Ek) (t e:Expr) (line:Nat) (r:AS):Option AS:=gd κ.cm.isNone (match dl t with
 |.name x _=>bz (gd (Hw κ t e line false) ((se κ x).bind λtg=>(E κ e).bind λm=>some (ay tg m r)))
  (match dl e with
  |.comp elt gens scope _=>gd (Hw κ t e line true) ((se κ x).bind λtg=>(nX E T κ elt gens scope).bind λp=>some (mA tg.put p.1 p.2 r))
  |_=>none)
 |.attr o a _=>gd (Hw κ t e line false) ((dI cx a).bind λi=>(E κ e).bind λm=>(E κ o).bind λmo=>some (az mo i m r))
 |.sub o i _=>gd (Hw κ t e line false) ((E κ e).bind λm=>(E κ o).bind λmo=>(E κ i).bind λmi=>some (i9 mo mi m r))
 |.tup es _ _=>gd (Hw κ t e line false) ((iu (swappedStores [t] e (GD κ.sc))).bind λo=>Rz E κ e r o es)
 |_=>none)
section
variable {E:DE} {T:DT} {ms:AS} {rest:List Stmt} (hE:SE w E) (hT:ST w T) (hr:bq w κ rest ms) (hc:κ.cm=none)
include hE hr hc
theorem vB {es:List Expr} {kt:Nat} {tpos pos:Pos} {e:Expr} {o:Option (List Str)} (hs:∀env,κ.sc=env.scope->swapsWithSole [.Tuple es kt tpos] e pos.line env=pure false) (hw:∀env,κ.sc=env.scope->swappedStores [.Tuple es kt tpos] e env=pure o):
  Og (bq w κ (.Assign [.Tuple es kt tpos] e pos::rest)) (Rz E κ e ms o es):=by
 cases o with
 |none=>
  refine bY (af rZ λA u=>af (hE κ e) λm s=>ah (JI u hc hs hw s hr)) ?_;rcases es with _|⟨a,_|⟨b,_|⟨c,es⟩⟩⟩<;>first|exact al|skip
  show Og _ (dNS E κ e ms a b);unfold dNS;have g:=(bw a).is;have f:=(bw b).is;cases wa:dl a<;>first|exact al|skip
  cases wb:dl b<;>first|exact al|skip
  rw[wa]at g;rw[wb]at f;obtain rfl:=g;obtain rfl:=f;exact af fK λt q=>af (hE κ _) λy r=>af (hE κ _) λz x=>af (hE κ e) λm s=>ah (vZ q hc hs hw s r x hr)
 |some ns=>
  rcases es with _|⟨a,_|⟨b,_|⟨c,_|⟨d,es⟩⟩⟩⟩<;>first|exact al|skip
  ·show Og _ (AC E κ e ms ns a b)
   unfold AC;have g:=(bw a).is;have f:=(bw b).is;cases wa:dl a<;>first|exact al|skip
   cases wb:dl b<;>first|exact al|skip
   rw[wa]at g;rw[wb]at f;obtain rfl:=g;obtain rfl:=f;exact bj λh=>af fK λi l=>af fK λj n=>af (hE κ e) λm s=>ah (vW l n hc hs (by rw[←XJ h];exact hw) s hr)
  ·show Og _ (GH E κ e ms ns a b c)
   unfold GH;have g:=(bw a).is;have f:=(bw b).is;have p:=(bw c).is;cases wa:dl a<;>first|exact al|skip
   cases wb:dl b<;>first|exact al|skip
   cases wc:dl c<;>first|exact al|skip
   rw[wa]at g;rw[wb]at f;rw[wc]at p;obtain rfl:=g;obtain rfl:=f;obtain rfl:=p;exact bj λh=>af fK λi l=>af fK λj n=>af fK λk v=>af (hE κ e) λm s=>ah (vS l n v hc hs (by rw[←XJ h];exact hw) s hr)
omit hc in
include hT in
theorem wD {t e:Expr} {pos:Pos}:Og (bq w κ (.Assign [t] e pos::rest)) (Ru E T κ t e pos.line ms):=by
 refine bj λa=>?_;have a:=XW.mp a;have b:=(bw t).is;cases hw:dl t<;>rw[hw]at b<;>first|exact al|obtain rfl:=b
 ·refine bY (bj λh=>af fK λz d=>af (hE κ e) λm s=>ah (PC d a (rW h) s hr)) ?_
  have b:=(bw e).is;cases c:dl e<;>rw[c]at b<;>first|exact al|obtain rfl:=b
  refine bj λh=>af fK λz d=>af (lG hE hT) λp k=>ah ?_;refine rL k.ok λx D j y f C n u B=>?_;obtain rfl:=f;exact AU a (th d a) C n (rW h) u B hr
 ·exact bj λh=>dZ λi r=>af (hE κ e) λm s=>af (hE κ _) λl g=>ah (Fz i (i7 r) (rW h) s g hr)
 ·exact bj λh=>af (hE κ e) λm s=>af (hE κ _) λl g=>af (hE κ _) λF A=>ah (Bz (rW h) s g A hr)
 ·refine bj λh=>af (R:=λo=>iu (swappedStores _ e (GD κ.sc))=some o) (λZ e=>e) λo q=>vB hE hr a (rW h) λv c=>(BE c).trans (jZ q)
end
noncomputable def Al (κ:Ek) (t:Expr):Option iO:=match dl t with
 |.name x _=>(se κ x).bind λt=>some t.put
 |.tup es _ _=>(rY κ es).bind λis=>some (mX is)
 |_=>none
noncomputable def CD (E:DE) (κ:Ek) (t:Expr) (r:AS):Option AS:=match dl t with
 |.sub o i _=>(match dl i with
  |.slice lo hi st _=>(match st with
   |some _=>none
   |none=>(match lo with
    |none=>none
    |some lo=>(match hi with
     |none=>none
     |some hi=>(E κ o).bind λmo=>(E κ lo).bind λma=>(E κ hi).bind λmb=>some (wY mo ma mb r))))
  |_=>none)
 |_=>none
noncomputable def GN (E:DE) (κ:Ek) (t e:Expr) (r:AS):Option AS:=match dl t with
 |.name x _=>gd κ.cm.isNone ((dI κ.ns x).bind λi=>(E κ e).bind λm=>some (iI i m r))
 |.attr o a _=>(dI cx a).bind λi=>(E κ e).bind λm=>(E κ o).bind λmo=>some (r7 mo i m r)
 |_=>none
noncomputable def oW (E:DE) (T:DT) (S:Ek->List Stmt->AS) (κ:Ek) (s:Stmt) (rest:List Stmt):Option AS:=match s with
 |.Assign ts e pos=>(match ts with
  |[]=>none
  |t::ts=>(match ts with
   |[]=>Ru E T κ t e pos.line (S κ rest)
   |_::_=>none))
 |.Return v _=>(match v with
  |some e=>(E κ e).bind λm=>some (aq m)
  |none=>none)
 |.If t b o _=>(T κ t).bind λmt=>(match o with
  |[]=>some (aw mt (S κ b) (S κ rest))
  |_::_=>some (lE mt (S κ b) (S κ o) (S κ rest)))
 |.Expr e pos=>gd (eqO (iu (swapsWith e none pos.line (GD κ.sc))) false) ((E κ e).bind λm=>some (cS m (S κ rest)))
 |.AugAssign t op e _=>(match op with
  |.Add=>GN E κ t e (S κ rest)
  |_=>none)
 |.While t b o _=>(match o with
  |[]=>gd κ.cm.isNone ((T κ t).bind λmt=>some (V8 mt (S κ b) (S κ rest)))
  |_::_=>none)
 |.For t e b o _=>(match o with
  |[]=>gd (κ.cm.isNone&&gQ e) ((Al κ t).bind λput=>(E κ e).bind λm=>some (lM m put (S κ b) (S κ rest)))
  |_::_=>none)
 |.Raise e c _=>(match e with
  |none=>none
  |some e=>(match c with
   |some _=>none
   |none=>(E κ e).bind λm=>some (nu m)))
 |.Delete ts _=>(match ts with
  |[]=>none
  |t::ts=>(match ts with
   |[]=>CD E κ t (S κ rest)
   |_::_=>none))
 |_=>none
def MM (E:DE) (T:DT):Nat->Ek->List Stmt->AS
 |0=>λZ Z=>fQ
 |n+1=>λκ ss=>match ss with
  |[]=>aF
  |s::rest=>(oW E T (MM E T n) κ s rest).getD fQ
theorem EC {t:Expr} (hc:κ.cm=none):Og (lh w κ t) (Al κ t):=by
 unfold Al;have a:=(bw t).is;cases hw:dl t<;>rw[hw]at a<;>first|exact al|obtain rfl:=a
 ·exact af fK λt b=>ah (th b hc)
 ·exact af rZ λd c=>ah (MV c hc)
section
variable {E:DE} {T:DT} {S:Ek->List Stmt->AS} (hE:SE w E) (hT:ST w T) (hS:∀κ ss,bq w κ ss (S κ ss))
include hE hS
set_option tactic.hygienic true in
theorem vk {t:Expr} {pos:Pos} {rest:List Stmt}:Og (bq w κ (.Delete [t] pos::rest)) (CD E κ t (S κ rest)):=by
 unfold CD;have e:=(bw t).is;cases hw:dl t<;>rw[hw]at e<;>first|exact al|obtain rfl:=e
 rename_i o i p;have a:=(bw i).is;show Og _ (match dl i with
  |.slice lo a st _=>(match st with
   |some _=>none
   |none=>(match lo with
    |none=>none
    |some lo=>(match a with
     |none=>none
     |some a=>(E κ o).bind λc=>(E κ lo).bind λd=>(E κ a).bind λb=>some (wY c d b (S κ rest)))))
  |_=>none)
 cases hj:dl i<;>rw[hj]at a<;>first|exact al|obtain rfl:=a
 rename_i lo a st q;cases st with
 |some _=>exact al
 |none=>cases lo with
  |none=>exact al
  |some lo=>cases a with
   |none=>exact al
   |some a=>exact af (hE κ o) λc h=>af (hE κ lo) λd g=>af (hE κ a) λb f=>ah (Su h g f (hS κ rest))
theorem vX {t e:Expr} {pos:Pos} {rest:List Stmt}:Og (bq w κ (.AugAssign t .Add e pos::rest)) (GN E κ t e (S κ rest)):=by
 unfold GN;have b:=(bw t).is;cases hw:dl t<;>rw[hw]at b<;>first|exact al|obtain rfl:=b
 ·exact bj λc=>dZ λi a=>af (hE κ e) λm s=>ah (PU i a (XW.mp c) s (hS κ rest))
 ·exact dZ λi a=>af (hE κ e) λm s=>af (hE κ _) λf d=>ah (FE i (i7 a) s d (hS κ rest))
include hT
set_option tactic.hygienic true in
theorem r8 {s:Stmt} {rest:List Stmt}:Og (bq w κ (s::rest)) (oW E T S κ s rest):=by
 cases s<;>first|exact al|skip
 case Assign ts e pos=>rcases ts with _|⟨t,_|⟨t2,ts⟩⟩<;>first|exact al|exact wD hE hT (hS κ rest)
 case Return v pos=>
  cases v with
  |none=>exact al
  |some e=>exact af (hE κ e) λm s=>ah (KG s)
 case If t b o pos=>
  refine af (hT κ t) λk d=>?_;cases o with
  |nil=>exact ah (UB d (hS κ b) (hS κ rest))
  |cons _ _=>exact ah (XcP d (hS κ b) (hS κ _) (hS κ rest))
 case Expr e pos=>exact bj λh=>af (hE κ e) λm s=>ah (N5 (λj g=>by
  have z:=jZ (Lz h);rw[g]at z;exact Eq.trans (by rfl) z) s (hS κ rest))
 case AugAssign t op e pos=>cases op<;>first|exact al|exact vX hE hS
 case While t b o pos=>
  cases o with
  |cons _ _=>exact al
  |nil=>exact bj λa=>af (hT κ t) λk d=>ah (Xcf (XW.mp a) d (hS κ b) (hS κ rest))
 case For t e b o pos=>
  cases o with
  |cons _ _=>exact al
  |nil=>
   refine bj λh=>?_;rw[WU]at h;have a:=XW.mp h.1;exact af (EC a) λi f=>af (hE κ e) λm s=>ah (Uk a ((bw e).set h.2).1 f s (hS κ b) (hS κ rest))
 case Raise e c pos=>
  cases e with
  |none=>exact al
  |some e=>cases c with
   |some _=>exact al
   |none=>exact af (hE κ e) λm s=>ah (wH s)
 case Delete ts pos=>rcases ts with _|⟨t,_|⟨t2,ts⟩⟩<;>first|exact al|exact vk hE hS
end
theorem Ep {E:DE} {T:DT} (hE:SE w E) (hT:ST w T) (n:Nat):∀κ ss,bq w κ ss (MM E T n κ ss):=by
 induction n with
 |zero=>exactλZ Z=>yM
 |succ n ih=>
  intro κ ss;cases ss with
  |nil=>exact P6
  |cons s rest=>
   show bq w κ (s::rest) ((oW E T (MM E T n) κ s rest).getD fQ);cases h:oW E T (MM E T n) κ s rest with
   |none=>exact yM
   |some m=>exact(r8 (κ:=κ) (s:=s) (rest:=rest) hE hT ih) m h
def dS:Ek->List Stmt->AS:=MM dE dT 60
theorem q7:∀κ ss,bq w κ ss (dS κ ss):=Ep nN DZ 60
noncomputable def tP (s:Stmt):Arguments:=match s with
 |.FunctionDef _ a _ _ _ _ _ _ _ _=>a
 |_=>default
noncomputable def cw (s:Stmt):Scope:=match s with
 |.FunctionDef _ _ _ _ _ _ sc _ _ _=>sc
 |_=>default
noncomputable def CV (s:Stmt):Str:=match s with
 |.FunctionDef n _ _ _ _ _ _ _ _ _=>n
 |_=>default
noncomputable def BP (s:Stmt):Bool:=match s with
 |.FunctionDef _ _ _ _ _ _ _ _ _ _=>true
 |_=>false
noncomputable def yC (s:Stmt):List Str:=(tP s).args.map (·.arg)
noncomputable def qX (s:Stmt) (k:NameKind):List Str:=((cw s).names.filter λy=>y.2==k).map (·.1)
noncomputable def lz (s:Stmt):List Str:=((yC s).filter λx=>(qX s .local).contains x)++(qX s .local).filter λx=> !(yC s).contains x
noncomputable def nq (s:Stmt):List Str:=(qX s .cell).reverse
noncomputable def kF (s:Stmt) (q:Str) (cd:Nat):Ek:=⟨cw s,lz s,nq s,none,false,.ref cd,q⟩
noncomputable def VA (s:Stmt) (q md:Str) (tk:Nat) (dv:Value) (cd:Nat):FuncData:=fnOf (CV s) q (tP s) (fR s) (cw s) dv .none .none (.str md tk) none (.ref cd) .none
variable {s:Stmt} {q md:Str} {tk cd:Nat} {dv:Value}
theorem rA (h:BP s=true):fu (vt "function") s q 3 [] dv vn vn (vs md tk) none (vr cd) vn 0=⟨.type "function",none,.func (VA s q md tk dv cd),#[]⟩:=by
 cases s<;>first|rfl|exact ch h
def Jo (w:World) (f:Nat) (s:Stmt) (q md:Str) (tk:Nat) (dv:Value) (cd:Nat):Prop:=BP s=true∧(HK w.params).lookup f=some (fu (vt "function") s q 3 [] dv vn vn (vs md tk) none (vr cd) vn 0)
variable {f:Nat} {n:Nat} {Φ:Nat->eO} {m:AS}
theorem Qg {tk cd k r:Nat} {dfl:List SV} {dV:List Value} (he:dS (kF s q cd) (fR s)=m) (h:Jo w f s q md tk dv cd) (hcn:(nq s).isEmpty=true)
  (hc:(iE (HK w.params) (cw s) (lz s) (.ref cd) q&&((cw s).names.all λx=> !(x.2== .cell)))=true) (hd:∀τ,bZ τ dfl dV)
  (hb:∀S (avs:List Value),avs.length=k->peek (HK w.params) S (bindArgs (VA s q md tk dv cd) ⟨avs,[]⟩)=some (bB (lz s) (avs.map some++(dV.map some++List.replicate r none)))) (P:ar w Φ n):
  aM w (n+1) (bo k dfl r m Φ) (.ref f):=
 U1 (κ:=kF s q cd) rfl rfl rfl (Y3.mp hcn) (h.2.trans (Yi some (rA h.1))) hc hd (λb avs X a=>kp_binds X λS=>hb S avs a) (he▸q7 _ _) P
def EB:Nat->(List Value->Prop)->Prop
 |0,P=>P []
 |k+1,P=>∀a,EB k λl=>P (a::l)
theorem zD:∀{k:Nat} {P:List Value->Prop},EB k P->∀l:List Value,l.length=k->P l
 |0,_,h,l,e=>List.length_eq_zero_iff.mp e▸h
 |_+1,_,_,[],e=>nomatch e
 |_+1,_,h,a::_,e=>zD (h a) _ (ZC e)
theorem cX (s:Stmt) (o:Obj) {tk cd k r:Nat} (P:ar w Φ n) (ho:o=fu (vt "function") s q 3 [] dv vn vn (vs md tk) none (vr cd) vn 0:=by exact rfl) (hf:BP s=true:=by kernel_rfl) (hl:(HK w.params).lookup f=some o:=by kernel_rfl)
  (he:dS (kF s q cd) (fR s)=m:=by kernel_rfl) (hcn:(nq s).isEmpty=true:=by kernel_rfl)
  (hc:(iE (HK w.params) (cw s) (lz s) (.ref cd) q&&((cw s).names.all λx=> !(x.2== .cell)))=true:=by kernel_rfl)
  (hb:∀S,EB k λavs=>peek (HK w.params) S (bindArgs (VA s q md tk dv cd) ⟨avs,[]⟩)=some (bB (lz s) (avs.map some++List.replicate r none)):=by(repeat intro);show _=_;kernel_rfl):
  aM w (n+1) (bo k [] r m Φ) (.ref f):=
 Qg (dV:=[]) he ⟨hf,hl.trans (Yi some ho)⟩ hcn hc (λZ=>rfl) (λS=>zD (hb S)) P
noncomputable def liF (s:Stmt):List (Option Nat):=(lz s).map λx=>dI (yC s) x
noncomputable def ciF (s:Stmt):List (Option Nat):=(nq s).map λx=>dI (yC s) x
def bdB (s:Stmt) (all:List Value):Prop:=(((yC s).zip all).all λy=>(cw s).names.lookup y.1==some .local||(cw s).names.lookup y.1==some .cell)=true∧(((yC s).zip all).filter λx=>(cw s).names.lookup x.1==some .local)=bB (lz s) (eN (liF s) all)∧
 (((nq s).zip (eN (ciF s) all)).map λx=>bindC (λy=>(cw s).names.lookup y) ((yC s).zip all) (λZ=>none) x.1)=((nq s).zip (eN (ciF s) all)).map (·.2)
theorem l4 {dfl:List SV} {dV:List Value} {li ci:List (Option Nat)} (he:dS (kF s q cd) (fR s)=m) (hli:(liF s,ciF s)=(li,ci)) (h:Jo w f s q md tk dv cd)
  (hc:iy (HK w.params) (cw s) (lz s) (nq s) (.ref cd) q=true) (hd:∀τ,bZ τ dfl dV)
  (hb:∀avs:List Value,avs.length=k->(∀S,peek (HK w.params) S (bindArgs (VA s q md tk dv cd) ⟨avs,[]⟩)=some ((yC s).zip (avs++dV)))∧bdB s (avs++dV)) (P:ar w Φ n):
  aM w (n+1) (fX k dfl li ci m Φ) (.ref f):=
 (Prod.mk.inj hli).1▸(Prod.mk.inj hli).2▸zZ (κ:=kF s q cd) rfl rfl rfl rfl (h.2.trans (Yi some (rA h.1))) hc (W0 _).symm hd (λb avs X a=>(bv _ (kp_binds X (hb avs a).1) ((hb avs a).2))) (he▸q7 _ _) P
variable {α:Type}
theorem rK {l:List α} (h:l.length=1):∃a,l=[a]:=by rcases l with _|⟨a,_|⟨b,l⟩⟩<;>first|exact⟨_,rfl⟩|cases h
theorem qh {l:List α} (h:l.length=n+1):∃a r,l=a::r∧r.length=n:=by
 cases l with
 |nil=>cases h
 |cons a r=>exact(uu a r rfl (ZC h))
theorem xH {l:List α} (h:l.length=2):∃a b,l=[a,b]:=by
 refine gS (qh h) λa r c d=>?_;obtain rfl:=c;obtain⟨b,rfl⟩:=rK d;exact(qU _ _ rfl)
theorem KS {l:List α} (h:l.length=3):∃a b c,l=[a,b,c]:=by
 refine gS (qh h) λa r d e=>?_;obtain rfl:=d;refine mY (xH e) λb c d=>?_;obtain rfl:=d;exact(xI _ _ _ rfl)
theorem On {l:List α} (h:l.length=4):∃a b c d,l=[a,b,c,d]:=by
 refine gS (qh h) λa r f g=>?_;obtain rfl:=f;refine tC (KS g) λb c d e=>?_;obtain rfl:=e;exact(V7 _ _ _ _ rfl)
theorem Bd {l:List α} (h:l.length=5):∃a b c d e,l=[a,b,c,d,e]:=by
 refine gS (qh h) λa r f i=>?_;obtain rfl:=f;refine mH (On i) λb c d e g=>?_;obtain rfl:=g;exact(iM _ _ _ _ _ rfl)
theorem XeX {l:List α} (h:l.length=6):∃a b c d e f,l=[a,b,c,d,e,f]:=by
 refine gS (qh h) λa r g j=>?_;obtain rfl:=g;refine gE (Bd j) λb c d e f i=>?_;obtain rfl:=i;exact(Us _ _ _ _ _ _ rfl)
theorem MN {l:List α} (h:l.length=7):∃a b c d e f g,l=[a,b,c,d,e,f,g]:=by
 refine gS (qh h) λa r i k=>?_;obtain rfl:=i;refine E61 (XeX k) λb c d e f g j=>?_;obtain rfl:=j;exact(Us _ _ _ _ _ _ ⟨_,rfl⟩)
noncomputable def dHc (c:Const):Option AH:=match c with
 |.str z=>some (hS z)
 |_=>none
noncomputable def dH:Nat->Ek->Expr->Option AH
 |0=>λZ Z=>none
 |n+1=>λκ e=>match e with
  |.Name x _=>(dI κ.ns x).bind λi=>some (hV i)
  |.Attribute o a _=>(dI cx a).bind λi=>gd (io o) ((dH n κ o).bind λm=>some (dF m i))
  |.BinOp a op b _=>(dH n κ a).bind λm1=>(dH n κ b).bind λm2=>some (pM op m1 m2)
  |.Constant c _ _=>dHc c
  |_=>none
set_option tactic.hygienic true in
theorem Jv:∀{e:Expr},Og (jK w κ e) (dH n κ e):=by
 induction n with
 |zero=>exact al
 |succ n ih=>
  intro e;cases e<;>first|exact al|skip
  case Name=>exact dZ λi h=>ah (h_v i h)
  case Attribute o a p=>exact dZ λi b=>bj λh=>af ih λm s=>ah (Fv i (i7 b) ((bw o).call h _) s)
  case BinOp=>exact af ih λg d=>af ih λj f=>ah (Ma d f)
  case Constant c _ _=>cases c<;>first|exact al|exact ah h_s
theorem ui:∃e x y e2 p1 p2 p3 p4 p5,fR (sT 82)=[.Try [.Return (some e) p1] [.ExceptHandler (some (.Name x p2)) (some y) [.Return (some e2) p3] p4] [] [] p5]∧dE (kF (sT 82) "_law_heard" 917) e=some (xC 0)∧dH 9 (kF (sT 82) "_law_heard" 917) e2=some (pM .Add (pM .Add (dF (dF (dF (hV 1) 43) 1) 15) (hS ": ")) (dF (dF (dF (hV 1) 43) 13) 6))∧x="Raised"∧y="error":=
 (Us _ _ _ _ _ _ (I35 _ _ _ rfl (by kernel_rfl) (by kernel_rfl) (by kernel_rfl) (by kernel_rfl)))
def mP:(Nat->eO)->List SV->Sg->KV->KX->Prop:=NB 1 1 1 (xC 0) (pM .Add (pM .Add (dF (dF (dF (hV 1) 43) 1) 15) (hS ": ")) (dF (dF (dF (hV 1) 43) 13) 6))
theorem Ez (P:ar w Φ n):aM w (n+1) (mP Φ) (.ref 918):=by
 refine E61 ui λe x y u l m c=>?_;refine E35 c λv t r g k h d b=>?_;obtain rfl:=d;obtain rfl:=b;have f:=rA (s:=sT 82) (q:="_law_heard") (md:="law_sm0031_01") (tk:=1543) (cd:=917) (dv:=.none) (by kernel_rfl);unfold VA at f;rw[g]at f;exact B8 (p:=⟨_,_,_,_,1,1,1,_,_,_,_,_,_,_,_,_,_,_,_,_,_,_,_,_⟩) (κ:=kF (sT 82) "_law_heard" 917) ⟨rfl,rfl,rfl,by kernel_rfl,nN _ _ _ k,Jv _ h,by kernel_rfl,fb (by kernel_rfl),by kernel_rfl⟩ ((by kernel_rfl:(HK w.params).lookup 918=some Eu).trans (Yi some f)) (by kernel_rfl) (λo j X i=>by obtain⟨a,rfl⟩:=rK i;exact kp_binds X λS=>by kernel_rfl) P
def m37:AS:=(az (aV 0) 0 (aV 1) (az (aV 0) 1 (aV 2) (az (aV 0) 2 gW (az (aV 0) 3 aN (az (aV 0) 4 (aB false) (az (aV 0) 5 aN aF))))))
theorem No (P:ar w Φ n):aM w (n+1) (bo 3 [] 0 m37 Φ) (.ref 37):=
 cX (sC 7 0) o37 P
def m59:AS:=(cS (ag 37 (aa (aV 0) (aa (aV 1) (aa (aV 2) ab)))) (az (aV 0) 6 (aV 3) aF))
theorem Pj (P:ar w Φ n):aM w (n+1) (bo 4 [] 0 m59 Φ) (.ref 59):=
 cX (sC 8 0) o59 P
def m79:AS:=(cS (ag 37 (aa (aV 0) (aa (aV 1) (aa (aV 2) ab)))) (az (aV 0) 7 (aO (ai .Is (aV 3) aN) (bK ab) (aV 3)) aF))
theorem Ko (P:ar w Φ n):aM w (n+1) (bo 4 [] 0 m79 Φ) (.ref 79):=
 cX (sC 9 0) o79 P
def m98:AS:=(cS (ag 37 (aa (aV 0) (aa (aV 1) (aa (aV 2) ab)))) (az (aV 0) 8 gW (az (aV 0) 9 aN aF)))
theorem IF (P:ar w Φ n):aM w (n+1) (bo 3 [] 0 m98 Φ) (.ref 98):=
 cX (sC 10 0) o98 P
def BW:AS:=(ay (.l 3) (ag 264 (aa (aV 1) ab)) (ay (.l 4) (kY iS fy (aj (aV 0) 8) (aa (aV 3) ab)) (lE (ai .Is (aV 4) aN) (i9 (aj (aV 0) 8) (aV 3) (bK (aa (aV 1) (aa (aV 2) ab))) aF) (i9 (aV 4) (aI 1) (aV 2) aF) aF)))
theorem Hb (P:ar w Φ n):aM w (n+1) (bo 3 [] 2 BW Φ) (.ref 105):=
 cX (sC 10 1) GF P
def C8:AS:=(cS (ag 37 (aa (aV 0) (aa (aV 1) (aa (aV 2) ab)))) (az (aV 0) 10 (aV 3) (az (aV 0) 11 (aV 4) (az (aV 0) 12 (aV 5) aF))))
theorem FG (P:ar w Φ n):aM w (n+1) (bo 6 [] 0 C8 Φ) (.ref 137):=
 cX (sC 11 0) A7 P
def Bv:AS:=(cS (ag 37 (aa (aV 0) (aa (aV 1) (aa (aV 2) ab)))) (az (aV 0) 13 (aV 3) (az (aV 0) 14 aN aF)))
theorem Cg (P:ar w Φ n):aM w (n+1) (bo 4 [] 0 Bv Φ) (.ref 178):=
 cX (sC 13 0) Hg P
def kb:AS:=(cS (ag 37 (aa (aV 0) (aa (aV 1) (aa (aV 2) ab)))) (az (aV 0) 15 (aV 3) (az (aV 0) 16 (aV 4) (az (aV 0) 17 (aV 5) (az (aV 0) 18 (aV 6) (az (aV 0) 19 gW (az (aV 0) 20 gW (az (aV 0) 21 (bK ab) (az (aV 0) 22 (bK ab) (az (aV 0) 23 aN (az (aV 0) 24 aN (az (aV 0) 25 aN aF))))))))))))
theorem D2 (P:ar w Φ n):aM w (n+1) (bo 5 [.none,.none] 0 kb Φ) (.ref 218):=
 Qg (s:=sC 15 0) (dV:=[vn,vn]) (by kernel_rfl) ⟨by kernel_rfl,(by kernel_rfl:(HK w.params).lookup 218=some wK)⟩ (by kernel_rfl) (by kernel_rfl) (λZ=>⟨_,_,rfl,rfl,⟨_,_,rfl,rfl,rfl⟩⟩) (λS f h=>by obtain⟨a,b,c,d,e,rfl⟩:=Bd h;kernel_rfl) P
theorem xo (P:ar w Φ n):aM w (n+1) (bo 7 [] 0 kb Φ) (.ref 218):=
 cX (sC 15 0) wK P
def Gh:AS:=(aq (bG .IsNot (aj (aV 0) 23) aN))
theorem Fo (P:ar w Φ n):aM w (n+1) (bo 1 [] 0 Gh Φ) (.ref 225):=
 cX (sC 15 1) z9 P
def xl:AS:=(aq (eL (bH bt (aa (aV 0) (aa (mG 1) ab))) [ud (bH bt (aa (aV 0) (aa (mG 0) ab)))]))
theorem He (P:ar w Φ n):aM w (n+1) (bo 1 [] 0 xl Φ) (.ref 237):=
 cX (sT 16) AP P
def pV:AS:=(aw (ai .Is (aV 0) aN) (aq (aS "nil")) (aw (aP (bH bt (aa (aV 0) (aa (mG 0) ab)))) (aq (aS "bool")) (aw (aP (bH bt (aa (aV 0) (aa (mG 1) ab)))) (aq (aS "int")) (aq (aO (aP (bH bt (aa (aV 0) (aa (mG 2) ab)))) (aS "sym") (aS "thing"))))))
theorem Dg (P:ar w Φ n):aM w (n+1) (bo 1 [] 0 pV Φ) (.ref 244):=
 cX (sT 17) AV P
def Di:AS:=(ay (.l 2) (ag 244 (aa (aV 0) ab)) (aw (ai .NotEq (aV 2) (ag 244 (aa (aV 1) ab))) (aq (aB false)) (aq (aO (ai .Eq (aV 2) (aS "thing")) (bG .Eq (aj (aV 0) 0) (aj (aV 1) 0)) (bG .Eq (aV 0) (aV 1))))))
theorem AG (P:ar w Φ n):aM w (n+1) (bo 2 [] 1 Di Φ) (.ref 251):=
 cX (sT 18) D0 P
def Gg:AS:=(ay (.l 1) (ag 244 (aa (aV 0) ab)) (aw (ai .NotEq (aV 1) (aS "thing")) (aq (aU (aa (aV 1) (aa (aV 0) ab)))) (aw (aP (bH bt (aa (aV 0) (aa (aG 62) ab)))) (aq (aU (aa (aS "text") (aa (aj (aV 0) 6) ab)))) fQ)))
theorem AB (P:ar w Φ n):aM w (n+1) (fX 1 [.int 12,.none] [some 0,none,none] [some 2,some 1] Gg Φ) (.ref 264):=
 l4 (s:=sT 20) (dV:=[vi 12 260,vn]) (by kernel_rfl) (by kernel_rfl) ⟨by kernel_rfl,(by kernel_rfl:(HK w.params).lookup 264=some Hl)⟩ (by kernel_rfl) (λZ=>⟨_,_,rfl,⟨_,rfl⟩,⟨_,_,rfl,rfl,rfl⟩⟩) (λb h=>by obtain⟨a,rfl⟩:=rK h;exact⟨λS=>by kernel_rfl,by kernel_rfl,by kernel_rfl,by kernel_rfl⟩) P
def DR:AS:=(cT [.l 1,.l 2,.l 3] (aU (aa (aS "") (aa (aS "") (aa gW ab)))) (V8 (ai .NotIn (aj (aV 0) 0) (aV 3)) (i9 (aV 3) (aj (aV 0) 0) (aB true) (aw (ai .IsNot (aj (aV 0) 23) aN) (cT [.l 1,.l 2,.l 0] (aU (aa (ap .Add (aV 1) (aS "#<Class:")) (aa (ap .Add (aS ">") (aV 2)) (aa (aj (aV 0) 23) ab)))) (aw (cF (aP (bH bt (aa (aV 0) (aa (aG 228) ab))))) (cT [.l 1,.l 2,.l 0] (aU (aa (ap .Add (aV 1) (aS "#<")) (aa (ap .Add (aS ">") (aV 2)) (aa (aj (aV 0) 1) ab)))) aF) fQ)) (aw (ai .Is (aj (aV 0) 15) aN) fQ (aw (ai .Is (aj (aV 0) 18) aN) (aq (ap .Add (ap .Add (aV 1) (aj (aV 0) 15)) (aV 2))) (cT [.l 2,.l 0] (aU (aa (ap .Add (ap .Add (aS "::") (aj (aV 0) 15)) (aV 2)) (aa (aj (aV 0) 18) ab))) aF))))) (aq (ap .Add (ap .Add (aV 1) (aO (aP (aj (aV 0) 16)) (aS "#<Class>") (aS "#<Module>"))) (aV 2)))))
theorem An (P:ar w Φ n):aM w (n+1) (bo 1 [] 3 DR Φ) (.ref 297):=
 cX (sT 25) Fk P
def Fx:AS:=(ay (.l 3) (ag 244 (aa (aV 0) ab)) (aw (ai .Eq (aV 3) (aS "thing")) fQ (aw (ai .Eq (aV 3) (aS "sym")) fQ (aw (ai .Eq (aV 3) (aS "nil")) (aq (aS "nil")) (aw (ai .Eq (aV 3) (aS "bool")) (aq (aO (aP (aV 0)) (aS "true") (aS "false"))) fQ)))))
theorem Gi (P:ar w Φ n):aM w (n+1) (bo 1 [.int 6,.none] 1 Fx Φ) (.ref 358):=
 Qg (s:=sT 34) (dV:=[vi 6 733,vn]) (by kernel_rfl) ⟨by kernel_rfl,(by kernel_rfl:(HK w.params).lookup 358=some CO)⟩ (by kernel_rfl) (by kernel_rfl) (λZ=>⟨_,_,rfl,⟨_,rfl⟩,⟨_,_,rfl,rfl,rfl⟩⟩) (λS b h=>by obtain⟨a,rfl⟩:=rK h;kernel_rfl) P
def C5:AS:=(aw (ai .Is (aV 1) aN) (aq (aS "nil")) (aw (aP (bH bt (aa (aV 1) (aa (mG 0) ab)))) (aq (aO (aP (aV 1)) (aS "true") (aS "false"))) (aq (ag 297 (aa (am (aV 0) 48 (aa (aV 1) ab)) ab)))))
theorem F3 (P:ar w Φ n):aM w (n+1) (bo 2 [] 0 C5 Φ) (.ref 365):=
 cX (sT 36) Bq P
def wW:AS:=(aw (ai .Is (aV 1) aN) (cS (am (aV 0) 56 (aa (aS "TypeError") (aa (aS "no implicit conversion from nil to integer") ab))) aF) (aw (cF (aP (ag 237 (aa (aV 1) ab)))) (cS (am (aV 0) 56 (aa (aS "TypeError") (aa (fc [aS "no implicit conversion of ",lF (ag 365 (aa (aV 0) (aa (aV 1) ab))),aS " into Integer"] ({cps:= #[]})) ab))) aF) (aq (aV 1))))
theorem Dw (P:ar w Φ n):aM w (n+1) (bo 2 [] 0 wW Φ) (.ref 372):=
 cX (sT 37) Gk P
def Bp:AS:=(aw (aP (aj (aV 1) 4)) (cS (am (aV 0) 56 (aa (aS "FrozenError") (aa (fc [aS "can't modify frozen ",lF (ag 297 (aa (am (aV 0) 48 (aa (aV 1) ab)) ab)),aS ": ",lF (ag 358 (aa (aV 1) ab))] ({cps:= #[]})) ab))) aF) aF)
theorem CE (P:ar w Φ n):aM w (n+1) (bo 2 [] 0 Bp Φ) (.ref 379):=
 cX (sT 38) Ag P
def xM:AS:=(ay (.l 3) (aO (ai .Is (aj (aV 1) 10) aN) (aI 0) (ag 372 (aa (aV 0) (aa (aj (aV 1) 10) ab)))) (ay (.l 4) (aO (ai .Is (aj (aV 1) 11) aN) (jR (aI 1)) (ag 372 (aa (aV 0) (aa (aj (aV 1) 11) ab)))) (aw (ai .Lt (aV 3) (aI 0)) (iI 3 (aV 2) aF) (aw (ai .Lt (aV 4) (aI 0)) (iI 4 (aV 2) aF) (aw (cD [ai .Is (aj (aV 1) 11) aN,cF (aP (aj (aV 1) 12))]) (iI 4 (aI 1) aF) (aq (aU (aa (aV 3) (aa (aV 4) ab)))))))))
theorem Av (P:ar w Φ n):aM w (n+1) (bo 3 [] 2 xM Φ) (.ref 386):=
 cX (sT 39) DA P
def qA:AS:=(lE (ai .Eq (bH aZ (aa (aV 1) ab)) (aI 1)) (gu [.l 3,.l 4] (ag 386 (aa (aV 0) (aa (ax (aV 1) (aI 0)) (aa (aV 2) ab)))) (ay (.l 5) (bH iw (aa (aI 0) (aa (ap .Sub (aV 4) (aV 3)) ab))) aF)) (cT [.l 3,.l 5] (aU (aa (ag 372 (aa (aV 0) (aa (ax (aV 1) (aI 0)) ab))) (aa (ag 372 (aa (aV 0) (aa (ax (aV 1) (aI 1)) ab))) ab))) (aw (ai .Lt (aV 3) (aI 0)) (iI 3 (aV 2) aF) aF)) (aw (cD [ai .Lt (aV 3) (aI 0),ai .Gt (aV 3) (aV 2),ai .Lt (aV 5) (aI 0)]) (aq aN) (aq (aU (aa (aV 3) (aa (bH fk (aa (aV 5) (aa (ap .Sub (aV 2) (aV 3)) ab))) ab))))))
theorem FP (P:ar w Φ n):aM w (n+1) (bo 3 [] 3 qA Φ) (.ref 393):=
 cX (sT 40) GZ P
def xL:AS:=(ay (.l 3) (ag 372 (aa (aV 0) (aa (aV 1) ab))) (aq (aO (ai .Lt (aV 3) (aI 0)) (ap .Add (aV 3) (aV 2)) (aV 3))))
theorem E5 (P:ar w Φ n):aM w (n+1) (bo 3 [] 1 xL Φ) (.ref 400):=
 cX (sT 41) EZ P
def Ba:AS:=(cS (bH jW (aa (aV 0) (aa (aV 1) ab))) (az (aV 0) 42 (aV 1) aF))
theorem Hh (P:ar w Φ n):aM w (n+1) (bo 2 [] 0 Ba Φ) (.ref 415):=
 cX (sC 43 0) GC P
def Au:AS:=(cS (ag 415 (aa (aV 0) (aa (aS "a Ruby error") ab))) (az (aV 0) 43 (aV 1) aF))
theorem GT (P:ar w Φ n):aM w (n+1) (bo 2 [] 0 Au Φ) (.ref 435):=
 cX (sC 44 0) z6 P
def xE:AS:=(ay (.l 3) (ag 400 (aa (aV 0) (aa (ax (aV 2) (aI 0)) (aa (bH aZ (aa (aj (aV 1) 7) ab)) ab)))) (aq (aO (kZ .LtE .Lt (aI 0) (aV 3) (bH aZ (aa (aj (aV 1) 7) ab))) (ax (aj (aV 1) 7) (aV 3)) aN)))
theorem Bk (P:ar w Φ n):aM w (n+1) (bo 3 [] 1 xE Φ) (.ref 447):=
 cX (sT 46) GW P
def qC:AS:=(aw (bO [ai .Eq (bH aZ (aa (aV 2) ab)) (aI 1),cF (aP (bH bt (aa (ax (aV 2) (aI 0)) (aa (aG 140) ab))))]) (aq (ag 447 (aa (aV 0) (aa (aV 1) (aa (aV 2) ab))))) (ay (.l 3) (ag 393 (aa (aV 0) (aa (aV 2) (aa (bH aZ (aa (aj (aV 1) 7) ab)) ab)))) (aq (aO (ai .Is (aV 3) aN) aN (am (aV 0) 51 (aa (ew (aj (aV 1) 7) (some (ax (aV 3) (aI 0))) (some (ap .Add (ax (aV 3) (aI 0)) (ax (aV 3) (aI 1))))) ab))))))
theorem En (P:ar w Φ n):aM w (n+1) (bo 3 [] 1 qC Φ) (.ref 454):=
 cX (sT 47) zT P
def qP:AS:=(cS (ag 379 (aa (aV 0) (aa (aV 1) ab))) (aw (bO [ai .Eq (bH aZ (aa (aV 2) ab)) (aI 1),cF (aP (bH bt (aa (ax (aV 2) (aI 0)) (aa (aG 140) ab))))]) (aq (ag 468 (aa (aV 0) (aa (aV 1) (aa (aV 2) ab))))) (ay (.l 3) (ag 393 (aa (aV 0) (aa (aV 2) (aa (bH aZ (aa (aj (aV 1) 7) ab)) ab)))) (aw (ai .Is (aV 3) aN) (aq aN) (ay (.l 4) (ew (aj (aV 1) 7) (some (ax (aV 3) (aI 0))) (some (ap .Add (ax (aV 3) (aI 0)) (ax (aV 3) (aI 1))))) (wY (aj (aV 1) 7) (ax (aV 3) (aI 0)) (ap .Add (ax (aV 3) (aI 0)) (ax (aV 3) (aI 1))) (aq (am (aV 0) 51 (aa (aV 4) ab)))))))))
theorem C2 (P:ar w Φ n):aM w (n+1) (bo 3 [] 2 qP Φ) (.ref 461):=
 cX (sT 48) DJ P
def wJ:AS:=(cS (ag 379 (aa (aV 0) (aa (aV 1) ab))) (ay (.l 3) (ag 400 (aa (aV 0) (aa (ax (aV 2) (aI 0)) (aa (bH aZ (aa (aj (aV 1) 7) ab)) ab)))) (aq (aO (kZ .LtE .Lt (aI 0) (aV 3) (bH aZ (aa (aj (aV 1) 7) ab))) (kY eW nJ (aj (aV 1) 7) (aa (aV 3) ab)) aN))))
theorem zR (P:ar w Φ n):aM w (n+1) (bo 3 [] 1 wJ Φ) (.ref 468):=
 cX (sT 49) Bf P
def wk:AS:=(aw (aP (ag 237 (aa (aV 1) ab))) (aq (aV 1)) (aw (ai .Is (aV 1) aN) (aq (am (aV 0) 56 (aa (aS "TypeError") (aa (aS "no implicit conversion from nil to integer") ab)))) (ay (.l 2) (aO (aP (bH bt (aa (aV 1) (aa (mG 0) ab)))) (ag 358 (aa (aV 1) ab)) (ag 297 (aa (am (aV 0) 48 (aa (aV 1) ab)) ab))) (aq (am (aV 0) 56 (aa (aS "TypeError") (aa (fc [aS "no implicit conversion of ",lF (aV 2),aS " into Integer"] ({cps:= #[]})) ab)))))))
theorem Ca (P:ar w Φ n):aM w (n+1) (bo 2 [] 1 wk Φ) (.ref 475):=
 cX (sT 51) Fi P
def Cq:AS:=(aw (aP (aj (aV 1) 4)) (cS (am (aV 0) 56 (aa (aS "FrozenError") (aa (fc [aS "can't modify frozen ",lF (ag 297 (aa (am (aV 0) 48 (aa (aV 1) ab)) ab)),aS ": ",lF (ag 358 (aa (aV 1) ab))] ({cps:= #[]})) ab))) aF) aF)
theorem Cr (P:ar w Φ n):aM w (n+1) (bo 2 [] 0 Cq Φ) (.ref 482):=
 cX (sT 53) EV P
def F9:AS:=(ay (.l 3) (aO (ai .Lt (aV 0) (aI 0)) (ap .Add (aV 0) (aV 2)) (aV 0)) (aw (cD [ai .Lt (aV 3) (aI 0),ai .Gt (aV 3) (aV 2),ai .Lt (aV 1) (aI 0)]) (aq aN) (aq (aU (aa (aV 3) (aa (bH fk (aa (aV 1) (aa (ap .Sub (aV 2) (aV 3)) ab))) ab))))))
theorem CU (P:ar w Φ n):aM w (n+1) (bo 3 [] 1 F9 Φ) (.ref 489):=
 cX (sT 54) Gp P
def wU:AS:=(ay (.l 3) (aO (ai .Is (aj (aV 1) 10) aN) (aI 0) (ag 475 (aa (aV 0) (aa (aj (aV 1) 10) ab)))) (ay (.l 4) (aO (ai .Is (aj (aV 1) 11) aN) (jR (aI 1)) (ag 475 (aa (aV 0) (aa (aj (aV 1) 11) ab)))) (ay (.l 5) (aO (ai .Lt (aV 4) (aI 0)) (ap .Add (aV 4) (aV 2)) (aV 4)) (aw (cD [cF (aP (aj (aV 1) 12)),ai .Is (aj (aV 1) 11) aN]) (iI 5 (aI 1) aF) (ay (.l 6) (aO (ai .Lt (aV 3) (aI 0)) (ap .Add (aV 3) (aV 2)) (aV 3)) (aq (ag 489 (aa (aV 3) (aa (bH iw (aa (aI 0) (aa (ap .Sub (aV 5) (aV 6)) ab))) (aa (aV 2) ab))))))))))
theorem Ae (P:ar w Φ n):aM w (n+1) (bo 3 [] 4 wU Φ) (.ref 496):=
 cX (sT 55) Em P
def vG:AS:=(aw (ai .Eq (bH aZ (aa (aV 2) ab)) (aI 2)) (aq (ag 489 (aa (ag 475 (aa (aV 0) (aa (ax (aV 2) (aI 0)) ab))) (aa (ag 475 (aa (aV 0) (aa (ax (aV 2) (aI 1)) ab))) (aa (bH aZ (aa (aV 1) ab)) ab))))) (aw (aP (bH bt (aa (ax (aV 2) (aI 0)) (aa (aG 62) ab)))) fQ (aw (aP (bH bt (aa (ax (aV 2) (aI 0)) (aa (aG 140) ab)))) (aq (ag 496 (aa (aV 0) (aa (ax (aV 2) (aI 0)) (aa (bH aZ (aa (aV 1) ab)) ab))))) (ay (.l 4) (ag 475 (aa (aV 0) (aa (ax (aV 2) (aI 0)) ab))) (aq (aO (kZ .LtE .Lt (jR (bH aZ (aa (aV 1) ab))) (aV 4) (bH aZ (aa (aV 1) ab))) (aU (aa (ap .Mod (aV 4) (bH aZ (aa (aV 1) ab))) (aa (aI 1) ab))) aN))))))
theorem De (P:ar w Φ n):aM w (n+1) (bo 3 [] 2 vG Φ) (.ref 503):=
 cX (sT 56) Bn P
def w8:AS:=(ay (.l 3) (ag 503 (aa (aV 0) (aa (aj (aV 1) 6) (aa (aV 2) ab)))) (aq (aO (ai .Is (aV 3) aN) aN (am (aV 0) 6 (aa (ew (aj (aV 1) 6) (some (ax (aV 3) (aI 0))) (some (ap .Add (ax (aV 3) (aI 0)) (ax (aV 3) (aI 1))))) ab)))))
theorem GK (P:ar w Φ n):aM w (n+1) (bo 3 [] 1 w8 Φ) (.ref 510):=
 cX (sT 57) GQ P
def wT:AS:=(cS (ag 482 (aa (aV 0) (aa (aV 1) ab))) (ay (.l 3) (ag 503 (aa (aV 0) (aa (aj (aV 1) 6) (aa (aV 2) ab)))) (aw (ai .Is (aV 3) aN) (aq aN) (ay (.l 4) (am (aV 0) 6 (aa (ew (aj (aV 1) 6) (some (ax (aV 3) (aI 0))) (some (ap .Add (ax (aV 3) (aI 0)) (ax (aV 3) (aI 1))))) ab)) (az (aV 1) 6 (ap .Add (ew (aj (aV 1) 6) none (some (ax (aV 3) (aI 0)))) (ew (aj (aV 1) 6) (some (ap .Add (ax (aV 3) (aI 0)) (ax (aV 3) (aI 1)))) none)) (aq (aV 4)))))))
theorem E7 (P:ar w Φ n):aM w (n+1) (bo 3 [] 2 wT Φ) (.ref 517):=
 cX (sT 58) Ac P
def Do:AS:=(az (aV 0) 26 (aV 1) (az (aV 0) 27 (aO (ai .Is (aV 2) aN) gW (aV 2)) (az (aV 0) 28 (aV 3) (az (aV 0) 29 (aV 4) (az (aV 0) 30 (aI 0) (az (aV 0) 31 (aI 0) (az (aV 0) 32 (aI 8) (az (aV 0) 33 gW (az (aV 0) 34 gW (az (aV 0) 35 (aI 0) (az (aV 0) 36 (aI 0) (az (aV 0) 37 gW (az (aV 0) 38 (bK ab) (az (aV 0) 39 aN (az (aV 0) 40 (aB false) (az (aV 0) 41 (ei 40 37 (aa (am (aV 0) 0 ab) (aa (am (aV 0) 44 (aa (aS "Object") ab)) ab))) (az (aV 0) 40 (aB true) (lM (bH dG (aa (aj (aV 0) 34) ab)) (Tg.put (.l 5)) (cS (am (aV 0) 46 (aa (aV 5) ab)) aF) aF))))))))))))))))))
theorem AK (P:ar w Φ n):aM w (n+1) (bo 2 [.none,.none,.int 20000] 1 Do Φ) (.ref 573):=
 Qg (s:=sC 69 0) (dV:=[vn,vn,vi 20000 1176]) (by kernel_rfl) ⟨by kernel_rfl,(by kernel_rfl:(HK w.params).lookup 573=some EM)⟩ (by kernel_rfl) (by kernel_rfl) (λZ=>⟨_,_,rfl,rfl,⟨_,_,rfl,rfl,⟨_,_,rfl,⟨_,rfl⟩,rfl⟩⟩⟩) (λS c h=>by obtain⟨a,b,rfl⟩:=xH h;kernel_rfl) P
def CY:AS:=(r7 (aV 0) 31 (aI 1) (aq (aj (aV 0) 31)))
theorem Fc (P:ar w Φ n):aM w (n+1) (bo 1 [] 0 CY Φ) (.ref 594):=
 cX (sC 69 3) CL P
def vy:AS:=(ay (.l 2) (kY iS fy (aj (aV 0) 34) (aa (aV 1) ab)) (aq (aO (ai .Is (aV 2) aN) (am (aV 0) 45 (aa (aV 1) ab)) (aV 2))))
theorem BZ (P:ar w Φ n):aM w (n+1) (bo 2 [] 1 vy Φ) (.ref 615):=
 cX (sC 69 6) AI P
def wS:AS:=(ay (.l 1) (bG .NotIn (aV 0) (aG 546)) (ay (.l 2) (ei 228 218 (aa (am (aC 0) 0 ab) (aa aN (aa (aV 0) (aa (aV 1) ab))))) (i9 (aj (aC 0) 34) (aV 0) (aV 2) (az (aV 2) 24 (aV 0) (ay (.l 3) (ki (aV 0)) (az (aV 2) 17 (aO (ai .Is (aV 3) aN) aN (am (aC 0) 44 (aa (aV 3) ab))) (az (aV 2) 1 (am (aC 0) 44 (aa (aO (aP (aV 1)) (aS "Class") (aS "Module")) ab)) (az (aV 2) 21 (bP (kY iS fy (aG 550) (aa (aV 0) (aa (aU ab) ab))) (cB (am (aC 0) 44 (aa aX ab)))) (aw (aP (aj (aC 0) 40)) (cS (am (aC 0) 46 (aa (aV 0) ab)) aF) (aq (aV 2)))))))))))
theorem Gm (P:ar w Φ n):aM w (n+1) (fX 2 [] [some 1,none,none,none] [some 0] wS Φ) (.ref 620):=
 l4 (s:=sC 69 7) (dV:=[]) (by kernel_rfl) (by kernel_rfl) ⟨by kernel_rfl,(by kernel_rfl:(HK w.params).lookup 620=some Dk)⟩ (by kernel_rfl) (λZ=>rfl) (λc h=>by obtain⟨a,b,rfl⟩:=xH h;exact⟨λS=>by kernel_rfl,by kernel_rfl,by kernel_rfl,by kernel_rfl⟩) P
def Cb:AS:=(aw (cD [ai .In (ap .Add (aV 1) (aS ".")) (aj (aV 0) 26),ai .In (ap .Add (aV 1) (aS ".")) (aj (aV 0) 27)]) fQ aF)
theorem AD (P:ar w Φ n):aM w (n+1) (bo 2 [] 0 Cb Φ) (.ref 627):=
 cX (sC 69 8) Hm P
def zL:AS:=(ay (.l 6) (am (aV 0) 44 (aa (aO (aP (aV 2)) (aS "Class") (aS "Module")) ab)) (aw (bO [aP (aV 2),ai .Is (aV 3) aN]) (ay (.l 3) (am (aV 0) 44 (aa (aS "Object") ab)) aF) (ay (.l 7) (aO (cD [ai .Is (aV 4) aN,aP (ag 251 (aa (aV 4) (aa (am (aV 0) 44 (aa (aS "Object") ab)) ab)))]) aN (aV 4)) (ay (.l 8) (ei 228 218 (aa (am (aV 0) 0 ab) (aa (aV 6) (aa (aV 1) (aa (aV 2) (aa (aV 3) (aa (aV 7) ab))))))) (az (aV 8) 23 (aV 5) (aq (aV 8)))))))
theorem AZ (P:ar w Φ n):aM w (n+1) (bo 4 [.none,.none] 3 zL Φ) (.ref 635):=
 Qg (s:=sC 69 9) (dV:=[vn,vn]) (by kernel_rfl) ⟨by kernel_rfl,(by kernel_rfl:(HK w.params).lookup 635=some Ai)⟩ (by kernel_rfl) (by kernel_rfl) (λZ=>⟨_,_,rfl,rfl,⟨_,_,rfl,rfl,rfl⟩⟩) (λS e h=>by obtain⟨a,b,c,d,rfl⟩:=On h;kernel_rfl) P
def qH:AS:=(aw (ai .Is (aV 1) aN) (aq (am (aV 0) 44 (aa (aS "NilClass") ab))) (aw (aP (bH bt (aa (aV 1) (aa (mG 0) ab)))) (aq (am (aV 0) 44 (aa (aO (aP (aV 1)) (aS "TrueClass") (aS "FalseClass")) ab))) (aw (aP (bH bt (aa (aV 1) (aa (mG 1) ab)))) (aq (am (aV 0) 44 (aa (aS "Integer") ab))) (aq (aO (aP (bH bt (aa (aV 1) (aa (mG 2) ab)))) (am (aV 0) 44 (aa (aS "Symbol") ab)) (aj (aV 1) 1))))))
theorem DK (P:ar w Φ n):aM w (n+1) (bo 2 [] 0 qH Φ) (.ref 642):=
 cX (sC 69 10) Bi P
def Fb:AS:=(V8 (cD [ai .Is (aj (aV 1) 24) aN,aP (am (aV 1) 49 ab)]) (ay (.l 1) (aj (aV 1) 17) aF) (aq (aj (aV 1) 24)))
theorem BB (P:ar w Φ n):aM w (n+1) (bo 2 [] 0 Fb Φ) (.ref 663):=
 cX (sC 69 13) Bo P
def EQ:AS:=(aq (ei 62 59 (aa (am (aV 0) 0 ab) (aa (am (aV 0) 44 (aa (aS "String") ab)) (aa (aV 1) ab)))))
theorem Dv (P:ar w Φ n):aM w (n+1) (bo 2 [] 0 EQ Φ) (.ref 677):=
 cX (sC 69 15) EY P
def Ew:AS:=(aq (ei 82 79 (aa (am (aV 0) 0 ab) (aa (am (aV 0) 44 (aa (aS "Array") ab)) (aa (bH dG (aa (aV 1) ab)) ab)))))
theorem Ah (P:ar w Φ n):aM w (n+1) (bo 2 [] 0 Ew Φ) (.ref 684):=
 cX (sC 69 16) Fn P
def ED:AS:=(ay (.l 2) (ei 120 98 (aa (am (aV 0) 0 ab) (aa (am (aV 0) 44 (aa (aS "Hash") ab)) ab))) (lM (aV 1) (mX [.l 3,.l 4]) (cS (am (aV 2) 57 (aa (am (aV 0) 53 (aa (aV 3) ab)) (aa (aV 4) ab))) aF) (aq (aV 2))))
theorem CF (P:ar w Φ n):aM w (n+1) (bo 2 [] 3 ED Φ) (.ref 691):=
 cX (sC 69 17) C4 P
def Ak:AS:=(aw (cD [cF (aP (bH bt (aa (aV 1) (aa (aG 62) ab)))),aP (aj (aV 1) 4)]) (aq (aV 1)) (ay (.l 2) (am (aV 0) 6 (aa (aj (aV 1) 6) ab)) (az (aV 2) 4 (aB true) (aq (aV 2)))))
theorem FV (P:ar w Φ n):aM w (n+1) (bo 2 [] 1 Ak Φ) (.ref 698):=
 cX (sC 69 18) EW P
def pN:AS:=(aw (bO [ai .IsNot (aV 1) aN,ai .IsNot (aV 2) aN]) (ay (.l 4) (rO (bG .Eq (ag 244 (aa (aV 1) ab)) (aS "bool")) (bG .Eq (ag 244 (aa (aV 2) ab)) (aS "bool"))) (aw (cD [aP (aV 4),cF (aP (ag 251 (aa (am (aV 0) 48 (aa (aV 1) ab)) (aa (am (aV 0) 48 (aa (aV 2) ab)) ab))))]) (cS (am (aV 0) 56 (aa (aS "ArgumentError") (aa (aS "bad value for range") ab))) aF) aF)) (ay (.l 5) (ei 140 137 (aa (am (aV 0) 0 ab) (aa (am (aV 0) 44 (aa (aS "Range") ab)) (aa (aV 1) (aa (aV 2) (aa (aV 3) ab)))))) (az (aV 5) 4 (aB true) (aq (aV 5)))))
theorem D4 (P:ar w Φ n):aM w (n+1) (bo 4 [] 2 pN Φ) (.ref 705):=
 cX (sC 69 19) EI P
def vF:AS:=(aw (aP (am (aV 1) 49 ab)) (cS (am (aV 0) 56 (aa (aS "TypeError") (aa (aS "can't create instance of singleton class") ab))) aF) (cT [.l 2,.l 3] (aU (aa (am (aV 0) 50 (aa (aV 1) ab)) (aa (am (aV 0) 0 ab) ab))) (aw (ai .In (aV 2) (aG 558)) (cS (am (aV 0) 56 (aa (aS "NoMethodError") (aa (ap .Add (aS "undefined method 'new' for class ") (ag 297 (aa (aV 1) ab))) ab))) aF) (aw (ai .Eq (aV 2) (aS "String")) (aq (ei 62 59 (aa (aV 3) (aa (aV 1) (aa (aS "") ab))))) (aw (ai .Eq (aV 2) (aS "Array")) (aq (ei 82 79 (aa (aV 3) (aa (aV 1) (aa (bK ab) ab))))) (aw (ai .Eq (aV 2) (aS "Hash")) (aq (ei 120 98 (aa (aV 3) (aa (aV 1) ab)))) (aw (ai .Eq (aV 2) (aS "Range")) (aq (ei 140 137 (aa (aV 3) (aa (aV 1) ab)))) (aw (ai .Eq (aV 2) (aS "Fiber")) fQ (aw (ai .Eq (aV 2) (aS "Proc")) fQ (aw (ai .Eq (aV 2) (aS "Class")) (aq (ei 228 218 (aa (aV 3) (aa (aV 1) (aa aN (aa (aB true) (aa (am (aV 0) 44 (aa (aS "Object") ab)) ab))))))) (aw (ai .Eq (aV 2) (aS "Module")) (aq (ei 228 218 (aa (aV 3) (aa (aV 1) (aa aN (aa (aB false) ab)))))) fQ)))))))))))
theorem Et (P:ar w Φ n):aM w (n+1) (bo 2 [] 2 vF Φ) (.ref 719):=
 cX (sC 69 21) EL P
def zY:AS:=(aq (ei 181 178 (aa (am (aV 0) 0 ab) (aa (am (aV 0) 44 (aa (aV 1) ab)) (aa (am (aV 0) 6 (aa (aV 2) ab)) ab)))))
theorem Be (P:ar w Φ n):aM w (n+1) (bo 3 [] 0 zY Φ) (.ref 761):=
 cX (sC 69 27) Ej P
def G9:AS:=(nu (GS 435 (aa (am (aV 0) 55 (aa (aV 1) (aa (aV 2) ab))) ab)))
theorem Ap (P:ar w Φ n):aM w (n+1) (bo 3 [] 0 G9 Φ) (.ref 768):=
 cX (sC 69 28) BQ P
def AX:AS:=(aq (bK (aa (aS "nil") (aa (aS "true") (aa (aS "false") (aa (aS "Symbol") (aa (aS "Array") (aa (aS "Hash") (aa (aS "Object") (aa (aS "String") (aa (aS "Range") ab)))))))))))
theorem AO (P:ar w Φ n):aM w (n+1) (bo 0 [] 0 AX Φ) (.ref 845):=
 cX (sT 71) Ci P
def FZ:AS:=(aq (bK (aa (aS "a") (aa (aS "b") (aa (aS "\n") (aa (bH kC (aa (aI 233) ab)) (aa (bH kC (aa (aI 128512) ab)) ab)))))))
theorem BD (P:ar w Φ n):aM w (n+1) (bo 0 [] 0 FZ Φ) (.ref 852):=
 cX (sT 72) C6 P
def Fq:AS:=(gu [.l 1,.l 2,.l 3] (aU (aa (aI 0) (aa (aI 29) (aa (aB true) ab)))) (lM (ew (aV 0) none (some (aI 63))) (Tg.put (.l 4)) (ay (.l 3) (eL (aV 3) [bG .Eq (aV 4) (aI 0)]) (ay (.l 2) (ap .Mod (ap .Add (ap .Add (ap .Mult (aV 2) (aI 48271)) (ap .Mult (aV 4) (aI 69621))) (aI 31)) (aI 2147483629)) (aw (bO [ai .Eq (aV 1) (aI 0),ai .GtE (bH eS (aa (aV 4) ab)) (ap .Pow (aI 10) (aI 18))]) (ay (.l 1) (bH eS (aa (aV 4) ab)) aF) aF))) (aq (bK (aa (aV 1) (aa (aV 2) (aa (aI 0) (aa (aV 3) (aa (aO (ai .Gt (bH aZ (aa (aV 0) ab)) (aI 0)) (ax (aV 0) (jR (aI 1))) (aI 0)) ab)))))))))
theorem B9 (P:ar w Φ n):aM w (n+1) (bo 1 [] 4 Fq Φ) (.ref 859):=
 cX (sT 73) D8 P
def GO:AS:=(aw (ai .Gt (ax (aV 0) (aI 0)) (aI 0)) (nt (.l 2) (aV 0) (aI 0) (aU (aa (ap .Mod (ax (aV 0) (aI 0)) (aV 1)) (aa (ap .FloorDiv (ax (aV 0) (aI 0)) (aV 1)) ab))) (aq (aV 2))) (i9 (aV 0) (aI 2) (ap .Add (ax (aV 0) (aI 2)) (aI 1)) (aw (aP (ax (aV 0) (aI 3))) (aq (ap .Mod (ap .Mod (ap .Add (ap .Add (ap .Mult (ap .Mult (aI 3) (ax (aV 0) (aI 2))) (ax (aV 0) (aI 2))) (ap .Mult (aI 4) (ax (aV 0) (aI 2)))) (aI 1)) (aI 61)) (aV 1))) (ay (.l 3) (ap .Mod (ap .Pow (ap .Add (ap .Add (ax (aV 0) (aI 1)) (ap .Mult (aI 15485857) (ax (aV 0) (aI 2)))) (aI 37)) (aI 5)) (aI 2147483647)) (aq (ap .Mod (ap .FloorDiv (ap .Mod (ap .Pow (ap .Add (ap .Mult (aV 3) (aI 48271)) (ap .Mult (aI 7883) (ax (aV 0) (aI 2)))) (aI 3)) (aI 2147483587)) (aI 64)) (aV 1)))))))
theorem Bg (P:ar w Φ n):aM w (n+1) (bo 2 [] 2 GO Φ) (.ref 866):=
 cX (sT 74) Am P
def xW:AS:=(mA (Tg.put (.l 2)) (aV 1) (cB (am (aC 0) 6 (aa aX ab))) (lE (ai .Eq (ag 866 (aa (aV 0) (aa (aI 3) ab))) (aI 0)) (ay (.l 3) (am (aC 0) 43 (aa (am (aC 0) 47 (aa (aS "Row") (aa (aB true) (aa (am (aC 0) 44 (aa (aS "Array") ab)) ab)))) ab)) (ay (.l 4) (am (aC 0) 43 (aa (am (aC 0) 47 (aa (aS "Line") (aa (aB true) (aa (am (aC 0) 44 (aa (aS "String") ab)) ab)))) ab)) (cS (kY eW ku (aj (aV 3) 7) (aa (aV 2) ab)) (az (aV 4) 6 (aV 1) aF)))) (cT [.l 3,.l 4] (aU (aa (am (aC 0) 51 (aa (aV 2) ab)) (aa (am (aC 0) 6 (aa (aV 1) ab)) ab))) aF) (az (aV 3) 4 (bG .Eq (ag 866 (aa (aV 0) (aa (aI 3) ab))) (aI 0)) (az (aV 4) 4 (aj (aV 3) 4) (aq (aU (aa (aV 3) (aa (aV 4) ab))))))))
theorem GJ (P:ar w Φ n):aM w (n+1) (fX 3 [] [some 1,some 2,none,none,none] [some 0] xW Φ) (.ref 871):=
 l4 (s:=sT 75) (dV:=[]) (by kernel_rfl) (by kernel_rfl) ⟨by kernel_rfl,(by kernel_rfl:(HK w.params).lookup 871=some FC)⟩ (by kernel_rfl) (λZ=>rfl) (λd h=>by obtain⟨a,b,c,rfl⟩:=KS h;exact⟨λS=>by kernel_rfl,by kernel_rfl,by kernel_rfl,by kernel_rfl⟩) P
def ET:AS:=(aw (ai .Lt (ag 866 (aa (aV 0) (aa (aI 6) ab))) (aI 5)) (aq (ap .Add (aV 1) (ag 866 (aa (aV 0) (aa (ap .Add (ap .Sub (aV 2) (aV 1)) (aI 1)) ab))))) (ay (.l 3) (ap .Add (ax (bK (aa (ap .Pow (aI 2) (aI 63)) (aa (ap .Pow (aI 2) (aI 64)) (aa (ap .Pow (aI 10) (aI 30)) (aa (ax (aV 0) (aI 4)) ab))))) (ag 866 (aa (aV 0) (aa (aI 4) ab)))) (ag 866 (aa (aV 0) (aa (aI 3) ab)))) (aq (aO (ai .Eq (ag 866 (aa (aV 0) (aa (aI 2) ab))) (aI 0)) (aV 3) (ap .Sub (aI 0) (aV 3))))))
theorem B6 (P:ar w Φ n):aM w (n+1) (bo 3 [] 1 ET Φ) (.ref 878):=
 cX (sT 76) Hc P
def v6:AS:=(aw (ai .Lt (aV 1) (aI 4)) (aq (ax (bK (aa aN (aa (aB true) (aa (aB false) (aa (aS "a") ab))))) (aV 1))) (aw (ai .Lt (aV 1) (aI 7)) (aq (aO (ai .Eq (aV 1) (aI 4)) (am (aV 0) 51 (aa (bK (aa (aI 1) ab)) ab)) (aO (ai .Eq (aV 1) (aI 5)) (am (aV 0) 52 (aa (bK (aa (aU (aa (aI 1) (aa (aI 2) ab))) ab)) ab)) (aj (aV 0) 41)))) (aq (aO (ai .Eq (aV 1) (aI 7)) (am (aV 0) 6 (aa (aS "a") ab)) (am (aV 0) 54 (aa (aI 0) (aa (aI 1) (aa (aB false) ab))))))))
theorem E3 (P:ar w Φ n):aM w (n+1) (bo 2 [] 0 v6 Φ) (.ref 885):=
 cX (sT 77) Bx P
def uR:AS:=(cT [.l 3,.l 4] (aU (aa (ag 866 (aa (aV 1) (aa (aI 5) ab))) (aa (ag 866 (aa (aV 1) (aa (aI 9) ab))) ab))) (aw (bO [ai .Eq (aV 3) (aI 0),ai .Gt (aV 4) (aI 6)]) (ay (.l 4) (ap .Sub (aV 4) (aI 7)) aF) (aw (bO [ai .Eq (aV 3) (aI 4),ai .Eq (aV 4) (aI 0)]) (ay (.l 4) (aI 3) aF) (ay (.l 5) (ag 885 (aa (aV 0) (aa (aV 4) ab))) (ay (.l 6) (aO (ai .Eq (aV 4) (aI 0)) (aS "from nil to integer") (ap .Add (ap .Add (aS "of ") (ax (ag 845 ab) (aV 4))) (aS " into Integer"))) (lE (ai .Eq (aV 3) (aI 0)) (ay (.l 7) (bK (aa (aV 5) ab)) aF) (lE (ai .Eq (aV 3) (aI 1)) (ay (.l 7) (bK (aa (aV 5) (aa (ag 878 (aa (aV 1) (aa (ap .Sub (ap .Sub (aI 0) (aV 2)) (aI 2)) (aa (ap .Add (aV 2) (aI 2)) ab)))) ab))) aF) (lE (ai .Eq (aV 3) (aI 2)) (ay (.l 7) (bK (aa (ag 878 (aa (aV 1) (aa (ap .Sub (ap .Sub (aI 0) (aV 2)) (aI 2)) (aa (ap .Add (aV 2) (aI 2)) ab)))) (aa (aV 5) ab))) aF) (lE (ai .Eq (aV 3) (aI 3)) (ay (.l 7) (bK (aa (aV 5) (aa (ag 885 (aa (aV 0) (aa (ag 866 (aa (aV 1) (aa (aI 9) ab))) ab))) ab))) aF) (ay (.l 8) (ax (bK (aa (aU (aa (aV 5) (aa aN ab))) (aa (aU (aa aN (aa (aV 5) ab))) (aa (aU (aa (aV 5) (aa (aV 5) ab))) ab)))) (ag 866 (aa (aV 1) (aa (aO (ai .Lt (aV 4) (aI 3)) (aI 2) (aI 3)) ab)))) (ay (.l 7) (bK (aa (am (aV 0) 54 (aa (ax (aV 8) (aI 0)) (aa (ax (aV 8) (aI 1)) (aa (bG .Eq (ag 866 (aa (aV 1) (aa (aI 2) ab))) (aI 1)) ab)))) ab)) aF)) aF) aF) aF) (aq (aU (aa (aV 7) (aa (aU (aa (aS "odd") (aa (ap .Add (aS "TypeError: no implicit conversion ") (aV 6)) (aa (aI 0) (aa (aB false) ab))))) ab))))))))))
theorem Dm (P:ar w Φ n):aM w (n+1) (bo 3 [] 6 uR Φ) (.ref 892):=
 cX (sT 78) F7 P
def AM:AS:=(ay (.l 4) (ap .Mod (aV 3) (aI 6)) (aw (ai .Eq (aV 4) (aI 4)) (aq (ag 892 (aa (aV 0) (aa (aV 1) (aa (aV 2) ab))))) (aw (ai .Eq (aV 4) (aI 3)) (ay (.l 5) (ag 878 (aa (aV 1) (aa (ap .Sub (ap .Sub (aI 0) (aV 2)) (aI 2)) (aa (ap .Add (aV 2) (aI 2)) ab)))) (aq (aU (aa (bK (aa (aV 5) ab)) (aa (aU (aa (aS "one") (aa (aV 5) (aa (aI 0) (aa (aB false) ab))))) ab))))) (aw (ai .Eq (aV 4) (aI 1)) (cT [.l 5,.l 6] (aU (aa (ag 878 (aa (aV 1) (aa (ap .Sub (ap .Sub (aI 0) (aV 2)) (aI 2)) (aa (ap .Add (aV 2) (aI 2)) ab)))) (aa (ag 878 (aa (aV 1) (aa (jR (aI 1)) (aa (ap .Add (aV 2) (aI 2)) ab)))) ab))) (aq (aU (aa (bK (aa (aV 5) (aa (aV 6) ab))) (aa (aU (aa (aS "two") (aa (aV 5) (aa (aV 6) (aa (aB false) ab))))) ab))))) (lE (ai .Eq (aV 4) (aI 5)) (ay (.l 5) (ag 866 (aa (aV 1) (aa (ap .Add (aV 2) (aI 1)) ab))) (ay (.l 7) (ap .Sub (ap .Add (aV 5) (ag 866 (aa (aV 1) (aa (aI 6) ab)))) (aI 2)) (cT [.l 5,.l 7] (aU (aa (ap .Sub (aV 5) (ap .Mult (aV 2) (ag 866 (aa (aV 1) (aa (aI 2) ab))))) (aa (ap .Sub (aV 7) (ap .Mult (aV 2) (ag 866 (aa (aV 1) (aa (aI 2) ab))))) ab))) aF))) (ay (.l 5) (aO (bO [ai .Eq (aV 4) (aI 2),ai .Eq (ag 866 (aa (aV 1) (aa (aI 4) ab))) (aI 3)]) aN (ag 878 (aa (aV 1) (aa (ap .Sub (ap .Sub (aI 0) (aV 2)) (aI 2)) (aa (ap .Add (aV 2) (aI 2)) ab))))) (ay (.l 7) (aO (cD [ai .Eq (aV 4) (aI 0),ai .Eq (ag 866 (aa (aV 1) (aa (aI 4) ab))) (aI 3)]) aN (ag 878 (aa (aV 1) (aa (ap .Sub (ap .Sub (aI 0) (aV 2)) (aI 2)) (aa (ap .Add (aV 2) (aI 2)) ab))))) aF)) (ay (.l 8) (rO (bG .Eq (aV 3) (aI 0)) (bG .Eq (ag 866 (aa (aV 1) (aa (aI 2) ab))) (aI 1))) (aq (aU (aa (bK (aa (am (aV 0) 54 (aa (aV 5) (aa (aV 7) (aa (aV 8) ab)))) ab)) (aa (aU (aa (aS "range") (aa (aV 5) (aa (aV 7) (aa (aV 8) ab))))) ab))))))))))
theorem Fe (P:ar w Φ n):aM w (n+1) (bo 4 [] 5 AM Φ) (.ref 899):=
 cX (sT 79) GX P
def zO:AS:=(aw (ai .Is (aV 2) aN) (aq (aB false)) (ay (.l 4) (aO (ai .GtE (aV 2) (aI 0)) (aV 1) (ap .Sub (aV 1) (aV 0))) (aq (rO (bG .Gt (aV 4) (aV 2)) (eL (aV 3) [bG .Eq (aV 4) (aV 2)])))))
theorem C7 (P:ar w Φ n):aM w (n+1) (bo 4 [] 1 zO Φ) (.ref 906):=
 cX (sT 80) Aa P
def Cd:AS:=(gu [.l 1,.l 2,.c 4,.c 3] (aV 0) (aw (ai .Eq (aV 1) (aS "odd")) (aq aN) (ay (.c 2) (aO (ai .Is (aV 2) aN) (aI 0) (aV 2)) (ay (.c 1) (bP (bH bD (aa (aO (ai .Eq (aV 1) (aS "one")) (aC 5) (ap .Add (aC 5) (aI 1))) ab)) (pZ (cD [ai .Eq aX (aC 2),bO [ai .Lt (aC 2) (aI 0),ai .Eq (ap .Sub aX (aC 5)) (aC 2)]]) aX)) (aw (cD [ai .Eq (aC 1) (bK ab),bO [ai .Eq (aV 1) (aS "two"),ai .Lt (aC 4) (aI 0)]]) (aq aN) (aw (ai .Eq (aV 1) (aS "one")) (aq (aU (aa (ax (aC 1) (aI 0)) (aa (aC 1) ab)))) (ay (.c 0) (bP (bH bD (aa (aC 5) ab)) (pZ (ai .GtE aX (ax (aC 1) (aI 0))) aX)) (aw (ai .Eq (aV 1) (aS "two")) (aq (aU (aa (ax (aC 1) (aI 0)) (aa (bP (bH bD (aa (bH aZ (aa (aC 0) ab)) ab)) (pZ (ai .Lt aX (aC 4)) (ax (aC 0) aX))) ab)))) (aq (aU (aa (ax (aC 1) (aI 0)) (aa (bP (aC 0) (pZ (cF (aP (ag 906 (aa (aC 5) (aa aX (aa (aC 4) (aa (aC 3) ab))))))) aX)) ab))))))))))))
theorem Fs (P:ar w Φ n):aM w (n+1) (fX 2 [] [some 1,none,none] [none,none,none,none,none,some 0] Cd Φ) (.ref 911):=
 l4 (s:=sT 81) (dV:=[]) (by kernel_rfl) (by kernel_rfl) ⟨by kernel_rfl,(by kernel_rfl:(HK w.params).lookup 911=some C0)⟩ (by kernel_rfl) (λZ=>rfl) (λc h=>by obtain⟨a,b,rfl⟩:=xH h;exact⟨λS=>by kernel_rfl,by kernel_rfl,by kernel_rfl,by kernel_rfl⟩) P
def pU:AS:=(gu [.l 2,.l 3,.l 4,.l 5] (aV 0) (aw (bO [ai .Eq (bH aZ (aa (aC 0) ab)) (aI 1),cF (aP (bH bt (aa (ax (aC 0) (aI 0)) (aa (aG 140) ab))))]) (aq (aB true)) (ay (.l 6) (ag 918 (aa (lP 0 (aT 0).qual 0 920 [0,1,2] 717 23) ab)) (aw (ai .Eq (aV 2) (aS "odd")) (aq (eL (bG .Eq (aV 6) (aV 3)) [rO (bG .Eq (bH aZ (aa (aC 0) ab)) (aI 2)) (bG .Eq (ag 918 (aa (lP 1 (aT 1).qual 0 920 [0,1,2] 719 64) ab)) (aV 3))])) (aw (ai .NotEq (aV 6) (aO (ai .Is (aV 1) aN) aN (aU (aa (ax (aV 1) (aI 0)) (aa (bH aZ (aa (ax (aV 1) (aI 1)) ab)) ab))))) (aq (aB false)) (aw (ai .Eq (aV 2) (aS "two")) (aq (aB true)) (gu [.l 7,.l 8] (ag 386 (aa (aC 2) (aa (ax (aC 0) (aI 0)) (aa (aC 1) ab)))) (aw (ai .NotEq (aO (cD [ai .Is (aV 3) aN,ai .GtE (aV 3) (aI 0)]) (aV 7) (ap .Sub (aV 7) (aC 1))) (aO (ai .Is (aV 3) aN) (aI 0) (aV 3))) (aq (aB false)) (aw (ai .Is (aV 4) aN) (aq (bG .Eq (aV 8) (aC 1))) (ay (.l 9) (aO (aP (aV 5)) (aV 8) (ap .Sub (aV 8) (aI 1))) (aq (bG .Eq (aO (ai .GtE (aV 4) (aI 0)) (aV 9) (ap .Sub (aV 9) (aC 1))) (aV 4)))))))))))))
theorem Ei (P:ar w Φ n):aM w (n+1) (fX 5 [] [some 3,some 4,none,none,none,none,none,none,none,none] [some 2,some 1,some 0] pU Φ) (.ref 925):=
 l4 (s:=sT 83) (dV:=[]) (by kernel_rfl) (by kernel_rfl) ⟨by kernel_rfl,(by kernel_rfl:(HK w.params).lookup 925=some BX)⟩ (by kernel_rfl) (λZ=>rfl) (λf h=>by obtain⟨a,b,c,d,e,rfl⟩:=Bd h;exact⟨λS=>by kernel_rfl,by kernel_rfl,by kernel_rfl,by kernel_rfl⟩) P
def qv:AS:=(aw (ai .Eq (ax (aV 3) (aI 0)) (aS "odd")) (aq (eL (bH bt (aa (aV 0) (aa (mG 2) ab))) [bH bt (aa (aV 1) (aa (mG 2) ab)),bG .Eq (aV 0) (ax (aV 3) (aI 1)),bG .Eq (aV 1) (ax (aV 3) (aI 1))])) (aw (ai .Is (aV 4) aN) (aq (eL (bG .Is (aV 0) aN) [bG .Is (aV 1) aN])) (aw (cD [cF (aP (bH bt (aa (aV 1) (aa (aG 62) ab)))),ai .NotEq (aj (aj (aV 1) 1) 15) (aS "String"),aP (aj (aV 1) 4),ai .In (aj (aV 1) 0) (aV 2)]) (aq (aB false)) (aw (ai .NotEq (aj (aV 1) 6) (kY gR dq (aS "") (aa (bP (ax (aV 4) (aI 1)) (cB (ax (aC 0) aX))) ab))) (aq (aB false)) (aw (ai .Eq (ax (aV 3) (aI 0)) (aS "one")) (aq (eL (bH bt (aa (aV 0) (aa (aG 62) ab))) [bG .Eq (aj (aV 0) 0) (aj (ax (aC 1) (ax (aV 4) (aI 0))) 0)])) (aw (cD [cF (aP (bH bt (aa (aV 0) (aa (aG 82) ab)))),ai .NotEq (aj (aj (aV 0) 1) 15) (aS "Array"),aP (aj (aV 0) 4),ai .In (aj (aV 0) 0) (aV 2)]) (aq (aB false)) (aq (bG .Eq (bP (aj (aV 0) 7) (cB (aj aX 0))) (bP (ax (aV 4) (aI 1)) (cB (aj (ax (aC 1) aX) 0)))))))))))
theorem Fg (P:ar w Φ n):aM w (n+1) (fX 7 [] [some 0,some 1,some 4,some 5,some 6] [some 3,some 2] qv Φ) (.ref 930):=
 l4 (s:=sT 84) (dV:=[]) (by kernel_rfl) (by kernel_rfl) ⟨by kernel_rfl,(by kernel_rfl:(HK w.params).lookup 930=some FQ)⟩ (by kernel_rfl) (λZ=>rfl) (λi h=>by obtain⟨a,b,c,d,e,f,g,rfl⟩:=MN h;exact⟨λS=>by kernel_rfl,by kernel_rfl,by kernel_rfl,by kernel_rfl⟩) P
def EF:AS:=(gu [.c 3,.c 2] (aU (aa (bH dG (aa (aj (aC 6) 7) ab)) (aa (aj (aC 5) 6) ab))) (ay (.l 3) (q5 (bK (aa (aj (aC 6) 0) (aa (aj (aC 5) 0) ab))) (bP (aC 3) (cB (aj aX 0)))) (ay (.c 0) (aO (aP (aV 2)) (bK (aa (aG 461) (aa (aG 517) ab))) (bK (aa (aG 454) (aa (aG 510) ab)))) (cT [.l 4,.l 5] (aU (aa (ag 918 (aa (lP 2 (aT 2).qual 1 932 [4,6,0,7] 750 0) ab)) (aa (ag 918 (aa (lP 3 (aT 3).qual 1 932 [4,0,5,7] 751 0) ab)) ab))) (aw (cF (aP (ag 930 (aa (aV 4) (aa (aV 5) (aa (aC 3) (aa (aC 2) (aa (aV 3) (aa (aV 0) (aa (aV 1) ab)))))))))) (aq (aB false)) (ay (.c 1) (aO (bO [aP (aV 2),ai .IsNot (aV 1) aN]) (ax (aV 1) (aI 1)) (bK ab)) (mA (Tg.put (.l 6)) (bH bD (aa (bH aZ (aa (aC 2) ab)) ab)) (pZ (ai .NotIn aX (aC 1)) aX) (aw (ai .NotEq (bP (aj (aC 6) 7) (cB (aj aX 0))) (bP (aV 6) (cB (aj (ax (aC 3) aX) 0)))) (aq (aB false)) (aq (bG .Eq (aj (aC 5) 6) (kY gR dq (aS "") (aa (bP (aV 6) (cB (ax (aC 2) aX))) ab))))))))))))
theorem Ds (P:ar w Φ n):aM w (n+1) (fX 7 [] [some 4,some 5,some 6,none,none,none,none] [none,none,none,none,some 3,some 2,some 1,some 0] EF Φ) (.ref 935):=
 l4 (s:=sT 85) (dV:=[]) (by kernel_rfl) (by kernel_rfl) ⟨by kernel_rfl,(by kernel_rfl:(HK w.params).lookup 935=some A4)⟩ (by kernel_rfl) (λZ=>rfl) (λi h=>by obtain⟨a,b,c,d,e,f,g,rfl⟩:=MN h;exact⟨λS=>by kernel_rfl,by kernel_rfl,by kernel_rfl,by kernel_rfl⟩) P
def vw:AS:=(gu [.c 0,.l 1] (aU (aa (ag 859 (aa (aV 0) ab)) (aa (ei 834 573 (aa gW ab)) ab))) (ay (.l 2) (aO (aP (ax (aC 0) (aI 3))) (aS "abc") (kY gR dq (aS "") (aa (bP (bH bD (aa (ag 866 (aa (aC 0) (aa (aI 13) ab))) ab)) (cB (ax (ag 852 ab) (ag 866 (aa (aC 0) (aa (aI 5) ab)))))) ab))) (gu [.l 3,.l 4] (ag 871 (aa (aV 1) (aa (aC 0) (aa (aV 2) ab)))) (ay (.l 5) (bH aZ (aa (aV 2) ab)) (lM (bH bD (aa (aO (aP (ax (aC 0) (aI 3))) (aI 6) (ap .Add (aI 6) (ap .Mult (aI 3) (bH fk (aa (aI 6) (aa (bH aZ (aa (aV 0) ab)) ab)))))) ab)) (Tg.put (.l 6)) (gu [.l 7,.l 8] (ag 899 (aa (aV 1) (aa (aC 0) (aa (aV 5) (aa (aV 6) ab))))) (ay (.l 9) (ag 911 (aa (aV 5) (aa (aV 8) ab))) (aw (cF (aP (ag 925 (aa (aV 1) (aa (aV 5) (aa (aV 7) (aa (aV 8) (aa (aV 9) ab)))))))) (aq (aB false)) (aw (cF (aP (ag 935 (aa (aV 1) (aa (aV 3) (aa (aV 4) (aa (aV 7) (aa (aV 8) (aa (aV 9) (aa (aB false) ab)))))))))) (aq (aB false)) (aw (cF (aP (ag 935 (aa (aV 1) (aa (am (aV 1) 51 (aa (aj (aV 3) 7) ab)) (aa (am (aV 1) 6 (aa (aV 2) ab)) (aa (aV 7) (aa (aV 8) (aa (aV 9) (aa (aB true) ab)))))))))) (aq (aB false)) aF))))) (aq (bG .Eq (bP (aj (aV 3) 7) (cB (aj aX 6))) (bH dG (aa (aV 2) ab)))))))))
theorem FJ (P:ar w Φ n):aM w (n+1) (fX 1 [] [some 0,none,none,none,none,none,none,none,none,none] [none] vw Φ) (.ref 940):=
 l4 (s:=sT 86) (dV:=[]) (by kernel_rfl) (by kernel_rfl) ⟨by kernel_rfl,(by kernel_rfl:(HK w.params).lookup 940=some Fy)⟩ (by kernel_rfl) (λZ=>rfl) (λb h=>by obtain⟨a,rfl⟩:=rK h;exact⟨λS=>by kernel_rfl,by kernel_rfl,by kernel_rfl,by kernel_rfl⟩) P
abbrev qc:=(Nat->eO)->List SV->Sg->KV->KX->Prop
def V9 (a b:qc):qc:=λΦ args σ K KE=>a Φ args σ K KE∨b Φ args σ K KE
theorem BS {f:Value} {a b:qc} (ha:aM w n (a Φ) f) (hb:aM w n (b Φ) f):aM w n (V9 a b Φ) f:=λq Q h t j o X l d e K k i C R g m p c=>m.elim (λm=>ha q Q h t j o X l d e K k i C R g m p c) λm=>hb q Q h t j o X l d e K k i C R g m p c
def gj:List (Nat×qc)->Nat->qc
 |[],_=>λZ Z Z Z Z=>False
 |p::r,f=>match Nat.beq p.1 f with
  |true=>p.2
  |false=>gj r f
theorem jc {P:Nat->qc->Prop} (h0:∀f,P f λZ Z Z Z Z=>False):∀{l:List (Nat×qc)} {f:Nat},(∀p∈l,P p.1 p.2)->P f (gj l f)
 |[],f,_=>h0 f
 |p::r,f,h=>by
  unfold gj;cases e:Nat.beq p.1 f with
  |true=>rw[←W9 e];exact h p (.head _)
  |false=>exact jc h0 λq a=>h q (.tail _ a)
def mL0:AE:=ag 393 (aa (aC 2) (aa (aC 0) (aa (aC 1) ab)))
def mL1:AE:=ag 386 (aa (aC 2) (aa (ax (aC 0) (aI 0)) (aa (aC 1) ab)))
def mL2:AE:=kJ (ax (aC 2) (aI 0)) (aa (aC 3) (aa (aC 1) (aa (aC 0) ab)))
def mL3:AE:=kJ (ax (aC 1) (aI 1)) (aa (aC 3) (aa (aC 2) (aa (aC 0) ab)))
theorem wA {j:Nat} {m:AE} (he:∀cd,dE (nV j cd) (aT j).body=some m) (hc:(i6 (aT j).scope&&((aT j).scope.kind== .function&&(aT j).cn.all λy=>(aT j).scope.names.lookup y==some .free&& !(y==("__classdict__":Str))))=true)
  (hb:∀clos pm c' ctv,bindArgs (kla_fn "<lambda>" (aT j).qual (aT j).params (aT j).body (aT j).scope clos pm (.ref c') ctv) ⟨[],[]⟩=pure []) (P:ar w Φ n):jo w (n+1) (ny j m Φ):=
 G2 P ((WU _ _).mp hc).1 ((WU _ _).mp hc).2 hb λcd=>nN _ _ _ (he cd)
noncomputable def u7:List (Nat×qc):=[(10000,ny 0 mL0),(10001,ny 1 mL1),(10002,ny 2 mL2),(10003,ny 3 mL3)]
noncomputable def vI:List (Nat×qc):=[
 (37,bo 3 [] 0 m37),
 (59,bo 4 [] 0 m59),
 (79,bo 4 [] 0 m79),
 (98,bo 3 [] 0 m98),
 (105,bo 3 [] 2 BW),
 (137,bo 6 [] 0 C8),
 (178,bo 4 [] 0 Bv),
 (218,V9 (bo 5 [.none,.none] 0 kb) (bo 7 [] 0 kb)),
 (225,bo 1 [] 0 Gh),
 (237,bo 1 [] 0 xl),
 (244,bo 1 [] 0 pV),
 (251,bo 2 [] 1 Di),
 (264,fX 1 [.int 12,.none] [some 0,none,none] [some 2,some 1] Gg),
 (297,bo 1 [] 3 DR),
 (358,bo 1 [.int 6,.none] 1 Fx),
 (365,bo 2 [] 0 C5),
 (372,bo 2 [] 0 wW),
 (379,bo 2 [] 0 Bp),
 (386,bo 3 [] 2 xM),
 (393,bo 3 [] 3 qA),
 (400,bo 3 [] 1 xL),
 (415,bo 2 [] 0 Ba),
 (435,bo 2 [] 0 Au),
 (447,bo 3 [] 1 xE),
 (454,bo 3 [] 1 qC),
 (461,bo 3 [] 2 qP),
 (468,bo 3 [] 1 wJ),
 (475,bo 2 [] 1 wk),
 (482,bo 2 [] 0 Cq),
 (489,bo 3 [] 1 F9),
 (496,bo 3 [] 4 wU),
 (503,bo 3 [] 2 vG),
 (510,bo 3 [] 1 w8),
 (517,bo 3 [] 2 wT),
 (573,bo 2 [.none,.none,.int 20000] 1 Do),
 (594,bo 1 [] 0 CY),
 (615,bo 2 [] 1 vy),
 (620,fX 2 [] [some 1,none,none,none] [some 0] wS),
 (627,bo 2 [] 0 Cb),
 (635,bo 4 [.none,.none] 3 zL),
 (642,bo 2 [] 0 qH),
 (663,bo 2 [] 0 Fb),
 (677,bo 2 [] 0 EQ),
 (684,bo 2 [] 0 Ew),
 (691,bo 2 [] 3 ED),
 (698,bo 2 [] 1 Ak),
 (705,bo 4 [] 2 pN),
 (719,bo 2 [] 2 vF),
 (761,bo 3 [] 0 zY),
 (768,bo 3 [] 0 G9),
 (845,bo 0 [] 0 AX),
 (852,bo 0 [] 0 FZ),
 (859,bo 1 [] 4 Fq),
 (866,bo 2 [] 2 GO),
 (871,fX 3 [] [some 1,some 2,none,none,none] [some 0] xW),
 (878,bo 3 [] 1 ET),
 (885,bo 2 [] 0 v6),
 (892,bo 3 [] 6 uR),
 (899,bo 4 [] 5 AM),
 (906,bo 4 [] 1 zO),
 (911,fX 2 [] [some 1,none,none] [none,none,none,none,none,some 0] Cd),
 (918,mP),
 (925,fX 5 [] [some 3,some 4,none,none,none,none,none,none,none,none] [some 2,some 1,some 0] pU),
 (930,fX 7 [] [some 0,some 1,some 4,some 5,some 6] [some 3,some 2] qv),
 (935,fX 7 [] [some 4,some 5,some 6,none,none,none,none] [none,none,none,none,some 3,some 2,some 1,some 0] EF),
 (940,fX 1 [] [some 0,none,none,none,none,none,none,none,none,none] [none] vw)]
theorem forall_nil {α:Type} {P:α->Prop}:∀x∈([]:List α),P x:=λx a=>nomatch a
def x9 (w:World) (f:Nat) (φ:qc):Prop:=∀{n Φ},ar w Φ n->aM w (n+1) (φ Φ) (.ref f)
def qD (w:World) (f:Nat) (φ:qc):Prop:=∀{n Φ},ar w Φ n->jo w (n+1) (φ Φ)
theorem wG:∀p∈u7,qD w p.1 p.2:=
 forall_cons (λP=>wA (λcd=>by kernel_rfl) (by kernel_rfl) (λZ Z Z Z=>by kernel_rfl) P) (forall_cons (λP=>wA (λcd=>by kernel_rfl) (by kernel_rfl) (λZ Z Z Z=>by kernel_rfl) P) (forall_cons (λP=>wA (λcd=>by kernel_rfl) (by kernel_rfl) (λZ Z Z Z=>by kernel_rfl) P) (forall_cons (λP=>wA (λcd=>by kernel_rfl) (by kernel_rfl) (λZ Z Z Z=>by kernel_rfl) P) forall_nil)))
theorem vl:∀p∈vI,x9 w p.1 p.2:=
 forall_cons (λP=>No P)<|forall_cons (λP=>Pj P)<|forall_cons (λP=>Ko P)<|forall_cons (λP=>IF P)<|forall_cons (λP=>Hb P)<|forall_cons (λP=>FG P)<|forall_cons (λP=>Cg P)<|forall_cons (λP=>BS (D2 P) (xo P))<|forall_cons (λP=>Fo P)<|forall_cons (λP=>He P)<|forall_cons (λP=>Dg P)<|forall_cons (λP=>AG P)<|forall_cons (λP=>AB P)<|forall_cons (λP=>An P)<|forall_cons (λP=>Gi P)<|forall_cons (λP=>F3 P)<|forall_cons (λP=>Dw P)<|forall_cons (λP=>CE P)<|forall_cons (λP=>Av P)<|forall_cons (λP=>FP P)<|forall_cons (λP=>E5 P)<|forall_cons (λP=>Hh P)<|forall_cons (λP=>GT P)<|forall_cons (λP=>Bk P)<|forall_cons (λP=>En P)<|forall_cons (λP=>C2 P)<|forall_cons (λP=>zR P)<|forall_cons (λP=>Ca P)<|forall_cons (λP=>Cr P)<|forall_cons (λP=>CU P)<|forall_cons (λP=>Ae P)<|forall_cons (λP=>De P)<|forall_cons (λP=>GK P)<|forall_cons (λP=>E7 P)<|forall_cons (λP=>AK P)<|forall_cons (λP=>Fc P)<|forall_cons (λP=>BZ P)<|forall_cons (λP=>Gm P)<|forall_cons (λP=>AD P)<|forall_cons (λP=>AZ P)<|forall_cons (λP=>DK P)<|forall_cons (λP=>BB P)<|forall_cons (λP=>Dv P)<|forall_cons (λP=>Ah P)<|forall_cons (λP=>CF P)<|forall_cons (λP=>FV P)<|forall_cons (λP=>D4 P)<|forall_cons (λP=>Et P)<|forall_cons (λP=>Be P)<|forall_cons (λP=>Ap P)<|forall_cons (λP=>AO P)<|forall_cons (λP=>BD P)<|forall_cons (λP=>B9 P)<|forall_cons (λP=>Bg P)<|forall_cons (λP=>GJ P)<|forall_cons (λP=>B6 P)<|forall_cons (λP=>E3 P)<|forall_cons (λP=>Dm P)<|forall_cons (λP=>Fe P)<|forall_cons (λP=>C7 P)<|forall_cons (λP=>Fs P)<|forall_cons (λP=>Ez P)<|forall_cons (λP=>Ei P)<|forall_cons (λP=>Fg P)<|forall_cons (λP=>Ds P)<|forall_cons (λP=>FJ P)<|forall_nil
def F (Φ:Nat->eO):eO:=λf=>match Nat.blt f 10000 with
 |true=>gj vI f Φ
 |false=>gj u7 f Φ
theorem Xc6 (n:Nat) (Φ:Nat->eO) (P:ar w Φ n):(∀f,Nat.blt f 10000=true->aM w (n+1) (F Φ f) (.ref f))∧∀j,jo w (n+1) (F Φ (10000+j)):=by
 refine⟨λf g=>?_,λj=>?_⟩
 ·unfold F
  rw[g];exact jc (P:=x9 w) (λf {n Φ} Z q Q h t b d X l a e K c Z Z Z Z m=>m.elim) vl P
 ·unfold F
  rw[show Nat.blt (10000+j) 10000=false from by
   cases h:Nat.blt (10000+j) 10000 with
   |false=>rfl
   |true=>rw[YW]at h;omega]
  exact jc (P:=qD w) (λf {n Φ} Z q Q h t b d X l k V K c Z Z Z Z m=>m.elim) (f:=10000+j) wG P
@[irreducible] noncomputable def Ph (n:Nat):Nat->eO:=xK F n
theorem Ve (n:Nat):ar w (Ph n) n:=by
 unfold Ph;exact Bj Xc6 n
noncomputable def GI (a:Addr):Tb:=λk=>if k=0 then some (920,920)else if k=1 then some (932,932)else if k=2 then some (a,a)else none
noncomputable def EE (xs:List SV) (vs:List Value) (k:Nat):Option SO:=if k=0 then some (.ctab 920 [])else if k=1 then some (.ctab 932 [])else if k=2 then some (.raw xs vs)else none
noncomputable def WQ (xs:List SV) (vs:List Value):Sg:=⟨EE xs vs,3,λk o h=>by
 unfold EE at h;by_cases h0:k=0
 ·exact Z68 h0
 ·by_cases h1:k=1
  ·exact Z68 h1
  ·by_cases h2:k=2
   ·exact Z68 h2
   ·rw[Xh h0,Xh h1,Xh h2]at h;exact cZ h⟩
variable {a:Addr}
theorem xQ {p:Addr×Addr} (h:GI a k=some p):(k=0∧p=(920,920))∨(k=1∧p=(932,932))∨(k=2∧p=(a,a)):=by
 unfold GI at h;by_cases h0:k=0
 ·rw[Xn h0]at h;exact .inl ⟨h0,(W7 h).symm⟩
 ·by_cases h1:k=1
  ·rw[Xh h0,Xn h1]at h;exact .inr (.inl ⟨h1,(W7 h).symm⟩)
  ·by_cases h2:k=2
   ·rw[Xh h0,Xh h1,Xn h2]at h;exact .inr (.inr ⟨h2,(W7 h).symm⟩)
   ·rw[Xh h0,Xh h1,Xh h2]at h;exact cZ h
theorem XbW {xs:List SV} {vs:List Value} (r:bZ (GI a) xs vs) (h1:a≠920) (h2:a≠932):aD w (GI a) (WQ xs vs) ⟨[],[]⟩ [(920,tabObj #[]),(932,tabObj #[]),(a,aL vs 0)]:=by
 refine⟨λk p h=>?_,λk o h=>?_,λk f p d h c e=>?_,bv 920 (.head _) (λq b=>(nomatch b)),λk p h=>?_,λq b=>(nomatch b),λk o p Z Z q b=>(nomatch b),λk p Z q b=>(nomatch b)⟩
 ·show k<3;rcases xQ h with⟨rfl,_⟩|⟨rfl,_⟩|⟨rfl,_⟩<;>decide
 ·have h:EE xs vs k=some o:=h
  unfold EE at h;by_cases h0:k=0
  ·subst h0;obtain rfl:=jS h
   exact⟨920,920,rfl,rfl,#[],.head _,rfl⟩
  ·by_cases h1:k=1
   ·subst h1;obtain rfl:=jS h
    exact⟨932,932,rfl,rfl,#[],.tail _ (.head _),rfl⟩
   ·by_cases h2:k=2
    ·subst h2;obtain rfl:=jS h
     exact⟨a,a,rfl,.tail _ (.tail _ (.head _)),r⟩
    ·rw[Xh h0,Xh h1,Xh h2]at h;exact cZ h
 ·rcases xQ h with⟨rfl,rfl⟩|⟨rfl,rfl⟩|⟨rfl,rfl⟩<;>rcases xQ c with⟨rfl,rfl⟩|⟨rfl,rfl⟩|⟨rfl,rfl⟩<;>first|exact absurd rfl e|exact(f4 (by decide) (by decide) (by decide) (by decide))|exact(f4 h1 h1 h1 h1)|exact(f4 h2 h2 h2 h2)|exact(f4 h1.symm h1.symm h1.symm h1.symm)|exact(f4 h2.symm h2.symm h2.symm h2.symm)
 ·rcases xQ h with⟨_,rfl⟩|⟨_,rfl⟩|⟨_,rfl⟩
  ·exact⟨.head _,.head _⟩
  ·exact⟨.tail _ (.head _),.tail _ (.head _)⟩
  ·exact⟨.tail _ (.tail _ (.head _)),.tail _ (.tail _ (.head _))⟩
variable {h:Heap} {vs:List Value} {p:Program} {loose:List Str} {mean:ExcName->Option Value} {mg mb:Str->Option Value} {b:Addr}
theorem lj {o:Obj} (e:h.get? a=some (aL vs 0)) (hb:h.get? b=some o) (hn:o.cls≠ .type "list"):(hideAll h [a]).get? b=some o:=YI _ hb λm=>by
 rw[XA.mp m,e]at hb;obtain rfl:=jS hb;exact hn rfl
theorem hY {m:Str->Option Value} (e:h.get? a=some (aL vs 0)) (x:h.Ns b m):(hideAll h [a]).Ns b m:=
 let ⟨o,es,ep,e2,hd,r⟩:=x;(nG o es ep (YI _ e2 (λm=>by rw[XA.mp m,e]at e2;obtain rfl:=jS e2;cases hd)) hd r)
theorem EX {K:Frag} (e:h.get? a=some (aL vs 0)) (X:K.In h) (hK:(K.all λp=> !(p.2.cls== .type "list"))=true):K.In (hideAll h [a]):=λb o q=>lj e (X b o q) λz=>by
 have c:=WZ.mp hK (b,o) (mem_of_lookupK q);rw[show(o.cls==Value.type "list")=true from by rw[z];rfl]at c;exact ch c
theorem rn (e:h.get? a=some (aL vs 0)) (T:Top topProg loose mean mg mb h):Top topProg loose mean mg mb (hideAll h [a]) where
 g:=hY e T.g
 b:=hY e T.b
 nolimit:=let ⟨mc,x,r⟩:=T.nolimit;⟨mc,hY e x,r⟩
 nodigits:=let ⟨mc,x,r⟩:=T.nodigits;⟨mc,hY e x,r⟩
 fn:=λd c=>absurd (show d∈([]:List DefRec) from c) Y1
 own:=λo f=>absurd (show o∈([]:List OwnSpec) from f) Y1
 const:=λx d e=>by cases(show(none:Option PyData)=some d from e)
 free:=T.free
 builtins:=T.builtins
 tab:=λd c=>absurd (show d∈([]:List DefRec) from c) Y1
 bmain:=let ⟨bm,ob,a1,a2,a3,a4,r⟩:=T.bmain;(I25 bm ob a1 a2 (lj e a3 (λq=>by rw[q]at a4;revert a4;decide)) a4 r)
 seer:=λe=>absurd (show false=true from e) XE
variable {cl:Str->Option Addr}
theorem ut {τ:Tb} {R:WRecords} {is:List Int}:∀{vs:List Value} {as:List Addr},ReadsAllW R cl h vs (is.map WData.int) as->bZ τ (is.map SV.int) vs:=by
 induction is with
 |nil=>intro vs as r;cases r;exact rfl
 |cons i is ih=>
  intro vs as r;cases r with
  |cons r1 r2=>cases r1;exact⟨_,_,rfl,⟨_,rfl⟩,ih r2⟩
theorem l8 (e:h.get? b=none):(hideAll h [a]).get? b=none:=by
 cases q:(hideAll h [a]).get? b with
 |none=>rfl
 |some o=>rw[of_hideAll _ q]at e;exact yP e
theorem uX {is:List Int} (h:WTm.holds PySem.Challenge.rw_sm0031_01.row.toRowW.records PySem.Challenge.rw_sm0031_01.row.toRowW.pre {args:=[.list (is.map WData.int)]}=true):is.length≤63:=by
 have h:WTm.holds [] (((WTm.lit (WData.int (Int.ofNat 63))).lt (WTm.arg 0).len).not.and (WTm.lit (WData.bool true))) {args:=[.list (is.map WData.int)]}=true:=h;exact Nat.ge_of_not_lt λz=>by
  have h:WTm.holds [] ((WTm.lit (.bool (decide ((63:Int)<((is.map WData.int).length:Int))))).not.and (.lit (.bool true))) {args:=[]}=true:=h;rw[Xx (p:=(63:Int)<((is.map WData.int).length:Int)) (by rw[W0];exact YY.mpr z)]at h;exact ch h
end
structure J4 (xs:List SV) (vs:List Value) (v:SV) (σ:Sg):Prop where
 v:v=.bool true
 t0:∃es,σ.ob 0=some (.ctab 920 es)
 t1:∃es,σ.ob 1=some (.ctab 932 es)
 s:σ.ob 2=some (.raw xs vs)
inductive JA (h:Heap) (args:List WData) (vals:List Value):Prop
 |mk (is:List Int) (vs:List Value) (a:Addr) (hn:is.length≤63) (e1:args=[.list (is.map WData.int)]) (e2:vals=[.ref a]) (ea:h.get? a=some (aL vs 0)) (rv:∀τ,bZ τ (is.map SV.int) vs):JA h args vals
theorem U2 {h:Heap} {args:List WData} {vals:List Value} {as:List Addr} {P:Params} {cl:Str->Option Addr} (hsp:WShape.hasAll PySem.Challenge.rw_sm0031_01.row.toRowW.records args PySem.Challenge.rw_sm0031_01.row.toRowW.args=true∧WTm.holds PySem.Challenge.rw_sm0031_01.row.toRowW.records PySem.Challenge.rw_sm0031_01.row.toRowW.pre {args:=args}=true)
  (hrd:ReadsAllW PySem.Challenge.rw_sm0031_01.row.toRowW.records cl h vals args as) (hwl:WellAll P h vals args):JA h args vals:=by
 refine jv (hasAllW_cons (R:=PySem.Challenge.rw_sm0031_01.row.toRowW.records) (e:=.list .int) (es:=[]) hsp.1) λk r c i g=>?_;obtain rfl:=c;cases hasAllW_nil g;refine bn (hasW_list i) λl b f=>?_;obtain rfl:=b;obtain⟨d,rfl⟩:=items_int f;cases hwl with
 |cons w1 w2=>
 cases w2;cases w1 with
 | @list a vs _ ea wl=>
 cases hrd with
 | @cons _ _ _ _ _ _ r1 r2=>
 cases r2;cases r1 with
 |list e2 _ ed r3=>
 rw[ea]at e2;obtain rfl:=jS e2;cases ed;exact⟨d,vs,a,(uX hsp.2:d.length≤63),rfl,rfl,ea,λj=>ut r3⟩
def JQ (h:Heap) (V:Value) (h':Heap) (t':Nat):Prop:=V=.bool true∧(∀b o,(ghostOf h [(924,920),(934,932)]).get? b=some o->h'.get? b=some o)∧GrownAll [(924,920),(934,932)] h'
theorem sR {w:World} {q:Cf w} {h:Heap} {a:Addr} {xs:List SV} {vs:List Value} (hg:q.g=hideAll (ghostOf h [(924,920),(934,932)]) [a]) (ho:q.outer=[]) (eg:(ghostOf h [(924,920),(934,932)]).get? a=some (aL vs 0)) (v:SV) (σ':Sg) (τ':Tb) (V:Value) (h':Heap) (t':Nat) (g1:Heap) (l':bu) (le:(GI a).le τ') (rv':RV τ' v V) (kt:KtsTurn (eq q.outer) q.g g1) (ex:Ex g1 l' h') (R:aD w τ' σ' ⟨[],[]⟩ l') (k:J4 xs vs v σ'):JQ h V h' t':=by
 obtain⟨rfl,⟨es0,k0⟩,⟨es1,k1⟩,k2⟩:=k;cases rv';have o:τ' 0=some (920,920):=le _ _ rfl;have j:τ' 1=some (932,932):=le _ _ rfl;have r:τ' 2=some (a,a):=le _ _ rfl;obtain⟨_,_,z0,_,d,p,_⟩:=R.ob _ _ k0;cases o.symm.trans z0;obtain⟨_,_,f,_,e,l,_⟩:=R.ob _ _ k1;cases j.symm.trans f;obtain⟨_,_,g,i,_⟩:=R.ob _ _ k2;cases r.symm.trans g;refine(I05 rfl (λb n c=>?_) ⟨d,(ex.led _ p).1⟩ ⟨e,(ex.led _ l).1⟩ trivial);by_cases z:b=a
 ·subst z
  rw[eg]at c;obtain rfl:=jS c;exact(ex.led _ i).1
 ·exact ex.st _ _ (kt.other b n (hg▸YI _ c λm=>z (XA.mp m)) (by rw[ho];exactλm=>nomatch m))
theorem XfN (hl:∀(is:List Int) (vs:List Value),is.length≤63->Ph 500 0 940 [.ref 2] (WQ (is.map SV.int) vs) (J4 (is.map SV.int) vs) (λZ Z=>False)):PySem.Challenge.rw_sm0031_01.Holds:=by
 refine head λd Q=>?_;intro w K c mg mb G Y W o pm cd P dV kV ho U a0 hD j M I F as l H x s a1;have KX:=km_in_of Y;have f:=km_tabs_of Y;refine Ground.open G ?_;intro T B D TE TW;have S:d.name="law":=defOf_name Q;have i:TabsAt [(924,920),(934,932)] c.heap:=YB.mpr ⟨⟨jM (.inl rfl) _ KX,f 920 (.tail _ (.head _))⟩,YB.mpr ⟨⟨jM (.inr rfl) _ KX,f 932 (.head _)⟩,λZ h=>nomatch h⟩⟩;obtain⟨is,vs,a,n,rfl,rfl,ea,r3⟩:=U2 (pre_splitW l) x s;have X:W=940:=by
  have z:=mg_of KX T.g (fb (by kernel_rfl:je (nsIn (HK w.params) mainGlobals "law") 940=true));rw[S,z]at j;cases j;rfl
 subst X;have E:a≠920:=λz=>by rw[z,f 920 (.tail _ (.head _))]at ea;cases ea
 have J:a≠932:=λz=>by rw[z,f 932 (.head _)]at ea;cases ea
 have A:=ghost_get i ea (λz=>by cases z);refine enter_call (kn_post i (λZ Z=>rfl) ?_)
 let g:Heap:=hideAll (ghostOf c.heap [(924,920),(934,932)]) [a]
 have N:g.StaysIn c.heap:=λb o e=>of_hideAll _ (of_hideAll _ e);have V:(HK w.params).In g:=EX A (ghost_K i KX (by kernel_rfl)) (by kernel_rfl);have L:=rn A (ghost_top i T);have u:=(Ve (w:=w) 500).ok 0 (Nat.zero_le _) 940 rfl ⟨_,_,_,_,_,callerA,g,[],g,c.gens,c.drawn,c.os,"",0,0,.none,[],callerA,λZ Z=>False⟩
  (JQ c.heap) c.heap c.toks (GI a) (WQ (is.map SV.int) vs) ⟨[],[]⟩ _ [.ref 2] [.ref a] _ _
  (show da callerA 500 from⟨by decide,by decide,rfl⟩) ⟨V,L,below_caller _,N,(by rw[show g.objs.size=_ from hideAll_size _ _,hideAll_size];exact Xy _:g.objs.size≤c.heap.objs.size),(YB.mpr ⟨⟨f 920 (.tail _ (.head _)),l8 (ZN _ (.head _))⟩,YB.mpr ⟨⟨f 932 (.head _),l8 (ZN _ (.tail _ (.head _)))⟩,YB.mpr ⟨⟨ea,ZN _ (.head _)⟩,λZ h=>nomatch h⟩⟩⟩:∀q∈[(920,tabObj #[]),(932,tabObj #[]),(a,aL vs 0)],c.heap.get? q.1=some q.2∧g.get? q.1=none),⟨by
   simp only[W4,ZS,W2,WY,Y1,or_false,not_or,not_false_eq_true,Z0,and_true];exact⟨⟨by decide,E.symm⟩,J.symm⟩⟩⟩ (XbW (r3 _:bZ (GI a) (is.map SV.int) vs) E J) ⟨_,_,rfl,⟨a,a,rfl,rfl⟩,rfl⟩ (hl is vs n) (λk σ τ e h t Z m Z=>m.elim) (sR rfl rfl A)
 refine YZ u λr s' y=>?_
 ·rcases r with e|(_|_|_|v)
  ·exact y.elim
  ·exact y.elim
  ·exact y.elim
  ·exact y.elim
  ·refine ux y λh' t' C p O R=>?_;obtain rfl:=C;obtain rfl:=p
   exact⟨f4 (.inl (I35 _ (.bool true) ([]) rfl (λZ=>rfl) (.bool true) (by kernel_rfl) (λZ=>⟨Z0,λZ h=>nomatch h⟩))) O rfl M,R⟩
section
variable {σ:Sg} {k:Nat} {v:SV} {K:SV->Prop} {xs:List SV} {j:Int} {o:SO}
theorem ao {K:SO->Prop} (h:σ.ob k=some o) (q:K o):bN σ k K:=⟨o,h,q⟩
variable {C:Nat} {f:List (Nat×SV)} {a:Nat}
theorem g_ (h:σ.ob k=some (.inst C f)) (hr:qp C a=true) (hl:f.lookup a=some v) (q:K v):Df σ (.ref k) a K:=⟨_,h,hr,v,hl,q⟩
variable {KE:KX}
theorem c_ {i:Nat} {Φ:Nat->eO} {fr:ca} {K:KV} (h1:fr.cel[i]?=some k) (h:σ.ob k=some (.cell (some v))) (q:K v σ):aC i Φ fr σ K KE:=by
 unfold aC;exact⟨k,h1,_,h,v,rfl,q⟩
noncomputable def idx (o:SO) (j:Int):Option SV:=cond (decide (0≤j)&&decide (j<1000000)) (match o with
 |.list xs=>xs[j.toNat]?
 |.raw xs _=>xs[j.toNat]?
 |.tup xs=>xs[j.toNat]?
 |_=>none) none
theorem i_ (h:σ.ob k=some o) (hi:idx o j=some v) (q:K v):xF σ (.ref k) (.int j) K:=by
 refine⟨_,h,?_⟩;unfold idx at hi;cases e:decide (0≤j)&&decide (j<1000000)with
 |false=>rw[e]at hi;exact cZ hi
 |true=>
  rw[e]at hi;obtain⟨b,c⟩:=(WU _ _).mp e;have b:=W5 b;have c:=W5 c;have L:∀a:List SV,a[j.toNat]?=some v->bI (decide (j<0)) ((-(a.length:Int)≤j∧-1000000≤j)∧bX (a[(j+a.length).toNat]?) K) (itm a j K):=λa d=>by
   rw[(Xo (hO b):decide (j<0)=false)];exact⟨⟨b,c⟩,v,d,q⟩
  cases o with
  |list a=>exact L a hi
  |raw a vs=>exact L a hi
  |tup a=>exact⟨⟨b,c⟩,v,hi,q⟩
  |_=>exact cZ hi
variable {n:Nat}
theorem t_ {K:List SV->Prop} (h:σ.ob k=some (.tup xs)) (hn:Nat.beq xs.length n=true) (q:K xs):js σ (.ref k) n K:=⟨_,h,hn,q⟩
theorem bQ {K:Bool->Prop} (h:Nat.ble (kd v) 4=true) (q:K (Nat.beq (kd v) 0)):gP v .none K:=by
 unfold gP;exact⟨rfl,h,q⟩
theorem k9 {K:Sg->Prop} (h:σ.ob k=some (.inst C f)) (hc:(qp C a&&Nat.ble f.length 800)=true) (q:K (σ.set k (.inst C (fO f a v)))):pQ σ (.ref k) a v K:=⟨_,h,⟨((WU _ _).mp hc).1,Xv ((WU _ _).mp hc).2⟩,q⟩
theorem gI {s:Nat} {K:Bool->Prop} (hk:Nat.blt (kd v) 4=true) (q:K (NG v s)):nH σ v s K:=by
 unfold nH;cases v<;>first|exact⟨rfl,q⟩|exact ch hk
theorem uO {s C:Nat} {K:Bool->Prop} (h:σ.ob k=some (.inst C f)) (hc:dQ.contains C=true) (q:K false):nH σ (.ref k) s K:=by
 unfold nH;exact⟨_,h,hc,q⟩
theorem S3 {C mc fa:Nat} {K:Nat->Prop} (h:σ.ob k=some (.inst C f)) (h0:f.lookup mc=none) (ht:oO C mc=some fa) (q:K fa):Bb σ (.ref k) mc K:=⟨_,h,h0,fa,ht,q⟩
theorem uv {C D:Nat} {b:Bool} {K:Bool->Prop} (h:σ.ob k=some (.inst C f)) (hb:SB C D=some b) (q:K b):tL σ (.ref k) D K:=⟨_,h,b,hb,q⟩
variable {f:Nat} {args:List SV} {K:KV}
theorem dh {φ:qc} (e:gj vI f=φ) (hf:Nat.blt f 10000=true) (h:φ (Ph n) args σ K KE):Ph (n+1) 0 f args σ K KE:=by
 have a:Ph (n+1) 0 f args σ K KE=F (Ph n) f args σ K KE:=by
  unfold Ph;rfl
 rw[a];unfold F;rw[hf];subst e;exact h
theorem xr (h:Ph n 0 f args σ K KE):Ph (n+1) 1 f args σ K KE:=by
 have a:Ph (n+1) 1 f args σ K KE=Ph n 0 f args σ K KE:=by
  unfold Ph;rfl
 rw[a];exact h
theorem aK {n f k r:Nat} {d:List SV} {m:AS} (e:gj vI f=bo k d r m) (hf:Nat.blt f 10000=true) (hk:Nat.beq args.length k=true) (q:m (Ph n) ⟨args.map some++(d.map some++List.replicate r none),[],[]⟩ σ (bp K) KE):Ph (n+1) 0 f args σ K KE:=dh e hf ⟨hk,q⟩
end
structure Box (σ:Sg) (b:Nat) (g s c:Int) (e:Bool) (z:Int):Prop where
 h:σ.ob b=some (.list [.int g,.int s,.int c,.bool e,.int z])
 g0:0≤g
 s0:0≤s
 s1:s<2147483629
 c0:0≤c
structure Le (M:Nat->Prop) (σ σ':Sg):Prop where
 nx:σ.nx≤σ'.nx
 ob:∀k,k<σ.nx->¬M k->σ'.ob k=σ.ob k
section
variable {M:Nat->Prop} {σ σ':Sg}
theorem Gs {o:SO} (h:Le M σ σ'):Le M σ (σ'.new o):=⟨Yz h.nx,λk a b=>(dY (XC (Xi a h.nx))).trans (h.ob k a b)⟩
theorem td {k:Nat} {o:SO} (h:Le M σ σ') (hm:M k∨σ.nx≤k):Le M σ (σ'.set k o):=⟨h.nx,λj b a=>(au λe=>hm.elim (λz=>a (by rw[e];exact z)) λz=>absurd b (by rw[e];exact YM.mpr z)).trans (h.ob j b a)⟩
theorem q9:Le M σ σ:=⟨Xy _,λZ Z Z=>rfl⟩
theorem Sx {n:Nat} {b:Nat} {g s c z m:Int} {e:Bool} {K:KV} {KE:KX} (B:Box σ b g s c e z) (hc:c<100000) (h0:0<m) (h1:m<1000)
  (q:∀r g' c' σ',0≤r->r<m->c'≤c+1->Box σ' b g' s c' e z->Le (·=b) σ σ'->K (.int r) σ'):Ph (n+1) 0 866 [.ref b,.int m] σ K KE:=by
 obtain⟨f,i,j,l,p⟩:=B;refine aK (k:=2) (d:=[]) (r:=2) (m:=GO) rfl rfl rfl ?_;refine i_ f rfl (bW (λv=>?_) (λv=>?_))
 ·refine i_ f rfl ⟨h0,i_ f rfl (eQ ⟨h0,by exact cQ h1⟩ (by simp) (t_ ac rfl ?_))⟩
  have a:=ae (o:=.tup [.int (g % m),.int (g / m)]) f;exact ao a ⟨eQ (by decide) (by decide:0<5) (by decide),q _ _ _ _ (YN _ (tq h0)) (Yw _ h0) (pC) ⟨aE a,Int.ediv_nonneg i (FK h0),j,l,p⟩ (td (Gs q9) (.inl rfl))⟩
 ·refine i_ f rfl (ao f ⟨eQ (by decide) (by decide:2<5) (by decide),?_⟩)
  have a:=aE (o:=.list [.int g,.int s,.int (c+1),.bool e,.int z]) f;have h:∀r,0≤r->r<m->K (.int r) (σ.set b (.list [.int g,.int s,.int (c+1),.bool e,.int z])):=λr x y=>q r g (c+1) _ x y (kn) ⟨a,i,j,l,by exact XeF p⟩ (td q9 (.inl rfl));refine i_ a rfl (qu (λZ=>?_) λZ=>?_)
  ·refine i_ a rfl ⟨.of_left (by decide),i_ a rfl ⟨.of_right (intBits_le_64 (by lia) (fo hc)),i_ a rfl (f4 (.of_left (by decide)) (by decide) h0 ?_)⟩⟩
   exact h _ (YN _ (tq h0)) (Yw _ h0)
  ·have w:0≤s+15485857*(c+1)+37:=by lia
   refine i_ a rfl (i_ a rfl (f4 (.of_left (by decide)) (f4 w (by lia) (by decide) (by decide)) (by decide) ?_));have t:0≤(s+15485857*(c+1)+37) ^ (Int.toNat 5) % 2147483647:=YN _ (by decide);have u:(s+15485857*(c+1)+37) ^ (Int.toNat 5) % 2147483647<2147483647:=Yw _ (by decide);generalize (s+15485857*(c+1)+37) ^ (Int.toNat 5) % 2147483647=y at t u;refine⟨.of_right (by decide),i_ a rfl (I06 (.of_left (by decide)) (f4 (by lia) (by lia) (by decide) (by decide)) (by decide) ⟨by decide,by decide⟩ h0 ?_)⟩;exact h _ (YN _ (tq h0)) (Yw _ h0)
end
structure Kp (P:Nat->SO->Prop) (σ σ':Sg):Prop where
 nx:σ.nx≤σ'.nx
 ob:∀k o,σ.ob k=some o->P k o->σ'.ob k=some o
abbrev bC:Sg->Sg->Prop:=Kp λZ Z=>True
abbrev dB (j:Nat):Sg->Sg->Prop:=Kp λk Z=>k≠j
noncomputable def fm (o:SO):Bool:=match o with
 |.inst C _=> !Nat.beq C 834
 |.dic _=>false
 |.dic0=>false
 |.ctab _ _=>false
 |_=>true
abbrev fV:Sg->Sg->Prop:=Kp λZ o=>fm o=true
section
variable {P:Nat->SO->Prop} {σ σ' σ1:Sg} {k j:Nat} {o o':SO}
theorem Kp.refl:Kp P σ σ:=⟨Xy _,λZ Z h Z=>h⟩
theorem Kp.trans (a:Kp P σ σ1) (b:Kp P σ1 σ'):Kp P σ σ':=⟨WX a.nx b.nx,λk o h p=>b.ob k o (a.ob k o h p) p⟩
theorem Kp.new (a:Kp P σ σ'):Kp P σ (σ'.new o):=⟨Yz a.nx,λk o h p=>ae (a.ob k o h p)⟩
theorem Kp.set (a:Kp P σ σ') (h:∀o,σ.ob k=some o->¬P k o):Kp P σ (σ'.set k o'):=⟨a.nx,λj o b p=>by
 by_cases e:j=k
 ·subst e;exact absurd p (h o b)
 ·exact(au e).trans (a.ob j o b p)⟩
theorem Kp.setN (a:Kp P σ σ') (h:σ.nx≤k):Kp P σ (σ'.set k o'):=a.set λo e=>absurd (σ.wf _ _ e) (YM.mpr h)
theorem bC.to (a:bC σ σ'):Kp P σ σ':=⟨a.nx,λk o h Z=>a.ob k o h trivial⟩
theorem mN (a:bC σ σ1) (b:dB k σ1 σ') (h:σ.nx≤k):bC σ σ':=⟨WX a.nx b.nx,λj o c Z=>b.ob j o (a.ob j o c trivial) λe=>absurd (σ.wf _ _ c) (by rw[e];exact YM.mpr h)⟩
theorem bl {a b:Nat} (h:Nat.ble a b=true):a≤b:=Xv h
theorem cz (h:σ.ob k=some o):k≠σ.nx:=XC (σ.wf _ _ h)
noncomputable abbrev thF (i:Int) (ow:SV) (d:Nat) (fz:Bool):List (Nat×SV):=[(0,.int i),(1,ow),(2,.ref d),(3,.none),(4,.bool fz),(5,.none)]
noncomputable abbrev fT (i:Int) (ow:SV) (d:Nat) (fz:Bool) (r:List (Nat×SV)):List (Nat×SV):=(0,.int i)::(1,ow)::(2,.ref d)::(3,.none)::(4,.bool fz)::(5,.none)::r
def eT (n f C:Nat) (args:List SV) (P:List (Nat×SV)->Prop):Prop:=∀(σ:Sg) (k:Nat) (K:KV) (KE:KX),σ.ob k=some (.inst C [])->(∀f σ',dB k σ σ'->σ'.ob k=some (.inst C f)->P f->K .none σ')->Ph n 0 f (.ref k::args) σ K KE
variable {n:Nat} {i:Int} {ow x y z b:SV} {K:KV} {KE:KX} {C:Nat}
theorem f3 {f:Nat} {args:List SV} {P:List (Nat×SV)->Prop} (h:eT n f C args P) (q:∀f σ',bC σ σ'->σ.nx<σ'.nx->σ'.ob σ.nx=some (.inst C f)->P f->K .none σ'):Ph (n+1) 1 f (.ref σ.nx::args) (σ.new (.inst C [])) K KE:=
 xr<|h (σ.new (.inst C [])) _ _ _ ac λf σ' e h p=>q f σ' (mN Kp.refl.new e (Xy _)) (Xi (XY _) e.nx) h p
theorem eI (hC:([0,1,2,3,4,5].all λa=>qp C a)=true):eT (n+1) 37 C [.int i,ow] λf=>∃d,f=thF i ow d false:=by
 intro c k K l h q;have r:∀a∈[0,1,2,3,4,5],qp C a=true:=WZ.mp hC;refine aK (k:=3) (d:=[]) (r:=0) (m:=m37) rfl rfl rfl ?_;have b:=ae (o:=.dic0) (aE (o:=.inst C [(0,.int i),(1,ow)]) (aE (o:=.inst C [(0,.int i)]) h));have g:=aE (o:=.inst C [(0,.int i),(1,ow),(2,.ref c.nx)]) b;have e:=aE (o:=.inst C [(0,.int i),(1,ow),(2,.ref c.nx),(3,.none)]) g;have j:=aE (o:=.inst C [(0,.int i),(1,ow),(2,.ref c.nx),(3,.none),(4,.bool false)]) e;exact ao h ⟨⟨r 0 (by decide),bl rfl⟩,ao (aE (o:=.inst C [(0,.int i)]) h) ⟨⟨r 1 (by decide),bl rfl⟩,ao b ⟨⟨r 2 (by decide),bl rfl⟩,ao g ⟨⟨r 3 (by decide),bl rfl⟩,ao e ⟨⟨r 4 (by decide),bl rfl⟩,ao j ⟨⟨r 5 (by decide),bl rfl⟩,q _ _ (((((((Kp.refl.set λZ Z h=>h rfl).set λZ Z h=>h rfl).new).set λZ Z h=>h rfl).set λZ Z h=>h rfl).set λZ Z h=>h rfl).set λZ Z h=>h rfl) (aE j) ⟨_,rfl⟩⟩⟩⟩⟩⟩⟩
theorem qT:eT (n+2) 59 62 [.int i,ow,x] λf=>∃d,f=fT i ow d false [(6,x)]:=by
 intro c k K g h q;refine aK (k:=4) (d:=[]) (r:=0) (m:=m59) rfl rfl rfl (eI rfl _ _ _ _ h λf b e a ⟨d,p⟩=>?_);subst p;exact k9 a rfl (q _ _ (e.set λZ Z h=>h rfl) (aE a) ⟨d,rfl⟩)
theorem te {l:Nat}:eT (n+2) 79 82 [.int i,ow,.ref l] λf=>∃d,f=fT i ow d false [(7,.ref l)]:=by
 intro c k K g h q;refine aK (k:=4) (d:=[]) (r:=0) (m:=m79) rfl rfl rfl (eI rfl _ _ _ _ h λf b e a ⟨d,p⟩=>?_);subst p;exact bQ rfl (k9 a rfl (q _ _ (e.set λZ Z h=>h rfl) (aE a) ⟨d,rfl⟩))
theorem uM:eT (n+2) 137 140 [.int i,ow,x,y,b] λf=>∃d,f=fT i ow d false [(10,x),(11,y),(12,b)]:=by
 intro l k K s h q;refine aK (k:=6) (d:=[]) (r:=0) (m:=C8) rfl rfl rfl (eI rfl _ _ _ _ h λf j e g ⟨d,p⟩=>?_);subst p;have c:=aE (o:=.inst 140 (fT i ow d false [(10,x)])) g;have a:=aE (o:=.inst 140 (fT i ow d false [(10,x),(11,y)])) c;exact k9 g rfl (k9 c rfl (k9 a rfl (q _ _ (((e.set λZ Z h=>h rfl).set λZ Z h=>h rfl).set λZ Z h=>h rfl) (aE a) ⟨d,rfl⟩)))
theorem P0:eT (n+2) 178 181 [.int i,ow,x] λf=>∃d,f=fT i ow d false [(13,x),(14,.none)]:=by
 intro g k K j h q;refine aK (k:=4) (d:=[]) (r:=0) (m:=Bv) rfl rfl rfl (eI rfl _ _ _ _ h λf c e b ⟨d,p⟩=>?_);subst p;have a:=aE (o:=.inst 181 (fT i ow d false [(13,x)])) b;exact k9 b rfl (k9 a rfl (q _ _ ((e.set λZ Z h=>h rfl).set λZ Z h=>h rfl) (aE a) ⟨d,rfl⟩))
noncomputable abbrev uy (i:Int) (ow:SV) (nm isc pa ou:SV) (d:List Nat) (at' nat:SV):List (Nat×SV):=fT i ow (d.getD 0 0) false [(15,nm),(16,isc),(17,pa),(18,ou),(19,.ref (d.getD 1 0)),(20,.ref (d.getD 2 0)),(21,.ref (d.getD 3 0)),(22,.ref (d.getD 4 0)),(23,at'),(24,nat),(25,.none)]
variable {f:List (Nat×SV)}
theorem sA {a:Nat} {K:Sg->Prop} (e:dB k σ σ') (h:σ'.ob k=some (.inst C f)) (r:(qp C a&&Nat.ble f.length 800)=true) (q:∀σ2,dB k σ σ2->σ2.ob k=some (.inst C (fO f a x))->K σ2):pQ σ' (.ref k) a x K:=
 ao h ⟨⟨((WU _ _).mp r).1,bl ((WU _ _).mp r).2⟩,q _ (e.set λZ Z h=>h rfl) (aE h)⟩
variable {nm isc pa ou:SV}
theorem lV {rest:eY} (h:σ.ob k=some (.inst 228 [])) (q:∀f σ' fr,dB k σ σ'->σ'.ob k=some (.inst 228 f)->(∃d,f=uy i ow nm isc pa ou d .none .none)->rest .next fr σ'):
  kb (Ph (n+1)) ⟨[some (.ref k),some (.int i),some ow,some nm,some isc,some pa,some ou],[],[]⟩ σ rest KE:=by
 refine eI rfl _ _ _ _ h λf l e s ⟨d,p⟩=>?_;subst p;refine sA e s rfl λc e h=>sA e h rfl λb e h=>sA e h rfl λa e h=>sA e h rfl λm e h=>?_;refine sA e.new (ae h) rfl λg e h=>sA e.new (ae h) rfl λo e h=>⟨bl rfl,sA e.new (ae h) rfl λr e h=>⟨bl rfl,sA e.new (ae h) rfl λj e h=>?_⟩⟩;exact sA e h rfl λc e h=>sA e h rfl λb e h=>sA e h rfl λa e h=>q _ _ _ e h ⟨[d,_,_,_,_],rfl⟩
theorem AF:eT (n+2) 218 228 [.int i,ow,nm,isc] λf=>∃d,f=uy i ow nm isc .none .none d .none .none:=by
 intro b k K c h q;exact dh (φ:=V9 (bo 5 [.none,.none] 0 kb) (bo 7 [] 0 kb)) rfl rfl (.inl ⟨rfl,lV h λf a Z e h p=>q f a e h p⟩)
theorem G4:eT (n+2) 218 228 [.int i,ow,nm,isc,pa,ou] λf=>∃d,f=uy i ow nm isc pa ou d .none .none:=by
 intro b k K c h q;exact dh (φ:=V9 (bo 5 [.none,.none] 0 kb) (bo 7 [] 0 kb)) rfl rfl (.inr ⟨rfl,lV h λf a Z e h p=>q f a e h p⟩)
noncomputable def jk:List Str:=Nr.map (·.1)
noncomputable def hasK (ks:List (Str×Nat)) (z:Str):Bool:=ks.any λp=>aA p.1 z
noncomputable def oo (ks:List (Str×Nat)):Nat:=(jk.filter λz=> !hasK ks z).length
noncomputable def eR (ks:List (Str×Nat)):SO:=match ks with
 |[]=>.dic0
 |_::_=>.dic (ks.map λp=>(p.1,.ref p.2))
end
structure Ws where
 m:Nat
 n:Int
 ks:List (Str×Nat)
 r:Bool
 tl:List (Nat×SV)
noncomputable abbrev jT (d0 d1 si gl ou:Nat) (s:Ws):List (Nat×SV):=(26,.ref d0)::(27,.ref d1)::(28,.none)::(29,.int 20000)::(30,.int 0)::(31,.int s.n)::(32,.int 8)::(33,.ref si)::(34,.ref s.m)::(35,.int 0)::(36,.int 0)::(37,.ref gl)::(38,.ref ou)::(39,.none)::(40,.bool s.r)::s.tl
def Mo (σ:Sg) (z:Str) (k:Nat):Prop:=∃i ow isc pa d,σ.ob k=some (.inst 228 (uy i ow (.str z) isc pa .none d .none (.str z)))
structure WvF (σ:Sg) (W:Nat) (s:Ws) (d0 d1 si gl ou:Nat):Prop where
 w:σ.ob W=some (.inst 834 (jT d0 d1 si gl ou s))
 ne:d0≠s.m∧d1≠s.m
 d0:σ.ob d0=some .dic0
 d1:σ.ob d1=some .dic0
def mL (σ:Sg) (kT P:Nat) (q:Str):Prop:=∃es,σ.ob kT=some (.ctab P es)∧∀p∈es,σ.ob p.2=some (.code q)
noncomputable def Hq (o:SO):Bool:=match o with
 |.ctab _ _=>true
 |.code _=>true
 |_=>false
structure Wv (σ:Sg) (W:Nat) (s:Ws):Prop where
 w:∃d0 d1 si gl ou,WvF σ W s d0 d1 si gl ou
 m:σ.ob s.m=some (eR s.ks)
 ms:∀p∈s.ks,Mo σ p.1 p.2
 nm:∀p∈s.ks,p.1∈jk
 len:s.ks.length+oo s.ks≤40
 uq:∀p∈s.ks,∀p'∈s.ks,p.1=p'.1->p.2=p'.2
 tb:mL σ 0 920 (aT 0).qual∧mL σ 1 932 (aT 2).qual
 tl:(∀a,Nat.beq a 41=false->s.tl.lookup a=none)∧s.tl.length≤10
structure Wn (s s':Ws):Prop where
 m:s'.m=s.m
 r:s'.r=s.r
 tl:s'.tl=s.tl
 n:s.n≤s'.n
 ks:∀p∈s.ks,p∈s'.ks
structure Po (σ σ':Sg) (W:Nat) (s s':Ws):Prop where
 wd:Wv σ' W s'
 ev:Wn s s'
 kp:fV σ σ'
section
variable {σ σ' σ1:Sg} {W:Nat} {s s' s1:Ws} {n:Nat} {K:KV} {KE:KX} {z:Str} {k:Nat}
theorem Wn.refl:Wn s s:=⟨rfl,rfl,rfl,XS _,λZ h=>h⟩
theorem Wn.trans (a:Wn s s1) (b:Wn s1 s'):Wn s s':=⟨b.m.trans a.m,b.r.trans a.r,b.tl.trans a.tl,Xl a.n b.n,λp h=>b.ks p (a.ks p h)⟩
theorem Po.trans (a:Po σ σ1 W s s1) (b:Po σ1 σ' W s1 s'):Po σ σ' W s s':=⟨b.wd,a.ev.trans b.ev,a.kp.trans b.kp⟩
theorem Mo.up (m:Mo σ z k) (e:fV σ σ'):Mo σ' z k:=by
 refine gE m λi c a b d h=>?_;exact(iM i c a b d (e.ob _ _ h rfl))
variable {P:Nat->SO->Prop}
theorem mL.kp {kT a:Nat} {q:Str} (h:mL σ kT a q) (e:Kp P σ σ') (hP:∀k o,σ.ob k=some o->Hq o=true->P k o):mL σ' kT a q:=by
 refine bn h λc h g=>?_;exact(bv c (e.ob _ _ h (hP _ _ h rfl)) (λp b=>e.ob _ _ (g p b) (hP _ _ (g p b) rfl)))
theorem jx (h:mL σ 0 920 (aT 0).qual∧mL σ 1 932 (aT 2).qual) (e:Kp P σ σ') (hP:∀k o,σ.ob k=some o->Hq o=true->P k o):mL σ' 0 920 (aT 0).qual∧mL σ' 1 932 (aT 2).qual:=⟨h.1.kp e hP,h.2.kp e hP⟩
variable {j:Nat}
theorem pJ {o:SO} (h:σ.ob j=some o) (ho:Hq o=false):∀k o,σ.ob k=some o->Hq o=true->k≠j:=λk o2 a c e=>by
 rw[e,h]at a;obtain rfl:=jS a;rw[ho]at c;exact ch c
theorem Wv.up (h:Wv σ W s) (e:bC σ σ'):Wv σ' W s:=by
 obtain⟨⟨b,f,g,c,i,w⟩,m,l,n,a,o,j,k⟩:=h;exact⟨iM b f g c i ⟨e.ob _ _ w.w trivial,w.ne,e.ob _ _ w.d0 trivial,e.ob _ _ w.d1 trivial⟩,e.ob _ _ m trivial,λp d=>(l p d).up e.to,n,a,o,jx j e λZ Z Z Z=>trivial,k⟩
theorem Po.ext (a:Po σ σ1 W s s1) (e:bC σ1 σ'):Po σ σ' W s s1:=⟨a.wd.up e,a.ev,a.kp.trans e.to⟩
theorem Po.refl (h:Wv σ W s):Po σ σ W s s:=⟨h,.refl,.refl⟩
theorem Wv.me {mc fa:Nat} {K:Nat->Prop} (h:Wv σ W s) (hm:(Nat.blt mc 26||Nat.blt 41 mc)=true) (ht:oO 834 mc=some fa) (q:K fa):Bb σ (.ref W) mc K:=by
 refine gE h.w λb d f c g w=>?_;refine⟨_,w.w,?_,fa,ht,q⟩;rw[Bool.or_eq_true,YW,YW]at hm;have a:∀k,26≤k->k≤41->(mc==k)=false:=λk j i=>by
  cases e:(mc==k)with
  |false=>rfl
  |true=>have:=XJ e;omega
 simp only[Xk,a 26 (by decide) (by decide),a 27 (by decide) (by decide),a 28 (by decide) (by decide),a 29 (by decide) (by decide),a 30 (by decide) (by decide),a 31 (by decide) (by decide),a 32 (by decide) (by decide),a 33 (by decide) (by decide),a 34 (by decide) (by decide),a 35 (by decide) (by decide),a 36 (by decide) (by decide),a 37 (by decide) (by decide),a 38 (by decide) (by decide),a 39 (by decide) (by decide),a 40 (by decide) (by decide)];exact h.tl.1 mc (by
  cases e:Nat.beq mc 41 with
  |false=>rfl
  |true=>have:=W9 e;omega)
variable {C:Nat} {f:List (Nat×SV)}
theorem fZ {ks:List (Str×Nat)}:eR ks≠ .inst C f:=by
 unfold eR;split<;>(intro h;cases h)
theorem cp (h:Wv σ W s) (q:∀σ',Po σ σ' W s ⟨s.m,s.n+1,s.ks,s.r,s.tl⟩->K (.int (s.n+1)) σ'):Ph (n+1) 0 594 [.ref W] σ K KE:=by
 obtain⟨⟨b,e,f,c,a,w⟩,m,B,x,i,C,u,y⟩:=h;refine aK (k:=1) (d:=[]) (r:=0) (m:=CY) rfl rfl rfl ?_;have v:(jT b e f c a s).length≤800:=by
  show s.tl.length+15≤800;omega
 have j:=aE (o:=.inst 834 (jT b e f c a ⟨s.m,s.n+1,s.ks,s.r,s.tl⟩)) w.w;refine g_ w.w rfl rfl (ao w.w ⟨⟨rfl,v⟩,g_ j rfl rfl ?_⟩);have k:fV σ (σ.set W (.inst 834 (jT b e f c a ⟨s.m,s.n+1,s.ks,s.r,s.tl⟩))):=Kp.refl.set λo h p=>by rw[w.w]at h;obtain rfl:=jS h;exact ch p
 have g:∀{k o},σ.ob k=some o->o≠ .inst 834 (jT b e f c a s)->k≠W:=λl z A=>by
  rw[A,w.w]at l;exact z (W7 l).symm
 exact q _ ⟨⟨iM b e f c a ⟨j,w.ne,(Kp.refl.set λZ Z h=>h rfl:dB W σ (σ.set W (.inst 834 (jT b e f c a ⟨s.m,s.n+1,s.ks,s.r,s.tl⟩)))).ob _ _ w.d0 (g w.d0 nofun),(Kp.refl.set λZ Z h=>h rfl:dB W σ (σ.set W (.inst 834 (jT b e f c a ⟨s.m,s.n+1,s.ks,s.r,s.tl⟩)))).ob _ _ w.d1 (g w.d1 nofun)⟩,(Kp.refl.set λZ Z h=>h rfl:dB W σ (σ.set W (.inst 834 (jT b e f c a ⟨s.m,s.n+1,s.ks,s.r,s.tl⟩)))).ob _ _ m (g m fZ),λp t=>(B p t).up k,x,i,C,jx u (Kp.refl.set λZ Z h=>h rfl:dB W σ (σ.set W (.inst 834 (jT b e f c a ⟨s.m,s.n+1,s.ks,s.r,s.tl⟩)))) (pJ w.w rfl),y⟩,⟨rfl,rfl,rfl,by exact pC,λZ h=>h⟩,k⟩
variable {σ0:Sg} {ks:List (Str×Nat)}
noncomputable abbrev wu (ks:List (Str×Nat)):List (Str×SV):=ks.map λp=>(p.1,.ref p.2)
theorem EJ (h:hasK ks z=false):gV (wu ks) z=.none:=by
 have e:(wu ks).find? (λc=>aA c.1 z)=none:=ZD.mpr λx d=>by
  refine bn (Xb.mp d) λp b a=>?_;obtain rfl:=a;have:=YA.mp h p b;exact this
 unfold gV;rw[e]
theorem xk (h:hasK ks z=true):∃k,(z,k)∈ks∧gV (wu ks) z=.ref k:=by
 unfold gV;cases e:(wu ks).find? (λc=>aA c.1 z)with
 |none=>
  refine bn (Yt.mp h) λp a f=>?_;exact absurd f (ZD.mp e (p.1,.ref p.2) (Xb.mpr (bv p a rfl)))
 |some c=>
  refine bn (Xb.mp (Yh e)) λp a b=>?_;obtain rfl:=b;have d:p.1=z:=by simpa [aA]using (Zx e)
  exact(bv p.2 (by rw[←d];exact a) rfl)
theorem Tr (h:σ.ob k=some (eR ks)):iS σ (.ref k):=by cases ks<;>exact ao h trivial
theorem sD {C:SV->Prop} (h:σ.ob k=some (eR ks)) (q:C (gV (wu ks) z)):vQ σ k z C:=by
 unfold vQ;cases ks<;>exact ao h q
variable {f:Nat}
theorem Il {C:SO->Prop} (h:hasK ks z=false) (l:ks.length≤900) (q:C (eR (ks++[(z,f)]))):Wc (eR ks) z (.ref f) C:=by
 unfold Wc;cases ks with
 |nil=>exact q
 |cons p r=>
  refine⟨⟨?_,?_⟩,?_⟩
  ·show((wu (p::r)).any λx=>aA x.1 z)=false
   rw[List.any_map];exact h
  ·rw[W0];exact l
  ·have e:eR ((p::r)++[(z,f)])=.dic (wu (p::r)++[(z,.ref f)]):=Yi SO.dic (Xa (l₁:=p::r))
   rw[←e];exact q
theorem qK {α:Type} {l:List α} {p q:α->Bool} (h:∀x,q x=true->p x=true):(l.filter q).length≤(l.filter p).length:=by
 rw[←Zy,←Zy];exact List.countP_mono_left λx Z=>h x
theorem FT {α:Type} {l:List α} {p q:α->Bool} {z:α} (h:∀x,q x=true->p x=true) (hp:p z=true) (hq:q z=false) (hz:z∈l):(l.filter q).length+1≤(l.filter p).length:=by
 induction l with
 |nil=>cases hz
 |cons a l ih=>
  rw[Y0,Y0];rcases WY.mp hz with rfl|hz
  ·rw[hp,hq];exact Zl (qK h)
  ·have:=ih hz
   cases e:q a with
   |true=>rw[h a e];exact Zl this
   |false=>cases p a with
    |true=>exact Yz this
    |false=>exact this
theorem oA {r:List (Str×Nat)} {x:Str}:hasK (ks++r) x=(hasK ks x||hasK r x):=List.any_append
theorem qF (hz:z∈jk) (h:hasK ks z=false):oo (ks++[(z,f)])+1≤oo ks:=
 FT (λx a=>by rw[oA]at a;cases e:hasK ks x<;>simp_all) (by rw[h];rfl) (by rw[oA,h];simp[hasK,aQ]) hz
theorem sg {ks':List (Str×Nat)} (h:∀p∈ks,p∈ks'):oo ks'≤oo ks:=qK λx a=>by
 cases e:hasK ks x with
 |false=>rfl
 |true=>
  refine bn (Yt.mp e) λp b c=>?_;rw[show hasK ks' x=true from Yt.mpr (bv p (h p b) c)]at a;exact a
theorem wF (hz:z∈jk) (h:hasK ks z=false):0<oo ks:=List.length_pos_of_mem (List.mem_filter.mpr ⟨hz,by rw[h];rfl⟩)
theorem iF (a:Kp P σ0 σ) (b:dB k σ σ') (h:σ0.nx≤k):Kp P σ0 σ':=⟨WX a.nx b.nx,λj o c p=>b.ob j o (a.ob j o c p) λe=>absurd (σ0.wf _ _ c) (by rw[e];exact YM.mpr h)⟩
theorem D1 {F:List (Nat×SV)} (h:Wv σ W s) (b:dB f σ σ') (hf:σ.ob f=some (.inst 228 F)) (hm:∀p∈s.ks,p.2=f->Mo σ' p.1 f):Wv σ' W s:=by
 obtain⟨⟨y,A,B,z,n,w⟩,m,C,t,g,E,q,u⟩:=h;have a:∀{k o},σ.ob k=some o->o≠ .inst 228 F->k≠f:=λl v x=>by
  rw[x,hf]at l;exact v (W7 l).symm
 refine⟨iM y A B z n ⟨b.ob _ _ w.w (a w.w nofun),w.ne,b.ob _ _ w.d0 (a w.d0 nofun),b.ob _ _ w.d1 (a w.d1 nofun)⟩,b.ob _ _ m (a m fZ),λp j=>?_,t,g,E,jx q b (pJ hf rfl),u⟩;by_cases e:p.2=f
 ·rw[e];exact hm p j e
 ·refine gE (C p j) λi D c r d h=>?_
  exact(iM i D c r d (b.ob _ _ h e))
theorem nr {i i':Int} {ow ow' isc isc' pa pa':SV} {d d':List Nat} (h:Wv σ W s) (b:dB f σ σ') (hf:σ.ob f=some (.inst 228 (uy i ow (.str z) isc pa .none d .none (.str z)))) (hf':σ'.ob f=some (.inst 228 (uy i' ow' (.str z) isc' pa' .none d' .none (.str z)))):Wv σ' W s:=
 D1 h b hf λp j e=>by
  refine gE (h.ms p j) λn l g k o a=>?_;rw[e,hf]at a;have m:p.1=z:=by
   injection a with a;injection a with _ a;have c:some (SV.str z)=some (SV.str p.1):=Yi (λf:List (Nat×SV)=>f.lookup 15) a;injection c with c;injection c with c;exact c.symm
  rw[m];exact(iM _ _ _ _ _ hf')
theorem zQ {i:Int} {ow isc pa:SV} {d:List Nat} {o:SO} (h:Wv σ W s) (fr:∀p∈s.ks,p.2≠f) (hf:σ.ob f=some o) (hf':o≠ .dic0∧fm o=true) (hf2:Hq o=false) (hz:z∈jk) (hk:hasK s.ks z=false)
  (e:∀k o,σ.ob k=some o->k≠s.m->k≠f->σ'.ob k=some o) (hm:σ'.ob s.m=some (eR (s.ks++[(z,f)]))) (h2:σ'.ob f=some (.inst 228 (uy i ow (.str z) isc pa .none d .none (.str z)))):Wv σ' W ⟨s.m,s.n,s.ks++[(z,f)],s.r,s.tl⟩:=by
 obtain⟨⟨E,G,H,F,y,w⟩,m,I,B,u,J,A,C⟩:=h;have n:∀{k o2},σ.ob k=some o2->o2≠o->k≠f:=λhk j r=>by
  rw[r,hf]at hk;exact j (W7 hk).symm
 have a:∀{k o2},σ.ob k=some o2->o2≠eR s.ks->k≠s.m:=λhk j r=>by
  rw[r,m]at hk;exact j (W7 hk).symm
 refine⟨iM E G H F y ⟨e _ _ w.w (a w.w fZ.symm) (n w.w λq=>by rw[←q]at hf';exact nomatch hf'.2),w.ne,e _ _ w.d0 w.ne.1 (n w.d0 hf'.1.symm),e _ _ w.d1 w.ne.2 (n w.d1 hf'.1.symm)⟩,hm,λp hp=>?_,λp hp=>?_,?_,?_,?_,C⟩
 ·rcases W6.mp hp with hp|hp
  ·refine gE (I p hp) λi ow isc pa d h=>?_
   exact(iM i ow isc pa d (e _ _ h (a h fZ.symm) (fr p hp)))
  ·cases XA.mp hp
   exact(iM _ _ _ _ _ h2)
 ·rcases W6.mp hp with hp|hp
  ·exact B p hp
  ·cases XA.mp hp
   exact hz
 ·have:=qF (f:=f) hz hk
  show(s.ks++[(z,f)]).length+oo (s.ks++[(z,f)])≤40;rw[Yb];show s.ks.length+1+_≤_;exact Z56 this u
 ·have v:∀p∈s.ks,p.1≠z:=λp hp e=>by
   have:=YA.mp hk p hp;rw[e,aQ]at this;exact this rfl
  intro p hp x hp' e;rcases W6.mp hp with hp|hp<;>rcases W6.mp hp' with hp'|hp'
  ·exact J p hp x hp' e
  ·cases XA.mp hp'
   exact absurd e (v p hp)
  ·cases XA.mp hp
   exact absurd e.symm (v x hp')
  ·cases XA.mp hp
   cases XA.mp hp';rfl
 ·have c:∀k o,σ.ob k=some o->Hq o=true->k≠s.m∧k≠f:=λk o h c=>⟨pJ m (by unfold eR;split<;>rfl) k o h c,pJ hf hf2 k o h c⟩
  obtain⟨⟨D,h,g⟩,⟨b,t,l⟩⟩:=A;exact⟨bv D (e _ _ h (c _ _ h rfl).1 (c _ _ h rfl).2) (λp hp=>e _ _ (g p hp) (c _ _ (g p hp) rfl).1 (c _ _ (g p hp) rfl).2),bv b (e _ _ t (c _ _ t rfl).1 (c _ _ t rfl).2) (λp hp=>e _ _ (l p hp) (c _ _ (l p hp) rfl).1 (c _ _ (l p hp) rfl).2)⟩
theorem CQ (h:z∈jk):z.length≤50000:=by
 have e:(jk.all λz=>Nat.ble z.length 50000)=true:=by decide+kernel
 exact bl (WZ.mp e z h)
theorem FL:(Nr.all λp=>match p.2 with|none=>true|some y=>jk.contains y)=true:=by decide+kernel
theorem uE:(rp.all λp=>match p.2 with|none=>true|some a=>(Hr.any λp=>Nat.beq p.1 a)&&(match uV a with|[]=>false|y::r=>r.isEmpty&&jk.contains y))=true:=by decide+kernel
theorem uI:(jk.all λz=>rp.any λp=>aA p.1 z)=true:=by decide+kernel
theorem jt (h:Wv σ W s) (hz:z∈jk) (q:K .none σ):Ph (n+1) 0 627 [.ref W,.str z] σ K KE:=by
 refine gE h.w λc f g e i w=>?_;have a:=CQ hz;have b:((".":Str)).length≤50000:=bl (by decide+kernel);exact aK (k:=2) (d:=[]) (r:=0) (m:=Cb) rfl rfl rfl ⟨⟨a,b⟩,g_ w.w rfl rfl (.d0 rfl w.d0 ⟨⟨a,b⟩,g_ w.w rfl rfl (.d0 rfl w.d1 q)⟩)⟩
theorem oX (h:Wv σ W s) (hk:hasK s.ks z=true) (q:∀k,(z,k)∈s.ks->K (.ref k) σ):Ph (n+1) 0 615 [.ref W,.str z] σ K KE:=by
 refine gE h.w λb f g c i w=>?_;refine aK (k:=2) (d:=[]) (r:=1) (m:=vy) rfl rfl rfl (g_ w.w rfl rfl (eQ (Tr h.m) rfl (sD h.m ?_)));refine bn (xk hk) λk a e=>?_;rw[e];exact bQ rfl (q k a)
theorem qf (μ:Nat):∀{L:Nat} {σ:Sg} {s:Ws} {z:Str} {K:KV} {KE:KX},oo s.ks≤μ->3*μ+6≤L->z∈jk->Wv σ W s->(∀k σ' s',Po σ σ' W s s'->(z,k)∈s'.ks->K (.ref k) σ')->Ph L 0 615 [.ref W,.str z] σ K KE:=by
 induction μ with
 |zero=>
  intro L σ s z K KE a8 hL Q h q;obtain⟨L,rfl⟩:∃l,L=l+1:=⟨L - 1,by lia⟩;cases hk:hasK s.ks z with
  |true=>exact oX h hk λk hm=>q k σ s (.refl h) hm
  |false=>exact absurd (wF Q hk) (YM.mpr a8)
 |succ μ ih=>
  intro L σ s z K KE a8 hL Q h q;obtain⟨L,rfl⟩:∃l,L=l+1:=⟨L - 1,by lia⟩;cases hk:hasK s.ks z with
  |true=>exact oX h hk λk hm=>q k σ s (.refl h) hm
  |false=>
   refine gE h.w λd0 d1 si gl ou w=>?_;refine aK (k:=2) (d:=[]) (r:=1) (m:=vy) rfl rfl rfl (g_ w.w rfl rfl (eQ (Tr h.m) rfl (sD h.m ?_)));rw[EJ hk];refine bQ rfl (S3 w.w (h.tl.1 45 rfl) rfl ?_);obtain⟨L,rfl⟩:∃l,L=l+1:=⟨L - 1,by lia⟩;refine dh (φ:=fX 2 [] [some 1,none,none,none] [some 0] wS) rfl rfl ⟨rfl,?_⟩;have R:(σ.new (.cell (some (.ref W)))).ob σ.nx=some (.cell (some (.ref W))):=ac;have e0:bC σ (σ.new (.cell (some (.ref W)))):=Kp.refl.new;have V:=h.up e0;have cn:σ.nx<(σ.new (.cell (some (.ref W)))).nx:=XY _;show wS (Ph L) ⟨[some (.str z),none,none,none],[σ.nx],[]⟩ (σ.new (.cell (some (.ref W)))) (bp K) KE;revert R e0 V cn;generalize σ.new (.cell (some (.ref W)))=σ0;generalize hcx:σ.nx=c;intro R e0 V cn;obtain⟨L,rfl⟩:∃l,L=l+4:=⟨L - 4,by lia⟩;refine⟨rfl,c_ rfl R (V.me rfl rfl (cp V λe i=>?_))⟩;refine f3 (AF (n:=L+1)) λf c2 e2 b9 hf ⟨d,pf⟩=>⟨rfl,?_⟩;subst pf;have h1:=i.wd.up e2;refine gE h1.w λZ Z Z Z Z a0=>?_;generalize (!(j6 546).any λy=>aA y z)=b at hf;have b1:∀p∈s.ks,p.2≠e.nx:=λp N=>by
    refine gE (i.wd.ms p N) λZ Z Z Z Z h=>?_;exact cz h
   refine c_ rfl (e2.ob _ _ (i.kp.ob _ _ R rfl) trivial) (g_ a0.w rfl rfl (ao h1.m (Il hk (by show s.ks.length≤900;exact Z62 (h.len:s.ks.length+oo s.ks≤40)) ?_)));have b7:=aE (o:=eR (s.ks++[(z,e.nx)])) h1.m;refine sA (k:=e.nx) Kp.refl ((au (o:=eR (s.ks++[(z,e.nx)])) ((cz i.wd.m).symm:e.nx≠s.m)).trans hf) rfl λC e4 I=>?_;have M:=zQ (σ':=C) h1 b1 hf ⟨nofun,rfl⟩ rfl Q hk (λk o h a b=>e4.ob _ _ ((au a).trans h) b) (e4.ob _ _ b7 ((cz i.wd.m).symm:e.nx≠s.m).symm) I;have k4:fV σ0 C:=iF ((i.kp.trans e2.to).set λo h p=>by
    have:=V.m;rw[this]at h;obtain rfl:=jS h;revert p;unfold eR;split<;>exact nofun) e4 i.kp.nx
   have m4:oo (s.ks++[(z,e.nx)])≤μ:=by
    have:=qF (f:=e.nx) Q hk;lia
   have b5:(z,e.nx)∈s.ks++[(z,e.nx)]:=WW _ (.head _);have a6:∀p∈s.ks,p∈s.ks++[(z,e.nx)]:=λp N=>W3 _ N;have S:=i.kp.nx;generalize e.nx=f at*;refine bn (Xb.mp Q) λg H b8=>?_;refine⟨g,H,b8,?_⟩;have a9:∀{KE:KX} (u:KV),(∀v σ' s',Po C σ' W ⟨s.m,s.n+1,s.ks++[(z,f)],s.r,s.tl⟩ s'->u v σ')->aO (ai .Is (aV 3) aN) aN (am (aC 0) 44 (aa (aV 3) ab)) (Ph (L+4)) ⟨[some (.str z),some (.bool b),some (.ref f),some (oS g.2)],[c],[]⟩ C u KE:=by
    intro KE u q;have J:=WZ.mp FL g H;revert J;cases g.2 with
    |none=>exactλZ=>bQ rfl (q _ _ _ (.refl M))
    |some y=>
     intro J;exact bQ rfl (c_ rfl (k4.ob _ _ R rfl) (M.me rfl rfl (ih m4 (by lia:3*μ+6≤L+4) (by simpa using J) M λk σ' s' p Z=>q _ _ _ p)))
   refine a9 _ λv c3 s5 t=>?_;refine sA (k:=f) Kp.refl (t.kp.ob _ _ I rfl) rfl λF e6 P=>?_;have O:=nr t.wd e6 (t.kp.ob _ _ I rfl) P;have a2:F.ob c=_:=e6.ob _ _ (t.kp.ob _ _ (k4.ob _ _ R rfl) rfl) (XC (Xi cn S));have ow:∀{KE:KX} (u:KV) T,(∀v σ' s',Po F σ' W s5 s'->u v σ')->am (aC 0) 44 (aa (aO (aP (aV 1)) (aS "Class") (aS "Module")) ab) (Ph (L+4)) ⟨[some (.str z),some (.bool b),some (.ref f),T],[c],[]⟩ F u KE:=by
    intro KE u T q;refine c_ rfl a2 (O.me rfl rfl ?_);have m5:oo s5.ks≤μ:=WX (sg t.ev.ks) m4;cases b
    ·exact ih m5 (by lia:3*μ+6≤L+4) (by decide+kernel) O λk σ' s' p Z=>q _ _ _ p
    ·exact ih m5 (by lia:3*μ+6≤L+4) (by decide+kernel) O λk σ' s' p Z=>q _ _ _ p
   refine ow _ _ λv7 c1 s7 A=>?_;refine sA (k:=f) Kp.refl (A.kp.ob _ _ P rfl) rfl λj e8 a4=>?_;have Y:=nr A.wd e8 (A.kp.ob _ _ P rfl) a4;have a7:j.ob c=_:=e8.ob _ _ (A.kp.ob _ _ a2 rfl) (XC (Xi cn S));have b6:fV σ0 j:=iF ((iF (k4.trans t.kp) e6 S:fV σ0 F).trans A.kp) e8 S;have x:∀p∈s.ks++[(z,f)],p∈s7.ks:=λp N=>A.ev.ks _ (t.ev.ks _ N);have m8:oo s7.ks≤μ:=WX (sg x) m4;have mx:∀{KE:KX} (u:KV) T,(∀l σ' s',Po j σ' W s7 s'->u (.ref l) σ')->bP (kY iS fy (aG 550) (aa (aV 0) (aa (aU ab) ab))) (cB (am (aC 0) 44 (aa aX ab))) (Ph (L+4)) ⟨some (.str z)::T,[c],[]⟩ j u KE:=by
    intro KE u T q;refine(f4 rfl (bl rfl) rfl ?_);refine bn (Yt.mp (WZ.mp uI z Q)) λg hr he=>?_;have J:=WZ.mp uE g hr;refine⟨g,hr,by simpa [aA]using he,?_⟩;have G:=Y.up (σ':=j.new (.tup [])) Kp.refl.new;have a3:=ae (o:=.tup []) a7;revert J;cases g.2 with
    |none=>exactλZ=>ao ac (eQ (bl rfl) (ao ac rfl) (q _ _ _ ((Po.refl Y).ext Kp.refl.new.new)))
    |some a=>
     intro J;obtain⟨i,p2⟩:=(WU _ _).mp J;refine⟨i,?_⟩;show(uV a).length≤10000∧bS (.kt a) _ _ (uV a).length 0 [] _;revert p2;cases hk:uV a with
     |nil=>exact nofun
     |cons y r=>
      intro p2;obtain⟨p2,p3⟩:=(WU _ _).mp p2;cases r with
      |cons _ _=>exact ch p2
      |nil=>
       refine(eQ (bl rfl) i ⟨y,by rw[hk];rfl,c_ rfl a3 (G.me rfl rfl ?_)⟩);exact ih m8 (by lia:3*μ+6≤L+4) (by simpa using p3) G λk σ' s' p Z=>⟨i,q _ _ _ (.ext ⟨p.wd,p.ev,(Kp.refl.new).trans p.kp⟩ Kp.refl.new)⟩
   refine mx _ _ λv9 c0 s9 B=>?_;have X:=B.kp.ob _ _ a4 rfl;have b4:=B.kp.ob _ _ a7 rfl;refine sA (k:=f) Kp.refl X rfl λD ea b2=>?_;have E:=nr (d':=[d.getD 0 0,d.getD 1 0,d.getD 2 0,v9,d.getD 4 0]) B.wd ea X b2;have a1:D.ob c=_:=ea.ob _ _ b4 (XC (Xi cn S));have b3:fV σ0 D:=iF (b6.trans B.kp) ea S;have a5:K (.ref f) D:=q f D s9 ⟨E,⟨B.ev.m.trans (A.ev.m.trans t.ev.m),B.ev.r.trans (A.ev.r.trans t.ev.r),B.ev.tl.trans (A.ev.tl.trans t.ev.tl),by have:=B.ev.n;have:=A.ev.n;have:s.n+1≤s5.n:=t.ev.n;lia,λp N=>B.ev.ks _ (x _ (a6 p N))⟩,e0.to.trans b3⟩ (B.ev.ks _ (x _ b5));refine gE E.w λZ Z Z Z Z U=>?_;refine c_ rfl a1 (g_ U.w rfl rfl ?_);cases s9.r
   ·exact a5
   ·exact c_ rfl a1 (E.me rfl rfl (jt (n:=L+3) E Q a5))
theorem iB (h:Wv σ W s) (hz:jk.contains z=true) (q:∀k σ' s',Po σ σ' W s s'->(z,k)∈s'.ks->K (.ref k) σ'):Ph (n+126) 0 615 [.ref W,.str z] σ K KE:=
 qf 40 (WX (Y8 _ _) h.len) (Y8 _ _) (by simpa using hz) h q
end
structure Nw (σ σ':Sg) (W:Nat) (s s':Ws) (k:Nat) (i:Int):Prop where
 p:Po σ σ' W s s'
 fr:σ.nx≤k
 i0:s.n<i
 i1:i≤s'.n
def d9 (σ:Sg) (C k:Nat) (i:Int) (o:Nat) (fz:Bool) (r:List (Nat×SV)):Prop:=∃d,σ.ob k=some (.inst C (fT i (.ref o) d fz r))
def Li (σ:Sg) (k:Nat) (i:Int) (o:Nat) (fz:Bool) (l:Nat) (xs:List SV):Prop:=d9 σ 82 k i o fz [(7,.ref l)]∧σ.ob l=some (.list xs)
section
variable {σ σ' σ1 σ0:Sg} {W:Nat} {s s' s1:Ws} {n C:Nat} {K:KV} {KE:KX} {z:Str} {k o l:Nat} {i:Int} {fz:Bool} {x y b:SV} {xs:List SV} {r:List (Nat×SV)}
theorem d9.up (m:d9 σ C k i o fz r) (hC:Nat.beq C 834=false) (e:fV σ σ'):d9 σ' C k i o fz r:=m.imp λd h=>e.ob _ _ h (by show(!Nat.beq C 834)=true;rw[hC];rfl)
theorem Li.up (m:Li σ k i o fz l xs) (e:fV σ σ'):Li σ' k i o fz l xs:=⟨m.1.up rfl e,e.ob _ _ m.2 rfl⟩
theorem fP (h:Wv σ W s) (q:∀k i o σ' s',Nw σ σ' W s s' k i->Mo σ' "String" o->d9 σ' 62 k i o false [(6,x)]->K (.ref k) σ'):Ph (n+127) 0 677 [.ref W,x] σ K KE:=by
 refine aK (k:=2) (d:=[]) (r:=0) (m:=EQ) rfl rfl rfl (h.me rfl rfl (cp h λg a=>?_));refine a.wd.me rfl rfl (iB a.wd (by decide+kernel) λo u c b v=>?_);refine f3 qT λf j e l p ⟨d,t⟩=>⟨rfl,?_⟩;subst t;exact q _ _ _ _ c ⟨(a.trans b).ext e,WX a.kp.nx b.kp.nx,by exact xz,(b.ev.n:s.n+1≤c.n)⟩ ((b.wd.ms _ v).up e.to) ⟨d,p⟩
theorem iL (h:Wv σ W s) (hl:σ.ob l=some (.list xs)) (hx:xs.length≤10000) (q:∀k i o l' σ' s',Nw σ σ' W s s' k i->σ.nx≤l'->Mo σ' "Array" o->Li σ' k i o false l' xs->K (.ref k) σ'):Ph (n+127) 0 684 [.ref W,.ref l] σ K KE:=by
 refine aK (k:=2) (d:=[]) (r:=0) (m:=Ew) rfl rfl rfl (h.me rfl rfl (cp h λu b=>?_));refine b.wd.me rfl rfl (iB b.wd (by decide+kernel) λo a p c y=>?_);have g:=c.kp.ob _ _ (b.kp.ob _ _ hl rfl) rfl;refine .inl (ao g ⟨hx,?_⟩);refine f3 te λf j t v w ⟨d,x⟩=>⟨rfl,?_⟩;subst x;have e:bC a j:=Kp.refl.new.trans t;exact q _ _ _ _ _ p ⟨(b.trans c).ext e,Yz (WX b.kp.nx c.kp.nx:σ.nx≤a.nx),by exact xz,(c.ev.n:s.n+1≤p.n)⟩ (WX b.kp.nx c.kp.nx:σ.nx≤a.nx) ((c.wd.ms _ y).up e.to) ⟨⟨d,w⟩,t.ob _ _ ac trivial⟩
theorem uj {nm isc pa ou nat:SV} {d:List Nat} {ow:SV} (h:σ.ob k=some (.inst 228 (uy i ow nm isc pa ou d .none nat))) (q:K (.bool false) σ):Ph (n+1) 0 225 [.ref k] σ K KE:=
 aK (k:=1) (d:=[]) (r:=0) (m:=Gh) rfl rfl rfl (g_ h rfl rfl (bQ rfl q))
theorem zd (q:K (.bool true) σ):Ph (n+1) 0 237 [.int i] σ K KE:=
 aK (k:=1) (d:=[]) (r:=0) (m:=xl) rfl rfl rfl ⟨by decide,gI rfl ⟨by decide,gI rfl q⟩⟩
noncomputable abbrev g6:List Str:=["nil","true","false","Symbol","Array","Hash","Object","String","Range"]
def fF (σ:Sg) (j:Nat) (x:SV):Prop:=match j with
 |0=>x=.none
 |1=>x=.bool true
 |2=>x=.bool false
 |3=>x=.str "a"
 |j=>∃k C f o,x=.ref k∧σ.ob k=some (.inst C f)∧C=[0,0,0,0,82,120,40,62,140].getD j 0∧f.lookup 1=some (.ref o)∧Mo σ (g6.getD j "") o
variable {j:Nat}
theorem fF.up (hj:j<9) (h:fF σ j x) (e:fV σ σ'):fF σ' j x:=by
 match j,hj,h with
 |0,_,h=>exact h
 |1,_,h=>exact h
 |2,_,h=>exact h
 |3,_,h=>exact h
 |j+4,hj,h=>
  refine rL h λk C f o c d a b m=>?_;refine(uN k C f o c (e.ob _ _ d ?_) a b (m.up e));have:(List.range 5).all (λj=> !Nat.beq ([0,0,0,0,82,120,40,62,140].getD (j+4) 0) 834)=true:=by decide+kernel
  have:=WZ.mp this j (XG.mpr (Z4 hj));rw[←a]at this;exact this
theorem eF (hj:j<5):dQ.contains ([0,0,0,0,82,120,40,62,140].getD (j+4) 0)=true:=by
 have:(List.range 5).all (λj=>dQ.contains ([0,0,0,0,82,120,40,62,140].getD (j+4) 0))=true:=by decide+kernel
 exact WZ.mp this j (XG.mpr hj)
theorem zB (hj:j<9) (h:fF σ j x) (q:K (.bool false) σ):Ph (n+1) 0 237 [x] σ K KE:=by
 refine aK (k:=1) (d:=[]) (r:=0) (m:=xl) rfl rfl rfl ?_
 match j,hj,h with
 |0,_,h=>subst h;exact⟨by decide,gI rfl q⟩
 |1,_,h=>subst h;exact⟨by decide,gI rfl ⟨by decide,gI rfl q⟩⟩
 |2,_,h=>subst h;exact⟨by decide,gI rfl ⟨by decide,gI rfl q⟩⟩
 |3,_,h=>subst h;exact⟨by decide,gI rfl q⟩
 |j+4,hj,h=>
  refine rL h λk C f o a c b e m=>?_;obtain rfl:=a;obtain rfl:=b;exact⟨by decide,uO c (eF (show j<5 by exact Z4 hj)) q⟩
theorem kE (q:K (.str "int") σ):Ph (n+1) 0 244 [.int i] σ K KE:=
 aK (k:=1) (d:=[]) (r:=0) (m:=pV) rfl rfl rfl (bQ rfl ⟨by decide,gI rfl ⟨by decide,gI rfl q⟩⟩)
theorem pj (q:K (.str "sym") σ):Ph (n+1) 0 244 [.str z] σ K KE:=
 aK (k:=1) (d:=[]) (r:=0) (m:=pV) rfl rfl rfl (bQ rfl ⟨by decide,gI rfl ⟨by decide,gI rfl ⟨by decide,gI rfl q⟩⟩⟩)
variable {f:List (Nat×SV)}
theorem ij (hk:σ.ob k=some (.inst C f)) (hC:dQ.contains C=true) (q:K (.str "thing") σ):Ph (n+1) 0 244 [.ref k] σ K KE:=
 aK (k:=1) (d:=[]) (r:=0) (m:=pV) rfl rfl rfl (bQ rfl ⟨by decide,uO hk hC ⟨by decide,uO hk hC ⟨by decide,uO hk hC q⟩⟩⟩)
theorem sX (h:Wv σ W s) (q:∀o σ' s',Po σ σ' W s s'->(("Integer":Str),o)∈s'.ks->K (.ref o) σ'):Ph (n+127) 0 642 [.ref W,.int i] σ K KE:=by
 exact aK (k:=2) (d:=[]) (r:=0) (m:=qH) rfl rfl rfl (bQ rfl ⟨by decide,gI rfl ⟨by decide,gI rfl (h.me rfl rfl (iB h (by decide+kernel) q))⟩⟩)
theorem kj (h:Wv σ W s) (q:∀o σ' s',Po σ σ' W s s'->(("Symbol":Str),o)∈s'.ks->K (.ref o) σ'):Ph (n+127) 0 642 [.ref W,.str z] σ K KE:=by
 exact aK (k:=2) (d:=[]) (r:=0) (m:=qH) rfl rfl rfl (bQ rfl ⟨by decide,gI rfl ⟨by decide,gI rfl ⟨by decide,gI rfl (h.me rfl rfl (iB h (by decide+kernel) q))⟩⟩⟩)
theorem kl {v:SV} (hk:σ.ob k=some (.inst C f)) (hC:dQ.contains C=true) (hr:qp C 1=true) (ho:f.lookup 1=some v) (q:K v σ):Ph (n+1) 0 642 [.ref W,.ref k] σ K KE:=
 aK (k:=2) (d:=[]) (r:=0) (m:=qH) rfl rfl rfl (bQ rfl ⟨by decide,uO hk hC ⟨by decide,uO hk hC ⟨by decide,uO hk hC (ao hk ⟨hr,_,ho,q⟩)⟩⟩⟩)
theorem S0:(jk.all λz=>Nat.ble z.length 50000&&(Nat.ble (""++z).length 50000&&((""++z)++""==z)))=true:=by decide+kernel
theorem jJ (m:Mo σ z k) (hz:z∈jk) (q:∀σ',bC σ σ'->K (.str z) σ'):Ph (n+1) 0 297 [.ref k] σ K KE:=by
 obtain⟨g,b⟩:=(WU _ _).mp (WZ.mp S0 z hz);obtain⟨b,e⟩:=(WU _ _).mp b;have e:(""++z)++""=z:=by simpa using e
 refine gE m λi p j l d h=>?_;refine aK (k:=1) (d:=[]) (r:=3) (m:=DR) rfl rfl rfl ⟨bl rfl,t_ ac rfl ⟨1,?_⟩⟩;have c:=ae (o:=.tup [.str "",.str "",.ref σ.nx]) (ae (o:=.dic0) h);have f:=ae (o:=.tup [.str "",.str "",.ref σ.nx]) (ac (σ:=σ) (o:=.dic0));have a:=(au (o:=.opq) (cz h)).trans c;refine g_ c rfl rfl (.d0 rfl f (g_ c rfl rfl (ao f ?_)));refine g_ a rfl rfl (bQ rfl (g_ a rfl rfl (bQ rfl (g_ a rfl rfl (bQ rfl (g_ a rfl rfl (eQ ⟨bl (by decide+kernel),bl g⟩ ⟨bl b,bl (by decide+kernel)⟩ ?_)))))));show K (.str ((""++z)++"")) _;rw[e];exact q _ ((Kp.refl.new.new).setN (Xy _))
def Er (σ:Sg) (e:Nat) (nm msg:Str):Prop:=∃i o t,d9 σ 181 e i o false [(13,.ref t),(14,.none)]∧Mo σ nm o∧∃i o,d9 σ 62 t i o false [(6,.str msg)]
def Xc (σ:Sg) (k:Nat) (nm msg:Str):Prop:=∃d e,σ.ob k=some (.exc d)∧σ.ob d=some (.xdic [(42,.str "a Ruby error"),(43,.ref e)])∧Er σ e nm msg
variable {msg:Str}
theorem Er.up (m:Er σ k z msg) (e:fV σ σ'):Er σ' k z msg:=by
 refine oH m λi o t h m a=>?_;refine mY a λb o2 c=>?_;exact(nG i o t (h.up rfl e) (m.up e) (qU b o2 (c.up rfl e)))
theorem vh (h:Wv σ W s) (hz:jk.contains z=true) (q:∀k σ' s',Po σ σ' W s s'->Er σ' k z msg->K (.ref k) σ'):Ph (n+128) 0 761 [.ref W,.str z,.str msg] σ K KE:=by
 refine aK (k:=3) (d:=[]) (r:=0) (m:=zY) rfl rfl rfl (h.me rfl rfl (cp h λg c=>?_));refine c.wd.me rfl rfl (iB c.wd hz λo j C a p=>?_);refine a.wd.me rfl rfl (fP a.wd λt y A w B e D l=>?_);refine f3 P0 λf u b i x ⟨d,v⟩=>⟨rfl,?_⟩;subst v;exact q _ _ _ (((c.trans a).trans e.p).ext b) (nG _ _ _ ⟨d,x⟩ ((a.wd.ms _ p).up (e.p.kp.trans b.to)) (qU _ _ (l.up rfl b.to)))
theorem w_raised (h:σ.ob k=some (.excF none)) (q:∀d σ',dB k σ σ'->σ'.ob k=some (.excF (some d))->σ'.ob d=some (.xdic [(42,.str "a Ruby error"),(43,x)])->K .none σ'):Ph (n+2) 0 435 [.ref k,x] σ K KE:=by
 refine aK (k:=2) (d:=[]) (r:=0) (m:=Au) rfl rfl rfl ?_;refine aK (k:=2) (d:=[]) (r:=0) (m:=Ba) rfl rfl rfl (ao h ⟨rfl,?_⟩);have a:=aE (o:=.excF none) h;refine ao a ⟨rfl,?_⟩;have b:=aE (o:=.excF (some (σ.set k (.excF none)).nx)) (ae (o:=.xdic [(42,.str "a Ruby error")]) a);have c:=(au (o:=.excF (some (σ.set k (.excF none)).nx)) ((cz a).symm:(σ.set k (.excF none)).nx≠k)).trans (ac (σ:=σ.set k (.excF none)) (o:=.xdic [(42,.str "a Ruby error")]));refine ao b ⟨rfl,ao c ⟨⟨rfl,bl rfl⟩,?_⟩⟩;exact q _ _ ((((Kp.refl.set λZ Z h=>h rfl).new).set λZ Z h=>h rfl).setN (Xy _)) ((au ((cz a).symm:(σ.set k (.excF none)).nx≠k).symm).trans b) (aE c)
theorem kf (h:Wv σ W s) (hz:jk.contains z=true) (q:∀e σ' s',Po σ σ' W s s'->Xc σ' e z msg->KE e σ'):Ph (n+129) 0 768 [.ref W,.str z,.str msg] σ K KE:=by
 refine aK (k:=3) (d:=[]) (r:=0) (m:=G9) rfl rfl rfl (h.me rfl rfl (vh h hz λe a j t i=>⟨bl rfl,?_⟩));refine xr<|w_raised ac λd b l f c=>⟨rfl,ao f ⟨_,rfl,?_⟩⟩;have p:bC a b:=mN Kp.refl.new l (Xy _);have g:bC a (b.set a.nx (.exc d)):=p.setN (Xy _);have o:d≠a.nx:=λe=>by
  rw[e,f]at c;cases c
 exact q _ _ j (t.ext g) (kh d e (aE f) ((au o).trans c) (i.up g.to))
noncomputable def jX (j:Nat):Str:=match j with
 |0=>"no implicit conversion from nil to integer"
 |j=>(⟨#[]⟩:Str)++"no implicit conversion of "++g6.getD j ""++" into Integer"
theorem mD (hj:j<6):jk.contains (g6.getD (j+3) "")=true:=by
 have:(List.range 6).all (λj=>jk.contains (g6.getD (j+3) ""))=true:=by decide+kernel
 exact WZ.mp this j (XG.mpr hj)
theorem m7 (hj:j<5):qp ([0,0,0,0,82,120,40,62,140].getD (j+4) 0) 1=true:=by
 have:(List.range 5).all (λj=>qp ([0,0,0,0,82,120,40,62,140].getD (j+4) 0) 1)=true:=by decide+kernel
 exact WZ.mp this j (XG.mpr hj)
theorem Dn (h:Wv σ W s) (hj:j<8) (ho:fF σ (j+1) x) (q:∀σ' s',Po σ σ' W s s'->K (.str (g6.getD (j+1) "")) σ'):Ph (n+128) 0 365 [.ref W,x] σ K KE:=by
 refine aK (k:=2) (d:=[]) (r:=0) (m:=C5) rfl rfl rfl ?_
 match j,hj,ho,q with
 |0,_,ho,q=>subst ho;exact bQ rfl ⟨by decide,gI rfl (q _ _ (.refl h))⟩
 |1,_,ho,q=>subst ho;exact bQ rfl ⟨by decide,gI rfl (q _ _ (.refl h))⟩
 |2,hj,ho,q=>
  subst ho;exact bQ rfl ⟨by decide,gI rfl (h.me rfl rfl (kj h λo σ' s' p m=>jJ (z:="Symbol") (p.wd.ms _ m) (by decide+kernel) λa e=>q _ _ (p.ext e)))⟩
 |j+3,hj,ho,q=>
  obtain⟨k,C,f,o,rfl,hk,rfl,ho,m⟩:=ho;exact bQ rfl ⟨by decide,uO hk (eF (Z4 hj)) (h.me rfl rfl (kl hk (eF (Z4 hj)) (m7 (Z4 hj)) ho (jJ m (by simpa using (mD (show j+1<6 by exact Z3 hj))) λa e=>q _ _ ((Po.refl h).ext e))))⟩
theorem fS (hj:j<8) (ho:fF σ (j+1) x):Nat.ble (kd x) 4=true∧Nat.beq (kd x) 0=false:=by
 match j,hj,ho with
 |0,_,ho=>subst ho;exact⟨rfl,rfl⟩
 |1,_,ho=>subst ho;exact⟨rfl,rfl⟩
 |2,hj,ho=>subst ho;exact⟨rfl,rfl⟩
 |j+3,hj,ho=>refine rL ho λk C f o a c b ho m=>?_;obtain rfl:=a;obtain rfl:=b;exact⟨rfl,rfl⟩
theorem fi (hj:j<9):((g6.getD j "").length≤50000∧((⟨#[]⟩:Str)++"no implicit conversion of "++g6.getD j "").length≤50000)∧((⟨#[]⟩:Str)++"no implicit conversion of "++g6.getD j ""++" into Integer").length≤50000:=by
 have:(List.range 9).all (λj=>(Nat.ble (g6.getD j "").length 50000&&Nat.ble ((⟨#[]⟩:Str)++"no implicit conversion of "++g6.getD j "").length 50000)&&Nat.ble ((⟨#[]⟩:Str)++"no implicit conversion of "++g6.getD j ""++" into Integer").length 50000)=true:=by decide+kernel
 have:=WZ.mp this j (XG.mpr hj);obtain⟨a,c⟩:=(WU _ _).mp this;obtain⟨a,b⟩:=(WU _ _).mp a;exact⟨⟨bl a,bl b⟩,bl c⟩
theorem yA:jX 0="no implicit conversion from nil to integer":=by rfl
theorem yU:jX (j+1)=(⟨#[]⟩:Str)++"no implicit conversion of "++g6.getD (j+1) ""++" into Integer":=by rfl
theorem jl (q:K (.int i) σ):Ph (n+2) 0 372 [.ref W,.int i] σ K KE:=
 aK (k:=2) (d:=[]) (r:=0) (m:=wW) rfl rfl rfl (bQ rfl (zd q))
theorem lR (h:Wv σ W s) (hj:j<9) (ho:fF σ j x) (q:∀e σ' s',Po σ σ' W s s'->Xc σ' e "TypeError" (jX j)->KE e σ'):Ph (n+130) 0 372 [.ref W,x] σ K KE:=by
 refine aK (k:=2) (d:=[]) (r:=0) (m:=wW) rfl rfl rfl ?_;cases j with
 |zero=>
  subst ho;rw[yA]at q;exact bQ rfl (h.me rfl rfl (kf h (by decide+kernel) q))
 |succ j=>
  obtain⟨a,b⟩:=fS (Z4 hj) ho;rw[yU]at q;refine bQ a ?_;rw[b];refine zB hj ho (h.me rfl rfl ⟨bl (by decide+kernel),Dn h (Z4 hj) ho λg o f=>(I05 (fi hj).1.1 (fi hj).1.2 (fi hj).2 (fi hj).2 (kf f.wd (by decide+kernel) λe c i l x=>q e c i (f.trans l) x))⟩)
theorem yp {b:Bool} (q:K (.str (if b then"true" else"false")) σ):Ph (n+2) 0 358 [.bool b] σ K KE:=by
 refine aK (k:=1) (d:=[.int 6,.none]) (r:=1) (m:=Fx) rfl rfl rfl ?_;refine aK (k:=1) (d:=[]) (r:=0) (m:=pV) rfl rfl rfl (bQ rfl ⟨by decide,gI rfl ?_⟩);refine gX (show aA "bool" "thing"=false from by rw[cC];decide+kernel) ?_;refine gX (show aA "bool" "sym"=false from by rw[cC];decide+kernel) ?_;refine gX (show aA "bool" "nil"=false from by rw[cC];decide+kernel) ?_;refine jV aQ ?_;cases b<;>exact q
theorem jm (q:K (.int i) σ):Ph (n+2) 0 475 [.ref W,.int i] σ K KE:=
 aK (k:=2) (d:=[]) (r:=1) (m:=wk) rfl rfl rfl (zd q)
theorem Nn (h:Wv σ W s) (hj:j<8) (ho:fF σ (j+1) x) (q:∀σ' s',Po σ σ' W s s'->K (.str (g6.getD (j+1) "")) σ'):
  aO (aP (bH bt (aa (aV 1) (aa (mG 0) ab)))) (ag 358 (aa (aV 1) ab)) (ag 297 (aa (am (aV 0) 48 (aa (aV 1) ab)) ab)) (Ph (n+129)) ⟨[some (.ref W),some x,none],[],[]⟩ σ K KE:=by
 match j,hj,ho,q with
 |0,_,ho,q=>subst ho;exact⟨by decide,gI rfl (yp (q _ _ (.refl h)))⟩
 |1,_,ho,q=>subst ho;exact⟨by decide,gI rfl (yp (q _ _ (.refl h)))⟩
 |2,hj,ho,q=>
  subst ho;exact⟨by decide,gI rfl (h.me rfl rfl (kj h λo σ' s' p m=>jJ (z:="Symbol") (p.wd.ms _ m) (by decide+kernel) λa e=>q _ _ (p.ext e)))⟩
 |j+3,hj,ho,q=>
  obtain⟨k,C,f,o,rfl,hk,rfl,ho,m⟩:=ho;exact⟨by decide,uO hk (eF (Z4 hj)) (h.me rfl rfl (kl hk (eF (Z4 hj)) (m7 (Z4 hj)) ho (jJ m (by simpa using (mD (show j+1<6 by exact Z3 hj))) λa e=>q _ _ ((Po.refl h).ext e))))⟩
theorem lL (h:Wv σ W s) (hj:j<9) (ho:fF σ j x) (q:∀e σ' s',Po σ σ' W s s'->Xc σ' e "TypeError" (jX j)->KE e σ'):Ph (n+130) 0 475 [.ref W,x] σ K KE:=by
 refine aK (k:=2) (d:=[]) (r:=1) (m:=wk) rfl rfl rfl (zB hj ho ?_);cases j with
 |zero=>
  subst ho;rw[yA]at q;exact bQ rfl (h.me rfl rfl (kf h (by decide+kernel) q))
 |succ j=>
  obtain⟨a,b⟩:=fS (Z4 hj) ho;rw[yU]at q;refine bQ a ?_;rw[b];refine Nn h (Z4 hj) ho λg o c=>?_;exact c.wd.me rfl rfl (I06 (bl (by decide+kernel)) (fi hj).1.1 (fi hj).1.2 (fi hj).2 (fi hj).2 (kf c.wd (by decide+kernel) λe f i l x=>q e f i (c.trans l) x))
noncomputable def oI (x:Option Int):SV:=match x with
 |none=>.none
 |some i=>.int i
noncomputable def bM (i n:Int):Int:=if i<0 then i+n else i
noncomputable def fE (x:Option Int) (n:Int):Int:=match x with
 |none=>0
 |some i=>bM i n
noncomputable def cg (y:Option Int) (b:Bool) (n:Int):Int:=match y with
 |none=>n
 |some i=>bM i n+(if b then 0 else 1)
noncomputable def oY (f l:Int):Int:=if l - f>0 then l - f else 0
noncomputable def pD (f c n:Int):Option (Int×Int):=if f<0∨n<f∨c<0 then none else some (f,if n - f<c then n - f else c)
abbrev Rg (σ:Sg) (k:Nat) (x y:SV) (b:Bool):Prop:=∃i o,d9 σ 140 k i o true [(10,x),(11,y),(12,.bool b)]
def zC (σ:Sg) (p:Option (Int×Int)) (v:SV):Prop:=match p with
 |none=>v=.none
 |some p=>∃t,v=.ref t∧σ.ob t=some (.tup [.int p.1,.int p.2])
variable {f c m:Int} {b:Bool} {x y:Option Int}
theorem sZ (C:Int->Prop) {A B:Prop} (f m:Int) (a:C (f+m)->A) (b:C f->B) (q:C (bM f m)):bI (decide (f<0)) A B:=
 bW (λh=>a (by rw[←show bM f m=f+m from Xn h];exact q)) (λh=>b (by rw[show f=bM f m from(Xh h).symm];exact q))
variable {Φ:Nat->eO} {fr:ca}
theorem lH {i:Nat} {v:AE} {K:eY} (h1:fr.loc[i]?=some (some (.int f))) (h2:∀K':KV,K' (.int m) σ->v Φ fr σ K' KE) (hl:Nat.blt i fr.loc.length=true) (q:K .next (fr.put i (.int (f+m))) σ):iI i v aF Φ fr σ K KE:=by
 refine⟨_,h1,_,rfl,h2 _ ?_⟩;refine jV hl ?_;exact q
theorem i5:bM (x.getD 0) m=fE x m:=by cases x<;>rfl
theorem sj (h:(y==none|| !b)=true):bM (y.getD (-1)) m+1=cg y b m:=by
 cases y with
 |none=>show(if(-1:Int)<0 then -1+m else -1)+1=m;rw[Xn (by decide)];lia
 |some i=>cases b with
  |true=>exact ch h
  |false=>rfl
theorem tm (h:(y==none|| !b)=false):bM (y.getD (-1)) m=cg y b m:=by
 cases y with
 |none=>exact kB h
 |some i=>cases b with
  |true=>exact(Int.add_zero _).symm
  |false=>exact kB h
theorem ly (h:Rg σ k (oI x) (oI y) b) (q:∀t σ',bC σ σ'->σ'.ob t=some (.tup [.int (fE x m),.int (cg y b m)])->K (.ref t) σ'):Ph (n+3) 0 386 [.ref W,.ref k,.int m] σ K KE:=by
 refine tC h λi o d c=>?_;refine aK (k:=3) (d:=[]) (r:=2) (m:=xM) rfl rfl rfl ?_;have A:∀(a:KV) e,a (.int (x.getD 0)) σ->aO (ai .Is (aj (aV 1) 10) aN) (aI 0) (ag 372 (aa (aV 0) (aa (aj (aV 1) 10) ab))) (Ph (n+2)) ⟨some (.ref W)::some (.ref k)::e,[],[]⟩ σ a KE:=λa e q=>by
  cases x with
  |none=>exact g_ c rfl rfl (bQ rfl q)
  |some i=>exact g_ c rfl rfl (bQ rfl (g_ c rfl rfl (jl q)))
 have B:∀(a:KV) e,a (.int (y.getD (-1))) σ->aO (ai .Is (aj (aV 1) 11) aN) (jR (aI 1)) (ag 372 (aa (aV 0) (aa (aj (aV 1) 11) ab))) (Ph (n+2)) ⟨some (.ref W)::some (.ref k)::e,[],[]⟩ σ a KE:=λa e q=>by
  cases y with
  |none=>exact g_ c rfl rfl (bQ rfl q)
  |some i=>exact g_ c rfl rfl (bQ rfl (g_ c rfl rfl (jl q)))
 have D:∀(a:Bool->Sg->Prop) e,a (y==none|| !b) σ->cD [ai .Is (aj (aV 1) 11) aN,cF (aP (aj (aV 1) 12))] (Ph (n+2)) ⟨some (.ref W)::some (.ref k)::e,[],[]⟩ σ a KE:=λa e q=>by
  cases y with
  |none=>exact g_ c rfl rfl (bQ rfl q)
  |some i=>cases b<;>exact g_ c rfl rfl (bQ rfl (g_ c rfl rfl q))
 have g:∀f l,fE x m=f->cg y b m=l->aq (aU (aa (aV 3) (aa (aV 4) ab))) (Ph (n+2)) ⟨[some (.ref W),some (.ref k),some (.int m),some (.int f),some (.int l)],[],[]⟩ σ (bp K) KE:=λf l p s=>
  ⟨bl rfl,q _ _ Kp.refl.new (by rw[p,s];exact ac)⟩
 refine A _ _ (B _ _ ?_);refine sZ (λj=>aw (ai .Lt (aV 4) (aI 0)) (iI 4 (aV 2) aF) (aw (cD [ai .Is (aj (aV 1) 11) aN,cF (aP (aj (aV 1) 12))]) (iI 4 (aI 1) aF) (aq (aU (aa (aV 3) (aa (aV 4) ab))))) (Ph (n+2)) ⟨[some (.ref W),some (.ref k),some (.int m),some (.int j),some (.int (y.getD (-1)))],[],[]⟩ σ (bp K) KE) (x.getD 0) m (λq=>lH rfl (λZ q=>q) rfl q) id ?_;refine sZ (λj=>aw (cD [ai .Is (aj (aV 1) 11) aN,cF (aP (aj (aV 1) 12))]) (iI 4 (aI 1) aF) (aq (aU (aa (aV 3) (aa (aV 4) ab)))) (Ph (n+2)) ⟨[some (.ref W),some (.ref k),some (.int m),some (.int (bM (x.getD 0) m)),some (.int j)],[],[]⟩ σ (bp K) KE) (y.getD (-1)) m (λq=>lH rfl (λZ q=>q) rfl q) id ?_;refine D _ _ (qu (λh=>?_) λh=>?_)
 ·exact lH rfl (λZ q=>q) rfl (g _ _ i5.symm (sj h).symm)
 ·exact g _ _ i5.symm (tm h).symm
theorem j8 {D:Prop} (d:K (.ref σ.nx) (σ.new (.tup [.int f,.int (if m - f<c then m - f else c)]))->D) (q:∀v σ',bC σ σ'->zC σ' (pD f c m) v->K v σ'):bI (decide (f<0)) (K .none σ) (bI (decide (m<f)) (K .none σ) (bI (decide (c<0)) (K .none σ) D)):=by
 have a:(f<0∨m<f∨c<0)->K .none σ:=λh=>q _ _ .refl (by rw[show pD f c m=none from Xn h];rfl);exact bW (λh=>a (.inl h)) λg=>bW (λh=>a (.inr (.inl h))) λe=>bW (λh=>a (.inr (.inr h))) λb=>
  d<|q _ _ Kp.refl.new (by rw[show pD f c m=some _ from Xh (by lia)];exact(bv _ rfl ac))
theorem nP (hl:σ.ob l=some (.list [.ref k])) (h:Rg σ k (oI x) (oI y) b) (q:∀v σ',bC σ σ'->zC σ' (pD (fE x m) (oY (fE x m) (cg y b m)) m) v->K v σ'):Ph (n+4) 0 393 [.ref W,.ref l,.int m] σ K KE:=by
 refine aK (k:=3) (d:=[]) (r:=3) (m:=qA) rfl rfl rfl (ao hl ⟨bl rfl,i_ hl rfl (ly h λt σ' e i=>t_ i rfl ?_)⟩);exact j8 (K:=K) (f:=fE x m) (m:=m) (c:=oY (fE x m) (cg y b m)) (λq=>⟨bl rfl,q⟩) λv a g h=>q v a (e.trans g) h
theorem pi (hl:σ.ob l=some (.list [.int f,.int c])) (q:∀v σ',bC σ σ'->zC σ' (pD (bM f m) c m) v->K v σ'):Ph (n+4) 0 393 [.ref W,.ref l,.int m] σ K KE:=by
 refine aK (k:=3) (d:=[]) (r:=3) (m:=qA) rfl rfl rfl (ao hl ⟨bl rfl,i_ hl rfl (jl (i_ hl rfl (jl ⟨bl rfl,t_ ac rfl ?_⟩)))⟩);refine sZ (λb=>aw (cD [ai .Lt (aV 3) (aI 0),ai .Gt (aV 3) (aV 2),ai .Lt (aV 5) (aI 0)]) (aq aN) (aq (aU (aa (aV 3) (aa (bH fk (aa (aV 5) (aa (ap .Sub (aV 2) (aV 3)) ab))) ab)))) (Ph (n+3)) ⟨[some (.ref W),some (.ref l),some (.int m),some (.int b),none,some (.int c)],[],[]⟩ (σ.new (.tup [.int f,.int c])) (bp K) KE) f m (λq=>lH rfl (λZ q=>q) rfl q) id ?_;exact j8 (K:=K) (f:=bM f m) (m:=m) (c:=c) (λq=>⟨bl rfl,q⟩) λv a e h=>q v a (Kp.refl.new.trans e) h
theorem jC {x y:SV} (hw:Wv σ W s) (hj:j<8) (h:Rg σ k x y b) (ho:fF σ (j+1) x∨x=.none∧fF σ (j+1) y) (q:∀e σ' s',Po σ σ' W s s'->Xc σ' e "TypeError" (jX (j+1))->KE e σ'):Ph (n+131) 0 386 [.ref W,.ref k,.int m] σ K KE:=by
 refine tC h λi o d c=>?_;refine aK (k:=3) (d:=[]) (r:=2) (m:=xM) rfl rfl rfl ?_;rcases ho with ho|⟨rfl,ho⟩
 ·obtain⟨a,b⟩:=fS hj ho
  refine g_ c rfl rfl (bQ a ?_);rw[b];exact g_ c rfl rfl (lR hw (Z5 hj) ho q)
 ·obtain⟨a,b⟩:=fS hj ho
  refine g_ c rfl rfl (bQ rfl (g_ c rfl rfl (bQ a ?_)));rw[b];exact g_ c rfl rfl (lR hw (Z5 hj) ho q)
end
inductive Pl|one (i:Int)|two (i c:Int)|rng (x y:Option Int) (b:Bool)|odd (j:Nat)
inductive BA (σ:Sg) (l j:Nat):Prop
 |b {x y} (h:σ.ob l=some (.list [x,y])) (o:fF σ j x)
 |c {i x} (h:σ.ob l=some (.list [.int i,x])) (o:fF σ j x)
 |d {k x y b j'} (h:σ.ob l=some (.list [.ref k])) (r:Rg σ k x y b) (e:j=j'+1) (o:fF σ (j'+1) x∨x=.none∧fF σ (j'+1) y)
def Hd (σ:Sg) (l:Nat) (p:Pl):Prop:=match p with
 |.one i=>σ.ob l=some (.list [.int i])
 |.two i c=>σ.ob l=some (.list [.int i,.int c])
 |.rng x y b=>∃k,σ.ob l=some (.list [.ref k])∧Rg σ k (oI x) (oI y) b
 |.odd j=>j<9∧((∃x,σ.ob l=some (.list [x])∧j<7∧fF σ j x)∨BA σ l j)
noncomputable def cG (m:Int) (p:Pl):Option (Int×Int):=match p with
 |.one i=>if 0≤bM i m∧bM i m<m then some (bM i m,1)else none
 |.two i c=>pD (bM i m) c m
 |.rng x y b=>pD (fE x m) (oY (fE x m) (cg y b m)) m
 |.odd _=>none
section
variable {σ σ' σ1 σ0:Sg} {W:Nat} {s s' s1:Ws} {n C:Nat} {K:KV} {KE:KX} {z msg:Str} {k o l:Nat} {i f c m:Int} {fz b:Bool} {x y:Option Int} {xs:List SV} {r:List (Nat×SV)}
theorem gv {p:Int×Int} (h:pD f c m=some p):0≤p.1∧0≤p.2∧p.1+p.2≤m:=by
 unfold pD at h;split at h
 ·exact cZ h
 ·obtain rfl:=jS h
  show 0≤f∧0≤(if m - f<c then m - f else c)∧f+(if m - f<c then m - f else c)≤m;split<;>omega
variable {j D:Nat}
theorem lN {v:SV} (hj:j<9) (ho:fF σ j v) (hD:(dQ.contains D&& !Nat.beq D 40&& !Nat.beq ([0,0,0,0,82,120,40,62,140].getD j 0) D)=true) {K:Bool->Prop} (q:K false):tL σ v D K:=by
 obtain⟨d,g⟩:=(WU _ _).mp hD;have a:=((WU _ _).mp d).1
 match j,hj,ho with
 |0,_,ho=>subst ho;exact⟨⟨rfl,a⟩,q⟩
 |1,_,ho=>subst ho;exact⟨⟨rfl,a⟩,q⟩
 |2,_,ho=>subst ho;exact⟨⟨rfl,a⟩,q⟩
 |3,_,ho=>subst ho;exact⟨⟨rfl,a⟩,q⟩
 |j+4,hj,ho=>
  refine rL ho λk C f o b e c ho m=>?_;obtain rfl:=b;obtain rfl:=c;refine ao e ⟨false,?_,q⟩;unfold SB;rw[eF (Z4 hj),d];show some _=_;rw[show Nat.beq ([0,0,0,0,82,120,40,62,140].getD (j+4) 0) D=false from by simpa using g]
theorem ky (hw:Wv σ W s) (hj:j<9) (h:BA σ l j) (q:∀e σ' s',Po σ σ' W s s'->Xc σ' e "TypeError" (jX j)->KE e σ'):Ph (n+132) 0 393 [.ref W,.ref l,.int m] σ K KE:=by
 refine aK (k:=3) (d:=[]) (r:=3) (m:=qA) rfl rfl rfl ?_;cases h with
 |b h o=>exact ao h ⟨bl rfl,i_ h rfl (lR hw hj o q)⟩
 |c h o=>exact ao h ⟨bl rfl,i_ h rfl (jl (i_ h rfl (lR hw hj o q)))⟩
 |d h r e o=>
  subst e;exact ao h ⟨bl rfl,i_ h rfl (jC hw (Z4 hj) r o q)⟩
theorem oi (q:K (.int (bM i m)) σ):Ph (n+3) 0 400 [.ref W,.int i,.int m] σ K KE:=
 aK (k:=3) (d:=[]) (r:=1) (m:=xL) rfl rfl rfl (jl (sZ (λf=>K (.int f) σ) i m id id q))
theorem lJ {x:SV} (hw:Wv σ W s) (hj:j<9) (ho:fF σ j x) (q:∀e σ' s',Po σ σ' W s s'->Xc σ' e "TypeError" (jX j)->KE e σ'):Ph (n+131) 0 400 [.ref W,x,.int m] σ K KE:=
 aK (k:=3) (d:=[]) (r:=1) (m:=xL) rfl rfl rfl (lR hw hj ho q)
variable {Φ:Nat->eO} {fr:ca}
theorem f7 {x:SV} {K:eY} {a r:AS} (h2:fr.loc[2]?=some (some (.ref l))) (h:σ.ob l=some (.list [x])) (hx:∀K:Bool->Prop,K false->tL σ x 140 K) (q:a Φ fr σ (kX (λfr σ=>r Φ fr σ K KE) K) KE):aw (bO [ai .Eq (bH aZ (aa (aV 2) ab)) (aI 1),cF (aP (bH bt (aa (ax (aV 2) (aI 0)) (aa (aG 140) ab))))]) a r Φ fr σ K KE:=by
 obtain⟨b,c,d⟩:=fr
 match b,h2 with
 |_::_::v::_,h2=>
  have:v=some (.ref l):=W7 h2;subst this;exact ao h ⟨bl rfl,i_ h rfl (hx _ q)⟩
theorem Fd {a o li:Nat} (hs:d9 σ 82 a f o fz [(7,.ref li)]) (hl:σ.ob li=some (.list xs)) (hx:xs.length≤1000) (h:σ.ob l=some (.list [.int i])) (q:∀v,(∀p,cG xs.length (.one i)=some p->xs[p.1.toNat]?=some v)->(cG xs.length (.one i)=none->v=.none)->K v σ):Ph (n+4) 0 447 [.ref W,.ref a,.ref l] σ K KE:=by
 obtain⟨d,hs⟩:=hs;refine aK (k:=3) (d:=[]) (r:=1) (m:=xE) rfl rfl rfl (i_ h rfl (g_ hs rfl rfl (ao hl ⟨by exact Z1 hx,oi ?_⟩)));refine bW (λc=>g_ hs rfl rfl (ao hl ⟨by exact Z1 hx,bW (λg=>?_) λg=>?_⟩)) λc=>?_
 ·refine g_ hs rfl rfl (ao hl (bW (λh=>absurd h (hO c)) λZ=>⟨⟨c,by exact XfG g hx⟩,?_⟩))
  have e:cG xs.length (.one i)=some (bM i xs.length,1):=Xn ⟨c,g⟩;have j:(bM i xs.length).toNat<xs.length:=by exact Rv c g
  refine⟨_,Xf j,q _ (λp b=>?_) λh=>by rw[e]at h;exact yP h⟩;rw[e]at b;obtain rfl:=jS b;exact Xf j
 ·exact q _ (λp b=>by rw[show cG xs.length (.one i)=none from Xh (U5 g)]at b;exact cZ b) λZ=>rfl
 ·exact q _ (λp b=>by rw[show cG xs.length (.one i)=none from Xh (Mf c)]at b;exact cZ b) λZ=>rfl
def TwL (σ:Sg) (l:Nat):Prop:=(∃x y,σ.ob l=some (.list [x,y]))∨∃k x y b,σ.ob l=some (.list [.ref k])∧Rg σ k x y b
noncomputable def HM (p:Pl):Bool:=match p with
 |.two _ _=>true
 |.rng _ _ _=>true
 |_=>false
variable {p:Pl}
theorem Hd.two (h:Hd σ l p) (hp:HM p=true):TwL σ l:=by
 cases p with
 |one i=>exact ch hp
 |odd j=>exact ch hp
 |two i c=>exact .inl (qU _ _ h)
 |rng x y b=>refine bn h λk h r=>?_;exact .inr (yT k _ _ _ h r)
theorem BA.two (h:BA σ l j):TwL σ l:=by
 cases h with
 |b h o=>exact .inl (qU _ _ h)
 |c h o=>exact .inl (qU _ _ h)
 |d h r e o=>exact .inr (yT _ _ _ _ h r)
theorem sW (h:Hd σ l p) (hp:HM p=true) (q:∀v σ',bC σ σ'->zC σ' (cG m p) v->K v σ'):Ph (n+4) 0 393 [.ref W,.ref l,.int m] σ K KE:=by
 cases p with
 |one i=>exact ch hp
 |odd j=>exact ch hp
 |two i c=>exact pi h q
 |rng x y b=>refine bn h λk h r=>?_;exact nP h r q
theorem gr {K:eY} {a r:AS} (h2:fr.loc[2]?=some (some (.ref l))) (h:TwL σ l) (q:r Φ fr σ K KE):aw (bO [ai .Eq (bH aZ (aa (aV 2) ab)) (aI 1),cF (aP (bH bt (aa (ax (aV 2) (aI 0)) (aa (aG 140) ab))))]) a r Φ fr σ K KE:=by
 obtain⟨c,e,f⟩:=fr
 match c,h2 with
 |_::_::v::_,h2=>
  have:v=some (.ref l):=W7 h2;subst this;rcases h with⟨x,y,h⟩|⟨k,x,y,b,h,i,o,d,r⟩
  ·exact ao h ⟨bl rfl,q⟩
  ·exact ao h ⟨bl rfl,i_ h rfl (uv r rfl q)⟩
variable {α:Type}
noncomputable def c9 (xs:List α) (p:Int×Int):List α:=(xs.drop p.1.toNat).take p.2.toNat
theorem hR {xs:List α} {p:Int×Int}:(c9 xs p).length≤xs.length:=by
 unfold c9;rw[YH,Y2];omega
def AJ (σ:Sg) (n:Int) (v:SV) (xs:List SV):Prop:=∃k i o l,v=.ref k∧n<i∧Mo σ "Array" o∧Li σ k i o false l xs
def uY (σ:Sg) (n:Int) (v:SV) (z:Str):Prop:=∃k i o,v=.ref k∧n<i∧Mo σ "String" o∧d9 σ 62 k i o false [(6,.str z)]
theorem Nw.pre (e:bC σ σ1) (h:Nw σ1 σ' W s s' k i):Nw σ σ' W s s' k i:=⟨⟨h.p.wd,h.p.ev,e.to.trans h.p.kp⟩,WX e.nx h.fr,h.i0,h.i1⟩
theorem Nd {a o:Nat} {li:Nat} (hs:d9 σ 82 a f o fz [(7,.ref li)]) (hl:σ.ob li=some (.list xs)) (hx:xs.length≤1000) (h:σ.ob l=some (.list [.int i])) (q:∀v,(∀p,cG xs.length (.one i)=some p->xs[p.1.toNat]?=some v)->(cG xs.length (.one i)=none->v=.none)->K v σ):Ph (n+5) 0 454 [.ref W,.ref a,.ref l] σ K KE:=
 aK (k:=3) (d:=[]) (r:=1) (m:=qC) rfl rfl rfl (f7 rfl h (λK q=>⟨⟨rfl,rfl⟩,q⟩) (Fd hs hl hx h q))
theorem zu {a o:Nat} {li:Nat} (hw:Wv σ W s) (hs:d9 σ 82 a f o fz [(7,.ref li)]) (hl:σ.ob li=some (.list xs)) (hx:xs.length≤1000) (h:Hd σ l p) (hp:HM p=true)
  (q0:∀σ',bC σ σ'->cG xs.length p=none->K .none σ') (q1:∀v σ' s' r,cG xs.length p=some r->Po σ σ' W s s'->AJ σ' s.n v (c9 xs r)->K v σ'):Ph (n+130) 0 454 [.ref W,.ref a,.ref l] σ K KE:=by
 obtain⟨d,hs⟩:=hs;refine aK (k:=3) (d:=[]) (r:=1) (m:=qC) rfl rfl rfl (gr rfl (h.two hp) (g_ hs rfl rfl (ao hl ⟨by exact Z1 hx,sW h hp λv u e q=>?_⟩)));cases hq:cG xs.length p with
 |none=>
  rw[hq]at q;subst q;exact bQ rfl (q0 _ e hq)
 |some r=>
  rw[hq]at q;refine bn q λt w z=>?_;obtain rfl:=w;have g:0≤r.1∧0≤r.2∧r.1+r.2≤xs.length:=by
   cases p with
   |one i=>exact ch hp
   |odd j=>exact ch hp
   |two i c=>exact gv hq
   |rng x y b=>exact gv hq
  refine bQ rfl ((hw.up e).me rfl rfl (g_ (e.ob _ _ hs trivial) rfl rfl (i_ z rfl (i_ z rfl (i_ z rfl (ao (e.ob _ _ hl trivial) (eQ (Z1 hx) (eQ g.1 (uZ g.2.1) (Ar g.1 g.2.1 g.2.2)) ?_)))))));have E:(xs.drop r.1.toNat).take ((r.1+r.2).toNat - r.1.toNat)=c9 xs r:=by
   unfold c9;congr 1;exact SJ g
  rw[E];have B:bC σ (u.new (.list (c9 xs r))):=e.new;refine iL (hw.up B) ac (WX hR (Z1 hx)) λk i o G D H A F C li=>?_;exact q1 _ _ _ _ hq (A.pre B).p (Tu _ _ _ _ rfl A.i0 C li)
noncomputable def Ly (o:SO):Bool:=match o with
 |.inst C _=>Nat.beq C 834||Nat.beq C 228
 |.dic _=>true
 |.dic0=>true
 |.ctab _ _=>true
 |.code _=>true
 |_=>false
abbrev qs (j:Nat):Sg->Sg->Prop:=Kp λk o=>fm o=true∧k≠j
noncomputable def gp (xs:List α) (p:Int×Int):List α:=xs.take p.1.toNat++xs.drop (p.1+p.2).toNat
variable {a li ow:Nat} {v:SV}
theorem iK {o:SO} (h:Wv σ W s) (b:dB j σ σ') (hj:σ.ob j=some o) (ho:Ly o=false):Wv σ' W s:=by
 obtain⟨⟨z,B,C,A,q,w⟩,m,D,u,g,F,r,v⟩:=h;have a:∀{k o2},σ.ob k=some o2->Ly o2=true->k≠j:=λl e y=>by
  rw[y,hj]at l;obtain rfl:=jS l;rw[ho]at e;exact ch e
 have x:Ly (eR s.ks)=true:=by
  unfold eR;split<;>rfl
 refine⟨iM z B C A q ⟨b.ob _ _ w.w (a w.w rfl),w.ne,b.ob _ _ w.d0 (a w.d0 rfl),b.ob _ _ w.d1 (a w.d1 rfl)⟩,b.ob _ _ m (a m x),λp n=>?_,u,g,F,jx r b λk o h c=>a h (by cases o<;>first|rfl|exact ch c),v⟩;refine gE (D p n) λi E f t d h=>?_;exact(iM i E f t d (b.ob _ _ h (a h rfl)))
theorem Kp.stx (e:fV σ σ'):qs k σ σ':=⟨e.nx,λj o h p=>e.ob j o h p.1⟩
theorem dB.stx (e:dB k σ σ'):qs k σ σ':=⟨e.nx,λj o h p=>e.ob j o h p.2⟩
theorem iJ {d:Nat} (h:σ.ob a=some (.inst 82 (fT i (.ref ow) d false r))) (q:K .none σ):Ph (n+1) 0 379 [.ref W,.ref a] σ K KE:=
 aK (k:=2) (d:=[]) (r:=0) (m:=Bp) rfl rfl rfl (g_ h rfl rfl q)
theorem GE (hs:d9 σ 82 a f ow false [(7,.ref li)]) (hl:σ.ob li=some (.list xs)) (hx:xs.length≤1000) (h:σ.ob l=some (.list [.int i])) (q0:cG xs.length (.one i)=none->K .none σ)
  (q1:∀v r σ',cG xs.length (.one i)=some r->xs[r.1.toNat]?=some v->dB li σ σ'->σ'.ob li=some (.list (gp xs r))->K v σ'):Ph (n+5) 0 461 [.ref W,.ref a,.ref l] σ K KE:=by
 obtain⟨d,hs⟩:=hs;refine aK (k:=3) (d:=[]) (r:=2) (m:=qP) rfl rfl rfl (iJ hs (f7 rfl h (λK q=>⟨⟨rfl,rfl⟩,q⟩) ?_));refine aK (k:=3) (d:=[]) (r:=1) (m:=wJ) rfl rfl rfl (iJ hs (i_ h rfl (g_ hs rfl rfl (ao hl ⟨by exact Z1 hx,oi ?_⟩))));refine bW (λb=>g_ hs rfl rfl (ao hl ⟨by exact Z1 hx,bW (λc=>?_) λc=>?_⟩)) λb=>?_
 ·have e:cG xs.length (.one i)=some (bM i xs.length,1):=Xn ⟨b,c⟩
  have g:(bM i xs.length).toNat<xs.length:=by exact Rv b c
  refine g_ hs rfl rfl ⟨ao hl trivial,ao hl ⟨xs.take (bM i xs.length).toNat,xs[(bM i xs.length).toNat],xs.drop ((bM i xs.length).toNat+1),?_,?_,by exact Z1 hx,?_⟩⟩
  ·rw[List.getElem_cons_drop,ZW]
  ·rw[YH];lia
  ·refine q1 _ _ _ e (Xf g) (Kp.refl.set λZ Z h=>h rfl) ?_
   rw[show gp xs (bM i xs.length,1)=xs.take (bM i xs.length).toNat++xs.drop ((bM i xs.length).toNat+1) from by
    unfold gp;congr 2;show(bM i xs.length+1).toNat=_;exact Xch b]
   exact aE hl
 ·exact q0 (Xh (U5 c))
 ·exact q0 (Xh (Mf b))
theorem qE (hw:Wv σ W s) (hs:d9 σ 82 a f ow false [(7,.ref li)]) (hl:σ.ob li=some (.list xs)) (hx:xs.length≤1000) (h:Hd σ l p) (hp:HM p=true)
  (q0:∀σ',bC σ σ'->cG xs.length p=none->K .none σ') (q1:∀v σ' s' r,cG xs.length p=some r->Wv σ' W s'->Wn s s'->qs li σ σ'->σ'.ob li=some (.list (gp xs r))->AJ σ' s.n v (c9 xs r)->K v σ'):Ph (n+130) 0 461 [.ref W,.ref a,.ref l] σ K KE:=by
 obtain⟨d,hs⟩:=hs;refine aK (k:=3) (d:=[]) (r:=2) (m:=qP) rfl rfl rfl (iJ hs (gr rfl (h.two hp) (g_ hs rfl rfl (ao hl ⟨by exact Z1 hx,sW h hp λv q w A=>?_⟩))));cases hq:cG xs.length p with
 |none=>
  rw[hq]at A;subst A;exact bQ rfl (q0 _ w hq)
 |some r=>
  rw[hq]at A;refine bn A λt B u=>?_;obtain rfl:=B;have g:0≤r.1∧0≤r.2∧r.1+r.2≤xs.length:=by
   cases p with
   |one i=>exact ch hp
   |odd j=>exact ch hp
   |two i c=>exact gv hq
   |rng x y b=>exact gv hq
  have e:=w.ob _ _ hl trivial;refine bQ rfl (g_ (w.ob _ _ hs trivial) rfl rfl (i_ u rfl (i_ u rfl (i_ u rfl (ao e (eQ (Z1 hx) (eQ g.1 (uZ g.2.1) (Ar g.1 g.2.1 g.2.2)) ?_))))));have I:(xs.drop r.1.toNat).take ((r.1+r.2).toNat - r.1.toNat)=c9 xs r:=by
   unfold c9;congr 1;exact SJ g
  rw[I];have E:bC σ (q.new (.list (c9 xs r))):=w.new;refine g_ (ae (o:=.list (c9 xs r)) (w.ob _ _ hs trivial)) rfl rfl (i_ (ae (o:=.list (c9 xs r)) u) rfl (i_ (ae (o:=.list (c9 xs r)) u) rfl (i_ (ae (o:=.list (c9 xs r)) u) rfl (ao (ae (o:=.list (c9 xs r)) e) ⟨f4 g.1 (uZ g.2.1) (Ar g.1 g.2.1 g.2.2) (Z1 hx),?_⟩))));have C:dB li (q.new (.list (c9 xs r))) ((q.new (.list (c9 xs r))).set li (.list (gp xs r))):=Kp.refl.set λZ Z h=>h rfl;have D:=iK (hw.up E) C (ae (o:=.list (c9 xs r)) e) rfl;have F:q.nx≠li:=(cz e).symm;refine D.me rfl rfl (iL D (C.ob _ _ ac F) (WX hR (Z1 hx)) λk i o M H N z L G J=>?_);exact q1 _ _ _ _ hq z.p.wd z.p.ev ((E.to.trans C.stx).trans z.p.kp.stx) (z.p.kp.ob _ _ (aE (o:=.list (gp xs r)) (ae (o:=.list (c9 xs r)) e)) rfl) (Tu _ _ _ _ rfl z.i0 G J)
theorem jI (hj:j<7):(dQ.contains 140&& !Nat.beq 140 40&& !Nat.beq ([0,0,0,0,82,120,40,62,140].getD j 0) 140)=true:=by
 have:(List.range 7).all (λj=>dQ.contains 140&& !Nat.beq 140 40&& !Nat.beq ([0,0,0,0,82,120,40,62,140].getD j 0) 140)=true:=by decide+kernel
 exact WZ.mp this j (XG.mpr hj)
theorem Bm (hj:j<7):(dQ.contains 62&& !Nat.beq 62 40&& !Nat.beq ([0,0,0,0,82,120,40,62,140].getD j 0) 62)=true:=by
 have:(List.range 7).all (λj=>dQ.contains 62&& !Nat.beq 62 40&& !Nat.beq ([0,0,0,0,82,120,40,62,140].getD j 0) 62)=true:=by decide+kernel
 exact WZ.mp this j (XG.mpr hj)
theorem Pg (hw:Wv σ W s) (hs:d9 σ 82 a f ow fz [(7,.ref li)]) (hl:σ.ob li=some (.list xs)) (hx:xs.length≤1000) (h:Hd σ l (.odd j)) (q:∀e σ' s',Po σ σ' W s s'->Xc σ' e "TypeError" (jX j)->KE e σ'):Ph (n+133) 0 454 [.ref W,.ref a,.ref l] σ K KE:=by
 obtain⟨d,hs⟩:=hs;refine aK (k:=3) (d:=[]) (r:=1) (m:=qC) rfl rfl rfl ?_;obtain⟨b,⟨x,h,g,c⟩|h⟩:=h
 ·refine f7 rfl h (λK q=>lN b c (jI g) q) ?_
  exact aK (k:=3) (d:=[]) (r:=1) (m:=xE) rfl rfl rfl (i_ h rfl (g_ hs rfl rfl (ao hl ⟨by exact Z1 hx,lJ hw b c q⟩)))
 ·exact gr rfl h.two (g_ hs rfl rfl (ao hl ⟨by exact Z1 hx,ky hw b h q⟩))
theorem C3 (hw:Wv σ W s) (hs:d9 σ 82 a f ow false [(7,.ref li)]) (hl:σ.ob li=some (.list xs)) (hx:xs.length≤1000) (h:Hd σ l (.odd j)) (q:∀e σ' s',Po σ σ' W s s'->Xc σ' e "TypeError" (jX j)->KE e σ'):Ph (n+133) 0 461 [.ref W,.ref a,.ref l] σ K KE:=by
 obtain⟨d,hs⟩:=hs;refine aK (k:=3) (d:=[]) (r:=2) (m:=qP) rfl rfl rfl (iJ hs ?_);obtain⟨b,⟨x,h,g,c⟩|h⟩:=h
 ·refine f7 rfl h (λK q=>lN b c (jI g) q) ?_
  exact aK (k:=3) (d:=[]) (r:=1) (m:=wJ) rfl rfl rfl (iJ hs (i_ h rfl (g_ hs rfl rfl (ao hl ⟨by exact Z1 hx,lJ hw b c q⟩))))
 ·exact gr rfl h.two (g_ hs rfl rfl (ao hl ⟨by exact Z1 hx,ky hw b h q⟩))
theorem pY {i:Nat} (h:fr.loc[i]?=some (some v)):aV i Φ fr σ K KE=K v σ:=by
 unfold aV;rw[h]
theorem qV {i j g:Nat} {K:eY} {r:AS} (h1:fr.loc[i]?=some (some (.int f))) (h2:fr.loc[j]?=some (some (.int m))) (hl:Nat.blt g fr.loc.length=true) (q:r Φ (fr.put g (.int (bM f m))) σ K KE):ay (.l g) (aO (ai .Lt (aV i) (aI 0)) (ap .Add (aV i) (aV j)) (aV i)) r Φ fr σ K KE:=by
 unfold ay aO ai ap;rw[pY h1];refine sZ (λa=>r Φ (fr.put g (.int a)) σ K KE) f m (λq=>?_) (λq=>?_) q
 ·rw[pY h1,pY h2]
  refine jV hl ?_;exact q
 ·rw[pY h1]
  refine jV hl ?_;exact q
theorem mr (q:∀v σ',bC σ σ'->zC σ' (pD (bM f m) c m) v->K v σ'):Ph (n+1) 0 489 [.int f,.int c,.int m] σ K KE:=by
 refine aK (k:=3) (d:=[]) (r:=1) (m:=F9) rfl rfl rfl ?_;refine qV rfl rfl rfl ?_;exact j8 (K:=K) (f:=bM f m) (m:=m) (c:=c) (λq=>⟨bl rfl,q⟩) q
theorem wL (h:Rg σ k (oI x) (oI y) b) (q:∀v σ',bC σ σ'->zC σ' (pD (fE x m) (oY (fE x m) (cg y b m)) m) v->K v σ'):Ph (n+4) 0 496 [.ref W,.ref k,.int m] σ K KE:=by
 refine tC h λi o d c=>?_;refine aK (k:=3) (d:=[]) (r:=4) (m:=wU) rfl rfl rfl ?_;have A:∀(a:KV) fr,a (.int (x.getD 0)) σ->aO (ai .Is (aj (aV 1) 10) aN) (aI 0) (ag 475 (aa (aV 0) (aa (aj (aV 1) 10) ab))) (Ph (n+3)) ⟨some (.ref W)::some (.ref k)::fr,[],[]⟩ σ a KE:=λa fr q=>by
  cases x with
  |none=>exact g_ c rfl rfl (bQ rfl q)
  |some i=>exact g_ c rfl rfl (bQ rfl (g_ c rfl rfl (jm q)))
 have B:∀(a:KV) fr,a (.int (y.getD (-1))) σ->aO (ai .Is (aj (aV 1) 11) aN) (jR (aI 1)) (ag 475 (aa (aV 0) (aa (aj (aV 1) 11) ab))) (Ph (n+3)) ⟨some (.ref W)::some (.ref k)::fr,[],[]⟩ σ a KE:=λa fr q=>by
  cases y with
  |none=>exact g_ c rfl rfl (bQ rfl q)
  |some i=>exact g_ c rfl rfl (bQ rfl (g_ c rfl rfl (jm q)))
 have D:∀(a:Bool->Sg->Prop) fr,a (y==none|| !b) σ->cD [cF (aP (aj (aV 1) 12)),ai .Is (aj (aV 1) 11) aN] (Ph (n+3)) ⟨some (.ref W)::some (.ref k)::fr,[],[]⟩ σ a KE:=λa fr q=>by
  cases y with
  |none=>cases b<;>exact g_ c rfl rfl (by first|exact q|exact g_ c rfl rfl (bQ rfl q))
  |some i=>cases b<;>exact g_ c rfl rfl (by first|exact q|exact g_ c rfl rfl (bQ rfl q))
 have l:∀e,cg y b m=e->ay (.l 6) (aO (ai .Lt (aV 3) (aI 0)) (ap .Add (aV 3) (aV 2)) (aV 3)) (aq (ag 489 (aa (aV 3) (aa (bH iw (aa (aI 0) (aa (ap .Sub (aV 5) (aV 6)) ab))) (aa (aV 2) ab))))) (Ph (n+3)) ⟨[some (.ref W),some (.ref k),some (.int m),some (.int (x.getD 0)),some (.int (y.getD (-1))),some (.int e),none],[],[]⟩ σ (bp K) KE:=λe p=>by
  refine qV rfl rfl rfl ?_;subst p;refine mr ?_;rw[i5];exact q
 refine A _ _ (B _ _ ?_);refine qV (g:=5) (i:=4) (j:=2) (f:=y.getD (-1)) (m:=m) (fr:=⟨[some (.ref W),some (.ref k),some (.int m),some (.int (x.getD 0)),some (.int (y.getD (-1))),none,none],[],[]⟩) rfl rfl rfl ?_;refine D _ _ (qu (λh=>?_) λh=>?_)
 ·exact lH rfl (λZ q=>q) rfl (l _ (sj h).symm)
 ·exact l _ (tm h).symm
noncomputable abbrev zs (cs:List Nat):Str:=⟨cs.toArray⟩
variable {cs:List Nat} {ρ:Int×Int}
theorem Om (h0:0≤i) (h1:i≤f) (h2:f≤cs.length):Txt.slice (zs cs) (some i) (some f)=zs ((cs.drop i.toNat).take (f - i).toNat):=XJ (slice_closesL (x:=zs cs) h0 h1 (by show f≤((cs.toArray.size:Nat):Int);rw[Xq];exact h2))
theorem K0 (h0:0≤f) (h2:f≤cs.length):Txt.slice (zs cs) none (some f)=zs (cs.take f.toNat):=by
 have:=XJ (slice_closes_toL (x:=zs cs) h0 (by show f≤((cs.toArray.size:Nat):Int);rw[Xq];exact h2));rw[Int.sub_zero]at this;exact this
theorem Jc (h0:0≤f) (h2:f≤cs.length):Txt.slice (zs cs) (some f) none=zs (cs.drop f.toNat):=by
 have:=XJ (slice_closes_fromL (x:=zs cs) (b:=cs.length) h0 (by show f≤((cs.toArray.size:Nat):Int);rw[Xq];exact h2) (by show _=((cs.toArray.size:Nat):Int);exact Yi _ (Xq)));rw[this];show zs ((cs.drop f.toNat).take _)=_;rw[Yq];rw[Y2];omega
theorem nF {a b:List Nat}:zs a++zs b=zs (a++b):=by
 show(⟨a.toArray++b.toArray⟩:Str)=_;rw[List.append_toArray]
theorem db:(zs cs).length=cs.length:=Xq ..
theorem ur (h0: -m≤i) (h1:i<m):i % m=bM i m:=by
 unfold bM;split
 ·rw[show i % m=(i+m) % m from by simp];exact Int.emod_eq_of_lt (Xc9 h0) (XdH (by assumption))
 ·exact Int.emod_eq_of_lt (By (by assumption)) h1
theorem on (hz:cs.length≤1000) (h:Hd σ l p) (hp:∀j,p≠ .odd j) (q:∀v σ',bC σ σ'->zC σ' (cG cs.length p) v->K v σ'):Ph (n+5) 0 503 [.ref W,.str (zs cs),.ref l] σ K KE:=by
 have a:(zs cs).length≤50000:=by rw[db];exact Z1 hz
 refine aK (k:=3) (d:=[]) (r:=2) (m:=vG) rfl rfl rfl ?_;rw[←db]at q;cases p with
 |odd j=>exact absurd rfl (hp j)
 |two i c=>
  exact ao h ⟨bl rfl,i_ h rfl (jm (i_ h rfl (jm ⟨a,mr q⟩)))⟩
 |rng x y b=>
  refine bn h λk h r=>?_;refine tC r λi o d e=>?_;exact ao h ⟨bl rfl,i_ h rfl (uv e rfl (i_ h rfl (uv e rfl (i_ h rfl ⟨a,wL (xI i o d e) q⟩))))⟩
 |one i=>
  refine ao h ⟨bl rfl,i_ h rfl ⟨⟨rfl,rfl⟩,i_ h rfl ⟨⟨rfl,rfl⟩,i_ h rfl (jm ⟨a,?_⟩)⟩⟩⟩;refine bW (λf=>⟨a,bW (λg=>(eQ a (by lia) ⟨bl rfl,?_⟩)) λg=>?_⟩) λf=>?_
  ·refine q _ _ Kp.refl.new ?_
   rw[show cG (zs cs).length (.one i)=some (bM i (zs cs).length,1) from Xn (by unfold bM;split<;>lia),ur f g];exact(bv _ rfl ac)
  ·refine q _ _ .refl ?_
   rw[show cG (zs cs).length (.one i)=none from Xh (by unfold bM;split<;>lia)];rfl
  ·refine q _ _ .refl ?_
   rw[show cG (zs cs).length (.one i)=none from Xh (by unfold bM;split<;>lia)];rfl
theorem lA (hw:Wv σ W s) (hz:cs.length≤1000) (h:Hd σ l (.odd j)) (q:∀e σ' s',Po σ σ' W s s'->Xc σ' e "TypeError" (jX j)->KE e σ'):Ph (n+133) 0 503 [.ref W,.str (zs cs),.ref l] σ K KE:=by
 refine aK (k:=3) (d:=[]) (r:=2) (m:=vG) rfl rfl rfl ?_;obtain⟨f,⟨x,h,t,g⟩|h⟩:=h
 ·exact ao h ⟨bl rfl,i_ h rfl (lN f g (Bm t) (i_ h rfl (lN f g (jI t) (i_ h rfl (lL hw f g q)))))⟩
 ·cases h with
  |b h o=>exact ao h ⟨bl rfl,i_ h rfl (lL hw f o q)⟩
  |c h o=>exact ao h ⟨bl rfl,i_ h rfl (jm (i_ h rfl (lL hw f o q)))⟩
  |d h r e o=>
   subst e;refine tC r λi u d p=>?_;refine ao h ⟨bl rfl,i_ h rfl (uv p rfl (i_ h rfl (uv p rfl (i_ h rfl ⟨(by rw[db];exact Z1 hz:(zs cs).length≤50000),?_⟩))))⟩;refine aK (k:=3) (d:=[]) (r:=4) (m:=wU) rfl rfl rfl ?_;rcases o with g|⟨rfl,g⟩
   ·obtain⟨a,b⟩:=fS (Z4 f) g
    refine g_ p rfl rfl (bQ a ?_);rw[b];exact g_ p rfl rfl (lL hw (Z2 f) g q)
   ·obtain⟨a,b⟩:=fS (Z4 f) g
    refine g_ p rfl rfl (bQ rfl (g_ p rfl rfl (bQ a ?_)));rw[b];exact g_ p rfl rfl (lL hw (Z2 f) g q)
theorem gy (h:cG m p=some ρ):0≤ρ.1∧0≤ρ.2∧ρ.1+ρ.2≤m:=by
 cases p with
 |one i=>
  have h:(if 0≤bM i m∧bM i m<m then some (bM i m,1)else none)=some ρ:=h;split at h
  ·obtain rfl:=jS h
   show 0≤bM i m∧(0:Int)≤1∧bM i m+1≤m;lia
  ·exact cZ h
 |odd j=>exact cZ h
 |two i c=>exact gv h
 |rng x y b=>exact gv h
theorem rU (h:0≤ρ.1∧0≤ρ.2∧ρ.1+ρ.2≤cs.length):Txt.slice (zs cs) (some ρ.1) (some (ρ.1+ρ.2))=zs (c9 cs ρ):=by
 rw[Om h.1 (uZ h.2.1) h.2.2];unfold c9;congr 4;exact XcT
theorem Fl (h:0≤ρ.1∧0≤ρ.2∧ρ.1+ρ.2≤cs.length):Txt.slice (zs cs) none (some ρ.1)++Txt.slice (zs cs) (some (ρ.1+ρ.2)) none=zs (gp cs ρ):=by
 rw[K0 h.1 (XaS h.2.2 h.2.1),Jc (Xdy h.1 h.2.1) h.2.2,nF];rfl
theorem AA (hw:Wv σ W s) (hs:d9 σ 62 a f ow fz [(6,.str (zs cs))]) (hz:cs.length≤1000) (h:Hd σ l p) (hp:∀j,p≠ .odd j)
  (q0:∀σ',bC σ σ'->cG cs.length p=none->K .none σ') (q1:∀v σ' s' r,cG cs.length p=some r->Po σ σ' W s s'->uY σ' s.n v (zs (c9 cs r))->K v σ'):Ph (n+130) 0 510 [.ref W,.ref a,.ref l] σ K KE:=by
 obtain⟨d,hs⟩:=hs;have e:(zs cs).length≤50000:=by rw[db];exact Z1 hz
 refine aK (k:=3) (d:=[]) (r:=1) (m:=w8) rfl rfl rfl (g_ hs rfl rfl (on hz h hp λv w b c=>?_));cases hq:cG cs.length p with
 |none=>
  rw[hq]at c;subst c;exact bQ rfl (q0 _ b hq)
 |some r=>
  rw[hq]at c;refine bn c λt g q=>?_;obtain rfl:=g;refine bQ rfl ((hw.up b).me rfl rfl (g_ (b.ob _ _ hs trivial) rfl rfl (i_ q rfl (i_ q rfl (i_ q rfl ⟨e,?_⟩)))));refine fP (hw.up b) λk i o x z u y tx=>q1 _ _ _ _ hq (u.pre b).p (hH _ _ _ rfl u.i0 y ?_);rw[←rU (gy hq)];exact tx
theorem Mo.but {o:SO} (mo:Mo σ z k) (b:dB j σ σ') (hj:σ.ob j=some o) (ho:Ly o=false):Mo σ' z k:=by
 refine gE mo λi f a c d h=>?_;refine(iM i f a c d (b.ob _ _ h λe=>?_));rw[e,hj]at h;obtain rfl:=jS h;exact kB ho
theorem sw {d:Nat} (h:σ.ob a=some (.inst 62 (fT i (.ref ow) d false r))) (q:K .none σ):Ph (n+1) 0 482 [.ref W,.ref a] σ K KE:=
 aK (k:=2) (d:=[]) (r:=0) (m:=Cq) rfl rfl rfl (g_ h rfl rfl q)
theorem El (hw:Wv σ W s) (hs:d9 σ 62 a f ow false [(6,.str (zs cs))]) (hz:cs.length≤1000) (h:Hd σ l p) (hp:∀j,p≠ .odd j)
  (q0:∀σ',bC σ σ'->cG cs.length p=none->K .none σ') (q1:∀v σ' s' r,cG cs.length p=some r->Wv σ' W s'->Wn s s'->qs a σ σ'->d9 σ' 62 a f ow false [(6,.str (zs (gp cs r)))]->uY σ' s.n v (zs (c9 cs r))->K v σ'):Ph (n+130) 0 517 [.ref W,.ref a,.ref l] σ K KE:=by
 obtain⟨d,hs⟩:=hs;have c:(zs cs).length≤50000:=by rw[db];exact Z1 hz
 refine aK (k:=3) (d:=[]) (r:=2) (m:=wT) rfl rfl rfl (sw hs (g_ hs rfl rfl (on hz h hp λv B z A=>?_)));cases hq:cG cs.length p with
 |none=>
  rw[hq]at A;subst A;exact bQ rfl (q0 _ z hq)
 |some r=>
  rw[hq]at A;refine bn A λt C u=>?_;obtain rfl:=C;have D:=hw.up z;have q:=z.ob _ _ hs trivial;refine bQ rfl (D.me rfl rfl (g_ q rfl rfl (i_ u rfl (i_ u rfl (i_ u rfl ⟨c,?_⟩)))));refine fP D λk i o w F g E tx=>?_;rw[rU (gy hq)]at tx;have b:=g.p.kp.ob _ _ q rfl;refine g_ b rfl rfl (i_ (g.p.kp.ob _ _ u rfl) rfl ⟨c,g_ b rfl rfl (i_ (g.p.kp.ob _ _ u rfl) rfl (i_ (g.p.kp.ob _ _ u rfl) rfl (eQ c ⟨WX (Txt.slice_le _ _ _) c,WX (Txt.slice_le _ _ _) c⟩ (k9 b rfl ?_))))⟩);have G:k≠a:=λe=>absurd (B.wf _ _ q) (by rw[←e];exact YM.mpr g.fr);have y:dB a w (w.set a (.inst 62 (fT f (.ref ow) d false [(6,.str (zs (gp cs r)))]))):=Kp.refl.set λZ Z h=>h rfl;obtain⟨H,tx⟩:=tx;have x:=q1 (.ref k) _ F r hq (iK g.p.wd y b rfl) g.p.ev ((z.to.trans g.p.kp.stx).trans y.stx) ⟨d,aE b⟩ (hH _ _ _ rfl g.i0 (E.but y b rfl) ⟨H,y.ob _ _ tx G⟩);rw[←Fl (gy hq)]at x;exact x
theorem wx (hw:Wv σ W s) (hs:d9 σ 62 a f ow fz [(6,.str (zs cs))]) (hz:cs.length≤1000) (h:Hd σ l (.odd j)) (q:∀e σ' s',Po σ σ' W s s'->Xc σ' e "TypeError" (jX j)->KE e σ'):Ph (n+134) 0 510 [.ref W,.ref a,.ref l] σ K KE:=by
 obtain⟨d,hs⟩:=hs;exact aK (k:=3) (d:=[]) (r:=1) (m:=w8) rfl rfl rfl (g_ hs rfl rfl (lA hw hz h q))
theorem xi (hw:Wv σ W s) (hs:d9 σ 62 a f ow false [(6,.str (zs cs))]) (hz:cs.length≤1000) (h:Hd σ l (.odd j)) (q:∀e σ' s',Po σ σ' W s s'->Xc σ' e "TypeError" (jX j)->KE e σ'):Ph (n+134) 0 517 [.ref W,.ref a,.ref l] σ K KE:=by
 obtain⟨d,hs⟩:=hs;exact aK (k:=3) (d:=[]) (r:=2) (m:=wT) rfl rfl rfl (sw hs (g_ hs rfl rfl (lA hw hz h q)))
noncomputable def yJ (j:Nat):Str:=match j with
 |0=>"from nil to integer"
 |j=>"of "++g6.getD j ""++" into Integer"
noncomputable def dU (j:Nat):Str:="TypeError: no implicit conversion "++yJ j
variable {kT P:Nat}
theorem JZ (hj:j<9):"TypeError"++": "++jX j=dU j:=by
 have:(List.range 9).all (λj=>"TypeError"++": "++jX j==dU j)=true:=by decide+kernel
 exact XJ (WZ.mp this j (XG.mpr hj))
theorem OO (hj:j<9):(jX j).length≤50000:=by
 have:(List.range 9).all (λj=>Nat.ble (jX j).length 50000)=true:=by decide+kernel
 exact bl (WZ.mp this j (XG.mpr hj))
variable {ln col:Nat}
theorem yf {q:Str} (h:mL σ kT P q) (g:∀k kc σ',dB kT σ σ'->σ'.ob k=some (.clo j cs kc)->σ'.ob kc=some (.code q)->mL σ' kT P q->K (.ref k) σ'):g8 σ j q kT P cs ln col K:=by
 refine bn h λa h e=>?_;unfold g8;refine ao h ⟨rfl,?_⟩;cases hf:fA a ln col with
 |some p=>
  have hp:=e p (Yh hf);exact g _ _ _ Kp.refl.new ac (ae hp) (bv a (ae h) (λp hp=>ae (e p hp)))
 |none=>
  have b:dB kT σ (((σ.new (.code q)).set kT (.ctab P (a++[((ln,col),σ.nx)]))).new (.clo j cs σ.nx)):=(Kp.refl.new.set λZ Z h=>h rfl).new;have c:(((σ.new (.code q)).set kT (.ctab P (a++[((ln,col),σ.nx)]))).new (.clo j cs σ.nx)).ob σ.nx=some (.code q):=ae ((au (cz h).symm).trans ac);refine g _ _ _ b ac c (bv _ (ae (aE (ae h))) (λp hp=>?_));rcases W6.mp hp with hp|hp
  ·exact b.ob _ _ (e p hp) λd=>by have:=e p hp;rw[d,h]at this;cases this
  ·cases XA.mp hp
   exact c
variable {es:List ((Nat×Nat)×Nat)}
theorem qZ (h:Wv σ W s) (b:dB kT σ σ') (hj:σ.ob kT=some (.ctab P es)) (tb:mL σ' 0 920 (aT 0).qual∧mL σ' 1 932 (aT 2).qual):Wv σ' W s:=by
 obtain⟨⟨t,v,x,u,l,w⟩,m,y,o,f,A,_,q⟩:=h;have a:∀{k o2},σ.ob k=some o2->o2≠ .ctab P es->k≠kT:=λg e r=>by
  rw[r,hj]at g;obtain rfl:=jS g;exact e rfl
 refine⟨iM t v x u l ⟨b.ob _ _ w.w (a w.w nofun),w.ne,b.ob _ _ w.d0 (a w.d0 nofun),b.ob _ _ w.d1 (a w.d1 nofun)⟩,b.ob _ _ m (a m (by unfold eR;split<;>exact nofun)),λp j=>?_,o,f,A,tb,q⟩;refine gE (y p j) λi z c n d h=>?_;exact(iM i z c n d (b.ob _ _ h (a h nofun)))
theorem oy (b:dB kT σ σ') (hj:σ.ob kT=some (.ctab P es)):fV σ σ':=⟨b.nx,λk o h p=>b.ob k o h λe=>by
 rw[e,hj]at h;obtain rfl:=jS h;exact ch p⟩
theorem kI (hw:Wv σ W s) (g:∀k kc σ',Wv σ' W s->fV σ σ'->σ'.ob k=some (.clo j cs kc)->σ'.ob kc=some (.code (aT 0).qual)->K (.ref k) σ'):g8 σ j (aT 0).qual 0 920 cs ln col K:=by
 refine bn hw.tb.1 λd h e=>?_;refine yf (bv d h e) λk kc σ' b l f t=>?_;have s:=oy b h;exact g k kc σ' (qZ hw b h ⟨t,by
  refine bn hw.tb.2 λa i m=>?_;exact(bv a (b.ob _ _ i (by decide)) (λp c=>s.ob _ _ (m p c) rfl))⟩) s l f
theorem r6 (hw:Wv σ W s) (g:∀k kc σ',Wv σ' W s->fV σ σ'->σ'.ob k=some (.clo j cs kc)->σ'.ob kc=some (.code (aT 2).qual)->K (.ref k) σ'):g8 σ j (aT 2).qual 1 932 cs ln col K:=by
 refine bn hw.tb.2 λd h e=>?_;refine yf (bv d h e) λk kc σ' b l f t=>?_;have s:=oy b h;exact g k kc σ' (qZ hw b h ⟨by
  refine bn hw.tb.1 λa i m=>?_;exact(bv a (b.ob _ _ i (by decide)) (λp c=>s.ob _ _ (m p c) rfl)),t⟩) s l f
theorem Gl {φ:qc} {args:List SV} (e:gj u7 (10000+j)=φ) (h:φ (Ph n) args σ K KE):Ph (n+1) 0 (10000+j) args σ K KE:=by
 have a:Ph (n+1) 0 (10000+j) args σ K KE=F (Ph n) (10000+j) args σ K KE:=by
  unfold Ph;rfl
 rw[a];unfold F;rw[show Nat.blt (10000+j) 10000=false from by
  cases h:Nat.blt (10000+j) 10000 with
  |false=>rfl
  |true=>rw[YW]at h;omega]
 subst e;exact h
theorem fw {m:AE} {kc:Nat} (e:gj u7 (10000+j)=ny j m) (hk:σ.ob k=some (.clo j cs kc)) (hc:σ.ob kc=some (.code (aT j).qual))
  (q:∀KE:KX,(∀e σ' i,i<9->Xc σ' e "TypeError" (jX i)->K (.str (dU i)) σ'->KE e σ')->m (Ph n) ⟨[],cs,[]⟩ σ K KE):Ph (n+2) 0 918 [.ref k] σ K KE:=by
 refine dh (φ:=mP) rfl rfl ⟨rfl,⟨_,rfl,_,rfl,ao hk (Gl e (ao hk ⟨rfl,ao hc ⟨rfl,q _ ?_⟩⟩))⟩⟩;intro z σ' i f p a;refine jv p λd E h c b=>?_;obtain⟨D,A,t,⟨u,g⟩,⟨v,o,l,w,C,r⟩,x,y,B,s⟩:=b;refine⟨by decide,⟨_,rfl,_,rfl,ao h (ao c ⟨rfl,_,rfl,ao g ⟨rfl,_,rfl,ao r ⟨rfl,_,rfl,?_⟩⟩⟩)⟩⟩;refine⟨⟨bl (by decide+kernel),bl (by decide+kernel)⟩,⟨_,rfl,_,rfl,ao h (ao c ⟨rfl,_,rfl,ao g ⟨rfl,_,rfl,ao s ⟨rfl,_,rfl,⟨bl (by decide+kernel),OO f⟩,?_⟩⟩⟩)⟩⟩;rw[JZ f];exact a
def jy (σ:Sg) (k:Nat) (p:Pl):Prop:=match p with
 |.one i=>σ.ob k=some (.tup [.str "one",.int i,.int 0,.bool false])
 |.two i c=>σ.ob k=some (.tup [.str "two",.int i,.int c,.bool false])
 |.rng x y b=>σ.ob k=some (.tup [.str "range",oI x,oI y,.bool b])
 |.odd j=>σ.ob k=some (.tup [.str "odd",.str (dU j),.int 0,.bool false])
noncomputable def fG (r:Int×Int):List Int:=(List.range r.2.toNat).map λk:Nat=>r.1+k
def gY (σ:Sg) (v:SV) (m:Int) (p:Pl):Prop:=match cG m p with
 |none=>v=.none
 |some r=>∃t l,v=.ref t∧σ.ob t=some (.tup [.int r.1,.ref l])∧σ.ob l=some (.list ((fG r).map .int))
variable {pl hl:Nat} {v2:SV}
theorem dw:(fG ρ).length=ρ.2.toNat:=by
 unfold fG;rw[W0,Yg]
theorem jy.up (h:jy σ k p) (e:fV σ σ'):jy σ' k p:=by
 cases p<;>exact e.ob _ _ h rfl
theorem gY.up (h:gY σ v m p) (e:fV σ σ'):gY σ' v m p:=by
 unfold gY at h ⊢;cases hq:cG m p with
 |none=>rw[hq]at h;exact h
 |some r=>
  rw[hq]at h;obtain⟨t,l,rfl,h,h2⟩:=h;exact(kh t l rfl (e.ob _ _ h rfl) (e.ob _ _ h2 rfl))
theorem Rg.up {x y:SV} (h:Rg σ k x y b) (e:fV σ σ'):Rg σ' k x y b:=by
 refine mY h λi o h=>?_;exact(qU i o (h.up rfl e))
theorem BA.up (hj:j<9) (h:BA σ l j) (e:fV σ σ'):BA σ' l j:=by
 cases h with
 |b h o=>exact .b (e.ob _ _ h rfl) (o.up hj e)
 |c h o=>exact .c (e.ob _ _ h rfl) (o.up hj e)
 |d h r e2 o=>
  subst e2;exact .d (e.ob _ _ h rfl) (r.up e) rfl (o.imp (λo=>o.up hj e) λo=>⟨o.1,o.2.up hj e⟩)
theorem Hd.up (h:Hd σ l p) (e:fV σ σ'):Hd σ' l p:=by
 cases p with
 |one i=>exact e.ob _ _ h rfl
 |two i c=>exact e.ob _ _ h rfl
 |rng x y b=>refine bn h λk h r=>?_;exact(bv k (e.ob _ _ h rfl) (r.up e))
 |odd j=>
  obtain⟨a,⟨x,h,d,o⟩|h⟩:=h
  ·exact⟨a,.inl (ju x (e.ob _ _ h rfl) d (o.up a e))⟩
  ·exact⟨a,.inr (h.up a e)⟩
theorem We {a b c:Option SV} {K:List Nat->Sg->Prop} (q:∀σ' k0 k1 k2,bC σ σ'->σ'.ob k0=some (.cell a)->σ'.ob k1=some (.cell b)->σ'.ob k2=some (.cell c)->K [k0,k1,k2] σ'):Hv [a,b,c] σ K:=
 q _ _ _ _ Kp.refl.new.new.new (ae (ae ac)) (ae ac) ac
theorem gz:aA "one" "odd"=false∧aA "two" "odd"=false∧aA "range" "odd"=false∧aA "one" "two"=false∧aA "range" "two"=false∧aA "two" "one"=false∧aA "range" "one"=false:=by
 simp only[cC];decide+kernel
theorem Ll:(aT 1).qual=(aT 0).qual:=by kernel_rfl
theorem NM:(aT 3).qual=(aT 2).qual:=by kernel_rfl
theorem qN {x y:SV} {d:PyData} {K:Bool->Prop} (hx:zq σ x d) (hy:zq σ y d) (hs:SeqAt.shaped d=true) (q:K true):Wb σ x y K:=⟨d,d,hx,hy,by rw[hs];rfl,by rw[SeqAt.eqv_refl d (SeqAt.canLay_of_shaped hs)];exact q⟩
theorem XaU {a b:Int}:SeqAt.shaped (.tuple [.int a,.int b])=true:=by
 simp[SeqAt.shaped,PyData.canLay0,PyData.canLayAll0,PyData.depth,PyData.depthAll]
theorem XdN:SeqAt.shaped .none=true:=by
 simp[SeqAt.shaped,PyData.canLay0,PyData.depth]
def XaT:AE:=aO (ai .Is (aV 1) aN) aN (aU (aa (ax (aV 1) (aI 0)) (aa (bH aZ (aa (ax (aV 1) (aI 1)) ab)) ab)))
variable {a0:Option SV} {cv:List SV}
theorem zA {A:List (Option SV)} {cel:List Nat} {K:Bool->Sg->Prop} (hm:m≤1000) (hv:zC σ (cG m p) v2) (hdu:gY σ v m p) (q:∀σ',bC σ σ'->K false σ'):XaT Φ ⟨a0::some v::A,cel,cv⟩ σ (λy σ=>iX σ .NotEq v2 y λb=>K b σ) KE:=by
 unfold gY at hdu;cases hq:cG m p with
 |none=>
  rw[hq]at hv hdu;have hv:v2=.none:=hv;subst hv hdu;exact bQ rfl (qN (.val .none rfl) (.val .none rfl) XdN (q _ .refl))
 |some r=>
  rw[hq]at hv hdu;refine bn hv λt a d=>?_;obtain rfl:=a;obtain⟨e,l,rfl,h2,hl⟩:=hdu;have g:=gy hq;have c:((fG r).map SV.int).length=r.2.toNat:=by rw[W0,dw]
  refine bQ rfl (i_ h2 rfl (i_ h2 rfl (ao hl (eQ (by rw[c];lia) (bl rfl) ?_))));rw[c,show((r.2.toNat:Nat):Int)=r.2 by exact Qs g.2.1];exact qN (.tup _ _ _ rfl (ae d) rfl) (.tup _ _ _ rfl ac rfl) XaU (q _ Kp.refl.new)
theorem Vh (hw:Wv σ W s) (hm:m≤1000) (h:Hd σ hl (.two i c)) (hpl:jy σ pl (.two i c)) (hdu:gY σ v m (.two i c)) (q:∀σ' s',Po σ σ' W s s'->K (.bool true) σ'):Ph (n+140) 0 925 [.ref W,.int m,.ref hl,.ref pl,v] σ K KE:=by
 refine dh (φ:=fX 5 [] [some 3,some 4,none,none,none,none,none,none,none,none] [some 2,some 1,some 0] pU) rfl rfl ⟨rfl,We λe H E F b t B u=>?_⟩
 replace hw:=hw.up b
 replace h:=h.up b.to
 replace hpl:=hpl.up b.to
 replace hdu:=hdu.up b.to
 replace q:∀σ' s',Po e σ' W s s'->K (.bool true) σ':=λσ' s' p=>q σ' s' ⟨p.wd,p.ev,b.to.trans p.kp⟩
 refine t_ hpl rfl (c_ rfl t (ao h ⟨bl rfl,?_⟩));refine kI hw λk G w o a z x=>?_;refine fw rfl z x λy Z=>?_;have d:=a.ob _ _ t rfl;have j:=a.ob _ _ B rfl;have f:=a.ob _ _ u rfl;refine c_ rfl f (c_ rfl d (c_ rfl j (pi (a.ob _ _ h rfl) λD A g C=>?_)));show bI (aA "two" "odd") _ _;rw[gz.2.1];refine zA (p:=.two i c) hm C ((hdu.up a).up g.to) λl r=>?_;show bI (aA "two" "two") _ _;rw[aQ];exact q l s ⟨(o.up g).up r,.refl,(a.trans g.to).trans r.to⟩
theorem La {a0 a1 a2 a4 a5 a6 a8 a9:Option SV} {k0 k1 k2:Nat} {K:Bool->Sg->Prop} (c1:σ.ob k1=some (.cell (some (.int m)))) (q:K false σ):aO (cD [ai .Is (aV 3) aN,ai .GtE (aV 3) (aI 0)]) (aV 7) (ap .Sub (aV 7) (aC 1)) Φ ⟨[a0,a1,a2,some (oI x),a4,a5,a6,some (.int (fE x m)),a8,a9],[k0,k1,k2],cv⟩ σ (λu σ=>aO (ai .Is (aV 3) aN) (aI 0) (aV 3) Φ ⟨[a0,a1,a2,some (oI x),a4,a5,a6,some (.int (fE x m)),a8,a9],[k0,k1,k2],cv⟩ σ (λw σ=>iX σ .NotEq u w λv=>K v σ) KE) KE:=by
 cases x with
 |none=>exact bQ rfl (bQ rfl q)
 |some i=>
  refine bQ rfl (bW (λa=>bQ rfl ?_) λa=>c_ rfl c1 (bQ rfl ?_))
  ·show K (!decide (bM i m=i)) σ
   rw[Xx (show bM i m=i from Xh (hO a))];exact q
  ·show K (!decide (bM i m - m=i)) σ
   rw[Xx (show bM i m - m=i by unfold bM;rw[Xn (qO a)];exact DH)];exact q
theorem Ch {a0 a1 a2 a3 a6 a7 a9:Option SV} {k0 k1 k2:Nat} (c1:σ.ob k1=some (.cell (some (.int m)))) (q:K (.bool true) σ):aw (ai .Is (aV 4) aN) (aq (bG .Eq (aV 8) (aC 1))) (ay (.l 9) (aO (aP (aV 5)) (aV 8) (ap .Sub (aV 8) (aI 1))) (aq (bG .Eq (aO (ai .GtE (aV 4) (aI 0)) (aV 9) (ap .Sub (aV 9) (aC 1))) (aV 4)))) Φ ⟨[a0,a1,a2,a3,some (oI y),some (.bool b),a6,a7,some (.int (cg y b m)),a9],[k0,k1,k2],cv⟩ σ (bp K) KE:=by
 cases y with
 |none=>
  refine bQ rfl (c_ rfl c1 ?_);show K (.bool (decide (m=m))) σ;rw[Xx rfl];exact q
 |some j=>
  refine bQ rfl ?_;have a:∀e,e=bM j m->aq (bG .Eq (aO (ai .GtE (aV 4) (aI 0)) (aV 9) (ap .Sub (aV 9) (aC 1))) (aV 4)) Φ ⟨[a0,a1,a2,a3,some (.int j),some (.bool b),a6,a7,some (.int (cg (some j) b m)),some (.int e)],[k0,k1,k2],cv⟩ σ (bp K) KE:=λe d=>by
   subst d;refine bW (λc=>?_) λc=>c_ rfl c1 ?_
   ·show K (.bool (decide (bM j m=j))) σ
    rw[Xx (show bM j m=j from Xh (hO c))];exact q
   ·show K (.bool (decide (bM j m - m=j))) σ
    rw[Xx (show bM j m - m=j by unfold bM;rw[Xn (qO c)];exact DH)];exact q
  cases b with
  |true=>exact a _ (show bM j m+0=bM j m by exact XfE)
  |false=>exact a _ (show bM j m+1 - 1=bM j m by exact DH)
theorem HS (hw:Wv σ W s) (hm:m≤1000) (h:Hd σ hl (.rng x y b)) (hpl:jy σ pl (.rng x y b)) (hdu:gY σ v m (.rng x y b)) (q:∀σ' s',Po σ σ' W s s'->K (.bool true) σ'):Ph (n+140) 0 925 [.ref W,.int m,.ref hl,.ref pl,v] σ K KE:=by
 refine dh (φ:=fX 5 [] [some 3,some 4,none,none,none,none,none,none,none,none] [some 2,some 1,some 0] pU) rfl rfl ⟨rfl,We λw Y U V j z Q I=>?_⟩
 replace hw:=hw.up j
 replace h:=h.up j.to
 replace hpl:=hpl.up j.to
 replace hdu:=hdu.up j.to
 replace q:∀σ' s',Po w σ' W s s'->K (.bool true) σ':=λσ' s' p=>q σ' s' ⟨p.wd,p.ev,j.to.trans p.kp⟩
 refine bn h λk h r=>?_;refine tC r λG D H E=>?_;refine t_ hpl rfl (c_ rfl z (ao h ⟨bl rfl,c_ rfl z (i_ h rfl (uv E rfl ?_))⟩));refine kI hw λS X i B e u M=>?_;refine fw rfl u M λO Z=>?_;have f:=e.ob _ _ z rfl;have d:=e.ob _ _ Q rfl;have g:=e.ob _ _ I rfl;have F:=e.ob _ _ h rfl;have o:=e.ob _ _ E rfl;refine c_ rfl g (c_ rfl f (c_ rfl d (nP F (xI G D H o) λT P C R=>?_)));show bI (aA "range" "odd") _ _;rw[gz.2.2.1];refine zA (p:=.rng x y b) hm R ((hdu.up e).up C.to) λA J=>?_;have a:bC i A:=C.trans J;show bI (aA "range" "two") _ _;rw[gz.2.2.2.2.1];refine c_ rfl (a.ob _ _ g trivial) (c_ rfl (a.ob _ _ f trivial) (i_ (a.ob _ _ F trivial) rfl (c_ rfl (a.ob _ _ d trivial) (ly (xI G D H (a.ob _ _ o trivial)) λt l L N=>t_ N rfl ?_))));have c:bC i l:=a.trans L;refine La (c.ob _ _ d trivial) ?_;refine Ch (c.ob _ _ d trivial) ?_;exact q l s ⟨B.up c,.refl,e.trans c.to⟩
theorem xn (hw:Wv σ W s) (g:∀k kc σ',Wv σ' W s->fV σ σ'->σ'.ob k=some (.clo j cs kc)->σ'.ob kc=some (.code (aT 1).qual)->K (.ref k) σ'):g8 σ j (aT 1).qual 0 920 cs ln col K:=by
 rw[Ll]at g ⊢;exact kI hw g
theorem xd (hw:Wv σ W s) (g:∀k kc σ',Wv σ' W s->fV σ σ'->σ'.ob k=some (.clo j cs kc)->σ'.ob kc=some (.code (aT 3).qual)->K (.ref k) σ'):g8 σ j (aT 3).qual 1 932 cs ln col K:=by
 rw[NM]at g ⊢;exact r6 hw g
theorem RL (hw:Wv σ W s) (h:Hd σ hl (.odd j)) (hpl:jy σ pl (.odd j)) (q:∀σ' s',Po σ σ' W s s'->K (.bool true) σ'):Ph (n+140) 0 925 [.ref W,.int m,.ref hl,.ref pl,.none] σ K KE:=by
 refine dh (φ:=fX 5 [] [some 3,some 4,none,none,none,none,none,none,none,none] [some 2,some 1,some 0] pU) rfl rfl ⟨rfl,We λA k0 X k2 G t S P=>?_⟩
 replace hw:=hw.up G
 replace h:=h.up G.to
 replace hpl:=hpl.up G.to
 replace q:∀σ' s',Po A σ' W s s'->K (.bool true) σ':=λσ' s' p=>q σ' s' ⟨p.wd,p.ev,G.to.trans p.kp⟩
 obtain⟨w,⟨x,h,V,Y⟩|h⟩:=h
 ·exact t_ hpl rfl (c_ rfl t (ao h ⟨bl rfl,c_ rfl t (i_ h rfl (lN w Y (jI V) (q _ s (.refl hw))))⟩))
 have i:∀{I:KV} {D:KX} {Q E:Nat},(∀a C,Po A a W s C->I (.str (dU j)) a)->g8 A 0 (aT 0).qual 0 920 [k0,X,k2] Q E (λv σ=>Ph (n+139) 0 918 [v] σ I D):=λ{I D Q E} g=>
  kI hw λT kc U O l z H=>fw (m:=mL0) rfl z H λL M=>
   c_ rfl (l.ob _ _ P rfl) (c_ rfl (l.ob _ _ t rfl) (c_ rfl (l.ob _ _ S rfl) (ky O w (h.up w l) λe a C p x=>M e a j w x (g a C ⟨p.wd,p.ev,l.trans p.kp⟩))))
 cases h with
 |b h o=>
  refine t_ hpl rfl (c_ rfl t (ao h ⟨bl rfl,i λa C f=>?_⟩));show bI (aA "odd" "odd") _ _;rw[aQ];show bI (aA (dU j) (dU j)) _ _;rw[aQ];exact c_ rfl (f.kp.ob _ _ t rfl) (ao (f.kp.ob _ _ h rfl) ⟨bl rfl,q _ _ f⟩)
 |c h o=>
  refine t_ hpl rfl (c_ rfl t (ao h ⟨bl rfl,i λa C f=>?_⟩));show bI (aA "odd" "odd") _ _;rw[aQ];show bI (aA (dU j) (dU j)) _ _;rw[aQ];exact c_ rfl (f.kp.ob _ _ t rfl) (ao (f.kp.ob _ _ h rfl) ⟨bl rfl,q _ _ f⟩)
 | @d k x y b j' h r l o=>
  refine tC r λir or dr R=>?_;refine t_ hpl rfl (c_ rfl t (ao h ⟨bl rfl,c_ rfl t (i_ h rfl (uv R rfl ?_))⟩));refine i λa C f=>?_;show bI (aA "odd" "odd") _ _;rw[aQ];show bI (aA (dU j) (dU j)) _ _;rw[aQ];refine c_ rfl (f.kp.ob _ _ t rfl) (ao (f.kp.ob _ _ h rfl) ⟨bl rfl,?_⟩);refine xn f.wd λT kc a0 J F z H=>fw (m:=mL1) rfl z H λL M=>?_;have u:=f.kp.trans F;refine c_ rfl (u.ob _ _ P rfl) (c_ rfl (u.ob _ _ t rfl) (i_ (u.ob _ _ h rfl) rfl (c_ rfl (u.ob _ _ S rfl) (jC J (Z12 l w) (xI ir or dr (F.ob _ _ (f.kp.ob _ _ R rfl) rfl)) ((o.imp (λo=>o.up (S8 l w) f.kp) λo=>⟨o.1,o.2.up (S8 l w) f.kp⟩:fF a (j'+1) x∨x=.none∧fF a (j'+1) y).imp (λo=>o.up (S8 l w) F) λo=>⟨o.1,o.2.up (S8 l w) F⟩) λe B s5 N x=>M e B (j'+1) (S8 l w) x ?_))));subst l;show K (.bool (aA (dU (j'+1)) (dU (j'+1)))) B;rw[aQ];exact q B s5 ⟨N.wd,f.ev.trans N.ev,u.trans N.kp⟩
theorem To (hw:Wv σ W s) (h:Hd σ hl (.one i)) (hpl:jy σ pl (.one i)) (q:∀σ' s',Po σ σ' W s s'->K (.bool true) σ'):Ph (n+140) 0 925 [.ref W,.int m,.ref hl,.ref pl,v] σ K KE:=by
 refine dh (φ:=fX 5 [] [some 3,some 4,none,none,none,none,none,none,none,none] [some 2,some 1,some 0] pU) rfl rfl ⟨rfl,We λc d f j a b g e=>?_⟩
 replace h:=h.up a.to
 replace hpl:=hpl.up a.to
 exact t_ hpl rfl (c_ rfl b (ao h ⟨bl rfl,c_ rfl b (i_ h rfl ⟨⟨rfl,rfl⟩,q _ s ⟨hw.up a,.refl,a.to⟩⟩)⟩))
theorem Xea (hw:Wv σ W s) (hm:m≤1000) (h:Hd σ hl p) (hpl:jy σ pl p) (hdu:gY σ v m p) (q:∀σ' s',Po σ σ' W s s'->K (.bool true) σ'):Ph (n+140) 0 925 [.ref W,.int m,.ref hl,.ref pl,v] σ K KE:=by
 cases p with
 |one i=>exact To hw h hpl q
 |two i c=>exact Vh hw hm h hpl hdu q
 |rng x y b=>exact HS hw hm h hpl hdu q
 |odd j=>
  have:v=.none:=hdu;subst this;exact RL hw h hpl q
abbrev Ti:=Nat×Nat×Int
noncomputable def tx (ts:List Ti):List SV:=ts.map λt=>.ref t.1
noncomputable def tc (ts:List Ti):List Nat:=ts.map λt=>t.2.1
noncomputable def tn (ts:List Ti):List Int:=ts.map λt=>t.2.2
def jd (σ:Sg) (n:Int) (ts:List Ti):Prop:=∀t∈ts,t.2.2≤n∧∃o,d9 σ 62 t.1 t.2.2 o false [(6,.str (zs [t.2.1]))]
noncomputable def qw (p:Pl):Bool:=match p with
 |.odd _=>true
 |_=>false
noncomputable def eJ (p:Pl):Bool:=match p with
 |.one _=>true
 |_=>false
noncomputable def y8 (p:Pl):Str:=match p with
 |.one _=>"one"
 |.two _ _=>"two"
 |.rng _ _ _=>"range"
 |.odd _=>"odd"
def f5 (σ:Sg) (n:Int) (xs:List SV) (p:Pl) (v:SV):Prop:=match p with
 |.odd j=>v=.str (dU j)
 |p=>match cG xs.length p with
  |none=>v=.none
  |some r=>match eJ p with
   |true=>xs[r.1.toNat]?=some v
   |false=>AJ σ n v (c9 xs r)
def fD (σ:Sg) (n:Int) (cs:List Nat) (p:Pl) (v:SV):Prop:=match p with
 |.odd j=>v=.str (dU j)
 |p=>match cG cs.length p with
  |none=>v=.none
  |some r=>uY σ n v (zs (c9 cs r))
variable {ts:List Ti}
theorem jd.up {n':Int} (h:jd σ i ts) (e:fV σ σ') (hn:i≤n'):jd σ' n' ts:=λt a=>⟨Xl (h t a).1 hn,(h t a).2.imp λo h=>h.up rfl e⟩
theorem jy.st (h:jy σ k p):∃a b c,σ.ob k=some (.tup [.str (y8 p),a,b,c]):=by
 cases p<;>exact(xI _ _ _ h)
theorem oz (h:qw p=false):aA (y8 p) "odd"=false:=by
 cases p with
 |one i=>exact gz.1
 |two i c=>exact gz.2.1
 |rng x y b=>exact gz.2.2.1
 |odd j=>exact kB h
theorem nS (h:qw p=false):aA (y8 p) "one"=eJ p:=by
 cases p with
 |one i=>exact aQ
 |two i c=>exact gz.2.2.2.2.2.1
 |rng x y b=>exact gz.2.2.2.2.2.2
 |odd j=>exact kB h
variable {β:Type}
theorem pw {g:α->β} {xs:List α}:c9 (xs.map g) ρ=(c9 xs ρ).map g:=by
 unfold c9;rw[←List.map_drop,←List.map_take]
theorem xB {g:α->β} {xs:List α}:gp (xs.map g) ρ=(gp xs ρ).map g:=by
 unfold gp;rw[←List.map_drop,←List.map_take,←Xa]
theorem wj {xs:List α} {q:Nat} (hq:q<ρ.2.toNat):(c9 xs ρ)[q]?=xs[ρ.1.toNat+q]? :=by
 unfold c9;rw[List.getElem?_take,Xn hq,List.getElem?_drop]
theorem ic {b:SV->List SV->Sg->(List SV->Sg->Prop)->Prop} {K:List SV->Sg->Prop} {xs os:List SV} (hl:σ.ob l=some (.list xs)) (ln:os.length=xs.length) (hb:∀(i:Nat) (x o:SV),xs[i]?=some x->os[i]?=some o->∀ys (K':List SV->Sg->Prop),K' (ys++[o]) σ->b x ys σ K') (q:K os σ):bS (.list l xs.length) b K xs.length 0 [] σ:=by
 have d:∀m i,i+m=xs.length->bS (.list l xs.length) b K m i (os.take i) σ:=by
  intro m
  induction m with
  |zero=>
   intro i a;refine⟨ao hl rfl,?_⟩;rw[Yq (by lia)];exact q
  |succ m ih=>
   intro i a;have c:i<xs.length:=by exact HB a
   have e:i<os.length:=by exact Z28 ln a
   refine⟨ao hl rfl,ao hl ⟨_,Xf c,hb i _ _ (Xf c) (Xf e) _ _ ?_⟩⟩;rw[Y7];exact ih (i+1) (vH a)
 exact d xs.length 0 (X9 _)
theorem oj {b:SV->List SV->Sg->(List SV->Sg->Prop)->Prop} {K:List SV->Sg->Prop} {N:Nat} {g:Nat->List SV} (hb:∀i,i<N->∀ys (K':List SV->Sg->Prop),K' (ys++g i) σ->b (.int i) ys σ K') (q:K ((List.range N).flatMap g) σ):bS (.rng N) b K N 0 [] σ:=by
 have c:∀m i,i+m=N->bS (.rng N) b K m i ((List.range i).flatMap g) σ:=by
  intro m
  induction m with
  |zero=>
   intro i a;have:i=N:=by exact Z15 a
   subst this;exact⟨trivial,q⟩
  |succ m ih=>
   intro i a;refine⟨trivial,hb i (HB a) _ _ ?_⟩;have:=ih (i+1) (vH a);rw[YQ,YE,YC,Y4,XO]at this;exact this
 exact c N 0 (X9 _)
theorem BJ:("":Str)=zs []:=by kernel_rfl
theorem C1:Txt.join "" (cs.map λc=>zs [c])=zs cs:=by
 show Builtin.Str.glued "" _=_;rw[StrLaws.glued_eq_join]
 induction cs with
 |nil=>exact BJ
 |cons c cs ih=>
  cases cs with
  |nil=>rfl
  |cons d cs=>
   show zs [c]++""++Str.join "" ((d::cs).map λc=>zs [c])=_;rw[ih,BJ,nF,nF];rfl
theorem nv {C:SV->Sg->Prop} (hl:σ.ob l=some (.list (cs.map λc=>SV.str (zs [c])))) (h:cs.length≤10000) (q:C (.str (zs cs)) σ):dq [.str "",.ref l] σ C:=by
 refine ao hl ⟨cs.map λc=>zs [c],by rw[Yp];rfl,?_,by rw[C1];exact q⟩;have e:((cs.map λc=>zs [c]).map λz:Str=>z.length)=cs.map λZ=>1:=by
  rw[Yp];rfl
 have a:("":Str).length=0:=by rw[BJ];rfl
 have b:(cs.map λZ:Nat=>1).sum=cs.length:=by
  clear hl h q e
  induction cs with
  |nil=>rfl
  |cons c cs ih=>rw[W4,XD,ih];rw[Yc];exact Z67
 show((cs.map λc=>zs [c]).map λz:Str=>z.length).sum+_*("":Str).length≤_;rw[e,a,b];lia
variable {is:List Int}
theorem k8:mz (is.map SV.int)=some (is.map PyData.int):=by
 induction is with
 |nil=>rfl
 |cons i is ih=>
  show((tj (.int i)).bind λd=>(mz (is.map SV.int)).map (d::·))=_;rw[ih];rfl
theorem jH:SeqAt.shaped (.list (is.map PyData.int))=true:=by
 have a:PyData.canLayAll0 (is.map PyData.int)=true:=by
  induction is with
  |nil=>simp[PyData.canLayAll0]
  |cons i is ih=>rw[W4];simp[PyData.canLayAll0,PyData.canLay0];exact ih
 have c:PyData.depthAll (is.map PyData.int)=0:=by
  induction is with
  |nil=>simp[PyData.depthAll]
  |cons i is ih=>
   have b:PyData.canLayAll0 (is.map PyData.int)=true:=by
    rw[W4]at a;simp[PyData.canLayAll0,PyData.canLay0]at a;exact a
   rw[W4];simp[PyData.depthAll,PyData.depth];exact ih b
 simp[SeqAt.shaped,PyData.canLay0,PyData.depth,a,c]
theorem oZ {l2:Nat} {K:Bool->Prop} (h1:σ.ob l=some (.list (is.map .int))) (h2:σ.ob l2=some (.list (is.map .int))) (q:K true):Wb σ (.ref l) (.ref l2) K:=qN (.list _ _ _ rfl h1 k8) (.list _ _ _ rfl h2 k8) jH q
def sS (xs:List α) (is:List Int) (ds:List α):Prop:=is.length=ds.length∧∀(q:Nat) (i:Int),is[q]?=some i->0≤i∧i<1000000∧xs[i.toNat]?=ds[q]?
variable {ds:List Nat} {us:List Ti} {loc:List (Option SV)} {cel:List Nat} {ci k0 k1 ld:Nat} {KC:List SV->Sg->Prop}
theorem sS.map {g:α->β} {xs ds:List α} (h:sS xs is ds):sS (xs.map g) is (ds.map g):=⟨by rw[W0];exact h.1,λq i a=>⟨(h.2 q i a).1,(h.2 q i a).2.1,by rw[Xd,Xd,(h.2 q i a).2.2]⟩⟩
theorem rP {xs:List α} (h:0≤ρ.1∧0≤ρ.2∧ρ.1+ρ.2≤xs.length) (hx:xs.length≤1000):sS xs (fG ρ) (c9 xs ρ):=by
 refine⟨?_,λq i c=>?_⟩
 ·rw[dw];unfold c9;rw[YH,Y2];lia
 ·unfold fG at c
  rw[Xd,W8]at c;obtain⟨u,b,rfl⟩:=c;have a:q<ρ.2.toNat:=by
   have:=(Yx.mp b).1;rw[Yg]at this;exact this
  have:u=q:=by
   rw[Y5 a]at b;exact(W7 b).symm
  subst this;refine⟨by lia,by lia,?_⟩;rw[wj a];congr 1;lia
theorem n6 (hci:cel[ci]?=some k0) (c0:σ.ob k0=some (.cell (some (.str (zs cs))))) (hl:σ.ob l=some (.list (is.map .int))) (hs:sS cs is ds) (q:KC (ds.map λc=>.str (zs [c])) σ):bS (.list l (is.map SV.int).length) (kU (cB (ax (aC ci) aX)) Φ ⟨loc,cel,cv⟩) KC (is.map SV.int).length 0 [] σ:=by
 refine ic hl (by rw[W0,W0];exact hs.1.symm) (λu w o a b k m g=>?_) q;rw[Xd,W8]at a b;obtain⟨i,d,rfl⟩:=a;obtain⟨c,f,rfl⟩:=b;refine vR (hs.2 u i d) λe j h=>?_;refine c_ hci c0 ⟨⟨e,j⟩,c,?_,g⟩;show cs.toArray[i.toNat]?=some c;rw[ZY,h,f]
theorem nh {t:Ti} (h:∃o,d9 σ 62 t.1 t.2.2 o false [(6,.str (zs [t.2.1]))]) {K:SV->Prop} (q:K (.int t.2.2)):Df σ (.ref t.1) 0 K:=by
 refine mY h λo d h=>?_;exact g_ h rfl rfl q
theorem oP (hci:cel[ci]?=some k0) (c0:σ.ob k0=some (.cell (some (.ref li)))) (hli:σ.ob li=some (.list (tx ts))) (its:jd σ i ts) (hl:σ.ob l=some (.list (is.map .int))) (hs:sS ts is us) (hu:∀t∈us,t∈ts) (q:KC ((tn us).map .int) σ):bS (.list l (is.map SV.int).length) (kU (cB (aj (ax (aC ci) aX) 0)) Φ ⟨loc,cel,cv⟩) KC (is.map SV.int).length 0 [] σ:=by
 refine ic hl (by unfold tn;rw[W0,W0,W0];exact hs.1.symm) (λu w o a b k m g=>?_) q;unfold tn at b;rw[Yp,Xd,W8]at b;rw[Xd,W8]at a;obtain⟨i,f,rfl⟩:=a;obtain⟨t,d,rfl⟩:=b;refine vR (hs.2 u i f) λc j h=>?_;have e:(tx ts)[i.toNat]?=some (.ref t.1):=by unfold tx;rw[Xd,h,d];rfl
 refine c_ hci c0 (ao hli ?_);show bI (decide (i<0)) _ _;rw[Xo (hO c)];exact⟨⟨c,j⟩,_,e,nh (its t (hu t (X0 d))).2 g⟩
theorem kQ (hl:σ.ob l=some (.list (tx us))) (its:jd σ i us) (q:KC ((tn us).map .int) σ):bS (.list l (tx us).length) (kU (cB (aj aX 0)) Φ ⟨loc,cel,cv⟩) KC (tx us).length 0 [] σ:=by
 refine ic hl (by unfold tn tx;rw[W0,W0,W0]) (λu w o a c f h g=>?_) q;unfold tn at c;unfold tx at a;rw[Yp,Xd,W8]at c;rw[Xd,W8]at a;obtain⟨t,d,rfl⟩:=c;obtain⟨e,b,rfl⟩:=a;rw[d]at b;cases b;exact nh (its t (X0 d)).2 g
theorem nY {xs:List α} {t:α} (h:t∈c9 xs ρ):t∈xs:=by
 unfold c9 at h;exact List.mem_of_mem_drop (List.mem_of_mem_take h)
theorem jd.sub (h:jd σ i ts) (hu:∀t∈us,t∈ts):jd σ i us:=λt a=>h t (hu t a)
theorem dz:(tx ts).length=ts.length:=W0 ..
theorem cM:(tc ts).length=ts.length:=W0 ..
theorem DG:(tn ts).length=ts.length:=W0 ..
theorem rT {hs:List Int} {w:Int} (h:∀i∈hs,i≤m) (hw:m<w):(hs.any (·==w))=false:=by
 rw[YA];intro i a e;have:=h i a;have:i=w:=by simpa using e
 exact Xcm hw (by assumption) this
variable {pc g:SV}
theorem wh {hs:List Int} (hld:σ.ob ld=some (.list (hs.map .int))) (hpl:jy σ pl (.odd j)) (hg:g=.str (dU j)) (hpc:pc=.str (dU j)) (q:∀σ',bC σ σ'->K (.bool true) σ'):Ph (n+1) 0 930 [g,pc,.ref li,.str z,.ref ld,.ref pl,v] σ K KE:=by
 subst hg hpc;refine dh (φ:=fX 7 [] [some 0,some 1,some 4,some 5,some 6] [some 3,some 2] qv) rfl rfl ⟨rfl,?_⟩;have a:bC σ ((σ.new (.cell (some (.str z)))).new (.cell (some (.ref li)))):=Kp.refl.new.new;have hpl:=hpl.up a.to;refine i_ hpl rfl ?_;refine jV aQ ?_;refine⟨by decide,gI rfl ⟨by decide,gI rfl (i_ hpl rfl ?_)⟩⟩;refine jV aQ ?_;refine i_ hpl rfl ?_;show K (.bool (aA (dU j) (dU j))) _;rw[aQ];exact q _ a
theorem GA {hs:List Int} (ho:qw p=false) (its:jd σ i ts) (hts:ts.length≤1000) (hli:σ.ob li=some (.list (tx ts))) (hld:σ.ob ld=some (.list (hs.map .int))) (hle:∀i∈hs,i≤m) (hpl:jy σ pl p) (hdu:gY σ v ts.length p) (hg:f5 σ m (tx ts) p g) (hpc:fD σ m (tc ts) p pc) (q:∀σ',bC σ σ'->K (.bool true) σ'):Ph (n+1) 0 930 [g,pc,.ref li,.str (zs (tc ts)),.ref ld,.ref pl,v] σ K KE:=by
 refine dh (φ:=fX 7 [] [some 0,some 1,some 4,some 5,some 6] [some 3,some 2] qv) rfl rfl ⟨rfl,?_⟩;have a:bC σ ((σ.new (.cell (some (.str (zs (tc ts)))))).new (.cell (some (.ref li)))):=Kp.refl.new.new;have A:((σ.new (.cell (some (.str (zs (tc ts)))))).new (.cell (some (.ref li)))).ob σ.nx=some (.cell (some (.str (zs (tc ts))))):=ae ac;have x:((σ.new (.cell (some (.str (zs (tc ts)))))).new (.cell (some (.ref li)))).ob (σ.nx+1)=some (.cell (some (.ref li))):=ac;show qv (Ph n) ⟨[some g,some pc,some (.ref ld),some (.ref pl),some v],[σ.nx,σ.nx+1],[]⟩ ((σ.new (.cell (some (.str (zs (tc ts)))))).new (.cell (some (.ref li)))) (bp K) KE;revert a A x;generalize ((σ.new (.cell (some (.str (zs (tc ts)))))).new (.cell (some (.ref li))))=σ1;generalize σ.nx=k0;generalize k0+1=k1;intro a A x;refine tC ((hpl.up a.to).st) λq1 q2 q3 u=>?_;have hdu:=hdu.up a.to;refine i_ u rfl ?_;refine gX (oz ho) ?_;unfold gY at hdu;have hg:(match cG (tx ts).length p with
  |none=>g=.none
  |some r=>match eJ p with
   |true=>(tx ts)[r.1.toNat]?=some g
   |false=>AJ σ m g (c9 (tx ts) r)):=by
  cases p<;>first|exact hg|exact kB ho
 have hpc:(match cG (tc ts).length p with
  |none=>pc=.none
  |some r=>uY σ m pc (zs (c9 (tc ts) r))):=by
  cases p<;>first|exact hpc|exact kB ho
 rw[dz]at hg;rw[cM]at hpc;cases hq:cG ts.length p with
 |none=>
  rw[hq]at hdu hg hpc;have hg:g=.none:=hg;have hpc:pc=.none:=hpc;subst hdu hg hpc;exact bQ rfl (bQ rfl (bQ rfl (q _ a)))
 |some ρ=>
  rw[hq]at hdu hg hpc;refine jv hdu λt l o z w=>?_;obtain rfl:=o;refine lq hpc λV X W y P D j=>?_;obtain rfl:=y;refine gE D λQ I U J N E=>?_;obtain⟨dp,e⟩:=j;have e:=a.ob _ _ e trivial;have h:=gy hq;refine bQ rfl (uv e rfl (g_ e rfl rfl (g_ (a.ob _ _ E trivial) rfl rfl ?_)));show bI (!(aA "String" "String")) _ _;rw[aQ];refine g_ e rfl rfl (g_ e rfl rfl (.li rfl (a.ob _ _ hld trivial) ?_));rw[rT hle P];refine g_ e rfl rfl ⟨trivial,i_ z rfl (ao w ⟨?_,?_⟩)⟩
  ·show((fG ρ).map SV.int).length≤10000
   rw[W0,dw];exact Kx h.2.2 h.1 hts
  have M:sS (tc ts) (fG ρ) (tc (c9 ts ρ)):=(rP h hts:sS ts (fG ρ) (c9 ts ρ)).map;refine n6 (ci:=0) rfl A w M ?_;have L:(tc (c9 ts ρ)).length≤10000:=by
   rw[cM];exact WX hR (Z1 hts)
  dsimp only[ab];refine nv (cs:=tc (c9 ts ρ)) ac L ?_;show bI (!(aA (zs (c9 (tc ts) ρ)) (zs (tc (c9 ts ρ))))) _ _;have S:c9 (tc ts) ρ=tc (c9 ts ρ):=pw;rw[S,aQ];have b:bC σ1 (σ1.new (.list ((tc (c9 ts ρ)).map λc=>SV.str (zs [c])))):=Kp.refl.new;generalize (σ1.new (.list ((tc (c9 ts ρ)).map λc=>SV.str (zs [c]))))=σ2 at b;refine i_ (b.ob _ _ u trivial) rfl ?_;show bI (aA (y8 p) "one") _ _;rw[nS ho];cases h1:eJ p with
  |true=>
   rw[h1]at hg;have hg:(tx ts)[ρ.1.toNat]?=some g:=hg;have k:=hg;unfold tx at k;rw[Xd,W8]at k;refine bn k λt s o=>?_;obtain rfl:=o;refine mY ((((its.up a.to (XS _)).up b.to (XS _)) t (X0 s)).2) λR O H=>?_;refine uv H rfl (g_ H rfl rfl (c_ rfl (b.ob _ _ x trivial) (i_ (b.ob _ _ z trivial) rfl (ao (b.ob _ _ (a.ob _ _ hli trivial) trivial) ?_))));show bI (decide (ρ.1<0)) _ _;rw[Xo (hO h.1)];refine⟨⟨h.1,by lia⟩,_,hg,nh (qU R O H) ?_⟩;show K (.bool (decide (t.2.2=t.2.2))) _;rw[Xx rfl];exact q _ (a.trans b)
  |false=>
   rw[h1]at hg;refine rL hg λY ig og lg F C j B f=>?_;obtain rfl:=F;refine gE j λQ I U J N G=>?_;obtain⟨dg,d⟩:=B;have d:=(a.trans b).ob _ _ d trivial;have f:=(a.trans b).ob _ _ f trivial;refine uv d rfl (g_ d rfl rfl (g_ ((a.trans b).ob _ _ G trivial) rfl rfl ?_));show bI (!(aA "Array" "Array")) _ _;rw[aQ];refine g_ d rfl rfl (g_ d rfl rfl (.li rfl (b.ob _ _ (a.ob _ _ hld trivial) trivial) ?_));rw[rT hle C];have T:c9 (tx ts) ρ=tx (c9 ts ρ):=pw;rw[T]at f;refine g_ d rfl rfl (ao f ⟨?_,?_⟩)
   ·show(tx (c9 ts ρ)).length≤10000
    rw[dz];exact WX hR (Z1 hts)
   refine kQ f (((its.up a.to (XS _)).up b.to (XS _)).sub λt s=>nY s) ?_;refine i_ (ae (b.ob _ _ z trivial)) rfl (ao (ae (b.ob _ _ w trivial)) ⟨?_,?_⟩)
   ·show((fG ρ).map SV.int).length≤10000
    rw[W0,dw];exact Kx h.2.2 h.1 hts
   refine oP (ci:=1) rfl (ae (b.ob _ _ x trivial)) (ae (b.ob _ _ (a.ob _ _ hli trivial) trivial)) (((its.up a.to (XS _)).up b.to (XS _)).up Kp.refl.new (XS _)) (ae (b.ob _ _ w trivial)) (rP h hts:sS ts (fG ρ) (c9 ts ρ)) (λt s=>nY s) ?_;exact oZ (ae ac) ac (q _ ((a.trans b).trans Kp.refl.new.new))
noncomputable def isL (o:SO):Bool:=match o with
 |.list _=>true
 |_=>false
abbrev yz:Sg->Sg->Prop:=Kp λZ o=>fm o=true∧isL o=false
abbrev y5 (b:Bool) (j:Nat):Sg->Sg->Prop:=Kp λk o=>fm o=true∧(b=true->k≠j)
noncomputable def fW (b:Bool) (xs:List α) (p:Pl):List α:=match b with
 |false=>xs
 |true=>match cG xs.length p with
  |none=>xs
  |some r=>gp xs r
variable {rk tk oR oT:Nat}
theorem Kp.mono {P Q:Nat->SO->Prop} (e:Kp P σ σ') (h:∀k o,σ.ob k=some o->Q k o->P k o):Kp Q σ σ':=⟨e.nx,λk o a q=>e.ob k o a (h k o a q)⟩
theorem Mo.upn (m:Mo σ z k) (e:yz σ σ'):Mo σ' z k:=by
 refine gE m λi c a b d h=>?_;exact(iM i c a b d (e.ob _ _ h ⟨rfl,rfl⟩))
theorem fF.upn {x:SV} (hj:j<9) (h:fF σ j x) (e:yz σ σ'):fF σ' j x:=by
 match j,hj,h with
 |0,_,h=>exact h
 |1,_,h=>exact h
 |2,_,h=>exact h
 |3,_,h=>exact h
 |j+4,hj,h=>
  refine rL h λk C f o c d a b m=>?_;refine(uN k C f o c (e.ob _ _ d ⟨?_,rfl⟩) a b (m.upn e));have:(List.range 5).all (λj=> !Nat.beq ([0,0,0,0,82,120,40,62,140].getD (j+4) 0) 834)=true:=by decide+kernel
  have:=WZ.mp this j (XG.mpr (Z4 hj));rw[←a]at this;exact this
theorem Rg.upn {x y:SV} (h:Rg σ k x y b) (e:yz σ σ'):Rg σ' k x y b:=by
 refine tC h λi o d h=>?_;exact(xI i o d (e.ob _ _ h ⟨rfl,rfl⟩))
theorem Hd.upn (h:Hd σ l p) (e:yz σ σ') (el:∀xs,σ.ob l=some (.list xs)->σ'.ob l=some (.list xs)):Hd σ' l p:=by
 cases p with
 |one i=>exact el _ h
 |two i c=>exact el _ h
 |rng x y b=>refine bn h λk h r=>?_;exact(bv k (el _ h) (r.upn e))
 |odd j=>
  obtain⟨a,⟨x,h,f,o⟩|h⟩:=h
  ·exact⟨a,.inl (ju x (el _ h) f (o.upn a e))⟩
  ·refine⟨a,.inr ?_⟩
   cases h with
   |b h o=>exact .b (el _ h) (o.upn a e)
   |c h o=>exact .c (el _ h) (o.upn a e)
   |d h r e2 o=>
    subst e2;exact .d (el _ h) (r.upn e) rfl (o.imp (λo=>o.upn a e) λo=>⟨o.1,o.2.upn a e⟩)
theorem dy (ho:qw p=false) (hq:cG xs.length p=none):f5 σ i xs p .none:=by
 cases p<;>first|(exact kB ho;done)|(unfold f5;dsimp only;rw[hq])
theorem mE {w:Int} {r:Int×Int} (hq:cG xs.length (.one w)=some r) (hv:xs[r.1.toNat]?=some v):f5 σ i xs (.one w) v:=by
 unfold f5;dsimp only;rw[hq];exact hv
theorem gt {r:Int×Int} (h2:HM p=true) (hq:cG xs.length p=some r) (hv:AJ σ i v (c9 xs r)):f5 σ i xs p v:=by
 cases p<;>first|(exact ch h2;done)|(unfold f5;dsimp only;rw[hq];exact hv)
theorem jE (ho:qw p=false) (hq:cG cs.length p=none):fD σ i cs p .none:=by
 cases p<;>first|(exact kB ho;done)|(unfold fD;dsimp only;rw[hq])
theorem jw {r:Int×Int} (ho:qw p=false) (hq:cG cs.length p=some r) (hv:uY σ i v (zs (c9 cs r))):fD σ i cs p v:=by
 cases p<;>first|(exact kB ho;done)|(unfold fD;dsimp only;rw[hq];exact hv)
theorem dX {xs:List α} (hq:cG xs.length p=none):fW b xs p=xs:=by
 unfold fW;cases b
 ·rfl
 ·dsimp only;rw[hq]
theorem gs {xs:List α} {r:Int×Int} (hq:cG xs.length p=some r):fW true xs p=gp xs r:=by
 unfold fW;dsimp only;rw[hq]
theorem Kp.str (e:fV σ σ'):y5 b j σ σ':=e.mono λZ Z Z h=>h.1
theorem U9 (hw:Wv σ W s) (hs:d9 σ 82 rk i oR fz [(7,.ref li)]) (hl':σ.ob li=some (.list xs)) (hx:xs.length≤1000) (h:Hd σ hl p) (hb:b=true->fz=false)
  (q:∀v σ' s',Wv σ' W s'->Wn s s'->y5 b li σ σ'->σ'.ob li=some (.list (fW b xs p))->f5 σ' s.n xs p v->K v σ')
  (qe:∀e σ' s' j,p=.odd j->Po σ σ' W s s'->Xc σ' e "TypeError" (jX j)->KE e σ'):Ph (n+134) 0 (cond b 461 454) [.ref W,.ref rk,.ref hl] σ K KE:=by
 cases p with
 |odd j=>
  cases b with
  |false=>exact Pg hw hs hl' hx h λe σ' s' p x=>qe e σ' s' j rfl p x
  |true=>
   have:=hb rfl;subst this;exact C3 hw hs hl' hx h λe σ' s' p x=>qe e σ' s' j rfl p x
 |one w=>
  cases b with
  |false=>
   refine Nd hs hl' hx h λv l f=>q v σ s hw .refl .refl hl' ?_;cases a:cG xs.length (.one w)with
   |none=>rw[f a];exact dy rfl a
   |some r=>exact mE a (l r a)
  |true=>
   have:=hb rfl;subst this;exact GE hs hl' hx h (λa=>q _ σ s hw .refl .refl (by rw[dX a];exact hl') (dy rfl a)) λv r σ' a d e f=>q _ σ' s (iK hw e hl' rfl) .refl (e.mono λZ Z Z h=>h.2 rfl) (by rw[gs a];exact f) (mE a d)
 |two w c=>
  cases b with
  |false=>exact zu hw hs hl' hx h rfl (λσ' e a=>q _ σ' s (hw.up e) .refl e.to (e.ob _ _ hl' trivial) (dy rfl a)) λv σ' s' r a p d=>q _ σ' s' p.wd p.ev p.kp.str (p.kp.ob _ _ hl' rfl) (gt rfl a d)
  |true=>
   have:=hb rfl;subst this;exact qE hw hs hl' hx h rfl (λσ' e a=>q _ σ' s (hw.up e) .refl e.to (by rw[dX a];exact e.ob _ _ hl' trivial) (dy rfl a)) λv σ' s' r a g k e f d=>q _ σ' s' g k (e.mono λZ Z Z h=>⟨h.1,h.2 rfl⟩) (by rw[gs a];exact f) (gt rfl a d)
 |rng x y c=>
  cases b with
  |false=>exact zu hw hs hl' hx h rfl (λσ' e a=>q _ σ' s (hw.up e) .refl e.to (e.ob _ _ hl' trivial) (dy rfl a)) λv σ' s' r a p d=>q _ σ' s' p.wd p.ev p.kp.str (p.kp.ob _ _ hl' rfl) (gt rfl a d)
  |true=>
   have:=hb rfl;subst this;exact qE hw hs hl' hx h rfl (λσ' e a=>q _ σ' s (hw.up e) .refl e.to (by rw[dX a];exact e.ob _ _ hl' trivial) (dy rfl a)) λv σ' s' r a g k e f d=>q _ σ' s' g k (e.mono λZ Z Z h=>⟨h.1,h.2 rfl⟩) (by rw[gs a];exact f) (gt rfl a d)
theorem U8 (hw:Wv σ W s) (hs:d9 σ 62 tk i oT fz [(6,.str (zs cs))]) (hx:cs.length≤1000) (h:Hd σ hl p) (hb:b=true->fz=false)
  (q:∀v σ' s',Wv σ' W s'->Wn s s'->y5 b tk σ σ'->d9 σ' 62 tk i oT fz [(6,.str (zs (fW b cs p)))]->fD σ' s.n cs p v->K v σ')
  (qe:∀e σ' s' j,p=.odd j->Po σ σ' W s s'->Xc σ' e "TypeError" (jX j)->KE e σ'):Ph (n+134) 0 (cond b 517 510) [.ref W,.ref tk,.ref hl] σ K KE:=by
 cases ho:qw p with
 |true=>
  cases p with
  |odd j=>
   cases b with
   |false=>exact wx hw hs hx h λe σ' s' p x=>qe e σ' s' j rfl p x
   |true=>
    have:=hb rfl;subst this;exact xi hw hs hx h λe σ' s' p x=>qe e σ' s' j rfl p x
  |one w=>exact ch ho
  |two w c=>exact ch ho
  |rng x y c=>exact ch ho
 |false=>
  have f:∀j,p≠ .odd j:=λj e=>by rw[e]at ho;exact kB ho
  cases b with
  |false=>exact AA hw hs hx h f (λσ' e a=>q _ σ' s (hw.up e) .refl e.to (hs.up rfl e.to) (jE ho a)) λv σ' s' r a p d=>q _ σ' s' p.wd p.ev p.kp.str (hs.up rfl p.kp) (jw ho a d)
  |true=>
   have:=hb rfl;subst this;exact El hw hs hx h f (λσ' e a=>q _ σ' s (hw.up e) .refl e.to (by rw[dX a];exact hs.up rfl e.to) (jE ho a)) λv σ' s' r a g k e l d=>q _ σ' s' g k (e.mono λZ Z Z h=>⟨h.1,h.2 rfl⟩) (by rw[gs a];exact l) (jw ho a d)
noncomputable abbrev fJ (b:Bool):List SV:=[.glob (cond b 461 454),.glob (cond b 517 510)]
theorem Cz {k4 k6 k7 lr ln col:Nat} (hw:Wv σ W s) (hs:d9 σ 82 rk i oR fz [(7,.ref li)]) (hl':σ.ob li=some (.list xs)) (hx:xs.length≤1000) (h:Hd σ hl p) (hb:b=true->fz=false)
  (c4:σ.ob k4=some (.cell (some (.ref hl)))) (c6:σ.ob k6=some (.cell (some (.ref rk)))) (c0:σ.ob k0=some (.cell (some (.ref lr)))) (c7:σ.ob k7=some (.cell (some (.ref W)))) (hr:σ.ob lr=some (.list (fJ b)))
  (q:∀v σ' s',Wv σ' W s'->Wn s s'->y5 b li σ σ'->σ'.ob li=some (.list (fW b xs p))->f5 σ' s.n xs p v->K v σ'):g8 σ 2 (aT 2).qual 1 932 [k4,k6,k0,k7] ln col (λv σ=>Ph (n+137) 0 918 [v] σ K KE):=by
 refine r6 hw λy z l f a d m=>fw rfl d m λr t=>?_;refine c_ rfl (a.ob _ _ c0 rfl) (i_ (a.ob _ _ hr rfl) rfl ⟨by cases b<;>rfl,c_ rfl (a.ob _ _ c7 rfl) (c_ rfl (a.ob _ _ c6 rfl) (c_ rfl (a.ob _ _ c4 rfl) ?_))⟩);refine U9 f (hs.up rfl a) (a.ob _ _ hl' rfl) hx (h.up a) hb (λv σ' s' u o e w k=>q v σ' s' u o (a.str.trans e) w k) λe σ' s' j g c x=>?_;subst g;refine t e σ' j h.1 x (q _ σ' s' c.wd c.ev (a.trans c.kp).str ?_ rfl);rw[dX rfl];exact c.kp.ob _ _ (a.ob _ _ hl' rfl) rfl
theorem FS {k4 k5 k7 lr ln col:Nat} (hw:Wv σ W s) (hs:d9 σ 62 tk i oT fz [(6,.str (zs cs))]) (hx:cs.length≤1000) (h:Hd σ hl p) (hb:b=true->fz=false)
  (c4:σ.ob k4=some (.cell (some (.ref hl)))) (c5:σ.ob k5=some (.cell (some (.ref tk)))) (c0:σ.ob k0=some (.cell (some (.ref lr)))) (c7:σ.ob k7=some (.cell (some (.ref W)))) (hr:σ.ob lr=some (.list (fJ b)))
  (q:∀v σ' s',Wv σ' W s'->Wn s s'->y5 b tk σ σ'->d9 σ' 62 tk i oT fz [(6,.str (zs (fW b cs p)))]->fD σ' s.n cs p v->K v σ'):g8 σ 3 (aT 3).qual 1 932 [k4,k0,k5,k7] ln col (λv σ=>Ph (n+137) 0 918 [v] σ K KE):=by
 refine xd hw λy z l f a d m=>fw rfl d m λr t=>?_;refine c_ rfl (a.ob _ _ c0 rfl) (i_ (a.ob _ _ hr rfl) rfl ⟨by cases b<;>rfl,c_ rfl (a.ob _ _ c7 rfl) (c_ rfl (a.ob _ _ c5 rfl) (c_ rfl (a.ob _ _ c4 rfl) ?_))⟩);refine U8 f (hs.up rfl a) hx (h.up a) hb (λv σ' s' u o e w k=>q v σ' s' u o (a.str.trans e) w k) λe σ' s' j g c x=>?_;subst g;refine t e σ' j h.1 x (q _ σ' s' c.wd c.ev (a.trans c.kp).str ?_ rfl);rw[dX rfl];exact hs.up rfl (a.trans c.kp)
noncomputable def uB (b:Bool) (m:Int) (p:Pl):List Int:=match b with
 |false=>[]
 |true=>match cG m p with
  |none=>[]
  |some r=>fG r
noncomputable def pq (m:Nat) (gn:List Int):List Int:=((List.range m).filter λk:Nat=> !(gn.any (·==(k:Int)))).map Int.ofNat
theorem uc {a b:Nat} (g:a<b) (h:b≤1000):a<1000000:=Xi g (WX h (Xv rfl))
variable {A B:Nat}
theorem A8:(fG ((A:Int),(B:Int))).any (·==(k:Int))=decide (A≤k∧k<A+B):=by
 cases e:decide (A≤k∧k<A+B)with
 |true=>
  exact Yt.mpr (bv _ (Xb.mpr (bv (k - A) (XG.mpr (Nat.lt_of_add_lt_add_left (Y9 (Yd (Zh (W5 e).1:A+(k - A)=k)) (W5 e).2))) rfl)) (Xu.mpr (Yi Int.ofNat (Zh (W5 e).1:A+(k - A)=k))))
 |false=>
  refine YA.mpr λi a c=>of_decide_eq_false e ?_;refine bn (Xb.mp a) λu b d=>?_;exact(Int.ofNat.inj (d.trans (XJ c)):A+u=k)▸⟨X4 ..,Nat.add_lt_add_left (XG.mp b) _⟩
theorem tQ:List.range' 0 A++List.range' A B=List.range' 0 (A+B):=by
 have h:=List.range'_append_1 (s:=0) (m:=A) (n:=B);rw[X9]at h;exact h
theorem Bl {m A B:Nat} (h:A+B≤m):(List.range m).filter (λk:Nat=> !((fG ((A:Int),(B:Int))).any (·==(k:Int))))=List.range A++List.range' (A+B) (m - (A+B)):=by
 have e:List.range m=(List.range' 0 A++List.range' A B)++List.range' (A+B) (m - (A+B)):=by
  rw[tQ,tQ,Zh h,List.range_eq_range']
 have b:(List.range' 0 A).filter (λk=> !decide (A≤k∧k<A+B))=List.range' 0 A:=ZA.mpr λk a=>
  Yi not (Xo λz=>Nat.not_le.mpr (X9 A▸(ZI.mp a).2) z.1)
 have c:(List.range' A B).filter (λk=> !decide (A≤k∧k<A+B))=[]:=List.filter_eq_nil_iff.mpr λk a z=>
  XE ((Yi not (Xx (ZI.mp a))).symm.trans z)
 have d:(List.range' (A+B) (m - (A+B))).filter (λk=> !decide (A≤k∧k<A+B))=List.range' (A+B) (m - (A+B)):=ZA.mpr λk a=>
  Yi not (Xo λz=>Nat.not_le.mpr z.2 (ZI.mp a).1)
 rw[(funext λk=>Yi not A8:(λk:Nat=> !((fG ((A:Int),(B:Int))).any (·==(k:Int))))=λk=> !decide (A≤k∧k<A+B)),e,List.filter_append,List.filter_append,b,c,d,XO,List.range_eq_range']
theorem M2 {xs:List α} {A B q:Nat} (hx:xs.length≤1000) (g:A+B≤xs.length) (hq:((List.range A++List.range' (A+B) (xs.length - (A+B))).map Int.ofNat)[q]?=some i):0≤i∧i<1000000∧xs[i.toNat]?=(xs.take A++xs.drop (A+B))[q]? :=by
 rw[Xd,W8]at hq;refine bn hq λu a e=>?_;subst e;refine eQ (Yl u) ?_ ?_
 ·rw[Zv,Yg]at a
  by_cases hc:q<A
  ·rw[Xn hc,Y5 hc]at a
   exact jS a▸YY.mpr (uc (Xi hc (WX (X4 A B) g)) hx)
  ·rw[Xh hc]at a
   refine bn (List.mem_range'.mp (X0 a)) λk c e=>?_;refine YY.mpr (uc ?_ hx);rw[e,Nat.one_mul];exact Xi (Nat.add_lt_add_left c _) (Yd (Zh g))
 ·show xs[u]?=_
  rw[Zv,Yg]at a;rw[Zv,YH,Nat.min_eq_left (WX (X4 A B) g)];by_cases hc:q<A
  ·rw[Xn hc,Y5 hc]at a
   rw[Xn hc,List.getElem?_take,Xn hc,jS a]
  ·rw[Xh hc]at a
   rw[Xh hc,List.getElem?_drop];obtain⟨d,b⟩:=Yx.mp a;rw[List.getElem_range',Nat.one_mul]at b;rw[b]
theorem kq {xs:List α} (hx:xs.length≤1000):sS xs (pq xs.length (uB b xs.length p)) (fW b xs p):=by
 have a:sS xs (pq xs.length []) xs:=by
  unfold pq;have e:(List.range xs.length).filter (λk:Nat=> !(([]:List Int).any (·==(k:Int))))=List.range xs.length:=ZA.mpr λk j=>rfl;rw[e];refine⟨by rw[W0,Yg],λq i c=>?_⟩;rw[Xd,W8]at c;refine bn c λu h e=>?_;subst e;obtain⟨f,d⟩:=Yx.mp h;rw[List.getElem_range]at d;rw[Yg]at f;subst d;exact eQ (Yl _) (YY.mpr (uc f hx)) rfl
 cases b with
 |false=>exact a
 |true=>
  delta uB fW;dsimp only;cases c:cG xs.length p with
  |none=>exact a
  |some ρ=>
   have g:=gy c;clear c a;obtain⟨x,y⟩:=ρ;obtain⟨A,rfl⟩:=XM g.1;obtain⟨B,rfl⟩:=XM g.2.1;have g:A+B≤xs.length:=YK.mp g.2.2;dsimp only;unfold pq;rw[Bl g];refine⟨?_,λq i c=>M2 hx g c⟩;show _=(xs.take A++xs.drop (A+B)).length;rw[W0,Yb,Yb,Yg,List.length_range',YH,Y2,Nat.min_eq_left (WX (X4 A B) g)]
theorem oh {g:α->β} {xs:List α}:fW b (xs.map g) p=(fW b xs p).map g:=by
 unfold fW;cases b with
 |false=>rfl
 |true=>
  dsimp only;rw[W0];cases hq:cG xs.length p with
  |none=>rfl
  |some r=>exact xB
theorem n9 {xs:List α} {t:α} (h:t∈fW b xs p):t∈xs:=by
 unfold fW at h;cases b with
 |false=>exact h
 |true=>
  dsimp only at h;cases hq:cG xs.length p with
  |none=>rw[hq]at h;exact h
  |some r=>
   rw[hq]at h;rcases W6.mp h with h|h
   ·exact List.mem_of_mem_take h
   ·exact List.mem_of_mem_drop h
theorem oM {m:Nat}:(pq m is).length≤m:=by
 unfold pq;rw[W0];exact WX (List.length_filter_le _ _) (by rw[Yg];exact Xy _)
theorem D6 {m:Nat}:(List.range m).flatMap (λk:Nat=>cond (is.any (·==(k:Int))) [] [SV.int k])=(pq m is).map SV.int:=by
 unfold pq;generalize List.range m=l
 induction l with
 |nil=>rfl
 |cons k l ih=>
  rw[YC,Y0,ih];cases h:is.any (·==(k:Int))<;>rfl
variable {N:Nat}
theorem FD (hci:cel[1]?=some k1) (c1:σ.ob k1=some (.cell (some (.ref l)))) (hl:σ.ob l=some (.list (is.map .int))) (q:KC ((pq N is).map .int) σ):bS (.rng N) (kU (pZ (ai .NotIn aX (aC 1)) aX) Φ ⟨loc,cel,cv⟩) KC N 0 [] σ:=by
 refine oj (g:=λk:Nat=>cond (is.any (·==(k:Int))) [] [SV.int k]) (λi c a b g=>?_) (by rw[D6];exact q);refine c_ hci c1 (.li rfl hl ?_);cases h:is.any (·==(i:Int))with
 |true=>
  rw[h]at g;have g:b (a++[]) σ:=g;rw[XO]at g;exact g
 |false=>rw[h]at g;exact g
noncomputable def ko (o:SO):Nat:=match o with
 |.inst C _=>C+5
 |.list _=>1
 |.tup _=>2
 |.cell _=>3
 |_=>0
abbrev HF (b:Bool) (li tk:Nat):Sg->Sg->Prop:=Kp λk o=>fm o=true∧(b=true->k≠li∧k≠tk)
def oB (J:Nat->Prop) (σ:Sg) (v:SV) (m:Int) (p:Pl):Prop:=match cG m p with
 |none=>v=.none
 |some r=>∃t l,v=.ref t∧σ.ob t=some (.tup [.int r.1,.ref l])∧σ.ob l=some (.list ((fG r).map .int))∧J l
end
structure Cu (σ:Sg) (b:Bool) (ts:List Ti) (p:Pl) (n:Int) (N lc ld lr hl pl li tk rk W:Nat) (v:SV):Prop where
 c0:σ.ob N=some (.cell (some (.ref lr)))
 hlr:σ.ob lr=some (.list (fJ b))
 c1:∃o,σ.ob (N+1)=some (.cell o)
 c2:σ.ob (N+2)=some (.cell (some (.str (zs (tc ts)))))
 c3:σ.ob (N+3)=some (.cell (some (.ref lc)))
 hlc:σ.ob lc=some (.list (tx ts))
 c4:σ.ob (N+4)=some (.cell (some (.ref hl)))
 c5:σ.ob (N+5)=some (.cell (some (.ref tk)))
 c6:σ.ob (N+6)=some (.cell (some (.ref rk)))
 c7:σ.ob (N+7)=some (.cell (some (.ref W)))
 its:jd σ n ts
 hld:∃hs:List Int,σ.ob ld=some (.list (hs.map .int))∧∀i∈hs,i≤n
 hpl:jy σ pl p
 du:oB (λl=>b=true->l≠li) σ v ts.length p
 ne:b=true->lr≠li∧lc≠li∧ld≠li∧∀t∈ts,t.1≠tk
section
variable {σ σ' σ1 σ0:Sg} {W:Nat} {s s' s1:Ws} {n C:Nat} {K:KV} {KE:KX} {z msg:Str} {k o l a li ow kT P j pl hl rk tk oR oT N lc lr ld:Nat} {i f c m ir it:Int} {fz b:Bool} {x y:Option Int} {xs:List SV} {r:List (Nat×SV)} {p:Pl} {v v2:SV} {cs ds:List Nat} {ρ:Int×Int} {ts us:List Ti} {is:List Int} {Φ:Nat->eO} {loc:List (Option SV)} {cel:List Nat} {cv:List SV} {ci k0 k1:Nat} {KC:List SV->Sg->Prop}
theorem bE {o o':SO} (h:σ.ob k=some o) (hj:σ.ob j=some o') (ne:Nat.beq (ko o) (ko o')=false):k≠j:=λa=>by
 rw[a,hj]at h;obtain rfl:=jS h;rw[ZR]at ne;exact kB ne
theorem y5.kp {o o':SO} (e:y5 b j σ σ') (hj:σ.ob j=some o') (h:σ.ob k=some o) (st:fm o=true) (ne:Nat.beq (ko o) (ko o')=false):σ'.ob k=some o:=e.ob k o h ⟨st,λZ=>bE h hj ne⟩
theorem HF.kp {o o1 o2:SO} (e:HF b li tk σ σ') (h1:σ.ob li=some o1) (h2:σ.ob tk=some o2) (h:σ.ob k=some o) (st:fm o=true) (ne1:Nat.beq (ko o) (ko o1)=false) (ne2:Nat.beq (ko o) (ko o2)=false):σ'.ob k=some o:=e.ob k o h ⟨st,λZ=>⟨bE h h1 ne1,bE h h2 ne2⟩⟩
variable {J:Nat->Prop}
theorem oB.du (h:oB J σ v m p):gY σ v m p:=by
 unfold oB at h;unfold gY;cases hq:cG m p with
 |none=>rw[hq]at h;exact h
 |some r=>
  rw[hq]at h;refine ux h λt l c b a d=>?_;exact(kh t l c b a)
theorem gY.dx (h:gY σ v m p) (hJ:∀l,l<σ.nx->J l):oB J σ v m p:=by
 unfold gY at h;unfold oB;cases hq:cG m p with
 |none=>rw[hq]at h;exact h
 |some r=>
  rw[hq]at h;refine jv h λt l c b a=>?_;exact(yv t l c b a (hJ l (σ.wf _ _ a)))
theorem oB.up (h:oB J σ v m p) (e:fV σ σ'):oB J σ' v m p:=by
 unfold oB at h ⊢;cases hq:cG m p with
 |none=>rw[hq]at h;exact h
 |some r=>
  rw[hq]at h;refine ux h λt l d c b a=>?_;exact(yv t l d (e.ob _ _ c rfl) (e.ob _ _ b rfl) a)
variable {F:List (Nat×SV)}
theorem Cu.up {is:List SV} (h:Cu σ b ts p i N lc ld lr hl pl li tk rk W v) (e:HF b li tk σ σ') (h1:σ.ob li=some (.list is)) (h2:σ.ob tk=some (.inst 62 F)):Cu σ' b ts p i N lc ld lr hl pl li tk rk W v:=by
 obtain⟨H,x,⟨P,O⟩,B,D,n,C,J,L,G,f,⟨M,w,y⟩,u,j,c⟩:=h;have a:∀{k o},σ.ob k=some (.cell o)->σ'.ob k=some (.cell o):=λh=>e.kp h1 h2 h rfl rfl rfl;have m:∀{k xs},σ.ob k=some (.list xs)->(b=true->k≠li)->σ'.ob k=some (.list xs):=λh g=>e.ob _ _ h ⟨rfl,λq=>⟨g q,bE h h2 rfl⟩⟩;have z:∀{k xs},σ.ob k=some (.tup xs)->σ'.ob k=some (.tup xs):=λh=>e.kp h1 h2 h rfl rfl rfl;refine⟨a H,m x λq=>(c q).1,⟨_,a O⟩,a B,a D,m n λq=>(c q).2.1,a C,a J,a L,a G,λt s=>⟨(f t s).1,?_⟩,bv M (m w λq=>(c q).2.2.1) y,?_,?_,c⟩
 ·refine mY ((f t s).2) λo d h=>?_
  exact(qU o d (e.ob _ _ h ⟨rfl,λq=>⟨bE h h1 rfl,(c q).2.2.2 t s⟩⟩))
 ·cases p<;>exact z u
 ·dsimp only[oB]at j ⊢
  cases hq:cG ts.length p with
  |none=>rw[hq]at j;exact j
  |some r=>
   rw[hq]at j;refine ux j λt l E K I A=>?_;exact(yv t l E (z K) (m I A) A)
theorem Cu.ext (h:Cu σ b ts p i N lc ld lr hl pl li tk rk W v) (e:bC σ σ'):Cu σ' b ts p i N lc ld lr hl pl li tk rk W v:=by
 obtain⟨s,j,⟨A,y⟩,m,q,a,n,t,w,r,f,⟨x,d,l⟩,c,z,u⟩:=h;have g:∀{k o},σ.ob k=some o->σ'.ob k=some o:=λh=>e.ob _ _ h trivial;exact⟨g s,g j,⟨_,g y⟩,g m,g q,g a,g n,g t,g w,g r,f.up e.to (XS _),bv x (g d) l,c.up e.to,z.up e.to,u⟩
theorem pp (h:f5 σ i xs p v) (e:y5 b tk σ σ') (h2:σ.ob tk=some (.inst 62 F)):f5 σ' i xs p v:=by
 have s:∀{ys},AJ σ i v ys->AJ σ' i v ys:=λz=>by
  refine rL z λk j o l x r a c w=>?_;obtain⟨q,f,u,g,n,m⟩:=a;obtain⟨d,t⟩:=c;exact(uN k j o l x r (iM q f u g n (e.kp h2 m rfl rfl)) ⟨d,e.kp h2 t rfl rfl⟩ (e.kp h2 w rfl rfl))
 unfold f5 at h ⊢;cases p<;>dsimp only at h ⊢<;>first|exact h|skip
 all_goals
  revert h;split
  ·exact id
  ·intro h
   first|exact h|exact s h
theorem fD.ge {i':Int} (h:fD σ i' cs p v) (hi:i≤i'):fD σ i cs p v:=by
 have c:∀{z},uY σ i' v z->uY σ i v z:=λ⟨k,b,o,d,a,h⟩=>(nG k b o d (Yk hi a) h);unfold fD at h ⊢;cases p<;>dsimp only at h ⊢<;>first|exact h|skip
 all_goals
  revert h;split
  ·exact id
  ·intro h
   exact c h
theorem Cu.told {g pc:SV} (h:Cu σ b ts p i N lc ld lr hl pl li tk rk W v) (hts:ts.length≤1000) (hg:f5 σ i (tx ts) p g) (hpc:fD σ i (tc ts) p pc) (q:∀σ',bC σ σ'->K (.bool true) σ'):Ph (n+1) 0 930 [g,pc,.ref lc,.str (zs (tc ts)),.ref ld,.ref pl,v] σ K KE:=by
 refine bn h.hld λe a d=>?_;cases ho:qw p with
 |false=>exact GA ho h.its hts h.hlc a d h.hpl h.du.du hg hpc q
 |true=>
  cases p with
  |odd j=>exact wh a h.hpl hg hpc q
  |one w=>exact ch ho
  |two w c=>exact ch ho
  |rng x y c=>exact ch ho
def yW:AS:=ay (.c 1) (aO (bO [aP (aV 2),ai .IsNot (aV 1) aN]) (ax (aV 1) (aI 1)) (bK ab)) (mA (Tg.put (.l 6)) (bH bD (aa (bH aZ (aa (aC 2) ab)) ab)) (pZ (ai .NotIn aX (aC 1)) aX) (aw (ai .NotEq (bP (aj (aC 6) 7) (cB (aj aX 0))) (bP (aV 6) (cB (aj (ax (aC 3) aX) 0)))) (aq (aB false)) (aq (bG .Eq (aj (aC 5) 6) (kY gR dq (aS "") (aa (bP (aV 6) (cB (ax (aC 2) aX))) ab))))))
def M7:AS:=cT [.l 4,.l 5] (aU (aa (ag 918 (aa (lP 2 (aT 2).qual 1 932 [4,6,0,7] 750 0) ab)) (aa (ag 918 (aa (lP 3 (aT 3).qual 1 932 [4,0,5,7] 751 0) ab)) ab))) (aw (cF (aP (ag 930 (aa (aV 4) (aa (aV 5) (aa (aC 3) (aa (aC 2) (aa (aV 3) (aa (aV 0) (aa (aV 1) ab)))))))))) (aq (aB false)) yW)
variable {g pc:SV}
theorem rQ (h:fD σ i cs p v) (e:bC σ σ'):fD σ' i cs p v:=by
 have d:∀{z},uY σ i v z->uY σ' i v z:=λ⟨k,b,o,f,a,c,h⟩=>(hH k b o f a (c.up e.to) (h.up rfl e.to));unfold fD at h ⊢;cases p<;>dsimp only at h ⊢<;>first|exact h|skip
 all_goals
  revert h;split
  ·exact id
  ·intro h
   exact d h
theorem FN:fW b (tc ts) p=tc (fW b ts p):=oh
theorem BN:fW b (tx ts) p=tx (fW b ts p):=oh
theorem Gz (h:Cu σ b ts p i N lc ld lr hl pl li tk rk W v) (hr:d9 σ 82 rk ir oR fz [(7,.ref li)]) (hli:σ.ob li=some (.list (tx (fW b ts p)))) (ht:d9 σ 62 tk it oT fz [(6,.str (zs (tc (fW b ts p))))]) (hts:ts.length≤1000)
  (q:∀σ',dB (N+1) σ σ'->K (.bool true) σ'):yW Φ ⟨[some (.ref pl),some v,some (.bool b),some (.ref ld),some g,some pc,none],[N,N+1,N+2,N+3,N+4,N+5,N+6,N+7],[]⟩ σ (bp K) KE:=by
 have x:=h.du.du;obtain⟨O,hr⟩:=hr;obtain⟨L,ht⟩:=ht;obtain⟨M,k⟩:=h.c1;have s:∀{A:List (Option SV)} {C:SV->Sg->Prop},(∀j σ',bC σ σ'->σ'.ob j=some (.list ((uB b ts.length p).map .int))->C (.ref j) σ')->aO (bO [aP (aV 2),ai .IsNot (aV 1) aN]) (ax (aV 1) (aI 1)) (bK ab) Φ ⟨some (.ref pl)::some v::some (.bool b)::A,[N,N+1,N+2,N+3,N+4,N+5,N+6,N+7],[]⟩ σ C KE:=λ{A C} q=>by
  unfold gY at x;unfold uB at q;cases b with
  |false=>exact⟨bl rfl,q _ _ Kp.refl.new ac⟩
  |true=>
   dsimp only at q;cases hq:cG ts.length p with
   |none=>
    rw[hq]at x q;subst x;exact bQ rfl ⟨bl rfl,q _ _ Kp.refl.new ac⟩
   |some r=>
    rw[hq]at x q;refine jv x λt l D y I=>?_;obtain rfl:=D;exact bQ rfl (i_ y rfl (q l σ .refl I))
 refine s λj f B E=>⟨_,rfl,ao (B.ob _ _ k trivial) ?_⟩;have a:dB (N+1) σ (f.set (N+1) (.cell (some (.ref j)))):=B.to.set λZ Z h=>h rfl;have u:(f.set (N+1) (.cell (some (.ref j)))).ob (N+1)=some (.cell (some (.ref j))):=aE (B.ob _ _ k trivial);have w:(f.set (N+1) (.cell (some (.ref j)))).ob j=some (.list ((uB b ts.length p).map .int)):=(au (bE E (B.ob _ _ k trivial) rfl)).trans E;generalize (f.set (N+1) (.cell (some (.ref j))))=σ3 at a u w ⊢;have n:jd σ3 i ts:=λt ht=>by
  obtain⟨J,o,d,y⟩:=h.its t ht;exact⟨J,o,d,a.ob _ _ y (bE y k rfl)⟩
 have F:(0:Int)≤(zs (tc ts)).length∧((zs (tc ts)).length:Int)≤1000000:=by exact Ff (by rw[db,cM];exact Z1 hts:(zs (tc ts)).length≤50000)
 refine c_ rfl (a.ob _ _ h.c2 (d7)) ⟨(by rw[db,cM];exact Z1 hts:(zs (tc ts)).length≤50000),ao ac ⟨⟨rfl,F.1,F.2⟩,?_⟩⟩;refine⟨by show((zs (tc ts)).length:Int).toNat≤10000;rw[(by rw[db,cM];exact Ed:((zs (tc ts)).length:Int).toNat=ts.length)];exact Z1 hts,?_⟩;show bS (.rng ((zs (tc ts)).length:Int).toNat) _ _ ((zs (tc ts)).length:Int).toNat 0 [] (σ3.new (.rng 0 (zs (tc ts)).length));rw[(by rw[db,cM];exact Ed:((zs (tc ts)).length:Int).toNat=ts.length)];refine FD rfl (ae u) (ae w) ?_;have e:bC σ3 ((σ3.new (.rng 0 (zs (tc ts)).length)).new (.list ((pq ts.length (uB b ts.length p)).map .int))):=Kp.refl.new.new;have c:((σ3.new (.rng 0 (zs (tc ts)).length)).new (.list ((pq ts.length (uB b ts.length p)).map .int))).ob (σ3.new (.rng 0 (zs (tc ts)).length)).nx=some (.list ((pq ts.length (uB b ts.length p)).map .int)):=ac;generalize ((σ3.new (.rng 0 (zs (tc ts)).length)).new (.list ((pq ts.length (uB b ts.length p)).map .int)))=σ5 at e c ⊢;generalize (σ3.new (.rng 0 (zs (tc ts)).length)).nx=lf at c ⊢;have H:(fW b ts p).length≤1000:=by
  have:=(kq (b:=b) (p:=p) hts).1;rw[←this];exact WX oM hts
 have G:((pq ts.length (uB b ts.length p)).map SV.int).length≤10000:=by
  rw[W0];exact WX oM (Z1 hts)
 refine c_ rfl (e.ob _ _ (a.ob _ _ h.c6 (d7)) trivial) (g_ (e.ob _ _ (a.ob _ _ hr (bE hr k rfl)) trivial) rfl rfl (ao (e.ob _ _ (a.ob _ _ hli (bE hli k rfl)) trivial) ⟨by show(tx (fW b ts p)).length≤10000;rw[dz];exact Z1 H,?_⟩));refine kQ (e.ob _ _ (a.ob _ _ hli (bE hli k rfl)) trivial) ((n.up e.to (XS _)).sub λt ht=>n9 ht) ?_;refine ao (ae c) ⟨G,?_⟩;refine oP (ci:=3) rfl (ae (e.ob _ _ (a.ob _ _ h.c3 (d7)) trivial)) (ae (e.ob _ _ (a.ob _ _ h.hlc (bE h.hlc k rfl)) trivial)) ((n.up e.to (XS _)).up Kp.refl.new (XS _)) (ae c) (kq (b:=b) (p:=p) hts) (λt ht=>n9 ht) ?_;refine oZ (ae ac) ac ?_;have z:bC σ5 ((σ5.new (.list ((tn (fW b ts p)).map .int))).new (.list ((tn (fW b ts p)).map .int))):=Kp.refl.new.new;generalize ((σ5.new (.list ((tn (fW b ts p)).map .int))).new (.list ((tn (fW b ts p)).map .int)))=σ7 at z ⊢;have m:=e.trans z;refine c_ rfl (m.ob _ _ (a.ob _ _ h.c5 (d7)) trivial) (g_ (m.ob _ _ (a.ob _ _ ht (bE ht k rfl)) trivial) rfl rfl ⟨trivial,ao (z.ob _ _ c trivial) ⟨G,?_⟩⟩);refine n6 (ci:=2) rfl (m.ob _ _ (a.ob _ _ h.c2 (d7)) trivial) (z.ob _ _ c trivial) (ds:=tc (fW b ts p)) (kq (b:=b) (p:=p) hts).map ?_;dsimp only[ab];refine nv (cs:=tc (fW b ts p)) ac (by rw[cM];exact Z1 H) ?_;show K (.bool (aA (zs (tc (fW b ts p))) (zs (tc (fW b ts p))))) _;rw[aQ];exact q _ (a.trans (bC.to (m.trans Kp.refl.new)))
theorem Gb (hw:Wv σ W s) (h:Cu σ b ts p s.n N lc ld lr hl pl li tk rk W v) (hr:d9 σ 82 rk ir oR fz [(7,.ref li)]) (hli:σ.ob li=some (.list (tx ts))) (ht:d9 σ 62 tk it oT fz [(6,.str (zs (tc ts)))]) (hts:ts.length≤1000) (hh:Hd σ hl p) (hne:b=true->hl≠li) (hb:b=true->fz=false)
  (q:∀σ' s',Wv σ' W s'->Wn s s'->(Kp (λk o=>(fm o=true∧(b=true->k≠li∧k≠tk))∧k≠N+1) σ σ')->K (.bool true) σ'):M7 (Ph (n+138)) ⟨[some (.ref pl),some v,some (.bool b),some (.ref ld),none,none,none],[N,N+1,N+2,N+3,N+4,N+5,N+6,N+7],[]⟩ σ (bp K) KE:=by
 refine Cz hw hr hli (by rw[dz];exact hts) hh hb h.c4 h.c6 h.c0 h.c7 h.hlr λg e R I l t C H=>?_;have w:HF b li tk σ e:=t.mono λZ Z Z h=>⟨h.1,λq=>(h.2 q).1⟩;obtain⟨G,ht⟩:=ht;obtain⟨P,hr⟩:=hr;have j:=h.up w hli ht;have c:=t.kp hli ht rfl rfl;have B:Hd e hl p:=hh.upn (t.mono λk o E h=>⟨h.1,λZ J=>by rw[J,hli]at E;obtain rfl:=jS E;cases h.2⟩) λQ F=>t.ob _ _ F ⟨rfl,hne⟩;rw[BN]at C;refine FS I ⟨G,c⟩ (by rw[cM];exact hts) B hb j.c4 j.c5 j.c0 j.c7 j.hlr λx a sC M z y i L=>?_;have m:HF b li tk e a:=y.mono λZ Z Z h=>⟨h.1,λq=>(h.2 q).2⟩;have u:=(j.up m C c).ext (σ':=a.new (.tup [g,x])) Kp.refl.new;rw[FN]at i;refine⟨bl rfl,t_ ac rfl (c_ rfl u.c3 (c_ rfl u.c2 (u.told hts (pp (b:=true) (pp H y c) (Kp.str (bC.to Kp.refl.new)) i.choose_spec:f5 (a.new (.tup [g,x])) s.n (tx ts) p g) (rQ (L.ge l.n) Kp.refl.new:fD (a.new (.tup [g,x])) s.n (tc ts) p x) λf A=>?_)))⟩;have d:bC a f:=Kp.refl.new.trans A;obtain⟨S,O⟩:=(u.ext A).c1;refine Gz (u.ext A) ⟨P,d.ob _ _ (y.kp c (t.kp hli hr rfl rfl) rfl rfl) trivial⟩ (d.ob _ _ (y.kp c C rfl rfl) trivial) (i.up rfl d.to) hts λr D=>?_;refine q r sC (iK (M.up d) D O rfl) (l.trans z) ?_;exact(((w.mono λZ Z Z h=>h.1:Kp (λk o=>(fm o=true∧(b=true->k≠li∧k≠tk))∧k≠N+1) σ e).trans (m.mono λZ Z Z h=>h.1:Kp (λk o=>(fm o=true∧(b=true->k≠li∧k≠tk))∧k≠N+1) e a)).trans (d.to:Kp (λk o=>(fm o=true∧(b=true->k≠li∧k≠tk))∧k≠N+1) a f)).trans (D.mono λZ Z Z h=>h.2:Kp (λk o=>(fm o=true∧(b=true->k≠li∧k≠tk))∧k≠N+1) f r)
theorem mk8 {a b c d:Option SV} {K:List Nat->Sg->Prop} (q:∀σ',bC σ σ'->σ.nx+7<σ'.nx->σ'.ob σ.nx=some (.cell none)->σ'.ob (σ.nx+1)=some (.cell none)->σ'.ob (σ.nx+2)=some (.cell none)->σ'.ob (σ.nx+3)=some (.cell none)->σ'.ob (σ.nx+4)=some (.cell a)->σ'.ob (σ.nx+5)=some (.cell b)->σ'.ob (σ.nx+6)=some (.cell c)->σ'.ob (σ.nx+7)=some (.cell d)->K [σ.nx,σ.nx+1,σ.nx+2,σ.nx+3,σ.nx+4,σ.nx+5,σ.nx+6,σ.nx+7] σ'):Hv [none,none,none,none,a,b,c,d] σ K:=
 q _ Kp.refl.new.new.new.new.new.new.new.new (XY _) (ae (ae (ae (ae (ae (ae (ae ac))))))) (ae (ae (ae (ae (ae (ae ac)))))) (ae (ae (ae (ae (ae ac))))) (ae (ae (ae (ae ac)))) (ae (ae (ae ac))) (ae (ae ac)) (ae ac) ac
theorem yy (hw:Wv σ W s) (hr:d9 σ 82 rk ir oR fz [(7,.ref li)]) (hli:σ.ob li=some (.list (tx ts))) (ht:d9 σ 62 tk it oT fz [(6,.str (zs (tc ts)))]) (hts:ts.length≤900) (hb:b=true->fz=false) (its:jd σ s.n ts) (hn:ir≤s.n∧it≤s.n) (hh:Hd σ hl p) (hpl:jy σ pl p) (hdu:oB (λl=>b=true->l≠li) σ v ts.length p)
  (ne:b=true->hl≠li∧∀t∈ts,t.1≠tk) (q:∀σ' s',Wv σ' W s'->Wn s s'->HF b li tk σ σ'->K (.bool true) σ'):Ph (n+140) 0 935 [.ref W,.ref rk,.ref tk,.ref hl,.ref pl,v,.bool b] σ K KE:=by
 have l1:=σ.wf _ _ hli;obtain⟨dr,hr⟩:=hr;obtain⟨V,ht⟩:=ht;refine dh (φ:=fX 7 [] [some 4,some 5,some 6,none,none,none,none] [none,none,none,none,some 3,some 2,some 1,some 0] EF) rfl rfl ⟨rfl,mk8 λa E J x c1 M O S G H X=>?_⟩;generalize hN:σ.nx=N at*;refine c_ rfl H (g_ (E.ob _ _ hr trivial) rfl rfl (.inl (ao (E.ob _ _ hli trivial) ⟨by rw[dz];exact Z1 hts,c_ rfl (ae G) (g_ (ae (E.ob _ _ ht trivial)) rfl rfl ⟨bl rfl,t_ ac rfl ⟨_,rfl,ao (ae (ae O)) ⟨_,rfl,ao ((au (d7)).trans (ae (ae M))) ?_⟩⟩⟩)⟩)));have m:bC σ ((((a.new (.list (tx ts))).new (.tup [.ref a.nx,.str (zs (tc ts))])).set (N+3) (.cell (some (.ref a.nx)))).set (N+2) (.cell (some (.str (zs (tc ts)))))):=((E.new.new).setN (yb hN)).setN (yb hN);have j:∀{k o},k≠N+3->k≠N+2->a.ob k=some o->((((a.new (.list (tx ts))).new (.tup [.ref a.nx,.str (zs (tc ts))])).set (N+3) (.cell (some (.ref a.nx)))).set (N+2) (.cell (some (.str (zs (tc ts)))))).ob k=some o:=λL T h=>(au T).trans ((au L).trans (ae (ae h)));have P:((((a.new (.list (tx ts))).new (.tup [.ref a.nx,.str (zs (tc ts))])).set (N+3) (.cell (some (.ref a.nx)))).set (N+2) (.cell (some (.str (zs (tc ts)))))).ob (N+2)=some (.cell (some (.str (zs (tc ts))))):=aE ((au (d7)).trans (ae (ae M)));have D:((((a.new (.list (tx ts))).new (.tup [.ref a.nx,.str (zs (tc ts))])).set (N+3) (.cell (some (.ref a.nx)))).set (N+2) (.cell (some (.str (zs (tc ts)))))).ob (N+3)=some (.cell (some (.ref a.nx))):=(au (d7)).trans (aE (ae (ae O)));have z:((((a.new (.list (tx ts))).new (.tup [.ref a.nx,.str (zs (tc ts))])).set (N+3) (.cell (some (.ref a.nx)))).set (N+2) (.cell (some (.str (zs (tc ts)))))).ob a.nx=some (.list (tx ts)):=(au (Z23 J)).trans ((au (Z23 J)).trans (ae ac));generalize ((((a.new (.list (tx ts))).new (.tup [.ref a.nx,.str (zs (tc ts))])).set (N+3) (.cell (some (.ref a.nx)))).set (N+2) (.cell (some (.str (zs (tc ts))))))=σ5 at m j P D z ⊢;have x:=j (HA) (HA) x;have B:a.nx≠li:=by exact Z24 l1 J
 generalize a.nx=lc at z D B ⊢;refine c_ rfl (j (d7) (d7) H) (g_ (m.ob _ _ hr trivial) rfl rfl (c_ rfl (j (d7) (d7) G) (g_ (m.ob _ _ ht trivial) rfl rfl ⟨bl rfl,c_ rfl (ae D) (ao (ae z) ⟨by show(tx ts).length≤10000;rw[dz];exact Z1 hts,?_⟩)⟩)));refine kQ (ae z) ((its.up m.to (XS _)).up (bC.to Kp.refl.new) (XS _)) ?_;refine ao (ae ac) (ao ac ⟨⟨bl rfl,by rw[W0,DG];exact Z1 hts⟩,?_⟩);have c:bC σ5 (((σ5.new (.list [.int ir,.int it])).new (.list ((tn ts).map .int))).new (.list ([.int ir,.int it]++(tn ts).map .int))):=Kp.refl.new.new.new;have g:(((σ5.new (.list [.int ir,.int it])).new (.list ((tn ts).map .int))).new (.list ([.int ir,.int it]++(tn ts).map .int))).ob ((σ5.new (.list [.int ir,.int it])).new (.list ((tn ts).map .int))).nx=some (.list ((ir::it::tn ts).map .int)):=ac;have C:((σ5.new (.list [.int ir,.int it])).new (.list ((tn ts).map .int))).nx≠li:=by
  have:=m.nx;show σ5.nx+1+1≠li;lia
 generalize (((σ5.new (.list [.int ir,.int it])).new (.list ((tn ts).map .int))).new (.list ([.int ir,.int it]++(tn ts).map .int)))=σ8 at c g ⊢;generalize ((σ5.new (.list [.int ir,.int it])).new (.list ((tn ts).map .int))).nx=ld at g C ⊢;have rl:∀{A:List (Option SV)} {F:SV->Sg->Prop},F (.ref σ8.nx) (σ8.new (.list (fJ b)))->aO (aP (aV 2)) (bK (aa (aG 461) (aa (aG 517) ab))) (bK (aa (aG 454) (aa (aG 510) ab))) (Ph (n+139)) ⟨some (.ref pl)::some v::some (.bool b)::A,[N,N+1,N+2,N+3,N+4,N+5,N+6,N+7],[]⟩ σ8 F KE:=λ{A F} q=>by
  cases b<;>exact⟨bl rfl,q⟩
 refine rl ⟨_,rfl,ao (ae (c.ob _ _ x trivial)) ?_⟩;have d:bC σ ((σ8.new (.list (fJ b))).set N (.cell (some (.ref σ8.nx)))):=((m.trans c).new).setN (Z76 hN);have f:∀{k o},k≠N->σ8.ob k=some o->((σ8.new (.list (fJ b))).set N (.cell (some (.ref σ8.nx)))).ob k=some o:=λL h=>(au L).trans (ae h);have u:((σ8.new (.list (fJ b))).set N (.cell (some (.ref σ8.nx)))).ob N=some (.cell (some (.ref σ8.nx))):=aE (ae (c.ob _ _ x trivial));have y:((σ8.new (.list (fJ b))).set N (.cell (some (.ref σ8.nx)))).ob σ8.nx=some (.list (fJ b)):=(au (by have:=(m.trans c).nx;have:=σ8.wf _ _ (c.ob _ _ x trivial);exact Z31 this:σ8.nx≠N)).trans ac;have r:σ8.nx≠li:=by have:=(m.trans c).nx;lia
 generalize ((σ8.new (.list (fJ b))).set N (.cell (some (.ref σ8.nx))))=σ9 at d f u y ⊢;generalize σ8.nx=lr at u y r ⊢;have U:Cu σ9 b ts p s.n N lc ld lr hl pl li tk rk W v:=⟨u,y,⟨_,f (qm) (c.ob _ _ (j (d7) (d7) c1) trivial)⟩,f (qm) (c.ob _ _ P trivial),f (qm) (c.ob _ _ D trivial),f (bE (c.ob _ _ z trivial) (c.ob _ _ x trivial) rfl) (c.ob _ _ z trivial),f (qm) (c.ob _ _ (j (d7) (d7) S) trivial),f (qm) (c.ob _ _ (j (d7) (d7) G) trivial),f (qm) (c.ob _ _ (j (d7) (d7) H) trivial),f (qm) (c.ob _ _ (j (d7) (d7) X) trivial),its.up d.to (XS _),(bv _ (f (bE g (c.ob _ _ x trivial) rfl) g) (λi hi=>by
  rcases WY.mp hi with rfl|hi
  ·exact hn.1
  ·rcases WY.mp hi with rfl|hi
   ·exact hn.2
   ·refine bn (Xb.mp hi) λt ht I=>?_;obtain rfl:=I
    exact(its t ht).1)),hpl.up d.to,hdu.up d.to,λh=>(f4 r B C ((ne h).2))⟩
 exact(Gb (n:=n+1) (K:=K) (KE:=KE) (hw.up d) U ⟨dr,d.ob _ _ hr trivial⟩ (d.ob _ _ hli trivial) ⟨V,d.ob _ _ ht trivial⟩ (Z1 hts) (hh.up d.to) (λh=>(ne h).1) hb λσ' s' w Y e=>q σ' s' w Y ⟨WX d.nx e.nx,λk o Q R=>e.ob k o (d.ob _ _ Q trivial) ⟨R,λek=>by have:=σ.wf _ _ Q;lia⟩⟩)
variable {g:Int}
theorem Bt {k:Int} (hk:0≤k∧k<m) (q:K (.bool (decide (cg y b m≤k))) σ):Ph (n+1) 0 906 [.int m,.int k,oI y,.bool b] σ K KE:=by
 refine aK (k:=4) (d:=[]) (r:=1) (m:=zO) rfl rfl rfl ?_;cases y with
 |none=>
  refine bQ rfl ?_;rw[Xo (show¬cg none b m≤k by show¬m≤k;exact WH hk.2)]at q;exact q
 |some h=>
  refine bQ rfl ?_;have c:∀a:Int,a - h=k - bM h m->aq (rO (bG .Gt (aV 4) (aV 2)) (eL (aV 3) [bG .Eq (aV 4) (aV 2)])) (Ph n) ⟨[some (.int m),some (.int k),some (.int h),some (.bool b),some (.int a)],[],[]⟩ σ (bp K) KE:=λa e=>by
   refine bW (λg=>?_) λg=>?_
   ·show K (.bool (decide (h<a))) σ
    rw[Xx g];rw[Xx (show cg (some h) b m≤k by show bM h m+(if b then 0 else 1)≤k;split<;>lia)]at q;exact q
   ·cases b with
    |true=>
     show K (.bool (decide (a=h))) σ;rw[show decide (a=h)=decide (cg (some h) true m≤k) from by
      rw[decide_eq_decide];show a=h↔bM h m+0≤k;lia]
     exact q
    |false=>
     rw[Xo (show¬cg (some h) false m≤k by show¬bM h m+1≤k;lia)]at q;exact q
  refine bW (λf=>c k ?_) λf=>c (k - m) ?_
  ·rw[show bM h m=h from Xh (hO f)]
  ·rw[show bM h m=h+m from Xn (qO f)];lia
theorem zP:(List.range N).flatMap (λk:Nat=>cond (decide ((k:Int)=g)) [SV.int k] [])=if 0≤g∧g<N then[SV.int g]else[]:=by
 induction N with
 |zero=>rw[Xh (by lia)];rfl
 |succ N ih=>
  rw[YQ,YE,ih,YC,Y4,XO];by_cases h1:(N:Int)=g
  ·rw[Xx h1,Xh (by lia),Xn (by lia),h1];rfl
  ·rw[Xo h1,cond_false,XO]
   by_cases h2:0≤g∧g<N
   ·rw[Xn h2,Xn (by lia)]
   ·rw[Xh h2,Xh (by lia)]
theorem pI (h:0≤g):(List.range N).flatMap (λk:Nat=>cond (decide (g≤(k:Int))) [SV.int k] [])=(fG (g,(N:Int) - g)).map .int:=by
 induction N with
 |zero=>
  show[]=((List.range ((0:Int) - g).toNat).map _).map _;rw[show((0:Int) - g).toNat=0 by lia];rfl
 |succ N ih=>
  rw[YQ,YE,ih,YC,Y4,XO];by_cases h1:g≤N
  ·rw[Xx h1]
   show _=((List.range (((N+1:Nat):Int) - g).toNat).map _).map _;rw[show(((N+1:Nat):Int) - g).toNat=((N:Int) - g).toNat+1 by lia,YQ,Xa,Xa];congr 1;show[SV.int N]=[SV.int (g+_)];rw[show g+(((N:Int) - g).toNat:Nat)=N by lia]
  ·rw[Xo h1]
   show _=((List.range (((N+1:Nat):Int) - g).toNat).map _).map _;rw[show(((N+1:Nat):Int) - g).toNat=((N:Int) - g).toNat by lia];exact XO _
theorem rF (h:0≤c):(List.range N).flatMap (λk:Nat=>cond (decide ((k:Int)<c)) [SV.int (g+k)] [])=(fG (g,if(N:Int)<c then N else c)).map .int:=by
 induction N with
 |zero=>
  show[]=((List.range (if((0:Nat):Int)<c then((0:Nat):Int)else c).toNat).map _).map _;rw[show(if((0:Nat):Int)<c then((0:Nat):Int)else c).toNat=0 by split<;>lia];rfl
 |succ N ih=>
  rw[YQ,YE,ih,YC,Y4,XO];show((List.range (if(N:Int)<c then(N:Int)else c).toNat).map _).map _++_=((List.range (if((N+1:Nat):Int)<c then((N+1:Nat):Int)else c).toNat).map _).map _;by_cases h1:(N:Int)<c
  ·rw[Xx h1,show(if((N+1:Nat):Int)<c then((N+1:Nat):Int)else c).toNat=N+1 by split<;>lia,show(if(N:Int)<c then(N:Int)else c).toNat=N by rw[Xn h1];exact Ed,YQ,Xa,Xa]
   rfl
  ·rw[Xo h1,show(if((N+1:Nat):Int)<c then((N+1:Nat):Int)else c).toNat=(if(N:Int)<c then(N:Int)else c).toNat by rw[Xh h1];split<;>lia]
   exact XO _
theorem kP {b:n4} {fr:ca} {gk:Nat->List SV} (hm:0≤m∧m≤5000) (hb:∀σ',bC σ σ'->∀i:Nat,(i:Int)<m->∀ys (K':List SV->Sg->Prop),K' (ys++gk i) σ'->kU b Φ fr (.int i) ys σ' K') (q:∀σ',bC σ σ'->KC ((List.range m.toNat).flatMap gk) σ'):bD [.int m] σ (λv σ=>rX σ v λs=>s.len≤10000∧bS s (kU b Φ fr) KC s.len 0 [] σ):=by
 refine ao ac (eQ (eQ rfl hm.1 (uP hm.2)) (by show m.toNat≤10000;exact VF hm.2) ?_);refine oj (g:=gk) (λi a ys K' g=>hb _ Kp.refl.new i (by lia) ys K' g) ?_;exact q _ Kp.refl.new
theorem wM {b:SV->List SV->Sg->(List SV->Sg->Prop)->Prop} {K:List SV->Sg->Prop} {xs:List SV} {g:SV->List SV} (hl:σ.ob l=some (.list xs)) (hb:∀x∈xs,∀ys (K':List SV->Sg->Prop),K' (ys++g x) σ->b x ys σ K') (q:K (xs.flatMap g) σ):bS (.list l xs.length) b K xs.length 0 [] σ:=by
 have d:∀m i,i+m=xs.length->bS (.list l xs.length) b K m i ((xs.take i).flatMap g) σ:=by
  intro m
  induction m with
  |zero=>
   intro i a;refine⟨ao hl rfl,?_⟩;rw[Yq (Z16 a)];exact q
  |succ m ih=>
   intro i a;have c:i<xs.length:=by exact HB a
   refine⟨ao hl rfl,ao hl ⟨_,Xf c,hb _ (List.getElem_mem c) _ _ ?_⟩⟩;have:=ih (i+1) (vH a);rw[←Y7 c,YE,YC,Y4,XO]at this;exact this
 exact d xs.length 0 (X9 _)
theorem HN:PyData.eqv (.list [.int g]) (.list [])=false:=by simp[PyData.eqv,PyData.eqvAll]
theorem Q7:SeqAt.shaped (.list [.int g])=true:=jH (is:=[g])
theorem zJ:SeqAt.shaped (.list [])=true:=jH (is:=[])
noncomputable def gM (p:Pl):Option Int:=match p with
 |.one i=>some i
 |.two i _=>some i
 |.rng x _ _=>x
 |.odd _=>none
noncomputable def yD (p:Pl):SV:=match p with
 |.two _ c=>.int c
 |.rng _ y _=>oI y
 |_=>.int 0
noncomputable def zF (p:Pl):Bool:=match p with
 |.rng _ _ b=>b
 |_=>false
def nU:AS:=aw (ai .Eq (aV 1) (aS "two")) (aq (aU (aa (ax (aC 1) (aI 0)) (aa (bP (bH bD (aa (bH aZ (aa (aC 0) ab)) ab)) (pZ (ai .Lt aX (aC 4)) (ax (aC 0) aX))) ab)))) (aq (aU (aa (ax (aC 1) (aI 0)) (aa (bP (aC 0) (pZ (cF (aP (ag 906 (aa (aC 5) (aa aX (aa (aC 4) (aa (aC 3) ab))))))) aX)) ab))))
def zG:AS:=ay (.c 0) (bP (bH bD (aa (aC 5) ab)) (pZ (ai .GtE aX (ax (aC 1) (aI 0))) aX)) nU
def x7:AS:=aw (cD [ai .Eq (aC 1) (bK ab),bO [ai .Eq (aV 1) (aS "two"),ai .Lt (aC 4) (aI 0)]]) (aq aN) (aw (ai .Eq (aV 1) (aS "one")) (aq (aU (aa (ax (aC 1) (aI 0)) (aa (aC 1) ab)))) zG)
abbrev Blw (N:Nat):Sg->Sg->Prop:=Kp λk Z=>k<N
variable {lb lg:Nat} {a0 a2:Option SV}
theorem jy.pt (h:jy σ k p) (ho:qw p=false):σ.ob k=some (.tup [.str (y8 p),oI (gM p),yD p,.bool (zF p)]):=by
 cases p<;>first|exact h|exact kB ho
theorem xP (hm:0≤m∧m≤1000) (hg:bM i m=g) (g0:0≤g∧g≤m) (h0:0≤c) (c0:σ.ob N=some (.cell (some (.ref lb)))) (hlb:σ.ob lb=some (.list ((fG (g,m - g)).map .int))) (c1:σ.ob (N+1)=some (.cell (some (.ref lg)))) (hlg:σ.ob lg=some (.list [.int g])) (c4:σ.ob (N+4)=some (.cell (some (.int c))))
  (q:∀v σ',Blw N σ σ'->gY σ' v m (.two i c)->K v σ'):nU Φ ⟨[a0,some (.str "two"),a2],[N,N+1,N+2,N+3,N+4,N+5],[]⟩ σ (bp K) KE:=by
 refine jV aQ ?_;refine c_ rfl c1 (i_ hlg rfl (c_ rfl c0 (ao hlb ⟨by rw[(by rw[W0,dw]:((fG (g,m - g)).map SV.int).length=(m - g).toNat)];exact J9 hm.1 hm.2 g0.1 g0.2,?_⟩)));dsimp only[ab];refine kP (gk:=λk:Nat=>cond (decide ((k:Int)<c)) [SV.int (g+k)] []) (by rw[(by rw[W0,dw]:((fG (g,m - g)).map SV.int).length=(m - g).toNat)];lia) (λσ' e k f a b q=>?_) λσ' e=>⟨bl rfl,q _ _ (bC.to (Kp.new (Kp.new e))) ?_⟩
 ·refine c_ rfl (e.ob _ _ c4 trivial) (bW (λh=>c_ rfl (e.ob _ _ c0 trivial) (ao (e.ob _ _ hlb trivial) ?_)) λh=>?_)
  ·show bI (decide ((k:Int)<0)) _ _
   rw[Xo (FM)];rw[(by rw[W0,dw]:((fG (g,m - g)).map SV.int).length=(m - g).toNat)]at f;refine⟨⟨by exact OD,by lia⟩,.int (g+k),?_,?_⟩
   ·dsimp only[fG]
    rw[Yp,Xd,Y5 (by show(k:Int).toNat<(m - g).toNat;lia)];rfl
   ·rw[Xx h]at q
    exact q
  ·rw[Xo h]at q
   have q:b (a++[]) σ':=q;rw[XO]at q;exact q
 ·have d:cG m (.two i c)=some (g,if m - g<c then m - g else c):=by
   show pD (bM i m) c m=_;rw[hg];exact Xh (O1 g0 h0)
  unfold gY;rw[d];refine(kh _ _ rfl ac ?_);rw[rF h0,(by rw[W0,dw]:((fG (g,m - g)).map SV.int).length=(m - g).toNat),show(((((m - g).toNat:Nat):Int).toNat:Nat):Int)=m - g by lia];exact ae ac
theorem vM (hm:0≤m∧m≤1000) (hg:fE x m=g) (g0:0≤g∧g≤m) (c0:σ.ob N=some (.cell (some (.ref lb)))) (hlb:σ.ob lb=some (.list ((fG (g,m - g)).map .int))) (c1:σ.ob (N+1)=some (.cell (some (.ref lg)))) (hlg:σ.ob lg=some (.list [.int g])) (c3:σ.ob (N+3)=some (.cell (some (.bool b)))) (c4:σ.ob (N+4)=some (.cell (some (oI y)))) (c5:σ.ob (N+5)=some (.cell (some (.int m))))
  (q:∀v σ',Blw N σ σ'->gY σ' v m (.rng x y b)->K v σ'):nU (Ph (n+1)) ⟨[a0,some (.str "range"),a2],[N,N+1,N+2,N+3,N+4,N+5],[]⟩ σ (bp K) KE:=by
 refine gX gz.2.2.2.2.1 ?_;refine c_ rfl c1 (i_ hlg rfl (c_ rfl c0 (ao hlb ⟨by show((fG (g,m - g)).map SV.int).length≤10000;rw[(by rw[W0,dw]:((fG (g,m - g)).map SV.int).length=(m - g).toNat)];exact J9 hm.1 hm.2 g0.1 g0.2,?_⟩)));refine wM (g:=λx=>match x with
  |.int k=>cond (decide (k<cg y b m)) [SV.int k] []
  |_=>[]) hlb (λw o d f q=>?_) ⟨bl rfl,q _ _ (bC.to Kp.refl.new.new) ?_⟩
 ·refine bn (Xb.mp o) λk r a=>?_;obtain rfl:=a
  refine bn (Xb.mp r) λu i a=>?_;obtain rfl:=a;have i:u<(m - g).toNat:=XG.mp i;refine c_ rfl c5 (c_ rfl c4 (c_ rfl c3 (Bt (by show 0≤g+(u:Int)∧g+(u:Int)<m;lia) ?_)));refine XeQ (λh=>?_) λh=>?_
  ·have q:f (d++cond (decide (g+(u:Int)<cg y b m)) [SV.int (g+u)] []) σ:=q
   rw[Xx (show g+(u:Int)<cg y b m by have:¬cg y b m≤g+(u:Int):=h;exact qO h)]at q;exact q
  ·have q:f (d++cond (decide (g+(u:Int)<cg y b m)) [SV.int (g+u)] []) σ:=q
   rw[Xo (show¬g+(u:Int)<cg y b m by have:cg y b m≤g+(u:Int):=h;exact hO h)]at q;have q:f (d++[]) σ:=q;rw[XO]at q;exact q
 ·have j:0≤oY g (cg y b m):=by unfold oY;split<;>lia
  have p:cG m (.rng x y b)=some (g,if m - g<oY g (cg y b m)then m - g else oY g (cg y b m)):=by
   show pD (fE x m) (oY (fE x m) (cg y b m)) m=_;rw[hg];exact Xh (O1 g0 j)
  unfold gY;rw[p];refine(kh _ _ rfl ac ?_);have e:((fG (g,m - g)).map SV.int).flatMap (λx=>match x with
   |.int k=>cond (decide (k<cg y b m)) [SV.int k] []
   |_=>[])=(fG (g,if m - g<oY g (cg y b m)then m - g else oY g (cg y b m))).map .int:=by
   have l:=rF (g:=g) (c:=oY g (cg y b m)) (N:=(m - g).toNat) j;rw[show(((m - g).toNat:Nat):Int)=m - g by lia]at l;rw[←l];dsimp only[fG];rw[Yp,List.flatMap_map];show(List.range (m - g).toNat).flatMap _=_;congr 1
   funext u
   show cond (decide (g+(u:Int)<cg y b m)) _ _=_;rw[show decide (g+(u:Int)<cg y b m)=decide ((u:Int)<oY g (cg y b m)) from by
    rw[decide_eq_decide];unfold oY;split<;>lia]
  rw[e];exact ae ac
theorem tO (hm:0≤m∧m≤1000) (g0:0≤g∧g≤m) (c0:∃o,σ.ob N=some (.cell o)) (c1:σ.ob (N+1)=some (.cell (some (.ref lg)))) (hlg:σ.ob lg=some (.list [.int g])) (c5:σ.ob (N+5)=some (.cell (some (.int m))))
  (q:∀lb σ',dB N σ σ'->σ'.ob N=some (.cell (some (.ref lb)))->σ'.ob lb=some (.list ((fG (g,m - g)).map .int))->nU Φ ⟨loc,[N,N+1,N+2,N+3,N+4,N+5],[]⟩ σ' (bp K) KE):zG Φ ⟨loc,[N,N+1,N+2,N+3,N+4,N+5],[]⟩ σ (bp K) KE:=by
 obtain⟨o,c0⟩:=c0;refine c_ rfl c5 ?_;refine kP (gk:=λk:Nat=>cond (decide (g≤(k:Int))) [SV.int k] []) (Xax hm.1 hm.2) (λσ' e k d b c q=>?_) λσ' e=>⟨_,rfl,ao (ae (e.ob _ _ c0 trivial)) (q σ'.nx _ ((bC.to (Kp.new e)).set λZ Z h=>h rfl) (aE (ae (e.ob _ _ c0 trivial))) ?_)⟩
 ·refine c_ rfl (e.ob _ _ c1 trivial) (i_ (e.ob _ _ hlg trivial) rfl (bW (λh=>?_) λh=>?_))
  ·rw[Xx h]at q
   exact q
  ·rw[Xo h]at q
   have q:c (b++[]) σ':=q;rw[XO]at q;exact q
 ·have a:=ac (σ:=σ') (o:=.list ((List.range m.toNat).flatMap λk:Nat=>cond (decide (g≤(k:Int))) [SV.int k] []))
  rw[pI g0.1,show((m.toNat:Nat):Int)=m by exact Qs hm.1]at a ⊢;exact(au (bE a (ae (e.ob _ _ c0 trivial)) rfl)).trans a
theorem Mi {l2:Nat} {K:Bool->Prop} (h1:σ.ob l=some (.list [.int g])) (h2:σ.ob l2=some (.list [])) (q:K false):Wb σ (.ref l) (.ref l2) K:=⟨.list [.int g],.list [],.list _ _ _ rfl h1 rfl,.list _ _ _ rfl h2 rfl,by rw[Q7,zJ];rfl,by rw[HN];exact q⟩
theorem DF (ho:qw p=false) (hm:0≤m∧m≤1000) (hg:bM ((gM p).getD 0) m=g) (c0:∃o,σ.ob N=some (.cell o)) (c1:σ.ob (N+1)=some (.cell (some (.ref lg)))) (hlg:σ.ob lg=some (.list (if 0≤g∧g<(if eJ p then m else m+1)then[.int g]else[]))) (c3:σ.ob (N+3)=some (.cell (some (.bool (zF p))))) (c4:σ.ob (N+4)=some (.cell (some (yD p)))) (c5:σ.ob (N+5)=some (.cell (some (.int m))))
  (q:∀v σ',Blw N σ σ'->gY σ' v m p->K v σ'):x7 (Ph (n+1)) ⟨[a0,some (.str (y8 p)),a2],[N,N+1,N+2,N+3,N+4,N+5],[]⟩ σ (bp K) KE:=by
 have u:∀σ',bC σ σ'->cG m p=none->K .none σ':=λσ' e h=>q _ _ e.to (by unfold gY;rw[h]);by_cases a:0≤g∧g<(if eJ p then m else m+1)
 ·rw[Xn a]at hlg
  refine c_ rfl c1 ⟨bl rfl,Mi (ae hlg) ac ?_⟩;have k:bC σ (σ.new (.list [])):=Kp.refl.new;obtain⟨z,c0⟩:=c0;have c0:=k.ob _ _ c0 trivial;have c1:=k.ob _ _ c1 trivial;have c3:=k.ob _ _ c3 trivial;have c4:=k.ob _ _ c4 trivial;have c5:=k.ob _ _ c5 trivial;have hlg:=k.ob _ _ hlg trivial;generalize σ.new (.list [])=σ1 at k c0 c1 c3 c4 c5 hlg ⊢;cases p with
  |odd j=>exact kB ho
  |one i=>
   have a:0≤g∧g<m:=a;have hg:bM i m=g:=hg;show bI (aA "one" "two") _ _;rw[gz.2.2.2.1];show bI (aA "one" "one") _ _;rw[aQ];refine c_ rfl c1 (i_ hlg rfl (c_ rfl c1 ⟨bl rfl,q _ _ (bC.to (Kp.new k)) ?_⟩));unfold gY;rw[show cG m (.one i)=some (bM i m,1) from Xn (by rw[hg];exact a),hg];refine(kh _ _ rfl ac (ae ?_));rw[show(fG (g,1)).map SV.int=[.int g] from by
    show[SV.int (g+((0:Nat):Int))]=_;rw[show g+((0:Nat):Int)=g by lia]]
   exact hlg
  |two i c=>
   have a:0≤g∧g<m+1:=a;have hg:bM i m=g:=hg;show bI (aA "two" "two") _ _;rw[aQ];refine c_ rfl c4 (bW (λh=>?_) λh=>?_)
   ·exact u _ k (Xn (.inr (.inr h)))
   ·show bI (aA "two" "one") _ _
    rw[gz.2.2.2.2.2.1];refine tO hm (wi (by assumption) a hg) ⟨_,c0⟩ c1 hlg c5 λw σ' f l s=>?_;exact xP hm hg (wi (by assumption) a hg) (by have h:¬c<0:=h;exact By (by assumption)) l s (f.ob _ _ c1 (qm)) (f.ob _ _ hlg (bE hlg c0 rfl)) (f.ob _ _ c4 (qm)) λv r t d=>q v r ((k.to.trans (f.mono λZ Z Z h=>by exact Z30 h)).trans t) d
  |rng x y b=>
   have a:0≤g∧g<m+1:=a;have hg:bM (x.getD 0) m=g:=hg;rw[i5]at hg;show bI (aA "range" "two") _ _;rw[gz.2.2.2.2.1];show bI (aA "range" "one") _ _;rw[gz.2.2.2.2.2.2];refine tO hm (wi (by assumption) a hg) ⟨_,c0⟩ c1 hlg c5 λw σ' f l s=>?_;exact vM hm hg (wi (by assumption) a hg) l s (f.ob _ _ c1 (qm)) (f.ob _ _ hlg (bE hlg c0 rfl)) (f.ob _ _ c3 (qm)) (f.ob _ _ c4 (qm)) (f.ob _ _ c5 (qm)) λv r t d=>q v r ((k.to.trans (f.mono λZ Z Z h=>by exact Z30 h)).trans t) d
 ·rw[Xh a]at hlg
  refine c_ rfl c1 ⟨bl rfl,qN (.list _ [] [] rfl (ae hlg) rfl) (.list _ [] [] rfl ac rfl) zJ (u _ Kp.refl.new ?_)⟩;cases p with
  |odd j=>exact kB ho
  |one i=>
   have a:¬(0≤g∧g<m):=a;have hg:bM i m=g:=hg;exact Xh (by rw[hg];exact a)
  |two i c=>
   have hg:bM i m=g:=hg;exact Xn (R0 a hg)
  |rng x y b=>
   have a:¬(0≤g∧g<m+1):=a;have hg:bM (x.getD 0) m=g:=hg;rw[i5]at hg;exact Xn (R0 a hg)
variable {nn mk:Int}
theorem ug (hm:0≤m∧m≤1000) (hn:nn=m∨nn=m+1) (hg:bM mk m=g) (c2:σ.ob (N+2)=some (.cell (some (.int mk)))) (c5:σ.ob (N+5)=some (.cell (some (.int m)))) (q:∀σ',bC σ σ'->KC (if 0≤g∧g<nn then[.int g]else[]) σ'):
  bD [.int nn] σ (λv σ=>rX σ v λs=>s.len≤10000∧bS s (kU (pZ (cD [ai .Eq aX (aC 2),bO [ai .Lt (aC 2) (aI 0),ai .Eq (ap .Sub aX (aC 5)) (aC 2)]]) aX) Φ ⟨loc,[N,N+1,N+2,N+3,N+4,N+5],[]⟩) KC s.len 0 [] σ):=by
 refine kP (gk:=λk:Nat=>cond (decide ((k:Int)=g)) [SV.int k] []) (by lia) (λσ' e k j d f q=>?_) λσ' e=>?_
 ·have c2:=e.ob _ _ c2 trivial
  have c:(k:Int)=g->f (d++[.int k]) σ':=λh=>by
   rw[Xx h]at q;exact q
  have i:¬(k:Int)=g->f d σ':=λh=>by
   rw[Xo h]at q;have q:f (d++[]) σ':=q;rw[XO]at q;exact q
  unfold bM at hg;refine c_ rfl c2 (bW (λh=>c ?_) λh=>c_ rfl c2 (bW (λa=>c_ rfl (e.ob _ _ c5 trivial) (c_ rfl c2 (bW (λb=>c ?_) λb=>i ?_))) λa=>i ?_))
  ·have h:(k:Int)=mk:=h
   rw[Xh (by lia)]at hg;lia
  ·have b:(k:Int) - m=mk:=b
   have a:mk<0:=a;rw[Xn a]at hg;lia
  ·have b:¬(k:Int) - m=mk:=b
   have a:mk<0:=a;rw[Xn a]at hg;lia
  ·have h:¬(k:Int)=mk:=h
   have a:¬mk<0:=a;rw[Xh a]at hg;lia
 ·have:=q σ' e
  rw[zP,show((nn.toNat:Nat):Int)=nn by lia];exact this
theorem mk6 {a:Option SV} {K:List Nat->Sg->Prop} (q:∀σ',bC σ σ'->σ'.ob σ.nx=some (.cell none)->σ'.ob (σ.nx+1)=some (.cell none)->σ'.ob (σ.nx+2)=some (.cell none)->σ'.ob (σ.nx+3)=some (.cell none)->σ'.ob (σ.nx+4)=some (.cell none)->σ'.ob (σ.nx+5)=some (.cell a)->K [σ.nx,σ.nx+1,σ.nx+2,σ.nx+3,σ.nx+4,σ.nx+5] σ'):Hv [none,none,none,none,none,a] σ K:=
 q _ Kp.refl.new.new.new.new.new.new (ae (ae (ae (ae (ae ac))))) (ae (ae (ae (ae ac)))) (ae (ae (ae ac))) (ae (ae ac)) (ae ac) ac
theorem IH (hm:0≤m∧m≤1000) (hpl:jy σ pl p) (q:∀v σ',bC σ σ'->gY σ' v m p->K v σ'):Ph (n+2) 0 911 [.int m,.ref pl] σ K KE:=by
 refine dh (φ:=fX 2 [] [some 1,none,none] [none,none,none,none,none,some 0] Cd) rfl rfl ⟨rfl,mk6 λa B z f l s r g=>?_⟩;have D:=σ.wf;generalize hN:σ.nx=N at*;cases ho:qw p with
 |true=>
  cases p with
  |one i=>exact ch ho
  |two i c=>exact ch ho
  |rng x y b=>exact ch ho
  |odd j=>
   refine t_ (B.ob _ _ hpl trivial) rfl ⟨_,rfl,ao r ⟨_,rfl,ao ((au (d7)).trans s) ?_⟩⟩;refine jV aQ ?_;exact q _ _ ((B.setN (yb hN)).setN (yb hN)) rfl
 |false=>
  refine t_ (B.ob _ _ (hpl.pt ho) trivial) rfl ⟨_,rfl,ao r ⟨_,rfl,ao ((au (d7)).trans s) ?_⟩⟩;refine gX (oz ho) ?_;have J:bC σ ((a.set (N+4) (.cell (some (yD p)))).set (N+3) (.cell (some (.bool (zF p))))):=(B.setN (yb hN)).setN (yb hN);have C:∀{k o},k≠N+4->k≠N+3->a.ob k=some o->((a.set (N+4) (.cell (some (yD p)))).set (N+3) (.cell (some (.bool (zF p))))).ob k=some o:=λw R h=>(au R).trans ((au w).trans h);have s:((a.set (N+4) (.cell (some (yD p)))).set (N+3) (.cell (some (.bool (zF p))))).ob (N+3)=some (.cell (some (.bool (zF p)))):=aE ((au (d7)).trans s);have r:((a.set (N+4) (.cell (some (yD p)))).set (N+3) (.cell (some (.bool (zF p))))).ob (N+4)=some (.cell (some (yD p))):=(au (d7)).trans (aE r);have z:=C (HA) (HA) z;have f:=C (d7) (d7) f;have l:=C (d7) (d7) l;have g:=C (d7) (d7) g;generalize ((a.set (N+4) (.cell (some (yD p)))).set (N+3) (.cell (some (.bool (zF p)))))=σ5 at J z f l s r g ⊢;have G:∀{O I:Option SV} {F:SV->Sg->Prop},F (.int ((gM p).getD 0)) σ5->aO (ai .Is (aV 2) aN) (aI 0) (aV 2) (Ph (n+1)) ⟨[O,I,some (oI (gM p))],[N,N+1,N+2,N+3,N+4,N+5],[]⟩ σ5 F KE:=λ{O I F} q=>by
   cases h:gM p with
   |none=>rw[h]at q;exact bQ rfl q
   |some i=>rw[h]at q;exact bQ rfl q
  refine G ⟨_,rfl,ao l ?_⟩;have M:bC σ (σ5.set (N+2) (.cell (some (.int ((gM p).getD 0))))):=J.setN (yb hN);have A:∀{k o},k≠N+2->σ5.ob k=some o->(σ5.set (N+2) (.cell (some (.int ((gM p).getD 0))))).ob k=some o:=λw h=>(au w).trans h;have l:(σ5.set (N+2) (.cell (some (.int ((gM p).getD 0))))).ob (N+2)=some (.cell (some (.int ((gM p).getD 0)))):=aE l;have z:=A (HA) z;have f:=A (d7) f;have s:=A (d7) s;have r:=A (d7) r;have g:=A (d7) g;generalize (σ5.set (N+2) (.cell (some (.int ((gM p).getD 0)))))=σ6 at M z f l s r g ⊢;have u:∀H,(if eJ p then m else m+1)=H->∀σ',bC σ6 σ'->x7 (Ph (n+1)) ⟨[some (.ref pl),some (.str (y8 p)),some (oI (gM p))],[N,N+1,N+2,N+3,N+4,N+5],[]⟩ ((σ'.new (.list (if 0≤bM ((gM p).getD 0) m∧bM ((gM p).getD 0) m<H then[.int (bM ((gM p).getD 0) m)]else[]))).set (N+1) (.cell (some (.ref σ'.nx)))) (bp K) KE:=λH S σ' e=>by
   subst S;have Q:=ac (σ:=σ') (o:=.list (if 0≤bM ((gM p).getD 0) m∧bM ((gM p).getD 0) m<(if eJ p then m else m+1)then[.int (bM ((gM p).getD 0) m)]else[]));have f:=ae (o:=.list (if 0≤bM ((gM p).getD 0) m∧bM ((gM p).getD 0) m<(if eJ p then m else m+1)then[.int (bM ((gM p).getD 0) m)]else[])) (e.ob _ _ f trivial);have t:∀{k o},k≠N+1->σ6.ob k=some o->((σ'.new (.list (if 0≤bM ((gM p).getD 0) m∧bM ((gM p).getD 0) m<(if eJ p then m else m+1)then[.int (bM ((gM p).getD 0) m)]else[]))).set (N+1) (.cell (some (.ref σ'.nx)))).ob k=some o:=λw h=>(au w).trans (ae (e.ob _ _ h trivial));refine DF ho hm rfl ⟨_,t (HA) z⟩ (aE f) ((au (bE Q f rfl)).trans Q) (t (d7) s) (t (d7) r) (t (d7) g) λv E P d=>q v E ?_ d;have L:bC σ ((σ'.new (.list (if 0≤bM ((gM p).getD 0) m∧bM ((gM p).getD 0) m<(if eJ p then m else m+1)then[.int (bM ((gM p).getD 0) m)]else[]))).set (N+1) (.cell (some (.ref σ'.nx)))):=((M.trans e).new).setN (yb hN);exact⟨WX L.nx P.nx,λk o h Z=>P.ob _ _ (L.ob _ _ h trivial) (by have:=D _ _ h;exact Z75 this)⟩
  show bI (aA (y8 p) "one") _ _;rw[nS ho];cases w:eJ p with
  |true=>
   rw[w]at u;refine c_ rfl g ?_;exact ug hm (.inl rfl) rfl l g λσ' e=>⟨_,rfl,ao (ae (e.ob _ _ f trivial)) (u m rfl σ' e)⟩
  |false=>
   rw[w]at u;refine c_ rfl g ?_;exact ug hm (.inr rfl) rfl l g λσ' e=>⟨_,rfl,ao (ae (e.ob _ _ f trivial)) (u (m+1) rfl σ' e)⟩
def Bc (σ:Sg) (b:Nat) (c:Int) (e:Bool):Prop:=∃g s c' z,Box σ b g s c' e z∧c'≤c
def Mn (σ:Sg) (s:Ws):Prop:=∃k f o,s.tl=[(41,.ref k)]∧σ.ob k=some (.inst 40 f)∧f.lookup 1=some (.ref o)∧Mo σ "Object" o
def Hz (σ:Sg) (k:Nat) (x y:SV) (b:Bool):Prop:=∃i o,d9 σ 140 k i o true [(10,x),(11,y),(12,.bool b)]∧Mo σ "Range" o
variable {lo hi:Int} {e:Bool} {x y:SV} {bx:Nat}
theorem Bc.ob (B:Bc σ bx c e):∃g s c' z,σ.ob bx=some (.list [.int g,.int s,.int c',.bool e,.int z]):=by
 refine Hp B λg s c' z B h=>?_;exact(V7 g s c' z B.h)
theorem Bc.up {P:Nat->SO->Prop} (B:Bc σ bx c e) (h:Kp P σ σ') (hP:∀xs,P bx (.list xs)):Bc σ' bx c e:=by
 refine Hp B λg s d z a k=>?_;obtain⟨l,i,f,b,j⟩:=a;exact(yT g s d z ⟨h.ob _ _ l (hP _),i,f,b,j⟩ k)
variable {c':Int}
theorem Bc.ge (B:Bc σ bx c e) (h:c≤c'):Bc σ bx c' e:=by
 refine Hp B λg s a z d b=>?_;exact(yT g s a z d (Xl b h))
theorem pT (B:Bc σ bx c e) (hc:c<99000) (h0:0<m) (h1:m<1000) (q:∀r σ',0≤r->r<m->Bc σ' bx (c+1) e->dB bx σ σ'->K (.int r) σ'):Ph (n+1) 0 866 [.ref bx,.int m] σ K KE:=by
 refine Hp B λg s p z B h=>?_;refine Sx B (WA hc h) h0 h1 λr i b σ' d l hc f L=>q r σ' d l (yT i s b z f (Oa h hc)) ⟨L.nx,λk o a j=>(L.ob k (σ.wf _ _ a) j).trans a⟩
theorem Wv.but (h:Wv σ W s) (B:Bc σ bx c e) (b:dB bx σ σ'):Wv σ' W s:=by
 refine mH B.ob λg s d z a=>?_;exact iK h b a rfl
theorem CP (B:Bc σ bx c e) (hc:c<90000) (h0:lo≤hi) (h1:hi - lo<900) (q:∀r σ',Bc σ' bx (c+4) e->dB bx σ σ'->K (.int r) σ'):Ph (n+2) 0 878 [.ref bx,.int lo,.int hi] σ K KE:=by
 refine aK (k:=3) (d:=[]) (r:=1) (m:=ET) rfl rfl rfl ?_;refine pT B (cQ hc) (by decide) (by decide) λr a Z Z p x=>bW (λh=>?_) λh=>?_
 ·exact pT p (fo hc) (by lia) (fo h1) λO i Z Z C J=>q _ i (C.ge (m6)) (x.trans J)
 ·refine mH p.ob λN Q R j s=>?_
  refine(f4 (f4 (by decide) (by decide) (by decide) (by decide)) (f4 (by decide) (by decide) (by decide) (by decide)) (f4 (by decide) (by decide) (by decide) (by decide)) (i_ s rfl ⟨bl rfl,?_⟩));have y:bC a (a.new (.list [.int (2 ^ (63:Int).toNat),.int (2 ^ (64:Int).toNat),.int (10 ^ (30:Int).toNat),.int j])):=Kp.refl.new;have G:a.nx≠bx:=(cz s).symm;refine pT (p.up y λZ=>trivial) (fo hc) (by decide) (by decide) λf L u H D v=>?_;have g:=v.ob _ _ (ac (σ:=a) (o:=.list [.int (2 ^ (63:Int).toNat),.int (2 ^ (64:Int).toNat),.int (10 ^ (30:Int).toNat),.int j])) G;refine ao g ?_;show bI (decide (f<0)) _ _;rw[Xo (hO u)];have l:∃w:Int,[SV.int (2 ^ (63:Int).toNat),.int (2 ^ (64:Int).toNat),.int (10 ^ (30:Int).toNat),.int j][f.toNat]?=some (.int w):=by
   have:f=0∨f=1∨f=2∨f=3:=by lia
   rcases this with rfl|rfl|rfl|rfl<;>exact⟨_,rfl⟩
  obtain⟨w,A⟩:=l;refine⟨⟨by exact z8 u,by exact cQ H⟩,_,A,?_⟩;refine pT D (rS hc) (by decide) (by decide) λS F Z Z I M=>?_;refine pT I (Bu hc) (by decide) (by decide) λP b Z Z t E=>?_;have z:dB bx σ b:=(((x.trans y.to).trans v).trans M).trans E;exact bW (λh=>q _ b (t.ge (Cc)) z) λh=>q _ b (t.ge (Cc)) z
theorem Mn.upn (h:Mn σ s) (e:yz σ σ') (ht:s'.tl=s.tl):Mn σ' s':=by
 refine lq h λk f o d c b a=>?_;exact(hH k f o (ht.trans d) (e.ob _ _ c ⟨rfl,rfl⟩) b (a.upn e))
theorem Kp.snl (e:fV σ σ'):yz σ σ':=e.mono λZ Z Z h=>h.1
theorem nj (m:Mo σ z o) (q:K (.bool true) σ):Ph (n+2) 0 251 [.ref o,.ref o] σ K KE:=by
 refine gE m λi c a b d h=>?_;refine aK (k:=2) (d:=[]) (r:=1) (m:=Di) rfl rfl rfl (ij h rfl (ij h rfl ?_));show bI (!(aA "thing" "thing")) _ _;rw[aQ];show bI (aA "thing" "thing") _ _;rw[aQ];refine g_ h rfl rfl (g_ h rfl rfl ?_);show K (.bool (decide (i=i))) σ;rw[Xx rfl];exact q
def xY:AS:=ay (.l 5) (ei 140 137 (aa (am (aV 0) 0 ab) (aa (am (aV 0) 44 (aa (aS "Range") ab)) (aa (aV 1) (aa (aV 2) (aa (aV 3) ab)))))) (az (aV 5) 4 (aB true) (aq (aV 5)))
theorem eX {a4:Option SV} (h:Wv σ W s) (q:∀k σ' s',Po σ σ' W s s'->σ.nx≤k->Hz σ' k x y b->K (.ref k) σ'):xY (Ph (n+127)) ⟨[some (.ref W),some x,some y,some (.bool b),a4,none],[],[]⟩ σ (bp K) KE:=by
 refine h.me rfl rfl (cp h λm c=>?_);refine c.wd.me rfl rfl (iB c.wd (by decide+kernel) λo a l g u=>?_);refine f3 uM λf e p r j ⟨d,t⟩=>⟨rfl,?_⟩;subst t;refine k9 j rfl ?_;have i:bC a (e.set a.nx (.inst 140 (fT (s.n+1) (.ref o) d true [(10,x),(11,y),(12,.bool b)]))):=p.setN (Xy _);exact q _ _ l ((c.trans g).ext i) (WX c.kp.nx g.kp.nx:σ.nx≤a.nx) (uu _ _ ⟨d,aE j⟩ ((g.wd.ms _ u).up i.to))
theorem Hz.rg (h:Hz σ k x y b):Rg σ k x y b:=let ⟨i,o,h,_⟩:=h;(qU i o h)
theorem mJ:pN=aw (bO [ai .IsNot (aV 1) aN,ai .IsNot (aV 2) aN]) (ay (.l 4) (rO (bG .Eq (ag 244 (aa (aV 1) ab)) (aS "bool")) (bG .Eq (ag 244 (aa (aV 2) ab)) (aS "bool"))) (aw (cD [aP (aV 4),cF (aP (ag 251 (aa (am (aV 0) 48 (aa (aV 1) ab)) (aa (am (aV 0) 48 (aa (aV 2) ab)) ab))))]) (cS (am (aV 0) 56 (aa (aS "ArgumentError") (aa (aS "bad value for range") ab))) aF) aF)) xY:=rfl
theorem jD:aA "int" "bool"=false∧aA "sym" "bool"=false∧aA "thing" "bool"=false:=by
 decide+kernel
theorem gb (h:Wv σ W s) (hx:Nat.ble (kd x) 4=true) (hy:Nat.ble (kd y) 4=true) (hn:x=.none∨y=.none) (q:∀k σ' s',Po σ σ' W s s'->σ.nx≤k->Hz σ' k x y b->K (.ref k) σ'):Ph (n+128) 0 705 [.ref W,x,y,.bool b] σ K KE:=by
 refine aK (k:=4) (d:=[]) (r:=2) (m:=pN) rfl rfl rfl ?_;rw[mJ];by_cases h1:x=.none
 ·subst h1
  exact bQ rfl (eX h q)
 ·have a:y=.none:=hn.resolve_left h1
  subst a;refine bQ hx ?_;rw[(by cases x<;>first|exact absurd rfl h1|rfl:Nat.beq (kd x) 0=false)];exact bQ rfl (eX h q)
theorem l6 {i j:Int} (h:Wv σ W s) (q:∀k σ' s',Po σ σ' W s s'->σ.nx≤k->Hz σ' k (.int i) (.int j) b->K (.ref k) σ'):Ph (n+128) 0 705 [.ref W,.int i,.int j,.bool b] σ K KE:=by
 refine aK (k:=4) (d:=[]) (r:=2) (m:=pN) rfl rfl rfl ?_;rw[mJ];refine bQ rfl (bQ rfl (kE ?_));refine gX jD.1 ?_;refine kE ?_;refine gX jD.1 ?_;refine h.me rfl rfl (sX h λo l v c g=>?_);refine c.wd.me rfl rfl (sX c.wd λo2 u w a e=>?_);have t:o=o2:=a.wd.uq _ (a.ev.ks _ g) _ e rfl;subst t;exact nj (a.wd.ms _ e) (eX a.wd λk σ' s' p f r=>q k σ' s' ((c.trans a).trans p) (WX (WX c.kp.nx a.kp.nx) f) r)
theorem uk (hj:j<6) (ho:fF σ (j+3) x) (h:Wv σ W s) (q:∀k σ' s',Po σ σ' W s s'->σ.nx≤k->Hz σ' k x x b->K (.ref k) σ'):Ph (n+128) 0 705 [.ref W,x,x,.bool b] σ K KE:=by
 refine aK (k:=4) (d:=[]) (r:=2) (m:=pN) rfl rfl rfl ?_;rw[mJ]
 match j,hj,ho with
 |0,_,ho=>
  have ho:x=.str "a":=ho;subst ho;refine bQ rfl (bQ rfl (pj ?_));refine gX jD.2.1 ?_;refine pj ?_;refine gX jD.2.1 ?_;refine h.me rfl rfl (kj h λo l y c u=>?_);refine c.wd.me rfl rfl (kj c.wd λo2 t w a i=>?_);have v:o=o2:=a.wd.uq _ (a.ev.ks _ u) _ i rfl;subst v;exact nj (a.wd.ms _ i) (eX a.wd λk σ' s' p f r=>q k σ' s' ((c.trans a).trans p) (WX (WX c.kp.nx a.kp.nx) f) r)
 |j+1,hj,ho=>
  obtain⟨k,C,f,o,rfl,hk,rfl,ho,m⟩:=ho;have e:=eF (show j<5 by exact Z4 hj);have g:=m7 (show j<5 by exact Z4 hj);refine bQ rfl (bQ rfl (ij hk e ?_));refine gX jD.2.2 ?_;refine ij hk e ?_;refine gX jD.2.2 ?_;refine h.me rfl rfl (kl hk e g ho ?_);refine h.me rfl rfl (kl hk e g ho ?_);exact nj m (eX h q)
variable {d:Nat} {i1 i2:Int} {r t:Nat} {ow:SV}
theorem Dz (h:σ.ob k=some (.inst 120 [])) (q:∀d r σ',dB k σ σ'->σ.nx≤r->σ'.ob r=some .dic0->σ'.ob k=some (.inst 120 (fT i ow d false [(8,.ref r),(9,.none)]))->K .none σ'):Ph (n+2) 0 98 [.ref k,.int i,ow] σ K KE:=by
 refine aK (k:=3) (d:=[]) (r:=0) (m:=m98) rfl rfl rfl (eI rfl _ _ _ _ h λf a e j ⟨d,p⟩=>?_);subst p;have g:=ae (o:=.dic0) j;have b:=aE (o:=.inst 120 (fT i ow d false [(8,.ref a.nx)])) g;have c:a.nx≠k:=(cz j).symm;exact k9 g rfl (k9 b rfl (q d a.nx _ ((e.new.set λZ Z h=>h rfl).set λZ Z h=>h rfl) e.nx ((au c).trans ((au c).trans ac)) (aE b)))
theorem Xc8:aA "int" "thing"=false:=by
 decide+kernel
theorem KW (hk:σ.ob k=some (.inst 120 (fT i ow d false [(8,.ref r),(9,.none)]))) (hr:σ.ob r=some .dic0) (q:∀σ',dB r σ σ'->K .none σ'):Ph (n+3) 0 105 [.ref k,.int i1,.int i2] σ K KE:=by
 refine aK (k:=3) (d:=[]) (r:=2) (m:=BW) rfl rfl rfl ?_;refine dh (φ:=fX 1 [.int 12,.none] [some 0,none,none] [some 2,some 1] Gg) rfl rfl ⟨rfl,kE ?_⟩;show bI (!(aA "int" "thing")) _ _;rw[Xc8];refine⟨bl rfl,?_⟩;have b:=(Kp.refl.new.new.new:bC σ (((σ.new (.cell (some .none))).new (.cell (some (.int 12)))).new (.tup [.str "int",.int i1]))).ob _ _ hk trivial;have a:=(Kp.refl.new.new.new:bC σ (((σ.new (.cell (some .none))).new (.cell (some (.int 12)))).new (.tup [.str "int",.int i1]))).ob _ _ hr trivial;refine g_ b rfl rfl ⟨ao a trivial,⟨rfl,ao a (ao (ac:(((σ.new (.cell (some .none))).new (.cell (some (.int 12)))).new (.tup [.str "int",.int i1])).ob ((σ.new (.cell (some .none))).new (.cell (some (.int 12)))).nx=some (.tup [.str "int",.int i1])) ?_)⟩⟩;refine bQ rfl ⟨bl rfl,g_ (ae b) rfl rfl (ao (ae a) (ao (ae (ac:(((σ.new (.cell (some .none))).new (.cell (some (.int 12)))).new (.tup [.str "int",.int i1])).ob ((σ.new (.cell (some .none))).new (.cell (some (.int 12)))).nx=some (.tup [.str "int",.int i1]))) ?_))⟩;exact q _ (Kp.set (Kp.new (bC.to (Kp.refl.new.new.new:bC σ (((σ.new (.cell (some .none))).new (.cell (some (.int 12)))).new (.tup [.str "int",.int i1]))))) λZ Z h=>h rfl)
theorem DP (q:K (.int i) σ):Ph (n+1) 0 698 [.ref W,.int i] σ K KE:=aK (k:=2) (d:=[]) (r:=1) (m:=Ak) rfl rfl rfl ⟨⟨rfl,rfl⟩,q⟩
theorem xm (h:Wv σ W s) (hl:σ.ob l=some (.list [.ref t])) (ht:σ.ob t=some (.tup [.int i1,.int i2])) (q:∀k i o d r σ' s',Po σ σ' W s s'->σ'.ob k=some (.inst 120 (fT i (.ref o) d false [(8,.ref r),(9,.none)]))->Mo σ' "Hash" o->K (.ref k) σ'):Ph (n+130) 0 691 [.ref W,.ref l] σ K KE:=by
 refine aK (k:=2) (d:=[]) (r:=3) (m:=ED) rfl rfl rfl (h.me rfl rfl (cp h λz j=>?_));refine j.wd.me rfl rfl (iB (n:=n+3) j.wd (by decide+kernel) λo b C p B=>?_);refine xr (Dz ac λd r w A v x g=>⟨rfl,?_⟩);have a:bC b w:=mN Kp.refl.new A (Xy _);have c:=j.kp.trans p.kp;refine ao (a.ob _ _ (c.ob _ _ hl rfl) trivial) ⟨ao (a.ob _ _ (c.ob _ _ hl rfl) trivial) rfl,ao (a.ob _ _ (c.ob _ _ hl rfl) trivial) ⟨_,rfl,t_ (a.ob _ _ (c.ob _ _ ht rfl) trivial) rfl (S3 g rfl rfl ((p.wd.up a).me rfl rfl (DP (KW g x λf y=>?_))))⟩⟩;have u:bC b f:=iF a y (WX (Zt _) v);refine⟨ao (u.ob _ _ (c.ob _ _ hl rfl) trivial) rfl,?_⟩;exact q _ _ o d r f C ((j.trans p).ext u) (y.ob _ _ g (λe=>by rw[e,x]at g;cases g)) ((p.wd.ms _ B).up u.to)
theorem lst {P:Nat->Prop} (h:P n) (k:j<n->P j) (hj:j<n+1):P j:=(Nat.lt_succ_iff_lt_or_eq.mp hj).elim k λe=>e▸h
theorem Xff {P:Nat->Prop} (h0:P 0) (h1:P 1) (h2:P 2) (h3:P 3) (h4:P 4) (h5:P 5) (h6:P 6) (h7:P 7) (h8:P 8) (j:Nat) (hj:j<9):P j:=
 lst h8 (lst h7 (lst h6 (lst h5 (lst h4 (lst h3 (lst h2 (lst h1 (lst h0 λh=>absurd h (ZU _))))))))) hj
theorem jA (hj:j<9) (h:Wv σ W s) (hm:Mn σ s) (q:∀v σ' s',Po σ σ' W s s'->fF σ' j v->K v σ'):Ph (n+131) 0 885 [.ref W,.int (j:Nat)] σ K KE:=by
 refine gE h.w λZ Z Z Z Z g=>?_;refine aK (k:=2) (d:=[]) (r:=0) (m:=v6) rfl rfl rfl ?_;revert q;refine Xff (P:=λj=>(∀v σ' s',Po σ σ' W s s'->fF σ' j v->K v σ')->v6 (Ph (n+130)) ⟨List.map some [SV.ref W,SV.int (j:Nat)]++(List.map some []++List.replicate 0 none),[],[]⟩ σ (bp K) KE) ?_ ?_ ?_ ?_ ?_ ?_ ?_ ?_ ?_ j hj
 ·intro q
  exact⟨bl rfl,i_ ac rfl (q _ _ s ((Po.refl h).ext Kp.refl.new) rfl)⟩
 ·intro q
  exact⟨bl rfl,i_ ac rfl (q _ _ s ((Po.refl h).ext Kp.refl.new) rfl)⟩
 ·intro q
  exact⟨bl rfl,i_ ac rfl (q _ _ s ((Po.refl h).ext Kp.refl.new) rfl)⟩
 ·intro q
  exact⟨bl rfl,i_ ac rfl (q _ _ s ((Po.refl h).ext Kp.refl.new) rfl)⟩
 ·intro q
  have c:bC σ (σ.new (.list [.int 1])):=Kp.refl.new;exact h.me rfl rfl ⟨bl rfl,iL (h.up c) ac (bl rfl) λk i o x σ' s' e _ a ⟨⟨d,b⟩,_⟩=>q _ σ' s' ⟨e.p.wd,e.p.ev,c.to.trans e.p.kp⟩ (uN k 82 _ o rfl b rfl rfl a)⟩
 ·intro q
  have c:bC σ ((σ.new (.tup [.int 1,.int 2])).new (.list [.ref σ.nx])):=Kp.refl.new.new;exact h.me rfl rfl (eQ (bl rfl) (bl rfl) (xm (h.up c) ac (ae ac) λk i o d r σ' s' p b a=>q _ σ' s' ⟨p.wd,p.ev,c.to.trans p.kp⟩ (uN k 120 _ o rfl b rfl rfl a)))
 ·intro q
  refine lq hm λk f o w l t u=>?_;exact ao g.w ⟨rfl,_,(show List.lookup 41 s.tl=some (.ref k) by rw[w];rfl),q _ σ s (.refl h) (uN k 40 f o rfl l rfl t u)⟩
 ·intro q
  exact h.me rfl rfl (fP h λk i o σ' s' e a ⟨d,b⟩=>q _ σ' s' e.p (uN k 62 _ o rfl b rfl rfl a))
 ·intro q
  exact h.me rfl rfl (l6 h λk σ' s' p _ ⟨i,o,⟨d,b⟩,a⟩=>q _ σ' s' p (uN k 140 _ o rfl b rfl rfl a))
def sx:AS:=aq (aU (aa (aV 7) (aa (aU (aa (aS "odd") (aa (ap .Add (aS "TypeError: no implicit conversion ") (aV 6)) (aa (aI 0) (aa (aB false) ab))))) ab)))
def zh:AS:=ay (.l 8) (ax (bK (aa (aU (aa (aV 5) (aa aN ab))) (aa (aU (aa aN (aa (aV 5) ab))) (aa (aU (aa (aV 5) (aa (aV 5) ab))) ab)))) (ag 866 (aa (aV 1) (aa (aO (ai .Lt (aV 4) (aI 3)) (aI 2) (aI 3)) ab)))) (ay (.l 7) (bK (aa (am (aV 0) 54 (aa (ax (aV 8) (aI 0)) (aa (ax (aV 8) (aI 1)) (aa (bG .Eq (ag 866 (aa (aV 1) (aa (aI 2) ab))) (aI 1)) ab)))) ab)) aF)
def xX:AS:=lE (ai .Eq (aV 3) (aI 0)) (ay (.l 7) (bK (aa (aV 5) ab)) aF) (lE (ai .Eq (aV 3) (aI 1)) (ay (.l 7) (bK (aa (aV 5) (aa (ag 878 (aa (aV 1) (aa (ap .Sub (ap .Sub (aI 0) (aV 2)) (aI 2)) (aa (ap .Add (aV 2) (aI 2)) ab)))) ab))) aF) (lE (ai .Eq (aV 3) (aI 2)) (ay (.l 7) (bK (aa (ag 878 (aa (aV 1) (aa (ap .Sub (ap .Sub (aI 0) (aV 2)) (aI 2)) (aa (ap .Add (aV 2) (aI 2)) ab)))) (aa (aV 5) ab))) aF) (lE (ai .Eq (aV 3) (aI 3)) (ay (.l 7) (bK (aa (aV 5) (aa (ag 885 (aa (aV 0) (aa (ag 866 (aa (aV 1) (aa (aI 9) ab))) ab))) ab))) aF) zh aF) aF) aF) sx
def zI:AS:=ay (.l 5) (ag 885 (aa (aV 0) (aa (aV 4) ab))) (ay (.l 6) (aO (ai .Eq (aV 4) (aI 0)) (aS "from nil to integer") (ap .Add (ap .Add (aS "of ") (ax (ag 845 ab) (aV 4))) (aS " into Integer"))) xX)
end
structure St (σ:Sg) (W:Nat) (s:Ws) (bx:Nat) (c:Int) (e:Bool):Prop where
 w:Wv σ W s
 m:Mn σ s
 b:Bc σ bx c e
structure Go (σ σ':Sg) (W:Nat) (s s':Ws) (bx:Nat) (c:Int) (e:Bool):Prop where
 st:St σ' W s' bx c e
 ev:Wn s s'
 kp:qs bx σ σ'
section
variable {σ σ' σ1 σ0:Sg} {W:Nat} {s s' s1:Ws} {n C:Nat} {K:KV} {KE:KX} {z msg:Str} {k o l a li ow kT P j pl N lb lg d hl bx:Nat} {i f c m g nn mk lo hi i1 i2 c1 c2:Int} {fz b e:Bool} {x y v:SV} {xs:List SV} {r t:Nat} {p:Pl} {cs ds:List Nat} {ρ:Int×Int} {is:List Int} {Φ:Nat->eO} {a0 a1 a2 a3 a4 a5 a7 a8:Option SV}
theorem St.ne {o:SO} (h:St σ W s bx c e) (hk:σ.ob k=some o) (hL:isL o=false):k≠bx:=λb=>by
 refine mH h.b.ob λg s d z a=>?_;rw[b,a]at hk;obtain rfl:=jS hk;exact kB hL
theorem St.snl (h:St σ W s bx c e) (k:qs bx σ σ'):yz σ σ':=k.mono λZ Z a p=>⟨p.1,h.ne a p.2⟩
theorem St.tk (h:St σ W s bx c e) (hc:c<99000) (h0:0<m) (h1:m<1000) (q:∀r σ',0≤r->r<m->Go σ σ' W s s bx (c+1) e->K (.int r) σ'):Ph (n+1) 0 866 [.ref bx,.int m] σ K KE:=
 pT h.b hc h0 h1 λr σ' a d B b=>q r σ' a d ⟨⟨h.w.but h.b b,h.m.upn (h.snl b.stx) rfl,B⟩,.refl,b.stx⟩
theorem St.mark (h:St σ W s bx c e) (hc:c<90000) (h0:lo≤hi) (h1:hi - lo<900) (q:∀r σ',Go σ σ' W s s bx (c+4) e->K (.int r) σ'):Ph (n+2) 0 878 [.ref bx,.int lo,.int hi] σ K KE:=
 CP h.b hc h0 h1 λr σ' B b=>q r σ' ⟨⟨h.w.but h.b b,h.m.upn (h.snl b.stx) rfl,B⟩,.refl,b.stx⟩
theorem St.po (h:St σ W s bx c e) (p:Po σ σ' W s s'):Go σ σ' W s s' bx c e:=⟨⟨p.wd,h.m.upn p.kp.snl p.ev.tl,h.b.up p.kp λZ=>rfl⟩,p.ev,p.kp.stx⟩
theorem St.ext (h:St σ W s bx c e) (p:bC σ σ'):Go σ σ' W s s bx c e:=h.po ((Po.refl h.w).ext p)
theorem Go.refl (h:St σ W s bx c e):Go σ σ W s s bx c e:=⟨h,.refl,.refl⟩
theorem Go.trans (a:Go σ σ1 W s s1 bx c e) (b:Go σ1 σ' W s1 s' bx c1 e):Go σ σ' W s s' bx c1 e:=⟨b.st,a.ev.trans b.ev,a.kp.trans b.kp⟩
theorem Go.new {o:SO} (a:Go σ σ1 W s s1 bx c e):Go σ (σ1.new o) W s s1 bx c e:=a.trans (a.st.ext Kp.refl.new)
variable {c':Int}
theorem Go.ge (a:Go σ σ1 W s s1 bx c e) (h:c≤c'):Go σ σ1 W s s1 bx c' e:=⟨⟨a.st.w,a.st.m,a.st.b.ge h⟩,a.ev,a.kp⟩
theorem j9 (hj:j<9):(yJ j).length≤50000∧(g6.getD j "").length≤50000∧("of "++g6.getD j "").length≤50000:=by
 have:(List.range 9).all (λj=>Nat.ble (yJ j).length 50000&&(Nat.ble (g6.getD j "").length 50000&&Nat.ble ("of "++g6.getD j "").length 50000))=true:=by decide+kernel
 have:=WZ.mp this j (XG.mpr hj);obtain⟨a,b⟩:=(WU _ _).mp this;obtain⟨b,c⟩:=(WU _ _).mp b;exact⟨bl a,bl b,bl c⟩
theorem TM:yJ (j+1)="of "++g6.getD (j+1) ""++" into Integer":=by rfl
theorem TP:yJ 0="from nil to integer":=by rfl
abbrev qr (σ:Sg) (bx j:Nat) (c:Int) (e:Bool) (W:Nat) (s:Ws) (K:KV):Prop:=∀t hl pl σ' s',Go σ σ' W s s' bx c e->σ'.ob t=some (.tup [.ref hl,.ref pl])->Hd σ' hl (.odd j)->jy σ' pl (.odd j)->K (.ref t) σ'
theorem qr.pre (q:qr σ bx j c' e W s K) (g:Go σ σ1 W s s1 bx c e):qr σ1 bx j c' e W s1 K:=λt f k a b i l h d=>q t f k a b (g.trans i) l h d
theorem tK (h:St σ W s bx c e) (hj:j<9) (hl0:Hd σ hl (.odd j)) (q:∀t pl σ' s',Go σ σ' W s s' bx c e->σ'.ob t=some (.tup [.ref hl,.ref pl])->Hd σ' hl (.odd j)->jy σ' pl (.odd j)->K (.ref t) σ'):sx Φ ⟨[a0,a1,a2,a3,a4,a5,some (.str (yJ j)),some (.ref hl),a8],[],[]⟩ σ (bp K) KE:=by
 have a:bC σ ((σ.new (.tup [.str "odd",.str (dU j),.int 0,.bool false])).new (.tup [.ref hl,.ref σ.nx])):=Kp.refl.new.new;refine(f4 ⟨bl (by decide+kernel),(j9 hj).1⟩ (bl rfl) (bl rfl) ?_);exact q _ σ.nx _ s (h.ext a) ac (hl0.up a.to) (ae ac)
theorem kM (h:St σ W s bx c e) (hj:j<9) (hd:∀σ' l,yz σ σ'->σ'.ob l=some (.list xs)->Hd σ' l (.odd j)) (q:qr σ bx j c e W s K):sx Φ ⟨[a0,a1,a2,a3,a4,a5,some (.str (yJ j)),some (.ref σ.nx),a8],[],[]⟩ (σ.new (.list xs)) (bp K) KE:=by
 have a:bC σ (σ.new (.list xs)):=Kp.refl.new;have g:=h.ext a;exact tK g.st hj (hd _ _ (Kp.snl (bC.to a)) ac) λt k σ' b i d m f=>q t _ k σ' b (g.trans i) d m f
def ua (x:SV) (j:Nat) (u w:SV):Prop:=(u=x∧w=.none)∨(u=.none∧w=x)∨(u=x∧w=x∧3≤j)
def yY:AS:=ay (.l 7) (bK (aa (am (aV 0) 54 (aa (ax (aV 8) (aI 0)) (aa (ax (aV 8) (aI 1)) (aa (bG .Eq (ag 866 (aa (aV 1) (aa (aI 2) ab))) (aI 1)) ab)))) ab)) aF
variable {u w:SV} {a6:Option SV} {K':eY}
theorem uf (h:Wv σ W s) (hj:j+1<9) (ho:fF σ (j+1) x) (hp:ua x (j+1) u w) (q:∀k σ' s',Po σ σ' W s s'->Rg σ' k u w b->(fF σ' (j+1) u∨u=.none∧fF σ' (j+1) w)->K (.ref k) σ'):Ph (n+128) 0 705 [.ref W,u,w,.bool b] σ K KE:=by
 have a:=(fS (show j<8 by exact Z4 hj) ho).1;rcases hp with⟨rfl,rfl⟩|⟨rfl,rfl⟩|⟨rfl,rfl,h3⟩
 ·exact gb h a rfl (.inr rfl) λk σ' s' p Z r=>q k σ' s' p r.rg (.inl (ho.up hj p.kp))
 ·exact gb h rfl a (.inl rfl) λk σ' s' p Z r=>q k σ' s' p r.rg (.inr ⟨rfl,ho.up hj p.kp⟩)
 ·obtain⟨j,rfl⟩:∃i,j=i+2:=⟨j - 2,by lia⟩
  exact uk (by lia) ho h λk σ' s' p Z r=>q k σ' s' p r.rg (.inl (ho.up hj p.kp))
theorem CH (h:St σ W s bx c e) (hc:c<80000) (hj:j+1<9) (ho:fF σ (j+1) x) (hp:ua x (j+1) u w) (ht:σ.ob t=some (.tup [u,w])) (q:∀l σ' s',Go σ σ' W s s' bx (c+1) e->Hd σ' l (.odd (j+1))->K' .next ⟨[some (.ref W),some (.ref bx),a2,a3,a4,a5,a6,some (.ref l),some (.ref t)],[],[]⟩ σ'):yY (Ph (n+129)) ⟨[some (.ref W),some (.ref bx),a2,a3,a4,a5,a6,none,some (.ref t)],[],[]⟩ σ K' KE:=by
 refine h.w.me rfl rfl (i_ ht rfl (i_ ht rfl (h.tk (cQ hc) (by decide) (by decide) λr g Z Z b=>?_)));refine uf b.st.w hj (ho.upn hj (h.snl b.kp)) hp λk a f p m i=>⟨bl rfl,?_⟩;have d:bC a (a.new (.list [.ref k])):=Kp.refl.new;refine q _ _ f (b.trans (b.st.po p)).new ⟨hj,.inr (.d ac (m.up d.to) rfl (i.imp (λo=>o.up hj d.to) λo=>⟨o.1,o.2.up hj d.to⟩))⟩
theorem Eh (h:St σ W s bx c e) (hc:c<79000) (hj:j+1<9) (ho:fF σ (j+1) x) (q:∀l σ' s' a8,Go σ σ' W s s' bx (c+2) e->Hd σ' l (.odd (j+1))->K' .next ⟨[some (.ref W),some (.ref bx),a2,a3,some (.int ((j+1:Nat):Int)),some x,a6,some (.ref l),a8],[],[]⟩ σ'):zh (Ph (n+129)) ⟨[some (.ref W),some (.ref bx),a2,a3,some (.int ((j+1:Nat):Int)),some x,a6,none,none],[],[]⟩ σ K' KE:=by
 refine(I05 (bl rfl) (bl rfl) (bl rfl) (bl rfl) ?_);have d:((((σ.new (.tup [x,.none])).new (.tup [.none,x])).new (.tup [x,x])).new (.list [.ref σ.nx,.ref (σ.nx+1),.ref (σ.nx+1+1)])).ob (σ.nx+1)=some (.tup [.none,x]):=ae (ae ac);have k:=h.ext (Kp.refl.new.new.new.new:bC σ ((((σ.new (.tup [x,.none])).new (.tup [.none,x])).new (.tup [x,x])).new (.list [.ref σ.nx,.ref (σ.nx+1),.ref (σ.nx+1+1)])));have H:σ.nx+1+1+1≠bx:=λO=>by
  refine mH h.b.ob λg s N z E=>?_;have:=σ.wf _ _ E;lia
 have D:∀f:Int,0<f->f<1000->(∀r:Int,0≤r->r<f->r<2∨r<3∧3≤j+1)->∀p:SV->Sg->Prop,(∀t u w a,Go σ a W s s bx (c+1) e->a.ob t=some (.tup [u,w])->ua x (j+1) u w->p (.ref t) a)->Ph (n+129) 0 866 [.ref bx,.int f] ((((σ.new (.tup [x,.none])).new (.tup [.none,x])).new (.tup [x,x])).new (.list [.ref σ.nx,.ref (σ.nx+1),.ref (σ.nx+1+1)])) (λy σ'=>xF σ' (.ref (σ.nx+1+1+1)) y λv=>p v σ') KE:=λf G A F p q=>by
  refine k.st.tk (n:=n+128) (cQ hc) G A λr a m B b=>?_;refine ao (b.kp.ob _ _ (ac:((((σ.new (.tup [x,.none])).new (.tup [.none,x])).new (.tup [x,x])).new (.list [.ref σ.nx,.ref (σ.nx+1),.ref (σ.nx+1+1)])).ob (σ.nx+1+1+1)=some (.list [.ref σ.nx,.ref (σ.nx+1),.ref (σ.nx+1+1)])) ⟨rfl,H⟩) ?_;show bI (decide (r<0)) _ _;rw[Xo (hO m)];have o:∃t u w,[SV.ref σ.nx,.ref (σ.nx+1),.ref (σ.nx+1+1)][r.toNat]?=some (.ref t)∧a.ob t=some (.tup [u,w])∧ua x (j+1) u w:=by
   have d:=b.kp.ob _ _ d ⟨rfl,k.st.ne d rfl⟩;have:=F r m B;have:r=0∨r=1∨(r=2∧3≤j+1):=by lia
   rcases this with rfl|rfl|⟨rfl,h⟩
   ·exact(nG _ _ _ rfl (b.kp.ob _ _ (ae (ae (ae ac)):((((σ.new (.tup [x,.none])).new (.tup [.none,x])).new (.tup [x,x])).new (.list [.ref σ.nx,.ref (σ.nx+1),.ref (σ.nx+1+1)])).ob σ.nx=some (.tup [x,.none])) ⟨rfl,k.st.ne (ae (ae (ae ac)):((((σ.new (.tup [x,.none])).new (.tup [.none,x])).new (.tup [x,x])).new (.list [.ref σ.nx,.ref (σ.nx+1),.ref (σ.nx+1+1)])).ob σ.nx=some (.tup [x,.none])) rfl⟩) (.inl ⟨rfl,rfl⟩))
   ·exact(nG _ _ _ rfl d (.inr (.inl ⟨rfl,rfl⟩)))
   ·exact(nG _ _ _ rfl (b.kp.ob _ _ (ae ac:((((σ.new (.tup [x,.none])).new (.tup [.none,x])).new (.tup [x,x])).new (.list [.ref σ.nx,.ref (σ.nx+1),.ref (σ.nx+1+1)])).ob (σ.nx+1+1)=some (.tup [x,x])) ⟨rfl,k.st.ne (ae ac:((((σ.new (.tup [x,.none])).new (.tup [.none,x])).new (.tup [x,x])).new (.list [.ref σ.nx,.ref (σ.nx+1),.ref (σ.nx+1+1)])).ob (σ.nx+1+1)=some (.tup [x,x])) rfl⟩) (.inr (.inr (eQ rfl rfl h))))
  refine oH o λt u w I M L=>?_;exact⟨⟨m,by exact Xfk B A⟩,_,I,q t u w a (k.trans b) M L⟩
 have i:∀t u w a,Go σ a W s s bx (c+1) e->a.ob t=some (.tup [u,w])->ua x (j+1) u w->yY (Ph (n+129)) ⟨[some (.ref W),some (.ref bx),a2,a3,some (.int ((j+1:Nat):Int)),some x,a6,none,some (.ref t)],[],[]⟩ a K' KE:=λt u w a b J C=>
  CH b.st (fo hc) hj (ho.upn hj (h.snl b.kp)) C J λl σ' s' g K=>q l σ' s' _ ((b.trans g).ge (m6)) K
 refine bW (λh=>?_) λh=>?_
 ·exact D 2 (by decide) (by decide) (λr Z h=>.inl h) _ i
 ·refine D 3 (by decide) (by decide) (λr Z d=>.inr ⟨d,?_⟩) _ i
  lia
def yE:AS:=aw (bO [ai .Eq (aV 3) (aI 4),ai .Eq (aV 4) (aI 0)]) (ay (.l 4) (aI 3) aF) zI
def y7:AS:=aw (bO [ai .Eq (aV 3) (aI 0),ai .Gt (aV 4) (aI 6)]) (ay (.l 4) (ap .Sub (aV 4) (aI 7)) aF) yE
theorem zU:uR=cT [.l 3,.l 4] (aU (aa (ag 866 (aa (aV 1) (aa (aI 5) ab))) (aa (ag 866 (aa (aV 1) (aa (aI 9) ab))) ab))) y7:=rfl
variable {wy:Int}
theorem qY (h:St σ W s bx c e) (hc:c<78000) (hm:0≤m∧m≤300) (hj:j<9) (ho:fF σ j x) (hw:0≤wy∧wy<5) (h0:wy=0->j<7) (h4:wy=4->j≠0) (q:qr σ bx j (c+8) e W s K):xX (Ph (n+131)) ⟨[some (.ref W),some (.ref bx),some (.int m),some (.int wy),some (.int (j:Nat)),some x,some (.str (yJ j)),none,none],[],[]⟩ σ (bp K) KE:=by
 have:wy=0∨wy=1∨wy=2∨wy=3∨wy=4:=by lia
 rcases this with rfl|rfl|rfl|rfl|rfl
 ·exact⟨bl rfl,kM ((Go.refl h).ge (c':=c+8) (pC)).st hj (λd l f k=>⟨hj,.inl (ju x k (h0 rfl) (ho.upn hj f))⟩) q⟩
 ·refine h.mark (n:=n+129) (cQ hc) (mT hm) (ng hm) λr a b=>⟨bl rfl,?_⟩
  have o1:=ho.upn hj (h.snl b.kp);have b:=b.ge (c':=c+8) (kn);exact kM b.st hj (λd l f k=>⟨hj,.inr (.b k (o1.upn hj f))⟩) ((λg=>q.pre g:∀{a s1},Go σ a W s s1 bx (c+8) e->qr a bx j (c+8) e W s1 K) b)
 ·refine h.mark (n:=n+129) (cQ hc) (mT hm) (ng hm) λr a b=>⟨bl rfl,?_⟩
  have b:=b.ge (c':=c+8) (kn);exact kM b.st hj (λd l f k=>⟨hj,.inr (.c k ((ho.upn hj (h.snl b.kp)).upn hj f))⟩) ((λg=>q.pre g:∀{a s1},Go σ a W s s1 bx (c+8) e->qr a bx j (c+8) e W s1 K) b)
 ·refine h.tk (n:=n+130) (cQ hc) (by decide) (by decide) λr a y C b=>?_
  obtain⟨r,rfl⟩:=XM y;refine jA (j:=r) (Ss C) b.st.w b.st.m λv o w u F=>⟨bl rfl,?_⟩;have p:=(b.trans (b.st.po u)).ge (c':=c+8) (kn);exact kM p.st hj (λd l f k=>⟨hj,.inr (.b k (((ho.upn hj (h.snl b.kp)).up hj u.kp).upn hj f))⟩) ((λg=>q.pre g:∀{a s1},Go σ a W s s1 bx (c+8) e->qr a bx j (c+8) e W s1 K) p)
 ·obtain⟨j,rfl⟩:∃i,j=i+1:=⟨j - 1,by have:=h4 rfl;exact Z48 this⟩
  refine Eh (n:=n+2) h (cQ hc) hj ho λl d G H g A=>?_;have g:=g.ge (c':=c+8) (kn);exact tK g.st hj A λt D o w p B E z=>q t l D o w (g.trans p) B E z
theorem uD (q:K (.ref σ.nx) (σ.new (.list (g6.map .str)))):Ph (n+1) 0 845 [] σ K KE:=aK (k:=0) (d:=[]) (r:=0) (m:=AX) rfl rfl rfl ⟨bl rfl,q⟩
theorem mO (h:St σ W s bx c e) (hc:c<78000) (hm:0≤m∧m≤300) (hj:j<9) (hw:0≤wy∧wy<5) (h0:wy=0->j<7) (h4:wy=4->j≠0) (q:qr σ bx j (c+8) e W s K):zI (Ph (n+131)) ⟨[some (.ref W),some (.ref bx),some (.int m),some (.int wy),some (.int (j:Nat)),none,none,none,none],[],[]⟩ σ (bp K) KE:=by
 refine jA hj h.w h.m λx a k i g=>?_;have b:=h.po i;cases j with
 |zero=>
  have:=qY (n:=n) (KE:=KE) b.st hc hm hj g hw h0 h4 (q.pre b);rw[TP]at this;exact this
 |succ j=>
  refine bW (λh=>by have h:((j+1:Nat):Int)=0:=h;omega) λZ=>?_;refine uD (ao ac ?_);show bI (decide (((j+1:Nat):Int)<0)) _ _;rw[Xo (by omega)];have d:bC a (a.new (.list (g6.map .str))):=Kp.refl.new;have f:=b.trans (b.st.ext d);refine⟨⟨by omega,by omega⟩,.str (g6.getD (j+1) ""),?_,⟨bl (by decide+kernel),(j9 hj).2.1⟩,⟨(j9 hj).2.2,bl (by decide+kernel)⟩,?_⟩
  ·rw[Xd]
   show Option.map _ g6[j+1]?=_;rw[Xf (show j+1<g6.length by show j+1<9;omega)];congr 1;congr 1;rw[YX,Xf (show j+1<g6.length by show j+1<9;omega)];rfl
  ·have:=qY (n:=n) (KE:=KE) f.st hc hm hj (g.up hj d.to) hw h0 h4 (q.pre f)
   rw[TM]at this;exact this
variable {fr:ca}
theorem tD {K:Bool->Sg->Prop} (q:K true σ):bO [] Φ fr σ K KE:=q
theorem pA {A B:Prop} (q:A):bI true A B:=q
variable {R:ca->Sg->Prop}
theorem mW {i:Nat} {a:AE} {K:eY} (ha:∀K':KV,K' v σ->a Φ fr σ K' KE) (hl:Nat.blt i fr.loc.length=true) (q:R (fr.put i v) σ):ay (.l i) a aF Φ fr σ (kX R K) KE:=by
 refine ha _ ?_;refine jV hl ?_;exact q
theorem np (h:St σ W s bx c e) (hc:c<78000) (hm:0≤m∧m≤300) (hj:j<9) (hw:0≤wy∧wy<5) (h0:wy=0->j<7) (q:∀j,j<9->qr σ bx j (c+8) e W s K):yE (Ph (n+131)) ⟨[some (.ref W),some (.ref bx),some (.int m),some (.int wy),some (.int (j:Nat)),none,none,none,none],[],[]⟩ σ (bp K) KE:=by
 refine bW (λb=>bW (λa=>?_) λa=>?_) λb=>?_
 ·refine tD (pA (mW (v:=.int 3) (λZ q=>q) rfl ?_))
  exact(mO (j:=3) h hc hm (by decide) hw (λZ=>by decide) (λZ=>by decide) (q 3 (by decide)))
 ·refine mO h hc hm hj hw h0 (λZ=>?_) (q j hj)
  have a:¬(j:Int)=0:=a;lia
 ·exact mO h hc hm hj hw h0 (λa=>absurd a b) (q j hj)
theorem Ce (h:St σ W s bx c e) (hc:c<78000) (hm:0≤m∧m≤300) (hj:j<9) (hw:0≤wy∧wy<5) (q:∀j,j<9->qr σ bx j (c+8) e W s K):y7 (Ph (n+131)) ⟨[some (.ref W),some (.ref bx),some (.int m),some (.int wy),some (.int (j:Nat)),none,none,none,none],[],[]⟩ σ (bp K) KE:=by
 refine bW (λb=>bW (λa=>?_) λa=>?_) λb=>?_
 ·have a:6<(j:Int):=a
  have:=np (n:=n) (KE:=KE) (j:=j - 7) h hc hm (by lia) hw (λZ=>by lia) q;rw[show((j - 7:Nat):Int)=(j:Int) - 7 by lia]at this;refine tD (pA (mW (v:=.int ((j:Int) - 7)) (λZ q=>q) rfl ?_));exact this
 ·have a:¬6<(j:Int):=a
  exact np h hc hm hj hw (λZ=>by lia) q
 ·exact np h hc hm hj hw (λa=>absurd a b) q
theorem UQ (h:St σ W s bx c e) (hc:c<77000) (hm:0≤m∧m≤300) (q:∀j,j<9->qr σ bx j (c+10) e W s K):Ph (n+132) 0 892 [.ref W,.ref bx,.int m] σ K KE:=by
 refine aK (k:=3) (d:=[]) (r:=6) (m:=uR) rfl rfl rfl ?_;rw[zU];refine h.tk (n:=n+130) (cQ hc) (by decide) (by decide) λu t f i a=>?_;refine a.st.tk (n:=n+130) (fo hc) (by decide) (by decide) λr w p v g=>⟨bl rfl,t_ ac rfl ?_⟩;obtain⟨r,rfl⟩:=XM p;have b:=(a.trans g).new (o:=.tup [.int u,.int (r:Int)]);refine Ce b.st (rS hc) hm (Ss v) ⟨f,i⟩ λj l=>?_;have:=(q j l).pre b;rw[show c+1+1+8=c+10 by lia];exact this
abbrev vo (σ:Sg) (bx:Nat) (c:Int) (e:Bool) (W:Nat) (s:Ws) (K:KV):Prop:=∀t hl pl p σ' s',Go σ σ' W s s' bx c e->σ'.ob t=some (.tup [.ref hl,.ref pl])->Hd σ' hl p->jy σ' pl p->K (.ref t) σ'
variable {tn:Int} {x y:Option Int}
theorem vo.pre (q:vo σ bx c' e W s K) (g:Go σ σ1 W s s1 bx c e):vo σ1 bx c' e W s1 K:=λt f j p a b i k h d=>q t f j p a b (g.trans i) k h d
theorem vo.le (q:vo σ bx c' e W s K) (h:c≤c'):vo σ bx c e W s K:=λt f j p a b i k g d=>q t f j p a b (i.ge h) k g d
theorem tM {K:eY} (q:R fr σ):aF Φ fr σ (kX R K) KE:=q
theorem DL {K:Bool->Sg->Prop} (q:K false σ):cD [] Φ fr σ K KE:=q
theorem yG {A B:Prop} (q:B):bI false A B:=q
theorem dO {i:Nat} {a:AE} {r:AS} {K:eY} (hl:Nat.blt i fr.loc.length=true) (q:a Φ fr σ (λv σ'=>r Φ (fr.put i v) σ' K KE) KE):ay (.l i) a r Φ fr σ K KE:=by
 show a Φ fr σ (λv σ'=>bI (Nat.blt i fr.loc.length) (r Φ (fr.put i v) σ' K KE) False) KE;rw[hl];exact q
theorem C9 {i:Nat} {a:AE} {K:eY} (hl:Nat.blt i fr.loc.length=true) (q:a Φ fr σ (λv σ'=>R (fr.put i v) σ') KE):ay (.l i) a aF Φ fr σ (kX R K) KE:=by
 show a Φ fr σ (λv σ'=>bI (Nat.blt i fr.loc.length) (R (fr.put i v) σ') False) KE;rw[hl];exact q
theorem cy {t:AT} {a r:AS} {K:eY} (ht:∀K':Bool->Sg->Prop,K' false σ->t Φ fr σ K' KE) (q:r Φ fr σ K KE):aw t a r Φ fr σ K KE:=ht _ q
theorem iz {t:AT} {a r:AS} {K:eY} (ht:∀K':Bool->Sg->Prop,K' true σ->t Φ fr σ K' KE) (q:a Φ fr σ (kX (λfr σ=>r Φ fr σ K KE) K) KE):aw t a r Φ fr σ K KE:=ht _ q
theorem yl {t:AT} {a b r:AS} {K:eY} (ht:∀K':Bool->Sg->Prop,K' false σ->t Φ fr σ K' KE) (q:b Φ fr σ (kX (λfr σ=>r Φ fr σ K KE) K) KE):lE t a b r Φ fr σ K KE:=ht _ q
theorem Ic {t:AT} {a b r:AS} {K:eY} (ht:∀K':Bool->Sg->Prop,K' true σ->t Φ fr σ K' KE) (q:a Φ fr σ (kX (λfr σ=>r Φ fr σ K KE) K) KE):lE t a b r Φ fr σ K KE:=ht _ q
theorem aN_ (q:K .none σ):aN Φ fr σ K KE:=q
theorem il {i j:Nat} {K:ca->Sg->Prop} (h1:Nat.blt j fr.loc.length=true) (h2:Nat.blt i (fr.put j w).loc.length=true) (q:K ((fr.put j w).put i v) σ):jY [Tg.l i,Tg.l j].reverse [v,w].reverse fr σ K:=by
 show bI (Nat.blt j fr.loc.length) (bI (Nat.blt i (fr.put j w).loc.length) (K ((fr.put j w).put i v) σ) False) False;rw[h1,h2];exact q
theorem qx (h:Wv σ W s) (q:∀k σ' s',Po σ σ' W s s'->Rg σ' k (oI x) (oI y) b->K (.ref k) σ'):Ph (n+128) 0 705 [.ref W,oI x,oI y,.bool b] σ K KE:=by
 cases x with
 |none=>exact gb h rfl (by cases y<;>rfl) (.inl rfl) λk σ' s' p Z r=>q k σ' s' p r.rg
 |some i=>
  cases y with
  |none=>exact gb h rfl rfl (.inr rfl) λk σ' s' p Z r=>q k σ' s' p r.rg
  |some j=>exact l6 h λk σ' s' p Z r=>q k σ' s' p r.rg
theorem tW (h:St σ W s bx c e) (q:vo σ bx c e W s K):aq (aU (aa (bK (aa (am (aV 0) 54 (aa (aV 5) (aa (aV 7) (aa (aV 8) ab)))) ab)) (aa (aU (aa (aS "range") (aa (aV 5) (aa (aV 7) (aa (aV 8) ab))))) ab))) (Ph (n+128)) ⟨[some (.ref W),a1,a2,a3,a4,some (oI x),a6,some (oI y),some (.bool b)],[],[]⟩ σ (bp K) KE:=by
 refine h.w.me rfl rfl (qx h.w λk a g f i=>(f4 (bl rfl) (bl rfl) (bl rfl) ?_));have d:bC a (((a.new (.list [.ref k])).new (.tup [.str "range",oI x,oI y,.bool b])).new (.tup [.ref a.nx,.ref (a.nx+1)])):=Kp.refl.new.new.new;exact q _ a.nx (a.nx+1) (.rng x y b) _ g ((h.po f).trans ((h.po f).st.ext d)) ac (bv k (ae (ae ac)) (i.up d.to)) (ae ac)
theorem mQ (h:St σ W s bx c e) (hc:c<90000) (q:vo σ bx (c+1) e W s K):ay (.l 8) (rO (bG .Eq (aV 3) (aI 0)) (bG .Eq (ag 866 (aa (aV 1) (aa (aI 2) ab))) (aI 1))) (aq (aU (aa (bK (aa (am (aV 0) 54 (aa (aV 5) (aa (aV 7) (aa (aV 8) ab)))) ab)) (aa (aU (aa (aS "range") (aa (aV 5) (aa (aV 7) (aa (aV 8) ab))))) ab)))) (Ph (n+128)) ⟨[some (.ref W),some (.ref bx),a2,some (.int tn),a4,some (oI x),a6,some (oI y),none],[],[]⟩ σ (bp K) KE:=by
 refine bW (λd=>?_) λd=>?_
 ·exact tW h (q.le (pC))
 ·refine h.tk (n:=n+127) (cQ hc) (by decide) (by decide) λr b f g a=>?_
  exact tW a.st (q.pre a)
theorem Lm (h:St σ W s bx c e) (hc:c<70000) (hm:0≤m∧m≤300) (q:vo σ bx (c+20) e W s K):Ph (n+133) 0 899 [.ref W,.ref bx,.int m,.int tn] σ K KE:=by
 refine aK (k:=4) (d:=[]) (r:=5) (m:=AM) rfl rfl rfl ?_;refine dO rfl ⟨by decide,?_⟩;have P:0≤tn % 6∧tn % 6<6:=⟨YN _ (by decide),Yw _ (by decide)⟩;generalize tn % 6=wy at P ⊢;have:wy=0∨wy=1∨wy=2∨wy=3∨wy=4∨wy=5:=by lia
 rcases this with rfl|rfl|rfl|rfl|rfl|rfl
 ·refine cy (λZ q=>q) (cy (λZ q=>q) (cy (λZ q=>q) (yl (λZ q=>q) (dO rfl ?_))))
  refine h.mark (n:=n+130) (cQ hc) (mT hm) (ng hm) λb a i=>?_;refine mW (v:=.none) (λZ q=>q) rfl ?_;exact mQ (n:=n+4) (x:=some b) (y:=none) i.st (fo hc) ((q.pre i).le (m6))
 ·refine cy (λZ q=>q) (cy (λZ q=>q) (iz (λZ q=>q) ?_))
  refine h.mark (n:=n+130) (cQ hc) (mT hm) (ng hm) λb a i=>?_;refine i.st.mark (n:=n+130) (fo hc) (by show -1≤m+2;exact Oa hm.1 (by decide)) (by show m+2 - -1<900;lia) λz p l=>⟨bl rfl,t_ ac rfl (f4 (bl rfl) (bl rfl) (bl rfl) ?_)⟩;have u:=(i.trans l).new (o:=.tup [.int b,.int z]);generalize p.new (.tup [.int b,.int z])=f at u ⊢;exact(q.pre u) _ f.nx (f.nx+1) (.two b z) _ s ((u.st.ext (Kp.refl.new.new.new:bC f (((f.new (.list [.int b,.int z])).new (.tup [.str "two",.int b,.int z,.bool false])).new (.tup [.ref f.nx,.ref (f.nx+1)])))).ge (m6)) ac (ae (ae ac)) (ae ac)
 ·have J:∀{a A} (x y:Option Int),Go σ a W s s bx A e->A≤c+12->ay (.l 8) (rO (bG .Eq (aV 3) (aI 0)) (bG .Eq (ag 866 (aa (aV 1) (aa (aI 2) ab))) (aI 1))) (aq (aU (aa (bK (aa (am (aV 0) 54 (aa (aV 5) (aa (aV 7) (aa (aV 8) ab)))) ab)) (aa (aU (aa (aS "range") (aa (aV 5) (aa (aV 7) (aa (aV 8) ab))))) ab)))) (Ph (n+132)) ⟨[some (.ref W),some (.ref bx),some (.int m),some (.int tn),some (.int 2),some (oI x),none,some (oI y),none],[],[]⟩ a (bp K) KE:=λ{a A} x y g hc=>mQ (n:=n+4) g.st (T0 hc (by assumption)) ((q.pre g).le (FA hc))
  have B:∀{a A} (x:Option Int),Go σ a W s s bx A e->A≤c+7->ay (.l 7) (aO (cD [ai .Eq (aV 4) (aI 0),ai .Eq (ag 866 (aa (aV 1) (aa (aI 4) ab))) (aI 3)]) aN (ag 878 (aa (aV 1) (aa (ap .Sub (ap .Sub (aI 0) (aV 2)) (aI 2)) (aa (ap .Add (aV 2) (aI 2)) ab))))) aF (Ph (n+132)) ⟨[some (.ref W),some (.ref bx),some (.int m),some (.int tn),some (.int 2),some (oI x),none,none,none],[],[]⟩ a (kX (λQ σ=>ay (.l 8) (rO (bG .Eq (aV 3) (aI 0)) (bG .Eq (ag 866 (aa (aV 1) (aa (aI 2) ab))) (aI 1))) (aq (aU (aa (bK (aa (am (aV 0) 54 (aa (aV 5) (aa (aV 7) (aa (aV 8) ab)))) ab)) (aa (aU (aa (aS "range") (aa (aV 5) (aa (aV 7) (aa (aV 8) ab))))) ab)))) (Ph (n+132)) Q σ (bp K) KE) (bp K)) KE:=λ{a A} x g hc=>by
   refine C9 rfl ?_;refine g.st.tk (n:=n+131) (T0 hc (by assumption)) (by decide) (by decide) λr p Z Z l=>bW (λh=>?_) λh=>?_
   ·refine pA (aN_ ?_)
    exact J x none (g.trans l) (FA hc)
   ·refine DL (yG ?_)
    refine l.st.mark (n:=n+130) (XcW hc (by assumption)) (mT hm) (ng hm) λz f u=>?_;exact J x (some z) ((g.trans l).trans u) (Xac hc)
  refine cy (λZ q=>q) (cy (λZ q=>q) (cy (λZ q=>q) (yl (λZ q=>q) (dO rfl ?_))));refine h.tk (n:=n+131) (cQ hc) (by decide) (by decide) λr a Z Z i=>bW (λh=>?_) λh=>?_
  ·refine tD (pA (aN_ ?_))
   exact B none i (kn)
  ·refine yG ?_
   refine i.st.mark (n:=n+130) (fo hc) (mT hm) (ng hm) λb p l=>?_;exact B (some b) (i.trans l) (m6)
 ·refine cy (λZ q=>q) (iz (λZ q=>q) ?_)
  refine h.mark (n:=n+130) (cQ hc) (mT hm) (ng hm) λb a i=>(f4 (bl rfl) (bl rfl) (bl rfl) ?_);exact(q.pre i) _ a.nx (a.nx+1) (.one b) _ s ((i.st.ext (Kp.refl.new.new.new:bC a (((a.new (.list [.int b])).new (.tup [.str "one",.int b,.int 0,.bool false])).new (.tup [.ref a.nx,.ref (a.nx+1)])))).ge (kn)) ac (ae (ae ac)) (ae ac)
 ·refine iz (λZ q=>q) ?_
  exact UQ h (cQ hc) hm λj Y t V X F R g O H S=>q t V X (.odd j) F R (g.ge (kn)) O H S
 ·refine cy (λZ q=>q) (cy (λZ q=>q) (cy (λZ q=>q) (Ic (λZ q=>q) (dO rfl ?_))))
  refine h.tk (n:=n+131) (cQ hc) (XeA hm.1) (by lia) λb a Z Z i=>dO rfl ?_;refine i.st.tk (n:=n+131) (fo hc) (by decide) (by decide) λr p Z Z l=>?_;have M:∀w:Int,0≤w->w<2->IntMulOk m w:=λw O H=>.of_left (intBits_le_64 (by lia) (SK hm.2));refine l.st.tk (n:=n+131) (rS hc) (by decide) (by decide) λI f D C u=>⟨M _ D C,?_⟩;refine u.st.tk (n:=n+131) (Bu hc) (by decide) (by decide) λN T E G U=>(eQ (M _ E G) (bl rfl) (t_ ac rfl ?_));have L:=(((i.trans l).trans u).trans U).new (o:=.tup [.int (b - m*I),.int (b+r - 2 - m*N)]);refine il rfl rfl (tM ?_);exact mQ (n:=n+4) (x:=some (b - m*I)) (y:=some (b+r - 2 - m*N)) L.st (Xft hc) ((q.pre L).le (XfF))
variable {d0 d1 si gl ou:Nat} {x:SV}
theorem VD (h:Wv σ W s) (w:WvF σ W s d0 d1 si gl ou) (b:dB W σ σ') (hm:s'.m=s.m) (hk:s'.ks=s.ks) (ht:(∀a,Nat.beq a 41=false->s'.tl.lookup a=none)∧s'.tl.length≤10) (h2:σ'.ob W=some (.inst 834 (jT d0 d1 si gl ou s'))):Wv σ' W s':=by
 obtain⟨_,m,u,q,g,x,l,y⟩:=h;have c:∀{k o},σ.ob k=some o->o≠ .inst 834 (jT d0 d1 si gl ou s)->k≠W:=λhk r t=>by
  rw[t,w.w]at hk;exact r (W7 hk).symm
 refine⟨iM d0 d1 si gl ou ⟨h2,by rw[hm];exact w.ne,b.ob _ _ w.d0 (c w.d0 nofun),b.ob _ _ w.d1 (c w.d1 nofun)⟩,by rw[hm,hk];exact b.ob _ _ m (c m fZ),λp j=>?_,by rw[hk];exact q,by rw[hk];exact g,by rw[hk];exact x,jx l b (pJ w.w rfl),ht⟩;rw[hk]at j;refine gE (u p j) λi v f n d h=>?_;refine(iM i v f n d (b.ob _ _ h (c h ?_)));intro e;injection e with e;exact absurd e (by decide)
theorem I5:oo []≤40:=bl (by decide+kernel)
theorem vD (h:Wv σ W s) {ks:List (Str×Nat)} (hk:∀p∈ks,p.1∈jk) (hl:σ.ob l=some (.list (ks.map λp=>.str p.1))) {W':eY} (hN:ks.length=N) (q:∀fr,W' .next fr σ):∀m i fr,i+m=N->(∃a1 a2 a3 a4 a5,fr=⟨[some (.ref W),a1,a2,a3,a4,a5],[],[]⟩)->nM (.list l N) (Tg.put (.l 5)) (λfr σ K=>cS (am (aV 0) 46 (aa (aV 5) ab)) aF (Ph (n+1)) fr σ K pR) W' m i fr σ:=by
 intro m
 induction m with
 |zero=>
  intro i fr a b;exact⟨ao hl ((W0 ..).trans hN),q fr⟩
 |succ m ih=>
  intro i fr a ⟨a1,a2,a3,a4,a5,b⟩;subst b;have c:i<ks.length:=by exact Z28 hN a
  refine⟨ao hl ((W0 ..).trans hN),ao hl ⟨.str ks[i].1,by rw[Xd,Xf c];rfl,h.me rfl rfl (jt h (hk _ (List.getElem_mem c)) ?_)⟩⟩;exact ih (i+1) _ (vH a) (iM a1 a2 a3 a4 _ rfl)
def om:AS:=lM (bH dG (aa (aj (aV 0) 34) ab)) (Tg.put (.l 5)) (cS (am (aV 0) 46 (aa (aV 5) ab)) aF) aF
theorem vm (h:Wv σ W s) (hk:∃p,p∈s.ks) (q:∀σ',bC σ σ'->K .none σ'):om (Ph (n+1)) ⟨[some (.ref W),a1,a2,a3,a4,a5],[],[]⟩ σ (bp K) KE:=by
 refine gE h.w λZ Z Z Z Z c=>?_;have a:=h.m;have b:=h.len;have d:=h.nm;refine g_ c.w rfl rfl (.inr (.inr ?_));revert a b d hk;cases s.ks with
 |nil=>exactλ⟨p,i⟩=>nomatch i
 |cons p r=>
  intro hk a b d;rw[(rfl:eR (p::r)=.dic (wu (p::r)))]at a;refine ao a ⟨by rw[W0];exact Z62 b,?_⟩;have j:pK (wu (p::r))=(p::r).map λp=>SV.str p.1:=by unfold pK;rw[Yp];rfl
  rw[j];have e:bC σ (σ.new (.list ((p::r).map λp=>.str p.1))):=Kp.refl.new;refine ao ac ?_;have:=vD (n:=n) (h.up e) d ac (W':=kX (λg σ=>aF (Ph (n+1)) g σ (bp K) KE) (bp K)) (W0 (f:=λp:Str×Nat=>SV.str p.1) (as:=p::r)).symm (λg=>q _ e) _ 0 ⟨[some (.ref W),a1,a2,a3,a4,a5],[],[]⟩ (X9 _) (iM a1 a2 a3 a4 a5 rfl);exact this
def Sk:AS:=az (aV 0) 41 (ei 40 37 (aa (am (aV 0) 0 ab) (aa (am (aV 0) 44 (aa (aS "Object") ab)) ab))) (az (aV 0) 40 (aB true) om)
theorem xS (h:Wv σ W s) (ht:s.tl=[]) (q:∀σ' s',Wv σ' W s'->Mn σ' s'->s.n≤s'.n->qs W σ σ'->K .none σ'):Sk (Ph (n+127)) ⟨[some (.ref W),a1,a2,a3,a4,a5],[],[]⟩ σ (bp K) KE:=by
 refine h.me rfl rfl (cp h λR z=>?_);refine z.wd.me rfl rfl (iB z.wd (by decide+kernel) λo b J x I=>?_);refine f3 (eI rfl) λf j D V O ⟨d,X⟩=>⟨rfl,?_⟩;subst X;have t2:J.tl=[]:=x.ev.tl.trans ht;obtain⟨i,c,g,w,U⟩:=J;subst t2;refine gE (x.wd.up D).w λp t u r l m=>?_;refine k9 m.w rfl ?_;have F:dB W j (j.set W (.inst 834 (jT p t u r l ⟨i,c,g,w,[(41,.ref b.nx)]⟩))):=Kp.refl.set λZ Z h=>h rfl;have N:=aE (o:=.inst 834 (jT p t u r l ⟨i,c,g,w,[(41,.ref b.nx)]⟩)) m.w;have H:∀k,(∀a,Nat.beq a 41=false->([(41,SV.ref k)]:List (Nat×SV)).lookup a=none)∧([(41,SV.ref k)]:List (Nat×SV)).length≤10:=λk=>⟨λa L=>by
  rw[Xk];have:(a==41)=false:=by
   cases e:(a==41)with
   |false=>rfl
   |true=>rw[XJ e]at L;exact kB L
  rw[this];rfl,bl rfl⟩
 have G:=VD (s':=⟨i,c,g,w,[(41,.ref b.nx)]⟩) (x.wd.up D) m F rfl rfl (H _) N;change az (aV 0) 40 (aB true) om (Ph (n+127)) ⟨[some (.ref W),a1,a2,a3,a4,a5],[],[]⟩ (j.set W (.inst 834 (jT p t u r l ⟨i,c,g,w,[(41,.ref b.nx)]⟩))) (bp K) KE;generalize (j.set W (.inst 834 (jT p t u r l ⟨i,c,g,w,[(41,.ref b.nx)]⟩)))=σ4 at F N G ⊢;refine gE G.w λp t u r l v=>?_;refine k9 v.w rfl ?_;have E:dB W σ4 (σ4.set W (.inst 834 (jT p t u r l ⟨i,c,g,true,[(41,.ref b.nx)]⟩))):=Kp.refl.set λZ Z h=>h rfl;have P:=aE (o:=.inst 834 (jT p t u r l ⟨i,c,g,true,[(41,.ref b.nx)]⟩)) v.w;have A:=VD (s':=⟨i,c,g,true,[(41,.ref b.nx)]⟩) G v E rfl rfl (H _) P;change om (Ph (n+127)) ⟨[some (.ref W),a1,a2,a3,a4,a5],[],[]⟩ (σ4.set W (.inst 834 (jT p t u r l ⟨i,c,g,true,[(41,.ref b.nx)]⟩))) (bp K) KE;generalize (σ4.set W (.inst 834 (jT p t u r l ⟨i,c,g,true,[(41,.ref b.nx)]⟩)))=σ5 at E P A ⊢;refine vm (n:=n+126) A ⟨_,I⟩ λC B=>?_;have y:dB W j σ5:=F.trans E;have Q:∀{k o},j.ob k=some o->fm o=true->k≠W:=λM S T=>by
  rw[T,m.w]at M;obtain rfl:=jS M;exact ch S
 refine q C ⟨i,c,g,true,[(41,.ref b.nx)]⟩ (A.up B) (hH b.nx _ o rfl (B.ob _ _ (y.ob _ _ O (Q O rfl)) trivial) rfl ((A.ms _ I:Mo σ5 "Object" o).up B.to)) ?_ ?_
 ·have Y:=z.ev.n
  exact Xl Y x.ev.n
 ·exact((((z.trans x).kp.trans D.to).stx).trans y.stx).trans B.to
theorem Fa (hd:σ.ob d0=some .dic0) (hW:σ.ob W=some (.inst 834 [])) (tb:mL σ 0 920 (aT 0).qual∧mL σ 1 932 (aT 2).qual) (q:∀σ' s',Wv σ' W s'->Mn σ' s'->qs W σ σ'->K .none σ'):Ph (n+128) 0 573 [.ref W,.ref d0] σ K KE:=by
 refine aK (k:=2) (d:=[.none,.none,.int 20000]) (r:=1) (m:=Do) rfl rfl rfl ?_;refine sA Kp.refl hW rfl λh b1 u=>?_;refine bQ rfl (sA (k:=W) Kp.refl (ae u) rfl λE b2 B=>?_);refine sA b2 B rfl λa3 L R=>sA L R rfl λS b4 h4=>sA b4 h4 rfl λT P h5=>sA P h5 rfl λz b6 M=>sA b6 M rfl λV C G=>?_;refine sA C.new (ae G) rfl λb x v=>?_;refine sA (k:=W) Kp.refl (ae v) rfl λI Q U=>?_;refine sA Q U rfl λa0 ba X=>sA ba X rfl λY bb y=>sA bb.new (ae y) rfl λF A J=>⟨bl rfl,sA A.new (ae J) rfl λa2 N s=>sA N s rfl λa1 O H=>sA O H rfl λc l hf=>?_⟩;have i:d0≠W:=λe=>by
  rw[e,hW]at hd;cases hd
 have j:dB W σ b:=(b1.new).trans x;have f:dB W σ c:=(j.new).trans l;have FU:b.ob h.nx=some .dic0:=x.ob _ _ ac (cz u).symm;have t:b.ob d0=some .dic0:=j.ob _ _ hd i;have o:c.ob b.nx=some .dic0:=l.ob _ _ ac (cz v).symm;have D:Wv c W ⟨b.nx,0,[],false,[]⟩:=⟨iM d0 h.nx _ _ _ ⟨hf,⟨cz t,cz FU⟩,f.ob _ _ hd i,l.ob _ _ (ae FU) (cz u).symm⟩,o,(λp g=>nomatch g),(λp g=>nomatch g),by show 0+oo []≤40;rw[X9];exact I5,(λp g=>nomatch g),jx tb f (pJ hW rfl),⟨λa Z=>rfl,bl rfl⟩⟩;exact xS D rfl λσ' s' w m Z k=>q σ' s' w m (f.stx.trans k)
variable {nm:Str} {d:List Nat}
def xw (σ:Sg) (k pa:Nat):Prop:=∃i o nm d,σ.ob k=some (.inst 228 (uy i (.ref o) (.str nm) (.bool true) (.ref pa) .none d .none .none))
theorem sr (h:Wv σ W s) (q:∀k σ' s',Po σ σ' W s s'->xw σ' k a->K (.ref k) σ'):Ph (n+127) 0 635 [.ref W,.str nm,.bool true,.ref a] σ K KE:=by
 refine aK (k:=4) (d:=[.none,.none]) (r:=3) (m:=zL) rfl rfl rfl (h.me rfl rfl (iB h (by decide+kernel) λo j i e v=>?_));refine bQ rfl (bQ rfl ?_);refine e.wd.me rfl rfl (cp e.wd λb u=>?_);refine f3 G4 λf c l p g ⟨d,t⟩=>⟨rfl,?_⟩;subst t;refine k9 g rfl ?_;exact q _ _ _ ((e.trans u).ext (l.setN (Xy _):bC b (c.set b.nx (.inst 228 (uy (i.n+1) (.ref o) (.str nm) (.bool true) (.ref a) .none d .none .none))))) (V7 _ _ _ d (aE g))
theorem lB (h:xw σ k a) (hm:Mo σ z a) (q:K (.str z) σ):Ph (n+2) 0 663 [.ref W,.ref k] σ K KE:=by
 refine mH h λi o j d h=>?_;refine gE hm λf g b e c hm=>?_;refine aK (k:=2) (d:=[]) (r:=0) (m:=Fb) rfl rfl rfl ⟨2,?_⟩;refine g_ h rfl rfl (bQ rfl (g_ h rfl rfl ?_));refine g_ hm rfl rfl (bQ rfl (S3 hm rfl rfl (uj hm ?_)));exact g_ hm rfl rfl q
theorem unm:((j6 558).any λy=>aA y "Array")=false∧((j6 558).any λy=>aA y "String")=false∧aA "Array" "String"=false:=by decide+kernel
theorem IS {K:Bool->Prop} (h:((j6 558).any λy=>aA y z)=b) (q:K b):inT (.str z) 558 K:=⟨rfl,by
 subst h;exact q⟩
theorem yn {i:Nat} {K:Bool->Sg->Prop} (h1:fr.loc[i]?=some (some (.str z))) (h:((j6 558).any λy=>aA y z)=b) (q:K b σ):ai .In (aV i) (aG 558) Φ fr σ K KE:=by
 unfold ai;rw[pY h1];exact IS (K:=λb=>K b σ) h q
theorem Dy {i:Nat} {z2:Str} {K:Bool->Sg->Prop} (h1:fr.loc[i]?=some (some (.str z))) (h:aA z z2=b) (q:K b σ):ai .Eq (aV i) (aS z2) Φ fr σ K KE:=by
 subst h;unfold ai;rw[pY h1];exact q
theorem rI (h:Wv σ W s) (hs:xw σ k a) (hm:Mo σ "Array" a) (q:∀r i l σ' s',Nw σ σ' W s s' r i->σ.nx≤l->Li σ' r i k false l []->K (.ref r) σ'):Ph (n+10) 0 719 [.ref W,.ref k] σ K KE:=by
 have c:=hs;refine mH hs λv x w d o=>?_;refine aK (k:=2) (d:=[]) (r:=2) (m:=vF) rfl rfl rfl (S3 o rfl rfl (uj o ?_));refine h.me rfl rfl (lB (n:=n+7) c hm (h.me rfl rfl (cp h λb g=>⟨bl rfl,t_ ac rfl ?_⟩)));refine il rfl rfl (cy (λZ q=>yn rfl unm.1 q) (cy (λZ q=>Dy rfl unm.2.2 q) (iz (λZ q=>Dy rfl aQ q) ?_)));refine⟨bl rfl,f3 te λf e j p t ⟨d,u⟩=>⟨rfl,?_⟩⟩;subst u;exact q _ _ _ _ _ ⟨g.ext ((Kp.new (Kp.new Kp.refl)).trans j:bC b e),WX (g.kp.nx:σ.nx≤b.nx) (WX (Zt _) (Zt _)),by exact xz,XS _⟩ (WX (g.kp.nx:σ.nx≤b.nx) (Zt _)) ⟨⟨d,t⟩,j.ob _ _ ac trivial⟩
theorem qB (h:Wv σ W s) (hs:xw σ k a) (hm:Mo σ "String" a) (q:∀r i σ' s',Nw σ σ' W s s' r i->d9 σ' 62 r i k false [(6,.str "")]->K (.ref r) σ'):Ph (n+10) 0 719 [.ref W,.ref k] σ K KE:=by
 have c:=hs;refine mH hs λu w v d j=>?_;refine aK (k:=2) (d:=[]) (r:=2) (m:=vF) rfl rfl rfl (S3 j rfl rfl (uj j ?_));refine h.me rfl rfl (lB (n:=n+7) c hm (h.me rfl rfl (cp h λb g=>⟨bl rfl,t_ ac rfl ?_⟩)));refine il rfl rfl (cy (λZ q=>yn rfl unm.2.1 q) (iz (λZ q=>Dy rfl aQ q) ?_));refine f3 qT λf e l o p ⟨d,t⟩=>⟨rfl,?_⟩;subst t;exact q _ _ _ _ ⟨g.ext ((Kp.new Kp.refl).trans l:bC b e),WX (g.kp.nx:σ.nx≤b.nx) (Zt _),by exact xz,XS _⟩ ⟨d,p⟩
end
structure uw (σ:Sg) (n:Int) (rk tk li:Nat) (ir it:Int) (oR oT:Nat) (fz:Bool) (ts:List Ti):Prop where
 r:d9 σ 82 rk ir oR fz [(7,.ref li)]
 l:σ.ob li=some (.list (tx ts))
 t:d9 σ 62 tk it oT fz [(6,.str (zs (tc ts)))]
 its:jd σ n ts
 n:ir≤n∧it≤n
section
variable {σ σ' σ1 σ0:Sg} {W:Nat} {s s' s1:Ws} {n C:Nat} {K:KV} {KE:KX} {z nm msg:Str} {k o l a li ow kT P j pl N lb lg hl bx d0 d1 si gl ou rk tk oR oT:Nat} {i f c m g nn mk lo hi i1 i2 c1 c2 wy tn ir it:Int} {fz b e:Bool} {v u w x:SV} {xs:List SV} {r t:Nat} {p:Pl} {cs ds d:List Nat} {ts:List Ti} {ρ:Int×Int} {is:List Int} {Φ:Nat->eO} {a0 a1 a2 a3 a4 a5 a6 a7 a8:Option SV} {K':eY} {KC:List SV->Sg->Prop} {k0:Nat} {loc:List (Option SV)} {cv:List SV}
theorem uw.up {n':Int} (h:uw σ i rk tk li ir it oR oT fz ts) (e:fV σ σ') (hn:i≤n'):uw σ' n' rk tk li ir it oR oT fz ts:=⟨h.r.up rfl e,e.ob _ _ h.l rfl,h.t.up rfl e,h.its.up e hn,Xl h.n.1 hn,Xl h.n.2 hn⟩
theorem vN (q:∀ts σ' s',Go σ σ' W s s' bx c e->tc ts=cs->jd σ' s'.n ts->KC (tx ts) σ') (h:St σ W s bx c e) (c0:σ.ob k0=some (.cell (some (.ref W)))):bS (.str (zs cs)) (kU (cB (am (aC 0) 6 (aa aX ab))) (Ph (n+127)) ⟨loc,[k0],cv⟩) KC cs.length 0 [] σ:=by
 have u:∀m i ts a d,i+m=cs.length->tc ts=cs.take i->jd a d.n ts->Go σ a W s d bx c e->bS (.str (zs cs)) (kU (cB (am (aC 0) 6 (aa aX ab))) (Ph (n+127)) ⟨loc,[k0],cv⟩) KC m i (tx ts) a:=by
  intro m
  induction m with
  |zero=>
   intro i ts a d f p b g;refine⟨trivial,q ts a d g ?_ b⟩;rw[p,Yq (Z16 f)]
  |succ m ih=>
   intro i ts a d f p b g;have r:i<cs.length:=by exact HB f
   have v:(zs cs).cps[i]?=some cs[i]:=by
    show cs.toArray[i]?=_;rw[ZY,Xf r]
   refine⟨trivial,_,v,c_ rfl (g.kp.ob _ _ c0 ⟨rfl,h.ne c0 rfl⟩) (g.st.w.me rfl rfl (fP g.st.w λk x o l w j z y=>?_))⟩;have:=ih (i+1) (ts++[(k,cs[i],x)]) l w (vH f) (by
    unfold tc;rw[Xa,←Y7 r];show tc ts++_=_;rw[p];rfl) (λt hm=>by
     rcases W6.mp hm with hm|hm
     ·exact(b.up j.p.kp j.p.ev.n) t hm
     ·cases XA.mp hm
      exact⟨j.i1,o,y⟩) (g.trans (g.st.po j.p))
   unfold tx at this;rw[Xa]at this;exact this
 exact u cs.length 0 [] σ s (X9 _) rfl (λt hm=>nomatch hm) (.refl h)
theorem Mn.but {o:SO} (h:Mn σ s) (b:dB j σ σ') (hj:σ.ob j=some o) (h1:Nat.beq 45 (ko o)=false) (h2:Nat.beq 233 (ko o)=false):Mn σ' s:=by
 refine lq h λk f o2 m e p c=>?_;refine gE c λi n a l d g=>?_;exact(hH k f o2 m (b.ob _ _ e (bE e hj h1)) p (iM i n a l d (b.ob _ _ g (bE g hj h2))))
theorem St.but {o:SO} (h:St σ W s bx c e) (b:dB j σ σ') (hj:σ.ob j=some o) (h0:Ly o=false) (h1:Nat.beq 45 (ko o)=false) (h2:Nat.beq 233 (ko o)=false) (h3:isL o=false):St σ' W s bx c e:=⟨iK h.w b hj h0,h.m.but b hj h1 h2,h.b.up b λa=>(h.ne hj h3).symm⟩
abbrev Wf (bx rk tk:Nat):Sg->Sg->Prop:=Kp λk o=>fm o=true∧k≠bx∧k≠rk∧k≠tk
theorem xJ (h:St σ W s bx c e) (hc:c<90000) (ho:uw σ s.n rk tk li ir it oR oT false ts) (hne:∀t∈ts,t.1≠tk) (q:∀t fz σ',St σ' W s bx (c+1) e->Wf bx rk tk σ σ'->σ'.ob t=some (.tup [.ref rk,.ref tk])->uw σ' s.n rk tk li ir it oR oT fz ts->K (.ref t) σ'):
  az (aV 3) 4 (bG .Eq (ag 866 (aa (aV 0) (aa (aI 3) ab))) (aI 0)) (az (aV 4) 4 (aj (aV 3) 4) (aq (aU (aa (aV 3) (aa (aV 4) ab))))) (Ph (n+1)) ⟨[some (.ref bx),a1,a2,some (.ref rk),some (.ref tk)],[k0],[]⟩ σ (bp K) KE:=by
 refine h.tk (cQ hc) (by decide) (by decide) λr a Z Z B=>?_;obtain⟨w,J⟩:=ho.r;obtain⟨y,j⟩:=ho.t;have E:=h.snl B.kp;have b:=E.ob _ _ J ⟨rfl,rfl⟩;have F:li≠bx:=λe=>by
  refine mH h.b.ob λg Q P z I=>?_;have l:=ho.l;rw[e,I]at l;have l:=W7 l;injection l with l;unfold tx at l;cases ts with
  |nil=>exact nCN l
  |cons t ts=>cases l
 have M:∀fz:Bool,pQ a (.ref rk) 4 (.bool fz) λσ=>az (aV 4) 4 (aj (aV 3) 4) (aq (aU (aa (aV 3) (aa (aV 4) ab)))) (Ph (n+1)) ⟨[some (.ref bx),a1,a2,some (.ref rk),some (.ref tk)],[k0],[]⟩ σ (bp K) KE:=λfz=>by
  refine k9 b rfl ?_;have v:dB rk a (a.set rk (.inst 82 (fT ir (.ref oR) w fz [(7,.ref li)]))):=Kp.refl.set λZ Z h=>h rfl;have i:=aE (o:=.inst 82 (fT ir (.ref oR) w fz [(7,.ref li)])) b;have H:=B.st.but v b rfl rfl rfl rfl;have f:=v.ob _ _ (E.ob _ _ j ⟨rfl,rfl⟩) (bE (E.ob _ _ j ⟨rfl,rfl⟩) b rfl);have m:=v.ob _ _ (B.kp.ob _ _ ho.l ⟨rfl,F⟩) (bE (B.kp.ob _ _ ho.l ⟨rfl,F⟩) b rfl);have k:∀t∈ts,∃o,d9 (a.set rk (.inst 82 (fT ir (.ref oR) w fz [(7,.ref li)]))) 62 t.1 t.2.2 o false [(6,.str (zs [t.2.1]))]:=λt j=>by
   obtain⟨_,o,d,h⟩:=ho.its t j;have h:=E.ob _ _ h ⟨rfl,rfl⟩;exact⟨o,d,v.ob _ _ h (bE h b rfl)⟩
  change az (aV 4) 4 (aj (aV 3) 4) (aq (aU (aa (aV 3) (aa (aV 4) ab)))) (Ph (n+1)) ⟨[some (.ref bx),a1,a2,some (.ref rk),some (.ref tk)],[k0],[]⟩ (a.set rk (.inst 82 (fT ir (.ref oR) w fz [(7,.ref li)]))) (bp K) KE;generalize (a.set rk (.inst 82 (fT ir (.ref oR) w fz [(7,.ref li)])))=σ2 at v i H f m k ⊢;refine g_ i rfl rfl (k9 f rfl ?_);have u:dB tk σ2 (σ2.set tk (.inst 62 (fT it (.ref oT) y fz [(6,.str (zs (tc ts)))]))):=Kp.refl.set λZ Z h=>h rfl;have C:=aE (o:=.inst 62 (fT it (.ref oT) y fz [(6,.str (zs (tc ts)))])) f;have G:=H.but u f rfl rfl rfl rfl;have A:=u.ob _ _ i (bE i f rfl);have x:=u.ob _ _ m (bE m f rfl);change aq (aU (aa (aV 3) (aa (aV 4) ab))) (Ph (n+1)) ⟨[some (.ref bx),a1,a2,some (.ref rk),some (.ref tk)],[k0],[]⟩ (σ2.set tk (.inst 62 (fT it (.ref oT) y fz [(6,.str (zs (tc ts)))]))) (bp K) KE;generalize (σ2.set tk (.inst 62 (fT it (.ref oT) y fz [(6,.str (zs (tc ts)))])))=σ3 at u C G A x ⊢;have D:jd σ3 s.n ts:=λt j=>by
   refine mY (k t j) λo d h=>?_;exact⟨(ho.its t j).1,o,d,u.ob _ _ h (hne t j)⟩
  have p:bC σ3 (σ3.new (.tup [.ref rk,.ref tk])):=Kp.refl.new;have L:Wf bx rk tk σ a:=B.kp.mono λZ Z Z h=>⟨h.1,h.2.1⟩;have O:Wf bx rk tk a σ2:=v.mono λZ Z Z h=>h.2.2.1;have N:Wf bx rk tk σ2 σ3:=u.mono λZ Z Z h=>h.2.2.2;refine⟨bl rfl,?_⟩;exact q σ3.nx fz _ (G.ext p).st (((L.trans O).trans N).trans p.to) ac ⟨⟨w,p.ob _ _ A trivial⟩,p.ob _ _ x trivial,⟨y,p.ob _ _ C trivial⟩,D.up p.to (XS _),ho.n⟩
 exact M _
abbrev pO (σ:Sg) (W:Nat) (s:Ws) (bx:Nat) (c:Int) (e:Bool) (cs:List Nat) (K:KV):Prop:=∀t rk tk li ir it oR oT fz ts σ' s',St σ' W s' bx c e->Wn s s'->qs bx σ σ'->σ'.ob t=some (.tup [.ref rk,.ref tk])->uw σ' s'.n rk tk li ir it oR oT fz ts->tc ts=cs->K (.ref t) σ'
theorem pO.pre {c':Int} (q:pO σ W s bx c' e cs K) (g:Go σ σ1 W s s1 bx c e):pO σ1 W s1 bx c' e cs K:=λt r n m d k j f p b a h w o l i u v=>q t r n m d k j f p b a h w (g.ev.trans o) (g.kp.trans l) i u v
theorem oF (h:St σ W s bx c e) (hc:c<90000) (ho:uw σ s.n rk tk li ir it oR oT false ts) (hne:∀t∈ts,t.1≠tk) (hN:N≤rk∧N≤tk) (htc:tc ts=cs) (q:∀t fz σ',St σ' W s bx (c+1) e->(Kp (λk o=>fm o=true∧k≠bx∧k<N) σ σ')->σ'.ob t=some (.tup [.ref rk,.ref tk])->uw σ' s.n rk tk li ir it oR oT fz ts->K (.ref t) σ'):
  az (aV 3) 4 (bG .Eq (ag 866 (aa (aV 0) (aa (aI 3) ab))) (aI 0)) (az (aV 4) 4 (aj (aV 3) 4) (aq (aU (aa (aV 3) (aa (aV 4) ab))))) (Ph (n+1)) ⟨[some (.ref bx),a1,a2,some (.ref rk),some (.ref tk)],[k0],[]⟩ σ (bp K) KE:=
 xJ h hc ho hne λt fz σ' a k d b=>q t fz σ' a (k.mono λZ Z Z h=>⟨h.1,h.2.1,by omega,by omega⟩) d b
def xg:AS:=az (aV 3) 4 (bG .Eq (ag 866 (aa (aV 0) (aa (aI 3) ab))) (aI 0)) (az (aV 4) 4 (aj (aV 3) 4) (aq (aU (aa (aV 3) (aa (aV 4) ab)))))
variable {lI:Nat} {fr:ca}
theorem p_l {i:Nat} {K:ca->Sg->Prop} (hl:Nat.blt i fr.loc.length=true) (q:K (fr.put i v) σ):(Tg.l i).put v fr σ K:=by
 show bI (Nat.blt i fr.loc.length) _ _;rw[hl];exact q
theorem y9 (a:qs bx σ σ1) (b:Kp (λk o=>fm o=true∧k≠bx∧k<N) σ1 σ') (hN:σ.nx≤N):qs bx σ σ':=⟨WX a.nx b.nx,λk o c p=>b.ob k o (a.ob k o c p) ⟨p.1,p.2,Xi (σ.wf _ _ c) hN⟩⟩
theorem uL (h:St σ W s bx c e) (hc:c<90000) (hz:cs.length≤900) (c0:σ.ob k0=some (.cell (some (.ref W)))) (hI:σ.ob lI=some (.list (tx ts))) (its:jd σ s.n ts) (htc:tc ts=cs) (q:pO σ W s bx (c+1) e cs K):
  cT [.l 3,.l 4] (aU (aa (am (aC 0) 51 (aa (aV 2) ab)) (aa (am (aC 0) 6 (aa (aV 1) ab)) ab))) aF (Ph (n+128)) ⟨[some (.ref bx),some (.str (zs cs)),some (.ref lI),none,none],[k0],[]⟩ σ (kX (λfr σ=>xg (Ph (n+128)) fr σ (bp K) KE) K') KE:=by
 have m:(tx ts).length≤10000:=by
  rw[dz,←cM,htc];exact Z1 hz
 refine c_ rfl c0 (h.w.me rfl rfl (iL (n:=n+1) h.w hI m λk i o A w O b F H g=>?_));have p:=h.po b.p;refine c_ rfl (b.p.kp.ob _ _ c0 rfl) (p.st.w.me rfl rfl (fP (n:=n+1) p.st.w λl y o2 f u a C z=>⟨bl rfl,t_ ac rfl ?_⟩));refine il rfl rfl (tM ?_);have d:=its.up b.p.kp b.p.ev.n;rw[←htc]at z;have r:=(p.trans (p.st.po a.p)).new (o:=.tup [.ref k,.ref l]);have j:=(⟨(g.up a.p.kp).1,(g.up a.p.kp).2,z,d.up a.p.kp a.p.ev.n,Xl b.i1 a.p.ev.n,a.i1⟩:uw f u.n k l A i y o o2 false ts).up (σ':=f.new (.tup [.ref k,.ref l])) (n':=u.n) (bC.to Kp.refl.new) (XS _);generalize (f.new (.tup [.ref k,.ref l]))=σ7 at r j ⊢;refine oF (n:=n+127) (N:=σ.nx) r.st hc j (λt v G=>?_) ⟨b.fr,WX b.p.kp.nx a.fr⟩ htc λt J σ' E B v x=>?_
 ·obtain⟨_,o3,M,I⟩:=d t v
  have L:=w.wf _ _ I;have D:=a.fr;exact Wq D G L
 ·exact q t k l A i y o o2 J ts σ' u E r.ev (y9 r.kp B (Xy _)) v x htc
theorem wm (h:St σ W s bx c e) (hc:c<90000) (hz:cs.length≤900) (c0:σ.ob k0=some (.cell (some (.ref W)))) (hI:σ.ob lI=some (.list (tx ts))) (its:jd σ s.n ts) (htc:tc ts=cs) (q:pO σ W s bx (c+1) e cs K):
  ay (.l 3) (am (aC 0) 43 (aa (am (aC 0) 47 (aa (aS "Row") (aa (aB true) (aa (am (aC 0) 44 (aa (aS "Array") ab)) ab)))) ab)) (ay (.l 4) (am (aC 0) 43 (aa (am (aC 0) 47 (aa (aS "Line") (aa (aB true) (aa (am (aC 0) 44 (aa (aS "String") ab)) ab)))) ab)) (cS (kY eW ku (aj (aV 3) 7) (aa (aV 2) ab)) (az (aV 4) 6 (aV 1) aF))) (Ph (n+128)) ⟨[some (.ref bx),some (.str (zs cs)),some (.ref lI),none,none],[k0],[]⟩ σ (kX (λfr σ=>xg (Ph (n+128)) fr σ (bp K) KE) K') KE:=by
 have X:(tx ts).length≤10000:=by
  rw[dz,←cM,htc];exact Z1 hz
 refine dO rfl ?_;refine c_ rfl c0 (h.w.me rfl rfl (c_ rfl c0 (h.w.me rfl rfl (c_ rfl c0 (h.w.me rfl rfl (iB (n:=n+2) h.w (by decide+kernel) λa b8 s5 B m5=>?_))))));refine sr (n:=n+1) B.wd λk b6 s6 D a6=>rI (n:=n+118) D.wd a6 ((B.wd.ms _ m5).up D.kp) λY ir l f s7 m a1 a7=>?_;have J:=h.po ((B.trans D).trans m.p);have x:fV σ f:=(B.kp.trans D.kp).trans m.p.kp;refine dO rfl ?_;refine c_ rfl (x.ob _ _ c0 rfl) (J.st.w.me rfl rfl (c_ rfl (x.ob _ _ c0 rfl) (J.st.w.me rfl rfl (c_ rfl (x.ob _ _ c0 rfl) (J.st.w.me rfl rfl (iB (n:=n+2) J.st.w (by decide+kernel) λa2 b5 s8 P m8=>?_))))));refine sr (n:=n+1) P.wd λF U s9 M a4=>qB (n:=n+118) M.wd a4 ((P.wd.ms _ m8).up M.kp) λr I b L i ta=>?_;have y:fV f b:=(P.kp.trans M.kp:fV f U).trans i.p.kp;have O:=J.trans (J.st.po ((P.trans M).trans i.p));have n7:s7.n≤L.n:=Xl P.ev.n (Xl M.ev.n i.p.ev.n);have V:=its.up (x.trans y) (Xl (Xl (B.ev.n) (Xl D.ev.n m.p.ev.n)) n7:s.n≤L.n);have lia:=a7.up y;have a0:=y.ob _ _ (x.ob _ _ hI rfl) rfl;obtain⟨dr,hr⟩:=lia.1;obtain⟨G,j⟩:=ta;have a5:σ.nx≤Y:=WX (WX B.kp.nx D.kp.nx) m.fr;have fl:σ.nx≤l:=WX (WX B.kp.nx D.kp.nx) a1;have a9:f.nx≤r:=WX (P.kp.trans M.kp:fV f U).nx i.fr;have b7:lI≠l:=λek=>by
  have:=σ.wf _ _ hI;exact Wq fl ek this
 have b4:bx≠l:=λek=>by
  refine mH h.b.ob λg s' c' z hb=>?_;have:=σ.wf _ _ hb;exact Wq fl ek this
 refine g_ hr rfl rfl ⟨ao lia.2 trivial,ao lia.2 (ao a0 ⟨⟨rfl,X⟩,?_⟩)⟩;have u:dB l b (b.set l (.list (tx ts))):=Kp.refl.set λZ Z h=>h rfl;have E:=aE (o:=.list (tx ts)) lia.2;have A:=u.ob _ _ hr (bE hr lia.2 rfl);have d:=u.ob _ _ j (bE j lia.2 rfl);have s1:St (b.set l (.list (tx ts))) W L bx c e:=⟨iK O.st.w u lia.2 rfl,O.st.m.but u lia.2 rfl rfl,O.st.b.up u λxs=>b4⟩;have w:jd (b.set l (.list (tx ts))) L.n ts:=λt j=>by
  obtain⟨h1,o3,d3,H⟩:=V t j;exact⟨h1,o3,d3,u.ob _ _ H (bE H lia.2 rfl)⟩
 change az (aV 4) 6 (aV 1) aF (Ph (n+128)) ⟨[some (.ref bx),some (.str (zs cs)),some (.ref lI),some (.ref Y),some (.ref r)],[k0],[]⟩ (b.set l (.list (tx ts))) (kX (λfr σ=>xg (Ph (n+128)) fr σ (bp K) KE) K') KE;generalize (b.set l (.list (tx ts)))=σb at u E A d s1 w ⊢;refine k9 d rfl (tM ?_);have C:dB r σb (σb.set r (.inst 62 (fT I (.ref F) G false [(6,.str (zs cs))]))):=Kp.refl.set λZ Z h=>h rfl;have S:=aE (o:=.inst 62 (fT I (.ref F) G false [(6,.str (zs cs))])) d;have s2:=s1.but C d rfl rfl rfl rfl;have Q:=C.ob _ _ A (bE A d rfl);have T:=C.ob _ _ E (bE E d rfl);have R:∀t∈ts,t.1≠r:=λt j ek=>by
  obtain⟨_,o3,d3,H⟩:=its t j;have:=σ.wf _ _ H;have:=x.nx;lia
 have v:jd (σb.set r (.inst 62 (fT I (.ref F) G false [(6,.str (zs cs))]))) L.n ts:=λt j=>by
  obtain⟨h1,o3,d3,H⟩:=w t j;exact⟨h1,o3,d3,C.ob _ _ H (R t j)⟩
 change xg (Ph (n+128)) ⟨[some (.ref bx),some (.str (zs cs)),some (.ref lI),some (.ref Y),some (.ref r)],[k0],[]⟩ (σb.set r (.inst 62 (fT I (.ref F) G false [(6,.str (zs cs))]))) (bp K) KE;generalize (σb.set r (.inst 62 (fT I (.ref F) G false [(6,.str (zs cs))])))=σc at C S s2 Q T v ⊢;have kc:qs bx σ σc:=⟨WX O.kp.nx (WX u.nx C.nx),λk o hk p=>by
  have:=σ.wf _ _ hk;have:=x.nx;exact C.ob _ _ (u.ob _ _ (O.kp.ob _ _ hk p) (Hy fl (by assumption))) (by lia)⟩
 refine oF (n:=n+127) (N:=σ.nx) s2 hc ⟨⟨dr,Q⟩,T,⟨G,by rw[htc];exact S⟩,v,Xl m.i1 n7,i.i1⟩ R ⟨a5,by have:=x.nx;exact Z33 this a9⟩ htc λt fz a3 st b3 j a8=>?_;exact q t Y r l ir I k F fz ts a3 L st O.ev (y9 kc b3 (Xy _)) j a8 htc
theorem DO (h:St σ W s bx c e) (hc:c<80000) (hz:cs.length≤900) (q:pO σ W s bx (c+2) e cs K):Ph (n+129) 0 871 [.ref W,.ref bx,.str (zs cs)] σ K KE:=by
 refine dh (φ:=fX 3 [] [some 1,some 2,none,none,none] [some 0] xW) rfl rfl ⟨rfl,?_⟩;have B:bC σ (σ.new (.cell (some (.ref W)))):=Kp.refl.new;have m:(σ.new (.cell (some (.ref W)))).ob σ.nx=some (.cell (some (.ref W))):=ac;have p:=h.ext B;change xW (Ph (n+128)) ⟨[some (.ref bx),some (.str (zs cs)),none,none,none],[σ.nx],[]⟩ (σ.new (.cell (some (.ref W)))) (bp K) KE;generalize (σ.new (.cell (some (.ref W))))=σ1 at B m p ⊢;generalize σ.nx=k0 at m ⊢;refine⟨by show cs.toArray.size≤10000;rw[Xq];exact Z1 hz,?_⟩;show bS (.str (zs cs)) _ _ cs.toArray.size 0 [] _;rw[Xq];refine vN (n:=n+1) (λj a C w l y=>?_) p.st m;refine p_l rfl ?_;have k:=(p.trans w).new (o:=.list (tx j));have u:=ac (σ:=a) (o:=.list (tx j));have i:=ae (o:=.list (tx j)) (w.kp.ob _ _ m ⟨rfl,p.st.ne m rfl⟩);have f:=y.up (σ':=a.new (.list (tx j))) (n':=C.n) (bC.to Kp.refl.new) (XS _);have A:a.nx≠bx:=λG=>by
  refine mH w.st.b.ob λg L J z D=>?_;have:=a.wf _ _ D;exact Z36 G this
 change lE _ _ _ _ (Ph (n+128)) ⟨[some (.ref bx),some (.str (zs cs)),some (.ref a.nx),none,none],[k0],[]⟩ (a.new (.list (tx j))) (bp K) KE;generalize (a.new (.list (tx j)))=σ3 at k u i f ⊢;generalize a.nx=lI at u A ⊢;refine k.st.tk (n:=n+127) (cQ hc) (by decide) (by decide) λr x Z Z d=>?_;have b:jd x C.n j:=λt F=>by
  obtain⟨I,o3,E,H⟩:=f t F;exact⟨I,o3,E,(k.st.snl d.kp).ob _ _ H ⟨rfl,rfl⟩⟩
 have v:=q.pre (k.trans d);rw[show c+2=c+1+1 by lia]at v;refine bW (λh=>?_) λh=>?_
 ·exact wm (n:=n) (K':=bp K) d.st (fo hc) hz ((k.st.snl d.kp).ob _ _ i ⟨rfl,rfl⟩) (d.kp.ob _ _ u ⟨rfl,A⟩) b l v
 ·exact uL (n:=n) (K':=bp K) d.st (fo hc) hz ((k.st.snl d.kp).ob _ _ i ⟨rfl,rfl⟩) (d.kp.ob _ _ u ⟨rfl,A⟩) b l v
variable {vs:List Value} {W':eY}
def VE:AS:=ay (.l 3) (eL (aV 3) [bG .Eq (aV 4) (aI 0)]) (ay (.l 2) (ap .Mod (ap .Add (ap .Add (ap .Mult (aV 2) (aI 48271)) (ap .Mult (aV 4) (aI 69621))) (aI 31)) (aI 2147483629)) (aw (bO [ai .Eq (aV 1) (aI 0),ai .GtE (bH eS (aa (aV 4) ab)) (ap .Pow (aI 10) (aI 18))]) (ay (.l 1) (bH eS (aa (aV 4) ab)) aF) aF))
theorem qt {sd cell:Int} {K:eY} (g0:0≤g) (q:∀g' s' b',0≤g'->0≤s'->s'<2147483629->K .next ⟨[a0,some (.int g'),some (.int s'),some (.bool b'),some (.int cell)],[],[]⟩ σ):VE Φ ⟨[a0,some (.int g),some (.int sd),some (.bool b),some (.int cell)],[],[]⟩ σ K KE:=by
 have A:∀b',ay (.l 2) (ap .Mod (ap .Add (ap .Add (ap .Mult (aV 2) (aI 48271)) (ap .Mult (aV 4) (aI 69621))) (aI 31)) (aI 2147483629)) (aw (bO [ai .Eq (aV 1) (aI 0),ai .GtE (bH eS (aa (aV 4) ab)) (ap .Pow (aI 10) (aI 18))]) (ay (.l 1) (bH eS (aa (aV 4) ab)) aF) aF) Φ ⟨[a0,some (.int g),some (.int sd),some (.bool b'),some (.int cell)],[],[]⟩ σ K KE:=λb'=>by
  have a:0≤(sd*48271+cell*69621+31) % 2147483629:=YN _ (by decide);have c:(sd*48271+cell*69621+31) % 2147483629<2147483629:=Yw _ (by decide);refine(f4 (.of_right (by decide)) (.of_right (by decide)) (by decide) ?_);generalize (sd*48271+cell*69621+31) % 2147483629=sd' at a c ⊢;refine bW (λh=>⟨f4 (by decide) (by decide) (by decide) (by decide),bW (λd=>?_) λd=>?_⟩) λh=>?_
  ·exact q (if cell<0 then -cell else cell) sd' b' (by split<;>omega) a c
  ·exact q g sd' b' g0 a c
  ·exact q g sd' b' g0 a c
 cases b
 ·exact A false
 ·exact A (decide (cell=0))
theorem qS (hl':σ.ob l=some (.list (is.map .int))) (q:∀g sd b a4,0≤g->0≤sd->sd<2147483629->W' .next ⟨[a0,some (.int g),some (.int sd),some (.bool b),a4],[],[]⟩ σ):∀m i g sd b a4,i+m=(is.map SV.int).length->0≤g->0≤sd->sd<2147483629->nM (.list l (is.map SV.int).length) (Tg.put (.l 4)) (λfr σ K=>VE Φ fr σ K pR) W' m i ⟨[a0,some (.int g),some (.int sd),some (.bool b),a4],[],[]⟩ σ:=by
 intro m
 induction m with
 |zero=>exactλi g sd b a4 c a e d=>⟨ao hl' rfl,q g sd b a4 a e d⟩
 |succ m ih=>
  intro i g sd b a4 c a e d;have h:i<is.length:=by rw[W0]at c;exact HB c
  refine⟨ao hl' rfl,ao hl' ⟨.int is[i],by rw[Xd,Xf h];rfl,p_l rfl (qt a λk f j a e d=>?_)⟩⟩;exact ih (i+1) k f j _ (vH c) a e d
theorem IU (hs:σ.ob k=some (.raw (is.map .int) vs)) (hlen:is.length≤63) (q:∀bx e σ',bC σ σ'->Bc σ' bx 0 e->K (.ref bx) σ'):Ph (n+1) 0 859 [.ref k] σ K KE:=by
 refine aK (k:=1) (d:=[]) (r:=4) (m:=Fq) rfl rfl rfl ⟨bl rfl,t_ ac rfl ?_⟩;have j:bC σ (σ.new (.tup [.int 0,.int 29,.bool true])):=Kp.refl.new;have f:(is.map SV.int).length≤1000000:=by rw[W0];exact Z1 hlen
 refine ao (j.ob _ _ hs trivial) ⟨f,⟨by decide,?_⟩⟩;have s:(is.map SV.int).take (63:Int).toNat=is.map .int:=Yq (by rw[W0];exact hlen);rw[s];refine ao ac ?_;refine qS (l:=(σ.new (.tup [.int 0,.int 29,.bool true])).nx) (a0:=some (.ref k)) ac (λg o b v u t p=>?_) _ 0 0 29 true none (X9 _) (by decide) (by decide) (by decide);have i:bC σ ((σ.new (.tup [.int 0,.int 29,.bool true])).new (.list (is.map .int))):=j.new;generalize ((σ.new (.tup [.int 0,.int 29,.bool true])).new (.list (is.map .int)))=σ2 at i ⊢;have a:=i.ob _ _ hs trivial;have c:∀z,K (.ref σ2.nx) (σ2.new (.list [.int g,.int o,.int 0,.bool b,.int z])):=λz=>q _ b _ i.new (yT g o 0 z ⟨ac,u,t,p,by decide⟩ (by decide));refine ao a ⟨f,bW (λh=>?_) λh=>⟨bl rfl,c 0⟩⟩;rw[W0]at h;refine ao a ⟨⟨by rw[W0];lia,by decide⟩,.int (is[is.length - 1]'(Lj hlen h)),?_,bl rfl,c _⟩;rw[W0,Xd,show((-1:Int)+(is.length:Nat)).toNat=is.length - 1 by lia,Xf (Lj hlen h)];rfl
noncomputable abbrev V2:List SV:=[.str "a",.str "b",.str "\n",.str ⟨#[233]⟩,.str ⟨#[128512]⟩]
theorem vT (q:K (.ref σ.nx) (σ.new (.list V2))):Ph (n+1) 0 852 [] σ K KE:=aK (k:=0) (d:=[]) (r:=0) (m:=FZ) rfl rfl rfl (f4 ⟨by decide,by decide⟩ ⟨by decide,by decide⟩ (bl rfl) q)
theorem vg:("a":Str)=zs [97]∧("b":Str)=zs [98]∧("\n":Str)=zs [10]∧("abc":Str)=zs [97,98,99]:=⟨by kernel_rfl,by kernel_rfl,by kernel_rfl,by kernel_rfl⟩
theorem Ow (h0:0≤i) (h1:i<5):∃c,V2[i.toNat]?=some (.str (zs [c]))∧c<1114112:=by
 have:i=0∨i=1∨i=2∨i=3∨i=4:=by lia
 rcases this with rfl|rfl|rfl|rfl|rfl
 ·exact(bv 97 (by rw[←vg.1];rfl) (by decide))
 ·exact(bv 98 (by rw[←vg.2.1];rfl) (by decide))
 ·exact(bv 10 (by rw[←vg.2.2.1];rfl) (by decide))
 ·exact(bv 233 rfl (by decide))
 ·exact(bv 128512 rfl (by decide))
theorem xR (hN:N≤50) (h:St σ W s bx c e) (hc:c<60000) (c0:σ.ob k0=some (.cell (some (.ref bx)))) (q:∀(cs:List Nat) σ',cs.length=N->(∀c∈cs,c<1114112)->Go σ σ' W s s bx (c+N) e->KC (cs.map λc=>.str (zs [c])) σ'):bS (.rng N) (kU (cB (ax (ag 852 ab) (ag 866 (aa (aC 0) (aa (aI 5) ab))))) (Ph (n+1)) ⟨loc,[k0],cv⟩) KC N 0 [] σ:=by
 have x:∀(m i:Nat) (cs:List Nat) a,i+m=N->cs.length=i->(∀c∈cs,c<1114112)->Go σ a W s s bx (c+i) e->bS (.rng N) (kU (cB (ax (ag 852 ab) (ag 866 (aa (aC 0) (aa (aI 5) ab))))) (Ph (n+1)) ⟨loc,[k0],cv⟩) KC m i (cs.map λc=>.str (zs [c])) a:=by
  intro m
  induction m with
  |zero=>
   intro i cs a k b t g;have:i=N:=by exact Z15 k
   subst this;exact⟨trivial,q cs a b t g⟩
  |succ m ih=>
   intro i cs a k b t g;refine⟨trivial,vT ?_⟩;have l:=g.new (o:=.list V2);have y:a.nx≠bx:=λA=>by
    refine mH g.st.b.ob λg D C z w=>?_;have:=a.wf _ _ w;exact Z36 A this
   refine c_ rfl (l.kp.ob _ _ c0 ⟨rfl,h.ne c0 rfl⟩) (l.st.tk (by lia) (by decide) (by decide) λr p d v u=>ao (u.kp.ob _ _ (ac (σ:=a) (o:=.list V2)) ⟨rfl,y⟩) ?_);show bI (decide (r<0)) _ _;rw[Xo (hO d)];refine bn (Ow d v) λB f j=>?_;refine⟨⟨d,by exact cQ v⟩,_,f,?_⟩;have:=ih (i+1) (cs++[B]) p (vH k) (by rw[Yb,b];rfl) (λc h=>(W6.mp h).elim (t c) λh=>by cases XA.mp h;exact j) ((l.trans u).ge (by lia));rw[Xa]at this;exact this
 exact x N 0 [] σ (X9 _) rfl (λZ h=>nomatch h) ((Go.refl h).ge (pC))
end
structure Lp (σ:Sg) (W:Nat) (s:Ws) (bx:Nat) (c:Int) (e:Bool) (N rk tk li:Nat) (ir it:Int) (oR oT:Nat) (fz:Bool) (ts:List Ti) (xs:List SV) (vs:List Value):Prop where
 st:St σ W s bx c e
 ho:uw σ s.n rk tk li ir it oR oT fz ts
 cN:σ.ob N=some (.cell (some (.ref bx)))
 raw:σ.ob 2=some (.raw xs vs)
 nl:li≠bx
def Gf:AS:=gu [.l 7,.l 8] (ag 899 (aa (aV 1) (aa (aC 0) (aa (aV 5) (aa (aV 6) ab))))) (ay (.l 9) (ag 911 (aa (aV 5) (aa (aV 8) ab))) (aw (cF (aP (ag 925 (aa (aV 1) (aa (aV 5) (aa (aV 7) (aa (aV 8) (aa (aV 9) ab)))))))) (aq (aB false)) (aw (cF (aP (ag 935 (aa (aV 1) (aa (aV 3) (aa (aV 4) (aa (aV 7) (aa (aV 8) (aa (aV 9) (aa (aB false) ab)))))))))) (aq (aB false)) (aw (cF (aP (ag 935 (aa (aV 1) (aa (am (aV 1) 51 (aa (aj (aV 3) 7) ab)) (aa (am (aV 1) 6 (aa (aV 2) ab)) (aa (aV 7) (aa (aV 8) (aa (aV 9) (aa (aB true) ab)))))))))) (aq (aB false)) aF))))
section
variable {σ σ' σ1 σ0:Sg} {W:Nat} {s s' s1:Ws} {n C:Nat} {K:KV} {KE:KX} {z nm msg:Str} {k o l a li ow kT P j pl N lb lg hl bx rk tk oR oT:Nat} {i f c c' m g nn mk lo hi ir it tn:Int} {fz b e:Bool} {v u w x:SV} {xs:List SV} {r t:Nat} {p:Pl} {cs ds d:List Nat} {ts:List Ti} {is:List Int} {vs:List Value} {Φ:Nat->eO} {a0 a1 a2 a3 a4 a5 a6 a7 a8 a9:Option SV} {W' K':eY} {KC:List SV->Sg->Prop} {k0:Nat} {loc:List (Option SV)} {cv:List SV}
theorem Lp.go (h:Lp σ W s bx c e N rk tk li ir it oR oT fz ts xs vs) (g:Go σ σ' W s s' bx c' e):Lp σ' W s' bx c' e N rk tk li ir it oR oT fz ts xs vs:=by
 have a:=h.st.snl g.kp;obtain⟨k,i⟩:=h.ho.r;obtain⟨f,b⟩:=h.ho.t;exact⟨g.st,⟨⟨k,a.ob _ _ i ⟨rfl,rfl⟩⟩,g.kp.ob _ _ h.ho.l ⟨rfl,h.nl⟩,⟨f,a.ob _ _ b ⟨rfl,rfl⟩⟩,λt b=>by
  obtain⟨l,o,d,j⟩:=h.ho.its t b;exact⟨Xl l g.ev.n,o,d,a.ob _ _ j ⟨rfl,rfl⟩⟩,Xl h.ho.n.1 g.ev.n,Xl h.ho.n.2 g.ev.n⟩,a.ob _ _ h.cN ⟨rfl,rfl⟩,a.ob _ _ h.raw ⟨rfl,rfl⟩,h.nl⟩
variable {fr:ca}
theorem pe {i j:Nat} {K:ca->Sg->Prop} (h1:Nat.blt i fr.loc.length=true) (h2:Nat.blt j (fr.put i v).loc.length=true) (q:K ((fr.put i v).put j w) σ):jY [Tg.l i,Tg.l j] [v,w] fr σ K:=by
 show bI (Nat.blt i fr.loc.length) (bI (Nat.blt j (fr.put i v).loc.length) (K ((fr.put i v).put j w) σ) False) False;rw[h1,h2];exact q
theorem GR {A B:Prop} (q:B):jF (.bool true) (λb=>bI (!b) A B):=q
theorem SY {K:eY} (q:K .next fr σ):aF Φ fr σ K KE:=q
theorem zN (h:Lp σ W s bx c e N rk tk li ir it oR oT fz ts xs vs) (hc:c<60000) (hts:ts.length≤50) (htc:tc ts=cs) (q:∀σ' s' a7 a8 a9,Lp σ' W s' bx (c+20) e N rk tk li ir it oR oT fz ts xs vs->K' .next ⟨[some (.ref 2),some (.ref W),some (.str (zs cs)),some (.ref rk),some (.ref tk),some (.int ts.length),some (.int tn),a7,a8,a9],[N],[]⟩ σ'):Gf (Ph (n+150)) ⟨[some (.ref 2),some (.ref W),some (.str (zs cs)),some (.ref rk),some (.ref tk),some (.int ts.length),some (.int tn),a7,a8,a9],[N],[]⟩ σ K' KE:=by
 subst htc;refine c_ rfl h.cN (Lm (n:=n+17) h.st (cQ hc) (Ff hts) λt hl pl p a0 s1 g1 R V z=>t_ R rfl (pe rfl rfl (dO rfl ?_)));refine IH (n:=n+148) (Ff hts) z λv a2 C Y=>?_;have E:=(h.go g1).go ((h.go g1).st.ext C);refine Xea (n:=n+10) E.st.w (Gq hts) (V.up C.to) (z.up C.to) Y λX s3 D=>GR ?_;have w:=E.go (E.st.po D);refine yy (n:=n+10) (b:=false) w.st.w w.ho.r w.ho.l w.ho.t (Z1 hts) nofun w.ho.its w.ho.n ((V.up C.to).up D.kp) ((z.up C.to).up D.kp) ((Y.up D.kp).dx λl Z q=>nomatch q) nofun λa s4 w4 M k4=>GR ?_;have J:Po X a W s3 s4:=⟨w4,M,k4.mono λZ Z Z h=>⟨h,nofun⟩⟩;have H:=w.go (w.st.po J);have u:=((V.up C.to).up D.kp).up J.kp;obtain⟨dr,O⟩:=H.ho.r;refine w4.me rfl rfl (g_ O rfl rfl (iL (n:=n+23) w4 H.ho.l (by rw[dz];exact Z1 hts) λk i o l' a4 s5 m B a3 K=>?_));refine m.p.wd.me rfl rfl (fP (n:=n+23) m.p.wd λk2 i2 o2 L s6 g a1 t6=>?_);have f:=m.p.trans g.p;have A:=H.ho.its;have F:=K.up g.p.kp;have I:a.nx≤k2:=WX m.p.kp.nx g.fr;have T:=u.up f.kp;have P:hl<a.nx:=by
  cases p with
  |one i=>exact a.wf _ _ u
  |two i c=>exact a.wf _ _ u
  |rng x y b=>refine bn u λk h r=>?_;exact a.wf _ _ h
  |odd j=>
   obtain⟨hj,⟨x,h,h7,o⟩|h⟩:=u
   ·exact a.wf _ _ h
   ·cases h with
    |b h o=>exact a.wf _ _ h
    |c h o=>exact a.wf _ _ h
    |d h r e o=>exact a.wf _ _ h
 have U:oB (λl=>true=true->l≠l') L v ts.length p:=oB.up (((Y.up D.kp).up J.kp).dx λl E Z=>by exact Hy B E) f.kp;refine yy (n:=n+10) (b:=true) f.wd F.1 F.2 t6 (Z1 hts) (λZ=>rfl) (A.up f.kp f.ev.n) ⟨Xl m.i1 g.p.ev.n,g.i1⟩ T ((((z.up C.to).up D.kp).up J.kp).up f.kp) U (λZ=>⟨by exact Hy B P,λt R=>by
  obtain⟨_,o3,d3,w⟩:=A t R;have:=a.wf _ _ w;exact Hy I this⟩) λG s7 w7 S k7=>GR (SY ?_)
 have Q:Po a G W s4 s7:=⟨w7,f.ev.trans S,WX f.kp.nx k7.nx,λk o hk st=>k7.ob _ _ (f.kp.ob _ _ hk st) ⟨st,λZ=>by
  have:=a.wf _ _ hk;exact⟨by exact Hy B this,by exact Hy I this⟩⟩⟩
 exact q G s7 _ _ _ (H.go (H.st.po Q))
theorem Sn {M i:Nat} {K:SV->Prop} (q:K (.int i)):(kW.rng M).at σ i K:=q
theorem sY {M:Nat} (hts:ts.length≤50) (htc:tc ts=cs) (q:∀c σ' s' a6 a7 a8 a9,Lp σ' W s' bx c e N rk tk li ir it oR oT fz ts xs vs->W' .next ⟨[some (.ref 2),some (.ref W),some (.str (zs cs)),some (.ref rk),some (.ref tk),some (.int ts.length),a6,a7,a8,a9],[N],[]⟩ σ'):∀(m i:Nat) (c:Int) σ s a6 a7 a8 a9,i+m=M->c+20*m<50000->Lp σ W s bx c e N rk tk li ir it oR oT fz ts xs vs->nM (.rng M) (Tg.put (.l 6)) (λfr σ K=>Gf (Ph (n+150)) fr σ K pR) W' m i ⟨[some (.ref 2),some (.ref W),some (.str (zs cs)),some (.ref rk),some (.ref tk),some (.int ts.length),a6,a7,a8,a9],[N],[]⟩ σ:=by
 intro m
 induction m with
 |zero=>exactλi c σ s a6 a7 a8 a9 a b h=>⟨trivial,q c σ s a6 a7 a8 a9 h⟩
 |succ m ih=>
  intro i c σ s a6 a7 a8 a9 a b h;refine⟨trivial,Sn (p_l rfl ?_)⟩;refine zN (n:=n) h (by lia) hts htc λσ' s' a7 a8 a9 d=>?_;exact ih (i+1) (c+20) σ' s' _ a7 a8 a9 (vH a) (by lia) d
theorem mj:mz (cs.map λc=>SV.str (zs [c]))=some (cs.map λc=>PyData.str (zs [c])):=by
 induction cs with
 |nil=>rfl
 |cons i is ih=>
  show((tj (.str (zs [i]))).bind λd=>(mz (is.map λc=>SV.str (zs [c]))).map (d::·))=_;rw[ih];rfl
theorem w9 (hv:∀c∈cs,c<1114112):SeqAt.shaped (.list (cs.map λc=>PyData.str (zs [c])))=true:=by
 have a:PyData.canLayAll0 (cs.map λc=>PyData.str (zs [c]))=true:=by
  induction cs with
  |nil=>simp[PyData.canLayAll0]
  |cons i is ih=>
   rw[W4];simp[PyData.canLayAll0,PyData.canLay0];refine⟨?_,ih λc h=>hv c (.tail _ h)⟩;have:=hv i (.head _);show(#[i]:Array Nat).all (·<0x110000)=true;simp[this]
 have b:PyData.depthAll (cs.map λc=>PyData.str (zs [c]))=0:=by
  clear a hv
  induction cs with
  |nil=>simp[PyData.depthAll]
  |cons i is ih=>
   rw[W4];simp[PyData.depthAll,PyData.depth];exact ih
 simp[SeqAt.shaped,PyData.canLay0,PyData.depth,a,b]
theorem A6 (h:Lp σ W s bx c e N rk tk li ir it oR oT fz ts xs vs) (hts:ts.length≤50) (htc:tc ts=cs) (hv:∀c∈cs,c<1114112) (q:∀σ',bC σ σ'->K (.bool true) σ'):aq (bG .Eq (bP (aj (aV 3) 7) (cB (aj aX 6))) (bH dG (aa (aV 2) ab))) Φ ⟨[a0,a1,some (.str (zs cs)),some (.ref rk),a4,a5,a6,a7,a8,a9],[N],[]⟩ σ (bp K) KE:=by
 subst htc;obtain⟨r,k⟩:=h.ho.r;refine g_ k rfl rfl (ao h.ho.l ⟨by show(tx ts).length≤10000;rw[dz];exact Z1 hts,?_⟩);refine ic (os:=(tc ts).map λc=>.str (zs [c])) h.ho.l (by rw[W0,cM,dz]) (λi x o f b n p g=>?_) ?_
 ·unfold tx at f
  unfold tc at b;rw[Yp,Xd,W8]at b;rw[Xd,W8]at f;obtain⟨t,j,rfl⟩:=b;obtain⟨m,a,rfl⟩:=f;rw[j]at a;cases a;obtain⟨_,o,d,l⟩:=h.ho.its t (X0 j);exact g_ l rfl rfl g
 ·refine .inr (.inl ⟨by rw[db,cM];exact Z1 hts,?_⟩)
  exact qN (.list _ _ _ rfl (ae ac) mj) (.list _ _ _ rfl ac mj) (w9 hv) (q _ Kp.refl.new.new)
def yk:AS:=lM (bH bD (aa (aO (aP (ax (aC 0) (aI 3))) (aI 6) (ap .Add (aI 6) (ap .Mult (aI 3) (bH fk (aa (aI 6) (aa (bH aZ (aa (aV 0) ab)) ab)))))) ab)) (Tg.put (.l 6)) Gf (aq (bG .Eq (bP (aj (aV 3) 7) (cB (aj aX 6))) (bH dG (aa (aV 2) ab))))
def yZ:AS:=gu [.l 3,.l 4] (ag 871 (aa (aV 1) (aa (aC 0) (aa (aV 2) ab)))) (ay (.l 5) (bH aZ (aa (aV 2) ab)) yk)
def NO:AS:=ay (.l 2) (aO (aP (ax (aC 0) (aI 3))) (aS "abc") (kY gR dq (aS "") (aa (bP (bH bD (aa (ag 866 (aa (aC 0) (aa (aI 13) ab))) ab)) (cB (ax (ag 852 ab) (ag 866 (aa (aC 0) (aa (aI 5) ab)))))) ab))) yZ
theorem JC {o:Option SV} {K:Option SV->Prop} (q:K o):ja (.cell o) K:=q
theorem vV {i:Nat} {K:ca->Sg->Prop} (h1:Nat.blt i fr.loc.length=true) (q:K (fr.put i v) σ):jY [Tg.l i] [v] fr σ K:=by
 show bI (Nat.blt i fr.loc.length) (K (fr.put i v) σ) False;rw[h1];exact q
theorem A5 (h:Lp σ W s bx c e N rk tk li ir it oR oT fz ts xs vs) (hx:xs.length≤100) (hc:c<1000) (hts:ts.length≤50) (htc:tc ts=cs) (hv:∀c∈cs,c<1114112) (q:∀σ' s',Wv σ' W s'->σ'.ob 2=some (.raw xs vs)->K (.bool true) σ'):yk (Ph (n+150)) ⟨[some (.ref 2),some (.ref W),some (.str (zs cs)),some (.ref rk),some (.ref tk),some (.int ts.length),none,none,none,none],[N],[]⟩ σ (bp K) KE:=by
 have k:∀b:KV,(∀M:Int,0≤M->M≤24->b (.int M) σ)->aO (aP (ax (aC 0) (aI 3))) (aI 6) (ap .Add (aI 6) (ap .Mult (aI 3) (bH fk (aa (aI 6) (aa (bH aZ (aa (aV 0) ab)) ab))))) (Ph (n+150)) ⟨[some (.ref 2),some (.ref W),some (.str (zs cs)),some (.ref rk),some (.ref tk),some (.int ts.length),none,none,none,none],[N],[]⟩ σ b KE:=λb q=>by
  refine mH h.st.b.ob λg s' o z i=>?_;refine c_ rfl h.cN (i_ i rfl ?_);cases e with
  |true=>exact q 6 (by decide) (by decide)
  |false=>
   refine ao h.raw (eQ (Z1 hx) (.of_left (by decide)) (q _ ?_ ?_))<;>(have:∀L:Int,0≤L->0≤6+3*(if L<6 then L else 6)∧6+3*(if L<6 then L else 6)≤24:=λL p=>by split<;>lia)
   ·exact(this _ (Yl _)).1
   ·exact(this _ (Yl _)).2
 refine k _ λM j l=>?_;refine ao ac ⟨eQ rfl j (uP l),?_⟩;have m:bC σ (σ.new (.rng 0 M)):=Kp.refl.new;refine sY (n:=n) hts htc (λc σ' s' v r u t d=>?_) M.toNat 0 c _ s none none none none (X9 _) (by lia) (h.go (h.st.ext m));exact A6 d hts htc hv λa f=>q a s' (d.st.w.up f) (f.ob _ _ d.raw trivial)
theorem BU (h:St σ W s bx c e) (cN:σ.ob N=some (.cell (some (.ref bx)))) (raw:σ.ob 2=some (.raw xs vs)) (hx:xs.length≤100) (hc:c<900) (hz:cs.length≤50) (hv:∀c∈cs,c<1114112) (q:∀σ' s',Wv σ' W s'->σ'.ob 2=some (.raw xs vs)->K (.bool true) σ'):yZ (Ph (n+150)) ⟨[some (.ref 2),some (.ref W),some (.str (zs cs)),none,none,none,none,none,none,none],[N],[]⟩ σ (bp K) KE:=by
 refine c_ rfl cN (DO (n:=n+21) h (cQ hc) (Z1 hz) λt p w k A o D B E d i C f r u x l b=>t_ x rfl (pe rfl rfl (dO rfl ?_)));have j:=h.snl u;have v:k≠bx:=λy=>by
  refine mH f.b.ob λg s' F z m=>?_;have a:=l.l;rw[y,m]at a;have a:=W7 a;injection a with a;unfold tx at a;cases d with
  |nil=>exact nCN a
  |cons t d=>cases a
 refine⟨by rw[db];exact Z1 hz,?_⟩;rw[(by rw[db,←b,cM]:((zs cs).length:Int)=d.length)];exact A5 (⟨f,l,j.ob _ _ cN ⟨rfl,rfl⟩,j.ob _ _ raw ⟨rfl,rfl⟩,v⟩:Lp i W C bx (c+2) e N p w k A o D B E d xs vs) hx (fo hc) (by rw[←cM,b];exact hz:d.length≤50) b hv q
theorem CG (h:St σ W s bx c e) (cN:σ.ob N=some (.cell (some (.ref bx)))) (raw:σ.ob 2=some (.raw xs vs)) (hx:xs.length≤100) (hc:c<800) (q:∀σ' s',Wv σ' W s'->σ'.ob 2=some (.raw xs vs)->K (.bool true) σ'):NO (Ph (n+150)) ⟨[some (.ref 2),some (.ref W),none,none,none,none,none,none,none,none],[N],[]⟩ σ (bp K) KE:=by
 have t:∀f:KV,(∀(cs:List Nat) σ',cs.length≤50->(∀c∈cs,c<1114112)->Go σ σ' W s s bx (c+20) e->f (.str (zs cs)) σ')->aO (aP (ax (aC 0) (aI 3))) (aS "abc") (kY gR dq (aS "") (aa (bP (bH bD (aa (ag 866 (aa (aC 0) (aa (aI 13) ab))) ab)) (cB (ax (ag 852 ab) (ag 866 (aa (aC 0) (aa (aI 5) ab)))))) ab)) (Ph (n+150)) ⟨[some (.ref 2),some (.ref W),none,none,none,none,none,none,none,none],[N],[]⟩ σ f KE:=λf q=>by
  refine mH h.b.ob λg s' v z l=>?_;refine c_ rfl cN (i_ l rfl ?_);cases e with
  |true=>
   have:=q [97,98,99] σ (by decide) (by decide) ((Go.refl h).ge (pC));rw[←vg.2.2.2]at this;exact this
  |false=>
   refine⟨trivial,c_ rfl cN (h.tk (n:=n+149) (cQ hc) (by decide) (by decide) λr d m k a=>?_)⟩;refine ao ac (eQ (eQ rfl m (by lia)) (by show r.toNat≤10000;exact JD k) ?_);refine xR (n:=n+149) (JD k) (a.new (o:=.rng 0 r)).st (fo hc) ((a.new (o:=.rng 0 r)).kp.ob _ _ cN ⟨rfl,h.ne cN rfl⟩) λcs u b i p=>?_;dsimp only[ab];refine nv (cs:=cs) ac (by lia) ?_;exact q cs _ (by lia) i ((((a.new (o:=.rng 0 r)).trans p).new (o:=.list (cs.map λc=>.str (zs [c])))).ge (by lia))
 refine dO rfl ?_;refine t _ λcs d b i a=>?_;have j:=h.snl a.kp;exact BU a.st (j.ob _ _ cN ⟨rfl,rfl⟩) (j.ob _ _ raw ⟨rfl,rfl⟩) hx (fo hc) b i q
theorem LT (h0:σ.ob 0=some (.ctab 920 [])) (h1:σ.ob 1=some (.ctab 932 [])) (h2:σ.ob 2=some (.raw (is.map .int) vs)) (hlen:is.length≤63) (q:∀σ' W s',Wv σ' W s'->σ'.ob 2=some (.raw (is.map .int) vs)->K (.bool true) σ'):Ph (n+151) 0 940 [.ref 2] σ K KE:=by
 refine dh (φ:=fX 1 [] [some 0,none,none,none,none,none,none,none,none,none] [none] vw) rfl rfl ⟨rfl,?_⟩;have u:bC σ (σ.new (.cell none)):=Kp.refl.new;have m:(σ.new (.cell none)).ob σ.nx=some (.cell none):=ac;change vw (Ph (n+150)) ⟨[some (.ref 2),none,none,none,none,none,none,none,none,none],[σ.nx],[]⟩ (σ.new (.cell none)) (bp K) KE;generalize (σ.new (.cell none))=σ1 at u m ⊢;generalize σ.nx=N at m ⊢;refine IU (n:=n+149) (u.ob _ _ h2 trivial) hlen λc e a v C=>?_;have j:=u.trans v;have k:bC a ((a.new .dic0).new (.inst 834 [])):=Kp.refl.new.new;have l:((a.new .dic0).new (.inst 834 [])).ob (a.new .dic0).nx=some (.inst 834 []):=ac;refine xr (n:=n+149) (Fa (n:=n+21) (ae ac:((a.new .dic0).new (.inst 834 [])).ob a.nx=some .dic0) l ⟨bv ([]) ((j.trans k).ob _ _ h0 trivial) (λZ h=>nomatch h),bv ([]) ((j.trans k).ob _ _ h1 trivial) (λZ h=>nomatch h)⟩ λb E y F o=>(eQ rfl (bl rfl) ?_));generalize (a.new .dic0).nx=W at l y o ⊢;have A:=C.up k λZ=>trivial;have s:c≠W:=λD=>by
  refine mH A.ob λg s' G z x=>?_;rw[D,l]at x;cases x
 have i:=(j.trans k).ob _ _ h2 trivial;have t:St b W E c 0 e:=⟨y,F,(A.up o λH=>⟨rfl,s⟩)⟩;have p:bC b (b.new (.tup [.ref c,.ref W])):=Kp.refl.new;have d:=p.ob _ _ (o.ob _ _ (k.ob _ _ (v.ob _ _ m trivial) trivial) ⟨rfl,bE (k.ob _ _ (v.ob _ _ m trivial) trivial) l rfl⟩) trivial;have f:=p.ob _ _ (o.ob _ _ i ⟨rfl,bE i l rfl⟩) trivial;refine t_ ac rfl ⟨_,rfl,ao d (JC (vV rfl ?_))⟩;have B:dB N (b.new (.tup [.ref c,.ref W])) ((b.new (.tup [.ref c,.ref W])).set N (.cell (some (.ref c)))):=Kp.refl.set λZ Z h=>h rfl;exact CG ((t.ext p).st.but B d rfl rfl rfl rfl) (aE d:((b.new (.tup [.ref c,.ref W])).set N (.cell (some (.ref c)))).ob N=some (.cell (some (.ref c)))) (B.ob _ _ f (bE f d rfl)) (by rw[W0];exact Z1 hlen) (by decide) λσ' s' w r=>q σ' W s' w r
theorem Ht:PySem.Challenge.rw_sm0031_01.Holds:=XfN λd vs a=>LT (n:=349) rfl rfl rfl a λb W c w r=>⟨rfl,let ⟨es,h,_⟩:=w.tb.1;⟨es,h⟩,let ⟨es,h,_⟩:=w.tb.2;⟨es,h⟩,r⟩
end
end Mine
theorem PySem.Challenge.cw_sm0031_01_holds : PySem.Challenge.rw_sm0031_01.Holds :=
  Mine.Ht
