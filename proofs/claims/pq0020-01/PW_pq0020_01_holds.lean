import PyProof.Rows.All
import Wide.All
import OpenK.AllK
import Wide.FinOn
import PySem.Challenge.RW_pq0020_01
set_option Elab.async false
set_option autoImplicit false
set_option linter.all false
set_option genInjectivity false
set_option genSizeOf false
set_option bootstrap.genMatcherCode false
set_option maxRecDepth 100000
set_option tactic.hygienic false
set_option backward.match.sparseCases false
namespace Mine.Internal
noncomputable def Xj:=@PySem.wpAny_bind
noncomputable def Xk:=@List.length_map
noncomputable def Xl:=@Nat.le_trans
noncomputable def Xm:=@PySem.wpAny_pure
noncomputable def Xn:=@List.length_append
noncomputable def Xo:=@Nat.zero_le
noncomputable def Xp:=@Nat.le_refl
noncomputable def Xq:=@List.length_cons
noncomputable def Xr:=@if_pos
noncomputable def Xs:=@Option.some.inj
noncomputable def Xu:=@congrArg
noncomputable def Xv:=@if_neg
noncomputable def Xw:=@List.map_cons
noncomputable def Xx:=@LawfulBEq.eq_of_beq
noncomputable def Xy:=λ{a b c}=>(@List.mem_singleton a b c).mp
noncomputable def Xz:=@List.mem_cons_self
noncomputable def XA:=@List.mem_cons_of_mem
noncomputable def XB:=@Nat.lt_of_lt_of_le
noncomputable def XC:=λ{a b c d}=>(@List.mem_cons a b c d).mp
noncomputable def XD:=λ{a b c d}=>(@List.mem_append a b c d).mp
noncomputable def XF:=@List.length_set
noncomputable def XG:=@PySem.Heap.get?_push_of_some
noncomputable def XH:=@Nat.ne_of_lt
noncomputable def XI:=@PySem.wpAny_holding
noncomputable def XJ:=@Nat.le_add_right
noncomputable def XL:=@decide_eq_true
noncomputable def XM:=@List.append_assoc
noncomputable def XN:=@List.map_map
noncomputable def XO:=@List.length_range
noncomputable def XQ:=@of_decide_eq_true
noncomputable def XR:=@List.length_nil
noncomputable def XS:=λ{a b c d}=>(@List.getElem?_eq_some_iff a b c d).mp
noncomputable def XT:=@List.nil_append
noncomputable def XU:=@decide_eq_false
noncomputable def XV:=@List.map_append
noncomputable def XW:=@Nat.le_of_eq
noncomputable def XX:=@List.not_mem_nil
noncomputable def XY:=λ{a b c d e}=>(@List.mem_map a b c d e).mp
noncomputable def XZ:=@PySem.Heap.get?_push_size
noncomputable def X0:=@PySem.wpAny_standAt
noncomputable def Yb:=@List.append_nil
noncomputable def Yc:=@Nat.le_of_lt
noncomputable def Yd:=@List.prefix_append
noncomputable def Ye:=@List.getElem?_append_left
noncomputable def Yg:=λ{a b c}=>(@List.mem_singleton a b c).mpr
noncomputable def Yh:=@List.prefix_refl
noncomputable def Yi:=@List.mem_of_getElem?
noncomputable def Yj:=@Nat.le_succ
noncomputable def Yk:=@List.sum_cons
noncomputable def Yl:=@List.set_set
noncomputable def Ym:=@PySem.Heap.lt_size
noncomputable def Yn:=@List.mem_cons
noncomputable def Yo:=@List.getElem?_eq_getElem
noncomputable def Yp:=@Ne.symm
noncomputable def Yq:=λ{a b}=>(@Bool.or_eq_true_iff a b).mp
noncomputable def Yr:=@List.size_toArray
noncomputable def Ys:=@List.getElem?_map
noncomputable def Yt:=λ{a b c d e}=>(@List.mem_map a b c d e).mpr
noncomputable def Yu:=@List.mem_singleton
noncomputable def Yv:=λ{a b}=>(@List.mem_range a b).mp
noncomputable def Yw:=@Nat.add_le_add_left
noncomputable def Yx:=@Nat.succ_le_succ
noncomputable def Yy:=@Bool.false_ne_true
noncomputable def Yz:=@List.getElem?_toArray
noncomputable def YA:=@List.mem_append_left
noncomputable def YB:=@Nat.lt_of_le_of_lt
noncomputable def YC:=@Nat.le_of_ble_eq_true
noncomputable def YD:=@Bool.and_eq_true
noncomputable def YE:=λ{a b c d e}=>(@Option.map_eq_some_iff a b c d e).mp
noncomputable def YF:=λ{a b}=>(@Bool.and_eq_true_iff a b).mp
noncomputable def YG:=λ{a b c}=>(@List.all_eq_true a b c).mp
noncomputable def YH:=@List.map_nil
noncomputable def YI:=@PySem.wpAny_setField_rec
noncomputable def YJ:=@Nat.le_add_left
noncomputable def YK:=@List.getElem?_append_right
noncomputable def YL:=@Nat.add_le_add_right
noncomputable def YM:=@PySem.wpAny_truthy_bool
noncomputable def YN:=@List.all_cons
noncomputable def YO:=@Nat.le_succ_of_le
noncomputable def YQ:=@Nat.lt_irrefl
noncomputable def YR:=@Int.natCast_nonneg
noncomputable def YS:=@PySem.codeAny_mono
noncomputable def YT:=@List.mem_append_right
noncomputable def YU:=@List.map_congr_left
noncomputable def YV:=@Nat.ne_of_gt
noncomputable def YW:=@List.getElem?_set_ne
noncomputable def YX:=@Nat.not_lt_zero
noncomputable def YY:=@PySem.wpAny_call_entry
noncomputable def YZ:=@PySem.Heap.size_push
noncomputable def Y0:=@List.mem_map_of_mem
noncomputable def Y1:=@Nat.mul_le_mul_right
noncomputable def Y2:=λ{a b}=>(@List.mem_range a b).mpr
noncomputable def Y3:=@Nat.add_le_add
noncomputable def Y4:=@List.cons_append
noncomputable def Y5:=@List.nodup_nil
noncomputable def Y6:=@Nat.succ_pos
noncomputable def Y7:=@PySem.mem_of_lookup
noncomputable def Y8:=@PySem.getMethod_builtin
noncomputable def Y9:=@List.nodup_cons
noncomputable def Y':=@List.mem_of_mem_take
noncomputable def Za:=@Nat.lt_succ_self
noncomputable def Zb:=λ{a b}=>(@Nat.not_lt a b).mpr
noncomputable def Zc:=λ{a b c d}=>(@List.mem_filter a b c d).mp
noncomputable def Zd:=@PySem.codeAny_of_tree
noncomputable def Ze:=@List.map_reverse
noncomputable def Zf:=λ{a b}=>(@List.length_eq_zero_iff a b).mp
noncomputable def Zg:=λ{a b c}=>(@List.nodup_cons a b c).mp
noncomputable def Zh:=λ{a b}=>(@Bool.and_eq_true_iff a b).mpr
noncomputable def Zi:=@List.find?_cons
noncomputable def Zj:=@Array.length_toList
noncomputable def Zk:=@PySem.wpAny_newObj_type
noncomputable def Zl:=@Bool.false_eq_true
noncomputable def Zm:=@Nat.min_le_left
noncomputable def Zn:=@List.range_succ
noncomputable def Zo:=λ{a b}=>(@List.isEmpty_iff a b).mp
noncomputable def Zq:=@List.getElem?_set_self
noncomputable def Zr:=@Nat.lt_succ_of_lt
noncomputable def Zs:=@Nat.not_succ_le_zero
noncomputable def Zu:=@PySem.Heap.get?_update_self
noncomputable def Zv:=@Array.getElem?_eq_getElem
noncomputable def Zw:=λ{a b c d e}=>(@Option.bind_eq_some_iff a b c d e).mp
noncomputable def Zx:=λ{a b}=>(@Option.eq_none_iff_forall_ne_some a b).mpr
noncomputable def Zy:=λ{a b}=>(@Option.isNone_iff_eq_none a b).mp
section
variable{a b c d e f g i m n k:Nat}
theorem qT(h:a<=b)(k:b<=c):a<=c:=Xl h k
theorem bT(h:a+c<=b):a<=b:=Xl (XJ ..) h
theorem cG(h:c+a<=b):a<=b:=Xl (YJ ..) h
theorem qM(h:a+c<b):a<b:=YB (XJ ..) h
theorem d5(h:a<=b):a<=b+c:=Xl h (XJ ..)
theorem sX(h:a<=b):a<=c+b:=Xl h (YJ ..)
theorem qF(h:a<=b)(k:c<=d):a+c<=b+d:=Y3 h k
theorem qO(h:a<=b):a+c<=b+c:=YL h c
theorem x0(h:a<=b):c+a<=c+b:=Yw h c
theorem qL(h:a<b):a<=b:=Yc h
theorem x5(h:¬b<a):a<=b:=Nat.le_of_not_lt h
theorem Co(h:¬b<=a):a<b:=Nat.lt_of_not_le h
theorem gM(h:a<b):a≠b:=XH h
theorem mC(h:b<a):a≠b:=YV h
theorem iO:a<=a+c:=XJ ..
theorem gh:a<=c+a:=YJ ..
theorem pi:a<=a:=Xp a
theorem gj(h:a+(c+b)<=d):a+b+c<=d:=by lia
theorem vl(h:a+(b+c)<=d):a+b+c<=d:=Nat.add_assoc a b c▸h
theorem sZ(h:a+b+c<=d):a+(b+c)<=d:=Nat.add_assoc a b c▸h
theorem hX(h:a+c+b<=d):a+b+c<=d:=by lia
theorem vm(h:b+a<=c):a+b<=c:=by lia
theorem Cq(h:a<=b+(c+d)):a<=b+c+d:=by lia
theorem Ji(h:b+(a+c)<=d):a+b+c<=d:=by lia
theorem jc(h:a+c<=b+c):a<=b:=Nat.le_of_add_le_add_right h
theorem sY(h:a=b):a<=b:=XW h
theorem gL(h:b=a):a<=b:=XW h.symm
theorem Ct:a<=max a b:=Nat.le_max_left ..
theorem Cu:b<=max a b:=Nat.le_max_right ..
theorem pj(h:b+c<a):a≠b:=by lia
theorem nN(h:b<c)(k:c<=a):a≠b:=by lia
theorem Cr(h:c<a):a+b≠c:=by lia
theorem jb(h:a+(c+1)<=b):a<b:=by lia
theorem vj(h:2*a<=b):a<=b:=by lia
theorem x7(h:a<=c)(k:b<=c):a+b<=2*c:=by lia
theorem bP(h:a<=m)(d:Nat.ble m n=true):a<=n:=Xl h (YC d)
theorem j3(h:a<m)(d:Nat.ble m n=true):a<=n:=Xl (Yc h) (YC d)
theorem ja(h:a<=m)(d:Nat.ble (m+k) n=true):a+k<=n:=Xl (YL h k) (YC d)
theorem qQ(h:a<=m)(d:Nat.ble (m+k) n=true):k+a<=n:=Nat.add_comm a k▸Xl (YL h k) (YC d)
theorem kP(h:a<m)(d:Nat.ble m n=true):a≠n:=λe=>by have:=YC d;lia
theorem qR(d:Nat.ble 1 m=true):a+m≠a:=λe=>by have:=YC d;lia
theorem x8(d:Nat.ble 1 m=true):a≠a+m:=λe=>by have:=YC d;lia
theorem nK(d:Nat.beq m n=false):a+m≠a+n:=λe=>by have:=Nat.ne_of_beq_eq_false d;lia
theorem nM(h:b+m<a)(d:Nat.ble n m=true):a≠b+n:=λe=>by have:=YC d;lia
theorem vk(h:b+m<=a)(d:Nat.ble n m=true):b+n<=a:=by have:=YC d;lia
theorem Jg(h:b<=a+m)(d:Nat.ble m n=true):b<=a+n:=by have:=YC d;lia
theorem Cp(d:Nat.ble m n=true):a+m<=a+n:=by have:=YC d;lia
theorem Jh(d:Nat.ble (m+1) n=true):¬(a+n<=m):=by have:=YC d;lia
theorem Jj(h:a<=b):((a:Nat):Int)<=((b:Nat):Int):=Int.ofNat_le.mpr h
theorem mD(h:a<b):((a:Nat):Int)<((b:Nat):Int):=Int.ofNat_lt.mpr h
theorem tb(h:¬(a=b)):¬(((a:Nat):Int)=((b:Nat):Int)):=by lia
theorem x9(h:¬(a<=b)):¬(((a:Nat):Int)<=((b:Nat):Int)):=by lia
theorem qS:((a+1:Nat):Int)-1=((a:Nat):Int):=by lia
theorem vn:-1000000000000<=((a:Nat):Int):=by lia
theorem nO{x:Int}:x<=((a:Nat):Int)+x:=by lia
theorem vg:a+(b+c)=a+b+c:=(Nat.add_assoc a b c).symm
theorem xZ:a+b+c=a+(c+b):=by lia
theorem Jd:¬(a+b<b):=by lia
theorem qI{a b:Prop}(h:a)(k:b):a/\b:=⟨h,k⟩
theorem Ck{p:Prop}(h:a<b)(k:b<=a):p:=absurd h (Zb k)
theorem Cl{p:Prop}(h:a<b)(k:a=b):p:=absurd k (XH h)
theorem vh(h:a<=b):a+1<=b+1:=Yx h
theorem ph(h:a<=b)(k:c+m+b<=d)(z:Nat.ble 1 m=true):a+1<=d:=by have:=YC z;lia
theorem x3(h:a<=b)(k:b+c+m<=d)(z:Nat.ble 1 m=true):a+1<=d:=by have:=YC z;lia
theorem x4(h:a<=b)(d:Nat.ble m n=true):a+m<=b+n:=Y3 h (YC d)
theorem vi(h:b=a+c):a<=b:=by lia
theorem qP(h:b=c+a):a<=b:=by lia
theorem i9(h:a<c)(k:b=c+m):a<b:=by lia
theorem qG1(h:d<=a):a+b+c-d=a-d+b+c:=by rw[Nat.add_assoc,Nat.sub_add_comm h,Nat.add_assoc]
theorem qG2{p:Prop}(h:a<b∨b+c<a)(k:b=a):p:=h.elim (λh=>absurd k (YV h)) λh=>absurd k (XH (YB (XJ b c) h))
theorem qG3(h:a<c∨d<a)(k:b<e)(l:¬(a+1+(c-(a+1))=c/\c-(a+1)<e)):a+1+b<c∨d<a+1+b:=h.elim (λh=>have e:a+1+(c-(a+1))=c:=Nat.add_sub_cancel' h;.inl (XB (Nat.add_lt_add_left (XB k (Nat.not_lt.mp λq=>l ⟨e,q⟩)) (a+1)) (XW e))) λh=>.inr (XB h (Xl (Yj a) (XJ (a+1) b)))
theorem qG4(h:a≠b)(l:¬(b+1+(a-(b+1))=a/\a-(b+1)<c)):a<b∨b+c<a:=(Nat.lt_or_gt_of_ne h).imp id λh=>have e:b+1+(a-(b+1))=a:=Nat.add_sub_cancel' h;XB (XB (Nat.add_lt_add_right (Za b) c) (Yw (Nat.not_lt.mp λq=>l ⟨e,q⟩) (b+1))) (XW e)
theorem qG5(hb:b=c∨b=d∨b=a∨b=e)(s5:c=d+f)(s4:d=g+f)(s2:e=a+f)(s3:g=e+f):a<=b:=have h1:a<=e:=s2▸XJ ..;have h2:a<=g:=Xl h1 (s3▸XJ ..);have h3:a<=d:=Xl h2 (s4▸XJ ..);have h4:a<=c:=Xl h3 (s5▸XJ ..);hb.elim (λh=>h▸h4) λh=>h.elim (λh=>h▸h3) λh=>h.elim (λh=>XW h.symm) λh=>h▸h1
theorem qG6(h:a-b<=d+c):a-(b+c)<=d:=Nat.sub_add_eq a b c▸Nat.sub_le_of_le_add h
theorem qG7(h:b<=c)(k:c-a<=0):¬(((a:Nat):Int)<((b:Nat):Int)):=λq=>absurd (Int.ofNat_lt.mp q) (Zb (Xl h (Nat.le_of_sub_eq_zero (Nat.le_zero.mp k))))
theorem qG8:Int.toNat (((a:Nat):Int)-((a:Nat):Int)%2)=a-a%2:=Int.toNat_sub a (a%2)
theorem qG9(h:a<=b-1)(k:b=c+1):a<b:=by subst k;exact Nat.lt_succ_of_le h
theorem qGa(h:a<b):a<=b-1:=Nat.le_sub_one_of_lt h
theorem qGb(h:a=min a b):0+a<=b:=Xl (XW (Nat.zero_add a)) (Xl (XW h) (Nat.min_le_right a b))
theorem qGc(h:a<c)(k:c+2<b):a<b/\c+1<b/\c+2<b:=⟨Nat.lt_trans h (YB (XJ c 2) k),Nat.lt_of_succ_lt k,k⟩
theorem qGd(h:a<=b/\e<=f):a<=max b c+d/\e<=f+g+i:=⟨Xl h.1 (Xl (Nat.le_max_left ..) (XJ ..)),Xl h.2 (Xl (XJ ..) (XJ ..))⟩
theorem qGe:a+b<=max c a+b/\d<=e+d+f:=⟨YL (Nat.le_max_right ..) b,Xl (YJ ..) (XJ ..)⟩
theorem qGf(h:a<=b):a<=max b c+d:=Xl h (Xl (Nat.le_max_left ..) (XJ ..))
theorem qGg(h:a<=2)(k:b<=2):max a (max b 0)+1<=4:=Yx (Xl (Nat.max_le.mpr ⟨h,Nat.max_le.mpr ⟨k,Xo 2⟩⟩) (Yj 2))
theorem qGh(h:a<=c∨b<=c):min a b<=c:=h.elim (Xl (Zm ..)) (Xl (Nat.min_le_right ..))
theorem qGi{x:Int}(h:¬(x=0)):Int.natAbs x≠0:=Int.natAbs_ne_zero.mpr h
theorem qGj(h:¬(a=b)):min a b<max a b:=(Nat.lt_or_gt_of_ne h).elim (λh=>by rw[Nat.min_eq_left (Yc h),Nat.max_eq_right (Yc h)];exact h) λh=>by rw[Nat.min_eq_right (Yc h),Nat.max_eq_left (Yc h)];exact h
theorem qGk(h:b<6):(a*6+b)/6=a:=by rw[Nat.add_comm,Nat.add_mul_div_right _ _ (Y6 5),Nat.div_eq_of_lt h,Nat.zero_add]
theorem qGl(h:b<6):(a*6+b)%6=b:=by rw[Nat.add_comm,Nat.add_mul_mod_self_right,Nat.mod_eq_of_lt h]
theorem qGm{p:Prop}(h:a<=b-d/\p):a+0<=b+c-d:=Xl h.1 (Nat.sub_le_sub_right (XJ b c) d)
theorem qGn{p:Prop}(h:a<=c-e/\p)(k:b<=d)(l:e<=c):a+b<=c+d-e:=Nat.sub_add_comm l▸Y3 h.1 k
theorem qGo(h:a+e<=d)(k:c<=f)(l:e=b+f):a+b+c<=d:=Xl (Nat.add_assoc a b c▸l▸Yw (Yw k b) a) h
theorem qGp(h:a<=b+d+e)(k:c=d+f)(l:e<=f):a<=b+c:=Xl h (k▸Nat.add_assoc b d e▸Yw (Yw l d) b)
theorem qGq(h:a<=c+m)(l:c+n<=b)(d:Nat.ble (m+k) n=true):a+k<=b:=Xl (YL h k) (Xl (Nat.add_assoc c m k▸Yw (YC d) c) l)
theorem qGu:a<=a-b+b:=Nat.sub_le_iff_le_add.mp (Xp _)
theorem qGv:a+a*b=a*(b+1):=(Nat.add_comm ..).trans (Nat.mul_succ a b).symm
theorem Je{x b c:Nat}(h:x<=2*(c+b)):max 0 (max x 0)+b<=2*(c+b)+b:=by rw[Nat.zero_max,Nat.max_zero];exact YL h b
theorem Jf{x b c:Nat}(h:x<=2*(c+b)):max 0 (max 0 (max x 0))+b<=2*(c+b)+b:=by rw[Nat.zero_max,Nat.zero_max,Nat.max_zero];exact YL h b
theorem qGy(h:a<=d)(k:c<=e+b):max (max 0 (max a 0)+b) c<=max d e+b:=by rw[Nat.zero_max,Nat.max_zero];exact Nat.max_le.mpr ⟨YL (Xl h (Nat.le_max_left ..)) b,Xl k (YL (Nat.le_max_right ..) b)⟩
theorem qGz(h:c+b<=a):a=a-b+b:=(Nat.sub_add_cancel (Xl (YJ ..) h)).symm
theorem Jk{x y:Int}:x+y-1=x-1+1*y:=by lia
theorem Jl{x y:Int}(h1:y<x):0<=x-y-1:=by lia
theorem Jv{x y:Int}(h1:¬(y<x)):x-y-1<0:=by lia
theorem JD(h1:a<c)(h2:b=d+e)(h3:d=f+e)(h4:f=g+e)(h5:g=c+e):a<b:=by lia
theorem JE(h1:c+a+d<=e)(h2:f+e<=b):a<=b:=by lia
theorem JF(h1:a<=c)(h2:d+40+c<=b):a+1<b:=by lia
theorem JG(h1:a<=c)(h2:c+d+10<=b):a+1+1<=b:=by lia
theorem JH(h1:a+2*(e+b+c+(e+b))+2<=d):a+b+2*c+2<=d:=by lia
theorem JI(h1:a=c)(h2:c<=d)(h3:e+d<=b):a<=b:=by lia
theorem JJ:a+(0+b)=a+b:=by lia
theorem Jm:a+(0+(b+0))+0=a+b:=by lia
theorem Jn:a+(0+(0+b))+0=a+b:=by lia
theorem Jo{x y:Int}(h1:y<x):x≠y:=by lia
theorem Jp(h1:b+1+a<=2):a=0∨a=1:=by lia
theorem Jq(h1:a<=c)(h2:b<=c):max a (max b 0)<=c:=by lia
theorem Jr(h1:a<=b+d+c):a<=b+(c+d):=by lia
theorem Js(h1:a+(d+2*b+e)<=c):a+b<=c:=by lia
theorem ya(h1:a+(5+b+c)<=d):a+1+(4+b+c)<=d:=by lia
theorem Jt(h1:a<=e+f)(h2:e+b<=c)(h3:f<=d):a+b<=c+d:=by lia
theorem Ju(h1:a<=e+f)(h2:e<=c)(h3:f+b<=d):a+b<=c+d:=by lia
theorem Jw(h1:a+d<=c)(h2:d=b+e):a+b<=c:=by lia
theorem Jx(h1:a<=d+e)(h2:d+(b+e)<=c):a+b<=c:=by lia
theorem Jy(h1:a<=b/\b<=c):a<=b+0/\b+0<=2*c:=by lia
theorem Jz:a=b∨a=a∨a=c∨d<=a:=by lia
theorem JA(h1:a<=c)(h2:b=d)(h3:d=c):a<=b:=by lia
theorem JB(h1:a<=b):a<=2*(5*b):=by lia
theorem Cv(h1:a+c<=d)(h2:d<b+c):a<b:=by lia
theorem JC:a+b+1+3=a+4+b:=by lia
end
section
variable{G:Prop}{α β γ δ ε:Sort _}
theorem bc{A B:Prop}(h:A/\B)(k:A->B->G):G:=k h.1 h.2
theorem cN{A B C:Prop}(h:A/\B/\C)(k:A->B->C->G):G:=k h.1 h.2.1 h.2.2
theorem kM{A B C D:Prop}(h:A/\B/\C/\D)(k:A->B->C->D->G):G:=k h.1 h.2.1 h.2.2.1 h.2.2.2
theorem sR{A B C D E:Prop}(h:A/\B/\C/\D/\E)(k:A->B->C->D->E->G):G:=k h.1 h.2.1 h.2.2.1 h.2.2.2.1 h.2.2.2.2
theorem xP{A B C D E F:Prop}(h:A/\B/\C/\D/\E/\F)(k:A->B->C->D->E->F->G):G:=k h.1 h.2.1 h.2.2.1 h.2.2.2.1 h.2.2.2.2.1 h.2.2.2.2.2
theorem RB{A B C D E F H:Prop}(h:A/\B/\C/\D/\E/\F/\H)(k:A->B->C->D->E->F->H->G):G:=k h.1 h.2.1 h.2.2.1 h.2.2.2.1 h.2.2.2.2.1 h.2.2.2.2.2.1 h.2.2.2.2.2.2
theorem aT{A:α->Prop}(h:∃x,A x)(k:∀x,A x->G):G:=h.elim λx h=>k x h
theorem az{A B:α->Prop}(h:∃x,A x/\B x)(k:∀x,A x->B x->G):G:=h.elim λx h=>k x h.1 h.2
theorem c8{A B C:α->Prop}(h:∃x,A x/\B x/\C x)(k:∀x,A x->B x->C x->G):G:=h.elim λx h=>k x h.1 h.2.1 h.2.2
theorem hU{A B C D:α->Prop}(h:∃x,A x/\B x/\C x/\D x)(k:∀x,A x->B x->C x->D x->G):G:=h.elim λx h=>k x h.1 h.2.1 h.2.2.1 h.2.2.2
theorem u3{A B C D E:α->Prop}(h:∃x,A x/\B x/\C x/\D x/\E x)(k:∀x,A x->B x->C x->D x->E x->G):G:=h.elim λx h=>k x h.1 h.2.1 h.2.2.1 h.2.2.2.1 h.2.2.2.2
theorem RC{A B C D E F H:α->Prop}(h:∃x,A x/\B x/\C x/\D x/\E x/\F x/\H x)(k:∀x,A x->B x->C x->D x->E x->F x->H x->G):G:=h.elim λx h=>k x h.1 h.2.1 h.2.2.1 h.2.2.2.1 h.2.2.2.2.1 h.2.2.2.2.2.1 h.2.2.2.2.2.2
theorem Il{A:α->β->Prop}(h:∃x y,A x y)(k:∀x y,A x y->G):G:=h.elim λx h=>h.elim λy h=>k x y h
theorem dY{A B:α->β->Prop}(h:∃x y,A x y/\B x y)(k:∀x y,A x y->B x y->G):G:=h.elim λx h=>h.elim λy h=>k x y h.1 h.2
theorem cO{A B C:α->β->Prop}(h:∃x y,A x y/\B x y/\C x y)(k:∀x y,A x y->B x y->C x y->G):G:=h.elim λx h=>h.elim λy h=>k x y h.1 h.2.1 h.2.2
theorem dj{A B C D:α->β->Prop}(h:∃x y,A x y/\B x y/\C x y/\D x y)(k:∀x y,A x y->B x y->C x y->D x y->G):G:=h.elim λx h=>h.elim λy h=>k x y h.1 h.2.1 h.2.2.1 h.2.2.2
theorem i8{A B C D E:α->β->Prop}(h:∃x y,A x y/\B x y/\C x y/\D x y/\E x y)(k:∀x y,A x y->B x y->C x y->D x y->E x y->G):G:=h.elim λx h=>h.elim λy h=>k x y h.1 h.2.1 h.2.2.1 h.2.2.2.1 h.2.2.2.2
theorem RD{A B C D E F H:α->β->Prop}(h:∃x y,A x y/\B x y/\C x y/\D x y/\E x y/\F x y/\H x y)(k:∀x y,A x y->B x y->C x y->D x y->E x y->F x y->H x y->G):G:=h.elim λx h=>h.elim λy h=>k x y h.1 h.2.1 h.2.2.1 h.2.2.2.1 h.2.2.2.2.1 h.2.2.2.2.2.1 h.2.2.2.2.2.2
theorem Im{A B C D E F H I:α->β->Prop}(h:∃x y,A x y/\B x y/\C x y/\D x y/\E x y/\F x y/\H x y/\I x y)(k:∀x y,A x y->B x y->C x y->D x y->E x y->F x y->H x y->I x y->G):G:=h.elim λx h=>h.elim λy h=>k x y h.1 h.2.1 h.2.2.1 h.2.2.2.1 h.2.2.2.2.1 h.2.2.2.2.2.1 h.2.2.2.2.2.2.1 h.2.2.2.2.2.2.2
theorem sS{A B:α->β->γ->Prop}(h:∃x y z,A x y z/\B x y z)(k:∀x y z,A x y z->B x y z->G):G:=h.elim λx h=>h.elim λy h=>h.elim λz h=>k x y z h.1 h.2
theorem nA{A B C:α->β->γ->Prop}(h:∃x y z,A x y z/\B x y z/\C x y z)(k:∀x y z,A x y z->B x y z->C x y z->G):G:=h.elim λx h=>h.elim λy h=>h.elim λz h=>k x y z h.1 h.2.1 h.2.2
theorem u4{A B C D:α->β->γ->Prop}(h:∃x y z,A x y z/\B x y z/\C x y z/\D x y z)(k:∀x y z,A x y z->B x y z->C x y z->D x y z->G):G:=h.elim λx h=>h.elim λy h=>h.elim λz h=>k x y z h.1 h.2.1 h.2.2.1 h.2.2.2
theorem BW{A B C D E:α->β->γ->Prop}(h:∃x y z,A x y z/\B x y z/\C x y z/\D x y z/\E x y z)(k:∀x y z,A x y z->B x y z->C x y z->D x y z->E x y z->G):G:=h.elim λx h=>h.elim λy h=>h.elim λz h=>k x y z h.1 h.2.1 h.2.2.1 h.2.2.2.1 h.2.2.2.2
theorem u5{A B C D E F:α->β->γ->Prop}(h:∃x y z,A x y z/\B x y z/\C x y z/\D x y z/\E x y z/\F x y z)(k:∀x y z,A x y z->B x y z->C x y z->D x y z->E x y z->F x y z->G):G:=h.elim λx h=>h.elim λy h=>h.elim λz h=>k x y z h.1 h.2.1 h.2.2.1 h.2.2.2.1 h.2.2.2.2.1 h.2.2.2.2.2
theorem u6{A B C D E F H:α->β->γ->Prop}(h:∃x y z,A x y z/\B x y z/\C x y z/\D x y z/\E x y z/\F x y z/\H x y z)(k:∀x y z,A x y z->B x y z->C x y z->D x y z->E x y z->F x y z->H x y z->G):G:=h.elim λx h=>h.elim λy h=>h.elim λz h=>k x y z h.1 h.2.1 h.2.2.1 h.2.2.2.1 h.2.2.2.2.1 h.2.2.2.2.2.1 h.2.2.2.2.2.2
theorem BX{A B C D E F H I:α->β->γ->Prop}(h:∃x y z,A x y z/\B x y z/\C x y z/\D x y z/\E x y z/\F x y z/\H x y z/\I x y z)(k:∀x y z,A x y z->B x y z->C x y z->D x y z->E x y z->F x y z->H x y z->I x y z->G):G:=h.elim λx h=>h.elim λy h=>h.elim λz h=>k x y z h.1 h.2.1 h.2.2.1 h.2.2.2.1 h.2.2.2.2.1 h.2.2.2.2.2.1 h.2.2.2.2.2.2.1 h.2.2.2.2.2.2.2
theorem Io{A B C D E F H I J:α->β->γ->Prop}(h:∃x y z,A x y z/\B x y z/\C x y z/\D x y z/\E x y z/\F x y z/\H x y z/\I x y z/\J x y z)(k:∀x y z,A x y z->B x y z->C x y z->D x y z->E x y z->F x y z->H x y z->I x y z->J x y z->G):G:=h.elim λx h=>h.elim λy h=>h.elim λz h=>k x y z h.1 h.2.1 h.2.2.1 h.2.2.2.1 h.2.2.2.2.1 h.2.2.2.2.2.1 h.2.2.2.2.2.2.1 h.2.2.2.2.2.2.2.1 h.2.2.2.2.2.2.2.2
theorem o8{A B C D:α->β->γ->δ->Prop}(h:∃x y z u,A x y z u/\B x y z u/\C x y z u/\D x y z u)(k:∀x y z u,A x y z u->B x y z u->C x y z u->D x y z u->G):G:=h.elim λx h=>h.elim λy h=>h.elim λz h=>h.elim λu h=>k x y z u h.1 h.2.1 h.2.2.1 h.2.2.2
theorem BY{A B C D E F H I:α->β->γ->δ->Prop}(h:∃x y z u,A x y z u/\B x y z u/\C x y z u/\D x y z u/\E x y z u/\F x y z u/\H x y z u/\I x y z u)(k:∀x y z u,A x y z u->B x y z u->C x y z u->D x y z u->E x y z u->F x y z u->H x y z u->I x y z u->G):G:=h.elim λx h=>h.elim λy h=>h.elim λz h=>h.elim λu h=>k x y z u h.1 h.2.1 h.2.2.1 h.2.2.2.1 h.2.2.2.2.1 h.2.2.2.2.2.1 h.2.2.2.2.2.2.1 h.2.2.2.2.2.2.2
theorem Ip{A B C D E F H I J:α->β->γ->δ->Prop}(h:∃x y z u,A x y z u/\B x y z u/\C x y z u/\D x y z u/\E x y z u/\F x y z u/\H x y z u/\I x y z u/\J x y z u)(k:∀x y z u,A x y z u->B x y z u->C x y z u->D x y z u->E x y z u->F x y z u->H x y z u->I x y z u->J x y z u->G):G:=h.elim λx h=>h.elim λy h=>h.elim λz h=>h.elim λu h=>k x y z u h.1 h.2.1 h.2.2.1 h.2.2.2.1 h.2.2.2.2.1 h.2.2.2.2.2.1 h.2.2.2.2.2.2.1 h.2.2.2.2.2.2.2.1 h.2.2.2.2.2.2.2.2
theorem u7{A B C D E:α->β->γ->δ->ε->Prop}(h:∃x y z u v,A x y z u v/\B x y z u v/\C x y z u v/\D x y z u v/\E x y z u v)(k:∀x y z u v,A x y z u v->B x y z u v->C x y z u v->D x y z u v->E x y z u v->G):G:=h.elim λx h=>h.elim λy h=>h.elim λz h=>h.elim λu h=>h.elim λv h=>k x y z u v h.1 h.2.1 h.2.2.1 h.2.2.2.1 h.2.2.2.2
theorem H9{A:α->β->γ->Prop}(x:α)(y:β)(z:γ)(aa:A x y z):∃x y z,A x y z:=⟨x,y,z,aa⟩
theorem BI{A B C:α->β->γ->Prop}(x:α)(y:β)(z:γ)(aa:A x y z)(bb:B x y z)(cc:C x y z):∃x y z,A x y z/\B x y z/\C x y z:=⟨x,y,z,aa,bb,cc⟩
theorem bm{A B:Prop}(aa:A)(bb:B):A/\B:=⟨aa,bb⟩
theorem fy{A B C:Prop}(aa:A)(bb:B)(cc:C):A/\B/\C:=⟨aa,bb,cc⟩
theorem H7{A B C D:Prop}(aa:A)(bb:B)(cc:C)(dd:D):A/\B/\C/\D:=⟨aa,bb,cc,dd⟩
theorem BG{A B C D E:Prop}(aa:A)(bb:B)(cc:C)(dd:D)(ee:E):A/\B/\C/\D/\E:=⟨aa,bb,cc,dd,ee⟩
theorem fA{A:α->Prop}(x:α)(aa:A x):∃x,A x:=⟨x,aa⟩
theorem aC{A B:α->Prop}(x:α)(aa:A x)(bb:B x):∃x,A x/\B x:=⟨x,aa,bb⟩
theorem dK{A B C:α->Prop}(x:α)(aa:A x)(bb:B x)(cc:C x):∃x,A x/\B x/\C x:=⟨x,aa,bb,cc⟩
theorem eX{A B C D:α->Prop}(x:α)(aa:A x)(bb:B x)(cc:C x)(dd:D x):∃x,A x/\B x/\C x/\D x:=⟨x,aa,bb,cc,dd⟩
theorem uY{A B C D E:α->Prop}(x:α)(aa:A x)(bb:B x)(cc:C x)(dd:D x)(ee:E x):∃x,A x/\B x/\C x/\D x/\E x:=⟨x,aa,bb,cc,dd,ee⟩
theorem xI{A:α->β->Prop}(x:α)(y:β)(aa:A x y):∃x y,A x y:=⟨x,y,aa⟩
theorem eE{A B:α->β->Prop}(x:α)(y:β)(aa:A x y)(bb:B x y):∃x y,A x y/\B x y:=⟨x,y,aa,bb⟩
theorem dN{A B C:α->β->Prop}(x:α)(y:β)(aa:A x y)(bb:B x y)(cc:C x y):∃x y,A x y/\B x y/\C x y:=⟨x,y,aa,bb,cc⟩
theorem dh{A B C D:α->β->Prop}(x:α)(y:β)(aa:A x y)(bb:B x y)(cc:C x y)(dd:D x y):∃x y,A x y/\B x y/\C x y/\D x y:=⟨x,y,aa,bb,cc,dd⟩
theorem iu{A B C D E:α->β->Prop}(x:α)(y:β)(aa:A x y)(bb:B x y)(cc:C x y)(dd:D x y)(ee:E x y):∃x y,A x y/\B x y/\C x y/\D x y/\E x y:=⟨x,y,aa,bb,cc,dd,ee⟩
theorem Rd{A B C D E F H:α->β->Prop}(x:α)(y:β)(aa:A x y)(bb:B x y)(cc:C x y)(dd:D x y)(ee:E x y)(ff:F x y)(hh:H x y):∃x y,A x y/\B x y/\C x y/\D x y/\E x y/\F x y/\H x y:=⟨x,y,aa,bb,cc,dd,ee,ff,hh⟩
theorem BH{A B C D E F H I:α->β->Prop}(x:α)(y:β)(aa:A x y)(bb:B x y)(cc:C x y)(dd:D x y)(ee:E x y)(ff:F x y)(hh:H x y)(ii:I x y):∃x y,A x y/\B x y/\C x y/\D x y/\E x y/\F x y/\H x y/\I x y:=⟨x,y,aa,bb,cc,dd,ee,ff,hh,ii⟩
theorem BJ{A B C D:α->β->γ->Prop}(x:α)(y:β)(z:γ)(aa:A x y z)(bb:B x y z)(cc:C x y z)(dd:D x y z):∃x y z,A x y z/\B x y z/\C x y z/\D x y z:=⟨x,y,z,aa,bb,cc,dd⟩
theorem xJ{A B C D E:α->β->γ->Prop}(x:α)(y:β)(z:γ)(aa:A x y z)(bb:B x y z)(cc:C x y z)(dd:D x y z)(ee:E x y z):∃x y z,A x y z/\B x y z/\C x y z/\D x y z/\E x y z:=⟨x,y,z,aa,bb,cc,dd,ee⟩
theorem xK{A B C D E F:α->β->γ->Prop}(x:α)(y:β)(z:γ)(aa:A x y z)(bb:B x y z)(cc:C x y z)(dd:D x y z)(ee:E x y z)(ff:F x y z):∃x y z,A x y z/\B x y z/\C x y z/\D x y z/\E x y z/\F x y z:=⟨x,y,z,aa,bb,cc,dd,ee,ff⟩
theorem qD{A B C D E F H:α->β->γ->Prop}(x:α)(y:β)(z:γ)(aa:A x y z)(bb:B x y z)(cc:C x y z)(dd:D x y z)(ee:E x y z)(ff:F x y z)(hh:H x y z):∃x y z,A x y z/\B x y z/\C x y z/\D x y z/\E x y z/\F x y z/\H x y z:=⟨x,y,z,aa,bb,cc,dd,ee,ff,hh⟩
theorem BK{A B C D E F H I:α->β->γ->Prop}(x:α)(y:β)(z:γ)(aa:A x y z)(bb:B x y z)(cc:C x y z)(dd:D x y z)(ee:E x y z)(ff:F x y z)(hh:H x y z)(ii:I x y z):∃x y z,A x y z/\B x y z/\C x y z/\D x y z/\E x y z/\F x y z/\H x y z/\I x y z:=⟨x,y,z,aa,bb,cc,dd,ee,ff,hh,ii⟩
theorem Ia{A B C D E F H I J:α->β->γ->Prop}(x:α)(y:β)(z:γ)(aa:A x y z)(bb:B x y z)(cc:C x y z)(dd:D x y z)(ee:E x y z)(ff:F x y z)(hh:H x y z)(ii:I x y z)(jj:J x y z):∃x y z,A x y z/\B x y z/\C x y z/\D x y z/\E x y z/\F x y z/\H x y z/\I x y z/\J x y z:=⟨x,y,z,aa,bb,cc,dd,ee,ff,hh,ii,jj⟩
theorem kK{A B C D:α->β->γ->δ->Prop}(x:α)(y:β)(z:γ)(u:δ)(aa:A x y z u)(bb:B x y z u)(cc:C x y z u)(dd:D x y z u):∃x y z u,A x y z u/\B x y z u/\C x y z u/\D x y z u:=⟨x,y,z,u,aa,bb,cc,dd⟩
theorem BL{A B C D E F H I:α->β->γ->δ->Prop}(x:α)(y:β)(z:γ)(u:δ)(aa:A x y z u)(bb:B x y z u)(cc:C x y z u)(dd:D x y z u)(ee:E x y z u)(ff:F x y z u)(hh:H x y z u)(ii:I x y z u):∃x y z u,A x y z u/\B x y z u/\C x y z u/\D x y z u/\E x y z u/\F x y z u/\H x y z u/\I x y z u:=⟨x,y,z,u,aa,bb,cc,dd,ee,ff,hh,ii⟩
theorem BM{A B C D E F H I J:α->β->γ->δ->Prop}(x:α)(y:β)(z:γ)(u:δ)(aa:A x y z u)(bb:B x y z u)(cc:C x y z u)(dd:D x y z u)(ee:E x y z u)(ff:F x y z u)(hh:H x y z u)(ii:I x y z u)(jj:J x y z u):∃x y z u,A x y z u/\B x y z u/\C x y z u/\D x y z u/\E x y z u/\F x y z u/\H x y z u/\I x y z u/\J x y z u:=⟨x,y,z,u,aa,bb,cc,dd,ee,ff,hh,ii,jj⟩
theorem BN{A B C D E:α->β->γ->δ->ε->Prop}(x:α)(y:β)(z:γ)(u:δ)(v:ε)(aa:A x y z u v)(bb:B x y z u v)(cc:C x y z u v)(dd:D x y z u v)(ee:E x y z u v):∃x y z u v,A x y z u v/\B x y z u v/\C x y z u v/\D x y z u v/\E x y z u v:=⟨x,y,z,u,v,aa,bb,cc,dd,ee⟩
end
section
open PySem PySem.W PyProof.Rows PySem.Calls
theorem bN{α:Type}{a:α}{p:Prop}(h:none=some a):p:=by cases h
theorem bE{p:Prop}(h:false=true):p:=absurd h Yy
variable {α β γ δ ε ζ η θ ι κ μ:Sort _}
noncomputable abbrev cv(_:α):Bool:=false
noncomputable abbrev aB(_:α)(_:β):Bool:=false
noncomputable abbrev aw(_:α)(_:β)(_:γ):Bool:=false
noncomputable abbrev ay(_:α)(_:β)(_:γ)(_:δ):Bool:=false
noncomputable abbrev cB(_:α)(_:β)(_:γ)(_:δ)(_:ε):Bool:=false
noncomputable abbrev sy(_:α)(_:β)(_:γ)(_:δ)(_:ε)(_:ζ)(_:η):Bool:=false
noncomputable abbrev kH(_:α)(_:β)(_:γ)(_:δ)(_:ε)(_:ζ)(_:η)(_:θ)(_:ι)(_:κ):Bool:=false
noncomputable abbrev sx(_:α)(_:β)(_:γ)(_:δ)(_:ε)(_:ζ)(_:η)(_:θ)(_:ι)(_:κ)(_:μ):Bool:=false
theorem di{P:α->Prop}(a:α)(h:false=true):P a:=bE h
theorem aO{P:α->β->Prop}(a:α)(b:β)(h:false=true):P a b:=bE h
theorem aH{P:α->β->γ->Prop}(a:α)(b:β)(c:γ)(h:false=true):P a b c:=bE h
theorem aG{P:α->β->γ->δ->Prop}(a:α)(b:β)(c:γ)(d:δ)(h:false=true):P a b c d:=bE h
theorem cM{P:α->β->γ->δ->ε->Prop}(a:α)(b:β)(c:γ)(d:δ)(e:ε)(h:false=true):P a b c d e:=bE h
theorem sO{P:α->β->γ->δ->ε->ζ->η->Prop}(a:α)(b:β)(c:γ)(d:δ)(e:ε)(f:ζ)(g:η)(h:false=true):P a b c d e f g:=bE h
theorem kL{P:α->β->γ->δ->ε->ζ->η->θ->ι->κ->Prop}(a:α)(b:β)(c:γ)(d:δ)(e:ε)(f:ζ)(g:η)(i:θ)(j:ι)(k:κ)(h:false=true):P a b c d e f g i j k:=bE h
theorem sM{P:α->β->γ->δ->ε->ζ->η->θ->ι->κ->μ->Prop}(a:α)(b:β)(c:γ)(d:δ)(e:ε)(f:ζ)(g:η)(i:θ)(j:ι)(k:κ)(l:μ)(h:false=true):P a b c d e f g i j k l:=bE h
inductive V where
 |n
 |b (b:Bool)
 |i (i:Int)
 |s (s:List Nat)
 |t (xs:List V)
 |r (a:Nat)
 |o (c a:Nat)
 |f (xs:List V)
noncomputable abbrev KV:=Sum (List Nat) Int
inductive O where
 |l (xs:List V)
 |d (es:List (Int×V))
 |s (es:List (List Nat×V))
 |t (es:List (List KV×V))
 |a (c:Nat) (fs:List (Nat×V))
 |i (xs:List V)
 |u
noncomputable abbrev aj:=List O
noncomputable abbrev aA:=Nat->Option V
inductive pA where |e |n |l |a |g |s |i |o
inductive tA where |a |s |u |f |m
inductive DK where |i |s |t
noncomputable def DK.K0(k:DK):Bool:=match k with | .t=>true |_=>false
inductive Bl where
 |l |t |s |o |r |i |b |a |m |c |S |z
set_option genCtorIdx false in
mutual
inductive Ex where
 |v (i:Nat)
 |c (v:V)
 |h (k:Nat)
 |f (c a b:Ex)
 |p (op:pA) (a b:Ex)
 |q (op1 op2:pA) (a b c:Ex)
 |n (xs:List Ex)
 |r (xs:List Ex)
 |j (a:Ex)
 |i (op:tA) (a b:Ex)
 |l (k:Nat) (args:List Ex)
 |w (c:Nat) (args:List Ex)
 |b (b:Bl) (args:List Ex)
 |m (nm:Nat) (o:Ex) (args:List Ex)
 |a (nm:Nat) (o:Ex)
 |s (o i:Ex)
 |e (o:Ex) (lo hi:Option Ex)
 |k (o:Ex)
 |t (es:List Ex)
 |d (es:List Ex)
 |g (k:DK) (kvs:List (Ex×Ex))
 |o (elt:Ex) (gens:List jo)
inductive jo where
 |m (tg:Tg) (it:It) (ifs:List Ex)
inductive It where
 |e (e:Ex)
 |r (args:List Ex)
 |n (e:Ex)
inductive Tg where
 |v (i:Nat)
 |t (ts:List Tg)
 |a (nm:Nat) (o:Ex)
 |s (o i:Ex)
end
set_option genCtorIdx false in
inductive St where
 |a (t:Tg) (e:Ex)
 |e (e:Ex)
 |i (c:Ex) (a b:List St)
 |w (c:Ex) (b:List St)
 |l (t:Tg) (it:It) (b:List St)
 |r (e:Ex)
 |s
set_option genCtorIdx false in
inductive Fl where
 |n
 |r (v:V)
noncomputable def CF{α:Type}(b:V)(i:Int->Option α)(s:List Nat->Option α)(t:List V->Option α):Option α:=
 match b with
 | .i b=>i b
 | .s b=>s b
 | .t b=>t b
 |_=>Option.none
noncomputable def vc(a b:Option Bool):Option Bool:=a.bind λa=>b.map λb=>a&&b
noncomputable def J1{α:Type}(b:List V)(n:α)(c:V->List V->α):α:=
 match b with
 | []=>n
 |y::ys=>c y ys
mutual
noncomputable def gX(a b:V):Option Bool:=
 match a with
 | .i a=>CF b (λb=>some (decide (a=b))) (λ_=>some false) λ_=>some false
 | .s a=>CF b (λ_=>some false) (λb=>some (decide (a=b))) λ_=>some false
 | .t a=>CF b (λ_=>some false) (λ_=>some false) (fY a)
 |_=>Option.none
noncomputable def fY(a b:List V):Option Bool:=
 match a with
 | []=>J1 b (some true) λ_ _=>some false
 |x::xs=>J1 b (some false) λy ys=>vc (gX x y) (fY xs ys)
end
noncomputable def qz:V->Option KV
 | .i i=>some (.inr i)
 | .s s=>some (.inl s)
 |_=>Option.none
noncomputable def eW:List V->Option (List KV)
 | []=>some []
 |x::xs=>match qz x,eW xs with
  |some k,some ks=>some (k::ks)
  |_,_=>Option.none
theorem VD:eW []=some []:=rfl
theorem Qu{x xs}:eW (x::xs)=match qz x,eW xs with |some k,some ks=>some (k::ks) |_,_=>Option.none:=rfl
theorem Hn{x xs k ks}(h:qz x=some k)(g:eW xs=some ks):eW (x::xs)=some (k::ks):=by rw[Qu,h,g]
section
variable {κ:Type}[DecidableEq κ]
noncomputable def cA(es:List (κ×V))(k:κ):Option V:=(es.find? λe=>decide (e.1=k)).map (·.2)
noncomputable def eC(es:List (κ×V))(k:κ)(v:V):List (κ×V):=
 if es.any (λe=>decide (e.1=k))then es.map λe=>if e.1=k then(e.1,v)else e else es++[(k,v)]
noncomputable def sa(es:List (κ×V))(k:κ):List (κ×V):=es.filter λe=>decide (e.1≠k)
end
noncomputable def gY:List (Nat×V)->Nat->V->List (Nat×V)
 | [],a,v=>[(a,v)]
 |f::fs,a,v=>if f.1=a then(a,v)::fs else f::gY fs a v
theorem GI{f fs a v}:gY (f::fs) a v=if f.1=a then(a,v)::fs else f::gY fs a v:=rfl
noncomputable def fu(o:O)(k:V):Option (Option V):=
 match o,k with
 | .d es,.i i=>some (cA es i)
 | .s es,.s s=>some (cA es s)
 | .t es,.t xs=>(eW xs).map (cA es)
 |_,_=>Option.none
noncomputable def fO(o:O)(k v:V):Option O:=
 match o,k with
 | .d es,.i i=>some (.d (eC es i v))
 | .s es,.s s=>some (.s (eC es s v))
 | .t es,.t xs=>(eW xs).map λks=>.t (eC es ks v)
 |_,_=>Option.none
noncomputable def oR:O->Nat
 | .d es=>es.length
 | .s es=>es.length
 | .t es=>es.length
 |_=>0
noncomputable def aK:Nat:=1000000
noncomputable def gd(p:List Nat):List Nat->Bool
 | []=>p.isEmpty
 |c::r=>p.isPrefixOf (c::r)||gd p r
theorem G7{p}:gd p []=p.isEmpty:=rfl
theorem Bk{p c r}:gd p (c::r)=(p.isPrefixOf (c::r)||gd p r):=rfl
noncomputable def jB:List V->Option (List (List Nat))
 | []=>some []
 | .s s::r=>(jB r).map (s::·)
 |_::_=>Option.none
theorem Ke:jB []=some []:=rfl
theorem CJ{s r}:jB (.s s::r)=(jB r).map (s::·):=rfl
noncomputable def qC(σ:aj)(a:V):Option (List V):=match a with
 | .r i=>match σ[i]? with |some (.l xs)=>some xs |_=>Option.none
 |_=>Option.none
theorem HF{σ i xs}(h:σ[i]? =some (O.l xs)):qC σ (.r i)=some xs:=by unfold qC;dsimp only;rw[h]
variable {κ α β:Type}{ρ:aA}{σ:aj}{A:Around}{μ:List Addr}{c' depth line ep nm kd:Nat}{h' hh h₀ h'':Heap}{e1 e2 sl elt t' a' b' iter:Expr}{μ' μ'' fr μ₀ wr fp μ₂:List Addr}{ov va vb kv vv f0 f1 old:Value}{σ' σ₁ σ₂ σ₃ σ'' τ:aj}{E Q:Value->Shared->Prop}{s' s'' s₀ s₁ s₂:Shared}{x D I B TO i1 i2 TI t1 t2:Addr}{M:Expr->Prop}{o' d':O}{vs us first vals:List Value}{es:List Expr}{pos p':Pos}{led u1:Bool}{env:PySem.Env}{ρ' ρ'':aA}{prog:Program}{K α' β':Type}{ifs:List Ex}{pl:Array Nat}{ns:List Int}{scope:Scope}{A':Around}{tg:Tg}{ks:List (List KV×Addr×Value)}{gens:List Comprehension}{gs:List jo}{fl:Fl}{P:Nat->Prop}{op:tA}{Γ own:List (Str×Nat)}{Pv:Nat->Value->Prop}{o2:CmpOp}{r2:Sem Value}{f2:List Expr->Bool}{ob:Obj}{names:List (Str×NameKind)}{loose:List Str}{ann:Option Value}{as l':List α}{R T:α->β->Prop}{bs:List β}{bl:List St}{kvs:List (K×Value)}
noncomputable def oU(σ:aj)(a b:V):Option Bool:=match qC σ a with
 |some xs=>match qC σ b with |some []=>some xs.isEmpty |_=>Option.none
 |Option.none=>gX a b
noncomputable def w3(f:Int->Int->Bool)(a b:V):Option Bool:=match a with
 | .i x=>match b with | .i y=>some (f x y) |_=>Option.none
 |_=>Option.none
noncomputable def GZ(a:V):Option Bool:=match a with
 | .n=>some true
 | .t _=>some false
 | .r _=>some false
 | .s _=>some false
 | .i _=>some false
 |_=>Option.none
noncomputable def xp(σ:aj)(a b:V):Option Bool:=match b with
 | .s s=>match a with | .s p=>some (gd p s) |_=>Option.none
 | .t ys=>match a with | .s p=>(jB ys).map (·.contains p) |_=>Option.none
 | .r j=>(σ[j]?).bind λo=>(fu o a).map (·.isSome)
 |_=>Option.none
noncomputable def gW(σ:aj)(op:pA)(a b:V):Option Bool:=match op with
 | .e=>oU σ a b
 | .n=>(oU σ a b).map (!·)
 | .l=>w3 (λx y=>decide (x < y)) a b
 | .a=>w3 (λx y=>decide (x<=y)) a b
 | .g=>w3 (λx y=>decide (y < x)) a b
 | .s=>match b with | .n=>GZ a |_=>Option.none
 | .i=>xp σ a b
 | .o=>(xp σ a b).map (!·)
mutual
noncomputable def V.dep:V->Nat
 | .t xs=>V.deps xs+1
 |_=>0
noncomputable def V.deps:List V->Nat
 | []=>0
 |x::xs=>max (V.dep x) (V.deps xs)
end
theorem qe{xs}:V.dep (.t xs)=V.deps xs+1:=rfl
theorem qf{s}:V.dep (.s s)=0:=rfl
theorem NP{i}:V.dep (.i i)=0:=rfl
theorem qg:V.deps []=0:=rfl
theorem qh{x xs}:V.deps (x::xs)=max (V.dep x) (V.deps xs):=rfl
noncomputable def dI(op:pA)(a:V):Prop:=
 match op with
 | .e=>a.dep<=1000
 | .n=>a.dep<=1000
 |_=>True
noncomputable def aD(xs:List α):Prop:=xs.length<=aK
noncomputable def bY:Int:=1000000000000
noncomputable def sG(σ:aj):V->Option (List V)
 | .t xs=>some xs
 | .f xs=>some xs
 | .r a=>match σ[a]? with |some (.l xs)=>some xs |_=>Option.none
 |_=>Option.none
theorem G9{σ i xs}(h:σ[i]? =some (O.l xs)):sG σ (.r i)=some xs:=by unfold sG;dsimp only;rw[h]
noncomputable def jy:List V->Option (List Int)
 | []=>some []
 | .i i::r=>(jy r).map (i::·)
 |_::_=>Option.none
theorem Qa:jy []=some []:=rfl
theorem Qb{i r}:jy (.i i::r)=(jy r).map (i::·):=rfl
noncomputable def nh(x:Int):List Int->List Int
 | []=>[x]
 |y::ys=>if x<=y then x::y::ys else y::nh x ys
theorem xq{x y ys}:nh x (y::ys)=if x<=y then x::y::ys else y::nh x ys:=rfl
theorem gA{x a m:Nat}(h:x<=2*a+1)(k:a<=m):x<=2*m+1:=Xl h (Yx (Nat.mul_le_mul_left 2 k))
theorem gB{x a m:Nat}(h:x<=2*a+1)(k:a<=m):x<=2*(m+1):=YO (gA h k)
noncomputable def iP:List Int->List Int
 | []=>[]
 |x::xs=>nh x (iP xs)
theorem Ul{x xs}:iP (x::xs)=nh x (iP xs):=rfl
noncomputable def oQ:List Int->List Int
 | []=>[]
 |x::xs=>if x∈oQ xs then oQ xs else x::oQ xs
noncomputable def o6:Int->List Int->Int
 |m,[]=>m
 |m,x::xs=>o6 (if x > m then x else m) xs
noncomputable def cy(sep:List Nat):List (List Nat)->List Nat
 | []=>[]
 | [x]=>x
 |x::xs=>x++sep++cy sep xs
theorem Bo{s}:cy s []=[]:=rfl
theorem oX{s x}:cy s [x]=x:=rfl
theorem qy{s x y l}:cy s (x::y::l)=x++s++cy s (y::l):=rfl
noncomputable def dz(i:Int):Prop:=-bY<=i/\i<=bY
noncomputable def FG(i:Int):List Nat:=(PySem.Str.ofString (toString i)).cps.toList
noncomputable def dS(i:Int)(n:Nat):Option Nat:=
 if 0<=i then some i.toNat else if 0<=i+n then some (i+n).toNat else Option.none
noncomputable def kI(c:Nat):Bool:=PySem.Unicode.isSpace c
noncomputable def Re:Nat:=0
noncomputable def Rg:Nat:=1
noncomputable def Ib:Nat:=2
noncomputable def Rh:Nat:=3
noncomputable def Rk:Nat:=4
noncomputable def Rj:Nat:=5
noncomputable def Rf:Nat:=6
noncomputable def Rl:Nat:=7
noncomputable def Ri:Nat:=8
noncomputable def au(ρ:aA)(i:Nat)(v:V):aA:=λj=>if j=i then some v else ρ j
noncomputable def sA:List (V×V)->O->Option O
 | [],o=>some o
 |p::ps,o=>match fO o p.1 p.2 with
  |some o'=>sA ps o'
  |Option.none=>Option.none
theorem PH{p ps o}:sA (p::ps) o=match fO o p.1 p.2 with |some o'=>sA ps o' |Option.none=>Option.none:=rfl
noncomputable def OX(k:DK)(kvs:List (V×V)):Option O:=sA kvs (match k with | .i=>.d [] | .s=>.s [] | .t=>.t [])
noncomputable def sI:O->Nat
 | .l _=>1
 | .d _=>2
 | .s _=>2
 | .t _=>2
 |_=>0
noncomputable def iw(σ:aj):V->Nat
 | .r a=>(σ[a]?).elim 0 sI
 | .s _=>4
 |_=>0
noncomputable def mf(k nm:Nat):Bool:=
 match k with
 |1=>nm==Re||nm==Rg||nm==Ib
 |2=>nm==Rh||nm==Rk||nm==Ib
 |4=>nm==Rl||nm==Ri||nm==Rj||nm==Rf
 |_=>false
set_option genCtorIdx false in
inductive eM where
 |bx (items:List V)
 |cr (a:Nat) (items:List V)
 |it (a:Nat) (items:List V)
noncomputable def eM.qa:eM->List V
 | .bx xs=>xs
 | .cr _ xs=>xs
 | .it _ xs=>xs
noncomputable def eM.iG(S:eM)(rest:Option (List V))(σ:aj):aj:=
 match S with
 | .it a _=>match rest with |some r=>σ.set a (.i r) |Option.none=>σ.set a .u
 |_=>σ
noncomputable def eM.V8(S:eM)(rest:List V)(σ:aj):Prop:=
 match S with
 | .bx _=>True
 | .cr a xs=>σ[a]? =some (.l xs)
 | .it a _=>σ[a]? =some (.i rest)
noncomputable def fL(n:Nat)(t:Tg)(v:V)(ρ:aA):Option aA:=match n with
 |0=>Option.none
 |n+1=>match t with
  | .v i=>some (au ρ i v)
  | .t ts=>match v with
   | .t xs=>go (fL n) ts xs ρ
   |_=>Option.none
  |_=>Option.none
where
 go (f:Tg->V->aA->Option aA) (ts:List Tg) (xs:List V) (ρ:aA):Option aA:=match ts with
  | []=>match xs with | []=>some ρ |_=>Option.none
  |t::ts=>match xs with
   | []=>Option.none
   |x::xs=>(f t x ρ).bind λρ=>go f ts xs ρ
 termination_by structural ts
noncomputable def df(a b c:Int):List V:=((List.range ((b - a+c - 1) / c).toNat).map λk:Nat=>.i (a+c * (k:Int)))
mutual
noncomputable def V.lo(n:Nat):V->Bool
 | .r a=>decide (a < n)
 | .o _ a=>decide (a < n)
 | .t xs=>V.loAll n xs
 | .f xs=>V.loAll n xs
 |_=>true
noncomputable def V.loAll(n:Nat):List V->Bool
 | []=>true
 |x::xs=>V.lo n x&&V.loAll n xs
end
theorem zT{n a}:V.lo n (.r a)=decide (a < n):=rfl
theorem EM{n c a}:V.lo n (.o c a)=decide (a < n):=rfl
theorem oN{n xs}:V.lo n (.t xs)=V.loAll n xs:=rfl
theorem qi{n s}:V.lo n (.s s)=true:=rfl
theorem r7{n i}:V.lo n (.i i)=true:=rfl
theorem NQ{n b}:V.lo n (.b b)=true:=rfl
theorem jT{n}:V.loAll n []=true:=rfl
theorem iJ{n x xs}:V.loAll n (x::xs)=(V.lo n x&&V.loAll n xs):=rfl
noncomputable def O.lo(n:Nat):O->Bool
 | .l xs=>V.loAll n xs
 | .d es=>V.loAll n (es.map (·.2))
 | .s es=>V.loAll n (es.map (·.2))
 | .t es=>V.loAll n (es.map (·.2))
 | .a _ fs=>V.loAll n (fs.map (·.2))
 | .i _=>false
 | .u=>true
theorem MC{n es}:O.lo n (.s es)=V.loAll n (es.map (·.2)):=rfl
structure nX(σ σ' τ:aj)(v:V):Prop where
 Vq:τ <+:σ'
 le:σ.length<=τ.length
 Vr:v.lo τ.length=true
 Vp:∀(i:Nat) (o:O),τ[i]? =some o->σ[i]? =some o∨o.lo τ.length=true
structure Fn where
 mM:Nat
 dZ:List St
noncomputable def yh:Fl->V
 | .n=>.n
 | .r v=>v
noncomputable def bf(args:List V):aA:=λi=>args[i]?
noncomputable def EF:Nat:=30
noncomputable def SF:Nat:=12
noncomputable def AL:Fn:=⟨1,[.r (.f (.p .e (.b .l [(.v 0)]) (.c (.i 1))) (.s (.v 0) (.c (.i 0))) (.i .a (.i .a (.c (.s [40])) (.m 5 (.c (.s [32])) [(.i .a (.d [(.s (.v 0) (.c (.i 0)))]) (.o (.l 0 [(.v 1)]) [.m (.v 1) (.e (.e (.v 0) (some (.c (.i 1))) none)) []]))])) (.c (.s [41]))))]⟩
noncomputable def AK:Fn:=⟨1,[.a (.v 1) (.s (.v 0) (.c (.i 0))),
  .i (.p .e (.v 1) (.c (.s [115,97,109,101]))) [.a (.v 2) (.d [(.l 0 [(.s (.v 0) (.c (.i 1)))])])] [.i (.p .e (.v 1) (.c (.s [116,111,108,100]))) [.a (.v 2) (.d [(.s (.v 0) (.c (.i 1)))])] [.i (.p .e (.v 1) (.c (.s [114,117,108,101]))) [.a (.v 2) (.i .a (.d [(.s (.v 0) (.c (.i 1)))]) (.o (.i .a (.i .a (.v 4) (.c (.s [32]))) (.l 0 [(.v 5)])) [.m (.t [(.v 4),(.v 5)]) (.e (.s (.v 0) (.c (.i 2)))) []]))] [.i (.p .e (.v 1) (.c (.s [117,110,100,101,114]))) [.a (.v 2) (.i .a (.d [(.s (.v 0) (.c (.i 1)))]) (.o (.l 1 [(.v 6)]) [.m (.v 6) (.e (.s (.v 0) (.c (.i 2)))) []]))] [.i (.p .e (.v 1) (.c (.s [116,117,114,110]))) [.a (.v 2) (.d [(.l 1 [(.s (.v 0) (.c (.i 1)))])])] [.a (.v 3) (.d [(.s (.v 0) (.c (.i 2)))]),
  .w (.p .e (.s (.s (.v 0) (.c (.i 1))) (.c (.i 0))) (.c (.s [106,111,105,110]))) [.a (.v 0) (.s (.v 0) (.c (.i 1))),
  .e (.m 0 (.v 3) [(.s (.v 0) (.c (.i 2)))])],
  .a (.v 2) (.o (.l 1 [(.v 7)]) [.m (.v 7) (.e (.i .a (.d [(.s (.v 0) (.c (.i 1)))]) (.k (.v 3)))) []])]]]]],
  .r (.i .a (.i .a (.c (.s [40])) (.m 5 (.c (.s [32])) [(.i .a (.d [(.v 1)]) (.v 2))])) (.c (.s [41])))]⟩
noncomputable def Gy:Fn:=⟨1,[.r (.n [(.p .n (.v 0) (.c (.s []))),(.p .e (.o (.v 1) [.m (.v 1) (.e (.v 0)) [(.r [(.m 8 (.v 1) []),(.p .i (.v 1) (.c (.s [40,41,91,93,123,125,44,58])))])]]) (.d []))])]⟩
noncomputable def F7:Fn:=⟨1,[.a (.a 10 (.v 0)) (.d []),
  .a (.a 11 (.v 0)) (.g .t []),
  .a (.a 12 (.v 0)) (.d []),
  .a (.a 13 (.v 0)) (.d [])]⟩
noncomputable def Gf:Fn:=⟨1,[.r (.b .l [(.a 10 (.v 0))])]⟩
noncomputable def Av:Fn:=⟨3,[.a (.v 3) (.i .a (.t [(.v 1)]) (.b .t [(.v 2)])),
  .i (.p .i (.v 3) (.a 11 (.v 0))) [.r (.s (.a 11 (.v 0)) (.v 3))] [],
  .e (.m 14 (.v 0) [(.v 1)]),
  .l (.v 4) (.e (.e (.v 3) (some (.c (.i 1))) none)) [.i (.j (.q .a .l (.c (.i 0)) (.v 4) (.b .l [(.a 10 (.v 0))]))) [.s] []],
  .a (.s (.a 11 (.v 0)) (.v 3)) (.b .l [(.a 10 (.v 0))]),
  .e (.m 0 (.a 10 (.v 0)) [(.v 3)]),
  .e (.m 0 (.a 12 (.v 0)) [(.i .a (.c (.i 1)) (.b .s [(.o (.s (.a 12 (.v 0)) (.v 5)) [.m (.v 5) (.e (.e (.v 3) (some (.c (.i 1))) none)) []])]))]),
  .e (.m 0 (.a 13 (.v 0)) [(.i .a (.c (.i 1)) (.b .m [(.i .a (.o (.s (.a 13 (.v 0)) (.v 6)) [.m (.v 6) (.e (.e (.v 3) (some (.c (.i 1))) none)) []]) (.d [(.c (.i 0))]))]))]),
  .r (.i .s (.b .l [(.a 10 (.v 0))]) (.c (.i 1)))]⟩
noncomputable def Ge:Fn:=⟨2,[.i (.r [(.j (.l 2 [(.v 1)])),(.p .e (.s (.v 1) (.c (.i 0))) (.c (.s [63])))]) [.s] []]⟩
noncomputable def Gd:Fn:=⟨2,[.r (.s (.s (.a 10 (.v 0)) (.v 1)) (.c (.i 0)))]⟩
noncomputable def Gc:Fn:=⟨2,[.r (.e (.s (.a 10 (.v 0)) (.v 1)) (some (.c (.i 1))) none)]⟩
noncomputable def xe:Fn:=⟨2,[.a (.t [(.v 2),(.v 3)]) (.t [(.g .i [((.v 1),(.c (.b true)))]),(.d [(.v 1)])]),
  .w (.p .g (.b .l [(.v 3)]) (.c (.i 0))) [.l (.v 4) (.e (.m 15 (.v 0) [(.m 2 (.v 3) [])])) [.i (.p .o (.v 4) (.v 2)) [.a (.s (.v 2) (.v 4)) (.c (.b true)),
  .e (.m 0 (.v 3) [(.v 4)])] []]],
  .a (.v 5) (.g .i []),
  .l (.v 6) (.e (.b .o [(.v 2)])) [.a (.s (.v 5) (.v 6)) (.i .a (.t [(.m 16 (.v 0) [(.v 6)])]) (.b .t [(.o (.s (.v 5) (.v 7)) [.m (.v 7) (.e (.m 15 (.v 0) [(.v 6)])) []])]))],
  .r (.s (.v 5) (.v 1))]⟩
noncomputable def Gs:Fn:=⟨1,[.a (.a 17 (.v 0)) (.d []),
  .a (.a 18 (.v 0)) (.d []),
  .a (.a 19 (.v 0)) (.d [])]⟩
noncomputable def Gu:Fn:=⟨1,[.e (.m 0 (.a 17 (.v 0)) [(.b .l [(.a 17 (.v 0))])]),
  .e (.m 0 (.a 18 (.v 0)) [(.d [(.b .l [(.a 18 (.v 0))])])]),
  .r (.i .s (.b .l [(.a 17 (.v 0))]) (.c (.i 1)))]⟩
noncomputable def Gw:Fn:=⟨1,[.r (.b .l [(.a 17 (.v 0))])]⟩
noncomputable def Gr:Fn:=⟨2,[.w (.p .n (.s (.a 17 (.v 0)) (.v 1)) (.v 1)) [.a (.v 1) (.s (.a 17 (.v 0)) (.v 1))],
  .r (.v 1)]⟩
noncomputable def AB:Fn:=⟨3,[.a (.t [(.v 3),(.v 4)]) (.b .o [(.d [(.m 20 (.v 0) [(.v 1)]),(.m 20 (.v 0) [(.v 2)])])]),
  .i (.p .e (.v 3) (.v 4)) [.r (.c .n)] [],
  .a (.s (.a 17 (.v 0)) (.v 4)) (.v 3),
  .e (.m 1 (.s (.a 18 (.v 0)) (.v 3)) [(.s (.a 18 (.v 0)) (.v 4))]),
  .e (.m 0 (.a 19 (.v 0)) [(.t [(.v 3),(.v 4)])]),
  .r (.t [(.v 3),(.v 4)])]⟩
noncomputable def Gv:Fn:=⟨2,[.r (.b .o [(.s (.a 18 (.v 0)) (.m 20 (.v 0) [(.v 1)]))])]⟩
noncomputable def Gq:Fn:=⟨1,[.r (.o (.v 1) [.m (.v 1) (.r [(.b .l [(.a 17 (.v 0))])]) [(.p .e (.s (.a 17 (.v 0)) (.v 1)) (.v 1))]])]⟩
noncomputable def Gj:Fn:=⟨1,[.a (.a 21 (.v 0)) (.w 0 []),
  .a (.a 22 (.v 0)) (.w 1 []),
  .a (.a 23 (.v 0)) (.d []),
  .a (.a 24 (.v 0)) (.d []),
  .a (.a 25 (.v 0)) (.g .t []),
  .a (.a 17 (.v 0)) (.g .i []),
  .a (.a 26 (.v 0)) (.d []),
  .a (.a 27 (.v 0)) (.c (.i 0))]⟩
noncomputable def Go:Fn:=⟨1,[.r (.m 28 (.a 21 (.v 0)) [])]⟩
noncomputable def Gm:Fn:=⟨2,[.r (.i .a (.t [(.m 16 (.a 21 (.v 0)) [(.v 1)])]) (.b .t [(.o (.m 20 (.v 0) [(.v 2)]) [.m (.v 2) (.e (.m 15 (.a 21 (.v 0)) [(.v 1)])) []])]))]⟩
noncomputable def xf:Fn:=⟨3,[.a (.v 3) (.m 29 (.a 21 (.v 0)) [(.v 1),(.v 2)]),
  .i (.p .l (.v 3) (.m 28 (.a 22 (.v 0)) [])) [.r (.v 3)] [],
  .e (.m 30 (.a 22 (.v 0)) []),
  .a (.s (.a 17 (.v 0)) (.v 3)) (.d []),
  .l (.v 4) (.e (.b .r [(.o (.m 20 (.v 0) [(.v 5)]) [.m (.v 5) (.e (.v 2)) []])])) [.e (.m 0 (.s (.a 17 (.v 0)) (.v 4)) [(.v 3)])],
  .e (.m 31 (.v 0) [(.v 3)]),
  .r (.v 3)]⟩
noncomputable def Ax:Fn:=⟨2,[.r (.m 32 (.v 0) [(.s (.v 1) (.c (.i 0))),(.b .t [(.o (.m 33 (.v 0) [(.v 2)]) [.m (.v 2) (.e (.e (.v 1) (some (.c (.i 1))) none)) []])])])]⟩
noncomputable def xh:Fn:=⟨2,[.a (.v 2) (.m 4 (.a 25 (.v 0)) [(.m 34 (.v 0) [(.v 1)]),(.v 1)]),
  .i (.p .n (.m 20 (.v 0) [(.v 2)]) (.m 20 (.v 0) [(.v 1)])) [.e (.m 5 (.v 0) [(.v 2),(.v 1),(.t [(.c (.s [108,105,107,101]))])])] []]⟩
noncomputable def Gi:Fn:=⟨2,[.r (.m 20 (.a 22 (.v 0)) [(.v 1)])]⟩
noncomputable def Gg:Fn:=⟨3,[.r (.p .e (.m 20 (.v 0) [(.v 1)]) (.m 20 (.v 0) [(.v 2)]))]⟩
noncomputable def Gl:Fn:=⟨4,[.r (.m 5 (.v 0) [(.v 1),(.v 2),(.v 3)])]⟩
noncomputable def Aw:Fn:=⟨4,[.e (.m 0 (.a 23 (.v 0)) [(.t [(.v 1),(.v 2),(.v 3)])]),
  .a (.v 4) (.m 35 (.a 22 (.v 0)) [(.v 1),(.v 2)]),
  .i (.p .s (.v 4) (.c .n)) [.r (.c (.b false))] [],
  .a (.t [(.v 5),(.v 6)]) (.v 4),
  .e (.m 0 (.a 24 (.v 0)) [(.i .s (.b .l [(.a 23 (.v 0))]) (.c (.i 1)))]),
  .e (.m 1 (.a 26 (.v 0)) [(.s (.a 17 (.v 0)) (.v 6))]),
  .a (.s (.a 17 (.v 0)) (.v 5)) (.i .a (.s (.a 17 (.v 0)) (.v 5)) (.m 2 (.a 17 (.v 0)) [(.v 6)])),
  .r (.c (.b true))]⟩
noncomputable def Gn:Fn:=⟨1,[.w (.p .g (.b .l [(.a 26 (.v 0))]) (.c (.i 0))) [.e (.m 31 (.v 0) [(.m 2 (.a 26 (.v 0)) [])])]]⟩
noncomputable def Gh:Fn:=⟨1,[.r (.m 36 (.a 22 (.v 0)) [])]⟩
noncomputable def Gk:Fn:=⟨2,[.r (.m 37 (.a 22 (.v 0)) [(.v 1)])]⟩
noncomputable def AJ:Fn:=⟨2,[.a (.v 2) (.s (.s (.a 23 (.v 0)) (.v 1)) (.c (.i 2))),
  .i (.p .e (.s (.v 2) (.c (.i 0))) (.c (.s [116,111,108,100]))) [.r (.t [(.c (.s [116,111,108,100])),(.s (.v 2) (.c (.i 1)))])] [],
  .r (.t [(.c (.s [114,117,108,101])),(.s (.v 2) (.c (.i 1))),(.b .t [(.o (.t [(.v 3),(.m 38 (.a 21 (.v 0)) [(.v 4)])]) [.m (.t [(.v 3),(.v 4)]) (.e (.s (.v 2) (.c (.i 2)))) []])])])]⟩
noncomputable def uF:Fn:=⟨3,[.a (.v 3) (.b .c [(.v 2)]),
  .w (.p .g (.b .l [(.v 3)]) (.c (.i 1))) [.a (.v 4) (.o (.t [(.c (.s [106,111,105,110])),(.s (.v 3) (.v 5)),(.s (.v 3) (.i .a (.v 5) (.c (.i 1))))]) [.m (.v 5) (.r [(.c (.i 0)),(.i .s (.b .l [(.v 3)]) (.c (.i 1))),(.c (.i 2))]) []]),
  .a (.v 3) (.i .a (.v 4) (.e (.v 3) (some (.i .s (.b .l [(.v 3)]) (.i .m (.b .l [(.v 3)]) (.c (.i 2))))) none))],
  .r (.f (.p .e (.b .l [(.v 3)]) (.c (.i 1))) (.s (.v 3) (.c (.i 0))) (.t [(.c (.s [115,97,109,101])),(.m 38 (.a 21 (.v 0)) [(.v 1)])]))]⟩
noncomputable def AD:Fn:=⟨2,[.a (.a 39 (.v 0)) (.v 1),
  .a (.a 40 (.v 0)) (.c (.i 0)),
  .a (.a 41 (.v 0)) (.c (.i 0)),
  .a (.a 42 (.v 0)) (.g .i []),
  .l (.v 2) (.e (.a 24 (.v 1))) [.a (.t [(.v 3),(.v 4),(.v 5)]) (.s (.a 23 (.v 1)) (.v 2)),
  .e (.m 0 (.m 4 (.a 42 (.v 0)) [(.v 3),(.d [])]) [(.t [(.v 2),(.v 4)])]),
  .e (.m 0 (.m 4 (.a 42 (.v 0)) [(.v 4),(.d [])]) [(.t [(.v 2),(.v 3)])])]]⟩
noncomputable def uE:Fn:=⟨4,[.a (.t [(.v 4),(.v 5),(.v 6)]) (.t [(.g .i [((.v 1),(.t []))]),(.d [(.v 1)]),(.c (.i 0))]),
  .w (.n [(.p .l (.v 6) (.b .l [(.v 5)])),(.p .o (.v 2) (.v 4))]) [.a (.t [(.v 7),(.v 6)]) (.t [(.s (.v 5) (.v 6)),(.i .a (.v 6) (.c (.i 1)))]),
  .l (.t [(.v 8),(.v 9)]) (.e (.m 3 (.a 42 (.v 0)) [(.v 7),(.d [])])) [.i (.n [(.p .l (.v 8) (.v 3)),(.p .o (.v 9) (.v 4))]) [.a (.s (.v 4) (.v 9)) (.t [(.v 7),(.v 8)]),
  .e (.m 0 (.v 5) [(.v 9)])] []]],
  .i (.p .o (.v 2) (.v 4)) [.s] [],
  .a (.v 10) (.d []),
  .w (.p .n (.v 2) (.v 1)) [.a (.t [(.v 7),(.v 8)]) (.s (.v 4) (.v 2)),
  .e (.m 0 (.v 10) [(.t [(.v 8),(.p .n (.s (.s (.a 23 (.a 39 (.v 0))) (.v 8)) (.c (.i 0))) (.v 7))])]),
  .a (.v 2) (.v 7)],
  .r (.k (.v 10))]⟩
noncomputable def Gx:Fn:=⟨3,[.a (.t [(.a 40 (.v 0)),(.a 41 (.v 0))]) (.t [(.c (.i 0)),(.c (.i 0))]),
  .r (.m 43 (.v 0) [(.v 1),(.v 2),(.b .l [(.a 23 (.a 39 (.v 0)))])])]⟩
noncomputable def AC:Fn:=⟨4,[.a (.v 4) (.d []),
  .l (.t [(.v 5),(.v 6)]) (.e (.m 44 (.v 0) [(.v 1),(.v 2),(.v 3)])) [.a (.v 7) (.m 45 (.v 0) [(.v 5)]),
  .e (.m 0 (.v 4) [(.f (.v 6) (.t [(.c (.s [116,117,114,110])),(.v 7)]) (.v 7))])],
  .r (.l 31 [(.a 39 (.v 0)),(.v 1),(.v 4)])]⟩
noncomputable def AE:Fn:=⟨2,[.a (.a 40 (.v 0)) (.i .a (.a 40 (.v 0)) (.c (.i 1))),
  .i (.p .g (.a 40 (.v 0)) (.h 1)) [.s] [],
  .a (.t [(.v 2),(.v 3),(.v 4)]) (.s (.a 23 (.a 39 (.v 0))) (.v 1)),
  .i (.p .n (.s (.v 4) (.c (.i 0))) (.c (.s [108,105,107,101]))) [.r (.l 30 [(.a 39 (.v 0)),(.v 1)])] [],
  .a (.a 41 (.v 0)) (.i .a (.a 41 (.v 0)) (.c (.i 1))),
  .i (.p .g (.a 41 (.v 0)) (.h 2)) [.s] [],
  .a (.v 5) (.b .z [(.m 15 (.a 21 (.a 39 (.v 0))) [(.v 2)]),(.m 15 (.a 21 (.a 39 (.v 0))) [(.v 3)])]),
  .a (.v 6) (.t [(.c (.s [117,110,100,101,114])),(.m 16 (.a 21 (.a 39 (.v 0))) [(.v 2)]),(.b .t [(.o (.m 43 (.v 0) [(.v 7),(.v 8),(.v 1)]) [.m (.t [(.v 7),(.v 8)]) (.e (.v 5)) []])])]),
  .a (.a 41 (.v 0)) (.i .s (.a 41 (.v 0)) (.c (.i 1))),
  .r (.v 6)]⟩
noncomputable def uC:Fn:=⟨2,[.i (.p .g (.m 28 (.v 1) []) (.h 3)) [.s] [],
  .a (.a 39 (.v 0)) (.v 1),
  .a (.a 46 (.v 0)) (.g .t []),
  .a (.a 47 (.v 0)) (.g .t []),
  .l (.v 2) (.r [(.m 28 (.v 1) [])]) [.a (.s (.a 46 (.v 0)) (.t [(.v 2),(.v 2)])) (.c (.i 0))],
  .l (.v 3) (.r [(.b .l [(.a 23 (.v 1))])]) [.a (.t [(.v 4),(.v 5),(.v 6)]) (.s (.a 23 (.v 1)) (.v 3)),
  .i (.p .n (.s (.v 6) (.c (.i 0))) (.c (.s [108,105,107,101]))) [.e (.m 48 (.v 0) [(.v 4),(.v 5),(.c (.i 1)),(.t [(.c (.s [101,100,103,101])),(.v 3),(.c (.b false))])]),
  .e (.m 48 (.v 0) [(.v 5),(.v 4),(.c (.i 1)),(.t [(.c (.s [101,100,103,101])),(.v 3),(.c (.b true))])])] []],
  .a (.v 7) (.o (.m 37 (.v 1) [(.v 9)]) [.m (.v 9) (.e (.m 36 (.v 1) [])) []]),
  .a (.a 49 (.v 0)) (.c (.b true)),
  .w (.a 49 (.v 0)) [.a (.a 49 (.v 0)) (.c (.b false)),
  .l (.v 8) (.e (.v 7)) [.e (.m 50 (.v 0) [(.v 8)]),
  .e (.m 51 (.v 0) [(.v 8)])]]]⟩
noncomputable def AA:Fn:=⟨5,[.i (.r [(.p .o (.t [(.v 1),(.v 2)]) (.a 46 (.v 0))),(.p .l (.v 3) (.s (.a 46 (.v 0)) (.t [(.v 1),(.v 2)])))]) [.a (.s (.a 46 (.v 0)) (.t [(.v 1),(.v 2)])) (.v 3),
  .a (.s (.a 47 (.v 0)) (.t [(.v 1),(.v 2)])) (.v 4),
  .a (.a 49 (.v 0)) (.c (.b true))] []]⟩
noncomputable def Ay:Fn:=⟨2,[.l (.v 2) (.e (.v 1)) [.l (.v 3) (.e (.v 1)) [.a (.t [(.v 4),(.v 5)]) (.t [(.m 15 (.a 21 (.a 39 (.v 0))) [(.v 2)]),(.m 15 (.a 21 (.a 39 (.v 0))) [(.v 3)])]),
  .i (.n [(.p .n (.v 2) (.v 3)),(.p .e (.m 16 (.a 21 (.a 39 (.v 0))) [(.v 2)]) (.m 16 (.a 21 (.a 39 (.v 0))) [(.v 3)])),(.p .e (.b .l [(.v 4)]) (.b .l [(.v 5)]))]) [.i (.p .e (.o (.v 6) [.m (.v 6) (.e (.b .z [(.v 4),(.v 5)])) [(.p .o (.v 6) (.a 46 (.v 0)))]]) (.d [])) [.e (.m 48 (.v 0) [(.v 2),(.v 3),(.b .s [(.o (.s (.a 46 (.v 0)) (.v 7)) [.m (.v 7) (.e (.b .z [(.v 4),(.v 5)])) []])]),(.t [(.c (.s [108,105,107,101]))])])] []] []]]]⟩
noncomputable def Az:Fn:=⟨2,[.l (.v 2) (.e (.v 1)) [.l (.v 3) (.e (.v 1)) [.l (.v 4) (.e (.v 1)) [.i (.n [(.p .i (.t [(.v 3),(.v 2)]) (.a 46 (.v 0))),(.p .i (.t [(.v 2),(.v 4)]) (.a 46 (.v 0)))]) [.a (.v 5) (.i .a (.s (.a 46 (.v 0)) (.t [(.v 3),(.v 2)])) (.s (.a 46 (.v 0)) (.t [(.v 2),(.v 4)]))),
  .e (.m 48 (.v 0) [(.v 3),(.v 4),(.v 5),(.t [(.c (.s [111,118,101,114])),(.v 2)])])] []]]]]⟩
noncomputable def Gp:Fn:=⟨3,[.i (.p .o (.t [(.v 1),(.v 2)]) (.a 46 (.v 0))) [.s] [],
  .r (.s (.a 46 (.v 0)) (.t [(.v 1),(.v 2)]))]⟩
noncomputable def uD:Fn:=⟨3,[.e (.m 52 (.v 0) [(.v 1),(.v 2)]),
  .i (.p .e (.v 1) (.v 2)) [.r (.l 31 [(.a 39 (.v 0)),(.v 1),(.d [])])] [],
  .a (.v 3) (.s (.a 47 (.v 0)) (.t [(.v 1),(.v 2)])),
  .i (.p .e (.s (.v 3) (.c (.i 0))) (.c (.s [111,118,101,114]))) [.r (.t [(.c (.s [106,111,105,110])),(.m 53 (.v 0) [(.v 1),(.s (.v 3) (.c (.i 1)))]),(.m 53 (.v 0) [(.s (.v 3) (.c (.i 1))),(.v 2)])])] [],
  .i (.p .e (.s (.v 3) (.c (.i 0))) (.c (.s [101,100,103,101]))) [.a (.v 4) (.l 30 [(.a 39 (.v 0)),(.s (.v 3) (.c (.i 1)))]),
  .r (.f (.s (.v 3) (.c (.i 2))) (.t [(.c (.s [116,117,114,110])),(.v 4)]) (.v 4))] [],
  .a (.v 5) (.b .z [(.m 15 (.a 21 (.a 39 (.v 0))) [(.v 1)]),(.m 15 (.a 21 (.a 39 (.v 0))) [(.v 2)])]),
  .r (.t [(.c (.s [117,110,100,101,114])),(.m 16 (.a 21 (.a 39 (.v 0))) [(.v 1)]),(.b .t [(.o (.m 53 (.v 0) [(.v 6),(.v 7)]) [.m (.t [(.v 6),(.v 7)]) (.e (.v 5)) []])])])]⟩
noncomputable def AG:Fn:=⟨2,[.a (.s (.v 0) (.c (.s [116,117,114,110]))) (.i .a (.s (.v 0) (.c (.s [116,117,114,110]))) (.c (.i 1))),
  .a (.v 2) (.s (.v 0) (.c (.s [116,117,114,110]))),
  .i (.p .a (.v 2) (.b .l [(.s (.v 0) (.c (.s [99,101,108,108,115])))])) [.r (.i .m (.s (.s (.v 0) (.c (.s [99,101,108,108,115]))) (.i .s (.v 2) (.c (.i 1)))) (.v 1))] [],
  .r (.i .m (.i .m (.i .a (.i .a (.i .a (.i .u (.i .u (.c (.i 5)) (.v 2)) (.v 2)) (.i .u (.c (.i 11)) (.v 2))) (.i .f (.v 2) (.c (.i 4)))) (.s (.v 0) (.c (.s [98,108,101,110,100])))) (.c (.i 89))) (.v 1))]⟩
noncomputable def xl:Fn:=⟨2,[.a (.v 2) (.f (.p .g (.v 1) (.c (.i 0))) (.l 43 [(.v 0),(.c (.i 4))]) (.c (.i 0))),
  .i (.p .l (.v 2) (.c (.i 2))) [.r (.t [(.s (.d [(.c (.s [97])),(.c (.s [98,50])),(.c (.s [45,62])),(.c (.s [116,111,108,100]))]) (.l 43 [(.v 0),(.c (.i 4))]))])] [],
  .r (.i .a (.t [(.s (.d [(.c (.s [102])),(.c (.s [117,110,100,101,114]))]) (.i .s (.v 2) (.c (.i 2))))]) (.b .t [(.o (.l 44 [(.v 0),(.i .s (.v 1) (.c (.i 1)))]) [.m (.v 3) (.r [(.i .s (.v 2) (.c (.i 1)))]) []])]))]⟩
noncomputable def su:Fn:=⟨2,[.a (.v 2) (.f (.p .g (.v 1) (.c (.i 0))) (.l 43 [(.v 0),(.c (.i 7))]) (.l 43 [(.v 0),(.c (.i 3))])),
  .i (.p .e (.v 2) (.c (.i 0))) [.r (.t [(.c (.s [116,111,108,100])),(.s (.h 0) (.l 43 [(.v 0),(.c (.i 5))]))])] [],
  .i (.p .e (.v 2) (.c (.i 1))) [.r (.t [(.c (.s [115,97,109,101])),(.l 44 [(.v 0),(.c (.i 2))])])] [],
  .i (.p .e (.v 2) (.c (.i 2))) [.a (.v 3) (.e (.d [(.t [(.c (.s [63,120])),(.l 44 [(.v 0),(.c (.i 1))])]),(.t [(.c (.s [63,121])),(.l 44 [(.v 0),(.c (.i 1))])])]) none (some (.l 43 [(.v 0),(.c (.i 3))]))),
  .r (.t [(.c (.s [114,117,108,101])),(.s (.h 0) (.l 43 [(.v 0),(.c (.i 5))])),(.b .t [(.f (.p .e (.l 43 [(.v 0),(.c (.i 2))]) (.c (.i 1))) (.k (.v 3)) (.v 3))])])] [],
  .i (.p .e (.v 2) (.c (.i 3))) [.r (.t [(.c (.s [116,117,114,110])),(.l 45 [(.v 0),(.i .s (.v 1) (.c (.i 1)))])])] [],
  .i (.p .e (.v 2) (.c (.i 4))) [.a (.v 4) (.l 45 [(.v 0),(.i .s (.v 1) (.c (.i 1)))]),
  .l (.v 5) (.r [(.i .a (.c (.i 1)) (.l 43 [(.v 0),(.c (.i 6))]))]) [.a (.v 4) (.t [(.c (.s [106,111,105,110])),(.v 4),(.l 45 [(.v 0),(.f (.p .g (.v 5) (.c (.i 0))) (.c (.i 0)) (.i .s (.v 1) (.c (.i 1))))])])],
  .r (.v 4)] [],
  .i (.p .e (.v 2) (.c (.i 5))) [.r (.t [(.c (.s [106,111,105,110])),(.l 45 [(.v 0),(.c (.i 0))]),(.l 45 [(.v 0),(.i .s (.v 1) (.c (.i 1)))])])] [],
  .r (.t [(.c (.s [117,110,100,101,114])),(.s (.h 0) (.l 43 [(.v 0),(.c (.i 5))])),(.b .t [(.o (.l 45 [(.v 0),(.i .s (.v 1) (.c (.i 1)))]) [.m (.v 6) (.r [(.l 43 [(.v 0),(.c (.i 3))])]) []])])])]⟩
noncomputable def AH:Fn:=⟨1,[.a (.t [(.v 1),(.v 2)]) (.t [(.d [(.d [])]),(.c (.s []))]),
  .l (.v 3) (.e (.i .a (.v 0) (.c (.s [32])))) [.i (.n [(.p .i (.v 3) (.c (.s [40,41,32]))),(.p .n (.v 2) (.c (.s [])))]) [.e (.m 0 (.s (.v 1) (.c (.i (-1)))) [(.v 2)]),
  .a (.v 2) (.c (.s []))] [],
  .i (.p .e (.v 3) (.c (.s [40]))) [.e (.m 0 (.v 1) [(.d [])])] [.i (.n [(.p .e (.v 3) (.c (.s [41]))),(.p .g (.b .l [(.v 1)]) (.c (.i 1)))]) [.a (.v 4) (.m 2 (.v 1) []),
  .e (.m 0 (.s (.v 1) (.c (.i (-1)))) [(.v 4)])] [.i (.p .e (.v 3) (.c (.s [41]))) [.r (.c .n)] [.i (.p .n (.v 3) (.c (.s [32]))) [.a (.v 2) (.i .a (.v 2) (.v 3))] []]]]],
  .r (.f (.n [(.p .e (.b .l [(.v 1)]) (.c (.i 1))),(.p .e (.b .l [(.s (.v 1) (.c (.i 0)))]) (.c (.i 1)))]) (.s (.s (.v 1) (.c (.i 0))) (.c (.i 0))) (.c .n))]⟩
noncomputable def AI:Fn:=⟨1,[.r (.f (.b .S [(.v 0)]) (.t [(.v 0)]) (.i .a (.t [(.s (.v 0) (.c (.i 0)))]) (.b .t [(.o (.l 47 [(.v 1)]) [.m (.v 1) (.e (.e (.v 0) (some (.c (.i 1))) none)) []])])))]⟩
noncomputable def xj:Fn:=⟨1,[.a (.t [(.v 1),(.v 2)]) (.t [(.s (.v 0) (.c (.i 0))),(.e (.v 0) (some (.c (.i 1))) none)]),
  .i (.p .e (.v 1) (.c (.s [116,111,108,100]))) [.r (.t [(.c (.s [116,111,108,100])),(.s (.v 2) (.c (.i 0)))])] [],
  .i (.p .e (.v 1) (.c (.s [115,97,109,101]))) [.r (.t [(.c (.s [115,97,109,101])),(.l 47 [(.s (.v 2) (.c (.i 0)))])])] [],
  .i (.p .e (.v 1) (.c (.s [114,117,108,101]))) [.r (.t [(.c (.s [114,117,108,101])),(.s (.v 2) (.c (.i 0))),(.b .t [(.o (.t [(.s (.v 2) (.v 5)),(.l 47 [(.s (.v 2) (.i .a (.v 5) (.c (.i 1))))])]) [.m (.v 5) (.r [(.c (.i 1)),(.b .l [(.v 2)]),(.c (.i 2))]) []])])])] [],
  .i (.p .e (.v 1) (.c (.s [117,110,100,101,114]))) [.r (.t [(.c (.s [117,110,100,101,114])),(.s (.v 2) (.c (.i 0))),(.b .t [(.o (.l 48 [(.v 6)]) [.m (.v 6) (.e (.e (.v 2) (some (.c (.i 1))) none)) []])])])] [],
  .a (.v 3) (.l 48 [(.s (.v 2) (.c (.i 0)))]),
  .l (.v 4) (.e (.e (.v 2) (some (.c (.i 1))) none)) [.a (.v 3) (.t [(.c (.s [106,111,105,110])),(.v 3),(.l 48 [(.v 4)])])],
  .r (.f (.p .e (.v 1) (.c (.s [116,117,114,110]))) (.t [(.c (.s [116,117,114,110])),(.v 3)]) (.v 3))]⟩
noncomputable def uG:Fn:=⟨2,[.a (.v 2) (.s (.v 0) (.c (.i 0))),
  .i (.p .i (.v 2) (.t [(.c (.s [115,97,109,101])),(.c (.s [114,117,108,101]))])) [.a (.t [(.v 3),(.v 4)]) (.t [(.f (.p .e (.v 2) (.c (.s [115,97,109,101]))) (.d [(.s (.v 0) (.c (.i 1)))]) (.o (.v 8) [.m (.t [(.v 7),(.v 8)]) (.e (.s (.v 0) (.c (.i 2)))) []])),(.c (.i 1))]),
  .w (.p .n (.v 3) (.d [])) [.a (.v 5) (.m 2 (.v 3) []),
  .a (.v 4) (.i .a (.v 4) (.b .i [(.p .g (.b .l [(.v 5)]) (.c (.i 1)))])),
  .e (.m 1 (.v 3) [(.e (.v 5) (some (.c (.i 1))) none)])],
  .r (.v 4)] [],
  .i (.p .e (.v 2) (.c (.s [116,111,108,100]))) [.r (.c (.i 1))] [],
  .a (.v 6) (.f (.p .e (.v 2) (.c (.s [117,110,100,101,114]))) (.s (.v 0) (.c (.i 2))) (.e (.v 0) (some (.c (.i 1))) none)),
  .r (.i .a (.b .i [(.r [(.p .n (.v 2) (.c (.s [106,111,105,110]))),(.j (.v 1))])]) (.b .s [(.o (.l 49 [(.v 10),(.n [(.p .e (.v 2) (.c (.s [106,111,105,110]))),(.p .e (.v 9) (.c (.i 0)))])]) [.m (.t [(.v 9),(.v 10)]) (.n (.v 6)) []])]))]⟩
noncomputable def Gz:Fn:=⟨1,[.a (.v 1) (.l 1 [(.v 0)]),
  .a (.v 2) (.l 46 [(.v 1)]),
  .i (.r [(.p .s (.v 2) (.c .n)),(.p .n (.l 48 [(.v 2)]) (.v 0)),(.p .n (.m 6 (.v 1) [(.c (.s [40]))]) (.l 49 [(.v 0),(.c (.b false))]))]) [.r (.c (.b false))] [],
  .r (.n [(.p .o (.c (.s [32,32])) (.v 1)),(.p .o (.c (.s [40,32])) (.v 1)),(.p .o (.c (.s [32,41])) (.v 1)),(.p .e (.v 1) (.m 7 (.v 1) []))])]⟩
noncomputable def AF:Fn:=⟨1,[.a (.v 1) (.o (.i .m (.b .i [(.v 12)]) (.c (.i 1000003))) [.m (.v 12) (.e (.e (.v 0) none (some (.c (.i 40))))) []]),
  .a (.v 2) (.g .s [((.c (.s [99,101,108,108,115])),(.v 1)),((.c (.s [116,117,114,110])),(.c (.i 0))),((.c (.s [98,108,101,110,100])),(.b .s [(.o (.i .m (.b .b [(.v 13)]) (.c (.i 997))) [.m (.v 13) (.e (.v 1)) []])]))]),
  .i (.j (.l 50 [(.l 45 [(.v 2),(.c (.i 3))])])) [.r (.c (.b false))] [],
  .a (.t [(.v 3),(.v 4)]) (.t [(.w 2 []),(.d [])]),
  .l (.v 5) (.e (.e (.d [(.t [(.c (.s [97]))]),(.t [(.c (.s [98]))]),(.t [(.c (.s [102])),(.t [(.c (.s [97]))])]),(.t [(.c (.s [102])),(.t [(.c (.s [98]))])]),(.t [(.c (.s [103])),(.t [(.c (.s [97]))]),(.t [(.c (.s [98]))])]),(.t [(.c (.s [103])),(.t [(.c (.s [98]))]),(.t [(.c (.s [97]))])])]) none (some (.i .a (.c (.i 4)) (.l 43 [(.v 2),(.c (.i 3))]))))) [.e (.m 0 (.v 4) [(.m 33 (.v 3) [(.v 5)])])],
  .l (.v 6) (.r [(.i .a (.c (.i 1)) (.l 43 [(.v 2),(.c (.i 4))]))]) [.a (.t [(.v 7),(.v 8)]) (.t [(.l 43 [(.v 2),(.b .l [(.v 4)])]),(.l 43 [(.v 2),(.b .l [(.v 4)])])]),
  .a (.v 9) (.t [(.c (.s [114,117,108,101])),(.c (.s [114])),(.t [(.t [(.c (.s [63,120])),(.s (.v 4) (.c (.i 0)))]),(.t [(.c (.s [63,121])),(.s (.v 4) (.v 8))])])]),
  .e (.m 35 (.v 3) [(.v 7),(.v 8),(.s (.d [(.t [(.c (.s [116,111,108,100])),(.i .a (.c (.s [108])) (.b .a [(.v 6)]))]),(.v 9)]) (.l 43 [(.v 2),(.c (.i 2))]))])],
  .e (.m 54 (.v 3) []),
  .a (.v 10) (.o (.t [(.v 14),(.v 15)]) [.m (.v 14) (.e (.v 4)) [],.m (.v 15) (.e (.v 4)) [(.m 55 (.v 3) [(.v 14),(.v 15)])]]),
  .a (.t [(.v 7),(.v 8)]) (.s (.v 10) (.l 43 [(.v 2),(.b .l [(.v 10)])])),
  .l (.v 11) (.e (.t [(.m 53 (.w 3 [(.v 3)]) [(.v 7),(.v 8)]),(.m 53 (.w 4 [(.v 3)]) [(.v 7),(.v 8)])])) [.i (.j (.l 50 [(.v 11)])) [.r (.c (.b false))] []],
  .r (.c (.b true))]⟩
noncomputable def AP:List Fn:=[AL,AK,Gy,F7,Gf,Av,Ge,Gd,Gc,xe,Gs,Gu,Gw,Gr,AB,Gv,Gq,Gj,Go,Gm,xf,Ax,xh,Gi,Gg,Gl,Aw,Gn,Gh,Gk,AJ,uF,AD,uE,Gx,AC,AE,uC,AA,Ay,Az,Gp,uD,AG,xl,su,AH,AI,xj,uG,Gz,AF]
noncomputable def yq(k:Nat):Option Fn:=AP[k]?
noncomputable def xF:List (Nat×Nat×Nat):=[(0,28,4),(0,29,5),(0,14,6),(0,16,7),(0,15,8),(0,38,9),(1,30,11),(1,28,12),(1,20,13),(1,35,14),(1,37,15),(1,36,16),(2,28,18),(2,34,19),(2,32,20),(2,33,21),(2,31,22),(2,20,23),(2,55,24),(2,35,25),(2,5,26),(2,54,27),(2,36,28),(2,37,29),(3,44,33),(3,53,34),(3,43,35),(3,45,36),(4,48,38),(4,50,39),(4,51,40),(4,52,41),(4,53,42)]
noncomputable def yr(c m:Nat):Option Nat:=(xF.find? λx=>x.1==c&&x.2.1==m).map (·.2.2)
noncomputable def uK:List Nat:=[3,10,17,32,37]
noncomputable def CO(c:Nat):Option Nat:=uK[c]?
noncomputable def Kp(k:Nat):Option V:=[.t [.s [108,48],.s [115,97,109,101],.s [106,111,105,110],.s [116,117,114,110],.s [114,39]],.i 20000,.i 100,.i 60][k]?
noncomputable def qk:List (Nat×Nat):=[(0,10),(0,11),(0,12),(0,13),(1,17),(1,18),(1,19),(2,21),(2,22),(2,23),(2,24),(2,25),(2,17),(2,26),(2,27),(3,39),(3,40),(3,41),(3,42),(4,39),(4,46),(4,47),(4,49)]
noncomputable def fD(c a:Nat):Bool:=qk.any λx=>x.1==c&&x.2==a
noncomputable def bp(s:List Nat):Str:=⟨s.toArray⟩
theorem bg{n:Int}(h:decide (-bY<=n/\n<=bY)=true):dz n:=show -bY<=n/\n<=bY from XQ h
theorem Kd(s:List Nat):(bp s).cps.toList=s:=rfl
theorem nR{a b:List Nat}(h:bp a=bp b):a=b:=by
 have:=Xu (λx:Str=>x.cps.toList) h
 simpa [bp]using this
theorem UD(x:Str):bp x.cps.toList=x:=by cases x;simp[bp]
theorem kT(s:List Nat):(bp s).length=s.length:=by simp[bp,Str.length]
section kinds
variable {w:World}{s:Shared}
theorem Pw{a:Str}{t:Tok}{b:Int}{u:Tok}{Q:Bool->Shared->Prop}(h:Q false s):
  wpAny (model prog w) A (eqBool (.str a t) (.int b u)) Q E s:=by
 unfold eqBool
 refine XI ?_
 have e:¬(Value.str a t==Value.int b u)=true:=λh=>by have:=Xx h;cases this
 rw[Xv e]
 exact Xj (m:=richCompare .Eq (.str a t) (.int b u)) (EqMixed.eq_str_int (Q:=λv s'=>wpAny (model prog w) A (truthOfDropped v) Q E s') (YM h))
theorem Pu{a:Int}{t:Tok}{b:Str}{u:Tok}{Q:Bool->Shared->Prop}(h:Q false s):
  wpAny (model prog w) A (eqBool (.int a t) (.str b u)) Q E s:=by
 unfold eqBool
 refine XI ?_
 have e:¬(Value.int a t==Value.str b u)=true:=λh=>by have:=Xx h;cases this
 rw[Xv e]
 exact Xj (m:=richCompare .Eq (.int a t) (.str b u)) (EqMixed.eq_int_str (Q:=λv s'=>wpAny (model prog w) A (truthOfDropped v) Q E s') (YM h))
end kinds
noncomputable def Bu:KV->Value->Bool
 | .inl s,v=>Value.isStrOf (bp s) v
 | .inr i,v=>Value.isInt i v
noncomputable def QC(w:World):KV->Int
 | .inl s=>hashStr w (bp s)
 | .inr i=>hashInt i
theorem nw{s:List Nat}{v:Value}(h:Bu (.inl s) v=true):∃t,v=.str (bp s) t:=Value.isStrOf_shape h
theorem nx{i:Int}{v:Value}(h:Bu (.inr i) v=true):∃t,v=.int i t:=Value.isInt_shape h
noncomputable def Hr(prog:Program)(w:World):KeyKind prog w KV where
 is:=Bu
 hash:=QC w
 inj:=λv a b ha hb=>by
  cases a with
  |inl x=>
   refine aT (nw ha) λt q1=>?_;subst q1
   cases b with
   |inl y=>refine aT (nw hb) λu hu=>?_;injection hu with h1;rw[nR h1]
   |inr j=>refine aT (nx hb) λu hu=>?_;cases hu
  |inr x=>
   refine aT (nx ha) λt q1=>?_;subst q1
   cases b with
   |inl y=>refine aT (nw hb) λu hu=>?_;cases hu
   |inr j=>refine aT (nx hb) λu hu=>?_;injection hu with h1;rw[h1]
 byValue:=λk v h=>by
  cases k with
  |inl x=>refine aT (nw h) λt q1=>?_;subst q1;rfl
  |inr x=>refine aT (nx h) λt q1=>?_;subst q1;rfl
 pyHash:=λ{A E s k v Q} hv h=>by
  cases k with
  |inl x=>refine aT (nw hv) λt q1=>?_;subst q1;exact wpAny_pyHash_str h
  |inr x=>refine aT (nx hv) λt q1=>?_;subst q1;exact wpAny_pyHash_int h
 eqBool:=λ{A E s a b u v Q} hu hv h=>by
  cases a with
  |inl x=>
   refine aT (nw hu) λt q1=>?_;subst q1
   cases b with
   |inl y=>
    refine aT (nw hv) λt' q1=>?_;subst q1
    refine wpAny_eqBool_str ?_
    have e:decide (bp x=bp y)=decide ((Sum.inl x:KV)=Sum.inl y):=by
     by_cases hxy:x=y
     ·subst hxy;simp
     ·rw[XU λh=>hxy (nR h),XU λh=>hxy (Sum.inl.inj h)]
    rw[e];exact h
   |inr j=>
    refine aT (nx hv) λt' q1=>?_;subst q1
    refine Pw ?_
    simpa using h
  |inr x=>
   refine aT (nx hu) λt q1=>?_;subst q1
   cases b with
   |inl y=>
    refine aT (nw hv) λt' q1=>?_;subst q1
    refine Pu ?_
    simpa using h
   |inr j=>
    refine aT (nx hv) λt' q1=>?_;subst q1
    refine wpAny_eqBool_int ?_
    have e:(x==j)=decide ((Sum.inr x:KV)=Sum.inr j):=by
     by_cases hxy:x=j
     ·subst hxy;simp
     ·rw[XU λh=>hxy (Sum.inr.inj h)];simpa using hxy
    rw[e];exact h
 «strs»:=λk x t v h=>by
  cases k with
  |inl y=>
   refine aT (nw h) λu hu=>?_
   injection hu with hx
   subst hx
   cases v<;>rfl
  |inr j=>refine aT (nx h) λu hu=>?_;cases hu
noncomputable abbrev j4(prog:Program)(w:World):HeapKind prog w (List KV):=tupleKind (Hr prog w)
noncomputable abbrev j5(vs:List Value)(n:Nat):Obj:={cls:=.type "tuple",data:=.seq vs.toArray n}
noncomputable abbrev ir(vs:List Value)(n:Nat):Obj:={cls:=.type "list",data:=.seq vs.toArray n}
structure dO where
 VL:Nat->Addr
 C7:Addr
 vM:List Int
variable {cl:dO}
structure dx where
 VJ:Frag
 fn:Nat->Addr
 aF:dO
 ct:Nat->Str
 gn:Nat->Str
mutual
noncomputable def aS(cl:dO)(h:Heap)(μ:List Addr):V->Value->Prop
 | .n,v=>v=.none
 | .b b,v=>v=.bool b
 | .i i,v=>∃t,v=.int i t
 | .s s,v=>∃t,v=.str (bp s) t
 | .t xs,v=>∃a vs n,v=.ref a/\h.get? a=some (j5 vs n)/\a∉μ/\aR cl h μ xs vs
 | .f xs,v=>v=.ref cl.C7/\xs=cl.vM.map .i
 | .r i,v=>∃x,μ[i]? =some x/\v=.ref x
 | .o c i,v=>∃x d,μ[i]? =some d/\v=.ref x/\x∉μ/\h.get? x=some (instObj (cl.VL c) d)
noncomputable def aR(cl:dO)(h:Heap)(μ:List Addr):List V->List Value->Prop
 | [],vs=>vs=[]
 |x::xs,vs=>∃v r,vs=v::r/\aS cl h μ x v/\aR cl h μ xs r
end
variable {L:dx}
theorem rR{cl h μ vs}:aR cl h μ [] vs=(vs=[]):=rfl
theorem oG{cl h μ x xs vs}:aR cl h μ (x::xs) vs=(∃v r,vs=v::r/\aS cl h μ x v/\aR cl h μ xs r):=rfl
theorem M7{cl h μ xs v}:aS cl h μ (.t xs) v=(∃a vs n,v=.ref a/\h.get? a=some (j5 vs n)/\a∉μ/\aR cl h μ xs vs):=rfl
theorem M8{cl h μ i v}:aS cl h μ (.r i) v=(∃x,μ[i]? =some x/\v=.ref x):=rfl
theorem M9{cl h μ c i v}:aS cl h μ (.o c i) v=(∃x d,μ[i]? =some d/\v=.ref x/\x∉μ/\h.get? x=some (instObj (cl.VL c) d)):=rfl
noncomputable def oY(o:Obj):Bool:=o.cls==.type "list"||o.cls==.type "dict"
noncomputable def gm(o:Obj):Bool:=(match o.data with
 | .seq _ _=>true
 | .plain=>true
 |_=>false)&& !oY o
structure dk(h:Heap)(μ:List Addr)(h':Heap)(μ':List Addr):Prop where
 lM:∀b o,h.get? b=some o->b∉μ->gm o=true->h'.get? b=some o
 rA:μ <+:μ'
 Lf:∀b∈μ',b∈μ∨∀o,h.get? b=some o->oY o=true
theorem dk.rq{h:Heap}(e:dk h μ h' μ'){b:Addr}{o:Obj}(hb:h.get? b=some o)(hn:b∉μ)(hl:oY o=false):b∉μ':=λhm=>by
 rcases e.Lf b hm with h1 |h1
 ·exact hn h1
 ·rw[h1 o hb]at hl;cases hl
structure dw(h:Heap)(μ:List Addr)(h':Heap)(μ':List Addr):Prop where
 iE:∀b o,h.get? b=some o->b∉μ->h'.get? b=some o
 lL:μ <+:μ'
 kZ:∀b∈μ',b∈μ∨h.get? b=none
theorem dw.Wv{h:Heap}(e:dw h μ h' μ'):dk h μ h' μ':=⟨λb o hb hn _=>e.iE b o hb hn,e.lL,λb hb=>(e.kZ b hb).imp id λh1 o ho=>by rw[h1]at ho;cases ho⟩
theorem yT(h:Heap)(μ:List Addr):dw h μ h μ:=⟨λ_ _ e _=>e,Yh _,λ_ hb=>.inl hb⟩
theorem dw.tN{h:Heap}(e:dw h μ h' μ'){b:Addr}{o:Obj}(hb:h.get? b=some o)(hn:b∉μ):b∉μ':=λhm=>by
 rcases e.kZ b hm with h1 |h1
 ·exact hn h1
 ·rw[hb]at h1;cases h1
theorem dw.Ld{h:Heap}(e:dw h μ h' μ')(f:dw h' μ' h'' μ''):dw h μ h'' μ'' where
 iE:=λb o hb hn=>f.iE b o (e.iE b o hb hn) (e.tN hb hn)
 lL:=e.lL.trans f.lL
 kZ:=λb hb=>by
  rcases f.kZ b hb with h1 |h1
  ·exact e.kZ b h1
  ·by_cases hm:b∈μ
   ·exact .inl hm
   ·refine .inr ?_
    cases hg:h.get? b with
    |none=>rfl
    |some o=>rw[e.iE b o hg hm]at h1;cases h1
theorem nJ{l:List α}(h:l <+:l'){i:Nat}{x:α}(e:l[i]? =some x):l'[i]? =some x:=by
 refine aT h ?_;clear h;intro t q1;subst q1
 rw[Ye (XS e).1];exact e
section
variable {h:Heap}
mutual
theorem aS.extW(e:dk h μ h' μ'):∀(V:V) {v:Value},aS cl h μ V v->aS cl h' μ' V v
 | .n,_,r=>r
 | .b _,_,r=>r
 | .i _,_,r=>r
 | .s _,_,r=>r
 | .t xs,_,r=>by
  simp only[M7]at r ⊢
  refine u4 r ?_;clear r;intro a vs n q3 ha hn hr;subst q3
  exact BJ a vs n rfl (e.lM _ _ ha hn rfl) (e.rq ha hn rfl) (aR.extW e xs hr)
 | .f xs,_,r=>r
 | .r i,_,r=>by
  simp only[M8]at r ⊢
  refine az r ?_;clear r;intro x hx q2;subst q2
  exact aC x (nJ e.rA hx) rfl
 | .o c i,_,r=>by
  simp only[M9]at r ⊢
  refine dj r ?_;clear r;intro x d hx q3 hn hg;subst q3
  exact dh x d (nJ e.rA hx) rfl (e.rq hg hn rfl) (e.lM _ _ hg hn rfl)
theorem aR.extW(e:dk h μ h' μ'):∀(xs:List V) {vs:List Value},aR cl h μ xs vs->aR cl h' μ' xs vs
 | [],_,r=>r
 |x::xs,_,r=>by
  simp only[oG]at r ⊢
  refine cO r ?_;clear r;intro v q q2 h1 h2;subst q2
  exact dN v q rfl (aS.extW e x h1) (aR.extW e xs h2)
end
theorem aS.cE(e:dw h μ h' μ')(V:V){v:Value}(r:aS cl h μ V v):aS cl h' μ' V v:=aS.extW e.Wv V r
theorem aR.lh(e:dw h μ h' μ')(xs:List V)(r:aR cl h μ xs vs):aR cl h' μ' xs vs:=aR.extW e.Wv xs r
theorem aR.length:∀{xs:List V} {vs:List Value},aR cl h μ xs vs->xs.length=vs.length
 | [],_,r=>by simp only[rR]at r;subst r;rfl
 |x::xs,_,r=>by
  simp only[oG]at r
  refine cO r ?_;clear r;intro v q q2 _ h2;subst q2
  simp[aR.length h2]
theorem aR.append:∀{xs ys:List V} {vs us:List Value},aR cl h μ xs vs->aR cl h μ ys us->aR cl h μ (xs++ys) (vs++us)
 | [],_,_,_,r,q=>by simp only[rR]at r;subst r;exact q
 |x::xs,_,_,_,r,q=>by
  simp only[oG]at r
  refine cO r ?_;clear r;intro v p q2 h1 h2;subst q2
  simp only[Y4,oG]
  exact dN v _ rfl h1 (aR.append h2 q)
theorem zz{x:V}{v:Value}(r:aS cl h μ x v):aR cl h μ [x] [v]:=by simp only[rR,oG];exact dN v ([]) rfl r rfl
theorem aR.get:∀{xs:List V} {vs:List Value} (_:aR cl h μ xs vs) {i:Nat} {x:V},xs[i]? =some x->∃v,vs[i]? =some v/\aS cl h μ x v
 | [],_,_,i,x,hx=>by simp at hx
 |y::ys,_,r,i,x,hx=>by
  simp only[oG]at r
  refine cO r ?_;clear r;intro v q q2 h1 h2;subst q2
  cases i with
  |zero=>simp at hx;subst hx;exact aC v rfl h1
  |succ j=>simp at hx;simpa using aR.get h2 hx
theorem aR.M4{xs:List V}(r:aR cl h μ xs vs){i:Nat}{v:Value}(hv:vs[i]? =some v):∃x,xs[i]? =some x/\aS cl h μ x v:=by
 have hl:=r.length
 have hi:i < xs.length:=by rw[hl];exact(XS hv).1
 refine az (r.get (x:=xs[i]) (Yo hi)) λu hu hr=>?_
 rw[hv]at hu;cases hu
 exact aC _ (Yo hi) hr
theorem aR.of_get:∀{xs:List V} {vs:List Value},xs.length=vs.length->(∀(i:Nat) (x:V) (v:Value),xs[i]? =some x->vs[i]? =some v->aS cl h μ x v)->aR cl h μ xs vs
 | [],[],_,_=>by simp[rR]
 | [],_::_,hl,_=>by simp at hl
 |_::_,[],hl,_=>by simp at hl
 |x::xs,v::vs,hl,hr=>by
  simp only[oG]
  refine dN v vs rfl (hr 0 x v rfl rfl) (aR.of_get (by simpa using hl) λi y u hy hu=>hr (i+1) y u (by simpa using hy) (by simpa using hu))
theorem aR.Eh{xs:List V}(r:aR cl h μ xs vs)(n:Nat):aR cl h μ (xs.take n) (vs.take n):=
 aR.of_get (by simp[r.length]) λi x v hx hv=>by
  rw[List.getElem?_take]at hx hv
  split at hx
  ·rename_i hlt
   rw[Xr hlt]at hv
   refine az (r.get hx) λu hu hr=>?_
   rw[hv]at hu;cases hu;exact hr
  ·cases hx
theorem aR.Eg{xs:List V}(r:aR cl h μ xs vs)(n:Nat):aR cl h μ (xs.drop n) (vs.drop n):=
 aR.of_get (by simp[r.length]) λi x v hx hv=>by
  rw[List.getElem?_drop]at hx hv
  refine az (r.get hx) λu hu hr=>?_
  rw[hv]at hu;cases hu;exact hr
theorem aR.reverse:∀{xs:List V} {vs:List Value},aR cl h μ xs vs->aR cl h μ xs.reverse vs.reverse
 | [],_,r=>by simp only[rR]at r;subst r;simp[rR]
 |x::xs,_,r=>by
  simp only[oG]at r
  refine cO r ?_;clear r;intro v q q2 h1 h2;subst q2
  rw[List.reverse_cons,List.reverse_cons]
  exact(aR.reverse h2).append (zz h1)
theorem aR.M3{xs:List V}(r:aR cl h μ xs vs):aR cl h μ xs.dropLast vs.dropLast:=by
 rw[List.dropLast_eq_take,List.dropLast_eq_take,r.length];exact r.Eh _
end
inductive wP(h:Heap)(μ:List Addr)(i:Nat)(z:Addr)(as bs:List Value)(j:Nat):Prop
 |mk (f0:Value) (u:Bool) (TI TO i1 i2 t1 t2:Addr) (n1 n2:Nat) (o1 o2:Value)
  (hz:h.get? z=some {cls:=.type "zip",dict:=none,data:=.fields #[f0,.bool u,.bool false,.ref TI,.ref TO],slots:=#[]}) (hf:f0=.none∨∃T,f0=rawInt T)
  (hO:μ[i+1]? =some TO) (h1:μ[i+2]? =some i1) (h2:μ[i+3]? =some i2) (aI:TI∉μ) (a1:t1∉μ) (a2:t2∉μ)
  (pI:IsPair h TI (.ref i1) (.ref i2)) (pO:IsPair h TO o1 o2) (r1:h.IsTupleIter i1 t1 j) (r2:h.IsTupleIter i2 t2 j) (g1:h.get? t1=some (j5 as n1)) (g2:h.get? t2=some (j5 bs n2))
inductive F2{α β:Type}(R:α->β->Prop):List α->List β->Prop
 |d8:F2 R [] []
 |eJ {a:α} {b:β} {as:List α} {bs:List β} (h:R a b) (t:F2 R as bs):F2 R (a::as) (b::bs)
section
variable {S:α'->β'->Prop}
theorem F2.Lk{f:α->α'}{g:β->β'}(r:F2 R as bs)(h:∀a b,R a b->S (f a) (g b)):F2 S (as.map f) (bs.map g):=by
 induction r with
 |d8=>exact .d8
 |eJ k _ ih=>exact .eJ (h _ _ k) ih
theorem F2.mL(r:F2 R as bs)(h:∀a b,R a b->T a b):F2 T as bs:=by
 induction r with
 |d8=>exact .d8
 |eJ k _ ih=>exact .eJ (h _ _ k) ih
theorem F2.Ll{a:α}{b:β}(r:F2 R as bs)(h:R a b):F2 R (as++[a]) (bs++[b]):=by
 induction r with
 |d8=>exact .eJ h .d8
 |eJ k _ ih=>exact .eJ k ih
theorem F2.Li{p:α->Bool}{q:β->Bool}(r:F2 R as bs)(h:∀a b,R a b->p a=q b):F2 R (as.filter p) (bs.filter q):=by
 induction r with
 |d8=>exact .d8
 |eJ k _ ih=>
  rw[List.filter_cons,List.filter_cons,h _ _ k]
  split
  ·exact .eJ k ih
  ·exact ih
theorem F2.Dm{p:α->Bool}{q:β->Bool}(r:F2 R as bs)(h:∀a b,R a b->p a=q b):as.any p=bs.any q:=by
 induction r with
 |d8=>rfl
 |eJ k _ ih=>rw[List.any_cons,List.any_cons,h _ _ k,ih]
theorem F2.Lj(r:F2 R as bs)(h:∀a b,b∈bs->R a b->T a b):F2 T as bs:=by
 induction r with
 |d8=>exact .d8
 |eJ k _ ih=>exact .eJ (h _ _ (Xz ..) k) (ih λa b m=>h a b (XA _ m))
theorem F2.Lh{p:β->Prop}{b:β}(r:F2 R as bs)(hb:b∈bs)(h:∀a b,R a b->p b):p b:=by
 induction r with
 |d8=>cases hb
 |eJ k _ ih=>exact(XC hb).elim (λq=>q▸h _ _ k) ih
theorem F2.n9(r:F2 R as bs):as.length=bs.length:=by
 induction r with
 |d8=>rfl
 |eJ _ _ ih=>exact Xu (· +1) ih
end
noncomputable abbrev lN(L:dx)(h:Heap)(μ:List Addr)(c:Nat)(f:Nat×V)(e:DictEntry):Prop:=(fD c f.1=true/\∃t,e.key=.str (L.ct f.1) t)/\aS L.aF h μ f.2 e.val
structure Cx where
 bK:Program
 VI:World
 KF:dx
 cS:Heap
section
variable (Z:Cx)
noncomputable def dC(h:Heap)(μ:List Addr)(i:Nat)(x:Addr):O->Prop
 | .l xs=>∃vs n,h.get? x=some (ir vs n)/\aR Z.KF.aF h μ xs vs
 | .d es=>∃kvs:List (Int×Value),h.DictOf (intKind Z.bK Z.VI) x kvs/\F2 (λe y=>y.1=e.1/\aS Z.KF.aF h μ e.2 y.2) es kvs
 | .s es=>∃kvs:List (Str×Value),h.DictOf (strKind Z.bK Z.VI) x kvs/\F2 (λe y=>y.1=bp e.1/\aS Z.KF.aF h μ e.2 y.2) es kvs
 | .t es=>∃ks:List (List KV×Addr×Value),h.DictOfH (j4 Z.bK Z.VI) x ks/\F2 (λe y=>(y.1=e.1/\y.2.1∉μ)/\aS Z.KF.aF h μ e.2 y.2.2) es ks
 | .a c fs=>∃es n,h.get? x=some (dictOf es n)/\F2 (lN Z.KF h μ c) fs es
 | .i xs=>∃as bs:List Value,∃ps:List (V×V),∃j:Nat,wP h μ i x as bs j/\aR Z.KF.aF h μ (ps.map (·.1)) (((as.zip bs).drop j).map (·.1))/\aR Z.KF.aF h μ (ps.map (·.2)) (((as.zip bs).drop j).map (·.2))/\xs=ps.map λp=>.t [p.1,p.2]
 | .u=>True
noncomputable def O.tS:O->Bool
 | .u=>true
 |_=>false
noncomputable def O.fG:O->Bool
 | .d _=>true
 | .s _=>true
 | .t _=>true
 |_=>false
structure aU(h:Heap)(μ:List Addr)(σ:aj):Prop where
 eu:μ.length=σ.length
 jH:μ.Nodup
 dM:∀b o,Z.cS.get? b=some o->h.get? b=some o
 jG:∀b∈μ,Z.cS.get? b=none
 iU:∀b∈μ,∃o,h.get? b=some o
 fU:∀(i:Nat) (x:Addr) (o:O),μ[i]? =some x->σ[i]? =some o->dC Z h μ i x o
 iT:∀(i:Nat) (xs:List V),σ[i]? =some (.i xs)->∀j,j < 3->∃o,σ[i+1+j]? =some o/\o.tS=true
 kh:∃vs,Z.cS.IsList Z.KF.aF.C7 vs.toArray/\IntsAre vs Z.KF.aF.vM
 jr:∀(i:Nat) (x:Addr) (o:O),μ[i]? =some x->σ[i]? =some o->o.fG=true->x≠sysModules
end
section
variable {Z:Cx}{h:Heap}
theorem wP.NV{i:Nat}{z:Addr}{as bs:List Value}{j:Nat}(r:wP h μ i z as bs j)(e:dk h μ h' μ')(hx:∀q,h.get? z=some q->h'.get? z=some q)
  (hz:∀j,j < 3->∀b,μ[i+1+j]? =some b->∀q,h.get? b=some q->h'.get? b=some q):wP h' μ' i z as bs j:=
 r.casesOn λf0 u TI TO i1 i2 t1 t2 n1 n2 o1 o2 k0 hf hO h1 h2 aI a1 a2 pI pO r1 r2 g1 g2=>
  ⟨f0,u,TI,TO,i1,i2,t1,t2,n1,n2,o1,o2,hx _ k0,hf,nJ e.rA hO,nJ e.rA h1,nJ e.rA h2,e.rq pI aI rfl,e.rq g1 a1 rfl,e.rq g2 a2 rfl,
   e.lM _ _ pI aI rfl,hz 0 (by decide) TO hO _ pO,r1.at (hz 1 (by decide) i1 h1),r2.at (hz 2 (by decide) i2 h2),e.lM _ _ g1 a1 rfl,e.lM _ _ g2 a2 rfl⟩
theorem Hm{k:List KV}{a:Addr}(r:(j4 Z.bK Z.VI).is h k a)(hn:a∉μ)(e:dk h μ h' μ'):(j4 Z.bK Z.VI).is h' k a/\a∉μ':=
 let⟨o,items,n,ho,hc,hd,hi⟩:=r
 ⟨⟨o,items,n,e.lM _ _ ho hn (by unfold gm oY;rw[hd,hc];rfl),hc,hd,hi⟩,e.rq ho hn (by unfold oY;rw[hc];rfl)⟩
theorem U1(r:h.DictOfH (j4 Z.bK Z.VI) x ks)(hx:∀q,h.get? x=some q->h'.get? x=some q)(e:dk h μ h' μ')(hn:∀k∈ks,k.2.1∉μ):h'.DictOfH (j4 Z.bK Z.VI) x ks:=
 let⟨o,es',ep,q⟩:=r;⟨o,es',ep,hx _ q.1,q.2.1,q.2.2.1,q.2.2.2.1,λk hk=>(Hm (q.2.2.2.2.1 k hk) (hn k hk) e).1,q.2.2.2.2.2⟩
theorem U2(r:h.DictOfH (j4 Z.bK Z.VI) x ks){k:List KV×Addr×Value}(hk:k∈ks)(hn:k.2.1∉μ)(e:dk h μ h' μ'):k.2.1∉μ':=
 let⟨o,es',ep,q⟩:=r;(Hm (q.2.2.2.2.1 k hk) hn e).2
theorem dC.wz{i:Nat}{o:O}(r:dC Z h μ i x o)(e:dk h μ h' μ')(hx:∀q,h.get? x=some q->h'.get? x=some q)
  (hz:∀xs,o=.i xs->∀j,j < 3->∀b,μ[i+1+j]? =some b->∀q,h.get? b=some q->h'.get? b=some q):dC Z h' μ' i x o:=by
 cases o with
 |l xs=>exact r.imp λvs r=>r.imp λn r=>⟨hx _ r.1,r.2.extW e⟩
 |d es=>exact let⟨kvs,h1,h2⟩:=r;⟨kvs,h1.at hx,h2.mL λa b r=>⟨r.1,r.2.extW e⟩⟩
 |s es=>exact let⟨kvs,h1,h2⟩:=r;⟨kvs,h1.at hx,h2.mL λa b r=>⟨r.1,r.2.extW e⟩⟩
 |t es=>exact let⟨ks,h1,h2⟩:=r;⟨ks,U1 h1 hx e λk hk=>h2.Lh hk λa b r=>r.1.2,h2.Lj λa b hk r=>⟨⟨r.1.1,U2 h1 hk r.1.2 e⟩,r.2.extW e⟩⟩
 |a c fs=>exact let⟨es,n,h1,h2⟩:=r;⟨es,n,hx _ h1,h2.mL λ_ _ r=>⟨r.1,r.2.extW e⟩⟩
 |i xs=>exact r.imp λas r=>r.imp λbs r=>r.imp λps r=>r.imp λj r=>⟨r.1.NV e hx (hz xs rfl),r.2.1.extW e,r.2.2.1.extW e,r.2.2.2⟩
 |u=>trivial
theorem dC.zA{i:Nat}{o:O}(r:dC Z h μ i x o)(e:dw h μ h' μ')(hx:∀q,h.get? x=some q->h'.get? x=some q)
  (hz:∀xs,o=.i xs->∀j,j < 3->∀b,μ[i+1+j]? =some b->∀q,h.get? b=some q->h'.get? b=some q):dC Z h' μ' i x o:=r.wz e.Wv hx hz
theorem aU.at(I:aU Z h μ σ){i:Nat}{o:O}(hs:σ[i]? =some o):∃x,μ[i]? =some x/\x∈μ/\dC Z h μ i x o:=by
 have hi:i < μ.length:=by rw[I.eu];exact(XS hs).1
 exact dK (μ[i]) (Yo hi) (List.getElem_mem hi) (I.fU i _ o (Yo hi) hs)
theorem AS{l:List Addr}(hn:l.Nodup){i j:Nat}(hi:l[i]? =some x)(hj:l[j]? =some x):i=j:=
 (List.getElem?_inj (XS hi).1 hn).mp (hi.trans hj.symm)
theorem aU.Mm(I:aU Z h μ σ)(hk:∀b o,h.get? b=some o->h'.get? b=some o):aU Z h' μ σ/\dw h μ h' μ:=by
 have e:dw h μ h' μ:=⟨λb o hb _=>hk b o hb,Yh _,λb hb=>.inl hb⟩
 exact bm (⟨I.eu,I.jH,λb o hb=>hk b o (I.dM b o hb),I.jG,λb hb=>let⟨o,ho⟩:=I.iU b hb;⟨o,hk b o ho⟩,
  λi x o hx ho=>(I.fU i x o hx ho).zA e (λq=>hk x q) (λ_ _ _ _ b _ q=>hk b q),I.iT,I.kh,I.jr⟩) e
theorem my{b:Addr}(hb:h.objs.size<=b):h.get? b=none:=by
 cases hg:h.get? b with
 |none=>rfl
 |some o=>exact absurd (Ym hg) (Zb hb)
theorem J6{M:Nat->Addr->O->Prop}{o:O}(hl:μ.length=σ.length)(h:∀i x o,μ[i]? =some x->σ[i]? =some o->M i x o)(hn:M σ.length x o)(i:Nat)(y:Addr)(q:O)(hy:(μ++[x])[i]? =some y)(hq:(σ++[o])[i]? =some q):M i y q:=by
 rw[List.getElem?_append]at hy hq
 split at hq
 ·next c=>rw[Xr (hl▸c)]at hy;exact h i y q hy hq
 ·next c=>
  rw[Xv (hl▸c),hl]at hy
  cases k:i - σ.length with
  |zero=>rw[k]at hy hq;cases hy;cases hq;exact Nat.le_antisymm (Nat.le_of_sub_eq_zero k) (Nat.le_of_not_lt c)▸hn
  |succ n=>rw[k]at hq;cases hq
theorem aU.DF(I:aU Z h μ σ){o:O}(hn:x∉μ)(h0:Z.cS.get? x=none)(hk:∀b q,h.get? b=some q->h'.get? b=some q)(hl:∃q,h'.get? x=some q)(e:dk h μ h' (μ++[x]))(hr:dC Z h' (μ++[x]) σ.length x o)(hi:∀xs,o≠.i xs)(hz:o.fG=true->x≠sysModules):
  aU Z h' (μ++[x]) (σ++[o]) where
 eu:=by rw[Xn,Xn,I.eu];rfl
 jH:=List.nodup_append.mpr ⟨I.jH,List.nodup_cons.mpr ⟨XX,Y5⟩,λa ha b hb q=>hn (Xy hb▸q▸ha)⟩
 dM:=λb o hb=>hk b o (I.dM b o hb)
 jG:=λb hb=>(XD hb).elim (I.jG b) λq=>Xy q▸h0
 iU:=λb hb=>(XD hb).elim (λq=>(I.iU b q).imp λo=>hk b o) λq=>Xy q▸hl
 fU:=J6 I.eu (M:=dC Z h' (μ++[x])) (λi y q hy hq=>(I.fU i y q hy hq).wz e (λq=>hk y q) (λ_ _ _ _ b _ q=>hk b q)) hr
 iT:=λi xs hq j hj=>by
  have hlt:i < σ.length:=Nat.lt_of_not_le λc=>by
   rw[YK c]at hq
   cases k:i - σ.length with
   |zero=>rw[k]at hq;exact hi xs (Xs hq)
   |succ n=>rw[k]at hq;cases hq
  rw[Ye hlt]at hq
  exact(I.iT i xs hq j hj).imp λq r=>⟨by rw[Ye (XS r.1).1];exact r.1,r.2⟩
 kh:=I.kh
 jr:=J6 I.eu (M:=λ_ x o=>o.fG=true->x≠sysModules) I.jr hz
theorem aU.eY(I:aU Z h μ σ)(hx:h.get? x=none):x∉μ/\Z.cS.get? x=none:=
 ⟨λhm=>let⟨q,hq⟩:=I.iU x hm;bN (hx.symm.trans hq),Zx λq hq=>bN (hx.symm.trans (I.dM x q hq))⟩
theorem aU.DC(I:aU Z h μ σ){o:O}(hx:h.get? x=none)(hk:∀b q,h.get? b=some q->h'.get? b=some q)(hl:∃q,h'.get? x=some q)
  (hr:dw h μ h' (μ++[x])->dC Z h' (μ++[x]) σ.length x o) (hi:∀xs,o≠.i xs) (hz:o.fG=true->x≠sysModules):aU Z h' (μ++[x]) (σ++[o])/\dw h μ h' (μ++[x]):=
 have e:dw h μ h' (μ++[x]):=⟨λb o hb _=>hk b o hb,Yd _ _,λb hb=>(XD hb).imp id λq=>by cases Xy q;exact hx⟩
 ⟨I.DF (I.eY hx).1 (I.eY hx).2 hk hl e.Wv (hr e) hi hz,e⟩
theorem aU.DE(I:aU Z h μ σ){o:O}{obj:Obj}(hD:h.get? D=some obj)(hl:oY obj=true)(hn:D∉μ)(h0:Z.cS.get? D=none)(hi:∀xs,o≠.i xs)
  (hr:dk h μ h (μ++[D])->dC Z h (μ++[D]) σ.length D o) (hz:o.fG=true->D≠sysModules):aU Z h (μ++[D]) (σ++[o])/\dk h μ h (μ++[D]):=
 have e:dk h μ h (μ++[D]):=⟨λb o hb _ _=>hb,Yd _ _,λb hb=>(XD hb).imp id λq o ho=>by cases Xy q;cases hD.symm.trans ho;exact hl⟩
 ⟨I.DF hn h0 (λ_ _ q=>q) ⟨_,hD⟩ e (hr e) hi hz,e⟩
theorem yi{M:Nat->Addr->O->Prop}{i:Nat}(hx:μ[i]? =some x)(hlt:i < σ.length)(h:∀j y q,i≠j->μ[j]? =some y->σ[j]? =some q->M j y q)(hn:M i x o')(j:Nat)(y:Addr)(q:O)(hy:μ[j]? =some y)(hq:(σ.set i o')[j]? =some q):M j y q:=by
 by_cases c:i=j
 ·subst c;rw[Zq hlt]at hq;cases hq;cases hx.symm.trans hy;exact hn
 ·rw[YW c]at hq;exact h j y q c hy hq
theorem aU.y7(I:aU Z h μ σ){i:Nat}{o:O}(hx:μ[i]? =some x)(ho:σ[i]? =some o)(hn:o.tS=false)(hi:∀xs,o'≠.i xs)
  (hs:∀b q,b≠x->h.get? b=some q->h'.get? b=some q) (hl:∃q,h'.get? x=some q)
  (hr:dw h μ h' μ->dC Z h' μ i x o') (hz:o'.fG=true->o.fG=true):aU Z h' μ (σ.set i o')/\dw h μ h' μ:=by
 have hm:x∈μ:=Yi hx
 have e:dw h μ h' μ:=⟨λb q hb c=>hs b q (λk=>c (k▸hm)) hb,Yh _,λb=>.inl⟩
 have hlt:i < σ.length:=(XS ho).1
 have ne:∀{j:Nat} {y:Addr},i≠j->μ[j]? =some y->y≠x:=λc hy k=>c (AS I.jH hx (k▸hy))
 have na:∀{j:Nat} {xs:List V} {k:Nat},σ[j]? =some (.i xs)->k < 3->i≠j+1+k:=λhq hk c=>by
  refine az (I.iT _ _ hq _ hk) λr h1 h2=>?_
  rw[<-c,ho]at h1;cases h1;rw[hn]at h2;cases h2
 exact bm ({
   eu:=by rw[XF];exact I.eu
   jH:=I.jH
   dM:=λb q hb=>hs b q (λk=>bN ((I.jG x hm).symm.trans (k▸hb))) (I.dM b q hb)
   jG:=I.jG
   iU:=λb hb=>(Decidable.em (b=x)).elim (λk=>k▸hl) λk=>(I.iU b hb).imp λq=>hs b q k
   fU:=yi (M:=dC Z h' μ) hx hlt (λj y q c hy hq=>(I.fU j y q hy hq).zA e (λp=>hs y p (ne c hy)) λxs k l hl b hb p=>hs b p (ne (na (k▸hq) hl) hb)) (hr e)
   iT:=λj xs hq k hk=>by
    by_cases c:i=j
    ·subst c;rw[Zq hlt]at hq;exact absurd (Xs hq) (hi xs)
    ·rw[YW c]at hq
     exact(I.iT j xs hq k hk).imp λr q=>⟨by rw[YW (na hq hk)];exact q.1,q.2⟩
   kh:=I.kh
   jr:=yi (M:=λ_ x o=>o.fG=true->x≠sysModules) hx hlt (λj y q c hy hq=>I.jr j y q hy hq) λk=>I.jr i x o hx ho (hz k)}) e
end
variable {Z:Cx}
noncomputable def NE:Value->Shared->Prop:=λ_ _=>False
noncomputable abbrev Wp(Z:Cx)(A:Around)(m:Sem α)(Q:α->Shared->Prop)(s:Shared):Prop:=wpAny (model Z.bK Z.VI) A m Q NE s
structure br(Z:Cx)(s:Shared)(μ:List Addr)(s':Shared)(μ':List Addr)(σ':aj):Prop where
 jQ:s'.gens=s.gens/\s'.drawn=s.drawn/\s'.os=s.os
 eN:aU Z s'.heap μ' σ'
 bJ:dw s.heap μ s'.heap μ'
inductive R1(Z:Cx)(s:Shared)(μ:List Addr)(x:V)(σ':aj)(v:Value)(s':Shared):Prop
 |mk (μ':List Addr) (st:br Z s μ s' μ' σ') (r:aS Z.KF.aF s'.heap μ' x v)
inductive RU(Z:Cx)(s:Shared)(μ:List Addr)(σ':aj){α:Type}(u:α)(s':Shared):Prop
 |mk (μ':List Addr) (st:br Z s μ s' μ' σ')
structure Rq(A:Around):Prop where
 Wf:A.handled=none
 WM:A.units+1010 < cLine
structure qb(h₀:Heap):Prop where
 Nv:h₀.NoLimit
noncomputable def zY:tA->Operator
 | .a=>.Add
 | .s=>.Sub
 | .u=>.Mult
 | .f=>.FloorDiv
 | .m=>.Mod
noncomputable def kB(op:tA)(a b:V)(σ:aj)(x:V)(σ':aj):Prop:=∀(Z:Cx) (A:Around) (s:Shared) (μ:List Addr) (va vb:Value),aU Z s.heap μ σ->aS Z.KF.aF s.heap μ a va->aS Z.KF.aF s.heap μ b vb->Wp Z A (binaryOp (zY op) va vb) (R1 Z s μ x σ') s
noncomputable def gu(f:Value)(args:List V)(σ:aj)(x:V)(σ':aj):Prop:=∀(Z:Cx) (A:Around) (s:Shared) (μ:List Addr) (vs:List Value),qb Z.cS->Rq A->aU Z s.heap μ σ->aR Z.KF.aF s.heap μ args vs->Wp Z A (call f vs) (R1 Z s μ x σ') s
noncomputable abbrev Pr(f:V->aj->Prop)(v:V)(σ':aj):Prop:=f v σ'
noncomputable abbrev lX(f:aj->Prop)(σ':aj):Prop:=f σ'
section
variable {s:Shared}{x y:V}{a b i j k:Nat}{xs ys:List V}{v:Value}{m n:Int}{p t:List Nat}
theorem br.oJ(I:aU Z s.heap μ σ):br Z s μ s μ σ:=⟨⟨rfl,rfl,rfl⟩,I,yT _ _⟩
theorem br.Eu(I:aU Z s.heap μ σ)(t:Nat):br Z s μ {s with toks:=t} μ σ:=⟨⟨rfl,rfl,rfl⟩,I,yT _ _⟩
theorem br.d0(a:br Z s μ s' μ' σ')(b:br Z s' μ' s'' μ'' σ''):br Z s μ s'' μ'' σ'':=
 ⟨⟨b.jQ.1.trans a.jQ.1,b.jQ.2.1.trans a.jQ.2.1,b.jQ.2.2.trans a.jQ.2.2⟩,b.eN,a.bJ.Ld b.bJ⟩
theorem iH(I:aU Z s.heap μ σ)(hk:∀b o,s.heap.get? b=some o->h'.get? b=some o)(t:Nat):br Z s μ {s with heap:=h',toks:=t} μ σ:=
 let⟨I',e⟩:=I.Mm hk;⟨⟨rfl,rfl,rfl⟩,I',e⟩
theorem R1.tW(st:br Z s μ s' μ' σ')(r:R1 Z s' μ' x σ'' v s''):R1 Z s μ x σ'' v s'':=r.casesOn λm h r=>⟨m,st.d0 h,r⟩
theorem Vx{u:α}(st:br Z s μ s' μ' σ')(r:RU Z s' μ' σ'' u s''):RU Z s μ σ'' u s'':=r.casesOn λm h=>⟨m,st.d0 h⟩
theorem R1.id(I:aU Z s.heap μ σ)(r:aS Z.KF.aF s.heap μ x v):R1 Z s μ x σ v s:=⟨μ,.oJ I,r⟩
theorem R1.ku(I:aU Z s.heap μ σ){t:Nat}(r:aS Z.KF.aF s.heap μ x v):R1 Z s μ x σ v {s with toks:=t}:=⟨μ,.Eu I t,r⟩
theorem R1.jL(I:aU Z s.heap μ σ){t:Nat}{u:Tok}:R1 Z s μ (.i m) σ (.int m u) {s with toks:=t}:=.ku I ⟨u,rfl⟩
theorem R1.tX(I:aU Z s.heap μ σ){t:Nat}{u:Tok}:R1 Z s μ (.s p) σ (.str (bp p) u) {s with toks:=t}:=.ku I ⟨u,rfl⟩
theorem R1.kq(I:aU Z s.heap μ σ){t:Nat}{u:Bool}:R1 Z s μ (.b u) σ (.bool u) {s with toks:=t}:=.ku I rfl
theorem Wp.bZ{m:Sem α}{Q R:α->Shared->Prop}(h:Wp Z A m Q s)(k:∀a s',Q a s'->R a s'):Wp Z A m R s:=wpAny_mono h k λ_ _ x=>x
theorem ny{M:Model}{m:Sem α}{Q:α->Shared->Prop}(h:wpAny M A m Q NE s):wpAny M A m Q E s:=wpAny_mono h (λ_ _ x=>x) λ_ _ x=>x.elim
theorem lA{m:Sem Value}(st:br Z s μ s' μ' σ')(h:Wp Z A m (R1 Z s' μ' x σ'') s'):Wp Z A m (R1 Z s μ x σ'') s':=h.bZ λ_ _ r=>r.tW st
theorem ki{n:Nat}(h:n<=aK):n<=sizeLine:=Xl h (by rw[sizeLine_eq];decide)
theorem lH(r:aR Z.KF.aF s.heap μ xs vs)(h:aD xs):vs.toArray.size<=sizeLine:=ki (by rw[Yr,<-r.length];exact h)
theorem Vv{h:Heap}(I:aU Z h μ σ)(hn:h.get? D=none):D∉μ:=(I.eY hn).1
theorem HW(I:aU Z s.heap μ σ)(r:aR Z.KF.aF s.heap μ xs vs){t:Nat}{n:Nat}(hk:∀b o,s.heap.get? b=some o->h'.get? b=some o)(hn:s.heap.get? D=none)(hD:h'.get? D=some (j5 vs n)):
  R1 Z s μ (.t xs) σ (.ref D) {s with heap:=h',toks:=t}:=
 have st:=iH I hk t
 ⟨μ,st,D,vs,n,rfl,hD,(I.eY hn).1,r.lh st.bJ⟩
theorem uW(I:aU Z s.heap μ σ)(r:aR Z.KF.aF s.heap μ xs vs){t:Nat}{n:Nat}(hk:∀b o,s.heap.get? b=some o->h'.get? b=some o)(hn:s.heap.get? D=none)(hD:h'.get? D=some (ir vs n)):
  R1 Z s μ (.r σ.length) (σ++[.l xs]) (.ref D) {s with heap:=h',toks:=t}:=
 let⟨I',e⟩:=I.DC (o:=.l xs) hn hk ⟨_,hD⟩ (λe=>⟨vs,n,hD,r.lh e⟩) (λ_ h=>nomatch h) (λh=>nomatch h)
 ⟨_,⟨⟨rfl,rfl,rfl⟩,I',e⟩,D,by rw[<-I.eu,YK (Xp _),Nat.sub_self];rfl,rfl⟩
theorem iB{h:Heap}:h.get? h.objs.size=none:=my (Xp _)
theorem BE(I:aU Z s.heap μ σ){as:Array Value}(r:aR Z.KF.aF s.heap μ xs as.toList){t:Nat}:R1 Z s μ (.t xs) σ (.ref s.heap.objs.size) {s with heap:=s.heap.push {cls:=.type "tuple",data:=.seq as},toks:=t}:=
 HW (n:=0) I r (λb o hb=>XG _ hb) iB (by rw[XZ _ rfl])
theorem uV(I:aU Z s.heap μ σ){as:Array Value}(r:aR Z.KF.aF s.heap μ xs as.toList){t:Nat}:R1 Z s μ (.r σ.length) (σ++[.l xs]) (.ref s.heap.objs.size) {s with heap:=s.heap.push {cls:=.type "list",data:=.seq as},toks:=t}:=
 uW (n:=0) I r (λb o hb=>XG _ hb) iB (by rw[XZ _ rfl])
inductive Mu(L:dx)(μ:List Addr)(h:Heap)(i:Nat)(v:Value)(xs:List V):Prop
 |mk (x:Addr) (vs:List Value) (n:Nat) (hx:μ[i]? =some x) (e:v=.ref x) (ho:h.get? x=some (ir vs n)) (r:aR L.aF h μ xs vs)
inductive NL(μ:List Addr)(cl:dO)(h:Heap)(v:Value)(xs:List V):Prop
 |mk (x:Addr) (vs:List Value) (n:Nat) (e:v=.ref x) (ho:h.get? x=some (j5 vs n)) (hx:x∉μ) (r:aR cl h μ xs vs)
theorem iA(I:aU Z s.heap μ σ)(r:aS Z.KF.aF s.heap μ (.r i) v)(hs:σ[i]? =some (.l xs)):Mu Z.KF μ s.heap i v xs:=by
 refine az r ?_;clear r;intro x hx e;refine dY (I.fU i x _ hx hs) λvs n h1 h2=>?_;exact⟨x,vs,n,hx,e,h1,h2⟩
theorem d6(r:aS cl hh μ (.t xs) va):NL μ cl hh va xs:=by refine u4 r ?_;clear r;intro x vs n h1 h2 h3 h4;exact⟨x,vs,n,h1,h2,h3,h4⟩
theorem dJ{h:Heap}{x:Addr}{n:Nat}(ha:h.get? x=some (j5 vs n)):h.IsTuple x vs.toArray:=⟨_,ha,rfl,_,rfl⟩
theorem dX{h:Heap}{x:Addr}{n:Nat}(ha:h.get? x=some (ir vs n)):h.IsList x vs.toArray:=⟨_,ha,rfl,_,rfl⟩
theorem vG{z:V}(h:∀(Z:Cx) (A:Around) (s:Shared) (μ:List Addr) (t u:Tok),aU Z s.heap μ σ->Wp Z A (binaryOp (zY op) (.int m t) (.int n u)) (R1 Z s μ z σ') s):Pr (kB op (.i m) (.i n) σ) z σ':=
 λZ A s μ va vb I ⟨t,ra⟩ ⟨u,rb⟩=>ra▸rb▸h Z A s μ t u I
theorem iy:Pr (kB .a (.i m) (.i n) σ) (.i (m+n)) σ:=vG λZ A s μ t u I=>wpAny_add_int (.jL I)
theorem j1:Pr (kB .s (.i m) (.i n) σ) (.i (m - n)) σ:=vG λZ A s μ t u I=>PyProof.Rows.sub_int (.jL I)
theorem Cd(h:0<=m/\m<=bY/\0<=n/\n<=bY):Pr (kB .u (.i m) (.i n) σ) (.i (m * n)) σ:=vG λZ A s μ t u I=>
 PyProof.Rows.mul_int (.jL I) (IntMulOk.of_left (intBits_le_64 (by unfold bY at h;lia) (by unfold bY at h;lia)))
theorem Sm(hy:0 < n)(hz:n<=aK):Pr (kB .f (.i m) (.i n) σ) (.i (m / n)) σ:=vG λZ A s μ t u I=>
 floordiv_int (Int.ne_of_gt hy) (by rw[Int.fdiv_eq_ediv_of_nonneg _ (Int.le_of_lt hy)];exact .jL I) (.inl (PyProof.noPylong_small (Int.natAbs_of_nonneg (Int.le_of_lt hy)▸by unfold aK at hz;lia)))
theorem sU(hy:0 < n):Pr (kB .m (.i m) (.i n) σ) (.i (m % n)) σ:=vG λZ A s μ t u I=>
 mod_int' (Int.ne_of_gt hy) (by rw[Int.fmod_eq_emod_of_nonneg _ (Int.le_of_lt hy)];exact .jL I)
theorem nI(h:aD (p++t)):Pr (kB .a (.s p) (.s t) σ) (.s (p++t)) σ:=λZ A s μ va vb I ⟨u,ra⟩ ⟨w,rb⟩=>by
 subst ra rb
 exact PyProof.Rows.add_str (λt' tk=>by rw[show bp p++bp t=bp (p++t) from Xu Str.mk (List.append_toArray p t)];exact .tX I) (by rw[kT,kT,<-Xn];exact ki h)
theorem vf(h:aD (xs++ys)):Pr (kB .a (.t xs) (.t ys) σ) (.t (xs++ys)) σ:=λZ A s μ va vb I ra rb=>by
 obtain⟨l,vs,n,rfl,hl,nl,rl⟩:=d6 ra
 obtain⟨b,us,m,rfl,hb,nb,rb'⟩:=d6 rb
 refine(?_:Wp Z A (binaryOp .Add _ _) _ _)
 by_cases h1:vs.toArray.isEmpty=true
 ·refine concat_meets ⟨_,hl,rfl⟩ ⟨_,hb,rfl⟩ noFill_tuple_add seq_tuple_add PySem.F.slot_tuple_add PySem.F.entry_tuple_add (PySem.F.args_tuple_add_2 _ _) (AutoSeq1.tuple___add___tuple_tuple_0 l vs.toArray n b us.toArray m h1) ⟨hl,hb,?_⟩
  cases vs with
  |nil=>cases Zf rl.length;exact .ku I rb
  |cons _ _=>cases h1
 ·by_cases h2:us.toArray.isEmpty=true
  ·refine concat_meets ⟨_,hl,rfl⟩ ⟨_,hb,rfl⟩ noFill_tuple_add seq_tuple_add PySem.F.slot_tuple_add PySem.F.entry_tuple_add (PySem.F.args_tuple_add_2 _ _) (AutoSeq1.tuple___add___tuple_tuple_1 l vs.toArray n b us.toArray m h1 h2) ⟨hl,hb,?_⟩
   cases us with
   |nil=>cases Zf rb'.length;rw[Yb];exact .ku I ra
   |cons _ _=>cases h2
  ·exact PySem.P.add_tuple hl hb h1 h2 (BE I (by rw[Array.toList_append];exact rl.append rb')) (by rw[<-Array.size_append];exact ki (by rw[Array.size_append,Yr,Yr,<-rl.length,<-rb'.length,<-Xn];exact h))
theorem pb(ha:σ[a]? =some (.l xs))(hb:σ[b]? =some (.l ys))(h:aD (xs++ys)):Pr (kB .a (.r a) (.r b) σ) (.r σ.length) (σ++[.l (xs++ys)]):=λZ A s μ va vb I ra rb=>by
 obtain⟨l,vs,n,_,rfl,hl,rl⟩:=iA I ra ha
 obtain⟨b,us,m,_,rfl,hb,rb'⟩:=iA I rb hb
 exact PySem.P.add_list hl hb (uV I (by rw[Array.toList_append];exact rl.append rb')) (ki (by rw[Yr,Yr,<-rl.length,<-rb'.length,<-Xn];exact h))
end
noncomputable def fN:pA->CmpOp
 | .e=>.Eq
 | .n=>.NotEq
 | .l=>.Lt
 | .a=>.LtE
 | .g=>.Gt
 | .s=>.Is
 | .i=>.In
 | .o=>.NotIn
inductive kY:V->V->Bool->Prop
 |ii (x y:Int):kY (.i x) (.i y) (decide (x=y))
 |ss (x y:List Nat):kY (.s x) (.s y) (decide (x=y))
 |tt (xs ys:List V) (r:Bool) (h:fY xs ys=some r):kY (.t xs) (.t ys) r
 |is (x:Int) (y:List Nat):kY (.i x) (.s y) false
 |si (x:List Nat) (y:Int):kY (.s x) (.i y) false
 |it (x:Int) (ys:List V):kY (.i x) (.t ys) false
 |ti (xs:List V) (y:Int):kY (.t xs) (.i y) false
 |st (x:List Nat) (ys:List V):kY (.s x) (.t ys) false
 |ts (xs:List V) (y:List Nat):kY (.t xs) (.s y) false
theorem An{a b:V}{r:Bool}(h:gX a b=some r):kY a b r:=by
 rcases a with _ |_ |x |x |x |_ |_ |_<;>first |exact bN h | (rcases b with _ |_ |y |y |y |_ |_ |_<;>first |exact bN h |exact .tt x y r h |exact Xs h▸.ii x y |exact Xs h▸.ss x y |exact Xs h▸.is x y |exact Xs h▸.si x y |exact Xs h▸.it x y |exact Xs h▸.ti x y |exact Xs h▸.st x y |exact Xs h▸.ts x y)
theorem FS{x y:V}{xs ys:List V}{r:Bool}{M:Prop}(h:fY (x::xs) (y::ys)=some r)(k:∀b c,gX x y=some b->fY xs ys=some c->r=(b&&c)->M):M:=by
 have h:vc (gX x y) (fY xs ys)=some r:=h
 cases h1:gX x y with
 |none=>rw[h1]at h;exact bN h
 |some b=>cases h2:fY xs ys with
  |none=>rw[h1,h2]at h;exact bN h
  |some c=>rw[h1,h2]at h;cases h;exact k b c h1 h2 rfl
section
variable {s:Shared}{x y a b:V}{xs ys:List V}{v:Value}{ws:List Value}{r:Bool}{n:Nat}
theorem FT{M:V->Bool->Prop}(h:gX (.t xs) b=some r)(k1:∀ys r,fY xs ys=some r->M (.t ys) r)(k2:∀y,M (.i y) false)(k3:∀y,M (.s y) false):M b r:=by
 rcases b with _ |_ |y |y |ys |_ |_ |_<;>first |exact bN h |skip
 ·exact Xs h▸k2 y
 ·exact Xs h▸k3 y
 ·exact k1 ys r h
theorem U4{m:Nat}(h:some (j5 us n)=some (j5 ws m)):ws=us:=by
 injection h with h;injection h with _ _ h;injection h with h;injection h with h;exact h.symm
theorem aR.no{M:Prop}(r:aR cl hh μ (x::xs) []):M:=by refine dY r ?_;clear r;intro v q h _;exact absurd h (List.cons_ne_nil v q).symm
noncomputable def Eo(cl:dO)(hh:Heap)(μ:List Addr)(n:Nat):Prop:=∀(a b:V) (v:Value) (r:Bool),a.dep<=n->aS cl hh μ a v->aS cl hh μ b v->gX a b=some r->r=true
theorem Ud(H:Eo cl hh μ n)(xs:List V):∀(ys:List V) (us:List Value) (r:Bool),V.deps xs<=n->aR cl hh μ xs us->aR cl hh μ ys us->fY xs ys=some r->r=true:=by
 induction xs with
 |nil=>intro ys us r hd ra rb e;cases ra;cases ys with
  |nil=>cases e;rfl
  |cons _ _=>exact rb.no
 |cons x xs ih=>intro ys us r hd ra rb e;cases ys with
  |nil=>cases rb;exact ra.no
  |cons y ys=>
   refine cO ra ?_;clear ra;intro v q q2 h1 h2;subst q2
   refine cO rb ?_;clear rb;intro _ _ hq g1 g2
   cases hq
   exact FS e λb c e1 e2 q=>by rw[q,H x y v b (Xl (Nat.le_max_left ..) hd) h1 g1 e1,ih ys _ c (Xl (Nat.le_max_right ..) hd) h2 g2 e2];rfl
theorem Py(n:Nat):Eo cl hh μ n:=by
 induction n with
 |zero=>
  intro a b v r hd ra rb e
  have w:=An e
  clear e
  induction w with
  |ii x y=>refine aT ra ?_;clear ra;intro t q1;subst q1;refine aT rb ?_;clear rb;intro u hu;exact XL (Value.int.inj hu).1
  |ss x y=>refine aT ra ?_;clear ra;intro t q1;subst q1;refine aT rb ?_;clear rb;intro u hu;exact XL (nR (Value.str.inj hu).1)
  |tt xs ys r h=>exact absurd hd (Zs _)
  |is x y=>refine aT ra ?_;clear ra;intro t q1;subst q1;refine aT rb ?_;clear rb;intro u hu;exact Value.noConfusion hu
  |si x y=>refine aT ra ?_;clear ra;intro t q1;subst q1;refine aT rb ?_;clear rb;intro u hu;exact Value.noConfusion hu
  |it x y=>refine aT ra ?_;clear ra;intro t q1;subst q1;refine sS rb ?_;clear rb;intro u _ _ hu _;exact Value.noConfusion hu
  |ti x y=>exact absurd hd (Zs _)
  |st x y=>refine aT ra ?_;clear ra;intro t q1;subst q1;refine sS rb ?_;clear rb;intro u _ _ hu _;exact Value.noConfusion hu
  |ts x y=>exact absurd hd (Zs _)
 |succ n ih=>
  intro a b v r hd ra rb e
  cases a with
  |t xs=>
   obtain⟨x,us,n,rfl,hx,_,hr⟩:=d6 ra
   refine FT (M:=λb r=>aS cl hh μ b (.ref x)->r=true) e (λys r h rb=>?_) (λy ⟨u,hu⟩=>Value.noConfusion hu) (λy ⟨u,hu⟩=>Value.noConfusion hu) rb
   obtain⟨z,ws,m,hz,hw,_,hr'⟩:=d6 rb
   exact Ud ih xs ys us r (Nat.le_of_succ_le_succ hd) hr (U4 (hx.symm.trans (Value.ref.inj hz▸hw))▸hr') h
  |_=>exact ih _ b v r (Xo _) ra rb e
open PySem.SeqAt in
noncomputable def CZ(s:Shared)(cl:dO)(μ:List Addr)(n:Nat):Prop:=∀(a b:V) (A:Around) (va vb:Value) (r:Bool),a.dep<=n->aS cl s.heap μ a va->aS cl s.heap μ b vb->gX a b=some r->A.units+n+1 < cLine->EqAt A s va vb r
open PySem.SeqAt in
inductive KG(A:Around)(s:Shared)(us ws:List Value)(r:Bool):Prop
 |mk (f:Nat->Bool) (h:∀(j:Nat) (h1:j < us.toArray.size) (h2:j < ws.toArray.size),EqAt A s us.toArray[j] ws.toArray[j] (f j)) (e:((List.range (min us.toArray.size ws.toArray.size)).all f&&us.toArray.size==ws.toArray.size)=r)
theorem E0(H:CZ s cl μ n)(hu:A.units+n+1 < cLine)(xs:List V):∀(ys:List V) (us ws:List Value) (r:Bool),V.deps xs<=n->aR cl s.heap μ xs us->aR cl s.heap μ ys ws->fY xs ys=some r->KG A s us ws r:=by
 induction xs with
 |nil=>
  intro ys us ws r hd ra rb e;obtain rfl:us=[]:=ra;rcases ys with _ | ⟨y,ys⟩
  ·obtain rfl:ws=[]:=rb;rw[<-Xs e];exact⟨λ_=>true,λj h=>absurd h (YX _),rfl⟩
  ·refine dY rb ?_;clear rb;intro v' q' q2 _;subst q2;rw[<-Xs e];exact⟨λ_=>true,λj h=>absurd h (YX _),by simp⟩
 |cons x xs ih=>
  intro ys us ws r hd ra rb e
  refine cO ra ?_;clear ra;intro v q q2 h1 h2;subst q2
  rcases ys with _ | ⟨y,ys⟩
  ·obtain rfl:ws=[]:=rb;rw[<-Xs e];exact⟨λ_=>true,λj _ h=>absurd h (YX _),by simp⟩
  ·refine cO rb ?_;clear rb;intro v' q' q2 g1 g2;subst q2
   exact FS e λb c e1 e2 k=>by
    obtain⟨f,hf,hall⟩:=ih ys q q' c (Xl (Nat.le_max_right ..) hd) h2 g2 e2
    refine⟨λj=>Nat.casesOn j b f,λj i1 i2=>?_,?_⟩
    ·cases j with
     |zero=>exact H x y A v v' b (Xl (Nat.le_max_left ..) hd) h1 g1 e1 hu
     |succ j=>exact hf j (Nat.lt_of_succ_lt_succ i1) (Nat.lt_of_succ_lt_succ i2)
    ·rw[k,<-hall,<-Bool.and_assoc]
     refine(?_:((List.range (min (q.length+1) (q'.length+1))).all _&&(q.length+1==q'.length+1))=(b&&(List.range (min q.length q'.length)).all f&&q.length==q'.length))
     rw[Nat.add_min_add_right,List.range_succ_eq_map,YN,List.all_map,show(q.length+1==q'.length+1)=(q.length==q'.length) by simp]
     rfl
open PySem.SeqAt in
theorem Px(n:Nat):CZ s cl μ n:=by
 induction n with
 |zero=>
  intro a b A va vb r hd ra rb e hu
  have w:=An e
  clear e
  induction w with
  |ii x y=>refine aT ra ?_;clear ra;intro t q1;subst q1;refine aT rb ?_;clear rb;intro u q1;subst q1;exact EqAt.int_int _ _ _ _
  |ss x y=>refine aT ra ?_;clear ra;intro t q1;subst q1;refine aT rb ?_;clear rb;intro u q1;subst q1;exact(show decide (x=y)=(bp x==bp y) from Bool.eq_iff_iff.mpr (by rw[decide_eq_true_iff,beq_iff_eq];exact⟨Xu bp,nR⟩))▸EqAt.str_str _ _ _ _
  |is x y=>refine aT ra ?_;clear ra;intro t q1;subst q1;refine aT rb ?_;clear rb;intro u q1;subst q1;exact EqAt.int_str _ _ _ _
  |si x y=>refine aT ra ?_;clear ra;intro t q1;subst q1;refine aT rb ?_;clear rb;intro u q1;subst q1;exact EqAt.str_int _ _ _ _
  |it x y=>refine aT ra ?_;clear ra;intro t q1;subst q1;obtain⟨_,_,_,rfl,hz,_⟩:=d6 rb;exact EqAt.int_tuple _ _ (dJ hz) (Nat.lt_of_succ_lt hu)
  |st x y=>refine aT ra ?_;clear ra;intro t q1;subst q1;obtain⟨_,_,_,rfl,hz,_⟩:=d6 rb;exact EqAt.str_tuple _ _ (dJ hz) (Nat.lt_of_succ_lt hu)
  |tt xs ys r h=>exact absurd hd (Zs _)
  |ti x y=>exact absurd hd (Zs _)
  |ts x y=>exact absurd hd (Zs _)
 |succ n ih=>
  intro a b A va vb r hd ra rb e hu
  have hu0:A.units < cLine:=YB (XJ _ _) (Nat.lt_of_succ_lt hu)
  cases a with
  |t xs=>
   have ra0:=ra
   obtain⟨x,us,m,rfl,hx,_,hr⟩:=d6 ra
   refine FT (M:=λb r=>gX (.t xs) b=some r->aS cl s.heap μ b vb->EqAt A s (.ref x) vb r) e (λys r h e rb=>?_) (λy e ⟨u,hu⟩=>hu▸EqAt.tuple_int _ _ (dJ hx) hu0) (λy e ⟨u,hu⟩=>hu▸EqAt.tuple_str _ _ (dJ hx) hu0) e rb
   ·have rb0:=rb
    obtain⟨z,ws,m,rfl,hz,_,hr'⟩:=d6 rb
    by_cases c:x=z
    ·subst c
     rw[Py _ _ _ _ _ (Xp _) ra0 rb0 e]
     exact EqAt.same _
    ·obtain⟨f,hf,hall⟩:=E0 (A:=A.in1) ih (by refine(?_:A.units+1+n+1 < cLine);rw[Nat.add_right_comm A.units];exact hu) xs ys us ws r (Nat.le_of_succ_le_succ hd) hr hr' h
     exact EqAt.of_refs c (hall▸RcAt.tuples (dJ hx) (dJ hz) hu0 hf)
  |_=>exact ih _ b A va vb r (Xo _) ra rb e (YB (YL (Yj _) 1) hu)
noncomputable def zy(A:Around)(s:Shared)(va vb:Value)(r:Bool):Prop:=SeqAt.RcAt A s va vb r/\SeqAt.RcNeAt A s va vb (!r)
theorem TY(hu:A.units+1010 < cLine)(ra:aS cl s.heap μ a va)(rb:aS cl s.heap μ b vb)(e:kY a b r)(hd:a.dep<=1000):zy A s va vb r:=by
 have hu0:A.units < cLine:=YB (XJ _ _) hu
 induction e with
 |ii x y=>refine aT ra ?_;clear ra;intro t q1;subst q1;refine aT rb ?_;clear rb;intro u q1;subst q1;exact bm (SeqAt.RcAt.int_int _ _ _ _) (SeqAt.RcNeAt.int_int _ _ _ _)
 |ss x y=>refine aT ra ?_;clear ra;intro t q1;subst q1;refine aT rb ?_;clear rb;intro u q1;subst q1;exact(show decide (x=y)=(bp x==bp y) from Bool.eq_iff_iff.mpr (by rw[decide_eq_true_iff,beq_iff_eq];exact⟨Xu bp,nR⟩))▸⟨SeqAt.RcAt.str_str _ _ _ _,SeqAt.RcNeAt.str_str _ _ _ _⟩
 |is x y=>refine aT ra ?_;clear ra;intro t q1;subst q1;refine aT rb ?_;clear rb;intro u q1;subst q1;exact bm (SeqAt.RcAt.int_str _ _ _ _) (SeqAt.RcNeAt.int_str _ _ _ _)
 |si x y=>refine aT ra ?_;clear ra;intro t q1;subst q1;refine aT rb ?_;clear rb;intro u q1;subst q1;exact bm (SeqAt.RcAt.str_int _ _ _ _) (SeqAt.RcNeAt.str_int _ _ _ _)
 |it x y=>refine aT ra ?_;clear ra;intro t q1;subst q1;obtain⟨_,_,_,rfl,hz,_⟩:=d6 rb;exact bm (SeqAt.RcAt.int_tuple _ _ (dJ hz) hu0) (SeqAt.RcNeAt.int_tuple _ _ (dJ hz) hu0)
 |st x y=>refine aT ra ?_;clear ra;intro t q1;subst q1;obtain⟨_,_,_,rfl,hz,_⟩:=d6 rb;exact bm (SeqAt.RcAt.str_tuple _ _ (dJ hz) hu0) (SeqAt.RcNeAt.str_tuple _ _ (dJ hz) hu0)
 |ti x y=>refine aT rb ?_;clear rb;intro t q1;subst q1;obtain⟨_,_,_,rfl,hz,_⟩:=d6 ra;exact bm (SeqAt.RcAt.tuple_int _ _ (dJ hz) hu0) (SeqAt.RcNeAt.tuple_int _ _ (dJ hz) hu0)
 |ts x y=>refine aT rb ?_;clear rb;intro t q1;subst q1;obtain⟨_,_,_,rfl,hz,_⟩:=d6 ra;exact bm (SeqAt.RcAt.tuple_str _ _ (dJ hz) hu0) (SeqAt.RcNeAt.tuple_str _ _ (dJ hz) hu0)
 |tt xs ys r h=>
  obtain⟨x,us,n,rfl,hx,_,hr⟩:=d6 ra
  obtain⟨z,ws,m,rfl,hz,_,hr'⟩:=d6 rb
  obtain⟨f,hf,hall⟩:=E0 (A:=A.in1) (Px 1000) (YB (Yw (show 1002<=1010 by decide) A.units) hu |> (show A.units+1002 < cLine->_ from λh=>by refine(?_:A.units+1+1000+1 < cLine);rw[Nat.add_assoc,Nat.add_assoc];exact h)) xs ys us ws r (Nat.le_of_succ_le hd) hr hr' h
  exact hall▸⟨SeqAt.RcAt.tuples (dJ hx) (dJ hz) hu0 hf,SeqAt.RcNeAt.tuples (dJ hx) (dJ hz) hu0 hf⟩
theorem TZ(hu:A.units < cLine)(I:aU Z s.heap μ σ){i j:Nat}(ra:aS Z.KF.aF s.heap μ (.r i) va)(rb:aS Z.KF.aF s.heap μ (.r j) vb)(h1:σ[i]? =some (.l xs))(h2:σ[j]? =some (.l [])):zy A s va vb xs.isEmpty:=by
 obtain⟨l,vs,n,_,rfl,hl,rl⟩:=iA I ra h1
 obtain⟨b',us,m,_,rfl,hb,rb'⟩:=iA I rb h2
 cases rb'
 cases xs with
 |nil=>
  cases rl
  exact bm (SeqAt.RcAt.lists (e:=λ_=>true) (dX hl) (dX hb) rfl hu λj h1=>absurd h1 (YX _)) (SeqAt.RcNeAt.lists (e:=λ_=>true) (dX hl) (dX hb) rfl hu λj h1=>absurd h1 (YX _))
 |cons x xs=>
  refine dY rl ?_;clear rl;intro v q q2 _;subst q2
  exact bm (SeqAt.RcAt.lists_lengths (dX hl) (dX hb) rfl hu) (SeqAt.RcNeAt.lists_lengths (dX hl) (dX hb) rfl hu)
theorem HH(h:qC σ a=some xs):∃i,a=.r i/\σ[i]? =some (.l xs):=by
 rcases a with _ |_ |_ |_ |_ |i |_ |_<;>first |exact bN h |skip
 have h:(match σ[i]? with |some (.l xs)=>some xs |_=>none)=some xs:=h
 rcases k:σ[i]? with _ |o
 ·rw[k]at h;exact bN h
 ·rw[k]at h
  rcases o with ys |_ |_ |_ |_ |_ |_<;>first |exact bN h |exact aC i rfl (k.trans (Xu (λx=>some (O.l x)) (Xs h)))
theorem FU(hu:A.units+1010 < cLine)(I:aU Z s.heap μ σ)(ra:aS Z.KF.aF s.heap μ a va)(rb:aS Z.KF.aF s.heap μ b vb)(he:oU σ a b=some r)(hd:a.dep<=1000):zy A s va vb r:=by
 unfold oU at he
 rcases h1:qC σ a with _ |xs<;>rw[h1]at he
 ·exact TY hu ra rb (An he) hd
 ·rcases h2:qC σ b with _ |ys<;>rw[h2]at he
  ·exact bN he
  ·rcases ys with _ |_
   ·refine az (HH h1) λi q1 k1=>?_;subst q1
    refine az (HH h2) λj q1 k2=>?_;subst q1
    exact Xs he▸TZ (YB (XJ _ _) hu) I ra rb k1 k2
   ·exact bN he
end
inductive jI{α β:Type}(R:α->β->Prop):Option α->Option β->Prop
 |tT:jI R none none
 |tU {a:α} {b:β} (h:R a b):jI R (some a) (some b)
section
variable {S:α'->β'->Prop}
theorem jI.zf{x:Option α}{y:Option β}{f:α->α'}{g:β->β'}(r:jI R x y)(h:∀a b,R a b->S (f a) (g b)):jI S (x.map f) (y.map g):=by
 induction r with
 |tT=>exact .tT
 |tU k=>exact .tU (h _ _ k)
theorem jI.wh{x:Option α}{y:Option β}(r:jI R x y):x.isSome=y.isSome:=by
 induction r with
 |tT=>rfl
 |tU k=>rfl
theorem jI.ou{a:α}{y:Option β}(r:jI R (Option.some a) y):∃b,y=Option.some b/\R a b:=by rcases r with _ |h;exact aC _ rfl h
theorem jI.zh{y:Option β}(r:jI R Option.none y):y=Option.none:=by rcases r with _ |h;rfl
theorem F2.vV{p:α->Bool}{q:β->Bool}(r:F2 R as bs)(h:∀a b,R a b->p a=q b):jI R (as.find? p) (bs.find? q):=by
 induction r with
 |d8=>exact .tT
 | @eJ a b as bs k _ ih=>
  rw[Zi,Zi,h _ _ k]
  generalize q b=t
  rcases t with _ |_
  ·exact ih
  ·exact .tU k
theorem F2.Dn{p:α->Bool}{q:β->Bool}{g:α->α}{g':β->β}{a:α}{b:β}(r:F2 R as bs)(hp:∀a b,R a b->p a=q b)(hg:∀a b,R a b->R (g a) (g' b))(h0:R a b):F2 R (if as.any p then as.map g else as++[a]) (if bs.any q then bs.map g' else bs++[b]):=by
 rw[r.Dm hp]
 split
 ·exact r.Lk hg
 ·exact r.Ll h0
end
section
variable [DecidableEq κ][DecidableEq K]{h:Heap}{f:κ->K}{es:List (κ×V)}{ks:List (κ×Addr×Value)}{k:κ}{x:V}{v:Value}{a:Addr}
theorem uR(hf:∀a b,f a=f b->a=b){e:κ}{y:K}(h:y=f e):decide (e=k)=decide (y=f k):=h▸decide_eq_decide.mpr ⟨Xu f,hf _ _⟩
noncomputable abbrev oq(cl:dO)(h:Heap)(μ:List Addr)(f:κ->K)(e:κ×V)(y:K×Value):Prop:=y.1=f e.1/\aS cl h μ e.2 y.2
noncomputable abbrev zb(cl:dO)(h:Heap)(μ:List Addr)(e:κ×V)(y:κ×Addr×Value):Prop:=(y.1=e.1/\y.2.1∉μ)/\aS cl h μ e.2 y.2.2
noncomputable abbrev tZ(cl:dO)(h:Heap)(μ:List Addr):Option V->Option Value->Prop:=jI (aS cl h μ)
theorem Bv(hf:∀a b,f a=f b->a=b)(r:F2 (oq cl h μ f) es kvs):tZ cl h μ (cA es k) (valueAt kvs (f k)):=(r.vV λ_ _ h=>uR hf h.1).zf λ_ _ h=>h.2
theorem Bw(hf:∀a b,f a=f b->a=b)(hv:aS cl h μ x v)(r:F2 (oq cl h μ f) es kvs):F2 (oq cl h μ f) (eC es k x) (stored kvs (f k) v):=
 r.Dn (λ_ _ h=>uR hf h.1) (λe y h=>by
  by_cases c:e.1=k
  ·rw[Xr c,Xr (h.1.trans (Xu f c))];exact bm h.1 hv
  ·rw[Xv c,Xv λq=>c (hf _ _ (h.1.symm.trans q))];exact h) ⟨rfl,hv⟩
theorem QD(hf:∀a b,f a=f b->a=b)(r:F2 (oq cl h μ f) es kvs):F2 (oq cl h μ f) (sa es k) (without kvs (f k)):=
 r.Li λ_ _ h=>by rw[decide_not,decide_not,uR hf h.1]
theorem Qx(r:F2 (zb cl h μ) es ks):tZ cl h μ (cA es k) ((atKey ks k).map (·.2)):=by
 unfold atKey;rw[Option.map_map]
 exact(r.vV λ_ _ h=>uR (f:=λx:κ=>x) (λ_ _ q=>q) h.1.1).zf λ_ _ h=>h.2
theorem Qy(hv:aS cl h μ x v)(ha:a∉μ)(r:F2 (zb cl h μ) es ks):F2 (zb cl h μ) (eC es k x) (storedH ks k a v):=by
 have e:(atKey ks k).isSome=ks.any λy=>decide (y.1=k):=by unfold atKey;rw[Option.isSome_map,List.isSome_find?]
 unfold storedH;rw[e]
 exact r.Dn (λ_ _ h=>uR (f:=λx:κ=>x) (λ_ _ q=>q) h.1.1) (λe y h=>by
  unfold putAt
  by_cases c:e.1=k
  ·rw[Xr c,Xr (h.1.1.trans c)];exact bm h.1 hv
  ·rw[Xv c,Xv λq=>c (h.1.1.symm.trans q)];exact h) ⟨⟨rfl,ha⟩,hv⟩
end
inductive ib:O->V->Prop
 |i (es:List (Int×V)) (k:Int):ib (.d es) (.i k)
 |s (es:List (List Nat×V)) (k:List Nat):ib (.s es) (.s k)
 |t (es:List (List KV×V)) (xs:List V) (kk:List KV) (h:eW xs=some kk):ib (.t es) (.t xs)
theorem ib.lJ{d:O}{k:V}{r:Option V}(h:fu d k=some r):ib d k:=by
 rcases d with _ |es |es |es |_ |_ |_<;>first |exact bN h | (rcases k with _ |_ |k |k |xs |_ |_ |_<;>first |exact bN h |exact .i es k |exact .s es k | (refine az (YE h) λkk e _=>?_;exact .t es xs kk e))
theorem ib.vQ{d:O}{k v:V}(h:fO d k v=some d'):ib d k:=by
 rcases d with _ |es |es |es |_ |_ |_<;>first |exact bN h | (rcases k with _ |_ |k |k |xs |_ |_ |_<;>first |exact bN h |exact .i es k |exact .s es k | (refine az (YE h) λkk e _=>?_;exact .t es xs kk e))
theorem ib.rh{d:O}{k:V}(h:ib d k):d.fG=true:=by induction h<;>rfl
section
variable {s:Shared}{a i:Nat}{d o:O}{k u v w:V}{r:Option V}
theorem QE{xs:List V}:∀{vs:List Value} {ks:List KV},aR cl hh μ xs vs->eW xs=some ks->ItemsAre (Hr Z.bK Z.VI) ks vs:=by
 induction xs with
 |nil=>intro vs ks r e;obtain rfl:vs=[]:=r;rw[<-Xs e];exact .nil
 |cons y xs ih=>
  intro vs ks r e
  refine cO r ?_;clear r;intro v q q2 h1 h2;subst q2
  have e:(match qz y,eW xs with |some k,some ks=>some (k::ks) |_,_=>none)=some ks:=e
  rcases hk:qz y with _ |k<;>rw[hk]at e
  ·exact bN e
  ·rcases hs:eW xs with _ |l<;>rw[hs]at e
   ·exact bN e
   ·rw[<-Xs e]
    refine .cons ?_ (ih h2 hs)
    rcases y with _ |_ |m |m |_ |_ |_ |_<;>first |exact bN hk |skip
    ·refine aT h1 ?_;clear h1;intro t q1;subst q1;exact Xs hk▸intKind_is Z.bK Z.VI _ t
    ·refine aT h1 ?_;clear h1;intro t q1;subst q1;exact Xs hk▸strKind_is Z.bK Z.VI _ t
inductive K3(Z:Cx)(h:Heap)(μ:List Addr)(i:Nat)(x:Addr)(kv:Value)(d:O)(k:V):Prop
 |nW {K:Type} [DecidableEq K] (knd:KeyKind Z.bK Z.VI K) (kk:K) (kvs:List (K×Value)) (hk:knd.is kk kv=true) (hd:h.DictOf knd x kvs) (hl:kvs.length=oR d) (hg:∀r,fu d k=some r->tZ Z.KF.aF h μ r (valueAt kvs kk))
   (hs:∀v vv d' h',fO d k v=some d'->dw h μ h' μ->aS Z.KF.aF h μ v vv->h'.DictOf knd x (stored kvs kk vv)->dC Z h' μ i x d')
 |pC (kk:List KV) (a:Addr) (ks:List (List KV×Addr×Value)) (he:kv=.ref a) (hk:(j4 Z.bK Z.VI).is h kk a) (hd:h.DictOfH (j4 Z.bK Z.VI) x ks) (hl:ks.length=oR d) (hg:∀r,fu d k=some r->tZ Z.KF.aF h μ r ((atKey ks kk).map (·.2)))
   (hs:∀v vv d' h',fO d k v=some d'->dw h μ h' μ->aS Z.KF.aF h μ v vv->h'.DictOfH (j4 Z.bK Z.VI) x (storedH ks kk a vv)->dC Z h' μ i x d')
theorem sj(I:aU Z s.heap μ σ)(hs:σ[i]? =some d)(hx:μ[i]? =some x)(rk:aS Z.KF.aF s.heap μ k kv)(ok:ib d k):K3 Z s.heap μ i x kv d k:=by
 have ro:=I.fU i x d hx hs
 clear hs
 induction ok with
 |i es k=>
  refine az ro ?_;clear ro;intro kvs h1 h2
  refine aT rk ?_;clear rk;intro t q1;subst q1
  exact .nW (intKind Z.bK Z.VI) k kvs (intKind_is Z.bK Z.VI k t) h1 h2.n9.symm (λr q=>Xs q▸Bv (f:=λx:Int=>x) (λ_ _ h=>h) h2) λv vv d' h' q e rv hd=>Xs q▸⟨_,hd,Bw (f:=λx:Int=>x) (λ_ _ h=>h) (rv.cE e) (h2.mL λ_ _ r=>⟨r.1,r.2.cE e⟩)⟩
 |s es k=>
  refine az ro ?_;clear ro;intro kvs h1 h2
  refine aT rk ?_;clear rk;intro t q1;subst q1
  exact .nW (strKind Z.bK Z.VI) (bp k) kvs (strKind_is Z.bK Z.VI _ t) h1 h2.n9.symm (λr q=>Xs q▸Bv (f:=bp) (λ_ _ h=>nR h) h2) λv vv d' h' q e rv hd=>Xs q▸⟨_,hd,Bw (f:=bp) (λ_ _ h=>nR h) (rv.cE e) (h2.mL λ_ _ r=>⟨r.1,r.2.cE e⟩)⟩
 |t es xs kk hkk=>
  refine az ro ?_;clear ro;intro ks h1 h2
  obtain⟨a,vs,n,rfl,ha,hn,hr⟩:=d6 rk
  refine .pC kk a ks rfl ⟨_,_,_,ha,rfl,rfl,QE hr hkk⟩ h1 h2.n9.symm (λr q=>?_) λv vv d' h' q e rv hd=>?_
  ·have q:(eW xs).map (cA es)=some r:=q
   rw[hkk]at q
   exact Xs q▸Qx h2
  ·have q:(eW xs).map (λks=>O.t (eC es ks v))=some d':=q
   rw[hkk]at q
   exact Xs q▸⟨_,hd,Qy (rv.cE e) hn (h2.mL λ_ _ r=>⟨r.1,r.2.cE e⟩)⟩
theorem aU.DD(I:aU Z s.heap μ σ)(hx:μ[i]? =some x)(hs:σ[i]? =some d)(ok:ib d k):(x==sysModules)=false:=beq_eq_false_iff_ne.mpr (I.jr i x d hx hs ok.rh)
theorem qb.Nw(S:qb Z.cS)(I:aU Z s.heap μ σ):s.heap.objs.size≠sysModules:=Yp (XH (modules_low (S.Nv.keeps I.dM)))
theorem Rq.rS(R:Rq A):(j4 Z.bK Z.VI).room A.in1:=tupleKind_room_in1 (YB (Yw (by decide) _) R.WM)
theorem jA{h:Heap}(e:Heap.SameBut x h h'):∀b q,b≠x->h.get? b=some q->h'.get? b=some q:=λb q hb hq=>(e.2 b hb).trans hq
noncomputable def VA(b:Bool):CmpOp:=if b then .In else .NotIn
theorem P6(R:Rq A)(I:aU Z s.heap μ σ)(hs:σ[i]? =some d)(hx:μ[i]? =some x)(rk:aS Z.KF.aF s.heap μ k kv)(hd:fu d k=some r):Wp Z A (compareOp .In kv (.ref x)) (R1 Z s μ (.b r.isSome) σ) s:=by
 have ns:=I.DD hx hs (.lJ hd)
 induction sj I hs hx rk (.lJ hd)with
 |nW knd kk kvs hk hd' hl hg=>exact wpAny_in_of hk ns hd'.mapOf ((hg r hd).wh▸.kq I)
 |pC kk a ks he hk hd' hl hg=>exact he▸wpAny_in_heap R.rS hk ns hd' ((hg r hd).wh▸Option.isSome_map (x:=atKey ks kk)▸.kq I)
theorem Rz[DecidableEq K]{knd:HeapKind Z.bK Z.VI K}{a:Addr}{xs:List (K×Addr×Value)}{k:K}(hu:knd.room A.in1)(hk:knd.is s.heap k a)(hd':s.heap.DictOfH knd x xs)
  (ns:(x==sysModules)=false) (q:∀t,Q (.bool !(atKey xs k).isSome) {s with toks:=t}):Wp Z A (compareOp .NotIn (.ref a) (.ref x)) Q s:=by
 refine(?_:Wp Z A (do return Value.bool (!(<-contains (.ref x) (.ref a)))) _ s)
 refine Xj ?_
 unfold contains
 refine XI (Xj (wpAny_specialOf hd'.typeIs slot_dict_contains.lookup ?_))
 refine(?_:wpAny _ _ (if(some (Value.builtin "dict.__contains__")==some Value.none)=true then _ else _) _ _ s)
 rw[Xv (by rw[beq_builtin_none];exact Yy)]
 refine Xj (wpAny_callSpecialUnlessNone?_slot (name:=Str.ofString "__contains__") hd'.typeIs slot_dict_contains
  (YY slot_dict_contains hd'.typeIs entry_dict_contains ?_ (args_dict_contains _ _)))
 refine(?_:wpAny _ _ (dictGet x (.ref a)>>=_) _ _ s)
 refine Xj (wpAny_dictGet_heap hu hk hd' ?_)
 rcases hf:atKey xs k with _ |p<;>rw[hf]at q
 ·show wpAny _ _ (Builtin.Dict.pendingKey? x (.ref a)>>=_) _ _ _
  exact Xj (wpAny_pendingKey_other ns (Xm (aC _ rfl (YM (Xm (q _))))))
 ·exact Xm (aC _ rfl (YM (Xm (q _))))
theorem Ry(R:Rq A)(I:aU Z s.heap μ σ)(hs:σ[i]? =some d)(hx:μ[i]? =some x)(rk:aS Z.KF.aF s.heap μ k kv)(hd:fu d k=some r):Wp Z A (compareOp .NotIn kv (.ref x)) (R1 Z s μ (.b !r.isSome) σ) s:=by
 have ns:=I.DD hx hs (.lJ hd)
 induction sj I hs hx rk (.lJ hd)with
 |nW knd kk kvs hk hd' hl hg=>exact wpAny_notIn_of hk ns hd'.mapOf ((hg r hd).wh▸.kq I)
 |pC kk a ks he hk hd' hl hg=>exact he▸Rz R.rS hk hd' ns λt=>(hg r hd).wh▸Option.isSome_map (x:=atKey ks kk)▸.kq I
noncomputable def pJ(s:Shared)(v:Value):Prop:=∃T id,s.TypeIs v T/\typeLookup (.type T) "__getitem__"=pure (some (.builtin id))
noncomputable def nS(o i:V)(σ:aj)(x:V)(σ':aj):Prop:=∀(Z:Cx) (A:Around) (s:Shared) (μ:List Addr) (ov iv:Value),Rq A->aU Z s.heap μ σ->aS Z.KF.aF s.heap μ o ov->aS Z.KF.aF s.heap μ i iv->pJ s ov/\Wp Z A (getItem ov iv) (R1 Z s μ x σ') s
noncomputable def mF(o i v:V)(σ:aj)(σ':aj):Prop:=∀(Z:Cx) (A:Around) (s:Shared) (μ:List Addr) (ov iv vv:Value),Rq A->aU Z s.heap μ σ->aS Z.KF.aF s.heap μ o ov->aS Z.KF.aF s.heap μ i iv->aS Z.KF.aF s.heap μ v vv->Wp Z A (setItem ov iv vv) (RU Z s μ σ') s
theorem mB(ha:σ[a]? =some o)(hn:∀xs,o≠.l xs)(h:fu o w=some (some v)):Pr (nS (.r a) w σ) v σ:=λZ A s μ ov iv R I ro ri=>by
 refine az ro ?_;clear ro;intro x hx q2;subst q2
 induction sj I ha hx ri (.lJ h)with
 |nW knd kk kvs hk hd hl hg=>
  refine az ((hg _ h).ou) λu hu hr=>?_
  exact bm (⟨"dict",_,hd.typeIs,PySem.F.slot_dict_getitem.lookup⟩) (wpAny_getItem_of hk hd.mapOf hu (.ku I hr))
 |pC kk b ks he hk hd hl hg=>
  refine az ((hg _ h).ou) λu hu hr=>?_
  refine az (YE hu) λp hp q2=>?_;subst q2
  exact bm (⟨"dict",_,hd.typeIs,PySem.F.slot_dict_getitem.lookup⟩) (he▸wpAny_getItem_heap R.rS hk hd hp (.ku I hr))
theorem BC[DecidableEq K]{knd:KeyKind Z.bK Z.VI K}{h:Heap}(r:h.DictOf knd x kvs):∃q,h.get? x=some q:=by refine sS r ?_;clear r;intro o _ _ ho _;exact fA o ho
theorem HL{h:Heap}(r:h.DictOfH (j4 Z.bK Z.VI) x ks):∃q,h.get? x=some q:=by refine sS r ?_;clear r;intro o _ _ ho _;exact fA o ho
theorem w7(I:aU Z s.heap μ σ)(hx:μ[i]? =some x)(hs:σ[i]? =some d)(h1:d.fG=true)(h2:d'.fG=true)(hb:Heap.SameBut x s.heap h')(hl:∃q,h'.get? x=some q)(hr:dw s.heap μ h' μ->dC Z h' μ i x d')(t:Nat):br Z s μ {s with heap:=h',toks:=t} μ (σ.set i d'):=
 have k:=I.y7 (o':=d') hx hs (by rcases d with _ |_ |_ |_ |_ |_ |_<;>first |rfl |exact bE h1) (λxs q=>by rw[q]at h2;exact bE h2) (jA hb) hl hr λ_=>h1
 ⟨⟨rfl,rfl,rfl⟩,k.1,k.2⟩
theorem Af(h:fO d k v=some d'):d'.fG=true:=by
 induction ib.vQ h with
 |i=>exact Xs h▸rfl
 |s=>exact Xs h▸rfl
 |t es xs kk hk=>refine az (YE h) λks _ q=>?_;exact q▸rfl
theorem mA(ha:σ[a]? =some o)(hn:∀xs,o≠.l xs)(hl:oR o<=aK)(h2:fO o w v=some o'):lX (mF (.r a) w v σ) (σ.set a o'):=λZ A s μ ov iv vv R I ro ri rv=>by
 refine az ro ?_;clear ro;intro x hx q2;subst q2
 induction sj I ha hx ri (.vQ h2)with
 |nW knd kk kvs hk hd hl' hg hs=>exact wpAny_setItem_pairs hk hd (λh' hm hb=>⟨μ,w7 I hx ha (ib.vQ h2).rh (Af h2) hb (BC hm) (λe=>hs v vv o' h' h2 e rv hm) _⟩) (ki (hl'▸hl))
 |pC kk b ks he hk hd hl' hg hs=>exact he▸wpAny_setItem_heap R.rS hk hd (λh' hm hb=>⟨μ,w7 I hx ha (ib.vQ h2).rh (Af h2) hb (HL hm) (λe=>hs v vv o' h' h2 e rv hm) _⟩) (ki (hl'▸hl))
end
noncomputable def o7(k m:Nat):String:=match k with
 |1=>match m with |0=>"list.append" |1=>"list.extend" |_=>"list.pop"
 |2=>match m with |3=>"dict.get" |4=>"dict.setdefault" |_=>"dict.pop"
 |_=>match m with |5=>"str.join" |6=>"str.count" |7=>"str.strip" |_=>"str.isspace"
noncomputable def dB(m:Nat)(o:V)(args:List V)(σ:aj)(x:V)(σ':aj):Prop:=∀(Z:Cx) (A:Around) (s:Shared) (μ:List Addr) (ov:Value) (vs:List Value),qb Z.cS->Rq A->aU Z s.heap μ σ->aS Z.KF.aF s.heap μ o ov->aR Z.KF.aF s.heap μ args vs->
 Wp Z A (call (.builtin (o7 (iw σ o) m)) (ov::vs)) (R1 Z s μ x σ') s
section
variable {s:Shared}{a b i m:Nat}{d o:O}{k u v w y:V}{r:Option V}{n:Int}{xs ys args:List V}{t:List Nat}
theorem uT(h:σ[a]? =some (.l xs)):iw σ (.r a)=1:=Xu (Option.elim · 0 sI) h
theorem qA(h:σ[a]? =some o)(hd:o.fG=true):iw σ (.r a)=2:=by
 refine(Xu (Option.elim · 0 sI) h).trans ?_
 refine(?_:sI o=2)
 rcases o with _ |_ |_ |_ |_ |_ |_<;>first |rfl |exact bE hd
theorem B3{M:List Value->Prop}(r:aR cl hh μ [] vs)(h:M []):M vs:=by obtain rfl:vs=[]:=r;exact h
theorem nE{M:List Value->Prop}(r:aR cl hh μ [k] vs)(h:∀v,aS cl hh μ k v->M [v]):M vs:=by refine cO r ?_;clear r;intro v q q2 h1 q4;subst q2;subst q4;exact h v h1
theorem Iz{M:List Value->Prop}(r:aR cl hh μ [k,u] vs)(h:∀v w,aS cl hh μ k v->aS cl hh μ u w->M [v,w]):M vs:=by obtain⟨v,q,rfl,h1,w,q',rfl,h2,rfl⟩:=r;exact h v w h1 h2
theorem BF(ha:σ[a]? =some o)(hd:o.fG=true)(h:∀(Z:Cx) (A:Around) (s:Shared) (μ:List Addr) (x:Addr) (vs:List Value),Rq A->aU Z s.heap μ σ->μ[a]? =some x->(x==sysModules)=false->aR Z.KF.aF s.heap μ args vs->Wp Z A (call (.builtin (o7 2 m)) (.ref x::vs)) (R1 Z s μ y σ') s):dB m (.r a) args σ y σ':=
 λZ A s μ ov vs S R I ⟨x,hx,e⟩ r=>by subst e;rw[qA ha hd];exact h Z A s μ x vs R I hx (beq_eq_false_iff_ne.mpr (I.jr a x o hx ha hd)) r
theorem GJ{v₀:Value}{h:Heap}{o:Option Value}(hr:tZ cl h μ r o)(ru:aS cl h μ u v₀):aS cl h μ (r.getD u) (o.getD v₀):=by
 induction hr with
 |tT=>exact ru
 |tU h=>exact h
theorem Sn(ha:σ[a]? =some o)(hd:∀xs,o≠.l xs)(h:fu o w=some r):Pr (dB 3 (.r a) [w,u] σ) (r.getD u) σ:=BF ha (ib.lJ h).rh λZ A s μ x vs R I hx ns q=>
 Iz (M:=λvs=>Wp Z A (call (.builtin "dict.get") (.ref x::vs)) (R1 Z s μ (r.getD u) σ) s) q λkv vv rk rv=>by
  induction sj I ha hx rk (.lJ h)with
  |nW knd kk kvs hk hd hl hg=>exact call_meetsIn PySem.F.slot_dict_get hd.typeIs PySem.F.entry_dict_get (PySem.F.args_dict_get_3 _ _ _) (meets_dict_get_default knd x hk ns vv) (aC _ hd.mapOf (.ku I (GJ (hg r h) rv)))
  |pC kk b ks he hk hd hl hg=>exact he▸call_meetsIn PySem.F.slot_dict_get hd.typeIs PySem.F.entry_dict_get (PySem.F.args_dict_get_3 _ _ _) (meetsH_dict_get_default (j4 Z.bK Z.VI) x b ns vv) ⟨R.rS,kk,ks,hk,hd,.ku I (GJ (hg r h) rv)⟩
theorem OV[DecidableEq K]{knd:HeapKind Z.bK Z.VI K}{d a:Addr}{xs:List (K×Addr×Value)}{k:K}{v:Value}(hu:knd.room A)(hkey:knd.is s.heap k a)(hm:s.heap.DictOfH knd d xs)
  (h1:∀u,(atKey xs k).map (·.2)=some u->Q u {s with toks:=s.toks+knd.draws k})
  (h2:atKey xs k=none->∀h',h'.DictOfH knd d (storedH xs k a v)->Heap.SameBut d s.heap h'->Q v {s with heap:=h',toks:=s.toks+knd.draws k})
  (hsz:xs.length<=sizeLine):
  wpAny (model Z.bK Z.VI) A (dictSetDefault d (.ref a) v) Q E s:=by
 refine u5 hm ?_;clear hm;intro o es ep ho hc hd he his hn
 unfold dictSetDefault
 refine XI (Xj (knd.pyHash hu hkey (Xj (wpAny_dictFind_heap (s:={s with toks:=s.toks+knd.draws k}) hu hkey ho hd he his hn ?_ ?_))))
 ·intro hno
  have hnot:k∉xs.map (·.1):=not_mem_keys_of_get hno
  refine Xj (wpAny_rule (Xj (wpAny_updateDictKeys (hz:=size_of_entries he▸hsz) (s:={s with toks:=s.toks+knd.draws k}) ho hd (Xm (h2 (atKey_none_of_get hno) _ ⟨_,_,ep+1,Zu _ ho (Obj.isFreed_of_dict (Obj.data_mapDictKeys hd _)),
   hc.mapDictKeys _,Obj.data_mapDictKeys hd _,?_,?_,?_⟩ (Heap.SameBut.update ..))))))
  ·rw[storedH_new (atKey_none_of_get hno),XV,<-he]
   exact Array.toList_push
  ·rw[storedH_new (atKey_none_of_get hno)]
   exact λx hx=>knd.keeps ((XD hx).elim (his x) λq=>Xy q▸hkey) ho hd (Heap.SameBut.update ..)
  ·rw[storedH_new (atKey_none_of_get hno),XV]
   exact List.nodup_append.mpr ⟨hn,List.nodup_cons.mpr ⟨XX,Y5⟩,λx hx y hy q=>hnot (by cases q.trans (Xy hy);exact hx)⟩
 ·intro j p hj
  refine Xj (wpAny_dictEntries (s:={s with toks:=s.toks+knd.draws k}) ho hd ?_)
  rw[entry_at he j,hj]
  exact Xj (wpAny_rule (Xm (h1 p.2 (by rw[atKey_of_get hn hj];rfl))))
theorem Q4[DecidableEq K](knd:HeapKind Z.bK Z.VI K){k:K}{a:Addr}(d:Addr)(hd:(d==sysModules)=false)(dflt:Value):
  MeetsIn Z.bK Z.VI (Builtin.«dict.setdefault» ⟨[.ref d,.ref a,dflt],[]⟩) (λA R s=>knd.room A.in1/\knd.is s.heap k a/\∃xs,s.heap.DictOfH knd d xs/\xs.length<=sizeLine/\
   (∀v,(atKey xs k).map (·.2)=some v->R (.ok (.ret v)) {s with toks:=s.toks+knd.draws k})/\
   (atKey xs k=none->∀h',h'.DictOfH knd d (storedH xs k a dflt)->Heap.SameBut d s.heap h'->R (.ok (.ret dflt)) {s with heap:=h',toks:=s.toks+knd.draws k})):=
 .of_wp λA R s h=>by
  obtain⟨hu,hkey,xs,hm,hz,h1,h2⟩:=h
  unfold Builtin.«dict.setdefault» Builtin.Dict.keyAndDefault
  refine Xj (Xj (wpAny_notOrdered_dict hm.typeIs ?_))
  refine(?_:wpAny _ _ (pure (d,Value.ref a,some dflt)) _ _ s)
  refine Xm ?_
  refine(?_:wpAny _ _ (if(d==sysModules)=true then _ else(dictSetDefault d (.ref a) dflt>>=_)) _ _ s)
  rw[Xv (by rw[hd];exact Yy)]
  exact Xj (OV hu hkey hm (λv hv=>Xm (aC v rfl (h1 v hv))) (λhn h' hm' hs'=>Xm (aC dflt rfl (h2 hn h' hm' hs'))) hz)
theorem JZ(ha:σ[a]? =some o)(hl:oR o<=aK)(h:fu o w=some r)(h1:∀x,r=some x->y=x/\σ'=σ)(h2:r=none->∃o',fO o w u=some o'/\y=u/\σ'=σ.set a o'):dB 4 (.r a) [w,u] σ y σ':=BF ha (ib.lJ h).rh λZ A s μ x vs R I hx ns q=>
 Iz (M:=λvs=>Wp Z A (call (.builtin "dict.setdefault") (.ref x::vs)) (R1 Z s μ y σ') s) q λkv vv rk rv=>by
  have new:∀{h':Heap} {t:Nat},r=none->Heap.SameBut x s.heap h'->(∃q,h'.get? x=some q)->(∀o',fO o w u=some o'->dw s.heap μ h' μ->dC Z h' μ a x o')->R1 Z s μ y σ' vv {s with heap:=h',toks:=t}:=λ{h' t} e hb hv hr=>by
   refine c8 (h2 e) λo' ho q2 q3=>?_;subst q2;subst q3
   have st:=w7 I hx ha (ib.lJ h).rh (Af ho) hb hv (hr o' ho) t
   exact⟨μ,st,rv.cE st.bJ⟩
  have old:∀{z:Value} {x:V} {t:Nat},r=some x->aS Z.KF.aF s.heap μ x z->R1 Z s μ y σ' z {s with toks:=t}:=λ{z x t} e rz=>by refine bc (h1 x e) λq0 q1=>?_;subst q0;subst q1;exact .ku I rz
  induction sj I ha hx rk (.lJ h)with
  |nW knd kk kvs hk hd hl' hg hs=>
   have g:=hg r h
   refine call_meetsIn PySem.F.slot_dict_setdefault hd.typeIs PySem.F.entry_dict_setdefault (PySem.F.args_dict_setdefault_3 _ _ _) (kt_meets_setdefault knd x hk ns vv) (eX kvs hd (ki (hl'▸hl)) (λz hz=>?_) (λhn h' hm hb=>?_))
   ·rcases hr:r with _ |p<;>rw[hr,hz]at g
    ·exact bN g.zh.symm
    ·obtain⟨_,e,rz⟩:=g.ou;exact old hr (Xs e▸rz)
   ·rcases hr:r with _ |p<;>rw[hr,hn]at g
    ·exact new hr hb (BC hm) λo' ho e=>hs u vv o' h' ho e rv hm
    ·obtain⟨_,e,rz⟩:=g.ou;exact bN e
  |pC kk b ks he hk hd hl' hg hs=>
   subst he
   have g:=hg r h
   refine call_meetsIn PySem.F.slot_dict_setdefault hd.typeIs PySem.F.entry_dict_setdefault (PySem.F.args_dict_setdefault_3 _ _ _) (Q4 (j4 Z.bK Z.VI) x ns vv) ⟨R.rS,hk,ks,hd,ki (hl'▸hl),λz hz=>?_,λhn h' hm hb=>?_⟩
   ·rcases hr:r with _ |p<;>rw[hr,hz]at g
    ·exact bN g.zh.symm
    ·obtain⟨_,e,rz⟩:=g.ou;exact old hr (Xs e▸rz)
   ·rcases hr:r with _ |p<;>rw[hr,hn]at g
    ·exact new hr hb (HL hm) λo' ho e=>hs u vv o' h' ho e rv hm
    ·obtain⟨_,e,rz⟩:=g.ou;exact bN e
theorem IW(ha:σ[a]? =some o)(hd:∀xs,o≠.l xs)(hl:oR o<=aK)(h:fu o w=some (some v)):Pr (dB 4 (.r a) [w,u] σ) v σ:=JZ ha hl h (λx q=>⟨Xs q,rfl⟩) λq=>bN q.symm
theorem IV(ha:σ[a]? =some o)(hd:∀xs,o≠.l xs)(hl:oR o<=aK)(h:fu o w=some Option.none)(h2:fO o w u=some o'):Pr (dB 4 (.r a) [w,u] σ) u (σ.set a o'):=JZ ha hl h (λx q=>bN q) λ_=>dK o' h2 rfl rfl
theorem Sv{es:List (Int×V)}(ha:σ[a]? =some (.d es))(hv:cA es n=some v)(h:es.length<=aK):Pr (dB 2 (.r a) [.i n] σ) v (σ.set a (.d (sa es n))):=BF ha rfl λZ A s μ x vs R I hx ns q=>
 nE (M:=λvs=>Wp Z A (call (.builtin "dict.pop") (.ref x::vs)) (R1 Z s μ v (σ.set a (.d (sa es n)))) s) q λkv rk=>by
  refine aT rk ?_;clear rk;intro t q1;subst q1
  refine az (I.fU a x _ hx ha) λkvs h1 h2=>?_
  have g:=Bv (f:=λx:Int=>x) (k:=n) (λ_ _ h=>h) h2
  rw[hv]at g
  obtain⟨z,hz,rz⟩:=g.ou
  refine call_meetsIn PySem.F.slot_dict_pop h1.typeIs PySem.F.entry_dict_pop (PySem.F.args_dict_pop_2 _ _) (meets_dict_pop_there (intKind Z.bK Z.VI) x (intKind_is Z.bK Z.VI n t) [] (.inl rfl) rfl) (dh kvs z h1 (ki (h2.n9▸h)) hz (λh' hm hb=>?_))
  have st:=w7 (d:=.d es) (d':=.d (sa es n)) I hx ha rfl rfl hb (BC hm) (λe=>⟨_,hm,QD (f:=λx:Int=>x) (λ_ _ h=>h) (h2.mL λ_ _ r=>⟨r.1,r.2.cE e⟩)⟩) (s.toks+1)
  exact⟨μ,st,rz.cE st.bJ⟩
end
noncomputable def DQ(cl:dO)(h:Heap)(μ:List Addr)(x:Option V)(v:Value):Prop:=match x with
 |none=>v=.none
 |some x=>aS cl h μ x v
noncomputable def tj(o:V)(lo hi:Option V)(σ:aj)(x:V)(σ':aj):Prop:=∀(Z:Cx) (A:Around) (s:Shared) (μ:List Addr) (ov l u:Value) (sl:Addr),aU Z s.heap μ σ->aS Z.KF.aF s.heap μ o ov->DQ Z.KF.aF s.heap μ lo l->DQ Z.KF.aF s.heap μ hi u->s.heap.IsSliceOf sl l u .none->
 pJ s ov/\Wp Z A (getItem ov (.ref sl)) (R1 Z s μ x σ') s
noncomputable def JV(o:V)(σ:aj)(x:V)(σ':aj):Prop:=∀(Z:Cx) (A:Around) (s:Shared) (μ:List Addr) (ov:Value) (sl:Addr) (t:Tok),aU Z s.heap μ σ->aS Z.KF.aF s.heap μ o ov->s.heap.IsSliceOf sl .none .none (.int (-1) t)->pJ s ov/\Wp Z A (getItem ov (.ref sl)) (R1 Z s μ x σ') s
section
variable {s:Shared}{a b i j m:Nat}{d o:O}{k u v w y:V}{r:Option V}{n:Int}{xs ys args:List V}{t:List Nat}{h:Heap}
theorem ve:(2:Int) ^ 63=9223372036854775808:=by decide
theorem GK{n:Nat}(ha:s.heap.get? x=some (j5 vs n)):pJ s (.ref x):=⟨"tuple",_,⟨_,ha,rfl⟩,PySem.F.slot_tuple_getitem.lookup⟩
theorem uJ(ha:s.heap.IsList x vs.toArray):pJ s (.ref x):=⟨"list",_,ha.typeIs,PySem.F.slot_list_getitem.lookup⟩
theorem GS(h:dS n m=some j)(hj:j < m):seqIndex? n m=some j:=by
 unfold dS at h
 unfold seqIndex?
 split at h
 ·next h0=>
  obtain rfl:=Xs h
  simp only[Int.not_lt.mpr h0,if_false,show(decide (0<=n)&&decide (n < (m:Int)))=true by simp;lia,if_true]
 ·split at h
  ·next h0 h1=>
   obtain rfl:=Xs h
   simp only[Int.not_le.mp h0,if_true,show(decide (0<=n+(m:Int))&&decide (n+(m:Int) < (m:Int)))=true by simp;lia]
  ·exact bN h
theorem uv(hb:dz n):-(2:Int) ^ 63<=n/\n < 2 ^ 63:=by rw[ve];unfold dz bY at hb;lia
theorem c9(hb:dz n)(h:(dS n xs.length).bind (xs[·]?)=some v):Pr (nS (.t xs) (.i n) σ) v σ:=λZ A s μ ov iv R I ro ri=>by
 refine aT ri ?_;clear ri;intro t q1;subst q1
 obtain⟨a,vs,m,rfl,ha,_,hr⟩:=d6 ro
 refine az (Zw h) λj hj hx=>?_
 refine az (hr.get hx) λu hu ru=>?_
 exact bm (GK ha) (getItem_tuple (dJ ha) (uv hb).1 (uv hb).2 (GS (by rw[Yr,<-hr.length];exact hj) (XS hu).1) (by rw[Yz];exact hu) (.id I ru))
theorem dL(hs:σ[a]? =some (.l xs))(hb:dz n)(h:(dS n xs.length).bind (xs[·]?)=some v):Pr (nS (.r a) (.i n) σ) v σ:=λZ A s μ ov iv R I ro ri=>by
 refine aT ri ?_;clear ri;intro t q1;subst q1
 obtain⟨a,vs,m,_,rfl,ha,hr⟩:=iA I ro hs
 refine az (Zw h) λj hj hx=>?_
 refine az (hr.get hx) λu hu ru=>?_
 refine bm (uJ (dX ha)) ?_
 unfold dS at hj
 split at hj
 ·next c=>exact wpAny_getItem_list (dX ha) c (uv hb).2 (by rw[Xs hj,Yz];exact hu) (.id I ru)
 ·split at hj
  ·next c d=>exact wpAny_getItem_list_neg (dX ha) (Int.not_le.mp c) (by rw[Yr,<-hr.length];lia) (uv hb).1 (by rw[Yr,<-hr.length,Xs hj,Yz];exact hu) (.id I ru)
  ·exact bN hj
theorem SJ{c:Nat}(hb:dz n)(h:(dS n t.length).bind (t[·]?)=some c):Pr (nS (.s t) (.i n) σ) (.s [c]) σ:=λZ A s μ ov iv R I ro ri=>by
 refine aT ri ?_;clear ri;intro u q1;subst q1
 refine aT ro ?_;clear ro;intro u' q1;subst q1
 refine az (Zw h) λj hj hx=>?_
 exact bm (⟨"str",_,typeIs_str _ _ _,PySem.F.slot_str_getitem.lookup⟩) (PySem.P.getItem_str (c:=c) (by have:=uv hb;simp;exact this) (by
  rw[kT,GS hj (XS hx).1]
  refine(?_:(bp t).cps[j]? =some c)
  unfold bp;rw[Yz];exact hx) (.tX I))
theorem xL(h:0<=n):∃m:Nat,n=m:=⟨n.toNat,(Int.toNat_of_nonneg h).symm⟩
theorem uM(r:IntsAre vs ns):aR cl h μ (ns.map .i) vs:=by
 induction r with
 |nil=>rfl
 |cons n t _ ih=>exact dN _ _ rfl (⟨t,rfl⟩) ih
theorem Ue(I:aU Z s.heap μ σ)(ro:aS Z.KF.aF s.heap μ (.f xs) ov):∃a vs,ov=.ref a/\s.heap.IsList a vs.toArray/\aR Z.KF.aF s.heap μ xs vs:=by
 refine bc ro ?_;clear ro;intro q0 q1;subst q0;subst q1
 obtain⟨vs,h1,h2⟩:=I.kh
 exact dN _ vs rfl (h1.at λo=>I.dM _ o) (uM h2)
theorem pf(h0:1<=n/\n<=xs.length)(hl:aD xs):Pr (tj (.t xs) (some (.i n)) Option.none σ) (.t (xs.drop n.toNat)) σ:=λZ A s μ ov l u sl I ro rl ru hs=>by
 refine aT rl ?_;clear rl;intro t q1;subst q1
 obtain rfl:u=.none:=ru
 obtain⟨a,vs,m,rfl,ha,_,hr⟩:=d6 ro
 refine aT (xL (Int.le_trans (by decide) h0.1)) λn q1=>?_;subst q1
 exact bm (GK ha) (getItem_tuple_from (dJ ha) hs (Int.ofNat_le.mp h0.1) (by rw[Yr,<-hr.length];exact Int.ofNat_le.mp h0.2) (BE I (by have:=hr.Eg n;simpa using this)) (lH hr hl))
theorem QU(I:aU Z s.heap μ σ){a:Addr}(ha:s.heap.IsList a vs.toArray)(hr:aR Z.KF.aF s.heap μ xs vs)(h0:0<=n/\n<=bY)(hl:aD xs){t:Tok}{sl:Addr}(hs:s.heap.IsSliceOf sl (.int n t) .none .none):Wp Z A (getItem (.ref a) (.ref sl)) (R1 Z s μ (.r σ.length) (σ++[.l (xs.drop n.toNat)])) s:=by
 refine aT (xL h0.1) λn q1=>?_;subst q1
 refine wpAny_getItem_list_slice ha hs (.int _ _) .none .none (by simp) ?_ (lH hr hl)
 rw[slicePick_from']
 exact uV I (by have:=hr.Eg n;simpa using this)
theorem HJ(I:aU Z s.heap μ σ){a:Addr}(ha:s.heap.IsList a vs.toArray)(hr:aR Z.KF.aF s.heap μ xs vs)(h0:0<=n/\n<=bY)(hl:aD xs){t:Tok}{sl:Addr}(hs:s.heap.IsSliceOf sl .none (.int n t) .none):Wp Z A (getItem (.ref a) (.ref sl)) (R1 Z s μ (.r σ.length) (σ++[.l (xs.take n.toNat)])) s:=by
 refine aT (xL h0.1) λn q1=>?_;subst q1
 refine wpAny_getItem_list_slice ha hs .none (.int _ _) .none (by simp) ?_ (lH hr hl)
 rw[slicePick_upto']
 exact uV I (by have:=hr.Eh n;simpa using this)
theorem sT(ha:σ[a]? =some (.l xs))(h0:0<=n/\n<=bY)(hl:aD xs):Pr (tj (.r a) (some (.i n)) Option.none σ) (.r σ.length) (σ++[.l (xs.drop n.toNat)]):=λZ A s μ ov l u sl I ro rl ru hs=>by
 refine aT rl ?_;clear rl;intro t q1;subst q1
 obtain rfl:u=.none:=ru
 obtain⟨x,vs,m,_,rfl,ha,hr⟩:=iA I ro ha
 exact bm (uJ (dX ha)) (QU I (dX ha) hr h0 hl hs)
theorem IX(ha:σ[a]? =some (.l xs))(h0:0<=n/\n<=bY)(hl:aD xs):Pr (tj (.r a) Option.none (some (.i n)) σ) (.r σ.length) (σ++[.l (xs.take n.toNat)]):=λZ A s μ ov l u sl I ro rl ru hs=>by
 refine aT ru ?_;clear ru;intro t q1;subst q1
 obtain rfl:l=.none:=rl
 obtain⟨x,vs,m,_,rfl,ha,hr⟩:=iA I ro ha
 exact bm (uJ (dX ha)) (HJ I (dX ha) hr h0 hl hs)
theorem SK(h0:0<=n/\n<=bY)(hl:aD xs):Pr (tj (.f xs) Option.none (some (.i n)) σ) (.r σ.length) (σ++[.l (xs.take n.toNat)]):=λZ A s μ ov l u sl I ro rl ru hs=>by
 refine aT ru ?_;clear ru;intro t q1;subst q1
 obtain rfl:l=.none:=rl
 refine cO (Ue I ro) λa vs q2 ha hr=>?_;subst q2
 exact bm (uJ ha) (HJ I ha hr h0 hl hs)
theorem Cf(ha:σ[a]? =some (.l xs))(hl:aD xs):Pr (JV (.r a) σ) (.r σ.length) (σ++[.l xs.reverse]):=λZ A s μ ov sl t I ro hs=>by
 obtain⟨x,vs,m,_,rfl,ha,hr⟩:=iA I ro ha
 refine bm (uJ (dX ha)) (wpAny_getItem_list_slice (dX ha) hs .none .none (.int _ _) (by decide) ?_ (lH hr hl))
 rw[krv_pick]
 exact uV I (by have:=hr.reverse;simpa using this)
theorem Kx(I:aU Z s.heap μ σ)(hx:μ[i]? =some x)(hs:σ[i]? =some (.l xs)){n:Nat}(hb:∀b q,b≠x->s.heap.get? b=some q->h'.get? b=some q)(hD:h'.get? x=some (ir us n))(hr:aR Z.KF.aF s.heap μ ys us)(t:Nat):br Z s μ {s with heap:=h',toks:=t} μ (σ.set i (.l ys)):=
 have k:=I.y7 (o':=.l ys) hx hs rfl (λ_ q=>nomatch q) hb ⟨_,hD⟩ (λe=>⟨us,n,hD,hr.lh e⟩) λq=>bE q
 ⟨⟨rfl,rfl,rfl⟩,k.1,k.2⟩
theorem xE(I:aU Z s.heap μ σ)(hx:μ[i]? =some x)(hs:σ[i]? =some (.l xs)){n:Nat}(ha:s.heap.get? x=some (ir vs n)){f:Array Value->Array Value}(hf:f vs.toArray=us.toArray)(hr:aR Z.KF.aF s.heap μ ys us)(t:Nat):
  br Z s μ {s with heap:=s.heap.update x (Obj.mapSeq f),toks:=t} μ (σ.set i (.l ys)):=by
 have h:=get?_update_seq (c:="list") (xs:=vs.toArray) (n:=n) ha f
 rw[hf]at h
 exact Kx I hx hs (λb q hb hq=>(Heap.get?_update_other _ _ (λe=>hb e.symm)).trans hq) h hr t
theorem xG(hs:σ[a]? =some (.l xs))(h:∀(Z:Cx) (A:Around) (s:Shared) (μ:List Addr) (x:Addr) (us vs:List Value) (n:Nat),aU Z s.heap μ σ->μ[a]? =some x->s.heap.get? x=some (ir us n)->aR Z.KF.aF s.heap μ xs us->aR Z.KF.aF s.heap μ args vs->Wp Z A (call (.builtin (o7 1 m)) (.ref x::vs)) (R1 Z s μ y σ') s):dB m (.r a) args σ y σ':=
 λZ A s μ ov vs S R I ro r=>by
  obtain⟨x,us,n,hx,rfl,ha,hr⟩:=iA I ro hs
  rw[uT hs];exact h Z A s μ x us vs n I hx ha hr r
theorem pd(ha:σ[a]? =some (.l xs))(h:aD xs):Pr (dB 0 (.r a) [v] σ) .n (σ.set a (.l (xs++[v]))):=xG ha λZ A s μ x us vs n I hx ho hr r=>
 nE (M:=λvs=>Wp Z A (call (.builtin "list.append") (.ref x::vs)) (R1 Z s μ .n (σ.set a (.l (xs++[v])))) s) r λu ru=>
  call_meets PySem.F.slot_list_append ⟨_,ho,rfl⟩ PySem.F.entry_list_append (PySem.F.args_list_append_2 _ _) (PySem.list_append x us.toArray n u (lH hr h)) ⟨ho,μ,xE I hx ha ho (f:=(·.push u)) (us:=us++[u]) (List.push_toArray us u) (hr.append (zz ru)) _,rfl⟩
theorem F0(h:aD (xs++ys))(h1:aR Z.KF.aF s.heap μ xs us)(h2:aR Z.KF.aF s.heap μ ys vs):(Builtin.List.listTooLong (us.toArray.size+vs.toArray.size)=false)/\us.toArray.size<=sizeLine/\us.toArray.size+vs.toArray.size<=sizeLine:=by
 have e:us.toArray.size+vs.toArray.size<=1000000:=by rw[Yr,Yr,<-h1.length,<-h2.length,<-Xn];exact h
 unfold Builtin.List.listTooLong
 rw[sizeLine_eq]
 exact fy (XU (by lia)) (bT (bP e rfl)) (bP e rfl)
theorem IQ(ha:σ[a]? =some (.l xs))(hb:σ[b]? =some (.l ys))(hn:a≠b)(h:aD (xs++ys)):Pr (dB 1 (.r a) [.r b] σ) .n (σ.set a (.l (xs++ys))):=xG ha λZ A s μ x us vs n I hx ho hr r=>
 nE (M:=λvs=>Wp Z A (call (.builtin "list.extend") (.ref x::vs)) (R1 Z s μ .n (σ.set a (.l (xs++ys)))) s) r λu ru=>by
  obtain⟨z,ws,m,_,rfl,hz,hr2⟩:=iA I ru hb
  have e:=F0 h hr hr2
  exact call_meets PySem.F.slot_list_extend ⟨_,ho,rfl⟩ PySem.F.entry_list_extend (PySem.F.args_list_extend_2 _ _) (AutoSeq1.list_extend_list_list_0 x us.toArray n z ws.toArray m (by rw[e.1,Bool.and_false];exact Yy) e.2.1 (YO e.2.2)) ⟨ho,hz,μ,xE I hx ha ho (us:=us++ws) (List.append_toArray ..) (hr.append hr2) _,rfl⟩
theorem Sj(ha:σ[a]? =some (.l xs))(h:aD (xs++ys)):Pr (dB 1 (.r a) [.t ys] σ) .n (σ.set a (.l (xs++ys))):=xG ha λZ A s μ x us vs n I hx ho hr r=>
 nE (M:=λvs=>Wp Z A (call (.builtin "list.extend") (.ref x::vs)) (R1 Z s μ .n (σ.set a (.l (xs++ys)))) s) r λu ru=>by
  obtain⟨z,ws,m,rfl,hz,_,hr2⟩:=d6 ru
  have e:=F0 h hr hr2
  exact call_meets PySem.F.slot_list_extend ⟨_,ho,rfl⟩ PySem.F.entry_list_extend (PySem.F.args_list_extend_2 _ _) (AutoSeq1.list_extend_list_tuple_0 x us.toArray n z ws.toArray m (by rw[e.1,Bool.and_false];exact Yy) e.2.1 (YO e.2.2)) ⟨ho,hz,μ,xE I hx ha ho (us:=us++ws) (List.append_toArray ..) (hr.append hr2) _,rfl⟩
theorem Ce(ha:σ[a]? =some (.l xs))(hv:xs.getLast? =some v)(h:aD xs):Pr (dB 2 (.r a) [] σ) v (σ.set a (.l xs.dropLast)):=xG ha λZ A s μ x us vs n I hx ho hr r=>
 B3 (M:=λvs=>Wp Z A (call (.builtin "list.pop") (.ref x::vs)) (R1 Z s μ v (σ.set a (.l xs.dropLast))) s) r (by
  rw[List.getLast?_eq_getElem?]at hv
  refine az (hr.get hv) λu hu ru=>?_
  rw[hr.length]at hu
  have st:=xE I hx ha ho (f:=λxs:Array Value=>xs.eraseIdxIfInBounds (us.toArray.size - 1)) (us:=us.dropLast) (by
   have hlt:us.length - 1 < us.length:=(XS hu).1
   apply Array.ext'
   simp only[Yr,Array.eraseIdxIfInBounds,hlt,dite_true,Array.toList_eraseIdx]
   rw[List.eraseIdx_eq_take_drop_succ,List.drop_of_length_le (by exact qGu),Yb,List.dropLast_eq_take]) hr.M3 s.toks
  exact call_meets PySem.F.slot_list_pop ⟨_,ho,rfl⟩ PySem.F.entry_list_pop (PySem.F.args_list_pop_1 _) (MeetsSeq.list_pop_last x us.toArray n u (by rw[Yr,Yz];exact hu) (lH hr h)) ⟨ho,μ,st,ru.cE st.bJ⟩)
end
noncomputable def zX:Bl->Value
 | .l=>.builtin "len"
 | .t=>.type "tuple"
 | .s=>.builtin "sum"
 | .o=>.builtin "sorted"
 | .r=>.builtin "sorted"
 | .i=>.type "int"
 | .b=>.builtin "abs"
 | .a=>.type "str"
 | .m=>.builtin "max"
 | .c=>.type "list"
 | .S=>.builtin "isinstance"
 | .z=>.type "zip"
noncomputable def Bj(x:V)(σ:aj)(r:Bool):Prop:=∀(Z:Cx) (A:Around) (s:Shared) (μ:List Addr) (v:Value),aU Z s.heap μ σ->aS Z.KF.aF s.heap μ x v->Wp Z A (call (.builtin "isinstance") [v,.type "str"]) (R1 Z s μ (.b r) σ) s
noncomputable def J9(x:V)(σ:aj)(y:V)(σ':aj):Prop:=∀(Z:Cx) (A:Around) (s:Shared) (μ:List Addr) (v:Value),Rq A->aU Z s.heap μ σ->aS Z.KF.aF s.heap μ x v->
 Wp Z A (call (.type "set") [v]) (λsv s₁=>(∀b o,Z.cS.get? b=some o->s₁.heap.get? b=some o)/\Wp Z A (call (.builtin "sorted") [sv]) (R1 Z s μ y σ') s₁) s
noncomputable def ik(b:Bl)(args:List V)(σ:aj)(x:V)(σ':aj):Prop:=gu (zX b) args σ x σ'
section
variable {s:Shared}{a b i j m:Nat}{k u v w y:V}{f:Value}{n:Int}{xs ys args:List V}{p t:List Nat}{h:Heap}{is:List Int}
theorem gu.mI(h:∀(Z:Cx) (A:Around) (s:Shared) (μ:List Addr) (v:Value),Rq A->aU Z s.heap μ σ->aS Z.KF.aF s.heap μ k v->Wp Z A (call f [v]) (R1 Z s μ y σ') s):gu f [k] σ y σ':=λZ A s μ vs S R I r=>
 nE (M:=λvs=>Wp Z A (call f vs) (R1 Z s μ y σ') s) r λv rv=>h Z A s μ v R I rv
theorem rd(hs:σ[a]? =some (.l xs))(h:∀(Z:Cx) (A:Around) (s:Shared) (μ:List Addr) (x:Addr) (us:List Value) (n:Nat),Rq A->aU Z s.heap μ σ->s.heap.get? x=some (ir us n)->aR Z.KF.aF s.heap μ xs us->Wp Z A (call f [.ref x]) (R1 Z s μ y σ') s):gu f [.r a] σ y σ':=
 .mI λZ A s μ v R I r=>by obtain⟨x,us,n,hx,rfl,ha,hr⟩:=iA I r hs;exact h Z A s μ x us n R I ha hr
theorem xu(xs:List V):∀{vs:List Value} {is:List Int},aR cl h μ xs vs->jy xs=some is->IntsAre vs is:=by
 induction xs with
 |nil=>intro vs is r e;obtain rfl:vs=[]:=r;exact Xs e▸.nil
 |cons y xs ih=>
  intro vs is r e
  refine cO r ?_;clear r;intro v q q2 h1 h2;subst q2
  rcases y with _ |_ |m |_ |_ |_ |_ |_<;>first |exact bN e |skip
  refine az (YE e) λl hl q2=>?_;subst q2
  refine aT h1 ?_;clear h1;intro t q1;subst q1
  exact .cons _ t (ih h2 hl)
theorem GV(x:Int)(l:List Int):(nh x l).Perm (x::l):=by
 induction l with
 |nil=>exact .refl _
 |cons y ys ih=>
  rw[xq]
  split
  ·exact .refl _
  ·exact(ih.cons y).trans (.swap x y ys)
theorem Un(l:List Int):(iP l).Perm l:=by
 induction l with
 |nil=>exact .refl _
 |cons x xs ih=>exact(GV x _).trans (ih.cons x)
theorem P9(x:Int)(l:List Int)(h:l.Pairwise (· <=·)):(nh x l).Pairwise (· <=·):=by
 induction l with
 |nil=>exact List.pairwise_singleton ..
 |cons y ys ih=>
  have h1:=List.pairwise_cons.mp h
  rw[xq]
  split
  ·next c=>exact List.pairwise_cons.mpr ⟨λa ha=>(XC ha).elim (λe=>e▸c) λq=>Int.le_trans c (h1.1 a q),h⟩
  ·next c=>exact List.pairwise_cons.mpr ⟨λa ha=>(XC ((GV x ys).mem_iff.mp ha)).elim (λe=>e▸Int.le_of_lt (Int.not_le.mp c)) (h1.1 a),ih h1.2⟩
theorem Uo(l:List Int):(iP l).Pairwise (· <=·):=by
 induction l with
 |nil=>exact .nil
 |cons x xs ih=>exact P9 x _ ih
theorem J8{l m:List Int}(hp:m.Perm l)(hs:m.Pairwise (· <=·)):m=iP l:=
 (hp.trans (Un l).symm).eq_of_pairwise (λa b _ _ h1 h2=>Int.le_antisymm h1 h2) hs (Uo l)
theorem Q3(l:List Int):∀m:Int,o6 m l∈m::l:=by
 induction l with
 |nil=>exact λm=>Yg rfl
 |cons x xs ih=>
  intro m
  show o6 (if x > m then x else m) xs∈_
  rcases XC (ih (if x > m then x else m))with h |h
  ·rw[h];split
   ·exact XA _ (Xz ..)
   ·exact Xz ..
  ·exact XA _ (XA _ h)
theorem Q1(l:List Int):∀m:Int,∀a∈m::l,a<=o6 m l:=by
 induction l with
 |nil=>exact λm a h=>Int.le_of_eq (Xy h)
 |cons x xs ih=>
  intro m a ha
  show a<=o6 (if x > m then x else m) xs
  have h0:=ih (if x > m then x else m) _ (Xz ..)
  rcases XC ha with e |ha
  ·refine Int.le_trans ?_ h0;rw[e];split
   ·next c=>exact Int.le_of_lt c
   ·exact Int.le_refl _
  ·rcases XC ha with e |ha
   ·refine Int.le_trans ?_ h0;rw[e];split
    ·exact Int.le_refl _
    ·next c=>exact Int.not_lt.mp c
   ·exact ih _ a (XA _ ha)
theorem GW(hi:IntsAre vs is):∃xs:Array (Int×Tok),vs.toArray=intItems xs/\is=xs.toList.map (·.1):=by
 obtain⟨xs,hx⟩:=hi.allInts.items
 exact aC xs hx (by rw[<-nums_intItems,<-hx];exact(show numsOf vs.toArray.toList=is from hi.numsOf).symm)
theorem xY(ha:σ[a]? =some (.l xs))(hi:jy xs=some is)(hl:aD xs)(hb:∀i∈is,0<=i/\i<=bY):Pr (ik .s [.r a] σ) (.i is.sum) σ:=rd ha λZ A s μ x us m R I ho hr=>by
 refine az (GW (xu xs hr hi)) λas hx hn=>?_
 refine sum_intListG R.Wf (hx▸dX ho) λh' tk t' hk=>?_
 rw[preSum_eq,List.take_of_length_le (by simp),<-hn]
 exact⟨μ,iH I hk tk,t',rfl⟩
theorem Su(ha:σ[a]? =some (.l xs)){i:Int}(hi:jy xs=some (i::is))(hl:aD xs):Pr (ik .m [.r a] σ) (.i (o6 i is)) σ:=rd ha λZ A s μ x us m R I ho hr=>by
 refine az (GW (xu xs hr hi)) λas hx hn=>?_
 have hsz:as.size=is.length+1:=by have:=Xu List.length hn;rw[Xk,Zj]at this;exact this.symm
 refine max_intList R.Wf (hx▸dX ho) (hsz▸Y6 _) λu h' tk hu hk=>?_
 refine aT (intItems_at hu) λt q1=>?_;subst q1
 refine bc (argBest_gt (numAt as) (as.size - 1)) λh1 h2=>?_
 have e:numAt as (argBest (λi j=>decide (numAt as i > numAt as j)) (as.size - 1))=o6 i is:=by
  apply Int.le_antisymm
  ·refine Q1 is i _ ?_
   rw[hn,numAt_eq];exact getD_mem (by rw[Xk,Zj];exact qG9 h1 hsz)
  ·refine az (mem_getD (Q3 is i)) λj hj hm=>?_
   rw[hn]at hj hm
   rw[Xk,Zj]at hj
   rw[<-hm,<-numAt_eq];exact h2 j (qGa hj)
 rw[e]
 exact⟨μ,iH I hk tk,t,rfl⟩
theorem Cg(ha:σ[a]? =some (.l xs))(hi:jy xs=some is)(h64:xs.length < 64):Pr (ik .o [.r a] σ) (.r σ.length) (σ++[.l ((iP is).map .i)]):=rd ha λZ A s μ x us m R I ho hr=>by
 refine sorted_ints (dX ho) (xu xs hr hi) (by rw[<-hr.length];exact h64) λout ns' ho hp ho'=>?_
 obtain rfl:=J8 hp ho'
 refine aT (sortedAll_at s.heap us out) λe he=>?_
 exact uW (n:=e) (vs:=out.toList) I (uM ho) (λb o hb=>sortedAll_old hb) (my (Yj _)) (by rw[he])
theorem Hu(hr:aR cl h μ xs vs)(hl:aD xs):(vs.toArray.size:Int) < 2 ^ 63:=by rw[Yr,<-hr.length,ve];unfold aD aK at hl;lia
theorem xX(hl:aD xs):Pr (ik .l [.t xs] σ) (.i xs.length) σ:=gu.mI λZ A s μ v R I r=>by
 obtain⟨a,us,n,rfl,ha,_,hr⟩:=d6 r
 exact PyProof.Rows.len_tuple (dJ ha) (Hu hr hl) (by rw[Yr,<-hr.length];exact .jL I)
theorem fB(ha:σ[a]? =some (.l xs))(hl:aD xs):Pr (ik .l [.r a] σ) (.i xs.length) σ:=rd ha λZ A s μ x us m R I ho hr=>
 PyProof.Rows.len_list (dX ho) (Hu hr hl) (by rw[Yr,<-hr.length];exact .jL I)
theorem VG(hl:aD p):Pr (ik .l [.s p] σ) (.i p.length) σ:=gu.mI λZ A s μ v R I ⟨t,e⟩=>by
 subst e
 exact PySem.P.len_str (by rw[kT,ve];unfold aD aK at hl;lia) (by rw[kT];exact .jL I)
theorem SL:Pr (ik .t [.t xs] σ) (.t xs) σ:=gu.mI λZ A s μ v R I r=>by
 obtain⟨a,us,n,rfl,ha,_,hr⟩:=d6 r
 exact call_tuple_tup (dJ ha) (.id I r)
theorem j2(ha:σ[a]? =some (.l xs))(hl:aD xs):Pr (ik .t [.r a] σ) (.t xs) σ:=rd ha λZ A s μ x us m R I ho hr=>
 call_tuple_list (dX ho) (λh' hk=>HW (n:=0) I hr (λb o hb=>XG _ (hk b o hb)) (Zx λo hg=>YQ _ (Ym (hk _ _ hg))) (XZ _ rfl)) (lH hr hl)
theorem IT(ha:σ[a]? =some (.l xs))(hl:aD xs):Pr (ik .c [.r a] σ) (.r σ.length) (σ++[.l xs]):=rd ha λZ A s μ x us m R I ho hr=>
 call_list_seq x (T:="list") (.inl rfl) ho rfl rfl (λh' c' hk hD=>uW (n:=c') I hr hk iB hD) (lH hr hl)
theorem So:Pr (ik .i [.i n] σ) (.i n) σ:=gu.mI λZ A s μ v R I ⟨t,e⟩=>e▸call_int_int (.id I ⟨t,rfl⟩)
theorem IR{r:Bool}:Pr (ik .i [.b r] σ) (.i (if r then 1 else 0)) σ:=gu.mI λZ A s μ v R I e=>by obtain rfl:v=.bool r:=e;exact call_int_bool (.jL I)
theorem Sh:Pr (ik .b [.i n] σ) (.i n.natAbs) σ:=gu.mI λZ A s μ v R I ⟨t,e⟩=>by
 subst e
 exact call_abs_int λu tk=>(show(if n < 0 then -n else n)=(n.natAbs:Int) by lia)▸.jL I
theorem SD(hk:dz n):Pr (ik .a [.i n] σ) (.s (FG n)) σ:=gu.mI λZ A s μ v R I ⟨t,e⟩=>by
 subst e
 refine PySem.P.str_of_int ?_ (.ku I ⟨s.toks,Xu (Value.str · s.toks) (UD _).symm⟩)
 by_cases h0:n=0
 ·subst h0;decide
 ·refine(Nat.log2_lt (qGi h0)).mpr (XB (m:=2 ^ 64) ?_ (Nat.pow_le_pow_right (by decide) (by decide)))
  unfold dz bY at hk;lia
theorem Sq:Bj (.s p) σ true:=λZ A s μ v I ⟨t,e⟩=>e▸PySem.IsiPair.str_str (.kq I)
theorem Sp(ha:σ[a]? =some (.l xs)):Bj (.r a) σ false:=λZ A s μ v I rv=>by
 obtain⟨x,us,n,_,rfl,ha,hr⟩:=iA I rv ha
 exact PySem.IsiPair.list_str ha rfl (.kq I)
theorem CK(xs:List V):∀{vs:List Value} {ws:List (List Nat)},aR cl h μ xs vs->jB xs=some ws->StrsAre vs (ws.map bp):=by
 induction xs with
 |nil=>intro vs is r e;obtain rfl:vs=[]:=r;exact Xs e▸.nil
 |cons y xs ih=>
  intro vs is r e
  refine cO r ?_;clear r;intro v q q2 h1 h2;subst q2
  rcases y with _ |_ |_ |m |_ |_ |_ |_<;>first |exact bN e |skip
  refine az (YE e) λl hl q2=>?_;subst q2
  refine aT h1 ?_;clear h1;intro t q1;subst q1
  exact .cons _ t (ih h2 hl)
theorem xH(h:∀(Z:Cx) (A:Around) (s:Shared) (μ:List Addr) (t:Tok) (vs:List Value),aU Z s.heap μ σ->aR Z.KF.aF s.heap μ args vs->Wp Z A (call (.builtin (o7 4 m)) (.str (bp p) t::vs)) (R1 Z s μ y σ') s):dB m (.s p) args σ y σ':=
 λZ A s μ ov vs S R I ⟨t,e⟩ r=>by subst e;exact h Z A s μ t vs I r
theorem PW(sep:List Nat)(ws:List (List Nat)):Builtin.Str.glued (bp sep) (ws.map bp)=bp (cy sep ws):=by
 have key:∀(ws:List (List Nat)) (acc:Array Nat),((ws.map bp).foldl (λ(acc:Array Nat) (p:Str)=>acc++(bp sep).cps++p.cps) acc)=acc++(match ws with | []=>#[] |w::r=>(sep++cy sep (w::r)).toArray):=by
  intro ws
  induction ws with
  |nil=>intro acc;simp
  |cons w r ih=>
   intro acc
   rw[Xw,List.foldl_cons,ih]
   cases r with
   |nil=>simp[bp,oX]
   |cons a b=>simp[bp,qy]
 unfold Builtin.Str.glued
 cases ws with
 |nil=>simp[Bo,bp,Str.empty]
 |cons w r=>
  rw[Xw,List.drop_one,List.tail_cons,key]
  cases r with
  |nil=>simp[oX,bp]
  |cons a b=>simp[qy,bp]
theorem Ql(sep:List Nat)(ws:List (List Nat)):∀w,(ws.map λw=>w.length+sep.length).sum+w.length<=(cy sep (w::ws)).length:=by
 induction ws with
 |nil=>intro w;exact XW (Nat.zero_add _)
 |cons a b ih=>
  intro w
  refine(?_:_<=(w++sep++cy sep (a::b)).length)
  have:=ih a
  rw[Xw,Yk,Xn,Xn];lia
theorem PN(sep:Str)(ws:List (List Nat)):∀k:Nat,(ws.map bp).foldl (λa (p:Str)=>a+p.length+sep.length) k=k+(ws.map λw=>w.length+sep.length).sum:=by
 induction ws with
 |nil=>exact λk=>rfl
 |cons w r ih=>intro k;rw[Xw,List.foldl_cons,ih,kT,Xw,Yk];lia
theorem UK{ss:List Str}(h:StrsAre vs ss):∃l:List (Str×Tok),vs=strValues l/\l.map (·.1)=ss:=by
 induction h with
 |nil=>exact aC ([]) rfl rfl
 |cons y t _ ih=>refine az ih ?_;clear ih;intro l h1 h2;exact aC ((y,t)::l) (h1▸rfl) (h2▸rfl)
theorem Qm(ws:List (List Nat))(h2:aD p)(h3:aD (cy p ws)):JoinOk (bp p) (ws.map bp):=by
 unfold JoinOk
 have e:((ws.map bp).toArray.foldl (λa (q:Str)=>a+q.length+(bp p).length) 0)<=2 * aK:=by
  rw[List.foldl_toArray' _ _ _ rfl,PN,kT]
  unfold aD at h2 h3
  cases ws with
  |nil=>exact Xo _
  |cons w r=>have:=Ql p r w;rw[Xw,Yk];lia
 rw[Bool.not_eq_true']
 unfold Builtin.Str.tooLong
 rw[sizeLine_eq]
 unfold aK at e
 exact XU (by lia)
theorem IS(ha:σ[a]? =some (.l xs)){ws:List (List Nat)}(hw:jB xs=some ws)(h1:aD xs)(h2:aD p)(h3:aD (cy p ws)):Pr (dB 5 (.s p) [.r a] σ) (.s (cy p ws)) σ:=xH λZ A s μ t vs I r=>
 nE (M:=λvs=>Wp Z A (call (.builtin "str.join") (.str (bp p) t::vs)) (R1 Z s μ (.s (cy p ws)) σ) s) r λv rv=>by
  obtain⟨x,us,n,_,rfl,ho,hr⟩:=iA I rv ha
  refine az (UK (CK xs hr hw)) λl q1 hl=>?_;subst q1
  exact SC.join (dX ho) hl (Qm ws h2 h3) λt' k=>(show Txt.join (bp p) (ws.map bp)=bp (cy p ws) from PW p ws)▸.tX I
theorem OB(c:Nat)(l:List Nat):cnt c l=(l.count c:Int):=by
 induction l with
 |nil=>rfl
 |cons a l ih=>
  rw[cnt_cons,ih,List.count_cons]
  by_cases h:a=c<;>simp[h]<;>lia
theorem Si{c:Nat}(hl:aD p):Pr (dB 6 (.s p) [.s [c]] σ) (.i (p.count c)) σ:=xH λZ A s μ t vs I r=>
 nE (M:=λvs=>Wp Z A (call (.builtin "str.count") (.str (bp p) t::vs)) (R1 Z s μ (.i (p.count c)) σ) s) r λv rv=>by
  refine aT rv ?_;clear rv;intro t' q1;subst q1
  exact SC.count ((show Txt.count (bp p) (bp [c])=(p.count c:Int) from(count_is (bp p) c).trans (OB c p))▸.jL I)
theorem Sr:Pr (dB 8 (.s p) [] σ) (.b (!p.isEmpty&&p.all kI)) σ:=xH λZ A s μ t vs I r=>
 B3 (M:=λvs=>Wp Z A (call (.builtin "str.isspace") (.str (bp p) t::vs)) (R1 Z s μ (.b (!p.isEmpty&&p.all kI)) σ) s) r
  (SC.isspace ((show Txt.isspace (bp p)=(!p.isEmpty&&p.all kI) by
   unfold Txt.isspace
   rw[kT,show decide (p.length > 0)= !p.isEmpty by cases p<;>simp]
   congr 1
   simp[bp,kI]
   rfl)▸.kq I))
theorem UF(h1:∃c r,p=c::r/\kI c=false)(h2:∃c r,p=r++[c]/\kI c=false):Txt.strip (bp p)=bp p:=by
 unfold Txt.strip Txt.stripBy
 rw[Xr]
 refine dY h1 ?_;clear h1;intro c r hc hcw
 refine dY h2 ?_;clear h2;intro d r2 hd hdw
 have e1:stripLo Unicode.isSpace true (bp p)=0:=by
  unfold stripLo
  rw[Xr rfl,Kd,hc,List.takeWhile_cons,Xv (by rw[show Unicode.isSpace c=kI c from rfl,hcw];exact Yy)]
  rfl
 have e2:stripHi Unicode.isSpace true (bp p) 0=(bp p).length:=by
  unfold stripHi
  rw[Xr rfl,Kd,List.drop_zero,hd,List.reverse_append,List.reverse_singleton,List.singleton_append,List.takeWhile_cons,Xv (by rw[show Unicode.isSpace d=kI d from rfl,hdw];exact Yy)]
  rfl
 unfold stripSame
 rw[e1,e2];simp
theorem SG(hl:aD p)(h1:∃c r,p=c::r/\kI c=false)(h2:∃c r,p=r++[c]/\kI c=false):Pr (dB 7 (.s p) [] σ) (.s p) σ:=xH λZ A s μ t vs I r=>
 B3 (M:=λvs=>Wp Z A (call (.builtin "str.strip") (.str (bp p) t::vs)) (R1 Z s μ (.s p) σ) s) r
  (SC.strip (λt' k=>(UF h1 h2).symm▸.tX I) (by rw[kT];exact ki hl))
end
theorem Qe(p:List Nat)(s:List Nat):gd p s=true↔∃i,i+p.length<=s.length/\(s.drop i).take p.length=p:=by
 induction s with
 |nil=>exact List.isEmpty_iff.trans ⟨λh=>⟨0,by rw[h];exact bm (Xp _) rfl⟩,λ⟨i,h,_⟩=>Zf (Nat.le_zero.mp (Xl (YJ ..) h))⟩
 |cons c r ih=>
  refine(?_:(p.isPrefixOf (c::r)||gd p r)=true↔_)
  rw[Bool.or_eq_true,List.isPrefixOf_iff_prefix,ih,List.prefix_iff_eq_take]
  constructor
  ·rintro(h | ⟨i,h1,h2⟩)
   ·exact aC 0 (by have:=Xu List.length h;rw[List.length_take]at this;exact qGb this) h.symm
   ·exact aC (i+1) (by rw[Xq];exact hX (qO h1)) h2
  ·rintro⟨i,h1,h2⟩
   rcases i with _ |j
   ·exact .inl h2.symm
   ·exact .inr ⟨j,by rw[Xq]at h1;exact jc (hX h1),h2⟩
theorem PP(s p:List Nat):(!(Builtin.Str.occurrences (bp s) (bp p) 0 (bp s).length 1).isEmpty)=gd p s:=by
 rw[Bool.eq_iff_iff,StrLaws.found_iff,Qe,kT,kT]
 refine exists_congr λi=>and_congr_right λ_=>?_
 unfold Builtin.Str.subAt
 rw[kT]
 refine(?_:((s.toArray.extract i (i+p.length))==p.toArray)=true↔_)
 rw[beq_iff_eq]
 constructor
 ·intro h
  have:=Xu Array.toList h
  simpa using this
 ·intro h
  apply Array.ext'
  simpa using h
section
variable {s:Shared}{i j m:Nat}{a b k u v w y:V}{f:Value}{n:Int}{xs ys args:List V}{p t:List Nat}{h:Heap}{is:List Int}{r:Bool}{op:pA}
theorem N'(p:List Nat)(ws:List (List Nat)):(ws.map bp).any (· ==bp p)=ws.contains p:=by
 induction ws with
 |nil=>rfl
 |cons a l ih=>
  rw[Xw,List.any_cons,List.contains_cons,ih,show(bp a==bp p)=(p==a) from Bool.eq_iff_iff.mpr (by rw[beq_iff_eq,beq_iff_eq];exact⟨λq=>(nR q).symm,λq=>Xu bp q.symm⟩)]
theorem P5{M:Bool->Prop}(he:xp σ a b=some r)(h1:∀p s,a=.s p->b=.s s->M (gd p s))(h2:∀p ys ws,a=.s p->b=.t ys->jB ys=some ws->M (ws.contains p))(h3:∀j o q,b=.r j->σ[j]? =some o->fu o a=some q->M q.isSome):M r:=by
 rcases b with _ |_ |_ |s |ys |j |_ |_<;>first |exact bN he |skip
 ·rcases a with _ |_ |_ |p |_ |_ |_ |_<;>first |exact bN he |skip
  exact Xs he▸h1 p s rfl rfl
 ·rcases a with _ |_ |_ |p |_ |_ |_ |_<;>first |exact bN he |skip
  refine az (YE he) λws hw e=>?_
  exact e▸h2 p ys ws rfl rfl hw
 ·refine az (Zw he) λo ho he=>?_
  refine az (YE he) λq hq e=>?_
  exact e▸h3 j o q rfl ho hq
theorem GT(R:Rq A)(I:aU Z s.heap μ σ)(ra:aS Z.KF.aF s.heap μ a va)(rb:aS Z.KF.aF s.heap μ b vb)(he:xp σ a b=some r):Wp Z A (compareOp .In va vb) (R1 Z s μ (.b r) σ) s/\Wp Z A (compareOp .NotIn va vb) (R1 Z s μ (.b (!r)) σ) s:=
 P5 (M:=λr=>Wp Z A (compareOp .In va vb) (R1 Z s μ (.b r) σ) s/\Wp Z A (compareOp .NotIn va vb) (R1 Z s μ (.b (!r)) σ) s) he
  (λp t e1 e2=>by
   subst e1 e2
   refine aT ra ?_;clear ra;intro _ q1;subst q1
   refine aT rb ?_;clear rb;intro _ q1;subst q1
   rw[<-PP]
   exact bm (PyProof.Rows.in_str (.kq I)) (PyProof.Rows.notIn_str (.kq I)))
  (λp ys ws e1 e2 hw=>by
   subst e1 e2
   refine aT ra ?_;clear ra;intro _ q1;subst q1
   obtain⟨z,ws,m,rfl,hz,_,hr⟩:=d6 rb
   rw[<-N']
   exact bm (in_tuple_strs (dJ hz) (CK ys hr hw) (.kq I)) (notin_tuple_strs (dJ hz) (CK ys hr hw) (.kq I)))
  (λj o q e ho hq=>by
   subst e
   refine az rb ?_;clear rb;intro x hx q2;subst q2
   exact bm (P6 R I ho hx ra hq) (Ry R I ho hx ra hq))
theorem CP{f:Int->Int->Bool}{M:Value->Value->Bool->Prop}(h:w3 f a b=some r)(ra:aS cl s.heap μ a va)(rb:aS cl s.heap μ b vb)(k:∀x t y u,M (.int x t) (.int y u) (f x y)):M va vb r:=by
 rcases a with _ |_ |x |_ |_ |_ |_ |_<;>first |exact bN h |skip
 rcases b with _ |_ |y |_ |_ |_ |_ |_<;>first |exact bN h |skip
 refine aT ra ?_;clear ra;intro t q1;subst q1
 refine aT rb ?_;clear rb;intro u q1;subst q1
 exact Xs h▸k x t y u
theorem Qg(ra:aS cl s.heap μ a va)(h:GZ a=some r)(q:Q (.bool r) s):Wp Z A (compareOp .Is va .none) Q s:=by
 rcases a with _ |_ |x |x |xs |i |_ |_<;>first |exact bN h |skip
 ·obtain rfl:va=.none:=ra;exact is_none_none (Xs h▸q)
 ·refine aT ra ?_;clear ra;intro t q1;subst q1;exact is_none_ne (λe=>Value.noConfusion e) (Xs h▸q)
 ·refine aT ra ?_;clear ra;intro t q1;subst q1;exact is_none_ne (λe=>Value.noConfusion e) (Xs h▸q)
 ·obtain⟨z,ws,m,rfl,_⟩:=d6 ra;exact is_none_ne (λe=>Value.noConfusion e) (Xs h▸q)
 ·refine az ra ?_;clear ra;intro t _ q2;subst q2;exact is_none_ne (λe=>Value.noConfusion e) (Xs h▸q)
theorem se(R:Rq A)(I:aU Z s.heap μ σ)(ra:aS Z.KF.aF s.heap μ a va)(rb:aS Z.KF.aF s.heap μ b vb)(hc:gW σ op a b=some r)(hd:dI op a):Wp Z A (compareOp (fN op) va vb) (R1 Z s μ (.b r) σ) s:=by
 have fin {r:Bool} (t:Nat):R1 Z s μ (.b r) σ (.bool r) {s with toks:=t}:=.kq I
 rcases op with _ |_ |_ |_ |_ |_ |_ |_
 ·exact(FU R.WM I ra rb hc hd).1 Z.bK Z.VI NE _ (fin s.toks)
 ·refine az (YE hc) λq hq e=>?_
  exact e▸(FU R.WM I ra rb hq hd).2 Z.bK Z.VI NE _ (fin s.toks)
 ·exact CP (M:=λva vb r=>Wp Z A (compareOp .Lt va vb) (R1 Z s μ (.b r) σ) s) hc ra rb λx t y u=>PyProof.Rows.lt_int (fin s.toks)
 ·exact CP (M:=λva vb r=>Wp Z A (compareOp .LtE va vb) (R1 Z s μ (.b r) σ) s) hc ra rb λx t y u=>PyProof.Rows.le_int (fin s.toks)
 ·exact CP (M:=λva vb r=>Wp Z A (compareOp .Gt va vb) (R1 Z s μ (.b r) σ) s) hc ra rb λx t y u=>PyProof.Rows.gt_int (fin s.toks)
 ·rcases b with _ |_ |_ |_ |_ |_ |_ |_<;>first |exact bN hc |skip
  obtain rfl:vb=.none:=rb
  exact Qg ra hc (fin s.toks)
 ·exact(GT R I ra rb hc).1
 ·refine az (YE hc) λq hq e=>?_
  exact e▸(GT R I ra rb hq).2
theorem Uf{l:Addr}{n:Nat}{t:Tok}{v:Value}{Q:Unit->Shared->Prop}(ho:s.heap.get? l=some (ir vs n))(hj:j < vs.length){k:Int}(hk:k=(j:Int))(hfit:k < 2 ^ 63)
  (hQ:∀h' n',h'.get? l=some (ir (vs.set j v) n')->Heap.SameBut l s.heap h'->Q () {s with heap:=h'}):
  Wp Z A (setItem (.ref l) (.int k t) v) Q s:=by
 have hl:=dX ho
 unfold setItem
 with_reducible refine XI ?_
 refine Xj (wpAny_sequenceKey hl.typeIs (by decide) ?_)
 refine Xj (wpAny_callSpecial?_slot (name:=Str.ofString "__setitem__") hl.typeIs slot_list_setitem
  (YY slot_list_setitem hl.typeIs entry_list_setitem ?_ (args_list_setitem _ _ _)))
 refine(?_:wpAny _ _ (Builtin.List.listSubscript? (.int k t)>>=_) _ _ s)
 refine Xj (wpAny_listSubscript_int (fitsIndex_of (by rw[hk];exact YR j) hfit) ?_)
 clear hfit
 subst hk
 refine(?_:wpAny _ _ ((seqItemAt l j>>=λr=>pure (r.map (j,·)))>>=_) _ _ s)
 refine Xj (Xj (wpAny_seqItemAt ho rfl (Xm ?_)))
 rw[show vs.toArray[j]? =some vs[j] by simp[hj]]
 refine(?_:wpAny _ _ (setSeqItemAt l j v>>=_) _ _ s)
 refine aT (Obj.data_mapSeq (o:=ir vs n) rfl (·.setIfInBounds j v)) λn' hd'=>?_
 refine Xj (wpAny_setSeqItemAt ho rfl (Xm (aC .none rfl (Xm (hQ _ n' ?_ (Heap.SameBut.update ..))))))
 rw[Zu _ ho (Obj.isFreed_of_seq hd'),show(ir vs n).mapSeq (·.setIfInBounds j v)={cls:=.type "list",data:=((ir vs n).mapSeq (·.setIfInBounds j v)).data} from rfl,hd']
 simp
theorem aR.M5{x:V}{v:Value}(r:aS cl h μ x v)(xs:List V):∀{vs:List Value},aR cl h μ xs vs->∀j,aR cl h μ (xs.set j x) (vs.set j v):=by
 induction xs with
 |nil=>intro vs h1 j;obtain rfl:vs=[]:=h1;rfl
 |cons y xs ih=>
  intro vs h1 j
  refine cO h1 ?_;clear h1;intro u us q2 h2 h3;subst q2
  rcases j with _ |j
  ·exact dN _ _ rfl r h3
  ·exact dN _ _ rfl h2 (ih h3 j)
theorem Sy{a:Nat}(ha:σ[a]? =some (.l xs))(h0:0<=n)(hx:n.toNat < xs.length)(hl:xs.length<=aK):lX (mF (.r a) (.i n) v σ) (σ.set a (.l (xs.set n.toNat v))):=λZ A s μ ov iv vv R I ro ri rv=>by
 refine aT ri ?_;clear ri;intro t q1;subst q1
 obtain⟨x,us,m,hx',rfl,ho,hr⟩:=iA I ro ha
 refine aT (xL h0) λn q1=>?_;subst q1
 exact Uf ho (by rw[<-hr.length];exact hx) rfl (by have:n < xs.length:=hx;unfold aK at hl;rw[ve];lia) λh' n' hm hb=>⟨μ,Kx I hx' ha (jA hb) hm (hr.M5 rv xs n) _⟩
end
structure KI(L:dx)(c a:Nat)(attr:Option Value):Prop where
 KK:plainGet L.VJ (L.aF.VL c) (L.ct a)=true
 C4:hasDictIn L.VJ (L.aF.VL c)=true
 KJ:findIn L.VJ (.ref (L.aF.VL c)) (L.ct a)=some attr
 no:noGet L.VJ attr=true
 KM:findIn L.VJ (.ref (L.aF.VL c)) "__setattr__"=some (some (.builtin "object.__setattr__"))
 KL:plainOver L.VJ (L.aF.VL c)=true
 KN:takerIn L.VJ (L.aF.VL c) (L.ct a)=some none
structure Mw(L:dx)(c m k:Nat):Prop where
 DO:plainGet L.VJ (L.aF.VL c) (L.ct m)=true
 Mx:findIn L.VJ (.ref (L.aF.VL c)) (L.ct m)=some (some (.ref (L.fn k)))
 fn:isFn L.VJ (.ref (L.fn k))=true
 Mz:∀d a,fD d a=true->L.ct a≠L.ct m
 My:keepIn L.VJ (.ref (L.fn k))=true
structure Mg(L:dx)(c k:Nat):Prop where
 Mi:makesIn L.VJ (L.aF.VL c)=true
 Mh:findIn L.VJ (.ref (L.aF.VL c)) "__init__"=some (some (.ref (L.fn k)))
 Mj:typeIn L.VJ (.ref (L.fn k))=some (.type "function")
structure j9(L:dx):Prop where
 bn:L.ct 0="append"/\L.ct 1="extend"/\L.ct 2="pop"/\L.ct 3="get"/\L.ct 4="setdefault"/\L.ct 5="join"/\L.ct 6="count"/\L.ct 7="strip"/\L.ct 8="isspace"
 Dp:∀c a d b,fD c a=true->fD d b=true->L.ct a=L.ct b->a=b
 yV:∀c a,fD c a=true->∃attr,KI L c a attr
 yU:∀c m k,yr c m=some k->Mw L c m k
 Do:∀c k,CO c=some k->Mg L c k
section
variable {h:Heap}{c a:Nat}{fs:List (Nat×V)}{es:List DictEntry}{x:V}{v:Value}{n:Str}
theorem G6{x y:Str}{t:Tok}:(Value.str x t).isStr y=decide (x=y):=Bool.eq_iff_iff.mpr (show(x==y)=true↔_ by rw[beq_iff_eq,decide_eq_true_iff])
theorem GB(X:j9 L)(ha:fD c a=true){f:Nat×V}{e:DictEntry}(r:lN L h μ c f e):decide (f.1=a)=e.key.isStr (L.ct a):=by
 refine bc r ?_;clear r;intro nn0 _;obtain⟨h1,t,hk⟩:=nn0
 rw[hk,G6]
 exact decide_eq_decide.mpr ⟨Xu _,X.Dp _ _ _ _ h1 ha⟩
theorem GC(r:F2 (lN L h μ c) fs es):es.any (·.refKey)=false:=by
 rw[<-r.Dm (p:=λ_=>false) λf e r=>by refine bc r ?_;clear r;intro nn0 _;obtain⟨_,t,hk⟩:=nn0;unfold DictEntry.refKey;rw[hk]]
 exact List.any_eq_false.mpr λ_ _=>Yy
theorem PE(hn:∀b,fD c b=true->L.ct b≠n)(r:F2 (lN L h μ c) fs es):es.find? (·.key.isStr n)=none:=by
 have k:=(r.vV (p:=λ_=>false) (q:=λe=>e.key.isStr n) λf e r=>by refine bc r ?_;clear r;intro nn0 _;obtain⟨h1,t,hk⟩:=nn0;rw[hk,G6,XU (hn _ h1)])
 rw[show fs.find? cv=none from List.find?_eq_none.mpr λ_ _=>Yy]at k
 exact k.zh
theorem PG(X:j9 L)(ha:fD c a=true)(hv:aS L.aF h μ x v){g:Int}{t:Tok}{F:Option DictEntry->DictEntry}(F1:∀e,F (some e)={e with val:=v})(F2':F none=⟨g,.str (L.ct a) t,v⟩)
  (r:F2 (lN L h μ c) fs es):F2 (lN L h μ c) (gY fs a x) (nsPutIn (L.ct a).cps.size (L.ct a).cps.toList F es).1:=by
 induction r with
 |d8=>unfold nsPutIn;rw[F2'];exact .eJ ⟨⟨ha,t,rfl⟩,hv⟩ .d8
 | @eJ f e fs es k q ih=>
  unfold nsPutIn
  rw[GI,Value.isStrByCps_eq,<-GB X ha k]
  by_cases he:f.1=a
  ·rw[Xr he,Xr (XL he),F1];exact .eJ ⟨he▸k.1,hv⟩ q
  ·rw[Xv he,Xv (by rw[XU he];exact Yy)];exact .eJ k ih
theorem SX(X:j9 L)(ha:fD c a=true)(hv:aS L.aF h μ x v)(g:Int)(t:Tok)(r:F2 (lN L h μ c) fs es)(n:Nat):
  ∃es' m,Obj.putName (L.ct a) g (.str (L.ct a) t) v (dictOf es n)=dictOf es' m/\F2 (lN L h μ c) (gY fs a x) es':=by
 have k:=PG X ha hv (g:=g) (t:=t) (F:=λ|some e=>{e with val:=v} |none=>⟨g,.str (L.ct a) t,v⟩) (λ_=>rfl) rfl r
 unfold Obj.putName dictOf
 dsimp only
 generalize nsPutIn _ _ _ es=q at k
 obtain⟨es',b⟩:=q
 rcases b with _ |_
 ·exact eE es' _ rfl k
 ·exact eE es' _ rfl k
theorem PT(a:Nat)(x:V)(fs:List (Nat×V)):(gY fs a x).length<=fs.length+1:=by
 induction fs with
 |nil=>exact Xp _
 |cons f fs ih=>
  rw[GI]
  split
  ·exact Yj _
  ·exact Yx ih
theorem P3{V₀:V}(r:aS cl h μ V₀ v):handedIn v=true:=by
 rcases V₀ with _ |_ |_ |_ |_ |_ |_ |_
 ·obtain rfl:v=.none:=r;rfl
 ·obtain rfl:v=.bool _:=r;rfl
 ·refine aT r ?_;clear r;intro t q1;subst q1;rfl
 ·refine aT r ?_;clear r;intro t q1;subst q1;rfl
 ·refine sS r ?_;clear r;intro a vs n q3 _;subst q3;rfl
 ·refine az r ?_;clear r;intro a _ q2;subst q2;rfl
 ·refine cO r ?_;clear r;intro a d _ q3 _;subst q3;rfl
 ·refine bc r ?_;clear r;intro q0 _;subst q0;rfl
end
section
variable {s:Shared}{c a m k:Nat}{fs:List (Nat×V)}{u:Value}{v:V}
inductive Mk(L:dx)(h:Heap)(μ:List Addr)(a:Nat)(v:Value)(c c':Nat)(fs:List (Nat×V)):Prop
 |mk (x d:Addr) (es:List DictEntry) (n:Nat) (hd:μ[a]? =some d) (e:v=.ref x) (hx:x∉μ) (ho:h.get? x=some (instObj (L.aF.VL c) d)) (hdo:h.get? d=some (dictOf es n)) (hf:F2 (lN L h μ c') fs es) (ii:InstAt h x (instObj (L.aF.VL c) d) (L.aF.VL c) (some (dictOf es n)))
theorem AW(I:aU Z s.heap μ σ)(r:aS Z.KF.aF s.heap μ (.o c a) ov)(hs:σ[a]? =some (.a c' fs)):Mk Z.KF s.heap μ a ov c c' fs:=by
 refine dj r ?_;clear r;intro x d hd e hn hx
 refine dY (I.fU a d _ hd hs) λes n h1 h2=>?_
 exact⟨x,d,es,n,hd,e,hn,hx,h1,h2,hx,rfl,rfl,h1⟩
theorem Oh(X:j9 Z.KF)(hK:Z.KF.VJ.In Z.cS)(I:aU Z s.heap μ σ)(r:aS Z.KF.aF s.heap μ (.o c a) ov)(ha:fD c nm=true)(hs:σ[a]? =some (.a c fs))(hg:cA fs nm=some v){expr:Bool}:Wp Z A (getAttr ov (Z.KF.ct nm) expr) (R1 Z s μ v σ) s:=by
 obtain⟨x,d,es,n,hd,rfl,hn,hx,h1,h2,II⟩:=AW I r hs
 refine aT (X.yV _ _ ha) λattr f=>?_
 have hf:=(h2.vV (q:=λe=>e.key.isStr (Z.KF.ct nm)) λf e r=>GB X ha r).zf (f:=Prod.snd) (g:=DictEntry.val) (S:=aS Z.KF.aF s.heap μ) λ_ _ r=>r.2
 rw[show(fs.find? λf=>decide (f.1=nm)).map Prod.snd=some v from hg]at hf
 obtain⟨w,hw,rw'⟩:=hf.ou
 refine az (YE hw) λe he q2=>?_;subst q2
 exact get_value (hK.keeps I.dM) II (plainGet_of f.KK).1 (findObj_own f.C4 f.KJ f.no (by rw[lookIn_dict];unfold getL;rw[he])) (P3 rw') (.ku I rw')
theorem Rb(X:j9 Z.KF)(hK:Z.KF.VJ.In Z.cS)(I:aU Z s.heap μ σ)(r:aS Z.KF.aF s.heap μ (.o c a) ov)(hm:yr c m=some k)(hs:σ[a]? =some (.a c' fs)){pl:Sem Bool}{Q:Value×List Value->Shared->Prop}
  (q:Q (.ref (Z.KF.fn k),[ov]) s):Wp Z A (getMethod ov (Z.KF.ct m) pl) Q s:=by
 obtain⟨x,d,es,n,hd,rfl,hn,hx,h1,h2,II⟩:=AW I r hs
 have f:=X.yU _ _ _ hm
 refine method_fn (hK.keeps I.dM) II (plainGet_of f.DO).1 (plainGet_of f.DO).2 f.Mx (beq_iff_eq.mp f.fn) ?_ q
 refine(?_:(lookIn (Z.KF.ct m) (dictOf es n)).map _=_)
 rw[lookIn_dict,show getL (Z.KF.ct m) es=some none by unfold getL;rw[PE (f.Mz c') h2,GC h2];rfl];rfl
theorem RA{d:Addr}{n:Nat}{es:List DictEntry}{nm:Str}{M:Model}{Q:Unit->Shared->Prop}(h1:s.heap.get? d=some (dictOf es n))(nr:es.any (·.refKey)=false)(hl:es.length<=101)
  (hp:∀g t,∃es' m,Obj.putName nm g (.str nm t) u (dictOf es n)=dictOf es' m/\es'.length<=102/\∀h' t',(∀b,b≠d->h'.get? b=s.heap.get? b)->h'.get? d=some (dictOf es' m)->Q () {s with heap:=h',toks:=t'}):wpAny M A (nsSet d nm u) Q E s:=by
 unfold nsSet
 refine Xj (Xj (wpAny_askSetting (Xm (Xj (wpAny_mkText (Xj (wpAny_loadPart h1 ?_)))))))
 dsimp only
 rw[aRefKeyMayBeTheName_at,List.any_toArray (l:=es) (p:=λx=>x.refKey),nr,Bool.and_false]
 refine wpAny_updatePart h1 ?_
 obtain⟨es',m,e1,e2,q⟩:=hp _ _
 exact q _ _ (λb hb=>Heap.get?_update_other _ _ (λe=>hb e.symm)) (by rw[Zu _ h1 (by rw[e1];rfl),e1])
theorem Ui(X:j9 Z.KF)(hK:Z.KF.VJ.In Z.cS)(I:aU Z s.heap μ σ)(r:aS Z.KF.aF s.heap μ (.o c a) ov)(ha:fD c nm=true)(hs:σ[a]? =some (.a c fs))(hl:fs.length<=100)(rv:aS Z.KF.aF s.heap μ v u):
  Wp Z A (setAttr ov (Z.KF.ct nm) u) (RU Z s μ (σ.set a (.a c (gY fs nm v)))) s:=by
 obtain⟨x,d,es,n,hd,rfl,hn,hx,h1,h2,II⟩:=AW I r hs
 refine aT (X.yV _ _ ha) λattr f=>?_
 have XK:=hK.keeps I.dM
 refine set_plain XK II f.KM (osa_open XK II f.KL f.KN λb=>?_)
 have fin:∀es' m h' t,F2 (lN Z.KF s.heap μ c) (gY fs nm v) es'->(∀b,b≠d->h'.get? b=s.heap.get? b)->h'.get? d=some (dictOf es' m)->RU Z s μ (σ.set a (.a c (gY fs nm v))) () {s with heap:=h',toks:=t}:=λes' m h' t e2 hb D=>
  have k:=I.y7 (o':=.a c (gY fs nm v)) hd hs rfl (λ_ h=>nomatch h) (λb q c hq=>(hb b c).trans hq) ⟨_,D⟩ (λe=>⟨es',m,D,e2.mL λ_ _ r=>⟨r.1,r.2.cE e⟩⟩) λq=>bE q
  ⟨μ,⟨rfl,rfl,rfl⟩,k.1,k.2⟩
 have pt:=λg t=>SX X ha rv g t h2 n
 have nr:=GC h2
 have l1:=h2.n9
 clear h2 I
 refine az (any_some f.C4) λcd hc hcd=>?_
 have XK':Z.KF.VJ.In ({s with toks:=s.toks+1}:Shared).heap:=XK
 refine Xj (Xm (Xj (Xj (wpAny_loadPart hx (Xj ((looks_clsIn XK' hc).here ?_))))))
 rw[hcd]
 refine Xm (a:=some d) (Xj (Xm (Xj (RA (s:={s with toks:=s.toks+1}) h1 nr (bP (qT (gL l1) hl) rfl) λg t=>?_))))
 refine dY (pt g t) λes' m e1 e2=>?_
 have l2:=PT nm v fs
 refine dN es' m e1 (by rw[<-e2.n9];exact qT l2 (ja hl rfl)) (λh' t' hb D=>?_)
 exact Xj (wpAny_lookBehind D (pastItsLine_dict (by rw[Yr,sizeLine_eq,<-e2.n9];lia)) (Xm (fin es' m h' t' e2 hb D)))
end
structure Sc where
 dD:List (Str×NameKind)
 jO:List Str
 VM:List (Str×Nat)
 dm:List Nat
structure wF(c:Sc):Prop where
 n1:(c.VM.map (·.1)).Nodup
 n2:(c.VM.map (·.2)).Nodup
 n3:c.jO.Nodup
 Nk:∀x∈c.VM,(x.1==("__debug__":Str))=false/\(x.1==("__classdict__":Str))=false
 Er:∀x∈c.VM,c.dD.lookup x.1=some .local∨((c.dD.lookup x.1=some .cell∨c.dD.lookup x.1=some .free)/\x.1∈c.jO)
noncomputable def dE(env:PySem.Env):List Addr:=env.locals::env.cells.map (·.2)
structure fE(c:Sc)(env:PySem.Env):Prop where
 Dc:env.scope.names=c.dD
 yH:env.cells.map (·.1)=c.jO
 yI:env.globals=mainGlobals
 yG:env.builtins=builtinsNs
 fn:env.scope.kind=.function
 sc:wF c
 nd:(dE env).Nodup
 dm:∀x∈c.VM,x.2∈c.dm
noncomputable def iD(h:Heap)(b:Addr):Prop:=∃o,h.get? b=some o/\gm o=false
structure cK(Z:Cx)(fr:List Addr)(s:Shared)(μ:List Addr)(s':Shared)(μ':List Addr)(σ':aj):Prop where
 iI:s'.gens=s.gens/\s'.drawn=s.drawn/\s'.os=s.os
 ly:aU Z s'.heap μ' σ'
 iZ:∀b o,s.heap.get? b=some o->b∉μ->b∉fr->s'.heap.get? b=some o
 l4:∀b o,s.heap.get? b=some o->∃o',s'.heap.get? b=some o'
 jR:μ <+:μ'
 i4:∀b∈μ',b∈μ∨s.heap.get? b=none
structure eK(cl:dO)(h₀ h:Heap)(μ:List Addr)(env:PySem.Env)(Γ:List (Str×Nat))(ρ:aA):Prop where
 gw:∀b∈dE env,b∉μ/\h₀.get? b=none/\iD h b
 pG:∃m,h.Ns env.locals m/\∀x∈Γ,env.kindOf x.1=some .local->∀V,ρ x.2=some V->∃v,m x.1=some v/\aS cl h μ V v
 oh:∀n c,env.cells.lookup n=some c->∃ov,h.IsCell c ov/\∀x∈Γ,x.1=n->env.kindOf n≠some .local->∀V,ρ x.2=some V->∃v,ov=some v/\aS cl h μ V v
section
variable {s:Shared}{fr':List Addr}{h:Heap}{c:Sc}{b:Addr}{x:Str×Nat}{V:V}{v:Value}
theorem gb{o:Obj}(h1:h.get? b=none)(h2:h.get? b=some o){p:Prop}:p:=bN (h1.symm.trans h2)
theorem SM{l:List α}(h:l <+:l'){x:α}(hx:x∈l):x∈l':=h.subset hx
theorem aU.DG(J:aU Z h μ σ){B:List Addr}(hB:∀b∈B,b∉μ/\Z.cS.get? b=none/\∀o,h.get? b=some o->gm o=false)(hs:∀c q,c∉B->h.get? c=some q->h'.get? c=some q):aU Z h' μ σ/\dk h μ h' μ:=
 have e:dk h μ h' μ:=⟨λc o hc _ so=>hs c o (λhm=>Bool.noConfusion (so.symm.trans ((hB c hm).2.2 o hc))) hc,Yh _,λ_=>.inl⟩
 have own:∀c∈μ,∀q,h.get? c=some q->h'.get? c=some q:=λc hc q hq=>hs c q (λhm=>(hB c hm).1 hc) hq
 ⟨⟨J.eu,J.jH,λc o hc=>hs c o (λhm=>gb (hB c hm).2.1 hc) (J.dM c o hc),J.jG,λc hc=>(J.iU c hc).imp λo ho=>own c hc o ho,
  λi x o hx ho=>(J.fU i x o hx ho).wz e (own x (Yi hx)) (λ_ _ j _ c hc=>own c (Yi hc)),J.iT,J.kh,J.jr⟩,e⟩
theorem aU.pM(J:aU Z h μ σ)(hb:b∉μ)(h0:Z.cS.get? b=none)(ht:∀o,h.get? b=some o->gm o=false)(hs:∀c q,c≠b->h.get? c=some q->h'.get? c=some q):aU Z h' μ σ/\dk h μ h' μ:=
 J.DG (B:=[b]) (λc hc=>Xy hc▸⟨hb,h0,ht⟩) λc q hc=>hs c q λe=>hc (Yg e)
theorem iD.kU(t:iD h b):∀o,h.get? b=some o->gm o=false:=λo ho=>by refine az t ?_;clear t;intro q hq sq;exact Xs (hq.symm.trans ho)▸sq
theorem rG{m:Str->Option Value}(hn:h.Ns b m):iD h b:=by refine nA hn ?_;clear hn;intro o es ep ho hd _;exact aC o ho (by unfold gm;rw[hd];rfl)
theorem C6{ov:Option Value}(hn:h.IsCell b ov):iD h b:=by refine az hn ?_;clear hn;intro o ho hd;exact aC o ho (by unfold gm;rw[hd];rfl)
theorem br.fq(a:br Z s μ s' μ' σ')(fr:List Addr):cK Z fr s μ s' μ' σ' where
 iI:=a.jQ
 ly:=a.eN
 iZ:=λb o hb hn _=>a.bJ.iE b o hb hn
 l4:=λb o hb=>(Decidable.em (b∈μ)).elim (λhm=>a.eN.iU b (SM a.bJ.lL hm)) λhm=>⟨o,a.bJ.iE b o hb hm⟩
 jR:=a.bJ.lL
 i4:=a.bJ.kZ
theorem cK.wI(I:aU Z s.heap μ σ)(fr:List Addr):cK Z fr s μ s μ σ:=(br.oJ I).fq fr
theorem cK.Ew(a:cK Z fr s μ s' μ' σ'){o:Obj}(hb:s.heap.get? b=some o)(hn:b∉μ):b∉μ':=λhm=>(a.i4 b hm).elim hn λq=>gb q hb
theorem cK.Ey(a:cK Z fr s μ s' μ' σ')(hb:s'.heap.get? b=none):s.heap.get? b=none:=Zx λo ho=>by refine aT (a.l4 b o ho) λo' ho'=>?_;exact gb hb ho'
theorem cK.jS(a:cK Z fr s μ s' μ' σ')(b:cK Z fr s' μ' s'' μ'' σ''):cK Z fr s μ s'' μ'' σ'' where
 iI:=⟨b.iI.1.trans a.iI.1,b.iI.2.1.trans a.iI.2.1,b.iI.2.2.trans a.iI.2.2⟩
 ly:=b.ly
 iZ:=λc o hc hn hf=>b.iZ c o (a.iZ c o hc hn hf) (a.Ew hc hn) hf
 l4:=λc o hc=>(a.l4 c o hc).elim λo' h'=>b.l4 c o' h'
 jR:=a.jR.trans b.jR
 i4:=λc hc=>(b.i4 c hc).elim (a.i4 c) λh1=>.inr (a.Ey h1)
theorem cK.Nn(a:cK Z fr s μ s' μ' σ')(h:∀b∈fr,b∈fr'):cK Z fr' s μ s' μ' σ':=⟨a.iI,a.ly,λb o hb hn hf=>a.iZ b o hb hn λhm=>hf (h b hm),a.l4,a.jR,a.i4⟩
theorem cK.Np(a:cK Z fr s μ s' μ' σ')(ht:∀b∈fr,iD s.heap b):dk s.heap μ s'.heap μ':=
 ⟨λb o hb hn so=>a.iZ b o hb hn λhf=>Bool.noConfusion (so.symm.trans ((ht b hf).kU o hb)),a.jR,λb hb=>(a.i4 b hb).imp id λh1 o ho=>gb h1 ho⟩
theorem cK.Ez(a:cK Z fr s μ s' μ' σ')(b:br Z s₀ μ₀ s μ σ)(hf:∀b∈fr,s₀.heap.get? b=none):br Z s₀ μ₀ s' μ' σ':=
 have t:=(b.fq fr).jS a
 ⟨t.iI,t.ly,λc o hc hn=>t.iZ c o hc hn λhm=>gb (hf c hm) hc,t.jR,t.i4⟩
theorem zC(I:aU Z s.heap μ σ)(hf:b∈fr)(hb:b∉μ)(h0:Z.cS.get? b=none)(ht:iD s.heap b)(t:Nat)(hs:∀c q,c≠b->s.heap.get? c=some q->h'.get? c=some q)(hl:∃o,h'.get? b=some o):cK Z fr s μ {s with heap:=h',toks:=t} μ σ where
 iI:=⟨rfl,rfl,rfl⟩
 ly:=(I.pM hb h0 ht.kU hs).1
 iZ:=λc o hc hn hcf=>hs c o (λe=>hcf (e▸hf)) hc
 l4:=λc o hc=>(Decidable.em (c=b)).elim (λe=>e▸hl) λe=>⟨o,hs c o e hc⟩
 jR:=Yh _
 i4:=λc=>.inl
theorem dk.Lg(a:dk h μ h' μ)(b:dk h' μ h'' μ):dk h μ h'' μ:=
 ⟨λc o hc hn so=>b.lM c o (a.lM c o hc hn so) hn so,Yh _,λc=>.inl⟩
theorem oZ{n:Str}{a:Addr}(h:env.cells.lookup n=some a):a∈dE env:=XA _ (Yt (aC (n,a) (Y7 h) rfl))
theorem nv(X:fE c env)(id:Str):env.kindOf id=c.dD.lookup id:=Xu (List.lookup id) X.Dc
theorem eK.tr(F:eK cl h₀ h μ env Γ ρ):∀b∈dE env,iD h b:=λb hb=>(F.gw b hb).2.2
theorem eK.v2(F:eK cl h₀ h μ env Γ ρ)(e:dk h μ h' μ')(hap:∀b∈dE env,b∉μ')(hk:∀b∈dE env,∀o,h.get? b=some o->h'.get? b=some o):eK cl h₀ h' μ' env Γ ρ where
 gw:=λb hb=>⟨hap b hb,(F.gw b hb).2.1,(F.tr b hb).imp λo q=>⟨hk b hb o q.1,q.2⟩⟩
 pG:=by
  obtain⟨m,hn,hm⟩:=F.pG
  exact aC m (hn.at' λo=>hk _ (Xz ..) o) (λx hx hl V hV=>(hm x hx hl V hV).imp λv q=>⟨q.1,q.2.extW e⟩)
 oh:=λn a ha=>by
  refine az (F.oh n a ha) λov hc hm=>?_
  exact aC ov (hc.imp λo q=>⟨hk a (oZ ha) o q.1,q.2⟩) (λx hx hn hl V hV=>(hm x hx hn hl V hV).imp λv q=>⟨q.1,q.2.extW e⟩)
theorem eK.LG(F:eK cl h₀ h μ env Γ ρ)(e:dw h μ h' μ'):eK cl h₀ h' μ' env Γ ρ:=
 F.v2 e.Wv (λb hb=>by obtain⟨h1,_,o,h3,_⟩:=F.gw b hb;exact e.tN h3 h1) λb hb o ho=>e.iE b o ho (F.gw b hb).1
theorem eK.LF(F:eK cl h₀ h μ env Γ ρ')(hl:∀i V,ρ i=some V->ρ' i=some V):eK cl h₀ h μ env Γ ρ:=
 ⟨F.gw,F.pG.imp λm q=>⟨q.1,λx hx hk V hV=>q.2 x hx hk V (hl _ _ hV)⟩,λn a ha=>(F.oh n a ha).imp λov q=>⟨q.1,λx hx hn hk V hV=>q.2 x hx hn hk V (hl _ _ hV)⟩⟩
theorem BQ(h:(Γ.map (·.1)).Nodup){y:Str×Nat}(hx:x∈Γ)(hy:y∈Γ)(e:x.1=y.1):x=y:=by
 induction Γ with
 |nil=>exact absurd hx XX
 |cons z Γ ih=>
  have h:=Zg h
  rcases XC hx with e1 |h1<;>rcases XC hy with e2 |h2
  ·rw[e1,e2]
  ·exact absurd (Yt (aC y h2 (e.symm.trans (Xu _ e1)))) h.1
  ·exact absurd (Yt (aC x h1 (e.trans (Xu _ e2)))) h.1
  ·exact ih h.2 h1 h2
theorem xo(h:(Γ.map (·.2)).Nodup){y:Str×Nat}(hx:x∈Γ)(hy:y∈Γ)(e:x.2=y.2):x=y:=by
 induction Γ with
 |nil=>exact absurd hx XX
 |cons z Γ ih=>
  have h:=Zg h
  rcases XC hx with e1 |h1<;>rcases XC hy with e2 |h2
  ·rw[e1,e2]
  ·exact absurd (Yt (aC y h2 (e.symm.trans (Xu _ e1)))) h.1
  ·exact absurd (Yt (aC x h1 (e.trans (Xu _ e2)))) h.1
  ·exact ih h.2 h1 h2
theorem xD{l:List (Str×β)}{x:Str}(h:x∈l.map (·.1)):∃b,l.lookup x=some b:=by
 induction l with
 |nil=>exact absurd h XX
 |cons y ys ih=>
  rw[List.lookup_cons]
  cases e:x==y.1 with
  |true=>exact fA _ rfl
  |false=>exact ih ((XC h).resolve_left λq=>by rw[q,beq_self_eq_true]at e;exact Bool.noConfusion e)
theorem FQ(X:fE c env)(hx:x∈c.VM):env.kindOf x.1=some .local∨((env.kindOf x.1=some .cell∨env.kindOf x.1=some .free)/\∃a,env.cells.lookup x.1=some a):=by
 rw[nv X]
 exact(X.sc.Er x hx).imp id λq=>⟨q.1,xD (X.yH▸q.2)⟩
theorem QX{M:Model}(I:aU Z s.heap μ σ)(X:fE c env)(F:eK Z.KF.aF Z.cS s.heap μ env c.VM ρ)(hx:x∈c.VM)(hV:ρ x.2=some V):wpAny M A (eval (.Name x.1 pos) env) (R1 Z s μ V σ) NE s:=by
 have hd:=X.sc.Nk x hx
 refine wpAny_Name ?_ hd.1
 rcases FQ X hx with hl | ⟨hk,a,ha⟩
 ·obtain⟨m,hn,hm⟩:=F.pG
  refine az (hm x hx hl V hV) λv h1 h2=>?_
  exact wpAny_loadName_local X.fn hl hn h1 (.id I h2)
 ·refine az (F.oh x.1 a ha) λov h1 h2=>?_
  refine az (h2 x hx rfl (by rcases hk with h |h<;>rw[h]<;>decide) V hV) λv q1 hr=>?_;subst q1
  rcases hk with hk |hk
  ·exact wpAny_loadName_cell X.fn hk ha h1 (.id I hr)
  ·exact wpAny_loadName_free X.fn hk ha h1 (.id I hr) hd.2
theorem yt(hΓ:(Γ.map (·.2)).Nodup)(hx:x∈Γ){y:Str×Nat}(hy:y∈Γ)(hne:y≠x){V':Internal.V}(h:au ρ x.2 V y.2=some V'):ρ y.2=some V':=by
 unfold au at h;rwa [Xv λe=>hne (xo hΓ hy hx e)]at h
theorem Ky{i:Nat}{V':Internal.V}(h:au ρ i V i=some V'):V'=V:=by unfold au at h;rw[Xr rfl]at h;exact(Xs h).symm
theorem eK.Du(F:eK cl h₀ h μ env Γ ρ)(hs:∀c q,c≠b->h.get? c=some q->h'.get? c=some q)(tr:iD h' b):∀c∈dE env,c∉μ/\h₀.get? c=none/\iD h' c:=λc hc=>
 ⟨(F.gw c hc).1,(F.gw c hc).2.1,(Decidable.em (c=b)).elim (λe=>e▸tr) λe=>(F.tr c hc).imp λo q=>⟨hs c o e q.1,q.2⟩⟩
inductive ug(Z:Cx)(fr:List Addr)(c:Sc)(env:PySem.Env)(s:Shared)(μ:List Addr)(σ:aj)(ρ:aA)(u:Unit)(s':Shared):Prop
 |mk (st:cK Z fr s μ s' μ σ) (e:dk s.heap μ s'.heap μ) (F:eK Z.KF.aF Z.cS s'.heap μ env c.VM ρ)
theorem eK.LI(I:aU Z s.heap μ σ)(X:fE c env)(F:eK Z.KF.aF Z.cS s.heap μ env c.VM ρ)(hx:x∈c.VM)(hl:env.kindOf x.1=some .local)(r:aS Z.KF.aF s.heap μ V v)(f1:env.locals∈fr){M:Model}:wpAny M A (storeName env x.1 v) (ug Z fr c env s μ σ (au ρ x.2 V)) NE s:=by
 obtain⟨m,hn,hm⟩:=F.pG
 refine cN (F.gw env.locals (Xz ..)) λo1 o2 o3=>?_
 refine wpAny_storeName_local hl hn (λh' hn' hs=>?_) (by rw[X.fn];rfl)
 have hsb:=jA hs
 have tr:=rG hn'
 have ew:dk s.heap μ h' μ:=(I.pM o1 o2 o3.kU hsb).2
 refine⟨zC I f1 o1 o2 o3 _ hsb (tr.imp λ_ q=>q.1),ew,F.Du hsb tr,(aC _ hn' (λy hy hyl V' hV'=>?_)),λn a ha=>?_⟩
 ·by_cases e:y=x
  ·subst e;exact Ky hV'▸(aC v (Xr rfl) (r.extW ew))
  ·refine az (hm y hy hyl V' (yt X.sc.n2 hx hy e hV')) λu h1 h2=>?_
   exact aC u ((Xv λe'=>e (BQ X.sc.n1 hy hx e')).trans h1) (h2.extW ew)
 ·refine az (F.oh n a ha) λov hc h3=>?_
  have hal:a≠env.locals:=λe=>(Zg X.nd).1 (e▸Yt (aC (n,a) (Y7 ha) rfl))
  exact aC ov (hc.imp λo q=>⟨hsb a o hal q.1,q.2⟩) (λy hy hyn hyl V' hV'=>(h3 y hy hyn hyl V' (yt X.sc.n2 hx hy (λe=>hyl (hyn▸e▸hl)) hV')).imp λu q=>⟨q.1,q.2.extW ew⟩)
theorem eK.LH(I:aU Z s.heap μ σ)(X:fE c env)(F:eK Z.KF.aF Z.cS s.heap μ env c.VM ρ)(hx:x∈c.VM)(hk:env.kindOf x.1=some .cell){a:Addr}(ha:env.cells.lookup x.1=some a)(r:aS Z.KF.aF s.heap μ V v)(f1:a∈fr){M:Model}:wpAny M A (storeName env x.1 v) (ug Z fr c env s μ σ (au ρ x.2 V)) NE s:=by
 refine az (F.oh x.1 a ha) λov hcell _=>?_
 refine cN (F.gw a (oZ ha)) λo1 o2 o3=>?_
 refine wpAny_storeName_cell (v:=v) X.fn hk ha hcell λh' hc' hs=>?_
 have hsb:=jA hs
 have tr:=C6 hc'
 have ew:dk s.heap μ h' μ:=(I.pM o1 o2 o3.kU hsb).2
 have hal:env.locals≠a:=λe=>(Zg X.nd).1 (e▸Yt (aC (x.1,a) (Y7 ha) rfl))
 refine⟨zC (t:=s.toks) I f1 o1 o2 o3 hsb (tr.imp λ_ q=>q.1),ew,F.Du hsb tr,?_,λn d hd=>?_⟩
 ·obtain⟨m,hn,hm⟩:=F.pG
  exact aC m (hn.at' λo=>hsb _ o hal) (λy hy hyl V' hV'=>(hm y hy hyl V' (yt X.sc.n2 hx hy (λe=>by rw[e,hk]at hyl;cases hyl) hV')).imp λu q=>⟨q.1,q.2.extW ew⟩)
 ·by_cases e:d=a
  ·subst e
   have hnx:n=x.1:=name_of_addr (List.pairwise_map.mp (Zg X.nd).2) (Y7 hd) (Y7 ha)
   exact aC (some v) hc' (λy hy hyn hyl V' hV'=>by cases BQ X.sc.n1 hy hx (hyn.trans hnx);exact Ky hV'▸(aC v rfl (r.extW ew)))
  ·refine az (F.oh n d hd) λov' hc q3=>?_
   exact aC ov' (hc.imp λo q=>⟨hsb d o e q.1,q.2⟩) (λy hy hyn hyl V' hV'=>(q3 y hy hyn hyl V' (yt X.sc.n2 hx hy (λey=>e (Xs (hd.symm.trans (hyn▸ey▸ha)))) hV')).imp λu q=>⟨q.1,q.2.extW ew⟩)
theorem eK.yZ(I:aU Z s.heap μ σ)(X:fE c env)(F:eK Z.KF.aF Z.cS s.heap μ env c.VM ρ)(hx:x∈c.VM)(hk:c.dD.lookup x.1≠some .free)(r:aS Z.KF.aF s.heap μ V v)
  (f1:env.locals∈fr) (f2:∀a,env.kindOf x.1=some .cell->env.cells.lookup x.1=some a->a∈fr) {M:Model}:wpAny M A (storeName env x.1 v) (ug Z fr c env s μ σ (au ρ x.2 V)) NE s:=by
 rcases FQ X hx with hl | ⟨hk',a,ha⟩
 ·exact F.LI I X hx hl r f1
 ·have hc:=hk'.resolve_right λq=>hk ((nv X _).symm.trans q)
  exact F.LH I X hx hc ha r (f2 a hc ha)
end
set_option backward.match.sparseCases true
structure ud(Z:Cx)(wr:List Addr)(s:Shared)(μ:List Addr)(s':Shared)(σ':aj):Prop where
 zE:s'.gens=s.gens/\s'.drawn=s.drawn/\s'.os=s.os
 zD:aU Z s'.heap μ σ'
 ue:∀b o,s.heap.get? b=some o->b∉μ->b∉wr->s'.heap.get? b=some o
 ew:dk s.heap μ s'.heap μ
structure rE(fr:List Addr)(h:Heap)(μ:List Addr)(h':Heap)(μ':List Addr):Prop where
 js:∀b o,h.get? b=some o->b∉μ->b∉fr->h'.get? b=some o
 tr:∀b∈fr,∀o,h.get? b=some o->gm o=false
 tR:μ <+:μ'
 DM:∀b∈μ',b∈μ∨h.get? b=none
inductive Mn(Z:Cx)(wr:List Addr)(s:Shared)(μ:List Addr)(σ':aj)(r:Option Value)(s':Shared):Prop
 |mk (e:r=none) (st:ud Z wr s μ s' σ')
inductive zR(Z:Cx)(wr fr:List Addr)(S:eM)(rest:List V)(N:Heap->List Addr->aj->Prop)(s:Shared)(μ:List Addr)(σ':aj)(V:V)(v:Value)(u:Unit)(s':Shared):Prop
 |mk (st:ud Z wr s μ s' σ') (r:aS Z.KF.aF s'.heap μ V v) (n:∀h3 μ3 σ3,rE fr s'.heap μ h3 μ3->S.V8 rest σ3->aU Z h3 μ3 σ3->N h3 μ3 σ3)
inductive Mo(Z:Cx)(A:Around)(I:Addr)(wr fr:List Addr)(S:eM)(rest:List V)(N:Heap->List Addr->aj->Prop)(s:Shared)(μ:List Addr)(σ':aj)(V:V)(r:Option Value)(s':Shared):Prop
 |mk (v:Value) (e:r=some v) (k:∀tg:Expr,Wp Z A (letOwnedTupleGo tg (.ref I) v) (zR Z wr fr S rest N s μ σ' V v) s')
noncomputable def lT(Z:Cx)(I:Addr)(wr fr:List Addr)(S:eM)(l:List V)(h:Heap)(μ:List Addr)(σ:aj):Prop:=match l with
 | []=>∀(A:Around) (s:Shared),A.handled=none->s.heap=h->aU Z s.heap μ σ->Wp Z A (pyNext (.ref I)) (Mn Z wr s μ (S.iG none σ)) s
 |V::rest=>∀(A:Around) (s:Shared),A.handled=none->s.heap=h->aU Z s.heap μ σ->Wp Z A (pyNext (.ref I)) (Mo Z A I wr fr S rest (lT Z I wr fr S rest) s μ (S.iG (some rest) σ) V) s
termination_by structural l
section
variable {h:Heap}{s:Shared}{b:Addr}{v:Value}{xs:List V}
theorem rE.lU(a:rE fr h μ h' μ'){o:Obj}(hb:h.get? b=some o)(hn:b∉μ):b∉μ':=λhm=>(a.DM b hm).elim hn λq=>gb q hb
theorem rE.ew(a:rE fr h μ h' μ'):dk h μ h' μ':=⟨λb o hb hn so=>a.js b o hb hn λhf=>Bool.noConfusion (so.symm.trans (a.tr b hf o hb)),a.tR,λb hb=>(a.DM b hb).imp id λq o ho=>gb q ho⟩
theorem tq(J:aU Z s.heap μ σ){t:Nat}(hB:∀b∈wr,b∉μ/\Z.cS.get? b=none/\∀o,s.heap.get? b=some o->gm o=false)(hs:∀c q,c∉wr->s.heap.get? c=some q->h'.get? c=some q):ud Z wr s μ {s with heap:=h',toks:=t} σ:=
 have k:=J.DG hB hs
 ⟨⟨rfl,rfl,rfl⟩,k.1,λb o hb _ hn=>hs b o hn hb,k.2⟩
inductive zl(h:Heap)(I:Addr):Prop
 |mk (o:Obj) (T:String) (vs:Array Value) (ho:h.get? I=some o) (hc:o.cls=.type T) (hd:o.data=.fields vs) (hT:["enumerate","zip","dict_itemiterator","dict_reverseitemiterator","odict_iterator","itertools.zip_longest","itertools.pairwise"].contains T=false)
theorem Hx(hI:zl s.heap I)(tg:Expr){Q:Unit->Shared->Prop}(q:Q () s):Wp Z A (letOwnedTupleGo tg (.ref I) v) Q s:=by
 obtain⟨o,T,vs,ho,hc,hd,hT⟩:=hI
 have body:Wp Z A (match((Value.ref I,v):Value×Value)with
   | (.ref r,.ref a)=>(do
    let o<-load r
    match o.cls,o.data with
    | .type n,.fields vs=>
     if ["enumerate","zip","dict_itemiterator","dict_reverseitemiterator","odict_iterator","itertools.zip_longest","itertools.pairwise"].contains n&&vs[0]? ==some (rawInt a)then
      rule "for.unpacks-the-owned-tuple"
      updateField r 0 .none
     else pure ()
    |_,_=>pure ():Sem Unit)
   |_=>pure ()) Q s:=by
  rcases v with _ |_ |_ |_ |_ |_ |_ |_ |_ |_<;>first
   |exact Xm q
   | (
     refine Xj (wpAny_load ho ?_)
     rw[hc,hd]
     dsimp only
     rw[hT,Bool.false_and]
     exact Xm q)
 cases tg<;>first
  |exact Xm q
  |exact body
theorem Hc{k:Nat}(r:h.IsListIter I x k):∀o,h.get? I=some o->gm o=false:=λo ho=>by refine c8 r ?_;clear r;intro q hq _ hd;rw[<-Xs (hq.symm.trans ho)];unfold gm;rw[hd];rfl
theorem sh{V:Internal.V}{rest items:List Internal.V}{k:Nat}(h:items.drop k=V::rest):items[k]? =some V/\items.drop (k+1)=rest:=by
 have e:=Xu List.head? h
 rw[List.head?_drop]at e
 exact bm e (by rw[<-List.tail_drop,h];rfl)
theorem QV{a:Nat}{items:List V}(h0:Z.cS.get? I=none)(hfr:I∉fr)(rest:List V):∀(k:Nat) (h:Heap) (μ:List Addr) (σ:aj),items.drop k=rest->h.IsListIter I x k->μ[a]? =some x->σ[a]? =some (.l items)->I∉μ->lT Z I [I] fr (.cr a items) rest h μ σ:=by
 induction rest with
 |nil=>
  rintro k h μ σ hk hit hx hs hI A s hh rfl J
  refine dY (J.fU a x _ hx hs) λvs n ha hr=>?_
  exact wpAny_pyNext_list_end hh hit (dX ha) (by rw[Yz,List.getElem?_eq_none_iff,<-hr.length];exact List.drop_eq_nil_iff.mp hk) λh' he=>
   ⟨rfl,tq (t:=s.toks) J (λb hb=>Xy hb▸⟨hI,h0,Hc hit⟩) λc q hc hq=>he c q (λe=>hc (Yg e)) hq⟩
 |cons V rest ih=>
  rintro k h μ σ hk hit hx hs hI A s hh rfl J
  refine dY (J.fU a x _ hx hs) λvs n ha hr=>?_
  refine az (hr.get (sh hk).1) λv hv rv=>?_
  refine wpAny_pyNext_list_item hit (dX ha) (x:=v) (by rw[Yz];exact hv) λh' hit' hsb=>⟨v,rfl,λtg=>Hx ?_ tg ?_⟩
  ·refine c8 hit' ?_;clear hit';intro q hq hc hd;exact⟨q,_,_,hq,hc,hd,by decide⟩
  ·have st:=tq (wr:=[I]) (t:=s.toks) J (λb hb=>Xy hb▸⟨hI,h0,Hc hit⟩) λc q hc hq=>jA hsb c q (λe=>hc (Yg e)) hq
   refine⟨st,rv.extW st.ew,λh3 μ3 σ3 lt g J3=>?_⟩
   refine az hit' ?_;clear hit';intro q hq hcd
   exact ih (k+1) h3 μ3 σ3 (sh hk).2 ⟨q,lt.js I q hq hI hfr,hcd⟩ (nJ lt.tR hx) g (lt.lU hq hI)
structure NR(Z:Cx)(I:Addr)(fp wr fr:List Addr)(n:Nat)(Pv:Nat->Value->Prop)(St:Nat->Heap->Prop):Prop where
 WE:∀A:Around,A.handled=none->Walks Z.bK Z.VI A I fp wr n Pv St
 WU:∀b∈wr,Z.cS.get? b=none
 EN:∀b∈fp,b∉fr
 tr:∀i h,St i h->∀b∈wr,iD h b
 W5:∀i h,St i h->zl h I
theorem Va{n:Nat}{St:Nat->Heap->Prop}{items:List V}(W:NR Z I fp wr fr n Pv St)(hn:n=items.length)(rest:List V):
  ∀(k:Nat) (h:Heap) (μ:List Addr) (σ:aj),items.drop k=rest->k<=items.length->St k h->(∀b∈fp,b∉μ/\∃o,h.get? b=some o)->(∀i v,i < n->Pv i v->∃V,items[i]? =some V/\aS Z.KF.aF h μ V v)->lT Z I wr fr (.bx items) rest h μ σ:=by
 induction rest with
 |nil=>
  rintro k h μ σ hk hle hst hfp hP A s hh rfl J
  have hke:k=n:=hn▸Nat.le_antisymm hle (List.drop_eq_nil_iff.mp hk)
  exact(W.WE A hh).done s _ _ (hke▸hst) λh' tk he=>⟨rfl,tq J (λb hb=>⟨(hfp b ((W.WE A hh).sub b hb)).1,W.WU b hb,(W.tr _ _ hst b hb).kU⟩) he⟩
 |cons V rest ih=>
  rintro k h μ σ hk hle hst hfp hP A s hh rfl J
  have hkl:=(sh hk).1
  have hlt:k < items.length:=(XS hkl).1
  refine(W.WE A hh).item k s _ _ (hn▸hlt) hst λv h' tk pv hst' he=>⟨v,rfl,λtg=>Hx (W.W5 _ _ hst') tg ?_⟩
  have st:=tq (t:=tk) J (λb hb=>⟨(hfp b ((W.WE A hh).sub b hb)).1,W.WU b hb,(W.tr _ _ hst b hb).kU⟩) he
  refine az (hP k v (hn▸hlt) pv) λV' hV' rv=>?_
  cases hkl.symm.trans hV'
  refine⟨st,rv.extW st.ew,λh3 μ3 σ3 lt g J3=>?_⟩
  refine ih (k+1) h3 μ3 σ3 (sh hk).2 hlt ((W.WE A hh).frame _ _ _ hst' λb hb o ho=>lt.js b o ho (hfp b hb).1 (W.EN b hb)) (λb hb=>?_) λi u hi pu=>(hP i u hi pu).imp λU q=>⟨q.1,(q.2.extW st.ew).extW lt.ew⟩
  have lv:∃o,h'.get? b=some o:=(Decidable.em (b∈wr)).elim (λhw=>(W.tr _ _ hst' b hw).imp λo q=>q.1) λhw=>(hfp b hb).2.imp λo ho=>he b o hw ho
  refine aT lv ?_;clear lv;intro o ho
  exact⟨lt.lU ho (hfp b hb).1,o,lt.js b o ho (hfp b hb).1 (W.EN b hb)⟩
noncomputable def tO(fr:List Addr)(h:Heap)(μ wr:List Addr)(I:Addr):Prop:=∀b∈fr,h.get? b=none∨(iD h b/\b∉μ/\b∉wr/\b≠I)
inductive jP(Z:Cx)(A:Around)(s:Shared)(μ:List Addr)(S:eM)(σ':aj)(it:Value)(s':Shared):Prop
 |mk (I:Addr) (wr:List Addr) (μ':List Addr) (e:it=.ref I) (st:br Z s μ s' μ' σ') (g:S.V8 S.qa σ') (h5:∀b∈wr,s.heap.get? b=none/\∃o,s'.heap.get? b=some o) (h6:s.heap.get? I=none∨I∈μ)
  (h8:∀fr,tO fr s'.heap μ' wr I->∀h3 μ3 σ3,rE fr s'.heap μ' h3 μ3->S.V8 S.qa σ3->aU Z h3 μ3 σ3->lT Z I wr fr S S.qa h3 μ3 σ3)
  (h9:∀(s'':Shared),(∀b o,s'.heap.get? b=some o->s''.heap.get? b=some o)->∀R:Value->Shared->Prop,R (.ref I) s''->Wp Z A (pyIter (.ref I)) R s'')
theorem qw{o:Obj}(f:tO fr h μ wr I)(ho:h.get? b=some o)(hb:b=I∨b∈wr∨gm o=true):b∉fr:=λhm=>(f b hm).elim (λq=>gb q ho) λq=>by
 rcases hb with e |e |e
 ·exact q.2.2.2 e
 ·exact q.2.2.1 e
 ·exact Bool.noConfusion (e.symm.trans (q.1.kU o ho))
theorem Uu(J:aU Z s.heap μ σ){a:Nat}(r:aS Z.KF.aF s.heap μ (.r a) v)(hs:σ[a]? =some (.l xs)):Wp Z A (pyIter v) (jP Z A' s μ (.cr a xs) σ) s:=by
 obtain⟨x,vs,n,hx,rfl,ha,hr⟩:=iA J r hs
 refine bc (J.eY iB) λf2 f1=>?_
 refine wpAny_pyIter_list (dX ha) ?_
 have hg:(s.heap.push {cls:=.type "list_iterator",data:=.fields #[.ref x,.int 0 0]}).get? s.heap.objs.size=some {cls:=.type "list_iterator",data:=.fields #[.ref x,.int 0 0]}:=XZ _ rfl
 exact⟨s.heap.objs.size,[s.heap.objs.size],μ,rfl,iH J (λb o hb=>XG _ hb) s.toks,hs,λb hb=>Xy hb▸⟨iB,_,hg⟩,.inl iB,
  λfr hfr h3 μ3 σ3 lt g J3=>QV f1 (qw hfr hg (.inl rfl)) xs 0 _ _ _ rfl ⟨_,lt.js _ _ hg f2 (qw hfr hg (.inl rfl)),rfl,rfl⟩ (nJ lt.tR hx) g (lt.lU hg f2),
  λs'' hk R hR=>wpAny_pyIter_listiter ⟨_,hk _ _ hg,rfl,rfl⟩ hR⟩
theorem CI(J:aU Z s.heap μ σ){t:Nat}{n:Nat}{St:Nat->Heap->Prop}(hn:n=xs.length)(W:∀A:Around,A.handled=none->Walks Z.bK Z.VI A I fp wr n Pv St)
  (hk:∀b o,s.heap.get? b=some o->h'.get? b=some o) (hI:s.heap.get? I=none) (hIw:I∈wr) (hw:∀b∈wr,s.heap.get? b=none/\∃o,h'.get? b=some o) (hfp:∀b∈fp,b∈wr∨(b∉μ/\∃o,s.heap.get? b=some o/\gm o=true))
  (hst:St 0 h') (htr:∀i h,St i h->∀b∈wr,iD h b) (hpl:∀i h,St i h->zl h I) (hP:∀i v,i < n->Pv i v->∃V,xs[i]? =some V/\aS Z.KF.aF s.heap μ V v)
  (hh:A.handled=none):jP Z A s μ (.bx xs) σ (.ref I) {s with heap:=h',toks:=t}:=by
 have st:=iH J hk t
 have off:∀b∈fp,b∉μ/\(∃o,h'.get? b=some o)/\∀fr,tO fr h' μ wr I->b∉fr:=λb hb=>(hfp b hb).elim
  (λq=>⟨(J.eY (hw b q).1).1,(hw b q).2,λfr f=>(hw b q).2.elim λo ho=>qw f ho (.inr (.inl q))⟩)
  λq=>⟨q.1,q.2.imp λo r=>hk b o r.1,λfr f=>q.2.elim λo r=>qw f (hk b o r.1) (.inr (.inr r.2))⟩
 refine⟨I,wr,μ,rfl,st,trivial,hw,.inl hI,λfr hfr h3 μ3 σ3 lt g J3=>?_,λs'' hk' R hR=>?_⟩
 ·exact Va (fp:=fp) ⟨W,λb hb=>(J.eY (hw b hb).1).2,λb hb=>(off b hb).2.2 fr hfr,htr,hpl⟩ hn xs 0 _ _ _ rfl (Xo _) ((W A hh).frame _ _ _ hst λb hb o ho=>lt.js b o ho (off b hb).1 ((off b hb).2.2 fr hfr))
   (λb hb=>(off b hb).2.1.elim λo ho=>⟨lt.lU ho (off b hb).1,o,lt.js b o ho (off b hb).1 ((off b hb).2.2 fr hfr)⟩) λi v hi pv=>(hP i v hi pv).imp λV q=>⟨q.1,(q.2.cE st.bJ).extW lt.ew⟩
 ·exact(W A hh).self 0 s'' _ _ ((W A hh).frame _ _ _ hst λb hb=>hk' b) hR
theorem qJ{a:Addr}(h:b∈[a]):b=a:=Xy h
theorem Uw(J:aU Z s.heap μ σ)(r:aS Z.KF.aF s.heap μ (.t xs) v)(hh:A.handled=none):Wp Z A' (pyIter v) (jP Z A s μ (.bx xs) σ) s:=by
 obtain⟨x,vs,n,rfl,ha,hn,hr⟩:=d6 r
 refine wpAny_pyIter_tuple (dJ ha) ?_
 have hg:(s.heap.push {cls:=.type "tuple_iterator",data:=.fields #[.ref x,.int 0 0]}).get? s.heap.objs.size=some {cls:=.type "tuple_iterator",data:=.fields #[.ref x,.int 0 0]}:=XZ _ rfl
 exact CI (t:=s.toks) (fp:=[s.heap.objs.size,x]) (wr:=[s.heap.objs.size]) (n:=vs.toArray.size) J (by rw[Yr,hr.length]) (λA hh=>Walks.tuple hh s.heap.objs.size x (XH (Ym ha)) vs.toArray)
  (λb o hb=>XG _ hb) iB (Yg rfl) (λb hb=>qJ hb▸⟨iB,_,hg⟩) (λb hb=>(XC hb).imp Yg λq=>by cases qJ q;exact⟨hn,_,ha,rfl⟩)
  ⟨⟨_,hg,rfl,rfl⟩,dJ (XG _ ha)⟩ (λi h q b hb=>by refine bc q ?_;clear q;intro nn0 _;refine c8 nn0 ?_;clear nn0;intro o ho _ hd;exact qJ hb▸⟨o,ho,by unfold gm;rw[hd];rfl⟩)
  (λi h q=>by refine bc q ?_;clear q;intro nn0 _;refine c8 nn0 ?_;clear nn0;intro o ho hc hd;exact⟨o,_,_,ho,hc,hd,by decide⟩) (λi u hi hu=>hr.M4 (show vs[i]? =some u by rw[<-Yz];exact hu)) hh
theorem Uv(J:aU Z s.heap μ σ){x:List Nat}(r:aS Z.KF.aF s.heap μ (.s x) v)(hh:A.handled=none):Wp Z A' (pyIter v) (jP Z A s μ (.bx (x.map λc=>.s [c])) σ) s:=by
 refine aT r ?_;clear r;intro t q1;subst q1
 have main:∀(ty:String),["enumerate","zip","dict_itemiterator","dict_reverseitemiterator","odict_iterator","itertools.zip_longest","itertools.pairwise"].contains ty=false->
   (∀A:Around,A.handled=none->Walks Z.bK Z.VI A s.heap.objs.size [s.heap.objs.size] [s.heap.objs.size] (bp x).cps.size (SignAt (bp x)) (λi h=>h.IsStrIter s.heap.objs.size ty (bp x) t i))->
   ∀o:Obj,(s.heap.push o).IsStrIter s.heap.objs.size ty (bp x) t 0->jP Z A s μ (.bx (x.map λc=>.s [c])) σ (.ref s.heap.objs.size) {s with heap:=s.heap.push o}:=λty hty W o hit=>
  CI (t:=s.toks) J (by rw[Xk];exact Yr ..) W (λb o hb=>XG _ hb) iB (Yg rfl) (λb hb=>qJ hb▸⟨iB,hit.imp λo q=>q.1⟩) (λb hb=>.inl hb)
   hit (λi h q b hb=>by refine c8 q ?_;clear q;intro o ho _ hd;exact qJ hb▸⟨o,ho,by unfold gm;rw[hd];rfl⟩) (λi h q=>by refine c8 q ?_;clear q;intro o ho hc hd;exact⟨o,_,_,ho,hc,hd,hty⟩)
   (λi u hi hu=>by
    refine dY hu ?_;clear hu;intro c u' hc q3;subst q3
    have hc:x[i]? =some c:=by rw[<-Yz];exact hc
    exact⟨.s [c],by rw[Ys,hc];rfl,u',rfl⟩) hh
 cases ha:(bp x).cps.all (· < 128)
 ·exact wpAny_pyIter_wide ha (main "str_iterator" (by decide) (λA hA=>Walks.strWide hA _ _ t) _ ⟨_,XZ _ rfl,rfl,rfl⟩)
 ·exact wpAny_pyIter_ascii ha (main "str_ascii_iterator" (by decide) (λA hA=>Walks.strAscii hA _ _ t) _ ⟨_,XZ _ rfl,rfl,rfl⟩)
theorem JS{a b c:Int}(hc:0 < c):Builtin.Range.rangeSize a b c=(((b - a+c - 1) / c).toNat:Nat):=by
 unfold Builtin.Range.rangeSize
 rw[Xr hc,show b - a+c - 1=(b - a - 1)+1 * c by exact Jk,Int.add_mul_ediv_right _ _ (Int.ne_of_gt hc)]
 split
 ·next q=>exact(Int.toNat_of_nonneg (Int.le_add_one (Int.ediv_nonneg (Jl q) (Int.le_of_lt hc)))).symm
 ·next q=>have:(b - a - 1) / c < 0:=Int.ediv_neg_of_neg_of_pos (Jv q) hc;lia
theorem TV{a b c:Int}(hc:0 < c)(ha:0<=a)(hb:b<=aK):((b - a+c - 1) / c).toNat<=aK:=by
 rw[show b - a+c - 1=(b - a - 1)+1 * c by exact Jk,Int.add_mul_ediv_right _ _ (Int.ne_of_gt hc)]
 by_cases hab:a < b
 ·have:(b - a - 1) / c<=b - a - 1:=Int.ediv_le_self _ (Jl hab)
  lia
 ·have:(b - a - 1) / c < 0:=Int.ediv_neg_of_neg_of_pos (Jv hab) hc
  lia
theorem uI{i:Int}(h1:-2000000000000<=i)(h2:i<=2000000000000):Builtin.Range.rangeFitsLong i=true:=by
 unfold Builtin.Range.rangeFitsLong
 rw[YD,decide_eq_true_eq,decide_eq_true_eq,ve];lia
theorem TX{a b c:Int}(hc:0 < c)(ha:0<=a/\a<=aK)(hb:-bY<=b/\b<=aK)(hc2:c<=aK):Builtin.Range.small a b c=true:=by
 have hl:=TV hc ha.1 hb.2
 unfold Builtin.Range.small
 rw[JS hc]
 unfold aK at *;unfold bY at *
 rw[uI (i:=a) (by lia) (by lia),uI (i:=b) (by lia) (by lia),uI (i:=c) (by lia) (by lia),uI (i:=((_:Nat):Int)) (by lia) (by lia),Xr hc,uI (i:=b+(c - 1)) (by lia) (by lia),Bool.or_true]
 rfl
theorem Ka(J:aU Z s.heap μ σ){a b c:Int}{t u w:Tok}{r:Addr}(hr:IsRange s.heap r a b c t u w)(hc:0 < c)(ha:0<=a/\a<=aK)(hb:-bY<=b/\b<=aK)(hc2:c<=aK)(hh:A.handled=none):Wp Z A' (pyIter (.ref r)) (jP Z A s μ (.bx (df a b c)) σ) s:=by
 refine wpAny_pyIter_range hr (TX hc ha hb hc2) ?_
 rw[JS hc]
 unfold df
 generalize((b - a+c - 1) / c).toNat=N
 have hg:(s.heap.push {cls:=.type "range_iterator",data:=.fields #[rawInt a,rawInt (N:Int),rawInt c]}).get? s.heap.objs.size=some {cls:=.type "range_iterator",data:=.fields #[rawInt a,rawInt (N:Int),rawInt c]}:=XZ _ rfl
 refine CI (t:=s.toks) (fp:=[s.heap.objs.size]) (wr:=[s.heap.objs.size]) (n:=N) J (by rw[Xk,XO]) (λA hh=>Walks.range hh s.heap.objs.size a c N) (λb o hb=>XG _ hb) iB (Yg rfl) (λb hb=>qJ hb▸⟨iB,_,hg⟩) (λb hb=>.inl hb)
  ?_ (λi h q b hb=>qJ hb▸⟨_,q,rfl⟩) (λi h q=>⟨_,_,_,q,rfl,rfl,by decide⟩) (λi u hi hu=>?_) hh
 ·show IsRangeIter _ _ (a+((0:Nat):Int) * c) ((N:Int) - ((0:Nat):Int)) c
  rw[show a+((0:Nat):Int) * c=a by simp,show(N:Int) - ((0:Nat):Int)=N by simp];exact hg
 ·refine aT hu ?_;clear hu;intro t' q1;subst q1
  exact⟨.i (a+c * i),by rw[Ys,List.getElem?_range hi];rfl,t',by rw[Int.mul_comm]⟩
end
set_option backward.match.sparseCases false
noncomputable def mr(e:Expr)(q:Str->Pos->Bool):Bool:=Expr.casesOn (motive_1:=λe=>Bool) e aw aw ay aw ay ay aw aw ay ay cB ay aB aB aB ay ay ay aB aw aw aw aB (λa b=>q a b) aB aw ay
theorem oS{e:Expr}{q:Str->Pos->Bool}(h:mr e q=true)(y:∀a b,q a b=true->M (.Name a b)):M e:=Expr.casesOn (motive_1:=λe=>mr e q=true->M e) e aH aH aG aH aG aG aH aH aG aG cM aG aO aO aO aG aG aG aO aH aH aH aO (y) aO aH aG h
noncomputable def uO(e:Expr)(q:Const->Bool):Bool:=Expr.casesOn (motive_1:=λe=>Bool) e aw aw ay aw ay ay aw aw ay ay cB ay aB aB aB ay ay ay aB (λa b c=>q a) aw aw aB aB aB aw ay
theorem Aj{e:Expr}{q:Const->Bool}(h:uO e q=true)(y:∀a b c,q a=true->M (.Constant a b c)):M e:=Expr.casesOn (motive_1:=λe=>uO e q=true->M e) e aH aH aG aH aG aG aH aH aG aG cM aG aO aO aO aG aG aG aO (y) aH aH aO aO aO aH aG h
noncomputable def uP(e:Expr)(q:UnaryOp->Expr->Bool):Bool:=Expr.casesOn (motive_1:=λe=>Bool) e aw aw ay (λa b c=>q a b) ay ay aw aw ay ay cB ay aB aB aB ay ay ay aB aw aw aw aB aB aB aw ay
theorem Al{e:Expr}{q:UnaryOp->Expr->Bool}(h:uP e q=true)(y:∀a b c,q a b=true->M (.UnaryOp a b c)):M e:=Expr.casesOn (motive_1:=λe=>uP e q=true->M e) e aH aH aG (y) aG aG aH aH aG aG cM aG aO aO aO aG aG aG aO aH aH aH aO aO aO aH aG h
noncomputable def A9(e:Expr)(q:Expr->Expr->Expr->Bool):Bool:=Expr.casesOn (motive_1:=λe=>Bool) e aw aw ay aw ay (λa b c d=>q a b c) aw aw ay ay cB ay aB aB aB ay ay ay aB aw aw aw aB aB aB aw ay
theorem FN{e:Expr}{q:Expr->Expr->Expr->Bool}(h:A9 e q=true)(y:∀a b c d,q a b c=true->M (.IfExp a b c d)):M e:=Expr.casesOn (motive_1:=λe=>A9 e q=true->M e) e aH aH aG aH aG (y) aH aH aG aG cM aG aO aO aO aG aG aG aO aH aH aH aO aO aO aH aG h
noncomputable def xv(e:Expr)(q:Expr->(List CmpOp)->(List Expr)->Bool):Bool:=Expr.casesOn (motive_1:=λe=>Bool) e aw aw ay aw ay ay aw aw ay ay cB ay aB aB aB (λa b c d=>q a b c) ay ay aB aw aw aw aB aB aB aw ay
theorem FL{e:Expr}{q:Expr->(List CmpOp)->(List Expr)->Bool}(h:xv e q=true)(y:∀a b c d,q a b c=true->M (.Compare a b c d)):M e:=Expr.casesOn (motive_1:=λe=>xv e q=true->M e) e aH aH aG aH aG aG aH aH aG aG cM aG aO aO aO (y) aG aG aO aH aH aH aO aO aO aH aG h
noncomputable def nj(e:Expr)(q:BoolOp->(List Expr)->Bool):Bool:=Expr.casesOn (motive_1:=λe=>Bool) e (λa b c=>q a b) aw ay aw ay ay aw aw ay ay cB ay aB aB aB ay ay ay aB aw aw aw aB aB aB aw ay
theorem Pc{e:Expr}{q:BoolOp->(List Expr)->Bool}(h:nj e q=true)(y:∀a b c,q a b=true->M (.BoolOp a b c)):M e:=Expr.casesOn (motive_1:=λe=>nj e q=true->M e) e (y) aH aG aH aG aG aH aH aG aG cM aG aO aO aO aG aG aG aO aH aH aH aO aO aO aH aG h
noncomputable def AY(e:Expr)(q:Expr->Operator->Expr->Bool):Bool:=Expr.casesOn (motive_1:=λe=>Bool) e aw aw (λa b c d=>q a b c) aw ay ay aw aw ay ay cB ay aB aB aB ay ay ay aB aw aw aw aB aB aB aw ay
theorem Pb{e:Expr}{q:Expr->Operator->Expr->Bool}(h:AY e q=true)(y:∀a b c d,q a b c=true->M (.BinOp a b c d)):M e:=Expr.casesOn (motive_1:=λe=>AY e q=true->M e) e aH aH (y) aH aG aG aH aH aG aG cM aG aO aO aO aG aG aG aO aH aH aH aO aO aO aH aG h
noncomputable def jW(e:Expr)(q:Expr->(List Expr)->(List Keyword)->Pos->Bool):Bool:=Expr.casesOn (motive_1:=λe=>Bool) e aw aw ay aw ay ay aw aw ay ay cB ay aB aB aB ay (λa b c d=>q a b c d) ay aB aw aw aw aB aB aB aw ay
theorem FK{e:Expr}{q:Expr->(List Expr)->(List Keyword)->Pos->Bool}(h:jW e q=true)(y:∀a b c d,q a b c d=true->M (.Call a b c d)):M e:=Expr.casesOn (motive_1:=λe=>jW e q=true->M e) e aH aH aG aH aG aG aH aH aG aG cM aG aO aO aO aG (y) aG aO aH aH aH aO aO aO aH aG h
noncomputable def sD(e:Expr)(q:Expr->Str->Pos->Bool):Bool:=Expr.casesOn (motive_1:=λe=>Bool) e aw aw ay aw ay ay aw aw ay ay cB ay aB aB aB ay ay ay aB aw (λa b c=>q a b c) aw aB aB aB aw ay
theorem uA{e:Expr}{q:Expr->Str->Pos->Bool}(h:sD e q=true)(y:∀a b c,q a b c=true->M (.Attribute a b c)):M e:=Expr.casesOn (motive_1:=λe=>sD e q=true->M e) e aH aH aG aH aG aG aH aH aG aG cM aG aO aO aO aG aG aG aO aH (y) aH aO aO aO aH aG h
noncomputable def sF(e:Expr)(q:Expr->Expr->Bool):Bool:=Expr.casesOn (motive_1:=λe=>Bool) e aw aw ay aw ay ay aw aw ay ay cB ay aB aB aB ay ay ay aB aw aw (λa b c=>q a b) aB aB aB aw ay
theorem qo{e:Expr}{q:Expr->Expr->Bool}(h:sF e q=true)(y:∀a b c,q a b=true->M (.Subscript a b c)):M e:=Expr.casesOn (motive_1:=λe=>sF e q=true->M e) e aH aH aG aH aG aG aH aH aG aG cM aG aO aO aO aG aG aG aO aH aH (y) aO aO aO aH aG h
noncomputable def xy(e:Expr)(q:(Option Expr)->(Option Expr)->(Option Expr)->Bool):Bool:=Expr.casesOn (motive_1:=λe=>Bool) e aw aw ay aw ay ay aw aw ay ay cB ay aB aB aB ay ay ay aB aw aw aw aB aB aB aw (λa b c d=>q a b c)
theorem Ak{e:Expr}{q:(Option Expr)->(Option Expr)->(Option Expr)->Bool}(h:xy e q=true)(y:∀a b c d,q a b c=true->M (.Slice a b c d)):M e:=Expr.casesOn (motive_1:=λe=>xy e q=true->M e) e aH aH aG aH aG aG aH aH aG aG cM aG aO aO aO aG aG aG aO aH aH aH aO aO aO aH (y) h
noncomputable def qx(e:Expr)(q:(List Expr)->Bool):Bool:=Expr.casesOn (motive_1:=λe=>Bool) e aw aw ay aw ay ay aw aw ay ay cB ay aB aB aB ay ay ay aB aw aw aw aB aB aB (λa b c=>q a) ay
theorem qp{e:Expr}{q:(List Expr)->Bool}(h:qx e q=true)(y:∀a b c,q a=true->M (.Tuple a b c)):M e:=Expr.casesOn (motive_1:=λe=>qx e q=true->M e) e aH aH aG aH aG aG aH aH aG aG cM aG aO aO aO aG aG aG aO aH aH aH aO aO aO (y) aG h
noncomputable def Bb(e:Expr)(q:(List Expr)->Bool):Bool:=Expr.casesOn (motive_1:=λe=>Bool) e aw aw ay aw ay ay aw aw ay ay cB ay aB aB aB ay ay ay aB aw aw aw aB aB (λa b=>q a) aw ay
theorem Pe{e:Expr}{q:(List Expr)->Bool}(h:Bb e q=true)(y:∀a b,q a=true->M (.List a b)):M e:=Expr.casesOn (motive_1:=λe=>Bb e q=true->M e) e aH aH aG aH aG aG aH aH aG aG cM aG aO aO aO aG aG aG aO aH aH aH aO aO (y) aH aG h
noncomputable def A5(e:Expr)(q:(List (Option Expr))->(List Expr)->Bool):Bool:=Expr.casesOn (motive_1:=λe=>Bool) e aw aw ay aw ay ay (λa b c=>q a b) aw ay ay cB ay aB aB aB ay ay ay aB aw aw aw aB aB aB aw ay
theorem FM{e:Expr}{q:(List (Option Expr))->(List Expr)->Bool}(h:A5 e q=true)(y:∀a b c,q a b=true->M (.Dict a b c)):M e:=Expr.casesOn (motive_1:=λe=>A5 e q=true->M e) e aH aH aG aH aG aG (y) aH aG aG cM aG aO aO aO aG aG aG aO aH aH aH aO aO aO aH aG h
noncomputable def uN(e:Expr)(q:Expr->(List Comprehension)->Scope->Pos->Bool):Bool:=Expr.casesOn (motive_1:=λe=>Bool) e aw aw ay aw ay ay aw aw (λa b c d=>q a b c d) ay cB ay aB aB aB ay ay ay aB aw aw aw aB aB aB aw ay
theorem Ai{e:Expr}{q:Expr->(List Comprehension)->Scope->Pos->Bool}(h:uN e q=true)(y:∀a b c d,q a b c d=true->M (.ListComp a b c d)):M e:=Expr.casesOn (motive_1:=λe=>uN e q=true->M e) e aH aH aG aH aG aG aH aH (y) aG cM aG aO aO aO aG aG aG aO aH aH aH aO aO aO aH aG h
noncomputable def Be(e:Stmt)(q:(Option Expr)->Bool):Bool:=Stmt.casesOn (motive_2:=λe=>Bool) e kH kH sx (λa b=>q a) aB aw sy ay cB cB cB ay ay aw aw aw aw cB cB aw aB ay aB aB aB cv cv cv
theorem Pf{M:Stmt->Prop}{e:Stmt}{q:(Option Expr)->Bool}(h:Be e q=true)(y:∀a b,q a=true->M (.Return a b)):M e:=Stmt.casesOn (motive_2:=λe=>Be e q=true->M e) e kL kL sM (y) aO aH sO aG cM cM cM aG aG aH aH aH aH cM cM aH aO aG aO aO aO di di di h
noncomputable def AX(e:Stmt)(q:(List Expr)->Expr->Bool):Bool:=Stmt.casesOn (motive_2:=λe=>Bool) e kH kH sx aB aB (λa b c=>q a b) sy ay cB cB cB ay ay aw aw aw aw cB cB aw aB ay aB aB aB cv cv cv
theorem Pa{M:Stmt->Prop}{e:Stmt}{q:(List Expr)->Expr->Bool}(h:AX e q=true)(y:∀a b c,q a b=true->M (.Assign a b c)):M e:=Stmt.casesOn (motive_2:=λe=>AX e q=true->M e) e kL kL sM aO aO (y) sO aG cM cM cM aG aG aH aH aH aH cM cM aH aO aG aO aO aO di di di h
noncomputable def A6(e:Stmt)(q:Expr->Expr->(List Stmt)->(List Stmt)->Bool):Bool:=Stmt.casesOn (motive_2:=λe=>Bool) e kH kH sx aB aB aw sy ay cB (λa b c d e=>q a b c d) cB ay ay aw aw aw aw cB cB aw aB ay aB aB aB cv cv cv
theorem Pd{M:Stmt->Prop}{e:Stmt}{q:Expr->Expr->(List Stmt)->(List Stmt)->Bool}(h:A6 e q=true)(y:∀a b c d e,q a b c d=true->M (.For a b c d e)):M e:=Stmt.casesOn (motive_2:=λe=>A6 e q=true->M e) e kL kL sM aO aO aH sO aG cM (y) cM aG aG aH aH aH aH cM cM aH aO aG aO aO aO di di di h
noncomputable def Bm(e:Stmt)(q:Expr->(List Stmt)->(List Stmt)->Bool):Bool:=Stmt.casesOn (motive_2:=λe=>Bool) e kH kH sx aB aB aw sy ay cB cB cB (λa b c d=>q a b c) ay aw aw aw aw cB cB aw aB ay aB aB aB cv cv cv
theorem Ph{M:Stmt->Prop}{e:Stmt}{q:Expr->(List Stmt)->(List Stmt)->Bool}(h:Bm e q=true)(y:∀a b c d,q a b c=true->M (.While a b c d)):M e:=Stmt.casesOn (motive_2:=λe=>Bm e q=true->M e) e kL kL sM aO aO aH sO aG cM cM cM (y) aG aH aH aH aH cM cM aH aO aG aO aO aO di di di h
noncomputable def Bg(e:Stmt)(q:Expr->(List Stmt)->(List Stmt)->Bool):Bool:=Stmt.casesOn (motive_2:=λe=>Bool) e kH kH sx aB aB aw sy ay cB cB cB ay (λa b c d=>q a b c) aw aw aw aw cB cB aw aB ay aB aB aB cv cv cv
theorem FO{M:Stmt->Prop}{e:Stmt}{q:Expr->(List Stmt)->(List Stmt)->Bool}(h:Bg e q=true)(y:∀a b c d,q a b c=true->M (.If a b c d)):M e:=Stmt.casesOn (motive_2:=λe=>Bg e q=true->M e) e kL kL sM aO aO aH sO aG cM cM cM aG (y) aH aH aH aH cM cM aH aO aG aO aO aO di di di h
noncomputable def Bf(e:Stmt)(q:Expr->Bool):Bool:=Stmt.casesOn (motive_2:=λe=>Bool) e kH kH sx aB aB aw sy ay cB cB cB ay ay aw aw aw aw cB cB aw aB ay aB aB (λa b=>q a) cv cv cv
theorem Pg{M:Stmt->Prop}{e:Stmt}{q:Expr->Bool}(h:Bf e q=true)(y:∀a b,q a=true->M (.Expr a b)):M e:=Stmt.casesOn (motive_2:=λe=>Bf e q=true->M e) e kL kL sM aO aO aH sO aG cM cM cM aG aG aH aH aH aH cM cM aH aO aG aO aO (y) di di di h
noncomputable def fv(e:Expr):Bool:=Expr.casesOn (motive_1:=λe=>Bool) e aw aw ay aw ay ay aw aw ay ay cB ay aB aB aB ay ay ay aB aw aw aw (λa b=>true) aB aB aw ay
noncomputable def Bi(e:Expr):Bool:=Expr.casesOn (motive_1:=λe=>Bool) e aw aw ay aw ay ay aw aw ay ay cB ay aB aB aB ay ay ay aB aw aw aw aB aB aB aw (λa b c d=>true)
noncomputable def xw(e:Expr):Bool:=Expr.casesOn (motive_1:=λe=>Bool) e aw aw ay aw ay ay aw aw ay ay cB ay aB aB aB ay ay ay aB aw aw aw aB aB (λa b=>true) (λa b c=>true) ay
noncomputable def AZ(e:Expr):Bool:=Expr.casesOn (motive_1:=λe=>Bool) e aw aw ay aw ay ay aw aw (λa b c d=>true) (λa b c d=>true) (λa b c d e=>true) ay aB aB aB ay ay ay aB aw aw aw aB aB aB aw ay
noncomputable def G4(e:Expr):Bool:=Expr.casesOn (motive_1:=λe=>Bool) e aw aw ay aw ay ay aw (λa b c=>true) ay ay cB ay aB aB aB ay ay ay aB aw aw aw aB aB aB aw ay
noncomputable def UY(f:Expr->List Str)(e:Expr):List Str:=Expr.casesOn (motive_1:=λe=>List Str) e (λa b c=>[]) (λa b c=>[]) (λa b c d=>[]) (λa b c=>[]) (λa b c d=>[]) (λa b c d=>[]) (λa b c=>[]) (λa b c=>[]) (λa b c d=>[]) (λa b c d=>[]) (λa b c d e=>[]) (λa b c d=>[]) (λa b=>[]) (λa b=>[]) (λa b=>[]) (λa b c d=>[]) (λa b c d=>[]) (λa b c d=>[]) (λa b=>[]) (λa b c=>[]) (λa b c=>[]) (λa b c=>[]) (λa b=>[]) (λa b=>[a]) (λa b=>[]) (λa b c=>a.flatMap f) (λa b c d=>[])
noncomputable def Rn(e:Expr)(q:Str->Pos->Option Str):Option Str:=Expr.casesOn (motive_1:=λe=>Option Str) e (λa b c=>none) (λa b c=>none) (λa b c d=>none) (λa b c=>none) (λa b c d=>none) (λa b c d=>none) (λa b c=>none) (λa b c=>none) (λa b c d=>none) (λa b c d=>none) (λa b c d e=>none) (λa b c d=>none) (λa b=>none) (λa b=>none) (λa b=>none) (λa b c d=>none) (λa b c d=>none) (λa b c d=>none) (λa b=>none) (λa b c=>none) (λa b c=>none) (λa b c=>none) (λa b=>none) (λa b=>q a b) (λa b=>none) (λa b c=>none) (λa b c d=>none)
noncomputable def Bc(e:Ex):Bool:=Ex.casesOn (motive_1:=λe=>Bool) e cv (λa=>V.casesOn (motive_1:=λe=>Bool) a true cv cv cv cv cv aB cv) cv aw aw cB cv cv cv aw aB aB aB aw aB aB aw cv cv cv aB aB
noncomputable def OM(q:Expr->List Comprehension->Scope->Pos->Prop)(e:Expr):Prop:=Expr.casesOn (motive_1:=λe=>Prop) e (λa b c=>True) (λa b c=>True) (λa b c d=>True) (λa b c=>True) (λa b c d=>True) (λa b c d=>True) (λa b c=>True) (λa b c=>True) (λa b c d=>q a b c d) (λa b c d=>True) (λa b c d e=>True) (λa b c d=>True) (λa b=>True) (λa b=>True) (λa b=>True) (λa b c d=>True) (λa b c d=>True) (λa b c d=>True) (λa b=>True) (λa b c=>True) (λa b c=>True) (λa b c=>True) (λa b=>True) (λa b=>True) (λa b=>True) (λa b c=>True) (λa b c d=>True)
noncomputable def np(l:List α)(q:α->Bool):Bool:=l.casesOn false λa l=>l.isEmpty&&q a
noncomputable def xB(l:List α)(q:α->α->Bool):Bool:=l.casesOn false λa l=>np l (q a)
noncomputable def Bh(d:Data)(q:Array Value->Nat->Bool):Bool:=d.casesOn false cv q aB aw aB cv cv cv cv false
theorem Pl{M:Data->Prop}{d:Data}{q:Array Value->Nat->Bool}(h:Bh d q=true)(y:∀a b,q a b=true->M (.seq a b)):M d:=d.casesOn (motive:=λd=>Bh d q=true->M d) bE di y aO aH aO di di di di bE h
noncomputable def A7(d:Data)(q:FuncData->Bool):Bool:=d.casesOn false cv aB aB aw aB cv q cv cv false
theorem Pi{M:Data->Prop}{d:Data}{q:FuncData->Bool}(h:A7 d q=true)(y:∀a,q a=true->M (.func a)):M d:=d.casesOn (motive:=λd=>A7 d q=true->M d) bE di aO aO aH aO di y di di bE h
noncomputable def xz(v:Value)(q:Str->Bool):Bool:=v.casesOn false false false cv aB aB (λs _=>q s) aB cv cv cv
theorem Pm{M:Value->Prop}{v:Value}{q:Str->Bool}(h:xz v q=true)(y:∀a b,q a=true->M (.str a b)):M v:=v.casesOn (motive:=λv=>xz v q=true->M v) bE bE bE di aO aO y aO di di di h
noncomputable def Ba(v:Value)(q:Int->Bool):Bool:=v.casesOn false false false cv (λi _=>q i) aB aB aB cv cv cv
theorem Pj{M:Value->Prop}{v:Value}{q:Int->Bool}(h:Ba v q=true)(y:∀a b,q a=true->M (.int a b)):M v:=v.casesOn (motive:=λv=>Ba v q=true->M v) bE bE bE di y aO aO aO di di di h
noncomputable def Bd(v:Value)(q:Addr->Bool):Bool:=v.casesOn false false false cv aB aB aB aB cv cv q
theorem Pk{M:Value->Prop}{v:Value}{q:Addr->Bool}(h:Bd v q=true)(y:∀a,q a=true->M (.ref a)):M v:=v.casesOn (motive:=λv=>Bd v q=true->M v) bE bE bE di aO aO aO aO di di y h
noncomputable def ip(o:Option α)(q:α->Bool):Bool:=o.casesOn false q
theorem xc{M:List α->Prop}{l:List α}(h:l.isEmpty=true)(y:M []):M l:=Zo h▸y
theorem sk{M:List α->Prop}{l:List α}{q:α->Bool}(h:np l q=true)(y:∀a,q a=true->M [a]):M l:=by
 rcases l with _ | ⟨a,l⟩
 ·exact bE h
 ·exact xc (M:=λl=>M (a::l)) (YF h).1 (y a (YF h).2)
theorem Am{M:List α->Prop}{l:List α}{q:α->α->Bool}(h:xB l q=true)(y:∀a b,q a b=true->M [a,b]):M l:=by
 rcases l with _ | ⟨a,l⟩
 ·exact bE h
 ·exact sk (M:=λl=>M (a::l)) (q:=q a) h (y a)
theorem m5{M:Option α->Prop}{o:Option α}{q:α->Bool}(h:ip o q=true)(y:∀a,q a=true->M (some a)):M o:=by
 rcases o with _ |a
 ·exact bE h
 ·exact y a h
theorem qr{M:Option α->Prop}{o:Option α}(h:o.isNone=true)(y:M none):M o:=Zy h▸y
theorem oT[BEq α][LawfulBEq α]{M:α->Prop}{a b:α}(h:(a==b)=true)(y:M b):M a:=Xx h▸y
theorem bV{a b:Bool}(h:(a&&b)=true):a=true/\b=true:=YF h
theorem cY{a b c:Bool}(h:(a&&b&&c)=true):a=true/\b=true/\c=true:=⟨(bV (bV h).1).1,(bV (bV h).1).2,(bV h).2⟩
theorem eQ{a b c d:Bool}(h:(a&&b&&c&&d)=true):a=true/\b=true/\c=true/\d=true:=have x:=cY (bV h).1;⟨x.1,x.2.1,x.2.2,(bV h).2⟩
theorem qj{a b c d e:Bool}(h:(a&&b&&c&&d&&e)=true):a=true/\b=true/\c=true/\d=true/\e=true:=have x:=eQ (bV h).1;⟨x.1,x.2.1,x.2.2.1,x.2.2.2,(bV h).2⟩
theorem ut{a b c d e f:Bool}(h:(a&&b&&c&&d&&e&&f)=true):a=true/\b=true/\c=true/\d=true/\e=true/\f=true:=have x:=qj (bV h).1;⟨x.1,x.2.1,x.2.2.1,x.2.2.2.1,x.2.2.2.2,(bV h).2⟩
theorem N7{a b c d e f g:Bool}(h:(a&&b&&c&&d&&e&&f&&g)=true):a=true/\b=true/\c=true/\d=true/\e=true/\f=true/\g=true:=have x:=ut (bV h).1;⟨x.1,x.2.1,x.2.2.1,x.2.2.2.1,x.2.2.2.2.1,x.2.2.2.2.2,(bV h).2⟩
theorem i7{b:Bool}(h:(!b)=true):b=false:=(Bool.not_eq_true' _).mp h
noncomputable def cx(f:α->β->Bool)(es:List α)(xs:List β):Bool:=es.length==xs.length&&(es.zip xs).all λp=>f p.1 p.2
theorem kC{f:α->β->Bool}{es:List α}{M:List α->Prop}(h:cx f es []=true)(y:M []):M es:=Zf (Xx (bV h).1)▸y
theorem wZ{f:α->β->Bool}{a:β}{xs:List β}{e:α}{es:List α}(h:cx f (e::es) (a::xs)=true):f e a=true/\cx f es xs=true:=
 have k:=bV h;⟨(bV k.2).1,Zh ⟨beq_iff_eq.mpr (Nat.succ.inj (Xx k.1)),(bV k.2).2⟩⟩
theorem iL{f:α->β->Bool}{a:β}{xs:List β}{es:List α}{M:List α->Prop}(h:cx f es (a::xs)=true)(y:∀e1 es,f e1 a=true->cx f es xs=true->M (e1::es)):M es:=by
 rcases es with _ | ⟨e,es⟩
 ·exact absurd (Xx (bV h).1) (Nat.succ_ne_zero _).symm
 ·exact y e es (wZ h).1 (wZ h).2
theorem wY{f:α->β->Bool}{es:List α}{xs:List β}(h:cx f es xs=true):es.length=xs.length:=Xx (bV h).1
theorem Vz{f:α->β->Bool}{p:α->Bool}(hp:∀a b,f a b=true->p a=true){es:List α}:∀{xs:List β},cx f es xs=true->es.all p=true:=by
 induction es with
 |nil=>exact λ_=>rfl
 |cons e es ih=>
  intro xs h
  rcases xs with _ | ⟨x,xs⟩
  ·exact absurd (wY h) (Nat.succ_ne_zero _)
  ·rw[YN,hp _ _ (wZ h).1,ih (wZ h).2];rfl
noncomputable def uQ(K:Frag)(v:Value):Bool:=match v with
 | .builtin _=>true
 | .type _=>true
 |v=>keepIn K v
noncomputable def mo(K:Frag)(x:Str):Option Value:=if x=="__name__" then none else(nsIn K mainGlobals x).bind λo=>o.elim (bootBuiltins x) some
noncomputable def jX(L:dx)(c:Sc)(e:Expr)(v:Value):Bool:=mr e λid _=>mo L.VJ id==some v&&c.dD.lookup id==some .globalImplicit&& !(id==("__debug__":Str))&&uQ L.VJ v
noncomputable def FB(k:Const)(v:V):Bool:=match v with
 | .n=>(match k with | .none=>true |_=>false)
 | .b b=>(match k with | .bool a=>a==b |_=>false)
 | .i b=>(match k with | .int a=>a==b |_=>false)
 | .s b=>(match k with | .str a=>a==bp b |_=>false)
 |_=>false
noncomputable def Rt(k:Const)(v:V):Bool:=match v with | .i b=>(match k with | .int a=>b== -a |_=>false) |_=>false
noncomputable def Qd(k:Const):Bool:=match k with | .int a=>a==1 |_=>false
noncomputable def sP(e:Expr):Bool:=!(jW e λf as ks _=>(mr f λ_ _=>true)&&as.isEmpty&&ks.isEmpty)
noncomputable def CN(n:Nat):Expr->List Str:=match n with
 |0=>λ_=>[]
 |n+1=>UY (CN n)
noncomputable def vB(n:Nat)(t:Tg):List Nat:=match n with
 |0=>[]
 |n+1=>match t with
  | .v i=>[i]
  | .t ts=>ts.flatMap (vB n)
  |_=>[]
noncomputable def jo.WX:jo->Tg | .m t _ _=>t
noncomputable def m9(gs:List jo):List Nat:=gs.flatMap λg=>vB 4 g.WX
noncomputable def yg(names outer:List (Str×NameKind)):List (Str×NameKind):=names.map λx=>(x.1,if x.2==.free&&outer.lookup x.1==some .cell then .cell else x.2)
noncomputable def xn(names:List (Str×NameKind)):List Str:=((names.filter λx=>x.2==.free).map (·.1)).reverse
noncomputable def BZ(c:Sc):Bool:=
 decide (c.VM.map (·.1)).Nodup&&decide (c.VM.map (·.2)).Nodup&&decide c.jO.Nodup&&
 c.VM.all λx=>!(x.1==("__debug__":Str))&& !(x.1==("__classdict__":Str))&&
  (c.dD.lookup x.1==some .local||((c.dD.lookup x.1==some .cell||c.dD.lookup x.1==some .free)&&c.jO.contains x.1))
noncomputable def kD(c:Sc)(scope:Scope)(own:List (Str×Nat)):Sc where
 dD:=yg scope.names c.dD
 jO:=xn scope.names
 VM:=own++c.VM.filter λx=>(xn scope.names).contains x.1
 dm:=own.map (·.2)++c.dm
noncomputable def Iv(c:Sc)(scope:Scope)(own:List (Str×Nat)):Bool:=
 scope.kind==.function&&scope.names.all (λx=>x.2 !=.cell&&(x.2 !=.local||scope.names.lookup x.1==some .local)&&(x.2 !=.free||(scope.names.lookup x.1==some .free&&c.jO.contains x.1&&(c.dD.lookup x.1==some .cell||c.dD.lookup x.1==some .free))))&&
 own.all (λx=>scope.names.lookup x.1==some .local&& !c.dm.contains x.2)&&BZ (kD c scope own)
noncomputable def qn(loc:Bool)(n:Nat)(c:Sc)(e:Expr)(t:Tg):Bool:=match n with
 |0=>false
 |n+1=>match t with
  | .v i=>mr e λid _=>c.VM.contains (id,i)&&c.dD.lookup id !=some .free&&(!loc||c.dD.lookup id==some .local)
  | .t ts=>qx e λes=>cx (qn loc n c) es ts&&es.all (!fv ·)
  |_=>false
noncomputable def uy(L:dx)(f:Expr->Ex->Bool)(c:Sc)(e:Expr)(i:It):Bool:=!G4 e&&match i with
 | .e x=>f e x
 | .r args=>jW e λg as ks p=>ks.isEmpty&&jX L c g (.type "range")&&cx f as args
 | .n y=>jW e λg as ks p=>ks.isEmpty&&jX L c g (.type "enumerate")&&cx f as [y]
noncomputable def zZ(L:dx)(f:Sc->Expr->Ex->Bool)(c1 c:Sc)(g:Comprehension)(gn:jo):Bool:=match gn with
 | .m t it ifs=>uy L (f c1) c1 g.iter it&&qn true 4 c g.target t&&cx (f c) g.ifs ifs&&g.is_async==0
noncomputable def o9(gs:List Comprehension)(ts:List jo):List (Str×Nat):=(gs.flatMap λg=>CN 4 g.target).zip (m9 ts)
noncomputable def Fh(L:dx)(f:Sc->Expr->Ex->Bool)(c:Sc)(elt':Expr)(gs:List Comprehension)(scope:Scope)(elt:Ex)(ts:List jo):Bool:=
 gs.casesOn false λg gs'=>ts.casesOn false λt ts'=>Iv c scope (o9 gs ts)&&((gs.flatMap λg=>CN 4 g.target).length==(m9 ts).length)&&zZ L f c (kD c scope (o9 gs ts)) g t&&
  cx (zZ L f (kD c scope (o9 gs ts)) (kD c scope (o9 gs ts))) gs' ts'&&f (kD c scope (o9 gs ts)) elt' elt
noncomputable def Fi(f:Expr->Ex->Bool)(k:Option Expr)(p:Ex×Ex):Bool:=ip k λk=>f k p.1
noncomputable def cg(L:dx)(n:Nat)(c:Sc)(e:Expr)(x:Ex):Bool:=match n with
 |0=>false
 |n+1=>match x with
  | .v i=>mr e λid _=>c.VM.contains (id,i)
  | .c v=>uO e (λk=>FB k v)||uP e λo y=>o==.USub&&uO y λk=>Rt k v
  | .h k=>mr e λid _=>id==L.gn k&&c.dD.lookup id==some .globalImplicit&& !(id==("__debug__":Str))
  | .f t a b=>A9 e λt' a' b'=>cg L n c t' t&&cg L n c a' a&&cg L n c b' b
  | .p op a b=>xv e λl os rs=>np os λo=>np rs λr=>o==fN op&&cg L n c l a&&cg L n c r b&& !behindInMarks o r
  | .q op1 op2 a b d=>xv e λl os rs=>xB os λo1 o2=>xB rs λr1 r2=>o1==fN op1&&o2==fN op2&&cg L n c l a&&cg L n c r1 b&&cg L n c r2 d&& !behindInMarks o2 r2
  | .n xs=>nj e λo es=>o==.And&&cx (cg L n c) es xs
  | .r xs=>nj e λo es=>o==.Or&&cx (cg L n c) es xs
  | .j a=>uP e λo y=>o==.Not&&cg L n c y a
  | .i op a b=>AY e λl o r=>o==zY op&&cg L n c l a&&cg L n c r b
  | .l k args=>jW e λf es ks p=>ks.isEmpty&&jX L c f (.ref (L.fn k))&&cx (cg L n c) es args
  | .w k args=>jW e λf es ks p=>ks.isEmpty&&jX L c f (.ref (L.aF.VL k))&&cx (cg L n c) es args
  | .b b args=>jW e λf es ks p=>ks.isEmpty&&jX L c f (zX b)&&match b with
    | .S=>xB es λe1 e2=>np args λa=>cg L n c e1 a&&jX L c e2 (.type "str")
    | .r=>np es λy=>np args λa=>jW y λg gs ks p=>ks.isEmpty&&jX L c g (.type "set")&&np gs λy1=>cg L n c y1 a
    |_=>cx (cg L n c) es args
  | .m m o args=>jW e λf es ks p=>sD f λo' m' ap=>ks.isEmpty&&m'==L.ct m&&cg L n c o' o&&cx (cg L n c) es args&&sP o'&&ap.endLine==p.line&&decide (es.length < 30)
  | .a m o=>sD e λo' m' p=>m'==L.ct m&&cg L n c o' o&&sP o'
  | .s o i=>sF e λo' i'=>cg L n c o' o&&cg L n c i' i&& !Bi i'
  | .e o lo hi=>sF e λo' i'=>xy i' λl u s=>s.isNone&&cg L n c o' o&&match lo with
    |some lo=>hi.isNone&&u.isNone&&ip l λl=>cg L n c l lo
    |none=>l.isNone&&ip hi λhi=>ip u λu=>cg L n c u hi
  | .k o=>sF e λo' i'=>xy i' λl u s=>l.isNone&&u.isNone&&cg L n c o' o&&ip s λz=>uP z λo y=>o==.USub&&uO y Qd
  | .t xs=>qx e λes=>cx (cg L n c) es xs&&decide (es.length<=1000)
  | .d xs=>Bb e λes=>cx (cg L n c) es xs&&decide (es.length<=1000)
  | .g k kvs=>A5 e λks vs=>cx (Fi (cg L n c)) ks kvs&&cx (λv p=>cg L n c v p.2) vs kvs&&decide (ks.length<=15)&&(!k.K0||kvs.isEmpty)
  | .o elt gens=>uN e λelt' gs scope _=>Fh L (cg L n) c elt' gs scope elt gens
noncomputable def oP(L:dx)(f:Expr->Ex->Bool)(d:Nat)(c:Sc)(e:Expr)(t:Tg):Bool:=match d with
 |0=>false
 |d+1=>match t with
  | .v i=>mr e λid _=>c.VM.contains (id,i)&&c.dD.lookup id !=some .free
  | .a m o=>sD e λo' m' _=>m'==L.ct m&&f o' o
  | .s o i=>sF e λo' i'=>f o' o&&f i' i&& !Bi i'
  | .t ts=>qx e λes=>cx (oP L f d c) es ts&&es.all (!fv ·)
noncomputable def jZ(c:Sc)(line:Nat)(e:Expr):Option Str:=Rn e λid pos=>if c.dD.lookup id==some .local&&pos.line==line then some id else none
noncomputable def BB(ts:List Expr):Nat:=(ts.head?.map (·.pos.line)).getD 0
noncomputable def iC(c:Sc)(ts:List Expr):List Str:=ts.filterMap (jZ c (BB ts))
noncomputable def Kj(c:Sc)(ts vs:List Expr):Bool:=
 (ts.length==2||ts.length==3)&&vs.length==ts.length&&vs.all (!fv ·)&&(iC c ts).length==ts.length&&(iC c ts).eraseDups.length==(iC c ts).length&&decide (iC c ts).Nodup&&
  !(vs.all (foldedForSure 8))&& !(vs.all (constantsAlone 8))
noncomputable def tu(c:Sc)(scope:Scope)(vpos:Pos)(t:Str)(tpos:Pos):Bool:=c.dD.lookup t==some .local&&tpos.line==vpos.line&& !(scope.names.any λx=>x.1==t&&(x.2==.local||x.2==.cell))
noncomputable def U9(c:Sc)(tg value:Expr):Bool:=uN value λ_ _ sc vp=>mr tg λt tp=>tu c sc vp t tp
noncomputable def IL(c:Sc)(tg value:Expr):Bool:=!AZ value||uN value λ_ _ sc vp=>!(mr tg λt tp=>tu c sc vp t tp)
noncomputable def Ox(L:dx)(d:Nat)(c:Sc)(tg value:Expr)(t:Tg)(e:Ex):Bool:=
 cg L d c value e&&oP L (cg L d c) 4 c tg t&&(U9 c tg value||(IL c tg value&&
  (!xw tg||(qx tg λts=>!xw value||(qx value λvs=>(iC c ts).length !=ts.length||Kj c ts vs)))))
noncomputable def mh(L:dx)(d n:Nat)(c:Sc)(s:Stmt)(t:St):Bool:=match n with
 |0=>false
 |n+1=>match t with
  | .s=>true
  | .a t e=>AX s λtgs value=>np tgs λtg=>Ox L d c tg value t e
  | .e e=>Bf s λvalue=>cg L d c value e&& !AZ value
  | .i t a b=>Bg s λtest body orelse=>cg L d c test t&&cx (mh L d n c) body a&&cx (mh L d n c) orelse b
  | .w t b=>Bm s λtest body els=>els.isEmpty&&cg L d c test t&&cx (mh L d n c) body b
  | .l t it b=>A6 s λtg iter body els=>els.isEmpty&&uy L (cg L d c) c iter it&&qn false 4 c tg t&&cx (mh L d n c) body b
  | .r e=>Be s λv=>ip v (λv=>cg L d c v e)||(v.isNone&&Bc e)
noncomputable def w0(names:List (Str×NameKind)):List Str:=((names.filter λx=>x.2==.cell).map (·.1)).reverse
structure od(L:dx)(a:Addr)(f:Fn) where
 Xf:Obj
 Wa:FuncData
 Lq:List Stmt
 lb:List Str
 V9:Sc
 Lo:L.VJ.lookup a=some Xf
 Ly:Xf.data=.func Wa
 Lx:∀h:Heap,L.VJ.In h->h.CodeRec Wa.code Wa.qualname
 Lr:Wa.body=.stmts Lq
 Lp:∀vals:List Value,vals.length=f.mM->bindArgs Wa ⟨vals,[]⟩=pure (lb.zip vals)
 vY:lb.length=f.mM
 Lv:Wa.closure=[]
 co:Wa.scope.isCoroutine=false
 Lz:Wa.scope.isGenerator=false
 Dr:Wa.scope.kind=.function
 LA:Wa.globals=mainGlobals
 Ls:Wa.builtins=builtinsNs
 yW:Wa.scope.names=V9.dD
 Dq:w0 Wa.scope.names=V9.jO
 sc:wF V9
 dm:∀x∈V9.VM,x.2∈V9.dm
 LB:∀x∈V9.dD,x.2≠.free
 Ds:lb.Nodup
 yX:∀j p,lb[j]? =some p->(p,j)∈V9.VM
 Lu:cx (mh L EF SF V9) Lq f.dZ=true
set_option backward.match.sparseCases true
structure rB(Z:Cx):Prop where
 V4:Z.KF.VJ.In Z.cS
 rD:qb Z.cS
 rC:j9 Z.KF
 LQ:∃mg mb,Z.cS.Ns mainGlobals mg/\Z.cS.Ns builtinsNs mb/\∀x:Str,x≠"__name__"->mb x=bootBuiltins x
 LP:Z.cS.NoLimit
 Dv:∀k f,yq k=some f->Nonempty (od Z.KF (Z.KF.fn k) f)
 LO:∀k V,Kp k=some V->∃v,mo Z.KF.VJ (Z.KF.gn k)=some v/\aS Z.KF.aF Z.cS [] V v
noncomputable def Rm(N:Nat)(A:Around):Prop:=A.handled=none/\A.depth+3 * N+9<=900/\A.units+20 * N+1095<=cLine
noncomputable def t8(N:Nat)(A:Around):Prop:=A.handled=none/\A.depth+3 * N+7<=900/\A.units+20 * N+1080<=cLine
structure Wh where
 Vk:Cx
 VK:Sc
 aE:PySem.Env
 VU:Around
noncomputable abbrev Wh.wp(w:Wh)(m:Sem α)(Q:α->Shared->Prop)(s:Shared):Prop:=Wp w.Vk w.VU m Q s
structure Ok(w:Wh)(d:Nat):Prop where
 VP:rB w.Vk
 X:fE w.VK w.aE
 VT:Rm d w.VU
structure At(w:Wh)(ρ:aA)(s:Shared)(μ:List Addr)(σ:aj):Prop where
 bH:aU w.Vk s.heap μ σ
 VS:eK w.Vk.KF.aF w.Vk.cS s.heap μ w.aE w.VK.VM ρ
 mH:∀i v,ρ i=some v->i∈w.VK.dm
inductive RT(Z:Cx)(s:Shared)(μ:List Addr)(b:Bool)(σ':aj)(v:Bool)(s':Shared):Prop
 |mk (e:v=b) (μ':List Addr) (st:br Z s μ s' μ' σ')
noncomputable def ck(w:Wh)(ρ:aA)(σ:aj)(e:Expr)(x:V)(σ':aj):Prop:=∀s μ,At w ρ s μ σ->w.wp (eval e w.aE) (R1 w.Vk s μ x σ') s
noncomputable def l8(w:Wh)(ρ:aA)(σ:aj)(e:Expr)(b:Bool)(σ':aj):Prop:=∀s μ,At w ρ s μ σ->w.wp (isTrue e w.aE (eval e w.aE)) (RT w.Vk s μ b σ') s
inductive KZ(w:Wh)(s:Shared)(μ:List Addr)(x:V)(σ':aj)(D B:Addr)(s':Shared):Prop
 |mk (μ':List Addr) (st:br w.Vk s μ s' μ' σ') (r:aS w.Vk.KF.aF s'.heap μ' x (.ref D)) (h1:s.heap.get? B=none) (h2:B∉μ') (h3:w.Vk.cS.get? B=none) (h4:∃m,s'.heap.Ns B m)
noncomputable def wO(w:Wh)(ρ:aA)(σ:aj)(x:V)(σ':aj)(elt:Expr)(gs:List Comprehension)(scope:Scope)(pos:Pos):Prop:=∀(use:Option (Value->Sem Unit)) (Q:Value->Shared->Prop) s μ,At w ρ s μ σ->
 (∀s' D B f,KZ w s μ x σ' D B s'->compPost (model w.Vk.bK w.Vk.VI) w.VU NE use Q (.ref D) B (.ok f) s')->∀pos',w.wp (comprehension (.ListComp elt gs scope pos) scope w.aE pos' (newList []) (firstAsync gs) (firstIter gs w.aE) use) Q s
noncomputable def CU(w:Wh)(ρ:aA)(σ:aj)(x:V)(σ':aj)(e:Expr):Prop:=OM (wO w ρ σ x σ') e
structure bj(w:Wh)(ρ:aA)(σ:aj)(x:V)(σ':aj)(e:Expr):Prop where
 ev:ck w ρ σ e x σ'
 V1:∀b,x=.b b->l8 w ρ σ e b σ'
 cu:CU w ρ σ x σ' e
noncomputable def Ev(d n:Nat)(e:Ex)(ρ:aA)(σ:aj)(v:V)(σ':aj):Prop:=∀w,Ok w d->∀e',cg w.Vk.KF n w.VK e' e=true->bj w ρ σ v σ' e'
section
variable {w:Wh}{s:Shared}{x y z:V}{b t r:Bool}{d n i k:Nat}{c:Sc}{p:Pos}
theorem uj{a:Bool}(h:V.b a=V.b b):a=b:=by injection h
theorem Rm.V7(h:Rm d A):Rq A:=⟨h.1,XB (vh (x4 iO rfl)) h.2.2⟩
theorem At.gS(a:At w ρ s μ σ)(st:br w.Vk s μ s' μ' σ'):At w ρ s' μ' σ':=⟨st.eN,a.VS.LG st.bJ,a.mH⟩
theorem RT.zw{v:Bool}(st:br Z s μ s' μ' σ')(r:RT Z s' μ' b σ₁ v s''):RT Z s μ b σ₁ v s'':=r.casesOn λe m h=>⟨e,m,st.d0 h⟩
theorem R1.rM{v:Value}(r:R1 Z s μ (.b t) σ₁ v s'):v=.bool t/\RT Z s μ t σ₁ t s':=r.casesOn λm st r=>⟨r,rfl,m,st⟩
theorem zx{m:Sem Bool}(st:br Z s μ s' μ' σ')(h:Wp Z A m (RT Z s' μ' b σ₁) s'):Wp Z A m (RT Z s μ b σ₁) s':=h.bZ λ_ _ r=>r.zw st
theorem ck.to{e:Expr}(h:ck w ρ σ e x σ₁)(a:At w ρ s μ σ)(k:∀v s' μ',At w ρ s' μ' σ₁->br w.Vk s μ s' μ' σ₁->aS w.Vk.KF.aF s'.heap μ' x v->Q v s'):w.wp (eval e w.aE) Q s:=
 (h s μ a).bZ λv s' r=>r.casesOn λm st r=>k v s' m (a.gS st) st r
theorem ck.ic{e:Expr}(h:ck w ρ σ e x σ₁)(a:At w ρ s μ σ){f:Value->Sem α}{Q:α->Shared->Prop}(k:∀v s' μ',At w ρ s' μ' σ₁->br w.Vk s μ s' μ' σ₁->aS w.Vk.KF.aF s'.heap μ' x v->w.wp (f v) Q s'):w.wp (eval e w.aE>>=f) Q s:=Xj (h.to a k)
theorem l8.to{e:Expr}(h:l8 w ρ σ e b σ₁)(a:At w ρ s μ σ){Q:Bool->Shared->Prop}(k:∀s' μ',At w ρ s' μ' σ₁->br w.Vk s μ s' μ' σ₁->Q b s'):w.wp (isTrue e w.aE (eval e w.aE)) Q s:=
 (h s μ a).bZ λv s' r=>r.casesOn λq m st=>q▸k s' m (a.gS st) st
theorem fb{e:Expr}(he:isTrue e w.aE (eval e w.aE)=(do let v<-eval e w.aE;standAt e.pos;holding [v] (truthy v)))(cu:CU w ρ σ x σ₁ e)(h:ck w ρ σ e x σ₁):bj w ρ σ x σ₁ e:=
 ⟨h,λb q s μ a=>wpAny_isTrue_value ((h s μ a).bZ λv s₁ r=>by subst q;obtain⟨rfl,q⟩:=r.rM;exact YM q) he,cu⟩
theorem Oi{h:Heap}(I:aU Z h μ σ):dw Z.cS [] h μ:=⟨λb o hb _=>I.dM b o hb,List.nil_prefix,λb hb=>.inr (I.jG b hb)⟩
theorem sK(O:Ok w d)(I:aU w.Vk s.heap μ σ){x:Str}{v:Value}(hv:mo w.Vk.KF.VJ x=some v)(hk:w.VK.dD.lookup x=some .globalImplicit)(hd:(x==("__debug__":Str))=false)(q:Q v s):wpAny (model w.Vk.bK w.Vk.VI) A (eval (.Name x p) w.aE) Q E s:=by
 obtain⟨mg,mb,g1,g2,g3⟩:=O.VP.LQ
 refine Name_function_global O.X.fn ((nv O.X x).trans hk) ?_ hd
 have k1:s.heap.Ns w.aE.globals mg:=by rw[O.X.yI];exact g1.at' λo=>I.dM _ o
 unfold mo at hv
 split at hv
 ·exact bN hv
 ·next hn=>
  refine az (Zw hv) λo h1 h2=>?_
  rcases o with _ |u
  ·exact loadGlobal_builtin k1 (mg_none_of O.VP.V4 g1 h1) (by rw[O.X.yG];exact g2.at' λo=>I.dM _ o) ((g3 x λe=>hn (e▸beq_self_eq_true _)).trans h2) q
  ·exact loadGlobal_global k1 (mg_of O.VP.V4 g1 h1) (Xs h2▸q)
theorem af{v:V}(h:ρ i=some v):Ev d (n+1) (.v i) ρ σ v σ:=λw O e c=>
 oS (M:=bj w ρ σ v σ) c λid p c=>fb rfl trivial λs μ a=>QX (x:=(id,i)) a.bH O.X a.VS (List.contains_iff_mem.mp c) h
theorem vU(h:Kp k=some x):Ev d (n+1) (.h k) ρ σ x σ:=λw O e c=>
 oS (M:=bj w ρ σ x σ) c λid p c=>fb rfl trivial λs μ a=>by
  refine cN (cY c) λc1 c2 c3=>?_
  refine az (O.VP.LO k x h) λv hv rv=>?_
  rw[<-Xx c1]at hv
  exact sK O a.bH hv (Xx c2) (i7 c3) (.id a.bH (aS.cE (Oi a.bH) x rv))
theorem OL{kc:Const}(h:FB kc x=true):ck w ρ σ (.Constant kc kd p) x σ:=λs μ a=>by
 rcases x with _ |v |v |v |_ |_ |_ |_<;>first |exact bE h |skip
 ·rcases kc with _ |_ |_ |_ |_ |_ |_ |_<;>first |exact bE h |exact wpAny_Constant_none (.id a.bH rfl)
 ·rcases kc with _ |_ |_ |_ |_ |_ |_ |_<;>first |exact bE h | (cases Xx h;exact wpAny_Constant_bool (.id a.bH rfl))
 ·rcases kc with _ |_ |_ |_ |_ |_ |_ |_<;>first |exact bE h | (cases Xx h;exact wpAny_Constant_int (.jL a.bH))
 ·rcases kc with _ |_ |_ |_ |_ |_ |_ |_<;>first |exact bE h | (cases Xx h;exact wpAny_Constant_str (.tX a.bH))
theorem Ie{k:Int}(q:Q (.int (-k) (s.toks+1)) {s with toks:=s.toks+1+1}):w.wp (eval (.UnaryOp .USub (.Constant (.int k) kd p) p') w.aE) Q s:=by
 rw[arm_eval_UnaryOp]
 exact Xj (wpAny_Constant_int (Xj (X0 (XI (PyProof.Rows.neg_int q)))))
theorem aq{v:V}:Ev d (n+1) (.c v) ρ σ v σ:=λw O e c=>(Yq c).elim
 (λc=>Aj (M:=bj w ρ σ v σ) c λk kd p c=>fb rfl trivial (OL c))
 λc=>Al (M:=bj w ρ σ v σ) c λo y p c=>oT (M:=λo=>bj w ρ σ v σ (.UnaryOp o y p)) (bV c).1 (Aj (M:=λy=>bj w ρ σ v σ (.UnaryOp .USub y p)) (bV c).2 λk kd p2 c=>fb rfl trivial λs μ a=>by
  rcases v with _ |_ |m |_ |_ |_ |_ |_<;>first |exact bE c |skip
  rcases k with _ |_ |j |_ |_ |_ |_ |_<;>first |exact bE c |skip
  obtain rfl:m= -j:=Xx c
  exact Ie (.jL a.bH))
section
variable {l r1 r2:Expr}{op op2:pA}
theorem Ff{u:Value}{o:CmpOp}{r:Sem Value}:compareChain p u [o] [r]=(do
  let rv<-holding [u] r
  standAt p
  operate [u,rv] (compareOp o u rv)):=rfl
theorem Kn{u:Value}{o:CmpOp}{r:Sem Value}:testChain p u [o] [r]=(do
  let rv<-holding [u] r
  standAt p
  let c<-operate [u,rv] (compareOp o u rv)
  holding [c] (truthy c)):=rfl
theorem cc2{u:Value}{o:CmpOp}{r r2:Sem Value}:compareChain p u [o,o2] [r,r2]=(do
  let rv<-holding [u] r
  standAt p
  let c<-holding [u,rv] (compareOp o u rv)
  release [u,rv] [c]
  if<-holding [c,rv] (truthy c)then compareChain p rv [o2] [r2]else pure c):=rfl
theorem tc2{u:Value}{o:CmpOp}{r r2:Sem Value}:testChain p u [o,o2] [r,r2]=(do
  let rv<-holding [u] r
  standAt p
  let c<-holding [u,rv] (compareOp o u rv)
  release [u,rv] [c]
  if<-holding [c,rv] (truthy c)then testChain p rv [o2] [r2]else pure false):=rfl
theorem ck.La(O:Ok w d)(hl:ck w ρ σ l x σ₁)(hr:ck w ρ σ₁ r1 y σ₂)(hm:behindInMarks (fN op) r1=false)(hc:gW σ₂ op x y=some t)(hd:dI op x):ck w ρ σ (.Compare l [fN op] [r1] p) (.b t) σ₂:=λs μ a=>by
 rw[arm_eval_Compare]
 refine hl.ic a λu s₁ m₁ a₁ e₁ ru=>?_
 refine(?_:w.wp (compareChain p u [fN op] [markedBehindIn (fN op) r1 (eval r1 w.aE)]) _ s₁)
 rw[markedBehindIn_of_false hm,Ff]
 exact Xj (XI (hr.to a₁ λv s₂ m₂ a₂ e₂ rv=>Xj (X0 (wpAny_operating (lA (e₁.d0 e₂) (se O.VT.V7 a₂.bH (ru.cE e₂.bJ) rv hc hd))))))
theorem l8.NK(O:Ok w d)(hl:ck w ρ σ l x σ₁)(hr:ck w ρ σ₁ r1 y σ₂)(hm:behindInMarks (fN op) r1=false)(hc:gW σ₂ op x y=some t)(hd:dI op x):l8 w ρ σ (.Compare l [fN op] [r1] p) t σ₂:=λs μ a=>by
 rw[arm_isTrue_Compare]
 refine hl.ic a λu s₁ m₁ a₁ e₁ ru=>?_
 refine(?_:w.wp (testChain p u [fN op] [markedBehindIn (fN op) r1 (eval r1 w.aE)]) _ s₁)
 rw[markedBehindIn_of_false hm,Kn]
 refine Xj (XI (hr.to a₁ λv s₂ m₂ a₂ e₂ rv=>Xj (X0 (Xj (wpAny_operating ((se O.VT.V7 a₂.bH (ru.cE e₂.bJ) rv hc hd).bZ λx s₃ r=>?_))))))
 obtain⟨rfl,hb⟩:=r.rM
 exact XI (YM (hb.zw (e₁.d0 e₂)))
theorem aY{a b:Ex}{u:V}(h:Ev d n a ρ σ u σ₁)(h2:Ev d n b ρ σ₁ y σ₂)(hc:gW σ₂ op u y=some r)(hd:dI op u):Ev d (n+1) (.p op a b) ρ σ (.b r) σ₂:=λw O e c=>
 FL (M:=bj w ρ σ (.b r) σ₂) c λl os rs p c=>sk (M:=λos=>bj w ρ σ (.b r) σ₂ (.Compare l os rs p)) c λo c=>sk (M:=λrs=>bj w ρ σ (.b r) σ₂ (.Compare l [o] rs p)) c λg c=>
  oT (M:=λo=>behindInMarks o g=false->bj w ρ σ (.b r) σ₂ (.Compare l [o] [g] p)) (eQ c).1 (λm=>⟨.La O (h w O _ (eQ c).2.1).ev (h2 w O _ (eQ c).2.2.1).ev m hc hd,λb q=>uj q▸.NK O (h w O _ (eQ c).2.1).ev (h2 w O _ (eQ c).2.2.1).ev m hc hd,trivial⟩) (i7 (eQ c).2.2.2)
theorem KU(O:Ok w d)(hl:ck w ρ σ l x σ₁)(h1:ck w ρ σ₁ r1 y σ₂)(hc:gW σ₂ op x y=some true)(hd:dI op x)(h2:ck w ρ σ₂ r2 z σ₃)(hm:behindInMarks (fN op2) r2=false)(hc2:gW σ₃ op2 y z=some r)(hd2:dI op2 y):bj w ρ σ (.b r) σ₃ (.Compare l [fN op,fN op2] [r1,r2] p):=
 ⟨λs μ a=>by
  rw[arm_eval_Compare]
  refine hl.ic a λu s₁ m₁ a₁ e₁ ru=>?_
  refine(?_:w.wp (compareChain p u [fN op,fN op2] [eval r1 w.aE,markedBehindIn (fN op2) r2 (eval r2 w.aE)]) _ s₁)
  rw[markedBehindIn_of_false hm,cc2]
  refine Xj (XI (h1.to a₁ λv s₂ m₂ a₂ e₂ rv=>Xj (X0 (Xj (XI ((se O.VT.V7 a₂.bH (ru.cE e₂.bJ) rv hc hd).bZ λx s₃ r=>?_))))))
  obtain⟨m₃,e₃,q⟩:=r
  obtain rfl:x=.bool true:=q
  have a₃:=a₂.gS e₃
  refine Xj (wpAny_release (Xj (XI (YM ?_))))
  rw[Xr rfl,Ff]
  exact Xj (XI (h2.to a₃ λv s₄ m₄ a₄ e₄ rw'=>Xj (X0 (wpAny_operating (lA (((e₁.d0 e₂).d0 e₃).d0 e₄) (se O.VT.V7 a₄.bH ((rv.cE e₃.bJ).cE e₄.bJ) rw' hc2 hd2)))))),
 λb q s μ a=>by
  cases uj q
  rw[arm_isTrue_Compare]
  refine hl.ic a λu s₁ m₁ a₁ e₁ ru=>?_
  refine(?_:w.wp (testChain p u [fN op,fN op2] [eval r1 w.aE,markedBehindIn (fN op2) r2 (eval r2 w.aE)]) _ s₁)
  rw[markedBehindIn_of_false hm,tc2]
  refine Xj (XI (h1.to a₁ λv s₂ m₂ a₂ e₂ rv=>Xj (X0 (Xj (XI ((se O.VT.V7 a₂.bH (ru.cE e₂.bJ) rv hc hd).bZ λx s₃ r=>?_))))))
  obtain⟨m₃,e₃,q⟩:=r
  obtain rfl:x=.bool true:=q
  have a₃:=a₂.gS e₃
  refine Xj (wpAny_release (Xj (XI (YM ?_))))
  rw[Xr rfl,Kn]
  refine Xj (XI (h2.to a₃ λv s₄ m₄ a₄ e₄ rw'=>Xj (X0 (Xj (wpAny_operating ((se O.VT.V7 a₄.bH ((rv.cE e₃.bJ).cE e₄.bJ) rw' hc2 hd2).bZ λx s₅ r=>?_))))))
  obtain⟨rfl,hb⟩:=r.rM
  exact XI (YM (hb.zw (((e₁.d0 e₂).d0 e₃).d0 e₄))),
 trivial⟩
theorem K7{a b c:Ex}(h:Ev d n a ρ σ x σ₁)(h2:Ev d n b ρ σ₁ y σ₂)(hc:gW σ₂ op x y=some true)(hd:dI op x)(h3:Ev d n c ρ σ₂ z σ₃)(hc2:gW σ₃ op2 y z=some r)(hd2:dI op2 y):Ev d (n+1) (.q op op2 a b c) ρ σ (.b r) σ₃:=λw O e k=>
 FL (M:=bj w ρ σ (.b r) σ₃) k λl os rs p k=>Am (M:=λos=>bj w ρ σ (.b r) σ₃ (.Compare l os rs p)) k λo o2 k=>Am (M:=λrs=>bj w ρ σ (.b r) σ₃ (.Compare l [o,o2] rs p)) k λg g2 k=>by
  refine xP (ut k) λk1 k2 k3 k4 k5 k6=>?_
  cases Xx k1;cases Xx k2
  exact KU O (h w O _ k3).ev (h2 w O _ k4).ev hc hd (h3 w O _ k5).ev (i7 k6) hc2 hd2
end
theorem ck.Dg(ht:l8 w ρ σ t' t σ₁)(h:ck w ρ σ₁ (if t then a' else b') x σ₂):ck w ρ σ (.IfExp t' a' b' p) x σ₂:=λs μ a=>by
 rw[arm_eval_IfExp]
 refine Xj (ht.to a λs₁ m₁ a₁ e₁=>lA e₁ ?_)
 rcases t with _ |_
 ·exact h _ _ a₁
 ·exact h _ _ a₁
theorem l8.EK(ht:l8 w ρ σ t' t σ₁)(h:l8 w ρ σ₁ (if t then a' else b') b σ₂):l8 w ρ σ (.IfExp t' a' b' p) b σ₂:=λs μ a=>by
 rw[arm_isTrue_IfExp]
 refine Xj (ht.to a λs₁ m₁ a₁ e₁=>zx e₁ ?_)
 rcases t with _ |_
 ·exact h _ _ a₁
 ·exact h _ _ a₁
theorem jC{c a b:Ex}(h:Ev d n c ρ σ (.b true) σ₁)(h2:Ev d n a ρ σ₁ x σ₂):Ev d (n+1) (.f c a b) ρ σ x σ₂:=λw O e k=>
 FN (M:=bj w ρ σ x σ₂) k λ_ _ _ _ k=>⟨.Dg ((h w O _ (cY k).1).V1 _ rfl) (h2 w O _ (cY k).2.1).ev,λ_ q=>.EK ((h w O _ (cY k).1).V1 _ rfl) ((h2 w O _ (cY k).2.1).V1 _ q),trivial⟩
theorem jh{c a b:Ex}(h:Ev d n c ρ σ (.b false) σ₁)(h2:Ev d n b ρ σ₁ x σ₂):Ev d (n+1) (.f c a b) ρ σ x σ₂:=λw O e k=>
 FN (M:=bj w ρ σ x σ₂) k λ_ _ _ _ k=>⟨.Dg ((h w O _ (cY k).1).V1 _ rfl) (h2 w O _ (cY k).2.2).ev,λ_ q=>.EK ((h w O _ (cY k).1).V1 _ rfl) ((h2 w O _ (cY k).2.2).V1 _ q),trivial⟩
theorem tJ{a:Ex}(h:Ev d n a ρ σ (.b r) σ₁):Ev d (n+1) (.j a) ρ σ (.b (!r)) σ₁:=λw O e c=>
 Al (M:=bj w ρ σ (.b (!r)) σ₁) c λo y p c=>oT (M:=λo=>bj w ρ σ (.b (!r)) σ₁ (.UnaryOp o y p)) (bV c).1 ⟨λs μ a=>by
  rw[arm_eval_UnaryOp]
  refine(h w O y (bV c).2).ev.ic a λv s₁ m₁ a₁ e₁ r=>Xj (X0 (XI ?_))
  refine bc (R1.rM ⟨m₁,e₁,r⟩) λq0 q=>?_;subst q0
  exact Xj (YM (Xm ⟨m₁,e₁,rfl⟩)),λb q s μ a=>uj q▸wpAny_isTrue_Not (((h w O y (bV c).2).V1 _ rfl).to a λs₁ m₁ a₁ e₁=>⟨rfl,m₁,e₁⟩),trivial⟩
noncomputable def nQ(o:BoolOp):Bool:=match o with | .And=>false | .Or=>true
theorem E7{o:BoolOp}:eval (.BoolOp o (e1::e2::es) p) w.aE=(do
   let v<-eval e1 w.aE
   standAt p
   let t<-holding [v] (truthy v)
   match o,t with
   | .And,false | .Or,true=>pure v
   |_,_=>boolOp p o (evalEach (e2::es) w.aE)):=rfl
theorem bj.KR{o:BoolOp}(h:bj w ρ σ (.b (nQ o)) σ₁ e1):bj w ρ σ (.b (nQ o)) σ₁ (.BoolOp o (e1::e2::es) p):=
 ⟨λs μ a=>by
  rw[E7]
  refine h.ev.ic a λv s₁ m₁ a₁ e₁ r=>Xj (X0 ?_)
  refine bc (R1.rM ⟨m₁,e₁,r⟩) λq0 q=>?_;subst q0
  refine Xj (XI (YM ?_))
  cases o<;>exact Xm ⟨m₁,e₁,r⟩,
 λb q s μ a=>by
  rw[<-uj q,arm_isTrue_BoolOp,arm_allTrue_cons]
  refine Xj ((h.V1 _ rfl).to a λs₁ m₁ a₁ e₁=>?_)
  cases o<;>exact Xm ⟨rfl,m₁,e₁⟩,
 trivial⟩
theorem bj.go{o:BoolOp}(h:bj w ρ σ (.b (!nQ o)) σ₁ e1)(h2:bj w ρ σ₁ x σ₂ (.BoolOp o (e2::es) p)):bj w ρ σ x σ₂ (.BoolOp o (e1::e2::es) p):=
 ⟨λs μ a=>by
  rw[E7]
  refine h.ev.ic a λv s₁ m₁ a₁ e₁ r=>Xj (X0 ?_)
  refine bc (R1.rM ⟨m₁,e₁,r⟩) λq0 q=>?_;subst q0
  refine Xj (XI (YM (lA e₁ ?_)))
  cases o<;>exact h2.ev _ _ a₁,
 λb q s μ a=>by
  have k:=λs μ a=>h2.V1 b q s μ a
  rw[arm_isTrue_BoolOp,arm_allTrue_cons]
  refine Xj ((h.V1 _ rfl).to a λs₁ m₁ a₁ e₁=>zx e₁ ?_)
  have k:=k _ _ a₁
  rw[arm_isTrue_BoolOp]at k
  cases o<;>exact k,
 trivial⟩
theorem bj.KQ{o:BoolOp}(h:bj w ρ σ (.b r) σ₁ e1):bj w ρ σ (.b r) σ₁ (.BoolOp o [e1] p):=
 ⟨λs μ a=>h.ev s μ a,λb q s μ a=>by
  rw[<-uj q,arm_isTrue_BoolOp,arm_allTrue_cons]
  refine Xj ((h.V1 _ rfl).to a λs₁ m₁ a₁ e₁=>?_)
  cases o<;>cases r<;>exact Xm ⟨rfl,m₁,e₁⟩,
 trivial⟩
theorem z0{o:BoolOp}{xs:List Ex}{e:Expr}{f:Expr->Ex->Bool}(h:(nj e λo' es=>o'==o&&cx f es xs)=true)(y:∀es p,cx f es xs=true->M (.BoolOp o es p)):M e:=
 Pc (M:=M) h λo' es p h=>oT (M:=λo=>M (.BoolOp o es p)) (bV h).1 (y es p (bV h).2)
theorem Fj{o:BoolOp}{a:Ex}{e:Expr}{f:Expr->Ex->Bool}(c:(nj e λo' es=>o'==o&&cx f es [a])=true)(h:∀e,f e a=true->bj w ρ σ (.b r) σ₁ e):bj w ρ σ (.b r) σ₁ e:=
 z0 (M:=bj w ρ σ (.b r) σ₁) c λes p c=>iL (M:=λes=>bj w ρ σ (.b r) σ₁ (.BoolOp o es p)) c λe1 es c c2=>kC (M:=λes=>bj w ρ σ (.b r) σ₁ (.BoolOp o (e1::es) p)) c2 (h e1 c).KQ
theorem Fp{o:BoolOp}{a b:Ex}{xs:List Ex}{e:Expr}{f:Expr->Ex->Bool}(c:(nj e λo' es=>o'==o&&cx f es (a::b::xs))=true)(h:∀e,f e a=true->bj w ρ σ (.b (nQ o)) σ₁ e):bj w ρ σ (.b (nQ o)) σ₁ e:=
 z0 (M:=bj w ρ σ (.b (nQ o)) σ₁) c λes p c=>iL (M:=λes=>bj w ρ σ (.b (nQ o)) σ₁ (.BoolOp o es p)) c λe1 es c c2=>iL (M:=λes=>bj w ρ σ (.b (nQ o)) σ₁ (.BoolOp o (e1::es) p)) c2 λe2 es _ _=>(h e1 c).KR
theorem Fo{o:BoolOp}{a b:Ex}{xs:List Ex}{e:Expr}{f:Expr->Ex->Bool}(c:(nj e λo' es=>o'==o&&cx f es (a::b::xs))=true)(h:∀e,f e a=true->bj w ρ σ (.b (!nQ o)) σ₁ e)(h2:∀es p,cx f es (b::xs)=true->bj w ρ σ₁ x σ₂ (.BoolOp o es p)):bj w ρ σ x σ₂ e:=
 z0 (M:=bj w ρ σ x σ₂) c λes p c=>iL (M:=λes=>bj w ρ σ x σ₂ (.BoolOp o es p)) c λe1 es c c2=>iL (M:=λt=>es=t->bj w ρ σ x σ₂ (.BoolOp o (e1::t) p)) c2 (λe2 es' _ _ q=>(h e1 c).go (h2 _ p (q▸c2))) rfl
theorem Ev.yJ{a:Ex}(h:Ev d n a ρ σ (.b r) σ₁):Ev d (n+1) (.n [a]) ρ σ (.b r) σ₁:=λw O e c=>Fj c (h w O)
theorem tK{a:Ex}(h:Ev d n a ρ σ (.b r) σ₁):Ev d (n+1) (.r [a]) ρ σ (.b r) σ₁:=λw O e c=>Fj c (h w O)
theorem lK{a b:Ex}{es:List Ex}(h:Ev d n a ρ σ (.b false) σ₁):Ev d (n+1) (.n (a::b::es)) ρ σ (.b false) σ₁:=λw O e c=>Fp (o:=.And) c (h w O)
theorem Df{a b:Ex}{es:List Ex}(h:Ev d n a ρ σ (.b true) σ₁):Ev d (n+1) (.r (a::b::es)) ρ σ (.b true) σ₁:=λw O e c=>Fp (o:=.Or) c (h w O)
theorem Fk{o:BoolOp}{xs:List Ex}{f:Expr->Ex->Bool}(h:cx f es xs=true):(nj (.BoolOp o es p) λo' es=>o'==o&&cx f es xs)=true:=Zh ⟨beq_self_eq_true o,h⟩
theorem Ev.rj{a b:Ex}{es:List Ex}(h:Ev d n a ρ σ (.b true) σ₁)(h2:Ev d (n+1) (.n (b::es)) ρ σ₁ (.b r) σ₂):Ev d (n+1) (.n (a::b::es)) ρ σ (.b r) σ₂:=λw O e c=>Fo (o:=.And) c (h w O) λes p c=>h2 w O _ (Fk (o:=.And) (p:=p) c)
theorem rm{a b:Ex}{es:List Ex}(h:Ev d n a ρ σ (.b false) σ₁)(h2:Ev d (n+1) (.r (b::es)) ρ σ₁ (.b r) σ₂):Ev d (n+1) (.r (a::b::es)) ρ σ (.b r) σ₂:=λw O e c=>Fo (o:=.Or) c (h w O) λes p c=>h2 w O _ (Fk (o:=.Or) (p:=p) c)
theorem j8{a b:Ex}(h:Ev d n a ρ σ (.b true) σ₁)(h2:Ev d n b ρ σ₁ (.b r) σ₂):Ev d (n+1) (.n [a,b]) ρ σ (.b r) σ₂:=.rj h (.yJ h2)
end
set_option backward.match.sparseCases false
inductive RL(Z:Cx)(s:Shared)(μ:List Addr)(xs:List V)(σ':aj)(vs:List Value)(s':Shared):Prop
 |mk (μ':List Addr) (st:br Z s μ s' μ' σ') (r:aR Z.KF.aF s'.heap μ' xs vs)
structure jl(w:Wh)(ρ:aA)(σ:aj)(xs:List V)(σ':aj)(es:List Expr):Prop where
 yP:es.length=xs.length
 yQ:es.all (!fv ·)=true
 ev:∀s μ p,At w ρ s μ σ->w.wp (spliced (backTo p (starEach es w.aE))) (RL w.Vk s μ xs σ') s
noncomputable def ac(d n:Nat)(es:List Ex)(ρ:aA)(σ:aj)(vs:List V)(σ':aj):Prop:=∀w,Ok w d->∀es',cx (cg w.Vk.KF n w.VK) es' es=true->jl w ρ σ vs σ' es'
noncomputable def Ej(Z:Cx)(s:Shared)(μ:List Addr)(v:V)(σ':aj)(r:Result)(s':Shared):Prop:=match r with
 | .ok (.ret u)=>R1 Z s μ v σ' u s'
 |_=>False
noncomputable def aL(d k:Nat)(args:List V)(σ:aj)(v:V)(σ':aj):Prop:=∀(Z:Cx) (A:Around) (s:Shared) (μ:List Addr) (vs:List Value),rB Z->t8 d A->aU Z s.heap μ σ->aR Z.KF.aF s.heap μ args vs->
 codeAny (model Z.bK Z.VI) A (.call (.ref (Z.KF.fn k)) ⟨vs,[]⟩) (Ej Z s μ v σ') s
section
variable {w:Wh}{s:Shared}{x y z u v:V}{xs vs:List V}{b t r:Bool}{d n i k m:Nat}{c:Sc}{p:Pos}{es:List Ex}{e o a:Ex}
theorem ux:∀e x,cg L n c e x=true->(!fv e)=true:=by
 intro e x h
 cases hs:fv e with
 |false=>rfl
 |true=>
  cases e<;>first |exact bE hs |skip
  cases n with
  |zero=>exact h
  |succ n=>cases x<;>exact bE h
theorem qV{e:Expr}(h:(!fv e)=true)(rest:List Expr)(env:PySem.Env):starEach (e::rest) env=(false,eval e env)::starEach rest env:=by
 cases e<;>first |rfl |exact bE h
theorem ac.an:ac d n [] ρ σ [] σ:=λw O es c=>kC (M:=jl w ρ σ [] σ) c ⟨rfl,rfl,λs μ p a=>Xm ⟨_,.oJ a.bH,rfl⟩⟩
theorem jl.Lc{e:Expr}{es:List Expr}(hs:(!fv e)=true)(h:ck w ρ σ e x σ₁)(h2:jl w ρ σ₁ xs σ₂ es):jl w ρ σ (x::xs) σ₂ (e::es):=⟨Xu (· +1) h2.yP,by rw[YN,hs,h2.yQ];rfl,λs μ p a=>by
 rw[qV hs]
 exact spliced_cons (h.to a λv s₁ m₁ a₁ e₁ r=>(h2.ev _ _ p a₁).bZ λvs s₂ q=>q.casesOn λm₂ e₂ q=>⟨m₂,e₁.d0 e₂,v,vs,rfl,r.cE e₂.bJ,q⟩)⟩
theorem ac.ah(h:Ev d n e ρ σ x σ₁)(h2:ac d n es ρ σ₁ xs σ₂):ac d n (e::es) ρ σ (x::xs) σ₂:=λw O es' c=>
 iL (M:=jl w ρ σ (x::xs) σ₂) c λe1 es' c c2=>.Lc (ux e1 e c) (h w O e1 c).ev (h2 w O es' c2)
theorem Xh(h:Ev d n e ρ σ x σ₁):ac d n [e] ρ σ [x] σ₁:=ac.ah h ac.an
theorem jl.to{es:List Expr}(h:jl w ρ σ xs σ₁ es)(a:At w ρ s μ σ){Q:List Value->Shared->Prop}(k:∀vs s' μ',At w ρ s' μ' σ₁->br w.Vk s μ s' μ' σ₁->aR w.Vk.KF.aF s'.heap μ' xs vs->Q vs s'):w.wp (spliced (backTo p (starEach es w.aE))) Q s:=
 (h.ev s μ p a).bZ λvs s' r=>r.casesOn λm st r=>k vs s' m (a.gS st) st r
theorem bI(h:ac d n es ρ σ xs σ₁):Ev d (n+1) (.t es) ρ σ (.t xs) σ₁:=λw O e c=>
 qp (M:=bj w ρ σ (.t xs) σ₁) c λes' k p c=>fb rfl trivial λs μ a=>by
  have q:=h w O _ (bV c).1
  rw[arm_eval_Tuple]
  refine Xj (X0 (Xj (q.to a λvs s₁ m₁ a₁ e₁ r=>?_)))
  exact Zk ((BE (t:=s₁.toks) a₁.bH r).tW e₁) (lH r (Xl (XW q.yP.symm) (Xl (XQ (bV c).2) (by decide))))
theorem dp(h:ac d n es ρ σ xs σ₁):Ev d (n+1) (.d es) ρ σ (.r σ₁.length) (σ₁++[.l xs]):=λw O e c=>
 Pe (M:=bj w ρ σ (.r σ₁.length) (σ₁++[.l xs])) c λes' p c=>fb rfl trivial λs μ a=>by
  have q:=h w O _ (bV c).1
  rw[arm_eval_List]
  refine Xj (X0 (Xj (q.to a λvs s₁ m₁ a₁ e₁ r=>?_)))
  exact Zk ((uV (t:=s₁.toks) a₁.bH r).tW e₁) (lH r (Xl (XW q.yP.symm) (Xl (XQ (bV c).2) (by decide))))
theorem bX{b:Ex}(h:Ev d n a ρ σ u σ₁)(h2:Ev d n b ρ σ₁ y σ₂)(q:Pr (kB op u y σ₂) z σ₃):Ev d (n+1) (.i op a b) ρ σ z σ₃:=λw O e c=>
 Pb (M:=bj w ρ σ z σ₃) c λl o r p c=>oT (M:=λo=>bj w ρ σ z σ₃ (.BinOp l o r p)) (cY c).1 (fb rfl trivial λs μ a=>by
  rw[arm_eval_BinOp]
  exact(h w O _ (cY c).2.1).ev.ic a λv s₁ m₁ a₁ e₁ r1=>Xj (XI ((h2 w O _ (cY c).2.2).ev.to a₁ λu s₂ m₂ a₂ e₂ r2=>Xj (X0 (wpAny_operating (lA (e₁.d0 e₂) (q _ _ _ _ _ _ a₂.bH (r1.cE e₂.bJ) r2)))))))
theorem Kg{o':Expr}{v i:Value}(hT:pJ s v)(hsub:∃ops,subscripted sl false v i=operate ops (getItem v i))(h:w.wp (getItem v i) Q s):
  w.wp (do let r<-subscripted sl (<-getitemInPython v) v i;letTemporaryGo o' v r;pure r) Q s:=by
 refine dY hT ?_;clear hT;intro T id hT1 hT2
 refine aT hsub ?_;clear hsub;intro ops hsub
 rw[getitemInPython_of_ne hT1.not_modules]
 refine Xj (Xj (wpAny_specialOf hT1 hT2 (Xm ?_)))
 rw[hsub]
 exact Xj (wpAny_operating (h.bZ λr s₃ h₃=>Xj (wpAny_letTemporaryGo (Xm h₃))))
theorem UM{v i:Value}(h:(!Bi sl)=true):∃ops,subscripted sl false v i=operate ops (getItem v i):=by
 cases sl<;>first |exact fA _ rfl |exact bE h
theorem bi{b:Ex}(h:Ev d n a ρ σ u σ₁)(h2:Ev d n b ρ σ₁ y σ₂)(q:Pr (nS u y σ₂) v σ₃):Ev d (n+1) (.s a b) ρ σ v σ₃:=λw O e c=>
 qo (M:=bj w ρ σ v σ₃) c λo' i' p c=>fb rfl trivial λs μ a=>by
  rw[arm_eval_Subscript]
  refine(h w O _ (cY c).1).ev.ic a λov s₁ m₁ a₁ e₁ r1=>Xj (XI ((h2 w O _ (cY c).2.1).ev.to a₁ λiv s₂ m₂ a₂ e₂ r2=>Xj (X0 ?_)))
  have k:=q _ _ _ _ _ _ O.VT.V7 a₂.bH (r1.cE e₂.bJ) r2
  exact Kg k.1 (UM (cY c).2.2) (lA (e₁.d0 e₂) k.2)
theorem Uk(I:aU Z s.heap μ σ)(l u st:Value):br Z s μ {s with heap:=s.heap.push {cls:=.type "slice",data:=.fields #[l,u,st]}} μ σ:=iH I (λb o hb=>XG _ hb) s.toks
theorem CH{o':Expr}{l u st:Value}(a:At w ρ s μ σ₂)(ro:aS w.Vk.KF.aF s.heap μ x ov)(e:br w.Vk s₀ μ₀ s μ σ₂)(hsub:∀v i,∃ops,subscripted sl false v i=operate ops (getItem v i))
  (q:∀(s':Shared) (sl:Addr),br w.Vk s μ s' μ σ₂->s'.heap.IsSliceOf sl l u st->pJ s' ov/\w.wp (getItem ov (.ref sl)) (R1 w.Vk s' μ v σ₃) s'):
  w.wp (do let r<-subscripted sl (<-getitemInPython ov) ov (.ref s.heap.objs.size);letTemporaryGo o' ov r;pure r) (R1 w.Vk s₀ μ₀ v σ₃) {s with heap:=s.heap.push {cls:=.type "slice",data:=.fields #[l,u,st]}}:=
 have st':=Uk a.bH l u st
 have k:=q _ _ st' (Heap.IsSliceOf.new _ _ _ _)
 Kg k.1 (hsub _ _) (lA (e.d0 st') k.2)
theorem ji{b:Ex}(h:Ev d n a ρ σ u σ₁)(h2:Ev d n b ρ σ₁ y σ₂)(q:Pr (tj u (some y) Option.none σ₂) v σ₃):Ev d (n+1) (.e a (some b) Option.none) ρ σ v σ₃:=λw O e c=>
 qo (M:=bj w ρ σ v σ₃) c λo' i' p c=>Ak (M:=λi'=>bj w ρ σ v σ₃ (.Subscript o' i' p)) c λl hi st p' c=>by
  refine cN (cY c) λc0 c1 c2=>?_
  refine cN (cY c2) λ_ c3 c4=>?_
  refine qr (M:=λst=>bj w ρ σ v σ₃ (.Subscript o' (.Slice l hi st p') p)) c0 (qr (M:=λhi=>bj w ρ σ v σ₃ (.Subscript o' (.Slice l hi none p') p)) c3 (m5 (M:=λl=>bj w ρ σ v σ₃ (.Subscript o' (.Slice l none none p') p)) c4 λl c5=>fb rfl trivial λs μ a=>?_))
  rw[arm_eval_Subscript]
  refine(h w O _ c1).ev.ic a λov s₁ m₁ a₁ e₁ r1=>Xj (XI (wpAny_Slice ((h2 w O _ c5).ev.to a₁ λiv s₂ m₂ a₂ e₂ r2=>Xm (Xm (Xj (X0 ?_))))))
  exact CH a₂ (r1.cE e₂.bJ) (e₁.d0 e₂) (λ_ _=>⟨_,rfl⟩) λs' sl st hs=>q _ _ _ _ _ _ _ _ st.eN ((r1.cE e₂.bJ).cE st.bJ) (r2.cE st.bJ) rfl hs
theorem yM{b:Ex}(h:Ev d n a ρ σ u σ₁)(h2:Ev d n b ρ σ₁ y σ₂)(q:Pr (tj u Option.none (some y) σ₂) v σ₃):Ev d (n+1) (.e a Option.none (some b)) ρ σ v σ₃:=λw O e c=>
 qo (M:=bj w ρ σ v σ₃) c λo' i' p c=>Ak (M:=λi'=>bj w ρ σ v σ₃ (.Subscript o' i' p)) c λl hi st p' c=>by
  refine cN (cY c) λc0 c1 c2=>?_
  refine bc (bV c2) λc3 c4=>?_
  refine qr (M:=λst=>bj w ρ σ v σ₃ (.Subscript o' (.Slice l hi st p') p)) c0 (qr (M:=λl=>bj w ρ σ v σ₃ (.Subscript o' (.Slice l hi none p') p)) c3 (m5 (M:=λhi=>bj w ρ σ v σ₃ (.Subscript o' (.Slice none hi none p') p)) c4 λhi c5=>fb rfl trivial λs μ a=>?_))
  rw[arm_eval_Subscript]
  refine(h w O _ c1).ev.ic a λov s₁ m₁ a₁ e₁ r1=>Xj (XI (wpAny_Slice (Xm ((h2 w O _ c5).ev.to a₁ λiv s₂ m₂ a₂ e₂ r2=>Xm (Xj (X0 ?_))))))
  exact CH a₂ (r1.cE e₂.bJ) (e₁.d0 e₂) (λ_ _=>⟨_,rfl⟩) λs' sl st hs=>q _ _ _ _ _ _ _ _ st.eN ((r1.cE e₂.bJ).cE st.bJ) rfl (r2.cE st.bJ) hs
theorem yL(h:Ev d n a ρ σ u σ₁)(q:Pr (JV u σ₁) v σ₃):Ev d (n+1) (.k a) ρ σ v σ₃:=λw O e c=>
 qo (M:=bj w ρ σ v σ₃) c λo' i' p c=>Ak (M:=λi'=>bj w ρ σ v σ₃ (.Subscript o' i' p)) c λl hi st p' c=>by
  refine kM (eQ c) λc0 c1 c2 c3=>?_
  refine qr (M:=λl=>bj w ρ σ v σ₃ (.Subscript o' (.Slice l hi st p') p)) c0 (qr (M:=λhi=>bj w ρ σ v σ₃ (.Subscript o' (.Slice none hi st p') p)) c1 (m5 (M:=λst=>bj w ρ σ v σ₃ (.Subscript o' (.Slice none none st p') p)) c3 λz c4=>
   Al (M:=λz=>bj w ρ σ v σ₃ (.Subscript o' (.Slice none none (some z) p') p)) c4 λuo y p3 c5=>oT (M:=λuo=>bj w ρ σ v σ₃ (.Subscript o' (.Slice none none (some (.UnaryOp uo y p3)) p') p)) (bV c5).1
    (Aj (M:=λy=>bj w ρ σ v σ₃ (.Subscript o' (.Slice none none (some (.UnaryOp .USub y p3)) p') p)) (bV c5).2 λk kd p4 c6=>fb rfl trivial λs μ a=>?_)))
  rcases k with _ |_ |j |_ |_ |_ |_ |_<;>first |exact bE c6 |skip
  cases Xx c6
  rw[arm_eval_Subscript]
  refine(h w O _ c2).ev.ic a λov s₁ m₁ a₁ e₁ r1=>Xj (XI (wpAny_Slice (Xm (Xm ?_))))
  refine Ie (w:=w) (Xj (X0 ?_))
  have t:=br.Eu a₁.bH (s₁.toks+1+1)
  exact CH (a₁.gS t) (r1.cE t.bJ) (e₁.d0 t) (λ_ _=>⟨_,rfl⟩) λs' sl st hs=>q _ _ _ _ _ _ _ st.eN ((r1.cE t.bJ).cE st.bJ) hs
theorem E2{o:Expr}(h:sP o=true)(attr:Str)(env:PySem.Env)(whole:Sem Value):attributeBase o attr env whole=whole:=by
 cases o with
 |Call f as ks p=>cases f with
  |Name id q=>cases as with
   |nil=>cases ks with
    |nil=>exact bE h
    |cons _ _=>rfl
   |cons _ _=>rfl
  |_=>rfl
 |_=>rfl
theorem dv{x:Nat}{fs:List (Nat×V)}(h:Ev d n o ρ σ (.o c' x) σ₁)(hc:fD c' m=true)(ha:σ₁[x]? =some (.a c' fs))(hg:cA fs m=some v):Ev d (n+1) (.a m o) ρ σ v σ₁:=λw O e c=>
 uA (M:=bj w ρ σ v σ₁) c λo' m' p c=>oT (M:=λm'=>bj w ρ σ v σ₁ (.Attribute o' m' p)) (cY c).1 (fb rfl trivial λs μ a=>by
  rw[arm_eval_Attribute,E2 (cY c).2.2]
  exact(h w O _ (cY c).2.1).ev.ic a λov s₁ m₁ a₁ e₁ r1=>Xj (X0 (Xj (XI ((Oh O.VP.rC O.VP.V4 a₁.bH r1 hc ha hg).bZ λr s₂ h₂=>Xj (wpAny_letTemporaryGo (Xm (h₂.tW e₁))))))))
theorem sE{e:Expr}{v:Value}(h:jX L c e v=true)(y:∀id p,mo L.VJ id=some v->c.dD.lookup id=some .globalImplicit->(id==("__debug__":Str))=false->uQ L.VJ v=true->M (.Name id p)):M e:=
 oS (M:=M) h λid p h=>y id p (Xx (eQ h).1) (Xx (eQ h).2.1) (i7 (eQ h).2.2.1) (eQ h).2.2.2
theorem IM{es:List Expr}(h:es.all (!fv ·)=true)(env:PySem.Env):(backTo p (starEach es env)).any (·.1)=false:=by
 induction es with
 |nil=>rfl
 |cons e es ih=>
  rw[YN,YD]at h
  rw[qV h.1]
  exact ih h.2
theorem wX{K:Frag}{g:Value}{es:List Expr}(X:K.In s.heap)(hk:uQ K g=true)(hst:es.all (!fv ·)=true)
  (h:wpAny (model Z.bK Z.VI) A (spliced (backTo p (starEach es env))) (λvs s₁=>K.In s₁.heap/\wpAny (model Z.bK Z.VI) A (call g (first++vs)) Q E s₁) E s):
  wpAny (model Z.bK Z.VI) A (callWith p g first (backTo p (starEach es env)) []) Q E s:=by
 have ev:wpAny (model Z.bK Z.VI) A (evalArgs g true (backTo p (starEach es env)) []) (λa s₁=>K.In s₁.heap/\wpAny (model Z.bK Z.VI) A (call g (first++a.pos) a.kw) Q E s₁) E s:=by
  cases es with
  |nil=>
   unfold evalArgs
   refine(?_:wpAny _ A (spliced []>>=_) _ E s)
   exact Xj (wpAny_mono h (λvs s' h'=>Xj (Xm (XI (Xj (Xm (Xj (Xm (Xm h')))))))) λ_ _ x=>x)
  |cons e es=>
   rw[YN,YD]at hst
   rw[qV hst.1]at h ⊢
   exact evalArgs_plain h
 have hp:=IM (p:=p) hst env
 cases g with
 |builtin id=>exact Calls.callWith_builtin hp (wpAny_mono ev (λa s₁ h₁=>h₁.2) λ_ _ x=>x)
 |type T=>exact PySem.callWith_type hp (wpAny_mono ev (λa s₁ h₁=>h₁.2) λ_ _ x=>x)
 |_=>exact callWith_of (P:=λh=>K.In h) (by rw[hp];rfl) (keeps_K hk) ev
theorem jl.Dk(O:Ok w d){es:List Expr}(h:jl w ρ σ xs σ₁ es)(a:At w ρ s μ σ){g:Value}(hk:uQ w.Vk.KF.VJ g=true)
  (q:∀vs s₁ μ₁,At w ρ s₁ μ₁ σ₁->br w.Vk s μ s₁ μ₁ σ₁->aR w.Vk.KF.aF s₁.heap μ₁ xs vs->w.wp (PySem.call g (first++vs)) Q s₁):w.wp (callWith p g first (backTo p (starEach es w.aE)) []) Q s:=
 wX (O.VP.V4.keeps a.bH.dM) hk h.yQ (h.to a λvs s₁ m₁ a₁ e₁ r=>⟨O.VP.V4.keeps a₁.bH.dM,q vs s₁ m₁ a₁ e₁ r⟩)
theorem jl.Dl(O:Ok w d){f:Expr}{es:List Expr}{g:Value}(hf:jX w.Vk.KF w.VK f g=true)(h:jl w ρ σ xs σ₁ es)(a:At w ρ s μ σ)(q:∀vs s₁ μ₁,At w ρ s₁ μ₁ σ₁->br w.Vk s μ s₁ μ₁ σ₁->aR w.Vk.KF.aF s₁.heap μ₁ xs vs->w.wp (PySem.call g vs) Q s₁):w.wp (eval (.Call f es [] p) w.aE) Q s:=
 sE (M:=λf=>w.wp (eval (.Call f es [] p) w.aE) Q s) hf λid p' g1 g2 g3 g4=>by
  refine(?_:w.wp (do callWith p (<-eval (.Name id p') w.aE) [] (backTo p (starEach es w.aE)) []) _ s)
  exact Xj (sK O a.bH g1 g2 g3 (h.Dk (first:=[]) O a g4 q))
theorem yN(O:Ok w d){f:Expr}{es:List Expr}{g:Value}(hf:jX w.Vk.KF w.VK f g=true)(h:jl w ρ σ xs σ₁ es)(q:∀s μ vs,aU w.Vk s.heap μ σ₁->aR w.Vk.KF.aF s.heap μ xs vs->w.wp (PySem.call g vs) (R1 w.Vk s μ v σ₂) s):ck w ρ σ (.Call f es [] p) v σ₂:=λs μ a=>
 h.Dl O hf a λvs s₁ m₁ a₁ e₁ r=>lA e₁ (q s₁ m₁ vs a₁.bH r)
theorem T5(h:Rm d A):t8 d A:=⟨h.1,Xl (Yw (by decide) _) h.2.1,Xl (Yw (by decide) _) h.2.2⟩
theorem aL.Ei(h:aL d k xs σ v σ')(G:rB Z)(R:Rm d A)(I:aU Z s.heap μ σ){vs:List Value}(r:aR Z.KF.aF s.heap μ xs vs):Wp Z A (PySem.call (.ref (Z.KF.fn k)) vs) (R1 Z s μ v σ') s:=
 wpAny_call (YS (h Z A s μ vs G (T5 R) I r) λr s₁ h₁=>by
  rcases r with f |f
  ·exact h₁.elim
  ·cases f<;>first |exact h₁ |exact h₁.elim)
theorem qq{e:Expr}{g:Value}(h:(jW e λf es ks p=>ks.isEmpty&&jX L c f g&&f2 es)=true)(y:∀f es p,jX L c f g=true->f2 es=true->M (.Call f es [] p)):M e:=
 FK (M:=M) h λf es ks p h=>xc (M:=λks=>M (.Call f es ks p)) (cY h).1 (y f es p (cY h).2.1 (cY h).2.2)
theorem cw(h:ac d n es ρ σ vs σ₁)(q:aL d k vs σ₁ v σ₂):Ev d (n+1) (.l k es) ρ σ v σ₂:=λw O e c=>
 qq (M:=bj w ρ σ v σ₂) c λf es p c1 c2=>fb rfl trivial (yN O c1 (h w O es c2) λs μ vs I r=>q.Ei O.VP O.VT I r)
noncomputable def Bl.KP(b:Bl):Bool:=match b with | .S=>false | .r=>false |_=>true
theorem ci{bl:Bl}(hb:bl.KP=true)(h:ac d n es ρ σ vs σ₁)(q:Pr (ik bl vs σ₁) v σ₂):Ev d (n+1) (.b bl es) ρ σ v σ₂:=λw O e c=>by
 refine qq (g:=zX bl) (f2:=λes'=>cx (cg w.Vk.KF n w.VK) es' es) (M:=bj w ρ σ v σ₂) ?_ λf es p c1 c2=>fb rfl trivial (yN O c1 (h w O es c2) λs μ vs I r=>q _ _ _ _ _ O.VP.rD O.VT.V7 I r)
 rcases bl with _ |_ |_ |_ |_ |_ |_ |_ |_ |_ |_ |_<;>first |exact c |exact bE hb
theorem De(h:Ev d n a ρ σ x σ₁)(q:Bj x σ₁ r):Ev d (n+1) (.b .S [a]) ρ σ (.b r) σ₁:=λw O e c=>
 qq (M:=bj w ρ σ (.b r) σ₁) c λf es p c1 c2=>Am (M:=λes=>bj w ρ σ (.b r) σ₁ (.Call f es [] p)) c2 λe1 e2 c2=>fb rfl trivial λs μ b=>by
  refine bc (bV c2) λc3 c4=>?_
  have s2:(!fv e2)=true:=sE (M:=λe=>(!fv e)=true) c4 λ_ _ _ _ _ _=>rfl
  refine sE (M:=λf=>w.wp (eval (.Call f [e1,e2] [] p) w.aE) (R1 w.Vk s μ (.b r) σ₁) s) c1 λid p' g1 g2 g3 g4=>?_
  refine(?_:w.wp (do callWith p (<-eval (.Name id p') w.aE) [] (backTo p (starEach [e1,e2] w.aE)) []) _ s)
  refine Xj (sK O b.bH g1 g2 g3 (wX (first:=[]) (O.VP.V4.keeps b.bH.dM) g4 (by rw[YN,ux e1 a c3,YN,s2];rfl) ?_))
  rw[qV (ux e1 a c3),qV s2]
  refine spliced_cons ((h w O e1 c3).ev.to b λv s₁ m₁ a₁ e₁ r1=>spliced_cons (sE (M:=λe2=>w.wp (eval e2 w.aE) _ s₁) c4 λid2 p2 k1 k2 k3 k4=>sK O a₁.bH k1 k2 k3 (spliced_nil ⟨O.VP.V4.keeps a₁.bH.dM,lA e₁ (q _ _ _ _ _ a₁.bH r1)⟩)))
theorem K9(h:Ev d n a ρ σ x σ₁)(q:J9 x σ₁ y σ₂):Ev d (n+1) (.b .r [a]) ρ σ y σ₂:=λw O e c=>
 qq (M:=bj w ρ σ y σ₂) c λf es p c1 c2=>sk (M:=λes=>bj w ρ σ y σ₂ (.Call f es [] p)) c2 λe1 c2=>fb rfl trivial λs μ b=>by
  refine qq (M:=λe1=>w.wp (eval (.Call f [e1] [] p) w.aE) (R1 w.Vk s μ y σ₂) s) c2 λg gs p2 c3 c4=>sk (M:=λgs=>w.wp (eval (.Call f [.Call g gs [] p2] [] p) w.aE) (R1 w.Vk s μ y σ₂) s) c4 λe2 c5=>?_
  refine sE (M:=λf=>w.wp (eval (.Call f [.Call g [e2] [] p2] [] p) w.aE) (R1 w.Vk s μ y σ₂) s) c1 λid p' g1 g2 g3 g4=>?_
  refine(?_:w.wp (do callWith p (<-eval (.Name id p') w.aE) [] (backTo p (starEach [.Call g [e2] [] p2] w.aE)) []) _ s)
  refine Xj (sK O b.bH g1 g2 g3 (wX (first:=[]) (O.VP.V4.keeps b.bH.dM) g4 rfl ?_))
  rw[qV rfl]
  refine spliced_cons (sE (M:=λg=>w.wp (eval (.Call g [e2] [] p2) w.aE) _ s) c3 λid2 p3 k1 k2 k3 k4=>?_)
  refine(?_:w.wp (do callWith p2 (<-eval (.Name id2 p3) w.aE) [] (backTo p2 (starEach [e2] w.aE)) []) _ s)
  refine Xj (sK O b.bH k1 k2 k3 (wX (first:=[]) (O.VP.V4.keeps b.bH.dM) k4 (by rw[YN,ux e2 a c5];rfl) ?_))
  rw[qV (ux e2 a c5)]
  exact spliced_cons ((h w O e2 c5).ev.to b λv s₁ m₁ a₁ e₁ r1=>spliced_nil ⟨O.VP.V4.keeps a₁.bH.dM,(q _ _ _ _ _ O.VT.V7 a₁.bH r1).bZ λsv s₂ k=>spliced_nil ⟨O.VP.V4.keeps k.1,Wp.bZ k.2 λ_ _ r=>r.tW e₁⟩⟩)
end
section
variable {w:Wh}{s:Shared}{x y z u v:V}{xs vs:List V}{b t r:Bool}{d n i k m:Nat}{c:Sc}{p:Pos}{es:List Ex}{e o a:Ex}
noncomputable def ot(Z:Cx)(A:Around)(s:Shared)(ov:Value)(nm:Str)(f:Value):Prop:=∀(pl:Sem Bool) (Q:Value×List Value->Shared->Prop),Q (f,[ov]) s->Wp Z A (getMethod ov nm pl) Q s
theorem ot.at{nm nm':Str}{f:Value}{f':Value}(e:nm=nm')(g:f=f')(h:ot Z A s ov nm' f'):ot Z A s ov nm f:=by rw[e,g];exact h
theorem UE(X:j9 Z.KF){q:List Nat}{t:Tok}(h:mf 4 m=true):ot Z A s (.str (bp q) t) (Z.KF.ct m) (.builtin (o7 4 m)):=by
 have hT:=typeIs_str s (bp q) t
 have hd:∀a,Value.str (bp q) t=.ref a->∃o,s.heap.get? a=some o/\o.dict=none:=λ_ e=>Value.noConfusion e
 obtain⟨-,-,-,-,-,b5,b6,b7,b8⟩:=X.bn
 obtain h |h:=Yq h
 ·obtain h |h:=Yq h
  ·obtain h |h:=Yq h
   ·cases Xx h;exact .at (f':=.builtin "str.strip") b7 rfl λpl Q hq=>by with_reducible exact Y8 hT PySem.F.plainAttrs_str PySem.F.slot_str_strip PySem.F.type_str_strip hd hq
   ·cases Xx h;exact .at (f':=.builtin "str.isspace") b8 rfl λpl Q hq=>by with_reducible exact Y8 hT PySem.F.plainAttrs_str PySem.F.slot_str_isspace PySem.F.type_str_isspace hd hq
  ·cases Xx h;exact .at (f':=.builtin "str.join") b5 rfl λpl Q hq=>by with_reducible exact Y8 hT PySem.F.plainAttrs_str PySem.F.slot_str_join PySem.F.type_str_join hd hq
 ·cases Xx h;exact .at (f':=.builtin "str.count") b6 rfl λpl Q hq=>by with_reducible exact Y8 hT PySem.F.plainAttrs_str PySem.F.slot_str_count PySem.F.type_str_count hd hq
theorem QT(X:j9 Z.KF){x:Addr}{vs:Array Value}(ho:s.heap.get? x=some {cls:=.type "list",data:=.seq vs n})(h:mf 1 m=true):ot Z A s (.ref x) (Z.KF.ct m) (.builtin (o7 1 m)):=by
 have hT:s.TypeIs (.ref x) "list":=⟨_,ho,rfl⟩
 have hd:∀a,Value.ref x=.ref a->∃o,s.heap.get? a=some o/\o.dict=none:=λa e=>by cases e;exact aC _ ho rfl
 obtain⟨b0,b1,b2,-⟩:=X.bn
 obtain h |h:=Yq h
 ·obtain h |h:=Yq h
  ·cases Xx h;exact .at (f':=.builtin "list.append") b0 rfl λpl Q hq=>by with_reducible exact Y8 hT PySem.F.plainAttrs_list PySem.F.slot_list_append PySem.F.type_list_append hd hq
  ·cases Xx h;exact .at (f':=.builtin "list.extend") b1 rfl λpl Q hq=>by with_reducible exact Y8 hT PySem.F.plainAttrs_list PySem.F.slot_list_extend PySem.F.type_list_extend hd hq
 ·cases Xx h;exact .at (f':=.builtin "list.pop") b2 rfl λpl Q hq=>by with_reducible exact Y8 hT PySem.F.plainAttrs_list PySem.F.slot_list_pop PySem.F.type_list_pop hd hq
theorem z8(X:j9 Z.KF){x:Addr}(ho:s.heap.get? x=some ob)(hx:ob.ExactDict)(h:mf 2 m=true):ot Z A s (.ref x) (Z.KF.ct m) (.builtin (o7 2 m)):=by
 have hT:s.TypeIs (.ref x) "dict":=⟨_,ho,hx.1⟩
 have hd:∀a,Value.ref x=.ref a->∃o,s.heap.get? a=some o/\o.dict=none:=λa e=>by cases e;exact aC _ ho hx.2.1
 obtain⟨-,-,b2,b3,b4,-⟩:=X.bn
 obtain h |h:=Yq h
 ·obtain h |h:=Yq h
  ·cases Xx h;exact .at (f':=.builtin "dict.get") b3 rfl λpl Q hq=>by with_reducible exact Y8 hT PySem.F.plainAttrs_dict PySem.F.slot_dict_get PySem.F.type_dict_get hd hq
  ·cases Xx h;exact .at (f':=.builtin "dict.setdefault") b4 rfl λpl Q hq=>by with_reducible exact Y8 hT PySem.F.plainAttrs_dict PySem.F.slot_dict_setdefault PySem.F.type_dict_setdefault hd hq
 ·cases Xx h;exact .at (f':=.builtin "dict.pop") b2 rfl λpl Q hq=>by with_reducible exact Y8 hT PySem.F.plainAttrs_dict PySem.F.slot_dict_pop PySem.F.type_dict_pop hd hq
theorem Q'(X:j9 Z.KF)(I:aU Z s.heap μ σ)(r:aS Z.KF.aF s.heap μ u ov)(h:mf (iw σ u) m=true):ot Z A s ov (Z.KF.ct m) (.builtin (o7 (iw σ u) m)):=by
 rcases u with _ |_ |_ |q |_ |a |_ |_<;>first |exact bE h |skip
 ·refine aT r ?_;clear r;intro t q1;subst q1
  exact UE X h
 ·refine az r ?_;clear r;intro x hx q2;subst q2
  rcases hs:σ[a]? with _ |o
  ·rw[show iw σ (.r a)=0 from Xu (Option.elim · 0 sI) hs]at h;exact bE h
  ·have ro:=I.fU a x _ hx hs
   rcases o with xs |es |es |es |_ |_ |_
   ·rw[uT hs]at h ⊢
    refine dY ro ?_;clear ro;intro vs n ho _
    exact QT X ho h
   ·rw[qA hs rfl]at h ⊢
    refine az ro ?_;clear ro;intro _ nn0 _;refine nA nn0 ?_;clear nn0;intro _ _ _ ho hx _
    exact z8 X ho hx h
   ·rw[qA hs rfl]at h ⊢
    refine az ro ?_;clear ro;intro _ nn0 _;refine nA nn0 ?_;clear nn0;intro _ _ _ ho hx _
    exact z8 X ho hx h
   ·rw[qA hs rfl]at h ⊢
    refine az ro ?_;clear ro;intro _ nn0 _;refine nA nn0 ?_;clear nn0;intro _ _ _ ho hx _
    exact z8 X ho hx h
   all_goals rw[show iw σ (.r a)=0 from Xu (Option.elim · 0 sI) hs]at h;exact bE h
theorem Ra{es:List Expr}(hst:es.all (!fv ·)=true)(hl:es.length < 30)(env:PySem.Env):methodCallForm (es.length+([]:List Keyword).length) (backTo p (starEach es env)) (backToKw p (keywordEach [] env))=true:=by
 unfold methodCallForm
 rw[show(backTo p (starEach es env)).all (!·.1)=true from List.all_eq_true.mpr λx hx=>(Bool.not_eq_true' _).mpr (Bool.eq_false_iff.mpr (List.any_eq_false.mp (IM (p:=p) hst env) x hx))]
 exact Zh ⟨Zh ⟨rfl,rfl⟩,XL hl⟩
theorem ck.Dh(O:Ok w d){o':Expr}{ap:Pos}{es:List Expr}{f:Value}(hs:sP o'=true)(hp:(ap.endLine==p.line)=true)(hl:es.length < 30)(hk:uQ w.Vk.KF.VJ f=true)(h:ck w ρ σ o' u σ₁)(h2:jl w ρ σ₁ xs σ₂ es)
  (ask:∀s μ ov,aU w.Vk s.heap μ σ₁->aS w.Vk.KF.aF s.heap μ u ov->ot w.Vk w.VU s ov (w.Vk.KF.ct m) f)
  (q:∀s μ ov vs,aU w.Vk s.heap μ σ₂->aS w.Vk.KF.aF s.heap μ u ov->aR w.Vk.KF.aF s.heap μ xs vs->w.wp (PySem.call f (ov::vs)) (R1 w.Vk s μ v σ₃) s):ck w ρ σ (.Call (.Attribute o' (w.Vk.KF.ct m) ap) es [] p) v σ₃:=λs μ a=>by
 rw[arm_eval_Call,E2 hs]
 refine h.ic a λov s₁ m₁ a₁ e₁ r₁=>Xj (X0 ?_)
 unfold methodCall
 rw[Ra h2.yQ hl,show methodCallPos true o' w.aE ap p=pure p by unfold methodCallPos;rw[hp];rfl]
 unfold calleeOf
 rw[Xr rfl]
 exact Xj (XI (ask _ _ _ a₁.bH r₁ _ _ (Xj (Xm (h2.Dk (first:=[ov]) O a₁ hk λvs s₂ m₂ a₂ e₂ r₂=>lA (e₁.d0 e₂) (q s₂ m₂ ov vs a₂.bH (r₁.cE e₂.bJ) r₂))))))
theorem FP{e:Expr}{g:Expr->Bool}(h:(jW e λf es ks p=>sD f λo' m' ap=>ks.isEmpty&&m'==L.ct m&&g o'&&f2 es&&sP o'&&ap.endLine==p.line&&decide (es.length < 30))=true)
  (y:∀o' ap es p,g o'=true->f2 es=true->sP o'=true->(ap.endLine==p.line)=true->es.length < 30->M (.Call (.Attribute o' (L.ct m) ap) es [] p)):M e:=
 FK (M:=M) h λf es ks p h=>uA (M:=λf=>M (.Call f es ks p)) h λo' m' ap h=>by
  refine bc (YF h) λh h7=>?_
  refine xP (ut h) λh1 h2 h3 h4 h5 h6=>?_
  cases Xx h2
  cases Zo h1
  exact y o' ap es p h3 h4 h5 h6 (XQ h7)
theorem dn(h:Ev d n o ρ σ u σ₁)(hk:mf (iw σ₁ u) m=true)(h2:ac d n es ρ σ₁ vs σ₂)(hk2:iw σ₁ u=iw σ₂ u)(q:Pr (dB m u vs σ₂) v σ₃):Ev d (n+1) (.m m o es) ρ σ v σ₃:=λw O e c=>
 FP (M:=bj w ρ σ v σ₃) c λo' ap es p c1 c2 c3 c4 c5=>fb rfl trivial (.Dh O c3 c4 c5 rfl (h w O o' c1).ev (h2 w O es c2) (λs μ ov I r=>Q' O.VP.rC I r hk) λs μ ov vs I r r2=>by
  rw[hk2];exact q _ _ _ _ _ _ O.VP.rD O.VT.V7 I r r2)
theorem bQ{c x:Nat}{fs:List (Nat×V)}(h:Ev d n o ρ σ (.o c x) σ₁)(ha:σ₁[x]? =some (.a c fs))(hm:yr c m=some k)(h2:ac d n es ρ σ₁ vs σ₂)(q:aL d k (.o c x::vs) σ₂ v σ₃):Ev d (n+1) (.m m o es) ρ σ v σ₃:=λw O e c=>
 FP (M:=bj w ρ σ v σ₃) c λo' ap es p c1 c2 c3 c4 c5=>fb rfl trivial (.Dh (f:=.ref (w.Vk.KF.fn k)) O c3 c4 c5 (O.VP.rC.yU _ _ _ hm).My (h w O o' c1).ev (h2 w O es c2) (λs μ ov I r pl Q hq=>Rb O.VP.rC O.VP.V4 I r hm ha hq) λs μ ov vs I r r2=>
  q.Ei O.VP O.VT I ⟨ov,vs,rfl,r,r2⟩)
theorem T8(h:Rm d A)(C:Addr)(rest:List Value):t8 d (A.under (.builtin "type.__call__" ⟨.ref C::rest,[]⟩)):=by
 have e1:(Code.builtin "type.__call__" ⟨.ref C::rest,[]⟩).weight=1:=by kernel_rfl
 have e2:(Code.builtin "type.__call__" ⟨.ref C::rest,[]⟩).cUnits=1:=by kernel_rfl
 refine cN h ?_;clear h;intro h1 h2 h3
 refine fy h1 ?_ ?_
 ·show A.depth+Code.weight _+3 * d+7<=900
  rw[e1];lia
 ·show A.units+Code.cUnits _+20 * d+1080<=cLine
  rw[e2];lia
theorem Q0(c:Nat)(I:aU Z s.heap μ σ):∃μ',br Z s μ {s with heap:=(s.heap.push emptyDict).push (instObj (Z.KF.aF.VL c) s.heap.objs.size)} μ' (σ++[.a c []])/\
  aS Z.KF.aF ((s.heap.push emptyDict).push (instObj (Z.KF.aF.VL c) s.heap.objs.size)) μ' (.o c σ.length) (.ref (s.heap.objs.size+1)):=by
 have hd:((s.heap.push emptyDict).push (instObj (Z.KF.aF.VL c) s.heap.objs.size)).get? s.heap.objs.size=some (dictOf [] 0):=XG _ (XZ _ rfl)
 have hx:((s.heap.push emptyDict).push (instObj (Z.KF.aF.VL c) s.heap.objs.size)).get? (s.heap.objs.size+1)=some (instObj (Z.KF.aF.VL c) s.heap.objs.size):=by
  have:=XZ (s.heap.push emptyDict) (o:=instObj (Z.KF.aF.VL c) s.heap.objs.size) rfl
  rwa [YZ]at this
 refine bc (I.DC (h':=(s.heap.push emptyDict).push (instObj (Z.KF.aF.VL c) s.heap.objs.size)) (x:=s.heap.objs.size) (o:=.a c []) (my (Xp _)) (λb o hb=>XG _ (XG _ hb)) ⟨_,hd⟩ (λe=>⟨[],0,hd,.d8⟩) (λxs q=>O.noConfusion q) (λq=>bE q)) λI' e=>?_
 refine⟨μ++[s.heap.objs.size],⟨⟨rfl,rfl,rfl⟩,I',e⟩,_,s.heap.objs.size,by rw[<-I.eu,YK (Xp _),Nat.sub_self];rfl,rfl,λhm=>?_,hx⟩
 rcases XD hm with h1 |h1
 ·refine aT (I.iU _ h1) λo ho=>?_
  exact absurd (Ym ho) (Zb (Yj s.heap.objs.size))
 ·exact absurd (Xy h1) (Nat.succ_ne_self s.heap.objs.size)
theorem aL.M'{c:Nat}(h:aL d k (.o c σ.length::xs) (σ++[.a c []]) .n σ₂)(hi:CO c=some k)(G:rB Z)(R:Rm d A)(I:aU Z s.heap μ σ)(r:aR Z.KF.aF s.heap μ xs vals):
  Wp Z A (PySem.call (.ref (Z.KF.aF.VL c)) vals) (R1 Z s μ (.o c σ.length) σ₂) s:=by
 have f:=G.rC.Do _ _ hi
 obtain⟨hh,g,dd,t,os⟩:=s
 have X:Z.KF.VJ.In hh:=G.V4.keeps I.dM
 refine az (Q0 (s:=⟨hh,g,dd,t,os⟩) c I) λm₁ st rO=>?_
 refine wpAny_call (make_core (makes_of X f.Mi) (looks_findIn X f.Mh) (λself=>bind_fn X self f.Mj) (.inl rfl) (YS (h Z _ ⟨_,g,dd,t,os⟩ _ (.ref (hh.objs.size+1)::vals) G (T8 R _ _) st.eN ⟨_,_,rfl,rO,r.lh st.bJ⟩) λrr s₁ h₁=>?_))
 rcases rr with f |f
 ·exact h₁.elim
 ·cases f<;>first |exact h₁.elim |skip
  obtain⟨m₂,st₂,rv⟩:=h₁
  exact⟨rv,m₂,st.d0 st₂,aS.cE st₂.bJ _ rO⟩
theorem tI{c:Nat}(h:ac d n es ρ σ vs σ₁)(hi:CO c=some k)(q:aL d k (.o c σ₁.length::vs) (σ₁++[.a c []]) .n σ₂):Ev d (n+1) (.w c es) ρ σ (.o c σ₁.length) σ₂:=λw O e k=>
 qq (M:=bj w ρ σ (.o c σ₁.length) σ₂) k λf es p c1 c2=>fb rfl trivial (yN O c1 (h w O es c2) λs μ vs I r=>q.M' hi O.VP O.VT I r)
end
noncomputable abbrev PR(cl:dO)(h:Heap)(μ:List Addr)(p:V×V)(q:Value×Value):Prop:=aS cl h μ p.1 q.1/\aS cl h μ p.2 q.2
inductive PL(Z:Cx)(s:Shared)(μ:List Addr)(ps:List (V×V))(σ':aj)(qs:List (Value×Value))(s':Shared):Prop
 |mk (μ':List Addr) (st:br Z s μ s' μ' σ') (r:F2 (PR Z.KF.aF s'.heap μ') ps qs)
noncomputable def B5(env:PySem.Env)(pos:Pos)(p:Expr×Expr):Sem Value×Sem Value:=(eval p.1 env,do let x<-eval p.2 env;standAt pos;pure x)
noncomputable def rn(w:Wh)(ρ:aA)(σ:aj)(ps:List (V×V))(σ':aj)(es:List (Expr×Expr)):Prop:=∀s μ p,At w ρ s μ σ->w.wp (evalPairs (es.map (B5 w.aE p))) (PL w.Vk s μ ps σ') s
structure rp(w:Wh)(ρ:aA)(σ:aj)(vs:List (V×V))(σ':aj)(m:Nat)(ks:List (Option Expr))(xs:List Expr):Prop where
 Dj:∃ps:List (Expr×Expr),ks=ps.map (some ·.1)/\xs=ps.map (·.2)/\ps.length=m/\rn w ρ σ vs σ' ps
noncomputable def jk(d n:Nat)(es:List (Ex×Ex))(ρ:aA)(σ:aj)(vs:List (V×V))(σ':aj):Prop:=∀w,Ok w d->∀ks xs,cx (Fi (cg w.Vk.KF n w.VK)) ks es=true->cx (λv p=>cg w.Vk.KF n w.VK v p.2) xs es=true->rp w ρ σ vs σ' es.length ks xs
noncomputable def DK.WF:DK->O
 | .i=>.d []
 | .s=>.s []
 | .t=>.t []
noncomputable abbrev mz:Obj:={cls:=.type "dict",data:=.dict #[]}
section
variable {w:Wh}{s:Shared}{μ₁:List Addr}{x y z u v:V}{d n i k m:Nat}{p:Pos}{e c:Ex}{h:Heap}
theorem yO:jk d n [] ρ σ [] σ:=λw O ks xs c1 c2=>kC (M:=λks=>rp w ρ σ [] σ 0 ks xs) c1 (kC (M:=rp w ρ σ [] σ 0 []) c2 ⟨[],rfl,rfl,rfl,λs μ p a=>Xm ⟨_,.oJ a.bH,.d8⟩⟩)
theorem rn.Lb{es:List (Expr×Expr)}{vs:List (V×V)}(h:ck w ρ σ e1 u σ₁)(h2:ck w ρ σ₁ e2 v σ₂)(h3:rn w ρ σ₂ vs σ₃ es):rn w ρ σ ((u,v)::vs) σ₃ ((e1,e2)::es):=λs μ p a=>by
 refine(?_:w.wp (do
   let kv<-eval e1 w.aE
   let vv<-holding [kv] (do let x<-eval e2 w.aE;standAt p;pure x)
   return(kv,vv)::(<-holding [kv,vv] (evalPairs (es.map (B5 w.aE p))))) _ s)
 exact h.ic a λkv s₁ m₁ a₁ e₁ r₁=>Xj (XI (h2.ic a₁ λvv s₂ m₂ a₂ e₂ r₂=>Xj (X0 (Xm (Xj (XI (Wp.bZ (h3 _ _ p a₂) λqs s₃ r=>r.casesOn λm₃ e₃ r=>
  Xm ⟨m₃,(e₁.d0 e₂).d0 e₃,.eJ ⟨(r₁.cE e₂.bJ).cE e₃.bJ,r₂.cE e₃.bJ⟩ r⟩)))))))
theorem tL{es:List (Ex×Ex)}{vs:List (V×V)}(h:Ev d n e ρ σ u σ₁)(h2:Ev d n c ρ σ₁ v σ₂)(h3:jk d n es ρ σ₂ vs σ₃):jk d n ((e,c)::es) ρ σ ((u,v)::vs) σ₃:=λw O ks xs c1 c2=>
 iL (M:=λks=>rp w ρ σ ((u,v)::vs) σ₃ (es.length+1) ks xs) c1 λk ks d1 d2=>iL (M:=rp w ρ σ ((u,v)::vs) σ₃ (es.length+1) (k::ks)) c2 λx xs d3 d4=>m5 (M:=λk=>rp w ρ σ ((u,v)::vs) σ₃ (es.length+1) (k::ks) (x::xs)) d1 λk d1=>by
  refine hU ((h3 w O ks xs d2 d4).Dj) λps q1 q2 h6 h7=>?_;subst q1;subst q2
  exact⟨(k,x)::ps,rfl,rfl,Xu (· +1) h6,.Lb (h w O k d1).ev (h2 w O x d3).ev h7⟩
inductive K5{κ K:Type}[DecidableEq K](Z:Cx)(knd:KeyKind Z.bK Z.VI K)(h:Heap)(μ:List Addr)(f:κ->K)(mk:List (κ×V)->O)(o:O)(qs:List (Value×Value))(acc:List (K×Value)):Prop
 |mk (kvs:List (K×Value)) (es:List (κ×V)) (hc:Carries knd qs kvs) (e:o=mk es) (r:F2 (oq Z.KF.aF h μ f) es (merged acc kvs))
theorem OW[DecidableEq κ][DecidableEq K]{knd:KeyKind Z.bK Z.VI K}{f:κ->K}(hf:∀a b,f a=f b->a=b){inj:κ->V}{mk:List (κ×V)->O}(h1:∀es w v o,fO (mk es) w v=some o->∃k,w=inj k/\o=mk (eC es k v))(h2:∀k kv,aS Z.KF.aF h μ (inj k) kv->knd.is (f k) kv=true)
  {ps:List (V×V)} {qs:List (Value×Value)} (r:F2 (PR Z.KF.aF h μ) ps qs):∀{es:List (κ×V)} {o:O} {acc:List (K×Value)},sA ps (mk es)=some o->F2 (oq Z.KF.aF h μ f) es acc->K5 Z knd h μ f mk o qs acc:=by
 induction r with
 |d8=>exact λe r=>⟨[],_,trivial,(Xs e).symm,r⟩
 | @eJ p q ps qs k t ih=>
  intro es o acc e r
  rw[PH]at e
  rcases hd:fO (mk es) p.1 p.2 with _ |o'
  ·rw[hd]at e;exact bN e
  ·rw[hd]at e
   refine az (h1 _ _ _ _ hd) λj e1 q2=>?_;subst q2
   have k1:=k.1
   rw[e1]at k1
   obtain⟨kvs,es',hc,e2,r2⟩:=ih e (Bw hf k.2 r)
   exact⟨(f j,q.2)::kvs,es',⟨h2 j q.1 k1,rfl,hc⟩,e2,r2⟩
theorem FE(S:qb Z.cS)(I:aU Z s.heap μ σ)(st:br Z {s with heap:=s.heap.push mz} μ s₁ μ₁ σ₁)(hg:h'.get? s.heap.objs.size=some ob)(hl:oY ob=true)(hb:Heap.SameBut s.heap.objs.size s₁.heap h'){o:O}(hi:∀xs,o≠.i xs)
  (hr:dk s₁.heap μ₁ h' (μ₁++[s.heap.objs.size])->dC Z h' (μ₁++[s.heap.objs.size]) σ₁.length s.heap.objs.size o) (t:Nat):R1 Z s μ (.r σ₁.length) (σ₁++[o]) (.ref s.heap.objs.size) {s₁ with heap:=h',toks:=t}:=by
 refine bc (I.eY iB) λf2 f1=>?_
 have hn:(s.heap.push mz).get? s.heap.objs.size=some mz:=XZ _ rfl
 have e1:=st.bJ.iE _ _ hn f2
 have e2:=st.bJ.tN hn f2
 have J:=st.eN.pM e2 f1 (λo ho=>by cases e1.symm.trans ho;rfl) (jA hb)
 have K:=J.1.DE (o:=o) hg hl e2 f1 hi (λe=>hr ⟨λb o hb hm so=>e.lM b o (J.2.lM b o hb hm so) hm so,e.rA,λb hb=>(XD hb).imp id λh1 o ho=>by cases Xy h1;cases e1.symm.trans ho;rfl⟩) λ_=>S.Nw I
 refine⟨μ₁++[s.heap.objs.size],⟨st.jQ,K.1,λb ob hb' hn=>jA hb b ob (XH (Ym hb')) (st.bJ.iE b ob (XG _ hb') hn),st.bJ.lL.trans (Yd _ _),λb hb'=>?_⟩,_,by rw[<-st.eN.eu,YK (Xp _),Nat.sub_self];rfl,rfl⟩
 rcases XD hb' with h1 |h1
 ·refine(st.bJ.kZ b h1).imp id λh2=>?_
  rcases hgb:s.heap.get? b with _ |ob
  ·rfl
  ·exact bN (h2.symm.trans (XG _ hgb))
 ·rw[Xy h1];exact .inr iB
theorem RO{ps:List (Expr×Expr)}:(evalEachOpt (ps.map (some ·.1)) env).zip ((evalEach (ps.map (·.2)) env).map λv=>do let x<-v;standAt p;pure x)=(ps.map (B5 env p)).map λp=>(some p.1,p.2):=by
 induction ps with
 |nil=>rfl
 |cons e es ih=>exact Xu (List.cons (some (eval e.1 env),(do let x<-eval e.2 env;standAt p;pure x))) ih
theorem Qr:∀(es:List (Int×V)) (w v:V) (o:O),fO (.d es) w v=some o->∃k,w=.i k/\o=.d (eC es k v):=λes w v o e=>by
 rcases w with _ |_ |k |_ |_ |_ |_ |_<;>first |exact bN e |skip
 exact aC k rfl ((Xs e).symm)
theorem Qs:∀(es:List (List Nat×V)) (w v:V) (o:O),fO (.s es) w v=some o->∃k,w=.s k/\o=.s (eC es k v):=λes w v o e=>by
 rcases w with _ |_ |_ |k |_ |_ |_ |_<;>first |exact bN e |skip
 exact aC k rfl ((Xs e).symm)
theorem rn.Di[DecidableEq κ][DecidableEq K]{knd:KeyKind w.Vk.bK w.Vk.VI K}{f:κ->K}(hf:∀a b,f a=f b->a=b){inj:κ->V}{mk:List (κ×V)->O}(h1:∀es w v o,fO (mk es) w v=some o->∃k,w=inj k/\o=mk (eC es k v))(h2:∀h μ k kv,aS w.Vk.KF.aF h μ (inj k) kv->knd.is (f k) kv=true)
  (h3:∀h μ i D es kvs,h.DictOf knd D kvs->F2 (oq w.Vk.KF.aF h μ f) es kvs->dC w.Vk h μ i D (mk es)) (hi:∀es xs,mk es≠.i xs) (W:Ok w d) {ps:List (Expr×Expr)} {vs:List (V×V)} {o:O} (h0:ps≠[]) (hl:ps.length<=15) (h:rn w ρ σ vs σ₁ ps) (ho:sA vs (mk [])=some o):
  ck w ρ σ (.Dict (ps.map (some ·.1)) (ps.map (·.2)) p) (.r σ₁.length) (σ₁++[o]):=λs μ a=>
 have st₀:br w.Vk s μ {s with heap:=s.heap.push mz} μ σ:=iH a.bH (λb o hb=>XG _ hb) s.toks
 wpAny_Dict_pairs (knd:=knd) RO (λq=>h0 (List.map_eq_nil_iff.mp q)) (by rw[Xk];exact hl) (Wp.bZ (h _ _ p (a.gS st₀)) λqs s₁ r=>by
  obtain⟨m₁,st,r⟩:=r
  obtain⟨kvs,es,hc,rfl,r2⟩:=OW (acc:=[]) hf h1 (h2 _ _) r ho .d8
  refine dK kvs hc (⟨_,_,_,st.bJ.iE _ _ (XZ _ rfl) (a.bH.eY iB).1,⟨rfl,rfl,rfl⟩,rfl,λ_ q=>absurd q (Array.not_mem_empty _),.nil,Y5⟩) (λh' hd hb=>?_)
  have hd':=hd
  refine nA hd ?_;clear hd;intro ob _ _ hg hx _
  exact FE W.VP.rD a.bH st hg (by unfold oY;rw[hx.1];rfl) hb (hi es) (λe=>h3 _ _ _ _ _ _ hd' (r2.mL λ_ _ r=>⟨r.1,r.2.extW e⟩)) _)
theorem yK{kd:DK}{es:List (Ex×Ex)}{vs:List (V×V)}{q:Ex×Ex}{o:O}(h:jk d n (q::es) ρ σ vs σ₁)(ho:OX kd vs=some o):Ev d (n+1) (.g kd (q::es)) ρ σ (.r σ₁.length) (σ₁++[o]):=λw W e k=>
 FM (M:=bj w ρ σ (.r σ₁.length) (σ₁++[o])) k λks xs p k=>fb rfl trivial (by
  refine kM (eQ k) λk1 k2 k3 k4=>?_
  refine hU ((h w W ks xs k1 k2).Dj) λps q1 q2 h6 h7=>?_;subst q1;subst q2
  have h0:ps≠[]:=λe=>by rw[e]at h6;exact Nat.succ_ne_zero _ h6.symm
  have hl:ps.length<=15:=by rw[<-Xk];exact XQ k3
  rcases kd with _ |_ |_
  ·exact h7.Di (knd:=intKind w.Vk.bK w.Vk.VI) (f:=id) (λ_ _ h=>h) Qr (λh μ k kv ⟨t,e⟩=>by rw[e];exact intKind_is _ _ k t) (λ_ _ _ _ es kvs h1 h2=>⟨kvs,h1,h2⟩) (λ_ _ q=>O.noConfusion q) W h0 hl ho
  ·exact h7.Di (knd:=strKind w.Vk.bK w.Vk.VI) (f:=bp) (λ_ _ h=>nR h) Qs (λh μ k kv ⟨t,e⟩=>by rw[e];exact strKind_is _ _ _ t) (λ_ _ _ _ es kvs h1 h2=>⟨kvs,h1,h2⟩) (λ_ _ q=>O.noConfusion q) W h0 hl ho
  ·exact bE k4)
theorem BP(S:qb Z.cS)(I:aU Z s.heap μ σ){o:O}(hi:∀xs,o≠.i xs)(h:∀h μ i D,h.get? D=some mz->dC Z h μ i D o):R1 Z s μ (.r σ.length) (σ++[o]) (.ref s.heap.objs.size) {s with heap:=s.heap.push mz}:=
 have hg:(s.heap.push mz).get? s.heap.objs.size=some mz:=XZ _ rfl
 have st:br Z s μ {s with heap:=s.heap.push mz} μ σ:=iH I (λb o hb=>XG _ hb) s.toks
 FE (t:=s.toks) (s₁:={s with heap:=s.heap.push mz}) S I (.oJ st.eN) hg rfl (.refl _ _) hi λ_=>h _ _ _ _ hg
theorem pF{kd:DK}:Ev d (n+1) (.g kd []) ρ σ (.r σ.length) (σ++[kd.WF]):=λw W e k=>
 FM (M:=bj w ρ σ (.r σ.length) (σ++[kd.WF])) k λks xs p k=>by
  refine cN (eQ k) λk1 k2 _=>?_
  refine kC (M:=λks=>bj w ρ σ (.r σ.length) (σ++[kd.WF]) (.Dict ks xs p)) k1 (kC (M:=λxs=>bj w ρ σ (.r σ.length) (σ++[kd.WF]) (.Dict [] xs p)) k2 (fb rfl trivial λs μ a=>wpAny_Dict_empty ?_))
  rcases kd with _ |_ |_
  ·exact BP W.VP.rD a.bH (λ_ q=>O.noConfusion q) λh μ i D hg=>⟨[],⟨_,_,_,hg,⟨rfl,rfl,rfl⟩,rfl,λ_ q=>absurd q (Array.not_mem_empty _),.nil,Y5⟩,.d8⟩
  ·exact BP W.VP.rD a.bH (λ_ q=>O.noConfusion q) λh μ i D hg=>⟨[],⟨_,_,_,hg,⟨rfl,rfl,rfl⟩,rfl,λ_ q=>absurd q (Array.not_mem_empty _),.nil,Y5⟩,.d8⟩
  ·exact BP W.VP.rD a.bH (λ_ q=>O.noConfusion q) λh μ i D hg=>⟨[],⟨_,_,_,hg,⟨rfl,rfl,rfl⟩,rfl,rfl,λ_ q=>absurd q XX,Y5⟩,.d8⟩
end
noncomputable def bA(d n:Nat)(it:It)(ρ:aA)(σ:aj)(S:eM)(σ':aj):Prop:=∀w,Ok w d->∀e,uy w.Vk.KF (cg w.Vk.KF n w.VK) w.VK e it=true->∀s μ,At w ρ s μ σ->w.wp (eval e w.aE) (λx s₁=>w.wp (pyIter x) (jP w.Vk w.VU s μ S σ') s₁) s
inductive l7(w:Wh)(fr:List Addr)(ρ':aA)(s:Shared)(μ:List Addr)(σ:aj)(u:Unit)(s':Shared):Prop
 |mk (st:cK w.Vk fr s μ s' μ σ) (e:dk s.heap μ s'.heap μ) (a:At w ρ' s' μ σ)
noncomputable def EC(w:Wh)(fr:List Addr)(loc:Bool)(n:Nat):Prop:=
 ∀(e:Expr) (t:Tg),qn loc n w.VK e t=true->∀(V:V) (ρ ρ':aA) (s:Shared) (μ:List Addr) (σ:aj) (v:Value),fL n t V ρ=some ρ'->At w ρ s μ σ->aS w.Vk.KF.aF s.heap μ V v->w.wp (assign e w.aE v) (l7 w fr ρ' s μ σ) s
noncomputable def qX(env:PySem.Env)(c:Expr)(r:Bool):Sem (ForInStep Bool):=if r=true then do let ok<-isTrue c env (eval c env);pure (ForInStep.yield ok)else pure (ForInStep.yield r)
noncomputable def ej(d n:Nat)(es:List Ex)(ρ:aA)(σ:aj)(r:Bool)(σ':aj):Prop:=∀w,Ok w d->∀es',cx (cg w.Vk.KF n w.VK) es' es=true->∀s μ,At w ρ s μ σ->w.wp (forIn es' true (qX w.aE)) (RT w.Vk s μ r σ') s
section
variable {w:Wh}{s:Shared}{x y z u v:V}{xs vs:List V}{b t r:Bool}{d n i k m:Nat}{c:Sc}{p:Pos}{es:List Ex}{e o a:Ex}{S:eM}{loc:Bool}
theorem br.rW(a:br Z s μ s' μ' σ'){b:Addr}(hb:s'.heap.get? b=none):s.heap.get? b=none:=(a.fq []).Ey hb
theorem jP.wG{it:Value}(a:br Z s μ s' μ' σ₁)(h:jP Z A s' μ' S σ' it s''):jP Z A s μ S σ' it s'':=by
 obtain⟨I,wr,m,e,st,g,h5,h6,h8,h9⟩:=h
 exact⟨I,wr,m,e,a.d0 st,g,λb hb=>⟨a.rW (h5 b hb).1,(h5 b hb).2⟩,h6.elim (λq=>.inl (a.rW q)) λq=>(a.bJ.kZ _ q).symm,h8,h9⟩
theorem bA.of(h:Ev d n e ρ σ x σ₁)(k:∀Z A s μ v,Rq A->aU Z s.heap μ σ₁->aS Z.KF.aF s.heap μ x v->Wp Z A (pyIter v) (jP Z A s μ S σ₁) s):bA d n (.e e) ρ σ S σ₁:=λw O e' c s μ a=>
 (h w O e' (bV c).2).ev.to a λv s₁ m₁ a₁ e₁ r=>Wp.bZ (k _ _ _ _ _ O.VT.V7 a₁.bH r) λit s₂ q=>q.wG e₁
theorem jJ(h:Ev d n e ρ σ (.t xs) σ₁)(hl:aD xs):bA d n (.e e) ρ σ (.bx xs) σ₁:=.of h λZ A s μ v R I r=>Uw I r R.Wf
theorem DT{s:List Nat}(h:Ev d n e ρ σ (.s s) σ₁)(hl:aD s):bA d n (.e e) ρ σ (.bx (s.map λc=>.s [c])) σ₁:=.of h λZ A s μ v R I r=>Uv I r R.Wf
theorem fe{x:Nat}(h:Ev d n e ρ σ (.r x) σ₁)(hx:σ₁[x]? =some (.l xs))(hl:aD xs):bA d n (.e e) ρ σ (.cr x xs) σ₁:=.of h λZ A s μ v R I r=>Uu I r hx
theorem bA.zi{it:It}{g:Value}(hc:∀L c e,uy L (cg L n c) c e it=true->(jW e λf es' ks p=>ks.isEmpty&&jX L c f g&&cx (cg L n c) es' es)=true)(h:ac d n es ρ σ xs σ₁)
  (k:∀Z A s μ vs,Rq A->aU Z s.heap μ σ₁->aR Z.KF.aF s.heap μ xs vs->Wp Z A (PySem.call g vs) (λx s₁=>Wp Z A (pyIter x) (jP Z A s μ S σ₁) s₁) s):bA d n it ρ σ S σ₁:=λw O e' c s μ a=>
 qq (M:=λe'=>w.wp (eval e' w.aE) (λx s₁=>w.wp (pyIter x) (jP w.Vk w.VU s μ S σ₁) s₁) s) (hc _ _ _ c) λf es' p c1 c2=>(h w O es' c2).Dl O c1 a λvs s₁ m₁ a₁ e₁ r=>Wp.bZ (k _ _ _ _ _ O.VT.V7 a₁.bH r) λx s₂ q=>Wp.bZ q λit s₃ q=>q.wG e₁
theorem pP{j:Int}(h:Ev d n e ρ σ (.i j) σ₁)(h1:j<=aK)(h2:-bY<=j):bA d n (.r [e]) ρ σ (.bx (df 0 j 1)) σ₁:=.zi (λL c e h=>(bV h).2) (.ah h .an) λZ A s μ vs R I r=>
 nE (M:=λvs=>Wp Z A (PySem.call (.type "range") vs) _ s) r λv r1=>by
  refine aT r1 ?_;clear r1;intro t q1;subst q1
  refine call_range_1 ?_
  have st₂:=iH I (h':=s.heap.push {cls:=.type "range",data:=.fields #[.int 0 s.toks,.int j t,.int 1 (s.toks+1)]}) (λb o hb=>XG _ hb) (s.toks+1+1)
  exact Wp.bZ (Ka (s:={s with heap:=s.heap.push {cls:=.type "range",data:=.fields #[.int 0 s.toks,.int j t,.int 1 (s.toks+1)]},toks:=s.toks+1+1}) (A:=A) st₂.eN (IsRange.new _ 0 j 1 s.toks t (s.toks+1)) (by decide) (by decide) ⟨h2,h1⟩ (by decide) R.Wf) λit s₂ q=>q.wG st₂
theorem DS{j k l:Int}(h:ac d n es ρ σ [.i j,.i k,.i l] σ₁)(h1:0<=j/\j<=aK)(h2:-bY<=k/\k<=aK)(h3:0 < l/\l<=aK):bA d n (.r es) ρ σ (.bx (df j k l)) σ₁:=.zi (λL c e h=>(bV h).2) h λZ A s μ vs R I r=>by
 obtain⟨_,_,rfl,nn0,_,_,rfl,nn1,_,_,rfl,nn2,rfl⟩:=r;refine aT nn0 ?_;clear nn0;intro t1 q1;subst q1;refine aT nn1 ?_;clear nn1;intro t2 q1;subst q1;refine aT nn2 ?_;clear nn2;intro t3 q1;subst q1
 refine call_range_3 (Int.ne_of_gt h3.1) ?_ (.inl (PyProof.noPylong_small (by unfold aK at *;lia)))
 have st₂:=iH I (h':=s.heap.push {cls:=.type "range",data:=.fields #[.int j t1,.int k t2,.int l t3]}) (λb o hb=>XG _ hb) s.toks
 exact Wp.bZ (Ka (s:={s with heap:=s.heap.push {cls:=.type "range",data:=.fields #[.int j t1,.int k t2,.int l t3]},toks:=s.toks}) (A:=A) st₂.eN (IsRange.new _ j k l t1 t2 t3) h3.1 h1 h2 h3.2 R.Wf) λit s₂ q=>q.wG st₂
theorem ug.WP{u:Unit}(a:At w ρ s μ σ)(hi:i∈w.VK.dm)(h:ug w.Vk fr w.VK w.aE s μ σ (au ρ i v) u s'):l7 w fr (au ρ i v) s μ σ u s':=h.casesOn λst e F=>⟨st,e,st.ly,F,λj x hx=>by
 by_cases q:j=i
 ·exact q▸hi
 ·unfold au at hx;rw[Xv q]at hx;exact a.mH j x hx⟩
theorem l7.EB{u:Unit}{ρ₁:aA}(st:cK w.Vk fr s μ s' μ σ)(e:dk s.heap μ s'.heap μ)(h:l7 w fr ρ₁ s' μ σ u s''):l7 w fr ρ₁ s μ σ u s'':=h.casesOn λst' e' a=>⟨st.jS st',e.Lg e',a⟩
theorem Ag{es:List Expr}(h:es.all (!fv ·)=true):assignEach es env=es.map λe=>(false,assign e env):=by
 induction es with
 |nil=>rfl
 |cons e es ih=>
  rw[YN,YD]at h
  have ih:=ih h.2
  cases e<;>first |exact bE h.1 | (refine(?_:(_::assignEach es env)=_);rw[ih];rfl)
theorem AV{f:Tg->V->aA->Option aA}(h:fL.go f [] xs ρ=some ρ'):xs=[]/\ρ'=ρ:=by
 rcases xs with _ |_
 ·exact bm rfl ((Xs h).symm)
 ·exact bN h
theorem AU{f:Tg->V->aA->Option aA}{t:Tg}{ts:List Tg}(h:fL.go f (t::ts) xs ρ=some ρ'):∃x ys ρ₁,xs=x::ys/\f t x ρ=some ρ₁/\fL.go f ts ys ρ₁=some ρ':=by
 rcases xs with _ | ⟨x,ys⟩
 ·exact bN h
 ·exact(Zw h).elim λρ₁ q=>BI x ys ρ₁ rfl q.1 q.2
theorem PX{f:Tg->V->aA->Option aA}{ts:List Tg}:∀{xs:List V} {ρ ρ':aA},fL.go f ts xs ρ=some ρ'->ts.length=xs.length:=by
 induction ts with
 |nil=>exact λh=>(Xu List.length (AV h).1).symm
 |cons t ts ih=>exact λh=>by refine nA (AU h) λx ys ρ₁ q3 _ h2=>?_;subst q3;exact Xu (· +1) (ih h2)
theorem U0(H:EC w fr loc n)(ts:List Tg):∀(es:List Expr),cx (qn loc n w.VK) es ts=true->∀(xs:List V) (ρ ρ':aA) (s:Shared) (vs:List Value),fL.go (fL n) ts xs ρ=some ρ'->At w ρ s μ σ->aR w.Vk.KF.aF s.heap μ xs vs->
  w.wp (assignInOrder ((es.map λe=>(false,assign e w.aE)).map (·.2)) vs) (l7 w fr ρ' s μ σ) s:=by
 induction ts with
 |nil=>
  intro es h xs ρ ρ' s vs hb a r
  refine bc (AV hb) λq0 q1=>?_;subst q0;subst q1
  obtain rfl:vs=[]:=r
  exact kC (M:=λes=>w.wp (assignInOrder ((es.map λe=>(false,assign e w.aE)).map (·.2)) []) (l7 w fr ρ' s μ σ) s) h (Xm ⟨.wI a.bH fr,(yT _ _).Wv,a⟩)
 |cons t ts ih=>
  intro es h xs ρ ρ' s vs hb a r
  refine nA (AU hb) λx ys ρ₁ q3 h1 h2=>?_;subst q3
  refine cO r ?_;clear r;intro v u q2 r1 r2;subst q2
  exact iL (M:=λes=>w.wp (assignInOrder ((es.map λe=>(false,assign e w.aE)).map (·.2)) (v::u)) (l7 w fr ρ' s μ σ) s) h λe es c1 c2=>wpAny_assignInOrder_more (Wp.bZ (H e t c1 x ρ ρ₁ s μ σ v h1 a r1) λ_ s₁ q=>q.casesOn λst e1 a₁=>
   Wp.bZ (ih es c2 ys ρ₁ ρ' s₁ u h2 a₁ (aR.extW e1 ys r2)) λ_ s₂ q=>q.EB st e1)
theorem Ko(O:Ok w d)(f1:w.aE.locals∈fr)(f2:∀x a,loc=false->w.aE.kindOf x=some .cell->w.aE.cells.lookup x=some a->a∈fr)(n:Nat):EC w fr loc n:=by
 induction n with
 |zero=>exact λe t h=>bE h
 |succ n ih=>
  intro e t h V ρ ρ' s μ σ v hb a r
  rcases t with i |ts |_ |_
  ·refine oS (M:=λe=>w.wp (assign e w.aE v) (l7 w fr ρ' s μ σ) s) h λid p h=>?_
   refine cN (cY h) λh1 h2 h3=>?_
   obtain rfl:=Xs hb
   have hm:=List.contains_iff_mem.mp h1
   exact wpAny_assign_Name (Wp.bZ (a.VS.yZ (x:=(id,i)) a.bH O.X hm (bne_iff_ne.mp h2) r f1 λd hk hl=>(Yq h3).elim (λh2=>f2 id d (i7 h2) hk hl) λh2=>by
    rw[nv O.X,beq_iff_eq.mp h2]at hk;exact NameKind.noConfusion (Xs hk)) λu s' q=>q.WP a (O.X.dm _ hm))
  ·refine qp (M:=λe=>w.wp (assign e w.aE v) (l7 w fr ρ' s μ σ) s) h λes k p h=>?_
   refine bc (bV h) λh1 h2=>?_
   rcases V with _ |_ |_ |_ |xs |_ |_ |_<;>first |exact bN hb |skip
   obtain⟨x,vs,m,rfl,ha,hn,hr⟩:=d6 r
   have hlen:es.length=vs.length:=(wY h1).trans ((PX hb).trans hr.length)
   have hae:=Ag (env:=w.aE) h2
   refine wpAny_assign_Tuple O.VT.1 (items:=vs.toArray) ⟨_,ha,rfl,_,rfl⟩ (by rw[hae,Xk];exact hlen) (by rw[hae];exact List.findIdx?_eq_none_iff.mpr λq hq=>by refine az (XY hq) λe _ q2=>?_;subst q2;rfl) λh' hx=>?_
   have st₀:br w.Vk s μ {s with heap:=h'} μ σ:=iH a.bH (λb o hb=>hx b o (XH (Ym hb)) hb) s.toks
   rw[hae]
   exact Wp.bZ (U0 ih ts es h1 xs ρ ρ' {s with heap:=h'} vs hb (a.gS st₀) (aR.lh st₀.bJ xs hr)) λ_ s' q=>q.EB (st₀.fq fr) st₀.bJ.Wv
  ·exact bE h
  ·exact bE h
theorem ej.om:ej d n [] ρ σ true σ:=λw O es c s μ a=>kC (M:=λes=>w.wp (forIn es true (qX w.aE)) (RT w.Vk s μ true σ) s) c (by rw[List.forIn_nil];exact Xm ⟨rfl,μ,.oJ a.bH⟩)
theorem ej.WZ(h:Ev d n e ρ σ (.b true) σ₁)(h2:ej d n es ρ σ₁ r σ₂):ej d n (e::es) ρ σ r σ₂:=λw O es' c s μ a=>iL (M:=λes=>w.wp (forIn es true (qX w.aE)) (RT w.Vk s μ r σ₂) s) c λe1 es' c1 c2=>by
 rw[List.forIn_cons]
 exact Xj (Xj (((h w O e1 c1).V1 _ rfl).to a λs₁ m₁ a₁ e₁=>Xm (zx e₁ (h2 w O es' c2 _ _ a₁))))
theorem UX{es:List Expr}{R:Bool->Shared->Prop}(h:R false s):Wp Z A (forIn es false (qX env)) R s:=by
 induction es with
 |nil=>rw[List.forIn_nil];exact Xm h
 |cons e es ih=>rw[List.forIn_cons];exact Xj (Xm ih)
theorem ej.WY(h:Ev d n e ρ σ (.b false) σ₁):ej d n (e::es) ρ σ false σ₁:=λw O es' c s μ a=>iL (M:=λes=>w.wp (forIn es true (qX w.aE)) (RT w.Vk s μ false σ₁) s) c λe1 es' c1 c2=>by
 rw[List.forIn_cons]
 exact Xj (Xj (((h w O e1 c1).V1 _ rfl).to a λs₁ m₁ a₁ e₁=>Xm (UX ⟨rfl,m₁,e₁⟩)))
theorem v9(h:Ev d n e ρ σ (.b r) σ₁):ej d n [e] ρ σ r σ₁:=by
 rcases r with _ |_
 ·exact .WY h
 ·exact .WZ h .om
end
noncomputable def oV(env:PySem.Env)(elt:Expr)(gens:List Comprehension)(scope:Scope)(pos:Pos)(D:Addr)(depth:Nat):Sem Unit:=match gens[depth]? with
 |some g'=>do
  let x<-eval g'.iter env
  standAt g'.iter.pos
  let x<-if g'.is_async !=0 then foldedIterable g'.iter x else foldedSetIterable g'.iter env x
  let _<-runOwn (.compStart (.ListComp elt gens scope pos) depth (<-holding [x] (if g'.is_async !=0 then asyncIter x else pyIter x)) (.ref D) env) env
  pure ()
 |none=>(do let _<-call (.builtin "list.append") [.ref D,<-eval elt env]:Sem Unit)
theorem Fu{it:Value}{tg:Expr}{ifs:List Expr}(hg:gens[depth]? =some ⟨tg,iter,ifs,0⟩):
  compTurn (.ListComp elt gens scope pos) depth it (.ref D) env=(do
   standAt iter.pos
   match<-pyNext it with
   |none=>pure (.done .next)
   |some v=>
    letOwnedTupleGo tg it v
    assign tg env v
    let ok<-forIn ifs true (qX env)
    (if ok=true then oV env elt gens scope pos D (depth+1)else pure ())
    again (.compLoop (.ListComp elt gens scope pos) depth it (.ref D) env)):=by
 unfold compTurn oV qX
 simp only[hg,show((0:Int)!=0)=false from rfl,Zl,if_false,bind_assoc,pure_bind]
 refine bind_congr λ_=>bind_congr λr=>?_
 rcases r with _ |v
 ·rfl
 ·simp only
  refine bind_congr λ_=>bind_congr λ_=>bind_congr λok=>?_
  rcases ok with _ |_
  ·simp only[Zl,if_false,pure_bind]
  ·simp only[if_true]
   rcases gens[depth+1]? with _ |g'
   ·simp only[bind_assoc,pure_bind]
   ·simp only[bind_assoc]
    refine bind_congr λx=>bind_congr λ_=>?_
    split<;>simp only[bind_assoc,pure_bind]
structure jg(w:Wh)(D:Addr)(ρ:aA)(pB:List V)(s:Shared)(μ:List Addr)(σ:aj):Prop where
 hZ:At w ρ s μ σ
 pB:∃vs n,s.heap.get? D=some (ir vs n)/\aR w.Vk.KF.aF s.heap μ pB vs
 ia:D∉μ/\w.Vk.cS.get? D=none/\D∉dE w.aE
structure v3(w:Wh)(n:Nat)(LJ:Ex)(gs:List jo)(elt':Expr)(LK:List Comprehension)(depth:Nat):Prop where
 LJ:cg w.Vk.KF n w.VK elt' LJ=true
 LK:cx (zZ w.Vk.KF (cg w.Vk.KF n) w.VK w.VK) (LK.drop depth) gs=true
 nd:(m9 gs).Nodup
structure y9(w:Wh)(n:Nat)(elt:Ex)(tg:Tg)(ifs:List Ex)(gs:List jo)(elt':Expr)(gens:List Comprehension)(depth:Nat):Prop where
 DL:∃tgE iter ifs',gens[depth]? =some ⟨tgE,iter,ifs',0⟩/\qn true 4 w.VK tgE tg=true/\cx (cg w.Vk.KF n w.VK) ifs' ifs=true
 Mp:v3 w n elt gs elt' gens (depth+1)
 nd:(vB 4 tg++m9 gs).Nodup
inductive GR(w:Wh)(D:Addr)(ρ:aA)(acc':List V)(σ':aj)(s:Shared)(μ:List Addr)(s':Shared):Prop
 |mk (μ':List Addr) (st:cK w.Vk [w.aE.locals,D] s μ s' μ' σ') (c:jg w D ρ acc' s' μ' σ')
noncomputable def LR(w:Wh)(D:Addr)(ρ:aA)(acc':List V)(σ':aj)(s:Shared)(μ:List Addr)(r:Result)(s':Shared):Prop:=match r with
 | .ok _=>GR w D ρ acc' σ' s μ s'
 | .error _=>False
noncomputable def jD(d n:Nat)(elt:Ex)(gs:List jo)(ρ:aA)(σ:aj)(acc acc':List V)(σ':aj):Prop:=∀w,Ok w d->∀elt' gens scope pos depth,v3 w n elt gs elt' gens depth->(∀i∈m9 gs,ρ i=none)->
 ∀D s μ,jg w D ρ acc s μ σ->w.wp (oV w.aE elt' gens scope pos D depth) (λ_=>GR w D ρ acc' σ' s μ) s
structure EP(w:Wh)(WV:Addr)(wr:List Addr)(s:Shared):Prop where
 EQ:∀b∈wr,s.heap.get? b=none
 WW:∀b∈dE w.aE,b∉wr
 WV:WV∉wr
noncomputable def cV(d n:Nat)(elt:Ex)(tg:Tg)(ifs:List Ex)(gs:List jo)(ρ:aA)(S:eM)(xs:List V)(σ:aj)(acc acc':List V)(σ':aj):Prop:=∀w,Ok w d->∀elt' gens scope pos depth,y9 w n elt tg ifs gs elt' gens depth->(∀i∈vB 4 tg++m9 gs,ρ i=none)->
 ∀D I wr s μ s₀ μ₀,jg w D ρ acc s μ σ->lT w.Vk I wr [w.aE.locals,D] S xs s.heap μ σ->EP w D wr s₀->cK w.Vk [w.aE.locals,D] s₀ μ₀ s μ σ->codeAny (model w.Vk.bK w.Vk.VI) w.VU (.compLoop (.ListComp elt' gens scope pos) depth (.ref I) (.ref D) w.aE) (LR w D ρ acc' σ' s₀ μ₀) s
section
variable {w:Wh}{s:Shared}{x y z u v:V}{xs vs acc acc' acc'':List V}{b t r:Bool}{d n i k m:Nat}{c:Sc}{p:Pos}{es:List Ex}{e o a elt:Ex}{S:eM}{it:It}
theorem cK.wH(a:cK Z fr s₀ μ₀ s μ σ)(b:ud Z wr s μ s' σ')(hw:∀b∈wr,s₀.heap.get? b=none):cK Z fr s₀ μ₀ s' μ σ' where
 iI:=⟨b.zE.1.trans a.iI.1,b.zE.2.1.trans a.iI.2.1,b.zE.2.2.trans a.iI.2.2⟩
 ly:=b.zD
 iZ:=λc o hc hn hf=>b.ue c o (a.iZ c o hc hn hf) (a.Ew hc hn) λhm=>gb (hw c hm) hc
 l4:=λc o hc=>(Decidable.em (c∈μ)).elim (b.zD.iU c) λhm=>(a.l4 c o hc).imp λo' h=>b.ue c o' h hm λh=>gb (hw c h) hc
 jR:=a.jR
 i4:=a.i4
theorem At.vL(a:At w ρ s μ σ)(b:ud w.Vk wr s μ s' σ')(hw:∀b∈dE w.aE,b∉wr):At w ρ s' μ σ':=⟨b.zD,a.VS.v2 b.ew (λb hb=>(a.VS.gw b hb).1) λc hc o ho=>b.ue c o ho (a.VS.gw c hc).1 (hw c hc),a.mH⟩
theorem At.KH(a:At w ρ' s μ σ)(h:∀i v,ρ i=some v->ρ' i=some v):At w ρ s μ σ:=⟨a.bH,a.VS.LF h,λi v q=>a.mH i v (h i v q)⟩
theorem jg.to(C:jg w D ρ acc s μ σ)(a:At w ρ' s' μ σ')(k:∀o,s.heap.get? D=some o->s'.heap.get? D=some o)(e:dk s.heap μ s'.heap μ):jg w D ρ' acc s' μ σ':=⟨a,C.pB.imp λvs q=>q.imp λn q=>⟨k _ q.1,q.2.extW e⟩,C.ia⟩
theorem jg.vN(C:jg w D ρ acc s μ σ)(st:br w.Vk s μ s' μ' σ'):jg w D ρ acc s' μ' σ':=by
 obtain⟨vs,n,h1,h2⟩:=C.pB
 exact⟨C.hZ.gS st,(eE vs n (st.bJ.iE _ _ h1 C.ia.1) (h2.lh st.bJ)),st.bJ.tN h1 C.ia.1,C.ia.2⟩
theorem Os{f:Tg->V->aA->Option aA}{g:Tg->List Nat}(H:∀t x ρ ρ',f t x ρ=some ρ'->∀i,i∉g t->ρ' i=ρ i)(ts:List Tg):∀(xs:List V) (ρ ρ':aA),fL.go f ts xs ρ=some ρ'->∀i,i∉ts.flatMap g->ρ' i=ρ i:=by
 induction ts with
 |nil=>exact λxs ρ ρ' h i hi=>by rw[(AV h).2]
 |cons t ts ih=>
  intro xs ρ ρ' h i hi
  refine nA (AU h) λx ys ρ₁ q3 h1 h2=>?_;subst q3
  rw[List.flatMap_cons,List.mem_append,not_or]at hi
  exact(ih ys ρ₁ ρ' h2 i hi.2).trans (H t x ρ ρ₁ h1 i hi.1)
theorem Op(n:Nat):∀(t:Tg) (x:V) (ρ ρ':aA),fL n t x ρ=some ρ'->∀i,i∉vB n t->ρ' i=ρ i:=by
 induction n with
 |zero=>exact λt x ρ ρ' h=>bN h
 |succ n ih=>
  intro t x ρ ρ' h i hi
  rcases t with j |ts |_ |_
  ·rw[<-Xs h];exact Xv λe=>hi (Yg e)
  ·rcases x with _ |_ |_ |_ |xs |_ |_ |_<;>first |exact bN h |exact Os ih ts xs ρ ρ' h i hi
  ·exact bN h
  ·exact bN h
theorem v3.LM{e':Expr}(G:v3 w n elt (.m tg it ifs::gs) e' gens depth):∃tgE iter ifs',gens[depth]? =some ⟨tgE,iter,ifs',0⟩/\uy w.Vk.KF (cg w.Vk.KF n w.VK) w.VK iter it=true/\y9 w n elt tg ifs gs e' gens depth:=by
 obtain⟨h1,h2,h3⟩:=G
 have hd:gens[depth]? =(gens.drop depth)[0]?:=by rw[List.getElem?_drop];rfl
 have ht:gens.drop (depth+1)=(gens.drop depth).tail:=List.tail_drop.symm
 revert hd ht
 refine iL (M:=λl=>gens[depth]? =l[0]?->gens.drop (depth+1)=l.tail->_) h2 λg l c1 c2 hd ht=>?_
 obtain⟨tgE,iter,ifs',as⟩:=g
 refine kM (eQ c1) λk1 k2 k3 k4=>?_
 obtain rfl:as=0:=Xx k4
 exact⟨tgE,iter,ifs',hd,k1,(BI tgE iter ifs' hd k2 k3),⟨h1,by rw[ht];exact c2,(List.nodup_append.mp h3).2.1⟩,h3⟩
theorem vH{a b c:Addr}{P:Addr->Prop}(h:c∈[a,b])(ha:P a)(hb:P b):P c:=by
 rcases XC h with e |h
 ·exact e▸ha
 ·exact Xy h▸hb
theorem jg.vO(C:jg w D ρ acc s μ σ):∀b∈[w.aE.locals,D],iD s.heap b:=λb hb=>vH hb (C.hZ.VS.tr _ (Xz ..)) (C.pB.elim λvs q=>q.elim λn q=>⟨_,q.1,rfl⟩)
theorem cV.mQ:cV d n elt tg ifs gs ρ S [] σ acc acc (S.iG none σ):=λw O elt' gens scope pos depth G hf D I wr s μ s₀ μ₀ C io W B=>by
 obtain⟨tgE,iter,ifs',hg,_⟩:=G.DL
 refine Zd ?_
 refine(?_:wpAny _ w.VU ((compTurn (.ListComp elt' gens scope pos) depth (.ref I) (.ref D) w.aE).onRaise (λx=>do noteFrame x w.aE;theTreesLotGoes x)) _ _ s)
 refine wpAny_noted ?_
 rw[Fu hg]
 refine ny (Xj (X0 (Xj (Wp.bZ (io w.VU s O.VT.1 rfl C.hZ.bH) λr s₁ q=>?_))))
 obtain⟨rfl,st⟩:=q
 exact Xm ⟨μ,B.wH st W.EQ,C.to (C.hZ.vL st W.WW) (λo ho=>st.ue _ _ ho C.ia.1 W.WV) st.ew⟩
theorem cV.DI(hb:fL 4 tg x ρ=some ρ')(h:ej d n ifs ρ' (S.iG (some xs) σ) b σ₁)(h2:b=true->jD d n elt gs ρ' σ₁ acc acc' σ₂)(h2':b=false->acc'=acc/\σ₂=σ₁)(hg:S.V8 xs σ₂)(h3:cV d n elt tg ifs gs ρ S xs σ₂ acc' acc'' σ₃):
  cV d n elt tg ifs gs ρ S (x::xs) σ acc acc'' σ₃:=λw O elt' gens scope pos depth G hf D I wr s μ s₀ μ₀ C io W B=>by
 obtain⟨tgE,iter,ifs',hgs,c2,c3⟩:=G.DL
 refine Zd ?_
 refine(?_:wpAny _ w.VU ((compTurn (.ListComp elt' gens scope pos) depth (.ref I) (.ref D) w.aE).onRaise (λx=>do noteFrame x w.aE;theTreesLotGoes x)) _ _ s)
 refine wpAny_noted ?_
 rw[Fu hgs]
 refine ny (Xj (X0 (Xj (Wp.bZ (io w.VU s O.VT.1 rfl C.hZ.bH) λr s₁ q=>?_))))
 obtain⟨v,rfl,hgo⟩:=q
 refine Xj (Wp.bZ (hgo tgE) λ_ s₂ q=>?_)
 obtain⟨st,rv,later⟩:=q
 have C₂:=C.to (C.hZ.vL st W.WW) (λo ho=>st.ue _ _ ho C.ia.1 W.WV) st.ew
 have B₂:=B.wH st W.EQ
 refine Xj (Wp.bZ (Ko (fr:=[w.aE.locals]) O (Yg rfl) (λ_ _ q=>bE q.symm) 4 tgE tg c2 x ρ ρ' s₂ μ _ v hb C₂.hZ rv) λ_ s₃ q=>?_)
 obtain⟨st₃,e₃,a₃⟩:=q
 have C₃:=C₂.to a₃ (λo ho=>st₃.iZ _ _ ho C.ia.1 λq=>C.ia.2.2 (Xy q▸Xz ..)) e₃
 have st₃:=st₃.Nn (fr':=[w.aE.locals,D]) λb hb=>Xy hb▸Xz ..
 refine Xj (Wp.bZ (h w O ifs' c3 s₃ μ a₃) λb' s₄ q=>?_)
 obtain⟨rfl,m₄,st₄⟩:=q
 have same:=Op 4 tg x ρ ρ' hb
 have le:∀i v,ρ i=some v->ρ' i=some v:=λi v hv=>(same i λhm=>bN ((hf i (YA _ hm)).symm.trans hv)).trans hv
 have key:w.wp (if b'=true then oV w.aE elt' gens scope pos D (depth+1)else pure ()) (λ_=>GR w D ρ' acc' σ₂ s₂ μ) s₄:=by
  have C₄:=C₃.vN st₄
  have B₄:=st₃.jS (st₄.fq [w.aE.locals,D])
  rcases b' with _ |_
  ·refine bc (h2' rfl) λq0 q1=>?_;subst q0;subst q1
   exact Xm ⟨m₄,B₄,C₄⟩
  ·exact Wp.bZ (h2 rfl w O elt' gens scope pos (depth+1) G.Mp (λi hi=>(same i λhm=>(List.nodup_append.mp G.nd).2.2 i hm i hi rfl).trans (hf i (YT _ hi))) D s₄ m₄ C₄) λ_ s₅ q=>q.casesOn λm₅ st₅ C₅=>⟨m₅,B₄.jS st₅,C₅⟩
 refine Xj (Wp.bZ key λ_ s₅ q=>Xm ⟨rfl,?_⟩)
 obtain⟨m₅,st₅,C₅⟩:=q
 exact h3 w O elt' gens scope pos depth G hf D I wr s₅ m₅ s₀ μ₀ ⟨C₅.hZ.KH le,C₅.pB,C₅.ia⟩ (later s₅.heap m₅ σ₂ ⟨st₅.iZ,λb hb=>(C₂.vO b hb).kU,st₅.jR,st₅.i4⟩ hg C₅.hZ.bH) W (B₂.jS st₅)
theorem cV.Wr(hb:fL 4 tg x ρ=some ρ')(h:ej d n ifs ρ' (S.iG (some xs) σ) true σ₁)(h2:jD d n elt gs ρ' σ₁ acc acc' σ₂)(hg:S.V8 xs σ₂)(h3:cV d n elt tg ifs gs ρ S xs σ₂ acc' acc'' σ₃):cV d n elt tg ifs gs ρ S (x::xs) σ acc acc'' σ₃:=.DI hb h (λ_=>h2) (λq=>bE q.symm) hg h3
theorem cV.WL(hb:fL 4 tg x ρ=some ρ')(h:ej d n ifs ρ' (S.iG (some xs) σ) false σ₁)(hg:S.V8 xs σ₁)(h3:cV d n elt tg ifs gs ρ S xs σ₁ acc acc'' σ₃):cV d n elt tg ifs gs ρ S (x::xs) σ acc acc'' σ₃:=.DI hb h (λq=>bE q) (λ_=>⟨rfl,rfl⟩) hg h3
end
section
variable {w:Wh}{s:Shared}{x y z u v:V}{xs vs acc acc' acc'':List V}{b t r:Bool}{d n i k m:Nat}{c:Sc}{p:Pos}{es:List Ex}{e o a elt:Ex}{S:eM}{it:It}
theorem Vu(st:cK w.Vk [w.aE.locals,D] s μ s' μ' σ₁)(h:GR w D ρ acc' σ' s' μ' s''):GR w D ρ acc' σ' s μ s'':=h.casesOn λm st' C=>⟨m,st.jS st',C⟩
theorem jD.pH(h:Ev d n elt ρ σ v σ₁)(hl:aD acc):jD d n elt [] ρ σ acc (acc++[v]) σ₁:=λw O elt' gens scope pos depth G hf D s μ C=>by
 unfold oV
 rw[List.getElem?_eq_none_iff.mpr (List.drop_eq_nil_iff.mp (kC (M:=λl=>l=[]) G.LK rfl))]
 refine(h w O elt' G.LJ).ev.ic C.hZ λu s₁ m₁ a₁ e₁ r₁=>?_
 have C₁:=C.vN e₁
 obtain⟨vs,m,h1,h2⟩:=C₁.pB
 refine Xj (wpAny_list_append_plain ⟨m,h1⟩ (λh' hp hb=>Xm ?_) (lH h2 hl))
 refine aT hp ?_;clear hp;intro m' hD
 have hD':h'.get? D=some (ir (vs++[u]) m'):=by rw[hD,List.push_toArray]
 have sb:=jA hb
 have st₂:cK w.Vk [w.aE.locals,D] s₁ m₁ {s₁ with heap:=h',toks:=s₁.toks} m₁ σ₁:=zC C₁.hZ.bH (XA _ (Yg rfl)) C₁.ia.1 C₁.ia.2.1 ⟨_,h1,rfl⟩ _ sb ⟨_,hD'⟩
 have ew:=(C₁.hZ.bH.pM C₁.ia.1 C₁.ia.2.1 (λo ho=>by cases h1.symm.trans ho;rfl) sb).2
 exact⟨m₁,(e₁.fq _).jS st₂,⟨st₂.ly,a₁.VS.v2 ew (λb hb=>(a₁.VS.gw b hb).1) λb hb o ho=>sb b o (λe=>C₁.ia.2.2 (e▸hb)) ho,a₁.mH⟩,(eE (vs++[u]) m' hD' ((h2.append (zz r₁)).extW ew)),C₁.ia⟩
theorem Ft{elt:Expr}{it acc:Value}{tg:Expr}{ifs:List Expr}{R:Result->Shared->Prop}(hg:gens[depth]? =some ⟨tg,iter,ifs,0⟩)
  (h0:codeAny (model Z.bK Z.VI) A (.compLoop (.ListComp elt gens scope pos) depth it acc env) R s)
  (h:wpAny (model Z.bK Z.VI) A (pyIter it) (λit' s'=>codeAny (model Z.bK Z.VI) A (.compLoop (.ListComp elt gens scope pos) depth it' acc env) R s') (notedBy (model Z.bK Z.VI) A env λx s'=>R (.error x) s') s):
  codeAny (model Z.bK Z.VI) A (.compStart (.ListComp elt gens scope pos) depth it acc env) R s:=by
 refine Zd ?_
 refine(?_:wpAny _ _ ((compStart (.ListComp elt gens scope pos) depth it acc env).onRaise (λx=>do noteFrame x env;standAt theWindowsPlace)) _ _ s)
 refine wpAny_notedAt ?_
 unfold compStart
 rw[show clausesOf (.ListComp elt gens scope pos)=gens from rfl,hg]
 refine(?_:wpAny _ _ (ask>>=_) _ _ s)
 refine Xj (wpAny_askSetting (wpAny_ite ?_))
 split
 ·first
   |exact Xj (Xm (Xm (And.intro rfl h0)))
   |exact Xm (And.intro rfl h0)
 ·refine Xj (wpAny_rule ?_)
  refine(?_:wpAny _ _ (standAt iter.pos>>=_) _ _ s)
  exact Xj (X0 (Xj (wpAny_mono h (λit' s' h'=>Xm (And.intro rfl h')) λ_ _ x=>x)))
theorem BV{e:Expr}{x:Value}(h:(!G4 e)=true):foldedSetIterable e env x=pure x:=by
 cases e<;>first |rfl |exact bE h
theorem qv(a:At w ρ s μ σ){b:Addr}(hb:s.heap.get? b=none):b∉dE w.aE:=λhm=>(a.VS.tr b hm).elim λo q=>gb hb q.1
theorem Ut(C:jg w D ρ acc s μ σ)(st:br w.Vk s μ s' μ' σ')(h5:∀b∈wr,s.heap.get? b=none/\∃o,s'.heap.get? b=some o)(h6:s.heap.get? I=none∨I∈μ):tO [w.aE.locals,D] s'.heap μ' wr I:=by
 have C':=C.vN st
 have go:∀b,iD s.heap b->b∉μ->iD s'.heap b->s'.heap.get? b=none∨(iD s'.heap b/\b∉μ'/\b∉wr/\b≠I):=λb t1 t2 t3=>t1.elim λo q=>
  .inr ⟨t3,st.bJ.tN q.1 t2,λhw=>gb (h5 b hw).1 q.1,λe=>h6.elim (λh=>gb (e▸h) q.1) λh=>t2 (e▸h)⟩
 exact λb hb=>go b (C.vO b hb) (vH (P:=λb=>b∉μ) hb (C.hZ.VS.gw _ (Xz ..)).1 C.ia.1) (C'.vO b hb)
theorem Ux(C:jg w D ρ acc s μ σ)(h5:∀b∈wr,s.heap.get? b=none/\∃o,s'.heap.get? b=some o):EP w D wr s:=
 ⟨λb hb=>(h5 b hb).1,λb hb hw=>qv C.hZ (h5 b hw).1 hb,λhw=>C.pB.elim λvs q=>q.elim λn q=>gb (h5 D hw).1 q.1⟩
theorem LN(h:bA d n it ρ σ S σ₁)(h2:cV d n elt tg ifs gs ρ S S.qa σ₁ acc acc' σ₂):jD d n elt (.m tg it ifs::gs) ρ σ acc acc' σ₂:=λw O elt' gens scope pos depth G hf D s μ C=>by
 obtain⟨tgE,iter,ifs',hg,c1,G'⟩:=G.LM
 unfold oV
 rw[hg]
 refine Xj (Wp.bZ (h w O iter c1 s μ C.hZ) λx s₁ q=>Xj (X0 ?_))
 refine(?_:w.wp (foldedSetIterable iter w.aE x>>=_) _ s₁)
 rw[BV (bV c1).1]
 refine Xj (Xm (Xj (XI (Wp.bZ q λitv s₂ q=>?_))))
 obtain⟨I,wr,m₂,rfl,st,g,h5,h6,h8,h9⟩:=q
 have C₂:=C.vN st
 have main:codeAny (model w.Vk.bK w.Vk.VI) w.VU (.compLoop (.ListComp elt' gens scope pos) depth (.ref I) (.ref D) w.aE) (λr s'=>match r with
   | .ok f=>w.wp (pure ()) (λ_=>GR w D ρ acc' σ₂ s μ) s'
   | .error e=>cameBackBy (model w.Vk.bK w.Vk.VI) w.VU w.aE NE e s') s₂:=
  YS (h2 w O elt' gens scope pos depth G' hf D I wr s₂ m₂ s μ C₂ (h8 _ (Ut C st h5 h6) s₂.heap m₂ σ₁ ⟨λ_ _ hb _ _=>hb,λb hb=>(C₂.vO b hb).kU,Yh _,λ_ hb=>.inl hb⟩ g st.eN) (Ux C h5) (st.fq _)) λr s' q=>by
   rcases r with f |e
   ·exact q.elim
   ·exact Xm q
 exact Xj (wpAny_runOwn (Ft hg main (ny (h9 s₂ (λ_ _ ho=>ho) _ main))))
end
noncomputable def xm(cells:List (Str×Addr))(names:List (Str×NameKind)):List (Str×Addr):=(names.filter λx=>x.2==.free).map λx=>(x.1,(cells.lookup x.1).getD 0)
noncomputable def mj(env:PySem.Env)(scope:Scope):List (Str×Addr):=(xm env.cells scope.names).reverse
structure re(c:Sc)(scope:Scope)(own:List (Str×Nat)):Prop where
 yC:scope.kind=.function
 KY:∀x∈scope.names,x.2≠.cell
 KW:∀x∈scope.names,x.2=.local->scope.names.lookup x.1=some .local
 yB:∀x∈scope.names,x.2=.free->scope.names.lookup x.1=some .free/\x.1∈c.jO/\(c.dD.lookup x.1=some .cell∨c.dD.lookup x.1=some .free)
 ow:∀x∈own,scope.names.lookup x.1=some .local/\x.2∉c.dm
 sc:wF (kD c scope own)
section
variable {h:Heap}{s:Shared}{c:Sc}
theorem Ix(h:BZ c=true):wF c:=by
 refine kM (eQ h) λh1 h2 h3 h4=>?_
 refine⟨XQ h1,XQ h2,XQ h3,λx hx=>?_,λx hx=>?_⟩
 ·have k:=cY (YG h4 x hx)
  exact bm (i7 k.1) (i7 k.2.1)
 ·refine(Yq (cY (YG h4 x hx)).2.2).imp Xx λq=>?_
  exact bm ((Yq (bV q).1).imp Xx Xx) (List.contains_iff_mem.mp (bV q).2)
theorem RG(h:Iv c scope own=true):re c scope own:=by
 refine kM (eQ h) λh1 h2 h3 h4=>?_
 have k2:=λx hx=>cY (YG h2 x hx)
 refine⟨Xx h1,λx hx=>bne_iff_ne.mp (k2 x hx).1,λx hx hl=>?_,λx hx hf=>?_,λx hx=>?_,Ix h4⟩
 ·exact(Yq (k2 x hx).2.1).elim (λq=>absurd hl (bne_iff_ne.mp q)) Xx
 ·refine(Yq (k2 x hx).2.2).elim (λq=>absurd hf (bne_iff_ne.mp q)) λq=>?_
  refine cN (cY q) λq1 q2 q3=>?_
  exact fy (Xx q1) (List.contains_iff_mem.mp q2) ((Yq q3).imp Xx Xx)
 ·have k:=bV (YG h3 x hx)
  exact bm (Xx k.1) (λhm=>Bool.noConfusion ((i7 k.2).symm.trans (List.contains_iff_mem.mpr hm)))
theorem Oy:∀(acc:List (Str×Addr)),(∀x∈names,x.2=.free->∃a,env.cells.lookup x.1=some a)->
  (forIn names acc (λ(x:Str×NameKind) (r:List (Str×Addr))=>(if x.2==.free then do let a<-cellOf env x.1;pure (ForInStep.yield ((x.1,a)::r))else pure (ForInStep.yield r):Sem (ForInStep (List (Str×Addr))))):Sem _)=pure ((xm env.cells names).reverse++acc):=by
 induction names with
 |nil=>exact λacc h=>List.forIn_nil
 |cons x xs ih=>
  intro acc h
  have ih:=λacc=>ih acc λy hy=>h y (XA _ hy)
  rw[List.forIn_cons]
  unfold xm
  rw[List.filter_cons]
  by_cases hf:(x.2==.free)=true
  ·refine aT (h x (Xz ..) (Xx hf)) λa ha=>?_
   rw[Xr hf,Xr hf,show cellOf env x.1=pure a by unfold cellOf;rw[ha],pure_bind,pure_bind,Xw,ha,List.reverse_cons,XM]
   exact ih ((x.1,a)::acc)
  ·rw[Xv hf,Xv hf,pure_bind]
   exact ih acc
theorem Oz(h:∀x∈scope.names,x.2=.free->∃a,env.cells.lookup x.1=some a):closureFor scope env=pure (mj env scope):=by
 refine(?_:((forIn scope.names ([]:List (Str×Addr)) (λ(x:Str×NameKind) (r:List (Str×Addr))=>(if x.2==.free then do let a<-cellOf env x.1;pure (ForInStep.yield ((x.1,a)::r))else pure (ForInStep.yield r):Sem (ForInStep (List (Str×Addr))))):Sem _)>>=λr=>pure r)=_)
 rw[Oy [] h,pure_bind,Yb];rfl
theorem T1(X:fE c env):(relabel scope env).names=yg scope.names c.dD:=by
 refine YU λx _=>?_
 refine(?_:(if(x.2==.free&&env.scope.kind==.function&&env.kindOf x.1==some .cell)=true then(x.1,NameKind.cell)else(x.1,x.2))=_)
 rw[X.fn,nv X]
 refine(?_:(if(x.2==.free&&true&&_)=true then _ else _)=_)
 rw[Bool.and_true]
 split
 ·rfl
 ·rfl
theorem T0{outer:List (Str×NameKind)}{n:Str}:(yg names outer).lookup n=(names.lookup n).map λk=>if k==.free&&outer.lookup n==some .cell then .cell else k:=by
 induction names with
 |nil=>rfl
 |cons x xs ih=>
  unfold yg at ih ⊢
  rw[Xw,List.lookup_cons,List.lookup_cons]
  cases e:n==x.1 with
  |true=>rw[Xx e];rfl
  |false=>exact ih
theorem Fv(X:fE c env)(K:re c scope own):∀x∈scope.names,x.2=.free->∃a,env.cells.lookup x.1=some a:=λx hx hf=>xD (X.yH▸(K.yB x hx hf).2.1)
theorem sd(X:fE c env)(K:re c scope own){y:Str×Addr}(hy:y∈mj env scope):env.cells.lookup y.1=some y.2:=by
 refine az (XY (List.mem_reverse.mp hy)) λx hx q2=>?_;subst q2
 refine bc (Zc hx) λh1 h2=>?_
 refine aT (Fv X K x h1 (Xx h2)) λa ha=>?_
 refine(?_:_=some ((env.cells.lookup x.1).getD 0))
 rw[ha];rfl
theorem Fq:(mj env scope).map (·.1)=xn scope.names:=by
 unfold mj xm xn
 rw[Ze,XN];rfl
theorem Fx(X:fE c env)(K:re c scope own)(hB:B∉dE env):fE (kD c scope own) (compEnvC scope (mj env scope) B env) where
 Dc:=T1 X
 yH:=Fq
 yI:=X.yI
 yG:=X.yG
 fn:=K.yC
 sc:=K.sc
 nd:=by
  refine List.nodup_cons.mpr ⟨λhm=>?_,?_⟩
  ·refine az (XY hm) λy hy e=>?_
   exact hB ((show y.2=B from e)▸oZ (sd X K hy))
  ·have n1:((mj env scope).map (·.1)).Nodup:=Fq (env:=env)▸K.sc.n3
   refine List.pairwise_map.mpr ((List.pairwise_map.mp n1).imp_of_mem λhy hz hne e=>hne ?_)
   exact Xu Prod.fst (xo (Zg X.nd).2 (Y7 (sd X K hy)) (Y7 (sd X K hz)) e)
 dm:=λx hx=>(XD hx).elim (λh=>YA _ (Yt (aC x h rfl))) λh=>YT _ (X.dm x (Zc h).1)
theorem OG{m:Str->Option Value}(F:eK cl h₀ h μ env c.VM ρ)(X:fE c env)(K:re c scope own)(hdom:∀i V,ρ i=some V->i∈c.dm)
  (hC:B∉μ/\h₀.get? B=none/\B∉dE env) (hns:h.Ns B m):eK cl h₀ h μ (compEnvC scope (mj env scope) B env) (kD c scope own).VM ρ:=by
 have X':=Fx X K hC.2.2
 have fil:∀x∈(kD c scope own).VM,∀V,ρ x.2=some V->x∈c.VM/\∃z∈scope.names,z.1=x.1/\z.2=.free:=λx hx V hV=>by
  rcases XD hx with h |h
  ·exact absurd (hdom _ _ hV) (K.ow x h).2
  ·refine bc (Zc h) λh1 h2=>?_
   refine az (XY (List.mem_reverse.mp (List.contains_iff_mem.mp h2))) λz hz e=>?_
   refine bc (Zc hz) λh3 h4=>?_
   exact⟨h1,z,h3,e,Xx h4⟩
 refine⟨λb hb=>?_,(aC m hns (λx hx hl V hV=>?_)),λn a ha=>?_⟩
 ·rcases XC hb with e |hb
  ·exact e▸⟨hC.1,hC.2.1,rG hns⟩
  ·refine az (XY hb) λy hy q2=>?_;subst q2
   exact F.gw _ (oZ (sd X K hy))
 ·obtain⟨_,z,hz,e,hf⟩:=fil x hx V hV
  have q:=(K.yB z hz hf).1
  rw[e]at q
  rw[nv X',show(kD c scope own).dD.lookup x.1=_ from T0,q]at hl
  have hl:(if NameKind.free==.free&&c.dD.lookup x.1==some .cell then NameKind.cell else .free)=.local:=Xs hl
  split at hl<;>exact NameKind.noConfusion hl
 ·refine az (F.oh n a (sd X K (Y7 ha))) λov h1 h2=>?_
  refine aC ov h1 (λx hx hn hl V hV=>?_)
  obtain⟨hx',z,hz,e,hf⟩:=fil x hx V hV
  refine h2 x hx' hn (λq=>?_) V hV
  rw[nv X,<-hn,<-e]at q
  rcases(K.yB z hz hf).2.2 with k |k
  ·exact NameKind.noConfusion (Xs (k.symm.trans q))
  ·exact NameKind.noConfusion (Xs (k.symm.trans q))
end
inductive NO(s:Shared)(D B:Addr)(h':Heap):Prop
 |mk (acc:h'.get? D=some (ir [] 0)) (m:Str->Option Value) (ns:h'.Ns B m) (ne:D≠B) (old:∀b o,s.heap.get? b=some o->h'.get? b=some o) (nB:s.heap.get? B=none) (nD:s.heap.get? D=none)
section
variable {w:Wh}{s:Shared}{x y z u v:V}{xs vs acc acc' acc'':List V}{b t r:Bool}{d n i k m:Nat}{c:Sc}{p:Pos}{es:List Ex}{e o a elt:Ex}{S:eM}{it:It}
theorem Ru{Q:Value->PySem.Env->Shared->Prop}{genv:Addr}{cl:List (Str×Addr)}(K:re c scope own)
  (q:∀D B h' t,NO s D B h'->Q (.ref D) (newEnv scope B genv cl env.qual none .none (some env) builtinsNs) {s with heap:=h',toks:=t}):
  wpAny (model Z.bK Z.VI) A (newList []) (λacc s₃=>wpAny (model Z.bK Z.VI) A (newFunctionEnv scope genv cl [] env.qual none .none (some env)) (λcenv s₄=>Q acc cenv s₄) E s₃) E s:=by
 refine Zk (wpAny_newFunctionEnv K.KY (λy hy=>absurd hy XX) (λh₁ hns hsb=>q _ _ _ _ ?_) K.yC)
 have hB:(s.heap.push {cls:=.type "list",dict:=none,data:=.seq ([]:List Value).toArray}).objs.size=s.heap.objs.size+1:=YZ _ _
 have below:∀b o,s.heap.get? b=some o->b≠(s.heap.push {cls:=.type "list",dict:=none,data:=.seq ([]:List Value).toArray}).objs.size:=λb o hb=>by
  rw[hB];exact XH (Zr (Ym hb))
 have ne:s.heap.objs.size≠(s.heap.push {cls:=.type "list",dict:=none,data:=.seq ([]:List Value).toArray}).objs.size:=by rw[hB];exact(Nat.succ_ne_self _).symm
 exact⟨hsb.extBut _ _ ne (XG _ (XZ _ rfl)),_,hns,ne,λb o hb=>hsb.extBut b o (below b o hb) (XG _ (XG _ hb)),my (by rw[hB];exact Yj _),iB⟩
theorem KA(h:bA d n it ρ σ S σ₁)(h2:cV d n elt tg ifs gs ρ S S.qa σ₁ [] xs σ₂)(W:Ok w d){elt':Expr}{gs':List Comprehension}{pos:Pos}(c:Fh w.Vk.KF (cg w.Vk.KF n) w.VK elt' gs' scope elt (.m tg it ifs::gs)=true):wO w ρ σ (.r σ₂.length) (σ₂++[.l xs]) elt' gs' scope pos:=λuse Q s μ a fin pos'=>by
 rcases gs' with _ | ⟨⟨tgE,iter,ifs',as⟩,gs'⟩
 ·exact bE c
 refine sR (qj c) λc1 c2 c3 c4 c5=>?_
 refine kM (eQ c3) λk1 k2 k3 k4=>?_
 obtain rfl:as=0:=Xx k4
 have K:=RG c1
 have ids:(o9 (⟨tgE,iter,ifs',0⟩::gs') (.m tg it ifs::gs)).map (·.2)=m9 (.m tg it ifs::gs):=by
  unfold o9;exact List.map_snd_zip (XW (Xx c2).symm)
 revert ids c1 c3 k1 k2 k3 c4 c5 K
 generalize o9 (⟨tgE,iter,ifs',0⟩::gs') (.m tg it ifs::gs)=own
 intro c1 c3 c4 c5 k1 k2 k3 K ids
 have nd:(m9 (.m tg it ifs::gs)).Nodup:=by
  have q:=K.sc.n2
  rw[show(kD w.VK scope own).VM=own++_ from rfl,XV,ids]at q
  exact(List.nodup_append.mp q).1
 have fresh:∀i∈m9 (.m tg it ifs::gs),ρ i=none:=λi hi=>by
  rw[<-ids]at hi
  refine az (XY hi) λx hx q2=>?_;subst q2
  exact Zx λV hV=>(K.ow x hx).2 (a.mH _ _ hV)
 refine wpAny_comprehension_free (g:=⟨tgE,iter,ifs',0⟩) (gs:=gs') (cl:=mj w.aE scope) rfl (λx=>BV (bV k1).1) (Oz (Fv W.X K)) K.yC K.KW (Wp.bZ (h w W iter k1 s μ a) λx s₁ q=>Wp.bZ q λitv s₂ q=>?_)
 obtain⟨I,wr,m₂,rfl,st,g,h5,h6,h8,h9⟩:=q
 refine Ru K λD B h' t N=>?_
 obtain⟨acc,mm,ns,ne,old,nB,nD⟩:=N
 have st₁:br w.Vk s₂ m₂ {s₂ with heap:=h',toks:=t} m₂ σ₁:=iH st.eN old t
 have a₂:=a.gS st
 have a₁:=a₂.gS st₁
 refine bc (st.eN.eY nB) λoB bB=>?_
 refine bc (st.eN.eY nD) λoD bD=>?_
 have hBf:=qv a₂ nB
 let w':Wh:=⟨w.Vk,kD w.VK scope own,compEnvC scope (mj w.aE scope) B w.aE,w.VU⟩
 have O':Ok w' d:=⟨W.VP,Fx W.X K hBf,W.VT⟩
 have cells:∀b∈dE w'.aE,b=B∨b∈dE w.aE:=λb hb=>(XC hb).imp id λhb=>by
  refine az (XY hb) λy hy q2=>?_;subst q2
  exact oZ (sd W.X K hy)
 have C:jg w' D ρ [] {s₂ with heap:=h',toks:=t} m₂ σ₁:=⟨⟨a₁.bH,OG a₁.VS W.X K a.mH ⟨oB,bB,hBf⟩ ns,λi v hv=>YT _ (a.mH i v hv)⟩,(eE ([]) 0 acc rfl),oD,bD,λhm=>(cells D hm).elim ne (qv a₂ nD)⟩
 have G:y9 w' n elt tg ifs gs elt' (⟨tgE,iter,ifs',0⟩::gs') 0:=⟨(BI tgE iter ifs' rfl k2 k3),⟨c5,c4,(List.nodup_append.mp nd).2.1⟩,nd⟩
 have ww:∀b∈wr,s₂.heap.get? b=none->False:=λb hb q=>(h5 b hb).2.elim λo ho=>gb q ho
 have io:=h8 [B,D] (λb hb=>.inl (vH (P:=λb=>s₂.heap.get? b=none) hb nB nD)) h' m₂ σ₁ ⟨λb o hb _ _=>old b o hb,λb hb o ho=>vH (P:=λb=>∀o,s₂.heap.get? b=some o->gm o=false) hb (λo ho=>gb nB ho) (λo ho=>gb nD ho) o ho,Yh _,λ_ hb=>.inl hb⟩ g st₁.eN
 have main:codeAny (model w.Vk.bK w.Vk.VI) w.VU (.compLoop (.ListComp elt' (⟨tgE,iter,ifs',0⟩::gs') scope pos) 0 (.ref I) (.ref D) (compEnvC scope (mj w.aE scope) B w.aE)) (compPost (model w.Vk.bK w.Vk.VI) w.VU NE use Q (.ref D) B) {s₂ with heap:=h',toks:=t}:=
  YS (h2 w' O' elt' _ scope pos 0 G fresh D I wr _ m₂ s μ C io ⟨λb hb=>(h5 b hb).1,λb hb hw=>(cells b hb).elim (λe=>ww b hw (e▸nB)) λq=>qv a (h5 b hw).1 q,λhw=>ww D hw nD⟩ ((st.d0 st₁).fq _)) λr s' q=>by
   rcases r with e |f
   ·exact q.elim
   obtain⟨m₃,st₃,C₃⟩:=q
   have stp:br w.Vk s μ s' m₃ σ₂:=cK.Ez st₃ (br.oJ a.bH) λb hb=>vH (P:=λb=>s.heap.get? b=none) hb (st.rW nB) (st.rW nD)
   obtain⟨vs,m,a1,a2⟩:=C₃.pB
   have own:=aU.DE (o:=.l xs) stp.eN a1 rfl C₃.ia.1 bD (λ_ q=>O.noConfusion q) (λe=>⟨vs,m,a1,a2.extW e⟩) λq=>bE q
   refine fin s' D B f ⟨m₃++[D],⟨stp.jQ,own.1,stp.bJ.iE,stp.bJ.lL.trans (Yd _ _),λb hb=>?_⟩,⟨D,by rw[<-stp.eN.eu,YK (Xp _),Nat.sub_self];rfl,rfl⟩,st.rW nB,λhm=>?_,bB,C₃.hZ.VS.pG.imp λm q=>q.1⟩
   ·exact(XD hb).elim (stp.bJ.kZ b) λq=>.inr (Xy q▸st.rW nD)
   ·exact(XD hm).elim (C₃.hZ.VS.gw B (Xz ..)).1 λq=>ne (Xy q).symm
 exact Ft rfl main (ny (h9 _ old _ main))
theorem br.Et(st:br Z s μ s' μ' σ')(h1:s.heap.get? B=none)(h2:B∉μ')(h3:Z.cS.get? B=none){m:Str->Option Value}(hn:s'.heap.Ns B m)(hs:Heap.SameBut B s'.heap h')(t:Nat):br Z s μ {s' with heap:=h',toks:=t} μ' σ'/\dk s'.heap μ' h' μ':=
 have k:=st.eN.pM h2 h3 (rG hn).kU (jA hs)
 ⟨⟨st.jQ,k.1,λb o hb hn=>jA hs b o (λe=>gb h1 (e▸hb)) (st.bJ.iE b o hb hn),st.bJ.lL,st.bJ.kZ⟩,k.2⟩
theorem dU(h:bA d n it ρ σ S σ₁)(h2:cV d n elt tg ifs gs ρ S S.qa σ₁ [] vs σ₂):Ev d (n+1) (.o elt (.m tg it ifs::gs)) ρ σ (.r σ₂.length) (σ₂++[.l vs]):=λw W e c=>
 Ai (M:=bj w ρ σ (.r σ₂.length) (σ₂++[.l vs])) c λelt' gs' scope p c=>by
  refine fb rfl (show wO w ρ σ (.r σ₂.length) (σ₂++[.l vs]) elt' gs' scope p from KA h h2 W c) λs μ a=>?_
  rw[eval_ListComp]
  have k:=KA h h2 W c (pos:=p) none (R1 w.Vk s μ (.r σ₂.length) (σ₂++[.l vs])) s μ a (λs' D B f q=>by
   obtain⟨m,st,r,h1,h2,h3,nm,hn⟩:=q
   exact aC nm hn (λh' hs=>⟨m,(st.Et h1 h2 h3 hn hs s'.toks).1,r.extW (st.Et h1 h2 h3 hn hs s'.toks).2⟩)) (firstIterPos gs' p)
  exact k
theorem He{ys:List V}(hS:∀r σ,S.iG r σ=σ)(g:V->V)(p:V->Bool)(xs:List V):∀(acc:List V),(∀x∈xs,∃ρ',fL 4 tg x ρ=some ρ'/\ej d n ifs ρ' σ (p x) σ/\(p x=true->Ev d n elt ρ' σ (g x) σ))->(∀xs,S.V8 xs σ)->aD (acc++xs)->
  cV d n elt tg ifs [] ρ S xs σ acc (acc++(xs.filter p).map g) σ:=by
 induction xs with
 |nil=>
  intro acc h hG hl
  have q:cV d n elt tg ifs [] ρ S [] σ acc acc (S.iG none σ):=.mQ
  rw[hS]at q
  rw[List.filter_nil,YH,Yb];exact q
 |cons x xs ih=>
  intro acc h hG hl
  refine c8 (h x (Xz ..)) λρ' h1 h2 h3=>?_
  have h:=λy hy=>h y (XA _ hy)
  have hl:acc.length+(xs.length+1)<=aK:=by unfold aD at hl;rw[Xn,Xq]at hl;exact hl
  cases hp:p x with
  |true=>
   rw[hp]at h2
   rw[List.filter_cons_of_pos hp]
   have ih:=ih (acc++[g x]) h hG (by unfold aD;rw[Xn,Xn];refine(?_:acc.length+1+xs.length<=aK);exact gj hl)
   rw[XM]at ih
   exact .Wr h1 (by rw[hS];exact h2) (.pH (h3 hp) (by unfold aD;exact bT hl)) (hG _) ih
  |false=>
   rw[hp]at h2
   rw[List.filter_cons_of_neg (by rw[hp];exact Yy)]
   exact .WL h1 (by rw[hS];exact h2) (hG _) (ih acc h hG (by unfold aD;rw[Xn];exact bT (vl hl)))
end
noncomputable def qZ(ρ:aA)(l:List (Nat×V)):aA:=l.foldl (λρ p=>au ρ p.1 p.2) ρ
noncomputable def EA(t:Tg)(v:V)(ρ:aA)(σ:aj)(ρ':aA)(σ':aj):Prop:=match t with
 | .v i=>σ'=σ/\ρ'=au ρ i v
 | .t ts=>∃xs,sG σ v=some xs/\ts.length=xs.length/\∀is:List Nat,ts=is.map .v->σ'=σ/\ρ'=qZ ρ (is.zip xs)
 |_=>True
inductive gO(w:Wh)(ρ':aA)(σ':aj)(s:Shared)(μ:List Addr)(s':Shared):Prop
 |mk (μ':List Addr) (st:cK w.Vk (dE w.aE) s μ s' μ' σ') (a:At w ρ' s' μ' σ')
noncomputable def tz(w:Wh)(v:V)(ρ:aA)(σ:aj)(ρ':aA)(σ':aj)(e:Expr):Prop:=∀s μ u,At w ρ s μ σ->aS w.Vk.KF.aF s.heap μ v u->w.wp (assign e w.aE u) (λ_=>gO w ρ' σ' s μ) s
structure aQ(d n m:Nat)(t:Tg)(v:V)(ρ:aA)(σ:aj)(ρ':aA)(σ':aj):Prop where
 CW:∀w,Ok w d->∀e,oP w.Vk.KF (cg w.Vk.KF n w.VK) m w.VK e t=true->tz w v ρ σ ρ' σ' e
 sw:EA t v ρ σ ρ' σ'
structure bU(d n m:Nat)(ts:List Tg)(xs:List V)(ρ:aA)(σ:aj)(ρ':aA)(σ':aj):Prop where
 CX:∀w,Ok w d->∀es,cx (oP w.Vk.KF (cg w.Vk.KF n w.VK) m w.VK) es ts=true->∀s μ us,At w ρ s μ σ->aR w.Vk.KF.aF s.heap μ xs us->w.wp (assignInOrder ((es.map λe=>(false,assign e w.aE)).map (·.2)) us) (λ_=>gO w ρ' σ' s μ) s
 sw:∀is:List Nat,ts=is.map .v->σ'=σ/\ρ'=qZ ρ (is.zip xs)
section
variable {w:Wh}{s:Shared}{x y z u v:V}{xs vs:List V}{d n i k m:Nat}{e o a b:Ex}{t:Tg}{ts:List Tg}{l:List (Nat×V)}
theorem CQ(l:List (Nat×V)):∀{ρ:aA} {i:Nat},i∉l.map (·.1)->qZ ρ l i=ρ i:=by
 induction l with
 |nil=>exact λ_=>rfl
 |cons p l ih=>
  intro ρ i h
  rw[Xw,Yn,not_or]at h
  exact(ih h.2).trans (Xv h.1)
theorem Kz(l:List (Nat×V)):∀{ρ:aA},(l.map (·.1)).Nodup->∀p∈l,qZ ρ l p.1=some p.2:=by
 induction l with
 |nil=>exact λ_ p hp=>absurd hp XX
 |cons q l ih=>
  intro ρ hn p hp
  rw[Xw,Y9]at hn
  rcases XC hp with e |h
  ·rw[e];exact(CQ l hn.1).trans (Xr rfl)
  ·exact ih hn.2 p h
theorem U8(hn:(l.map (·.1)).Nodup):qZ ρ l.reverse=qZ ρ l:=by
 have hn':(l.reverse.map (·.1)).Nodup:=by rw[Ze];exact(List.reverse_perm _).nodup_iff.mpr hn
 funext i
 by_cases h:i∈l.map (·.1)
 ·refine az (XY h) λp hp q2=>?_;subst q2
  rw[Kz l hn p hp,Kz _ hn' p (List.mem_reverse.mpr hp)]
 ·rw[CQ l h,CQ _ (by rw[Ze,List.mem_reverse];exact h)]
theorem OY{it t:Addr}{items:List Value}(hne:t≠it)(n:Nat):∀(i:Nat) (s:Shared) (Q:List Value->Shared->Prop),s.heap.IsListIter it t i->s.heap.IsList t items.toArray->i+n<=items.length->
  (∀h',h'.IsListIter it t (i+n)->Heap.SameBut it s.heap h'->Q ((items.drop i).take n) {s with heap:=h'})->wpAny (model Z.bK Z.VI) A (draw (.ref it) n) Q E s:=by
 induction n with
 |zero=>exact λi s Q hit _ _ hQ=>Xm (hQ s.heap hit (.refl _ _))
 |succ n ih=>
  intro i s Q hit ht hle hQ
  have hlt:i < items.length:=jb hle
  refine(?_:wpAny _ _ (pyNext (.ref it)>>=_) Q E s)
  refine Xj (wpAny_pyNext_list_item hit ht (x:=items[i]) (by rw[Yz];exact Yo hlt) λh₁ hit₁ hs₁=>?_)
  refine Xj (XI (ih (i+1) _ _ hit₁ (ht.extBut hs₁.extBut hne) (gj hle) λh₂ hit₂ hs₂=>Xm ?_))
  have q:=hQ h₂ (by rw[show i+(n+1)=i+1+n by lia];exact hit₂) (hs₁.trans hs₂)
  rw[List.drop_eq_getElem_cons hlt,List.take_succ_cons]at q
  exact q
theorem Kv{t:Addr}{items:List Value}{Q:List Value->Shared->Prop}(hh:A.handled=none)(ht:s.heap.IsList t items.toArray)
  (hQ:∀h',Heap.ExtBut s.heap.objs.size s.heap h'->Q items {s with heap:=h'}):Wp Z A (unpackItems (.ref t) items.length none) Q s:=by
 have hlt:t≠s.heap.objs.size:=ht.elim λo q=>XH (Ym q.1)
 unfold unpackItems
 refine Xj ?_
 unfold notIterableAtAll
 refine Xj (wpAny_specialOf ht.typeIs slot_list_iter.lookup (Xm ?_))
 refine(?_:Wp Z A (holding _ (pyIter (.ref t))>>=_) Q s)
 refine Xj (XI (wpAny_pyIter_list ht ?_))
 refine Xj (XI (OY hlt items.length 0 _ _ ⟨_,XZ _ rfl,rfl,rfl⟩ (ht.push _) (XW (Nat.zero_add _)) λh₁ hit₁ hs₁=>?_))
 rw[show List.take items.length (List.drop 0 items)=items from List.take_length,Xv (YQ _)]
 refine Xj (XI (wpAny_pyNext_list_end hh hit₁ ((ht.push _).extBut hs₁.extBut hlt) (by rw[Yz,Nat.zero_add];exact List.getElem?_eq_none_iff.mpr (Xp _)) λh₂ he₂=>?_))
 exact Xm (hQ h₂ λb o hb e=>he₂ b o hb (hs₁.extBut b o hb (XG _ e)))
theorem Kw(I:aU Z s.heap μ σ)(hh:A.handled=none){u:Value}(r:aS Z.KF.aF s.heap μ v u)(hx:sG σ v=some xs){Q:List Value->Shared->Prop}
  (q:∀h' us,br Z s μ {s with heap:=h'} μ σ->aR Z.KF.aF h' μ xs us->Q us {s with heap:=h'}):Wp Z A (unpackItems u xs.length none) Q s:=by
 have st:∀h',Heap.ExtBut s.heap.objs.size s.heap h'->br Z s μ {s with heap:=h'} μ σ:=λh' hx=>iH I (λb o hb=>hx b o (XH (Ym hb)) hb) s.toks
 rcases v with _ |_ |_ |_ |ys |i |_ |ys<;>first |exact bN hx |skip
 ·obtain rfl:=Xs hx
  obtain⟨a,vs,m,rfl,ha,hna,hr⟩:=d6 r
  rw[hr.length]
  exact wpAny_unpackItems_tuple hh (items:=vs.toArray) ⟨_,ha,rfl,_,rfl⟩ λh' hx'=>q h' vs (st h' hx') (hr.lh (st h' hx').bJ)
 ·have hs:σ[i]? =some (.l xs):=by
   unfold sG at hx
   dsimp only at hx
   rcases hi:σ[i]? with _ |o
   ·rw[hi]at hx;exact bN hx
   ·rw[hi]at hx
    rcases o with ys |_ |_ |_ |_ |_ |_<;>first |exact bN hx |rw[Xs hx]
  obtain⟨x,vs,m,hx,rfl,ha,hr⟩:=iA I r hs
  rw[hr.length]
  exact Kv hh (dX ha) λh' hx'=>q h' vs (st h' hx') (hr.lh (st h' hx').bJ)
 ·obtain rfl:=Xs hx
  refine bc r ?_;clear r;intro q0 q1;subst q0;subst q1
  obtain⟨vs,h1,h2⟩:=I.kh
  have hr:∀h,aR Z.KF.aF h μ (Z.KF.aF.vM.map .i) vs:=λh=>uM h2
  rw[(hr s.heap).length]
  exact Kv hh (h1.at λo=>I.dM _ o) λh' hx'=>q h' vs (st h' hx') (hr h')
theorem gO.yA(st:cK w.Vk (dE w.aE) s μ s' μ' σ₁)(h:gO w ρ' σ' s' μ' s''):gO w ρ' σ' s μ s'':=h.casesOn λm st' a=>⟨m,st.jS st',a⟩
theorem gO.of(st:br w.Vk s μ s' μ' σ₁)(h:gO w ρ' σ' s' μ' s''):gO w ρ' σ' s μ s'':=h.yA (st.fq _)
theorem ba:aQ d n (m+1) (.v i) v ρ σ (au ρ i v) σ:=⟨λw O e c s μ u a r=>oS (M:=λe=>w.wp (assign e w.aE u) (λ_=>gO w (au ρ i v) σ s μ) s) c λid p c=>by
 have hm:=List.contains_iff_mem.mp (bV c).1
 exact wpAny_assign_Name (Wp.bZ (a.VS.yZ (fr:=dE w.aE) (x:=(id,i)) a.bH O.X hm (bne_iff_ne.mp (bV c).2) r (Xz ..) λd _ hl=>oZ hl) λ_ s' q=>(q.WP a (O.X.dm _ hm)).casesOn λst e a=>⟨μ,st,a⟩),rfl,rfl⟩
theorem vK{c x:Nat}{fs:List (Nat×V)}(h:Ev d n o ρ σ (.o c x) σ₁)(hc:fD c nm=true)(ha:σ₁[x]? =some (.a c fs))(hl:fs.length<=100):aQ d n (m+1) (.a nm o) v ρ σ ρ (σ₁.set x (.a c (gY fs nm v))):=
 ⟨λw O e c s μ u b r=>uA (M:=λe=>w.wp (assign e w.aE u) (λ_=>gO w ρ (σ₁.set x (.a _ (gY fs nm v))) s μ) s) c λo' m' p c=>oT (M:=λm'=>w.wp (assign (.Attribute o' m' p) w.aE u) (λ_=>gO w ρ (σ₁.set x (.a _ (gY fs nm v))) s μ) s) (bV c).1 (by
  rw[arm_assign_Attribute]
  refine Xj (XI ((h w O _ (bV c).2).ev.to b λov s₁ m₁ b₁ e₁ ro=>Xj (X0 (Xj (XI (Wp.bZ (Ui O.VP.rC O.VP.V4 b₁.bH ro hc ha hl (r.cE e₁.bJ)) λ_ s₂ q=>?_))))))
  obtain⟨m₂,st⟩:=q
  exact wpAny_release ⟨m₂,(e₁.d0 st).fq _,b₁.gS st⟩),trivial⟩
theorem kW(h:Ev d n a ρ σ u σ₁)(h2:Ev d n b ρ σ₁ x σ₂)(q:lX (mF u x v σ₂) σ₃):aQ d n (m+1) (.s a b) v ρ σ ρ σ₃:=
 ⟨λw O e c s μ u b r=>qo (M:=λe=>w.wp (assign e w.aE u) (λ_=>gO w ρ σ₃ s μ) s) c λo' i' p c=>by
  rw[arm_assign_Subscript]
  refine Xj (XI ((h w O _ (cY c).1).ev.to b λov s₁ m₁ b₁ e₁ ro=>Xj (XI ((h2 w O _ (cY c).2.1).ev.to b₁ λiv s₂ m₂ b₂ e₂ ri=>Xj (X0 (Xj (XI (Wp.bZ (q _ _ _ _ _ _ _ O.VT.V7 b₂.bH (ro.cE e₂.bJ) ri ((r.cE e₁.bJ).cE e₂.bJ)) λ_ s₃ q=>?_))))))))
  obtain⟨m₃,st⟩:=q
  exact wpAny_release ⟨m₃,((e₁.d0 e₂).d0 st).fq _,b₂.gS st⟩,trivial⟩
theorem gR:bU d n m [] [] ρ σ ρ σ:=⟨λw O es c s μ us a r=>kC (M:=λes=>w.wp (assignInOrder ((es.map λe=>(false,assign e w.aE)).map (·.2)) us) (λ_=>gO w ρ σ s μ) s) c (by
 obtain rfl:us=[]:=r
 exact Xm ⟨μ,.wI a.bH _,a⟩),λis e=>⟨rfl,by rw[List.map_eq_nil_iff.mp e.symm];rfl⟩⟩
theorem da(h:aQ d n m t x ρ σ ρ' σ₁)(h2:bU d n m ts xs ρ' σ₁ ρ'' σ₂):bU d n m (t::ts) (x::xs) ρ σ ρ'' σ₂:=⟨λw O es c s μ us a r=>iL (M:=λes=>w.wp (assignInOrder ((es.map λe=>(false,assign e w.aE)).map (·.2)) us) (λ_=>gO w ρ'' σ₂ s μ) s) c λe es c1 c2=>by
 refine cO r ?_;clear r;intro v u q2 r1 r2;subst q2
 refine wpAny_assignInOrder_more (Wp.bZ (h.CW w O e c1 s μ v a r1) λ_ s₁ q=>?_)
 obtain⟨m₁,st,a₁⟩:=q
 exact Wp.bZ (h2.CX w O es c2 s₁ m₁ u a₁ (aR.extW (st.Np a.VS.tr) xs r2)) λ_ s₂ q=>q.yA st,λis e=>by
 rcases is with _ | ⟨i,is⟩
 ·exact absurd e (List.cons_ne_nil t ts)
 ·refine bc (List.cons.inj e) λe1 e2=>?_
  have q:=h.sw
  rw[e1]at q
  refine bc (h2.sw is e2) λq0 q1=>?_;subst q0;subst q1
  refine bc q ?_;clear q;intro q0 q1;subst q0;subst q1
  exact bm rfl rfl⟩
theorem gQ(hx:sG σ v=some xs)(hl:ts.length=xs.length)(h:bU d n m ts xs ρ σ ρ' σ'):aQ d n (m+1) (.t ts) v ρ σ ρ' σ':=⟨λw O e c s μ u a r=>qp (M:=λe=>w.wp (assign e w.aE u) (λ_=>gO w ρ' σ' s μ) s) c λes k p c=>by
 rw[arm_assign_Tuple]
 refine Xj (X0 ?_)
 unfold unpack
 rw[Ag (env:=w.aE) (bV c).2]
 refine Xj (XI ?_)
 rw[show List.findIdx? (λx:Bool×(Value->Sem Unit)=>x.1) (es.map λe=>(false,assign e w.aE))=none from List.findIdx?_eq_none_iff.mpr λq hq=>by refine az (XY hq) λe _ q2=>?_;subst q2;rfl,Xk,wY (bV c).1,hl]
 exact Kw a.bH O.VT.1 r hx λh' us st hr=>Wp.bZ (h.CX w O es (bV c).1 {s with heap:=h'} μ us (a.gS st) hr) λ_ s₂ q=>q.of st,xs,hx,hl,h.sw⟩
end
set_option backward.match.sparseCases true
noncomputable def FlR(Z:Cx)(h:Heap)(μ:List Addr):Fl->Flow->Prop
 | .n,f=>f=.next
 | .r v,f=>∃u,f=.ret u/\aS Z.KF.aF h μ v u
inductive dF(w:Wh)(fl:Fl)(ρ':aA)(σ':aj)(s:Shared)(μ:List Addr)(f:Flow)(s':Shared):Prop
 |mk (μ':List Addr) (st:cK w.Vk (dE w.aE) s μ s' μ' σ') (a:At w ρ' s' μ' σ') (r:FlR w.Vk s'.heap μ' fl f)
noncomputable def El(d n:Nat)(st:St)(ρ:aA)(σ:aj)(fl:Fl)(ρ':aA)(σ':aj):Prop:=∀w,Ok w d->∀st',mh w.Vk.KF 30 n w.VK st' st=true->∀s μ,At w ρ s μ σ->w.wp (exec st' w.aE) (dF w fl ρ' σ' s μ) s
noncomputable def ae(d n:Nat)(ss:List St)(ρ:aA)(σ:aj)(fl:Fl)(ρ':aA)(σ':aj):Prop:=∀w,Ok w d->∀ss',cx (mh w.Vk.KF 30 n w.VK) ss' ss=true->∀s μ,At w ρ s μ σ->w.wp (execs ss' w.aE) (dF w fl ρ' σ' s μ) s
inductive ze(c:Sc)(ns:List Str)(tts:List Tg):Prop
 |mk (l:List (Str×Nat)) (h1:l.map (·.1)=ns) (h2:tts=l.map λp=>Tg.v p.2) (h3:∀p∈l,p∈c.VM/\c.dD.lookup p.1=some .local)
section
variable {w:Wh}{s:Shared}{x y z u v:V}{xs:List V}{d n i k m:Nat}{e o a b:Ex}{t:Tg}{tts:List Tg}{c:Sc}{tg value:Expr}{ts vs:List Expr}
theorem dF.rV{f:Flow}(st:cK w.Vk (dE w.aE) s μ s' μ' σ₁)(h:dF w fl ρ' σ' s' μ' f s''):dF w fl ρ' σ' s μ f s'':=h.casesOn λm st' a r=>⟨m,st.jS st',a,r⟩
theorem gO.sr(h:gO w ρ' σ' s μ s'):dF w .n ρ' σ' s μ .next s':=h.casesOn λm st a=>⟨m,st,a,rfl⟩
theorem E6(X:fE c env):env.blockKind=.function:=by unfold Env.blockKind;rw[X.fn];rfl
theorem Kk(X:fE c env){elt gens scope vp t tp line}:swapsWith (.ListComp elt gens scope vp) (some (.Name t tp)) line env=pure (tu c scope vp t tp):=by
 unfold swapsWith tu
 refine(?_:(pure (env.blockKind==.function&&env.kindOf t==some .local&&tp.line==vp.line&& !_):Sem Bool)=_)
 rw[E6 X,nv X]
 rfl
theorem Fy(h:(!AZ value)=true){o:Option Expr}:swapsWith value o line env=pure false:=by
 unfold swapsWith
 cases value<;>first |rfl |exact bE h
theorem Sg(X:fE c env)(h:IL c tg value=true):swapsWith value (some tg) line env=pure false:=(Yq h).elim (λh=>Fy h) λh=>
 Ai (M:=λvalue=>swapsWith value (some tg) line env=pure false) h λa b sc vp h=>by
  cases tg with
  |Name t tp=>rw[Kk X,i7 (show(!tu c sc vp t tp)=true from h)]
  |_=>rfl
theorem Ur(h:vs.all (!fv ·)=true):(vs.any λ| .Starred .. =>true |_=>false)=false:=by
 induction vs with
 |nil=>rfl
 |cons v vs ih=>
  rw[YN,YD]at h
  rw[List.any_cons,ih h.2,Bool.or_false]
  cases v<;>first |rfl |exact bE h.1
theorem Ic(X:fE c env)(line:Nat):(ts.filterMap λ| .Name id pos=>if env.kindOf id==some .local&&pos.line==line then some id else none |_=>none)=ts.filterMap (jZ c line):=by
 congr 1
 funext e
 cases e with
 |Name id pos=>exact Xu (λk=>if k==some .local&&pos.line==line then some id else none) (nv X id)
 |_=>rfl
structure zF(c:Sc)(ts vs:List Expr):Prop where
 Nr:(ts.length==2||ts.length==3)=true
 Nu:vs.length=ts.length
 Nt:vs.all (!fv ·)=true
 wJ:(iC c ts).length=ts.length
 Nq:(iC c ts).eraseDups.length=(iC c ts).length
 nd:(iC c ts).Nodup
 W3:vs.all (foldedForSure 8)=false
 W4:vs.all (constantsAlone 8)=false
theorem UO(h:Kj c ts vs=true):zF c ts vs:=by
 refine bc (YF h) λh h8=>?_
 refine RB (N7 h) λh1 h2 h3 h4 h5 h6 h7=>?_
 exact⟨h1,Xx h2,h3,Xx h4,Xx h5,XQ h6,i7 h7,i7 h8⟩
theorem US(X:fE c env){k k' p p'}(h:zF c ts vs):swappedStores [.Tuple ts k p] (.Tuple vs k' p') env=pure (some (iC c ts)):=by
 unfold swappedStores
 dsimp only
 have e:=Ic (ts:=ts) X (BB ts)
 split
 ·rename_i hh
  rw[h.Nr,h.Nu,bne_self_eq_false,E6 X]at hh
  exact bE hh
 ·split
  ·rename_i hh
   exact Bool.noConfusion ((Ur h.Nt).symm.trans hh)
  ·split
   ·rename_i hh
    have hh':=((Xu (λN:List Str=>N.length !=ts.length||N.eraseDups.length !=N.length) e).symm).trans hh
    have hh':((iC c ts).length !=ts.length||(iC c ts).eraseDups.length !=(iC c ts).length)=true:=hh'
    rw[h.wJ,h.Nq,bne_self_eq_false,h.wJ,bne_self_eq_false]at hh'
    exact bE hh'
   ·rw[h.W3,h.W4]
    exact Xu (λN=>(pure (some N):Sem _)) e
theorem UP(X:fE c env){k k' p p'}(h:((iC c ts).length !=ts.length)=true):swappedStores [.Tuple ts k p] (.Tuple vs k' p') env=pure none:=by
 unfold swappedStores
 dsimp only
 have e:=Ic (ts:=ts) X (BB ts)
 split
 ·rfl
 ·split
  ·rfl
  ·split
   ·rfl
   ·rename_i hh
    exact absurd ((Xu (λN:List Str=>N.length !=ts.length||N.eraseDups.length !=N.length) e).trans (Bool.or_eq_true_iff.mpr (.inl h))) hh
theorem UQ{k p}(h:(!xw value)=true):swappedStores [.Tuple ts k p] value env=pure none:=by
 cases value<;>first |rfl |exact bE h
theorem UR(h:(!xw tg)=true):swappedStores [tg] value env=pure none:=by
 cases tg<;>first |rfl |exact bE h
theorem UZ{f:Expr->Ex->Bool}(h:oP Z.KF f d c tg t=true):(!fv tg)=true:=by
 rcases d with _ |d
 ·exact bE h
 ·rcases t with _ |_ |_ |_
  ·exact oS (M:=λtg=>(!fv tg)=true) h λ_ _ _=>rfl
  ·exact qp (M:=λtg=>(!fv tg)=true) h λ_ _ _ _=>rfl
  ·exact uA (M:=λtg=>(!fv tg)=true) h λ_ _ _ _=>rfl
  ·exact qo (M:=λtg=>(!fv tg)=true) h λ_ _ _ _=>rfl
theorem No(st:cK Z fr s μ s' μ' σ')(h1:s.heap.get? B=none)(h2:B∉μ')(h3:Z.cS.get? B=none){m:Str->Option Value}(hn:s'.heap.Ns B m)(hs:Heap.SameBut B s'.heap h')(t:Nat):cK Z fr s μ {s' with heap:=h',toks:=t} μ' σ'/\dk s'.heap μ' h' μ':=
 have k:=st.ly.pM h2 h3 (rG hn).kU (jA hs)
 have ne:∀b o,s.heap.get? b=some o->b≠B:=λb o hb e=>gb h1 (e▸hb)
 ⟨⟨st.iI,k.1,λb o hb hn hf=>jA hs b o (ne b o hb) (st.iZ b o hb hn hf),λb o hb=>(st.l4 b o hb).imp λo' ho'=>jA hs b o' (ne b o hb) ho',st.jR,st.i4⟩,k.2⟩
theorem Of{gs:List Comprehension}{vp tp p:Pos}{tn:Str}(O:Ok w d)(h3:tu w.VK scope vp tn tp=true)(hu:wO w ρ σ v σ₁ elt gs scope vp)(ha:tz w v ρ σ₁ ρ' σ₂ (.Name tn tp))(b:At w ρ s μ σ):
  w.wp (exec (.Assign [.Name tn tp] (.ListComp elt gs scope vp) p) w.aE) (dF w .n ρ' σ₂ s μ) s:=by
 rw[exec_Assign_Name_used _ _ _ _ (by rw[Kk O.X,h3])]
 refine Xj (X0 (Xj ?_))
 refine(?_:w.wp (do let _<-comprehension (.ListComp elt gs scope vp) scope w.aE _ (newList []) (firstAsync gs) (firstIter gs w.aE) (some (assign (.Name tn tp) w.aE))) _ s)
 refine Xj (Wp.bZ (hu (some (assign (.Name tn tp) w.aE)) (λ_ s'=>dF w .n ρ' σ₂ s μ .next s') s μ b (λs' D B f q=>?_) _) λ_ s' hq=>Xm (Xm hq))
 obtain⟨m₁,st,r,b1,b2,b3,nm,hn⟩:=q
 have offB:∀c∈dE w.aE,c≠B:=λc hc e=>qv b b1 (e▸hc)
 refine Wp.bZ (ha s' m₁ _ (b.gS st) r) λ_ s₂ q=>?_
 obtain⟨m₂,st₂,a₂⟩:=q
 have hBm:B∉m₂:=λhm=>(st₂.i4 B hm).elim b2 λq=>(rG hn).elim λo h=>gb q h.1
 have hn₂:s₂.heap.Ns B nm:=hn.at' λo ho=>st₂.iZ B o ho b2 λhm=>offB B hm rfl
 refine aC nm hn₂ (λh' hs=>?_)
 have k:=No ((st.fq (dE w.aE)).jS st₂) b1 hBm b3 hn₂ hs s₂.toks
 exact⟨m₂,k.1,⟨k.1.ly,a₂.VS.v2 k.2 (λc hc=>(a₂.VS.gw c hc).1) λc hc o ho=>jA hs c o (offB c hc) ho,a₂.mH⟩,rfl⟩
theorem zV{p:Pos}(he:ck w ρ σ value v σ₁)(ha:tz w v ρ σ₁ ρ' σ₂ tg)(ns:(!fv tg)=true)(hs:swapsWithSole [tg] value p.line w.aE=pure false)(hw:swappedStores [tg] value w.aE=pure none)(b:At w ρ s μ σ):w.wp (exec (.Assign [tg] value p) w.aE) (dF w .n ρ' σ₂ s μ) s:=by
 refine wpAny_Assign_stores (he.to b λu s₁ m₁ b₁ e₁ r₁=>?_) hs hw
 rw[show assignEach [tg] w.aE=[(false,assign tg w.aE)] from Ag (by rw[YN,ns];rfl)]
 exact Wp.bZ (ha s₁ m₁ u b₁ r₁) λ_ s₂ q=>q.sr.rV (e₁.fq _)
theorem UC(O:Ok w d)(l:List ((Str×Nat)×V)):∀(us:List Value) (ρ:aA) (s:Shared),(∀p∈l,p.1∈w.VK.VM/\w.VK.dD.lookup p.1.1=some .local)->At w ρ s μ σ->aR w.Vk.KF.aF s.heap μ (l.map (·.2)) us->
  w.wp (assignInOrder (l.map λp=>bindName w.aE p.1.1) us) (λ_=>gO w (qZ ρ (l.map λp=>(p.1.2,p.2))) σ s μ) s:=by
 induction l with
 |nil=>exact λus ρ s hl a r=>Xm ⟨μ,.wI a.bH _,a⟩
 |cons p l ih=>
  intro us ρ s hl a r
  refine cO r ?_;clear r;intro v u q2 r1 r2;subst q2
  refine bc (hl p (Xz ..)) λh1 h2=>?_
  refine wpAny_assignInOrder_more (wpAny_bindName (Wp.bZ (a.VS.yZ (fr:=dE w.aE) (x:=p.1) a.bH O.X h1 (by rw[h2];exact λq=>NameKind.noConfusion (Xs q)) r1 (Xz ..) λd _ hl=>oZ hl) λ_ s₁ q=>?_))
  obtain⟨st,e1,a₁⟩:=q.WP a (O.X.dm _ h1)
  exact Wp.bZ (ih u _ s₁ (λp hp=>hl p (XA _ hp)) a₁ (aR.extW e1 _ r2)) λ_ s₂ q=>q.yA st
theorem Rp{f:Expr->Ex->Bool}(tts:List Tg):∀(ts:List Expr),cx (oP L f (d+1) c) ts tts=true->(ts.filterMap (jZ c line)).length=ts.length->ze c (ts.filterMap (jZ c line)) tts:=by
 induction tts with
 |nil=>exact λts h _=>kC (M:=λts=>ze c (ts.filterMap (jZ c line)) []) h ⟨[],rfl,rfl,λ_ h=>absurd h XX⟩
 |cons t tts ih=>
  intro ts h
  refine iL (M:=λts=>(ts.filterMap (jZ c line)).length=ts.length->ze c (ts.filterMap (jZ c line)) (t::tts)) h λe es c1 c2 hl=>?_
  rcases he:jZ c line e with _ |id
  ·rw[List.filterMap_cons,he]at hl
   exact absurd (hl▸List.length_filterMap_le (jZ c line) es) (Nat.not_succ_le_self _)
  ·rw[List.filterMap_cons,he]at hl ⊢
   obtain⟨l,a1,a2,a3⟩:=ih es c2 (Nat.succ.inj hl)
   have k:∃i,t=.v i/\(id,i)∈c.VM/\c.dD.lookup id=some .local:=by
    rcases t with i |_ |_ |_
    ·refine oS (M:=λe=>jZ c line e=some id->_) c1 (λid' p c1 he=>?_) he
     have he:(if c.dD.lookup id'==some .local&&p.line==line then some id' else none)=some id:=he
     split at he
     ·next q=>cases he;exact dK i rfl (List.contains_iff_mem.mp (bV c1).1) (Xx (bV q).1)
     ·exact bN he
    ·exact qp (M:=λe=>jZ c line e=some id->_) c1 (λ_ _ _ _ he=>bN he) he
    ·exact uA (M:=λe=>jZ c line e=some id->_) c1 (λ_ _ _ _ he=>bN he) he
    ·exact qo (M:=λe=>jZ c line e=some id->_) c1 (λ_ _ _ _ he=>bN he) he
   refine c8 k ?_;clear k;intro i q1 k1 k2;subst q1
   refine⟨(id,i)::l,Xu (id::·) a1,Xu (Tg.v i::·) a2,λp hp=>?_⟩
   rcases XC hp with e |hp
   ·exact e▸⟨k1,k2⟩
   ·exact a3 p hp
theorem Od{k':Nat}{p q:Pos}(O:Ok w d)(he:ck w ρ σ (.Tuple vs k' p') v σ₁)(ha:EA (.t tts) v ρ σ₁ ρ' σ₂)(c2:cx (oP w.Vk.KF (cg w.Vk.KF 30 w.VK) 3 w.VK) ts tts=true)(hs:swapsWithSole [.Tuple ts k p] (.Tuple vs k' p') q.line w.aE=pure false)(h4:zF w.VK ts vs)(b:At w ρ s μ σ):
  w.wp (exec (.Assign [.Tuple ts k p] (.Tuple vs k' p') q) w.aE) (dF w .n ρ' σ₂ s μ) s:=by
 refine c8 ha ?_;clear ha;intro xs hx hl ha
 obtain⟨l,a1,a2,a3⟩:=Rp tts ts c2 h4.wJ
 have a1:l.map (·.1)=iC w.VK ts:=a1
 refine bc (ha (l.map (·.2)) (by rw[a2,XN];rfl)) λq0 q1=>?_;subst q0;subst q1
 refine Assign_Tuple_swapped (he.to b λu s₁ m₁ b₁ e₁ r₁=>?_) hs (US O.X h4)
 have hn:(iC w.VK ts).length=xs.length:=h4.wJ.trans ((wY c2).trans hl)
 rw[hn]
 refine Kw b₁.bH O.VT.1 r₁ hx λh' us st₂ hr=>?_
 have hll:l.length=xs.length:=by rw[<-hn,<-a1,Xk]
 have z1:(l.zip xs).map (λp=>bindName w.aE p.1.1)=(iC w.VK ts).map λn=>bindName w.aE n:=by rw[<-a1,XN,<-List.map_fst_zip (XW hll),XN,List.map_fst_zip (XW hll)];rfl
 have z2:(l.zip xs).map (·.2)=xs:=List.map_snd_zip (XW hll.symm)
 have z3:((l.zip xs).map λp=>(p.1.2,p.2))=(l.map (·.2)).zip xs:=by rw[List.zip_map_left];rfl
 have nd:(((l.zip xs).map λp=>(p.1.2,p.2)).map (·.1)).Nodup:=by
  rw[z3,List.map_fst_zip (by rw[Xk];exact XW hll)]
  have q:=h4.nd
  rw[<-a1]at q
  exact List.pairwise_map.mpr ((List.pairwise_map.mp q).imp_of_mem λhx hy hne e=>hne (Xu Prod.fst (xo O.X.sc.n2 (a3 _ hx).1 (a3 _ hy).1 e)))
 have k:=UC O (l.zip xs).reverse us.reverse ρ {s₁ with heap:=h'} (λp hp=>a3 _ (List.of_mem_zip (List.mem_reverse.mp hp)).1) (b₁.gS st₂) (by rw[Ze,z2];exact hr.reverse)
 rw[Ze,Ze,z1,U8 nd,z3,<-Ze]at k
 exact Wp.bZ k λ_ s₃ q=>q.sr.rV ((e₁.d0 st₂).fq _)
theorem Oe(h:Ev d 30 e ρ σ v σ₁)(h2:aQ d 30 4 t v ρ σ₁ ρ' σ₂):El d (n+1) (.a t e) ρ σ .n ρ' σ₂:=λw O st c s μ b=>
 Pa (M:=λst=>w.wp (exec st w.aE) (dF w .n ρ' σ₂ s μ) s) c λtgs value p c=>sk (M:=λtgs=>w.wp (exec (.Assign tgs value p) w.aE) (dF w .n ρ' σ₂ s μ) s) c λtg c=>by
  refine cN (cY c) λc1 c2 c3=>?_
  have he:=h w O value c1
  have ha:=h2.CW w O tg c2
  rcases Yq c3 with c3 |c3
  ·exact Ai (M:=λvalue=>bj w ρ σ v σ₁ value->w.wp (exec (.Assign [tg] value p) w.aE) (dF w .n ρ' σ₂ s μ) s) c3 (λelt gens sc vp c3 he=>oS (M:=λtg=>tz w v ρ σ₁ ρ' σ₂ tg->w.wp (exec (.Assign [tg] (.ListComp elt gens sc vp) p) w.aE) (dF w .n ρ' σ₂ s μ) s) c3 (λtn tp c3 ha=>Of O c3 he.cu ha b) ha) he
  ·refine bc (bV c3) λc3 c4=>?_
   have hs:swapsWithSole [tg] value p.line w.aE=pure false:=Sg O.X c3
   rcases Yq c4 with c4 |c4
   ·exact zV he.ev ha (UZ c2) hs (UR c4) b
   ·refine qp (M:=λtg=>oP w.Vk.KF (cg w.Vk.KF 30 w.VK) 4 w.VK tg t=true->tz w v ρ σ₁ ρ' σ₂ tg->swapsWithSole [tg] value p.line w.aE=pure false->w.wp (exec (.Assign [tg] value p) w.aE) (dF w .n ρ' σ₂ s μ) s) c4 (λts k p2 c4 c2 ha hs=>?_) c2 ha hs
    rcases Yq c4 with c4 |c4
    ·exact zV he.ev ha rfl hs (UQ c4) b
    ·refine qp (M:=λvalue=>ck w ρ σ value v σ₁->swapsWithSole [.Tuple ts k p2] value p.line w.aE=pure false->w.wp (exec (.Assign [.Tuple ts k p2] value p) w.aE) (dF w .n ρ' σ₂ s μ) s) c4 (λvs k' p3 c4 he hs=>?_) he.ev hs
     rcases Yq c4 with c4 |c4
     ·exact zV he ha rfl hs (UP O.X c4) b
     ·rcases t with _ |tts |_ |_
      ·exact bE c2
      ·exact Od O he h2.sw (bV c2).1 hs (UO c4) b
      ·exact bE c2
      ·exact bE c2
end
set_option backward.match.sparseCases false
noncomputable def LS(w:Wh)(fl:Fl)(ρ':aA)(σ':aj)(s:Shared)(μ:List Addr)(r:Result)(s':Shared):Prop:=match r with
 | .ok f=>dF w fl ρ' σ' s μ f s'
 | .error _=>False
noncomputable def EO(d n:Nat)(st:St)(ρ:aA)(σ:aj)(fl:Fl)(ρ':aA)(σ':aj):Prop:=match st with
 | .w c y=>∀w,Ok w d->∀test body,cg w.Vk.KF 30 w.VK test c=true->cx (mh w.Vk.KF 30 n.pred w.VK) body y=true->∀s μ,At w ρ s μ σ->codeAny (model w.Vk.bK w.Vk.VI) w.VU (.whileLoop test body [] w.aE) (LS w fl ρ' σ' s μ) s
 |_=>True
structure ai(d n:Nat)(st:St)(ρ:aA)(σ:aj)(fl:Fl)(ρ':aA)(σ':aj):Prop where
 Ek:El d n st ρ σ fl ρ' σ'
 Nc:EO d n st ρ σ fl ρ' σ'
inductive mN(d n:Nat)(t:Tg)(b:List St)(S:eM)(ρ':aA)(σ':aj):List V->aA->aj->Prop
 |yY {σ:aj} (e:S.iG none σ=σ'):mN d n t b S ρ' σ' [] ρ' σ
 |vZ {x:V} {xs:List V} {ρ ρ₁ ρ₂:aA} {σ σ₁:aj} (hb:fL 4 t x ρ=some ρ₁) (h:ae d n b ρ₁ (S.iG (some xs) σ) .n ρ₂ σ₁) (hg:S.V8 xs σ₁) (h2:mN d n t b S ρ' σ' xs ρ₂ σ₁):mN d n t b S ρ' σ' (x::xs) ρ σ
noncomputable def bF(d n:Nat)(t:Tg)(b:List St)(S:eM)(xs:List V)(ρ:aA)(σ:aj)(fl:Fl)(ρ':aA)(σ':aj):Prop:=fl=.n/\mN d n t b S ρ' σ' xs ρ σ
section
variable {w:Wh}{s:Shared}{x y z u v:V}{xs:List V}{d n i k m:Nat}{e o a b c:Ex}{it:It}{bd:List St}{S:eM}{st:St}{ss:List St}
theorem du(h:Ev d 30 e ρ σ v σ₁):ai d (n+1) (.e e) ρ σ .n ρ σ₁:=⟨λw O st c s μ a=>Pg (M:=λst=>w.wp (exec st w.aE) (dF w .n ρ σ₁ s μ) s) c λv p c=>
 wpAny_Expr_any ((h w O v (bV c).1).ev.to a λv s₁ m₁ a₁ e₁ r=>⟨m₁,e₁.fq _,a₁,rfl⟩) (by unfold interactive;rw[O.X.fn];rfl) (Fy (bV c).2),trivial⟩
theorem Rx{p:Pos}{c:Sc}(h:Bc e=true):cg L (n+1) c (.Constant .none 0 p) e=true:=by
 rcases e with _ |q |_ |_ |_ |_ |_ |_ |_ |_ |_ |_ |_ |_ |_ |_ |_ |_ |_ |_ |_ |_<;>first |exact bE h |skip
 rcases q with _ |_ |_ |_ |_ |_ |_ |_<;>first |exact bE h |rfl
theorem T4{p:Pos}(h:∀e',cg w.Vk.KF 30 w.VK e' e=true->bj w ρ σ v σ₁ e')(hn:Bc e=true)(a:At w ρ s μ σ):w.wp (exec (.Return none p) w.aE) (dF w (.r v) ρ σ₁ s μ) s:=λΓ q hΓ=>by
 have k:R1 w.Vk s μ v σ₁ .none s:=(h (.Constant .none 0 p) (Rx hn)).ev s μ a Γ q hΓ
 obtain⟨m,st,r⟩:=k
 have k:dF w (.r v) ρ σ₁ s μ (.ret .none) s:=⟨m,st.fq _,a.gS st,.none,rfl,r⟩
 exact k
theorem bM(h:Ev d 30 e ρ σ v σ₁):ai d (n+1) (.r e) ρ σ (.r v) ρ σ₁:=⟨λw O st c s μ a=>Pf (M:=λst=>w.wp (exec st w.aE) (dF w (.r v) ρ σ₁ s μ) s) c λo p c=>(Yq c).elim
 (λc=>m5 (M:=λo=>w.wp (exec (.Return o p) w.aE) (dF w (.r v) ρ σ₁ s μ) s) c λe' c=>wpAny_Return_some ((h w O e' c).ev.to a λv s₁ m₁ a₁ e₁ r=>⟨m₁,e₁.fq _,a₁,_,rfl,r⟩))
 λc=>qr (M:=λo=>w.wp (exec (.Return o p) w.aE) (dF w (.r v) ρ σ₁ s μ) s) (bV c).1 (T4 (h w O) (bV c).2 a),trivial⟩
theorem cW{x y:List St}(h:Ev d 30 c ρ σ (.b true) σ₁)(h2:ae d n x ρ σ₁ fl ρ' σ₂):ai d (n+1) (.i c x y) ρ σ fl ρ' σ₂:=⟨λw O st c s μ a=>FO (M:=λst=>w.wp (exec st w.aE) (dF w fl ρ' σ₂ s μ) s) c λt b o p c=>
 wpAny_If (((h w O t (cY c).1).V1 _ rfl).to a λs₁ m₁ a₁ e₁=>Wp.bZ (h2 w O b (cY c).2.1 _ _ a₁) λf s₂ q=>q.rV (e₁.fq _)),trivial⟩
theorem bC{x y:List St}(h:Ev d 30 c ρ σ (.b false) σ₁)(h2:ae d n y ρ σ₁ fl ρ' σ₂):ai d (n+1) (.i c x y) ρ σ fl ρ' σ₂:=⟨λw O st c s μ a=>FO (M:=λst=>w.wp (exec st w.aE) (dF w fl ρ' σ₂ s μ) s) c λt b o p c=>
 wpAny_If (((h w O t (cY c).1).V1 _ rfl).to a λs₁ m₁ a₁ e₁=>Wp.bZ (h2 w O o (cY c).2.2 _ _ a₁) λf s₂ q=>q.rV (e₁.fq _)),trivial⟩
theorem bh{t:Tg}(h:Ev d 30 e ρ σ v σ₁)(h2:aQ d 30 4 t v ρ σ₁ ρ' σ₂):ai d (n+1) (.a t e) ρ σ .n ρ' σ₂:=⟨Oe h h2,trivial⟩
theorem aP:ae d n [] ρ σ .n ρ σ:=λw O ss c s μ a=>kC (M:=λss=>w.wp (execs ss w.aE) (dF w .n ρ σ s μ) s) c (wpAny_execs_nil ⟨μ,.wI a.bH _,a,rfl⟩)
theorem ao(h:ai d n st ρ σ .n ρ' σ₁)(h2:ae d n ss ρ' σ₁ fl ρ'' σ₂):ae d n (st::ss) ρ σ fl ρ'' σ₂:=λw O ss c s μ a=>iL (M:=λss=>w.wp (execs ss w.aE) (dF w fl ρ'' σ₂ s μ) s) c λst' ss' c1 c2=>wpAny_execs_cons (Wp.bZ (h.Ek w O st' c1 s μ a) λf s₁ q=>by
 obtain⟨m₁,st,a₁,rfl⟩:=q
 exact Wp.bZ (h2 w O ss' c2 s₁ m₁ a₁) λf s₂ q=>q.rV st)
theorem Xi(h:ai d n st ρ σ .n ρ' σ₁):ae d n [st] ρ σ .n ρ' σ₁:=ao h aP
theorem be(h:ai d n st ρ σ (.r v) ρ' σ₁):ae d n (st::ss) ρ σ (.r v) ρ' σ₁:=λw O ss c s μ a=>iL (M:=λss=>w.wp (execs ss w.aE) (dF w (.r v) ρ' σ₁ s μ) s) c λst' ss' c1 c2=>wpAny_execs_cons (Wp.bZ (h.Ek w O st' c1 s μ a) λf s₁ q=>by
 obtain⟨m₁,st,a₁,u,rfl,r⟩:=q
 exact⟨m₁,st,a₁,u,rfl,r⟩)
theorem LS.Mt{r:Result}(st:cK w.Vk (dE w.aE) s μ s' μ' σ₁)(h:LS w fl ρ' σ' s' μ' r s''):LS w fl ρ' σ' s μ r s'':=by
 rcases r with _ |f
 ·exact h
 ·exact dF.rV st h
theorem KC(h:EO d (n+1) (.w c bl) ρ σ fl ρ' σ'):ai d (n+1) (.w c bl) ρ σ fl ρ' σ':=⟨λw O st k s μ a=>Ph (M:=λst=>w.wp (exec st w.aE) (dF w fl ρ' σ' s μ) s) k λtest body els p k=>xc (M:=λels=>w.wp (exec (.While test body els p) w.aE) (dF w fl ρ' σ' s μ) s) (cY k).1
 (wpAny_While (YS (h w O test body (cY k).2.1 (cY k).2.2 s μ a) λr s' q=>by
  rcases r with _ |f
  ·exact q.elim
  ·exact q)),h⟩
theorem lZ(h:Ev d 30 c ρ σ (.b true) σ₁)(h2:ae d n bl ρ σ₁ .n ρ' σ₂)(h3:ai d (n+1) (.w c bl) ρ' σ₂ fl ρ'' σ₃):ai d (n+1) (.w c bl) ρ σ fl ρ'' σ₃:=KC λw O test body c1 c2 s μ a=>by
 refine Zd ?_
 refine(?_:wpAny _ w.VU ((whileTurn test body [] w.aE).onRaise (λx=>do noteFrame x w.aE;theTreesLotGoes x)) _ _ s)
 refine wpAny_noted (ny (Xj (((h w O test c1).V1 _ rfl).to a λs₁ m₁ a₁ e₁=>Xj (Wp.bZ (h2 w O body c2 s₁ m₁ a₁) λf s₂ q=>?_))))
 obtain⟨m₂,st,a₂,rfl⟩:=q
 exact Xm ⟨rfl,YS (h3.Nc w O test body c1 c2 s₂ m₂ a₂) λr s₃ q=>q.Mt ((e₁.fq _).jS st)⟩
theorem iY(h:Ev d 30 c ρ σ (.b false) σ₁):ai d (n+1) (.w c bl) ρ σ .n ρ σ₁:=KC λw O test body c1 c2 s μ a=>by
 refine Zd ?_
 refine(?_:wpAny _ w.VU ((whileTurn test body [] w.aE).onRaise (λx=>do noteFrame x w.aE;theTreesLotGoes x)) _ _ s)
 exact wpAny_noted (ny (Xj (((h w O test c1).V1 _ rfl).to a λs₁ m₁ a₁ e₁=>Xj (wpAny_execs_nil (Xm ⟨m₁,e₁.fq _,a₁,rfl⟩)))))
theorem fF:bF d n tg bd S [] ρ σ .n ρ (S.iG none σ):=⟨rfl,.yY rfl⟩
theorem fc(hb:fL 4 tg x ρ=some ρ')(h:ae d n bd ρ' (S.iG (some xs) σ) .n ρ'' σ₁)(hg:S.V8 xs σ₁){ρ₃:aA}(h2:bF d n tg bd S xs ρ'' σ₁ fl ρ₃ σ₂):bF d n tg bd S (x::xs) ρ σ fl ρ₃ σ₂:=⟨h2.1,.vZ hb h hg h2.2⟩
theorem mN.LC{ys zs:List V}(h:mN d n tg bd (.bx ys) ρ' σ' xs ρ σ)(h2:mN d n tg bd (.bx ys) ρ'' σ₂ zs ρ' σ'):mN d n tg bd (.bx ys) ρ'' σ₂ (xs++zs) ρ σ:=by
 induction h with
 |yY e=>cases e;exact h2
 |vZ hb h hg _ ih=>exact .vZ hb h hg ih
theorem LD{ys zs:List V}(h:bF d n tg bd (.bx ys) xs ρ σ .n ρ' σ')(h2:bF d n tg bd (.bx ys) zs ρ' σ' fl ρ'' σ₂):bF d n tg bd (.bx ys) (xs++zs) ρ σ fl ρ'' σ₂:=⟨h2.1,h.2.LC h2.2⟩
theorem VB{ys:List V}(I:List V->aA->aj->Prop)(step:∀x xs ρ σ,I (x::xs) ρ σ->∃ρ' ρ'' σ',fL 4 tg x ρ=some ρ'/\ae d n bd ρ' σ .n ρ'' σ'/\I xs ρ'' σ'):∀{xs:List V} {ρ:aA} {σ:aj},I xs ρ σ->∃ρ' σ',bF d n tg bd (.bx ys) xs ρ σ .n ρ' σ'/\I [] ρ' σ':=by
 intro xs
 induction xs with
 |nil=>exact λh=>eE _ _ fF h
 |cons x xs ih=>
  intro ρ σ h
  refine nA (step x xs ρ σ h) λρ' ρ'' σ' h1 h2 h3=>?_
  refine dY (ih h3) λρ₃ σ₃ h4 h5=>?_
  exact eE ρ₃ σ₃ (fc (S:=.bx ys) h1 h2 trivial h4) h5
theorem At.CY(a:At w ρ s μ σ):∀b∈dE w.aE,∀o,s.heap.get? b=some o->gm o=false:=λb hb=>(a.VS.tr b hb).kU
theorem PO{tgE:Expr}{body:List Stmt}(O:Ok w d)(ht:qn false 4 w.VK tgE tg=true)(hb:cx (mh w.Vk.KF 30 n w.VK) body bd=true)(hw:∀b∈wr,s₀.heap.get? b=none)(hf:∀b∈dE w.aE,b∉wr)(h:mN d n tg bd S ρ' σ' xs ρ σ):
  ∀s μ,At w ρ s μ σ->cK w.Vk (dE w.aE) s₀ μ₀ s μ σ->lT w.Vk I wr (dE w.aE) S xs s.heap μ σ->codeAny (model w.Vk.bK w.Vk.VI) w.VU (.forLoop tgE (.ref I) body [] w.aE) (LS w .n ρ' σ' s₀ μ₀) s:=by
 induction h with
 |yY e=>
  intro s μ a B io
  refine Zd ?_
  refine(?_:wpAny _ w.VU ((forTurn tgE (.ref I) body [] w.aE).onRaise (λx=>do noteFrame x w.aE;theTreesLotGoes x)) _ _ s)
  refine wpAny_noted (ny (Xj (X0 (Xj (wpAny_onRaise (wpAny_mono (io w.VU s O.VT.1 rfl a.bH) (λr s₁ q=>?_) λ_ _ q=>q.elim))))))
  obtain⟨rfl,st⟩:=q
  rw[e]at st
  exact Xm ⟨rfl,codeAny_block (wpAny_execs_nil (show LS w .n _ σ' s₀ μ₀ (.ok .next) s₁ from⟨μ,B.wH st hw,a.vL st hf,rfl⟩))⟩
 | @vZ x xs ρ ρ₁ ρ₂ σ σ₁ hb2 h hg _ ih=>
  intro s μ a B io
  refine Zd ?_
  refine(?_:wpAny _ w.VU ((forTurn tgE (.ref I) body [] w.aE).onRaise (λx=>do noteFrame x w.aE;theTreesLotGoes x)) _ _ s)
  refine wpAny_noted (ny (Xj (X0 (Xj (wpAny_onRaise (wpAny_mono (io w.VU s O.VT.1 rfl a.bH) (λr s₁ q=>?_) λ_ _ q=>q.elim))))))
  obtain⟨v,rfl,hgo⟩:=q
  refine Xj (Wp.bZ (hgo tgE) λ_ s₂ q=>?_)
  obtain⟨st,rv,later⟩:=q
  have a₂:=a.vL st hf
  refine Xj (Wp.bZ (Ko (fr:=dE w.aE) O (Xz ..) (λ_ _ _ _ hl=>oZ hl) 4 tgE tg ht x ρ ρ₁ s₂ μ _ v hb2 a₂ rv) λ_ s₃ q=>?_)
  obtain⟨st₃,_,a₃⟩:=q
  refine Xj (Wp.bZ (h w O body hb s₃ μ a₃) λf s₄ q=>?_)
  obtain⟨m₄,st₄,a₄,rfl⟩:=q
  have turn:=st₃.jS st₄
  exact Xm ⟨rfl,ih s₄ m₄ a₄ ((B.wH st hw).jS turn) (later s₄.heap m₄ σ₁ ⟨turn.iZ,a₂.CY,turn.jR,turn.i4⟩ hg a₄.bH)⟩
theorem fg(h:bA d 30 it ρ σ S σ₁)(h2:bF d n tg bd S S.qa ρ σ₁ fl ρ' σ₂):ai d (n+1) (.l tg it bd) ρ σ fl ρ' σ₂:=⟨λw O st c s μ a=>Pd (M:=λst=>w.wp (exec st w.aE) (dF w fl ρ' σ₂ s μ) s) c λtgE iter body els p c=>xc (M:=λels=>w.wp (exec (.For tgE iter body els p) w.aE) (dF w fl ρ' σ₂ s μ) s) (eQ c).1 (by
 obtain⟨rfl,h2⟩:=h2
 refine wpAny_For (Wp.bZ (h w O iter (eQ c).2.1 s μ a) λx s₁ q=>Wp.bZ q λitv s₂ q=>?_) λx=>BV (bV (eQ c).2.1).1
 obtain⟨I,wr,m₂,rfl,st,g,h5,h6,h8,h9⟩:=q
 have a₂:=a.gS st
 have fw:∀b∈dE w.aE,b∉wr:=λb hb hm=>qv a (h5 b hm).1 hb
 have fok:tO (dE w.aE) s₂.heap m₂ wr I:=λb hb=>.inr ⟨a₂.VS.tr b hb,(a₂.VS.gw b hb).1,fw b hb,λe=>h6.elim (λq=>qv a q (e▸hb)) λq=>(a.VS.gw b hb).1 (e▸q)⟩
 exact YS (PO O (eQ c).2.2.1 (eQ c).2.2.2 (λb hb=>(h5 b hb).1) fw h2 s₂ m₂ a₂ (st.fq _) (h8 _ fok s₂.heap m₂ σ₁ ⟨λ_ _ hb _ _=>hb,a₂.CY,Yh _,λ_ hb=>.inl hb⟩ g st.eN)) λr s' q=>by
  rcases r with _ |f
  ·exact q.elim
  ·exact q),trivial⟩
end
section
variable {h:Heap}{n m:Nat}
theorem N6{P:V->Bool}{l:List V}{f:List V->Bool}(h0:f []=true)(h1:∀x xs,f (x::xs)=(P x&&f xs))(h:∀x∈l,P x=true):f l=true:=by
 induction l with
 |nil=>exact h0
 |cons x l ih=>rw[h1,h x (Xz ..),ih λy hy=>h y (XA _ hy)];rfl
theorem uU(U:V){v:Value}:aS cl h μ U v->U.lo μ.length=true:=V.rec (motive_1:=λU=>∀v,aS cl h μ U v->U.lo μ.length=true) (motive_2:=λVs=>∀vs,aR cl h μ Vs vs->V.loAll μ.length Vs=true)
 (λ_ _=>rfl) (λ_ _ _=>rfl) (λ_ _ _=>rfl) (λ_ _ _=>rfl) (λxs ih _ r=>by refine u4 r ?_;clear r;intro a vs n _ _ _ hr;exact ih _ hr)
 (λi _ r=>by refine az r ?_;clear r;intro x hx _;exact XL (XS hx).1) (λc i _ r=>by refine dY r ?_;clear r;intro x d hd _;exact XL (XS hd).1)
 (λxs _ _ r=>by
  refine bc r ?_;clear r;intro _ q1;subst q1
  refine(?_:V.loAll μ.length (cl.vM.map .i)=true)
  exact N6 (P:=V.lo μ.length) (f:=V.loAll μ.length) rfl (λ_ _=>rfl) λx hx=>by refine az (XY hx) λi _ q2=>?_;subst q2;rfl)
 (λ_ _=>rfl) (λU Us ih ihs _ r=>by refine cO r ?_;clear r;intro v u _ r1 r2;exact Zh ⟨ih _ r1,ihs _ r2⟩) U v
theorem BD{Us:List V}:∀{vs:List Value},aR cl h μ Us vs->V.loAll μ.length Us=true:=by
 induction Us with
 |nil=>exact λ_=>rfl
 |cons U Us ih=>exact λr=>by refine cO r ?_;clear r;intro v u _ r1 r2;exact Zh ⟨uU U r1,ih r2⟩
theorem tw{l:List α}{i:Nat}(h:i < n):(l.take n)[i]? =l[i]?:=by rw[List.getElem?_take,Xr h]
theorem th(U:V){v:Value}:U.lo n=true->aS cl h μ U v->aS cl h (μ.take n) U v:=V.rec (motive_1:=λU=>∀v,U.lo n=true->aS cl h μ U v->aS cl h (μ.take n) U v) (motive_2:=λUs=>∀vs,V.loAll n Us=true->aR cl h μ Us vs->aR cl h (μ.take n) Us vs)
 (λ_ _ r=>r) (λ_ _ _ r=>r) (λ_ _ _ r=>r) (λ_ _ _ r=>r) (λxs ih _ l r=>by refine u4 r ?_;clear r;intro a vs m h1 h2 h3 hr;exact BJ a vs m h1 h2 (λhm=>h3 (Y' hm)) (ih _ l hr))
 (λi _ l r=>by refine az r ?_;clear r;intro x hx e;exact aC x ((tw (XQ l)).trans hx) e) (λc i _ l r=>by refine dj r ?_;clear r;intro x d hd e hx ho;exact dh x d ((tw (XQ l)).trans hd) e (λhm=>hx (Y' hm)) ho)
 (λ_ _ _ _ r=>r) (λ_ _ r=>r) (λU Us ih ihs _ l r=>by refine cO r ?_;clear r;intro v u e r1 r2;exact dN v u e (ih _ (YF l).1 r1) (ihs _ (YF l).2 r2)) U v
theorem CB{Us:List V}:∀{vs:List Value},V.loAll n Us=true->aR cl h μ Us vs->aR cl h (μ.take n) Us vs:=by
 induction Us with
 |nil=>exact λ_ r=>r
 |cons U Us ih=>exact λl r=>by refine cO r ?_;clear r;intro v u e r1 r2;exact dN v u e (th U (YF l).1 r1) (ih (YF l).2 r2)
theorem QW(hm:n<=m)(U:V):U.lo n=true->U.lo m=true:=V.rec (motive_1:=λU=>U.lo n=true->U.lo m=true) (motive_2:=λUs=>V.loAll n Us=true->V.loAll m Us=true)
 (λ_=>rfl) (λ_ _=>rfl) (λ_ _=>rfl) (λ_ _=>rfl) (λ_ ih=>ih) (λi l=>XL (XB (XQ l) hm)) (λ_ i l=>XL (XB (XQ l) hm)) (λ_ ih=>ih)
 (λ_=>rfl) (λU Us ih ihs l=>Zh ⟨ih (YF l).1,ihs (YF l).2⟩) U
theorem HM(hm:n<=m){Us:List V}:V.loAll n Us=true->V.loAll m Us=true:=by
 induction Us with
 |nil=>exact λ_=>rfl
 |cons U Us ih=>exact λl=>Zh ⟨QW hm U (YF l).1,ih (YF l).2⟩
theorem F2.lo{f:α->V}(h:∀a b,R a b->(f a).lo n=true)(r:F2 R as bs):V.loAll n (as.map f)=true:=by
 induction r with
 |d8=>rfl
 |eJ k _ ih=>exact Zh ⟨h _ _ k,ih⟩
theorem F2.vW{f:α->V}(h:∀a b,(f a).lo n=true->R a b->T a b)(r:F2 R as bs)(l:V.loAll n (as.map f)=true):F2 T as bs:=by
 induction r with
 |d8=>exact .d8
 |eJ k _ ih=>exact .eJ (h _ _ (YF l).1 k) (ih (YF l).2)
theorem IE{ps:List (V×V)}:V.loAll n (ps.map λp=>.t [p.1,p.2])=true↔V.loAll n (ps.map (·.1))=true/\V.loAll n (ps.map (·.2))=true:=by
 induction ps with
 |nil=>exact⟨λ_=>⟨rfl,rfl⟩,λ_=>rfl⟩
 |cons p ps ih=>
  refine(?_:((p.1.lo n&&(p.2.lo n&&true))&&V.loAll n (ps.map λp=>.t [p.1,p.2]))=true↔(p.1.lo n&&V.loAll n (ps.map (·.1)))=true/\(p.2.lo n&&V.loAll n (ps.map (·.2)))=true)
  rw[Bool.and_true,YD,YD,YD,YD,ih]
  exact⟨λq=>⟨⟨q.1.1,q.2.1⟩,q.1.2,q.2.2⟩,λq=>⟨⟨q.1.1,q.2.1⟩,q.1.2,q.2.2⟩⟩
end
section
variable {h:Heap}{s:Shared}{i n m:Nat}{o:O}{xs:List V}{U:V}{v:Value}
noncomputable def O.DP:O->Bool
 | .i _=>true
 |_=>false
theorem dC.lo(hi:o.DP=false)(r:dC Z h μ i x o):o.lo μ.length=true:=by
 rcases o with _ |_ |_ |_ |_ |_ |_
 ·refine dY r ?_;clear r;intro vs n _ h2;exact BD h2
 ·refine az r ?_;clear r;intro kvs _ h2;exact h2.lo λa b k=>uU a.2 k.2
 ·refine az r ?_;clear r;intro kvs _ h2;exact h2.lo λa b k=>uU a.2 k.2
 ·refine az r ?_;clear r;intro ks _ h2;exact h2.lo λa b k=>uU a.2 k.2
 ·refine dY r ?_;clear r;intro es n _ h2;exact h2.lo λa b k=>uU a.2 k.2
 ·exact Bool.noConfusion hi
 ·rfl
theorem dC.M6(l:o.lo n=true)(r:dC Z h μ i x o):dC Z h (μ.take n) i x o:=by
 rcases o with _ |_ |_ |_ |_ |_ |_
 ·refine dY r ?_;clear r;intro vs m h1 h2;exact eE vs m h1 (CB l h2)
 ·refine az r ?_;clear r;intro kvs h1 h2;exact aC kvs h1 (h2.vW (λa b l k=>⟨k.1,th a.2 l k.2⟩) l)
 ·refine az r ?_;clear r;intro kvs h1 h2;exact aC kvs h1 (h2.vW (λa b l k=>⟨k.1,th a.2 l k.2⟩) l)
 ·refine az r ?_;clear r;intro ks h1 h2;exact aC ks h1 (h2.vW (λa b l k=>⟨⟨k.1.1,λhm=>k.1.2 (Y' hm)⟩,th a.2 l k.2⟩) l)
 ·refine dY r ?_;clear r;intro es m h1 h2;exact eE es m h1 (h2.vW (λa b l k=>⟨k.1,th a.2 l k.2⟩) l)
 ·exact bE l
 ·exact r
theorem Qh(r:dC Z h μ i x (.i xs)):V.loAll μ.length xs=true:=by
 refine o8 r ?_;clear r;intro as bs ps j _ h1 h2 q7;subst q7
 exact IE.mpr ⟨BD h1,BD h2⟩
theorem Qi(hi:i+3 < n)(l:V.loAll n xs=true)(r:dC Z h μ i x (.i xs)):dC Z h (μ.take n) i x (.i xs):=by
 refine o8 r ?_;clear r;intro as bs ps j z h1 h2 q7;subst q7
 refine bc (IE.mp l) λl1 l2=>?_
 refine kK as bs ps j ?_ (CB l1 h1) (CB l2 h2) rfl
 exact z.casesOn λf0 u TI TO i1 i2 t1 t2 n1 n2 o1 o2 k0 hf hO e1 e2 aI a1 a2 pI pO r1 r2 g1 g2=>⟨f0,u,TI,TO,i1,i2,t1,t2,n1,n2,o1,o2,k0,hf,(tw (jb (hX hi))).trans hO,(tw (qL hi)).trans e1,(tw hi).trans e2,λhm=>aI (Y' hm),λhm=>a1 (Y' hm),λhm=>a2 (Y' hm),pI,pO,r1,r2,g1,g2⟩
theorem MB(hm:n<=m)(l:o.lo n=true):o.lo m=true:=by
 rcases o with _ |_ |_ |_ |_ |_ |_<;>first |exact HM hm l |exact bE l |rfl
theorem IY{l:List α}(h:l <+:l')(hi:i < l.length):l'[i]? =l[i]?:=by refine aT h ?_;clear h;intro t q1;subst q1;exact Ye hi
theorem br.Es(I:aU Z s.heap μ σ)(st:br Z s μ s' μ' σ')(d:nX σ σ' τ U)(r:aS Z.KF.aF s'.heap μ' U v):br Z s μ s' (μ'.take τ.length) τ/\aS Z.KF.aF s'.heap (μ'.take τ.length) U v:=by
 obtain⟨pre,le,val,objs⟩:=d
 have J:=st.eN
 have hle:τ.length<=μ'.length:=by rw[J.eu];exact pre.length_le
 have lt_:∀{i:Nat} {o:O},τ[i]? =some o->i < τ.length:=λh=>(XS h).1
 have up:∀{i:Nat} {o:O},τ[i]? =some o->σ'[i]? =some o:=λh=>(IY pre (lt_ h)).trans h
 have old:∀{i:Nat} {x:Addr} {o:O},(μ'.take τ.length)[i]? =some x->τ[i]? =some o->μ'[i]? =some x:=λhx ho=>(tw (lt_ ho)).symm.trans hx
 have iters:∀{i:Nat} {xs:List V},τ[i]? =some (.i xs)->σ[i]? =some (.i xs)/\i+3 < τ.length:=λ{i xs} h=>by
  have h1:=(objs i _ h).resolve_right Yy
  refine az (I.iT i xs h1 2 (by decide)) λoo h3 _=>?_
  exact bm h1 (XB (XS h3).1 le)
 have ext:dw s.heap μ s'.heap (μ'.take τ.length):=⟨st.bJ.iE,by obtain⟨t,ht⟩:=st.bJ.lL;exact fA (t.take (τ.length - μ.length)) (by rw[<-ht,List.take_append,List.take_of_length_le (l:=μ) (by rw[I.eu];exact le)]),λb hb=>st.bJ.kZ b (Y' hb)⟩
 have tot:∀{i:Nat} {o:O},σ[i]? =some o->∃x,dC Z s.heap μ i x o:=λh=>(I.at h).imp λx q=>q.2.2
 refine bm (⟨st.jQ,⟨(List.length_take.trans (Nat.min_eq_left hle)),J.jH.sublist (List.take_sublist _ _),J.dM,λb hb=>J.jG b (Y' hb),λb hb=>J.iU b (Y' hb),λi x o hx ho=>?_,λi xs h j hj=>?_,J.kh,λi x o hx ho hd=>J.jr i x o (old hx ho) (up ho) hd⟩,ext⟩) (th U val r)
 ·have ro:=J.fU i x o (old hx ho) (up ho)
  rcases hit:o.DP with _ |_
  ·refine ro.M6 ?_
   rcases objs i o ho with h1 |h1
   ·refine aT (tot h1) λy r0=>?_
    exact MB (by rw[I.eu];exact le) (r0.lo hit)
   ·exact h1
  ·rcases o with _ |_ |_ |_ |_ |xs |_<;>first |exact Bool.noConfusion hit |skip
   refine bc (iters ho) λh1 h2=>?_
   refine aT (tot h1) λy r0=>?_
   exact Qi h2 (HM (by rw[I.eu];exact le) (Qh r0)) ro
 ·refine bc (iters h) λh1 h2=>?_
  refine az (J.iT i xs (up h) j hj) λo' h5 h6=>?_
  exact aC o' ((IY pre (by lia)).symm.trans h5) h6
theorem O5(hp:σ <+:σ'){v:V}(hv:v.lo σ.length=true):nX σ σ' σ v:=⟨hp,Xp _,hv,λi o h=>.inl h⟩
end
section
variable {kindOf:Str->Option NameKind}{n:Str}{v:Value}
theorem Fg(names:List (Str×NameKind)):∀(n:Nat) (acc:List (Str×Addr)),(cellsFrom n names acc).map (·.1)=w0 names++acc.map (·.1):=by
 induction names with
 |nil=>exact λn acc=>rfl
 |cons x r ih=>
  intro n acc
  unfold cellsFrom w0
  rw[List.filter_cons]
  by_cases h:(x.2==NameKind.cell)=true
  ·rw[Xr h,Xr h,ih,Xw,Xw,List.reverse_cons,XM];rfl
  ·rw[Xv h,Xv h,ih];rfl
theorem On(bs:List (Str×Value)):∀{m:Str->Option Value},n∉bs.map (·.1)->bindL kindOf bs m n=m n:=by
 induction bs with
 |nil=>exact λ_=>rfl
 |cons p r ih=>
  intro m h
  rw[Xw,Yn,not_or]at h
  unfold bindL
  rw[ih h.2]
  split
  ·exact Xv h.1
  ·rfl
theorem Om(hk:kindOf n=some .local)(bs:List (Str×Value)):∀{m:Str->Option Value},(bs.map (·.1)).Nodup->(n,v)∈bs->bindL kindOf bs m n=some v:=by
 induction bs with
 |nil=>exact λ_ h=>absurd h XX
 |cons p r ih=>
  intro m hn h
  rw[Xw,Y9]at hn
  unfold bindL
  rcases XC h with e |h
  ·rw[<-e]at hn ⊢
   rw[On r hn.1,Xr hk];exact Xr rfl
  ·exact ih hn.2 h
theorem Ol(bs:List (Str×Value)):∀{m:Str->Option Value},n∉bs.map (·.1)->bindC kindOf bs m n=m n:=by
 induction bs with
 |nil=>exact λ_=>rfl
 |cons p r ih=>
  intro m h
  rw[Xw,Yn,not_or]at h
  unfold bindC
  rw[ih h.2]
  split
  ·rfl
  ·exact Xv h.1
theorem Oj(hk:kindOf n≠some .local)(bs:List (Str×Value)):∀{m:Str->Option Value},(bs.map (·.1)).Nodup->(n,v)∈bs->bindC kindOf bs m n=some v:=by
 induction bs with
 |nil=>exact λ_ h=>absurd h XX
 |cons p r ih=>
  intro m hn h
  rw[Xw,Y9]at hn
  unfold bindC
  rcases XC h with e |h
  ·rw[<-e]at hn ⊢
   rw[Ol r hn.1,Xv hk];exact Xr rfl
  ·exact ih hn.2 h
end
section
variable {s:Shared}{d k:Nat}{f:Fn}{args:List V}{v:V}
theorem T7(h:t8 (d+1) A)(env:PySem.Env):Rm d (A.deeper env):=by
 refine cN h ?_;clear h;intro h1 h2 h3
 exact fy h1 ((by lia:A.depth+1+3 * d+9<=900)) ((by lia:A.units+3+20 * d+1095<=cLine))
structure MD(X:od Z.KF (Z.KF.fn k) f)(env:PySem.Env)(args:List V)(s:Shared)(μ:List Addr)(s₁:Shared)(σ:aj):Prop where
 ME:fE X.V9 env
 WR:br Z s μ s₁ μ σ
 MF:∀b∈dE env,s.heap.get? b=none
 W0:eK Z.KF.aF Z.cS s₁.heap μ env X.V9.VM (bf args)
theorem RM(X:od Z.KF (Z.KF.fn k) f)(I:aU Z s.heap μ σ)(r:aR Z.KF.aF s.heap μ args vals)(hlen:args.length=f.mM)
  (hi:InCallC s (callEnvC X.Wa s.heap.objs.size (Z.KF.fn k)).locals (bindL (callEnvC X.Wa s.heap.objs.size (Z.KF.fn k)).kindOf (X.lb.zip vals) λ_=>none) (callEnvC X.Wa s.heap.objs.size (Z.KF.fn k)).cells (bindC (callEnvC X.Wa s.heap.objs.size (Z.KF.fn k)).kindOf (X.lb.zip vals) λ_=>none) s₁):
  MD X (callEnvC X.Wa s.heap.objs.size (Z.KF.fn k)) args s μ s₁ σ:=by
 have zk:(X.lb.zip vals).map (·.1)=X.lb:=List.map_fst_zip (by rw[<-r.length,hlen,X.vY];exact Xp _)
 have keys:(cellsFrom (s.heap.objs.size+1) X.Wa.scope.names []).map (·.1)=X.V9.jO:=by rw[Fg,X.Dq];exact Yb _
 revert hi
 generalize henv:callEnvC X.Wa s.heap.objs.size (Z.KF.fn k)=env
 intro hi
 have hk:=hi.toInCall.keep
 obtain⟨h',tk,rfl⟩:=hi.toInCall.same
 have st:br Z s μ {s with heap:=h',toks:=tk} μ σ:=iH I hk tk
 have big:∀b∈dE env,s.heap.objs.size<=b:=λb hb=>by
  rcases XC hb with e |hb
  ·exact e▸hi.toInCall.fresh
  ·refine az (XY hb) λy hy q2=>?_;subst q2
   exact Yc (YB hi.toInCall.fresh (hi.above y.1 y.2 hy))
 have new:∀b∈dE env,s.heap.get? b=none:=λb hb=>my (big b hb)
 have cl:env.cells.map (·.1)=X.V9.jO:=by rw[<-henv];exact keys
 have XE:fE X.V9 env:=⟨by rw[<-henv];exact X.yW,cl,by rw[<-henv];exact X.LA,by rw[<-henv];exact X.Ls,by rw[<-henv];exact X.Dr,X.sc,List.nodup_cons.mpr ⟨λhm=>by
  refine az (XY hm) λy hy e=>?_
  exact YQ _ ((show y.2=env.locals from e)▸hi.above y.1 y.2 hy),List.pairwise_map.mpr hi.apart⟩,X.dm⟩
 have val_at:∀x∈X.V9.VM,∀V,bf args x.2=some V->∃v,(x.1,v)∈X.lb.zip vals/\aS Z.KF.aF h' μ V v:=λx hx V hV=>by
  refine az (r.get (show args[x.2]? =some V from hV)) λv hv rv=>?_
  have hlt:x.2 < X.lb.length:=by rw[X.vY,<-hlen];exact(XS (show args[x.2]? =some V from hV)).1
  have e:x=(X.lb[x.2],x.2):=xo X.sc.n2 hx (X.yX x.2 _ (Yo hlt)) rfl
  exact aC v (Yi (i:=x.2) (List.getElem?_zip_eq_some.mpr ⟨(Yo hlt).trans (Xu some (Xu Prod.fst e).symm),hv⟩)) (rv.cE st.bJ)
 refine⟨XE,st,new,λb hb=>⟨(I.eY (new b hb)).1,(I.eY (new b hb)).2,?_⟩,(aC _ hi.toInCall.ns (λx hx hl V hV=>?_)),λn cc hc=>(aC _ (hi.cell n cc hc) (λx hx hn hl V hV=>?_))⟩
 ·rcases XC hb with e |hb
  ·exact e▸rG hi.toInCall.ns
  ·refine az (XY hb) λy hy q2=>?_;subst q2
   refine aT (xD (Yt (aC y hy rfl))) λa ha=>?_
   have e:y.2=a:=(Prod.mk.inj (BQ (Γ:=env.cells) (cl▸X.sc.n3) hy (Y7 ha) rfl)).2
   exact e▸C6 (hi.cell y.1 a ha)
 ·refine az (val_at x hx V hV) λv hv rv=>?_
  exact aC v (Om hl _ (by rw[zk];exact X.Ds) hv) rv
 ·refine az (val_at x hx V hV) λv hv rv=>?_
  exact aC v (Oj hl _ (by rw[zk];exact X.Ds) (hn▸hv)) rv
theorem Fe(h:ae d 12 f.dZ (bf args) σ fl ρ' σ')(G:rB Z)(R:t8 (d+1) A)(X:od Z.KF (Z.KF.fn k) f)(I:aU Z s.heap μ σ)(r:aR Z.KF.aF s.heap μ args vals)(hlen:args.length=f.mM):
  codeAny (model Z.bK Z.VI) A (.call (.ref (Z.KF.fn k)) ⟨vals,[]⟩) (Ej Z s μ (yh fl) σ') s:=by
 have XK:Z.KF.VJ.In s.heap:=G.V4.keeps I.dM
 have hvl:vals.length=f.mM:=r.length.symm.trans hlen
 have keys:(cellsFrom (s.heap.objs.size+1) X.Wa.scope.names []).map (·.1)=X.V9.jO:=by rw[Fg,X.Dq];exact Yb _
 have zk:(X.lb.zip vals).map (·.1)=X.lb:=List.map_fst_zip (by rw[hvl,X.vY];exact Xp _)
 refine codeAny_call_cells (by have:=R.2.1;unfold recursionLimit;lia) (XK _ _ X.Lo) X.Ly (G.LP.keeps I.dM) (X.Lx _ XK) X.Lr (X.Lp vals hvl) X.Lv (λx hx=>?_) (λs₁ hi=>?_) X.co X.Lz X.Dr
 ·have keys:(cellsFrom (s.heap.objs.size+1) X.V9.dD []).map (·.1)=X.V9.jO:=X.yW▸keys
  refine aT (List.getElem?_of_mem (zk▸Yt (aC x hx rfl):x.1∈X.lb)) λj hj=>?_
  rw[X.yW]
  exact(X.sc.Er _ (X.yX j _ hj)).imp id λq=>⟨q.1.resolve_right λh=>X.LB _ (Y7 h) rfl,Option.isSome_iff_exists.mpr (xD (keys.symm▸q.2))⟩
 ·have O:=RM X I r hlen hi
  let w:Wh:=⟨Z,X.V9,callEnvC X.Wa s.heap.objs.size (Z.KF.fn k),A.deeper (callEnvC X.Wa s.heap.objs.size (Z.KF.fn k))⟩
  refine ny (Wp.bZ (h w ⟨G,O.ME,T7 R _⟩ X.Lq X.Lu s₁ μ ⟨O.WR.eN,O.W0,λi V hV=>?_⟩) λf s₂ q=>?_)
  ·have hlt:i < X.lb.length:=by rw[X.vY,<-hlen];exact(XS (show args[i]? =some V from hV)).1
   exact X.dm _ (X.yX i _ (Yo hlt))
  ·obtain⟨m,st,a,rf⟩:=q
   have tot:=st.Ez O.WR O.MF
   rcases fl with _ |V
   ·obtain rfl:=rf
    exact⟨m,tot,rfl⟩
   ·refine az rf ?_;clear rf;intro v q1 rv;subst q1
    exact⟨m,tot,rv⟩
theorem aL.li(hf:yq k=some f)(hl:args.length=f.mM)(h:ae d 12 f.dZ (bf args) σ fl ρ' σ')(hd:nX σ σ' τ (yh fl)):aL (d+1) k args σ (yh fl) τ:=λZ A s μ vs G R I r=>(G.Dv k f hf).elim λX=>
 YS (Fe h G R X I r hl) λq s' k=>by
  rcases q with _ |f
  ·exact k
  ·cases f<;>first |exact k |skip
   obtain⟨m,st,rv⟩:=k
   exact⟨_,(st.Es I hd rv).1,(st.Es I hd rv).2⟩
theorem cI(hf:yq k=some f)(hl:args.length=f.mM)(h:ae d 12 f.dZ (bf args) σ fl ρ' σ'):aL (d+1) k args σ (yh fl) σ':=λZ A s μ vs G R I r=>(G.Dv k f hf).elim λX=>Fe h G R X I r hl
theorem fV(hf:yq k=some f)(hl:args.length=f.mM)(h:ae d 12 f.dZ (bf args) σ (.r v) ρ' σ')(hp:σ <+:σ')(hv:v.lo σ.length=true):aL (d+1) k args σ v σ:=.li (fl:=.r v) hf hl h (O5 hp hv)
end
section
variable {s:Shared}{i a:Nat}{es:List (Int×V)}
theorem J'{r:Addr}(h64:ns.length < 64)
  (hc:∀(R:List Value->Shared->Prop),(∀(h':Heap) (tk:Nat) (vs:List Value) (ms:List Int),(∀b o,s.heap.get? b=some o->h'.get? b=some o)->IntsAre vs ms->ms.Perm ns->R vs {s with heap:=h',toks:=tk})->wpAny (model Z.bK Z.VI) A.in1 (collect (.ref r)) R E s)
  (h:∀(D:Addr) (h':Heap) (tk:Nat) (out:List Value) (n:Nat),(∀b o,s.heap.get? b=some o->h'.get? b=some o)->s.heap.get? D=none->h'.get? D=some (ir out n)->IntsAre out (iP ns)->Q (.ref D) {s with heap:=h',toks:=tk}):
  wpAny (model Z.bK Z.VI) A (call (.builtin "sorted") [.ref r]) Q E s:=by
 refine call_function_entry kind_sorted plain_sorted entry_sorted (args_sorted1 _) ?_
 unfold Builtin.«sorted»
 refine Xj (m:=checkCount "sorted" 1 1 _) (Xm (Xj (hc _ λh' tk vs ms hk hI hp=>?_)))
 have hlen:vs.length < 64:=by rw[hI.length,hp.length_eq];exact h64
 refine Xj (wpAny_newList ?_ (ki (Xl (Yc hlen) (by decide))))
 have hoL:(h'.push (seqObj "list" vs.toArray 0)).get? h'.objs.size=some (seqObj "list" vs.toArray 0):=XZ _ rfl
 refine(?_:wpAny _ _ _ _ _ {s with heap:=h'.push (seqObj "list" vs.toArray 0),toks:=tk})
 refine Xj (XI (YY slot_list_sort ⟨_,hoL,rfl⟩ entry_list_sort (list_sort_tree hoL hI hlen λout ns' a1 a2 a3=>aC _ rfl (Xm (aC _ rfl ?_))) (args_list_sort _)))
 obtain rfl:=J8 (a2.trans hp) a3
 refine aT (sortedHeap_at (out:=out) hoL) λe he=>?_
 refine h h'.objs.size _ tk out.toList e (λb o hb=>?_) (Zx λo hg=>YQ _ (Ym (hk _ _ hg))) (by rw[he]) a1
 have hb':=hk b o hb
 rw[sortedHeap_old (XH (Ym hb')) (by rw[YZ];exact Zr (Ym hb'))]
 exact XG _ hb'
theorem Qw{kvs:List (Int×Value)}:∀{vs:List Value},vs.length=kvs.length->(∀(j:Nat) (v:Value),vs[j]? =some v->∃k x,kvs[j]? =some (k,x)/\(intKind Z.bK Z.VI).is k v=true)->IntsAre vs (kvs.map (·.1)):=by
 induction kvs with
 |nil=>exact λhl _=>by rw[Zf hl];exact .nil
 |cons kv kvs ih=>
  intro vs hl hv
  rcases vs with _ | ⟨v,vs⟩
  ·exact absurd hl (Nat.succ_ne_zero _).symm
  ·refine dY (hv 0 v rfl) λk x h0 hk=>?_
   cases Xs h0
   refine aT (Value.isInt_shape hk) λt q1=>?_;subst q1
   exact .cons _ t (ih (Nat.succ.inj hl) λj u hu=>hv (j+1) u hu)
theorem SA(ha:σ[a]? =some (.d es))(h:es.length < 64):Pr (ik .o [.r a] σ) (.r σ.length) (σ++[.l ((iP (es.map (·.1))).map .i)]):=gu.mI λZ A s μ v R I ⟨x,hx,e⟩=>by
 subst e
 refine az (I.fU a x _ hx ha) λkvs h1 h2=>?_
 obtain⟨ep,hat⟩:=h1.dictAt
 have hlen:=h2.n9
 have hm:kvs.map (·.1)=es.map (·.1):=by
  clear h1 hat hlen ha hx h
  induction h2 with
  |d8=>rfl
  |eJ k _ ih=>rw[Xw,Xw,k.1,ih]
 refine J' (ns:=es.map (·.1)) (by rw[Xk];exact h) (λR' hR=>?_) λD h' tk out n hk hn hD ho=>uW I (uM ho) hk hn hD
 refine kdu_collect (A:=A.in1) (kdl_dict (knd:=intKind Z.bK Z.VI) (kvs:=kvs) (ep:=ep) (beq_eq_false_iff_ne.mpr (I.jr a x _ hx ha rfl))) R.Wf hat (ki (by rw[<-hlen];exact Xl (Yc h) (by decide))) λh' tk acc hk hacc=>?_
 exact hR h' tk _ _ hk (Qw (by rw[Zj];exact hacc.1) λj v e=>hacc.2 j v (by rw[<-Array.getElem?_toList];exact e)) (by rw[hm])
end
set_option backward.match.sparseCases true
section
variable {w:World}{s:Shared}
theorem uZ{it t:Addr}{i:Nat}{items:Array Value}(hh:A.handled=none)(hit:s.heap.IsTupleIter it t i)(ht:s.heap.IsTuple t items)
  (hQ:∀x h',items[i]? =some x->h'.IsTupleIter it t (i+1)->Heap.SameBut it s.heap h'->Q x {s with heap:=h'})
  (hE:∀h' e,items[i]? =none->Heap.ExtBut it s.heap h'->(∃o,h'.get? it=some o)->(∃o,h'.get? e=some o/\o.cls=.type "StopIteration")->E (.ref e) {s with heap:=h'}):
  wpAny (model prog w) A (Builtin.SmallTypes.nextOf (.ref it)) Q E s:=by
 refine c8 (id hit) λo ho hc hd=>?_
 obtain⟨ol,hol,_,nl,hdl⟩:=ht
 unfold Builtin.SmallTypes.nextOf
 refine Xj (wpAny_callSpecial?_slot (name:=Str.ofString "__next__") hit.typeIs F.slot_tuple_iterator_next (YY F.slot_tuple_iterator_next hit.typeIs F.entry_tuple_iterator_next ?_ (F.args_tuple_iterator_next_1 _)))
 refine(?_:wpAny _ _ (field (.ref it) 0>>=_) _ _ s)
 refine Xj (wpAny_field ho hd (x:=.ref t) rfl ?_)
 refine(?_:wpAny _ _ (field (.ref it) 1>>=_) _ _ s)
 refine Xj (wpAny_field ho hd (x:=.int i 0) rfl ?_)
 refine(?_:wpAny _ _ (seqItems? (.ref t)>>=_) _ _ s)
 refine Xj (wpAny_seqItems hol hdl ?_)
 refine(?_:wpAny _ _ (match items[i]? with |some x=>_ |none=>_) _ _ s)
 cases hx:items[i]? with
 |some x=>
  exact Xj (wpAny_setField ho hd (by simp) (Xm (aC x rfl (Xm (hQ x _ hx ⟨_,Zu _ ho (Obj.isFreed_of_fields (Obj.data_mapFields hd _)),(Obj.cls_mapFields ..).trans hc,by rw[Obj.data_mapFields hd];rfl⟩ (Heap.SameBut.update ..))))))
 |none=>
  refine Xj (wpAny_rule (Xj (wpAny_setField ho hd (by simp) ?_)))
  refine(?_:wpAny _ _ (newExc (.type "StopIteration") []>>=_) _ _ _)
  refine Xj ?_
  simp only[newExc,newTuple]
  refine Xj (Zk ?_ (by size_fits))
  refine Xj (m:=firstArgMember _ _) (wpAny_of_eq (a:=Value.none) (by first |rfl | (simp only[firstArgMember];rfl)) ?_)
  refine Zk ?_ (by size_fits)
  unfold raiseNew
  refine Xj (wpAny_handled ?_)
  rw[show A.in1.handled=none from hh]
  exact Xj (Xm (wpAny_throw (hE _ _ hx (((Heap.SameBut.update ..).extBut.push _).push _) ⟨_,XG _ (XG _ (Zu _ ho (Obj.isFreed_of_fields (Obj.data_mapFields hd _))))⟩ (aC _ (XZ _ rfl) rfl))))
theorem Ve{a:Addr}{Q:Option Obj->Shared->Prop}(h:Q (s.heap.get? a) s):wpAny (model prog w) A (loadIfAlive a) Q E s:=λ_ _ _=>h
noncomputable abbrev pn(c:String)(vs:Array Value):Obj:={cls:=.type c,dict:=none,data:=.fields vs,slots:=#[]}
noncomputable abbrev Tk(f0:Value):Prop:=f0=.none∨∃T:Int,f0=rawInt T
theorem GY{z:Addr}{c:String}{vs:Array Value}{u:Bool}{Q:Bool->Shared->Prop}(hz:s.heap.get? z=some (pn c vs))(h0:vs[0]? =some f0)(hf:Tk f0)(h1:vs[1]? =some (.bool u))(hu:u=true->vs.setIfInBounds 1 (.bool true)=vs)
  (hT:Q true s) (hF:∀h',h'.get? z=some (pn c (vs.setIfInBounds 1 (.bool true)))->Heap.SameBut z s.heap h'->Q false {s with heap:=h'}):wpAny (model prog w) A (Builtin.SmallTypes.ownedTupleIsFree (.ref z)) Q E s:=by
 unfold Builtin.SmallTypes.ownedTupleIsFree
 refine Xj (wpAny_field hz rfl h0 ?_)
 rcases hf with rfl | ⟨T,rfl⟩
 ·exact Xm hT
 ·refine Xj (Ve ?_)
  refine(?_:wpAny _ _ (if(s.heap.get? T.toNat).isNone=true then _ else _) _ _ _)
  cases s.heap.get? T.toNat with
  |none=>exact Xm hT
  |some o=>
   refine Xj (wpAny_field hz rfl h1 ?_)
   cases u with
   |true=>exact Xj (Xm (Xm (hF _ (by rw[hu rfl];exact hz) (Heap.SameBut.refl ..))))
   |false=>exact Xj (YI hz (Array.getElem?_eq_some_iff.mp h1).1 λh' a b=>Xm (hF h' a b))
theorem Hy{z:Addr}{c:String}{vs:Array Value}(hz:s.heap.get? z=some (pn c vs))(h0:0 < vs.size)(tg:Expr)(v:Value){Q:Unit->Shared->Prop}(q:Q () s)
  (k:∀h',h'.get? z=some (pn c (vs.setIfInBounds 0 .none))->Heap.SameBut z s.heap h'->Q () {s with heap:=h'}):wpAny (model prog w) A (letOwnedTupleGo tg (.ref z) v) Q E s:=by
 have body:wpAny (model prog w) A (match((Value.ref z,v):Value×Value)with
   | (.ref r,.ref a)=>(do
    let o<-load r
    match o.cls,o.data with
    | .type n,.fields vs=>
     if ["enumerate","zip","dict_itemiterator","dict_reverseitemiterator","odict_iterator","itertools.zip_longest","itertools.pairwise"].contains n&&vs[0]? ==some (rawInt a)then
      rule "for.unpacks-the-owned-tuple"
      updateField r 0 .none
     else pure ()
    |_,_=>pure ():Sem Unit)
   |_=>pure ()) Q E s:=by
  rcases v with _ |_ |_ |_ |_ |_ |_ |_ |_ |a<;>first
   |exact Xm q
   | (
     refine Xj (wpAny_load hz ?_)
     dsimp only
     split
     ·refine Xj (wpAny_rule ?_)
      refine(?_:wpAny _ _ (setField (.ref z) 0 .none) _ _ _)
      exact YI hz h0 k
     ·exact Xm q)
 cases tg<;>first
  |exact Xm q
  |exact body
end
set_option backward.match.sparseCases false
noncomputable abbrev zO(f0:Value)(u:Bool)(TI TO:Addr):Obj:=pn "zip" #[f0,.bool u,.bool false,.ref TI,.ref TO]
structure ZS(h₀:Heap)(VX TI TO i1 i2 t1 t2:Addr)(as bs:Array Value)(h:Heap)(f0:Value)(u:Bool)(k1 k2:Nat):Prop where
 l9:∀c o,c≠VX->c≠TO->c≠i1->c≠i2->h₀.get? c=some o->h.get? c=some o
 sz:h₀.objs.size<=h.objs.size
 VX:h.get? VX=some (zO f0 u TI TO)
 pO:∃a b,IsPair h TO a b
 pI:IsPair h TI (.ref i1) (.ref i2)
 Wt:h.IsTupleIter i1 t1 k1
 Wu:h.IsTupleIter i2 t2 k2
 g1:h.IsTuple t1 as
 g2:h.IsTuple t2 bs
section
variable {w:World}{s:Shared}{h:Heap}{z:Addr}{as bs:Array Value}{x:Value}{u:Bool}{k1 k2:Nat}
theorem y8{a:Addr}{xs:Array Value}(x:h.IsTuple a xs)(k:∀o,h.get? a=some o->h'.get? a=some o):h'.IsTuple a xs:=let⟨o,ho,r⟩:=x;⟨o,k o ho,r⟩
theorem ZS.um(a:ZS h₀ z TI TO i1 i2 t1 t2 as bs h f0 u k1 k2)(D:ZipApart z TI TO i1 i2 t1 t2)(b:Heap.SameBut z h h')(c:h'.get? z=some (zO f1 u1 TI TO)):ZS h₀ z TI TO i1 i2 t1 t2 as bs h' f1 u1 k1 k2:=
 ⟨λc o p q r t e=>b.extBut c o p (a.l9 c o p q r t e),b.1▸a.sz,c,a.pO.imp λx=>Exists.imp λy=>b.extBut _ _ D.TOz,b.extBut _ _ D.TIz a.pI,a.Wt.extBut b.extBut D.i1z,a.Wu.extBut b.extBut D.i2z,a.g1.extBut b.extBut D.l1z,a.g2.extBut b.extBut D.l2z⟩
theorem ZS.EW(a:ZS h₀ z TI TO i1 i2 t1 t2 as bs h f0 u k1 k2)(D:ZipApart z TI TO i1 i2 t1 t2)(b:Heap.SameBut TO h h'){p q:Value}(c:IsPair h' TO p q):ZS h₀ z TI TO i1 i2 t1 t2 as bs h' f0 u k1 k2:=
 ⟨λc o p q r t e=>b.extBut c o q (a.l9 c o p q r t e),b.1▸a.sz,b.extBut _ _ D.TOz.symm a.VX,(xI p q c),b.extBut _ _ D.TITO a.pI,a.Wt.extBut b.extBut D.TOi1.symm,a.Wu.extBut b.extBut D.TOi2.symm,a.g1.extBut b.extBut D.l1TO,a.g2.extBut b.extBut D.l2TO⟩
theorem ZS.EU(a:ZS h₀ z TI TO i1 i2 t1 t2 as bs h f0 u k1 k2)(D:ZipApart z TI TO i1 i2 t1 t2){k:Nat}(b:Heap.SameBut i1 h h')(c:h'.IsTupleIter i1 t1 k):ZS h₀ z TI TO i1 i2 t1 t2 as bs h' f0 u k k2:=
 ⟨λc o p q r t e=>b.extBut c o r (a.l9 c o p q r t e),b.1▸a.sz,b.extBut _ _ D.i1z.symm a.VX,a.pO.imp λx=>Exists.imp λy=>b.extBut _ _ D.TOi1,b.extBut _ _ D.TIi1 a.pI,c,a.Wu.extBut b.extBut D.i12.symm,a.g1.extBut b.extBut D.l1i1,a.g2.extBut b.extBut D.l2i1⟩
theorem ZS.EV(a:ZS h₀ z TI TO i1 i2 t1 t2 as bs h f0 u k1 k2)(D:ZipApart z TI TO i1 i2 t1 t2){k:Nat}(b:Heap.SameBut i2 h h')(c:h'.IsTupleIter i2 t2 k):ZS h₀ z TI TO i1 i2 t1 t2 as bs h' f0 u k1 k:=
 ⟨λc o p q r t e=>b.extBut c o t (a.l9 c o p q r t e),b.1▸a.sz,b.extBut _ _ D.i2z.symm a.VX,a.pO.imp λx=>Exists.imp λy=>b.extBut _ _ D.TOi2,b.extBut _ _ D.TIi2 a.pI,a.Wt.extBut b.extBut D.i12,c,a.g1.extBut b.extBut D.l1i2,a.g2.extBut b.extBut D.l2i2⟩
theorem ZS.EX(a:ZS h₀ z TI TO i1 i2 t1 t2 as bs h f0 u k1 k2)(o:Obj):ZS h₀ z TI TO i1 i2 t1 t2 as bs (h.push o) f0 u k1 k2:=
 have k:∀c q,h.get? c=some q->(h.push o).get? c=some q:=λc q=>XG _
 ⟨λc o p q r t e=>k _ _ (a.l9 c o p q r t e),Xl a.sz (by rw[YZ];exact Yj _),k _ _ a.VX,a.pO.imp λx=>Exists.imp λy=>k _ _,k _ _ a.pI,a.Wt.at (k _),a.Wu.at (k _),y8 a.g1 (k _),y8 a.g2 (k _)⟩
theorem Kc{a b:Addr}{o:Obj}{vs:Array Value}(hz:h.get? a=some (pn "zip" vs))(he:h.get? b=some o)(ce:o.cls=.type "StopIteration"):b≠a:=λx=>by
 subst x
 cases hz.symm.trans he
 exact absurd (Value.type.inj ce) (by decide)
inductive ET(h₀:Heap)(z TI TO i1 i2 t1 t2:Addr)(as bs:Array Value)(j:Nat)(v:Value)(h:Heap):Prop
 |mk (x y:Value) (T:Addr) (f0:Value) (u:Bool) (e:v=.ref T) (h1:as[j]? =some x) (h2:bs[j]? =some y) (hT:h₀.get? T=none) (p:IsPair h T x y) (hf:Tk f0) (a:ZS h₀ z TI TO i1 i2 t1 t2 as bs h f0 u (j+1) (j+1))
noncomputable def zd(h:Heap)(z TO i1 i2:Addr):Prop:=(∃o,h.get? z=some o)/\(∃o,h.get? TO=some o)/\(∃o,h.get? i1=some o)/\∃o,h.get? i2=some o
theorem ZS.mY(a:ZS h₀ z TI TO i1 i2 t1 t2 as bs h f0 u k1 k2):zd h z TO i1 i2:=⟨⟨_,a.VX⟩,a.pO.elim λx q=>q.elim λy q=>⟨_,q⟩,a.Wt.imp λo q=>q.1,a.Wu.imp λo q=>q.1⟩
inductive ER(h₀:Heap)(z TO i1 i2:Addr)(as bs:Array Value)(j:Nat)(e:Addr)(h:Heap):Prop
 |mk (hn:as[j]? =none∨bs[j]? =none) (k:∀c o,c≠z->c≠TO->c≠i1->c≠i2->h₀.get? c=some o->h.get? c=some o) (lv:zd h z TO i1 i2) (x:∃o,h.get? e=some o/\o.cls=.type "StopIteration")
theorem Vi{j:Nat}(hh:A.handled=none)(D:ZipApart z TI TO i1 i2 t1 t2)(hf:Tk f0)(a:ZS h₀ z TI TO i1 i2 t1 t2 as bs s.heap f0 u j j)
  (hQ:∀v h',ET h₀ z TI TO i1 i2 t1 t2 as bs j v h'->Q v {s with heap:=h'}) (hE:∀e h',ER h₀ z TO i1 i2 as bs j e h'->E (.ref e) {s with heap:=h'}):
  wpAny (model prog w) A (Builtin.«zip.__next__» ⟨[.ref z],[]⟩) (λfin s'=>∃v,fin=.done (.ret v)/\Q v s') E s:=by
 refine(?_:wpAny _ _ (field (.ref z) 2>>=_) _ _ _)
 refine Xj (wpAny_field a.VX rfl (x:=.bool false) rfl ?_)
 refine(?_:wpAny _ _ (field (.ref z) 3>>=_) _ _ _)
 refine Xj (wpAny_field a.VX rfl (x:=.ref TI) rfl ?_)
 refine Xj (wpAny_seqItems a.pI rfl ?_)
 refine(?_:wpAny _ _ (Builtin.SmallTypes.ownedTupleIsFree (.ref z)>>=_) _ _ _)
 refine Xj (GY a.VX rfl hf rfl (λe=>by subst e;rfl) ?_ λh₁ hz₁ hs₁=>?_)
 ·simp -iota only[if_true]
  refine Xj (wpAny_rule ?_)
  refine Xj (wpAny_field a.VX rfl (x:=.ref TO) rfl ?_)
  refine Xj (YI a.VX (Nat.zero_lt_succ _) λh₁ hz₁ hs₁=>?_)
  have a₁:=a.um D hs₁ (f1:=.ellipsis) hz₁
  refine Xj ?_
  simp -iota only[List.zipIdx_cons,List.zipIdx_nil,List.forIn_cons,List.forIn_nil]
  refine Xj (Xj (wpAny_onRaise ?_))
  refine(?_:wpAny _ _ (Builtin.SmallTypes.nextOf (.ref i1)>>=_) _ _ _)
  refine Xj (uZ hh a₁.Wt a₁.g1 (λx h₂ hx r₂ hs₂=>Xm ?_) λh₂ e hx k lv ⟨oe,he,ce⟩=>?_)
  ·have a₂:=a₁.EU D hs₂ r₂
   obtain⟨p,q,pO⟩:=a₂.pO
   refine Xj (wpAny_seqItems pO rfl ?_)
   refine Xj (wpAny_updateSeq_pair pO λh₃ pO₃ hs₃=>?_)
   have a₃:=a₂.EW D hs₃ (p:=x) (q:=q) pO₃
   refine Xj (wpAny_letGo (Xm ?_))
   refine Xj (Xj (wpAny_onRaise ?_))
   refine(?_:wpAny _ _ (Builtin.SmallTypes.nextOf (.ref i2)>>=_) _ _ _)
   refine Xj (uZ hh a₃.Wu a₃.g2 (λy h₄ hy r₄ hs₄=>Xm ?_) λh₄ e hy k lv ⟨oe,he,ce⟩=>?_)
   ·have a₄:=a₃.EV D hs₄ r₄
    have pO₄:IsPair h₄ TO x q:=hs₄.extBut _ _ D.TOi2 pO₃
    refine Xj (wpAny_seqItems pO₄ rfl ?_)
    refine Xj (wpAny_updateSeq_pair pO₄ λh₅ pO₅ hs₅=>?_)
    replace pO₅:IsPair h₅ TO x y:=pO₅
    have a₅:=a₄.EW D hs₅ (p:=x) (q:=y) pO₅
    refine Xj (wpAny_letGo (Xm (Xm ?_)))
    refine Xj (wpAny_seqItems pO₅ rfl ?_)
    refine Xj (wpAny_newTuple ?_)
    have a₆:=a₅.EX {cls:=.type "tuple",data:=.seq #[x,y]}
    refine(?_:wpAny _ _ (Builtin.SmallTypes.ownedTupleHandOut (.ref z) (.ref h₅.objs.size)>>=_) _ _ _)
    refine Xj ?_
    unfold Builtin.SmallTypes.ownedTupleHandOut
    refine Xj (YI a₆.VX (Nat.zero_lt_succ _) λh₇ hz₇ hs₇=>?_)
    refine YI hz₇ (by simp) λh₈ hz₈ hs₈=>?_
    have a₇:=a₆.um D hs₇ (f1:=rawInt h₅.objs.size) hz₇
    have a₈:=a₇.um D hs₈ (f1:=rawInt h₅.objs.size) hz₈
    have ne:h₅.objs.size≠z:=YV (Ym a₅.VX)
    exact Xm (aC _ rfl (hQ _ _ ⟨x,y,_,_,_,rfl,hx,hy,my a₅.sz,hs₈.extBut _ _ ne (hs₇.extBut _ _ ne (XZ _ rfl)),.inr ⟨_,rfl⟩,a₈⟩))
   ·have hz₄:=k _ _ D.i2z.symm a₃.VX
    exact YI hz₄ (Nat.zero_lt_succ _) λh₅ hz₅ hs₅=>hE e h₅ ⟨.inr hy,λc o c1 c2 c3 c4 x=>hs₅.extBut _ _ c1 (k _ _ c4 (a₃.l9 c o c1 c2 c3 c4 x)),⟨⟨_,hz₅⟩,a₃.mY.2.1.imp λo q=>hs₅.extBut _ _ D.TOz (k _ _ D.TOi2 q),a₃.mY.2.2.1.imp λo q=>hs₅.extBut _ _ D.i1z (k _ _ D.i12 q),lv.imp λo=>hs₅.extBut _ _ D.i2z⟩,oe,hs₅.extBut _ _ (Kc hz₄ he ce) he,ce⟩
  ·have hz₂:=k _ _ D.i1z.symm a₁.VX
   exact YI hz₂ (Nat.zero_lt_succ _) λh₃ hz₃ hs₃=>hE e h₃ ⟨.inl hx,λc o c1 c2 c3 c4 x=>hs₃.extBut _ _ c1 (k _ _ c3 (a₁.l9 c o c1 c2 c3 c4 x)),⟨⟨_,hz₃⟩,a₁.mY.2.1.imp λo q=>hs₃.extBut _ _ D.TOz (k _ _ D.TOi1 q),lv.imp λo=>hs₃.extBut _ _ D.i1z,a₁.mY.2.2.2.imp λo q=>hs₃.extBut _ _ D.i2z (k _ _ D.i12.symm q)⟩,oe,hs₃.extBut _ _ (Kc hz₂ he ce) he,ce⟩
 ·have a₁:=a.um D hs₁ (u1:=true) hz₁
  simp -iota only[Zl,if_false]
  refine Xj ?_
  rw[<-Array.forIn_toList]
  simp -iota only[List.forIn_cons,List.forIn_nil]
  refine Xj (Xj (XI ?_))
  refine(?_:wpAny _ _ (Builtin.SmallTypes.nextOf (.ref i1)>>=_) _ _ _)
  refine Xj (uZ hh a₁.Wt a₁.g1 (λx h₂ hx r₂ hs₂=>Xm (Xm ?_)) λh₂ e hx k lv he=>hE e h₂ ⟨.inl hx,λc o c1 c2 c3 c4 x=>k _ _ c3 (a₁.l9 c o c1 c2 c3 c4 x),⟨⟨_,k _ _ D.i1z.symm a₁.VX⟩,a₁.mY.2.1.imp λo=>k _ _ D.TOi1,lv,a₁.mY.2.2.2.imp λo=>k _ _ D.i12.symm⟩,he⟩)
  have a₂:=a₁.EU D hs₂ r₂
  refine Xj (Xj (XI ?_))
  refine(?_:wpAny _ _ (Builtin.SmallTypes.nextOf (.ref i2)>>=_) _ _ _)
  refine Xj (uZ hh a₂.Wu a₂.g2 (λy h₃ hy r₃ hs₃=>Xm (Xm (Xm ?_))) λh₃ e hy k lv he=>hE e h₃ ⟨.inr hy,λc o c1 c2 c3 c4 x=>k _ _ c4 (a₂.l9 c o c1 c2 c3 c4 x),⟨⟨_,k _ _ D.i2z.symm a₂.VX⟩,a₂.mY.2.1.imp λo=>k _ _ D.TOi2,a₂.mY.2.2.1.imp λo=>k _ _ D.i12,lv⟩,he⟩)
  have a₃:=a₂.EV D hs₃ r₃
  refine(?_:wpAny _ _ (newTuple [x,y]>>=_) _ _ _)
  exact Xj (wpAny_newTuple (Xm (aC _ rfl (hQ _ _ ⟨x,y,_,_,_,rfl,hx,hy,my a₃.sz,XZ _ rfl,hf,a₃.EX _⟩))))
end
section
variable {s:Shared}{h:Heap}{a j:Nat}{z:Addr}{as bs:Array Value}{l xs:List V}{v:Value}
theorem Jc{u:Bool}(hh:A.handled=none)(D:ZipApart z TI TO i1 i2 t1 t2)(hf:Tk f0)(a:ZS s.heap z TI TO i1 i2 t1 t2 as bs s.heap f0 u j j){Q:Option Value->Shared->Prop}
  (hQ:∀v h',ET s.heap z TI TO i1 i2 t1 t2 as bs j v h'->Q (some v) {s with heap:=h'}) (hE:∀e h',ER s.heap z TO i1 i2 as bs j e h'->Q none {s with heap:=h'}):Wp Z A (pyNext (.ref z)) Q s:=by
 have hT:s.TypeIs (.ref z) "zip":=⟨_,a.VX,rfl⟩
 unfold pyNext
 refine Xj (wpAny_attempt (wpAny_callSpecial?_slot (name:=Str.ofString "__next__") hT F.slot_zip_next
  (YY F.slot_zip_next hT F.entry_zip_next (Vi hh D hf a (λv h' o=>Xm (hQ v h' o)) λe h' o=>?_) (F.args_zip_next_1 _))))
 refine az o.4 λo' ho hc=>?_
 exact Xj (wpAny_isInstance (T:="StopIteration") (b:=true) ⟨o',ho,hc⟩ isSubtype_stop (Xm (hE e h' o)))
theorem Ja(hT:s.TypeIs (.ref z) "zip")(h:Q (.ref z) s):Wp Z A (pyIter (.ref z)) Q s:=
 wpAny_pyIter_slot hT F.slot_zip_iter (YY F.slot_zip_iter hT F.entry_zip_iter (Xm ⟨_,rfl,"zip",_,hT,F.slot_zip_next.lookup,h⟩) (F.args_zip_iter_1 _))
theorem aU.DH(J:aU Z h μ σ)(hx:μ[a]? =some z)(hs:σ[a]? =some (.i l))(hk:∀c o,(∀j,j < 4->μ[a+j]? ≠some c)->h.get? c=some o->h'.get? c=some o)(hl:∀j b,j < 4->μ[a+j]? =some b->∃o,h'.get? b=some o)
  (hd:o'.fG=false) (hr:dk h μ h' μ->dC Z h' μ a z o'):aU Z h' μ (σ.set a o')/\dk h μ h' μ:=by
 have hlt:a < σ.length:=(XS hs).1
 have off:∀c,c∉μ->∀j,j < 4->μ[a+j]? ≠some c:=λc hc j _ e=>hc (Yi e)
 have e:dk h μ h' μ:=⟨λb o hb hn _=>hk b o (off b hn) hb,Yh _,λb hb=>.inl hb⟩
 have kp:∀k b,μ[k]? =some b->k < a∨a+3 < k->∀q,h.get? b=some q->h'.get? b=some q:=λk b hb hn q hq=>hk b q (λj hj c=>by have:=AS J.jH hb c;lia) hq
 have ax:∀i o,σ[i]? =some o->o.tS=false->i≠a->i < a∨a+3 < i:=λi o ho hn hi=>by
  by_cases c:a+1+(i - (a+1))=i/\i - (a+1) < 3
  ·refine az (J.iT a l hs _ c.2) λr h1 h2=>?_
   rw[c.1,ho]at h1;cases h1;rw[hn]at h2;cases h2
  ·exact qG4 hi c
 have it:∀i xs,σ[i]? =some (.i xs)->i≠a->∀j,j < 3->i+1+j < a∨a+3 < i+1+j:=λi xs ho hi j hj=>by
  by_cases c:i+1+(a - (i+1))=a/\a - (i+1) < 3
  ·refine az (J.iT i xs ho _ c.2) λr h1 h2=>?_
   rw[c.1,hs]at h1;cases h1;cases h2
  ·have:=ax i _ ho rfl hi;exact qG3 this hj c
 exact bm ({
   eu:=by rw[XF];exact J.eu
   jH:=J.jH
   dM:=λb q hb=>hk b q (λj hj c=>bN ((J.jG b (Yi c)).symm.trans hb)) (J.dM b q hb)
   jG:=J.jG
   iU:=λb hb=>by
    by_cases c:∃j,j < 4/\μ[a+j]? =some b
    ·refine az c ?_;clear c;intro j hj hb;exact hl j b hj hb
    ·exact(J.iU b hb).imp λq=>hk b q λj hj e=>c (aC j hj e)
   fU:=yi (M:=dC Z h' μ) hx hlt (λi y q c hy hq=>by
    cases hq':q.tS with
    |true=>cases q<;>first |exact Bool.noConfusion hq' |exact trivial
    |false=>exact(J.fU i y q hy hq).wz e (kp i y hy (ax i q hq hq' (Yp c))) λxs e' j hj b hb=>kp _ b hb (it i xs (e'▸hq) (Yp c) j hj)) (hr e)
   iT:=λi xs hq k h3=>by
    have ne:i≠a->a≠i+1+k:=λc p=>by rw[YW (Yp c)]at hq;have:=it i xs hq c k h3;exact qG2 this p
    by_cases c:i=a
    ·subst c;exact(J.iT i l hs k h3).imp λr q=>⟨by rw[YW (by exact gM iO)];exact q.1,q.2⟩
    ·have n:=ne c
     rw[YW (Yp c)]at hq
     exact(J.iT i xs hq k h3).imp λr q=>⟨by rw[YW n];exact q.1,q.2⟩
   kh:=J.kh
   jr:=yi (M:=λ_ x o=>o.fG=true->x≠sysModules) hx hlt (λj y q c hy hq=>J.jr j y q hy hq) λk=>Bool.noConfusion (hd.symm.trans k)}) e
theorem PQ(p0:P 0)(p1:P 1)(p2:P 2)(p3:P 3):∀j,j < 4->P j
 |0,_=>p0
 |1,_=>p1
 |2,_=>p2
 |3,_=>p3
 |_+4,h=>absurd h Jd
theorem HK(lv:zd h' z TO i1 i2)(hx:μ[a]? =some z)(hO:μ[a+1]? =some TO)(h1:μ[a+2]? =some i1)(h2:μ[a+3]? =some i2):∀j b,j < 4->μ[a+j]? =some b->∃o,h'.get? b=some o:=
 λj b hj=>PQ (P:=λj=>μ[a+j]? =some b->∃o,h'.get? b=some o) (λe=>Xs (hx.symm.trans e)▸lv.1) (λe=>Xs (hO.symm.trans e)▸lv.2.1) (λe=>Xs (h1.symm.trans e)▸lv.2.2.1) (λe=>Xs (h2.symm.trans e)▸lv.2.2.2) j hj
inductive NW(Z:Cx)(h:Heap)(μ:List Addr)(a:Nat)(I:Addr)(l:List V):Prop
 |mk (as bs:List Value) (ps:List (V×V)) (j:Nat) (f0:Value) (u:Bool) (TI TO i1 i2 t1 t2:Addr) (n1 n2:Nat) (D:ZipApart I TI TO i1 i2 t1 t2) (hf:Tk f0) (S:ZS h I TI TO i1 i2 t1 t2 as.toArray bs.toArray h f0 u j j)
  (hO:μ[a+1]? =some TO) (h1:μ[a+2]? =some i1) (h2:μ[a+3]? =some i2) (aI:TI∉μ) (a1:t1∉μ) (a2:t2∉μ) (g1:h.get? t1=some (j5 as n1)) (g2:h.get? t2=some (j5 bs n2))
  (r1:aR Z.KF.aF h μ (ps.map (·.1)) (((as.zip bs).drop j).map (·.1))) (r2:aR Z.KF.aF h μ (ps.map (·.2)) (((as.zip bs).drop j).map (·.2))) (e:l=ps.map λp=>.t [p.1,p.2])
theorem CT(J:aU Z h μ σ)(hx:μ[a]? =some I)(hs:σ[a]? =some (.i l)):NW Z h μ a I l:=by
 refine o8 (J.fU a I _ hx hs) λas bs ps j nn0 r1 r2 e=>?_;obtain⟨f0,u,TI,TO,i1,i2,t1,t2,n1,n2,o1,o2,hz,hf,hO,h1,h2,aI,a1,a2,pI,pO,q1,q2,g1,g2⟩:=nn0
 have n:∀{k k' b b'},μ[k]? =some b->μ[k']? =some b'->k≠k'->b≠b':=λp q c e=>c (AS J.jH p (e▸q))
 have o:∀{k b c},μ[k]? =some b->c∉μ->c≠b:=λp q e=>q (e▸Yi p)
 have z1:a+1≠a:=qR rfl
 have z2:a+2≠a:=qR rfl
 have z3:a+3≠a:=qR rfl
 exact⟨as,bs,ps,j,f0,u,TI,TO,i1,i2,t1,t2,n1,n2,⟨o hx aI,n hO hx z1,n h1 hx z2,n h2 hx z3,o hO aI,o h1 aI,o h2 aI,n hO h1 (nK rfl),n hO h2 (nK rfl),n h1 h2 (nK rfl),o hx a1,o hO a1,o h1 a1,o h2 a1,o hx a2,o hO a2,o h1 a2,o h2 a2⟩,hf,⟨λc o _ _ _ _ e=>e,Xp _,hz,(xI _ _ pO),pI,q1,q2,dJ g1,dJ g2⟩,hO,h1,h2,aI,a1,a2,g1,g2,r1,r2,e⟩
theorem KD{as bs:List Value}{x y:Value}(h1:as.toArray[j]? =some x)(h2:bs.toArray[j]? =some y):(as.zip bs).drop j=(x,y)::(as.zip bs).drop (j+1):=by
 rw[Yz]at h1 h2
 refine aT (XS (List.getElem?_zip_eq_some.mpr ⟨h1,h2⟩:(as.zip bs)[j]? =some (x,y))) λhlt e=>?_
 rw[List.drop_eq_getElem_cons hlt,e]
theorem Vg{as bs:List Value}(h:as.toArray[j]? =none∨bs.toArray[j]? =none):(as.zip bs).drop j=[]:=by
 rw[Yz,Yz,List.getElem?_eq_none_iff,List.getElem?_eq_none_iff]at h
 exact List.drop_eq_nil_iff.mpr (by rw[List.length_zip];exact qGh h)
theorem Vh(l:List V):∀(h:Heap) (μ:List Addr) (σ:aj),μ[a]? =some I->σ[a]? =some (.i l)->lT Z I [] fr (.it a xs) l h μ σ:=by
 induction l with
 |nil=>
  rintro h μ σ hx hs A s hh rfl J
  obtain⟨as,bs,ps,j,f0,u,TI,TO,i1,i2,t1,t2,n1,n2,D,hf,S,hO,h1,h2,aI,a1,a2,g1,g2,r1,r2,e⟩:=CT J hx hs
  refine Jc hh D hf S (λv h' Q=>?_) λe' h' Q=>?_
  ·obtain⟨x,y,T,f1,u1,_,x1,y1,_⟩:=Q
   rw[KD x1 y1,List.map_eq_nil_iff.mp e.symm]at r1
   exact absurd r1 (by intro c;cases c)
  ·have hk:∀c o,(∀j,j < 4->μ[a+j]? ≠some c)->s.heap.get? c=some o->h'.get? c=some o:=λc o n q=>Q.2 c o (λe=>n 0 (by decide) (e▸hx)) (λe=>n 1 (by decide) (e▸hO)) (λe=>n 2 (by decide) (e▸h1)) (λe=>n 3 (by decide) (e▸h2)) q
   have k:=J.DH (o':=.u) hx hs hk (HK Q.3 hx hO h1 h2) rfl λ_=>trivial
   exact⟨rfl,⟨rfl,rfl,rfl⟩,k.1,λb o hb hn _=>hk b o (λj _ e=>hn (Yi e)) hb,k.2⟩
 |cons V rest ih=>
  rintro h μ σ hx hs A s hh rfl J
  obtain⟨as,bs,ps,j,f0,u,TI,TO,i1,i2,t1,t2,n1,n2,D,hf,S,hO,h1,h2,aI,a1,a2,g1,g2,r1,r2,e⟩:=CT J hx hs
  rcases ps with _ | ⟨p,ps⟩
  ·cases e
  refine bc (List.cons.inj e) λq0 q1=>?_;subst q0;subst q1
  refine Jc hh D hf S (λv h' Q=>?_) λe' h' Q=>?_
  ·obtain⟨x,y,T,f1,u1,rfl,x1,y1,hT,P,hf1,S1⟩:=Q
   rw[KD x1 y1]at r1 r2
   refine cO r1 ?_;clear r1;intro _ _ e1 rx r1
   refine bc (List.cons.inj e1) λq0 q1=>?_;subst q0;subst q1
   refine cO r2 ?_;clear r2;intro _ _ e1 ry r2
   refine bc (List.cons.inj e1) λq0 q1=>?_;subst q0;subst q1
   have K:∀h' f2 u2,Tk f2->ZS s.heap I TI TO i1 i2 t1 t2 as.toArray bs.toArray h' f2 u2 (j+1) (j+1)->IsPair h' T x y->zR Z [] fr (.it a xs) _ (lT Z I [] fr (.it a xs) _) s μ (σ.set a (.i (ps.map λp=>.t [p.1,p.2]))) (.t [p.1,p.2]) (.ref T) () {s with heap:=h'}:=λh' f2 u2 hf2 S2 P2=>by
    have hk:∀c o,(∀j,j < 4->μ[a+j]? ≠some c)->s.heap.get? c=some o->h'.get? c=some o:=λc o n q=>S2.l9 c o (λe=>n 0 (by decide) (e▸hx)) (λe=>n 1 (by decide) (e▸hO)) (λe=>n 2 (by decide) (e▸h1)) (λe=>n 3 (by decide) (e▸h2)) q
    have off:∀b,b∉μ->∀j,j < 4->μ[a+j]? ≠some b:=λb hn j _ e=>hn (Yi e)
    obtain⟨q1,q2,pO⟩:=S2.pO
    have k:=J.DH (o':=.i (ps.map λp=>.t [p.1,p.2])) hx hs hk (HK S2.mY hx hO h1 h2) rfl λew=>⟨as,bs,ps,j+1,⟨f2,u2,TI,TO,i1,i2,t1,t2,n1,n2,q1,q2,S2.VX,hf2,hO,h1,h2,aI,a1,a2,S2.pI,pO,S2.Wt,S2.Wu,hk _ _ (off _ a1) g1,hk _ _ (off _ a2) g2⟩,aR.extW ew _ r1,aR.extW ew _ r2,rfl⟩
    exact⟨⟨⟨rfl,rfl,rfl⟩,k.1,λb o hb hn _=>hk b o (off b hn) hb,k.2⟩,⟨T,[x,y],_,rfl,P2,(J.eY hT).1,x,[y],rfl,rx.extW k.2,y,[],rfl,ry.extW k.2,rfl⟩,λh3 μ3 σ3 lt g J3=>ih h3 μ3 σ3 (nJ lt.tR hx) g⟩
   exact⟨_,rfl,λtg=>Hy (s:={s with heap:=h'}) (vs:=#[f1,.bool u1,.bool false,.ref TI,.ref TO]) S1.VX (Y6 4) tg _ (K h' f1 u1 hf1 S1 P) λh2 hz2 hs2=>K h2 .none u1 (.inl rfl) (S1.um D hs2 hz2) (hs2.extBut _ _ (λe=>bN (hT.symm.trans (e▸S.VX))) P)⟩
  ·refine dY r1 ?_;clear r1;intro x y e1 _
   rw[Vg Q.1]at e1
   cases e1
end
section
variable {d n:Nat}{e:Ex}{xs ys:List V}{a:Nat}
theorem zj{x:Nat}(h:Ev d n e ρ σ (.r x) σ₁)(hx:σ₁[x]? =some (.i xs))(hl:aD xs):bA d n (.e e) ρ σ (.it x xs) σ₁:=.of h λZ A s μ v R I r=>by
 refine az r ?_;clear r;intro z hz q2;subst q2
 obtain⟨as,bs,ps,j,f0,u,TI,TO,i1,i2,t1,t2,n1,n2,D,hf,S,_⟩:=CT I hz hx
 refine Ja ⟨_,S.VX,rfl⟩ ⟨z,[],μ,rfl,.oJ I,hx,λb h=>absurd h XX,.inr (Yi hz),λfr hfr h3 μ3 σ3 lt g J3=>Vh xs _ _ _ (nJ lt.tR hz) g,λs'' hk R hR=>Ja ⟨_,hk _ _ S.VX,rfl⟩ hR⟩
end
open AutoSeq1 (wpAny_loadPart')
noncomputable abbrev eO(f0:Value)(u:Bool)(it:Addr)(i:Int)(g old:Value):Obj:=pn "enumerate" #[f0,.bool u,.ref it,rawInt i,g,old]
structure ES(h₀:Heap)(V0 it t:Addr)(xs:Array Value)(h:Heap)(f0:Value)(u:Bool)(i:Int)(old:Value)(k:Nat):Prop where
 vS:∀c o,c≠V0->c≠it->h₀.get? c=some o->h.get? c=some o
 sz:h₀.objs.size<=h.objs.size
 V0:h.get? V0=some (eO f0 u it i .none old)
 WC:h.IsTupleIter it t k
 WG:h.IsTuple t xs
section
variable {w:World}{s:Shared}{h:Heap}{e it t T:Addr}{xs:Array Value}{o1 x:Value}{u:Bool}{k:Nat}{i j:Int}
theorem ES.pE(a:ES h₀ e it t xs h f0 u i old k)(n1:it≠e)(n2:t≠e)(b:Heap.SameBut e h h')(c:h'.get? e=some (eO f1 u1 it j .none o1)):ES h₀ e it t xs h' f1 u1 j o1 k:=
 ⟨λc o p q x=>b.extBut c o p (a.vS c o p q x),b.1▸a.sz,c,a.WC.extBut b.extBut n1,a.WG.extBut b.extBut n2⟩
theorem ES.K6(a:ES h₀ e it t xs h f0 u i old k)(o:Obj):ES h₀ e it t xs (h.push o) f0 u i old k:=
 have k:∀c q,h.get? c=some q->(h.push o).get? c=some q:=λc q=>XG _
 ⟨λc o p q x=>k _ _ (a.vS c o p q x),Xl a.sz (by rw[YZ];exact Yj _),k _ _ a.V0,a.WC.at (k _),y8 a.WG (k _)⟩
inductive Db(h₀:Heap)(e it t:Addr)(xs:Array Value)(k tk:Nat)(v:Value)(h:Heap):Prop
 |mk (x:Value) (T:Addr) (f0:Value) (u:Bool) (old:Value) (e1:v=.ref T) (h1:xs[k]? =some x) (hT:h₀.get? T=none) (p:IsPair h T (.int k tk) x) (hf:Tk f0) (a:ES h₀ e it t xs h f0 u ((k:Int)+1) old (k+1))
inductive Da(h₀:Heap)(it:Addr)(xs:Array Value)(k:Nat)(e:Addr)(h:Heap):Prop
 |mk (hn:xs[k]? =none) (k:∀c o,c≠it->h₀.get? c=some o->h.get? c=some o) (x:∃o,h.get? e=some o/\o.cls=.type "StopIteration")
theorem Pt(hh:A.handled=none)(n1:it≠e)(n2:t≠e)(n3:t≠it)(hf:Tk f0)(a:ES s.heap e it t xs s.heap f0 u k old k)
  (hQ:∀v h',Db s.heap e it t xs k s.toks v h'->Q v {s with heap:=h',toks:=s.toks+1}) (hE:∀x h',Da s.heap it xs k x h'->E (.ref x) {s with heap:=h'}):
  wpAny (model prog w) A (Builtin.«enumerate.__next__» ⟨[.ref e],[]⟩) (λfin s'=>∃v,fin=.done (.ret v)/\Q v s') E s:=by
 refine(?_:wpAny _ _ (field (.ref e) 2>>=_) _ _ _)
 refine Xj (wpAny_field a.V0 rfl (x:=.ref it) rfl ?_)
 refine Xj (uZ hh a.WC a.WG (λx h₁ hx r₁ hs₁=>?_) λh₁ x hx k lv he=>hE x h₁ ⟨hx,k,he⟩)
 have a₁:ES s.heap e it t xs h₁ f0 u k old (k+1):=⟨λc o _ q y=>hs₁.extBut c o q y,XW hs₁.1.symm,hs₁.extBut _ _ n1.symm a.V0,r₁,a.WG.extBut hs₁.extBut n3⟩
 refine(?_:wpAny _ _ (field (.ref e) 3>>=_) _ _ _)
 refine Xj (wpAny_field a₁.V0 rfl (x:=rawInt k) rfl ?_)
 refine(?_:wpAny _ _ (field (.ref e) 4>>=_) _ _ _)
 refine Xj (wpAny_field a₁.V0 rfl (x:=.none) rfl ?_)
 refine(?_:wpAny _ _ (mkInt k>>=_) _ _ _)
 refine Xj (wpAny_mkInt ?_)
 refine(?_:wpAny _ _ (setField (.ref e) 3 (rawInt ((k:Int)+1))>>=_) _ _ _)
 refine Xj (YI a₁.V0 (by refine(?_:3 < 6);decide) λh₂ he₂ hs₂=>?_)
 have a₂:=a₁.pE n1 n2 hs₂ (f1:=f0) (u1:=u) (j:=(k:Int)+1) (o1:=old) he₂
 refine(?_:wpAny _ _ (setField (.ref e) 4 .none>>=_) _ _ _)
 refine Xj (YI a₂.V0 (by refine(?_:4 < 6);decide) λh₃ he₃ hs₃=>?_)
 have a₃:=a₂.pE n1 n2 hs₃ (f1:=f0) (u1:=u) (j:=(k:Int)+1) (o1:=old) he₃
 refine(?_:wpAny _ _ (newTuple [.int k s.toks,x]>>=_) _ _ _)
 refine Xj (wpAny_newTuple ?_)
 have a₄:=a₃.K6 {cls:=.type "tuple",data:=.seq #[.int k s.toks,x]}
 have p₄:IsPair (h₃.push {cls:=.type "tuple",data:=.seq #[.int k s.toks,x]}) h₃.objs.size (.int k s.toks) x:=XZ _ rfl
 have ne:h₃.objs.size≠e:=YV (Ym a₃.V0)
 have hT:=my a₃.sz
 refine(?_:wpAny _ _ (Builtin.SmallTypes.ownedTupleIsFree (.ref e)>>=_) _ _ _)
 refine Xj (GY a₄.V0 rfl hf rfl (λe=>by subst e;rfl) ?_ λh₅ he₅ hs₅=>?_)
 ·simp only[if_true]
  refine Xj (wpAny_rule ?_)
  refine Xj (wpAny_field a₄.V0 rfl (x:=old) rfl ?_)
  refine Xj (YI a₄.V0 (by refine(?_:5 < 6);decide) λh₅ he₅ hs₅=>?_)
  have a₅:=a₄.pE n1 n2 hs₅ (f1:=f0) (u1:=u) (j:=(k:Int)+1) (o1:=x) he₅
  refine(?_:wpAny _ _ (Builtin.SmallTypes.ownedTupleHandOut (.ref e) (.ref h₃.objs.size)>>=_) _ _ _)
  refine Xj ?_
  unfold Builtin.SmallTypes.ownedTupleHandOut
  refine Xj (YI a₅.V0 (by refine(?_:0 < 6);decide) λh₆ he₆ hs₆=>?_)
  have a₆:=a₅.pE n1 n2 hs₆ (f1:=rawInt h₃.objs.size) (u1:=u) (j:=(k:Int)+1) (o1:=x) he₆
  refine YI a₆.V0 (by refine(?_:1 < 6);decide) λh₇ he₇ hs₇=>?_
  have a₇:=a₆.pE n1 n2 hs₇ (f1:=rawInt h₃.objs.size) (u1:=false) (j:=(k:Int)+1) (o1:=x) he₇
  exact Xj (wpAny_letGo (Xm (aC _ rfl (hQ _ _ ⟨x,_,_,_,_,rfl,hx,hT,hs₇.extBut _ _ ne (hs₆.extBut _ _ ne (hs₅.extBut _ _ ne p₄)),.inr ⟨_,rfl⟩,a₇⟩))))
 ·have a₅:=a₄.pE n1 n2 hs₅ (f1:=f0) (u1:=true) (j:=(k:Int)+1) (o1:=old) he₅
  exact Xm (aC _ rfl (hQ _ _ ⟨x,_,_,_,_,rfl,hx,hT,hs₅.extBut _ _ ne p₄,hf,a₅⟩))
theorem UB{f:_->Bool}{Q:Bool->Shared->Prop}(h:∀b,Q b s):wpAny (model prog w) A stack (λst s=>wpAny (model prog w) A (pure (f st)) Q E s) E s:=wpAny_stack_any λ_=>Xm (h _)
set_option tactic.hygienic true in
theorem Q5(t:Addr)(xs:Array Value)(n:Nat):
  Meets (Builtin.«enumerate.__new__» ⟨[.type "enumerate",.ref t],[]⟩) (λ_ R s=>s.heap.get? t=some {cls:=.type "tuple",dict:=none,data:=.seq xs n,slots:=#[]}/\
   R (.ok (.ret (.ref (s.heap.push {cls:=.type "tuple_iterator",data:=.fields #[.ref t,.int 0 0]}).objs.size)))
    {s with heap:=(s.heap.push {cls:=.type "tuple_iterator",data:=.fields #[.ref t,.int 0 0]}).push (eO .none false s.heap.objs.size 0 .none .none)}):=
 .of_wp λprog w A R s h=>by
  obtain⟨hp,g,d,tk,os⟩:=s;refine bc h ?_;clear h;intro hl h
  have hsub:=sub_enumerate
  have hL:Heap.IsTuple (Shared.heap ⟨hp,g,d,tk,os⟩) t xs:=⟨_,hl,rfl,n,rfl⟩
  wp_walk using wpAny_loadPart' hl
  refine UB λb=>?_
  cases b<;>(wp_walk using wpAny_loadPart' hl,wpAny_pyIter_tuple hL;exact aC _ rfl h)
end
section
variable {s:Shared}{h:Heap}{it t:Addr}{items:List V}{S:List Addr}{n:Nat}
theorem Jb{u:Bool}{k:Nat}{xs:Array Value}(hh:A.handled=none)(n1:it≠I)(n2:t≠I)(n3:t≠it)(hf:Tk f0)(a:ES s.heap I it t xs s.heap f0 u k old k){Q:Option Value->Shared->Prop}
  (hQ:∀v h',Db s.heap I it t xs k s.toks v h'->Q (some v) {s with heap:=h',toks:=s.toks+1}) (hE:∀e h',Da s.heap it xs k e h'->Q none {s with heap:=h'}):Wp Z A (pyNext (.ref I)) Q s:=by
 have hT:s.TypeIs (.ref I) "enumerate":=⟨_,a.V0,rfl⟩
 unfold pyNext
 refine Xj (wpAny_attempt (wpAny_callSpecial?_slot (name:=Str.ofString "__next__") hT F.slot_enumerate_next
  (YY F.slot_enumerate_next hT F.entry_enumerate_next (Pt hh n1 n2 n3 hf a (λv h' o=>Xm (hQ v h' o)) λe h' o=>?_) (F.args_enumerate_next_1 _))))
 refine az o.3 λo' ho hc=>?_
 exact Xj (wpAny_isInstance (T:="StopIteration") (b:=true) ⟨o',ho,hc⟩ isSubtype_stop (Xm (hE e h' o)))
theorem Ps{xs:List V}(hI0:Z.cS.get? I=none)(hi0:Z.cS.get? it=none)(n1:it≠I)(n2:t≠I)(n3:t≠it)(fI:I∉fr)(fi:it∉fr)(ft:t∉fr)(rest:List V):∀(k:Nat) (h:Heap) (μ:List Addr) (σ:aj) (f0 old:Value) (u:Bool),Tk f0->items.drop k=rest->ES h I it t vs.toArray h f0 u k old k->
  I∉μ->it∉μ->h.get? t=some (j5 vs n)->t∉μ->aR Z.KF.aF h μ items vs->lT Z I [I,it] fr (.bx xs) ((rest.zipIdx k).map λp=>.t [.i p.2,p.1]) h μ σ:=by
 have sol:∀{s:Shared} {μ:List Addr} {f0 old:Value} {u:Bool} {k:Nat},ES s.heap I it t vs.toArray s.heap f0 u k old k->I∉μ->it∉μ->∀b∈[I,it],b∉μ/\Z.cS.get? b=none/\∀o,s.heap.get? b=some o->gm o=false:=λ{s μ f0 old u k} a m1 m2 b hb=>by
  rcases XC hb with rfl |hb
  ·exact fy m1 hI0 (λo ho=>by cases a.V0.symm.trans ho;rfl)
  ·cases Xy hb
   refine fy m2 hi0 (λo ho=>?_)
   obtain⟨q,hq,_,hd⟩:=a.WC
   cases hq.symm.trans ho
   unfold gm;rw[hd];rfl
 have inn:∀{c:Addr},c∉[I,it]->c≠I/\c≠it:=λhc=>⟨λe=>hc (e▸Xz ..),λe=>hc (e▸XA _ (Yg rfl))⟩
 induction rest with
 |nil=>
  rintro k h μ σ f0 old u hf hk a m1 m2 gt mt r A s hh rfl J
  have hlen:=r.length
  refine Jb hh n1 n2 n3 hf a (λv h' Q=>?_) λe h' Q=>⟨rfl,tq (t:=s.toks) J (sol a m1 m2) λc q hc hq=>Q.2 c q (inn hc).2 hq⟩
  obtain⟨x,_,_,_,_,_,hx,_⟩:=Q
  rw[Yz]at hx
  have:=(XS hx).1
  have:=List.drop_eq_nil_iff.mp hk
  lia
 |cons V rest ih=>
  rintro k h μ σ f0 old u hf hk a m1 m2 gt mt r A s hh rfl J
  refine az (r.get (sh hk).1) λy hy ry=>?_
  refine Jb hh n1 n2 n3 hf a (λv h' Q=>?_) λe h' Q=>?_
  ·obtain⟨x,T,f1,u1,o1,rfl,hx,hT,P,hf1,a1⟩:=Q
   rw[Yz,hy]at hx
   cases hx
   have K:∀h' f2 u2 o2,Tk f2->ES s.heap I it t vs.toArray h' f2 u2 ((k:Int)+1) o2 (k+1)->IsPair h' T (.int k s.toks) y->zR Z [I,it] fr (.bx xs) ((rest.zipIdx (k+1)).map λp=>.t [.i p.2,p.1]) (lT Z I [I,it] fr (.bx xs) ((rest.zipIdx (k+1)).map λp=>.t [.i p.2,p.1])) s μ σ (.t [.i k,V]) (.ref T) () {s with heap:=h',toks:=s.toks+1}:=λh' f2 u2 o2 hf2 a2 P2=>by
    have st:=tq (t:=s.toks+1) J (sol a m1 m2) λc q hc hq=>a2.vS c q (inn hc).1 (inn hc).2 hq
    refine⟨st,⟨T,[.int k s.toks,y],_,rfl,P2,(J.eY hT).1,_,_,rfl,⟨_,rfl⟩,y,[],rfl,ry.extW st.ew,rfl⟩,λh3 μ3 σ3 lt g J3=>?_⟩
    have gt2:=a2.vS t _ n2 n3 gt
    obtain⟨q,hq,hcd⟩:=a2.WC
    exact ih (k+1) h3 μ3 σ3 f2 o2 u2 hf2 (sh hk).2 ⟨λ_ _ _ _ e=>e,Xp _,lt.js _ _ a2.V0 m1 fI,⟨q,lt.js _ _ hq m2 fi,hcd⟩,dJ (lt.js _ _ gt2 mt ft)⟩ (lt.lU a2.V0 m1) (lt.lU hq m2) (lt.js _ _ gt2 mt ft) (lt.lU gt2 mt) (aR.extW lt.ew _ (aR.extW st.ew _ r))
   exact⟨_,rfl,λtg=>Hy (s:={s with heap:=h',toks:=s.toks+1}) (vs:=#[f1,.bool u1,.ref it,rawInt ((k:Int)+1),.none,o1]) a1.V0 (Y6 5) tg _ (K h' f1 u1 o1 hf1 a1 P) λh2 hz2 hs2=>K h2 .none u1 o1 (.inl rfl) (a1.pE n1 n2 hs2 hz2) (hs2.extBut _ _ (λe=>bN (hT.symm.trans (e▸a.V0))) P)⟩
  ·have:=Q.1
   rw[Yz,hy]at this
   cases this
end
section
variable {d n:Nat}{e:Ex}{xs ys:List V}{a:Nat}
theorem MG(h:Ev d n e ρ σ (.t xs) σ₁)(hl:aD xs):bA d n (.n e) ρ σ (.bx (xs.zipIdx.map λp=>.t [.i p.2,p.1])) σ₁:=.zi (λL c e h=>(bV h).2) (.ah h .an) λZ A s μ vs R J r=>
 nE (M:=λvs=>Wp Z A (PySem.call (.type "enumerate") vs) _ s) r λv r1=>by
  obtain⟨x,vs,n,rfl,ha,hn,hr⟩:=d6 r1
  refine callType_new F.called_enumerate (by decide) (F.typeCall_enumerate_1 _) (F.newCall_enumerate_1 _) (λobj=>F.args_object_init_2 obj _) F.entry_enumerate_new (Q5 x vs.toArray n) ⟨ha,?_⟩
  generalize hz:(s.heap.push {cls:=.type "tuple_iterator",data:=.fields #[.ref x,.int 0 0]}).objs.size=z
  have e1:z=s.heap.objs.size+1:=hz.symm.trans (YZ ..)
  have hi:s.heap.get? s.heap.objs.size=none:=iB
  have lx:x < s.heap.objs.size:=Ym ha
  have n1:s.heap.objs.size≠z:=e1▸(XH (Za _))
  have n2:x≠z:=e1▸XH (Zr lx)
  have kp:∀b o,s.heap.get? b=some o->((s.heap.push {cls:=.type "tuple_iterator",data:=.fields #[.ref x,.int 0 0]}).push (eO .none false s.heap.objs.size 0 .none .none)).get? b=some o:=λb o q=>XG _ (XG _ q)
  have ge:((s.heap.push {cls:=.type "tuple_iterator",data:=.fields #[.ref x,.int 0 0]}).push (eO .none false s.heap.objs.size 0 .none .none)).get? z=some (eO .none false s.heap.objs.size 0 .none .none):=by rw[<-hz];exact XZ _ rfl
  have gi:((s.heap.push {cls:=.type "tuple_iterator",data:=.fields #[.ref x,.int 0 0]}).push (eO .none false s.heap.objs.size 0 .none .none)).get? s.heap.objs.size=some {cls:=.type "tuple_iterator",data:=.fields #[.ref x,.int 0 0]}:=XG _ (XZ _ rfl)
  have nz:s.heap.get? z=none:=my (e1▸Yj _)
  have hT:∀{s':Shared},s'.heap.get? z=some (eO .none false s.heap.objs.size 0 .none .none)->s'.TypeIs (.ref z) "enumerate":=λq=>⟨_,q,rfl⟩
  have self:∀{s':Shared} {R:Value->Shared->Prop},s'.heap.get? z=some (eO .none false s.heap.objs.size 0 .none .none)->R (.ref z) s'->Wp Z A (pyIter (.ref z)) R s':=λq r=>wpAny_pyIter_slot (hT q) F.slot_enumerate_iter (YY F.slot_enumerate_iter (hT q) F.entry_enumerate_iter (Xm ⟨_,rfl,"enumerate",_,hT q,F.slot_enumerate_next.lookup,r⟩) (F.args_enumerate_iter_1 _))
  have st:=iH J kp s.toks
  refine bm (hT ge) (self ge ⟨z,[z,s.heap.objs.size],μ,rfl,st,trivial,λb hb=>?_,.inl nz,λfr hfr h3 μ3 σ3 lt g J3=>?_,λs'' hk R hR=>self (hk _ _ ge) hR⟩)
  ·rcases XC hb with rfl |hb
   ·exact⟨nz,_,ge⟩
   ·cases Xy hb;exact⟨hi,_,gi⟩
  ·have fz:=qw hfr ge (.inl rfl)
   have fi:=qw hfr gi (.inr (.inl (XA _ (Yg rfl))))
   have fx:=qw hfr (kp _ _ ha) (.inr (.inr rfl))
   have gx:=lt.js _ _ (kp _ _ ha) hn fx
   exact Ps (J.eY nz).2 (J.eY hi).2 n1 n2 (XH lx) fz fi fx xs 0 _ _ _ .none .none false (.inl rfl) rfl ⟨λ_ _ _ _ e=>e,Xp _,lt.js _ _ ge (J.eY nz).1 fz,⟨_,lt.js _ _ gi (J.eY hi).1 fi,rfl,rfl⟩,dJ gx⟩ (lt.lU ge (J.eY nz).1) (lt.lU gi (J.eY hi).1) gx (lt.lU (kp _ _ ha) hn) (aR.extW lt.ew _ (aR.lh st.bJ _ hr))
end
open AutoSeq1 (wpAny_loadPart')
noncomputable abbrev eR(t:Addr):Obj:={cls:=.type "tuple_iterator",data:=.fields #[.ref t,.int 0 0]}
noncomputable abbrev zH(h:Heap)(t1 t2:Addr):Heap:=(((h.push (eR t1)).push (eR t2)).push {cls:=.type "tuple",data:=.seq #[.ref h.objs.size,.ref (h.push (eR t1)).objs.size]}).push {cls:=.type "tuple",data:=.seq #[.none,.none]}
theorem Q6(t1 t2:Addr)(xs ys:Array Value):
  Meets (Builtin.«zip.__new__» ⟨[.type "zip",.ref t1,.ref t2],[]⟩) (λ_ R s=>s.heap.IsTuple t1 xs/\s.heap.IsTuple t2 ys/\
   R (.ok (.ret (.ref (zH s.heap t1 t2).objs.size))) {s with heap:=(zH s.heap t1 t2).push (zO .none false ((s.heap.push (eR t1)).push (eR t2)).objs.size (((s.heap.push (eR t1)).push (eR t2)).push {cls:=.type "tuple",data:=.seq #[.ref s.heap.objs.size,.ref (s.heap.push (eR t1)).objs.size]}).objs.size)}):=
 .of_wp λprog w A R s h=>by
  obtain⟨hp,g,d,tk,os⟩:=s;refine cN h ?_;clear h;intro hl1 hl2 h
  have hsub:=sub_zip
  have hL1:Heap.IsTuple (Shared.heap ⟨hp,g,d,tk,os⟩) t1 xs:=hl1
  have hL2:Heap.IsTuple (Shared.heap ⟨hp.push (eR t1),g,d,tk,os⟩) t2 ys:=Heap.IsTuple.push hl2 _
  wp_walk using wpAny_pyIter_tuple hL1,wpAny_pyIter_tuple hL2
  exact aC _ rfl h
section
variable {h:Heap}{ν:List Addr}
theorem aU.Ml(I:aU Z h μ σ)(hl:ν.length=τ.length)(nd:ν.Nodup)(hx:∀b∈ν,h.get? b=none)(hk:∀b q,h.get? b=some q->h'.get? b=some q)(lv:∀b∈ν,∃q,h'.get? b=some q)
  (hr:dw h μ h' (μ++ν)->∀i x o,ν[i]? =some x->τ[i]? =some o->dC Z h' (μ++ν) (σ.length+i) x o) (ha:∀i xs,τ[i]? =some (.i xs)->∀j,j < 3->∃o,τ[i+1+j]? =some o/\o.tS=true) (hd:∀o∈τ,o.fG=false):
  aU Z h' (μ++ν) (σ++τ)/\dw h μ h' (μ++ν):=by
 have e:dw h μ h' (μ++ν):=⟨λb o hb _=>hk b o hb,Yd _ _,λb hb=>(XD hb).imp id (hx b)⟩
 have two:∀{M:Nat->Addr->O->Prop},(∀i x o,μ[i]? =some x->σ[i]? =some o->M i x o)->(∀i x o,ν[i]? =some x->τ[i]? =some o->M (σ.length+i) x o)->∀i x o,(μ++ν)[i]? =some x->(σ++τ)[i]? =some o->M i x o:=λ{M} p q i x o hx ho=>by
  rcases Nat.lt_or_ge i σ.length with c |c
  ·rw[Ye (I.eu▸c)]at hx
   rw[Ye c]at ho
   exact p i x o hx ho
  ·rw[YK (I.eu▸c),I.eu]at hx
   rw[YK c]at ho
   have:=q _ x o hx ho
   rwa [Nat.add_sub_cancel' c]at this
 refine bm (⟨by rw[Xn,Xn,I.eu,hl],List.nodup_append.mpr ⟨I.jH,nd,λa ha b hb q=>by subst q;exact(I.iU a ha).elim λo p=>bN ((hx a hb).symm.trans p)⟩,λb o hb=>hk b o (I.dM b o hb),λb hb=>(XD hb).elim (I.jG b) λq=>(I.eY (hx b q)).2,
  λb hb=>(XD hb).elim (λq=>(I.iU b q).imp λo=>hk b o) (lv b),two (M:=dC Z h' (μ++ν)) (λi x o p q=>(I.fU i x o p q).zA e (λq=>hk x q) λ_ _ _ _ b _ q=>hk b q) (hr e),λi xs hq j hj=>?_,I.kh,two (M:=λ_ x o=>o.fG=true->x≠sysModules) I.jr λi x o p q r=>Bool.noConfusion ((hd o (Yi q)).symm.trans r)⟩) e
 rcases Nat.lt_or_ge i σ.length with c |c
 ·rw[Ye c]at hq
  exact(I.iT i xs hq j hj).imp λo r=>⟨by rw[Ye (XS r.1).1];exact r.1,r.2⟩
 ·rw[YK c]at hq
  exact(ha _ xs hq j hj).imp λo r=>⟨by rw[YK (by exact Cq (d5 c)),show i+1+j - σ.length=i - σ.length+1+j by exact qG1 c];exact r.1,r.2⟩
end
section
variable {d n:Nat}{e:Ex}{xs ys:List V}{a:Nat}
theorem RZ{h:Heap}(xs:List V):∀{ys:List V} {as bs:List Value},aR cl h μ xs as->aR cl h μ ys bs->aR cl h μ ((xs.zip ys).map (·.1)) ((as.zip bs).map (·.1))/\aR cl h μ ((xs.zip ys).map (·.2)) ((as.zip bs).map (·.2)):=by
 induction xs with
 |nil=>intro ys as bs r _;obtain rfl:as=[]:=r;exact bm rfl rfl
 |cons x xs ih=>
  intro ys as bs r q
  refine cO r ?_;clear r;intro v vs q2 r1 r2;subst q2
  rcases ys with _ | ⟨y,ys⟩
  ·obtain rfl:bs=[]:=q;exact bm rfl rfl
  ·obtain⟨u,us,rfl,q1,q2⟩:=q
   exact⟨⟨v,_,rfl,r1,(ih r2 q2).1⟩,u,_,rfl,q1,(ih r2 q2).2⟩
theorem Ci:Pr (ik .z [.t xs,.t ys] σ) (.r σ.length) (σ++[.i ((xs.zip ys).map λp=>.t [p.1,p.2]),.u,.u,.u]):=λZ A s μ vs S R J r=>by
 obtain⟨_,_,rfl,r1,_,_,rfl,r2,rfl⟩:=r
 obtain⟨t1,as,n1,rfl,g1,m1,q1⟩:=d6 r1
 obtain⟨t2,bs,n2,rfl,g2,m2,q2⟩:=d6 r2
 refine callType_new F.called_zip (by decide) (F.typeCall_zip_2 _ _) (F.newCall_zip_2 _ _) (λobj=>F.args_object_init_3 obj _ _) F.entry_zip_new (Q6 t1 t2 as.toArray bs.toArray) ⟨dJ g1,dJ g2,?_⟩
 refine(?_:_/\_)
 have b1:((zH s.heap t1 t2).push (zO .none false ((s.heap.push (eR t1)).push (eR t2)).objs.size (((s.heap.push (eR t1)).push (eR t2)).push {cls:=.type "tuple",data:=.seq #[.ref s.heap.objs.size,.ref (s.heap.push (eR t1)).objs.size]}).objs.size)).get? s.heap.objs.size=some (eR t1):=
  XG _ (XG _ (XG _ (XG _ (XZ _ rfl))))
 have kp:∀c o,s.heap.get? c=some o->((zH s.heap t1 t2).push (zO .none false ((s.heap.push (eR t1)).push (eR t2)).objs.size (((s.heap.push (eR t1)).push (eR t2)).push {cls:=.type "tuple",data:=.seq #[.ref s.heap.objs.size,.ref (s.heap.push (eR t1)).objs.size]}).objs.size)).get? c=some o:=λc o x=>
  XG _ (XG _ (XG _ (XG _ (XG _ x))))
 revert b1 kp
 unfold zH
 have s2:(s.heap.push (eR t1)).objs.size=s.heap.objs.size+1:=YZ ..
 have f:∀c,s.heap.objs.size<=c->s.heap.get? c=none:=λc=>my
 generalize s.heap.push (eR t1)=H1 at s2 ⊢
 have b2:=XZ H1 (o:=eR t2) rfl
 have s3:(H1.push (eR t2)).objs.size=H1.objs.size+1:=YZ ..
 generalize H1.push (eR t2)=H2 at b2 s3 ⊢
 generalize H1.objs.size=i2 at b2 s2 s3 ⊢
 have b3:=XZ H2 (o:={cls:=.type "tuple",data:=.seq #[.ref s.heap.objs.size,.ref i2]}) rfl
 have b2:=XG {cls:=.type "tuple",data:=.seq #[.ref s.heap.objs.size,.ref i2]} b2
 have s4:(H2.push {cls:=.type "tuple",data:=.seq #[.ref s.heap.objs.size,.ref i2]}).objs.size=H2.objs.size+1:=YZ ..
 generalize H2.push {cls:=.type "tuple",data:=.seq #[.ref s.heap.objs.size,.ref i2]}=H3 at b2 b3 s4 ⊢
 generalize H2.objs.size=TI at b3 s3 s4 ⊢
 have b4:=XZ H3 (o:={cls:=.type "tuple",data:=.seq #[.none,.none]}) rfl
 have b3:=XG {cls:=.type "tuple",data:=.seq #[.none,.none]} b3
 have b2:=XG {cls:=.type "tuple",data:=.seq #[.none,.none]} b2
 have s5:(H3.push {cls:=.type "tuple",data:=.seq #[.none,.none]}).objs.size=H3.objs.size+1:=YZ ..
 generalize H3.push {cls:=.type "tuple",data:=.seq #[.none,.none]}=H4 at b2 b3 b4 s5 ⊢
 generalize H3.objs.size=TO at b4 s4 s5 ⊢
 have b5:=XZ H4 (o:=zO .none false TI TO) rfl
 have b4:=XG (zO .none false TI TO) b4
 have b3:=XG (zO .none false TI TO) b3
 have b2:=XG (zO .none false TI TO) b2
 generalize H4.push (zO .none false TI TO)=H5 at b2 b3 b4 b5 ⊢
 generalize H4.objs.size=z at b5 s5 ⊢
 intro b1 kp
 have l1:@LT.lt Nat _ t1 s.heap.objs.size:=Ym g1
 have l2:@LT.lt Nat _ t2 s.heap.objs.size:=Ym g2
 have fx:∀b∈[z,TO,s.heap.objs.size,i2],s.heap.objs.size<=b:=λb hb=>by
  simp only[Yn,XX,or_false]at hb
  exact qG5 hb s5 s4 s2 s3
 have le3:s.heap.objs.size<=TI:=qT (vi s2) (vi s3)
 have ne:∀{a b:Nat},a < b->a≠b:=λh=>XH h
 have ne':∀{a b:Nat},b < a->a≠b:=λh=>YV h
 have off:∀c,c∉μ->c≠z->c≠TO->c≠s.heap.objs.size->c≠i2->c∉μ++[z,TO,s.heap.objs.size,i2]:=λc h1 h2 h3 h4 h5 h=>by
  simp only[List.mem_append,Yn,XX,or_false]at h
  rcases h with h |h |h |h |h
  ·exact h1 h
  ·exact h2 h
  ·exact h3 h
  ·exact h4 h
  ·exact h5 h
 have K:=J.Ml (ν:=([z,TO,s.heap.objs.size,i2]:List Nat)) (τ:=[.i ((xs.zip ys).map λp=>.t [p.1,p.2]),.u,.u,.u]) (h':=H5) rfl
  (by refine(?_:@List.Nodup Nat [z,TO,s.heap.objs.size,i2]);simp only[Y9,Yn,XX,or_false,not_or,not_false_eq_true,Y5,and_true];lia)
  (λb hb=>f b (fx b hb)) kp (λb hb=>by
   simp only[Yn,XX,or_false]at hb
   rcases hb with rfl |rfl |rfl |rfl
   ·exact fA _ b5
   ·exact fA _ b4
   ·exact fA _ b1
   ·exact fA _ b2) (λe i x o hi ho=>by
   have at_:∀k b,[z,TO,s.heap.objs.size,i2][k]? =some b->(μ++[z,TO,s.heap.objs.size,i2])[σ.length+k]? =some b:=λk b hb=>by rw[YK (by rw[J.eu];exact XJ ..),J.eu,Nat.add_sub_cancel_left];exact hb
   rcases i with _ |_ |_ |_ |i
   ·cases hi;cases ho
    have p:=RZ xs q1 q2
    exact kK as bs (xs.zip ys) 0 (⟨.none,false,TI,TO,_,i2,t1,t2,n1,n2,_,_,b5,.inl rfl,at_ 1 _ rfl,at_ 2 _ rfl,at_ 3 _ rfl,off TI (J.eY (f TI le3)).1 (ne (i9 (gL s4) s5)) (ne (gL s4)) (ne' (i9 (gL s2) s3)) (ne' (gL s3)),off t1 m1 (ne (JD l1 s5 s4 s3 s2)) (ne (i9 (i9 (i9 l1 s2) s3) s4)) (ne l1) (ne (i9 l1 s2)),off t2 m2 (ne (JD l2 s5 s4 s3 s2)) (ne (i9 (i9 (i9 l2 s2) s3) s4)) (ne l2) (ne (i9 l2 s2)),b3,b4,⟨_,b1,rfl,rfl⟩,⟨_,b2,rfl,rfl⟩,kp _ _ g1,kp _ _ g2⟩) (aR.lh e _ p.1) (aR.lh e _ p.2) rfl
   ·cases ho;trivial
   ·cases ho;trivial
   ·cases ho;trivial
   ·cases ho) (λi xs h j hj=>by
   rcases i with _ |_ |_ |_ |i<;>cases h
   rcases j with _ |_ |_ |j
   ·exact aC _ rfl rfl
   ·exact aC _ rfl rfl
   ·exact aC _ rfl rfl
   ·exact Ck hj gh) (λo ho=>by
   simp only[Yn,XX,or_false]at ho
   rcases ho with rfl |rfl |rfl |rfl<;>rfl)
 exact⟨⟨_,b5,rfl⟩,_,⟨⟨rfl,rfl,rfl⟩,K.1,K.2⟩,z,by rw[YK (XW J.eu),J.eu,Nat.sub_self];rfl,rfl⟩
end
noncomputable abbrev iQ(led:Bool)(pl:Array Nat):SetTable:={SetTable.fresh 0 0 led with place:=pl}
noncomputable abbrev je(led:Bool)(es:Array (Int×Value))(pl:Array Nat)(ep:Nat):Obj:={cls:=.type "set",dict:=none,data:=.set es ep (iQ led pl),slots:=#[]}
inductive q5(prog:Program)(w:World)(es':Array (Int×Value))(pl':Array Nat):List Value->Array (Int×Value)->Array Nat->Prop
 |q6:q5 prog w es' pl' [] es' pl'
 |pz {k:Int} {t:Tok} {vs:List Value} {es es1:Array (Int×Value)} {pl pl1:Array Nat} (hL:∀led,layNew (iQ led pl) es k (.int k t)=(es1,iQ led pl1,false,false)) (hk:(intKind prog w).hash k=k) (hE:ElemsOf (intKind prog w) es.toList)
  (hn:es.toList.findIdx? (λe=>(intKind prog w).is k e.2)=none) (hs:pl.size=es.size) (h2:es.size < 2) (h3:es1.size<=2) (h4:pl1.size<=2) (r:q5 prog w es' pl' vs es1 pl1):q5 prog w es' pl' (.int k t::vs) es pl
theorem PU(h:pl.size<=2):(iQ led pl).tooFull=false:=by
 refine(?_:decide ((pl.size+0) * 5≥7 * 3)=false)
 exact XU (by lia)
theorem yp{n:Nat}(h:pl.size=n)(h2:n<=2):(iQ led pl).fits n=true:=by
 refine(?_:(pl.size==n&&decide (pl.size+0<=7))=true)
 rw[h,beq_self_eq_true,XL (by exact ja h2 rfl)];rfl
section
variable {w:World}{s:Shared}{S l:Addr}{es es1 es':Array (Int×Value)}{pl1 pl':Array Nat}{i:Nat}{k:Int}{t:Tok}{items:Array Value}
theorem NZ{Q:Bool->Shared->Prop}(ho:s.heap.get? S=some (je led es pl ep))(hL:∀led,layNew (iQ led pl) es k (.int k t)=(es1,iQ led pl1,false,false))(hk:(intKind prog w).hash k=k)(hE:ElemsOf (intKind prog w) es.toList)
  (hn:es.toList.findIdx? (λe=>(intKind prog w).is k e.2)=none) (hs:pl.size=es.size) (h2:es.size < 2) (h3:es1.size<=2) (h4:pl1.size<=2)
  (h:∀h',Heap.SameBut S s.heap h'->h'.get? S=some (je led es1 pl1 (ep+1))->Q true {s with heap:=h'}):wpAny (model prog w) A (setAddHashed S (.int k t) k) Q E s:=by
 have hf:(iQ led pl).fits es.size=true:=yp hs (qL h2)
 unfold setAddHashed setAddHashedIn
 refine XI (Xj (wpAny_setState_of ho rfl hf ?_))
 dsimp only
 rw[byScan_of rfl (Nat.lt_trans h2 (by decide)) hE]
 simp only[↓reduceIte]
 unfold setAddByScan
 refine Xj (Xj (wpAny_rule (Xj ?_)))
 have sc:=wpAny_setScan_of (A:=A) (E:=E) (knd:=intKind prog w) (adding:=true) (x:=.int k t) (intKind_is _ _ _ _) ho rfl hf hE (Q:=λm s'=>m=.absent/\s'=s) (by rw[hn];exact bm rfl rfl)
 rw[hk]at sc
 refine wpAny_mono sc (λm s' q=>?_) λ_ _ q=>q
 refine bc q ?_;clear q;intro q0 q1;subst q0;subst q1
 rw[hL]
 dsimp only
 refine Xj (Xm ?_)
 refine Xj (Xm ?_)
 simp only[↓reduceIte]
 refine Xj (wpAny_storeSet_of ho rfl ?_ (Xl h3 (by rw[sizeLine_eq];decide)))
 rw[PU h4]
 refine Xm (Xm (h _ (Heap.SameBut.update ..) ?_))
 exact Zu _ ho (by rfl)
theorem U7{R:Result->Shared->Prop}(hh:A.in1.handled=none)(r:q5 prog w es' pl' vs es pl)(hl1:l≠I)(hl2:l≠S)(hIS:I≠S):∀(i:Nat) (s:Shared) (ep:Nat),items.toList.drop i=vs->s.heap.IsListIter I l i->s.heap.IsList l items->s.heap.get? S=some (je led es pl ep)->
  (∀h' tk ep',h'.get? S=some (je led es' pl' ep')->(∀b o,b≠S->b≠I->s.heap.get? b=some o->h'.get? b=some o)->R (.ok (.ret .none)) {s with heap:=h',toks:=tk})->
  codeAny (model prog w) A (.builtin "set.update.loop" ⟨[.ref S,.ref I],[]⟩) R s:=by
 induction r with
 |q6=>
  intro i s ep hd hit hl hS hR
  refine codeAny_builtin PyProof.Rows.F.entry_set_update_loop ?_
  rw[Around.under_plainId PyProof.Rows.F.plain_set_update_loop _]
  refine(?_:wpAny _ A.in1 (pyNext (.ref I)>>=_) _ _ s)
  refine Xj (wpAny_pyNext_list_end hh hit hl (by rw[<-Array.getElem?_toList];exact List.getElem?_eq_none (List.drop_eq_nil_iff.mp hd)) λh' he=>?_)
  exact Xm (hR h' s.toks ep (he _ _ hIS.symm hS) λb o _ hb=>he b o hb)
 | @pz k t vs es es1 pl pl1 hL hk hE hn hs h2 h3 h4 r ih=>
  intro i s ep hd hit hl hS hR
  refine codeAny_builtin PyProof.Rows.F.entry_set_update_loop ?_
  rw[Around.under_plainId PyProof.Rows.F.plain_set_update_loop _]
  refine(?_:wpAny _ A.in1 (pyNext (.ref I)>>=_) _ _ s)
  have hx:items[i]? =some (.int k t):=by rw[<-Array.getElem?_toList,<-List.head?_drop,hd];rfl
  refine Xj (wpAny_pyNext_list_item hit hl hx λh1 hit1 hs1=>?_)
  refine(?_:wpAny _ A.in1 (holding [Value.int k t] (setAdd S (.int k t))>>=_) _ _ _)
  refine Xj (XI ?_)
  unfold setAdd
  refine XI ?_
  refine Xj ((intKind prog w).pyHash (k:=k) (intKind_is _ _ _ _) ?_)
  rw[hk]
  refine NZ (s:={s with heap:=h1,toks:=s.toks+1}) (hs1.extBut _ _ hIS.symm hS) hL hk hE hn hs h2 h3 h4 λh' hsb hS'=>?_
  refine Xm ⟨plainId_quiet PyProof.Rows.F.plain_set_update_loop _,ih (i+1) _ (ep+1) (by rw[<-List.tail_drop,hd];rfl) (hit1.extBut hsb.extBut hIS) ((hl.extBut hs1.extBut hl1).extBut hsb.extBut hl2) hS' λh2 tk ep' hS2 kp=>?_⟩
  exact hR h2 tk ep' hS2 λb o b1 b2 hb=>kp b o b1 b2 (hsb.extBut b o b1 (hs1.extBut b o b2 hb))
theorem OC(a:Value){Q₁:Value->Shared->Prop}
  (h:Q₁ (.ref s.heap.objs.size) {s with heap:=s.heap.push (je (!w.params.followText "set-order") #[] #[] 0)}):
  codeAny (model prog w) A (.call (.builtin "set.__new__") ⟨[.type "set",a],[]⟩) (wants Q₁ E) s:=by
 refine Zd ?_
 refine(?_:wpAny _ A.in1 (do checkBuiltinCall "set.__new__" ⟨[.type "set",a],[]⟩;again (.builtin "set.__new__" ⟨[.type "set",a],[]⟩)) _ _ s)
 refine Xj (wpAny_of_eq (F.newCall_set_1 a) (Xm ⟨plainId_quiet F.plain_set_new _,codeAny_builtin F.entry_set_new ?_⟩))
 rw[Around.under_plainId F.plain_set_new _]
 unfold Builtin.«set.__new__» Builtin.Frozenset.newClass
 have hsub:=sub_set_self
 obtain⟨hp,g,d,tk,os⟩:=s
 dsimp only
 wp_walk
 refine wpAny_askSetting (Xm ?_)
 dsimp only
 simp only[newObj]
 exact Xj (wpAny_alloc (Xm (Xm h)))
set_option maxHeartbeats 3200000 in
theorem Ov(hh:A.handled=none)(hl:s.heap.IsList l items)(r:q5 prog w es' pl' items.toList #[] #[])
  (h:∀h' tk ep,h'.get? s.heap.objs.size=some (je (!w.params.followText "set-order") es' pl' ep)->(∀b o,s.heap.get? b=some o->h'.get? b=some o)->Q (.ref s.heap.objs.size) {s with heap:=h',toks:=tk}):
  wpAny (model prog w) A (call (.type "set") [.ref l]) Q E s:=by
 obtain⟨c,tl,hmro⟩:=F.called_set.mro
 have hmade:=F.called_set.made
 have hsub:=F.called_set.sub
 refine wpAny_call (Zd ?_)
 refine(?_:wpAny _ _ (callAny (.type "set") _) _ _ _)
 refine Xm ⟨Code.quiet_builtin _ (by decide+kernel),codeAny_builtin F.entry_type_call ?_⟩
 rw[Around.under_plain (weight_type_call_type "set" [.ref l] []) rfl]
 have h1:=F.called_set.notType
 have h2:=F.called_set.canCreate
 have hct:=F.typeCall_set_1 (.ref l)
 repeat (any_goals (first |assumption |wp_step))
 refine YS (OC (.ref l) (E:=E) (Q₁:=λobj s₁=>obj=.ref s.heap.objs.size/\s₁={s with heap:=s.heap.push (je (!w.params.followText "set-order") #[] #[] 0)}) ⟨rfl,rfl⟩) λr s₁ hr=>?_
 cases r with
 |error e=>exact hr
 |ok fl=>
  cases fl with
  |ret obj=>
   refine bc hr ?_;clear hr;intro q0 q1;subst q0;subst q1
   have hS:(s.heap.push (je (!w.params.followText "set-order") #[] #[] 0)).get? s.heap.objs.size=some (je (!w.params.followText "set-order") #[] #[] 0):=XZ _ rfl
   have hT:Shared.TypeIs {s with heap:=s.heap.push (je (!w.params.followText "set-order") #[] #[] 0)} (.ref s.heap.objs.size) "set":=⟨_,hS,rfl⟩
   have hli:=F.called_set.init.lookup
   have hbi:=F.called_set.init.bind (.ref s.heap.objs.size)
   repeat (any_goals (first |assumption |wp_step))
   refine YS (codeAny_call_builtin (R:=wants (λr s₂=>r=.none/\∃h' tk ep,s₂={s with heap:=h',toks:=tk}/\h'.get? s.heap.objs.size=some (je (!w.params.followText "set-order") es' pl' ep)/\∀b o,s.heap.get? b=some o->h'.get? b=some o) E) F.called_set.init.plain F.entry_set_init (check_set_init_1 hT ?_)) λr₂ s₂ hr₂=>?_
   ·obtain⟨ol,hol,hcl,nl,hdl⟩:=hl
    obtain⟨ocls,odict,odata,oslots⟩:=ol
    simp only at hcl hdl
    subst hcl;subst hdl
    have hol':(s.heap.push (je (!w.params.followText "set-order") #[] #[] 0)).get? l=some {cls:=.type "list",dict:=odict,data:=.seq items nl,slots:=oslots}:=XG _ hol
    have hsls:=F.sub_list_set
    have hslf:=F.sub_list_frozenset
    have hne:(Value.type "list"==Value.type "dict")=false:=by decide
    have hl1:(s.heap.push (je (!w.params.followText "set-order") #[] #[] 0)).IsList l items:=⟨_,hol',rfl,nl,rfl⟩
    unfold Builtin.«set.__init__» noKeywords Builtin.Frozenset.updateFrom
    generalize hPI:pyIter=PI
    wp_walk
    subst hPI
    refine wpAny_pyIter_list hl1 ?_
    refine Xj (wpAny_runValue ?_)
    have hlS:@LT.lt Nat _ l s.heap.objs.size:=Ym hol
    have zS:(s.heap.push (je (!w.params.followText "set-order") #[] #[] 0)).objs.size=s.heap.objs.size+1:=YZ ..
    refine U7 (by simp[hh]) r (XH (by rw[zS];exact d5 hlS)) (XH hlS) (YV (by rw[zS];exact pi)) 0 _ 0 rfl ⟨_,XZ _ rfl,rfl,rfl⟩ (hl1.push _) (XG _ hS) λh' tk ep hS' kp=>?_
    refine(?_:wpAny _ _ _ _ _ _)
    refine Xm ?_
    refine(?_:wpAny _ _ (ret Value.none) _ _ _)
    exact Xm ⟨rfl,h',tk,ep,rfl,hS',λb o hb=>kp b o (XH (Ym hb)) (XH (by rw[zS];exact Zr (Ym hb))) (XG _ (XG _ hb))⟩
   ·cases r₂ with
    |error e=>exact hr₂
    |ok fl₂=>
     cases fl₂ with
     |ret r=>
      obtain⟨rfl,h',tk,ep,rfl,hS',hk'⟩:=hr₂
      repeat (any_goals (first |assumption |wp_step))
      exact h _ _ _ hS' hk'
     |_=>exact hr₂.elim
  |_=>exact hr.elim
end
theorem yl:Slot "set_iterator" "__next__" "set_iterator.__next__":=
 .of (owner:="set_iterator") (n:="__next__") (by rw[typeLookup_type,builtinLookup_eq_fast];kernel_rfl) (by decide+kernel) (by decide+kernel) (by decide+kernel) (by first |exact .inl (by decide+kernel) |exact .inr (by decide+kernel)) (by rw[isSubtype_type];kernel_rfl)
theorem Pq:entryFor table "set_iterator.__next__"=some Builtin.«set_iterator.__next__»:=entryFor_of_tree (by kernel_rfl)
theorem ID:Manifest.owners.lookup (String.ofList ['r','o','t','a','r','e','t','i','_','t','e','s'].reverse)=some Manifest.sig_set_iterator:=by kernel_rfl
theorem Ob(a:Value):argsOk "set_iterator.__next__" ⟨[a],[]⟩:=by
 unfold argsOk;rw[signature?_of (id:="set_iterator.__next__") (n:=['_','_','t','x','e','n','_','_']) (o:=['r','o','t','a','r','e','t','i','_','t','e','s']) (by kernel_rfl) ID];kernel_rfl
theorem Pn:entryFor table "set.__iter__"=some Builtin.«frozenset.__iter__»:=entryFor_alias (id':="frozenset.__iter__") (by kernel_rfl) rfl (by decide+kernel) (by kernel_rfl)
noncomputable abbrev qm(w:World):Bool:=w.params.followText "set-order"
noncomputable def nP(pl:Array Nat):Nat->Nat
 |0=>0
 |i+1=>(pl[i]?.getD 0)+1
noncomputable def kS(w:World)(pl:Array Nat)(i:Nat):Nat:=if qm w=true then 0 else nP pl i
noncomputable def lG(w:World)(d:Addr)(ep:Nat)(es:Array (Int×Value)):Array (Int×Value):=if qm w=true then pickOrder (w.params.setOrder d ep) es else es
noncomputable abbrev yj(c i:Nat)(d:Addr)(n ep:Nat):Obj:=pn "set_iterator" #[rawInt c,rawInt i,.ref d,rawInt n,rawInt ep]
structure SW(w:World)(d:Addr)(es:Array (Int×Value))(pl:Array Nat)(ep:Nat):Prop where
 sz:pl.size=es.size
 le:es.size<=2
 Nj:∀i,i<=pl.size->SetTable.below pl (nP pl i)=i
 wE:(lG w d ep es).size=es.size
section
variable {w:World}{s:Shared}{d:Addr}{es:Array (Int×Value)}{i:Nat}
noncomputable abbrev vy(w:World)(h:Heap)(d:Addr)(es:Array (Int×Value))(pl:Array Nat)(ep:Nat):Prop:=h.get? d=some (je (!qm w) es pl ep)
theorem VH{b:Bool}(h:(!b&&(!(iQ led pl).plain&&decide (es.size > 1)))=true):False:=by
 rw[show(!(iQ led pl).plain)=false from rfl,Bool.false_and,Bool.and_false]at h;exact Yy h
theorem Uh(W:SW w d es pl ep)(hS:vy w s.heap d es pl ep){Q:Option (Value×Nat)->Shared->Prop}(hi:i<=es.size)
  (q:Q (((lG w d ep es)[i]?).map λe=>(e.2,kS w pl (i+1))) s):wpAny (model prog w) A (setNext d (kS w pl i) i ep) Q E s:=by
 have hf:(iQ (!qm w) pl).fits es.size=true:=yp W.sz W.le
 unfold setNext
 refine Xj (wpAny_setState_of hS rfl hf ?_)
 unfold setsByText
 refine Xj (Xj (wpAny_askSetting (Xm ?_)))
 dsimp only
 have ho:=W.wE
 unfold lG kS at q
 unfold kS
 cases hb:qm w with
 |true=>
  rw[hb]at q
  rw[show(model prog w).w.params.followText "set-order"=true from hb]
  simp -iota only[if_true,bne_self_eq_false,Zl,if_false]
  refine Xj ?_
  unfold setWalk
  refine Xj (wpAny_setState_of hS rfl hf ?_)
  unfold setsByText
  refine Xj (Xj (wpAny_askSetting (Xm ?_)))
  rw[show(model prog w).w.params.followText "set-order"=true from hb]
  simp -iota only[if_true]
  exact Xj (wpAny_askSetting (Xm (Xm q)))
 |false=>
  rw[hb]at q
  rw[show(model prog w).w.params.followText "set-order"=false from hb]
  simp -iota only[Zl,if_false]
  refine wpAny_ite_split (λh=>bE h) λ_=>?_
  refine Xj ?_
  refine(?_:wpAny _ _ (if(!(iQ (!false) pl).led&& !es.isEmpty)=true then _ else _) _ _ _)
  refine wpAny_ite_split (λh=>bE h) λ_=>Xm (Xm ?_)
  rw[W.Nj i (W.sz▸hi)]
  simp -iota only[Zl,if_false]at q
  rcases Nat.lt_or_ge i es.size with c |c
  ·have c':i < pl.size:=W.sz▸c
   rw[Zv c]at q ⊢
   rw[Zv c']
   simp -iota only[show nP pl (i+1)=(pl[i]?.getD 0)+1 from rfl]at q
   rw[Zv c']at q
   exact q
  ·rw[Array.getElem?_eq_none c]at q ⊢
   exact q
theorem J4(W:SW w d es pl ep)(hS:vy w s.heap d es pl ep)(hI:s.heap.get? I=some (yj (kS w pl i) i d es.size ep))(hi:i<=es.size)(hh:A.handled=none){Q:Option Value->Shared->Prop}
  (hQ:∀e h',(lG w d ep es)[i]? =some e->h'.get? I=some (yj (kS w pl (i+1)) (i+1) d es.size ep)->Heap.SameBut I s.heap h'->Q (some e.2) {s with heap:=h'})
  (hE:∀h',(lG w d ep es)[i]? =none->Heap.ExtBut I s.heap h'->Q none {s with heap:=h'}):wpAny (model prog w) A (pyNext (.ref I)) Q E s:=by
 have hf:(iQ (!qm w) pl).fits es.size=true:=yp W.sz W.le
 have hT:s.TypeIs (.ref I) "set_iterator":=⟨_,hI,rfl⟩
 unfold pyNext
 refine Xj (wpAny_attempt (wpAny_callSpecial?_slot (name:=Str.ofString "__next__") hT yl (YY yl hT Pq ?_ (Ob _))))
 refine(?_:wpAny _ _ (fieldsOf (.ref I)>>=_) _ _ _)
 refine Xj (wpAny_fieldsOf hI rfl ?_)
 refine(?_:wpAny _ _ (setEntries d>>=_) _ _ _)
 refine Xj (wpAny_setEntries_of hS rfl hf ?_)
 simp -iota only[bne_self_eq_false,Zl,if_false]
 refine Xj ?_
 refine(?_:wpAny _ _ (setNext d (Int.toNat (kS w pl i:Nat)) (Int.toNat (i:Nat)) (Int.toNat (ep:Nat))) _ _ _)
 rw[Int.toNat_natCast,Int.toNat_natCast,Int.toNat_natCast]
 refine Uh W hS hi ?_
 cases ho:(lG w d ep es)[i]? with
 |some e=>
  refine(?_:wpAny _ _ (setField (.ref I) 0 (rawInt (kS w pl (i+1)))>>=_) _ _ _)
  refine Xj (YI hI (Y6 4) λh1 h1' s1=>?_)
  refine Xj (YI h1' (by refine(?_:1 < 5);decide) λh2 h2' s2=>?_)
  exact Xm (aC _ rfl (Xm (hQ e h2 ho h2' (s1.trans s2))))
 |none=>
  refine(?_:wpAny _ _ (setField (.ref I) 2 .none>>=_) _ _ _)
  refine Xj (YI hI (by refine(?_:2 < 5);decide) λh1 h1' s1=>?_)
  refine(?_:wpAny _ _ (newExc (.type "StopIteration") []>>=_) _ _ _)
  refine Xj ?_
  simp -iota only[newExc,newTuple]
  refine Xj (Zk ?_ (by size_fits))
  refine Xj (m:=firstArgMember _ _) (wpAny_of_eq (a:=Value.none) (by first |rfl | (simp -iota only[firstArgMember];rfl)) ?_)
  refine Zk ?_ (by size_fits)
  unfold raiseNew
  refine Xj (wpAny_handled ?_)
  rw[show A.in1.handled=none from hh]
  refine Xj (Xm (wpAny_throw ?_))
  refine Xj (wpAny_isInstance (T:="StopIteration") (b:=true) ⟨_,XZ _ rfl,rfl⟩ isSubtype_stop ?_)
  exact Xm (hE _ ho ((s1.extBut.push _).push _))
theorem SY(W:SW w d es pl ep)(hS:vy w s.heap d es pl ep)(q:Q (.ref s.heap.objs.size) {s with heap:=s.heap.push (yj (kS w pl 0) 0 d es.size ep)}):wpAny (model prog w) A (pyIter (.ref d)) Q E s:=by
 have hf:(iQ (!qm w) pl).fits es.size=true:=yp W.sz W.le
 have hT:s.TypeIs (.ref d) "set":=⟨_,hS,rfl⟩
 have c0:kS w pl 0=0:=by unfold kS nP;split<;>rfl
 rw[c0]at q
 refine wpAny_pyIter_slot hT F.slot_set_iter (YY F.slot_set_iter hT Pn ?_ (F.args_set_iter_1 _))
 refine(?_:wpAny _ _ (Builtin.Frozenset.sizeOf d>>=_) _ _ _)
 refine Xj (Xj (wpAny_setEntries_of hS rfl hf (Xm ?_)))
 refine Xj ?_
 unfold setDrawn
 refine Xj (wpAny_setState_of hS rfl hf ?_)
 unfold setsByText
 refine Xj (Xj (wpAny_askSetting (Xm (Xm ?_))))
 refine wpAny_ite_split (λh=>absurd h (by intro h;exact bE (YF h).2)) λ_=>Xj (Xm ?_)
 refine Xj (wpAny_setEpoch_of hS rfl hf ?_)
 exact Xj (Zk (Xm ⟨_,rfl,"set_iterator",_,⟨_,XZ _ rfl,rfl⟩,yl.lookup,q⟩))
end
theorem J5:Slot "set_iterator" "__iter__" "set_iterator.__iter__":=
 .of (owner:="set_iterator") (n:="__iter__") (by rw[typeLookup_type,builtinLookup_eq_fast];kernel_rfl) (by decide+kernel) (by decide+kernel) (by decide+kernel) (by first |exact .inl (by decide+kernel) |exact .inr (by decide+kernel)) (by rw[isSubtype_type];kernel_rfl)
theorem Po:entryFor table "set_iterator.__iter__"=some Builtin.«dict_keyiterator.__iter__»:=entryFor_alias (id':="dict_keyiterator.__iter__") (by kernel_rfl) (by first |rfl |decide+kernel | (unfold String.splitOn;simp+decide [String.splitOnAux])) (by decide+kernel) (by kernel_rfl)
theorem Oa(a:Value):argsOk "set_iterator.__iter__" ⟨[a],[]⟩:=by
 unfold argsOk;rw[signature?_of (id:="set_iterator.__iter__") (n:=['_','_','r','e','t','i','_','_']) (o:=['r','o','t','a','r','e','t','i','_','t','e','s']) (by kernel_rfl) ID];kernel_rfl
section
variable {w:World}{s:Shared}{d:Addr}{es:Array (Int×Value)}{i:Nat}
theorem P4{r:Addr}{Q:Bool->Shared->Prop}(hT:s.TypeIs (.ref r) "set")(h:Q false s):wpAny (model prog w) A (Builtin.List.listLengthHint (.ref r)) Q E s:=by
 unfold Builtin.List.listLengthHint
 refine Xj (wpAny_specialOf hT PySem.F.slot_set_len.lookup ?_)
 generalize hid:("set.__len__":String)=id0
 wp_delta
 rw[show splitId id0=some ("set","__len__") from by subst hid;decide+kernel]
 subst hid
 refine Xj (wpAny_isInstance (T:="set") (b:=true) hT sub_set_self ?_)
 refine wpAny_ite_split (λhab=>absurd hab (by decide)) (λ_=>?_)
 refine wpAny_ite_split (λ_=>?_) (λhab=>absurd (by decide+kernel) hab)
 exact Xj (wpAny_typeOf hT (Xm h))
theorem Vb(W:SW w d es pl ep)(hh:A.handled=none)(hne:d≠I):Walks prog w A I [I,d] [I] es.size (λi v=>∃e,(lG w d ep es)[i]? =some e/\v=e.2) (λi h=>vy w h d es pl ep/\h.get? I=some (yj (kS w pl i) i d es.size ep)) where
 sub:=λb hb=>List.mem_cons.mpr (.inl (Xy hb))
 frame:=λi h h' st hk=>⟨hk d (XA _ (Yg rfl)) _ st.1,hk I (Xz ..) _ st.2⟩
 item:=λi s Q E hi st hQ=>J4 W st.1 st.2 (Yc hi) hh (λe h' ho hI sb=>hQ _ h' s.toks ⟨e,ho,rfl⟩ ⟨sb.extBut _ _ hne st.1,hI⟩ λb o hb q=>sb.extBut b o (λx=>hb (Yg x)) q)
  λh' ho _=>absurd ho (by rw[Zv (W.wE▸hi)];exact λc=>bN c.symm)
 done:=λs Q E st hQ=>J4 W st.1 st.2 (Xp _) hh (λe h' ho _ _=>absurd ho (by rw[Array.getElem?_eq_none (XW W.wE)];exact λc=>bN c))
  λh' _ eb=>hQ h' s.toks λb o hb q=>eb b o (λx=>hb (Yg x)) q
 self:=λi s Q E st q=>wpAny_pyIter_slot (T:="set_iterator") ⟨_,st.2,rfl⟩ J5 (YY J5 ⟨_,st.2,rfl⟩ Po (Xm ⟨_,rfl,"set_iterator",_,⟨_,st.2,rfl⟩,yl.lookup,q⟩) (Oa _))
theorem Up(W:SW w d es pl ep):KdlSrc prog w "set" d d es.size (λi v=>∃e,(lG w d ep es)[i]? =some e/\v=e.2) (λh=>vy w h d es pl ep) where
 type:=λ_ h=>⟨_,h,rfl⟩
 there:=λ_ h=>⟨Ym h,Ym h⟩
 keep:=λ_ _ h hk=>hk d (.inl rfl) _ h
 notList:=by decide
 notTuple:=by decide
 hint:=λ_ _ _ _ h q=>P4 ⟨_,h,rfl⟩ q
 iter:=λ_ _ hh h=>⟨_,_,λ_ _ q=>SY W h q,Vb W hh (XH (Ym h)),XG _ h,XZ _ rfl⟩
theorem Sa(f:Nat->Nat):∀(n k:Nat) (l:List α) (out:Array α),l.length<=n->(pickOrder.go f n k l out).toList.Perm (out.toList++l):=by
 intro n
 induction n with
 |zero=>intro k l out h;rw[Zf (Nat.le_zero.mp h),Yb];exact .refl _
 |succ n ih=>
  intro k l out h
  refine(?_:(match l[f k % l.length]? with |some x=>pickOrder.go f n (k+1) (l.eraseIdx (f k % l.length)) (out.push x) |none=>out).toList.Perm _)
  rcases l with _ | ⟨x,l⟩
  ·rw[Yb];exact .refl _
  ·have hr:f k % (x::l).length < (x::l).length:=Nat.mod_lt _ (Y6 _)
   rw[Yo hr]
   refine(ih (k+1) _ _ (by rw[List.length_eraseIdx,Xr hr];exact Nat.sub_le_of_le_add h)).trans ?_
   rw[Array.toList_push,XM]
   refine List.Perm.append_left _ ?_
   generalize f k % (x::l).length=r at hr ⊢
   generalize x::l=m at hr ⊢
   rw[List.eraseIdx_eq_take_drop_succ]
   refine(List.perm_middle (l₁:=m.take r)).symm.trans ?_
   rw[<-List.drop_eq_getElem_cons hr,List.take_append_drop]
theorem IC:(lG w d ep es).toList.Perm es.toList:=by
 unfold lG
 split
 ·exact Sa _ _ _ _ _ (XW (by rw[Zj]))
 ·exact .refl _
theorem Qc{l1 l2:List Value}(p:l1.Perm l2):∀{ms:List Int},IntsAre l2 ms->∃ns,IntsAre l1 ns/\ns.Perm ms:=by
 induction p with
 |nil=>exact λh=>aC _ h (.refl _)
 |cons x _ ih=>
  intro ms h
  cases h with
  |cons n t h=>refine az (ih h) λns a b=>?_;exact aC _ (.cons n t a) (b.cons _)
 |swap x y l=>
  intro ms h
  cases h with
  |cons n t h=>cases h with
   |cons m u h=>exact aC _ (.cons m u (.cons n t h)) (.swap ..)
 |trans _ _ ih1 ih2=>
  intro ms h
  refine az (ih2 h) λns a b=>?_
  refine az (ih1 a) λks c e=>?_
  exact aC ks c (e.trans b)
inductive LU(prog:Program)(w:World)(vs:List Value)(is:List Int):Prop
 |mk (es:Array (Int×Value)) (pl:Array Nat) (ms:List Int) (a:q5 prog w es pl vs #[] #[]) (W:∀d ep,SW w d es pl ep) (h:IntsAre (es.toList.map (·.2)) ms) (p:ms.Perm (oQ is))
theorem vA(h1:pl.size=es.size)(h2:es.size<=2)(h3:∀i,i<=pl.size->SetTable.below pl (nP pl i)=i)(d:Addr)(ep:Nat):SW w d es pl ep:=⟨h1,h2,h3,by rw[<-Zj,IC.length_eq,Zj]⟩
theorem Kq(p0:P 0)(p1:P 1)(p2:P 2):∀j,j<=2->P j
 |0,_=>p0
 |1,_=>p1
 |2,_=>p2
 |_+3,h=>absurd h (Jh rfl)
theorem pw(p0:P 0)(p1:P 1):∀j,j<=1->P j
 |0,_=>p0
 |1,_=>p1
 |_+2,h=>absurd h (Jh rfl)
theorem IA{k:Int}{t:Tok}(hk:(intKind prog w).hash k=k):ElemsOf (intKind prog w) (#[(k,Value.int k t)]:Array (Int×Value)).toList:=λe he=>by
 obtain rfl:=Xy he
 exact bm (aC k (intKind_is _ _ _ _) hk.symm) rfl
theorem xO:ElemsOf (intKind prog w) (#[]:Array (Int×Value)).toList:=λe he=>absurd he XX
theorem PZ{is:List Int}(h:IntsAre vs is)(hb:is∈([[],[0],[1],[0,1],[1,0]]:List (List Int))):LU prog w vs is:=by
 have h0:(intKind prog w).hash 0=0:=by kernel_rfl
 have h1:(intKind prog w).hash 1=1:=by kernel_rfl
 simp only[Yn,XX,or_false]at hb
 rcases hb with rfl |rfl |rfl |rfl |rfl
 ·cases h
  exact⟨#[],#[],[],.q6,vA rfl (by decide) λi hi=>by cases Nat.le_zero.mp hi;rfl,.nil,.refl _⟩
 ·cases h with |cons _ t h=>cases h;exact⟨#[(0,.int 0 t)],#[0],[0],.pz (es1:=#[(0,.int 0 t)]) (pl1:=#[0]) (λled=>by kernel_rfl) h0 xO rfl rfl (Y6 1) (Yj 1) (Yj 1) .q6,vA rfl (Yj 1) (pw (P:=λi=>SetTable.below #[0] (nP #[0] i)=i) rfl rfl),.cons 0 t .nil,.refl _⟩
 ·cases h with |cons _ t h=>cases h;exact⟨#[(1,.int 1 t)],#[1],[1],.pz (es1:=#[(1,.int 1 t)]) (pl1:=#[1]) (λled=>by kernel_rfl) h1 xO rfl rfl (Y6 1) (Yj 1) (Yj 1) .q6,vA rfl (Yj 1) (pw (P:=λi=>SetTable.below #[1] (nP #[1] i)=i) rfl rfl),.cons 1 t .nil,.refl _⟩
 ·cases h with |cons _ t h=>cases h with |cons _ u h=>cases h;exact⟨#[(0,.int 0 t),(1,.int 1 u)],#[0,1],[0,1],.pz (es1:=#[(0,.int 0 t)]) (pl1:=#[0]) (λled=>by kernel_rfl) h0 xO rfl rfl (Y6 1) (Yj 1) (Yj 1) (.pz (es1:=#[(0,.int 0 t),(1,.int 1 u)]) (pl1:=#[0,1]) (λled=>by kernel_rfl) h1 (IA h0) rfl rfl (Za 1) (Xp 2) (Xp 2) .q6),vA rfl (Xp 2) (Kq (P:=λi=>SetTable.below #[0,1] (nP #[0,1] i)=i) rfl rfl rfl),.cons 0 t (.cons 1 u .nil),.refl _⟩
 ·cases h with |cons _ t h=>cases h with |cons _ u h=>cases h;exact⟨#[(0,.int 0 u),(1,.int 1 t)],#[0,1],[0,1],.pz (es1:=#[(1,.int 1 t)]) (pl1:=#[1]) (λled=>by kernel_rfl) h1 xO rfl rfl (Y6 1) (Yj 1) (Yj 1) (.pz (es1:=#[(0,.int 0 u),(1,.int 1 t)]) (pl1:=#[0,1]) (λled=>by kernel_rfl) h0 (IA h1) rfl rfl (Za 1) (Xp 2) (Xp 2) .q6),vA rfl (Xp 2) (Kq (P:=λi=>SetTable.below #[0,1] (nP #[0,1] i)=i) rfl rfl rfl),.cons 0 u (.cons 1 t .nil),.swap ..⟩
end
section
variable {xs:List V}{a:Nat}
theorem SB(ha:σ[a]? =some (.l xs)){is:List Int}(hi:jy xs=some is)(hb:is∈([[],[0],[1],[0,1],[1,0]]:List (List Int))):J9 (.r a) σ (.r σ.length) (σ++[.l ((iP (oQ is)).map .i)]):=λZ A s μ v R I r=>by
 obtain⟨x,vs,n,hx,rfl,hl,hr⟩:=iA I r ha
 obtain⟨es,pl,ms,ad,W,hm,hp⟩:=PZ (prog:=Z.bK) (w:=Z.VI) (xu xs hr hi) hb
 refine Ov R.Wf (items:=vs.toArray) (dX hl) ad λh1 tk ep hS kp=>⟨λb o hb=>kp b o (I.dM b o hb),?_⟩
 have st:br Z s μ {s with heap:=h1,toks:=tk} μ σ:=iH I kp tk
 have W:=W s.heap.objs.size ep
 have hlen:es.size=(oQ is).length:=by rw[<-hp.length_eq,<-hm.length,Xk,Zj]
 refine lA st (J' (ns:=oQ is) (by rw[<-hlen];exact YB W.le (by decide)) (λR' hR=>?_) λD h' tk' out n hk hn hD ho=>uW st.eN (uM ho) hk hn hD)
 refine kdu_collect (A:=A.in1) (Up W) R.Wf hS (Xl W.le (by rw[sizeLine_eq];decide)) λh' tk' acc hk hacc=>?_
 have e:acc.toList=(lG Z.VI s.heap.objs.size ep es).toList.map (·.2):=List.ext_getElem? λj=>by
  rw[Array.getElem?_toList,Ys,Array.getElem?_toList]
  rcases Nat.lt_or_ge j acc.size with c |c
  ·refine az (hacc.2 j _ (Zv c)) λe h1 h2=>?_
   rw[h1,Zv c,h2];rfl
  ·rw[Array.getElem?_eq_none c,Array.getElem?_eq_none (by rw[W.wE,<-hacc.1];exact c)];rfl
 refine az (Qc (l1:=acc.toList) (by rw[e];exact IC.map _) hm) λns h1 h2=>?_
 exact hR h' tk' _ ns hk h1 (h2.trans hp)
end
section
variable {σ σ' τ:List α}{l:List α}{a b i j k:Nat}{o o':α}
theorem kA(σ l:List α)(k:Nat):(σ++l)[σ.length+k]? =l[k]?:=by rw[YK (XJ ..),Nat.add_sub_cancel_left]
theorem lB(σ l:List α):(σ++l)[σ.length]? =l[0]?:=kA σ l 0
theorem bO(σ l:List α)(h:σ[i]? =some o):(σ++l)[i]? =some o:=(Ye (XS h).1).trans h
theorem wS(σ l:List α)(k:Nat)(o:α):(σ++l).set (σ.length+k) o=σ++l.set k o:=by rw[List.set_append_right (h:=XJ ..),Nat.add_sub_cancel_left]
theorem uu(σ l:List α)(o:α):(σ++l).set σ.length o=σ++l.set 0 o:=wS σ l 0 o
end
theorem bw(ρ:aA)(i:Nat)(v:V):au ρ i v i=some v:=Xr rfl
theorem bR(ρ:aA){i j:Nat}(v:V)(h:j≠i):au ρ i v j=ρ j:=Xv h
section
variable {a b i:Nat}{xs ys:List V}{o:O}
theorem aX:(σ++[o])[σ.length]? =some o:=lB σ [o]
theorem iz{l:aj}(h:τ <+:σ):τ <+:σ++l:=h.trans (Yd _ _)
theorem cR(h:σ[a]? =some o):(σ.set a o')[a]? =some o':=Zq (XS h).1
theorem aV(hn:a≠b):(σ.set a o')[b]? =σ[b]?:=YW hn
theorem pq{l:aj}(h:a < σ.length):(σ++l).set a o=σ.set a o++l:=List.set_append_left _ _ h
theorem eI(h:σ[a]? =some (.l xs))(hm:mf 1 i=true):mf (iw σ (.r a)) i=true:=by rw[uT h];exact hm
theorem sJ(h:σ[a]? =some o)(hd:o.fG=true)(hm:mf 2 i=true):mf (iw σ (.r a)) i=true:=by rw[qA h hd];exact hm
theorem uS(h:σ[a]? =some (.l xs))(h2:σ'[a]? =some (.l ys)):iw σ (.r a)=iw σ' (.r a):=by rw[uT h,uT h2]
theorem Bs(h:σ[a]? =some o)(hd:o.fG=true)(h2:σ'[a]? =some o')(hd2:o'.fG=true):iw σ (.r a)=iw σ' (.r a):=by rw[qA h hd,qA h2 hd2]
theorem Ao(ha:σ[a]? =some (.l xs))(hb:σ[b]? =some (.l [])):gW σ .e (.r a) (.r b)=some xs.isEmpty:=by
 refine(?_:oU σ (.r a) (.r b)=_)
 unfold oU
 rw[HF ha,HF hb]
end
variable {ns:List Str}
theorem HT(hn:ns.Nodup):∀{vs:List Value} (i:Nat) (n:Str) (v:Value),ns[i]? =some n->vs[i]? =some v->(ns.zip vs).lookup n=some v:=by
 induction ns with
 |nil=>exact λi n v h=>bN h
 |cons m ns ih=>
  intro vs i n v h1 h2
  rcases vs with _ | ⟨u,vs⟩
  ·exact bN h2
  ·rw[List.zip_cons_cons,List.lookup_cons]
   rcases i with _ |i
   ·cases Xs h1;cases Xs h2;rw[beq_self_eq_true]
   ·rw[beq_eq_false_iff_ne.mpr λe:n=m=>(Zg hn).1 (e▸Yi h1)]
    exact ih (Zg hn).2 i n v h1 h2
theorem Oq{l:List (Str×Value)}(ns:List Str):∀(vs:List Value),vs.length=ns.length->(∀(i:Nat) (n:Str) (v:Value),ns[i]? =some n->vs[i]? =some v->l.lookup n=some v)->ns.filterMap (λn=>(l.lookup n).map (n,·))=ns.zip vs:=by
 induction ns with
 |nil=>exact λvs _ _=>rfl
 |cons n ns ih=>
  intro vs hl h
  rcases vs with _ | ⟨v,vs⟩
  ·exact absurd hl (Nat.succ_ne_zero _).symm
  ·rw[List.filterMap_cons,h 0 n v rfl rfl,List.zip_cons_cons]
   exact Xu (List.cons (n,v)) (ih vs (Nat.succ.inj hl) λi m u hm hu=>h (i+1) m u hm hu)
theorem Oo{fd:FuncData}{as:List Arg}(hp:fd.params=⟨[],as,none,[],[],none,[]⟩)(hd:fd.defaults=.none)(hn:(as.map (·.arg)).Nodup)(hl:vs.length=as.length):bindArgs fd ⟨vs,[]⟩=pure ((as.map (·.arg)).zip vs):=by
 obtain⟨a1,a2,a3,a4,a5,a6,a7,a8,a9⟩:=fd
 cases hp
 cases hd
 have hl':vs.length=(as.map (·.arg)).length:=hl.trans (Xk _).symm
 have at_:∀ns:List Str,ns.Nodup->vs.length=ns.length->(ns.filter λn=>((ns.zip vs).lookup n).isNone)=[]/\ns.filterMap (λn=>((ns.zip vs).lookup n).map (n,·))=ns.zip vs:=λns hn hl'=>⟨List.filter_eq_nil_iff.mpr λn h=>by
  refine aT (List.getElem?_of_mem h) λi hi=>?_
  have hv:i < vs.length:=by rw[hl'];exact(XS hi).1
  rw[HT hn i n _ hi (Yo hv)]
  exact Yy,Oq ns vs hl' λi n v=>HT (vs:=vs) hn i n v⟩
 refine bc (at_ _ hn hl') λe2 e3=>?_
 refine(?_:(if(decide (vs.length > (as.map (·.arg)).length)&&true)=true then _ else _)=_)
 refine(Xv (by rw[hl'];simp)).trans ((Xv ?_).trans ?_)
 ·show ¬(!(List.filter (λn=>(List.lookup n ((as.map (·.arg)).zip vs)).isNone) (List.take ((as.map (·.arg)).length - (List.drop (0 - (as.map (·.arg)).length) ([]:List Value)).length) (as.map (·.arg)))).isEmpty)=true
  rw[List.drop_nil,XR,Nat.sub_zero,List.take_length,e2];exact Yy
 ·show(forIn ((List.drop ((as.map (·.arg)).length - (List.drop (0 - (as.map (·.arg)).length) ([]:List Value)).length) (as.map (·.arg))).zip (List.drop (0 - (as.map (·.arg)).length) ([]:List Value))) ((as.map (·.arg)).zip vs) _>>=_)=_
  rw[List.drop_nil,List.zip_nil_right,List.forIn_nil,pure_bind]
  refine(?_:(pure (List.filterMap (λn=>(((as.map (·.arg)).zip vs).lookup n).map (n,·)) ((as.map (·.arg))++[])):Sem (List (Str×Value)))=_)
  rw[Yb,e3]
noncomputable def CE(fd:FuncData)(Γ:List (Str×Nat)):Sc:=⟨fd.scope.names,w0 fd.scope.names,Γ,Γ.map (·.2)⟩
noncomputable def xU(fd:FuncData):List Str:=fd.params.args.map (·.arg)
noncomputable def IK(p:Arguments):Bool:=p.posonlyargs.isEmpty&&p.vararg.isNone&&p.kwonlyargs.isEmpty&&p.kw_defaults.isEmpty&&p.kwarg.isNone&&p.defaults.isEmpty
theorem Sf{p:Arguments}(h:IK p=true):p=⟨[],p.args,none,[],[],none,[]⟩:=by
 obtain⟨p1,p2,p3,p4,p5,p6,p7⟩:=p
 refine xP (ut h) λa1 a2 a3 a4 a5 a6=>?_
 cases Zo a1;cases Zy a2;cases Zo a3;cases Zo a4;cases Zy a5;cases Zo a6
 rfl
noncomputable def GA(L:dx)(f:Fn)(Γ:List (Str×Nat))(fd:FuncData)(b:List Stmt):Bool:=
 (codeIn L.VJ fd.code fd.qualname&&IK fd.params&&fd.defaults==.none&&decide ((xU fd).length=f.mM)&&decide (xU fd).Nodup)&&
 ((xU fd).zipIdx.all (λx=>Γ.contains x)&&fd.closure.isEmpty&& !fd.scope.isCoroutine&& !fd.scope.isGenerator&&fd.scope.kind==.function)&&
 (decide (fd.globals=mainGlobals)&&decide (fd.builtins=builtinsNs)&&fd.scope.names.all (λx=>x.2 !=.free)&&BZ (CE fd Γ)&&cx (mh L EF SF (CE fd Γ)) b f.dZ)
noncomputable def G5(b:FuncBody)(q:List Stmt->Bool):Bool:=b.casesOn q λ_=>false
noncomputable def GF(L:dx)(a:Addr)(f:Fn)(Γ:List (Str×Nat)):Bool:=ip (L.VJ.lookup a) λo=>A7 o.data λfd=>G5 fd.body (GA L f Γ fd)
theorem PM{a:Addr}{f:Fn}(h:GF L a f Γ=true):Nonempty (od L a f):=
 m5 (M:=λx=>L.VJ.lookup a=x->Nonempty (od L a f)) h (λo h ho=>Pi (M:=λx=>o.data=x->Nonempty (od L a f)) h (λfd h hd=>fd.body.casesOn (motive:=λx=>G5 x (GA L f Γ fd)=true->fd.body=x->Nonempty (od L a f)) (λb h hb=>by
  refine cN (cY h) λh1 h2 h3=>?_
  refine sR (qj h1) λa1 a2 a3 a4 a5=>?_
  refine sR (qj h2) λb1 b2 b3 b4 b5=>?_
  refine sR (qj h3) λc1 c2 c3 c4 c5=>?_
  have a4:=XQ a4
  exact⟨⟨o,fd,b,xU fd,CE fd Γ,ho,hd,λh X=>codeRec_of X a1,hb,λvals hv=>Oo (Sf a2) (Xx a3) (XQ a5) (by rw[hv,<-a4];exact Xk _),a4,Zo b2,i7 b3,i7 b4,Xx b5,XQ c1,XQ c2,rfl,rfl,Ix c4,λx hx=>Y0 hx,
   λx hx=>bne_iff_ne.mp (YG c3 x hx),XQ a5,λj p hp=>List.contains_iff_mem.mp (YG b1 (p,j) (List.mem_zipIdx_iff_getElem?.mpr hp)),c5⟩⟩) di h rfl) rfl) rfl
set_option backward.match.sparseCases true
noncomputable def fnA:List Addr:=[26,31,117,136,143,148,155,181,188,200,242,249,256,263,270,277,282,324,331,336,341,346,353,360,367,374,381,388,402,409,447,452,466,473,480,487,492,511,518,523,530,537,542,557,562,567,574,579,584,589,596,601]
noncomputable def clA:List Addr:=[224,306,438,495,545]
noncomputable def BS(i:Nat):Str:=Str.ofString (["append","extend","pop","get","setdefault","join","count","strip","isspace","_","nodes","numbers","weights","depths","require","kids","op","above","lots","merged","find","bank","unions","edges","forest","known","waiting","backs","size","take","make","look_at","add","put","node","merge","classes","members","term","heap","parts","level","beside","between","path","of_edge","costs","ways","lessen","is_turned","by_likeness","by_others","steps","paper","settle","are_like"].getD i "")
noncomputable def GO(i:Nat):Str:=Str.ofString (["_law_words","MOST_PARTS","MOST_LEVELS","MOST_NUMBERS"].getD i "")
noncomputable def PV:List (List (String×Nat)):=[[("t",0)],
 [("paper",0),("kind",1),("words",2),("row",3)],
 [("text",0)],
 [("self",0)],
 [("self",0)],
 [("self",0),("op",1),("kids",2),("node",3),("kid",4)],
 [("self",0),("op",1)],
 [("self",0),("n",1)],
 [("self",0),("n",1)],
 [("self",0),("n",1),("below",2),("stack",3),("kid",4),("made",5),("k",6)],
 [("self",0)],
 [("self",0)],
 [("self",0)],
 [("self",0),("a",1)],
 [("self",0),("a",1),("b",2),("kept",3),("gone",4)],
 [("self",0),("a",1)],
 [("self",0)],
 [("self",0)],
 [("self",0)],
 [("self",0),("n",1)],
 [("self",0),("op",1),("numbers",2),("n",3),("c",4)],
 [("self",0),("term",1)],
 [("self",0),("n",1),("other",2)],
 [("self",0),("n",1)],
 [("self",0),("a",1),("b",2)],
 [("self",0),("a",1),("b",2),("reason",3)],
 [("self",0),("a",1),("b",2),("reason",3),("merged",4),("kept",5),("gone",6)],
 [("self",0)],
 [("self",0)],
 [("self",0),("c",1)],
 [("heap",0),("index",1),("reason",2)],
 [("heap",0),("a",1),("papers",2),("row",3),("late",4)],
 [("self",0),("heap",1),("index",2),("a",3),("b",4),("reason",5)],
 [("self",0),("a",1),("b",2),("before",3),("came",4),("row",5),("spot",6),("here",7),("index",8),("other",9),("found",10)],
 [("self",0),("a",1),("b",2)],
 [("self",0),("a",1),("b",2),("before",3),("found",4),("index",5),("is_back",6),("paper",7)],
 [("self",0),("index",1),("a",2),("b",3),("reason",4),("pairs",5),("found",6)],
 [("self",0),("heap",1),("n",2),("index",3),("a",4),("b",5),("reason",6),("lots",7),("lot",8)],
 [("self",0),("a",1),("b",2),("cost",3),("way",4)],
 [("self",0),("lot",1),("a",2),("b",3),("one",4),("other",5)],
 [("self",0),("lot",1),("middle",2),("a",3),("b",4),("cost",5)],
 [("self",0),("a",1),("b",2)],
 [("self",0),("a",1),("b",2),("way",3),("paper",4),("pairs",5)],
 [("feed",0),("wide",1),("turn",2)],
 [("feed",0),("high",1),("way",2)],
 [("feed",0),("high",1),("way",2),("some",3),("row",4),("lap",5)],
 [("text",0),("pile",1),("word",2),("sign",3),("done",4)],
 [("raw",0)],
 [("raw",0),("kind",1),("rest",2),("found",3),("one",4)],
 [("paper",0),("is_left",1),("kind",2),("waiting",3),("found",4),("one",5),("nested",6)],
 [("paper",0),("text",1),("raw",2)],
 [("script",0),("cells",1),("feed",2),("heap",3),("numbers",4),("term",5),("lap",6),("one",7),("other",8),("ruled",9),("some",10),("paper",11)]]
noncomputable def gam:List (List (Str×Nat)):=PV.map λg=>g.map λx=>(Str.ofString x.1,x.2)
noncomputable def fQ(K:Frag)(script:Addr)(nums:List Int):dx:=⟨K,λk=>fnA[k]?.getD 0,⟨λc=>clA[c]?.getD 0,script,nums⟩,BS,GO⟩
noncomputable def JU(v:Option (Option Value))(a:Addr):Bool:=v==some (some (.ref a))
noncomputable def E4(L:dx)(c a:Nat):Bool:=plainGet L.VJ (L.aF.VL c) (L.ct a)&&hasDictIn L.VJ (L.aF.VL c)&&ip (findIn L.VJ (.ref (L.aF.VL c)) (L.ct a)) (noGet L.VJ)&&
 findIn L.VJ (.ref (L.aF.VL c)) "__setattr__"==some (some (.builtin "object.__setattr__"))&&plainOver L.VJ (L.aF.VL c)&&ip (takerIn L.VJ (L.aF.VL c) (L.ct a)) (·.isNone)
noncomputable def H6(L:dx)(c m k:Nat):Bool:=plainGet L.VJ (L.aF.VL c) (L.ct m)&&JU (findIn L.VJ (.ref (L.aF.VL c)) (L.ct m)) (L.fn k)&&isFn L.VJ (.ref (L.fn k))&&qk.all (λy=>!(L.ct y.2==L.ct m))&&keepIn L.VJ (.ref (L.fn k))
noncomputable def GU(L:dx)(c k:Nat):Bool:=makesIn L.VJ (L.aF.VL c)&&JU (findIn L.VJ (.ref (L.aF.VL c)) "__init__") (L.fn k)&&typeIn L.VJ (.ref (L.fn k))==some (.type "function")
noncomputable def UH(ws:List (List Nat))(o:Obj):Bool:=o.cls==.type "tuple"&&o.dict.isNone&&o.slots.isEmpty&&Bh o.data λxs _=>xs.toList.length==ws.length&&(xs.toList.zip ws).all λp=>xz p.1 λa=>a==bp p.2
noncomputable def UG(K:Frag)(ws:List (List Nat))(v:Option Value):Bool:=ip v λv=>Bd v λx=>ip (K.lookup x) (UH ws)
noncomputable def xt(v:Option Value)(n:Int):Bool:=ip v λv=>Ba v λi=>decide (i=n)
noncomputable def QG:List (List Nat):=[[108,48],[115,97,109,101],[106,111,105,110],[116,117,114,110],[114,39]]
noncomputable def Ro:Bool:=qk.all λx=>qk.all λy=>!(BS x.2==BS y.2)||decide (x.2=y.2)
noncomputable def wR(L:dx):Bool:=((List.range AP.length).all λk=>ip AP[k]? λf=>GF L (L.fn k) f (gam[k]?.getD []))&&qk.all (λx=>E4 L x.1 x.2)&&xF.all (λx=>H6 L x.1 x.2.1 x.2.2)&&((List.range uK.length).all λc=>ip uK[c]? (GU L c))&&
 (UG L.VJ QG (mo L.VJ (L.gn 0))&&xt (mo L.VJ (L.gn 1)) 20000&&xt (mo L.VJ (L.gn 2)) 100&&xt (mo L.VJ (L.gn 3)) 60)
theorem Rr:Ro=true:=by kernel_rfl
theorem JQ{l:List α}{q:Nat->α->Bool}(h:((List.range l.length).all λk=>ip l[k]? (q k))=true){k:Nat}{a:α}(hk:l[k]? =some a):q k a=true:=by
 have p:=YG h k (Y2 (XS hk).1)
 rw[hk]at p;exact p
theorem wV{c a:Nat}(h:fD c a=true):(c,a)∈qk:=by
 refine az (List.any_eq_true.mp h) λx hx e=>?_
 refine bc (bV e) λe1 e2=>?_
 rw[<-Xx e1,<-Xx e2];exact hx
theorem Rc{c m k:Nat}(h:yr c m=some k):(c,m,k)∈xF:=by
 refine az (YE h) λx hx e=>?_
 have e0:=List.find?_some hx
 refine bc (bV e0) λe1 e2=>?_
 rw[<-Xx e1,<-Xx e2,<-e];exact List.mem_of_find?_eq_some hx
theorem AT{v:Option Value}{n:Int}(h:xt v n=true):∃t,v=some (.int n t):=
 m5 (M:=λv=>∃t,v=some (.int n t)) h λv h=>Pj (M:=λv=>∃t,some v=some (.int n t)) h λi t e=>⟨t,by rw[XQ e]⟩
section
variable {K:Frag}{a:Addr}{l:List Int}
theorem PC(h2:qk.all (λx=>E4 (fQ K a l) x.1 x.2)=true)(h3:xF.all (λx=>H6 (fQ K a l) x.1 x.2.1 x.2.2)=true)(h4:((List.range uK.length).all λc=>ip uK[c]? (GU (fQ K a l) c))=true):j9 (fQ K a l) where
 bn:=⟨rfl,rfl,rfl,rfl,rfl,rfl,rfl,rfl,rfl⟩
 Dp:=λc x d y k1 k2 e=>(Yq (YG (YG Rr _ (wV k1)) _ (wV k2))).elim (λq=>absurd e (beq_eq_false_iff_ne.mp (i7 q))) XQ
 yV:=λc x k=>by
  refine xP (ut (YG h2 _ (wV k))) λa1 a2 a3 a4 a5 a6=>?_
  rcases hf:findIn (fQ K a l).VJ (.ref ((fQ K a l).aF.VL c)) ((fQ K a l).ct x)with _ |attr
  ·rw[hf]at a3;exact bE a3
  ·rw[hf]at a3
   refine⟨attr,a1,a2,hf,a3,Xx a4,a5,?_⟩
   rcases ht:takerIn (fQ K a l).VJ ((fQ K a l).aF.VL c) ((fQ K a l).ct x)with _ |o
   ·rw[ht]at a6;exact bE a6
   ·rw[ht]at a6;rw[Zy a6]
 yU:=λc m k h=>by
  refine sR (qj (YG h3 _ (Rc h))) λa1 a2 a3 a4 a5=>?_
  exact⟨a1,Xx a2,a3,λd x hx=>beq_eq_false_iff_ne.mp (i7 (YG a4 _ (wV hx))),a5⟩
 Do:=λc k h=>by
  refine cN (cY (JQ h4 h)) λa1 a2 a3=>?_
  exact⟨a1,Xx a2,Xx a3⟩
theorem UL{h:Heap}{xs:List Value}:∀{ws:List (List Nat)},(xs.length==ws.length)=true->((xs.zip ws).all λp=>xz p.1 λa=>a==bp p.2)=true->aR cl h [] (ws.map .s) xs:=by
 induction xs with
 |nil=>exact λ{ws} h1 _=>by rw[Zf (Xx h1).symm];rfl
 |cons x xs ih=>
  intro ws h1 h2
  rcases ws with _ | ⟨w,ws⟩
  ·exact absurd (Xx h1) (Nat.succ_ne_zero _)
  ·refine bc (bV h2) λk1 k2=>?_
   refine dN x xs rfl ?_ (ih (beq_iff_eq.mpr (Nat.succ.inj (Xx h1))) k2)
   exact Pm (M:=λx=>aS cl h [] (.s w) x) k1 λs t e=>⟨t,by rw[Xx e]⟩
set_option tactic.hygienic true in
theorem PY{q:Program}{w:World}{mean:ExcName->Option Value}{mg mb:Str->Option Value}{h:Heap}(T:Top q loose mean mg mb h)(KX:K.In h)(ok:wR (fQ K a l)=true):rB ⟨prog,w,fQ K a l,h⟩:=by
 refine sR (qj ok) λh1 h2 h3 h4 h5=>?_
 refine kM (eQ h5) λg0 g1 g2 g3=>?_
 exact⟨KX,⟨T.nolimit⟩,PC h2 h3 h4,(dN mg mb T.g T.b T.builtins),T.nolimit,λk f hf=>PM (JQ h1 hf),λk V hV=>by
  rcases k with _ |_ |_ |_ |k
  ·cases hV
   refine m5 (M:=λy=>mo K (GO 0)=y->∃v,y=some v/\aS (fQ K a l).aF h [] _ v) g0 (λv q hx=>Pk (M:=λv=>∃u,some v=some u/\aS (fQ K a l).aF h [] _ u) q λx q=>?_) rfl
   refine m5 (M:=λy=>K.lookup x=y->∃u,some (Value.ref x)=some u/\aS (fQ K a l).aF h [] _ u) q (λo q ho=>?_) rfl
   refine kM (eQ q) λq1 q2 q3 q4=>?_
   rcases o with⟨c,d,dt,sl⟩
   obtain rfl:c=.type "tuple":=Xx q1
   obtain rfl:d=none:=Zy q2
   obtain rfl:sl=#[]:=Array.isEmpty_iff.mp q3
   refine Pl (M:=λdt=>K.lookup x=some ⟨.type "tuple",none,dt,#[]⟩->∃u,some (Value.ref x)=some u/\aS (fQ K a l).aF h [] _ u) q4 (λxs n q ho=>?_) ho
   refine bc (bV q) λb2 b3=>?_
   exact⟨_,rfl,x,xs.toList,n,rfl,by rw[KX x _ ho,Array.toArray_toList],XX,UL b2 b3⟩
  ·cases hV;exact(AT g1).elim λt ht=>⟨_,ht,t,rfl⟩
  ·cases hV;exact(AT g2).elim λt ht=>⟨_,ht,t,rfl⟩
  ·cases hV;exact(AT g3).elim λt ht=>⟨_,ht,t,rfl⟩
  ·exact bN hV⟩
end
set_option backward.match.sparseCases false
set_option backward.match.sparseCases true
noncomputable def qW(st:SharedT->Thread->Option (SharedT×Thread))(n₀:Nat)(ann:Option Value):Nat->SharedT->Thread->Option SharedT
 |0,_,_=>none
 |n+1,s,t=>match through t with
  |true=>some s
  |false=>match stepOk n₀ ann t with
   |false=>none
   |true=>match st s t with
    |some (s',t')=>qW st n₀ ann n s' t'
    |none=>none
noncomputable abbrev tm(p:Program)(w:World):SharedT->Thread->Option (SharedT×Thread):=PySem.W.Fast.tw10156331382660048174 (PySem.W.Fast.tw11892475500146522536 PySem.W.Fast.tw14364793385576792824) p w
theorem Uq(p:Program)(w:World):tm p w=stepT (denote treeTable) p w:=by
 rw[PySem.W.Fast.te10156331382660048174,PySem.W.Fast.te11892475500146522536,PySem.W.Fast.te14364793385576792824]
theorem U3{p:Program}{w:World}{n₀:Nat}{n:Nat}:∀{s s':SharedT} {t:Thread},qW (tm p w) n₀ ann n s t=some s'->topRun treeTable p w n₀ ann n s.abs t=some s'.abs:=by
 rw[Uq]
 induction n with
 |zero=>exact λh=>nomatch h
 |succ n ih=>
  intro s s' t h
  unfold qW at h
  unfold topRun
  cases he:through t with
  |true=>rw[he]at h;cases h;rfl
  |false=>
   rw[he]at h
   cases hk:stepOk n₀ ann t with
   |false=>rw[hk]at h;cases h
   |true=>
    rw[hk]at h
    cases hs:stepT (denote treeTable) p w s t with
    |none=>rw[hs]at h;cases h
    |some r=>obtain⟨s₂,t₂⟩:=r;rw[hs]at h;rw[stepT_spec hs];exact ih h
noncomputable def I8:List Obj->Nat->W.BT->W.BT
 | [],_,t=>t
 |o::os,n,t=>I8 os (n+1) (t.ins n o)
noncomputable def uw(P:Params)(os:OsState):SharedT:=⟨I8 (boot_heap P).objs.toList 0 .nil,(boot_heap P).objs.size,(boot_heap P).life,#[],boot_drawn,boot_toks,os⟩
theorem Ot(P:Params)(os:OsState):(uw P os).abs=⟨boot_heap P,#[],boot_drawn,boot_toks,os⟩:=by kernel_rfl
theorem QR{p q:Program}{Xt:Shared->Bool}{Yf:Shared->α}{Ya:World->α}{N:Nat}{g0:Bool}{m₀:Nat}
  (open_:∀w:World,(fencedOpening treeTable p w N).map (λs=>(s.heap,s.gens,s.drawn,s.toks))=some (boot_heap w.params,#[],boot_drawn,boot_toks))
  (size:∀P:Params,((boot_heap P).isNs mainGlobals,(boot_heap P).objs.size,(boot_heap P).nsMap mainGlobals "__annotations__")=(true,m₀,ann))
  (run:∀(w:World) (os:OsState),(qW (tm p w) m₀ ann N (uw w.params os) (topStub p)).map (λx=>(λs=>(staticsOk (importedModules p.main.body) (boot_heap w.params) s.heap&&namesBound p s.heap&&gensDone s&&laidKept (boot_heap w.params) s.heap,openSeen q loose (importedModules p.main.body) Xt g0 s)) x.abs)=some (true,openGood q loose))
  (run2:∀(w:World) (os:OsState),(qW (tm p w) m₀ ann N (uw w.params os) (topStub p)).map (λx=>Yf x.abs)=some (Ya w)):
  LeftO p q loose Xt Yf Ya N g0:=λw=>by
 refine az (YE (open_ w)) λnn0 e e'=>?_;obtain⟨h,gs,d,k,os⟩:=nn0
 obtain⟨rfl,rfl,rfl,rfl⟩:h=boot_heap w.params/\gs=#[]/\d=boot_drawn/\k=boot_toks:=by simpa using e'
 refine az (YE (run w os)) λx r l=>?_
 refine bc (Prod.mk.inj l) λl1 l2=>?_
 have l3:Yf x.abs=Ya w:=by
  have y:=run2 w os
  rw[r]at y
  exact Xs y
 obtain⟨z1,z2,z3⟩:_/\_/\_:=by simpa only[Prod.mk.injEq]using size w.params
 have r:=U3 r
 rw[Ot]at r
 have t:topFrom treeTable p w N ⟨boot_heap w.params,#[],boot_drawn,boot_toks,os⟩=some x.abs:=by
  unfold topFrom
  dsimp only
  rw[z1,z2,z3,r]
  refine(?_:(match staticsOk (importedModules p.main.body) (boot_heap w.params) x.abs.heap&&namesBound p x.abs.heap&&gensDone x.abs&&laidKept (boot_heap w.params) x.abs.heap with |true=>_ |false=>_)=_)
  rw[l1]
 unfold openEnds
 rw[e]
 refine(?_:(topFrom treeTable p w N _).map _=_)
 rw[t]
 exact Xu some (Prod.ext l2 l3)
noncomputable def vw:Program:=view PySem.Challenge.pw_pq0020_01 [35]
theorem RK:∀w:World,(fencedOpening treeTable PySem.Challenge.pw_pq0020_01 w 4500).map (λs=>(s.heap,s.gens,s.drawn,s.toks))=some (boot_heap w.params,#[],boot_drawn,boot_toks):=
 boot_open (by kernel_rfl) (by decide) (λs=>by kernel_rfl)
noncomputable def ls:List Str:=(["_wall","term_text","paper_text","HeapError","TermFault","PaperFault","LimitFault","is_op","parts","Bank","Unions","Heap","MOST_PARTS","MOST_LEVELS","MOST_NUMBERS","paper_of_edge","joined_row","Whys","Shortest","_law_words","_law_draw","_law_term","_law_drawn","_law_piled","_law_read_term","_law_read","_law_pairs","_law_is_right"]:List String).map Str.ofString
noncomputable def Og:List Addr:=[3,25,26,30,31,116,117,135,136,142,143,147,148,154,155,180,181,187,188,199,200,223,224,241,242,248,249,255,256,262,263,269,270,276,277,281,282,305,306,323,324,330,331,335,336,340,341,345,346,352,353,359,360,366,367,373,374,380,381,387,388,401,402,408,409,437,438,446,447,451,452,465,466,472,473,479,480,486,487,491,492,494,495,510,511,517,518,522,523,529,530,536,537,541,542,544,545,550,556,557,561,562,566,567,573,574,578,579,583,584,588,589,595,596,600,601]
noncomputable def Kf(h:Heap):Frag:=Og.filterMap λa=>(h.get? a).map λo=>(a,o)
theorem Mr{h:Heap}(k:∀b o,h.get? b=some o->h'.get? b=some o):(Kf h).In h':=λa o e=>by
 have m:(a,o)∈Kf h:=by
  clear k
  revert e
  generalize Kf h=l
  induction l with
  |nil=>exact λe=>bN e
  |cons x xs ih=>
   intro e
   rw[show x=(x.1,x.2) from rfl,List.lookup_cons]at e
   split at e
   ·next q=>cases e;rw[Xx q];exact Xz ..
   ·exact XA _ (ih e)
 refine az (List.mem_filterMap.mp m) λb _ q=>?_
 refine az (YE q) λo' ho q=>?_
 cases q
 exact k _ _ ho
noncomputable def YP(_:World)(h:Heap):Prop:=∃K:Frag,K.In h/\(∀a l,wR (fQ K a l)=true)/\nsIn K mainGlobals (Str.ofString "law")=some (some (.ref 601))
noncomputable def Yf(s:Shared):(Addr->List Int->Bool)×Option (Option Value):=(λa l=>wR (fQ (Kf s.heap) a l),nsIn (Kf s.heap) mainGlobals (Str.ofString "law"))
noncomputable def Ya(_:World):(Addr->List Int->Bool)×Option (Option Value):=(λ_ _=>true,some (some (.ref 601)))
theorem NT(w:World)(s:Shared)(e:Yf s=Ya w):YP w s.heap:=⟨Kf s.heap,Mr λ_ _ q=>q,λa l=>congrFun (congrFun (Xu Prod.fst e) a) l,Xu Prod.snd e⟩
theorem NS(w:World)(h h':Heap)(y:YP w h)(k:∀b o,h.get? b=some o->h'.get? b=some o):YP w h':=y.imp λK q=>⟨λa o e=>k _ _ (q.1 a o e),q.2⟩
theorem Ub(w:World)(os:OsState):(qW (tm PySem.Challenge.pw_pq0020_01 w) 11 (some (.ref 6)) 4500 (uw w.params os) (topStub PySem.Challenge.pw_pq0020_01)).map (λx=>(λs=>(staticsOk (importedModules PySem.Challenge.pw_pq0020_01.main.body) (boot_heap w.params) s.heap&&namesBound PySem.Challenge.pw_pq0020_01 s.heap&&gensDone s&&laidKept (boot_heap w.params) s.heap,openSeen vw ls (importedModules PySem.Challenge.pw_pq0020_01.main.body) (λ_=>true) true s)) x.abs)=some (true,openGood vw ls):=by kernel_rfl
theorem CD(w:World)(os:OsState):(qW (tm PySem.Challenge.pw_pq0020_01 w) 11 (some (.ref 6)) 4500 (uw w.params os) (topStub PySem.Challenge.pw_pq0020_01)).map (λx=>Yf x.abs)=some (Ya w):=by kernel_rfl
theorem QQ:LeftO PySem.Challenge.rw_pq0020_01.row.prog vw ls (λ_=>true) Yf Ya 4500:=
 QR (m₀:=11) (ann:=some (.ref 6)) RK (λP=>by kernel_rfl) Ub CD
theorem ws:PySem.Challenge.rw_pq0020_01.wellSaid=true:=by
 rw[PySem.W.Fast.te9446332074065402090]
 kernel_rfl
end
section
open PyProof.Rows
variable {κ α β:Type}{Z:Nat}{ρ:aA}{σ:aj}{x y N W D t0 nm c0 r0 v0 M cl t' m' i1 i2 f0 a0 ql:Nat}{elt:Ex}{σ' τ σ₁ σ₂ σ'' υ:aj}{ys vs xs us:List V}{F ks lot op l0:List Nat}{bs:Nat->List (Nat×Nat)}{ρ' ρ'':aA}{fs es:List (Nat×V)}{cells:List Int}{tg:Tg}{L:Bool}{lots:List (List Nat)}{bd:List St}{fl:Fl}{cf cf':Nat->Nat->Option Nat}{ifs:List Ex}{bl:Int}{k':κ}
set_option hygiene false in
inductive Tm where
 |bS (op:List Nat) (kids:List Tm)
mutual
noncomputable def Tm.enc:Tm->V
 | .bS op kids=>.t (.s op::Tm.encs kids)
noncomputable def Tm.encs:List Tm->List V
 | []=>[]
 |t::ts=>t.enc::Tm.encs ts
end
theorem uh{op kids}:Tm.enc (.bS op kids)=.t (.s op::Tm.encs kids):=rfl
theorem EE:Tm.encs []=[]:=rfl
theorem EG{t ts}:Tm.encs (t::ts)=t.enc::Tm.encs ts:=rfl
mutual
noncomputable def Tm.text:Tm->List Nat
 | .bS op []=>op
 | .bS op (k::ks)=>[40]++cy [32] (op::Tm.texts (k::ks))++[41]
noncomputable def Tm.texts:List Tm->List (List Nat)
 | []=>[]
 |t::ts=>t.text::Tm.texts ts
end
theorem EJ:Tm.texts []=[]:=rfl
theorem zQ{t ts}:Tm.texts (t::ts)=t.text::Tm.texts ts:=rfl
theorem NI{op}:Tm.text (.bS op [])=op:=rfl
theorem zP{op k ks}:Tm.text (.bS op (k::ks))=[40]++cy [32] (op::Tm.texts (k::ks))++[41]:=rfl
mutual
noncomputable def Tm.dep:Tm->Nat
 | .bS _ kids=>Tm.deps kids+1
noncomputable def Tm.deps:List Tm->Nat
 | []=>0
 |t::ts=>max t.dep (Tm.deps ts)
end
theorem rY{z1 kids}:Tm.dep (.bS z1 kids)=Tm.deps kids+1:=rfl
theorem ED:Tm.deps []=0:=rfl
theorem wK{t ts}:Tm.deps (t::ts)=max t.dep (Tm.deps ts):=rfl
mutual
noncomputable def Tm.sz:Tm->Nat
 | .bS op kids=>op.length+3+Tm.szs kids
noncomputable def Tm.szs:List Tm->Nat
 | []=>0
 |t::ts=>t.sz+1+Tm.szs ts
end
theorem oL{op kids}:Tm.sz (.bS op kids)=op.length+3+Tm.szs kids:=rfl
theorem wM:Tm.szs []=0:=rfl
theorem oM{t ts}:Tm.szs (t::ts)=t.sz+1+Tm.szs ts:=rfl
theorem Bp(sep:List Nat):∀l:List (List Nat),(cy sep l).length<=(l.map λx=>x.length+sep.length).sum
 | []=>by simp[Bo]
 | [x]=>by simp[oX]
 |x::y::r=>by
  have:=Bp sep (y::r)
  simp only[qy,Xn,Xw,Yk]at *
  exact x0 this
mutual
theorem Tm.text_len:∀t:Tm,t.text.length<=t.sz
 | .bS op []=>by simp[NI,oL];exact bT iO
 | .bS op (k::ks)=>by
  have h:=Tm.texts_len (k::ks)
  have h2:=Bp [32] (op::Tm.texts (k::ks))
  have e:(op::Tm.texts (k::ks)).map (λx=>x.length+[32].length)=(op::Tm.texts (k::ks)).map λx=>x.length+1:=rfl
  rw[e]at h2
  simp only[zP,oL,Xn,Xq,XR,Xw,Yk]at *
  lia
theorem Tm.texts_len:∀ts:List Tm,((Tm.texts ts).map λx=>x.length+1).sum<=Tm.szs ts
 | []=>by simp[EJ,wM]
 |t::ts=>by
  have h1:=Tm.text_len t
  have h2:=Tm.texts_len ts
  simp only[zQ,oM,Xw,Yk]at *
  exact qF (qO h1) h2
end
theorem Tm.szs_len:∀ts:List Tm,ts.length<=Tm.szs ts
 | []=>by simp[wM]
 |t::ts=>by have:=Tm.szs_len ts;simp only[oM,Xq];lia
theorem oK(ts:List Tm):Tm.encs ts=ts.map Tm.enc:=by induction ts<;>simp_all [EE,EG]
theorem NJ(ts:List Tm):Tm.texts ts=ts.map Tm.text:=by induction ts<;>simp_all [EJ,zQ]
theorem Tm.deps_mem:∀{ts:List Tm} {t:Tm},t∈ts->t.dep<=Tm.deps ts
 |u::ts,t,h=>by
  rcases XC h with rfl |h
  ·simp only[wK];exact Ct
  ·have:=Tm.deps_mem h;simp only[wK];exact qT this Cu
theorem Tm.szs_mem:∀{ts:List Tm} {t:Tm},t∈ts->t.sz<=Tm.szs ts
 |u::ts,t,h=>by
  rcases XC h with rfl |h
  ·simp only[oM];exact bT iO
  ·have:=Tm.szs_mem h;simp only[oM];exact sX this
theorem UI(f:α->List Nat)(l:List α):jB (l.map λx=>V.s (f x))=some (l.map f):=by induction l<;>simp_all [Ke,CJ]
theorem gI{d n:Nat}{S:eM}(hS:∀r,S.iG r σ=σ)(hG:∀r,S.V8 r σ)(f g:α->V)(l:List α)(h:∀x∈l,∃ρ',fL 4 tg (f x) ρ=some ρ'/\Ev d n elt ρ' σ (g x) σ):
  ∀(acc:List V),aD (acc++l.map f)->cV d n elt tg [] [] ρ S (l.map f) σ acc (acc++l.map g) σ:=by
 induction l with
 |nil=>
  intro acc _
  have:=cV.mQ (d:=d) (n:=n) (elt:=elt) (tg:=tg) (ifs:=[]) (gs:=[]) (ρ:=ρ) (S:=S) (σ:=σ) (acc:=acc)
  rw[hS]at this
  rw[YH,YH,Yb];exact this
 |cons x l ih=>
  intro acc hl
  refine az (h x (Xz ..)) λρ' h1 h2=>?_
  have:=ih (λy hy=>h y (XA _ hy)) (acc++[g x]) (by unfold aD at *;simp at *;exact hl)
  rw[XM]at this
  exact cV.Wr h1 (by rw[hS];exact ej.om) (jD.pH h2 (by unfold aD at *;simp at hl;exact bT hl)) (hG _) this
theorem E8{xs:List α}{n:Nat}(h:xs.length<=n)(hn:n<=aK):aD xs:=Xl h hn
theorem CA:∀(d:Nat) (t:Tm),t.dep<=d->t.sz<=aK->∀σ,aL d 0 [t.enc] σ (.s t.text) σ
 |0,.bS op kids,h,_,_=>by simp[rY]at h
 |d+1,.bS op [],h,hs,σ=>by
  have hl:aD (V.s op::Tm.encs []):=by simp[aD,EE,aK]
  exact fV (f:=AL) rfl rfl (be (bM (jC (σ₁:=σ) (aY (ci rfl (Xh (af rfl)) (xX hl)) aq rfl (Xo _)) (bi (af rfl) aq (c9 ⟨by decide,by decide⟩ rfl))))) (Yh _) rfl
 |d+1,.bS op (k::ks),h,hs,σ=>by
  have ht:=Tm.text_len (.bS op (k::ks))
  have hk:=Tm.szs_len (k::ks)
  have h2:=Tm.texts_len (k::ks)
  simp only[rY,oL]at h hs ht
  have hl:aD (V.s op::Tm.encs (k::ks)):=by rw[oK];unfold aD;simp only[Xq,Xk]at *;exact ph hk hs rfl
  have e:(V.s op::Tm.encs (k::ks)).length=(k::ks).length+1:=by rw[oK];simp
  have e0:¬(((V.s op::Tm.encs (k::ks)).length:Nat):Int)=1:=by rw[e,Xq];exact tb (mC gh)
  have hd:(1:Int)<=1/\(1:Int)<=(V.s op::Tm.encs (k::ks)).length:=⟨by decide,by rw[e];exact nO⟩
  have hc:∀σ,Ev d 25 (.o (.l 0 [.v 1]) [.m (.v 1) (.e (.e (.v 0) (some (.c (.i 1))) none)) []]) (bf [(Tm.bS op (k::ks)).enc]) σ (.r σ.length) (σ++[.l ((k::ks).map λt=>.s t.text)]):=λσ=>by
   refine dU (S:=.bx (Tm.encs (k::ks))) (σ₁:=σ) (σ₂:=σ) ?_ ?_
   ·refine jJ ?_ (E8 (n:=Tm.szs (k::ks)) (by simp only[oK,Xk];exact hk) (cG hs))
    exact ji (af rfl) aq (pf hd hl)
   ·have:=gI (d:=d) (n:=24) (elt:=.l 0 [.v 1]) (tg:=.v 1) (ρ:=bf [(Tm.bS op (k::ks)).enc]) (σ:=σ) (S:=.bx (Tm.encs (k::ks))) (λ_=>rfl) (λ_=>trivial) Tm.enc (λt=>V.s t.text) (k::ks) (λt ht=>aC _ rfl (cw (Xh (af rfl))
     (CA d t (by have:=Tm.deps_mem ht;exact qT this (jc h)) (by have:=Tm.szs_mem ht;exact qT this (cG hs)) σ))) [] (E8 (by simp) (Xl hk (cG hs)))
    rw[<-oK]at this
    exact this
  have hj:jB ([V.s op]++(k::ks).map λt=>V.s t.text)=some (op::Tm.texts (k::ks)):=by
   rw[List.singleton_append,CJ,UI,NJ];rfl
  have hx:(Tm.bS op (k::ks)).text=[40]++cy [32] (op::Tm.texts (k::ks))++[41]:=by simp only[zP]
  rw[hx]at ht ⊢
  simp only[Xn,Xq,XR]at ht hk
  have o1:aD ([V.s op]++(k::ks).map λt=>V.s t.text):=by simp[aD];exact ph hk hs rfl
  have o2:aD (cy [32] (op::Tm.texts (k::ks))):=by unfold aD;exact cG (hX (qT ht hs))
  have o3:aD ([40]++cy [32] (op::Tm.texts (k::ks))):=by unfold aD;simp;lia
  have o4:aD ([40]++cy [32] (op::Tm.texts (k::ks))++[41]):=by unfold aD;simp;lia
  have o5:aD ([32]:List Nat):=by unfold aD aK;decide
  refine fV (f:=AL) rfl rfl (be (bM (jh (σ₁:=σ) (aY (ci rfl (Xh (af rfl)) (xX hl)) aq (Xu some (XU e0)) (Xo _)) (bX (bX aq (dn aq rfl (Xh (bX (dp (Xh (bi (af rfl) aq (c9 ⟨by decide,by decide⟩ rfl)))) (hc _) (pb (bO _ _ aX) aX o1))) rfl (IS aX hj o1 o5 o2)) (nI o3)) aq (nI o4))))) (iz (iz (Yd _ _))) rfl
inductive ar where
 |w (s:List Nat)
 |p (l:List ar)
mutual
noncomputable def ar.text:ar->List Nat
 | .w s=>s
 | .p l=>[40]++cy [32] (ar.texts l)++[41]
noncomputable def ar.texts:List ar->List (List Nat)
 | []=>[]
 |r::rs=>r.text::ar.texts rs
end
theorem gU{s}:ar.text (.w s)=s:=rfl
theorem ie{l}:ar.text (.p l)=[40]++cy [32] (ar.texts l)++[41]:=rfl
theorem pY:ar.texts []=[]:=rfl
theorem lY{r rs}:ar.texts (r::rs)=r.text::ar.texts rs:=rfl
mutual
noncomputable def Tm.raw:Tm->ar
 | .bS op []=>.w op
 | .bS op (k::ks)=>.p (.w op::Tm.raws (k::ks))
noncomputable def Tm.raws:List Tm->List ar
 | []=>[]
 |t::ts=>t.raw::Tm.raws ts
end
theorem ND{op}:Tm.raw (.bS op [])=.w op:=rfl
theorem zM{op k ks}:Tm.raw (.bS op (k::ks))=.p (.w op::Tm.raws (k::ks)):=rfl
theorem NF:Tm.raws []=[]:=rfl
theorem zN{t ts}:Tm.raws (t::ts)=t.raw::Tm.raws ts:=rfl
mutual
theorem Tm.raw_text:∀t:Tm,t.raw.text=t.text
 | .bS op []=>rfl
 | .bS op (k::ks)=>by simp only[zM,gU,ie,lY,zP,Tm.raws_text (k::ks)]
theorem Tm.raws_text:∀ts:List Tm,ar.texts (Tm.raws ts)=Tm.texts ts
 | []=>rfl
 |t::ts=>by simp only[zN,lY,zQ,Tm.raw_text t,Tm.raws_text ts]
end
theorem rQ(l:List ar):ar.texts l=l.map ar.text:=by induction l<;>simp_all [pY,lY]
noncomputable abbrev mu:List Nat:=[116,111,108,100]
noncomputable abbrev i6:List Nat:=[115,97,109,101]
noncomputable abbrev fP:List Nat:=[114,117,108,101]
noncomputable abbrev eV:List Nat:=[116,117,114,110]
noncomputable abbrev dA:List Nat:=[106,111,105,110]
noncomputable abbrev gf:List Nat:=[117,110,100,101,114]
inductive Pp where
 |cQ (w:List Nat)
 |cZ (t:Tm)
 |db (w:List Nat) (ps:List (List Nat×Tm))
 |cH (p:Pp)
 |bG (a b:Pp)
 |cD (w:List Nat) (ps:List Pp)
variable {ps:List Pp}{P p':Pp}
noncomputable abbrev dG(x:List Nat×Tm):V:=.t [.s x.1,x.2.enc]
mutual
noncomputable def Pp.enc:Pp->V
 | .cQ w=>.t [.s mu,.s w]
 | .cZ t=>.t [.s i6,t.enc]
 | .db w ps=>.t [.s fP,.s w,.t (ps.map dG)]
 | .cH p=>.t [.s eV,p.enc]
 | .bG a b=>.t [.s dA,a.enc,b.enc]
 | .cD w ps=>.t [.s gf,.s w,.t (Pp.encs ps)]
noncomputable def Pp.encs:List Pp->List V
 | []=>[]
 |p::ps=>p.enc::Pp.encs ps
end
theorem MN:Pp.encs []=[]:=rfl
theorem DZ{p ps}:Pp.encs (p::ps)=p.enc::Pp.encs ps:=rfl
theorem ML{w}:Pp.enc (.cQ w)=.t [.s mu,.s w]:=rfl
theorem DV{t}:Pp.enc (.cZ t)=.t [.s i6,t.enc]:=rfl
theorem DW{w ps}:Pp.enc (.db w ps)=.t [.s fP,.s w,.t (ps.map dG)]:=rfl
theorem DX{p}:Pp.enc (.cH p)=.t [.s eV,p.enc]:=rfl
theorem MM{a b}:Pp.enc (.bG a b)=.t [.s dA,a.enc,b.enc]:=rfl
theorem rI{w ps}:Pp.enc (.cD w ps)=.t [.s gf,.s w,.t (Pp.encs ps)]:=rfl
noncomputable def Pp.eG:Pp->Bool
 | .bG _ _=>true
 |_=>false
theorem Sd{t}:Pp.eG (.cZ t)=false:=rfl
theorem Se{w ps}:Pp.eG (.db w ps)=false:=rfl
noncomputable def jf(j:Bool)(l:List ar):ar:=if j then .p (.w dA::l)else l.headD (.w [])
mutual
noncomputable def Pp.sp:Pp->List ar
 | .cQ w=>[.p [.w mu,.w w]]
 | .cZ t=>[.p [.w i6,t.raw]]
 | .db w ps=>[.p (.w fP::.w w::ps.flatMap λx=>[.w x.1,x.2.raw])]
 | .cH p=>[.p [.w eV,jf p.eG p.sp]]
 | .bG a b=>a.sp++[jf b.eG b.sp]
 | .cD w ps=>[.p (.w gf::.w w::Pp.sps ps)]
noncomputable def Pp.sps:List Pp->List ar
 | []=>[]
 |p::ps=>jf p.eG p.sp::Pp.sps ps
end
theorem Eb:Pp.sps []=[]:=rfl
theorem zu{p ps}:Pp.sps (p::ps)=jf p.eG p.sp::Pp.sps ps:=rfl
theorem MX{w}:Pp.sp (.cQ w)=[.p [.w mu,.w w]]:=rfl
theorem D4{t}:Pp.sp (.cZ t)=[.p [.w i6,t.raw]]:=rfl
theorem D5{w ps}:Pp.sp (.db w ps)=([.p (.w fP::.w w::ps.flatMap λx=>[.w x.1,x.2.raw])]):=rfl
theorem D7{p}:Pp.sp (.cH p)=[.p [.w eV,jf p.eG p.sp]]:=rfl
theorem wt{a b}:Pp.sp (.bG a b)=a.sp++[jf b.eG b.sp]:=rfl
theorem D8{w ps}:Pp.sp (.cD w ps)=[.p (.w gf::.w w::Pp.sps ps)]:=rfl
noncomputable def Pp.cP(p:Pp):ar:=jf p.eG p.sp
noncomputable def Pp.left:Pp->Pp
 | .bG a _=>a.left
 |p=>p
theorem wn{a b}:Pp.left (.bG a b)=a.left:=rfl
noncomputable def Pp.right:Pp->List Pp
 | .bG a b=>a.right++[b]
 |_=>[]
theorem pS{a b}:Pp.right (.bG a b)=a.right++[b]:=rfl
theorem Pp.sp_eq:∀p:Pp,p.sp=(p.left::p.right).map Pp.cP
 | .cQ w=>rfl
 | .cZ t=>rfl
 | .db w ps=>rfl
 | .cH p=>rfl
 | .cD w ps=>rfl
 | .bG a b=>by simp only[wt,wn,pS,Pp.sp_eq a,Xw,XV,YH,Y4];rfl
mutual
noncomputable def Pp.dep:Pp->Nat
 | .cQ _=>1
 | .cZ t=>t.dep+1
 | .db _ ps=>(ps.map λx=>x.2.dep).foldr max 0+1
 | .cH p=>p.dep+1
 | .bG a b=>max a.dep b.dep+1
 | .cD _ ps=>Pp.deps ps+1
noncomputable def Pp.deps:List Pp->Nat
 | []=>0
 |p::ps=>max p.dep (Pp.deps ps)
end
theorem DU:Pp.deps []=0:=rfl
theorem wm{p ps}:Pp.deps (p::ps)=max p.dep (Pp.deps ps):=rfl
theorem wj{z1}:Pp.dep (.cQ z1)=1:=rfl
theorem pQ{t}:Pp.dep (.cZ t)=t.dep+1:=rfl
theorem pR{z1 ps}:Pp.dep (.db z1 ps)=(ps.map λx=>x.2.dep).foldr max 0+1:=rfl
theorem oy{p}:Pp.dep (.cH p)=p.dep+1:=rfl
theorem ko{a b}:Pp.dep (.bG a b)=max a.dep b.dep+1:=rfl
theorem oA{z1 ps}:Pp.dep (.cD z1 ps)=Pp.deps ps+1:=rfl
mutual
noncomputable def Pp.sz:Pp->Nat
 | .cQ w=>w.length+40
 | .cZ t=>t.sz+40
 | .db w ps=>w.length+40+(ps.map λx=>x.1.length+x.2.sz+5).sum
 | .cH p=>p.sz+40
 | .bG a b=>a.sz+b.sz+10
 | .cD w ps=>w.length+40+Pp.szs ps
noncomputable def Pp.szs:List Pp->Nat
 | []=>0
 |p::ps=>p.sz+2+Pp.szs ps
end
theorem wx:Pp.szs []=0:=rfl
theorem pV{p ps}:Pp.szs (p::ps)=p.sz+2+Pp.szs ps:=rfl
theorem zv{w}:Pp.sz (.cQ w)=w.length+40:=rfl
theorem rK{t}:Pp.sz (.cZ t)=t.sz+40:=rfl
theorem pT{w ps}:Pp.sz (.db w ps)=(w.length+40+(ps.map λx=>x.1.length+x.2.sz+5).sum):=rfl
theorem rL{p}:Pp.sz (.cH p)=p.sz+40:=rfl
theorem jK{a b}:Pp.sz (.bG a b)=a.sz+b.sz+10:=rfl
theorem pU{w ps}:Pp.sz (.cD w ps)=w.length+40+Pp.szs ps:=rfl
theorem rJ(ps:List Pp):Pp.encs ps=ps.map Pp.enc:=by induction ps<;>simp_all [MN,DZ]
theorem Ec(ps:List Pp):Pp.sps ps=ps.map Pp.cP:=by induction ps<;>simp_all [Eb,zu,Pp.cP]
theorem Pp.deps_mem:∀{ps:List Pp} {t:Pp},t∈ps->t.dep<=Pp.deps ps
 |u::ps,t,h=>by
  rcases XC h with rfl |h
  ·simp only[wm];exact Ct
  ·have:=Pp.deps_mem h;simp only[wm];exact qT this Cu
theorem Pp.szs_mem:∀{ps:List Pp} {t:Pp},t∈ps->t.sz<=Pp.szs ps
 |u::ps,t,h=>by
  rcases XC h with rfl |h
  ·simp only[pV];exact bT iO
  ·have:=Pp.szs_mem h;simp only[pV];exact sX this
theorem Pp.szs_len:∀ps:List Pp,ps.length<=Pp.szs ps
 | []=>by simp[wx]
 |t::ts=>by have:=Pp.szs_len ts;simp only[pV,Xq];exact ph this pi rfl
theorem AQ{α:Type}(f:α->Nat):∀{l:List α} {x:α},x∈l->f x<=(l.map f).foldr max 0
 |y::l,x,h=>by
  rw[Xw,List.foldr_cons]
  rcases XC h with rfl |h
  ·exact Ct
  ·have:=AQ f h;exact qT this Cu
theorem CL{α:Type}(f:α->Nat):∀{l:List α} {x:α},x∈l->f x<=(l.map f).sum
 |y::l,x,h=>by
  rw[Xw,Yk]
  rcases XC h with rfl |h
  ·exact iO
  ·have:=CL f h;exact sX this
theorem yn{α:Type}(f:α->Nat)(hf:∀x,1<=f x):∀(l:List α),l.length<=(l.map f).sum
 | []=>by simp
 |y::l=>by have:=yn f hf l;have:=hf y;rw[Xw,Yk,Xq];lia
theorem ym{α:Type}{f g:α->Nat}:∀(l:List α),(∀x∈l,f x<=g x)->(l.map f).sum<=(l.map g).sum
 | [],_=>by simp
 |y::l,h=>by
  have h1:=h y (Xz ..)
  have h2:=ym l λx hx=>h x (XA _ hx)
  simp only[Xw,Yk];exact qF h1 h2
theorem tY(l:List ar):(ar.p l).text.length<=2+(l.map λr=>r.text.length+1).sum:=by
 have h:=Bp [32] (ar.texts l)
 rw[rQ,XN]at h
 have e:((λx:List Nat=>x.length+[32].length) ∘ ar.text)=λr:ar=>r.text.length+1:=rfl
 rw[e]at h
 simp only[ie,rQ,Xn,Xq,XR]at *
 exact hX (x0 h)
theorem yv(p:Pp)(h:(p.sp.map λr=>r.text.length+1).sum+15<=p.sz):(jf p.eG p.sp).text.length+8<=p.sz:=by
 unfold jf
 cases p.eG with
 |true=>
  have:=tY (.w dA::p.sp)
  simp only[if_true,Xw,Yk,gU,ie,Xq,XR]at *
  lia
 |false=>
  simp only[Zl,if_false]
  cases hs:p.sp with
  |nil=>simp[gU];exact cG h
  |cons r l=>rw[hs]at h;simp only[List.headD_cons,Xw,Yk]at *;lia
mutual
theorem Pp.sp_len:∀p:Pp,(p.sp.map λr=>r.text.length+1).sum+15<=p.sz
 | .cQ w=>by simp[MX,zv,gU,ie,pY,lY,oX,qy]
 | .cZ t=>by
  have:=Tm.text_len t
  simp[D4,rK,gU,ie,pY,lY,oX,qy,Tm.raw_text];exact d5 this
 | .db w ps=>by
  have h:=tY (.w fP::.w w::ps.flatMap λx=>[.w x.1,x.2.raw])
  have h2:((ps.flatMap λx=>[ar.w x.1,x.2.raw]).map λr=>r.text.length+1).sum<=(ps.map λx=>x.1.length+x.2.sz+5).sum:=by
   induction ps with
   |nil=>simp
   |cons x ps ih=>
    have:=Tm.text_len x.2
    have ih':=ih (tY _)
    rw[List.flatMap_cons,XV,List.sum_append]
    simp only[Xw,YH,Yk,List.sum_nil,gU,ie,Tm.raw_text]at *
    lia
  simp only[D5,pT,Xw,YH,Yk,List.sum_nil,gU,ie,Xq,XR]at *
  lia
 | .cH p=>by
  have h1:=Pp.sp_len p
  have h2:=yv p h1
  have h:=tY [.w eV,jf p.eG p.sp]
  simp only[D7,rL,Xw,YH,Yk,List.sum_nil,gU,ie,Xq,XR]at *
  lia
 | .bG a b=>by
  have h1:=Pp.sp_len a
  have h2:=Pp.sp_len b
  have h3:=yv b h2
  simp only[wt,jK,XV,List.sum_append,Xw,YH,Yk,List.sum_nil]at *
  lia
 | .cD w ps=>by
  have h:=tY (.w gf::.w w::Pp.sps ps)
  have h2:=Pp.sps_len ps
  simp only[D8,pU,Xw,YH,Yk,List.sum_nil,gU,ie,Xq,XR]at *
  lia
theorem Pp.sps_len:∀ps:List Pp,((Pp.sps ps).map λr=>r.text.length+1).sum<=Pp.szs ps
 | []=>by simp[Eb,wx]
 |p::ps=>by
  have h1:=Pp.sp_len p
  have h2:=yv p h1
  have h3:=Pp.sps_len ps
  simp only[zu,pV,Xw,Yk]at *
  lia
end
theorem Pp.D3(p:Pp):p.cP.text.length+8<=p.sz:=yv p (Pp.sp_len p)
theorem UJ(ws:List (List Nat)):jB (ws.map V.s)=some ws:=by induction ws<;>simp_all [Ke,CJ]
theorem SQ{d:Nat}{k:List Nat}{a:Nat}{ws:List (List Nat)}(h1:ρ 1=some (.s k))(h2:ρ 2=some (.r a))(h3:σ[a]? =some (.l (ws.map V.s)))(hl:ws.length < aK)(ht:(ar.p (.w k::ws.map .w)).text.length<=aK):
  ae d 12 [.r (.i .a (.i .a (.c (.s [40])) (.m 5 (.c (.s [32])) [(.i .a (.d [(.v 1)]) (.v 2))])) (.c (.s [41])))] ρ σ (.r (.s (ar.p (.w k::ws.map .w)).text)) ρ ((σ++[.l [.s k]])++[.l ([.s k]++ws.map V.s)]):=by
 have e:(ar.p (.w k::ws.map .w)).text=[40]++cy [32] (k::ws)++[41]:=by
  have e:(ws.map ar.w).map ar.text=ws:=by rw[XN];exact(YU λ_ _=>rfl).trans (List.map_id _)
  simp only[gU,ie,rQ,Xw,e]
 rw[e]at ht ⊢
 simp only[Xn,Xq,XR]at ht
 have o1:aD ([V.s k]++ws.map V.s):=by simp[aD];exact hl
 have o2:aD (cy [32] (k::ws)):=by unfold aD;exact cG (hX ht)
 have o3:aD ([40]++cy [32] (k::ws)):=by unfold aD;simp;lia
 have o4:aD ([40]++cy [32] (k::ws)++[41]):=by unfold aD;simp;lia
 have o5:aD ([32]:List Nat):=by unfold aD aK;decide
 have hj:jB ([V.s k]++ws.map V.s)=some (k::ws):=UJ (k::ws)
 exact be (bM (bX (bX aq (dn aq rfl (Xh (bX (dp (Xh (af h1))) (af h2) (pb aX (bO _ _ h3) o1))) rfl (IS aX hj o1 o5 o2)) (nI o3)) aq (nI o4)))
theorem sW{d:Nat}{k:List Nat}{ρ₂:aA}{a:Nat}{ws:List (List Nat)}(hk:P.enc=.t (.s k::xs))(hr:P.cP=.p (.w k::ws.map .w)∨P.cP.text=(ar.p (.w k::ws.map .w)).text)(hs:P.sz<=aK)
  (h:∀s,AK.dZ[1]? =some s->ai d 12 s (au (bf [P.enc]) 1 (.s k)) σ .n ρ₂ σ₁) (h1:ρ₂ 1=some (.s k)) (h2:ρ₂ 2=some (.r a)) (h3:σ₁[a]? =some (.l (ws.map V.s))) (hl:ws.length < aK) (hp:σ <+:σ₁):
  aL (d+1) 1 [P.enc] σ (.s P.cP.text) σ:=by
 have e:P.cP.text=(ar.p (.w k::ws.map .w)).text:=by rcases hr with h |h;(rw[h]);exact h
 have hb:=P.D3
 rw[e]at hb ⊢
 refine fV (f:=AK) rfl rfl (ao (bh (v:=.s k) ?_ ba) (ao (h _ rfl) (SQ h1 h2 h3 hl (bT (qT hb hs))))) (iz (iz hp)) rfl
 refine bi (af (v:=P.enc) rfl) aq ?_
 rw[hk]
 exact c9 (bg rfl) rfl
theorem sV{d i:Nat}{k:List Nat}(h:ρ i=some (.s k)):Ev d 30 (.p .e (.v i) (.c (.s k))) ρ σ (.b true) σ:=aY (af h) aq (by refine(?_:some (decide (k=k))=_);rw[XL rfl]) (Xo _)
theorem iN{d i:Nat}{k c:List Nat}(h:ρ i=some (.s k))(hn:decide (k=c)=false):Ev d 30 (.p .e (.v i) (.c (.s c))) ρ σ (.b false) σ:=aY (af h) aq (by refine(?_:some _=_);rw[hn]) (Xo _)
theorem Tz(d:Nat)(w:List Nat)(hs:(Pp.cQ w).sz<=aK)(σ:aj):aL (d+1) 1 [(Pp.cQ w).enc] σ (.s (Pp.cQ w).cP.text) σ:=by
 refine sW (k:=mu) (xs:=[.s w]) (ws:=[w]) (a:=σ.length) (ρ₂:=au (au (bf [(Pp.cQ w).enc]) 1 (.s mu)) 2 (.r σ.length)) (σ₁:=σ++[.l [.s w]]) rfl (.inl rfl) hs (λs h=>?_) rfl rfl aX (by refine(?_:1 < aK);unfold aK;decide) (Yd _ _)
 cases h
 refine bC (iN rfl rfl) (Xi (cW (sV rfl) (Xi (bh (v:=.r σ.length) (σ₁:=σ++[.l [.s w]]) (dp (Xh (bi (af rfl) aq (c9 ⟨by decide,by decide⟩ rfl)))) ba))))
theorem Qn(sep:List Nat)(f g:List Nat×Tm->List Nat)(ps:List (List Nat×Tm))(a:List Nat):cy sep (a::ps.flatMap λx=>[f x,g x])=cy sep (a::ps.map λx=>f x++sep++g x):=by
 induction ps generalizing a with
 |nil=>rfl
 |cons x ps ih=>
  have h:=ih (g x)
  have e:∀b:List Nat,∀l:List (List Nat),cy sep (b::l)=b++(match l with | []=>[] |_=>sep++cy sep l):=by
   intro b l;cases l<;>simp[oX,qy]
  rw[List.flatMap_cons,Xw]
  refine(?_:a++sep++cy sep (f x::g x::ps.flatMap λx=>[f x,g x])=a++sep++cy sep ((f x++sep++g x)::ps.map λx=>f x++sep++g x))
  have h1:cy sep (f x::g x::ps.flatMap λx=>[f x,g x])=f x++sep++cy sep (g x::ps.flatMap λx=>[f x,g x]):=rfl
  rw[h1,h,e (g x),e (f x++sep++g x)]
  simp only[XM]
theorem RP{w:List Nat}{ps:List (List Nat×Tm)}:(Pp.db w ps).cP.text=(ar.p (.w fP::(w::ps.map λx=>x.1++[32]++x.2.text).map .w)).text:=by
 have e1:∀l:List (List Nat),(l.map ar.w).map ar.text=l:=λl=>by rw[XN];exact(YU λ_ _=>rfl).trans (List.map_id _)
 have e2:(ps.flatMap λx=>[ar.w x.1,x.2.raw]).map ar.text=ps.flatMap λx=>[x.1,x.2.text]:=by
  rw[List.map_flatMap];congr 1;funext x;simp[gU,Tm.raw_text]
 refine(?_:[40]++cy [32] (ar.texts (.w fP::.w w::ps.flatMap λx=>[.w x.1,x.2.raw]))++[41]=_)
 simp only[gU,ie,rQ,Xw,e1,e2]
 have:=Qn [32] (λx=>x.1) (λx=>x.2.text) ps w
 refine(?_:_++((fP:List Nat)++[32]++cy [32] (w::_))++_=_++((fP:List Nat)++[32]++cy [32] (w::_))++_)
 rw[this]
theorem OD{d n j k:Nat}{e:Ex}(ps:List Pp)(f:Pp->List Nat)(he:Ev d (n+2) e ρ σ (.t (ps.map Pp.enc)) σ₁)(hl:ps.length<=aK)(h:∀p∈ps,aL d k [p.enc] σ₁ (.s (f p)) σ₁):
  Ev d (n+3) (.o (.l k [.v j]) [.m (.v j) (.e e) []]) ρ σ (.r σ₁.length) (σ₁++[.l ((ps.map f).map V.s)]):=by
 refine dU (S:=.bx (ps.map Pp.enc)) (jJ he (by unfold aD;simpa using hl)) ?_
 have:=gI (d:=d) (n:=n+2) (elt:=.l k [.v j]) (tg:=.v j) (ρ:=ρ) (σ:=σ₁) (S:=.bx (ps.map Pp.enc)) (λ_=>rfl) (λ_=>trivial) Pp.enc (λp=>V.s (f p)) ps (λp hp=>aC _ rfl (cw (Xh (af (bw _ _ _))) (h p hp))) [] (by unfold aD;simpa using hl)
 rw[XT]at this
 rw[XN];exact this
theorem OF{d n j k q:Nat}{e:Ex}(ps:List Pp)(f:Pp->List Nat)(he:Ev d (n+2) e ρ σ (.r q) σ₁)(hq:σ₁[q]? =some (.l (ps.map Pp.enc)))(hl:ps.length<=aK)(h:∀p∈ps,aL d k [p.enc] σ₁ (.s (f p)) σ₁):
  Ev d (n+3) (.o (.l k [.v j]) [.m (.v j) (.e e) []]) ρ σ (.r σ₁.length) (σ₁++[.l ((ps.map f).map V.s)]):=by
 refine dU (S:=.cr q (ps.map Pp.enc)) (fe he hq (by unfold aD;simpa using hl)) ?_
 have:=gI (d:=d) (n:=n+2) (elt:=.l k [.v j]) (tg:=.v j) (ρ:=ρ) (σ:=σ₁) (S:=.cr q (ps.map Pp.enc)) (λ_=>rfl) (λ_=>hq) Pp.enc (λp=>V.s (f p)) ps (λp hp=>aC _ rfl (cw (Xh (af (bw _ _ _))) (h p hp))) [] (by unfold aD;simpa using hl)
 rw[XT]at this
 rw[XN];exact this
noncomputable def Pp.zn:Pp->List Nat
 | .cQ _=>mu
 | .cZ _=>i6
 | .db _ _=>fP
 | .cH _=>eV
 | .bG _ _=>dA
 | .cD _ _=>gf
theorem Pp.DY(p:Pp):∃ys,p.enc=.t (.s p.zn::ys):=by cases p<;>exact fA _ rfl
theorem qU{α:Type}:∀{l:List α} {i:Nat} {x:α},l[i]? =some x->l.set i x=l
 | [],_,_,_=>rfl
 |y::l,0,x,h=>by simp at h;simp[h]
 |y::l,i+1,x,h=>by simp at h;simp[qU h]
theorem I7{d:Nat}{r:Nat}:∀(a b:Pp) (xs:List V) (ρ:aA) (σ:aj),ρ 0=some ((Pp.bG a b).enc)->ρ 3=some (.r r)->σ[r]? =some (.l xs)->xs.length+a.right.length<=aK->
  ∃c ρ',ai d 7 (.w (.p .e (.s (.s (.v 0) (.c (.i 1))) (.c (.i 0))) (.c (.s [106,111,105,110]))) [.a (.v 0) (.s (.v 0) (.c (.i 1))),
   .e (.m 0 (.v 3) [(.s (.v 0) (.c (.i 2)))])]) ρ σ .n ρ' (σ.set r (.l (xs++a.right.reverse.map Pp.enc)))/\ρ' 0=some ((Pp.bG a.left c).enc)/\ρ' 3=some (.r r)/\ρ' 1=ρ 1
 | .bG a1 b1,b,xs,ρ,σ,h0,h3,hr,hl=>by
  have hl':(xs++[b1.enc]).length+a1.right.length<=aK:=by simp only[pS,Xn,Xq,XR]at *;exact gj hl
  have o1:aD xs:=by unfold aD;simp only[pS,Xn,Xq,XR]at *;exact bT hl
  obtain⟨c,ρ',h,g0,g3,g1⟩:=I7 a1 b1 (xs++[b1.enc]) (au ρ 0 ((Pp.bG a1 b1).enc)) (σ.set r (.l (xs++[b1.enc]))) (bw _ _ _) (by rw[bR _ _ (by decide)];exact h3) (cR hr) hl'
  rw[Yl]at h
  have e:xs++(Pp.bG a1 b1).right.reverse.map Pp.enc=xs++[b1.enc]++a1.right.reverse.map Pp.enc:=by simp[pS]
  rw[e]
  refine dh c ρ' (lZ (σ₁:=σ) ?_ (ao (bh (v:=(Pp.bG a1 b1).enc) (σ₁:=σ) ?_ ba) (Xi (du (v:=.n) ?_))) h) g0 g3 (by rw[g1,bR _ _ (by decide)])
  ·refine aY (u:=.s dA) (bi (u:=(Pp.bG a1 b1).enc) (bi (af h0) aq (c9 (bg rfl) rfl)) aq (c9 (bg rfl) rfl)) aq rfl (Xo _)
  ·exact bi (af h0) aq (c9 (bg rfl) rfl)
  ·have h3':(au ρ 0 (Pp.bG a1 b1).enc) 3=some (.r r):=by rw[bR _ _ (by decide)];exact h3
   have h0':(au ρ 0 (Pp.bG a1 b1).enc) 0=some (Pp.bG a1 b1).enc:=bw _ _ _
   refine dn (af h3') (eI hr rfl) (Xh (bi (af h0') aq (c9 (bg rfl) rfl))) rfl (pd hr o1)
 | .cQ _,b,xs,ρ,σ,h0,h3,hr,hl=>done rfl rfl rfl h0 h3 hr
 | .cZ _,b,xs,ρ,σ,h0,h3,hr,hl=>done rfl rfl rfl h0 h3 hr
 | .db _ _,b,xs,ρ,σ,h0,h3,hr,hl=>done rfl rfl rfl h0 h3 hr
 | .cH _,b,xs,ρ,σ,h0,h3,hr,hl=>done rfl rfl rfl h0 h3 hr
 | .cD _ _,b,xs,ρ,σ,h0,h3,hr,hl=>done rfl rfl rfl h0 h3 hr
where
 done {d r:Nat} {a b:Pp} {xs:List V} {ρ:aA} {σ:aj} (e1:a.left=a) (e2:a.right=[]) (hj:decide (a.zn=dA)=false) (h0:ρ 0=some ((Pp.bG a b).enc)) (h3:ρ 3=some (.r r)) (hr:σ[r]? =some (.l xs)):
  ∃c ρ',ai d 7 (.w (.p .e (.s (.s (.v 0) (.c (.i 1))) (.c (.i 0))) (.c (.s [106,111,105,110]))) [.a (.v 0) (.s (.v 0) (.c (.i 1))),
   .e (.m 0 (.v 3) [(.s (.v 0) (.c (.i 2)))])]) ρ σ .n ρ' (σ.set r (.l (xs++a.right.reverse.map Pp.enc)))/\ρ' 0=some ((Pp.bG a.left c).enc)/\ρ' 3=some (.r r)/\ρ' 1=ρ 1:=by
  rw[e1,e2]
  obtain⟨ys,hy⟩:=a.DY
  have es:σ.set r (.l (xs++([]:List Pp).reverse.map Pp.enc))=σ:=by simp[qU hr]
  rw[es]
  refine dh b ρ (iY (aY (u:=.s a.zn) (bi (u:=a.enc) (bi (af h0) aq (c9 (bg rfl) rfl)) aq ?_) aq (by refine(?_:some _=_);rw[hj]) (Xo _))) h0 h3 rfl
  rw[hy];exact c9 (bg rfl) rfl
theorem Pp.left_dep:∀(p:Pp),p.left.dep<=p.dep/\p.left.sz<=p.sz/\∀q∈p.right,q.dep+1<=p.dep/\q.sz<=p.sz
 | .cQ _ | .cZ _ | .db _ _ | .cH _ | .cD _ _=>⟨Xp _,Xp _,λq h=>(by cases h)⟩
 | .bG a b=>by
  refine cN (Pp.left_dep a) λh1 h2 h3=>?_
  refine fy ?_ ?_ (λq h=>?_)
  ·simp only[wn,ko];exact qGf h1
  ·simp only[wn,jK];exact Cq (d5 h2)
  ·simp only[pS]at h
   rcases XD h with h |h
   ·have:=h3 q h;simp only[ko,jK];exact qGd this
   ·rw[Yu]at h;subst h;simp only[ko,jK];exact qGe
theorem Pp.right_len:∀(p:Pp),p.right.length<=p.sz
 | .cQ _ | .cZ _ | .db _ _ | .cH _ | .cD _ _=>Xo _
 | .bG a b=>by have:=Pp.right_len a;simp only[pS,jK,Xn,Xq,XR];exact x3 this pi rfl
theorem ye:∀(d:Nat) (P:Pp),P.dep<=d->P.sz<=aK->∀σ,aL d 1 [P.enc] σ (.s P.cP.text) σ
 |0,P,h,_,_=>by cases P<;>simp[wj,pQ,pR,oy,ko,oA]at h
 |d+1,.cQ w,_,hs,σ=>Tz d w hs σ
 |d+1,.cZ t,h,hs,σ=>by
  have hr:=CA d t (by simp only[pQ]at h;exact jc h) (by simp only[rK]at hs;exact bT hs) σ
  refine sW (k:=i6) (xs:=[t.enc]) (ws:=[t.text]) (a:=σ.length) (ρ₂:=au (au (bf [(Pp.cZ t).enc]) 1 (.s i6)) 2 (.r σ.length)) (σ₁:=σ++[.l [.s t.text]]) rfl (.inr (by
   refine(?_:(ar.p [.w i6,t.raw]).text=(ar.p [.w i6,.w t.text]).text)
   simp only[gU,ie,pY,lY,Tm.raw_text])) hs (λs h=>?_) rfl rfl aX (by refine(?_:1 < aK);unfold aK;decide) (Yd _ _)
  cases h
  refine cW (sV rfl) (Xi (bh (dp (Xh (cw (Xh (bi (u:=(Pp.cZ t).enc) (af rfl) aq (c9 (bg rfl) rfl))) hr))) ba))
 |d+1,.db w ps,h,hs,σ=>by
  have hl:ps.length<=(ps.map λx=>x.1.length+x.2.sz+5).sum:=yn _ (λx=>gh) ps
  simp only[pR,pT]at h hs
  have o1:aD ([V.s w]++ps.map λx=>V.s (x.1++[32]++x.2.text)):=by simp[aD];exact ph hl hs rfl
  have hc:∀ρ σ,ρ 0=some (Pp.db w ps).enc->Ev d 29 (.o (.i .a (.i .a (.v 4) (.c (.s [32]))) (.l 0 [(.v 5)])) [.m (.t [(.v 4),(.v 5)]) (.e (.s (.v 0) (.c (.i 2)))) []]) ρ σ (.r σ.length) (σ++[.l (ps.map λx=>V.s (x.1++[32]++x.2.text))]):=λρ σ h0=>by
   refine dU (S:=.bx (ps.map dG)) (jJ (bi (af h0) aq (c9 (bg rfl) rfl)) (by unfold aD;simp;exact qT hl (cG hs))) ?_
   have:=gI (d:=d) (n:=28) (elt:=.i .a (.i .a (.v 4) (.c (.s [32]))) (.l 0 [(.v 5)])) (tg:=.t [(.v 4),(.v 5)]) (ρ:=ρ) (σ:=σ) (S:=.bx (ps.map dG)) (λ_=>rfl) (λ_=>trivial) dG (λx=>V.s (x.1++[32]++x.2.text)) ps (λx hx=>by
    have hm:=CL (λx:List Nat×Tm=>x.1.length+x.2.sz+5) hx
    have hd:=AQ (λx:List Nat×Tm=>x.2.dep) hx
    have ht:=Tm.text_len x.2
    try simp only at hm hd
    refine aC (au (au ρ 4 (.s x.1)) 5 x.2.enc) rfl (bX (bX (af (by rw[bR _ _ (by decide)];exact bw _ _ _)) aq (nI (by unfold aD;simp;lia))) (cw (Xh (af (bw _ _ _))) (CA d x.2 (qT hd (jc h)) (JE hm hs) σ)) (nI (by unfold aD;simp;lia)))) [] (by unfold aD;simp;exact qT hl (cG hs))
   exact this
  refine sW (k:=fP) (xs:=[.s w,.t (ps.map dG)]) (ws:=w::ps.map λx=>x.1++[32]++x.2.text) (ρ₂:=au (au (bf [(Pp.db w ps).enc]) 1 (.s fP)) 2 (.r (σ++[O.l [.s w]]++[O.l (ps.map λx=>V.s (x.1++[32]++x.2.text))]).length))
   (σ₁:=σ++[.l [.s w]]++[.l (ps.map λx=>V.s (x.1++[32]++x.2.text))]++[.l ([.s w]++ps.map λx=>V.s (x.1++[32]++x.2.text))]) rfl (.inr RP) (by simp only[pT];exact hs) (λs h=>?_) rfl rfl (by rw[aX,Xw,XN];rfl) (by simp;exact JF hl hs) (by repeat first |exact Yh _ |apply iz)
  cases h
  refine bC (iN rfl rfl) (Xi (bC (iN rfl rfl) (Xi (cW (sV rfl) (Xi (bh (bX (dp (Xh (bi (u:=(Pp.db w ps).enc) (af rfl) aq (c9 (bg rfl) rfl)))) (hc _ _ rfl) (pb (bO _ _ aX) aX o1)) ba))))))
 |d+1,.cH p,h,hs,σ=>by
  have hr:=ye d p (by simp only[oy]at h;exact jc h) (by simp only[rL]at hs;exact bT hs) σ
  refine sW (k:=eV) (xs:=[p.enc]) (ws:=[p.cP.text]) (a:=σ.length) (ρ₂:=au (au (bf [(Pp.cH p).enc]) 1 (.s eV)) 2 (.r σ.length)) (σ₁:=σ++[.l [.s p.cP.text]]) rfl (.inr (by
   refine(?_:(ar.p [.w eV,p.cP]).text=(ar.p [.w eV,.w p.cP.text]).text)
   simp only[gU,ie,pY,lY])) hs (λs h=>?_) rfl rfl aX (by refine(?_:1 < aK);unfold aK;decide) (Yd _ _)
  cases h
  refine bC (iN rfl rfl) (Xi (bC (iN rfl rfl) (Xi (bC (iN rfl rfl) (Xi (bC (iN rfl rfl) (Xi (cW (sV rfl) (Xi (bh (dp (Xh (cw (Xh (bi (u:=(Pp.cH p).enc) (af rfl) aq (c9 (bg rfl) rfl))) hr))) ba))))))))))
 |d+1,.cD w ps,h,hs,σ=>by
  have hl:=Pp.szs_len ps
  simp only[oA,pU]at h hs
  have hc:=λρ σ e=>OD (d:=d) (n:=26) (j:=6) (k:=1) (ρ:=ρ) (σ:=σ) (σ₁:=σ) (e:=.s (.v 0) (.c (.i 2))) ps (λp=>p.cP.text) (bi (u:=(Pp.cD w ps).enc) (af e) aq (c9 (bg rfl) (by rw[<-rJ];rfl))) (qT hl (cG hs)) (λp hp=>ye d p (by have:=Pp.deps_mem hp;exact qT this (jc h)) (by have:=Pp.szs_mem hp;exact qT this (cG hs)) σ)
  have o1:aD ([V.s w]++(ps.map λp=>p.cP.text).map V.s):=by simp[aD];exact ph hl hs rfl
  refine sW (k:=gf) (xs:=[.s w,.t (Pp.encs ps)]) (ws:=w::ps.map λp=>p.cP.text) (ρ₂:=au (au (bf [(Pp.cD w ps).enc]) 1 (.s gf)) 2 (.r (σ++[O.l [.s w]]++[O.l ((ps.map λp=>p.cP.text).map V.s)]).length))
   (σ₁:=σ++[.l [.s w]]++[.l ((ps.map λp=>p.cP.text).map V.s)]++[.l ([.s w]++(ps.map λp=>p.cP.text).map V.s)]) rfl (.inr (by
    refine(?_:(ar.p (.w gf::.w w::Pp.sps ps)).text=_)
    simp only[gU,ie,rQ,Ec,Xw,XN]
    rfl)) (by simp only[pU];exact hs) (λs h=>?_) rfl rfl aX (by simp;exact JF hl hs) (by repeat first |exact Yh _ |apply iz)
  cases h
  refine bC (iN rfl rfl) (Xi (bC (iN rfl rfl) (Xi (bC (iN rfl rfl) (Xi (cW (sV rfl) (Xi (bh (bX (dp (Xh (bi (u:=(Pp.cD w ps).enc) (af rfl) aq (c9 (bg rfl) rfl)))) (hc _ _ rfl) (pb (bO _ _ aX) aX o1)) ba))))))))
 |d+1,.bG a b,h,hs,σ=>by
  have hl:=Pp.right_len a
  refine cN (Pp.left_dep a) λl1 l2 l3=>?_
  simp only[ko,jK]at h hs
  have hb:aK=1000000:=rfl
  have hr:(σ++[O.l [b.enc]])[σ.length]? =some (.l [b.enc]):=aX
  refine dj (I7 (d:=d) a b [b.enc] (au (au (bf [(Pp.bG a b).enc]) 1 (.s dA)) 3 (.r σ.length)) (σ++[.l [b.enc]]) rfl rfl hr (by simp;exact vm (x3 hl hs rfl))) λc ρ' hw g0 g3 g1=>?_
  have e1:(σ++[O.l [b.enc]]).set σ.length (.l ([b.enc]++a.right.reverse.map Pp.enc))=σ++[.l ([b.enc]++a.right.reverse.map Pp.enc)]:=uu _ _ _
  rw[e1]at hw
  have e2:[a.left.enc]++([b.enc]++a.right.reverse.map Pp.enc).reverse=(a.left::a.right++[b]).map Pp.enc:=by simp
  have o1:aD ([b.enc]++a.right.reverse.map Pp.enc):=by unfold aD;simp;exact x3 hl hs rfl
  have o2:aD ([a.left.enc]++([b.enc]++a.right.reverse.map Pp.enc).reverse):=by unfold aD;simp;exact JG hl hs
  have o3:(a.left::a.right++[b]).length<=aK:=by simp;exact JG hl hs
  have dq:∀p∈a.left::a.right++[b],p.dep<=d/\p.sz<=aK:=λp hp=>by
   rcases XD hp with hp |hp
   ·rcases XC hp with rfl |hp
    ·lia
    ·have:=l3 p hp;lia
   ·rw[Yu]at hp;subst hp;lia
  have he:Ev d 29 (.i .a (.d [(.s (.v 0) (.c (.i 1)))]) (.k (.v 3))) ρ' (σ++[.l ([b.enc]++a.right.reverse.map Pp.enc)]) (.r (σ++[O.l ([b.enc]++a.right.reverse.map Pp.enc)]++[O.l [a.left.enc]]++[O.l ([b.enc]++a.right.reverse.map Pp.enc).reverse]).length)
    (σ++[O.l ([b.enc]++a.right.reverse.map Pp.enc)]++[.l [a.left.enc]]++[.l ([b.enc]++a.right.reverse.map Pp.enc).reverse]++[.l ([a.left.enc]++([b.enc]++a.right.reverse.map Pp.enc).reverse)]):=by
   refine bX (dp (Xh (bi (af g0) aq (c9 (bg rfl) rfl)))) (yL (af g3) (Cf (bO _ _ aX) o1)) (pb (bO _ _ aX) aX o2)
  have hc:=OF (d:=d) (n:=27) (j:=7) (k:=1) (a.left::a.right++[b]) (λp=>p.cP.text) he (by rw[aX,e2]) o3 (λp hp=>ye d p (dq p hp).1 (dq p hp).2 _)
  refine' sW (k:=dA) (xs:=[a.enc,b.enc]) (ws:=(a.left::a.right++[b]).map λp=>p.cP.text) (ρ₂:=au ρ' 2 _) rfl (.inr ?hr) (by simp only[jK];exact hs) (λs h=>?hh) (by rw[bR _ _ (by decide)];exact g1) (bw _ _ _) ?h3 (by simp;lia) ?hp
  case hh=>
   cases h
   refine bC (iN rfl rfl) (Xi (bC (iN rfl rfl) (Xi (bC (iN rfl rfl) (Xi (bC (iN rfl rfl) (Xi (bC (iN rfl rfl) (ao (bh (dp (Xh (bi (u:=(Pp.bG a b).enc) (af rfl) aq (c9 (bg rfl) rfl)))) ba) (ao ?_ (Xi (bh hc ba))))))))))))
   exact hw
  case hr=>
   refine(?_:(jf true (a.sp++[b.cP])).text=_)
   rw[Pp.sp_eq]
   refine(?_:(ar.p (.w dA::(((a.left::a.right).map Pp.cP)++[b.cP]))).text=_)
   simp only[gU,ie,rQ,Xw,XV,XN,YH]
   rfl
  case h3=>exact aX
  case hp=>repeat first |exact Yh _ |apply iz
noncomputable def nc(c:Nat):Prop:=c≠40/\c≠41/\c≠32
noncomputable def im(w:List Nat):Prop:=w≠[]/\∀c∈w,nc c
mutual
noncomputable def ar.good:ar->Prop
 | .w s=>im s
 | .p l=>ar.goods l
noncomputable def ar.goods:List ar->Prop
 | []=>True
 |r::rs=>r.good/\ar.goods rs
end
theorem M1{s}:ar.good (.w s)=im s:=rfl
theorem M2{l}:ar.good (.p l)=ar.goods l:=rfl
theorem Ed:ar.goods []=True:=rfl
theorem Ee{r rs}:ar.goods (r::rs)=(r.good/\ar.goods rs):=rfl
mutual
noncomputable def RR(σ:aj)(S:List Nat):ar->V->Prop
 | .w s,v=>v=.s s
 | .p l,v=>∃a vs,v=.r a/\a∉S/\σ[a]? =some (.l vs)/\dc σ S l vs
noncomputable def dc(σ:aj)(S:List Nat):List ar->List V->Prop
 | [],vs=>vs=[]
 |r::rs,vs=>∃v us,vs=v::us/\RR σ S r v/\dc σ S rs us
end
theorem oC{σ S s v}:RR σ S (.w s) v=(v=.s s):=rfl
theorem rP{σ S l v}:RR σ S (.p l) v=(∃a vs,v=.r a/\a∉S/\σ[a]? =some (.l vs)/\dc σ S l vs):=rfl
theorem oE{σ S vs}:dc σ S [] vs=(vs=[]):=rfl
theorem jM{σ S r rs vs}:dc σ S (r::rs) vs=(∃v us,vs=v::us/\RR σ S r v/\dc σ S rs us):=rfl
section
variable {S S':List Nat}
mutual
theorem RR.mono(hS:∀a∈S',a∈S)(h:∀i o,σ[i]? =some o->i∉S->σ'[i]? =some o):∀(r:ar) {v:V},RR σ S r v->RR σ' S' r v
 | .w _,_,e=>e
 | .p l,v,e=>by
  simp only[rP]at e ⊢
  refine dj e ?_;clear e;intro a vs h1 h2 h3 h4
  exact dh a vs h1 (λhm=>h2 (hS a hm)) (h a _ h3 h2) (dc.mono hS h l h4)
theorem dc.mono(hS:∀a∈S',a∈S)(h:∀i o,σ[i]? =some o->i∉S->σ'[i]? =some o):∀(l:List ar) {vs:List V},dc σ S l vs->dc σ' S' l vs
 | [],_,e=>e
 |r::rs,vs,e=>by
  simp only[jM]at e ⊢
  refine cO e ?_;clear e;intro v us h1 h2 h3
  exact dN v us h1 (RR.mono hS h r h2) (dc.mono hS h rs h3)
end
mutual
theorem RR.more{D:Nat}(hD:σ.length<=D):∀(r:ar) {v:V},RR σ S r v->RR σ (D::S) r v
 | .w _,_,e=>e
 | .p l,v,e=>by
  simp only[rP]at e ⊢
  refine dj e ?_;clear e;intro a vs h1 h2 h3 h4
  have:=(XS h3).1
  exact dh a vs h1 (λhm=>by rcases XC hm with h |h;exact Cl (qT this hD) h;exact h2 h) h3 (dc.more hD l h4)
theorem dc.more{D:Nat}(hD:σ.length<=D):∀(l:List ar) {vs:List V},dc σ S l vs->dc σ (D::S) l vs
 | [],_,e=>e
 |r::rs,vs,e=>by
  simp only[jM]at e ⊢
  refine cO e ?_;clear e;intro v us h1 h2 h3
  exact dN v us h1 (RR.more hD r h2) (dc.more hD rs h3)
end
theorem dc.snoc{r:ar}{v:V}:∀{l:List ar} {vs:List V},dc σ S l vs->RR σ S r v->dc σ S (l++[r]) (vs++[v])
 | [],vs,h,h2=>by simp only[oE]at h;subst h;exact dN v ([]) rfl h2 rfl
 |q::l,vs,h,h2=>by
  simp only[jM]at h
  refine cO h ?_;clear h;intro u us q2 h3 h4;subst q2
  exact dN u (us++[v]) rfl h3 (dc.snoc h4 h2)
end
structure eA(p N:Nat)(st:List (Nat×List V))(wd:List Nat)(ρ:aA)(σ:aj):Prop where
 ox:σ[p]? =some (.l (st.map λx=>V.r x.1))
 kj:∀x∈st,σ[x.1]? =some (.l x.2)
 nd:(p::st.map (·.1)).Nodup
 V6:ρ 1=some (.r p)
 Wb:ρ 2=some (.s wd)
 n1:st.length<=N
 n2:∀x∈st,x.2.length<=N
 n3:wd.length<=N
noncomputable abbrev ij(p:Nat)(st:List (Nat×List V)):List Nat:=p::st.map (·.1)
noncomputable def iV(S:List Nat)(σ σ':aj):Prop:=∀i o,σ[i]? =some o->i∉S->σ'[i]? =some o
theorem iV.za{S:List Nat}(a:iV S σ σ')(b:iV S σ' σ''):iV S σ σ'':=λi o h hn=>b i o (a i o h hn) hn
theorem Mq{S:List Nat}{a:Nat}{o:O}(h:a∈S):iV S σ (σ.set a o):=λi q hi hn=>by
 rw[YW λe=>hn (by rw[<-e];exact h)];exact hi
noncomputable def nF:List St:=match AH.dZ with | [_,.l _ _ b,_]=>b |_=>[]
noncomputable def xV:St:=match nF with | [a,_]=>a |_=>.s
noncomputable def Sb:St:=match nF with | [_,a]=>a |_=>.s
theorem Qf{c:Nat}(h:nc c):gd [c] [40,41,32]=false:=by
 refine cN h ?_;clear h;intro h1 h2 h3
 simp[G7,Bk,List.isPrefixOf,h1,h2,h3]
section
variable {d p c:Nat}{st:List (Nat×List V)}{wd:List Nat}
theorem AO(h2:ρ 2=some (.s wd))(h3:ρ 3=some (.s [c]))(h:wd=[]∨nc c):ai d 11 xV ρ σ .n ρ σ:=by
 refine bC (σ₁:=σ) ?_ aP
 by_cases hc:nc c
 ·exact lK (aY (af h3) aq (by refine(?_:some _=_);rw[Qf hc]) (show dI .i _ from trivial))
 ·have hw:wd=[]:=h.resolve_right hc
  subst hw
  have hs:gd [c] [40,41,32]=true:=by
   by_cases h1:c=40
   ·subst h1;rfl
   ·by_cases h2:c=41
    ·subst h2;rfl
    ·by_cases h3:c=32
     ·subst h3;rfl
     ·exact absurd ⟨h1,h2,h3⟩ hc
  exact j8 (aY (af h3) aq (by refine(?_:some _=_);rw[hs]) (show dI .i _ from trivial)) (aY (af h2) aq rfl (Xo _))
theorem GQ(l:List α)(x:α):(dS (-1) (l++[x]).length).bind ((l++[x])[·]?)=some x:=by
 have h:dS (-1) (l++[x]).length=some l.length:=by
  unfold dS
  rw[Xv (by decide),Xr (by simp;lia)]
  congr 1
  simp;lia
 rw[h];simp
theorem vz{a b:List Nat}:gW σ .e (.s a) (.s b)=some (decide (a=b)):=rfl
theorem Bx{t:Nat}(P:eA p N (st++[(t,vs)]) wd ρ σ):σ[p]? =some (.l (st.map (λx=>V.r x.1)++[.r t]))/\σ[t]? =some (.l vs)/\p≠t/\(∀x∈st,x.1≠t/\x.1≠p):=by
 refine H7 (by rw[P.ox];simp) (P.kj (t,vs) (by simp)) ?_ (λx hx=>?_)
 ·have:=P.nd;simp only[XV,Xw,YH,Y9,List.mem_append,Yu,not_or]at this;exact this.1.2
 ·have:=P.nd
  rw[Y9]at this
  refine bc this ?_;clear this;intro h1 h2
  rw[XV,List.nodup_append]at h2
  refine bm (h2.2.2 x.1 (Y0 hx) t (by simp)) (λe=>h1 ?_)
  rw[<-e,XV];exact YA _ (Y0 hx)
theorem eA.MI{t:Nat}{vs':List V}{wd':List Nat}(P:eA p N (st++[(t,vs)]) wd ρ σ)(hN:N<=M)(hl:vs'.length<=M)(hw:wd'.length<=M)(e1:ρ' 1=some (.r p))(e2:ρ' 2=some (.s wd')):
  eA p M (st++[(t,vs')]) wd' ρ' (σ.set t (.l vs')):=by
 refine kM (Bx P) λh1 h2 h3 h4=>?_
 refine⟨?_,λx hx=>?_,by have:=P.nd;simpa using this,e1,e2,by have:=P.n1;simp at *;exact qT this hN,λx hx=>?_,hw⟩
 ·rw[aV (Yp h3),h1];simp
 ·rcases XD hx with hx |hx
  ·rw[aV (Yp (h4 x hx).1)];exact P.kj x (YA _ hx)
  ·rw[Yu]at hx;subst hx;exact cR h2
 ·rcases XD hx with hx |hx
  ·exact Xl (P.n2 x (YA _ hx)) hN
  ·rw[Yu]at hx;subst hx;exact hl
theorem PK{t:Nat}(P:eA p N (st++[(t,vs)]) wd ρ σ)(h3:ρ 3=some (.s [c]))(hc:gd [c] [40,41,32]=true)(hw:wd≠[])(hN:N+1<=aK):
  ai d 11 xV ρ σ .n (au ρ 2 (.s [])) (σ.set t (.l (vs++[.s wd]))):=by
 refine kM (Bx P) λh1 h2 _ _=>?_
 have o1:aD vs:=Xl (P.n2 (t,vs) (by simp)) (bT hN)
 refine cW (σ₁:=σ) (j8 (aY (af h3) aq (by refine(?_:some _=_);rw[hc]) (show dI .i _ from trivial)) (aY (af P.Wb) aq (by refine(?_:some _=_);simp[hw]) (Xo _)))
  (ao (du (v:=.n) ?_) (Xi (bh aq ba)))
 exact dn (bi (af P.V6) aq (dL h1 (bg rfl) (GQ _ _))) (eI h2 rfl) (Xh (af P.Wb)) rfl (pd h2 o1)
noncomputable def m8(vs:List V)(wd:List Nat):List V:=if wd=[]then vs else vs++[.s wd]
theorem GE{t:Nat}(P:eA p N (st++[(t,vs)]) wd ρ σ)(h3:ρ 3=some (.s [c]))(hc:gd [c] [40,41,32]=true)(hN:N+1<=aK):
  ∃ρ' σ',ai d 11 xV ρ σ .n ρ' σ'/\eA p (N+1) (st++[(t,m8 vs wd)]) [] ρ' σ'/\iV [t] σ σ'/\ρ' 3=some (.s [c]):=by
 by_cases hw:wd=[]
 ·subst hw
  refine dh ρ σ (AO P.Wb h3 (.inl rfl)) ?_ (λ_ _ h _=>h) h3
  exact⟨P.ox,P.kj,P.nd,P.V6,P.Wb,by have:=P.n1;simp at *;exact bT this,λx hx=>YO (P.n2 x hx),Xo _⟩
 ·have hv:=P.n2 (t,vs) (by simp)
  refine dh _ _ (PK P h3 hc hw hN) ?_ (Mq (Xz ..)) (by rw[bR _ _ (by decide)];exact h3)
  unfold m8
  rw[Xv hw]
  exact P.MI (Yj _) (by simp at hv ⊢;exact hv) (Xo _) (by rw[bR _ _ (by decide)];exact P.V6) (bw _ _ _)
theorem vF{k:List Nat}(h3:ρ 3=some (.s [c]))(h:c≠k.headD 0)(hk:k=[k.headD 0]):Ev d 30 (.p .e (.v 3) (.c (.s k))) ρ σ (.b false) σ:=by
 refine iN h3 ?_
 rw[hk];simp only[decide_eq_false_iff_not,List.cons.injEq,and_true];exact h
theorem Ku{k:List Nat}(h3:ρ 3=some (.s [c]))(h:c≠k.headD 0)(hk:k=[k.headD 0]):Ev d 29 (.p .e (.v 3) (.c (.s k))) ρ σ (.b false) σ:=by
 refine aY (af h3) aq ?_ (Xo _)
 rw[hk,vz];congr 1;simp only[decide_eq_false_iff_not,List.cons.injEq,and_true];exact h
theorem wW(h:ai d 11 xV ρ σ .n ρ' σ')(h2:ai d 11 Sb ρ' σ' fl ρ'' σ''):ae d 11 nF ρ σ fl ρ'' σ'':=by
 cases fl with
 |n=>exact ao h (Xi h2)
 |r v=>exact ao h (be h2)
theorem Kb{t:Nat}(P:eA p N (st++[(t,vs)]) wd ρ σ)(hN:N+1<=aK):
  ∃ρ' σ',ae d 11 nF (au ρ 3 (.s [32])) σ .n ρ' σ'/\eA p (N+1) (st++[(t,m8 vs wd)]) [] ρ' σ'/\iV [t] σ σ':=by
 have P':eA p N (st++[(t,vs)]) wd (au ρ 3 (.s [32])) σ:=⟨P.ox,P.kj,P.nd,by rw[bR _ _ (by decide)];exact P.V6,by rw[bR _ _ (by decide)];exact P.Wb,P.n1,P.n2,P.n3⟩
 refine dj (GE (d:=d) P' (bw _ _ _) rfl hN) λρ' σ' h1 h2 h3 h4=>?_
 refine dN ρ' σ' (wW h1 ?_) h2 h3
 exact bC (vF h4 (by decide) rfl) (Xi (bC (lK (Ku h4 (by decide) rfl)) (Xi (bC (vF h4 (by decide) rfl) (Xi (bC (aY (af h4) aq rfl (Xo _)) aP))))))
theorem UA(P:eA p N st wd ρ σ)(hc:nc c)(hN:N+1<=aK):
  ∃ρ',ae d 11 nF (au ρ 3 (.s [c])) σ .n ρ' σ/\eA p (N+1) st (wd++[c]) ρ' σ:=by
 have h3:(au ρ 3 (.s [c])) 3=some (.s [c]):=bw _ _ _
 have h2:(au ρ 3 (.s [c])) 2=some (.s wd):=by rw[bR _ _ (by decide)];exact P.Wb
 have hw:=P.n3
 refine aC (au (au ρ 3 (.s [c])) 2 (.s (wd++[c]))) (wW (AO h2 h3 (.inr hc)) ?_) (⟨P.ox,P.kj,P.nd,?_,bw _ _ _,YO P.n1,λx hx=>YO (P.n2 x hx),by simp;exact hw⟩)
 ·refine bC (vF h3 hc.1 rfl) (Xi (bC (lK (Ku h3 hc.2.1 rfl)) (Xi (bC (vF h3 hc.2.1 rfl) (Xi (cW (σ₁:=σ) (aY (af h3) aq ?_ (Xo _)) (Xi (bh (bX (af h2) (af h3) (nI (by unfold aD;simp;exact qT (qO hw) hN))) ba))))))))
  refine(?_:some (!decide ([c]=[32]))=some true)
  simp[hc.2.2]
 ·rw[bR _ _ (by decide),bR _ _ (by decide)];exact P.V6
theorem Uz(P:eA p N st [] ρ σ)(hN:N+1<=aK):
  ∃ρ' σ',ae d 11 nF (au ρ 3 (.s [40])) σ .n ρ' σ'/\eA p (N+1) (st++[(σ.length,[])]) [] ρ' σ'/\iV [p] σ σ'/\σ.length<=σ'.length:=by
 have h3:(au ρ 3 (.s [40])) 3=some (.s [40]):=bw _ _ _
 have h1:(au ρ 3 (.s [40])) 1=some (.r p):=by rw[bR _ _ (by decide)];exact P.V6
 have h2:(au ρ 3 (.s [40])) 2=some (.s []):=by rw[bR _ _ (by decide)];exact P.Wb
 have hp:=P.ox
 have hn1:=P.n1
 have pl:=(XS hp).1
 have o1:aD (st.map λx:Nat×List V=>V.r x.1):=by unfold aD;simp;exact qT hn1 (bT hN)
 have hp':(σ++[O.l []])[p]? =some (.l (st.map λx:Nat×List V=>V.r x.1)):=bO _ _ hp
 refine dh (au ρ 3 (.s [40])) ((σ++[O.l []]).set p (O.l ((st.map λx:Nat×List V=>V.r x.1)++[V.r σ.length]))) (wW (AO h2 h3 (.inl rfl)) ?_) ?_ (λi o hi hn=>?_) (by simp)
 ·refine cW (sV h3) (Xi (du (v:=.n) ?_))
  exact dn (af h1) (eI hp rfl) (Xh (dp ac.an)) (uS hp hp') (pd hp' o1)
 ·refine⟨by rw[cR hp'];simp,λx hx=>?_,?_,h1,h2,by simp;exact hn1,λx hx=>?_,Xo _⟩
  ·rcases XD hx with hx |hx
   ·have hne:p≠x.1:=λe=>by
     have:=P.nd;rw[Y9]at this
     exact this.1 (by rw[e];exact Y0 hx)
    rw[aV hne];exact bO _ _ (P.kj x hx)
   ·rw[Yu]at hx;subst hx
    rw[aV (by simp only;exact gM pl)];exact aX
  ·have:=P.nd
   rw[XV,<-Y4,List.nodup_append]
   refine fy this (by simp) (λa ha b hb e=>?_)
   simp only[Xw,YH,Yu]at hb
   subst hb;subst e
   rcases XC ha with h |h
   ·lia
   ·refine az (XY h) λx hx e=>?_
    have:=(XS (P.kj x hx)).1
    exact Cl this e
  ·rcases XD hx with hx |hx
   ·exact YO (P.n2 x hx)
   ·rw[Yu]at hx;subst hx;exact Xo _
 ·rw[aV λe=>hn (by rw[e];exact Xz ..)];exact bO _ _ hi
theorem Uy{b t:Nat}(P:eA p N (st++[(b,us)]++[(t,vs)]) wd ρ σ)(hN:N+2<=aK):
  ∃ρ' σ',ae d 11 nF (au ρ 3 (.s [41])) σ .n ρ' σ'/\eA p (N+2) (st++[(b,us++[V.r t])]) [] ρ' σ'/\iV [p,b,t] σ σ'/\σ'[t]? =some (.l (m8 vs wd)):=by
 have P':eA p N (st++[(b,us)]++[(t,vs)]) wd (au ρ 3 (.s [41])) σ:=⟨P.ox,P.kj,P.nd,by rw[bR _ _ (by decide)];exact P.V6,by rw[bR _ _ (by decide)];exact P.Wb,P.n1,P.n2,P.n3⟩
 refine dj (GE (d:=d) P' (bw _ _ _) rfl (jb hN)) λρ₁ σ₁ h1 Q k1 h3=>?_
 refine kM (Bx Q) λq1 q2 q3 q4=>?_
 have hb:=q4 (b,us) (by simp)
 have hl:=Q.n1
 have o1:aD ((st++[(b,us)]).map (λx:Nat×List V=>V.r x.1)++[V.r t]):=by unfold aD;simp at hl ⊢;lia
 have hu:us.length<=N+1:=Q.n2 (b,us) (by simp)
 have o2:aD us:=by unfold aD;exact qT hu (jb hN)
 have e1:((st++[(b,us)]).map (λx:Nat×List V=>V.r x.1)++[V.r t]).dropLast=st.map (λx:Nat×List V=>V.r x.1)++[V.r b]:=by simp
 have g1:(σ₁.set p (O.l (st.map (λx:Nat×List V=>V.r x.1)++[V.r b])))[p]? =some (.l (st.map (λx:Nat×List V=>V.r x.1)++[V.r b])):=cR q1
 have g2:(σ₁.set p (O.l (st.map (λx:Nat×List V=>V.r x.1)++[V.r b])))[b]? =some (.l us):=by
  rw[aV (Yp hb.2)];exact Q.kj (b,us) (by simp)
 have hpop:Pr (dB 2 (.r p) [] σ₁) (.r t) (σ₁.set p (O.l (st.map (λx:Nat×List V=>V.r x.1)++[V.r b]))):=by
  have:=Ce (v:=.r t) q1 (by simp) o1
  rw[e1]at this;exact this
 have r1:(au ρ₁ 4 (.r t)) 1=some (.r p):=by rw[bR _ _ (by decide)];exact Q.V6
 have r2:(au ρ₁ 4 (.r t)) 2=some (.s []):=by rw[bR _ _ (by decide)];exact Q.Wb
 refine dh (au ρ₁ 4 (.r t)) ((σ₁.set p (O.l (st.map (λx:Nat×List V=>V.r x.1)++[V.r b]))).set b (.l (us++[V.r t]))) (wW h1 ?_) ?_ ?_ ?_
 ·refine bC (vF h3 (by decide) rfl) (Xi (cW (σ₁:=σ₁) (j8 (aY (af h3) aq rfl (Xo _)) (aY (ci rfl (Xh (af Q.V6)) (fB q1 o1)) aq (by refine(?_:some _=some _);simp;exact nO) (show dI .g _ from trivial)))
   (ao (bh (dn (af Q.V6) (eI q1 rfl) ac.an rfl hpop) ba) (Xi (du (v:=.n) ?_)))))
  exact dn (bi (af r1) aq (dL g1 (bg rfl) (GQ _ _))) (eI g2 rfl) (Xh (af (bw _ _ _))) rfl (pd g2 o2)
 ·refine⟨?_,λx hx=>?_,?_,r1,r2,by simp at hl ⊢;exact bT (d5 hl),λx hx=>?_,Xo _⟩
  ·rw[aV hb.2,g1];simp
  ·rcases XD hx with hx |hx
   ·have nb:b≠x.1:=λe=>by
     have:=Q.nd
     simp only[XV,Xw,YH,Y9,List.nodup_append]at this
     exact this.2.1.2.2 x.1 (Y0 hx) b (by simp) e.symm
    rw[aV nb,aV (Yp (q4 x (YA _ hx)).2)]
    exact Q.kj x (by simp[hx])
   ·rw[Yu]at hx;subst hx;exact cR g2
  ·have:=Q.nd
   rw[XV,<-Y4,List.nodup_append]at this
   simpa using this.1
  ·rcases XD hx with hx |hx
   ·have:=Q.n2 x (by simp[hx]);exact Jg this rfl
   ·rw[Yu]at hx;subst hx;simp at hu ⊢;exact hu
 ·intro i o hi hn
  simp only[Yn,XX,or_false,not_or]at hn
  rw[aV (Yp hn.2.1),aV (Yp hn.1)]
  exact k1 i o hi (by simp[hn.2.2])
 ·rw[aV hb.1,aV q3];exact q2
theorem eA.up(P:eA p N st wd ρ σ)(h:N<=M):eA p M st wd ρ σ:=⟨P.ox,P.kj,P.nd,P.V6,P.Wb,Xl P.n1 h,λx hx=>Xl (P.n2 x hx) h,Xl P.n3 h⟩
noncomputable abbrev Ch(t:List Nat):List V:=t.map λc=>V.s [c]
noncomputable abbrev PF(d:Nat)(ys:List V)(t:List Nat)(ρ:aA)(σ:aj)(ρ':aA)(σ':aj):Prop:=bF d 11 (.v 3) nF (.bx ys) (Ch t) ρ σ .n ρ' σ'
theorem tV(h:ae d 11 nF (au ρ 3 (.s [c])) σ .n ρ' σ'):PF d ys [c] ρ σ ρ' σ':=fc (S:=.bx ys) rfl h trivial fF
theorem rH{a b:List Nat}(h:PF d ys a ρ σ ρ' σ')(h2:PF d ys b ρ' σ' ρ'' σ''):PF d ys (a++b) ρ σ ρ'' σ'':=by
 unfold PF Ch at *
 rw[XV];exact LD h h2
theorem IJ{ys:List V}:∀(s:List Nat) {N:Nat} {wd:List Nat} {ρ:aA},eA p N st wd ρ σ->(∀c∈s,nc c)->N+s.length<=aK->∃ρ',PF d ys s ρ σ ρ' σ/\eA p (N+s.length) st (wd++s) ρ' σ
 | [],N,wd,ρ,P,_,_=>aC ρ (fF (S:=.bx ys)) (by simpa using P)
 |c::s,N,wd,ρ,P,hg,hl=>by
  simp only[Xq]at hl
  refine az (UA (d:=d) P (hg c (Xz ..)) (bT (gj hl))) λρ₁ h1 P₁=>?_
  refine az (IJ (ys:=ys) s P₁ (λx hx=>hg x (XA _ hx)) (gj hl)) λρ₂ h2 P₂=>?_
  refine aC ρ₂ (rH (tV h1) h2) ?_
  rw[XM]at P₂
  exact P₂.up (by simp only[Xq];exact sY xZ)
mutual
theorem Cb{ys:List V}:∀(r:ar),r.good->∀{st:List (Nat×List V)} {t:Nat} {vs:List V} {ρ:aA} {σ:aj} {N:Nat},eA p N (st++[(t,vs)]) [] ρ σ->N+2 * r.text.length+2<=aK->
  ∃ρ' σ' us wd' v,PF d ys r.text ρ σ ρ' σ'/\eA p (N+2 * r.text.length) (st++[(t,us)]) wd' ρ' σ'/\iV (ij p (st++[(t,vs)])) σ σ'/\m8 us wd'=vs++[v]/\RR σ' (ij p (st++[(t,vs)])) r v
 | .w s,hg,st,t,vs,ρ,σ,N,P,hl=>by
  simp only[M1,im,gU]at hg hl
  refine az (IJ (d:=d) (ys:=ys) s P hg.2 (by lia)) λρ' h P'=>?_
  exact BN ρ' σ vs s (.s s) h (P'.up (by simp only[gU];lia)) (λ_ _ h _=>h) (by unfold m8;rw[Xv hg.1]) (by simp only[oC])
 | .p l,hg,st,t,vs,ρ,σ,N,P,hl=>by
  simp only[M2,ie,Xn,Xq,XR]at hg hl
  refine dj (Uz (d:=d) P (x3 pi hl rfl)) λρ₁ σ₁ h1 P₁ k1 z1=>?_
  refine u7 (IH (ys:=ys) l hg P₁ (JH hl)) λρ₂ σ₂ us wd vs' h2 P₂ k2 fl rr=>?_
  refine dj (Uy (d:=d) P₂ (JH hl)) λρ₃ σ₃ h3 P₃ k3 g3=>?_
  rw[fl,XT]at g3
  have hD:σ.length∉ij p (st++[(t,vs)]):=λhm=>by
   have:=P₁.nd
   rw[XV,<-Y4,List.nodup_append]at this
   exact this.2.2 _ hm _ (Xz ..) rfl
  have sub:∀a∈ij p (st++[(t,vs)]),a∈ij p (st++[(t,vs)]++[(σ.length,[])]):=λa ha=>by
   unfold ij at *
   rw[XV (l₁:=st++[(t,vs)]),<-Y4];exact YA _ ha
  have sub3:∀a∈[p,t,σ.length],a∈ij p (st++[(t,vs)]++[(σ.length,[])]):=λa ha=>by
   simp only[Yn,XX,or_false]at ha
   rcases ha with rfl |rfl |rfl<;>simp
  have tx:(ar.p l).text=[40]++cy [32] (ar.texts l)++[41]:=rfl
  refine BN ρ₃ σ₃ (vs++[.r σ.length]) ([]) (.r σ.length) ?_ (P₃.up (by rw[tx];simp only[Xn,Xq,XR];lia)) (λi o hi hn=>?_) (by unfold m8;rw[Xr rfl]) ?_
  ·rw[tx]
   exact rH (rH (tV h1) h2) (tV h3)
  ·have lt:=(XS hi).1
   have n1:i∉ij p (st++[(t,vs)]++[(σ.length,[])]):=λhm=>by
    unfold ij at *
    rw[XV (l₁:=st++[(t,vs)]),<-Y4]at hm
    rcases XD hm with h |h
    ·exact hn h
    ·simp only[Xw,YH,Yu]at h;exact Cl lt h
   exact k3 i o (k2 i o (k1 i o hi λhm=>hn (by rw[Yu]at hm;rw[hm];exact Xz ..)) n1) λhm=>n1 (sub3 i hm)
  ·simp only[rP]
   exact dh σ.length vs' rfl hD g3 (dc.mono sub (λi o hi hn=>k3 i o hi λhm=>hn (sub3 i hm)) l rr)
theorem IH{ys:List V}:∀(l:List ar),ar.goods l->∀{st:List (Nat×List V)} {t:Nat} {vs:List V} {ρ:aA} {σ:aj} {N:Nat},eA p N (st++[(t,vs)]) [] ρ σ->N+2 * (cy [32] (ar.texts l)).length+2<=aK->
  ∃ρ' σ' us wd' vs',PF d ys (cy [32] (ar.texts l)) ρ σ ρ' σ'/\eA p (N+2 * (cy [32] (ar.texts l)).length) (st++[(t,us)]) wd' ρ' σ'/\iV (ij p (st++[(t,vs)])) σ σ'/\m8 us wd'=vs++vs'/\dc σ' (ij p (st++[(t,vs)])) l vs'
 | [],_,st,t,vs,ρ,σ,N,P,_=>BN ρ σ vs ([]) ([]) (fF (S:=.bx ys)) (by simpa [pY,Bo]using P) (λ_ _ h _=>h) (by unfold m8;simp) (by simp only[oE])
 | [r],hg,st,t,vs,ρ,σ,N,P,hl=>by
  simp only[Ed,Ee,pY,lY,oX]at hg hl ⊢
  refine u7 (Cb (ys:=ys) r hg.1 P hl) λρ' σ' us wd' v h1 P' k fl rr=>?_
  exact⟨ρ',σ',us,wd',[v],h1,P',k,fl,v,[],rfl,rr,rfl⟩
 |r::q::l,hg,st,t,vs,ρ,σ,N,P,hl=>by
  have tx:cy [32] (ar.texts (r::q::l))=r.text++[32]++cy [32] (ar.texts (q::l)):=rfl
  rw[tx]at hl ⊢
  simp only[Xn,Xq,XR]at hl
  refine u7 (Cb (ys:=ys) r hg.1 P (by lia)) λρ₁ σ₁ us₁ wd₁ v h1 P₁ k1 fl rr=>?_
  refine cO (Kb (d:=d) P₁ (by lia)) λρ₂ σ₂ h2 P₂ k2=>?_
  rw[fl]at P₂
  refine u7 (IH (ys:=ys) (q::l) hg.2 P₂ (by lia)) λρ₃ σ₃ us wd vs' h3 P₃ k3 fl3 rr3=>?_
  have ad:∀ws:List V,ij p (st++[(t,ws)])=ij p (st++[(t,vs)]):=λws=>by simp[ij]
  rw[ad]at k3 rr3
  have ht:t∈ij p (st++[(t,vs)]):=by simp
  have k2':iV (ij p (st++[(t,vs)])) σ₁ σ₂:=λi o hi hn=>k2 i o hi λhm=>by rw[Yu]at hm;exact hn (hm▸ht)
  refine⟨ρ₃,σ₃,us,wd,v::vs',rH (rH h1 (tV h2)) h3,P₃.up (by simp only[Xn,Xq,XR];lia),(k1.za k2').za k3,by rw[fl3];simp,v,vs',rfl,?_,rr3⟩
  exact RR.mono (λ_ h=>h) (k2'.za k3) r rr
end
theorem I0{α:Type}:∀{l l':List α},(∀(i:Nat) (x:α),l[i]? =some x->l'[i]? =some x)->l <+:l'
 | [],_,_=>List.nil_prefix
 |x::l,[],h=>by have:=h 0 x rfl;simp at this
 |x::l,y::l',h=>by
  have h0:=h 0 x rfl
  simp at h0;subst h0
  exact List.cons_prefix_cons.mpr ⟨rfl,I0 λi z hz=>by have:=h (i+1) z (by simpa using hz);simpa using this⟩
theorem TB(d:Nat)(l:List ar)(hg:ar.goods l)(hl:2 * (ar.p l).text.length+10<=aK)(σ:aj):
  ∃(σ':aj) (v:V),aL (d+1) 46 [.s (ar.p l).text] σ v σ'/\RR σ' [] (.p l) v/\σ <+:σ':=by
 let a:=σ.length
 let σ₁:aj:=σ++[.l []]++[.l [.r σ.length]]
 let p:=(σ++[O.l []]).length
 let ρ₁:aA:=au (au (bf [.s (ar.p l).text]) 1 (.r p)) 2 (.s [])
 have P:eA p 1 ([]++[(σ.length,[])]) [] ρ₁ σ₁:=⟨aX,λx hx=>by
   simp only[XT,Yu]at hx;subst hx;exact bO _ _ aX,by simp[p],rfl,rfl,by simp,λx hx=>by
   simp only[XT,Yu]at hx;subst hx;simp,by simp⟩
 refine u7 (Cb (d:=d) (ys:=Ch ((ar.p l).text++[32])) (.p l) hg P (Ji (vk hl rfl))) λρ₂ σ₂ us wd v h2 P₂ k2 fl rr=>?_
 refine cO (Kb (d:=d) P₂ (Ji (vk hl rfl))) λρ₃ σ₃ h3 P₃ k3=>?_
 rw[fl,XT]at P₃
 have t1:=P₃.kj (σ.length,[v]) (by simp)
 have t0:σ₃[p]? =some (.l [V.r σ.length]):=P₃.ox
 have ha:ij p ([]++[(σ.length,([]:List V))])=[p,σ.length]:=rfl
 rw[ha]at k2 rr
 have k3':iV [p,σ.length] σ₂ σ₃:=λi o hi hn=>k3 i o hi λhm=>hn (XA _ hm)
 have o1:aD ([V.r σ.length]):=by unfold aD aK;simp
 have o2:aD ([v]):=by unfold aD aK;simp
 have o3:aD ((ar.p l).text++[32]):=by unfold aD;simp;lia
 refine dN σ₃ v ?_ (RR.mono (λ_ h=>by cases h) (λi o hi hn=>k3' i o hi hn) _ rr) (I0 λi o hi=>?_)
 ·refine cI (f:=AH) rfl rfl (ao (bh (bI (ac.ah (dp (Xh (dp ac.an))) (Xh aq))) (gQ rfl rfl (da ba (da ba gR))))
   (ao (fg (S:=.bx (Ch ((ar.p l).text++[32]))) (DT (s:=(ar.p l).text++[32]) (bX (af rfl) aq (nI o3)) o3) (rH h2 (tV h3)))
    (be (bM (jC (σ₁:=σ₃) (j8 (σ₁:=σ₃) (aY (u:=.i 1) (σ₁:=σ₃) (ci rfl (Xh (af P₃.V6)) (fB t0 o1)) aq rfl (Xo _)) (aY (u:=.i 1) (ci rfl (Xh (bi (af P₃.V6) aq (dL t0 (bg rfl) rfl))) (fB t1 o2)) aq rfl (Xo _)))
     (bi (bi (af P₃.V6) aq (dL t0 (bg rfl) rfl)) aq (dL t1 (bg rfl) rfl)))))))
 ·have lt:=(XS hi).1
  have nm:i∉[p,σ.length]:=λhm=>by
   simp only[Yn,XX,or_false,p,Xn,Xq,XR]at hm
   lia
  exact k3' i o (k2 i o (bO _ _ (bO _ _ hi)) nm) nm
end
theorem dc.zip{α:Type}{σ:aj}{S:List Nat}(f:α->ar):∀(ts:List α) {vs:List V},dc σ S (ts.map f) vs->∃l:List (α×V),l.map (·.1)=ts/\l.map (·.2)=vs/\∀x∈l,RR σ S (f x.1) x.2
 | [],vs,h=>by simp only[YH,oE]at h;subst h;exact dK ([]) rfl rfl (λ_ h=>by cases h)
 |t::ts,vs,h=>by
  simp only[Xw,jM]at h
  refine cO h ?_;clear h;intro v us q2 h1 h2;subst q2
  refine c8 (dc.zip f ts h2) λl e1 e2 e3=>?_
  exact dK ((t,v)::l) (by simp[e1]) (by simp[e2]) (λx hx=>by rcases XC hx with rfl |hx;exact h1;exact e3 x hx)
theorem NG(ts:List Tm):Tm.raws ts=ts.map Tm.raw:=by induction ts<;>simp_all [NF,zN]
theorem RR.mS(l:aj){S:List Nat}{r:ar}{v:V}(h:RR σ S r v):RR (σ++l) S r v:=RR.mono (λ_ h=>h) (λi o hi _=>bO _ _ hi) r h
mutual
theorem Tm.lo_enc(m:Nat):∀t:Tm,t.enc.lo m=true
 | .bS op kids=>by simp only[uh,oN,qi,iJ,Bool.true_and];exact Tm.lo_encs m kids
theorem Tm.lo_encs(m:Nat):∀ts:List Tm,V.loAll m (Tm.encs ts)=true
 | []=>rfl
 |t::ts=>by simp only[EG,iJ,Tm.lo_enc m t,Tm.lo_encs m ts,Bool.and_self]
end
mutual
theorem Pp.lo_enc(m:Nat):∀p:Pp,p.enc.lo m=true
 | .cQ w=>rfl
 | .cZ t=>by simp only[DV,oN,qi,jT,iJ,Tm.lo_enc,Bool.and_self]
 | .db w ps=>by
  simp only[DW,oN,qi,jT,iJ,Bool.true_and,Bool.and_true]
  induction ps with
  |nil=>rfl
  |cons x ps ih=>simp only[Xw,jT,iJ,oN,qi,Tm.lo_enc,ih,Bool.and_self]
 | .cH p=>by simp only[DX,oN,qi,jT,iJ,Pp.lo_enc m p,Bool.and_self]
 | .bG a b=>by simp only[MM,oN,qi,jT,iJ,Pp.lo_enc m a,Pp.lo_enc m b,Bool.and_self]
 | .cD w ps=>by simp only[rI,oN,qi,jT,iJ,Pp.lo_encs m ps,Bool.and_self]
theorem Pp.lo_encs(m:Nat):∀ps:List Pp,V.loAll m (Pp.encs ps)=true
 | []=>rfl
 |p::ps=>by simp only[DZ,iJ,Pp.lo_enc m p,Pp.lo_encs m ps,Bool.and_self]
end
theorem Cy:∀(d:Nat) (t:Tm),t.dep<=d->t.sz<=aK->∀(σ:aj) (S:List Nat) (v:V),RR σ S t.raw v->aL d 47 [v] σ t.enc σ
 |0,.bS op kids,h,_,_,_,_,_=>by simp[rY]at h
 |d+1,.bS op [],h,hs,σ,S,v,r=>by
  simp only[ND,oC]at r;subst r
  exact fV (f:=AI) rfl rfl (be (bM (jC (σ₁:=σ) (De (af rfl) Sq) (bI (Xh (af rfl)))))) (Yh _) rfl
 |d+1,.bS op (k::ks),h,hs,σ,S,v,r=>by
  have hk:=Tm.szs_len (k::ks)
  simp only[rY,oL]at h hs
  simp only[zM]at r
  simp only[oC,rP,jM]at r
  obtain⟨a,vs,rfl,hS,ha,v0,us,rfl,hv0,r⟩:=r
  subst hv0
  rw[NG]at r
  refine c8 (dc.zip Tm.raw (k::ks) r) λl e1 e2 e3=>?_
  have el:l.length=(k::ks).length:=by rw[<-e1];simp
  have o1:aD (V.s op::us):=by rw[<-e2];unfold aD;simp only[Xq,Xk]at *;lia
  have o2:aD us:=by rw[<-e2];unfold aD;simp only[Xq,Xk]at *;exact JI el hk hs
  have o3:aD ((k::ks).map Tm.enc):=by unfold aD;simp only[Xq,Xk]at *;exact qT hk (cG hs)
  have o4:aD ([V.s op]++(k::ks).map Tm.enc):=by unfold aD;simp only[Xn,Xq,XR,Xk]at *;exact vm (ph hk hs rfl)
  have hit:=gI (d:=d) (n:=26) (elt:=.l 47 [.v 1]) (tg:=.v 1) (ρ:=bf [.r a]) (σ:=σ++[O.l us]) (S:=.cr σ.length us) (λ_=>rfl) (λ_=>aX) (λx:Tm×V=>x.2) (λx=>x.1.enc) l
   (λx hx=>aC _ rfl (cw (Xh (af rfl)) (Cy d x.1 (by
    have:x.1∈k::ks:=by rw[<-e1];exact Y0 hx
    have:=Tm.deps_mem this;exact qT this (jc h)) (by
    have:x.1∈k::ks:=by rw[<-e1];exact Y0 hx
    have:=Tm.szs_mem this;exact qT this (cG hs)) _ S x.2 ((e3 x hx).mS _)))) [] (by rw[XT,e2];exact o2)
  have e4:l.map (λx=>x.1.enc)=(k::ks).map Tm.enc:=by rw[<-e1,XN];rfl
  rw[e2,XT,e4]at hit
  have he:(Tm.bS op (k::ks)).enc=.t ([V.s op]++(k::ks).map Tm.enc):=by simp only[uh,oK];rfl
  rw[he]
  refine fV (f:=AI) rfl rfl (be (bM (jh (σ₁:=σ) (De (af rfl) (Sp ha)) (bX (bI (Xh (bi (af rfl) aq (dL ha (bg rfl) rfl))))
   (ci rfl (Xh (dU (fe (ji (af rfl) aq (sT ha (by simp only[aD,dz,bY,aK,Xn,Xq,XR,Xk]at *;lia) o1)) aX o2) hit)) (j2 aX o3)) (vf o4))))) (by repeat first |exact Yh _ |apply iz) ?_
  rw[<-he];exact Tm.lo_enc _ _
theorem Pp.fold:∀p:Pp,p.right.foldl Pp.bG p.left=p
 | .cQ _ | .cZ _ | .db _ _ | .cH _ | .cD _ _=>rfl
 | .bG a b=>by simp only[wn,pS,List.foldl_append,List.foldl_cons,List.foldl_nil,Pp.fold a]
theorem JT{d q:Nat}{ws:List V}:∀(l:List (Pp×V)) (acc:Pp) (ρ:aA) (σ:aj),ρ 3=some acc.enc->σ[q]? =some (.l ws)->(∀x∈l,aL d 48 [x.2] σ x.1.enc σ)->
  ∃ρ',bF d 11 (.v 4) [.a (.v 3) (.t [(.c (.s [106,111,105,110])),(.v 3),(.l 48 [(.v 4)])])] (.cr q ws) (l.map (·.2)) ρ σ .n ρ' σ/\ρ' 3=some ((l.map (·.1)).foldl Pp.bG acc).enc/\ρ' 1=ρ 1
 | [],acc,ρ,σ,h3,hq,_=>dK ρ fF h3 rfl
 |x::l,acc,ρ,σ,h3,hq,h=>by
  refine c8 (JT l (.bG acc x.1) (au (au ρ 4 x.2) 3 (Pp.bG acc x.1).enc) σ (bw _ _ _) hq λy hy=>h y (XA _ hy)) λρ' h1 h2 h4=>?_
  refine dK ρ' (fc (S:=.cr q ws) rfl (Xi (bh (v:=(Pp.bG acc x.1).enc) (bI (ac.ah aq (ac.ah (af (by rw[bR _ _ (by decide)];exact h3)) (Xh (cw (Xh (af (bw _ _ _))) (h x (Xz ..))))))) ba)) hq h1) h2 (by rw[h4,bR _ _ (by decide),bR _ _ (by decide)])
theorem fC{d i:Nat}{k c:List Nat}(h:ρ i=some (.s k))(b:Bool)(hb:decide (k=c)=b):Ev d 30 (.p .e (.v i) (.c (.s c))) ρ σ (.b b) σ:=aY (af h) aq (by refine(?_:some _=_);rw[hb]) (Xo _)
theorem rN{S:List Nat}{k:List Nat}{l:List ar}{v:V}(h:RR σ S (.p (.w k::l)) v):∃a us,v=.r a/\σ[a]? =some (.l (.s k::us))/\dc σ S l us:=by
 simp only[oC,rP,jM]at h
 obtain⟨a,vs,rfl,_,ha,v0,us,rfl,hv0,r⟩:=h
 subst hv0
 exact dN a us rfl ha r
theorem te{d:Nat}{a:Nat}{k:List Nat}(ha:σ[a]? =some (.l (.s k::us)))(hl:us.length < aK){w:V}
  (h:ae d 12 (xj.dZ.drop 1) (au (au (bf [.r a]) 1 (.s k)) 2 (.r σ.length)) (σ++[.l us]) (.r w) ρ' σ') (hp:σ++[.l us] <+:σ') (hw:w.lo σ.length=true):aL (d+1) 48 [.r a] σ w σ:=by
 have o1:aD (V.s k::us):=by unfold aD;simp only[Xq];exact hl
 have h':=h
 simp only[xj,List.drop_succ_cons,List.drop_zero]at h'
 refine fV (f:=xj) rfl rfl (ao (bh (v:=.t [.s k,.r σ.length]) (σ₁:=σ++[.l us]) (bI (ac.ah (bi (af rfl) aq (dL ha (bg rfl) rfl)) (Xh (ji (af rfl) aq (sT ha (by simp only[aD,dz,bY,aK,Xn,Xq,XR,Xk]at *;lia) o1)))))
  (gQ rfl rfl (da ba (da ba gR)))) h') ((Yd _ _).trans hp) hw
theorem dc.len{σ:aj}{S:List Nat}:∀{l:List ar} {vs:List V},dc σ S l vs->vs.length=l.length
 | [],vs,h=>by simp only[oE]at h;subst h;rfl
 |r::l,vs,h=>by
  simp only[jM]at h
  refine cO h ?_;clear h;intro v us q2 _ h2;subst q2
  simp[dc.len h2]
theorem Vw(m:aj){S:List Nat}{l:List ar}(h:dc σ S l vs):dc (σ++m) S l vs:=dc.mono (λ_ h=>h) (λi o hi _=>bO _ _ hi) l h
theorem dc.pairs{σ:aj}{S:List Nat}:∀(ps:List (List Nat×Tm)) {vs:List V},dc σ S (ps.flatMap λx=>[ar.w x.1,x.2.raw]) vs->
  vs.length=2 * ps.length/\∀(i:Nat) (x:List Nat×Tm),ps[i]? =some x->vs[2 * i]? =some (.s x.1)/\∃u,vs[2 * i+1]? =some u/\RR σ S x.2.raw u
 | [],vs,h=>by simp only[List.flatMap_nil,oE]at h;subst h;exact bm rfl (λi x h=>by simp at h)
 |y::ps,vs,h=>by
  simp only[List.flatMap_cons,Y4,XT,jM]at h
  obtain⟨v,us,rfl,h1,u,ws,rfl,h2,h3⟩:=h
  simp only[oC]at h1;subst h1
  refine bc (dc.pairs ps h3) λe1 e2=>?_
  refine bm (by simp[e1];lia) (λi x hx=>?_)
  cases i with
  |zero=>simp at hx;subst hx;exact⟨rfl,u,rfl,h2⟩
  |succ i=>
   simp only[List.getElem?_cons_succ]at hx
   obtain⟨a1,b,a2,a3⟩:=e2 i x hx
   refine⟨?_,b,?_,a3⟩
   ·rw[show 2 * (i+1)=2 * i+1+1 by lia];simpa using a1
   ·rw[show 2 * (i+1)+1=2 * i+1+1+1 by lia];simpa using a2
theorem Ki{α:Type}(f:α->Nat)(hf:∀x,4<=f x):∀(l:List α),4 * l.length<=(l.map f).sum
 | []=>by simp
 |y::l=>by have:=Ki f hf l;have:=hf y;rw[Xw,Yk,Xq];lia
theorem vt:∀(d:Nat) (P:Pp),P.dep<=d->P.sz<=aK->∀(σ:aj) (S:List Nat) (v:V),RR σ S P.cP v->aL d 48 [v] σ P.enc σ
 |0,P,h,_,_,_,_,_=>by cases P<;>simp[wj,pQ,pR,oy,ko,oA]at h
 |d+1,.cQ w,h,hs,σ,S,v,r=>by
  obtain⟨a,us,rfl,ha,r⟩:=rN (k:=mu) (l:=[.w w]) r
  simp only[oE,jM,oC]at r
  refine cO r ?_;clear r;intro v1 us q2 hv1 q4;subst q2;subst q4
  subst hv1
  refine te ha (by refine(?_:1 < aK);unfold aK;decide) (be (cW (fC rfl true rfl) (be (bM (bI (ac.ah aq (Xh (bi (af rfl) aq (dL aX (bg rfl) rfl))))))))) (Yh _) rfl
 |d+1,.cZ t,h,hs,σ,S,v,r=>by
  obtain⟨a,us,rfl,ha,r⟩:=rN (k:=i6) (l:=[t.raw]) r
  simp only[oE,jM]at r
  refine cO r ?_;clear r;intro v1 us q2 hv1 q4;subst q2;subst q4
  refine te ha (by refine(?_:1 < aK);unfold aK;decide) (ao (bC (fC rfl false rfl) aP) (be (cW (fC rfl true rfl) (be (bM (bI (ac.ah aq (Xh (cw (Xh (bi (af rfl) aq (dL aX (bg rfl) rfl)))
   (Cy d t (by simp only[pQ]at h;exact jc h) (by simp only[rK]at hs;exact bT hs) _ S v1 (hv1.mS _))))))))))) (Yh _) (Pp.lo_enc _ (.cZ t))
 |d+1,.db w ps,h,hs,σ,S,v,r=>by
  have hl:ps.length<=(ps.map λx=>x.1.length+x.2.sz+5).sum:=yn _ (λx=>gh) ps
  simp only[pR,pT]at h hs
  obtain⟨a,us,rfl,ha,r⟩:=rN (k:=fP) (l:=.w w::ps.flatMap λx=>[.w x.1,x.2.raw]) r
  simp only[jM]at r
  obtain⟨v1,us,rfl,hv1,r⟩:=r
  simp only[oC]at hv1;subst hv1
  refine bc (dc.pairs ps r) λul gi=>?_
  have hs5:=Ki (λx:List Nat×Tm=>x.1.length+x.2.sz+5) (λx=>gh) ps
  have o1:aD (V.s w::us):=by unfold aD;simp only[Xq];lia
  have o3:aD (ps.map dG):=by unfold aD;simp only[Xk];exact qT hl (cG hs)
  have er:df 1 (V.s w::us).length 2=(List.range ps.length).map λk:Nat=>V.i (1+2 * (k:Int)):=by
   unfold df
   have:(((V.s w::us).length - 1+2 - 1:Int) / 2).toNat=ps.length:=by simp only[Xq,ul];lia
   rw[this]
  have hit:=gI (d:=d) (n:=27) (elt:=.t [(.s (.v 2) (.v 5)),(.l 47 [(.s (.v 2) (.i .a (.v 5) (.c (.i 1))))])]) (tg:=.v 5) (ρ:=au (au (bf [.r a]) 1 (.s fP)) 2 (.r σ.length)) (σ:=σ++[O.l (.s w::us)]) (S:=.bx (df 1 (V.s w::us).length 2)) (λ_=>rfl) (λ_=>trivial)
   (λk:Nat=>V.i (1+2 * (k:Int))) (λk=>match ps[k]? with |some x=>dG x |Option.none=>.n) (List.range ps.length)
   (λk hk=>by
    have hk':=Yv hk
    have hx:ps[k]? =some ps[k]:=Yo hk'
    have hm:ps[k]∈ps:=List.getElem_mem hk'
    have hd:=AQ (λx:List Nat×Tm=>x.2.dep) hm
    have hz:=CL (λx:List Nat×Tm=>x.1.length+x.2.sz+5) hm
    try simp only at hd hz
    obtain⟨g1,u,g2,g3⟩:=gi k _ hx
    rw[hx]
    have b1:dz (1+2 * (k:Int)):=by unfold dz bY;have:aK=1000000:=rfl;lia
    have b2:dz (1+2 * (k:Int)+1):=by unfold dz bY;have:aK=1000000:=rfl;lia
    have i1:(dS (1+2 * (k:Int)) (V.s w::us).length).bind ((V.s w::us)[·]?)=some (.s ps[k].1):=by
     unfold dS
     rw[Xr (by exact Jj (cG iO))]
     have:(1+2 * (k:Int)).toNat=2 * k+1:=by lia
     simp only[Option.bind_some,this,List.getElem?_cons_succ];exact g1
    have i2:(dS (1+2 * (k:Int)+1) (V.s w::us).length).bind ((V.s w::us)[·]?)=some u:=by
     unfold dS
     rw[Xr (by exact nO)]
     have:(1+2 * (k:Int)+1).toNat=2 * k+1+1:=by lia
     simp only[Option.bind_some,this,List.getElem?_cons_succ];exact g2
    exact aC (au (au (au (bf [.r a]) 1 (.s fP)) 2 (.r σ.length)) 5 (.i (1+2 * (k:Int)))) rfl (bI (ac.ah (bi (af rfl) (af rfl) (dL aX b1 i1)) (Xh (cw (Xh (bi (af rfl) (bX (af rfl) aq iy) (dL aX b2 i2)))
     (Cy d ps[k].2 (qT hd (jc h)) (JE hz hs) _ S u (g3.mS _))))))) [] (by unfold aD;simp;exact qT hl (cG hs))
  have e4:(List.range ps.length).map (λk=>match ps[k]? with |some x=>dG x |Option.none=>V.n)=ps.map dG:=by
   apply List.ext_getElem?
   intro i
   rw[Ys,Ys]
   by_cases hi:i < ps.length
   ·rw[List.getElem?_range hi,Yo hi];simp[hi]
   ·rw[List.getElem?_eq_none (by simp;exact x5 hi),List.getElem?_eq_none (by exact x5 hi)];rfl
  rw[<-er,XT,e4]at hit
  have hlo:=Pp.lo_enc σ.length (.db w ps)
  have lk:((V.s w::us).length:Int)<=aK:=by unfold aD at o1;exact Jj o1
  refine te ha (by simp only[Xq];lia) (ao (bC (fC rfl false rfl) aP) (ao (bC (fC rfl false rfl) aP) (be (cW (fC rfl true rfl) (be (bM (bI (ac.ah aq (ac.ah (bi (af rfl) aq (dL aX (bg rfl) rfl))
   (Xh (ci rfl (Xh (dU (DS (ac.ah aq (ac.ah (ci rfl (Xh (af rfl)) (fB aX o1)) (Xh aq))) ⟨by decide,by decide⟩ ⟨by unfold bY;exact vn,lk⟩ ⟨by decide,by decide⟩) hit)) (j2 aX o3)))))))))))) (by repeat first |exact Yh _ |apply iz) hlo
 |d+1,.cD w ps,h,hs,σ,S,v,r=>by
  have hl:=Pp.szs_len ps
  simp only[oA,pU]at h hs
  obtain⟨a,us,rfl,ha,r⟩:=rN (k:=gf) (l:=.w w::Pp.sps ps) r
  simp only[jM]at r
  obtain⟨v1,us,rfl,hv1,r⟩:=r
  simp only[oC]at hv1;subst hv1
  rw[Ec]at r
  refine c8 (dc.zip Pp.cP ps r) λl e1 e2 e3=>?_
  have el:l.length=ps.length:=by rw[<-e1];simp
  have ul:us.length=ps.length:=by rw[<-e2];simp[el]
  have o1:aD (V.s w::us):=by unfold aD;simp only[Xq];lia
  have o2:aD us:=by unfold aD;exact JI ul hl hs
  have o3:aD (ps.map Pp.enc):=by unfold aD;simp only[Xk];exact qT hl (cG hs)
  have hit:=gI (d:=d) (n:=27) (elt:=.l 48 [.v 6]) (tg:=.v 6) (ρ:=au (au (bf [.r a]) 1 (.s gf)) 2 (.r σ.length)) (σ:=σ++[O.l (.s w::us)]++[O.l us]) (S:=.cr (σ++[O.l (.s w::us)]).length us) (λ_=>rfl) (λ_=>aX) (λx:Pp×V=>x.2) (λx=>x.1.enc) l
   (λx hx=>aC _ rfl (cw (Xh (af rfl)) (vt d x.1 (by
    have:x.1∈ps:=by rw[<-e1];exact Y0 hx
    have:=Pp.deps_mem this;exact qT this (jc h)) (by
    have:x.1∈ps:=by rw[<-e1];exact Y0 hx
    have:=Pp.szs_mem this;exact qT this (cG hs)) _ S x.2 (((e3 x hx).mS _).mS _)))) [] (by rw[XT,e2];exact o2)
  have e4:l.map (λx=>x.1.enc)=ps.map Pp.enc:=by rw[<-e1,XN];rfl
  rw[e2,XT,e4]at hit
  have he:(Pp.cD w ps).enc=.t [.s gf,.s w,.t (ps.map Pp.enc)]:=by simp only[rI,rJ]
  have hlo:=Pp.lo_enc σ.length (.cD w ps)
  rw[he]at hlo ⊢
  refine te ha (by simp only[Xq];lia) (ao (bC (fC rfl false rfl) aP) (ao (bC (fC rfl false rfl) aP) (ao (bC (fC rfl false rfl) aP) (be (cW (fC rfl true rfl) (be (bM (bI (ac.ah aq (ac.ah (bi (af rfl) aq (dL aX (bg rfl) rfl))
   (Xh (ci rfl (Xh (dU (fe (ji (af rfl) (aq (v:=.i 1)) (sT aX (by simp only[aD,dz,bY,aK,Xn,Xq,XR,Xk]at *;lia) o1)) aX o2) hit)) (j2 aX o3))))))))))))) (by repeat first |exact Yh _ |apply iz) hlo
 |d+1,.cH p,h,hs,σ,S,v,r=>by
  obtain⟨a,us,rfl,ha,r⟩:=rN (k:=eV) (l:=[p.cP]) r
  simp only[oE,jM]at r
  refine cO r ?_;clear r;intro v1 us q2 hv1 q4;subst q2;subst q4
  have hr:=vt d p (by simp only[oy]at h;exact jc h) (by simp only[rL]at hs;exact bT hs) _ S v1 (hv1.mS [.l [v1]])
  refine te ha (by refine(?_:1 < aK);unfold aK;decide) (ao (bC (fC rfl false rfl) aP) (ao (bC (fC rfl false rfl) aP) (ao (bC (fC rfl false rfl) aP) (ao (bC (fC rfl false rfl) aP)
   (ao (bh (cw (Xh (bi (af rfl) aq (dL aX (bg rfl) rfl))) hr) ba)
    (ao (fg (S:=.cr (σ++[O.l [v1]]).length []) (fe (ji (af rfl) aq (sT aX (by simp only[aD,dz,bY,aK,Xn,Xq,XR,Xk]at *;lia) (by unfold aD aK;simp))) aX (by unfold aD aK;simp)) fF)
     (be (bM (jC (aY (af rfl) aq rfl (Xo _)) (bI (ac.ah aq (Xh (af rfl))))))))))))) (iz (Yh _)) (Pp.lo_enc _ (.cH p))
 |d+1,.bG a b,h,hs,σ,S,v,r=>by
  have hl:=Pp.right_len a
  refine cN (Pp.left_dep a) λl1 l2 l3=>?_
  simp only[ko,jK]at h hs
  have r':RR σ S (.p (.w dA::(a.left::(a.right++[b])).map Pp.cP)) v:=by
   have e:(Pp.bG a b).cP=.p (.w dA::(a.left::(a.right++[b])).map Pp.cP):=by
    refine(?_:ar.p (.w dA::(a.sp++[b.cP]))=_)
    rw[Pp.sp_eq];simp
   rw[<-e];exact r
  refine cO (rN r') λx us q2 ha rr=>?_;subst q2
  refine c8 (dc.zip Pp.cP _ rr) λl e1 e2 e3=>?_
  cases l with
  |nil=>simp at e1
  |cons y l=>
   simp only[Xw,List.cons.injEq]at e1 e2
   subst e2
   refine bc e1 ?_;clear e1;intro ey e1
   have el:l.length=a.right.length+1:=by have:=Xu List.length e1;simpa using this
   have o1:aD (y.2::l.map (·.2)):=by unfold aD;simp only[Xq,Xk];lia
   have o2:aD (l.map λx:Pp×V=>x.2):=by unfold aD;simp only[Xk];lia
   have hy:=vt d y.1 (by rw[ey];lia) (by rw[ey];lia) _ S y.2 ((e3 y (Xz ..)).mS [.l (y.2::l.map (·.2))])
   refine c8 (JT (d:=d) (q:=(σ++[O.l (y.2::l.map (·.2))]).length) (ws:=l.map (·.2)) l y.1 (au (au (au (bf [.r x]) 1 (.s dA)) 2 (.r σ.length)) 3 y.1.enc) (σ++[O.l (y.2::l.map (·.2))]++[.l (l.map (·.2))]) rfl aX (λz hz=>by
    have hm:z.1∈a.right++[b]:=by rw[<-e1];exact Y0 hz
    refine vt d z.1 ?_ ?_ _ S z.2 (((e3 z (XA _ hz)).mS _).mS _)
    ·rcases XD hm with h |h
     ·have:=l3 _ h;lia
     ·rw[Yu]at h;rw[h];lia
    ·rcases XD hm with h |h
     ·have:=l3 _ h;lia
     ·rw[Yu]at h;rw[h];exact cG (hX hs))) λρ' f1 f2 f3=>?_
   have ef:(l.map λx:Pp×V=>x.1).foldl Pp.bG y.1=.bG a b:=by rw[e1,ey];exact Pp.fold (.bG a b)
   rw[ef]at f2
   refine te ha (by simp only[Xq,Xk];lia) (ao (bC (fC rfl false rfl) aP) (ao (bC (fC rfl false rfl) aP) (ao (bC (fC rfl false rfl) aP) (ao (bC (fC rfl false rfl) aP)
    (ao (bh (cw (Xh (bi (af rfl) aq (dL aX (bg rfl) rfl))) hy) ba)
     (ao (fg (fe (ji (af rfl) aq (sT aX (by simp only[aD,dz,bY,aK,Xn,Xq,XR,Xk]at *;lia) o1)) aX o2) f1)
      (be (bM (jh (aY (af f3) aq rfl (Xo _)) (af f2)))))))))) (iz (Yh _)) (Pp.lo_enc _ (.bG a b))
mutual
noncomputable def Tm.pc:Tm->Nat
 | .bS _ []=>0
 | .bS _ (k::ks)=>1+Tm.pcs (k::ks)
noncomputable def Tm.pcs:List Tm->Nat
 | []=>0
 |t::ts=>t.pc+Tm.pcs ts
end
theorem qd:Tm.pcs []=0:=rfl
theorem r4{t ts}:Tm.pcs (t::ts)=t.pc+Tm.pcs ts:=rfl
theorem EI{z1}:Tm.pc (.bS z1 [])=0:=rfl
theorem zL{z1 k ks}:Tm.pc (.bS z1 (k::ks))=1+Tm.pcs (k::ks):=rfl
mutual
noncomputable def Tm.nn:Tm->Nat
 | .bS _ ks=>1+Tm.nns ks
noncomputable def Tm.nns:List Tm->Nat
 | []=>0
 |t::ts=>t.nn+Tm.nns ts
end
theorem zK{z1 ks}:Tm.nn (.bS z1 ks)=1+Tm.nns ks:=rfl
theorem wL:Tm.nns []=0:=rfl
theorem rZ{t ts}:Tm.nns (t::ts)=t.nn+Tm.nns ts:=rfl
mutual
theorem Tm.nn_sz:∀t:Tm,t.nn<=t.sz
 | .bS op ks=>by have:=Tm.nns_sz ks;simp only[zK,oL];exact qF gh this
theorem Tm.nns_sz:∀ts:List Tm,Tm.nns ts<=Tm.szs ts
 | []=>Xp _
 |t::ts=>by have:=Tm.nns_sz ts;have:=Tm.nn_sz t;simp only[rZ,oM];lia
end
theorem EH(a b:List Tm):Tm.nns (a++b)=Tm.nns a+Tm.nns b:=by induction a<;>simp_all [wL,rZ];exact vg
theorem NB(a b:List Tm):Tm.pcs (a++b)=Tm.pcs a+Tm.pcs b:=by induction a<;>simp_all [qd,r4];exact vg
theorem Tm.nns_len:∀ts:List Tm,ts.length<=Tm.nns ts
 | []=>Xp _
 | .bS op ks::ts=>by have:=Tm.nns_len ts;simp only[rZ,zK,Xq];lia
theorem SN{q:Nat}{o:O}(h:τ <+:σ)(hq:τ.length<=q):τ <+:σ.set q o:=by
 refine aT h ?_;clear h;intro l q1;subst q1
 rw[List.set_append_right (h:=hq)];exact Yd _ _
noncomputable abbrev RS:St:=.w (.p .n (.v 3) (.d [])) [.a (.v 5) (.m 2 (.v 3) []),
  .a (.v 4) (.i .a (.v 4) (.b .i [(.p .g (.b .l [(.v 5)]) (.c (.i 1)))])),
  .e (.m 1 (.v 3) [(.e (.v 5) (some (.c (.i 1))) none)])]
theorem B7{d q:Nat}{ts:List Tm}(h3:ρ 3=some (.r q))(hs:σ[q]? =some (.l (ts.map Tm.enc))):Ev d 30 (.p .n (.v 3) (.d [])) ρ σ (.b (!(ts.map Tm.enc).isEmpty)) (σ++[.l []]):=
 aY (af h3) (dp ac.an) (Xu (Option.map (!·)) (Ao (bO _ [O.l []] hs) aX)) (Xo _)
noncomputable def vd(f:Int)(op:List Nat)(ks:List Tm):Int:=f+(if decide ((1:Int) < (V.s op::ks.map Tm.enc).length)then 1 else 0)
theorem RQ{f:Int}{us ks:List Tm}:vd f op ks+Tm.pcs (us++ks)=f+Tm.pcs (us++[.bS op ks]):=by
 simp only[vd,NB,qd,r4,Xq,Xk]
 cases ks with
 |nil=>simp[EI,qd]
 |cons k ks=>simp only[zL,Xq];rw[Xr (by simp;exact mD gh)];lia
noncomputable abbrev Ca(ρ:aA)(f:Int)(op:List Nat)(ks:List Tm):aA:=au (au ρ 5 (.t (.s op::ks.map Tm.enc))) 4 (.i (vd f op ks))
theorem RV{d q:Nat}{us ks:List Tm}{f:Int}(hl:us.length+1+ks.length<=aK)(h3:ρ 3=some (.r q))(h4:ρ 4=some (.i f))(hs:σ[q]? =some (.l ((us++[Tm.bS op ks]).map Tm.enc))):
  ae d 10 [.a (.v 5) (.m 2 (.v 3) []),.a (.v 4) (.i .a (.v 4) (.b .i [(.p .g (.b .l [(.v 5)]) (.c (.i 1)))])),.e (.m 1 (.v 3) [(.e (.v 5) (some (.c (.i 1))) none)])] ρ σ .n (Ca ρ f op ks) (σ.set q (.l ((us++ks).map Tm.enc))):=by
 have o1:aD ((us++[Tm.bS op ks]).map Tm.enc):=by unfold aD;simp only[Xk,Xn,Xq,XR];lia
 have hpop:=Ce hs (v:=.t (.s op::ks.map Tm.enc)) (by simp[uh,oK]) o1
 rw[show((us++[Tm.bS op ks]).map Tm.enc).dropLast=us.map Tm.enc by simp]at hpop
 have g2:(σ.set q (.l (us.map Tm.enc)))[q]? =some (.l (us.map Tm.enc)):=cR hs
 have o2:aD (V.s op::ks.map Tm.enc):=by unfold aD;simp only[Xq,Xk];exact cG (sZ (hX hl))
 have o3:aD (us.map Tm.enc++ks.map Tm.enc):=by unfold aD;simp only[Xn,Xk];exact bT (hX hl)
 have p3:(Ca ρ f op ks) 3=some (.r q):=h3
 have he:=Sj g2 o3
 rw[Yl,<-XV]at he
 exact ao (bh (dn (af h3) (eI hs rfl) ac.an rfl hpop) ba) (ao (bh (v:=.i (vd f op ks)) (bX (af h4) (ci rfl (Xh (aY (ci rfl (Xh (af (bw _ _ _))) (xX o2)) aq rfl (show dI .g _ from trivial))) IR) iy) ba) (Xi (du (v:=.n)
  (dn (af p3) (eI g2 rfl) (Xh (ji (af rfl) (aq (v:=.i 1)) (pf ⟨by decide,by simp only[Xq];exact nO⟩ o2))) rfl he))))
theorem RY{d q:Nat}(hq:τ.length<=q):∀(m:Nat) (ts:List Tm) (ρ:aA) (σ:aj) (f:Int),Tm.nns ts<=m->m<=aK->ρ 3=some (.r q)->ρ 4=some (.i f)->σ[q]? =some (.l (ts.map Tm.enc))->τ <+:σ->
  ∃ρ' σ',ai d 11 RS ρ σ .n ρ' σ'/\ρ' 4=some (.i (f+Tm.pcs ts))/\τ <+:σ':=λm=>by
 induction m with
 |zero=>
  intro ts ρ σ f hm hM h3 h4 hs hp
  cases ts with
  |nil=>exact dN ρ _ (iY (B7 h3 hs)) (by simpa [qd]using h4) (iz hp)
  |cons t ts=>have:=Tm.nns_len (t::ts);simp only[Xq]at this;exact Ck (cG this) hm
 |succ m ih=>
  intro ts ρ σ f hm hM h3 h4 hs hp
  rcases List.eq_nil_or_concat ts with e | ⟨us,⟨op,ks⟩,e⟩
  ·subst e
   exact dN ρ _ (iY (B7 h3 hs)) (by simpa [qd]using h4) (iz hp)
  ·rw[List.concat_eq_append]at e
   subst e
   simp only[EH,wL,rZ,zK]at hm
   have hk:=Tm.nns_len ks
   have ul:=Tm.nns_len us
   have g1:=bO _ [O.l []] hs
   refine cO (ih (us++ks) (Ca ρ f op ks) ((σ++[O.l []]).set q (.l ((us++ks).map Tm.enc))) (vd f op ks) (by rw[EH];lia) (bT hM) h3 (bw _ _ _) (cR g1) (SN (iz hp) hq)) λρ' σ' h1 h2 h5=>?_
   have hc:=B7 (d:=d) h3 hs
   rw[show(!((us++[Tm.bS op ks]).map Tm.enc).isEmpty)=true by simp]at hc
   exact dN ρ' σ' (lZ hc (RV (by lia) h3 h4 g1) h1) (by rw[<-RQ];exact h2) h5
mutual
noncomputable def Pp.spc:Pp->Nat
 | .cQ _=>1
 | .cZ t=>1+t.pc
 | .db _ ps=>1+(ps.map λx=>x.2.pc).sum
 | .cH p=>1+((if p.eG then 1 else 0)+p.spc)
 | .bG a b=>a.spc+((if b.eG then 1 else 0)+b.spc)
 | .cD _ ps=>1+Pp.spcs ps
noncomputable def Pp.spcs:List Pp->Nat
 | []=>0
 |p::ps=>((if p.eG then 1 else 0)+p.spc)+Pp.spcs ps
end
theorem zt{p ps}:Pp.spcs (p::ps)=((if p.eG then 1 else 0)+p.spc)+Pp.spcs ps:=rfl
theorem MY{z1}:Pp.spc (.cQ z1)=1:=rfl
theorem zo{t}:Pp.spc (.cZ t)=1+t.pc:=rfl
theorem zq{z1 ps}:Pp.spc (.db z1 ps)=(1+(ps.map λx=>x.2.pc).sum):=rfl
theorem D9{p}:Pp.spc (.cH p)=1+((if p.eG then 1 else 0)+p.spc):=rfl
theorem D'{a b}:Pp.spc (.bG a b)=a.spc+((if b.eG then 1 else 0)+b.spc):=rfl
theorem Ea{z1 ps}:Pp.spc (.cD z1 ps)=1+Pp.spcs ps:=rfl
noncomputable def Pp.cC(p:Pp)(l:Bool):Nat:=(if p.eG&& !l then 1 else 0)+p.spc
theorem wq(p:Pp):p.cC false=(if p.eG then 1 else 0)+p.spc:=by unfold Pp.cC;simp
theorem MZ(ps:List Pp):Pp.spcs ps=(ps.map λp=>p.cC false).sum:=by
 induction ps with
 |nil=>rfl
 |cons p ps ih=>simp only[zt,ih,Xw,Yk,wq]
theorem NC(ts:List Tm):Tm.pcs ts=(ts.map Tm.pc).sum:=by induction ts<;>simp_all [qd,r4]
mutual
theorem Tm.pc_sz:∀t:Tm,t.pc+1<=t.sz
 | .bS op []=>by simp only[EI,oL];exact cG iO
 | .bS op (k::ks)=>by have:=Tm.pcs_sz (k::ks);simp only[zL,oL];exact hX (qF gh this)
theorem Tm.pcs_sz:∀ts:List Tm,Tm.pcs ts<=Tm.szs ts
 | []=>Xp _
 |t::ts=>by have:=Tm.pcs_sz ts;have:=Tm.pc_sz t;simp only[r4,oM];lia
end
mutual
theorem Pp.spc_sz:∀p:Pp,p.spc+2<=p.sz
 | .cQ w=>by simp only[MY,zv];exact gh
 | .cZ t=>by have:=Tm.pc_sz t;simp only[zo,rK];exact x4 (vm this) rfl
 | .db w ps=>by
  have:=ym (f:=λx:List Nat×Tm=>x.2.pc) (g:=λx=>x.1.length+x.2.sz+5) ps λx _=>by have:=Tm.pc_sz x.2;exact bT (d5 (sX this))
  simp only[zq,pT];exact hX (qF gh this)
 | .cH p=>by have:=Pp.spc_sz p;simp only[D9,rL];split<;>lia
 | .bG a b=>by have:=Pp.spc_sz a;have:=Pp.spc_sz b;simp only[D',jK];split<;>lia
 | .cD w ps=>by have:=Pp.spcs_sz ps;simp only[Ea,pU];exact hX (qF gh this)
theorem Pp.spcs_sz:∀ps:List Pp,Pp.spcs ps<=Pp.szs ps
 | []=>Xp _
 |p::ps=>by have:=Pp.spcs_sz ps;have:=Pp.spc_sz p;simp only[zt,pV];split<;>lia
end
theorem Pp.MS(p:Pp)(l:Bool):p.cC l<=p.sz:=by have:=p.spc_sz;unfold Pp.cC;split<;>lia
theorem GX(is:List Int):jy (is.map V.i)=some is:=by induction is<;>simp_all [Qa,Qb]
theorem B9{d:Nat}{P:Pp}{k:List Nat}(qs:List Pp)(g:Nat->Bool)(h6:ρ 6=some (.t (qs.map Pp.enc)))(h2:ρ 2=some (.s k))(h1:ρ 1=some (.b L))(hl:qs.length<=aK)
  (hg:∀i,i < qs.length->(decide (k=dA)&&decide (i=0))=g i) (hr:∀(i:Nat) (q:Pp),qs[i]? =some q->aL d 49 [q.enc,.b (g i)] σ (.i (q.cC (g i))) σ/\q.sz<=aK):
  ∃σ',ai d 12 (.r (.i .a (.b .i [(.r [(.p .n (.v 2) (.c (.s [106,111,105,110]))),(.j (.v 1))])]) (.b .s [(.o (.l 49 [(.v 10),(.n [(.p .e (.v 2) (.c (.s [106,111,105,110]))),(.p .e (.v 9) (.c (.i 0)))])]) [.m (.t [(.v 9),(.v 10)]) (.n (.v 6)) []])])))
   ρ σ (.r (.i ((if !decide (k=dA)|| !L then 1 else 0)+((qs.zipIdx.map λx=>(x.1.cC (g x.2):Int)).sum)))) ρ σ'/\σ <+:σ':=by
 have o1:aD (qs.map Pp.enc):=by unfold aD;simpa using hl
 have hit:=gI (d:=d) (n:=27) (elt:=.l 49 [(.v 10),(.n [(.p .e (.v 2) (.c (.s [106,111,105,110]))),(.p .e (.v 9) (.c (.i 0)))])]) (tg:=.t [(.v 9),(.v 10)]) (ρ:=ρ) (σ:=σ) (S:=.bx ((qs.map Pp.enc).zipIdx.map λp=>V.t [.i p.2,p.1])) (λ_=>rfl) (λ_=>trivial)
  (λx:Pp×Nat=>V.t [.i x.2,x.1.enc]) (λx=>.i (x.1.cC (g x.2))) qs.zipIdx (λx hx=>by
   have hx':=List.mem_zipIdx_iff_getElem?.mp hx
   have hi:x.2 < qs.length:=(XS hx').1
   have e9:(au (au ρ 9 (.i x.2)) 10 x.1.enc) 9=some (.i x.2):=by rw[bR _ _ (by decide)];exact bw _ _ _
   have e2:(au (au ρ 9 (.i x.2)) 10 x.1.enc) 2=some (.s k):=by rw[bR _ _ (by decide),bR _ _ (by decide)];exact h2
   refine aC (au (au ρ 9 (.i x.2)) 10 x.1.enc) rfl (cw (ac.ah (af (bw _ _ _)) (Xh ?_)) (hr x.2 x.1 hx').1)
   rw[<-hg x.2 hi]
   have c2:∀b,decide (k=dA)=b->Ev d 25 (.p .e (.v 2) (.c (.s [106,111,105,110]))) (au (au ρ 9 (.i x.2)) 10 x.1.enc) σ (.b b) σ:=λb hb=>aY (af e2) aq (by refine(?_:some _=_);rw[hb]) (Xo _)
   cases hk:decide (k=dA)with
   |false=>exact lK (c2 false hk)
   |true=>
    refine j8 (c2 true hk) (aY (af e9) aq ?_ (Xo _))
    refine(?_:some (decide ((x.2:Int)=0))=_)
    simp) [] (by unfold aD;simpa using hl)
 have ei:qs.zipIdx.map (λx:Pp×Nat=>V.t [.i x.2,x.1.enc])=(qs.map Pp.enc).zipIdx.map λp=>V.t [.i p.2,p.1]:=by
  rw[List.zipIdx_map,XN];rfl
 rw[ei,XT]at hit
 have hs:jy (qs.zipIdx.map λx=>V.i (x.1.cC (g x.2)))=some (qs.zipIdx.map λx=>(x.1.cC (g x.2):Int)):=by
  have:=GX (qs.zipIdx.map λx=>(x.1.cC (g x.2):Int))
  rw[XN]at this;exact this
 have o2:aD (qs.zipIdx.map λx=>V.i (x.1.cC (g x.2))):=by unfold aD;simpa using hl
 refine aC _ (bM (bX (u:=.i (if !decide (k=dA)|| !L then 1 else 0)) (σ₁:=σ) ?_ (ci rfl (Xh (dU (MG (af h6) o1) hit)) (xY aX hs o2 λi hi=>?_)) iy)) (iz (Yh _))
 ·refine ci rfl (vs:=[.b (!decide (k=dA)|| !L)]) (Xh ?_) IR
  have c2:∀b,decide (k=dA)=b->Ev d 27 (.p .n (.v 2) (.c (.s [106,111,105,110]))) ρ σ (.b (!b)) σ:=λb hb=>aY (af h2) aq (by refine(?_:some _=_);rw[hb]) (Xo _)
  cases hk:decide (k=dA)with
  |false=>exact Df (c2 false hk)
  |true=>exact rm (c2 true hk) (tK (tJ (af h1)))
 ·refine az (XY hi) λx hx q2=>?_;subst q2
  have hx':=List.mem_zipIdx_iff_getElem?.mp hx
  have h1:=(hr x.2 x.1 hx').2
  have h2:=x.1.MS (g x.2)
  unfold bY;have:aK=1000000:=rfl;lia
theorem IF{d:Nat}{k:List Nat}(ts:List Tm)(he:P.enc=.t (.s k::xs))(hk:(jB [V.s i6,V.s fP]).map (·.contains k)=some true)(hl:Tm.nns ts<=aK){q:Nat}(hq:σ.length<=q)(hs:σ₁[q]? =some (.l (ts.map Tm.enc)))(hp:σ <+:σ₁)
  (h:Ev d 29 (.f (.p .e (.v 2) (.c (.s i6))) (.d [(.s (.v 0) (.c (.i 1)))]) (.o (.v 8) [.m (.t [(.v 7),(.v 8)]) (.e (.s (.v 0) (.c (.i 2)))) []])) (au (bf [P.enc,.b L]) 2 (.s k)) σ (.r q) σ₁):
  aL (d+1) 49 [P.enc,.b L] σ (.i (1+Tm.pcs ts)) σ:=by
 refine cO (RY (d:=d) hq (Tm.nns ts) ts (au (au (au (bf [P.enc,.b L]) 2 (.s k)) 3 (.r q)) 4 (.i 1)) σ₁ 1 (Xp _) hl (by rw[bR _ _ (by decide)];exact bw _ _ _) (bw _ _ _) hs hp) λρ' σ' h1 h2 h3=>?_
 refine fV (f:=uG) rfl rfl (ao (bh (v:=.s k) (bi (af (v:=P.enc) rfl) aq ?_) ba) (be (cW (aY (af (bw _ _ _)) (bI (ac.ah aq (Xh aq))) hk (show dI .i _ from trivial))
  (ao (bh (v:=.t [.r q,.i 1]) (bI (ac.ah h (Xh aq))) (gQ rfl rfl (da ba (da ba gR)))) (ao h1 (be (bM (af h2)))))))) h3 rfl
 rw[he];exact c9 (bg rfl) rfl
theorem xT{d:Nat}{k:List Nat}{v:V}(he:P.enc=.t (.s k::xs))(hk:(jB [V.s i6,V.s fP]).map (·.contains k)=some false)
  (h:ae d 12 (uG.dZ.drop 2) (au (bf [P.enc,.b L]) 2 (.s k)) σ (.r v) ρ' σ') (hp:σ <+:σ') (hv:v.lo σ.length=true):aL (d+1) 49 [P.enc,.b L] σ v σ:=by
 have h':=h
 simp only[uG,List.drop_succ_cons,List.drop_zero]at h'
 refine fV (f:=uG) rfl rfl (ao (bh (v:=.s k) (bi (af (v:=P.enc) rfl) aq ?_) ba) (ao (bC (aY (af (bw _ _ _)) (bI (ac.ah aq (Xh aq))) hk (show dI .i _ from trivial)) aP) h')) hp hv
 rw[he];exact c9 (bg rfl) rfl
theorem MU(p:Pp)(L:Bool):(Pp.cH p).cC L=1+p.cC false:=by
 have:(Pp.cH p).cC L=(if false&& !L then 1 else 0)+(1+((if p.eG then 1 else 0)+p.spc)):=rfl
 rw[this,wq];simp
theorem MT(p:Pp):p.cC true=p.spc:=by unfold Pp.cC;simp
theorem MR(a b:Pp)(L:Bool):(Pp.bG a b).cC L=(if !L then 1 else 0)+(a.cC true+b.cC false):=by
 have:(Pp.bG a b).cC L=(if true&& !L then 1 else 0)+(a.spc+((if b.eG then 1 else 0)+b.spc)):=rfl
 rw[this,wq,MT];simp
theorem MV(w:List Nat)(ps:List Pp)(L:Bool):(Pp.cD w ps).cC L=1+(ps.map λp=>p.cC false).sum:=by
 have:(Pp.cD w ps).cC L=(if false&& !L then 1 else 0)+(1+Pp.spcs ps):=rfl
 rw[this,MZ];simp
theorem vq:∀(d:Nat) (P:Pp),P.dep<=d->P.sz<=aK->∀(L:Bool) (σ:aj),aL d 49 [P.enc,.b L] σ (.i (P.cC L)) σ
 |0,P,h,_,_,_=>by cases P<;>simp[wj,pQ,pR,oy,ko,oA]at h
 |d+1,.cQ w,h,hs,L,σ=>by
  exact xT (P:=.cQ w) (k:=mu) rfl rfl (be (cW (fC rfl true rfl) (be (bM aq)))) (Yh _) rfl
 |d+1,.cZ t,h,hs,L,σ=>by
  have:=Tm.nn_sz t
  simp only[rK]at hs
  have hr:=IF (d:=d) (P:=.cZ t) (L:=L) (k:=i6) (σ:=σ) (σ₁:=σ++[.l [t.enc]]) [t] rfl rfl (by simp only[wL,rZ];lia) (Xp _) aX (Yd _ _)
   (jC (aY (af rfl) aq rfl (Xo _)) (dp (Xh (bi (af rfl) aq (c9 (bg rfl) rfl)))))
  have e:((Pp.cZ t).cC L:Int)=1+Tm.pcs [t]:=by simp[Pp.cC,Sd,zo,qd,r4]
  rw[e];exact hr
 |d+1,.db w ps,h,hs,L,σ=>by
  have h1:=ym (f:=λx:List Nat×Tm=>x.2.nn) (g:=λx=>x.1.length+x.2.sz+5) ps λx _=>by have:=Tm.nn_sz x.2;exact d5 (sX this)
  have hl:ps.length<=(ps.map λx=>x.1.length+x.2.sz+5).sum:=yn _ (λx=>gh) ps
  simp only[pT]at hs
  have en:Tm.nns (ps.map (·.2))=(ps.map λx=>x.2.nn).sum:=by clear h h1 hs hl;induction ps<;>simp_all [wL,rZ]
  have hit:=gI (d:=d) (n:=27) (elt:=.v 8) (tg:=.t [(.v 7),(.v 8)]) (ρ:=au (bf [(Pp.db w ps).enc,.b L]) 2 (.s fP)) (σ:=σ) (S:=.bx (ps.map dG)) (λ_=>rfl) (λ_=>trivial) dG (λx=>x.2.enc) ps
   (λx hx=>aC (au (au (au (bf [(Pp.db w ps).enc,.b L]) 2 (.s fP)) 7 (.s x.1)) 8 x.2.enc) rfl (af (bw _ _ _))) [] (by unfold aD;simp;exact qT hl (cG hs))
  rw[XT]at hit
  have hr:=IF (d:=d) (P:=.db w ps) (L:=L) (k:=fP) (σ:=σ) (σ₁:=σ++[.l (ps.map λx=>x.2.enc)]) (ps.map (·.2)) rfl rfl (by rw[en];exact qT h1 (cG hs)) (Xp _) (by rw[aX,XN];rfl) (Yd _ _)
   (jh (aY (af rfl) aq rfl (Xo _)) (dU (jJ (bi (af rfl) aq (c9 (bg rfl) rfl)) (by unfold aD;simp;exact qT hl (cG hs))) hit))
  have e:((Pp.db w ps).cC L:Int)=1+Tm.pcs (ps.map (·.2)):=by simp[Pp.cC,Se,zq,NC,XN,Function.comp_def]
  rw[e];exact hr
 |d+1,.cH p,h,hs,L,σ=>by
  simp only[oy,rL]at h hs
  refine az (B9 (d:=d) (P:=.cH p) (L:=L) (k:=eV) (σ:=σ) (ρ:=au (au (bf [(Pp.cH p).enc,.b L]) 2 (.s eV)) 6 (.t [p.enc])) [p] (λ_=>false) rfl rfl rfl (by refine(?_:1<=aK);unfold aK;decide) (λi hi=>rfl) (λi q hq=>by
   cases i with
   |zero=>simp at hq;subst hq;exact bm (vq d p (jc h) (bT hs) false σ) (bT hs)
   |succ i=>simp at hq)) λσ' hr hp=>?_
  have e:((if !decide (eV=dA)|| !L then 1 else 0:Int)+(([p].zipIdx.map λx=>(x.1.cC false:Int)).sum))=(Pp.cH p).cC L:=by
   have:((if !decide (eV=dA)|| !L then 1 else 0:Int))=1:=Xr rfl
   rw[this];refine(?_:(1:Int)+((p.cC false:Int)+0)=_);rw[MU];lia
  rw[e]at hr
  exact xT (P:=.cH p) (k:=eV) rfl rfl (ao (bC (fC rfl false rfl) aP) (ao (bh (jh (aY (af rfl) aq rfl (Xo _)) (ji (af rfl) (aq (v:=.i 1)) (pf (xs:=[.s eV,p.enc]) ⟨by decide,by refine(?_:(1:Int)<=2);decide⟩ (by refine(?_:2<=aK);unfold aK;decide)))) ba) (be hr))) hp rfl
 |d+1,.bG a b,h,hs,L,σ=>by
  simp only[ko,jK]at h hs
  refine az (B9 (d:=d) (P:=.bG a b) (L:=L) (k:=dA) (σ:=σ) (ρ:=au (au (bf [(Pp.bG a b).enc,.b L]) 2 (.s dA)) 6 (.t [a.enc,b.enc])) [a,b] (λi=>decide (i=0)) rfl rfl rfl (by refine(?_:2<=aK);unfold aK;decide) (λi hi=>rfl) (λi q hq=>by
   match i with
   |0=>simp at hq;subst hq;exact bm (vq d a (by lia) (bT (sZ hs)) true σ) (bT (sZ hs))
   |1=>simp at hq;subst hq;exact bm (vq d b (by lia) (cG (hX hs)) false σ) (cG (hX hs))
   |i+2=>simp at hq)) λσ' hr hp=>?_
  have e:((if !decide (dA=dA)|| !L then 1 else 0:Int)+(([a,b].zipIdx.map λx=>(x.1.cC (decide (x.2=0)):Int)).sum))=(Pp.bG a b).cC L:=by
   refine(?_:(if !decide (dA=dA)|| !L then 1 else 0:Int)+((a.cC true:Int)+((b.cC false:Int)+0))=_)
   rw[MR];cases L<;>simp<;>lia
  rw[e]at hr
  exact xT (P:=.bG a b) (k:=dA) rfl rfl (ao (bC (fC rfl false rfl) aP) (ao (bh (jh (aY (af rfl) aq rfl (Xo _)) (ji (af rfl) (aq (v:=.i 1)) (pf (xs:=[.s dA,a.enc,b.enc]) ⟨by decide,by refine(?_:(1:Int)<=3);decide⟩ (by refine(?_:3<=aK);unfold aK;decide)))) ba) (be hr))) hp rfl
 |d+1,.cD w ps,h,hs,L,σ=>by
  have hl:=Pp.szs_len ps
  simp only[oA,pU]at h hs
  refine az (B9 (d:=d) (P:=.cD w ps) (L:=L) (k:=gf) (σ:=σ) (ρ:=au (au (bf [(Pp.cD w ps).enc,.b L]) 2 (.s gf)) 6 (.t (ps.map Pp.enc))) ps (λ_=>false) rfl rfl rfl (qT hl (cG hs)) (λi hi=>rfl) (λi q hq=>by
   have hm:=Yi hq
   have h1:=Pp.deps_mem hm
   have h2:=Pp.szs_mem hm
   exact bm (vq d q (qT h1 (jc h)) (qT h2 (cG hs)) false σ) (qT h2 (cG hs)))) λσ' hr hp=>?_
  have e:((if !decide (gf=dA)|| !L then 1 else 0:Int)+((ps.zipIdx.map λx=>(x.1.cC false:Int)).sum))=(Pp.cD w ps).cC L:=by
   have:((if !decide (gf=dA)|| !L then 1 else 0:Int))=1:=Xr rfl
   rw[this]
   have e2:ps.zipIdx.map (λx=>(x.1.cC false:Int))=ps.map λp=>(p.cC false:Int):=by
    have:=List.zipIdx_map_fst 0 ps
    rw[show(λx:Pp×Nat=>(x.1.cC false:Int))=(λp:Pp=>(p.cC false:Int)) ∘ Prod.fst from rfl,<-XN,this]
   rw[e2]
   have e3:∀l:List Pp,(l.map λp=>(p.cC false:Int)).sum=((l.map λp=>p.cC false).sum:Nat):=λl=>by induction l<;>simp_all
   rw[e3,MV];lia
  rw[e]at hr
  refine xT (P:=.cD w ps) (k:=gf) rfl rfl (ao (bC (fC rfl false rfl) aP) (ao (bh (jC (aY (af rfl) aq rfl (Xo _)) (bi (af rfl) aq (c9 (bg rfl) ?_))) ba) (be hr))) hp rfl
  rw[<-rJ];rfl
theorem dR{w:List Nat}(h:(!w.isEmpty&&w.all λc=>c !=40&&c !=41&&c !=32)=true):im w:=by
 simp only[YD,Bool.not_eq_true',List.all_eq_true,bne_iff_ne,ne_eq]at h
 exact bm (λe=>(by rw[e]at h;cases h.1)) (λc hc=>⟨(h.2 c hc).1.1,(h.2 c hc).1.2,(h.2 c hc).2⟩)
mutual
noncomputable def Tm.good:Tm->Prop
 | .bS op ks=>im op/\Tm.goods ks
noncomputable def Tm.goods:List Tm->Prop
 | []=>True
 |t::ts=>t.good/\Tm.goods ts
end
theorem Ny:Tm.goods []=True:=rfl
theorem NA{t ts}:Tm.goods (t::ts)=(t.good/\Tm.goods ts):=rfl
mutual
noncomputable def Pp.good:Pp->Prop
 | .cQ w=>im w
 | .cZ t=>t.good
 | .db w ps=>im w/\∀x∈ps,im x.1/\x.2.good
 | .cH p=>p.good
 | .bG a b=>a.good/\b.good
 | .cD w ps=>im w/\Pp.goods ps
noncomputable def Pp.goods:List Pp->Prop
 | []=>True
 |p::ps=>p.good/\Pp.goods ps
end
theorem MO:Pp.goods []=True:=rfl
theorem MQ{p ps}:Pp.goods (p::ps)=(p.good/\Pp.goods ps):=rfl
theorem ar.goods_mem:∀{l:List ar},ar.goods l↔∀r∈l,r.good
 | []=>by simp[Ed]
 |r::l=>by simp only[Ee,ar.goods_mem (l:=l),Yn,forall_eq_or_imp]
mutual
theorem Tm.raw_good:∀t:Tm,t.good->t.raw.good
 | .bS op [],h=>h.1
 | .bS op (k::ks),h=>⟨h.1,Tm.raws_good (k::ks) h.2⟩
theorem Tm.raws_good:∀ts:List Tm,Tm.goods ts->ar.goods (Tm.raws ts)
 | [],_=>trivial
 |t::ts,h=>⟨Tm.raw_good t h.1,Tm.raws_good ts h.2⟩
end
theorem yu{j:Bool}{l:List ar}(h:ar.goods l)(hl:l≠[]):(jf j l).good:=by
 unfold jf
 split
 ·exact bm (dR rfl) h
 ·cases l with
  |nil=>exact absurd rfl hl
  |cons r l=>exact h.1
theorem Pp.wu(p:Pp):p.sp≠[]:=by rw[Pp.sp_eq];simp
mutual
theorem Pp.sp_good:∀p:Pp,p.good->ar.goods p.sp
 | .cQ w,h=>⟨⟨dR rfl,h,trivial⟩,trivial⟩
 | .cZ t,h=>⟨⟨dR rfl,Tm.raw_good t h,trivial⟩,trivial⟩
 | .db w ps,h=>by
  refine bm (⟨dR rfl,h.1,?_⟩) trivial
  rw[ar.goods_mem]
  intro r hr
  refine az (List.mem_flatMap.mp hr) λx hx hr=>?_
  have:=h.2 x hx
  simp only[Yn,XX,or_false]at hr
  rcases hr with rfl |rfl
  ·exact this.1
  ·exact Tm.raw_good _ this.2
 | .cH p,h=>⟨⟨dR rfl,yu (Pp.sp_good p h) p.wu,trivial⟩,trivial⟩
 | .bG a b,h=>by
  have h1:=Pp.sp_good a h.1
  have h2:=yu (j:=b.eG) (Pp.sp_good b h.2) b.wu
  simp only[wt]
  rw[ar.goods_mem]at h1 ⊢
  intro r hr
  rcases XD hr with hr |hr
  ·exact h1 r hr
  ·rw[Yu]at hr;subst hr;exact h2
 | .cD w ps,h=>⟨⟨dR rfl,h.1,Pp.sps_good ps h.2⟩,trivial⟩
theorem Pp.sps_good:∀ps:List Pp,Pp.goods ps->ar.goods (Pp.sps ps)
 | [],_=>trivial
 |p::ps,h=>⟨yu (Pp.sp_good p h.1) p.wu,Pp.sps_good ps h.2⟩
end
theorem Pp.D0(p:Pp)(h:p.good):p.cP.good:=yu (Pp.sp_good p h) p.wu
theorem Pp.MW(p:Pp):∃l,p.cP=.p l:=by cases p<;>exact fA _ rfl
noncomputable def mZ(a b:Nat):Prop:=(a=32/\b=32)∨(a=40/\b=32)∨(a=32/\b=41)
noncomputable def qE:List Nat->Prop
 | []=>True
 | [_]=>True
 |a::b::r=>¬mZ a b/\qE (b::r)
theorem u8:∀{l m:List Nat},qE l->qE m->(∀a b,l.getLast? =some a->m.head? =some b->¬mZ a b)->qE (l++m)
 | [],m,_,h2,_=>h2
 | [a],[],_,_,_=>trivial
 | [a],b::m,_,h2,h=>⟨h a b rfl rfl,h2⟩
 |a::b::l,m,h1,h2,h=>⟨h1.1,u8 (l:=b::l) h1.2 h2 λx y hx hy=>h x y (by simpa using hx) hy⟩
theorem xA{x y:Nat}(hb:mZ x y):∀{l:List Nat},qE l->gd [x,y] l=false
 | [],_=>rfl
 | [a],_=>by simp[G7,Bk,List.isPrefixOf]
 |a::b::r,h=>by
  have ih:=xA hb (l:=b::r) h.2
  have hp:List.isPrefixOf [x,y] (a::b::r)=false:=by
   simp only[List.isPrefixOf,Bool.and_true,Bool.and_eq_false_iff,beq_eq_false_iff_ne]
   by_cases e:x=a
   ·exact .inr λe2=>h.1 (by rw[<-e,<-e2];exact hb)
   ·exact .inl e
  rw[Bk,hp,ih];rfl
noncomputable def qG(l:List Nat):Prop:=qE l/\(∃a,l.head? =some a/\a≠32/\a≠41)/\(∃a,l.getLast? =some a/\a≠32/\a≠40)
theorem Iu:∀{w:List Nat},(∀c∈w,nc c)->qE w
 | [],_=>trivial
 | [_],_=>trivial
 |a::b::r,h=>⟨λhb=>by
   have ha:=h a (by simp);have hb':=h b (by simp)
   unfold mZ nc at *;lia,Iu λc hc=>h c (XA _ hc)⟩
theorem RJ{w:List Nat}(h:im w):qG w:=by
 refine bc h ?_;clear h;intro h1 h2
 refine fy (Iu h2) ?_ ?_
 ·cases w with
  |nil=>exact absurd rfl h1
  |cons a w=>have:=h2 a (by simp);exact dK a rfl this.2.2 this.2.1
 ·rcases List.eq_nil_or_concat w with e | ⟨l,a,e⟩
  ·exact absurd e h1
  ·rw[List.concat_eq_append]at e;subst e
   have:=h2 a (by simp);exact dK a (by simp) this.2.2 this.1
theorem Iy:∀(l:List (List Nat)),l≠[]->(∀t∈l,qG t)->qG (cy [32] l)
 | [t],_,h=>h t (by simp)
 |t::u::l,_,h=>by
  have ht:=h t (by simp)
  have hj:=Iy (u::l) (by simp) λx hx=>h x (XA _ hx)
  refine cN ht ?_;clear ht;intro a1 nn0 nn1;refine az nn0 ?_;clear nn0;intro b1 b2 b3;refine az nn1 ?_;clear nn1;intro c1 c2 c3
  refine cN hj ?_;clear hj;intro d1 nn0 nn1;refine az nn0 ?_;clear nn0;intro e1 e2 e3;refine az nn1 ?_;clear nn1;intro f1 f2 f3
  have tn:t≠[]:=λe=>by subst e;cases b2
  have jn:cy [32] (u::l)≠[]:=λe=>by rw[e]at e2;cases e2
  refine(?_:qG (t++[32]++cy [32] (u::l)))
  refine fy (u8 (u8 a1 trivial λx y hx hy=>?_) d1 λx y hx hy=>?_) (aC b1 ?_ b3) (aC f1 ?_ f3)
  ·rw[c2]at hx;cases hx;cases hy;unfold mZ;lia
  ·rw[List.getLast?_append]at hx;simp at hx;rw[e2]at hy;cases hy;unfold mZ;lia
  ·rw[XM,List.head?_append,b2];rfl
  ·rw[List.getLast?_append,f2];rfl
mutual
theorem ar.text_ok:∀r:ar,r.good->qG r.text
 | .w s,h=>RJ h
 | .p l,h=>by
  have hl:=ar.texts_ok l h
  refine(?_:qG ([40]++cy [32] (ar.texts l)++[41]))
  cases l with
  |nil=>exact fy (⟨by unfold mZ;lia,trivial⟩) (dK 40 rfl (by decide) (by decide)) (dK 41 rfl (by decide) (by decide))
  |cons r l=>
   refine cN (Iy (ar.texts (r::l)) (by simp[lY]) hl) λd1 nn0 nn1=>?_;refine az nn0 ?_;clear nn0;intro e1 e2 e3;refine az nn1 ?_;clear nn1;intro f1 f2 f3
   refine fy (u8 (u8 trivial d1 λx y hx hy=>?_) trivial λx y hx hy=>?_) (dK 40 rfl (by decide) (by decide)) (dK 41 (by rw[List.getLast?_append];rfl) (by decide) (by decide))
   ·cases hx;rw[e2]at hy;cases hy;unfold mZ;lia
   ·rw[List.getLast?_append,f2]at hx;cases hx;cases hy;unfold mZ;lia
theorem ar.texts_ok:∀l:List ar,ar.goods l->∀t∈ar.texts l,qG t
 | [],_,t,h=>by cases h
 |r::l,hg,t,h=>by
  rcases XC h with rfl |h
  ·exact ar.text_ok r hg.1
  ·exact ar.texts_ok l hg.2 t h
end
mutual
noncomputable def ar.pc:ar->Nat
 | .w _=>0
 | .p l=>1+ar.pcs l
noncomputable def ar.pcs:List ar->Nat
 | []=>0
 |r::l=>r.pc+ar.pcs l
end
theorem oF:ar.pcs []=0:=rfl
theorem jN{r l}:ar.pcs (r::l)=r.pc+ar.pcs l:=rfl
theorem pW{z1}:ar.pc (.w z1)=0:=rfl
theorem pX{l}:ar.pc (.p l)=1+ar.pcs l:=rfl
theorem FA:∀l:List (List Nat),(cy [32] l).count 40=(l.map λt=>t.count 40).sum
 | []=>rfl
 | [t]=>by simp[oX]
 |t::u::l=>by
  have:=FA (u::l)
  simp only[qy,List.count_append,Xw,Yk]at *
  rw[this];simp
theorem OK{w:List Nat}(h:∀c∈w,nc c):w.count 40=0:=List.count_eq_zero.mpr λhm=>(h 40 hm).1 rfl
mutual
theorem ar.count:∀r:ar,r.good->r.text.count 40=r.pc
 | .w s,h=>OK h.2
 | .p l,h=>by
  have:=ar.counts l h
  simp only[ie,List.count_append,FA,this,pX]
  simp
theorem ar.counts:∀l:List ar,ar.goods l->((ar.texts l).map λt=>t.count 40).sum=ar.pcs l
 | [],_=>rfl
 |r::l,h=>by simp only[lY,Xw,Yk,ar.count r h.1,ar.counts l h.2,jN]
end
theorem Ef(a b:List ar):ar.pcs (a++b)=ar.pcs a+ar.pcs b:=by induction a<;>simp_all [oF,jN];exact vg
mutual
theorem Tm.raw_pc:∀t:Tm,t.raw.pc=t.pc
 | .bS op []=>rfl
 | .bS op (k::ks)=>by simp only[zM,pW,pX,jN,Tm.raws_pc (k::ks),zL];exact JJ
theorem Tm.raws_pc:∀ts:List Tm,ar.pcs (Tm.raws ts)=Tm.pcs ts
 | []=>rfl
 |t::ts=>by simp only[zN,jN,Tm.raw_pc t,Tm.raws_pc ts,r4]
end
theorem yw{p:Pp}{n:Nat}(h:ar.pcs p.sp=n):(jf p.eG p.sp).pc=(if p.eG then 1 else 0)+n:=by
 unfold jf
 cases hj:p.eG with
 |true=>simp only[if_true,pW,pX,jN,h];exact JJ
 |false=>
  have e:∃r,p.sp=[r]:=by cases p<;>first |exact fA _ rfl |cases hj
  refine aT e ?_;clear e;intro r hr
  rw[hr]at h ⊢
  simp only[oF,jN]at h
  simp;lia
mutual
theorem Pp.sp_pc:∀p:Pp,ar.pcs p.sp=p.spc
 | .cQ w=>rfl
 | .cZ t=>by simp only[D4,oF,jN,pW,pX,Tm.raw_pc,zo];exact Jm
 | .db w ps=>by
  have:ar.pcs (ps.flatMap λx=>[.w x.1,x.2.raw])=(ps.map λx=>x.2.pc).sum:=by
   induction ps with
   |nil=>rfl
   |cons x ps ih=>simp only[List.flatMap_cons,Ef,ih,oF,jN,pW,Tm.raw_pc,Xw,Yk];lia
  simp only[D5,oF,jN,pW,pX,this,zq];exact Jn
 | .cH p=>by
  have:=yw (Pp.sp_pc p)
  simp only[D7,oF,jN,pW,pX,this,D9];exact Jm
 | .bG a b=>by
  have:=yw (Pp.sp_pc b)
  simp only[wt,Ef,Pp.sp_pc a,oF,jN,this,D'];lia
 | .cD w ps=>by simp only[D8,oF,jN,pW,pX,Pp.sps_pc ps,Ea];exact Jn
theorem Pp.sps_pc:∀ps:List Pp,ar.pcs (Pp.sps ps)=Pp.spcs ps
 | []=>rfl
 |p::ps=>by
  have:=yw (Pp.sp_pc p)
  simp only[zu,jN,this,Pp.sps_pc ps,zt]
end
theorem Pp.MJ(p:Pp)(h:p.good):p.cP.text.count 40=p.cC false:=by rw[ar.count _ (p.D0 h),wq];exact yw p.sp_pc
mutual
theorem Tm.eq_enc:∀t:Tm,gX t.enc t.enc=some true
 | .bS op ks=>by
  refine(?_:vc (some (decide (op=op))) (fY (Tm.encs ks) (Tm.encs ks))=_)
  rw[Tm.eq_encs ks,XL rfl];rfl
theorem Tm.eq_encs:∀ts:List Tm,fY (Tm.encs ts) (Tm.encs ts)=some true
 | []=>rfl
 |t::ts=>by
  refine(?_:vc (gX t.enc t.enc) (fY (Tm.encs ts) (Tm.encs ts))=_)
  rw[Tm.eq_enc t,Tm.eq_encs ts];rfl
end
theorem gH{x:V}(h:gX x x=some true)(h2:fY xs xs=some true):fY (x::xs) (x::xs)=some true:=by
 refine(?_:vc (gX x x) (fY xs xs)=_)
 rw[h,h2];rfl
theorem sn(h:fY xs xs=some true):gX (.t xs) (.t xs)=some true:=h
theorem qt:fY [] []=some true:=rfl
theorem ml(s:List Nat):gX (.s s) (.s s)=some true:=by refine(?_:some (decide (s=s))=_);rw[XL rfl]
mutual
theorem Pp.eq_enc:∀p:Pp,gX p.enc p.enc=some true
 | .cQ w=>sn<|gH (ml _) (gH (ml _) qt)
 | .cZ t=>sn<|gH (ml _) (gH t.eq_enc qt)
 | .db w ps=>by
  have:fY (ps.map dG) (ps.map dG)=some true:=by
   induction ps with
   |nil=>rfl
   |cons x ps ih=>exact gH (x:=dG x) (gH (ml _) (gH x.2.eq_enc qt)) ih
  exact sn<|gH (ml _) (gH (ml _) (gH (x:=.t _) this qt))
 | .cH p=>sn<|gH (ml _) (gH (Pp.eq_enc p) qt)
 | .bG a b=>sn<|gH (ml _) (gH (Pp.eq_enc a) (gH (Pp.eq_enc b) qt))
 | .cD w ps=>sn<|gH (ml _) (gH (ml _) (gH (x:=.t _) (Pp.eq_encs ps) qt))
theorem Pp.eq_encs:∀ps:List Pp,fY (Pp.encs ps) (Pp.encs ps)=some true
 | []=>rfl
 |p::ps=>gH (Pp.eq_enc p) (Pp.eq_encs ps)
end
mutual
theorem Tm.v_dep:∀t:Tm,t.enc.dep<=t.dep
 | .bS op ks=>by have:=Tm.v_deps ks;simp only[uh,qe,qf,qh,rY];lia
theorem Tm.v_deps:∀ts:List Tm,V.deps (Tm.encs ts)<=Tm.deps ts
 | []=>Xp _
 |t::ts=>Nat.max_le.mpr ⟨Xl (Tm.v_dep t) (Nat.le_max_left ..),Xl (Tm.v_deps ts) (Nat.le_max_right ..)⟩
end
mutual
theorem Pp.v_dep:∀p:Pp,p.enc.dep<=2 * p.dep+1
 | .cQ w=>by simp[ML,qe,qf,qg,qh,wj]
 | .cZ t=>by have:=t.v_dep;simp only[DV,qe,qf,qg,qh,pQ];exact Je (by lia)
 | .db w ps=>by
  have:V.deps (ps.map dG)<=(ps.map λx=>x.2.dep).foldr max 0+1:=by
   induction ps with
   |nil=>simp[qg]
   |cons x ps ih=>have:=x.2.v_dep;simp only[Xw,qg,qh,qe,qf,List.foldr_cons]at *;exact qGy this ih
  simp only[DW,qe,qf,NP,qg,qh,pR];exact Jf (by lia)
 | .cH p=>by have:=Pp.v_dep p;simp only[DX,qe,qf,qg,qh,oy];exact Je (by lia)
 | .bG a b=>Yx (Nat.max_le.mpr ⟨Xo _,Nat.max_le.mpr ⟨gB (Pp.v_dep a) (Nat.le_max_left ..),Nat.max_le.mpr ⟨gB (Pp.v_dep b) (Nat.le_max_right ..),Xo _⟩⟩⟩)
 | .cD w ps=>by have:=Pp.v_deps ps;simp only[rI,qe,qf,qg,qh,oA];exact Jf (by lia)
theorem Pp.v_deps:∀ps:List Pp,V.deps (Pp.encs ps)<=2 * Pp.deps ps+1
 | []=>Xo _
 |p::ps=>Nat.max_le.mpr ⟨gA (Pp.v_dep p) (Nat.le_max_left ..),gA (Pp.v_deps ps) (Nat.le_max_right ..)⟩
end
theorem A4(σ:aj)(p s:List Nat):gW σ .o (.s p) (.s s)=some (!gd p s):=rfl
theorem JL(d:Nat)(P:Pp)(hg:P.good)(hd:P.dep<=d)(hd2:d<=300)(hs:2 * P.sz<=aK)(σ:aj):aL (d+2) 50 [P.enc] σ (.b true) σ:=by
 have hlim:aK=1000000:=rfl
 have hlen:=P.D3
 obtain⟨l,hl⟩:=P.MW
 have hraw:=P.D0 hg
 refine cO (TB d l (by rw[hl]at hraw;exact hraw) (by rw[<-hl];lia) σ) λσ₁ v hp rr px=>?_
 rw[<-hl]at hp rr
 have h1:=ye (d+1) P (d5 hd) (vj hs) σ
 have h2:=vt (d+1) P (d5 hd) (vj hs) σ₁ [] v rr
 have h3:=vq (d+1) P (d5 hd) (vj hs) false σ₁
 refine cN (ar.text_ok _ hraw) λoa ob oc=>?_
 have o1:aD P.cP.text:=by unfold aD;exact bT (qT hlen (vj hs))
 have ex:P.cP.text=[40]++cy [32] (ar.texts l)++[41]:=by rw[hl];rfl
 have vr:∃a,v=.r a:=by rw[hl]at rr;simp only[rP]at rr;refine dY rr ?_;clear rr;intro a _ e _;exact fA a e
 refine aT vr ?_;clear vr;intro a q1;subst q1
 have hv:=P.v_dep
 have h4:P.enc.dep<=1000:=by lia
 have hne:gW σ₁ .n P.enc P.enc=some false:=by
  refine(?_:Option.map _ (oU σ₁ P.enc P.enc)=_)
  obtain⟨ys,hy⟩:=P.DY
  have:oU σ₁ P.enc P.enc=gX P.enc P.enc:=by rw[hy];rfl
  rw[this,P.eq_enc];rfl
 have hcnt:gW σ₁ .n (.i (P.cP.text.count 40)) (.i (P.cC false))=some false:=by
  rw[P.MJ hg]
  show some (!decide (_=_))=_
  simp
 have hs1:gd [32,32] P.cP.text=false:=xA (.inl ⟨rfl,rfl⟩) oa
 have hs2:gd [40,32] P.cP.text=false:=xA (.inr (.inl ⟨rfl,rfl⟩)) oa
 have hs3:gd [32,41] P.cP.text=false:=xA (.inr (.inr ⟨rfl,rfl⟩)) oa
 refine fV (f:=Gz) rfl rfl (ao (bh (cw (Xh (af rfl)) h1) ba) (ao (bh (cw (Xh (af rfl)) hp) ba)
  (ao (bC (σ₁:=σ₁) (rm (aY (af rfl) aq rfl (show dI .s _ from trivial)) (rm (aY (cw (Xh (af rfl)) h2) (af rfl) hne h4)
   (tK (aY (dn (af rfl) rfl (Xh aq) rfl (Si o1)) (cw (ac.ah (af rfl) (Xh aq)) h3) hcnt (Xo _))))) aP)
   (be (bM (Ev.rj (aY aq (af rfl) (by rw[A4,hs1];rfl) (show dI .o _ from trivial)) (Ev.rj (aY aq (af rfl) (by rw[A4,hs2];rfl) (show dI .o _ from trivial)) (Ev.rj (aY aq (af rfl) (by rw[A4,hs3];rfl) (show dI .o _ from trivial))
    (Ev.yJ (aY (af rfl) (dn (af rfl) rfl ac.an rfl (SG o1 (eE 40 (cy [32] (ar.texts l)++[41]) (by rw[ex];simp) (by decide+kernel)) (eE 41 ([40]++cy [32] (ar.texts l)) ex (by decide+kernel)))) (by rw[vz];simp) (Xo _))))))))))) px rfl
noncomputable abbrev Hj:List Nat:=[99,101,108,108,115]
noncomputable abbrev Hi:List Nat:=[98,108,101,110,100]
noncomputable def fd(c:Nat)(b:Int)(t:Nat):O:=.s [(Hj,.r c),(eV,.i t),(Hi,.i b)]
structure cq(a c:Nat)(b:Int)(cells:List Int)(t:Nat)(σ:aj):Prop where
 lP:σ[a]? =some (fd c b t)
 Ww:σ[c]? =some (.l (cells.map V.i))
 ne:a≠c
 vX:cells.length<=40
section
variable {d a c t:Nat}{b:Int}
theorem cq.eF(F:cq a c b cells t σ):cq a c b cells t' (σ.set a (fd c b t')):=⟨cR F.lP,by rw[aV F.ne];exact F.Ww,F.ne,F.vX⟩
theorem cq.lO(F:cq a c b cells t σ)(g:aj):cq a c b cells t (σ++g):=⟨bO _ _ F.lP,bO _ _ F.Ww,F.ne,F.vX⟩
theorem cq.lt(F:cq a c b cells t σ):a < σ.length:=(XS F.lP).1
theorem cq.Lm(F:cq a c b cells t σ):c < σ.length:=(XS F.Ww).1
theorem cq.Ln(F:cq a c b cells t σ):σ.set a (fd c b t)=σ:=qU F.lP
theorem AN(s g:aj)(h:a < s.length):(s.set a (fd c b t)++g).set a (fd c b t')=s.set a (fd c b t')++g:=by
 rw[pq (by simpa using h),Yl]
theorem GD(F:cq a c b cells t σ):Pr (nS (.r a) (.s eV) σ) (.i t) σ:=mB F.lP (by intro _ h;cases h) rfl
theorem AM(F:cq a c b cells t σ):Pr (nS (.r a) (.s Hj) σ) (.r c) σ:=mB F.lP (by intro _ h;cases h) rfl
theorem PD(F:cq a c b cells t σ):Pr (nS (.r a) (.s Hi) σ) (.i b) σ:=mB F.lP (by intro _ h;cases h) rfl
theorem mE(F:cq a c b cells t σ)(ht:t<=100000){w:Int}(hw:0 < w):∃r:Int,0<=r/\r < w/\aL (d+1) 43 [.r a,.i w] σ (.i r) (σ.set a (fd c b (t+1))):=by
 have G:cq a c b cells (t+1) (σ.set a (fd c b (t+1))):=F.eF
 have hst:lX (mF (.r a) (.s eV) (.i ((t:Int)+1)) σ) (σ.set a (fd c b (t+1))):=mA F.lP (by intro _ h;cases h) (by refine(?_:3<=aK);unfold aK;decide) rfl
 have s1:ai d 12 (.a (.s (.v 0) (.c (.s eV))) (.i .a (.s (.v 0) (.c (.s eV))) (.c (.i 1)))) (bf [.r a,.i w]) σ .n (bf [.r a,.i w]) (σ.set a (fd c b (t+1))):=
  bh (bX (bi (af rfl) aq (GD F)) aq iy) (kW (af rfl) aq hst)
 have s2:ai d 12 (.a (.v 2) (.s (.v 0) (.c (.s eV)))) (bf [.r a,.i w]) (σ.set a (fd c b (t+1))) .n (au (bf [.r a,.i w]) 2 (.i ((t+1:Nat):Int))) (σ.set a (fd c b (t+1))):=
  bh (bi (af rfl) aq (GD G)) ba
 have o1:aD (cells.map V.i):=by unfold aD;have:=F.vX;have:aK=1000000:=rfl;simp;lia
 have ev2:∀n,Ev d (n+1) (.v 2) (au (bf [.r a,.i w]) 2 (.i ((t+1:Nat):Int))) (σ.set a (fd c b (t+1))) (.i ((t+1:Nat):Int)) (σ.set a (fd c b (t+1))):=λn=>af rfl
 by_cases hc:t+1<=cells.length
 ·have hx:t < cells.length:=hc
  have hg:cells[t]? =some cells[t]:=Yo hx
  refine dK (cells[t] % w) (Int.emod_nonneg _ (Jo hw)) (Int.emod_lt_of_pos _ hw) ?_
  refine cI (f:=AG) rfl rfl (ao s1 (ao s2 (be (cW (aY (ev2 _) (ci rfl (Xh (bi (af rfl) aq (AM G))) (fB G.Ww o1)) ?_ (show dI .a _ from trivial))
   (be (bM (bX (bi (bi (af rfl) aq (AM G)) (bX (ev2 _) aq j1) (dL (v:=.i cells[t]) G.Ww ?_ ?_)) (af rfl) (sU hw))))))))
  ·show some (decide (((t+1:Nat):Int)<=((cells.map V.i).length:Int)))=some true
   simp;exact mD hc
  ·unfold dz bY;lia
  ·unfold dS
   rw[Xr (by lia)]
   have:(((t+1:Nat):Int) - 1).toNat=t:=by lia
   simp only[Option.bind_some,this,Ys,hg];rfl
 ·refine dK ((5 * ((t+1:Nat):Int) * ((t+1:Nat):Int)+11 * ((t+1:Nat):Int)+((t+1:Nat):Int) / 4+b) % 89 % w) (Int.emod_nonneg _ (Jo hw)) (Int.emod_lt_of_pos _ hw) ?_
  refine cI (f:=AG) rfl rfl (ao s1 (ao s2 (ao (bC (aY (ev2 _) (ci rfl (Xh (bi (af rfl) aq (AM G))) (fB G.Ww o1)) ?_ (show dI .a _ from trivial)) aP)
   (be (bM (bX (bX (bX (bX (bX (bX (bX aq (ev2 _) (Cd ?_)) (ev2 _) (Cd ?_)) (bX aq (ev2 _) (Cd ?_)) iy) (bX (ev2 _) aq (Sm (by decide) (by decide))) iy) (bi (af rfl) aq (PD G)) iy) aq (sU (by decide))) (af rfl) (sU hw)))))))
  ·show some (decide (((t+1:Nat):Int)<=((cells.map V.i).length:Int)))=some false
   simp;exact mD (Co hc)
  ·unfold bY;lia
  ·unfold bY;lia
  ·unfold bY;lia
theorem uH(F:cq a c b cells t σ){g:aj}{v:V}(hv:∀m,v.lo m=true):nX σ (σ.set a (fd c b t')++g) (σ.set a (fd c b t')) v:=by
 refine⟨Yd _ _,by simp,hv _,λi o h=>?_⟩
 by_cases hi:a=i
 ·subst hi
  rw[cR F.lP]at h;cases h
  have:=F.Lm
  exact .inr (by simp[MC,fd,jT,iJ,zT,r7,this])
 ·rw[aV hi]at h;exact .inl h
theorem Bn{n:Nat}{elt:Ex}{j:Nat}{ρ:aA}{ys:List V}(J:Nat->List V->aj->Prop)(step:∀k x acc σ,J (k+1) acc σ->∃v σ',Ev d n elt (au ρ j x) σ v σ'/\J k (acc++[v]) σ'/\acc.length<=aK):
  ∀(xs acc:List V) (σ:aj),J xs.length acc σ->∃acc' σ',cV d n elt (.v j) [] [] ρ (.bx ys) xs σ acc acc' σ'/\J 0 acc' σ'
 | [],acc,σ,h=>eE acc σ cV.mQ h
 |x::xs,acc,σ,h=>by
  refine cO (step xs.length x acc σ h) λv σ₁ h1 h2 h3=>?_
  obtain⟨acc',σ',h4,h5⟩:=Bn J step xs (acc++[v]) σ₁ h2
  exact eE acc' σ' (cV.Wr (S:=.bx ys) rfl ej.om (jD.pH h1 h3) trivial h4) h5
theorem JR(n:Int)(h:0<=n):(df 0 n 1).length=n.toNat:=by
 unfold df;simp
noncomputable def Zt:Nat->Nat
 |0=>7
 |h+1=>10+2 * (Zt h+1)
theorem EY:Zt 0=7:=rfl
theorem wQ{h}:Zt (h+1)=10+2 * (Zt h+1):=rfl
noncomputable def Dt:Nat->Nat
 |0=>2
 |h+1=>2+2 * Dt h
theorem pD:Dt 0=2:=rfl
theorem nY{h}:Dt (h+1)=2+2 * Dt h:=rfl
theorem Q7(vs:List V){r:Int}(h0:0<=r)(h1:r < vs.length)(h2:vs.length<=10):dz r/\∃v∈vs,(dS r vs.length).bind (vs[·]?)=some v:=by
 have hx:r.toNat < vs.length:=by lia
 refine⟨by unfold dz bY;lia,vs[r.toNat],List.getElem_mem hx,?_⟩
 unfold dS
 rw[Xr h0]
 simp only[Option.bind_some,Yo hx]
theorem FW(F:cq a c b cells t σ)(ht:t<=100000){n:Nat}(h0:ρ 0=some (.r a)){es:List Ex}(vs:List V)(hes:∀σ,ac (d+1) (n+1) es ρ σ vs σ){w:Int}(hw:0 < w)(hw2:w=vs.length)(h10:vs.length<=10):
  ∃v∈vs,Ev (d+1) (n+3) (.s (.d es) (.l 43 [(.v 0),(.c (.i w))])) ρ σ v (σ.set a (fd c b (t+1))++[.l vs]):=by
 refine c8 (mE (d:=d) (F.lO [.l vs]) ht hw) λr r0 r1 hr=>?_
 obtain⟨hb,v,hv,hg⟩:=Q7 vs r0 (by lia) h10
 rw[pq F.lt]at hr
 exact aC v hv (bi (dp (hes σ)) (cw (ac.ah (af h0) (Xh aq)) hr) (dL (xs:=vs) (by have:=aX (σ:=σ.set a (fd c b (t+1))) (o:=.l vs);rw[XF]at this;exact this) hb hg))
noncomputable def qH(h:Nat)(x:Tm):Prop:=x.good/\x.dep<=h+1/\x.sz<=Zt h
theorem VF{h:Nat}{x:Tm}(k:qH h x):qH (h+1) x:=⟨k.1,by have:=k.2.1;exact d5 this,by have:=k.2.2;simp only[wQ];lia⟩
theorem Ht{v:V}(h:v∈[V.s [97],V.s [98,50],V.s [45,62],V.s [116,111,108,100]]):∃x:Tm,x.enc=.t [v]/\qH 0 x:=by
 simp only[Yn,XX,or_false]at h
 rcases h with rfl |rfl |rfl |rfl
 ·exact eX (.bS [97] []) rfl (⟨dR rfl,trivial⟩) (by decide) (by decide)
 ·exact eX (.bS [98,50] []) rfl (⟨dR rfl,trivial⟩) (by decide) (by decide)
 ·exact eX (.bS [45,62] []) rfl (⟨dR rfl,trivial⟩) (by decide) (by decide)
 ·exact eX (.bS [116,111,108,100] []) rfl (⟨dR rfl,trivial⟩) (by decide) (by decide)
theorem Nz{x y:List Tm}:Tm.goods (x++y)↔Tm.goods x/\Tm.goods y:=by
 induction x with
 |nil=>simp[Ny]
 |cons t ts ih=>simp only[Y4,NA,ih,and_assoc]
theorem Nx(x y:List Tm):Tm.deps (x++y)=max (Tm.deps x) (Tm.deps y):=by induction x<;>simp_all [ED,wK]
theorem NH(x y:List Tm):Tm.szs (x++y)=Tm.szs x+Tm.szs y:=by induction x<;>simp_all [wM,oM];exact vg
theorem yc:∀(h d:Nat) {t:Nat} {σ:aj},cq a c b cells t σ->h<=d->t+Dt h<=100000->∃(x:Tm) (t':Nat),qH h x/\t<=t'/\t'<=t+Dt h/\aL (d+2) 44 [.r a,.i h] σ x.enc (σ.set a (fd c b t'))
 |0,d,t,σ,F,_,ht=>by
  simp only[pD]at ht
  let ρ:=au (bf [.r a,.i ((0:Nat):Int)]) 2 (.i 0)
  refine az (FW (d:=d) (n:=26) F (bT ht) (ρ:=ρ) rfl [V.s [97],V.s [98,50],V.s [45,62],V.s [116,111,108,100]] (λσ=>ac.ah aq (ac.ah aq (ac.ah aq (Xh aq)))) (w:=4) (by decide) rfl (by decide)) λv hv ev=>?_
  refine az (Ht hv) λx hx ok=>?_
  refine dh x (t+1) ok iO (by simp only[pD];exact Cp rfl) ?_
  rw[hx]
  have hl:∀m,V.lo m (.t [v])=true:=λm=>by rw[<-hx];exact x.lo_enc m
  exact aL.li (f:=xl) (fl:=.r (.t [v])) rfl rfl (ao (bh (jh (aY (af rfl) aq rfl (show dI .g _ from trivial)) aq) ba)
   (be (cW (aY (af rfl) aq rfl (show dI .l _ from trivial)) (be (bM (bI (Xh ev))))))) (uH F hl)
 |h+1,d,t,σ,F,hd,ht=>by
  have hlim:aK=1000000:=rfl
  simp only[nY]at ht
  refine c8 (mE (d:=d) F (bT ht) (w:=4) (by decide)) λr r0 r1 hr=>?_
  have F1:cq a c b cells (t+1) (σ.set a (fd c b (t+1))):=F.eF
  let ρ:=au (bf [.r a,.i ((h+1:Nat):Int)]) 2 (.i r)
  have hway:ai (d+1) 12 (.a (.v 2) (.f (.p .g (.v 1) (.c (.i 0))) (.l 43 [(.v 0),(.c (.i 4))]) (.c (.i 0)))) (bf [.r a,.i ((h+1:Nat):Int)]) σ .n ρ (σ.set a (fd c b (t+1))):=
   bh (jC (aY (af rfl) aq (by refine(?_:some (decide ((0:Int) < ((h+1:Nat):Int)))=some true);simp) (show dI .g _ from trivial)) (cw (ac.ah (af rfl) (Xh aq)) hr)) ba
  by_cases h2:r < 2
  ·refine az (FW (d:=d) (n:=26) F1 (jb (bT (vl ht))) (ρ:=ρ) rfl [V.s [97],V.s [98,50],V.s [45,62],V.s [116,111,108,100]] (λσ=>ac.ah aq (ac.ah aq (ac.ah aq (Xh aq)))) (w:=4) (by decide) rfl (by decide)) λv hv ev=>?_
   rw[Yl]at ev
   refine az (Ht hv) λx hx ok=>?_
   have ok':qH (h+1) x:=⟨ok.1,by have:=ok.2.1;lia,by have:=ok.2.2;simp only[EY,wQ]at *;exact d5 (bP this rfl)⟩
   refine dh x (t+1+1) ok' (bT iO) (by simp only[nY];lia) ?_
   rw[hx]
   have hl:∀m,V.lo m (.t [v])=true:=λm=>by rw[<-hx];exact x.lo_enc m
   exact aL.li (f:=xl) (fl:=.r (.t [v])) rfl rfl (ao hway (be (cW (aY (af rfl) aq (by refine(?_:some (decide (r < 2))=some true);simp[h2]) (show dI .l _ from trivial)) (be (bM (bI (Xh ev))))))) (uH F hl)
  ·let s1:aj:=σ.set a (fd c b (t+1))
   let l2:O:=.l [.s [102],.s [117,110,100,101,114]]
   have hop:∃op,im op/\op.length<=5/\dz (r - 2)/\(dS (r - 2) 2).bind (([V.s [102],V.s [117,110,100,101,114]])[·]?)=some (V.s op):=by
    have:r=2∨r=3:=by lia
    rcases this with rfl |rfl
    ·exact eX ([102]) (dR rfl) (by decide) (by unfold dz bY;lia) rfl
    ·exact eX ([117,110,100,101,114]) (dR rfl) (by decide) (by unfold dz bY;lia) rfl
   refine hU hop ?_;clear hop;intro op og ol ob oe
   have ea:Ev (d+1) 28 (.s (.d [(.c (.s [102])),(.c (.s [117,110,100,101,114]))]) (.i .s (.v 2) (.c (.i 2)))) ρ s1 (.s op) (s1++[l2]):=
    bi (dp (ac.ah aq (Xh aq))) (bX (af rfl) aq j1) (dL aX ob oe)
   let J:Nat->List V->aj->Prop:=λk acc s=>∃(ts:List Tm) (t':Nat),acc=ts.map Tm.enc/\Tm.goods ts/\Tm.deps ts<=h+1/\Tm.szs ts<=ts.length * (Zt h+1)/\k+ts.length<=2/\t+1<=t'/\t'<=t+1+ts.length * Dt h/\s=σ.set a (fd c b t')++[l2]
   have mulk:∀k x:Nat,k<=2->k * x<=2 * x:=λk x hk=>Y1 x hk
   obtain⟨acc,s2,hit,ts,t',rfl,g1,g2,g3,g4,g5,g6,rfl⟩:=Bn (d:=d+1) (n:=27) (elt:=.l 44 [(.v 0),(.i .s (.v 1) (.c (.i 1)))]) (j:=3) (ρ:=ρ) (ys:=df 0 (r - 1) 1) J (λk x acc s hJ=>by
    refine Im hJ ?_;clear hJ;intro ts t' q2 g1 g2 g3 g4 g5 g6 q9;subst q2;subst q9
    have k1:=mulk ts.length (Dt h) (cG g4)
    have b1:ts.length * Dt h+Dt h<=2 * Dt h:=by
     have:ts.length=0∨ts.length=1:=Jp g4
     rcases this with e |e<;>rw[e]<;>lia
    refine dj (yc h (d - 1) (t:=t') (σ:=σ.set a (fd c b t')++[l2]) (F.eF.lO _) (by lia) (by lia)) λx' t'' ok t1 t2 ht'=>?_
    rw[AN _ _ F.lt]at ht'
    have ed:d - 1+2=d+1:=by lia
    rw[ed]at ht'
    refine dN x'.enc _ (cw (ac.ah (af rfl) (Xh (bX (af rfl) aq j1))) (by rw[show(((h+1:Nat):Int) - 1)=(h:Int) by exact qS];exact ht')) (BH (ts++[x']) t'' (by simp) (Nz.mpr ⟨g1,ok.1,trivial⟩) ?_ ?_ (by simp;exact sZ (hX g4)) (qT g5 t1) ?_ rfl) (by simp;exact cG (qT g4 (qP hlim)))
    ·have:=ok.2.1;simp only[Nx,ED,wK];exact Jq g2 this
    ·have:=ok.2.2;simp only[NH,wM,oM,Xn,Xq,XR,Nat.add_mul];lia
    ·simp only[Xn,Xq,XR,Nat.add_mul];lia) (df 0 (r - 1) 1) [] (s1++[l2]) (BH ([]) (t+1) rfl trivial (Xo _) (Xo _) (by rw[JR _ (by lia)];simp;lia) (Xp _) (by simp) rfl)
   have k1:=mulk ts.length (Dt h) (cG g4)
   have k2:=mulk ts.length (Zt h+1) (cG g4)
   have ok:qH (h+1) (.bS op ts):=⟨⟨og,g1⟩,by simp only[rY];exact qO g2,by simp only[oL,wQ];lia⟩
   have o1:aD (ts.map Tm.enc):=by unfold aD;simp;exact cG (qT g4 (qP hlim))
   have o2:aD ([V.s op]++ts.map Tm.enc):=by unfold aD;simp;lia
   have he:(Tm.bS op ts).enc=.t ([V.s op]++ts.map Tm.enc):=by simp only[uh,oK];rfl
   refine dh (.bS op ts) t' ok (bT g5) (by simp only[nY];lia) ?_
   have hl:∀m,V.lo m (.t ([V.s op]++ts.map Tm.enc))=true:=λm=>by rw[<-he];exact Tm.lo_enc m _
   rw[he]
   refine aL.li (f:=xl) (fl:=.r (.t ([V.s op]++ts.map Tm.enc))) rfl rfl (ao hway (ao (bC (aY (af rfl) aq (by refine(?_:some (decide (r < 2))=some false);simp;lia) (show dI .l _ from trivial)) aP)
    (be (bM (bX (bI (Xh ea)) (ci rfl (Xh (dU (pP (bX (af rfl) aq j1) (by lia) (by unfold bY;lia)) hit)) (j2 aX o1)) (vf o2)))))) ?_
   rw[XM]
   exact uH F hl
noncomputable def Dd:Nat->Nat
 |0=>17
 |h+1=>5+2 * Dd h+85
theorem vR:Dd 0=17:=rfl
theorem yF{h}:Dd (h+1)=5+2 * Dd h+85:=rfl
noncomputable def Zp:Nat->Nat
 |0=>110
 |h+1=>2 * Zp h+650
theorem uq:Zp 0=110:=rfl
theorem ur{h}:Zp (h+1)=2 * Zp h+650:=rfl
noncomputable def Ep:Nat->Nat
 |0=>4
 |h+1=>Ep h+7
theorem vT:Ep 0=4:=rfl
theorem tH{h}:Ep (h+1)=Ep h+7:=rfl
structure nC(h:Nat)(p:Pp):Prop where
 Wl:p.good
 Wk:p.dep<=Ep h
 Wm:p.sz<=Zp h
theorem K4:∀h,17<=Dd h
 |0=>Xp _
 |h+1=>by simp only[yF];exact gh
theorem r9:∀h,110<=Zp h/\4<=Ep h
 |0=>⟨Xp _,Xp _⟩
 |h+1=>by have:=r9 h;simp only[ur,tH];exact qI gh gh
theorem nC.RI{p:Pp}(k:nC 0 p)(h:Nat):nC h p:=⟨k.Wl,Xl k.Wk (r9 h).2,Xl k.Wm (r9 h).1⟩
theorem Au(F:cq a c b cells t σ)(ht:t<=100000){n:Nat}(h0:ρ 0=some (.r a)):
  ∃w:List Nat,im w/\w.length<=4/\Ev (d+1) (n+3) (.s (.h 0) (.l 43 [(.v 0),(.c (.i 5))])) ρ σ (.s w) (σ.set a (fd c b (t+1))):=by
 refine c8 (mE (d:=d) F ht (w:=5) (by decide)) λr r0 r1 hr=>?_
 have hw:∃w:List Nat,im w/\w.length<=4/\dz r/\(dS r 5).bind (([V.s [108,48],V.s [115,97,109,101],V.s [106,111,105,110],V.s [116,117,114,110],V.s [114,39]])[·]?)=some (V.s w):=by
  have:r=0∨r=1∨r=2∨r=3∨r=4:=by lia
  rcases this with rfl |rfl |rfl |rfl |rfl
  ·exact eX _ (dR (w:=[108,48]) rfl) (by decide) (by unfold dz bY;lia) rfl
  ·exact eX _ (dR (w:=i6) rfl) (by decide) (by unfold dz bY;lia) rfl
  ·exact eX _ (dR (w:=dA) rfl) (by decide) (by unfold dz bY;lia) rfl
  ·exact eX _ (dR (w:=eV) rfl) (by decide) (by unfold dz bY;lia) rfl
  ·exact eX _ (dR (w:=[114,39]) rfl) (by decide) (by unfold dz bY;lia) rfl
 refine hU hw ?_;clear hw;intro w wg wl wb we
 exact dK w wg wl (bi (vU rfl) (cw (ac.ah (af h0) (Xh aq)) hr) (c9 wb we))
theorem py{n:Nat}{r k:Int}(h:ρ 2=some (.i r))(v:Bool)(hv:decide (r=k)=v):Ev d 30 (.p .e (.v 2) (.c (.i k))) ρ σ (.b v) σ:=aY (af h) aq (by refine(?_:some _=_);rw[hv]) (Xo _)
theorem FH(F:cq a c b cells t σ)(ht:t+16<=100000)(h0:ρ 0=some (.r a)){r:Int}(h2:ρ 2=some (.i r))(hr0:0<=r)(hr3:r < 3):
  ∃(p:Pp) (t':Nat) (g:aj) (ρ':aA),nC 0 p/\t<=t'/\t'<=t+16/\ae (d+4) 12 (su.dZ.drop 1) ρ σ (.r p.enc) ρ' (σ.set a (fd c b t')++g):=by
 have hlim:aK=1000000:=rfl
 have cases3:r=0∨r=1∨r=2:=by lia
 rcases cases3 with rfl |rfl |rfl
 ·refine c8 (Au (d:=d+3) (n:=26) F (bT ht) h0) λw wg wl ew=>?_
  refine kK (.cQ w) (t+1) ([]) ρ (⟨wg,by refine(?_:1<=4);exact gh,by simp only[zv,uq];exact ja wl rfl⟩) iO (Cp rfl) ?_
  rw[Yb]
  exact be (cW (py (n:=0) h2 true rfl) (be (bM (bI (ac.ah aq (Xh ew))))))
 ·refine dj (yc 2 (d+2) F gh (by simp only[pD,nY];exact vk ht rfl)) λx t' ok t1 t2 hx=>?_
  simp only[pD,nY]at t2
  refine kK (.cZ x) t' ([]) ρ (⟨ok.1,by have:=ok.2.1;simp only[pQ,vT];exact vh this,by have:=ok.2.2;simp only[rK,uq,EY,wQ]at *;exact ja this rfl⟩) t1 (Jg t2 rfl) ?_
  rw[Yb]
  exact ao (bC (py (n:=0) h2 false rfl) aP) (be (cW (py (n:=0) h2 true rfl) (be (bM (bI (ac.ah aq (Xh (cw (ac.ah (af h0) (Xh aq)) hx))))))))
 ·refine dj (yc 1 (d+2) F gh (by simp only[pD,nY];exact vk ht rfl)) λx1 t1 ok1 a1 b1 hx1=>?_
  refine dj (yc 1 (d+2) (t:=t1) (σ:=σ.set a (fd c b t1)) F.eF gh (by simp only[pD,nY]at *;exact qGq b1 ht rfl)) λx2 t2 ok2 a2 b2 hx2=>?_
  rw[Yl]at hx2
  simp only[pD,nY]at b1 b2
  let L:O:=.l [dG ([63,120],x1),dG ([63,121],x2)]
  have F2:cq a c b cells t2 (σ.set a (fd c b t2)++[L]):=F.eF.lO _
  refine c8 (mE (d:=d+3) F2 (by lia) (w:=3) (by decide)) λr r0 r1 hr=>?_
  rw[AN _ _ F.lt]at hr
  let some_:=[(([63,120]:List Nat),x1),([63,121],x2)].take r.toNat
  have etake:([dG ([63,120],x1),dG ([63,121],x2)]).take r.toNat=some_.map dG:=by rw[List.map_take];rfl
  let g2:aj:=[L]++[O.l (some_.map dG)]
  have es:Ev (d+4) 30 (.e (.d [(.t [(.c (.s [63,120])),(.l 44 [(.v 0),(.c (.i 1))])]),(.t [(.c (.s [63,121])),(.l 44 [(.v 0),(.c (.i 1))])])]) none (some (.l 43 [(.v 0),(.c (.i 3))]))) ρ σ
    (.r (σ.set a (fd c b (t2+1))++[L]).length) (σ.set a (fd c b (t2+1))++[L]++[O.l (some_.map dG)]):=by
   rw[<-etake]
   refine yM (dp (ac.ah (bI (ac.ah aq (Xh (cw (ac.ah (af h0) (Xh aq)) hx1)))) (Xh (bI (ac.ah aq (Xh (cw (ac.ah (af h0) (Xh aq)) hx2)))))))
    (cw (ac.ah (af h0) (Xh aq)) hr) (IX ?_ ⟨r0,by unfold bY;lia⟩ (by refine(?_:2<=aK);exact qP hlim))
   have:=aX (σ:=σ.set a (fd c b (t2+1))) (o:=L)
   rw[XF]at this ⊢;exact this
  let s3:aj:=σ.set a (fd c b (t2+1))++[L]++[O.l (some_.map dG)]
  have F3:cq a c b cells (t2+1) s3:=(F.eF.lO _).lO _
  let ρ3:=au ρ 3 (.r (σ.set a (fd c b (t2+1))++[L]).length)
  have h03:ρ3 0=some (.r a):=by refine(?_:au ρ 3 _ 0=_);rw[bR _ _ (by decide)];exact h0
  have h33:ρ3 3=some (.r (σ.set a (fd c b (t2+1))++[L]).length):=bw _ _ _
  refine c8 (Au (d:=d+3) (n:=26) F3 (by lia) h03) λw wg wl ew=>?_
  refine c8 (mE (d:=d+3) (F3.eF (t':=t2+1+1)) (by lia) (w:=2) (by decide)) λq q0 q1 hq=>?_
  rw[Yl]at hq
  have s5:s3.set a (fd c b (t2+1+1+1))=σ.set a (fd c b (t2+1+1+1))++[L]++[O.l (some_.map dG)]:=by
   refine(?_:(σ.set a (fd c b (t2+1))++[L]++[O.l (some_.map dG)]).set a _=_)
   rw[pq (by simp;have:=F.lt;exact d5 this),AN _ _ F.lt]
  have al:(σ.set a (fd c b (t2+1))++[L]).length=(σ.set a (fd c b (t2+1+1+1))++[L]).length:=by simp
  have sl:some_.length<=2:=by simp[some_];lia
  have o1:aD (some_.map dG):=by unfold aD;simp only[Xk];exact qT sl (qP hlim)
  have mem:∀x∈some_,im x.1/\x.2.good/\x.2.dep<=2/\x.1.length=2/\x.2.sz<=26:=λx hx=>by
   have:=Y' hx
   simp only[Yn,XX,or_false]at this
   rcases this with rfl |rfl
   ·exact BG (dR rfl) ok1.1 ok1.2.1 rfl ok1.2.2
   ·exact BG (dR rfl) ok2.1 ok2.2.1 rfl ok2.2.2
  have okr:∀ps:List (List Nat×Tm),ps.length<=2->(∀x∈ps,x∈some_)->nC 0 (.db w ps):=λps hl hm=>by
   refine⟨⟨wg,λx hx=>⟨(mem x (hm x hx)).1,(mem x (hm x hx)).2.1⟩⟩,?_,?_⟩
   ·have:∀l:List (List Nat×Tm),(∀x∈l,x.2.dep<=2)->(l.map λx=>x.2.dep).foldr max 0<=2:=λl=>by
     induction l with
     |nil=>intro _;simp
     |cons x l ih=>intro h;have:=ih (λy hy=>h y (XA _ hy));have:=h x (Xz ..);simp only[Xw,List.foldr_cons];lia
    have:=this ps λx hx=>(mem x (hm x hx)).2.2.1
    simp only[pR,vT];exact ja this rfl
   ·have:=ym (f:=λx:List Nat×Tm=>x.1.length+x.2.sz+5) (g:=λ_=>33) ps λx hx=>by have:=mem x (hm x hx);lia
    have e:(ps.map λ_=>33).sum=33 * ps.length:=by clear this hl hm;induction ps<;>simp_all;exact qGv
    simp only[pT,uq];lia
  have fin:∀ps:List (List Nat×Tm),(∃g:Nat×aj,Ev (d+4) 28 (.f (.p .e (.l 43 [(.v 0),(.c (.i 2))]) (.c (.i 1))) (.k (.v 3)) (.v 3)) ρ3 (s3.set a (fd c b (t2+1+1))) (.r g.1) (σ.set a (fd c b (t2+1+1+1))++g.2)/\(σ.set a (fd c b (t2+1+1+1))++g.2)[g.1]? =some (.l (ps.map dG)))->ps.length<=2->(∀x∈ps,x∈some_)->
    ∃(p:Pp) (t':Nat) (g:aj) (ρ':aA),nC 0 p/\t<=t'/\t'<=t+16/\ae (d+4) 12 (su.dZ.drop 1) ρ σ (.r p.enc) ρ' (σ.set a (fd c b t')++g):=λps ⟨⟨ga,g⟩,hg,hgl⟩ hl hm=>by
   refine kK (.db w ps) (t2+1+1+1) g ρ3 (okr ps hl hm) (by lia) (by lia) ?_
   exact ao (bC (py (n:=0) h2 false rfl) aP) (ao (bC (py (n:=0) h2 false rfl) aP) (be (cW (py (n:=0) h2 true rfl) (ao (bh es ba) (be (bM (bI (ac.ah aq (ac.ah ew (Xh (ci rfl (Xh hg) (j2 hgl (by unfold aD;simp;exact qT hl (qP hlim))))))))))))))
  have hcq:∀v,decide (q=1)=v->Ev (d+4) 27 (.p .e (.l 43 [(.v 0),(.c (.i 2))]) (.c (.i 1))) ρ3 (s3.set a (fd c b (t2+1+1))) (.b v) (s3.set a (fd c b (t2+1+1+1))):=λv hv=>aY (cw (ac.ah (af h03) (Xh aq)) hq) aq (by refine(?_:some _=_);rw[hv]) (Xo _)
  rw[s5]at hcq
  by_cases hq1:q=1
  ·refine fin some_.reverse (aC ⟨(σ.set a (fd c b (t2+1+1+1))++[L]++[O.l (some_.map dG)]).length,[L]++[O.l (some_.map dG)]++[O.l (some_.map dG).reverse]⟩ ?_ ?_) (by simpa using sl) (λx hx=>List.mem_reverse.mp hx)
   ·rw[<-XM,<-XM]
    refine jC (hcq true (by simp[hq1])) (yL (af h33) (Cf ?_ o1))
    rw[al];exact aX
   ·rw[<-XM,<-XM,aX,Ze]
  ·refine fin some_ (aC ⟨(σ.set a (fd c b (t2+1))++[L]).length,[L]++[O.l (some_.map dG)]⟩ ?_ ?_) sl (λx hx=>hx)
   ·rw[<-XM]
    exact jh (hcq false (by simp[hq1])) (af h33)
   ·rw[<-XM,al];exact aX
noncomputable abbrev Ac:List St:=[.a (.v 4) (.t [(.c (.s [106,111,105,110])),(.v 4),(.l 45 [(.v 0),(.f (.p .g (.v 5) (.c (.i 0))) (.c (.i 0)) (.i .s (.v 1) (.c (.i 1))))])])]
theorem JX{D:Nat}{ys:List V}(ih:∀{t:Nat} {σ:aj},cq a c b cells t σ->t+17<=100000->∃(p:Pp) (t':Nat),nC 0 p/\t<=t'/\t'<=t+17/\aL D 45 [.r a,.i 0] σ p.enc (σ.set a (fd c b t'))):
  ∀(l:List Nat) (e z t:Nat) (P:Pp) (ρ:aA) (σ:aj),(∀k∈l,0 < k)->cq a c b cells t σ->t+17 * l.length<=100000->P.good->P.dep<=e->4<=e->P.sz<=z->ρ 0=some (.r a)->ρ 4=some P.enc->
   ∃(P':Pp) (t':Nat) (ρ':aA),bF D 10 (.v 5) Ac (.bx ys) (l.map λk:Nat=>V.i k) ρ σ .n ρ' (σ.set a (fd c b t'))/\P'.good/\P'.dep<=e+l.length/\P'.sz<=z+120 * l.length/\t<=t'/\t'<=t+17 * l.length/\ρ' 4=some P'.enc
 | [],e,z,t,P,ρ,σ,_,F,_,g,h1,_,h2,_,h4=>qD P t ρ (by rw[F.Ln];exact fF (S:=.bx ys)) g h1 h2 (Xp _) (Xp _) h4
 |k::l,e,z,t,P,ρ,σ,hk,F,ht,g,h1,he,h2,h0,h4=>by
  simp only[Xq]at ht
  refine dj (ih F (by lia)) λq t₁ ok a1 b1 hq=>?_
  have k0:=hk k (Xz ..)
  have oe:=ok.Wk
  have oz:=ok.Wm
  simp only[vT,uq]at oe oz
  refine u6 (JX (ys:=ys) ih l (e+1) (z+120) t₁ (.bG P q) (au (au ρ 5 (.i k)) 4 (Pp.bG P q).enc) (σ.set a (fd c b t₁)) (λx hx=>hk x (XA _ hx)) F.eF (by lia) ⟨g,ok.Wl⟩ (by simp only[ko];lia) (d5 he) (by simp only[jK];exact qO (qF h2 oz))
   (by rw[bR _ _ (by decide),bR _ _ (by decide)];exact h0) (bw _ _ _)) λP' t' ρ' h5 g' e' z' a2 b2 h4'=>?_
  rw[Yl]at h5
  refine qD P' t' ρ' (fc (S:=.bx ys) rfl (Xi (bh (v:=(Pp.bG P q).enc) (bI (ac.ah aq (ac.ah (af ?_) (Xh (cw (ac.ah (af ?_) (Xh (jC (aY (af (bw _ _ _)) aq ?_ (show dI .g _ from trivial)) aq))) hq))))) ba)) trivial h5) g' (by simp only[Xq];exact Jr e') (by simp only[Xq];lia) (qT a1 a2) (by simp only[Xq];lia) h4'
  ·rw[bR _ _ (by decide)];exact h4
  ·rw[bR _ _ (by decide)];exact h0
  ·show some (decide ((0:Int) < (k:Int)))=some true
   simp;exact k0
theorem TU(q:Int)(h:0<=q):∃l:List Nat,df 0 (1+q) 1=.i 0::l.map (λk:Nat=>V.i k)/\(∀k∈l,0 < k)/\l.length=q.toNat:=by
 refine dK ((List.range q.toNat).map (· +1)) ?_ (λk hk=>?_) (by simp)
 ·unfold df
  have:((1+q - 0+1 - 1:Int) / 1).toNat=q.toNat+1:=by lia
  rw[this,List.range_succ_eq_map]
  simp only[Xw,XN]
  congr 1
  apply YU
  intro x _
  simp
 ·refine az (XY hk) λx _ q2=>?_;subst q2;exact gh
theorem MP{x y:List Pp}:Pp.goods (x++y)↔Pp.goods x/\Pp.goods y:=by
 induction x with
 |nil=>simp[MO]
 |cons t ts ih=>simp only[Y4,MQ,ih,and_assoc]
theorem MK(x y:List Pp):Pp.deps (x++y)=max (Pp.deps x) (Pp.deps y):=by induction x<;>simp_all [DU,wm]
theorem M0(x y:List Pp):Pp.szs (x++y)=Pp.szs x+Pp.szs y:=by induction x<;>simp_all [wx,pV];exact vg
noncomputable abbrev C9(a c:Nat)(b:Int)(h d t:Nat)(σ:aj):Prop:=∃(p:Pp) (t':Nat),nC h p/\t<=t'/\t'<=t+Dd h/\aL (d+h+5) 45 [.r a,.i h] σ p.enc (σ.set a (fd c b t'))
noncomputable abbrev DR(a c:Nat)(b:Int)(cells:List Int)(h:Nat):Prop:=∀(d t:Nat) (σ:aj),cq a c b cells t σ->t+Dd h<=100000->C9 a c b h d t σ
noncomputable abbrev il(a h:Nat)(r:Int):aA:=au (bf [.r a,.i ((h+1:Nat):Int)]) 2 (.i r)
noncomputable abbrev tG(a c:Nat)(b:Int)(h d t:Nat)(σ:aj)(r:Int):Prop:=∃(p:Pp) (t':Nat) (g:aj) (ρ':aA),nC (h+1) p/\t<=t'/\t'<=t+(4+2 * Dd h+85)/\ae (d+h+5) 12 (su.dZ.drop 1) (il a h r) (σ.set a (fd c b t)) (.r p.enc) ρ' (σ.set a (fd c b t')++g)
variable {h:Nat}{r:Int}{n:Nat}
theorem hY(k:Int)(hk:r≠k)(s:List St):ai d 12 (.i (.p .e (.v 2) (.c (.i k))) s []) (il a h r) σ .n (il a h r) σ:=bC (py (n:=0) (bw _ _ _) false (XU hk)) aP
theorem CS:Ev d 30 (.p .e (.v 2) (.c (.i r))) (il a h r) σ (.b true) σ:=py (n:=0) (bw _ _ _) true (XL rfl)
theorem CR:ac d (n+2) [(.v 0),(.i .s (.v 1) (.c (.i 1)))] (il a h r) σ [.r a,.i (h:Int)] σ:=ac.ah (af rfl) (Xh (by have:=bX (d:=d) (n:=n+1) (a:=.v 1) (b:=.c (.i 1)) (ρ:=il a h r) (σ:=σ) (af rfl) aq (j1 (m:=((h+1:Nat):Int)) (n:=1));rw[show(((h+1:Nat):Int) - 1)=(h:Int) by exact qS]at this;exact this))
theorem z9:DR a c b cells 0:=λd t σ F ht=>by
 simp only[vR]at ht
 refine c8 (mE (d:=d+3) F (bT ht) (w:=3) (by decide)) λr r0 r1 hr=>?_
 refine o8 (FH (d:=d) (t:=t+1) (σ:=σ.set a (fd c b (t+1))) F.eF ht (ρ:=au (bf [.r a,.i ((0:Nat):Int)]) 2 (.i r)) rfl (bw _ _ _) r0 r1) λp t' g ρ' ok a1 b1 hb=>?_
 rw[Yl]at hb
 exact dh p t' ok (bT a1) (by simp only[vR];exact b1) (aL.li (f:=su) (fl:=.r p.enc) rfl rfl (ao (bh (jh (aY (af rfl) aq rfl (show dI .g _ from trivial)) (cw (ac.ah (af rfl) (Xh aq)) hr)) ba) hb) (uH F (Pp.lo_enc · p)))
theorem O3(ih:DR a c b cells h)(F:cq a c b cells t0 σ)(ht:t+(4+2 * Dd h+85)<=100000):tG a c b h d t σ 3:=by
 refine dj (ih d t _ (F.eF (t':=t)) (Js ht)) λq t' ok a1 b1 hq=>?_
 rw[Yl]at hq
 have oe:=ok.Wk
 have oz:=ok.Wm
 refine kK (.cH q) t' ([]) (il a h 3) (⟨ok.Wl,by simp only[oy,tH];exact x4 oe rfl,by simp only[rL,ur];lia⟩) a1 (by lia) ?_
 rw[Yb]
 exact ao (hY 0 (by decide) _) (ao (hY 1 (by decide) _) (ao (hY 2 (by decide) _) (be (cW CS (be (bM (bI (ac.ah aq (Xh (cw CR hq))))))))))
theorem OZ(ih:DR a c b cells h)(F:cq a c b cells t0 σ)(ht:t+(4+2 * Dd h+85)<=100000):tG a c b h d t σ 5:=by
 have dg:=K4 h
 have zg:=r9 h
 refine dj (z9 (d+h) t _ (F.eF (t':=t)) (by simp only[vR];exact jb (gj ht))) λp0 t1 ok0 a1 b1 hp0=>?_
 rw[Yl]at hp0
 simp only[vR]at b1
 refine dj (ih d t1 (σ.set a (fd c b t1)) F.eF (by lia)) λp1 t2 ok1 a2 b2 hp1=>?_
 rw[Yl]at hp1
 have oe0:=ok0.Wk
 have oz0:=ok0.Wm
 have oe1:=ok1.Wk
 have oz1:=ok1.Wm
 simp only[vT,uq]at oe0 oz0
 refine kK (.bG p0 p1) t2 ([]) (il a h 5) (⟨⟨ok0.Wl,ok1.Wl⟩,by simp only[ko,tH];lia,by simp only[jK,ur];lia⟩) (qT a1 a2) (by lia) ?_
 rw[Yb]
 exact ao (hY 0 (by decide) _) (ao (hY 1 (by decide) _) (ao (hY 2 (by decide) _) (ao (hY 3 (by decide) _) (ao (hY 4 (by decide) _) (be (cW CS (be (bM (bI (ac.ah aq (ac.ah (cw (ac.ah (af rfl) (Xh aq)) hp0) (Xh (cw CR hp1)))))))))))))
theorem O2(ih:DR a c b cells h)(F:cq a c b cells t0 σ)(ht:t+(4+2 * Dd h+85)<=100000):tG a c b h d t σ 4:=by
 have zg:=r9 h
 have hlim:aK=1000000:=rfl
 refine dj (ih d t _ (F.eF (t':=t)) (Js ht)) λp0 t1 ok0 a1 b1 hp0=>?_
 rw[Yl]at hp0
 refine c8 (mE (d:=d+h+4) (F.eF (t':=t1)) (by lia) (w:=6) (by decide)) λq q0 q1 hq=>?_
 rw[Yl]at hq
 refine dj (ih d (t1+1) _ F.eF (by lia)) λp1 t2 ok1 a2 b2 hp1=>?_
 rw[Yl]at hp1
 refine c8 (TU q q0) λl el lp ll=>?_
 have lq:l.length<=5:=by lia
 have oe0:=ok0.Wk
 have oz0:=ok0.Wm
 have oe1:=ok1.Wk
 have oz1:=ok1.Wm
 refine u6 (JX (D:=d+h+5) (ys:=df 0 (1+q) 1) (λ{t σ} F ht=>z9 (d+h) t σ F ht) l (Ep h+1) (2 * Zp h+10) t2 (.bG p0 p1) (au (au (au (il a h 4) 4 p0.enc) 5 (.i 0)) 4 (Pp.bG p0 p1).enc) (σ.set a (fd c b t2)) lp F.eF (by lia) ⟨ok0.Wl,ok1.Wl⟩ (by simp only[ko];lia) (d5 zg.2) (by simp only[jK];exact qO (x7 oz0 oz1)) rfl (bw _ _ _)) λP' t' ρ' hl g' e' z' a3 b3 h4'=>?_
 rw[Yl]at hl
 refine kK P' t' ([]) ρ' (⟨g',by simp only[tH];lia,by simp only[ur];lia⟩) (by lia) (by lia) ?_
 rw[Yb]
 have cl:bF (d+h+5) 10 (.v 5) Ac (.bx (df 0 (1+q) 1)) (df 0 (1+q) 1) (au (il a h 4) 4 p0.enc) (σ.set a (fd c b (t1+1))) .n ρ' (σ.set a (fd c b t')):=by
  have cong:=fc (d:=d+h+5) (n:=10) (tg:=.v 5) (bd:=Ac) (ρ:=au (il a h 4) 4 p0.enc) (σ:=σ.set a (fd c b (t1+1))) (S:=.bx (df 0 (1+q) 1)) rfl (Xi (bh (v:=(Pp.bG p0 p1).enc) (bI (ac.ah aq (ac.ah (af rfl) (Xh (cw (ac.ah (af rfl) (Xh (jh (aY (af rfl) aq rfl (show dI .g _ from trivial)) (by
   have:=bX (d:=d+h+5) (n:=26) (a:=.v 1) (b:=.c (.i 1)) (ρ:=au (au (il a h 4) 4 p0.enc) 5 (.i 0)) (σ:=σ.set a (fd c b (t1+1))) (af rfl) aq (j1 (m:=((h+1:Nat):Int)) (n:=1));rw[show(((h+1:Nat):Int) - 1)=(h:Int) by exact qS]at this;exact this)))) hp1))))) ba)) trivial hl
  rw[<-el]at cong;exact cong
 exact ao (hY 0 (by decide) _) (ao (hY 1 (by decide) _) (ao (hY 2 (by decide) _) (ao (hY 3 (by decide) _) (be (cW CS (ao (bh (cw CR hp0) ba) (ao (fg (S:=.bx (df 0 (1+q) 1)) (pP (j:=1+q) (bX aq (cw (ac.ah (af rfl) (Xh aq)) hq) iy) (by lia) (by unfold bY;lia)) cl) (be (bM (af h4'))))))))))
structure DJ(a c:Nat)(b:Int)(σ:aj)(h t W8:Nat)(Vo:List V)(W9:aj)(ps:List Pp)(t':Nat):Prop where
 Vo:Vo=ps.map Pp.enc
 W7:Pp.goods ps
 W6:Pp.deps ps<=Ep h
 Xe:Pp.szs ps<=ps.length * (Zp h+2)
 W8:W8+ps.length<=2
 W':t<=t'
 Xc:t'<=t+ps.length * Dd h
 W9:W9=σ.set a (fd c b t')
theorem O0(ih:DR a c b cells h)(F:cq a c b cells t σ)(ht:t0+2 * Dd h<=100000){k:Nat}{x:V}{acc:List V}{s:aj}(J:DJ a c b σ h t0 (k+1) acc s ps t'):
  ∃v s',Ev (d+h+5) 27 (.l 45 [(.v 0),(.i .s (.v 1) (.c (.i 1)))]) (au (il a h 6) 6 x) s v s'/\(∃ps t',DJ a c b σ h t0 k (acc++[v]) s' ps t')/\acc.length<=aK:=by
 obtain⟨rfl,g1,g2,g3,g4,g5,g6,rfl⟩:=J
 have b1:ps.length * Dd h+Dd h<=2 * Dd h:=by
  have:ps.length=0∨ps.length=1:=Jp g4
  rcases this with e |e<;>rw[e]<;>lia
 refine dj (ih d t' (σ.set a (fd c b t')) F.eF (by lia)) λp t'' ok a1 b1 hp=>?_
 rw[Yl]at hp
 refine dN p.enc _ (cw (ac.ah (af rfl) (Xh (bX (af rfl) aq j1))) (by rw[show(((h+1:Nat):Int) - 1)=(h:Int) by exact qS];exact hp)) (⟨ps++[p],t'',by simp,MP.mpr ⟨g1,ok.Wl,trivial⟩,?_,?_,by simp;exact sZ (hX g4),qT g5 a1,?_,rfl⟩) (by have hlim:aK=1000000:=rfl;simp;exact cG (qT g4 (qP hlim)))
 ·have:=ok.Wk;simp only[MK,DU,wm];exact Jq g2 this
 ·have:=ok.Wm;simp only[M0,wx,pV,Xn,Xq,XR,Nat.add_mul];lia
 ·simp only[Xn,Xq,XR,Nat.add_mul];lia
theorem O4(ih:DR a c b cells h)(F:cq a c b cells t0 σ)(ht:t+(4+2 * Dd h+85)<=100000):tG a c b h d t σ 6:=by
 have zg:=r9 h
 have hlim:aK=1000000:=rfl
 refine c8 (Au (d:=d+h+4) (n:=26) (F.eF (t':=t)) (bT ht) (ρ:=il a h 6) rfl) λw wg wl ew=>?_
 rw[Yl]at ew
 refine c8 (mE (d:=d+h+4) (t:=t+1) (σ:=σ.set a (fd c b (t+1))) F.eF (jb ht) (w:=3) (by decide)) λq q0 q1 hq=>?_
 rw[Yl]at hq
 obtain⟨acc,s2,hit,ps,t',rfl,g1,g2,g3,g4,g5,g6,rfl⟩:=Bn (d:=d+h+5) (n:=27) (elt:=.l 45 [(.v 0),(.i .s (.v 1) (.c (.i 1)))]) (j:=6) (ρ:=il a h 6) (ys:=df 0 q 1) (λk acc s=>∃ps t',DJ a c b σ h (t+2) k acc s ps t') (λk x acc s ⟨ps,t',hJ⟩=>O0 (t0:=t+2) ih F (by lia) hJ)
  (df 0 q 1) [] (σ.set a (fd c b (t+2))) ⟨[],t+2,rfl,trivial,Xo _,Xo _,by rw[JR _ q0];simp;lia,Xp _,by simp,rfl⟩
 have k1:ps.length * Dd h<=2 * Dd h:=Y1 _ (cG g4)
 have k2:ps.length * (Zp h+2)<=2 * (Zp h+2):=Y1 _ (cG g4)
 have o1:aD (ps.map Pp.enc):=by unfold aD;simp;exact cG (qT g4 (qP hlim))
 refine kK (.cD w ps) t' ([.l (ps.map Pp.enc)]) (il a h 6) (⟨⟨wg,g1⟩,by simp only[oA,tH];exact x4 g2 rfl,by simp only[pU,ur];lia⟩) (bT g5) (by lia) ?_
 rw[show(Pp.cD w ps).enc=.t [.s gf,.s w,.t (ps.map Pp.enc)] by simp only[rI,rJ]]
 exact ao (hY 0 (by decide) _) (ao (hY 1 (by decide) _) (ao (hY 2 (by decide) _) (ao (hY 3 (by decide) _) (ao (hY 4 (by decide) _) (ao (hY 5 (by decide) _) (be (bM (bI (ac.ah aq (ac.ah ew
  (Xh (ci rfl (Xh (dU (S:=.bx (df 0 q 1)) (pP (j:=q) (cw (ac.ah (af rfl) (Xh aq)) hq) (by lia) (by unfold bY;lia)) hit)) (j2 aX o1)))))))))))))
theorem Te:∀h:Nat,DR a c b cells h:=λh=>by
 induction h with
 |zero=>exact z9
 |succ h ih=>
  intro d t σ F ht
  simp only[yF]at ht
  refine c8 (mE (d:=d+h+4) F (bT ht) (w:=7) (by decide)) λr r0 r1 hr=>?_
  have B:tG a c b h d (t+1) σ r:=by
   by_cases c3:r < 3
   ·refine o8 (FH (d:=d+h+1) (t:=t+1) (σ:=σ.set a (fd c b (t+1))) F.eF (jb (gj ht)) (ρ:=il a h r) rfl (bw _ _ _) r0 c3) λp t' g ρ' ok a1 b1 hb=>?_
    rw[Yl]at hb
    exact kK p t' g ρ' (ok.RI _) a1 (by lia) hb
   ·have c4:r=3∨r=4∨r=5∨r=6:=by lia
    rcases c4 with rfl |rfl |rfl |rfl
    ·exact O3 ih F (ya ht)
    ·exact O2 ih F (ya ht)
    ·exact OZ ih F (ya ht)
    ·exact O4 ih F (ya ht)
  refine o8 B ?_;clear B;intro p t' g ρ' ok a1 b1 hb
  refine dh p t' ok (bT a1) (by simp only[yF];lia) ?_
  rw[show d+(h+1)+5=(d+h+5)+1 by lia]
  exact aL.li (f:=su) (fl:=.r p.enc) rfl rfl (ao (bh (jC (aY (af rfl) aq (Xu some (XL (Int.ofNat_succ_pos h))) (show dI .g _ from trivial)) (cw (ac.ah (af rfl) (Xh aq)) hr)) ba) hb) (uH F (Pp.lo_enc · p))
theorem Tq(h d:Nat)(F:cq a c b cells t σ)(ht:t+Dd h<=100000):C9 a c b h d t σ:=Te h d t σ F ht
end
set_option genCtorIdx false in
inductive Rs where
 |mT (w:List Nat)
 |lj (x y:Nat)
 |iX
noncomputable def Rs.gC:Rs->V
 | .mT w=>.t [.s mu,.s w]
 | .lj x y=>.t [.s fP,.s [114],.t [.t [.s [63,120],.i x],.t [.s [63,121],.i y]]]
 | .iX=>.t [.s [108,105,107,101]]
structure HS where
 KE:Nat
 cb:Nat
 tP:List (List KV×V)
 v8:List Nat
 v5:List Nat
 ua:Nat->Nat
 rt:Nat->Nat
 cU:Nat->List Nat
 jq:List (Nat×Nat)
 aM:List (Nat×Nat×Rs)
 bL:List Nat
 dH:List (List KV×V)
 bW:List Nat
 bz:Nat->List Nat
 dQ:List Nat
variable {H H':HS}
inductive Sl where
 |aJ |dW |eL |eU |gF |gE |un |c7 |fj |fK |fH |fJ |fh |cF |eZ
 |cX (i:Nat)
 |cj (r:Nat)
theorem cJ{s t:Sl}(h:Nat.beq s.ctorIdx t.ctorIdx=false):s≠t:=λe=>by rw[e,Nat.beq_refl]at h;cases h
noncomputable def bv:Nat->List Nat
 |0=>[97]
 |1=>[98]
 |2=>[102]
 |3=>[102]
 |_=>[103]
theorem B4{P:List Nat->Prop}(h1:P [97])(h2:P [98])(h3:P [102])(h4:P [103])(x:Nat):P (bv x):=by rcases x with _|_|_|_|_<;>assumption
noncomputable def aN:Nat->List Nat
 |2=>[0]
 |3=>[1]
 |4=>[0,1]
 |5=>[1,0]
 |_=>[]
theorem Br{P:List Nat->Prop}(h0:P [])(h1:P [0])(h2:P [1])(h3:P [0,1])(h4:P [1,0])(x:Nat):P (aN x):=by rcases x with _|_|_|_|_|_|_<;>assumption
theorem Qz(x:Nat):aN x=[]∨2<=x:=by rcases x with _|_|x<;>first|exact .inl rfl|exact .inr (YJ 2 x)
noncomputable abbrev av(l:List Nat):List V:=l.map λn:Nat=>V.i (n:Int)
noncomputable def hH(n:Nat):V:=.t (.s (bv n)::av (aN n))
noncomputable def jU(e:Nat×Nat×Rs):V:=.t [.i e.1,.i e.2.1,e.2.2.gC]
structure Ad where
 yx:Sl->Nat
variable {A A':Ad}
noncomputable def HS.iF(A:Ad)(H:HS):Sl->O
 | .aJ=>.a 2 [(21,.o 0 (A.yx .dW)),(22,.o 1 (A.yx .un)),(23,.r (A.yx .fH)),(24,.r (A.yx .fJ)),(25,.r (A.yx .fh)),(17,.r (A.yx .cF)),(26,.r (A.yx .eZ)),(27,.i 0)]
 | .dW=>.a 0 [(10,.r (A.yx .eL)),(11,.r (A.yx .eU)),(12,.r (A.yx .gF)),(13,.r (A.yx .gE))]
 | .eL=>.l ((List.range H.cb).map hH)
 | .eU=>.t H.tP
 | .gF=>.l (av H.v8)
 | .gE=>.l (av H.v5)
 | .un=>.a 1 [(17,.r (A.yx .c7)),(18,.r (A.yx .fj)),(19,.r (A.yx .fK))]
 | .c7=>.l ((List.range H.KE).map λx=>.i (H.ua x:Int))
 | .fj=>.l ((List.range H.KE).map λx=>.r (A.yx (.cX x)))
 | .fK=>.l (H.jq.map λp:Nat×Nat=>.t [.i p.1,.i p.2])
 | .fH=>.l (H.aM.map jU)
 | .fJ=>.l (av H.bL)
 | .fh=>.t H.dH
 | .cF=>.d (H.bW.map λr:Nat=>((r:Int),V.r (A.yx (.cj r))))
 | .eZ=>.l (av H.dQ)
 | .cX i=>.l (av (H.cU i))
 | .cj r=>.l (av (H.bz r))
noncomputable def HS.ok(H:HS):Sl->Prop
 | .cX i=>i < H.KE
 | .cj r=>r∈H.bW
 |_=>True
structure HR(A:Ad)(H:HS)(σ:aj):Prop where
 eT:∀s t,H.ok s->H.ok t->A.yx s=A.yx t->s=t
 aZ:∀s,H.ok s->σ[A.yx s]? =some (H.iF A s)
section
variable {d n:Nat}
theorem HR.gy(R:HR A H σ)(g:aj):HR A H (σ++g):=⟨R.eT,λs h=>bO _ _ (R.aZ s h)⟩
theorem HR.lt(R:HR A H σ){s:Sl}(h:H.ok s):A.yx s < σ.length:=(XS (R.aZ s h)).1
theorem HR.j'(R:HR A H σ){s:Sl}(hs:H.ok s){o:O}(hv:∀t,H'.ok t->H.ok t)(ho:H'.iF A s=o)(hn:∀t,t≠s->H'.ok t->H'.iF A t=H.iF A t):HR A H' (σ.set (A.yx s) o):=
 ⟨λa b ha hb=>R.eT a b (hv a ha) (hv b hb),λt ht=>by
  by_cases e:t=s
  ·subst e;rw[ho];exact cR (R.aZ t hs)
  ·rw[aV λh=>e (R.eT t s (hv t ht) hs h.symm),hn t e ht];exact R.aZ t (hv t ht)⟩
theorem yf{f:Nat->V}{m:Nat}(h:x < m):dz (x:Int)->(dS (x:Int) ((List.range m).map f).length).bind (((List.range m).map f)[·]?)=some (f x):=λ_=>by
 unfold dS
 rw[Xr (YR _)]
 simp[h]
theorem gG(h:x<=aK):dz (x:Int):=by unfold dz bY;unfold aK at h;lia
structure HI(H:HS):Prop where
 c6:H.KE<=6
 ld:∀x,x < H.KE->H.ua x<=x
 lS:∀x,x < H.KE->H.rt (H.ua x)=H.rt x
 iS:∀x,x < H.KE->H.ua x=x->H.rt x=x
 lR:∀x,x < H.KE->H.rt x<=x
 jp:∀x,x < H.KE->H.ua (H.rt x)=H.rt x
 cb:H.cb=H.KE
theorem HI.oi(I:HI H)(h:x < H.KE):x<=aK:=by have:=I.c6;unfold aK;exact j3 (qT h this) rfl
theorem HI.rc(I:HI H)(h:x < H.KE):H.rt x < H.KE:=YB (I.lR x h) h
theorem dy(R:HR A H σ):σ[A.yx .aJ]? =some (H.iF A .aJ):=R.aZ .aJ trivial
theorem vI(R:HR A H σ)(I:HI H)(h:x < H.KE)(h0:ρ 0=some (.o 1 (A.yx .un)))(h1:ρ 1=some (.i x)):Ev d (n+3) (.s (.a 17 (.v 0)) (.v 1)) ρ σ (.i (H.ua x)) σ:=
 bi (dv (af h0) rfl (R.aZ .un trivial) rfl) (af h1) (dL (R.aZ .c7 trivial) (gG (I.oi h)) (yf h (gG (I.oi h))))
theorem mq(a b:Nat):gW σ .n (.i a) (.i b)=some (!decide (a=b)):=by
 refine(?_:some (!decide ((a:Int)=b))=_)
 congr 2
 by_cases h:a=b<;>simp[h];exact tb h
theorem sC(a b:Nat):gW σ .e (.i a) (.i b)=some (decide (a=b)):=by
 refine(?_:some (decide ((a:Int)=b))=_)
 congr 1
 by_cases h:a=b<;>simp[h];exact tb h
theorem PJ(R:HR A H σ)(I:HI H):∀(m x:Nat),x<=m->x < H.KE->∀ρ:aA,ρ 0=some (.o 1 (A.yx .un))->ρ 1=some (.i x)->
  ∃ρ',ai d 12 (.w (.p .n (.s (.a 17 (.v 0)) (.v 1)) (.v 1)) [.a (.v 1) (.s (.a 17 (.v 0)) (.v 1))]) ρ σ .n ρ' σ/\ρ' 1=some (.i (H.rt x)):=by
 intro m
 induction m with
 |zero=>
  intro x hx hc ρ h0 h1
  obtain rfl:x=0:=Nat.le_zero.mp hx
  have e:H.ua 0=0:=Nat.le_zero.mp (I.ld 0 hc)
  exact aC ρ (iY (aY (vI R I hc h0 h1) (af h1) (by rw[mq,e];rfl) (Xo _))) (by rw[I.iS 0 hc e];exact h1)
 |succ m ih=>
  intro x hx hc ρ h0 h1
  by_cases e:H.ua x=x
  ·exact aC ρ (iY (aY (vI R I hc h0 h1) (af h1) (by rw[mq,e];simp) (Xo _))) (by rw[I.iS x hc e];exact h1)
  ·have l:=I.ld x hc
   refine az (ih (H.ua x) (Nat.le_of_lt_succ (XB (Nat.lt_of_le_of_ne l e) hx)) (YB l hc) (au ρ 1 (.i (H.ua x))) (by rw[bR _ _ (by decide)];exact h0) (bw _ _ _)) λρ' h g=>?_
   exact aC ρ' (lZ (aY (vI R I hc h0 h1) (af h1) (by rw[mq];simp[e]) (Xo _)) (Xi (bh (vI R I hc h0 h1) ba)) h) (by rw[g,I.lS x hc])
theorem tf(d:Nat)(R:HR A H σ)(I:HI H)(h:x < H.KE):aL (d+1) 13 [.o 1 (A.yx .un),.i x] σ (.i (H.rt x)) σ:=by
 refine az (PJ (d:=d) R I x x (Xp _) h (bf [.o 1 (A.yx .un),.i x]) rfl rfl) λρ' h1 h2=>?_
 exact cI (f:=Gr) rfl rfl (ao h1 (be (bM (af h2))))
theorem yb(d:Nat)(R:HR A H σ)(I:HI H)(h:x < H.KE):aL (d+2) 23 [.o 2 (A.yx .aJ),.i x] σ (.i (H.rt x)) σ:=
 cI (f:=Gi) rfl rfl (be (bM (bQ (dv (af rfl) rfl (dy R) rfl) (R.aZ .un trivial) rfl (Xh (af rfl)) (tf d R I h))))
theorem Tb(d:Nat)(R:HR A H σ)(I:HI H)(hx:x < H.KE)(hy:y < H.KE):aL (d+3) 24 [.o 2 (A.yx .aJ),.i x,.i y] σ (.b (decide (H.rt x=H.rt y))) σ:=
 cI (f:=Gg) rfl rfl (be (bM (aY (bQ (af rfl) (dy R) rfl (Xh (af rfl)) (yb d R I hx)) (bQ (af rfl) (dy R) rfl (Xh (af rfl)) (yb d R I hy)) (sC _ _) (Xo _))))
theorem FX(R:HR A H σ)(I:HI H)(h:x < H.KE){e:Ex}(h0:ρ 0=some (.o 0 (A.yx .dW)))(h1:ρ 1=some (.i x)):Ev d (n+3) (.s (.a 10 (.v 0)) (.v 1)) ρ σ (hH x) σ:=
 bi (dv (af h0) rfl (R.aZ .dW trivial) rfl) (af h1) (dL (R.aZ .eL trivial) (gG (I.oi h)) (yf (by rw[I.cb];exact h) (gG (I.oi h))))
theorem gZ(x:Nat):(aN x).length<=2:=Br (P:=λl=>l.length<=2) (by decide) (by decide) (by decide) (by decide) (by decide) x
theorem vo(d:Nat)(R:HR A H σ)(I:HI H)(h:x < H.KE):aL (d+1) 7 [.o 0 (A.yx .dW),.i x] σ (.s (bv x)) σ:=
 cI (f:=Gd) rfl rfl (be (bM (bi (FX (e:=.v 0) R I h rfl rfl) aq (c9 (bg rfl) rfl))))
theorem td(d:Nat)(R:HR A H σ)(I:HI H)(h:x < H.KE):aL (d+1) 8 [.o 0 (A.yx .dW),.i x] σ (.t (av (aN x))) σ:=by
 have hk:=gZ x
 have hl:(V.s (bv x)::av (aN x)).length<=3:=by simp;exact hk
 exact cI (f:=Gc) rfl rfl (be (bM (ji (FX (e:=.v 0) R I h rfl rfl) (aq (v:=.i 1)) (pf (xs:=.s (bv x)::av (aN x)) ⟨by decide,by simp;exact nO⟩ (Xl hl (by unfold aK;decide))))))
theorem nt(x:Nat)(h:x < H.KE):∀k∈aN x,k < H.KE:=λk hk=>(Qz x).elim (λe=>absurd (e▸hk) XX) λe=>XB (Br (P:=λl=>∀k∈l,k < 2) (by decide) (by decide) (by decide) (by decide) (by decide) x k hk) (Xl e (Yc h))
noncomputable def iM(H:HS)(x:Nat):List KV:=.inl (bv x)::(aN x).map λk=>.inr (H.rt k:Int)
theorem Ho(H:HS)(x:Nat):eW (.s (bv x)::(aN x).map λk=>V.i (H.rt k:Int))=some (iM H x):=
 have:∀l:List Nat,eW (l.map λk=>V.i (H.rt k:Int))=some (l.map λk=>.inr (H.rt k:Int)):=λl=>by
  induction l with
  |nil=>rfl
  |cons a l ih=>exact Hn rfl ih
 Hn rfl (this _)
theorem Tx(d:Nat)(R:HR A H σ)(I:HI H)(h:x < H.KE):aL (d+3) 19 [.o 2 (A.yx .aJ),.i x] σ (.t (.s (bv x)::(aN x).map λk=>V.i (H.rt k:Int))) σ:=by
 have hk:=gZ x
 have o0:aD (av (aN x)):=Xl (by simp;exact hk) (by unfold aK;decide:2<=aK)
 have o1:aD ((aN x).map λk=>V.i (H.rt k:Int)):=Xl (by simp;exact hk) (by unfold aK;decide:2<=aK)
 have o2:aD ([V.s (bv x)]++(aN x).map λk=>V.i (H.rt k:Int)):=Xl (by simp;exact hk) (by unfold aK;decide:3<=aK)
 have hit:=gI (d:=d+2) (n:=27) (elt:=.m 20 (.v 0) [(.v 2)]) (tg:=.v 2) (ρ:=bf [.o 2 (A.yx .aJ),.i x]) (σ:=σ) (S:=.bx (av (aN x))) (λ_=>rfl) (λ_=>trivial) (λk:Nat=>V.i (k:Int)) (λk=>V.i (H.rt k:Int)) (aN x)
  (λk hk=>aC _ rfl (bQ (af rfl) (dy R) rfl (Xh (af rfl)) (yb d R I (nt x h k hk)))) [] o0
 rw[XT]at hit
 exact fV (f:=Gm) rfl rfl (be (bM (bX (bI (Xh (bQ (dv (af rfl) rfl (dy R) rfl) (R.aZ .dW trivial) rfl (Xh (af rfl)) (vo _ R I h))))
  (ci rfl (Xh (dU (jJ (bQ (dv (af rfl) rfl (dy R) rfl) (R.aZ .dW trivial) rfl (Xh (af rfl)) (td _ R I h)) o0) hit)) (j2 aX o1)) (vf o2)))) (Yd _ _) (by
   have:∀(m:Nat) (l:List Nat),V.loAll m (l.map λk=>V.i (H.rt k:Int))=true:=λm l=>by induction l<;>simp_all [jT,iJ,r7]
   exact this _ _)
end
structure Tw(σ τ:aj):Prop where
 ui:τ.length=σ.length
 wN:∀(i:Nat) (o:O),τ[i]? =some o->σ[i]? =some o∨∀m,o.lo m=true
section
variable {d n:Nat}{v:V}{o:O}
theorem EL(σ:aj):Tw σ σ:=⟨rfl,λ_ _ h=>.inl h⟩
theorem Tw.r5(t:Tw σ τ){a:Nat}(ho:∀m,o.lo m=true):Tw σ (τ.set a o):=⟨by rw[XF];exact t.ui,λi q h=>by
 by_cases e:a=i
 ·subst e
  have hl:a < τ.length:=by have:=(XS h).1;rwa [XF]at this
  rw[Zq hl]at h;cases h;exact .inr ho
 ·rw[YW e]at h;exact t.wN i q h⟩
theorem Tw.NM(t:Tw σ τ)(g:aj)(hv:∀m,v.lo m=true):nX σ (τ++g) τ v:=⟨Yd _ _,XW t.ui.symm,hv _,λi o h=>(t.wN i o h).imp id λh=>h _⟩
theorem NN(t:Tw σ τ)(g h:aj)(hv:∀m,v.lo m=true):nX σ (τ++g++h) τ v:=by rw[XM];exact t.NM _ hv
theorem Vy(a:Tw σ τ)(b:Tw τ υ):Tw σ υ:=⟨b.ui.trans a.ui,λi o h=>(b.wN i o h).elim (a.wN i o) .inr⟩
theorem HO(l:List Nat):∀m,(O.l (av l)).lo m=true:=λm=>by
 refine(?_:V.loAll m (av l)=true)
 induction l<;>simp_all [jT,iJ,r7]
theorem HN(l:List Nat)(f:Nat->Nat):∀m,(O.l (l.map λx=>.i (f x:Int))).lo m=true:=λm=>by
 refine(?_:V.loAll m _=true)
 induction l<;>simp_all [jT,iJ,r7]
theorem HP(l:List (Nat×Nat)):∀m,(O.l (l.map λp:Nat×Nat=>.t [.i p.1,.i p.2])).lo m=true:=λm=>by
 refine(?_:V.loAll m _=true)
 induction l<;>simp_all [jT,iJ,oN,r7]
theorem CG{a:Nat}{g h:aj}(hl:a < σ.length):(σ++g++h).set a o=σ.set a o++g++h:=by rw[pq (by simp;exact d5 hl),pq hl]
noncomputable def cm(f:Nat->α)(i:Nat)(v:α):Nat->α:=λj=>if j=i then v else f j
theorem gq{f:Nat->α}{i:Nat}{v:α}:cm f i v i=v:=Xr rfl
theorem eS{f:Nat->α}{i j:Nat}{v:α}(h:j≠i):cm f i v j=f j:=Xv h
theorem TW{f:Nat->β}{m i:Nat}{v:β}(h:i < m):((List.range m).map f).set i v=(List.range m).map (cm f i v):=by
 apply List.ext_getElem?
 intro j
 by_cases e:i=j
 ·subst e
  rw[Zq (by simpa using h),Ys,List.getElem?_range h];simp[cm]
 ·rw[YW e,Ys,Ys]
  cases hj:(List.range m)[j]? with
  |none=>rfl
  |some k=>
   have hk:k=j:=by
    have:=(XS hj).2;simpa using this.symm
   subst hk
   simp[cm,Yp e]
noncomputable def HS.v7(H:HS)(k g:Nat):HS:={H with ua:=cm H.ua g k,rt:=λx=>if H.rt x=g then k else H.rt x,cU:=cm H.cU k (H.cU k++H.cU g),jq:=H.jq++[(k,g)]}
theorem HI.LZ(I:HI H){k g:Nat}(hk:k < g)(hg:g < H.KE)(rk:H.rt k=k)(rg:H.rt g=g)(uk:H.ua k=k):HI (H.v7 k g) where
 c6:=I.c6
 ld:=λx hx=>by
  refine(?_:cm H.ua g k x<=x)
  by_cases e:x=g
  ·subst e;rw[gq];exact Yc hk
  ·rw[eS e];exact I.ld x hx
 lS:=λx hx=>by
  show(if H.rt (cm H.ua g k x)=g then k else _)=if H.rt x=g then k else _
  have e1:H.rt (cm H.ua g k x)=if x=g then k else H.rt x:=by
   by_cases e:x=g
   ·subst e;rw[gq,rk,Xr rfl]
   ·rw[eS e,I.lS x hx,Xv e]
  have e2:(H.v7 k g).ua x=cm H.ua g k x:=rfl
  rw[e2,e1]
  by_cases e:x=g
  ·subst e;rw[Xr rfl,Xv (XH hk),Xr rg]
  ·rw[Xv e]
 iS:=λx hx hu=>by
  refine(?_:(if H.rt x=g then k else H.rt x)=x)
  have hu':cm H.ua g k x=x:=hu
  by_cases e:x=g
  ·subst e;rw[gq]at hu';exact absurd hu' (XH hk)
  ·rw[eS e]at hu'
   have:=I.iS x hx hu'
   rw[this,Xv e]
 lR:=λx hx=>by
  refine(?_:(if H.rt x=g then k else H.rt x)<=x)
  have:=I.lR x hx
  split
  ·rename_i h;rw[h]at this;exact Yc (XB hk this)
  ·exact this
 jp:=λx hx=>by
  show cm H.ua g k (if H.rt x=g then k else H.rt x)=if H.rt x=g then k else H.rt x
  split
  ·rw[eS (XH hk)];exact uk
  ·rename_i h;rw[eS h];exact I.jp x hx
 cb:=I.cb
theorem J7(a b:Nat):(iP [(a:Int),b]).map V.i=av [min a b,max a b]:=by
 refine(?_:(nh (a:Int) [(b:Int)]).map V.i=_)
 rw[xq]
 by_cases h:a<=b
 ·rw[Xr (by exact_mod_cast h),Nat.min_eq_left h,Nat.max_eq_right h];rfl
 ·rw[Xv (by exact x9 h),Nat.min_eq_right (by exact qL (Co h)),Nat.max_eq_left (by exact qL (Co h))];rfl
structure Mv(H:HS)(k g:Nat):Prop where
 lt:k < g
 gc:g < H.KE
 rk:H.rt k=k
 rg:H.rt g=g
 lk:(H.cU k++H.cU g).length<=300
 lm:H.jq.length<=300
theorem bq{l:List α}(h:l.length<=300):aD l:=Xl h (by unfold aK;decide)
theorem HR.Dy(R:HR A H σ){k g:Nat}(hg:g < H.KE):HR A {H with ua:=cm H.ua g k} (σ.set (A.yx .c7) (.l ((List.range H.KE).map λx=>.i ((cm H.ua g k x:Nat):Int)))):=
 R.j' (s:=.c7) trivial (λ_ h=>h) rfl λt ht _=>by cases t<;>first |rfl |exact absurd rfl ht
theorem HR.Dw(R:HR A H σ){k:Nat}(hk:k < H.KE)(l:List Nat):HR A {H with cU:=cm H.cU k l} (σ.set (A.yx (.cX k)) (.l (av l))):=
 R.j' (s:=.cX k) hk (λ_ h=>h) (by refine(?_:O.l (av (cm H.cU k l k))=_);rw[gq]) λt ht _=>by
  cases t with
  |cX i=>refine(?_:O.l (av (cm H.cU k l i))=_);rw[eS λe=>ht (by rw[e])];rfl
  |_=>rfl
theorem HR.Dx(R:HR A H σ)(l:List (Nat×Nat)):HR A {H with jq:=l} (σ.set (A.yx .fK) (.l (l.map λp:Nat×Nat=>.t [.i p.1,.i p.2]))):=
 R.j' (s:=.fK) trivial (λ_ h=>h) rfl λt ht _=>by cases t<;>first |rfl |exact absurd rfl ht
theorem HR.L6(R:HR A H σ)(f:Nat->Nat):HR A {H with rt:=f} σ:=⟨R.eT,λs h=>R.aZ s h⟩
theorem TQ(d:Nat)(R:HR A H σ)(I:HI H)(hx:x < H.KE)(hy:y < H.KE)(h:H.rt x=H.rt y):aL (d+2) 14 [.o 1 (A.yx .un),.i x,.i y] σ .n σ:=by
 have hs:(iP [(H.rt x:Int),H.rt y]).map V.i=av [H.rt x,H.rt x]:=by rw[J7,h,Nat.min_self,Nat.max_self]
 have e:=Cg (σ:=σ++[.l [.i (H.rt x),.i (H.rt y)]]) aX (is:=[(H.rt x:Int),H.rt y]) rfl (by refine(?_:2 < 64);decide)
 rw[hs]at e
 exact fV (f:=AB) rfl rfl (ao (bh (ci rfl (Xh (dp (ac.ah (bQ (af rfl) (R.aZ .un trivial) rfl (Xh (af rfl)) (tf d R I hx)) (Xh (bQ (af rfl) (R.aZ .un trivial) rfl (Xh (af rfl)) (tf d R I hy)))))) e)
  (gQ (xs:=av [H.rt x,H.rt x]) (G9 aX) rfl (da ba (da ba gR)))) (be (cW (aY (af rfl) (af rfl) (by rw[sC];simp) (Xo _)) (be (bM aq))))) (by repeat first |exact Yh _ |apply iz) rfl
theorem TP(d:Nat)(R:HR A H σ)(I:HI H)(hx:x < H.KE)(hy:y < H.KE){k g:Nat}(ek:min (H.rt x) (H.rt y)=k)(eg:max (H.rt x) (H.rt y)=g)(M:Mv H k g):
  ∃τ,aL (d+2) 14 [.o 1 (A.yx .un),.i x,.i y] σ (.t [.i k,.i g]) τ/\HR A (H.v7 k g) τ/\Tw σ τ/\∀i,(∀s,H.ok s->A.yx s≠i)->τ[i]? =σ[i]?:=by
 have hk:k < H.KE:=Nat.lt_trans M.lt M.gc
 have hs:(iP [(H.rt x:Int),H.rt y]).map V.i=av [k,g]:=by rw[J7,ek,eg]
 have e:=Cg (σ:=σ++[.l [.i (H.rt x),.i (H.rt y)]]) aX (is:=[(H.rt x:Int),H.rt y]) rfl (by refine(?_:2 < 64);decide)
 rw[hs]at e
 let g1:aj:=[.l [.i (H.rt x),.i (H.rt y)]]
 let g2:aj:=[.l (av [k,g])]
 have R0:HR A H (σ++g1++g2):=(R.gy _).gy _
 let L1:O:=.l ((List.range H.KE).map λx=>.i ((cm H.ua g k x:Nat):Int))
 let L2:O:=.l (av (H.cU k++H.cU g))
 let L3:O:=.l ((H.jq++[(k,g)]).map λp:Nat×Nat=>.t [.i p.1,.i p.2])
 have R1:HR A {H with ua:=cm H.ua g k} ((σ++g1++g2).set (A.yx .c7) L1):=R0.Dy M.gc
 have R2:=R1.Dw hk (H.cU k++H.cU g)
 have R3:=R2.Dx (H.jq++[(k,g)])
 have T3:=((R.Dy (k:=k) M.gc).Dw hk (H.cU k++H.cU g)).Dx (H.jq++[(k,g)])
 have es:(((σ++g1++g2).set (A.yx .c7) L1).set (A.yx (.cX k)) L2).set (A.yx .fK) L3=((σ.set (A.yx .c7) L1).set (A.yx (.cX k)) L2).set (A.yx .fK) L3++g1++g2:=by
  rw[CG (R.lt (s:=.c7) trivial),CG (by rw[XF];exact R.lt (s:=.cX k) hk),CG (by rw[XF,XF];exact R.lt (s:=.fK) trivial)]
 let ρ:=au (au (bf [.o 1 (A.yx .un),.i x,.i y]) 3 (.i k)) 4 (.i g)
 have s1:lX (mF (.r (A.yx .c7)) (.i g) (.i k) (σ++g1++g2)) ((σ++g1++g2).set (A.yx .c7) L1):=by
  have:=Sy (v:=.i k) (n:=(g:Int)) (R0.aZ .c7 trivial) (YR _) (by simpa using M.gc) (by have:=I.c6;simp;unfold aK;exact bP this rfl)
  rw[Int.toNat_natCast,TW M.gc]at this
  have e2:(cm (λx=>V.i (H.ua x:Int)) g (.i k))=λx=>V.i ((cm H.ua g k x:Nat):Int):=by funext j;unfold cm;split<;>rfl
  rw[e2]at this;exact this
 have lref:∀{τ:aj} {H1:HS} (R1:HR A H1 τ) (hc:H1.KE=H.KE) {j i:Nat} (hj:j < H.KE) (hρ:ρ i=some (.i (j:Int))) (n:Nat),Ev (d+1) (n+3) (.s (.a 18 (.v 0)) (.v i)) ρ τ (.r (A.yx (.cX j))) τ:=λ{τ H1} R1 hc {j i} hj hρ n=>
  bi (dv (af rfl) rfl (R1.aZ .un trivial) rfl) (af hρ) (dL (R1.aZ .fj trivial) (gG (I.oi hj)) (yf (by rw[hc];exact hj) (gG (I.oi hj))))
 have nkg:A.yx (.cX k)≠A.yx (.cX g):=λe=>by
  have:=R.eT (.cX k) (.cX g) hk M.gc e
  cases this;exact YQ _ M.lt
 have s2:Pr (dB 1 (.r (A.yx (.cX k))) [.r (A.yx (.cX g))] ((σ++g1++g2).set (A.yx .c7) L1)) .n (((σ++g1++g2).set (A.yx .c7) L1).set (A.yx (.cX k)) L2):=by
  have:=IQ (R1.aZ (.cX k) hk) (R1.aZ (.cX g) M.gc) nkg (by
   refine(?_:aD (av (H.cU k)++av (H.cU g)))
   rw[<-XV];exact bq (by rw[Xk];exact M.lk))
  rw[<-XV]at this;exact this
 have s3:Pr (dB 0 (.r (A.yx .fK)) [.t [.i k,.i g]] (((σ++g1++g2).set (A.yx .c7) L1).set (A.yx (.cX k)) L2)) .n ((((σ++g1++g2).set (A.yx .c7) L1).set (A.yx (.cX k)) L2).set (A.yx .fK) L3):=by
  have:=pd (v:=.t [.i k,.i g]) (R2.aZ .fK trivial) (bq (by rw[Xk];exact M.lm))
  have e3:H.jq.map (λp:Nat×Nat=>V.t [.i p.1,.i p.2])++[.t [.i k,.i g]]=(H.jq++[(k,g)]).map λp:Nat×Nat=>V.t [.i p.1,.i p.2]:=by rw[XV];rfl
  exact(Xu (λl=>Pr (dB 0 (.r (A.yx .fK)) [.t [.i k,.i g]] (((σ++g1++g2).set (A.yx .c7) L1).set (A.yx (.cX k)) L2)) .n ((((σ++g1++g2).set (A.yx .c7) L1).set (A.yx (.cX k)) L2).set (A.yx .fK) (.l l))) e3).mp this
 refine eX _ (aL.li (f:=AB) (fl:=.r (.t [.i k,.i g])) rfl rfl (ao (bh (ci rfl (Xh (dp (ac.ah (bQ (af rfl) (R.aZ .un trivial) rfl (Xh (af rfl)) (tf d R I hx)) (Xh (bQ (af rfl) (R.aZ .un trivial) rfl (Xh (af rfl)) (tf d R I hy)))))) e)
   (gQ (xs:=av [k,g]) (G9 aX) rfl (da ba (da ba gR)))) (ao (bC (aY (af rfl) (af rfl) (by rw[sC];simp[XH M.lt]) (Xo _)) aP)
   (ao (bh (af (ρ:=ρ) rfl) (kW (dv (af rfl) rfl (R0.aZ .un trivial) rfl) (af rfl) s1)) (ao (du (dn (lref R1 rfl hk rfl 26) (eI (R1.aZ (.cX k) hk) rfl) (Xh (lref R1 rfl M.gc rfl 26)) rfl s2)) (ao (du (dn (dv (af rfl) rfl (R2.aZ .un trivial) rfl) (eI (R2.aZ .fK trivial) rfl) (Xh (bI (ac.ah (af rfl) (Xh (af rfl))))) rfl s3)) (be (bM (bI (ac.ah (af rfl) (Xh (af rfl))))))))))) ?dr) (T3.L6 _) (((EL σ).r5 (HN _ _)).r5 (HO _)|>.r5 (HP _)) (λi h=>by rw[aV (h .fK trivial),aV (h (.cX k) hk),aV (h .c7 trivial)])
 case dr=>
  rw[es]
  exact NN (((EL σ).r5 (HN _ _)).r5 (HO _)|>.r5 (HP _)) g1 g2 (λ_=>rfl)
end
section
variable {d n:Nat}{v:V}{o:O}{S:Nat->Prop}
structure HX(S:Nat->Prop)(A:Ad)(H:HS)(σ:aj):Prop where
 Vm:HR A H σ
 d9:∀i,S i->i < σ.length/\∀s,H.ok s->A.yx s≠i
noncomputable def Fm(S:Nat->Prop)(σ σ':aj):Prop:=∀i,S i->σ'[i]? =σ[i]?
theorem Fm.fT(a:Fm S σ τ)(b:Fm S τ υ):Fm S σ υ:=λi h=>(b i h).trans (a i h)
theorem HX.mP(X:HX S A H σ){s:Sl}(hs:H.ok s)(R':HR A H' (σ.set (A.yx s) o))(hv:∀t,H'.ok t->H.ok t):HX S A H' (σ.set (A.yx s) o)/\Fm S σ (σ.set (A.yx s) o):=
 ⟨⟨R',λi hi=>⟨by rw[XF];exact(X.d9 i hi).1,λs hs=>(X.d9 i hi).2 s (hv s hs)⟩⟩,λi hi=>aV ((X.d9 i hi).2 s hs)⟩
theorem HR.L0(R:HR A H σ)(l:List (Nat×Nat×Rs)):HR A {H with aM:=l} (σ.set (A.yx .fH) (.l (l.map jU))):=R.j' (s:=.fH) trivial (λ_ h=>h) rfl λt ht _=>by cases t<;>first |rfl |exact absurd rfl ht
theorem HR.L4(R:HR A H σ)(l:List Nat):HR A {H with bL:=l} (σ.set (A.yx .fJ) (.l (av l))):=R.j' (s:=.fJ) trivial (λ_ h=>h) rfl λt ht _=>by cases t<;>first |rfl |exact absurd rfl ht
theorem HR.L7(R:HR A H σ)(l:List Nat):HR A {H with dQ:=l} (σ.set (A.yx .eZ) (.l (av l))):=R.j' (s:=.eZ) trivial (λ_ h=>h) rfl λt ht _=>by cases t<;>first |rfl |exact absurd rfl ht
theorem HR.L5(R:HR A H σ)(l:List (List KV×V)):HR A {H with dH:=l} (σ.set (A.yx .fh) (.t l)):=R.j' (s:=.fh) trivial (λ_ h=>h) rfl λt ht _=>by cases t<;>first |rfl |exact absurd rfl ht
noncomputable def HS.y4(H:HS)(k g:Nat):HS:={H with bW:=H.bW.filter λr=>decide (r≠g),bz:=cm (cm H.bz k (H.bz k++H.bz g)) g []}
noncomputable def Sl.Nl(k:Nat)(s:Sl):Bool:=match s with
 | .cj r=>decide (r=k)
 |_=>false
noncomputable def Ad.j7(A:Ad)(k q:Nat):Ad:=⟨λs=>bif s.Nl k then q else A.yx s⟩
theorem vJ{k q:Nat}{s:Sl}(h:s≠.cj k):(A.j7 k q).yx s=A.yx s:=by
 cases s with
 |cj r=>refine(?_:(bif decide (r=k)then _ else _)=_);rw[XU λe:r=k=>h (e▸rfl)];rfl
 |_=>rfl
theorem yy{k q:Nat}:(A.j7 k q).yx (.cj k)=q:=by refine(?_:(bif decide (k=k)then _ else _)=_);rw[XL rfl];rfl
theorem EZ{f:Nat->V}{r:Nat}(h:r∈ks):cA (ks.map λr:Nat=>((r:Int),f r)) (r:Int)=some (f r):=by
 induction ks with
 |nil=>cases h
 |cons a ks ih=>
  unfold cA at *
  rw[Xw,Zi]
  by_cases e:a=r
  ·subst e;simp
  ·have:decide ((a:Int)=(r:Int))=false:=by simp;exact tb e
   rw[this]
   exact ih ((XC h).resolve_left (Yp e))
theorem N0(ks:List Nat)(f:Nat->V)(g:Nat):sa (ks.map λr:Nat=>((r:Int),f r)) (g:Int)=(ks.filter λr=>decide (r≠g)).map λr:Nat=>((r:Int),f r):=by
 unfold sa
 rw[List.filter_map]
 congr 1
 apply List.filter_congr
 intro a _
 simp only[Function.comp,ne_eq,decide_eq_decide]
 lia
theorem Oc{f:Nat->V}{k:Nat}(v:V)(h:k∈ks):eC (ks.map λr:Nat=>((r:Int),f r)) (k:Int) v=ks.map λr:Nat=>((r:Int),if r=k then v else f r):=by
 unfold eC
 rw[Xr (by rw[List.any_map,List.any_eq_true];exact aC k h (by simp)),XN]
 apply YU
 intro a _
 by_cases e:a=k
 ·subst e;simp
 ·simp only[Function.comp]
  rw[Xv (by exact tb e),Xv e]
theorem HX.Mb(X:HX S A H σ){k g:Nat}(hk:k∈H.bW)(hkg:k≠g):
  HX S (A.j7 k σ.length) (H.y4 k g) (σ.set (A.yx .cF) (.d ((H.bW.filter λr=>decide (r≠g)).map λr:Nat=>((r:Int),if r=k then V.r σ.length else .r (A.yx (.cj r)))))++[.l (av (H.bz k++H.bz g))]):=by
 have lt:∀s,H.ok s->A.yx s < σ.length:=λs hs=>X.Vm.lt hs
 have okk:∀s,(H.y4 k g).ok s->H.ok s:=λs hs=>by
  cases s with
  |cj r=>exact(Zc hs).1
  |_=>exact hs
 have ab:∀s,s≠.cj k->(A.j7 k σ.length).yx s=A.yx s:=λs h=>vJ h
 have ak:(A.j7 k σ.length).yx (.cj k)=σ.length:=yy
 refine⟨⟨λs t hs ht e=>?_,λs hs=>?_⟩,λi hi=>⟨by have:=(X.d9 i hi).1;simp;exact d5 this,λs hs=>?_⟩⟩
 ·by_cases e1:s=.cj k
  ·by_cases e2:t=.cj k
   ·rw[e1,e2]
   ·rw[e1,ak,ab t e2]at e
    exact absurd e.symm (XH (lt t (okk t ht)))
  ·by_cases e2:t=.cj k
   ·rw[e2,ak,ab s e1]at e
    exact absurd e (XH (lt s (okk s hs)))
   ·rw[ab s e1,ab t e2]at e
    exact X.Vm.eT s t (okk s hs) (okk t ht) e
 ·by_cases e1:s=.cj k
  ·subst e1
   rw[ak]
   have:=aX (σ:=σ.set (A.yx .cF) (.d ((H.bW.filter λr=>decide (r≠g)).map λr:Nat=>((r:Int),if r=k then V.r σ.length else .r (A.yx (.cj r)))))) (o:=.l (av (H.bz k++H.bz g)))
   rw[XF]at this
   rw[this]
   refine(?_:_=some (O.l (av (cm (cm H.bz k (H.bz k++H.bz g)) g [] k))))
   rw[eS hkg,gq]
  ·rw[ab s e1]
   refine bO _ _ ?_
   by_cases e2:s=.cF
   ·subst e2
    rw[cR (X.Vm.aZ .cF trivial)]
    refine(?_:_=some (O.d ((H.bW.filter λr=>decide (r≠g)).map λr:Nat=>((r:Int),V.r ((A.j7 k σ.length).yx (.cj r))))))
    congr 2
    apply YU
    intro r hr
    by_cases e:r=k
    ·subst e;rw[Xr rfl,ak]
    ·rw[Xv e,ab _ λh=>e (by cases h;rfl)]
   ·rw[aV λh=>e2 (X.Vm.eT .cF s trivial (okk s hs) h).symm,X.Vm.aZ s (okk s hs)]
    cases s with
    |cj r=>
     have hr:r≠g:=by have:=(Zc hs).2;simpa using this
     have hrk:r≠k:=λh=>e1 (by rw[h])
     refine(?_:some (O.l (av (H.bz r)))=some (O.l (av (cm (cm H.bz k (H.bz k++H.bz g)) g [] r))))
     rw[eS hr,eS hrk]
    |cF=>exact absurd rfl e2
    |_=>rfl
 ·by_cases e1:s=.cj k
  ·subst e1;rw[ak];exact YV (X.d9 i hi).1
  ·rw[ab s e1];exact(X.d9 i hi).2 s (okk s hs)
end
section
variable {d n a b i:Nat}{v:V}{o:O}{S:Nat->Prop}{e:Ex}
theorem kN{f:α->V}{l:List α}(x:α)(ha:σ[a]? =some (.l (l.map f)))(h:l.length<=300):Pr (dB 0 (.r a) [f x] σ) .n (σ.set a (.l ((l++[x]).map f))):=by
 rw[XV];exact pd ha (bq (by rw[Xk];exact h))
theorem Sk{f:α->V}{l m:List α}(ha:σ[a]? =some (.l (l.map f)))(hb:σ[b]? =some (.l (m.map f)))(hn:a≠b)(h:(l++m).length<=300):Pr (dB 1 (.r a) [.r b] σ) .n (σ.set a (.l ((l++m).map f))):=by
 have e:=XV (f:=f) (l₁:=l) (l₂:=m)
 rw[e];exact IQ ha hb hn (by rw[<-e];exact bq (by rw[Xk];exact h))
theorem eH(R:HR A H σ)(h0:ρ 0=some (.o 2 (A.yx .aJ))){k:Nat}(hc:fD 2 k=true)(hg:cA [(21,V.o 0 (A.yx .dW)),(22,.o 1 (A.yx .un)),(23,.r (A.yx .fH)),(24,.r (A.yx .fJ)),(25,.r (A.yx .fh)),(17,.r (A.yx .cF)),(26,.r (A.yx .eZ)),(27,.i 0)] k=some v):Ev d (n+2) (.a k (.v 0)) ρ σ v σ:=
 dv (af h0) hc (dy R) hg
theorem JY{f:α->V}{l:List α}(x:α){k:Nat}(R:HR A H σ)(h0:ρ 0=some (.o 2 (A.yx .aJ)))(ha:σ[a]? =some (.l (l.map f)))(h:l.length<=300)(hk:Ev d 29 (.a k (.v 0)) ρ σ (.r a) σ)(he:Ev d 29 e ρ σ (f x) σ):
  ai d (n+1) (.e (.m 0 (.a k (.v 0)) [e])) ρ σ .n ρ (σ.set a (.l ((l++[x]).map f))):=
 du (dn hk (eI ha rfl) (Xh he) rfl (kN x ha h))
theorem HX.DA(X:HX S A H σ)(l:List (Nat×Nat×Rs)):HX S A {H with aM:=l} (σ.set (A.yx .fH) (.l (l.map jU)))/\Fm S σ (σ.set (A.yx .fH) (.l (l.map jU))):=X.mP (s:=.fH) trivial (X.Vm.L0 l) λ_ h=>h
theorem HX.Ma(X:HX S A H σ)(l:List Nat):HX S A {H with bL:=l} (σ.set (A.yx .fJ) (.l (av l)))/\Fm S σ (σ.set (A.yx .fJ) (.l (av l))):=X.mP (s:=.fJ) trivial (X.Vm.L4 l) λ_ h=>h
theorem HX.DB(X:HX S A H σ)(l:List Nat):HX S A {H with dQ:=l} (σ.set (A.yx .eZ) (.l (av l)))/\Fm S σ (σ.set (A.yx .eZ) (.l (av l))):=X.mP (s:=.eZ) trivial (X.Vm.L7 l) λ_ h=>h
theorem HX.y5(X:HX S A H σ)(l:List (List KV×V)):HX S A {H with dH:=l} (σ.set (A.yx .fh) (.t l))/\Fm S σ (σ.set (A.yx .fh) (.t l)):=X.mP (s:=.fh) trivial (X.Vm.L5 l) λ_ h=>h
theorem HX.ke(X:HX S A H σ)(g:aj):HX S A H (σ++g):=⟨X.Vm.gy g,λi h=>⟨XB (X.d9 i h).1 (by rw[Xn];exact XJ ..),(X.d9 i h).2⟩⟩
theorem HX.tQ(X:HX S A H σ)(g:aj):Fm S σ (σ++g):=λi h=>Ye (X.d9 i h).1
structure y'(H:HS)(a b:Nat):Prop where
 Ws:HI H
 ha:a < H.KE
 hb:b < H.KE
 nk:∀x,x < H.KE->H.rt x∈H.bW
 le:H.aM.length<=300
 lf:H.bL.length<=300
 lm:H.jq.length<=300
 ll:∀x y,x < H.KE->y < H.KE->(H.cU x++H.cU y).length<=300
 la:∀x∈H.bW,∀y∈H.bW,(H.bz x++H.bz y).length<=300
 lw:∀x∈H.bW,(H.dQ++H.bz x).length<=300
 lk:H.bW.length<=300
noncomputable def HS.v6(H:HS)(a b:Nat)(r:Rs):HS:={H with aM:=H.aM++[(a,b,r)]}
theorem HI.v4(I:HI H)(a b:Nat)(r:Rs):HI (H.v6 a b r):=⟨I.c6,I.ld,I.lS,I.iS,I.lR,I.jp,I.cb⟩
theorem Hg(n:Nat)(X:HX S A H σ)(hl:H.aM.length<=300)(r:Rs)(h0:ρ 0=some (.o 2 (A.yx .aJ)))(h1:ρ 1=some (.i a))(h2:ρ 2=some (.i b))(h3:ρ 3=some r.gC):
  ai d (n+1) (.e (.m 0 (.a 23 (.v 0)) [.t [.v 1,.v 2,.v 3]])) ρ σ .n ρ (σ.set (A.yx .fH) (.l ((H.aM++[(a,b,r)]).map jU))):=
 JY (f:=jU) (a,b,r) X.Vm h0 (X.Vm.aZ .fH trivial) hl (eH X.Vm h0 rfl rfl) (bI (ac.ah (af h1) (ac.ah (af h2) (Xh (af h3)))))
theorem Tl(d:Nat)(X:HX S A H σ)(J:y' H a b)(r:Rs)(h:H.rt a=H.rt b):
  ∃τ,aL (d+3) 26 [.o 2 (A.yx .aJ),.i a,.i b,r.gC] σ (.b false) τ/\HX S A (H.v6 a b r) τ/\Fm S σ τ:=by
 refine bc (X.DA (H.aM++[(a,b,r)])) λX1 F1=>?_
 exact dK _ (cI (f:=Aw) (fl:=.r (.b false)) rfl rfl (ao (Hg _ X J.le r rfl rfl rfl rfl)
  (ao (bh (bQ (eH X1.Vm rfl rfl rfl) (X1.Vm.aZ .un trivial) rfl (ac.ah (af rfl) (Xh (af rfl))) (TQ d X1.Vm (J.Ws.v4 a b r) J.ha J.hb h)) ba)
   (be (cW (aY (af rfl) aq rfl trivial) (be (bM aq))))))) X1 F1
noncomputable def HS.oj(H:HS)(a b:Nat)(r:Rs)(k g:Nat):HS:=
 HS.y4 {((H.v6 a b r).v7 k g)with bL:=H.bL++[H.aM.length],dQ:=H.dQ++H.bz g} k g
theorem HX.Me(X:HX S A H σ)(R:HR A H' τ)(hl:τ.length=σ.length)(hv:∀t,H'.ok t->H.ok t)(hk:∀i,(∀s,H.ok s->A.yx s≠i)->τ[i]? =σ[i]?):HX S A H' τ/\Fm S σ τ:=
 ⟨⟨R,λi hi=>⟨by rw[hl];exact(X.d9 i hi).1,λs hs=>(X.d9 i hi).2 s (hv s hs)⟩⟩,λi hi=>hk i (X.d9 i hi).2⟩
theorem Sx{f:Nat->V}{g:Nat}(ha:σ[a]? =some (.d (ks.map λr:Nat=>((r:Int),f r))))(hg:g∈ks)(h:ks.length<=300):Pr (dB 2 (.r a) [.i g] σ) (f g) (σ.set a (.d ((ks.filter λr=>decide (r≠g)).map λr:Nat=>((r:Int),f r)))):=by
 rw[<-N0];exact Sv ha (EZ hg) (bq (α:=Int×V) (by rw[Xk];exact h))
theorem Cc{f:Nat->V}{g:Nat}(ha:σ[a]? =some (.d (ks.map λr:Nat=>((r:Int),f r))))(hg:g∈ks):Pr (nS (.r a) (.i g) σ) (f g) σ:=mB ha (by intro _ h;cases h) (Xu some (EZ hg))
theorem Tj(d:Nat)(X:HX S A H σ)(J:y' H a b)(r:Rs){k g:Nat}(ek:min (H.rt a) (H.rt b)=k)(eg:max (H.rt a) (H.rt b)=g)(hlt:k < g):
  ∃A' τ,aL (d+3) 26 [.o 2 (A.yx .aJ),.i a,.i b,r.gC] σ (.b true) τ/\HX S A' (H.oj a b r k g) τ/\Fm S σ τ/\A'.yx .aJ=A.yx .aJ:=by
 have kr:∃x,x < H.KE/\H.rt x=k:=by
  by_cases h:H.rt a<=H.rt b
  ·exact aC a J.ha (by rw[<-ek,Nat.min_eq_left h])
  ·exact aC b J.hb (by rw[<-ek,Nat.min_eq_right (Nat.le_of_not_le h)])
 have gr:∃x,x < H.KE/\H.rt x=g:=by
  by_cases h:H.rt a<=H.rt b
  ·exact aC b J.hb (by rw[<-eg,Nat.max_eq_right h])
  ·exact aC a J.ha (by rw[<-eg,Nat.max_eq_left (Nat.le_of_not_le h)])
 refine az kr ?_;clear kr;intro xk xkc xke
 refine az gr ?_;clear gr;intro xg xgc xge
 have kk:k∈H.bW:=xke▸J.nk xk xkc
 have gk:g∈H.bW:=xge▸J.nk xg xgc
 have kc:k < H.KE:=xke▸J.Ws.rc xkc
 have gc:g < H.KE:=xge▸J.Ws.rc xgc
 have rr:∀x,x < H.KE->H.rt (H.rt x)=H.rt x:=λx h=>J.Ws.iS _ (J.Ws.rc h) (J.Ws.jp x h)
 have rk:H.rt k=k:=by have:=rr xk xkc;rwa [xke]at this
 have rg:H.rt g=g:=by have:=rr xg xgc;rwa [xge]at this
 refine bc (X.DA (H.aM++[(a,b,r)])) λX1 F1=>?_
 refine hU (TP d X1.Vm (J.Ws.v4 a b r) J.ha J.hb ek eg ⟨hlt,gc,rk,rg,J.ll k g kc gc,J.lm⟩) λσ2 hm R2 T2 K2=>?_
 refine bc (X1.Me R2 T2.ui (λ_ h=>h) K2) λX2 F2=>?_
 refine bc (X2.Ma (H.bL++[H.aM.length])) λX3 F3=>?_
 refine bc (X3.DB (H.dQ++H.bz g)) λX4 F4=>?_
 have X5:=X4.Mb (k:=k) (g:=g) kk (XH hlt)
 let σ3:=σ2.set (A.yx .fJ) (.l (av (H.bL++[H.aM.length])))
 let σ4:=σ3.set (A.yx .eZ) (.l (av (H.dQ++H.bz g)))
 let D1:O:=.d ((H.bW.filter λr=>decide (r≠g)).map λr:Nat=>((r:Int),V.r (A.yx (.cj r))))
 let D2:O:=.d ((H.bW.filter λr=>decide (r≠g)).map λr:Nat=>((r:Int),if r=k then V.r σ4.length else .r (A.yx (.cj r))))
 let ρ:=au (au (au (bf [.o 2 (A.yx .aJ),.i a,.i b,r.gC]) 4 (.t [.i k,.i g])) 5 (.i k)) 6 (.i g)
 have nab:∀r∈H.bW,A.yx .cF≠A.yx (.cj r):=λr hr e=>by have:=X.Vm.eT .cF (.cj r) trivial hr e;cases this
 have nwa:A.yx .eZ≠A.yx (.cj g):=λe=>by have:=X.Vm.eT .eZ (.cj g) trivial gk e;cases this
 have fk:k∈H.bW.filter λr=>decide (r≠g):=List.mem_filter.mpr ⟨kk,by simp[XH hlt]⟩
 have e5:ai (d+2) 12 (.e (.m 0 (.a 24 (.v 0)) [.i .s (.b .l [.a 23 (.v 0)]) (.c (.i 1))])) ρ σ2 .n ρ σ3:=by
  refine JY (f:=λn:Nat=>V.i (n:Int)) H.aM.length X2.Vm rfl (X2.Vm.aZ .fJ trivial) J.lf (eH X2.Vm rfl rfl rfl) ?_
  have h:=bX (d:=d+2) (n:=28) (op:=.s) (ρ:=ρ) (ci rfl (Xh (eH (k:=23) X2.Vm rfl rfl rfl)) (fB (xs:=(H.aM++[(a,b,r)]).map jU) (X2.Vm.aZ .fH trivial) (Xl (by rw[Xk,Xn];exact YL J.le 1) (by unfold aK;decide:300+1<=aK)))) (aq (v:=.i 1)) j1
  have e:(((H.aM++[(a,b,r)]).map jU).length:Int) - 1=(H.aM.length:Nat):=by rw[Xk,Xn,Int.natCast_add];exact Int.add_sub_cancel _ 1
  exact e▸h
 have e6:ai (d+2) 12 (.e (.m 1 (.a 26 (.v 0)) [.s (.a 17 (.v 0)) (.v 6)])) ρ σ3 .n ρ σ4:=
  du (dn (eH X3.Vm rfl rfl rfl) (eI (X3.Vm.aZ .eZ trivial) rfl) (Xh (bi (eH X3.Vm rfl rfl rfl) (af rfl) (Cc (X3.Vm.aZ .cF trivial) gk))) rfl (Sk (X3.Vm.aZ .eZ trivial) (X3.Vm.aZ (.cj g) gk) nwa (J.lw g gk)))
 have ak:(σ4.set (A.yx .cF) D1)[A.yx (.cj k)]? =some (.l (av (H.bz k))):=by rw[aV (nab k kk)];exact X4.Vm.aZ (.cj k) kk
 have ag:(σ4.set (A.yx .cF) D1)[A.yx (.cj g)]? =some (.l (av (H.bz g))):=by rw[aV (nab g gk)];exact X4.Vm.aZ (.cj g) gk
 have ad:Pr (kB .a (.r (A.yx (.cj k))) (.r (A.yx (.cj g))) (σ4.set (A.yx .cF) D1)) (.r σ4.length) (σ4.set (A.yx .cF) D1++[.l (av (H.bz k++H.bz g))]):=by
  have h:=pb ak ag (bq (by rw[Xn,Xk,Xk,<-Xn];exact J.la k kk g gk))
  rw[<-XV,XF]at h;exact h
 have lt4:A.yx .cF < σ4.length:=X4.Vm.lt (s:=.cF) trivial
 have eD:eC ((H.bW.filter λr=>decide (r≠g)).map λr:Nat=>((r:Int),V.r (A.yx (.cj r)))) (k:Int) (.r σ4.length)=(H.bW.filter λr=>decide (r≠g)).map λr:Nat=>((r:Int),if r=k then V.r σ4.length else .r (A.yx (.cj r))):=Oc (f:=λr=>.r (A.yx (.cj r))) _ fk
 have st:lX (mF (.r (A.yx .cF)) (.i k) (.r σ4.length) (σ4.set (A.yx .cF) D1++[.l (av (H.bz k++H.bz g))])) (σ4.set (A.yx .cF) D2++[.l (av (H.bz k++H.bz g))]):=by
  have h:=mA (o':=D2) (w:=.i k) (v:=.r σ4.length) (bO _ [.l (av (H.bz k++H.bz g))] (cR (o':=D1) (X4.Vm.aZ .cF trivial))) (by refine(?_:∀xs,O.d _≠O.l xs);intro _ h;cases h) (bq (α:=Int×V) (by rw[Xk];exact Xl (List.length_filter_le _ _) J.lk)) (Xu (λl=>some (O.d l)) eD)
  rw[pq (by rw[XF];exact lt4),Yl]at h;exact h
 have e7:ai (d+2) 12 (.a (.s (.a 17 (.v 0)) (.v 5)) (.i .a (.s (.a 17 (.v 0)) (.v 5)) (.m 2 (.a 17 (.v 0)) [.v 6]))) ρ σ4 .n ρ (σ4.set (A.yx .cF) D2++[.l (av (H.bz k++H.bz g))]):=by
  have hh:A.yx .cF≠A.yx .aJ:=λe=>by have:=X.Vm.eT .cF .aJ trivial trivial e;cases this
  exact bh (bX (bi (eH X4.Vm rfl rfl rfl) (af rfl) (Cc (X4.Vm.aZ .cF trivial) kk))
   (dn (eH X4.Vm rfl rfl rfl) (sJ (X4.Vm.aZ .cF trivial) rfl rfl) (Xh (af rfl)) rfl (Sx (X4.Vm.aZ .cF trivial) gk J.lk)) ad)
   (kW (dv (af rfl) rfl (bO _ _ (by rw[aV hh];exact dy X4.Vm)) rfl) (af rfl) st)
 exact dh _ _ (cI (f:=Aw) (fl:=.r (.b true)) rfl rfl (ao (Hg _ X J.le r rfl rfl rfl rfl)
  (ao (bh (bQ (eH X1.Vm rfl rfl rfl) (X1.Vm.aZ .un trivial) rfl (ac.ah (af rfl) (Xh (af rfl))) hm) ba)
  (ao (bC (aY (af rfl) aq rfl trivial) aP)
  (ao (bh (af rfl) (gQ rfl rfl (da ba (da ba gR))))
  (ao e5 (ao e6 (ao e7 (be (bM aq)))))))))) X5 (((F1.fT (F2.fT (F3.fT F4))).fT (λi hi=>by rw[aV ((X4.d9 i hi).2 .cF trivial)])).fT λi hi=>Ye (by rw[XF];exact(X4.d9 i hi).1)) rfl
end
noncomputable abbrev d7:=List (Nat×Nat×Rs)
variable {E:d7}
inductive Cs(E:d7)(F:List Nat)(i:Nat):Nat->Nat->Nat->Prop
 |kX (x:Nat):Cs E F i 0 x x
 |mJ {n x a b:Nat} {r:Rs} {j:Nat} (h:Cs E F i n x a) (hf:j∈F) (hj:j < i) (he:E[j]? =some (a,b,r)):Cs E F i (n+1) x b
 |nV {n x a b:Nat} {r:Rs} {j:Nat} (h:Cs E F i n x b) (hf:j∈F) (hj:j < i) (he:E[j]? =some (a,b,r)):Cs E F i (n+1) x a
noncomputable def Cn(E:d7)(F:List Nat)(i x y:Nat):Prop:=∃n,n<=5/\Cs E F i n x y
section
variable {E':d7}{F':List Nat}{i i' z n m:Nat}
theorem Cs.yD(hE:E <+:E')(hF:∀j∈F,j∈F')(hi:i<=i')(h:Cs E F i n x y):Cs E' F' i' n x y:=by
 have g:∀{j:Nat} {e:Nat×Nat×Rs},E[j]? =some e->E'[j]? =some e:=λ{j e} h=>by refine aT hE ?_;clear hE;intro t q1;subst q1;exact bO _ _ h
 induction h with
 |kX=>exact .kX _
 |mJ _ hf hj he ih=>exact .mJ ih (hF _ hf) (XB hj hi) (g he)
 |nV _ hf hj he ih=>exact .nV ih (hF _ hf) (XB hj hi) (g he)
theorem Cs.vP(h:Cs E F i n x y)(h2:Cs E F i m y z):Cs E F i (n+m) x z:=by
 induction h2 with
 |kX=>exact h
 |mJ _ hf hj he ih=>exact .mJ (ih h) hf hj he
 |nV _ hf hj he ih=>exact .nV (ih h) hf hj he
theorem Cs.yE(h:Cs E F i n x y):Cs E F i n y x:=by
 induction h with
 |kX=>exact .kX _
 |mJ _ hf hj he ih=>exact Nat.add_comm _ _▸(Cs.nV (.kX _) hf hj he).vP ih
 |nV _ hf hj he ih=>exact Nat.add_comm _ _▸(Cs.mJ (.kX _) hf hj he).vP ih
theorem Cn.C8(hE:E <+:E')(hF:∀j∈F,j∈F')(hi:i<=i')(h:Cn E F i x y):Cn E' F' i' x y:=h.elim λn h=>⟨n,h.1,h.2.yD hE hF hi⟩
end
noncomputable def Rs.eB:Rs->Bool
 | .iX=>true
 |_=>false
noncomputable def dT(E:d7):Nat:=E.countP λe=>e.2.2.eB
noncomputable def Rs.ok(c:Nat):Rs->Prop
 | .mT w=>im w/\w.length<=20
 | .lj x y=>x < c/\y < c
 | .iX=>True
noncomputable def Bt:Nat->Nat
 |0=>4
 |t+1=>2 * Bt t
theorem KS{t}:Bt (t+1)=2 * Bt t:=rfl
theorem KT:∀t,t<=5->Bt t<=128:=by decide
theorem Vn(t:Nat):Bt t<=Bt (t+1):=by simp only[KS];exact Nat.le_mul_of_pos_left _ (by decide)
noncomputable def Ms(H:HS)(e:List KV×V):Prop:=∃m,m < H.KE/\e.2=.i (m:Nat)/\∃rs:List Nat,e.1=.inl (bv m)::rs.map (λr:Nat=>.inr (r:Int))/\(aN m).map H.rt=rs.map H.rt
noncomputable def mG(H:HS)(r:Nat):Nat:=(List.range H.KE).countP λx=>decide (H.rt x=r)
noncomputable def kE(a b:Nat):Nat:=if a=b then 1 else 0
structure HG(H:HS)(m:Nat):Prop where
 VN:HI H
 nk:∀x,x < H.KE->H.rt x∈H.bW
 kt:H.bW.length+H.bL.length<=6
 c1:0 < H.KE
 WH:H.jq.length<=H.bL.length
 ed:H.aM.length<=m+H.bL.length
 lQ:m<=100
 lo:∀x,x < H.KE->4 * (H.cU x).length<=Bt H.bL.length
 ab:∀r∈H.bW,(H.bz r).length<=Bt H.bL.length/\∀x∈H.bz r,x < H.KE
 wa:H.dQ.length<=Bt H.bL.length/\∀x∈H.dQ,x < H.KE
 kw:H.dH.length+H.dQ.length<=20+128 * H.bL.length
 lm:∀x,x < H.KE->x∈H.cU (H.rt x)
 lc:∀x,x < H.KE->∀y∈H.cU x,y < H.KE
 fo:∀j∈H.bL,j < H.aM.length
 eg:∀e∈H.aM,e.1 < H.KE/\e.2.1 < H.KE/\e.2.2.ok H.KE
 cn:∀x y,x < H.KE->y < H.KE->H.rt x=H.rt y->∃n,n+1<=mG H (H.rt x)/\Cs H.aM H.bL H.aM.length n x y
 al:∀e∈H.aM,H.rt e.1=H.rt e.2.1
 lk:∀(j a b:Nat),H.aM[j]? =some (a,b,.iX)->bv a=bv b/\(aN a).length=(aN b).length/\∀p∈(aN a).zip (aN b),Cn H.aM H.bL j p.1 p.2
 kn:∀e∈H.dH,Ms H e
 nl:dT H.aM<=kE (H.rt 2) (H.rt 3)+kE (H.rt 4) (H.rt 5)
section
variable {d n a b i m k g:Nat}{v:V}{o:O}{S:Nat->Prop}{e:Ex}{r:Rs}
theorem HG.LY(G:HG H m):1<=H.bW.length:=List.length_pos_of_mem (G.nk 0 G.c1)
theorem HG.t5(G:HG H m):H.bL.length<=5:=by have:=G.kt;have:=G.LY;lia
theorem HG.bt(G:HG H m):Bt H.bL.length<=128:=KT _ G.t5
theorem By{l l':List α}(h:l.length<=n)(h':l'.length<=n)(hn:n<=128):(l++l').length<=300:=by rw[Xn];lia
theorem HG.y0(G:HG H m)(hx:x < H.KE)(hy:y < H.KE)(h:H.rt x=H.rt y):Cn H.aM H.bL H.aM.length x y:=by
 refine az (G.cn x y hx hy h) λn h1 h2=>?_
 have h3:mG H (H.rt x)<=(List.range H.KE).length:=List.countP_le_length
 rw[XO]at h3
 exact aC n (Nat.le_of_succ_le_succ (Xl h1 (Xl h3 G.VN.c6))) h2
theorem HG.WQ(G:HG H m)(ha:a < H.KE)(hb:b < H.KE):y' H a b where
 Ws:=G.VN
 ha:=ha
 hb:=hb
 nk:=G.nk
 le:=by have:=G.ed;have:=G.lQ;have:=G.t5;lia
 lf:=Xl G.t5 (by decide)
 lm:=Xl G.WH (Xl G.t5 (by decide))
 ll:=λx y hx hy=>By (Xl (Nat.le_mul_of_pos_left _ (by decide)) (G.lo x hx)) (Xl (Nat.le_mul_of_pos_left _ (by decide)) (G.lo y hy)) G.bt
 la:=λx hx y hy=>By (G.ab x hx).1 (G.ab y hy).1 G.bt
 lw:=λx hx=>By G.wa.1 (G.ab x hx).1 G.bt
 lk:=by have:=G.kt;exact bT (bP this rfl)
theorem BA(E:d7)(e:Nat×Nat×Rs):dT (E++[e])=dT E+if e.2.2.eB then 1 else 0:=by unfold dT;rw[List.countP_append,List.countP_singleton]
theorem w9{e:Nat×Nat×Rs}{p:Nat×Nat×Rs->Prop}(h:∀q∈E,p q)(he:p e):∀q∈E++[e],p q:=λq hq=>(XD hq).elim (h q) λh=>by rw[Xy h];exact he
theorem GN{E:List α}{e q:α}{j:Nat}(h:(E++[e])[j]? =some q):E[j]? =some q∨(j=E.length/\q=e):=by
 rcases Nat.lt_or_ge j E.length with hj |hj
 ·rw[Ye hj]at h;exact .inl h
 ·rw[YK hj]at h
  cases hd:j - E.length with
  |zero=>rw[hd]at h;cases h;exact .inr ⟨Nat.le_antisymm (Nat.le_of_sub_eq_zero hd) hj,rfl⟩
  |succ=>rw[hd]at h;cases h
theorem HG.LW(G:HG H m)(ha:a < H.KE)(hb:b < H.KE)(hr:r.ok H.KE)(hl:r.eB=false)(hm:m+1<=100)(hab:H.rt a=H.rt b):HG (H.v6 a b r) (m+1):=
 have pr:H.aM <+:H.aM++[(a,b,r)]:=Yd _ _
 {G with
 VN:=G.VN.v4 a b r
 lQ:=hm
 ed:=by refine(?_:(H.aM++[_]).length<=_+H.bL.length);rw[Xn];have:=G.ed;refine(?_:H.aM.length+1<=m+1+H.bL.length);lia
 fo:=λj hj=>XB (G.fo j hj) (by refine(?_:_<=(H.aM++[_]).length);rw[Xn];exact XJ ..)
 eg:=w9 G.eg ⟨ha,hb,hr⟩
 cn:=λx y hx hy h=>(G.cn x y hx hy h).elim λn h=>aC n h.1 (h.2.yD pr (λ_ h=>h) pr.length_le)
 al:=w9 G.al hab
 lk:=λj a' b' h=>(GN h).elim (λh=>let⟨h1,h2,h3⟩:=G.lk j a' b' h;⟨h1,h2,λp hp=>(h3 p hp).C8 pr (λ_ h=>h) (Xp _)⟩) λh=>by have e:Rs.iX=r:=Xu (λe=>e.2.2) h.2;rw[<-e]at hl;cases hl
 kn:=G.kn
 nl:=by refine(?_:dT (H.aM++[_])<=_);rw[BA,hl];exact G.nl}
noncomputable def gl(k g x:Nat):Nat:=if x=g then k else x
theorem VC:(H.oj a b r k g).rt=λx=>gl k g (H.rt x):=rfl
theorem FR(x y:Nat):kE x y<=kE (gl k g x) (gl k g y):=by
 unfold kE
 by_cases h:x=y
 ·rw[Xr h,h,Xr rfl];exact Xp _
 ·rw[Xv h];exact Xo _
theorem HA(ha:a < 6)(hb:b < 6)(h:bv a=bv b)(hn:a≠b):(a=2/\b=3)∨(a=3/\b=2)∨(a=4/\b=5)∨(a=5/\b=4):=by
 have key:∀a:Fin 6,∀b:Fin 6,bv a=bv b->a≠b->(a.1=2/\b.1=3)∨(a.1=3/\b.1=2)∨(a.1=4/\b.1=5)∨(a.1=5/\b.1=4):=by decide
 exact key ⟨a,ha⟩ ⟨b,hb⟩ h λe=>hn (Xu Fin.val e)
theorem OJ{l:List Nat}{p q s:Nat->Bool}(hp:∀z,p z=true->s z=true)(hq:∀z,q z=true->s z=true)(hn:∀z,p z=true->q z=true->False):l.countP p+l.countP q<=l.countP s:=by
 induction l with
 |nil=>exact Xp _
 |cons z l ih=>
  rw[List.countP_cons,List.countP_cons,List.countP_cons]
  have h1:=hp z;have h2:=hq z;have h3:=hn z
  cases h4:p z<;>cases h5:q z<;>cases h6:s z<;>simp_all<;>lia
theorem HG.LX(G:HG H m)(ha:a < H.KE)(hb:b < H.KE)(hr:r.ok H.KE)(hm':m<=m')(hm:m'<=100)(hmm:r.eB=true∨m+1<=m')
  (hlk:r.eB=true->bv a=bv b/\(aN a).length=(aN b).length/\∀p∈(aN a).zip (aN b),Cn H.aM H.bL H.aM.length p.1 p.2)
  (ek:min (H.rt a) (H.rt b)=k) (eg:max (H.rt a) (H.rt b)=g) (hlt:k < g):HG (H.oj a b r k g) m':=by
 have I:=G.VN
 have hne:H.rt a≠H.rt b:=λe=>by rw[e,Nat.min_self]at ek;rw[e,Nat.max_self]at eg;exact XH hlt (ek.symm.trans eg)
 have ends:(H.rt a=k/\H.rt b=g)∨(H.rt a=g/\H.rt b=k):=by
  rcases Nat.le_total (H.rt a) (H.rt b)with h |h
  ·rw[Nat.min_eq_left h]at ek;rw[Nat.max_eq_right h]at eg;exact .inl ⟨ek,eg⟩
  ·rw[Nat.min_eq_right h]at ek;rw[Nat.max_eq_left h]at eg;exact .inr ⟨eg,ek⟩
 have kx:∃x,x < H.KE/\H.rt x=k:=ends.elim (λh=>aC a ha h.1) λh=>aC b hb h.2
 have gx:∃x,x < H.KE/\H.rt x=g:=ends.elim (λh=>aC b hb h.2) λh=>aC a ha h.1
 refine az kx ?_;clear kx;intro xk xkc xke
 refine az gx ?_;clear gx;intro xg xgc xge
 have kk:k∈H.bW:=xke▸G.nk xk xkc
 have gk:g∈H.bW:=xge▸G.nk xg xgc
 have kc:k < H.KE:=xke▸I.rc xkc
 have gc:g < H.KE:=xge▸I.rc xgc
 have rr:∀x,x < H.KE->H.rt (H.rt x)=H.rt x:=λx h=>I.iS _ (I.rc h) (I.jp x h)
 have rk:H.rt k=k:=by have:=rr xk xkc;rwa [xke]at this
 have rg:H.rt g=g:=by have:=rr xg xgc;rwa [xge]at this
 have uk:H.ua k=k:=by have:=I.jp xk xkc;rwa [xke]at this
 have pr:H.aM <+:H.aM++[(a,b,r)]:=Yd _ _
 have fi:∀j∈H.bL,j∈H.bL++[H.aM.length]:=λj h=>YA _ h
 have up:∀{i i' x y:Nat},i<=i'->Cn H.aM H.bL i x y->Cn (H.aM++[(a,b,r)]) (H.bL++[H.aM.length]) i' x y:=λhi h=>h.C8 pr fi hi
 have us:∀{i i' n x y:Nat},i<=i'->Cs H.aM H.bL i n x y->Cs (H.aM++[(a,b,r)]) (H.bL++[H.aM.length]) i' n x y:=λhi h=>h.yD pr fi hi
 have gg:gl k g (H.rt a)=gl k g (H.rt b):=by
  unfold gl
  rcases ends with⟨e1,e2⟩ | ⟨e1,e2⟩
  ·rw[e1,e2,Xr rfl,Xv (XH hlt)]
  ·rw[e1,e2,Xr rfl,Xv (XH hlt)]
 have el:(H.aM++[(a,b,r)])[H.aM.length]? =some (a,b,r):=by rw[YK (Xp _),Nat.sub_self];rfl
 have lE:(H.aM++[(a,b,r)]).length=H.aM.length+1:=Xn
 have lF:(H.bL++[H.aM.length]).length=H.bL.length+1:=Xn
 have fm:H.aM.length∈H.bL++[H.aM.length]:=YT _ (Yg rfl)
 have ll:H.aM.length < (H.aM++[(a,b,r)]).length:=by rw[lE];exact Za _
 have cab:Cs (H.aM++[(a,b,r)]) (H.bL++[H.aM.length]) (H.aM++[(a,b,r)]).length 1 a b:=.mJ (.kX _) fm ll el
 have kf:(H.bW.filter λr=>decide (r≠g)).length+1<=H.bW.length:=List.length_filter_lt_length_iff_exists.mpr (aC g gk (by simp))
 have bt:Bt H.bL.length+Bt H.bL.length=Bt (H.bL++[H.aM.length]).length:=by rw[lF];refine(?_:_=2 * _);rw[Nat.two_mul]
 have bu:Bt H.bL.length<=Bt (H.bL++[H.aM.length]).length:=by rw[<-bt];exact XJ ..
 have J:=(I.v4 a b r).LZ hlt gc rk rg uk
 refine{VN:=⟨J.c6,J.ld,J.lS,J.iS,J.lR,J.jp,J.cb⟩,nk:=?nk,kt:=?kt,c1:=G.c1,WH:=?mg,ed:=?ed,lQ:=hm,lo:=?lo,ab:=?ab,wa:=?wa,kw:=?kw,lm:=?lm,lc:=?lc,fo:=?fo,eg:=w9 G.eg ⟨ha,hb,hr⟩,al:=w9 (λe he=>Xu (gl k g) (G.al e he)) ?al,cn:=?cn,lk:=?lk,kn:=?kn,nl:=?nl}
 case nk=>
  intro x hx
  refine List.mem_filter.mpr ⟨?_,?_⟩
  ·show gl k g (H.rt x)∈H.bW
   unfold gl;split;exact kk;exact G.nk x hx
  ·show decide (gl k g (H.rt x)≠g)=true
   unfold gl;split<;>rename_i h
   ·exact XL (XH hlt)
   ·exact XL h
 case kt=>refine(?_:(H.bW.filter λr=>decide (r≠g)).length+(H.bL++[_]).length<=6);rw[lF];have:=G.kt;lia
 case mg=>refine(?_:(H.jq++[(k,g)]).length<=(H.bL++[_]).length);rw[lF,Xn];exact Yx G.WH
 case ed=>refine(?_:(H.aM++[_]).length<=_+(H.bL++[_]).length);rw[lF,lE];have:=G.ed;lia
 case lo=>
  intro x hx
  refine(?_:4 * (cm H.cU k (H.cU k++H.cU g) x).length<=_)
  by_cases e:x=k
  ·rw[e,gq,Xn,Nat.mul_add];exact Xl (Y3 (G.lo k kc) (G.lo g gc)) (XW bt)
  ·rw[eS e];exact Xl (G.lo x hx) bu
 case ab=>
  intro x hx
  have hxk:x∈H.bW:=(Zc hx).1
  have hxg:x≠g:=by have:=(Zc hx).2;simpa using this
  refine(?_:(cm (cm H.bz k (H.bz k++H.bz g)) g [] x).length<=_/\∀y∈cm (cm H.bz k (H.bz k++H.bz g)) g [] x,_)
  rw[eS hxg]
  by_cases e:x=k
  ·rw[e,gq,Xn]
   exact bm (Xl (Y3 (G.ab k kk).1 (G.ab g gk).1) (XW bt)) (λy hy=>(XD hy).elim ((G.ab k kk).2 y) ((G.ab g gk).2 y))
  ·rw[eS e];exact bm (Xl (G.ab x hxk).1 bu) ((G.ab x hxk).2)
 case wa=>
  refine(?_:(H.dQ++H.bz g).length<=_/\∀x∈H.dQ++H.bz g,_)
  rw[Xn]
  exact bm (Xl (Y3 G.wa.1 (G.ab g gk).1) (XW bt)) (λy hy=>(XD hy).elim (G.wa.2 y) ((G.ab g gk).2 y))
 case kw=>refine(?_:H.dH.length+(H.dQ++H.bz g).length<=20+128 * (H.bL++[_]).length);rw[lF,Xn];have:=G.kw;have:=(G.ab g gk).1;have:=G.bt;lia
 case lm=>
  intro x hx
  refine(?_:x∈cm H.cU k (H.cU k++H.cU g) (gl k g (H.rt x)))
  unfold gl;split<;>rename_i h
  ·rw[gq,<-h];exact YT _ (G.lm x hx)
  ·by_cases e:H.rt x=k
   ·rw[e,gq,<-e];exact YA _ (G.lm x hx)
   ·rw[eS e];exact G.lm x hx
 case lc=>
  intro x hx y hy
  have hy:y∈cm H.cU k (H.cU k++H.cU g) x:=hy
  by_cases e:x=k
  ·rw[e,gq]at hy;exact(XD hy).elim (G.lc k kc y) (G.lc g gc y)
  ·rw[eS e]at hy;exact G.lc x hx y hy
 case fo=>exact λj hj=>(XD hj).elim (λh=>Nat.lt_trans (G.fo j h) ll) λh=>by rw[Xy h];exact ll
 case al=>exact gg
 case cn=>
  intro x y hx hy h
  have h:gl k g (H.rt x)=gl k g (H.rt y):=h
  have s1:∀r',mG H r'<=mG (H.oj a b r k g) (gl k g r'):=λr'=>List.countP_mono_left λz _ hz=>XL (by refine(?_:gl k g (H.rt z)=_);rw[XQ hz])
  have s2:mG H g+mG H k<=mG (H.oj a b r k g) k:=OJ (λz hz=>XL (by refine(?_:gl k g (H.rt z)=k);rw[XQ hz];exact Xr rfl)) (λz hz=>XL (by refine(?_:gl k g (H.rt z)=k);rw[XQ hz];exact Xv (XH hlt))) λz h1 h2=>XH hlt ((XQ h2).symm.trans (XQ h1))
  have old:∀{x y:Nat},x < H.KE->y < H.KE->H.rt x=H.rt y->∃n,n+1<=mG H (H.rt x)/\Cs (H.aM++[(a,b,r)]) (H.bL++[H.aM.length]) (H.aM++[(a,b,r)]).length n x y:=λhx hy h=>(G.cn _ _ hx hy h).elim λn q=>aC n q.1 (us (Yc ll) q.2)
  have kg:∀{x y:Nat},x < H.KE->y < H.KE->H.rt x=g->H.rt y=k->∃n,n+1<=mG (H.oj a b r k g) k/\Cs (H.aM++[(a,b,r)]) (H.bL++[H.aM.length]) (H.aM++[(a,b,r)]).length n x y:=λ{x y} hx hy h1 h2=>by
   have fin:∀{u v:Nat},u < H.KE->v < H.KE->H.rt u=g->H.rt v=k->Cs (H.aM++[(a,b,r)]) (H.bL++[H.aM.length]) (H.aM++[(a,b,r)]).length 1 u v->∃n,n+1<=mG (H.oj a b r k g) k/\Cs (H.aM++[(a,b,r)]) (H.bL++[H.aM.length]) (H.aM++[(a,b,r)]).length n x y:=λhu hv e1 e2 c1=>by
    refine az (old hx hu (h1.trans e1.symm)) λn1 l1 p1=>?_
    refine az (old hv hy (e2.trans h2.symm)) λn2 l2 p2=>?_
    rw[h1]at l1;rw[e2]at l2
    exact aC (n1+(1+n2)) (by lia) (p1.vP (c1.vP p2))
   rcases ends with⟨e1,e2⟩ | ⟨e1,e2⟩
   ·exact fin hb ha e2 e1 cab.yE
   ·exact fin ha hb e1 e2 cab
  have e:(H.oj a b r k g).rt x=gl k g (H.rt x):=rfl
  rw[e]
  by_cases h1:H.rt x=H.rt y
  ·refine az (old hx hy h1) λn l q=>?_;exact aC n (Xl l (s1 _)) q
  ·unfold gl at h
   by_cases h2:H.rt x=g
   ·have h3:H.rt y≠g:=λe=>h1 (h2.trans e.symm)
    rw[Xr h2,Xv h3]at h
    rw[show gl k g (H.rt x)=k from Xr h2]
    exact kg hx hy h2 h.symm
   ·by_cases h3:H.rt y=g
    ·rw[Xv h2,Xr h3]at h
     rw[show gl k g (H.rt x)=k from(Xv h2).trans h]
     refine az (kg hy hx h3 h) λn l q=>?_;exact aC n l q.yE
    ·rw[Xv h2,Xv h3]at h;exact absurd h h1
 case lk=>
  intro j a' b' h
  rcases GN (show(H.aM++[(a,b,r)])[j]? =_ from h)with h' | ⟨rfl,h'⟩
  ·refine cN (G.lk j a' b' h') λh1 h2 h3=>?_
   exact fy h1 h2 (λp hp=>up (Xp _) (h3 p hp))
  ·cases h'
   refine cN (hlk rfl) λh1 h2 h3=>?_
   exact fy h1 h2 (λp hp=>up (Xp _) (h3 p hp))
 case kn=>
  intro e he
  obtain⟨q,h1,h2,rs,h3,h4⟩:=G.kn e he
  refine⟨q,h1,h2,rs,h3,?_⟩
  have:=Xu (List.map (gl k g)) h4
  rw[XN,XN]at this
  exact this
 case nl=>
  refine(?_:dT (H.aM++[_])<=kE (gl k g (H.rt 2)) (gl k g (H.rt 3))+kE (gl k g (H.rt 4)) (gl k g (H.rt 5)))
  rw[BA]
  have h2:=FR (k:=k) (g:=g) (H.rt 2) (H.rt 3)
  have h4:=FR (k:=k) (g:=g) (H.rt 4) (H.rt 5)
  have nl:=G.nl
  refine(?_:_+(if r.eB=true then 1 else 0)<=_)
  cases hL:r.eB with
  |false=>exact Xl nl (Y3 h2 h4)
  |true=>
   refine cN (hlk hL) λp1 p2 p3=>?_
   have one:∀x y,H.rt x≠H.rt y->gl k g (H.rt x)=gl k g (H.rt y)->kE (H.rt x) (H.rt y)+1<=kE (gl k g (H.rt x)) (gl k g (H.rt y)):=λx y h h'=>by unfold kE;rw[Xv h,Xr h'];exact Xp _
   rcases HA (XB ha I.c6) (XB hb I.c6) p1 (λe=>hne (by rw[e]))with⟨rfl,rfl⟩ | ⟨rfl,rfl⟩ | ⟨rfl,rfl⟩ | ⟨rfl,rfl⟩
   ·have:=one 2 3 hne gg;simp only[if_true];exact Jt nl this h4
   ·have:=one 2 3 hne.symm gg.symm;simp only[if_true];exact Jt nl this h4
   ·have:=one 4 5 hne gg;simp only[if_true];exact Ju nl h2 this
   ·have:=one 4 5 hne.symm gg.symm;simp only[if_true];exact Ju nl h2 this
end
section
variable {d n a b i m k g:Nat}{v:V}{o:O}{S:Nat->Prop}{e:Ex}{r:Rs}
structure Hp(S:Nat->Prop)(c h m:Nat)(ms:Nat)(σ τ:aj):Prop where
 ex:∃A H,HX S A H τ/\HG H m/\H.KE=c/\A.yx .aJ=h/\H.bW.length * 300+H.dQ.length<=ms
 fm:Fm S σ τ
theorem JM(d:Nat)(X:HX S A H σ)(G:HG H m)(ha:a < H.KE)(hb:b < H.KE)(hr:r.ok H.KE)(hm':m<=m')(hm:m'<=100)(hmm:r.eB=false/\m+1=m'∨r.eB=true/\H.rt a≠H.rt b)
  (hlk:r.eB=true->bv a=bv b/\(aN a).length=(aN b).length/\∀p∈(aN a).zip (aN b),Cn H.aM H.bL H.aM.length p.1 p.2):
  ∃bo τ,aL (d+3) 26 [.o 2 (A.yx .aJ),.i a,.i b,r.gC] σ (.b bo) τ/\Hp S H.KE (A.yx .aJ) m' (H.bW.length * 300+H.dQ.length) σ τ:=by
 by_cases h:H.rt a=H.rt b
 ·refine c8 (Tl d X (G.WQ ha hb) r h) λτ h1 h2 h3=>?_
  refine bc (hmm.resolve_right λq=>q.2 h) λh4 q1=>?_;subst q1
  exact eE _ τ h1 (⟨(iu A _ h2 (G.LW ha hb hr h4 hm h) rfl rfl (Xp _)),h3⟩)
 ·have hlt:min (H.rt a) (H.rt b) < max (H.rt a) (H.rt b):=qGj h
  refine dj (Tj d X (G.WQ ha hb) r rfl rfl hlt) λA' τ h1 h2 h3 h4=>?_
  have G':=G.LX ha hb hr hm' hm (hmm.symm.imp (λq=>q.1) λq=>XW q.2) hlk rfl rfl hlt
  refine eE _ τ h1 (⟨(iu A' _ h2 G' rfl h4 ?_),h3⟩)
  have gk:max (H.rt a) (H.rt b)∈H.bW:=(Nat.le_total (H.rt a) (H.rt b)).elim (λq=>by rw[Nat.max_eq_right q];exact G.nk b hb) λq=>by rw[Nat.max_eq_left q];exact G.nk a ha
  have kf:(H.bW.filter λr=>decide (r≠max (H.rt a) (H.rt b))).length+1<=H.bW.length:=List.length_filter_lt_length_iff_exists.mpr (aC _ gk (by simp))
  have:=(G.ab _ gk).1
  have:=G.bt
  refine(?_:(H.bW.filter _).length * 300+(H.dQ++H.bz _).length<=_)
  rw[Xn]
  lia
theorem Tv(d:Nat)(X:HX S A H σ)(G:HG H m)(ha:a < H.KE)(hb:b < H.KE)(hr:r.ok H.KE)(hm:m+1<=100)(hl:r.eB=false):
  ∃v τ,aL (d+4) 25 [.o 2 (A.yx .aJ),.i a,.i b,r.gC] σ v τ/\Hp S H.KE (A.yx .aJ) (m+1) (H.bW.length * 300+H.dQ.length) σ τ:=by
 refine dY (JM d X G ha hb hr (Yj m) hm (.inl ⟨hl,rfl⟩) (λh=>by rw[hl]at h;cases h)) λbo τ h1 h2=>?_
 exact eE _ τ (cI (f:=Gl) rfl rfl (be (bM (bQ (af rfl) (dy X.Vm) rfl (ac.ah (af rfl) (ac.ah (af rfl) (Xh (af rfl)))) h1)))) h2
theorem zU[DecidableEq κ]{es:List (κ×V)}{q:κ}{u:V}(h:cA es q=some u):(q,u)∈es:=by
 unfold cA at h
 refine az (YE h) λe he hu=>?_
 have:=List.find?_some he
 have e1:e.1=q:=XQ this
 have:e=(q,u):=by rw[<-e1,<-hu]
 exact this▸List.mem_of_find?_eq_some he
theorem wU[DecidableEq κ]{es:List (κ×V)}{q:κ}{u:V}(h:cA es q=none):eC es q u=es++[(q,u)]:=by
 unfold eC
 rw[Xv]
 intro ha
 refine az (List.any_eq_true.mp ha) λe he hq=>?_
 unfold cA at h
 rw[Option.map_eq_none_iff,List.find?_eq_none]at h
 exact h e he hq
theorem HQ(d:Nat)(X:HX S A H σ)(I:HI H)(hx:x < H.KE){w:V}(p:Pr (dB 4 (.r (A.yx .fh)) [.t (.s (bv x)::(aN x).map λk=>V.i (H.rt k:Int)),.i x] σ) w σ')(hk:mf (iw σ (.r (A.yx .fh))) 4=true):
  ai (d+3) 12 (.a (.v 2) (.m 4 (.a 25 (.v 0)) [.m 34 (.v 0) [.v 1],.v 1])) (bf [.o 2 (A.yx .aJ),.i x]) σ .n (au (bf [.o 2 (A.yx .aJ),.i x]) 2 w) σ':=
 bh (dn (eH X.Vm rfl rfl rfl) hk (ac.ah (bQ (af rfl) (dy X.Vm) rfl (Xh (af rfl)) (Tx d X.Vm I hx)) (Xh (af rfl))) rfl p) ba
theorem qu(n:Nat)(X:HX S A H σ)(I:HI H)(hx:x < H.KE)(h0:ρ 0=some (.o 2 (A.yx .aJ)))(h1:ρ i=some (.i x)):Ev (d+2) (n+2) (.m 20 (.v 0) [.v i]) ρ σ (.i (H.rt x)) σ:=
 bQ (af h0) (dy X.Vm) rfl (Xh (af h1)) (yb d X.Vm I hx)
theorem FC(H:HS)(x:Nat):fu (.t H.dH) (.t (.s (bv x)::(aN x).map λk=>V.i (H.rt k:Int)))=some (cA H.dH (iM H x)):=by
 refine(?_:Option.map _ (eW _)=_)
 rw[Ho];rfl
theorem JN(d:Nat)(X:HX S A H σ)(I:HI H)(hx:x < H.KE)(hn:cA H.dH (iM H x)=none)(hl:H.dH.length<=aK):
  aL (d+4) 22 [.o 2 (A.yx .aJ),.i x] σ .n (σ.set (A.yx .fh) (.t (H.dH++[(iM H x,.i x)]))):=by
 refine bc (X.y5 (H.dH++[(iM H x,.i x)])) λX1 F1=>?_
 have ds:fO (.t H.dH) (.t (.s (bv x)::(aN x).map λk=>V.i (H.rt k:Int))) (.i x)=some (.t (H.dH++[(iM H x,.i x)])):=by
  refine(?_:Option.map _ (eW _)=_)
  rw[Ho,<-wU (u:=.i x) hn];rfl
 exact cI (f:=xh) (fl:=.n) rfl rfl (ao (HQ d X I hx (IV (X.Vm.aZ .fh trivial) (by intro _ h;cases h) hl (by refine(?_:fu (.t H.dH) _=_);rw[FC,hn]) ds) (sJ (X.Vm.aZ .fh trivial) rfl rfl))
  (Xi (bC (aY (qu _ X1 ⟨I.c6,I.ld,I.lS,I.iS,I.lR,I.jp,I.cb⟩ hx rfl rfl) (qu _ X1 ⟨I.c6,I.ld,I.lS,I.iS,I.lR,I.jp,I.cb⟩ hx rfl rfl) (by rw[mq];simp) (Xo _)) aP)))
theorem HY(I:HI H)(hx:x < H.KE):((aN x).map H.rt).map H.rt=(aN x).map H.rt:=by
 rw[XN]
 exact YU λk hk=>I.iS _ (I.rc (nt x hx k hk)) (I.jp k (nt x hx k hk))
theorem Hl(H:HS)(x:Nat):iM H x=.inl (bv x)::((aN x).map H.rt).map λr:Nat=>.inr (r:Int):=by unfold iM;rw[XN];rfl
theorem P7:∀{l l':List Nat},l.map (λr:Nat=>(Sum.inr (r:Int):KV))=l'.map (λr:Nat=>.inr (r:Int))->l=l':=λ{l l'} h=>
 (List.map_inj_right (f:=λr:Nat=>(Sum.inr (r:Int):KV)) (λx y (h:(Sum.inr (x:Int):KV)=.inr (y:Int))=>by cases h;rfl)).mp h
theorem Vf(G:HG H m):∀(l l':List Nat),(∀z∈l,z < H.KE)->(∀z∈l',z < H.KE)->l.map H.rt=l'.map H.rt->l.length=l'.length/\∀p∈l.zip l',Cn H.aM H.bL H.aM.length p.1 p.2:=λl l' h1 h2 h=>by
 have hl:l.length=l'.length:=by have:=Xu List.length h;rwa [Xk,Xk]at this
 refine bm hl (λp hp=>?_)
 refine aT (List.mem_iff_getElem?.mp hp) λi hi=>?_
 refine bc (List.getElem?_zip_eq_some.mp hi) λq1 q2=>?_
 have e:=Xu (·[i]?) h
 rw[Ys,Ys,q1,q2]at e
 exact G.y0 (h1 _ (Yi q1)) (h2 _ (Yi q2)) (Xs e)
theorem Ts(d:Nat)(X:HX S A H σ)(G:HG H m)(hx:x < H.KE)(hkw:H.dH.length+H.dQ.length+1<=20+128 * H.bL.length):
  ∃τ,aL (d+4) 22 [.o 2 (A.yx .aJ),.i x] σ .n τ/\Hp S H.KE (A.yx .aJ) m (H.bW.length * 300+H.dQ.length) σ τ:=by
 have I:=G.VN
 have hkl:H.dH.length<=aK:=by have:=G.t5;refine(?_:_<=1000000);lia
 cases hg:cA H.dH (iM H x)with
 |none=>
  refine bc (X.y5 (H.dH++[(iM H x,.i x)])) λX1 F1=>?_
  exact⟨_,JN d X I hx hg hkl,(iu A _ X1 ({G with
   VN:=⟨I.c6,I.ld,I.lS,I.iS,I.lR,I.jp,I.cb⟩
   kw:=by refine(?_:(H.dH++[_]).length+_<=_);rw[Xn];refine(?_:H.dH.length+1+H.dQ.length<=20+128 * H.bL.length);exact hX hkw
   kn:=λe he=>(XD he).elim (λh=>G.kn e h) λh=>by
    rw[Xy h]
    exact⟨x,hx,rfl,(aN x).map H.rt,Hl H x,(HY I hx).symm⟩}) rfl rfl (Xp _)),F1⟩
 |some w=>
  obtain⟨q,qc,rfl,rs,h1,h2⟩:=G.kn _ (zU hg)
  rw[Hl]at h1
  have hop:bv x=bv q:=Sum.inl.inj (List.cons.inj h1).1
  have hrs:(aN x).map H.rt=rs:=P7 (List.cons.inj h1).2
  rw[<-hrs,HY I hx]at h2
  refine bc (Vf G (aN q) (aN x) (nt q qc) (nt x hx) h2) λhl hz=>?_
  have st:=HQ d X I hx (IW (u:=.i x) (X.Vm.aZ .fh trivial) (by intro _ h;cases h) hkl (by refine(?_:fu (.t H.dH) _=_);rw[FC,hg])) (sJ (X.Vm.aZ .fh trivial) rfl rfl)
  by_cases e:H.rt q=H.rt x
  ·exact⟨σ,cI (f:=xh) (fl:=.n) rfl rfl (ao st (Xi (bC (aY (qu _ X I qc rfl rfl) (qu _ X I hx rfl rfl) (by rw[mq,e];simp) (Xo _)) aP))),(iu A H X G rfl rfl (Xp _)),λ_ _=>rfl⟩
  ·refine dY (JM (r:=.iX) d X G qc hx trivial (Xp m) G.lQ (.inr ⟨rfl,e⟩) λ_=>⟨hop.symm,hl,hz⟩) λbo τ h3 h4=>?_
   exact aC τ (cI (f:=xh) (fl:=.n) rfl rfl (ao st (Xi (cW (aY (qu _ X I qc rfl rfl) (qu _ X I hx rfl rfl) (by rw[mq];simp[e]) (Xo _))
    (Xi (du (bQ (af rfl) (dy X.Vm) rfl (ac.ah (af rfl) (ac.ah (af rfl) (Xh (bI (Xh aq))))) h3))))))) h4
theorem IU{f:α->V}{l:List α}{x:α}(ha:σ[a]? =some (.l ((l++[x]).map f)))(h:l.length<=299):Pr (dB 2 (.r a) [] σ) (f x) (σ.set a (.l (l.map f))):=by
 have e:(l++[x]).map f=l.map f++[f x]:=XV
 rw[e]at ha
 have:=Ce ha List.getLast?_concat (bq (by rw[Xn,Xk];exact Yx h))
 rwa [List.dropLast_concat]at this
theorem Uj(d:Nat):∀(N:Nat) (A:Ad) (H:HS) (σ:aj) (ρ:aA),HX S A H σ->HG H m->H.bW.length * 300+H.dQ.length<=N->ρ 0=some (.o 2 (A.yx .aJ))->
  ∃τ ρ',ai (d+4) 12 (.w (.p .g (.b .l [.a 26 (.v 0)]) (.c (.i 0))) [.e (.m 31 (.v 0) [.m 2 (.a 26 (.v 0)) []])]) ρ σ .n ρ' τ/\Hp S H.KE (A.yx .aJ) m N σ τ:=by
 intro N
 induction N using Nat.strongRecOn with
 |_ N ih=>
  intro A H σ ρ X G hN h0
  have len:Ev (d+4) 29 (.b .l [.a 26 (.v 0)]) ρ σ (.i ((av H.dQ).length:Int)) σ:=ci rfl (Xh (eH X.Vm h0 rfl rfl)) (fB (X.Vm.aZ .eZ trivial) (bq (by rw[Xk];exact Xl G.wa.1 (Xl G.bt (by decide)))))
  rcases List.eq_nil_or_concat H.dQ with hw | ⟨w,x,hw⟩
  ·rw[hw]at len
   exact⟨σ,ρ,iY (aY len aq rfl trivial),(iu A H X G rfl rfl hN),λ_ _=>rfl⟩
  ·rw[List.concat_eq_append]at hw
   have hl:H.dQ.length=w.length+1:=by rw[hw,Xn];rfl
   have hx:x < H.KE:=G.wa.2 x (by rw[hw];exact YT _ (Yg rfl))
   have I:=G.VN
   have hb:=G.bt
   have hwa:=G.wa.1
   have hkw:=G.kw
   have h299:w.length<=299:=by lia
   have hat:σ[A.yx .eZ]? =some (.l (av (w++[x]))):=by rw[<-hw];exact X.Vm.aZ .eZ trivial
   refine bc (X.DB w) λX1 F1=>?_
   have G1:HG {H with dQ:=w} m:={G with VN:=⟨I.c6,I.ld,I.lS,I.iS,I.lR,I.jp,I.cb⟩,kn:=G.kn,wa:=⟨(qT (vi hl) hwa:w.length<=Bt H.bL.length),λy hy=>G.wa.2 y (by rw[hw];exact YA _ hy)⟩,kw:=(Jw hkw hl:H.dH.length+w.length<=20+128 * H.bL.length)}
   obtain⟨τ,h1,nn0,F2⟩:=Ts d X1 G1 hx (by refine(?_:H.dH.length+w.length+1<=20+128 * H.bL.length);lia);refine i8 nn0 ?_;clear nn0;intro A2 H2 X2 G2 c2 a2 m2
   have m2:H2.bW.length * 300+H2.dQ.length<=H.bW.length * 300+w.length:=m2
   have c2:H2.KE=H.KE:=c2
   obtain⟨τ',ρ',h3,nn0,F3⟩:=ih (H.bW.length * 300+w.length) (by lia) A2 H2 τ ρ X2 G2 m2 (by rw[a2];exact h0);refine i8 nn0 ?_;clear nn0;intro A3 H3 X3 G3 c3 a3 m3
   refine⟨τ',ρ',lZ (aY len aq ?_ trivial) (Xi (du (bQ (af h0) (dy X.Vm) rfl (Xh (dn (eH X.Vm h0 rfl rfl) (eI (X.Vm.aZ .eZ trivial) rfl) ac.an rfl (IU (x:=x) (l:=w) hat h299))) h1))) h3,(iu A3 H3 X3 G3 (c3.trans c2) (a3.trans a2) (Xl m3 (Xl (Yw (by rw[hl];exact Yj _) _) hN))),F1.fT (F2.fT F3)⟩
   refine(?_:some (decide ((0:Int) < ((av H.dQ).length:Int)))=some true)
   rw[Xk,hl];simp
theorem TG(d:Nat)(X:HX S A H σ)(G:HG H m):∃τ,aL (d+5) 27 [.o 2 (A.yx .aJ)] σ .n τ/\Hp S H.KE (A.yx .aJ) m (H.bW.length * 300+H.dQ.length) σ τ:=by
 refine dY (Uj d _ A H σ (bf [.o 2 (A.yx .aJ)]) X G (Xp _) rfl) λτ ρ' h1 h2=>?_
 exact aC τ (cI (f:=Gn) (fl:=.n) rfl rfl (Xi h1)) h2
end
section
variable {d n a b i m k g:Nat}{u v w:V}{o:O}{S:Nat->Prop}{e c:Ex}{es:List (Ex×Ex)}{vs:List (V×V)}{r:Rs}
theorem g9(f:α->β)(l:List α)(x:α):(l++[x]).map f=l.map f++[f x]:=XV
theorem w4(ha:σ[a]? =some o){q:Option V}(h:fu o w=some q):gW σ .i w (.r a)=some q.isSome:=by refine(?_:((σ[a]?).bind λo=>(fu o w).map (·.isSome))=_);rw[ha];refine(?_:Option.map _ (fu o w)=_);rw[h];rfl
theorem z5(ha:σ[a]? =some o){q:Option V}(h:fu o w=some q):gW σ .o w (.r a)=some (!q.isSome):=by refine(?_:Option.map _ (gW σ .i w (.r a))=_);rw[w4 ha h];rfl
noncomputable abbrev nd(es:List (Nat×V)):O:=.d (es.map λe=>((e.1:Int),e.2))
noncomputable def ng(es:List (Nat×V))(k:Nat):Option V:=(es.find? λe=>decide (e.1=k)).map (·.2)
theorem m0(es:List (Nat×V))(k:Nat):fu (nd es) (.i k)=some (ng es k):=by
 show some (cA _ _)=_
 congr 1
 unfold cA ng
 induction es with
 |nil=>rfl
 |cons e es ih=>
  rw[Xw,Zi,Zi]
  by_cases h:e.1=k
  ·simp[h]
  ·have:decide ((e.1:Int)=(k:Int))=false:=by simp;exact tb h
   rw[this,XU h];exact ih
theorem w8{es:List (Nat×V)}(v:V)(h:ng es k=none):fO (nd es) (.i k) v=some (nd (es++[(k,v)])):=by
 have h':=Xs (m0 es k)
 rw[h]at h'
 refine(?_:some (O.d (eC _ _ _))=_)
 rw[wU h'];exact Xu (λl=>some (O.d l)) (g9 _ es (k,v)).symm
theorem xM{es:List (Nat×V)}(h:k∉es.map (·.1)):ng es k=none:=by
 unfold ng
 rw[Option.map_eq_none_iff,List.find?_eq_none]
 intro e he hk
 exact h (Yt (aC e he (XQ hk)))
theorem xN{es:List (Nat×V)}(h:k∈es.map (·.1)):∃v,ng es k=some v/\(k,v)∈es:=by
 refine az (XY h) λe he hk=>?_
 cases hf:es.find? λe=>decide (e.1=k)with
 |none=>exact absurd (XL hk) (List.find?_eq_none.mp hf e he)
 |some q=>
  have h1:q.1=k:=XQ (List.find?_some (p:=λe:Nat×V=>decide (e.1=k)) hf)
  exact aC q.2 (by unfold ng;rw[hf];rfl) (h1▸List.mem_of_find?_eq_some hf)
theorem VE{es:List (Nat×V)}{k':Nat}:ng (es++[(k',v)]) k=(ng es k).or (if k'=k then some v else none):=by
 unfold ng
 rw[List.find?_append,Option.map_or]
 congr 1
 by_cases h:k'=k
 ·simp[h]
 ·simp[h]
noncomputable def cp(x:Nat):Tm:=.bS (bv x) ((aN x).map λj=>.bS (bv j) [])
noncomputable abbrev tr(B:List Nat):List (Nat×V):=B.map λk=>(k,.b true)
noncomputable def jx:List Nat->List Nat->List Nat->List Nat×List Nat
 |B,T,[]=>(B,T)
 |B,T,k::r=>if k∈B then jx B T r else jx (B++[k]) (T++[k]) r
theorem OO{B T k r}:jx B T (k::r)=if k∈B then jx B T r else jx (B++[k]) (T++[k]) r:=rfl
noncomputable def w5:Nat->List Nat->List Nat->Option (List Nat)
 |0,_,_=>none
 |n+1,B,T=>if B.length+T.length<=100 then match T.getLast? with
  |none=>some B
  |some t=>w5 n (jx B T.dropLast (aN t)).1 (jx B T.dropLast (aN t)).2
  else none
theorem Ik(B:List Nat)(k:Nat):(ng (tr B) k).isSome=decide (k∈B):=by
 have e:(tr B).map (·.1)=B:=by rw[XN];exact List.map_id _
 by_cases h:k∈B
 ·refine az (xN (es:=tr B) (k:=k) (by rw[e];exact h)) λv hv _=>?_
  rw[hv,XL h];rfl
 ·rw[xM (es:=tr B) (by rw[e];exact h),XU h];rfl
theorem OQ(l:List Nat):∀(B T:List Nat) (ρ:aA),B.length+T.length+2 * l.length<=300->ρ 2=some (.r σ.length)->ρ 3=some (.r (σ.length+1))->∃ρ',(∀j,j≠4->ρ' j=ρ j)/\
  bF d 10 (.v 4) [.i (.p .o (.v 4) (.v 2)) [.a (.s (.v 2) (.v 4)) (.c (.b true)),.e (.m 0 (.v 3) [.v 4])] []] (.bx ys) (av l) ρ (σ++[nd (tr B),.l (av T)]) .n ρ' (σ++[nd (tr (jx B T l).1),.l (av (jx B T l).2)]):=by
 induction l with
 |nil=>intro B T ρ _ _ _;exact aC ρ (λ_ _=>rfl) fF
 |cons k l ih=>
  intro B T ρ hl h2 h3
  rw[Xq]at hl
  have hin:∀n,Ev d (n+2) (.p .o (.v 4) (.v 2)) (au ρ 4 (.i k)) (σ++[nd (tr B),.l (av T)]) (.b (!decide (k∈B))) (σ++[nd (tr B),.l (av T)]):=λn=>
   aY (af (bw _ _ _)) (af h2) (by rw[z5 (lB _ _) (m0 _ _),Ik]) trivial
  by_cases hk:k∈B
  ·refine az (ih B T (au ρ 4 (.i k)) (by lia) h2 h3) λρ' h4 h5=>?_
   have e:jx B T (k::l)=jx B T l:=Xr hk
   rw[e]
   refine aC ρ' (λj hj=>(h4 j hj).trans (bR _ _ hj)) (fc (S:=.bx ys) (ρ':=au ρ 4 (.i k)) rfl (Xi (bC (by have:=hin 28;rw[XL hk]at this;exact this) aP)) trivial h5)
  ·refine az (ih (B++[k]) (T++[k]) (au ρ 4 (.i k)) (by rw[Xn,Xn];refine(?_:B.length+1+(T.length+1)+_<=_);lia) h2 h3) λρ' h4 h5=>?_
   have e:jx B T (k::l)=jx (B++[k]) (T++[k]) l:=Xv hk
   rw[e]
   have hn:ng (tr B) k=none:=by have:=Ik B k;rw[XU hk]at this;exact Option.not_isSome_iff_eq_none.mp (by rw[this];decide)
   have s1:lX (mF (.r σ.length) (.i k) (.b true) (σ++[nd (tr B),.l (av T)])) (σ++[nd (tr (B++[k])),.l (av T)]):=by
    have h:=mA (lB σ [nd (tr B),.l (av T)]) (by intro _ h;cases h) (bq (α:=Int×V) (by rw[Xk,Xk];exact bT (sZ hl))) (w8 (.b true) hn)
    rw[uu]at h
    have:tr B++[(k,V.b true)]=tr (B++[k]):=(g9 _ B k).symm
    rw[this]at h;exact h
   have s2:Pr (dB 0 (.r (σ.length+1)) [.i k] (σ++[nd (tr (B++[k])),.l (av T)])) .n (σ++[nd (tr (B++[k])),.l (av (T++[k]))]):=by
    have h:=kN (f:=λn:Nat=>V.i (n:Int)) k (kA σ [nd (tr (B++[k])),.l (av T)] 1) (cG (hX hl))
    rw[wS]at h;exact h
   exact aC ρ' (λj hj=>(h4 j hj).trans (bR _ _ hj)) (fc (S:=.bx ys) (ρ':=au ρ 4 (.i k)) rfl (Xi (cW (by have:=hin 28;rw[XU hk]at this;exact this)
    (ao (bh aq (kW (af (i:=2) h2) (af (bw _ _ _)) s1)) (Xi (du (dn (af (i:=3) h3) (eI (kA σ _ 1) rfl) (Xh (af (bw _ _ _))) rfl s2)))))) trivial h5)
theorem HR.gT(R:HR A H σ):σ[A.yx .dW]? =some (.a 0 [(10,.r (A.yx .eL)),(11,.r (A.yx .eU)),(12,.r (A.yx .gF)),(13,.r (A.yx .gE))]):=R.aZ .dW trivial
theorem OP(I:HI H):∀(l B T:List Nat),(∀z∈l,z < H.KE)->(∀z∈T,z < H.KE)->∀z∈(jx B T l).2,z < H.KE:=by
 intro l
 induction l with
 |nil=>intro B T _ h;exact h
 |cons k l ih=>
  intro B T h1 h2
  rw[OO]
  split
  ·exact ih B T (λz hz=>h1 z (XA _ hz)) h2
  ·exact ih _ _ (λz hz=>h1 z (XA _ hz)) λz hz=>(XD hz).elim (h2 z) λh=>by rw[Xy h];exact h1 k (Xz ..)
noncomputable def UU:List St:=match xe.dZ with | [_,.w _ b,_,_,_]=>b |_=>[]
theorem OR(d:Nat)(R:HR A H σ)(I:HI H):∀(N:Nat) (B T L:List Nat) (ρ:aA),w5 N B T=some L->(∀z∈T,z < H.KE)->ρ 0=some (.o 0 (A.yx .dW))->ρ 2=some (.r σ.length)->ρ 3=some (.r (σ.length+1))->
  ∃ρ',(∀j,j≠4->ρ' j=ρ j)/\ai (d+1) 12 (.w (.p .g (.b .l [.v 3]) (.c (.i 0))) UU) ρ (σ++[nd (tr B),.l (av T)]) .n ρ' (σ++[nd (tr L),.l []]):=by
 intro N
 induction N with
 |zero=>intro B T L ρ h;cases h
 |succ N ih=>
  intro B T L ρ h hT h0 h2 h3
  unfold w5 at h
  split at h
  case isFalse=>cases h
  rename_i hl
  have len:Ev (d+1) 29 (.b .l [.v 3]) ρ (σ++[nd (tr B),.l (av T)]) (.i ((av T).length:Int)) (σ++[nd (tr B),.l (av T)]):=ci rfl (Xh (af h3)) (fB (kA σ _ 1) (bq (by rw[Xk];exact cG (bP hl rfl))))
  rcases List.eq_nil_or_concat T with rfl | ⟨T',t,rfl⟩
  ·cases h
   exact aC ρ (λ_ _=>rfl) (iY (aY len aq rfl trivial))
  ·rw[List.concat_eq_append]at *
   rw[List.getLast?_concat,List.dropLast_concat]at h
   have tc:t < H.KE:=hT t (YT _ (Yg rfl))
   have hk:=gZ t
   rw[Xn]at hl
   refine az (OQ (d:=d+1) (σ:=σ) (ys:=av (aN t)) (aN t) B T' ρ (by lia) h2 h3) λρ1 g1 f1=>?_
   refine az (ih _ _ L ρ1 h (OP I _ _ _ (nt t tc) λz hz=>hT z (YA _ hz)) ((g1 0 (by decide)).trans h0) ((g1 2 (by decide)).trans h2) ((g1 3 (by decide)).trans h3)) λρ2 g2 f2=>?_
   have pp:Pr (dB 2 (.r (σ.length+1)) [] (σ++[nd (tr B),.l (av (T'++[t]))])) (.i t) (σ++[nd (tr B),.l (av T')]):=by
    have h:=IU (f:=λn:Nat=>V.i (n:Int)) (x:=t) (l:=T') (kA σ [nd (tr B),.l (av (T'++[t]))] 1) (cG (gj (bP hl rfl)))
    rw[wS]at h;exact h
   have R1:=R.gy [nd (tr B),.l (av T')]
   refine aC ρ2 (λj hj=>(g2 j hj).trans (g1 j hj)) (lZ (aY len aq ?_ trivial) (Xi (fg (S:=.bx (av (aN t))) (jJ (bQ (af h0) (R.gy _).gT rfl (Xh (dn (af h3) (eI (kA σ _ 1) rfl) ac.an rfl pp)) (td d R1 I tc)) (bq (by rw[Xk];exact bP hk rfl))) f1)) f2)
   refine(?_:some (decide ((0:Int) < ((av (T'++[t])).length:Int)))=some true)
   rw[Xk,Xn];simp
noncomputable def u9:List Nat->List Nat->Bool
 |_,[]=>true
 |D,k::r=>(aN k).all (λj=>decide (j∈D)&&(aN j).isEmpty)&&decide (k∉D)&&u9 (D++[k]) r
theorem RH{D k r}:u9 D (k::r)=((aN k).all (λj=>decide (j∈D)&&(aN j).isEmpty)&&decide (k∉D)&&u9 (D++[k]) r):=rfl
noncomputable abbrev md(D:List Nat):List (Nat×V):=D.map λk=>(k,(cp k).enc)
theorem Ih:∀{D:List Nat} {k:Nat},k∈D->ng (md D) k=some (cp k).enc:=λ{D k} h=>by
 refine az (xN (es:=md D) (k:=k) (by rw[XN];exact Yt (aC k h rfl))) λv h1 h2=>?_
 refine az (XY h2) λj hj e=>?_
 cases e;exact h1
theorem Ks{j:Nat}(h:(aN j).isEmpty=true):cp j=.bS (bv j) []:=by unfold cp;rw[Zo h];rfl
theorem Kr(x:Nat)(h:(aN x).all (λj=>(aN j).isEmpty)=true):(cp x).enc=.t (.s (bv x)::(aN x).map λj=>(cp j).enc):=by
 refine(?_:V.t (_::Tm.encs _)=_)
 rw[oK,XN]
 congr 2
 exact YU λj hj=>by rw[Ks (YG h j hj)];rfl
noncomputable def UV:List St:=match xe.dZ with | [_,_,_,.l _ _ b,_]=>b |_=>[]
theorem QZ(d:Nat){q:Nat}(I:HI H)(hq:q≠m):∀(L D:List Nat) (ρ:aA) (σ:aj),u9 D L=true->(∀z∈L,z < H.KE)->D.length+L.length<=100->HR A H σ->(∀s,H.ok s->A.yx s≠m)->σ[m]? =some (nd (md D))->σ[q]? =some (.l ys)->ρ 0=some (.o 0 (A.yx .dW))->ρ 5=some (.r m)->
  ∃ρ' τ,(∀j,j≠6->ρ' j=ρ j)/\bF (d+1) 11 (.v 6) UV (.cr q ys) (av L) ρ σ .n ρ' τ/\τ[m]? =some (nd (md (D++L)))/\∃g,τ=σ.set m (nd (md (D++L)))++g:=by
 intro L
 induction L with
 |nil=>intro D ρ σ _ _ _ R hm h1 h2 h0 h5;exact⟨ρ,σ,λ_ _=>rfl,fF,by rw[Yb];exact h1,[],by rw[Yb,Yb,qU h1]⟩
 |cons k L ih=>
  intro D ρ σ ho hc hl R hm h1 h2 h0 h5
  rw[RH,YD,YD]at ho
  refine bc ho ?_;clear ho;intro nn0 ok3;refine bc nn0 ?_;clear nn0;intro ok1 ok2
  have kc:=hc k (Xz ..)
  rw[Xq]at hl
  have hin:∀j∈aN k,j∈D/\(aN j).isEmpty=true:=λj hj=>by have:=YG ok1 j hj;rw[YD]at this;exact bm (XQ this.1) this.2
  let ρ1:=au ρ 6 (.i k)
  let G:aj:=[.l ((aN k).map λj=>(cp j).enc)]
  have o0:aD (av (aN k)):=bq (by rw[Xk];exact Xl (gZ k) (by decide))
  have hit:=gI (d:=d+1) (n:=27) (elt:=.s (.v 5) (.v 7)) (tg:=.v 7) (ρ:=ρ1) (σ:=σ) (S:=.bx (av (aN k))) (λ_=>rfl) (λ_=>trivial) (λj:Nat=>V.i (j:Int)) (λj=>(cp j).enc) (aN k)
   (λj hj=>aC _ rfl (bi (af h5) (af (bw _ _ _)) (mB h1 (by intro _ h;cases h) (by rw[m0,Ih (hin j hj).1])))) [] o0
  rw[XT]at hit
  have ev:Ev (d+1) 30 (.i .a (.t [.m 16 (.v 0) [.v 6]]) (.b .t [.o (.s (.v 5) (.v 7)) [.m (.v 7) (.e (.m 15 (.v 0) [.v 6])) []]])) ρ1 σ (cp k).enc (σ++G):=by
   rw[Kr k (List.all_eq_true.mpr λj hj=>(hin j hj).2)]
   exact bX (bI (Xh (bQ (af h0) R.gT rfl (Xh (af (bw _ _ _))) (vo d R I kc))))
    (ci rfl (Xh (dU (jJ (bQ (af h0) R.gT rfl (Xh (af (bw _ _ _))) (td d R I kc)) o0) hit)) (j2 aX (bq (by rw[Xk];exact Xl (gZ k) (by decide)))))
    (vf (xs:=[.s (bv k)]) (bq (by rw[Xn,Xk];exact Xl (Yw (gZ k) 1) (by decide))))
  have kn:ng (md D) k=none:=xM (by rw[XN];intro h;refine az (XY h) λj hj e=>?_;cases e;exact XQ ok2 hj)
  have lm:m < σ.length:=(XS h1).1
  have e1:md D++[(k,(cp k).enc)]=md (D++[k]):=(g9 _ D k).symm
  have s1:lX (mF (.r m) (.i k) (cp k).enc (σ++G)) (σ.set m (nd (md (D++[k])))++G):=by
   have h:=mA (bO _ G h1) (by intro _ h;cases h) (bq (α:=Int×V) (by rw[Xk,Xk];exact bT (bP hl rfl))) (w8 (cp k).enc kn)
   rw[pq lm,e1]at h;exact h
  have R':HR A H (σ.set m (nd (md (D++[k])))++G):=HR.gy ⟨R.eT,λs hs=>by rw[aV (λh=>hm s hs h.symm)];exact R.aZ s hs⟩ G
  obtain⟨ρ',τ,f1,f2,f3,g,f4⟩:=ih (D++[k]) ρ1 (σ.set m (nd (md (D++[k])))++G) ok3 (λz hz=>hc z (XA _ hz)) (by rw[Xn];refine(?_:D.length+1+_<=_);exact gj hl) R' hm (bO _ _ (cR h1)) (bO _ _ (by rw[aV hq.symm];exact h2)) h0 h5
  rw[XM]at f3 f4
  refine⟨ρ',τ,λj hj=>(f1 j hj).trans (bR _ _ hj),fc (S:=.cr q ys) (ρ':=ρ1) rfl (Xi (bh ev (kW (af (i:=5) h5) (af (bw _ _ _)) s1))) (bO _ _ (by rw[aV hq.symm];exact h2)) f2,f3,G++g,?_⟩
  rw[f4,pq (by rw[XF];exact lm),Yl,XM];rfl
noncomputable def j0(x:Nat):List Nat:=aN x|>.foldr (λk l=>if k∈l then l else if k=1 then l++[1]else k::l) [x] |> λl=>(l.filter (· ≠x))++[x]
theorem UW:∀x,x < 6->∃L,w5 5 [x] [x]=some L/\iP (L.map λk:Nat=>(k:Int))=((j0 x).map λk:Nat=>(k:Int))/\u9 [] (j0 x)=true/\(j0 x).getLast? =some x/\L.length<=3/\(j0 x).length<=3/\∀z∈j0 x,z<=x
 |0,_=>⟨[0],by decide⟩
 |1,_=>⟨[1],by decide⟩
 |2,_=>⟨[2,0],by decide⟩
 |3,_=>⟨[3,1],by decide⟩
 |4,_=>⟨[4,0,1],by decide⟩
 |5,_=>⟨[5,1,0],by decide⟩
 |x+6,h=>absurd h (Zb (YJ ..))
theorem Cz(d:Nat)(R:HR A H σ)(I:HI H)(hx:x < H.KE):aL (d+2) 9 [.o 0 (A.yx .dW),.i x] σ (cp x).enc σ:=by
 refine RC (UW x (XB hx I.c6)) λL t1 t2 t3 t4 t5 t6 t7=>?_
 let ρ1:=au (au (bf [.o 0 (A.yx .dW),.i x]) 2 (.r σ.length)) 3 (.r (σ.length+1))
 have g0:σ++[nd (tr [x])]++[.l (av [x])]=σ++[nd (tr [x]),.l (av [x])]:=XM _ _ _
 refine az (OR d R I 5 [x] [x] L ρ1 t1 (λz hz=>by rw[Xy hz];exact hx) rfl rfl rfl) λρ2 k2 w=>?_
 let σ2:aj:=σ++[nd (tr L),.l []]
 have l2:σ2.length=σ.length+2:=Xn
 let σ3:aj:=σ2++[nd (md [])]
 let σ4:aj:=σ3++[.l (av (j0 x))]
 have R2:HR A H σ2:=R.gy _
 have lt:∀s,H.ok s->A.yx s < σ.length:=λs hs=>R.lt hs
 have o3:σ3[σ.length]? =some (nd (tr L)):=bO _ _ (lB _ _)
 have srt:Pr (ik .o [.r σ.length] σ3) (.r σ3.length) σ4:=by
  have h:=SA o3 (by rw[Xk,Xk];exact vh (bP t5 rfl))
  have e:(((tr L).map λe=>((e.1:Int),e.2)).map (·.1))=L.map λk:Nat=>(k:Int):=by rw[XN,XN];rfl
  have e2:((j0 x).map λk:Nat=>(k:Int)).map V.i=av (j0 x):=by rw[XN];rfl
  rw[e,t2,e2]at h;exact h
 have l3:σ3.length=σ2.length+1:=Xn
 have q1:σ3.length≠σ2.length:=by rw[l3];exact Nat.succ_ne_self _
 have m4:σ4[σ2.length]? =some (nd (md [])):=bO _ _ aX
 obtain⟨ρ4,τ,f1,f2,f3,g,f4⟩:=QZ d (q:=σ3.length) (m:=σ2.length) (ys:=av (j0 x)) I q1 (j0 x) [] (au ρ2 5 (.r σ2.length)) σ4 t3 (λz hz=>YB (t7 z hz) hx) (by rw[XR];exact Xl (Yw t6 _) (by decide)) ((R2.gy _).gy _) (λs hs=>by have:=lt s hs;rw[l2];exact gM (d5 this)) m4 aX ((bR _ _ (by decide)).trans (k2 0 (by decide))) (bw _ _ _)
 rw[XT]at f3
 have fin:ng (md (j0 x)) x=some (cp x).enc:=Ih (List.mem_of_getLast? t4)
 refine fV (f:=xe) (ρ':=ρ4) rfl rfl (ao (bh (bI (ac.ah (yK (o:=nd (tr [x])) (tL (af rfl) aq yO) rfl) (Xh (dp (Xh (af rfl)))))) (gQ rfl rfl (da ba (da ba gR)))) ?_) (σ':=τ) ?_ ((cp x).lo_enc _)
 ·rw[Xn,show [nd (tr [x])].length=1 from rfl,show(σ++[nd (tr [x])]++[O.l [V.i x]])=σ++[nd (tr [x]),.l (av [x])] from g0]
  exact ao w (ao (bh pF ba) (ao (fg (S:=.cr σ3.length (av (j0 x))) (fe (ci rfl (Xh (af ((bR _ _ (by decide)).trans (k2 2 (by decide))))) srt) aX (bq (by rw[Xk];exact Xl t6 (by decide)))) f2)
   (be (bM (bi (af ((f1 5 (by decide)).trans (bw _ _ _))) (af ((f1 1 (by decide)).trans ((bR _ _ (by decide)).trans (k2 1 (by decide))))) (mB f3 (by intro _ h;cases h) (by rw[m0,fin])))))))
 ·rw[f4]
  have e:σ4=σ++([nd (tr L),.l []]++[nd (md [])]++[.l (av (j0 x))]):=by refine(?_:σ++_++_++_=_);rw[XM,XM,XM]
  rw[e,l2,wS,XM];exact Yd _ _
end
structure GP(p:Pp)(D Z:Nat):Prop where
 Wd:p.good
 Wo:p.dep<=D
 Wq:p.sz<=Z
section
variable {d n a b i j m k g q:Nat}{u v w:V}{o:O}{e c:Ex}{r:Rs}{p:Pp}
theorem xQ(x:Nat):im (bv x):=B4 (dR rfl) (dR rfl) (dR rfl) (dR rfl) x
theorem xR(x:Nat):(bv x).length=1:=B4 (P:=λl=>l.length=1) rfl rfl rfl rfl x
theorem QO:∀l:List Nat,Tm.goods (l.map λj=>.bS (bv j) []):=λl=>by induction l with |nil=>trivial |cons j l ih=>exact bm (⟨xQ j,trivial⟩) ih
theorem QN:∀l:List Nat,Tm.deps (l.map λj=>.bS (bv j) [])<=1:=λl=>by induction l with |nil=>exact Xo _ |cons j l ih=>exact Nat.max_le.mpr ⟨Xp _,ih⟩
theorem QP:∀l:List Nat,Tm.szs (l.map λj=>.bS (bv j) [])=5 * l.length:=λl=>by
 induction l with
 |nil=>rfl
 |cons j l ih=>refine(?_:(bv j).length+3+0+1+Tm.szs _=_);rw[ih,xR,Xq,Nat.mul_succ,Nat.add_comm]
theorem vD(x:Nat):(cp x).good:=⟨xQ x,QO _⟩
theorem vC(x:Nat):(cp x).dep<=2:=Yx (QN _)
theorem vE(x:Nat):(cp x).sz<=14:=by refine(?_:(bv x).length+3+Tm.szs _<=_);rw[QP,xR];have:=gZ x;lia
noncomputable def gJ:Rs->Pp
 | .mT w=>.cQ w
 | .lj x y=>.db [114] [([63,120],cp x),([63,121],cp y)]
 | .iX=>.cQ []
theorem IN{c:Nat}(h:r.ok c)(hl:r.eB=false):GP (gJ r) 4 100:=by
 cases r with
 |mT w=>exact⟨h.1,Nat.le_of_lt_succ (by decide:1 < 5),by have:=h.2;refine(?_:w.length+40<=100);exact ja this rfl⟩
 |lj x y=>
  have h1:=vC x;have h2:=vC y;have h3:=vE x;have h4:=vE y
  refine⟨⟨dR rfl,?_⟩,?_,?_⟩
  ·intro q hq
   rcases XC hq with rfl |hq
   ·exact bm (dR rfl) (vD x)
   ·rw[Xy hq];exact bm (dR rfl) (vD y)
  ·refine(?_:max (cp x).dep (max (cp y).dep 0)+1<=4);exact qGg h1 h2
  ·refine(?_:1+40+(2+(cp x).sz+5+(2+(cp y).sz+5+0))<=100);lia
 |iX=>cases hl
theorem Pz(R:HR A H σ)(hE:H.aM[j]? =some (a,b,r))(hl:H.aM.length<=300)(h0:ρ 0=some (.o 2 (A.yx .aJ)))(h1:ρ i=some (.i j)):Ev d (n+3) (.s (.a 23 (.v 0)) (.v i)) ρ σ (jU (a,b,r)) σ:=
 have hj:j < H.aM.length:=(XS hE).1
 bi (eH R h0 rfl rfl) (af h1) (dL (R.aZ .fH trivial) (gG (Yc (XB hj (Xl hl (by decide))))) (by unfold dS;rw[Xr (YR _)];refine(?_:(List.map jU _)[j]? =_);rw[Ys,hE];rfl))
theorem JO(d:Nat)(R:HR A H σ)(I:HI H)(hE:H.aM[j]? =some (a,b,r))(hl:H.aM.length<=300)(hr:r.ok H.KE)(hk:r.eB=false):aL (d+3) 30 [.o 2 (A.yx .aJ),.i j] σ (gJ r).enc σ:=by
 have s1:ai (d+2) 12 (.a (.v 2) (.s (.s (.a 23 (.v 0)) (.v 1)) (.c (.i 2)))) (bf [.o 2 (A.yx .aJ),.i j]) σ .n (au (bf [.o 2 (A.yx .aJ),.i j]) 2 r.gC) σ:=
  bh (bi (Pz R hE hl rfl rfl) aq (c9 (bg rfl) rfl)) ba
 cases r with
 |mT w=>exact cI (f:=AJ) (fl:=.r _) rfl rfl (ao s1 (be (cW (aY (bi (af rfl) aq (c9 (bg rfl) rfl)) aq rfl (Xo _)) (be (bM (bI (ac.ah aq (Xh (bi (af rfl) aq (c9 (bg rfl) rfl))))))))))
 |lj x y=>
  have hit:=gI (d:=d+2) (n:=27) (elt:=.t [.v 3,.m 38 (.a 21 (.v 0)) [.v 4]]) (tg:=.t [.v 3,.v 4]) (ρ:=au (bf [.o 2 (A.yx .aJ),.i j]) 2 (Rs.lj x y).gC) (σ:=σ)
   (S:=.bx [.t [.s [63,120],.i x],.t [.s [63,121],.i y]]) (λ_=>rfl) (λ_=>trivial) (λz:List Nat×Nat=>V.t [.s z.1,.i z.2]) (λz=>dG (z.1,cp z.2)) [([63,120],x),([63,121],y)]
   (λz hz=>aC _ rfl (bI (ac.ah (af rfl) (Xh (bQ (eH R rfl rfl rfl) R.gT rfl (Xh (af rfl)) (Cz d R I (by
    rcases XC hz with rfl |hz
    ·exact hr.1
    ·rw[Xy hz];exact hr.2))))))) [] (by simp only[aD,dz,bY,aK,Xn,Xq,XR,Xk]at *;lia)
  exact fV (f:=AJ) rfl rfl (ao s1 (ao (bC (aY (bi (af rfl) aq (c9 (bg rfl) rfl)) aq rfl (Xo _)) aP) (be (bM (bI (ac.ah aq (ac.ah (bi (af rfl) aq (c9 (bg rfl) rfl))
   (Xh (ci rfl (Xh (dU (jJ (bi (af rfl) aq (c9 (bg rfl) rfl)) (by simp only[aD,dz,bY,aK,Xn,Xq,XR,Xk]at *;lia)) hit)) (j2 aX (by simp only[aD,dz,bY,aK,Xn,Xq,XR,Xk]at *;lia)))))))))))
   (Yd _ _) ((gJ (.lj x y)).lo_enc _)
 |iX=>cases hk
noncomputable def iq:List Pp->List Pp
 |x::y::r=>.bG x y::iq r
 |_=>[]
theorem Hh{x}:iq [x]=[]:=rfl
noncomputable def i5:List Pp->List Pp
 |x::y::r=>i5 r
 |l=>l
theorem Qp{x}:i5 [x]=[x]:=rfl
theorem sH{P:List Pp->Prop}(h0:P [])(h1:∀x,P [x])(h2:∀x y r,P r->P (x::y::r)):∀l,P l
 | []=>h0
 | [x]=>h1 x
 |x::y::r=>h2 x y r (sH h0 h1 h2 r)
theorem Qo(l:List Pp):((List.range (l.length / 2)).map λi=>Pp.bG (l.getD (2 * i) (.cQ [])) (l.getD (2 * i+1) (.cQ [])))=iq l:=by
 induction l using sH with
 |h0=>rfl
 |h1 x=>simp[Hh]
 |h2 x y r ih=>
  have:(x::y::r).length / 2=r.length / 2+1:=by refine(?_:(r.length+2) / 2=_);exact Nat.add_div_right _ (by decide)
  rw[this,List.range_succ_eq_map,Xw,XN]
  exact Xu (List.cons _) ih
theorem Qq(l:List Pp):l.drop (l.length - l.length % 2)=i5 l:=by
 induction l using sH with
 |h0=>rfl
 |h1 x=>rfl
 |h2 x y r ih=>
  have e:(x::y::r).length % 2=r.length % 2:=Nat.add_mod_right r.length 2
  have e2:(x::y::r).length - r.length % 2=(r.length - r.length % 2)+2:=Nat.sub_add_comm (m:=2) (Nat.mod_le r.length 2)
  rw[e,e2];exact ih
noncomputable def kO(l:List Pp):Nat:=(l.map λp=>p.sz+10).sum
theorem SO(l:List Pp):kO (iq l++i5 l)=kO l:=by
 induction l using sH with
 |h0=>rfl
 |h1 x=>rfl
 |h2 x y r ih=>
  have ih:kO (iq r++i5 r)=kO r:=ih
  refine(?_:(x.sz+y.sz+10)+10+kO (iq r++i5 r)=x.sz+10+(y.sz+10+kO r))
  lia
theorem Hf(l:List Pp):(iq l++i5 l).length=(l.length+1) / 2:=by
 induction l using sH with
 |h0=>rfl
 |h1 x=>simp[Hh,Qp]
 |h2 x y r ih=>
  have ih:(iq r++i5 r).length=_:=ih
  refine(?_:(iq r++i5 r).length+1=(r.length+2+1) / 2);rw[ih];exact (Nat.add_div_right (r.length+1) (by decide)).symm
theorem Qk{l:List Pp}(h:∀p∈l,p.good/\p.dep<=D):∀p∈iq l++i5 l,p.good/\p.dep<=D+1:=by
 induction l using sH with
 |h0=>exact λ_ h=>nomatch h
 |h1 x=>intro p hp;exact bm ((h p hp).1) (YO (h p hp).2)
 |h2 x y r ih=>
  intro p hp
  have hx:=h x (Xz ..)
  have hy:=h y (XA _ (Xz ..))
  rcases XC (show p∈.bG x y::(iq r++i5 r) from hp)with rfl |hp
  ·exact bm (⟨hx.1,hy.1⟩) (Yx (Nat.max_le.mpr ⟨hx.2,hy.2⟩))
  ·exact ih (λp hp=>h p (XA _ (XA _ hp))) p hp
theorem Ap(hq:σ[q]? =some (.l (ps.map Pp.enc)))(hk:k < ps.length)(hl:ps.length<=100)(h3:ρ 3=some (.r q)){z:Int}(hz:z=k)(he:Ev d (n+1) e ρ σ (.i z) σ):Ev d (n+2) (.s (.v 3) e) ρ σ (ps.getD k (.cQ [])).enc σ:=by
 subst hz
 refine bi (af h3) he (dL hq (gG (Xl (Yc hk) (Xl hl (by decide)))) ?_)
 unfold dS
 rw[Xr (YR _)]
 refine(?_:(ps.map Pp.enc)[k]? =_)
 rw[Ys,List.getD_eq_getElem?_getD,Yo hk];rfl
theorem mw(hq:σ[q]? =some (.l (ps.map Pp.enc)))(hl:ps.length<=100)(h3:ρ 3=some (.r q)):Ev d (n+2) (.b .l [.v 3]) ρ σ (.i (ps.length:Nat)) σ:=by
 have h:=ci rfl (d:=d) (n:=n+1) (ρ:=ρ) (Xh (af h3)) (fB hq (bq (by rw[Xk];exact Xl hl (by decide))))
 rwa [Xk]at h
noncomputable def JW:List St:=match uF.dZ with | [_,.w _ b,_]=>b |_=>[]
theorem T9(hq:σ[q]? =some (.l (ps.map Pp.enc)))(h2:2<=ps.length)(hl:ps.length<=100)(h3:ρ 3=some (.r q)):∃ρ' g,(∀j,j≠3->j≠4->ρ' j=ρ j)/\ae d 11 JW ρ σ .n ρ' (σ++g)/\∃q',ρ' 3=some (.r q')/\(σ++g)[q']? =some (.l ((iq ps++i5 ps).map Pp.enc)):=by
 let G1:aj:=[.l ((iq ps).map Pp.enc)]
 let G2:aj:=[.l ((i5 ps).map Pp.enc)]
 let G3:aj:=[.l ((iq ps++i5 ps).map Pp.enc)]
 have hr:df 0 ((ps.length:Nat) - 1:Int) 2=(List.range (ps.length / 2)).map λi:Nat=>V.i (0+2 * (i:Int)):=by
  unfold df
  have:(((ps.length:Int) - 1 - 0+2 - 1) / 2).toNat=ps.length / 2:=by lia
  rw[this]
 have hit:=gI (d:=d) (n:=29) (elt:=.t [.c (.s [106,111,105,110]),.s (.v 3) (.v 5),.s (.v 3) (.i .a (.v 5) (.c (.i 1)))]) (tg:=.v 5) (ρ:=ρ) (σ:=σ) (S:=.bx (df 0 ((ps.length:Nat) - 1:Int) 2)) (λ_=>rfl) (λ_=>trivial)
  (λi:Nat=>V.i (0+2 * (i:Int))) (λi=>(Pp.bG (ps.getD (2 * i) (.cQ [])) (ps.getD (2 * i+1) (.cQ []))).enc) (List.range (ps.length / 2)) (λi hi=>aC _ rfl (by
   have hi:i < ps.length / 2:=Yv hi
   have h5:au ρ 5 (.i (0+2 * (i:Int))) 5=some (.i (0+2 * (i:Int))):=bw _ _ _
   exact bI (ac.ah aq (ac.ah (Ap (k:=2 * i) hq (by lia) hl h3 (by lia) (af h5)) (Xh (Ap (k:=2 * i+1) hq (by lia) hl h3 (by lia) (bX (af h5) aq iy))))))) [] (bq (by rw[XT,Xk,XO];lia))
 rw[XT,<-hr,show(List.range (ps.length / 2)).map (λi=>(Pp.bG (ps.getD (2 * i) (.cQ [])) (ps.getD (2 * i+1) (.cQ []))).enc)=(iq ps).map Pp.enc from by rw[<-Qo,XN];rfl]at hit
 have q1:=bO σ G1 hq
 have q2:=bO (σ++G1) G2 q1
 have lenj:(iq ps++i5 ps).length<=100:=by rw[Hf];lia
 have lp:(iq ps).length<=100:=by rw[Xn]at lenj;exact bT lenj
 have e1:Ev d 30 (.o (.t [.c (.s [106,111,105,110]),.s (.v 3) (.v 5),.s (.v 3) (.i .a (.v 5) (.c (.i 1)))]) [.m (.v 5) (.r [.c (.i 0),.i .s (.b .l [.v 3]) (.c (.i 1)),.c (.i 2)]) []]) ρ σ (.r σ.length) (σ++G1):=
  dU (DS (ac.ah aq (ac.ah (bX (mw hq hl h3) aq j1) (Xh aq))) (by unfold aK;lia) (by unfold aK bY;lia) (by unfold aK;lia)) hit
 have e2:Ev d 29 (.e (.v 3) (some (.i .s (.b .l [.v 3]) (.i .m (.b .l [.v 3]) (.c (.i 2))))) none) (au ρ 4 (.r σ.length)) (σ++G1) (.r (σ++G1).length) (σ++G1++G2):=by
  have h:=ji (d:=d) (n:=28) (ρ:=au ρ 4 (.r σ.length)) (σ:=σ++G1) (af (i:=3) h3) (bX (mw q1 hl h3) (bX (mw q1 hl h3) (aq (v:=.i 2)) (sU (by decide))) j1) (sT q1 (by unfold bY;lia) (bq (by rw[Xk];exact Xl hl (by decide))))
  have e:(((ps.length:Nat):Int) - ((ps.length:Nat):Int) % 2).toNat=ps.length - ps.length % 2:=qG8
  rw[e,<-List.map_drop,Qq]at h;exact h
 have e3:Pr (kB .a (.r σ.length) (.r (σ++G1).length) (σ++G1++G2)) (.r (σ++G1++G2).length) (σ++G1++G2++G3):=by
  have h:=pb (bO (σ++G1) G2 aX) aX (bq (by rw[<-XV,Xk];exact Xl lenj (by decide)))
  rw[<-XV]at h;exact h
 refine⟨au (au ρ 4 (.r σ.length)) 3 (.r (σ++G1++G2).length),G1++G2++G3,λj h3 h4=>by rw[bR _ _ h3,bR _ _ h4],?_,_,bw _ _ _,?_⟩
 ·rw[<-XM,<-XM]
  exact ao (bh e1 ba) (Xi (bh (bX (af (bw _ _ _)) e2 e3) ba))
 ·rw[<-XM,<-XM];exact aX
theorem Ua:∀(N:Nat) (ps:List Pp) (σ:aj) (ρ:aA) (q D:Nat),ps.length<=N->ps.length<=100->σ[q]? =some (.l (ps.map Pp.enc))->ρ 3=some (.r q)->(∀p∈ps,p.good/\p.dep<=D)->
  ∃ρ' g ps' q',(∀j,j≠3->j≠4->ρ' j=ρ j)/\ai d 12 (.w (.p .g (.b .l [.v 3]) (.c (.i 1))) JW) ρ σ .n ρ' (σ++g)/\ρ' 3=some (.r q')/\(σ++g)[q']? =some (.l (ps'.map Pp.enc))/\ps'.length<=1/\kO ps'=kO ps/\(ps=[]->ps'=[])/\(ps'.length=0->ps=[])/\∀p∈ps',p.good/\p.dep<=D+N:=by
 intro N
 induction N with
 |zero=>
  intro ps σ ρ q D h0 hl hq h3 hg
  obtain rfl:=Zf (Nat.le_zero.mp h0)
  exact BM ρ ([]) ([]) q (λ_ _ _=>rfl) (by rw[Yb];exact iY (aY (mw hq hl h3) aq rfl trivial)) h3 (by rw[Yb];exact hq) (Xo _) rfl id (λ_=>rfl) (λ_ h=>nomatch h)
 |succ N ih=>
  intro ps σ ρ q D h0 hl hq h3 hg
  by_cases h2:2<=ps.length
  ·obtain⟨ρ1,g1,k1,b1,q1,i1,s1⟩:=T9 (d:=d) hq h2 hl h3
   have hj:=Hf ps
   refine Ip (ih _ (σ++g1) ρ1 q1 (D+1) (by lia) (by lia) s1 i1 (Qk hg)) λρ2 g2 ps' q2 k2 b2 i2 s2 c1 c2 c3 c5 c4=>?_
   refine BM ρ2 (g1++g2) ps' q2 (λj hj hj'=>(k2 j hj hj').trans (k1 j hj hj')) ?_ i2 (by rw[<-XM];exact s2) c1 (c2.trans (SO ps)) (λh=>by rw[h]at h2;exact absurd h2 (by decide)) (λh=>absurd (Xu List.length (c5 h)) (by rw[hj,XR];lia)) (λp hp=>⟨(c4 p hp).1,by have:=(c4 p hp).2;exact Jr this⟩)
   rw[<-XM]
   exact lZ (aY (mw hq hl h3) aq (by refine(?_:some (decide ((1:Int) < ((ps.length:Nat):Int)))=_);rw[XL (by exact mD h2)]) trivial) b1 b2
  ·exact BM ρ ([]) ps q (λ_ _ _=>rfl) (by rw[Yb];exact iY (aY (mw hq hl h3) aq (by refine(?_:some (decide ((1:Int) < ((ps.length:Nat):Int)))=_);rw[XU (by exact x9 h2)]) trivial)) h3 (by rw[Yb];exact hq) (x5 h2) rfl id (λh=>Zf h) (λp hp=>⟨(hg p hp).1,Xl (hg p hp).2 (XJ ..)⟩)
theorem Tn(d:Nat)(R:HR A H σ)(I:HI H)(hx:x < H.KE)(hl:ps.length<=100)(hq:σ[q]? =some (.l (ps.map Pp.enc)))(hg:∀p∈ps,p.good/\p.dep<=D)(hD:3<=D):∃p,GP p (D+ps.length) (kO ps+60)/\aL (d+3) 31 [.o 2 (A.yx .aJ),.i x,.r q] σ p.enc σ:=by
 let G0:aj:=[.l (ps.map Pp.enc)]
 let ρ1:=au (bf [.o 2 (A.yx .aJ),.i x,.r q]) 3 (.r σ.length)
 refine Ip (Ua (d:=d+2) ps.length ps (σ++G0) ρ1 σ.length D (Xp _) hl aX rfl hg) λρ2 g ps' q2 k b i2 s2 c1 c2 c3 c5 c4=>?_
 have st:ai (d+2) 12 (.a (.v 3) (.b .c [.v 2])) (bf [.o 2 (A.yx .aJ),.i x,.r q]) σ .n ρ1 (σ++G0):=bh (ci rfl (Xh (af rfl)) (IT hq (bq (by rw[Xk];exact Xl hl (by decide))))) ba
 have px:σ <+:σ++G0++g:=by rw[XM];exact Yd _ _
 have R2:HR A H (σ++G0++g):=(R.gy _).gy _
 match ps',c1,s2,c2,c3,c5,c4 with
 | [],_,s2,c2,_,c5,_=>
  have e:=c5 rfl
  subst e
  exact aC (.cZ (cp x)) (⟨vD x,Xl (Yx (vC x)) (Xl hD (XJ ..)),by have:=vE x;refine(?_:(cp x).sz+40<=0+60);exact sX (ja this rfl)⟩) (fV (f:=uF) (ρ':=ρ2) rfl rfl (ao st (ao b (be (bM (jh (aY (mw s2 (Xo _) i2) aq rfl (Xo _))
   (bI (ac.ah aq (Xh (bQ (eH R2 (k 0 (by decide) (by decide)) rfl rfl) R2.gT rfl (Xh (af (k 1 (by decide) (by decide)))) (Cz d R2 I hx)))))))))) px ((Pp.cZ (cp x)).lo_enc _))
 | [p],_,s2,c2,_,_,c4=>
  have h:=c4 p (Yg rfl)
  have hs:p.sz+10=kO ps:=c2
  exact aC p (⟨h.1,h.2,bT (d5 (sY hs))⟩) (fV (f:=uF) (ρ':=ρ2) rfl rfl (ao st (ao b (be (bM (jC (aY (mw s2 (show 1<=100 by decide) i2) aq rfl (Xo _)) (Ap (k:=0) (z:=0) s2 (show 0 < 1 by decide) (show 1<=100 by decide) i2 rfl aq)))))) px (p.lo_enc _))
 |_::_::_,c1,_,_,_,_,_=>exact absurd c1 (by rw[Xq,Xq];exact Jd)
end
noncomputable abbrev gK(l:List (Nat×Nat)):List V:=l.map λe:Nat×Nat=>V.t [.i e.1,.i e.2]
noncomputable abbrev jd(es:List (Nat×Nat)):List (Nat×V):=es.map λe=>(e.1,.r e.2)
structure lI(W:Nat)(es:List (Nat×Nat))(bs:Nat->List (Nat×Nat))(σ:aj):Prop where
 VZ:σ[W+1]? =some (nd (jd es))
 V5:∀e∈es,σ[e.2]? =some (.l (gK (bs e.1)))
 q8:∀e∈es,∀f∈es,e.2=f.2->e.1=f.1
 lo:∀e∈es,W+1 < e.2
 no:∀k,k∉es.map (·.1)->bs k=[]
 ln:es.length<=6
 Wz:∀e∈es,e.1 < 6
 nd:(es.map (·.1)).Nodup
section
variable {d n a b i j m k g q:Nat}{u v w:V}{o:O}{e c:Ex}{r:Rs}{p:Pp}{es:List (Nat×Nat)}
theorem Ii(h:k∈es.map (·.1)):∃ad,ng (jd es) k=some (.r ad)/\(k,ad)∈es:=by
 refine az (xN (es:=jd es) (k:=k) (by rw[XN];exact h)) λv h1 h2=>?_
 refine az (XY h2) λf hf e=>?_
 cases e;exact aC _ h1 hf
theorem Ij(h:k∉es.map (·.1)):ng (jd es) k=none:=xM (by rw[XN];exact h)
noncomputable def dl(N:Nat)(σ τ:aj):Prop:=∀i,i < N->τ[i]? =σ[i]?
theorem dl.iW(h:dl N σ σ₁)(h2:dl N σ₁ τ):dl N σ τ:=λi hi=>(h2 i hi).trans (h i hi)
theorem lV(h:N<=σ.length)(g:aj):dl N σ (σ++g):=λi hi=>Ye (XB hi h)
theorem rF(h:N<=a):dl N σ (σ.set a o):=λi hi=>aV (nN hi h)
theorem HR.y3(R:HR A H σ)(hN:∀s,H.ok s->A.yx s < N)(h:dl N σ τ):HR A H τ:=⟨R.eT,λs hs=>by rw[h _ (hN s hs)];exact R.aZ s hs⟩
theorem e8(h:σ[a]? =some o):a < σ.length:=(XS h).1
theorem BU{l:List Nat}(h:l.Nodup)(hk:k∉l):(l++[k]).Nodup:=by
 rw[List.nodup_append];exact fy h (List.pairwise_singleton _ _) (λx hx y hy e=>hk (by rw[Xy hy]at e;exact e▸hx))
theorem u0:∀{m:Nat} {l:List Nat},l.Nodup->(∀z∈l,z < m)->l.length<=m:=λ{m}=>by
 induction m with
 |zero=>intro l _ hl;exact XW (List.length_eq_zero_iff.mpr (List.eq_nil_iff_forall_not_mem.mpr λz hz=>YX _ (hl z hz)))
 |succ m ih=>
  intro l h hl
  by_cases hm:m∈l
  ·have:=ih (h.erase m) λz hz=>Nat.lt_of_le_of_ne (Nat.le_of_lt_succ (hl z (List.mem_of_mem_erase hz))) λe=>h.not_mem_erase (e▸hz)
   rw[List.length_erase_of_mem hm]at this
   exact Nat.le_add_of_sub_le this
  ·exact YO (ih h λz hz=>Nat.lt_of_le_of_ne (Nat.le_of_lt_succ (hl z hz)) λe=>hm (e▸hz))
theorem Rw:∀{es:List (Nat×Nat)},(es.map (·.1)).Nodup->(k,x)∈es->(k,y)∈es->x=y:=λ{es} h h1 h2=>by
 induction es with
 |nil=>cases h1
 |cons f es ih=>
  rw[Xw,Y9]at h
  rcases XC h1 with e1 |h1<;>rcases XC h2 with e2 |h2
  ·rw[<-e1]at e2;exact(Xu Prod.snd e2).symm
  ·rw[<-e1]at h;exact absurd (Yt (aC _ h2 rfl)) h.1
  ·rw[<-e2]at h;exact absurd (Yt (aC _ h1 rfl)) h.1
  ·exact ih h.2 h1 h2
theorem E5(d:Nat)(B:lI W es bs σ)(hk:k < 6)(hb:(bs k).length<=100)(t:Nat×Nat){i3:Nat}(h0:ρ 0=some (.o 3 W))(hW:σ[W]? =some (.a 3 fs))(hg:cA fs 42=some (.r (W+1)))(h1:ρ i1=some (.i k))(h2:ρ i2=some (.i t.1))(h3:ρ i3=some (.i t.2)):
  ∃es' τ,ai d 11 (.e (.m 0 (.m 4 (.a 42 (.v 0)) [.v i1,.d []]) [.t [.v i2,.v i3]])) ρ σ .n ρ τ/\lI W es' (cm bs k (bs k++[t])) τ/\dl (W+1) σ τ/\σ.length<=τ.length:=by
 have lW:W+1 < σ.length:=e8 B.VZ
 have oW:(σ++[O.l []])[W+1]? =some (nd (jd es)):=bO _ _ B.VZ
 have nl:∀xs,(nd (jd es))≠.l xs:=by intro _ h;cases h
 have ll:oR (nd (jd es))<=aK:=bq (α:=Int×V) (by rw[Xk,Xk];exact Xl B.ln (by decide))
 have eo:Ev d 28 (.a 42 (.v 0)) ρ σ (.r (W+1)) σ:=dv (af h0) rfl hW hg
 have ea:∀n s,Ev d (n+3) (.t [.v i2,.v i3]) ρ s (.t [.i t.1,.i t.2]) s:=λn s=>bI (ac.ah (af h2) (Xh (af h3)))
 by_cases hm:k∈es.map (·.1)
 ·refine az (Ii hm) λad g1 g2=>?_
  have hl:=bO σ [O.l []] (B.V5 _ g2)
  have lad:=B.lo _ g2
  refine dh es ((σ++[O.l []]).set ad (.l (gK (bs k++[t])))) (du (dn (dn eo (sJ B.VZ rfl rfl) (ac.ah (af h1) (Xh (dp ac.an))) (Bs B.VZ rfl oW rfl) (IW oW nl ll (by rw[m0,g1]))) (eI hl rfl) (Xh (ea _ _)) rfl (kN (f:=λe:Nat×Nat=>V.t [.i e.1,.i e.2]) t hl (bP hb rfl)))) ?_ ?_ ?_
  ·refine⟨by rw[aV (by lia)];exact oW,λe he=>?_,B.q8,B.lo,λz hz=>?_,B.ln,B.Wz,B.nd⟩
   ·by_cases ee:ad=e.2
    ·have:e.1=k:=B.q8 e he _ g2 ee.symm
     rw[<-ee,cR hl,this,gq]
    ·have:e.1≠k:=λh=>ee (by
      have e1:(k,e.2)∈es:=h▸he
      exact(Rw B.nd g2 e1))
     rw[aV ee,eS this];exact bO _ _ (B.V5 e he)
   ·rw[eS λh=>hz (by rw[h];exact hm)];exact B.no z hz
  ·exact(lV (Yc lW) _).iW (rF (Yc lad))
  ·rw[XF,Xn];exact XJ ..
 ·have gn:=Ij hm
  have e1:jd es++[(k,.r σ.length)]=jd (es++[(k,σ.length)]):=(g9 _ es (k,σ.length)).symm
  have ds:fO (nd (jd es)) (.i k) (.r σ.length)=some (nd (jd (es++[(k,σ.length)]))):=by rw[w8 _ gn,e1]
  let τ1:aj:=(σ++[O.l []]).set (W+1) (nd (jd (es++[(k,σ.length)])))
  have hl:τ1[σ.length]? =some (.l (gK [])):=by rw[aV (XH lW)];exact aX
  have ol:∀e∈es,e.2 < σ.length:=λe he=>e8 (B.V5 e he)
  refine dh (es++[(k,σ.length)]) (τ1.set σ.length (.l (gK [t]))) (du (dn (dn eo (sJ B.VZ rfl rfl) (ac.ah (af h1) (Xh (dp ac.an))) (Bs B.VZ rfl oW rfl) (IV oW nl ll (by rw[m0,gn]) ds)) (eI hl rfl) (Xh (ea _ _)) rfl (kN (f:=λe:Nat×Nat=>V.t [.i e.1,.i e.2]) t hl (by decide)))) ?_ ?_ ?_
  ·refine⟨by rw[aV (YV lW)];exact cR oW,λe he=>?_,λe he f hf h=>?_,λe he=>?_,λz hz=>?_,?_,λe he=>?_,?_⟩
   ·rcases XD he with he |he
    ·have:e.1≠k:=λh=>hm (h▸Y0 he)
     rw[aV (YV (ol e he)),aV (XH (B.lo e he)),eS this];exact bO _ _ (B.V5 e he)
    ·rw[Xy he,cR hl,gq,B.no k hm];rfl
   ·rcases XD he with he |he<;>rcases XD hf with hf |hf
    ·exact B.q8 e he f hf h
    ·rw[Xy hf]at h;exact absurd h (XH (ol e he))
    ·rw[Xy he]at h;exact absurd h.symm (XH (ol f hf))
    ·rw[Xy he,Xy hf]
   ·rcases XD he with he |he
    ·exact B.lo e he
    ·rw[Xy he];exact lW
   ·rw[XV,List.mem_append,not_or]at hz
    rw[eS λh=>hz.2 (Yg h)];exact B.no z hz.1
   ·have nn:((es++[(k,σ.length)]).map (·.1)).Nodup:=by rw[g9];exact BU B.nd hm
    have:=u0 nn (λz hz=>by
     refine az (XY hz) λf hf q2=>?_;subst q2
     rcases XD hf with hf |hf
     ·exact B.Wz f hf
     ·rw[Xy hf];exact hk)
    rwa [Xk]at this
   ·rcases XD he with he |he
    ·exact B.Wz e he
    ·rw[Xy he];exact hk
   ·rw[g9];exact BU B.nd hm
  ·exact((lV (Yc lW) _).iW (rF (Xp _))).iW (rF (Yc lW))
  ·rw[XF,XF,Xn];exact XJ ..
structure BO(E:d7)(F D:List Nat)(bs:Nat->List (Nat×Nat)):Prop where
 WJ:∀k,∀t∈bs k,t.1∈F/\∃r,E[t.1]? =some (k,t.2,r)∨E[t.1]? =some (t.2,k,r)
 WA:∀j∈D,∀(x y:Nat) (r:Rs),E[j]? =some (x,y,r)->(j,y)∈bs x/\(j,x)∈bs y
 WB:∀k,(bs k).length<=2 * D.length
theorem uX{t t':Nat×Nat}{z:Nat}(h:t'∈bs z):t'∈cm bs k (bs k++[t]) z:=by
 by_cases e:z=k
 ·subst e;rw[gq];exact YA _ h
 ·rw[eS e];exact h
theorem HZ{t:Nat×Nat}:t∈cm bs k (bs k++[t]) k:=by rw[gq];exact YT _ (Yg rfl)
theorem I9{t:Nat×Nat}{P:Nat->Nat×Nat->Prop}(h:∀z,∀u∈bs z,P z u)(ht:P k t):∀z,∀u∈cm bs k (bs k++[t]) z,P z u:=λz u hu=>by
 by_cases e:z=k
 ·subst e;rw[gq]at hu;exact(XD hu).elim (h z u) λh=>by rw[Xy h];exact ht
 ·rw[eS e]at hu;exact h z u hu
theorem Cj{t:Nat×Nat}(h:∀z,(bs z).length<=n):∀z,(cm bs k (bs k++[t]) z).length<=n+1:=λz=>by
 by_cases e:z=k
 ·subst e;rw[gq,Xn];exact Yx (h z)
 ·rw[eS e];exact YO (h z)
theorem BO.KO{D:List Nat}(B:BO E F D bs)(hj:j∈F)(hE:E[j]? =some (x,y,r)):BO E F (D++[j]) (cm (cm bs x (bs x++[(j,y)])) y (cm bs x (bs x++[(j,y)]) y++[(j,x)])) where
 WJ:=I9 (P:=λk t=>t.1∈F/\∃r,E[t.1]? =some (k,t.2,r)∨E[t.1]? =some (t.2,k,r)) (I9 (P:=λk t=>t.1∈F/\∃r,E[t.1]? =some (k,t.2,r)∨E[t.1]? =some (t.2,k,r)) B.WJ ⟨hj,r,.inl hE⟩) ⟨hj,r,.inr hE⟩
 WA:=λi hi a b q h=>by
  rcases XD hi with hi |hi
  ·exact bm (uX (uX (B.WA i hi a b q h).1)) (uX (uX (B.WA i hi a b q h).2))
  ·rw[Xy hi]at h ⊢
   rw[hE]at h;cases h
   exact bm (uX HZ) HZ
 WB:=λk=>by rw[Xn,Nat.mul_add];exact Cj (Cj B.WB) k
noncomputable def wo(h W p l:Nat):O:=.a 3 [(39,.o 2 h),(40,.i p),(41,.i l),(42,.r (W+1))]
theorem lD{g g':aj}(h0:ρ 0=some (.o cl σ.length))(hc:fD cl nm=true)(hl:fs.length<=100)(he:Ev d 30 e ρ (σ++.a cl fs::g) v (σ++.a cl fs::g')):ai d (n+1) (.a (.a nm (.v 0)) e) ρ (σ++.a cl fs::g) .n ρ (σ++.a cl (gY fs nm v)::g'):=by
 have h:=bh (n:=n) he (vK (m:=3) (v:=v) (af (n:=29) h0) hc (lB _ _) hl)
 rw[uu]at h;exact h
noncomputable def U':List St:=match AD.dZ with | [_,_,_,_,.l _ _ b]=>b |_=>[]
theorem xd(i0:Nat)(R:HR A H σ)(hE:H.aM[j]? =some (a,b,r))(hl:H.aM.length<=300){eh:Ex}(h0:Ev d (n+1) eh ρ σ (.o 2 (A.yx .aJ)) σ)(h1:ρ i=some (.i j)):Ev d (n+3) (.s (.a 23 eh) (.v i)) ρ σ (jU (a,b,r)) σ:=
 have hj:j < H.aM.length:=(XS hE).1
 bi (dv h0 rfl (dy R) rfl) (af h1) (dL (R.aZ .fH trivial) (gG (Yc (XB hj (Xl hl (by decide))))) (by unfold dS;rw[Xr (YR _)];refine(?_:(List.map jU _)[j]? =_);rw[Ys,hE];rfl))
theorem Vd(d:Nat){N:Nat}(hF:H.bL=F)(h6:F.length<=6)(hl:H.aM.length<=300)(hc:H.KE<=6)(heg:∀e∈H.aM,e.1 < H.KE/\e.2.1 < H.KE)(hfo:∀j∈F,j < H.aM.length)(hN:∀s,H.ok s->A.yx s < W)(hg:cA fs 42=some (.r (W+1))):∀(L D:List Nat) (ρ:aA) (σ:aj) (es:List (Nat×Nat)) (bs:Nat->List (Nat×Nat)),D++L=F->HR A H σ->lI W es bs σ->σ[W]? =some (.a 3 fs)->BO H.aM F D bs->ρ 0=some (.o 3 W)->ρ 1=some (.o 2 (A.yx .aJ))->
  ∃ρ' τ es' bs',bF d 11 (.v 2) U' (.cr (A.yx .fJ) (av F)) (av L) ρ σ .n ρ' τ/\lI W es' bs' τ/\BO H.aM F F bs'/\dl (W+1) σ τ:=by
 intro L
 induction L with
 |nil=>intro D ρ σ es bs hD R B hW O h0 h1;rw[Yb]at hD;subst hD;exact kK ρ σ es bs fF B O (λ_ _=>rfl)
 |cons j L ih=>
  intro D ρ σ es bs hD R B hW O h0 h1
  have jF:j∈F:=hD▸YT _ (Xz ..)
  have hj:=hfo j jF
  obtain⟨⟨x,y,r⟩,hE⟩:∃e,H.aM[j]? =some e:=⟨_,Yo hj⟩
  have hxy:x < H.KE/\y < H.KE:=heg _ (Yi hE)
  have D6:D.length+1<=6:=by have:=Xu List.length hD;rw[Xn,Xq]at this;lia
  let ρ1:=au ρ 2 (.i j)
  let ρ2:=au (au (au ρ1 3 (.i x)) 4 (.i y)) 5 r.gC
  have st:ai d 11 (.a (.t [.v 3,.v 4,.v 5]) (.s (.a 23 (.v 1)) (.v 2))) ρ1 σ .n ρ2 σ:=bh (xd 0 R hE hl (af h1) (bw _ _ _)) (gQ rfl rfl (da ba (da ba (da ba gR))))
  have b1:=O.WB x
  refine dj (E5 (i1:=3) (i2:=2) (i3:=4) d B (XB hxy.1 hc) (by lia) (j,y) (ρ:=ρ2) h0 hW hg rfl rfl rfl) λes1 σ1 p1 B1 L1 N1=>?_
  have hW1:σ1[W]? =some (.a 3 fs):=(L1 W (Za _)).trans hW
  have b2:(cm bs x (bs x++[(j,y)]) y).length<=100:=Xl (Cj (n:=2 * D.length) O.WB y) (by lia)
  refine dj (E5 (i1:=4) (i2:=2) (i3:=3) d B1 (XB hxy.2 hc) b2 (j,x) (ρ:=ρ2) h0 hW1 hg rfl rfl rfl) λes2 σ2 p2 B2 L2 N2=>?_
  have LL:=L1.iW L2
  have R2:HR A H σ2:=R.y3 (λs hs=>Zr (hN s hs)) LL
  refine o8 (ih (D++[j]) ρ2 σ2 es2 _ (by rw[XM];exact hD) R2 B2 ((L2 W (Za _)).trans hW1) (O.KO jF hE) h0 h1) λρ' τ es' bs' f1 f2 f3 f4=>?_
  exact kK ρ' τ es' bs' (fc (S:=.cr (A.yx .fJ) (av F)) (ρ':=ρ1) rfl (ao st (ao p1 (Xi p2))) (by rw[<-hF];exact R2.aZ .fJ trivial) f1) f2 f3 (LL.iW f4)
theorem TS(d:Nat)(R:HR A H σ)(G:HG H m):∃τ es bs,aL (d+1) 32 [.o 3 σ.length,.o 2 (A.yx .aJ)] (σ++[.a 3 []]) .n τ/\dl σ.length σ τ/\τ[σ.length]? =some (wo (A.yx .aJ) σ.length 0 0)/\lI σ.length es bs τ/\BO H.aM H.bL H.bL bs:=by
 let W:=σ.length
 let ρ:=bf [.o 3 W,.o 2 (A.yx .aJ)]
 let fs:List (Nat×V):=[(39,.o 2 (A.yx .aJ)),(40,.i 0),(41,.i 0),(42,.r (W+1))]
 let σ0:aj:=σ++[.a 3 fs,nd []]
 have hN:∀s,H.ok s->A.yx s < W:=λs hs=>R.lt hs
 have R0:HR A H σ0:=R.gy _
 have B0:lI W [] (λ_=>[]) σ0:=⟨kA σ _ 1,λ_ h=>(nomatch h),λ_ h=>(nomatch h),λ_ h=>(nomatch h),λ_ _=>rfl,Xo _,λ_ h=>(nomatch h),Y5⟩
 have hc:=G.VN.c6
 have g5:=G.t5
 have hed:H.aM.length<=300:=by have:=G.ed;have:=G.lQ;lia
 refine o8 (Vd d (N:=0) (fs:=fs) (F:=H.bL) rfl (bP g5 rfl) hed hc (λe he=>⟨(G.eg e he).1,(G.eg e he).2.1⟩) G.fo hN rfl H.bL [] ρ σ0 [] (λ_=>[]) rfl R0 B0 (lB _ _) ⟨λ_ _ h=>(nomatch h),λ_ h=>(nomatch h),λ_=>Xo _⟩ rfl rfl) λρ' τ es' bs' f1 f2 f3 f4=>?_
 have s4:ai d 12 (.a (.a 42 (.v 0)) (.g .i [])) ρ (σ++[.a 3 [(39,.o 2 (A.yx .aJ)),(40,.i 0),(41,.i 0)]]) .n ρ σ0:=by
  refine lD (g':=[nd []]) rfl rfl (by decide:3<=100) ?_
  have h:=pF (d:=d) (n:=29) (kd:=.i) (ρ:=ρ) (σ:=σ++[.a 3 [(39,.o 2 (A.yx .aJ)),(40,.i 0),(41,.i 0)]])
  rw[Xn,XM]at h;exact h
 exact xJ τ es' bs' (cI (f:=AD) (fl:=.n) (ρ':=ρ') rfl rfl (ao (lD (g':=[]) rfl rfl (by decide:0<=100) (af rfl)) (ao (lD (g':=[]) rfl rfl (by decide:1<=100) aq) (ao (lD (g':=[]) rfl rfl (by decide:2<=100) aq) (ao s4
  (Xi (fg (S:=.cr (A.yx .fJ) (av H.bL)) (fe (dv (af rfl) rfl (dy R0) rfl) (R0.aZ .fJ trivial) (bq (by rw[Xk];exact bP g5 rfl))) f1))))))) (λi hi=>(f4 i (Zr hi)).trans (Ye hi)) ((f4 W (Za _)).trans (lB _ _)) f2 f3
end
noncomputable abbrev Cm:=List (Nat×Option (Nat×Nat))
variable {C:Cm}
noncomputable def cmV:Option (Nat×Nat)->V
 |none=>.t []
 |some e=>.t [.i e.1,.i e.2]
noncomputable abbrev jv(C:Cm):List (Nat×V):=C.map λe=>(e.1,cmV e.2)
inductive iR(E:d7)(F:List Nat)(a q:Nat):Cm->Prop
 |tD:iR E F a q [(a,none)]
 |tC {C:Cm} {h y j:Nat} {r:Rs} (hc:iR E F a q C) (hh:h∈C.map (·.1)) (hy:y∉C.map (·.1)) (hf:j∈F) (hj:j < q) (he:E[j]? =some (h,y,r)∨E[j]? =some (y,h,r)):iR E F a q (C++[(y,some (h,j))])
section
variable {d n a b i j m k g q:Nat}{u v w:V}{o:O}{e c:Ex}{r:Rs}{p:Pp}{es:List (Nat×Nat)}
theorem HV{l:List α}{x:α}(h:l[a]? =some x):a < l.length:=(XS h).1
theorem iR.nd(h:iR E F a q C):(C.map (·.1)).Nodup:=by
 induction h with
 |tD=>exact List.pairwise_singleton _ _
 |tC _ _ hy _ _ _ ih=>rw[g9];exact BU ih hy
theorem iR.lt(h:iR E F a q C)(ha:a < N)(hE:∀e∈E,e.1 < N/\e.2.1 < N):∀z∈C.map (·.1),z < N:=by
 induction h with
 |tD=>intro z hz;rw[Xy hz];exact ha
 |tC _ _ hy _ _ he ih=>
  intro z hz
  rw[g9]at hz
  rcases XD hz with hz |hz
  ·exact ih z hz
  ·rw[Xy hz];exact he.elim (λh=>(hE _ (Yi h)).2) λh=>(hE _ (Yi h)).1
theorem iR.C5(h:iR E F a q C):a∈C.map (·.1):=by
 induction h with
 |tD=>exact Yg rfl
 |tC _ _ _ _ _ _ ih=>rw[g9];exact YA _ ih
theorem Ig(C:Cm)(k:Nat):(ng (jv C) k).isSome=decide (k∈C.map (·.1)):=by
 have e:(jv C).map (·.1)=C.map (·.1):=by rw[XN];rfl
 by_cases h:k∈C.map (·.1)
 ·refine az (xN (es:=jv C) (k:=k) (by rw[e];exact h)) λv hv _=>?_
  rw[hv,XL h];rfl
 ·rw[xM (es:=jv C) (by rw[e];exact h),XU h];rfl
noncomputable def R4:List St:=match uE.dZ with | [_,.w _ [_,.l _ _ b],_,_,_,_]=>b |_=>[]
noncomputable def R5:List St:=match uE.dZ with | [_,.w _ b,_,_,_,_]=>b |_=>[]
noncomputable def IG:List St:=match uE.dZ with | [_,_,_,_,.w _ b,_]=>b |_=>[]
structure PS(c0 r0 q:Nat)(C:Cm)(ρ:aA)(σ:aj):Prop where
 We:σ[c0]? =some (nd (jv C))
 Wy:σ[r0]? =some (.l (av (C.map (·.1))))
 ne:c0≠r0
 e4:ρ 4=some (.r c0)
 e5:ρ 5=some (.r r0)
 e3:ρ 3=some (.i q)
theorem PS.wi(P:PS c0 r0 q C ρ σ)(h3:i≠3)(h4:i≠4)(h5:i≠5):PS c0 r0 q C (au ρ i v) σ:=⟨P.We,P.Wy,P.ne,(bR _ _ h4.symm).trans P.e4,(bR _ _ h5.symm).trans P.e5,(bR _ _ h3.symm).trans P.e3⟩
theorem PS.MH(P:PS c0 r0 q C ρ σ)(g:aj):PS c0 r0 q C ρ (σ++g):=⟨bO _ _ P.We,bO _ _ P.Wy,P.ne,P.e4,P.e5,P.e3⟩
theorem Ar(P:PS c0 r0 q C ρ σ)(hi:ρ i=some (.i k)):Ev d (n+2) (.p .o (.v i) (.v 4)) ρ σ (.b (!decide (k∈C.map (·.1)))) σ:=
 aY (af hi) (af P.e4) (by rw[z5 P.We (m0 _ _),Ig]) trivial
theorem R7(d:Nat){S0:Nat}(hcs:c0≠S0)(hrs:r0≠S0)(hN:∀e∈E,e.1 < 6/\e.2.1 < 6)(ha:a < 6):∀(L:List (Nat×Nat)) (C:Cm) (ρ:aA) (σ:aj),(∀t∈L,t.1∈F/\∃r,E[t.1]? =some (k,t.2,r)∨E[t.1]? =some (t.2,k,r))->iR E F a q C->k∈C.map (·.1)->PS c0 r0 q C ρ σ->N<=c0->N<=r0->σ[S0]? =some (.l ys)->ρ 7=some (.i k)->
  ∃ρ' τ C',(∀j,j≠8->j≠9->ρ' j=ρ j)/\bF d 10 (.t [.v 8,.v 9]) R4 (.cr S0 ys) (gK L) ρ σ .n ρ' τ/\iR E F a q C'/\PS c0 r0 q C' ρ' τ/\dl N σ τ/\C.map (·.1) <+:C'.map (·.1)/\(∀t∈L,t.1 < q->t.2∈C'.map (·.1))/\τ.length=σ.length:=by
 intro L
 induction L with
 |nil=>intro C ρ σ _ hC _ P _ _ _ _;exact BK ρ σ C (λ_ _ _=>rfl) fF hC P (λ_ _=>rfl) (Yh _) (λ_ h=>(nomatch h)) rfl
 |cons t L ih=>
  intro C ρ σ hL hC hk P n1 n2 hS h7
  obtain⟨j,y⟩:=t
  obtain⟨tF,r,tE⟩:=hL (j,y) (Xz ..)
  let ρ1:=au (au ρ 8 (.i j)) 9 (.i y)
  have P1:PS c0 r0 q C ρ1 σ:=(P.wi (by decide) (by decide) (by decide)).wi (by decide) (by decide) (by decide)
  have hb:fL 4 (.t [.v 8,.v 9]) (.t [.i j,.i y]) ρ=some ρ1:=rfl
  have lt:Ev d 29 (.p .l (.v 8) (.v 3)) ρ1 σ (.b (decide ((j:Int) < (q:Int)))) σ:=aY (af rfl) (af P1.e3) rfl trivial
  have ni:Ev d 29 (.p .o (.v 9) (.v 4)) ρ1 σ (.b (!decide (y∈C.map (·.1)))) σ:=Ar P1 rfl
  by_cases hgo:j < q/\y∉C.map (·.1)
  ·have hC1:=iR.tC hC hk hgo.2 tF hgo.1 tE
   have cl:=u0 hC.nd (hC.lt ha hN)
   have ln:C.length<=6:=by rwa [Xk]at cl
   have gn:ng (jv C) y=none:=by have:=Ig C y;rw[XU hgo.2]at this;exact Option.not_isSome_iff_eq_none.mp (by rw[this];decide)
   let σ1:=σ.set c0 (nd (jv (C++[(y,some (k,j))])))
   let σ2:=σ1.set r0 (.l (av ((C++[(y,some (k,j))]).map (·.1))))
   have s1:lX (mF (.r c0) (.i y) (.t [.i k,.i j]) σ) σ1:=by
    have h:=mA P.We (by intro _ h;cases h) (bq (α:=Int×V) (by rw[Xk,Xk];exact bP ln rfl)) (w8 (.t [.i k,.i j]) gn)
    have e:jv C++[(y,.t [.i k,.i j])]=jv (C++[(y,some (k,j))]):=(g9 _ C (y,some (k,j))).symm
    rw[e]at h;exact h
   have r1:σ1[r0]? =some (.l (av (C.map (·.1)))):=by rw[aV P.ne];exact P.Wy
   have s2:Pr (dB 0 (.r r0) [.i y] σ1) .n σ2:=by
    have h:=kN (f:=λn:Nat=>V.i (n:Int)) y r1 (by rw[Xk];exact bP ln rfl)
    rw[<-g9 (λe:Nat×Option (Nat×Nat)=>e.1) C (y,some (k,j))]at h;exact h
   have P2:PS c0 r0 q (C++[(y,some (k,j))]) ρ1 σ2:=⟨by rw[aV P.ne.symm];exact cR P.We,cR r1,P.ne,P1.e4,P1.e5,P1.e3⟩
   refine BX (ih _ ρ1 σ2 (λt ht=>hL t (XA _ ht)) hC1 (by rw[g9];exact YA _ hk) P2 n1 n2 (by rw[aV hrs,aV hcs];exact hS) h7) λρ' τ C' f1 f2 f3 f4 f5 f6 f7 f8=>?_
   rw[g9]at f6
   refine BK ρ' τ C' (λj h8 h9=>(f1 j h8 h9).trans (by refine(?_:au (au ρ 8 _) 9 _ j=_);rw[bR _ _ h9,bR _ _ h8])) (fc (S:=.cr S0 ys) hb (Xi (cW (j8 (by rw[XL (by exact mD hgo.1)]at lt;exact lt) (by rw[XU hgo.2]at ni;exact ni))
    (ao (bh (bI (ac.ah (af (i:=7) h7) (Xh (af (i:=8) rfl)))) (kW (af (i:=4) P1.e4) (af rfl) s1)) (Xi (du (dn (af P1.e5) (eI r1 rfl) (Xh (af rfl)) rfl s2)))))) (by refine(?_:σ2[S0]? =_);rw[aV hrs,aV hcs];exact hS) f2) f3 f4 ?_ ((Yd _ _).trans f6) (λt ht hq=>?_) (by rw[f8,XF,XF])
   ·exact((rF n1).iW (rF n2)).iW f5
   ·rcases XC ht with rfl |ht
    ·exact f6.subset (YT _ (Yg rfl))
    ·exact f7 t ht hq
  ·refine BX (ih C ρ1 σ (λt ht=>hL t (XA _ ht)) hC hk P1 n1 n2 hS h7) λρ' τ C' f1 f2 f3 f4 f5 f6 f7 f8=>?_
   refine BK ρ' τ C' (λj h8 h9=>(f1 j h8 h9).trans (by refine(?_:au (au ρ 8 _) 9 _ j=_);rw[bR _ _ h9,bR _ _ h8])) (fc (S:=.cr S0 ys) hb (Xi (bC ?_ aP)) hS f2) f3 f4 f5 f6 (λt ht hq=>?_) f8
   ·by_cases h1:j < q
    ·rw[XL (by exact mD h1)]at lt
     rw[XL (Classical.byContradiction λh=>hgo ⟨h1,h⟩)]at ni
     exact j8 lt ni
    ·rw[XU (by exact x9 h1)]at lt;exact lK lt
   ·rcases XC ht with rfl |ht
    ·exact f6.subset (Classical.byContradiction λh=>hgo ⟨hq,h⟩)
    ·exact f7 t ht hq
theorem R8(d:Nat)(hE:∀e∈E,e.1 < 6/\e.2.1 < 6)(ha:a < 6)(hW:W+1 < N)(O:BO E F F bs)(hg:cA fs 42=some (.r (W+1))):∀(M:Nat) (t:Nat) (C:Cm) (ρ:aA) (σ:aj),6 - t<=M->iR E F a q C->PS c0 r0 q C ρ σ->lI W es bs σ->(∀e∈es,e.2 < N)->σ[W]? =some (.a 3 fs)->N<=c0->N<=r0->ρ 0=some (.o 3 W)->ρ 1=some (.i a)->ρ 2=some (.i b)->ρ 6=some (.i t)->t<=C.length->
  (∀i,i < t->∀z,(C.map (·.1))[i]? =some z->∀u∈bs z,u.1 < q->u.2∈C.map (·.1))->F.length<=6->
  ∃ρ' τ C',(∀j,j < 4->ρ' j=ρ j)/\ai d 12 (.w (.n [.p .l (.v 6) (.b .l [.v 5]),.p .o (.v 2) (.v 4)]) R5) ρ σ .n ρ' τ/\iR E F a q C'/\PS c0 r0 q C' ρ' τ/\dl N σ τ/\σ.length<=τ.length/\(b∈C'.map (·.1)∨∀z∈C'.map (·.1),∀u∈bs z,u.1 < q->u.2∈C'.map (·.1)):=by
 intro M
 induction M with
 |zero=>
  intro t C ρ σ hM hC P B hes hW0 n1 n2 h0 h1 h2 h6 ht hcl hF
  have cl:=u0 hC.nd (hC.lt ha hE)
  rw[Xk]at cl
  have lt:Ev d 29 (.p .l (.v 6) (.b .l [.v 5])) ρ σ (.b (decide ((t:Int) < ((av (C.map (·.1))).length:Int)))) σ:=aY (af h6) (ci rfl (Xh (af P.e5)) (fB P.Wy (bq (by rw[Xk,Xk];exact bP cl rfl)))) rfl trivial
  rw[XU (by rw[Xk,Xk];exact qG7 cl hM)]at lt
  refine qD ρ σ C (λ_ _=>rfl) (iY (lK lt)) hC P (λ_ _=>rfl) (Xp _) (.inr λz hz=>?_)
  refine aT (List.mem_iff_getElem?.mp hz) λi hi=>?_
  exact hcl i (by have:=HV hi;rw[Xk]at this;lia) z hi
 |succ M ih=>
  intro t C ρ σ hM hC P B hes hW0 n1 n2 h0 h1 h2 h6 ht hcl hF
  have cl:=u0 hC.nd (hC.lt ha hE)
  rw[Xk]at cl
  have lt:Ev d 29 (.p .l (.v 6) (.b .l [.v 5])) ρ σ (.b (decide ((t:Int) < ((av (C.map (·.1))).length:Int)))) σ:=aY (af h6) (ci rfl (Xh (af P.e5)) (fB P.Wy (bq (by rw[Xk,Xk];exact bP cl rfl)))) rfl trivial
  have ni:Ev d 29 (.p .o (.v 2) (.v 4)) ρ σ (.b (!decide (b∈C.map (·.1)))) σ:=Ar P h2
  by_cases hlt:t < C.length
  ·rw[XL (by rw[Xk,Xk];exact mD hlt)]at lt
   by_cases hb:b∈C.map (·.1)
   ·rw[XL hb]at ni
    exact qD ρ σ C (λ_ _=>rfl) (iY (j8 lt ni)) hC P (λ_ _=>rfl) (Xp _) (.inl hb)
   ·rw[XU hb]at ni
    obtain⟨z,hz⟩:∃z,(C.map (·.1))[t]? =some z:=⟨_,Yo (by rw[Xk];exact hlt)⟩
    have zm:=Yi hz
    have z6:=hC.lt ha hE z zm
    let ρ1:=au (au ρ 7 (.i z)) 6 (.i ((t+1:Nat):Int))
    have st:ai d 11 (.a (.t [.v 7,.v 6]) (.t [.s (.v 5) (.v 6),.i .a (.v 6) (.c (.i 1))])) ρ σ .n ρ1 σ:=
     bh (bI (ac.ah (bi (af P.e5) (af h6) (dL (v:=.i z) P.Wy (gG (by unfold aK;exact j3 (qT hlt cl) rfl)) (by unfold dS;rw[Xr (YR _)];refine(?_:(List.map _ _)[t]? =_);rw[Ys,hz];rfl))) (Xh (bX (af h6) aq iy)))) (gQ rfl rfl (da ba (da ba gR)))
    have P1:PS c0 r0 q C ρ1 σ:=(P.wi (by decide) (by decide) (by decide)).wi (by decide) (by decide) (by decide)
    let g:aj:=[.l []]
    -- the words beside z
    obtain⟨S0,hS0,hov,hcS,hrS⟩:∃S0,(σ++g)[S0]? =some (.l (gK (bs z)))/\bA d 30 (.e (.m 3 (.a 42 (.v 0)) [.v 7,.d []])) ρ1 σ (.cr S0 (gK (bs z))) (σ++g)/\c0≠S0/\r0≠S0:=by
     have ea:Ev d 29 (.a 42 (.v 0)) ρ1 σ (.r (W+1)) σ:=dv (af (i:=0) h0) rfl hW0 hg
     have nl:∀xs,(nd (jd es))≠.l xs:=by intro _ h;cases h
     have key:∀{rv:Option V} {S0:Nat},ng (jd es) z=rv->rv.getD (.r σ.length)=.r S0->(σ++g)[S0]? =some (.l (gK (bs z)))->bA d 30 (.e (.m 3 (.a 42 (.v 0)) [.v 7,.d []])) ρ1 σ (.cr S0 (gK (bs z))) (σ++g):=λ{rv S0} h1 h2 h3=>by
      have pg:=Sn (u:=.r σ.length) (bO σ g B.VZ) nl (m0 (jd es) z)
      rw[h1,h2]at pg
      exact fe (dn ea (sJ B.VZ rfl rfl) (ac.ah (af rfl) (Xh (dp ac.an))) (Bs B.VZ rfl (bO σ g B.VZ) rfl) pg) h3 (bq (by rw[Xk];have:=O.WB z;lia))
     by_cases hm:z∈es.map (·.1)
     ·refine az (Ii hm) λad g1 g2=>?_
      have hl:=bO σ g (B.V5 _ g2)
      have:=hes _ g2
      exact eX ad hl (key g1 rfl hl) (by lia) (by lia)
     ·have hl:(σ++g)[σ.length]? =some (.l (gK (bs z))):=by rw[B.no z hm];exact aX
      have:=e8 P.We;have:=e8 P.Wy
      exact eX σ.length hl (key (Ij hm) rfl hl) (by lia) (gM this)
    refine BX (R7 d hcS hrS hE ha (bs z) C ρ1 (σ++g) (O.WJ z) hC zm (P1.MH g) n1 n2 hS0 rfl) λρ2 τ1 C1 k1 f1 c1 p1 l1 x1 y1 len1=>?_
    have LL:dl N σ τ1:=(lV (by have:=e8 P.We;exact qT n1 (qL this)) g).iW l1
    have B1:lI W es bs τ1:=⟨by rw[LL _ hW];exact B.VZ,λe he=>by rw[LL _ (hes e he)];exact B.V5 e he,B.q8,B.lo,B.no,B.ln,B.Wz,B.nd⟩
    have cle:C.length<=C1.length:=by have:=x1.length_le;rwa [Xk,Xk]at this
    refine u6 (ih (t+1) C1 ρ2 τ1 (qG6 hM) c1 p1 B1 hes (by rw[LL _ (by exact qM hW)];exact hW0) n1 n2 ((k1 0 (by decide) (by decide)).trans h0) ((k1 1 (by decide) (by decide)).trans h1) ((k1 2 (by decide) (by decide)).trans h2) ((k1 6 (by decide) (by decide)).trans (bw _ _ _)) (qT hlt cle) (λi hi z' hz' u hu hq=>by
     rcases Nat.lt_succ_iff_lt_or_eq.mp hi with hi |rfl
     ·have hz0:(C.map (·.1))[i]? =some z':=by refine aT x1 ?_;clear x1;intro T hT;rw[<-hT,Ye (by rw[Xk];exact qT hi (qL hlt))]at hz';exact hz'
      exact x1.subset (hcl i hi z' hz0 u hu hq)
     ·have hz0:(C.map (·.1))[i]? =some z':=by refine aT x1 ?_;clear x1;intro T hT;rw[<-hT,Ye (by rw[Xk];exact hlt)]at hz';exact hz'
      rw[hz]at hz0;cases hz0
      exact y1 u hu hq) hF) λρ3 τ2 C2 k2 f2 c2 p2 l2 le2 y2=>?_
    exact qD ρ3 τ2 C2 (λj hj=>(k2 j hj).trans ((k1 j (kP hj rfl) (kP hj rfl)).trans (by refine(?_:au (au ρ 7 _) 6 _ j=_);rw[bR _ _ (by exact kP hj rfl),bR _ _ (by exact kP hj rfl)]))) (lZ (j8 lt ni) (ao st (Xi (fg (S:=.cr S0 (gK (bs z))) hov f1))) f2) c2 p2 (LL.iW l2) (Xl (by rw[len1,Xn];exact XJ ..) le2) y2
  ·rw[XU (by rw[Xk,Xk];exact x9 hlt)]at lt
   refine qD ρ σ C (λ_ _=>rfl) (iY (lK lt)) hC P (λ_ _=>rfl) (Xp _) (.inr λz hz=>?_)
   refine aT (List.mem_iff_getElem?.mp hz) λi hi=>?_
   exact hcl i (by have:=HV hi;rw[Xk]at this;exact qT this (x5 hlt)) z hi
end
noncomputable abbrev kG(L:List (Nat×Bool)):List V:=L.map λt:Nat×Bool=>V.t [.i t.1,.b t.2]
section
variable {d n a b i j m k g q l:Nat}{u v w:V}{o:O}{e c:Ex}{r:Rs}{es:List (Nat×Nat)}
theorem Rv{es:List (Nat×V)}(hn:(es.map (·.1)).Nodup)(h:(k,v)∈es):ng es k=some v:=by
 induction es with
 |nil=>cases h
 |cons e es ih=>
  rw[Xw,Y9]at hn
  unfold ng at *
  rw[Zi]
  rcases XC h with h |h
  ·rw[<-h];simp
  ·have:e.1≠k:=λhk=>hn.1 (hk▸Yt (aC _ h rfl))
   rw[XU this];exact ih hn.2 h
set_option tactic.hygienic true in
theorem R9(d:Nat){C0:Cm}(hl:H.aM.length<=300)(hnd:(C0.map (·.1)).Nodup)(hN:∀s,H.ok s->A.yx s < W)(hg:cA fs 39=some (.o 2 (A.yx .aJ)))(hWf:W < f0)(hcf:c0≠f0)(h:iR H.aM F a q C):(∀e∈C,e∈C0)->C.length<=6->∀(b:Nat) (L:List (Nat×Bool)) (ρ:aA) (σ:aj),b∈C.map (·.1)->L.length+C.length<=20->HR A H σ->σ[W]? =some (.a 3 fs)->σ[c0]? =some (nd (jv C0))->σ[f0]? =some (.l (kG L))->ρ 0=some (.o 3 W)->ρ 1=some (.i a)->ρ 2=some (.i b)->ρ 4=some (.r c0)->ρ 10=some (.r f0)->
  ∃ρ' L',ρ' 10=some (.r f0)/\ai d 12 (.w (.p .n (.v 2) (.v 1)) IG) ρ σ .n ρ' (σ.set f0 (.l (kG (L++L'))))/\L'.length+1<=C.length/\∀t∈L',t.1∈F/\t.1 < q:=by
 have stop:∀(L:List (Nat×Bool)) (ρ:aA) (σ:aj),σ[f0]? =some (.l (kG L))->ρ 1=some (.i a)->ρ 2=some (.i a)->ρ 10=some (.r f0)->∃ρ' L',ρ' 10=some (.r f0)/\ai d 12 (.w (.p .n (.v 2) (.v 1)) IG) ρ σ .n ρ' (σ.set f0 (.l (kG (L++L'))))/\L'.length+1<=1/\∀t∈L',t.1∈F/\t.1 < q:=λL ρ σ hf h1 h2 hr=>
  (dh ρ ([]) hr (by rw[Yb,qU hf];exact iY (aY (af h2) (af h1) (by rw[mq,XL rfl];rfl) (Xo _))) (Xp _) (λ_ h=>(nomatch h)))
 induction h with
 |tD=>intro _ _ b L ρ σ hb _ _ _ _ hf _ h1 h2 _ hr;rw[Xy hb]at h2;exact stop L ρ σ hf h1 h2 hr
 |tC hc hh hy hfj hj he ih=>
  rename_i C h y j r
  intro hC hlen b L ρ σ hb hL R hW hc0 hf h0 h1 h2 h4 hr
  rw[Xn]at hlen hL
  have hlen:C.length+1<=6:=hlen
  have hL:L.length+(C.length+1)<=20:=hL
  have ih:=ih (λe he=>hC e (YA _ he)) (bT hlen)
  rw[g9]at hb
  rcases XD hb with hb |hb
  ·refine dj (ih b L ρ σ hb (bT (vl hL)) R hW hc0 hf h0 h1 h2 h4 hr) λρ' L' f1 f2 f3 f4=>?_
   exact dh ρ' L' f1 f2 (by rw[Xn];exact YO f3) f4
  ·have hby:b=y:=Xy hb
   subst hby
   have hne:b≠a:=λe=>hy (e▸hc.C5)
   have gv:ng (jv C0) b=some (.t [.i h,.i j]):=Rv (by rw[XN];exact hnd) (Yt (aC _ (hC _ (YT _ (Yg rfl))) rfl))
   obtain⟨ex,ey,er,hE⟩:∃x y r,H.aM[j]? =some (x,y,r):=he.elim (λh=>H9 _ _ _ h) λh=>H9 _ _ _ h
   let bb:=!decide (ex=h)
   let ρ1:=au (au ρ 7 (.i h)) 8 (.i j)
   let σ1:=σ.set f0 (.l (kG (L++[(j,bb)])))
   have s1:ai d 11 (.a (.t [.v 7,.v 8]) (.s (.v 4) (.v 2))) ρ σ .n ρ1 σ:=bh (bi (af h4) (af h2) (mB hc0 (by intro _ h;cases h) (by rw[m0,gv]))) (gQ rfl rfl (da ba (da ba gR)))
   have s2:ai d 11 (.e (.m 0 (.v 10) [.t [.v 8,.p .n (.s (.s (.a 23 (.a 39 (.v 0))) (.v 8)) (.c (.i 0))) (.v 7)]])) ρ1 σ .n ρ1 σ1:=
    du (dn (af (i:=10) hr) (eI hf rfl) (Xh (bI (ac.ah (af rfl) (Xh (aY (bi (xd 0 R hE hl (dv (af (i:=0) h0) rfl hW hg) rfl) aq (c9 (bg rfl) rfl)) (af (i:=7) rfl) (mq _ _) (Xo _)))))) rfl (kN (f:=λt:Nat×Bool=>V.t [.i t.1,.b t.2]) (j,bb) hf (by lia)))
   have nf:∀i,i < f0->σ1[i]? =σ[i]?:=λi hi=>aV (mC hi)
   refine dj (ih h (L++[(j,bb)]) (au ρ1 2 (.i h)) σ1 hh (by rw[Xn];refine(?_:L.length+1+_<=_);lia) ⟨R.eT,λs hs=>by rw[nf _ (Nat.lt_trans (hN s hs) hWf)];exact R.aZ s hs⟩ ((nf W hWf).trans hW) ((aV hcf.symm).trans hc0) (cR hf) h0 h1 (bw _ _ _) h4 hr) λρ' L' f1 f2 f3 f4=>?_
   rw[Yl,XM]at f2
   refine dh ρ' ((j,bb)::L') f1 (lZ (aY (af h2) (af h1) (by rw[mq,XU hne];rfl) (Xo _)) (ao s1 (ao s2 (Xi (bh (af rfl) ba)))) f2) (by rw[Xn];exact Yx f3) (λt ht=>?_)
   rcases XC ht with rfl |ht
   ·exact bm hfj hj
   ·exact f4 t ht
theorem OA(hC:∀z∈C.map (·.1),∀u∈bs z,u.1 < q->u.2∈C.map (·.1))(O:BO E F F bs)(ha:a∈C.map (·.1))(h:Cn E F q a b):b∈C.map (·.1):=by
 refine az h ?_;clear h;intro n h5 h
 clear h5
 induction h with
 |kX=>exact ha
 |mJ _ hf hj he ih=>exact hC _ (ih ha) _ (O.WA _ hf _ _ _ he).1 hj
 |nV _ hf hj he ih=>exact hC _ (ih ha) _ (O.WA _ hf _ _ _ he).2 hj
structure WS(A:Ad)(H:HS)(m W:Nat)(es:List (Nat×Nat))(bs:Nat->List (Nat×Nat))(σ:aj):Prop where
 V2:HR A H σ
 VY:HG H m
 lt:∀s,H.ok s->A.yx s < W
 VQ:lI W es bs σ
 WI:BO H.aM H.bL H.bL bs
theorem WS.e6(S:WS A H m W es bs σ):∀e∈H.aM,e.1 < 6/\e.2.1 < 6:=λe he=>⟨XB (S.VY.eg e he).1 S.VY.VN.c6,XB (S.VY.eg e he).2.1 S.VY.VN.c6⟩
theorem WS.el(S:WS A H m W es bs σ):H.aM.length<=300:=by have:=S.VY.ed;have:=S.VY.lQ;have:=S.VY.t5;lia
theorem TA(d:Nat)(S:WS A H m W es bs σ){p:Nat}(hW:σ[W]? =some (wo (A.yx .aJ) W p l))(ha:a < H.KE)(cn:Cn H.aM H.bL q a b):
  ∃τ ad L,aL (d+1) 33 [.o 3 W,.i a,.i b,.i q] σ (.r ad) τ/\dl σ.length σ τ/\σ.length<=τ.length/\σ.length<=ad/\τ[ad]? =some (.l (kG L))/\L.length<=5/\∀t∈L,t.1∈H.bL/\t.1 < q:=by
 have a6:a < 6:=XB ha S.VY.VN.c6
 let c0:=σ.length
 let σ0:aj:=σ++[nd (jv [(a,none)])]++[.l (av [a])]
 have l0:(σ++[nd (jv [(a,none)])]).length=c0+1:=Xn
 let ρ0:=bf [.o 3 W,.i a,.i b,.i q]
 let ρ1:=au (au (au ρ0 4 (.r c0)) 5 (.r (c0+1))) 6 (.i 0)
 have st:ai d 12 (.a (.t [.v 4,.v 5,.v 6]) (.t [.g .i [(.v 1,.t [])],.d [.v 1],.c (.i 0)])) ρ0 σ .n ρ1 σ0:=by
  have h:=bh (n:=11) (t:=.t [.v 4,.v 5,.v 6]) (bI (ac.ah (yK (d:=d) (n:=28) (o:=nd (jv [(a,none)])) (ρ:=ρ0) (σ:=σ) (kd:=.i) (tL (af (i:=1) rfl) (bI ac.an) yO) rfl) (ac.ah (dp (Xh (af (i:=1) rfl))) (Xh (aq (v:=.i 0)))))) (gQ rfl rfl (da ba (da ba (da ba gR))))
  rw[l0]at h;exact h
 have P0:PS c0 (c0+1) q [(a,none)] ρ1 σ0:=⟨bO _ _ aX,by rw[<-l0];exact aX,XH (Za _),rfl,rfl,rfl⟩
 have lW:W+1 < σ.length:=e8 S.VQ.VZ
 have up:∀{i:Nat} {o:O},σ[i]? =some o->σ0[i]? =some o:=λh=>bO _ _ (bO _ _ h)
 have B0:lI W es bs σ0:=⟨up S.VQ.VZ,λe he=>up (S.VQ.V5 e he),S.VQ.q8,S.VQ.lo,S.VQ.no,S.VQ.ln,S.VQ.Wz,S.VQ.nd⟩
 refine u6 (R8 (b:=b) d S.e6 a6 lW S.WI (fs:=[(39,.o 2 (A.yx .aJ)),(40,.i p),(41,.i l),(42,.r (W+1))]) rfl 6 0 [(a,none)] ρ1 σ0 (Xp _) .tD P0 B0 (λe he=>e8 (S.VQ.V5 e he)) (up hW) (Xp _) (Yj _) rfl rfl rfl rfl (Xo _) (λi hi=>absurd hi (YX _)) (YO S.VY.t5)) λρ2 σ2 C k2 w1 hC P2 L2 le2 fin=>?_
 have hb:b∈C.map (·.1):=fin.elim id λh=>OA h S.WI hC.C5 cn
 have cl:=u0 hC.nd (hC.lt a6 S.e6)
 rw[Xk]at cl
 have n0:σ.length<=σ2.length:=Xl (by rw[Xn,Xn];exact Xl (XJ ..) (XJ ..)) le2
 have low2:dl σ.length σ σ2:=((lV (Xp _) _).iW (lV (by rw[Xn];exact XJ ..) _)).iW L2
 have R2:HR A H σ2:=S.V2.y3 (λs hs=>S.V2.lt hs) low2
 have hW2:σ2[W]? =some (wo (A.yx .aJ) W p l):=(low2 W (qM lW)).trans hW
 let σ3:aj:=σ2++[.l []]
 refine dj (R9 (c0:=c0) (f0:=σ2.length) (C0:=C) d S.el hC.nd S.lt (fs:=[(39,.o 2 (A.yx .aJ)),(40,.i p),(41,.i l),(42,.r (W+1))]) rfl (XB (Nat.lt_of_succ_lt lW) n0) (XH (e8 P2.We)) hC (λ_ h=>h) cl b [] (au ρ2 10 (.r σ2.length)) σ3 hb (by rw[XR];exact qQ cl rfl) (R2.gy _) (bO _ _ hW2) (bO _ _ P2.We) aX ((bR _ _ (by decide)).trans (k2 0 (by decide))) ((bR _ _ (by decide)).trans (k2 1 (by decide))) ((bR _ _ (by decide)).trans (k2 2 (by decide))) ((bR _ _ (by decide)).trans P2.e4) (bw _ _ _)) λρ4 L k4 w2 len4 ok4=>?_
 let σ4:=σ3.set σ2.length (.l (kG ([]++L)))
 have l5:L.length<=5:=jc (qT len4 cl)
 have g4:σ4[σ2.length]? =some (.l (kG L)):=cR aX
 have n4:σ4.length=σ2.length+1:=by rw[XF,Xn];rfl
 refine qD (σ4++[.l (kG L.reverse)]) σ4.length L.reverse (cI (f:=uE) (fl:=.r _) (ρ':=ρ4) rfl rfl (ao st (ao w1 (ao (bC ?_ aP) (ao (bh (dp ac.an) ba) (ao w2 (be (bM ?_)))))))) ?_ ?_ (by rw[n4];exact d5 n0) aX (by rw[List.length_reverse];exact l5) (λt ht=>ok4 t (List.mem_reverse.mp ht))
 ·have h:=Ar (d:=d) (n:=28) P2 (k2 2 (by decide));rw[XL hb]at h;exact h
 ·have h:=yL (d:=d) (n:=29) (af (n:=28) k4) (Cf g4 (bq (by rw[Xk];exact bT (bP (qT len4 cl) rfl))))
  rw[<-Ze]at h;exact h
 ·exact((low2.iW (lV n0 _)).iW (rF n0)).iW (lV (by rw[n4];exact d5 n0) _)
 ·rw[Xn,n4];exact Cq (d5 n0)
end
noncomputable def ju:Nat->Nat
 |0=>1
 |q+1=>1+2 * (5 * ju q)
noncomputable def ZE:Nat->Nat
 |0=>100
 |q+1=>2 * (5 * ZE q+310)+45
theorem NU(q:Nat):100<=ZE q:=by cases q with |zero=>exact Xp _ |succ q=>refine(?_:100<=2 * (5 * ZE q+310)+45);exact cG (vj iO)
theorem MA(q:Nat):1<=ju q:=by cases q with |zero=>exact Xp _ |succ q=>refine(?_:1<=1+_);exact iO
section
variable {d n a b i j m k g q l p p':Nat}{u v w:V}{o:O}{e c:Ex}{r:Rs}{es:List (Nat×Nat)}
noncomputable def fS(N W:Nat)(σ τ:aj):Prop:=∀i,i < N->i≠W->τ[i]? =σ[i]?
theorem Vt(h:fS N W σ σ₁)(h2:fS N W σ₁ τ):fS N W σ τ:=λi hi hn=>(h2 i hi hn).trans (h i hi hn)
theorem nZ:fS N W σ (σ.set W o):=λi _ hn=>aV hn.symm
theorem yS(h:dl N σ τ):fS N W σ τ:=λi hi _=>h i hi
theorem WS.mv(S:WS A H m W es bs σ)(hW:W+1 < N)(hes:∀e∈es,e.2 < N)(h:fS N W σ τ):WS A H m W es bs τ where
 V2:=⟨S.V2.eT,λs hs=>by have:=S.lt s hs;rw[h _ (by lia) (by exact gM this)];exact S.V2.aZ s hs⟩
 VY:=S.VY
 lt:=S.lt
 VQ:=⟨by rw[h _ hW (by exact qR rfl)];exact S.VQ.VZ,λe he=>by have:=S.VQ.lo e he;rw[h _ (hes e he) (by exact pj this)];exact S.VQ.V5 e he,S.VQ.q8,S.VQ.lo,S.VQ.no,S.VQ.ln,S.VQ.Wz,S.VQ.nd⟩
 WI:=S.WI
theorem IZ(h:dl σ.length σ τ)(hl:σ.length<=τ.length):σ <+:τ:=by
 rw[List.prefix_iff_eq_take]
 apply List.ext_getElem?
 intro i
 rw[List.getElem?_take]
 split
 ·exact(h i (by assumption)).symm
 ·exact List.getElem?_eq_none (by lia)
theorem KB(hW:σ[W]? =some (wo k W p l))(hk:k < W)(hl:W+1 < σ.length)(hp:σ.set W (wo k W p' l) <+:τ)(hv:∀m,v.lo m=true):nX σ τ (σ.set W (wo k W p' l)) v:=
 ⟨hp,by rw[XF];exact Xp _,hv _,λi o h=>by
  by_cases e:W=i
  ·subst e
   rw[cR hW]at h;cases h
   refine .inr ?_
   refine(?_:V.loAll _ [.o 2 k,.i p',.i l,.r (W+1)]=true)
   simp[jT,iJ,zT,EM,r7];lia
  ·rw[aV e]at h;exact .inl h⟩
noncomputable def OE(d q:Nat)(A:Ad)(H:HS)(m W N:Nat)(es:List (Nat×Nat))(bs:Nat->List (Nat×Nat)):Prop:=
 ∀(σ:aj) (p l j:Nat),WS A H m W es bs σ->σ[W]? =some (wo (A.yx .aJ) W p l)->j∈H.bL->dT (H.aM.take (j+1))<=q->p+ju q<=20000->l+q<=100->
  ∃P p',GP P (4+7 * q) (ZE q)/\p<=p'/\p'<=p+ju q/\aL (d+4+2 * q) 36 [.o 3 W,.i j] σ P.enc (σ.set W (wo (A.yx .aJ) W p' l))
noncomputable def BT(d q:Nat)(A:Ad)(H:HS)(m W N:Nat)(es:List (Nat×Nat))(bs:Nat->List (Nat×Nat)):Prop:=
 ∀(σ:aj) (p l a b t:Nat),WS A H m W es bs σ->σ[W]? =some (wo (A.yx .aJ) W p l)->a < H.KE->Cn H.aM H.bL t a b->dT (H.aM.take t)<=q->p+5 * ju q<=20000->l+q<=100->
  ∃P p',GP P (10+7 * q) (5 * ZE q+310)/\p<=p'/\p'<=p+5 * ju q/\aL (d+5+2 * q) 35 [.o 3 W,.i a,.i b,.i t] σ P.enc (σ.set W (wo (A.yx .aJ) W p' l))
theorem HE{s t:Nat}(h:s<=t):dT (E.take s)<=dT (E.take t):=List.Sublist.countP_le ((List.take_prefix_take_left h).sublist)
noncomputable def E9:List St:=match AC.dZ with | [_,.l _ _ b,_]=>b |_=>[]
theorem Ou(hO:OE d q A H m W N es bs)(hWN:W+1 < N)(hes:∀e∈es,e.2 < N){ad:Nat}(hf0:N<=f0)(had:N<=ad)(hfa:f0≠ad)(hl:l+q<=100)(hlk:dT (H.aM.take t0)<=q):∀(L:List (Nat×Bool)) (ps:List Pp) (p:Nat) (ρ:aA) (σ:aj),(∀t∈L,t.1∈H.bL/\t.1 < t0)->WS A H m W es bs σ->σ[W]? =some (wo (A.yx .aJ) W p l)->σ[f0]? =some (.l (ps.map Pp.enc))->σ[ad]? =some (.l ys)->p+L.length * ju q<=20000->(∀P∈ps,GP P (5+7 * q) (ZE q+40))->ps.length+L.length<=20->ρ 0=some (.o 3 W)->ρ 4=some (.r f0)->
  ∃(ρ':aA) (τ:aj) (ps':List Pp) (p':Nat),(∀j,j < 5->ρ' j=ρ j)/\bF (d+4+2 * q) 11 (.t [.v 5,.v 6]) E9 (.cr ad ys) (kG L) ρ σ .n ρ' τ/\WS A H m W es bs τ/\τ[W]? =some (wo (A.yx .aJ) W p' l)/\τ[f0]? =some (.l (ps'.map Pp.enc))/\(∀P∈ps',GP P (5+7 * q) (ZE q+40))/\ps'.length=ps.length+L.length/\p<=p'/\p'<=p+L.length * ju q/\(∀i,i≠W->i≠f0->τ[i]? =σ[i]?)/\τ.length=σ.length:=by
 intro L
 induction L with
 |nil=>intro ps p ρ σ _ S hW hf ha hp hg hl h0 h4;exact⟨ρ,σ,ps,p,λ_ _=>rfl,fF,S,hW,hf,hg,rfl,Xp _,XJ ..,λ_ _ _=>rfl,rfl⟩
 |cons t L ih=>
  intro ps p ρ σ hL S hW hf ha hp hg hlen h0 h4
  obtain⟨j,bk⟩:=t
  refine bc (hL (j,bk) (Xz ..)) λjF jt=>?_
  rw[Xq,Nat.add_mul,Nat.one_mul]at hp
  rw[Xq]at hlen
  refine dj (hO σ p l j S hW jF (Xl (HE jt) hlk) (bT (gj hp)) hl) λP p1 gP le1 le2 hr=>?_
  let ρ1:=au (au (au ρ 5 (.i j)) 6 (.b bk)) 7 P.enc
  let P':Pp:=if bk then .cH P else P
  let σ1:=σ.set W (wo (A.yx .aJ) W p1 l)
  have fW:f0≠W:=nN (qM hWN) hf0
  have aW:ad≠W:=nN (qM hWN) had
  have gP':GP P' (5+7 * q) (ZE q+40):=by
   refine(?_:GP (if bk then .cH P else P) _ _)
   cases bk with
   |true=>exact⟨gP.Wd,Nat.succ_le_of_lt (by have:=gP.Wo;refine(?_:P.dep < _);lia),YL gP.Wq _⟩
   |false=>exact⟨gP.Wd,by have:=gP.Wo;refine(?_:P.dep<=_);lia,Xl gP.Wq (XJ ..)⟩
  have S1:WS A H m W es bs σ1:=S.mv hWN hes nZ
  have f1:σ1[f0]? =some (.l (ps.map Pp.enc)):=(aV fW.symm).trans hf
  let σ2:=σ1.set f0 (.l ((ps++[P']).map Pp.enc))
  have ev:Ev (d+4+2 * q) 29 (.f (.v 6) (.t [.c (.s [116,117,114,110]),.v 7]) (.v 7)) ρ1 σ1 P'.enc σ1:=by
   cases bk with
   |true=>exact jC (af rfl) (bI (ac.ah aq (Xh (af rfl))))
   |false=>exact jh (af rfl) (af rfl)
  have st:ae (d+4+2 * q) 11 E9 (au (au ρ 5 (.i j)) 6 (.b bk)) σ .n ρ1 σ2:=
   ao (bh (bQ (af (i:=0) h0) hW rfl (Xh (af rfl)) hr) ba) (Xi (du (dn (af (i:=4) h4) (eI f1 rfl) (Xh ev) rfl (kN (f:=Pp.enc) P' f1 (bT (bP hlen rfl))))))
  have S2:WS A H m W es bs σ2:=S1.mv hWN hes λi hi _=>aV (nN hi hf0)
  obtain⟨ρ',τ,ps',p',k1,k2,k3,k4,k5,k6,k7,k8,k9,k10,k11⟩:=ih (ps++[P']) p1 ρ1 σ2 (λt ht=>hL t (XA _ ht)) S2 ((aV fW).trans (cR hW)) (cR f1) ((aV hfa).trans ((aV aW.symm).trans ha)) (Jx le2 hp) (λQ hQ=>(XD hQ).elim (hg Q) λh=>by rw[Xy h];exact gP') (by rw[Xn];refine(?_:ps.length+1+_<=_);exact gj hlen) h0 h4
  refine⟨ρ',τ,ps',p',λj hj=>(k1 j hj).trans (by refine(?_:au (au (au ρ 5 _) 6 _) 7 _ j=_);rw[bR _ _ (by exact kP hj rfl),bR _ _ (by exact kP hj rfl),bR _ _ (by exact gM hj)]),fc (S:=.cr ad ys) rfl st ((aV hfa).trans ((aV aW.symm).trans ha)) k2,k3,k4,k5,k6,?_,Xl le1 k8,?_,λi h1 h2=>(k10 i h1 h2).trans ((aV h2.symm).trans (aV h1.symm)),by rw[k11,XF,XF]⟩
  ·rw[k7,Xn];refine(?_:ps.length+1+L.length=ps.length+(L.length+1));exact xZ
  ·rw[Xq,Nat.add_mul,Nat.one_mul];lia
theorem SP(h:∀P∈ps,P.sz<=Z):kO ps<=ps.length * (Z+10):=by
 induction ps with
 |nil=>exact Xo _
 |cons P ps ih=>
  have:=ih λQ hQ=>h Q (XA _ hQ)
  have:=h P (Xz ..)
  refine(?_:P.sz+10+kO ps<=(ps.length+1) * (Z+10))
  rw[Nat.succ_mul];lia
theorem Fd(hO:OE d q A H m W N es bs)(hWN:W+1 < N)(hes:∀e∈es,e.2 < N):BT d q A H m W N es bs:=by
 intro σ p l a b t S hW ha cn hq hp hl
 have lW:W+1 < σ.length:=e8 S.VQ.VZ
 have hk:A.yx .aJ < W:=S.lt .aJ trivial
 let σ1:aj:=σ++[.l []]
 have le:∀e∈es,e.2 < σ.length:=λe he=>e8 (S.VQ.V5 e he)
 have S1:WS A H m W es bs σ1:=S.mv lW le (yS (lV (Xp _) _))
 have hW1:σ1[W]? =some (wo (A.yx .aJ) W p l):=bO _ _ hW
 refine u6 (TA (d+3+2 * q) S1 hW1 ha cn) λτ1 ad L c1 low1 n1 na g1 l5 ok=>?_
 have n0:σ1.length=σ.length+1:=Xn
 have low0:dl σ.length σ τ1:=(lV (Xp _) _).iW λi hi=>low1 i (i9 hi n0)
 have S2:WS A H m W es bs τ1:=S.mv lW le (yS low0)
 have adl:σ.length < ad:=qT (gL n0) na
 have hO':OE d q A H m W σ.length es bs:=hO
 obtain⟨ρ3,τ3,ps,p3,k1,k2,S3,hW3,hf3,gp,len3,le1,le2,fr3,n3⟩:=Ou hO' lW le (f0:=σ.length) (ad:=ad) (t0:=t) (ys:=kG L) (Xp _) (Yc adl) (XH adl) hl hq L [] p (au (bf [.o 3 W,.i a,.i b,.i t]) 4 (.r σ.length)) τ1 ok S2 ((low0 W (qM lW)).trans hW) ((low1 σ.length (gL n0)).trans aX) g1 (Xl (Yw (Y1 _ l5) _) hp) (λ_ h=>(nomatch h)) (by rw[XR];exact qQ l5 rfl) rfl rfl
 rw[XR,Nat.zero_add]at len3
 have z3:=SP λP hP=>(gp P hP).Wq
 have z4:ps.length * (ZE q+40+10)<=5 * (ZE q+50):=Y1 _ (qT (sY len3) l5)
 refine az (Tn (d+1+2 * q) S3.V2 S3.VY.VN ha (ps:=ps) (bP (qT (sY len3) l5) rfl) hf3 (λP hP=>⟨(gp P hP).Wd,(gp P hP).Wo⟩) (cG iO)) λP gP hj=>?_
 refine dh P p3 (⟨gP.Wd,by have:=gP.Wo;lia,by have:=gP.Wq;lia⟩) le1 (Xl le2 (Yw (Y1 _ l5) _)) ?_
 have e1:d+4+2 * q=d+3+2 * q+1:=by lia
 have e2:d+4+2 * q=d+1+2 * q+3:=by lia
 have e3:d+5+2 * q=d+4+2 * q+1:=by lia
 rw[<-e1]at c1
 rw[<-e2]at hj
 rw[e3]
 refine aL.li (f:=AC) (fl:=.r P.enc) (ρ':=ρ3) (σ':=τ3) rfl rfl (ao (bh (dp ac.an) ba) (ao (fg (S:=.cr ad (kG L)) (fe (bQ (af rfl) hW1 rfl (ac.ah (af rfl) (ac.ah (af rfl) (Xh (af rfl)))) c1) g1 (bq (by rw[Xk];exact bP l5 rfl))) k2)
  (be (bM (cw (ac.ah (dv (af (k1 0 (by decide))) rfl hW3 rfl) (ac.ah (af (k1 1 (by decide))) (Xh (af (k1 4 (by decide)))))) hj))))) ?_
 refine KB hW hk lW (IZ (λi hi=>?_) (by rw[XF,n3];exact qT (vi n0) n1)) (λm=>P.lo_enc m)
 rw[XF]at hi
 by_cases e:i=W
 ·rw[e,hW3,cR hW]
 ·rw[aV (Yp e),fr3 i e (by exact gM hi)];exact low0 i hi
end
section
variable {d n a b i j m k g q l p p':Nat}{u v w:V}{o:O}{e c:Ex}{r:Rs}{es:List (Nat×Nat)}
noncomputable abbrev nH(L:List (Nat×Nat)):List V:=L.map λt:Nat×Nat=>V.t [.i t.1,.i t.2]
theorem RF(hB:BT d q A H m W N es bs)(hWN:W+1 < N)(hes:∀e∈es,e.2 < N)(ha0:N<=a0)(hl:l+q<=100)(hlk:dT (H.aM.take j)<=q)(h0:ρ 0=some (.o 3 W))(h1:ρ 1=some (.i j)):∀(L:List (Nat×Nat)) (ps:List Pp) (p:Nat) (σ:aj),(∀t∈L,t.1 < H.KE/\Cn H.aM H.bL j t.1 t.2)->WS A H m W es bs σ->σ[W]? =some (wo (A.yx .aJ) W p l)->a0 < σ.length->p+L.length * (5 * ju q)<=20000->(∀P∈ps,GP P (10+7 * q) (5 * ZE q+310))->ps.length+L.length<=20->
  ∃(σ':aj) (ps':List Pp) (p':Nat),cV (d+5+2 * q) 27 (.m 43 (.v 0) [.v 7,.v 8,.v 1]) (.t [.v 7,.v 8]) [] [] ρ (.it a0 ys) (nH L) σ (ps.map Pp.enc) (ps'.map Pp.enc) σ'/\σ'[W]? =some (wo (A.yx .aJ) W p' l)/\WS A H m W es bs σ'/\(∀P∈ps',GP P (10+7 * q) (5 * ZE q+310))/\ps'.length=ps.length+L.length/\p<=p'/\p'<=p+L.length * (5 * ju q)/\(∀i,i≠W->i≠a0->σ'[i]? =σ[i]?)/\σ'.length=σ.length:=by
 have aW:a0≠W:=nN (qM hWN) ha0
 intro L
 induction L with
 |nil=>intro ps p σ _ S hW hx hp hg hn;exact Ia (σ.set a0 .u) ps p cV.mQ ((aV aW).trans hW) (S.mv hWN hes λi hi _=>aV (nN hi ha0)) hg rfl (Xp _) (XJ ..) (λi _ h=>aV (Yp h)) XF
 |cons t L ih=>
  intro ps p σ hL S hW hx hp hg hn
  refine bc (hL t (Xz ..)) λt1 t2=>?_
  rw[Xq,Nat.add_mul,Nat.one_mul]at hp
  rw[Xq]at hn
  let σ1:=σ.set a0 (.i (nH L))
  have S1:WS A H m W es bs σ1:=S.mv hWN hes λi hi _=>aV (nN hi ha0)
  refine dj (hB σ1 p l t.1 t.2 j S1 ((aV aW).trans hW) t1 t2 hlk (bT (gj hp)) hl) λP p1 gP le1 le2 hr=>?_
  let σ2:=σ1.set W (wo (A.yx .aJ) W p1 l)
  have hW1:σ1[W]? =some (wo (A.yx .aJ) W p l):=(aV aW).trans hW
  have S2:WS A H m W es bs σ2:=S1.mv hWN hes nZ
  refine Io (ih (ps++[P]) p1 σ2 (λt ht=>hL t (XA _ ht)) S2 (cR hW1) (by rw[XF,XF];exact hx) (Jx le2 hp) (λQ hQ=>(XD hQ).elim (hg Q) λh=>by rw[Xy h];exact gP) (by rw[Xn];refine(?_:ps.length+1+_<=_);exact gj hn)) λσ' ps' p' f1 f2 f3 f4 f5 f6 f7 f8 f9=>?_
  rw[g9]at f1
  have hG:(eM.it a0 ys).V8 (nH L) σ2:=by
   refine(?_:σ2[a0]? =some (.i (nH L)))
   rw[aV aW.symm]
   exact Zq hx
  refine Ia σ' ps' p' (cV.Wr (S:=.it a0 ys) (ρ':=au (au ρ 7 (.i t.1)) 8 (.i t.2)) rfl ej.om (jD.pH (bQ (af (i:=0) h0) hW1 rfl (ac.ah (af rfl) (ac.ah (af rfl) (Xh (af (i:=1) h1)))) hr) (bq (by rw[Xk];exact bT (bP hn rfl)))) hG f1) f2 f3 f4 ?_ (Xl le1 f6) ?_ (λi h1 h2=>(f8 i h1 h2).trans ((aV h1.symm).trans (aV h2.symm))) (by rw[f9,XF,XF])
  ·rw[f5,Xn];refine(?_:ps.length+1+L.length=ps.length+(L.length+1));exact xZ
  ·rw[Xq,Nat.add_mul,Nat.one_mul];lia
theorem vx(h0:ρ 0=some (.o cl W))(hc:fD cl nm=true)(he:Ev d 30 e ρ σ v σ₁)(hW:σ₁[W]? =some (.a cl fs))(hl:fs.length<=100):ai d (n+1) (.a (.a nm (.v 0)) e) ρ σ .n ρ (σ₁.set W (.a cl (gY fs nm v))):=
 bh he (vK (af h0) hc hW hl)
theorem mn(h0:ρ 0=some (.o 3 W))(hW:σ[W]? =some (wo k W p l))(hc:fD 3 nm=true)(hg:cA [(39,V.o 2 k),(40,.i p),(41,.i l),(42,.r (W+1))] nm=some v):Ev d (n+2) (.a nm (.v 0)) ρ σ v σ:=dv (af h0) hc hW hg
theorem Ir(d:Nat)(S:WS A H m W es bs σ)(hW:σ[W]? =some (wo (A.yx .aJ) W p l))(hp:p+1<=20000)(hE:H.aM[j]? =some (x,y,r)){rest:List St}
  (h:ae d 12 rest (au (au (au (bf [.o 3 W,.i j]) 2 (.i x)) 3 (.i y)) 4 r.gC) (σ.set W (wo (A.yx .aJ) W (p+1) l)) fl ρ' τ):
  ae d 12 (.a (.a 40 (.v 0)) (.i .a (.a 40 (.v 0)) (.c (.i 1)))::.i (.p .g (.a 40 (.v 0)) (.h 1)) [.s] []::.a (.t [.v 2,.v 3,.v 4]) (.s (.a 23 (.a 39 (.v 0))) (.v 1))::rest) (bf [.o 3 W,.i j]) σ fl ρ' τ:=by
 have lW:W+1 < σ.length:=e8 S.VQ.VZ
 have S1:WS A H m W es bs (σ.set W (wo (A.yx .aJ) W (p+1) l)):=S.mv lW (λe he=>e8 (S.VQ.V5 e he)) nZ
 have hW1:(σ.set W (wo (A.yx .aJ) W (p+1) l))[W]? =some (wo (A.yx .aJ) W (p+1) l):=cR hW
 refine ao (vx rfl rfl (bX (mn rfl hW rfl rfl) aq iy) hW (by decide:4<=100)) (ao (bC (aY (mn rfl hW1 rfl rfl) (vU rfl) ?_ trivial) aP) (ao (bh (xd 0 S1.V2 hE S1.el (mn rfl hW1 rfl rfl) rfl) (gQ rfl rfl (da ba (da ba (da ba gR))))) h))
 refine(?_:some (decide ((20000:Int) < ((p+1:Nat):Int)))=_)
 rw[XU (by lia)]
theorem HC(hE:E[j]? =some (x,y,.iX)):dT (E.take (j+1))=dT (E.take j)+1:=by
 refine aT (XS hE) λhj hx=>?_
 rw[List.take_succ_eq_append_getElem hj,BA,hx];rfl
theorem Iq(hB:∀q',q=q'+1->BT d q' A H m W N es bs)(hWN:W+1 < N)(hes:∀e∈es,e.2 < N):OE d q A H m W N es bs:=by
 intro σ p l j S hW jF hq hp hl
 have hj:=S.VY.fo j jF
 obtain⟨⟨x,y,r⟩,hE⟩:∃e,H.aM[j]? =some e:=⟨_,Yo hj⟩
 have eg:x < H.KE/\y < H.KE/\r.ok H.KE:=S.VY.eg _ (Yi hE)
 have ng:=MA q
 have zg:=NU q
 have lW:W+1 < σ.length:=e8 S.VQ.VZ
 have le:∀e∈es,e.2 < σ.length:=λe he=>e8 (S.VQ.V5 e he)
 have hk:A.yx .aJ < W:=S.lt .aJ trivial
 have S1:WS A H m W es bs (σ.set W (wo (A.yx .aJ) W (p+1) l)):=S.mv lW le nZ
 have hW1:(σ.set W (wo (A.yx .aJ) W (p+1) l))[W]? =some (wo (A.yx .aJ) W (p+1) l):=cR hW
 have e1:d+4+2 * q=d+2 * q+3+1:=by lia
 rw[e1]
 cases hr:r.eB with
 |false=>
  have gp:=IN eg.2.2 hr
  have nl:∃kd rest,r.gC=.t (.s kd::rest)/\kd≠[108,105,107,101]/\rest.length<=2:=by
   cases r with
   |mT w=>exact dN _ _ rfl (by decide) (show 1<=2 by decide)
   |lj x y=>exact dN _ _ rfl (by decide) (show 2<=2 by decide)
   |iX=>cases hr
  refine cO nl ?_;clear nl;intro kd rest he hkd hrl
  refine dh (gJ r) (p+1) (⟨gp.Wd,by have:=gp.Wo;exact d5 this,by have:=gp.Wq;exact qT this zg⟩) (Yj _) (x0 ng) (cI (f:=AE) (fl:=.r _) rfl rfl (Ir _ S hW (qT (x0 ng) hp) hE (be (cW (aY (bi (af (i:=4) (v:=.t (.s kd::rest)) (Xu some he)) aq (c9 (v:=.s kd) (bg rfl) rfl)) aq ?_ (Xo _)) (be (bM (cw (ac.ah (mn rfl hW1 rfl rfl) (Xh (af rfl))) (JO _ S1.V2 S1.VY.VN hE S1.el eg.2.2 hr))))))))
  show Option.map _ (some (decide (kd=_)))=_
  rw[XU hkd];rfl
 |true=>
  obtain rfl:r=.iX:=by cases r<;>first |rfl |cases hr
  rw[HC hE]at hq
  obtain⟨q',rfl⟩:∃q',q=q'+1:=⟨q - 1,qGz hq⟩
  have hB:=hB q' rfl
  refine cN (S.VY.lk j x y hE) λlk1 lk2 lk3=>?_
  let L:=(aN x).zip (aN y)
  have L2:L.length<=2:=by refine(?_:((aN x).zip (aN y)).length<=2);rw[List.length_zip];exact Xl (Zm _ _) (gZ x)
  let σ1:=σ.set W (wo (A.yx .aJ) W (p+1) l)
  let σ2:=σ1.set W (wo (A.yx .aJ) W (p+1) (l+1))
  have hW2:σ2[W]? =some (wo (A.yx .aJ) W (p+1) (l+1)):=cR hW1
  have n2:σ2.length=σ.length:=by rw[XF,XF]
  have S2:WS A H m W es bs σ2:=S1.mv lW le nZ
  let σ3:aj:=σ2++[.i (((av (aN x)).zip (av (aN y))).map λp=>.t [p.1,p.2]),.u,.u,.u]
  have ez:(((av (aN x)).zip (av (aN y))).map λp:V×V=>V.t [p.1,p.2])=nH L:=by rw[List.zip_map,XN];rfl
  have S3:WS A H m W es bs σ3:=S2.mv (by rw[n2];exact lW) (λe he=>by rw[n2];exact le e he) (yS (lV (Xp _) _))
  have hW3:σ3[W]? =some (wo (A.yx .aJ) W (p+1) (l+1)):=bO _ _ hW2
  let ρ1:=au (au (au (bf [.o 3 W,.i j]) 2 (.i x)) 3 (.i y)) 4 (Rs.iX).gC
  let ρ2:=au ρ1 5 (.r σ2.length)
  have hNE:ju (q'+1)=1+2 * (5 * ju q'):=rfl
  have hZE:ZE (q'+1)=2 * (5 * ZE q'+310)+45:=rfl
  have pL:L.length * (5 * ju q')<=2 * (5 * ju q'):=Y1 _ L2
  have pZ:∀n,n=L.length->n * (5 * ZE q'+310+2)<=2 * (5 * ZE q'+310+2):=λn hn=>Y1 _ (hn▸L2)
  refine Io (RF (N:=σ2.length) (hB:BT d q' A H m W σ2.length es bs) (by rw[n2];exact lW) (λe he=>by rw[n2];exact le e he) (a0:=σ2.length) (j:=j) (ys:=nH L) (l:=l+1) (Xp _) (gj hl) (jc hq) (ρ:=ρ2) rfl rfl L [] (p+1) σ3 (λt ht=>⟨nt x eg.1 _ (List.of_mem_zip (show(t.1,t.2)∈(aN x).zip (aN y) from ht)).1,lk3 t ht⟩) S3 hW3 (by refine(?_:_ < (σ2++_).length);rw[Xn];exact Nat.lt_add_of_pos_right (show 0 < 4 by decide)) (qGo hp pL hNE) (λ_ h=>(nomatch h)) (by rw[XR];exact qQ L2 rfl)) λσ4 ps p4 it hW4 S4 gp len4 le4 ge4 fr4 n4=>?_
  rw[XR,Nat.zero_add]at len4
  let P:Pp:=.cD (bv x) ps
  have eP:P.enc=.t [.s gf,.s (bv x),.t (ps.map Pp.enc)]:=by refine(?_:Pp.enc (.cD _ _)=_);rw[rI,rJ]
  have dP:∀qs:List Pp,(∀P∈qs,GP P (10+7 * q') (5 * ZE q'+310))->Pp.goods qs/\Pp.deps qs<=10+7 * q'/\Pp.szs qs<=qs.length * (5 * ZE q'+310+2):=λqs=>by
   induction qs with
   |nil=>intro _;exact fy trivial (Xo _) (Xo _)
   |cons Q qs ih=>
    intro h
    refine cN (ih λP hP=>h P (XA _ hP)) λi1 i2 i3=>?_
    have hQ:=h Q (Xz ..)
    refine fy (⟨hQ.Wd,i1⟩) (Nat.max_le.mpr ⟨hQ.Wo,i2⟩) ?_
    have:=hQ.Wq
    refine(?_:Q.sz+2+Pp.szs qs<=(qs.length+1) * _)
    rw[Nat.succ_mul];lia
  refine cN (dP ps gp) λg1 g2 g3=>?_
  have gP:GP P (4+7 * (q'+1)) (ZE (q'+1)):=⟨⟨xQ x,g1⟩,by refine(?_:Pp.deps ps+1<=_);lia,by refine(?_:(bv x).length+40+Pp.szs ps<=_);rw[xR];have:=pZ _ len4;lia⟩
  have cl:∀{s:aj},WS A H m W es bs s->∀{ρ:aA} {i z n:Nat},ρ 0=some (.o 3 W)->s[W]? =some (wo (A.yx .aJ) W (p+1) (l+1))->ρ i=some (.i z)->z < H.KE->Ev (d+2 * (q'+1)+3) (n+5) (.m 15 (.a 21 (.a 39 (.v 0))) [.v i]) ρ s (.t (av (aN z))) s:=λ{s} Ss {ρ i z n} h0 hw hi hz=>
   bQ (dv (mn h0 hw rfl rfl) rfl (dy Ss.V2) rfl) Ss.V2.gT rfl (Xh (af hi)) (td _ Ss.V2 Ss.VY.VN hz)
  have zp:Ev (d+2 * (q'+1)+3) 30 (.b .z [.m 15 (.a 21 (.a 39 (.v 0))) [.v 2],.m 15 (.a 21 (.a 39 (.v 0))) [.v 3]]) ρ1 σ2 (.r σ2.length) σ3:=ci rfl (ac.ah (cl S2 rfl hW2 rfl eg.1) (Xh (cl S2 rfl hW2 rfl eg.2.1))) Ci
  have e2:d+2 * (q'+1)+3=d+5+2 * q':=by lia
  have it':cV (d+2 * (q'+1)+3) 27 (.m 43 (.v 0) [.v 7,.v 8,.v 1]) (.t [.v 7,.v 8]) [] [] ρ2 (.it σ2.length (nH L)) (nH L) σ3 [] (ps.map Pp.enc) σ4:=by rw[e2];exact it
  have hit:σ3[σ2.length]? =some (.i (nH L)):=by rw[<-ez];exact lB _ _
  let σ5:aj:=σ4++[.l (ps.map Pp.enc)]
  have ev6:Ev (d+2 * (q'+1)+3) 30 (.t [.c (.s [117,110,100,101,114]),.m 16 (.a 21 (.a 39 (.v 0))) [.v 2],.b .t [.o (.m 43 (.v 0) [.v 7,.v 8,.v 1]) [.m (.t [.v 7,.v 8]) (.e (.v 5)) []]]]) ρ2 σ3 P.enc σ5:=by
   rw[eP]
   exact bI (ac.ah aq (ac.ah (bQ (dv (mn (nm:=39) rfl hW3 rfl rfl) rfl (dy S3.V2) rfl) S3.V2.gT rfl (Xh (af rfl)) (vo _ S3.V2 S3.VY.VN eg.1))
    (Xh (ci rfl (Xh (dU (zj (af (i:=5) rfl) hit (bq (by rw[Xk];exact bP L2 rfl))) it')) (j2 aX (bq (by rw[Xk];exact bP (qT (sY len4) L2) rfl)))))))
  have hW5:σ5[W]? =some (wo (A.yx .aJ) W p4 (l+1)):=bO _ _ hW4
  have sub1:(((l+1:Nat):Int) - 1)=(l:Nat):=qS
  have e9:ai (d+2 * (q'+1)+3) 12 (.a (.a 41 (.v 0)) (.i .s (.a 41 (.v 0)) (.c (.i 1)))) (au ρ2 6 P.enc) σ5 .n (au ρ2 6 P.enc) (σ5.set W (wo (A.yx .aJ) W p4 l)):=by
   have h:=vx (d:=d+2 * (q'+1)+3) (n:=11) (ρ:=au ρ2 6 P.enc) (nm:=41) rfl rfl (bX (mn (nm:=41) rfl hW5 rfl rfl) (aq (v:=.i 1)) j1) hW5 (by decide:4<=100)
   rw[sub1]at h;exact h
  refine dh P p4 gP (bT le4) (qGp ge4 hNE pL) (aL.li (f:=AE) (fl:=.r P.enc) (ρ':=au ρ2 6 P.enc) (σ':=σ5.set W (wo (A.yx .aJ) W p4 l)) rfl rfl (Ir _ S hW (Jw hp hNE) hE (ao (bC (aY (bi (af rfl) aq (c9 (bg rfl) rfl)) aq rfl (Xo _)) aP)
   (ao (vx rfl rfl (bX (mn rfl hW1 rfl rfl) aq iy) hW1 (by decide:4<=100)) (ao (bC (aY (mn rfl hW2 rfl rfl) (vU rfl) ?_ trivial) aP) (ao (bh zp ba) (ao (bh ev6 ba) (ao e9 (be (bM (af rfl)))))))))) ?_)
  ·show some (decide ((100:Int) < ((l+1:Nat):Int)))=_
   rw[XU (by lia)]
  ·refine KB hW hk lW (IZ (λi hi=>?_) ?_) (λm=>P.lo_enc m)
   ·rw[XF]at hi
    by_cases e:i=W
    ·rw[e,cR hW5,cR hW]
    ·rw[aV (Yp e),aV (Yp e)]
     have h4:σ4.length=σ.length+4:=by rw[n4,Xn,n2];rfl
     rw[show σ5[i]? =σ4[i]? from Ye (by exact i9 hi h4),fr4 i e (by exact gM (qT hi (gL n2))),show σ3[i]? =σ2[i]? from Ye (by exact qT hi (gL n2)),aV (Yp e),aV (Yp e)]
   ·have h4:σ4.length=σ.length+4:=by rw[n4,Xn,n2];rfl
    rw[XF,XF,Xn];exact d5 (vi h4)
theorem RE(hWN:W+1 < N)(hes:∀e∈es,e.2 < N):∀q,OE d q A H m W N es bs:=λq=>by
 induction q with
 |zero=>exact Iq (λ_ h=>nomatch h) hWN hes
 |succ q ih=>exact Iq (λq' h=>by cases h;exact Fd ih hWN hes) hWN hes
theorem HD(G:HG H m)(t:Nat):dT (H.aM.take t)<=2:=by
 have h1:dT (H.aM.take t)<=dT H.aM:=List.Sublist.countP_le (List.take_sublist _ _)
 have h2:=G.nl
 have:∀x y,kE x y<=1:=λx y=>by unfold kE;split<;>decide
 exact Xl h1 (Xl h2 (Y3 (this _ _) (this _ _)))
theorem TT(d:Nat)(S:WS A H m W es bs σ)(hW:σ[W]? =some (wo (A.yx .aJ) W p l))(ha:a < H.KE)(hb:b < H.KE)(hab:H.rt a=H.rt b):
  ∃P p',GP P 24 86885/\aL (d+10) 34 [.o 3 W,.i a,.i b] σ P.enc (σ.set W (wo (A.yx .aJ) W p' 0)):=by
 have lW:W+1 < σ.length:=e8 S.VQ.VZ
 have le:∀e∈es,e.2 < σ.length:=λe he=>e8 (S.VQ.V5 e he)
 let σ1:=σ.set W (wo (A.yx .aJ) W 0 l)
 let σ2:=σ1.set W (wo (A.yx .aJ) W 0 0)
 have hW1:σ1[W]? =some (wo (A.yx .aJ) W 0 l):=cR hW
 have hW2:σ2[W]? =some (wo (A.yx .aJ) W 0 0):=cR hW1
 have S2:WS A H m W es bs σ2:=(S.mv lW le nZ).mv lW le nZ
 refine dj (Fd (q:=2) (RE (d:=d) lW le 2) lW le σ2 0 0 a b H.aM.length S2 hW2 ha (S.VY.y0 ha hb hab) (HD S.VY _) (by decide) (by decide)) λP p' gP _ _ h=>?_
 refine eE P p' gP ?_
 have en:((H.aM.map jU).length:Int)=(H.aM.length:Nat):=by rw[Xk]
 have e:σ2.set W (wo (A.yx .aJ) W p' 0)=σ.set W (wo (A.yx .aJ) W p' 0):=by rw[Yl,Yl]
 rw[e]at h
 exact cI (f:=Gx) (fl:=.r _) rfl rfl (ao (bh (bI (ac.ah aq (Xh aq))) (gQ rfl rfl (da (vK (af rfl) rfl hW (by decide:4<=100)) (da (vK (af rfl) rfl hW1 (by decide:4<=100)) gR))))
  (be (bM (bQ (af rfl) hW2 rfl (ac.ah (af rfl) (ac.ah (af rfl) (Xh (en▸ci rfl (Xh (dv (mn rfl hW2 rfl rfl) rfl (dy S2.V2) rfl)) (fB (S2.V2.aZ .fH trivial) (bq (by rw[Xk];exact S.el))))))) h))))
end
set_option genCtorIdx false in
inductive ig where
 |gV (j:Nat) (t:Bool)
 |mX
 |oO (m:Nat)
variable {wy:ig}
noncomputable def ig.iK:ig->V
 | .gV j t=>.t [.s [101,100,103,101],.i j,.b t]
 | .mX=>.t [.s [108,105,107,101]]
 | .oO m=>.t [.s [111,118,101,114],.i m]
structure SH where
 Vl:Nat->Nat->Option Nat
 wf:Nat->Nat->Option ig
 VV:Option Bool
variable {s':SH}{step:SH->Nat->SH}
noncomputable def gN(f:Nat->Nat->Option α)(a b:Nat)(v:α):Nat->Nat->Option α:=λx y=>if x=a/\y=b then some v else f x y
noncomputable def SH.fX(s:SH)(a b c:Nat):Bool:=match s.Vl a b with
 |some c0=>decide (c < c0)
 |none=>true
noncomputable def SH.oI(s:SH)(a b c:Nat)(w:ig):SH:=⟨gN s.Vl a b c,gN s.wf a b w,some true⟩
noncomputable def SH.gD(s:SH)(a b c:Nat)(w:ig):SH:=if s.fX a b c then s.oI a b c w else s
noncomputable def kz(a b:Nat):List (Nat×Nat):=(aN a).zip (aN b)
noncomputable def jY(cf:Nat->Nat->Option Nat)(a b:Nat):Nat:=((kz a b).map λp=>(cf p.1 p.2).getD 0).sum
noncomputable def qB(a b:Nat):Bool:=decide (a≠b)&&(decide (bv a=bv b)&&decide ((aN a).length=(aN b).length))
noncomputable def SH.oH(s:SH)(a b:Nat):SH:=if qB a b&&(kz a b).all (λp=>(s.Vl p.1 p.2).isSome)then s.gD a b (jY s.Vl a b) .mX else s
noncomputable def SH.mV(s:SH)(m a b:Nat):SH:=match s.Vl a m with
 |none=>s
 |some c1=>match s.Vl m b with
  |none=>s
  |some c2=>s.gD a b (c1+c2) (.oO m)
noncomputable def fM(f:Nat->Nat->Option α):Nat:=(List.range 36).countP λi=>(f (i / 6) (i % 6)).isSome
noncomputable def mc:Nat:=1099511627776
noncomputable def SH.ms(s:SH):Nat:=((List.range 36).map λi=>(s.Vl (i / 6) (i % 6)).getD mc).sum
noncomputable def r8(E:d7)(cf:Nat->Nat->Option Nat)(a b x:Nat):ig->Prop
 | .gV j _=>∃e1 e2 r,E[j]? =some (e1,e2,r)/\r.eB=false
 | .mX=>bv a=bv b/\(∀p∈kz a b,∃y,cf p.1 p.2=some y)/\jY cf a b<=x
 | .oO m=>m≠a/\m≠b/\∃c1 c2,cf a m=some c1/\cf m b=some c2/\c1+c2<=x
structure SI(E:d7)(c:Nat)(s:SH):Prop where
 c6:c<=6
 dg:∀a,a < c->s.Vl a a=some 0
 dm:∀a b x,s.Vl a b=some x->a < c/\b < c
 po:∀a b x,s.Vl a b=some x->a≠b->1<=x
 Wc:∀a b x,s.Vl a b=some x->x<=2 ^ fM s.Vl
 WO:∀a b x,s.Vl a b=some x->a≠b->∃w,s.wf a b=some w/\r8 E s.Vl a b x w
section
variable {c a b m i j k n:Nat}{s:SH}{w:ig}
theorem z7{f:Nat->Nat->Option α}:fM f<=36:=by have:fM f<=(List.range 36).length:=List.countP_le_length;rwa [XO]at this
theorem nT{f:Nat->Nat->Option α}{v:α}:gN f a b v a b=some v:=Xr ⟨rfl,rfl⟩
theorem qY{f:Nat->Nat->Option α}{v:α}(h:¬(x=a/\y=b)):gN f a b v x y=f x y:=Xv h
theorem Fz{l:List α}{p q:α->Bool}(h:∀z,p z=true->q z=true){z:α}(hz:z∈l)(hp:p z=false)(hq:q z=true):l.countP p+1<=l.countP q:=by
 induction l with
 |nil=>cases hz
 |cons u l ih=>
  rw[List.countP_cons,List.countP_cons]
  have hm:l.countP p<=l.countP q:=List.countP_mono_left λz _=>h z
  rcases XC hz with rfl |hz
  ·rw[hp,hq];exact Yx hm
  ·have:=ih hz
   have hu:=h u
   cases h1:p u with
   |false=>rw[Xv (by decide:¬false=true)];lia
   |true=>rw[hu h1];exact Yx this
theorem zW(ha:a < 6)(hb:b < 6):(a * 6+b) / 6=a/\(a * 6+b) % 6=b/\a * 6+b∈List.range 36:=⟨qGk hb,qGl hb,Y2 (by lia)⟩
theorem Fs{f:Nat->Nat->Option α}{v:α}:fM f<=fM (gN f a b v):=List.countP_mono_left λi _ h=>by
 unfold gN;split
 ·rfl
 ·exact h
theorem Fr{f:Nat->Nat->Option α}{v:α}(ha:a < 6)(hb:b < 6)(h:f a b=none):fM f+1<=fM (gN f a b v):=by
 refine cN (zW ha hb) λe1 e2 e3=>?_
 exact Fz (λi h=>by unfold gN;split;rfl;exact h) e3 (by rw[e1,e2,h];rfl) (by rw[e1,e2,nT];rfl)
theorem yo{l:List α}{f g:α->Nat}(h:∀z∈l,f z<=g z):(l.map f).sum<=(l.map g).sum:=by
 induction l with
 |nil=>exact Xp _
 |cons u l ih=>exact Y3 (h u (Xz ..)) (ih λz hz=>h z (XA _ hz))
theorem UN{l:List α}{f g:α->Nat}(h:∀z∈l,f z<=g z){z:α}(hz:z∈l)(hlt:f z < g z):(l.map f).sum < (l.map g).sum:=by
 induction l with
 |nil=>cases hz
 |cons u l ih=>
  have hu:=h u (Xz ..)
  have hr:=yo λz hz=>h z (XA _ hz)
  refine(?_:f u+_ < g u+_)
  rcases XC hz with rfl |hz
  ·exact Nat.add_lt_add_of_lt_of_le hlt hr
  ·exact Nat.add_lt_add_of_le_of_lt hu (ih (λz hz=>h z (XA _ hz)) hz)
noncomputable def Le(cf cf':Nat->Nat->Option Nat):Prop:=∀a b x,cf a b=some x->∃y,cf' a b=some y/\y<=x
theorem wc(cf:Nat->Nat->Option Nat):Le cf cf:=λ_ _ x h=>aC x h (Xp _)
theorem Le.DN{cf'':Nat->Nat->Option Nat}(h:Le cf cf')(h2:Le cf' cf''):Le cf cf'':=λa b x q=>by
 refine az (h a b x q) λy q1 q2=>?_
 refine az (h2 a b y q1) λz q3 q4=>?_
 exact aC z q3 (Xl q4 q2)
theorem QB(h:Le cf cf')(hk:∀p∈kz a b,∃y,cf p.1 p.2=some y):jY cf' a b<=jY cf a b:=yo λp hp=>by
 refine aT (hk p hp) λy hy=>?_
 refine az (h _ _ _ hy) λz hz hl=>?_
 rw[hy,hz];exact hl
theorem r8.le(h:Le cf cf')(hx:x<=y)(k:r8 E cf a b x w):r8 E cf' a b y w:=by
 cases w with
 |gV j t=>exact k
 |mX=>exact fy k.1 (λp hp=>(k.2.1 p hp).elim λy hy=>(h _ _ _ hy).elim λz hz=>⟨z,hz.1⟩) (Xl (QB h k.2.1) (Xl k.2.2 hx))
 |oO m=>
  obtain⟨h1,h2,c1,c2,e1,e2,h3⟩:=k
  refine az (h _ _ _ e1) λd1 f1 g1=>?_
  refine az (h _ _ _ e2) λd2 f2 g2=>?_
  exact⟨h1,h2,d1,d2,f1,f2,Xl (Y3 g1 g2) (Xl h3 hx)⟩
theorem uz(h:s.fX a b k=true):Le s.Vl (s.oI a b k w).Vl:=λx y z hz=>by
 by_cases e:x=a/\y=b
 ·refine bc e ?_;clear e;intro q0 q1;subst q0;subst q1
  unfold SH.fX at h
  rw[hz]at h
  exact aC k nT (Yc (XQ h))
 ·exact aC z ((qY e).trans hz) (Xp _)
theorem xW(h:n<=m):2 ^ n<=2 ^ m:=Nat.pow_le_pow_right (by decide) h
theorem SI.zB(I:SI E c s)(ha:a < c)(h:s.fX a b k=true):a≠b:=λe=>by
 subst e;unfold SH.fX at h;rw[I.dg a ha]at h;exact absurd (XQ h) (YX _)
theorem SI.Ng(I:SI E c s)(ha:a < c)(hb:b < c)(h:s.fX a b k=true)(h1:1<=k)(hk:k<=2 * 2 ^ fM s.Vl)(hw:r8 E s.Vl a b k w):SI E c (s.oI a b k w):=by
 have ne:=I.zB ha h
 have cu:2 ^ fM s.Vl<=2 ^ fM (s.oI a b k w).Vl:=xW Fs
 have kb:k<=2 ^ fM (s.oI a b k w).Vl:=by
  cases hc:s.Vl a b with
  |none=>exact Xl hk (by rw[<-Nat.pow_succ'];exact xW (Fr (XB ha I.c6) (XB hb I.c6) hc))
  |some c0=>unfold SH.fX at h;rw[hc]at h;exact Xl (Yc (XQ h)) (Xl (I.Wc _ _ _ hc) cu)
 have cases_:∀{x y z:Nat},(s.oI a b k w).Vl x y=some z->(x=a/\y=b/\z=k)∨(¬(x=a/\y=b)/\s.Vl x y=some z):=λ{x y z} hz=>by
  by_cases e:x=a/\y=b
  ·refine bc e ?_;clear e;intro q0 q1;subst q0;subst q1;exact .inl ⟨rfl,rfl,(Xs (nT.symm.trans hz)).symm⟩
  ·exact .inr ⟨e,(qY e).symm.trans hz⟩
 refine⟨I.c6,λx hx=>(qY λe=>ne (e.1.symm.trans e.2)).trans (I.dg x hx),λx y z hz=>?_,λx y z hz hn=>?_,λx y z hz=>?_,λx y z hz hn=>?_⟩
 ·rcases cases_ hz with⟨rfl,rfl,_⟩ | ⟨_,q⟩
  ·exact bm ha hb
  ·exact I.dm _ _ _ q
 ·rcases cases_ hz with⟨_,_,rfl⟩ | ⟨_,q⟩
  ·exact h1
  ·exact I.po _ _ _ q hn
 ·rcases cases_ hz with⟨_,_,rfl⟩ | ⟨_,q⟩
  ·exact kb
  ·exact Xl (I.Wc _ _ _ q) cu
 ·rcases cases_ hz with⟨rfl,rfl,rfl⟩ | ⟨e,q⟩
  ·exact aC w nT (hw.le (uz h) (Xp _))
  ·refine az (I.WO _ _ _ q hn) λw' q1 q2=>?_
   exact aC w' ((qY e).trans q1) (q2.le (uz h) (Xp _))
theorem SI.Nf(I:SI E c s)(h:s.Vl a b=some x):x<=68719476736:=Xl (I.Wc _ _ _ h) (Xl (xW z7) (by decide))
theorem SI.En(I:SI E c s)(ha:a < c)(hb:b < c)(h:s.fX a b k=true)(hk:k<=2 * 2 ^ fM s.Vl):(s.oI a b k w).ms < s.ms:=by
 refine cN (zW (XB ha I.c6) (XB hb I.c6)) λe1 e2 e3=>?_
 have kl:k < mc:=YB hk (YB (Nat.mul_le_mul_left 2 (xW z7)) (by decide))
 have one:k < (s.Vl a b).getD mc:=by
  unfold SH.fX at h
  cases hc:s.Vl a b with
  |none=>exact kl
  |some c0=>rw[hc]at h;exact XQ h
 refine UN (λi _=>?_) e3 (by rw[e1,e2];refine(?_:(gN s.Vl a b k a b).getD mc < _);rw[nT];exact one)
 refine(?_:(gN s.Vl a b k _ _).getD mc<=_)
 by_cases e:i / 6=a/\i % 6=b
 ·rw[e.1,e.2,nT];exact Yc one
 ·rw[qY e];exact Xp _
structure SR(E:d7)(c:Nat)(s s':SH):Prop where
 Wg:SI E c s->SI E c s'
 WD:Le s.Vl s'.Vl
 Wi:SI E c s->s'=s∨(s'.VV=some true/\s'.ms < s.ms)
theorem SR.p9(s:SH):SR E c s s:=⟨id,wc _,λ_=>.inl rfl⟩
theorem SR.uc{s'':SH}(h:SR E c s s')(h2:SR E c s' s''):SR E c s s'':=⟨λI=>h2.Wg (h.Wg I),h.WD.DN h2.WD,λI=>by
 rcases h2.Wi (h.Wg I)with e |e
 ·rw[e];exact h.Wi I
 ·rcases h.Wi I with e' |e'
  ·rw[e']at e;exact .inr e
  ·exact .inr ⟨e.1,Nat.lt_trans e.2 e'.2⟩⟩
theorem SR.wC(ha:a < c)(hb:b < c)(h:SI E c s->s.fX a b k=true->a≠b->1<=k/\k<=2 * 2 ^ fM s.Vl/\r8 E s.Vl a b k w):SR E c s (s.gD a b k w):=by
 unfold SH.gD
 split
 ·rename_i he
  exact⟨λI=>let⟨h1,h2,h3⟩:=h I he (I.zB ha he);I.Ng ha hb he h1 h2 h3,uz he,λI=>.inr ⟨rfl,I.En ha hb he (h I he (I.zB ha he)).2.1⟩⟩
 ·exact .p9 s
theorem Hs(a:Nat)(ha:a < 6)(b:Nat)(hb:b < 6)(ho:bv a=bv b)(hn:a≠b):(kz a b=[(0,1)]∨kz a b=[(1,0)]∨kz a b=[(0,1),(1,0)]∨kz a b=[(1,0),(0,1)])/\2<=a/\2<=b:=by
 rcases HA ha hb ho hn with⟨rfl,rfl⟩ | ⟨rfl,rfl⟩ | ⟨rfl,rfl⟩ | ⟨rfl,rfl⟩<;>decide
theorem SR.ub(ha:a < c)(hb:b < c):SR E c s (s.oH a b):=by
 unfold SH.oH
 split
 ·rename_i hc
  rw[YD]at hc
  refine bc hc ?_;clear hc;intro h1 h2
  unfold qB at h1
  rw[YD,YD]at h1
  have op:=XQ h1.2.1
  refine .wC ha hb λI he ne=>?_
  have hk:∀p∈kz a b,∃y,s.Vl p.1 p.2=some y:=λp hp=>Option.isSome_iff_exists.mp (YG h2 p hp)
  have kf:=(Hs a (XB ha I.c6) b (XB hb I.c6) op ne).1
  have one:∀{u v:Nat},u≠v->(∃y,s.Vl u v=some y)->1<=(s.Vl u v).getD 0/\(s.Vl u v).getD 0<=2 ^ fM s.Vl:=λhn ⟨y,hy⟩=>by rw[hy];exact bm (I.po _ _ _ hy hn) (I.Wc _ _ _ hy)
  have fin:1<=jY s.Vl a b/\jY s.Vl a b<=2 * 2 ^ fM s.Vl:=by
   unfold jY
   rcases kf with e |e |e |e<;>rw[e]at hk ⊢
   ·have:=one (u:=0) (v:=1) (by decide) (hk (0,1) (by decide));refine(?_:1<=(s.Vl 0 1).getD 0+0/\(s.Vl 0 1).getD 0+0<=_);exact Jy this
   ·have:=one (u:=1) (v:=0) (by decide) (hk (1,0) (by decide));refine(?_:1<=(s.Vl 1 0).getD 0+0/\(s.Vl 1 0).getD 0+0<=_);exact Jy this
   ·have:=one (u:=0) (v:=1) (by decide) (hk (0,1) (by decide));have:=one (u:=1) (v:=0) (by decide) (hk (1,0) (by decide));refine(?_:1<=(s.Vl 0 1).getD 0+((s.Vl 1 0).getD 0+0)/\(s.Vl 0 1).getD 0+((s.Vl 1 0).getD 0+0)<=_);lia
   ·have:=one (u:=0) (v:=1) (by decide) (hk (0,1) (by decide));have:=one (u:=1) (v:=0) (by decide) (hk (1,0) (by decide));refine(?_:1<=(s.Vl 1 0).getD 0+((s.Vl 0 1).getD 0+0)/\(s.Vl 1 0).getD 0+((s.Vl 0 1).getD 0+0)<=_);lia
  exact BG fin.1 fin.2 op hk (Xp _)
 ·exact .p9 s
set_option tactic.hygienic true in
theorem SR.wD(ha:a < c)(hb:b < c):SR E c s (s.mV m a b):=by
 unfold SH.mV
 split
 ·exact .p9 s
 ·rename_i c1 h1
  split
  ·exact .p9 s
  ·rename_i c2 h2
   refine .wC ha hb λI he ne=>?_
   have ma:m≠a:=λe=>by
    subst e
    rw[I.dg m ha]at h1;cases h1
    unfold SH.fX at he;rw[h2,Nat.zero_add]at he
    exact absurd (XQ he) (YQ _)
   have mb:m≠b:=λe=>by
    subst e
    rw[I.dg m hb]at h2;cases h2
    unfold SH.fX at he;rw[h1]at he
    exact absurd (XQ he) (YQ _)
   have b1:=I.Wc _ _ _ h1
   have b2:=I.Wc _ _ _ h2
   exact⟨Xl (I.po _ _ _ h1 ma.symm) (XJ ..),x7 b1 b2,ma,mb,c1,c2,h1,h2,Xp _⟩
theorem SR.lr{l:List α}{f:SH->α->SH}(h:∀s,∀z∈l,SR E c s (f s z)):∀s,SR E c s (l.foldl f s):=by
 induction l with
 |nil=>exact λs=>.p9 s
 |cons z l ih=>exact λs=>(h s z (Xz ..)).uc (ih (λs u hu=>h s u (XA _ hu)) _)
theorem sB{l:List α}{f:SH->α->SH}(h:∀s,∀z∈l,SR E c s (f s z))(I:SI E c s)(hs:(l.foldl f s).ms=s.ms):l.foldl f s=s/\∀z∈l,f s z=s:=by
 induction l generalizing s with
 |nil=>exact bm rfl (λ_ h=>(nomatch h))
 |cons z l ih=>
  have h1:=h s z (Xz ..)
  have hl:∀s,∀z∈l,SR E c s (f s z):=λs u hu=>h s u (XA _ hu)
  have h2:=SR.lr hl (f s z)
  have m1:(f s z).ms<=s.ms:=(h1.Wi I).elim (λe=>by rw[e];exact Xp _) λe=>Yc e.2
  have m2:(l.foldl f (f s z)).ms<=(f s z).ms:=(h2.Wi (h1.Wg I)).elim (λe=>by rw[e];exact Xp _) λe=>Yc e.2
  have hs:(l.foldl f (f s z)).ms=s.ms:=hs
  have e1:f s z=s:=(h1.Wi I).resolve_right λe=>by have:=e.2;lia
  refine(?_:l.foldl f (f s z)=s/\_)
  rw[e1]at hs ⊢
  refine bc (ih hl I hs) λq1 q2=>?_
  exact bm q1 (λu hu=>(XC hu).elim (λe=>by rw[e];exact e1) (q2 u))
noncomputable def SH.p8(s:SH)(lot:List Nat):SH:=lot.foldl (λs a=>lot.foldl (λs b=>s.oH a b) s) s
noncomputable def SH.t9(s:SH)(lot:List Nat):SH:=lot.foldl (λs m=>lot.foldl (λs a=>lot.foldl (λs b=>s.mV m a b) s) s) s
noncomputable def SH.rT(s:SH)(lots:List (List Nat)):SH:=lots.foldl (λs lot=>(s.p8 lot).t9 lot) s
theorem wA(h:∀z∈lot,z < c)(s:SH):SR E c s (s.p8 lot):=.lr (λs a ha=>.lr (λs b hb=>.ub (h a ha) (h b hb)) s) s
theorem SR.wB(h:∀z∈lot,z < c)(s:SH):SR E c s (s.t9 lot):=.lr (λs m _=>.lr (λs a ha=>.lr (λs b hb=>.wD (h a ha) (h b hb)) s) s) s
theorem Ni(h:∀lot∈lots,∀z∈lot,z < c)(s:SH):SR E c s (s.rT lots):=.lr (λs lot hl=>(wA (h lot hl) s).uc (.wB (h lot hl) _)) s
structure SC(s:SH)(lots:List (List Nat)):Prop where
 lk:∀lot∈lots,∀a∈lot,∀b∈lot,qB a b=true->(∀p∈kz a b,∃y,s.Vl p.1 p.2=some y)->∃y,s.Vl a b=some y/\y<=jY s.Vl a b
 W1:∀lot∈lots,∀m∈lot,∀a∈lot,∀b∈lot,∀c1 c2,s.Vl a m=some c1->s.Vl m b=some c2->∃y,s.Vl a b=some y/\y<=c1+c2
theorem Hw(I:SI E c s)(ha:a < c)(hb:b < c)(hk:s.fX a b k=true->k<=2 * 2 ^ fM s.Vl)(h:s.gD a b k w=s):∃y,s.Vl a b=some y/\y<=k:=by
 unfold SH.gD at h
 cases he:s.fX a b k with
 |true=>
  rw[Xr he]at h
  have:=I.En (w:=w) ha hb he (hk he)
  rw[h]at this;exact absurd this (YQ _)
 |false=>
  unfold SH.fX at he
  cases hc:s.Vl a b with
  |none=>rw[hc]at he;cases he
  |some c0=>rw[hc]at he;exact aC c0 rfl (Nat.le_of_not_lt (of_decide_eq_false he))
theorem Nd(hl:∀lot∈lots,∀z∈lot,z < c)(I:SI E c s)(h:(s.rT lots).ms=s.ms):SC s lots:=by
 refine bc (sB (λs lot hlot=>(wA (hl lot hlot) s).uc (.wB (hl lot hlot) _)) I h) λ_ h1=>?_
 have pw:∀lot∈lots,s.p8 lot=s/\s.t9 lot=s:=λlot hlot=>by
  have e:=h1 lot hlot
  have r1:=wA (E:=E) (hl lot hlot) s
  have r2:=SR.wB (E:=E) (hl lot hlot) (s.p8 lot)
  rcases r1.Wi I with q |q
  ·rw[q]at e;exact bm q e
  ·exfalso
   rcases r2.Wi (r1.Wg I)with q2 |q2
   ·rw[q2]at e;rw[e]at q;exact absurd q.2 (YQ _)
   ·rw[e]at q2;exact absurd (Nat.lt_trans q2.2 q.2) (YQ _)
 refine⟨λlot hlot a ha b hb hc hk=>?_,λlot hlot m hm a ha b hb c1 c2 e1 e2=>?_⟩
 ·have hz:=hl lot hlot
  refine bc (sB (l:=lot) (λs a ha=>.lr (λs b hb=>.ub (hz a ha) (hz b hb)) s) I (by rw[show lot.foldl _ s=s from(pw lot hlot).1])) λ_ f1=>?_
  refine bc (sB (l:=lot) (λs b hb=>.ub (hz a ha) (hz b hb)) I (by rw[f1 a ha])) λ_ f2=>?_
  have f3:=f2 b hb
  unfold SH.oH at f3
  rw[hc,List.all_eq_true.mpr λp hp=>Option.isSome_iff_exists.mpr (hk p hp)]at f3
  have f3:s.gD a b (jY s.Vl a b) .mX=s:=f3
  refine Hw I (hz a ha) (hz b hb) (λhe=>?_) f3
  have q:=SR.ub (E:=E) (s:=s) (hz a ha) (hz b hb)
  have kb:jY s.Vl a b<=((kz a b).map λ_=>2 ^ fM s.Vl).sum:=yo λp hp=>by refine aT (hk p hp) λy hy=>?_;rw[hy];exact I.Wc _ _ _ hy
  have l2:(kz a b).length<=2:=by refine(?_:((aN a).zip (aN b)).length<=2);rw[List.length_zip];exact Xl (Zm _ _) (gZ a)
  rw[List.map_const',List.sum_replicate_nat]at kb
  exact Xl kb (Y1 _ l2)
 ·have hz:=hl lot hlot
  refine bc (sB (l:=lot) (λs m _=>.lr (λs a ha=>.lr (λs b hb=>.wD (hz a ha) (hz b hb)) s) s) I (by rw[show lot.foldl _ s=s from(pw lot hlot).2])) λ_ f1=>?_
  refine bc (sB (l:=lot) (λs a ha=>.lr (λs b hb=>.wD (m:=m) (hz a ha) (hz b hb)) s) I (by rw[f1 m hm])) λ_ f2=>?_
  refine bc (sB (l:=lot) (λs b hb=>.wD (m:=m) (hz a ha) (hz b hb)) I (by rw[f2 a ha])) λ_ f3=>?_
  have f4:=f3 b hb
  unfold SH.mV at f4
  simp only[e1,e2]at f4
  have b1:=I.Wc _ _ _ e1
  have b2:=I.Wc _ _ _ e2
  exact Hw I (hz a ha) (hz b hb) (λ_=>x7 b1 b2) f4
end
structure TD{α:Type}(enc:α->V)(es:List (List KV×V))(f:Nat->Nat->Option α):Prop where
 rX:∀a b:Nat,cA es [.inr (a:Int),.inr (b:Int)]=(f a b).map enc
 zG:es.length<=fM f
 lo:∀e∈es,∀m,e.2.lo m=true
noncomputable def fZ(h W:Nat)(t:Option Bool):List (Nat×V):=(39,.o 2 h)::(46,.r (W+1))::(47,.r (W+2))::match t with
 |none=>[]
 |some b=>[(49,.b b)]
structure SS(A:Ad)(H:HS)(m W:Nat)(s:SH)(σ:aj):Prop where
 VO:HR A H σ
 VR:HG H m
 lt:∀s,H.ok s->A.yx s < W
 VW:σ[W]? =some (.a 4 (fZ (A.yx .aJ) W s.VV))
 cs:∃es,σ[W+1]? =some (.t es)/\TD (λn:Nat=>V.i n) es s.Vl
 Wj:∃es,σ[W+2]? =some (.t es)/\TD ig.iK es s.wf
structure cz(N W:Nat)(σ τ:aj):Prop where
 V3:∀i,i < N->i≠W->i≠W+1->i≠W+2->τ[i]? =σ[i]?
 Wn:σ.length<=τ.length
section
variable {d n a b i j k m q l c:Nat}{u v w:V}{o:O}{e:Ex}{r:Rs}{s:SH}{enc:α->V}{es:List (List KV×V)}{f:Nat->Nat->Option α}
theorem mK:cz N W σ σ:=⟨λ_ _ _ _ _=>rfl,Xp _⟩
theorem cz.jm(h:cz N W σ σ₁)(h2:cz N W σ₁ τ):cz N W σ τ:=⟨λi h0 h1 h3 h4=>(h2.V3 i h0 h1 h3 h4).trans (h.V3 i h0 h1 h3 h4),Xl h.Wn h2.Wn⟩
theorem yR(h:N<=σ.length)(g:aj):cz N W σ (σ++g):=⟨λi hi _ _ _=>Ye (XB hi h),by rw[Xn];exact XJ ..⟩
theorem tM(h:a=W∨a=W+1∨a=W+2∨N<=a):cz N W σ (σ.set a o):=⟨λi hi h1 h2 h3=>aV (by lia),by rw[XF];exact Xp _⟩
theorem N5[DecidableEq κ]{es:List (κ×V)}{k:κ}:cA (es.map λe=>if e.1=k then(e.1,v)else e) k'=if k'=k then(cA es k').map λ_=>v else cA es k':=by
 unfold cA
 induction es with
 |nil=>split<;>rfl
 |cons e es ih=>
  rw[Xw,Zi,Zi]
  by_cases h:e.1=k
  ·rw[Xr h]
   by_cases h2:e.1=k'
   ·have:k'=k:=h2.symm.trans h
    simp[h2,this]
   ·have h3:k'≠k:=λq=>h2 (h.trans q.symm)
    rw[Xv h3]at ih ⊢
    simp only[XU h2]
    exact ih
  ·rw[Xv h]
   by_cases h2:e.1=k'
   ·have h3:k'≠k:=λq=>h (h2.trans q)
    simp[h2,h3]
   ·simp only[XU h2]
    exact ih
theorem N3[DecidableEq κ]{es:List (κ×V)}{k:κ}:cA (eC es k v) k'=if k'=k then some v else cA es k':=by
 unfold eC
 split
 ·rename_i h
  rw[N5]
  split
  ·rename_i hk
   subst hk
   refine az (List.any_eq_true.mp h) λe he hq=>?_
   unfold cA
   cases hf:es.find? λe=>decide (e.1=k')with
   |none=>exact absurd hq (List.find?_eq_none.mp hf e he)
   |some _=>rfl
  ·rfl
 ·rename_i h
  unfold cA
  rw[List.find?_append,Option.map_or]
  by_cases hk:k'=k
  ·subst hk
   rw[Xr rfl]
   have:es.find? (λe=>decide (e.1=k'))=none:=List.find?_eq_none.mpr λe he hq=>h (List.any_eq_true.mpr (aC e he hq))
   rw[this];simp
  ·rw[Xv hk];simp[Yp hk]
theorem Qt(h:([.inr (x:Int),.inr (y:Int)]:List KV)=[.inr (a:Int),.inr (b:Int)]):x=a/\y=b:=by
 have h1:=List.cons.inj h
 have h2:=List.cons.inj h1.2
 exact bm (Int.ofNat.inj (Sum.inr.inj h1.1)) (Int.ofNat.inj (Sum.inr.inj h2.1))
theorem TD.zJ(T:TD enc es f)(ha:a < 6)(hb:b < 6)(z:α)(hz:∀m,(enc z).lo m=true):TD enc (eC es [.inr (a:Int),.inr (b:Int)] (enc z)) (gN f a b z):=by
 refine⟨λx y=>?_,?_,λe he=>?_⟩
 ·rw[N3]
  by_cases h:x=a/\y=b
  ·refine bc h ?_;clear h;intro q0 q1;subst q0;subst q1
   rw[Xr rfl,nT];rfl
  ·rw[Xv λq=>h (Qt q),qY h];exact T.rX x y
 ·unfold eC
  split
  ·rw[Xk];exact Xl T.zG Fs
  ·rename_i h
   rw[Xn]
   have hn:f a b=none:=by
    have g:=T.rX a b
    cases hf:f a b with
    |none=>rfl
    |some z=>
     rw[hf]at g
     exact absurd (List.any_eq_true.mpr (aC _ (zU g) (XL rfl))) h
   exact Xl (Yx T.zG) (Fr ha hb hn)
 ·unfold eC at he
  split at he
  ·refine az (XY he) λe' h1 h2=>?_
   split at h2
   ·rw[<-h2];exact hz
   ·rw[<-h2];exact T.lo e' h1
  ·rcases XD he with h |h
   ·exact T.lo e h
   ·rw[Xy h];exact hz
theorem TD.zI(T:TD enc es f):oR (.t es)<=aK:=Xl T.zG (Xl z7 (by decide))
theorem w6(a b:Nat):fu (.t es) (.t [.i a,.i b])=some (cA es [.inr (a:Int),.inr (b:Int)]):=rfl
theorem Ae(a b:Nat):fO (.t es) (.t [.i a,.i b]) v=some (.t (eC es [.inr (a:Int),.inr (b:Int)] v)):=rfl
theorem SS.mv(S:SS A H m W s σ)(h:∀i,i < W+3->τ[i]? =σ[i]?):SS A H m W s τ:=⟨⟨S.VO.eT,λz hz=>by have:=S.lt z hz;rw[h _ (by exact d5 this)];exact S.VO.aZ z hz⟩,S.VR,S.lt,(h _ (jb pi)).trans S.VW,S.cs.elim λes q=>(aC es ((h _ (vh (Cp rfl))).trans q.1) q.2),S.Wj.elim λes q=>(aC es ((h _ pi).trans q.1) q.2)⟩
theorem SS.rU(S:SS A H m W s σ):W+2 < σ.length:=S.Wj.elim λ_ q=>e8 q.1
theorem SS.mW(S:SS A H m W s σ)(g:aj):SS A H m W s (σ++g):=S.mv λi hi=>Ye (by have:=S.rU;exact qT hi this)
theorem jV(S:SS A H m W s σ)(h0:ρ 0=some (.o 4 W))(hc:fD 4 nm=true)(hg:cA [(39,V.o 2 (A.yx .aJ)),(46,.r (W+1)),(47,.r (W+2))] nm=some v):Ev d (n+2) (.a nm (.v 0)) ρ σ v σ:=by
 refine dv (af h0) hc S.VW ?_
 unfold fZ cA at *
 rw[show ∀l:List (Nat×V),((39,V.o 2 (A.yx .aJ))::(46,.r (W+1))::(47,.r (W+2))::l)=[(39,V.o 2 (A.yx .aJ)),(46,.r (W+1)),(47,.r (W+2))]++l from λl=>rfl,List.find?_append,Option.map_or,hg];rfl
theorem kF(h1:ρ i1=some (.i a))(h2:ρ i2=some (.i b)):Ev d (n+3) (.t [.v i1,.v i2]) ρ σ (.t [.i a,.i b]) σ:=bI (ac.ah (af h1) (Xh (af h2)))
theorem Aq(S:SS A H m W s σ)(h0:ρ 0=some (.o 4 W))(he:Ev d (n+3) e ρ σ (.t [.i a,.i b]) σ):Ev d (n+4) (.p .o e (.a 46 (.v 0))) ρ σ (.b (!(s.Vl a b).isSome)) σ:=by
 obtain⟨es,h1,T⟩:=S.cs
 exact aY he (jV S h0 rfl rfl) (by rw[z5 h1 (w6 a b),T.rX,Option.isSome_map]) trivial
theorem FV(S:SS A H m W s σ)(h0:ρ 0=some (.o 4 W))(he:Ev d (n+3) e ρ σ (.t [.i a,.i b]) σ):Ev d (n+4) (.p .i e (.a 46 (.v 0))) ρ σ (.b (s.Vl a b).isSome) σ:=by
 obtain⟨es,h1,T⟩:=S.cs
 exact aY he (jV S h0 rfl rfl) (by rw[w4 h1 (w6 a b),T.rX,Option.isSome_map]) trivial
theorem uB(S:SS A H m W s σ)(h0:ρ 0=some (.o 4 W))(he:Ev d (n+3) e ρ σ (.t [.i a,.i b]) σ)(hc:s.Vl a b=some c):Ev d (n+4) (.s (.a 46 (.v 0)) e) ρ σ (.i c) σ:=by
 obtain⟨es,h1,T⟩:=S.cs
 exact bi (jV S h0 rfl rfl) he (mB h1 (by intro _ h;cases h) (by rw[w6,T.rX,hc];rfl))
theorem Vc(w:ig)(m:Nat):w.iK.lo m=true:=by cases w<;>rfl
theorem yd(d:Nat)(S:SS A H m W s σ)(ha:a < 6)(hb:b < 6)(k:Nat)(w:ig):∃τ,aL (d+1) 38 [.o 4 W,.i a,.i b,.i k,w.iK] σ .n τ/\SS A H m W (s.gD a b k w) τ/\cz σ.length W σ τ/\τ.length=σ.length:=by
 let ρ:=bf [.o 4 W,.i a,.i b,.i k,w.iK]
 have ni:Ev d 29 (.p .o (.t [.v 1,.v 2]) (.a 46 (.v 0))) ρ σ (.b (!(s.Vl a b).isSome)) σ:=Aq S rfl (kF rfl rfl)
 have cond:Ev d 30 (.r [.p .o (.t [.v 1,.v 2]) (.a 46 (.v 0)),.p .l (.v 3) (.s (.a 46 (.v 0)) (.t [.v 1,.v 2]))]) ρ σ (.b (s.fX a b k)) σ:=by
  unfold SH.fX
  cases hc:s.Vl a b with
  |none=>rw[hc]at ni;exact Df ni
  |some c0=>
   rw[hc]at ni
   refine rm ni (tK (aY (af rfl) (uB S rfl (kF rfl rfl) hc) ?_ trivial))
   refine(?_:some (decide ((k:Int) < (c0:Int)))=some (decide (k < c0)))
   congr 1;exact decide_eq_decide.mpr Int.ofNat_lt
 unfold SH.gD
 cases he:s.fX a b k with
 |false=>rw[he]at cond;exact eX σ (cI (f:=AA) (fl:=.n) rfl rfl (Xi (bC cond aP))) S mK rfl
 |true=>
  rw[he]at cond
  obtain⟨ec,c1,cT⟩:=S.cs
  obtain⟨ew,w1,wT⟩:=S.Wj
  let ec':=eC ec [.inr (a:Int),.inr (b:Int)] (V.i k)
  let ew':=eC ew [.inr (a:Int),.inr (b:Int)] w.iK
  let σ1:=σ.set (W+1) (.t ec')
  let σ2:=σ1.set (W+2) (.t ew')
  let σ3:=σ2.set W (.a 4 (fZ (A.yx .aJ) W (some true)))
  have cT':TD (λn:Nat=>V.i n) ec' (gN s.Vl a b k):=cT.zJ ha hb k λ_=>rfl
  have wT':TD ig.iK ew' (gN s.wf a b w):=wT.zJ ha hb w (Vc w)
  have S1:SS A H m W ⟨gN s.Vl a b k,s.wf,s.VV⟩ σ1:=⟨⟨S.VO.eT,λz hz=>by have:=S.lt z hz;rw[aV (by exact Cr this)];exact S.VO.aZ z hz⟩,S.VR,S.lt,(aV (qR rfl)).trans S.VW,(aC ec' (cR c1) cT'),(aC ew ((aV (nK rfl)).trans w1) wT)⟩
  have S2:SS A H m W ⟨gN s.Vl a b k,gN s.wf a b w,s.VV⟩ σ2:=⟨⟨S1.VO.eT,λz hz=>by have:=S.lt z hz;rw[aV (by exact Cr this)];exact S1.VO.aZ z hz⟩,S.VR,S.lt,(aV (qR rfl)).trans S1.VW,(aC ec' ((aV (nK rfl)).trans (cR c1)) cT'),(aC ew' (cR (S1.Wj.elim λ_ q=>(aV (nK rfl)).trans w1)) wT')⟩
  have S3:SS A H m W (s.oI a b k w) σ3:=⟨⟨S2.VO.eT,λz hz=>by have:=S.lt z hz;rw[aV (by exact mC this)];exact S2.VO.aZ z hz⟩,S.VR,S.lt,cR S2.VW,(aC ec' ((aV (x8 rfl)).trans ((aV (nK rfl)).trans (cR c1))) cT'),S2.Wj.elim λe q=>(aC e ((aV (x8 rfl)).trans q.1) q.2)⟩
  have fl4:(fZ (A.yx .aJ) W s.VV).length<=100:=by unfold fZ;cases s.VV;exact(show 3<=100 by decide);exact(show 4<=100 by decide)
  have fse:gY (fZ (A.yx .aJ) W s.VV) 49 (.b true)=fZ (A.yx .aJ) W (some true):=by unfold fZ;cases s.VV<;>rfl
  have st3:ai d 11 (.a (.a 49 (.v 0)) (.c (.b true))) ρ σ2 .n ρ σ3:=by
   have h:=vx (d:=d) (n:=10) (ρ:=ρ) (nm:=49) rfl rfl (aq (v:=.b true)) S2.VW fl4
   rw[fse]at h;exact h
  refine eX σ3 (cI (f:=AA) (fl:=.n) rfl rfl (Xi (cW cond (ao (bh (af rfl) (kW (jV S rfl rfl rfl) (kF rfl rfl) (mA c1 (by intro _ h;cases h) cT.zI (Ae a b)))) (ao (bh (af rfl) (kW (jV S1 rfl rfl rfl) (kF rfl rfl) (mA ((aV (nK rfl)).trans w1) (by intro _ h;cases h) wT.zI (Ae a b)))) (Xi st3)))))) S3 (((tM Jz).jm (tM (by lia))).jm (tM (by lia))) ?_
  rw[XF,XF,XF]
theorem AR(d:Nat){nn:Nat}(hq:W+2 < q)(hqN:q < N)(K:aA->Prop)(hK:∀ρ z,K ρ->K (au ρ v0 (.i z)))(one:∀(z:Nat) (s:SH) (ρ:aA) (σ:aj),z∈l0->SS A H m W s σ->σ[q]? =some (.l (av l0))->N<=σ.length->K ρ->ρ v0=some (.i z)->∃ρ' τ,ae d nn bd ρ σ .n ρ' τ/\SS A H m W (step s z) τ/\cz N W σ τ/\K ρ'):
  ∀(l:List Nat) (s:SH) (ρ:aA) (σ:aj),(∀z∈l,z∈l0)->SS A H m W s σ->σ[q]? =some (.l (av l0))->N<=σ.length->K ρ->∃ρ' τ,bF d nn (.v v0) bd (.cr q (av l0)) (av l) ρ σ .n ρ' τ/\SS A H m W (l.foldl step s) τ/\cz N W σ τ/\K ρ':=by
 intro l
 induction l with
 |nil=>intro s ρ σ _ S h1 _ k;exact dh ρ σ fF S mK k
 |cons z l ih=>
  intro s ρ σ hl S h1 hN k
  refine dj (one z s (au ρ v0 (.i z)) σ (hl z (Xz ..)) S h1 hN (hK ρ z k) (bw _ _ _)) λρ1 σ1 b1 S1 F1 k1=>?_
  have h2:σ1[q]? =some (.l (av l0)):=(F1.V3 q hqN (pj hq) (nM hq rfl) (mC hq)).trans h1
  refine dj (ih (step s z) ρ1 σ1 (λu hu=>hl u (XA _ hu)) S1 h2 (Xl hN F1.Wn) k1) λρ2 τ b2 S2 F2 k2=>?_
  exact dh ρ2 τ (fc (S:=.cr q (av l0)) rfl b1 h2 b2) S2 (F1.jm F2) k2
theorem J0(S:SS A H m W s σ)(S':SS A H m W s' τ)(F:cz σ.length W σ τ):∃τ',SS A H m W s' τ'/\cz σ.length W σ τ'/\τ'.length=σ.length/\nX σ τ τ' .n:=by
 have tk:∀i,i < σ.length->(τ.take σ.length)[i]? =τ[i]?:=λi hi=>by rw[List.getElem?_take,Xr hi]
 have ln:(τ.take σ.length).length=σ.length:=by rw[List.length_take];exact Nat.min_eq_left F.Wn
 have sl:=S.rU
 refine⟨τ.take σ.length,S'.mv λi hi=>tk i (qT hi sl),⟨λi hi h1 h2 h3=>(tk i hi).trans (F.V3 i hi h1 h2 h3),XW ln.symm⟩,ln,List.take_prefix _ _,XW ln.symm,rfl,λi o ho=>?_⟩
 have hi:i < σ.length:=by have:=e8 ho;rw[ln]at this;exact this
 rw[tk i hi]at ho
 rw[ln]
 have all:∀{es:List (List KV×V)},(∀e∈es,∀m,e.2.lo m=true)->(O.t es).lo σ.length=true:=λ{es} h=>by
  refine(?_:V.loAll _ (es.map (·.2))=true)
  induction es with
  |nil=>rfl
  |cons e es ih=>refine(?_:(V.lo _ e.2&&V.loAll _ _)=true);rw[h e (Xz ..),ih λz hz=>h z (XA _ hz)];rfl
 by_cases h1:i=W
 ·rw[h1,S'.VW]at ho;cases ho
  have:=S.lt .aJ trivial
  refine .inr ?_
  refine(?_:V.loAll _ ((fZ (A.yx .aJ) W s'.VV).map (·.2))=true)
  unfold fZ
  cases s'.VV<;>(simp[jT,iJ,zT,EM,NQ];exact qGc this sl)
 ·by_cases h2:i=W+1
  ·obtain⟨es,e1,T⟩:=S'.cs
   rw[h2,e1]at ho;cases ho
   exact .inr (all T.lo)
  ·by_cases h3:i=W+2
   ·obtain⟨es,e1,T⟩:=S'.Wj
    rw[h3,e1]at ho;cases ho
    exact .inr (all T.lo)
   ·rw[F.V3 i hi h1 h2 h3]at ho;exact .inl ho
noncomputable def xS:List St:=match Az.dZ with | [.l _ _ [.l _ _ [.l _ _ b]]]=>b |_=>[]
theorem RN(d:Nat){mm:Nat}(S:SS A H m W s σ)(ha:a < 6)(hb:b < 6)(h0:ρ 0=some (.o 4 W))(h2:ρ 2=some (.i mm))(h3:ρ 3=some (.i a))(h4:ρ 4=some (.i b)):∃ρ' τ,ae (d+1) 9 xS ρ σ .n ρ' τ/\SS A H m W (s.mV mm a b) τ/\cz σ.length W σ τ/\∀j,j≠5->ρ' j=ρ j:=by
 have i1:Ev (d+1) 29 (.p .i (.t [.v 3,.v 2]) (.a 46 (.v 0))) ρ σ (.b (s.Vl a mm).isSome) σ:=FV S h0 (kF h3 h2)
 have i2:Ev (d+1) 29 (.p .i (.t [.v 2,.v 4]) (.a 46 (.v 0))) ρ σ (.b (s.Vl mm b).isSome) σ:=FV S h0 (kF h2 h4)
 unfold SH.mV
 cases c1:s.Vl a mm with
 |none=>rw[c1]at i1;exact dh ρ σ (Xi (bC (lK i1) aP)) S mK (λ_ _=>rfl)
 |some k1=>
  rw[c1]at i1
  cases c2:s.Vl mm b with
  |none=>rw[c2]at i2;exact dh ρ σ (Xi (bC (j8 i1 i2) aP)) S mK (λ_ _=>rfl)
  |some k2=>
   rw[c2]at i2
   refine hU (yd d S ha hb (k1+k2) (.oO mm)) λτ h S' F _=>?_
   exact dh (au ρ 5 (.i ((k1+k2:Nat):Int))) τ (Xi (cW (j8 i1 i2) (ao (bh (bX (uB S h0 (kF h3 h2) c1) (uB S h0 (kF h2 h4) c2) iy) ba) (Xi (du (bQ (af (i:=0) h0) S.VW rfl (ac.ah (af (i:=3) h3) (ac.ah (af (i:=4) h4) (ac.ah (af rfl) (Xh (bI (ac.ah aq (Xh (af (i:=2) h2)))))))) h)))))) S' F (λj hj=>bR _ _ hj)
theorem cz.le(h:cz M W σ τ)(hn:N<=M):cz N W σ τ:=⟨λi hi=>h.V3 i (XB hi hn),h.Wn⟩
theorem Ty(d:Nat)(S:SS A H m W s σ)(h6:∀z∈lot,z < 6)(hl:lot.length<=300)(hq:W+2 < q)(hs:σ[q]? =some (.l (av lot))):∃τ,aL (d+2) 40 [.o 4 W,.r q] σ .n τ/\SS A H m W (s.t9 lot) τ/\cz σ.length W σ τ/\τ.length=σ.length:=by
 have ok:aD (av lot):=bq (by rw[Xk];exact hl)
 have qN:=e8 hs
 refine dj (AR (d+1) (nn:=11) (v0:=2) (bd:=[.l (.v 3) (.e (.v 1)) [.l (.v 4) (.e (.v 1)) xS]]) (step:=λs mm=>lot.foldl (λs a=>lot.foldl (λs b=>s.mV mm a b) s) s) (l0:=lot) (N:=σ.length) hq qN (λρ=>ρ 0=some (.o 4 W)/\ρ 1=some (.r q)) (λρ z k=>k)
  (λmm s ρ σ1 hm S hs hN k hv=>by
   refine i8 (AR (d+1) (nn:=10) (v0:=3) (bd:=[.l (.v 4) (.e (.v 1)) xS]) (step:=λs a=>lot.foldl (λs b=>s.mV mm a b) s) (l0:=lot) (N:=σ.length) hq qN (λρ=>(ρ 0=some (.o 4 W)/\ρ 1=some (.r q))/\ρ 2=some (.i mm)) (λρ z k=>k)
    (λa s ρ σ1 ha S hs hN k hv=>by
     refine i8 (AR (d+1) (nn:=9) (v0:=4) (bd:=xS) (step:=λs b=>s.mV mm a b) (l0:=lot) (N:=σ.length) hq qN (λρ=>((ρ 0=some (.o 4 W)/\ρ 1=some (.r q))/\ρ 2=some (.i mm))/\ρ 3=some (.i a)) (λρ z k=>k)
      (λb s ρ σ1 hb S hs hN k hv=>by
       refine dj (RN d S (h6 a ha) (h6 b hb) k.1.1.1 k.1.2 k.2 hv) λρ' τ h1 h2 h3 h4=>?_
       exact iu ρ' τ h1 h2 (h3.le hN) (⟨⟨(h4 0 (by decide)).trans k.1.1.1,(h4 1 (by decide)).trans k.1.1.2⟩,(h4 2 (by decide)).trans k.1.2⟩) ((h4 3 (by decide)).trans k.2)) lot s ρ σ1 (λ_ h=>h) S hs hN ⟨k,hv⟩) λρ' τ b S' F k' h2=>?_
     exact dh ρ' τ (Xi (fg (S:=.cr q (av lot)) (fe (af k.1.2) hs ok) b)) S' F k') lot s ρ σ1 (λ_ h=>h) S hs hN ⟨k,hv⟩) λρ' τ b S' F k' h2=>?_
   exact dh ρ' τ (Xi (fg (S:=.cr q (av lot)) (fe (af k.2) hs ok) b)) S' F k') lot s (bf [.o 4 W,.r q]) σ (λ_ h=>h) S hs (Xp _) ⟨rfl,rfl⟩) λρ' τ b S' F _=>?_
 refine hU (J0 S S' F) λτ' S2 F2 n2 D=>?_
 exact eX τ' (aL.li (f:=Az) (fl:=.n) rfl rfl (Xi (fg (S:=.cr q (av lot)) (fe (af rfl) hs ok) b)) D) S2 F2 n2
end
section
variable {d n a b i j k m q l c:Nat}{u v w:V}{o:O}{e:Ex}{r:Rs}{s:SH}
theorem Hd(f g:α->V)(p:α->Bool)(ha:a0 < σ.length):∀(L:List α),(∀z∈L,∀o,∃ρ',fL 4 tg (f z) ρ=some ρ'/\ej d n ifs ρ' (σ.set a0 o) (p z) (σ.set a0 o)/\(p z=true->Ev d n elt ρ' (σ.set a0 o) (g z) (σ.set a0 o)))->
  ∀(acc:List V) (o:O),acc.length+L.length<=300->cV d n elt tg ifs [] ρ (.it a0 ys) (L.map f) (σ.set a0 o) acc (acc++(L.filter p).map g) (σ.set a0 .u):=by
 have ss:∀o o',(σ.set a0 o).set a0 o'=σ.set a0 o':=λo o'=>Yl ..
 intro L
 induction L with
 |nil=>
  intro _ acc o _
  have h:=cV.mQ (d:=d) (n:=n) (elt:=elt) (tg:=tg) (ifs:=ifs) (gs:=[]) (ρ:=ρ) (S:=.it a0 ys) (σ:=σ.set a0 o) (acc:=acc)
  have e:(eM.it a0 ys).iG Option.none (σ.set a0 o)=σ.set a0 .u:=ss _ _
  rw[e]at h
  rw[show acc++List.map g (List.filter p [])=acc from Yb _];exact h
 |cons z L ih=>
  intro h acc o hl
  rw[Xq]at hl
  refine c8 (h z (Xz ..) (.i (L.map f))) λρ' h1 h2 h3=>?_
  have e:(eM.it a0 ys).iG (some (L.map f)) (σ.set a0 o)=σ.set a0 (.i (L.map f)):=ss _ _
  have hG:(eM.it a0 ys).V8 (L.map f) (σ.set a0 (.i (L.map f))):=Zq ha
  have ih:=ih (λu hu=>h u (XA _ hu))
  cases hp:p z with
  |true=>
   rw[hp]at h2
   have q:=ih (acc++[g z]) (.i (L.map f)) (by rw[Xn];refine(?_:acc.length+1+_<=_);exact gj hl)
   rw[XM]at q
   rw[List.filter_cons_of_pos hp]
   exact cV.Wr (S:=.it a0 ys) h1 (by rw[e];exact h2) (jD.pH (h3 hp) (bq (bT hl))) hG q
  |false=>
   rw[hp]at h2
   rw[List.filter_cons_of_neg (by rw[hp];exact Yy)]
   exact cV.WL (S:=.it a0 ys) h1 (by rw[e];exact h2) hG (ih acc (.i (L.map f)) (bT (vl hl)))
noncomputable def pv(z:Nat×Nat):V:=.t [.i z.1,.i z.2]
theorem FZ(g:Nat×Nat->V)(p:Nat×Nat->Bool)(S:SS A H m W s σ)(h4:ρ 4=some (.t (av (aN a))))(h5:ρ 5=some (.t (av (aN b))))(h:∀z∈kz a b,∀σ',SS A H m W s σ'->ej d (n+4) ifs (au ρ v0 (pv z)) σ' (p z) σ'/\(p z=true->Ev d (n+4) elt (au ρ v0 (pv z)) σ' (g z) σ')):
  Ev d (n+5) (.o elt [.m (.v v0) (.e (.b .z [.v 4,.v 5])) ifs]) ρ σ (.r (σ.length+4)) (σ++[.u,.u,.u,.u,.l (((kz a b).filter p).map g)]):=by
 let σz:aj:=σ++[.i ((kz a b).map pv),.u,.u,.u]
 have l2:(kz a b).length<=2:=by refine(?_:((aN a).zip (aN b)).length<=2);rw[List.length_zip];exact Xl (Zm _ _) (gZ a)
 have ez:(((av (aN a)).zip (av (aN b))).map λp:V×V=>V.t [p.1,p.2])=(kz a b).map pv:=by rw[List.zip_map,XN];rfl
 have lz:σ.length < σz.length:=by rw[Xn];exact Nat.lt_add_of_pos_right (show 0 < 4 by decide)
 have gz:σz[σ.length]? =some (.i ((kz a b).map pv)):=lB _ _
 have hit:=Hd (d:=d) (n:=n+4) (elt:=elt) (tg:=.v v0) (ifs:=ifs) (ρ:=ρ) (σ:=σz) (a0:=σ.length) (ys:=(kz a b).map pv) pv g p lz (kz a b) (λz hz o=>aC _ rfl (h z hz _ ((S.mW _).mv λi hi=>aV (by have:=S.rU;exact nN hi this)))) [] (.i ((kz a b).map pv)) (by rw[XR];exact qQ l2 rfl)
 rw[qU gz,XT]at hit
 have e1:σz.set σ.length .u=σ++[.u,.u,.u,.u]:=uu _ _ _
 have zp:Ev d (n+4) (.b .z [.v 4,.v 5]) ρ σ (.r σ.length) σz:=by
  have q:=ci rfl (d:=d) (n:=n+3) (ρ:=ρ) (ac.ah (af h4) (Xh (af h5))) (Ci (σ:=σ))
  rw[ez]at q;exact q
 have q:=dU (zj zp gz (bq (by rw[Xk];exact bP l2 rfl))) hit
 rw[e1]at q
 have e2:(σ++[O.u,.u,.u,.u]).length=σ.length+4:=Xn
 rw[e2,XM]at q;exact q
theorem uL(f:α->Nat)(L:List α):jy (L.map λz=>V.i (f z))=some (L.map λz=>((f z:Nat):Int)):=by
 induction L with
 |nil=>rfl
 |cons z L ih=>refine(?_:Option.map _ (jy _)=_);rw[ih];rfl
theorem Kh(f:α->Nat)(L:List α):(L.map λz=>((f z:Nat):Int)).sum=((L.map f).sum:Nat):=by
 induction L with
 |nil=>rfl
 |cons z L ih=>rw[Xw,Yk,ih,Xw,Yk];rfl
noncomputable def Bz:List St:=match Ay.dZ with | [.l _ _ [.l _ _ b]]=>b |_=>[]
theorem PA(d:Nat)(S:SS A H m W s σ)(ha:a < H.KE)(hb:b < H.KE)(h0:ρ 0=some (.o 4 W))(h2:ρ 2=some (.i a))(h3:ρ 3=some (.i b))(h4:ρ 4=some (.t (av (aN a))))(h5:ρ 5=some (.t (av (aN b)))):
  Ev (d+1) 30 (.n [.p .n (.v 2) (.v 3),.p .e (.m 16 (.a 21 (.a 39 (.v 0))) [.v 2]) (.m 16 (.a 21 (.a 39 (.v 0))) [.v 3]),.p .e (.b .l [.v 4]) (.b .l [.v 5])]) ρ σ (.b (qB a b)) σ:=by
 have op:∀{i z n:Nat},ρ i=some (.i z)->z < H.KE->Ev (d+1) (n+5) (.m 16 (.a 21 (.a 39 (.v 0))) [.v i]) ρ σ (.s (bv z)) σ:=λ{i z n} hi hz=>
  bQ (dv (jV S h0 rfl rfl) rfl (dy S.VO) rfl) S.VO.gT rfl (Xh (af hi)) (vo d S.VO S.VR.VN hz)
 have ln:∀{i z n:Nat},ρ i=some (.t (av (aN z)))->Ev (d+1) (n+2) (.b .l [.v i]) ρ σ (.i ((aN z).length:Nat)) σ:=λ{i z n} hi=>by
  have h:=ci rfl (d:=d+1) (n:=n+1) (ρ:=ρ) (Xh (af hi)) (xX (σ:=σ) (bq (by rw[Xk];exact Xl (gZ z) (by decide))))
  rwa [Xk]at h
 have e1:Ev (d+1) 29 (.p .n (.v 2) (.v 3)) ρ σ (.b (decide (a≠b))) σ:=aY (af h2) (af h3) (by rw[mq,decide_not]) (Xo _)
 have e2:Ev (d+1) 29 (.p .e (.m 16 (.a 21 (.a 39 (.v 0))) [.v 2]) (.m 16 (.a 21 (.a 39 (.v 0))) [.v 3])) ρ σ (.b (decide (bv a=bv b))) σ:=aY (op h2 ha) (op h3 hb) vz (Xo _)
 have e3:Ev (d+1) 29 (.p .e (.b .l [.v 4]) (.b .l [.v 5])) ρ σ (.b (decide ((aN a).length=(aN b).length))) σ:=aY (ln h4) (ln h5) (sC _ _) (Xo _)
 unfold qB
 cases hn:decide (a≠b)with
 |false=>rw[hn]at e1;exact lK e1
 |true=>
  rw[hn]at e1
  refine Ev.rj e1 ?_
  cases ho:decide (bv a=bv b)with
  |false=>rw[ho]at e2;exact lK e2
  |true=>rw[ho]at e2;exact j8 e2 e3
theorem QS(d:Nat)(I:∀x y z,s.Vl x y=some z->z<=68719476736)(S:SS A H m W s σ)(ha:a < H.KE)(hb:b < H.KE)(h0:ρ 0=some (.o 4 W))(h2:ρ 2=some (.i a))(h3:ρ 3=some (.i b)):∃ρ' τ,ae (d+1) 10 Bz ρ σ .n ρ' τ/\SS A H m W (s.oH a b) τ/\cz σ.length W σ τ/\∀j,j≠4->j≠5->ρ' j=ρ j:=by
 have a6:=XB ha S.VR.VN.c6
 have b6:=XB hb S.VR.VN.c6
 let ρ1:=au (au ρ 4 (.t (av (aN a)))) 5 (.t (av (aN b)))
 have kid:∀{i z n:Nat},ρ i=some (.i z)->z < H.KE->Ev (d+1) (n+5) (.m 15 (.a 21 (.a 39 (.v 0))) [.v i]) ρ σ (.t (av (aN z))) σ:=λ{i z n} hi hz=>
  bQ (dv (jV S h0 rfl rfl) rfl (dy S.VO) rfl) S.VO.gT rfl (Xh (af hi)) (td d S.VO S.VR.VN hz)
 have st:ai (d+1) 10 (.a (.t [.v 4,.v 5]) (.t [.m 15 (.a 21 (.a 39 (.v 0))) [.v 2],.m 15 (.a 21 (.a 39 (.v 0))) [.v 3]])) ρ σ .n ρ1 σ:=bh (bI (ac.ah (kid h2 ha) (Xh (kid h3 hb)))) (gQ rfl rfl (da ba (da ba gR)))
 have fin:∀j,j≠4->j≠5->ρ1 j=ρ j:=λj h4 h5=>(bR _ _ h5).trans (bR _ _ h4)
 have cnd:=PA d S ha hb (ρ:=ρ1) h0 h2 h3 rfl rfl
 unfold SH.oH
 cases hc:qB a b with
 |false=>rw[hc]at cnd;exact dh ρ1 σ (ao st (Xi (bC cnd aP))) S mK fin
 |true=>
  rw[hc]at cnd
  let p:Nat×Nat->Bool:=λz=>!(s.Vl z.1 z.2).isSome
  let g1:aj:=[.u,.u,.u,.u,.l (((kz a b).filter p).map pv)]
  have ec:Ev (d+1) 29 (.o (.v 6) [.m (.v 6) (.e (.b .z [.v 4,.v 5])) [.p .o (.v 6) (.a 46 (.v 0))]]) ρ1 σ (.r (σ.length+4)) (σ++g1):=
   FZ (n:=24) pv p S rfl rfl λz hz σ' S'=>⟨v9 (Aq S' (ρ:=au ρ1 6 (pv z)) h0 (af (bw _ _ _))),λ_=>af (bw _ _ _)⟩
  let σ1:aj:=σ++g1
  let σ2:aj:=σ1++[.l []]
  have gl:σ2[σ.length+4]? =some (.l (((kz a b).filter p).map pv)):=bO _ _ (kA σ g1 4)
  have ev:Ev (d+1) 30 (.p .e (.o (.v 6) [.m (.v 6) (.e (.b .z [.v 4,.v 5])) [.p .o (.v 6) (.a 46 (.v 0))]]) (.d [])) ρ1 σ (.b ((kz a b).all λz=>(s.Vl z.1 z.2).isSome)) σ2:=by
   refine aY ec (dp ac.an) ?_ (Xo _)
   rw[Ao gl aX]
   refine(?_:some ((((kz a b).filter p).map pv).isEmpty)=_)
   congr 1
   rw[List.isEmpty_map]
   generalize kz a b=L
   induction L with
   |nil=>rfl
   |cons z L ih=>
    rw[YN,List.filter_cons]
    refine(?_:(if p z=true then z::List.filter p L else List.filter p L).isEmpty=_)
    cases hz:(s.Vl z.1 z.2).isSome with
    |true=>rw[Xv (by refine(?_:¬(!(s.Vl z.1 z.2).isSome)=true);rw[hz];decide),ih];rfl
    |false=>rw[Xr (by refine(?_:(!(s.Vl z.1 z.2).isSome)=true);rw[hz];rfl)];rfl
  have S2:SS A H m W s σ2:=(S.mW g1).mW _
  have F2:cz σ.length W σ σ2:=(yR (Xp _) g1).jm (yR (by rw[Xn];exact XJ ..) _)
  rw[Bool.true_and]
  cases hk:(kz a b).all λz=>(s.Vl z.1 z.2).isSome with
  |false=>rw[hk]at ev;exact dh ρ1 σ2 (ao st (Xi (cW cnd (Xi (bC ev aP))))) S2 F2 fin
  |true=>
   rw[hk]at ev
   have hs:∀z∈kz a b,s.Vl z.1 z.2=some ((s.Vl z.1 z.2).getD 0):=λz hz=>by
    refine aT (Option.isSome_iff_exists.mp (YG hk z hz)) λy hy=>?_;rw[hy];rfl
   let g3:aj:=[.u,.u,.u,.u,.l ((kz a b).map λz=>.i ((s.Vl z.1 z.2).getD 0:Nat))]
   have e3:Ev (d+1) 28 (.o (.s (.a 46 (.v 0)) (.v 7)) [.m (.v 7) (.e (.b .z [.v 4,.v 5])) []]) ρ1 σ2 (.r (σ2.length+4)) (σ2++g3):=by
    have q:=FZ (d:=d+1) (n:=23) (v0:=7) (ifs:=[]) (elt:=.s (.a 46 (.v 0)) (.v 7)) (ρ:=ρ1) (a:=a) (b:=b) (λz=>.i ((s.Vl z.1 z.2).getD 0:Nat)) (λ_=>true) S2 rfl rfl λz hz σ' S'=>⟨ej.om,λ_=>uB S' (ρ:=au ρ1 7 (pv z)) h0 (af (bw _ _ _)) (hs z hz)⟩
    rw[List.filter_eq_self.mpr λ_ _=>rfl]at q;exact q
   have sm:Ev (d+1) 29 (.b .s [.o (.s (.a 46 (.v 0)) (.v 7)) [.m (.v 7) (.e (.b .z [.v 4,.v 5])) []]]) ρ1 σ2 (.i (jY s.Vl a b:Nat)) (σ2++g3):=by
    have q:=ci rfl (d:=d+1) (n:=28) (ρ:=ρ1) (Xh e3) (xY (kA σ2 g3 4) (uL (λz:Nat×Nat=>(s.Vl z.1 z.2).getD 0) (kz a b)) (bq (by rw[Xk];refine(?_:((aN a).zip (aN b)).length<=300);rw[List.length_zip];exact Xl (Zm _ _) (Xl (gZ a) (by decide)))) λi hi=>by
     refine az (XY hi) λz hz q2=>?_;subst q2
     have:=I _ _ _ (hs z hz)
     unfold bY;lia)
    rw[Kh]at q;exact q
   refine hU (yd d (S2.mW g3) a6 b6 (jY s.Vl a b) .mX) λτ h S3 F3 _=>?_
   refine dh ρ1 τ (ao st (Xi (cW cnd (Xi (cW ev (Xi (du (bQ (af (i:=0) h0) S2.VW rfl (ac.ah (af (i:=2) h2) (ac.ah (af (i:=3) h3) (ac.ah sm (Xh (bI (Xh aq)))))) h)))))))) S3 ?_ fin
   exact(F2.jm (yR (by have:=F2.Wn;exact this) g3)).jm (F3.le (by have:=F2.Wn;rw[Xn];exact d5 this))
theorem GG(d:Nat){nn:Nat}(hq:W+2 < q)(hqN:q < N)(K:aA->Prop)(hK:∀ρ z,K ρ->K (au ρ v0 (.i z)))(one:∀(z:Nat) (s:SH) (ρ:aA) (σ:aj),z∈l0->SS A H m W s σ/\SI E H.KE s->σ[q]? =some (.l (av l0))->N<=σ.length->K ρ->ρ v0=some (.i z)->∃ρ' τ,ae d nn bd ρ σ .n ρ' τ/\(SS A H m W (step s z) τ/\SI E H.KE (step s z))/\cz N W σ τ/\K ρ'):
  ∀(l:List Nat) (s:SH) (ρ:aA) (σ:aj),(∀z∈l,z∈l0)->SS A H m W s σ/\SI E H.KE s->σ[q]? =some (.l (av l0))->N<=σ.length->K ρ->∃ρ' τ,bF d nn (.v v0) bd (.cr q (av l0)) (av l) ρ σ .n ρ' τ/\(SS A H m W (l.foldl step s) τ/\SI E H.KE (l.foldl step s))/\cz N W σ τ/\K ρ':=by
 intro l
 induction l with
 |nil=>intro s ρ σ _ S h1 _ k;exact dh ρ σ fF S mK k
 |cons z l ih=>
  intro s ρ σ hl S h1 hN k
  refine dj (one z s (au ρ v0 (.i z)) σ (hl z (Xz ..)) S h1 hN (hK ρ z k) (bw _ _ _)) λρ1 σ1 b1 S1 F1 k1=>?_
  have h2:σ1[q]? =some (.l (av l0)):=(F1.V3 q hqN (pj hq) (nM hq rfl) (mC hq)).trans h1
  refine dj (ih (step s z) ρ1 σ1 (λu hu=>hl u (XA _ hu)) S1 h2 (Xl hN F1.Wn) k1) λρ2 τ b2 S2 F2 k2=>?_
  exact dh ρ2 τ (fc (S:=.cr q (av l0)) rfl b1 h2 b2) S2 (F1.jm F2) k2
theorem Tr(d:Nat)(I:SI E H.KE s)(S:SS A H m W s σ)(h6:∀z∈lot,z < H.KE)(hl:lot.length<=300)(hq:W+2 < q)(hs:σ[q]? =some (.l (av lot))):∃τ,aL (d+2) 39 [.o 4 W,.r q] σ .n τ/\SS A H m W (s.p8 lot) τ/\cz σ.length W σ τ/\τ.length=σ.length:=by
 have ok:aD (av lot):=bq (by rw[Xk];exact hl)
 have qN:=e8 hs
 obtain⟨ρ',τ,b,⟨S',I'⟩,F,_⟩:=GG (d+1) (nn:=11) (v0:=2) (bd:=[.l (.v 3) (.e (.v 1)) Bz]) (step:=λs a=>lot.foldl (λs b=>s.oH a b) s) (l0:=lot) (N:=σ.length) (E:=E) hq qN (λρ=>ρ 0=some (.o 4 W)/\ρ 1=some (.r q)) (λρ z k=>k)
  (λa s ρ σ1 ha S hs hN k hv=>by
   refine i8 (GG (d+1) (nn:=10) (v0:=3) (bd:=Bz) (step:=λs b=>s.oH a b) (l0:=lot) (N:=σ.length) (E:=E) hq qN (λρ=>(ρ 0=some (.o 4 W)/\ρ 1=some (.r q))/\ρ 2=some (.i a)) (λρ z k=>k)
    (λb s ρ σ1 hb S hs hN k hv=>by
     refine dj (QS d (λ_ _ _ h=>S.2.Nf h) S.1 (h6 a ha) (h6 b hb) k.1.1 k.2 hv) λρ' τ h1 h2 h3 h4=>?_
     exact iu ρ' τ h1 (⟨h2,(SR.ub (h6 a ha) (h6 b hb)).Wg S.2⟩) (h3.le hN) (⟨(h4 0 (by decide) (by decide)).trans k.1.1,(h4 1 (by decide) (by decide)).trans k.1.2⟩) ((h4 2 (by decide) (by decide)).trans k.2)) lot s ρ σ1 (λ_ h=>h) S hs hN ⟨k,hv⟩) λρ' τ b S' F k' h2=>?_
   exact dh ρ' τ (Xi (fg (S:=.cr q (av lot)) (fe (af k.2) hs ok) b)) S' F k') lot s (bf [.o 4 W,.r q]) σ (λ_ h=>h) ⟨S,I⟩ hs (Xp _) ⟨rfl,rfl⟩
 refine hU (J0 S S' F) λτ' S2 F2 n2 D=>?_
 exact eX τ' (aL.li (f:=Ay) (fl:=.n) rfl rfl (Xi (fg (S:=.cr q (av lot)) (fe (af rfl) hs ok) b)) D) S2 F2 n2
end
section
variable {d n a b i j k m q l c:Nat}{u v w:V}{o:O}{e:Ex}{r:Rs}{s:SH}
theorem Td(d:Nat)(R:HR A H σ)(I:HI H):aL (d+1) 4 [.o 0 (A.yx .dW)] σ (.i H.KE) σ:=by
 have h:=ci rfl (d:=d) (n:=29) (ρ:=bf [.o 0 (A.yx .dW)]) (Xh (dv (m:=10) (af (n:=27) (i:=0) rfl) rfl R.gT rfl)) (fB (R.aZ .eL trivial) (bq (by rw[Xk,XO,I.cb];exact Xl I.c6 (by decide))))
 rw[Xk,XO,I.cb]at h
 exact cI (f:=Gf) (fl:=.r _) rfl rfl (be (bM h))
theorem JK(d:Nat)(R:HR A H σ)(I:HI H):aL (d+2) 18 [.o 2 (A.yx .aJ)] σ (.i H.KE) σ:=
 cI (f:=Go) (fl:=.r _) rfl rfl (be (bM (bQ (eH R rfl rfl rfl) R.gT rfl ac.an (Td d R I))))
theorem vu(c:Nat):df 0 (c:Nat) 1=av (List.range c):=by
 unfold df
 have:(((c:Int) - 0+1 - 1) / 1).toNat=c:=by lia
 rw[this]
 exact YU λk _=>by rw[Int.zero_add,Int.one_mul]
noncomputable def kQ(H:HS):List Nat:=(List.range H.KE).filter λx=>decide (H.ua x=x)
theorem TN(d:Nat)(R:HR A H σ)(I:HI H):aL (d+1) 16 [.o 1 (A.yx .un)] σ (.r σ.length) (σ++[.l (av (kQ H))]):=by
 have hc:=I.c6
 have at_:∀(ρ:aA) (n:Nat),ρ 0=some (.o 1 (A.yx .un))->Ev d (n+2) (.a 17 (.v 0)) ρ σ (.r (A.yx .c7)) σ:=λρ n h0=>dv (af h0) rfl (R.aZ .un trivial) rfl
 have ln:=ci rfl (d:=d) (n:=28) (ρ:=bf [.o 1 (A.yx .un)]) (Xh (at_ _ _ rfl)) (fB (R.aZ .c7 trivial) (bq (by rw[Xk,XO];exact bP hc rfl)))
 rw[Xk,XO]at ln
 have hit:=He (d:=d) (n:=29) (elt:=.v 1) (tg:=.v 1) (ifs:=[.p .e (.s (.a 17 (.v 0)) (.v 1)) (.v 1)]) (ρ:=bf [.o 1 (A.yx .un)]) (σ:=σ) (S:=.bx (df 0 (H.KE:Nat) 1)) (ys:=[]) (λ_ _=>rfl) id (λv=>match v with | .i z=>decide (H.ua z.toNat=z.toNat) |_=>false) (av (List.range H.KE)) [] (λz hz=>by
  refine az (XY hz) λk hk q2=>?_;subst q2
  have hk:k < H.KE:=Yv hk
  refine dK _ rfl (v9 (aY (vI R I hk rfl (bw _ _ _)) (af (bw _ _ _)) ?_ (Xo _))) (λ_=>af (bw _ _ _))
  rw[sC];rfl) (λ_=>trivial) (bq (by rw[XT,Xk,XO];exact bP hc rfl))
 rw[XT,<-vu]at hit
 have er:((df 0 (H.KE:Nat) 1).filter λv=>match v with | .i z=>decide (H.ua z.toNat=z.toNat) |_=>false).map id=av (kQ H):=by
  rw[List.map_id,vu,List.filter_map];rfl
 rw[er]at hit
 exact cI (f:=Gq) (fl:=.r _) rfl rfl (be (bM (dU (pP ln (by unfold aK;lia) (by unfold bY;exact vn)) hit)))
theorem Tf(d:Nat)(R:HR A H σ)(I:HI H):aL (d+2) 28 [.o 2 (A.yx .aJ)] σ (.r σ.length) (σ++[.l (av (kQ H))]):=
 cI (f:=Gh) (fl:=.r _) rfl rfl (be (bM (bQ (eH R rfl rfl rfl) (R.aZ .un trivial) rfl ac.an (TN d R I))))
theorem P8(x:Nat)(l:List Nat):∃l':List Nat,nh (x:Int) (l.map λk:Nat=>(k:Int))=l'.map (λk:Nat=>(k:Int))/\(∀z,z∈l'↔z=x∨z∈l)/\l'.length=l.length+1:=by
 induction l with
 |nil=>exact dK ([x]) rfl (λz=>by simp) rfl
 |cons y l ih=>
  rw[Xw,xq]
  split
  ·exact dK (x::y::l) rfl (λz=>Yn) rfl
  ·refine c8 ih ?_;clear ih;intro l' h1 h2 h3
   exact dK (y::l') (by rw[h1];rfl) (λz=>by rw[Yn,h2,Yn];exact⟨λh=>h.elim (λh=>.inr (.inl h)) λh=>h.imp id .inr,λh=>h.elim (λh=>.inr (.inl h)) λh=>h.imp id .inr⟩) (by rw[Xq,h3];rfl)
theorem Um(l:List Nat):∃l':List Nat,iP (l.map λk:Nat=>(k:Int))=l'.map (λk:Nat=>(k:Int))/\(∀z,z∈l'↔z∈l)/\l'.length=l.length:=by
 induction l with
 |nil=>exact dK ([]) rfl (λz=>Iff.rfl) rfl
 |cons y l ih=>
  refine c8 ih ?_;clear ih;intro l' h1 h2 h3
  refine c8 (P8 y l') λl2 g1 g2 g3=>?_
  exact dK l2 (by rw[Xw,Ul,h1,g1]) (λz=>by rw[g2,h2,Yn]) (by rw[g3,h3];rfl)
theorem Tu(d:Nat)(R:HR A H σ)(G:HG H m)(hx:x < H.KE)(hr:H.rt x=x):∃lot,aL (d+3) 29 [.o 2 (A.yx .aJ),.i x] σ (.r σ.length) (σ++[.l (av lot)])/\(∀z,z∈lot↔z∈H.cU x)/\lot.length<=32:=by
 have I:=G.VN
 refine c8 (Um (H.cU x)) λlot h1 h2 h3=>?_
 have l32:(H.cU x).length<=32:=by have:=G.lo x hx;have:=G.bt;lia
 have so:=Cg (σ:=σ) (R.aZ (.cX x) hx) (uL (λk=>k) (H.cU x)) (by rw[Xk];exact vh (bP l32 rfl))
 rw[h1]at so
 have e:(lot.map λk:Nat=>(k:Int)).map V.i=av lot:=by rw[XN];rfl
 rw[e]at so
 have uf:=tf d R I hx
 rw[hr]at uf
 have hm:aL (d+2) 15 [.o 1 (A.yx .un),.i x] σ (.r σ.length) (σ++[.l (av lot)]):=
  cI (f:=Gv) (fl:=.r _) rfl rfl (be (bM (ci rfl (Xh (bi (dv (af rfl) rfl (R.aZ .un trivial) rfl) (bQ (af rfl) (R.aZ .un trivial) rfl (Xh (af rfl)) uf) (dL (R.aZ .fj trivial) (gG (I.oi hx)) (yf hx (gG (I.oi hx)))))) so)))
 exact dK lot (cI (f:=Gk) (fl:=.r _) rfl rfl (be (bM (bQ (eH R rfl rfl rfl) (R.aZ .un trivial) rfl (Xh (af rfl)) hm)))) h2 (qT (sY h3) l32)
structure mR(N:Nat)(c:Nat)(PL:List (Nat×List Nat))(σ:aj):Prop where
 pN:∀p∈PL,σ[p.1]? =some (.l (av p.2))
 lo:∀p∈PL,N<=p.1
 ln:∀p∈PL,p.2.length<=32
 lc:∀p∈PL,∀z∈p.2,z < c
theorem QY(d:Nat){qc:Nat}(G:HG H m)(hN:∀z,H.ok z->A.yx z < N){h0:ρ 1=some (.o 2 (A.yx .aJ))}:∀(l:List Nat) (PL:List (Nat×List Nat)) (σ:aj),(∀z∈l,z∈kQ H)->HR A H σ->N<=σ.length->σ[qc]? =some (.l (av (kQ H)))->mR N H.KE PL σ->PL.length+l.length<=20->
  ∃(PL':List (Nat×List Nat)) (g:aj),cV (d+3) 29 (.m 37 (.v 1) [.v 9]) (.v 9) [] [] ρ (.cr qc (av (kQ H))) (av l) σ (PL.map λp=>V.r p.1) (PL'.map λp=>V.r p.1) (σ++g)/\mR N H.KE PL' (σ++g)/\(∀p∈PL,p∈PL')/\(∀z∈l,∃p∈PL',∀u,u∈p.2↔u∈H.cU z)/\PL'.length<=20:=by
 intro l
 induction l with
 |nil=>intro PL σ _ R _ _ Lt hn;exact iu PL ([]) (by rw[Yb];exact cV.mQ) (by rw[Yb];exact Lt) (λ_ h=>h) (λ_ h=>(nomatch h)) hn
 |cons z l ih=>
  intro PL σ hl R hs hq Lt hn
  rw[Xq]at hn
  have hz:=Zc (hl z (Xz ..))
  have zc:z < H.KE:=Yv hz.1
  have zr:=G.VN.iS z zc (XQ hz.2)
  refine c8 (Tu d R G zc zr) λlot h1 h2 h3=>?_
  let σ1:aj:=σ++[.l (av lot)]
  have q1:σ1[qc]? =some (.l (av (kQ H))):=bO _ _ hq
  have Lt1:mR N H.KE (PL++[(σ.length,lot)]) σ1:=by
   refine⟨λp hp=>?_,λp hp=>?_,λp hp=>?_,λp hp=>?_⟩<;>rcases XD hp with hp |hp
   ·exact bO _ _ (Lt.pN p hp)
   ·rw[Xy hp];exact aX
   ·exact Lt.lo p hp
   ·rw[Xy hp];exact hs
   ·exact Lt.ln p hp
   ·rw[Xy hp];exact h3
   ·exact Lt.lc p hp
   ·rw[Xy hp];exact λu hu=>G.lc z zc u ((h2 u).mp hu)
  refine i8 (ih (PL++[(σ.length,lot)]) σ1 (λu hu=>hl u (XA _ hu)) (R.gy _) (by rw[Xn];exact Xl hs (XJ ..)) q1 Lt1 (by rw[Xn];refine(?_:PL.length+1+_<=_);exact gj hn)) λPL' g f1 f2 f3 f4 f5=>?_
  rw[g9]at f1
  have ea:σ1++g=σ++([.l (av lot)]++g):=XM ..
  rw[ea]at f1 f2
  refine iu PL' _ (cV.Wr (S:=.cr qc (av (kQ H))) rfl ej.om (jD.pH (bQ (af (i:=1) h0) (dy R) rfl (Xh (af (bw _ _ _))) h1) (bq (by rw[Xk];exact bT (bP hn rfl)))) q1 f1) f2 (λp hp=>f3 p (YA _ hp)) (λu hu=>?_) f5
  rcases XC hu with rfl |hu
  ·exact aC _ (f3 _ (YT _ (Yg rfl))) h2
  ·exact f4 u hu
theorem GH(d:Nat){nn:Nat}(K:aA->Prop)(hK:∀ρ z,K ρ->K (au ρ v0 (.i z)))(l0:List Nat)(one:∀(z:Nat) (s:SH) (ρ:aA) (σ:aj),z∈l0->SS A H m W s σ->K ρ->ρ v0=some (.i z)->∃ρ' τ,ae d nn bd ρ σ .n ρ' τ/\SS A H m W (step s z) τ/\cz N W σ τ/\τ.length=σ.length/\K ρ'):
  ∀(l:List Nat) (s:SH) (ρ:aA) (σ:aj),(∀z∈l,z∈l0)->SS A H m W s σ->K ρ->∃ρ' τ,bF d nn (.v v0) bd (.bx ys) (av l) ρ σ .n ρ' τ/\SS A H m W (l.foldl step s) τ/\cz N W σ τ/\τ.length=σ.length/\K ρ':=by
 intro l
 induction l with
 |nil=>intro s ρ σ _ S k;exact iu ρ σ fF S mK rfl k
 |cons z l ih=>
  intro s ρ σ hl S k
  refine i8 (one z s (au ρ v0 (.i z)) σ (hl z (Xz ..)) S (hK ρ z k) (bw _ _ _)) λρ1 σ1 b1 S1 F1 n1 k1=>?_
  refine i8 (ih (step s z) ρ1 σ1 (λu hu=>hl u (XA _ hu)) S1 k1) λρ2 τ b2 S2 F2 n2 k2=>?_
  exact iu ρ2 τ (fc (S:=.bx ys) rfl b1 trivial b2) S2 (F1.jm F2) (n2.trans n1) k2
noncomputable def SH.mU(s:SH)(z:Nat):SH:={s with Vl:=gN s.Vl z z 0}
noncomputable def SH.ky(E:d7)(s:SH)(j:Nat):SH:=match E[j]? with
 |none=>s
 |some e=>if e.2.2.eB then s else(s.gD e.1 e.2.1 1 (.gV j false)).gD e.2.1 e.1 1 (.gV j true)
theorem OT(d:Nat)(S:SS A H m W s σ){z:Nat}(hz:z < 6)(h0:ρ 0=some (.o 4 W))(h2:ρ 2=some (.i z)):∃τ,ae d 11 [.a (.s (.a 46 (.v 0)) (.t [.v 2,.v 2])) (.c (.i 0))] ρ σ .n ρ τ/\SS A H m W (s.mU z) τ/\cz σ.length W σ τ/\τ.length=σ.length:=by
 obtain⟨ec,c1,cT⟩:=S.cs
 have cT':TD (λn:Nat=>V.i n) (eC ec [.inr (z:Int),.inr (z:Int)] (V.i (0:Nat))) (gN s.Vl z z 0):=cT.zJ hz hz 0 λ_=>rfl
 refine eX (σ.set (W+1) (.t (eC ec [.inr (z:Int),.inr (z:Int)] (V.i (0:Nat))))) (Xi (bh aq (kW (jV S h0 rfl rfl) (kF h2 h2) (mA c1 (by intro _ h;cases h) cT.zI (Ae z z))))) (⟨⟨S.VO.eT,λu hu=>by have:=S.lt u hu;rw[aV (by exact Cr this)];exact S.VO.aZ u hu⟩,S.VR,S.lt,(aV (qR rfl)).trans S.VW,(aC _ (cR c1) cT'),S.Wj.elim λe q=>(aC e ((aV (nK rfl)).trans q.1) q.2)⟩) (tM Jz) XF
noncomputable def Ah:List St:=match uC.dZ with | [_,_,_,_,_,.l _ _ b,_,_,_]=>b |_=>[]
theorem O8(d:Nat)(S:SS A H m W s σ){z:Nat}(hz:z < H.aM.length)(h0:ρ 0=some (.o 4 W))(h1:ρ 1=some (.o 2 (A.yx .aJ)))(h3:ρ 3=some (.i z)):∃ρ' τ,ae (d+1) 11 Ah ρ σ .n ρ' τ/\SS A H m W (s.ky H.aM z) τ/\cz σ.length W σ τ/\τ.length=σ.length/\(∀j,j < 3->ρ' j=ρ j):=by
 obtain⟨⟨x,y,r⟩,hE⟩:∃e,H.aM[z]? =some e:=⟨_,Yo hz⟩
 have eg:x < H.KE/\y < H.KE/\r.ok H.KE:=S.VR.eg _ (Yi hE)
 have x6:=XB eg.1 S.VR.VN.c6
 have y6:=XB eg.2.1 S.VR.VN.c6
 have el:H.aM.length<=300:=by have:=S.VR.ed;have:=S.VR.lQ;have:=S.VR.t5;lia
 let ρ1:=au (au (au ρ 4 (.i x)) 5 (.i y)) 6 r.gC
 have st:ai (d+1) 11 (.a (.t [.v 4,.v 5,.v 6]) (.s (.a 23 (.v 1)) (.v 3))) ρ σ .n ρ1 σ:=bh (xd 0 S.VO hE el (af h1) h3) (gQ rfl rfl (da ba (da ba (da ba gR))))
 have fin:∀j,j < 3->ρ1 j=ρ j:=λj hj=>(bR _ _ (kP hj rfl)).trans ((bR _ _ (kP hj rfl)).trans (bR _ _ (kP hj rfl)))
 have kd:∃kd rest,r.gC=.t (.s kd::rest)/\decide (kd=[108,105,107,101])=r.eB/\rest.length<=2:=by
  cases r with
  |mT w=>exact dN _ _ rfl rfl (show 1<=2 by decide)
  |lj x y=>exact dN _ _ rfl rfl (show 2<=2 by decide)
  |iX=>exact dN _ _ rfl rfl (Xo _)
 refine cO kd ?_;clear kd;intro kd rest he hkd hrl
 have cnd:Ev (d+1) 30 (.p .n (.s (.v 6) (.c (.i 0))) (.c (.s [108,105,107,101]))) ρ1 σ (.b (!r.eB)) σ:=by
  refine aY (bi (af (v:=.t (.s kd::rest)) (Xu some he)) aq (c9 (v:=.s kd) (bg rfl) rfl)) aq ?_ (Xo _)
  rw[<-hkd];rfl
 unfold SH.ky
 rw[hE]
 refine(?_:∃ρ' τ,_/\SS A H m W (if r.eB then s else _) τ/\_)
 cases hr:r.eB with
 |true=>rw[hr]at cnd;exact iu ρ1 σ (ao st (Xi (bC cnd aP))) S mK rfl fin
 |false=>
  rw[hr]at cnd
  refine hU (yd d S x6 y6 1 (.gV z false)) λσ1 c1 S1 F1 n1=>?_
  refine hU (yd d S1 y6 x6 1 (.gV z true)) λσ2 c2 S2 F2 n2=>?_
  exact iu ρ1 σ2 (ao st (Xi (cW cnd (ao (du (bQ (af (i:=0) h0) S.VW rfl (ac.ah (af (i:=4) rfl) (ac.ah (af (i:=5) rfl) (ac.ah aq (Xh (bI (ac.ah aq (ac.ah (af (i:=3) h3) (Xh aq)))))))) c1)) (Xi (du (bQ (af (i:=0) h0) S1.VW rfl (ac.ah (af (i:=5) rfl) (ac.ah (af (i:=4) rfl) (ac.ah aq (Xh (bI (ac.ah aq (ac.ah (af (i:=3) h3) (Xh aq)))))))) c2))))))) S2 (F1.jm (F2.le (gL n1))) (n2.trans n1) fin
end
section
variable {d n a b i j k m q l c:Nat}{u v w:V}{o:O}{e:Ex}{r:Rs}{s:SH}
theorem SI.tt(I:SI E c s)(t:Option Bool):SI E c {s with VV:=t}:=⟨I.c6,I.dg,I.dm,I.po,I.Wc,I.WO⟩
noncomputable abbrev rl(l:List (Nat×List Nat)):List V:=l.map λp:Nat×List Nat=>V.r p.1
noncomputable def HU:List St:=match uC.dZ with | [_,_,_,_,_,_,_,_,.w _ [_,.l _ _ b]]=>b |_=>[]
noncomputable def Kt:List St:=match uC.dZ with | [_,_,_,_,_,_,_,_,.w _ b]=>b |_=>[]
theorem U5(d:Nat){l0:List (Nat×List Nat)}(hN:W+3<=N)(hqN:ql < N)(hqW:W+2 < ql):∀(PL:List (Nat×List Nat)) (s:SH) (ρ:aA) (σ:aj),(∀p∈PL,p∈l0)->SS A H m W s σ->SI H.aM H.KE s->mR (W+3) H.KE l0 σ->(∀p∈l0,p.1 < N)->N<=σ.length->σ[ql]? =some (.l (rl l0))->ρ 0=some (.o 4 W)->ρ 7=some (.r ql)->
  ∃ρ' τ,bF (d+3) 10 (.v 8) HU (.cr ql (rl l0)) (rl PL) ρ σ .n ρ' τ/\SS A H m W (s.rT (PL.map (·.2))) τ/\SI H.aM H.KE (s.rT (PL.map (·.2)))/\mR (W+3) H.KE l0 τ/\cz N W σ τ/\τ.length=σ.length/\ρ' 0=some (.o 4 W)/\ρ' 7=some (.r ql):=by
 intro PL
 induction PL with
 |nil=>intro s ρ σ _ S I Lt _ _ _ h0 h7;exact BH ρ σ fF S I Lt mK rfl h0 h7
 |cons p PL ih=>
  intro s ρ σ hl S I Lt hp hs hq h0 h7
  have pm:=hl p (Xz ..)
  have lc:=Lt.lc p pm
  have ln:p.2.length<=300:=Xl (Lt.ln p pm) (by decide)
  have lo:W+2 < p.1:=Lt.lo p pm
  refine hU (Tr (d+1) I S lc ln lo (Lt.pN p pm)) λσ1 c1 S1 F1 n1=>?_
  have I1:=(wA (E:=H.aM) lc s).Wg I
  have mv:∀{τ:aj},cz N W σ τ->mR (W+3) H.KE l0 τ:=λF=>⟨λu hu=>by have:=Lt.lo u hu;rw[F.V3 _ (hp u hu) (by exact pj this) (by exact nM this rfl) (by exact nM this rfl)];exact Lt.pN u hu,Lt.lo,Lt.ln,Lt.lc⟩
  have Lt1:=mv (F1.le hs)
  refine hU (Ty (d+1) S1 (lot:=p.2) (λz hz=>XB (lc z hz) S.VR.VN.c6) ln lo (Lt1.pN p pm)) λσ2 c2 S2 F2 n2=>?_
  have I2:=(SR.wB (E:=H.aM) lc (s.p8 p.2)).Wg I1
  have FF:cz N W σ σ2:=(F1.le hs).jm (F2.le (qT hs (gL n1)))
  have q2:σ2[ql]? =some (.l (rl l0)):=(FF.V3 ql hqN (pj hqW) (nM hqW rfl) (mC hqW)).trans hq
  let ρ1:=au ρ 8 (.r p.1)
  refine RD (ih ((s.p8 p.2).t9 p.2) ρ1 σ2 (λu hu=>hl u (XA _ hu)) S2 I2 (mv FF) hp (JA hs n2 n1) q2 h0 h7) λρ' τ f1 f2 f3 f4 f5 f6 f7=>?_
  exact Rd ρ' τ (fc (S:=.cr ql (rl l0)) (bd:=HU) (n:=10) (ρ':=ρ1) rfl (ao (du (bQ (af (i:=0) h0) S.VW rfl (Xh (af (bw _ _ _))) c1)) (Xi (du (bQ (af (i:=0) h0) S1.VW rfl (Xh (af (bw _ _ _))) c2)))) q2 f1) f2 f3 f4 (FF.jm f5) (f6.trans (n2.trans n1)) f7
theorem As(S:SS A H m W s σ){t:Bool}(ht:s.VV=some t)(h0:ρ 0=some (.o 4 W)):Ev d (n+2) (.a 49 (.v 0)) ρ σ (.b t) σ:=dv (af h0) rfl S.VW (by rw[ht];rfl)
theorem J2(d:Nat)(S:SS A H m W s σ)(t:Bool)(h0:ρ 0=some (.o 4 W)):ai d (n+1) (.a (.a 49 (.v 0)) (.c (.b t))) ρ σ .n ρ (σ.set W (.a 4 (fZ (A.yx .aJ) W (some t))))/\SS A H m W {s with VV:=some t} (σ.set W (.a 4 (fZ (A.yx .aJ) W (some t)))):=by
 have fl4:(fZ (A.yx .aJ) W s.VV).length<=100:=by unfold fZ;cases s.VV;exact(show 3<=100 by decide);exact(show 4<=100 by decide)
 have fse:gY (fZ (A.yx .aJ) W s.VV) 49 (.b t)=fZ (A.yx .aJ) W (some t):=by unfold fZ;cases s.VV<;>rfl
 have h:=vx (d:=d) (n:=n) (ρ:=ρ) (nm:=49) h0 rfl (aq (v:=.b t)) S.VW fl4
 rw[fse]at h
 exact⟨h,⟨S.VO.eT,λz hz=>by have:=S.lt z hz;rw[aV (by exact mC this)];exact S.VO.aZ z hz⟩,S.VR,S.lt,cR S.VW,S.cs.elim λe q=>(aC e ((aV (x8 rfl)).trans q.1) q.2),S.Wj.elim λe q=>(aC e ((aV (x8 rfl)).trans q.1) q.2)⟩
theorem U6(d:Nat){l0:List (Nat×List Nat)}(hN:W+3<=N)(hqN:ql < N)(hqW:W+2 < ql)(hl:l0.length<=300)(hp:∀p∈l0,p.1 < N):∀(M:Nat) (s:SH) (ρ:aA) (σ:aj),s.ms<=M->s.VV=some true->SS A H m W s σ->SI H.aM H.KE s->mR (W+3) H.KE l0 σ->N<=σ.length->σ[ql]? =some (.l (rl l0))->ρ 0=some (.o 4 W)->ρ 7=some (.r ql)->
  ∃ρ' τ s',ai (d+3) 12 (.w (.a 49 (.v 0)) Kt) ρ σ .n ρ' τ/\SS A H m W s' τ/\SI H.aM H.KE s'/\SC s' (l0.map (·.2))/\cz N W σ τ/\Le s.Vl s'.Vl:=by
 intro M
 induction M using Nat.strongRecOn with
 |_ M ih=>
  intro s ρ σ hM ht S I Lt hs hq h0 h7
  refine bc (J2 (d+3) (n:=10) (ρ:=ρ) S false h0) λb1 S1=>?_
  let σ1:=σ.set W (.a 4 (fZ (A.yx .aJ) W (some false)))
  have F1:cz N W σ σ1:=tM (.inl rfl)
  have I1:=I.tt (some false)
  have Lt1:mR (W+3) H.KE l0 σ1:=⟨λu hu=>by have:=Lt.lo u hu;rw[F1.V3 _ (hp u hu) (by exact pj this) (by exact nM this rfl) (by exact nM this rfl)];exact Lt.pN u hu,Lt.lo,Lt.ln,Lt.lc⟩
  have q1:σ1[ql]? =some (.l (rl l0)):=(F1.V3 ql hqN (pj hqW) (nM hqW rfl) (mC hqW)).trans hq
  have n1:σ1.length=σ.length:=XF
  refine Im (U5 (A:=A) (H:=H) (m:=m) d hN hqN hqW l0 {s with VV:=some false} ρ σ1 (λ_ h=>h) S1 I1 Lt1 hp (qT hs (gL n1)) q1 h0 h7) λρ2 σ2 f1 S2 I2 Lt2 F2 n2 g0 g7=>?_
  have lz:∀lot∈l0.map (·.2),∀z∈lot,z < H.KE:=λlot hlot=>by refine az (XY hlot) λp hp q2=>?_;subst q2;exact Lt.lc p hp
  have R:=Ni (E:=H.aM) lz {s with VV:=some false}
  have body:ae (d+3) 11 Kt ρ σ .n ρ2 σ2:=ao b1 (Xi (fg (S:=.cr ql (rl l0)) (fe (af h7) q1 (bq (by rw[Xk];exact hl))) f1))
  have q2:σ2[ql]? =some (.l (rl l0)):=(F2.V3 ql hqN (pj hqW) (nM hqW rfl) (mC hqW)).trans q1
  have lf:Le s.Vl (SH.rT {s with VV:=some false} (l0.map (·.2))).Vl:=R.WD
  rcases R.Wi I1 with e | ⟨e1,e2⟩
  ·rw[e]at S2 I2
   have C:=Nd lz I1 (Xu SH.ms e)
   exact xK ρ2 σ2 _ (lZ (As S ht h0) body (iY (As S2 rfl g0))) S2 I2 C (F1.jm F2) (wc _)
  ·have e2:(SH.rT {s with VV:=some false} (l0.map (·.2))).ms < s.ms:=e2
   refine u5 (ih _ (XB e2 hM) _ ρ2 σ2 (Xp _) e1 S2 I2 Lt2 (JA hs n2 n1) q2 g0 g7) λρ3 σ3 s3 h3 S3 I3 C3 F3 L3=>?_
   exact xK ρ3 σ3 s3 (lZ (As S ht h0) body h3) S3 I3 C3 ((F1.jm F2).jm F3) (Le.DN lf L3)
end
section
variable {d n a b i j k m q l c:Nat}{u v w:V}{o:O}{e:Ex}{r:Rs}{s:SH}
theorem OS(L:List Nat):∀s:SH,(∀x y,(L.foldl SH.mU s).Vl x y=if x=y/\x∈L then some 0 else s.Vl x y)/\(L.foldl SH.mU s).wf=s.wf:=by
 induction L with
 |nil=>intro s;exact bm (λx y=>(Xv λh=>(nomatch h.2)).symm) rfl
 |cons z L ih=>
  intro s
  refine bc (ih (s.mU z)) λh1 h2=>?_
  refine bm (λx y=>(h1 x y).trans ?_) h2
  by_cases h:x=y/\x∈L
  ·rw[Xr h,Xr ⟨h.1,XA _ h.2⟩]
  ·rw[Xv h]
   refine(?_:gN s.Vl z z 0 x y=_)
   by_cases h3:x=z/\y=z
   ·rw[h3.1,h3.2,nT,Xr ⟨rfl,Xz ..⟩]
   ·rw[qY h3,Xv λ(q:x=y/\x∈z::L)=>(XC q.2).elim (λe=>h3 ⟨e,q.1▸e⟩) λe=>h ⟨q.1,e⟩]
theorem OU(E:d7)(hc:c<=6):SI E c ((List.range c).foldl SH.mU ⟨λ_ _=>none,λ_ _=>none,none⟩):=by
 have h:=(OS (List.range c) ⟨λ_ _=>none,λ_ _=>none,none⟩).1
 have inv:∀{x y z:Nat},((List.range c).foldl SH.mU ⟨λ_ _=>none,λ_ _=>none,none⟩).Vl x y=some z->x=y/\x < c/\z=0:=λ{x y z} hz=>by
  rw[h]at hz
  by_cases q:x=y/\x∈List.range c
  ·rw[Xr q]at hz;exact fy q.1 (Yv q.2) ((Xs hz).symm)
  ·rw[Xv q]at hz;cases hz
 refine⟨hc,λa ha=>?_,λa b x hx=>?_,λa b x hx hn=>absurd (inv hx).1 hn,λa b x hx=>by rw[(inv hx).2.2];exact Xo _,λa b x hx hn=>absurd (inv hx).1 hn⟩
 ·rw[h,Xr ⟨rfl,Y2 ha⟩]
 ·refine cN (inv hx) λq0 h2 _=>?_;subst q0;exact bm h2 h2
theorem Hv{w:ig}:∃y,(s.gD a b k w).Vl a b=some y/\y<=k:=by
 unfold SH.gD
 cases he:s.fX a b k with
 |true=>exact aC k nT (Xp _)
 |false=>
  unfold SH.fX at he
  cases hc:s.Vl a b with
  |none=>rw[hc]at he;cases he
  |some c0=>rw[hc]at he;exact aC c0 hc (Nat.le_of_not_lt (of_decide_eq_false he))
theorem Nh{e:Nat×Nat×Rs}(hE:E[j]? =some e)(h1:e.1 < c)(h2:e.2.1 < c)(s:SH):SR E c s (s.ky E j):=by
 unfold SH.ky
 rw[hE]
 refine(?_:SR E c s (if e.2.2.eB then s else _))
 have p:∀{s:SH},1<=2 * 2 ^ fM s.Vl:=λ{s}=>by have:0 < 2 ^ fM s.Vl:=Nat.pow_pos (by decide);exact jb (x7 (cG this) this)
 cases hl:e.2.2.eB with
 |true=>exact .p9 s
 |false=>exact(SR.wC (k:=1) (w:=.gV j false) h1 h2 λI _ _=>⟨Xp _,p,e.1,e.2.1,e.2.2,hE,hl⟩).uc (SR.wC (k:=1) (w:=.gV j true) h2 h1 λI _ _=>⟨Xp _,p,e.1,e.2.1,e.2.2,hE,hl⟩)
theorem O7(hE:E[j]? =some (x,y,r))(hl:r.eB=false)(s:SH)(hx:x < c)(hy:y < c):(∃k,(s.ky E j).Vl x y=some k/\k<=1)/\∃k,(s.ky E j).Vl y x=some k/\k<=1:=by
 have e:s.ky E j=(s.gD x y 1 (.gV j false)).gD y x 1 (.gV j true):=by unfold SH.ky;rw[hE];refine(?_:(if r.eB then _ else _)=_);rw[hl];rfl
 rw[e]
 refine bm ?_ Hv
 refine az (Hv (s:=s) (a:=x) (b:=y) (k:=1) (w:=.gV j false)) λk h1 h2=>?_
 have R:Le (s.gD x y 1 (.gV j false)).Vl ((s.gD x y 1 (.gV j false)).gD y x 1 (.gV j true)).Vl:=by
  unfold SH.gD
  split
  ·rename_i he;split
   ·exact uz (by assumption)
   ·exact wc _
  ·split
   ·exact uz (by assumption)
   ·exact wc _
 refine az (R _ _ _ h1) λk' h3 h4=>?_
 exact aC k' h3 (Xl h4 h2)
noncomputable def tB(E:d7)(cf:Nat->Nat->Option Nat)(L:List Nat):Prop:=∀j∈L,∀x y r,E[j]? =some (x,y,r)->r.eB=false->(∃k,cf x y=some k/\k<=1)/\∃k,cf y x=some k/\k<=1
theorem tB.le{L:List Nat}(h:tB E cf L)(hl:Le cf cf'):tB E cf' L:=λj hj x y r hE hr=>by
 have up:∀{x y:Nat},(∃k,cf x y=some k/\k<=1)->∃k,cf' x y=some k/\k<=1:=λ⟨k,h1,h2⟩=>(hl _ _ _ h1).elim λk' q=>aC k' q.1 (Xl q.2 h2)
 exact bm (up (h j hj x y r hE hr).1) (up (h j hj x y r hE hr).2)
theorem O9(hc:∀e∈E,e.1 < c/\e.2.1 < c):∀(L:List Nat) (s:SH),(∀j∈L,j < E.length)->SR E c s (L.foldl (SH.ky E) s)/\tB E (L.foldl (SH.ky E) s).Vl L:=by
 intro L
 induction L with
 |nil=>intro s _;exact bm (.p9 s) (λ_ h=>(nomatch h))
 |cons z L ih=>
  intro s hL
  obtain⟨e,he⟩:∃e,E[z]? =some e:=⟨_,Yo (hL z (Xz ..))⟩
  have ec:=hc e (Yi he)
  refine bc (ih (s.ky E z) λj hj=>hL j (XA _ hj)) λh1 h2=>?_
  refine bm ((Nh he ec.1 ec.2 s).uc h1) (λj hj x y r hE hr=>?_)
  rcases XC hj with rfl |hj
  ·rw[hE]at he;cases he
   obtain⟨nn0,k2,q3,q4⟩:=O7 hE hr s ec.1 ec.2;refine az nn0 ?_;clear nn0;intro k1 q1 q2
   refine az (h1.WD _ _ _ q1) λl1 p1 p2=>?_
   refine az (h1.WD _ _ _ q3) λl2 p3 p4=>?_
   exact⟨(aC l1 p1 (Xl p2 q2)),l2,p3,Xl p4 q4⟩
  ·exact h2 j hj x y r hE hr
structure SE(H:HS)(s:SH)(lots:List (List Nat)):Prop where
 WN:SI H.aM H.KE s
 WT:SC s lots
 lc:∀lot∈lots,∀z∈lot,z < H.KE
 lt:∀x,x < H.KE->∃lot∈lots,∀z,z∈lot↔z∈H.cU (H.rt x)
 W2:tB H.aM s.Vl (List.range H.aM.length)
theorem TH(d:Nat)(R:HR A H σ)(G:HG H m):∃τ s lots,aL (d+4) 37 [.o 4 σ.length,.o 2 (A.yx .aJ)] (σ++[.a 4 []]) .n τ/\dl σ.length σ τ/\SS A H m σ.length s τ/\SE H s lots:=by
 let W:=σ.length
 have I:=G.VN
 have hc:=I.c6
 have el:H.aM.length<=300:=by have:=G.ed;have:=G.lQ;have:=G.t5;lia
 let ρ:=bf [.o 4 W,.o 2 (A.yx .aJ)]
 let h:=A.yx .aJ
 let σ0:aj:=σ++[.a 4 (fZ h W none),.t [],.t []]
 let s0:SH:=⟨λ_ _=>none,λ_ _=>none,none⟩
 have hN:∀z,H.ok z->A.yx z < W:=λz hz=>R.lt hz
 have n0:σ0.length=W+3:=Xn
 have S0:SS A H m W s0 σ0:=⟨R.gy _,G,hN,lB _ _,⟨[],kA σ _ 1,λ_ _=>rfl,Xo _,λ_ h=>(nomatch h)⟩,⟨[],kA σ _ 2,λ_ _=>rfl,Xo _,λ_ h=>(nomatch h)⟩⟩
 have s1:ai (d+3) 12 (.i (.p .g (.m 28 (.v 1) []) (.h 3)) [.s] []) ρ (σ++[.a 4 []]) .n ρ (σ++[.a 4 []]):=by
  refine bC (aY (bQ (af (i:=1) rfl) (dy (R.gy _)) rfl ac.an (JK _ (R.gy _) I)) (vU rfl) ?_ trivial) aP
  refine(?_:some (decide ((60:Int) < (H.KE:Nat)))=_)
  rw[XU (by lia)]
 have s3:ai (d+3) 12 (.a (.a 46 (.v 0)) (.g .t [])) ρ (σ++[.a 4 [(39,.o 2 h)]]) .n ρ (σ++[.a 4 [(39,.o 2 h),(46,.r (W+1))],.t []]):=by
  refine lD (g':=[.t []]) rfl rfl (show 1<=100 by decide) ?_
  have h:=pF (d:=d+3) (n:=29) (kd:=.t) (ρ:=ρ) (σ:=σ++[.a 4 [(39,.o 2 h)]])
  rw[Xn,XM]at h;exact h
 have s4:ai (d+3) 12 (.a (.a 47 (.v 0)) (.g .t [])) ρ (σ++[.a 4 [(39,.o 2 h),(46,.r (W+1))],.t []]) .n ρ σ0:=by
  refine lD (g:=[.t []]) (g':=[.t [],.t []]) rfl rfl (show 2<=100 by decide) ?_
  have h:=pF (d:=d+3) (n:=29) (kd:=.t) (ρ:=ρ) (σ:=σ++[.a 4 [(39,.o 2 h),(46,.r (W+1))],.t []])
  rw[Xn,XM]at h;exact h
 refine i8 (GH (d+3) (nn:=11) (v0:=2) (bd:=[.a (.s (.a 46 (.v 0)) (.t [.v 2,.v 2])) (.c (.i 0))]) (step:=SH.mU) (ys:=df 0 (H.KE:Nat) 1) (N:=W) (λρ=>ρ 0=some (.o 4 W)/\ρ 1=some (.o 2 h)) (λρ z k=>k) (List.range H.KE) (λz s ρ σ1 hz S k hv=>by
  refine hU (OT (d+3) S (XB (Yv hz) hc) k.1 hv) λτ h1 h2 h3 h4=>?_
  exact iu ρ τ h1 h2 (h3.le (by have:=S.rU;exact bT (qL this))) h4 k) (List.range H.KE) s0 ρ σ0 (λ_ h=>h) S0 ⟨rfl,rfl⟩) λρ5 σ5 f5 S5 F5 n5 k5=>?_
 have I5:SI H.aM H.KE ((List.range H.KE).foldl SH.mU s0):=OU H.aM hc
 refine i8 (GH (d+3) (nn:=11) (v0:=3) (bd:=Ah) (step:=SH.ky H.aM) (ys:=df 0 (H.aM.length:Nat) 1) (N:=W) (λρ=>ρ 0=some (.o 4 W)/\ρ 1=some (.o 2 h)) (λρ z k=>k) (List.range H.aM.length) (λz s ρ σ1 hz S k hv=>by
  refine i8 (O8 (d+2) S (Yv hz) k.1 k.2 hv) λρ' τ h1 h2 h3 h4 h5=>?_
  exact iu ρ' τ h1 h2 (h3.le (by have:=S.rU;exact bT (qL this))) h4 (⟨(h5 0 (by decide)).trans k.1,(h5 1 (by decide)).trans k.2⟩)) (List.range H.aM.length) _ ρ5 σ5 (λ_ h=>h) S5 k5) λρ6 σ6 f6 S6 F6 n6 k6=>?_
 refine bc (O9 (λe he=>⟨(G.eg e he).1,(G.eg e he).2.1⟩) (List.range H.aM.length) ((List.range H.KE).foldl SH.mU s0) λj hj=>Yv hj) λR6 B6=>?_
 have I6:=R6.Wg I5
 let σ7:aj:=σ6++[.l (av (kQ H))]
 have n6':σ6.length=W+3:=n6.trans (n5.trans n0)
 have S7:=S6.mW [.l (av (kQ H))]
 have rl6:(kQ H).length<=6:=Xl (List.length_filter_le _ _) (by rw[XO];exact hc)
 refine i8 (QY (N:=W+3) (ρ:=ρ6) (qc:=σ6.length) d G (λz hz=>by have:=hN z hz;exact d5 this) (h0:=k6.2) (kQ H) [] σ7 (λ_ h=>h) S7.VO (by rw[Xn,n6'];exact XJ ..) aX ⟨λ_ h=>(nomatch h),λ_ h=>(nomatch h),λ_ h=>(nomatch h),λ_ h=>(nomatch h)⟩ (by rw[XR];exact qQ rl6 rfl)) λPL g it Lt _ fx pl20=>?_
 let σ8:aj:=σ7++g++[.l (rl PL)]
 have S8:=(S7.mW g).mW [.l (rl PL)]
 have e7:ai (d+3) 12 (.a (.v 7) (.o (.m 37 (.v 1) [.v 9]) [.m (.v 9) (.e (.m 36 (.v 1) [])) []])) ρ6 σ6 .n (au ρ6 7 (.r (σ7++g).length)) σ8:=
  bh (dU (fe (bQ (af k6.2) (dy S6.VO) rfl ac.an (Tf _ S6.VO I)) aX (bq (by rw[Xk];exact bP rl6 rfl))) it) ba
 refine bc (J2 (d+3) (n:=11) (ρ:=au ρ6 7 (.r (σ7++g).length)) S8 true k6.1) λb9 S9=>?_
 let σ9:=σ8.set W (.a 4 (fZ h W (some true)))
 have n8:σ8.length=(σ7++g).length+1:=Xn
 have n7:W+3 < (σ7++g).length:=by rw[Xn,Xn,n6'];refine(?_:W+3 < W+3+1+g.length);exact iO
 have gt:∀i,W < i->σ9[i]? =σ8[i]?:=λi hi=>aV (gM hi)
 have Lt9:mR (W+3) H.KE PL σ9:=⟨λp hp=>by have:=Lt.lo p hp;rw[gt _ (by exact jb this)];exact bO _ _ (Lt.pN p hp),Lt.lo,Lt.ln,Lt.lc⟩
 refine u5 (U6 (A:=A) (H:=H) (m:=m) (N:=σ9.length) d (ql:=(σ7++g).length) (l0:=PL) (by rw[XF];exact qL (i9 n7 n8)) (by rw[XF];exact gL n8) (qL n7) (bP pl20 rfl) (λp hp=>e8 (Lt9.pN p hp)) _ _ (au ρ6 7 (.r (σ7++g).length)) σ9 (Xp _) rfl S9 (I6.tt _) Lt9 (Xp _) ((gt _ (qM n7)).trans aX) k6.1 (bw _ _ _)) λρw τ sf hw Sw Iw Cw Fw Lw=>?_
 have ln:=ci rfl (d:=d+3) (n:=29) (ρ:=ρ5) (Xh (dv (m:=23) (af (n:=27) k5.2) rfl (dy S5.VO) rfl)) (fB (S5.VO.aZ .fH trivial) (bq (by rw[Xk];exact el)))
 rw[Xk]at ln
 have l5:ai (d+3) 12 (.l (.v 2) (.r [.m 28 (.v 1) []]) [.a (.s (.a 46 (.v 0)) (.t [.v 2,.v 2])) (.c (.i 0))]) ρ σ0 .n ρ5 σ5:=by
  refine fg (S:=.bx (df 0 (H.KE:Nat) 1)) (pP (bQ (af (i:=1) rfl) (dy S0.VO) rfl ac.an (JK _ S0.VO I)) (by unfold aK;lia) (by unfold bY;exact vn)) ?_
  refine(?_:bF _ _ _ _ (.bx (df 0 (H.KE:Nat) 1)) (df 0 (H.KE:Nat) 1) _ _ _ _ _)
  rw[vu]at f5 ⊢;exact f5
 have l6:ai (d+3) 12 (.l (.v 3) (.r [.b .l [.a 23 (.v 1)]]) Ah) ρ5 σ5 .n ρ6 σ6:=by
  refine fg (S:=.bx (df 0 (H.aM.length:Nat) 1)) (pP ln (by unfold aK;lia) (by unfold bY;exact vn)) ?_
  refine(?_:bF _ _ _ _ (.bx (df 0 (H.aM.length:Nat) 1)) (df 0 (H.aM.length:Nat) 1) _ _ _ _ _)
  rw[vu]at f6 ⊢;exact f6
 refine BJ τ sf (PL.map (·.2)) (cI (f:=uC) (fl:=.n) (ρ':=ρw) rfl rfl (ao s1 (ao (lD (g:=[]) (g':=[]) rfl rfl (show 0<=100 by decide) (af (i:=1) rfl)) (ao s3 (ao s4 (ao l5 (ao l6 (ao e7 (ao b9 (Xi hw)))))))))) (λi hi=>?_) Sw (⟨Iw,Cw,λlot hlot=>?_,λx hx=>?_,B6.le Lw⟩)
 ·have hi:i < W:=hi
  rw[Fw.V3 i (by rw[XF];lia) (by lia) (by lia) (by lia),show σ9[i]? =σ8[i]? from aV (by lia),show σ8[i]? =(σ7++g)[i]? from Ye (by lia),show(σ7++g)[i]? =σ7[i]? from Ye (by rw[Xn,n6'];lia),show σ7[i]? =σ6[i]? from Ye (by lia),F6.V3 i hi (by lia) (by lia) (by lia),F5.V3 i hi (by lia) (by lia) (by lia)]
  exact Ye hi
 ·refine az (XY hlot) λp hp q2=>?_;subst q2;exact Lt.lc p hp
 ·have rc:=I.rc hx
  refine az (fx (H.rt x) (List.mem_filter.mpr ⟨Y2 rc,XL (I.jp x hx)⟩)) λp hp hz=>?_
  exact aC p.2 (Yt (aC p hp rfl)) hz
end
noncomputable def ec:Nat->Nat
 |0=>1
 |q+1=>2 * (5 * ec q)
section
variable {d n a b i j k m q l c:Nat}{u v w:V}{o:O}{e:Ex}{r:Rs}{s:SH}
theorem FJ(q:Nat):1<=ec q:=by induction q with |zero=>exact Xp _ |succ q ih=>refine(?_:1<=2 * (5 * ec q));exact JB ih
theorem FI{p:Nat}(h:p<=q):ec p<=ec q:=by
 induction h with
 |refl=>exact Xp _
 |step _ ih=>refine(?_:_<=2 * (5 * ec _));exact JB ih
theorem SE.Em(S:SE H s lots)(G:HG H m)(ha:a < H.KE):∃lot∈lots,∀z,z < H.KE->H.rt z=H.rt a->z∈lot:=by
 refine az (S.lt a ha) λlot h1 h2=>?_
 exact aC lot h1 (λz hz hr=>(h2 z).mpr (by rw[<-hr];exact G.lm z hz))
theorem Vj{l l':List Nat}{p:Nat×Nat}(h:p∈l.zip l'):(p.2,p.1)∈l'.zip l:=by
 refine aT (List.mem_iff_getElem?.mp h) λi hi=>?_
 refine bc (List.getElem?_zip_eq_some.mp hi) λh1 h2=>?_
 exact List.mem_iff_getElem?.mpr ⟨i,List.getElem?_zip_eq_some.mpr ⟨h2,h1⟩⟩
theorem Hz(S:SE H s lots)(G:HG H m)(ha:a < H.KE)(hb:b < H.KE)(hr:H.rt a=H.rt b)(ho:bv a=bv b)(hl:(aN a).length=(aN b).length){B:Nat}(hk:∀p∈kz a b,∃y,s.Vl p.1 p.2=some y/\y<=B):∃y,s.Vl a b=some y/\y<=2 * B:=by
 by_cases e:a=b
 ·subst e;exact aC 0 (S.WN.dg a ha) (Xo _)
 ·refine az (S.Em G ha) λlot h1 h2=>?_
  refine az (S.WT.lk lot h1 a (h2 a ha rfl) b (h2 b hb hr.symm) (by unfold qB;rw[XL e,XL ho,XL hl];rfl) λp hp=>(hk p hp).elim λy q=>⟨y,q.1⟩) λy hy hle=>?_
  refine aC y hy (Xl hle ?_)
  have kb:jY s.Vl a b<=((kz a b).map λ_=>B).sum:=yo λp hp=>by refine az (hk p hp) λy hy q=>?_;rw[hy];exact q
  have l2:(kz a b).length<=2:=by refine(?_:((aN a).zip (aN b)).length<=2);rw[List.length_zip];exact Xl (Zm _ _) (gZ a)
  rw[List.map_const',List.sum_replicate_nat]at kb
  exact Xl kb (Y1 _ l2)
theorem OI(S:SE H s lots)(G:HG H m):∀(j x y:Nat),x < H.KE->Cn H.aM H.bL j x y->∃k,s.Vl x y=some k/\k<=5 * ec (dT (H.aM.take j)):=by
 intro j
 induction j using Nat.strongRecOn with
 |_ j ih=>
  have edge:∀{i a b:Nat} {r:Rs},i < j->H.aM[i]? =some (a,b,r)->(a < H.KE/\b < H.KE/\H.rt a=H.rt b)/\(∃k,s.Vl a b=some k/\k<=ec (dT (H.aM.take j)))/\∃k,s.Vl b a=some k/\k<=ec (dT (H.aM.take j)):=λ{i a b r} hi hE=>by
   have mem:=Yi hE
   have eg:a < H.KE/\b < H.KE/\r.ok H.KE:=G.eg _ mem
   have al:H.rt a=H.rt b:=G.al _ mem
   refine bm (⟨eg.1,eg.2.1,al⟩) ?_
   cases hr:r.eB with
   |false=>
    obtain⟨nn0,k2,q3,q4⟩:=S.W2 i (Y2 (XS hE).1) a b r hE hr;refine az nn0 ?_;clear nn0;intro k1 q1 q2
    exact⟨(aC k1 q1 (Xl q2 (FJ _))),k2,q3,Xl q4 (FJ _)⟩
   |true=>
    obtain rfl:r=.iX:=by cases r<;>first |rfl |cases hr
    refine cN (G.lk i a b hE) λh1 h2 h3=>?_
    have q1:dT (H.aM.take i)+1<=dT (H.aM.take j):=by rw[<-HC hE];exact HE hi
    have mc:2 * (5 * ec (dT (H.aM.take i)))<=ec (dT (H.aM.take j)):=FI q1
    refine az (Hz S G eg.1 eg.2.1 al h1 h2 (B:=5 * ec (dT (H.aM.take i))) λp hp=>ih i hi p.1 p.2 (nt a eg.1 _ (List.of_mem_zip (show(p.1,p.2)∈(aN a).zip (aN b) from hp)).1) (h3 p hp)) λy1 f1 g1=>?_
    refine az (Hz S G eg.2.1 eg.1 al.symm h1.symm h2.symm (B:=5 * ec (dT (H.aM.take i))) λp hp=>ih i hi p.1 p.2 (nt b eg.2.1 _ (List.of_mem_zip (show(p.1,p.2)∈(aN b).zip (aN a) from hp)).1) (by refine az (h3 (p.2,p.1) (Vj hp)) λn n5 cs=>?_;exact aC n n5 cs.yE)) λy2 f2 g2=>?_
    exact⟨(aC y1 f1 (Xl g1 mc)),y2,f2,Xl g2 mc⟩
  have steps:∀{n x y:Nat},Cs H.aM H.bL j n x y->x < H.KE->y < H.KE/\H.rt y=H.rt x/\∃k,s.Vl x y=some k/\k<=n * ec (dT (H.aM.take j)):=λ{n x y} h=>by
   have add:∀{n x a b k2:Nat},x < H.KE->a < H.KE/\H.rt a=H.rt x/\(∃k,s.Vl x a=some k/\k<=n * ec (dT (H.aM.take j)))->b < H.KE->H.rt b=H.rt a->s.Vl a b=some k2->k2<=ec (dT (H.aM.take j))->b < H.KE/\H.rt b=H.rt x/\∃k,s.Vl x b=some k/\k<=(n+1) * ec (dT (H.aM.take j)):=λhx ⟨ha,ra,k1,q1,l1⟩ hb rb q2 l2=>by
    refine az (S.Em G hx) λlot h1 h2=>?_
    refine az (S.WT.W1 lot h1 _ (h2 _ ha ra) _ (h2 _ hx rfl) _ (h2 _ hb (rb.trans ra)) _ _ q1 q2) λy hy hl=>?_
    exact⟨hb,rb.trans ra,y,hy,by rw[Nat.succ_mul];exact qT hl (qF l1 l2)⟩
   induction h with
   |kX=>intro hx;exact⟨hx,rfl,0,S.WN.dg _ hx,Xo _⟩
   |mJ _ hf hj he ih=>intro hx;refine cN (edge hj he) λnn0 nn1 _=>?_;refine cN nn0 ?_;clear nn0;intro ha hb hr;refine az nn1 ?_;clear nn1;intro k q1 q2;exact add hx (ih hx) hb hr.symm q1 q2
   |nV _ hf hj he ih=>intro hx;refine cN (edge hj he) λnn0 _ nn1=>?_;refine cN nn0 ?_;clear nn0;intro ha hb hr;refine az nn1 ?_;clear nn1;intro k q1 q2;exact add hx (ih hx) ha hr q1 q2
  intro x y hx ⟨n,n5,h⟩
  obtain⟨_,_,k,q1,q2⟩:=steps h hx
  exact aC k q1 (Xl q2 (Y1 _ n5))
theorem OH(S:SE H s lots)(G:HG H m)(hx:x < H.KE)(hy:y < H.KE)(h:H.rt x=H.rt y):∃k,s.Vl x y=some k/\k<=500:=by
 refine az (OI S G _ x y hx (G.y0 hx hy h)) λk h1 h2=>?_
 exact aC k h1 (Xl h2 (Xl (Nat.mul_le_mul_left 5 (FI (HD G _))) (by decide)))
noncomputable def rk(s:SH)(v:Nat):Nat:=(List.range 36).countP λi=>match s.Vl (i / 6) (i % 6)with
 |some k=>decide (k * 16+(i / 6+i % 6) < v)
 |none=>false
theorem CC{v:Nat}(ha:a < 6)(hb:b < 6)(hk:s.Vl a b=some k)(h:k * 16+(a+b) < v):rk s (k * 16+(a+b))+1<=rk s v:=by
 refine cN (zW ha hb) λe1 e2 e3=>?_
 refine Fz (λi hi=>?_) e3 ?_ ?_
 ·cases hc:s.Vl (i / 6) (i % 6)with
  |none=>rw[hc]at hi;cases hi
  |some z=>rw[hc]at hi;exact XL (Nat.lt_trans (XQ hi) h)
 ·rw[e1,e2,hk];exact XU (YQ _)
 ·rw[e1,e2,hk];exact XL h
theorem TK(d:Nat)(S:SS A H m W s σ)(hk:s.Vl a b=some k):aL (d+1) 41 [.o 4 W,.i a,.i b] σ (.i k) σ:=by
 have ni:=Aq (d:=d) (n:=26) (ρ:=bf [.o 4 W,.i a,.i b]) S rfl (kF (i1:=1) (i2:=2) (a:=a) (b:=b) rfl rfl)
 rw[hk]at ni
 exact cI (f:=Gp) (fl:=.r _) rfl rfl (ao (bC ni aP) (be (bM (uB S rfl (kF rfl rfl) hk))))
theorem To(d:Nat)(R:HR A H σ)(I:HI H)(hx:x < H.KE)(hq:σ[q]? =some (.l [])):aL (d+3) 31 [.o 2 (A.yx .aJ),.i x,.r q] σ (Pp.cZ (cp x)).enc σ:=by
 have g0:(σ++[O.l []])[σ.length]? =some (.l (List.map Pp.enc [])):=aX
 have R1:=R.gy [.l []]
 exact fV (f:=uF) (ρ':=au (bf [.o 2 (A.yx .aJ),.i x,.r q]) 3 (.r σ.length)) rfl rfl (ao (bh (ci rfl (Xh (af rfl)) (IT hq (Xo _))) ba)
  (ao (iY (aY (mw g0 (Xo _) rfl) aq rfl trivial)) (be (bM (jh (aY (mw g0 (Xo _) rfl) aq rfl (Xo _)) (bI (ac.ah aq (Xh (bQ (eH R1 rfl rfl rfl) R1.gT rfl (Xh (af (i:=1) rfl)) (Cz d R1 I hx)))))))))) (Yd _ _) ((Pp.cZ (cp x)).lo_enc _)
theorem PB(S:SS A H m W s σ)(h0:ρ 0=some (.o 4 W))(he:Ev d (n+3) e ρ σ (.t [.i a,.i b]) σ)(hc:s.wf a b=some wy):Ev d (n+4) (.s (.a 47 (.v 0)) e) ρ σ wy.iK σ:=by
 obtain⟨es,h1,T⟩:=S.Wj
 exact bi (jV S h0 rfl rfl) he (mB h1 (by intro _ h;cases h) (by rw[w6,T.rX,hc];rfl))
theorem QM{f:α->Nat}{l:List α}{z:α}(h:z∈l):f z<=(l.map f).sum:=by
 induction l with
 |nil=>cases h
 |cons u l ih=>
  rw[Xw,Yk]
  rcases XC h with rfl |h
  ·exact XJ ..
  ·exact Xl (ih h) (YJ ..)
theorem TJ(E1:SE H s lots):∀(N d a b k:Nat),s.Vl a b=some k->rk s (k * 16+(a+b)) < N->∃P:Pp,P.good/\P.dep<=N+5/\(a=b->P.sz<=60)/\(a≠b->P.sz+(if a < 2 then 200 else 120)<=400 * k)/\∀(A:Ad) (m W:Nat) (σ:aj),SS A H m W s σ->aL (d+4+N) 42 [.o 4 W,.i a,.i b] σ P.enc σ:=by
 intro N
 induction N with
 |zero=>intro d a b k _ h;exact absurd h (YX _)
 |succ N ih=>
  intro d a b k hk hN
  have I:=E1.WN
  have ab:=I.dm a b k hk
  have a6:=XB ab.1 I.c6
  have b6:=XB ab.2 I.c6
  have e0:d+4+(N+1)=(d+N+1)+3+1:=by lia
  -- the first lines
  have first:∀{A:Ad} {m W:Nat} {σ:aj},SS A H m W s σ->ai (d+N+1+3) 12 (.e (.m 52 (.v 0) [.v 1,.v 2])) (bf [.o 4 W,.i a,.i b]) σ .n (bf [.o 4 W,.i a,.i b]) σ:=λS=>du (bQ (af rfl) S.VW rfl (ac.ah (af rfl) (Xh (af rfl))) (TK _ S hk))
  have same:∀{W:Nat} {σ:aj},Ev (d+N+1+3) 30 (.p .e (.v 1) (.v 2)) (bf [.o 4 W,.i a,.i b]) σ (.b (decide (a=b))) σ:=λ{W σ}=>aY (af (i:=1) rfl) (af (i:=2) rfl) (sC _ _) (Xo _)
  by_cases e:a=b
  ·refine uY (.cZ (cp a)) (vD a) (by have:=vC a;refine(?_:(cp a).dep+1<=_);exact ph this pi rfl) (λ_=>by have:=vE a;refine(?_:(cp a).sz+40<=_);exact ja this rfl) (λh=>absurd e h) (λA m W σ S=>?_)
   rw[e0]
   have sm:=same (W:=W) (σ:=σ)
   rw[XL e]at sm
   have S1:=S.mW [.l []]
   exact fV (f:=uD) rfl rfl (ao (first S) (be (cW sm (be (bM (cw (ac.ah (jV S rfl rfl rfl) (ac.ah (af (i:=1) rfl) (Xh (dp ac.an)))) (To _ S1.VO S.VR.VN ab.1 aX))))))) (Yd _ _) ((Pp.cZ (cp a)).lo_enc _)
  ·refine az (I.WO a b k hk e) λwy hw wk=>?_
   have k1:=I.po a b k hk e
   -- the lines up to the way
   have start:∀{A:Ad} {m W:Nat} {σ:aj} {fl:Fl} {ρ':aA} {τ:aj} {rest:List St},SS A H m W s σ->ae (d+N+1+3) 12 rest (au (bf [.o 4 W,.i a,.i b]) 3 wy.iK) σ fl ρ' τ->ae (d+N+1+3) 12 (.e (.m 52 (.v 0) [.v 1,.v 2])::.i (.p .e (.v 1) (.v 2)) [.r (.l 31 [.a 39 (.v 0),.v 1,.d []])] []::.a (.v 3) (.s (.a 47 (.v 0)) (.t [.v 1,.v 2]))::rest) (bf [.o 4 W,.i a,.i b]) σ fl ρ' τ:=λ{A m W σ fl ρ' τ rest} S h=>by
    have sm:=same (W:=W) (σ:=σ)
    rw[XU e]at sm
    exact ao (first S) (ao (bC sm aP) (ao (bh (PB S rfl (kF rfl rfl) hw) ba) h))
   have kd:∀{W:Nat} {σ:aj} (kw:List Nat),∃kd rest,wy.iK=.t (.s kd::rest)/\rest.length<=2/\Ev (d+N+1+3) 30 (.p .e (.s (.v 3) (.c (.i 0))) (.c (.s kw))) (au (bf [.o 4 W,.i a,.i b]) 3 wy.iK) σ (.b (decide (kd=kw))) σ:=λ{W σ} kw=>by
    have one:∃kd rest,wy.iK=.t (.s kd::rest)/\rest.length<=2:=by
     cases wy with
     |gV j t=>exact eE _ _ rfl (show 2<=2 by decide)
     |mX=>exact eE _ _ rfl (Xo _)
     |oO m=>exact eE _ _ rfl (show 1<=2 by decide)
    refine dY one ?_;clear one;intro kd rest h1 h2
    exact dN kd rest h1 h2 (aY (bi (af (i:=3) (v:=.t (.s kd::rest)) (Xu some h1)) aq (c9 (v:=.s kd) (bg rfl) rfl)) aq vz (Xo _))
   have isk:∀{W:Nat} {σ:aj} {kd kw:List Nat} {rest:List V} {bo:Bool},wy.iK=.t (.s kd::rest)->decide (kd=kw)=bo->Ev (d+N+1+3) 30 (.p .e (.s (.v 3) (.c (.i 0))) (.c (.s kw))) (au (bf [.o 4 W,.i a,.i b]) 3 wy.iK) σ (.b bo) σ:=λ{W σ kd0 kw rest bo} h hb=>by
    refine cO (kd (W:=W) (σ:=σ) kw) λkd' rest' h1 _ h3=>?_
    rw[h]at h1;cases h1
    rw[hb]at h3;exact h3
   rw[e0]
   cases wy with
   |oO mm=>
    obtain⟨ma,mb,c1,c2,q1,q2,hle⟩:=wk
    have am:=I.dm _ _ _ q1
    have p1:=I.po _ _ _ q1 ma.symm
    have p2:=I.po _ _ _ q2 mb
    have m6:=XB am.2 I.c6
    have r1:=CC (s:=s) (v:=k * 16+(a+b)) a6 m6 q1 (by lia)
    have r2:=CC (s:=s) (v:=k * 16+(a+b)) m6 b6 q2 (by lia)
    refine u3 (ih d a mm c1 q1 (Cv r1 hN)) λP1 g1 d1 _ z1 h1=>?_
    refine u3 (ih d mm b c2 q2 (Cv r2 hN)) λP2 g2 d2 _ z2 h2=>?_
    have z1:=z1 ma.symm
    have z2:=z2 mb
    have e2:d+N+1+3=d+4+N:=JC
    refine uY (.bG P1 P2) (⟨g1,g2⟩) (Yx (Nat.max_le.mpr ⟨d1,d2⟩)) (λh=>absurd h e) (λ_=>?_) (λA m W σ S=>?_)
    ·show P1.sz+P2.sz+10+_<=_
     have:(if a < 2 then 200 else 120)<=200:=by split<;>decide
     have:120<=(if a < 2 then 200 else 120):=by split<;>decide
     have:120<=(if mm < 2 then 200 else 120):=by split<;>decide
     lia
    ·have h1:=h1 A m W σ S
     have h2:=h2 A m W σ S
     rw[<-e2]at h1 h2
     have wv:Ev (d+N+1+3) 28 (.s (.v 3) (.c (.i 1))) (au (bf [.o 4 W,.i a,.i b]) 3 (ig.oO mm).iK) σ (.i mm) σ:=bi (af rfl) aq (c9 (bg rfl) rfl)
     exact cI (f:=uD) (fl:=.r _) rfl rfl (start S (be (cW (isk rfl rfl) (be (bM (bI (ac.ah aq (ac.ah (bQ (af (i:=0) rfl) S.VW rfl (ac.ah (af (i:=1) rfl) (Xh wv)) h1) (Xh (bQ (af (i:=0) rfl) S.VW rfl (ac.ah wv (Xh (af (i:=2) rfl))) h2))))))))))
   |gV j t=>
    refine sS wk ?_;clear wk;intro e1 e2 r hE hr
    let P:Pp:=if t then .cH (gJ r)else gJ r
    have eg0:∀{A:Ad} {m W:Nat} {σ:aj},SS A H m W s σ->r.ok H.KE:=λS=>(S.VR.eg _ (Yi hE)).2.2
    refine Classical.byCases (p:=r.ok H.KE) (λrok=>?_) λh=>uY (.cZ (cp a)) (vD a) (by have:=vC a;refine(?_:(cp a).dep+1<=_);exact ph this pi rfl) (λh=>absurd h e) (λ_=>by have:=vE a;refine(?_:(cp a).sz+40+_<=_);have:(if a < 2 then 200 else 120)<=200:=by{split<;>decide};lia) (λA m W σ S=>absurd (eg0 S) h)
    have gp:=IN rok hr
    refine uY P ?_ ?_ (λh=>absurd h e) (λ_=>?_) (λA m W σ S=>?_)
    ·refine(?_:(if t then _ else _:Pp).good);cases t;exact gp.Wd;exact gp.Wd
    ·have:=gp.Wo;refine(?_:(if t then Pp.cH (gJ r)else gJ r).dep<=_);cases t with |true=>refine(?_:(gJ r).dep+1<=_);lia |false=>refine(?_:(gJ r).dep<=_);lia
    ·have:(if t then Pp.cH (gJ r)else gJ r).sz<=140:=by have:=gp.Wq;cases t with |true=>refine(?_:(gJ r).sz+40<=_);exact qO this |false=>refine(?_:(gJ r).sz<=_);exact bP this rfl
     have:(if a < 2 then 200 else 120)<=200:=by split<;>decide
     refine(?_:(if t then Pp.cH (gJ r)else gJ r).sz+_<=_)
     lia
    ·have el:H.aM.length<=300:=by have:=S.VR.ed;have:=S.VR.lQ;have:=S.VR.t5;lia
     have pe:=JO (d+N+1) S.VO S.VR.VN hE el rok hr
     let ρ4:=au (au (bf [.o 4 W,.i a,.i b]) 3 (ig.gV j t).iK) 4 (gJ r).enc
     have fin:Ev (d+N+1+3) 30 (.f (.s (.v 3) (.c (.i 2))) (.t [.c (.s [116,117,114,110]),.v 4]) (.v 4)) ρ4 σ P.enc σ:=by
      have tv:Ev (d+N+1+3) 29 (.s (.v 3) (.c (.i 2))) ρ4 σ (.b t) σ:=bi (af (i:=3) rfl) aq (c9 (bg rfl) rfl)
      refine(?_:Ev _ _ _ _ _ (if t then Pp.cH (gJ r)else gJ r).enc _)
      cases t with
      |true=>exact jC tv (bI (ac.ah aq (Xh (af rfl))))
      |false=>exact jh tv (af rfl)
     exact cI (f:=uD) (fl:=.r _) rfl rfl (start S (ao (bC (isk rfl rfl) aP) (be (cW (isk rfl rfl) (ao (bh (cw (ac.ah (jV S rfl rfl rfl) (Xh (bi (af (i:=3) rfl) aq (c9 (bg rfl) rfl)))) pe) ba) (be (bM fin)))))))
   |mX=>
    refine cN wk ?_;clear wk;intro op hks hle
    refine cN (Hs a a6 b b6 op e) λkf a2 b2=>?_
    have km:∀z∈kz a b,z.1 < 2/\z.2 < 2/\z.1≠z.2:=λz hz=>by
     rcases kf with q |q |q |q<;>rw[q]at hz
     ·rw[Xy hz];decide
     ·rw[Xy hz];decide
     ·rcases XC hz with rfl |hz;decide;rw[Xy hz];decide
     ·rcases XC hz with rfl |hz;decide;rw[Xy hz];decide
    have yk:∀z∈kz a b,(s.Vl z.1 z.2).getD 0<=k:=λz hz=>Xl (QM (f:=λz:Nat×Nat=>(s.Vl z.1 z.2).getD 0) hz) hle
    have e2:d+N+1+3=d+4+N:=JC
    have all:∀z:Nat×Nat,∃P:Pp,z∈kz a b->P.good/\P.dep<=N+5/\P.sz+200<=400 * (s.Vl z.1 z.2).getD 0/\∀(A:Ad) (m W:Nat) (σ:aj),SS A H m W s σ->aL (d+N+1+3) 42 [.o 4 W,.i z.1,.i z.2] σ P.enc σ:=λz=>by
     by_cases hz:z∈kz a b
     ·refine aT (hks z hz) λy hy=>?_
      refine cN (km z hz) λt1 t2 tn=>?_
      have hyk:=yk z hz
      rw[hy]at hyk
      have hyk:y<=k:=hyk
      have r1:=CC (s:=s) (v:=k * 16+(a+b)) (bP t1 rfl:z.1 < 6) (bP t2 rfl:z.2 < 6) hy (by lia)
      refine u3 (ih d z.1 z.2 y hy (Cv r1 hN)) λP g1 d1 _ z1 h1=>?_
      have z1:=z1 tn
      rw[Xr t1]at z1
      exact fA P (λ_=>⟨g1,d1,by rw[hy];exact z1,λA m W σ S=>by rw[e2];exact h1 A m W σ S⟩)
     ·exact fA (.cQ []) (λh=>absurd h hz)
    refine aT (Classical.axiomOfChoice all) λf hf=>?_
    let ps:=(kz a b).map f
    have fold:∀L:List (Nat×Nat),(∀z∈L,z∈kz a b)->Pp.goods (L.map f)/\Pp.deps (L.map f)<=N+5/\Pp.szs (L.map f)+198 * L.length<=400 * (L.map λz=>(s.Vl z.1 z.2).getD 0).sum:=λL=>by
     induction L with
     |nil=>intro _;exact fy trivial (Xo _) (Xp _)
     |cons z L ihL=>
      intro h
      refine cN (ihL λu hu=>h u (XA _ hu)) λi1 i2 i3=>?_
      refine kM (hf z (h z (Xz ..))) λg1 d1 z1 _=>?_
      refine fy (⟨g1,i1⟩) (Nat.max_le.mpr ⟨d1,i2⟩) ?_
      refine(?_:(f z).sz+2+Pp.szs (L.map f)+198 * (L.length+1)<=400 * ((s.Vl z.1 z.2).getD 0+(L.map λz=>(s.Vl z.1 z.2).getD 0).sum))
      lia
    refine cN (fold (kz a b) λ_ h=>h) λg1 d1 z1=>?_
    have l1:1<=(kz a b).length:=by rcases kf with q |q |q |q<;>rw[q]<;>decide
    have hle:((kz a b).map λz=>(s.Vl z.1 z.2).getD 0).sum<=k:=hle
    refine uY (.cD (bv a) ps) (⟨xQ a,g1⟩) (by refine(?_:Pp.deps ps+1<=_);exact Yx d1) (λh=>absurd h e) (λ_=>?_) (λA m W σ S=>?_)
    ·rw[Xv (by lia)]
     refine(?_:(bv a).length+40+Pp.szs ps+120<=_)
     rw[xR]
     have:Pp.szs ps+198 * (kz a b).length<=400 * _:=z1
     lia
    ·have l2:(kz a b).length<=2:=by refine(?_:((aN a).zip (aN b)).length<=2);rw[List.length_zip];exact Xl (Zm _ _) (gZ a)
     let ρ3:=au (bf [.o 4 W,.i a,.i b]) 3 ig.mX.iK
     let σz:aj:=σ++[.i ((kz a b).map pv),.u,.u,.u]
     have ez:(((av (aN a)).zip (av (aN b))).map λp:V×V=>V.t [p.1,p.2])=(kz a b).map pv:=by rw[List.zip_map,XN];rfl
     have lz:σ.length < σz.length:=by rw[Xn];exact Nat.lt_add_of_pos_right (show 0 < 4 by decide)
     have gz:σz[σ.length]? =some (.i ((kz a b).map pv)):=lB _ _
     have kid:∀{i z n:Nat},ρ3 i=some (.i z)->z < H.KE->Ev (d+N+1+3) (n+5) (.m 15 (.a 21 (.a 39 (.v 0))) [.v i]) ρ3 σ (.t (av (aN z))) σ:=λ{i z n} hi hz=>
      bQ (dv (jV S rfl rfl rfl) rfl (dy S.VO) rfl) S.VO.gT rfl (Xh (af hi)) (td _ S.VO S.VR.VN hz)
     have zp:Ev (d+N+1+3) 30 (.b .z [.m 15 (.a 21 (.a 39 (.v 0))) [.v 1],.m 15 (.a 21 (.a 39 (.v 0))) [.v 2]]) ρ3 σ (.r σ.length) σz:=by
      have q:=ci rfl (d:=d+N+1+3) (n:=29) (ρ:=ρ3) (ac.ah (kid (i:=1) rfl ab.1) (Xh (kid (i:=2) rfl ab.2))) (Ci (σ:=σ))
      rw[ez]at q;exact q
     have Sz:=S.mW [.i ((kz a b).map pv),.u,.u,.u]
     have sl:=S.rU
     let ρ5:=au ρ3 5 (.r σ.length)
     have hit:=Hd (d:=d+N+1+3) (n:=27) (elt:=.m 53 (.v 0) [.v 6,.v 7]) (tg:=.t [.v 6,.v 7]) (ifs:=[]) (ρ:=ρ5) (σ:=σz) (a0:=σ.length) (ys:=(kz a b).map pv) pv (λz=>(f z).enc) (λ_=>true) lz (kz a b) (λz hz o=>by
      have S':SS A H m W s (σz.set σ.length o):=Sz.mv λi hi=>aV (nN hi sl)
      exact dK _ rfl ej.om (λ_=>bQ (af (i:=0) rfl) S'.VW rfl (ac.ah (af (i:=6) rfl) (Xh (af (i:=7) rfl))) ((hf z hz).2.2.2 A m W _ S'))) [] (.i ((kz a b).map pv)) (by rw[XR];exact qQ l2 rfl)
     rw[qU gz,XT,List.filter_eq_self.mpr λ_ _=>rfl]at hit
     have em:(kz a b).map (λz=>(f z).enc)=ps.map Pp.enc:=by rw[XN];rfl
     rw[em]at hit
     have eP:(Pp.cD (bv a) ps).enc=.t [.s gf,.s (bv a),.t (ps.map Pp.enc)]:=by rw[rI,rJ]
     have lp:ps.length<=2:=by rw[Xk];exact l2
     have fin:Ev (d+N+1+3) 30 (.t [.c (.s [117,110,100,101,114]),.m 16 (.a 21 (.a 39 (.v 0))) [.v 1],.b .t [.o (.m 53 (.v 0) [.v 6,.v 7]) [.m (.t [.v 6,.v 7]) (.e (.v 5)) []]]]) ρ5 σz (Pp.cD (bv a) ps).enc (σz.set σ.length .u++[.l (ps.map Pp.enc)]):=by
      rw[eP]
      exact bI (ac.ah aq (ac.ah (bQ (dv (jV Sz rfl rfl rfl) rfl (dy Sz.VO) rfl) Sz.VO.gT rfl (Xh (af (i:=1) rfl)) (vo _ Sz.VO Sz.VR.VN ab.1)) (Xh (ci rfl (Xh (dU (zj (af (i:=5) rfl) gz (bq (by rw[Xk];exact bP l2 rfl))) hit)) (j2 aX (bq (by rw[Xk];exact bP lp rfl)))))))
     refine fV (f:=uD) (ρ':=ρ5) rfl rfl (start S (ao (bC (isk rfl rfl) aP) (ao (bC (isk rfl rfl) aP) (ao (bh zp ba) (be (bM fin)))))) ?_ ((Pp.cD (bv a) ps).lo_enc _)
     rw[show σz.set σ.length .u=σ++[.u,.u,.u,.u] from uu _ _ _,XM]
     exact Yd _ _
end
noncomputable def jz(x:Nat):List KV:=.inl (bv x)::(aN x).map λk:Nat=>.inr (k:Int)
noncomputable def fR(c:Nat):List (List KV×V):=(List.range c).map λx:Nat=>(jz x,V.i (x:Int))
noncomputable def j6(x:Nat):Nat:=1+(aN x).length
noncomputable def jw(x:Nat):Nat:=if(aN x).isEmpty then 1 else 2
structure HB(c:Nat)(H:HS):Prop where
 c6:c<=6
 hc:H.KE=c
 ua:∀x,H.ua x=x
 rt:∀x,H.rt x=x
 lo:∀x,H.cU x=[x]
 WK:H.jq=[]
 ed:H.aM=[]
 fo:H.bL=[]
 kn:H.dH=fR c
 Wx:H.bW=List.range c
 ab:∀r,(H.bz r).length<=c - 2/\∀x∈H.bz r,x < c
 wa:H.dQ=[]
structure jE(c:Nat)(H:HS):Prop where
 cb:H.cb=c
 nu:H.tP=fR c
 we:H.v8=(List.range c).map j6
 de:H.v5=(List.range c).map jw
section
variable {d n a b i j k m q l c:Nat}{u v w:V}{o:O}{e:Ex}{r:Rs}{S:Nat->Prop}
theorem Qv(l:List Nat):eW (av l)=some (l.map λk:Nat=>.inr (k:Int)):=by
 induction l with
 |nil=>rfl
 |cons k l ih=>refine(?_:(match qz (V.i k),eW (av l)with |some k,some ks=>some (k::ks) |_,_=>Option.none)=_);rw[ih];rfl
theorem Hq(x:Nat):eW (.s (bv x)::av (aN x))=some (jz x):=by
 refine(?_:(match qz (V.s (bv x)),eW (av (aN x))with |some k,some ks=>some (k::ks) |_,_=>Option.none)=_)
 rw[Qv];rfl
theorem Hk:∀x,x < 6->∀y,y < 6->jz x=jz y->x=y:=by decide
theorem UT(hx:x < c)(hc:c<=6):cA (fR c) (jz x)=some (.i x):=by
 have hm:(jz x,V.i (x:Int))∈fR c:=Yt (aC x (Y2 hx) rfl)
 cases hf:cA (fR c) (jz x)with
 |none=>
  unfold cA at hf
  rw[Option.map_eq_none_iff,List.find?_eq_none]at hf
  exact absurd (XL rfl) (hf _ hm)
 |some v=>
  refine az (XY (zU hf)) λy hy e=>?_
  have e1:=Xu Prod.fst e
  have:=Hk y (XB (Yv hy) hc) x (XB hx hc) e1
  subst this
  exact Xu some (Xu Prod.snd e).symm
theorem CM(hc:c < 6):cA (fR c) (jz c)=none:=by
 unfold cA
 rw[Option.map_eq_none_iff,List.find?_eq_none]
 intro e he hq
 refine az (XY he) λy hy q2=>?_;subst q2
 have hy:=Yv hy
 exact XH hy (Hk y (Nat.lt_trans hy hc) c hc (XQ hq))
theorem Kl(c:Nat):fR c++[(jz c,V.i (c:Int))]=fR (c+1):=by unfold fR;rw[Zn,XV];rfl
theorem FD(es:List (List KV×V))(x:Nat):fu (.t es) (hH x)=some (cA es (jz x)):=by refine(?_:Option.map _ (eW _)=_);rw[Hq];rfl
theorem O6{es:List (List KV×V)}(x:Nat)(v:V)(h:cA es (jz x)=none):fO (.t es) (hH x) v=some (.t (es++[(jz x,v)])):=by refine(?_:Option.map _ (eW _)=_);rw[Hq,<-wU h];rfl
theorem HX.Md(X:HX S A H σ)(l:List (List KV×V)):HX S A {H with tP:=l} (σ.set (A.yx .eU) (.t l))/\Fm S σ (σ.set (A.yx .eU) (.t l)):=X.mP (s:=.eU) trivial (X.Vm.j' (s:=.eU) trivial (λ_ h=>h) rfl λt ht _=>by cases t<;>first |rfl |exact absurd rfl ht) λ_ h=>h
theorem HX.Mc(X:HX S A H σ)(c:Nat):HX S A {H with cb:=c} (σ.set (A.yx .eL) (.l ((List.range c).map hH)))/\Fm S σ (σ.set (A.yx .eL) (.l ((List.range c).map hH))):=X.mP (s:=.eL) trivial (X.Vm.j' (s:=.eL) trivial (λ_ h=>h) rfl λt ht _=>by cases t<;>first |rfl |exact absurd rfl ht) λ_ h=>h
theorem HX.Mf(X:HX S A H σ)(l:List Nat):HX S A {H with v8:=l} (σ.set (A.yx .gF) (.l (av l)))/\Fm S σ (σ.set (A.yx .gF) (.l (av l))):=X.mP (s:=.gF) trivial (X.Vm.j' (s:=.gF) trivial (λ_ h=>h) rfl λt ht _=>by cases t<;>first |rfl |exact absurd rfl ht) λ_ h=>h
theorem HX.L9(X:HX S A H σ)(l:List Nat):HX S A {H with v5:=l} (σ.set (A.yx .gE) (.l (av l)))/\Fm S σ (σ.set (A.yx .gE) (.l (av l))):=X.mP (s:=.gE) trivial (X.Vm.j' (s:=.gE) trivial (λ_ h=>h) rfl λt ht _=>by cases t<;>first |rfl |exact absurd rfl ht) λ_ h=>h
theorem IB(x:Nat):∃ch,bv x=[ch]/\ch∈[97,98,102,103]:=B4 (P:=λl=>∃ch,l=[ch]/\ch∈[97,98,102,103]) (aC 97 rfl (by decide)) (aC 98 rfl (by decide)) (aC 102 rfl (by decide)) (aC 103 rfl (by decide)) x
theorem Ow{ch:Nat}(h:ch∈[97,98,102,103]):kI ch=false/\gd [ch] [40,41,91,93,123,125,44,58]=false:=by
 simp only[Yn,XX,or_false]at h
 rcases h with rfl |rfl |rfl |rfl<;>decide+kernel
theorem Ti(d x:Nat)(σ:aj):aL (d+1) 2 [.s (bv x)] σ (.b true) σ:=by
 refine az (IB x) λch h1 h2=>?_
 refine bc (Ow h2) λw1 w2=>?_
 rw[h1]
 have hit:=He (d:=d) (n:=27) (elt:=.v 1) (tg:=.v 1) (ifs:=[.r [.m 8 (.v 1) [],.p .i (.v 1) (.c (.s [40,41,91,93,123,125,44,58]))]]) (ρ:=bf [.s [ch]]) (σ:=σ) (S:=.bx ([ch].map λc=>.s [c])) (ys:=[]) (λ_ _=>rfl) id (λ_=>false) ([ch].map λc=>V.s [c]) [] (λz hz=>by
  rw[Xy hz]
  exact dK _ rfl (v9 (rm (dn (af (bw _ _ _)) rfl ac.an rfl (by have k:=Sr (p:=[ch]) (σ:=σ);rw[show(!([ch]:List Nat).isEmpty&&[ch].all kI)=false from by simp[w1]]at k;exact k)) (tK (aY (af (bw _ _ _)) aq (by refine(?_:some (gd [ch] _)=_);rw[w2]) trivial)))) (λh=>absurd h (by decide))) (λ_=>trivial) (show 1<=aK by decide)
 have hf:(List.filter (λ_=>false) ([ch].map λc=>V.s [c])).map id=[]:=rfl
 rw[hf,XT]at hit
 exact fV (f:=Gy) rfl rfl (be (bM (Ev.rj (aY (af rfl) aq rfl (Xo _)) (Ev.yJ (aY (dU (DT (af rfl) (show 1<=aK by decide)) hit) (dp ac.an) (by
  rw[Ao (bO _ _ aX) aX];rfl) (Xo _)))))) (by rw[XM];exact Yd _ _) rfl
theorem TF(d x:Nat){bk:Nat}(σ:aj):aL (d+2) 6 [.o 0 bk,.s (bv x)] σ .n σ:=by
 refine az (IB x) λch h1 h2=>?_
 have hop:=Ti d x σ
 rw[h1]at hop ⊢
 have e:decide ([ch]=([63]:List Nat))=false:=by
  simp only[Yn,XX,or_false]at h2
  rcases h2 with rfl |rfl |rfl |rfl<;>rfl
 exact cI (f:=Ge) (fl:=.n) rfl rfl (Xi (bC (rm (tJ (cw (Xh (af rfl)) hop)) (tK (aY (bi (af rfl) aq (SJ (bg rfl) rfl)) aq (by rw[vz,e]) (Xo _)))) aP))
theorem lC(R:HR A H σ)(h0:ρ 0=some (.o 0 (A.yx .dW)))(hc:fD 0 nm=true)(hg:cA [(10,V.r (A.yx .eL)),(11,.r (A.yx .eU)),(12,.r (A.yx .gF)),(13,.r (A.yx .gE))] nm=some v):Ev d (n+2) (.a nm (.v 0)) ρ σ v σ:=dv (af h0) hc R.gT hg
theorem Km(d x:Nat){bk:V}:ai d 12 (.a (.v 3) (.i .a (.t [.v 1]) (.b .t [.v 2]))) (bf [bk,.s (bv x),.t (av (aN x))]) σ .n (au (bf [bk,.s (bv x),.t (av (aN x))]) 3 (hH x)) σ:=
 bh (bX (bI (Xh (af rfl))) (ci rfl (Xh (af rfl)) SL) (vf (xs:=[.s (bv x)]) (bq (by rw[Xn,Xk];exact Xl (Yw (gZ x) 1) (by decide))))) ba
theorem TM(d:Nat)(R:HR A H σ)(K:jE c H)(hc:c<=6)(hx:x < c):aL (d+1) 5 [.o 0 (A.yx .dW),.s (bv x),.t (av (aN x))] σ (.i x) σ:=by
 have nu:σ[A.yx .eU]? =some (.t (fR c)):=by have:=R.aZ .eU trivial;rw[show H.iF A .eU=.t H.tP from rfl,K.nu]at this;exact this
 have dg:=FD (fR c) x
 rw[UT hx hc]at dg
 exact cI (f:=Av) (fl:=.r _) rfl rfl (ao (Km d x) (be (cW (aY (af rfl) (lC R rfl rfl rfl) (w4 nu dg) trivial) (be (bM (bi (lC R rfl rfl rfl) (af rfl) (mB nu (by intro _ h;cases h) dg)))))))
theorem Bq:∀c,c < 6->(∀k∈aN c,k < 2/\k < c/\j6 k=1/\jw k=1)/\((aN c).map j6).sum=(aN c).length:=by decide
theorem ON(c:Nat)(hc:c < 6):∃i is,((aN c).map λk=>(jw k:Int))++[(0:Int)]=i::is/\1+o6 i is=(jw c:Nat):=by
 match c,hc with
 |0,_=>exact eE _ _ rfl (by decide)
 |1,_=>exact eE _ _ rfl (by decide)
 |2,_=>exact eE _ _ rfl (by decide)
 |3,_=>exact eE _ _ rfl (by decide)
 |4,_=>exact eE _ _ rfl (by decide)
 |5,_=>exact eE _ _ rfl (by decide)
 |c+6,h=>exact absurd h (Zb (YJ ..))
theorem GL{f:Nat->Nat}(h:k < c):(dS (k:Int) (av ((List.range c).map f)).length).bind ((av ((List.range c).map f))[·]?)=some (.i (f k)):=by
 unfold dS
 rw[Xr (YR _)]
 refine(?_:(av ((List.range c).map f))[k]? =_)
 rw[Ys,Ys,List.getElem?_range h];rfl
theorem TL(d:Nat)(X:HX S A H σ)(K:jE c H)(hc:c < 6):∃τ H',aL (d+3) 5 [.o 0 (A.yx .dW),.s (bv c),.t (av (aN c))] σ (.i c) τ/\HX S A H' τ/\Fm S σ τ/\jE (c+1) H'/\(∀q,HB q H->HB q H'):=by
 refine bc (Bq c hc) λkf ks=>?_
 let ρ:=au (bf [.o 0 (A.yx .dW),.s (bv c),.t (av (aN c))]) 3 (hH c)
 have nodl:σ[A.yx .eL]? =some (.l ((List.range c).map hH)):=by have:=X.Vm.aZ .eL trivial;rw[show H.iF A .eL=.l ((List.range H.cb).map hH) from rfl,K.cb]at this;exact this
 have numl:σ[A.yx .eU]? =some (.t (fR c)):=by have:=X.Vm.aZ .eU trivial;rw[show H.iF A .eU=.t H.tP from rfl,K.nu]at this;exact this
 have dg:=FD (fR c) c
 rw[CM hc]at dg
 have lenc:∀{s:aj} {ρ:aA} {n:Nat},HR A H s->ρ 0=some (.o 0 (A.yx .dW))->s[A.yx .eL]? =some (.l ((List.range c).map hH))->Ev (d+2) (n+3) (.b .l [.a 10 (.v 0)]) ρ s (.i (c:Nat)) s:=λ{s ρ n} R h0 hn=>by
  have h:=ci rfl (d:=d+2) (n:=n+2) (ρ:=ρ) (Xh (lC (nm:=10) R h0 rfl rfl)) (fB hn (bq (by rw[Xk,XO];exact j3 hc rfl)))
  rw[Xk,XO]at h;exact h
 have kl:=gZ c
 -- the check of the kids
 have chk:∀(L:List Nat) (ρ':aA),(∀k∈L,k < c)->ρ' 0=some (.o 0 (A.yx .dW))->ρ' 1=ρ 1->ρ' 3=ρ 3->∃ρ'',bF (d+2) 11 (.v 4) [.i (.j (.q .a .l (.c (.i 0)) (.v 4) (.b .l [.a 10 (.v 0)]))) [.s] []] (.bx (av (aN c))) (av L) ρ' σ .n ρ'' σ/\ρ'' 0=ρ' 0/\ρ'' 1=ρ' 1/\ρ'' 3=ρ' 3:=by
  intro L
  induction L with
  |nil=>intro ρ' _ _ _ _;exact eX ρ' fF rfl rfl rfl
  |cons k L ih=>
   intro ρ' hL h0 h1 h3
   have kc:=hL k (Xz ..)
   refine hU (ih (au ρ' 4 (.i k)) (λz hz=>hL z (XA _ hz)) h0 h1 h3) λρ'' f g0 g1 g3=>?_
   refine eX ρ'' (fc (S:=.bx (av (aN c))) (ρ':=au ρ' 4 (.i k)) rfl (Xi (bC (tJ (K7 (r:=true) aq (af (bw _ _ _)) ?_ (show dI .a _ from trivial) (lenc X.Vm (ρ:=au ρ' 4 (.i k)) h0 nodl) ?_ (show dI .l _ from trivial))) aP)) trivial f) g0 g1 g3
   ·refine(?_:some (decide ((0:Int)<=(k:Nat)))=_);rw[XL (YR _)]
   ·refine(?_:some (decide ((k:Int) < (c:Nat)))=_);rw[XL (by exact mD kc)]
 refine hU (chk (aN c) ρ (λk hk=>(kf k hk).2.1) rfl rfl rfl) λρ4 f4 g0 g1 g3=>?_
 have sl:∀{s:aj} {ρ:aA} {n:Nat},ρ 3=some (hH c)->bA (d+2) (n+2) (.e (.e (.v 3) (some (.c (.i 1))) none)) ρ s (.bx (av (aN c))) s:=λ{s ρ n} h=>by
  refine jJ (ji (af h) (aq (v:=.i 1)) (pf (xs:=.s (bv c)::av (aN c)) ⟨by decide,?_⟩ ?_)) (bq (by rw[Xk];exact bP kl rfl))
  ·rw[Xq,Xk];exact nO
  ·exact bq (by rw[Xq,Xk];exact ja kl rfl)
 -- the stores
 refine bc (X.Md (fR (c+1))) λX1 F1=>?_
 refine bc (X1.Mc (c+1)) λX2 F2=>?_
 have s1:lX (mF (.r (A.yx .eU)) (hH c) (.i (c:Nat)) σ) (σ.set (A.yx .eU) (.t (fR (c+1)))):=by
  have h:=mA numl (by intro _ h;cases h) (bq (α:=List KV×V) (by unfold fR;rw[Xk,XO];exact j3 hc rfl)) (O6 c (.i (c:Nat)) (CM hc))
  rw[Kl]at h;exact h
 let σ1:=σ.set (A.yx .eU) (.t (fR (c+1)))
 let σ2:=σ1.set (A.yx .eL) (.l ((List.range (c+1)).map hH))
 have nod1:σ1[A.yx .eL]? =some (.l ((List.range c).map hH)):=by rw[aV λe=>by have:=X.Vm.eT .eU .eL trivial trivial e;cases this];exact nodl
 have s2:Pr (dB 0 (.r (A.yx .eL)) [hH c] σ1) .n σ2:=by
  have h:=kN (f:=hH) c nod1 (by rw[XO];exact j3 hc rfl)
  rw[<-Zn]at h;exact h
 have wel:σ2[A.yx .gF]? =some (.l (av ((List.range c).map j6))):=by have h:σ2[A.yx .gF]? =some (.l (av H.v8)):=X2.Vm.aZ .gF trivial;rw[K.we]at h;exact h
 let G1:aj:=[.l ((aN c).map λk=>.i (j6 k))]
 have hit1:=gI (d:=d+2) (n:=26) (elt:=.s (.a 12 (.v 0)) (.v 5)) (tg:=.v 5) (ρ:=ρ4) (σ:=σ2) (S:=.bx (av (aN c))) (λ_=>rfl) (λ_=>trivial) (λk:Nat=>V.i (k:Int)) (λk=>.i (j6 k)) (aN c)
  (λk hk=>aC _ rfl (bi (lC X2.Vm (ρ:=au ρ4 5 (.i k)) g0 rfl rfl) (af (bw _ _ _)) (dL wel (gG (by have:=(kf k hk).1;unfold aK;exact j3 this rfl)) (GL (kf k hk).2.1)))) [] (bq (by rw[XT,Xk];exact bP kl rfl))
 rw[XT]at hit1
 have sm:Ev (d+2) 29 (.i .a (.c (.i 1)) (.b .s [.o (.s (.a 12 (.v 0)) (.v 5)) [.m (.v 5) (.e (.e (.v 3) (some (.c (.i 1))) none)) []]])) ρ4 σ2 (.i (j6 c)) (σ2++G1):=by
  have h:=ci rfl (d:=d+2) (n:=27) (ρ:=ρ4) (Xh (dU (sl g3) hit1)) (xY aX (uL j6 (aN c)) (bq (by rw[Xk];exact bP kl rfl)) λi hi=>by
   refine az (XY hi) λz hz q2=>?_;subst q2
   rw[(kf z hz).2.2.1];unfold bY;exact qI nO nO)
  rw[Kh,ks]at h
  exact bX (aq (v:=.i 1)) h iy
 refine bc ((X2.ke G1).Mf ((List.range (c+1)).map j6)) λX4 F4=>?_
 let σ4:=(σ2++G1).set (A.yx .gF) (.l (av ((List.range (c+1)).map j6)))
 have s4:Pr (dB 0 (.r (A.yx .gF)) [.i (j6 c)] (σ2++G1)) .n σ4:=by
  have h:=kN (f:=λn:Nat=>V.i (n:Int)) (j6 c) (bO _ G1 wel) (by rw[Xk,XO];exact j3 hc rfl)
  rw[<-g9 j6,<-Zn]at h;exact h
 have del:σ4[A.yx .gE]? =some (.l (av ((List.range c).map jw))):=by have h:σ4[A.yx .gE]? =some (.l (av H.v5)):=X4.Vm.aZ .gE trivial;rw[K.de]at h;exact h
 refine dY (ON c hc) λmi ms me mv=>?_
 let L1:List V:=(aN c).map λk=>.i (jw k)
 let G2:aj:=[.l L1,.l [.i 0],.l (L1++[.i 0])]
 have hit2:=gI (d:=d+2) (n:=25) (elt:=.s (.a 13 (.v 0)) (.v 6)) (tg:=.v 6) (ρ:=ρ4) (σ:=σ4) (S:=.bx (av (aN c))) (λ_=>rfl) (λ_=>trivial) (λk:Nat=>V.i (k:Int)) (λk=>.i (jw k)) (aN c)
  (λk hk=>aC _ rfl (bi (lC X4.Vm (ρ:=au ρ4 6 (.i k)) g0 rfl rfl) (af (bw _ _ _)) (dL del (gG (by have:=(kf k hk).1;unfold aK;exact j3 this rfl)) (GL (kf k hk).2.1)))) [] (bq (by rw[XT,Xk];exact bP kl rfl))
 rw[XT]at hit2
 have l3:(L1++[V.i 0]).length<=300:=by rw[Xn,Xk];refine(?_:(aN c).length+1<=300);exact ja kl rfl
 have io:jy (L1++[V.i 0])=some (mi::ms):=by
  rw[<-me,show L1++[V.i 0]=(((aN c).map λk=>(jw k:Int))++[0]).map V.i from by rw[XV,XN];rfl]
  exact GX _
 have mx:Ev (d+2) 29 (.i .a (.c (.i 1)) (.b .m [.i .a (.o (.s (.a 13 (.v 0)) (.v 6)) [.m (.v 6) (.e (.e (.v 3) (some (.c (.i 1))) none)) []]) (.d [.c (.i 0)])])) ρ4 σ4 (.i (jw c:Nat)) (σ4++G2):=by
  have hb:=bX (d:=d+2) (n:=26) (op:=.a) (ρ:=ρ4) (dU (sl g3) hit2) (dp (Xh (aq (v:=.i 0)))) (pb (bO _ _ aX) aX (bq l3))
  have h:=ci rfl (d:=d+2) (n:=27) (ρ:=ρ4) (Xh hb) (Su aX io (bq l3))
  have h2:=bX (d:=d+2) (n:=28) (op:=.a) (aq (v:=.i 1)) h iy
  rw[mv]at h2
  have ea:σ4++[.l L1]++[.l [.i 0]]++[.l (L1++[.i 0])]=σ4++G2:=by rw[XM,XM];rfl
  exact ea▸h2
 refine bc ((X4.ke G2).L9 ((List.range (c+1)).map jw)) λX6 F6=>?_
 let σ6:=(σ4++G2).set (A.yx .gE) (.l (av ((List.range (c+1)).map jw)))
 have s6:Pr (dB 0 (.r (A.yx .gE)) [.i (jw c:Nat)] (σ4++G2)) .n σ6:=by
  have h:=kN (f:=λn:Nat=>V.i (n:Int)) (jw c) (bO _ G2 del) (by rw[Xk,XO];exact j3 hc rfl)
  rw[<-g9 jw,<-Zn]at h;exact h
 have fin:Ev (d+2) 30 (.i .s (.b .l [.a 10 (.v 0)]) (.c (.i 1))) ρ4 σ6 (.i (c:Nat)) σ6:=by
  have h:=ci rfl (d:=d+2) (n:=28) (ρ:=ρ4) (Xh (lC (nm:=10) X6.Vm g0 rfl rfl)) (fB (xs:=(List.range (c+1)).map hH) (X6.Vm.aZ .eL trivial) (bq (by rw[Xk,XO];exact bP hc rfl)))
  rw[Xk,XO]at h
  have h2:=bX (op:=.s) h (aq (v:=.i 1)) j1
  have e:(((c+1:Nat):Int) - 1)=(c:Nat):=qS
  rw[e]at h2;exact h2
 refine iu σ6 _ (cI (f:=Av) (fl:=.r _) (ρ':=ρ4) rfl rfl (ao (Km (d+2) c) (ao (bC (aY (af rfl) (lC X.Vm rfl rfl rfl) (w4 numl dg) trivial) aP) (ao (du (bQ (af rfl) X.Vm.gT rfl (Xh (af rfl)) (TF d c σ)))
  (ao (fg (S:=.bx (av (aN c))) (sl rfl) f4) (ao (bh (lenc X.Vm g0 nodl) (kW (lC X.Vm g0 rfl rfl) (af g3) s1)) (ao (du (dn (lC X1.Vm g0 rfl rfl) (eI nod1 rfl) (Xh (af g3)) rfl s2))
  (ao (du (dn (lC X2.Vm g0 rfl rfl) (eI wel rfl) (Xh sm) (uS wel (bO _ G1 wel)) s4)) (ao (du (dn (lC X4.Vm g0 rfl rfl) (eI del rfl) (Xh mx) (uS del (bO _ G2 del)) s6)) (be (bM fin))))))))))) X6 ?_ (⟨rfl,rfl,rfl,rfl⟩) (λq h=>⟨h.c6,h.hc,h.ua,h.rt,h.lo,h.WK,h.ed,h.fo,h.kn,h.Wx,h.ab,h.wa⟩)
 exact((F1.fT F2).fT (X2.tQ G1)).fT (F4.fT ((X4.tQ G2).fT F6))
end
section
variable {d n a b i j k m q l c:Nat}{u v w:V}{o:O}{e:Ex}{r:Rs}{S:Nat->Prop}
theorem HX.Dz(X:HX S A H σ)(s0:Sl)(hq:σ.length<=q)(hA:∀s,s≠s0->A'.yx s=A.yx s)(hA0:A'.yx s0=q)(hok:∀s,s≠s0->H'.ok s->H.ok s)(h0:τ[q]? =some (H'.iF A' s0))(hl:σ.length<=τ.length)(h:∀s,s≠s0->H'.ok s->τ[A.yx s]? =some (H'.iF A' s)):HX S A' H' τ:=by
 have lt:∀s,s≠s0->H'.ok s->A.yx s < q:=λs hs ho=>XB (X.Vm.lt (hok s hs ho)) hq
 refine⟨⟨λs t hs ht e=>?_,λs hs=>?_⟩,λi hi=>⟨XB (X.d9 i hi).1 hl,λs hs=>?_⟩⟩
 ·by_cases e1:s=s0
  ·by_cases e2:t=s0
   ·rw[e1,e2]
   ·rw[e1,hA0,hA t e2]at e;exact absurd e.symm (XH (lt t e2 ht))
  ·by_cases e2:t=s0
   ·rw[e2,hA0,hA s e1]at e;exact absurd e (XH (lt s e1 hs))
   ·rw[hA s e1,hA t e2]at e;exact X.Vm.eT s t (hok s e1 hs) (hok t e2 ht) e
 ·by_cases e1:s=s0
  ·rw[e1,hA0];exact h0
  ·rw[hA s e1];exact h s e1 hs
 ·by_cases e1:s=s0
  ·rw[e1,hA0];exact YV (XB (X.d9 i hi).1 hq)
  ·rw[hA s e1];exact(X.d9 i hi).2 s (hok s e1 hs)
noncomputable def Sl.Nm(k:Nat)(s:Sl):Bool:=match s with
 | .cX r=>decide (r=k)
 |_=>false
noncomputable def Ad.nU(A:Ad)(k q:Nat):Ad:=⟨λs=>bif s.Nm k then q else A.yx s⟩
theorem yz{s:Sl}(h:s≠.cX k):(A.nU k q).yx s=A.yx s:=by
 cases s with
 |cX r=>refine(?_:(bif decide (r=k)then _ else _)=_);rw[XU λe:r=k=>h (e▸rfl)];rfl
 |_=>rfl
theorem CV:(A.nU k q).yx (.cX k)=q:=by refine(?_:(bif decide (k=k)then _ else _)=_);rw[XL rfl];rfl
theorem BR(R:HR A H σ){s t:Sl}(hs:H.ok s)(ht:H.ok t)(h:s≠t):A.yx s≠A.yx t:=λe=>h (R.eT s t hs ht e)
theorem JP(d:Nat)(R:HR A H σ)(hc:H.KE<=6):aL (d+1) 12 [.o 1 (A.yx .un)] σ (.i H.KE) σ:=by
 have h:=ci rfl (d:=d) (n:=29) (ρ:=bf [.o 1 (A.yx .un)]) (Xh (dv (m:=17) (af (n:=27) (i:=0) rfl) rfl (R.aZ .un trivial) rfl)) (fB (R.aZ .c7 trivial) (bq (by rw[Xk,XO];exact bP hc rfl)))
 rw[Xk,XO]at h
 exact cI (f:=Gw) (fl:=.r _) rfl rfl (be (bM h))
theorem Tt(d:Nat)(X:HX S A H σ)(hc:H.KE<=6)(hu:H.ua H.KE=H.KE)(hl:H.cU H.KE=[H.KE]):∃τ,aL (d+1) 11 [.o 1 (A.yx .un)] σ (.i H.KE) τ/\HX S (A.nU H.KE σ.length) {H with KE:=H.KE+1} τ/\Fm S σ τ/\(A.nU H.KE σ.length).yx .aJ=A.yx .aJ:=by
 have R:=X.Vm
 let f:=λx:Nat=>V.i (H.ua x:Int)
 let g:=λx:Nat=>V.r (A.yx (.cX x))
 let σ1:=σ.set (A.yx .c7) (.l ((List.range (H.KE+1)).map f))
 have n1:σ1.length=σ.length:=XF
 let σ2:aj:=σ1++[.l [.i (H.KE:Nat)]]
 let L3:List V:=(List.range H.KE).map g++[.r σ.length]
 let σ3:=σ2.set (A.yx .fj) (.l L3)
 have un:σ[A.yx .un]? =some (H.iF A .un):=R.aZ .un trivial
 have nu:∀{t:Sl},H.ok t->t≠.c7->A.yx .c7≠A.yx t:=λht h=>BR R (s:=.c7) trivial ht h.symm
 have nl:∀{t:Sl},H.ok t->t≠.fj->A.yx .fj≠A.yx t:=λht h=>BR R (s:=.fj) trivial ht h.symm
 have len:∀{s:aj} {nm ad:Nat} {xs:List V},s[A.yx .un]? =some (H.iF A .un)->fD 1 nm=true->cA [(17,V.r (A.yx .c7)),(18,.r (A.yx .fj)),(19,.r (A.yx .fK))] nm=some (.r ad)->s[ad]? =some (.l xs)->xs.length<=300->∀n,Ev d (n+3) (.b .l [.a nm (.v 0)]) (bf [.o 1 (A.yx .un)]) s (.i xs.length) s:=λh hc hg hx hl n=>ci rfl (Xh (dv (af rfl) hc h hg)) (fB hx (bq hl))
 have r6:((List.range H.KE).map f).length=H.KE:=by rw[Xk,XO]
 have e1:=len un (nm:=17) rfl rfl (R.aZ .c7 trivial) (by rw[Xk,XO];exact bP hc rfl)
 rw[Xk,XO]at e1
 have p1:Pr (dB 0 (.r (A.yx .c7)) [.i (H.KE:Nat)] σ) .n σ1:=by
  have h:=pd (v:=.i (H.KE:Nat)) (R.aZ .c7 trivial) (bq (by rw[Xk,XO];exact bP hc rfl))
  have e:(List.range H.KE).map (λx=>V.i (H.ua x:Int))++[.i (H.KE:Nat)]=(List.range (H.KE+1)).map f:=by rw[Zn,XV];refine(?_:_=_++[V.i (H.ua H.KE:Int)]);rw[hu]
  rw[e]at h;exact h
 have un1:σ1[A.yx .un]? =some (H.iF A .un):=(aV (nu (t:=.un) trivial (cJ rfl))).trans un
 have lo1:σ1[A.yx .fj]? =some (.l ((List.range H.KE).map g)):=(aV (nu (t:=.fj) trivial (cJ rfl))).trans (R.aZ .fj trivial)
 have e2:=len un1 (nm:=18) rfl rfl lo1 (by rw[Xk,XO];exact bP hc rfl)
 rw[Xk,XO]at e2
 have lo2:σ2[A.yx .fj]? =some (.l ((List.range H.KE).map g)):=bO _ _ lo1
 have p2:Pr (dB 0 (.r (A.yx .fj)) [.r σ1.length] σ2) .n σ3:=by rw[n1];exact pd lo2 (bq (by rw[Xk,XO];exact bP hc rfl))
 have un3:σ3[A.yx .un]? =some (H.iF A .un):=(aV (nl (t:=.un) trivial (cJ rfl))).trans (bO _ _ un1)
 have ua3:σ3[A.yx .c7]? =some (.l ((List.range (H.KE+1)).map f)):=(aV (nl (t:=.c7) trivial (cJ rfl))).trans (bO _ _ (cR (R.aZ .c7 trivial)))
 have e3:=len un3 (nm:=17) rfl rfl ua3 (by rw[Xk,XO];exact ja hc rfl)
 rw[Xk,XO]at e3
 have fin:Ev d 30 (.i .s (.b .l [.a 17 (.v 0)]) (.c (.i 1))) (bf [.o 1 (A.yx .un)]) σ3 (.i (H.KE:Nat)) σ3:=by
  have h2:=bX (n:=29) (op:=.s) (e3 26) (aq (v:=.i 1)) j1
  have e:(((H.KE+1:Nat):Int) - 1)=(H.KE:Nat):=qS
  rw[e]at h2;exact h2
 have lu:=X.Vm.lt (s:=.fj) trivial
 refine eX σ3 (cI (f:=Gu) (fl:=.r _) rfl rfl (ao (du (dn (dv (af rfl) rfl un rfl) (eI (R.aZ .c7 trivial) rfl) (Xh (e1 26)) rfl p1)) (ao (du (dn (dv (af rfl) rfl un1 rfl) (eI lo1 rfl) (Xh (dp (Xh (e2 25)))) (uS lo1 lo2) p2)) (be (bM fin))))) (X.Dz (q:=σ.length) (.cX H.KE) (Xp _) (λs h=>yz h) CV ?_ ?_ ?_ ?_) (λi hi=>?_) (yz (by intro h;cases h))
 ·intro s hs ho
  cases s with
  |cX i=>exact Nat.lt_of_le_of_ne (Nat.le_of_lt_succ ho) λe=>hs (by rw[e])
  |_=>exact ho
 ·show σ3[σ.length]? =some (O.l (av (H.cU H.KE)))
  rw[hl,aV (XH lu),<-n1];exact aX
 ·rw[XF,Xn,n1];exact XJ ..
 ·intro s hs ho
  have old:∀{t:Sl},H.ok t->t≠.c7->t≠.fj->σ3[A.yx t]? =some (H.iF A t):=λht h1 h2=>(aV (nl ht h2)).trans (bO _ _ ((aV (nu ht h1)).trans (R.aZ _ ht)))
  cases s with
  |c7=>exact ua3
  |fj=>
   rw[cR lo2]
   refine(?_:some (O.l L3)=some (O.l ((List.range (H.KE+1)).map λx=>V.r ((A.nU H.KE σ.length).yx (.cX x)))))
   rw[Zn,XV]
   have e1:(List.range H.KE).map (λx=>V.r ((A.nU H.KE σ.length).yx (.cX x)))=(List.range H.KE).map g:=YU λz hz=>by rw[yz λe=>XH (Yv hz) (by cases e;rfl)]
   have e2:[H.KE].map (λx=>V.r ((A.nU H.KE σ.length).yx (.cX x)))=[V.r σ.length]:=by refine(?_:[V.r _]=_);rw[CV]
   rw[e1,e2]
  |cX i=>exact old (Nat.lt_of_le_of_ne (Nat.le_of_lt_succ ho) λe=>hs (by rw[e])) (by intro h;cases h) (by intro h;cases h)
  |cj r=>exact old (t:=.cj r) ho (by intro h;cases h) (by intro h;cases h)
  |aJ=>exact old (t:=.aJ) trivial (cJ rfl) (cJ rfl)
  |dW=>exact old (t:=.dW) trivial (cJ rfl) (cJ rfl)
  |eL=>exact old (t:=.eL) trivial (cJ rfl) (cJ rfl)
  |eU=>exact old (t:=.eU) trivial (cJ rfl) (cJ rfl)
  |gF=>exact old (t:=.gF) trivial (cJ rfl) (cJ rfl)
  |gE=>exact old (t:=.gE) trivial (cJ rfl) (cJ rfl)
  |un=>exact old (t:=.un) trivial (cJ rfl) (cJ rfl)
  |fK=>exact old (t:=.fK) trivial (cJ rfl) (cJ rfl)
  |fH=>exact old (t:=.fH) trivial (cJ rfl) (cJ rfl)
  |fJ=>exact old (t:=.fJ) trivial (cJ rfl) (cJ rfl)
  |fh=>exact old (t:=.fh) trivial (cJ rfl) (cJ rfl)
  |cF=>
   refine(old (t:=.cF) trivial (cJ rfl) (cJ rfl)).trans ?_
   rfl
  |eZ=>exact old (t:=.eZ) trivial (cJ rfl) (cJ rfl)
 ·rw[aV ((X.d9 i hi).2 .fj trivial),show σ2[i]? =σ1[i]? from Ye (by rw[n1];exact(X.d9 i hi).1),aV ((X.d9 i hi).2 .c7 trivial)]
theorem Uc(d:Nat)(X:HX S A H σ)(hk:k∉H.bW)(h6:H.bW.length<=6)(h0:ρ 0=some (.o 2 (A.yx .aJ)))(h3:ρ 3=some (.i k)):∃τ,ai d 12 (.a (.s (.a 17 (.v 0)) (.v 3)) (.d [])) ρ σ .n ρ τ/\HX S (A.j7 k σ.length) {H with bW:=H.bW++[k],bz:=cm H.bz k []} τ/\Fm S σ τ/\(A.j7 k σ.length).yx .aJ=A.yx .aJ:=by
 have R:=X.Vm
 have ab:=R.aZ .cF trivial
 let f:=λr:Nat=>V.r (A.yx (.cj r))
 have gn:cA (H.bW.map λr:Nat=>((r:Int),f r)) (k:Int)=none:=by
  unfold cA
  rw[Option.map_eq_none_iff,List.find?_eq_none]
  intro e he hq
  refine az (XY he) λz hz q2=>?_;subst q2
  exact hk (Int.ofNat.inj (XQ hq)▸hz)
 let D:O:=.d ((H.bW.map λr:Nat=>((r:Int),f r))++[((k:Int),.r σ.length)])
 have ds:fO (.d (H.bW.map λr:Nat=>((r:Int),f r))) (.i k) (.r σ.length)=some D:=by refine(?_:some (O.d (eC _ _ _))=_);rw[wU gn]
 let σ1:aj:=σ++[.l []]
 have st:=mA (bO σ [.l []] ab) (by intro _ h;cases h) (bq (α:=Int×V) (by rw[Xk];exact bP h6 rfl)) ds
 have la:=X.Vm.lt (s:=.cF) trivial
 have na:∀{t:Sl},H.ok t->t≠.cF->A.yx .cF≠A.yx t:=λht h=>BR R (s:=.cF) trivial ht h.symm
 refine eX (σ1.set (A.yx .cF) D) (bh (dp ac.an) (kW (eH (R.gy _) h0 rfl rfl) (af h3) st)) (X.Dz (q:=σ.length) (.cj k) (Xp _) (λs h=>vJ h) yy ?_ ?_ ?_ ?_) (λi hi=>?_) (vJ (by intro h;cases h))
 ·intro s hs ho
  cases s with
  |cj i=>exact(XD ho).elim id λh=>absurd (Xu Sl.cj (Xy h)) hs
  |_=>exact ho
 ·show(σ1.set (A.yx .cF) D)[σ.length]? =some (O.l (av (cm H.bz k [] k)))
  rw[gq,aV (XH la)];exact aX
 ·rw[XF,Xn];exact XJ ..
 ·intro s hs ho
  have old:∀{t:Sl},H.ok t->t≠.cF->(σ1.set (A.yx .cF) D)[A.yx t]? =some (H.iF A t):=λht h1=>(aV (na ht h1)).trans (bO _ _ (R.aZ _ ht))
  cases s with
  |cF=>
   rw[cR (bO _ _ ab)]
   refine(?_:some D=some (O.d ((H.bW++[k]).map λr:Nat=>((r:Int),V.r ((A.j7 k σ.length).yx (.cj r))))))
   rw[XV]
   have e1:H.bW.map (λr:Nat=>((r:Int),V.r ((A.j7 k σ.length).yx (.cj r))))=H.bW.map λr:Nat=>((r:Int),f r):=YU λz hz=>by rw[vJ λe=>hk (by cases e;exact hz)]
   have e2:[k].map (λr:Nat=>((r:Int),V.r ((A.j7 k σ.length).yx (.cj r))))=[((k:Int),V.r σ.length)]:=by refine(?_:[((k:Int),V.r _)]=_);rw[yy]
   rw[e1,e2]
  |cj i=>
   have hi:i≠k:=λe=>hs (by rw[e])
   refine(old (t:=.cj i) ((XD ho).elim id λh=>absurd (Xy h) hi) (by intro h;cases h)).trans ?_
   refine(?_:some (O.l (av (H.bz i)))=some (O.l (av (cm H.bz k [] i))))
   rw[eS hi]
  |cX i=>exact old (t:=.cX i) ho (by intro h;cases h)
  |aJ=>exact old (t:=.aJ) trivial (cJ rfl)
  |dW=>exact old (t:=.dW) trivial (cJ rfl)
  |eL=>exact old (t:=.eL) trivial (cJ rfl)
  |eU=>exact old (t:=.eU) trivial (cJ rfl)
  |gF=>exact old (t:=.gF) trivial (cJ rfl)
  |gE=>exact old (t:=.gE) trivial (cJ rfl)
  |un=>exact old (t:=.un) trivial (cJ rfl)
  |c7=>exact old (t:=.c7) trivial (cJ rfl)
  |fj=>exact old (t:=.fj) trivial (cJ rfl)
  |fK=>exact old (t:=.fK) trivial (cJ rfl)
  |fH=>exact old (t:=.fH) trivial (cJ rfl)
  |fJ=>exact old (t:=.fJ) trivial (cJ rfl)
  |fh=>exact old (t:=.fh) trivial (cJ rfl)
  |eZ=>exact old (t:=.eZ) trivial (cJ rfl)
 ·rw[aV ((X.d9 i hi).2 .cF trivial)];exact Ye (X.d9 i hi).1
theorem HX.L8(X:HX S A H σ)(hk:k∈H.bW)(l:List Nat):HX S A {H with bz:=cm H.bz k l} (σ.set (A.yx (.cj k)) (.l (av l)))/\Fm S σ (σ.set (A.yx (.cj k)) (.l (av l))):=
 X.mP (s:=.cj k) hk (X.Vm.j' (s:=.cj k) hk (λ_ h=>h) (by refine(?_:O.l (av (cm H.bz k l k))=_);rw[gq]) λt ht _=>by
  cases t with
  |cj i=>refine(?_:O.l (av (cm H.bz k l i))=_);rw[eS λe=>ht (by rw[e])];rfl
  |_=>rfl) λ_ h=>h
noncomputable def NY:List St:=match xf.dZ with | [_,_,_,_,.l _ _ b,_,_]=>b |_=>[]
theorem NX(d:Nat){q0 bd:Nat}(hbd:bd<=100)(h0:ρ 0=some (.o 2 (A.yx .aJ)))(h3:ρ 3=some (.i k)):∀(L:List Nat) (H:HS) (σ:aj) (ρ':aA),HX S A H σ->(∀s,H.ok s->A.yx s≠q0)->σ[q0]? =some (.l ys)->(∀r∈L,r∈H.bW)->L.Nodup->(∀r,(H.bz r).length+(if r∈L then 1 else 0)<=bd/\∀z∈H.bz r,z<=k)->(∀j,j≠4->ρ' j=ρ j)->
  ∃ρ'' τ ab,(∀j,j≠4->ρ'' j=ρ j)/\bF d 11 (.v 4) NY (.cr q0 ys) (av L) ρ' σ .n ρ'' τ/\HX S A {H with bz:=ab} τ/\Fm S σ τ/\∀r,(ab r).length<=bd/\∀z∈ab r,z<=k:=by
 intro L
 induction L with
 |nil=>intro H σ ρ' X _ _ _ _ hb hρ;exact xJ ρ' σ H.bz hρ fF X (λ_ _=>rfl) (λr=>⟨by have:=(hb r).1;rw[Xv (by intro h;cases h)]at this;exact this,(hb r).2⟩)
 |cons r L ih=>
  intro H σ ρ' X hq hs hk hn hb hρ
  have rk:=hk r (Xz ..)
  have nn:=Zg hn
  have h300:(H.bz r).length<=300:=by have:=(hb r).1;exact bT (bP (qT this hbd) rfl)
  refine bc (X.L8 rk (H.bz r++[k])) λX1 F1=>?_
  let σ1:=σ.set (A.yx (.cj r)) (.l (av (H.bz r++[k])))
  have s1:σ1[q0]? =some (.l ys):=(aV (hq (.cj r) rk)).trans hs
  have pa:=kN (f:=λn:Nat=>V.i (n:Int)) k (X.Vm.aZ (.cj r) rk) h300
  refine BW (ih _ σ1 (au ρ' 4 (.i r)) X1 hq s1 (λz hz=>hk z (XA _ hz)) nn.2 (λz=>by
   refine(?_:(cm H.bz r (H.bz r++[k]) z).length+_<=_/\∀u∈cm H.bz r (H.bz r++[k]) z,_)
   by_cases e:z=r
   ·subst e
    rw[gq,Xv nn.1,Xn]
    have h1:=(hb z).1
    rw[Xr (Xz ..)]at h1
    exact bm h1 (λu hu=>(XD hu).elim ((hb z).2 u) λh=>XW (Xy h))
   ·rw[eS e]
    have h1:=(hb z).1
    refine bm ?_ ((hb z).2)
    by_cases hz:z∈L
    ·rw[Xr (XA _ hz)]at h1;rw[Xr hz];exact h1
    ·rw[Xv hz];lia) (λj hj=>(bR _ _ hj).trans (hρ j hj))) λρ'' τ ab f1 f2 f3 f4 f5=>?_
  exact xJ ρ'' τ ab f1 (fc (S:=.cr q0 ys) (ρ':=au ρ' 4 (.i r)) rfl (Xi (du (dn (bi (eH X.Vm (ρ:=au ρ' 4 (.i r)) ((hρ 0 (by decide)).trans h0) rfl rfl) (af (bw _ _ _)) (Cc (X.Vm.aZ .cF trivial) rk)) (eI (X.Vm.aZ (.cj r) rk) rfl) (Xh (af (i:=3) ((hρ 3 (by decide)).trans h3))) rfl pa))) s1 f2) f3 (F1.fT f4) f5
end
section
variable {d n a b i j k m q l c:Nat}{u v w:V}{o:O}{e:Ex}{r:Rs}{S:Nat->Prop}
theorem QA(c:Nat):((aN c).map λk:Nat=>(k:Int))∈([[],[0],[1],[0,1],[1,0]]:List (List Int)):=Br (P:=λl=>(l.map λk:Nat=>(k:Int))∈([[],[0],[1],[0,1],[1,0]]:List (List Int))) (by decide) (by decide) (by decide) (by decide) (by decide) c
theorem HB.hi(B:HB c H)(K:H.cb=c):HI H:=⟨by rw[B.hc];exact B.c6,λx _=>XW (B.ua x),λx _=>by rw[B.ua],λx _ _=>B.rt x,λx _=>XW (B.rt x),λx _=>by rw[B.rt,B.ua],by rw[K,B.hc]⟩
theorem Ta(d:Nat)(X:HX S A H σ)(B:HB c H)(K:jE c H)(hx:x < c)(hk:aN x=[]):aL (d+2) 20 [.o 2 (A.yx .aJ),.s (bv x),.t []] σ (.i x) σ:=by
 have tk:=TM d X.Vm K B.c6 hx
 rw[hk]at tk
 have sz:=JP d X.Vm (by rw[B.hc];exact B.c6)
 rw[B.hc]at sz
 refine cI (f:=xf) (fl:=.r _) rfl rfl (ao (bh (bQ (eH X.Vm rfl rfl rfl) X.Vm.gT rfl (ac.ah (af rfl) (Xh (af rfl))) tk) ba) (be (cW (aY (af rfl) (bQ (eH X.Vm rfl rfl rfl) (X.Vm.aZ .un trivial) rfl ac.an sz) ?_ trivial) (be (bM (af rfl))))))
 refine(?_:some (decide ((x:Int) < (c:Nat)))=_)
 rw[XL (by exact mD hx)]
theorem Ug(c:Nat)(hc:c < 6):∃L:List Nat,iP (oQ ((aN c).map λk:Nat=>(k:Int)))=L.map (λk:Nat=>(k:Int))/\L.Nodup/\(∀z∈L,z < c)/\L.length<=2/\(c < 2->L=[]):=by
 match c,hc with
 |0,_=>exact fA ([]) (by decide)
 |1,_=>exact fA ([]) (by decide)
 |2,_=>exact fA ([0]) (by decide)
 |3,_=>exact fA ([1]) (by decide)
 |4,_=>exact fA ([0,1]) (by decide)
 |5,_=>exact fA ([0,1]) (by decide)
 |c+6,h=>exact absurd h (Zb (YJ ..))
theorem SZ(d:Nat)(X:HX S A H σ)(B:HB c H)(K:jE c H)(hc:c < 6):∃A' H' τ,aL (d+5) 20 [.o 2 (A.yx .aJ),.s (bv c),.t (av (aN c))] σ (.i c) τ/\HX S A' H' τ/\Fm S σ τ/\HB (c+1) H'/\jE (c+1) H'/\A'.yx .aJ=A.yx .aJ:=by
 refine i8 (TL (d+1) X K hc) λσ1 H1 t1 X1 F1 K1 hB=>?_
 have B1:=hB c B
 have hc1:H1.KE=c:=B1.hc
 have sz:=JP (d+3) X1.Vm (by rw[hc1];exact B.c6)
 refine hU (Tt (d+3) X1 (by rw[hc1];exact B.c6) (B1.ua _) (B1.lo _)) λσ2 t2 X2 F2 h2=>?_
 rw[hc1]at sz t2 X2 h2
 let A2:=A.nU c σ1.length
 let H2:HS:={H1 with KE:=c+1}
 have X2:HX S A2 H2 σ2:=X2
 let ρ:=au (bf [.o 2 (A.yx .aJ),.s (bv c),.t (av (aN c))]) 3 (.i (c:Nat))
 have h0:ρ 0=some (.o 2 (A2.yx .aJ)):=by rw[h2];rfl
 refine hU (Uc (d+4) X2 (k:=c) (ρ:=ρ) (by refine(?_:c∉H1.bW);rw[B1.Wx];intro h;exact YQ _ (Yv h)) (by refine(?_:H1.bW.length<=6);rw[B1.Wx,XO];exact B.c6) h0 rfl) λσ3 t3 X3 F3 h3=>?_
 let A3:=A2.j7 c σ2.length
 let H3:HS:={H2 with bW:=H1.bW++[c],bz:=cm H1.bz c []}
 have X3:HX S A3 H3 σ3:=X3
 have h0':ρ 0=some (.o 2 (A3.yx .aJ)):=by rw[h3];exact h0
 have I3:HI H3:=⟨hc,λx _=>XW (B1.ua x),λx _=>Xu H1.rt (B1.ua x),λx _ _=>B1.rt x,λx _=>XW (B1.rt x),λx _=>(B1.ua _),K1.cb⟩
 refine bc (Bq c hc) λkf _=>?_
 have kl:=gZ c
 refine u3 (Ug c hc) λL sL nL cL l2 e2=>?_
 let G1:aj:=[.l (av (aN c))]
 let G2:aj:=[.l (av L)]
 have hit:=gI (d:=d+4) (n:=28) (elt:=.m 20 (.v 0) [.v 5]) (tg:=.v 5) (ρ:=ρ) (σ:=σ3) (S:=.bx (av (aN c))) (λ_=>rfl) (λ_=>trivial) (λk:Nat=>V.i (k:Int)) (λk=>.i (k:Int)) (aN c)
  (λk hk=>aC _ rfl (by
   have h:=qu (d:=d+2) (n:=26) (ρ:=au ρ 5 (.i k)) (i:=5) X3 I3 (Zr (kf k hk).2.1) h0' (bw _ _ _)
   rw[show H3.rt k=k from B1.rt k]at h;exact h)) [] (bq (by rw[XT,Xk];exact bP kl rfl))
 rw[XT]at hit
 have so:=SB (σ:=σ3++G1) aX (uL (λk=>k) (aN c)) (QA c)
 rw[sL,show(L.map λk:Nat=>(k:Int)).map V.i=av L from by rw[XN];rfl]at so
 have ov:bA (d+4) 30 (.e (.b .r [.o (.m 20 (.v 0) [.v 5]) [.m (.v 5) (.e (.v 2)) []]])) ρ σ3 (.cr (σ3++G1).length (av L)) (σ3++G1++G2):=
  fe (K9 (dU (jJ (af (i:=2) rfl) (bq (by rw[Xk];exact bP kl rfl))) hit) so) aX (bq (by rw[Xk];exact bP l2 rfl))
 have X3g:=(X3.ke G1).ke G2
 have bd:∀r,(H3.bz r).length+(if r∈L then 1 else 0)<=c+1 - 2/\∀z∈H3.bz r,z<=c:=λr=>by
  have ob:=B1.ab r
  have ih:(if r∈L then 1 else 0)<=1:=by split<;>decide
  by_cases e:r=c
  ·have:H3.bz r=[]:=by refine(?_:cm H1.bz c [] r=_);rw[e,gq]
   rw[this]
   refine bm ?_ (λz hz=>(nomatch hz))
   rw[Xv λh=>XH (cL r h) e];exact Xo _
  ·have:H3.bz r=H1.bz r:=by refine(?_:cm H1.bz c [] r=_);rw[eS e]
   rw[this]
   refine bm ?_ (λz hz=>Yc (ob.2 z hz))
   rcases Nat.lt_or_ge c 2 with h |h
   ·rw[e2 h,Xv (by intro h;cases h)];exact qGm ob
   ·exact qGn ob ih h
 refine BW (NX (bd:=c+1 - 2) (d+4) (by lia) (A:=A3) (S:=S) (ρ:=ρ) (k:=c) (q0:=(σ3++G1).length) (ys:=av L) h0' rfl L H3 (σ3++G1++G2) ρ X3g (λs hs e=>by have:=X3.Vm.lt (s:=s) hs;rw[e,Xn]at this;exact Ck this iO) aX (λr hr=>YA _ (by rw[B1.Wx];exact Y2 (cL r hr))) nL bd (λ_ _=>rfl)) λρ4 σ4 ab k4 f4 X4 F4 b4=>?_
 let H4:HS:={H3 with bz:=ab}
 have X4:HX S A3 H4 σ4:=X4
 have I4:HI H4:=⟨I3.c6,I3.ld,I3.lS,I3.iS,I3.lR,I3.jp,I3.cb⟩
 have kk:iM H4 c=jz c:=by unfold iM jz;congr 1;exact YU λk _=>by rw[show H4.rt k=k from B1.rt k]
 have lk:=JN d X4 I4 (x:=c) (Za _) (by rw[kk,show H4.dH=fR c from B1.kn];exact CM hc) (by rw[show H4.dH=fR c from B1.kn];unfold fR;rw[Xk,XO];exact Xl B.c6 (by decide))
 refine bc (X4.y5 (H4.dH++[(iM H4 c,.i c)])) λX5 F5=>?_
 have h5:A3.yx .aJ=A.yx .aJ:=h3.trans h2
 refine xK A3 ({H4 with dH:=H4.dH++[(iM H4 c,.i c)]}) (σ4.set (A3.yx .fh) (.t (H4.dH++[(iM H4 c,.i c)]))) (cI (f:=xf) (fl:=.r _) (ρ':=ρ4) rfl rfl (ao (bh (bQ (eH X.Vm rfl rfl rfl) X.Vm.gT rfl (ac.ah (af rfl) (Xh (af rfl))) t1) ba)
  (ao (bC (aY (af rfl) (bQ (eH X1.Vm rfl rfl rfl) (X1.Vm.aZ .un trivial) rfl ac.an sz) ?_ trivial) aP) (ao (du (bQ (eH X1.Vm rfl rfl rfl) (X1.Vm.aZ .un trivial) rfl ac.an t2)) (ao t3 (ao (fg (S:=.cr (σ3++G1).length (av L)) ov f4)
  (ao (du (bQ (af ((k4 0 (by decide)).trans h0')) (dy X4.Vm) rfl (Xh (af (k4 3 (by decide)))) lk)) (be (bM (af (k4 3 (by decide)))))))))))) X5 ?_ ?_ (⟨K1.cb,K1.nu,K1.we,K1.de⟩) h5
 ·show some (decide ((c:Int) < (c:Nat)))=_
  rw[XU (Int.lt_irrefl _)]
 ·exact((F1.fT F2).fT F3).fT (((X3.tQ G1).fT ((X3.ke G1).tQ G2)).fT (F4.fT F5))
 ·exact⟨hc,rfl,B1.ua,B1.rt,B1.lo,B1.WK,B1.ed,B1.fo,by refine(?_:H1.dH++[(iM H4 c,.i c)]=_);rw[kk,B1.kn,Kl],by refine(?_:H1.bW++[c]=_);rw[B1.Wx,Zn],λr=>⟨(b4 r).1,λz hz=>Nat.lt_succ_of_le ((b4 r).2 z hz)⟩,B1.wa⟩
theorem TE(d:Nat)(X:HX S A H σ)(B:HB c H)(K:jE c H)(hx:x < c)(hk:aN x=[]):aL (d+3) 21 [.o 2 (A.yx .aJ),(cp x).enc] σ (.i x) σ:=by
 have ad:=Ta d (X.ke [.l []]) B K hx hk
 have e:(cp x).enc=.t [.s (bv x)]:=by rw[Ks (by rw[hk];rfl)];rfl
 rw[e]
 have sl:bA (d+2) 27 (.e (.e (.v 1) (some (.c (.i 1))) none)) (bf [.o 2 (A.yx .aJ),.t [.s (bv x)]]) σ (.bx []) σ:=jJ (ji (af (i:=1) rfl) (aq (v:=.i 1)) (pf (xs:=[.s (bv x)]) ⟨by decide,(show(1:Int)<=((1:Nat):Int) by decide)⟩ (show 1<=aK by decide))) (Xo _)
 exact fV (f:=Ax) rfl rfl (be (bM (bQ (af rfl) (dy X.Vm) rfl (ac.ah (bi (af (i:=1) rfl) aq (c9 (bg rfl) rfl)) (Xh (ci rfl (Xh (dU sl cV.mQ)) (j2 aX (Xo _))))) ad))) (Yd _ _) rfl
theorem TC(d:Nat)(X:HX S A H σ)(B:HB c H)(K:jE c H)(hc:c < 6):∃A' H' τ,aL (d+6) 21 [.o 2 (A.yx .aJ),(cp c).enc] σ (.i c) τ/\HX S A' H' τ/\Fm S σ τ/\HB (c+1) H'/\jE (c+1) H'/\A'.yx .aJ=A.yx .aJ:=by
 refine bc (Bq c hc) λkf _=>?_
 have leaf:∀k∈aN c,aN k=[]:=λk hk=>by
  have:=(kf k hk).1
  match k,this with
  |0,_=>rfl
  |1,_=>rfl
  |k+2,h=>exact absurd h (Zb (YJ ..))
 have kl:=gZ c
 let G1:aj:=[.l (av (aN c))]
 refine u5 (SZ d (X.ke G1) B K hc) λA' H' τ t X' F' B' K' h'=>?_
 have e:(cp c).enc=.t (.s (bv c)::(aN c).map λj=>(cp j).enc):=Kr c (List.all_eq_true.mpr λk hk=>by rw[leaf k hk];rfl)
 rw[e]
 let ρ:=bf [.o 2 (A.yx .aJ),.t (.s (bv c)::(aN c).map λj=>(cp j).enc)]
 have sl:bA (d+5) 27 (.e (.e (.v 1) (some (.c (.i 1))) none)) ρ σ (.bx ((aN c).map λj=>(cp j).enc)) σ:=by
  refine jJ (ji (af (i:=1) rfl) (aq (v:=.i 1)) (pf (xs:=.s (bv c)::(aN c).map λj=>(cp j).enc) ⟨by decide,?_⟩ ?_)) (bq (by rw[Xk];exact bP kl rfl))
  ·rw[Xq,Xk];exact nO
  ·exact bq (by rw[Xq,Xk];exact ja kl rfl)
 have hit:=gI (d:=d+5) (n:=27) (elt:=.m 33 (.v 0) [.v 2]) (tg:=.v 2) (ρ:=ρ) (σ:=σ) (S:=.bx ((aN c).map λj=>(cp j).enc)) (λ_=>rfl) (λ_=>trivial) (λj:Nat=>(cp j).enc) (λk:Nat=>V.i (k:Int)) (aN c)
  (λk hk=>aC _ rfl (bQ (af (i:=0) rfl) (dy X.Vm) rfl (Xh (af (bw _ _ _))) (TE (d+2) X B K (kf k hk).2.1 (leaf k hk)))) [] (bq (by rw[XT,Xk];exact bP kl rfl))
 rw[XT]at hit
 exact xK A' H' τ (cI (f:=Ax) (fl:=.r _) rfl rfl (be (bM (bQ (af rfl) (dy X.Vm) rfl (ac.ah (bi (af (i:=1) rfl) aq (c9 (bg rfl) rfl)) (Xh (ci rfl (Xh (dU sl hit)) (j2 aX (bq (by rw[Xk];exact bP kl rfl)))))) t)))) X' ((X.tQ G1).fT F') B' K' h'
theorem kR{g:aj}(h0:ρ 0=some (.o cl σ.length))(hc:fD cl nm=true)(hl:fs.length<=100)(he:∀s,Ev d 30 e ρ s (.r s.length) (s++[o])):ai d (n+1) (.a (.a nm (.v 0)) e) ρ (σ++.a cl fs::g) .n ρ (σ++.a cl (gY fs nm (.r (σ.length+(g.length+1))))::(g++[o])):=by
 have h:=he (σ++.a cl fs::g)
 rw[Xn,XM]at h
 exact lD (g':=g++[o]) h0 hc hl h
theorem m7(s:aj):Ev d (n+1) (.d []) ρ s (.r s.length) (s++[.l []]):=dp ac.an
theorem Tc(d:Nat)(σ:aj):aL (d+1) 3 [.o 0 σ.length] (σ++[.a 0 []]) .n (σ++[.a 0 [(10,.r (σ.length+1)),(11,.r (σ.length+2)),(12,.r (σ.length+3)),(13,.r (σ.length+4))],.l [],.t [],.l [],.l []]):=
 cI (f:=F7) (fl:=.n) rfl rfl (ao (kR (g:=[]) rfl rfl (by exact(show 0<=100 by decide)) m7) (ao (kR (g:=[.l []]) rfl rfl (by exact(show 1<=100 by decide)) (λs=>pF (kd:=.t))) (ao (kR (g:=[.l [],.t []]) rfl rfl (by exact(show 2<=100 by decide)) m7) (Xi (kR (g:=[.l [],.t [],.l []]) rfl rfl (by exact(show 3<=100 by decide)) m7)))))
theorem TR(d:Nat)(σ:aj):aL (d+1) 10 [.o 1 σ.length] (σ++[.a 1 []]) .n (σ++[.a 1 [(17,.r (σ.length+1)),(18,.r (σ.length+2)),(19,.r (σ.length+3))],.l [],.l [],.l []]):=
 cI (f:=Gs) (fl:=.n) rfl rfl (ao (kR (g:=[]) rfl rfl (by exact(show 0<=100 by decide)) m7) (ao (kR (g:=[.l []]) rfl rfl (by exact(show 1<=100 by decide)) m7) (Xi (kR (g:=[.l [],.l []]) rfl rfl (by exact(show 2<=100 by decide)) m7))))
noncomputable def ix:Sl->Nat
 | .aJ=>0 | .dW=>1 | .eL=>2 | .eU=>3 | .gF=>4 | .gE=>5 | .un=>6 | .c7=>7 | .fj=>8 | .fK=>9 | .fH=>10 | .fJ=>11 | .fh=>12 | .cF=>13 | .eZ=>14
 | .cX _=>0
 | .cj _=>0
noncomputable def xi(n:Nat):Sl:=[Sl.aJ,.dW,.eL,.eU,.gF,.gE,.un,.c7,.fj,.fK,.fH,.fJ,.fh,.cF,.eZ].getD n .aJ
noncomputable def pK:HS:=⟨0,0,[],[],[],λx=>x,λx=>x,λx=>[x],[],[],[],[],[],λ_=>[],[]⟩
theorem Th(d:Nat)(σ:aj)(hS:∀i,S i->i < σ.length):∃τ,aL (d+2) 17 [.o 2 σ.length] (σ++[.a 2 []]) .n τ/\HX S ⟨λs=>σ.length+ix s⟩ pK τ/\Fm S σ τ:=by
 let p:=σ.length
 let bk:aj:=[.a 0 [(10,.r (p+2)),(11,.r (p+3)),(12,.r (p+4)),(13,.r (p+5))],.l [],.t [],.l [],.l []]
 let un:aj:=[.a 1 [(17,.r (p+7)),(18,.r (p+8)),(19,.r (p+9))],.l [],.l [],.l []]
 let ρ:=bf [.o 2 p]
 have b1:ai (d+1) 12 (.a (.a 21 (.v 0)) (.w 0 [])) ρ (σ++[.a 2 []]) .n ρ (σ++.a 2 [(21,.o 0 (p+1))]::bk):=by
  refine lD (g:=[]) (g':=bk) rfl rfl (by exact(show 0<=100 by decide)) ?_
  have h:=Tc d (σ++[.a 2 []])
  have l:(σ++[O.a 2 []]).length=p+1:=Xn
  rw[l]at h
  have q:=tI (d:=d+1) (n:=29) (c:=0) (ρ:=ρ) (σ:=σ++[.a 2 []]) ac.an rfl (by rw[l];exact h)
  rw[l,XM]at q;exact q
 have b2:ai (d+1) 12 (.a (.a 22 (.v 0)) (.w 1 [])) ρ (σ++.a 2 [(21,.o 0 (p+1))]::bk) .n ρ (σ++.a 2 [(21,.o 0 (p+1)),(22,.o 1 (p+6))]::(bk++un)):=by
  refine lD (g:=bk) (g':=bk++un) rfl rfl (by exact(show 1<=100 by decide)) ?_
  have h:=TR d (σ++.a 2 [(21,.o 0 (p+1))]::bk)
  have l:(σ++O.a 2 [(21,.o 0 (p+1))]::bk).length=p+6:=Xn
  rw[l]at h
  have q:=tI (d:=d+1) (n:=29) (c:=1) (ρ:=ρ) (σ:=σ++.a 2 [(21,.o 0 (p+1))]::bk) ac.an rfl (by rw[l];exact h)
  rw[l,XM]at q;exact q
 let fs:List (Nat×V):=[(21,.o 0 (p+1)),(22,.o 1 (p+6))]
 let τ:aj:=σ++.a 2 [(21,.o 0 (p+1)),(22,.o 1 (p+6)),(23,.r (p+10)),(24,.r (p+11)),(25,.r (p+12)),(17,.r (p+13)),(26,.r (p+14)),(27,.i 0)]::(bk++un++[.l [],.l [],.t [],.d [],.l []])
 refine dK τ (cI (f:=Gj) (fl:=.n) (ρ':=ρ) rfl rfl (ao b1 (ao b2 (ao (kR (g:=bk++un) rfl rfl (by exact(show 2<=100 by decide)) m7) (ao (kR (g:=bk++un++[.l []]) rfl rfl (by exact(show 3<=100 by decide)) m7) (ao (kR (g:=bk++un++[.l [],.l []]) rfl rfl (by exact(show 4<=100 by decide)) (λs=>pF (kd:=.t))) (ao (kR (g:=bk++un++[.l [],.l [],.t []]) rfl rfl (by exact(show 5<=100 by decide)) (λs=>pF (kd:=.i))) (ao (kR (g:=bk++un++[.l [],.l [],.t [],.d []]) rfl rfl (by exact(show 6<=100 by decide)) m7) (Xi (lD (g:=bk++un++[.l [],.l [],.t [],.d [],.l []]) (g':=bk++un++[.l [],.l [],.t [],.d [],.l []]) rfl rfl (by exact(show 7<=100 by decide)) aq)))))))))) (⟨⟨λs t hs ht e=>?_,λs hs=>?_⟩,λi hi=>⟨?_,λs hs=>?_⟩⟩) (λi hi=>Ye (hS i hi))
 ·have xx:∀s,pK.ok s->xi (ix s)=s:=λs hs=>by
   cases s with
   |cX i=>exact absurd hs (YX _)
   |cj i=>cases hs
   |_=>rfl
  have e:ix s=ix t:=Nat.add_left_cancel e
  rw[<-xx s hs,<-xx t ht,e]
 ·cases s with
  |cX i=>exact absurd hs (YX _)
  |cj i=>cases hs
  |_=>exact kA σ _ _
 ·exact XB (hS i hi) (by rw[Xn];exact XJ ..)
 ·exact YV (XB (hS i hi) (XJ ..))
theorem HB0:HB 0 pK:=⟨by decide,rfl,λ_=>rfl,λ_=>rfl,λ_=>rfl,rfl,rfl,rfl,rfl,rfl,λ_=>⟨Xp _,λ_ h=>(nomatch h)⟩,rfl⟩
theorem LV:jE 0 pK:=⟨rfl,rfl,rfl,rfl⟩
theorem HB.hg(B:HB c H)(K:jE c H)(hc:1<=c):HG H 0 where
 VN:=B.hi K.cb
 nk:=λx hx=>by rw[B.rt,B.Wx];rw[B.hc]at hx;exact Y2 hx
 kt:=by rw[B.Wx,B.fo,XO];exact B.c6
 c1:=by rw[B.hc];exact hc
 WH:=by rw[B.WK];exact Xo _
 ed:=by rw[B.ed];exact Xo _
 lQ:=Xo _
 lo:=λx _=>by rw[B.lo,B.fo];exact(show 4 * 1<=4 by decide)
 ab:=λr _=>⟨by rw[B.fo];have:=(B.ab r).1;have:=B.c6;refine(?_:_<=4);lia,λz hz=>by rw[B.hc];exact(B.ab r).2 z hz⟩
 wa:=by rw[B.wa];exact bm (Xo _) (λ_ h=>(nomatch h))
 kw:=by rw[B.kn,B.wa,B.fo];unfold fR;rw[Xk,XO];have:=B.c6;refine(?_:c+0<=20+128 * 0);exact d5 (ja this rfl)
 lm:=λx _=>by rw[B.rt,B.lo];exact Yg rfl
 lc:=λx hx y hy=>by rw[B.lo]at hy;rw[Xy hy];exact hx
 fo:=by rw[B.fo];exact λ_ h=>(nomatch h)
 eg:=by rw[B.ed];exact λ_ h=>(nomatch h)
 cn:=λx y hx hy h=>by
  rw[B.rt,B.rt]at h;subst h
  exact aC 0 (List.countP_pos_iff.mpr (aC x (Y2 hx) (XL (by rw[B.rt])))) (.kX _)
 al:=by rw[B.ed];exact λ_ h=>(nomatch h)
 lk:=λj a b h=>by rw[B.ed]at h;cases h
 kn:=λe he=>by
  rw[B.kn]at he
  refine az (XY he) λx hx q2=>?_;subst q2
  exact⟨x,by rw[B.hc];exact Yv hx,rfl,aN x,rfl,rfl⟩
 nl:=by rw[B.ed];exact Xo _
end
section
variable {d n a b i j k m q l c t:Nat}{u v w:V}{o:O}{e:Ex}{r:Rs}{S:Nat->Prop}
noncomputable def kJ(i:Nat):St:=AF.dZ.getD i .s
theorem QH(d:Nat)(nums:List Int)(hl:nums.length<=63):∃(q0:O) (cells:List Int),cells.length<=40/\ai d 12 (kJ 0) (bf [.f (nums.map V.i)]) [] .n (au (bf [.f (nums.map V.i)]) 1 (.r 1)) [q0,.l (cells.map V.i)]:=by
 let l:=nums.take 40
 have ll:l.length<=40:=by rw[List.length_take];exact Zm _ _
 let q0:O:=.l (l.map V.i)
 let ρ:=bf [.f (nums.map V.i)]
 have et:(nums.map V.i).take (40:Int).toNat=l.map V.i:=by rw[<-List.map_take];rfl
 have sl:=yM (d:=d) (n:=28) (ρ:=ρ) (σ:=[]) (af (i:=0) rfl) (aq (v:=.i 40)) (SK (xs:=nums.map V.i) ⟨by decide,by decide⟩ (bq (by rw[Xk];exact bP hl rfl)))
 rw[et]at sl
 have hit:=gI (d:=d) (n:=29) (elt:=.i .m (.b .i [.v 12]) (.c (.i 1000003))) (tg:=.v 12) (ρ:=ρ) (σ:=[q0]) (S:=.cr 0 (l.map V.i)) (λ_=>rfl) (λ_=>rfl) V.i (λz=>.i (z % 1000003)) l
  (λz _=>aC _ rfl (bX (ci rfl (Xh (af (bw _ _ _))) So) aq (sU (by decide)))) [] (bq (by rw[XT,Xk];exact bP ll rfl))
 rw[XT,show l.map (λz=>V.i (z % 1000003))=(l.map (· % 1000003)).map V.i from by rw[XN];rfl]at hit
 exact eE q0 (l.map (· % 1000003)) (by rw[Xk];exact ll) (bh (dU (fe sl rfl (bq (by rw[Xk];exact bP ll rfl))) hit) ba)
theorem QJ(d:Nat){q0:O}(hl:cells.length<=40)(h1:ρ 1=some (.r 1)):∃(q2:O) (bl:Int),ai d 12 (kJ 1) ρ [q0,.l (cells.map V.i)] .n (au ρ 2 (.r 3)) [q0,.l (cells.map V.i),q2,fd 1 bl 0]:=by
 let f:=λz:Int=>z.natAbs % 997
 let q2:O:=.l (cells.map λz=>V.i (f z:Nat))
 let σ:aj:=[q0,.l (cells.map V.i)]
 have hit:=gI (d:=d) (n:=27) (elt:=.i .m (.b .b [.v 13]) (.c (.i 997))) (tg:=.v 13) (ρ:=ρ) (σ:=σ) (S:=.cr 1 (cells.map V.i)) (λ_=>rfl) (λ_=>rfl) V.i (λz=>.i (f z:Nat)) cells
  (λz _=>aC _ rfl (by
   have h:=bX (d:=d) (n:=26) (op:=.m) (ρ:=au ρ 13 (.i z)) (σ:=σ) (ci rfl (n:=25) (Xh (af (n:=24) (bw _ _ _))) (Sh (n:=z))) (aq (v:=.i 997)) (sU (by decide))
   exact h)) [] (bq (by rw[XT,Xk];exact bP hl rfl))
 rw[XT]at hit
 have sm:=ci rfl (d:=d) (n:=28) (ρ:=ρ) (Xh (dU (fe (af (σ:=σ) h1) rfl (bq (by rw[Xk];exact bP hl rfl))) hit)) (xY (σ:=σ++[q2]) aX (uL f cells) (bq (by rw[Xk];exact bP hl rfl)) λi hi=>by
  refine az (XY hi) λz _ q2=>?_;subst q2
  have:f z < 997:=Nat.mod_lt _ (by decide)
  unfold bY;lia)
 exact xI q2 _ (bh (yK (kd:=.s) (o:=fd 1 _ 0) (tL aq (af h1) (tL aq aq (tL aq sm yO))) rfl) ba)
theorem HX.mO(X:HX S A H σ)(hi:S i)(o:O):HX S A H (σ.set i o):=⟨⟨X.Vm.eT,λs hs=>by rw[aV ((X.d9 i hi).2 s hs).symm];exact X.Vm.aZ s hs⟩,λz hz=>⟨by rw[XF];exact(X.d9 z hz).1,(X.d9 z hz).2⟩⟩
noncomputable def SU:List St:=match kJ 4 with | .l _ _ b=>b |_=>[]
theorem SV(d:Nat){h Q:Nat}(sN:S N)(sQ:S Q)(nq:N≠Q)(h3:ρ 3=some (.o 2 h))(h4:ρ 4=some (.r N)):∀(j k:Nat) (A:Ad) (H:HS) (σ:aj) (ρ':aA),k+j<=6->HX S A H σ->HB k H->jE k H->A.yx .aJ=h->σ[N]? =some (.l (av (List.range k)))->σ[Q]? =some (.l ys)->(∀z,z≠5->ρ' z=ρ z)->
  ∃ρ'' τ A' H',(∀z,z≠5->ρ'' z=ρ z)/\bF (d+6) 11 (.v 5) SU (.cr Q ys) ((List.range' k j).map λx=>(cp x).enc) ρ' σ .n ρ'' τ/\HX S A' H' τ/\HB (k+j) H'/\jE (k+j) H'/\A'.yx .aJ=h/\τ[N]? =some (.l (av (List.range (k+j))))/\∀i,S i->i≠N->τ[i]? =σ[i]?:=by
 intro j
 induction j with
 |zero=>intro k A H σ ρ' _ X B K hh hN hQ hρ;exact BL ρ' σ A H hρ fF X B K hh hN (λ_ _ _=>rfl)
 |succ j ih=>
  intro k A H σ ρ' hk X B K hh hN hQ hρ
  refine u5 (TC d X B K (jb hk)) λA1 H1 σ1 p1 X1 F1 B1 K1 e1=>?_
  let ρ1:=au ρ' 5 (cp k).enc
  have N1:σ1[N]? =some (.l (av (List.range k))):=(F1 N sN).trans hN
  let σ2:=σ1.set N (.l (av (List.range (k+1))))
  have pa:Pr (dB 0 (.r N) [.i k] σ1) .n σ2:=by
   have h:=kN (f:=λn:Nat=>V.i (n:Int)) k N1 (by rw[XO];exact bT (bP hk rfl))
   rw[<-Zn]at h;exact h
  have X2:=X1.mO sN (.l (av (List.range (k+1))))
  have Q2:σ2[Q]? =some (.l ys):=(aV nq).trans ((F1 Q sQ).trans hQ)
  refine BY (ih (k+1) A1 H1 σ2 ρ1 (gj hk) X2 B1 K1 (e1.trans hh) (cR N1) Q2 (λz hz=>(bR _ _ hz).trans (hρ z hz))) λρ'' τ A' H' g1 g2 g3 g4 g5 g6 g7 g8=>?_
  have ek:k+1+j=k+(j+1):=xZ
  rw[ek]at g4 g5 g7
  rw[List.range'_succ,Xw]
  refine BL ρ'' τ A' H' g1 (fc (S:=.cr Q ys) (ρ':=ρ1) rfl (Xi (du (dn (af (i:=4) ((hρ 4 (by decide)).trans h4)) (eI hN rfl) (Xh (bQ (af (i:=3) ((hρ 3 (by decide)).trans h3)) (by rw[<-hh];exact dy X.Vm) rfl (Xh (af (bw _ _ _))) (by rw[<-hh];exact p1))) (uS hN N1) pa))) Q2 g2) g3 g4 g5 g6 g7 (λi hi hn=>(g8 i hi hn).trans ((aV (Yp hn)).trans (F1 i hi)))
theorem cq.fm(F:cq a n bl cells t σ)(h1:τ[a]? =σ[a]?)(h2:τ[n]? =σ[n]?):cq a n bl cells t τ:=⟨h1.trans F.lP,h2.trans F.Ww,F.ne,F.vX⟩
noncomputable def xC(z:Nat):List Nat:=[108]++FG z
theorem QF:∀z,z < 4->im (xC z)/\(xC z).length<=20
 |0,_=>⟨dR (by decide+kernel),by decide+kernel⟩
 |1,_=>⟨dR (by decide+kernel),by decide+kernel⟩
 |2,_=>⟨dR (by decide+kernel),by decide+kernel⟩
 |3,_=>⟨dR (by decide+kernel),by decide+kernel⟩
 |z+4,h=>absurd h (Zb (YJ ..))
theorem sg(F:cq a n bl cells t σ)(ht:t<=100000){w:Nat}(hw:0 < w):∃r:Nat,r < w/\aL (d+1) 43 [.r a,.i (w:Nat)] σ (.i (r:Nat)) (σ.set a (fd n bl (t+1))):=by
 refine c8 (mE (d:=d) F ht (w:=(w:Int)) (mD (cG hw))) λr r0 r1 h=>?_
 refine aT (Int.eq_ofNat_of_zero_le r0) λz q1=>?_;subst q1
 exact aC z (by lia) h
theorem GM(h:k < c):(dS (k:Int) (av (List.range c)).length).bind ((av (List.range c))[·]?)=some (.i (k:Nat)):=by
 unfold dS
 rw[Xr (YR _)]
 refine(?_:(av (List.range c))[k]? =_)
 rw[Ys,List.getElem?_range h];rfl
noncomputable def H0:List St:=match kJ 5 with | .l _ _ b=>b |_=>[]
theorem Q9(d:Nat){h:Nat}(s3:S 3)(s1:S 1)(sN:S N)(n3:N≠3)(c6:1<=c)(X:HX S A H σ)(G:HG H m)(hc:H.KE=c)(hh:A.yx .aJ=h)(hm:m+1<=100)(F:cq 3 1 bl cells t σ)(ht:t+3<=100000)(hN:σ[N]? =some (.l (av (List.range c)))){z:Nat}(hz:z < 4)(h2:ρ 2=some (.r 3))(h3:ρ 3=some (.o 2 h))(h4:ρ 4=some (.r N))(h6:ρ 6=some (.i (z:Nat))):
  ∃ρ' τ A' H',(∀z,z≠7->z≠8->z≠9->ρ' z=ρ z)/\ae (d+4) 11 H0 ρ σ .n ρ' τ/\HX S A' H' τ/\HG H' (m+1)/\H'.KE=c/\A'.yx .aJ=h/\cq 3 1 bl cells (t+3) τ/\τ[N]? =some (.l (av (List.range c))):=by
 have c6':c<=6:=by rw[<-hc];exact G.VN.c6
 refine az (sg (d:=d+3) F (bT ht) (w:=c) c6) λr1 l1 d1=>?_
 let σ1:=σ.set 3 (fd 1 bl (t+1))
 have F1:cq 3 1 bl cells (t+1) σ1:=F.eF
 have N1:σ1[N]? =some (.l (av (List.range c))):=(aV n3.symm).trans hN
 refine az (sg (d:=d+3) F1 (jb ht) (w:=c) c6) λr2 l2 d2=>?_
 let σ2:=σ1.set 3 (fd 1 bl (t+2))
 have F2:cq 3 1 bl cells (t+2) σ2:=F1.eF
 have N2:σ2[N]? =some (.l (av (List.range c))):=(aV n3.symm).trans N1
 let w1:V:=(Rs.mT (xC z)).gC
 let w2:V:=(Rs.lj 0 r2).gC
 let σ3:aj:=σ2++[.l [w1,w2]]
 have F3:cq 3 1 bl cells (t+2) σ3:=F2.lO _
 refine az (sg (d:=d+3) F3 (vk ht rfl) (w:=2) (by decide)) λr3 l3 d3=>?_
 let σ4:=σ3.set 3 (fd 1 bl (t+3))
 have F4:cq 3 1 bl cells (t+3) σ4:=F3.eF
 have N4:σ4[N]? =some (.l (av (List.range c))):=(aV n3.symm).trans (bO _ _ N2)
 have X4:HX S A H σ4:=(((X.mO s3 _).mO s3 _).ke _).mO s3 _
 refine bc (QF z hz) λlg ll=>?_
 obtain⟨rs,rl,rok,rix⟩:∃rs:Rs,rs.eB=false/\rs.ok H.KE/\(dS (r3:Nat) 2).bind (([w1,w2]:List V)[·]?)=some rs.gC:=by
  match r3,l3 with
  |0,_=>exact dK (.mT (xC z)) rfl (⟨lg,ll⟩) rfl
  |1,_=>exact dK (.lj 0 r2) rfl (⟨qT c6 (gL hc),qT l2 (gL hc)⟩) rfl
  |r+2,h=>exact absurd h (Zb (YJ ..))
 obtain⟨v,τ,hm1,nn0,Fm'⟩:=Tv d X4 G (a:=r1) (b:=r2) (qT l1 (gL hc)) (qT l2 (gL hc)) rok hm rl;refine i8 nn0 ?_;clear nn0;intro A' H' X' G' c' a' _
 let ρ1:=au (au ρ 7 (.i (r1:Nat))) 8 (.i (r2:Nat))
 let ρ2:=au ρ1 9 w2
 have ln:∀{s:aj} {n:Nat},s[N]? =some (.l (av (List.range c)))->Ev (d+4) (n+2) (.b .l [.v 4]) ρ s (.i (c:Nat)) s:=λ{s n} hs=>by
  have h:=ci rfl (d:=d+4) (n:=n+1) (ρ:=ρ) (Xh (af h4)) (fB hs (bq (by rw[Xk,XO];exact bP c6' rfl)))
  rw[Xk,XO]at h;exact h
 have st1:ai (d+4) 11 (.a (.t [.v 7,.v 8]) (.t [.l 43 [.v 2,.b .l [.v 4]],.l 43 [.v 2,.b .l [.v 4]]])) ρ σ .n ρ1 σ2:=
  bh (bI (ac.ah (cw (ac.ah (af h2) (Xh (ln hN))) d1) (Xh (cw (ac.ah (af h2) (Xh (ln N1))) d2)))) (gQ rfl rfl (da ba (da ba gR)))
 have st2:ai (d+4) 11 (.a (.v 9) (.t [.c (.s [114,117,108,101]),.c (.s [114]),.t [.t [.c (.s [63,120]),.s (.v 4) (.c (.i 0))],.t [.c (.s [63,121]),.s (.v 4) (.v 8)]]])) ρ1 σ2 .n ρ2 σ2:=
  bh (bI (ac.ah aq (ac.ah aq (Xh (bI (ac.ah (bI (ac.ah aq (Xh (bi (af (i:=4) h4) (aq (v:=.i (0:Nat))) (dL N2 (gG (Xo _)) (GM c6)))))) (Xh (bI (ac.ah aq (Xh (bi (af (i:=4) h4) (af (i:=8) rfl) (dL N2 (gG (by unfold aK;exact j3 (qT l2 c6') rfl)) (GM l2))))))))))))) ba
 have e1:Ev (d+4) 27 (.t [.c (.s [116,111,108,100]),.i .a (.c (.s [108])) (.b .a [.v 6])]) ρ2 σ2 w1 σ2:=
  bI (ac.ah aq (Xh (bX aq (ci rfl (Xh (af (i:=6) h6)) (SD (gG (by unfold aK;exact j3 hz rfl)))) (nI (Xl ll (by decide))))))
 have e2:Ev (d+4) 29 (.s (.d [.t [.c (.s [116,111,108,100]),.i .a (.c (.s [108])) (.b .a [.v 6])],.v 9]) (.l 43 [.v 2,.c (.i 2)])) ρ2 σ2 rs.gC σ4:=
  bi (dp (ac.ah e1 (Xh (af rfl)))) (cw (ac.ah (af (i:=2) h2) (Xh aq)) d3) (dL (xs:=[w1,w2]) ((aV (by have:=F2.lt;exact gM this)).trans aX) (gG (by unfold aK;exact j3 l3 rfl)) rix)
 have hh2:A.yx .aJ=h:=hh
 exact BL ρ2 τ A' H' (λz h7 h8 h9=>(bR _ _ h9).trans ((bR _ _ h8).trans (bR _ _ h7))) (ao st1 (ao st2 (Xi (du (bQ (af (i:=3) h3) (by rw[<-hh];exact dy ((X.mO s3 _).mO s3 _).Vm) rfl (ac.ah (af (i:=7) rfl) (ac.ah (af (i:=8) rfl) (Xh e2))) (by rw[<-hh];exact hm1)))))) X' G' (c'.trans hc) (a'.trans hh) (F4.fm (Fm' 3 s3) (Fm' 1 s1)) ((Fm' N sN).trans N4)
theorem Q8(d:Nat){h:Nat}(s3:S 3)(s1:S 1)(sN:S N)(n3:N≠3)(c6:1<=c)(h2:ρ 2=some (.r 3))(h3:ρ 3=some (.o 2 h))(h4:ρ 4=some (.r N)):∀(L:List Nat) (m:Nat) (A:Ad) (H:HS) (σ:aj) (t:Nat) (ρ':aA),(∀z∈L,z < 4)->m+L.length<=100->HX S A H σ->HG H m->H.KE=c->A.yx .aJ=h->cq 3 1 bl cells t σ->t+3 * L.length<=10000->σ[N]? =some (.l (av (List.range c)))->(∀z,z < 6->ρ' z=ρ z)->
  ∃ρ'' τ A' H' m' t',(∀z,z < 6->ρ'' z=ρ z)/\bF (d+4) 11 (.v 6) H0 (.bx ys) (av L) ρ' σ .n ρ'' τ/\HX S A' H' τ/\HG H' m'/\H'.KE=c/\A'.yx .aJ=h/\cq 3 1 bl cells t' τ/\t'<=10000/\τ[N]? =some (.l (av (List.range c))):=by
 intro L
 induction L with
 |nil=>intro m A H σ t ρ' _ _ X G hc hh F ht hN hρ;exact⟨ρ',σ,A,H,m,t,hρ,fF,X,G,hc,hh,F,bT ht,hN⟩
 |cons z L ih=>
  intro m A H σ t ρ' hL hm X G hc hh F ht hN hρ
  rw[Xq]at hm ht
  refine BY (Q9 (ρ:=au ρ' 6 (.i (z:Nat))) d s3 s1 sN n3 c6 X G hc hh (bT (gj hm)) F (ja (bT ht) rfl) hN (hL z (Xz ..)) ((hρ 2 (by decide)).trans h2) ((hρ 3 (by decide)).trans h3) ((hρ 4 (by decide)).trans h4) (bw _ _ _)) λρ1 σ1 A1 H1 k1 b1 X1 G1 c1 a1 F1 N1=>?_
  obtain⟨ρ2,τ,A',H',m',t',k2,f,r⟩:=ih (m+1) A1 H1 σ1 (t+3) ρ1 (λu hu=>hL u (XA _ hu)) (gj hm) X1 G1 c1 a1 F1 (by lia) N1 (λu hu=>(k1 u (kP hu rfl) (kP hu rfl) (kP hu rfl)).trans ((bR _ _ (gM hu)).trans (hρ u hu)))
  exact⟨ρ2,τ,A',H',m',t',k2,fc (S:=.bx ys) (ρ':=au ρ' 6 (.i (z:Nat))) rfl b1 trivial f,r⟩
end
section
variable {d n a b i j k m q l c t:Nat}{u v w:V}{o:O}{e:Ex}{r:Rs}{S:eM}
theorem Qj{f g:α->V}{p:α->Bool}(hS:∀r,S.iG r σ=σ)(hG:∀r,S.V8 r σ):∀(L:List α),(∀z∈L,∃ρ',fL 4 tg (f z) ρ=some ρ'/\ej d n ifs ρ' σ (p z) σ/\(p z=true->Ev d n elt ρ' σ (g z) σ))->∀acc:List V,acc.length+L.length<=300->cV d n elt tg ifs [] ρ S (L.map f) σ acc (acc++(L.filter p).map g) σ:=by
 intro L
 induction L with
 |nil=>
  intro _ acc _
  have h:=cV.mQ (d:=d) (n:=n) (elt:=elt) (tg:=tg) (ifs:=ifs) (gs:=[]) (ρ:=ρ) (S:=S) (σ:=σ) (acc:=acc)
  rw[hS]at h
  rw[show acc++List.map g (List.filter p [])=acc from Yb _];exact h
 |cons z L ih=>
  intro h acc hl
  rw[Xq]at hl
  refine c8 (h z (Xz ..)) λρ' h1 h2 h3=>?_
  have ih:=ih λu hu=>h u (XA _ hu)
  cases hp:p z with
  |true=>
   rw[hp]at h2
   have q:=ih (acc++[g z]) (by rw[Xn];refine(?_:acc.length+1+_<=_);exact gj hl)
   rw[XM]at q
   rw[List.filter_cons_of_pos hp]
   exact cV.Wr h1 (by rw[hS];exact h2) (jD.pH (h3 hp) (bq (bT hl))) (hG _) q
  |false=>
   rw[hp]at h2
   rw[List.filter_cons_of_neg (by rw[hp];exact Yy)]
   exact cV.WL h1 (by rw[hS];exact h2) (hG _) (ih acc (bT (vl hl)))
noncomputable def nG(H:HS)(c a:Nat):List (Nat×Nat):=((List.range c).filter λb=>decide (H.rt a=H.rt b)).map λb=>(a,b)
noncomputable def qK(H:HS)(c:Nat):List (Nat×Nat):=(List.range c).flatMap (nG H c)
theorem IP(H:HS)(c a:Nat):(nG H c a).length<=c:=by unfold nG;rw[Xk];exact Xl (List.length_filter_le _ _) (by rw[XO];exact Xp _)
theorem RW{p:Nat×Nat}(h:p∈qK H c):p.1 < c/\p.2 < c/\H.rt p.1=H.rt p.2:=by
 refine az (List.mem_flatMap.mp h) λa ha hp=>?_
 refine az (XY hp) λb hb q2=>?_;subst q2
 refine bc (Zc hb) λhb hr=>?_
 exact fy (Yv ha) (Yv hb) (XQ hr)
theorem RX(hc:1<=c):1<=(qK H c).length:=List.length_pos_of_mem (List.mem_flatMap.mpr (aC 0 (Y2 hc) (Yt (aC 0 (List.mem_filter.mpr ⟨Y2 hc,XL rfl⟩) rfl))))
theorem QL(d:Nat){h:Nat}(R:HR A H σ)(I:HI H)(hc:H.KE=c)(c6:c<=6)(hh:A.yx .aJ=h)(hN:σ[N]? =some (.l (av (List.range c))))(h3:ρ 3=some (.o 2 h))(h4:ρ 4=some (.r N)):ai (d+3) 12 (kJ 7) ρ σ .n (au ρ 10 (.r σ.length)) (σ++[.l (gK (qK H c))]):=by
 have ok:aD (av (List.range c)):=bq (by rw[Xk,XO];exact bP c6 rfl)
 have oV:∀(a:Nat),a < c->∀acc:List V,acc.length<=200->cV (d+3) 29 (.t [.v 14,.v 15]) (.v 15) [.m 55 (.v 3) [.v 14,.v 15]] [] (au ρ 14 (.i a)) (.cr N (av (List.range c))) (av (List.range c)) σ acc (acc++gK (nG H c a)) σ:=λa ha acc hl=>by
  have q:=Qj (d:=d+3) (n:=29) (elt:=.t [.v 14,.v 15]) (tg:=.v 15) (ifs:=[.m 55 (.v 3) [.v 14,.v 15]]) (ρ:=au ρ 14 (.i a)) (σ:=σ) (S:=.cr N (av (List.range c))) (f:=λk:Nat=>V.i (k:Int)) (g:=λb:Nat=>V.t [.i a,.i b]) (p:=λb=>decide (H.rt a=H.rt b)) (λ_=>rfl) (λ_=>hN) (List.range c) (λb hb=>by
   have al:=Tb d R I (x:=a) (y:=b) (by rw[hc];exact ha) (by rw[hc];exact Yv hb)
   rw[hh]at al
   exact dK _ rfl (v9 (bQ (af (i:=3) h3) (by rw[<-hh];exact dy R) rfl (ac.ah (af (i:=14) rfl) (Xh (af (bw _ _ _)))) al)) (λ_=>bI (ac.ah (af (i:=14) rfl) (Xh (af (bw _ _ _)))))) acc (by rw[XO];exact bP (qF hl c6) rfl)
  have e:gK (nG H c a)=((List.range c).filter λb=>decide (H.rt a=H.rt b)).map λb:Nat=>V.t [.i a,.i b]:=by refine(?_:List.map _ (List.map _ _)=_);rw[XN];rfl
  rw[e];exact q
 have outer:∀(L:List Nat) (acc:List V),(∀a∈L,a < c)->acc.length+L.length * 6<=200->cV (d+3) 29 (.t [.v 14,.v 15]) (.v 14) [] [.m (.v 15) (.e (.v 4)) [.m 55 (.v 3) [.v 14,.v 15]]] ρ (.cr N (av (List.range c))) (av L) σ acc (acc++gK (L.flatMap (nG H c))) σ:=by
  intro L
  induction L with
  |nil=>intro acc _ _;rw[show acc++gK (List.flatMap (nG H c) [])=acc from Yb _];exact cV.mQ
  |cons a L ih=>
   intro acc hL hl
   rw[Xq]at hl
   have pl:=IP H c a
   have q:=ih (acc++gK (nG H c a)) (λz hz=>hL z (XA _ hz)) (by rw[Xn,Xk];lia)
   rw[XM,<-XV]at q
   exact cV.Wr (S:=.cr N (av (List.range c))) (ρ':=au ρ 14 (.i a)) rfl ej.om (LN (fe (af (i:=4) h4) hN ok) (oV a (hL a (Xz ..)) acc (bT hl))) hN q
 have q:=outer (List.range c) [] (λa ha=>Yv ha) (by rw[XO,XR];lia)
 rw[XT]at q
 exact bh (dU (fe (af h4) hN ok) q) ba
theorem FY(d:Nat)(g:P.good)(hd:P.dep<=d)(h3:d<=300)(hs:2 * P.sz<=aK)(h11:ρ 11=some P.enc):ae (d+2) 11 [.i (.j (.l 50 [.v 11])) [.r (.c (.b false))] []] ρ σ .n ρ σ:=
 Xi (bC (tJ (cw (Xh (af h11)) (JL d P g hd h3 hs σ))) aP)
theorem QK{h:Nat}(R:HR A H σ)(G:HG H m)(hh:A.yx .aJ=h)(ha:a < H.KE)(hb:b < H.KE)(hab:H.rt a=H.rt b)(h3:ρ 3=some (.o 2 h))(h7:ρ 7=some (.i a))(h8:ρ 8=some (.i b)):∃ρ' τ,ai 194 12 (kJ 9) ρ σ .n ρ' τ:=by
 refine BW (TS 193 R G) λτ1 es bs w1 low1 hW1 B1 O1=>?_
 have lt:∀s,H.ok s->A.yx s < σ.length:=λs hs=>R.lt hs
 have S1:WS A H m σ.length es bs τ1:=⟨R.y3 (N:=σ.length) lt low1,G,lt,B1,O1⟩
 refine dY (TT 184 S1 hW1 ha hb hab) λP1 p' g1 w2=>?_
 let τ2:=τ1.set σ.length (wo (A.yx .aJ) σ.length p' 0)
 have S2:WS A H m σ.length es bs τ2:=S1.mv (e8 B1.VZ) (λe he=>e8 (B1.V5 e he)) nZ
 refine u4 (TH 190 S2.V2 G) λτ3 s lots c1 low3 S3 E3=>?_
 refine az (OH E3 G ha hb hab) λk hk k500=>?_
 refine u3 (TJ E3 37 153 a b k hk (Nat.lt_succ_of_le (by have:rk s (k * 16+(a+b))<=(List.range 36).length:=List.countP_le_length;rwa [XO]at this))) λP2 g2 d2 z1 z2 c2=>?_
 have c2:=c2 A m τ2.length τ3 S3
 have sz2:2 * P2.sz<=aK:=by
  by_cases e:a=b
  ·have:=z1 e;unfold aK;lia
  ·have:=z2 e
   have:0<=(if a < 2 then 200 else 120):=Xo _
   unfold aK;lia
 have e1:Ev 194 29 (.m 53 (.w 3 [.v 3]) [.v 7,.v 8]) ρ σ P1.enc τ2:=by
  rw[hh]at w1
  exact bQ (tI (Xh (af h3)) rfl w1) hW1 rfl (ac.ah (af h7) (Xh (af h8))) w2
 have e2:Ev 194 29 (.m 53 (.w 4 [.v 3]) [.v 7,.v 8]) ρ τ2 P2.enc τ3:=by
  rw[hh]at c1
  exact bQ (tI (Xh (af h3)) rfl c1) S3.VW rfl (ac.ah (af h7) (Xh (af h8))) c2
 refine xI _ τ3 (fg (S:=.bx [P1.enc,P2.enc]) (jJ (bI (ac.ah e1 (Xh e2))) (show 2<=aK by decide)) (fc (S:=.bx [P1.enc,P2.enc]) (ρ':=au ρ 11 P1.enc) rfl (FY 192 g1.Wd (Xl g1.Wo (by decide)) (by decide) (Xl (Nat.mul_le_mul_left 2 g1.Wq) (by decide)) (bw _ _ _)) trivial
  (fc (S:=.bx [P1.enc,P2.enc]) (ρ':=au (au ρ 11 P1.enc) 11 P2.enc) rfl (FY 192 g2 (Xl d2 (by decide)) (by decide) sz2 (bw _ _ _)) trivial fF)))
theorem Tp(nums:List Int)(hl:nums.length<=63):∃τ,aL 195 51 [.f (nums.map V.i)] [] (.b true) τ:=by
 let ρ0:=bf [.f (nums.map V.i)]
 refine dY (QH 194 nums hl) λq0 cells cl s0=>?_
 let ρ1:=au ρ0 1 (.r 1)
 refine Il (QJ (ρ:=ρ1) 194 (q0:=q0) cl rfl) λq2 bl s1=>?_
 let ρ2:=au ρ1 2 (.r 3)
 let σ1:aj:=[q0,.l (cells.map V.i),q2,fd 1 bl 0]
 have F1:cq 3 1 bl cells 0 σ1:=⟨rfl,rfl,by decide,cl⟩
 refine dj (Tq 3 186 F1 (by decide)) λp t1 pk _ t1b dr=>?_
 have t1b:t1<=766:=t1b
 let σ2:=σ1.set 3 (fd 1 bl t1)
 have F2:cq 3 1 bl cells t1 σ2:=F1.eF
 have s2:ai 194 12 (kJ 2) ρ2 σ1 .n ρ2 σ2:=bC (tJ (cw (Xh (cw (ac.ah (af (i:=2) rfl) (Xh aq)) dr)) (JL 192 p pk.Wl (Xl pk.Wk (by decide)) (by decide) (Xl (Nat.mul_le_mul_left 2 pk.Wm) (by decide)) σ2))) aP
 -- the heap
 let S:Nat->Prop:=λi=>i=1∨i=3
 refine c8 (Th (S:=S) 192 σ2 (λi hi=>by rcases hi with rfl |rfl<;>(refine(?_:_ < 4);decide))) λσ3 h0 X3 Fm3=>?_
 have F3:cq 3 1 bl cells t1 σ3:=F2.fm (Fm3 3 (.inr rfl)) (Fm3 1 (.inl rfl))
 let A0:Ad:=⟨λs=>σ2.length+ix s⟩
 have hA0:A0.yx .aJ=4:=rfl
 let N:=σ3.length
 let σ4:aj:=σ3++[.l []]
 let ρ4:=au (au ρ2 3 (.o 2 4)) 4 (.r N)
 have s3:ai 194 12 (kJ 3) ρ2 σ2 .n ρ4 σ4:=bh (bI (ac.ah (tI ac.an rfl h0) (Xh (dp ac.an)))) (gQ rfl rfl (da ba (da ba gR)))
 -- the terms
 let T6:List V:=(List.range 6).map λx=>(cp x).enc
 let σ5:aj:=σ4++[.l T6]
 have F5:cq 3 1 bl cells t1 σ5:=(F3.lO _).lO _
 refine az (sg (d:=193) F5 (bP t1b rfl) (w:=3) (by decide)) λr1 l1 d1=>?_
 let σ6:=σ5.set 3 (fd 1 bl (t1+1))
 let c:=4+r1
 have c6:c<=6:=by lia
 have n3:4<=N:=by have:=F3.lt;have:A0.yx .aJ < N:=X3.Vm.lt (s:=.aJ) trivial;have e:A0.yx .aJ=4:=rfl;lia
 let Q:=σ6.length
 let σ7:aj:=σ6++[.l ((List.range c).map λx=>(cp x).enc)]
 have n5:σ5.length=N+2:=by refine(?_:(σ3++[_]++[_]).length=_);rw[Xn,Xn];rfl
 have n6:σ6.length=N+2:=by rw[XF];exact n5
 have tk:T6.take (c:Int).toNat=(List.range c).map λx=>(cp x).enc:=by
  refine(?_:((List.range 6).map _).take c=_)
  rw[<-List.map_take,List.take_range,Nat.min_eq_left c6]
 have T6e:ac 194 28 [.t [.c (.s [97])],.t [.c (.s [98])],.t [.c (.s [102]),.t [.c (.s [97])]],.t [.c (.s [102]),.t [.c (.s [98])]],.t [.c (.s [103]),.t [.c (.s [97])],.t [.c (.s [98])]],.t [.c (.s [103]),.t [.c (.s [98])],.t [.c (.s [97])]]] ρ4 σ4 T6 σ4:=by
  have lf:∀{s:List Nat} {n:Nat},Ev 194 (n+2) (.t [.c (.s s)]) ρ4 σ4 (.t [.s s]) σ4:=bI (Xh aq)
  exact ac.ah lf (ac.ah lf (ac.ah (bI (ac.ah aq (Xh lf))) (ac.ah (bI (ac.ah aq (Xh lf))) (ac.ah (bI (ac.ah aq (ac.ah lf (Xh lf)))) (Xh (bI (ac.ah aq (ac.ah lf (Xh lf)))))))))
 have g6:σ6[σ4.length]? =some (.l T6):=(aV (by have:σ4.length=N+1:=Xn;exact gM (i9 n3 this))).trans aX
 have e4:Ev 194 29 (.i .a (.c (.i 4)) (.l 43 [.v 2,.c (.i 3)])) ρ4 σ5 (.i (c:Nat)) σ6:=bX aq (cw (ac.ah (af (i:=2) rfl) (Xh aq)) d1) iy
 have tkl:=IX (n:=(c:Nat)) g6 ⟨YR _,by unfold bY;lia⟩ (show 6<=aK by decide)
 rw[tk]at tkl
 let S7:Nat->Prop:=λi=>i=1∨i=3∨i=N∨i=Q
 have hX7:HX S7 A0 pK σ7:=by
  have X5:=(X3.ke [.l []]).ke [.l T6]
  have X7:=(X5.mO (i:=3) (.inr rfl) (fd 1 bl (t1+1))).ke [.l ((List.range c).map λx=>(cp x).enc)]
  refine⟨X7.Vm,λi hi=>?_⟩
  have ln7:σ7.length=N+3:=by refine(?_:(σ6++[_]).length=_);rw[Xn,n6];rfl
  have slt:∀s,pK.ok s->A0.yx s < N:=λs hs=>X3.Vm.lt hs
  rcases hi with rfl |rfl |rfl |rfl
  ·exact X7.d9 1 (.inl rfl)
  ·exact X7.d9 3 (.inr rfl)
  ·exact bm (by refine(?_:N < σ7.length);exact jb (gL ln7)) (λs hs=>XH (slt s hs))
  ·exact bm (by refine(?_:Q < σ7.length);lia) (λs hs=>by have:=slt s hs;refine(?_:A0.yx s≠σ6.length);exact gM (i9 this n6))
 have hN7:σ7[N]? =some (.l (av (List.range 0))):=bO _ _ ((aV (gM n3)).trans (bO _ _ aX))
 refine BY (SV (S:=S7) 188 (h:=4) (Q:=Q) (N:=N) (ρ:=ρ4) (ys:=(List.range c).map λx=>(cp x).enc) (.inr (.inr (.inl rfl))) (.inr (.inr (.inr rfl))) (by refine(?_:N≠σ6.length);exact gM (jb (gL n6))) rfl rfl c 0 A0 pK σ7 ρ4 (by lia) hX7 HB0 LV hA0 hN7 aX (λ_ _=>rfl)) λρ8 σ8 A8 H8 k8 f8 X8 B8 K8 a8 N8 fr8=>?_
 rw[Nat.zero_add]at B8 K8 N8
 have s4:ai 194 12 (kJ 4) ρ4 σ4 .n ρ8 σ8:=by
  refine fg (S:=.cr Q ((List.range c).map λx=>(cp x).enc)) (fe (yM (dp T6e) e4 tkl) aX (bq (by rw[Xk,XO];lia))) ?_
  rw[<-List.range_eq_range']at f8;exact f8
 have F8:cq 3 1 bl cells (t1+1) σ8:=((F5.eF (t':=t1+1)).lO _).fm (fr8 3 (.inr (.inl rfl)) (gM n3)) (fr8 1 (.inl rfl) (by lia))
 have G8:HG H8 0:=B8.hg K8 (by lia)
 -- the merges
 refine az (sg (d:=193) F8 (ja t1b rfl) (w:=4) (by decide)) λr2 l2 d2=>?_
 let σ9:=σ8.set 3 (fd 1 bl (t1+2))
 have F9:cq 3 1 bl cells (t1+2) σ9:=F8.eF
 have X9:HX S7 A8 H8 σ9:=X8.mO (.inr (.inl rfl)) _
 have N9:σ9[N]? =some (.l (av (List.range c))):=(aV (gM n3)).trans N8
 have e5:Ev 194 30 (.i .a (.c (.i 1)) (.l 43 [.v 2,.c (.i 4)])) ρ8 σ8 (.i ((1+r2:Nat):Int)) σ9:=bX aq (cw (ac.ah (af ((k8 2 (by decide)).trans rfl)) (Xh aq)) d2) iy
 obtain⟨ρa,σa,Aa,Ha,ma,ta,ka,fa,Xa,Ga,ca,aa,Fa,iQ,Na⟩:=Q8 (S:=S7) (c:=c) 190 (h:=4) (N:=N) (ys:=df 0 ((1+r2:Nat):Int) 1) (ρ:=ρ8) (.inr (.inl rfl)) (.inl rfl) (.inr (.inr (.inl rfl))) (mC n3) (by lia) ((k8 2 (by decide)).trans rfl) ((k8 3 (by decide)).trans rfl) ((k8 4 (by decide)).trans rfl) (List.range (1+r2)) 0 A8 H8 σ9 (t1+2) ρ8 (λz hz=>by have:=Yv hz;exact qT this (vm l2)) (by rw[XO];exact qQ (vm l2) rfl) X9 G8 B8.hc a8 F9 (by rw[XO];lia) N9 (λ_ _=>rfl)
 have s5:ai 194 12 (kJ 5) ρ8 σ8 .n ρa σa:=by
  refine fg (S:=.bx (df 0 ((1+r2:Nat):Int) 1)) (pP e5 (by unfold aK;lia) (by unfold bY;exact vn)) ?_
  refine(?_:bF _ _ _ _ (.bx (df 0 ((1+r2:Nat):Int) 1)) (df 0 ((1+r2:Nat):Int) 1) _ _ _ _ _)
  rw[vu]at fa ⊢;exact fa
 have pa:∀z,z < 5->ρa z=ρ4 z:=λz hz=>(ka z (bP hz rfl)).trans (k8 z (gM hz))
 obtain⟨σb,sb,nn0,Fmb⟩:=TG 189 Xa Ga;refine i8 nn0 ?_;clear nn0;intro Ab Hb Xb Gb cb ab _
 have cb:Hb.KE=c:=cb.trans ca
 have ab:Ab.yx .aJ=4:=ab.trans aa
 have s6:ai 194 12 (kJ 6) ρa σa .n ρa σb:=du (bQ (af (i:=3) ((pa 3 (by decide)).trans rfl)) (by rw[<-aa];exact dy Xa.Vm) rfl ac.an (by rw[<-aa];exact sb))
 have Fb:cq 3 1 bl cells ta σb:=Fa.fm (Fmb 3 (.inr (.inl rfl))) (Fmb 1 (.inl rfl))
 have Nb:σb[N]? =some (.l (av (List.range c))):=(Fmb N (.inr (.inr (.inl rfl)))).trans Na
 have s7:=QL 191 (ρ:=ρa) Xb.Vm Gb.VN cb c6 ab Nb ((pa 3 (by decide)).trans rfl) ((pa 4 (by decide)).trans rfl)
 let σc:aj:=σb++[.l (gK (qK Hb c))]
 let ρc:=au ρa 10 (.r σb.length)
 have Fc:cq 3 1 bl cells ta σc:=Fb.lO _
 have pl:(qK Hb c).length<=300:=by
  have:∀L:List Nat,(L.flatMap (nG Hb c)).length<=L.length * 6:=λL=>by
   induction L with
   |nil=>exact Xp _
   |cons z L ih=>rw[List.flatMap_cons,Xn,Xq];have:=IP Hb c z;lia
  have:=this (List.range c)
  rw[XO]at this
  exact Xl this (by lia)
 refine az (sg (d:=193) Fc (bP iQ rfl) (RX (H:=Hb) (c:=c) (by lia))) λr3 l3 d3=>?_
 let σd:=σc.set 3 (fd 1 bl (ta+1))
 obtain⟨⟨xa,xb⟩,hx⟩:∃z,(qK Hb c)[r3]? =some z:=⟨_,Yo l3⟩
 refine cN (RW (Yi hx)) λxac xbc xr=>?_
 have ln:=ci rfl (d:=194) (n:=27) (ρ:=ρc) (Xh (af (bw _ _ _))) (fB (σ:=σc) aX (bq (by rw[Xk];exact pl)))
 rw[Xk]at ln
 let ρd:=au (au ρc 7 (.i xa)) 8 (.i xb)
 have s8:ai 194 12 (kJ 8) ρc σc .n ρd σd:=
  bh (bi (af (bw _ _ _)) (cw (ac.ah (af (i:=2) ((pa 2 (by decide)).trans rfl)) (Xh ln)) d3) (dL (v:=.t [.i xa,.i xb]) ((aV (by have:=Fb.lt;exact gM this)).trans aX) (gG (by unfold aK;exact j3 (qT l3 pl) rfl)) (by unfold dS;rw[Xr (YR _)];refine(?_:(gK (qK Hb c))[r3]? =_);rw[Ys,hx];rfl))) (gQ rfl rfl (da ba (da ba gR)))
 have Xd:HX S7 Ab Hb σd:=(Xb.ke _).mO (.inr (.inl rfl)) _
 refine Il (QK (ρ:=ρd) Xd.Vm Gb ab (a:=xa) (b:=xb) (by rw[cb];exact xac) (by rw[cb];exact xbc) xr ((pa 3 (by decide)).trans rfl) rfl rfl) λρe σe s9=>?_
 exact fA σe (cI (f:=AF) (fl:=.r (.b true)) rfl rfl (ao s0 (ao s1 (ao s2 (ao s3 (ao s4 (ao s5 (ao s6 (ao s7 (ao s8 (ao s9 (be (bM aq)))))))))))))
end
end
section
open PySem PySem.W PyProof.Rows PySem.Calls
set_option backward.match.sparseCases true
theorem QI{prog q:Program}{w:World}{loose:List Str}{mean:ExcName->Option Value}{mg mb:Str->Option Value}{s:Shared}{K:Frag}{a:Addr}{vs:List Value}{l:List Int}{f:Addr}(ok:wR (fQ K a l)=true)(hk:nsIn K mainGlobals (Str.ofString "law")=some (some (.ref 601)))
  (T:Top q loose mean mg mb s.heap) (KX:K.In s.heap) (hl:l.length<=63) (h1:s.heap.IsList a vs.toArray) (h2:IntsAre vs l) (hf:mg (Str.ofString "law")=some (.ref f)):
  codeAny (model prog w) callerA (.call (.ref f) ⟨[.ref a],[]⟩) (λr s'=>r=.ok (.ret (.bool true))/\(∀b o,s.heap.get? b=some o->s'.heap.get? b=some o)/\s'.gens=s.gens/\s'.os=s.os) s:=by
 have e1:=mg_of KX T.g hk
 rw[hf]at e1
 cases e1
 have I:aU ⟨prog,w,fQ K a l,s.heap⟩ s.heap [] []:=⟨rfl,Y5,λ_ _ e=>e,λ_ h=>absurd h XX,λ_ h=>absurd h XX,λi x o h=>bN h,λi xs h=>bN h,(aC vs h1 h2),λi x o h=>bN h⟩
 refine aT (Tp l hl) λτ h=>?_
 refine YS (h ⟨prog,w,fQ K a l,s.heap⟩ callerA s [] [.ref a] (PY T KX ok) ⟨rfl,by decide,by decide+kernel⟩ I ⟨_,_,rfl,⟨rfl,rfl⟩,rfl⟩) λr s' k=>?_
 rcases r with _ |f
 ·exact k.elim
 ·cases f<;>first |exact k.elim |skip
  obtain⟨μ,st,e⟩:=k
  exact H7 (Xu (λv=>Except.ok (Flow.ret v)) e) (λb o hb=>st.bJ.iE b o hb XX) st.jQ.1 st.jQ.2.2
set_option maxHeartbeats 8000000 in
theorem main:PySem.Challenge.rw_pq0020_01.Holds:=by
 w_on
 refine holds_law ws λsaid=>?_
 refine holds_open (r:=PySem.Challenge.rw_pq0020_01.row) (XP:=λ_ _=>True) (YP:=YP) QQ NT NS (λ_ _=>trivial) (λ_ _ _ _ _=>trivial) (by rfl) (by rfl) (by rfl) (λ_ _=>recFacts_nil rfl) (by rfl) (by assumption) (by decide+kernel) ⟨rfl,rfl,rfl,rfl,rfl,by decide+kernel⟩ ?hw ?hc
 (case hw=>w_witness2)
 intro w s₀ s₁ mg mb G Y fa o pm cd doc dV kV ho hd' hcd hD hmg hg args vals as hpre hlay hrd hwl hlo
 refine c8 Y ?_;clear Y;intro K KX ok hk
 have T:=PySem.W.Ground.T G
 clear hD hd' hcd ho G
 wrow_args hpre hlay hrd hwl hlo
 have hm:mg (Str.ofString "law")=some (.ref fa):=hmg
 clear hmg
 refine enter_call (YS (QI (l:=?l) (vs:=?vs) (ok _ _) hk T KX ?h1 ?h2 ?h3 hm) ?h4)
 case h2=>assumption
 case h3=>assumption
 case h1=>lia
 clear hm T KX
 rintro r s' ⟨rfl,h2,h3,h4⟩
 refine GoodW.toG ⟨.inl (xJ _ (.bool true) ([]) rfl ?_ ?_ ?_ ?_),h2,h4,h3.trans hg⟩
 ·intro cls;rfl
 ·exact .bool true
 ·generalize [ofPy _]=as
  first |kernel_rfl | (with_unfolding_all rfl) | (refine(?_:((WShape.has _ _ _)&&_)=true);simp[OpenLaw.row,WExpr.holds])
 ·exact λ_=>⟨Y5,λ_ h=>absurd h XX⟩
end
end Mine.Internal
theorem PySem.Challenge.cw_pq0020_01_holds : PySem.Challenge.rw_pq0020_01.Holds := by
 exact Mine.Internal.main
