import PyProof.Rows.All
import Wide.All
import OpenK.AllK
import Wide.FinOn
import PySem.Challenge.RW_pq0020_01
set_option Elab.async false
set_option autoImplicit false
set_option linter.all false
set_option genInjectivity false
set_option genSizeOf false
set_option bootstrap.genMatcherCode false
set_option maxRecDepth 100000
set_option tactic.hygienic false
set_option backward.match.sparseCases false
namespace Mine.Internal
noncomputable def Xq:=@PySem.wpAny_bind
noncomputable def Xr:=@List.length_map
noncomputable def Xs:=@Nat.le_trans
noncomputable def Xu:=@PySem.wpAny_pure
noncomputable def Xv:=@List.length_append
noncomputable def Xw:=@Nat.zero_le
noncomputable def Xx:=@Nat.le_refl
noncomputable def Xy:=@List.length_cons
noncomputable def Xz:=@if_pos
noncomputable def XA:=@Option.some.inj
noncomputable def XB:=@congrArg
noncomputable def XC:=@if_neg
noncomputable def XD:=@List.map_cons
noncomputable def XF:=@LawfulBEq.eq_of_beq
noncomputable def XG:=λ{a b c}=>(@List.mem_singleton a b c).mp
noncomputable def XH:=@List.mem_cons_self
noncomputable def XI:=@List.mem_cons_of_mem
noncomputable def XJ:=@Nat.lt_of_lt_of_le
noncomputable def XL:=λ{a b c d}=>(@List.mem_cons a b c d).mp
noncomputable def XM:=λ{a b c d}=>(@List.mem_append a b c d).mp
noncomputable def XN:=@List.length_set
noncomputable def XO:=@PySem.Heap.get?_push_of_some
noncomputable def XQ:=@Nat.ne_of_lt
noncomputable def XR:=@PySem.wpAny_holding
noncomputable def XS:=@Nat.le_add_right
noncomputable def XT:=@decide_eq_true
noncomputable def XU:=@List.append_assoc
noncomputable def XV:=@List.map_map
noncomputable def XW:=@List.length_range
noncomputable def XX:=@of_decide_eq_true
noncomputable def XY:=@List.length_nil
noncomputable def XZ:=λ{a b c d}=>(@List.getElem?_eq_some_iff a b c d).mp
noncomputable def X0:=@List.nil_append
noncomputable def Yb:=@decide_eq_false
noncomputable def Yc:=@List.map_append
noncomputable def Yd:=@Nat.le_of_eq
noncomputable def Ye:=@List.not_mem_nil
noncomputable def Yf:=λ{a b c d e}=>(@List.mem_map a b c d e).mp
noncomputable def Yg:=@PySem.Heap.get?_push_size
noncomputable def Yh:=@PySem.wpAny_standAt
noncomputable def Yi:=@List.append_nil
noncomputable def Yj:=@Nat.le_of_lt
noncomputable def Yk:=@List.prefix_append
noncomputable def Yl:=@List.getElem?_append_left
noncomputable def Ym:=λ{a b c}=>(@List.mem_singleton a b c).mpr
noncomputable def Yn:=@List.prefix_refl
noncomputable def Yo:=@List.mem_of_getElem?
noncomputable def Yp:=@Nat.le_succ
noncomputable def Yq:=@List.sum_cons
noncomputable def Yr:=@List.set_set
noncomputable def Ys:=@PySem.Heap.lt_size
noncomputable def Yt:=@List.mem_cons
noncomputable def Yu:=@List.getElem?_eq_getElem
noncomputable def Yv:=@Ne.symm
noncomputable def Yw:=λ{a b}=>(@Bool.or_eq_true_iff a b).mp
noncomputable def Yx:=@List.size_toArray
noncomputable def Yy:=@List.getElem?_map
noncomputable def Yz:=λ{a b c d e}=>(@List.mem_map a b c d e).mpr
noncomputable def YA:=@List.mem_singleton
noncomputable def YB:=λ{a b}=>(@List.mem_range a b).mp
noncomputable def YC:=@Nat.add_le_add_left
noncomputable def YD:=@Nat.succ_le_succ
noncomputable def YE:=@Bool.false_ne_true
noncomputable def YF:=@List.getElem?_toArray
noncomputable def YG:=@List.mem_append_left
noncomputable def YH:=@Nat.lt_of_le_of_lt
noncomputable def YI:=@Nat.le_of_ble_eq_true
noncomputable def YJ:=@Bool.and_eq_true
noncomputable def YK:=λ{a b c d e}=>(@Option.map_eq_some_iff a b c d e).mp
noncomputable def YL:=λ{a b}=>(@Bool.and_eq_true_iff a b).mp
noncomputable def YM:=λ{a b c}=>(@List.all_eq_true a b c).mp
noncomputable def YN:=@List.map_nil
noncomputable def YO:=@PySem.wpAny_setField_rec
noncomputable def YQ:=@Nat.le_add_left
noncomputable def YR:=@List.getElem?_append_right
noncomputable def YS:=@Nat.add_le_add_right
noncomputable def YT:=@PySem.wpAny_truthy_bool
noncomputable def YU:=@List.all_cons
noncomputable def YV:=@Nat.le_succ_of_le
noncomputable def YW:=@Nat.lt_irrefl
noncomputable def YX:=@Int.natCast_nonneg
noncomputable def YY:=@PySem.codeAny_mono
noncomputable def YZ:=@List.mem_append_right
noncomputable def Y0:=@List.map_congr_left
noncomputable def Y3:=@Nat.ne_of_gt
noncomputable def Y4:=@List.getElem?_set_ne
noncomputable def Y5:=@Nat.not_lt_zero
noncomputable def Y6:=@PySem.wpAny_call_entry
noncomputable def Y7:=@PySem.Heap.size_push
noncomputable def Y8:=@List.mem_map_of_mem
noncomputable def Y9:=@Nat.mul_le_mul_right
noncomputable def Y':=λ{a b}=>(@List.mem_range a b).mpr
noncomputable def Za:=@Nat.add_le_add
noncomputable def Zb:=@List.cons_append
noncomputable def Zc:=@List.nodup_nil
noncomputable def Zd:=@Nat.succ_pos
noncomputable def Ze:=@PySem.mem_of_lookup
noncomputable def Zf:=@PySem.getMethod_builtin
noncomputable def Zg:=@List.nodup_cons
noncomputable def Zh:=@List.mem_of_mem_take
noncomputable def Zi:=@Nat.lt_succ_self
noncomputable def Zj:=λ{a b}=>(@Nat.not_lt a b).mpr
noncomputable def Zk:=λ{a b}=>(@Bool.and_eq_true_iff a b).mpr
noncomputable def Zl:=λ{a b c d}=>(@List.mem_filter a b c d).mp
noncomputable def Zm:=@PySem.codeAny_of_tree
noncomputable def Zn:=@List.map_reverse
noncomputable def Zo:=λ{a b}=>(@List.length_eq_zero_iff a b).mp
noncomputable def Zq:=λ{a b c}=>(@List.nodup_cons a b c).mp
noncomputable def Zr:=@List.find?_cons
noncomputable def Zs:=@Array.length_toList
noncomputable def Zu:=@PySem.wpAny_newObj_type
noncomputable def Zv:=@Bool.false_eq_true
noncomputable def Zw:=@Nat.min_le_left
noncomputable def Zx:=@List.range_succ
noncomputable def Zy:=λ{a b}=>(@List.isEmpty_iff a b).mp
noncomputable def Zz:=@List.getElem?_set_self
noncomputable def ZA:=@Nat.lt_succ_of_lt
noncomputable def ZB:=@Nat.not_succ_le_zero
noncomputable def ZC:=@PySem.Heap.get?_update_self
noncomputable def ZD:=@Array.getElem?_eq_getElem
noncomputable def ZF:=λ{a b c d e}=>(@Option.bind_eq_some_iff a b c d e).mp
noncomputable def ZG:=λ{a b}=>(@Option.eq_none_iff_forall_ne_some a b).mpr
noncomputable def ZH:=λ{a b}=>(@Option.isNone_iff_eq_none a b).mp
section
variable{a b c d e f g i m n k:Nat}
theorem qT(h:a<=b)(k:b<=c):a<=c:=Xs h k
theorem bT(h:a+c<=b):a<=b:=Xs (XS ..) h
theorem cG(h:c+a<=b):a<=b:=Xs (YQ ..) h
theorem qQ(h:a+c<b):a<b:=YH (XS ..) h
theorem d5(h:a<=b):a<=b+c:=Xs h (XS ..)
theorem td(h:a<=b):a<=c+b:=Xs h (YQ ..)
theorem qF(h:a<=b)(k:c<=d):a+c<=b+d:=Za h k
theorem qR(h:a<=b):a+c<=b+c:=YS h c
theorem x5(h:a<=b):c+a<=c+b:=YC h c
theorem qL(h:a<b):a<=b:=Yj h
theorem x9(h:¬b<a):a<=b:=Nat.le_of_not_lt h
theorem Cy(h:¬b<=a):a<b:=Nat.lt_of_not_le h
theorem gN(h:a<b):a≠b:=XQ h
theorem mD(h:b<a):a≠b:=Y3 h
theorem iO:a<=a+c:=XS ..
theorem gh:a<=c+a:=YQ ..
theorem pn:a<=a:=Xx a
theorem gj(h:a+(c+b)<=d):a+b+c<=d:=by lia
theorem vt(h:a+(b+c)<=d):a+b+c<=d:=Nat.add_assoc a b c▸h
theorem tf(h:a+b+c<=d):a+(b+c)<=d:=Nat.add_assoc a b c▸h
theorem hY(h:a+c+b<=d):a+b+c<=d:=by lia
theorem vu(h:b+a<=c):a+b<=c:=by lia
theorem CA(h:a<=b+(c+d)):a<=b+c+d:=by lia
theorem Jp(h:b+(a+c)<=d):a+b+c<=d:=by lia
theorem jc(h:a+c<=b+c):a<=b:=Nat.le_of_add_le_add_right h
theorem te(h:a=b):a<=b:=Yd h
theorem gM(h:b=a):a<=b:=Yd h.symm
theorem CC:a<=max a b:=Nat.le_max_left ..
theorem CD:b<=max a b:=Nat.le_max_right ..
theorem pq(h:b+c<a):a≠b:=by lia
theorem nO(h:b<c)(k:c<=a):a≠b:=by lia
theorem CB(h:c<a):a+b≠c:=by lia
theorem jb(h:a+(c+1)<=b):a<b:=by lia
theorem vo(h:2*a<=b):a<=b:=by lia
theorem ya(h:a<=c)(k:b<=c):a+b<=2*c:=by lia
theorem bP(h:a<=m)(d:Nat.ble m n=true):a<=n:=Xs h (YI d)
theorem j4(h:a<m)(d:Nat.ble m n=true):a<=n:=Xs (Yj h) (YI d)
theorem ja(h:a<=m)(d:Nat.ble (m+k) n=true):a+k<=n:=Xs (YS h k) (YI d)
theorem qU(h:a<=m)(d:Nat.ble (m+k) n=true):k+a<=n:=Nat.add_comm a k▸Xs (YS h k) (YI d)
theorem kQ(h:a<m)(d:Nat.ble m n=true):a≠n:=λe=>by have:=YI d;lia
theorem qV(d:Nat.ble 1 m=true):a+m≠a:=λe=>by have:=YI d;lia
theorem yb(d:Nat.ble 1 m=true):a≠a+m:=λe=>by have:=YI d;lia
theorem nM(d:Nat.beq m n=false):a+m≠a+n:=λe=>by have:=Nat.ne_of_beq_eq_false d;lia
theorem nN(h:b+m<a)(d:Nat.ble n m=true):a≠b+n:=λe=>by have:=YI d;lia
theorem vq(h:b+m<=a)(d:Nat.ble n m=true):b+n<=a:=by have:=YI d;lia
theorem Jn(h:b<=a+m)(d:Nat.ble m n=true):b<=a+n:=by have:=YI d;lia
theorem Cz(d:Nat.ble m n=true):a+m<=a+n:=by have:=YI d;lia
theorem Jo(d:Nat.ble (m+1) n=true):¬(a+n<=m):=by have:=YI d;lia
theorem Jq(h:a<=b):((a:Nat):Int)<=((b:Nat):Int):=Int.ofNat_le.mpr h
theorem mE(h:a<b):((a:Nat):Int)<((b:Nat):Int):=Int.ofNat_lt.mpr h
theorem th(h:¬(a=b)):¬(((a:Nat):Int)=((b:Nat):Int)):=by lia
theorem yc(h:¬(a<=b)):¬(((a:Nat):Int)<=((b:Nat):Int)):=by lia
theorem qW:((a+1:Nat):Int)-1=((a:Nat):Int):=by lia
theorem vx:-1000000000000<=((a:Nat):Int):=by lia
theorem nP{x:Int}:x<=((a:Nat):Int)+x:=by lia
theorem vl:a+(b+c)=a+b+c:=(Nat.add_assoc a b c).symm
theorem x4:a+b+c=a+(c+b):=by lia
theorem Jk:¬(a+b<b):=by lia
theorem qI{a b:Prop}(h:a)(k:b):a/\b:=⟨h,k⟩
theorem Cu{p:Prop}(h:a<b)(k:b<=a):p:=absurd h (Zj k)
theorem Cv{p:Prop}(h:a<b)(k:a=b):p:=absurd k (XQ h)
theorem vm(h:a<=b):a+1<=b+1:=YD h
theorem pj(h:a<=b)(k:c+m+b<=d)(z:Nat.ble 1 m=true):a+1<=d:=by have:=YI z;lia
theorem x7(h:a<=b)(k:b+c+m<=d)(z:Nat.ble 1 m=true):a+1<=d:=by have:=YI z;lia
theorem x8(h:a<=b)(d:Nat.ble m n=true):a+m<=b+n:=Za h (YI d)
theorem vn(h:b=a+c):a<=b:=by lia
theorem qS(h:b=c+a):a<=b:=by lia
theorem i9(h:a<c)(k:b=c+m):a<b:=by lia
theorem qG1(h:d<=a):a+b+c-d=a-d+b+c:=by rw[Nat.add_assoc,Nat.sub_add_comm h,Nat.add_assoc]
theorem qG2{p:Prop}(h:a<b∨b+c<a)(k:b=a):p:=h.elim (λh=>absurd k (Y3 h)) λh=>absurd k (XQ (YH (XS b c) h))
theorem qG3(h:a<c∨d<a)(k:b<e)(l:¬(a+1+(c-(a+1))=c/\c-(a+1)<e)):a+1+b<c∨d<a+1+b:=h.elim (λh=>have e:a+1+(c-(a+1))=c:=Nat.add_sub_cancel' h;.inl (XJ (Nat.add_lt_add_left (XJ k (Nat.not_lt.mp λq=>l ⟨e,q⟩)) (a+1)) (Yd e))) λh=>.inr (XJ h (Xs (Yp a) (XS (a+1) b)))
theorem qG4(h:a≠b)(l:¬(b+1+(a-(b+1))=a/\a-(b+1)<c)):a<b∨b+c<a:=(Nat.lt_or_gt_of_ne h).imp id λh=>have e:b+1+(a-(b+1))=a:=Nat.add_sub_cancel' h;XJ (XJ (Nat.add_lt_add_right (Zi b) c) (YC (Nat.not_lt.mp λq=>l ⟨e,q⟩) (b+1))) (Yd e)
theorem qG5(hb:b=c∨b=d∨b=a∨b=e)(s5:c=d+f)(s4:d=g+f)(s2:e=a+f)(s3:g=e+f):a<=b:=have h1:a<=e:=s2▸XS ..;have h2:a<=g:=Xs h1 (s3▸XS ..);have h3:a<=d:=Xs h2 (s4▸XS ..);have h4:a<=c:=Xs h3 (s5▸XS ..);hb.elim (λh=>h▸h4) λh=>h.elim (λh=>h▸h3) λh=>h.elim (λh=>Yd h.symm) λh=>h▸h1
theorem qG6(h:a-b<=d+c):a-(b+c)<=d:=Nat.sub_add_eq a b c▸Nat.sub_le_of_le_add h
theorem qG7(h:b<=c)(k:c-a<=0):¬(((a:Nat):Int)<((b:Nat):Int)):=λq=>absurd (Int.ofNat_lt.mp q) (Zj (Xs h (Nat.le_of_sub_eq_zero (Nat.le_zero.mp k))))
theorem qG8:Int.toNat (((a:Nat):Int)-((a:Nat):Int)%2)=a-a%2:=Int.toNat_sub a (a%2)
theorem qG9(h:a<=b-1)(k:b=c+1):a<b:=by subst k;exact Nat.lt_succ_of_le h
theorem qGa(h:a<b):a<=b-1:=Nat.le_sub_one_of_lt h
theorem qGb(h:a=min a b):0+a<=b:=Xs (Yd (Nat.zero_add a)) (Xs (Yd h) (Nat.min_le_right a b))
theorem qGc(h:a<c)(k:c+2<b):a<b/\c+1<b/\c+2<b:=⟨Nat.lt_trans h (YH (XS c 2) k),Nat.lt_of_succ_lt k,k⟩
theorem qGd(h:a<=b/\e<=f):a<=max b c+d/\e<=f+g+i:=⟨Xs h.1 (Xs (Nat.le_max_left ..) (XS ..)),Xs h.2 (Xs (XS ..) (XS ..))⟩
theorem qGe:a+b<=max c a+b/\d<=e+d+f:=⟨YS (Nat.le_max_right ..) b,Xs (YQ ..) (XS ..)⟩
theorem qGf(h:a<=b):a<=max b c+d:=Xs h (Xs (Nat.le_max_left ..) (XS ..))
theorem qGg(h:a<=2)(k:b<=2):max a (max b 0)+1<=4:=YD (Xs (Nat.max_le.mpr ⟨h,Nat.max_le.mpr ⟨k,Xw 2⟩⟩) (Yp 2))
theorem qGh(h:a<=c∨b<=c):min a b<=c:=h.elim (Xs (Zw ..)) (Xs (Nat.min_le_right ..))
theorem qGi{x:Int}(h:¬(x=0)):Int.natAbs x≠0:=Int.natAbs_ne_zero.mpr h
theorem qGj(h:¬(a=b)):min a b<max a b:=(Nat.lt_or_gt_of_ne h).elim (λh=>by rw[Nat.min_eq_left (Yj h),Nat.max_eq_right (Yj h)];exact h) λh=>by rw[Nat.min_eq_right (Yj h),Nat.max_eq_left (Yj h)];exact h
theorem qGk(h:b<6):(a*6+b)/6=a:=by rw[Nat.add_comm,Nat.add_mul_div_right _ _ (Zd 5),Nat.div_eq_of_lt h,Nat.zero_add]
theorem qGl(h:b<6):(a*6+b)%6=b:=by rw[Nat.add_comm,Nat.add_mul_mod_self_right,Nat.mod_eq_of_lt h]
theorem qGm{p:Prop}(h:a<=b-d/\p):a+0<=b+c-d:=Xs h.1 (Nat.sub_le_sub_right (XS b c) d)
theorem qGn{p:Prop}(h:a<=c-e/\p)(k:b<=d)(l:e<=c):a+b<=c+d-e:=Nat.sub_add_comm l▸Za h.1 k
theorem qGo(h:a+e<=d)(k:c<=f)(l:e=b+f):a+b+c<=d:=Xs (Nat.add_assoc a b c▸l▸YC (YC k b) a) h
theorem qGp(h:a<=b+d+e)(k:c=d+f)(l:e<=f):a<=b+c:=Xs h (k▸Nat.add_assoc b d e▸YC (YC l d) b)
theorem qGq(h:a<=c+m)(l:c+n<=b)(d:Nat.ble (m+k) n=true):a+k<=b:=Xs (YS h k) (Xs (Nat.add_assoc c m k▸YC (YI d) c) l)
theorem qGu:a<=a-b+b:=Nat.sub_le_iff_le_add.mp (Xx _)
theorem qGv:a+a*b=a*(b+1):=(Nat.add_comm ..).trans (Nat.mul_succ a b).symm
theorem Jl{x b c:Nat}(h:x<=2*(c+b)):max 0 (max x 0)+b<=2*(c+b)+b:=by rw[Nat.zero_max,Nat.max_zero];exact YS h b
theorem Jm{x b c:Nat}(h:x<=2*(c+b)):max 0 (max 0 (max x 0))+b<=2*(c+b)+b:=by rw[Nat.zero_max,Nat.zero_max,Nat.max_zero];exact YS h b
theorem qGy(h:a<=d)(k:c<=e+b):max (max 0 (max a 0)+b) c<=max d e+b:=by rw[Nat.zero_max,Nat.max_zero];exact Nat.max_le.mpr ⟨YS (Xs h (Nat.le_max_left ..)) b,Xs k (YS (Nat.le_max_right ..) b)⟩
theorem qGz(h:c+b<=a):a=a-b+b:=(Nat.sub_add_cancel (Xs (YQ ..) h)).symm
theorem Jr{x y:Int}:x+y-1=x-1+1*y:=by lia
theorem Js{x y:Int}(h1:y<x):0<=x-y-1:=by lia
theorem JC{x y:Int}(h1:¬(y<x)):x-y-1<0:=by lia
theorem JK(h1:a<c)(h2:b=d+e)(h3:d=f+e)(h4:f=g+e)(h5:g=c+e):a<b:=by lia
theorem JL(h1:c+a+d<=e)(h2:f+e<=b):a<=b:=by lia
theorem JM(h1:a<=c)(h2:d+40+c<=b):a+1<b:=by lia
theorem JN(h1:a<=c)(h2:c+d+10<=b):a+1+1<=b:=by lia
theorem JO(h1:a+2*(e+b+c+(e+b))+2<=d):a+b+2*c+2<=d:=by lia
theorem JP(h1:a=c)(h2:c<=d)(h3:e+d<=b):a<=b:=by lia
theorem JQ:a+(0+b)=a+b:=by lia
theorem Jt:a+(0+(b+0))+0=a+b:=by lia
theorem Ju:a+(0+(0+b))+0=a+b:=by lia
theorem Jv{x y:Int}(h1:y<x):x≠y:=by lia
theorem Jw(h1:b+1+a<=2):a=0∨a=1:=by lia
theorem Jx(h1:a<=c)(h2:b<=c):max a (max b 0)<=c:=by lia
theorem Jy(h1:a<=b+d+c):a<=b+(c+d):=by lia
theorem Jz(h1:a+(d+2*b+e)<=c):a+b<=c:=by lia
theorem yd(h1:a+(5+b+c)<=d):a+1+(4+b+c)<=d:=by lia
theorem JA(h1:a<=e+f)(h2:e+b<=c)(h3:f<=d):a+b<=c+d:=by lia
theorem JB(h1:a<=e+f)(h2:e<=c)(h3:f+b<=d):a+b<=c+d:=by lia
theorem JD(h1:a+d<=c)(h2:d=b+e):a+b<=c:=by lia
theorem JE(h1:a<=d+e)(h2:d+(b+e)<=c):a+b<=c:=by lia
theorem JF(h1:a<=b/\b<=c):a<=b+0/\b+0<=2*c:=by lia
theorem JG:a=b∨a=a∨a=c∨d<=a:=by lia
theorem JH(h1:a<=c)(h2:b=d)(h3:d=c):a<=b:=by lia
theorem JI(h1:a<=b):a<=2*(5*b):=by lia
theorem CE(h1:a+c<=d)(h2:d<b+c):a<b:=by lia
theorem JJ:a+b+1+3=a+4+b:=by lia
end
section
variable{G:Prop}{α β γ δ ε:Sort _}
theorem ba{A B:Prop}(h:A/\B)(k:A->B->G):G:=k h.1 h.2
theorem cO{A B C:Prop}(h:A/\B/\C)(k:A->B->C->G):G:=k h.1 h.2.1 h.2.2
theorem kN{A B C D:Prop}(h:A/\B/\C/\D)(k:A->B->C->D->G):G:=k h.1 h.2.1 h.2.2.1 h.2.2.2
theorem sV{A B C D E:Prop}(h:A/\B/\C/\D/\E)(k:A->B->C->D->E->G):G:=k h.1 h.2.1 h.2.2.1 h.2.2.2.1 h.2.2.2.2
theorem xS{A B C D E F:Prop}(h:A/\B/\C/\D/\E/\F)(k:A->B->C->D->E->F->G):G:=k h.1 h.2.1 h.2.2.1 h.2.2.2.1 h.2.2.2.2.1 h.2.2.2.2.2
theorem RJ{A B C D E F H:Prop}(h:A/\B/\C/\D/\E/\F/\H)(k:A->B->C->D->E->F->H->G):G:=k h.1 h.2.1 h.2.2.1 h.2.2.2.1 h.2.2.2.2.1 h.2.2.2.2.2.1 h.2.2.2.2.2.2
theorem aT{A:α->Prop}(h:∃x,A x)(k:∀x,A x->G):G:=h.elim λx h=>k x h
theorem az{A B:α->Prop}(h:∃x,A x/\B x)(k:∀x,A x->B x->G):G:=h.elim λx h=>k x h.1 h.2
theorem c8{A B C:α->Prop}(h:∃x,A x/\B x/\C x)(k:∀x,A x->B x->C x->G):G:=h.elim λx h=>k x h.1 h.2.1 h.2.2
theorem hX{A B C D:α->Prop}(h:∃x,A x/\B x/\C x/\D x)(k:∀x,A x->B x->C x->D x->G):G:=h.elim λx h=>k x h.1 h.2.1 h.2.2.1 h.2.2.2
theorem u8{A B C D E:α->Prop}(h:∃x,A x/\B x/\C x/\D x/\E x)(k:∀x,A x->B x->C x->D x->E x->G):G:=h.elim λx h=>k x h.1 h.2.1 h.2.2.1 h.2.2.2.1 h.2.2.2.2
theorem RK{A B C D E F H:α->Prop}(h:∃x,A x/\B x/\C x/\D x/\E x/\F x/\H x)(k:∀x,A x->B x->C x->D x->E x->F x->H x->G):G:=h.elim λx h=>k x h.1 h.2.1 h.2.2.1 h.2.2.2.1 h.2.2.2.2.1 h.2.2.2.2.2.1 h.2.2.2.2.2.2
theorem Ir{A:α->β->Prop}(h:∃x y,A x y)(k:∀x y,A x y->G):G:=h.elim λx h=>h.elim λy h=>k x y h
theorem dY{A B:α->β->Prop}(h:∃x y,A x y/\B x y)(k:∀x y,A x y->B x y->G):G:=h.elim λx h=>h.elim λy h=>k x y h.1 h.2
theorem cP{A B C:α->β->Prop}(h:∃x y,A x y/\B x y/\C x y)(k:∀x y,A x y->B x y->C x y->G):G:=h.elim λx h=>h.elim λy h=>k x y h.1 h.2.1 h.2.2
theorem dk{A B C D:α->β->Prop}(h:∃x y,A x y/\B x y/\C x y/\D x y)(k:∀x y,A x y->B x y->C x y->D x y->G):G:=h.elim λx h=>h.elim λy h=>k x y h.1 h.2.1 h.2.2.1 h.2.2.2
theorem i8{A B C D E:α->β->Prop}(h:∃x y,A x y/\B x y/\C x y/\D x y/\E x y)(k:∀x y,A x y->B x y->C x y->D x y->E x y->G):G:=h.elim λx h=>h.elim λy h=>k x y h.1 h.2.1 h.2.2.1 h.2.2.2.1 h.2.2.2.2
theorem RM{A B C D E F H:α->β->Prop}(h:∃x y,A x y/\B x y/\C x y/\D x y/\E x y/\F x y/\H x y)(k:∀x y,A x y->B x y->C x y->D x y->E x y->F x y->H x y->G):G:=h.elim λx h=>h.elim λy h=>k x y h.1 h.2.1 h.2.2.1 h.2.2.2.1 h.2.2.2.2.1 h.2.2.2.2.2.1 h.2.2.2.2.2.2
theorem Iu{A B C D E F H I:α->β->Prop}(h:∃x y,A x y/\B x y/\C x y/\D x y/\E x y/\F x y/\H x y/\I x y)(k:∀x y,A x y->B x y->C x y->D x y->E x y->F x y->H x y->I x y->G):G:=h.elim λx h=>h.elim λy h=>k x y h.1 h.2.1 h.2.2.1 h.2.2.2.1 h.2.2.2.2.1 h.2.2.2.2.2.1 h.2.2.2.2.2.2.1 h.2.2.2.2.2.2.2
theorem sW{A B:α->β->γ->Prop}(h:∃x y z,A x y z/\B x y z)(k:∀x y z,A x y z->B x y z->G):G:=h.elim λx h=>h.elim λy h=>h.elim λz h=>k x y z h.1 h.2
theorem nC{A B C:α->β->γ->Prop}(h:∃x y z,A x y z/\B x y z/\C x y z)(k:∀x y z,A x y z->B x y z->C x y z->G):G:=h.elim λx h=>h.elim λy h=>h.elim λz h=>k x y z h.1 h.2.1 h.2.2
theorem u9{A B C D:α->β->γ->Prop}(h:∃x y z,A x y z/\B x y z/\C x y z/\D x y z)(k:∀x y z,A x y z->B x y z->C x y z->D x y z->G):G:=h.elim λx h=>h.elim λy h=>h.elim λz h=>k x y z h.1 h.2.1 h.2.2.1 h.2.2.2
theorem B7{A B C D E:α->β->γ->Prop}(h:∃x y z,A x y z/\B x y z/\C x y z/\D x y z/\E x y z)(k:∀x y z,A x y z->B x y z->C x y z->D x y z->E x y z->G):G:=h.elim λx h=>h.elim λy h=>h.elim λz h=>k x y z h.1 h.2.1 h.2.2.1 h.2.2.2.1 h.2.2.2.2
theorem vc{A B C D E F:α->β->γ->Prop}(h:∃x y z,A x y z/\B x y z/\C x y z/\D x y z/\E x y z/\F x y z)(k:∀x y z,A x y z->B x y z->C x y z->D x y z->E x y z->F x y z->G):G:=h.elim λx h=>h.elim λy h=>h.elim λz h=>k x y z h.1 h.2.1 h.2.2.1 h.2.2.2.1 h.2.2.2.2.1 h.2.2.2.2.2
theorem vd{A B C D E F H:α->β->γ->Prop}(h:∃x y z,A x y z/\B x y z/\C x y z/\D x y z/\E x y z/\F x y z/\H x y z)(k:∀x y z,A x y z->B x y z->C x y z->D x y z->E x y z->F x y z->H x y z->G):G:=h.elim λx h=>h.elim λy h=>h.elim λz h=>k x y z h.1 h.2.1 h.2.2.1 h.2.2.2.1 h.2.2.2.2.1 h.2.2.2.2.2.1 h.2.2.2.2.2.2
theorem B9{A B C D E F H I:α->β->γ->Prop}(h:∃x y z,A x y z/\B x y z/\C x y z/\D x y z/\E x y z/\F x y z/\H x y z/\I x y z)(k:∀x y z,A x y z->B x y z->C x y z->D x y z->E x y z->F x y z->H x y z->I x y z->G):G:=h.elim λx h=>h.elim λy h=>h.elim λz h=>k x y z h.1 h.2.1 h.2.2.1 h.2.2.2.1 h.2.2.2.2.1 h.2.2.2.2.2.1 h.2.2.2.2.2.2.1 h.2.2.2.2.2.2.2
theorem Iv{A B C D E F H I J:α->β->γ->Prop}(h:∃x y z,A x y z/\B x y z/\C x y z/\D x y z/\E x y z/\F x y z/\H x y z/\I x y z/\J x y z)(k:∀x y z,A x y z->B x y z->C x y z->D x y z->E x y z->F x y z->H x y z->I x y z->J x y z->G):G:=h.elim λx h=>h.elim λy h=>h.elim λz h=>k x y z h.1 h.2.1 h.2.2.1 h.2.2.2.1 h.2.2.2.2.1 h.2.2.2.2.2.1 h.2.2.2.2.2.2.1 h.2.2.2.2.2.2.2.1 h.2.2.2.2.2.2.2.2
theorem pb{A B C D:α->β->γ->δ->Prop}(h:∃x y z u,A x y z u/\B x y z u/\C x y z u/\D x y z u)(k:∀x y z u,A x y z u->B x y z u->C x y z u->D x y z u->G):G:=h.elim λx h=>h.elim λy h=>h.elim λz h=>h.elim λu h=>k x y z u h.1 h.2.1 h.2.2.1 h.2.2.2
theorem Ca{A B C D E F H I:α->β->γ->δ->Prop}(h:∃x y z u,A x y z u/\B x y z u/\C x y z u/\D x y z u/\E x y z u/\F x y z u/\H x y z u/\I x y z u)(k:∀x y z u,A x y z u->B x y z u->C x y z u->D x y z u->E x y z u->F x y z u->H x y z u->I x y z u->G):G:=h.elim λx h=>h.elim λy h=>h.elim λz h=>h.elim λu h=>k x y z u h.1 h.2.1 h.2.2.1 h.2.2.2.1 h.2.2.2.2.1 h.2.2.2.2.2.1 h.2.2.2.2.2.2.1 h.2.2.2.2.2.2.2
theorem Ix{A B C D E F H I J:α->β->γ->δ->Prop}(h:∃x y z u,A x y z u/\B x y z u/\C x y z u/\D x y z u/\E x y z u/\F x y z u/\H x y z u/\I x y z u/\J x y z u)(k:∀x y z u,A x y z u->B x y z u->C x y z u->D x y z u->E x y z u->F x y z u->H x y z u->I x y z u->J x y z u->G):G:=h.elim λx h=>h.elim λy h=>h.elim λz h=>h.elim λu h=>k x y z u h.1 h.2.1 h.2.2.1 h.2.2.2.1 h.2.2.2.2.1 h.2.2.2.2.2.1 h.2.2.2.2.2.2.1 h.2.2.2.2.2.2.2.1 h.2.2.2.2.2.2.2.2
theorem ve{A B C D E:α->β->γ->δ->ε->Prop}(h:∃x y z u v,A x y z u v/\B x y z u v/\C x y z u v/\D x y z u v/\E x y z u v)(k:∀x y z u v,A x y z u v->B x y z u v->C x y z u v->D x y z u v->E x y z u v->G):G:=h.elim λx h=>h.elim λy h=>h.elim λz h=>h.elim λu h=>h.elim λv h=>k x y z u v h.1 h.2.1 h.2.2.1 h.2.2.2.1 h.2.2.2.2
theorem Ig{A:α->β->γ->Prop}(x:α)(y:β)(z:γ)(aa:A x y z):∃x y z,A x y z:=⟨x,y,z,aa⟩
theorem BQ{A B C:α->β->γ->Prop}(x:α)(y:β)(z:γ)(aa:A x y z)(bb:B x y z)(cc:C x y z):∃x y z,A x y z/\B x y z/\C x y z:=⟨x,y,z,aa,bb,cc⟩
theorem bm{A B:Prop}(aa:A)(bb:B):A/\B:=⟨aa,bb⟩
theorem fA{A B C:Prop}(aa:A)(bb:B)(cc:C):A/\B/\C:=⟨aa,bb,cc⟩
theorem Ie{A B C D:Prop}(aa:A)(bb:B)(cc:C)(dd:D):A/\B/\C/\D:=⟨aa,bb,cc,dd⟩
theorem BN{A B C D E:Prop}(aa:A)(bb:B)(cc:C)(dd:D)(ee:E):A/\B/\C/\D/\E:=⟨aa,bb,cc,dd,ee⟩
theorem fB{A:α->Prop}(x:α)(aa:A x):∃x,A x:=⟨x,aa⟩
theorem aC{A B:α->Prop}(x:α)(aa:A x)(bb:B x):∃x,A x/\B x:=⟨x,aa,bb⟩
theorem dK{A B C:α->Prop}(x:α)(aa:A x)(bb:B x)(cc:C x):∃x,A x/\B x/\C x:=⟨x,aa,bb,cc⟩
theorem eX{A B C D:α->Prop}(x:α)(aa:A x)(bb:B x)(cc:C x)(dd:D x):∃x,A x/\B x/\C x/\D x:=⟨x,aa,bb,cc,dd⟩
theorem u5{A B C D E:α->Prop}(x:α)(aa:A x)(bb:B x)(cc:C x)(dd:D x)(ee:E x):∃x,A x/\B x/\C x/\D x/\E x:=⟨x,aa,bb,cc,dd,ee⟩
theorem xL{A:α->β->Prop}(x:α)(y:β)(aa:A x y):∃x y,A x y:=⟨x,y,aa⟩
theorem eE{A B:α->β->Prop}(x:α)(y:β)(aa:A x y)(bb:B x y):∃x y,A x y/\B x y:=⟨x,y,aa,bb⟩
theorem dN{A B C:α->β->Prop}(x:α)(y:β)(aa:A x y)(bb:B x y)(cc:C x y):∃x y,A x y/\B x y/\C x y:=⟨x,y,aa,bb,cc⟩
theorem di{A B C D:α->β->Prop}(x:α)(y:β)(aa:A x y)(bb:B x y)(cc:C x y)(dd:D x y):∃x y,A x y/\B x y/\C x y/\D x y:=⟨x,y,aa,bb,cc,dd⟩
theorem iu{A B C D E:α->β->Prop}(x:α)(y:β)(aa:A x y)(bb:B x y)(cc:C x y)(dd:D x y)(ee:E x y):∃x y,A x y/\B x y/\C x y/\D x y/\E x y:=⟨x,y,aa,bb,cc,dd,ee⟩
theorem Rl{A B C D E F H:α->β->Prop}(x:α)(y:β)(aa:A x y)(bb:B x y)(cc:C x y)(dd:D x y)(ee:E x y)(ff:F x y)(hh:H x y):∃x y,A x y/\B x y/\C x y/\D x y/\E x y/\F x y/\H x y:=⟨x,y,aa,bb,cc,dd,ee,ff,hh⟩
theorem BP{A B C D E F H I:α->β->Prop}(x:α)(y:β)(aa:A x y)(bb:B x y)(cc:C x y)(dd:D x y)(ee:E x y)(ff:F x y)(hh:H x y)(ii:I x y):∃x y,A x y/\B x y/\C x y/\D x y/\E x y/\F x y/\H x y/\I x y:=⟨x,y,aa,bb,cc,dd,ee,ff,hh,ii⟩
theorem BR{A B C D:α->β->γ->Prop}(x:α)(y:β)(z:γ)(aa:A x y z)(bb:B x y z)(cc:C x y z)(dd:D x y z):∃x y z,A x y z/\B x y z/\C x y z/\D x y z:=⟨x,y,z,aa,bb,cc,dd⟩
theorem xM{A B C D E:α->β->γ->Prop}(x:α)(y:β)(z:γ)(aa:A x y z)(bb:B x y z)(cc:C x y z)(dd:D x y z)(ee:E x y z):∃x y z,A x y z/\B x y z/\C x y z/\D x y z/\E x y z:=⟨x,y,z,aa,bb,cc,dd,ee⟩
theorem xN{A B C D E F:α->β->γ->Prop}(x:α)(y:β)(z:γ)(aa:A x y z)(bb:B x y z)(cc:C x y z)(dd:D x y z)(ee:E x y z)(ff:F x y z):∃x y z,A x y z/\B x y z/\C x y z/\D x y z/\E x y z/\F x y z:=⟨x,y,z,aa,bb,cc,dd,ee,ff⟩
theorem qH{A B C D E F H:α->β->γ->Prop}(x:α)(y:β)(z:γ)(aa:A x y z)(bb:B x y z)(cc:C x y z)(dd:D x y z)(ee:E x y z)(ff:F x y z)(hh:H x y z):∃x y z,A x y z/\B x y z/\C x y z/\D x y z/\E x y z/\F x y z/\H x y z:=⟨x,y,z,aa,bb,cc,dd,ee,ff,hh⟩
theorem BS{A B C D E F H I:α->β->γ->Prop}(x:α)(y:β)(z:γ)(aa:A x y z)(bb:B x y z)(cc:C x y z)(dd:D x y z)(ee:E x y z)(ff:F x y z)(hh:H x y z)(ii:I x y z):∃x y z,A x y z/\B x y z/\C x y z/\D x y z/\E x y z/\F x y z/\H x y z/\I x y z:=⟨x,y,z,aa,bb,cc,dd,ee,ff,hh,ii⟩
theorem Ih{A B C D E F H I J:α->β->γ->Prop}(x:α)(y:β)(z:γ)(aa:A x y z)(bb:B x y z)(cc:C x y z)(dd:D x y z)(ee:E x y z)(ff:F x y z)(hh:H x y z)(ii:I x y z)(jj:J x y z):∃x y z,A x y z/\B x y z/\C x y z/\D x y z/\E x y z/\F x y z/\H x y z/\I x y z/\J x y z:=⟨x,y,z,aa,bb,cc,dd,ee,ff,hh,ii,jj⟩
theorem kL{A B C D:α->β->γ->δ->Prop}(x:α)(y:β)(z:γ)(u:δ)(aa:A x y z u)(bb:B x y z u)(cc:C x y z u)(dd:D x y z u):∃x y z u,A x y z u/\B x y z u/\C x y z u/\D x y z u:=⟨x,y,z,u,aa,bb,cc,dd⟩
theorem BU{A B C D E F H I:α->β->γ->δ->Prop}(x:α)(y:β)(z:γ)(u:δ)(aa:A x y z u)(bb:B x y z u)(cc:C x y z u)(dd:D x y z u)(ee:E x y z u)(ff:F x y z u)(hh:H x y z u)(ii:I x y z u):∃x y z u,A x y z u/\B x y z u/\C x y z u/\D x y z u/\E x y z u/\F x y z u/\H x y z u/\I x y z u:=⟨x,y,z,u,aa,bb,cc,dd,ee,ff,hh,ii⟩
theorem BV{A B C D E F H I J:α->β->γ->δ->Prop}(x:α)(y:β)(z:γ)(u:δ)(aa:A x y z u)(bb:B x y z u)(cc:C x y z u)(dd:D x y z u)(ee:E x y z u)(ff:F x y z u)(hh:H x y z u)(ii:I x y z u)(jj:J x y z u):∃x y z u,A x y z u/\B x y z u/\C x y z u/\D x y z u/\E x y z u/\F x y z u/\H x y z u/\I x y z u/\J x y z u:=⟨x,y,z,u,aa,bb,cc,dd,ee,ff,hh,ii,jj⟩
theorem BW{A B C D E:α->β->γ->δ->ε->Prop}(x:α)(y:β)(z:γ)(u:δ)(v:ε)(aa:A x y z u v)(bb:B x y z u v)(cc:C x y z u v)(dd:D x y z u v)(ee:E x y z u v):∃x y z u v,A x y z u v/\B x y z u v/\C x y z u v/\D x y z u v/\E x y z u v:=⟨x,y,z,u,v,aa,bb,cc,dd,ee⟩
end
section
open PySem PySem.W PyProof.Rows PySem.Calls
theorem bN{α:Type}{a:α}{p:Prop}(h:none=some a):p:=by cases h
theorem bE{p:Prop}(h:false=true):p:=absurd h YE
variable {α β γ δ ε ζ η θ ι κ μ:Sort _}
noncomputable abbrev cv(_:α):Bool:=false
noncomputable abbrev aB(_:α)(_:β):Bool:=false
noncomputable abbrev aw(_:α)(_:β)(_:γ):Bool:=false
noncomputable abbrev ay(_:α)(_:β)(_:γ)(_:δ):Bool:=false
noncomputable abbrev cB(_:α)(_:β)(_:γ)(_:δ)(_:ε):Bool:=false
noncomputable abbrev sD(_:α)(_:β)(_:γ)(_:δ)(_:ε)(_:ζ)(_:η):Bool:=false
noncomputable abbrev kI(_:α)(_:β)(_:γ)(_:δ)(_:ε)(_:ζ)(_:η)(_:θ)(_:ι)(_:κ):Bool:=false
noncomputable abbrev sC(_:α)(_:β)(_:γ)(_:δ)(_:ε)(_:ζ)(_:η)(_:θ)(_:ι)(_:κ)(_:μ):Bool:=false
theorem dj{P:α->Prop}(a:α)(h:false=true):P a:=bE h
theorem aO{P:α->β->Prop}(a:α)(b:β)(h:false=true):P a b:=bE h
theorem aH{P:α->β->γ->Prop}(a:α)(b:β)(c:γ)(h:false=true):P a b c:=bE h
theorem aG{P:α->β->γ->δ->Prop}(a:α)(b:β)(c:γ)(d:δ)(h:false=true):P a b c d:=bE h
theorem cN{P:α->β->γ->δ->ε->Prop}(a:α)(b:β)(c:γ)(d:δ)(e:ε)(h:false=true):P a b c d e:=bE h
theorem sT{P:α->β->γ->δ->ε->ζ->η->Prop}(a:α)(b:β)(c:γ)(d:δ)(e:ε)(f:ζ)(g:η)(h:false=true):P a b c d e f g:=bE h
theorem kM{P:α->β->γ->δ->ε->ζ->η->θ->ι->κ->Prop}(a:α)(b:β)(c:γ)(d:δ)(e:ε)(f:ζ)(g:η)(i:θ)(j:ι)(k:κ)(h:false=true):P a b c d e f g i j k:=bE h
theorem sS{P:α->β->γ->δ->ε->ζ->η->θ->ι->κ->μ->Prop}(a:α)(b:β)(c:γ)(d:δ)(e:ε)(f:ζ)(g:η)(i:θ)(j:ι)(k:κ)(l:μ)(h:false=true):P a b c d e f g i j k l:=bE h
inductive V where
 |n
 |b (b:Bool)
 |i (i:Int)
 |s (s:List Nat)
 |t (xs:List V)
 |r (a:Nat)
 |o (c a:Nat)
 |f (xs:List V)
noncomputable abbrev KV:=Sum (List Nat) Int
inductive O where
 |l (xs:List V)
 |d (es:List (Int×V))
 |s (es:List (List Nat×V))
 |t (es:List (List KV×V))
 |a (c:Nat) (fs:List (Nat×V))
 |i (xs:List V)
 |u
noncomputable abbrev aj:=List O
noncomputable abbrev aA:=Nat->Option V
inductive pC where |e |n |l |a |g |s |i |o
inductive tG where |a |s |u |f |m
inductive DK where |i |s |t
noncomputable def DK.Lb(k:DK):Bool:=match k with | .t=>true |_=>false
inductive Bl where
 |l |t |s |o |r |i |b |a |m |c |S |z
set_option genCtorIdx false in
mutual
inductive Ex where
 |v (i:Nat)
 |c (v:V)
 |h (k:Nat)
 |f (c a b:Ex)
 |p (op:pC) (a b:Ex)
 |q (op1 op2:pC) (a b c:Ex)
 |n (xs:List Ex)
 |r (xs:List Ex)
 |j (a:Ex)
 |i (op:tG) (a b:Ex)
 |l (k:Nat) (args:List Ex)
 |w (c:Nat) (args:List Ex)
 |b (b:Bl) (args:List Ex)
 |m (nm:Nat) (o:Ex) (args:List Ex)
 |a (nm:Nat) (o:Ex)
 |s (o i:Ex)
 |e (o:Ex) (lo hi:Option Ex)
 |k (o:Ex)
 |t (es:List Ex)
 |d (es:List Ex)
 |g (k:DK) (kvs:List (Ex×Ex))
 |o (elt:Ex) (gens:List jo)
inductive jo where
 |m (tg:Tg) (it:It) (ifs:List Ex)
inductive It where
 |e (e:Ex)
 |r (args:List Ex)
 |n (e:Ex)
inductive Tg where
 |v (i:Nat)
 |t (ts:List Tg)
 |a (nm:Nat) (o:Ex)
 |s (o i:Ex)
end
set_option genCtorIdx false in
inductive St where
 |a (t:Tg) (e:Ex)
 |e (e:Ex)
 |i (c:Ex) (a b:List St)
 |w (c:Ex) (b:List St)
 |l (t:Tg) (it:It) (b:List St)
 |r (e:Ex)
 |s
set_option genCtorIdx false in
inductive Fl where
 |n
 |r (v:V)
noncomputable def CM{α:Type}(b:V)(i:Int->Option α)(s:List Nat->Option α)(t:List V->Option α):Option α:=
 match b with
 | .i b=>i b
 | .s b=>s b
 | .t b=>t b
 |_=>Option.none
noncomputable def vh(a b:Option Bool):Option Bool:=a.bind λa=>b.map λb=>a&&b
noncomputable def J9{α:Type}(b:List V)(n:α)(c:V->List V->α):α:=
 match b with
 | []=>n
 |y::ys=>c y ys
mutual
noncomputable def gY(a b:V):Option Bool:=
 match a with
 | .i a=>CM b (λb=>some (decide (a=b))) (λ_=>some false) λ_=>some false
 | .s a=>CM b (λ_=>some false) (λb=>some (decide (a=b))) λ_=>some false
 | .t a=>CM b (λ_=>some false) (λ_=>some false) (fY a)
 |_=>Option.none
noncomputable def fY(a b:List V):Option Bool:=
 match a with
 | []=>J9 b (some true) λ_ _=>some false
 |x::xs=>J9 b (some false) λy ys=>vh (gY x y) (fY xs ys)
end
noncomputable def qC:V->Option KV
 | .i i=>some (.inr i)
 | .s s=>some (.inl s)
 |_=>Option.none
noncomputable def eW:List V->Option (List KV)
 | []=>some []
 |x::xs=>match qC x,eW xs with
  |some k,some ks=>some (k::ks)
  |_,_=>Option.none
theorem VK:eW []=some []:=rfl
theorem QD{x xs}:eW (x::xs)=match qC x,eW xs with |some k,some ks=>some (k::ks) |_,_=>Option.none:=rfl
theorem Ht{x xs k ks}(h:qC x=some k)(g:eW xs=some ks):eW (x::xs)=some (k::ks):=by rw[QD,h,g]
section
variable {κ:Type}[DecidableEq κ]
noncomputable def cA(es:List (κ×V))(k:κ):Option V:=(es.find? λe=>decide (e.1=k)).map (·.2)
noncomputable def eC(es:List (κ×V))(k:κ)(v:V):List (κ×V):=
 if es.any (λe=>decide (e.1=k))then es.map λe=>if e.1=k then(e.1,v)else e else es++[(k,v)]
noncomputable def sg(es:List (κ×V))(k:κ):List (κ×V):=es.filter λe=>decide (e.1≠k)
end
noncomputable def gZ:List (Nat×V)->Nat->V->List (Nat×V)
 | [],a,v=>[(a,v)]
 |f::fs,a,v=>if f.1=a then(a,v)::fs else f::gZ fs a v
theorem GN{f fs a v}:gZ (f::fs) a v=if f.1=a then(a,v)::fs else f::gZ fs a v:=rfl
noncomputable def fu(o:O)(k:V):Option (Option V):=
 match o,k with
 | .d es,.i i=>some (cA es i)
 | .s es,.s s=>some (cA es s)
 | .t es,.t xs=>(eW xs).map (cA es)
 |_,_=>Option.none
noncomputable def fP(o:O)(k v:V):Option O:=
 match o,k with
 | .d es,.i i=>some (.d (eC es i v))
 | .s es,.s s=>some (.s (eC es s v))
 | .t es,.t xs=>(eW xs).map λks=>.t (eC es ks v)
 |_,_=>Option.none
noncomputable def oT:O->Nat
 | .d es=>es.length
 | .s es=>es.length
 | .t es=>es.length
 |_=>0
noncomputable def aK:Nat:=1000000
noncomputable def gd(p:List Nat):List Nat->Bool
 | []=>p.isEmpty
 |c::r=>p.isPrefixOf (c::r)||gd p r
theorem Hf{p}:gd p []=p.isEmpty:=rfl
theorem Br{p c r}:gd p (c::r)=(p.isPrefixOf (c::r)||gd p r):=rfl
noncomputable def jC:List V->Option (List (List Nat))
 | []=>some []
 | .s s::r=>(jC r).map (s::·)
 |_::_=>Option.none
theorem Kn:jC []=some []:=rfl
theorem CQ{s r}:jC (.s s::r)=(jC r).map (s::·):=rfl
noncomputable def qG(σ:aj)(a:V):Option (List V):=match a with
 | .r i=>match σ[i]? with |some (.l xs)=>some xs |_=>Option.none
 |_=>Option.none
theorem HN{σ i xs}(h:σ[i]? =some (O.l xs)):qG σ (.r i)=some xs:=by unfold qG;dsimp only;rw[h]
variable {κ α β:Type}{ρ:aA}{σ:aj}{A:Around}{μ:List Addr}{c' depth line ep nm kd:Nat}{h' hh h₀ h'':Heap}{e1 e2 sl elt t' a' b' iter:Expr}{μ' μ'' fr μ₀ wr fp μ₂:List Addr}{ov va vb kv vv f0 f1 old:Value}{σ' σ₁ σ₂ σ₃ σ'' τ:aj}{E Q:Value->Shared->Prop}{s' s'' s₀ s₁ s₂:Shared}{x D I B TO i1 i2 TI t1 t2:Addr}{M:Expr->Prop}{o' d':O}{vs us first vals:List Value}{es:List Expr}{pos p':Pos}{led u1:Bool}{env:PySem.Env}{ρ' ρ'':aA}{prog:Program}{K α' β':Type}{ifs:List Ex}{pl:Array Nat}{ns:List Int}{scope:Scope}{A':Around}{tg:Tg}{ks:List (List KV×Addr×Value)}{gens:List Comprehension}{gs:List jo}{fl:Fl}{P:Nat->Prop}{op:tG}{Γ own:List (Str×Nat)}{Pv:Nat->Value->Prop}{o2:CmpOp}{r2:Sem Value}{f2:List Expr->Bool}{ob:Obj}{names:List (Str×NameKind)}{loose:List Str}{ann:Option Value}{as l':List α}{R T:α->β->Prop}{bs:List β}{bl:List St}{kvs:List (K×Value)}
noncomputable def oX(σ:aj)(a b:V):Option Bool:=match qG σ a with
 |some xs=>match qG σ b with |some []=>some xs.isEmpty |_=>Option.none
 |Option.none=>gY a b
noncomputable def w8(f:Int->Int->Bool)(a b:V):Option Bool:=match a with
 | .i x=>match b with | .i y=>some (f x y) |_=>Option.none
 |_=>Option.none
noncomputable def G9(a:V):Option Bool:=match a with
 | .n=>some true
 | .t _=>some false
 | .r _=>some false
 | .s _=>some false
 | .i _=>some false
 |_=>Option.none
noncomputable def xw(σ:aj)(a b:V):Option Bool:=match b with
 | .s s=>match a with | .s p=>some (gd p s) |_=>Option.none
 | .t ys=>match a with | .s p=>(jC ys).map (·.contains p) |_=>Option.none
 | .r j=>(σ[j]?).bind λo=>(fu o a).map (·.isSome)
 |_=>Option.none
noncomputable def gX(σ:aj)(op:pC)(a b:V):Option Bool:=match op with
 | .e=>oX σ a b
 | .n=>(oX σ a b).map (!·)
 | .l=>w8 (λx y=>decide (x < y)) a b
 | .a=>w8 (λx y=>decide (x<=y)) a b
 | .g=>w8 (λx y=>decide (y < x)) a b
 | .s=>match b with | .n=>G9 a |_=>Option.none
 | .i=>xw σ a b
 | .o=>(xw σ a b).map (!·)
mutual
noncomputable def V.dep:V->Nat
 | .t xs=>V.deps xs+1
 |_=>0
noncomputable def V.deps:List V->Nat
 | []=>0
 |x::xs=>max (V.dep x) (V.deps xs)
end
theorem qg{xs}:V.dep (.t xs)=V.deps xs+1:=rfl
theorem qh{s}:V.dep (.s s)=0:=rfl
theorem NX{i}:V.dep (.i i)=0:=rfl
theorem qi:V.deps []=0:=rfl
theorem qj{x xs}:V.deps (x::xs)=max (V.dep x) (V.deps xs):=rfl
noncomputable def dI(op:pC)(a:V):Prop:=
 match op with
 | .e=>a.dep<=1000
 | .n=>a.dep<=1000
 |_=>True
noncomputable def aD(xs:List α):Prop:=xs.length<=aK
noncomputable def bY:Int:=1000000000000
noncomputable def sK(σ:aj):V->Option (List V)
 | .t xs=>some xs
 | .f xs=>some xs
 | .r a=>match σ[a]? with |some (.l xs)=>some xs |_=>Option.none
 |_=>Option.none
theorem Hg{σ i xs}(h:σ[i]? =some (O.l xs)):sK σ (.r i)=some xs:=by unfold sK;dsimp only;rw[h]
noncomputable def jz:List V->Option (List Int)
 | []=>some []
 | .i i::r=>(jz r).map (i::·)
 |_::_=>Option.none
theorem Qj:jz []=some []:=rfl
theorem Qk{i r}:jz (.i i::r)=(jz r).map (i::·):=rfl
noncomputable def nj(x:Int):List Int->List Int
 | []=>[x]
 |y::ys=>if x<=y then x::y::ys else y::nj x ys
theorem xy{x y ys}:nj x (y::ys)=if x<=y then x::y::ys else y::nj x ys:=rfl
theorem gA{x a m:Nat}(h:x<=2*a+1)(k:a<=m):x<=2*m+1:=Xs h (YD (Nat.mul_le_mul_left 2 k))
theorem gB{x a m:Nat}(h:x<=2*a+1)(k:a<=m):x<=2*(m+1):=YV (gA h k)
noncomputable def iP:List Int->List Int
 | []=>[]
 |x::xs=>nj x (iP xs)
theorem Uu{x xs}:iP (x::xs)=nj x (iP xs):=rfl
noncomputable def oS:List Int->List Int
 | []=>[]
 |x::xs=>if x∈oS xs then oS xs else x::oS xs
noncomputable def o8:Int->List Int->Int
 |m,[]=>m
 |m,x::xs=>o8 (if x > m then x else m) xs
noncomputable def cy(sep:List Nat):List (List Nat)->List Nat
 | []=>[]
 | [x]=>x
 |x::xs=>x++sep++cy sep xs
theorem Bv{s}:cy s []=[]:=rfl
theorem oZ{s x}:cy s [x]=x:=rfl
theorem qB{s x y l}:cy s (x::y::l)=x++s++cy s (y::l):=rfl
noncomputable def dz(i:Int):Prop:=-bY<=i/\i<=bY
noncomputable def FM(i:Int):List Nat:=(PySem.Str.ofString (toString i)).cps.toList
noncomputable def dS(i:Int)(n:Nat):Option Nat:=
 if 0<=i then some i.toNat else if 0<=i+n then some (i+n).toNat else Option.none
noncomputable def kJ(c:Nat):Bool:=PySem.Unicode.isSpace c
noncomputable def Rn:Nat:=0
noncomputable def Rp:Nat:=1
noncomputable def Ii:Nat:=2
noncomputable def Rr:Nat:=3
noncomputable def Rv:Nat:=4
noncomputable def Ru:Nat:=5
noncomputable def Ro:Nat:=6
noncomputable def Rw:Nat:=7
noncomputable def Rt:Nat:=8
noncomputable def au(ρ:aA)(i:Nat)(v:V):aA:=λj=>if j=i then some v else ρ j
noncomputable def sE:List (V×V)->O->Option O
 | [],o=>some o
 |p::ps,o=>match fP o p.1 p.2 with
  |some o'=>sE ps o'
  |Option.none=>Option.none
theorem PU{p ps o}:sE (p::ps) o=match fP o p.1 p.2 with |some o'=>sE ps o' |Option.none=>Option.none:=rfl
noncomputable def O7(k:DK)(kvs:List (V×V)):Option O:=sE kvs (match k with | .i=>.d [] | .s=>.s [] | .t=>.t [])
noncomputable def sO:O->Nat
 | .l _=>1
 | .d _=>2
 | .s _=>2
 | .t _=>2
 |_=>0
noncomputable def iw(σ:aj):V->Nat
 | .r a=>(σ[a]?).elim 0 sO
 | .s _=>4
 |_=>0
noncomputable def mj(k nm:Nat):Bool:=
 match k with
 |1=>nm==Rn||nm==Rp||nm==Ii
 |2=>nm==Rr||nm==Rv||nm==Ii
 |4=>nm==Rw||nm==Rt||nm==Ru||nm==Ro
 |_=>false
set_option genCtorIdx false in
inductive eM where
 |bx (items:List V)
 |cr (a:Nat) (items:List V)
 |it (a:Nat) (items:List V)
noncomputable def eM.qd:eM->List V
 | .bx xs=>xs
 | .cr _ xs=>xs
 | .it _ xs=>xs
noncomputable def eM.iG(S:eM)(rest:Option (List V))(σ:aj):aj:=
 match S with
 | .it a _=>match rest with |some r=>σ.set a (.i r) |Option.none=>σ.set a .u
 |_=>σ
noncomputable def eM.Wf(S:eM)(rest:List V)(σ:aj):Prop:=
 match S with
 | .bx _=>True
 | .cr a xs=>σ[a]? =some (.l xs)
 | .it a _=>σ[a]? =some (.i rest)
noncomputable def fM(n:Nat)(t:Tg)(v:V)(ρ:aA):Option aA:=match n with
 |0=>Option.none
 |n+1=>match t with
  | .v i=>some (au ρ i v)
  | .t ts=>match v with
   | .t xs=>go (fM n) ts xs ρ
   |_=>Option.none
  |_=>Option.none
where
 go (f:Tg->V->aA->Option aA) (ts:List Tg) (xs:List V) (ρ:aA):Option aA:=match ts with
  | []=>match xs with | []=>some ρ |_=>Option.none
  |t::ts=>match xs with
   | []=>Option.none
   |x::xs=>(f t x ρ).bind λρ=>go f ts xs ρ
 termination_by structural ts
noncomputable def df(a b c:Int):List V:=((List.range ((b - a+c - 1) / c).toNat).map λk:Nat=>.i (a+c * (k:Int)))
mutual
noncomputable def V.lo(n:Nat):V->Bool
 | .r a=>decide (a < n)
 | .o _ a=>decide (a < n)
 | .t xs=>V.loAll n xs
 | .f xs=>V.loAll n xs
 |_=>true
noncomputable def V.loAll(n:Nat):List V->Bool
 | []=>true
 |x::xs=>V.lo n x&&V.loAll n xs
end
theorem zW{n a}:V.lo n (.r a)=decide (a < n):=rfl
theorem EU{n c a}:V.lo n (.o c a)=decide (a < n):=rfl
theorem oO{n xs}:V.lo n (.t xs)=V.loAll n xs:=rfl
theorem qk{n s}:V.lo n (.s s)=true:=rfl
theorem sa{n i}:V.lo n (.i i)=true:=rfl
theorem NY{n b}:V.lo n (.b b)=true:=rfl
theorem jU{n}:V.loAll n []=true:=rfl
theorem iJ{n x xs}:V.loAll n (x::xs)=(V.lo n x&&V.loAll n xs):=rfl
noncomputable def O.lo(n:Nat):O->Bool
 | .l xs=>V.loAll n xs
 | .d es=>V.loAll n (es.map (·.2))
 | .s es=>V.loAll n (es.map (·.2))
 | .t es=>V.loAll n (es.map (·.2))
 | .a _ fs=>V.loAll n (fs.map (·.2))
 | .i _=>false
 | .u=>true
theorem MK{n es}:O.lo n (.s es)=V.loAll n (es.map (·.2)):=rfl
structure nY(σ σ' τ:aj)(v:V):Prop where
 Vy:τ <+:σ'
 le:σ.length<=τ.length
 Vz:v.lo τ.length=true
 Vx:∀(i:Nat) (o:O),τ[i]? =some o->σ[i]? =some o∨o.lo τ.length=true
structure Fn where
 mN:Nat
 dZ:List St
noncomputable def yl:Fl->V
 | .n=>.n
 | .r v=>v
noncomputable def bf(args:List V):aA:=λi=>args[i]?
noncomputable def EF:Nat:=30
noncomputable def SF:Nat:=12
noncomputable def AP:Fn:=⟨1,[.r (.f (.p .e (.b .l [(.v 0)]) (.c (.i 1))) (.s (.v 0) (.c (.i 0))) (.i .a (.i .a (.c (.s [40])) (.m 5 (.c (.s [32])) [(.i .a (.d [(.s (.v 0) (.c (.i 0)))]) (.o (.l 0 [(.v 1)]) [.m (.v 1) (.e (.e (.v 0) (some (.c (.i 1))) none)) []]))])) (.c (.s [41]))))]⟩
noncomputable def AO:Fn:=⟨1,[.a (.v 1) (.s (.v 0) (.c (.i 0))),
  .i (.p .e (.v 1) (.c (.s [115,97,109,101]))) [.a (.v 2) (.d [(.l 0 [(.s (.v 0) (.c (.i 1)))])])] [.i (.p .e (.v 1) (.c (.s [116,111,108,100]))) [.a (.v 2) (.d [(.s (.v 0) (.c (.i 1)))])] [.i (.p .e (.v 1) (.c (.s [114,117,108,101]))) [.a (.v 2) (.i .a (.d [(.s (.v 0) (.c (.i 1)))]) (.o (.i .a (.i .a (.v 4) (.c (.s [32]))) (.l 0 [(.v 5)])) [.m (.t [(.v 4),(.v 5)]) (.e (.s (.v 0) (.c (.i 2)))) []]))] [.i (.p .e (.v 1) (.c (.s [117,110,100,101,114]))) [.a (.v 2) (.i .a (.d [(.s (.v 0) (.c (.i 1)))]) (.o (.l 1 [(.v 6)]) [.m (.v 6) (.e (.s (.v 0) (.c (.i 2)))) []]))] [.i (.p .e (.v 1) (.c (.s [116,117,114,110]))) [.a (.v 2) (.d [(.l 1 [(.s (.v 0) (.c (.i 1)))])])] [.a (.v 3) (.d [(.s (.v 0) (.c (.i 2)))]),
  .w (.p .e (.s (.s (.v 0) (.c (.i 1))) (.c (.i 0))) (.c (.s [106,111,105,110]))) [.a (.v 0) (.s (.v 0) (.c (.i 1))),
  .e (.m 0 (.v 3) [(.s (.v 0) (.c (.i 2)))])],
  .a (.v 2) (.o (.l 1 [(.v 7)]) [.m (.v 7) (.e (.i .a (.d [(.s (.v 0) (.c (.i 1)))]) (.k (.v 3)))) []])]]]]],
  .r (.i .a (.i .a (.c (.s [40])) (.m 5 (.c (.s [32])) [(.i .a (.d [(.v 1)]) (.v 2))])) (.c (.s [41])))]⟩
noncomputable def GE:Fn:=⟨1,[.r (.n [(.p .n (.v 0) (.c (.s []))),(.p .e (.o (.v 1) [.m (.v 1) (.e (.v 0)) [(.r [(.m 8 (.v 1) []),(.p .i (.v 1) (.c (.s [40,41,91,93,123,125,44,58])))])]]) (.d []))])]⟩
noncomputable def Gh:Fn:=⟨1,[.a (.a 10 (.v 0)) (.d []),
  .a (.a 11 (.v 0)) (.g .t []),
  .a (.a 12 (.v 0)) (.d []),
  .a (.a 13 (.v 0)) (.d [])]⟩
noncomputable def Gl:Fn:=⟨1,[.r (.b .l [(.a 10 (.v 0))])]⟩
noncomputable def Az:Fn:=⟨3,[.a (.v 3) (.i .a (.t [(.v 1)]) (.b .t [(.v 2)])),
  .i (.p .i (.v 3) (.a 11 (.v 0))) [.r (.s (.a 11 (.v 0)) (.v 3))] [],
  .e (.m 14 (.v 0) [(.v 1)]),
  .l (.v 4) (.e (.e (.v 3) (some (.c (.i 1))) none)) [.i (.j (.q .a .l (.c (.i 0)) (.v 4) (.b .l [(.a 10 (.v 0))]))) [.s] []],
  .a (.s (.a 11 (.v 0)) (.v 3)) (.b .l [(.a 10 (.v 0))]),
  .e (.m 0 (.a 10 (.v 0)) [(.v 3)]),
  .e (.m 0 (.a 12 (.v 0)) [(.i .a (.c (.i 1)) (.b .s [(.o (.s (.a 12 (.v 0)) (.v 5)) [.m (.v 5) (.e (.e (.v 3) (some (.c (.i 1))) none)) []])]))]),
  .e (.m 0 (.a 13 (.v 0)) [(.i .a (.c (.i 1)) (.b .m [(.i .a (.o (.s (.a 13 (.v 0)) (.v 6)) [.m (.v 6) (.e (.e (.v 3) (some (.c (.i 1))) none)) []]) (.d [(.c (.i 0))]))]))]),
  .r (.i .s (.b .l [(.a 10 (.v 0))]) (.c (.i 1)))]⟩
noncomputable def Gk:Fn:=⟨2,[.i (.r [(.j (.l 2 [(.v 1)])),(.p .e (.s (.v 1) (.c (.i 0))) (.c (.s [63])))]) [.s] []]⟩
noncomputable def Gj:Fn:=⟨2,[.r (.s (.s (.a 10 (.v 0)) (.v 1)) (.c (.i 0)))]⟩
noncomputable def Gi:Fn:=⟨2,[.r (.e (.s (.a 10 (.v 0)) (.v 1)) (some (.c (.i 1))) none)]⟩
noncomputable def xm:Fn:=⟨2,[.a (.t [(.v 2),(.v 3)]) (.t [(.g .i [((.v 1),(.c (.b true)))]),(.d [(.v 1)])]),
  .w (.p .g (.b .l [(.v 3)]) (.c (.i 0))) [.l (.v 4) (.e (.m 15 (.v 0) [(.m 2 (.v 3) [])])) [.i (.p .o (.v 4) (.v 2)) [.a (.s (.v 2) (.v 4)) (.c (.b true)),
  .e (.m 0 (.v 3) [(.v 4)])] []]],
  .a (.v 5) (.g .i []),
  .l (.v 6) (.e (.b .o [(.v 2)])) [.a (.s (.v 5) (.v 6)) (.i .a (.t [(.m 16 (.v 0) [(.v 6)])]) (.b .t [(.o (.s (.v 5) (.v 7)) [.m (.v 7) (.e (.m 15 (.v 0) [(.v 6)])) []])]))],
  .r (.s (.v 5) (.v 1))]⟩
noncomputable def Gz:Fn:=⟨1,[.a (.a 17 (.v 0)) (.d []),
  .a (.a 18 (.v 0)) (.d []),
  .a (.a 19 (.v 0)) (.d [])]⟩
noncomputable def GA:Fn:=⟨1,[.e (.m 0 (.a 17 (.v 0)) [(.b .l [(.a 17 (.v 0))])]),
  .e (.m 0 (.a 18 (.v 0)) [(.d [(.b .l [(.a 18 (.v 0))])])]),
  .r (.i .s (.b .l [(.a 17 (.v 0))]) (.c (.i 1)))]⟩
noncomputable def GC:Fn:=⟨1,[.r (.b .l [(.a 17 (.v 0))])]⟩
noncomputable def Gy:Fn:=⟨2,[.w (.p .n (.s (.a 17 (.v 0)) (.v 1)) (.v 1)) [.a (.v 1) (.s (.a 17 (.v 0)) (.v 1))],
  .r (.v 1)]⟩
noncomputable def AF:Fn:=⟨3,[.a (.t [(.v 3),(.v 4)]) (.b .o [(.d [(.m 20 (.v 0) [(.v 1)]),(.m 20 (.v 0) [(.v 2)])])]),
  .i (.p .e (.v 3) (.v 4)) [.r (.c .n)] [],
  .a (.s (.a 17 (.v 0)) (.v 4)) (.v 3),
  .e (.m 1 (.s (.a 18 (.v 0)) (.v 3)) [(.s (.a 18 (.v 0)) (.v 4))]),
  .e (.m 0 (.a 19 (.v 0)) [(.t [(.v 3),(.v 4)])]),
  .r (.t [(.v 3),(.v 4)])]⟩
noncomputable def GB:Fn:=⟨2,[.r (.b .o [(.s (.a 18 (.v 0)) (.m 20 (.v 0) [(.v 1)]))])]⟩
noncomputable def Gx:Fn:=⟨1,[.r (.o (.v 1) [.m (.v 1) (.r [(.b .l [(.a 17 (.v 0))])]) [(.p .e (.s (.a 17 (.v 0)) (.v 1)) (.v 1))]])]⟩
noncomputable def Gp:Fn:=⟨1,[.a (.a 21 (.v 0)) (.w 0 []),
  .a (.a 22 (.v 0)) (.w 1 []),
  .a (.a 23 (.v 0)) (.d []),
  .a (.a 24 (.v 0)) (.d []),
  .a (.a 25 (.v 0)) (.g .t []),
  .a (.a 17 (.v 0)) (.g .i []),
  .a (.a 26 (.v 0)) (.d []),
  .a (.a 27 (.v 0)) (.c (.i 0))]⟩
noncomputable def Gv:Fn:=⟨1,[.r (.m 28 (.a 21 (.v 0)) [])]⟩
noncomputable def Gs:Fn:=⟨2,[.r (.i .a (.t [(.m 16 (.a 21 (.v 0)) [(.v 1)])]) (.b .t [(.o (.m 20 (.v 0) [(.v 2)]) [.m (.v 2) (.e (.m 15 (.a 21 (.v 0)) [(.v 1)])) []])]))]⟩
noncomputable def xn:Fn:=⟨3,[.a (.v 3) (.m 29 (.a 21 (.v 0)) [(.v 1),(.v 2)]),
  .i (.p .l (.v 3) (.m 28 (.a 22 (.v 0)) [])) [.r (.v 3)] [],
  .e (.m 30 (.a 22 (.v 0)) []),
  .a (.s (.a 17 (.v 0)) (.v 3)) (.d []),
  .l (.v 4) (.e (.b .r [(.o (.m 20 (.v 0) [(.v 5)]) [.m (.v 5) (.e (.v 2)) []])])) [.e (.m 0 (.s (.a 17 (.v 0)) (.v 4)) [(.v 3)])],
  .e (.m 31 (.v 0) [(.v 3)]),
  .r (.v 3)]⟩
noncomputable def AB:Fn:=⟨2,[.r (.m 32 (.v 0) [(.s (.v 1) (.c (.i 0))),(.b .t [(.o (.m 33 (.v 0) [(.v 2)]) [.m (.v 2) (.e (.e (.v 1) (some (.c (.i 1))) none)) []])])])]⟩
noncomputable def xo:Fn:=⟨2,[.a (.v 2) (.m 4 (.a 25 (.v 0)) [(.m 34 (.v 0) [(.v 1)]),(.v 1)]),
  .i (.p .n (.m 20 (.v 0) [(.v 2)]) (.m 20 (.v 0) [(.v 1)])) [.e (.m 5 (.v 0) [(.v 2),(.v 1),(.t [(.c (.s [108,105,107,101]))])])] []]⟩
noncomputable def Go:Fn:=⟨2,[.r (.m 20 (.a 22 (.v 0)) [(.v 1)])]⟩
noncomputable def Gm:Fn:=⟨3,[.r (.p .e (.m 20 (.v 0) [(.v 1)]) (.m 20 (.v 0) [(.v 2)]))]⟩
noncomputable def Gr:Fn:=⟨4,[.r (.m 5 (.v 0) [(.v 1),(.v 2),(.v 3)])]⟩
noncomputable def AA:Fn:=⟨4,[.e (.m 0 (.a 23 (.v 0)) [(.t [(.v 1),(.v 2),(.v 3)])]),
  .a (.v 4) (.m 35 (.a 22 (.v 0)) [(.v 1),(.v 2)]),
  .i (.p .s (.v 4) (.c .n)) [.r (.c (.b false))] [],
  .a (.t [(.v 5),(.v 6)]) (.v 4),
  .e (.m 0 (.a 24 (.v 0)) [(.i .s (.b .l [(.a 23 (.v 0))]) (.c (.i 1)))]),
  .e (.m 1 (.a 26 (.v 0)) [(.s (.a 17 (.v 0)) (.v 6))]),
  .a (.s (.a 17 (.v 0)) (.v 5)) (.i .a (.s (.a 17 (.v 0)) (.v 5)) (.m 2 (.a 17 (.v 0)) [(.v 6)])),
  .r (.c (.b true))]⟩
noncomputable def Gu:Fn:=⟨1,[.w (.p .g (.b .l [(.a 26 (.v 0))]) (.c (.i 0))) [.e (.m 31 (.v 0) [(.m 2 (.a 26 (.v 0)) [])])]]⟩
noncomputable def Gn:Fn:=⟨1,[.r (.m 36 (.a 22 (.v 0)) [])]⟩
noncomputable def Gq:Fn:=⟨2,[.r (.m 37 (.a 22 (.v 0)) [(.v 1)])]⟩
noncomputable def AN:Fn:=⟨2,[.a (.v 2) (.s (.s (.a 23 (.v 0)) (.v 1)) (.c (.i 2))),
  .i (.p .e (.s (.v 2) (.c (.i 0))) (.c (.s [116,111,108,100]))) [.r (.t [(.c (.s [116,111,108,100])),(.s (.v 2) (.c (.i 1)))])] [],
  .r (.t [(.c (.s [114,117,108,101])),(.s (.v 2) (.c (.i 1))),(.b .t [(.o (.t [(.v 3),(.m 38 (.a 21 (.v 0)) [(.v 4)])]) [.m (.t [(.v 3),(.v 4)]) (.e (.s (.v 2) (.c (.i 2)))) []])])])]⟩
noncomputable def uJ:Fn:=⟨3,[.a (.v 3) (.b .c [(.v 2)]),
  .w (.p .g (.b .l [(.v 3)]) (.c (.i 1))) [.a (.v 4) (.o (.t [(.c (.s [106,111,105,110])),(.s (.v 3) (.v 5)),(.s (.v 3) (.i .a (.v 5) (.c (.i 1))))]) [.m (.v 5) (.r [(.c (.i 0)),(.i .s (.b .l [(.v 3)]) (.c (.i 1))),(.c (.i 2))]) []]),
  .a (.v 3) (.i .a (.v 4) (.e (.v 3) (some (.i .s (.b .l [(.v 3)]) (.i .m (.b .l [(.v 3)]) (.c (.i 2))))) none))],
  .r (.f (.p .e (.b .l [(.v 3)]) (.c (.i 1))) (.s (.v 3) (.c (.i 0))) (.t [(.c (.s [115,97,109,101])),(.m 38 (.a 21 (.v 0)) [(.v 1)])]))]⟩
noncomputable def AH:Fn:=⟨2,[.a (.a 39 (.v 0)) (.v 1),
  .a (.a 40 (.v 0)) (.c (.i 0)),
  .a (.a 41 (.v 0)) (.c (.i 0)),
  .a (.a 42 (.v 0)) (.g .i []),
  .l (.v 2) (.e (.a 24 (.v 1))) [.a (.t [(.v 3),(.v 4),(.v 5)]) (.s (.a 23 (.v 1)) (.v 2)),
  .e (.m 0 (.m 4 (.a 42 (.v 0)) [(.v 3),(.d [])]) [(.t [(.v 2),(.v 4)])]),
  .e (.m 0 (.m 4 (.a 42 (.v 0)) [(.v 4),(.d [])]) [(.t [(.v 2),(.v 3)])])]]⟩
noncomputable def uI:Fn:=⟨4,[.a (.t [(.v 4),(.v 5),(.v 6)]) (.t [(.g .i [((.v 1),(.t []))]),(.d [(.v 1)]),(.c (.i 0))]),
  .w (.n [(.p .l (.v 6) (.b .l [(.v 5)])),(.p .o (.v 2) (.v 4))]) [.a (.t [(.v 7),(.v 6)]) (.t [(.s (.v 5) (.v 6)),(.i .a (.v 6) (.c (.i 1)))]),
  .l (.t [(.v 8),(.v 9)]) (.e (.m 3 (.a 42 (.v 0)) [(.v 7),(.d [])])) [.i (.n [(.p .l (.v 8) (.v 3)),(.p .o (.v 9) (.v 4))]) [.a (.s (.v 4) (.v 9)) (.t [(.v 7),(.v 8)]),
  .e (.m 0 (.v 5) [(.v 9)])] []]],
  .i (.p .o (.v 2) (.v 4)) [.s] [],
  .a (.v 10) (.d []),
  .w (.p .n (.v 2) (.v 1)) [.a (.t [(.v 7),(.v 8)]) (.s (.v 4) (.v 2)),
  .e (.m 0 (.v 10) [(.t [(.v 8),(.p .n (.s (.s (.a 23 (.a 39 (.v 0))) (.v 8)) (.c (.i 0))) (.v 7))])]),
  .a (.v 2) (.v 7)],
  .r (.k (.v 10))]⟩
noncomputable def GD:Fn:=⟨3,[.a (.t [(.a 40 (.v 0)),(.a 41 (.v 0))]) (.t [(.c (.i 0)),(.c (.i 0))]),
  .r (.m 43 (.v 0) [(.v 1),(.v 2),(.b .l [(.a 23 (.a 39 (.v 0)))])])]⟩
noncomputable def AG:Fn:=⟨4,[.a (.v 4) (.d []),
  .l (.t [(.v 5),(.v 6)]) (.e (.m 44 (.v 0) [(.v 1),(.v 2),(.v 3)])) [.a (.v 7) (.m 45 (.v 0) [(.v 5)]),
  .e (.m 0 (.v 4) [(.f (.v 6) (.t [(.c (.s [116,117,114,110])),(.v 7)]) (.v 7))])],
  .r (.l 31 [(.a 39 (.v 0)),(.v 1),(.v 4)])]⟩
noncomputable def AI:Fn:=⟨2,[.a (.a 40 (.v 0)) (.i .a (.a 40 (.v 0)) (.c (.i 1))),
  .i (.p .g (.a 40 (.v 0)) (.h 1)) [.s] [],
  .a (.t [(.v 2),(.v 3),(.v 4)]) (.s (.a 23 (.a 39 (.v 0))) (.v 1)),
  .i (.p .n (.s (.v 4) (.c (.i 0))) (.c (.s [108,105,107,101]))) [.r (.l 30 [(.a 39 (.v 0)),(.v 1)])] [],
  .a (.a 41 (.v 0)) (.i .a (.a 41 (.v 0)) (.c (.i 1))),
  .i (.p .g (.a 41 (.v 0)) (.h 2)) [.s] [],
  .a (.v 5) (.b .z [(.m 15 (.a 21 (.a 39 (.v 0))) [(.v 2)]),(.m 15 (.a 21 (.a 39 (.v 0))) [(.v 3)])]),
  .a (.v 6) (.t [(.c (.s [117,110,100,101,114])),(.m 16 (.a 21 (.a 39 (.v 0))) [(.v 2)]),(.b .t [(.o (.m 43 (.v 0) [(.v 7),(.v 8),(.v 1)]) [.m (.t [(.v 7),(.v 8)]) (.e (.v 5)) []])])]),
  .a (.a 41 (.v 0)) (.i .s (.a 41 (.v 0)) (.c (.i 1))),
  .r (.v 6)]⟩
noncomputable def uG:Fn:=⟨2,[.i (.p .g (.m 28 (.v 1) []) (.h 3)) [.s] [],
  .a (.a 39 (.v 0)) (.v 1),
  .a (.a 46 (.v 0)) (.g .t []),
  .a (.a 47 (.v 0)) (.g .t []),
  .l (.v 2) (.r [(.m 28 (.v 1) [])]) [.a (.s (.a 46 (.v 0)) (.t [(.v 2),(.v 2)])) (.c (.i 0))],
  .l (.v 3) (.r [(.b .l [(.a 23 (.v 1))])]) [.a (.t [(.v 4),(.v 5),(.v 6)]) (.s (.a 23 (.v 1)) (.v 3)),
  .i (.p .n (.s (.v 6) (.c (.i 0))) (.c (.s [108,105,107,101]))) [.e (.m 48 (.v 0) [(.v 4),(.v 5),(.c (.i 1)),(.t [(.c (.s [101,100,103,101])),(.v 3),(.c (.b false))])]),
  .e (.m 48 (.v 0) [(.v 5),(.v 4),(.c (.i 1)),(.t [(.c (.s [101,100,103,101])),(.v 3),(.c (.b true))])])] []],
  .a (.v 7) (.o (.m 37 (.v 1) [(.v 9)]) [.m (.v 9) (.e (.m 36 (.v 1) [])) []]),
  .a (.a 49 (.v 0)) (.c (.b true)),
  .w (.a 49 (.v 0)) [.a (.a 49 (.v 0)) (.c (.b false)),
  .l (.v 8) (.e (.v 7)) [.e (.m 50 (.v 0) [(.v 8)]),
  .e (.m 51 (.v 0) [(.v 8)])]]]⟩
noncomputable def AE:Fn:=⟨5,[.i (.r [(.p .o (.t [(.v 1),(.v 2)]) (.a 46 (.v 0))),(.p .l (.v 3) (.s (.a 46 (.v 0)) (.t [(.v 1),(.v 2)])))]) [.a (.s (.a 46 (.v 0)) (.t [(.v 1),(.v 2)])) (.v 3),
  .a (.s (.a 47 (.v 0)) (.t [(.v 1),(.v 2)])) (.v 4),
  .a (.a 49 (.v 0)) (.c (.b true))] []]⟩
noncomputable def AC:Fn:=⟨2,[.l (.v 2) (.e (.v 1)) [.l (.v 3) (.e (.v 1)) [.a (.t [(.v 4),(.v 5)]) (.t [(.m 15 (.a 21 (.a 39 (.v 0))) [(.v 2)]),(.m 15 (.a 21 (.a 39 (.v 0))) [(.v 3)])]),
  .i (.n [(.p .n (.v 2) (.v 3)),(.p .e (.m 16 (.a 21 (.a 39 (.v 0))) [(.v 2)]) (.m 16 (.a 21 (.a 39 (.v 0))) [(.v 3)])),(.p .e (.b .l [(.v 4)]) (.b .l [(.v 5)]))]) [.i (.p .e (.o (.v 6) [.m (.v 6) (.e (.b .z [(.v 4),(.v 5)])) [(.p .o (.v 6) (.a 46 (.v 0)))]]) (.d [])) [.e (.m 48 (.v 0) [(.v 2),(.v 3),(.b .s [(.o (.s (.a 46 (.v 0)) (.v 7)) [.m (.v 7) (.e (.b .z [(.v 4),(.v 5)])) []])]),(.t [(.c (.s [108,105,107,101]))])])] []] []]]]⟩
noncomputable def AD:Fn:=⟨2,[.l (.v 2) (.e (.v 1)) [.l (.v 3) (.e (.v 1)) [.l (.v 4) (.e (.v 1)) [.i (.n [(.p .i (.t [(.v 3),(.v 2)]) (.a 46 (.v 0))),(.p .i (.t [(.v 2),(.v 4)]) (.a 46 (.v 0)))]) [.a (.v 5) (.i .a (.s (.a 46 (.v 0)) (.t [(.v 3),(.v 2)])) (.s (.a 46 (.v 0)) (.t [(.v 2),(.v 4)]))),
  .e (.m 48 (.v 0) [(.v 3),(.v 4),(.v 5),(.t [(.c (.s [111,118,101,114])),(.v 2)])])] []]]]]⟩
noncomputable def Gw:Fn:=⟨3,[.i (.p .o (.t [(.v 1),(.v 2)]) (.a 46 (.v 0))) [.s] [],
  .r (.s (.a 46 (.v 0)) (.t [(.v 1),(.v 2)]))]⟩
noncomputable def uH:Fn:=⟨3,[.e (.m 52 (.v 0) [(.v 1),(.v 2)]),
  .i (.p .e (.v 1) (.v 2)) [.r (.l 31 [(.a 39 (.v 0)),(.v 1),(.d [])])] [],
  .a (.v 3) (.s (.a 47 (.v 0)) (.t [(.v 1),(.v 2)])),
  .i (.p .e (.s (.v 3) (.c (.i 0))) (.c (.s [111,118,101,114]))) [.r (.t [(.c (.s [106,111,105,110])),(.m 53 (.v 0) [(.v 1),(.s (.v 3) (.c (.i 1)))]),(.m 53 (.v 0) [(.s (.v 3) (.c (.i 1))),(.v 2)])])] [],
  .i (.p .e (.s (.v 3) (.c (.i 0))) (.c (.s [101,100,103,101]))) [.a (.v 4) (.l 30 [(.a 39 (.v 0)),(.s (.v 3) (.c (.i 1)))]),
  .r (.f (.s (.v 3) (.c (.i 2))) (.t [(.c (.s [116,117,114,110])),(.v 4)]) (.v 4))] [],
  .a (.v 5) (.b .z [(.m 15 (.a 21 (.a 39 (.v 0))) [(.v 1)]),(.m 15 (.a 21 (.a 39 (.v 0))) [(.v 2)])]),
  .r (.t [(.c (.s [117,110,100,101,114])),(.m 16 (.a 21 (.a 39 (.v 0))) [(.v 1)]),(.b .t [(.o (.m 53 (.v 0) [(.v 6),(.v 7)]) [.m (.t [(.v 6),(.v 7)]) (.e (.v 5)) []])])])]⟩
noncomputable def AK:Fn:=⟨2,[.a (.s (.v 0) (.c (.s [116,117,114,110]))) (.i .a (.s (.v 0) (.c (.s [116,117,114,110]))) (.c (.i 1))),
  .a (.v 2) (.s (.v 0) (.c (.s [116,117,114,110]))),
  .i (.p .a (.v 2) (.b .l [(.s (.v 0) (.c (.s [99,101,108,108,115])))])) [.r (.i .m (.s (.s (.v 0) (.c (.s [99,101,108,108,115]))) (.i .s (.v 2) (.c (.i 1)))) (.v 1))] [],
  .r (.i .m (.i .m (.i .a (.i .a (.i .a (.i .u (.i .u (.c (.i 5)) (.v 2)) (.v 2)) (.i .u (.c (.i 11)) (.v 2))) (.i .f (.v 2) (.c (.i 4)))) (.s (.v 0) (.c (.s [98,108,101,110,100])))) (.c (.i 89))) (.v 1))]⟩
noncomputable def xq:Fn:=⟨2,[.a (.v 2) (.f (.p .g (.v 1) (.c (.i 0))) (.l 43 [(.v 0),(.c (.i 4))]) (.c (.i 0))),
  .i (.p .l (.v 2) (.c (.i 2))) [.r (.t [(.s (.d [(.c (.s [97])),(.c (.s [98,50])),(.c (.s [45,62])),(.c (.s [116,111,108,100]))]) (.l 43 [(.v 0),(.c (.i 4))]))])] [],
  .r (.i .a (.t [(.s (.d [(.c (.s [102])),(.c (.s [117,110,100,101,114]))]) (.i .s (.v 2) (.c (.i 2))))]) (.b .t [(.o (.l 44 [(.v 0),(.i .s (.v 1) (.c (.i 1)))]) [.m (.v 3) (.r [(.i .s (.v 2) (.c (.i 1)))]) []])]))]⟩
noncomputable def sB:Fn:=⟨2,[.a (.v 2) (.f (.p .g (.v 1) (.c (.i 0))) (.l 43 [(.v 0),(.c (.i 7))]) (.l 43 [(.v 0),(.c (.i 3))])),
  .i (.p .e (.v 2) (.c (.i 0))) [.r (.t [(.c (.s [116,111,108,100])),(.s (.h 0) (.l 43 [(.v 0),(.c (.i 5))]))])] [],
  .i (.p .e (.v 2) (.c (.i 1))) [.r (.t [(.c (.s [115,97,109,101])),(.l 44 [(.v 0),(.c (.i 2))])])] [],
  .i (.p .e (.v 2) (.c (.i 2))) [.a (.v 3) (.e (.d [(.t [(.c (.s [63,120])),(.l 44 [(.v 0),(.c (.i 1))])]),(.t [(.c (.s [63,121])),(.l 44 [(.v 0),(.c (.i 1))])])]) none (some (.l 43 [(.v 0),(.c (.i 3))]))),
  .r (.t [(.c (.s [114,117,108,101])),(.s (.h 0) (.l 43 [(.v 0),(.c (.i 5))])),(.b .t [(.f (.p .e (.l 43 [(.v 0),(.c (.i 2))]) (.c (.i 1))) (.k (.v 3)) (.v 3))])])] [],
  .i (.p .e (.v 2) (.c (.i 3))) [.r (.t [(.c (.s [116,117,114,110])),(.l 45 [(.v 0),(.i .s (.v 1) (.c (.i 1)))])])] [],
  .i (.p .e (.v 2) (.c (.i 4))) [.a (.v 4) (.l 45 [(.v 0),(.i .s (.v 1) (.c (.i 1)))]),
  .l (.v 5) (.r [(.i .a (.c (.i 1)) (.l 43 [(.v 0),(.c (.i 6))]))]) [.a (.v 4) (.t [(.c (.s [106,111,105,110])),(.v 4),(.l 45 [(.v 0),(.f (.p .g (.v 5) (.c (.i 0))) (.c (.i 0)) (.i .s (.v 1) (.c (.i 1))))])])],
  .r (.v 4)] [],
  .i (.p .e (.v 2) (.c (.i 5))) [.r (.t [(.c (.s [106,111,105,110])),(.l 45 [(.v 0),(.c (.i 0))]),(.l 45 [(.v 0),(.i .s (.v 1) (.c (.i 1)))])])] [],
  .r (.t [(.c (.s [117,110,100,101,114])),(.s (.h 0) (.l 43 [(.v 0),(.c (.i 5))])),(.b .t [(.o (.l 45 [(.v 0),(.i .s (.v 1) (.c (.i 1)))]) [.m (.v 6) (.r [(.l 43 [(.v 0),(.c (.i 3))])]) []])])])]⟩
noncomputable def AL:Fn:=⟨1,[.a (.t [(.v 1),(.v 2)]) (.t [(.d [(.d [])]),(.c (.s []))]),
  .l (.v 3) (.e (.i .a (.v 0) (.c (.s [32])))) [.i (.n [(.p .i (.v 3) (.c (.s [40,41,32]))),(.p .n (.v 2) (.c (.s [])))]) [.e (.m 0 (.s (.v 1) (.c (.i (-1)))) [(.v 2)]),
  .a (.v 2) (.c (.s []))] [],
  .i (.p .e (.v 3) (.c (.s [40]))) [.e (.m 0 (.v 1) [(.d [])])] [.i (.n [(.p .e (.v 3) (.c (.s [41]))),(.p .g (.b .l [(.v 1)]) (.c (.i 1)))]) [.a (.v 4) (.m 2 (.v 1) []),
  .e (.m 0 (.s (.v 1) (.c (.i (-1)))) [(.v 4)])] [.i (.p .e (.v 3) (.c (.s [41]))) [.r (.c .n)] [.i (.p .n (.v 3) (.c (.s [32]))) [.a (.v 2) (.i .a (.v 2) (.v 3))] []]]]],
  .r (.f (.n [(.p .e (.b .l [(.v 1)]) (.c (.i 1))),(.p .e (.b .l [(.s (.v 1) (.c (.i 0)))]) (.c (.i 1)))]) (.s (.s (.v 1) (.c (.i 0))) (.c (.i 0))) (.c .n))]⟩
noncomputable def AM:Fn:=⟨1,[.r (.f (.b .S [(.v 0)]) (.t [(.v 0)]) (.i .a (.t [(.s (.v 0) (.c (.i 0)))]) (.b .t [(.o (.l 47 [(.v 1)]) [.m (.v 1) (.e (.e (.v 0) (some (.c (.i 1))) none)) []])])))]⟩
noncomputable def xp:Fn:=⟨1,[.a (.t [(.v 1),(.v 2)]) (.t [(.s (.v 0) (.c (.i 0))),(.e (.v 0) (some (.c (.i 1))) none)]),
  .i (.p .e (.v 1) (.c (.s [116,111,108,100]))) [.r (.t [(.c (.s [116,111,108,100])),(.s (.v 2) (.c (.i 0)))])] [],
  .i (.p .e (.v 1) (.c (.s [115,97,109,101]))) [.r (.t [(.c (.s [115,97,109,101])),(.l 47 [(.s (.v 2) (.c (.i 0)))])])] [],
  .i (.p .e (.v 1) (.c (.s [114,117,108,101]))) [.r (.t [(.c (.s [114,117,108,101])),(.s (.v 2) (.c (.i 0))),(.b .t [(.o (.t [(.s (.v 2) (.v 5)),(.l 47 [(.s (.v 2) (.i .a (.v 5) (.c (.i 1))))])]) [.m (.v 5) (.r [(.c (.i 1)),(.b .l [(.v 2)]),(.c (.i 2))]) []])])])] [],
  .i (.p .e (.v 1) (.c (.s [117,110,100,101,114]))) [.r (.t [(.c (.s [117,110,100,101,114])),(.s (.v 2) (.c (.i 0))),(.b .t [(.o (.l 48 [(.v 6)]) [.m (.v 6) (.e (.e (.v 2) (some (.c (.i 1))) none)) []])])])] [],
  .a (.v 3) (.l 48 [(.s (.v 2) (.c (.i 0)))]),
  .l (.v 4) (.e (.e (.v 2) (some (.c (.i 1))) none)) [.a (.v 3) (.t [(.c (.s [106,111,105,110])),(.v 3),(.l 48 [(.v 4)])])],
  .r (.f (.p .e (.v 1) (.c (.s [116,117,114,110]))) (.t [(.c (.s [116,117,114,110])),(.v 3)]) (.v 3))]⟩
noncomputable def uK:Fn:=⟨2,[.a (.v 2) (.s (.v 0) (.c (.i 0))),
  .i (.p .i (.v 2) (.t [(.c (.s [115,97,109,101])),(.c (.s [114,117,108,101]))])) [.a (.t [(.v 3),(.v 4)]) (.t [(.f (.p .e (.v 2) (.c (.s [115,97,109,101]))) (.d [(.s (.v 0) (.c (.i 1)))]) (.o (.v 8) [.m (.t [(.v 7),(.v 8)]) (.e (.s (.v 0) (.c (.i 2)))) []])),(.c (.i 1))]),
  .w (.p .n (.v 3) (.d [])) [.a (.v 5) (.m 2 (.v 3) []),
  .a (.v 4) (.i .a (.v 4) (.b .i [(.p .g (.b .l [(.v 5)]) (.c (.i 1)))])),
  .e (.m 1 (.v 3) [(.e (.v 5) (some (.c (.i 1))) none)])],
  .r (.v 4)] [],
  .i (.p .e (.v 2) (.c (.s [116,111,108,100]))) [.r (.c (.i 1))] [],
  .a (.v 6) (.f (.p .e (.v 2) (.c (.s [117,110,100,101,114]))) (.s (.v 0) (.c (.i 2))) (.e (.v 0) (some (.c (.i 1))) none)),
  .r (.i .a (.b .i [(.r [(.p .n (.v 2) (.c (.s [106,111,105,110]))),(.j (.v 1))])]) (.b .s [(.o (.l 49 [(.v 10),(.n [(.p .e (.v 2) (.c (.s [106,111,105,110]))),(.p .e (.v 9) (.c (.i 0)))])]) [.m (.t [(.v 9),(.v 10)]) (.n (.v 6)) []])]))]⟩
noncomputable def GF:Fn:=⟨1,[.a (.v 1) (.l 1 [(.v 0)]),
  .a (.v 2) (.l 46 [(.v 1)]),
  .i (.r [(.p .s (.v 2) (.c .n)),(.p .n (.l 48 [(.v 2)]) (.v 0)),(.p .n (.m 6 (.v 1) [(.c (.s [40]))]) (.l 49 [(.v 0),(.c (.b false))]))]) [.r (.c (.b false))] [],
  .r (.n [(.p .o (.c (.s [32,32])) (.v 1)),(.p .o (.c (.s [40,32])) (.v 1)),(.p .o (.c (.s [32,41])) (.v 1)),(.p .e (.v 1) (.m 7 (.v 1) []))])]⟩
noncomputable def AJ:Fn:=⟨1,[.a (.v 1) (.o (.i .m (.b .i [(.v 12)]) (.c (.i 1000003))) [.m (.v 12) (.e (.e (.v 0) none (some (.c (.i 40))))) []]),
  .a (.v 2) (.g .s [((.c (.s [99,101,108,108,115])),(.v 1)),((.c (.s [116,117,114,110])),(.c (.i 0))),((.c (.s [98,108,101,110,100])),(.b .s [(.o (.i .m (.b .b [(.v 13)]) (.c (.i 997))) [.m (.v 13) (.e (.v 1)) []])]))]),
  .i (.j (.l 50 [(.l 45 [(.v 2),(.c (.i 3))])])) [.r (.c (.b false))] [],
  .a (.t [(.v 3),(.v 4)]) (.t [(.w 2 []),(.d [])]),
  .l (.v 5) (.e (.e (.d [(.t [(.c (.s [97]))]),(.t [(.c (.s [98]))]),(.t [(.c (.s [102])),(.t [(.c (.s [97]))])]),(.t [(.c (.s [102])),(.t [(.c (.s [98]))])]),(.t [(.c (.s [103])),(.t [(.c (.s [97]))]),(.t [(.c (.s [98]))])]),(.t [(.c (.s [103])),(.t [(.c (.s [98]))]),(.t [(.c (.s [97]))])])]) none (some (.i .a (.c (.i 4)) (.l 43 [(.v 2),(.c (.i 3))]))))) [.e (.m 0 (.v 4) [(.m 33 (.v 3) [(.v 5)])])],
  .l (.v 6) (.r [(.i .a (.c (.i 1)) (.l 43 [(.v 2),(.c (.i 4))]))]) [.a (.t [(.v 7),(.v 8)]) (.t [(.l 43 [(.v 2),(.b .l [(.v 4)])]),(.l 43 [(.v 2),(.b .l [(.v 4)])])]),
  .a (.v 9) (.t [(.c (.s [114,117,108,101])),(.c (.s [114])),(.t [(.t [(.c (.s [63,120])),(.s (.v 4) (.c (.i 0)))]),(.t [(.c (.s [63,121])),(.s (.v 4) (.v 8))])])]),
  .e (.m 35 (.v 3) [(.v 7),(.v 8),(.s (.d [(.t [(.c (.s [116,111,108,100])),(.i .a (.c (.s [108])) (.b .a [(.v 6)]))]),(.v 9)]) (.l 43 [(.v 2),(.c (.i 2))]))])],
  .e (.m 54 (.v 3) []),
  .a (.v 10) (.o (.t [(.v 14),(.v 15)]) [.m (.v 14) (.e (.v 4)) [],.m (.v 15) (.e (.v 4)) [(.m 55 (.v 3) [(.v 14),(.v 15)])]]),
  .a (.t [(.v 7),(.v 8)]) (.s (.v 10) (.l 43 [(.v 2),(.b .l [(.v 10)])])),
  .l (.v 11) (.e (.t [(.m 53 (.w 3 [(.v 3)]) [(.v 7),(.v 8)]),(.m 53 (.w 4 [(.v 3)]) [(.v 7),(.v 8)])])) [.i (.j (.l 50 [(.v 11)])) [.r (.c (.b false))] []],
  .r (.c (.b true))]⟩
noncomputable def uN:List Fn:=[AP,AO,GE,Gh,Gl,Az,Gk,Gj,Gi,xm,Gz,GA,GC,Gy,AF,GB,Gx,Gp,Gv,Gs,xn,AB,xo,Go,Gm,Gr,AA,Gu,Gn,Gq,AN,uJ,AH,uI,GD,AG,AI,uG,AE,AC,AD,Gw,uH,AK,xq,sB,AL,AM,xp,uK,GF,AJ]
noncomputable def yu(k:Nat):Option Fn:=uN[k]?
noncomputable def u4:List (Nat×Nat×Nat):=[(0,28,4),(0,29,5),(0,14,6),(0,16,7),(0,15,8),(0,38,9),(1,30,11),(1,28,12),(1,20,13),(1,35,14),(1,37,15),(1,36,16),(2,28,18),(2,34,19),(2,32,20),(2,33,21),(2,31,22),(2,20,23),(2,55,24),(2,35,25),(2,5,26),(2,54,27),(2,36,28),(2,37,29),(3,44,33),(3,53,34),(3,43,35),(3,45,36),(4,48,38),(4,50,39),(4,51,40),(4,52,41),(4,53,42)]
noncomputable def yv(c m:Nat):Option Nat:=(u4.find? λx=>x.1==c&&x.2.1==m).map (·.2.2)
noncomputable def qy:List Nat:=[3,10,17,32,37]
noncomputable def CW(c:Nat):Option Nat:=qy[c]?
noncomputable def Kx(k:Nat):Option V:=[.t [.s [108,48],.s [115,97,109,101],.s [106,111,105,110],.s [116,117,114,110],.s [114,39]],.i 20000,.i 100,.i 60][k]?
noncomputable def oQ:List (Nat×Nat):=[(0,10),(0,11),(0,12),(0,13),(1,17),(1,18),(1,19),(2,21),(2,22),(2,23),(2,24),(2,25),(2,17),(2,26),(2,27),(3,39),(3,40),(3,41),(3,42),(4,39),(4,46),(4,47),(4,49)]
noncomputable def fE(c a:Nat):Bool:=oQ.any λx=>x.1==c&&x.2==a
noncomputable def bp(s:List Nat):Str:=⟨s.toArray⟩
theorem bg{n:Int}(h:decide (-bY<=n/\n<=bY)=true):dz n:=show -bY<=n/\n<=bY from XX h
theorem Kl(s:List Nat):(bp s).cps.toList=s:=rfl
theorem nS{a b:List Nat}(h:bp a=bp b):a=b:=by
 have:=XB (λx:Str=>x.cps.toList) h
 simpa [bp]using this
theorem UL(x:Str):bp x.cps.toList=x:=by cases x;simp[bp]
theorem kU(s:List Nat):(bp s).length=s.length:=by simp[bp,Str.length]
section kinds
variable {w:World}{s:Shared}
theorem PG{a:Str}{t:Tok}{b:Int}{u:Tok}{Q:Bool->Shared->Prop}(h:Q false s):
  wpAny (model prog w) A (eqBool (.str a t) (.int b u)) Q E s:=by
 unfold eqBool
 refine XR ?_
 have e:¬(Value.str a t==Value.int b u)=true:=λh=>by have:=XF h;cases this
 rw[XC e]
 exact Xq (m:=richCompare .Eq (.str a t) (.int b u)) (EqMixed.eq_str_int (Q:=λv s'=>wpAny (model prog w) A (truthOfDropped v) Q E s') (YT h))
theorem PE{a:Int}{t:Tok}{b:Str}{u:Tok}{Q:Bool->Shared->Prop}(h:Q false s):
  wpAny (model prog w) A (eqBool (.int a t) (.str b u)) Q E s:=by
 unfold eqBool
 refine XR ?_
 have e:¬(Value.int a t==Value.str b u)=true:=λh=>by have:=XF h;cases this
 rw[XC e]
 exact Xq (m:=richCompare .Eq (.int a t) (.str b u)) (EqMixed.eq_int_str (Q:=λv s'=>wpAny (model prog w) A (truthOfDropped v) Q E s') (YT h))
end kinds
noncomputable def BA:KV->Value->Bool
 | .inl s,v=>Value.isStrOf (bp s) v
 | .inr i,v=>Value.isInt i v
noncomputable def QL(w:World):KV->Int
 | .inl s=>hashStr w (bp s)
 | .inr i=>hashInt i
theorem nx{s:List Nat}{v:Value}(h:BA (.inl s) v=true):∃t,v=.str (bp s) t:=Value.isStrOf_shape h
theorem ny{i:Int}{v:Value}(h:BA (.inr i) v=true):∃t,v=.int i t:=Value.isInt_shape h
noncomputable def Hw(prog:Program)(w:World):KeyKind prog w KV where
 is:=BA
 hash:=QL w
 inj:=λv a b ha hb=>by
  cases a with
  |inl x=>
   refine aT (nx ha) λt q1=>?_;subst q1
   cases b with
   |inl y=>refine aT (nx hb) λu hu=>?_;injection hu with h1;rw[nS h1]
   |inr j=>refine aT (ny hb) λu hu=>?_;cases hu
  |inr x=>
   refine aT (ny ha) λt q1=>?_;subst q1
   cases b with
   |inl y=>refine aT (nx hb) λu hu=>?_;cases hu
   |inr j=>refine aT (ny hb) λu hu=>?_;injection hu with h1;rw[h1]
 byValue:=λk v h=>by
  cases k with
  |inl x=>refine aT (nx h) λt q1=>?_;subst q1;rfl
  |inr x=>refine aT (ny h) λt q1=>?_;subst q1;rfl
 pyHash:=λ{A E s k v Q} hv h=>by
  cases k with
  |inl x=>refine aT (nx hv) λt q1=>?_;subst q1;exact wpAny_pyHash_str h
  |inr x=>refine aT (ny hv) λt q1=>?_;subst q1;exact wpAny_pyHash_int h
 eqBool:=λ{A E s a b u v Q} hu hv h=>by
  cases a with
  |inl x=>
   refine aT (nx hu) λt q1=>?_;subst q1
   cases b with
   |inl y=>
    refine aT (nx hv) λt' q1=>?_;subst q1
    refine wpAny_eqBool_str ?_
    have e:decide (bp x=bp y)=decide ((Sum.inl x:KV)=Sum.inl y):=by
     by_cases hxy:x=y
     ·subst hxy;simp
     ·rw[Yb λh=>hxy (nS h),Yb λh=>hxy (Sum.inl.inj h)]
    rw[e];exact h
   |inr j=>
    refine aT (ny hv) λt' q1=>?_;subst q1
    refine PG ?_
    simpa using h
  |inr x=>
   refine aT (ny hu) λt q1=>?_;subst q1
   cases b with
   |inl y=>
    refine aT (nx hv) λt' q1=>?_;subst q1
    refine PE ?_
    simpa using h
   |inr j=>
    refine aT (ny hv) λt' q1=>?_;subst q1
    refine wpAny_eqBool_int ?_
    have e:(x==j)=decide ((Sum.inr x:KV)=Sum.inr j):=by
     by_cases hxy:x=j
     ·subst hxy;simp
     ·rw[Yb λh=>hxy (Sum.inr.inj h)];simpa using hxy
    rw[e];exact h
 «strs»:=λk x t v h=>by
  cases k with
  |inl y=>
   refine aT (nx h) λu hu=>?_
   injection hu with hx
   subst hx
   cases v<;>rfl
  |inr j=>refine aT (ny h) λu hu=>?_;cases hu
noncomputable abbrev j5(prog:Program)(w:World):HeapKind prog w (List KV):=tupleKind (Hw prog w)
noncomputable abbrev j6(vs:List Value)(n:Nat):Obj:={cls:=.type "tuple",data:=.seq vs.toArray n}
noncomputable abbrev ir(vs:List Value)(n:Nat):Obj:={cls:=.type "list",data:=.seq vs.toArray n}
structure dO where
 VS:Nat->Addr
 Df:Addr
 vR:List Int
variable {cl:dO}
structure dh where
 VQ:Frag
 fn:Nat->Addr
 aF:dO
 ct:Nat->Str
 gn:Nat->Str
mutual
noncomputable def aS(cl:dO)(h:Heap)(μ:List Addr):V->Value->Prop
 | .n,v=>v=.none
 | .b b,v=>v=.bool b
 | .i i,v=>∃t,v=.int i t
 | .s s,v=>∃t,v=.str (bp s) t
 | .t xs,v=>∃a vs n,v=.ref a/\h.get? a=some (j6 vs n)/\a∉μ/\aR cl h μ xs vs
 | .f xs,v=>v=.ref cl.Df/\xs=cl.vR.map .i
 | .r i,v=>∃x,μ[i]? =some x/\v=.ref x
 | .o c i,v=>∃x d,μ[i]? =some d/\v=.ref x/\x∉μ/\h.get? x=some (instObj (cl.VS c) d)
noncomputable def aR(cl:dO)(h:Heap)(μ:List Addr):List V->List Value->Prop
 | [],vs=>vs=[]
 |x::xs,vs=>∃v r,vs=v::r/\aS cl h μ x v/\aR cl h μ xs r
end
variable {L:dh}
theorem rU{cl h μ vs}:aR cl h μ [] vs=(vs=[]):=rfl
theorem oH{cl h μ x xs vs}:aR cl h μ (x::xs) vs=(∃v r,vs=v::r/\aS cl h μ x v/\aR cl h μ xs r):=rfl
theorem Nh{cl h μ xs v}:aS cl h μ (.t xs) v=(∃a vs n,v=.ref a/\h.get? a=some (j6 vs n)/\a∉μ/\aR cl h μ xs vs):=rfl
theorem Ni{cl h μ i v}:aS cl h μ (.r i) v=(∃x,μ[i]? =some x/\v=.ref x):=rfl
theorem Nj{cl h μ c i v}:aS cl h μ (.o c i) v=(∃x d,μ[i]? =some d/\v=.ref x/\x∉μ/\h.get? x=some (instObj (cl.VS c) d)):=rfl
noncomputable def o6(o:Obj):Bool:=o.cls==.type "list"||o.cls==.type "dict"
noncomputable def gm(o:Obj):Bool:=(match o.data with
 | .seq _ _=>true
 | .plain=>true
 |_=>false)&& !o6 o
structure dl(h:Heap)(μ:List Addr)(h':Heap)(μ':List Addr):Prop where
 lN:∀b o,h.get? b=some o->b∉μ->gm o=true->h'.get? b=some o
 rD:μ <+:μ'
 Ln:∀b∈μ',b∈μ∨∀o,h.get? b=some o->o6 o=true
theorem dl.rC{h:Heap}(e:dl h μ h' μ'){b:Addr}{o:Obj}(hb:h.get? b=some o)(hn:b∉μ)(hl:o6 o=false):b∉μ':=λhm=>by
 rcases e.Ln b hm with h1 |h1
 ·exact hn h1
 ·rw[h1 o hb]at hl;cases hl
structure dx(h:Heap)(μ:List Addr)(h':Heap)(μ':List Addr):Prop where
 iE:∀b o,h.get? b=some o->b∉μ->h'.get? b=some o
 lM:μ <+:μ'
 lb:∀b∈μ',b∈μ∨h.get? b=none
theorem dx.WC{h:Heap}(e:dx h μ h' μ'):dl h μ h' μ':=⟨λb o hb hn _=>e.iE b o hb hn,e.lM,λb hb=>(e.lb b hb).imp id λh1 o ho=>by rw[h1]at ho;cases ho⟩
theorem yW(h:Heap)(μ:List Addr):dx h μ h μ:=⟨λ_ _ e _=>e,Yn _,λ_ hb=>.inl hb⟩
theorem dx.tR{h:Heap}(e:dx h μ h' μ'){b:Addr}{o:Obj}(hb:h.get? b=some o)(hn:b∉μ):b∉μ':=λhm=>by
 rcases e.lb b hm with h1 |h1
 ·exact hn h1
 ·rw[hb]at h1;cases h1
theorem dx.Lm{h:Heap}(e:dx h μ h' μ')(f:dx h' μ' h'' μ''):dx h μ h'' μ'' where
 iE:=λb o hb hn=>f.iE b o (e.iE b o hb hn) (e.tR hb hn)
 lM:=e.lM.trans f.lM
 lb:=λb hb=>by
  rcases f.lb b hb with h1 |h1
  ·exact e.lb b h1
  ·by_cases hm:b∈μ
   ·exact .inl hm
   ·refine .inr ?_
    cases hg:h.get? b with
    |none=>rfl
    |some o=>rw[e.iE b o hg hm]at h1;cases h1
theorem nK{l:List α}(h:l <+:l'){i:Nat}{x:α}(e:l[i]? =some x):l'[i]? =some x:=by
 refine aT h ?_;clear h;intro t q1;subst q1
 rw[Yl (XZ e).1];exact e
section
variable {h:Heap}
mutual
theorem aS.extW(e:dl h μ h' μ'):∀(V:V) {v:Value},aS cl h μ V v->aS cl h' μ' V v
 | .n,_,r=>r
 | .b _,_,r=>r
 | .i _,_,r=>r
 | .s _,_,r=>r
 | .t xs,_,r=>by
  simp only[Nh]at r ⊢
  refine u9 r ?_;clear r;intro a vs n q3 ha hn hr;subst q3
  exact BR a vs n rfl (e.lN _ _ ha hn rfl) (e.rC ha hn rfl) (aR.extW e xs hr)
 | .f xs,_,r=>r
 | .r i,_,r=>by
  simp only[Ni]at r ⊢
  refine az r ?_;clear r;intro x hx q2;subst q2
  exact aC x (nK e.rD hx) rfl
 | .o c i,_,r=>by
  simp only[Nj]at r ⊢
  refine dk r ?_;clear r;intro x d hx q3 hn hg;subst q3
  exact di x d (nK e.rD hx) rfl (e.rC hg hn rfl) (e.lN _ _ hg hn rfl)
theorem aR.extW(e:dl h μ h' μ'):∀(xs:List V) {vs:List Value},aR cl h μ xs vs->aR cl h' μ' xs vs
 | [],_,r=>r
 |x::xs,_,r=>by
  simp only[oH]at r ⊢
  refine cP r ?_;clear r;intro v q q2 h1 h2;subst q2
  exact dN v q rfl (aS.extW e x h1) (aR.extW e xs h2)
end
theorem aS.cE(e:dx h μ h' μ')(V:V){v:Value}(r:aS cl h μ V v):aS cl h' μ' V v:=aS.extW e.WC V r
theorem aR.li(e:dx h μ h' μ')(xs:List V)(r:aR cl h μ xs vs):aR cl h' μ' xs vs:=aR.extW e.WC xs r
theorem aR.length:∀{xs:List V} {vs:List Value},aR cl h μ xs vs->xs.length=vs.length
 | [],_,r=>by simp only[rU]at r;subst r;rfl
 |x::xs,_,r=>by
  simp only[oH]at r
  refine cP r ?_;clear r;intro v q q2 _ h2;subst q2
  simp[aR.length h2]
theorem aR.append:∀{xs ys:List V} {vs us:List Value},aR cl h μ xs vs->aR cl h μ ys us->aR cl h μ (xs++ys) (vs++us)
 | [],_,_,_,r,q=>by simp only[rU]at r;subst r;exact q
 |x::xs,_,_,_,r,q=>by
  simp only[oH]at r
  refine cP r ?_;clear r;intro v p q2 h1 h2;subst q2
  simp only[Zb,oH]
  exact dN v _ rfl h1 (aR.append h2 q)
theorem zC{x:V}{v:Value}(r:aS cl h μ x v):aR cl h μ [x] [v]:=by simp only[rU,oH];exact dN v ([]) rfl r rfl
theorem aR.get:∀{xs:List V} {vs:List Value} (_:aR cl h μ xs vs) {i:Nat} {x:V},xs[i]? =some x->∃v,vs[i]? =some v/\aS cl h μ x v
 | [],_,_,i,x,hx=>by simp at hx
 |y::ys,_,r,i,x,hx=>by
  simp only[oH]at r
  refine cP r ?_;clear r;intro v q q2 h1 h2;subst q2
  cases i with
  |zero=>simp at hx;subst hx;exact aC v rfl h1
  |succ j=>simp at hx;simpa using aR.get h2 hx
theorem aR.Nd{xs:List V}(r:aR cl h μ xs vs){i:Nat}{v:Value}(hv:vs[i]? =some v):∃x,xs[i]? =some x/\aS cl h μ x v:=by
 have hl:=r.length
 have hi:i < xs.length:=by rw[hl];exact(XZ hv).1
 refine az (r.get (x:=xs[i]) (Yu hi)) λu hu hr=>?_
 rw[hv]at hu;cases hu
 exact aC _ (Yu hi) hr
theorem aR.of_get:∀{xs:List V} {vs:List Value},xs.length=vs.length->(∀(i:Nat) (x:V) (v:Value),xs[i]? =some x->vs[i]? =some v->aS cl h μ x v)->aR cl h μ xs vs
 | [],[],_,_=>by simp[rU]
 | [],_::_,hl,_=>by simp at hl
 |_::_,[],hl,_=>by simp at hl
 |x::xs,v::vs,hl,hr=>by
  simp only[oH]
  refine dN v vs rfl (hr 0 x v rfl rfl) (aR.of_get (by simpa using hl) λi y u hy hu=>hr (i+1) y u (by simpa using hy) (by simpa using hu))
theorem aR.Eo{xs:List V}(r:aR cl h μ xs vs)(n:Nat):aR cl h μ (xs.take n) (vs.take n):=
 aR.of_get (by simp[r.length]) λi x v hx hv=>by
  rw[List.getElem?_take]at hx hv
  split at hx
  ·rename_i hlt
   rw[Xz hlt]at hv
   refine az (r.get hx) λu hu hr=>?_
   rw[hv]at hu;cases hu;exact hr
  ·cases hx
theorem aR.En{xs:List V}(r:aR cl h μ xs vs)(n:Nat):aR cl h μ (xs.drop n) (vs.drop n):=
 aR.of_get (by simp[r.length]) λi x v hx hv=>by
  rw[List.getElem?_drop]at hx hv
  refine az (r.get hx) λu hu hr=>?_
  rw[hv]at hu;cases hu;exact hr
theorem aR.reverse:∀{xs:List V} {vs:List Value},aR cl h μ xs vs->aR cl h μ xs.reverse vs.reverse
 | [],_,r=>by simp only[rU]at r;subst r;simp[rU]
 |x::xs,_,r=>by
  simp only[oH]at r
  refine cP r ?_;clear r;intro v q q2 h1 h2;subst q2
  rw[List.reverse_cons,List.reverse_cons]
  exact(aR.reverse h2).append (zC h1)
theorem aR.Nc{xs:List V}(r:aR cl h μ xs vs):aR cl h μ xs.dropLast vs.dropLast:=by
 rw[List.dropLast_eq_take,List.dropLast_eq_take,r.length];exact r.Eo _
end
inductive wV(h:Heap)(μ:List Addr)(i:Nat)(z:Addr)(as bs:List Value)(j:Nat):Prop
 |mk (f0:Value) (u:Bool) (TI TO i1 i2 t1 t2:Addr) (n1 n2:Nat) (o1 o2:Value)
  (hz:h.get? z=some {cls:=.type "zip",dict:=none,data:=.fields #[f0,.bool u,.bool false,.ref TI,.ref TO],slots:=#[]}) (hf:f0=.none∨∃T,f0=rawInt T)
  (hO:μ[i+1]? =some TO) (h1:μ[i+2]? =some i1) (h2:μ[i+3]? =some i2) (aI:TI∉μ) (a1:t1∉μ) (a2:t2∉μ)
  (pI:IsPair h TI (.ref i1) (.ref i2)) (pO:IsPair h TO o1 o2) (r1:h.IsTupleIter i1 t1 j) (r2:h.IsTupleIter i2 t2 j) (g1:h.get? t1=some (j6 as n1)) (g2:h.get? t2=some (j6 bs n2))
inductive F2{α β:Type}(R:α->β->Prop):List α->List β->Prop
 |d8:F2 R [] []
 |eJ {a:α} {b:β} {as:List α} {bs:List β} (h:R a b) (t:F2 R as bs):F2 R (a::as) (b::bs)
section
variable {S:α'->β'->Prop}
theorem F2.Ls{f:α->α'}{g:β->β'}(r:F2 R as bs)(h:∀a b,R a b->S (f a) (g b)):F2 S (as.map f) (bs.map g):=by
 induction r with
 |d8=>exact .d8
 |eJ k _ ih=>exact .eJ (h _ _ k) ih
theorem F2.mM(r:F2 R as bs)(h:∀a b,R a b->T a b):F2 T as bs:=by
 induction r with
 |d8=>exact .d8
 |eJ k _ ih=>exact .eJ (h _ _ k) ih
theorem F2.Lu{a:α}{b:β}(r:F2 R as bs)(h:R a b):F2 R (as++[a]) (bs++[b]):=by
 induction r with
 |d8=>exact .eJ h .d8
 |eJ k _ ih=>exact .eJ k ih
theorem F2.Lq{p:α->Bool}{q:β->Bool}(r:F2 R as bs)(h:∀a b,R a b->p a=q b):F2 R (as.filter p) (bs.filter q):=by
 induction r with
 |d8=>exact .d8
 |eJ k _ ih=>
  rw[List.filter_cons,List.filter_cons,h _ _ k]
  split
  ·exact .eJ k ih
  ·exact ih
theorem F2.Du{p:α->Bool}{q:β->Bool}(r:F2 R as bs)(h:∀a b,R a b->p a=q b):as.any p=bs.any q:=by
 induction r with
 |d8=>rfl
 |eJ k _ ih=>rw[List.any_cons,List.any_cons,h _ _ k,ih]
theorem F2.Lr(r:F2 R as bs)(h:∀a b,b∈bs->R a b->T a b):F2 T as bs:=by
 induction r with
 |d8=>exact .d8
 |eJ k _ ih=>exact .eJ (h _ _ (XH ..) k) (ih λa b m=>h a b (XI _ m))
theorem F2.Lp{p:β->Prop}{b:β}(r:F2 R as bs)(hb:b∈bs)(h:∀a b,R a b->p b):p b:=by
 induction r with
 |d8=>cases hb
 |eJ k _ ih=>exact(XL hb).elim (λq=>q▸h _ _ k) ih
theorem F2.od(r:F2 R as bs):as.length=bs.length:=by
 induction r with
 |d8=>rfl
 |eJ _ _ ih=>exact XB (· +1) ih
end
noncomputable abbrev lO(L:dh)(h:Heap)(μ:List Addr)(c:Nat)(f:Nat×V)(e:DictEntry):Prop:=(fE c f.1=true/\∃t,e.key=.str (L.ct f.1) t)/\aS L.aF h μ f.2 e.val
structure Cx where
 bK:Program
 VP:World
 KN:dh
 cU:Heap
section
variable (Z:Cx)
noncomputable def dC(h:Heap)(μ:List Addr)(i:Nat)(x:Addr):O->Prop
 | .l xs=>∃vs n,h.get? x=some (ir vs n)/\aR Z.KN.aF h μ xs vs
 | .d es=>∃kvs:List (Int×Value),h.DictOf (intKind Z.bK Z.VP) x kvs/\F2 (λe y=>y.1=e.1/\aS Z.KN.aF h μ e.2 y.2) es kvs
 | .s es=>∃kvs:List (Str×Value),h.DictOf (strKind Z.bK Z.VP) x kvs/\F2 (λe y=>y.1=bp e.1/\aS Z.KN.aF h μ e.2 y.2) es kvs
 | .t es=>∃ks:List (List KV×Addr×Value),h.DictOfH (j5 Z.bK Z.VP) x ks/\F2 (λe y=>(y.1=e.1/\y.2.1∉μ)/\aS Z.KN.aF h μ e.2 y.2.2) es ks
 | .a c fs=>∃es n,h.get? x=some (dictOf es n)/\F2 (lO Z.KN h μ c) fs es
 | .i xs=>∃as bs:List Value,∃ps:List (V×V),∃j:Nat,wV h μ i x as bs j/\aR Z.KN.aF h μ (ps.map (·.1)) (((as.zip bs).drop j).map (·.1))/\aR Z.KN.aF h μ (ps.map (·.2)) (((as.zip bs).drop j).map (·.2))/\xs=ps.map λp=>.t [p.1,p.2]
 | .u=>True
noncomputable def O.tW:O->Bool
 | .u=>true
 |_=>false
noncomputable def O.fH:O->Bool
 | .d _=>true
 | .s _=>true
 | .t _=>true
 |_=>false
structure aU(h:Heap)(μ:List Addr)(σ:aj):Prop where
 eu:μ.length=σ.length
 jI:μ.Nodup
 dM:∀b o,Z.cU.get? b=some o->h.get? b=some o
 jH:∀b∈μ,Z.cU.get? b=none
 iU:∀b∈μ,∃o,h.get? b=some o
 fU:∀(i:Nat) (x:Addr) (o:O),μ[i]? =some x->σ[i]? =some o->dC Z h μ i x o
 iT:∀(i:Nat) (xs:List V),σ[i]? =some (.i xs)->∀j,j < 3->∃o,σ[i+1+j]? =some o/\o.tW=true
 ki:∃vs,Z.cU.IsList Z.KN.aF.Df vs.toArray/\IntsAre vs Z.KN.aF.vR
 jr:∀(i:Nat) (x:Addr) (o:O),μ[i]? =some x->σ[i]? =some o->o.fH=true->x≠sysModules
end
section
variable {Z:Cx}{h:Heap}
theorem wV.N6{i:Nat}{z:Addr}{as bs:List Value}{j:Nat}(r:wV h μ i z as bs j)(e:dl h μ h' μ')(hx:∀q,h.get? z=some q->h'.get? z=some q)
  (hz:∀j,j < 3->∀b,μ[i+1+j]? =some b->∀q,h.get? b=some q->h'.get? b=some q):wV h' μ' i z as bs j:=
 r.casesOn λf0 u TI TO i1 i2 t1 t2 n1 n2 o1 o2 k0 hf hO h1 h2 aI a1 a2 pI pO r1 r2 g1 g2=>
  ⟨f0,u,TI,TO,i1,i2,t1,t2,n1,n2,o1,o2,hx _ k0,hf,nK e.rD hO,nK e.rD h1,nK e.rD h2,e.rC pI aI rfl,e.rC g1 a1 rfl,e.rC g2 a2 rfl,
   e.lN _ _ pI aI rfl,hz 0 (by decide) TO hO _ pO,r1.at (hz 1 (by decide) i1 h1),r2.at (hz 2 (by decide) i2 h2),e.lN _ _ g1 a1 rfl,e.lN _ _ g2 a2 rfl⟩
theorem Hs{k:List KV}{a:Addr}(r:(j5 Z.bK Z.VP).is h k a)(hn:a∉μ)(e:dl h μ h' μ'):(j5 Z.bK Z.VP).is h' k a/\a∉μ':=
 let⟨o,items,n,ho,hc,hd,hi⟩:=r
 ⟨⟨o,items,n,e.lN _ _ ho hn (by unfold gm o6;rw[hd,hc];rfl),hc,hd,hi⟩,e.rC ho hn (by unfold o6;rw[hc];rfl)⟩
theorem U8(r:h.DictOfH (j5 Z.bK Z.VP) x ks)(hx:∀q,h.get? x=some q->h'.get? x=some q)(e:dl h μ h' μ')(hn:∀k∈ks,k.2.1∉μ):h'.DictOfH (j5 Z.bK Z.VP) x ks:=
 let⟨o,es',ep,q⟩:=r;⟨o,es',ep,hx _ q.1,q.2.1,q.2.2.1,q.2.2.2.1,λk hk=>(Hs (q.2.2.2.2.1 k hk) (hn k hk) e).1,q.2.2.2.2.2⟩
theorem U9(r:h.DictOfH (j5 Z.bK Z.VP) x ks){k:List KV×Addr×Value}(hk:k∈ks)(hn:k.2.1∉μ)(e:dl h μ h' μ'):k.2.1∉μ':=
 let⟨o,es',ep,q⟩:=r;(Hs (q.2.2.2.2.1 k hk) hn e).2
theorem dC.wE{i:Nat}{o:O}(r:dC Z h μ i x o)(e:dl h μ h' μ')(hx:∀q,h.get? x=some q->h'.get? x=some q)
  (hz:∀xs,o=.i xs->∀j,j < 3->∀b,μ[i+1+j]? =some b->∀q,h.get? b=some q->h'.get? b=some q):dC Z h' μ' i x o:=by
 cases o with
 |l xs=>exact r.imp λvs r=>r.imp λn r=>⟨hx _ r.1,r.2.extW e⟩
 |d es=>exact let⟨kvs,h1,h2⟩:=r;⟨kvs,h1.at hx,h2.mM λa b r=>⟨r.1,r.2.extW e⟩⟩
 |s es=>exact let⟨kvs,h1,h2⟩:=r;⟨kvs,h1.at hx,h2.mM λa b r=>⟨r.1,r.2.extW e⟩⟩
 |t es=>exact let⟨ks,h1,h2⟩:=r;⟨ks,U8 h1 hx e λk hk=>h2.Lp hk λa b r=>r.1.2,h2.Lr λa b hk r=>⟨⟨r.1.1,U9 h1 hk r.1.2 e⟩,r.2.extW e⟩⟩
 |a c fs=>exact let⟨es,n,h1,h2⟩:=r;⟨es,n,hx _ h1,h2.mM λ_ _ r=>⟨r.1,r.2.extW e⟩⟩
 |i xs=>exact r.imp λas r=>r.imp λbs r=>r.imp λps r=>r.imp λj r=>⟨r.1.N6 e hx (hz xs rfl),r.2.1.extW e,r.2.2.1.extW e,r.2.2.2⟩
 |u=>trivial
theorem dC.zD{i:Nat}{o:O}(r:dC Z h μ i x o)(e:dx h μ h' μ')(hx:∀q,h.get? x=some q->h'.get? x=some q)
  (hz:∀xs,o=.i xs->∀j,j < 3->∀b,μ[i+1+j]? =some b->∀q,h.get? b=some q->h'.get? b=some q):dC Z h' μ' i x o:=r.wE e.WC hx hz
theorem aU.at(I:aU Z h μ σ){i:Nat}{o:O}(hs:σ[i]? =some o):∃x,μ[i]? =some x/\x∈μ/\dC Z h μ i x o:=by
 have hi:i < μ.length:=by rw[I.eu];exact(XZ hs).1
 exact dK (μ[i]) (Yu hi) (List.getElem_mem hi) (I.fU i _ o (Yu hi) hs)
theorem AX{l:List Addr}(hn:l.Nodup){i j:Nat}(hi:l[i]? =some x)(hj:l[j]? =some x):i=j:=
 (List.getElem?_inj (XZ hi).1 hn).mp (hi.trans hj.symm)
theorem aU.Mu(I:aU Z h μ σ)(hk:∀b o,h.get? b=some o->h'.get? b=some o):aU Z h' μ σ/\dx h μ h' μ:=by
 have e:dx h μ h' μ:=⟨λb o hb _=>hk b o hb,Yn _,λb hb=>.inl hb⟩
 exact bm (⟨I.eu,I.jI,λb o hb=>hk b o (I.dM b o hb),I.jH,λb hb=>let⟨o,ho⟩:=I.iU b hb;⟨o,hk b o ho⟩,
  λi x o hx ho=>(I.fU i x o hx ho).zD e (λq=>hk x q) (λ_ _ _ _ b _ q=>hk b q),I.iT,I.ki,I.jr⟩) e
theorem mz{b:Addr}(hb:h.objs.size<=b):h.get? b=none:=by
 cases hg:h.get? b with
 |none=>rfl
 |some o=>exact absurd (Ys hg) (Zj hb)
theorem Kc{M:Nat->Addr->O->Prop}{o:O}(hl:μ.length=σ.length)(h:∀i x o,μ[i]? =some x->σ[i]? =some o->M i x o)(hn:M σ.length x o)(i:Nat)(y:Addr)(q:O)(hy:(μ++[x])[i]? =some y)(hq:(σ++[o])[i]? =some q):M i y q:=by
 rw[List.getElem?_append]at hy hq
 split at hq
 ·next c=>rw[Xz (hl▸c)]at hy;exact h i y q hy hq
 ·next c=>
  rw[XC (hl▸c),hl]at hy
  cases k:i - σ.length with
  |zero=>rw[k]at hy hq;cases hy;cases hq;exact Nat.le_antisymm (Nat.le_of_sub_eq_zero k) (Nat.le_of_not_lt c)▸hn
  |succ n=>rw[k]at hq;cases hq
theorem aU.DO(I:aU Z h μ σ){o:O}(hn:x∉μ)(h0:Z.cU.get? x=none)(hk:∀b q,h.get? b=some q->h'.get? b=some q)(hl:∃q,h'.get? x=some q)(e:dl h μ h' (μ++[x]))(hr:dC Z h' (μ++[x]) σ.length x o)(hi:∀xs,o≠.i xs)(hz:o.fH=true->x≠sysModules):
  aU Z h' (μ++[x]) (σ++[o]) where
 eu:=by rw[Xv,Xv,I.eu];rfl
 jI:=List.nodup_append.mpr ⟨I.jI,List.nodup_cons.mpr ⟨Ye,Zc⟩,λa ha b hb q=>hn (XG hb▸q▸ha)⟩
 dM:=λb o hb=>hk b o (I.dM b o hb)
 jH:=λb hb=>(XM hb).elim (I.jH b) λq=>XG q▸h0
 iU:=λb hb=>(XM hb).elim (λq=>(I.iU b q).imp λo=>hk b o) λq=>XG q▸hl
 fU:=Kc I.eu (M:=dC Z h' (μ++[x])) (λi y q hy hq=>(I.fU i y q hy hq).wE e (λq=>hk y q) (λ_ _ _ _ b _ q=>hk b q)) hr
 iT:=λi xs hq j hj=>by
  have hlt:i < σ.length:=Nat.lt_of_not_le λc=>by
   rw[YR c]at hq
   cases k:i - σ.length with
   |zero=>rw[k]at hq;exact hi xs (XA hq)
   |succ n=>rw[k]at hq;cases hq
  rw[Yl hlt]at hq
  exact(I.iT i xs hq j hj).imp λq r=>⟨by rw[Yl (XZ r.1).1];exact r.1,r.2⟩
 ki:=I.ki
 jr:=Kc I.eu (M:=λ_ x o=>o.fH=true->x≠sysModules) I.jr hz
theorem aU.eY(I:aU Z h μ σ)(hx:h.get? x=none):x∉μ/\Z.cU.get? x=none:=
 ⟨λhm=>let⟨q,hq⟩:=I.iU x hm;bN (hx.symm.trans hq),ZG λq hq=>bN (hx.symm.trans (I.dM x q hq))⟩
theorem aU.DL(I:aU Z h μ σ){o:O}(hx:h.get? x=none)(hk:∀b q,h.get? b=some q->h'.get? b=some q)(hl:∃q,h'.get? x=some q)
  (hr:dx h μ h' (μ++[x])->dC Z h' (μ++[x]) σ.length x o) (hi:∀xs,o≠.i xs) (hz:o.fH=true->x≠sysModules):aU Z h' (μ++[x]) (σ++[o])/\dx h μ h' (μ++[x]):=
 have e:dx h μ h' (μ++[x]):=⟨λb o hb _=>hk b o hb,Yk _ _,λb hb=>(XM hb).imp id λq=>by cases XG q;exact hx⟩
 ⟨I.DO (I.eY hx).1 (I.eY hx).2 hk hl e.WC (hr e) hi hz,e⟩
theorem aU.DN(I:aU Z h μ σ){o:O}{obj:Obj}(hD:h.get? D=some obj)(hl:o6 obj=true)(hn:D∉μ)(h0:Z.cU.get? D=none)(hi:∀xs,o≠.i xs)
  (hr:dl h μ h (μ++[D])->dC Z h (μ++[D]) σ.length D o) (hz:o.fH=true->D≠sysModules):aU Z h (μ++[D]) (σ++[o])/\dl h μ h (μ++[D]):=
 have e:dl h μ h (μ++[D]):=⟨λb o hb _ _=>hb,Yk _ _,λb hb=>(XM hb).imp id λq o ho=>by cases XG q;cases hD.symm.trans ho;exact hl⟩
 ⟨I.DO hn h0 (λ_ _ q=>q) ⟨_,hD⟩ e (hr e) hi hz,e⟩
theorem ym{M:Nat->Addr->O->Prop}{i:Nat}(hx:μ[i]? =some x)(hlt:i < σ.length)(h:∀j y q,i≠j->μ[j]? =some y->σ[j]? =some q->M j y q)(hn:M i x o')(j:Nat)(y:Addr)(q:O)(hy:μ[j]? =some y)(hq:(σ.set i o')[j]? =some q):M j y q:=by
 by_cases c:i=j
 ·subst c;rw[Zz hlt]at hq;cases hq;cases hx.symm.trans hy;exact hn
 ·rw[Y4 c]at hq;exact h j y q c hy hq
theorem aU.y'(I:aU Z h μ σ){i:Nat}{o:O}(hx:μ[i]? =some x)(ho:σ[i]? =some o)(hn:o.tW=false)(hi:∀xs,o'≠.i xs)
  (hs:∀b q,b≠x->h.get? b=some q->h'.get? b=some q) (hl:∃q,h'.get? x=some q)
  (hr:dx h μ h' μ->dC Z h' μ i x o') (hz:o'.fH=true->o.fH=true):aU Z h' μ (σ.set i o')/\dx h μ h' μ:=by
 have hm:x∈μ:=Yo hx
 have e:dx h μ h' μ:=⟨λb q hb c=>hs b q (λk=>c (k▸hm)) hb,Yn _,λb=>.inl⟩
 have hlt:i < σ.length:=(XZ ho).1
 have ne:∀{j:Nat} {y:Addr},i≠j->μ[j]? =some y->y≠x:=λc hy k=>c (AX I.jI hx (k▸hy))
 have na:∀{j:Nat} {xs:List V} {k:Nat},σ[j]? =some (.i xs)->k < 3->i≠j+1+k:=λhq hk c=>by
  refine az (I.iT _ _ hq _ hk) λr h1 h2=>?_
  rw[<-c,ho]at h1;cases h1;rw[hn]at h2;cases h2
 exact bm ({
   eu:=by rw[XN];exact I.eu
   jI:=I.jI
   dM:=λb q hb=>hs b q (λk=>bN ((I.jH x hm).symm.trans (k▸hb))) (I.dM b q hb)
   jH:=I.jH
   iU:=λb hb=>(Decidable.em (b=x)).elim (λk=>k▸hl) λk=>(I.iU b hb).imp λq=>hs b q k
   fU:=ym (M:=dC Z h' μ) hx hlt (λj y q c hy hq=>(I.fU j y q hy hq).zD e (λp=>hs y p (ne c hy)) λxs k l hl b hb p=>hs b p (ne (na (k▸hq) hl) hb)) (hr e)
   iT:=λj xs hq k hk=>by
    by_cases c:i=j
    ·subst c;rw[Zz hlt]at hq;exact absurd (XA hq) (hi xs)
    ·rw[Y4 c]at hq
     exact(I.iT j xs hq k hk).imp λr q=>⟨by rw[Y4 (na hq hk)];exact q.1,q.2⟩
   ki:=I.ki
   jr:=ym (M:=λ_ x o=>o.fH=true->x≠sysModules) hx hlt (λj y q c hy hq=>I.jr j y q hy hq) λk=>I.jr i x o hx ho (hz k)}) e
end
variable {Z:Cx}
noncomputable def NE:Value->Shared->Prop:=λ_ _=>False
noncomputable abbrev Wp(Z:Cx)(A:Around)(m:Sem α)(Q:α->Shared->Prop)(s:Shared):Prop:=wpAny (model Z.bK Z.VP) A m Q NE s
structure br(Z:Cx)(s:Shared)(μ:List Addr)(s':Shared)(μ':List Addr)(σ':aj):Prop where
 jR:s'.gens=s.gens/\s'.drawn=s.drawn/\s'.os=s.os
 eN:aU Z s'.heap μ' σ'
 bJ:dx s.heap μ s'.heap μ'
inductive R1(Z:Cx)(s:Shared)(μ:List Addr)(x:V)(σ':aj)(v:Value)(s':Shared):Prop
 |mk (μ':List Addr) (st:br Z s μ s' μ' σ') (r:aS Z.KN.aF s'.heap μ' x v)
inductive RU(Z:Cx)(s:Shared)(μ:List Addr)(σ':aj){α:Type}(u:α)(s':Shared):Prop
 |mk (μ':List Addr) (st:br Z s μ s' μ' σ')
structure Rq(A:Around):Prop where
 Wn:A.handled=none
 WU:A.units+1010 < cLine
structure qe(h₀:Heap):Prop where
 ND:h₀.NoLimit
noncomputable def z7:tG->Operator
 | .a=>.Add
 | .s=>.Sub
 | .u=>.Mult
 | .f=>.FloorDiv
 | .m=>.Mod
noncomputable def kC(op:tG)(a b:V)(σ:aj)(x:V)(σ':aj):Prop:=∀(Z:Cx) (A:Around) (s:Shared) (μ:List Addr) (va vb:Value),aU Z s.heap μ σ->aS Z.KN.aF s.heap μ a va->aS Z.KN.aF s.heap μ b vb->Wp Z A (binaryOp (z7 op) va vb) (R1 Z s μ x σ') s
noncomputable def gu(f:Value)(args:List V)(σ:aj)(x:V)(σ':aj):Prop:=∀(Z:Cx) (A:Around) (s:Shared) (μ:List Addr) (vs:List Value),qe Z.cU->Rq A->aU Z s.heap μ σ->aR Z.KN.aF s.heap μ args vs->Wp Z A (call f vs) (R1 Z s μ x σ') s
noncomputable abbrev Pr(f:V->aj->Prop)(v:V)(σ':aj):Prop:=f v σ'
noncomputable abbrev lY(f:aj->Prop)(σ':aj):Prop:=f σ'
section
variable {s:Shared}{x y:V}{a b i j k:Nat}{xs ys:List V}{v:Value}{m n:Int}{p t:List Nat}
theorem br.oK(I:aU Z s.heap μ σ):br Z s μ s μ σ:=⟨⟨rfl,rfl,rfl⟩,I,yW _ _⟩
theorem br.ED(I:aU Z s.heap μ σ)(t:Nat):br Z s μ {s with toks:=t} μ σ:=⟨⟨rfl,rfl,rfl⟩,I,yW _ _⟩
theorem br.d0(a:br Z s μ s' μ' σ')(b:br Z s' μ' s'' μ'' σ''):br Z s μ s'' μ'' σ'':=
 ⟨⟨b.jR.1.trans a.jR.1,b.jR.2.1.trans a.jR.2.1,b.jR.2.2.trans a.jR.2.2⟩,b.eN,a.bJ.Lm b.bJ⟩
theorem iH(I:aU Z s.heap μ σ)(hk:∀b o,s.heap.get? b=some o->h'.get? b=some o)(t:Nat):br Z s μ {s with heap:=h',toks:=t} μ σ:=
 let⟨I',e⟩:=I.Mu hk;⟨⟨rfl,rfl,rfl⟩,I',e⟩
theorem R1.t8(st:br Z s μ s' μ' σ')(r:R1 Z s' μ' x σ'' v s''):R1 Z s μ x σ'' v s'':=r.casesOn λm h r=>⟨m,st.d0 h,r⟩
theorem VE{u:α}(st:br Z s μ s' μ' σ')(r:RU Z s' μ' σ'' u s''):RU Z s μ σ'' u s'':=r.casesOn λm h=>⟨m,st.d0 h⟩
theorem R1.id(I:aU Z s.heap μ σ)(r:aS Z.KN.aF s.heap μ x v):R1 Z s μ x σ v s:=⟨μ,.oK I,r⟩
theorem R1.ky(I:aU Z s.heap μ σ){t:Nat}(r:aS Z.KN.aF s.heap μ x v):R1 Z s μ x σ v {s with toks:=t}:=⟨μ,.ED I t,r⟩
theorem R1.jM(I:aU Z s.heap μ σ){t:Nat}{u:Tok}:R1 Z s μ (.i m) σ (.int m u) {s with toks:=t}:=.ky I ⟨u,rfl⟩
theorem R1.t9(I:aU Z s.heap μ σ){t:Nat}{u:Tok}:R1 Z s μ (.s p) σ (.str (bp p) u) {s with toks:=t}:=.ky I ⟨u,rfl⟩
theorem R1.ku(I:aU Z s.heap μ σ){t:Nat}{u:Bool}:R1 Z s μ (.b u) σ (.bool u) {s with toks:=t}:=.ky I rfl
theorem Wp.bZ{m:Sem α}{Q R:α->Shared->Prop}(h:Wp Z A m Q s)(k:∀a s',Q a s'->R a s'):Wp Z A m R s:=wpAny_mono h k λ_ _ x=>x
theorem nA{M:Model}{m:Sem α}{Q:α->Shared->Prop}(h:wpAny M A m Q NE s):wpAny M A m Q E s:=wpAny_mono h (λ_ _ x=>x) λ_ _ x=>x.elim
theorem lB{m:Sem Value}(st:br Z s μ s' μ' σ')(h:Wp Z A m (R1 Z s' μ' x σ'') s'):Wp Z A m (R1 Z s μ x σ'') s':=h.bZ λ_ _ r=>r.t8 st
theorem kj{n:Nat}(h:n<=aK):n<=sizeLine:=Xs h (by rw[sizeLine_eq];decide)
theorem lI(r:aR Z.KN.aF s.heap μ xs vs)(h:aD xs):vs.toArray.size<=sizeLine:=kj (by rw[Yx,<-r.length];exact h)
theorem VC{h:Heap}(I:aU Z h μ σ)(hn:h.get? D=none):D∉μ:=(I.eY hn).1
theorem H9(I:aU Z s.heap μ σ)(r:aR Z.KN.aF s.heap μ xs vs){t:Nat}{n:Nat}(hk:∀b o,s.heap.get? b=some o->h'.get? b=some o)(hn:s.heap.get? D=none)(hD:h'.get? D=some (j6 vs n)):
  R1 Z s μ (.t xs) σ (.ref D) {s with heap:=h',toks:=t}:=
 have st:=iH I hk t
 ⟨μ,st,D,vs,n,rfl,hD,(I.eY hn).1,r.li st.bJ⟩
theorem u0(I:aU Z s.heap μ σ)(r:aR Z.KN.aF s.heap μ xs vs){t:Nat}{n:Nat}(hk:∀b o,s.heap.get? b=some o->h'.get? b=some o)(hn:s.heap.get? D=none)(hD:h'.get? D=some (ir vs n)):
  R1 Z s μ (.r σ.length) (σ++[.l xs]) (.ref D) {s with heap:=h',toks:=t}:=
 let⟨I',e⟩:=I.DL (o:=.l xs) hn hk ⟨_,hD⟩ (λe=>⟨vs,n,hD,r.li e⟩) (λ_ h=>nomatch h) (λh=>nomatch h)
 ⟨_,⟨⟨rfl,rfl,rfl⟩,I',e⟩,D,by rw[<-I.eu,YR (Xx _),Nat.sub_self];rfl,rfl⟩
theorem iB{h:Heap}:h.get? h.objs.size=none:=mz (Xx _)
theorem BK(I:aU Z s.heap μ σ){as:Array Value}(r:aR Z.KN.aF s.heap μ xs as.toList){t:Nat}:R1 Z s μ (.t xs) σ (.ref s.heap.objs.size) {s with heap:=s.heap.push {cls:=.type "tuple",data:=.seq as},toks:=t}:=
 H9 (n:=0) I r (λb o hb=>XO _ hb) iB (by rw[Yg _ rfl])
theorem uZ(I:aU Z s.heap μ σ){as:Array Value}(r:aR Z.KN.aF s.heap μ xs as.toList){t:Nat}:R1 Z s μ (.r σ.length) (σ++[.l xs]) (.ref s.heap.objs.size) {s with heap:=s.heap.push {cls:=.type "list",data:=.seq as},toks:=t}:=
 u0 (n:=0) I r (λb o hb=>XO _ hb) iB (by rw[Yg _ rfl])
inductive MC(L:dh)(μ:List Addr)(h:Heap)(i:Nat)(v:Value)(xs:List V):Prop
 |mk (x:Addr) (vs:List Value) (n:Nat) (hx:μ[i]? =some x) (e:v=.ref x) (ho:h.get? x=some (ir vs n)) (r:aR L.aF h μ xs vs)
inductive NT(μ:List Addr)(cl:dO)(h:Heap)(v:Value)(xs:List V):Prop
 |mk (x:Addr) (vs:List Value) (n:Nat) (e:v=.ref x) (ho:h.get? x=some (j6 vs n)) (hx:x∉μ) (r:aR cl h μ xs vs)
theorem iA(I:aU Z s.heap μ σ)(r:aS Z.KN.aF s.heap μ (.r i) v)(hs:σ[i]? =some (.l xs)):MC Z.KN μ s.heap i v xs:=by
 refine az r ?_;clear r;intro x hx e;refine dY (I.fU i x _ hx hs) λvs n h1 h2=>?_;exact⟨x,vs,n,hx,e,h1,h2⟩
theorem d6(r:aS cl hh μ (.t xs) va):NT μ cl hh va xs:=by refine u9 r ?_;clear r;intro x vs n h1 h2 h3 h4;exact⟨x,vs,n,h1,h2,h3,h4⟩
theorem dJ{h:Heap}{x:Addr}{n:Nat}(ha:h.get? x=some (j6 vs n)):h.IsTuple x vs.toArray:=⟨_,ha,rfl,_,rfl⟩
theorem dX{h:Heap}{x:Addr}{n:Nat}(ha:h.get? x=some (ir vs n)):h.IsList x vs.toArray:=⟨_,ha,rfl,_,rfl⟩
theorem vL{z:V}(h:∀(Z:Cx) (A:Around) (s:Shared) (μ:List Addr) (t u:Tok),aU Z s.heap μ σ->Wp Z A (binaryOp (z7 op) (.int m t) (.int n u)) (R1 Z s μ z σ') s):Pr (kC op (.i m) (.i n) σ) z σ':=
 λZ A s μ va vb I ⟨t,ra⟩ ⟨u,rb⟩=>ra▸rb▸h Z A s μ t u I
theorem iy:Pr (kC .a (.i m) (.i n) σ) (.i (m+n)) σ:=vL λZ A s μ t u I=>wpAny_add_int (.jM I)
theorem j2:Pr (kC .s (.i m) (.i n) σ) (.i (m - n)) σ:=vL λZ A s μ t u I=>PyProof.Rows.sub_int (.jM I)
theorem Cl(h:0<=m/\m<=bY/\0<=n/\n<=bY):Pr (kC .u (.i m) (.i n) σ) (.i (m * n)) σ:=vL λZ A s μ t u I=>
 PyProof.Rows.mul_int (.jM I) (IntMulOk.of_left (intBits_le_64 (by unfold bY at h;lia) (by unfold bY at h;lia)))
theorem Sx(hy:0 < n)(hz:n<=aK):Pr (kC .f (.i m) (.i n) σ) (.i (m / n)) σ:=vL λZ A s μ t u I=>
 floordiv_int (Int.ne_of_gt hy) (by rw[Int.fdiv_eq_ediv_of_nonneg _ (Int.le_of_lt hy)];exact .jM I) (.inl (PyProof.noPylong_small (Int.natAbs_of_nonneg (Int.le_of_lt hy)▸by unfold aK at hz;lia)))
theorem sY(hy:0 < n):Pr (kC .m (.i m) (.i n) σ) (.i (m % n)) σ:=vL λZ A s μ t u I=>
 mod_int' (Int.ne_of_gt hy) (by rw[Int.fmod_eq_emod_of_nonneg _ (Int.le_of_lt hy)];exact .jM I)
theorem nJ(h:aD (p++t)):Pr (kC .a (.s p) (.s t) σ) (.s (p++t)) σ:=λZ A s μ va vb I ⟨u,ra⟩ ⟨w,rb⟩=>by
 subst ra rb
 exact PyProof.Rows.add_str (λt' tk=>by rw[show bp p++bp t=bp (p++t) from XB Str.mk (List.append_toArray p t)];exact .t9 I) (by rw[kU,kU,<-Xv];exact kj h)
theorem vk(h:aD (xs++ys)):Pr (kC .a (.t xs) (.t ys) σ) (.t (xs++ys)) σ:=λZ A s μ va vb I ra rb=>by
 obtain⟨l,vs,n,rfl,hl,nl,rl⟩:=d6 ra
 obtain⟨b,us,m,rfl,hb,nb,rb'⟩:=d6 rb
 refine(?_:Wp Z A (binaryOp .Add _ _) _ _)
 by_cases h1:vs.toArray.isEmpty=true
 ·refine concat_meets ⟨_,hl,rfl⟩ ⟨_,hb,rfl⟩ noFill_tuple_add seq_tuple_add PySem.F.slot_tuple_add PySem.F.entry_tuple_add (PySem.F.args_tuple_add_2 _ _) (AutoSeq1.tuple___add___tuple_tuple_0 l vs.toArray n b us.toArray m h1) ⟨hl,hb,?_⟩
  cases vs with
  |nil=>cases Zo rl.length;exact .ky I rb
  |cons _ _=>cases h1
 ·by_cases h2:us.toArray.isEmpty=true
  ·refine concat_meets ⟨_,hl,rfl⟩ ⟨_,hb,rfl⟩ noFill_tuple_add seq_tuple_add PySem.F.slot_tuple_add PySem.F.entry_tuple_add (PySem.F.args_tuple_add_2 _ _) (AutoSeq1.tuple___add___tuple_tuple_1 l vs.toArray n b us.toArray m h1 h2) ⟨hl,hb,?_⟩
   cases us with
   |nil=>cases Zo rb'.length;rw[Yi];exact .ky I ra
   |cons _ _=>cases h2
  ·exact PySem.P.add_tuple hl hb h1 h2 (BK I (by rw[Array.toList_append];exact rl.append rb')) (by rw[<-Array.size_append];exact kj (by rw[Array.size_append,Yx,Yx,<-rl.length,<-rb'.length,<-Xv];exact h))
theorem pf(ha:σ[a]? =some (.l xs))(hb:σ[b]? =some (.l ys))(h:aD (xs++ys)):Pr (kC .a (.r a) (.r b) σ) (.r σ.length) (σ++[.l (xs++ys)]):=λZ A s μ va vb I ra rb=>by
 obtain⟨l,vs,n,_,rfl,hl,rl⟩:=iA I ra ha
 obtain⟨b,us,m,_,rfl,hb,rb'⟩:=iA I rb hb
 exact PySem.P.add_list hl hb (uZ I (by rw[Array.toList_append];exact rl.append rb')) (kj (by rw[Yx,Yx,<-rl.length,<-rb'.length,<-Xv];exact h))
end
noncomputable def fO:pC->CmpOp
 | .e=>.Eq
 | .n=>.NotEq
 | .l=>.Lt
 | .a=>.LtE
 | .g=>.Gt
 | .s=>.Is
 | .i=>.In
 | .o=>.NotIn
inductive kZ:V->V->Bool->Prop
 |ii (x y:Int):kZ (.i x) (.i y) (decide (x=y))
 |ss (x y:List Nat):kZ (.s x) (.s y) (decide (x=y))
 |tt (xs ys:List V) (r:Bool) (h:fY xs ys=some r):kZ (.t xs) (.t ys) r
 |is (x:Int) (y:List Nat):kZ (.i x) (.s y) false
 |si (x:List Nat) (y:Int):kZ (.s x) (.i y) false
 |it (x:Int) (ys:List V):kZ (.i x) (.t ys) false
 |ti (xs:List V) (y:Int):kZ (.t xs) (.i y) false
 |st (x:List Nat) (ys:List V):kZ (.s x) (.t ys) false
 |ts (xs:List V) (y:List Nat):kZ (.t xs) (.s y) false
theorem Ar{a b:V}{r:Bool}(h:gY a b=some r):kZ a b r:=by
 rcases a with _ |_ |x |x |x |_ |_ |_<;>first |exact bN h | (rcases b with _ |_ |y |y |y |_ |_ |_<;>first |exact bN h |exact .tt x y r h |exact XA h▸.ii x y |exact XA h▸.ss x y |exact XA h▸.is x y |exact XA h▸.si x y |exact XA h▸.it x y |exact XA h▸.ti x y |exact XA h▸.st x y |exact XA h▸.ts x y)
theorem FY{x y:V}{xs ys:List V}{r:Bool}{M:Prop}(h:fY (x::xs) (y::ys)=some r)(k:∀b c,gY x y=some b->fY xs ys=some c->r=(b&&c)->M):M:=by
 have h:vh (gY x y) (fY xs ys)=some r:=h
 cases h1:gY x y with
 |none=>rw[h1]at h;exact bN h
 |some b=>cases h2:fY xs ys with
  |none=>rw[h1,h2]at h;exact bN h
  |some c=>rw[h1,h2]at h;cases h;exact k b c h1 h2 rfl
section
variable {s:Shared}{x y a b:V}{xs ys:List V}{v:Value}{ws:List Value}{r:Bool}{n:Nat}
theorem FZ{M:V->Bool->Prop}(h:gY (.t xs) b=some r)(k1:∀ys r,fY xs ys=some r->M (.t ys) r)(k2:∀y,M (.i y) false)(k3:∀y,M (.s y) false):M b r:=by
 rcases b with _ |_ |y |y |ys |_ |_ |_<;>first |exact bN h |skip
 ·exact XA h▸k2 y
 ·exact XA h▸k3 y
 ·exact k1 ys r h
theorem Va{m:Nat}(h:some (j6 us n)=some (j6 ws m)):ws=us:=by
 injection h with h;injection h with _ _ h;injection h with h;injection h with h;exact h.symm
theorem aR.no{M:Prop}(r:aR cl hh μ (x::xs) []):M:=by refine dY r ?_;clear r;intro v q h _;exact absurd h (List.cons_ne_nil v q).symm
noncomputable def Ez(cl:dO)(hh:Heap)(μ:List Addr)(n:Nat):Prop:=∀(a b:V) (v:Value) (r:Bool),a.dep<=n->aS cl hh μ a v->aS cl hh μ b v->gY a b=some r->r=true
theorem Ul(H:Ez cl hh μ n)(xs:List V):∀(ys:List V) (us:List Value) (r:Bool),V.deps xs<=n->aR cl hh μ xs us->aR cl hh μ ys us->fY xs ys=some r->r=true:=by
 induction xs with
 |nil=>intro ys us r hd ra rb e;cases ra;cases ys with
  |nil=>cases e;rfl
  |cons _ _=>exact rb.no
 |cons x xs ih=>intro ys us r hd ra rb e;cases ys with
  |nil=>cases rb;exact ra.no
  |cons y ys=>
   refine cP ra ?_;clear ra;intro v q q2 h1 h2;subst q2
   refine cP rb ?_;clear rb;intro _ _ hq g1 g2
   cases hq
   exact FY e λb c e1 e2 q=>by rw[q,H x y v b (Xs (Nat.le_max_left ..) hd) h1 g1 e1,ih ys _ c (Xs (Nat.le_max_right ..) hd) h2 g2 e2];rfl
theorem PJ(n:Nat):Ez cl hh μ n:=by
 induction n with
 |zero=>
  intro a b v r hd ra rb e
  have w:=Ar e
  clear e
  induction w with
  |ii x y=>refine aT ra ?_;clear ra;intro t q1;subst q1;refine aT rb ?_;clear rb;intro u hu;exact XT (Value.int.inj hu).1
  |ss x y=>refine aT ra ?_;clear ra;intro t q1;subst q1;refine aT rb ?_;clear rb;intro u hu;exact XT (nS (Value.str.inj hu).1)
  |tt xs ys r h=>exact absurd hd (ZB _)
  |is x y=>refine aT ra ?_;clear ra;intro t q1;subst q1;refine aT rb ?_;clear rb;intro u hu;exact Value.noConfusion hu
  |si x y=>refine aT ra ?_;clear ra;intro t q1;subst q1;refine aT rb ?_;clear rb;intro u hu;exact Value.noConfusion hu
  |it x y=>refine aT ra ?_;clear ra;intro t q1;subst q1;refine sW rb ?_;clear rb;intro u _ _ hu _;exact Value.noConfusion hu
  |ti x y=>exact absurd hd (ZB _)
  |st x y=>refine aT ra ?_;clear ra;intro t q1;subst q1;refine sW rb ?_;clear rb;intro u _ _ hu _;exact Value.noConfusion hu
  |ts x y=>exact absurd hd (ZB _)
 |succ n ih=>
  intro a b v r hd ra rb e
  cases a with
  |t xs=>
   obtain⟨x,us,n,rfl,hx,_,hr⟩:=d6 ra
   refine FZ (M:=λb r=>aS cl hh μ b (.ref x)->r=true) e (λys r h rb=>?_) (λy ⟨u,hu⟩=>Value.noConfusion hu) (λy ⟨u,hu⟩=>Value.noConfusion hu) rb
   obtain⟨z,ws,m,hz,hw,_,hr'⟩:=d6 rb
   exact Ul ih xs ys us r (Nat.le_of_succ_le_succ hd) hr (Va (hx.symm.trans (Value.ref.inj hz▸hw))▸hr') h
  |_=>exact ih _ b v r (Xw _) ra rb e
open PySem.SeqAt in
noncomputable def Da(s:Shared)(cl:dO)(μ:List Addr)(n:Nat):Prop:=∀(a b:V) (A:Around) (va vb:Value) (r:Bool),a.dep<=n->aS cl s.heap μ a va->aS cl s.heap μ b vb->gY a b=some r->A.units+n+1 < cLine->EqAt A s va vb r
open PySem.SeqAt in
inductive KO(A:Around)(s:Shared)(us ws:List Value)(r:Bool):Prop
 |mk (f:Nat->Bool) (h:∀(j:Nat) (h1:j < us.toArray.size) (h2:j < ws.toArray.size),EqAt A s us.toArray[j] ws.toArray[j] (f j)) (e:((List.range (min us.toArray.size ws.toArray.size)).all f&&us.toArray.size==ws.toArray.size)=r)
theorem E9(H:Da s cl μ n)(hu:A.units+n+1 < cLine)(xs:List V):∀(ys:List V) (us ws:List Value) (r:Bool),V.deps xs<=n->aR cl s.heap μ xs us->aR cl s.heap μ ys ws->fY xs ys=some r->KO A s us ws r:=by
 induction xs with
 |nil=>
  intro ys us ws r hd ra rb e;obtain rfl:us=[]:=ra;rcases ys with _ | ⟨y,ys⟩
  ·obtain rfl:ws=[]:=rb;rw[<-XA e];exact⟨λ_=>true,λj h=>absurd h (Y5 _),rfl⟩
  ·refine dY rb ?_;clear rb;intro v' q' q2 _;subst q2;rw[<-XA e];exact⟨λ_=>true,λj h=>absurd h (Y5 _),by simp⟩
 |cons x xs ih=>
  intro ys us ws r hd ra rb e
  refine cP ra ?_;clear ra;intro v q q2 h1 h2;subst q2
  rcases ys with _ | ⟨y,ys⟩
  ·obtain rfl:ws=[]:=rb;rw[<-XA e];exact⟨λ_=>true,λj _ h=>absurd h (Y5 _),by simp⟩
  ·refine cP rb ?_;clear rb;intro v' q' q2 g1 g2;subst q2
   exact FY e λb c e1 e2 k=>by
    obtain⟨f,hf,hall⟩:=ih ys q q' c (Xs (Nat.le_max_right ..) hd) h2 g2 e2
    refine⟨λj=>Nat.casesOn j b f,λj i1 i2=>?_,?_⟩
    ·cases j with
     |zero=>exact H x y A v v' b (Xs (Nat.le_max_left ..) hd) h1 g1 e1 hu
     |succ j=>exact hf j (Nat.lt_of_succ_lt_succ i1) (Nat.lt_of_succ_lt_succ i2)
    ·rw[k,<-hall,<-Bool.and_assoc]
     refine(?_:((List.range (min (q.length+1) (q'.length+1))).all _&&(q.length+1==q'.length+1))=(b&&(List.range (min q.length q'.length)).all f&&q.length==q'.length))
     rw[Nat.add_min_add_right,List.range_succ_eq_map,YU,List.all_map,show(q.length+1==q'.length+1)=(q.length==q'.length) by simp]
     rfl
open PySem.SeqAt in
theorem PH(n:Nat):Da s cl μ n:=by
 induction n with
 |zero=>
  intro a b A va vb r hd ra rb e hu
  have w:=Ar e
  clear e
  induction w with
  |ii x y=>refine aT ra ?_;clear ra;intro t q1;subst q1;refine aT rb ?_;clear rb;intro u q1;subst q1;exact EqAt.int_int _ _ _ _
  |ss x y=>refine aT ra ?_;clear ra;intro t q1;subst q1;refine aT rb ?_;clear rb;intro u q1;subst q1;exact(show decide (x=y)=(bp x==bp y) from Bool.eq_iff_iff.mpr (by rw[decide_eq_true_iff,beq_iff_eq];exact⟨XB bp,nS⟩))▸EqAt.str_str _ _ _ _
  |is x y=>refine aT ra ?_;clear ra;intro t q1;subst q1;refine aT rb ?_;clear rb;intro u q1;subst q1;exact EqAt.int_str _ _ _ _
  |si x y=>refine aT ra ?_;clear ra;intro t q1;subst q1;refine aT rb ?_;clear rb;intro u q1;subst q1;exact EqAt.str_int _ _ _ _
  |it x y=>refine aT ra ?_;clear ra;intro t q1;subst q1;obtain⟨_,_,_,rfl,hz,_⟩:=d6 rb;exact EqAt.int_tuple _ _ (dJ hz) (Nat.lt_of_succ_lt hu)
  |st x y=>refine aT ra ?_;clear ra;intro t q1;subst q1;obtain⟨_,_,_,rfl,hz,_⟩:=d6 rb;exact EqAt.str_tuple _ _ (dJ hz) (Nat.lt_of_succ_lt hu)
  |tt xs ys r h=>exact absurd hd (ZB _)
  |ti x y=>exact absurd hd (ZB _)
  |ts x y=>exact absurd hd (ZB _)
 |succ n ih=>
  intro a b A va vb r hd ra rb e hu
  have hu0:A.units < cLine:=YH (XS _ _) (Nat.lt_of_succ_lt hu)
  cases a with
  |t xs=>
   have ra0:=ra
   obtain⟨x,us,m,rfl,hx,_,hr⟩:=d6 ra
   refine FZ (M:=λb r=>gY (.t xs) b=some r->aS cl s.heap μ b vb->EqAt A s (.ref x) vb r) e (λys r h e rb=>?_) (λy e ⟨u,hu⟩=>hu▸EqAt.tuple_int _ _ (dJ hx) hu0) (λy e ⟨u,hu⟩=>hu▸EqAt.tuple_str _ _ (dJ hx) hu0) e rb
   ·have rb0:=rb
    obtain⟨z,ws,m,rfl,hz,_,hr'⟩:=d6 rb
    by_cases c:x=z
    ·subst c
     rw[PJ _ _ _ _ _ (Xx _) ra0 rb0 e]
     exact EqAt.same _
    ·obtain⟨f,hf,hall⟩:=E9 (A:=A.in1) ih (by refine(?_:A.units+1+n+1 < cLine);rw[Nat.add_right_comm A.units];exact hu) xs ys us ws r (Nat.le_of_succ_le_succ hd) hr hr' h
     exact EqAt.of_refs c (hall▸RcAt.tuples (dJ hx) (dJ hz) hu0 hf)
  |_=>exact ih _ b A va vb r (Xw _) ra rb e (YH (YS (Yp _) 1) hu)
noncomputable def zB(A:Around)(s:Shared)(va vb:Value)(r:Bool):Prop:=SeqAt.RcAt A s va vb r/\SeqAt.RcNeAt A s va vb (!r)
theorem T9(hu:A.units+1010 < cLine)(ra:aS cl s.heap μ a va)(rb:aS cl s.heap μ b vb)(e:kZ a b r)(hd:a.dep<=1000):zB A s va vb r:=by
 have hu0:A.units < cLine:=YH (XS _ _) hu
 induction e with
 |ii x y=>refine aT ra ?_;clear ra;intro t q1;subst q1;refine aT rb ?_;clear rb;intro u q1;subst q1;exact bm (SeqAt.RcAt.int_int _ _ _ _) (SeqAt.RcNeAt.int_int _ _ _ _)
 |ss x y=>refine aT ra ?_;clear ra;intro t q1;subst q1;refine aT rb ?_;clear rb;intro u q1;subst q1;exact(show decide (x=y)=(bp x==bp y) from Bool.eq_iff_iff.mpr (by rw[decide_eq_true_iff,beq_iff_eq];exact⟨XB bp,nS⟩))▸⟨SeqAt.RcAt.str_str _ _ _ _,SeqAt.RcNeAt.str_str _ _ _ _⟩
 |is x y=>refine aT ra ?_;clear ra;intro t q1;subst q1;refine aT rb ?_;clear rb;intro u q1;subst q1;exact bm (SeqAt.RcAt.int_str _ _ _ _) (SeqAt.RcNeAt.int_str _ _ _ _)
 |si x y=>refine aT ra ?_;clear ra;intro t q1;subst q1;refine aT rb ?_;clear rb;intro u q1;subst q1;exact bm (SeqAt.RcAt.str_int _ _ _ _) (SeqAt.RcNeAt.str_int _ _ _ _)
 |it x y=>refine aT ra ?_;clear ra;intro t q1;subst q1;obtain⟨_,_,_,rfl,hz,_⟩:=d6 rb;exact bm (SeqAt.RcAt.int_tuple _ _ (dJ hz) hu0) (SeqAt.RcNeAt.int_tuple _ _ (dJ hz) hu0)
 |st x y=>refine aT ra ?_;clear ra;intro t q1;subst q1;obtain⟨_,_,_,rfl,hz,_⟩:=d6 rb;exact bm (SeqAt.RcAt.str_tuple _ _ (dJ hz) hu0) (SeqAt.RcNeAt.str_tuple _ _ (dJ hz) hu0)
 |ti x y=>refine aT rb ?_;clear rb;intro t q1;subst q1;obtain⟨_,_,_,rfl,hz,_⟩:=d6 ra;exact bm (SeqAt.RcAt.tuple_int _ _ (dJ hz) hu0) (SeqAt.RcNeAt.tuple_int _ _ (dJ hz) hu0)
 |ts x y=>refine aT rb ?_;clear rb;intro t q1;subst q1;obtain⟨_,_,_,rfl,hz,_⟩:=d6 ra;exact bm (SeqAt.RcAt.tuple_str _ _ (dJ hz) hu0) (SeqAt.RcNeAt.tuple_str _ _ (dJ hz) hu0)
 |tt xs ys r h=>
  obtain⟨x,us,n,rfl,hx,_,hr⟩:=d6 ra
  obtain⟨z,ws,m,rfl,hz,_,hr'⟩:=d6 rb
  obtain⟨f,hf,hall⟩:=E9 (A:=A.in1) (PH 1000) (YH (YC (show 1002<=1010 by decide) A.units) hu |> (show A.units+1002 < cLine->_ from λh=>by refine(?_:A.units+1+1000+1 < cLine);rw[Nat.add_assoc,Nat.add_assoc];exact h)) xs ys us ws r (Nat.le_of_succ_le hd) hr hr' h
  exact hall▸⟨SeqAt.RcAt.tuples (dJ hx) (dJ hz) hu0 hf,SeqAt.RcNeAt.tuples (dJ hx) (dJ hz) hu0 hf⟩
theorem Ua(hu:A.units < cLine)(I:aU Z s.heap μ σ){i j:Nat}(ra:aS Z.KN.aF s.heap μ (.r i) va)(rb:aS Z.KN.aF s.heap μ (.r j) vb)(h1:σ[i]? =some (.l xs))(h2:σ[j]? =some (.l [])):zB A s va vb xs.isEmpty:=by
 obtain⟨l,vs,n,_,rfl,hl,rl⟩:=iA I ra h1
 obtain⟨b',us,m,_,rfl,hb,rb'⟩:=iA I rb h2
 cases rb'
 cases xs with
 |nil=>
  cases rl
  exact bm (SeqAt.RcAt.lists (e:=λ_=>true) (dX hl) (dX hb) rfl hu λj h1=>absurd h1 (Y5 _)) (SeqAt.RcNeAt.lists (e:=λ_=>true) (dX hl) (dX hb) rfl hu λj h1=>absurd h1 (Y5 _))
 |cons x xs=>
  refine dY rl ?_;clear rl;intro v q q2 _;subst q2
  exact bm (SeqAt.RcAt.lists_lengths (dX hl) (dX hb) rfl hu) (SeqAt.RcNeAt.lists_lengths (dX hl) (dX hb) rfl hu)
theorem HO(h:qG σ a=some xs):∃i,a=.r i/\σ[i]? =some (.l xs):=by
 rcases a with _ |_ |_ |_ |_ |i |_ |_<;>first |exact bN h |skip
 have h:(match σ[i]? with |some (.l xs)=>some xs |_=>none)=some xs:=h
 rcases k:σ[i]? with _ |o
 ·rw[k]at h;exact bN h
 ·rw[k]at h
  rcases o with ys |_ |_ |_ |_ |_ |_<;>first |exact bN h |exact aC i rfl (k.trans (XB (λx=>some (O.l x)) (XA h)))
theorem F0(hu:A.units+1010 < cLine)(I:aU Z s.heap μ σ)(ra:aS Z.KN.aF s.heap μ a va)(rb:aS Z.KN.aF s.heap μ b vb)(he:oX σ a b=some r)(hd:a.dep<=1000):zB A s va vb r:=by
 unfold oX at he
 rcases h1:qG σ a with _ |xs<;>rw[h1]at he
 ·exact T9 hu ra rb (Ar he) hd
 ·rcases h2:qG σ b with _ |ys<;>rw[h2]at he
  ·exact bN he
  ·rcases ys with _ |_
   ·refine az (HO h1) λi q1 k1=>?_;subst q1
    refine az (HO h2) λj q1 k2=>?_;subst q1
    exact XA he▸Ua (YH (XS _ _) hu) I ra rb k1 k2
   ·exact bN he
end
inductive jJ{α β:Type}(R:α->β->Prop):Option α->Option β->Prop
 |tX:jJ R none none
 |tY {a:α} {b:β} (h:R a b):jJ R (some a) (some b)
section
variable {S:α'->β'->Prop}
theorem jJ.zj{x:Option α}{y:Option β}{f:α->α'}{g:β->β'}(r:jJ R x y)(h:∀a b,R a b->S (f a) (g b)):jJ S (x.map f) (y.map g):=by
 induction r with
 |tX=>exact .tX
 |tY k=>exact .tY (h _ _ k)
theorem jJ.wq{x:Option α}{y:Option β}(r:jJ R x y):x.isSome=y.isSome:=by
 induction r with
 |tX=>rfl
 |tY k=>rfl
theorem jJ.ox{a:α}{y:Option β}(r:jJ R (Option.some a) y):∃b,y=Option.some b/\R a b:=by rcases r with _ |h;exact aC _ rfl h
theorem jJ.zl{y:Option β}(r:jJ R Option.none y):y=Option.none:=by rcases r with _ |h;rfl
theorem F2.v2{p:α->Bool}{q:β->Bool}(r:F2 R as bs)(h:∀a b,R a b->p a=q b):jJ R (as.find? p) (bs.find? q):=by
 induction r with
 |d8=>exact .tX
 | @eJ a b as bs k _ ih=>
  rw[Zr,Zr,h _ _ k]
  generalize q b=t
  rcases t with _ |_
  ·exact ih
  ·exact .tY k
theorem F2.Dv{p:α->Bool}{q:β->Bool}{g:α->α}{g':β->β}{a:α}{b:β}(r:F2 R as bs)(hp:∀a b,R a b->p a=q b)(hg:∀a b,R a b->R (g a) (g' b))(h0:R a b):F2 R (if as.any p then as.map g else as++[a]) (if bs.any q then bs.map g' else bs++[b]):=by
 rw[r.Du hp]
 split
 ·exact r.Ls hg
 ·exact r.Lu h0
end
section
variable [DecidableEq κ][DecidableEq K]{h:Heap}{f:κ->K}{es:List (κ×V)}{ks:List (κ×Addr×Value)}{k:κ}{x:V}{v:Value}{a:Addr}
theorem uV(hf:∀a b,f a=f b->a=b){e:κ}{y:K}(h:y=f e):decide (e=k)=decide (y=f k):=h▸decide_eq_decide.mpr ⟨XB f,hf _ _⟩
noncomputable abbrev ot(cl:dO)(h:Heap)(μ:List Addr)(f:κ->K)(e:κ×V)(y:K×Value):Prop:=y.1=f e.1/\aS cl h μ e.2 y.2
noncomputable abbrev zf(cl:dO)(h:Heap)(μ:List Addr)(e:κ×V)(y:κ×Addr×Value):Prop:=(y.1=e.1/\y.2.1∉μ)/\aS cl h μ e.2 y.2.2
noncomputable abbrev uc(cl:dO)(h:Heap)(μ:List Addr):Option V->Option Value->Prop:=jJ (aS cl h μ)
theorem BB(hf:∀a b,f a=f b->a=b)(r:F2 (ot cl h μ f) es kvs):uc cl h μ (cA es k) (valueAt kvs (f k)):=(r.v2 λ_ _ h=>uV hf h.1).zj λ_ _ h=>h.2
theorem BC(hf:∀a b,f a=f b->a=b)(hv:aS cl h μ x v)(r:F2 (ot cl h μ f) es kvs):F2 (ot cl h μ f) (eC es k x) (stored kvs (f k) v):=
 r.Dv (λ_ _ h=>uV hf h.1) (λe y h=>by
  by_cases c:e.1=k
  ·rw[Xz c,Xz (h.1.trans (XB f c))];exact bm h.1 hv
  ·rw[XC c,XC λq=>c (hf _ _ (h.1.symm.trans q))];exact h) ⟨rfl,hv⟩
theorem QM(hf:∀a b,f a=f b->a=b)(r:F2 (ot cl h μ f) es kvs):F2 (ot cl h μ f) (sg es k) (without kvs (f k)):=
 r.Lq λ_ _ h=>by rw[decide_not,decide_not,uV hf h.1]
theorem QG(r:F2 (zf cl h μ) es ks):uc cl h μ (cA es k) ((atKey ks k).map (·.2)):=by
 unfold atKey;rw[Option.map_map]
 exact(r.v2 λ_ _ h=>uV (f:=λx:κ=>x) (λ_ _ q=>q) h.1.1).zj λ_ _ h=>h.2
theorem QH(hv:aS cl h μ x v)(ha:a∉μ)(r:F2 (zf cl h μ) es ks):F2 (zf cl h μ) (eC es k x) (storedH ks k a v):=by
 have e:(atKey ks k).isSome=ks.any λy=>decide (y.1=k):=by unfold atKey;rw[Option.isSome_map,List.isSome_find?]
 unfold storedH;rw[e]
 exact r.Dv (λ_ _ h=>uV (f:=λx:κ=>x) (λ_ _ q=>q) h.1.1) (λe y h=>by
  unfold putAt
  by_cases c:e.1=k
  ·rw[Xz c,Xz (h.1.1.trans c)];exact bm h.1 hv
  ·rw[XC c,XC λq=>c (h.1.1.symm.trans q)];exact h) ⟨⟨rfl,ha⟩,hv⟩
end
inductive ic:O->V->Prop
 |i (es:List (Int×V)) (k:Int):ic (.d es) (.i k)
 |s (es:List (List Nat×V)) (k:List Nat):ic (.s es) (.s k)
 |t (es:List (List KV×V)) (xs:List V) (kk:List KV) (h:eW xs=some kk):ic (.t es) (.t xs)
theorem ic.lK{d:O}{k:V}{r:Option V}(h:fu d k=some r):ic d k:=by
 rcases d with _ |es |es |es |_ |_ |_<;>first |exact bN h | (rcases k with _ |_ |k |k |xs |_ |_ |_<;>first |exact bN h |exact .i es k |exact .s es k | (refine az (YK h) λkk e _=>?_;exact .t es xs kk e))
theorem ic.vV{d:O}{k v:V}(h:fP d k v=some d'):ic d k:=by
 rcases d with _ |es |es |es |_ |_ |_<;>first |exact bN h | (rcases k with _ |_ |k |k |xs |_ |_ |_<;>first |exact bN h |exact .i es k |exact .s es k | (refine az (YK h) λkk e _=>?_;exact .t es xs kk e))
theorem ic.rn{d:O}{k:V}(h:ic d k):d.fH=true:=by induction h<;>rfl
section
variable {s:Shared}{a i:Nat}{d o:O}{k u v w:V}{r:Option V}
theorem QN{xs:List V}:∀{vs:List Value} {ks:List KV},aR cl hh μ xs vs->eW xs=some ks->ItemsAre (Hw Z.bK Z.VP) ks vs:=by
 induction xs with
 |nil=>intro vs ks r e;obtain rfl:vs=[]:=r;rw[<-XA e];exact .nil
 |cons y xs ih=>
  intro vs ks r e
  refine cP r ?_;clear r;intro v q q2 h1 h2;subst q2
  have e:(match qC y,eW xs with |some k,some ks=>some (k::ks) |_,_=>none)=some ks:=e
  rcases hk:qC y with _ |k<;>rw[hk]at e
  ·exact bN e
  ·rcases hs:eW xs with _ |l<;>rw[hs]at e
   ·exact bN e
   ·rw[<-XA e]
    refine .cons ?_ (ih h2 hs)
    rcases y with _ |_ |m |m |_ |_ |_ |_<;>first |exact bN hk |skip
    ·refine aT h1 ?_;clear h1;intro t q1;subst q1;exact XA hk▸intKind_is Z.bK Z.VP _ t
    ·refine aT h1 ?_;clear h1;intro t q1;subst q1;exact XA hk▸strKind_is Z.bK Z.VP _ t
inductive Lc(Z:Cx)(h:Heap)(μ:List Addr)(i:Nat)(x:Addr)(kv:Value)(d:O)(k:V):Prop
 |nX {K:Type} [DecidableEq K] (knd:KeyKind Z.bK Z.VP K) (kk:K) (kvs:List (K×Value)) (hk:knd.is kk kv=true) (hd:h.DictOf knd x kvs) (hl:kvs.length=oT d) (hg:∀r,fu d k=some r->uc Z.KN.aF h μ r (valueAt kvs kk))
   (hs:∀v vv d' h',fP d k v=some d'->dx h μ h' μ->aS Z.KN.aF h μ v vv->h'.DictOf knd x (stored kvs kk vv)->dC Z h' μ i x d')
 |pE (kk:List KV) (a:Addr) (ks:List (List KV×Addr×Value)) (he:kv=.ref a) (hk:(j5 Z.bK Z.VP).is h kk a) (hd:h.DictOfH (j5 Z.bK Z.VP) x ks) (hl:ks.length=oT d) (hg:∀r,fu d k=some r->uc Z.KN.aF h μ r ((atKey ks kk).map (·.2)))
   (hs:∀v vv d' h',fP d k v=some d'->dx h μ h' μ->aS Z.KN.aF h μ v vv->h'.DictOfH (j5 Z.bK Z.VP) x (storedH ks kk a vv)->dC Z h' μ i x d')
theorem sx(I:aU Z s.heap μ σ)(hs:σ[i]? =some d)(hx:μ[i]? =some x)(rk:aS Z.KN.aF s.heap μ k kv)(ok:ic d k):Lc Z s.heap μ i x kv d k:=by
 have ro:=I.fU i x d hx hs
 clear hs
 induction ok with
 |i es k=>
  refine az ro ?_;clear ro;intro kvs h1 h2
  refine aT rk ?_;clear rk;intro t q1;subst q1
  exact .nX (intKind Z.bK Z.VP) k kvs (intKind_is Z.bK Z.VP k t) h1 h2.od.symm (λr q=>XA q▸BB (f:=λx:Int=>x) (λ_ _ h=>h) h2) λv vv d' h' q e rv hd=>XA q▸⟨_,hd,BC (f:=λx:Int=>x) (λ_ _ h=>h) (rv.cE e) (h2.mM λ_ _ r=>⟨r.1,r.2.cE e⟩)⟩
 |s es k=>
  refine az ro ?_;clear ro;intro kvs h1 h2
  refine aT rk ?_;clear rk;intro t q1;subst q1
  exact .nX (strKind Z.bK Z.VP) (bp k) kvs (strKind_is Z.bK Z.VP _ t) h1 h2.od.symm (λr q=>XA q▸BB (f:=bp) (λ_ _ h=>nS h) h2) λv vv d' h' q e rv hd=>XA q▸⟨_,hd,BC (f:=bp) (λ_ _ h=>nS h) (rv.cE e) (h2.mM λ_ _ r=>⟨r.1,r.2.cE e⟩)⟩
 |t es xs kk hkk=>
  refine az ro ?_;clear ro;intro ks h1 h2
  obtain⟨a,vs,n,rfl,ha,hn,hr⟩:=d6 rk
  refine .pE kk a ks rfl ⟨_,_,_,ha,rfl,rfl,QN hr hkk⟩ h1 h2.od.symm (λr q=>?_) λv vv d' h' q e rv hd=>?_
  ·have q:(eW xs).map (cA es)=some r:=q
   rw[hkk]at q
   exact XA q▸QG h2
  ·have q:(eW xs).map (λks=>O.t (eC es ks v))=some d':=q
   rw[hkk]at q
   exact XA q▸⟨_,hd,QH (rv.cE e) hn (h2.mM λ_ _ r=>⟨r.1,r.2.cE e⟩)⟩
theorem aU.DM(I:aU Z s.heap μ σ)(hx:μ[i]? =some x)(hs:σ[i]? =some d)(ok:ic d k):(x==sysModules)=false:=beq_eq_false_iff_ne.mpr (I.jr i x d hx hs ok.rn)
theorem qe.NF(S:qe Z.cU)(I:aU Z s.heap μ σ):s.heap.objs.size≠sysModules:=Yv (XQ (modules_low (S.ND.keeps I.dM)))
theorem Rq.rV(R:Rq A):(j5 Z.bK Z.VP).room A.in1:=tupleKind_room_in1 (YH (YC (by decide) _) R.WU)
theorem jB{h:Heap}(e:Heap.SameBut x h h'):∀b q,b≠x->h.get? b=some q->h'.get? b=some q:=λb q hb hq=>(e.2 b hb).trans hq
noncomputable def VH(b:Bool):CmpOp:=if b then .In else .NotIn
theorem Qf(R:Rq A)(I:aU Z s.heap μ σ)(hs:σ[i]? =some d)(hx:μ[i]? =some x)(rk:aS Z.KN.aF s.heap μ k kv)(hd:fu d k=some r):Wp Z A (compareOp .In kv (.ref x)) (R1 Z s μ (.b r.isSome) σ) s:=by
 have ns:=I.DM hx hs (.lK hd)
 induction sx I hs hx rk (.lK hd)with
 |nX knd kk kvs hk hd' hl hg=>exact wpAny_in_of hk ns hd'.mapOf ((hg r hd).wq▸.ku I)
 |pE kk a ks he hk hd' hl hg=>exact he▸wpAny_in_heap R.rV hk ns hd' ((hg r hd).wq▸Option.isSome_map (x:=atKey ks kk)▸.ku I)
theorem RH[DecidableEq K]{knd:HeapKind Z.bK Z.VP K}{a:Addr}{xs:List (K×Addr×Value)}{k:K}(hu:knd.room A.in1)(hk:knd.is s.heap k a)(hd':s.heap.DictOfH knd x xs)
  (ns:(x==sysModules)=false) (q:∀t,Q (.bool !(atKey xs k).isSome) {s with toks:=t}):Wp Z A (compareOp .NotIn (.ref a) (.ref x)) Q s:=by
 refine(?_:Wp Z A (do return Value.bool (!(<-contains (.ref x) (.ref a)))) _ s)
 refine Xq ?_
 unfold contains
 refine XR (Xq (wpAny_specialOf hd'.typeIs slot_dict_contains.lookup ?_))
 refine(?_:wpAny _ _ (if(some (Value.builtin "dict.__contains__")==some Value.none)=true then _ else _) _ _ s)
 rw[XC (by rw[beq_builtin_none];exact YE)]
 refine Xq (wpAny_callSpecialUnlessNone?_slot (name:=Str.ofString "__contains__") hd'.typeIs slot_dict_contains
  (Y6 slot_dict_contains hd'.typeIs entry_dict_contains ?_ (args_dict_contains _ _)))
 refine(?_:wpAny _ _ (dictGet x (.ref a)>>=_) _ _ s)
 refine Xq (wpAny_dictGet_heap hu hk hd' ?_)
 rcases hf:atKey xs k with _ |p<;>rw[hf]at q
 ·show wpAny _ _ (Builtin.Dict.pendingKey? x (.ref a)>>=_) _ _ _
  exact Xq (wpAny_pendingKey_other ns (Xu (aC _ rfl (YT (Xu (q _))))))
 ·exact Xu (aC _ rfl (YT (Xu (q _))))
theorem RG(R:Rq A)(I:aU Z s.heap μ σ)(hs:σ[i]? =some d)(hx:μ[i]? =some x)(rk:aS Z.KN.aF s.heap μ k kv)(hd:fu d k=some r):Wp Z A (compareOp .NotIn kv (.ref x)) (R1 Z s μ (.b !r.isSome) σ) s:=by
 have ns:=I.DM hx hs (.lK hd)
 induction sx I hs hx rk (.lK hd)with
 |nX knd kk kvs hk hd' hl hg=>exact wpAny_notIn_of hk ns hd'.mapOf ((hg r hd).wq▸.ku I)
 |pE kk a ks he hk hd' hl hg=>exact he▸RH R.rV hk hd' ns λt=>(hg r hd).wq▸Option.isSome_map (x:=atKey ks kk)▸.ku I
noncomputable def pM(s:Shared)(v:Value):Prop:=∃T id,s.TypeIs v T/\typeLookup (.type T) "__getitem__"=pure (some (.builtin id))
noncomputable def nT(o i:V)(σ:aj)(x:V)(σ':aj):Prop:=∀(Z:Cx) (A:Around) (s:Shared) (μ:List Addr) (ov iv:Value),Rq A->aU Z s.heap μ σ->aS Z.KN.aF s.heap μ o ov->aS Z.KN.aF s.heap μ i iv->pM s ov/\Wp Z A (getItem ov iv) (R1 Z s μ x σ') s
noncomputable def mG(o i v:V)(σ:aj)(σ':aj):Prop:=∀(Z:Cx) (A:Around) (s:Shared) (μ:List Addr) (ov iv vv:Value),Rq A->aU Z s.heap μ σ->aS Z.KN.aF s.heap μ o ov->aS Z.KN.aF s.heap μ i iv->aS Z.KN.aF s.heap μ v vv->Wp Z A (setItem ov iv vv) (RU Z s μ σ') s
theorem mC(ha:σ[a]? =some o)(hn:∀xs,o≠.l xs)(h:fu o w=some (some v)):Pr (nT (.r a) w σ) v σ:=λZ A s μ ov iv R I ro ri=>by
 refine az ro ?_;clear ro;intro x hx q2;subst q2
 induction sx I ha hx ri (.lK h)with
 |nX knd kk kvs hk hd hl hg=>
  refine az ((hg _ h).ox) λu hu hr=>?_
  exact bm (⟨"dict",_,hd.typeIs,PySem.F.slot_dict_getitem.lookup⟩) (wpAny_getItem_of hk hd.mapOf hu (.ky I hr))
 |pE kk b ks he hk hd hl hg=>
  refine az ((hg _ h).ox) λu hu hr=>?_
  refine az (YK hu) λp hp q2=>?_;subst q2
  exact bm (⟨"dict",_,hd.typeIs,PySem.F.slot_dict_getitem.lookup⟩) (he▸wpAny_getItem_heap R.rV hk hd hp (.ky I hr))
theorem BI[DecidableEq K]{knd:KeyKind Z.bK Z.VP K}{h:Heap}(r:h.DictOf knd x kvs):∃q,h.get? x=some q:=by refine sW r ?_;clear r;intro o _ _ ho _;exact fB o ho
theorem HT{h:Heap}(r:h.DictOfH (j5 Z.bK Z.VP) x ks):∃q,h.get? x=some q:=by refine sW r ?_;clear r;intro o _ _ ho _;exact fB o ho
theorem xe(I:aU Z s.heap μ σ)(hx:μ[i]? =some x)(hs:σ[i]? =some d)(h1:d.fH=true)(h2:d'.fH=true)(hb:Heap.SameBut x s.heap h')(hl:∃q,h'.get? x=some q)(hr:dx s.heap μ h' μ->dC Z h' μ i x d')(t:Nat):br Z s μ {s with heap:=h',toks:=t} μ (σ.set i d'):=
 have k:=I.y' (o':=d') hx hs (by rcases d with _ |_ |_ |_ |_ |_ |_<;>first |rfl |exact bE h1) (λxs q=>by rw[q]at h2;exact bE h2) (jB hb) hl hr λ_=>h1
 ⟨⟨rfl,rfl,rfl⟩,k.1,k.2⟩
theorem Aj(h:fP d k v=some d'):d'.fH=true:=by
 induction ic.vV h with
 |i=>exact XA h▸rfl
 |s=>exact XA h▸rfl
 |t es xs kk hk=>refine az (YK h) λks _ q=>?_;exact q▸rfl
theorem mB(ha:σ[a]? =some o)(hn:∀xs,o≠.l xs)(hl:oT o<=aK)(h2:fP o w v=some o'):lY (mG (.r a) w v σ) (σ.set a o'):=λZ A s μ ov iv vv R I ro ri rv=>by
 refine az ro ?_;clear ro;intro x hx q2;subst q2
 induction sx I ha hx ri (.vV h2)with
 |nX knd kk kvs hk hd hl' hg hs=>exact wpAny_setItem_pairs hk hd (λh' hm hb=>⟨μ,xe I hx ha (ic.vV h2).rn (Aj h2) hb (BI hm) (λe=>hs v vv o' h' h2 e rv hm) _⟩) (kj (hl'▸hl))
 |pE kk b ks he hk hd hl' hg hs=>exact he▸wpAny_setItem_heap R.rV hk hd (λh' hm hb=>⟨μ,xe I hx ha (ic.vV h2).rn (Aj h2) hb (HT hm) (λe=>hs v vv o' h' h2 e rv hm) _⟩) (kj (hl'▸hl))
end
noncomputable def o9(k m:Nat):String:=match k with
 |1=>match m with |0=>"list.append" |1=>"list.extend" |_=>"list.pop"
 |2=>match m with |3=>"dict.get" |4=>"dict.setdefault" |_=>"dict.pop"
 |_=>match m with |5=>"str.join" |6=>"str.count" |7=>"str.strip" |_=>"str.isspace"
noncomputable def dB(m:Nat)(o:V)(args:List V)(σ:aj)(x:V)(σ':aj):Prop:=∀(Z:Cx) (A:Around) (s:Shared) (μ:List Addr) (ov:Value) (vs:List Value),qe Z.cU->Rq A->aU Z s.heap μ σ->aS Z.KN.aF s.heap μ o ov->aR Z.KN.aF s.heap μ args vs->
 Wp Z A (call (.builtin (o9 (iw σ o) m)) (ov::vs)) (R1 Z s μ x σ') s
section
variable {s:Shared}{a b i m:Nat}{d o:O}{k u v w y:V}{r:Option V}{n:Int}{xs ys args:List V}{t:List Nat}
theorem uX(h:σ[a]? =some (.l xs)):iw σ (.r a)=1:=XB (Option.elim · 0 sO) h
theorem qD(h:σ[a]? =some o)(hd:o.fH=true):iw σ (.r a)=2:=by
 refine(XB (Option.elim · 0 sO) h).trans ?_
 refine(?_:sO o=2)
 rcases o with _ |_ |_ |_ |_ |_ |_<;>first |rfl |exact bE hd
theorem Cc{M:List Value->Prop}(r:aR cl hh μ [] vs)(h:M []):M vs:=by obtain rfl:vs=[]:=r;exact h
theorem nF{M:List Value->Prop}(r:aR cl hh μ [k] vs)(h:∀v,aS cl hh μ k v->M [v]):M vs:=by refine cP r ?_;clear r;intro v q q2 h1 q4;subst q2;subst q4;exact h v h1
theorem IG{M:List Value->Prop}(r:aR cl hh μ [k,u] vs)(h:∀v w,aS cl hh μ k v->aS cl hh μ u w->M [v,w]):M vs:=by obtain⟨v,q,rfl,h1,w,q',rfl,h2,rfl⟩:=r;exact h v w h1 h2
theorem BM(ha:σ[a]? =some o)(hd:o.fH=true)(h:∀(Z:Cx) (A:Around) (s:Shared) (μ:List Addr) (x:Addr) (vs:List Value),Rq A->aU Z s.heap μ σ->μ[a]? =some x->(x==sysModules)=false->aR Z.KN.aF s.heap μ args vs->Wp Z A (call (.builtin (o9 2 m)) (.ref x::vs)) (R1 Z s μ y σ') s):dB m (.r a) args σ y σ':=
 λZ A s μ ov vs S R I ⟨x,hx,e⟩ r=>by subst e;rw[qD ha hd];exact h Z A s μ x vs R I hx (beq_eq_false_iff_ne.mpr (I.jr a x o hx ha hd)) r
theorem GQ{v₀:Value}{h:Heap}{o:Option Value}(hr:uc cl h μ r o)(ru:aS cl h μ u v₀):aS cl h μ (r.getD u) (o.getD v₀):=by
 induction hr with
 |tX=>exact ru
 |tY h=>exact h
theorem Sy(ha:σ[a]? =some o)(hd:∀xs,o≠.l xs)(h:fu o w=some r):Pr (dB 3 (.r a) [w,u] σ) (r.getD u) σ:=BM ha (ic.lK h).rn λZ A s μ x vs R I hx ns q=>
 IG (M:=λvs=>Wp Z A (call (.builtin "dict.get") (.ref x::vs)) (R1 Z s μ (r.getD u) σ) s) q λkv vv rk rv=>by
  induction sx I ha hx rk (.lK h)with
  |nX knd kk kvs hk hd hl hg=>exact call_meetsIn PySem.F.slot_dict_get hd.typeIs PySem.F.entry_dict_get (PySem.F.args_dict_get_3 _ _ _) (meets_dict_get_default knd x hk ns vv) (aC _ hd.mapOf (.ky I (GQ (hg r h) rv)))
  |pE kk b ks he hk hd hl hg=>exact he▸call_meetsIn PySem.F.slot_dict_get hd.typeIs PySem.F.entry_dict_get (PySem.F.args_dict_get_3 _ _ _) (meetsH_dict_get_default (j5 Z.bK Z.VP) x b ns vv) ⟨R.rV,kk,ks,hk,hd,.ky I (GQ (hg r h) rv)⟩
theorem O5[DecidableEq K]{knd:HeapKind Z.bK Z.VP K}{d a:Addr}{xs:List (K×Addr×Value)}{k:K}{v:Value}(hu:knd.room A)(hkey:knd.is s.heap k a)(hm:s.heap.DictOfH knd d xs)
  (h1:∀u,(atKey xs k).map (·.2)=some u->Q u {s with toks:=s.toks+knd.draws k})
  (h2:atKey xs k=none->∀h',h'.DictOfH knd d (storedH xs k a v)->Heap.SameBut d s.heap h'->Q v {s with heap:=h',toks:=s.toks+knd.draws k})
  (hsz:xs.length<=sizeLine):
  wpAny (model Z.bK Z.VP) A (dictSetDefault d (.ref a) v) Q E s:=by
 refine vc hm ?_;clear hm;intro o es ep ho hc hd he his hn
 unfold dictSetDefault
 refine XR (Xq (knd.pyHash hu hkey (Xq (wpAny_dictFind_heap (s:={s with toks:=s.toks+knd.draws k}) hu hkey ho hd he his hn ?_ ?_))))
 ·intro hno
  have hnot:k∉xs.map (·.1):=not_mem_keys_of_get hno
  refine Xq (wpAny_rule (Xq (wpAny_updateDictKeys (hz:=size_of_entries he▸hsz) (s:={s with toks:=s.toks+knd.draws k}) ho hd (Xu (h2 (atKey_none_of_get hno) _ ⟨_,_,ep+1,ZC _ ho (Obj.isFreed_of_dict (Obj.data_mapDictKeys hd _)),
   hc.mapDictKeys _,Obj.data_mapDictKeys hd _,?_,?_,?_⟩ (Heap.SameBut.update ..))))))
  ·rw[storedH_new (atKey_none_of_get hno),Yc,<-he]
   exact Array.toList_push
  ·rw[storedH_new (atKey_none_of_get hno)]
   exact λx hx=>knd.keeps ((XM hx).elim (his x) λq=>XG q▸hkey) ho hd (Heap.SameBut.update ..)
  ·rw[storedH_new (atKey_none_of_get hno),Yc]
   exact List.nodup_append.mpr ⟨hn,List.nodup_cons.mpr ⟨Ye,Zc⟩,λx hx y hy q=>hnot (by cases q.trans (XG hy);exact hx)⟩
 ·intro j p hj
  refine Xq (wpAny_dictEntries (s:={s with toks:=s.toks+knd.draws k}) ho hd ?_)
  rw[entry_at he j,hj]
  exact Xq (wpAny_rule (Xu (h1 p.2 (by rw[atKey_of_get hn hj];rfl))))
theorem Rb[DecidableEq K](knd:HeapKind Z.bK Z.VP K){k:K}{a:Addr}(d:Addr)(hd:(d==sysModules)=false)(dflt:Value):
  MeetsIn Z.bK Z.VP (Builtin.«dict.setdefault» ⟨[.ref d,.ref a,dflt],[]⟩) (λA R s=>knd.room A.in1/\knd.is s.heap k a/\∃xs,s.heap.DictOfH knd d xs/\xs.length<=sizeLine/\
   (∀v,(atKey xs k).map (·.2)=some v->R (.ok (.ret v)) {s with toks:=s.toks+knd.draws k})/\
   (atKey xs k=none->∀h',h'.DictOfH knd d (storedH xs k a dflt)->Heap.SameBut d s.heap h'->R (.ok (.ret dflt)) {s with heap:=h',toks:=s.toks+knd.draws k})):=
 .of_wp λA R s h=>by
  obtain⟨hu,hkey,xs,hm,hz,h1,h2⟩:=h
  unfold Builtin.«dict.setdefault» Builtin.Dict.keyAndDefault
  refine Xq (Xq (wpAny_notOrdered_dict hm.typeIs ?_))
  refine(?_:wpAny _ _ (pure (d,Value.ref a,some dflt)) _ _ s)
  refine Xu ?_
  refine(?_:wpAny _ _ (if(d==sysModules)=true then _ else(dictSetDefault d (.ref a) dflt>>=_)) _ _ s)
  rw[XC (by rw[hd];exact YE)]
  exact Xq (O5 hu hkey hm (λv hv=>Xu (aC v rfl (h1 v hv))) (λhn h' hm' hs'=>Xu (aC dflt rfl (h2 hn h' hm' hs'))) hz)
theorem J7(ha:σ[a]? =some o)(hl:oT o<=aK)(h:fu o w=some r)(h1:∀x,r=some x->y=x/\σ'=σ)(h2:r=none->∃o',fP o w u=some o'/\y=u/\σ'=σ.set a o'):dB 4 (.r a) [w,u] σ y σ':=BM ha (ic.lK h).rn λZ A s μ x vs R I hx ns q=>
 IG (M:=λvs=>Wp Z A (call (.builtin "dict.setdefault") (.ref x::vs)) (R1 Z s μ y σ') s) q λkv vv rk rv=>by
  have new:∀{h':Heap} {t:Nat},r=none->Heap.SameBut x s.heap h'->(∃q,h'.get? x=some q)->(∀o',fP o w u=some o'->dx s.heap μ h' μ->dC Z h' μ a x o')->R1 Z s μ y σ' vv {s with heap:=h',toks:=t}:=λ{h' t} e hb hv hr=>by
   refine c8 (h2 e) λo' ho q2 q3=>?_;subst q2;subst q3
   have st:=xe I hx ha (ic.lK h).rn (Aj ho) hb hv (hr o' ho) t
   exact⟨μ,st,rv.cE st.bJ⟩
  have old:∀{z:Value} {x:V} {t:Nat},r=some x->aS Z.KN.aF s.heap μ x z->R1 Z s μ y σ' z {s with toks:=t}:=λ{z x t} e rz=>by refine ba (h1 x e) λq0 q1=>?_;subst q0;subst q1;exact .ky I rz
  induction sx I ha hx rk (.lK h)with
  |nX knd kk kvs hk hd hl' hg hs=>
   have g:=hg r h
   refine call_meetsIn PySem.F.slot_dict_setdefault hd.typeIs PySem.F.entry_dict_setdefault (PySem.F.args_dict_setdefault_3 _ _ _) (kt_meets_setdefault knd x hk ns vv) (eX kvs hd (kj (hl'▸hl)) (λz hz=>?_) (λhn h' hm hb=>?_))
   ·rcases hr:r with _ |p<;>rw[hr,hz]at g
    ·exact bN g.zl.symm
    ·obtain⟨_,e,rz⟩:=g.ox;exact old hr (XA e▸rz)
   ·rcases hr:r with _ |p<;>rw[hr,hn]at g
    ·exact new hr hb (BI hm) λo' ho e=>hs u vv o' h' ho e rv hm
    ·obtain⟨_,e,rz⟩:=g.ox;exact bN e
  |pE kk b ks he hk hd hl' hg hs=>
   subst he
   have g:=hg r h
   refine call_meetsIn PySem.F.slot_dict_setdefault hd.typeIs PySem.F.entry_dict_setdefault (PySem.F.args_dict_setdefault_3 _ _ _) (Rb (j5 Z.bK Z.VP) x ns vv) ⟨R.rV,hk,ks,hd,kj (hl'▸hl),λz hz=>?_,λhn h' hm hb=>?_⟩
   ·rcases hr:r with _ |p<;>rw[hr,hz]at g
    ·exact bN g.zl.symm
    ·obtain⟨_,e,rz⟩:=g.ox;exact old hr (XA e▸rz)
   ·rcases hr:r with _ |p<;>rw[hr,hn]at g
    ·exact new hr hb (HT hm) λo' ho e=>hs u vv o' h' ho e rv hm
    ·obtain⟨_,e,rz⟩:=g.ox;exact bN e
theorem I9(ha:σ[a]? =some o)(hd:∀xs,o≠.l xs)(hl:oT o<=aK)(h:fu o w=some (some v)):Pr (dB 4 (.r a) [w,u] σ) v σ:=J7 ha hl h (λx q=>⟨XA q,rfl⟩) λq=>bN q.symm
theorem I8(ha:σ[a]? =some o)(hd:∀xs,o≠.l xs)(hl:oT o<=aK)(h:fu o w=some Option.none)(h2:fP o w u=some o'):Pr (dB 4 (.r a) [w,u] σ) u (σ.set a o'):=J7 ha hl h (λx q=>bN q) λ_=>dK o' h2 rfl rfl
theorem SK{es:List (Int×V)}(ha:σ[a]? =some (.d es))(hv:cA es n=some v)(h:es.length<=aK):Pr (dB 2 (.r a) [.i n] σ) v (σ.set a (.d (sg es n))):=BM ha rfl λZ A s μ x vs R I hx ns q=>
 nF (M:=λvs=>Wp Z A (call (.builtin "dict.pop") (.ref x::vs)) (R1 Z s μ v (σ.set a (.d (sg es n)))) s) q λkv rk=>by
  refine aT rk ?_;clear rk;intro t q1;subst q1
  refine az (I.fU a x _ hx ha) λkvs h1 h2=>?_
  have g:=BB (f:=λx:Int=>x) (k:=n) (λ_ _ h=>h) h2
  rw[hv]at g
  obtain⟨z,hz,rz⟩:=g.ox
  refine call_meetsIn PySem.F.slot_dict_pop h1.typeIs PySem.F.entry_dict_pop (PySem.F.args_dict_pop_2 _ _) (meets_dict_pop_there (intKind Z.bK Z.VP) x (intKind_is Z.bK Z.VP n t) [] (.inl rfl) rfl) (di kvs z h1 (kj (h2.od▸h)) hz (λh' hm hb=>?_))
  have st:=xe (d:=.d es) (d':=.d (sg es n)) I hx ha rfl rfl hb (BI hm) (λe=>⟨_,hm,QM (f:=λx:Int=>x) (λ_ _ h=>h) (h2.mM λ_ _ r=>⟨r.1,r.2.cE e⟩)⟩) (s.toks+1)
  exact⟨μ,st,rz.cE st.bJ⟩
end
noncomputable def DY(cl:dO)(h:Heap)(μ:List Addr)(x:Option V)(v:Value):Prop:=match x with
 |none=>v=.none
 |some x=>aS cl h μ x v
noncomputable def tw(o:V)(lo hi:Option V)(σ:aj)(x:V)(σ':aj):Prop:=∀(Z:Cx) (A:Around) (s:Shared) (μ:List Addr) (ov l u:Value) (sl:Addr),aU Z s.heap μ σ->aS Z.KN.aF s.heap μ o ov->DY Z.KN.aF s.heap μ lo l->DY Z.KN.aF s.heap μ hi u->s.heap.IsSliceOf sl l u .none->
 pM s ov/\Wp Z A (getItem ov (.ref sl)) (R1 Z s μ x σ') s
noncomputable def J2(o:V)(σ:aj)(x:V)(σ':aj):Prop:=∀(Z:Cx) (A:Around) (s:Shared) (μ:List Addr) (ov:Value) (sl:Addr) (t:Tok),aU Z s.heap μ σ->aS Z.KN.aF s.heap μ o ov->s.heap.IsSliceOf sl .none .none (.int (-1) t)->pM s ov/\Wp Z A (getItem ov (.ref sl)) (R1 Z s μ x σ') s
section
variable {s:Shared}{a b i j m:Nat}{d o:O}{k u v w y:V}{r:Option V}{n:Int}{xs ys args:List V}{t:List Nat}{h:Heap}
theorem vj:(2:Int) ^ 63=9223372036854775808:=by decide
theorem GS{n:Nat}(ha:s.heap.get? x=some (j6 vs n)):pM s (.ref x):=⟨"tuple",_,⟨_,ha,rfl⟩,PySem.F.slot_tuple_getitem.lookup⟩
theorem uO(ha:s.heap.IsList x vs.toArray):pM s (.ref x):=⟨"list",_,ha.typeIs,PySem.F.slot_list_getitem.lookup⟩
theorem GY(h:dS n m=some j)(hj:j < m):seqIndex? n m=some j:=by
 unfold dS at h
 unfold seqIndex?
 split at h
 ·next h0=>
  obtain rfl:=XA h
  simp only[Int.not_lt.mpr h0,if_false,show(decide (0<=n)&&decide (n < (m:Int)))=true by simp;lia,if_true]
 ·split at h
  ·next h0 h1=>
   obtain rfl:=XA h
   simp only[Int.not_le.mp h0,if_true,show(decide (0<=n+(m:Int))&&decide (n+(m:Int) < (m:Int)))=true by simp;lia]
  ·exact bN h
theorem uz(hb:dz n):-(2:Int) ^ 63<=n/\n < 2 ^ 63:=by rw[vj];unfold dz bY at hb;lia
theorem c9(hb:dz n)(h:(dS n xs.length).bind (xs[·]?)=some v):Pr (nT (.t xs) (.i n) σ) v σ:=λZ A s μ ov iv R I ro ri=>by
 refine aT ri ?_;clear ri;intro t q1;subst q1
 obtain⟨a,vs,m,rfl,ha,_,hr⟩:=d6 ro
 refine az (ZF h) λj hj hx=>?_
 refine az (hr.get hx) λu hu ru=>?_
 exact bm (GS ha) (getItem_tuple (dJ ha) (uz hb).1 (uz hb).2 (GY (by rw[Yx,<-hr.length];exact hj) (XZ hu).1) (by rw[YF];exact hu) (.id I ru))
theorem dL(hs:σ[a]? =some (.l xs))(hb:dz n)(h:(dS n xs.length).bind (xs[·]?)=some v):Pr (nT (.r a) (.i n) σ) v σ:=λZ A s μ ov iv R I ro ri=>by
 refine aT ri ?_;clear ri;intro t q1;subst q1
 obtain⟨a,vs,m,_,rfl,ha,hr⟩:=iA I ro hs
 refine az (ZF h) λj hj hx=>?_
 refine az (hr.get hx) λu hu ru=>?_
 refine bm (uO (dX ha)) ?_
 unfold dS at hj
 split at hj
 ·next c=>exact wpAny_getItem_list (dX ha) c (uz hb).2 (by rw[XA hj,YF];exact hu) (.id I ru)
 ·split at hj
  ·next c d=>exact wpAny_getItem_list_neg (dX ha) (Int.not_le.mp c) (by rw[Yx,<-hr.length];lia) (uz hb).1 (by rw[Yx,<-hr.length,XA hj,YF];exact hu) (.id I ru)
  ·exact bN hj
theorem SU{c:Nat}(hb:dz n)(h:(dS n t.length).bind (t[·]?)=some c):Pr (nT (.s t) (.i n) σ) (.s [c]) σ:=λZ A s μ ov iv R I ro ri=>by
 refine aT ri ?_;clear ri;intro u q1;subst q1
 refine aT ro ?_;clear ro;intro u' q1;subst q1
 refine az (ZF h) λj hj hx=>?_
 exact bm (⟨"str",_,typeIs_str _ _ _,PySem.F.slot_str_getitem.lookup⟩) (PySem.P.getItem_str (c:=c) (by have:=uz hb;simp;exact this) (by
  rw[kU,GY hj (XZ hx).1]
  refine(?_:(bp t).cps[j]? =some c)
  unfold bp;rw[YF];exact hx) (.t9 I))
theorem xO(h:0<=n):∃m:Nat,n=m:=⟨n.toNat,(Int.toNat_of_nonneg h).symm⟩
theorem uQ(r:IntsAre vs ns):aR cl h μ (ns.map .i) vs:=by
 induction r with
 |nil=>rfl
 |cons n t _ ih=>exact dN _ _ rfl (⟨t,rfl⟩) ih
theorem Um(I:aU Z s.heap μ σ)(ro:aS Z.KN.aF s.heap μ (.f xs) ov):∃a vs,ov=.ref a/\s.heap.IsList a vs.toArray/\aR Z.KN.aF s.heap μ xs vs:=by
 refine ba ro ?_;clear ro;intro q0 q1;subst q0;subst q1
 obtain⟨vs,h1,h2⟩:=I.ki
 exact dN _ vs rfl (h1.at λo=>I.dM _ o) (uQ h2)
theorem pi(h0:1<=n/\n<=xs.length)(hl:aD xs):Pr (tw (.t xs) (some (.i n)) Option.none σ) (.t (xs.drop n.toNat)) σ:=λZ A s μ ov l u sl I ro rl ru hs=>by
 refine aT rl ?_;clear rl;intro t q1;subst q1
 obtain rfl:u=.none:=ru
 obtain⟨a,vs,m,rfl,ha,_,hr⟩:=d6 ro
 refine aT (xO (Int.le_trans (by decide) h0.1)) λn q1=>?_;subst q1
 exact bm (GS ha) (getItem_tuple_from (dJ ha) hs (Int.ofNat_le.mp h0.1) (by rw[Yx,<-hr.length];exact Int.ofNat_le.mp h0.2) (BK I (by have:=hr.En n;simpa using this)) (lI hr hl))
theorem Q3(I:aU Z s.heap μ σ){a:Addr}(ha:s.heap.IsList a vs.toArray)(hr:aR Z.KN.aF s.heap μ xs vs)(h0:0<=n/\n<=bY)(hl:aD xs){t:Tok}{sl:Addr}(hs:s.heap.IsSliceOf sl (.int n t) .none .none):Wp Z A (getItem (.ref a) (.ref sl)) (R1 Z s μ (.r σ.length) (σ++[.l (xs.drop n.toNat)])) s:=by
 refine aT (xO h0.1) λn q1=>?_;subst q1
 refine wpAny_getItem_list_slice ha hs (.int _ _) .none .none (by simp) ?_ (lI hr hl)
 rw[slicePick_from']
 exact uZ I (by have:=hr.En n;simpa using this)
theorem HP(I:aU Z s.heap μ σ){a:Addr}(ha:s.heap.IsList a vs.toArray)(hr:aR Z.KN.aF s.heap μ xs vs)(h0:0<=n/\n<=bY)(hl:aD xs){t:Tok}{sl:Addr}(hs:s.heap.IsSliceOf sl .none (.int n t) .none):Wp Z A (getItem (.ref a) (.ref sl)) (R1 Z s μ (.r σ.length) (σ++[.l (xs.take n.toNat)])) s:=by
 refine aT (xO h0.1) λn q1=>?_;subst q1
 refine wpAny_getItem_list_slice ha hs .none (.int _ _) .none (by simp) ?_ (lI hr hl)
 rw[slicePick_upto']
 exact uZ I (by have:=hr.Eo n;simpa using this)
theorem sX(ha:σ[a]? =some (.l xs))(h0:0<=n/\n<=bY)(hl:aD xs):Pr (tw (.r a) (some (.i n)) Option.none σ) (.r σ.length) (σ++[.l (xs.drop n.toNat)]):=λZ A s μ ov l u sl I ro rl ru hs=>by
 refine aT rl ?_;clear rl;intro t q1;subst q1
 obtain rfl:u=.none:=ru
 obtain⟨x,vs,m,_,rfl,ha,hr⟩:=iA I ro ha
 exact bm (uO (dX ha)) (Q3 I (dX ha) hr h0 hl hs)
theorem Ja(ha:σ[a]? =some (.l xs))(h0:0<=n/\n<=bY)(hl:aD xs):Pr (tw (.r a) Option.none (some (.i n)) σ) (.r σ.length) (σ++[.l (xs.take n.toNat)]):=λZ A s μ ov l u sl I ro rl ru hs=>by
 refine aT ru ?_;clear ru;intro t q1;subst q1
 obtain rfl:l=.none:=rl
 obtain⟨x,vs,m,_,rfl,ha,hr⟩:=iA I ro ha
 exact bm (uO (dX ha)) (HP I (dX ha) hr h0 hl hs)
theorem SV(h0:0<=n/\n<=bY)(hl:aD xs):Pr (tw (.f xs) Option.none (some (.i n)) σ) (.r σ.length) (σ++[.l (xs.take n.toNat)]):=λZ A s μ ov l u sl I ro rl ru hs=>by
 refine aT ru ?_;clear ru;intro t q1;subst q1
 obtain rfl:l=.none:=rl
 refine cP (Um I ro) λa vs q2 ha hr=>?_;subst q2
 exact bm (uO ha) (HP I ha hr h0 hl hs)
theorem Cp(ha:σ[a]? =some (.l xs))(hl:aD xs):Pr (J2 (.r a) σ) (.r σ.length) (σ++[.l xs.reverse]):=λZ A s μ ov sl t I ro hs=>by
 obtain⟨x,vs,m,_,rfl,ha,hr⟩:=iA I ro ha
 refine bm (uO (dX ha)) (wpAny_getItem_list_slice (dX ha) hs .none .none (.int _ _) (by decide) ?_ (lI hr hl))
 rw[krv_pick]
 exact uZ I (by have:=hr.reverse;simpa using this)
theorem KF(I:aU Z s.heap μ σ)(hx:μ[i]? =some x)(hs:σ[i]? =some (.l xs)){n:Nat}(hb:∀b q,b≠x->s.heap.get? b=some q->h'.get? b=some q)(hD:h'.get? x=some (ir us n))(hr:aR Z.KN.aF s.heap μ ys us)(t:Nat):br Z s μ {s with heap:=h',toks:=t} μ (σ.set i (.l ys)):=
 have k:=I.y' (o':=.l ys) hx hs rfl (λ_ q=>nomatch q) hb ⟨_,hD⟩ (λe=>⟨us,n,hD,hr.li e⟩) λq=>bE q
 ⟨⟨rfl,rfl,rfl⟩,k.1,k.2⟩
theorem xI(I:aU Z s.heap μ σ)(hx:μ[i]? =some x)(hs:σ[i]? =some (.l xs)){n:Nat}(ha:s.heap.get? x=some (ir vs n)){f:Array Value->Array Value}(hf:f vs.toArray=us.toArray)(hr:aR Z.KN.aF s.heap μ ys us)(t:Nat):
  br Z s μ {s with heap:=s.heap.update x (Obj.mapSeq f),toks:=t} μ (σ.set i (.l ys)):=by
 have h:=get?_update_seq (c:="list") (xs:=vs.toArray) (n:=n) ha f
 rw[hf]at h
 exact KF I hx hs (λb q hb hq=>(Heap.get?_update_other _ _ (λe=>hb e.symm)).trans hq) h hr t
theorem xJ(hs:σ[a]? =some (.l xs))(h:∀(Z:Cx) (A:Around) (s:Shared) (μ:List Addr) (x:Addr) (us vs:List Value) (n:Nat),aU Z s.heap μ σ->μ[a]? =some x->s.heap.get? x=some (ir us n)->aR Z.KN.aF s.heap μ xs us->aR Z.KN.aF s.heap μ args vs->Wp Z A (call (.builtin (o9 1 m)) (.ref x::vs)) (R1 Z s μ y σ') s):dB m (.r a) args σ y σ':=
 λZ A s μ ov vs S R I ro r=>by
  obtain⟨x,us,n,hx,rfl,ha,hr⟩:=iA I ro hs
  rw[uX hs];exact h Z A s μ x us vs n I hx ha hr r
theorem ph(ha:σ[a]? =some (.l xs))(h:aD xs):Pr (dB 0 (.r a) [v] σ) .n (σ.set a (.l (xs++[v]))):=xJ ha λZ A s μ x us vs n I hx ho hr r=>
 nF (M:=λvs=>Wp Z A (call (.builtin "list.append") (.ref x::vs)) (R1 Z s μ .n (σ.set a (.l (xs++[v])))) s) r λu ru=>
  call_meets PySem.F.slot_list_append ⟨_,ho,rfl⟩ PySem.F.entry_list_append (PySem.F.args_list_append_2 _ _) (PySem.list_append x us.toArray n u (lI hr h)) ⟨ho,μ,xI I hx ha ho (f:=(·.push u)) (us:=us++[u]) (List.push_toArray us u) (hr.append (zC ru)) _,rfl⟩
theorem Gg(h:aD (xs++ys))(h1:aR Z.KN.aF s.heap μ xs us)(h2:aR Z.KN.aF s.heap μ ys vs):(Builtin.List.listTooLong (us.toArray.size+vs.toArray.size)=false)/\us.toArray.size<=sizeLine/\us.toArray.size+vs.toArray.size<=sizeLine:=by
 have e:us.toArray.size+vs.toArray.size<=1000000:=by rw[Yx,Yx,<-h1.length,<-h2.length,<-Xv];exact h
 unfold Builtin.List.listTooLong
 rw[sizeLine_eq]
 exact fA (Yb (by lia)) (bT (bP e rfl)) (bP e rfl)
theorem IX(ha:σ[a]? =some (.l xs))(hb:σ[b]? =some (.l ys))(hn:a≠b)(h:aD (xs++ys)):Pr (dB 1 (.r a) [.r b] σ) .n (σ.set a (.l (xs++ys))):=xJ ha λZ A s μ x us vs n I hx ho hr r=>
 nF (M:=λvs=>Wp Z A (call (.builtin "list.extend") (.ref x::vs)) (R1 Z s μ .n (σ.set a (.l (xs++ys)))) s) r λu ru=>by
  obtain⟨z,ws,m,_,rfl,hz,hr2⟩:=iA I ru hb
  have e:=Gg h hr hr2
  exact call_meets PySem.F.slot_list_extend ⟨_,ho,rfl⟩ PySem.F.entry_list_extend (PySem.F.args_list_extend_2 _ _) (AutoSeq1.list_extend_list_list_0 x us.toArray n z ws.toArray m (by rw[e.1,Bool.and_false];exact YE) e.2.1 (YV e.2.2)) ⟨ho,hz,μ,xI I hx ha ho (us:=us++ws) (List.append_toArray ..) (hr.append hr2) _,rfl⟩
theorem Su(ha:σ[a]? =some (.l xs))(h:aD (xs++ys)):Pr (dB 1 (.r a) [.t ys] σ) .n (σ.set a (.l (xs++ys))):=xJ ha λZ A s μ x us vs n I hx ho hr r=>
 nF (M:=λvs=>Wp Z A (call (.builtin "list.extend") (.ref x::vs)) (R1 Z s μ .n (σ.set a (.l (xs++ys)))) s) r λu ru=>by
  obtain⟨z,ws,m,rfl,hz,_,hr2⟩:=d6 ru
  have e:=Gg h hr hr2
  exact call_meets PySem.F.slot_list_extend ⟨_,ho,rfl⟩ PySem.F.entry_list_extend (PySem.F.args_list_extend_2 _ _) (AutoSeq1.list_extend_list_tuple_0 x us.toArray n z ws.toArray m (by rw[e.1,Bool.and_false];exact YE) e.2.1 (YV e.2.2)) ⟨ho,hz,μ,xI I hx ha ho (us:=us++ws) (List.append_toArray ..) (hr.append hr2) _,rfl⟩
theorem Co(ha:σ[a]? =some (.l xs))(hv:xs.getLast? =some v)(h:aD xs):Pr (dB 2 (.r a) [] σ) v (σ.set a (.l xs.dropLast)):=xJ ha λZ A s μ x us vs n I hx ho hr r=>
 Cc (M:=λvs=>Wp Z A (call (.builtin "list.pop") (.ref x::vs)) (R1 Z s μ v (σ.set a (.l xs.dropLast))) s) r (by
  rw[List.getLast?_eq_getElem?]at hv
  refine az (hr.get hv) λu hu ru=>?_
  rw[hr.length]at hu
  have st:=xI I hx ha ho (f:=λxs:Array Value=>xs.eraseIdxIfInBounds (us.toArray.size - 1)) (us:=us.dropLast) (by
   have hlt:us.length - 1 < us.length:=(XZ hu).1
   apply Array.ext'
   simp only[Yx,Array.eraseIdxIfInBounds,hlt,dite_true,Array.toList_eraseIdx]
   rw[List.eraseIdx_eq_take_drop_succ,List.drop_of_length_le (by exact qGu),Yi,List.dropLast_eq_take]) hr.Nc s.toks
  exact call_meets PySem.F.slot_list_pop ⟨_,ho,rfl⟩ PySem.F.entry_list_pop (PySem.F.args_list_pop_1 _) (MeetsSeq.list_pop_last x us.toArray n u (by rw[Yx,YF];exact hu) (lI hr h)) ⟨ho,μ,st,ru.cE st.bJ⟩)
end
noncomputable def z5:Bl->Value
 | .l=>.builtin "len"
 | .t=>.type "tuple"
 | .s=>.builtin "sum"
 | .o=>.builtin "sorted"
 | .r=>.builtin "sorted"
 | .i=>.type "int"
 | .b=>.builtin "abs"
 | .a=>.type "str"
 | .m=>.builtin "max"
 | .c=>.type "list"
 | .S=>.builtin "isinstance"
 | .z=>.type "zip"
noncomputable def Bq(x:V)(σ:aj)(r:Bool):Prop:=∀(Z:Cx) (A:Around) (s:Shared) (μ:List Addr) (v:Value),aU Z s.heap μ σ->aS Z.KN.aF s.heap μ x v->Wp Z A (call (.builtin "isinstance") [v,.type "str"]) (R1 Z s μ (.b r) σ) s
noncomputable def Kg(x:V)(σ:aj)(y:V)(σ':aj):Prop:=∀(Z:Cx) (A:Around) (s:Shared) (μ:List Addr) (v:Value),Rq A->aU Z s.heap μ σ->aS Z.KN.aF s.heap μ x v->
 Wp Z A (call (.type "set") [v]) (λsv s₁=>(∀b o,Z.cU.get? b=some o->s₁.heap.get? b=some o)/\Wp Z A (call (.builtin "sorted") [sv]) (R1 Z s μ y σ') s₁) s
noncomputable def il(b:Bl)(args:List V)(σ:aj)(x:V)(σ':aj):Prop:=gu (z5 b) args σ x σ'
section
variable {s:Shared}{a b i j m:Nat}{k u v w y:V}{f:Value}{n:Int}{xs ys args:List V}{p t:List Nat}{h:Heap}{is:List Int}
theorem gu.mJ(h:∀(Z:Cx) (A:Around) (s:Shared) (μ:List Addr) (v:Value),Rq A->aU Z s.heap μ σ->aS Z.KN.aF s.heap μ k v->Wp Z A (call f [v]) (R1 Z s μ y σ') s):gu f [k] σ y σ':=λZ A s μ vs S R I r=>
 nF (M:=λvs=>Wp Z A (call f vs) (R1 Z s μ y σ') s) r λv rv=>h Z A s μ v R I rv
theorem rj(hs:σ[a]? =some (.l xs))(h:∀(Z:Cx) (A:Around) (s:Shared) (μ:List Addr) (x:Addr) (us:List Value) (n:Nat),Rq A->aU Z s.heap μ σ->s.heap.get? x=some (ir us n)->aR Z.KN.aF s.heap μ xs us->Wp Z A (call f [.ref x]) (R1 Z s μ y σ') s):gu f [.r a] σ y σ':=
 .mJ λZ A s μ v R I r=>by obtain⟨x,us,n,hx,rfl,ha,hr⟩:=iA I r hs;exact h Z A s μ x us n R I ha hr
theorem xz(xs:List V):∀{vs:List Value} {is:List Int},aR cl h μ xs vs->jz xs=some is->IntsAre vs is:=by
 induction xs with
 |nil=>intro vs is r e;obtain rfl:vs=[]:=r;exact XA e▸.nil
 |cons y xs ih=>
  intro vs is r e
  refine cP r ?_;clear r;intro v q q2 h1 h2;subst q2
  rcases y with _ |_ |m |_ |_ |_ |_ |_<;>first |exact bN e |skip
  refine az (YK e) λl hl q2=>?_;subst q2
  refine aT h1 ?_;clear h1;intro t q1;subst q1
  exact .cons _ t (ih h2 hl)
theorem G4(x:Int)(l:List Int):(nj x l).Perm (x::l):=by
 induction l with
 |nil=>exact .refl _
 |cons y ys ih=>
  rw[xy]
  split
  ·exact .refl _
  ·exact(ih.cons y).trans (.swap x y ys)
theorem Uw(l:List Int):(iP l).Perm l:=by
 induction l with
 |nil=>exact .refl _
 |cons x xs ih=>exact(G4 x _).trans (ih.cons x)
theorem Qi(x:Int)(l:List Int)(h:l.Pairwise (· <=·)):(nj x l).Pairwise (· <=·):=by
 induction l with
 |nil=>exact List.pairwise_singleton ..
 |cons y ys ih=>
  have h1:=List.pairwise_cons.mp h
  rw[xy]
  split
  ·next c=>exact List.pairwise_cons.mpr ⟨λa ha=>(XL ha).elim (λe=>e▸c) λq=>Int.le_trans c (h1.1 a q),h⟩
  ·next c=>exact List.pairwise_cons.mpr ⟨λa ha=>(XL ((G4 x ys).mem_iff.mp ha)).elim (λe=>e▸Int.le_of_lt (Int.not_le.mp c)) (h1.1 a),ih h1.2⟩
theorem Ux(l:List Int):(iP l).Pairwise (· <=·):=by
 induction l with
 |nil=>exact .nil
 |cons x xs ih=>exact Qi x _ ih
theorem Ke{l m:List Int}(hp:m.Perm l)(hs:m.Pairwise (· <=·)):m=iP l:=
 (hp.trans (Uw l).symm).eq_of_pairwise (λa b _ _ h1 h2=>Int.le_antisymm h1 h2) hs (Ux l)
theorem Ra(l:List Int):∀m:Int,o8 m l∈m::l:=by
 induction l with
 |nil=>exact λm=>Ym rfl
 |cons x xs ih=>
  intro m
  show o8 (if x > m then x else m) xs∈_
  rcases XL (ih (if x > m then x else m))with h |h
  ·rw[h];split
   ·exact XI _ (XH ..)
   ·exact XH ..
  ·exact XI _ (XI _ h)
theorem Q'(l:List Int):∀m:Int,∀a∈m::l,a<=o8 m l:=by
 induction l with
 |nil=>exact λm a h=>Int.le_of_eq (XG h)
 |cons x xs ih=>
  intro m a ha
  show a<=o8 (if x > m then x else m) xs
  have h0:=ih (if x > m then x else m) _ (XH ..)
  rcases XL ha with e |ha
  ·refine Int.le_trans ?_ h0;rw[e];split
   ·next c=>exact Int.le_of_lt c
   ·exact Int.le_refl _
  ·rcases XL ha with e |ha
   ·refine Int.le_trans ?_ h0;rw[e];split
    ·exact Int.le_refl _
    ·next c=>exact Int.not_lt.mp c
   ·exact ih _ a (XI _ ha)
theorem G5(hi:IntsAre vs is):∃xs:Array (Int×Tok),vs.toArray=intItems xs/\is=xs.toList.map (·.1):=by
 obtain⟨xs,hx⟩:=hi.allInts.items
 exact aC xs hx (by rw[<-nums_intItems,<-hx];exact(show numsOf vs.toArray.toList=is from hi.numsOf).symm)
theorem x3(ha:σ[a]? =some (.l xs))(hi:jz xs=some is)(hl:aD xs)(hb:∀i∈is,0<=i/\i<=bY):Pr (il .s [.r a] σ) (.i is.sum) σ:=rj ha λZ A s μ x us m R I ho hr=>by
 refine az (G5 (xz xs hr hi)) λas hx hn=>?_
 refine sum_intListG R.Wn (hx▸dX ho) λh' tk t' hk=>?_
 rw[preSum_eq,List.take_of_length_le (by simp),<-hn]
 exact⟨μ,iH I hk tk,t',rfl⟩
theorem SJ(ha:σ[a]? =some (.l xs)){i:Int}(hi:jz xs=some (i::is))(hl:aD xs):Pr (il .m [.r a] σ) (.i (o8 i is)) σ:=rj ha λZ A s μ x us m R I ho hr=>by
 refine az (G5 (xz xs hr hi)) λas hx hn=>?_
 have hsz:as.size=is.length+1:=by have:=XB List.length hn;rw[Xr,Zs]at this;exact this.symm
 refine max_intList R.Wn (hx▸dX ho) (hsz▸Zd _) λu h' tk hu hk=>?_
 refine aT (intItems_at hu) λt q1=>?_;subst q1
 refine ba (argBest_gt (numAt as) (as.size - 1)) λh1 h2=>?_
 have e:numAt as (argBest (λi j=>decide (numAt as i > numAt as j)) (as.size - 1))=o8 i is:=by
  apply Int.le_antisymm
  ·refine Q' is i _ ?_
   rw[hn,numAt_eq];exact getD_mem (by rw[Xr,Zs];exact qG9 h1 hsz)
  ·refine az (mem_getD (Ra is i)) λj hj hm=>?_
   rw[hn]at hj hm
   rw[Xr,Zs]at hj
   rw[<-hm,<-numAt_eq];exact h2 j (qGa hj)
 rw[e]
 exact⟨μ,iH I hk tk,t,rfl⟩
theorem Cq(ha:σ[a]? =some (.l xs))(hi:jz xs=some is)(h64:xs.length < 64):Pr (il .o [.r a] σ) (.r σ.length) (σ++[.l ((iP is).map .i)]):=rj ha λZ A s μ x us m R I ho hr=>by
 refine sorted_ints (dX ho) (xz xs hr hi) (by rw[<-hr.length];exact h64) λout ns' ho hp ho'=>?_
 obtain rfl:=Ke hp ho'
 refine aT (sortedAll_at s.heap us out) λe he=>?_
 exact u0 (n:=e) (vs:=out.toList) I (uQ ho) (λb o hb=>sortedAll_old hb) (mz (Yp _)) (by rw[he])
theorem HA(hr:aR cl h μ xs vs)(hl:aD xs):(vs.toArray.size:Int) < 2 ^ 63:=by rw[Yx,<-hr.length,vj];unfold aD aK at hl;lia
theorem x0(hl:aD xs):Pr (il .l [.t xs] σ) (.i xs.length) σ:=gu.mJ λZ A s μ v R I r=>by
 obtain⟨a,us,n,rfl,ha,_,hr⟩:=d6 r
 exact PyProof.Rows.len_tuple (dJ ha) (HA hr hl) (by rw[Yx,<-hr.length];exact .jM I)
theorem fC(ha:σ[a]? =some (.l xs))(hl:aD xs):Pr (il .l [.r a] σ) (.i xs.length) σ:=rj ha λZ A s μ x us m R I ho hr=>
 PyProof.Rows.len_list (dX ho) (HA hr hl) (by rw[Yx,<-hr.length];exact .jM I)
theorem VN(hl:aD p):Pr (il .l [.s p] σ) (.i p.length) σ:=gu.mJ λZ A s μ v R I ⟨t,e⟩=>by
 subst e
 exact PySem.P.len_str (by rw[kU,vj];unfold aD aK at hl;lia) (by rw[kU];exact .jM I)
theorem SX:Pr (il .t [.t xs] σ) (.t xs) σ:=gu.mJ λZ A s μ v R I r=>by
 obtain⟨a,us,n,rfl,ha,_,hr⟩:=d6 r
 exact call_tuple_tup (dJ ha) (.id I r)
theorem j3(ha:σ[a]? =some (.l xs))(hl:aD xs):Pr (il .t [.r a] σ) (.t xs) σ:=rj ha λZ A s μ x us m R I ho hr=>
 call_tuple_list (dX ho) (λh' hk=>H9 (n:=0) I hr (λb o hb=>XO _ (hk b o hb)) (ZG λo hg=>YW _ (Ys (hk _ _ hg))) (Yg _ rfl)) (lI hr hl)
theorem I0(ha:σ[a]? =some (.l xs))(hl:aD xs):Pr (il .c [.r a] σ) (.r σ.length) (σ++[.l xs]):=rj ha λZ A s μ x us m R I ho hr=>
 call_list_seq x (T:="list") (.inl rfl) ho rfl rfl (λh' c' hk hD=>u0 (n:=c') I hr hk iB hD) (lI hr hl)
theorem SA:Pr (il .i [.i n] σ) (.i n) σ:=gu.mJ λZ A s μ v R I ⟨t,e⟩=>e▸call_int_int (.id I ⟨t,rfl⟩)
theorem IY{r:Bool}:Pr (il .i [.b r] σ) (.i (if r then 1 else 0)) σ:=gu.mJ λZ A s μ v R I e=>by obtain rfl:v=.bool r:=e;exact call_int_bool (.jM I)
theorem Sq:Pr (il .b [.i n] σ) (.i n.natAbs) σ:=gu.mJ λZ A s μ v R I ⟨t,e⟩=>by
 subst e
 exact call_abs_int λu tk=>(show(if n < 0 then -n else n)=(n.natAbs:Int) by lia)▸.jM I
theorem SP(hk:dz n):Pr (il .a [.i n] σ) (.s (FM n)) σ:=gu.mJ λZ A s μ v R I ⟨t,e⟩=>by
 subst e
 refine PySem.P.str_of_int ?_ (.ky I ⟨s.toks,XB (Value.str · s.toks) (UL _).symm⟩)
 by_cases h0:n=0
 ·subst h0;decide
 ·refine(Nat.log2_lt (qGi h0)).mpr (XJ (m:=2 ^ 64) ?_ (Nat.pow_le_pow_right (by decide) (by decide)))
  unfold dz bY at hk;lia
theorem SD:Bq (.s p) σ true:=λZ A s μ v I ⟨t,e⟩=>e▸PySem.IsiPair.str_str (.ku I)
theorem SB(ha:σ[a]? =some (.l xs)):Bq (.r a) σ false:=λZ A s μ v I rv=>by
 obtain⟨x,us,n,_,rfl,ha,hr⟩:=iA I rv ha
 exact PySem.IsiPair.list_str ha rfl (.ku I)
theorem CR(xs:List V):∀{vs:List Value} {ws:List (List Nat)},aR cl h μ xs vs->jC xs=some ws->StrsAre vs (ws.map bp):=by
 induction xs with
 |nil=>intro vs is r e;obtain rfl:vs=[]:=r;exact XA e▸.nil
 |cons y xs ih=>
  intro vs is r e
  refine cP r ?_;clear r;intro v q q2 h1 h2;subst q2
  rcases y with _ |_ |_ |m |_ |_ |_ |_<;>first |exact bN e |skip
  refine az (YK e) λl hl q2=>?_;subst q2
  refine aT h1 ?_;clear h1;intro t q1;subst q1
  exact .cons _ t (ih h2 hl)
theorem xK(h:∀(Z:Cx) (A:Around) (s:Shared) (μ:List Addr) (t:Tok) (vs:List Value),aU Z s.heap μ σ->aR Z.KN.aF s.heap μ args vs->Wp Z A (call (.builtin (o9 4 m)) (.str (bp p) t::vs)) (R1 Z s μ y σ') s):dB m (.s p) args σ y σ':=
 λZ A s μ ov vs S R I ⟨t,e⟩ r=>by subst e;exact h Z A s μ t vs I r
theorem P8(sep:List Nat)(ws:List (List Nat)):Builtin.Str.glued (bp sep) (ws.map bp)=bp (cy sep ws):=by
 have key:∀(ws:List (List Nat)) (acc:Array Nat),((ws.map bp).foldl (λ(acc:Array Nat) (p:Str)=>acc++(bp sep).cps++p.cps) acc)=acc++(match ws with | []=>#[] |w::r=>(sep++cy sep (w::r)).toArray):=by
  intro ws
  induction ws with
  |nil=>intro acc;simp
  |cons w r ih=>
   intro acc
   rw[XD,List.foldl_cons,ih]
   cases r with
   |nil=>simp[bp,oZ]
   |cons a b=>simp[bp,qB]
 unfold Builtin.Str.glued
 cases ws with
 |nil=>simp[Bv,bp,Str.empty]
 |cons w r=>
  rw[XD,List.drop_one,List.tail_cons,key]
  cases r with
  |nil=>simp[oZ,bp]
  |cons a b=>simp[qB,bp]
theorem Qu(sep:List Nat)(ws:List (List Nat)):∀w,(ws.map λw=>w.length+sep.length).sum+w.length<=(cy sep (w::ws)).length:=by
 induction ws with
 |nil=>intro w;exact Yd (Nat.zero_add _)
 |cons a b ih=>
  intro w
  refine(?_:_<=(w++sep++cy sep (a::b)).length)
  have:=ih a
  rw[XD,Yq,Xv,Xv];lia
theorem PY(sep:Str)(ws:List (List Nat)):∀k:Nat,(ws.map bp).foldl (λa (p:Str)=>a+p.length+sep.length) k=k+(ws.map λw=>w.length+sep.length).sum:=by
 induction ws with
 |nil=>exact λk=>rfl
 |cons w r ih=>intro k;rw[XD,List.foldl_cons,ih,kU,XD,Yq];lia
theorem UR{ss:List Str}(h:StrsAre vs ss):∃l:List (Str×Tok),vs=strValues l/\l.map (·.1)=ss:=by
 induction h with
 |nil=>exact aC ([]) rfl rfl
 |cons y t _ ih=>refine az ih ?_;clear ih;intro l h1 h2;exact aC ((y,t)::l) (h1▸rfl) (h2▸rfl)
theorem Qv(ws:List (List Nat))(h2:aD p)(h3:aD (cy p ws)):JoinOk (bp p) (ws.map bp):=by
 unfold JoinOk
 have e:((ws.map bp).toArray.foldl (λa (q:Str)=>a+q.length+(bp p).length) 0)<=2 * aK:=by
  rw[List.foldl_toArray' _ _ _ rfl,PY,kU]
  unfold aD at h2 h3
  cases ws with
  |nil=>exact Xw _
  |cons w r=>have:=Qu p r w;rw[XD,Yq];lia
 rw[Bool.not_eq_true']
 unfold Builtin.Str.tooLong
 rw[sizeLine_eq]
 unfold aK at e
 exact Yb (by lia)
theorem IZ(ha:σ[a]? =some (.l xs)){ws:List (List Nat)}(hw:jC xs=some ws)(h1:aD xs)(h2:aD p)(h3:aD (cy p ws)):Pr (dB 5 (.s p) [.r a] σ) (.s (cy p ws)) σ:=xK λZ A s μ t vs I r=>
 nF (M:=λvs=>Wp Z A (call (.builtin "str.join") (.str (bp p) t::vs)) (R1 Z s μ (.s (cy p ws)) σ) s) r λv rv=>by
  obtain⟨x,us,n,_,rfl,ho,hr⟩:=iA I rv ha
  refine az (UR (CR xs hr hw)) λl q1 hl=>?_;subst q1
  exact SC.join (dX ho) hl (Qv ws h2 h3) λt' k=>(show Txt.join (bp p) (ws.map bp)=bp (cy p ws) from P8 p ws)▸.t9 I
theorem OL(c:Nat)(l:List Nat):cnt c l=(l.count c:Int):=by
 induction l with
 |nil=>rfl
 |cons a l ih=>
  rw[cnt_cons,ih,List.count_cons]
  by_cases h:a=c<;>simp[h]<;>lia
theorem Sr{c:Nat}(hl:aD p):Pr (dB 6 (.s p) [.s [c]] σ) (.i (p.count c)) σ:=xK λZ A s μ t vs I r=>
 nF (M:=λvs=>Wp Z A (call (.builtin "str.count") (.str (bp p) t::vs)) (R1 Z s μ (.i (p.count c)) σ) s) r λv rv=>by
  refine aT rv ?_;clear rv;intro t' q1;subst q1
  exact SC.count ((show Txt.count (bp p) (bp [c])=(p.count c:Int) from(count_is (bp p) c).trans (OL c p))▸.jM I)
theorem SG:Pr (dB 8 (.s p) [] σ) (.b (!p.isEmpty&&p.all kJ)) σ:=xK λZ A s μ t vs I r=>
 Cc (M:=λvs=>Wp Z A (call (.builtin "str.isspace") (.str (bp p) t::vs)) (R1 Z s μ (.b (!p.isEmpty&&p.all kJ)) σ) s) r
  (SC.isspace ((show Txt.isspace (bp p)=(!p.isEmpty&&p.all kJ) by
   unfold Txt.isspace
   rw[kU,show decide (p.length > 0)= !p.isEmpty by cases p<;>simp]
   congr 1
   simp[bp,kJ]
   rfl)▸.ku I))
theorem UN(h1:∃c r,p=c::r/\kJ c=false)(h2:∃c r,p=r++[c]/\kJ c=false):Txt.strip (bp p)=bp p:=by
 unfold Txt.strip Txt.stripBy
 rw[Xz]
 refine dY h1 ?_;clear h1;intro c r hc hcw
 refine dY h2 ?_;clear h2;intro d r2 hd hdw
 have e1:stripLo Unicode.isSpace true (bp p)=0:=by
  unfold stripLo
  rw[Xz rfl,Kl,hc,List.takeWhile_cons,XC (by rw[show Unicode.isSpace c=kJ c from rfl,hcw];exact YE)]
  rfl
 have e2:stripHi Unicode.isSpace true (bp p) 0=(bp p).length:=by
  unfold stripHi
  rw[Xz rfl,Kl,List.drop_zero,hd,List.reverse_append,List.reverse_singleton,List.singleton_append,List.takeWhile_cons,XC (by rw[show Unicode.isSpace d=kJ d from rfl,hdw];exact YE)]
  rfl
 unfold stripSame
 rw[e1,e2];simp
theorem SQ(hl:aD p)(h1:∃c r,p=c::r/\kJ c=false)(h2:∃c r,p=r++[c]/\kJ c=false):Pr (dB 7 (.s p) [] σ) (.s p) σ:=xK λZ A s μ t vs I r=>
 Cc (M:=λvs=>Wp Z A (call (.builtin "str.strip") (.str (bp p) t::vs)) (R1 Z s μ (.s p) σ) s) r
  (SC.strip (λt' k=>(UN h1 h2).symm▸.t9 I) (by rw[kU];exact kj hl))
end
theorem Qn(p:List Nat)(s:List Nat):gd p s=true↔∃i,i+p.length<=s.length/\(s.drop i).take p.length=p:=by
 induction s with
 |nil=>exact List.isEmpty_iff.trans ⟨λh=>⟨0,by rw[h];exact bm (Xx _) rfl⟩,λ⟨i,h,_⟩=>Zo (Nat.le_zero.mp (Xs (YQ ..) h))⟩
 |cons c r ih=>
  refine(?_:(p.isPrefixOf (c::r)||gd p r)=true↔_)
  rw[Bool.or_eq_true,List.isPrefixOf_iff_prefix,ih,List.prefix_iff_eq_take]
  constructor
  ·rintro(h | ⟨i,h1,h2⟩)
   ·exact aC 0 (by have:=XB List.length h;rw[List.length_take]at this;exact qGb this) h.symm
   ·exact aC (i+1) (by rw[Xy];exact hY (qR h1)) h2
  ·rintro⟨i,h1,h2⟩
   rcases i with _ |j
   ·exact .inl h2.symm
   ·exact .inr ⟨j,by rw[Xy]at h1;exact jc (hY h1),h2⟩
theorem P3(s p:List Nat):(!(Builtin.Str.occurrences (bp s) (bp p) 0 (bp s).length 1).isEmpty)=gd p s:=by
 rw[Bool.eq_iff_iff,StrLaws.found_iff,Qn,kU,kU]
 refine exists_congr λi=>and_congr_right λ_=>?_
 unfold Builtin.Str.subAt
 rw[kU]
 refine(?_:((s.toArray.extract i (i+p.length))==p.toArray)=true↔_)
 rw[beq_iff_eq]
 constructor
 ·intro h
  have:=XB Array.toList h
  simpa using this
 ·intro h
  apply Array.ext'
  simpa using h
section
variable {s:Shared}{i j m:Nat}{a b k u v w y:V}{f:Value}{n:Int}{xs ys args:List V}{p t:List Nat}{h:Heap}{is:List Int}{r:Bool}{op:pC}
theorem Oi(p:List Nat)(ws:List (List Nat)):(ws.map bp).any (· ==bp p)=ws.contains p:=by
 induction ws with
 |nil=>rfl
 |cons a l ih=>
  rw[XD,List.any_cons,List.contains_cons,ih,show(bp a==bp p)=(p==a) from Bool.eq_iff_iff.mpr (by rw[beq_iff_eq,beq_iff_eq];exact⟨λq=>(nS q).symm,λq=>XB bp q.symm⟩)]
theorem Qe{M:Bool->Prop}(he:xw σ a b=some r)(h1:∀p s,a=.s p->b=.s s->M (gd p s))(h2:∀p ys ws,a=.s p->b=.t ys->jC ys=some ws->M (ws.contains p))(h3:∀j o q,b=.r j->σ[j]? =some o->fu o a=some q->M q.isSome):M r:=by
 rcases b with _ |_ |_ |s |ys |j |_ |_<;>first |exact bN he |skip
 ·rcases a with _ |_ |_ |p |_ |_ |_ |_<;>first |exact bN he |skip
  exact XA he▸h1 p s rfl rfl
 ·rcases a with _ |_ |_ |p |_ |_ |_ |_<;>first |exact bN he |skip
  refine az (YK he) λws hw e=>?_
  exact e▸h2 p ys ws rfl rfl hw
 ·refine az (ZF he) λo ho he=>?_
  refine az (YK he) λq hq e=>?_
  exact e▸h3 j o q rfl ho hq
theorem GZ(R:Rq A)(I:aU Z s.heap μ σ)(ra:aS Z.KN.aF s.heap μ a va)(rb:aS Z.KN.aF s.heap μ b vb)(he:xw σ a b=some r):Wp Z A (compareOp .In va vb) (R1 Z s μ (.b r) σ) s/\Wp Z A (compareOp .NotIn va vb) (R1 Z s μ (.b (!r)) σ) s:=
 Qe (M:=λr=>Wp Z A (compareOp .In va vb) (R1 Z s μ (.b r) σ) s/\Wp Z A (compareOp .NotIn va vb) (R1 Z s μ (.b (!r)) σ) s) he
  (λp t e1 e2=>by
   subst e1 e2
   refine aT ra ?_;clear ra;intro _ q1;subst q1
   refine aT rb ?_;clear rb;intro _ q1;subst q1
   rw[<-P3]
   exact bm (PyProof.Rows.in_str (.ku I)) (PyProof.Rows.notIn_str (.ku I)))
  (λp ys ws e1 e2 hw=>by
   subst e1 e2
   refine aT ra ?_;clear ra;intro _ q1;subst q1
   obtain⟨z,ws,m,rfl,hz,_,hr⟩:=d6 rb
   rw[<-Oi]
   exact bm (in_tuple_strs (dJ hz) (CR ys hr hw) (.ku I)) (notin_tuple_strs (dJ hz) (CR ys hr hw) (.ku I)))
  (λj o q e ho hq=>by
   subst e
   refine az rb ?_;clear rb;intro x hx q2;subst q2
   exact bm (Qf R I ho hx ra hq) (RG R I ho hx ra hq))
theorem CX{f:Int->Int->Bool}{M:Value->Value->Bool->Prop}(h:w8 f a b=some r)(ra:aS cl s.heap μ a va)(rb:aS cl s.heap μ b vb)(k:∀x t y u,M (.int x t) (.int y u) (f x y)):M va vb r:=by
 rcases a with _ |_ |x |_ |_ |_ |_ |_<;>first |exact bN h |skip
 rcases b with _ |_ |y |_ |_ |_ |_ |_<;>first |exact bN h |skip
 refine aT ra ?_;clear ra;intro t q1;subst q1
 refine aT rb ?_;clear rb;intro u q1;subst q1
 exact XA h▸k x t y u
theorem Qp(ra:aS cl s.heap μ a va)(h:G9 a=some r)(q:Q (.bool r) s):Wp Z A (compareOp .Is va .none) Q s:=by
 rcases a with _ |_ |x |x |xs |i |_ |_<;>first |exact bN h |skip
 ·obtain rfl:va=.none:=ra;exact is_none_none (XA h▸q)
 ·refine aT ra ?_;clear ra;intro t q1;subst q1;exact is_none_ne (λe=>Value.noConfusion e) (XA h▸q)
 ·refine aT ra ?_;clear ra;intro t q1;subst q1;exact is_none_ne (λe=>Value.noConfusion e) (XA h▸q)
 ·obtain⟨z,ws,m,rfl,_⟩:=d6 ra;exact is_none_ne (λe=>Value.noConfusion e) (XA h▸q)
 ·refine az ra ?_;clear ra;intro t _ q2;subst q2;exact is_none_ne (λe=>Value.noConfusion e) (XA h▸q)
theorem sk(R:Rq A)(I:aU Z s.heap μ σ)(ra:aS Z.KN.aF s.heap μ a va)(rb:aS Z.KN.aF s.heap μ b vb)(hc:gX σ op a b=some r)(hd:dI op a):Wp Z A (compareOp (fO op) va vb) (R1 Z s μ (.b r) σ) s:=by
 have fin {r:Bool} (t:Nat):R1 Z s μ (.b r) σ (.bool r) {s with toks:=t}:=.ku I
 rcases op with _ |_ |_ |_ |_ |_ |_ |_
 ·exact(F0 R.WU I ra rb hc hd).1 Z.bK Z.VP NE _ (fin s.toks)
 ·refine az (YK hc) λq hq e=>?_
  exact e▸(F0 R.WU I ra rb hq hd).2 Z.bK Z.VP NE _ (fin s.toks)
 ·exact CX (M:=λva vb r=>Wp Z A (compareOp .Lt va vb) (R1 Z s μ (.b r) σ) s) hc ra rb λx t y u=>PyProof.Rows.lt_int (fin s.toks)
 ·exact CX (M:=λva vb r=>Wp Z A (compareOp .LtE va vb) (R1 Z s μ (.b r) σ) s) hc ra rb λx t y u=>PyProof.Rows.le_int (fin s.toks)
 ·exact CX (M:=λva vb r=>Wp Z A (compareOp .Gt va vb) (R1 Z s μ (.b r) σ) s) hc ra rb λx t y u=>PyProof.Rows.gt_int (fin s.toks)
 ·rcases b with _ |_ |_ |_ |_ |_ |_ |_<;>first |exact bN hc |skip
  obtain rfl:vb=.none:=rb
  exact Qp ra hc (fin s.toks)
 ·exact(GZ R I ra rb hc).1
 ·refine az (YK hc) λq hq e=>?_
  exact e▸(GZ R I ra rb hq).2
theorem Un{l:Addr}{n:Nat}{t:Tok}{v:Value}{Q:Unit->Shared->Prop}(ho:s.heap.get? l=some (ir vs n))(hj:j < vs.length){k:Int}(hk:k=(j:Int))(hfit:k < 2 ^ 63)
  (hQ:∀h' n',h'.get? l=some (ir (vs.set j v) n')->Heap.SameBut l s.heap h'->Q () {s with heap:=h'}):
  Wp Z A (setItem (.ref l) (.int k t) v) Q s:=by
 have hl:=dX ho
 unfold setItem
 with_reducible refine XR ?_
 refine Xq (wpAny_sequenceKey hl.typeIs (by decide) ?_)
 refine Xq (wpAny_callSpecial?_slot (name:=Str.ofString "__setitem__") hl.typeIs slot_list_setitem
  (Y6 slot_list_setitem hl.typeIs entry_list_setitem ?_ (args_list_setitem _ _ _)))
 refine(?_:wpAny _ _ (Builtin.List.listSubscript? (.int k t)>>=_) _ _ s)
 refine Xq (wpAny_listSubscript_int (fitsIndex_of (by rw[hk];exact YX j) hfit) ?_)
 clear hfit
 subst hk
 refine(?_:wpAny _ _ ((seqItemAt l j>>=λr=>pure (r.map (j,·)))>>=_) _ _ s)
 refine Xq (Xq (wpAny_seqItemAt ho rfl (Xu ?_)))
 rw[show vs.toArray[j]? =some vs[j] by simp[hj]]
 refine(?_:wpAny _ _ (setSeqItemAt l j v>>=_) _ _ s)
 refine aT (Obj.data_mapSeq (o:=ir vs n) rfl (·.setIfInBounds j v)) λn' hd'=>?_
 refine Xq (wpAny_setSeqItemAt ho rfl (Xu (aC .none rfl (Xu (hQ _ n' ?_ (Heap.SameBut.update ..))))))
 rw[ZC _ ho (Obj.isFreed_of_seq hd'),show(ir vs n).mapSeq (·.setIfInBounds j v)={cls:=.type "list",data:=((ir vs n).mapSeq (·.setIfInBounds j v)).data} from rfl,hd']
 simp
theorem aR.Nf{x:V}{v:Value}(r:aS cl h μ x v)(xs:List V):∀{vs:List Value},aR cl h μ xs vs->∀j,aR cl h μ (xs.set j x) (vs.set j v):=by
 induction xs with
 |nil=>intro vs h1 j;obtain rfl:vs=[]:=h1;rfl
 |cons y xs ih=>
  intro vs h1 j
  refine cP h1 ?_;clear h1;intro u us q2 h2 h3;subst q2
  rcases j with _ |j
  ·exact dN _ _ rfl r h3
  ·exact dN _ _ rfl h2 (ih h3 j)
theorem SM{a:Nat}(ha:σ[a]? =some (.l xs))(h0:0<=n)(hx:n.toNat < xs.length)(hl:xs.length<=aK):lY (mG (.r a) (.i n) v σ) (σ.set a (.l (xs.set n.toNat v))):=λZ A s μ ov iv vv R I ro ri rv=>by
 refine aT ri ?_;clear ri;intro t q1;subst q1
 obtain⟨x,us,m,hx',rfl,ho,hr⟩:=iA I ro ha
 refine aT (xO h0) λn q1=>?_;subst q1
 exact Un ho (by rw[<-hr.length];exact hx) rfl (by have:n < xs.length:=hx;unfold aK at hl;rw[vj];lia) λh' n' hm hb=>⟨μ,KF I hx' ha (jB hb) hm (hr.Nf rv xs n) _⟩
end
structure KQ(L:dh)(c a:Nat)(attr:Option Value):Prop where
 KS:plainGet L.VQ (L.aF.VS c) (L.ct a)=true
 Db:hasDictIn L.VQ (L.aF.VS c)=true
 KR:findIn L.VQ (.ref (L.aF.VS c)) (L.ct a)=some attr
 no:noGet L.VQ attr=true
 KU:findIn L.VQ (.ref (L.aF.VS c)) "__setattr__"=some (some (.builtin "object.__setattr__"))
 KT:plainOver L.VQ (L.aF.VS c)=true
 KW:takerIn L.VQ (L.aF.VS c) (L.ct a)=some none
structure ME(L:dh)(c m k:Nat):Prop where
 DW:plainGet L.VQ (L.aF.VS c) (L.ct m)=true
 MF:findIn L.VQ (.ref (L.aF.VS c)) (L.ct m)=some (some (.ref (L.fn k)))
 fn:isFn L.VQ (.ref (L.fn k))=true
 MH:∀d a,fE d a=true->L.ct a≠L.ct m
 MG:keepIn L.VQ (.ref (L.fn k))=true
structure Mo(L:dh)(c k:Nat):Prop where
 Mq:makesIn L.VQ (L.aF.VS c)=true
 Mp:findIn L.VQ (.ref (L.aF.VS c)) "__init__"=some (some (.ref (L.fn k)))
 Mr:typeIn L.VQ (.ref (L.fn k))=some (.type "function")
structure j'(L:dh):Prop where
 bn:L.ct 0="append"/\L.ct 1="extend"/\L.ct 2="pop"/\L.ct 3="get"/\L.ct 4="setdefault"/\L.ct 5="join"/\L.ct 6="count"/\L.ct 7="strip"/\L.ct 8="isspace"
 Dx:∀c a d b,fE c a=true->fE d b=true->L.ct a=L.ct b->a=b
 yY:∀c a,fE c a=true->∃attr,KQ L c a attr
 yX:∀c m k,yv c m=some k->ME L c m k
 Dw:∀c k,CW c=some k->Mo L c k
section
variable {h:Heap}{c a:Nat}{fs:List (Nat×V)}{es:List DictEntry}{x:V}{v:Value}{n:Str}
theorem He{x y:Str}{t:Tok}:(Value.str x t).isStr y=decide (x=y):=Bool.eq_iff_iff.mpr (show(x==y)=true↔_ by rw[beq_iff_eq,decide_eq_true_iff])
theorem GH(X:j' L)(ha:fE c a=true){f:Nat×V}{e:DictEntry}(r:lO L h μ c f e):decide (f.1=a)=e.key.isStr (L.ct a):=by
 refine ba r ?_;clear r;intro nn0 _;obtain⟨h1,t,hk⟩:=nn0
 rw[hk,He]
 exact decide_eq_decide.mpr ⟨XB _,X.Dx _ _ _ _ h1 ha⟩
theorem GI(r:F2 (lO L h μ c) fs es):es.any (·.refKey)=false:=by
 rw[<-r.Du (p:=λ_=>false) λf e r=>by refine ba r ?_;clear r;intro nn0 _;obtain⟨_,t,hk⟩:=nn0;unfold DictEntry.refKey;rw[hk]]
 exact List.any_eq_false.mpr λ_ _=>YE
theorem PQ(hn:∀b,fE c b=true->L.ct b≠n)(r:F2 (lO L h μ c) fs es):es.find? (·.key.isStr n)=none:=by
 have k:=(r.v2 (p:=λ_=>false) (q:=λe=>e.key.isStr n) λf e r=>by refine ba r ?_;clear r;intro nn0 _;obtain⟨h1,t,hk⟩:=nn0;rw[hk,He,Yb (hn _ h1)])
 rw[show fs.find? cv=none from List.find?_eq_none.mpr λ_ _=>YE]at k
 exact k.zl
theorem PT(X:j' L)(ha:fE c a=true)(hv:aS L.aF h μ x v){g:Int}{t:Tok}{F:Option DictEntry->DictEntry}(F1:∀e,F (some e)={e with val:=v})(F2':F none=⟨g,.str (L.ct a) t,v⟩)
  (r:F2 (lO L h μ c) fs es):F2 (lO L h μ c) (gZ fs a x) (nsPutIn (L.ct a).cps.size (L.ct a).cps.toList F es).1:=by
 induction r with
 |d8=>unfold nsPutIn;rw[F2'];exact .eJ ⟨⟨ha,t,rfl⟩,hv⟩ .d8
 | @eJ f e fs es k q ih=>
  unfold nsPutIn
  rw[GN,Value.isStrByCps_eq,<-GH X ha k]
  by_cases he:f.1=a
  ·rw[Xz he,Xz (XT he),F1];exact .eJ ⟨he▸k.1,hv⟩ q
  ·rw[XC he,XC (by rw[Yb he];exact YE)];exact .eJ k ih
theorem Tf(X:j' L)(ha:fE c a=true)(hv:aS L.aF h μ x v)(g:Int)(t:Tok)(r:F2 (lO L h μ c) fs es)(n:Nat):
  ∃es' m,Obj.putName (L.ct a) g (.str (L.ct a) t) v (dictOf es n)=dictOf es' m/\F2 (lO L h μ c) (gZ fs a x) es':=by
 have k:=PT X ha hv (g:=g) (t:=t) (F:=λ|some e=>{e with val:=v} |none=>⟨g,.str (L.ct a) t,v⟩) (λ_=>rfl) rfl r
 unfold Obj.putName dictOf
 dsimp only
 generalize nsPutIn _ _ _ es=q at k
 obtain⟨es',b⟩:=q
 rcases b with _ |_
 ·exact eE es' _ rfl k
 ·exact eE es' _ rfl k
theorem P5(a:Nat)(x:V)(fs:List (Nat×V)):(gZ fs a x).length<=fs.length+1:=by
 induction fs with
 |nil=>exact Xx _
 |cons f fs ih=>
  rw[GN]
  split
  ·exact Yp _
  ·exact YD ih
theorem Qc{V₀:V}(r:aS cl h μ V₀ v):handedIn v=true:=by
 rcases V₀ with _ |_ |_ |_ |_ |_ |_ |_
 ·obtain rfl:v=.none:=r;rfl
 ·obtain rfl:v=.bool _:=r;rfl
 ·refine aT r ?_;clear r;intro t q1;subst q1;rfl
 ·refine aT r ?_;clear r;intro t q1;subst q1;rfl
 ·refine sW r ?_;clear r;intro a vs n q3 _;subst q3;rfl
 ·refine az r ?_;clear r;intro a _ q2;subst q2;rfl
 ·refine cP r ?_;clear r;intro a d _ q3 _;subst q3;rfl
 ·refine ba r ?_;clear r;intro q0 _;subst q0;rfl
end
section
variable {s:Shared}{c a m k:Nat}{fs:List (Nat×V)}{u:Value}{v:V}
inductive Ms(L:dh)(h:Heap)(μ:List Addr)(a:Nat)(v:Value)(c c':Nat)(fs:List (Nat×V)):Prop
 |mk (x d:Addr) (es:List DictEntry) (n:Nat) (hd:μ[a]? =some d) (e:v=.ref x) (hx:x∉μ) (ho:h.get? x=some (instObj (L.aF.VS c) d)) (hdo:h.get? d=some (dictOf es n)) (hf:F2 (lO L h μ c') fs es) (ii:InstAt h x (instObj (L.aF.VS c) d) (L.aF.VS c) (some (dictOf es n)))
theorem A6(I:aU Z s.heap μ σ)(r:aS Z.KN.aF s.heap μ (.o c a) ov)(hs:σ[a]? =some (.a c' fs)):Ms Z.KN s.heap μ a ov c c' fs:=by
 refine dk r ?_;clear r;intro x d hd e hn hx
 refine dY (I.fU a d _ hd hs) λes n h1 h2=>?_
 exact⟨x,d,es,n,hd,e,hn,hx,h1,h2,hx,rfl,rfl,h1⟩
theorem Os(X:j' Z.KN)(hK:Z.KN.VQ.In Z.cU)(I:aU Z s.heap μ σ)(r:aS Z.KN.aF s.heap μ (.o c a) ov)(ha:fE c nm=true)(hs:σ[a]? =some (.a c fs))(hg:cA fs nm=some v){expr:Bool}:Wp Z A (getAttr ov (Z.KN.ct nm) expr) (R1 Z s μ v σ) s:=by
 obtain⟨x,d,es,n,hd,rfl,hn,hx,h1,h2,II⟩:=A6 I r hs
 refine aT (X.yY _ _ ha) λattr f=>?_
 have hf:=(h2.v2 (q:=λe=>e.key.isStr (Z.KN.ct nm)) λf e r=>GH X ha r).zj (f:=Prod.snd) (g:=DictEntry.val) (S:=aS Z.KN.aF s.heap μ) λ_ _ r=>r.2
 rw[show(fs.find? λf=>decide (f.1=nm)).map Prod.snd=some v from hg]at hf
 obtain⟨w,hw,rw'⟩:=hf.ox
 refine az (YK hw) λe he q2=>?_;subst q2
 exact get_value (hK.keeps I.dM) II (plainGet_of f.KS).1 (findObj_own f.Db f.KR f.no (by rw[lookIn_dict];unfold getL;rw[he])) (Qc rw') (.ky I rw')
theorem Rj(X:j' Z.KN)(hK:Z.KN.VQ.In Z.cU)(I:aU Z s.heap μ σ)(r:aS Z.KN.aF s.heap μ (.o c a) ov)(hm:yv c m=some k)(hs:σ[a]? =some (.a c' fs)){pl:Sem Bool}{Q:Value×List Value->Shared->Prop}
  (q:Q (.ref (Z.KN.fn k),[ov]) s):Wp Z A (getMethod ov (Z.KN.ct m) pl) Q s:=by
 obtain⟨x,d,es,n,hd,rfl,hn,hx,h1,h2,II⟩:=A6 I r hs
 have f:=X.yX _ _ _ hm
 refine method_fn (hK.keeps I.dM) II (plainGet_of f.DW).1 (plainGet_of f.DW).2 f.MF (beq_iff_eq.mp f.fn) ?_ q
 refine(?_:(lookIn (Z.KN.ct m) (dictOf es n)).map _=_)
 rw[lookIn_dict,show getL (Z.KN.ct m) es=some none by unfold getL;rw[PQ (f.MH c') h2,GI h2];rfl];rfl
theorem RI{d:Addr}{n:Nat}{es:List DictEntry}{nm:Str}{M:Model}{Q:Unit->Shared->Prop}(h1:s.heap.get? d=some (dictOf es n))(nr:es.any (·.refKey)=false)(hl:es.length<=101)
  (hp:∀g t,∃es' m,Obj.putName nm g (.str nm t) u (dictOf es n)=dictOf es' m/\es'.length<=102/\∀h' t',(∀b,b≠d->h'.get? b=s.heap.get? b)->h'.get? d=some (dictOf es' m)->Q () {s with heap:=h',toks:=t'}):wpAny M A (nsSet d nm u) Q E s:=by
 unfold nsSet
 refine Xq (Xq (wpAny_askSetting (Xu (Xq (wpAny_mkText (Xq (wpAny_loadPart h1 ?_)))))))
 dsimp only
 rw[aRefKeyMayBeTheName_at,List.any_toArray (l:=es) (p:=λx=>x.refKey),nr,Bool.and_false]
 refine wpAny_updatePart h1 ?_
 obtain⟨es',m,e1,e2,q⟩:=hp _ _
 exact q _ _ (λb hb=>Heap.get?_update_other _ _ (λe=>hb e.symm)) (by rw[ZC _ h1 (by rw[e1];rfl),e1])
theorem Uq(X:j' Z.KN)(hK:Z.KN.VQ.In Z.cU)(I:aU Z s.heap μ σ)(r:aS Z.KN.aF s.heap μ (.o c a) ov)(ha:fE c nm=true)(hs:σ[a]? =some (.a c fs))(hl:fs.length<=100)(rv:aS Z.KN.aF s.heap μ v u):
  Wp Z A (setAttr ov (Z.KN.ct nm) u) (RU Z s μ (σ.set a (.a c (gZ fs nm v)))) s:=by
 obtain⟨x,d,es,n,hd,rfl,hn,hx,h1,h2,II⟩:=A6 I r hs
 refine aT (X.yY _ _ ha) λattr f=>?_
 have XK:=hK.keeps I.dM
 refine set_plain XK II f.KU (osa_open XK II f.KT f.KW λb=>?_)
 have fin:∀es' m h' t,F2 (lO Z.KN s.heap μ c) (gZ fs nm v) es'->(∀b,b≠d->h'.get? b=s.heap.get? b)->h'.get? d=some (dictOf es' m)->RU Z s μ (σ.set a (.a c (gZ fs nm v))) () {s with heap:=h',toks:=t}:=λes' m h' t e2 hb D=>
  have k:=I.y' (o':=.a c (gZ fs nm v)) hd hs rfl (λ_ h=>nomatch h) (λb q c hq=>(hb b c).trans hq) ⟨_,D⟩ (λe=>⟨es',m,D,e2.mM λ_ _ r=>⟨r.1,r.2.cE e⟩⟩) λq=>bE q
  ⟨μ,⟨rfl,rfl,rfl⟩,k.1,k.2⟩
 have pt:=λg t=>Tf X ha rv g t h2 n
 have nr:=GI h2
 have l1:=h2.od
 clear h2 I
 refine az (any_some f.Db) λcd hc hcd=>?_
 have XK':Z.KN.VQ.In ({s with toks:=s.toks+1}:Shared).heap:=XK
 refine Xq (Xu (Xq (Xq (wpAny_loadPart hx (Xq ((looks_clsIn XK' hc).here ?_))))))
 rw[hcd]
 refine Xu (a:=some d) (Xq (Xu (Xq (RI (s:={s with toks:=s.toks+1}) h1 nr (bP (qT (gM l1) hl) rfl) λg t=>?_))))
 refine dY (pt g t) λes' m e1 e2=>?_
 have l2:=P5 nm v fs
 refine dN es' m e1 (by rw[<-e2.od];exact qT l2 (ja hl rfl)) (λh' t' hb D=>?_)
 exact Xq (wpAny_lookBehind D (pastItsLine_dict (by rw[Yx,sizeLine_eq,<-e2.od];lia)) (Xu (fin es' m h' t' e2 hb D)))
end
structure Sc where
 dD:List (Str×NameKind)
 jP:List Str
 VT:List (Str×Nat)
 dm:List Nat
structure wK(c:Sc):Prop where
 n1:(c.VT.map (·.1)).Nodup
 n2:(c.VT.map (·.2)).Nodup
 n3:c.jP.Nodup
 Nt:∀x∈c.VT,(x.1==("__debug__":Str))=false/\(x.1==("__classdict__":Str))=false
 EA:∀x∈c.VT,c.dD.lookup x.1=some .local∨((c.dD.lookup x.1=some .cell∨c.dD.lookup x.1=some .free)/\x.1∈c.jP)
noncomputable def dE(env:PySem.Env):List Addr:=env.locals::env.cells.map (·.2)
structure fF(c:Sc)(env:PySem.Env):Prop where
 Dk:env.scope.names=c.dD
 yK:env.cells.map (·.1)=c.jP
 yL:env.globals=mainGlobals
 yJ:env.builtins=builtinsNs
 fn:env.scope.kind=.function
 sc:wK c
 nd:(dE env).Nodup
 dm:∀x∈c.VT,x.2∈c.dm
noncomputable def iD(h:Heap)(b:Addr):Prop:=∃o,h.get? b=some o/\gm o=false
structure cK(Z:Cx)(fr:List Addr)(s:Shared)(μ:List Addr)(s':Shared)(μ':List Addr)(σ':aj):Prop where
 iI:s'.gens=s.gens/\s'.drawn=s.drawn/\s'.os=s.os
 lA:aU Z s'.heap μ' σ'
 iZ:∀b o,s.heap.get? b=some o->b∉μ->b∉fr->s'.heap.get? b=some o
 l8:∀b o,s.heap.get? b=some o->∃o',s'.heap.get? b=some o'
 jS:μ <+:μ'
 i4:∀b∈μ',b∈μ∨s.heap.get? b=none
structure eK(cl:dO)(h₀ h:Heap)(μ:List Addr)(env:PySem.Env)(Γ:List (Str×Nat))(ρ:aA):Prop where
 gw:∀b∈dE env,b∉μ/\h₀.get? b=none/\iD h b
 pJ:∃m,h.Ns env.locals m/\∀x∈Γ,env.kindOf x.1=some .local->∀V,ρ x.2=some V->∃v,m x.1=some v/\aS cl h μ V v
 oi:∀n c,env.cells.lookup n=some c->∃ov,h.IsCell c ov/\∀x∈Γ,x.1=n->env.kindOf n≠some .local->∀V,ρ x.2=some V->∃v,ov=some v/\aS cl h μ V v
section
variable {s:Shared}{fr':List Addr}{h:Heap}{c:Sc}{b:Addr}{x:Str×Nat}{V:V}{v:Value}
theorem gb{o:Obj}(h1:h.get? b=none)(h2:h.get? b=some o){p:Prop}:p:=bN (h1.symm.trans h2)
theorem SY{l:List α}(h:l <+:l'){x:α}(hx:x∈l):x∈l':=h.subset hx
theorem aU.DP(J:aU Z h μ σ){B:List Addr}(hB:∀b∈B,b∉μ/\Z.cU.get? b=none/\∀o,h.get? b=some o->gm o=false)(hs:∀c q,c∉B->h.get? c=some q->h'.get? c=some q):aU Z h' μ σ/\dl h μ h' μ:=
 have e:dl h μ h' μ:=⟨λc o hc _ so=>hs c o (λhm=>Bool.noConfusion (so.symm.trans ((hB c hm).2.2 o hc))) hc,Yn _,λ_=>.inl⟩
 have own:∀c∈μ,∀q,h.get? c=some q->h'.get? c=some q:=λc hc q hq=>hs c q (λhm=>(hB c hm).1 hc) hq
 ⟨⟨J.eu,J.jI,λc o hc=>hs c o (λhm=>gb (hB c hm).2.1 hc) (J.dM c o hc),J.jH,λc hc=>(J.iU c hc).imp λo ho=>own c hc o ho,
  λi x o hx ho=>(J.fU i x o hx ho).wE e (own x (Yo hx)) (λ_ _ j _ c hc=>own c (Yo hc)),J.iT,J.ki,J.jr⟩,e⟩
theorem aU.pP(J:aU Z h μ σ)(hb:b∉μ)(h0:Z.cU.get? b=none)(ht:∀o,h.get? b=some o->gm o=false)(hs:∀c q,c≠b->h.get? c=some q->h'.get? c=some q):aU Z h' μ σ/\dl h μ h' μ:=
 J.DP (B:=[b]) (λc hc=>XG hc▸⟨hb,h0,ht⟩) λc q hc=>hs c q λe=>hc (Ym e)
theorem iD.kW(t:iD h b):∀o,h.get? b=some o->gm o=false:=λo ho=>by refine az t ?_;clear t;intro q hq sq;exact XA (hq.symm.trans ho)▸sq
theorem rJ{m:Str->Option Value}(hn:h.Ns b m):iD h b:=by refine nC hn ?_;clear hn;intro o es ep ho hd _;exact aC o ho (by unfold gm;rw[hd];rfl)
theorem De{ov:Option Value}(hn:h.IsCell b ov):iD h b:=by refine az hn ?_;clear hn;intro o ho hd;exact aC o ho (by unfold gm;rw[hd];rfl)
theorem br.fq(a:br Z s μ s' μ' σ')(fr:List Addr):cK Z fr s μ s' μ' σ' where
 iI:=a.jR
 lA:=a.eN
 iZ:=λb o hb hn _=>a.bJ.iE b o hb hn
 l8:=λb o hb=>(Decidable.em (b∈μ)).elim (λhm=>a.eN.iU b (SY a.bJ.lM hm)) λhm=>⟨o,a.bJ.iE b o hb hm⟩
 jS:=a.bJ.lM
 i4:=a.bJ.lb
theorem cK.wN(I:aU Z s.heap μ σ)(fr:List Addr):cK Z fr s μ s μ σ:=(br.oK I).fq fr
theorem cK.EE(a:cK Z fr s μ s' μ' σ'){o:Obj}(hb:s.heap.get? b=some o)(hn:b∉μ):b∉μ':=λhm=>(a.i4 b hm).elim hn λq=>gb q hb
theorem cK.EG(a:cK Z fr s μ s' μ' σ')(hb:s'.heap.get? b=none):s.heap.get? b=none:=ZG λo ho=>by refine aT (a.l8 b o ho) λo' ho'=>?_;exact gb hb ho'
theorem cK.jT(a:cK Z fr s μ s' μ' σ')(b:cK Z fr s' μ' s'' μ'' σ''):cK Z fr s μ s'' μ'' σ'' where
 iI:=⟨b.iI.1.trans a.iI.1,b.iI.2.1.trans a.iI.2.1,b.iI.2.2.trans a.iI.2.2⟩
 lA:=b.lA
 iZ:=λc o hc hn hf=>b.iZ c o (a.iZ c o hc hn hf) (a.EE hc hn) hf
 l8:=λc o hc=>(a.l8 c o hc).elim λo' h'=>b.l8 c o' h'
 jS:=a.jS.trans b.jS
 i4:=λc hc=>(b.i4 c hc).elim (a.i4 c) λh1=>.inr (a.EG h1)
theorem cK.Nw(a:cK Z fr s μ s' μ' σ')(h:∀b∈fr,b∈fr'):cK Z fr' s μ s' μ' σ':=⟨a.iI,a.lA,λb o hb hn hf=>a.iZ b o hb hn λhm=>hf (h b hm),a.l8,a.jS,a.i4⟩
theorem cK.Ny(a:cK Z fr s μ s' μ' σ')(ht:∀b∈fr,iD s.heap b):dl s.heap μ s'.heap μ':=
 ⟨λb o hb hn so=>a.iZ b o hb hn λhf=>Bool.noConfusion (so.symm.trans ((ht b hf).kW o hb)),a.jS,λb hb=>(a.i4 b hb).imp id λh1 o ho=>gb h1 ho⟩
theorem cK.EH(a:cK Z fr s μ s' μ' σ')(b:br Z s₀ μ₀ s μ σ)(hf:∀b∈fr,s₀.heap.get? b=none):br Z s₀ μ₀ s' μ' σ':=
 have t:=(b.fq fr).jT a
 ⟨t.iI,t.lA,λc o hc hn=>t.iZ c o hc hn λhm=>gb (hf c hm) hc,t.jS,t.i4⟩
theorem zF(I:aU Z s.heap μ σ)(hf:b∈fr)(hb:b∉μ)(h0:Z.cU.get? b=none)(ht:iD s.heap b)(t:Nat)(hs:∀c q,c≠b->s.heap.get? c=some q->h'.get? c=some q)(hl:∃o,h'.get? b=some o):cK Z fr s μ {s with heap:=h',toks:=t} μ σ where
 iI:=⟨rfl,rfl,rfl⟩
 lA:=(I.pP hb h0 ht.kW hs).1
 iZ:=λc o hc hn hcf=>hs c o (λe=>hcf (e▸hf)) hc
 l8:=λc o hc=>(Decidable.em (c=b)).elim (λe=>e▸hl) λe=>⟨o,hs c o e hc⟩
 jS:=Yn _
 i4:=λc=>.inl
theorem dl.Lo(a:dl h μ h' μ)(b:dl h' μ h'' μ):dl h μ h'' μ:=
 ⟨λc o hc hn so=>b.lN c o (a.lN c o hc hn so) hn so,Yn _,λc=>.inl⟩
theorem o7{n:Str}{a:Addr}(h:env.cells.lookup n=some a):a∈dE env:=XI _ (Yz (aC (n,a) (Ze h) rfl))
theorem nw(X:fF c env)(id:Str):env.kindOf id=c.dD.lookup id:=XB (List.lookup id) X.Dk
theorem eK.tr(F:eK cl h₀ h μ env Γ ρ):∀b∈dE env,iD h b:=λb hb=>(F.gw b hb).2.2
theorem eK.v7(F:eK cl h₀ h μ env Γ ρ)(e:dl h μ h' μ')(hap:∀b∈dE env,b∉μ')(hk:∀b∈dE env,∀o,h.get? b=some o->h'.get? b=some o):eK cl h₀ h' μ' env Γ ρ where
 gw:=λb hb=>⟨hap b hb,(F.gw b hb).2.1,(F.tr b hb).imp λo q=>⟨hk b hb o q.1,q.2⟩⟩
 pJ:=by
  obtain⟨m,hn,hm⟩:=F.pJ
  exact aC m (hn.at' λo=>hk _ (XH ..) o) (λx hx hl V hV=>(hm x hx hl V hV).imp λv q=>⟨q.1,q.2.extW e⟩)
 oi:=λn a ha=>by
  refine az (F.oi n a ha) λov hc hm=>?_
  exact aC ov (hc.imp λo q=>⟨hk a (o7 ha) o q.1,q.2⟩) (λx hx hn hl V hV=>(hm x hx hn hl V hV).imp λv q=>⟨q.1,q.2.extW e⟩)
theorem eK.LP(F:eK cl h₀ h μ env Γ ρ)(e:dx h μ h' μ'):eK cl h₀ h' μ' env Γ ρ:=
 F.v7 e.WC (λb hb=>by obtain⟨h1,_,o,h3,_⟩:=F.gw b hb;exact e.tR h3 h1) λb hb o ho=>e.iE b o ho (F.gw b hb).1
theorem eK.LO(F:eK cl h₀ h μ env Γ ρ')(hl:∀i V,ρ i=some V->ρ' i=some V):eK cl h₀ h μ env Γ ρ:=
 ⟨F.gw,F.pJ.imp λm q=>⟨q.1,λx hx hk V hV=>q.2 x hx hk V (hl _ _ hV)⟩,λn a ha=>(F.oi n a ha).imp λov q=>⟨q.1,λx hx hn hk V hV=>q.2 x hx hn hk V (hl _ _ hV)⟩⟩
theorem BY(h:(Γ.map (·.1)).Nodup){y:Str×Nat}(hx:x∈Γ)(hy:y∈Γ)(e:x.1=y.1):x=y:=by
 induction Γ with
 |nil=>exact absurd hx Ye
 |cons z Γ ih=>
  have h:=Zq h
  rcases XL hx with e1 |h1<;>rcases XL hy with e2 |h2
  ·rw[e1,e2]
  ·exact absurd (Yz (aC y h2 (e.symm.trans (XB _ e1)))) h.1
  ·exact absurd (Yz (aC x h1 (e.trans (XB _ e2)))) h.1
  ·exact ih h.2 h1 h2
theorem xv(h:(Γ.map (·.2)).Nodup){y:Str×Nat}(hx:x∈Γ)(hy:y∈Γ)(e:x.2=y.2):x=y:=by
 induction Γ with
 |nil=>exact absurd hx Ye
 |cons z Γ ih=>
  have h:=Zq h
  rcases XL hx with e1 |h1<;>rcases XL hy with e2 |h2
  ·rw[e1,e2]
  ·exact absurd (Yz (aC y h2 (e.symm.trans (XB _ e1)))) h.1
  ·exact absurd (Yz (aC x h1 (e.trans (XB _ e2)))) h.1
  ·exact ih h.2 h1 h2
theorem xH{l:List (Str×β)}{x:Str}(h:x∈l.map (·.1)):∃b,l.lookup x=some b:=by
 induction l with
 |nil=>exact absurd h Ye
 |cons y ys ih=>
  rw[List.lookup_cons]
  cases e:x==y.1 with
  |true=>exact fB _ rfl
  |false=>exact ih ((XL h).resolve_left λq=>by rw[q,beq_self_eq_true]at e;exact Bool.noConfusion e)
theorem FW(X:fF c env)(hx:x∈c.VT):env.kindOf x.1=some .local∨((env.kindOf x.1=some .cell∨env.kindOf x.1=some .free)/\∃a,env.cells.lookup x.1=some a):=by
 rw[nw X]
 exact(X.sc.EA x hx).imp id λq=>⟨q.1,xH (X.yK▸q.2)⟩
theorem Q6{M:Model}(I:aU Z s.heap μ σ)(X:fF c env)(F:eK Z.KN.aF Z.cU s.heap μ env c.VT ρ)(hx:x∈c.VT)(hV:ρ x.2=some V):wpAny M A (eval (.Name x.1 pos) env) (R1 Z s μ V σ) NE s:=by
 have hd:=X.sc.Nt x hx
 refine wpAny_Name ?_ hd.1
 rcases FW X hx with hl | ⟨hk,a,ha⟩
 ·obtain⟨m,hn,hm⟩:=F.pJ
  refine az (hm x hx hl V hV) λv h1 h2=>?_
  exact wpAny_loadName_local X.fn hl hn h1 (.id I h2)
 ·refine az (F.oi x.1 a ha) λov h1 h2=>?_
  refine az (h2 x hx rfl (by rcases hk with h |h<;>rw[h]<;>decide) V hV) λv q1 hr=>?_;subst q1
  rcases hk with hk |hk
  ·exact wpAny_loadName_cell X.fn hk ha h1 (.id I hr)
  ·exact wpAny_loadName_free X.fn hk ha h1 (.id I hr) hd.2
theorem yw(hΓ:(Γ.map (·.2)).Nodup)(hx:x∈Γ){y:Str×Nat}(hy:y∈Γ)(hne:y≠x){V':Internal.V}(h:au ρ x.2 V y.2=some V'):ρ y.2=some V':=by
 unfold au at h;rwa [XC λe=>hne (xv hΓ hy hx e)]at h
theorem KG{i:Nat}{V':Internal.V}(h:au ρ i V i=some V'):V'=V:=by unfold au at h;rw[Xz rfl]at h;exact(XA h).symm
theorem eK.DB(F:eK cl h₀ h μ env Γ ρ)(hs:∀c q,c≠b->h.get? c=some q->h'.get? c=some q)(tr:iD h' b):∀c∈dE env,c∉μ/\h₀.get? c=none/\iD h' c:=λc hc=>
 ⟨(F.gw c hc).1,(F.gw c hc).2.1,(Decidable.em (c=b)).elim (λe=>e▸tr) λe=>(F.tr c hc).imp λo q=>⟨hs c o e q.1,q.2⟩⟩
inductive um(Z:Cx)(fr:List Addr)(c:Sc)(env:PySem.Env)(s:Shared)(μ:List Addr)(σ:aj)(ρ:aA)(u:Unit)(s':Shared):Prop
 |mk (st:cK Z fr s μ s' μ σ) (e:dl s.heap μ s'.heap μ) (F:eK Z.KN.aF Z.cU s'.heap μ env c.VT ρ)
theorem eK.LU(I:aU Z s.heap μ σ)(X:fF c env)(F:eK Z.KN.aF Z.cU s.heap μ env c.VT ρ)(hx:x∈c.VT)(hl:env.kindOf x.1=some .local)(r:aS Z.KN.aF s.heap μ V v)(f1:env.locals∈fr){M:Model}:wpAny M A (storeName env x.1 v) (um Z fr c env s μ σ (au ρ x.2 V)) NE s:=by
 obtain⟨m,hn,hm⟩:=F.pJ
 refine cO (F.gw env.locals (XH ..)) λo1 o2 o3=>?_
 refine wpAny_storeName_local hl hn (λh' hn' hs=>?_) (by rw[X.fn];rfl)
 have hsb:=jB hs
 have tr:=rJ hn'
 have ew:dl s.heap μ h' μ:=(I.pP o1 o2 o3.kW hsb).2
 refine⟨zF I f1 o1 o2 o3 _ hsb (tr.imp λ_ q=>q.1),ew,F.DB hsb tr,(aC _ hn' (λy hy hyl V' hV'=>?_)),λn a ha=>?_⟩
 ·by_cases e:y=x
  ·subst e;exact KG hV'▸(aC v (Xz rfl) (r.extW ew))
  ·refine az (hm y hy hyl V' (yw X.sc.n2 hx hy e hV')) λu h1 h2=>?_
   exact aC u ((XC λe'=>e (BY X.sc.n1 hy hx e')).trans h1) (h2.extW ew)
 ·refine az (F.oi n a ha) λov hc h3=>?_
  have hal:a≠env.locals:=λe=>(Zq X.nd).1 (e▸Yz (aC (n,a) (Ze ha) rfl))
  exact aC ov (hc.imp λo q=>⟨hsb a o hal q.1,q.2⟩) (λy hy hyn hyl V' hV'=>(h3 y hy hyn hyl V' (yw X.sc.n2 hx hy (λe=>hyl (hyn▸e▸hl)) hV')).imp λu q=>⟨q.1,q.2.extW ew⟩)
theorem eK.LQ(I:aU Z s.heap μ σ)(X:fF c env)(F:eK Z.KN.aF Z.cU s.heap μ env c.VT ρ)(hx:x∈c.VT)(hk:env.kindOf x.1=some .cell){a:Addr}(ha:env.cells.lookup x.1=some a)(r:aS Z.KN.aF s.heap μ V v)(f1:a∈fr){M:Model}:wpAny M A (storeName env x.1 v) (um Z fr c env s μ σ (au ρ x.2 V)) NE s:=by
 refine az (F.oi x.1 a ha) λov hcell _=>?_
 refine cO (F.gw a (o7 ha)) λo1 o2 o3=>?_
 refine wpAny_storeName_cell (v:=v) X.fn hk ha hcell λh' hc' hs=>?_
 have hsb:=jB hs
 have tr:=De hc'
 have ew:dl s.heap μ h' μ:=(I.pP o1 o2 o3.kW hsb).2
 have hal:env.locals≠a:=λe=>(Zq X.nd).1 (e▸Yz (aC (x.1,a) (Ze ha) rfl))
 refine⟨zF (t:=s.toks) I f1 o1 o2 o3 hsb (tr.imp λ_ q=>q.1),ew,F.DB hsb tr,?_,λn d hd=>?_⟩
 ·obtain⟨m,hn,hm⟩:=F.pJ
  exact aC m (hn.at' λo=>hsb _ o hal) (λy hy hyl V' hV'=>(hm y hy hyl V' (yw X.sc.n2 hx hy (λe=>by rw[e,hk]at hyl;cases hyl) hV')).imp λu q=>⟨q.1,q.2.extW ew⟩)
 ·by_cases e:d=a
  ·subst e
   have hnx:n=x.1:=name_of_addr (List.pairwise_map.mp (Zq X.nd).2) (Ze hd) (Ze ha)
   exact aC (some v) hc' (λy hy hyn hyl V' hV'=>by cases BY X.sc.n1 hy hx (hyn.trans hnx);exact KG hV'▸(aC v rfl (r.extW ew)))
  ·refine az (F.oi n d hd) λov' hc q3=>?_
   exact aC ov' (hc.imp λo q=>⟨hsb d o e q.1,q.2⟩) (λy hy hyn hyl V' hV'=>(q3 y hy hyn hyl V' (yw X.sc.n2 hx hy (λey=>e (XA (hd.symm.trans (hyn▸ey▸ha)))) hV')).imp λu q=>⟨q.1,q.2.extW ew⟩)
theorem eK.y4(I:aU Z s.heap μ σ)(X:fF c env)(F:eK Z.KN.aF Z.cU s.heap μ env c.VT ρ)(hx:x∈c.VT)(hk:c.dD.lookup x.1≠some .free)(r:aS Z.KN.aF s.heap μ V v)
  (f1:env.locals∈fr) (f2:∀a,env.kindOf x.1=some .cell->env.cells.lookup x.1=some a->a∈fr) {M:Model}:wpAny M A (storeName env x.1 v) (um Z fr c env s μ σ (au ρ x.2 V)) NE s:=by
 rcases FW X hx with hl | ⟨hk',a,ha⟩
 ·exact F.LU I X hx hl r f1
 ·have hc:=hk'.resolve_right λq=>hk ((nw X _).symm.trans q)
  exact F.LQ I X hx hc ha r (f2 a hc ha)
end
set_option backward.match.sparseCases true
structure ui(Z:Cx)(wr:List Addr)(s:Shared)(μ:List Addr)(s':Shared)(σ':aj):Prop where
 zI:s'.gens=s.gens/\s'.drawn=s.drawn/\s'.os=s.os
 zG:aU Z s'.heap μ σ'
 uj:∀b o,s.heap.get? b=some o->b∉μ->b∉wr->s'.heap.get? b=some o
 ew:dl s.heap μ s'.heap μ
structure rH(fr:List Addr)(h:Heap)(μ:List Addr)(h':Heap)(μ':List Addr):Prop where
 js:∀b o,h.get? b=some o->b∉μ->b∉fr->h'.get? b=some o
 tr:∀b∈fr,∀o,h.get? b=some o->gm o=false
 tV:μ <+:μ'
 DU:∀b∈μ',b∈μ∨h.get? b=none
inductive Mv(Z:Cx)(wr:List Addr)(s:Shared)(μ:List Addr)(σ':aj)(r:Option Value)(s':Shared):Prop
 |mk (e:r=none) (st:ui Z wr s μ s' σ')
inductive zV(Z:Cx)(wr fr:List Addr)(S:eM)(rest:List V)(N:Heap->List Addr->aj->Prop)(s:Shared)(μ:List Addr)(σ':aj)(V:V)(v:Value)(u:Unit)(s':Shared):Prop
 |mk (st:ui Z wr s μ s' σ') (r:aS Z.KN.aF s'.heap μ V v) (n:∀h3 μ3 σ3,rH fr s'.heap μ h3 μ3->S.Wf rest σ3->aU Z h3 μ3 σ3->N h3 μ3 σ3)
inductive Mw(Z:Cx)(A:Around)(I:Addr)(wr fr:List Addr)(S:eM)(rest:List V)(N:Heap->List Addr->aj->Prop)(s:Shared)(μ:List Addr)(σ':aj)(V:V)(r:Option Value)(s':Shared):Prop
 |mk (v:Value) (e:r=some v) (k:∀tg:Expr,Wp Z A (letOwnedTupleGo tg (.ref I) v) (zV Z wr fr S rest N s μ σ' V v) s')
noncomputable def lU(Z:Cx)(I:Addr)(wr fr:List Addr)(S:eM)(l:List V)(h:Heap)(μ:List Addr)(σ:aj):Prop:=match l with
 | []=>∀(A:Around) (s:Shared),A.handled=none->s.heap=h->aU Z s.heap μ σ->Wp Z A (pyNext (.ref I)) (Mv Z wr s μ (S.iG none σ)) s
 |V::rest=>∀(A:Around) (s:Shared),A.handled=none->s.heap=h->aU Z s.heap μ σ->Wp Z A (pyNext (.ref I)) (Mw Z A I wr fr S rest (lU Z I wr fr S rest) s μ (S.iG (some rest) σ) V) s
termination_by structural l
section
variable {h:Heap}{s:Shared}{b:Addr}{v:Value}{xs:List V}
theorem rH.lV(a:rH fr h μ h' μ'){o:Obj}(hb:h.get? b=some o)(hn:b∉μ):b∉μ':=λhm=>(a.DU b hm).elim hn λq=>gb q hb
theorem rH.ew(a:rH fr h μ h' μ'):dl h μ h' μ':=⟨λb o hb hn so=>a.js b o hb hn λhf=>Bool.noConfusion (so.symm.trans (a.tr b hf o hb)),a.tV,λb hb=>(a.DU b hb).imp id λq o ho=>gb q ho⟩
theorem tA(J:aU Z s.heap μ σ){t:Nat}(hB:∀b∈wr,b∉μ/\Z.cU.get? b=none/\∀o,s.heap.get? b=some o->gm o=false)(hs:∀c q,c∉wr->s.heap.get? c=some q->h'.get? c=some q):ui Z wr s μ {s with heap:=h',toks:=t} σ:=
 have k:=J.DP hB hs
 ⟨⟨rfl,rfl,rfl⟩,k.1,λb o hb _ hn=>hs b o hn hb,k.2⟩
inductive zq(h:Heap)(I:Addr):Prop
 |mk (o:Obj) (T:String) (vs:Array Value) (ho:h.get? I=some o) (hc:o.cls=.type T) (hd:o.data=.fields vs) (hT:["enumerate","zip","dict_itemiterator","dict_reverseitemiterator","odict_iterator","itertools.zip_longest","itertools.pairwise"].contains T=false)
theorem HE(hI:zq s.heap I)(tg:Expr){Q:Unit->Shared->Prop}(q:Q () s):Wp Z A (letOwnedTupleGo tg (.ref I) v) Q s:=by
 obtain⟨o,T,vs,ho,hc,hd,hT⟩:=hI
 have body:Wp Z A (match((Value.ref I,v):Value×Value)with
   | (.ref r,.ref a)=>(do
    let o<-load r
    match o.cls,o.data with
    | .type n,.fields vs=>
     if ["enumerate","zip","dict_itemiterator","dict_reverseitemiterator","odict_iterator","itertools.zip_longest","itertools.pairwise"].contains n&&vs[0]? ==some (rawInt a)then
      rule "for.unpacks-the-owned-tuple"
      updateField r 0 .none
     else pure ()
    |_,_=>pure ():Sem Unit)
   |_=>pure ()) Q s:=by
  rcases v with _ |_ |_ |_ |_ |_ |_ |_ |_ |_<;>first
   |exact Xu q
   | (
     refine Xq (wpAny_load ho ?_)
     rw[hc,hd]
     dsimp only
     rw[hT,Bool.false_and]
     exact Xu q)
 cases tg<;>first
  |exact Xu q
  |exact body
theorem Hh{k:Nat}(r:h.IsListIter I x k):∀o,h.get? I=some o->gm o=false:=λo ho=>by refine c8 r ?_;clear r;intro q hq _ hd;rw[<-XA (hq.symm.trans ho)];unfold gm;rw[hd];rfl
theorem su{V:Internal.V}{rest items:List Internal.V}{k:Nat}(h:items.drop k=V::rest):items[k]? =some V/\items.drop (k+1)=rest:=by
 have e:=XB List.head? h
 rw[List.head?_drop]at e
 exact bm e (by rw[<-List.tail_drop,h];rfl)
theorem Q4{a:Nat}{items:List V}(h0:Z.cU.get? I=none)(hfr:I∉fr)(rest:List V):∀(k:Nat) (h:Heap) (μ:List Addr) (σ:aj),items.drop k=rest->h.IsListIter I x k->μ[a]? =some x->σ[a]? =some (.l items)->I∉μ->lU Z I [I] fr (.cr a items) rest h μ σ:=by
 induction rest with
 |nil=>
  rintro k h μ σ hk hit hx hs hI A s hh rfl J
  refine dY (J.fU a x _ hx hs) λvs n ha hr=>?_
  exact wpAny_pyNext_list_end hh hit (dX ha) (by rw[YF,List.getElem?_eq_none_iff,<-hr.length];exact List.drop_eq_nil_iff.mp hk) λh' he=>
   ⟨rfl,tA (t:=s.toks) J (λb hb=>XG hb▸⟨hI,h0,Hh hit⟩) λc q hc hq=>he c q (λe=>hc (Ym e)) hq⟩
 |cons V rest ih=>
  rintro k h μ σ hk hit hx hs hI A s hh rfl J
  refine dY (J.fU a x _ hx hs) λvs n ha hr=>?_
  refine az (hr.get (su hk).1) λv hv rv=>?_
  refine wpAny_pyNext_list_item hit (dX ha) (x:=v) (by rw[YF];exact hv) λh' hit' hsb=>⟨v,rfl,λtg=>HE ?_ tg ?_⟩
  ·refine c8 hit' ?_;clear hit';intro q hq hc hd;exact⟨q,_,_,hq,hc,hd,by decide⟩
  ·have st:=tA (wr:=[I]) (t:=s.toks) J (λb hb=>XG hb▸⟨hI,h0,Hh hit⟩) λc q hc hq=>jB hsb c q (λe=>hc (Ym e)) hq
   refine⟨st,rv.extW st.ew,λh3 μ3 σ3 lt g J3=>?_⟩
   refine az hit' ?_;clear hit';intro q hq hcd
   exact ih (k+1) h3 μ3 σ3 (su hk).2 ⟨q,lt.js I q hq hI hfr,hcd⟩ (nK lt.tV hx) g (lt.lV hq hI)
structure NZ(Z:Cx)(I:Addr)(fp wr fr:List Addr)(n:Nat)(Pv:Nat->Value->Prop)(St:Nat->Heap->Prop):Prop where
 WL:∀A:Around,A.handled=none->Walks Z.bK Z.VP A I fp wr n Pv St
 W1:∀b∈wr,Z.cU.get? b=none
 EV:∀b∈fp,b∉fr
 tr:∀i h,St i h->∀b∈wr,iD h b
 Xe:∀i h,St i h->zq h I
theorem Vh{n:Nat}{St:Nat->Heap->Prop}{items:List V}(W:NZ Z I fp wr fr n Pv St)(hn:n=items.length)(rest:List V):
  ∀(k:Nat) (h:Heap) (μ:List Addr) (σ:aj),items.drop k=rest->k<=items.length->St k h->(∀b∈fp,b∉μ/\∃o,h.get? b=some o)->(∀i v,i < n->Pv i v->∃V,items[i]? =some V/\aS Z.KN.aF h μ V v)->lU Z I wr fr (.bx items) rest h μ σ:=by
 induction rest with
 |nil=>
  rintro k h μ σ hk hle hst hfp hP A s hh rfl J
  have hke:k=n:=hn▸Nat.le_antisymm hle (List.drop_eq_nil_iff.mp hk)
  exact(W.WL A hh).done s _ _ (hke▸hst) λh' tk he=>⟨rfl,tA J (λb hb=>⟨(hfp b ((W.WL A hh).sub b hb)).1,W.W1 b hb,(W.tr _ _ hst b hb).kW⟩) he⟩
 |cons V rest ih=>
  rintro k h μ σ hk hle hst hfp hP A s hh rfl J
  have hkl:=(su hk).1
  have hlt:k < items.length:=(XZ hkl).1
  refine(W.WL A hh).item k s _ _ (hn▸hlt) hst λv h' tk pv hst' he=>⟨v,rfl,λtg=>HE (W.Xe _ _ hst') tg ?_⟩
  have st:=tA (t:=tk) J (λb hb=>⟨(hfp b ((W.WL A hh).sub b hb)).1,W.W1 b hb,(W.tr _ _ hst b hb).kW⟩) he
  refine az (hP k v (hn▸hlt) pv) λV' hV' rv=>?_
  cases hkl.symm.trans hV'
  refine⟨st,rv.extW st.ew,λh3 μ3 σ3 lt g J3=>?_⟩
  refine ih (k+1) h3 μ3 σ3 (su hk).2 hlt ((W.WL A hh).frame _ _ _ hst' λb hb o ho=>lt.js b o ho (hfp b hb).1 (W.EV b hb)) (λb hb=>?_) λi u hi pu=>(hP i u hi pu).imp λU q=>⟨q.1,(q.2.extW st.ew).extW lt.ew⟩
  have lv:∃o,h'.get? b=some o:=(Decidable.em (b∈wr)).elim (λhw=>(W.tr _ _ hst' b hw).imp λo q=>q.1) λhw=>(hfp b hb).2.imp λo ho=>he b o hw ho
  refine aT lv ?_;clear lv;intro o ho
  exact⟨lt.lV ho (hfp b hb).1,o,lt.js b o ho (hfp b hb).1 (W.EV b hb)⟩
noncomputable def tS(fr:List Addr)(h:Heap)(μ wr:List Addr)(I:Addr):Prop:=∀b∈fr,h.get? b=none∨(iD h b/\b∉μ/\b∉wr/\b≠I)
inductive jQ(Z:Cx)(A:Around)(s:Shared)(μ:List Addr)(S:eM)(σ':aj)(it:Value)(s':Shared):Prop
 |mk (I:Addr) (wr:List Addr) (μ':List Addr) (e:it=.ref I) (st:br Z s μ s' μ' σ') (g:S.Wf S.qd σ') (h5:∀b∈wr,s.heap.get? b=none/\∃o,s'.heap.get? b=some o) (h6:s.heap.get? I=none∨I∈μ)
  (h8:∀fr,tS fr s'.heap μ' wr I->∀h3 μ3 σ3,rH fr s'.heap μ' h3 μ3->S.Wf S.qd σ3->aU Z h3 μ3 σ3->lU Z I wr fr S S.qd h3 μ3 σ3)
  (h9:∀(s'':Shared),(∀b o,s'.heap.get? b=some o->s''.heap.get? b=some o)->∀R:Value->Shared->Prop,R (.ref I) s''->Wp Z A (pyIter (.ref I)) R s'')
theorem qx{o:Obj}(f:tS fr h μ wr I)(ho:h.get? b=some o)(hb:b=I∨b∈wr∨gm o=true):b∉fr:=λhm=>(f b hm).elim (λq=>gb q ho) λq=>by
 rcases hb with e |e |e
 ·exact q.2.2.2 e
 ·exact q.2.2.1 e
 ·exact Bool.noConfusion (e.symm.trans (q.1.kW o ho))
theorem UC(J:aU Z s.heap μ σ){a:Nat}(r:aS Z.KN.aF s.heap μ (.r a) v)(hs:σ[a]? =some (.l xs)):Wp Z A (pyIter v) (jQ Z A' s μ (.cr a xs) σ) s:=by
 obtain⟨x,vs,n,hx,rfl,ha,hr⟩:=iA J r hs
 refine ba (J.eY iB) λf2 f1=>?_
 refine wpAny_pyIter_list (dX ha) ?_
 have hg:(s.heap.push {cls:=.type "list_iterator",data:=.fields #[.ref x,.int 0 0]}).get? s.heap.objs.size=some {cls:=.type "list_iterator",data:=.fields #[.ref x,.int 0 0]}:=Yg _ rfl
 exact⟨s.heap.objs.size,[s.heap.objs.size],μ,rfl,iH J (λb o hb=>XO _ hb) s.toks,hs,λb hb=>XG hb▸⟨iB,_,hg⟩,.inl iB,
  λfr hfr h3 μ3 σ3 lt g J3=>Q4 f1 (qx hfr hg (.inl rfl)) xs 0 _ _ _ rfl ⟨_,lt.js _ _ hg f2 (qx hfr hg (.inl rfl)),rfl,rfl⟩ (nK lt.tV hx) g (lt.lV hg f2),
  λs'' hk R hR=>wpAny_pyIter_listiter ⟨_,hk _ _ hg,rfl,rfl⟩ hR⟩
theorem CP(J:aU Z s.heap μ σ){t:Nat}{n:Nat}{St:Nat->Heap->Prop}(hn:n=xs.length)(W:∀A:Around,A.handled=none->Walks Z.bK Z.VP A I fp wr n Pv St)
  (hk:∀b o,s.heap.get? b=some o->h'.get? b=some o) (hI:s.heap.get? I=none) (hIw:I∈wr) (hw:∀b∈wr,s.heap.get? b=none/\∃o,h'.get? b=some o) (hfp:∀b∈fp,b∈wr∨(b∉μ/\∃o,s.heap.get? b=some o/\gm o=true))
  (hst:St 0 h') (htr:∀i h,St i h->∀b∈wr,iD h b) (hpl:∀i h,St i h->zq h I) (hP:∀i v,i < n->Pv i v->∃V,xs[i]? =some V/\aS Z.KN.aF s.heap μ V v)
  (hh:A.handled=none):jQ Z A s μ (.bx xs) σ (.ref I) {s with heap:=h',toks:=t}:=by
 have st:=iH J hk t
 have off:∀b∈fp,b∉μ/\(∃o,h'.get? b=some o)/\∀fr,tS fr h' μ wr I->b∉fr:=λb hb=>(hfp b hb).elim
  (λq=>⟨(J.eY (hw b q).1).1,(hw b q).2,λfr f=>(hw b q).2.elim λo ho=>qx f ho (.inr (.inl q))⟩)
  λq=>⟨q.1,q.2.imp λo r=>hk b o r.1,λfr f=>q.2.elim λo r=>qx f (hk b o r.1) (.inr (.inr r.2))⟩
 refine⟨I,wr,μ,rfl,st,trivial,hw,.inl hI,λfr hfr h3 μ3 σ3 lt g J3=>?_,λs'' hk' R hR=>?_⟩
 ·exact Vh (fp:=fp) ⟨W,λb hb=>(J.eY (hw b hb).1).2,λb hb=>(off b hb).2.2 fr hfr,htr,hpl⟩ hn xs 0 _ _ _ rfl (Xw _) ((W A hh).frame _ _ _ hst λb hb o ho=>lt.js b o ho (off b hb).1 ((off b hb).2.2 fr hfr))
   (λb hb=>(off b hb).2.1.elim λo ho=>⟨lt.lV ho (off b hb).1,o,lt.js b o ho (off b hb).1 ((off b hb).2.2 fr hfr)⟩) λi v hi pv=>(hP i v hi pv).imp λV q=>⟨q.1,(q.2.cE st.bJ).extW lt.ew⟩
 ·exact(W A hh).self 0 s'' _ _ ((W A hh).frame _ _ _ hst λb hb=>hk' b) hR
theorem qO{a:Addr}(h:b∈[a]):b=a:=XG h
theorem UE(J:aU Z s.heap μ σ)(r:aS Z.KN.aF s.heap μ (.t xs) v)(hh:A.handled=none):Wp Z A' (pyIter v) (jQ Z A s μ (.bx xs) σ) s:=by
 obtain⟨x,vs,n,rfl,ha,hn,hr⟩:=d6 r
 refine wpAny_pyIter_tuple (dJ ha) ?_
 have hg:(s.heap.push {cls:=.type "tuple_iterator",data:=.fields #[.ref x,.int 0 0]}).get? s.heap.objs.size=some {cls:=.type "tuple_iterator",data:=.fields #[.ref x,.int 0 0]}:=Yg _ rfl
 exact CP (t:=s.toks) (fp:=[s.heap.objs.size,x]) (wr:=[s.heap.objs.size]) (n:=vs.toArray.size) J (by rw[Yx,hr.length]) (λA hh=>Walks.tuple hh s.heap.objs.size x (XQ (Ys ha)) vs.toArray)
  (λb o hb=>XO _ hb) iB (Ym rfl) (λb hb=>qO hb▸⟨iB,_,hg⟩) (λb hb=>(XL hb).imp Ym λq=>by cases qO q;exact⟨hn,_,ha,rfl⟩)
  ⟨⟨_,hg,rfl,rfl⟩,dJ (XO _ ha)⟩ (λi h q b hb=>by refine ba q ?_;clear q;intro nn0 _;refine c8 nn0 ?_;clear nn0;intro o ho _ hd;exact qO hb▸⟨o,ho,by unfold gm;rw[hd];rfl⟩)
  (λi h q=>by refine ba q ?_;clear q;intro nn0 _;refine c8 nn0 ?_;clear nn0;intro o ho hc hd;exact⟨o,_,_,ho,hc,hd,by decide⟩) (λi u hi hu=>hr.Nd (show vs[i]? =some u by rw[<-YF];exact hu)) hh
theorem UD(J:aU Z s.heap μ σ){x:List Nat}(r:aS Z.KN.aF s.heap μ (.s x) v)(hh:A.handled=none):Wp Z A' (pyIter v) (jQ Z A s μ (.bx (x.map λc=>.s [c])) σ) s:=by
 refine aT r ?_;clear r;intro t q1;subst q1
 have main:∀(ty:String),["enumerate","zip","dict_itemiterator","dict_reverseitemiterator","odict_iterator","itertools.zip_longest","itertools.pairwise"].contains ty=false->
   (∀A:Around,A.handled=none->Walks Z.bK Z.VP A s.heap.objs.size [s.heap.objs.size] [s.heap.objs.size] (bp x).cps.size (SignAt (bp x)) (λi h=>h.IsStrIter s.heap.objs.size ty (bp x) t i))->
   ∀o:Obj,(s.heap.push o).IsStrIter s.heap.objs.size ty (bp x) t 0->jQ Z A s μ (.bx (x.map λc=>.s [c])) σ (.ref s.heap.objs.size) {s with heap:=s.heap.push o}:=λty hty W o hit=>
  CP (t:=s.toks) J (by rw[Xr];exact Yx ..) W (λb o hb=>XO _ hb) iB (Ym rfl) (λb hb=>qO hb▸⟨iB,hit.imp λo q=>q.1⟩) (λb hb=>.inl hb)
   hit (λi h q b hb=>by refine c8 q ?_;clear q;intro o ho _ hd;exact qO hb▸⟨o,ho,by unfold gm;rw[hd];rfl⟩) (λi h q=>by refine c8 q ?_;clear q;intro o ho hc hd;exact⟨o,_,_,ho,hc,hd,hty⟩)
   (λi u hi hu=>by
    refine dY hu ?_;clear hu;intro c u' hc q3;subst q3
    have hc:x[i]? =some c:=by rw[<-YF];exact hc
    exact⟨.s [c],by rw[Yy,hc];rfl,u',rfl⟩) hh
 cases ha:(bp x).cps.all (· < 128)
 ·exact wpAny_pyIter_wide ha (main "str_iterator" (by decide) (λA hA=>Walks.strWide hA _ _ t) _ ⟨_,Yg _ rfl,rfl,rfl⟩)
 ·exact wpAny_pyIter_ascii ha (main "str_ascii_iterator" (by decide) (λA hA=>Walks.strAscii hA _ _ t) _ ⟨_,Yg _ rfl,rfl,rfl⟩)
theorem JZ{a b c:Int}(hc:0 < c):Builtin.Range.rangeSize a b c=(((b - a+c - 1) / c).toNat:Nat):=by
 unfold Builtin.Range.rangeSize
 rw[Xz hc,show b - a+c - 1=(b - a - 1)+1 * c by exact Jr,Int.add_mul_ediv_right _ _ (Int.ne_of_gt hc)]
 split
 ·next q=>exact(Int.toNat_of_nonneg (Int.le_add_one (Int.ediv_nonneg (Js q) (Int.le_of_lt hc)))).symm
 ·next q=>have:(b - a - 1) / c < 0:=Int.ediv_neg_of_neg_of_pos (JC q) hc;lia
theorem T5{a b c:Int}(hc:0 < c)(ha:0<=a)(hb:b<=aK):((b - a+c - 1) / c).toNat<=aK:=by
 rw[show b - a+c - 1=(b - a - 1)+1 * c by exact Jr,Int.add_mul_ediv_right _ _ (Int.ne_of_gt hc)]
 by_cases hab:a < b
 ·have:(b - a - 1) / c<=b - a - 1:=Int.ediv_le_self _ (Js hab)
  lia
 ·have:(b - a - 1) / c < 0:=Int.ediv_neg_of_neg_of_pos (JC hab) hc
  lia
theorem uM{i:Int}(h1:-2000000000000<=i)(h2:i<=2000000000000):Builtin.Range.rangeFitsLong i=true:=by
 unfold Builtin.Range.rangeFitsLong
 rw[YJ,decide_eq_true_eq,decide_eq_true_eq,vj];lia
theorem T8{a b c:Int}(hc:0 < c)(ha:0<=a/\a<=aK)(hb:-bY<=b/\b<=aK)(hc2:c<=aK):Builtin.Range.small a b c=true:=by
 have hl:=T5 hc ha.1 hb.2
 unfold Builtin.Range.small
 rw[JZ hc]
 unfold aK at *;unfold bY at *
 rw[uM (i:=a) (by lia) (by lia),uM (i:=b) (by lia) (by lia),uM (i:=c) (by lia) (by lia),uM (i:=((_:Nat):Int)) (by lia) (by lia),Xz hc,uM (i:=b+(c - 1)) (by lia) (by lia),Bool.or_true]
 rfl
theorem Ki(J:aU Z s.heap μ σ){a b c:Int}{t u w:Tok}{r:Addr}(hr:IsRange s.heap r a b c t u w)(hc:0 < c)(ha:0<=a/\a<=aK)(hb:-bY<=b/\b<=aK)(hc2:c<=aK)(hh:A.handled=none):Wp Z A' (pyIter (.ref r)) (jQ Z A s μ (.bx (df a b c)) σ) s:=by
 refine wpAny_pyIter_range hr (T8 hc ha hb hc2) ?_
 rw[JZ hc]
 unfold df
 generalize((b - a+c - 1) / c).toNat=N
 have hg:(s.heap.push {cls:=.type "range_iterator",data:=.fields #[rawInt a,rawInt (N:Int),rawInt c]}).get? s.heap.objs.size=some {cls:=.type "range_iterator",data:=.fields #[rawInt a,rawInt (N:Int),rawInt c]}:=Yg _ rfl
 refine CP (t:=s.toks) (fp:=[s.heap.objs.size]) (wr:=[s.heap.objs.size]) (n:=N) J (by rw[Xr,XW]) (λA hh=>Walks.range hh s.heap.objs.size a c N) (λb o hb=>XO _ hb) iB (Ym rfl) (λb hb=>qO hb▸⟨iB,_,hg⟩) (λb hb=>.inl hb)
  ?_ (λi h q b hb=>qO hb▸⟨_,q,rfl⟩) (λi h q=>⟨_,_,_,q,rfl,rfl,by decide⟩) (λi u hi hu=>?_) hh
 ·show IsRangeIter _ _ (a+((0:Nat):Int) * c) ((N:Int) - ((0:Nat):Int)) c
  rw[show a+((0:Nat):Int) * c=a by simp,show(N:Int) - ((0:Nat):Int)=N by simp];exact hg
 ·refine aT hu ?_;clear hu;intro t' q1;subst q1
  exact⟨.i (a+c * i),by rw[Yy,List.getElem?_range hi];rfl,t',by rw[Int.mul_comm]⟩
end
set_option backward.match.sparseCases false
noncomputable def mu(e:Expr)(q:Str->Pos->Bool):Bool:=Expr.casesOn (motive_1:=λe=>Bool) e aw aw ay aw ay ay aw aw ay ay cB ay aB aB aB ay ay ay aB aw aw aw aB (λa b=>q a b) aB aw ay
theorem oU{e:Expr}{q:Str->Pos->Bool}(h:mu e q=true)(y:∀a b,q a b=true->M (.Name a b)):M e:=Expr.casesOn (motive_1:=λe=>mu e q=true->M e) e aH aH aG aH aG aG aH aH aG aG cN aG aO aO aO aG aG aG aO aH aH aH aO (y) aO aH aG h
noncomputable def uS(e:Expr)(q:Const->Bool):Bool:=Expr.casesOn (motive_1:=λe=>Bool) e aw aw ay aw ay ay aw aw ay ay cB ay aB aB aB ay ay ay aB (λa b c=>q a) aw aw aB aB aB aw ay
theorem An{e:Expr}{q:Const->Bool}(h:uS e q=true)(y:∀a b c,q a=true->M (.Constant a b c)):M e:=Expr.casesOn (motive_1:=λe=>uS e q=true->M e) e aH aH aG aH aG aG aH aH aG aG cN aG aO aO aO aG aG aG aO (y) aH aH aO aO aO aH aG h
noncomputable def uT(e:Expr)(q:UnaryOp->Expr->Bool):Bool:=Expr.casesOn (motive_1:=λe=>Bool) e aw aw ay (λa b c=>q a b) ay ay aw aw ay ay cB ay aB aB aB ay ay ay aB aw aw aw aB aB aB aw ay
theorem Ap{e:Expr}{q:UnaryOp->Expr->Bool}(h:uT e q=true)(y:∀a b c,q a b=true->M (.UnaryOp a b c)):M e:=Expr.casesOn (motive_1:=λe=>uT e q=true->M e) e aH aH aG (y) aG aG aH aH aG aG cN aG aO aO aO aG aG aG aO aH aH aH aO aO aO aH aG h
noncomputable def Bf(e:Expr)(q:Expr->Expr->Expr->Bool):Bool:=Expr.casesOn (motive_1:=λe=>Bool) e aw aw ay aw ay (λa b c d=>q a b c) aw aw ay ay cB ay aB aB aB ay ay ay aB aw aw aw aB aB aB aw ay
theorem FT{e:Expr}{q:Expr->Expr->Expr->Bool}(h:Bf e q=true)(y:∀a b c d,q a b c=true->M (.IfExp a b c d)):M e:=Expr.casesOn (motive_1:=λe=>Bf e q=true->M e) e aH aH aG aH aG (y) aH aH aG aG cN aG aO aO aO aG aG aG aO aH aH aH aO aO aO aH aG h
noncomputable def xA(e:Expr)(q:Expr->(List CmpOp)->(List Expr)->Bool):Bool:=Expr.casesOn (motive_1:=λe=>Bool) e aw aw ay aw ay ay aw aw ay ay cB ay aB aB aB (λa b c d=>q a b c) ay ay aB aw aw aw aB aB aB aw ay
theorem FR{e:Expr}{q:Expr->(List CmpOp)->(List Expr)->Bool}(h:xA e q=true)(y:∀a b c d,q a b c=true->M (.Compare a b c d)):M e:=Expr.casesOn (motive_1:=λe=>xA e q=true->M e) e aH aH aG aH aG aG aH aH aG aG cN aG aO aO aO (y) aG aG aO aH aH aH aO aO aO aH aG h
noncomputable def np(e:Expr)(q:BoolOp->(List Expr)->Bool):Bool:=Expr.casesOn (motive_1:=λe=>Bool) e (λa b c=>q a b) aw ay aw ay ay aw aw ay ay cB ay aB aB aB ay ay ay aB aw aw aw aB aB aB aw ay
theorem Pl{e:Expr}{q:BoolOp->(List Expr)->Bool}(h:np e q=true)(y:∀a b c,q a b=true->M (.BoolOp a b c)):M e:=Expr.casesOn (motive_1:=λe=>np e q=true->M e) e (y) aH aG aH aG aG aH aH aG aG cN aG aO aO aO aG aG aG aO aH aH aH aO aO aO aH aG h
noncomputable def A9(e:Expr)(q:Expr->Operator->Expr->Bool):Bool:=Expr.casesOn (motive_1:=λe=>Bool) e aw aw (λa b c d=>q a b c) aw ay ay aw aw ay ay cB ay aB aB aB ay ay ay aB aw aw aw aB aB aB aw ay
theorem Pk{e:Expr}{q:Expr->Operator->Expr->Bool}(h:A9 e q=true)(y:∀a b c d,q a b c=true->M (.BinOp a b c d)):M e:=Expr.casesOn (motive_1:=λe=>A9 e q=true->M e) e aH aH (y) aH aG aG aH aH aG aG cN aG aO aO aO aG aG aG aO aH aH aH aO aO aO aH aG h
noncomputable def jX(e:Expr)(q:Expr->(List Expr)->(List Keyword)->Pos->Bool):Bool:=Expr.casesOn (motive_1:=λe=>Bool) e aw aw ay aw ay ay aw aw ay ay cB ay aB aB aB ay (λa b c d=>q a b c d) ay aB aw aw aw aB aB aB aw ay
theorem FQ{e:Expr}{q:Expr->(List Expr)->(List Keyword)->Pos->Bool}(h:jX e q=true)(y:∀a b c d,q a b c d=true->M (.Call a b c d)):M e:=Expr.casesOn (motive_1:=λe=>jX e q=true->M e) e aH aH aG aH aG aG aH aH aG aG cN aG aO aO aO aG (y) aG aO aH aH aH aO aO aO aH aG h
noncomputable def sH(e:Expr)(q:Expr->Str->Pos->Bool):Bool:=Expr.casesOn (motive_1:=λe=>Bool) e aw aw ay aw ay ay aw aw ay ay cB ay aB aB aB ay ay ay aB aw (λa b c=>q a b c) aw aB aB aB aw ay
theorem uE{e:Expr}{q:Expr->Str->Pos->Bool}(h:sH e q=true)(y:∀a b c,q a b c=true->M (.Attribute a b c)):M e:=Expr.casesOn (motive_1:=λe=>sH e q=true->M e) e aH aH aG aH aG aG aH aH aG aG cN aG aO aO aO aG aG aG aO aH (y) aH aO aO aO aH aG h
noncomputable def sJ(e:Expr)(q:Expr->Expr->Bool):Bool:=Expr.casesOn (motive_1:=λe=>Bool) e aw aw ay aw ay ay aw aw ay ay cB ay aB aB aB ay ay ay aB aw aw (λa b c=>q a b) aB aB aB aw ay
theorem qp{e:Expr}{q:Expr->Expr->Bool}(h:sJ e q=true)(y:∀a b c,q a b=true->M (.Subscript a b c)):M e:=Expr.casesOn (motive_1:=λe=>sJ e q=true->M e) e aH aH aG aH aG aG aH aH aG aG cN aG aO aO aO aG aG aG aO aH aH (y) aO aO aO aH aG h
noncomputable def xC(e:Expr)(q:(Option Expr)->(Option Expr)->(Option Expr)->Bool):Bool:=Expr.casesOn (motive_1:=λe=>Bool) e aw aw ay aw ay ay aw aw ay ay cB ay aB aB aB ay ay ay aB aw aw aw aB aB aB aw (λa b c d=>q a b c)
theorem Ao{e:Expr}{q:(Option Expr)->(Option Expr)->(Option Expr)->Bool}(h:xC e q=true)(y:∀a b c d,q a b c=true->M (.Slice a b c d)):M e:=Expr.casesOn (motive_1:=λe=>xC e q=true->M e) e aH aH aG aH aG aG aH aH aG aG cN aG aO aO aO aG aG aG aO aH aH aH aO aO aO aH (y) h
noncomputable def qA(e:Expr)(q:(List Expr)->Bool):Bool:=Expr.casesOn (motive_1:=λe=>Bool) e aw aw ay aw ay ay aw aw ay ay cB ay aB aB aB ay ay ay aB aw aw aw aB aB aB (λa b c=>q a) ay
theorem qq{e:Expr}{q:(List Expr)->Bool}(h:qA e q=true)(y:∀a b c,q a=true->M (.Tuple a b c)):M e:=Expr.casesOn (motive_1:=λe=>qA e q=true->M e) e aH aH aG aH aG aG aH aH aG aG cN aG aO aO aO aG aG aG aO aH aH aH aO aO aO (y) aG h
noncomputable def Bh(e:Expr)(q:(List Expr)->Bool):Bool:=Expr.casesOn (motive_1:=λe=>Bool) e aw aw ay aw ay ay aw aw ay ay cB ay aB aB aB ay ay ay aB aw aw aw aB aB (λa b=>q a) aw ay
theorem Pn{e:Expr}{q:(List Expr)->Bool}(h:Bh e q=true)(y:∀a b,q a=true->M (.List a b)):M e:=Expr.casesOn (motive_1:=λe=>Bh e q=true->M e) e aH aH aG aH aG aG aH aH aG aG cN aG aO aO aO aG aG aG aO aH aH aH aO aO (y) aH aG h
noncomputable def Bc(e:Expr)(q:(List (Option Expr))->(List Expr)->Bool):Bool:=Expr.casesOn (motive_1:=λe=>Bool) e aw aw ay aw ay ay (λa b c=>q a b) aw ay ay cB ay aB aB aB ay ay ay aB aw aw aw aB aB aB aw ay
theorem FS{e:Expr}{q:(List (Option Expr))->(List Expr)->Bool}(h:Bc e q=true)(y:∀a b c,q a b=true->M (.Dict a b c)):M e:=Expr.casesOn (motive_1:=λe=>Bc e q=true->M e) e aH aH aG aH aG aG (y) aH aG aG cN aG aO aO aO aG aG aG aO aH aH aH aO aO aO aH aG h
noncomputable def uR(e:Expr)(q:Expr->(List Comprehension)->Scope->Pos->Bool):Bool:=Expr.casesOn (motive_1:=λe=>Bool) e aw aw ay aw ay ay aw aw (λa b c d=>q a b c d) ay cB ay aB aB aB ay ay ay aB aw aw aw aB aB aB aw ay
theorem Am{e:Expr}{q:Expr->(List Comprehension)->Scope->Pos->Bool}(h:uR e q=true)(y:∀a b c d,q a b c d=true->M (.ListComp a b c d)):M e:=Expr.casesOn (motive_1:=λe=>uR e q=true->M e) e aH aH aG aH aG aG aH aH (y) aG cN aG aO aO aO aG aG aG aO aH aH aH aO aO aO aH aG h
noncomputable def Bk(e:Stmt)(q:(Option Expr)->Bool):Bool:=Stmt.casesOn (motive_2:=λe=>Bool) e kI kI sC (λa b=>q a) aB aw sD ay cB cB cB ay ay aw aw aw aw cB cB aw aB ay aB aB aB cv cv cv
theorem Po{M:Stmt->Prop}{e:Stmt}{q:(Option Expr)->Bool}(h:Bk e q=true)(y:∀a b,q a=true->M (.Return a b)):M e:=Stmt.casesOn (motive_2:=λe=>Bk e q=true->M e) e kM kM sS (y) aO aH sT aG cN cN cN aG aG aH aH aH aH cN cN aH aO aG aO aO aO dj dj dj h
noncomputable def A7(e:Stmt)(q:(List Expr)->Expr->Bool):Bool:=Stmt.casesOn (motive_2:=λe=>Bool) e kI kI sC aB aB (λa b c=>q a b) sD ay cB cB cB ay ay aw aw aw aw cB cB aw aB ay aB aB aB cv cv cv
theorem Pj{M:Stmt->Prop}{e:Stmt}{q:(List Expr)->Expr->Bool}(h:A7 e q=true)(y:∀a b c,q a b=true->M (.Assign a b c)):M e:=Stmt.casesOn (motive_2:=λe=>A7 e q=true->M e) e kM kM sS aO aO (y) sT aG cN cN cN aG aG aH aH aH aH cN cN aH aO aG aO aO aO dj dj dj h
noncomputable def Bd(e:Stmt)(q:Expr->Expr->(List Stmt)->(List Stmt)->Bool):Bool:=Stmt.casesOn (motive_2:=λe=>Bool) e kI kI sC aB aB aw sD ay cB (λa b c d e=>q a b c d) cB ay ay aw aw aw aw cB cB aw aB ay aB aB aB cv cv cv
theorem Pm{M:Stmt->Prop}{e:Stmt}{q:Expr->Expr->(List Stmt)->(List Stmt)->Bool}(h:Bd e q=true)(y:∀a b c d e,q a b c d=true->M (.For a b c d e)):M e:=Stmt.casesOn (motive_2:=λe=>Bd e q=true->M e) e kM kM sS aO aO aH sT aG cN (y) cN aG aG aH aH aH aH cN cN aH aO aG aO aO aO dj dj dj h
noncomputable def Bs(e:Stmt)(q:Expr->(List Stmt)->(List Stmt)->Bool):Bool:=Stmt.casesOn (motive_2:=λe=>Bool) e kI kI sC aB aB aw sD ay cB cB cB (λa b c d=>q a b c) ay aw aw aw aw cB cB aw aB ay aB aB aB cv cv cv
theorem Ps{M:Stmt->Prop}{e:Stmt}{q:Expr->(List Stmt)->(List Stmt)->Bool}(h:Bs e q=true)(y:∀a b c d,q a b c=true->M (.While a b c d)):M e:=Stmt.casesOn (motive_2:=λe=>Bs e q=true->M e) e kM kM sS aO aO aH sT aG cN cN cN (y) aG aH aH aH aH cN cN aH aO aG aO aO aO dj dj dj h
noncomputable def Bn(e:Stmt)(q:Expr->(List Stmt)->(List Stmt)->Bool):Bool:=Stmt.casesOn (motive_2:=λe=>Bool) e kI kI sC aB aB aw sD ay cB cB cB ay (λa b c d=>q a b c) aw aw aw aw cB cB aw aB ay aB aB aB cv cv cv
theorem FU{M:Stmt->Prop}{e:Stmt}{q:Expr->(List Stmt)->(List Stmt)->Bool}(h:Bn e q=true)(y:∀a b c d,q a b c=true->M (.If a b c d)):M e:=Stmt.casesOn (motive_2:=λe=>Bn e q=true->M e) e kM kM sS aO aO aH sT aG cN cN cN aG (y) aH aH aH aH cN cN aH aO aG aO aO aO dj dj dj h
noncomputable def Bm(e:Stmt)(q:Expr->Bool):Bool:=Stmt.casesOn (motive_2:=λe=>Bool) e kI kI sC aB aB aw sD ay cB cB cB ay ay aw aw aw aw cB cB aw aB ay aB aB (λa b=>q a) cv cv cv
theorem Pq{M:Stmt->Prop}{e:Stmt}{q:Expr->Bool}(h:Bm e q=true)(y:∀a b,q a=true->M (.Expr a b)):M e:=Stmt.casesOn (motive_2:=λe=>Bm e q=true->M e) e kM kM sS aO aO aH sT aG cN cN cN aG aG aH aH aH aH cN cN aH aO aG aO aO (y) dj dj dj h
noncomputable def fv(e:Expr):Bool:=Expr.casesOn (motive_1:=λe=>Bool) e aw aw ay aw ay ay aw aw ay ay cB ay aB aB aB ay ay ay aB aw aw aw (λa b=>true) aB aB aw ay
noncomputable def Bp(e:Expr):Bool:=Expr.casesOn (motive_1:=λe=>Bool) e aw aw ay aw ay ay aw aw ay ay cB ay aB aB aB ay ay ay aB aw aw aw aB aB aB aw (λa b c d=>true)
noncomputable def xB(e:Expr):Bool:=Expr.casesOn (motive_1:=λe=>Bool) e aw aw ay aw ay ay aw aw ay ay cB ay aB aB aB ay ay ay aB aw aw aw aB aB (λa b=>true) (λa b c=>true) ay
noncomputable def Ba(e:Expr):Bool:=Expr.casesOn (motive_1:=λe=>Bool) e aw aw ay aw ay ay aw aw (λa b c d=>true) (λa b c d=>true) (λa b c d e=>true) ay aB aB aB ay ay ay aB aw aw aw aB aB aB aw ay
noncomputable def Hc(e:Expr):Bool:=Expr.casesOn (motive_1:=λe=>Bool) e aw aw ay aw ay ay aw (λa b c=>true) ay ay cB ay aB aB aB ay ay ay aB aw aw aw aB aB aB aw ay
noncomputable def U5(f:Expr->List Str)(e:Expr):List Str:=Expr.casesOn (motive_1:=λe=>List Str) e (λa b c=>[]) (λa b c=>[]) (λa b c d=>[]) (λa b c=>[]) (λa b c d=>[]) (λa b c d=>[]) (λa b c=>[]) (λa b c=>[]) (λa b c d=>[]) (λa b c d=>[]) (λa b c d e=>[]) (λa b c d=>[]) (λa b=>[]) (λa b=>[]) (λa b=>[]) (λa b c d=>[]) (λa b c d=>[]) (λa b c d=>[]) (λa b=>[]) (λa b c=>[]) (λa b c=>[]) (λa b c=>[]) (λa b=>[]) (λa b=>[a]) (λa b=>[]) (λa b c=>a.flatMap f) (λa b c d=>[])
noncomputable def Rx(e:Expr)(q:Str->Pos->Option Str):Option Str:=Expr.casesOn (motive_1:=λe=>Option Str) e (λa b c=>none) (λa b c=>none) (λa b c d=>none) (λa b c=>none) (λa b c d=>none) (λa b c d=>none) (λa b c=>none) (λa b c=>none) (λa b c d=>none) (λa b c d=>none) (λa b c d e=>none) (λa b c d=>none) (λa b=>none) (λa b=>none) (λa b=>none) (λa b c d=>none) (λa b c d=>none) (λa b c d=>none) (λa b=>none) (λa b c=>none) (λa b c=>none) (λa b c=>none) (λa b=>none) (λa b=>q a b) (λa b=>none) (λa b c=>none) (λa b c d=>none)
noncomputable def Bi(e:Ex):Bool:=Ex.casesOn (motive_1:=λe=>Bool) e cv (λa=>V.casesOn (motive_1:=λe=>Bool) a true cv cv cv cv cv aB cv) cv aw aw cB cv cv cv aw aB aB aB aw aB aB aw cv cv cv aB aB
noncomputable def OV(q:Expr->List Comprehension->Scope->Pos->Prop)(e:Expr):Prop:=Expr.casesOn (motive_1:=λe=>Prop) e (λa b c=>True) (λa b c=>True) (λa b c d=>True) (λa b c=>True) (λa b c d=>True) (λa b c d=>True) (λa b c=>True) (λa b c=>True) (λa b c d=>q a b c d) (λa b c d=>True) (λa b c d e=>True) (λa b c d=>True) (λa b=>True) (λa b=>True) (λa b=>True) (λa b c d=>True) (λa b c d=>True) (λa b c d=>True) (λa b=>True) (λa b c=>True) (λa b c=>True) (λa b c=>True) (λa b=>True) (λa b=>True) (λa b=>True) (λa b c=>True) (λa b c d=>True)
noncomputable def nt(l:List α)(q:α->Bool):Bool:=l.casesOn false λa l=>l.isEmpty&&q a
noncomputable def xF(l:List α)(q:α->α->Bool):Bool:=l.casesOn false λa l=>nt l (q a)
noncomputable def Bo(d:Data)(q:Array Value->Nat->Bool):Bool:=d.casesOn false cv q aB aw aB cv cv cv cv false
theorem Px{M:Data->Prop}{d:Data}{q:Array Value->Nat->Bool}(h:Bo d q=true)(y:∀a b,q a b=true->M (.seq a b)):M d:=d.casesOn (motive:=λd=>Bo d q=true->M d) bE dj y aO aH aO dj dj dj dj bE h
noncomputable def Be(d:Data)(q:FuncData->Bool):Bool:=d.casesOn false cv aB aB aw aB cv q cv cv false
theorem Pt{M:Data->Prop}{d:Data}{q:FuncData->Bool}(h:Be d q=true)(y:∀a,q a=true->M (.func a)):M d:=d.casesOn (motive:=λd=>Be d q=true->M d) bE dj aO aO aH aO dj y dj dj bE h
noncomputable def xD(v:Value)(q:Str->Bool):Bool:=v.casesOn false false false cv aB aB (λs _=>q s) aB cv cv cv
theorem Py{M:Value->Prop}{v:Value}{q:Str->Bool}(h:xD v q=true)(y:∀a b,q a=true->M (.str a b)):M v:=v.casesOn (motive:=λv=>xD v q=true->M v) bE bE bE dj aO aO y aO dj dj dj h
noncomputable def Bg(v:Value)(q:Int->Bool):Bool:=v.casesOn false false false cv (λi _=>q i) aB aB aB cv cv cv
theorem Pu{M:Value->Prop}{v:Value}{q:Int->Bool}(h:Bg v q=true)(y:∀a b,q a=true->M (.int a b)):M v:=v.casesOn (motive:=λv=>Bg v q=true->M v) bE bE bE dj y aO aO aO dj dj dj h
noncomputable def Bj(v:Value)(q:Addr->Bool):Bool:=v.casesOn false false false cv aB aB aB aB cv cv q
theorem Pw{M:Value->Prop}{v:Value}{q:Addr->Bool}(h:Bj v q=true)(y:∀a,q a=true->M (.ref a)):M v:=v.casesOn (motive:=λv=>Bj v q=true->M v) bE bE bE dj aO aO aO aO dj dj y h
noncomputable def gI(o:Option α)(q:α->Bool):Bool:=o.casesOn false q
theorem xj{M:List α->Prop}{l:List α}(h:l.isEmpty=true)(y:M []):M l:=Zy h▸y
theorem sy{M:List α->Prop}{l:List α}{q:α->Bool}(h:nt l q=true)(y:∀a,q a=true->M [a]):M l:=by
 rcases l with _ | ⟨a,l⟩
 ·exact bE h
 ·exact xj (M:=λl=>M (a::l)) (YL h).1 (y a (YL h).2)
theorem Aq{M:List α->Prop}{l:List α}{q:α->α->Bool}(h:xF l q=true)(y:∀a b,q a b=true->M [a,b]):M l:=by
 rcases l with _ | ⟨a,l⟩
 ·exact bE h
 ·exact sy (M:=λl=>M (a::l)) (q:=q a) h (y a)
theorem m7{M:Option α->Prop}{o:Option α}{q:α->Bool}(h:gI o q=true)(y:∀a,q a=true->M (some a)):M o:=by
 rcases o with _ |a
 ·exact bE h
 ·exact y a h
theorem qt{M:Option α->Prop}{o:Option α}(h:o.isNone=true)(y:M none):M o:=ZH h▸y
theorem oV[BEq α][LawfulBEq α]{M:α->Prop}{a b:α}(h:(a==b)=true)(y:M b):M a:=XF h▸y
theorem bV{a b:Bool}(h:(a&&b)=true):a=true/\b=true:=YL h
theorem cM{a b c:Bool}(h:(a&&b&&c)=true):a=true/\b=true/\c=true:=⟨(bV (bV h).1).1,(bV (bV h).1).2,(bV h).2⟩
theorem eQ{a b c d:Bool}(h:(a&&b&&c&&d)=true):a=true/\b=true/\c=true/\d=true:=have x:=cM (bV h).1;⟨x.1,x.2.1,x.2.2,(bV h).2⟩
theorem qm{a b c d e:Bool}(h:(a&&b&&c&&d&&e)=true):a=true/\b=true/\c=true/\d=true/\e=true:=have x:=eQ (bV h).1;⟨x.1,x.2.1,x.2.2.1,x.2.2.2,(bV h).2⟩
theorem ux{a b c d e f:Bool}(h:(a&&b&&c&&d&&e&&f)=true):a=true/\b=true/\c=true/\d=true/\e=true/\f=true:=have x:=qm (bV h).1;⟨x.1,x.2.1,x.2.2.1,x.2.2.2.1,x.2.2.2.2,(bV h).2⟩
theorem Oh{a b c d e f g:Bool}(h:(a&&b&&c&&d&&e&&f&&g)=true):a=true/\b=true/\c=true/\d=true/\e=true/\f=true/\g=true:=have x:=ux (bV h).1;⟨x.1,x.2.1,x.2.2.1,x.2.2.2.1,x.2.2.2.2.1,x.2.2.2.2.2,(bV h).2⟩
theorem i7{b:Bool}(h:(!b)=true):b=false:=(Bool.not_eq_true' _).mp h
noncomputable def cx(f:α->β->Bool)(es:List α)(xs:List β):Bool:=es.length==xs.length&&(es.zip xs).all λp=>f p.1 p.2
theorem kD{f:α->β->Bool}{es:List α}{M:List α->Prop}(h:cx f es []=true)(y:M []):M es:=Zo (XF (bV h).1)▸y
theorem w6{f:α->β->Bool}{a:β}{xs:List β}{e:α}{es:List α}(h:cx f (e::es) (a::xs)=true):f e a=true/\cx f es xs=true:=
 have k:=bV h;⟨(bV k.2).1,Zk ⟨beq_iff_eq.mpr (Nat.succ.inj (XF k.1)),(bV k.2).2⟩⟩
theorem iL{f:α->β->Bool}{a:β}{xs:List β}{es:List α}{M:List α->Prop}(h:cx f es (a::xs)=true)(y:∀e1 es,f e1 a=true->cx f es xs=true->M (e1::es)):M es:=by
 rcases es with _ | ⟨e,es⟩
 ·exact absurd (XF (bV h).1) (Nat.succ_ne_zero _).symm
 ·exact y e es (w6 h).1 (w6 h).2
theorem w5{f:α->β->Bool}{es:List α}{xs:List β}(h:cx f es xs=true):es.length=xs.length:=XF (bV h).1
theorem VG{f:α->β->Bool}{p:α->Bool}(hp:∀a b,f a b=true->p a=true){es:List α}:∀{xs:List β},cx f es xs=true->es.all p=true:=by
 induction es with
 |nil=>exact λ_=>rfl
 |cons e es ih=>
  intro xs h
  rcases xs with _ | ⟨x,xs⟩
  ·exact absurd (w5 h) (Nat.succ_ne_zero _)
  ·rw[YU,hp _ _ (w6 h).1,ih (w6 h).2];rfl
noncomputable def uU(K:Frag)(v:Value):Bool:=match v with
 | .builtin _=>true
 | .type _=>true
 |v=>keepIn K v
noncomputable def jy(K:Frag)(x:Str):Option Value:=if x=="__name__" then none else(nsIn K mainGlobals x).bind λo=>o.elim (bootBuiltins x) some
noncomputable def jY(L:dh)(c:Sc)(e:Expr)(v:Value):Bool:=mu e λid _=>jy L.VQ id==some v&&c.dD.lookup id==some .globalImplicit&& !(id==("__debug__":Str))&&uU L.VQ v
noncomputable def FI(k:Const)(v:V):Bool:=match v with
 | .n=>(match k with | .none=>true |_=>false)
 | .b b=>(match k with | .bool a=>a==b |_=>false)
 | .i b=>(match k with | .int a=>a==b |_=>false)
 | .s b=>(match k with | .str a=>a==bp b |_=>false)
 |_=>false
noncomputable def RB(k:Const)(v:V):Bool:=match v with | .i b=>(match k with | .int a=>b== -a |_=>false) |_=>false
noncomputable def Qm(k:Const):Bool:=match k with | .int a=>a==1 |_=>false
noncomputable def sU(e:Expr):Bool:=!(jX e λf as ks _=>(mu f λ_ _=>true)&&as.isEmpty&&ks.isEmpty)
noncomputable def CV(n:Nat):Expr->List Str:=match n with
 |0=>λ_=>[]
 |n+1=>U5 (CV n)
noncomputable def vG(n:Nat)(t:Tg):List Nat:=match n with
 |0=>[]
 |n+1=>match t with
  | .v i=>[i]
  | .t ts=>ts.flatMap (vG n)
  |_=>[]
noncomputable def jo.W4:jo->Tg | .m t _ _=>t
noncomputable def nc(gs:List jo):List Nat:=gs.flatMap λg=>vG 4 g.W4
noncomputable def yj(names outer:List (Str×NameKind)):List (Str×NameKind):=names.map λx=>(x.1,if x.2==.free&&outer.lookup x.1==some .cell then .cell else x.2)
noncomputable def xu(names:List (Str×NameKind)):List Str:=((names.filter λx=>x.2==.free).map (·.1)).reverse
noncomputable def Cb(c:Sc):Bool:=
 decide (c.VT.map (·.1)).Nodup&&decide (c.VT.map (·.2)).Nodup&&decide c.jP.Nodup&&
 c.VT.all λx=>!(x.1==("__debug__":Str))&& !(x.1==("__classdict__":Str))&&
  (c.dD.lookup x.1==some .local||((c.dD.lookup x.1==some .cell||c.dD.lookup x.1==some .free)&&c.jP.contains x.1))
noncomputable def kE(c:Sc)(scope:Scope)(own:List (Str×Nat)):Sc where
 dD:=yj scope.names c.dD
 jP:=xu scope.names
 VT:=own++c.VT.filter λx=>(xu scope.names).contains x.1
 dm:=own.map (·.2)++c.dm
noncomputable def ID(c:Sc)(scope:Scope)(own:List (Str×Nat)):Bool:=
 scope.kind==.function&&scope.names.all (λx=>x.2 !=.cell&&(x.2 !=.local||scope.names.lookup x.1==some .local)&&(x.2 !=.free||(scope.names.lookup x.1==some .free&&c.jP.contains x.1&&(c.dD.lookup x.1==some .cell||c.dD.lookup x.1==some .free))))&&
 own.all (λx=>scope.names.lookup x.1==some .local&& !c.dm.contains x.2)&&Cb (kE c scope own)
noncomputable def qo(loc:Bool)(n:Nat)(c:Sc)(e:Expr)(t:Tg):Bool:=match n with
 |0=>false
 |n+1=>match t with
  | .v i=>mu e λid _=>c.VT.contains (id,i)&&c.dD.lookup id !=some .free&&(!loc||c.dD.lookup id==some .local)
  | .t ts=>qA e λes=>cx (qo loc n c) es ts&&es.all (!fv ·)
  |_=>false
noncomputable def uC(L:dh)(f:Expr->Ex->Bool)(c:Sc)(e:Expr)(i:It):Bool:=!Hc e&&match i with
 | .e x=>f e x
 | .r args=>jX e λg as ks p=>ks.isEmpty&&jY L c g (.type "range")&&cx f as args
 | .n y=>jX e λg as ks p=>ks.isEmpty&&jY L c g (.type "enumerate")&&cx f as [y]
noncomputable def z8(L:dh)(f:Sc->Expr->Ex->Bool)(c1 c:Sc)(g:Comprehension)(gn:jo):Bool:=match gn with
 | .m t it ifs=>uC L (f c1) c1 g.iter it&&qo true 4 c g.target t&&cx (f c) g.ifs ifs&&g.is_async==0
noncomputable def pd(gs:List Comprehension)(ts:List jo):List (Str×Nat):=(gs.flatMap λg=>CV 4 g.target).zip (nc ts)
noncomputable def Fq(L:dh)(f:Sc->Expr->Ex->Bool)(c:Sc)(elt':Expr)(gs:List Comprehension)(scope:Scope)(elt:Ex)(ts:List jo):Bool:=
 gs.casesOn false λg gs'=>ts.casesOn false λt ts'=>ID c scope (pd gs ts)&&((gs.flatMap λg=>CV 4 g.target).length==(nc ts).length)&&z8 L f c (kE c scope (pd gs ts)) g t&&
  cx (z8 L f (kE c scope (pd gs ts)) (kE c scope (pd gs ts))) gs' ts'&&f (kE c scope (pd gs ts)) elt' elt
noncomputable def Fr(f:Expr->Ex->Bool)(k:Option Expr)(p:Ex×Ex):Bool:=gI k λk=>f k p.1
noncomputable def cg(L:dh)(n:Nat)(c:Sc)(e:Expr)(x:Ex):Bool:=match n with
 |0=>false
 |n+1=>match x with
  | .v i=>mu e λid _=>c.VT.contains (id,i)
  | .c v=>uS e (λk=>FI k v)||uT e λo y=>o==.USub&&uS y λk=>RB k v
  | .h k=>mu e λid _=>id==L.gn k&&c.dD.lookup id==some .globalImplicit&& !(id==("__debug__":Str))
  | .f t a b=>Bf e λt' a' b'=>cg L n c t' t&&cg L n c a' a&&cg L n c b' b
  | .p op a b=>xA e λl os rs=>nt os λo=>nt rs λr=>o==fO op&&cg L n c l a&&cg L n c r b&& !behindInMarks o r
  | .q op1 op2 a b d=>xA e λl os rs=>xF os λo1 o2=>xF rs λr1 r2=>o1==fO op1&&o2==fO op2&&cg L n c l a&&cg L n c r1 b&&cg L n c r2 d&& !behindInMarks o2 r2
  | .n xs=>np e λo es=>o==.And&&cx (cg L n c) es xs
  | .r xs=>np e λo es=>o==.Or&&cx (cg L n c) es xs
  | .j a=>uT e λo y=>o==.Not&&cg L n c y a
  | .i op a b=>A9 e λl o r=>o==z7 op&&cg L n c l a&&cg L n c r b
  | .l k args=>jX e λf es ks p=>ks.isEmpty&&jY L c f (.ref (L.fn k))&&cx (cg L n c) es args
  | .w k args=>jX e λf es ks p=>ks.isEmpty&&jY L c f (.ref (L.aF.VS k))&&cx (cg L n c) es args
  | .b b args=>jX e λf es ks p=>ks.isEmpty&&jY L c f (z5 b)&&match b with
    | .S=>xF es λe1 e2=>nt args λa=>cg L n c e1 a&&jY L c e2 (.type "str")
    | .r=>nt es λy=>nt args λa=>jX y λg gs ks p=>ks.isEmpty&&jY L c g (.type "set")&&nt gs λy1=>cg L n c y1 a
    |_=>cx (cg L n c) es args
  | .m m o args=>jX e λf es ks p=>sH f λo' m' ap=>ks.isEmpty&&m'==L.ct m&&cg L n c o' o&&cx (cg L n c) es args&&sU o'&&ap.endLine==p.line&&decide (es.length < 30)
  | .a m o=>sH e λo' m' p=>m'==L.ct m&&cg L n c o' o&&sU o'
  | .s o i=>sJ e λo' i'=>cg L n c o' o&&cg L n c i' i&& !Bp i'
  | .e o lo hi=>sJ e λo' i'=>xC i' λl u s=>s.isNone&&cg L n c o' o&&match lo with
    |some lo=>hi.isNone&&u.isNone&&gI l λl=>cg L n c l lo
    |none=>l.isNone&&gI hi λhi=>gI u λu=>cg L n c u hi
  | .k o=>sJ e λo' i'=>xC i' λl u s=>l.isNone&&u.isNone&&cg L n c o' o&&gI s λz=>uT z λo y=>o==.USub&&uS y Qm
  | .t xs=>qA e λes=>cx (cg L n c) es xs&&decide (es.length<=1000)
  | .d xs=>Bh e λes=>cx (cg L n c) es xs&&decide (es.length<=1000)
  | .g k kvs=>Bc e λks vs=>cx (Fr (cg L n c)) ks kvs&&cx (λv p=>cg L n c v p.2) vs kvs&&decide (ks.length<=15)&&(!k.Lb||kvs.isEmpty)
  | .o elt gens=>uR e λelt' gs scope _=>Fq L (cg L n) c elt' gs scope elt gens
noncomputable def oR(L:dh)(f:Expr->Ex->Bool)(d:Nat)(c:Sc)(e:Expr)(t:Tg):Bool:=match d with
 |0=>false
 |d+1=>match t with
  | .v i=>mu e λid _=>c.VT.contains (id,i)&&c.dD.lookup id !=some .free
  | .a m o=>sH e λo' m' _=>m'==L.ct m&&f o' o
  | .s o i=>sJ e λo' i'=>f o' o&&f i' i&& !Bp i'
  | .t ts=>qA e λes=>cx (oR L f d c) es ts&&es.all (!fv ·)
noncomputable def j0(c:Sc)(line:Nat)(e:Expr):Option Str:=Rx e λid pos=>if c.dD.lookup id==some .local&&pos.line==line then some id else none
noncomputable def BH(ts:List Expr):Nat:=(ts.head?.map (·.pos.line)).getD 0
noncomputable def iC(c:Sc)(ts:List Expr):List Str:=ts.filterMap (j0 c (BH ts))
noncomputable def Kr(c:Sc)(ts vs:List Expr):Bool:=
 (ts.length==2||ts.length==3)&&vs.length==ts.length&&vs.all (!fv ·)&&(iC c ts).length==ts.length&&(iC c ts).eraseDups.length==(iC c ts).length&&decide (iC c ts).Nodup&&
  !(vs.all (foldedForSure 8))&& !(vs.all (constantsAlone 8))
noncomputable def tB(c:Sc)(scope:Scope)(vpos:Pos)(t:Str)(tpos:Pos):Bool:=c.dD.lookup t==some .local&&tpos.line==vpos.line&& !(scope.names.any λx=>x.1==t&&(x.2==.local||x.2==.cell))
noncomputable def Vf(c:Sc)(tg value:Expr):Bool:=uR value λ_ _ sc vp=>mu tg λt tp=>tB c sc vp t tp
noncomputable def IT(c:Sc)(tg value:Expr):Bool:=!Ba value||uR value λ_ _ sc vp=>!(mu tg λt tp=>tB c sc vp t tp)
noncomputable def OH(L:dh)(d:Nat)(c:Sc)(tg value:Expr)(t:Tg)(e:Ex):Bool:=
 cg L d c value e&&oR L (cg L d c) 4 c tg t&&(Vf c tg value||(IT c tg value&&
  (!xB tg||(qA tg λts=>!xB value||(qA value λvs=>(iC c ts).length !=ts.length||Kr c ts vs)))))
noncomputable def ml(L:dh)(d n:Nat)(c:Sc)(s:Stmt)(t:St):Bool:=match n with
 |0=>false
 |n+1=>match t with
  | .s=>true
  | .a t e=>A7 s λtgs value=>nt tgs λtg=>OH L d c tg value t e
  | .e e=>Bm s λvalue=>cg L d c value e&& !Ba value
  | .i t a b=>Bn s λtest body orelse=>cg L d c test t&&cx (ml L d n c) body a&&cx (ml L d n c) orelse b
  | .w t b=>Bs s λtest body els=>els.isEmpty&&cg L d c test t&&cx (ml L d n c) body b
  | .l t it b=>Bd s λtg iter body els=>els.isEmpty&&uC L (cg L d c) c iter it&&qo false 4 c tg t&&cx (ml L d n c) body b
  | .r e=>Bk s λv=>gI v (λv=>cg L d c v e)||(v.isNone&&Bi e)
noncomputable def w7(names:List (Str×NameKind)):List Str:=((names.filter λx=>x.2==.cell).map (·.1)).reverse
structure oh(L:dh)(a:Addr)(f:Fn) where
 Xm:Obj
 Wi:FuncData
 LA:List Stmt
 ld:List Str
 Wg:Sc
 Ly:L.VQ.lookup a=some Xm
 LH:Xm.data=.func Wi
 LG:∀h:Heap,L.VQ.In h->h.CodeRec Wi.code Wi.qualname
 LB:Wi.body=.stmts LA
 Lz:∀vals:List Value,vals.length=f.mN->bindArgs Wi ⟨vals,[]⟩=pure (ld.zip vals)
 v5:ld.length=f.mN
 LF:Wi.closure=[]
 co:Wi.scope.isCoroutine=false
 LI:Wi.scope.isGenerator=false
 Dz:Wi.scope.kind=.function
 LJ:Wi.globals=mainGlobals
 LC:Wi.builtins=builtinsNs
 yZ:Wi.scope.names=Wg.dD
 Dy:w7 Wi.scope.names=Wg.jP
 sc:wK Wg
 dm:∀x∈Wg.VT,x.2∈Wg.dm
 LK:∀x∈Wg.dD,x.2≠.free
 DA:ld.Nodup
 y0:∀j p,ld[j]? =some p->(p,j)∈Wg.VT
 LD:cx (ml L EF SF Wg) LA f.dZ=true
set_option backward.match.sparseCases true
structure rE(Z:Cx):Prop where
 Wb:Z.KN.VQ.In Z.cU
 rG:qe Z.cU
 rF:j' Z.KN
 L4:∃mg mb,Z.cU.Ns mainGlobals mg/\Z.cU.Ns builtinsNs mb/\∀x:Str,x≠"__name__"->mb x=bootBuiltins x
 L0:Z.cU.NoLimit
 DC:∀k f,yu k=some f->Nonempty (oh Z.KN (Z.KN.fn k) f)
 LZ:∀k V,Kx k=some V->∃v,jy Z.KN.VQ (Z.KN.gn k)=some v/\aS Z.KN.aF Z.cU [] V v
noncomputable def Rm(N:Nat)(A:Around):Prop:=A.handled=none/\A.depth+3 * N+9<=900/\A.units+20 * N+1095<=cLine
noncomputable def ud(N:Nat)(A:Around):Prop:=A.handled=none/\A.depth+3 * N+7<=900/\A.units+20 * N+1080<=cLine
structure Wh where
 Vr:Cx
 VR:Sc
 aE:PySem.Env
 V1:Around
noncomputable abbrev Wh.wp(w:Wh)(m:Sem α)(Q:α->Shared->Prop)(s:Shared):Prop:=Wp w.Vr w.V1 m Q s
structure Ok(w:Wh)(d:Nat):Prop where
 VW:rE w.Vr
 X:fF w.VR w.aE
 V0:Rm d w.V1
structure At(w:Wh)(ρ:aA)(s:Shared)(μ:List Addr)(σ:aj):Prop where
 bH:aU w.Vr s.heap μ σ
 VZ:eK w.Vr.KN.aF w.Vr.cU s.heap μ w.aE w.VR.VT ρ
 mI:∀i v,ρ i=some v->i∈w.VR.dm
inductive RT(Z:Cx)(s:Shared)(μ:List Addr)(b:Bool)(σ':aj)(v:Bool)(s':Shared):Prop
 |mk (e:v=b) (μ':List Addr) (st:br Z s μ s' μ' σ')
noncomputable def ck(w:Wh)(ρ:aA)(σ:aj)(e:Expr)(x:V)(σ':aj):Prop:=∀s μ,At w ρ s μ σ->w.wp (eval e w.aE) (R1 w.Vr s μ x σ') s
noncomputable def mc(w:Wh)(ρ:aA)(σ:aj)(e:Expr)(b:Bool)(σ':aj):Prop:=∀s μ,At w ρ s μ σ->w.wp (isTrue e w.aE (eval e w.aE)) (RT w.Vr s μ b σ') s
inductive La(w:Wh)(s:Shared)(μ:List Addr)(x:V)(σ':aj)(D B:Addr)(s':Shared):Prop
 |mk (μ':List Addr) (st:br w.Vr s μ s' μ' σ') (r:aS w.Vr.KN.aF s'.heap μ' x (.ref D)) (h1:s.heap.get? B=none) (h2:B∉μ') (h3:w.Vr.cU.get? B=none) (h4:∃m,s'.heap.Ns B m)
noncomputable def wU(w:Wh)(ρ:aA)(σ:aj)(x:V)(σ':aj)(elt:Expr)(gs:List Comprehension)(scope:Scope)(pos:Pos):Prop:=∀(use:Option (Value->Sem Unit)) (Q:Value->Shared->Prop) s μ,At w ρ s μ σ->
 (∀s' D B f,La w s μ x σ' D B s'->compPost (model w.Vr.bK w.Vr.VP) w.V1 NE use Q (.ref D) B (.ok f) s')->∀pos',w.wp (comprehension (.ListComp elt gs scope pos) scope w.aE pos' (newList []) (firstAsync gs) (firstIter gs w.aE) use) Q s
noncomputable def CU(w:Wh)(ρ:aA)(σ:aj)(x:V)(σ':aj)(e:Expr):Prop:=OV (wU w ρ σ x σ') e
structure bj(w:Wh)(ρ:aA)(σ:aj)(x:V)(σ':aj)(e:Expr):Prop where
 ev:ck w ρ σ e x σ'
 V8:∀b,x=.b b->mc w ρ σ e b σ'
 cu:CU w ρ σ x σ' e
noncomputable def Ev(d n:Nat)(e:Ex)(ρ:aA)(σ:aj)(v:V)(σ':aj):Prop:=∀w,Ok w d->∀e',cg w.Vr.KN n w.VR e' e=true->bj w ρ σ v σ' e'
section
variable {w:Wh}{s:Shared}{x y z:V}{b t r:Bool}{d n i k:Nat}{c:Sc}{p:Pos}
theorem ut{a:Bool}(h:V.b a=V.b b):a=b:=by injection h
theorem Rm.We(h:Rm d A):Rq A:=⟨h.1,XJ (vm (x8 iO rfl)) h.2.2⟩
theorem At.gT(a:At w ρ s μ σ)(st:br w.Vr s μ s' μ' σ'):At w ρ s' μ' σ':=⟨st.eN,a.VZ.LP st.bJ,a.mI⟩
theorem RT.zz{v:Bool}(st:br Z s μ s' μ' σ')(r:RT Z s' μ' b σ₁ v s''):RT Z s μ b σ₁ v s'':=r.casesOn λe m h=>⟨e,m,st.d0 h⟩
theorem R1.rQ{v:Value}(r:R1 Z s μ (.b t) σ₁ v s'):v=.bool t/\RT Z s μ t σ₁ t s':=r.casesOn λm st r=>⟨r,rfl,m,st⟩
theorem zA{m:Sem Bool}(st:br Z s μ s' μ' σ')(h:Wp Z A m (RT Z s' μ' b σ₁) s'):Wp Z A m (RT Z s μ b σ₁) s':=h.bZ λ_ _ r=>r.zz st
theorem ck.to{e:Expr}(h:ck w ρ σ e x σ₁)(a:At w ρ s μ σ)(k:∀v s' μ',At w ρ s' μ' σ₁->br w.Vr s μ s' μ' σ₁->aS w.Vr.KN.aF s'.heap μ' x v->Q v s'):w.wp (eval e w.aE) Q s:=
 (h s μ a).bZ λv s' r=>r.casesOn λm st r=>k v s' m (a.gT st) st r
theorem ck.ie{e:Expr}(h:ck w ρ σ e x σ₁)(a:At w ρ s μ σ){f:Value->Sem α}{Q:α->Shared->Prop}(k:∀v s' μ',At w ρ s' μ' σ₁->br w.Vr s μ s' μ' σ₁->aS w.Vr.KN.aF s'.heap μ' x v->w.wp (f v) Q s'):w.wp (eval e w.aE>>=f) Q s:=Xq (h.to a k)
theorem mc.to{e:Expr}(h:mc w ρ σ e b σ₁)(a:At w ρ s μ σ){Q:Bool->Shared->Prop}(k:∀s' μ',At w ρ s' μ' σ₁->br w.Vr s μ s' μ' σ₁->Q b s'):w.wp (isTrue e w.aE (eval e w.aE)) Q s:=
 (h s μ a).bZ λv s' r=>r.casesOn λq m st=>q▸k s' m (a.gT st) st
theorem fb{e:Expr}(he:isTrue e w.aE (eval e w.aE)=(do let v<-eval e w.aE;standAt e.pos;holding [v] (truthy v)))(cu:CU w ρ σ x σ₁ e)(h:ck w ρ σ e x σ₁):bj w ρ σ x σ₁ e:=
 ⟨h,λb q s μ a=>wpAny_isTrue_value ((h s μ a).bZ λv s₁ r=>by subst q;obtain⟨rfl,q⟩:=r.rQ;exact YT q) he,cu⟩
theorem Ot{h:Heap}(I:aU Z h μ σ):dx Z.cU [] h μ:=⟨λb o hb _=>I.dM b o hb,List.nil_prefix,λb hb=>.inr (I.jH b hb)⟩
theorem sR(O:Ok w d)(I:aU w.Vr s.heap μ σ){x:Str}{v:Value}(hv:jy w.Vr.KN.VQ x=some v)(hk:w.VR.dD.lookup x=some .globalImplicit)(hd:(x==("__debug__":Str))=false)(q:Q v s):wpAny (model w.Vr.bK w.Vr.VP) A (eval (.Name x p) w.aE) Q E s:=by
 obtain⟨mg,mb,g1,g2,g3⟩:=O.VW.L4
 refine Name_function_global O.X.fn ((nw O.X x).trans hk) ?_ hd
 have k1:s.heap.Ns w.aE.globals mg:=by rw[O.X.yL];exact g1.at' λo=>I.dM _ o
 unfold jy at hv
 split at hv
 ·exact bN hv
 ·next hn=>
  refine az (ZF hv) λo h1 h2=>?_
  rcases o with _ |u
  ·exact loadGlobal_builtin k1 (mg_none_of O.VW.Wb g1 h1) (by rw[O.X.yJ];exact g2.at' λo=>I.dM _ o) ((g3 x λe=>hn (e▸beq_self_eq_true _)).trans h2) q
  ·exact loadGlobal_global k1 (mg_of O.VW.Wb g1 h1) (XA h2▸q)
theorem af{v:V}(h:ρ i=some v):Ev d (n+1) (.v i) ρ σ v σ:=λw O e c=>
 oU (M:=bj w ρ σ v σ) c λid p c=>fb rfl trivial λs μ a=>Q6 (x:=(id,i)) a.bH O.X a.VZ (List.contains_iff_mem.mp c) h
theorem vZ(h:Kx k=some x):Ev d (n+1) (.h k) ρ σ x σ:=λw O e c=>
 oU (M:=bj w ρ σ x σ) c λid p c=>fb rfl trivial λs μ a=>by
  refine cO (cM c) λc1 c2 c3=>?_
  refine az (O.VW.LZ k x h) λv hv rv=>?_
  rw[<-XF c1]at hv
  exact sR O a.bH hv (XF c2) (i7 c3) (.id a.bH (aS.cE (Ot a.bH) x rv))
theorem OU{kc:Const}(h:FI kc x=true):ck w ρ σ (.Constant kc kd p) x σ:=λs μ a=>by
 rcases x with _ |v |v |v |_ |_ |_ |_<;>first |exact bE h |skip
 ·rcases kc with _ |_ |_ |_ |_ |_ |_ |_<;>first |exact bE h |exact wpAny_Constant_none (.id a.bH rfl)
 ·rcases kc with _ |_ |_ |_ |_ |_ |_ |_<;>first |exact bE h | (cases XF h;exact wpAny_Constant_bool (.id a.bH rfl))
 ·rcases kc with _ |_ |_ |_ |_ |_ |_ |_<;>first |exact bE h | (cases XF h;exact wpAny_Constant_int (.jM a.bH))
 ·rcases kc with _ |_ |_ |_ |_ |_ |_ |_<;>first |exact bE h | (cases XF h;exact wpAny_Constant_str (.t9 a.bH))
theorem Ik{k:Int}(q:Q (.int (-k) (s.toks+1)) {s with toks:=s.toks+1+1}):w.wp (eval (.UnaryOp .USub (.Constant (.int k) kd p) p') w.aE) Q s:=by
 rw[arm_eval_UnaryOp]
 exact Xq (wpAny_Constant_int (Xq (Yh (XR (PyProof.Rows.neg_int q)))))
theorem aq{v:V}:Ev d (n+1) (.c v) ρ σ v σ:=λw O e c=>(Yw c).elim
 (λc=>An (M:=bj w ρ σ v σ) c λk kd p c=>fb rfl trivial (OU c))
 λc=>Ap (M:=bj w ρ σ v σ) c λo y p c=>oV (M:=λo=>bj w ρ σ v σ (.UnaryOp o y p)) (bV c).1 (An (M:=λy=>bj w ρ σ v σ (.UnaryOp .USub y p)) (bV c).2 λk kd p2 c=>fb rfl trivial λs μ a=>by
  rcases v with _ |_ |m |_ |_ |_ |_ |_<;>first |exact bE c |skip
  rcases k with _ |_ |j |_ |_ |_ |_ |_<;>first |exact bE c |skip
  obtain rfl:m= -j:=XF c
  exact Ik (.jM a.bH))
section
variable {l r1 r2:Expr}{op op2:pC}
theorem Fo{u:Value}{o:CmpOp}{r:Sem Value}:compareChain p u [o] [r]=(do
  let rv<-holding [u] r
  standAt p
  operate [u,rv] (compareOp o u rv)):=rfl
theorem Kv{u:Value}{o:CmpOp}{r:Sem Value}:testChain p u [o] [r]=(do
  let rv<-holding [u] r
  standAt p
  let c<-operate [u,rv] (compareOp o u rv)
  holding [c] (truthy c)):=rfl
theorem cc2{u:Value}{o:CmpOp}{r r2:Sem Value}:compareChain p u [o,o2] [r,r2]=(do
  let rv<-holding [u] r
  standAt p
  let c<-holding [u,rv] (compareOp o u rv)
  release [u,rv] [c]
  if<-holding [c,rv] (truthy c)then compareChain p rv [o2] [r2]else pure c):=rfl
theorem tc2{u:Value}{o:CmpOp}{r r2:Sem Value}:testChain p u [o,o2] [r,r2]=(do
  let rv<-holding [u] r
  standAt p
  let c<-holding [u,rv] (compareOp o u rv)
  release [u,rv] [c]
  if<-holding [c,rv] (truthy c)then testChain p rv [o2] [r2]else pure false):=rfl
theorem ck.Lj(O:Ok w d)(hl:ck w ρ σ l x σ₁)(hr:ck w ρ σ₁ r1 y σ₂)(hm:behindInMarks (fO op) r1=false)(hc:gX σ₂ op x y=some t)(hd:dI op x):ck w ρ σ (.Compare l [fO op] [r1] p) (.b t) σ₂:=λs μ a=>by
 rw[arm_eval_Compare]
 refine hl.ie a λu s₁ m₁ a₁ e₁ ru=>?_
 refine(?_:w.wp (compareChain p u [fO op] [markedBehindIn (fO op) r1 (eval r1 w.aE)]) _ s₁)
 rw[markedBehindIn_of_false hm,Fo]
 exact Xq (XR (hr.to a₁ λv s₂ m₂ a₂ e₂ rv=>Xq (Yh (wpAny_operating (lB (e₁.d0 e₂) (sk O.V0.We a₂.bH (ru.cE e₂.bJ) rv hc hd))))))
theorem mc.NS(O:Ok w d)(hl:ck w ρ σ l x σ₁)(hr:ck w ρ σ₁ r1 y σ₂)(hm:behindInMarks (fO op) r1=false)(hc:gX σ₂ op x y=some t)(hd:dI op x):mc w ρ σ (.Compare l [fO op] [r1] p) t σ₂:=λs μ a=>by
 rw[arm_isTrue_Compare]
 refine hl.ie a λu s₁ m₁ a₁ e₁ ru=>?_
 refine(?_:w.wp (testChain p u [fO op] [markedBehindIn (fO op) r1 (eval r1 w.aE)]) _ s₁)
 rw[markedBehindIn_of_false hm,Kv]
 refine Xq (XR (hr.to a₁ λv s₂ m₂ a₂ e₂ rv=>Xq (Yh (Xq (wpAny_operating ((sk O.V0.We a₂.bH (ru.cE e₂.bJ) rv hc hd).bZ λx s₃ r=>?_))))))
 obtain⟨rfl,hb⟩:=r.rQ
 exact XR (YT (hb.zz (e₁.d0 e₂)))
theorem aY{a b:Ex}{u:V}(h:Ev d n a ρ σ u σ₁)(h2:Ev d n b ρ σ₁ y σ₂)(hc:gX σ₂ op u y=some r)(hd:dI op u):Ev d (n+1) (.p op a b) ρ σ (.b r) σ₂:=λw O e c=>
 FR (M:=bj w ρ σ (.b r) σ₂) c λl os rs p c=>sy (M:=λos=>bj w ρ σ (.b r) σ₂ (.Compare l os rs p)) c λo c=>sy (M:=λrs=>bj w ρ σ (.b r) σ₂ (.Compare l [o] rs p)) c λg c=>
  oV (M:=λo=>behindInMarks o g=false->bj w ρ σ (.b r) σ₂ (.Compare l [o] [g] p)) (eQ c).1 (λm=>⟨.Lj O (h w O _ (eQ c).2.1).ev (h2 w O _ (eQ c).2.2.1).ev m hc hd,λb q=>ut q▸.NS O (h w O _ (eQ c).2.1).ev (h2 w O _ (eQ c).2.2.1).ev m hc hd,trivial⟩) (i7 (eQ c).2.2.2)
theorem K6(O:Ok w d)(hl:ck w ρ σ l x σ₁)(h1:ck w ρ σ₁ r1 y σ₂)(hc:gX σ₂ op x y=some true)(hd:dI op x)(h2:ck w ρ σ₂ r2 z σ₃)(hm:behindInMarks (fO op2) r2=false)(hc2:gX σ₃ op2 y z=some r)(hd2:dI op2 y):bj w ρ σ (.b r) σ₃ (.Compare l [fO op,fO op2] [r1,r2] p):=
 ⟨λs μ a=>by
  rw[arm_eval_Compare]
  refine hl.ie a λu s₁ m₁ a₁ e₁ ru=>?_
  refine(?_:w.wp (compareChain p u [fO op,fO op2] [eval r1 w.aE,markedBehindIn (fO op2) r2 (eval r2 w.aE)]) _ s₁)
  rw[markedBehindIn_of_false hm,cc2]
  refine Xq (XR (h1.to a₁ λv s₂ m₂ a₂ e₂ rv=>Xq (Yh (Xq (XR ((sk O.V0.We a₂.bH (ru.cE e₂.bJ) rv hc hd).bZ λx s₃ r=>?_))))))
  obtain⟨m₃,e₃,q⟩:=r
  obtain rfl:x=.bool true:=q
  have a₃:=a₂.gT e₃
  refine Xq (wpAny_release (Xq (XR (YT ?_))))
  rw[Xz rfl,Fo]
  exact Xq (XR (h2.to a₃ λv s₄ m₄ a₄ e₄ rw'=>Xq (Yh (wpAny_operating (lB (((e₁.d0 e₂).d0 e₃).d0 e₄) (sk O.V0.We a₄.bH ((rv.cE e₃.bJ).cE e₄.bJ) rw' hc2 hd2)))))),
 λb q s μ a=>by
  cases ut q
  rw[arm_isTrue_Compare]
  refine hl.ie a λu s₁ m₁ a₁ e₁ ru=>?_
  refine(?_:w.wp (testChain p u [fO op,fO op2] [eval r1 w.aE,markedBehindIn (fO op2) r2 (eval r2 w.aE)]) _ s₁)
  rw[markedBehindIn_of_false hm,tc2]
  refine Xq (XR (h1.to a₁ λv s₂ m₂ a₂ e₂ rv=>Xq (Yh (Xq (XR ((sk O.V0.We a₂.bH (ru.cE e₂.bJ) rv hc hd).bZ λx s₃ r=>?_))))))
  obtain⟨m₃,e₃,q⟩:=r
  obtain rfl:x=.bool true:=q
  have a₃:=a₂.gT e₃
  refine Xq (wpAny_release (Xq (XR (YT ?_))))
  rw[Xz rfl,Kv]
  refine Xq (XR (h2.to a₃ λv s₄ m₄ a₄ e₄ rw'=>Xq (Yh (Xq (wpAny_operating ((sk O.V0.We a₄.bH ((rv.cE e₃.bJ).cE e₄.bJ) rw' hc2 hd2).bZ λx s₅ r=>?_))))))
  obtain⟨rfl,hb⟩:=r.rQ
  exact XR (YT (hb.zz (((e₁.d0 e₂).d0 e₃).d0 e₄))),
 trivial⟩
theorem Lh{a b c:Ex}(h:Ev d n a ρ σ x σ₁)(h2:Ev d n b ρ σ₁ y σ₂)(hc:gX σ₂ op x y=some true)(hd:dI op x)(h3:Ev d n c ρ σ₂ z σ₃)(hc2:gX σ₃ op2 y z=some r)(hd2:dI op2 y):Ev d (n+1) (.q op op2 a b c) ρ σ (.b r) σ₃:=λw O e k=>
 FR (M:=bj w ρ σ (.b r) σ₃) k λl os rs p k=>Aq (M:=λos=>bj w ρ σ (.b r) σ₃ (.Compare l os rs p)) k λo o2 k=>Aq (M:=λrs=>bj w ρ σ (.b r) σ₃ (.Compare l [o,o2] rs p)) k λg g2 k=>by
  refine xS (ux k) λk1 k2 k3 k4 k5 k6=>?_
  cases XF k1;cases XF k2
  exact K6 O (h w O _ k3).ev (h2 w O _ k4).ev hc hd (h3 w O _ k5).ev (i7 k6) hc2 hd2
end
theorem ck.Dn(ht:mc w ρ σ t' t σ₁)(h:ck w ρ σ₁ (if t then a' else b') x σ₂):ck w ρ σ (.IfExp t' a' b' p) x σ₂:=λs μ a=>by
 rw[arm_eval_IfExp]
 refine Xq (ht.to a λs₁ m₁ a₁ e₁=>lB e₁ ?_)
 rcases t with _ |_
 ·exact h _ _ a₁
 ·exact h _ _ a₁
theorem mc.ER(ht:mc w ρ σ t' t σ₁)(h:mc w ρ σ₁ (if t then a' else b') b σ₂):mc w ρ σ (.IfExp t' a' b' p) b σ₂:=λs μ a=>by
 rw[arm_isTrue_IfExp]
 refine Xq (ht.to a λs₁ m₁ a₁ e₁=>zA e₁ ?_)
 rcases t with _ |_
 ·exact h _ _ a₁
 ·exact h _ _ a₁
theorem jD{c a b:Ex}(h:Ev d n c ρ σ (.b true) σ₁)(h2:Ev d n a ρ σ₁ x σ₂):Ev d (n+1) (.f c a b) ρ σ x σ₂:=λw O e k=>
 FT (M:=bj w ρ σ x σ₂) k λ_ _ _ _ k=>⟨.Dn ((h w O _ (cM k).1).V8 _ rfl) (h2 w O _ (cM k).2.1).ev,λ_ q=>.ER ((h w O _ (cM k).1).V8 _ rfl) ((h2 w O _ (cM k).2.1).V8 _ q),trivial⟩
theorem jh{c a b:Ex}(h:Ev d n c ρ σ (.b false) σ₁)(h2:Ev d n b ρ σ₁ x σ₂):Ev d (n+1) (.f c a b) ρ σ x σ₂:=λw O e k=>
 FT (M:=bj w ρ σ x σ₂) k λ_ _ _ _ k=>⟨.Dn ((h w O _ (cM k).1).V8 _ rfl) (h2 w O _ (cM k).2.2).ev,λ_ q=>.ER ((h w O _ (cM k).1).V8 _ rfl) ((h2 w O _ (cM k).2.2).V8 _ q),trivial⟩
theorem tN{a:Ex}(h:Ev d n a ρ σ (.b r) σ₁):Ev d (n+1) (.j a) ρ σ (.b (!r)) σ₁:=λw O e c=>
 Ap (M:=bj w ρ σ (.b (!r)) σ₁) c λo y p c=>oV (M:=λo=>bj w ρ σ (.b (!r)) σ₁ (.UnaryOp o y p)) (bV c).1 ⟨λs μ a=>by
  rw[arm_eval_UnaryOp]
  refine(h w O y (bV c).2).ev.ie a λv s₁ m₁ a₁ e₁ r=>Xq (Yh (XR ?_))
  refine ba (R1.rQ ⟨m₁,e₁,r⟩) λq0 q=>?_;subst q0
  exact Xq (YT (Xu ⟨m₁,e₁,rfl⟩)),λb q s μ a=>ut q▸wpAny_isTrue_Not (((h w O y (bV c).2).V8 _ rfl).to a λs₁ m₁ a₁ e₁=>⟨rfl,m₁,e₁⟩),trivial⟩
noncomputable def nR(o:BoolOp):Bool:=match o with | .And=>false | .Or=>true
theorem Fg{o:BoolOp}:eval (.BoolOp o (e1::e2::es) p) w.aE=(do
   let v<-eval e1 w.aE
   standAt p
   let t<-holding [v] (truthy v)
   match o,t with
   | .And,false | .Or,true=>pure v
   |_,_=>boolOp p o (evalEach (e2::es) w.aE)):=rfl
theorem bj.K3{o:BoolOp}(h:bj w ρ σ (.b (nR o)) σ₁ e1):bj w ρ σ (.b (nR o)) σ₁ (.BoolOp o (e1::e2::es) p):=
 ⟨λs μ a=>by
  rw[Fg]
  refine h.ev.ie a λv s₁ m₁ a₁ e₁ r=>Xq (Yh ?_)
  refine ba (R1.rQ ⟨m₁,e₁,r⟩) λq0 q=>?_;subst q0
  refine Xq (XR (YT ?_))
  cases o<;>exact Xu ⟨m₁,e₁,r⟩,
 λb q s μ a=>by
  rw[<-ut q,arm_isTrue_BoolOp,arm_allTrue_cons]
  refine Xq ((h.V8 _ rfl).to a λs₁ m₁ a₁ e₁=>?_)
  cases o<;>exact Xu ⟨rfl,m₁,e₁⟩,
 trivial⟩
theorem bj.go{o:BoolOp}(h:bj w ρ σ (.b (!nR o)) σ₁ e1)(h2:bj w ρ σ₁ x σ₂ (.BoolOp o (e2::es) p)):bj w ρ σ x σ₂ (.BoolOp o (e1::e2::es) p):=
 ⟨λs μ a=>by
  rw[Fg]
  refine h.ev.ie a λv s₁ m₁ a₁ e₁ r=>Xq (Yh ?_)
  refine ba (R1.rQ ⟨m₁,e₁,r⟩) λq0 q=>?_;subst q0
  refine Xq (XR (YT (lB e₁ ?_)))
  cases o<;>exact h2.ev _ _ a₁,
 λb q s μ a=>by
  have k:=λs μ a=>h2.V8 b q s μ a
  rw[arm_isTrue_BoolOp,arm_allTrue_cons]
  refine Xq ((h.V8 _ rfl).to a λs₁ m₁ a₁ e₁=>zA e₁ ?_)
  have k:=k _ _ a₁
  rw[arm_isTrue_BoolOp]at k
  cases o<;>exact k,
 trivial⟩
theorem bj.K0{o:BoolOp}(h:bj w ρ σ (.b r) σ₁ e1):bj w ρ σ (.b r) σ₁ (.BoolOp o [e1] p):=
 ⟨λs μ a=>h.ev s μ a,λb q s μ a=>by
  rw[<-ut q,arm_isTrue_BoolOp,arm_allTrue_cons]
  refine Xq ((h.V8 _ rfl).to a λs₁ m₁ a₁ e₁=>?_)
  cases o<;>cases r<;>exact Xu ⟨rfl,m₁,e₁⟩,
 trivial⟩
theorem z9{o:BoolOp}{xs:List Ex}{e:Expr}{f:Expr->Ex->Bool}(h:(np e λo' es=>o'==o&&cx f es xs)=true)(y:∀es p,cx f es xs=true->M (.BoolOp o es p)):M e:=
 Pl (M:=M) h λo' es p h=>oV (M:=λo=>M (.BoolOp o es p)) (bV h).1 (y es p (bV h).2)
theorem Fs{o:BoolOp}{a:Ex}{e:Expr}{f:Expr->Ex->Bool}(c:(np e λo' es=>o'==o&&cx f es [a])=true)(h:∀e,f e a=true->bj w ρ σ (.b r) σ₁ e):bj w ρ σ (.b r) σ₁ e:=
 z9 (M:=bj w ρ σ (.b r) σ₁) c λes p c=>iL (M:=λes=>bj w ρ σ (.b r) σ₁ (.BoolOp o es p)) c λe1 es c c2=>kD (M:=λes=>bj w ρ σ (.b r) σ₁ (.BoolOp o (e1::es) p)) c2 (h e1 c).K0
theorem Fv{o:BoolOp}{a b:Ex}{xs:List Ex}{e:Expr}{f:Expr->Ex->Bool}(c:(np e λo' es=>o'==o&&cx f es (a::b::xs))=true)(h:∀e,f e a=true->bj w ρ σ (.b (nR o)) σ₁ e):bj w ρ σ (.b (nR o)) σ₁ e:=
 z9 (M:=bj w ρ σ (.b (nR o)) σ₁) c λes p c=>iL (M:=λes=>bj w ρ σ (.b (nR o)) σ₁ (.BoolOp o es p)) c λe1 es c c2=>iL (M:=λes=>bj w ρ σ (.b (nR o)) σ₁ (.BoolOp o (e1::es) p)) c2 λe2 es _ _=>(h e1 c).K3
theorem Fu{o:BoolOp}{a b:Ex}{xs:List Ex}{e:Expr}{f:Expr->Ex->Bool}(c:(np e λo' es=>o'==o&&cx f es (a::b::xs))=true)(h:∀e,f e a=true->bj w ρ σ (.b (!nR o)) σ₁ e)(h2:∀es p,cx f es (b::xs)=true->bj w ρ σ₁ x σ₂ (.BoolOp o es p)):bj w ρ σ x σ₂ e:=
 z9 (M:=bj w ρ σ x σ₂) c λes p c=>iL (M:=λes=>bj w ρ σ x σ₂ (.BoolOp o es p)) c λe1 es c c2=>iL (M:=λt=>es=t->bj w ρ σ x σ₂ (.BoolOp o (e1::t) p)) c2 (λe2 es' _ _ q=>(h e1 c).go (h2 _ p (q▸c2))) rfl
theorem Ev.yM{a:Ex}(h:Ev d n a ρ σ (.b r) σ₁):Ev d (n+1) (.n [a]) ρ σ (.b r) σ₁:=λw O e c=>Fs c (h w O)
theorem tO{a:Ex}(h:Ev d n a ρ σ (.b r) σ₁):Ev d (n+1) (.r [a]) ρ σ (.b r) σ₁:=λw O e c=>Fs c (h w O)
theorem lL{a b:Ex}{es:List Ex}(h:Ev d n a ρ σ (.b false) σ₁):Ev d (n+1) (.n (a::b::es)) ρ σ (.b false) σ₁:=λw O e c=>Fv (o:=.And) c (h w O)
theorem Dm{a b:Ex}{es:List Ex}(h:Ev d n a ρ σ (.b true) σ₁):Ev d (n+1) (.r (a::b::es)) ρ σ (.b true) σ₁:=λw O e c=>Fv (o:=.Or) c (h w O)
theorem Ft{o:BoolOp}{xs:List Ex}{f:Expr->Ex->Bool}(h:cx f es xs=true):(np (.BoolOp o es p) λo' es=>o'==o&&cx f es xs)=true:=Zk ⟨beq_self_eq_true o,h⟩
theorem Ev.rp{a b:Ex}{es:List Ex}(h:Ev d n a ρ σ (.b true) σ₁)(h2:Ev d (n+1) (.n (b::es)) ρ σ₁ (.b r) σ₂):Ev d (n+1) (.n (a::b::es)) ρ σ (.b r) σ₂:=λw O e c=>Fu (o:=.And) c (h w O) λes p c=>h2 w O _ (Ft (o:=.And) (p:=p) c)
theorem rq{a b:Ex}{es:List Ex}(h:Ev d n a ρ σ (.b false) σ₁)(h2:Ev d (n+1) (.r (b::es)) ρ σ₁ (.b r) σ₂):Ev d (n+1) (.r (a::b::es)) ρ σ (.b r) σ₂:=λw O e c=>Fu (o:=.Or) c (h w O) λes p c=>h2 w O _ (Ft (o:=.Or) (p:=p) c)
theorem j9{a b:Ex}(h:Ev d n a ρ σ (.b true) σ₁)(h2:Ev d n b ρ σ₁ (.b r) σ₂):Ev d (n+1) (.n [a,b]) ρ σ (.b r) σ₂:=.rp h (.yM h2)
end
set_option backward.match.sparseCases false
inductive RL(Z:Cx)(s:Shared)(μ:List Addr)(xs:List V)(σ':aj)(vs:List Value)(s':Shared):Prop
 |mk (μ':List Addr) (st:br Z s μ s' μ' σ') (r:aR Z.KN.aF s'.heap μ' xs vs)
structure jl(w:Wh)(ρ:aA)(σ:aj)(xs:List V)(σ':aj)(es:List Expr):Prop where
 yS:es.length=xs.length
 yT:es.all (!fv ·)=true
 ev:∀s μ p,At w ρ s μ σ->w.wp (spliced (backTo p (starEach es w.aE))) (RL w.Vr s μ xs σ') s
noncomputable def ac(d n:Nat)(es:List Ex)(ρ:aA)(σ:aj)(vs:List V)(σ':aj):Prop:=∀w,Ok w d->∀es',cx (cg w.Vr.KN n w.VR) es' es=true->jl w ρ σ vs σ' es'
noncomputable def Es(Z:Cx)(s:Shared)(μ:List Addr)(v:V)(σ':aj)(r:Result)(s':Shared):Prop:=match r with
 | .ok (.ret u)=>R1 Z s μ v σ' u s'
 |_=>False
noncomputable def aL(d k:Nat)(args:List V)(σ:aj)(v:V)(σ':aj):Prop:=∀(Z:Cx) (A:Around) (s:Shared) (μ:List Addr) (vs:List Value),rE Z->ud d A->aU Z s.heap μ σ->aR Z.KN.aF s.heap μ args vs->
 codeAny (model Z.bK Z.VP) A (.call (.ref (Z.KN.fn k)) ⟨vs,[]⟩) (Es Z s μ v σ') s
section
variable {w:Wh}{s:Shared}{x y z u v:V}{xs vs:List V}{b t r:Bool}{d n i k m:Nat}{c:Sc}{p:Pos}{es:List Ex}{e o a:Ex}
theorem uB:∀e x,cg L n c e x=true->(!fv e)=true:=by
 intro e x h
 cases hs:fv e with
 |false=>rfl
 |true=>
  cases e<;>first |exact bE hs |skip
  cases n with
  |zero=>exact h
  |succ n=>cases x<;>exact bE h
theorem qY{e:Expr}(h:(!fv e)=true)(rest:List Expr)(env:PySem.Env):starEach (e::rest) env=(false,eval e env)::starEach rest env:=by
 cases e<;>first |rfl |exact bE h
theorem ac.an:ac d n [] ρ σ [] σ:=λw O es c=>kD (M:=jl w ρ σ [] σ) c ⟨rfl,rfl,λs μ p a=>Xu ⟨_,.oK a.bH,rfl⟩⟩
theorem jl.Ll{e:Expr}{es:List Expr}(hs:(!fv e)=true)(h:ck w ρ σ e x σ₁)(h2:jl w ρ σ₁ xs σ₂ es):jl w ρ σ (x::xs) σ₂ (e::es):=⟨XB (· +1) h2.yS,by rw[YU,hs,h2.yT];rfl,λs μ p a=>by
 rw[qY hs]
 exact spliced_cons (h.to a λv s₁ m₁ a₁ e₁ r=>(h2.ev _ _ p a₁).bZ λvs s₂ q=>q.casesOn λm₂ e₂ q=>⟨m₂,e₁.d0 e₂,v,vs,rfl,r.cE e₂.bJ,q⟩)⟩
theorem ac.ah(h:Ev d n e ρ σ x σ₁)(h2:ac d n es ρ σ₁ xs σ₂):ac d n (e::es) ρ σ (x::xs) σ₂:=λw O es' c=>
 iL (M:=jl w ρ σ (x::xs) σ₂) c λe1 es' c c2=>.Ll (uB e1 e c) (h w O e1 c).ev (h2 w O es' c2)
theorem Xo(h:Ev d n e ρ σ x σ₁):ac d n [e] ρ σ [x] σ₁:=ac.ah h ac.an
theorem jl.to{es:List Expr}(h:jl w ρ σ xs σ₁ es)(a:At w ρ s μ σ){Q:List Value->Shared->Prop}(k:∀vs s' μ',At w ρ s' μ' σ₁->br w.Vr s μ s' μ' σ₁->aR w.Vr.KN.aF s'.heap μ' xs vs->Q vs s'):w.wp (spliced (backTo p (starEach es w.aE))) Q s:=
 (h.ev s μ p a).bZ λvs s' r=>r.casesOn λm st r=>k vs s' m (a.gT st) st r
theorem bI(h:ac d n es ρ σ xs σ₁):Ev d (n+1) (.t es) ρ σ (.t xs) σ₁:=λw O e c=>
 qq (M:=bj w ρ σ (.t xs) σ₁) c λes' k p c=>fb rfl trivial λs μ a=>by
  have q:=h w O _ (bV c).1
  rw[arm_eval_Tuple]
  refine Xq (Yh (Xq (q.to a λvs s₁ m₁ a₁ e₁ r=>?_)))
  exact Zu ((BK (t:=s₁.toks) a₁.bH r).t8 e₁) (lI r (Xs (Yd q.yS.symm) (Xs (XX (bV c).2) (by decide))))
theorem du(h:ac d n es ρ σ xs σ₁):Ev d (n+1) (.d es) ρ σ (.r σ₁.length) (σ₁++[.l xs]):=λw O e c=>
 Pn (M:=bj w ρ σ (.r σ₁.length) (σ₁++[.l xs])) c λes' p c=>fb rfl trivial λs μ a=>by
  have q:=h w O _ (bV c).1
  rw[arm_eval_List]
  refine Xq (Yh (Xq (q.to a λvs s₁ m₁ a₁ e₁ r=>?_)))
  exact Zu ((uZ (t:=s₁.toks) a₁.bH r).t8 e₁) (lI r (Xs (Yd q.yS.symm) (Xs (XX (bV c).2) (by decide))))
theorem bX{b:Ex}(h:Ev d n a ρ σ u σ₁)(h2:Ev d n b ρ σ₁ y σ₂)(q:Pr (kC op u y σ₂) z σ₃):Ev d (n+1) (.i op a b) ρ σ z σ₃:=λw O e c=>
 Pk (M:=bj w ρ σ z σ₃) c λl o r p c=>oV (M:=λo=>bj w ρ σ z σ₃ (.BinOp l o r p)) (cM c).1 (fb rfl trivial λs μ a=>by
  rw[arm_eval_BinOp]
  exact(h w O _ (cM c).2.1).ev.ie a λv s₁ m₁ a₁ e₁ r1=>Xq (XR ((h2 w O _ (cM c).2.2).ev.to a₁ λu s₂ m₂ a₂ e₂ r2=>Xq (Yh (wpAny_operating (lB (e₁.d0 e₂) (q _ _ _ _ _ _ a₂.bH (r1.cE e₂.bJ) r2)))))))
theorem Ko{o':Expr}{v i:Value}(hT:pM s v)(hsub:∃ops,subscripted sl false v i=operate ops (getItem v i))(h:w.wp (getItem v i) Q s):
  w.wp (do let r<-subscripted sl (<-getitemInPython v) v i;letTemporaryGo o' v r;pure r) Q s:=by
 refine dY hT ?_;clear hT;intro T id hT1 hT2
 refine aT hsub ?_;clear hsub;intro ops hsub
 rw[getitemInPython_of_ne hT1.not_modules]
 refine Xq (Xq (wpAny_specialOf hT1 hT2 (Xu ?_)))
 rw[hsub]
 exact Xq (wpAny_operating (h.bZ λr s₃ h₃=>Xq (wpAny_letTemporaryGo (Xu h₃))))
theorem UT{v i:Value}(h:(!Bp sl)=true):∃ops,subscripted sl false v i=operate ops (getItem v i):=by
 cases sl<;>first |exact fB _ rfl |exact bE h
theorem bi{b:Ex}(h:Ev d n a ρ σ u σ₁)(h2:Ev d n b ρ σ₁ y σ₂)(q:Pr (nT u y σ₂) v σ₃):Ev d (n+1) (.s a b) ρ σ v σ₃:=λw O e c=>
 qp (M:=bj w ρ σ v σ₃) c λo' i' p c=>fb rfl trivial λs μ a=>by
  rw[arm_eval_Subscript]
  refine(h w O _ (cM c).1).ev.ie a λov s₁ m₁ a₁ e₁ r1=>Xq (XR ((h2 w O _ (cM c).2.1).ev.to a₁ λiv s₂ m₂ a₂ e₂ r2=>Xq (Yh ?_)))
  have k:=q _ _ _ _ _ _ O.V0.We a₂.bH (r1.cE e₂.bJ) r2
  exact Ko k.1 (UT (cM c).2.2) (lB (e₁.d0 e₂) k.2)
theorem Ut(I:aU Z s.heap μ σ)(l u st:Value):br Z s μ {s with heap:=s.heap.push {cls:=.type "slice",data:=.fields #[l,u,st]}} μ σ:=iH I (λb o hb=>XO _ hb) s.toks
theorem CO{o':Expr}{l u st:Value}(a:At w ρ s μ σ₂)(ro:aS w.Vr.KN.aF s.heap μ x ov)(e:br w.Vr s₀ μ₀ s μ σ₂)(hsub:∀v i,∃ops,subscripted sl false v i=operate ops (getItem v i))
  (q:∀(s':Shared) (sl:Addr),br w.Vr s μ s' μ σ₂->s'.heap.IsSliceOf sl l u st->pM s' ov/\w.wp (getItem ov (.ref sl)) (R1 w.Vr s' μ v σ₃) s'):
  w.wp (do let r<-subscripted sl (<-getitemInPython ov) ov (.ref s.heap.objs.size);letTemporaryGo o' ov r;pure r) (R1 w.Vr s₀ μ₀ v σ₃) {s with heap:=s.heap.push {cls:=.type "slice",data:=.fields #[l,u,st]}}:=
 have st':=Ut a.bH l u st
 have k:=q _ _ st' (Heap.IsSliceOf.new _ _ _ _)
 Ko k.1 (hsub _ _) (lB (e.d0 st') k.2)
theorem ji{b:Ex}(h:Ev d n a ρ σ u σ₁)(h2:Ev d n b ρ σ₁ y σ₂)(q:Pr (tw u (some y) Option.none σ₂) v σ₃):Ev d (n+1) (.e a (some b) Option.none) ρ σ v σ₃:=λw O e c=>
 qp (M:=bj w ρ σ v σ₃) c λo' i' p c=>Ao (M:=λi'=>bj w ρ σ v σ₃ (.Subscript o' i' p)) c λl hi st p' c=>by
  refine cO (cM c) λc0 c1 c2=>?_
  refine cO (cM c2) λ_ c3 c4=>?_
  refine qt (M:=λst=>bj w ρ σ v σ₃ (.Subscript o' (.Slice l hi st p') p)) c0 (qt (M:=λhi=>bj w ρ σ v σ₃ (.Subscript o' (.Slice l hi none p') p)) c3 (m7 (M:=λl=>bj w ρ σ v σ₃ (.Subscript o' (.Slice l none none p') p)) c4 λl c5=>fb rfl trivial λs μ a=>?_))
  rw[arm_eval_Subscript]
  refine(h w O _ c1).ev.ie a λov s₁ m₁ a₁ e₁ r1=>Xq (XR (wpAny_Slice ((h2 w O _ c5).ev.to a₁ λiv s₂ m₂ a₂ e₂ r2=>Xu (Xu (Xq (Yh ?_))))))
  exact CO a₂ (r1.cE e₂.bJ) (e₁.d0 e₂) (λ_ _=>⟨_,rfl⟩) λs' sl st hs=>q _ _ _ _ _ _ _ _ st.eN ((r1.cE e₂.bJ).cE st.bJ) (r2.cE st.bJ) rfl hs
theorem yP{b:Ex}(h:Ev d n a ρ σ u σ₁)(h2:Ev d n b ρ σ₁ y σ₂)(q:Pr (tw u Option.none (some y) σ₂) v σ₃):Ev d (n+1) (.e a Option.none (some b)) ρ σ v σ₃:=λw O e c=>
 qp (M:=bj w ρ σ v σ₃) c λo' i' p c=>Ao (M:=λi'=>bj w ρ σ v σ₃ (.Subscript o' i' p)) c λl hi st p' c=>by
  refine cO (cM c) λc0 c1 c2=>?_
  refine ba (bV c2) λc3 c4=>?_
  refine qt (M:=λst=>bj w ρ σ v σ₃ (.Subscript o' (.Slice l hi st p') p)) c0 (qt (M:=λl=>bj w ρ σ v σ₃ (.Subscript o' (.Slice l hi none p') p)) c3 (m7 (M:=λhi=>bj w ρ σ v σ₃ (.Subscript o' (.Slice none hi none p') p)) c4 λhi c5=>fb rfl trivial λs μ a=>?_))
  rw[arm_eval_Subscript]
  refine(h w O _ c1).ev.ie a λov s₁ m₁ a₁ e₁ r1=>Xq (XR (wpAny_Slice (Xu ((h2 w O _ c5).ev.to a₁ λiv s₂ m₂ a₂ e₂ r2=>Xu (Xq (Yh ?_))))))
  exact CO a₂ (r1.cE e₂.bJ) (e₁.d0 e₂) (λ_ _=>⟨_,rfl⟩) λs' sl st hs=>q _ _ _ _ _ _ _ _ st.eN ((r1.cE e₂.bJ).cE st.bJ) rfl (r2.cE st.bJ) hs
theorem yO(h:Ev d n a ρ σ u σ₁)(q:Pr (J2 u σ₁) v σ₃):Ev d (n+1) (.k a) ρ σ v σ₃:=λw O e c=>
 qp (M:=bj w ρ σ v σ₃) c λo' i' p c=>Ao (M:=λi'=>bj w ρ σ v σ₃ (.Subscript o' i' p)) c λl hi st p' c=>by
  refine kN (eQ c) λc0 c1 c2 c3=>?_
  refine qt (M:=λl=>bj w ρ σ v σ₃ (.Subscript o' (.Slice l hi st p') p)) c0 (qt (M:=λhi=>bj w ρ σ v σ₃ (.Subscript o' (.Slice none hi st p') p)) c1 (m7 (M:=λst=>bj w ρ σ v σ₃ (.Subscript o' (.Slice none none st p') p)) c3 λz c4=>
   Ap (M:=λz=>bj w ρ σ v σ₃ (.Subscript o' (.Slice none none (some z) p') p)) c4 λuo y p3 c5=>oV (M:=λuo=>bj w ρ σ v σ₃ (.Subscript o' (.Slice none none (some (.UnaryOp uo y p3)) p') p)) (bV c5).1
    (An (M:=λy=>bj w ρ σ v σ₃ (.Subscript o' (.Slice none none (some (.UnaryOp .USub y p3)) p') p)) (bV c5).2 λk kd p4 c6=>fb rfl trivial λs μ a=>?_)))
  rcases k with _ |_ |j |_ |_ |_ |_ |_<;>first |exact bE c6 |skip
  cases XF c6
  rw[arm_eval_Subscript]
  refine(h w O _ c2).ev.ie a λov s₁ m₁ a₁ e₁ r1=>Xq (XR (wpAny_Slice (Xu (Xu ?_))))
  refine Ik (w:=w) (Xq (Yh ?_))
  have t:=br.ED a₁.bH (s₁.toks+1+1)
  exact CO (a₁.gT t) (r1.cE t.bJ) (e₁.d0 t) (λ_ _=>⟨_,rfl⟩) λs' sl st hs=>q _ _ _ _ _ _ _ st.eN ((r1.cE t.bJ).cE st.bJ) hs
theorem Fd{o:Expr}(h:sU o=true)(attr:Str)(env:PySem.Env)(whole:Sem Value):attributeBase o attr env whole=whole:=by
 cases o with
 |Call f as ks p=>cases f with
  |Name id q=>cases as with
   |nil=>cases ks with
    |nil=>exact bE h
    |cons _ _=>rfl
   |cons _ _=>rfl
  |_=>rfl
 |_=>rfl
theorem dw{x:Nat}{fs:List (Nat×V)}(h:Ev d n o ρ σ (.o c' x) σ₁)(hc:fE c' m=true)(ha:σ₁[x]? =some (.a c' fs))(hg:cA fs m=some v):Ev d (n+1) (.a m o) ρ σ v σ₁:=λw O e c=>
 uE (M:=bj w ρ σ v σ₁) c λo' m' p c=>oV (M:=λm'=>bj w ρ σ v σ₁ (.Attribute o' m' p)) (cM c).1 (fb rfl trivial λs μ a=>by
  rw[arm_eval_Attribute,Fd (cM c).2.2]
  exact(h w O _ (cM c).2.1).ev.ie a λov s₁ m₁ a₁ e₁ r1=>Xq (Yh (Xq (XR ((Os O.VW.rF O.VW.Wb a₁.bH r1 hc ha hg).bZ λr s₂ h₂=>Xq (wpAny_letTemporaryGo (Xu (h₂.t8 e₁))))))))
theorem sI{e:Expr}{v:Value}(h:jY L c e v=true)(y:∀id p,jy L.VQ id=some v->c.dD.lookup id=some .globalImplicit->(id==("__debug__":Str))=false->uU L.VQ v=true->M (.Name id p)):M e:=
 oU (M:=M) h λid p h=>y id p (XF (eQ h).1) (XF (eQ h).2.1) (i7 (eQ h).2.2.1) (eQ h).2.2.2
theorem IU{es:List Expr}(h:es.all (!fv ·)=true)(env:PySem.Env):(backTo p (starEach es env)).any (·.1)=false:=by
 induction es with
 |nil=>rfl
 |cons e es ih=>
  rw[YU,YJ]at h
  rw[qY h.1]
  exact ih h.2
theorem w4{K:Frag}{g:Value}{es:List Expr}(X:K.In s.heap)(hk:uU K g=true)(hst:es.all (!fv ·)=true)
  (h:wpAny (model Z.bK Z.VP) A (spliced (backTo p (starEach es env))) (λvs s₁=>K.In s₁.heap/\wpAny (model Z.bK Z.VP) A (call g (first++vs)) Q E s₁) E s):
  wpAny (model Z.bK Z.VP) A (callWith p g first (backTo p (starEach es env)) []) Q E s:=by
 have ev:wpAny (model Z.bK Z.VP) A (evalArgs g true (backTo p (starEach es env)) []) (λa s₁=>K.In s₁.heap/\wpAny (model Z.bK Z.VP) A (call g (first++a.pos) a.kw) Q E s₁) E s:=by
  cases es with
  |nil=>
   unfold evalArgs
   refine(?_:wpAny _ A (spliced []>>=_) _ E s)
   exact Xq (wpAny_mono h (λvs s' h'=>Xq (Xu (XR (Xq (Xu (Xq (Xu (Xu h')))))))) λ_ _ x=>x)
  |cons e es=>
   rw[YU,YJ]at hst
   rw[qY hst.1]at h ⊢
   exact evalArgs_plain h
 have hp:=IU (p:=p) hst env
 cases g with
 |builtin id=>exact Calls.callWith_builtin hp (wpAny_mono ev (λa s₁ h₁=>h₁.2) λ_ _ x=>x)
 |type T=>exact PySem.callWith_type hp (wpAny_mono ev (λa s₁ h₁=>h₁.2) λ_ _ x=>x)
 |_=>exact callWith_of (P:=λh=>K.In h) (by rw[hp];rfl) (keeps_K hk) ev
theorem jl.Dr(O:Ok w d){es:List Expr}(h:jl w ρ σ xs σ₁ es)(a:At w ρ s μ σ){g:Value}(hk:uU w.Vr.KN.VQ g=true)
  (q:∀vs s₁ μ₁,At w ρ s₁ μ₁ σ₁->br w.Vr s μ s₁ μ₁ σ₁->aR w.Vr.KN.aF s₁.heap μ₁ xs vs->w.wp (PySem.call g (first++vs)) Q s₁):w.wp (callWith p g first (backTo p (starEach es w.aE)) []) Q s:=
 w4 (O.VW.Wb.keeps a.bH.dM) hk h.yT (h.to a λvs s₁ m₁ a₁ e₁ r=>⟨O.VW.Wb.keeps a₁.bH.dM,q vs s₁ m₁ a₁ e₁ r⟩)
theorem jl.Ds(O:Ok w d){f:Expr}{es:List Expr}{g:Value}(hf:jY w.Vr.KN w.VR f g=true)(h:jl w ρ σ xs σ₁ es)(a:At w ρ s μ σ)(q:∀vs s₁ μ₁,At w ρ s₁ μ₁ σ₁->br w.Vr s μ s₁ μ₁ σ₁->aR w.Vr.KN.aF s₁.heap μ₁ xs vs->w.wp (PySem.call g vs) Q s₁):w.wp (eval (.Call f es [] p) w.aE) Q s:=
 sI (M:=λf=>w.wp (eval (.Call f es [] p) w.aE) Q s) hf λid p' g1 g2 g3 g4=>by
  refine(?_:w.wp (do callWith p (<-eval (.Name id p') w.aE) [] (backTo p (starEach es w.aE)) []) _ s)
  exact Xq (sR O a.bH g1 g2 g3 (h.Dr (first:=[]) O a g4 q))
theorem yQ(O:Ok w d){f:Expr}{es:List Expr}{g:Value}(hf:jY w.Vr.KN w.VR f g=true)(h:jl w ρ σ xs σ₁ es)(q:∀s μ vs,aU w.Vr s.heap μ σ₁->aR w.Vr.KN.aF s.heap μ xs vs->w.wp (PySem.call g vs) (R1 w.Vr s μ v σ₂) s):ck w ρ σ (.Call f es [] p) v σ₂:=λs μ a=>
 h.Ds O hf a λvs s₁ m₁ a₁ e₁ r=>lB e₁ (q s₁ m₁ vs a₁.bH r)
theorem Ue(h:Rm d A):ud d A:=⟨h.1,Xs (YC (by decide) _) h.2.1,Xs (YC (by decide) _) h.2.2⟩
theorem aL.Er(h:aL d k xs σ v σ')(G:rE Z)(R:Rm d A)(I:aU Z s.heap μ σ){vs:List Value}(r:aR Z.KN.aF s.heap μ xs vs):Wp Z A (PySem.call (.ref (Z.KN.fn k)) vs) (R1 Z s μ v σ') s:=
 wpAny_call (YY (h Z A s μ vs G (Ue R) I r) λr s₁ h₁=>by
  rcases r with f |f
  ·exact h₁.elim
  ·cases f<;>first |exact h₁ |exact h₁.elim)
theorem qr{e:Expr}{g:Value}(h:(jX e λf es ks p=>ks.isEmpty&&jY L c f g&&f2 es)=true)(y:∀f es p,jY L c f g=true->f2 es=true->M (.Call f es [] p)):M e:=
 FQ (M:=M) h λf es ks p h=>xj (M:=λks=>M (.Call f es ks p)) (cM h).1 (y f es p (cM h).2.1 (cM h).2.2)
theorem cw(h:ac d n es ρ σ vs σ₁)(q:aL d k vs σ₁ v σ₂):Ev d (n+1) (.l k es) ρ σ v σ₂:=λw O e c=>
 qr (M:=bj w ρ σ v σ₂) c λf es p c1 c2=>fb rfl trivial (yQ O c1 (h w O es c2) λs μ vs I r=>q.Er O.VW O.V0 I r)
noncomputable def Bl.KZ(b:Bl):Bool:=match b with | .S=>false | .r=>false |_=>true
theorem ci{bl:Bl}(hb:bl.KZ=true)(h:ac d n es ρ σ vs σ₁)(q:Pr (il bl vs σ₁) v σ₂):Ev d (n+1) (.b bl es) ρ σ v σ₂:=λw O e c=>by
 refine qr (g:=z5 bl) (f2:=λes'=>cx (cg w.Vr.KN n w.VR) es' es) (M:=bj w ρ σ v σ₂) ?_ λf es p c1 c2=>fb rfl trivial (yQ O c1 (h w O es c2) λs μ vs I r=>q _ _ _ _ _ O.VW.rG O.V0.We I r)
 rcases bl with _ |_ |_ |_ |_ |_ |_ |_ |_ |_ |_ |_<;>first |exact c |exact bE hb
theorem Dl(h:Ev d n a ρ σ x σ₁)(q:Bq x σ₁ r):Ev d (n+1) (.b .S [a]) ρ σ (.b r) σ₁:=λw O e c=>
 qr (M:=bj w ρ σ (.b r) σ₁) c λf es p c1 c2=>Aq (M:=λes=>bj w ρ σ (.b r) σ₁ (.Call f es [] p)) c2 λe1 e2 c2=>fb rfl trivial λs μ b=>by
  refine ba (bV c2) λc3 c4=>?_
  have s2:(!fv e2)=true:=sI (M:=λe=>(!fv e)=true) c4 λ_ _ _ _ _ _=>rfl
  refine sI (M:=λf=>w.wp (eval (.Call f [e1,e2] [] p) w.aE) (R1 w.Vr s μ (.b r) σ₁) s) c1 λid p' g1 g2 g3 g4=>?_
  refine(?_:w.wp (do callWith p (<-eval (.Name id p') w.aE) [] (backTo p (starEach [e1,e2] w.aE)) []) _ s)
  refine Xq (sR O b.bH g1 g2 g3 (w4 (first:=[]) (O.VW.Wb.keeps b.bH.dM) g4 (by rw[YU,uB e1 a c3,YU,s2];rfl) ?_))
  rw[qY (uB e1 a c3),qY s2]
  refine spliced_cons ((h w O e1 c3).ev.to b λv s₁ m₁ a₁ e₁ r1=>spliced_cons (sI (M:=λe2=>w.wp (eval e2 w.aE) _ s₁) c4 λid2 p2 k1 k2 k3 k4=>sR O a₁.bH k1 k2 k3 (spliced_nil ⟨O.VW.Wb.keeps a₁.bH.dM,lB e₁ (q _ _ _ _ _ a₁.bH r1)⟩)))
theorem Li(h:Ev d n a ρ σ x σ₁)(q:Kg x σ₁ y σ₂):Ev d (n+1) (.b .r [a]) ρ σ y σ₂:=λw O e c=>
 qr (M:=bj w ρ σ y σ₂) c λf es p c1 c2=>sy (M:=λes=>bj w ρ σ y σ₂ (.Call f es [] p)) c2 λe1 c2=>fb rfl trivial λs μ b=>by
  refine qr (M:=λe1=>w.wp (eval (.Call f [e1] [] p) w.aE) (R1 w.Vr s μ y σ₂) s) c2 λg gs p2 c3 c4=>sy (M:=λgs=>w.wp (eval (.Call f [.Call g gs [] p2] [] p) w.aE) (R1 w.Vr s μ y σ₂) s) c4 λe2 c5=>?_
  refine sI (M:=λf=>w.wp (eval (.Call f [.Call g [e2] [] p2] [] p) w.aE) (R1 w.Vr s μ y σ₂) s) c1 λid p' g1 g2 g3 g4=>?_
  refine(?_:w.wp (do callWith p (<-eval (.Name id p') w.aE) [] (backTo p (starEach [.Call g [e2] [] p2] w.aE)) []) _ s)
  refine Xq (sR O b.bH g1 g2 g3 (w4 (first:=[]) (O.VW.Wb.keeps b.bH.dM) g4 rfl ?_))
  rw[qY rfl]
  refine spliced_cons (sI (M:=λg=>w.wp (eval (.Call g [e2] [] p2) w.aE) _ s) c3 λid2 p3 k1 k2 k3 k4=>?_)
  refine(?_:w.wp (do callWith p2 (<-eval (.Name id2 p3) w.aE) [] (backTo p2 (starEach [e2] w.aE)) []) _ s)
  refine Xq (sR O b.bH k1 k2 k3 (w4 (first:=[]) (O.VW.Wb.keeps b.bH.dM) k4 (by rw[YU,uB e2 a c5];rfl) ?_))
  rw[qY (uB e2 a c5)]
  exact spliced_cons ((h w O e2 c5).ev.to b λv s₁ m₁ a₁ e₁ r1=>spliced_nil ⟨O.VW.Wb.keeps a₁.bH.dM,(q _ _ _ _ _ O.V0.We a₁.bH r1).bZ λsv s₂ k=>spliced_nil ⟨O.VW.Wb.keeps k.1,Wp.bZ k.2 λ_ _ r=>r.t8 e₁⟩⟩)
end
section
variable {w:Wh}{s:Shared}{x y z u v:V}{xs vs:List V}{b t r:Bool}{d n i k m:Nat}{c:Sc}{p:Pos}{es:List Ex}{e o a:Ex}
noncomputable def ou(Z:Cx)(A:Around)(s:Shared)(ov:Value)(nm:Str)(f:Value):Prop:=∀(pl:Sem Bool) (Q:Value×List Value->Shared->Prop),Q (f,[ov]) s->Wp Z A (getMethod ov nm pl) Q s
theorem ou.at{nm nm':Str}{f:Value}{f':Value}(e:nm=nm')(g:f=f')(h:ou Z A s ov nm' f'):ou Z A s ov nm f:=by rw[e,g];exact h
theorem UM(X:j' Z.KN){q:List Nat}{t:Tok}(h:mj 4 m=true):ou Z A s (.str (bp q) t) (Z.KN.ct m) (.builtin (o9 4 m)):=by
 have hT:=typeIs_str s (bp q) t
 have hd:∀a,Value.str (bp q) t=.ref a->∃o,s.heap.get? a=some o/\o.dict=none:=λ_ e=>Value.noConfusion e
 obtain⟨-,-,-,-,-,b5,b6,b7,b8⟩:=X.bn
 obtain h |h:=Yw h
 ·obtain h |h:=Yw h
  ·obtain h |h:=Yw h
   ·cases XF h;exact .at (f':=.builtin "str.strip") b7 rfl λpl Q hq=>by with_reducible exact Zf hT PySem.F.plainAttrs_str PySem.F.slot_str_strip PySem.F.type_str_strip hd hq
   ·cases XF h;exact .at (f':=.builtin "str.isspace") b8 rfl λpl Q hq=>by with_reducible exact Zf hT PySem.F.plainAttrs_str PySem.F.slot_str_isspace PySem.F.type_str_isspace hd hq
  ·cases XF h;exact .at (f':=.builtin "str.join") b5 rfl λpl Q hq=>by with_reducible exact Zf hT PySem.F.plainAttrs_str PySem.F.slot_str_join PySem.F.type_str_join hd hq
 ·cases XF h;exact .at (f':=.builtin "str.count") b6 rfl λpl Q hq=>by with_reducible exact Zf hT PySem.F.plainAttrs_str PySem.F.slot_str_count PySem.F.type_str_count hd hq
theorem Q1(X:j' Z.KN){x:Addr}{vs:Array Value}(ho:s.heap.get? x=some {cls:=.type "list",data:=.seq vs n})(h:mj 1 m=true):ou Z A s (.ref x) (Z.KN.ct m) (.builtin (o9 1 m)):=by
 have hT:s.TypeIs (.ref x) "list":=⟨_,ho,rfl⟩
 have hd:∀a,Value.ref x=.ref a->∃o,s.heap.get? a=some o/\o.dict=none:=λa e=>by cases e;exact aC _ ho rfl
 obtain⟨b0,b1,b2,-⟩:=X.bn
 obtain h |h:=Yw h
 ·obtain h |h:=Yw h
  ·cases XF h;exact .at (f':=.builtin "list.append") b0 rfl λpl Q hq=>by with_reducible exact Zf hT PySem.F.plainAttrs_list PySem.F.slot_list_append PySem.F.type_list_append hd hq
  ·cases XF h;exact .at (f':=.builtin "list.extend") b1 rfl λpl Q hq=>by with_reducible exact Zf hT PySem.F.plainAttrs_list PySem.F.slot_list_extend PySem.F.type_list_extend hd hq
 ·cases XF h;exact .at (f':=.builtin "list.pop") b2 rfl λpl Q hq=>by with_reducible exact Zf hT PySem.F.plainAttrs_list PySem.F.slot_list_pop PySem.F.type_list_pop hd hq
theorem Af(X:j' Z.KN){x:Addr}(ho:s.heap.get? x=some ob)(hx:ob.ExactDict)(h:mj 2 m=true):ou Z A s (.ref x) (Z.KN.ct m) (.builtin (o9 2 m)):=by
 have hT:s.TypeIs (.ref x) "dict":=⟨_,ho,hx.1⟩
 have hd:∀a,Value.ref x=.ref a->∃o,s.heap.get? a=some o/\o.dict=none:=λa e=>by cases e;exact aC _ ho hx.2.1
 obtain⟨-,-,b2,b3,b4,-⟩:=X.bn
 obtain h |h:=Yw h
 ·obtain h |h:=Yw h
  ·cases XF h;exact .at (f':=.builtin "dict.get") b3 rfl λpl Q hq=>by with_reducible exact Zf hT PySem.F.plainAttrs_dict PySem.F.slot_dict_get PySem.F.type_dict_get hd hq
  ·cases XF h;exact .at (f':=.builtin "dict.setdefault") b4 rfl λpl Q hq=>by with_reducible exact Zf hT PySem.F.plainAttrs_dict PySem.F.slot_dict_setdefault PySem.F.type_dict_setdefault hd hq
 ·cases XF h;exact .at (f':=.builtin "dict.pop") b2 rfl λpl Q hq=>by with_reducible exact Zf hT PySem.F.plainAttrs_dict PySem.F.slot_dict_pop PySem.F.type_dict_pop hd hq
theorem Rh(X:j' Z.KN)(I:aU Z s.heap μ σ)(r:aS Z.KN.aF s.heap μ u ov)(h:mj (iw σ u) m=true):ou Z A s ov (Z.KN.ct m) (.builtin (o9 (iw σ u) m)):=by
 rcases u with _ |_ |_ |q |_ |a |_ |_<;>first |exact bE h |skip
 ·refine aT r ?_;clear r;intro t q1;subst q1
  exact UM X h
 ·refine az r ?_;clear r;intro x hx q2;subst q2
  rcases hs:σ[a]? with _ |o
  ·rw[show iw σ (.r a)=0 from XB (Option.elim · 0 sO) hs]at h;exact bE h
  ·have ro:=I.fU a x _ hx hs
   rcases o with xs |es |es |es |_ |_ |_
   ·rw[uX hs]at h ⊢
    refine dY ro ?_;clear ro;intro vs n ho _
    exact Q1 X ho h
   ·rw[qD hs rfl]at h ⊢
    refine az ro ?_;clear ro;intro _ nn0 _;refine nC nn0 ?_;clear nn0;intro _ _ _ ho hx _
    exact Af X ho hx h
   ·rw[qD hs rfl]at h ⊢
    refine az ro ?_;clear ro;intro _ nn0 _;refine nC nn0 ?_;clear nn0;intro _ _ _ ho hx _
    exact Af X ho hx h
   ·rw[qD hs rfl]at h ⊢
    refine az ro ?_;clear ro;intro _ nn0 _;refine nC nn0 ?_;clear nn0;intro _ _ _ ho hx _
    exact Af X ho hx h
   all_goals rw[show iw σ (.r a)=0 from XB (Option.elim · 0 sO) hs]at h;exact bE h
theorem Ri{es:List Expr}(hst:es.all (!fv ·)=true)(hl:es.length < 30)(env:PySem.Env):methodCallForm (es.length+([]:List Keyword).length) (backTo p (starEach es env)) (backToKw p (keywordEach [] env))=true:=by
 unfold methodCallForm
 rw[show(backTo p (starEach es env)).all (!·.1)=true from List.all_eq_true.mpr λx hx=>(Bool.not_eq_true' _).mpr (Bool.eq_false_iff.mpr (List.any_eq_false.mp (IU (p:=p) hst env) x hx))]
 exact Zk ⟨Zk ⟨rfl,rfl⟩,XT hl⟩
theorem ck.Do(O:Ok w d){o':Expr}{ap:Pos}{es:List Expr}{f:Value}(hs:sU o'=true)(hp:(ap.endLine==p.line)=true)(hl:es.length < 30)(hk:uU w.Vr.KN.VQ f=true)(h:ck w ρ σ o' u σ₁)(h2:jl w ρ σ₁ xs σ₂ es)
  (ask:∀s μ ov,aU w.Vr s.heap μ σ₁->aS w.Vr.KN.aF s.heap μ u ov->ou w.Vr w.V1 s ov (w.Vr.KN.ct m) f)
  (q:∀s μ ov vs,aU w.Vr s.heap μ σ₂->aS w.Vr.KN.aF s.heap μ u ov->aR w.Vr.KN.aF s.heap μ xs vs->w.wp (PySem.call f (ov::vs)) (R1 w.Vr s μ v σ₃) s):ck w ρ σ (.Call (.Attribute o' (w.Vr.KN.ct m) ap) es [] p) v σ₃:=λs μ a=>by
 rw[arm_eval_Call,Fd hs]
 refine h.ie a λov s₁ m₁ a₁ e₁ r₁=>Xq (Yh ?_)
 unfold methodCall
 rw[Ri h2.yT hl,show methodCallPos true o' w.aE ap p=pure p by unfold methodCallPos;rw[hp];rfl]
 unfold calleeOf
 rw[Xz rfl]
 exact Xq (XR (ask _ _ _ a₁.bH r₁ _ _ (Xq (Xu (h2.Dr (first:=[ov]) O a₁ hk λvs s₂ m₂ a₂ e₂ r₂=>lB (e₁.d0 e₂) (q s₂ m₂ ov vs a₂.bH (r₁.cE e₂.bJ) r₂))))))
theorem FV{e:Expr}{g:Expr->Bool}(h:(jX e λf es ks p=>sH f λo' m' ap=>ks.isEmpty&&m'==L.ct m&&g o'&&f2 es&&sU o'&&ap.endLine==p.line&&decide (es.length < 30))=true)
  (y:∀o' ap es p,g o'=true->f2 es=true->sU o'=true->(ap.endLine==p.line)=true->es.length < 30->M (.Call (.Attribute o' (L.ct m) ap) es [] p)):M e:=
 FQ (M:=M) h λf es ks p h=>uE (M:=λf=>M (.Call f es ks p)) h λo' m' ap h=>by
  refine ba (YL h) λh h7=>?_
  refine xS (ux h) λh1 h2 h3 h4 h5 h6=>?_
  cases XF h2
  cases Zy h1
  exact y o' ap es p h3 h4 h5 h6 (XX h7)
theorem dp(h:Ev d n o ρ σ u σ₁)(hk:mj (iw σ₁ u) m=true)(h2:ac d n es ρ σ₁ vs σ₂)(hk2:iw σ₁ u=iw σ₂ u)(q:Pr (dB m u vs σ₂) v σ₃):Ev d (n+1) (.m m o es) ρ σ v σ₃:=λw O e c=>
 FV (M:=bj w ρ σ v σ₃) c λo' ap es p c1 c2 c3 c4 c5=>fb rfl trivial (.Do O c3 c4 c5 rfl (h w O o' c1).ev (h2 w O es c2) (λs μ ov I r=>Rh O.VW.rF I r hk) λs μ ov vs I r r2=>by
  rw[hk2];exact q _ _ _ _ _ _ O.VW.rG O.V0.We I r r2)
theorem bQ{c x:Nat}{fs:List (Nat×V)}(h:Ev d n o ρ σ (.o c x) σ₁)(ha:σ₁[x]? =some (.a c fs))(hm:yv c m=some k)(h2:ac d n es ρ σ₁ vs σ₂)(q:aL d k (.o c x::vs) σ₂ v σ₃):Ev d (n+1) (.m m o es) ρ σ v σ₃:=λw O e c=>
 FV (M:=bj w ρ σ v σ₃) c λo' ap es p c1 c2 c3 c4 c5=>fb rfl trivial (.Do (f:=.ref (w.Vr.KN.fn k)) O c3 c4 c5 (O.VW.rF.yX _ _ _ hm).MG (h w O o' c1).ev (h2 w O es c2) (λs μ ov I r pl Q hq=>Rj O.VW.rF O.VW.Wb I r hm ha hq) λs μ ov vs I r r2=>
  q.Er O.VW O.V0 I ⟨ov,vs,rfl,r,r2⟩)
theorem Ug(h:Rm d A)(C:Addr)(rest:List Value):ud d (A.under (.builtin "type.__call__" ⟨.ref C::rest,[]⟩)):=by
 have e1:(Code.builtin "type.__call__" ⟨.ref C::rest,[]⟩).weight=1:=by kernel_rfl
 have e2:(Code.builtin "type.__call__" ⟨.ref C::rest,[]⟩).cUnits=1:=by kernel_rfl
 refine cO h ?_;clear h;intro h1 h2 h3
 refine fA h1 ?_ ?_
 ·show A.depth+Code.weight _+3 * d+7<=900
  rw[e1];lia
 ·show A.units+Code.cUnits _+20 * d+1080<=cLine
  rw[e2];lia
theorem Q9(c:Nat)(I:aU Z s.heap μ σ):∃μ',br Z s μ {s with heap:=(s.heap.push emptyDict).push (instObj (Z.KN.aF.VS c) s.heap.objs.size)} μ' (σ++[.a c []])/\
  aS Z.KN.aF ((s.heap.push emptyDict).push (instObj (Z.KN.aF.VS c) s.heap.objs.size)) μ' (.o c σ.length) (.ref (s.heap.objs.size+1)):=by
 have hd:((s.heap.push emptyDict).push (instObj (Z.KN.aF.VS c) s.heap.objs.size)).get? s.heap.objs.size=some (dictOf [] 0):=XO _ (Yg _ rfl)
 have hx:((s.heap.push emptyDict).push (instObj (Z.KN.aF.VS c) s.heap.objs.size)).get? (s.heap.objs.size+1)=some (instObj (Z.KN.aF.VS c) s.heap.objs.size):=by
  have:=Yg (s.heap.push emptyDict) (o:=instObj (Z.KN.aF.VS c) s.heap.objs.size) rfl
  rwa [Y7]at this
 refine ba (I.DL (h':=(s.heap.push emptyDict).push (instObj (Z.KN.aF.VS c) s.heap.objs.size)) (x:=s.heap.objs.size) (o:=.a c []) (mz (Xx _)) (λb o hb=>XO _ (XO _ hb)) ⟨_,hd⟩ (λe=>⟨[],0,hd,.d8⟩) (λxs q=>O.noConfusion q) (λq=>bE q)) λI' e=>?_
 refine⟨μ++[s.heap.objs.size],⟨⟨rfl,rfl,rfl⟩,I',e⟩,_,s.heap.objs.size,by rw[<-I.eu,YR (Xx _),Nat.sub_self];rfl,rfl,λhm=>?_,hx⟩
 rcases XM hm with h1 |h1
 ·refine aT (I.iU _ h1) λo ho=>?_
  exact absurd (Ys ho) (Zj (Yp s.heap.objs.size))
 ·exact absurd (XG h1) (Nat.succ_ne_self s.heap.objs.size)
theorem aL.Nk{c:Nat}(h:aL d k (.o c σ.length::xs) (σ++[.a c []]) .n σ₂)(hi:CW c=some k)(G:rE Z)(R:Rm d A)(I:aU Z s.heap μ σ)(r:aR Z.KN.aF s.heap μ xs vals):
  Wp Z A (PySem.call (.ref (Z.KN.aF.VS c)) vals) (R1 Z s μ (.o c σ.length) σ₂) s:=by
 have f:=G.rF.Dw _ _ hi
 obtain⟨hh,g,dd,t,os⟩:=s
 have X:Z.KN.VQ.In hh:=G.Wb.keeps I.dM
 refine az (Q9 (s:=⟨hh,g,dd,t,os⟩) c I) λm₁ st rO=>?_
 refine wpAny_call (make_core (makes_of X f.Mq) (looks_findIn X f.Mp) (λself=>bind_fn X self f.Mr) (.inl rfl) (YY (h Z _ ⟨_,g,dd,t,os⟩ _ (.ref (hh.objs.size+1)::vals) G (Ug R _ _) st.eN ⟨_,_,rfl,rO,r.li st.bJ⟩) λrr s₁ h₁=>?_))
 rcases rr with f |f
 ·exact h₁.elim
 ·cases f<;>first |exact h₁.elim |skip
  obtain⟨m₂,st₂,rv⟩:=h₁
  exact⟨rv,m₂,st.d0 st₂,aS.cE st₂.bJ _ rO⟩
theorem tM{c:Nat}(h:ac d n es ρ σ vs σ₁)(hi:CW c=some k)(q:aL d k (.o c σ₁.length::vs) (σ₁++[.a c []]) .n σ₂):Ev d (n+1) (.w c es) ρ σ (.o c σ₁.length) σ₂:=λw O e k=>
 qr (M:=bj w ρ σ (.o c σ₁.length) σ₂) k λf es p c1 c2=>fb rfl trivial (yQ O c1 (h w O es c2) λs μ vs I r=>q.Nk hi O.VW O.V0 I r)
end
noncomputable abbrev PR(cl:dO)(h:Heap)(μ:List Addr)(p:V×V)(q:Value×Value):Prop:=aS cl h μ p.1 q.1/\aS cl h μ p.2 q.2
inductive PL(Z:Cx)(s:Shared)(μ:List Addr)(ps:List (V×V))(σ':aj)(qs:List (Value×Value))(s':Shared):Prop
 |mk (μ':List Addr) (st:br Z s μ s' μ' σ') (r:F2 (PR Z.KN.aF s'.heap μ') ps qs)
noncomputable def Ce(env:PySem.Env)(pos:Pos)(p:Expr×Expr):Sem Value×Sem Value:=(eval p.1 env,do let x<-eval p.2 env;standAt pos;pure x)
noncomputable def rA(w:Wh)(ρ:aA)(σ:aj)(ps:List (V×V))(σ':aj)(es:List (Expr×Expr)):Prop:=∀s μ p,At w ρ s μ σ->w.wp (evalPairs (es.map (Ce w.aE p))) (PL w.Vr s μ ps σ') s
structure rB(w:Wh)(ρ:aA)(σ:aj)(vs:List (V×V))(σ':aj)(m:Nat)(ks:List (Option Expr))(xs:List Expr):Prop where
 Dq:∃ps:List (Expr×Expr),ks=ps.map (some ·.1)/\xs=ps.map (·.2)/\ps.length=m/\rA w ρ σ vs σ' ps
noncomputable def jk(d n:Nat)(es:List (Ex×Ex))(ρ:aA)(σ:aj)(vs:List (V×V))(σ':aj):Prop:=∀w,Ok w d->∀ks xs,cx (Fr (cg w.Vr.KN n w.VR)) ks es=true->cx (λv p=>cg w.Vr.KN n w.VR v p.2) xs es=true->rB w ρ σ vs σ' es.length ks xs
noncomputable def DK.WM:DK->O
 | .i=>.d []
 | .s=>.s []
 | .t=>.t []
noncomputable abbrev mA:Obj:={cls:=.type "dict",data:=.dict #[]}
section
variable {w:Wh}{s:Shared}{μ₁:List Addr}{x y z u v:V}{d n i k m:Nat}{p:Pos}{e c:Ex}{h:Heap}
theorem yR:jk d n [] ρ σ [] σ:=λw O ks xs c1 c2=>kD (M:=λks=>rB w ρ σ [] σ 0 ks xs) c1 (kD (M:=rB w ρ σ [] σ 0 []) c2 ⟨[],rfl,rfl,rfl,λs μ p a=>Xu ⟨_,.oK a.bH,.d8⟩⟩)
theorem rA.Lk{es:List (Expr×Expr)}{vs:List (V×V)}(h:ck w ρ σ e1 u σ₁)(h2:ck w ρ σ₁ e2 v σ₂)(h3:rA w ρ σ₂ vs σ₃ es):rA w ρ σ ((u,v)::vs) σ₃ ((e1,e2)::es):=λs μ p a=>by
 refine(?_:w.wp (do
   let kv<-eval e1 w.aE
   let vv<-holding [kv] (do let x<-eval e2 w.aE;standAt p;pure x)
   return(kv,vv)::(<-holding [kv,vv] (evalPairs (es.map (Ce w.aE p))))) _ s)
 exact h.ie a λkv s₁ m₁ a₁ e₁ r₁=>Xq (XR (h2.ie a₁ λvv s₂ m₂ a₂ e₂ r₂=>Xq (Yh (Xu (Xq (XR (Wp.bZ (h3 _ _ p a₂) λqs s₃ r=>r.casesOn λm₃ e₃ r=>
  Xu ⟨m₃,(e₁.d0 e₂).d0 e₃,.eJ ⟨(r₁.cE e₂.bJ).cE e₃.bJ,r₂.cE e₃.bJ⟩ r⟩)))))))
theorem tP{es:List (Ex×Ex)}{vs:List (V×V)}(h:Ev d n e ρ σ u σ₁)(h2:Ev d n c ρ σ₁ v σ₂)(h3:jk d n es ρ σ₂ vs σ₃):jk d n ((e,c)::es) ρ σ ((u,v)::vs) σ₃:=λw O ks xs c1 c2=>
 iL (M:=λks=>rB w ρ σ ((u,v)::vs) σ₃ (es.length+1) ks xs) c1 λk ks d1 d2=>iL (M:=rB w ρ σ ((u,v)::vs) σ₃ (es.length+1) (k::ks)) c2 λx xs d3 d4=>m7 (M:=λk=>rB w ρ σ ((u,v)::vs) σ₃ (es.length+1) (k::ks) (x::xs)) d1 λk d1=>by
  refine hX ((h3 w O ks xs d2 d4).Dq) λps q1 q2 h6 h7=>?_;subst q1;subst q2
  exact⟨(k,x)::ps,rfl,rfl,XB (· +1) h6,.Lk (h w O k d1).ev (h2 w O x d3).ev h7⟩
inductive Lf{κ K:Type}[DecidableEq K](Z:Cx)(knd:KeyKind Z.bK Z.VP K)(h:Heap)(μ:List Addr)(f:κ->K)(mk:List (κ×V)->O)(o:O)(qs:List (Value×Value))(acc:List (K×Value)):Prop
 |mk (kvs:List (K×Value)) (es:List (κ×V)) (hc:Carries knd qs kvs) (e:o=mk es) (r:F2 (ot Z.KN.aF h μ f) es (merged acc kvs))
theorem O6[DecidableEq κ][DecidableEq K]{knd:KeyKind Z.bK Z.VP K}{f:κ->K}(hf:∀a b,f a=f b->a=b){inj:κ->V}{mk:List (κ×V)->O}(h1:∀es w v o,fP (mk es) w v=some o->∃k,w=inj k/\o=mk (eC es k v))(h2:∀k kv,aS Z.KN.aF h μ (inj k) kv->knd.is (f k) kv=true)
  {ps:List (V×V)} {qs:List (Value×Value)} (r:F2 (PR Z.KN.aF h μ) ps qs):∀{es:List (κ×V)} {o:O} {acc:List (K×Value)},sE ps (mk es)=some o->F2 (ot Z.KN.aF h μ f) es acc->Lf Z knd h μ f mk o qs acc:=by
 induction r with
 |d8=>exact λe r=>⟨[],_,trivial,(XA e).symm,r⟩
 | @eJ p q ps qs k t ih=>
  intro es o acc e r
  rw[PU]at e
  rcases hd:fP (mk es) p.1 p.2 with _ |o'
  ·rw[hd]at e;exact bN e
  ·rw[hd]at e
   refine az (h1 _ _ _ _ hd) λj e1 q2=>?_;subst q2
   have k1:=k.1
   rw[e1]at k1
   obtain⟨kvs,es',hc,e2,r2⟩:=ih e (BC hf k.2 r)
   exact⟨(f j,q.2)::kvs,es',⟨h2 j q.1 k1,rfl,hc⟩,e2,r2⟩
theorem FL(S:qe Z.cU)(I:aU Z s.heap μ σ)(st:br Z {s with heap:=s.heap.push mA} μ s₁ μ₁ σ₁)(hg:h'.get? s.heap.objs.size=some ob)(hl:o6 ob=true)(hb:Heap.SameBut s.heap.objs.size s₁.heap h'){o:O}(hi:∀xs,o≠.i xs)
  (hr:dl s₁.heap μ₁ h' (μ₁++[s.heap.objs.size])->dC Z h' (μ₁++[s.heap.objs.size]) σ₁.length s.heap.objs.size o) (t:Nat):R1 Z s μ (.r σ₁.length) (σ₁++[o]) (.ref s.heap.objs.size) {s₁ with heap:=h',toks:=t}:=by
 refine ba (I.eY iB) λf2 f1=>?_
 have hn:(s.heap.push mA).get? s.heap.objs.size=some mA:=Yg _ rfl
 have e1:=st.bJ.iE _ _ hn f2
 have e2:=st.bJ.tR hn f2
 have J:=st.eN.pP e2 f1 (λo ho=>by cases e1.symm.trans ho;rfl) (jB hb)
 have K:=J.1.DN (o:=o) hg hl e2 f1 hi (λe=>hr ⟨λb o hb hm so=>e.lN b o (J.2.lN b o hb hm so) hm so,e.rD,λb hb=>(XM hb).imp id λh1 o ho=>by cases XG h1;cases e1.symm.trans ho;rfl⟩) λ_=>S.NF I
 refine⟨μ₁++[s.heap.objs.size],⟨st.jR,K.1,λb ob hb' hn=>jB hb b ob (XQ (Ys hb')) (st.bJ.iE b ob (XO _ hb') hn),st.bJ.lM.trans (Yk _ _),λb hb'=>?_⟩,_,by rw[<-st.eN.eu,YR (Xx _),Nat.sub_self];rfl,rfl⟩
 rcases XM hb' with h1 |h1
 ·refine(st.bJ.lb b h1).imp id λh2=>?_
  rcases hgb:s.heap.get? b with _ |ob
  ·rfl
  ·exact bN (h2.symm.trans (XO _ hgb))
 ·rw[XG h1];exact .inr iB
theorem RZ{ps:List (Expr×Expr)}:(evalEachOpt (ps.map (some ·.1)) env).zip ((evalEach (ps.map (·.2)) env).map λv=>do let x<-v;standAt p;pure x)=(ps.map (Ce env p)).map λp=>(some p.1,p.2):=by
 induction ps with
 |nil=>rfl
 |cons e es ih=>exact XB (List.cons (some (eval e.1 env),(do let x<-eval e.2 env;standAt p;pure x))) ih
theorem QA:∀(es:List (Int×V)) (w v:V) (o:O),fP (.d es) w v=some o->∃k,w=.i k/\o=.d (eC es k v):=λes w v o e=>by
 rcases w with _ |_ |k |_ |_ |_ |_ |_<;>first |exact bN e |skip
 exact aC k rfl ((XA e).symm)
theorem QB:∀(es:List (List Nat×V)) (w v:V) (o:O),fP (.s es) w v=some o->∃k,w=.s k/\o=.s (eC es k v):=λes w v o e=>by
 rcases w with _ |_ |_ |k |_ |_ |_ |_<;>first |exact bN e |skip
 exact aC k rfl ((XA e).symm)
theorem rA.Dp[DecidableEq κ][DecidableEq K]{knd:KeyKind w.Vr.bK w.Vr.VP K}{f:κ->K}(hf:∀a b,f a=f b->a=b){inj:κ->V}{mk:List (κ×V)->O}(h1:∀es w v o,fP (mk es) w v=some o->∃k,w=inj k/\o=mk (eC es k v))(h2:∀h μ k kv,aS w.Vr.KN.aF h μ (inj k) kv->knd.is (f k) kv=true)
  (h3:∀h μ i D es kvs,h.DictOf knd D kvs->F2 (ot w.Vr.KN.aF h μ f) es kvs->dC w.Vr h μ i D (mk es)) (hi:∀es xs,mk es≠.i xs) (W:Ok w d) {ps:List (Expr×Expr)} {vs:List (V×V)} {o:O} (h0:ps≠[]) (hl:ps.length<=15) (h:rA w ρ σ vs σ₁ ps) (ho:sE vs (mk [])=some o):
  ck w ρ σ (.Dict (ps.map (some ·.1)) (ps.map (·.2)) p) (.r σ₁.length) (σ₁++[o]):=λs μ a=>
 have st₀:br w.Vr s μ {s with heap:=s.heap.push mA} μ σ:=iH a.bH (λb o hb=>XO _ hb) s.toks
 wpAny_Dict_pairs (knd:=knd) RZ (λq=>h0 (List.map_eq_nil_iff.mp q)) (by rw[Xr];exact hl) (Wp.bZ (h _ _ p (a.gT st₀)) λqs s₁ r=>by
  obtain⟨m₁,st,r⟩:=r
  obtain⟨kvs,es,hc,rfl,r2⟩:=O6 (acc:=[]) hf h1 (h2 _ _) r ho .d8
  refine dK kvs hc (⟨_,_,_,st.bJ.iE _ _ (Yg _ rfl) (a.bH.eY iB).1,⟨rfl,rfl,rfl⟩,rfl,λ_ q=>absurd q (Array.not_mem_empty _),.nil,Zc⟩) (λh' hd hb=>?_)
  have hd':=hd
  refine nC hd ?_;clear hd;intro ob _ _ hg hx _
  exact FL W.VW.rG a.bH st hg (by unfold o6;rw[hx.1];rfl) hb (hi es) (λe=>h3 _ _ _ _ _ _ hd' (r2.mM λ_ _ r=>⟨r.1,r.2.extW e⟩)) _)
theorem yN{kd:DK}{es:List (Ex×Ex)}{vs:List (V×V)}{q:Ex×Ex}{o:O}(h:jk d n (q::es) ρ σ vs σ₁)(ho:O7 kd vs=some o):Ev d (n+1) (.g kd (q::es)) ρ σ (.r σ₁.length) (σ₁++[o]):=λw W e k=>
 FS (M:=bj w ρ σ (.r σ₁.length) (σ₁++[o])) k λks xs p k=>fb rfl trivial (by
  refine kN (eQ k) λk1 k2 k3 k4=>?_
  refine hX ((h w W ks xs k1 k2).Dq) λps q1 q2 h6 h7=>?_;subst q1;subst q2
  have h0:ps≠[]:=λe=>by rw[e]at h6;exact Nat.succ_ne_zero _ h6.symm
  have hl:ps.length<=15:=by rw[<-Xr];exact XX k3
  rcases kd with _ |_ |_
  ·exact h7.Dp (knd:=intKind w.Vr.bK w.Vr.VP) (f:=id) (λ_ _ h=>h) QA (λh μ k kv ⟨t,e⟩=>by rw[e];exact intKind_is _ _ k t) (λ_ _ _ _ es kvs h1 h2=>⟨kvs,h1,h2⟩) (λ_ _ q=>O.noConfusion q) W h0 hl ho
  ·exact h7.Dp (knd:=strKind w.Vr.bK w.Vr.VP) (f:=bp) (λ_ _ h=>nS h) QB (λh μ k kv ⟨t,e⟩=>by rw[e];exact strKind_is _ _ _ t) (λ_ _ _ _ es kvs h1 h2=>⟨kvs,h1,h2⟩) (λ_ _ q=>O.noConfusion q) W h0 hl ho
  ·exact bE k4)
theorem BX(S:qe Z.cU)(I:aU Z s.heap μ σ){o:O}(hi:∀xs,o≠.i xs)(h:∀h μ i D,h.get? D=some mA->dC Z h μ i D o):R1 Z s μ (.r σ.length) (σ++[o]) (.ref s.heap.objs.size) {s with heap:=s.heap.push mA}:=
 have hg:(s.heap.push mA).get? s.heap.objs.size=some mA:=Yg _ rfl
 have st:br Z s μ {s with heap:=s.heap.push mA} μ σ:=iH I (λb o hb=>XO _ hb) s.toks
 FL (t:=s.toks) (s₁:={s with heap:=s.heap.push mA}) S I (.oK st.eN) hg rfl (.refl _ _) hi λ_=>h _ _ _ _ hg
theorem pH{kd:DK}:Ev d (n+1) (.g kd []) ρ σ (.r σ.length) (σ++[kd.WM]):=λw W e k=>
 FS (M:=bj w ρ σ (.r σ.length) (σ++[kd.WM])) k λks xs p k=>by
  refine cO (eQ k) λk1 k2 _=>?_
  refine kD (M:=λks=>bj w ρ σ (.r σ.length) (σ++[kd.WM]) (.Dict ks xs p)) k1 (kD (M:=λxs=>bj w ρ σ (.r σ.length) (σ++[kd.WM]) (.Dict [] xs p)) k2 (fb rfl trivial λs μ a=>wpAny_Dict_empty ?_))
  rcases kd with _ |_ |_
  ·exact BX W.VW.rG a.bH (λ_ q=>O.noConfusion q) λh μ i D hg=>⟨[],⟨_,_,_,hg,⟨rfl,rfl,rfl⟩,rfl,λ_ q=>absurd q (Array.not_mem_empty _),.nil,Zc⟩,.d8⟩
  ·exact BX W.VW.rG a.bH (λ_ q=>O.noConfusion q) λh μ i D hg=>⟨[],⟨_,_,_,hg,⟨rfl,rfl,rfl⟩,rfl,λ_ q=>absurd q (Array.not_mem_empty _),.nil,Zc⟩,.d8⟩
  ·exact BX W.VW.rG a.bH (λ_ q=>O.noConfusion q) λh μ i D hg=>⟨[],⟨_,_,_,hg,⟨rfl,rfl,rfl⟩,rfl,rfl,λ_ q=>absurd q Ye,Zc⟩,.d8⟩
end
noncomputable def bA(d n:Nat)(it:It)(ρ:aA)(σ:aj)(S:eM)(σ':aj):Prop:=∀w,Ok w d->∀e,uC w.Vr.KN (cg w.Vr.KN n w.VR) w.VR e it=true->∀s μ,At w ρ s μ σ->w.wp (eval e w.aE) (λx s₁=>w.wp (pyIter x) (jQ w.Vr w.V1 s μ S σ') s₁) s
inductive l9(w:Wh)(fr:List Addr)(ρ':aA)(s:Shared)(μ:List Addr)(σ:aj)(u:Unit)(s':Shared):Prop
 |mk (st:cK w.Vr fr s μ s' μ σ) (e:dl s.heap μ s'.heap μ) (a:At w ρ' s' μ σ)
noncomputable def EK(w:Wh)(fr:List Addr)(loc:Bool)(n:Nat):Prop:=
 ∀(e:Expr) (t:Tg),qo loc n w.VR e t=true->∀(V:V) (ρ ρ':aA) (s:Shared) (μ:List Addr) (σ:aj) (v:Value),fM n t V ρ=some ρ'->At w ρ s μ σ->aS w.Vr.KN.aF s.heap μ V v->w.wp (assign e w.aE v) (l9 w fr ρ' s μ σ) s
noncomputable def q5(env:PySem.Env)(c:Expr)(r:Bool):Sem (ForInStep Bool):=if r=true then do let ok<-isTrue c env (eval c env);pure (ForInStep.yield ok)else pure (ForInStep.yield r)
noncomputable def ej(d n:Nat)(es:List Ex)(ρ:aA)(σ:aj)(r:Bool)(σ':aj):Prop:=∀w,Ok w d->∀es',cx (cg w.Vr.KN n w.VR) es' es=true->∀s μ,At w ρ s μ σ->w.wp (forIn es' true (q5 w.aE)) (RT w.Vr s μ r σ') s
section
variable {w:Wh}{s:Shared}{x y z u v:V}{xs vs:List V}{b t r:Bool}{d n i k m:Nat}{c:Sc}{p:Pos}{es:List Ex}{e o a:Ex}{S:eM}{loc:Bool}
theorem br.rZ(a:br Z s μ s' μ' σ'){b:Addr}(hb:s'.heap.get? b=none):s.heap.get? b=none:=(a.fq []).EG hb
theorem jQ.wL{it:Value}(a:br Z s μ s' μ' σ₁)(h:jQ Z A s' μ' S σ' it s''):jQ Z A s μ S σ' it s'':=by
 obtain⟨I,wr,m,e,st,g,h5,h6,h8,h9⟩:=h
 exact⟨I,wr,m,e,a.d0 st,g,λb hb=>⟨a.rZ (h5 b hb).1,(h5 b hb).2⟩,h6.elim (λq=>.inl (a.rZ q)) λq=>(a.bJ.lb _ q).symm,h8,h9⟩
theorem bA.of(h:Ev d n e ρ σ x σ₁)(k:∀Z A s μ v,Rq A->aU Z s.heap μ σ₁->aS Z.KN.aF s.heap μ x v->Wp Z A (pyIter v) (jQ Z A s μ S σ₁) s):bA d n (.e e) ρ σ S σ₁:=λw O e' c s μ a=>
 (h w O e' (bV c).2).ev.to a λv s₁ m₁ a₁ e₁ r=>Wp.bZ (k _ _ _ _ _ O.V0.We a₁.bH r) λit s₂ q=>q.wL e₁
theorem jK(h:Ev d n e ρ σ (.t xs) σ₁)(hl:aD xs):bA d n (.e e) ρ σ (.bx xs) σ₁:=.of h λZ A s μ v R I r=>UE I r R.Wn
theorem D0{s:List Nat}(h:Ev d n e ρ σ (.s s) σ₁)(hl:aD s):bA d n (.e e) ρ σ (.bx (s.map λc=>.s [c])) σ₁:=.of h λZ A s μ v R I r=>UD I r R.Wn
theorem fe{x:Nat}(h:Ev d n e ρ σ (.r x) σ₁)(hx:σ₁[x]? =some (.l xs))(hl:aD xs):bA d n (.e e) ρ σ (.cr x xs) σ₁:=.of h λZ A s μ v R I r=>UC I r hx
theorem bA.zn{it:It}{g:Value}(hc:∀L c e,uC L (cg L n c) c e it=true->(jX e λf es' ks p=>ks.isEmpty&&jY L c f g&&cx (cg L n c) es' es)=true)(h:ac d n es ρ σ xs σ₁)
  (k:∀Z A s μ vs,Rq A->aU Z s.heap μ σ₁->aR Z.KN.aF s.heap μ xs vs->Wp Z A (PySem.call g vs) (λx s₁=>Wp Z A (pyIter x) (jQ Z A s μ S σ₁) s₁) s):bA d n it ρ σ S σ₁:=λw O e' c s μ a=>
 qr (M:=λe'=>w.wp (eval e' w.aE) (λx s₁=>w.wp (pyIter x) (jQ w.Vr w.V1 s μ S σ₁) s₁) s) (hc _ _ _ c) λf es' p c1 c2=>(h w O es' c2).Ds O c1 a λvs s₁ m₁ a₁ e₁ r=>Wp.bZ (k _ _ _ _ _ O.V0.We a₁.bH r) λx s₂ q=>Wp.bZ q λit s₃ q=>q.wL e₁
theorem pR{j:Int}(h:Ev d n e ρ σ (.i j) σ₁)(h1:j<=aK)(h2:-bY<=j):bA d n (.r [e]) ρ σ (.bx (df 0 j 1)) σ₁:=.zn (λL c e h=>(bV h).2) (.ah h .an) λZ A s μ vs R I r=>
 nF (M:=λvs=>Wp Z A (PySem.call (.type "range") vs) _ s) r λv r1=>by
  refine aT r1 ?_;clear r1;intro t q1;subst q1
  refine call_range_1 ?_
  have st₂:=iH I (h':=s.heap.push {cls:=.type "range",data:=.fields #[.int 0 s.toks,.int j t,.int 1 (s.toks+1)]}) (λb o hb=>XO _ hb) (s.toks+1+1)
  exact Wp.bZ (Ki (s:={s with heap:=s.heap.push {cls:=.type "range",data:=.fields #[.int 0 s.toks,.int j t,.int 1 (s.toks+1)]},toks:=s.toks+1+1}) (A:=A) st₂.eN (IsRange.new _ 0 j 1 s.toks t (s.toks+1)) (by decide) (by decide) ⟨h2,h1⟩ (by decide) R.Wn) λit s₂ q=>q.wL st₂
theorem DZ{j k l:Int}(h:ac d n es ρ σ [.i j,.i k,.i l] σ₁)(h1:0<=j/\j<=aK)(h2:-bY<=k/\k<=aK)(h3:0 < l/\l<=aK):bA d n (.r es) ρ σ (.bx (df j k l)) σ₁:=.zn (λL c e h=>(bV h).2) h λZ A s μ vs R I r=>by
 obtain⟨_,_,rfl,nn0,_,_,rfl,nn1,_,_,rfl,nn2,rfl⟩:=r;refine aT nn0 ?_;clear nn0;intro t1 q1;subst q1;refine aT nn1 ?_;clear nn1;intro t2 q1;subst q1;refine aT nn2 ?_;clear nn2;intro t3 q1;subst q1
 refine call_range_3 (Int.ne_of_gt h3.1) ?_ (.inl (PyProof.noPylong_small (by unfold aK at *;lia)))
 have st₂:=iH I (h':=s.heap.push {cls:=.type "range",data:=.fields #[.int j t1,.int k t2,.int l t3]}) (λb o hb=>XO _ hb) s.toks
 exact Wp.bZ (Ki (s:={s with heap:=s.heap.push {cls:=.type "range",data:=.fields #[.int j t1,.int k t2,.int l t3]},toks:=s.toks}) (A:=A) st₂.eN (IsRange.new _ j k l t1 t2 t3) h3.1 h1 h2 h3.2 R.Wn) λit s₂ q=>q.wL st₂
theorem um.WX{u:Unit}(a:At w ρ s μ σ)(hi:i∈w.VR.dm)(h:um w.Vr fr w.VR w.aE s μ σ (au ρ i v) u s'):l9 w fr (au ρ i v) s μ σ u s':=h.casesOn λst e F=>⟨st,e,st.lA,F,λj x hx=>by
 by_cases q:j=i
 ·exact q▸hi
 ·unfold au at hx;rw[XC q]at hx;exact a.mI j x hx⟩
theorem l9.EJ{u:Unit}{ρ₁:aA}(st:cK w.Vr fr s μ s' μ σ)(e:dl s.heap μ s'.heap μ)(h:l9 w fr ρ₁ s' μ σ u s''):l9 w fr ρ₁ s μ σ u s'':=h.casesOn λst' e' a=>⟨st.jT st',e.Lo e',a⟩
theorem Ak{es:List Expr}(h:es.all (!fv ·)=true):assignEach es env=es.map λe=>(false,assign e env):=by
 induction es with
 |nil=>rfl
 |cons e es ih=>
  rw[YU,YJ]at h
  have ih:=ih h.2
  cases e<;>first |exact bE h.1 | (refine(?_:(_::assignEach es env)=_);rw[ih];rfl)
theorem A4{f:Tg->V->aA->Option aA}(h:fM.go f [] xs ρ=some ρ'):xs=[]/\ρ'=ρ:=by
 rcases xs with _ |_
 ·exact bm rfl ((XA h).symm)
 ·exact bN h
theorem AZ{f:Tg->V->aA->Option aA}{t:Tg}{ts:List Tg}(h:fM.go f (t::ts) xs ρ=some ρ'):∃x ys ρ₁,xs=x::ys/\f t x ρ=some ρ₁/\fM.go f ts ys ρ₁=some ρ':=by
 rcases xs with _ | ⟨x,ys⟩
 ·exact bN h
 ·exact(ZF h).elim λρ₁ q=>BQ x ys ρ₁ rfl q.1 q.2
theorem P9{f:Tg->V->aA->Option aA}{ts:List Tg}:∀{xs:List V} {ρ ρ':aA},fM.go f ts xs ρ=some ρ'->ts.length=xs.length:=by
 induction ts with
 |nil=>exact λh=>(XB List.length (A4 h).1).symm
 |cons t ts ih=>exact λh=>by refine nC (AZ h) λx ys ρ₁ q3 _ h2=>?_;subst q3;exact XB (· +1) (ih h2)
theorem U7(H:EK w fr loc n)(ts:List Tg):∀(es:List Expr),cx (qo loc n w.VR) es ts=true->∀(xs:List V) (ρ ρ':aA) (s:Shared) (vs:List Value),fM.go (fM n) ts xs ρ=some ρ'->At w ρ s μ σ->aR w.Vr.KN.aF s.heap μ xs vs->
  w.wp (assignInOrder ((es.map λe=>(false,assign e w.aE)).map (·.2)) vs) (l9 w fr ρ' s μ σ) s:=by
 induction ts with
 |nil=>
  intro es h xs ρ ρ' s vs hb a r
  refine ba (A4 hb) λq0 q1=>?_;subst q0;subst q1
  obtain rfl:vs=[]:=r
  exact kD (M:=λes=>w.wp (assignInOrder ((es.map λe=>(false,assign e w.aE)).map (·.2)) []) (l9 w fr ρ' s μ σ) s) h (Xu ⟨.wN a.bH fr,(yW _ _).WC,a⟩)
 |cons t ts ih=>
  intro es h xs ρ ρ' s vs hb a r
  refine nC (AZ hb) λx ys ρ₁ q3 h1 h2=>?_;subst q3
  refine cP r ?_;clear r;intro v u q2 r1 r2;subst q2
  exact iL (M:=λes=>w.wp (assignInOrder ((es.map λe=>(false,assign e w.aE)).map (·.2)) (v::u)) (l9 w fr ρ' s μ σ) s) h λe es c1 c2=>wpAny_assignInOrder_more (Wp.bZ (H e t c1 x ρ ρ₁ s μ σ v h1 a r1) λ_ s₁ q=>q.casesOn λst e1 a₁=>
   Wp.bZ (ih es c2 ys ρ₁ ρ' s₁ u h2 a₁ (aR.extW e1 ys r2)) λ_ s₂ q=>q.EJ st e1)
theorem Kw(O:Ok w d)(f1:w.aE.locals∈fr)(f2:∀x a,loc=false->w.aE.kindOf x=some .cell->w.aE.cells.lookup x=some a->a∈fr)(n:Nat):EK w fr loc n:=by
 induction n with
 |zero=>exact λe t h=>bE h
 |succ n ih=>
  intro e t h V ρ ρ' s μ σ v hb a r
  rcases t with i |ts |_ |_
  ·refine oU (M:=λe=>w.wp (assign e w.aE v) (l9 w fr ρ' s μ σ) s) h λid p h=>?_
   refine cO (cM h) λh1 h2 h3=>?_
   obtain rfl:=XA hb
   have hm:=List.contains_iff_mem.mp h1
   exact wpAny_assign_Name (Wp.bZ (a.VZ.y4 (x:=(id,i)) a.bH O.X hm (bne_iff_ne.mp h2) r f1 λd hk hl=>(Yw h3).elim (λh2=>f2 id d (i7 h2) hk hl) λh2=>by
    rw[nw O.X,beq_iff_eq.mp h2]at hk;exact NameKind.noConfusion (XA hk)) λu s' q=>q.WX a (O.X.dm _ hm))
  ·refine qq (M:=λe=>w.wp (assign e w.aE v) (l9 w fr ρ' s μ σ) s) h λes k p h=>?_
   refine ba (bV h) λh1 h2=>?_
   rcases V with _ |_ |_ |_ |xs |_ |_ |_<;>first |exact bN hb |skip
   obtain⟨x,vs,m,rfl,ha,hn,hr⟩:=d6 r
   have hlen:es.length=vs.length:=(w5 h1).trans ((P9 hb).trans hr.length)
   have hae:=Ak (env:=w.aE) h2
   refine wpAny_assign_Tuple O.V0.1 (items:=vs.toArray) ⟨_,ha,rfl,_,rfl⟩ (by rw[hae,Xr];exact hlen) (by rw[hae];exact List.findIdx?_eq_none_iff.mpr λq hq=>by refine az (Yf hq) λe _ q2=>?_;subst q2;rfl) λh' hx=>?_
   have st₀:br w.Vr s μ {s with heap:=h'} μ σ:=iH a.bH (λb o hb=>hx b o (XQ (Ys hb)) hb) s.toks
   rw[hae]
   exact Wp.bZ (U7 ih ts es h1 xs ρ ρ' {s with heap:=h'} vs hb (a.gT st₀) (aR.li st₀.bJ xs hr)) λ_ s' q=>q.EJ (st₀.fq fr) st₀.bJ.WC
  ·exact bE h
  ·exact bE h
theorem ej.oq:ej d n [] ρ σ true σ:=λw O es c s μ a=>kD (M:=λes=>w.wp (forIn es true (q5 w.aE)) (RT w.Vr s μ true σ) s) c (by rw[List.forIn_nil];exact Xu ⟨rfl,μ,.oK a.bH⟩)
theorem ej.W6(h:Ev d n e ρ σ (.b true) σ₁)(h2:ej d n es ρ σ₁ r σ₂):ej d n (e::es) ρ σ r σ₂:=λw O es' c s μ a=>iL (M:=λes=>w.wp (forIn es true (q5 w.aE)) (RT w.Vr s μ r σ₂) s) c λe1 es' c1 c2=>by
 rw[List.forIn_cons]
 exact Xq (Xq (((h w O e1 c1).V8 _ rfl).to a λs₁ m₁ a₁ e₁=>Xu (zA e₁ (h2 w O es' c2 _ _ a₁))))
theorem U4{es:List Expr}{R:Bool->Shared->Prop}(h:R false s):Wp Z A (forIn es false (q5 env)) R s:=by
 induction es with
 |nil=>rw[List.forIn_nil];exact Xu h
 |cons e es ih=>rw[List.forIn_cons];exact Xq (Xu ih)
theorem ej.W5(h:Ev d n e ρ σ (.b false) σ₁):ej d n (e::es) ρ σ false σ₁:=λw O es' c s μ a=>iL (M:=λes=>w.wp (forIn es true (q5 w.aE)) (RT w.Vr s μ false σ₁) s) c λe1 es' c1 c2=>by
 rw[List.forIn_cons]
 exact Xq (Xq (((h w O e1 c1).V8 _ rfl).to a λs₁ m₁ a₁ e₁=>Xu (U4 ⟨rfl,m₁,e₁⟩)))
theorem wm(h:Ev d n e ρ σ (.b r) σ₁):ej d n [e] ρ σ r σ₁:=by
 rcases r with _ |_
 ·exact .W5 h
 ·exact .W6 h .oq
end
noncomputable def oY(env:PySem.Env)(elt:Expr)(gens:List Comprehension)(scope:Scope)(pos:Pos)(D:Addr)(depth:Nat):Sem Unit:=match gens[depth]? with
 |some g'=>do
  let x<-eval g'.iter env
  standAt g'.iter.pos
  let x<-if g'.is_async !=0 then foldedIterable g'.iter x else foldedSetIterable g'.iter env x
  let _<-runOwn (.compStart (.ListComp elt gens scope pos) depth (<-holding [x] (if g'.is_async !=0 then asyncIter x else pyIter x)) (.ref D) env) env
  pure ()
 |none=>(do let _<-call (.builtin "list.append") [.ref D,<-eval elt env]:Sem Unit)
theorem FB{it:Value}{tg:Expr}{ifs:List Expr}(hg:gens[depth]? =some ⟨tg,iter,ifs,0⟩):
  compTurn (.ListComp elt gens scope pos) depth it (.ref D) env=(do
   standAt iter.pos
   match<-pyNext it with
   |none=>pure (.done .next)
   |some v=>
    letOwnedTupleGo tg it v
    assign tg env v
    let ok<-forIn ifs true (q5 env)
    (if ok=true then oY env elt gens scope pos D (depth+1)else pure ())
    again (.compLoop (.ListComp elt gens scope pos) depth it (.ref D) env)):=by
 unfold compTurn oY q5
 simp only[hg,show((0:Int)!=0)=false from rfl,Zv,if_false,bind_assoc,pure_bind]
 refine bind_congr λ_=>bind_congr λr=>?_
 rcases r with _ |v
 ·rfl
 ·simp only
  refine bind_congr λ_=>bind_congr λ_=>bind_congr λok=>?_
  rcases ok with _ |_
  ·simp only[Zv,if_false,pure_bind]
  ·simp only[if_true]
   rcases gens[depth+1]? with _ |g'
   ·simp only[bind_assoc,pure_bind]
   ·simp only[bind_assoc]
    refine bind_congr λx=>bind_congr λ_=>?_
    split<;>simp only[bind_assoc,pure_bind]
structure jg(w:Wh)(D:Addr)(ρ:aA)(pD:List V)(s:Shared)(μ:List Addr)(σ:aj):Prop where
 ia:At w ρ s μ σ
 pD:∃vs n,s.heap.get? D=some (ir vs n)/\aR w.Vr.KN.aF s.heap μ pD vs
 ib:D∉μ/\w.Vr.cU.get? D=none/\D∉dE w.aE
structure v8(w:Wh)(n:Nat)(LV:Ex)(gs:List jo)(elt':Expr)(LW:List Comprehension)(depth:Nat):Prop where
 LV:cg w.Vr.KN n w.VR elt' LV=true
 LW:cx (z8 w.Vr.KN (cg w.Vr.KN n) w.VR w.VR) (LW.drop depth) gs=true
 nd:(nc gs).Nodup
structure zb(w:Wh)(n:Nat)(elt:Ex)(tg:Tg)(ifs:List Ex)(gs:List jo)(elt':Expr)(gens:List Comprehension)(depth:Nat):Prop where
 DT:∃tgE iter ifs',gens[depth]? =some ⟨tgE,iter,ifs',0⟩/\qo true 4 w.VR tgE tg=true/\cx (cg w.Vr.KN n w.VR) ifs' ifs=true
 Mx:v8 w n elt gs elt' gens (depth+1)
 nd:(vG 4 tg++nc gs).Nodup
inductive GR(w:Wh)(D:Addr)(ρ:aA)(acc':List V)(σ':aj)(s:Shared)(μ:List Addr)(s':Shared):Prop
 |mk (μ':List Addr) (st:cK w.Vr [w.aE.locals,D] s μ s' μ' σ') (c:jg w D ρ acc' s' μ' σ')
noncomputable def LR(w:Wh)(D:Addr)(ρ:aA)(acc':List V)(σ':aj)(s:Shared)(μ:List Addr)(r:Result)(s':Shared):Prop:=match r with
 | .ok _=>GR w D ρ acc' σ' s μ s'
 | .error _=>False
noncomputable def jE(d n:Nat)(elt:Ex)(gs:List jo)(ρ:aA)(σ:aj)(acc acc':List V)(σ':aj):Prop:=∀w,Ok w d->∀elt' gens scope pos depth,v8 w n elt gs elt' gens depth->(∀i∈nc gs,ρ i=none)->
 ∀D s μ,jg w D ρ acc s μ σ->w.wp (oY w.aE elt' gens scope pos D depth) (λ_=>GR w D ρ acc' σ' s μ) s
structure EX(w:Wh)(W2:Addr)(wr:List Addr)(s:Shared):Prop where
 EY:∀b∈wr,s.heap.get? b=none
 W3:∀b∈dE w.aE,b∉wr
 W2:W2∉wr
noncomputable def cW(d n:Nat)(elt:Ex)(tg:Tg)(ifs:List Ex)(gs:List jo)(ρ:aA)(S:eM)(xs:List V)(σ:aj)(acc acc':List V)(σ':aj):Prop:=∀w,Ok w d->∀elt' gens scope pos depth,zb w n elt tg ifs gs elt' gens depth->(∀i∈vG 4 tg++nc gs,ρ i=none)->
 ∀D I wr s μ s₀ μ₀,jg w D ρ acc s μ σ->lU w.Vr I wr [w.aE.locals,D] S xs s.heap μ σ->EX w D wr s₀->cK w.Vr [w.aE.locals,D] s₀ μ₀ s μ σ->codeAny (model w.Vr.bK w.Vr.VP) w.V1 (.compLoop (.ListComp elt' gens scope pos) depth (.ref I) (.ref D) w.aE) (LR w D ρ acc' σ' s₀ μ₀) s
section
variable {w:Wh}{s:Shared}{x y z u v:V}{xs vs acc acc' acc'':List V}{b t r:Bool}{d n i k m:Nat}{c:Sc}{p:Pos}{es:List Ex}{e o a elt:Ex}{S:eM}{it:It}
theorem cK.wM(a:cK Z fr s₀ μ₀ s μ σ)(b:ui Z wr s μ s' σ')(hw:∀b∈wr,s₀.heap.get? b=none):cK Z fr s₀ μ₀ s' μ σ' where
 iI:=⟨b.zI.1.trans a.iI.1,b.zI.2.1.trans a.iI.2.1,b.zI.2.2.trans a.iI.2.2⟩
 lA:=b.zG
 iZ:=λc o hc hn hf=>b.uj c o (a.iZ c o hc hn hf) (a.EE hc hn) λhm=>gb (hw c hm) hc
 l8:=λc o hc=>(Decidable.em (c∈μ)).elim (b.zG.iU c) λhm=>(a.l8 c o hc).imp λo' h=>b.uj c o' h hm λh=>gb (hw c h) hc
 jS:=a.jS
 i4:=a.i4
theorem At.vQ(a:At w ρ s μ σ)(b:ui w.Vr wr s μ s' σ')(hw:∀b∈dE w.aE,b∉wr):At w ρ s' μ σ':=⟨b.zG,a.VZ.v7 b.ew (λb hb=>(a.VZ.gw b hb).1) λc hc o ho=>b.uj c o ho (a.VZ.gw c hc).1 (hw c hc),a.mI⟩
theorem At.KP(a:At w ρ' s μ σ)(h:∀i v,ρ i=some v->ρ' i=some v):At w ρ s μ σ:=⟨a.bH,a.VZ.LO h,λi v q=>a.mI i v (h i v q)⟩
theorem jg.to(C:jg w D ρ acc s μ σ)(a:At w ρ' s' μ σ')(k:∀o,s.heap.get? D=some o->s'.heap.get? D=some o)(e:dl s.heap μ s'.heap μ):jg w D ρ' acc s' μ σ':=⟨a,C.pD.imp λvs q=>q.imp λn q=>⟨k _ q.1,q.2.extW e⟩,C.ib⟩
theorem jg.vS(C:jg w D ρ acc s μ σ)(st:br w.Vr s μ s' μ' σ'):jg w D ρ acc s' μ' σ':=by
 obtain⟨vs,n,h1,h2⟩:=C.pD
 exact⟨C.ia.gT st,(eE vs n (st.bJ.iE _ _ h1 C.ib.1) (h2.li st.bJ)),st.bJ.tR h1 C.ib.1,C.ib.2⟩
theorem OB{f:Tg->V->aA->Option aA}{g:Tg->List Nat}(H:∀t x ρ ρ',f t x ρ=some ρ'->∀i,i∉g t->ρ' i=ρ i)(ts:List Tg):∀(xs:List V) (ρ ρ':aA),fM.go f ts xs ρ=some ρ'->∀i,i∉ts.flatMap g->ρ' i=ρ i:=by
 induction ts with
 |nil=>exact λxs ρ ρ' h i hi=>by rw[(A4 h).2]
 |cons t ts ih=>
  intro xs ρ ρ' h i hi
  refine nC (AZ h) λx ys ρ₁ q3 h1 h2=>?_;subst q3
  rw[List.flatMap_cons,List.mem_append,not_or]at hi
  exact(ih ys ρ₁ ρ' h2 i hi.2).trans (H t x ρ ρ₁ h1 i hi.1)
theorem Oz(n:Nat):∀(t:Tg) (x:V) (ρ ρ':aA),fM n t x ρ=some ρ'->∀i,i∉vG n t->ρ' i=ρ i:=by
 induction n with
 |zero=>exact λt x ρ ρ' h=>bN h
 |succ n ih=>
  intro t x ρ ρ' h i hi
  rcases t with j |ts |_ |_
  ·rw[<-XA h];exact XC λe=>hi (Ym e)
  ·rcases x with _ |_ |_ |_ |xs |_ |_ |_<;>first |exact bN h |exact OB ih ts xs ρ ρ' h i hi
  ·exact bN h
  ·exact bN h
theorem v8.LX{e':Expr}(G:v8 w n elt (.m tg it ifs::gs) e' gens depth):∃tgE iter ifs',gens[depth]? =some ⟨tgE,iter,ifs',0⟩/\uC w.Vr.KN (cg w.Vr.KN n w.VR) w.VR iter it=true/\zb w n elt tg ifs gs e' gens depth:=by
 obtain⟨h1,h2,h3⟩:=G
 have hd:gens[depth]? =(gens.drop depth)[0]?:=by rw[List.getElem?_drop];rfl
 have ht:gens.drop (depth+1)=(gens.drop depth).tail:=List.tail_drop.symm
 revert hd ht
 refine iL (M:=λl=>gens[depth]? =l[0]?->gens.drop (depth+1)=l.tail->_) h2 λg l c1 c2 hd ht=>?_
 obtain⟨tgE,iter,ifs',as⟩:=g
 refine kN (eQ c1) λk1 k2 k3 k4=>?_
 obtain rfl:as=0:=XF k4
 exact⟨tgE,iter,ifs',hd,k1,(BQ tgE iter ifs' hd k2 k3),⟨h1,by rw[ht];exact c2,(List.nodup_append.mp h3).2.1⟩,h3⟩
theorem vM{a b c:Addr}{P:Addr->Prop}(h:c∈[a,b])(ha:P a)(hb:P b):P c:=by
 rcases XL h with e |h
 ·exact e▸ha
 ·exact XG h▸hb
theorem jg.vT(C:jg w D ρ acc s μ σ):∀b∈[w.aE.locals,D],iD s.heap b:=λb hb=>vM hb (C.ia.VZ.tr _ (XH ..)) (C.pD.elim λvs q=>q.elim λn q=>⟨_,q.1,rfl⟩)
theorem cW.mR:cW d n elt tg ifs gs ρ S [] σ acc acc (S.iG none σ):=λw O elt' gens scope pos depth G hf D I wr s μ s₀ μ₀ C io W B=>by
 obtain⟨tgE,iter,ifs',hg,_⟩:=G.DT
 refine Zm ?_
 refine(?_:wpAny _ w.V1 ((compTurn (.ListComp elt' gens scope pos) depth (.ref I) (.ref D) w.aE).onRaise (λx=>do noteFrame x w.aE;theTreesLotGoes x)) _ _ s)
 refine wpAny_noted ?_
 rw[FB hg]
 refine nA (Xq (Yh (Xq (Wp.bZ (io w.V1 s O.V0.1 rfl C.ia.bH) λr s₁ q=>?_))))
 obtain⟨rfl,st⟩:=q
 exact Xu ⟨μ,B.wM st W.EY,C.to (C.ia.vQ st W.W3) (λo ho=>st.uj _ _ ho C.ib.1 W.W2) st.ew⟩
theorem cW.DS(hb:fM 4 tg x ρ=some ρ')(h:ej d n ifs ρ' (S.iG (some xs) σ) b σ₁)(h2:b=true->jE d n elt gs ρ' σ₁ acc acc' σ₂)(h2':b=false->acc'=acc/\σ₂=σ₁)(hg:S.Wf xs σ₂)(h3:cW d n elt tg ifs gs ρ S xs σ₂ acc' acc'' σ₃):
  cW d n elt tg ifs gs ρ S (x::xs) σ acc acc'' σ₃:=λw O elt' gens scope pos depth G hf D I wr s μ s₀ μ₀ C io W B=>by
 obtain⟨tgE,iter,ifs',hgs,c2,c3⟩:=G.DT
 refine Zm ?_
 refine(?_:wpAny _ w.V1 ((compTurn (.ListComp elt' gens scope pos) depth (.ref I) (.ref D) w.aE).onRaise (λx=>do noteFrame x w.aE;theTreesLotGoes x)) _ _ s)
 refine wpAny_noted ?_
 rw[FB hgs]
 refine nA (Xq (Yh (Xq (Wp.bZ (io w.V1 s O.V0.1 rfl C.ia.bH) λr s₁ q=>?_))))
 obtain⟨v,rfl,hgo⟩:=q
 refine Xq (Wp.bZ (hgo tgE) λ_ s₂ q=>?_)
 obtain⟨st,rv,later⟩:=q
 have C₂:=C.to (C.ia.vQ st W.W3) (λo ho=>st.uj _ _ ho C.ib.1 W.W2) st.ew
 have B₂:=B.wM st W.EY
 refine Xq (Wp.bZ (Kw (fr:=[w.aE.locals]) O (Ym rfl) (λ_ _ q=>bE q.symm) 4 tgE tg c2 x ρ ρ' s₂ μ _ v hb C₂.ia rv) λ_ s₃ q=>?_)
 obtain⟨st₃,e₃,a₃⟩:=q
 have C₃:=C₂.to a₃ (λo ho=>st₃.iZ _ _ ho C.ib.1 λq=>C.ib.2.2 (XG q▸XH ..)) e₃
 have st₃:=st₃.Nw (fr':=[w.aE.locals,D]) λb hb=>XG hb▸XH ..
 refine Xq (Wp.bZ (h w O ifs' c3 s₃ μ a₃) λb' s₄ q=>?_)
 obtain⟨rfl,m₄,st₄⟩:=q
 have same:=Oz 4 tg x ρ ρ' hb
 have le:∀i v,ρ i=some v->ρ' i=some v:=λi v hv=>(same i λhm=>bN ((hf i (YG _ hm)).symm.trans hv)).trans hv
 have key:w.wp (if b'=true then oY w.aE elt' gens scope pos D (depth+1)else pure ()) (λ_=>GR w D ρ' acc' σ₂ s₂ μ) s₄:=by
  have C₄:=C₃.vS st₄
  have B₄:=st₃.jT (st₄.fq [w.aE.locals,D])
  rcases b' with _ |_
  ·refine ba (h2' rfl) λq0 q1=>?_;subst q0;subst q1
   exact Xu ⟨m₄,B₄,C₄⟩
  ·exact Wp.bZ (h2 rfl w O elt' gens scope pos (depth+1) G.Mx (λi hi=>(same i λhm=>(List.nodup_append.mp G.nd).2.2 i hm i hi rfl).trans (hf i (YZ _ hi))) D s₄ m₄ C₄) λ_ s₅ q=>q.casesOn λm₅ st₅ C₅=>⟨m₅,B₄.jT st₅,C₅⟩
 refine Xq (Wp.bZ key λ_ s₅ q=>Xu ⟨rfl,?_⟩)
 obtain⟨m₅,st₅,C₅⟩:=q
 exact h3 w O elt' gens scope pos depth G hf D I wr s₅ m₅ s₀ μ₀ ⟨C₅.ia.KP le,C₅.pD,C₅.ib⟩ (later s₅.heap m₅ σ₂ ⟨st₅.iZ,λb hb=>(C₂.vT b hb).kW,st₅.jS,st₅.i4⟩ hg C₅.ia.bH) W (B₂.jT st₅)
theorem cW.Wy(hb:fM 4 tg x ρ=some ρ')(h:ej d n ifs ρ' (S.iG (some xs) σ) true σ₁)(h2:jE d n elt gs ρ' σ₁ acc acc' σ₂)(hg:S.Wf xs σ₂)(h3:cW d n elt tg ifs gs ρ S xs σ₂ acc' acc'' σ₃):cW d n elt tg ifs gs ρ S (x::xs) σ acc acc'' σ₃:=.DS hb h (λ_=>h2) (λq=>bE q.symm) hg h3
theorem cW.WT(hb:fM 4 tg x ρ=some ρ')(h:ej d n ifs ρ' (S.iG (some xs) σ) false σ₁)(hg:S.Wf xs σ₁)(h3:cW d n elt tg ifs gs ρ S xs σ₁ acc acc'' σ₃):cW d n elt tg ifs gs ρ S (x::xs) σ acc acc'' σ₃:=.DS hb h (λq=>bE q) (λ_=>⟨rfl,rfl⟩) hg h3
end
section
variable {w:Wh}{s:Shared}{x y z u v:V}{xs vs acc acc' acc'':List V}{b t r:Bool}{d n i k m:Nat}{c:Sc}{p:Pos}{es:List Ex}{e o a elt:Ex}{S:eM}{it:It}
theorem VB(st:cK w.Vr [w.aE.locals,D] s μ s' μ' σ₁)(h:GR w D ρ acc' σ' s' μ' s''):GR w D ρ acc' σ' s μ s'':=h.casesOn λm st' C=>⟨m,st.jT st',C⟩
theorem jE.pK(h:Ev d n elt ρ σ v σ₁)(hl:aD acc):jE d n elt [] ρ σ acc (acc++[v]) σ₁:=λw O elt' gens scope pos depth G hf D s μ C=>by
 unfold oY
 rw[List.getElem?_eq_none_iff.mpr (List.drop_eq_nil_iff.mp (kD (M:=λl=>l=[]) G.LW rfl))]
 refine(h w O elt' G.LV).ev.ie C.ia λu s₁ m₁ a₁ e₁ r₁=>?_
 have C₁:=C.vS e₁
 obtain⟨vs,m,h1,h2⟩:=C₁.pD
 refine Xq (wpAny_list_append_plain ⟨m,h1⟩ (λh' hp hb=>Xu ?_) (lI h2 hl))
 refine aT hp ?_;clear hp;intro m' hD
 have hD':h'.get? D=some (ir (vs++[u]) m'):=by rw[hD,List.push_toArray]
 have sb:=jB hb
 have st₂:cK w.Vr [w.aE.locals,D] s₁ m₁ {s₁ with heap:=h',toks:=s₁.toks} m₁ σ₁:=zF C₁.ia.bH (XI _ (Ym rfl)) C₁.ib.1 C₁.ib.2.1 ⟨_,h1,rfl⟩ _ sb ⟨_,hD'⟩
 have ew:=(C₁.ia.bH.pP C₁.ib.1 C₁.ib.2.1 (λo ho=>by cases h1.symm.trans ho;rfl) sb).2
 exact⟨m₁,(e₁.fq _).jT st₂,⟨st₂.lA,a₁.VZ.v7 ew (λb hb=>(a₁.VZ.gw b hb).1) λb hb o ho=>sb b o (λe=>C₁.ib.2.2 (e▸hb)) ho,a₁.mI⟩,(eE (vs++[u]) m' hD' ((h2.append (zC r₁)).extW ew)),C₁.ib⟩
theorem FA{elt:Expr}{it acc:Value}{tg:Expr}{ifs:List Expr}{R:Result->Shared->Prop}(hg:gens[depth]? =some ⟨tg,iter,ifs,0⟩)
  (h0:codeAny (model Z.bK Z.VP) A (.compLoop (.ListComp elt gens scope pos) depth it acc env) R s)
  (h:wpAny (model Z.bK Z.VP) A (pyIter it) (λit' s'=>codeAny (model Z.bK Z.VP) A (.compLoop (.ListComp elt gens scope pos) depth it' acc env) R s') (notedBy (model Z.bK Z.VP) A env λx s'=>R (.error x) s') s):
  codeAny (model Z.bK Z.VP) A (.compStart (.ListComp elt gens scope pos) depth it acc env) R s:=by
 refine Zm ?_
 refine(?_:wpAny _ _ ((compStart (.ListComp elt gens scope pos) depth it acc env).onRaise (λx=>do noteFrame x env;standAt theWindowsPlace)) _ _ s)
 refine wpAny_notedAt ?_
 unfold compStart
 rw[show clausesOf (.ListComp elt gens scope pos)=gens from rfl,hg]
 refine(?_:wpAny _ _ (ask>>=_) _ _ s)
 refine Xq (wpAny_askSetting (wpAny_ite ?_))
 split
 ·first
   |exact Xq (Xu (Xu (And.intro rfl h0)))
   |exact Xu (And.intro rfl h0)
 ·refine Xq (wpAny_rule ?_)
  refine(?_:wpAny _ _ (standAt iter.pos>>=_) _ _ s)
  exact Xq (Yh (Xq (wpAny_mono h (λit' s' h'=>Xu (And.intro rfl h')) λ_ _ x=>x)))
theorem B5{e:Expr}{x:Value}(h:(!Hc e)=true):foldedSetIterable e env x=pure x:=by
 cases e<;>first |rfl |exact bE h
theorem qw(a:At w ρ s μ σ){b:Addr}(hb:s.heap.get? b=none):b∉dE w.aE:=λhm=>(a.VZ.tr b hm).elim λo q=>gb hb q.1
theorem UB(C:jg w D ρ acc s μ σ)(st:br w.Vr s μ s' μ' σ')(h5:∀b∈wr,s.heap.get? b=none/\∃o,s'.heap.get? b=some o)(h6:s.heap.get? I=none∨I∈μ):tS [w.aE.locals,D] s'.heap μ' wr I:=by
 have C':=C.vS st
 have go:∀b,iD s.heap b->b∉μ->iD s'.heap b->s'.heap.get? b=none∨(iD s'.heap b/\b∉μ'/\b∉wr/\b≠I):=λb t1 t2 t3=>t1.elim λo q=>
  .inr ⟨t3,st.bJ.tR q.1 t2,λhw=>gb (h5 b hw).1 q.1,λe=>h6.elim (λh=>gb (e▸h) q.1) λh=>t2 (e▸h)⟩
 exact λb hb=>go b (C.vT b hb) (vM (P:=λb=>b∉μ) hb (C.ia.VZ.gw _ (XH ..)).1 C.ib.1) (C'.vT b hb)
theorem UF(C:jg w D ρ acc s μ σ)(h5:∀b∈wr,s.heap.get? b=none/\∃o,s'.heap.get? b=some o):EX w D wr s:=
 ⟨λb hb=>(h5 b hb).1,λb hb hw=>qw C.ia (h5 b hw).1 hb,λhw=>C.pD.elim λvs q=>q.elim λn q=>gb (h5 D hw).1 q.1⟩
theorem LY(h:bA d n it ρ σ S σ₁)(h2:cW d n elt tg ifs gs ρ S S.qd σ₁ acc acc' σ₂):jE d n elt (.m tg it ifs::gs) ρ σ acc acc' σ₂:=λw O elt' gens scope pos depth G hf D s μ C=>by
 obtain⟨tgE,iter,ifs',hg,c1,G'⟩:=G.LX
 unfold oY
 rw[hg]
 refine Xq (Wp.bZ (h w O iter c1 s μ C.ia) λx s₁ q=>Xq (Yh ?_))
 refine(?_:w.wp (foldedSetIterable iter w.aE x>>=_) _ s₁)
 rw[B5 (bV c1).1]
 refine Xq (Xu (Xq (XR (Wp.bZ q λitv s₂ q=>?_))))
 obtain⟨I,wr,m₂,rfl,st,g,h5,h6,h8,h9⟩:=q
 have C₂:=C.vS st
 have main:codeAny (model w.Vr.bK w.Vr.VP) w.V1 (.compLoop (.ListComp elt' gens scope pos) depth (.ref I) (.ref D) w.aE) (λr s'=>match r with
   | .ok f=>w.wp (pure ()) (λ_=>GR w D ρ acc' σ₂ s μ) s'
   | .error e=>cameBackBy (model w.Vr.bK w.Vr.VP) w.V1 w.aE NE e s') s₂:=
  YY (h2 w O elt' gens scope pos depth G' hf D I wr s₂ m₂ s μ C₂ (h8 _ (UB C st h5 h6) s₂.heap m₂ σ₁ ⟨λ_ _ hb _ _=>hb,λb hb=>(C₂.vT b hb).kW,Yn _,λ_ hb=>.inl hb⟩ g st.eN) (UF C h5) (st.fq _)) λr s' q=>by
   rcases r with f |e
   ·exact q.elim
   ·exact Xu q
 exact Xq (wpAny_runOwn (FA hg main (nA (h9 s₂ (λ_ _ ho=>ho) _ main))))
end
noncomputable def xt(cells:List (Str×Addr))(names:List (Str×NameKind)):List (Str×Addr):=(names.filter λx=>x.2==.free).map λx=>(x.1,(cells.lookup x.1).getD 0)
noncomputable def mn(env:PySem.Env)(scope:Scope):List (Str×Addr):=(xt env.cells scope.names).reverse
structure rm(c:Sc)(scope:Scope)(own:List (Str×Nat)):Prop where
 yF:scope.kind=.function
 K9:∀x∈scope.names,x.2≠.cell
 K7:∀x∈scope.names,x.2=.local->scope.names.lookup x.1=some .local
 yE:∀x∈scope.names,x.2=.free->scope.names.lookup x.1=some .free/\x.1∈c.jP/\(c.dD.lookup x.1=some .cell∨c.dD.lookup x.1=some .free)
 ow:∀x∈own,scope.names.lookup x.1=some .local/\x.2∉c.dm
 sc:wK (kE c scope own)
section
variable {h:Heap}{s:Shared}{c:Sc}
theorem IE(h:Cb c=true):wK c:=by
 refine kN (eQ h) λh1 h2 h3 h4=>?_
 refine⟨XX h1,XX h2,XX h3,λx hx=>?_,λx hx=>?_⟩
 ·have k:=cM (YM h4 x hx)
  exact bm (i7 k.1) (i7 k.2.1)
 ·refine(Yw (cM (YM h4 x hx)).2.2).imp XF λq=>?_
  exact bm ((Yw (bV q).1).imp XF XF) (List.contains_iff_mem.mp (bV q).2)
theorem RP(h:ID c scope own=true):rm c scope own:=by
 refine kN (eQ h) λh1 h2 h3 h4=>?_
 have k2:=λx hx=>cM (YM h2 x hx)
 refine⟨XF h1,λx hx=>bne_iff_ne.mp (k2 x hx).1,λx hx hl=>?_,λx hx hf=>?_,λx hx=>?_,IE h4⟩
 ·exact(Yw (k2 x hx).2.1).elim (λq=>absurd hl (bne_iff_ne.mp q)) XF
 ·refine(Yw (k2 x hx).2.2).elim (λq=>absurd hf (bne_iff_ne.mp q)) λq=>?_
  refine cO (cM q) λq1 q2 q3=>?_
  exact fA (XF q1) (List.contains_iff_mem.mp q2) ((Yw q3).imp XF XF)
 ·have k:=bV (YM h3 x hx)
  exact bm (XF k.1) (λhm=>Bool.noConfusion ((i7 k.2).symm.trans (List.contains_iff_mem.mpr hm)))
theorem OI:∀(acc:List (Str×Addr)),(∀x∈names,x.2=.free->∃a,env.cells.lookup x.1=some a)->
  (forIn names acc (λ(x:Str×NameKind) (r:List (Str×Addr))=>(if x.2==.free then do let a<-cellOf env x.1;pure (ForInStep.yield ((x.1,a)::r))else pure (ForInStep.yield r):Sem (ForInStep (List (Str×Addr))))):Sem _)=pure ((xt env.cells names).reverse++acc):=by
 induction names with
 |nil=>exact λacc h=>List.forIn_nil
 |cons x xs ih=>
  intro acc h
  have ih:=λacc=>ih acc λy hy=>h y (XI _ hy)
  rw[List.forIn_cons]
  unfold xt
  rw[List.filter_cons]
  by_cases hf:(x.2==.free)=true
  ·refine aT (h x (XH ..) (XF hf)) λa ha=>?_
   rw[Xz hf,Xz hf,show cellOf env x.1=pure a by unfold cellOf;rw[ha],pure_bind,pure_bind,XD,ha,List.reverse_cons,XU]
   exact ih ((x.1,a)::acc)
  ·rw[XC hf,XC hf,pure_bind]
   exact ih acc
theorem OJ(h:∀x∈scope.names,x.2=.free->∃a,env.cells.lookup x.1=some a):closureFor scope env=pure (mn env scope):=by
 refine(?_:((forIn scope.names ([]:List (Str×Addr)) (λ(x:Str×NameKind) (r:List (Str×Addr))=>(if x.2==.free then do let a<-cellOf env x.1;pure (ForInStep.yield ((x.1,a)::r))else pure (ForInStep.yield r):Sem (ForInStep (List (Str×Addr))))):Sem _)>>=λr=>pure r)=_)
 rw[OI [] h,pure_bind,Yi];rfl
theorem Uc(X:fF c env):(relabel scope env).names=yj scope.names c.dD:=by
 refine Y0 λx _=>?_
 refine(?_:(if(x.2==.free&&env.scope.kind==.function&&env.kindOf x.1==some .cell)=true then(x.1,NameKind.cell)else(x.1,x.2))=_)
 rw[X.fn,nw X]
 refine(?_:(if(x.2==.free&&true&&_)=true then _ else _)=_)
 rw[Bool.and_true]
 split
 ·rfl
 ·rfl
theorem Ub{outer:List (Str×NameKind)}{n:Str}:(yj names outer).lookup n=(names.lookup n).map λk=>if k==.free&&outer.lookup n==some .cell then .cell else k:=by
 induction names with
 |nil=>rfl
 |cons x xs ih=>
  unfold yj at ih ⊢
  rw[XD,List.lookup_cons,List.lookup_cons]
  cases e:n==x.1 with
  |true=>rw[XF e];rfl
  |false=>exact ih
theorem FC(X:fF c env)(K:rm c scope own):∀x∈scope.names,x.2=.free->∃a,env.cells.lookup x.1=some a:=λx hx hf=>xH (X.yK▸(K.yE x hx hf).2.1)
theorem sj(X:fF c env)(K:rm c scope own){y:Str×Addr}(hy:y∈mn env scope):env.cells.lookup y.1=some y.2:=by
 refine az (Yf (List.mem_reverse.mp hy)) λx hx q2=>?_;subst q2
 refine ba (Zl hx) λh1 h2=>?_
 refine aT (FC X K x h1 (XF h2)) λa ha=>?_
 refine(?_:_=some ((env.cells.lookup x.1).getD 0))
 rw[ha];rfl
theorem Fx:(mn env scope).map (·.1)=xu scope.names:=by
 unfold mn xt xu
 rw[Zn,XV];rfl
theorem FD(X:fF c env)(K:rm c scope own)(hB:B∉dE env):fF (kE c scope own) (compEnvC scope (mn env scope) B env) where
 Dk:=Uc X
 yK:=Fx
 yL:=X.yL
 yJ:=X.yJ
 fn:=K.yF
 sc:=K.sc
 nd:=by
  refine List.nodup_cons.mpr ⟨λhm=>?_,?_⟩
  ·refine az (Yf hm) λy hy e=>?_
   exact hB ((show y.2=B from e)▸o7 (sj X K hy))
  ·have n1:((mn env scope).map (·.1)).Nodup:=Fx (env:=env)▸K.sc.n3
   refine List.pairwise_map.mpr ((List.pairwise_map.mp n1).imp_of_mem λhy hz hne e=>hne ?_)
   exact XB Prod.fst (xv (Zq X.nd).2 (Ze (sj X K hy)) (Ze (sj X K hz)) e)
 dm:=λx hx=>(XM hx).elim (λh=>YG _ (Yz (aC x h rfl))) λh=>YZ _ (X.dm x (Zl h).1)
theorem OP{m:Str->Option Value}(F:eK cl h₀ h μ env c.VT ρ)(X:fF c env)(K:rm c scope own)(hdom:∀i V,ρ i=some V->i∈c.dm)
  (hC:B∉μ/\h₀.get? B=none/\B∉dE env) (hns:h.Ns B m):eK cl h₀ h μ (compEnvC scope (mn env scope) B env) (kE c scope own).VT ρ:=by
 have X':=FD X K hC.2.2
 have fil:∀x∈(kE c scope own).VT,∀V,ρ x.2=some V->x∈c.VT/\∃z∈scope.names,z.1=x.1/\z.2=.free:=λx hx V hV=>by
  rcases XM hx with h |h
  ·exact absurd (hdom _ _ hV) (K.ow x h).2
  ·refine ba (Zl h) λh1 h2=>?_
   refine az (Yf (List.mem_reverse.mp (List.contains_iff_mem.mp h2))) λz hz e=>?_
   refine ba (Zl hz) λh3 h4=>?_
   exact⟨h1,z,h3,e,XF h4⟩
 refine⟨λb hb=>?_,(aC m hns (λx hx hl V hV=>?_)),λn a ha=>?_⟩
 ·rcases XL hb with e |hb
  ·exact e▸⟨hC.1,hC.2.1,rJ hns⟩
  ·refine az (Yf hb) λy hy q2=>?_;subst q2
   exact F.gw _ (o7 (sj X K hy))
 ·obtain⟨_,z,hz,e,hf⟩:=fil x hx V hV
  have q:=(K.yE z hz hf).1
  rw[e]at q
  rw[nw X',show(kE c scope own).dD.lookup x.1=_ from Ub,q]at hl
  have hl:(if NameKind.free==.free&&c.dD.lookup x.1==some .cell then NameKind.cell else .free)=.local:=XA hl
  split at hl<;>exact NameKind.noConfusion hl
 ·refine az (F.oi n a (sj X K (Ze ha))) λov h1 h2=>?_
  refine aC ov h1 (λx hx hn hl V hV=>?_)
  obtain⟨hx',z,hz,e,hf⟩:=fil x hx V hV
  refine h2 x hx' hn (λq=>?_) V hV
  rw[nw X,<-hn,<-e]at q
  rcases(K.yE z hz hf).2.2 with k |k
  ·exact NameKind.noConfusion (XA (k.symm.trans q))
  ·exact NameKind.noConfusion (XA (k.symm.trans q))
end
inductive NW(s:Shared)(D B:Addr)(h':Heap):Prop
 |mk (acc:h'.get? D=some (ir [] 0)) (m:Str->Option Value) (ns:h'.Ns B m) (ne:D≠B) (old:∀b o,s.heap.get? b=some o->h'.get? b=some o) (nB:s.heap.get? B=none) (nD:s.heap.get? D=none)
section
variable {w:Wh}{s:Shared}{x y z u v:V}{xs vs acc acc' acc'':List V}{b t r:Bool}{d n i k m:Nat}{c:Sc}{p:Pos}{es:List Ex}{e o a elt:Ex}{S:eM}{it:It}
theorem RC{Q:Value->PySem.Env->Shared->Prop}{genv:Addr}{cl:List (Str×Addr)}(K:rm c scope own)
  (q:∀D B h' t,NW s D B h'->Q (.ref D) (newEnv scope B genv cl env.qual none .none (some env) builtinsNs) {s with heap:=h',toks:=t}):
  wpAny (model Z.bK Z.VP) A (newList []) (λacc s₃=>wpAny (model Z.bK Z.VP) A (newFunctionEnv scope genv cl [] env.qual none .none (some env)) (λcenv s₄=>Q acc cenv s₄) E s₃) E s:=by
 refine Zu (wpAny_newFunctionEnv K.K9 (λy hy=>absurd hy Ye) (λh₁ hns hsb=>q _ _ _ _ ?_) K.yF)
 have hB:(s.heap.push {cls:=.type "list",dict:=none,data:=.seq ([]:List Value).toArray}).objs.size=s.heap.objs.size+1:=Y7 _ _
 have below:∀b o,s.heap.get? b=some o->b≠(s.heap.push {cls:=.type "list",dict:=none,data:=.seq ([]:List Value).toArray}).objs.size:=λb o hb=>by
  rw[hB];exact XQ (ZA (Ys hb))
 have ne:s.heap.objs.size≠(s.heap.push {cls:=.type "list",dict:=none,data:=.seq ([]:List Value).toArray}).objs.size:=by rw[hB];exact(Nat.succ_ne_self _).symm
 exact⟨hsb.extBut _ _ ne (XO _ (Yg _ rfl)),_,hns,ne,λb o hb=>hsb.extBut b o (below b o hb) (XO _ (XO _ hb)),mz (by rw[hB];exact Yp _),iB⟩
theorem KI(h:bA d n it ρ σ S σ₁)(h2:cW d n elt tg ifs gs ρ S S.qd σ₁ [] xs σ₂)(W:Ok w d){elt':Expr}{gs':List Comprehension}{pos:Pos}(c:Fq w.Vr.KN (cg w.Vr.KN n) w.VR elt' gs' scope elt (.m tg it ifs::gs)=true):wU w ρ σ (.r σ₂.length) (σ₂++[.l xs]) elt' gs' scope pos:=λuse Q s μ a fin pos'=>by
 rcases gs' with _ | ⟨⟨tgE,iter,ifs',as⟩,gs'⟩
 ·exact bE c
 refine sV (qm c) λc1 c2 c3 c4 c5=>?_
 refine kN (eQ c3) λk1 k2 k3 k4=>?_
 obtain rfl:as=0:=XF k4
 have K:=RP c1
 have ids:(pd (⟨tgE,iter,ifs',0⟩::gs') (.m tg it ifs::gs)).map (·.2)=nc (.m tg it ifs::gs):=by
  unfold pd;exact List.map_snd_zip (Yd (XF c2).symm)
 revert ids c1 c3 k1 k2 k3 c4 c5 K
 generalize pd (⟨tgE,iter,ifs',0⟩::gs') (.m tg it ifs::gs)=own
 intro c1 c3 c4 c5 k1 k2 k3 K ids
 have nd:(nc (.m tg it ifs::gs)).Nodup:=by
  have q:=K.sc.n2
  rw[show(kE w.VR scope own).VT=own++_ from rfl,Yc,ids]at q
  exact(List.nodup_append.mp q).1
 have fresh:∀i∈nc (.m tg it ifs::gs),ρ i=none:=λi hi=>by
  rw[<-ids]at hi
  refine az (Yf hi) λx hx q2=>?_;subst q2
  exact ZG λV hV=>(K.ow x hx).2 (a.mI _ _ hV)
 refine wpAny_comprehension_free (g:=⟨tgE,iter,ifs',0⟩) (gs:=gs') (cl:=mn w.aE scope) rfl (λx=>B5 (bV k1).1) (OJ (FC W.X K)) K.yF K.K7 (Wp.bZ (h w W iter k1 s μ a) λx s₁ q=>Wp.bZ q λitv s₂ q=>?_)
 obtain⟨I,wr,m₂,rfl,st,g,h5,h6,h8,h9⟩:=q
 refine RC K λD B h' t N=>?_
 obtain⟨acc,mm,ns,ne,old,nB,nD⟩:=N
 have st₁:br w.Vr s₂ m₂ {s₂ with heap:=h',toks:=t} m₂ σ₁:=iH st.eN old t
 have a₂:=a.gT st
 have a₁:=a₂.gT st₁
 refine ba (st.eN.eY nB) λoB bB=>?_
 refine ba (st.eN.eY nD) λoD bD=>?_
 have hBf:=qw a₂ nB
 let w':Wh:=⟨w.Vr,kE w.VR scope own,compEnvC scope (mn w.aE scope) B w.aE,w.V1⟩
 have O':Ok w' d:=⟨W.VW,FD W.X K hBf,W.V0⟩
 have cells:∀b∈dE w'.aE,b=B∨b∈dE w.aE:=λb hb=>(XL hb).imp id λhb=>by
  refine az (Yf hb) λy hy q2=>?_;subst q2
  exact o7 (sj W.X K hy)
 have C:jg w' D ρ [] {s₂ with heap:=h',toks:=t} m₂ σ₁:=⟨⟨a₁.bH,OP a₁.VZ W.X K a.mI ⟨oB,bB,hBf⟩ ns,λi v hv=>YZ _ (a.mI i v hv)⟩,(eE ([]) 0 acc rfl),oD,bD,λhm=>(cells D hm).elim ne (qw a₂ nD)⟩
 have G:zb w' n elt tg ifs gs elt' (⟨tgE,iter,ifs',0⟩::gs') 0:=⟨(BQ tgE iter ifs' rfl k2 k3),⟨c5,c4,(List.nodup_append.mp nd).2.1⟩,nd⟩
 have ww:∀b∈wr,s₂.heap.get? b=none->False:=λb hb q=>(h5 b hb).2.elim λo ho=>gb q ho
 have io:=h8 [B,D] (λb hb=>.inl (vM (P:=λb=>s₂.heap.get? b=none) hb nB nD)) h' m₂ σ₁ ⟨λb o hb _ _=>old b o hb,λb hb o ho=>vM (P:=λb=>∀o,s₂.heap.get? b=some o->gm o=false) hb (λo ho=>gb nB ho) (λo ho=>gb nD ho) o ho,Yn _,λ_ hb=>.inl hb⟩ g st₁.eN
 have main:codeAny (model w.Vr.bK w.Vr.VP) w.V1 (.compLoop (.ListComp elt' (⟨tgE,iter,ifs',0⟩::gs') scope pos) 0 (.ref I) (.ref D) (compEnvC scope (mn w.aE scope) B w.aE)) (compPost (model w.Vr.bK w.Vr.VP) w.V1 NE use Q (.ref D) B) {s₂ with heap:=h',toks:=t}:=
  YY (h2 w' O' elt' _ scope pos 0 G fresh D I wr _ m₂ s μ C io ⟨λb hb=>(h5 b hb).1,λb hb hw=>(cells b hb).elim (λe=>ww b hw (e▸nB)) λq=>qw a (h5 b hw).1 q,λhw=>ww D hw nD⟩ ((st.d0 st₁).fq _)) λr s' q=>by
   rcases r with e |f
   ·exact q.elim
   obtain⟨m₃,st₃,C₃⟩:=q
   have stp:br w.Vr s μ s' m₃ σ₂:=cK.EH st₃ (br.oK a.bH) λb hb=>vM (P:=λb=>s.heap.get? b=none) hb (st.rZ nB) (st.rZ nD)
   obtain⟨vs,m,a1,a2⟩:=C₃.pD
   have own:=aU.DN (o:=.l xs) stp.eN a1 rfl C₃.ib.1 bD (λ_ q=>O.noConfusion q) (λe=>⟨vs,m,a1,a2.extW e⟩) λq=>bE q
   refine fin s' D B f ⟨m₃++[D],⟨stp.jR,own.1,stp.bJ.iE,stp.bJ.lM.trans (Yk _ _),λb hb=>?_⟩,⟨D,by rw[<-stp.eN.eu,YR (Xx _),Nat.sub_self];rfl,rfl⟩,st.rZ nB,λhm=>?_,bB,C₃.ia.VZ.pJ.imp λm q=>q.1⟩
   ·exact(XM hb).elim (stp.bJ.lb b) λq=>.inr (XG q▸st.rZ nD)
   ·exact(XM hm).elim (C₃.ia.VZ.gw B (XH ..)).1 λq=>ne (XG q).symm
 exact FA rfl main (nA (h9 _ old _ main))
theorem br.EC(st:br Z s μ s' μ' σ')(h1:s.heap.get? B=none)(h2:B∉μ')(h3:Z.cU.get? B=none){m:Str->Option Value}(hn:s'.heap.Ns B m)(hs:Heap.SameBut B s'.heap h')(t:Nat):br Z s μ {s' with heap:=h',toks:=t} μ' σ'/\dl s'.heap μ' h' μ':=
 have k:=st.eN.pP h2 h3 (rJ hn).kW (jB hs)
 ⟨⟨st.jR,k.1,λb o hb hn=>jB hs b o (λe=>gb h1 (e▸hb)) (st.bJ.iE b o hb hn),st.bJ.lM,st.bJ.lb⟩,k.2⟩
theorem dU(h:bA d n it ρ σ S σ₁)(h2:cW d n elt tg ifs gs ρ S S.qd σ₁ [] vs σ₂):Ev d (n+1) (.o elt (.m tg it ifs::gs)) ρ σ (.r σ₂.length) (σ₂++[.l vs]):=λw W e c=>
 Am (M:=bj w ρ σ (.r σ₂.length) (σ₂++[.l vs])) c λelt' gs' scope p c=>by
  refine fb rfl (show wU w ρ σ (.r σ₂.length) (σ₂++[.l vs]) elt' gs' scope p from KI h h2 W c) λs μ a=>?_
  rw[eval_ListComp]
  have k:=KI h h2 W c (pos:=p) none (R1 w.Vr s μ (.r σ₂.length) (σ₂++[.l vs])) s μ a (λs' D B f q=>by
   obtain⟨m,st,r,h1,h2,h3,nm,hn⟩:=q
   exact aC nm hn (λh' hs=>⟨m,(st.EC h1 h2 h3 hn hs s'.toks).1,r.extW (st.EC h1 h2 h3 hn hs s'.toks).2⟩)) (firstIterPos gs' p)
  exact k
theorem Hj{ys:List V}(hS:∀r σ,S.iG r σ=σ)(g:V->V)(p:V->Bool)(xs:List V):∀(acc:List V),(∀x∈xs,∃ρ',fM 4 tg x ρ=some ρ'/\ej d n ifs ρ' σ (p x) σ/\(p x=true->Ev d n elt ρ' σ (g x) σ))->(∀xs,S.Wf xs σ)->aD (acc++xs)->
  cW d n elt tg ifs [] ρ S xs σ acc (acc++(xs.filter p).map g) σ:=by
 induction xs with
 |nil=>
  intro acc h hG hl
  have q:cW d n elt tg ifs [] ρ S [] σ acc acc (S.iG none σ):=.mR
  rw[hS]at q
  rw[List.filter_nil,YN,Yi];exact q
 |cons x xs ih=>
  intro acc h hG hl
  refine c8 (h x (XH ..)) λρ' h1 h2 h3=>?_
  have h:=λy hy=>h y (XI _ hy)
  have hl:acc.length+(xs.length+1)<=aK:=by unfold aD at hl;rw[Xv,Xy]at hl;exact hl
  cases hp:p x with
  |true=>
   rw[hp]at h2
   rw[List.filter_cons_of_pos hp]
   have ih:=ih (acc++[g x]) h hG (by unfold aD;rw[Xv,Xv];refine(?_:acc.length+1+xs.length<=aK);exact gj hl)
   rw[XU]at ih
   exact .Wy h1 (by rw[hS];exact h2) (.pK (h3 hp) (by unfold aD;exact bT hl)) (hG _) ih
  |false=>
   rw[hp]at h2
   rw[List.filter_cons_of_neg (by rw[hp];exact YE)]
   exact .WT h1 (by rw[hS];exact h2) (hG _) (ih acc h hG (by unfold aD;rw[Xv];exact bT (vt hl)))
end
noncomputable def q8(ρ:aA)(l:List (Nat×V)):aA:=l.foldl (λρ p=>au ρ p.1 p.2) ρ
noncomputable def EI(t:Tg)(v:V)(ρ:aA)(σ:aj)(ρ':aA)(σ':aj):Prop:=match t with
 | .v i=>σ'=σ/\ρ'=au ρ i v
 | .t ts=>∃xs,sK σ v=some xs/\ts.length=xs.length/\∀is:List Nat,ts=is.map .v->σ'=σ/\ρ'=q8 ρ (is.zip xs)
 |_=>True
inductive gQ(w:Wh)(ρ':aA)(σ':aj)(s:Shared)(μ:List Addr)(s':Shared):Prop
 |mk (μ':List Addr) (st:cK w.Vr (dE w.aE) s μ s' μ' σ') (a:At w ρ' s' μ' σ')
noncomputable def tD(w:Wh)(v:V)(ρ:aA)(σ:aj)(ρ':aA)(σ':aj)(e:Expr):Prop:=∀s μ u,At w ρ s μ σ->aS w.Vr.KN.aF s.heap μ v u->w.wp (assign e w.aE u) (λ_=>gQ w ρ' σ' s μ) s
structure aQ(d n m:Nat)(t:Tg)(v:V)(ρ:aA)(σ:aj)(ρ':aA)(σ':aj):Prop where
 C7:∀w,Ok w d->∀e,oR w.Vr.KN (cg w.Vr.KN n w.VR) m w.VR e t=true->tD w v ρ σ ρ' σ' e
 sw:EI t v ρ σ ρ' σ'
structure bU(d n m:Nat)(ts:List Tg)(xs:List V)(ρ:aA)(σ:aj)(ρ':aA)(σ':aj):Prop where
 C8:∀w,Ok w d->∀es,cx (oR w.Vr.KN (cg w.Vr.KN n w.VR) m w.VR) es ts=true->∀s μ us,At w ρ s μ σ->aR w.Vr.KN.aF s.heap μ xs us->w.wp (assignInOrder ((es.map λe=>(false,assign e w.aE)).map (·.2)) us) (λ_=>gQ w ρ' σ' s μ) s
 sw:∀is:List Nat,ts=is.map .v->σ'=σ/\ρ'=q8 ρ (is.zip xs)
section
variable {w:Wh}{s:Shared}{x y z u v:V}{xs vs:List V}{d n i k m:Nat}{e o a b:Ex}{t:Tg}{ts:List Tg}{l:List (Nat×V)}
theorem CY(l:List (Nat×V)):∀{ρ:aA} {i:Nat},i∉l.map (·.1)->q8 ρ l i=ρ i:=by
 induction l with
 |nil=>exact λ_=>rfl
 |cons p l ih=>
  intro ρ i h
  rw[XD,Yt,not_or]at h
  exact(ih h.2).trans (XC h.1)
theorem KH(l:List (Nat×V)):∀{ρ:aA},(l.map (·.1)).Nodup->∀p∈l,q8 ρ l p.1=some p.2:=by
 induction l with
 |nil=>exact λ_ p hp=>absurd hp Ye
 |cons q l ih=>
  intro ρ hn p hp
  rw[XD,Zg]at hn
  rcases XL hp with e |h
  ·rw[e];exact(CY l hn.1).trans (Xz rfl)
  ·exact ih hn.2 p h
theorem Ve(hn:(l.map (·.1)).Nodup):q8 ρ l.reverse=q8 ρ l:=by
 have hn':(l.reverse.map (·.1)).Nodup:=by rw[Zn];exact(List.reverse_perm _).nodup_iff.mpr hn
 funext i
 by_cases h:i∈l.map (·.1)
 ·refine az (Yf h) λp hp q2=>?_;subst q2
  rw[KH l hn p hp,KH _ hn' p (List.mem_reverse.mpr hp)]
 ·rw[CY l h,CY _ (by rw[Zn,List.mem_reverse];exact h)]
theorem O8{it t:Addr}{items:List Value}(hne:t≠it)(n:Nat):∀(i:Nat) (s:Shared) (Q:List Value->Shared->Prop),s.heap.IsListIter it t i->s.heap.IsList t items.toArray->i+n<=items.length->
  (∀h',h'.IsListIter it t (i+n)->Heap.SameBut it s.heap h'->Q ((items.drop i).take n) {s with heap:=h'})->wpAny (model Z.bK Z.VP) A (draw (.ref it) n) Q E s:=by
 induction n with
 |zero=>exact λi s Q hit _ _ hQ=>Xu (hQ s.heap hit (.refl _ _))
 |succ n ih=>
  intro i s Q hit ht hle hQ
  have hlt:i < items.length:=jb hle
  refine(?_:wpAny _ _ (pyNext (.ref it)>>=_) Q E s)
  refine Xq (wpAny_pyNext_list_item hit ht (x:=items[i]) (by rw[YF];exact Yu hlt) λh₁ hit₁ hs₁=>?_)
  refine Xq (XR (ih (i+1) _ _ hit₁ (ht.extBut hs₁.extBut hne) (gj hle) λh₂ hit₂ hs₂=>Xu ?_))
  have q:=hQ h₂ (by rw[show i+(n+1)=i+1+n by lia];exact hit₂) (hs₁.trans hs₂)
  rw[List.drop_eq_getElem_cons hlt,List.take_succ_cons]at q
  exact q
theorem KD{t:Addr}{items:List Value}{Q:List Value->Shared->Prop}(hh:A.handled=none)(ht:s.heap.IsList t items.toArray)
  (hQ:∀h',Heap.ExtBut s.heap.objs.size s.heap h'->Q items {s with heap:=h'}):Wp Z A (unpackItems (.ref t) items.length none) Q s:=by
 have hlt:t≠s.heap.objs.size:=ht.elim λo q=>XQ (Ys q.1)
 unfold unpackItems
 refine Xq ?_
 unfold notIterableAtAll
 refine Xq (wpAny_specialOf ht.typeIs slot_list_iter.lookup (Xu ?_))
 refine(?_:Wp Z A (holding _ (pyIter (.ref t))>>=_) Q s)
 refine Xq (XR (wpAny_pyIter_list ht ?_))
 refine Xq (XR (O8 hlt items.length 0 _ _ ⟨_,Yg _ rfl,rfl,rfl⟩ (ht.push _) (Yd (Nat.zero_add _)) λh₁ hit₁ hs₁=>?_))
 rw[show List.take items.length (List.drop 0 items)=items from List.take_length,XC (YW _)]
 refine Xq (XR (wpAny_pyNext_list_end hh hit₁ ((ht.push _).extBut hs₁.extBut hlt) (by rw[YF,Nat.zero_add];exact List.getElem?_eq_none_iff.mpr (Xx _)) λh₂ he₂=>?_))
 exact Xu (hQ h₂ λb o hb e=>he₂ b o hb (hs₁.extBut b o hb (XO _ e)))
theorem KE(I:aU Z s.heap μ σ)(hh:A.handled=none){u:Value}(r:aS Z.KN.aF s.heap μ v u)(hx:sK σ v=some xs){Q:List Value->Shared->Prop}
  (q:∀h' us,br Z s μ {s with heap:=h'} μ σ->aR Z.KN.aF h' μ xs us->Q us {s with heap:=h'}):Wp Z A (unpackItems u xs.length none) Q s:=by
 have st:∀h',Heap.ExtBut s.heap.objs.size s.heap h'->br Z s μ {s with heap:=h'} μ σ:=λh' hx=>iH I (λb o hb=>hx b o (XQ (Ys hb)) hb) s.toks
 rcases v with _ |_ |_ |_ |ys |i |_ |ys<;>first |exact bN hx |skip
 ·obtain rfl:=XA hx
  obtain⟨a,vs,m,rfl,ha,hna,hr⟩:=d6 r
  rw[hr.length]
  exact wpAny_unpackItems_tuple hh (items:=vs.toArray) ⟨_,ha,rfl,_,rfl⟩ λh' hx'=>q h' vs (st h' hx') (hr.li (st h' hx').bJ)
 ·have hs:σ[i]? =some (.l xs):=by
   unfold sK at hx
   dsimp only at hx
   rcases hi:σ[i]? with _ |o
   ·rw[hi]at hx;exact bN hx
   ·rw[hi]at hx
    rcases o with ys |_ |_ |_ |_ |_ |_<;>first |exact bN hx |rw[XA hx]
  obtain⟨x,vs,m,hx,rfl,ha,hr⟩:=iA I r hs
  rw[hr.length]
  exact KD hh (dX ha) λh' hx'=>q h' vs (st h' hx') (hr.li (st h' hx').bJ)
 ·obtain rfl:=XA hx
  refine ba r ?_;clear r;intro q0 q1;subst q0;subst q1
  obtain⟨vs,h1,h2⟩:=I.ki
  have hr:∀h,aR Z.KN.aF h μ (Z.KN.aF.vR.map .i) vs:=λh=>uQ h2
  rw[(hr s.heap).length]
  exact KD hh (h1.at λo=>I.dM _ o) λh' hx'=>q h' vs (st h' hx') (hr h')
theorem gQ.yD(st:cK w.Vr (dE w.aE) s μ s' μ' σ₁)(h:gQ w ρ' σ' s' μ' s''):gQ w ρ' σ' s μ s'':=h.casesOn λm st' a=>⟨m,st.jT st',a⟩
theorem gQ.of(st:br w.Vr s μ s' μ' σ₁)(h:gQ w ρ' σ' s' μ' s''):gQ w ρ' σ' s μ s'':=h.yD (st.fq _)
theorem bc:aQ d n (m+1) (.v i) v ρ σ (au ρ i v) σ:=⟨λw O e c s μ u a r=>oU (M:=λe=>w.wp (assign e w.aE u) (λ_=>gQ w (au ρ i v) σ s μ) s) c λid p c=>by
 have hm:=List.contains_iff_mem.mp (bV c).1
 exact wpAny_assign_Name (Wp.bZ (a.VZ.y4 (fr:=dE w.aE) (x:=(id,i)) a.bH O.X hm (bne_iff_ne.mp (bV c).2) r (XH ..) λd _ hl=>o7 hl) λ_ s' q=>(q.WX a (O.X.dm _ hm)).casesOn λst e a=>⟨μ,st,a⟩),rfl,rfl⟩
theorem vP{c x:Nat}{fs:List (Nat×V)}(h:Ev d n o ρ σ (.o c x) σ₁)(hc:fE c nm=true)(ha:σ₁[x]? =some (.a c fs))(hl:fs.length<=100):aQ d n (m+1) (.a nm o) v ρ σ ρ (σ₁.set x (.a c (gZ fs nm v))):=
 ⟨λw O e c s μ u b r=>uE (M:=λe=>w.wp (assign e w.aE u) (λ_=>gQ w ρ (σ₁.set x (.a _ (gZ fs nm v))) s μ) s) c λo' m' p c=>oV (M:=λm'=>w.wp (assign (.Attribute o' m' p) w.aE u) (λ_=>gQ w ρ (σ₁.set x (.a _ (gZ fs nm v))) s μ) s) (bV c).1 (by
  rw[arm_assign_Attribute]
  refine Xq (XR ((h w O _ (bV c).2).ev.to b λov s₁ m₁ b₁ e₁ ro=>Xq (Yh (Xq (XR (Wp.bZ (Uq O.VW.rF O.VW.Wb b₁.bH ro hc ha hl (r.cE e₁.bJ)) λ_ s₂ q=>?_))))))
  obtain⟨m₂,st⟩:=q
  exact wpAny_release ⟨m₂,(e₁.d0 st).fq _,b₁.gT st⟩),trivial⟩
theorem kX(h:Ev d n a ρ σ u σ₁)(h2:Ev d n b ρ σ₁ x σ₂)(q:lY (mG u x v σ₂) σ₃):aQ d n (m+1) (.s a b) v ρ σ ρ σ₃:=
 ⟨λw O e c s μ u b r=>qp (M:=λe=>w.wp (assign e w.aE u) (λ_=>gQ w ρ σ₃ s μ) s) c λo' i' p c=>by
  rw[arm_assign_Subscript]
  refine Xq (XR ((h w O _ (cM c).1).ev.to b λov s₁ m₁ b₁ e₁ ro=>Xq (XR ((h2 w O _ (cM c).2.1).ev.to b₁ λiv s₂ m₂ b₂ e₂ ri=>Xq (Yh (Xq (XR (Wp.bZ (q _ _ _ _ _ _ _ O.V0.We b₂.bH (ro.cE e₂.bJ) ri ((r.cE e₁.bJ).cE e₂.bJ)) λ_ s₃ q=>?_))))))))
  obtain⟨m₃,st⟩:=q
  exact wpAny_release ⟨m₃,((e₁.d0 e₂).d0 st).fq _,b₂.gT st⟩,trivial⟩
theorem gS:bU d n m [] [] ρ σ ρ σ:=⟨λw O es c s μ us a r=>kD (M:=λes=>w.wp (assignInOrder ((es.map λe=>(false,assign e w.aE)).map (·.2)) us) (λ_=>gQ w ρ σ s μ) s) c (by
 obtain rfl:us=[]:=r
 exact Xu ⟨μ,.wN a.bH _,a⟩),λis e=>⟨rfl,by rw[List.map_eq_nil_iff.mp e.symm];rfl⟩⟩
theorem da(h:aQ d n m t x ρ σ ρ' σ₁)(h2:bU d n m ts xs ρ' σ₁ ρ'' σ₂):bU d n m (t::ts) (x::xs) ρ σ ρ'' σ₂:=⟨λw O es c s μ us a r=>iL (M:=λes=>w.wp (assignInOrder ((es.map λe=>(false,assign e w.aE)).map (·.2)) us) (λ_=>gQ w ρ'' σ₂ s μ) s) c λe es c1 c2=>by
 refine cP r ?_;clear r;intro v u q2 r1 r2;subst q2
 refine wpAny_assignInOrder_more (Wp.bZ (h.C7 w O e c1 s μ v a r1) λ_ s₁ q=>?_)
 obtain⟨m₁,st,a₁⟩:=q
 exact Wp.bZ (h2.C8 w O es c2 s₁ m₁ u a₁ (aR.extW (st.Ny a.VZ.tr) xs r2)) λ_ s₂ q=>q.yD st,λis e=>by
 rcases is with _ | ⟨i,is⟩
 ·exact absurd e (List.cons_ne_nil t ts)
 ·refine ba (List.cons.inj e) λe1 e2=>?_
  have q:=h.sw
  rw[e1]at q
  refine ba (h2.sw is e2) λq0 q1=>?_;subst q0;subst q1
  refine ba q ?_;clear q;intro q0 q1;subst q0;subst q1
  exact bm rfl rfl⟩
theorem gR(hx:sK σ v=some xs)(hl:ts.length=xs.length)(h:bU d n m ts xs ρ σ ρ' σ'):aQ d n (m+1) (.t ts) v ρ σ ρ' σ':=⟨λw O e c s μ u a r=>qq (M:=λe=>w.wp (assign e w.aE u) (λ_=>gQ w ρ' σ' s μ) s) c λes k p c=>by
 rw[arm_assign_Tuple]
 refine Xq (Yh ?_)
 unfold unpack
 rw[Ak (env:=w.aE) (bV c).2]
 refine Xq (XR ?_)
 rw[show List.findIdx? (λx:Bool×(Value->Sem Unit)=>x.1) (es.map λe=>(false,assign e w.aE))=none from List.findIdx?_eq_none_iff.mpr λq hq=>by refine az (Yf hq) λe _ q2=>?_;subst q2;rfl,Xr,w5 (bV c).1,hl]
 exact KE a.bH O.V0.1 r hx λh' us st hr=>Wp.bZ (h.C8 w O es (bV c).1 {s with heap:=h'} μ us (a.gT st) hr) λ_ s₂ q=>q.of st,xs,hx,hl,h.sw⟩
end
set_option backward.match.sparseCases true
noncomputable def FlR(Z:Cx)(h:Heap)(μ:List Addr):Fl->Flow->Prop
 | .n,f=>f=.next
 | .r v,f=>∃u,f=.ret u/\aS Z.KN.aF h μ v u
inductive dF(w:Wh)(fl:Fl)(ρ':aA)(σ':aj)(s:Shared)(μ:List Addr)(f:Flow)(s':Shared):Prop
 |mk (μ':List Addr) (st:cK w.Vr (dE w.aE) s μ s' μ' σ') (a:At w ρ' s' μ' σ') (r:FlR w.Vr s'.heap μ' fl f)
noncomputable def Eu(d n:Nat)(st:St)(ρ:aA)(σ:aj)(fl:Fl)(ρ':aA)(σ':aj):Prop:=∀w,Ok w d->∀st',ml w.Vr.KN 30 n w.VR st' st=true->∀s μ,At w ρ s μ σ->w.wp (exec st' w.aE) (dF w fl ρ' σ' s μ) s
noncomputable def ae(d n:Nat)(ss:List St)(ρ:aA)(σ:aj)(fl:Fl)(ρ':aA)(σ':aj):Prop:=∀w,Ok w d->∀ss',cx (ml w.Vr.KN 30 n w.VR) ss' ss=true->∀s μ,At w ρ s μ σ->w.wp (execs ss' w.aE) (dF w fl ρ' σ' s μ) s
inductive zi(c:Sc)(ns:List Str)(tts:List Tg):Prop
 |mk (l:List (Str×Nat)) (h1:l.map (·.1)=ns) (h2:tts=l.map λp=>Tg.v p.2) (h3:∀p∈l,p∈c.VT/\c.dD.lookup p.1=some .local)
section
variable {w:Wh}{s:Shared}{x y z u v:V}{xs:List V}{d n i k m:Nat}{e o a b:Ex}{t:Tg}{tts:List Tg}{c:Sc}{tg value:Expr}{ts vs:List Expr}
theorem dF.rY{f:Flow}(st:cK w.Vr (dE w.aE) s μ s' μ' σ₁)(h:dF w fl ρ' σ' s' μ' f s''):dF w fl ρ' σ' s μ f s'':=h.casesOn λm st' a r=>⟨m,st.jT st',a,r⟩
theorem gQ.sr(h:gQ w ρ' σ' s μ s'):dF w .n ρ' σ' s μ .next s':=h.casesOn λm st a=>⟨m,st,a,rfl⟩
theorem Ff(X:fF c env):env.blockKind=.function:=by unfold Env.blockKind;rw[X.fn];rfl
theorem Ks(X:fF c env){elt gens scope vp t tp line}:swapsWith (.ListComp elt gens scope vp) (some (.Name t tp)) line env=pure (tB c scope vp t tp):=by
 unfold swapsWith tB
 refine(?_:(pure (env.blockKind==.function&&env.kindOf t==some .local&&tp.line==vp.line&& !_):Sem Bool)=_)
 rw[Ff X,nw X]
 rfl
theorem FE(h:(!Ba value)=true){o:Option Expr}:swapsWith value o line env=pure false:=by
 unfold swapsWith
 cases value<;>first |rfl |exact bE h
theorem Sp(X:fF c env)(h:IT c tg value=true):swapsWith value (some tg) line env=pure false:=(Yw h).elim (λh=>FE h) λh=>
 Am (M:=λvalue=>swapsWith value (some tg) line env=pure false) h λa b sc vp h=>by
  cases tg with
  |Name t tp=>rw[Ks X,i7 (show(!tB c sc vp t tp)=true from h)]
  |_=>rfl
theorem UA(h:vs.all (!fv ·)=true):(vs.any λ| .Starred .. =>true |_=>false)=false:=by
 induction vs with
 |nil=>rfl
 |cons v vs ih=>
  rw[YU,YJ]at h
  rw[List.any_cons,ih h.2,Bool.or_false]
  cases v<;>first |rfl |exact bE h.1
theorem Ij(X:fF c env)(line:Nat):(ts.filterMap λ| .Name id pos=>if env.kindOf id==some .local&&pos.line==line then some id else none |_=>none)=ts.filterMap (j0 c line):=by
 congr 1
 funext e
 cases e with
 |Name id pos=>exact XB (λk=>if k==some .local&&pos.line==line then some id else none) (nw X id)
 |_=>rfl
structure zJ(c:Sc)(ts vs:List Expr):Prop where
 NA:(ts.length==2||ts.length==3)=true
 NC:vs.length=ts.length
 NB:vs.all (!fv ·)=true
 wO:(iC c ts).length=ts.length
 Nz:(iC c ts).eraseDups.length=(iC c ts).length
 nd:(iC c ts).Nodup
 W':vs.all (foldedForSure 8)=false
 Xc:vs.all (constantsAlone 8)=false
theorem UV(h:Kr c ts vs=true):zJ c ts vs:=by
 refine ba (YL h) λh h8=>?_
 refine RJ (Oh h) λh1 h2 h3 h4 h5 h6 h7=>?_
 exact⟨h1,XF h2,h3,XF h4,XF h5,XX h6,i7 h7,i7 h8⟩
theorem UZ(X:fF c env){k k' p p'}(h:zJ c ts vs):swappedStores [.Tuple ts k p] (.Tuple vs k' p') env=pure (some (iC c ts)):=by
 unfold swappedStores
 dsimp only
 have e:=Ij (ts:=ts) X (BH ts)
 split
 ·rename_i hh
  rw[h.NA,h.NC,bne_self_eq_false,Ff X]at hh
  exact bE hh
 ·split
  ·rename_i hh
   exact Bool.noConfusion ((UA h.NB).symm.trans hh)
  ·split
   ·rename_i hh
    have hh':=((XB (λN:List Str=>N.length !=ts.length||N.eraseDups.length !=N.length) e).symm).trans hh
    have hh':((iC c ts).length !=ts.length||(iC c ts).eraseDups.length !=(iC c ts).length)=true:=hh'
    rw[h.wO,h.Nz,bne_self_eq_false,h.wO,bne_self_eq_false]at hh'
    exact bE hh'
   ·rw[h.W',h.Xc]
    exact XB (λN=>(pure (some N):Sem _)) e
theorem UW(X:fF c env){k k' p p'}(h:((iC c ts).length !=ts.length)=true):swappedStores [.Tuple ts k p] (.Tuple vs k' p') env=pure none:=by
 unfold swappedStores
 dsimp only
 have e:=Ij (ts:=ts) X (BH ts)
 split
 ·rfl
 ·split
  ·rfl
  ·split
   ·rfl
   ·rename_i hh
    exact absurd ((XB (λN:List Str=>N.length !=ts.length||N.eraseDups.length !=N.length) e).trans (Bool.or_eq_true_iff.mpr (.inl h))) hh
theorem UX{k p}(h:(!xB value)=true):swappedStores [.Tuple ts k p] value env=pure none:=by
 cases value<;>first |rfl |exact bE h
theorem UY(h:(!xB tg)=true):swappedStores [tg] value env=pure none:=by
 cases tg<;>first |rfl |exact bE h
theorem U6{f:Expr->Ex->Bool}(h:oR Z.KN f d c tg t=true):(!fv tg)=true:=by
 rcases d with _ |d
 ·exact bE h
 ·rcases t with _ |_ |_ |_
  ·exact oU (M:=λtg=>(!fv tg)=true) h λ_ _ _=>rfl
  ·exact qq (M:=λtg=>(!fv tg)=true) h λ_ _ _ _=>rfl
  ·exact uE (M:=λtg=>(!fv tg)=true) h λ_ _ _ _=>rfl
  ·exact qp (M:=λtg=>(!fv tg)=true) h λ_ _ _ _=>rfl
theorem Nx(st:cK Z fr s μ s' μ' σ')(h1:s.heap.get? B=none)(h2:B∉μ')(h3:Z.cU.get? B=none){m:Str->Option Value}(hn:s'.heap.Ns B m)(hs:Heap.SameBut B s'.heap h')(t:Nat):cK Z fr s μ {s' with heap:=h',toks:=t} μ' σ'/\dl s'.heap μ' h' μ':=
 have k:=st.lA.pP h2 h3 (rJ hn).kW (jB hs)
 have ne:∀b o,s.heap.get? b=some o->b≠B:=λb o hb e=>gb h1 (e▸hb)
 ⟨⟨st.iI,k.1,λb o hb hn hf=>jB hs b o (ne b o hb) (st.iZ b o hb hn hf),λb o hb=>(st.l8 b o hb).imp λo' ho'=>jB hs b o' (ne b o hb) ho',st.jS,st.i4⟩,k.2⟩
theorem Op{gs:List Comprehension}{vp tp p:Pos}{tn:Str}(O:Ok w d)(h3:tB w.VR scope vp tn tp=true)(hu:wU w ρ σ v σ₁ elt gs scope vp)(ha:tD w v ρ σ₁ ρ' σ₂ (.Name tn tp))(b:At w ρ s μ σ):
  w.wp (exec (.Assign [.Name tn tp] (.ListComp elt gs scope vp) p) w.aE) (dF w .n ρ' σ₂ s μ) s:=by
 rw[exec_Assign_Name_used _ _ _ _ (by rw[Ks O.X,h3])]
 refine Xq (Yh (Xq ?_))
 refine(?_:w.wp (do let _<-comprehension (.ListComp elt gs scope vp) scope w.aE _ (newList []) (firstAsync gs) (firstIter gs w.aE) (some (assign (.Name tn tp) w.aE))) _ s)
 refine Xq (Wp.bZ (hu (some (assign (.Name tn tp) w.aE)) (λ_ s'=>dF w .n ρ' σ₂ s μ .next s') s μ b (λs' D B f q=>?_) _) λ_ s' hq=>Xu (Xu hq))
 obtain⟨m₁,st,r,b1,b2,b3,nm,hn⟩:=q
 have offB:∀c∈dE w.aE,c≠B:=λc hc e=>qw b b1 (e▸hc)
 refine Wp.bZ (ha s' m₁ _ (b.gT st) r) λ_ s₂ q=>?_
 obtain⟨m₂,st₂,a₂⟩:=q
 have hBm:B∉m₂:=λhm=>(st₂.i4 B hm).elim b2 λq=>(rJ hn).elim λo h=>gb q h.1
 have hn₂:s₂.heap.Ns B nm:=hn.at' λo ho=>st₂.iZ B o ho b2 λhm=>offB B hm rfl
 refine aC nm hn₂ (λh' hs=>?_)
 have k:=Nx ((st.fq (dE w.aE)).jT st₂) b1 hBm b3 hn₂ hs s₂.toks
 exact⟨m₂,k.1,⟨k.1.lA,a₂.VZ.v7 k.2 (λc hc=>(a₂.VZ.gw c hc).1) λc hc o ho=>jB hs c o (offB c hc) ho,a₂.mI⟩,rfl⟩
theorem zY{p:Pos}(he:ck w ρ σ value v σ₁)(ha:tD w v ρ σ₁ ρ' σ₂ tg)(ns:(!fv tg)=true)(hs:swapsWithSole [tg] value p.line w.aE=pure false)(hw:swappedStores [tg] value w.aE=pure none)(b:At w ρ s μ σ):w.wp (exec (.Assign [tg] value p) w.aE) (dF w .n ρ' σ₂ s μ) s:=by
 refine wpAny_Assign_stores (he.to b λu s₁ m₁ b₁ e₁ r₁=>?_) hs hw
 rw[show assignEach [tg] w.aE=[(false,assign tg w.aE)] from Ak (by rw[YU,ns];rfl)]
 exact Wp.bZ (ha s₁ m₁ u b₁ r₁) λ_ s₂ q=>q.sr.rY (e₁.fq _)
theorem UK(O:Ok w d)(l:List ((Str×Nat)×V)):∀(us:List Value) (ρ:aA) (s:Shared),(∀p∈l,p.1∈w.VR.VT/\w.VR.dD.lookup p.1.1=some .local)->At w ρ s μ σ->aR w.Vr.KN.aF s.heap μ (l.map (·.2)) us->
  w.wp (assignInOrder (l.map λp=>bindName w.aE p.1.1) us) (λ_=>gQ w (q8 ρ (l.map λp=>(p.1.2,p.2))) σ s μ) s:=by
 induction l with
 |nil=>exact λus ρ s hl a r=>Xu ⟨μ,.wN a.bH _,a⟩
 |cons p l ih=>
  intro us ρ s hl a r
  refine cP r ?_;clear r;intro v u q2 r1 r2;subst q2
  refine ba (hl p (XH ..)) λh1 h2=>?_
  refine wpAny_assignInOrder_more (wpAny_bindName (Wp.bZ (a.VZ.y4 (fr:=dE w.aE) (x:=p.1) a.bH O.X h1 (by rw[h2];exact λq=>NameKind.noConfusion (XA q)) r1 (XH ..) λd _ hl=>o7 hl) λ_ s₁ q=>?_))
  obtain⟨st,e1,a₁⟩:=q.WX a (O.X.dm _ h1)
  exact Wp.bZ (ih u _ s₁ (λp hp=>hl p (XI _ hp)) a₁ (aR.extW e1 _ r2)) λ_ s₂ q=>q.yD st
theorem Rz{f:Expr->Ex->Bool}(tts:List Tg):∀(ts:List Expr),cx (oR L f (d+1) c) ts tts=true->(ts.filterMap (j0 c line)).length=ts.length->zi c (ts.filterMap (j0 c line)) tts:=by
 induction tts with
 |nil=>exact λts h _=>kD (M:=λts=>zi c (ts.filterMap (j0 c line)) []) h ⟨[],rfl,rfl,λ_ h=>absurd h Ye⟩
 |cons t tts ih=>
  intro ts h
  refine iL (M:=λts=>(ts.filterMap (j0 c line)).length=ts.length->zi c (ts.filterMap (j0 c line)) (t::tts)) h λe es c1 c2 hl=>?_
  rcases he:j0 c line e with _ |id
  ·rw[List.filterMap_cons,he]at hl
   exact absurd (hl▸List.length_filterMap_le (j0 c line) es) (Nat.not_succ_le_self _)
  ·rw[List.filterMap_cons,he]at hl ⊢
   obtain⟨l,a1,a2,a3⟩:=ih es c2 (Nat.succ.inj hl)
   have k:∃i,t=.v i/\(id,i)∈c.VT/\c.dD.lookup id=some .local:=by
    rcases t with i |_ |_ |_
    ·refine oU (M:=λe=>j0 c line e=some id->_) c1 (λid' p c1 he=>?_) he
     have he:(if c.dD.lookup id'==some .local&&p.line==line then some id' else none)=some id:=he
     split at he
     ·next q=>cases he;exact dK i rfl (List.contains_iff_mem.mp (bV c1).1) (XF (bV q).1)
     ·exact bN he
    ·exact qq (M:=λe=>j0 c line e=some id->_) c1 (λ_ _ _ _ he=>bN he) he
    ·exact uE (M:=λe=>j0 c line e=some id->_) c1 (λ_ _ _ _ he=>bN he) he
    ·exact qp (M:=λe=>j0 c line e=some id->_) c1 (λ_ _ _ _ he=>bN he) he
   refine c8 k ?_;clear k;intro i q1 k1 k2;subst q1
   refine⟨(id,i)::l,XB (id::·) a1,XB (Tg.v i::·) a2,λp hp=>?_⟩
   rcases XL hp with e |hp
   ·exact e▸⟨k1,k2⟩
   ·exact a3 p hp
theorem On{k':Nat}{p q:Pos}(O:Ok w d)(he:ck w ρ σ (.Tuple vs k' p') v σ₁)(ha:EI (.t tts) v ρ σ₁ ρ' σ₂)(c2:cx (oR w.Vr.KN (cg w.Vr.KN 30 w.VR) 3 w.VR) ts tts=true)(hs:swapsWithSole [.Tuple ts k p] (.Tuple vs k' p') q.line w.aE=pure false)(h4:zJ w.VR ts vs)(b:At w ρ s μ σ):
  w.wp (exec (.Assign [.Tuple ts k p] (.Tuple vs k' p') q) w.aE) (dF w .n ρ' σ₂ s μ) s:=by
 refine c8 ha ?_;clear ha;intro xs hx hl ha
 obtain⟨l,a1,a2,a3⟩:=Rz tts ts c2 h4.wO
 have a1:l.map (·.1)=iC w.VR ts:=a1
 refine ba (ha (l.map (·.2)) (by rw[a2,XV];rfl)) λq0 q1=>?_;subst q0;subst q1
 refine Assign_Tuple_swapped (he.to b λu s₁ m₁ b₁ e₁ r₁=>?_) hs (UZ O.X h4)
 have hn:(iC w.VR ts).length=xs.length:=h4.wO.trans ((w5 c2).trans hl)
 rw[hn]
 refine KE b₁.bH O.V0.1 r₁ hx λh' us st₂ hr=>?_
 have hll:l.length=xs.length:=by rw[<-hn,<-a1,Xr]
 have z1:(l.zip xs).map (λp=>bindName w.aE p.1.1)=(iC w.VR ts).map λn=>bindName w.aE n:=by rw[<-a1,XV,<-List.map_fst_zip (Yd hll),XV,List.map_fst_zip (Yd hll)];rfl
 have z2:(l.zip xs).map (·.2)=xs:=List.map_snd_zip (Yd hll.symm)
 have z3:((l.zip xs).map λp=>(p.1.2,p.2))=(l.map (·.2)).zip xs:=by rw[List.zip_map_left];rfl
 have nd:(((l.zip xs).map λp=>(p.1.2,p.2)).map (·.1)).Nodup:=by
  rw[z3,List.map_fst_zip (by rw[Xr];exact Yd hll)]
  have q:=h4.nd
  rw[<-a1]at q
  exact List.pairwise_map.mpr ((List.pairwise_map.mp q).imp_of_mem λhx hy hne e=>hne (XB Prod.fst (xv O.X.sc.n2 (a3 _ hx).1 (a3 _ hy).1 e)))
 have k:=UK O (l.zip xs).reverse us.reverse ρ {s₁ with heap:=h'} (λp hp=>a3 _ (List.of_mem_zip (List.mem_reverse.mp hp)).1) (b₁.gT st₂) (by rw[Zn,z2];exact hr.reverse)
 rw[Zn,Zn,z1,Ve nd,z3,<-Zn]at k
 exact Wp.bZ k λ_ s₃ q=>q.sr.rY ((e₁.d0 st₂).fq _)
theorem Oo(h:Ev d 30 e ρ σ v σ₁)(h2:aQ d 30 4 t v ρ σ₁ ρ' σ₂):Eu d (n+1) (.a t e) ρ σ .n ρ' σ₂:=λw O st c s μ b=>
 Pj (M:=λst=>w.wp (exec st w.aE) (dF w .n ρ' σ₂ s μ) s) c λtgs value p c=>sy (M:=λtgs=>w.wp (exec (.Assign tgs value p) w.aE) (dF w .n ρ' σ₂ s μ) s) c λtg c=>by
  refine cO (cM c) λc1 c2 c3=>?_
  have he:=h w O value c1
  have ha:=h2.C7 w O tg c2
  rcases Yw c3 with c3 |c3
  ·exact Am (M:=λvalue=>bj w ρ σ v σ₁ value->w.wp (exec (.Assign [tg] value p) w.aE) (dF w .n ρ' σ₂ s μ) s) c3 (λelt gens sc vp c3 he=>oU (M:=λtg=>tD w v ρ σ₁ ρ' σ₂ tg->w.wp (exec (.Assign [tg] (.ListComp elt gens sc vp) p) w.aE) (dF w .n ρ' σ₂ s μ) s) c3 (λtn tp c3 ha=>Op O c3 he.cu ha b) ha) he
  ·refine ba (bV c3) λc3 c4=>?_
   have hs:swapsWithSole [tg] value p.line w.aE=pure false:=Sp O.X c3
   rcases Yw c4 with c4 |c4
   ·exact zY he.ev ha (U6 c2) hs (UY c4) b
   ·refine qq (M:=λtg=>oR w.Vr.KN (cg w.Vr.KN 30 w.VR) 4 w.VR tg t=true->tD w v ρ σ₁ ρ' σ₂ tg->swapsWithSole [tg] value p.line w.aE=pure false->w.wp (exec (.Assign [tg] value p) w.aE) (dF w .n ρ' σ₂ s μ) s) c4 (λts k p2 c4 c2 ha hs=>?_) c2 ha hs
    rcases Yw c4 with c4 |c4
    ·exact zY he.ev ha rfl hs (UX c4) b
    ·refine qq (M:=λvalue=>ck w ρ σ value v σ₁->swapsWithSole [.Tuple ts k p2] value p.line w.aE=pure false->w.wp (exec (.Assign [.Tuple ts k p2] value p) w.aE) (dF w .n ρ' σ₂ s μ) s) c4 (λvs k' p3 c4 he hs=>?_) he.ev hs
     rcases Yw c4 with c4 |c4
     ·exact zY he ha rfl hs (UW O.X c4) b
     ·rcases t with _ |tts |_ |_
      ·exact bE c2
      ·exact On O he h2.sw (bV c2).1 hs (UV c4) b
      ·exact bE c2
      ·exact bE c2
end
set_option backward.match.sparseCases false
noncomputable def LS(w:Wh)(fl:Fl)(ρ':aA)(σ':aj)(s:Shared)(μ:List Addr)(r:Result)(s':Shared):Prop:=match r with
 | .ok f=>dF w fl ρ' σ' s μ f s'
 | .error _=>False
noncomputable def EW(d n:Nat)(st:St)(ρ:aA)(σ:aj)(fl:Fl)(ρ':aA)(σ':aj):Prop:=match st with
 | .w c y=>∀w,Ok w d->∀test body,cg w.Vr.KN 30 w.VR test c=true->cx (ml w.Vr.KN 30 n.pred w.VR) body y=true->∀s μ,At w ρ s μ σ->codeAny (model w.Vr.bK w.Vr.VP) w.V1 (.whileLoop test body [] w.aE) (LS w fl ρ' σ' s μ) s
 |_=>True
structure ai(d n:Nat)(st:St)(ρ:aA)(σ:aj)(fl:Fl)(ρ':aA)(σ':aj):Prop where
 Et:Eu d n st ρ σ fl ρ' σ'
 Nl:EW d n st ρ σ fl ρ' σ'
inductive mO(d n:Nat)(t:Tg)(b:List St)(S:eM)(ρ':aA)(σ':aj):List V->aA->aj->Prop
 |y3 {σ:aj} (e:S.iG none σ=σ'):mO d n t b S ρ' σ' [] ρ' σ
 |v6 {x:V} {xs:List V} {ρ ρ₁ ρ₂:aA} {σ σ₁:aj} (hb:fM 4 t x ρ=some ρ₁) (h:ae d n b ρ₁ (S.iG (some xs) σ) .n ρ₂ σ₁) (hg:S.Wf xs σ₁) (h2:mO d n t b S ρ' σ' xs ρ₂ σ₁):mO d n t b S ρ' σ' (x::xs) ρ σ
noncomputable def bF(d n:Nat)(t:Tg)(b:List St)(S:eM)(xs:List V)(ρ:aA)(σ:aj)(fl:Fl)(ρ':aA)(σ':aj):Prop:=fl=.n/\mO d n t b S ρ' σ' xs ρ σ
section
variable {w:Wh}{s:Shared}{x y z u v:V}{xs:List V}{d n i k m:Nat}{e o a b c:Ex}{it:It}{bd:List St}{S:eM}{st:St}{ss:List St}
theorem dv(h:Ev d 30 e ρ σ v σ₁):ai d (n+1) (.e e) ρ σ .n ρ σ₁:=⟨λw O st c s μ a=>Pq (M:=λst=>w.wp (exec st w.aE) (dF w .n ρ σ₁ s μ) s) c λv p c=>
 wpAny_Expr_any ((h w O v (bV c).1).ev.to a λv s₁ m₁ a₁ e₁ r=>⟨m₁,e₁.fq _,a₁,rfl⟩) (by unfold interactive;rw[O.X.fn];rfl) (FE (bV c).2),trivial⟩
theorem RF{p:Pos}{c:Sc}(h:Bi e=true):cg L (n+1) c (.Constant .none 0 p) e=true:=by
 rcases e with _ |q |_ |_ |_ |_ |_ |_ |_ |_ |_ |_ |_ |_ |_ |_ |_ |_ |_ |_ |_ |_<;>first |exact bE h |skip
 rcases q with _ |_ |_ |_ |_ |_ |_ |_<;>first |exact bE h |rfl
theorem Ud{p:Pos}(h:∀e',cg w.Vr.KN 30 w.VR e' e=true->bj w ρ σ v σ₁ e')(hn:Bi e=true)(a:At w ρ s μ σ):w.wp (exec (.Return none p) w.aE) (dF w (.r v) ρ σ₁ s μ) s:=λΓ q hΓ=>by
 have k:R1 w.Vr s μ v σ₁ .none s:=(h (.Constant .none 0 p) (RF hn)).ev s μ a Γ q hΓ
 obtain⟨m,st,r⟩:=k
 have k:dF w (.r v) ρ σ₁ s μ (.ret .none) s:=⟨m,st.fq _,a.gT st,.none,rfl,r⟩
 exact k
theorem bM(h:Ev d 30 e ρ σ v σ₁):ai d (n+1) (.r e) ρ σ (.r v) ρ σ₁:=⟨λw O st c s μ a=>Po (M:=λst=>w.wp (exec st w.aE) (dF w (.r v) ρ σ₁ s μ) s) c λo p c=>(Yw c).elim
 (λc=>m7 (M:=λo=>w.wp (exec (.Return o p) w.aE) (dF w (.r v) ρ σ₁ s μ) s) c λe' c=>wpAny_Return_some ((h w O e' c).ev.to a λv s₁ m₁ a₁ e₁ r=>⟨m₁,e₁.fq _,a₁,_,rfl,r⟩))
 λc=>qt (M:=λo=>w.wp (exec (.Return o p) w.aE) (dF w (.r v) ρ σ₁ s μ) s) (bV c).1 (Ud (h w O) (bV c).2 a),trivial⟩
theorem cX{x y:List St}(h:Ev d 30 c ρ σ (.b true) σ₁)(h2:ae d n x ρ σ₁ fl ρ' σ₂):ai d (n+1) (.i c x y) ρ σ fl ρ' σ₂:=⟨λw O st c s μ a=>FU (M:=λst=>w.wp (exec st w.aE) (dF w fl ρ' σ₂ s μ) s) c λt b o p c=>
 wpAny_If (((h w O t (cM c).1).V8 _ rfl).to a λs₁ m₁ a₁ e₁=>Wp.bZ (h2 w O b (cM c).2.1 _ _ a₁) λf s₂ q=>q.rY (e₁.fq _)),trivial⟩
theorem bC{x y:List St}(h:Ev d 30 c ρ σ (.b false) σ₁)(h2:ae d n y ρ σ₁ fl ρ' σ₂):ai d (n+1) (.i c x y) ρ σ fl ρ' σ₂:=⟨λw O st c s μ a=>FU (M:=λst=>w.wp (exec st w.aE) (dF w fl ρ' σ₂ s μ) s) c λt b o p c=>
 wpAny_If (((h w O t (cM c).1).V8 _ rfl).to a λs₁ m₁ a₁ e₁=>Wp.bZ (h2 w O o (cM c).2.2 _ _ a₁) λf s₂ q=>q.rY (e₁.fq _)),trivial⟩
theorem bh{t:Tg}(h:Ev d 30 e ρ σ v σ₁)(h2:aQ d 30 4 t v ρ σ₁ ρ' σ₂):ai d (n+1) (.a t e) ρ σ .n ρ' σ₂:=⟨Oo h h2,trivial⟩
theorem aP:ae d n [] ρ σ .n ρ σ:=λw O ss c s μ a=>kD (M:=λss=>w.wp (execs ss w.aE) (dF w .n ρ σ s μ) s) c (wpAny_execs_nil ⟨μ,.wN a.bH _,a,rfl⟩)
theorem ao(h:ai d n st ρ σ .n ρ' σ₁)(h2:ae d n ss ρ' σ₁ fl ρ'' σ₂):ae d n (st::ss) ρ σ fl ρ'' σ₂:=λw O ss c s μ a=>iL (M:=λss=>w.wp (execs ss w.aE) (dF w fl ρ'' σ₂ s μ) s) c λst' ss' c1 c2=>wpAny_execs_cons (Wp.bZ (h.Et w O st' c1 s μ a) λf s₁ q=>by
 obtain⟨m₁,st,a₁,rfl⟩:=q
 exact Wp.bZ (h2 w O ss' c2 s₁ m₁ a₁) λf s₂ q=>q.rY st)
theorem Xp(h:ai d n st ρ σ .n ρ' σ₁):ae d n [st] ρ σ .n ρ' σ₁:=ao h aP
theorem be(h:ai d n st ρ σ (.r v) ρ' σ₁):ae d n (st::ss) ρ σ (.r v) ρ' σ₁:=λw O ss c s μ a=>iL (M:=λss=>w.wp (execs ss w.aE) (dF w (.r v) ρ' σ₁ s μ) s) c λst' ss' c1 c2=>wpAny_execs_cons (Wp.bZ (h.Et w O st' c1 s μ a) λf s₁ q=>by
 obtain⟨m₁,st,a₁,u,rfl,r⟩:=q
 exact⟨m₁,st,a₁,u,rfl,r⟩)
theorem LS.MB{r:Result}(st:cK w.Vr (dE w.aE) s μ s' μ' σ₁)(h:LS w fl ρ' σ' s' μ' r s''):LS w fl ρ' σ' s μ r s'':=by
 rcases r with _ |f
 ·exact h
 ·exact dF.rY st h
theorem KK(h:EW d (n+1) (.w c bl) ρ σ fl ρ' σ'):ai d (n+1) (.w c bl) ρ σ fl ρ' σ':=⟨λw O st k s μ a=>Ps (M:=λst=>w.wp (exec st w.aE) (dF w fl ρ' σ' s μ) s) k λtest body els p k=>xj (M:=λels=>w.wp (exec (.While test body els p) w.aE) (dF w fl ρ' σ' s μ) s) (cM k).1
 (wpAny_While (YY (h w O test body (cM k).2.1 (cM k).2.2 s μ a) λr s' q=>by
  rcases r with _ |f
  ·exact q.elim
  ·exact q)),h⟩
theorem l7(h:Ev d 30 c ρ σ (.b true) σ₁)(h2:ae d n bl ρ σ₁ .n ρ' σ₂)(h3:ai d (n+1) (.w c bl) ρ' σ₂ fl ρ'' σ₃):ai d (n+1) (.w c bl) ρ σ fl ρ'' σ₃:=KK λw O test body c1 c2 s μ a=>by
 refine Zm ?_
 refine(?_:wpAny _ w.V1 ((whileTurn test body [] w.aE).onRaise (λx=>do noteFrame x w.aE;theTreesLotGoes x)) _ _ s)
 refine wpAny_noted (nA (Xq (((h w O test c1).V8 _ rfl).to a λs₁ m₁ a₁ e₁=>Xq (Wp.bZ (h2 w O body c2 s₁ m₁ a₁) λf s₂ q=>?_))))
 obtain⟨m₂,st,a₂,rfl⟩:=q
 exact Xu ⟨rfl,YY (h3.Nl w O test body c1 c2 s₂ m₂ a₂) λr s₃ q=>q.MB ((e₁.fq _).jT st)⟩
theorem iY(h:Ev d 30 c ρ σ (.b false) σ₁):ai d (n+1) (.w c bl) ρ σ .n ρ σ₁:=KK λw O test body c1 c2 s μ a=>by
 refine Zm ?_
 refine(?_:wpAny _ w.V1 ((whileTurn test body [] w.aE).onRaise (λx=>do noteFrame x w.aE;theTreesLotGoes x)) _ _ s)
 exact wpAny_noted (nA (Xq (((h w O test c1).V8 _ rfl).to a λs₁ m₁ a₁ e₁=>Xq (wpAny_execs_nil (Xu ⟨m₁,e₁.fq _,a₁,rfl⟩)))))
theorem fG:bF d n tg bd S [] ρ σ .n ρ (S.iG none σ):=⟨rfl,.y3 rfl⟩
theorem fc(hb:fM 4 tg x ρ=some ρ')(h:ae d n bd ρ' (S.iG (some xs) σ) .n ρ'' σ₁)(hg:S.Wf xs σ₁){ρ₃:aA}(h2:bF d n tg bd S xs ρ'' σ₁ fl ρ₃ σ₂):bF d n tg bd S (x::xs) ρ σ fl ρ₃ σ₂:=⟨h2.1,.v6 hb h hg h2.2⟩
theorem mO.LM{ys zs:List V}(h:mO d n tg bd (.bx ys) ρ' σ' xs ρ σ)(h2:mO d n tg bd (.bx ys) ρ'' σ₂ zs ρ' σ'):mO d n tg bd (.bx ys) ρ'' σ₂ (xs++zs) ρ σ:=by
 induction h with
 |y3 e=>cases e;exact h2
 |v6 hb h hg _ ih=>exact .v6 hb h hg ih
theorem LN{ys zs:List V}(h:bF d n tg bd (.bx ys) xs ρ σ .n ρ' σ')(h2:bF d n tg bd (.bx ys) zs ρ' σ' fl ρ'' σ₂):bF d n tg bd (.bx ys) (xs++zs) ρ σ fl ρ'' σ₂:=⟨h2.1,h.2.LM h2.2⟩
theorem VI{ys:List V}(I:List V->aA->aj->Prop)(step:∀x xs ρ σ,I (x::xs) ρ σ->∃ρ' ρ'' σ',fM 4 tg x ρ=some ρ'/\ae d n bd ρ' σ .n ρ'' σ'/\I xs ρ'' σ'):∀{xs:List V} {ρ:aA} {σ:aj},I xs ρ σ->∃ρ' σ',bF d n tg bd (.bx ys) xs ρ σ .n ρ' σ'/\I [] ρ' σ':=by
 intro xs
 induction xs with
 |nil=>exact λh=>eE _ _ fG h
 |cons x xs ih=>
  intro ρ σ h
  refine nC (step x xs ρ σ h) λρ' ρ'' σ' h1 h2 h3=>?_
  refine dY (ih h3) λρ₃ σ₃ h4 h5=>?_
  exact eE ρ₃ σ₃ (fc (S:=.bx ys) h1 h2 trivial h4) h5
theorem At.C9(a:At w ρ s μ σ):∀b∈dE w.aE,∀o,s.heap.get? b=some o->gm o=false:=λb hb=>(a.VZ.tr b hb).kW
theorem PZ{tgE:Expr}{body:List Stmt}(O:Ok w d)(ht:qo false 4 w.VR tgE tg=true)(hb:cx (ml w.Vr.KN 30 n w.VR) body bd=true)(hw:∀b∈wr,s₀.heap.get? b=none)(hf:∀b∈dE w.aE,b∉wr)(h:mO d n tg bd S ρ' σ' xs ρ σ):
  ∀s μ,At w ρ s μ σ->cK w.Vr (dE w.aE) s₀ μ₀ s μ σ->lU w.Vr I wr (dE w.aE) S xs s.heap μ σ->codeAny (model w.Vr.bK w.Vr.VP) w.V1 (.forLoop tgE (.ref I) body [] w.aE) (LS w .n ρ' σ' s₀ μ₀) s:=by
 induction h with
 |y3 e=>
  intro s μ a B io
  refine Zm ?_
  refine(?_:wpAny _ w.V1 ((forTurn tgE (.ref I) body [] w.aE).onRaise (λx=>do noteFrame x w.aE;theTreesLotGoes x)) _ _ s)
  refine wpAny_noted (nA (Xq (Yh (Xq (wpAny_onRaise (wpAny_mono (io w.V1 s O.V0.1 rfl a.bH) (λr s₁ q=>?_) λ_ _ q=>q.elim))))))
  obtain⟨rfl,st⟩:=q
  rw[e]at st
  exact Xu ⟨rfl,codeAny_block (wpAny_execs_nil (show LS w .n _ σ' s₀ μ₀ (.ok .next) s₁ from⟨μ,B.wM st hw,a.vQ st hf,rfl⟩))⟩
 | @v6 x xs ρ ρ₁ ρ₂ σ σ₁ hb2 h hg _ ih=>
  intro s μ a B io
  refine Zm ?_
  refine(?_:wpAny _ w.V1 ((forTurn tgE (.ref I) body [] w.aE).onRaise (λx=>do noteFrame x w.aE;theTreesLotGoes x)) _ _ s)
  refine wpAny_noted (nA (Xq (Yh (Xq (wpAny_onRaise (wpAny_mono (io w.V1 s O.V0.1 rfl a.bH) (λr s₁ q=>?_) λ_ _ q=>q.elim))))))
  obtain⟨v,rfl,hgo⟩:=q
  refine Xq (Wp.bZ (hgo tgE) λ_ s₂ q=>?_)
  obtain⟨st,rv,later⟩:=q
  have a₂:=a.vQ st hf
  refine Xq (Wp.bZ (Kw (fr:=dE w.aE) O (XH ..) (λ_ _ _ _ hl=>o7 hl) 4 tgE tg ht x ρ ρ₁ s₂ μ _ v hb2 a₂ rv) λ_ s₃ q=>?_)
  obtain⟨st₃,_,a₃⟩:=q
  refine Xq (Wp.bZ (h w O body hb s₃ μ a₃) λf s₄ q=>?_)
  obtain⟨m₄,st₄,a₄,rfl⟩:=q
  have turn:=st₃.jT st₄
  exact Xu ⟨rfl,ih s₄ m₄ a₄ ((B.wM st hw).jT turn) (later s₄.heap m₄ σ₁ ⟨turn.iZ,a₂.C9,turn.jS,turn.i4⟩ hg a₄.bH)⟩
theorem fg(h:bA d 30 it ρ σ S σ₁)(h2:bF d n tg bd S S.qd ρ σ₁ fl ρ' σ₂):ai d (n+1) (.l tg it bd) ρ σ fl ρ' σ₂:=⟨λw O st c s μ a=>Pm (M:=λst=>w.wp (exec st w.aE) (dF w fl ρ' σ₂ s μ) s) c λtgE iter body els p c=>xj (M:=λels=>w.wp (exec (.For tgE iter body els p) w.aE) (dF w fl ρ' σ₂ s μ) s) (eQ c).1 (by
 obtain⟨rfl,h2⟩:=h2
 refine wpAny_For (Wp.bZ (h w O iter (eQ c).2.1 s μ a) λx s₁ q=>Wp.bZ q λitv s₂ q=>?_) λx=>B5 (bV (eQ c).2.1).1
 obtain⟨I,wr,m₂,rfl,st,g,h5,h6,h8,h9⟩:=q
 have a₂:=a.gT st
 have fw:∀b∈dE w.aE,b∉wr:=λb hb hm=>qw a (h5 b hm).1 hb
 have fok:tS (dE w.aE) s₂.heap m₂ wr I:=λb hb=>.inr ⟨a₂.VZ.tr b hb,(a₂.VZ.gw b hb).1,fw b hb,λe=>h6.elim (λq=>qw a q (e▸hb)) λq=>(a.VZ.gw b hb).1 (e▸q)⟩
 exact YY (PZ O (eQ c).2.2.1 (eQ c).2.2.2 (λb hb=>(h5 b hb).1) fw h2 s₂ m₂ a₂ (st.fq _) (h8 _ fok s₂.heap m₂ σ₁ ⟨λ_ _ hb _ _=>hb,a₂.C9,Yn _,λ_ hb=>.inl hb⟩ g st.eN)) λr s' q=>by
  rcases r with _ |f
  ·exact q.elim
  ·exact q),trivial⟩
end
section
variable {h:Heap}{n m:Nat}
theorem Og{P:V->Bool}{l:List V}{f:List V->Bool}(h0:f []=true)(h1:∀x xs,f (x::xs)=(P x&&f xs))(h:∀x∈l,P x=true):f l=true:=by
 induction l with
 |nil=>exact h0
 |cons x l ih=>rw[h1,h x (XH ..),ih λy hy=>h y (XI _ hy)];rfl
theorem uY(U:V){v:Value}:aS cl h μ U v->U.lo μ.length=true:=V.rec (motive_1:=λU=>∀v,aS cl h μ U v->U.lo μ.length=true) (motive_2:=λVs=>∀vs,aR cl h μ Vs vs->V.loAll μ.length Vs=true)
 (λ_ _=>rfl) (λ_ _ _=>rfl) (λ_ _ _=>rfl) (λ_ _ _=>rfl) (λxs ih _ r=>by refine u9 r ?_;clear r;intro a vs n _ _ _ hr;exact ih _ hr)
 (λi _ r=>by refine az r ?_;clear r;intro x hx _;exact XT (XZ hx).1) (λc i _ r=>by refine dY r ?_;clear r;intro x d hd _;exact XT (XZ hd).1)
 (λxs _ _ r=>by
  refine ba r ?_;clear r;intro _ q1;subst q1
  refine(?_:V.loAll μ.length (cl.vR.map .i)=true)
  exact Og (P:=V.lo μ.length) (f:=V.loAll μ.length) rfl (λ_ _=>rfl) λx hx=>by refine az (Yf hx) λi _ q2=>?_;subst q2;rfl)
 (λ_ _=>rfl) (λU Us ih ihs _ r=>by refine cP r ?_;clear r;intro v u _ r1 r2;exact Zk ⟨ih _ r1,ihs _ r2⟩) U v
theorem BJ{Us:List V}:∀{vs:List Value},aR cl h μ Us vs->V.loAll μ.length Us=true:=by
 induction Us with
 |nil=>exact λ_=>rfl
 |cons U Us ih=>exact λr=>by refine cP r ?_;clear r;intro v u _ r1 r2;exact Zk ⟨uY U r1,ih r2⟩
theorem tC{l:List α}{i:Nat}(h:i < n):(l.take n)[i]? =l[i]?:=by rw[List.getElem?_take,Xz h]
theorem tu(U:V){v:Value}:U.lo n=true->aS cl h μ U v->aS cl h (μ.take n) U v:=V.rec (motive_1:=λU=>∀v,U.lo n=true->aS cl h μ U v->aS cl h (μ.take n) U v) (motive_2:=λUs=>∀vs,V.loAll n Us=true->aR cl h μ Us vs->aR cl h (μ.take n) Us vs)
 (λ_ _ r=>r) (λ_ _ _ r=>r) (λ_ _ _ r=>r) (λ_ _ _ r=>r) (λxs ih _ l r=>by refine u9 r ?_;clear r;intro a vs m h1 h2 h3 hr;exact BR a vs m h1 h2 (λhm=>h3 (Zh hm)) (ih _ l hr))
 (λi _ l r=>by refine az r ?_;clear r;intro x hx e;exact aC x ((tC (XX l)).trans hx) e) (λc i _ l r=>by refine dk r ?_;clear r;intro x d hd e hx ho;exact di x d ((tC (XX l)).trans hd) e (λhm=>hx (Zh hm)) ho)
 (λ_ _ _ _ r=>r) (λ_ _ r=>r) (λU Us ih ihs _ l r=>by refine cP r ?_;clear r;intro v u e r1 r2;exact dN v u e (ih _ (YL l).1 r1) (ihs _ (YL l).2 r2)) U v
theorem CI{Us:List V}:∀{vs:List Value},V.loAll n Us=true->aR cl h μ Us vs->aR cl h (μ.take n) Us vs:=by
 induction Us with
 |nil=>exact λ_ r=>r
 |cons U Us ih=>exact λl r=>by refine cP r ?_;clear r;intro v u e r1 r2;exact dN v u e (tu U (YL l).1 r1) (ih (YL l).2 r2)
theorem Q5(hm:n<=m)(U:V):U.lo n=true->U.lo m=true:=V.rec (motive_1:=λU=>U.lo n=true->U.lo m=true) (motive_2:=λUs=>V.loAll n Us=true->V.loAll m Us=true)
 (λ_=>rfl) (λ_ _=>rfl) (λ_ _=>rfl) (λ_ _=>rfl) (λ_ ih=>ih) (λi l=>XT (XJ (XX l) hm)) (λ_ i l=>XT (XJ (XX l) hm)) (λ_ ih=>ih)
 (λ_=>rfl) (λU Us ih ihs l=>Zk ⟨ih (YL l).1,ihs (YL l).2⟩) U
theorem HU(hm:n<=m){Us:List V}:V.loAll n Us=true->V.loAll m Us=true:=by
 induction Us with
 |nil=>exact λ_=>rfl
 |cons U Us ih=>exact λl=>Zk ⟨Q5 hm U (YL l).1,ih (YL l).2⟩
theorem F2.lo{f:α->V}(h:∀a b,R a b->(f a).lo n=true)(r:F2 R as bs):V.loAll n (as.map f)=true:=by
 induction r with
 |d8=>rfl
 |eJ k _ ih=>exact Zk ⟨h _ _ k,ih⟩
theorem F2.v3{f:α->V}(h:∀a b,(f a).lo n=true->R a b->T a b)(r:F2 R as bs)(l:V.loAll n (as.map f)=true):F2 T as bs:=by
 induction r with
 |d8=>exact .d8
 |eJ k _ ih=>exact .eJ (h _ _ (YL l).1 k) (ih (YL l).2)
theorem IM{ps:List (V×V)}:V.loAll n (ps.map λp=>.t [p.1,p.2])=true↔V.loAll n (ps.map (·.1))=true/\V.loAll n (ps.map (·.2))=true:=by
 induction ps with
 |nil=>exact⟨λ_=>⟨rfl,rfl⟩,λ_=>rfl⟩
 |cons p ps ih=>
  refine(?_:((p.1.lo n&&(p.2.lo n&&true))&&V.loAll n (ps.map λp=>.t [p.1,p.2]))=true↔(p.1.lo n&&V.loAll n (ps.map (·.1)))=true/\(p.2.lo n&&V.loAll n (ps.map (·.2)))=true)
  rw[Bool.and_true,YJ,YJ,YJ,YJ,ih]
  exact⟨λq=>⟨⟨q.1.1,q.2.1⟩,q.1.2,q.2.2⟩,λq=>⟨⟨q.1.1,q.2.1⟩,q.1.2,q.2.2⟩⟩
end
section
variable {h:Heap}{s:Shared}{i n m:Nat}{o:O}{xs:List V}{U:V}{v:Value}
noncomputable def O.DX:O->Bool
 | .i _=>true
 |_=>false
theorem dC.lo(hi:o.DX=false)(r:dC Z h μ i x o):o.lo μ.length=true:=by
 rcases o with _ |_ |_ |_ |_ |_ |_
 ·refine dY r ?_;clear r;intro vs n _ h2;exact BJ h2
 ·refine az r ?_;clear r;intro kvs _ h2;exact h2.lo λa b k=>uY a.2 k.2
 ·refine az r ?_;clear r;intro kvs _ h2;exact h2.lo λa b k=>uY a.2 k.2
 ·refine az r ?_;clear r;intro ks _ h2;exact h2.lo λa b k=>uY a.2 k.2
 ·refine dY r ?_;clear r;intro es n _ h2;exact h2.lo λa b k=>uY a.2 k.2
 ·exact Bool.noConfusion hi
 ·rfl
theorem dC.Ng(l:o.lo n=true)(r:dC Z h μ i x o):dC Z h (μ.take n) i x o:=by
 rcases o with _ |_ |_ |_ |_ |_ |_
 ·refine dY r ?_;clear r;intro vs m h1 h2;exact eE vs m h1 (CI l h2)
 ·refine az r ?_;clear r;intro kvs h1 h2;exact aC kvs h1 (h2.v3 (λa b l k=>⟨k.1,tu a.2 l k.2⟩) l)
 ·refine az r ?_;clear r;intro kvs h1 h2;exact aC kvs h1 (h2.v3 (λa b l k=>⟨k.1,tu a.2 l k.2⟩) l)
 ·refine az r ?_;clear r;intro ks h1 h2;exact aC ks h1 (h2.v3 (λa b l k=>⟨⟨k.1.1,λhm=>k.1.2 (Zh hm)⟩,tu a.2 l k.2⟩) l)
 ·refine dY r ?_;clear r;intro es m h1 h2;exact eE es m h1 (h2.v3 (λa b l k=>⟨k.1,tu a.2 l k.2⟩) l)
 ·exact bE l
 ·exact r
theorem Qq(r:dC Z h μ i x (.i xs)):V.loAll μ.length xs=true:=by
 refine pb r ?_;clear r;intro as bs ps j _ h1 h2 q7;subst q7
 exact IM.mpr ⟨BJ h1,BJ h2⟩
theorem Qr(hi:i+3 < n)(l:V.loAll n xs=true)(r:dC Z h μ i x (.i xs)):dC Z h (μ.take n) i x (.i xs):=by
 refine pb r ?_;clear r;intro as bs ps j z h1 h2 q7;subst q7
 refine ba (IM.mp l) λl1 l2=>?_
 refine kL as bs ps j ?_ (CI l1 h1) (CI l2 h2) rfl
 exact z.casesOn λf0 u TI TO i1 i2 t1 t2 n1 n2 o1 o2 k0 hf hO e1 e2 aI a1 a2 pI pO r1 r2 g1 g2=>⟨f0,u,TI,TO,i1,i2,t1,t2,n1,n2,o1,o2,k0,hf,(tC (jb (hY hi))).trans hO,(tC (qL hi)).trans e1,(tC hi).trans e2,λhm=>aI (Zh hm),λhm=>a1 (Zh hm),λhm=>a2 (Zh hm),pI,pO,r1,r2,g1,g2⟩
theorem MJ(hm:n<=m)(l:o.lo n=true):o.lo m=true:=by
 rcases o with _ |_ |_ |_ |_ |_ |_<;>first |exact HU hm l |exact bE l |rfl
theorem Jb{l:List α}(h:l <+:l')(hi:i < l.length):l'[i]? =l[i]?:=by refine aT h ?_;clear h;intro t q1;subst q1;exact Yl hi
theorem br.EB(I:aU Z s.heap μ σ)(st:br Z s μ s' μ' σ')(d:nY σ σ' τ U)(r:aS Z.KN.aF s'.heap μ' U v):br Z s μ s' (μ'.take τ.length) τ/\aS Z.KN.aF s'.heap (μ'.take τ.length) U v:=by
 obtain⟨pre,le,val,objs⟩:=d
 have J:=st.eN
 have hle:τ.length<=μ'.length:=by rw[J.eu];exact pre.length_le
 have lt_:∀{i:Nat} {o:O},τ[i]? =some o->i < τ.length:=λh=>(XZ h).1
 have up:∀{i:Nat} {o:O},τ[i]? =some o->σ'[i]? =some o:=λh=>(Jb pre (lt_ h)).trans h
 have old:∀{i:Nat} {x:Addr} {o:O},(μ'.take τ.length)[i]? =some x->τ[i]? =some o->μ'[i]? =some x:=λhx ho=>(tC (lt_ ho)).symm.trans hx
 have iters:∀{i:Nat} {xs:List V},τ[i]? =some (.i xs)->σ[i]? =some (.i xs)/\i+3 < τ.length:=λ{i xs} h=>by
  have h1:=(objs i _ h).resolve_right YE
  refine az (I.iT i xs h1 2 (by decide)) λoo h3 _=>?_
  exact bm h1 (XJ (XZ h3).1 le)
 have ext:dx s.heap μ s'.heap (μ'.take τ.length):=⟨st.bJ.iE,by obtain⟨t,ht⟩:=st.bJ.lM;exact fB (t.take (τ.length - μ.length)) (by rw[<-ht,List.take_append,List.take_of_length_le (l:=μ) (by rw[I.eu];exact le)]),λb hb=>st.bJ.lb b (Zh hb)⟩
 have tot:∀{i:Nat} {o:O},σ[i]? =some o->∃x,dC Z s.heap μ i x o:=λh=>(I.at h).imp λx q=>q.2.2
 refine bm (⟨st.jR,⟨(List.length_take.trans (Nat.min_eq_left hle)),J.jI.sublist (List.take_sublist _ _),J.dM,λb hb=>J.jH b (Zh hb),λb hb=>J.iU b (Zh hb),λi x o hx ho=>?_,λi xs h j hj=>?_,J.ki,λi x o hx ho hd=>J.jr i x o (old hx ho) (up ho) hd⟩,ext⟩) (tu U val r)
 ·have ro:=J.fU i x o (old hx ho) (up ho)
  rcases hit:o.DX with _ |_
  ·refine ro.Ng ?_
   rcases objs i o ho with h1 |h1
   ·refine aT (tot h1) λy r0=>?_
    exact MJ (by rw[I.eu];exact le) (r0.lo hit)
   ·exact h1
  ·rcases o with _ |_ |_ |_ |_ |xs |_<;>first |exact Bool.noConfusion hit |skip
   refine ba (iters ho) λh1 h2=>?_
   refine aT (tot h1) λy r0=>?_
   exact Qr h2 (HU (by rw[I.eu];exact le) (Qq r0)) ro
 ·refine ba (iters h) λh1 h2=>?_
  refine az (J.iT i xs (up h) j hj) λo' h5 h6=>?_
  exact aC o' ((Jb pre (by lia)).symm.trans h5) h6
theorem Pe(hp:σ <+:σ'){v:V}(hv:v.lo σ.length=true):nY σ σ' σ v:=⟨hp,Xx _,hv,λi o h=>.inl h⟩
end
section
variable {kindOf:Str->Option NameKind}{n:Str}{v:Value}
theorem Fp(names:List (Str×NameKind)):∀(n:Nat) (acc:List (Str×Addr)),(cellsFrom n names acc).map (·.1)=w7 names++acc.map (·.1):=by
 induction names with
 |nil=>exact λn acc=>rfl
 |cons x r ih=>
  intro n acc
  unfold cellsFrom w7
  rw[List.filter_cons]
  by_cases h:(x.2==NameKind.cell)=true
  ·rw[Xz h,Xz h,ih,XD,XD,List.reverse_cons,XU];rfl
  ·rw[XC h,XC h,ih];rfl
theorem Ox(bs:List (Str×Value)):∀{m:Str->Option Value},n∉bs.map (·.1)->bindL kindOf bs m n=m n:=by
 induction bs with
 |nil=>exact λ_=>rfl
 |cons p r ih=>
  intro m h
  rw[XD,Yt,not_or]at h
  unfold bindL
  rw[ih h.2]
  split
  ·exact XC h.1
  ·rfl
theorem Ow(hk:kindOf n=some .local)(bs:List (Str×Value)):∀{m:Str->Option Value},(bs.map (·.1)).Nodup->(n,v)∈bs->bindL kindOf bs m n=some v:=by
 induction bs with
 |nil=>exact λ_ h=>absurd h Ye
 |cons p r ih=>
  intro m hn h
  rw[XD,Zg]at hn
  unfold bindL
  rcases XL h with e |h
  ·rw[<-e]at hn ⊢
   rw[Ox r hn.1,Xz hk];exact Xz rfl
  ·exact ih hn.2 h
theorem Ov(bs:List (Str×Value)):∀{m:Str->Option Value},n∉bs.map (·.1)->bindC kindOf bs m n=m n:=by
 induction bs with
 |nil=>exact λ_=>rfl
 |cons p r ih=>
  intro m h
  rw[XD,Yt,not_or]at h
  unfold bindC
  rw[ih h.2]
  split
  ·rfl
  ·exact XC h.1
theorem Ou(hk:kindOf n≠some .local)(bs:List (Str×Value)):∀{m:Str->Option Value},(bs.map (·.1)).Nodup->(n,v)∈bs->bindC kindOf bs m n=some v:=by
 induction bs with
 |nil=>exact λ_ h=>absurd h Ye
 |cons p r ih=>
  intro m hn h
  rw[XD,Zg]at hn
  unfold bindC
  rcases XL h with e |h
  ·rw[<-e]at hn ⊢
   rw[Ov r hn.1,XC hk];exact Xz rfl
  ·exact ih hn.2 h
end
section
variable {s:Shared}{d k:Nat}{f:Fn}{args:List V}{v:V}
theorem Uf(h:ud (d+1) A)(env:PySem.Env):Rm d (A.deeper env):=by
 refine cO h ?_;clear h;intro h1 h2 h3
 exact fA h1 ((by lia:A.depth+1+3 * d+9<=900)) ((by lia:A.units+3+20 * d+1095<=cLine))
structure ML(X:oh Z.KN (Z.KN.fn k) f)(env:PySem.Env)(args:List V)(s:Shared)(μ:List Addr)(s₁:Shared)(σ:aj):Prop where
 MM:fF X.Wg env
 WZ:br Z s μ s₁ μ σ
 MN:∀b∈dE env,s.heap.get? b=none
 W7:eK Z.KN.aF Z.cU s₁.heap μ env X.Wg.VT (bf args)
theorem RX(X:oh Z.KN (Z.KN.fn k) f)(I:aU Z s.heap μ σ)(r:aR Z.KN.aF s.heap μ args vals)(hlen:args.length=f.mN)
  (hi:InCallC s (callEnvC X.Wi s.heap.objs.size (Z.KN.fn k)).locals (bindL (callEnvC X.Wi s.heap.objs.size (Z.KN.fn k)).kindOf (X.ld.zip vals) λ_=>none) (callEnvC X.Wi s.heap.objs.size (Z.KN.fn k)).cells (bindC (callEnvC X.Wi s.heap.objs.size (Z.KN.fn k)).kindOf (X.ld.zip vals) λ_=>none) s₁):
  ML X (callEnvC X.Wi s.heap.objs.size (Z.KN.fn k)) args s μ s₁ σ:=by
 have zk:(X.ld.zip vals).map (·.1)=X.ld:=List.map_fst_zip (by rw[<-r.length,hlen,X.v5];exact Xx _)
 have keys:(cellsFrom (s.heap.objs.size+1) X.Wi.scope.names []).map (·.1)=X.Wg.jP:=by rw[Fp,X.Dy];exact Yi _
 revert hi
 generalize henv:callEnvC X.Wi s.heap.objs.size (Z.KN.fn k)=env
 intro hi
 have hk:=hi.toInCall.keep
 obtain⟨h',tk,rfl⟩:=hi.toInCall.same
 have st:br Z s μ {s with heap:=h',toks:=tk} μ σ:=iH I hk tk
 have big:∀b∈dE env,s.heap.objs.size<=b:=λb hb=>by
  rcases XL hb with e |hb
  ·exact e▸hi.toInCall.fresh
  ·refine az (Yf hb) λy hy q2=>?_;subst q2
   exact Yj (YH hi.toInCall.fresh (hi.above y.1 y.2 hy))
 have new:∀b∈dE env,s.heap.get? b=none:=λb hb=>mz (big b hb)
 have cl:env.cells.map (·.1)=X.Wg.jP:=by rw[<-henv];exact keys
 have XE:fF X.Wg env:=⟨by rw[<-henv];exact X.yZ,cl,by rw[<-henv];exact X.LJ,by rw[<-henv];exact X.LC,by rw[<-henv];exact X.Dz,X.sc,List.nodup_cons.mpr ⟨λhm=>by
  refine az (Yf hm) λy hy e=>?_
  exact YW _ ((show y.2=env.locals from e)▸hi.above y.1 y.2 hy),List.pairwise_map.mpr hi.apart⟩,X.dm⟩
 have val_at:∀x∈X.Wg.VT,∀V,bf args x.2=some V->∃v,(x.1,v)∈X.ld.zip vals/\aS Z.KN.aF h' μ V v:=λx hx V hV=>by
  refine az (r.get (show args[x.2]? =some V from hV)) λv hv rv=>?_
  have hlt:x.2 < X.ld.length:=by rw[X.v5,<-hlen];exact(XZ (show args[x.2]? =some V from hV)).1
  have e:x=(X.ld[x.2],x.2):=xv X.sc.n2 hx (X.y0 x.2 _ (Yu hlt)) rfl
  exact aC v (Yo (i:=x.2) (List.getElem?_zip_eq_some.mpr ⟨(Yu hlt).trans (XB some (XB Prod.fst e).symm),hv⟩)) (rv.cE st.bJ)
 refine⟨XE,st,new,λb hb=>⟨(I.eY (new b hb)).1,(I.eY (new b hb)).2,?_⟩,(aC _ hi.toInCall.ns (λx hx hl V hV=>?_)),λn cc hc=>(aC _ (hi.cell n cc hc) (λx hx hn hl V hV=>?_))⟩
 ·rcases XL hb with e |hb
  ·exact e▸rJ hi.toInCall.ns
  ·refine az (Yf hb) λy hy q2=>?_;subst q2
   refine aT (xH (Yz (aC y hy rfl))) λa ha=>?_
   have e:y.2=a:=(Prod.mk.inj (BY (Γ:=env.cells) (cl▸X.sc.n3) hy (Ze ha) rfl)).2
   exact e▸De (hi.cell y.1 a ha)
 ·refine az (val_at x hx V hV) λv hv rv=>?_
  exact aC v (Ow hl _ (by rw[zk];exact X.DA) hv) rv
 ·refine az (val_at x hx V hV) λv hv rv=>?_
  exact aC v (Ou hl _ (by rw[zk];exact X.DA) (hn▸hv)) rv
theorem Fk(h:ae d 12 f.dZ (bf args) σ fl ρ' σ')(G:rE Z)(R:ud (d+1) A)(X:oh Z.KN (Z.KN.fn k) f)(I:aU Z s.heap μ σ)(r:aR Z.KN.aF s.heap μ args vals)(hlen:args.length=f.mN):
  codeAny (model Z.bK Z.VP) A (.call (.ref (Z.KN.fn k)) ⟨vals,[]⟩) (Es Z s μ (yl fl) σ') s:=by
 have XK:Z.KN.VQ.In s.heap:=G.Wb.keeps I.dM
 have hvl:vals.length=f.mN:=r.length.symm.trans hlen
 have keys:(cellsFrom (s.heap.objs.size+1) X.Wi.scope.names []).map (·.1)=X.Wg.jP:=by rw[Fp,X.Dy];exact Yi _
 have zk:(X.ld.zip vals).map (·.1)=X.ld:=List.map_fst_zip (by rw[hvl,X.v5];exact Xx _)
 refine codeAny_call_cells (by have:=R.2.1;unfold recursionLimit;lia) (XK _ _ X.Ly) X.LH (G.L0.keeps I.dM) (X.LG _ XK) X.LB (X.Lz vals hvl) X.LF (λx hx=>?_) (λs₁ hi=>?_) X.co X.LI X.Dz
 ·have keys:(cellsFrom (s.heap.objs.size+1) X.Wg.dD []).map (·.1)=X.Wg.jP:=X.yZ▸keys
  refine aT (List.getElem?_of_mem (zk▸Yz (aC x hx rfl):x.1∈X.ld)) λj hj=>?_
  rw[X.yZ]
  exact(X.sc.EA _ (X.y0 j _ hj)).imp id λq=>⟨q.1.resolve_right λh=>X.LK _ (Ze h) rfl,Option.isSome_iff_exists.mpr (xH (keys.symm▸q.2))⟩
 ·have O:=RX X I r hlen hi
  let w:Wh:=⟨Z,X.Wg,callEnvC X.Wi s.heap.objs.size (Z.KN.fn k),A.deeper (callEnvC X.Wi s.heap.objs.size (Z.KN.fn k))⟩
  refine nA (Wp.bZ (h w ⟨G,O.MM,Uf R _⟩ X.LA X.LD s₁ μ ⟨O.WZ.eN,O.W7,λi V hV=>?_⟩) λf s₂ q=>?_)
  ·have hlt:i < X.ld.length:=by rw[X.v5,<-hlen];exact(XZ (show args[i]? =some V from hV)).1
   exact X.dm _ (X.y0 i _ (Yu hlt))
  ·obtain⟨m,st,a,rf⟩:=q
   have tot:=st.EH O.WZ O.MN
   rcases fl with _ |V
   ·obtain rfl:=rf
    exact⟨m,tot,rfl⟩
   ·refine az rf ?_;clear rf;intro v q1 rv;subst q1
    exact⟨m,tot,rv⟩
theorem aL.lj(hf:yu k=some f)(hl:args.length=f.mN)(h:ae d 12 f.dZ (bf args) σ fl ρ' σ')(hd:nY σ σ' τ (yl fl)):aL (d+1) k args σ (yl fl) τ:=λZ A s μ vs G R I r=>(G.DC k f hf).elim λX=>
 YY (Fk h G R X I r hl) λq s' k=>by
  rcases q with _ |f
  ·exact k
  ·cases f<;>first |exact k |skip
   obtain⟨m,st,rv⟩:=k
   exact⟨_,(st.EB I hd rv).1,(st.EB I hd rv).2⟩
theorem cI(hf:yu k=some f)(hl:args.length=f.mN)(h:ae d 12 f.dZ (bf args) σ fl ρ' σ'):aL (d+1) k args σ (yl fl) σ':=λZ A s μ vs G R I r=>(G.DC k f hf).elim λX=>Fk h G R X I r hl
theorem fV(hf:yu k=some f)(hl:args.length=f.mN)(h:ae d 12 f.dZ (bf args) σ (.r v) ρ' σ')(hp:σ <+:σ')(hv:v.lo σ.length=true):aL (d+1) k args σ v σ:=.lj (fl:=.r v) hf hl h (Pe hp hv)
end
section
variable {s:Shared}{i a:Nat}{es:List (Int×V)}
theorem Kh{r:Addr}(h64:ns.length < 64)
  (hc:∀(R:List Value->Shared->Prop),(∀(h':Heap) (tk:Nat) (vs:List Value) (ms:List Int),(∀b o,s.heap.get? b=some o->h'.get? b=some o)->IntsAre vs ms->ms.Perm ns->R vs {s with heap:=h',toks:=tk})->wpAny (model Z.bK Z.VP) A.in1 (collect (.ref r)) R E s)
  (h:∀(D:Addr) (h':Heap) (tk:Nat) (out:List Value) (n:Nat),(∀b o,s.heap.get? b=some o->h'.get? b=some o)->s.heap.get? D=none->h'.get? D=some (ir out n)->IntsAre out (iP ns)->Q (.ref D) {s with heap:=h',toks:=tk}):
  wpAny (model Z.bK Z.VP) A (call (.builtin "sorted") [.ref r]) Q E s:=by
 refine call_function_entry kind_sorted plain_sorted entry_sorted (args_sorted1 _) ?_
 unfold Builtin.«sorted»
 refine Xq (m:=checkCount "sorted" 1 1 _) (Xu (Xq (hc _ λh' tk vs ms hk hI hp=>?_)))
 have hlen:vs.length < 64:=by rw[hI.length,hp.length_eq];exact h64
 refine Xq (wpAny_newList ?_ (kj (Xs (Yj hlen) (by decide))))
 have hoL:(h'.push (seqObj "list" vs.toArray 0)).get? h'.objs.size=some (seqObj "list" vs.toArray 0):=Yg _ rfl
 refine(?_:wpAny _ _ _ _ _ {s with heap:=h'.push (seqObj "list" vs.toArray 0),toks:=tk})
 refine Xq (XR (Y6 slot_list_sort ⟨_,hoL,rfl⟩ entry_list_sort (list_sort_tree hoL hI hlen λout ns' a1 a2 a3=>aC _ rfl (Xu (aC _ rfl ?_))) (args_list_sort _)))
 obtain rfl:=Ke (a2.trans hp) a3
 refine aT (sortedHeap_at (out:=out) hoL) λe he=>?_
 refine h h'.objs.size _ tk out.toList e (λb o hb=>?_) (ZG λo hg=>YW _ (Ys (hk _ _ hg))) (by rw[he]) a1
 have hb':=hk b o hb
 rw[sortedHeap_old (XQ (Ys hb')) (by rw[Y7];exact ZA (Ys hb'))]
 exact XO _ hb'
theorem QF{kvs:List (Int×Value)}:∀{vs:List Value},vs.length=kvs.length->(∀(j:Nat) (v:Value),vs[j]? =some v->∃k x,kvs[j]? =some (k,x)/\(intKind Z.bK Z.VP).is k v=true)->IntsAre vs (kvs.map (·.1)):=by
 induction kvs with
 |nil=>exact λhl _=>by rw[Zo hl];exact .nil
 |cons kv kvs ih=>
  intro vs hl hv
  rcases vs with _ | ⟨v,vs⟩
  ·exact absurd hl (Nat.succ_ne_zero _).symm
  ·refine dY (hv 0 v rfl) λk x h0 hk=>?_
   cases XA h0
   refine aT (Value.isInt_shape hk) λt q1=>?_;subst q1
   exact .cons _ t (ih (Nat.succ.inj hl) λj u hu=>hv (j+1) u hu)
theorem SN(ha:σ[a]? =some (.d es))(h:es.length < 64):Pr (il .o [.r a] σ) (.r σ.length) (σ++[.l ((iP (es.map (·.1))).map .i)]):=gu.mJ λZ A s μ v R I ⟨x,hx,e⟩=>by
 subst e
 refine az (I.fU a x _ hx ha) λkvs h1 h2=>?_
 obtain⟨ep,hat⟩:=h1.dictAt
 have hlen:=h2.od
 have hm:kvs.map (·.1)=es.map (·.1):=by
  clear h1 hat hlen ha hx h
  induction h2 with
  |d8=>rfl
  |eJ k _ ih=>rw[XD,XD,k.1,ih]
 refine Kh (ns:=es.map (·.1)) (by rw[Xr];exact h) (λR' hR=>?_) λD h' tk out n hk hn hD ho=>u0 I (uQ ho) hk hn hD
 refine kdu_collect (A:=A.in1) (kdl_dict (knd:=intKind Z.bK Z.VP) (kvs:=kvs) (ep:=ep) (beq_eq_false_iff_ne.mpr (I.jr a x _ hx ha rfl))) R.Wn hat (kj (by rw[<-hlen];exact Xs (Yj h) (by decide))) λh' tk acc hk hacc=>?_
 exact hR h' tk _ _ hk (QF (by rw[Zs];exact hacc.1) λj v e=>hacc.2 j v (by rw[<-Array.getElem?_toList];exact e)) (by rw[hm])
end
set_option backward.match.sparseCases true
section
variable {w:World}{s:Shared}
theorem u6{it t:Addr}{i:Nat}{items:Array Value}(hh:A.handled=none)(hit:s.heap.IsTupleIter it t i)(ht:s.heap.IsTuple t items)
  (hQ:∀x h',items[i]? =some x->h'.IsTupleIter it t (i+1)->Heap.SameBut it s.heap h'->Q x {s with heap:=h'})
  (hE:∀h' e,items[i]? =none->Heap.ExtBut it s.heap h'->(∃o,h'.get? it=some o)->(∃o,h'.get? e=some o/\o.cls=.type "StopIteration")->E (.ref e) {s with heap:=h'}):
  wpAny (model prog w) A (Builtin.SmallTypes.nextOf (.ref it)) Q E s:=by
 refine c8 (id hit) λo ho hc hd=>?_
 obtain⟨ol,hol,_,nl,hdl⟩:=ht
 unfold Builtin.SmallTypes.nextOf
 refine Xq (wpAny_callSpecial?_slot (name:=Str.ofString "__next__") hit.typeIs F.slot_tuple_iterator_next (Y6 F.slot_tuple_iterator_next hit.typeIs F.entry_tuple_iterator_next ?_ (F.args_tuple_iterator_next_1 _)))
 refine(?_:wpAny _ _ (field (.ref it) 0>>=_) _ _ s)
 refine Xq (wpAny_field ho hd (x:=.ref t) rfl ?_)
 refine(?_:wpAny _ _ (field (.ref it) 1>>=_) _ _ s)
 refine Xq (wpAny_field ho hd (x:=.int i 0) rfl ?_)
 refine(?_:wpAny _ _ (seqItems? (.ref t)>>=_) _ _ s)
 refine Xq (wpAny_seqItems hol hdl ?_)
 refine(?_:wpAny _ _ (match items[i]? with |some x=>_ |none=>_) _ _ s)
 cases hx:items[i]? with
 |some x=>
  exact Xq (wpAny_setField ho hd (by simp) (Xu (aC x rfl (Xu (hQ x _ hx ⟨_,ZC _ ho (Obj.isFreed_of_fields (Obj.data_mapFields hd _)),(Obj.cls_mapFields ..).trans hc,by rw[Obj.data_mapFields hd];rfl⟩ (Heap.SameBut.update ..))))))
 |none=>
  refine Xq (wpAny_rule (Xq (wpAny_setField ho hd (by simp) ?_)))
  refine(?_:wpAny _ _ (newExc (.type "StopIteration") []>>=_) _ _ _)
  refine Xq ?_
  simp only[newExc,newTuple]
  refine Xq (Zu ?_ (by size_fits))
  refine Xq (m:=firstArgMember _ _) (wpAny_of_eq (a:=Value.none) (by first |rfl | (simp only[firstArgMember];rfl)) ?_)
  refine Zu ?_ (by size_fits)
  unfold raiseNew
  refine Xq (wpAny_handled ?_)
  rw[show A.in1.handled=none from hh]
  exact Xq (Xu (wpAny_throw (hE _ _ hx (((Heap.SameBut.update ..).extBut.push _).push _) ⟨_,XO _ (XO _ (ZC _ ho (Obj.isFreed_of_fields (Obj.data_mapFields hd _))))⟩ (aC _ (Yg _ rfl) rfl))))
theorem Vl{a:Addr}{Q:Option Obj->Shared->Prop}(h:Q (s.heap.get? a) s):wpAny (model prog w) A (loadIfAlive a) Q E s:=λ_ _ _=>h
noncomputable abbrev pw(c:String)(vs:Array Value):Obj:={cls:=.type c,dict:=none,data:=.fields vs,slots:=#[]}
noncomputable abbrev Tk(f0:Value):Prop:=f0=.none∨∃T:Int,f0=rawInt T
theorem G7{z:Addr}{c:String}{vs:Array Value}{u:Bool}{Q:Bool->Shared->Prop}(hz:s.heap.get? z=some (pw c vs))(h0:vs[0]? =some f0)(hf:Tk f0)(h1:vs[1]? =some (.bool u))(hu:u=true->vs.setIfInBounds 1 (.bool true)=vs)
  (hT:Q true s) (hF:∀h',h'.get? z=some (pw c (vs.setIfInBounds 1 (.bool true)))->Heap.SameBut z s.heap h'->Q false {s with heap:=h'}):wpAny (model prog w) A (Builtin.SmallTypes.ownedTupleIsFree (.ref z)) Q E s:=by
 unfold Builtin.SmallTypes.ownedTupleIsFree
 refine Xq (wpAny_field hz rfl h0 ?_)
 rcases hf with rfl | ⟨T,rfl⟩
 ·exact Xu hT
 ·refine Xq (Vl ?_)
  refine(?_:wpAny _ _ (if(s.heap.get? T.toNat).isNone=true then _ else _) _ _ _)
  cases s.heap.get? T.toNat with
  |none=>exact Xu hT
  |some o=>
   refine Xq (wpAny_field hz rfl h1 ?_)
   cases u with
   |true=>exact Xq (Xu (Xu (hF _ (by rw[hu rfl];exact hz) (Heap.SameBut.refl ..))))
   |false=>exact Xq (YO hz (Array.getElem?_eq_some_iff.mp h1).1 λh' a b=>Xu (hF h' a b))
theorem HF{z:Addr}{c:String}{vs:Array Value}(hz:s.heap.get? z=some (pw c vs))(h0:0 < vs.size)(tg:Expr)(v:Value){Q:Unit->Shared->Prop}(q:Q () s)
  (k:∀h',h'.get? z=some (pw c (vs.setIfInBounds 0 .none))->Heap.SameBut z s.heap h'->Q () {s with heap:=h'}):wpAny (model prog w) A (letOwnedTupleGo tg (.ref z) v) Q E s:=by
 have body:wpAny (model prog w) A (match((Value.ref z,v):Value×Value)with
   | (.ref r,.ref a)=>(do
    let o<-load r
    match o.cls,o.data with
    | .type n,.fields vs=>
     if ["enumerate","zip","dict_itemiterator","dict_reverseitemiterator","odict_iterator","itertools.zip_longest","itertools.pairwise"].contains n&&vs[0]? ==some (rawInt a)then
      rule "for.unpacks-the-owned-tuple"
      updateField r 0 .none
     else pure ()
    |_,_=>pure ():Sem Unit)
   |_=>pure ()) Q E s:=by
  rcases v with _ |_ |_ |_ |_ |_ |_ |_ |_ |a<;>first
   |exact Xu q
   | (
     refine Xq (wpAny_load hz ?_)
     dsimp only
     split
     ·refine Xq (wpAny_rule ?_)
      refine(?_:wpAny _ _ (setField (.ref z) 0 .none) _ _ _)
      exact YO hz h0 k
     ·exact Xu q)
 cases tg<;>first
  |exact Xu q
  |exact body
end
set_option backward.match.sparseCases false
noncomputable abbrev zO(f0:Value)(u:Bool)(TI TO:Addr):Obj:=pw "zip" #[f0,.bool u,.bool false,.ref TI,.ref TO]
structure ZS(h₀:Heap)(V4 TI TO i1 i2 t1 t2:Addr)(as bs:Array Value)(h:Heap)(f0:Value)(u:Bool)(k1 k2:Nat):Prop where
 mf:∀c o,c≠V4->c≠TO->c≠i1->c≠i2->h₀.get? c=some o->h.get? c=some o
 sz:h₀.objs.size<=h.objs.size
 V4:h.get? V4=some (zO f0 u TI TO)
 pO:∃a b,IsPair h TO a b
 pI:IsPair h TI (.ref i1) (.ref i2)
 WA:h.IsTupleIter i1 t1 k1
 WB:h.IsTupleIter i2 t2 k2
 g1:h.IsTuple t1 as
 g2:h.IsTuple t2 bs
section
variable {w:World}{s:Shared}{h:Heap}{z:Addr}{as bs:Array Value}{x:Value}{u:Bool}{k1 k2:Nat}
theorem za{a:Addr}{xs:Array Value}(x:h.IsTuple a xs)(k:∀o,h.get? a=some o->h'.get? a=some o):h'.IsTuple a xs:=let⟨o,ho,r⟩:=x;⟨o,k o ho,r⟩
theorem ZS.uu(a:ZS h₀ z TI TO i1 i2 t1 t2 as bs h f0 u k1 k2)(D:ZipApart z TI TO i1 i2 t1 t2)(b:Heap.SameBut z h h')(c:h'.get? z=some (zO f1 u1 TI TO)):ZS h₀ z TI TO i1 i2 t1 t2 as bs h' f1 u1 k1 k2:=
 ⟨λc o p q r t e=>b.extBut c o p (a.mf c o p q r t e),b.1▸a.sz,c,a.pO.imp λx=>Exists.imp λy=>b.extBut _ _ D.TOz,b.extBut _ _ D.TIz a.pI,a.WA.extBut b.extBut D.i1z,a.WB.extBut b.extBut D.i2z,a.g1.extBut b.extBut D.l1z,a.g2.extBut b.extBut D.l2z⟩
theorem ZS.E5(a:ZS h₀ z TI TO i1 i2 t1 t2 as bs h f0 u k1 k2)(D:ZipApart z TI TO i1 i2 t1 t2)(b:Heap.SameBut TO h h'){p q:Value}(c:IsPair h' TO p q):ZS h₀ z TI TO i1 i2 t1 t2 as bs h' f0 u k1 k2:=
 ⟨λc o p q r t e=>b.extBut c o q (a.mf c o p q r t e),b.1▸a.sz,b.extBut _ _ D.TOz.symm a.V4,(xL p q c),b.extBut _ _ D.TITO a.pI,a.WA.extBut b.extBut D.TOi1.symm,a.WB.extBut b.extBut D.TOi2.symm,a.g1.extBut b.extBut D.l1TO,a.g2.extBut b.extBut D.l2TO⟩
theorem ZS.E2(a:ZS h₀ z TI TO i1 i2 t1 t2 as bs h f0 u k1 k2)(D:ZipApart z TI TO i1 i2 t1 t2){k:Nat}(b:Heap.SameBut i1 h h')(c:h'.IsTupleIter i1 t1 k):ZS h₀ z TI TO i1 i2 t1 t2 as bs h' f0 u k k2:=
 ⟨λc o p q r t e=>b.extBut c o r (a.mf c o p q r t e),b.1▸a.sz,b.extBut _ _ D.i1z.symm a.V4,a.pO.imp λx=>Exists.imp λy=>b.extBut _ _ D.TOi1,b.extBut _ _ D.TIi1 a.pI,c,a.WB.extBut b.extBut D.i12.symm,a.g1.extBut b.extBut D.l1i1,a.g2.extBut b.extBut D.l2i1⟩
theorem ZS.E4(a:ZS h₀ z TI TO i1 i2 t1 t2 as bs h f0 u k1 k2)(D:ZipApart z TI TO i1 i2 t1 t2){k:Nat}(b:Heap.SameBut i2 h h')(c:h'.IsTupleIter i2 t2 k):ZS h₀ z TI TO i1 i2 t1 t2 as bs h' f0 u k1 k:=
 ⟨λc o p q r t e=>b.extBut c o t (a.mf c o p q r t e),b.1▸a.sz,b.extBut _ _ D.i2z.symm a.V4,a.pO.imp λx=>Exists.imp λy=>b.extBut _ _ D.TOi2,b.extBut _ _ D.TIi2 a.pI,a.WA.extBut b.extBut D.i12,c,a.g1.extBut b.extBut D.l1i2,a.g2.extBut b.extBut D.l2i2⟩
theorem ZS.E6(a:ZS h₀ z TI TO i1 i2 t1 t2 as bs h f0 u k1 k2)(o:Obj):ZS h₀ z TI TO i1 i2 t1 t2 as bs (h.push o) f0 u k1 k2:=
 have k:∀c q,h.get? c=some q->(h.push o).get? c=some q:=λc q=>XO _
 ⟨λc o p q r t e=>k _ _ (a.mf c o p q r t e),Xs a.sz (by rw[Y7];exact Yp _),k _ _ a.V4,a.pO.imp λx=>Exists.imp λy=>k _ _,k _ _ a.pI,a.WA.at (k _),a.WB.at (k _),za a.g1 (k _),za a.g2 (k _)⟩
theorem Kk{a b:Addr}{o:Obj}{vs:Array Value}(hz:h.get? a=some (pw "zip" vs))(he:h.get? b=some o)(ce:o.cls=.type "StopIteration"):b≠a:=λx=>by
 subst x
 cases hz.symm.trans he
 exact absurd (Value.type.inj ce) (by decide)
inductive E0(h₀:Heap)(z TI TO i1 i2 t1 t2:Addr)(as bs:Array Value)(j:Nat)(v:Value)(h:Heap):Prop
 |mk (x y:Value) (T:Addr) (f0:Value) (u:Bool) (e:v=.ref T) (h1:as[j]? =some x) (h2:bs[j]? =some y) (hT:h₀.get? T=none) (p:IsPair h T x y) (hf:Tk f0) (a:ZS h₀ z TI TO i1 i2 t1 t2 as bs h f0 u (j+1) (j+1))
noncomputable def zh(h:Heap)(z TO i1 i2:Addr):Prop:=(∃o,h.get? z=some o)/\(∃o,h.get? TO=some o)/\(∃o,h.get? i1=some o)/\∃o,h.get? i2=some o
theorem ZS.mZ(a:ZS h₀ z TI TO i1 i2 t1 t2 as bs h f0 u k1 k2):zh h z TO i1 i2:=⟨⟨_,a.V4⟩,a.pO.elim λx q=>q.elim λy q=>⟨_,q⟩,a.WA.imp λo q=>q.1,a.WB.imp λo q=>q.1⟩
inductive EZ(h₀:Heap)(z TO i1 i2:Addr)(as bs:Array Value)(j:Nat)(e:Addr)(h:Heap):Prop
 |mk (hn:as[j]? =none∨bs[j]? =none) (k:∀c o,c≠z->c≠TO->c≠i1->c≠i2->h₀.get? c=some o->h.get? c=some o) (lv:zh h z TO i1 i2) (x:∃o,h.get? e=some o/\o.cls=.type "StopIteration")
theorem Vp{j:Nat}(hh:A.handled=none)(D:ZipApart z TI TO i1 i2 t1 t2)(hf:Tk f0)(a:ZS h₀ z TI TO i1 i2 t1 t2 as bs s.heap f0 u j j)
  (hQ:∀v h',E0 h₀ z TI TO i1 i2 t1 t2 as bs j v h'->Q v {s with heap:=h'}) (hE:∀e h',EZ h₀ z TO i1 i2 as bs j e h'->E (.ref e) {s with heap:=h'}):
  wpAny (model prog w) A (Builtin.«zip.__next__» ⟨[.ref z],[]⟩) (λfin s'=>∃v,fin=.done (.ret v)/\Q v s') E s:=by
 refine(?_:wpAny _ _ (field (.ref z) 2>>=_) _ _ _)
 refine Xq (wpAny_field a.V4 rfl (x:=.bool false) rfl ?_)
 refine(?_:wpAny _ _ (field (.ref z) 3>>=_) _ _ _)
 refine Xq (wpAny_field a.V4 rfl (x:=.ref TI) rfl ?_)
 refine Xq (wpAny_seqItems a.pI rfl ?_)
 refine(?_:wpAny _ _ (Builtin.SmallTypes.ownedTupleIsFree (.ref z)>>=_) _ _ _)
 refine Xq (G7 a.V4 rfl hf rfl (λe=>by subst e;rfl) ?_ λh₁ hz₁ hs₁=>?_)
 ·simp -iota only[if_true]
  refine Xq (wpAny_rule ?_)
  refine Xq (wpAny_field a.V4 rfl (x:=.ref TO) rfl ?_)
  refine Xq (YO a.V4 (Nat.zero_lt_succ _) λh₁ hz₁ hs₁=>?_)
  have a₁:=a.uu D hs₁ (f1:=.ellipsis) hz₁
  refine Xq ?_
  simp -iota only[List.zipIdx_cons,List.zipIdx_nil,List.forIn_cons,List.forIn_nil]
  refine Xq (Xq (wpAny_onRaise ?_))
  refine(?_:wpAny _ _ (Builtin.SmallTypes.nextOf (.ref i1)>>=_) _ _ _)
  refine Xq (u6 hh a₁.WA a₁.g1 (λx h₂ hx r₂ hs₂=>Xu ?_) λh₂ e hx k lv ⟨oe,he,ce⟩=>?_)
  ·have a₂:=a₁.E2 D hs₂ r₂
   obtain⟨p,q,pO⟩:=a₂.pO
   refine Xq (wpAny_seqItems pO rfl ?_)
   refine Xq (wpAny_updateSeq_pair pO λh₃ pO₃ hs₃=>?_)
   have a₃:=a₂.E5 D hs₃ (p:=x) (q:=q) pO₃
   refine Xq (wpAny_letGo (Xu ?_))
   refine Xq (Xq (wpAny_onRaise ?_))
   refine(?_:wpAny _ _ (Builtin.SmallTypes.nextOf (.ref i2)>>=_) _ _ _)
   refine Xq (u6 hh a₃.WB a₃.g2 (λy h₄ hy r₄ hs₄=>Xu ?_) λh₄ e hy k lv ⟨oe,he,ce⟩=>?_)
   ·have a₄:=a₃.E4 D hs₄ r₄
    have pO₄:IsPair h₄ TO x q:=hs₄.extBut _ _ D.TOi2 pO₃
    refine Xq (wpAny_seqItems pO₄ rfl ?_)
    refine Xq (wpAny_updateSeq_pair pO₄ λh₅ pO₅ hs₅=>?_)
    replace pO₅:IsPair h₅ TO x y:=pO₅
    have a₅:=a₄.E5 D hs₅ (p:=x) (q:=y) pO₅
    refine Xq (wpAny_letGo (Xu (Xu ?_)))
    refine Xq (wpAny_seqItems pO₅ rfl ?_)
    refine Xq (wpAny_newTuple ?_)
    have a₆:=a₅.E6 {cls:=.type "tuple",data:=.seq #[x,y]}
    refine(?_:wpAny _ _ (Builtin.SmallTypes.ownedTupleHandOut (.ref z) (.ref h₅.objs.size)>>=_) _ _ _)
    refine Xq ?_
    unfold Builtin.SmallTypes.ownedTupleHandOut
    refine Xq (YO a₆.V4 (Nat.zero_lt_succ _) λh₇ hz₇ hs₇=>?_)
    refine YO hz₇ (by simp) λh₈ hz₈ hs₈=>?_
    have a₇:=a₆.uu D hs₇ (f1:=rawInt h₅.objs.size) hz₇
    have a₈:=a₇.uu D hs₈ (f1:=rawInt h₅.objs.size) hz₈
    have ne:h₅.objs.size≠z:=Y3 (Ys a₅.V4)
    exact Xu (aC _ rfl (hQ _ _ ⟨x,y,_,_,_,rfl,hx,hy,mz a₅.sz,hs₈.extBut _ _ ne (hs₇.extBut _ _ ne (Yg _ rfl)),.inr ⟨_,rfl⟩,a₈⟩))
   ·have hz₄:=k _ _ D.i2z.symm a₃.V4
    exact YO hz₄ (Nat.zero_lt_succ _) λh₅ hz₅ hs₅=>hE e h₅ ⟨.inr hy,λc o c1 c2 c3 c4 x=>hs₅.extBut _ _ c1 (k _ _ c4 (a₃.mf c o c1 c2 c3 c4 x)),⟨⟨_,hz₅⟩,a₃.mZ.2.1.imp λo q=>hs₅.extBut _ _ D.TOz (k _ _ D.TOi2 q),a₃.mZ.2.2.1.imp λo q=>hs₅.extBut _ _ D.i1z (k _ _ D.i12 q),lv.imp λo=>hs₅.extBut _ _ D.i2z⟩,oe,hs₅.extBut _ _ (Kk hz₄ he ce) he,ce⟩
  ·have hz₂:=k _ _ D.i1z.symm a₁.V4
   exact YO hz₂ (Nat.zero_lt_succ _) λh₃ hz₃ hs₃=>hE e h₃ ⟨.inl hx,λc o c1 c2 c3 c4 x=>hs₃.extBut _ _ c1 (k _ _ c3 (a₁.mf c o c1 c2 c3 c4 x)),⟨⟨_,hz₃⟩,a₁.mZ.2.1.imp λo q=>hs₃.extBut _ _ D.TOz (k _ _ D.TOi1 q),lv.imp λo=>hs₃.extBut _ _ D.i1z,a₁.mZ.2.2.2.imp λo q=>hs₃.extBut _ _ D.i2z (k _ _ D.i12.symm q)⟩,oe,hs₃.extBut _ _ (Kk hz₂ he ce) he,ce⟩
 ·have a₁:=a.uu D hs₁ (u1:=true) hz₁
  simp -iota only[Zv,if_false]
  refine Xq ?_
  rw[<-Array.forIn_toList]
  simp -iota only[List.forIn_cons,List.forIn_nil]
  refine Xq (Xq (XR ?_))
  refine(?_:wpAny _ _ (Builtin.SmallTypes.nextOf (.ref i1)>>=_) _ _ _)
  refine Xq (u6 hh a₁.WA a₁.g1 (λx h₂ hx r₂ hs₂=>Xu (Xu ?_)) λh₂ e hx k lv he=>hE e h₂ ⟨.inl hx,λc o c1 c2 c3 c4 x=>k _ _ c3 (a₁.mf c o c1 c2 c3 c4 x),⟨⟨_,k _ _ D.i1z.symm a₁.V4⟩,a₁.mZ.2.1.imp λo=>k _ _ D.TOi1,lv,a₁.mZ.2.2.2.imp λo=>k _ _ D.i12.symm⟩,he⟩)
  have a₂:=a₁.E2 D hs₂ r₂
  refine Xq (Xq (XR ?_))
  refine(?_:wpAny _ _ (Builtin.SmallTypes.nextOf (.ref i2)>>=_) _ _ _)
  refine Xq (u6 hh a₂.WB a₂.g2 (λy h₃ hy r₃ hs₃=>Xu (Xu (Xu ?_))) λh₃ e hy k lv he=>hE e h₃ ⟨.inr hy,λc o c1 c2 c3 c4 x=>k _ _ c4 (a₂.mf c o c1 c2 c3 c4 x),⟨⟨_,k _ _ D.i2z.symm a₂.V4⟩,a₂.mZ.2.1.imp λo=>k _ _ D.TOi2,a₂.mZ.2.2.1.imp λo=>k _ _ D.i12,lv⟩,he⟩)
  have a₃:=a₂.E4 D hs₃ r₃
  refine(?_:wpAny _ _ (newTuple [x,y]>>=_) _ _ _)
  exact Xq (wpAny_newTuple (Xu (aC _ rfl (hQ _ _ ⟨x,y,_,_,_,rfl,hx,hy,mz a₃.sz,Yg _ rfl,hf,a₃.E6 _⟩))))
end
section
variable {s:Shared}{h:Heap}{a j:Nat}{z:Addr}{as bs:Array Value}{l xs:List V}{v:Value}
theorem Jj{u:Bool}(hh:A.handled=none)(D:ZipApart z TI TO i1 i2 t1 t2)(hf:Tk f0)(a:ZS s.heap z TI TO i1 i2 t1 t2 as bs s.heap f0 u j j){Q:Option Value->Shared->Prop}
  (hQ:∀v h',E0 s.heap z TI TO i1 i2 t1 t2 as bs j v h'->Q (some v) {s with heap:=h'}) (hE:∀e h',EZ s.heap z TO i1 i2 as bs j e h'->Q none {s with heap:=h'}):Wp Z A (pyNext (.ref z)) Q s:=by
 have hT:s.TypeIs (.ref z) "zip":=⟨_,a.V4,rfl⟩
 unfold pyNext
 refine Xq (wpAny_attempt (wpAny_callSpecial?_slot (name:=Str.ofString "__next__") hT F.slot_zip_next
  (Y6 F.slot_zip_next hT F.entry_zip_next (Vp hh D hf a (λv h' o=>Xu (hQ v h' o)) λe h' o=>?_) (F.args_zip_next_1 _))))
 refine az o.4 λo' ho hc=>?_
 exact Xq (wpAny_isInstance (T:="StopIteration") (b:=true) ⟨o',ho,hc⟩ isSubtype_stop (Xu (hE e h' o)))
theorem Jh(hT:s.TypeIs (.ref z) "zip")(h:Q (.ref z) s):Wp Z A (pyIter (.ref z)) Q s:=
 wpAny_pyIter_slot hT F.slot_zip_iter (Y6 F.slot_zip_iter hT F.entry_zip_iter (Xu ⟨_,rfl,"zip",_,hT,F.slot_zip_next.lookup,h⟩) (F.args_zip_iter_1 _))
theorem aU.DQ(J:aU Z h μ σ)(hx:μ[a]? =some z)(hs:σ[a]? =some (.i l))(hk:∀c o,(∀j,j < 4->μ[a+j]? ≠some c)->h.get? c=some o->h'.get? c=some o)(hl:∀j b,j < 4->μ[a+j]? =some b->∃o,h'.get? b=some o)
  (hd:o'.fH=false) (hr:dl h μ h' μ->dC Z h' μ a z o'):aU Z h' μ (σ.set a o')/\dl h μ h' μ:=by
 have hlt:a < σ.length:=(XZ hs).1
 have off:∀c,c∉μ->∀j,j < 4->μ[a+j]? ≠some c:=λc hc j _ e=>hc (Yo e)
 have e:dl h μ h' μ:=⟨λb o hb hn _=>hk b o (off b hn) hb,Yn _,λb hb=>.inl hb⟩
 have kp:∀k b,μ[k]? =some b->k < a∨a+3 < k->∀q,h.get? b=some q->h'.get? b=some q:=λk b hb hn q hq=>hk b q (λj hj c=>by have:=AX J.jI hb c;lia) hq
 have ax:∀i o,σ[i]? =some o->o.tW=false->i≠a->i < a∨a+3 < i:=λi o ho hn hi=>by
  by_cases c:a+1+(i - (a+1))=i/\i - (a+1) < 3
  ·refine az (J.iT a l hs _ c.2) λr h1 h2=>?_
   rw[c.1,ho]at h1;cases h1;rw[hn]at h2;cases h2
  ·exact qG4 hi c
 have it:∀i xs,σ[i]? =some (.i xs)->i≠a->∀j,j < 3->i+1+j < a∨a+3 < i+1+j:=λi xs ho hi j hj=>by
  by_cases c:i+1+(a - (i+1))=a/\a - (i+1) < 3
  ·refine az (J.iT i xs ho _ c.2) λr h1 h2=>?_
   rw[c.1,hs]at h1;cases h1;cases h2
  ·have:=ax i _ ho rfl hi;exact qG3 this hj c
 exact bm ({
   eu:=by rw[XN];exact J.eu
   jI:=J.jI
   dM:=λb q hb=>hk b q (λj hj c=>bN ((J.jH b (Yo c)).symm.trans hb)) (J.dM b q hb)
   jH:=J.jH
   iU:=λb hb=>by
    by_cases c:∃j,j < 4/\μ[a+j]? =some b
    ·refine az c ?_;clear c;intro j hj hb;exact hl j b hj hb
    ·exact(J.iU b hb).imp λq=>hk b q λj hj e=>c (aC j hj e)
   fU:=ym (M:=dC Z h' μ) hx hlt (λi y q c hy hq=>by
    cases hq':q.tW with
    |true=>cases q<;>first |exact Bool.noConfusion hq' |exact trivial
    |false=>exact(J.fU i y q hy hq).wE e (kp i y hy (ax i q hq hq' (Yv c))) λxs e' j hj b hb=>kp _ b hb (it i xs (e'▸hq) (Yv c) j hj)) (hr e)
   iT:=λi xs hq k h3=>by
    have ne:i≠a->a≠i+1+k:=λc p=>by rw[Y4 (Yv c)]at hq;have:=it i xs hq c k h3;exact qG2 this p
    by_cases c:i=a
    ·subst c;exact(J.iT i l hs k h3).imp λr q=>⟨by rw[Y4 (by exact gN iO)];exact q.1,q.2⟩
    ·have n:=ne c
     rw[Y4 (Yv c)]at hq
     exact(J.iT i xs hq k h3).imp λr q=>⟨by rw[Y4 n];exact q.1,q.2⟩
   ki:=J.ki
   jr:=ym (M:=λ_ x o=>o.fH=true->x≠sysModules) hx hlt (λj y q c hy hq=>J.jr j y q hy hq) λk=>Bool.noConfusion (hd.symm.trans k)}) e
theorem P4(p0:P 0)(p1:P 1)(p2:P 2)(p3:P 3):∀j,j < 4->P j
 |0,_=>p0
 |1,_=>p1
 |2,_=>p2
 |3,_=>p3
 |_+4,h=>absurd h Jk
theorem HQ(lv:zh h' z TO i1 i2)(hx:μ[a]? =some z)(hO:μ[a+1]? =some TO)(h1:μ[a+2]? =some i1)(h2:μ[a+3]? =some i2):∀j b,j < 4->μ[a+j]? =some b->∃o,h'.get? b=some o:=
 λj b hj=>P4 (P:=λj=>μ[a+j]? =some b->∃o,h'.get? b=some o) (λe=>XA (hx.symm.trans e)▸lv.1) (λe=>XA (hO.symm.trans e)▸lv.2.1) (λe=>XA (h1.symm.trans e)▸lv.2.2.1) (λe=>XA (h2.symm.trans e)▸lv.2.2.2) j hj
inductive N7(Z:Cx)(h:Heap)(μ:List Addr)(a:Nat)(I:Addr)(l:List V):Prop
 |mk (as bs:List Value) (ps:List (V×V)) (j:Nat) (f0:Value) (u:Bool) (TI TO i1 i2 t1 t2:Addr) (n1 n2:Nat) (D:ZipApart I TI TO i1 i2 t1 t2) (hf:Tk f0) (S:ZS h I TI TO i1 i2 t1 t2 as.toArray bs.toArray h f0 u j j)
  (hO:μ[a+1]? =some TO) (h1:μ[a+2]? =some i1) (h2:μ[a+3]? =some i2) (aI:TI∉μ) (a1:t1∉μ) (a2:t2∉μ) (g1:h.get? t1=some (j6 as n1)) (g2:h.get? t2=some (j6 bs n2))
  (r1:aR Z.KN.aF h μ (ps.map (·.1)) (((as.zip bs).drop j).map (·.1))) (r2:aR Z.KN.aF h μ (ps.map (·.2)) (((as.zip bs).drop j).map (·.2))) (e:l=ps.map λp=>.t [p.1,p.2])
theorem C5(J:aU Z h μ σ)(hx:μ[a]? =some I)(hs:σ[a]? =some (.i l)):N7 Z h μ a I l:=by
 refine pb (J.fU a I _ hx hs) λas bs ps j nn0 r1 r2 e=>?_;obtain⟨f0,u,TI,TO,i1,i2,t1,t2,n1,n2,o1,o2,hz,hf,hO,h1,h2,aI,a1,a2,pI,pO,q1,q2,g1,g2⟩:=nn0
 have n:∀{k k' b b'},μ[k]? =some b->μ[k']? =some b'->k≠k'->b≠b':=λp q c e=>c (AX J.jI p (e▸q))
 have o:∀{k b c},μ[k]? =some b->c∉μ->c≠b:=λp q e=>q (e▸Yo p)
 have z1:a+1≠a:=qV rfl
 have z2:a+2≠a:=qV rfl
 have z3:a+3≠a:=qV rfl
 exact⟨as,bs,ps,j,f0,u,TI,TO,i1,i2,t1,t2,n1,n2,⟨o hx aI,n hO hx z1,n h1 hx z2,n h2 hx z3,o hO aI,o h1 aI,o h2 aI,n hO h1 (nM rfl),n hO h2 (nM rfl),n h1 h2 (nM rfl),o hx a1,o hO a1,o h1 a1,o h2 a1,o hx a2,o hO a2,o h1 a2,o h2 a2⟩,hf,⟨λc o _ _ _ _ e=>e,Xx _,hz,(xL _ _ pO),pI,q1,q2,dJ g1,dJ g2⟩,hO,h1,h2,aI,a1,a2,g1,g2,r1,r2,e⟩
theorem KL{as bs:List Value}{x y:Value}(h1:as.toArray[j]? =some x)(h2:bs.toArray[j]? =some y):(as.zip bs).drop j=(x,y)::(as.zip bs).drop (j+1):=by
 rw[YF]at h1 h2
 refine aT (XZ (List.getElem?_zip_eq_some.mpr ⟨h1,h2⟩:(as.zip bs)[j]? =some (x,y))) λhlt e=>?_
 rw[List.drop_eq_getElem_cons hlt,e]
theorem Vn{as bs:List Value}(h:as.toArray[j]? =none∨bs.toArray[j]? =none):(as.zip bs).drop j=[]:=by
 rw[YF,YF,List.getElem?_eq_none_iff,List.getElem?_eq_none_iff]at h
 exact List.drop_eq_nil_iff.mpr (by rw[List.length_zip];exact qGh h)
theorem Vo(l:List V):∀(h:Heap) (μ:List Addr) (σ:aj),μ[a]? =some I->σ[a]? =some (.i l)->lU Z I [] fr (.it a xs) l h μ σ:=by
 induction l with
 |nil=>
  rintro h μ σ hx hs A s hh rfl J
  obtain⟨as,bs,ps,j,f0,u,TI,TO,i1,i2,t1,t2,n1,n2,D,hf,S,hO,h1,h2,aI,a1,a2,g1,g2,r1,r2,e⟩:=C5 J hx hs
  refine Jj hh D hf S (λv h' Q=>?_) λe' h' Q=>?_
  ·obtain⟨x,y,T,f1,u1,_,x1,y1,_⟩:=Q
   rw[KL x1 y1,List.map_eq_nil_iff.mp e.symm]at r1
   exact absurd r1 (by intro c;cases c)
  ·have hk:∀c o,(∀j,j < 4->μ[a+j]? ≠some c)->s.heap.get? c=some o->h'.get? c=some o:=λc o n q=>Q.2 c o (λe=>n 0 (by decide) (e▸hx)) (λe=>n 1 (by decide) (e▸hO)) (λe=>n 2 (by decide) (e▸h1)) (λe=>n 3 (by decide) (e▸h2)) q
   have k:=J.DQ (o':=.u) hx hs hk (HQ Q.3 hx hO h1 h2) rfl λ_=>trivial
   exact⟨rfl,⟨rfl,rfl,rfl⟩,k.1,λb o hb hn _=>hk b o (λj _ e=>hn (Yo e)) hb,k.2⟩
 |cons V rest ih=>
  rintro h μ σ hx hs A s hh rfl J
  obtain⟨as,bs,ps,j,f0,u,TI,TO,i1,i2,t1,t2,n1,n2,D,hf,S,hO,h1,h2,aI,a1,a2,g1,g2,r1,r2,e⟩:=C5 J hx hs
  rcases ps with _ | ⟨p,ps⟩
  ·cases e
  refine ba (List.cons.inj e) λq0 q1=>?_;subst q0;subst q1
  refine Jj hh D hf S (λv h' Q=>?_) λe' h' Q=>?_
  ·obtain⟨x,y,T,f1,u1,rfl,x1,y1,hT,P,hf1,S1⟩:=Q
   rw[KL x1 y1]at r1 r2
   refine cP r1 ?_;clear r1;intro _ _ e1 rx r1
   refine ba (List.cons.inj e1) λq0 q1=>?_;subst q0;subst q1
   refine cP r2 ?_;clear r2;intro _ _ e1 ry r2
   refine ba (List.cons.inj e1) λq0 q1=>?_;subst q0;subst q1
   have K:∀h' f2 u2,Tk f2->ZS s.heap I TI TO i1 i2 t1 t2 as.toArray bs.toArray h' f2 u2 (j+1) (j+1)->IsPair h' T x y->zV Z [] fr (.it a xs) _ (lU Z I [] fr (.it a xs) _) s μ (σ.set a (.i (ps.map λp=>.t [p.1,p.2]))) (.t [p.1,p.2]) (.ref T) () {s with heap:=h'}:=λh' f2 u2 hf2 S2 P2=>by
    have hk:∀c o,(∀j,j < 4->μ[a+j]? ≠some c)->s.heap.get? c=some o->h'.get? c=some o:=λc o n q=>S2.mf c o (λe=>n 0 (by decide) (e▸hx)) (λe=>n 1 (by decide) (e▸hO)) (λe=>n 2 (by decide) (e▸h1)) (λe=>n 3 (by decide) (e▸h2)) q
    have off:∀b,b∉μ->∀j,j < 4->μ[a+j]? ≠some b:=λb hn j _ e=>hn (Yo e)
    obtain⟨q1,q2,pO⟩:=S2.pO
    have k:=J.DQ (o':=.i (ps.map λp=>.t [p.1,p.2])) hx hs hk (HQ S2.mZ hx hO h1 h2) rfl λew=>⟨as,bs,ps,j+1,⟨f2,u2,TI,TO,i1,i2,t1,t2,n1,n2,q1,q2,S2.V4,hf2,hO,h1,h2,aI,a1,a2,S2.pI,pO,S2.WA,S2.WB,hk _ _ (off _ a1) g1,hk _ _ (off _ a2) g2⟩,aR.extW ew _ r1,aR.extW ew _ r2,rfl⟩
    exact⟨⟨⟨rfl,rfl,rfl⟩,k.1,λb o hb hn _=>hk b o (off b hn) hb,k.2⟩,⟨T,[x,y],_,rfl,P2,(J.eY hT).1,x,[y],rfl,rx.extW k.2,y,[],rfl,ry.extW k.2,rfl⟩,λh3 μ3 σ3 lt g J3=>ih h3 μ3 σ3 (nK lt.tV hx) g⟩
   exact⟨_,rfl,λtg=>HF (s:={s with heap:=h'}) (vs:=#[f1,.bool u1,.bool false,.ref TI,.ref TO]) S1.V4 (Zd 4) tg _ (K h' f1 u1 hf1 S1 P) λh2 hz2 hs2=>K h2 .none u1 (.inl rfl) (S1.uu D hs2 hz2) (hs2.extBut _ _ (λe=>bN (hT.symm.trans (e▸S.V4))) P)⟩
  ·refine dY r1 ?_;clear r1;intro x y e1 _
   rw[Vn Q.1]at e1
   cases e1
end
section
variable {d n:Nat}{e:Ex}{xs ys:List V}{a:Nat}
theorem zo{x:Nat}(h:Ev d n e ρ σ (.r x) σ₁)(hx:σ₁[x]? =some (.i xs))(hl:aD xs):bA d n (.e e) ρ σ (.it x xs) σ₁:=.of h λZ A s μ v R I r=>by
 refine az r ?_;clear r;intro z hz q2;subst q2
 obtain⟨as,bs,ps,j,f0,u,TI,TO,i1,i2,t1,t2,n1,n2,D,hf,S,_⟩:=C5 I hz hx
 refine Jh ⟨_,S.V4,rfl⟩ ⟨z,[],μ,rfl,.oK I,hx,λb h=>absurd h Ye,.inr (Yo hz),λfr hfr h3 μ3 σ3 lt g J3=>Vo xs _ _ _ (nK lt.tV hz) g,λs'' hk R hR=>Jh ⟨_,hk _ _ S.V4,rfl⟩ hR⟩
end
open AutoSeq1 (wpAny_loadPart')
noncomputable abbrev eO(f0:Value)(u:Bool)(it:Addr)(i:Int)(g old:Value):Obj:=pw "enumerate" #[f0,.bool u,.ref it,rawInt i,g,old]
structure ES(h₀:Heap)(V7 it t:Addr)(xs:Array Value)(h:Heap)(f0:Value)(u:Bool)(i:Int)(old:Value)(k:Nat):Prop where
 vX:∀c o,c≠V7->c≠it->h₀.get? c=some o->h.get? c=some o
 sz:h₀.objs.size<=h.objs.size
 V7:h.get? V7=some (eO f0 u it i .none old)
 WJ:h.IsTupleIter it t k
 WN:h.IsTuple t xs
section
variable {w:World}{s:Shared}{h:Heap}{e it t T:Addr}{xs:Array Value}{o1 x:Value}{u:Bool}{k:Nat}{i j:Int}
theorem ES.pG(a:ES h₀ e it t xs h f0 u i old k)(n1:it≠e)(n2:t≠e)(b:Heap.SameBut e h h')(c:h'.get? e=some (eO f1 u1 it j .none o1)):ES h₀ e it t xs h' f1 u1 j o1 k:=
 ⟨λc o p q x=>b.extBut c o p (a.vX c o p q x),b.1▸a.sz,c,a.WJ.extBut b.extBut n1,a.WN.extBut b.extBut n2⟩
theorem ES.Lg(a:ES h₀ e it t xs h f0 u i old k)(o:Obj):ES h₀ e it t xs (h.push o) f0 u i old k:=
 have k:∀c q,h.get? c=some q->(h.push o).get? c=some q:=λc q=>XO _
 ⟨λc o p q x=>k _ _ (a.vX c o p q x),Xs a.sz (by rw[Y7];exact Yp _),k _ _ a.V7,a.WJ.at (k _),za a.WN (k _)⟩
inductive Dj(h₀:Heap)(e it t:Addr)(xs:Array Value)(k tk:Nat)(v:Value)(h:Heap):Prop
 |mk (x:Value) (T:Addr) (f0:Value) (u:Bool) (old:Value) (e1:v=.ref T) (h1:xs[k]? =some x) (hT:h₀.get? T=none) (p:IsPair h T (.int k tk) x) (hf:Tk f0) (a:ES h₀ e it t xs h f0 u ((k:Int)+1) old (k+1))
inductive Di(h₀:Heap)(it:Addr)(xs:Array Value)(k:Nat)(e:Addr)(h:Heap):Prop
 |mk (hn:xs[k]? =none) (k:∀c o,c≠it->h₀.get? c=some o->h.get? c=some o) (x:∃o,h.get? e=some o/\o.cls=.type "StopIteration")
theorem PD(hh:A.handled=none)(n1:it≠e)(n2:t≠e)(n3:t≠it)(hf:Tk f0)(a:ES s.heap e it t xs s.heap f0 u k old k)
  (hQ:∀v h',Dj s.heap e it t xs k s.toks v h'->Q v {s with heap:=h',toks:=s.toks+1}) (hE:∀x h',Di s.heap it xs k x h'->E (.ref x) {s with heap:=h'}):
  wpAny (model prog w) A (Builtin.«enumerate.__next__» ⟨[.ref e],[]⟩) (λfin s'=>∃v,fin=.done (.ret v)/\Q v s') E s:=by
 refine(?_:wpAny _ _ (field (.ref e) 2>>=_) _ _ _)
 refine Xq (wpAny_field a.V7 rfl (x:=.ref it) rfl ?_)
 refine Xq (u6 hh a.WJ a.WN (λx h₁ hx r₁ hs₁=>?_) λh₁ x hx k lv he=>hE x h₁ ⟨hx,k,he⟩)
 have a₁:ES s.heap e it t xs h₁ f0 u k old (k+1):=⟨λc o _ q y=>hs₁.extBut c o q y,Yd hs₁.1.symm,hs₁.extBut _ _ n1.symm a.V7,r₁,a.WN.extBut hs₁.extBut n3⟩
 refine(?_:wpAny _ _ (field (.ref e) 3>>=_) _ _ _)
 refine Xq (wpAny_field a₁.V7 rfl (x:=rawInt k) rfl ?_)
 refine(?_:wpAny _ _ (field (.ref e) 4>>=_) _ _ _)
 refine Xq (wpAny_field a₁.V7 rfl (x:=.none) rfl ?_)
 refine(?_:wpAny _ _ (mkInt k>>=_) _ _ _)
 refine Xq (wpAny_mkInt ?_)
 refine(?_:wpAny _ _ (setField (.ref e) 3 (rawInt ((k:Int)+1))>>=_) _ _ _)
 refine Xq (YO a₁.V7 (by refine(?_:3 < 6);decide) λh₂ he₂ hs₂=>?_)
 have a₂:=a₁.pG n1 n2 hs₂ (f1:=f0) (u1:=u) (j:=(k:Int)+1) (o1:=old) he₂
 refine(?_:wpAny _ _ (setField (.ref e) 4 .none>>=_) _ _ _)
 refine Xq (YO a₂.V7 (by refine(?_:4 < 6);decide) λh₃ he₃ hs₃=>?_)
 have a₃:=a₂.pG n1 n2 hs₃ (f1:=f0) (u1:=u) (j:=(k:Int)+1) (o1:=old) he₃
 refine(?_:wpAny _ _ (newTuple [.int k s.toks,x]>>=_) _ _ _)
 refine Xq (wpAny_newTuple ?_)
 have a₄:=a₃.Lg {cls:=.type "tuple",data:=.seq #[.int k s.toks,x]}
 have p₄:IsPair (h₃.push {cls:=.type "tuple",data:=.seq #[.int k s.toks,x]}) h₃.objs.size (.int k s.toks) x:=Yg _ rfl
 have ne:h₃.objs.size≠e:=Y3 (Ys a₃.V7)
 have hT:=mz a₃.sz
 refine(?_:wpAny _ _ (Builtin.SmallTypes.ownedTupleIsFree (.ref e)>>=_) _ _ _)
 refine Xq (G7 a₄.V7 rfl hf rfl (λe=>by subst e;rfl) ?_ λh₅ he₅ hs₅=>?_)
 ·simp only[if_true]
  refine Xq (wpAny_rule ?_)
  refine Xq (wpAny_field a₄.V7 rfl (x:=old) rfl ?_)
  refine Xq (YO a₄.V7 (by refine(?_:5 < 6);decide) λh₅ he₅ hs₅=>?_)
  have a₅:=a₄.pG n1 n2 hs₅ (f1:=f0) (u1:=u) (j:=(k:Int)+1) (o1:=x) he₅
  refine(?_:wpAny _ _ (Builtin.SmallTypes.ownedTupleHandOut (.ref e) (.ref h₃.objs.size)>>=_) _ _ _)
  refine Xq ?_
  unfold Builtin.SmallTypes.ownedTupleHandOut
  refine Xq (YO a₅.V7 (by refine(?_:0 < 6);decide) λh₆ he₆ hs₆=>?_)
  have a₆:=a₅.pG n1 n2 hs₆ (f1:=rawInt h₃.objs.size) (u1:=u) (j:=(k:Int)+1) (o1:=x) he₆
  refine YO a₆.V7 (by refine(?_:1 < 6);decide) λh₇ he₇ hs₇=>?_
  have a₇:=a₆.pG n1 n2 hs₇ (f1:=rawInt h₃.objs.size) (u1:=false) (j:=(k:Int)+1) (o1:=x) he₇
  exact Xq (wpAny_letGo (Xu (aC _ rfl (hQ _ _ ⟨x,_,_,_,_,rfl,hx,hT,hs₇.extBut _ _ ne (hs₆.extBut _ _ ne (hs₅.extBut _ _ ne p₄)),.inr ⟨_,rfl⟩,a₇⟩))))
 ·have a₅:=a₄.pG n1 n2 hs₅ (f1:=f0) (u1:=true) (j:=(k:Int)+1) (o1:=old) he₅
  exact Xu (aC _ rfl (hQ _ _ ⟨x,_,_,_,_,rfl,hx,hT,hs₅.extBut _ _ ne p₄,hf,a₅⟩))
theorem UJ{f:_->Bool}{Q:Bool->Shared->Prop}(h:∀b,Q b s):wpAny (model prog w) A stack (λst s=>wpAny (model prog w) A (pure (f st)) Q E s) E s:=wpAny_stack_any λ_=>Xu (h _)
set_option tactic.hygienic true in
theorem Rc(t:Addr)(xs:Array Value)(n:Nat):
  Meets (Builtin.«enumerate.__new__» ⟨[.type "enumerate",.ref t],[]⟩) (λ_ R s=>s.heap.get? t=some {cls:=.type "tuple",dict:=none,data:=.seq xs n,slots:=#[]}/\
   R (.ok (.ret (.ref (s.heap.push {cls:=.type "tuple_iterator",data:=.fields #[.ref t,.int 0 0]}).objs.size)))
    {s with heap:=(s.heap.push {cls:=.type "tuple_iterator",data:=.fields #[.ref t,.int 0 0]}).push (eO .none false s.heap.objs.size 0 .none .none)}):=
 .of_wp λprog w A R s h=>by
  obtain⟨hp,g,d,tk,os⟩:=s;refine ba h ?_;clear h;intro hl h
  have hsub:=sub_enumerate
  have hL:Heap.IsTuple (Shared.heap ⟨hp,g,d,tk,os⟩) t xs:=⟨_,hl,rfl,n,rfl⟩
  wp_walk using wpAny_loadPart' hl
  refine UJ λb=>?_
  cases b<;>(wp_walk using wpAny_loadPart' hl,wpAny_pyIter_tuple hL;exact aC _ rfl h)
end
section
variable {s:Shared}{h:Heap}{it t:Addr}{items:List V}{S:List Addr}{n:Nat}
theorem Ji{u:Bool}{k:Nat}{xs:Array Value}(hh:A.handled=none)(n1:it≠I)(n2:t≠I)(n3:t≠it)(hf:Tk f0)(a:ES s.heap I it t xs s.heap f0 u k old k){Q:Option Value->Shared->Prop}
  (hQ:∀v h',Dj s.heap I it t xs k s.toks v h'->Q (some v) {s with heap:=h',toks:=s.toks+1}) (hE:∀e h',Di s.heap it xs k e h'->Q none {s with heap:=h'}):Wp Z A (pyNext (.ref I)) Q s:=by
 have hT:s.TypeIs (.ref I) "enumerate":=⟨_,a.V7,rfl⟩
 unfold pyNext
 refine Xq (wpAny_attempt (wpAny_callSpecial?_slot (name:=Str.ofString "__next__") hT F.slot_enumerate_next
  (Y6 F.slot_enumerate_next hT F.entry_enumerate_next (PD hh n1 n2 n3 hf a (λv h' o=>Xu (hQ v h' o)) λe h' o=>?_) (F.args_enumerate_next_1 _))))
 refine az o.3 λo' ho hc=>?_
 exact Xq (wpAny_isInstance (T:="StopIteration") (b:=true) ⟨o',ho,hc⟩ isSubtype_stop (Xu (hE e h' o)))
theorem PC{xs:List V}(hI0:Z.cU.get? I=none)(hi0:Z.cU.get? it=none)(n1:it≠I)(n2:t≠I)(n3:t≠it)(fI:I∉fr)(fi:it∉fr)(ft:t∉fr)(rest:List V):∀(k:Nat) (h:Heap) (μ:List Addr) (σ:aj) (f0 old:Value) (u:Bool),Tk f0->items.drop k=rest->ES h I it t vs.toArray h f0 u k old k->
  I∉μ->it∉μ->h.get? t=some (j6 vs n)->t∉μ->aR Z.KN.aF h μ items vs->lU Z I [I,it] fr (.bx xs) ((rest.zipIdx k).map λp=>.t [.i p.2,p.1]) h μ σ:=by
 have sol:∀{s:Shared} {μ:List Addr} {f0 old:Value} {u:Bool} {k:Nat},ES s.heap I it t vs.toArray s.heap f0 u k old k->I∉μ->it∉μ->∀b∈[I,it],b∉μ/\Z.cU.get? b=none/\∀o,s.heap.get? b=some o->gm o=false:=λ{s μ f0 old u k} a m1 m2 b hb=>by
  rcases XL hb with rfl |hb
  ·exact fA m1 hI0 (λo ho=>by cases a.V7.symm.trans ho;rfl)
  ·cases XG hb
   refine fA m2 hi0 (λo ho=>?_)
   obtain⟨q,hq,_,hd⟩:=a.WJ
   cases hq.symm.trans ho
   unfold gm;rw[hd];rfl
 have inn:∀{c:Addr},c∉[I,it]->c≠I/\c≠it:=λhc=>⟨λe=>hc (e▸XH ..),λe=>hc (e▸XI _ (Ym rfl))⟩
 induction rest with
 |nil=>
  rintro k h μ σ f0 old u hf hk a m1 m2 gt mt r A s hh rfl J
  have hlen:=r.length
  refine Ji hh n1 n2 n3 hf a (λv h' Q=>?_) λe h' Q=>⟨rfl,tA (t:=s.toks) J (sol a m1 m2) λc q hc hq=>Q.2 c q (inn hc).2 hq⟩
  obtain⟨x,_,_,_,_,_,hx,_⟩:=Q
  rw[YF]at hx
  have:=(XZ hx).1
  have:=List.drop_eq_nil_iff.mp hk
  lia
 |cons V rest ih=>
  rintro k h μ σ f0 old u hf hk a m1 m2 gt mt r A s hh rfl J
  refine az (r.get (su hk).1) λy hy ry=>?_
  refine Ji hh n1 n2 n3 hf a (λv h' Q=>?_) λe h' Q=>?_
  ·obtain⟨x,T,f1,u1,o1,rfl,hx,hT,P,hf1,a1⟩:=Q
   rw[YF,hy]at hx
   cases hx
   have K:∀h' f2 u2 o2,Tk f2->ES s.heap I it t vs.toArray h' f2 u2 ((k:Int)+1) o2 (k+1)->IsPair h' T (.int k s.toks) y->zV Z [I,it] fr (.bx xs) ((rest.zipIdx (k+1)).map λp=>.t [.i p.2,p.1]) (lU Z I [I,it] fr (.bx xs) ((rest.zipIdx (k+1)).map λp=>.t [.i p.2,p.1])) s μ σ (.t [.i k,V]) (.ref T) () {s with heap:=h',toks:=s.toks+1}:=λh' f2 u2 o2 hf2 a2 P2=>by
    have st:=tA (t:=s.toks+1) J (sol a m1 m2) λc q hc hq=>a2.vX c q (inn hc).1 (inn hc).2 hq
    refine⟨st,⟨T,[.int k s.toks,y],_,rfl,P2,(J.eY hT).1,_,_,rfl,⟨_,rfl⟩,y,[],rfl,ry.extW st.ew,rfl⟩,λh3 μ3 σ3 lt g J3=>?_⟩
    have gt2:=a2.vX t _ n2 n3 gt
    obtain⟨q,hq,hcd⟩:=a2.WJ
    exact ih (k+1) h3 μ3 σ3 f2 o2 u2 hf2 (su hk).2 ⟨λ_ _ _ _ e=>e,Xx _,lt.js _ _ a2.V7 m1 fI,⟨q,lt.js _ _ hq m2 fi,hcd⟩,dJ (lt.js _ _ gt2 mt ft)⟩ (lt.lV a2.V7 m1) (lt.lV hq m2) (lt.js _ _ gt2 mt ft) (lt.lV gt2 mt) (aR.extW lt.ew _ (aR.extW st.ew _ r))
   exact⟨_,rfl,λtg=>HF (s:={s with heap:=h',toks:=s.toks+1}) (vs:=#[f1,.bool u1,.ref it,rawInt ((k:Int)+1),.none,o1]) a1.V7 (Zd 5) tg _ (K h' f1 u1 o1 hf1 a1 P) λh2 hz2 hs2=>K h2 .none u1 o1 (.inl rfl) (a1.pG n1 n2 hs2 hz2) (hs2.extBut _ _ (λe=>bN (hT.symm.trans (e▸a.V7))) P)⟩
  ·have:=Q.1
   rw[YF,hy]at this
   cases this
end
section
variable {d n:Nat}{e:Ex}{xs ys:List V}{a:Nat}
theorem MO(h:Ev d n e ρ σ (.t xs) σ₁)(hl:aD xs):bA d n (.n e) ρ σ (.bx (xs.zipIdx.map λp=>.t [.i p.2,p.1])) σ₁:=.zn (λL c e h=>(bV h).2) (.ah h .an) λZ A s μ vs R J r=>
 nF (M:=λvs=>Wp Z A (PySem.call (.type "enumerate") vs) _ s) r λv r1=>by
  obtain⟨x,vs,n,rfl,ha,hn,hr⟩:=d6 r1
  refine callType_new F.called_enumerate (by decide) (F.typeCall_enumerate_1 _) (F.newCall_enumerate_1 _) (λobj=>F.args_object_init_2 obj _) F.entry_enumerate_new (Rc x vs.toArray n) ⟨ha,?_⟩
  generalize hz:(s.heap.push {cls:=.type "tuple_iterator",data:=.fields #[.ref x,.int 0 0]}).objs.size=z
  have e1:z=s.heap.objs.size+1:=hz.symm.trans (Y7 ..)
  have hi:s.heap.get? s.heap.objs.size=none:=iB
  have lx:x < s.heap.objs.size:=Ys ha
  have n1:s.heap.objs.size≠z:=e1▸(XQ (Zi _))
  have n2:x≠z:=e1▸XQ (ZA lx)
  have kp:∀b o,s.heap.get? b=some o->((s.heap.push {cls:=.type "tuple_iterator",data:=.fields #[.ref x,.int 0 0]}).push (eO .none false s.heap.objs.size 0 .none .none)).get? b=some o:=λb o q=>XO _ (XO _ q)
  have ge:((s.heap.push {cls:=.type "tuple_iterator",data:=.fields #[.ref x,.int 0 0]}).push (eO .none false s.heap.objs.size 0 .none .none)).get? z=some (eO .none false s.heap.objs.size 0 .none .none):=by rw[<-hz];exact Yg _ rfl
  have gi:((s.heap.push {cls:=.type "tuple_iterator",data:=.fields #[.ref x,.int 0 0]}).push (eO .none false s.heap.objs.size 0 .none .none)).get? s.heap.objs.size=some {cls:=.type "tuple_iterator",data:=.fields #[.ref x,.int 0 0]}:=XO _ (Yg _ rfl)
  have nz:s.heap.get? z=none:=mz (e1▸Yp _)
  have hT:∀{s':Shared},s'.heap.get? z=some (eO .none false s.heap.objs.size 0 .none .none)->s'.TypeIs (.ref z) "enumerate":=λq=>⟨_,q,rfl⟩
  have self:∀{s':Shared} {R:Value->Shared->Prop},s'.heap.get? z=some (eO .none false s.heap.objs.size 0 .none .none)->R (.ref z) s'->Wp Z A (pyIter (.ref z)) R s':=λq r=>wpAny_pyIter_slot (hT q) F.slot_enumerate_iter (Y6 F.slot_enumerate_iter (hT q) F.entry_enumerate_iter (Xu ⟨_,rfl,"enumerate",_,hT q,F.slot_enumerate_next.lookup,r⟩) (F.args_enumerate_iter_1 _))
  have st:=iH J kp s.toks
  refine bm (hT ge) (self ge ⟨z,[z,s.heap.objs.size],μ,rfl,st,trivial,λb hb=>?_,.inl nz,λfr hfr h3 μ3 σ3 lt g J3=>?_,λs'' hk R hR=>self (hk _ _ ge) hR⟩)
  ·rcases XL hb with rfl |hb
   ·exact⟨nz,_,ge⟩
   ·cases XG hb;exact⟨hi,_,gi⟩
  ·have fz:=qx hfr ge (.inl rfl)
   have fi:=qx hfr gi (.inr (.inl (XI _ (Ym rfl))))
   have fx:=qx hfr (kp _ _ ha) (.inr (.inr rfl))
   have gx:=lt.js _ _ (kp _ _ ha) hn fx
   exact PC (J.eY nz).2 (J.eY hi).2 n1 n2 (XQ lx) fz fi fx xs 0 _ _ _ .none .none false (.inl rfl) rfl ⟨λ_ _ _ _ e=>e,Xx _,lt.js _ _ ge (J.eY nz).1 fz,⟨_,lt.js _ _ gi (J.eY hi).1 fi,rfl,rfl⟩,dJ gx⟩ (lt.lV ge (J.eY nz).1) (lt.lV gi (J.eY hi).1) gx (lt.lV (kp _ _ ha) hn) (aR.extW lt.ew _ (aR.li st.bJ _ hr))
end
open AutoSeq1 (wpAny_loadPart')
noncomputable abbrev eR(t:Addr):Obj:={cls:=.type "tuple_iterator",data:=.fields #[.ref t,.int 0 0]}
noncomputable abbrev zH(h:Heap)(t1 t2:Addr):Heap:=(((h.push (eR t1)).push (eR t2)).push {cls:=.type "tuple",data:=.seq #[.ref h.objs.size,.ref (h.push (eR t1)).objs.size]}).push {cls:=.type "tuple",data:=.seq #[.none,.none]}
theorem Rd(t1 t2:Addr)(xs ys:Array Value):
  Meets (Builtin.«zip.__new__» ⟨[.type "zip",.ref t1,.ref t2],[]⟩) (λ_ R s=>s.heap.IsTuple t1 xs/\s.heap.IsTuple t2 ys/\
   R (.ok (.ret (.ref (zH s.heap t1 t2).objs.size))) {s with heap:=(zH s.heap t1 t2).push (zO .none false ((s.heap.push (eR t1)).push (eR t2)).objs.size (((s.heap.push (eR t1)).push (eR t2)).push {cls:=.type "tuple",data:=.seq #[.ref s.heap.objs.size,.ref (s.heap.push (eR t1)).objs.size]}).objs.size)}):=
 .of_wp λprog w A R s h=>by
  obtain⟨hp,g,d,tk,os⟩:=s;refine cO h ?_;clear h;intro hl1 hl2 h
  have hsub:=sub_zip
  have hL1:Heap.IsTuple (Shared.heap ⟨hp,g,d,tk,os⟩) t1 xs:=hl1
  have hL2:Heap.IsTuple (Shared.heap ⟨hp.push (eR t1),g,d,tk,os⟩) t2 ys:=Heap.IsTuple.push hl2 _
  wp_walk using wpAny_pyIter_tuple hL1,wpAny_pyIter_tuple hL2
  exact aC _ rfl h
section
variable {h:Heap}{ν:List Addr}
theorem aU.Mt(I:aU Z h μ σ)(hl:ν.length=τ.length)(nd:ν.Nodup)(hx:∀b∈ν,h.get? b=none)(hk:∀b q,h.get? b=some q->h'.get? b=some q)(lv:∀b∈ν,∃q,h'.get? b=some q)
  (hr:dx h μ h' (μ++ν)->∀i x o,ν[i]? =some x->τ[i]? =some o->dC Z h' (μ++ν) (σ.length+i) x o) (ha:∀i xs,τ[i]? =some (.i xs)->∀j,j < 3->∃o,τ[i+1+j]? =some o/\o.tW=true) (hd:∀o∈τ,o.fH=false):
  aU Z h' (μ++ν) (σ++τ)/\dx h μ h' (μ++ν):=by
 have e:dx h μ h' (μ++ν):=⟨λb o hb _=>hk b o hb,Yk _ _,λb hb=>(XM hb).imp id (hx b)⟩
 have two:∀{M:Nat->Addr->O->Prop},(∀i x o,μ[i]? =some x->σ[i]? =some o->M i x o)->(∀i x o,ν[i]? =some x->τ[i]? =some o->M (σ.length+i) x o)->∀i x o,(μ++ν)[i]? =some x->(σ++τ)[i]? =some o->M i x o:=λ{M} p q i x o hx ho=>by
  rcases Nat.lt_or_ge i σ.length with c |c
  ·rw[Yl (I.eu▸c)]at hx
   rw[Yl c]at ho
   exact p i x o hx ho
  ·rw[YR (I.eu▸c),I.eu]at hx
   rw[YR c]at ho
   have:=q _ x o hx ho
   rwa [Nat.add_sub_cancel' c]at this
 refine bm (⟨by rw[Xv,Xv,I.eu,hl],List.nodup_append.mpr ⟨I.jI,nd,λa ha b hb q=>by subst q;exact(I.iU a ha).elim λo p=>bN ((hx a hb).symm.trans p)⟩,λb o hb=>hk b o (I.dM b o hb),λb hb=>(XM hb).elim (I.jH b) λq=>(I.eY (hx b q)).2,
  λb hb=>(XM hb).elim (λq=>(I.iU b q).imp λo=>hk b o) (lv b),two (M:=dC Z h' (μ++ν)) (λi x o p q=>(I.fU i x o p q).zD e (λq=>hk x q) λ_ _ _ _ b _ q=>hk b q) (hr e),λi xs hq j hj=>?_,I.ki,two (M:=λ_ x o=>o.fH=true->x≠sysModules) I.jr λi x o p q r=>Bool.noConfusion ((hd o (Yo q)).symm.trans r)⟩) e
 rcases Nat.lt_or_ge i σ.length with c |c
 ·rw[Yl c]at hq
  exact(I.iT i xs hq j hj).imp λo r=>⟨by rw[Yl (XZ r.1).1];exact r.1,r.2⟩
 ·rw[YR c]at hq
  exact(ha _ xs hq j hj).imp λo r=>⟨by rw[YR (by exact CA (d5 c)),show i+1+j - σ.length=i - σ.length+1+j by exact qG1 c];exact r.1,r.2⟩
end
section
variable {d n:Nat}{e:Ex}{xs ys:List V}{a:Nat}
theorem Sd{h:Heap}(xs:List V):∀{ys:List V} {as bs:List Value},aR cl h μ xs as->aR cl h μ ys bs->aR cl h μ ((xs.zip ys).map (·.1)) ((as.zip bs).map (·.1))/\aR cl h μ ((xs.zip ys).map (·.2)) ((as.zip bs).map (·.2)):=by
 induction xs with
 |nil=>intro ys as bs r _;obtain rfl:as=[]:=r;exact bm rfl rfl
 |cons x xs ih=>
  intro ys as bs r q
  refine cP r ?_;clear r;intro v vs q2 r1 r2;subst q2
  rcases ys with _ | ⟨y,ys⟩
  ·obtain rfl:bs=[]:=q;exact bm rfl rfl
  ·obtain⟨u,us,rfl,q1,q2⟩:=q
   exact⟨⟨v,_,rfl,r1,(ih r2 q2).1⟩,u,_,rfl,q1,(ih r2 q2).2⟩
theorem Cr:Pr (il .z [.t xs,.t ys] σ) (.r σ.length) (σ++[.i ((xs.zip ys).map λp=>.t [p.1,p.2]),.u,.u,.u]):=λZ A s μ vs S R J r=>by
 obtain⟨_,_,rfl,r1,_,_,rfl,r2,rfl⟩:=r
 obtain⟨t1,as,n1,rfl,g1,m1,q1⟩:=d6 r1
 obtain⟨t2,bs,n2,rfl,g2,m2,q2⟩:=d6 r2
 refine callType_new F.called_zip (by decide) (F.typeCall_zip_2 _ _) (F.newCall_zip_2 _ _) (λobj=>F.args_object_init_3 obj _ _) F.entry_zip_new (Rd t1 t2 as.toArray bs.toArray) ⟨dJ g1,dJ g2,?_⟩
 refine(?_:_/\_)
 have b1:((zH s.heap t1 t2).push (zO .none false ((s.heap.push (eR t1)).push (eR t2)).objs.size (((s.heap.push (eR t1)).push (eR t2)).push {cls:=.type "tuple",data:=.seq #[.ref s.heap.objs.size,.ref (s.heap.push (eR t1)).objs.size]}).objs.size)).get? s.heap.objs.size=some (eR t1):=
  XO _ (XO _ (XO _ (XO _ (Yg _ rfl))))
 have kp:∀c o,s.heap.get? c=some o->((zH s.heap t1 t2).push (zO .none false ((s.heap.push (eR t1)).push (eR t2)).objs.size (((s.heap.push (eR t1)).push (eR t2)).push {cls:=.type "tuple",data:=.seq #[.ref s.heap.objs.size,.ref (s.heap.push (eR t1)).objs.size]}).objs.size)).get? c=some o:=λc o x=>
  XO _ (XO _ (XO _ (XO _ (XO _ x))))
 revert b1 kp
 unfold zH
 have s2:(s.heap.push (eR t1)).objs.size=s.heap.objs.size+1:=Y7 ..
 have f:∀c,s.heap.objs.size<=c->s.heap.get? c=none:=λc=>mz
 generalize s.heap.push (eR t1)=H1 at s2 ⊢
 have b2:=Yg H1 (o:=eR t2) rfl
 have s3:(H1.push (eR t2)).objs.size=H1.objs.size+1:=Y7 ..
 generalize H1.push (eR t2)=H2 at b2 s3 ⊢
 generalize H1.objs.size=i2 at b2 s2 s3 ⊢
 have b3:=Yg H2 (o:={cls:=.type "tuple",data:=.seq #[.ref s.heap.objs.size,.ref i2]}) rfl
 have b2:=XO {cls:=.type "tuple",data:=.seq #[.ref s.heap.objs.size,.ref i2]} b2
 have s4:(H2.push {cls:=.type "tuple",data:=.seq #[.ref s.heap.objs.size,.ref i2]}).objs.size=H2.objs.size+1:=Y7 ..
 generalize H2.push {cls:=.type "tuple",data:=.seq #[.ref s.heap.objs.size,.ref i2]}=H3 at b2 b3 s4 ⊢
 generalize H2.objs.size=TI at b3 s3 s4 ⊢
 have b4:=Yg H3 (o:={cls:=.type "tuple",data:=.seq #[.none,.none]}) rfl
 have b3:=XO {cls:=.type "tuple",data:=.seq #[.none,.none]} b3
 have b2:=XO {cls:=.type "tuple",data:=.seq #[.none,.none]} b2
 have s5:(H3.push {cls:=.type "tuple",data:=.seq #[.none,.none]}).objs.size=H3.objs.size+1:=Y7 ..
 generalize H3.push {cls:=.type "tuple",data:=.seq #[.none,.none]}=H4 at b2 b3 b4 s5 ⊢
 generalize H3.objs.size=TO at b4 s4 s5 ⊢
 have b5:=Yg H4 (o:=zO .none false TI TO) rfl
 have b4:=XO (zO .none false TI TO) b4
 have b3:=XO (zO .none false TI TO) b3
 have b2:=XO (zO .none false TI TO) b2
 generalize H4.push (zO .none false TI TO)=H5 at b2 b3 b4 b5 ⊢
 generalize H4.objs.size=z at b5 s5 ⊢
 intro b1 kp
 have l1:@LT.lt Nat _ t1 s.heap.objs.size:=Ys g1
 have l2:@LT.lt Nat _ t2 s.heap.objs.size:=Ys g2
 have fx:∀b∈[z,TO,s.heap.objs.size,i2],s.heap.objs.size<=b:=λb hb=>by
  simp only[Yt,Ye,or_false]at hb
  exact qG5 hb s5 s4 s2 s3
 have le3:s.heap.objs.size<=TI:=qT (vn s2) (vn s3)
 have ne:∀{a b:Nat},a < b->a≠b:=λh=>XQ h
 have ne':∀{a b:Nat},b < a->a≠b:=λh=>Y3 h
 have off:∀c,c∉μ->c≠z->c≠TO->c≠s.heap.objs.size->c≠i2->c∉μ++[z,TO,s.heap.objs.size,i2]:=λc h1 h2 h3 h4 h5 h=>by
  simp only[List.mem_append,Yt,Ye,or_false]at h
  rcases h with h |h |h |h |h
  ·exact h1 h
  ·exact h2 h
  ·exact h3 h
  ·exact h4 h
  ·exact h5 h
 have K:=J.Mt (ν:=([z,TO,s.heap.objs.size,i2]:List Nat)) (τ:=[.i ((xs.zip ys).map λp=>.t [p.1,p.2]),.u,.u,.u]) (h':=H5) rfl
  (by refine(?_:@List.Nodup Nat [z,TO,s.heap.objs.size,i2]);simp only[Zg,Yt,Ye,or_false,not_or,not_false_eq_true,Zc,and_true];lia)
  (λb hb=>f b (fx b hb)) kp (λb hb=>by
   simp only[Yt,Ye,or_false]at hb
   rcases hb with rfl |rfl |rfl |rfl
   ·exact fB _ b5
   ·exact fB _ b4
   ·exact fB _ b1
   ·exact fB _ b2) (λe i x o hi ho=>by
   have at_:∀k b,[z,TO,s.heap.objs.size,i2][k]? =some b->(μ++[z,TO,s.heap.objs.size,i2])[σ.length+k]? =some b:=λk b hb=>by rw[YR (by rw[J.eu];exact XS ..),J.eu,Nat.add_sub_cancel_left];exact hb
   rcases i with _ |_ |_ |_ |i
   ·cases hi;cases ho
    have p:=Sd xs q1 q2
    exact kL as bs (xs.zip ys) 0 (⟨.none,false,TI,TO,_,i2,t1,t2,n1,n2,_,_,b5,.inl rfl,at_ 1 _ rfl,at_ 2 _ rfl,at_ 3 _ rfl,off TI (J.eY (f TI le3)).1 (ne (i9 (gM s4) s5)) (ne (gM s4)) (ne' (i9 (gM s2) s3)) (ne' (gM s3)),off t1 m1 (ne (JK l1 s5 s4 s3 s2)) (ne (i9 (i9 (i9 l1 s2) s3) s4)) (ne l1) (ne (i9 l1 s2)),off t2 m2 (ne (JK l2 s5 s4 s3 s2)) (ne (i9 (i9 (i9 l2 s2) s3) s4)) (ne l2) (ne (i9 l2 s2)),b3,b4,⟨_,b1,rfl,rfl⟩,⟨_,b2,rfl,rfl⟩,kp _ _ g1,kp _ _ g2⟩) (aR.li e _ p.1) (aR.li e _ p.2) rfl
   ·cases ho;trivial
   ·cases ho;trivial
   ·cases ho;trivial
   ·cases ho) (λi xs h j hj=>by
   rcases i with _ |_ |_ |_ |i<;>cases h
   rcases j with _ |_ |_ |j
   ·exact aC _ rfl rfl
   ·exact aC _ rfl rfl
   ·exact aC _ rfl rfl
   ·exact Cu hj gh) (λo ho=>by
   simp only[Yt,Ye,or_false]at ho
   rcases ho with rfl |rfl |rfl |rfl<;>rfl)
 exact⟨⟨_,b5,rfl⟩,_,⟨⟨rfl,rfl,rfl⟩,K.1,K.2⟩,z,by rw[YR (Yd J.eu),J.eu,Nat.sub_self];rfl,rfl⟩
end
noncomputable abbrev iQ(led:Bool)(pl:Array Nat):SetTable:={SetTable.fresh 0 0 led with place:=pl}
noncomputable abbrev je(led:Bool)(es:Array (Int×Value))(pl:Array Nat)(ep:Nat):Obj:={cls:=.type "set",dict:=none,data:=.set es ep (iQ led pl),slots:=#[]}
inductive rd(prog:Program)(w:World)(es':Array (Int×Value))(pl':Array Nat):List Value->Array (Int×Value)->Array Nat->Prop
 |re:rd prog w es' pl' [] es' pl'
 |pB {k:Int} {t:Tok} {vs:List Value} {es es1:Array (Int×Value)} {pl pl1:Array Nat} (hL:∀led,layNew (iQ led pl) es k (.int k t)=(es1,iQ led pl1,false,false)) (hk:(intKind prog w).hash k=k) (hE:ElemsOf (intKind prog w) es.toList)
  (hn:es.toList.findIdx? (λe=>(intKind prog w).is k e.2)=none) (hs:pl.size=es.size) (h2:es.size < 2) (h3:es1.size<=2) (h4:pl1.size<=2) (r:rd prog w es' pl' vs es1 pl1):rd prog w es' pl' (.int k t::vs) es pl
theorem P6(h:pl.size<=2):(iQ led pl).tooFull=false:=by
 refine(?_:decide ((pl.size+0) * 5≥7 * 3)=false)
 exact Yb (by lia)
theorem yt{n:Nat}(h:pl.size=n)(h2:n<=2):(iQ led pl).fits n=true:=by
 refine(?_:(pl.size==n&&decide (pl.size+0<=7))=true)
 rw[h,beq_self_eq_true,XT (by exact ja h2 rfl)];rfl
section
variable {w:World}{s:Shared}{S l:Addr}{es es1 es':Array (Int×Value)}{pl1 pl':Array Nat}{i:Nat}{k:Int}{t:Tok}{items:Array Value}
theorem Ob{Q:Bool->Shared->Prop}(ho:s.heap.get? S=some (je led es pl ep))(hL:∀led,layNew (iQ led pl) es k (.int k t)=(es1,iQ led pl1,false,false))(hk:(intKind prog w).hash k=k)(hE:ElemsOf (intKind prog w) es.toList)
  (hn:es.toList.findIdx? (λe=>(intKind prog w).is k e.2)=none) (hs:pl.size=es.size) (h2:es.size < 2) (h3:es1.size<=2) (h4:pl1.size<=2)
  (h:∀h',Heap.SameBut S s.heap h'->h'.get? S=some (je led es1 pl1 (ep+1))->Q true {s with heap:=h'}):wpAny (model prog w) A (setAddHashed S (.int k t) k) Q E s:=by
 have hf:(iQ led pl).fits es.size=true:=yt hs (qL h2)
 unfold setAddHashed setAddHashedIn
 refine XR (Xq (wpAny_setState_of ho rfl hf ?_))
 dsimp only
 rw[byScan_of rfl (Nat.lt_trans h2 (by decide)) hE]
 simp only[↓reduceIte]
 unfold setAddByScan
 refine Xq (Xq (wpAny_rule (Xq ?_)))
 have sc:=wpAny_setScan_of (A:=A) (E:=E) (knd:=intKind prog w) (adding:=true) (x:=.int k t) (intKind_is _ _ _ _) ho rfl hf hE (Q:=λm s'=>m=.absent/\s'=s) (by rw[hn];exact bm rfl rfl)
 rw[hk]at sc
 refine wpAny_mono sc (λm s' q=>?_) λ_ _ q=>q
 refine ba q ?_;clear q;intro q0 q1;subst q0;subst q1
 rw[hL]
 dsimp only
 refine Xq (Xu ?_)
 refine Xq (Xu ?_)
 simp only[↓reduceIte]
 refine Xq (wpAny_storeSet_of ho rfl ?_ (Xs h3 (by rw[sizeLine_eq];decide)))
 rw[P6 h4]
 refine Xu (Xu (h _ (Heap.SameBut.update ..) ?_))
 exact ZC _ ho (by rfl)
theorem Vd{R:Result->Shared->Prop}(hh:A.in1.handled=none)(r:rd prog w es' pl' vs es pl)(hl1:l≠I)(hl2:l≠S)(hIS:I≠S):∀(i:Nat) (s:Shared) (ep:Nat),items.toList.drop i=vs->s.heap.IsListIter I l i->s.heap.IsList l items->s.heap.get? S=some (je led es pl ep)->
  (∀h' tk ep',h'.get? S=some (je led es' pl' ep')->(∀b o,b≠S->b≠I->s.heap.get? b=some o->h'.get? b=some o)->R (.ok (.ret .none)) {s with heap:=h',toks:=tk})->
  codeAny (model prog w) A (.builtin "set.update.loop" ⟨[.ref S,.ref I],[]⟩) R s:=by
 induction r with
 |re=>
  intro i s ep hd hit hl hS hR
  refine codeAny_builtin PyProof.Rows.F.entry_set_update_loop ?_
  rw[Around.under_plainId PyProof.Rows.F.plain_set_update_loop _]
  refine(?_:wpAny _ A.in1 (pyNext (.ref I)>>=_) _ _ s)
  refine Xq (wpAny_pyNext_list_end hh hit hl (by rw[<-Array.getElem?_toList];exact List.getElem?_eq_none (List.drop_eq_nil_iff.mp hd)) λh' he=>?_)
  exact Xu (hR h' s.toks ep (he _ _ hIS.symm hS) λb o _ hb=>he b o hb)
 | @pB k t vs es es1 pl pl1 hL hk hE hn hs h2 h3 h4 r ih=>
  intro i s ep hd hit hl hS hR
  refine codeAny_builtin PyProof.Rows.F.entry_set_update_loop ?_
  rw[Around.under_plainId PyProof.Rows.F.plain_set_update_loop _]
  refine(?_:wpAny _ A.in1 (pyNext (.ref I)>>=_) _ _ s)
  have hx:items[i]? =some (.int k t):=by rw[<-Array.getElem?_toList,<-List.head?_drop,hd];rfl
  refine Xq (wpAny_pyNext_list_item hit hl hx λh1 hit1 hs1=>?_)
  refine(?_:wpAny _ A.in1 (holding [Value.int k t] (setAdd S (.int k t))>>=_) _ _ _)
  refine Xq (XR ?_)
  unfold setAdd
  refine XR ?_
  refine Xq ((intKind prog w).pyHash (k:=k) (intKind_is _ _ _ _) ?_)
  rw[hk]
  refine Ob (s:={s with heap:=h1,toks:=s.toks+1}) (hs1.extBut _ _ hIS.symm hS) hL hk hE hn hs h2 h3 h4 λh' hsb hS'=>?_
  refine Xu ⟨plainId_quiet PyProof.Rows.F.plain_set_update_loop _,ih (i+1) _ (ep+1) (by rw[<-List.tail_drop,hd];rfl) (hit1.extBut hsb.extBut hIS) ((hl.extBut hs1.extBut hl1).extBut hsb.extBut hl2) hS' λh2 tk ep' hS2 kp=>?_⟩
  exact hR h2 tk ep' hS2 λb o b1 b2 hb=>kp b o b1 b2 (hsb.extBut b o b1 (hs1.extBut b o b2 hb))
theorem OM(a:Value){Q₁:Value->Shared->Prop}
  (h:Q₁ (.ref s.heap.objs.size) {s with heap:=s.heap.push (je (!w.params.followText "set-order") #[] #[] 0)}):
  codeAny (model prog w) A (.call (.builtin "set.__new__") ⟨[.type "set",a],[]⟩) (wants Q₁ E) s:=by
 refine Zm ?_
 refine(?_:wpAny _ A.in1 (do checkBuiltinCall "set.__new__" ⟨[.type "set",a],[]⟩;again (.builtin "set.__new__" ⟨[.type "set",a],[]⟩)) _ _ s)
 refine Xq (wpAny_of_eq (F.newCall_set_1 a) (Xu ⟨plainId_quiet F.plain_set_new _,codeAny_builtin F.entry_set_new ?_⟩))
 rw[Around.under_plainId F.plain_set_new _]
 unfold Builtin.«set.__new__» Builtin.Frozenset.newClass
 have hsub:=sub_set_self
 obtain⟨hp,g,d,tk,os⟩:=s
 dsimp only
 wp_walk
 refine wpAny_askSetting (Xu ?_)
 dsimp only
 simp only[newObj]
 exact Xq (wpAny_alloc (Xu (Xu h)))
set_option maxHeartbeats 3200000 in
theorem OF(hh:A.handled=none)(hl:s.heap.IsList l items)(r:rd prog w es' pl' items.toList #[] #[])
  (h:∀h' tk ep,h'.get? s.heap.objs.size=some (je (!w.params.followText "set-order") es' pl' ep)->(∀b o,s.heap.get? b=some o->h'.get? b=some o)->Q (.ref s.heap.objs.size) {s with heap:=h',toks:=tk}):
  wpAny (model prog w) A (call (.type "set") [.ref l]) Q E s:=by
 obtain⟨c,tl,hmro⟩:=F.called_set.mro
 have hmade:=F.called_set.made
 have hsub:=F.called_set.sub
 refine wpAny_call (Zm ?_)
 refine(?_:wpAny _ _ (callAny (.type "set") _) _ _ _)
 refine Xu ⟨Code.quiet_builtin _ (by decide+kernel),codeAny_builtin F.entry_type_call ?_⟩
 rw[Around.under_plain (weight_type_call_type "set" [.ref l] []) rfl]
 have h1:=F.called_set.notType
 have h2:=F.called_set.canCreate
 have hct:=F.typeCall_set_1 (.ref l)
 repeat (any_goals (first |assumption |wp_step))
 refine YY (OM (.ref l) (E:=E) (Q₁:=λobj s₁=>obj=.ref s.heap.objs.size/\s₁={s with heap:=s.heap.push (je (!w.params.followText "set-order") #[] #[] 0)}) ⟨rfl,rfl⟩) λr s₁ hr=>?_
 cases r with
 |error e=>exact hr
 |ok fl=>
  cases fl with
  |ret obj=>
   refine ba hr ?_;clear hr;intro q0 q1;subst q0;subst q1
   have hS:(s.heap.push (je (!w.params.followText "set-order") #[] #[] 0)).get? s.heap.objs.size=some (je (!w.params.followText "set-order") #[] #[] 0):=Yg _ rfl
   have hT:Shared.TypeIs {s with heap:=s.heap.push (je (!w.params.followText "set-order") #[] #[] 0)} (.ref s.heap.objs.size) "set":=⟨_,hS,rfl⟩
   have hli:=F.called_set.init.lookup
   have hbi:=F.called_set.init.bind (.ref s.heap.objs.size)
   repeat (any_goals (first |assumption |wp_step))
   refine YY (codeAny_call_builtin (R:=wants (λr s₂=>r=.none/\∃h' tk ep,s₂={s with heap:=h',toks:=tk}/\h'.get? s.heap.objs.size=some (je (!w.params.followText "set-order") es' pl' ep)/\∀b o,s.heap.get? b=some o->h'.get? b=some o) E) F.called_set.init.plain F.entry_set_init (check_set_init_1 hT ?_)) λr₂ s₂ hr₂=>?_
   ·obtain⟨ol,hol,hcl,nl,hdl⟩:=hl
    obtain⟨ocls,odict,odata,oslots⟩:=ol
    simp only at hcl hdl
    subst hcl;subst hdl
    have hol':(s.heap.push (je (!w.params.followText "set-order") #[] #[] 0)).get? l=some {cls:=.type "list",dict:=odict,data:=.seq items nl,slots:=oslots}:=XO _ hol
    have hsls:=F.sub_list_set
    have hslf:=F.sub_list_frozenset
    have hne:(Value.type "list"==Value.type "dict")=false:=by decide
    have hl1:(s.heap.push (je (!w.params.followText "set-order") #[] #[] 0)).IsList l items:=⟨_,hol',rfl,nl,rfl⟩
    unfold Builtin.«set.__init__» noKeywords Builtin.Frozenset.updateFrom
    generalize hPI:pyIter=PI
    wp_walk
    subst hPI
    refine wpAny_pyIter_list hl1 ?_
    refine Xq (wpAny_runValue ?_)
    have hlS:@LT.lt Nat _ l s.heap.objs.size:=Ys hol
    have zS:(s.heap.push (je (!w.params.followText "set-order") #[] #[] 0)).objs.size=s.heap.objs.size+1:=Y7 ..
    refine Vd (by simp[hh]) r (XQ (by rw[zS];exact d5 hlS)) (XQ hlS) (Y3 (by rw[zS];exact pn)) 0 _ 0 rfl ⟨_,Yg _ rfl,rfl,rfl⟩ (hl1.push _) (XO _ hS) λh' tk ep hS' kp=>?_
    refine(?_:wpAny _ _ _ _ _ _)
    refine Xu ?_
    refine(?_:wpAny _ _ (ret Value.none) _ _ _)
    exact Xu ⟨rfl,h',tk,ep,rfl,hS',λb o hb=>kp b o (XQ (Ys hb)) (XQ (by rw[zS];exact ZA (Ys hb))) (XO _ (XO _ hb))⟩
   ·cases r₂ with
    |error e=>exact hr₂
    |ok fl₂=>
     cases fl₂ with
     |ret r=>
      obtain⟨rfl,h',tk,ep,rfl,hS',hk'⟩:=hr₂
      repeat (any_goals (first |assumption |wp_step))
      exact h _ _ _ hS' hk'
     |_=>exact hr₂.elim
  |_=>exact hr.elim
end
theorem yo:Slot "set_iterator" "__next__" "set_iterator.__next__":=
 .of (owner:="set_iterator") (n:="__next__") (by rw[typeLookup_type,builtinLookup_eq_fast];kernel_rfl) (by decide+kernel) (by decide+kernel) (by decide+kernel) (by first |exact .inl (by decide+kernel) |exact .inr (by decide+kernel)) (by rw[isSubtype_type];kernel_rfl)
theorem PB:entryFor table "set_iterator.__next__"=some Builtin.«set_iterator.__next__»:=entryFor_of_tree (by kernel_rfl)
theorem IL:Manifest.owners.lookup (String.ofList ['r','o','t','a','r','e','t','i','_','t','e','s'].reverse)=some Manifest.sig_set_iterator:=by kernel_rfl
theorem Ol(a:Value):argsOk "set_iterator.__next__" ⟨[a],[]⟩:=by
 unfold argsOk;rw[signature?_of (id:="set_iterator.__next__") (n:=['_','_','t','x','e','n','_','_']) (o:=['r','o','t','a','r','e','t','i','_','t','e','s']) (by kernel_rfl) IL];kernel_rfl
theorem Pz:entryFor table "set.__iter__"=some Builtin.«frozenset.__iter__»:=entryFor_alias (id':="frozenset.__iter__") (by rw[fastTable_eq_tree];kernel_rfl) rfl (by decide+kernel) (by rw[fastTable_eq_tree];kernel_rfl)
noncomputable abbrev qn(w:World):Bool:=w.params.followText "set-order"
noncomputable def nQ(pl:Array Nat):Nat->Nat
 |0=>0
 |i+1=>(pl[i]?.getD 0)+1
noncomputable def kT(w:World)(pl:Array Nat)(i:Nat):Nat:=if qn w=true then 0 else nQ pl i
noncomputable def lH(w:World)(d:Addr)(ep:Nat)(es:Array (Int×Value)):Array (Int×Value):=if qn w=true then pickOrder (w.params.setOrder d ep) es else es
noncomputable abbrev yn(c i:Nat)(d:Addr)(n ep:Nat):Obj:=pw "set_iterator" #[rawInt c,rawInt i,.ref d,rawInt n,rawInt ep]
structure SW(w:World)(d:Addr)(es:Array (Int×Value))(pl:Array Nat)(ep:Nat):Prop where
 sz:pl.size=es.size
 le:es.size<=2
 Nr:∀i,i<=pl.size->SetTable.below pl (nQ pl i)=i
 wJ:(lH w d ep es).size=es.size
section
variable {w:World}{s:Shared}{d:Addr}{es:Array (Int×Value)}{i:Nat}
noncomputable abbrev vD(w:World)(h:Heap)(d:Addr)(es:Array (Int×Value))(pl:Array Nat)(ep:Nat):Prop:=h.get? d=some (je (!qn w) es pl ep)
theorem VO{b:Bool}(h:(!b&&(!(iQ led pl).plain&&decide (es.size > 1)))=true):False:=by
 rw[show(!(iQ led pl).plain)=false from rfl,Bool.false_and,Bool.and_false]at h;exact YE h
theorem Up(W:SW w d es pl ep)(hS:vD w s.heap d es pl ep){Q:Option (Value×Nat)->Shared->Prop}(hi:i<=es.size)
  (q:Q (((lH w d ep es)[i]?).map λe=>(e.2,kT w pl (i+1))) s):wpAny (model prog w) A (setNext d (kT w pl i) i ep) Q E s:=by
 have hf:(iQ (!qn w) pl).fits es.size=true:=yt W.sz W.le
 unfold setNext
 refine Xq (wpAny_setState_of hS rfl hf ?_)
 unfold setsByText
 refine Xq (Xq (wpAny_askSetting (Xu ?_)))
 dsimp only
 have ho:=W.wJ
 unfold lH kT at q
 unfold kT
 cases hb:qn w with
 |true=>
  rw[hb]at q
  rw[show(model prog w).w.params.followText "set-order"=true from hb]
  simp -iota only[if_true,bne_self_eq_false,Zv,if_false]
  refine Xq ?_
  unfold setWalk
  refine Xq (wpAny_setState_of hS rfl hf ?_)
  unfold setsByText
  refine Xq (Xq (wpAny_askSetting (Xu ?_)))
  rw[show(model prog w).w.params.followText "set-order"=true from hb]
  simp -iota only[if_true]
  exact Xq (wpAny_askSetting (Xu (Xu q)))
 |false=>
  rw[hb]at q
  rw[show(model prog w).w.params.followText "set-order"=false from hb]
  simp -iota only[Zv,if_false]
  refine wpAny_ite_split (λh=>bE h) λ_=>?_
  refine Xq ?_
  refine(?_:wpAny _ _ (if(!(iQ (!false) pl).led&& !es.isEmpty)=true then _ else _) _ _ _)
  refine wpAny_ite_split (λh=>bE h) λ_=>Xu (Xu ?_)
  rw[W.Nr i (W.sz▸hi)]
  simp -iota only[Zv,if_false]at q
  rcases Nat.lt_or_ge i es.size with c |c
  ·have c':i < pl.size:=W.sz▸c
   rw[ZD c]at q ⊢
   rw[ZD c']
   simp -iota only[show nQ pl (i+1)=(pl[i]?.getD 0)+1 from rfl]at q
   rw[ZD c']at q
   exact q
  ·rw[Array.getElem?_eq_none c]at q ⊢
   exact q
theorem Ka(W:SW w d es pl ep)(hS:vD w s.heap d es pl ep)(hI:s.heap.get? I=some (yn (kT w pl i) i d es.size ep))(hi:i<=es.size)(hh:A.handled=none){Q:Option Value->Shared->Prop}
  (hQ:∀e h',(lH w d ep es)[i]? =some e->h'.get? I=some (yn (kT w pl (i+1)) (i+1) d es.size ep)->Heap.SameBut I s.heap h'->Q (some e.2) {s with heap:=h'})
  (hE:∀h',(lH w d ep es)[i]? =none->Heap.ExtBut I s.heap h'->Q none {s with heap:=h'}):wpAny (model prog w) A (pyNext (.ref I)) Q E s:=by
 have hf:(iQ (!qn w) pl).fits es.size=true:=yt W.sz W.le
 have hT:s.TypeIs (.ref I) "set_iterator":=⟨_,hI,rfl⟩
 unfold pyNext
 refine Xq (wpAny_attempt (wpAny_callSpecial?_slot (name:=Str.ofString "__next__") hT yo (Y6 yo hT PB ?_ (Ol _))))
 refine(?_:wpAny _ _ (fieldsOf (.ref I)>>=_) _ _ _)
 refine Xq (wpAny_fieldsOf hI rfl ?_)
 refine(?_:wpAny _ _ (setEntries d>>=_) _ _ _)
 refine Xq (wpAny_setEntries_of hS rfl hf ?_)
 simp -iota only[bne_self_eq_false,Zv,if_false]
 refine Xq ?_
 refine(?_:wpAny _ _ (setNext d (Int.toNat (kT w pl i:Nat)) (Int.toNat (i:Nat)) (Int.toNat (ep:Nat))) _ _ _)
 rw[Int.toNat_natCast,Int.toNat_natCast,Int.toNat_natCast]
 refine Up W hS hi ?_
 cases ho:(lH w d ep es)[i]? with
 |some e=>
  refine(?_:wpAny _ _ (setField (.ref I) 0 (rawInt (kT w pl (i+1)))>>=_) _ _ _)
  refine Xq (YO hI (Zd 4) λh1 h1' s1=>?_)
  refine Xq (YO h1' (by refine(?_:1 < 5);decide) λh2 h2' s2=>?_)
  exact Xu (aC _ rfl (Xu (hQ e h2 ho h2' (s1.trans s2))))
 |none=>
  refine(?_:wpAny _ _ (setField (.ref I) 2 .none>>=_) _ _ _)
  refine Xq (YO hI (by refine(?_:2 < 5);decide) λh1 h1' s1=>?_)
  refine(?_:wpAny _ _ (newExc (.type "StopIteration") []>>=_) _ _ _)
  refine Xq ?_
  simp -iota only[newExc,newTuple]
  refine Xq (Zu ?_ (by size_fits))
  refine Xq (m:=firstArgMember _ _) (wpAny_of_eq (a:=Value.none) (by first |rfl | (simp -iota only[firstArgMember];rfl)) ?_)
  refine Zu ?_ (by size_fits)
  unfold raiseNew
  refine Xq (wpAny_handled ?_)
  rw[show A.in1.handled=none from hh]
  refine Xq (Xu (wpAny_throw ?_))
  refine Xq (wpAny_isInstance (T:="StopIteration") (b:=true) ⟨_,Yg _ rfl,rfl⟩ isSubtype_stop ?_)
  exact Xu (hE _ ho ((s1.extBut.push _).push _))
theorem Th(W:SW w d es pl ep)(hS:vD w s.heap d es pl ep)(q:Q (.ref s.heap.objs.size) {s with heap:=s.heap.push (yn (kT w pl 0) 0 d es.size ep)}):wpAny (model prog w) A (pyIter (.ref d)) Q E s:=by
 have hf:(iQ (!qn w) pl).fits es.size=true:=yt W.sz W.le
 have hT:s.TypeIs (.ref d) "set":=⟨_,hS,rfl⟩
 have c0:kT w pl 0=0:=by unfold kT nQ;split<;>rfl
 rw[c0]at q
 refine wpAny_pyIter_slot hT F.slot_set_iter (Y6 F.slot_set_iter hT Pz ?_ (F.args_set_iter_1 _))
 refine(?_:wpAny _ _ (Builtin.Frozenset.sizeOf d>>=_) _ _ _)
 refine Xq (Xq (wpAny_setEntries_of hS rfl hf (Xu ?_)))
 refine Xq ?_
 unfold setDrawn
 refine Xq (wpAny_setState_of hS rfl hf ?_)
 unfold setsByText
 refine Xq (Xq (wpAny_askSetting (Xu (Xu ?_))))
 refine wpAny_ite_split (λh=>absurd h (by intro h;exact bE (YL h).2)) λ_=>Xq (Xu ?_)
 refine Xq (wpAny_setEpoch_of hS rfl hf ?_)
 exact Xq (Zu (Xu ⟨_,rfl,"set_iterator",_,⟨_,Yg _ rfl,rfl⟩,yo.lookup,q⟩))
end
theorem Kb:Slot "set_iterator" "__iter__" "set_iterator.__iter__":=
 .of (owner:="set_iterator") (n:="__iter__") (by rw[typeLookup_type,builtinLookup_eq_fast];kernel_rfl) (by decide+kernel) (by decide+kernel) (by decide+kernel) (by first |exact .inl (by decide+kernel) |exact .inr (by decide+kernel)) (by rw[isSubtype_type];kernel_rfl)
theorem PA:entryFor table "set_iterator.__iter__"=some Builtin.«dict_keyiterator.__iter__»:=entryFor_alias (id':="dict_keyiterator.__iter__") (by rw[fastTable_eq_tree];kernel_rfl) (by first |rfl |decide+kernel | (unfold String.splitOn;simp+decide [String.splitOnAux])) (by decide+kernel) (by rw[fastTable_eq_tree];kernel_rfl)
theorem Oj(a:Value):argsOk "set_iterator.__iter__" ⟨[a],[]⟩:=by
 unfold argsOk;rw[signature?_of (id:="set_iterator.__iter__") (n:=['_','_','r','e','t','i','_','_']) (o:=['r','o','t','a','r','e','t','i','_','t','e','s']) (by kernel_rfl) IL];kernel_rfl
section
variable {w:World}{s:Shared}{d:Addr}{es:Array (Int×Value)}{i:Nat}
theorem Qd{r:Addr}{Q:Bool->Shared->Prop}(hT:s.TypeIs (.ref r) "set")(h:Q false s):wpAny (model prog w) A (Builtin.List.listLengthHint (.ref r)) Q E s:=by
 unfold Builtin.List.listLengthHint
 refine Xq (wpAny_specialOf hT PySem.F.slot_set_len.lookup ?_)
 generalize hid:("set.__len__":String)=id0
 wp_delta
 rw[show splitId id0=some ("set","__len__") from by subst hid;decide+kernel]
 subst hid
 refine Xq (wpAny_isInstance (T:="set") (b:=true) hT sub_set_self ?_)
 refine wpAny_ite_split (λhab=>absurd hab (by decide)) (λ_=>?_)
 refine wpAny_ite_split (λ_=>?_) (λhab=>absurd (by decide+kernel) hab)
 exact Xq (wpAny_typeOf hT (Xu h))
theorem Vi(W:SW w d es pl ep)(hh:A.handled=none)(hne:d≠I):Walks prog w A I [I,d] [I] es.size (λi v=>∃e,(lH w d ep es)[i]? =some e/\v=e.2) (λi h=>vD w h d es pl ep/\h.get? I=some (yn (kT w pl i) i d es.size ep)) where
 sub:=λb hb=>List.mem_cons.mpr (.inl (XG hb))
 frame:=λi h h' st hk=>⟨hk d (XI _ (Ym rfl)) _ st.1,hk I (XH ..) _ st.2⟩
 item:=λi s Q E hi st hQ=>Ka W st.1 st.2 (Yj hi) hh (λe h' ho hI sb=>hQ _ h' s.toks ⟨e,ho,rfl⟩ ⟨sb.extBut _ _ hne st.1,hI⟩ λb o hb q=>sb.extBut b o (λx=>hb (Ym x)) q)
  λh' ho _=>absurd ho (by rw[ZD (W.wJ▸hi)];exact λc=>bN c.symm)
 done:=λs Q E st hQ=>Ka W st.1 st.2 (Xx _) hh (λe h' ho _ _=>absurd ho (by rw[Array.getElem?_eq_none (Yd W.wJ)];exact λc=>bN c))
  λh' _ eb=>hQ h' s.toks λb o hb q=>eb b o (λx=>hb (Ym x)) q
 self:=λi s Q E st q=>wpAny_pyIter_slot (T:="set_iterator") ⟨_,st.2,rfl⟩ Kb (Y6 Kb ⟨_,st.2,rfl⟩ PA (Xu ⟨_,rfl,"set_iterator",_,⟨_,st.2,rfl⟩,yo.lookup,q⟩) (Oj _))
theorem Uy(W:SW w d es pl ep):KdlSrc prog w "set" d d es.size (λi v=>∃e,(lH w d ep es)[i]? =some e/\v=e.2) (λh=>vD w h d es pl ep) where
 type:=λ_ h=>⟨_,h,rfl⟩
 there:=λ_ h=>⟨Ys h,Ys h⟩
 keep:=λ_ _ h hk=>hk d (.inl rfl) _ h
 notList:=by decide
 notTuple:=by decide
 hint:=λ_ _ _ _ h q=>Qd ⟨_,h,rfl⟩ q
 iter:=λ_ _ hh h=>⟨_,_,λ_ _ q=>Th W h q,Vi W hh (XQ (Ys h)),XO _ h,Yg _ rfl⟩
theorem Sj(f:Nat->Nat):∀(n k:Nat) (l:List α) (out:Array α),l.length<=n->(pickOrder.go f n k l out).toList.Perm (out.toList++l):=by
 intro n
 induction n with
 |zero=>intro k l out h;rw[Zo (Nat.le_zero.mp h),Yi];exact .refl _
 |succ n ih=>
  intro k l out h
  refine(?_:(match l[f k % l.length]? with |some x=>pickOrder.go f n (k+1) (l.eraseIdx (f k % l.length)) (out.push x) |none=>out).toList.Perm _)
  rcases l with _ | ⟨x,l⟩
  ·rw[Yi];exact .refl _
  ·have hr:f k % (x::l).length < (x::l).length:=Nat.mod_lt _ (Zd _)
   rw[Yu hr]
   refine(ih (k+1) _ _ (by rw[List.length_eraseIdx,Xz hr];exact Nat.sub_le_of_le_add h)).trans ?_
   rw[Array.toList_push,XU]
   refine List.Perm.append_left _ ?_
   generalize f k % (x::l).length=r at hr ⊢
   generalize x::l=m at hr ⊢
   rw[List.eraseIdx_eq_take_drop_succ]
   refine(List.perm_middle (l₁:=m.take r)).symm.trans ?_
   rw[<-List.drop_eq_getElem_cons hr,List.take_append_drop]
theorem IK:(lH w d ep es).toList.Perm es.toList:=by
 unfold lH
 split
 ·exact Sj _ _ _ _ _ (Yd (by rw[Zs]))
 ·exact .refl _
theorem Ql{l1 l2:List Value}(p:l1.Perm l2):∀{ms:List Int},IntsAre l2 ms->∃ns,IntsAre l1 ns/\ns.Perm ms:=by
 induction p with
 |nil=>exact λh=>aC _ h (.refl _)
 |cons x _ ih=>
  intro ms h
  cases h with
  |cons n t h=>refine az (ih h) λns a b=>?_;exact aC _ (.cons n t a) (b.cons _)
 |swap x y l=>
  intro ms h
  cases h with
  |cons n t h=>cases h with
   |cons m u h=>exact aC _ (.cons m u (.cons n t h)) (.swap ..)
 |trans _ _ ih1 ih2=>
  intro ms h
  refine az (ih2 h) λns a b=>?_
  refine az (ih1 a) λks c e=>?_
  exact aC ks c (e.trans b)
inductive L5(prog:Program)(w:World)(vs:List Value)(is:List Int):Prop
 |mk (es:Array (Int×Value)) (pl:Array Nat) (ms:List Int) (a:rd prog w es pl vs #[] #[]) (W:∀d ep,SW w d es pl ep) (h:IntsAre (es.toList.map (·.2)) ms) (p:ms.Perm (oS is))
theorem vF(h1:pl.size=es.size)(h2:es.size<=2)(h3:∀i,i<=pl.size->SetTable.below pl (nQ pl i)=i)(d:Addr)(ep:Nat):SW w d es pl ep:=⟨h1,h2,h3,by rw[<-Zs,IK.length_eq,Zs]⟩
theorem Ky(p0:P 0)(p1:P 1)(p2:P 2):∀j,j<=2->P j
 |0,_=>p0
 |1,_=>p1
 |2,_=>p2
 |_+3,h=>absurd h (Jo rfl)
theorem pz(p0:P 0)(p1:P 1):∀j,j<=1->P j
 |0,_=>p0
 |1,_=>p1
 |_+2,h=>absurd h (Jo rfl)
theorem IH{k:Int}{t:Tok}(hk:(intKind prog w).hash k=k):ElemsOf (intKind prog w) (#[(k,Value.int k t)]:Array (Int×Value)).toList:=λe he=>by
 obtain rfl:=XG he
 exact bm (aC k (intKind_is _ _ _ _) hk.symm) rfl
theorem xR:ElemsOf (intKind prog w) (#[]:Array (Int×Value)).toList:=λe he=>absurd he Ye
theorem Qb{is:List Int}(h:IntsAre vs is)(hb:is∈([[],[0],[1],[0,1],[1,0]]:List (List Int))):L5 prog w vs is:=by
 have h0:(intKind prog w).hash 0=0:=by kernel_rfl
 have h1:(intKind prog w).hash 1=1:=by kernel_rfl
 simp only[Yt,Ye,or_false]at hb
 rcases hb with rfl |rfl |rfl |rfl |rfl
 ·cases h
  exact⟨#[],#[],[],.re,vF rfl (by decide) λi hi=>by cases Nat.le_zero.mp hi;rfl,.nil,.refl _⟩
 ·cases h with |cons _ t h=>cases h;exact⟨#[(0,.int 0 t)],#[0],[0],.pB (es1:=#[(0,.int 0 t)]) (pl1:=#[0]) (λled=>by kernel_rfl) h0 xR rfl rfl (Zd 1) (Yp 1) (Yp 1) .re,vF rfl (Yp 1) (pz (P:=λi=>SetTable.below #[0] (nQ #[0] i)=i) rfl rfl),.cons 0 t .nil,.refl _⟩
 ·cases h with |cons _ t h=>cases h;exact⟨#[(1,.int 1 t)],#[1],[1],.pB (es1:=#[(1,.int 1 t)]) (pl1:=#[1]) (λled=>by kernel_rfl) h1 xR rfl rfl (Zd 1) (Yp 1) (Yp 1) .re,vF rfl (Yp 1) (pz (P:=λi=>SetTable.below #[1] (nQ #[1] i)=i) rfl rfl),.cons 1 t .nil,.refl _⟩
 ·cases h with |cons _ t h=>cases h with |cons _ u h=>cases h;exact⟨#[(0,.int 0 t),(1,.int 1 u)],#[0,1],[0,1],.pB (es1:=#[(0,.int 0 t)]) (pl1:=#[0]) (λled=>by kernel_rfl) h0 xR rfl rfl (Zd 1) (Yp 1) (Yp 1) (.pB (es1:=#[(0,.int 0 t),(1,.int 1 u)]) (pl1:=#[0,1]) (λled=>by kernel_rfl) h1 (IH h0) rfl rfl (Zi 1) (Xx 2) (Xx 2) .re),vF rfl (Xx 2) (Ky (P:=λi=>SetTable.below #[0,1] (nQ #[0,1] i)=i) rfl rfl rfl),.cons 0 t (.cons 1 u .nil),.refl _⟩
 ·cases h with |cons _ t h=>cases h with |cons _ u h=>cases h;exact⟨#[(0,.int 0 u),(1,.int 1 t)],#[0,1],[0,1],.pB (es1:=#[(1,.int 1 t)]) (pl1:=#[1]) (λled=>by kernel_rfl) h1 xR rfl rfl (Zd 1) (Yp 1) (Yp 1) (.pB (es1:=#[(0,.int 0 u),(1,.int 1 t)]) (pl1:=#[0,1]) (λled=>by kernel_rfl) h0 (IH h1) rfl rfl (Zi 1) (Xx 2) (Xx 2) .re),vF rfl (Xx 2) (Ky (P:=λi=>SetTable.below #[0,1] (nQ #[0,1] i)=i) rfl rfl rfl),.cons 0 u (.cons 1 t .nil),.swap ..⟩
end
section
variable {xs:List V}{a:Nat}
theorem SO(ha:σ[a]? =some (.l xs)){is:List Int}(hi:jz xs=some is)(hb:is∈([[],[0],[1],[0,1],[1,0]]:List (List Int))):Kg (.r a) σ (.r σ.length) (σ++[.l ((iP (oS is)).map .i)]):=λZ A s μ v R I r=>by
 obtain⟨x,vs,n,hx,rfl,hl,hr⟩:=iA I r ha
 obtain⟨es,pl,ms,ad,W,hm,hp⟩:=Qb (prog:=Z.bK) (w:=Z.VP) (xz xs hr hi) hb
 refine OF R.Wn (items:=vs.toArray) (dX hl) ad λh1 tk ep hS kp=>⟨λb o hb=>kp b o (I.dM b o hb),?_⟩
 have st:br Z s μ {s with heap:=h1,toks:=tk} μ σ:=iH I kp tk
 have W:=W s.heap.objs.size ep
 have hlen:es.size=(oS is).length:=by rw[<-hp.length_eq,<-hm.length,Xr,Zs]
 refine lB st (Kh (ns:=oS is) (by rw[<-hlen];exact YH W.le (by decide)) (λR' hR=>?_) λD h' tk' out n hk hn hD ho=>u0 st.eN (uQ ho) hk hn hD)
 refine kdu_collect (A:=A.in1) (Uy W) R.Wn hS (Xs W.le (by rw[sizeLine_eq];decide)) λh' tk' acc hk hacc=>?_
 have e:acc.toList=(lH Z.VP s.heap.objs.size ep es).toList.map (·.2):=List.ext_getElem? λj=>by
  rw[Array.getElem?_toList,Yy,Array.getElem?_toList]
  rcases Nat.lt_or_ge j acc.size with c |c
  ·refine az (hacc.2 j _ (ZD c)) λe h1 h2=>?_
   rw[h1,ZD c,h2];rfl
  ·rw[Array.getElem?_eq_none c,Array.getElem?_eq_none (by rw[W.wJ,<-hacc.1];exact c)];rfl
 refine az (Ql (l1:=acc.toList) (by rw[e];exact IK.map _) hm) λns h1 h2=>?_
 exact hR h' tk' _ ns hk h1 (h2.trans hp)
end
section
variable {σ σ' τ:List α}{l:List α}{a b i j k:Nat}{o o':α}
theorem kB(σ l:List α)(k:Nat):(σ++l)[σ.length+k]? =l[k]?:=by rw[YR (XS ..),Nat.add_sub_cancel_left]
theorem lC(σ l:List α):(σ++l)[σ.length]? =l[0]?:=kB σ l 0
theorem bO(σ l:List α)(h:σ[i]? =some o):(σ++l)[i]? =some o:=(Yl (XZ h).1).trans h
theorem wY(σ l:List α)(k:Nat)(o:α):(σ++l).set (σ.length+k) o=σ++l.set k o:=by rw[List.set_append_right (h:=XS ..),Nat.add_sub_cancel_left]
theorem uy(σ l:List α)(o:α):(σ++l).set σ.length o=σ++l.set 0 o:=wY σ l 0 o
end
theorem bw(ρ:aA)(i:Nat)(v:V):au ρ i v i=some v:=Xz rfl
theorem bR(ρ:aA){i j:Nat}(v:V)(h:j≠i):au ρ i v j=ρ j:=XC h
section
variable {a b i:Nat}{xs ys:List V}{o:O}
theorem aX:(σ++[o])[σ.length]? =some o:=lC σ [o]
theorem iz{l:aj}(h:τ <+:σ):τ <+:σ++l:=h.trans (Yk _ _)
theorem cS(h:σ[a]? =some o):(σ.set a o')[a]? =some o':=Zz (XZ h).1
theorem aV(hn:a≠b):(σ.set a o')[b]? =σ[b]?:=Y4 hn
theorem py{l:aj}(h:a < σ.length):(σ++l).set a o=σ.set a o++l:=List.set_append_left _ _ h
theorem eI(h:σ[a]? =some (.l xs))(hm:mj 1 i=true):mj (iw σ (.r a)) i=true:=by rw[uX h];exact hm
theorem sP(h:σ[a]? =some o)(hd:o.fH=true)(hm:mj 2 i=true):mj (iw σ (.r a)) i=true:=by rw[qD h hd];exact hm
theorem uW(h:σ[a]? =some (.l xs))(h2:σ'[a]? =some (.l ys)):iw σ (.r a)=iw σ' (.r a):=by rw[uX h,uX h2]
theorem Bz(h:σ[a]? =some o)(hd:o.fH=true)(h2:σ'[a]? =some o')(hd2:o'.fH=true):iw σ (.r a)=iw σ' (.r a):=by rw[qD h hd,qD h2 hd2]
theorem As(ha:σ[a]? =some (.l xs))(hb:σ[b]? =some (.l [])):gX σ .e (.r a) (.r b)=some xs.isEmpty:=by
 refine(?_:oX σ (.r a) (.r b)=_)
 unfold oX
 rw[HN ha,HN hb]
end
variable {ns:List Str}
theorem H0(hn:ns.Nodup):∀{vs:List Value} (i:Nat) (n:Str) (v:Value),ns[i]? =some n->vs[i]? =some v->(ns.zip vs).lookup n=some v:=by
 induction ns with
 |nil=>exact λi n v h=>bN h
 |cons m ns ih=>
  intro vs i n v h1 h2
  rcases vs with _ | ⟨u,vs⟩
  ·exact bN h2
  ·rw[List.zip_cons_cons,List.lookup_cons]
   rcases i with _ |i
   ·cases XA h1;cases XA h2;rw[beq_self_eq_true]
   ·rw[beq_eq_false_iff_ne.mpr λe:n=m=>(Zq hn).1 (e▸Yo h1)]
    exact ih (Zq hn).2 i n v h1 h2
theorem OA{l:List (Str×Value)}(ns:List Str):∀(vs:List Value),vs.length=ns.length->(∀(i:Nat) (n:Str) (v:Value),ns[i]? =some n->vs[i]? =some v->l.lookup n=some v)->ns.filterMap (λn=>(l.lookup n).map (n,·))=ns.zip vs:=by
 induction ns with
 |nil=>exact λvs _ _=>rfl
 |cons n ns ih=>
  intro vs hl h
  rcases vs with _ | ⟨v,vs⟩
  ·exact absurd hl (Nat.succ_ne_zero _).symm
  ·rw[List.filterMap_cons,h 0 n v rfl rfl,List.zip_cons_cons]
   exact XB (List.cons (n,v)) (ih vs (Nat.succ.inj hl) λi m u hm hu=>h (i+1) m u hm hu)
theorem Oy{fd:FuncData}{as:List Arg}(hp:fd.params=⟨[],as,none,[],[],none,[]⟩)(hd:fd.defaults=.none)(hn:(as.map (·.arg)).Nodup)(hl:vs.length=as.length):bindArgs fd ⟨vs,[]⟩=pure ((as.map (·.arg)).zip vs):=by
 obtain⟨a1,a2,a3,a4,a5,a6,a7,a8,a9⟩:=fd
 cases hp
 cases hd
 have hl':vs.length=(as.map (·.arg)).length:=hl.trans (Xr _).symm
 have at_:∀ns:List Str,ns.Nodup->vs.length=ns.length->(ns.filter λn=>((ns.zip vs).lookup n).isNone)=[]/\ns.filterMap (λn=>((ns.zip vs).lookup n).map (n,·))=ns.zip vs:=λns hn hl'=>⟨List.filter_eq_nil_iff.mpr λn h=>by
  refine aT (List.getElem?_of_mem h) λi hi=>?_
  have hv:i < vs.length:=by rw[hl'];exact(XZ hi).1
  rw[H0 hn i n _ hi (Yu hv)]
  exact YE,OA ns vs hl' λi n v=>H0 (vs:=vs) hn i n v⟩
 refine ba (at_ _ hn hl') λe2 e3=>?_
 refine(?_:(if(decide (vs.length > (as.map (·.arg)).length)&&true)=true then _ else _)=_)
 refine(XC (by rw[hl'];simp)).trans ((XC ?_).trans ?_)
 ·show ¬(!(List.filter (λn=>(List.lookup n ((as.map (·.arg)).zip vs)).isNone) (List.take ((as.map (·.arg)).length - (List.drop (0 - (as.map (·.arg)).length) ([]:List Value)).length) (as.map (·.arg)))).isEmpty)=true
  rw[List.drop_nil,XY,Nat.sub_zero,List.take_length,e2];exact YE
 ·show(forIn ((List.drop ((as.map (·.arg)).length - (List.drop (0 - (as.map (·.arg)).length) ([]:List Value)).length) (as.map (·.arg))).zip (List.drop (0 - (as.map (·.arg)).length) ([]:List Value))) ((as.map (·.arg)).zip vs) _>>=_)=_
  rw[List.drop_nil,List.zip_nil_right,List.forIn_nil,pure_bind]
  refine(?_:(pure (List.filterMap (λn=>(((as.map (·.arg)).zip vs).lookup n).map (n,·)) ((as.map (·.arg))++[])):Sem (List (Str×Value)))=_)
  rw[Yi,e3]
noncomputable def CL(fd:FuncData)(Γ:List (Str×Nat)):Sc:=⟨fd.scope.names,w7 fd.scope.names,Γ,Γ.map (·.2)⟩
noncomputable def xX(fd:FuncData):List Str:=fd.params.args.map (·.arg)
noncomputable def IS(p:Arguments):Bool:=p.posonlyargs.isEmpty&&p.vararg.isNone&&p.kwonlyargs.isEmpty&&p.kw_defaults.isEmpty&&p.kwarg.isNone&&p.defaults.isEmpty
theorem So{p:Arguments}(h:IS p=true):p=⟨[],p.args,none,[],[],none,[]⟩:=by
 obtain⟨p1,p2,p3,p4,p5,p6,p7⟩:=p
 refine xS (ux h) λa1 a2 a3 a4 a5 a6=>?_
 cases Zy a1;cases ZH a2;cases Zy a3;cases Zy a4;cases ZH a5;cases Zy a6
 rfl
noncomputable def GG(L:dh)(f:Fn)(Γ:List (Str×Nat))(fd:FuncData)(b:List Stmt):Bool:=
 (codeIn L.VQ fd.code fd.qualname&&IS fd.params&&fd.defaults==.none&&decide ((xX fd).length=f.mN)&&decide (xX fd).Nodup)&&
 ((xX fd).zipIdx.all (λx=>Γ.contains x)&&fd.closure.isEmpty&& !fd.scope.isCoroutine&& !fd.scope.isGenerator&&fd.scope.kind==.function)&&
 (decide (fd.globals=mainGlobals)&&decide (fd.builtins=builtinsNs)&&fd.scope.names.all (λx=>x.2 !=.free)&&Cb (CL fd Γ)&&cx (ml L EF SF (CL fd Γ)) b f.dZ)
noncomputable def Hd(b:FuncBody)(q:List Stmt->Bool):Bool:=b.casesOn q λ_=>false
noncomputable def AT(L:dh)(a:Addr)(f:Fn)(Γ:List (Str×Nat)):Bool:=gI (L.VQ.lookup a) λo=>Be o.data λfd=>Hd fd.body (GG L f Γ fd)
theorem PX{a:Addr}{f:Fn}(h:AT L a f Γ=true):Nonempty (oh L a f):=
 m7 (M:=λx=>L.VQ.lookup a=x->Nonempty (oh L a f)) h (λo h ho=>Pt (M:=λx=>o.data=x->Nonempty (oh L a f)) h (λfd h hd=>fd.body.casesOn (motive:=λx=>Hd x (GG L f Γ fd)=true->fd.body=x->Nonempty (oh L a f)) (λb h hb=>by
  refine cO (cM h) λh1 h2 h3=>?_
  refine sV (qm h1) λa1 a2 a3 a4 a5=>?_
  refine sV (qm h2) λb1 b2 b3 b4 b5=>?_
  refine sV (qm h3) λc1 c2 c3 c4 c5=>?_
  have a4:=XX a4
  exact⟨⟨o,fd,b,xX fd,CL fd Γ,ho,hd,λh X=>codeRec_of X a1,hb,λvals hv=>Oy (So a2) (XF a3) (XX a5) (by rw[hv,<-a4];exact Xr _),a4,Zy b2,i7 b3,i7 b4,XF b5,XX c1,XX c2,rfl,rfl,IE c4,λx hx=>Y8 hx,
   λx hx=>bne_iff_ne.mp (YM c3 x hx),XX a5,λj p hp=>List.contains_iff_mem.mp (YM b1 (p,j) (List.mem_zipIdx_iff_getElem?.mpr hp)),c5⟩⟩) dj h rfl) rfl) rfl
set_option backward.match.sparseCases true
noncomputable def fnA:List Addr:=[26,31,117,136,143,148,155,181,188,200,242,249,256,263,270,277,282,324,331,336,341,346,353,360,367,374,381,388,402,409,447,452,466,473,480,487,492,511,518,523,530,537,542,557,562,567,574,579,584,589,596,601]
noncomputable def clA:List Addr:=[224,306,438,495,545]
noncomputable def B3(i:Nat):Str:=Str.ofString (["append","extend","pop","get","setdefault","join","count","strip","isspace","_","nodes","numbers","weights","depths","require","kids","op","above","lots","merged","find","bank","unions","edges","forest","known","waiting","backs","size","take","make","look_at","add","put","node","merge","classes","members","term","heap","parts","level","beside","between","path","of_edge","costs","ways","lessen","is_turned","by_likeness","by_others","steps","paper","settle","are_like"].getD i "")
noncomputable def GW(i:Nat):Str:=Str.ofString (["_law_words","MOST_PARTS","MOST_LEVELS","MOST_NUMBERS"].getD i "")
noncomputable def P7:List (List (String×Nat)):=[[("t",0)],
 [("paper",0),("kind",1),("words",2),("row",3)],
 [("text",0)],
 [("self",0)],
 [("self",0)],
 [("self",0),("op",1),("kids",2),("node",3),("kid",4)],
 [("self",0),("op",1)],
 [("self",0),("n",1)],
 [("self",0),("n",1)],
 [("self",0),("n",1),("below",2),("stack",3),("kid",4),("made",5),("k",6)],
 [("self",0)],
 [("self",0)],
 [("self",0)],
 [("self",0),("a",1)],
 [("self",0),("a",1),("b",2),("kept",3),("gone",4)],
 [("self",0),("a",1)],
 [("self",0)],
 [("self",0)],
 [("self",0)],
 [("self",0),("n",1)],
 [("self",0),("op",1),("numbers",2),("n",3),("c",4)],
 [("self",0),("term",1)],
 [("self",0),("n",1),("other",2)],
 [("self",0),("n",1)],
 [("self",0),("a",1),("b",2)],
 [("self",0),("a",1),("b",2),("reason",3)],
 [("self",0),("a",1),("b",2),("reason",3),("merged",4),("kept",5),("gone",6)],
 [("self",0)],
 [("self",0)],
 [("self",0),("c",1)],
 [("heap",0),("index",1),("reason",2)],
 [("heap",0),("a",1),("papers",2),("row",3),("late",4)],
 [("self",0),("heap",1),("index",2),("a",3),("b",4),("reason",5)],
 [("self",0),("a",1),("b",2),("before",3),("came",4),("row",5),("spot",6),("here",7),("index",8),("other",9),("found",10)],
 [("self",0),("a",1),("b",2)],
 [("self",0),("a",1),("b",2),("before",3),("found",4),("index",5),("is_back",6),("paper",7)],
 [("self",0),("index",1),("a",2),("b",3),("reason",4),("pairs",5),("found",6)],
 [("self",0),("heap",1),("n",2),("index",3),("a",4),("b",5),("reason",6),("lots",7),("lot",8)],
 [("self",0),("a",1),("b",2),("cost",3),("way",4)],
 [("self",0),("lot",1),("a",2),("b",3),("one",4),("other",5)],
 [("self",0),("lot",1),("middle",2),("a",3),("b",4),("cost",5)],
 [("self",0),("a",1),("b",2)],
 [("self",0),("a",1),("b",2),("way",3),("paper",4),("pairs",5)],
 [("feed",0),("wide",1),("turn",2)],
 [("feed",0),("high",1),("way",2)],
 [("feed",0),("high",1),("way",2),("some",3),("row",4),("lap",5)],
 [("text",0),("pile",1),("word",2),("sign",3),("done",4)],
 [("raw",0)],
 [("raw",0),("kind",1),("rest",2),("found",3),("one",4)],
 [("paper",0),("is_left",1),("kind",2),("waiting",3),("found",4),("one",5),("nested",6)],
 [("paper",0),("text",1),("raw",2)],
 [("script",0),("cells",1),("feed",2),("heap",3),("numbers",4),("term",5),("lap",6),("one",7),("other",8),("ruled",9),("some",10),("paper",11)]]
noncomputable def GO:List (List (Str×Nat)):=P7.map λg=>g.map λx=>(Str.ofString x.1,x.2)
noncomputable def fy(K:Frag)(script:Addr)(nums:List Int):dh:=⟨K,λk=>fnA[k]?.getD 0,⟨λc=>clA[c]?.getD 0,script,nums⟩,B3,GW⟩
noncomputable def J1(v:Option (Option Value))(a:Addr):Bool:=v==some (some (.ref a))
noncomputable def z0(L:dh)(c a:Nat):Bool:=plainGet L.VQ (L.aF.VS c) (L.ct a)&&hasDictIn L.VQ (L.aF.VS c)&&gI (findIn L.VQ (.ref (L.aF.VS c)) (L.ct a)) (noGet L.VQ)&&
 findIn L.VQ (.ref (L.aF.VS c)) "__setattr__"==some (some (.builtin "object.__setattr__"))&&plainOver L.VQ (L.aF.VS c)&&gI (takerIn L.VQ (L.aF.VS c) (L.ct a)) (·.isNone)
noncomputable def BL(L:dh)(c m k:Nat):Bool:=plainGet L.VQ (L.aF.VS c) (L.ct m)&&J1 (findIn L.VQ (.ref (L.aF.VS c)) (L.ct m)) (L.fn k)&&isFn L.VQ (.ref (L.fn k))&&oQ.all (λy=>!(L.ct y.2==L.ct m))&&keepIn L.VQ (.ref (L.fn k))
noncomputable def A5(L:dh)(c k:Nat):Bool:=makesIn L.VQ (L.aF.VS c)&&J1 (findIn L.VQ (.ref (L.aF.VS c)) "__init__") (L.fn k)&&typeIn L.VQ (.ref (L.fn k))==some (.type "function")
noncomputable def UO(ws:List (List Nat))(o:Obj):Bool:=o.cls==.type "tuple"&&o.dict.isNone&&o.slots.isEmpty&&Bo o.data λxs _=>xs.toList.length==ws.length&&(xs.toList.zip ws).all λp=>xD p.1 λa=>a==bp p.2
noncomputable def Km(K:Frag)(ws:List (List Nat))(v:Option Value):Bool:=gI v λv=>Bj v λx=>gI (K.lookup x) (UO ws)
noncomputable def qz(v:Option Value)(n:Int):Bool:=gI v λv=>Bg v λi=>decide (i=n)
noncomputable def Hy:List (List Nat):=[[108,48],[115,97,109,101],[106,111,105,110],[116,117,114,110],[114,39]]
noncomputable def Ry:Bool:=oQ.all λx=>oQ.all λy=>!(B3 x.2==B3 y.2)||decide (x.2=y.2)
noncomputable def wX(L:dh):Bool:=((List.range uN.length).all λk=>gI uN[k]? λf=>AT L (L.fn k) f (GO[k]?.getD []))&&oQ.all (λx=>z0 L x.1 x.2)&&u4.all (λx=>BL L x.1 x.2.1 x.2.2)&&((List.range qy.length).all λc=>gI qy[c]? (A5 L c))&&
 (Km L.VQ Hy (jy L.VQ (L.gn 0))&&qz (jy L.VQ (L.gn 1)) 20000&&qz (jy L.VQ (L.gn 2)) 100&&qz (jy L.VQ (L.gn 3)) 60)
theorem sh{a b:Bool}(x:a=true)(y:b=true):(a&&b)=true:=Zk ⟨x,y⟩
noncomputable def AU(L:dh)(l:List Nat):Bool:=l.all λk=>gI uN[k]? λf=>AT L (L.fn k) f (GO[k]?.getD [])
noncomputable def IA(L:dh):Bool:=AU L (List.range 26)&&oQ.all (λx=>z0 L x.1 x.2)&&u4.all (λx=>BL L x.1 x.2.1 x.2.2)
noncomputable def IC(L:dh):Bool:=AU L (List.range' 26 26)&&((List.range qy.length).all λc=>gI qy[c]? (A5 L c))&&
 (Km L.VQ Hy (jy L.VQ (L.gn 0))&&qz (jy L.VQ (L.gn 1)) 20000&&qz (jy L.VQ (L.gn 2)) 100&&qz (jy L.VQ (L.gn 3)) 60)
theorem Of(h1:IA L=true)(h2:IC L=true):wX L=true:=
 have a:=cM h1
 have b:=cM h2
 sh (sh (sh (sh ((XB (AU L) (show List.range uN.length=List.range 26++List.range' 26 26 from rfl)).trans (List.all_append.trans (sh a.1 b.1))) a.2.1) a.2.2) b.2.1) b.2.2
theorem RA:Ry=true:=by kernel_rfl
theorem JX{l:List α}{q:Nat->α->Bool}(h:((List.range l.length).all λk=>gI l[k]? (q k))=true){k:Nat}{a:α}(hk:l[k]? =some a):q k a=true:=by
 have p:=YM h k (Y' (XZ hk).1)
 rw[hk]at p;exact p
theorem w0{c a:Nat}(h:fE c a=true):(c,a)∈oQ:=by
 refine az (List.any_eq_true.mp h) λx hx e=>?_
 refine ba (bV e) λe1 e2=>?_
 rw[<-XF e1,<-XF e2];exact hx
theorem Rk{c m k:Nat}(h:yv c m=some k):(c,m,k)∈u4:=by
 refine az (YK h) λx hx e=>?_
 have e0:=List.find?_some hx
 refine ba (bV e0) λe1 e2=>?_
 rw[<-XF e1,<-XF e2,<-e];exact List.mem_of_find?_eq_some hx
theorem AY{v:Option Value}{n:Int}(h:qz v n=true):∃t,v=some (.int n t):=
 m7 (M:=λv=>∃t,v=some (.int n t)) h λv h=>Pu (M:=λv=>∃t,some v=some (.int n t)) h λi t e=>⟨t,by rw[XX e]⟩
section
variable {K:Frag}{a:Addr}{l:List Int}
theorem PO(h2:oQ.all (λx=>z0 (fy K a l) x.1 x.2)=true)(h3:u4.all (λx=>BL (fy K a l) x.1 x.2.1 x.2.2)=true)(h4:((List.range qy.length).all λc=>gI qy[c]? (A5 (fy K a l) c))=true):j' (fy K a l) where
 bn:=⟨rfl,rfl,rfl,rfl,rfl,rfl,rfl,rfl,rfl⟩
 Dx:=λc x d y k1 k2 e=>(Yw (YM (YM RA _ (w0 k1)) _ (w0 k2))).elim (λq=>absurd e (beq_eq_false_iff_ne.mp (i7 q))) XX
 yY:=λc x k=>by
  refine xS (ux (YM h2 _ (w0 k))) λa1 a2 a3 a4 a5 a6=>?_
  rcases hf:findIn (fy K a l).VQ (.ref ((fy K a l).aF.VS c)) ((fy K a l).ct x)with _ |attr
  ·rw[hf]at a3;exact bE a3
  ·rw[hf]at a3
   refine⟨attr,a1,a2,hf,a3,XF a4,a5,?_⟩
   rcases ht:takerIn (fy K a l).VQ ((fy K a l).aF.VS c) ((fy K a l).ct x)with _ |o
   ·rw[ht]at a6;exact bE a6
   ·rw[ht]at a6;rw[ZH a6]
 yX:=λc m k h=>by
  refine sV (qm (YM h3 _ (Rk h))) λa1 a2 a3 a4 a5=>?_
  exact⟨a1,XF a2,a3,λd x hx=>beq_eq_false_iff_ne.mp (i7 (YM a4 _ (w0 hx))),a5⟩
 Dw:=λc k h=>by
  refine cO (cM (JX h4 h)) λa1 a2 a3=>?_
  exact⟨a1,XF a2,XF a3⟩
theorem US{h:Heap}{xs:List Value}:∀{ws:List (List Nat)},(xs.length==ws.length)=true->((xs.zip ws).all λp=>xD p.1 λa=>a==bp p.2)=true->aR cl h [] (ws.map .s) xs:=by
 induction xs with
 |nil=>exact λ{ws} h1 _=>by rw[Zo (XF h1).symm];rfl
 |cons x xs ih=>
  intro ws h1 h2
  rcases ws with _ | ⟨w,ws⟩
  ·exact absurd (XF h1) (Nat.succ_ne_zero _)
  ·refine ba (bV h2) λk1 k2=>?_
   refine dN x xs rfl ?_ (ih (beq_iff_eq.mpr (Nat.succ.inj (XF h1))) k2)
   exact Py (M:=λx=>aS cl h [] (.s w) x) k1 λs t e=>⟨t,by rw[XF e]⟩
set_option tactic.hygienic true in
theorem Qa{q:Program}{w:World}{mean:ExcName->Option Value}{mg mb:Str->Option Value}{h:Heap}(T:Top q loose mean mg mb h)(KX:K.In h)(ok:wX (fy K a l)=true):rE ⟨prog,w,fy K a l,h⟩:=by
 refine sV (qm ok) λh1 h2 h3 h4 h5=>?_
 refine kN (eQ h5) λg0 g1 g2 g3=>?_
 exact⟨KX,⟨T.nolimit⟩,PO h2 h3 h4,(dN mg mb T.g T.b T.builtins),T.nolimit,λk f hf=>PX (JX h1 hf),λk V hV=>by
  rcases k with _ |_ |_ |_ |k
  ·cases hV
   refine m7 (M:=λy=>jy K (GW 0)=y->∃v,y=some v/\aS (fy K a l).aF h [] _ v) g0 (λv q hx=>Pw (M:=λv=>∃u,some v=some u/\aS (fy K a l).aF h [] _ u) q λx q=>?_) rfl
   refine m7 (M:=λy=>K.lookup x=y->∃u,some (Value.ref x)=some u/\aS (fy K a l).aF h [] _ u) q (λo q ho=>?_) rfl
   refine kN (eQ q) λq1 q2 q3 q4=>?_
   rcases o with⟨c,d,dt,sl⟩
   obtain rfl:c=.type "tuple":=XF q1
   obtain rfl:d=none:=ZH q2
   obtain rfl:sl=#[]:=Array.isEmpty_iff.mp q3
   refine Px (M:=λdt=>K.lookup x=some ⟨.type "tuple",none,dt,#[]⟩->∃u,some (Value.ref x)=some u/\aS (fy K a l).aF h [] _ u) q4 (λxs n q ho=>?_) ho
   refine ba (bV q) λb2 b3=>?_
   exact⟨_,rfl,x,xs.toList,n,rfl,by rw[KX x _ ho,Array.toArray_toList],Ye,US b2 b3⟩
  ·cases hV;exact(AY g1).elim λt ht=>⟨_,ht,t,rfl⟩
  ·cases hV;exact(AY g2).elim λt ht=>⟨_,ht,t,rfl⟩
  ·cases hV;exact(AY g3).elim λt ht=>⟨_,ht,t,rfl⟩
  ·exact bN hV⟩
end
set_option backward.match.sparseCases false
set_option backward.match.sparseCases true
noncomputable def qZ(st:SharedT->Thread->Option (SharedT×Thread))(n₀:Nat)(ann:Option Value):Nat->SharedT->Thread->Option SharedT
 |0,_,_=>none
 |n+1,s,t=>match through t with
  |true=>some s
  |false=>match stepOk n₀ ann t with
   |false=>none
   |true=>match st s t with
    |some (s',t')=>qZ st n₀ ann n s' t'
    |none=>none
noncomputable abbrev tz(p:Program)(w:World):SharedT->Thread->Option (SharedT×Thread):=PySem.W.Fast.tw10156331382660048174 (PySem.W.Fast.tw11892475500146522536 PySem.W.Fast.tw14364793385576792824) p w
theorem Uz(p:Program)(w:World):tz p w=stepT (denote treeTable) p w:=by
 rw[PySem.W.Fast.te10156331382660048174,PySem.W.Fast.te11892475500146522536,PySem.W.Fast.te14364793385576792824]
theorem U'{p:Program}{w:World}{n₀:Nat}{n:Nat}:∀{s s':SharedT} {t:Thread},qZ (tz p w) n₀ ann n s t=some s'->topRun treeTable p w n₀ ann n s.abs t=some s'.abs:=by
 rw[Uz]
 induction n with
 |zero=>exact λh=>nomatch h
 |succ n ih=>
  intro s s' t h
  unfold qZ at h
  unfold topRun
  cases he:through t with
  |true=>rw[he]at h;cases h;rfl
  |false=>
   rw[he]at h
   cases hk:stepOk n₀ ann t with
   |false=>rw[hk]at h;cases h
   |true=>
    rw[hk]at h
    cases hs:stepT (denote treeTable) p w s t with
    |none=>rw[hs]at h;cases h
    |some r=>obtain⟨s₂,t₂⟩:=r;rw[hs]at h;rw[stepT_spec hs];exact ih h
noncomputable def Jf:List Obj->Nat->W.BT->W.BT
 | [],_,t=>t
 |o::os,n,t=>Jf os (n+1) (t.ins n o)
noncomputable def uA(P:Params)(os:OsState):SharedT:=⟨Jf (boot_heap P).objs.toList 0 .nil,(boot_heap P).objs.size,(boot_heap P).life,#[],boot_drawn,boot_toks,os⟩
theorem OC(P:Params)(os:OsState):(uA P os).abs=⟨boot_heap P,#[],boot_drawn,boot_toks,os⟩:=by kernel_rfl
theorem QZ{p q:Program}{Xt:Shared->Bool}{Y1:Shared->α}{A1:World->α}{Y2:Shared->β}{A2:World->β}{N:Nat}{g0:Bool}{m₀:Nat}
  (open_:∀w:World,(fencedOpening treeTable p w N).map (λs=>(s.heap,s.gens,s.drawn,s.toks))=some (boot_heap w.params,#[],boot_drawn,boot_toks))
  (size:∀P:Params,((boot_heap P).isNs mainGlobals,(boot_heap P).objs.size,(boot_heap P).nsMap mainGlobals "__annotations__")=(true,m₀,ann))
  (run:∀(w:World) (os:OsState),(qZ (tz p w) m₀ ann N (uA w.params os) (topStub p)).map (λx=>(λs=>((staticsOk (importedModules p.main.body) (boot_heap w.params) s.heap&&namesBound p s.heap&&gensDone s&&laidKept (boot_heap w.params) s.heap,openSeen q loose (importedModules p.main.body) Xt g0 s),Y1 s)) x.abs)=some ((true,openGood q loose),A1 w))
  (run2:∀(w:World) (os:OsState),(qZ (tz p w) m₀ ann N (uA w.params os) (topStub p)).map (λx=>Y2 x.abs)=some (A2 w)):
  LeftO p q loose Xt (λs=>(Y1 s,Y2 s)) (λw=>(A1 w,A2 w)) N g0:=λw=>by
 refine az (YK (open_ w)) λnn0 e e'=>?_;obtain⟨h,gs,d,k,os⟩:=nn0
 obtain⟨rfl,rfl,rfl,rfl⟩:h=boot_heap w.params/\gs=#[]/\d=boot_drawn/\k=boot_toks:=by simpa using e'
 refine az (YK (run w os)) λx r l=>?_
 refine ba (Prod.mk.inj l) λl0 l4=>?_
 refine ba (Prod.mk.inj l0) λl1 l2=>?_
 have l3:Y2 x.abs=A2 w:=by
  have y:=run2 w os
  rw[r]at y
  exact XA y
 obtain⟨z1,z2,z3⟩:_/\_/\_:=by simpa only[Prod.mk.injEq]using size w.params
 have r:=U' r
 rw[OC]at r
 have t:topFrom treeTable p w N ⟨boot_heap w.params,#[],boot_drawn,boot_toks,os⟩=some x.abs:=by
  unfold topFrom
  dsimp only
  rw[z1,z2,z3,r]
  refine(?_:(match staticsOk (importedModules p.main.body) (boot_heap w.params) x.abs.heap&&namesBound p x.abs.heap&&gensDone x.abs&&laidKept (boot_heap w.params) x.abs.heap with |true=>_ |false=>_)=_)
  rw[l1]
 unfold openEnds
 rw[e]
 refine(?_:(topFrom treeTable p w N _).map _=_)
 rw[t]
 exact XB some (Prod.ext l2 (Prod.ext l4 l3))
noncomputable def vw:Program:=view PySem.Challenge.pw_pq0020_01 [35]
theorem RW:∀w:World,(fencedOpening treeTable PySem.Challenge.pw_pq0020_01 w 4500).map (λs=>(s.heap,s.gens,s.drawn,s.toks))=some (boot_heap w.params,#[],boot_drawn,boot_toks):=
 boot_open (by kernel_rfl) (by decide) (λs=>by kernel_rfl)
noncomputable def ls:List Str:=(["_wall","term_text","paper_text","HeapError","TermFault","PaperFault","LimitFault","is_op","parts","Bank","Unions","Heap","MOST_PARTS","MOST_LEVELS","MOST_NUMBERS","paper_of_edge","joined_row","Whys","Shortest","_law_words","_law_draw","_law_term","_law_drawn","_law_piled","_law_read_term","_law_read","_law_pairs","_law_is_right"]:List String).map Str.ofString
noncomputable def Oq:List Addr:=[3,25,26,30,31,116,117,135,136,142,143,147,148,154,155,180,181,187,188,199,200,223,224,241,242,248,249,255,256,262,263,269,270,276,277,281,282,305,306,323,324,330,331,335,336,340,341,345,346,352,353,359,360,366,367,373,374,380,381,387,388,401,402,408,409,437,438,446,447,451,452,465,466,472,473,479,480,486,487,491,492,494,495,510,511,517,518,522,523,529,530,536,537,541,542,544,545,550,556,557,561,562,566,567,573,574,578,579,583,584,588,589,595,596,600,601]
noncomputable def Kf(h:Heap):Frag:=Oq.filterMap λa=>(h.get? a).map λo=>(a,o)
theorem Mz{h:Heap}(k:∀b o,h.get? b=some o->h'.get? b=some o):(Kf h).In h':=λa o e=>by
 have m:(a,o)∈Kf h:=by
  clear k
  revert e
  generalize Kf h=l
  induction l with
  |nil=>exact λe=>bN e
  |cons x xs ih=>
   intro e
   rw[show x=(x.1,x.2) from rfl,List.lookup_cons]at e
   split at e
   ·next q=>cases e;rw[XF q];exact XH ..
   ·exact XI _ (ih e)
 refine az (List.mem_filterMap.mp m) λb _ q=>?_
 refine az (YK q) λo' ho q=>?_
 cases q
 exact k _ _ ho
noncomputable def YP(_:World)(h:Heap):Prop:=∃K:Frag,K.In h/\(∀a l,wX (fy K a l)=true)/\nsIn K mainGlobals (Str.ofString "law")=some (some (.ref 601))
noncomputable def Y1(s:Shared):Addr->List Int->Bool:=λa l=>IA (fy (Kf s.heap) a l)
noncomputable def Y2(s:Shared):(Addr->List Int->Bool)×Option (Option Value):=(λa l=>IC (fy (Kf s.heap) a l),nsIn (Kf s.heap) mainGlobals (Str.ofString "law"))
noncomputable def Ya(_:World):(Addr->List Int->Bool)×Option (Option Value):=(λ_ _=>true,some (some (.ref 601)))
noncomputable def A1(_:World):Addr->List Int->Bool:=λ_ _=>true
theorem N3(w:World)(s:Shared)(e:(Y1 s,Y2 s)=(A1 w,Ya w)):YP w s.heap:=
 ⟨Kf s.heap,Mz λ_ _ q=>q,λa l=>Of (congrFun (congrFun (XB Prod.fst e) a) l) (congrFun (congrFun (XB (λz=>z.2.1) e) a) l),XB (λz=>z.2.2) e⟩
theorem N0(w:World)(h h':Heap)(y:YP w h)(k:∀b o,h.get? b=some o->h'.get? b=some o):YP w h':=y.imp λK q=>⟨λa o e=>k _ _ (q.1 a o e),q.2⟩
theorem Uj(w:World)(os:OsState):(qZ (tz PySem.Challenge.pw_pq0020_01 w) 11 (some (.ref 6)) 4500 (uA w.params os) (topStub PySem.Challenge.pw_pq0020_01)).map (λx=>(λs=>((staticsOk (importedModules PySem.Challenge.pw_pq0020_01.main.body) (boot_heap w.params) s.heap&&namesBound PySem.Challenge.pw_pq0020_01 s.heap&&gensDone s&&laidKept (boot_heap w.params) s.heap,openSeen vw ls (importedModules PySem.Challenge.pw_pq0020_01.main.body) (λ_=>true) true s),Y1 s)) x.abs)=some ((true,openGood vw ls),A1 w):=by kernel_rfl
theorem CK(w:World)(os:OsState):(qZ (tz PySem.Challenge.pw_pq0020_01 w) 11 (some (.ref 6)) 4500 (uA w.params os) (topStub PySem.Challenge.pw_pq0020_01)).map (λx=>Y2 x.abs)=some (Ya w):=by kernel_rfl
theorem QY:LeftO PySem.Challenge.rw_pq0020_01.row.prog vw ls (λ_=>true) (λs=>(Y1 s,Y2 s)) (λw=>(A1 w,Ya w)) 4500:=
 QZ (m₀:=11) (ann:=some (.ref 6)) RW (λP=>by kernel_rfl) Uj CK
set_option maxHeartbeats 4000000 in
theorem ws:PySem.Challenge.rw_pq0020_01.wellSaid=true:=by
 rw[PySem.W.Fast.te9446332074065402090]
 iterate 38 refine sh ?_ ?_
 all_goals as_aux_lemma=>kernel_rfl
end
section
open PyProof.Rows
variable {κ α β:Type}{Z:Nat}{ρ:aA}{σ:aj}{x y N W D t0 nm c0 r0 v0 M cl t' m' i1 i2 f0 a0 ql:Nat}{elt:Ex}{σ' τ σ₁ σ₂ σ'' υ:aj}{ys vs xs us:List V}{F ks lot op l0:List Nat}{bs:Nat->List (Nat×Nat)}{ρ' ρ'':aA}{fs es:List (Nat×V)}{cells:List Int}{tg:Tg}{L:Bool}{lots:List (List Nat)}{bd:List St}{fl:Fl}{cf cf':Nat->Nat->Option Nat}{ifs:List Ex}{bl:Int}{k':κ}
set_option hygiene false in
inductive Tm where
 |bS (op:List Nat) (kids:List Tm)
mutual
noncomputable def Tm.enc:Tm->V
 | .bS op kids=>.t (.s op::Tm.encs kids)
noncomputable def Tm.encs:List Tm->List V
 | []=>[]
 |t::ts=>t.enc::Tm.encs ts
end
theorem uq{op kids}:Tm.enc (.bS op kids)=.t (.s op::Tm.encs kids):=rfl
theorem EM:Tm.encs []=[]:=rfl
theorem EN{t ts}:Tm.encs (t::ts)=t.enc::Tm.encs ts:=rfl
mutual
noncomputable def Tm.text:Tm->List Nat
 | .bS op []=>op
 | .bS op (k::ks)=>[40]++cy [32] (op::Tm.texts (k::ks))++[41]
noncomputable def Tm.texts:List Tm->List (List Nat)
 | []=>[]
 |t::ts=>t.text::Tm.texts ts
end
theorem EQ:Tm.texts []=[]:=rfl
theorem zU{t ts}:Tm.texts (t::ts)=t.text::Tm.texts ts:=rfl
theorem NQ{op}:Tm.text (.bS op [])=op:=rfl
theorem zT{op k ks}:Tm.text (.bS op (k::ks))=[40]++cy [32] (op::Tm.texts (k::ks))++[41]:=rfl
mutual
noncomputable def Tm.dep:Tm->Nat
 | .bS _ kids=>Tm.deps kids+1
noncomputable def Tm.deps:List Tm->Nat
 | []=>0
 |t::ts=>max t.dep (Tm.deps ts)
end
theorem r5{z1 kids}:Tm.dep (.bS z1 kids)=Tm.deps kids+1:=rfl
theorem EL:Tm.deps []=0:=rfl
theorem wP{t ts}:Tm.deps (t::ts)=max t.dep (Tm.deps ts):=rfl
mutual
noncomputable def Tm.sz:Tm->Nat
 | .bS op kids=>op.length+3+Tm.szs kids
noncomputable def Tm.szs:List Tm->Nat
 | []=>0
 |t::ts=>t.sz+1+Tm.szs ts
end
theorem oM{op kids}:Tm.sz (.bS op kids)=op.length+3+Tm.szs kids:=rfl
theorem wR:Tm.szs []=0:=rfl
theorem oN{t ts}:Tm.szs (t::ts)=t.sz+1+Tm.szs ts:=rfl
theorem Bw(sep:List Nat):∀l:List (List Nat),(cy sep l).length<=(l.map λx=>x.length+sep.length).sum
 | []=>by simp[Bv]
 | [x]=>by simp[oZ]
 |x::y::r=>by
  have:=Bw sep (y::r)
  simp only[qB,Xv,XD,Yq]at *
  exact x5 this
mutual
theorem Tm.text_len:∀t:Tm,t.text.length<=t.sz
 | .bS op []=>by simp[NQ,oM];exact bT iO
 | .bS op (k::ks)=>by
  have h:=Tm.texts_len (k::ks)
  have h2:=Bw [32] (op::Tm.texts (k::ks))
  have e:(op::Tm.texts (k::ks)).map (λx=>x.length+[32].length)=(op::Tm.texts (k::ks)).map λx=>x.length+1:=rfl
  rw[e]at h2
  simp only[zT,oM,Xv,Xy,XY,XD,Yq]at *
  lia
theorem Tm.texts_len:∀ts:List Tm,((Tm.texts ts).map λx=>x.length+1).sum<=Tm.szs ts
 | []=>by simp[EQ,wR]
 |t::ts=>by
  have h1:=Tm.text_len t
  have h2:=Tm.texts_len ts
  simp only[zU,oN,XD,Yq]at *
  exact qF (qR h1) h2
end
theorem Tm.szs_len:∀ts:List Tm,ts.length<=Tm.szs ts
 | []=>by simp[wR]
 |t::ts=>by have:=Tm.szs_len ts;simp only[oN,Xy];lia
theorem oL(ts:List Tm):Tm.encs ts=ts.map Tm.enc:=by induction ts<;>simp_all [EM,EN]
theorem NR(ts:List Tm):Tm.texts ts=ts.map Tm.text:=by induction ts<;>simp_all [EQ,zU]
theorem Tm.deps_mem:∀{ts:List Tm} {t:Tm},t∈ts->t.dep<=Tm.deps ts
 |u::ts,t,h=>by
  rcases XL h with rfl |h
  ·simp only[wP];exact CC
  ·have:=Tm.deps_mem h;simp only[wP];exact qT this CD
theorem Tm.szs_mem:∀{ts:List Tm} {t:Tm},t∈ts->t.sz<=Tm.szs ts
 |u::ts,t,h=>by
  rcases XL h with rfl |h
  ·simp only[oN];exact bT iO
  ·have:=Tm.szs_mem h;simp only[oN];exact td this
theorem UP(f:α->List Nat)(l:List α):jC (l.map λx=>V.s (f x))=some (l.map f):=by induction l<;>simp_all [Kn,CQ]
theorem gJ{d n:Nat}{S:eM}(hS:∀r,S.iG r σ=σ)(hG:∀r,S.Wf r σ)(f g:α->V)(l:List α)(h:∀x∈l,∃ρ',fM 4 tg (f x) ρ=some ρ'/\Ev d n elt ρ' σ (g x) σ):
  ∀(acc:List V),aD (acc++l.map f)->cW d n elt tg [] [] ρ S (l.map f) σ acc (acc++l.map g) σ:=by
 induction l with
 |nil=>
  intro acc _
  have:=cW.mR (d:=d) (n:=n) (elt:=elt) (tg:=tg) (ifs:=[]) (gs:=[]) (ρ:=ρ) (S:=S) (σ:=σ) (acc:=acc)
  rw[hS]at this
  rw[YN,YN,Yi];exact this
 |cons x l ih=>
  intro acc hl
  refine az (h x (XH ..)) λρ' h1 h2=>?_
  have:=ih (λy hy=>h y (XI _ hy)) (acc++[g x]) (by unfold aD at *;simp at *;exact hl)
  rw[XU]at this
  exact cW.Wy h1 (by rw[hS];exact ej.oq) (jE.pK h2 (by unfold aD at *;simp at hl;exact bT hl)) (hG _) this
theorem Fh{xs:List α}{n:Nat}(h:xs.length<=n)(hn:n<=aK):aD xs:=Xs h hn
theorem CH:∀(d:Nat) (t:Tm),t.dep<=d->t.sz<=aK->∀σ,aL d 0 [t.enc] σ (.s t.text) σ
 |0,.bS op kids,h,_,_=>by simp[r5]at h
 |d+1,.bS op [],h,hs,σ=>by
  have hl:aD (V.s op::Tm.encs []):=by simp[aD,EM,aK]
  exact fV (f:=AP) rfl rfl (be (bM (jD (σ₁:=σ) (aY (ci rfl (Xo (af rfl)) (x0 hl)) aq rfl (Xw _)) (bi (af rfl) aq (c9 ⟨by decide,by decide⟩ rfl))))) (Yn _) rfl
 |d+1,.bS op (k::ks),h,hs,σ=>by
  have ht:=Tm.text_len (.bS op (k::ks))
  have hk:=Tm.szs_len (k::ks)
  have h2:=Tm.texts_len (k::ks)
  simp only[r5,oM]at h hs ht
  have hl:aD (V.s op::Tm.encs (k::ks)):=by rw[oL];unfold aD;simp only[Xy,Xr]at *;exact pj hk hs rfl
  have e:(V.s op::Tm.encs (k::ks)).length=(k::ks).length+1:=by rw[oL];simp
  have e0:¬(((V.s op::Tm.encs (k::ks)).length:Nat):Int)=1:=by rw[e,Xy];exact th (mD gh)
  have hd:(1:Int)<=1/\(1:Int)<=(V.s op::Tm.encs (k::ks)).length:=⟨by decide,by rw[e];exact nP⟩
  have hc:∀σ,Ev d 25 (.o (.l 0 [.v 1]) [.m (.v 1) (.e (.e (.v 0) (some (.c (.i 1))) none)) []]) (bf [(Tm.bS op (k::ks)).enc]) σ (.r σ.length) (σ++[.l ((k::ks).map λt=>.s t.text)]):=λσ=>by
   refine dU (S:=.bx (Tm.encs (k::ks))) (σ₁:=σ) (σ₂:=σ) ?_ ?_
   ·refine jK ?_ (Fh (n:=Tm.szs (k::ks)) (by simp only[oL,Xr];exact hk) (cG hs))
    exact ji (af rfl) aq (pi hd hl)
   ·have:=gJ (d:=d) (n:=24) (elt:=.l 0 [.v 1]) (tg:=.v 1) (ρ:=bf [(Tm.bS op (k::ks)).enc]) (σ:=σ) (S:=.bx (Tm.encs (k::ks))) (λ_=>rfl) (λ_=>trivial) Tm.enc (λt=>V.s t.text) (k::ks) (λt ht=>aC _ rfl (cw (Xo (af rfl))
     (CH d t (by have:=Tm.deps_mem ht;exact qT this (jc h)) (by have:=Tm.szs_mem ht;exact qT this (cG hs)) σ))) [] (Fh (by simp) (Xs hk (cG hs)))
    rw[<-oL]at this
    exact this
  have hj:jC ([V.s op]++(k::ks).map λt=>V.s t.text)=some (op::Tm.texts (k::ks)):=by
   rw[List.singleton_append,CQ,UP,NR];rfl
  have hx:(Tm.bS op (k::ks)).text=[40]++cy [32] (op::Tm.texts (k::ks))++[41]:=by simp only[zT]
  rw[hx]at ht ⊢
  simp only[Xv,Xy,XY]at ht hk
  have o1:aD ([V.s op]++(k::ks).map λt=>V.s t.text):=by simp[aD];exact pj hk hs rfl
  have o2:aD (cy [32] (op::Tm.texts (k::ks))):=by unfold aD;exact cG (hY (qT ht hs))
  have o3:aD ([40]++cy [32] (op::Tm.texts (k::ks))):=by unfold aD;simp;lia
  have o4:aD ([40]++cy [32] (op::Tm.texts (k::ks))++[41]):=by unfold aD;simp;lia
  have o5:aD ([32]:List Nat):=by unfold aD aK;decide
  refine fV (f:=AP) rfl rfl (be (bM (jh (σ₁:=σ) (aY (ci rfl (Xo (af rfl)) (x0 hl)) aq (XB some (Yb e0)) (Xw _)) (bX (bX aq (dp aq rfl (Xo (bX (du (Xo (bi (af rfl) aq (c9 ⟨by decide,by decide⟩ rfl)))) (hc _) (pf (bO _ _ aX) aX o1))) rfl (IZ aX hj o1 o5 o2)) (nJ o3)) aq (nJ o4))))) (iz (iz (Yk _ _))) rfl
inductive ar where
 |w (s:List Nat)
 |p (l:List ar)
mutual
noncomputable def ar.text:ar->List Nat
 | .w s=>s
 | .p l=>[40]++cy [32] (ar.texts l)++[41]
noncomputable def ar.texts:List ar->List (List Nat)
 | []=>[]
 |r::rs=>r.text::ar.texts rs
end
theorem gV{s}:ar.text (.w s)=s:=rfl
theorem ig{l}:ar.text (.p l)=[40]++cy [32] (ar.texts l)++[41]:=rfl
theorem p9:ar.texts []=[]:=rfl
theorem lZ{r rs}:ar.texts (r::rs)=r.text::ar.texts rs:=rfl
mutual
noncomputable def Tm.raw:Tm->ar
 | .bS op []=>.w op
 | .bS op (k::ks)=>.p (.w op::Tm.raws (k::ks))
noncomputable def Tm.raws:List Tm->List ar
 | []=>[]
 |t::ts=>t.raw::Tm.raws ts
end
theorem NM{op}:Tm.raw (.bS op [])=.w op:=rfl
theorem zQ{op k ks}:Tm.raw (.bS op (k::ks))=.p (.w op::Tm.raws (k::ks)):=rfl
theorem NN:Tm.raws []=[]:=rfl
theorem zR{t ts}:Tm.raws (t::ts)=t.raw::Tm.raws ts:=rfl
mutual
theorem Tm.raw_text:∀t:Tm,t.raw.text=t.text
 | .bS op []=>rfl
 | .bS op (k::ks)=>by simp only[zQ,gV,ig,lZ,zT,Tm.raws_text (k::ks)]
theorem Tm.raws_text:∀ts:List Tm,ar.texts (Tm.raws ts)=Tm.texts ts
 | []=>rfl
 |t::ts=>by simp only[zR,lZ,zU,Tm.raw_text t,Tm.raws_text ts]
end
theorem rT(l:List ar):ar.texts l=l.map ar.text:=by induction l<;>simp_all [p9,lZ]
noncomputable abbrev mw:List Nat:=[116,111,108,100]
noncomputable abbrev i6:List Nat:=[115,97,109,101]
noncomputable abbrev fQ:List Nat:=[114,117,108,101]
noncomputable abbrev eV:List Nat:=[116,117,114,110]
noncomputable abbrev dA:List Nat:=[106,111,105,110]
noncomputable abbrev gf:List Nat:=[117,110,100,101,114]
inductive Pp where
 |cR (w:List Nat)
 |cZ (t:Tm)
 |db (w:List Nat) (ps:List (List Nat×Tm))
 |cH (p:Pp)
 |bG (a b:Pp)
 |cD (w:List Nat) (ps:List Pp)
variable {ps:List Pp}{P p':Pp}
noncomputable abbrev dG(x:List Nat×Tm):V:=.t [.s x.1,x.2.enc]
mutual
noncomputable def Pp.enc:Pp->V
 | .cR w=>.t [.s mw,.s w]
 | .cZ t=>.t [.s i6,t.enc]
 | .db w ps=>.t [.s fQ,.s w,.t (ps.map dG)]
 | .cH p=>.t [.s eV,p.enc]
 | .bG a b=>.t [.s dA,a.enc,b.enc]
 | .cD w ps=>.t [.s gf,.s w,.t (Pp.encs ps)]
noncomputable def Pp.encs:List Pp->List V
 | []=>[]
 |p::ps=>p.enc::Pp.encs ps
end
theorem MV:Pp.encs []=[]:=rfl
theorem D9{p ps}:Pp.encs (p::ps)=p.enc::Pp.encs ps:=rfl
theorem MT{w}:Pp.enc (.cR w)=.t [.s mw,.s w]:=rfl
theorem D4{t}:Pp.enc (.cZ t)=.t [.s i6,t.enc]:=rfl
theorem D5{w ps}:Pp.enc (.db w ps)=.t [.s fQ,.s w,.t (ps.map dG)]:=rfl
theorem D7{p}:Pp.enc (.cH p)=.t [.s eV,p.enc]:=rfl
theorem MU{a b}:Pp.enc (.bG a b)=.t [.s dA,a.enc,b.enc]:=rfl
theorem rL{w ps}:Pp.enc (.cD w ps)=.t [.s gf,.s w,.t (Pp.encs ps)]:=rfl
noncomputable def Pp.eG:Pp->Bool
 | .bG _ _=>true
 |_=>false
theorem Sm{t}:Pp.eG (.cZ t)=false:=rfl
theorem Sn{w ps}:Pp.eG (.db w ps)=false:=rfl
noncomputable def jf(j:Bool)(l:List ar):ar:=if j then .p (.w dA::l)else l.headD (.w [])
mutual
noncomputable def Pp.sp:Pp->List ar
 | .cR w=>[.p [.w mw,.w w]]
 | .cZ t=>[.p [.w i6,t.raw]]
 | .db w ps=>[.p (.w fQ::.w w::ps.flatMap λx=>[.w x.1,x.2.raw])]
 | .cH p=>[.p [.w eV,jf p.eG p.sp]]
 | .bG a b=>a.sp++[jf b.eG b.sp]
 | .cD w ps=>[.p (.w gf::.w w::Pp.sps ps)]
noncomputable def Pp.sps:List Pp->List ar
 | []=>[]
 |p::ps=>jf p.eG p.sp::Pp.sps ps
end
theorem Ei:Pp.sps []=[]:=rfl
theorem zx{p ps}:Pp.sps (p::ps)=jf p.eG p.sp::Pp.sps ps:=rfl
theorem M5{w}:Pp.sp (.cR w)=[.p [.w mw,.w w]]:=rfl
theorem Eb{t}:Pp.sp (.cZ t)=[.p [.w i6,t.raw]]:=rfl
theorem Ec{w ps}:Pp.sp (.db w ps)=([.p (.w fQ::.w w::ps.flatMap λx=>[.w x.1,x.2.raw])]):=rfl
theorem Ed{p}:Pp.sp (.cH p)=[.p [.w eV,jf p.eG p.sp]]:=rfl
theorem wB{a b}:Pp.sp (.bG a b)=a.sp++[jf b.eG b.sp]:=rfl
theorem Ee{w ps}:Pp.sp (.cD w ps)=[.p (.w gf::.w w::Pp.sps ps)]:=rfl
noncomputable def Pp.cQ(p:Pp):ar:=jf p.eG p.sp
noncomputable def Pp.left:Pp->Pp
 | .bG a _=>a.left
 |p=>p
theorem wz{a b}:Pp.left (.bG a b)=a.left:=rfl
noncomputable def Pp.right:Pp->List Pp
 | .bG a b=>a.right++[b]
 |_=>[]
theorem pU{a b}:Pp.right (.bG a b)=a.right++[b]:=rfl
theorem Pp.sp_eq:∀p:Pp,p.sp=(p.left::p.right).map Pp.cQ
 | .cR w=>rfl
 | .cZ t=>rfl
 | .db w ps=>rfl
 | .cH p=>rfl
 | .cD w ps=>rfl
 | .bG a b=>by simp only[wB,wz,pU,Pp.sp_eq a,XD,Yc,YN,Zb];rfl
mutual
noncomputable def Pp.dep:Pp->Nat
 | .cR _=>1
 | .cZ t=>t.dep+1
 | .db _ ps=>(ps.map λx=>x.2.dep).foldr max 0+1
 | .cH p=>p.dep+1
 | .bG a b=>max a.dep b.dep+1
 | .cD _ ps=>Pp.deps ps+1
noncomputable def Pp.deps:List Pp->Nat
 | []=>0
 |p::ps=>max p.dep (Pp.deps ps)
end
theorem D3:Pp.deps []=0:=rfl
theorem wx{p ps}:Pp.deps (p::ps)=max p.dep (Pp.deps ps):=rfl
theorem wu{z1}:Pp.dep (.cR z1)=1:=rfl
theorem pS{t}:Pp.dep (.cZ t)=t.dep+1:=rfl
theorem pT{z1 ps}:Pp.dep (.db z1 ps)=(ps.map λx=>x.2.dep).foldr max 0+1:=rfl
theorem oA{p}:Pp.dep (.cH p)=p.dep+1:=rfl
theorem kq{a b}:Pp.dep (.bG a b)=max a.dep b.dep+1:=rfl
theorem oC{z1 ps}:Pp.dep (.cD z1 ps)=Pp.deps ps+1:=rfl
mutual
noncomputable def Pp.sz:Pp->Nat
 | .cR w=>w.length+40
 | .cZ t=>t.sz+40
 | .db w ps=>w.length+40+(ps.map λx=>x.1.length+x.2.sz+5).sum
 | .cH p=>p.sz+40
 | .bG a b=>a.sz+b.sz+10
 | .cD w ps=>w.length+40+Pp.szs ps
noncomputable def Pp.szs:List Pp->Nat
 | []=>0
 |p::ps=>p.sz+2+Pp.szs ps
end
theorem wD:Pp.szs []=0:=rfl
theorem pX{p ps}:Pp.szs (p::ps)=p.sz+2+Pp.szs ps:=rfl
theorem zy{w}:Pp.sz (.cR w)=w.length+40:=rfl
theorem rN{t}:Pp.sz (.cZ t)=t.sz+40:=rfl
theorem pV{w ps}:Pp.sz (.db w ps)=(w.length+40+(ps.map λx=>x.1.length+x.2.sz+5).sum):=rfl
theorem rP{p}:Pp.sz (.cH p)=p.sz+40:=rfl
theorem jL{a b}:Pp.sz (.bG a b)=a.sz+b.sz+10:=rfl
theorem pW{w ps}:Pp.sz (.cD w ps)=w.length+40+Pp.szs ps:=rfl
theorem rM(ps:List Pp):Pp.encs ps=ps.map Pp.enc:=by induction ps<;>simp_all [MV,D9]
theorem Ej(ps:List Pp):Pp.sps ps=ps.map Pp.cQ:=by induction ps<;>simp_all [Ei,zx,Pp.cQ]
theorem Pp.deps_mem:∀{ps:List Pp} {t:Pp},t∈ps->t.dep<=Pp.deps ps
 |u::ps,t,h=>by
  rcases XL h with rfl |h
  ·simp only[wx];exact CC
  ·have:=Pp.deps_mem h;simp only[wx];exact qT this CD
theorem Pp.szs_mem:∀{ps:List Pp} {t:Pp},t∈ps->t.sz<=Pp.szs ps
 |u::ps,t,h=>by
  rcases XL h with rfl |h
  ·simp only[pX];exact bT iO
  ·have:=Pp.szs_mem h;simp only[pX];exact td this
theorem Pp.szs_len:∀ps:List Pp,ps.length<=Pp.szs ps
 | []=>by simp[wD]
 |t::ts=>by have:=Pp.szs_len ts;simp only[pX,Xy];exact pj this pn rfl
theorem AV{α:Type}(f:α->Nat):∀{l:List α} {x:α},x∈l->f x<=(l.map f).foldr max 0
 |y::l,x,h=>by
  rw[XD,List.foldr_cons]
  rcases XL h with rfl |h
  ·exact CC
  ·have:=AV f h;exact qT this CD
theorem CS{α:Type}(f:α->Nat):∀{l:List α} {x:α},x∈l->f x<=(l.map f).sum
 |y::l,x,h=>by
  rw[XD,Yq]
  rcases XL h with rfl |h
  ·exact iO
  ·have:=CS f h;exact td this
theorem yq{α:Type}(f:α->Nat)(hf:∀x,1<=f x):∀(l:List α),l.length<=(l.map f).sum
 | []=>by simp
 |y::l=>by have:=yq f hf l;have:=hf y;rw[XD,Yq,Xy];lia
theorem yp{α:Type}{f g:α->Nat}:∀(l:List α),(∀x∈l,f x<=g x)->(l.map f).sum<=(l.map g).sum
 | [],_=>by simp
 |y::l,h=>by
  have h1:=h y (XH ..)
  have h2:=yp l λx hx=>h x (XI _ hx)
  simp only[XD,Yq];exact qF h1 h2
theorem ub(l:List ar):(ar.p l).text.length<=2+(l.map λr=>r.text.length+1).sum:=by
 have h:=Bw [32] (ar.texts l)
 rw[rT,XV]at h
 have e:((λx:List Nat=>x.length+[32].length) ∘ ar.text)=λr:ar=>r.text.length+1:=rfl
 rw[e]at h
 simp only[ig,rT,Xv,Xy,XY]at *
 exact hY (x5 h)
theorem yy(p:Pp)(h:(p.sp.map λr=>r.text.length+1).sum+15<=p.sz):(jf p.eG p.sp).text.length+8<=p.sz:=by
 unfold jf
 cases p.eG with
 |true=>
  have:=ub (.w dA::p.sp)
  simp only[if_true,XD,Yq,gV,ig,Xy,XY]at *
  lia
 |false=>
  simp only[Zv,if_false]
  cases hs:p.sp with
  |nil=>simp[gV];exact cG h
  |cons r l=>rw[hs]at h;simp only[List.headD_cons,XD,Yq]at *;lia
mutual
theorem Pp.sp_len:∀p:Pp,(p.sp.map λr=>r.text.length+1).sum+15<=p.sz
 | .cR w=>by simp[M5,zy,gV,ig,p9,lZ,oZ,qB]
 | .cZ t=>by
  have:=Tm.text_len t
  simp[Eb,rN,gV,ig,p9,lZ,oZ,qB,Tm.raw_text];exact d5 this
 | .db w ps=>by
  have h:=ub (.w fQ::.w w::ps.flatMap λx=>[.w x.1,x.2.raw])
  have h2:((ps.flatMap λx=>[ar.w x.1,x.2.raw]).map λr=>r.text.length+1).sum<=(ps.map λx=>x.1.length+x.2.sz+5).sum:=by
   induction ps with
   |nil=>simp
   |cons x ps ih=>
    have:=Tm.text_len x.2
    have ih':=ih (ub _)
    rw[List.flatMap_cons,Yc,List.sum_append]
    simp only[XD,YN,Yq,List.sum_nil,gV,ig,Tm.raw_text]at *
    lia
  simp only[Ec,pV,XD,YN,Yq,List.sum_nil,gV,ig,Xy,XY]at *
  lia
 | .cH p=>by
  have h1:=Pp.sp_len p
  have h2:=yy p h1
  have h:=ub [.w eV,jf p.eG p.sp]
  simp only[Ed,rP,XD,YN,Yq,List.sum_nil,gV,ig,Xy,XY]at *
  lia
 | .bG a b=>by
  have h1:=Pp.sp_len a
  have h2:=Pp.sp_len b
  have h3:=yy b h2
  simp only[wB,jL,Yc,List.sum_append,XD,YN,Yq,List.sum_nil]at *
  lia
 | .cD w ps=>by
  have h:=ub (.w gf::.w w::Pp.sps ps)
  have h2:=Pp.sps_len ps
  simp only[Ee,pW,XD,YN,Yq,List.sum_nil,gV,ig,Xy,XY]at *
  lia
theorem Pp.sps_len:∀ps:List Pp,((Pp.sps ps).map λr=>r.text.length+1).sum<=Pp.szs ps
 | []=>by simp[Ei,wD]
 |p::ps=>by
  have h1:=Pp.sp_len p
  have h2:=yy p h1
  have h3:=Pp.sps_len ps
  simp only[zx,pX,XD,Yq]at *
  lia
end
theorem Pp.Ea(p:Pp):p.cQ.text.length+8<=p.sz:=yy p (Pp.sp_len p)
theorem UQ(ws:List (List Nat)):jC (ws.map V.s)=some ws:=by induction ws<;>simp_all [Kn,CQ]
theorem Tc{d:Nat}{k:List Nat}{a:Nat}{ws:List (List Nat)}(h1:ρ 1=some (.s k))(h2:ρ 2=some (.r a))(h3:σ[a]? =some (.l (ws.map V.s)))(hl:ws.length < aK)(ht:(ar.p (.w k::ws.map .w)).text.length<=aK):
  ae d 12 [.r (.i .a (.i .a (.c (.s [40])) (.m 5 (.c (.s [32])) [(.i .a (.d [(.v 1)]) (.v 2))])) (.c (.s [41])))] ρ σ (.r (.s (ar.p (.w k::ws.map .w)).text)) ρ ((σ++[.l [.s k]])++[.l ([.s k]++ws.map V.s)]):=by
 have e:(ar.p (.w k::ws.map .w)).text=[40]++cy [32] (k::ws)++[41]:=by
  have e:(ws.map ar.w).map ar.text=ws:=by rw[XV];exact(Y0 λ_ _=>rfl).trans (List.map_id _)
  simp only[gV,ig,rT,XD,e]
 rw[e]at ht ⊢
 simp only[Xv,Xy,XY]at ht
 have o1:aD ([V.s k]++ws.map V.s):=by simp[aD];exact hl
 have o2:aD (cy [32] (k::ws)):=by unfold aD;exact cG (hY ht)
 have o3:aD ([40]++cy [32] (k::ws)):=by unfold aD;simp;lia
 have o4:aD ([40]++cy [32] (k::ws)++[41]):=by unfold aD;simp;lia
 have o5:aD ([32]:List Nat):=by unfold aD aK;decide
 have hj:jC ([V.s k]++ws.map V.s)=some (k::ws):=UQ (k::ws)
 exact be (bM (bX (bX aq (dp aq rfl (Xo (bX (du (Xo (af h1))) (af h2) (pf aX (bO _ _ h3) o1))) rfl (IZ aX hj o1 o5 o2)) (nJ o3)) aq (nJ o4)))
theorem tb{d:Nat}{k:List Nat}{ρ₂:aA}{a:Nat}{ws:List (List Nat)}(hk:P.enc=.t (.s k::xs))(hr:P.cQ=.p (.w k::ws.map .w)∨P.cQ.text=(ar.p (.w k::ws.map .w)).text)(hs:P.sz<=aK)
  (h:∀s,AO.dZ[1]? =some s->ai d 12 s (au (bf [P.enc]) 1 (.s k)) σ .n ρ₂ σ₁) (h1:ρ₂ 1=some (.s k)) (h2:ρ₂ 2=some (.r a)) (h3:σ₁[a]? =some (.l (ws.map V.s))) (hl:ws.length < aK) (hp:σ <+:σ₁):
  aL (d+1) 1 [P.enc] σ (.s P.cQ.text) σ:=by
 have e:P.cQ.text=(ar.p (.w k::ws.map .w)).text:=by rcases hr with h |h;(rw[h]);exact h
 have hb:=P.Ea
 rw[e]at hb ⊢
 refine fV (f:=AO) rfl rfl (ao (bh (v:=.s k) ?_ bc) (ao (h _ rfl) (Tc h1 h2 h3 hl (bT (qT hb hs))))) (iz (iz hp)) rfl
 refine bi (af (v:=P.enc) rfl) aq ?_
 rw[hk]
 exact c9 (bg rfl) rfl
theorem sZ{d i:Nat}{k:List Nat}(h:ρ i=some (.s k)):Ev d 30 (.p .e (.v i) (.c (.s k))) ρ σ (.b true) σ:=aY (af h) aq (by refine(?_:some (decide (k=k))=_);rw[XT rfl]) (Xw _)
theorem iN{d i:Nat}{k c:List Nat}(h:ρ i=some (.s k))(hn:decide (k=c)=false):Ev d 30 (.p .e (.v i) (.c (.s c))) ρ σ (.b false) σ:=aY (af h) aq (by refine(?_:some _=_);rw[hn]) (Xw _)
theorem TJ(d:Nat)(w:List Nat)(hs:(Pp.cR w).sz<=aK)(σ:aj):aL (d+1) 1 [(Pp.cR w).enc] σ (.s (Pp.cR w).cQ.text) σ:=by
 refine tb (k:=mw) (xs:=[.s w]) (ws:=[w]) (a:=σ.length) (ρ₂:=au (au (bf [(Pp.cR w).enc]) 1 (.s mw)) 2 (.r σ.length)) (σ₁:=σ++[.l [.s w]]) rfl (.inl rfl) hs (λs h=>?_) rfl rfl aX (by refine(?_:1 < aK);unfold aK;decide) (Yk _ _)
 cases h
 refine bC (iN rfl rfl) (Xp (cX (sZ rfl) (Xp (bh (v:=.r σ.length) (σ₁:=σ++[.l [.s w]]) (du (Xo (bi (af rfl) aq (c9 ⟨by decide,by decide⟩ rfl)))) bc))))
theorem Qw(sep:List Nat)(f g:List Nat×Tm->List Nat)(ps:List (List Nat×Tm))(a:List Nat):cy sep (a::ps.flatMap λx=>[f x,g x])=cy sep (a::ps.map λx=>f x++sep++g x):=by
 induction ps generalizing a with
 |nil=>rfl
 |cons x ps ih=>
  have h:=ih (g x)
  have e:∀b:List Nat,∀l:List (List Nat),cy sep (b::l)=b++(match l with | []=>[] |_=>sep++cy sep l):=by
   intro b l;cases l<;>simp[oZ,qB]
  rw[List.flatMap_cons,XD]
  refine(?_:a++sep++cy sep (f x::g x::ps.flatMap λx=>[f x,g x])=a++sep++cy sep ((f x++sep++g x)::ps.map λx=>f x++sep++g x))
  have h1:cy sep (f x::g x::ps.flatMap λx=>[f x,g x])=f x++sep++cy sep (g x::ps.flatMap λx=>[f x,g x]):=rfl
  rw[h1,h,e (g x),e (f x++sep++g x)]
  simp only[XU]
theorem R4{w:List Nat}{ps:List (List Nat×Tm)}:(Pp.db w ps).cQ.text=(ar.p (.w fQ::(w::ps.map λx=>x.1++[32]++x.2.text).map .w)).text:=by
 have e1:∀l:List (List Nat),(l.map ar.w).map ar.text=l:=λl=>by rw[XV];exact(Y0 λ_ _=>rfl).trans (List.map_id _)
 have e2:(ps.flatMap λx=>[ar.w x.1,x.2.raw]).map ar.text=ps.flatMap λx=>[x.1,x.2.text]:=by
  rw[List.map_flatMap];congr 1;funext x;simp[gV,Tm.raw_text]
 refine(?_:[40]++cy [32] (ar.texts (.w fQ::.w w::ps.flatMap λx=>[.w x.1,x.2.raw]))++[41]=_)
 simp only[gV,ig,rT,XD,e1,e2]
 have:=Qw [32] (λx=>x.1) (λx=>x.2.text) ps w
 refine(?_:_++((fQ:List Nat)++[32]++cy [32] (w::_))++_=_++((fQ:List Nat)++[32]++cy [32] (w::_))++_)
 rw[this]
theorem ON{d n j k:Nat}{e:Ex}(ps:List Pp)(f:Pp->List Nat)(he:Ev d (n+2) e ρ σ (.t (ps.map Pp.enc)) σ₁)(hl:ps.length<=aK)(h:∀p∈ps,aL d k [p.enc] σ₁ (.s (f p)) σ₁):
  Ev d (n+3) (.o (.l k [.v j]) [.m (.v j) (.e e) []]) ρ σ (.r σ₁.length) (σ₁++[.l ((ps.map f).map V.s)]):=by
 refine dU (S:=.bx (ps.map Pp.enc)) (jK he (by unfold aD;simpa using hl)) ?_
 have:=gJ (d:=d) (n:=n+2) (elt:=.l k [.v j]) (tg:=.v j) (ρ:=ρ) (σ:=σ₁) (S:=.bx (ps.map Pp.enc)) (λ_=>rfl) (λ_=>trivial) Pp.enc (λp=>V.s (f p)) ps (λp hp=>aC _ rfl (cw (Xo (af (bw _ _ _))) (h p hp))) [] (by unfold aD;simpa using hl)
 rw[X0]at this
 rw[XV];exact this
theorem OO{d n j k q:Nat}{e:Ex}(ps:List Pp)(f:Pp->List Nat)(he:Ev d (n+2) e ρ σ (.r q) σ₁)(hq:σ₁[q]? =some (.l (ps.map Pp.enc)))(hl:ps.length<=aK)(h:∀p∈ps,aL d k [p.enc] σ₁ (.s (f p)) σ₁):
  Ev d (n+3) (.o (.l k [.v j]) [.m (.v j) (.e e) []]) ρ σ (.r σ₁.length) (σ₁++[.l ((ps.map f).map V.s)]):=by
 refine dU (S:=.cr q (ps.map Pp.enc)) (fe he hq (by unfold aD;simpa using hl)) ?_
 have:=gJ (d:=d) (n:=n+2) (elt:=.l k [.v j]) (tg:=.v j) (ρ:=ρ) (σ:=σ₁) (S:=.cr q (ps.map Pp.enc)) (λ_=>rfl) (λ_=>hq) Pp.enc (λp=>V.s (f p)) ps (λp hp=>aC _ rfl (cw (Xo (af (bw _ _ _))) (h p hp))) [] (by unfold aD;simpa using hl)
 rw[X0]at this
 rw[XV];exact this
noncomputable def Pp.zt:Pp->List Nat
 | .cR _=>mw
 | .cZ _=>i6
 | .db _ _=>fQ
 | .cH _=>eV
 | .bG _ _=>dA
 | .cD _ _=>gf
theorem Pp.D8(p:Pp):∃ys,p.enc=.t (.s p.zt::ys):=by cases p<;>exact fB _ rfl
theorem qX{α:Type}:∀{l:List α} {i:Nat} {x:α},l[i]? =some x->l.set i x=l
 | [],_,_,_=>rfl
 |y::l,0,x,h=>by simp at h;simp[h]
 |y::l,i+1,x,h=>by simp at h;simp[qX h]
theorem Je{d:Nat}{r:Nat}:∀(a b:Pp) (xs:List V) (ρ:aA) (σ:aj),ρ 0=some ((Pp.bG a b).enc)->ρ 3=some (.r r)->σ[r]? =some (.l xs)->xs.length+a.right.length<=aK->
  ∃c ρ',ai d 7 (.w (.p .e (.s (.s (.v 0) (.c (.i 1))) (.c (.i 0))) (.c (.s [106,111,105,110]))) [.a (.v 0) (.s (.v 0) (.c (.i 1))),
   .e (.m 0 (.v 3) [(.s (.v 0) (.c (.i 2)))])]) ρ σ .n ρ' (σ.set r (.l (xs++a.right.reverse.map Pp.enc)))/\ρ' 0=some ((Pp.bG a.left c).enc)/\ρ' 3=some (.r r)/\ρ' 1=ρ 1
 | .bG a1 b1,b,xs,ρ,σ,h0,h3,hr,hl=>by
  have hl':(xs++[b1.enc]).length+a1.right.length<=aK:=by simp only[pU,Xv,Xy,XY]at *;exact gj hl
  have o1:aD xs:=by unfold aD;simp only[pU,Xv,Xy,XY]at *;exact bT hl
  obtain⟨c,ρ',h,g0,g3,g1⟩:=Je a1 b1 (xs++[b1.enc]) (au ρ 0 ((Pp.bG a1 b1).enc)) (σ.set r (.l (xs++[b1.enc]))) (bw _ _ _) (by rw[bR _ _ (by decide)];exact h3) (cS hr) hl'
  rw[Yr]at h
  have e:xs++(Pp.bG a1 b1).right.reverse.map Pp.enc=xs++[b1.enc]++a1.right.reverse.map Pp.enc:=by simp[pU]
  rw[e]
  refine di c ρ' (l7 (σ₁:=σ) ?_ (ao (bh (v:=(Pp.bG a1 b1).enc) (σ₁:=σ) ?_ bc) (Xp (dv (v:=.n) ?_))) h) g0 g3 (by rw[g1,bR _ _ (by decide)])
  ·refine aY (u:=.s dA) (bi (u:=(Pp.bG a1 b1).enc) (bi (af h0) aq (c9 (bg rfl) rfl)) aq (c9 (bg rfl) rfl)) aq rfl (Xw _)
  ·exact bi (af h0) aq (c9 (bg rfl) rfl)
  ·have h3':(au ρ 0 (Pp.bG a1 b1).enc) 3=some (.r r):=by rw[bR _ _ (by decide)];exact h3
   have h0':(au ρ 0 (Pp.bG a1 b1).enc) 0=some (Pp.bG a1 b1).enc:=bw _ _ _
   refine dp (af h3') (eI hr rfl) (Xo (bi (af h0') aq (c9 (bg rfl) rfl))) rfl (ph hr o1)
 | .cR _,b,xs,ρ,σ,h0,h3,hr,hl=>done rfl rfl rfl h0 h3 hr
 | .cZ _,b,xs,ρ,σ,h0,h3,hr,hl=>done rfl rfl rfl h0 h3 hr
 | .db _ _,b,xs,ρ,σ,h0,h3,hr,hl=>done rfl rfl rfl h0 h3 hr
 | .cH _,b,xs,ρ,σ,h0,h3,hr,hl=>done rfl rfl rfl h0 h3 hr
 | .cD _ _,b,xs,ρ,σ,h0,h3,hr,hl=>done rfl rfl rfl h0 h3 hr
where
 done {d r:Nat} {a b:Pp} {xs:List V} {ρ:aA} {σ:aj} (e1:a.left=a) (e2:a.right=[]) (hj:decide (a.zt=dA)=false) (h0:ρ 0=some ((Pp.bG a b).enc)) (h3:ρ 3=some (.r r)) (hr:σ[r]? =some (.l xs)):
  ∃c ρ',ai d 7 (.w (.p .e (.s (.s (.v 0) (.c (.i 1))) (.c (.i 0))) (.c (.s [106,111,105,110]))) [.a (.v 0) (.s (.v 0) (.c (.i 1))),
   .e (.m 0 (.v 3) [(.s (.v 0) (.c (.i 2)))])]) ρ σ .n ρ' (σ.set r (.l (xs++a.right.reverse.map Pp.enc)))/\ρ' 0=some ((Pp.bG a.left c).enc)/\ρ' 3=some (.r r)/\ρ' 1=ρ 1:=by
  rw[e1,e2]
  obtain⟨ys,hy⟩:=a.D8
  have es:σ.set r (.l (xs++([]:List Pp).reverse.map Pp.enc))=σ:=by simp[qX hr]
  rw[es]
  refine di b ρ (iY (aY (u:=.s a.zt) (bi (u:=a.enc) (bi (af h0) aq (c9 (bg rfl) rfl)) aq ?_) aq (by refine(?_:some _=_);rw[hj]) (Xw _))) h0 h3 rfl
  rw[hy];exact c9 (bg rfl) rfl
theorem Pp.left_dep:∀(p:Pp),p.left.dep<=p.dep/\p.left.sz<=p.sz/\∀q∈p.right,q.dep+1<=p.dep/\q.sz<=p.sz
 | .cR _ | .cZ _ | .db _ _ | .cH _ | .cD _ _=>⟨Xx _,Xx _,λq h=>(by cases h)⟩
 | .bG a b=>by
  refine cO (Pp.left_dep a) λh1 h2 h3=>?_
  refine fA ?_ ?_ (λq h=>?_)
  ·simp only[wz,kq];exact qGf h1
  ·simp only[wz,jL];exact CA (d5 h2)
  ·simp only[pU]at h
   rcases XM h with h |h
   ·have:=h3 q h;simp only[kq,jL];exact qGd this
   ·rw[YA]at h;subst h;simp only[kq,jL];exact qGe
theorem Pp.right_len:∀(p:Pp),p.right.length<=p.sz
 | .cR _ | .cZ _ | .db _ _ | .cH _ | .cD _ _=>Xw _
 | .bG a b=>by have:=Pp.right_len a;simp only[pU,jL,Xv,Xy,XY];exact x7 this pn rfl
theorem yh:∀(d:Nat) (P:Pp),P.dep<=d->P.sz<=aK->∀σ,aL d 1 [P.enc] σ (.s P.cQ.text) σ
 |0,P,h,_,_=>by cases P<;>simp[wu,pS,pT,oA,kq,oC]at h
 |d+1,.cR w,_,hs,σ=>TJ d w hs σ
 |d+1,.cZ t,h,hs,σ=>by
  have hr:=CH d t (by simp only[pS]at h;exact jc h) (by simp only[rN]at hs;exact bT hs) σ
  refine tb (k:=i6) (xs:=[t.enc]) (ws:=[t.text]) (a:=σ.length) (ρ₂:=au (au (bf [(Pp.cZ t).enc]) 1 (.s i6)) 2 (.r σ.length)) (σ₁:=σ++[.l [.s t.text]]) rfl (.inr (by
   refine(?_:(ar.p [.w i6,t.raw]).text=(ar.p [.w i6,.w t.text]).text)
   simp only[gV,ig,p9,lZ,Tm.raw_text])) hs (λs h=>?_) rfl rfl aX (by refine(?_:1 < aK);unfold aK;decide) (Yk _ _)
  cases h
  refine cX (sZ rfl) (Xp (bh (du (Xo (cw (Xo (bi (u:=(Pp.cZ t).enc) (af rfl) aq (c9 (bg rfl) rfl))) hr))) bc))
 |d+1,.db w ps,h,hs,σ=>by
  have hl:ps.length<=(ps.map λx=>x.1.length+x.2.sz+5).sum:=yq _ (λx=>gh) ps
  simp only[pT,pV]at h hs
  have o1:aD ([V.s w]++ps.map λx=>V.s (x.1++[32]++x.2.text)):=by simp[aD];exact pj hl hs rfl
  have hc:∀ρ σ,ρ 0=some (Pp.db w ps).enc->Ev d 29 (.o (.i .a (.i .a (.v 4) (.c (.s [32]))) (.l 0 [(.v 5)])) [.m (.t [(.v 4),(.v 5)]) (.e (.s (.v 0) (.c (.i 2)))) []]) ρ σ (.r σ.length) (σ++[.l (ps.map λx=>V.s (x.1++[32]++x.2.text))]):=λρ σ h0=>by
   refine dU (S:=.bx (ps.map dG)) (jK (bi (af h0) aq (c9 (bg rfl) rfl)) (by unfold aD;simp;exact qT hl (cG hs))) ?_
   have:=gJ (d:=d) (n:=28) (elt:=.i .a (.i .a (.v 4) (.c (.s [32]))) (.l 0 [(.v 5)])) (tg:=.t [(.v 4),(.v 5)]) (ρ:=ρ) (σ:=σ) (S:=.bx (ps.map dG)) (λ_=>rfl) (λ_=>trivial) dG (λx=>V.s (x.1++[32]++x.2.text)) ps (λx hx=>by
    have hm:=CS (λx:List Nat×Tm=>x.1.length+x.2.sz+5) hx
    have hd:=AV (λx:List Nat×Tm=>x.2.dep) hx
    have ht:=Tm.text_len x.2
    try simp only at hm hd
    refine aC (au (au ρ 4 (.s x.1)) 5 x.2.enc) rfl (bX (bX (af (by rw[bR _ _ (by decide)];exact bw _ _ _)) aq (nJ (by unfold aD;simp;lia))) (cw (Xo (af (bw _ _ _))) (CH d x.2 (qT hd (jc h)) (JL hm hs) σ)) (nJ (by unfold aD;simp;lia)))) [] (by unfold aD;simp;exact qT hl (cG hs))
   exact this
  refine tb (k:=fQ) (xs:=[.s w,.t (ps.map dG)]) (ws:=w::ps.map λx=>x.1++[32]++x.2.text) (ρ₂:=au (au (bf [(Pp.db w ps).enc]) 1 (.s fQ)) 2 (.r (σ++[O.l [.s w]]++[O.l (ps.map λx=>V.s (x.1++[32]++x.2.text))]).length))
   (σ₁:=σ++[.l [.s w]]++[.l (ps.map λx=>V.s (x.1++[32]++x.2.text))]++[.l ([.s w]++ps.map λx=>V.s (x.1++[32]++x.2.text))]) rfl (.inr R4) (by simp only[pV];exact hs) (λs h=>?_) rfl rfl (by rw[aX,XD,XV];rfl) (by simp;exact JM hl hs) (by repeat first |exact Yn _ |apply iz)
  cases h
  refine bC (iN rfl rfl) (Xp (bC (iN rfl rfl) (Xp (cX (sZ rfl) (Xp (bh (bX (du (Xo (bi (u:=(Pp.db w ps).enc) (af rfl) aq (c9 (bg rfl) rfl)))) (hc _ _ rfl) (pf (bO _ _ aX) aX o1)) bc))))))
 |d+1,.cH p,h,hs,σ=>by
  have hr:=yh d p (by simp only[oA]at h;exact jc h) (by simp only[rP]at hs;exact bT hs) σ
  refine tb (k:=eV) (xs:=[p.enc]) (ws:=[p.cQ.text]) (a:=σ.length) (ρ₂:=au (au (bf [(Pp.cH p).enc]) 1 (.s eV)) 2 (.r σ.length)) (σ₁:=σ++[.l [.s p.cQ.text]]) rfl (.inr (by
   refine(?_:(ar.p [.w eV,p.cQ]).text=(ar.p [.w eV,.w p.cQ.text]).text)
   simp only[gV,ig,p9,lZ])) hs (λs h=>?_) rfl rfl aX (by refine(?_:1 < aK);unfold aK;decide) (Yk _ _)
  cases h
  refine bC (iN rfl rfl) (Xp (bC (iN rfl rfl) (Xp (bC (iN rfl rfl) (Xp (bC (iN rfl rfl) (Xp (cX (sZ rfl) (Xp (bh (du (Xo (cw (Xo (bi (u:=(Pp.cH p).enc) (af rfl) aq (c9 (bg rfl) rfl))) hr))) bc))))))))))
 |d+1,.cD w ps,h,hs,σ=>by
  have hl:=Pp.szs_len ps
  simp only[oC,pW]at h hs
  have hc:=λρ σ e=>ON (d:=d) (n:=26) (j:=6) (k:=1) (ρ:=ρ) (σ:=σ) (σ₁:=σ) (e:=.s (.v 0) (.c (.i 2))) ps (λp=>p.cQ.text) (bi (u:=(Pp.cD w ps).enc) (af e) aq (c9 (bg rfl) (by rw[<-rM];rfl))) (qT hl (cG hs)) (λp hp=>yh d p (by have:=Pp.deps_mem hp;exact qT this (jc h)) (by have:=Pp.szs_mem hp;exact qT this (cG hs)) σ)
  have o1:aD ([V.s w]++(ps.map λp=>p.cQ.text).map V.s):=by simp[aD];exact pj hl hs rfl
  refine tb (k:=gf) (xs:=[.s w,.t (Pp.encs ps)]) (ws:=w::ps.map λp=>p.cQ.text) (ρ₂:=au (au (bf [(Pp.cD w ps).enc]) 1 (.s gf)) 2 (.r (σ++[O.l [.s w]]++[O.l ((ps.map λp=>p.cQ.text).map V.s)]).length))
   (σ₁:=σ++[.l [.s w]]++[.l ((ps.map λp=>p.cQ.text).map V.s)]++[.l ([.s w]++(ps.map λp=>p.cQ.text).map V.s)]) rfl (.inr (by
    refine(?_:(ar.p (.w gf::.w w::Pp.sps ps)).text=_)
    simp only[gV,ig,rT,Ej,XD,XV]
    rfl)) (by simp only[pW];exact hs) (λs h=>?_) rfl rfl aX (by simp;exact JM hl hs) (by repeat first |exact Yn _ |apply iz)
  cases h
  refine bC (iN rfl rfl) (Xp (bC (iN rfl rfl) (Xp (bC (iN rfl rfl) (Xp (cX (sZ rfl) (Xp (bh (bX (du (Xo (bi (u:=(Pp.cD w ps).enc) (af rfl) aq (c9 (bg rfl) rfl)))) (hc _ _ rfl) (pf (bO _ _ aX) aX o1)) bc))))))))
 |d+1,.bG a b,h,hs,σ=>by
  have hl:=Pp.right_len a
  refine cO (Pp.left_dep a) λl1 l2 l3=>?_
  simp only[kq,jL]at h hs
  have hb:aK=1000000:=rfl
  have hr:(σ++[O.l [b.enc]])[σ.length]? =some (.l [b.enc]):=aX
  refine dk (Je (d:=d) a b [b.enc] (au (au (bf [(Pp.bG a b).enc]) 1 (.s dA)) 3 (.r σ.length)) (σ++[.l [b.enc]]) rfl rfl hr (by simp;exact vu (x7 hl hs rfl))) λc ρ' hw g0 g3 g1=>?_
  have e1:(σ++[O.l [b.enc]]).set σ.length (.l ([b.enc]++a.right.reverse.map Pp.enc))=σ++[.l ([b.enc]++a.right.reverse.map Pp.enc)]:=uy _ _ _
  rw[e1]at hw
  have e2:[a.left.enc]++([b.enc]++a.right.reverse.map Pp.enc).reverse=(a.left::a.right++[b]).map Pp.enc:=by simp
  have o1:aD ([b.enc]++a.right.reverse.map Pp.enc):=by unfold aD;simp;exact x7 hl hs rfl
  have o2:aD ([a.left.enc]++([b.enc]++a.right.reverse.map Pp.enc).reverse):=by unfold aD;simp;exact JN hl hs
  have o3:(a.left::a.right++[b]).length<=aK:=by simp;exact JN hl hs
  have dq:∀p∈a.left::a.right++[b],p.dep<=d/\p.sz<=aK:=λp hp=>by
   rcases XM hp with hp |hp
   ·rcases XL hp with rfl |hp
    ·lia
    ·have:=l3 p hp;lia
   ·rw[YA]at hp;subst hp;lia
  have he:Ev d 29 (.i .a (.d [(.s (.v 0) (.c (.i 1)))]) (.k (.v 3))) ρ' (σ++[.l ([b.enc]++a.right.reverse.map Pp.enc)]) (.r (σ++[O.l ([b.enc]++a.right.reverse.map Pp.enc)]++[O.l [a.left.enc]]++[O.l ([b.enc]++a.right.reverse.map Pp.enc).reverse]).length)
    (σ++[O.l ([b.enc]++a.right.reverse.map Pp.enc)]++[.l [a.left.enc]]++[.l ([b.enc]++a.right.reverse.map Pp.enc).reverse]++[.l ([a.left.enc]++([b.enc]++a.right.reverse.map Pp.enc).reverse)]):=by
   refine bX (du (Xo (bi (af g0) aq (c9 (bg rfl) rfl)))) (yO (af g3) (Cp (bO _ _ aX) o1)) (pf (bO _ _ aX) aX o2)
  have hc:=OO (d:=d) (n:=27) (j:=7) (k:=1) (a.left::a.right++[b]) (λp=>p.cQ.text) he (by rw[aX,e2]) o3 (λp hp=>yh d p (dq p hp).1 (dq p hp).2 _)
  refine' tb (k:=dA) (xs:=[a.enc,b.enc]) (ws:=(a.left::a.right++[b]).map λp=>p.cQ.text) (ρ₂:=au ρ' 2 _) rfl (.inr ?hr) (by simp only[jL];exact hs) (λs h=>?hh) (by rw[bR _ _ (by decide)];exact g1) (bw _ _ _) ?h3 (by simp;lia) ?hp
  case hh=>
   cases h
   refine bC (iN rfl rfl) (Xp (bC (iN rfl rfl) (Xp (bC (iN rfl rfl) (Xp (bC (iN rfl rfl) (Xp (bC (iN rfl rfl) (ao (bh (du (Xo (bi (u:=(Pp.bG a b).enc) (af rfl) aq (c9 (bg rfl) rfl)))) bc) (ao ?_ (Xp (bh hc bc))))))))))))
   exact hw
  case hr=>
   refine(?_:(jf true (a.sp++[b.cQ])).text=_)
   rw[Pp.sp_eq]
   refine(?_:(ar.p (.w dA::(((a.left::a.right).map Pp.cQ)++[b.cQ]))).text=_)
   simp only[gV,ig,rT,XD,Yc,XV,YN]
   rfl
  case h3=>exact aX
  case hp=>repeat first |exact Yn _ |apply iz
noncomputable def nh(c:Nat):Prop:=c≠40/\c≠41/\c≠32
noncomputable def ip(w:List Nat):Prop:=w≠[]/\∀c∈w,nh c
mutual
noncomputable def ar.good:ar->Prop
 | .w s=>ip s
 | .p l=>ar.goods l
noncomputable def ar.goods:List ar->Prop
 | []=>True
 |r::rs=>r.good/\ar.goods rs
end
theorem M9{s}:ar.good (.w s)=ip s:=rfl
theorem M'{l}:ar.good (.p l)=ar.goods l:=rfl
theorem Ek:ar.goods []=True:=rfl
theorem El{r rs}:ar.goods (r::rs)=(r.good/\ar.goods rs):=rfl
mutual
noncomputable def RR(σ:aj)(S:List Nat):ar->V->Prop
 | .w s,v=>v=.s s
 | .p l,v=>∃a vs,v=.r a/\a∉S/\σ[a]? =some (.l vs)/\dc σ S l vs
noncomputable def dc(σ:aj)(S:List Nat):List ar->List V->Prop
 | [],vs=>vs=[]
 |r::rs,vs=>∃v us,vs=v::us/\RR σ S r v/\dc σ S rs us
end
theorem oE{σ S s v}:RR σ S (.w s) v=(v=.s s):=rfl
theorem rS{σ S l v}:RR σ S (.p l) v=(∃a vs,v=.r a/\a∉S/\σ[a]? =some (.l vs)/\dc σ S l vs):=rfl
theorem oF{σ S vs}:dc σ S [] vs=(vs=[]):=rfl
theorem jN{σ S r rs vs}:dc σ S (r::rs) vs=(∃v us,vs=v::us/\RR σ S r v/\dc σ S rs us):=rfl
section
variable {S S':List Nat}
mutual
theorem RR.mono(hS:∀a∈S',a∈S)(h:∀i o,σ[i]? =some o->i∉S->σ'[i]? =some o):∀(r:ar) {v:V},RR σ S r v->RR σ' S' r v
 | .w _,_,e=>e
 | .p l,v,e=>by
  simp only[rS]at e ⊢
  refine dk e ?_;clear e;intro a vs h1 h2 h3 h4
  exact di a vs h1 (λhm=>h2 (hS a hm)) (h a _ h3 h2) (dc.mono hS h l h4)
theorem dc.mono(hS:∀a∈S',a∈S)(h:∀i o,σ[i]? =some o->i∉S->σ'[i]? =some o):∀(l:List ar) {vs:List V},dc σ S l vs->dc σ' S' l vs
 | [],_,e=>e
 |r::rs,vs,e=>by
  simp only[jN]at e ⊢
  refine cP e ?_;clear e;intro v us h1 h2 h3
  exact dN v us h1 (RR.mono hS h r h2) (dc.mono hS h rs h3)
end
mutual
theorem RR.more{D:Nat}(hD:σ.length<=D):∀(r:ar) {v:V},RR σ S r v->RR σ (D::S) r v
 | .w _,_,e=>e
 | .p l,v,e=>by
  simp only[rS]at e ⊢
  refine dk e ?_;clear e;intro a vs h1 h2 h3 h4
  have:=(XZ h3).1
  exact di a vs h1 (λhm=>by rcases XL hm with h |h;exact Cv (qT this hD) h;exact h2 h) h3 (dc.more hD l h4)
theorem dc.more{D:Nat}(hD:σ.length<=D):∀(l:List ar) {vs:List V},dc σ S l vs->dc σ (D::S) l vs
 | [],_,e=>e
 |r::rs,vs,e=>by
  simp only[jN]at e ⊢
  refine cP e ?_;clear e;intro v us h1 h2 h3
  exact dN v us h1 (RR.more hD r h2) (dc.more hD rs h3)
end
theorem dc.snoc{r:ar}{v:V}:∀{l:List ar} {vs:List V},dc σ S l vs->RR σ S r v->dc σ S (l++[r]) (vs++[v])
 | [],vs,h,h2=>by simp only[oF]at h;subst h;exact dN v ([]) rfl h2 rfl
 |q::l,vs,h,h2=>by
  simp only[jN]at h
  refine cP h ?_;clear h;intro u us q2 h3 h4;subst q2
  exact dN u (us++[v]) rfl h3 (dc.snoc h4 h2)
end
structure eA(p N:Nat)(st:List (Nat×List V))(wd:List Nat)(ρ:aA)(σ:aj):Prop where
 oy:σ[p]? =some (.l (st.map λx=>V.r x.1))
 ko:∀x∈st,σ[x.1]? =some (.l x.2)
 nd:(p::st.map (·.1)).Nodup
 Wd:ρ 1=some (.r p)
 Wj:ρ 2=some (.s wd)
 n1:st.length<=N
 n2:∀x∈st,x.2.length<=N
 n3:wd.length<=N
noncomputable abbrev ik(p:Nat)(st:List (Nat×List V)):List Nat:=p::st.map (·.1)
noncomputable def iV(S:List Nat)(σ σ':aj):Prop:=∀i o,σ[i]? =some o->i∉S->σ'[i]? =some o
theorem iV.ze{S:List Nat}(a:iV S σ σ')(b:iV S σ' σ''):iV S σ σ'':=λi o h hn=>b i o (a i o h hn) hn
theorem My{S:List Nat}{a:Nat}{o:O}(h:a∈S):iV S σ (σ.set a o):=λi q hi hn=>by
 rw[Y4 λe=>hn (by rw[<-e];exact h)];exact hi
noncomputable def nG:List St:=match AL.dZ with | [_,.l _ _ b,_]=>b |_=>[]
noncomputable def xY:St:=match nG with | [a,_]=>a |_=>.s
noncomputable def Sk:St:=match nG with | [_,a]=>a |_=>.s
theorem Qo{c:Nat}(h:nh c):gd [c] [40,41,32]=false:=by
 refine cO h ?_;clear h;intro h1 h2 h3
 simp[Hf,Br,List.isPrefixOf,h1,h2,h3]
section
variable {d p c:Nat}{st:List (Nat×List V)}{wd:List Nat}
theorem AS(h2:ρ 2=some (.s wd))(h3:ρ 3=some (.s [c]))(h:wd=[]∨nh c):ai d 11 xY ρ σ .n ρ σ:=by
 refine bC (σ₁:=σ) ?_ aP
 by_cases hc:nh c
 ·exact lL (aY (af h3) aq (by refine(?_:some _=_);rw[Qo hc]) (show dI .i _ from trivial))
 ·have hw:wd=[]:=h.resolve_right hc
  subst hw
  have hs:gd [c] [40,41,32]=true:=by
   by_cases h1:c=40
   ·subst h1;rfl
   ·by_cases h2:c=41
    ·subst h2;rfl
    ·by_cases h3:c=32
     ·subst h3;rfl
     ·exact absurd ⟨h1,h2,h3⟩ hc
  exact j9 (aY (af h3) aq (by refine(?_:some _=_);rw[hs]) (show dI .i _ from trivial)) (aY (af h2) aq rfl (Xw _))
theorem GX(l:List α)(x:α):(dS (-1) (l++[x]).length).bind ((l++[x])[·]?)=some x:=by
 have h:dS (-1) (l++[x]).length=some l.length:=by
  unfold dS
  rw[XC (by decide),Xz (by simp;lia)]
  congr 1
  simp;lia
 rw[h];simp
theorem vE{a b:List Nat}:gX σ .e (.s a) (.s b)=some (decide (a=b)):=rfl
theorem BD{t:Nat}(P:eA p N (st++[(t,vs)]) wd ρ σ):σ[p]? =some (.l (st.map (λx=>V.r x.1)++[.r t]))/\σ[t]? =some (.l vs)/\p≠t/\(∀x∈st,x.1≠t/\x.1≠p):=by
 refine Ie (by rw[P.oy];simp) (P.ko (t,vs) (by simp)) ?_ (λx hx=>?_)
 ·have:=P.nd;simp only[Yc,XD,YN,Zg,List.mem_append,YA,not_or]at this;exact this.1.2
 ·have:=P.nd
  rw[Zg]at this
  refine ba this ?_;clear this;intro h1 h2
  rw[Yc,List.nodup_append]at h2
  refine bm (h2.2.2 x.1 (Y8 hx) t (by simp)) (λe=>h1 ?_)
  rw[<-e,Yc];exact YG _ (Y8 hx)
theorem eA.MQ{t:Nat}{vs':List V}{wd':List Nat}(P:eA p N (st++[(t,vs)]) wd ρ σ)(hN:N<=M)(hl:vs'.length<=M)(hw:wd'.length<=M)(e1:ρ' 1=some (.r p))(e2:ρ' 2=some (.s wd')):
  eA p M (st++[(t,vs')]) wd' ρ' (σ.set t (.l vs')):=by
 refine kN (BD P) λh1 h2 h3 h4=>?_
 refine⟨?_,λx hx=>?_,by have:=P.nd;simpa using this,e1,e2,by have:=P.n1;simp at *;exact qT this hN,λx hx=>?_,hw⟩
 ·rw[aV (Yv h3),h1];simp
 ·rcases XM hx with hx |hx
  ·rw[aV (Yv (h4 x hx).1)];exact P.ko x (YG _ hx)
  ·rw[YA]at hx;subst hx;exact cS h2
 ·rcases XM hx with hx |hx
  ·exact Xs (P.n2 x (YG _ hx)) hN
  ·rw[YA]at hx;subst hx;exact hl
theorem PW{t:Nat}(P:eA p N (st++[(t,vs)]) wd ρ σ)(h3:ρ 3=some (.s [c]))(hc:gd [c] [40,41,32]=true)(hw:wd≠[])(hN:N+1<=aK):
  ai d 11 xY ρ σ .n (au ρ 2 (.s [])) (σ.set t (.l (vs++[.s wd]))):=by
 refine kN (BD P) λh1 h2 _ _=>?_
 have o1:aD vs:=Xs (P.n2 (t,vs) (by simp)) (bT hN)
 refine cX (σ₁:=σ) (j9 (aY (af h3) aq (by refine(?_:some _=_);rw[hc]) (show dI .i _ from trivial)) (aY (af P.Wj) aq (by refine(?_:some _=_);simp[hw]) (Xw _)))
  (ao (dv (v:=.n) ?_) (Xp (bh aq bc)))
 exact dp (bi (af P.Wd) aq (dL h1 (bg rfl) (GX _ _))) (eI h2 rfl) (Xo (af P.Wj)) rfl (ph h2 o1)
noncomputable def m9(vs:List V)(wd:List Nat):List V:=if wd=[]then vs else vs++[.s wd]
theorem GK{t:Nat}(P:eA p N (st++[(t,vs)]) wd ρ σ)(h3:ρ 3=some (.s [c]))(hc:gd [c] [40,41,32]=true)(hN:N+1<=aK):
  ∃ρ' σ',ai d 11 xY ρ σ .n ρ' σ'/\eA p (N+1) (st++[(t,m9 vs wd)]) [] ρ' σ'/\iV [t] σ σ'/\ρ' 3=some (.s [c]):=by
 by_cases hw:wd=[]
 ·subst hw
  refine di ρ σ (AS P.Wj h3 (.inl rfl)) ?_ (λ_ _ h _=>h) h3
  exact⟨P.oy,P.ko,P.nd,P.Wd,P.Wj,by have:=P.n1;simp at *;exact bT this,λx hx=>YV (P.n2 x hx),Xw _⟩
 ·have hv:=P.n2 (t,vs) (by simp)
  refine di _ _ (PW P h3 hc hw hN) ?_ (My (XH ..)) (by rw[bR _ _ (by decide)];exact h3)
  unfold m9
  rw[XC hw]
  exact P.MQ (Yp _) (by simp at hv ⊢;exact hv) (Xw _) (by rw[bR _ _ (by decide)];exact P.Wd) (bw _ _ _)
theorem vK{k:List Nat}(h3:ρ 3=some (.s [c]))(h:c≠k.headD 0)(hk:k=[k.headD 0]):Ev d 30 (.p .e (.v 3) (.c (.s k))) ρ σ (.b false) σ:=by
 refine iN h3 ?_
 rw[hk];simp only[decide_eq_false_iff_not,List.cons.injEq,and_true];exact h
theorem KC{k:List Nat}(h3:ρ 3=some (.s [c]))(h:c≠k.headD 0)(hk:k=[k.headD 0]):Ev d 29 (.p .e (.v 3) (.c (.s k))) ρ σ (.b false) σ:=by
 refine aY (af h3) aq ?_ (Xw _)
 rw[hk,vE];congr 1;simp only[decide_eq_false_iff_not,List.cons.injEq,and_true];exact h
theorem w3(h:ai d 11 xY ρ σ .n ρ' σ')(h2:ai d 11 Sk ρ' σ' fl ρ'' σ''):ae d 11 nG ρ σ fl ρ'' σ'':=by
 cases fl with
 |n=>exact ao h (Xp h2)
 |r v=>exact ao h (be h2)
theorem Kj{t:Nat}(P:eA p N (st++[(t,vs)]) wd ρ σ)(hN:N+1<=aK):
  ∃ρ' σ',ae d 11 nG (au ρ 3 (.s [32])) σ .n ρ' σ'/\eA p (N+1) (st++[(t,m9 vs wd)]) [] ρ' σ'/\iV [t] σ σ':=by
 have P':eA p N (st++[(t,vs)]) wd (au ρ 3 (.s [32])) σ:=⟨P.oy,P.ko,P.nd,by rw[bR _ _ (by decide)];exact P.Wd,by rw[bR _ _ (by decide)];exact P.Wj,P.n1,P.n2,P.n3⟩
 refine dk (GK (d:=d) P' (bw _ _ _) rfl hN) λρ' σ' h1 h2 h3 h4=>?_
 refine dN ρ' σ' (w3 h1 ?_) h2 h3
 exact bC (vK h4 (by decide) rfl) (Xp (bC (lL (KC h4 (by decide) rfl)) (Xp (bC (vK h4 (by decide) rfl) (Xp (bC (aY (af h4) aq rfl (Xw _)) aP))))))
theorem UI(P:eA p N st wd ρ σ)(hc:nh c)(hN:N+1<=aK):
  ∃ρ',ae d 11 nG (au ρ 3 (.s [c])) σ .n ρ' σ/\eA p (N+1) st (wd++[c]) ρ' σ:=by
 have h3:(au ρ 3 (.s [c])) 3=some (.s [c]):=bw _ _ _
 have h2:(au ρ 3 (.s [c])) 2=some (.s wd):=by rw[bR _ _ (by decide)];exact P.Wj
 have hw:=P.n3
 refine aC (au (au ρ 3 (.s [c])) 2 (.s (wd++[c]))) (w3 (AS h2 h3 (.inr hc)) ?_) (⟨P.oy,P.ko,P.nd,?_,bw _ _ _,YV P.n1,λx hx=>YV (P.n2 x hx),by simp;exact hw⟩)
 ·refine bC (vK h3 hc.1 rfl) (Xp (bC (lL (KC h3 hc.2.1 rfl)) (Xp (bC (vK h3 hc.2.1 rfl) (Xp (cX (σ₁:=σ) (aY (af h3) aq ?_ (Xw _)) (Xp (bh (bX (af h2) (af h3) (nJ (by unfold aD;simp;exact qT (qR hw) hN))) bc))))))))
  refine(?_:some (!decide ([c]=[32]))=some true)
  simp[hc.2.2]
 ·rw[bR _ _ (by decide),bR _ _ (by decide)];exact P.Wd
theorem UH(P:eA p N st [] ρ σ)(hN:N+1<=aK):
  ∃ρ' σ',ae d 11 nG (au ρ 3 (.s [40])) σ .n ρ' σ'/\eA p (N+1) (st++[(σ.length,[])]) [] ρ' σ'/\iV [p] σ σ'/\σ.length<=σ'.length:=by
 have h3:(au ρ 3 (.s [40])) 3=some (.s [40]):=bw _ _ _
 have h1:(au ρ 3 (.s [40])) 1=some (.r p):=by rw[bR _ _ (by decide)];exact P.Wd
 have h2:(au ρ 3 (.s [40])) 2=some (.s []):=by rw[bR _ _ (by decide)];exact P.Wj
 have hp:=P.oy
 have hn1:=P.n1
 have pl:=(XZ hp).1
 have o1:aD (st.map λx:Nat×List V=>V.r x.1):=by unfold aD;simp;exact qT hn1 (bT hN)
 have hp':(σ++[O.l []])[p]? =some (.l (st.map λx:Nat×List V=>V.r x.1)):=bO _ _ hp
 refine di (au ρ 3 (.s [40])) ((σ++[O.l []]).set p (O.l ((st.map λx:Nat×List V=>V.r x.1)++[V.r σ.length]))) (w3 (AS h2 h3 (.inl rfl)) ?_) ?_ (λi o hi hn=>?_) (by simp)
 ·refine cX (sZ h3) (Xp (dv (v:=.n) ?_))
  exact dp (af h1) (eI hp rfl) (Xo (du ac.an)) (uW hp hp') (ph hp' o1)
 ·refine⟨by rw[cS hp'];simp,λx hx=>?_,?_,h1,h2,by simp;exact hn1,λx hx=>?_,Xw _⟩
  ·rcases XM hx with hx |hx
   ·have hne:p≠x.1:=λe=>by
     have:=P.nd;rw[Zg]at this
     exact this.1 (by rw[e];exact Y8 hx)
    rw[aV hne];exact bO _ _ (P.ko x hx)
   ·rw[YA]at hx;subst hx
    rw[aV (by simp only;exact gN pl)];exact aX
  ·have:=P.nd
   rw[Yc,<-Zb,List.nodup_append]
   refine fA this (by simp) (λa ha b hb e=>?_)
   simp only[XD,YN,YA]at hb
   subst hb;subst e
   rcases XL ha with h |h
   ·lia
   ·refine az (Yf h) λx hx e=>?_
    have:=(XZ (P.ko x hx)).1
    exact Cv this e
  ·rcases XM hx with hx |hx
   ·exact YV (P.n2 x hx)
   ·rw[YA]at hx;subst hx;exact Xw _
 ·rw[aV λe=>hn (by rw[e];exact XH ..)];exact bO _ _ hi
theorem UG{b t:Nat}(P:eA p N (st++[(b,us)]++[(t,vs)]) wd ρ σ)(hN:N+2<=aK):
  ∃ρ' σ',ae d 11 nG (au ρ 3 (.s [41])) σ .n ρ' σ'/\eA p (N+2) (st++[(b,us++[V.r t])]) [] ρ' σ'/\iV [p,b,t] σ σ'/\σ'[t]? =some (.l (m9 vs wd)):=by
 have P':eA p N (st++[(b,us)]++[(t,vs)]) wd (au ρ 3 (.s [41])) σ:=⟨P.oy,P.ko,P.nd,by rw[bR _ _ (by decide)];exact P.Wd,by rw[bR _ _ (by decide)];exact P.Wj,P.n1,P.n2,P.n3⟩
 refine dk (GK (d:=d) P' (bw _ _ _) rfl (jb hN)) λρ₁ σ₁ h1 Q k1 h3=>?_
 refine kN (BD Q) λq1 q2 q3 q4=>?_
 have hb:=q4 (b,us) (by simp)
 have hl:=Q.n1
 have o1:aD ((st++[(b,us)]).map (λx:Nat×List V=>V.r x.1)++[V.r t]):=by unfold aD;simp at hl ⊢;lia
 have hu:us.length<=N+1:=Q.n2 (b,us) (by simp)
 have o2:aD us:=by unfold aD;exact qT hu (jb hN)
 have e1:((st++[(b,us)]).map (λx:Nat×List V=>V.r x.1)++[V.r t]).dropLast=st.map (λx:Nat×List V=>V.r x.1)++[V.r b]:=by simp
 have g1:(σ₁.set p (O.l (st.map (λx:Nat×List V=>V.r x.1)++[V.r b])))[p]? =some (.l (st.map (λx:Nat×List V=>V.r x.1)++[V.r b])):=cS q1
 have g2:(σ₁.set p (O.l (st.map (λx:Nat×List V=>V.r x.1)++[V.r b])))[b]? =some (.l us):=by
  rw[aV (Yv hb.2)];exact Q.ko (b,us) (by simp)
 have hpop:Pr (dB 2 (.r p) [] σ₁) (.r t) (σ₁.set p (O.l (st.map (λx:Nat×List V=>V.r x.1)++[V.r b]))):=by
  have:=Co (v:=.r t) q1 (by simp) o1
  rw[e1]at this;exact this
 have r1:(au ρ₁ 4 (.r t)) 1=some (.r p):=by rw[bR _ _ (by decide)];exact Q.Wd
 have r2:(au ρ₁ 4 (.r t)) 2=some (.s []):=by rw[bR _ _ (by decide)];exact Q.Wj
 refine di (au ρ₁ 4 (.r t)) ((σ₁.set p (O.l (st.map (λx:Nat×List V=>V.r x.1)++[V.r b]))).set b (.l (us++[V.r t]))) (w3 h1 ?_) ?_ ?_ ?_
 ·refine bC (vK h3 (by decide) rfl) (Xp (cX (σ₁:=σ₁) (j9 (aY (af h3) aq rfl (Xw _)) (aY (ci rfl (Xo (af Q.Wd)) (fC q1 o1)) aq (by refine(?_:some _=some _);simp;exact nP) (show dI .g _ from trivial)))
   (ao (bh (dp (af Q.Wd) (eI q1 rfl) ac.an rfl hpop) bc) (Xp (dv (v:=.n) ?_)))))
  exact dp (bi (af r1) aq (dL g1 (bg rfl) (GX _ _))) (eI g2 rfl) (Xo (af (bw _ _ _))) rfl (ph g2 o2)
 ·refine⟨?_,λx hx=>?_,?_,r1,r2,by simp at hl ⊢;exact bT (d5 hl),λx hx=>?_,Xw _⟩
  ·rw[aV hb.2,g1];simp
  ·rcases XM hx with hx |hx
   ·have nb:b≠x.1:=λe=>by
     have:=Q.nd
     simp only[Yc,XD,YN,Zg,List.nodup_append]at this
     exact this.2.1.2.2 x.1 (Y8 hx) b (by simp) e.symm
    rw[aV nb,aV (Yv (q4 x (YG _ hx)).2)]
    exact Q.ko x (by simp[hx])
   ·rw[YA]at hx;subst hx;exact cS g2
  ·have:=Q.nd
   rw[Yc,<-Zb,List.nodup_append]at this
   simpa using this.1
  ·rcases XM hx with hx |hx
   ·have:=Q.n2 x (by simp[hx]);exact Jn this rfl
   ·rw[YA]at hx;subst hx;simp at hu ⊢;exact hu
 ·intro i o hi hn
  simp only[Yt,Ye,or_false,not_or]at hn
  rw[aV (Yv hn.2.1),aV (Yv hn.1)]
  exact k1 i o hi (by simp[hn.2.2])
 ·rw[aV hb.1,aV q3];exact q2
theorem eA.up(P:eA p N st wd ρ σ)(h:N<=M):eA p M st wd ρ σ:=⟨P.oy,P.ko,P.nd,P.Wd,P.Wj,Xs P.n1 h,λx hx=>Xs (P.n2 x hx) h,Xs P.n3 h⟩
noncomputable abbrev Ch(t:List Nat):List V:=t.map λc=>V.s [c]
noncomputable abbrev PF(d:Nat)(ys:List V)(t:List Nat)(ρ:aA)(σ:aj)(ρ':aA)(σ':aj):Prop:=bF d 11 (.v 3) nG (.bx ys) (Ch t) ρ σ .n ρ' σ'
theorem tZ(h:ae d 11 nG (au ρ 3 (.s [c])) σ .n ρ' σ'):PF d ys [c] ρ σ ρ' σ':=fc (S:=.bx ys) rfl h trivial fG
theorem rK{a b:List Nat}(h:PF d ys a ρ σ ρ' σ')(h2:PF d ys b ρ' σ' ρ'' σ''):PF d ys (a++b) ρ σ ρ'' σ'':=by
 unfold PF Ch at *
 rw[Yc];exact LN h h2
theorem IR{ys:List V}:∀(s:List Nat) {N:Nat} {wd:List Nat} {ρ:aA},eA p N st wd ρ σ->(∀c∈s,nh c)->N+s.length<=aK->∃ρ',PF d ys s ρ σ ρ' σ/\eA p (N+s.length) st (wd++s) ρ' σ
 | [],N,wd,ρ,P,_,_=>aC ρ (fG (S:=.bx ys)) (by simpa using P)
 |c::s,N,wd,ρ,P,hg,hl=>by
  simp only[Xy]at hl
  refine az (UI (d:=d) P (hg c (XH ..)) (bT (gj hl))) λρ₁ h1 P₁=>?_
  refine az (IR (ys:=ys) s P₁ (λx hx=>hg x (XI _ hx)) (gj hl)) λρ₂ h2 P₂=>?_
  refine aC ρ₂ (rK (tZ h1) h2) ?_
  rw[XU]at P₂
  exact P₂.up (by simp only[Xy];exact te x4)
mutual
theorem Cj{ys:List V}:∀(r:ar),r.good->∀{st:List (Nat×List V)} {t:Nat} {vs:List V} {ρ:aA} {σ:aj} {N:Nat},eA p N (st++[(t,vs)]) [] ρ σ->N+2 * r.text.length+2<=aK->
  ∃ρ' σ' us wd' v,PF d ys r.text ρ σ ρ' σ'/\eA p (N+2 * r.text.length) (st++[(t,us)]) wd' ρ' σ'/\iV (ik p (st++[(t,vs)])) σ σ'/\m9 us wd'=vs++[v]/\RR σ' (ik p (st++[(t,vs)])) r v
 | .w s,hg,st,t,vs,ρ,σ,N,P,hl=>by
  simp only[M9,ip,gV]at hg hl
  refine az (IR (d:=d) (ys:=ys) s P hg.2 (by lia)) λρ' h P'=>?_
  exact BW ρ' σ vs s (.s s) h (P'.up (by simp only[gV];lia)) (λ_ _ h _=>h) (by unfold m9;rw[XC hg.1]) (by simp only[oE])
 | .p l,hg,st,t,vs,ρ,σ,N,P,hl=>by
  simp only[M',ig,Xv,Xy,XY]at hg hl
  refine dk (UH (d:=d) P (x7 pn hl rfl)) λρ₁ σ₁ h1 P₁ k1 z1=>?_
  refine ve (IQ (ys:=ys) l hg P₁ (JO hl)) λρ₂ σ₂ us wd vs' h2 P₂ k2 fl rr=>?_
  refine dk (UG (d:=d) P₂ (JO hl)) λρ₃ σ₃ h3 P₃ k3 g3=>?_
  rw[fl,X0]at g3
  have hD:σ.length∉ik p (st++[(t,vs)]):=λhm=>by
   have:=P₁.nd
   rw[Yc,<-Zb,List.nodup_append]at this
   exact this.2.2 _ hm _ (XH ..) rfl
  have sub:∀a∈ik p (st++[(t,vs)]),a∈ik p (st++[(t,vs)]++[(σ.length,[])]):=λa ha=>by
   unfold ik at *
   rw[Yc (l₁:=st++[(t,vs)]),<-Zb];exact YG _ ha
  have sub3:∀a∈[p,t,σ.length],a∈ik p (st++[(t,vs)]++[(σ.length,[])]):=λa ha=>by
   simp only[Yt,Ye,or_false]at ha
   rcases ha with rfl |rfl |rfl<;>simp
  have tx:(ar.p l).text=[40]++cy [32] (ar.texts l)++[41]:=rfl
  refine BW ρ₃ σ₃ (vs++[.r σ.length]) ([]) (.r σ.length) ?_ (P₃.up (by rw[tx];simp only[Xv,Xy,XY];lia)) (λi o hi hn=>?_) (by unfold m9;rw[Xz rfl]) ?_
  ·rw[tx]
   exact rK (rK (tZ h1) h2) (tZ h3)
  ·have lt:=(XZ hi).1
   have n1:i∉ik p (st++[(t,vs)]++[(σ.length,[])]):=λhm=>by
    unfold ik at *
    rw[Yc (l₁:=st++[(t,vs)]),<-Zb]at hm
    rcases XM hm with h |h
    ·exact hn h
    ·simp only[XD,YN,YA]at h;exact Cv lt h
   exact k3 i o (k2 i o (k1 i o hi λhm=>hn (by rw[YA]at hm;rw[hm];exact XH ..)) n1) λhm=>n1 (sub3 i hm)
  ·simp only[rS]
   exact di σ.length vs' rfl hD g3 (dc.mono sub (λi o hi hn=>k3 i o hi λhm=>hn (sub3 i hm)) l rr)
theorem IQ{ys:List V}:∀(l:List ar),ar.goods l->∀{st:List (Nat×List V)} {t:Nat} {vs:List V} {ρ:aA} {σ:aj} {N:Nat},eA p N (st++[(t,vs)]) [] ρ σ->N+2 * (cy [32] (ar.texts l)).length+2<=aK->
  ∃ρ' σ' us wd' vs',PF d ys (cy [32] (ar.texts l)) ρ σ ρ' σ'/\eA p (N+2 * (cy [32] (ar.texts l)).length) (st++[(t,us)]) wd' ρ' σ'/\iV (ik p (st++[(t,vs)])) σ σ'/\m9 us wd'=vs++vs'/\dc σ' (ik p (st++[(t,vs)])) l vs'
 | [],_,st,t,vs,ρ,σ,N,P,_=>BW ρ σ vs ([]) ([]) (fG (S:=.bx ys)) (by simpa [p9,Bv]using P) (λ_ _ h _=>h) (by unfold m9;simp) (by simp only[oF])
 | [r],hg,st,t,vs,ρ,σ,N,P,hl=>by
  simp only[Ek,El,p9,lZ,oZ]at hg hl ⊢
  refine ve (Cj (ys:=ys) r hg.1 P hl) λρ' σ' us wd' v h1 P' k fl rr=>?_
  exact⟨ρ',σ',us,wd',[v],h1,P',k,fl,v,[],rfl,rr,rfl⟩
 |r::q::l,hg,st,t,vs,ρ,σ,N,P,hl=>by
  have tx:cy [32] (ar.texts (r::q::l))=r.text++[32]++cy [32] (ar.texts (q::l)):=rfl
  rw[tx]at hl ⊢
  simp only[Xv,Xy,XY]at hl
  refine ve (Cj (ys:=ys) r hg.1 P (by lia)) λρ₁ σ₁ us₁ wd₁ v h1 P₁ k1 fl rr=>?_
  refine cP (Kj (d:=d) P₁ (by lia)) λρ₂ σ₂ h2 P₂ k2=>?_
  rw[fl]at P₂
  refine ve (IQ (ys:=ys) (q::l) hg.2 P₂ (by lia)) λρ₃ σ₃ us wd vs' h3 P₃ k3 fl3 rr3=>?_
  have ad:∀ws:List V,ik p (st++[(t,ws)])=ik p (st++[(t,vs)]):=λws=>by simp[ik]
  rw[ad]at k3 rr3
  have ht:t∈ik p (st++[(t,vs)]):=by simp
  have k2':iV (ik p (st++[(t,vs)])) σ₁ σ₂:=λi o hi hn=>k2 i o hi λhm=>by rw[YA]at hm;exact hn (hm▸ht)
  refine⟨ρ₃,σ₃,us,wd,v::vs',rK (rK h1 (tZ h2)) h3,P₃.up (by simp only[Xv,Xy,XY];lia),(k1.ze k2').ze k3,by rw[fl3];simp,v,vs',rfl,?_,rr3⟩
  exact RR.mono (λ_ h=>h) (k2'.ze k3) r rr
end
theorem Jd{α:Type}:∀{l l':List α},(∀(i:Nat) (x:α),l[i]? =some x->l'[i]? =some x)->l <+:l'
 | [],_,_=>List.nil_prefix
 |x::l,[],h=>by have:=h 0 x rfl;simp at this
 |x::l,y::l',h=>by
  have h0:=h 0 x rfl
  simp at h0;subst h0
  exact List.cons_prefix_cons.mpr ⟨rfl,Jd λi z hz=>by have:=h (i+1) z (by simpa using hz);simpa using this⟩
theorem TL(d:Nat)(l:List ar)(hg:ar.goods l)(hl:2 * (ar.p l).text.length+10<=aK)(σ:aj):
  ∃(σ':aj) (v:V),aL (d+1) 46 [.s (ar.p l).text] σ v σ'/\RR σ' [] (.p l) v/\σ <+:σ':=by
 let a:=σ.length
 let σ₁:aj:=σ++[.l []]++[.l [.r σ.length]]
 let p:=(σ++[O.l []]).length
 let ρ₁:aA:=au (au (bf [.s (ar.p l).text]) 1 (.r p)) 2 (.s [])
 have P:eA p 1 ([]++[(σ.length,[])]) [] ρ₁ σ₁:=⟨aX,λx hx=>by
   simp only[X0,YA]at hx;subst hx;exact bO _ _ aX,by simp[p],rfl,rfl,by simp,λx hx=>by
   simp only[X0,YA]at hx;subst hx;simp,by simp⟩
 refine ve (Cj (d:=d) (ys:=Ch ((ar.p l).text++[32])) (.p l) hg P (Jp (vq hl rfl))) λρ₂ σ₂ us wd v h2 P₂ k2 fl rr=>?_
 refine cP (Kj (d:=d) P₂ (Jp (vq hl rfl))) λρ₃ σ₃ h3 P₃ k3=>?_
 rw[fl,X0]at P₃
 have t1:=P₃.ko (σ.length,[v]) (by simp)
 have t0:σ₃[p]? =some (.l [V.r σ.length]):=P₃.oy
 have ha:ik p ([]++[(σ.length,([]:List V))])=[p,σ.length]:=rfl
 rw[ha]at k2 rr
 have k3':iV [p,σ.length] σ₂ σ₃:=λi o hi hn=>k3 i o hi λhm=>hn (XI _ hm)
 have o1:aD ([V.r σ.length]):=by unfold aD aK;simp
 have o2:aD ([v]):=by unfold aD aK;simp
 have o3:aD ((ar.p l).text++[32]):=by unfold aD;simp;lia
 refine dN σ₃ v ?_ (RR.mono (λ_ h=>by cases h) (λi o hi hn=>k3' i o hi hn) _ rr) (Jd λi o hi=>?_)
 ·refine cI (f:=AL) rfl rfl (ao (bh (bI (ac.ah (du (Xo (du ac.an))) (Xo aq))) (gR rfl rfl (da bc (da bc gS))))
   (ao (fg (S:=.bx (Ch ((ar.p l).text++[32]))) (D0 (s:=(ar.p l).text++[32]) (bX (af rfl) aq (nJ o3)) o3) (rK h2 (tZ h3)))
    (be (bM (jD (σ₁:=σ₃) (j9 (σ₁:=σ₃) (aY (u:=.i 1) (σ₁:=σ₃) (ci rfl (Xo (af P₃.Wd)) (fC t0 o1)) aq rfl (Xw _)) (aY (u:=.i 1) (ci rfl (Xo (bi (af P₃.Wd) aq (dL t0 (bg rfl) rfl))) (fC t1 o2)) aq rfl (Xw _)))
     (bi (bi (af P₃.Wd) aq (dL t0 (bg rfl) rfl)) aq (dL t1 (bg rfl) rfl)))))))
 ·have lt:=(XZ hi).1
  have nm:i∉[p,σ.length]:=λhm=>by
   simp only[Yt,Ye,or_false,p,Xv,Xy,XY]at hm
   lia
  exact k3' i o (k2 i o (bO _ _ (bO _ _ hi)) nm) nm
end
theorem dc.zip{α:Type}{σ:aj}{S:List Nat}(f:α->ar):∀(ts:List α) {vs:List V},dc σ S (ts.map f) vs->∃l:List (α×V),l.map (·.1)=ts/\l.map (·.2)=vs/\∀x∈l,RR σ S (f x.1) x.2
 | [],vs,h=>by simp only[YN,oF]at h;subst h;exact dK ([]) rfl rfl (λ_ h=>by cases h)
 |t::ts,vs,h=>by
  simp only[XD,jN]at h
  refine cP h ?_;clear h;intro v us q2 h1 h2;subst q2
  refine c8 (dc.zip f ts h2) λl e1 e2 e3=>?_
  exact dK ((t,v)::l) (by simp[e1]) (by simp[e2]) (λx hx=>by rcases XL hx with rfl |hx;exact h1;exact e3 x hx)
theorem NO(ts:List Tm):Tm.raws ts=ts.map Tm.raw:=by induction ts<;>simp_all [NN,zR]
theorem RR.mT(l:aj){S:List Nat}{r:ar}{v:V}(h:RR σ S r v):RR (σ++l) S r v:=RR.mono (λ_ h=>h) (λi o hi _=>bO _ _ hi) r h
mutual
theorem Tm.lo_enc(m:Nat):∀t:Tm,t.enc.lo m=true
 | .bS op kids=>by simp only[uq,oO,qk,iJ,Bool.true_and];exact Tm.lo_encs m kids
theorem Tm.lo_encs(m:Nat):∀ts:List Tm,V.loAll m (Tm.encs ts)=true
 | []=>rfl
 |t::ts=>by simp only[EN,iJ,Tm.lo_enc m t,Tm.lo_encs m ts,Bool.and_self]
end
mutual
theorem Pp.lo_enc(m:Nat):∀p:Pp,p.enc.lo m=true
 | .cR w=>rfl
 | .cZ t=>by simp only[D4,oO,qk,jU,iJ,Tm.lo_enc,Bool.and_self]
 | .db w ps=>by
  simp only[D5,oO,qk,jU,iJ,Bool.true_and,Bool.and_true]
  induction ps with
  |nil=>rfl
  |cons x ps ih=>simp only[XD,jU,iJ,oO,qk,Tm.lo_enc,ih,Bool.and_self]
 | .cH p=>by simp only[D7,oO,qk,jU,iJ,Pp.lo_enc m p,Bool.and_self]
 | .bG a b=>by simp only[MU,oO,qk,jU,iJ,Pp.lo_enc m a,Pp.lo_enc m b,Bool.and_self]
 | .cD w ps=>by simp only[rL,oO,qk,jU,iJ,Pp.lo_encs m ps,Bool.and_self]
theorem Pp.lo_encs(m:Nat):∀ps:List Pp,V.loAll m (Pp.encs ps)=true
 | []=>rfl
 |p::ps=>by simp only[D9,iJ,Pp.lo_enc m p,Pp.lo_encs m ps,Bool.and_self]
end
theorem CF:∀(d:Nat) (t:Tm),t.dep<=d->t.sz<=aK->∀(σ:aj) (S:List Nat) (v:V),RR σ S t.raw v->aL d 47 [v] σ t.enc σ
 |0,.bS op kids,h,_,_,_,_,_=>by simp[r5]at h
 |d+1,.bS op [],h,hs,σ,S,v,r=>by
  simp only[NM,oE]at r;subst r
  exact fV (f:=AM) rfl rfl (be (bM (jD (σ₁:=σ) (Dl (af rfl) SD) (bI (Xo (af rfl)))))) (Yn _) rfl
 |d+1,.bS op (k::ks),h,hs,σ,S,v,r=>by
  have hk:=Tm.szs_len (k::ks)
  simp only[r5,oM]at h hs
  simp only[zQ]at r
  simp only[oE,rS,jN]at r
  obtain⟨a,vs,rfl,hS,ha,v0,us,rfl,hv0,r⟩:=r
  subst hv0
  rw[NO]at r
  refine c8 (dc.zip Tm.raw (k::ks) r) λl e1 e2 e3=>?_
  have el:l.length=(k::ks).length:=by rw[<-e1];simp
  have o1:aD (V.s op::us):=by rw[<-e2];unfold aD;simp only[Xy,Xr]at *;lia
  have o2:aD us:=by rw[<-e2];unfold aD;simp only[Xy,Xr]at *;exact JP el hk hs
  have o3:aD ((k::ks).map Tm.enc):=by unfold aD;simp only[Xy,Xr]at *;exact qT hk (cG hs)
  have o4:aD ([V.s op]++(k::ks).map Tm.enc):=by unfold aD;simp only[Xv,Xy,XY,Xr]at *;exact vu (pj hk hs rfl)
  have hit:=gJ (d:=d) (n:=26) (elt:=.l 47 [.v 1]) (tg:=.v 1) (ρ:=bf [.r a]) (σ:=σ++[O.l us]) (S:=.cr σ.length us) (λ_=>rfl) (λ_=>aX) (λx:Tm×V=>x.2) (λx=>x.1.enc) l
   (λx hx=>aC _ rfl (cw (Xo (af rfl)) (CF d x.1 (by
    have:x.1∈k::ks:=by rw[<-e1];exact Y8 hx
    have:=Tm.deps_mem this;exact qT this (jc h)) (by
    have:x.1∈k::ks:=by rw[<-e1];exact Y8 hx
    have:=Tm.szs_mem this;exact qT this (cG hs)) _ S x.2 ((e3 x hx).mT _)))) [] (by rw[X0,e2];exact o2)
  have e4:l.map (λx=>x.1.enc)=(k::ks).map Tm.enc:=by rw[<-e1,XV];rfl
  rw[e2,X0,e4]at hit
  have he:(Tm.bS op (k::ks)).enc=.t ([V.s op]++(k::ks).map Tm.enc):=by simp only[uq,oL];rfl
  rw[he]
  refine fV (f:=AM) rfl rfl (be (bM (jh (σ₁:=σ) (Dl (af rfl) (SB ha)) (bX (bI (Xo (bi (af rfl) aq (dL ha (bg rfl) rfl))))
   (ci rfl (Xo (dU (fe (ji (af rfl) aq (sX ha (by simp only[aD,dz,bY,aK,Xv,Xy,XY,Xr]at *;lia) o1)) aX o2) hit)) (j3 aX o3)) (vk o4))))) (by repeat first |exact Yn _ |apply iz) ?_
  rw[<-he];exact Tm.lo_enc _ _
theorem Pp.fold:∀p:Pp,p.right.foldl Pp.bG p.left=p
 | .cR _ | .cZ _ | .db _ _ | .cH _ | .cD _ _=>rfl
 | .bG a b=>by simp only[wz,pU,List.foldl_append,List.foldl_cons,List.foldl_nil,Pp.fold a]
theorem J0{d q:Nat}{ws:List V}:∀(l:List (Pp×V)) (acc:Pp) (ρ:aA) (σ:aj),ρ 3=some acc.enc->σ[q]? =some (.l ws)->(∀x∈l,aL d 48 [x.2] σ x.1.enc σ)->
  ∃ρ',bF d 11 (.v 4) [.a (.v 3) (.t [(.c (.s [106,111,105,110])),(.v 3),(.l 48 [(.v 4)])])] (.cr q ws) (l.map (·.2)) ρ σ .n ρ' σ/\ρ' 3=some ((l.map (·.1)).foldl Pp.bG acc).enc/\ρ' 1=ρ 1
 | [],acc,ρ,σ,h3,hq,_=>dK ρ fG h3 rfl
 |x::l,acc,ρ,σ,h3,hq,h=>by
  refine c8 (J0 l (.bG acc x.1) (au (au ρ 4 x.2) 3 (Pp.bG acc x.1).enc) σ (bw _ _ _) hq λy hy=>h y (XI _ hy)) λρ' h1 h2 h4=>?_
  refine dK ρ' (fc (S:=.cr q ws) rfl (Xp (bh (v:=(Pp.bG acc x.1).enc) (bI (ac.ah aq (ac.ah (af (by rw[bR _ _ (by decide)];exact h3)) (Xo (cw (Xo (af (bw _ _ _))) (h x (XH ..))))))) bc)) hq h1) h2 (by rw[h4,bR _ _ (by decide),bR _ _ (by decide)])
theorem fD{d i:Nat}{k c:List Nat}(h:ρ i=some (.s k))(b:Bool)(hb:decide (k=c)=b):Ev d 30 (.p .e (.v i) (.c (.s c))) ρ σ (.b b) σ:=aY (af h) aq (by refine(?_:some _=_);rw[hb]) (Xw _)
theorem rR{S:List Nat}{k:List Nat}{l:List ar}{v:V}(h:RR σ S (.p (.w k::l)) v):∃a us,v=.r a/\σ[a]? =some (.l (.s k::us))/\dc σ S l us:=by
 simp only[oE,rS,jN]at h
 obtain⟨a,vs,rfl,_,ha,v0,us,rfl,hv0,r⟩:=h
 subst hv0
 exact dN a us rfl ha r
theorem tm{d:Nat}{a:Nat}{k:List Nat}(ha:σ[a]? =some (.l (.s k::us)))(hl:us.length < aK){w:V}
  (h:ae d 12 (xp.dZ.drop 1) (au (au (bf [.r a]) 1 (.s k)) 2 (.r σ.length)) (σ++[.l us]) (.r w) ρ' σ') (hp:σ++[.l us] <+:σ') (hw:w.lo σ.length=true):aL (d+1) 48 [.r a] σ w σ:=by
 have o1:aD (V.s k::us):=by unfold aD;simp only[Xy];exact hl
 have h':=h
 simp only[xp,List.drop_succ_cons,List.drop_zero]at h'
 refine fV (f:=xp) rfl rfl (ao (bh (v:=.t [.s k,.r σ.length]) (σ₁:=σ++[.l us]) (bI (ac.ah (bi (af rfl) aq (dL ha (bg rfl) rfl)) (Xo (ji (af rfl) aq (sX ha (by simp only[aD,dz,bY,aK,Xv,Xy,XY,Xr]at *;lia) o1)))))
  (gR rfl rfl (da bc (da bc gS)))) h') ((Yk _ _).trans hp) hw
theorem dc.len{σ:aj}{S:List Nat}:∀{l:List ar} {vs:List V},dc σ S l vs->vs.length=l.length
 | [],vs,h=>by simp only[oF]at h;subst h;rfl
 |r::l,vs,h=>by
  simp only[jN]at h
  refine cP h ?_;clear h;intro v us q2 _ h2;subst q2
  simp[dc.len h2]
theorem VD(m:aj){S:List Nat}{l:List ar}(h:dc σ S l vs):dc (σ++m) S l vs:=dc.mono (λ_ h=>h) (λi o hi _=>bO _ _ hi) l h
theorem dc.pairs{σ:aj}{S:List Nat}:∀(ps:List (List Nat×Tm)) {vs:List V},dc σ S (ps.flatMap λx=>[ar.w x.1,x.2.raw]) vs->
  vs.length=2 * ps.length/\∀(i:Nat) (x:List Nat×Tm),ps[i]? =some x->vs[2 * i]? =some (.s x.1)/\∃u,vs[2 * i+1]? =some u/\RR σ S x.2.raw u
 | [],vs,h=>by simp only[List.flatMap_nil,oF]at h;subst h;exact bm rfl (λi x h=>by simp at h)
 |y::ps,vs,h=>by
  simp only[List.flatMap_cons,Zb,X0,jN]at h
  obtain⟨v,us,rfl,h1,u,ws,rfl,h2,h3⟩:=h
  simp only[oE]at h1;subst h1
  refine ba (dc.pairs ps h3) λe1 e2=>?_
  refine bm (by simp[e1];lia) (λi x hx=>?_)
  cases i with
  |zero=>simp at hx;subst hx;exact⟨rfl,u,rfl,h2⟩
  |succ i=>
   simp only[List.getElem?_cons_succ]at hx
   obtain⟨a1,b,a2,a3⟩:=e2 i x hx
   refine⟨?_,b,?_,a3⟩
   ·rw[show 2 * (i+1)=2 * i+1+1 by lia];simpa using a1
   ·rw[show 2 * (i+1)+1=2 * i+1+1+1 by lia];simpa using a2
theorem Kq{α:Type}(f:α->Nat)(hf:∀x,4<=f x):∀(l:List α),4 * l.length<=(l.map f).sum
 | []=>by simp
 |y::l=>by have:=Kq f hf l;have:=hf y;rw[XD,Yq,Xy];lia
theorem vA:∀(d:Nat) (P:Pp),P.dep<=d->P.sz<=aK->∀(σ:aj) (S:List Nat) (v:V),RR σ S P.cQ v->aL d 48 [v] σ P.enc σ
 |0,P,h,_,_,_,_,_=>by cases P<;>simp[wu,pS,pT,oA,kq,oC]at h
 |d+1,.cR w,h,hs,σ,S,v,r=>by
  obtain⟨a,us,rfl,ha,r⟩:=rR (k:=mw) (l:=[.w w]) r
  simp only[oF,jN,oE]at r
  refine cP r ?_;clear r;intro v1 us q2 hv1 q4;subst q2;subst q4
  subst hv1
  refine tm ha (by refine(?_:1 < aK);unfold aK;decide) (be (cX (fD rfl true rfl) (be (bM (bI (ac.ah aq (Xo (bi (af rfl) aq (dL aX (bg rfl) rfl))))))))) (Yn _) rfl
 |d+1,.cZ t,h,hs,σ,S,v,r=>by
  obtain⟨a,us,rfl,ha,r⟩:=rR (k:=i6) (l:=[t.raw]) r
  simp only[oF,jN]at r
  refine cP r ?_;clear r;intro v1 us q2 hv1 q4;subst q2;subst q4
  refine tm ha (by refine(?_:1 < aK);unfold aK;decide) (ao (bC (fD rfl false rfl) aP) (be (cX (fD rfl true rfl) (be (bM (bI (ac.ah aq (Xo (cw (Xo (bi (af rfl) aq (dL aX (bg rfl) rfl)))
   (CF d t (by simp only[pS]at h;exact jc h) (by simp only[rN]at hs;exact bT hs) _ S v1 (hv1.mT _))))))))))) (Yn _) (Pp.lo_enc _ (.cZ t))
 |d+1,.db w ps,h,hs,σ,S,v,r=>by
  have hl:ps.length<=(ps.map λx=>x.1.length+x.2.sz+5).sum:=yq _ (λx=>gh) ps
  simp only[pT,pV]at h hs
  obtain⟨a,us,rfl,ha,r⟩:=rR (k:=fQ) (l:=.w w::ps.flatMap λx=>[.w x.1,x.2.raw]) r
  simp only[jN]at r
  obtain⟨v1,us,rfl,hv1,r⟩:=r
  simp only[oE]at hv1;subst hv1
  refine ba (dc.pairs ps r) λul gi=>?_
  have hs5:=Kq (λx:List Nat×Tm=>x.1.length+x.2.sz+5) (λx=>gh) ps
  have o1:aD (V.s w::us):=by unfold aD;simp only[Xy];lia
  have o3:aD (ps.map dG):=by unfold aD;simp only[Xr];exact qT hl (cG hs)
  have er:df 1 (V.s w::us).length 2=(List.range ps.length).map λk:Nat=>V.i (1+2 * (k:Int)):=by
   unfold df
   have:(((V.s w::us).length - 1+2 - 1:Int) / 2).toNat=ps.length:=by simp only[Xy,ul];lia
   rw[this]
  have hit:=gJ (d:=d) (n:=27) (elt:=.t [(.s (.v 2) (.v 5)),(.l 47 [(.s (.v 2) (.i .a (.v 5) (.c (.i 1))))])]) (tg:=.v 5) (ρ:=au (au (bf [.r a]) 1 (.s fQ)) 2 (.r σ.length)) (σ:=σ++[O.l (.s w::us)]) (S:=.bx (df 1 (V.s w::us).length 2)) (λ_=>rfl) (λ_=>trivial)
   (λk:Nat=>V.i (1+2 * (k:Int))) (λk=>match ps[k]? with |some x=>dG x |Option.none=>.n) (List.range ps.length)
   (λk hk=>by
    have hk':=YB hk
    have hx:ps[k]? =some ps[k]:=Yu hk'
    have hm:ps[k]∈ps:=List.getElem_mem hk'
    have hd:=AV (λx:List Nat×Tm=>x.2.dep) hm
    have hz:=CS (λx:List Nat×Tm=>x.1.length+x.2.sz+5) hm
    try simp only at hd hz
    obtain⟨g1,u,g2,g3⟩:=gi k _ hx
    rw[hx]
    have b1:dz (1+2 * (k:Int)):=by unfold dz bY;have:aK=1000000:=rfl;lia
    have b2:dz (1+2 * (k:Int)+1):=by unfold dz bY;have:aK=1000000:=rfl;lia
    have i1:(dS (1+2 * (k:Int)) (V.s w::us).length).bind ((V.s w::us)[·]?)=some (.s ps[k].1):=by
     unfold dS
     rw[Xz (by exact Jq (cG iO))]
     have:(1+2 * (k:Int)).toNat=2 * k+1:=by lia
     simp only[Option.bind_some,this,List.getElem?_cons_succ];exact g1
    have i2:(dS (1+2 * (k:Int)+1) (V.s w::us).length).bind ((V.s w::us)[·]?)=some u:=by
     unfold dS
     rw[Xz (by exact nP)]
     have:(1+2 * (k:Int)+1).toNat=2 * k+1+1:=by lia
     simp only[Option.bind_some,this,List.getElem?_cons_succ];exact g2
    exact aC (au (au (au (bf [.r a]) 1 (.s fQ)) 2 (.r σ.length)) 5 (.i (1+2 * (k:Int)))) rfl (bI (ac.ah (bi (af rfl) (af rfl) (dL aX b1 i1)) (Xo (cw (Xo (bi (af rfl) (bX (af rfl) aq iy) (dL aX b2 i2)))
     (CF d ps[k].2 (qT hd (jc h)) (JL hz hs) _ S u (g3.mT _))))))) [] (by unfold aD;simp;exact qT hl (cG hs))
  have e4:(List.range ps.length).map (λk=>match ps[k]? with |some x=>dG x |Option.none=>V.n)=ps.map dG:=by
   apply List.ext_getElem?
   intro i
   rw[Yy,Yy]
   by_cases hi:i < ps.length
   ·rw[List.getElem?_range hi,Yu hi];simp[hi]
   ·rw[List.getElem?_eq_none (by simp;exact x9 hi),List.getElem?_eq_none (by exact x9 hi)];rfl
  rw[<-er,X0,e4]at hit
  have hlo:=Pp.lo_enc σ.length (.db w ps)
  have lk:((V.s w::us).length:Int)<=aK:=by unfold aD at o1;exact Jq o1
  refine tm ha (by simp only[Xy];lia) (ao (bC (fD rfl false rfl) aP) (ao (bC (fD rfl false rfl) aP) (be (cX (fD rfl true rfl) (be (bM (bI (ac.ah aq (ac.ah (bi (af rfl) aq (dL aX (bg rfl) rfl))
   (Xo (ci rfl (Xo (dU (DZ (ac.ah aq (ac.ah (ci rfl (Xo (af rfl)) (fC aX o1)) (Xo aq))) ⟨by decide,by decide⟩ ⟨by unfold bY;exact vx,lk⟩ ⟨by decide,by decide⟩) hit)) (j3 aX o3)))))))))))) (by repeat first |exact Yn _ |apply iz) hlo
 |d+1,.cD w ps,h,hs,σ,S,v,r=>by
  have hl:=Pp.szs_len ps
  simp only[oC,pW]at h hs
  obtain⟨a,us,rfl,ha,r⟩:=rR (k:=gf) (l:=.w w::Pp.sps ps) r
  simp only[jN]at r
  obtain⟨v1,us,rfl,hv1,r⟩:=r
  simp only[oE]at hv1;subst hv1
  rw[Ej]at r
  refine c8 (dc.zip Pp.cQ ps r) λl e1 e2 e3=>?_
  have el:l.length=ps.length:=by rw[<-e1];simp
  have ul:us.length=ps.length:=by rw[<-e2];simp[el]
  have o1:aD (V.s w::us):=by unfold aD;simp only[Xy];lia
  have o2:aD us:=by unfold aD;exact JP ul hl hs
  have o3:aD (ps.map Pp.enc):=by unfold aD;simp only[Xr];exact qT hl (cG hs)
  have hit:=gJ (d:=d) (n:=27) (elt:=.l 48 [.v 6]) (tg:=.v 6) (ρ:=au (au (bf [.r a]) 1 (.s gf)) 2 (.r σ.length)) (σ:=σ++[O.l (.s w::us)]++[O.l us]) (S:=.cr (σ++[O.l (.s w::us)]).length us) (λ_=>rfl) (λ_=>aX) (λx:Pp×V=>x.2) (λx=>x.1.enc) l
   (λx hx=>aC _ rfl (cw (Xo (af rfl)) (vA d x.1 (by
    have:x.1∈ps:=by rw[<-e1];exact Y8 hx
    have:=Pp.deps_mem this;exact qT this (jc h)) (by
    have:x.1∈ps:=by rw[<-e1];exact Y8 hx
    have:=Pp.szs_mem this;exact qT this (cG hs)) _ S x.2 (((e3 x hx).mT _).mT _)))) [] (by rw[X0,e2];exact o2)
  have e4:l.map (λx=>x.1.enc)=ps.map Pp.enc:=by rw[<-e1,XV];rfl
  rw[e2,X0,e4]at hit
  have he:(Pp.cD w ps).enc=.t [.s gf,.s w,.t (ps.map Pp.enc)]:=by simp only[rL,rM]
  have hlo:=Pp.lo_enc σ.length (.cD w ps)
  rw[he]at hlo ⊢
  refine tm ha (by simp only[Xy];lia) (ao (bC (fD rfl false rfl) aP) (ao (bC (fD rfl false rfl) aP) (ao (bC (fD rfl false rfl) aP) (be (cX (fD rfl true rfl) (be (bM (bI (ac.ah aq (ac.ah (bi (af rfl) aq (dL aX (bg rfl) rfl))
   (Xo (ci rfl (Xo (dU (fe (ji (af rfl) (aq (v:=.i 1)) (sX aX (by simp only[aD,dz,bY,aK,Xv,Xy,XY,Xr]at *;lia) o1)) aX o2) hit)) (j3 aX o3))))))))))))) (by repeat first |exact Yn _ |apply iz) hlo
 |d+1,.cH p,h,hs,σ,S,v,r=>by
  obtain⟨a,us,rfl,ha,r⟩:=rR (k:=eV) (l:=[p.cQ]) r
  simp only[oF,jN]at r
  refine cP r ?_;clear r;intro v1 us q2 hv1 q4;subst q2;subst q4
  have hr:=vA d p (by simp only[oA]at h;exact jc h) (by simp only[rP]at hs;exact bT hs) _ S v1 (hv1.mT [.l [v1]])
  refine tm ha (by refine(?_:1 < aK);unfold aK;decide) (ao (bC (fD rfl false rfl) aP) (ao (bC (fD rfl false rfl) aP) (ao (bC (fD rfl false rfl) aP) (ao (bC (fD rfl false rfl) aP)
   (ao (bh (cw (Xo (bi (af rfl) aq (dL aX (bg rfl) rfl))) hr) bc)
    (ao (fg (S:=.cr (σ++[O.l [v1]]).length []) (fe (ji (af rfl) aq (sX aX (by simp only[aD,dz,bY,aK,Xv,Xy,XY,Xr]at *;lia) (by unfold aD aK;simp))) aX (by unfold aD aK;simp)) fG)
     (be (bM (jD (aY (af rfl) aq rfl (Xw _)) (bI (ac.ah aq (Xo (af rfl))))))))))))) (iz (Yn _)) (Pp.lo_enc _ (.cH p))
 |d+1,.bG a b,h,hs,σ,S,v,r=>by
  have hl:=Pp.right_len a
  refine cO (Pp.left_dep a) λl1 l2 l3=>?_
  simp only[kq,jL]at h hs
  have r':RR σ S (.p (.w dA::(a.left::(a.right++[b])).map Pp.cQ)) v:=by
   have e:(Pp.bG a b).cQ=.p (.w dA::(a.left::(a.right++[b])).map Pp.cQ):=by
    refine(?_:ar.p (.w dA::(a.sp++[b.cQ]))=_)
    rw[Pp.sp_eq];simp
   rw[<-e];exact r
  refine cP (rR r') λx us q2 ha rr=>?_;subst q2
  refine c8 (dc.zip Pp.cQ _ rr) λl e1 e2 e3=>?_
  cases l with
  |nil=>simp at e1
  |cons y l=>
   simp only[XD,List.cons.injEq]at e1 e2
   subst e2
   refine ba e1 ?_;clear e1;intro ey e1
   have el:l.length=a.right.length+1:=by have:=XB List.length e1;simpa using this
   have o1:aD (y.2::l.map (·.2)):=by unfold aD;simp only[Xy,Xr];lia
   have o2:aD (l.map λx:Pp×V=>x.2):=by unfold aD;simp only[Xr];lia
   have hy:=vA d y.1 (by rw[ey];lia) (by rw[ey];lia) _ S y.2 ((e3 y (XH ..)).mT [.l (y.2::l.map (·.2))])
   refine c8 (J0 (d:=d) (q:=(σ++[O.l (y.2::l.map (·.2))]).length) (ws:=l.map (·.2)) l y.1 (au (au (au (bf [.r x]) 1 (.s dA)) 2 (.r σ.length)) 3 y.1.enc) (σ++[O.l (y.2::l.map (·.2))]++[.l (l.map (·.2))]) rfl aX (λz hz=>by
    have hm:z.1∈a.right++[b]:=by rw[<-e1];exact Y8 hz
    refine vA d z.1 ?_ ?_ _ S z.2 (((e3 z (XI _ hz)).mT _).mT _)
    ·rcases XM hm with h |h
     ·have:=l3 _ h;lia
     ·rw[YA]at h;rw[h];lia
    ·rcases XM hm with h |h
     ·have:=l3 _ h;lia
     ·rw[YA]at h;rw[h];exact cG (hY hs))) λρ' f1 f2 f3=>?_
   have ef:(l.map λx:Pp×V=>x.1).foldl Pp.bG y.1=.bG a b:=by rw[e1,ey];exact Pp.fold (.bG a b)
   rw[ef]at f2
   refine tm ha (by simp only[Xy,Xr];lia) (ao (bC (fD rfl false rfl) aP) (ao (bC (fD rfl false rfl) aP) (ao (bC (fD rfl false rfl) aP) (ao (bC (fD rfl false rfl) aP)
    (ao (bh (cw (Xo (bi (af rfl) aq (dL aX (bg rfl) rfl))) hy) bc)
     (ao (fg (fe (ji (af rfl) aq (sX aX (by simp only[aD,dz,bY,aK,Xv,Xy,XY,Xr]at *;lia) o1)) aX o2) f1)
      (be (bM (jh (aY (af f3) aq rfl (Xw _)) (af f2)))))))))) (iz (Yn _)) (Pp.lo_enc _ (.bG a b))
mutual
noncomputable def Tm.pc:Tm->Nat
 | .bS _ []=>0
 | .bS _ (k::ks)=>1+Tm.pcs (k::ks)
noncomputable def Tm.pcs:List Tm->Nat
 | []=>0
 |t::ts=>t.pc+Tm.pcs ts
end
theorem qf:Tm.pcs []=0:=rfl
theorem r8{t ts}:Tm.pcs (t::ts)=t.pc+Tm.pcs ts:=rfl
theorem EP{z1}:Tm.pc (.bS z1 [])=0:=rfl
theorem zP{z1 k ks}:Tm.pc (.bS z1 (k::ks))=1+Tm.pcs (k::ks):=rfl
mutual
noncomputable def Tm.nn:Tm->Nat
 | .bS _ ks=>1+Tm.nns ks
noncomputable def Tm.nns:List Tm->Nat
 | []=>0
 |t::ts=>t.nn+Tm.nns ts
end
theorem zN{z1 ks}:Tm.nn (.bS z1 ks)=1+Tm.nns ks:=rfl
theorem wQ:Tm.nns []=0:=rfl
theorem r7{t ts}:Tm.nns (t::ts)=t.nn+Tm.nns ts:=rfl
mutual
theorem Tm.nn_sz:∀t:Tm,t.nn<=t.sz
 | .bS op ks=>by have:=Tm.nns_sz ks;simp only[zN,oM];exact qF gh this
theorem Tm.nns_sz:∀ts:List Tm,Tm.nns ts<=Tm.szs ts
 | []=>Xx _
 |t::ts=>by have:=Tm.nns_sz ts;have:=Tm.nn_sz t;simp only[r7,oN];lia
end
theorem EO(a b:List Tm):Tm.nns (a++b)=Tm.nns a+Tm.nns b:=by induction a<;>simp_all [wQ,r7];exact vl
theorem NK(a b:List Tm):Tm.pcs (a++b)=Tm.pcs a+Tm.pcs b:=by induction a<;>simp_all [qf,r8];exact vl
theorem Tm.nns_len:∀ts:List Tm,ts.length<=Tm.nns ts
 | []=>Xx _
 | .bS op ks::ts=>by have:=Tm.nns_len ts;simp only[r7,zN,Xy];lia
theorem SZ{q:Nat}{o:O}(h:τ <+:σ)(hq:τ.length<=q):τ <+:σ.set q o:=by
 refine aT h ?_;clear h;intro l q1;subst q1
 rw[List.set_append_right (h:=hq)];exact Yk _ _
noncomputable abbrev R7:St:=.w (.p .n (.v 3) (.d [])) [.a (.v 5) (.m 2 (.v 3) []),
  .a (.v 4) (.i .a (.v 4) (.b .i [(.p .g (.b .l [(.v 5)]) (.c (.i 1)))])),
  .e (.m 1 (.v 3) [(.e (.v 5) (some (.c (.i 1))) none)])]
theorem Cf{d q:Nat}{ts:List Tm}(h3:ρ 3=some (.r q))(hs:σ[q]? =some (.l (ts.map Tm.enc))):Ev d 30 (.p .n (.v 3) (.d [])) ρ σ (.b (!(ts.map Tm.enc).isEmpty)) (σ++[.l []]):=
 aY (af h3) (du ac.an) (XB (Option.map (!·)) (As (bO _ [O.l []] hs) aX)) (Xw _)
noncomputable def vi(f:Int)(op:List Nat)(ks:List Tm):Int:=f+(if decide ((1:Int) < (V.s op::ks.map Tm.enc).length)then 1 else 0)
theorem R5{f:Int}{us ks:List Tm}:vi f op ks+Tm.pcs (us++ks)=f+Tm.pcs (us++[.bS op ks]):=by
 simp only[vi,NK,qf,r8,Xy,Xr]
 cases ks with
 |nil=>simp[EP,qf]
 |cons k ks=>simp only[zP,Xy];rw[Xz (by simp;exact mE gh)];lia
noncomputable abbrev Ci(ρ:aA)(f:Int)(op:List Nat)(ks:List Tm):aA:=au (au ρ 5 (.t (.s op::ks.map Tm.enc))) 4 (.i (vi f op ks))
theorem R8{d q:Nat}{us ks:List Tm}{f:Int}(hl:us.length+1+ks.length<=aK)(h3:ρ 3=some (.r q))(h4:ρ 4=some (.i f))(hs:σ[q]? =some (.l ((us++[Tm.bS op ks]).map Tm.enc))):
  ae d 10 [.a (.v 5) (.m 2 (.v 3) []),.a (.v 4) (.i .a (.v 4) (.b .i [(.p .g (.b .l [(.v 5)]) (.c (.i 1)))])),.e (.m 1 (.v 3) [(.e (.v 5) (some (.c (.i 1))) none)])] ρ σ .n (Ci ρ f op ks) (σ.set q (.l ((us++ks).map Tm.enc))):=by
 have o1:aD ((us++[Tm.bS op ks]).map Tm.enc):=by unfold aD;simp only[Xr,Xv,Xy,XY];lia
 have hpop:=Co hs (v:=.t (.s op::ks.map Tm.enc)) (by simp[uq,oL]) o1
 rw[show((us++[Tm.bS op ks]).map Tm.enc).dropLast=us.map Tm.enc by simp]at hpop
 have g2:(σ.set q (.l (us.map Tm.enc)))[q]? =some (.l (us.map Tm.enc)):=cS hs
 have o2:aD (V.s op::ks.map Tm.enc):=by unfold aD;simp only[Xy,Xr];exact cG (tf (hY hl))
 have o3:aD (us.map Tm.enc++ks.map Tm.enc):=by unfold aD;simp only[Xv,Xr];exact bT (hY hl)
 have p3:(Ci ρ f op ks) 3=some (.r q):=h3
 have he:=Su g2 o3
 rw[Yr,<-Yc]at he
 exact ao (bh (dp (af h3) (eI hs rfl) ac.an rfl hpop) bc) (ao (bh (v:=.i (vi f op ks)) (bX (af h4) (ci rfl (Xo (aY (ci rfl (Xo (af (bw _ _ _))) (x0 o2)) aq rfl (show dI .g _ from trivial))) IY) iy) bc) (Xp (dv (v:=.n)
  (dp (af p3) (eI g2 rfl) (Xo (ji (af rfl) (aq (v:=.i 1)) (pi ⟨by decide,by simp only[Xy];exact nP⟩ o2))) rfl he))))
theorem Sb{d q:Nat}(hq:τ.length<=q):∀(m:Nat) (ts:List Tm) (ρ:aA) (σ:aj) (f:Int),Tm.nns ts<=m->m<=aK->ρ 3=some (.r q)->ρ 4=some (.i f)->σ[q]? =some (.l (ts.map Tm.enc))->τ <+:σ->
  ∃ρ' σ',ai d 11 R7 ρ σ .n ρ' σ'/\ρ' 4=some (.i (f+Tm.pcs ts))/\τ <+:σ':=λm=>by
 induction m with
 |zero=>
  intro ts ρ σ f hm hM h3 h4 hs hp
  cases ts with
  |nil=>exact dN ρ _ (iY (Cf h3 hs)) (by simpa [qf]using h4) (iz hp)
  |cons t ts=>have:=Tm.nns_len (t::ts);simp only[Xy]at this;exact Cu (cG this) hm
 |succ m ih=>
  intro ts ρ σ f hm hM h3 h4 hs hp
  rcases List.eq_nil_or_concat ts with e | ⟨us,⟨op,ks⟩,e⟩
  ·subst e
   exact dN ρ _ (iY (Cf h3 hs)) (by simpa [qf]using h4) (iz hp)
  ·rw[List.concat_eq_append]at e
   subst e
   simp only[EO,wQ,r7,zN]at hm
   have hk:=Tm.nns_len ks
   have ul:=Tm.nns_len us
   have g1:=bO _ [O.l []] hs
   refine cP (ih (us++ks) (Ci ρ f op ks) ((σ++[O.l []]).set q (.l ((us++ks).map Tm.enc))) (vi f op ks) (by rw[EO];lia) (bT hM) h3 (bw _ _ _) (cS g1) (SZ (iz hp) hq)) λρ' σ' h1 h2 h5=>?_
   have hc:=Cf (d:=d) h3 hs
   rw[show(!((us++[Tm.bS op ks]).map Tm.enc).isEmpty)=true by simp]at hc
   exact dN ρ' σ' (l7 hc (R8 (by lia) h3 h4 g1) h1) (by rw[<-R5];exact h2) h5
mutual
noncomputable def Pp.spc:Pp->Nat
 | .cR _=>1
 | .cZ t=>1+t.pc
 | .db _ ps=>1+(ps.map λx=>x.2.pc).sum
 | .cH p=>1+((if p.eG then 1 else 0)+p.spc)
 | .bG a b=>a.spc+((if b.eG then 1 else 0)+b.spc)
 | .cD _ ps=>1+Pp.spcs ps
noncomputable def Pp.spcs:List Pp->Nat
 | []=>0
 |p::ps=>((if p.eG then 1 else 0)+p.spc)+Pp.spcs ps
end
theorem zw{p ps}:Pp.spcs (p::ps)=((if p.eG then 1 else 0)+p.spc)+Pp.spcs ps:=rfl
theorem M6{z1}:Pp.spc (.cR z1)=1:=rfl
theorem zu{t}:Pp.spc (.cZ t)=1+t.pc:=rfl
theorem zv{z1 ps}:Pp.spc (.db z1 ps)=(1+(ps.map λx=>x.2.pc).sum):=rfl
theorem Ef{p}:Pp.spc (.cH p)=1+((if p.eG then 1 else 0)+p.spc):=rfl
theorem Eg{a b}:Pp.spc (.bG a b)=a.spc+((if b.eG then 1 else 0)+b.spc):=rfl
theorem Eh{z1 ps}:Pp.spc (.cD z1 ps)=1+Pp.spcs ps:=rfl
noncomputable def Pp.cC(p:Pp)(l:Bool):Nat:=(if p.eG&& !l then 1 else 0)+p.spc
theorem wA(p:Pp):p.cC false=(if p.eG then 1 else 0)+p.spc:=by unfold Pp.cC;simp
theorem M7(ps:List Pp):Pp.spcs ps=(ps.map λp=>p.cC false).sum:=by
 induction ps with
 |nil=>rfl
 |cons p ps ih=>simp only[zw,ih,XD,Yq,wA]
theorem NL(ts:List Tm):Tm.pcs ts=(ts.map Tm.pc).sum:=by induction ts<;>simp_all [qf,r8]
mutual
theorem Tm.pc_sz:∀t:Tm,t.pc+1<=t.sz
 | .bS op []=>by simp only[EP,oM];exact cG iO
 | .bS op (k::ks)=>by have:=Tm.pcs_sz (k::ks);simp only[zP,oM];exact hY (qF gh this)
theorem Tm.pcs_sz:∀ts:List Tm,Tm.pcs ts<=Tm.szs ts
 | []=>Xx _
 |t::ts=>by have:=Tm.pcs_sz ts;have:=Tm.pc_sz t;simp only[r8,oN];lia
end
mutual
theorem Pp.spc_sz:∀p:Pp,p.spc+2<=p.sz
 | .cR w=>by simp only[M6,zy];exact gh
 | .cZ t=>by have:=Tm.pc_sz t;simp only[zu,rN];exact x8 (vu this) rfl
 | .db w ps=>by
  have:=yp (f:=λx:List Nat×Tm=>x.2.pc) (g:=λx=>x.1.length+x.2.sz+5) ps λx _=>by have:=Tm.pc_sz x.2;exact bT (d5 (td this))
  simp only[zv,pV];exact hY (qF gh this)
 | .cH p=>by have:=Pp.spc_sz p;simp only[Ef,rP];split<;>lia
 | .bG a b=>by have:=Pp.spc_sz a;have:=Pp.spc_sz b;simp only[Eg,jL];split<;>lia
 | .cD w ps=>by have:=Pp.spcs_sz ps;simp only[Eh,pW];exact hY (qF gh this)
theorem Pp.spcs_sz:∀ps:List Pp,Pp.spcs ps<=Pp.szs ps
 | []=>Xx _
 |p::ps=>by have:=Pp.spcs_sz ps;have:=Pp.spc_sz p;simp only[zw,pX];split<;>lia
end
theorem Pp.M0(p:Pp)(l:Bool):p.cC l<=p.sz:=by have:=p.spc_sz;unfold Pp.cC;split<;>lia
theorem G6(is:List Int):jz (is.map V.i)=some is:=by induction is<;>simp_all [Qj,Qk]
theorem Cg{d:Nat}{P:Pp}{k:List Nat}(qs:List Pp)(g:Nat->Bool)(h6:ρ 6=some (.t (qs.map Pp.enc)))(h2:ρ 2=some (.s k))(h1:ρ 1=some (.b L))(hl:qs.length<=aK)
  (hg:∀i,i < qs.length->(decide (k=dA)&&decide (i=0))=g i) (hr:∀(i:Nat) (q:Pp),qs[i]? =some q->aL d 49 [q.enc,.b (g i)] σ (.i (q.cC (g i))) σ/\q.sz<=aK):
  ∃σ',ai d 12 (.r (.i .a (.b .i [(.r [(.p .n (.v 2) (.c (.s [106,111,105,110]))),(.j (.v 1))])]) (.b .s [(.o (.l 49 [(.v 10),(.n [(.p .e (.v 2) (.c (.s [106,111,105,110]))),(.p .e (.v 9) (.c (.i 0)))])]) [.m (.t [(.v 9),(.v 10)]) (.n (.v 6)) []])])))
   ρ σ (.r (.i ((if !decide (k=dA)|| !L then 1 else 0)+((qs.zipIdx.map λx=>(x.1.cC (g x.2):Int)).sum)))) ρ σ'/\σ <+:σ':=by
 have o1:aD (qs.map Pp.enc):=by unfold aD;simpa using hl
 have hit:=gJ (d:=d) (n:=27) (elt:=.l 49 [(.v 10),(.n [(.p .e (.v 2) (.c (.s [106,111,105,110]))),(.p .e (.v 9) (.c (.i 0)))])]) (tg:=.t [(.v 9),(.v 10)]) (ρ:=ρ) (σ:=σ) (S:=.bx ((qs.map Pp.enc).zipIdx.map λp=>V.t [.i p.2,p.1])) (λ_=>rfl) (λ_=>trivial)
  (λx:Pp×Nat=>V.t [.i x.2,x.1.enc]) (λx=>.i (x.1.cC (g x.2))) qs.zipIdx (λx hx=>by
   have hx':=List.mem_zipIdx_iff_getElem?.mp hx
   have hi:x.2 < qs.length:=(XZ hx').1
   have e9:(au (au ρ 9 (.i x.2)) 10 x.1.enc) 9=some (.i x.2):=by rw[bR _ _ (by decide)];exact bw _ _ _
   have e2:(au (au ρ 9 (.i x.2)) 10 x.1.enc) 2=some (.s k):=by rw[bR _ _ (by decide),bR _ _ (by decide)];exact h2
   refine aC (au (au ρ 9 (.i x.2)) 10 x.1.enc) rfl (cw (ac.ah (af (bw _ _ _)) (Xo ?_)) (hr x.2 x.1 hx').1)
   rw[<-hg x.2 hi]
   have c2:∀b,decide (k=dA)=b->Ev d 25 (.p .e (.v 2) (.c (.s [106,111,105,110]))) (au (au ρ 9 (.i x.2)) 10 x.1.enc) σ (.b b) σ:=λb hb=>aY (af e2) aq (by refine(?_:some _=_);rw[hb]) (Xw _)
   cases hk:decide (k=dA)with
   |false=>exact lL (c2 false hk)
   |true=>
    refine j9 (c2 true hk) (aY (af e9) aq ?_ (Xw _))
    refine(?_:some (decide ((x.2:Int)=0))=_)
    simp) [] (by unfold aD;simpa using hl)
 have ei:qs.zipIdx.map (λx:Pp×Nat=>V.t [.i x.2,x.1.enc])=(qs.map Pp.enc).zipIdx.map λp=>V.t [.i p.2,p.1]:=by
  rw[List.zipIdx_map,XV];rfl
 rw[ei,X0]at hit
 have hs:jz (qs.zipIdx.map λx=>V.i (x.1.cC (g x.2)))=some (qs.zipIdx.map λx=>(x.1.cC (g x.2):Int)):=by
  have:=G6 (qs.zipIdx.map λx=>(x.1.cC (g x.2):Int))
  rw[XV]at this;exact this
 have o2:aD (qs.zipIdx.map λx=>V.i (x.1.cC (g x.2))):=by unfold aD;simpa using hl
 refine aC _ (bM (bX (u:=.i (if !decide (k=dA)|| !L then 1 else 0)) (σ₁:=σ) ?_ (ci rfl (Xo (dU (MO (af h6) o1) hit)) (x3 aX hs o2 λi hi=>?_)) iy)) (iz (Yn _))
 ·refine ci rfl (vs:=[.b (!decide (k=dA)|| !L)]) (Xo ?_) IY
  have c2:∀b,decide (k=dA)=b->Ev d 27 (.p .n (.v 2) (.c (.s [106,111,105,110]))) ρ σ (.b (!b)) σ:=λb hb=>aY (af h2) aq (by refine(?_:some _=_);rw[hb]) (Xw _)
  cases hk:decide (k=dA)with
  |false=>exact Dm (c2 false hk)
  |true=>exact rq (c2 true hk) (tO (tN (af h1)))
 ·refine az (Yf hi) λx hx q2=>?_;subst q2
  have hx':=List.mem_zipIdx_iff_getElem?.mp hx
  have h1:=(hr x.2 x.1 hx').2
  have h2:=x.1.M0 (g x.2)
  unfold bY;have:aK=1000000:=rfl;lia
theorem IN{d:Nat}{k:List Nat}(ts:List Tm)(he:P.enc=.t (.s k::xs))(hk:(jC [V.s i6,V.s fQ]).map (·.contains k)=some true)(hl:Tm.nns ts<=aK){q:Nat}(hq:σ.length<=q)(hs:σ₁[q]? =some (.l (ts.map Tm.enc)))(hp:σ <+:σ₁)
  (h:Ev d 29 (.f (.p .e (.v 2) (.c (.s i6))) (.d [(.s (.v 0) (.c (.i 1)))]) (.o (.v 8) [.m (.t [(.v 7),(.v 8)]) (.e (.s (.v 0) (.c (.i 2)))) []])) (au (bf [P.enc,.b L]) 2 (.s k)) σ (.r q) σ₁):
  aL (d+1) 49 [P.enc,.b L] σ (.i (1+Tm.pcs ts)) σ:=by
 refine cP (Sb (d:=d) hq (Tm.nns ts) ts (au (au (au (bf [P.enc,.b L]) 2 (.s k)) 3 (.r q)) 4 (.i 1)) σ₁ 1 (Xx _) hl (by rw[bR _ _ (by decide)];exact bw _ _ _) (bw _ _ _) hs hp) λρ' σ' h1 h2 h3=>?_
 refine fV (f:=uK) rfl rfl (ao (bh (v:=.s k) (bi (af (v:=P.enc) rfl) aq ?_) bc) (be (cX (aY (af (bw _ _ _)) (bI (ac.ah aq (Xo aq))) hk (show dI .i _ from trivial))
  (ao (bh (v:=.t [.r q,.i 1]) (bI (ac.ah h (Xo aq))) (gR rfl rfl (da bc (da bc gS)))) (ao h1 (be (bM (af h2)))))))) h3 rfl
 rw[he];exact c9 (bg rfl) rfl
theorem xW{d:Nat}{k:List Nat}{v:V}(he:P.enc=.t (.s k::xs))(hk:(jC [V.s i6,V.s fQ]).map (·.contains k)=some false)
  (h:ae d 12 (uK.dZ.drop 2) (au (bf [P.enc,.b L]) 2 (.s k)) σ (.r v) ρ' σ') (hp:σ <+:σ') (hv:v.lo σ.length=true):aL (d+1) 49 [P.enc,.b L] σ v σ:=by
 have h':=h
 simp only[uK,List.drop_succ_cons,List.drop_zero]at h'
 refine fV (f:=uK) rfl rfl (ao (bh (v:=.s k) (bi (af (v:=P.enc) rfl) aq ?_) bc) (ao (bC (aY (af (bw _ _ _)) (bI (ac.ah aq (Xo aq))) hk (show dI .i _ from trivial)) aP) h')) hp hv
 rw[he];exact c9 (bg rfl) rfl
theorem M2(p:Pp)(L:Bool):(Pp.cH p).cC L=1+p.cC false:=by
 have:(Pp.cH p).cC L=(if false&& !L then 1 else 0)+(1+((if p.eG then 1 else 0)+p.spc)):=rfl
 rw[this,wA];simp
theorem M1(p:Pp):p.cC true=p.spc:=by unfold Pp.cC;simp
theorem MZ(a b:Pp)(L:Bool):(Pp.bG a b).cC L=(if !L then 1 else 0)+(a.cC true+b.cC false):=by
 have:(Pp.bG a b).cC L=(if true&& !L then 1 else 0)+(a.spc+((if b.eG then 1 else 0)+b.spc)):=rfl
 rw[this,wA,M1];simp
theorem M3(w:List Nat)(ps:List Pp)(L:Bool):(Pp.cD w ps).cC L=1+(ps.map λp=>p.cC false).sum:=by
 have:(Pp.cD w ps).cC L=(if false&& !L then 1 else 0)+(1+Pp.spcs ps):=rfl
 rw[this,M7];simp
theorem vz:∀(d:Nat) (P:Pp),P.dep<=d->P.sz<=aK->∀(L:Bool) (σ:aj),aL d 49 [P.enc,.b L] σ (.i (P.cC L)) σ
 |0,P,h,_,_,_=>by cases P<;>simp[wu,pS,pT,oA,kq,oC]at h
 |d+1,.cR w,h,hs,L,σ=>by
  exact xW (P:=.cR w) (k:=mw) rfl rfl (be (cX (fD rfl true rfl) (be (bM aq)))) (Yn _) rfl
 |d+1,.cZ t,h,hs,L,σ=>by
  have:=Tm.nn_sz t
  simp only[rN]at hs
  have hr:=IN (d:=d) (P:=.cZ t) (L:=L) (k:=i6) (σ:=σ) (σ₁:=σ++[.l [t.enc]]) [t] rfl rfl (by simp only[wQ,r7];lia) (Xx _) aX (Yk _ _)
   (jD (aY (af rfl) aq rfl (Xw _)) (du (Xo (bi (af rfl) aq (c9 (bg rfl) rfl)))))
  have e:((Pp.cZ t).cC L:Int)=1+Tm.pcs [t]:=by simp[Pp.cC,Sm,zu,qf,r8]
  rw[e];exact hr
 |d+1,.db w ps,h,hs,L,σ=>by
  have h1:=yp (f:=λx:List Nat×Tm=>x.2.nn) (g:=λx=>x.1.length+x.2.sz+5) ps λx _=>by have:=Tm.nn_sz x.2;exact d5 (td this)
  have hl:ps.length<=(ps.map λx=>x.1.length+x.2.sz+5).sum:=yq _ (λx=>gh) ps
  simp only[pV]at hs
  have en:Tm.nns (ps.map (·.2))=(ps.map λx=>x.2.nn).sum:=by clear h h1 hs hl;induction ps<;>simp_all [wQ,r7]
  have hit:=gJ (d:=d) (n:=27) (elt:=.v 8) (tg:=.t [(.v 7),(.v 8)]) (ρ:=au (bf [(Pp.db w ps).enc,.b L]) 2 (.s fQ)) (σ:=σ) (S:=.bx (ps.map dG)) (λ_=>rfl) (λ_=>trivial) dG (λx=>x.2.enc) ps
   (λx hx=>aC (au (au (au (bf [(Pp.db w ps).enc,.b L]) 2 (.s fQ)) 7 (.s x.1)) 8 x.2.enc) rfl (af (bw _ _ _))) [] (by unfold aD;simp;exact qT hl (cG hs))
  rw[X0]at hit
  have hr:=IN (d:=d) (P:=.db w ps) (L:=L) (k:=fQ) (σ:=σ) (σ₁:=σ++[.l (ps.map λx=>x.2.enc)]) (ps.map (·.2)) rfl rfl (by rw[en];exact qT h1 (cG hs)) (Xx _) (by rw[aX,XV];rfl) (Yk _ _)
   (jh (aY (af rfl) aq rfl (Xw _)) (dU (jK (bi (af rfl) aq (c9 (bg rfl) rfl)) (by unfold aD;simp;exact qT hl (cG hs))) hit))
  have e:((Pp.db w ps).cC L:Int)=1+Tm.pcs (ps.map (·.2)):=by simp[Pp.cC,Sn,zv,NL,XV,Function.comp_def]
  rw[e];exact hr
 |d+1,.cH p,h,hs,L,σ=>by
  simp only[oA,rP]at h hs
  refine az (Cg (d:=d) (P:=.cH p) (L:=L) (k:=eV) (σ:=σ) (ρ:=au (au (bf [(Pp.cH p).enc,.b L]) 2 (.s eV)) 6 (.t [p.enc])) [p] (λ_=>false) rfl rfl rfl (by refine(?_:1<=aK);unfold aK;decide) (λi hi=>rfl) (λi q hq=>by
   cases i with
   |zero=>simp at hq;subst hq;exact bm (vz d p (jc h) (bT hs) false σ) (bT hs)
   |succ i=>simp at hq)) λσ' hr hp=>?_
  have e:((if !decide (eV=dA)|| !L then 1 else 0:Int)+(([p].zipIdx.map λx=>(x.1.cC false:Int)).sum))=(Pp.cH p).cC L:=by
   have:((if !decide (eV=dA)|| !L then 1 else 0:Int))=1:=Xz rfl
   rw[this];refine(?_:(1:Int)+((p.cC false:Int)+0)=_);rw[M2];lia
  rw[e]at hr
  exact xW (P:=.cH p) (k:=eV) rfl rfl (ao (bC (fD rfl false rfl) aP) (ao (bh (jh (aY (af rfl) aq rfl (Xw _)) (ji (af rfl) (aq (v:=.i 1)) (pi (xs:=[.s eV,p.enc]) ⟨by decide,by refine(?_:(1:Int)<=2);decide⟩ (by refine(?_:2<=aK);unfold aK;decide)))) bc) (be hr))) hp rfl
 |d+1,.bG a b,h,hs,L,σ=>by
  simp only[kq,jL]at h hs
  refine az (Cg (d:=d) (P:=.bG a b) (L:=L) (k:=dA) (σ:=σ) (ρ:=au (au (bf [(Pp.bG a b).enc,.b L]) 2 (.s dA)) 6 (.t [a.enc,b.enc])) [a,b] (λi=>decide (i=0)) rfl rfl rfl (by refine(?_:2<=aK);unfold aK;decide) (λi hi=>rfl) (λi q hq=>by
   match i with
   |0=>simp at hq;subst hq;exact bm (vz d a (by lia) (bT (tf hs)) true σ) (bT (tf hs))
   |1=>simp at hq;subst hq;exact bm (vz d b (by lia) (cG (hY hs)) false σ) (cG (hY hs))
   |i+2=>simp at hq)) λσ' hr hp=>?_
  have e:((if !decide (dA=dA)|| !L then 1 else 0:Int)+(([a,b].zipIdx.map λx=>(x.1.cC (decide (x.2=0)):Int)).sum))=(Pp.bG a b).cC L:=by
   refine(?_:(if !decide (dA=dA)|| !L then 1 else 0:Int)+((a.cC true:Int)+((b.cC false:Int)+0))=_)
   rw[MZ];cases L<;>simp<;>lia
  rw[e]at hr
  exact xW (P:=.bG a b) (k:=dA) rfl rfl (ao (bC (fD rfl false rfl) aP) (ao (bh (jh (aY (af rfl) aq rfl (Xw _)) (ji (af rfl) (aq (v:=.i 1)) (pi (xs:=[.s dA,a.enc,b.enc]) ⟨by decide,by refine(?_:(1:Int)<=3);decide⟩ (by refine(?_:3<=aK);unfold aK;decide)))) bc) (be hr))) hp rfl
 |d+1,.cD w ps,h,hs,L,σ=>by
  have hl:=Pp.szs_len ps
  simp only[oC,pW]at h hs
  refine az (Cg (d:=d) (P:=.cD w ps) (L:=L) (k:=gf) (σ:=σ) (ρ:=au (au (bf [(Pp.cD w ps).enc,.b L]) 2 (.s gf)) 6 (.t (ps.map Pp.enc))) ps (λ_=>false) rfl rfl rfl (qT hl (cG hs)) (λi hi=>rfl) (λi q hq=>by
   have hm:=Yo hq
   have h1:=Pp.deps_mem hm
   have h2:=Pp.szs_mem hm
   exact bm (vz d q (qT h1 (jc h)) (qT h2 (cG hs)) false σ) (qT h2 (cG hs)))) λσ' hr hp=>?_
  have e:((if !decide (gf=dA)|| !L then 1 else 0:Int)+((ps.zipIdx.map λx=>(x.1.cC false:Int)).sum))=(Pp.cD w ps).cC L:=by
   have:((if !decide (gf=dA)|| !L then 1 else 0:Int))=1:=Xz rfl
   rw[this]
   have e2:ps.zipIdx.map (λx=>(x.1.cC false:Int))=ps.map λp=>(p.cC false:Int):=by
    have:=List.zipIdx_map_fst 0 ps
    rw[show(λx:Pp×Nat=>(x.1.cC false:Int))=(λp:Pp=>(p.cC false:Int)) ∘ Prod.fst from rfl,<-XV,this]
   rw[e2]
   have e3:∀l:List Pp,(l.map λp=>(p.cC false:Int)).sum=((l.map λp=>p.cC false).sum:Nat):=λl=>by induction l<;>simp_all
   rw[e3,M3];lia
  rw[e]at hr
  refine xW (P:=.cD w ps) (k:=gf) rfl rfl (ao (bC (fD rfl false rfl) aP) (ao (bh (jD (aY (af rfl) aq rfl (Xw _)) (bi (af rfl) aq (c9 (bg rfl) ?_))) bc) (be hr))) hp rfl
  rw[<-rM];rfl
theorem dR{w:List Nat}(h:(!w.isEmpty&&w.all λc=>c !=40&&c !=41&&c !=32)=true):ip w:=by
 simp only[YJ,Bool.not_eq_true',List.all_eq_true,bne_iff_ne,ne_eq]at h
 exact bm (λe=>(by rw[e]at h;cases h.1)) (λc hc=>⟨(h.2 c hc).1.1,(h.2 c hc).1.2,(h.2 c hc).2⟩)
mutual
noncomputable def Tm.good:Tm->Prop
 | .bS op ks=>ip op/\Tm.goods ks
noncomputable def Tm.goods:List Tm->Prop
 | []=>True
 |t::ts=>t.good/\Tm.goods ts
end
theorem NH:Tm.goods []=True:=rfl
theorem NJ{t ts}:Tm.goods (t::ts)=(t.good/\Tm.goods ts):=rfl
mutual
noncomputable def Pp.good:Pp->Prop
 | .cR w=>ip w
 | .cZ t=>t.good
 | .db w ps=>ip w/\∀x∈ps,ip x.1/\x.2.good
 | .cH p=>p.good
 | .bG a b=>a.good/\b.good
 | .cD w ps=>ip w/\Pp.goods ps
noncomputable def Pp.goods:List Pp->Prop
 | []=>True
 |p::ps=>p.good/\Pp.goods ps
end
theorem MW:Pp.goods []=True:=rfl
theorem MY{p ps}:Pp.goods (p::ps)=(p.good/\Pp.goods ps):=rfl
theorem ar.goods_mem:∀{l:List ar},ar.goods l↔∀r∈l,r.good
 | []=>by simp[Ek]
 |r::l=>by simp only[El,ar.goods_mem (l:=l),Yt,forall_eq_or_imp]
mutual
theorem Tm.raw_good:∀t:Tm,t.good->t.raw.good
 | .bS op [],h=>h.1
 | .bS op (k::ks),h=>⟨h.1,Tm.raws_good (k::ks) h.2⟩
theorem Tm.raws_good:∀ts:List Tm,Tm.goods ts->ar.goods (Tm.raws ts)
 | [],_=>trivial
 |t::ts,h=>⟨Tm.raw_good t h.1,Tm.raws_good ts h.2⟩
end
theorem yx{j:Bool}{l:List ar}(h:ar.goods l)(hl:l≠[]):(jf j l).good:=by
 unfold jf
 split
 ·exact bm (dR rfl) h
 ·cases l with
  |nil=>exact absurd rfl hl
  |cons r l=>exact h.1
theorem Pp.wC(p:Pp):p.sp≠[]:=by rw[Pp.sp_eq];simp
mutual
theorem Pp.sp_good:∀p:Pp,p.good->ar.goods p.sp
 | .cR w,h=>⟨⟨dR rfl,h,trivial⟩,trivial⟩
 | .cZ t,h=>⟨⟨dR rfl,Tm.raw_good t h,trivial⟩,trivial⟩
 | .db w ps,h=>by
  refine bm (⟨dR rfl,h.1,?_⟩) trivial
  rw[ar.goods_mem]
  intro r hr
  refine az (List.mem_flatMap.mp hr) λx hx hr=>?_
  have:=h.2 x hx
  simp only[Yt,Ye,or_false]at hr
  rcases hr with rfl |rfl
  ·exact this.1
  ·exact Tm.raw_good _ this.2
 | .cH p,h=>⟨⟨dR rfl,yx (Pp.sp_good p h) p.wC,trivial⟩,trivial⟩
 | .bG a b,h=>by
  have h1:=Pp.sp_good a h.1
  have h2:=yx (j:=b.eG) (Pp.sp_good b h.2) b.wC
  simp only[wB]
  rw[ar.goods_mem]at h1 ⊢
  intro r hr
  rcases XM hr with hr |hr
  ·exact h1 r hr
  ·rw[YA]at hr;subst hr;exact h2
 | .cD w ps,h=>⟨⟨dR rfl,h.1,Pp.sps_good ps h.2⟩,trivial⟩
theorem Pp.sps_good:∀ps:List Pp,Pp.goods ps->ar.goods (Pp.sps ps)
 | [],_=>trivial
 |p::ps,h=>⟨yx (Pp.sp_good p h.1) p.wC,Pp.sps_good ps h.2⟩
end
theorem Pp.D'(p:Pp)(h:p.good):p.cQ.good:=yx (Pp.sp_good p h) p.wC
theorem Pp.M4(p:Pp):∃l,p.cQ=.p l:=by cases p<;>exact fB _ rfl
noncomputable def m0(a b:Nat):Prop:=(a=32/\b=32)∨(a=40/\b=32)∨(a=32/\b=41)
noncomputable def qJ:List Nat->Prop
 | []=>True
 | [_]=>True
 |a::b::r=>¬m0 a b/\qJ (b::r)
theorem vf:∀{l m:List Nat},qJ l->qJ m->(∀a b,l.getLast? =some a->m.head? =some b->¬m0 a b)->qJ (l++m)
 | [],m,_,h2,_=>h2
 | [a],[],_,_,_=>trivial
 | [a],b::m,_,h2,h=>⟨h a b rfl rfl,h2⟩
 |a::b::l,m,h1,h2,h=>⟨h1.1,vf (l:=b::l) h1.2 h2 λx y hx hy=>h x y (by simpa using hx) hy⟩
theorem xE{x y:Nat}(hb:m0 x y):∀{l:List Nat},qJ l->gd [x,y] l=false
 | [],_=>rfl
 | [a],_=>by simp[Hf,Br,List.isPrefixOf]
 |a::b::r,h=>by
  have ih:=xE hb (l:=b::r) h.2
  have hp:List.isPrefixOf [x,y] (a::b::r)=false:=by
   simp only[List.isPrefixOf,Bool.and_true,Bool.and_eq_false_iff,beq_eq_false_iff_ne]
   by_cases e:x=a
   ·exact .inr λe2=>h.1 (by rw[<-e,<-e2];exact hb)
   ·exact .inl e
  rw[Br,hp,ih];rfl
noncomputable def qK(l:List Nat):Prop:=qJ l/\(∃a,l.head? =some a/\a≠32/\a≠41)/\(∃a,l.getLast? =some a/\a≠32/\a≠40)
theorem IB:∀{w:List Nat},(∀c∈w,nh c)->qJ w
 | [],_=>trivial
 | [_],_=>trivial
 |a::b::r,h=>⟨λhb=>by
   have ha:=h a (by simp);have hb':=h b (by simp)
   unfold m0 nh at *;lia,IB λc hc=>h c (XI _ hc)⟩
theorem RV{w:List Nat}(h:ip w):qK w:=by
 refine ba h ?_;clear h;intro h1 h2
 refine fA (IB h2) ?_ ?_
 ·cases w with
  |nil=>exact absurd rfl h1
  |cons a w=>have:=h2 a (by simp);exact dK a rfl this.2.2 this.2.1
 ·rcases List.eq_nil_or_concat w with e | ⟨l,a,e⟩
  ·exact absurd e h1
  ·rw[List.concat_eq_append]at e;subst e
   have:=h2 a (by simp);exact dK a (by simp) this.2.2 this.1
theorem IF:∀(l:List (List Nat)),l≠[]->(∀t∈l,qK t)->qK (cy [32] l)
 | [t],_,h=>h t (by simp)
 |t::u::l,_,h=>by
  have ht:=h t (by simp)
  have hj:=IF (u::l) (by simp) λx hx=>h x (XI _ hx)
  refine cO ht ?_;clear ht;intro a1 nn0 nn1;refine az nn0 ?_;clear nn0;intro b1 b2 b3;refine az nn1 ?_;clear nn1;intro c1 c2 c3
  refine cO hj ?_;clear hj;intro d1 nn0 nn1;refine az nn0 ?_;clear nn0;intro e1 e2 e3;refine az nn1 ?_;clear nn1;intro f1 f2 f3
  have tn:t≠[]:=λe=>by subst e;cases b2
  have jn:cy [32] (u::l)≠[]:=λe=>by rw[e]at e2;cases e2
  refine(?_:qK (t++[32]++cy [32] (u::l)))
  refine fA (vf (vf a1 trivial λx y hx hy=>?_) d1 λx y hx hy=>?_) (aC b1 ?_ b3) (aC f1 ?_ f3)
  ·rw[c2]at hx;cases hx;cases hy;unfold m0;lia
  ·rw[List.getLast?_append]at hx;simp at hx;rw[e2]at hy;cases hy;unfold m0;lia
  ·rw[XU,List.head?_append,b2];rfl
  ·rw[List.getLast?_append,f2];rfl
mutual
theorem ar.text_ok:∀r:ar,r.good->qK r.text
 | .w s,h=>RV h
 | .p l,h=>by
  have hl:=ar.texts_ok l h
  refine(?_:qK ([40]++cy [32] (ar.texts l)++[41]))
  cases l with
  |nil=>exact fA (⟨by unfold m0;lia,trivial⟩) (dK 40 rfl (by decide) (by decide)) (dK 41 rfl (by decide) (by decide))
  |cons r l=>
   refine cO (IF (ar.texts (r::l)) (by simp[lZ]) hl) λd1 nn0 nn1=>?_;refine az nn0 ?_;clear nn0;intro e1 e2 e3;refine az nn1 ?_;clear nn1;intro f1 f2 f3
   refine fA (vf (vf trivial d1 λx y hx hy=>?_) trivial λx y hx hy=>?_) (dK 40 rfl (by decide) (by decide)) (dK 41 (by rw[List.getLast?_append];rfl) (by decide) (by decide))
   ·cases hx;rw[e2]at hy;cases hy;unfold m0;lia
   ·rw[List.getLast?_append,f2]at hx;cases hx;cases hy;unfold m0;lia
theorem ar.texts_ok:∀l:List ar,ar.goods l->∀t∈ar.texts l,qK t
 | [],_,t,h=>by cases h
 |r::l,hg,t,h=>by
  rcases XL h with rfl |h
  ·exact ar.text_ok r hg.1
  ·exact ar.texts_ok l hg.2 t h
end
mutual
noncomputable def ar.pc:ar->Nat
 | .w _=>0
 | .p l=>1+ar.pcs l
noncomputable def ar.pcs:List ar->Nat
 | []=>0
 |r::l=>r.pc+ar.pcs l
end
theorem oG:ar.pcs []=0:=rfl
theorem jO{r l}:ar.pcs (r::l)=r.pc+ar.pcs l:=rfl
theorem pY{z1}:ar.pc (.w z1)=0:=rfl
theorem p8{l}:ar.pc (.p l)=1+ar.pcs l:=rfl
theorem FH:∀l:List (List Nat),(cy [32] l).count 40=(l.map λt=>t.count 40).sum
 | []=>rfl
 | [t]=>by simp[oZ]
 |t::u::l=>by
  have:=FH (u::l)
  simp only[qB,List.count_append,XD,Yq]at *
  rw[this];simp
theorem OT{w:List Nat}(h:∀c∈w,nh c):w.count 40=0:=List.count_eq_zero.mpr λhm=>(h 40 hm).1 rfl
mutual
theorem ar.count:∀r:ar,r.good->r.text.count 40=r.pc
 | .w s,h=>OT h.2
 | .p l,h=>by
  have:=ar.counts l h
  simp only[ig,List.count_append,FH,this,p8]
  simp
theorem ar.counts:∀l:List ar,ar.goods l->((ar.texts l).map λt=>t.count 40).sum=ar.pcs l
 | [],_=>rfl
 |r::l,h=>by simp only[lZ,XD,Yq,ar.count r h.1,ar.counts l h.2,jO]
end
theorem Em(a b:List ar):ar.pcs (a++b)=ar.pcs a+ar.pcs b:=by induction a<;>simp_all [oG,jO];exact vl
mutual
theorem Tm.raw_pc:∀t:Tm,t.raw.pc=t.pc
 | .bS op []=>rfl
 | .bS op (k::ks)=>by simp only[zQ,pY,p8,jO,Tm.raws_pc (k::ks),zP];exact JQ
theorem Tm.raws_pc:∀ts:List Tm,ar.pcs (Tm.raws ts)=Tm.pcs ts
 | []=>rfl
 |t::ts=>by simp only[zR,jO,Tm.raw_pc t,Tm.raws_pc ts,r8]
end
theorem yz{p:Pp}{n:Nat}(h:ar.pcs p.sp=n):(jf p.eG p.sp).pc=(if p.eG then 1 else 0)+n:=by
 unfold jf
 cases hj:p.eG with
 |true=>simp only[if_true,pY,p8,jO,h];exact JQ
 |false=>
  have e:∃r,p.sp=[r]:=by cases p<;>first |exact fB _ rfl |cases hj
  refine aT e ?_;clear e;intro r hr
  rw[hr]at h ⊢
  simp only[oG,jO]at h
  simp;lia
mutual
theorem Pp.sp_pc:∀p:Pp,ar.pcs p.sp=p.spc
 | .cR w=>rfl
 | .cZ t=>by simp only[Eb,oG,jO,pY,p8,Tm.raw_pc,zu];exact Jt
 | .db w ps=>by
  have:ar.pcs (ps.flatMap λx=>[.w x.1,x.2.raw])=(ps.map λx=>x.2.pc).sum:=by
   induction ps with
   |nil=>rfl
   |cons x ps ih=>simp only[List.flatMap_cons,Em,ih,oG,jO,pY,Tm.raw_pc,XD,Yq];lia
  simp only[Ec,oG,jO,pY,p8,this,zv];exact Ju
 | .cH p=>by
  have:=yz (Pp.sp_pc p)
  simp only[Ed,oG,jO,pY,p8,this,Ef];exact Jt
 | .bG a b=>by
  have:=yz (Pp.sp_pc b)
  simp only[wB,Em,Pp.sp_pc a,oG,jO,this,Eg];lia
 | .cD w ps=>by simp only[Ee,oG,jO,pY,p8,Pp.sps_pc ps,Eh];exact Ju
theorem Pp.sps_pc:∀ps:List Pp,ar.pcs (Pp.sps ps)=Pp.spcs ps
 | []=>rfl
 |p::ps=>by
  have:=yz (Pp.sp_pc p)
  simp only[zx,jO,this,Pp.sps_pc ps,zw]
end
theorem Pp.MR(p:Pp)(h:p.good):p.cQ.text.count 40=p.cC false:=by rw[ar.count _ (p.D' h),wA];exact yz p.sp_pc
mutual
theorem Tm.eq_enc:∀t:Tm,gY t.enc t.enc=some true
 | .bS op ks=>by
  refine(?_:vh (some (decide (op=op))) (fY (Tm.encs ks) (Tm.encs ks))=_)
  rw[Tm.eq_encs ks,XT rfl];rfl
theorem Tm.eq_encs:∀ts:List Tm,fY (Tm.encs ts) (Tm.encs ts)=some true
 | []=>rfl
 |t::ts=>by
  refine(?_:vh (gY t.enc t.enc) (fY (Tm.encs ts) (Tm.encs ts))=_)
  rw[Tm.eq_enc t,Tm.eq_encs ts];rfl
end
theorem gH{x:V}(h:gY x x=some true)(h2:fY xs xs=some true):fY (x::xs) (x::xs)=some true:=by
 refine(?_:vh (gY x x) (fY xs xs)=_)
 rw[h,h2];rfl
theorem sA(h:fY xs xs=some true):gY (.t xs) (.t xs)=some true:=h
theorem qu:fY [] []=some true:=rfl
theorem mo(s:List Nat):gY (.s s) (.s s)=some true:=by refine(?_:some (decide (s=s))=_);rw[XT rfl]
mutual
theorem Pp.eq_enc:∀p:Pp,gY p.enc p.enc=some true
 | .cR w=>sA<|gH (mo _) (gH (mo _) qu)
 | .cZ t=>sA<|gH (mo _) (gH t.eq_enc qu)
 | .db w ps=>by
  have:fY (ps.map dG) (ps.map dG)=some true:=by
   induction ps with
   |nil=>rfl
   |cons x ps ih=>exact gH (x:=dG x) (gH (mo _) (gH x.2.eq_enc qu)) ih
  exact sA<|gH (mo _) (gH (mo _) (gH (x:=.t _) this qu))
 | .cH p=>sA<|gH (mo _) (gH (Pp.eq_enc p) qu)
 | .bG a b=>sA<|gH (mo _) (gH (Pp.eq_enc a) (gH (Pp.eq_enc b) qu))
 | .cD w ps=>sA<|gH (mo _) (gH (mo _) (gH (x:=.t _) (Pp.eq_encs ps) qu))
theorem Pp.eq_encs:∀ps:List Pp,fY (Pp.encs ps) (Pp.encs ps)=some true
 | []=>rfl
 |p::ps=>gH (Pp.eq_enc p) (Pp.eq_encs ps)
end
mutual
theorem Tm.v_dep:∀t:Tm,t.enc.dep<=t.dep
 | .bS op ks=>by have:=Tm.v_deps ks;simp only[uq,qg,qh,qj,r5];lia
theorem Tm.v_deps:∀ts:List Tm,V.deps (Tm.encs ts)<=Tm.deps ts
 | []=>Xx _
 |t::ts=>Nat.max_le.mpr ⟨Xs (Tm.v_dep t) (Nat.le_max_left ..),Xs (Tm.v_deps ts) (Nat.le_max_right ..)⟩
end
mutual
theorem Pp.v_dep:∀p:Pp,p.enc.dep<=2 * p.dep+1
 | .cR w=>by simp[MT,qg,qh,qi,qj,wu]
 | .cZ t=>by have:=t.v_dep;simp only[D4,qg,qh,qi,qj,pS];exact Jl (by lia)
 | .db w ps=>by
  have:V.deps (ps.map dG)<=(ps.map λx=>x.2.dep).foldr max 0+1:=by
   induction ps with
   |nil=>simp[qi]
   |cons x ps ih=>have:=x.2.v_dep;simp only[XD,qi,qj,qg,qh,List.foldr_cons]at *;exact qGy this ih
  simp only[D5,qg,qh,NX,qi,qj,pT];exact Jm (by lia)
 | .cH p=>by have:=Pp.v_dep p;simp only[D7,qg,qh,qi,qj,oA];exact Jl (by lia)
 | .bG a b=>YD (Nat.max_le.mpr ⟨Xw _,Nat.max_le.mpr ⟨gB (Pp.v_dep a) (Nat.le_max_left ..),Nat.max_le.mpr ⟨gB (Pp.v_dep b) (Nat.le_max_right ..),Xw _⟩⟩⟩)
 | .cD w ps=>by have:=Pp.v_deps ps;simp only[rL,qg,qh,qi,qj,oC];exact Jm (by lia)
theorem Pp.v_deps:∀ps:List Pp,V.deps (Pp.encs ps)<=2 * Pp.deps ps+1
 | []=>Xw _
 |p::ps=>Nat.max_le.mpr ⟨gA (Pp.v_dep p) (Nat.le_max_left ..),gA (Pp.v_deps ps) (Nat.le_max_right ..)⟩
end
theorem Bb(σ:aj)(p s:List Nat):gX σ .o (.s p) (.s s)=some (!gd p s):=rfl
theorem JS(d:Nat)(P:Pp)(hg:P.good)(hd:P.dep<=d)(hd2:d<=300)(hs:2 * P.sz<=aK)(σ:aj):aL (d+2) 50 [P.enc] σ (.b true) σ:=by
 have hlim:aK=1000000:=rfl
 have hlen:=P.Ea
 obtain⟨l,hl⟩:=P.M4
 have hraw:=P.D' hg
 refine cP (TL d l (by rw[hl]at hraw;exact hraw) (by rw[<-hl];lia) σ) λσ₁ v hp rr px=>?_
 rw[<-hl]at hp rr
 have h1:=yh (d+1) P (d5 hd) (vo hs) σ
 have h2:=vA (d+1) P (d5 hd) (vo hs) σ₁ [] v rr
 have h3:=vz (d+1) P (d5 hd) (vo hs) false σ₁
 refine cO (ar.text_ok _ hraw) λoa ob oc=>?_
 have o1:aD P.cQ.text:=by unfold aD;exact bT (qT hlen (vo hs))
 have ex:P.cQ.text=[40]++cy [32] (ar.texts l)++[41]:=by rw[hl];rfl
 have vr:∃a,v=.r a:=by rw[hl]at rr;simp only[rS]at rr;refine dY rr ?_;clear rr;intro a _ e _;exact fB a e
 refine aT vr ?_;clear vr;intro a q1;subst q1
 have hv:=P.v_dep
 have h4:P.enc.dep<=1000:=by lia
 have hne:gX σ₁ .n P.enc P.enc=some false:=by
  refine(?_:Option.map _ (oX σ₁ P.enc P.enc)=_)
  obtain⟨ys,hy⟩:=P.D8
  have:oX σ₁ P.enc P.enc=gY P.enc P.enc:=by rw[hy];rfl
  rw[this,P.eq_enc];rfl
 have hcnt:gX σ₁ .n (.i (P.cQ.text.count 40)) (.i (P.cC false))=some false:=by
  rw[P.MR hg]
  show some (!decide (_=_))=_
  simp
 have hs1:gd [32,32] P.cQ.text=false:=xE (.inl ⟨rfl,rfl⟩) oa
 have hs2:gd [40,32] P.cQ.text=false:=xE (.inr (.inl ⟨rfl,rfl⟩)) oa
 have hs3:gd [32,41] P.cQ.text=false:=xE (.inr (.inr ⟨rfl,rfl⟩)) oa
 refine fV (f:=GF) rfl rfl (ao (bh (cw (Xo (af rfl)) h1) bc) (ao (bh (cw (Xo (af rfl)) hp) bc)
  (ao (bC (σ₁:=σ₁) (rq (aY (af rfl) aq rfl (show dI .s _ from trivial)) (rq (aY (cw (Xo (af rfl)) h2) (af rfl) hne h4)
   (tO (aY (dp (af rfl) rfl (Xo aq) rfl (Sr o1)) (cw (ac.ah (af rfl) (Xo aq)) h3) hcnt (Xw _))))) aP)
   (be (bM (Ev.rp (aY aq (af rfl) (by rw[Bb,hs1];rfl) (show dI .o _ from trivial)) (Ev.rp (aY aq (af rfl) (by rw[Bb,hs2];rfl) (show dI .o _ from trivial)) (Ev.rp (aY aq (af rfl) (by rw[Bb,hs3];rfl) (show dI .o _ from trivial))
    (Ev.yM (aY (af rfl) (dp (af rfl) rfl ac.an rfl (SQ o1 (eE 40 (cy [32] (ar.texts l)++[41]) (by rw[ex];simp) (by decide+kernel)) (eE 41 ([40]++cy [32] (ar.texts l)) ex (by decide+kernel)))) (by rw[vE];simp) (Xw _))))))))))) px rfl
noncomputable abbrev Ho:List Nat:=[99,101,108,108,115]
noncomputable abbrev Hn:List Nat:=[98,108,101,110,100]
noncomputable def fd(c:Nat)(b:Int)(t:Nat):O:=.s [(Ho,.r c),(eV,.i t),(Hn,.i b)]
structure cq(a c:Nat)(b:Int)(cells:List Int)(t:Nat)(σ:aj):Prop where
 lQ:σ[a]? =some (fd c b t)
 WD:σ[c]? =some (.l (cells.map V.i))
 ne:a≠c
 v4:cells.length<=40
section
variable {d a c t:Nat}{b:Int}
theorem cq.eF(F:cq a c b cells t σ):cq a c b cells t' (σ.set a (fd c b t')):=⟨cS F.lQ,by rw[aV F.ne];exact F.WD,F.ne,F.v4⟩
theorem cq.lP(F:cq a c b cells t σ)(g:aj):cq a c b cells t (σ++g):=⟨bO _ _ F.lQ,bO _ _ F.WD,F.ne,F.v4⟩
theorem cq.lt(F:cq a c b cells t σ):a < σ.length:=(XZ F.lQ).1
theorem cq.Lv(F:cq a c b cells t σ):c < σ.length:=(XZ F.WD).1
theorem cq.Lx(F:cq a c b cells t σ):σ.set a (fd c b t)=σ:=qX F.lQ
theorem AR(s g:aj)(h:a < s.length):(s.set a (fd c b t)++g).set a (fd c b t')=s.set a (fd c b t')++g:=by
 rw[py (by simpa using h),Yr]
theorem GJ(F:cq a c b cells t σ):Pr (nT (.r a) (.s eV) σ) (.i t) σ:=mC F.lQ (by intro _ h;cases h) rfl
theorem AQ(F:cq a c b cells t σ):Pr (nT (.r a) (.s Ho) σ) (.r c) σ:=mC F.lQ (by intro _ h;cases h) rfl
theorem PP(F:cq a c b cells t σ):Pr (nT (.r a) (.s Hn) σ) (.i b) σ:=mC F.lQ (by intro _ h;cases h) rfl
theorem mF(F:cq a c b cells t σ)(ht:t<=100000){w:Int}(hw:0 < w):∃r:Int,0<=r/\r < w/\aL (d+1) 43 [.r a,.i w] σ (.i r) (σ.set a (fd c b (t+1))):=by
 have G:cq a c b cells (t+1) (σ.set a (fd c b (t+1))):=F.eF
 have hst:lY (mG (.r a) (.s eV) (.i ((t:Int)+1)) σ) (σ.set a (fd c b (t+1))):=mB F.lQ (by intro _ h;cases h) (by refine(?_:3<=aK);unfold aK;decide) rfl
 have s1:ai d 12 (.a (.s (.v 0) (.c (.s eV))) (.i .a (.s (.v 0) (.c (.s eV))) (.c (.i 1)))) (bf [.r a,.i w]) σ .n (bf [.r a,.i w]) (σ.set a (fd c b (t+1))):=
  bh (bX (bi (af rfl) aq (GJ F)) aq iy) (kX (af rfl) aq hst)
 have s2:ai d 12 (.a (.v 2) (.s (.v 0) (.c (.s eV)))) (bf [.r a,.i w]) (σ.set a (fd c b (t+1))) .n (au (bf [.r a,.i w]) 2 (.i ((t+1:Nat):Int))) (σ.set a (fd c b (t+1))):=
  bh (bi (af rfl) aq (GJ G)) bc
 have o1:aD (cells.map V.i):=by unfold aD;have:=F.v4;have:aK=1000000:=rfl;simp;lia
 have ev2:∀n,Ev d (n+1) (.v 2) (au (bf [.r a,.i w]) 2 (.i ((t+1:Nat):Int))) (σ.set a (fd c b (t+1))) (.i ((t+1:Nat):Int)) (σ.set a (fd c b (t+1))):=λn=>af rfl
 by_cases hc:t+1<=cells.length
 ·have hx:t < cells.length:=hc
  have hg:cells[t]? =some cells[t]:=Yu hx
  refine dK (cells[t] % w) (Int.emod_nonneg _ (Jv hw)) (Int.emod_lt_of_pos _ hw) ?_
  refine cI (f:=AK) rfl rfl (ao s1 (ao s2 (be (cX (aY (ev2 _) (ci rfl (Xo (bi (af rfl) aq (AQ G))) (fC G.WD o1)) ?_ (show dI .a _ from trivial))
   (be (bM (bX (bi (bi (af rfl) aq (AQ G)) (bX (ev2 _) aq j2) (dL (v:=.i cells[t]) G.WD ?_ ?_)) (af rfl) (sY hw))))))))
  ·show some (decide (((t+1:Nat):Int)<=((cells.map V.i).length:Int)))=some true
   simp;exact mE hc
  ·unfold dz bY;lia
  ·unfold dS
   rw[Xz (by lia)]
   have:(((t+1:Nat):Int) - 1).toNat=t:=by lia
   simp only[Option.bind_some,this,Yy,hg];rfl
 ·refine dK ((5 * ((t+1:Nat):Int) * ((t+1:Nat):Int)+11 * ((t+1:Nat):Int)+((t+1:Nat):Int) / 4+b) % 89 % w) (Int.emod_nonneg _ (Jv hw)) (Int.emod_lt_of_pos _ hw) ?_
  refine cI (f:=AK) rfl rfl (ao s1 (ao s2 (ao (bC (aY (ev2 _) (ci rfl (Xo (bi (af rfl) aq (AQ G))) (fC G.WD o1)) ?_ (show dI .a _ from trivial)) aP)
   (be (bM (bX (bX (bX (bX (bX (bX (bX aq (ev2 _) (Cl ?_)) (ev2 _) (Cl ?_)) (bX aq (ev2 _) (Cl ?_)) iy) (bX (ev2 _) aq (Sx (by decide) (by decide))) iy) (bi (af rfl) aq (PP G)) iy) aq (sY (by decide))) (af rfl) (sY hw)))))))
  ·show some (decide (((t+1:Nat):Int)<=((cells.map V.i).length:Int)))=some false
   simp;exact mE (Cy hc)
  ·unfold bY;lia
  ·unfold bY;lia
  ·unfold bY;lia
theorem uL(F:cq a c b cells t σ){g:aj}{v:V}(hv:∀m,v.lo m=true):nY σ (σ.set a (fd c b t')++g) (σ.set a (fd c b t')) v:=by
 refine⟨Yk _ _,by simp,hv _,λi o h=>?_⟩
 by_cases hi:a=i
 ·subst hi
  rw[cS F.lQ]at h;cases h
  have:=F.Lv
  exact .inr (by simp[MK,fd,jU,iJ,zW,sa,this])
 ·rw[aV hi]at h;exact .inl h
theorem Bu{n:Nat}{elt:Ex}{j:Nat}{ρ:aA}{ys:List V}(J:Nat->List V->aj->Prop)(step:∀k x acc σ,J (k+1) acc σ->∃v σ',Ev d n elt (au ρ j x) σ v σ'/\J k (acc++[v]) σ'/\acc.length<=aK):
  ∀(xs acc:List V) (σ:aj),J xs.length acc σ->∃acc' σ',cW d n elt (.v j) [] [] ρ (.bx ys) xs σ acc acc' σ'/\J 0 acc' σ'
 | [],acc,σ,h=>eE acc σ cW.mR h
 |x::xs,acc,σ,h=>by
  refine cP (step xs.length x acc σ h) λv σ₁ h1 h2 h3=>?_
  obtain⟨acc',σ',h4,h5⟩:=Bu J step xs (acc++[v]) σ₁ h2
  exact eE acc' σ' (cW.Wy (S:=.bx ys) rfl ej.oq (jE.pK h1 h3) trivial h4) h5
theorem JY(n:Int)(h:0<=n):(df 0 n 1).length=n.toNat:=by
 unfold df;simp
noncomputable def Zt:Nat->Nat
 |0=>7
 |h+1=>10+2 * (Zt h+1)
theorem E7:Zt 0=7:=rfl
theorem wW{h}:Zt (h+1)=10+2 * (Zt h+1):=rfl
noncomputable def Dt:Nat->Nat
 |0=>2
 |h+1=>2+2 * Dt h
theorem pF:Dt 0=2:=rfl
theorem nZ{h}:Dt (h+1)=2+2 * Dt h:=rfl
theorem Re(vs:List V){r:Int}(h0:0<=r)(h1:r < vs.length)(h2:vs.length<=10):dz r/\∃v∈vs,(dS r vs.length).bind (vs[·]?)=some v:=by
 have hx:r.toNat < vs.length:=by lia
 refine⟨by unfold dz bY;lia,vs[r.toNat],List.getElem_mem hx,?_⟩
 unfold dS
 rw[Xz h0]
 simp only[Option.bind_some,Yu hx]
theorem Gc(F:cq a c b cells t σ)(ht:t<=100000){n:Nat}(h0:ρ 0=some (.r a)){es:List Ex}(vs:List V)(hes:∀σ,ac (d+1) (n+1) es ρ σ vs σ){w:Int}(hw:0 < w)(hw2:w=vs.length)(h10:vs.length<=10):
  ∃v∈vs,Ev (d+1) (n+3) (.s (.d es) (.l 43 [(.v 0),(.c (.i w))])) ρ σ v (σ.set a (fd c b (t+1))++[.l vs]):=by
 refine c8 (mF (d:=d) (F.lP [.l vs]) ht hw) λr r0 r1 hr=>?_
 obtain⟨hb,v,hv,hg⟩:=Re vs r0 (by lia) h10
 rw[py F.lt]at hr
 exact aC v hv (bi (du (hes σ)) (cw (ac.ah (af h0) (Xo aq)) hr) (dL (xs:=vs) (by have:=aX (σ:=σ.set a (fd c b (t+1))) (o:=.l vs);rw[XN]at this;exact this) hb hg))
noncomputable def qM(h:Nat)(x:Tm):Prop:=x.good/\x.dep<=h+1/\x.sz<=Zt h
theorem VM{h:Nat}{x:Tm}(k:qM h x):qM (h+1) x:=⟨k.1,by have:=k.2.1;exact d5 this,by have:=k.2.2;simp only[wW];lia⟩
theorem Hz{v:V}(h:v∈[V.s [97],V.s [98,50],V.s [45,62],V.s [116,111,108,100]]):∃x:Tm,x.enc=.t [v]/\qM 0 x:=by
 simp only[Yt,Ye,or_false]at h
 rcases h with rfl |rfl |rfl |rfl
 ·exact eX (.bS [97] []) rfl (⟨dR rfl,trivial⟩) (by decide) (by decide)
 ·exact eX (.bS [98,50] []) rfl (⟨dR rfl,trivial⟩) (by decide) (by decide)
 ·exact eX (.bS [45,62] []) rfl (⟨dR rfl,trivial⟩) (by decide) (by decide)
 ·exact eX (.bS [116,111,108,100] []) rfl (⟨dR rfl,trivial⟩) (by decide) (by decide)
theorem NI{x y:List Tm}:Tm.goods (x++y)↔Tm.goods x/\Tm.goods y:=by
 induction x with
 |nil=>simp[NH]
 |cons t ts ih=>simp only[Zb,NJ,ih,and_assoc]
theorem NG(x y:List Tm):Tm.deps (x++y)=max (Tm.deps x) (Tm.deps y):=by induction x<;>simp_all [EL,wP]
theorem NP(x y:List Tm):Tm.szs (x++y)=Tm.szs x+Tm.szs y:=by induction x<;>simp_all [wR,oN];exact vl
theorem yf:∀(h d:Nat) {t:Nat} {σ:aj},cq a c b cells t σ->h<=d->t+Dt h<=100000->∃(x:Tm) (t':Nat),qM h x/\t<=t'/\t'<=t+Dt h/\aL (d+2) 44 [.r a,.i h] σ x.enc (σ.set a (fd c b t'))
 |0,d,t,σ,F,_,ht=>by
  simp only[pF]at ht
  let ρ:=au (bf [.r a,.i ((0:Nat):Int)]) 2 (.i 0)
  refine az (Gc (d:=d) (n:=26) F (bT ht) (ρ:=ρ) rfl [V.s [97],V.s [98,50],V.s [45,62],V.s [116,111,108,100]] (λσ=>ac.ah aq (ac.ah aq (ac.ah aq (Xo aq)))) (w:=4) (by decide) rfl (by decide)) λv hv ev=>?_
  refine az (Hz hv) λx hx ok=>?_
  refine di x (t+1) ok iO (by simp only[pF];exact Cz rfl) ?_
  rw[hx]
  have hl:∀m,V.lo m (.t [v])=true:=λm=>by rw[<-hx];exact x.lo_enc m
  exact aL.lj (f:=xq) (fl:=.r (.t [v])) rfl rfl (ao (bh (jh (aY (af rfl) aq rfl (show dI .g _ from trivial)) aq) bc)
   (be (cX (aY (af rfl) aq rfl (show dI .l _ from trivial)) (be (bM (bI (Xo ev))))))) (uL F hl)
 |h+1,d,t,σ,F,hd,ht=>by
  have hlim:aK=1000000:=rfl
  simp only[nZ]at ht
  refine c8 (mF (d:=d) F (bT ht) (w:=4) (by decide)) λr r0 r1 hr=>?_
  have F1:cq a c b cells (t+1) (σ.set a (fd c b (t+1))):=F.eF
  let ρ:=au (bf [.r a,.i ((h+1:Nat):Int)]) 2 (.i r)
  have hway:ai (d+1) 12 (.a (.v 2) (.f (.p .g (.v 1) (.c (.i 0))) (.l 43 [(.v 0),(.c (.i 4))]) (.c (.i 0)))) (bf [.r a,.i ((h+1:Nat):Int)]) σ .n ρ (σ.set a (fd c b (t+1))):=
   bh (jD (aY (af rfl) aq (by refine(?_:some (decide ((0:Int) < ((h+1:Nat):Int)))=some true);simp) (show dI .g _ from trivial)) (cw (ac.ah (af rfl) (Xo aq)) hr)) bc
  by_cases h2:r < 2
  ·refine az (Gc (d:=d) (n:=26) F1 (jb (bT (vt ht))) (ρ:=ρ) rfl [V.s [97],V.s [98,50],V.s [45,62],V.s [116,111,108,100]] (λσ=>ac.ah aq (ac.ah aq (ac.ah aq (Xo aq)))) (w:=4) (by decide) rfl (by decide)) λv hv ev=>?_
   rw[Yr]at ev
   refine az (Hz hv) λx hx ok=>?_
   have ok':qM (h+1) x:=⟨ok.1,by have:=ok.2.1;lia,by have:=ok.2.2;simp only[E7,wW]at *;exact d5 (bP this rfl)⟩
   refine di x (t+1+1) ok' (bT iO) (by simp only[nZ];lia) ?_
   rw[hx]
   have hl:∀m,V.lo m (.t [v])=true:=λm=>by rw[<-hx];exact x.lo_enc m
   exact aL.lj (f:=xq) (fl:=.r (.t [v])) rfl rfl (ao hway (be (cX (aY (af rfl) aq (by refine(?_:some (decide (r < 2))=some true);simp[h2]) (show dI .l _ from trivial)) (be (bM (bI (Xo ev))))))) (uL F hl)
  ·let s1:aj:=σ.set a (fd c b (t+1))
   let l2:O:=.l [.s [102],.s [117,110,100,101,114]]
   have hop:∃op,ip op/\op.length<=5/\dz (r - 2)/\(dS (r - 2) 2).bind (([V.s [102],V.s [117,110,100,101,114]])[·]?)=some (V.s op):=by
    have:r=2∨r=3:=by lia
    rcases this with rfl |rfl
    ·exact eX ([102]) (dR rfl) (by decide) (by unfold dz bY;lia) rfl
    ·exact eX ([117,110,100,101,114]) (dR rfl) (by decide) (by unfold dz bY;lia) rfl
   refine hX hop ?_;clear hop;intro op og ol ob oe
   have ea:Ev (d+1) 28 (.s (.d [(.c (.s [102])),(.c (.s [117,110,100,101,114]))]) (.i .s (.v 2) (.c (.i 2)))) ρ s1 (.s op) (s1++[l2]):=
    bi (du (ac.ah aq (Xo aq))) (bX (af rfl) aq j2) (dL aX ob oe)
   let J:Nat->List V->aj->Prop:=λk acc s=>∃(ts:List Tm) (t':Nat),acc=ts.map Tm.enc/\Tm.goods ts/\Tm.deps ts<=h+1/\Tm.szs ts<=ts.length * (Zt h+1)/\k+ts.length<=2/\t+1<=t'/\t'<=t+1+ts.length * Dt h/\s=σ.set a (fd c b t')++[l2]
   have mulk:∀k x:Nat,k<=2->k * x<=2 * x:=λk x hk=>Y9 x hk
   obtain⟨acc,s2,hit,ts,t',rfl,g1,g2,g3,g4,g5,g6,rfl⟩:=Bu (d:=d+1) (n:=27) (elt:=.l 44 [(.v 0),(.i .s (.v 1) (.c (.i 1)))]) (j:=3) (ρ:=ρ) (ys:=df 0 (r - 1) 1) J (λk x acc s hJ=>by
    refine Iu hJ ?_;clear hJ;intro ts t' q2 g1 g2 g3 g4 g5 g6 q9;subst q2;subst q9
    have k1:=mulk ts.length (Dt h) (cG g4)
    have b1:ts.length * Dt h+Dt h<=2 * Dt h:=by
     have:ts.length=0∨ts.length=1:=Jw g4
     rcases this with e |e<;>rw[e]<;>lia
    refine dk (yf h (d - 1) (t:=t') (σ:=σ.set a (fd c b t')++[l2]) (F.eF.lP _) (by lia) (by lia)) λx' t'' ok t1 t2 ht'=>?_
    rw[AR _ _ F.lt]at ht'
    have ed:d - 1+2=d+1:=by lia
    rw[ed]at ht'
    refine dN x'.enc _ (cw (ac.ah (af rfl) (Xo (bX (af rfl) aq j2))) (by rw[show(((h+1:Nat):Int) - 1)=(h:Int) by exact qW];exact ht')) (BP (ts++[x']) t'' (by simp) (NI.mpr ⟨g1,ok.1,trivial⟩) ?_ ?_ (by simp;exact tf (hY g4)) (qT g5 t1) ?_ rfl) (by simp;exact cG (qT g4 (qS hlim)))
    ·have:=ok.2.1;simp only[NG,EL,wP];exact Jx g2 this
    ·have:=ok.2.2;simp only[NP,wR,oN,Xv,Xy,XY,Nat.add_mul];lia
    ·simp only[Xv,Xy,XY,Nat.add_mul];lia) (df 0 (r - 1) 1) [] (s1++[l2]) (BP ([]) (t+1) rfl trivial (Xw _) (Xw _) (by rw[JY _ (by lia)];simp;lia) (Xx _) (by simp) rfl)
   have k1:=mulk ts.length (Dt h) (cG g4)
   have k2:=mulk ts.length (Zt h+1) (cG g4)
   have ok:qM (h+1) (.bS op ts):=⟨⟨og,g1⟩,by simp only[r5];exact qR g2,by simp only[oM,wW];lia⟩
   have o1:aD (ts.map Tm.enc):=by unfold aD;simp;exact cG (qT g4 (qS hlim))
   have o2:aD ([V.s op]++ts.map Tm.enc):=by unfold aD;simp;lia
   have he:(Tm.bS op ts).enc=.t ([V.s op]++ts.map Tm.enc):=by simp only[uq,oL];rfl
   refine di (.bS op ts) t' ok (bT g5) (by simp only[nZ];lia) ?_
   have hl:∀m,V.lo m (.t ([V.s op]++ts.map Tm.enc))=true:=λm=>by rw[<-he];exact Tm.lo_enc m _
   rw[he]
   refine aL.lj (f:=xq) (fl:=.r (.t ([V.s op]++ts.map Tm.enc))) rfl rfl (ao hway (ao (bC (aY (af rfl) aq (by refine(?_:some (decide (r < 2))=some false);simp;lia) (show dI .l _ from trivial)) aP)
    (be (bM (bX (bI (Xo ea)) (ci rfl (Xo (dU (pR (bX (af rfl) aq j2) (by lia) (by unfold bY;lia)) hit)) (j3 aX o1)) (vk o2)))))) ?_
   rw[XU]
   exact uL F hl
noncomputable def Dd:Nat->Nat
 |0=>17
 |h+1=>5+2 * Dd h+85
theorem vW:Dd 0=17:=rfl
theorem yI{h}:Dd (h+1)=5+2 * Dd h+85:=rfl
noncomputable def Zp:Nat->Nat
 |0=>110
 |h+1=>2 * Zp h+650
theorem uv:Zp 0=110:=rfl
theorem uw{h}:Zp (h+1)=2 * Zp h+650:=rfl
noncomputable def Ep:Nat->Nat
 |0=>4
 |h+1=>Ep h+7
theorem vY:Ep 0=4:=rfl
theorem tL{h}:Ep (h+1)=Ep h+7:=rfl
structure nE(h:Nat)(p:Pp):Prop where
 Wt:p.good
 Ws:p.dep<=Ep h
 Wu:p.sz<=Zp h
theorem Ld:∀h,17<=Dd h
 |0=>Xx _
 |h+1=>by simp only[yI];exact gh
theorem se:∀h,110<=Zp h/\4<=Ep h
 |0=>⟨Xx _,Xx _⟩
 |h+1=>by have:=se h;simp only[uw,tL];exact qI gh gh
theorem nE.RS{p:Pp}(k:nE 0 p)(h:Nat):nE h p:=⟨k.Wt,Xs k.Ws (se h).2,Xs k.Wu (se h).1⟩
theorem Ay(F:cq a c b cells t σ)(ht:t<=100000){n:Nat}(h0:ρ 0=some (.r a)):
  ∃w:List Nat,ip w/\w.length<=4/\Ev (d+1) (n+3) (.s (.h 0) (.l 43 [(.v 0),(.c (.i 5))])) ρ σ (.s w) (σ.set a (fd c b (t+1))):=by
 refine c8 (mF (d:=d) F ht (w:=5) (by decide)) λr r0 r1 hr=>?_
 have hw:∃w:List Nat,ip w/\w.length<=4/\dz r/\(dS r 5).bind (([V.s [108,48],V.s [115,97,109,101],V.s [106,111,105,110],V.s [116,117,114,110],V.s [114,39]])[·]?)=some (V.s w):=by
  have:r=0∨r=1∨r=2∨r=3∨r=4:=by lia
  rcases this with rfl |rfl |rfl |rfl |rfl
  ·exact eX _ (dR (w:=[108,48]) rfl) (by decide) (by unfold dz bY;lia) rfl
  ·exact eX _ (dR (w:=i6) rfl) (by decide) (by unfold dz bY;lia) rfl
  ·exact eX _ (dR (w:=dA) rfl) (by decide) (by unfold dz bY;lia) rfl
  ·exact eX _ (dR (w:=eV) rfl) (by decide) (by unfold dz bY;lia) rfl
  ·exact eX _ (dR (w:=[114,39]) rfl) (by decide) (by unfold dz bY;lia) rfl
 refine hX hw ?_;clear hw;intro w wg wl wb we
 exact dK w wg wl (bi (vZ rfl) (cw (ac.ah (af h0) (Xo aq)) hr) (c9 wb we))
theorem pA{n:Nat}{r k:Int}(h:ρ 2=some (.i r))(v:Bool)(hv:decide (r=k)=v):Ev d 30 (.p .e (.v 2) (.c (.i k))) ρ σ (.b v) σ:=aY (af h) aq (by refine(?_:some _=_);rw[hv]) (Xw _)
theorem FN(F:cq a c b cells t σ)(ht:t+16<=100000)(h0:ρ 0=some (.r a)){r:Int}(h2:ρ 2=some (.i r))(hr0:0<=r)(hr3:r < 3):
  ∃(p:Pp) (t':Nat) (g:aj) (ρ':aA),nE 0 p/\t<=t'/\t'<=t+16/\ae (d+4) 12 (sB.dZ.drop 1) ρ σ (.r p.enc) ρ' (σ.set a (fd c b t')++g):=by
 have hlim:aK=1000000:=rfl
 have cases3:r=0∨r=1∨r=2:=by lia
 rcases cases3 with rfl |rfl |rfl
 ·refine c8 (Ay (d:=d+3) (n:=26) F (bT ht) h0) λw wg wl ew=>?_
  refine kL (.cR w) (t+1) ([]) ρ (⟨wg,by refine(?_:1<=4);exact gh,by simp only[zy,uv];exact ja wl rfl⟩) iO (Cz rfl) ?_
  rw[Yi]
  exact be (cX (pA (n:=0) h2 true rfl) (be (bM (bI (ac.ah aq (Xo ew))))))
 ·refine dk (yf 2 (d+2) F gh (by simp only[pF,nZ];exact vq ht rfl)) λx t' ok t1 t2 hx=>?_
  simp only[pF,nZ]at t2
  refine kL (.cZ x) t' ([]) ρ (⟨ok.1,by have:=ok.2.1;simp only[pS,vY];exact vm this,by have:=ok.2.2;simp only[rN,uv,E7,wW]at *;exact ja this rfl⟩) t1 (Jn t2 rfl) ?_
  rw[Yi]
  exact ao (bC (pA (n:=0) h2 false rfl) aP) (be (cX (pA (n:=0) h2 true rfl) (be (bM (bI (ac.ah aq (Xo (cw (ac.ah (af h0) (Xo aq)) hx))))))))
 ·refine dk (yf 1 (d+2) F gh (by simp only[pF,nZ];exact vq ht rfl)) λx1 t1 ok1 a1 b1 hx1=>?_
  refine dk (yf 1 (d+2) (t:=t1) (σ:=σ.set a (fd c b t1)) F.eF gh (by simp only[pF,nZ]at *;exact qGq b1 ht rfl)) λx2 t2 ok2 a2 b2 hx2=>?_
  rw[Yr]at hx2
  simp only[pF,nZ]at b1 b2
  let L:O:=.l [dG ([63,120],x1),dG ([63,121],x2)]
  have F2:cq a c b cells t2 (σ.set a (fd c b t2)++[L]):=F.eF.lP _
  refine c8 (mF (d:=d+3) F2 (by lia) (w:=3) (by decide)) λr r0 r1 hr=>?_
  rw[AR _ _ F.lt]at hr
  let some_:=[(([63,120]:List Nat),x1),([63,121],x2)].take r.toNat
  have etake:([dG ([63,120],x1),dG ([63,121],x2)]).take r.toNat=some_.map dG:=by rw[List.map_take];rfl
  let g2:aj:=[L]++[O.l (some_.map dG)]
  have es:Ev (d+4) 30 (.e (.d [(.t [(.c (.s [63,120])),(.l 44 [(.v 0),(.c (.i 1))])]),(.t [(.c (.s [63,121])),(.l 44 [(.v 0),(.c (.i 1))])])]) none (some (.l 43 [(.v 0),(.c (.i 3))]))) ρ σ
    (.r (σ.set a (fd c b (t2+1))++[L]).length) (σ.set a (fd c b (t2+1))++[L]++[O.l (some_.map dG)]):=by
   rw[<-etake]
   refine yP (du (ac.ah (bI (ac.ah aq (Xo (cw (ac.ah (af h0) (Xo aq)) hx1)))) (Xo (bI (ac.ah aq (Xo (cw (ac.ah (af h0) (Xo aq)) hx2)))))))
    (cw (ac.ah (af h0) (Xo aq)) hr) (Ja ?_ ⟨r0,by unfold bY;lia⟩ (by refine(?_:2<=aK);exact qS hlim))
   have:=aX (σ:=σ.set a (fd c b (t2+1))) (o:=L)
   rw[XN]at this ⊢;exact this
  let s3:aj:=σ.set a (fd c b (t2+1))++[L]++[O.l (some_.map dG)]
  have F3:cq a c b cells (t2+1) s3:=(F.eF.lP _).lP _
  let ρ3:=au ρ 3 (.r (σ.set a (fd c b (t2+1))++[L]).length)
  have h03:ρ3 0=some (.r a):=by refine(?_:au ρ 3 _ 0=_);rw[bR _ _ (by decide)];exact h0
  have h33:ρ3 3=some (.r (σ.set a (fd c b (t2+1))++[L]).length):=bw _ _ _
  refine c8 (Ay (d:=d+3) (n:=26) F3 (by lia) h03) λw wg wl ew=>?_
  refine c8 (mF (d:=d+3) (F3.eF (t':=t2+1+1)) (by lia) (w:=2) (by decide)) λq q0 q1 hq=>?_
  rw[Yr]at hq
  have s5:s3.set a (fd c b (t2+1+1+1))=σ.set a (fd c b (t2+1+1+1))++[L]++[O.l (some_.map dG)]:=by
   refine(?_:(σ.set a (fd c b (t2+1))++[L]++[O.l (some_.map dG)]).set a _=_)
   rw[py (by simp;have:=F.lt;exact d5 this),AR _ _ F.lt]
  have al:(σ.set a (fd c b (t2+1))++[L]).length=(σ.set a (fd c b (t2+1+1+1))++[L]).length:=by simp
  have sl:some_.length<=2:=by simp[some_];lia
  have o1:aD (some_.map dG):=by unfold aD;simp only[Xr];exact qT sl (qS hlim)
  have mem:∀x∈some_,ip x.1/\x.2.good/\x.2.dep<=2/\x.1.length=2/\x.2.sz<=26:=λx hx=>by
   have:=Zh hx
   simp only[Yt,Ye,or_false]at this
   rcases this with rfl |rfl
   ·exact BN (dR rfl) ok1.1 ok1.2.1 rfl ok1.2.2
   ·exact BN (dR rfl) ok2.1 ok2.2.1 rfl ok2.2.2
  have okr:∀ps:List (List Nat×Tm),ps.length<=2->(∀x∈ps,x∈some_)->nE 0 (.db w ps):=λps hl hm=>by
   refine⟨⟨wg,λx hx=>⟨(mem x (hm x hx)).1,(mem x (hm x hx)).2.1⟩⟩,?_,?_⟩
   ·have:∀l:List (List Nat×Tm),(∀x∈l,x.2.dep<=2)->(l.map λx=>x.2.dep).foldr max 0<=2:=λl=>by
     induction l with
     |nil=>intro _;simp
     |cons x l ih=>intro h;have:=ih (λy hy=>h y (XI _ hy));have:=h x (XH ..);simp only[XD,List.foldr_cons];lia
    have:=this ps λx hx=>(mem x (hm x hx)).2.2.1
    simp only[pT,vY];exact ja this rfl
   ·have:=yp (f:=λx:List Nat×Tm=>x.1.length+x.2.sz+5) (g:=λ_=>33) ps λx hx=>by have:=mem x (hm x hx);lia
    have e:(ps.map λ_=>33).sum=33 * ps.length:=by clear this hl hm;induction ps<;>simp_all;exact qGv
    simp only[pV,uv];lia
  have fin:∀ps:List (List Nat×Tm),(∃g:Nat×aj,Ev (d+4) 28 (.f (.p .e (.l 43 [(.v 0),(.c (.i 2))]) (.c (.i 1))) (.k (.v 3)) (.v 3)) ρ3 (s3.set a (fd c b (t2+1+1))) (.r g.1) (σ.set a (fd c b (t2+1+1+1))++g.2)/\(σ.set a (fd c b (t2+1+1+1))++g.2)[g.1]? =some (.l (ps.map dG)))->ps.length<=2->(∀x∈ps,x∈some_)->
    ∃(p:Pp) (t':Nat) (g:aj) (ρ':aA),nE 0 p/\t<=t'/\t'<=t+16/\ae (d+4) 12 (sB.dZ.drop 1) ρ σ (.r p.enc) ρ' (σ.set a (fd c b t')++g):=λps ⟨⟨ga,g⟩,hg,hgl⟩ hl hm=>by
   refine kL (.db w ps) (t2+1+1+1) g ρ3 (okr ps hl hm) (by lia) (by lia) ?_
   exact ao (bC (pA (n:=0) h2 false rfl) aP) (ao (bC (pA (n:=0) h2 false rfl) aP) (be (cX (pA (n:=0) h2 true rfl) (ao (bh es bc) (be (bM (bI (ac.ah aq (ac.ah ew (Xo (ci rfl (Xo hg) (j3 hgl (by unfold aD;simp;exact qT hl (qS hlim))))))))))))))
  have hcq:∀v,decide (q=1)=v->Ev (d+4) 27 (.p .e (.l 43 [(.v 0),(.c (.i 2))]) (.c (.i 1))) ρ3 (s3.set a (fd c b (t2+1+1))) (.b v) (s3.set a (fd c b (t2+1+1+1))):=λv hv=>aY (cw (ac.ah (af h03) (Xo aq)) hq) aq (by refine(?_:some _=_);rw[hv]) (Xw _)
  rw[s5]at hcq
  by_cases hq1:q=1
  ·refine fin some_.reverse (aC ⟨(σ.set a (fd c b (t2+1+1+1))++[L]++[O.l (some_.map dG)]).length,[L]++[O.l (some_.map dG)]++[O.l (some_.map dG).reverse]⟩ ?_ ?_) (by simpa using sl) (λx hx=>List.mem_reverse.mp hx)
   ·rw[<-XU,<-XU]
    refine jD (hcq true (by simp[hq1])) (yO (af h33) (Cp ?_ o1))
    rw[al];exact aX
   ·rw[<-XU,<-XU,aX,Zn]
  ·refine fin some_ (aC ⟨(σ.set a (fd c b (t2+1))++[L]).length,[L]++[O.l (some_.map dG)]⟩ ?_ ?_) sl (λx hx=>hx)
   ·rw[<-XU]
    exact jh (hcq false (by simp[hq1])) (af h33)
   ·rw[<-XU,al];exact aX
noncomputable abbrev Ah:List St:=[.a (.v 4) (.t [(.c (.s [106,111,105,110])),(.v 4),(.l 45 [(.v 0),(.f (.p .g (.v 5) (.c (.i 0))) (.c (.i 0)) (.i .s (.v 1) (.c (.i 1))))])])]
theorem J5{D:Nat}{ys:List V}(ih:∀{t:Nat} {σ:aj},cq a c b cells t σ->t+17<=100000->∃(p:Pp) (t':Nat),nE 0 p/\t<=t'/\t'<=t+17/\aL D 45 [.r a,.i 0] σ p.enc (σ.set a (fd c b t'))):
  ∀(l:List Nat) (e z t:Nat) (P:Pp) (ρ:aA) (σ:aj),(∀k∈l,0 < k)->cq a c b cells t σ->t+17 * l.length<=100000->P.good->P.dep<=e->4<=e->P.sz<=z->ρ 0=some (.r a)->ρ 4=some P.enc->
   ∃(P':Pp) (t':Nat) (ρ':aA),bF D 10 (.v 5) Ah (.bx ys) (l.map λk:Nat=>V.i k) ρ σ .n ρ' (σ.set a (fd c b t'))/\P'.good/\P'.dep<=e+l.length/\P'.sz<=z+120 * l.length/\t<=t'/\t'<=t+17 * l.length/\ρ' 4=some P'.enc
 | [],e,z,t,P,ρ,σ,_,F,_,g,h1,_,h2,_,h4=>qH P t ρ (by rw[F.Lx];exact fG (S:=.bx ys)) g h1 h2 (Xx _) (Xx _) h4
 |k::l,e,z,t,P,ρ,σ,hk,F,ht,g,h1,he,h2,h0,h4=>by
  simp only[Xy]at ht
  refine dk (ih F (by lia)) λq t₁ ok a1 b1 hq=>?_
  have k0:=hk k (XH ..)
  have oe:=ok.Ws
  have oz:=ok.Wu
  simp only[vY,uv]at oe oz
  refine vd (J5 (ys:=ys) ih l (e+1) (z+120) t₁ (.bG P q) (au (au ρ 5 (.i k)) 4 (Pp.bG P q).enc) (σ.set a (fd c b t₁)) (λx hx=>hk x (XI _ hx)) F.eF (by lia) ⟨g,ok.Wt⟩ (by simp only[kq];lia) (d5 he) (by simp only[jL];exact qR (qF h2 oz))
   (by rw[bR _ _ (by decide),bR _ _ (by decide)];exact h0) (bw _ _ _)) λP' t' ρ' h5 g' e' z' a2 b2 h4'=>?_
  rw[Yr]at h5
  refine qH P' t' ρ' (fc (S:=.bx ys) rfl (Xp (bh (v:=(Pp.bG P q).enc) (bI (ac.ah aq (ac.ah (af ?_) (Xo (cw (ac.ah (af ?_) (Xo (jD (aY (af (bw _ _ _)) aq ?_ (show dI .g _ from trivial)) aq))) hq))))) bc)) trivial h5) g' (by simp only[Xy];exact Jy e') (by simp only[Xy];lia) (qT a1 a2) (by simp only[Xy];lia) h4'
  ·rw[bR _ _ (by decide)];exact h4
  ·rw[bR _ _ (by decide)];exact h0
  ·show some (decide ((0:Int) < (k:Int)))=some true
   simp;exact k0
theorem T4(q:Int)(h:0<=q):∃l:List Nat,df 0 (1+q) 1=.i 0::l.map (λk:Nat=>V.i k)/\(∀k∈l,0 < k)/\l.length=q.toNat:=by
 refine dK ((List.range q.toNat).map (· +1)) ?_ (λk hk=>?_) (by simp)
 ·unfold df
  have:((1+q - 0+1 - 1:Int) / 1).toNat=q.toNat+1:=by lia
  rw[this,List.range_succ_eq_map]
  simp only[XD,XV]
  congr 1
  apply Y0
  intro x _
  simp
 ·refine az (Yf hk) λx _ q2=>?_;subst q2;exact gh
theorem MX{x y:List Pp}:Pp.goods (x++y)↔Pp.goods x/\Pp.goods y:=by
 induction x with
 |nil=>simp[MW]
 |cons t ts ih=>simp only[Zb,MY,ih,and_assoc]
theorem MS(x y:List Pp):Pp.deps (x++y)=max (Pp.deps x) (Pp.deps y):=by induction x<;>simp_all [D3,wx]
theorem M8(x y:List Pp):Pp.szs (x++y)=Pp.szs x+Pp.szs y:=by induction x<;>simp_all [wD,pX];exact vl
noncomputable abbrev Dh(a c:Nat)(b:Int)(h d t:Nat)(σ:aj):Prop:=∃(p:Pp) (t':Nat),nE h p/\t<=t'/\t'<=t+Dd h/\aL (d+h+5) 45 [.r a,.i h] σ p.enc (σ.set a (fd c b t'))
noncomputable abbrev DR(a c:Nat)(b:Int)(cells:List Int)(h:Nat):Prop:=∀(d t:Nat) (σ:aj),cq a c b cells t σ->t+Dd h<=100000->Dh a c b h d t σ
noncomputable abbrev im(a h:Nat)(r:Int):aA:=au (bf [.r a,.i ((h+1:Nat):Int)]) 2 (.i r)
noncomputable abbrev tK(a c:Nat)(b:Int)(h d t:Nat)(σ:aj)(r:Int):Prop:=∃(p:Pp) (t':Nat) (g:aj) (ρ':aA),nE (h+1) p/\t<=t'/\t'<=t+(4+2 * Dd h+85)/\ae (d+h+5) 12 (sB.dZ.drop 1) (im a h r) (σ.set a (fd c b t)) (.r p.enc) ρ' (σ.set a (fd c b t')++g)
variable {h:Nat}{r:Int}{n:Nat}
theorem hZ(k:Int)(hk:r≠k)(s:List St):ai d 12 (.i (.p .e (.v 2) (.c (.i k))) s []) (im a h r) σ .n (im a h r) σ:=bC (pA (n:=0) (bw _ _ _) false (Yb hk)) aP
theorem C4:Ev d 30 (.p .e (.v 2) (.c (.i r))) (im a h r) σ (.b true) σ:=pA (n:=0) (bw _ _ _) true (XT rfl)
theorem CZ:ac d (n+2) [(.v 0),(.i .s (.v 1) (.c (.i 1)))] (im a h r) σ [.r a,.i (h:Int)] σ:=ac.ah (af rfl) (Xo (by have:=bX (d:=d) (n:=n+1) (a:=.v 1) (b:=.c (.i 1)) (ρ:=im a h r) (σ:=σ) (af rfl) aq (j2 (m:=((h+1:Nat):Int)) (n:=1));rw[show(((h+1:Nat):Int) - 1)=(h:Int) by exact qW]at this;exact this))
theorem Ag:DR a c b cells 0:=λd t σ F ht=>by
 simp only[vW]at ht
 refine c8 (mF (d:=d+3) F (bT ht) (w:=3) (by decide)) λr r0 r1 hr=>?_
 refine pb (FN (d:=d) (t:=t+1) (σ:=σ.set a (fd c b (t+1))) F.eF ht (ρ:=au (bf [.r a,.i ((0:Nat):Int)]) 2 (.i r)) rfl (bw _ _ _) r0 r1) λp t' g ρ' ok a1 b1 hb=>?_
 rw[Yr]at hb
 exact di p t' ok (bT a1) (by simp only[vW];exact b1) (aL.lj (f:=sB) (fl:=.r p.enc) rfl rfl (ao (bh (jh (aY (af rfl) aq rfl (show dI .g _ from trivial)) (cw (ac.ah (af rfl) (Xo aq)) hr)) bc) hb) (uL F (Pp.lo_enc · p)))
theorem Pc(ih:DR a c b cells h)(F:cq a c b cells t0 σ)(ht:t+(4+2 * Dd h+85)<=100000):tK a c b h d t σ 3:=by
 refine dk (ih d t _ (F.eF (t':=t)) (Jz ht)) λq t' ok a1 b1 hq=>?_
 rw[Yr]at hq
 have oe:=ok.Ws
 have oz:=ok.Wu
 refine kL (.cH q) t' ([]) (im a h 3) (⟨ok.Wt,by simp only[oA,tL];exact x8 oe rfl,by simp only[rP,uw];lia⟩) a1 (by lia) ?_
 rw[Yi]
 exact ao (hZ 0 (by decide) _) (ao (hZ 1 (by decide) _) (ao (hZ 2 (by decide) _) (be (cX C4 (be (bM (bI (ac.ah aq (Xo (cw CZ hq))))))))))
theorem O9(ih:DR a c b cells h)(F:cq a c b cells t0 σ)(ht:t+(4+2 * Dd h+85)<=100000):tK a c b h d t σ 5:=by
 have dg:=Ld h
 have zg:=se h
 refine dk (Ag (d+h) t _ (F.eF (t':=t)) (by simp only[vW];exact jb (gj ht))) λp0 t1 ok0 a1 b1 hp0=>?_
 rw[Yr]at hp0
 simp only[vW]at b1
 refine dk (ih d t1 (σ.set a (fd c b t1)) F.eF (by lia)) λp1 t2 ok1 a2 b2 hp1=>?_
 rw[Yr]at hp1
 have oe0:=ok0.Ws
 have oz0:=ok0.Wu
 have oe1:=ok1.Ws
 have oz1:=ok1.Wu
 simp only[vY,uv]at oe0 oz0
 refine kL (.bG p0 p1) t2 ([]) (im a h 5) (⟨⟨ok0.Wt,ok1.Wt⟩,by simp only[kq,tL];lia,by simp only[jL,uw];lia⟩) (qT a1 a2) (by lia) ?_
 rw[Yi]
 exact ao (hZ 0 (by decide) _) (ao (hZ 1 (by decide) _) (ao (hZ 2 (by decide) _) (ao (hZ 3 (by decide) _) (ao (hZ 4 (by decide) _) (be (cX C4 (be (bM (bI (ac.ah aq (ac.ah (cw (ac.ah (af rfl) (Xo aq)) hp0) (Xo (cw CZ hp1)))))))))))))
theorem Pb(ih:DR a c b cells h)(F:cq a c b cells t0 σ)(ht:t+(4+2 * Dd h+85)<=100000):tK a c b h d t σ 4:=by
 have zg:=se h
 have hlim:aK=1000000:=rfl
 refine dk (ih d t _ (F.eF (t':=t)) (Jz ht)) λp0 t1 ok0 a1 b1 hp0=>?_
 rw[Yr]at hp0
 refine c8 (mF (d:=d+h+4) (F.eF (t':=t1)) (by lia) (w:=6) (by decide)) λq q0 q1 hq=>?_
 rw[Yr]at hq
 refine dk (ih d (t1+1) _ F.eF (by lia)) λp1 t2 ok1 a2 b2 hp1=>?_
 rw[Yr]at hp1
 refine c8 (T4 q q0) λl el lp ll=>?_
 have lq:l.length<=5:=by lia
 have oe0:=ok0.Ws
 have oz0:=ok0.Wu
 have oe1:=ok1.Ws
 have oz1:=ok1.Wu
 refine vd (J5 (D:=d+h+5) (ys:=df 0 (1+q) 1) (λ{t σ} F ht=>Ag (d+h) t σ F ht) l (Ep h+1) (2 * Zp h+10) t2 (.bG p0 p1) (au (au (au (im a h 4) 4 p0.enc) 5 (.i 0)) 4 (Pp.bG p0 p1).enc) (σ.set a (fd c b t2)) lp F.eF (by lia) ⟨ok0.Wt,ok1.Wt⟩ (by simp only[kq];lia) (d5 zg.2) (by simp only[jL];exact qR (ya oz0 oz1)) rfl (bw _ _ _)) λP' t' ρ' hl g' e' z' a3 b3 h4'=>?_
 rw[Yr]at hl
 refine kL P' t' ([]) ρ' (⟨g',by simp only[tL];lia,by simp only[uw];lia⟩) (by lia) (by lia) ?_
 rw[Yi]
 have cl:bF (d+h+5) 10 (.v 5) Ah (.bx (df 0 (1+q) 1)) (df 0 (1+q) 1) (au (im a h 4) 4 p0.enc) (σ.set a (fd c b (t1+1))) .n ρ' (σ.set a (fd c b t')):=by
  have cong:=fc (d:=d+h+5) (n:=10) (tg:=.v 5) (bd:=Ah) (ρ:=au (im a h 4) 4 p0.enc) (σ:=σ.set a (fd c b (t1+1))) (S:=.bx (df 0 (1+q) 1)) rfl (Xp (bh (v:=(Pp.bG p0 p1).enc) (bI (ac.ah aq (ac.ah (af rfl) (Xo (cw (ac.ah (af rfl) (Xo (jh (aY (af rfl) aq rfl (show dI .g _ from trivial)) (by
   have:=bX (d:=d+h+5) (n:=26) (a:=.v 1) (b:=.c (.i 1)) (ρ:=au (au (im a h 4) 4 p0.enc) 5 (.i 0)) (σ:=σ.set a (fd c b (t1+1))) (af rfl) aq (j2 (m:=((h+1:Nat):Int)) (n:=1));rw[show(((h+1:Nat):Int) - 1)=(h:Int) by exact qW]at this;exact this)))) hp1))))) bc)) trivial hl
  rw[<-el]at cong;exact cong
 exact ao (hZ 0 (by decide) _) (ao (hZ 1 (by decide) _) (ao (hZ 2 (by decide) _) (ao (hZ 3 (by decide) _) (be (cX C4 (ao (bh (cw CZ hp0) bc) (ao (fg (S:=.bx (df 0 (1+q) 1)) (pR (j:=1+q) (bX aq (cw (ac.ah (af rfl) (Xo aq)) hq) iy) (by lia) (by unfold bY;lia)) cl) (be (bM (af h4'))))))))))
structure DJ(a c:Nat)(b:Int)(σ:aj)(h t Xh:Nat)(Vw:List V)(Xi:aj)(ps:List Pp)(t':Nat):Prop where
 Vw:Vw=ps.map Pp.enc
 Xg:Pp.goods ps
 Xf:Pp.deps ps<=Ep h
 Xl:Pp.szs ps<=ps.length * (Zp h+2)
 Xh:Xh+ps.length<=2
 Xj:t<=t'
 Xk:t'<=t+ps.length * Dd h
 Xi:Xi=σ.set a (fd c b t')
theorem Pa(ih:DR a c b cells h)(F:cq a c b cells t σ)(ht:t0+2 * Dd h<=100000){k:Nat}{x:V}{acc:List V}{s:aj}(J:DJ a c b σ h t0 (k+1) acc s ps t'):
  ∃v s',Ev (d+h+5) 27 (.l 45 [(.v 0),(.i .s (.v 1) (.c (.i 1)))]) (au (im a h 6) 6 x) s v s'/\(∃ps t',DJ a c b σ h t0 k (acc++[v]) s' ps t')/\acc.length<=aK:=by
 obtain⟨rfl,g1,g2,g3,g4,g5,g6,rfl⟩:=J
 have b1:ps.length * Dd h+Dd h<=2 * Dd h:=by
  have:ps.length=0∨ps.length=1:=Jw g4
  rcases this with e |e<;>rw[e]<;>lia
 refine dk (ih d t' (σ.set a (fd c b t')) F.eF (by lia)) λp t'' ok a1 b1 hp=>?_
 rw[Yr]at hp
 refine dN p.enc _ (cw (ac.ah (af rfl) (Xo (bX (af rfl) aq j2))) (by rw[show(((h+1:Nat):Int) - 1)=(h:Int) by exact qW];exact hp)) (⟨ps++[p],t'',by simp,MX.mpr ⟨g1,ok.Wt,trivial⟩,?_,?_,by simp;exact tf (hY g4),qT g5 a1,?_,rfl⟩) (by have hlim:aK=1000000:=rfl;simp;exact cG (qT g4 (qS hlim)))
 ·have:=ok.Ws;simp only[MS,D3,wx];exact Jx g2 this
 ·have:=ok.Wu;simp only[M8,wD,pX,Xv,Xy,XY,Nat.add_mul];lia
 ·simp only[Xv,Xy,XY,Nat.add_mul];lia
theorem Pd(ih:DR a c b cells h)(F:cq a c b cells t0 σ)(ht:t+(4+2 * Dd h+85)<=100000):tK a c b h d t σ 6:=by
 have zg:=se h
 have hlim:aK=1000000:=rfl
 refine c8 (Ay (d:=d+h+4) (n:=26) (F.eF (t':=t)) (bT ht) (ρ:=im a h 6) rfl) λw wg wl ew=>?_
 rw[Yr]at ew
 refine c8 (mF (d:=d+h+4) (t:=t+1) (σ:=σ.set a (fd c b (t+1))) F.eF (jb ht) (w:=3) (by decide)) λq q0 q1 hq=>?_
 rw[Yr]at hq
 obtain⟨acc,s2,hit,ps,t',rfl,g1,g2,g3,g4,g5,g6,rfl⟩:=Bu (d:=d+h+5) (n:=27) (elt:=.l 45 [(.v 0),(.i .s (.v 1) (.c (.i 1)))]) (j:=6) (ρ:=im a h 6) (ys:=df 0 q 1) (λk acc s=>∃ps t',DJ a c b σ h (t+2) k acc s ps t') (λk x acc s ⟨ps,t',hJ⟩=>Pa (t0:=t+2) ih F (by lia) hJ)
  (df 0 q 1) [] (σ.set a (fd c b (t+2))) ⟨[],t+2,rfl,trivial,Xw _,Xw _,by rw[JY _ q0];simp;lia,Xx _,by simp,rfl⟩
 have k1:ps.length * Dd h<=2 * Dd h:=Y9 _ (cG g4)
 have k2:ps.length * (Zp h+2)<=2 * (Zp h+2):=Y9 _ (cG g4)
 have o1:aD (ps.map Pp.enc):=by unfold aD;simp;exact cG (qT g4 (qS hlim))
 refine kL (.cD w ps) t' ([.l (ps.map Pp.enc)]) (im a h 6) (⟨⟨wg,g1⟩,by simp only[oC,tL];exact x8 g2 rfl,by simp only[pW,uw];lia⟩) (bT g5) (by lia) ?_
 rw[show(Pp.cD w ps).enc=.t [.s gf,.s w,.t (ps.map Pp.enc)] by simp only[rL,rM]]
 exact ao (hZ 0 (by decide) _) (ao (hZ 1 (by decide) _) (ao (hZ 2 (by decide) _) (ao (hZ 3 (by decide) _) (ao (hZ 4 (by decide) _) (ao (hZ 5 (by decide) _) (be (bM (bI (ac.ah aq (ac.ah ew
  (Xo (ci rfl (Xo (dU (S:=.bx (df 0 q 1)) (pR (j:=q) (cw (ac.ah (af rfl) (Xo aq)) hq) (by lia) (by unfold bY;lia)) hit)) (j3 aX o1)))))))))))))
theorem Tp:∀h:Nat,DR a c b cells h:=λh=>by
 induction h with
 |zero=>exact Ag
 |succ h ih=>
  intro d t σ F ht
  simp only[yI]at ht
  refine c8 (mF (d:=d+h+4) F (bT ht) (w:=7) (by decide)) λr r0 r1 hr=>?_
  have B:tK a c b h d (t+1) σ r:=by
   by_cases c3:r < 3
   ·refine pb (FN (d:=d+h+1) (t:=t+1) (σ:=σ.set a (fd c b (t+1))) F.eF (jb (gj ht)) (ρ:=im a h r) rfl (bw _ _ _) r0 c3) λp t' g ρ' ok a1 b1 hb=>?_
    rw[Yr]at hb
    exact kL p t' g ρ' (ok.RS _) a1 (by lia) hb
   ·have c4:r=3∨r=4∨r=5∨r=6:=by lia
    rcases c4 with rfl |rfl |rfl |rfl
    ·exact Pc ih F (yd ht)
    ·exact Pb ih F (yd ht)
    ·exact O9 ih F (yd ht)
    ·exact Pd ih F (yd ht)
  refine pb B ?_;clear B;intro p t' g ρ' ok a1 b1 hb
  refine di p t' ok (bT a1) (by simp only[yI];lia) ?_
  rw[show d+(h+1)+5=(d+h+5)+1 by lia]
  exact aL.lj (f:=sB) (fl:=.r p.enc) rfl rfl (ao (bh (jD (aY (af rfl) aq (XB some (XT (Int.ofNat_succ_pos h))) (show dI .g _ from trivial)) (cw (ac.ah (af rfl) (Xo aq)) hr)) bc) hb) (uL F (Pp.lo_enc · p))
theorem Tz(h d:Nat)(F:cq a c b cells t σ)(ht:t+Dd h<=100000):Dh a c b h d t σ:=Tp h d t σ F ht
end
set_option genCtorIdx false in
inductive Rs where
 |mU (w:List Nat)
 |lr (x y:Nat)
 |iX
noncomputable def Rs.gC:Rs->V
 | .mU w=>.t [.s mw,.s w]
 | .lr x y=>.t [.s fQ,.s [114],.t [.t [.s [63,120],.i x],.t [.s [63,121],.i y]]]
 | .iX=>.t [.s [108,105,107,101]]
structure HS where
 KM:Nat
 cb:Nat
 tT:List (List KV×V)
 wj:List Nat
 wc:List Nat
 ua:Nat->Nat
 rt:Nat->Nat
 cV:Nat->List Nat
 jq:List (Nat×Nat)
 aM:List (Nat×Nat×Rs)
 bL:List Nat
 dH:List (List KV×V)
 bW:List Nat
 bz:Nat->List Nat
 dQ:List Nat
variable {H H':HS}
inductive Sl where
 |aJ |dW |eL |eU |gF |gE |un |c7 |fj |fL |fJ |fK |fh |cF |eZ
 |cY (i:Nat)
 |cj (r:Nat)
theorem cJ{s t:Sl}(h:Nat.beq s.ctorIdx t.ctorIdx=false):s≠t:=λe=>by rw[e,Nat.beq_refl]at h;cases h
noncomputable def bv:Nat->List Nat
 |0=>[97]
 |1=>[98]
 |2=>[102]
 |3=>[102]
 |_=>[103]
theorem Cd{P:List Nat->Prop}(h1:P [97])(h2:P [98])(h3:P [102])(h4:P [103])(x:Nat):P (bv x):=by rcases x with _|_|_|_|_<;>assumption
noncomputable def aN:Nat->List Nat
 |2=>[0]
 |3=>[1]
 |4=>[0,1]
 |5=>[1,0]
 |_=>[]
theorem By{P:List Nat->Prop}(h0:P [])(h1:P [0])(h2:P [1])(h3:P [0,1])(h4:P [1,0])(x:Nat):P (aN x):=by rcases x with _|_|_|_|_|_|_<;>assumption
theorem QI(x:Nat):aN x=[]∨2<=x:=by rcases x with _|_|x<;>first|exact .inl rfl|exact .inr (YQ 2 x)
noncomputable abbrev av(l:List Nat):List V:=l.map λn:Nat=>V.i (n:Int)
noncomputable def hU(n:Nat):V:=.t (.s (bv n)::av (aN n))
noncomputable def jV(e:Nat×Nat×Rs):V:=.t [.i e.1,.i e.2.1,e.2.2.gC]
structure Ad where
 yA:Sl->Nat
variable {A A':Ad}
noncomputable def HS.iF(A:Ad)(H:HS):Sl->O
 | .aJ=>.a 2 [(21,.o 0 (A.yA .dW)),(22,.o 1 (A.yA .un)),(23,.r (A.yA .fJ)),(24,.r (A.yA .fK)),(25,.r (A.yA .fh)),(17,.r (A.yA .cF)),(26,.r (A.yA .eZ)),(27,.i 0)]
 | .dW=>.a 0 [(10,.r (A.yA .eL)),(11,.r (A.yA .eU)),(12,.r (A.yA .gF)),(13,.r (A.yA .gE))]
 | .eL=>.l ((List.range H.cb).map hU)
 | .eU=>.t H.tT
 | .gF=>.l (av H.wj)
 | .gE=>.l (av H.wc)
 | .un=>.a 1 [(17,.r (A.yA .c7)),(18,.r (A.yA .fj)),(19,.r (A.yA .fL))]
 | .c7=>.l ((List.range H.KM).map λx=>.i (H.ua x:Int))
 | .fj=>.l ((List.range H.KM).map λx=>.r (A.yA (.cY x)))
 | .fL=>.l (H.jq.map λp:Nat×Nat=>.t [.i p.1,.i p.2])
 | .fJ=>.l (H.aM.map jV)
 | .fK=>.l (av H.bL)
 | .fh=>.t H.dH
 | .cF=>.d (H.bW.map λr:Nat=>((r:Int),V.r (A.yA (.cj r))))
 | .eZ=>.l (av H.dQ)
 | .cY i=>.l (av (H.cV i))
 | .cj r=>.l (av (H.bz r))
noncomputable def HS.ok(H:HS):Sl->Prop
 | .cY i=>i < H.KM
 | .cj r=>r∈H.bW
 |_=>True
structure HR(A:Ad)(H:HS)(σ:aj):Prop where
 eT:∀s t,H.ok s->H.ok t->A.yA s=A.yA t->s=t
 aZ:∀s,H.ok s->σ[A.yA s]? =some (H.iF A s)
section
variable {d n:Nat}
theorem HR.gy(R:HR A H σ)(g:aj):HR A H (σ++g):=⟨R.eT,λs h=>bO _ _ (R.aZ s h)⟩
theorem HR.lt(R:HR A H σ){s:Sl}(h:H.ok s):A.yA s < σ.length:=(XZ (R.aZ s h)).1
theorem HR.ke(R:HR A H σ){s:Sl}(hs:H.ok s){o:O}(hv:∀t,H'.ok t->H.ok t)(ho:H'.iF A s=o)(hn:∀t,t≠s->H'.ok t->H'.iF A t=H.iF A t):HR A H' (σ.set (A.yA s) o):=
 ⟨λa b ha hb=>R.eT a b (hv a ha) (hv b hb),λt ht=>by
  by_cases e:t=s
  ·subst e;rw[ho];exact cS (R.aZ t hs)
  ·rw[aV λh=>e (R.eT t s (hv t ht) hs h.symm),hn t e ht];exact R.aZ t (hv t ht)⟩
theorem yi{f:Nat->V}{m:Nat}(h:x < m):dz (x:Int)->(dS (x:Int) ((List.range m).map f).length).bind (((List.range m).map f)[·]?)=some (f x):=λ_=>by
 unfold dS
 rw[Xz (YX _)]
 simp[h]
theorem gG(h:x<=aK):dz (x:Int):=by unfold dz bY;unfold aK at h;lia
structure HI(H:HS):Prop where
 c6:H.KM<=6
 lh:∀x,x < H.KM->H.ua x<=x
 lT:∀x,x < H.KM->H.rt (H.ua x)=H.rt x
 iS:∀x,x < H.KM->H.ua x=x->H.rt x=x
 lS:∀x,x < H.KM->H.rt x<=x
 jp:∀x,x < H.KM->H.ua (H.rt x)=H.rt x
 cb:H.cb=H.KM
theorem HI.oj(I:HI H)(h:x < H.KM):x<=aK:=by have:=I.c6;unfold aK;exact j4 (qT h this) rfl
theorem HI.rc(I:HI H)(h:x < H.KM):H.rt x < H.KM:=YH (I.lS x h) h
theorem dy(R:HR A H σ):σ[A.yA .aJ]? =some (H.iF A .aJ):=R.aZ .aJ trivial
theorem vN(R:HR A H σ)(I:HI H)(h:x < H.KM)(h0:ρ 0=some (.o 1 (A.yA .un)))(h1:ρ 1=some (.i x)):Ev d (n+3) (.s (.a 17 (.v 0)) (.v 1)) ρ σ (.i (H.ua x)) σ:=
 bi (dw (af h0) rfl (R.aZ .un trivial) rfl) (af h1) (dL (R.aZ .c7 trivial) (gG (I.oj h)) (yi h (gG (I.oj h))))
theorem mr(a b:Nat):gX σ .n (.i a) (.i b)=some (!decide (a=b)):=by
 refine(?_:some (!decide ((a:Int)=b))=_)
 congr 2
 by_cases h:a=b<;>simp[h];exact th h
theorem sG(a b:Nat):gX σ .e (.i a) (.i b)=some (decide (a=b)):=by
 refine(?_:some (decide ((a:Int)=b))=_)
 congr 1
 by_cases h:a=b<;>simp[h];exact th h
theorem PV(R:HR A H σ)(I:HI H):∀(m x:Nat),x<=m->x < H.KM->∀ρ:aA,ρ 0=some (.o 1 (A.yA .un))->ρ 1=some (.i x)->
  ∃ρ',ai d 12 (.w (.p .n (.s (.a 17 (.v 0)) (.v 1)) (.v 1)) [.a (.v 1) (.s (.a 17 (.v 0)) (.v 1))]) ρ σ .n ρ' σ/\ρ' 1=some (.i (H.rt x)):=by
 intro m
 induction m with
 |zero=>
  intro x hx hc ρ h0 h1
  obtain rfl:x=0:=Nat.le_zero.mp hx
  have e:H.ua 0=0:=Nat.le_zero.mp (I.lh 0 hc)
  exact aC ρ (iY (aY (vN R I hc h0 h1) (af h1) (by rw[mr,e];rfl) (Xw _))) (by rw[I.iS 0 hc e];exact h1)
 |succ m ih=>
  intro x hx hc ρ h0 h1
  by_cases e:H.ua x=x
  ·exact aC ρ (iY (aY (vN R I hc h0 h1) (af h1) (by rw[mr,e];simp) (Xw _))) (by rw[I.iS x hc e];exact h1)
  ·have l:=I.lh x hc
   refine az (ih (H.ua x) (Nat.le_of_lt_succ (XJ (Nat.lt_of_le_of_ne l e) hx)) (YH l hc) (au ρ 1 (.i (H.ua x))) (by rw[bR _ _ (by decide)];exact h0) (bw _ _ _)) λρ' h g=>?_
   exact aC ρ' (l7 (aY (vN R I hc h0 h1) (af h1) (by rw[mr];simp[e]) (Xw _)) (Xp (bh (vN R I hc h0 h1) bc)) h) (by rw[g,I.lT x hc])
theorem tq(d:Nat)(R:HR A H σ)(I:HI H)(h:x < H.KM):aL (d+1) 13 [.o 1 (A.yA .un),.i x] σ (.i (H.rt x)) σ:=by
 refine az (PV (d:=d) R I x x (Xx _) h (bf [.o 1 (A.yA .un),.i x]) rfl rfl) λρ' h1 h2=>?_
 exact cI (f:=Gy) rfl rfl (ao h1 (be (bM (af h2))))
theorem ye(d:Nat)(R:HR A H σ)(I:HI H)(h:x < H.KM):aL (d+2) 23 [.o 2 (A.yA .aJ),.i x] σ (.i (H.rt x)) σ:=
 cI (f:=Go) rfl rfl (be (bM (bQ (dw (af rfl) rfl (dy R) rfl) (R.aZ .un trivial) rfl (Xo (af rfl)) (tq d R I h))))
theorem Tl(d:Nat)(R:HR A H σ)(I:HI H)(hx:x < H.KM)(hy:y < H.KM):aL (d+3) 24 [.o 2 (A.yA .aJ),.i x,.i y] σ (.b (decide (H.rt x=H.rt y))) σ:=
 cI (f:=Gm) rfl rfl (be (bM (aY (bQ (af rfl) (dy R) rfl (Xo (af rfl)) (ye d R I hx)) (bQ (af rfl) (dy R) rfl (Xo (af rfl)) (ye d R I hy)) (sG _ _) (Xw _))))
theorem Gd(R:HR A H σ)(I:HI H)(h:x < H.KM){e:Ex}(h0:ρ 0=some (.o 0 (A.yA .dW)))(h1:ρ 1=some (.i x)):Ev d (n+3) (.s (.a 10 (.v 0)) (.v 1)) ρ σ (hU x) σ:=
 bi (dw (af h0) rfl (R.aZ .dW trivial) rfl) (af h1) (dL (R.aZ .eL trivial) (gG (I.oj h)) (yi (by rw[I.cb];exact h) (gG (I.oj h))))
theorem g9(x:Nat):(aN x).length<=2:=By (P:=λl=>l.length<=2) (by decide) (by decide) (by decide) (by decide) (by decide) x
theorem vy(d:Nat)(R:HR A H σ)(I:HI H)(h:x < H.KM):aL (d+1) 7 [.o 0 (A.yA .dW),.i x] σ (.s (bv x)) σ:=
 cI (f:=Gj) rfl rfl (be (bM (bi (Gd (e:=.v 0) R I h rfl rfl) aq (c9 (bg rfl) rfl))))
theorem tj(d:Nat)(R:HR A H σ)(I:HI H)(h:x < H.KM):aL (d+1) 8 [.o 0 (A.yA .dW),.i x] σ (.t (av (aN x))) σ:=by
 have hk:=g9 x
 have hl:(V.s (bv x)::av (aN x)).length<=3:=by simp;exact hk
 exact cI (f:=Gi) rfl rfl (be (bM (ji (Gd (e:=.v 0) R I h rfl rfl) (aq (v:=.i 1)) (pi (xs:=.s (bv x)::av (aN x)) ⟨by decide,by simp;exact nP⟩ (Xs hl (by unfold aK;decide))))))
theorem nv(x:Nat)(h:x < H.KM):∀k∈aN x,k < H.KM:=λk hk=>(QI x).elim (λe=>absurd (e▸hk) Ye) λe=>XJ (By (P:=λl=>∀k∈l,k < 2) (by decide) (by decide) (by decide) (by decide) (by decide) x k hk) (Xs e (Yj h))
noncomputable def iM(H:HS)(x:Nat):List KV:=.inl (bv x)::(aN x).map λk=>.inr (H.rt k:Int)
theorem Hu(H:HS)(x:Nat):eW (.s (bv x)::(aN x).map λk=>V.i (H.rt k:Int))=some (iM H x):=
 have:∀l:List Nat,eW (l.map λk=>V.i (H.rt k:Int))=some (l.map λk=>.inr (H.rt k:Int)):=λl=>by
  induction l with
  |nil=>rfl
  |cons a l ih=>exact Ht rfl ih
 Ht rfl (this _)
theorem TG(d:Nat)(R:HR A H σ)(I:HI H)(h:x < H.KM):aL (d+3) 19 [.o 2 (A.yA .aJ),.i x] σ (.t (.s (bv x)::(aN x).map λk=>V.i (H.rt k:Int))) σ:=by
 have hk:=g9 x
 have o0:aD (av (aN x)):=Xs (by simp;exact hk) (by unfold aK;decide:2<=aK)
 have o1:aD ((aN x).map λk=>V.i (H.rt k:Int)):=Xs (by simp;exact hk) (by unfold aK;decide:2<=aK)
 have o2:aD ([V.s (bv x)]++(aN x).map λk=>V.i (H.rt k:Int)):=Xs (by simp;exact hk) (by unfold aK;decide:3<=aK)
 have hit:=gJ (d:=d+2) (n:=27) (elt:=.m 20 (.v 0) [(.v 2)]) (tg:=.v 2) (ρ:=bf [.o 2 (A.yA .aJ),.i x]) (σ:=σ) (S:=.bx (av (aN x))) (λ_=>rfl) (λ_=>trivial) (λk:Nat=>V.i (k:Int)) (λk=>V.i (H.rt k:Int)) (aN x)
  (λk hk=>aC _ rfl (bQ (af rfl) (dy R) rfl (Xo (af rfl)) (ye d R I (nv x h k hk)))) [] o0
 rw[X0]at hit
 exact fV (f:=Gs) rfl rfl (be (bM (bX (bI (Xo (bQ (dw (af rfl) rfl (dy R) rfl) (R.aZ .dW trivial) rfl (Xo (af rfl)) (vy _ R I h))))
  (ci rfl (Xo (dU (jK (bQ (dw (af rfl) rfl (dy R) rfl) (R.aZ .dW trivial) rfl (Xo (af rfl)) (tj _ R I h)) o0) hit)) (j3 aX o1)) (vk o2)))) (Yk _ _) (by
   have:∀(m:Nat) (l:List Nat),V.loAll m (l.map λk=>V.i (H.rt k:Int))=true:=λm l=>by induction l<;>simp_all [jU,iJ,sa]
   exact this _ _)
end
structure Tw(σ τ:aj):Prop where
 ur:τ.length=σ.length
 wS:∀(i:Nat) (o:O),τ[i]? =some o->σ[i]? =some o∨∀m,o.lo m=true
section
variable {d n:Nat}{v:V}{o:O}
theorem ET(σ:aj):Tw σ σ:=⟨rfl,λ_ _ h=>.inl h⟩
theorem Tw.r9(t:Tw σ τ){a:Nat}(ho:∀m,o.lo m=true):Tw σ (τ.set a o):=⟨by rw[XN];exact t.ur,λi q h=>by
 by_cases e:a=i
 ·subst e
  have hl:a < τ.length:=by have:=(XZ h).1;rwa [XN]at this
  rw[Zz hl]at h;cases h;exact .inr ho
 ·rw[Y4 e]at h;exact t.wS i q h⟩
theorem Tw.NU(t:Tw σ τ)(g:aj)(hv:∀m,v.lo m=true):nY σ (τ++g) τ v:=⟨Yk _ _,Yd t.ur.symm,hv _,λi o h=>(t.wS i o h).imp id λh=>h _⟩
theorem NV(t:Tw σ τ)(g h:aj)(hv:∀m,v.lo m=true):nY σ (τ++g++h) τ v:=by rw[XU];exact t.NU _ hv
theorem VF(a:Tw σ τ)(b:Tw τ υ):Tw σ υ:=⟨b.ur.trans a.ur,λi o h=>(b.wS i o h).elim (a.wS i o) .inr⟩
theorem HW(l:List Nat):∀m,(O.l (av l)).lo m=true:=λm=>by
 refine(?_:V.loAll m (av l)=true)
 induction l<;>simp_all [jU,iJ,sa]
theorem HV(l:List Nat)(f:Nat->Nat):∀m,(O.l (l.map λx=>.i (f x:Int))).lo m=true:=λm=>by
 refine(?_:V.loAll m _=true)
 induction l<;>simp_all [jU,iJ,sa]
theorem HY(l:List (Nat×Nat)):∀m,(O.l (l.map λp:Nat×Nat=>.t [.i p.1,.i p.2])).lo m=true:=λm=>by
 refine(?_:V.loAll m _=true)
 induction l<;>simp_all [jU,iJ,oO,sa]
theorem CN{a:Nat}{g h:aj}(hl:a < σ.length):(σ++g++h).set a o=σ.set a o++g++h:=by rw[py (by simp;exact d5 hl),py hl]
noncomputable def cm(f:Nat->α)(i:Nat)(v:α):Nat->α:=λj=>if j=i then v else f j
theorem gq{f:Nat->α}{i:Nat}{v:α}:cm f i v i=v:=Xz rfl
theorem eS{f:Nat->α}{i j:Nat}{v:α}(h:j≠i):cm f i v j=f j:=XC h
theorem T7{f:Nat->β}{m i:Nat}{v:β}(h:i < m):((List.range m).map f).set i v=(List.range m).map (cm f i v):=by
 apply List.ext_getElem?
 intro j
 by_cases e:i=j
 ·subst e
  rw[Zz (by simpa using h),Yy,List.getElem?_range h];simp[cm]
 ·rw[Y4 e,Yy,Yy]
  cases hj:(List.range m)[j]? with
  |none=>rfl
  |some k=>
   have hk:k=j:=by
    have:=(XZ hj).2;simpa using this.symm
   subst hk
   simp[cm,Yv e]
noncomputable def HS.wi(H:HS)(k g:Nat):HS:={H with ua:=cm H.ua g k,rt:=λx=>if H.rt x=g then k else H.rt x,cV:=cm H.cV k (H.cV k++H.cV g),jq:=H.jq++[(k,g)]}
theorem HI.Ma(I:HI H){k g:Nat}(hk:k < g)(hg:g < H.KM)(rk:H.rt k=k)(rg:H.rt g=g)(uk:H.ua k=k):HI (H.wi k g) where
 c6:=I.c6
 lh:=λx hx=>by
  refine(?_:cm H.ua g k x<=x)
  by_cases e:x=g
  ·subst e;rw[gq];exact Yj hk
  ·rw[eS e];exact I.lh x hx
 lT:=λx hx=>by
  show(if H.rt (cm H.ua g k x)=g then k else _)=if H.rt x=g then k else _
  have e1:H.rt (cm H.ua g k x)=if x=g then k else H.rt x:=by
   by_cases e:x=g
   ·subst e;rw[gq,rk,Xz rfl]
   ·rw[eS e,I.lT x hx,XC e]
  have e2:(H.wi k g).ua x=cm H.ua g k x:=rfl
  rw[e2,e1]
  by_cases e:x=g
  ·subst e;rw[Xz rfl,XC (XQ hk),Xz rg]
  ·rw[XC e]
 iS:=λx hx hu=>by
  refine(?_:(if H.rt x=g then k else H.rt x)=x)
  have hu':cm H.ua g k x=x:=hu
  by_cases e:x=g
  ·subst e;rw[gq]at hu';exact absurd hu' (XQ hk)
  ·rw[eS e]at hu'
   have:=I.iS x hx hu'
   rw[this,XC e]
 lS:=λx hx=>by
  refine(?_:(if H.rt x=g then k else H.rt x)<=x)
  have:=I.lS x hx
  split
  ·rename_i h;rw[h]at this;exact Yj (XJ hk this)
  ·exact this
 jp:=λx hx=>by
  show cm H.ua g k (if H.rt x=g then k else H.rt x)=if H.rt x=g then k else H.rt x
  split
  ·rw[eS (XQ hk)];exact uk
  ·rename_i h;rw[eS h];exact I.jp x hx
 cb:=I.cb
theorem Kd(a b:Nat):(iP [(a:Int),b]).map V.i=av [min a b,max a b]:=by
 refine(?_:(nj (a:Int) [(b:Int)]).map V.i=_)
 rw[xy]
 by_cases h:a<=b
 ·rw[Xz (by exact_mod_cast h),Nat.min_eq_left h,Nat.max_eq_right h];rfl
 ·rw[XC (by exact yc h),Nat.min_eq_right (by exact qL (Cy h)),Nat.max_eq_left (by exact qL (Cy h))];rfl
structure MD(H:HS)(k g:Nat):Prop where
 lt:k < g
 gc:g < H.KM
 rk:H.rt k=k
 rg:H.rt g=g
 lk:(H.cV k++H.cV g).length<=300
 lm:H.jq.length<=300
theorem bq{l:List α}(h:l.length<=300):aD l:=Xs h (by unfold aK;decide)
theorem HR.DF(R:HR A H σ){k g:Nat}(hg:g < H.KM):HR A {H with ua:=cm H.ua g k} (σ.set (A.yA .c7) (.l ((List.range H.KM).map λx=>.i ((cm H.ua g k x:Nat):Int)))):=
 R.ke (s:=.c7) trivial (λ_ h=>h) rfl λt ht _=>by cases t<;>first |rfl |exact absurd rfl ht
theorem HR.DD(R:HR A H σ){k:Nat}(hk:k < H.KM)(l:List Nat):HR A {H with cV:=cm H.cV k l} (σ.set (A.yA (.cY k)) (.l (av l))):=
 R.ke (s:=.cY k) hk (λ_ h=>h) (by refine(?_:O.l (av (cm H.cV k l k))=_);rw[gq]) λt ht _=>by
  cases t with
  |cY i=>refine(?_:O.l (av (cm H.cV k l i))=_);rw[eS λe=>ht (by rw[e])];rfl
  |_=>rfl
theorem HR.DE(R:HR A H σ)(l:List (Nat×Nat)):HR A {H with jq:=l} (σ.set (A.yA .fL) (.l (l.map λp:Nat×Nat=>.t [.i p.1,.i p.2]))):=
 R.ke (s:=.fL) trivial (λ_ h=>h) rfl λt ht _=>by cases t<;>first |rfl |exact absurd rfl ht
theorem HR.Me(R:HR A H σ)(f:Nat->Nat):HR A {H with rt:=f} σ:=⟨R.eT,λs h=>R.aZ s h⟩
theorem TY(d:Nat)(R:HR A H σ)(I:HI H)(hx:x < H.KM)(hy:y < H.KM)(h:H.rt x=H.rt y):aL (d+2) 14 [.o 1 (A.yA .un),.i x,.i y] σ .n σ:=by
 have hs:(iP [(H.rt x:Int),H.rt y]).map V.i=av [H.rt x,H.rt x]:=by rw[Kd,h,Nat.min_self,Nat.max_self]
 have e:=Cq (σ:=σ++[.l [.i (H.rt x),.i (H.rt y)]]) aX (is:=[(H.rt x:Int),H.rt y]) rfl (by refine(?_:2 < 64);decide)
 rw[hs]at e
 exact fV (f:=AF) rfl rfl (ao (bh (ci rfl (Xo (du (ac.ah (bQ (af rfl) (R.aZ .un trivial) rfl (Xo (af rfl)) (tq d R I hx)) (Xo (bQ (af rfl) (R.aZ .un trivial) rfl (Xo (af rfl)) (tq d R I hy)))))) e)
  (gR (xs:=av [H.rt x,H.rt x]) (Hg aX) rfl (da bc (da bc gS)))) (be (cX (aY (af rfl) (af rfl) (by rw[sG];simp) (Xw _)) (be (bM aq))))) (by repeat first |exact Yn _ |apply iz) rfl
theorem TX(d:Nat)(R:HR A H σ)(I:HI H)(hx:x < H.KM)(hy:y < H.KM){k g:Nat}(ek:min (H.rt x) (H.rt y)=k)(eg:max (H.rt x) (H.rt y)=g)(M:MD H k g):
  ∃τ,aL (d+2) 14 [.o 1 (A.yA .un),.i x,.i y] σ (.t [.i k,.i g]) τ/\HR A (H.wi k g) τ/\Tw σ τ/\∀i,(∀s,H.ok s->A.yA s≠i)->τ[i]? =σ[i]?:=by
 have hk:k < H.KM:=Nat.lt_trans M.lt M.gc
 have hs:(iP [(H.rt x:Int),H.rt y]).map V.i=av [k,g]:=by rw[Kd,ek,eg]
 have e:=Cq (σ:=σ++[.l [.i (H.rt x),.i (H.rt y)]]) aX (is:=[(H.rt x:Int),H.rt y]) rfl (by refine(?_:2 < 64);decide)
 rw[hs]at e
 let g1:aj:=[.l [.i (H.rt x),.i (H.rt y)]]
 let g2:aj:=[.l (av [k,g])]
 have R0:HR A H (σ++g1++g2):=(R.gy _).gy _
 let L1:O:=.l ((List.range H.KM).map λx=>.i ((cm H.ua g k x:Nat):Int))
 let L2:O:=.l (av (H.cV k++H.cV g))
 let L3:O:=.l ((H.jq++[(k,g)]).map λp:Nat×Nat=>.t [.i p.1,.i p.2])
 have R1:HR A {H with ua:=cm H.ua g k} ((σ++g1++g2).set (A.yA .c7) L1):=R0.DF M.gc
 have R2:=R1.DD hk (H.cV k++H.cV g)
 have R3:=R2.DE (H.jq++[(k,g)])
 have T3:=((R.DF (k:=k) M.gc).DD hk (H.cV k++H.cV g)).DE (H.jq++[(k,g)])
 have es:(((σ++g1++g2).set (A.yA .c7) L1).set (A.yA (.cY k)) L2).set (A.yA .fL) L3=((σ.set (A.yA .c7) L1).set (A.yA (.cY k)) L2).set (A.yA .fL) L3++g1++g2:=by
  rw[CN (R.lt (s:=.c7) trivial),CN (by rw[XN];exact R.lt (s:=.cY k) hk),CN (by rw[XN,XN];exact R.lt (s:=.fL) trivial)]
 let ρ:=au (au (bf [.o 1 (A.yA .un),.i x,.i y]) 3 (.i k)) 4 (.i g)
 have s1:lY (mG (.r (A.yA .c7)) (.i g) (.i k) (σ++g1++g2)) ((σ++g1++g2).set (A.yA .c7) L1):=by
  have:=SM (v:=.i k) (n:=(g:Int)) (R0.aZ .c7 trivial) (YX _) (by simpa using M.gc) (by have:=I.c6;simp;unfold aK;exact bP this rfl)
  rw[Int.toNat_natCast,T7 M.gc]at this
  have e2:(cm (λx=>V.i (H.ua x:Int)) g (.i k))=λx=>V.i ((cm H.ua g k x:Nat):Int):=by funext j;unfold cm;split<;>rfl
  rw[e2]at this;exact this
 have lref:∀{τ:aj} {H1:HS} (R1:HR A H1 τ) (hc:H1.KM=H.KM) {j i:Nat} (hj:j < H.KM) (hρ:ρ i=some (.i (j:Int))) (n:Nat),Ev (d+1) (n+3) (.s (.a 18 (.v 0)) (.v i)) ρ τ (.r (A.yA (.cY j))) τ:=λ{τ H1} R1 hc {j i} hj hρ n=>
  bi (dw (af rfl) rfl (R1.aZ .un trivial) rfl) (af hρ) (dL (R1.aZ .fj trivial) (gG (I.oj hj)) (yi (by rw[hc];exact hj) (gG (I.oj hj))))
 have nkg:A.yA (.cY k)≠A.yA (.cY g):=λe=>by
  have:=R.eT (.cY k) (.cY g) hk M.gc e
  cases this;exact YW _ M.lt
 have s2:Pr (dB 1 (.r (A.yA (.cY k))) [.r (A.yA (.cY g))] ((σ++g1++g2).set (A.yA .c7) L1)) .n (((σ++g1++g2).set (A.yA .c7) L1).set (A.yA (.cY k)) L2):=by
  have:=IX (R1.aZ (.cY k) hk) (R1.aZ (.cY g) M.gc) nkg (by
   refine(?_:aD (av (H.cV k)++av (H.cV g)))
   rw[<-Yc];exact bq (by rw[Xr];exact M.lk))
  rw[<-Yc]at this;exact this
 have s3:Pr (dB 0 (.r (A.yA .fL)) [.t [.i k,.i g]] (((σ++g1++g2).set (A.yA .c7) L1).set (A.yA (.cY k)) L2)) .n ((((σ++g1++g2).set (A.yA .c7) L1).set (A.yA (.cY k)) L2).set (A.yA .fL) L3):=by
  have:=ph (v:=.t [.i k,.i g]) (R2.aZ .fL trivial) (bq (by rw[Xr];exact M.lm))
  have e3:H.jq.map (λp:Nat×Nat=>V.t [.i p.1,.i p.2])++[.t [.i k,.i g]]=(H.jq++[(k,g)]).map λp:Nat×Nat=>V.t [.i p.1,.i p.2]:=by rw[Yc];rfl
  exact(XB (λl=>Pr (dB 0 (.r (A.yA .fL)) [.t [.i k,.i g]] (((σ++g1++g2).set (A.yA .c7) L1).set (A.yA (.cY k)) L2)) .n ((((σ++g1++g2).set (A.yA .c7) L1).set (A.yA (.cY k)) L2).set (A.yA .fL) (.l l))) e3).mp this
 refine eX _ (aL.lj (f:=AF) (fl:=.r (.t [.i k,.i g])) rfl rfl (ao (bh (ci rfl (Xo (du (ac.ah (bQ (af rfl) (R.aZ .un trivial) rfl (Xo (af rfl)) (tq d R I hx)) (Xo (bQ (af rfl) (R.aZ .un trivial) rfl (Xo (af rfl)) (tq d R I hy)))))) e)
   (gR (xs:=av [k,g]) (Hg aX) rfl (da bc (da bc gS)))) (ao (bC (aY (af rfl) (af rfl) (by rw[sG];simp[XQ M.lt]) (Xw _)) aP)
   (ao (bh (af (ρ:=ρ) rfl) (kX (dw (af rfl) rfl (R0.aZ .un trivial) rfl) (af rfl) s1)) (ao (dv (dp (lref R1 rfl hk rfl 26) (eI (R1.aZ (.cY k) hk) rfl) (Xo (lref R1 rfl M.gc rfl 26)) rfl s2)) (ao (dv (dp (dw (af rfl) rfl (R2.aZ .un trivial) rfl) (eI (R2.aZ .fL trivial) rfl) (Xo (bI (ac.ah (af rfl) (Xo (af rfl))))) rfl s3)) (be (bM (bI (ac.ah (af rfl) (Xo (af rfl))))))))))) ?dr) (T3.Me _) (((ET σ).r9 (HV _ _)).r9 (HW _)|>.r9 (HY _)) (λi h=>by rw[aV (h .fL trivial),aV (h (.cY k) hk),aV (h .c7 trivial)])
 case dr=>
  rw[es]
  exact NV (((ET σ).r9 (HV _ _)).r9 (HW _)|>.r9 (HY _)) g1 g2 (λ_=>rfl)
end
section
variable {d n:Nat}{v:V}{o:O}{S:Nat->Prop}
structure HX(S:Nat->Prop)(A:Ad)(H:HS)(σ:aj):Prop where
 Vu:HR A H σ
 d9:∀i,S i->i < σ.length/\∀s,H.ok s->A.yA s≠i
noncomputable def Fm(S:Nat->Prop)(σ σ':aj):Prop:=∀i,S i->σ'[i]? =σ[i]?
theorem Fm.fT(a:Fm S σ τ)(b:Fm S τ υ):Fm S σ υ:=λi h=>(b i h).trans (a i h)
theorem HX.mQ(X:HX S A H σ){s:Sl}(hs:H.ok s)(R':HR A H' (σ.set (A.yA s) o))(hv:∀t,H'.ok t->H.ok t):HX S A H' (σ.set (A.yA s) o)/\Fm S σ (σ.set (A.yA s) o):=
 ⟨⟨R',λi hi=>⟨by rw[XN];exact(X.d9 i hi).1,λs hs=>(X.d9 i hi).2 s (hv s hs)⟩⟩,λi hi=>aV ((X.d9 i hi).2 s hs)⟩
theorem HR.Mb(R:HR A H σ)(l:List (Nat×Nat×Rs)):HR A {H with aM:=l} (σ.set (A.yA .fJ) (.l (l.map jV))):=R.ke (s:=.fJ) trivial (λ_ h=>h) rfl λt ht _=>by cases t<;>first |rfl |exact absurd rfl ht
theorem HR.Mc(R:HR A H σ)(l:List Nat):HR A {H with bL:=l} (σ.set (A.yA .fK) (.l (av l))):=R.ke (s:=.fK) trivial (λ_ h=>h) rfl λt ht _=>by cases t<;>first |rfl |exact absurd rfl ht
theorem HR.Mf(R:HR A H σ)(l:List Nat):HR A {H with dQ:=l} (σ.set (A.yA .eZ) (.l (av l))):=R.ke (s:=.eZ) trivial (λ_ h=>h) rfl λt ht _=>by cases t<;>first |rfl |exact absurd rfl ht
theorem HR.Md(R:HR A H σ)(l:List (List KV×V)):HR A {H with dH:=l} (σ.set (A.yA .fh) (.t l)):=R.ke (s:=.fh) trivial (λ_ h=>h) rfl λt ht _=>by cases t<;>first |rfl |exact absurd rfl ht
noncomputable def HS.y8(H:HS)(k g:Nat):HS:={H with bW:=H.bW.filter λr=>decide (r≠g),bz:=cm (cm H.bz k (H.bz k++H.bz g)) g []}
noncomputable def Sl.Nu(k:Nat)(s:Sl):Bool:=match s with
 | .cj r=>decide (r=k)
 |_=>false
noncomputable def Ad.j8(A:Ad)(k q:Nat):Ad:=⟨λs=>bif s.Nu k then q else A.yA s⟩
theorem vO{k q:Nat}{s:Sl}(h:s≠.cj k):(A.j8 k q).yA s=A.yA s:=by
 cases s with
 |cj r=>refine(?_:(bif decide (r=k)then _ else _)=_);rw[Yb λe:r=k=>h (e▸rfl)];rfl
 |_=>rfl
theorem yB{k q:Nat}:(A.j8 k q).yA (.cj k)=q:=by refine(?_:(bif decide (k=k)then _ else _)=_);rw[XT rfl];rfl
theorem E8{f:Nat->V}{r:Nat}(h:r∈ks):cA (ks.map λr:Nat=>((r:Int),f r)) (r:Int)=some (f r):=by
 induction ks with
 |nil=>cases h
 |cons a ks ih=>
  unfold cA at *
  rw[XD,Zr]
  by_cases e:a=r
  ·subst e;simp
  ·have:decide ((a:Int)=(r:Int))=false:=by simp;exact th e
   rw[this]
   exact ih ((XL h).resolve_left (Yv e))
theorem Oc(ks:List Nat)(f:Nat->V)(g:Nat):sg (ks.map λr:Nat=>((r:Int),f r)) (g:Int)=(ks.filter λr=>decide (r≠g)).map λr:Nat=>((r:Int),f r):=by
 unfold sg
 rw[List.filter_map]
 congr 1
 apply List.filter_congr
 intro a _
 simp only[Function.comp,ne_eq,decide_eq_decide]
 lia
theorem Om{f:Nat->V}{k:Nat}(v:V)(h:k∈ks):eC (ks.map λr:Nat=>((r:Int),f r)) (k:Int) v=ks.map λr:Nat=>((r:Int),if r=k then v else f r):=by
 unfold eC
 rw[Xz (by rw[List.any_map,List.any_eq_true];exact aC k h (by simp)),XV]
 apply Y0
 intro a _
 by_cases e:a=k
 ·subst e;simp
 ·simp only[Function.comp]
  rw[XC (by exact th e),XC e]
theorem HX.Mj(X:HX S A H σ){k g:Nat}(hk:k∈H.bW)(hkg:k≠g):
  HX S (A.j8 k σ.length) (H.y8 k g) (σ.set (A.yA .cF) (.d ((H.bW.filter λr=>decide (r≠g)).map λr:Nat=>((r:Int),if r=k then V.r σ.length else .r (A.yA (.cj r)))))++[.l (av (H.bz k++H.bz g))]):=by
 have lt:∀s,H.ok s->A.yA s < σ.length:=λs hs=>X.Vu.lt hs
 have okk:∀s,(H.y8 k g).ok s->H.ok s:=λs hs=>by
  cases s with
  |cj r=>exact(Zl hs).1
  |_=>exact hs
 have ab:∀s,s≠.cj k->(A.j8 k σ.length).yA s=A.yA s:=λs h=>vO h
 have ak:(A.j8 k σ.length).yA (.cj k)=σ.length:=yB
 refine⟨⟨λs t hs ht e=>?_,λs hs=>?_⟩,λi hi=>⟨by have:=(X.d9 i hi).1;simp;exact d5 this,λs hs=>?_⟩⟩
 ·by_cases e1:s=.cj k
  ·by_cases e2:t=.cj k
   ·rw[e1,e2]
   ·rw[e1,ak,ab t e2]at e
    exact absurd e.symm (XQ (lt t (okk t ht)))
  ·by_cases e2:t=.cj k
   ·rw[e2,ak,ab s e1]at e
    exact absurd e (XQ (lt s (okk s hs)))
   ·rw[ab s e1,ab t e2]at e
    exact X.Vu.eT s t (okk s hs) (okk t ht) e
 ·by_cases e1:s=.cj k
  ·subst e1
   rw[ak]
   have:=aX (σ:=σ.set (A.yA .cF) (.d ((H.bW.filter λr=>decide (r≠g)).map λr:Nat=>((r:Int),if r=k then V.r σ.length else .r (A.yA (.cj r)))))) (o:=.l (av (H.bz k++H.bz g)))
   rw[XN]at this
   rw[this]
   refine(?_:_=some (O.l (av (cm (cm H.bz k (H.bz k++H.bz g)) g [] k))))
   rw[eS hkg,gq]
  ·rw[ab s e1]
   refine bO _ _ ?_
   by_cases e2:s=.cF
   ·subst e2
    rw[cS (X.Vu.aZ .cF trivial)]
    refine(?_:_=some (O.d ((H.bW.filter λr=>decide (r≠g)).map λr:Nat=>((r:Int),V.r ((A.j8 k σ.length).yA (.cj r))))))
    congr 2
    apply Y0
    intro r hr
    by_cases e:r=k
    ·subst e;rw[Xz rfl,ak]
    ·rw[XC e,ab _ λh=>e (by cases h;rfl)]
   ·rw[aV λh=>e2 (X.Vu.eT .cF s trivial (okk s hs) h).symm,X.Vu.aZ s (okk s hs)]
    cases s with
    |cj r=>
     have hr:r≠g:=by have:=(Zl hs).2;simpa using this
     have hrk:r≠k:=λh=>e1 (by rw[h])
     refine(?_:some (O.l (av (H.bz r)))=some (O.l (av (cm (cm H.bz k (H.bz k++H.bz g)) g [] r))))
     rw[eS hr,eS hrk]
    |cF=>exact absurd rfl e2
    |_=>rfl
 ·by_cases e1:s=.cj k
  ·subst e1;rw[ak];exact Y3 (X.d9 i hi).1
  ·rw[ab s e1];exact(X.d9 i hi).2 s (okk s hs)
end
section
variable {d n a b i:Nat}{v:V}{o:O}{S:Nat->Prop}{e:Ex}
theorem kO{f:α->V}{l:List α}(x:α)(ha:σ[a]? =some (.l (l.map f)))(h:l.length<=300):Pr (dB 0 (.r a) [f x] σ) .n (σ.set a (.l ((l++[x]).map f))):=by
 rw[Yc];exact ph ha (bq (by rw[Xr];exact h))
theorem Sv{f:α->V}{l m:List α}(ha:σ[a]? =some (.l (l.map f)))(hb:σ[b]? =some (.l (m.map f)))(hn:a≠b)(h:(l++m).length<=300):Pr (dB 1 (.r a) [.r b] σ) .n (σ.set a (.l ((l++m).map f))):=by
 have e:=Yc (f:=f) (l₁:=l) (l₂:=m)
 rw[e];exact IX ha hb hn (by rw[<-e];exact bq (by rw[Xr];exact h))
theorem eH(R:HR A H σ)(h0:ρ 0=some (.o 2 (A.yA .aJ))){k:Nat}(hc:fE 2 k=true)(hg:cA [(21,V.o 0 (A.yA .dW)),(22,.o 1 (A.yA .un)),(23,.r (A.yA .fJ)),(24,.r (A.yA .fK)),(25,.r (A.yA .fh)),(17,.r (A.yA .cF)),(26,.r (A.yA .eZ)),(27,.i 0)] k=some v):Ev d (n+2) (.a k (.v 0)) ρ σ v σ:=
 dw (af h0) hc (dy R) hg
theorem J6{f:α->V}{l:List α}(x:α){k:Nat}(R:HR A H σ)(h0:ρ 0=some (.o 2 (A.yA .aJ)))(ha:σ[a]? =some (.l (l.map f)))(h:l.length<=300)(hk:Ev d 29 (.a k (.v 0)) ρ σ (.r a) σ)(he:Ev d 29 e ρ σ (f x) σ):
  ai d (n+1) (.e (.m 0 (.a k (.v 0)) [e])) ρ σ .n ρ (σ.set a (.l ((l++[x]).map f))):=
 dv (dp hk (eI ha rfl) (Xo he) rfl (kO x ha h))
theorem HX.DH(X:HX S A H σ)(l:List (Nat×Nat×Rs)):HX S A {H with aM:=l} (σ.set (A.yA .fJ) (.l (l.map jV)))/\Fm S σ (σ.set (A.yA .fJ) (.l (l.map jV))):=X.mQ (s:=.fJ) trivial (X.Vu.Mb l) λ_ h=>h
theorem HX.Mi(X:HX S A H σ)(l:List Nat):HX S A {H with bL:=l} (σ.set (A.yA .fK) (.l (av l)))/\Fm S σ (σ.set (A.yA .fK) (.l (av l))):=X.mQ (s:=.fK) trivial (X.Vu.Mc l) λ_ h=>h
theorem HX.DI(X:HX S A H σ)(l:List Nat):HX S A {H with dQ:=l} (σ.set (A.yA .eZ) (.l (av l)))/\Fm S σ (σ.set (A.yA .eZ) (.l (av l))):=X.mQ (s:=.eZ) trivial (X.Vu.Mf l) λ_ h=>h
theorem HX.y9(X:HX S A H σ)(l:List (List KV×V)):HX S A {H with dH:=l} (σ.set (A.yA .fh) (.t l))/\Fm S σ (σ.set (A.yA .fh) (.t l)):=X.mQ (s:=.fh) trivial (X.Vu.Md l) λ_ h=>h
theorem HX.kh(X:HX S A H σ)(g:aj):HX S A H (σ++g):=⟨X.Vu.gy g,λi h=>⟨XJ (X.d9 i h).1 (by rw[Xv];exact XS ..),(X.d9 i h).2⟩⟩
theorem HX.tU(X:HX S A H σ)(g:aj):Fm S σ (σ++g):=λi h=>Yl (X.d9 i h).1
structure zd(H:HS)(a b:Nat):Prop where
 Wz:HI H
 ha:a < H.KM
 hb:b < H.KM
 nk:∀x,x < H.KM->H.rt x∈H.bW
 le:H.aM.length<=300
 lf:H.bL.length<=300
 lm:H.jq.length<=300
 ll:∀x y,x < H.KM->y < H.KM->(H.cV x++H.cV y).length<=300
 la:∀x∈H.bW,∀y∈H.bW,(H.bz x++H.bz y).length<=300
 lw:∀x∈H.bW,(H.dQ++H.bz x).length<=300
 lk:H.bW.length<=300
noncomputable def HS.wh(H:HS)(a b:Nat)(r:Rs):HS:={H with aM:=H.aM++[(a,b,r)]}
theorem HI.v9(I:HI H)(a b:Nat)(r:Rs):HI (H.wh a b r):=⟨I.c6,I.lh,I.lT,I.iS,I.lS,I.jp,I.cb⟩
theorem Hl(n:Nat)(X:HX S A H σ)(hl:H.aM.length<=300)(r:Rs)(h0:ρ 0=some (.o 2 (A.yA .aJ)))(h1:ρ 1=some (.i a))(h2:ρ 2=some (.i b))(h3:ρ 3=some r.gC):
  ai d (n+1) (.e (.m 0 (.a 23 (.v 0)) [.t [.v 1,.v 2,.v 3]])) ρ σ .n ρ (σ.set (A.yA .fJ) (.l ((H.aM++[(a,b,r)]).map jV))):=
 J6 (f:=jV) (a,b,r) X.Vu h0 (X.Vu.aZ .fJ trivial) hl (eH X.Vu h0 rfl rfl) (bI (ac.ah (af h1) (ac.ah (af h2) (Xo (af h3)))))
theorem Tu(d:Nat)(X:HX S A H σ)(J:zd H a b)(r:Rs)(h:H.rt a=H.rt b):
  ∃τ,aL (d+3) 26 [.o 2 (A.yA .aJ),.i a,.i b,r.gC] σ (.b false) τ/\HX S A (H.wh a b r) τ/\Fm S σ τ:=by
 refine ba (X.DH (H.aM++[(a,b,r)])) λX1 F1=>?_
 exact dK _ (cI (f:=AA) (fl:=.r (.b false)) rfl rfl (ao (Hl _ X J.le r rfl rfl rfl rfl)
  (ao (bh (bQ (eH X1.Vu rfl rfl rfl) (X1.Vu.aZ .un trivial) rfl (ac.ah (af rfl) (Xo (af rfl))) (TY d X1.Vu (J.Wz.v9 a b r) J.ha J.hb h)) bc)
   (be (cX (aY (af rfl) aq rfl trivial) (be (bM aq))))))) X1 F1
noncomputable def HS.om(H:HS)(a b:Nat)(r:Rs)(k g:Nat):HS:=
 HS.y8 {((H.wh a b r).wi k g)with bL:=H.bL++[H.aM.length],dQ:=H.dQ++H.bz g} k g
theorem HX.Mm(X:HX S A H σ)(R:HR A H' τ)(hl:τ.length=σ.length)(hv:∀t,H'.ok t->H.ok t)(hk:∀i,(∀s,H.ok s->A.yA s≠i)->τ[i]? =σ[i]?):HX S A H' τ/\Fm S σ τ:=
 ⟨⟨R,λi hi=>⟨by rw[hl];exact(X.d9 i hi).1,λs hs=>(X.d9 i hi).2 s (hv s hs)⟩⟩,λi hi=>hk i (X.d9 i hi).2⟩
theorem SL{f:Nat->V}{g:Nat}(ha:σ[a]? =some (.d (ks.map λr:Nat=>((r:Int),f r))))(hg:g∈ks)(h:ks.length<=300):Pr (dB 2 (.r a) [.i g] σ) (f g) (σ.set a (.d ((ks.filter λr=>decide (r≠g)).map λr:Nat=>((r:Int),f r)))):=by
 rw[<-Oc];exact SK ha (E8 hg) (bq (α:=Int×V) (by rw[Xr];exact h))
theorem Ck{f:Nat->V}{g:Nat}(ha:σ[a]? =some (.d (ks.map λr:Nat=>((r:Int),f r))))(hg:g∈ks):Pr (nT (.r a) (.i g) σ) (f g) σ:=mC ha (by intro _ h;cases h) (XB some (E8 hg))
theorem Tt(d:Nat)(X:HX S A H σ)(J:zd H a b)(r:Rs){k g:Nat}(ek:min (H.rt a) (H.rt b)=k)(eg:max (H.rt a) (H.rt b)=g)(hlt:k < g):
  ∃A' τ,aL (d+3) 26 [.o 2 (A.yA .aJ),.i a,.i b,r.gC] σ (.b true) τ/\HX S A' (H.om a b r k g) τ/\Fm S σ τ/\A'.yA .aJ=A.yA .aJ:=by
 have kr:∃x,x < H.KM/\H.rt x=k:=by
  by_cases h:H.rt a<=H.rt b
  ·exact aC a J.ha (by rw[<-ek,Nat.min_eq_left h])
  ·exact aC b J.hb (by rw[<-ek,Nat.min_eq_right (Nat.le_of_not_le h)])
 have gr:∃x,x < H.KM/\H.rt x=g:=by
  by_cases h:H.rt a<=H.rt b
  ·exact aC b J.hb (by rw[<-eg,Nat.max_eq_right h])
  ·exact aC a J.ha (by rw[<-eg,Nat.max_eq_left (Nat.le_of_not_le h)])
 refine az kr ?_;clear kr;intro xk xkc xke
 refine az gr ?_;clear gr;intro xg xgc xge
 have kk:k∈H.bW:=xke▸J.nk xk xkc
 have gk:g∈H.bW:=xge▸J.nk xg xgc
 have kc:k < H.KM:=xke▸J.Wz.rc xkc
 have gc:g < H.KM:=xge▸J.Wz.rc xgc
 have rr:∀x,x < H.KM->H.rt (H.rt x)=H.rt x:=λx h=>J.Wz.iS _ (J.Wz.rc h) (J.Wz.jp x h)
 have rk:H.rt k=k:=by have:=rr xk xkc;rwa [xke]at this
 have rg:H.rt g=g:=by have:=rr xg xgc;rwa [xge]at this
 refine ba (X.DH (H.aM++[(a,b,r)])) λX1 F1=>?_
 refine hX (TX d X1.Vu (J.Wz.v9 a b r) J.ha J.hb ek eg ⟨hlt,gc,rk,rg,J.ll k g kc gc,J.lm⟩) λσ2 hm R2 T2 K2=>?_
 refine ba (X1.Mm R2 T2.ur (λ_ h=>h) K2) λX2 F2=>?_
 refine ba (X2.Mi (H.bL++[H.aM.length])) λX3 F3=>?_
 refine ba (X3.DI (H.dQ++H.bz g)) λX4 F4=>?_
 have X5:=X4.Mj (k:=k) (g:=g) kk (XQ hlt)
 let σ3:=σ2.set (A.yA .fK) (.l (av (H.bL++[H.aM.length])))
 let σ4:=σ3.set (A.yA .eZ) (.l (av (H.dQ++H.bz g)))
 let D1:O:=.d ((H.bW.filter λr=>decide (r≠g)).map λr:Nat=>((r:Int),V.r (A.yA (.cj r))))
 let D2:O:=.d ((H.bW.filter λr=>decide (r≠g)).map λr:Nat=>((r:Int),if r=k then V.r σ4.length else .r (A.yA (.cj r))))
 let ρ:=au (au (au (bf [.o 2 (A.yA .aJ),.i a,.i b,r.gC]) 4 (.t [.i k,.i g])) 5 (.i k)) 6 (.i g)
 have nab:∀r∈H.bW,A.yA .cF≠A.yA (.cj r):=λr hr e=>by have:=X.Vu.eT .cF (.cj r) trivial hr e;cases this
 have nwa:A.yA .eZ≠A.yA (.cj g):=λe=>by have:=X.Vu.eT .eZ (.cj g) trivial gk e;cases this
 have fk:k∈H.bW.filter λr=>decide (r≠g):=List.mem_filter.mpr ⟨kk,by simp[XQ hlt]⟩
 have e5:ai (d+2) 12 (.e (.m 0 (.a 24 (.v 0)) [.i .s (.b .l [.a 23 (.v 0)]) (.c (.i 1))])) ρ σ2 .n ρ σ3:=by
  refine J6 (f:=λn:Nat=>V.i (n:Int)) H.aM.length X2.Vu rfl (X2.Vu.aZ .fK trivial) J.lf (eH X2.Vu rfl rfl rfl) ?_
  have h:=bX (d:=d+2) (n:=28) (op:=.s) (ρ:=ρ) (ci rfl (Xo (eH (k:=23) X2.Vu rfl rfl rfl)) (fC (xs:=(H.aM++[(a,b,r)]).map jV) (X2.Vu.aZ .fJ trivial) (Xs (by rw[Xr,Xv];exact YS J.le 1) (by unfold aK;decide:300+1<=aK)))) (aq (v:=.i 1)) j2
  have e:(((H.aM++[(a,b,r)]).map jV).length:Int) - 1=(H.aM.length:Nat):=by rw[Xr,Xv,Int.natCast_add];exact Int.add_sub_cancel _ 1
  exact e▸h
 have e6:ai (d+2) 12 (.e (.m 1 (.a 26 (.v 0)) [.s (.a 17 (.v 0)) (.v 6)])) ρ σ3 .n ρ σ4:=
  dv (dp (eH X3.Vu rfl rfl rfl) (eI (X3.Vu.aZ .eZ trivial) rfl) (Xo (bi (eH X3.Vu rfl rfl rfl) (af rfl) (Ck (X3.Vu.aZ .cF trivial) gk))) rfl (Sv (X3.Vu.aZ .eZ trivial) (X3.Vu.aZ (.cj g) gk) nwa (J.lw g gk)))
 have ak:(σ4.set (A.yA .cF) D1)[A.yA (.cj k)]? =some (.l (av (H.bz k))):=by rw[aV (nab k kk)];exact X4.Vu.aZ (.cj k) kk
 have ag:(σ4.set (A.yA .cF) D1)[A.yA (.cj g)]? =some (.l (av (H.bz g))):=by rw[aV (nab g gk)];exact X4.Vu.aZ (.cj g) gk
 have ad:Pr (kC .a (.r (A.yA (.cj k))) (.r (A.yA (.cj g))) (σ4.set (A.yA .cF) D1)) (.r σ4.length) (σ4.set (A.yA .cF) D1++[.l (av (H.bz k++H.bz g))]):=by
  have h:=pf ak ag (bq (by rw[Xv,Xr,Xr,<-Xv];exact J.la k kk g gk))
  rw[<-Yc,XN]at h;exact h
 have lt4:A.yA .cF < σ4.length:=X4.Vu.lt (s:=.cF) trivial
 have eD:eC ((H.bW.filter λr=>decide (r≠g)).map λr:Nat=>((r:Int),V.r (A.yA (.cj r)))) (k:Int) (.r σ4.length)=(H.bW.filter λr=>decide (r≠g)).map λr:Nat=>((r:Int),if r=k then V.r σ4.length else .r (A.yA (.cj r))):=Om (f:=λr=>.r (A.yA (.cj r))) _ fk
 have st:lY (mG (.r (A.yA .cF)) (.i k) (.r σ4.length) (σ4.set (A.yA .cF) D1++[.l (av (H.bz k++H.bz g))])) (σ4.set (A.yA .cF) D2++[.l (av (H.bz k++H.bz g))]):=by
  have h:=mB (o':=D2) (w:=.i k) (v:=.r σ4.length) (bO _ [.l (av (H.bz k++H.bz g))] (cS (o':=D1) (X4.Vu.aZ .cF trivial))) (by refine(?_:∀xs,O.d _≠O.l xs);intro _ h;cases h) (bq (α:=Int×V) (by rw[Xr];exact Xs (List.length_filter_le _ _) J.lk)) (XB (λl=>some (O.d l)) eD)
  rw[py (by rw[XN];exact lt4),Yr]at h;exact h
 have e7:ai (d+2) 12 (.a (.s (.a 17 (.v 0)) (.v 5)) (.i .a (.s (.a 17 (.v 0)) (.v 5)) (.m 2 (.a 17 (.v 0)) [.v 6]))) ρ σ4 .n ρ (σ4.set (A.yA .cF) D2++[.l (av (H.bz k++H.bz g))]):=by
  have hh:A.yA .cF≠A.yA .aJ:=λe=>by have:=X.Vu.eT .cF .aJ trivial trivial e;cases this
  exact bh (bX (bi (eH X4.Vu rfl rfl rfl) (af rfl) (Ck (X4.Vu.aZ .cF trivial) kk))
   (dp (eH X4.Vu rfl rfl rfl) (sP (X4.Vu.aZ .cF trivial) rfl rfl) (Xo (af rfl)) rfl (SL (X4.Vu.aZ .cF trivial) gk J.lk)) ad)
   (kX (dw (af rfl) rfl (bO _ _ (by rw[aV hh];exact dy X4.Vu)) rfl) (af rfl) st)
 exact di _ _ (cI (f:=AA) (fl:=.r (.b true)) rfl rfl (ao (Hl _ X J.le r rfl rfl rfl rfl)
  (ao (bh (bQ (eH X1.Vu rfl rfl rfl) (X1.Vu.aZ .un trivial) rfl (ac.ah (af rfl) (Xo (af rfl))) hm) bc)
  (ao (bC (aY (af rfl) aq rfl trivial) aP)
  (ao (bh (af rfl) (gR rfl rfl (da bc (da bc gS))))
  (ao e5 (ao e6 (ao e7 (be (bM aq)))))))))) X5 (((F1.fT (F2.fT (F3.fT F4))).fT (λi hi=>by rw[aV ((X4.d9 i hi).2 .cF trivial)])).fT λi hi=>Yl (by rw[XN];exact(X4.d9 i hi).1)) rfl
end
noncomputable abbrev d7:=List (Nat×Nat×Rs)
variable {E:d7}
inductive Cs(E:d7)(F:List Nat)(i:Nat):Nat->Nat->Nat->Prop
 |kY (x:Nat):Cs E F i 0 x x
 |mK {n x a b:Nat} {r:Rs} {j:Nat} (h:Cs E F i n x a) (hf:j∈F) (hj:j < i) (he:E[j]? =some (a,b,r)):Cs E F i (n+1) x b
 |nW {n x a b:Nat} {r:Rs} {j:Nat} (h:Cs E F i n x b) (hf:j∈F) (hj:j < i) (he:E[j]? =some (a,b,r)):Cs E F i (n+1) x a
noncomputable def Cn(E:d7)(F:List Nat)(i x y:Nat):Prop:=∃n,n<=5/\Cs E F i n x y
section
variable {E':d7}{F':List Nat}{i i' z n m:Nat}
theorem Cs.yG(hE:E <+:E')(hF:∀j∈F,j∈F')(hi:i<=i')(h:Cs E F i n x y):Cs E' F' i' n x y:=by
 have g:∀{j:Nat} {e:Nat×Nat×Rs},E[j]? =some e->E'[j]? =some e:=λ{j e} h=>by refine aT hE ?_;clear hE;intro t q1;subst q1;exact bO _ _ h
 induction h with
 |kY=>exact .kY _
 |mK _ hf hj he ih=>exact .mK ih (hF _ hf) (XJ hj hi) (g he)
 |nW _ hf hj he ih=>exact .nW ih (hF _ hf) (XJ hj hi) (g he)
theorem Cs.vU(h:Cs E F i n x y)(h2:Cs E F i m y z):Cs E F i (n+m) x z:=by
 induction h2 with
 |kY=>exact h
 |mK _ hf hj he ih=>exact .mK (ih h) hf hj he
 |nW _ hf hj he ih=>exact .nW (ih h) hf hj he
theorem Cs.yH(h:Cs E F i n x y):Cs E F i n y x:=by
 induction h with
 |kY=>exact .kY _
 |mK _ hf hj he ih=>exact Nat.add_comm _ _▸(Cs.nW (.kY _) hf hj he).vU ih
 |nW _ hf hj he ih=>exact Nat.add_comm _ _▸(Cs.mK (.kY _) hf hj he).vU ih
theorem Cn.Dg(hE:E <+:E')(hF:∀j∈F,j∈F')(hi:i<=i')(h:Cn E F i x y):Cn E' F' i' x y:=h.elim λn h=>⟨n,h.1,h.2.yG hE hF hi⟩
end
noncomputable def Rs.eB:Rs->Bool
 | .iX=>true
 |_=>false
noncomputable def dT(E:d7):Nat:=E.countP λe=>e.2.2.eB
noncomputable def Rs.ok(c:Nat):Rs->Prop
 | .mU w=>ip w/\w.length<=20
 | .lr x y=>x < c/\y < c
 | .iX=>True
noncomputable def Bt:Nat->Nat
 |0=>4
 |t+1=>2 * Bt t
theorem K4{t}:Bt (t+1)=2 * Bt t:=rfl
theorem K5:∀t,t<=5->Bt t<=128:=by decide
theorem Vv(t:Nat):Bt t<=Bt (t+1):=by simp only[K4];exact Nat.le_mul_of_pos_left _ (by decide)
noncomputable def MA(H:HS)(e:List KV×V):Prop:=∃m,m < H.KM/\e.2=.i (m:Nat)/\∃rs:List Nat,e.1=.inl (bv m)::rs.map (λr:Nat=>.inr (r:Int))/\(aN m).map H.rt=rs.map H.rt
noncomputable def mH(H:HS)(r:Nat):Nat:=(List.range H.KM).countP λx=>decide (H.rt x=r)
noncomputable def kF(a b:Nat):Nat:=if a=b then 1 else 0
structure HG(H:HS)(m:Nat):Prop where
 VU:HI H
 nk:∀x,x < H.KM->H.rt x∈H.bW
 kt:H.bW.length+H.bL.length<=6
 c1:0 < H.KM
 WO:H.jq.length<=H.bL.length
 ed:H.aM.length<=m+H.bL.length
 lR:m<=100
 lo:∀x,x < H.KM->4 * (H.cV x).length<=Bt H.bL.length
 ab:∀r∈H.bW,(H.bz r).length<=Bt H.bL.length/\∀x∈H.bz r,x < H.KM
 wa:H.dQ.length<=Bt H.bL.length/\∀x∈H.dQ,x < H.KM
 kw:H.dH.length+H.dQ.length<=20+128 * H.bL.length
 lm:∀x,x < H.KM->x∈H.cV (H.rt x)
 lc:∀x,x < H.KM->∀y∈H.cV x,y < H.KM
 fo:∀j∈H.bL,j < H.aM.length
 eg:∀e∈H.aM,e.1 < H.KM/\e.2.1 < H.KM/\e.2.2.ok H.KM
 cn:∀x y,x < H.KM->y < H.KM->H.rt x=H.rt y->∃n,n+1<=mH H (H.rt x)/\Cs H.aM H.bL H.aM.length n x y
 al:∀e∈H.aM,H.rt e.1=H.rt e.2.1
 lk:∀(j a b:Nat),H.aM[j]? =some (a,b,.iX)->bv a=bv b/\(aN a).length=(aN b).length/\∀p∈(aN a).zip (aN b),Cn H.aM H.bL j p.1 p.2
 kn:∀e∈H.dH,MA H e
 nl:dT H.aM<=kF (H.rt 2) (H.rt 3)+kF (H.rt 4) (H.rt 5)
section
variable {d n a b i m k g:Nat}{v:V}{o:O}{S:Nat->Prop}{e:Ex}{r:Rs}
theorem HG.L9(G:HG H m):1<=H.bW.length:=List.length_pos_of_mem (G.nk 0 G.c1)
theorem HG.t5(G:HG H m):H.bL.length<=5:=by have:=G.kt;have:=G.L9;lia
theorem HG.bt(G:HG H m):Bt H.bL.length<=128:=K5 _ G.t5
theorem BE{l l':List α}(h:l.length<=n)(h':l'.length<=n)(hn:n<=128):(l++l').length<=300:=by rw[Xv];lia
theorem HG.y5(G:HG H m)(hx:x < H.KM)(hy:y < H.KM)(h:H.rt x=H.rt y):Cn H.aM H.bL H.aM.length x y:=by
 refine az (G.cn x y hx hy h) λn h1 h2=>?_
 have h3:mH H (H.rt x)<=(List.range H.KM).length:=List.countP_le_length
 rw[XW]at h3
 exact aC n (Nat.le_of_succ_le_succ (Xs h1 (Xs h3 G.VU.c6))) h2
theorem HG.WY(G:HG H m)(ha:a < H.KM)(hb:b < H.KM):zd H a b where
 Wz:=G.VU
 ha:=ha
 hb:=hb
 nk:=G.nk
 le:=by have:=G.ed;have:=G.lR;have:=G.t5;lia
 lf:=Xs G.t5 (by decide)
 lm:=Xs G.WO (Xs G.t5 (by decide))
 ll:=λx y hx hy=>BE (Xs (Nat.le_mul_of_pos_left _ (by decide)) (G.lo x hx)) (Xs (Nat.le_mul_of_pos_left _ (by decide)) (G.lo y hy)) G.bt
 la:=λx hx y hy=>BE (G.ab x hx).1 (G.ab y hy).1 G.bt
 lw:=λx hx=>BE G.wa.1 (G.ab x hx).1 G.bt
 lk:=by have:=G.kt;exact bT (bP this rfl)
theorem BG(E:d7)(e:Nat×Nat×Rs):dT (E++[e])=dT E+if e.2.2.eB then 1 else 0:=by unfold dT;rw[List.countP_append,List.countP_singleton]
theorem xh{e:Nat×Nat×Rs}{p:Nat×Nat×Rs->Prop}(h:∀q∈E,p q)(he:p e):∀q∈E++[e],p q:=λq hq=>(XM hq).elim (h q) λh=>by rw[XG h];exact he
theorem GV{E:List α}{e q:α}{j:Nat}(h:(E++[e])[j]? =some q):E[j]? =some q∨(j=E.length/\q=e):=by
 rcases Nat.lt_or_ge j E.length with hj |hj
 ·rw[Yl hj]at h;exact .inl h
 ·rw[YR hj]at h
  cases hd:j - E.length with
  |zero=>rw[hd]at h;cases h;exact .inr ⟨Nat.le_antisymm (Nat.le_of_sub_eq_zero hd) hj,rfl⟩
  |succ=>rw[hd]at h;cases h
theorem HG.L7(G:HG H m)(ha:a < H.KM)(hb:b < H.KM)(hr:r.ok H.KM)(hl:r.eB=false)(hm:m+1<=100)(hab:H.rt a=H.rt b):HG (H.wh a b r) (m+1):=
 have pr:H.aM <+:H.aM++[(a,b,r)]:=Yk _ _
 {G with
 VU:=G.VU.v9 a b r
 lR:=hm
 ed:=by refine(?_:(H.aM++[_]).length<=_+H.bL.length);rw[Xv];have:=G.ed;refine(?_:H.aM.length+1<=m+1+H.bL.length);lia
 fo:=λj hj=>XJ (G.fo j hj) (by refine(?_:_<=(H.aM++[_]).length);rw[Xv];exact XS ..)
 eg:=xh G.eg ⟨ha,hb,hr⟩
 cn:=λx y hx hy h=>(G.cn x y hx hy h).elim λn h=>aC n h.1 (h.2.yG pr (λ_ h=>h) pr.length_le)
 al:=xh G.al hab
 lk:=λj a' b' h=>(GV h).elim (λh=>let⟨h1,h2,h3⟩:=G.lk j a' b' h;⟨h1,h2,λp hp=>(h3 p hp).Dg pr (λ_ h=>h) (Xx _)⟩) λh=>by have e:Rs.iX=r:=XB (λe=>e.2.2) h.2;rw[<-e]at hl;cases hl
 kn:=G.kn
 nl:=by refine(?_:dT (H.aM++[_])<=_);rw[BG,hl];exact G.nl}
noncomputable def gl(k g x:Nat):Nat:=if x=g then k else x
theorem VJ:(H.om a b r k g).rt=λx=>gl k g (H.rt x):=rfl
theorem FX(x y:Nat):kF x y<=kF (gl k g x) (gl k g y):=by
 unfold kF
 by_cases h:x=y
 ·rw[Xz h,h,Xz rfl];exact Xx _
 ·rw[XC h];exact Xw _
theorem HJ(ha:a < 6)(hb:b < 6)(h:bv a=bv b)(hn:a≠b):(a=2/\b=3)∨(a=3/\b=2)∨(a=4/\b=5)∨(a=5/\b=4):=by
 have key:∀a:Fin 6,∀b:Fin 6,bv a=bv b->a≠b->(a.1=2/\b.1=3)∨(a.1=3/\b.1=2)∨(a.1=4/\b.1=5)∨(a.1=5/\b.1=4):=by decide
 exact key ⟨a,ha⟩ ⟨b,hb⟩ h λe=>hn (XB Fin.val e)
theorem OS{l:List Nat}{p q s:Nat->Bool}(hp:∀z,p z=true->s z=true)(hq:∀z,q z=true->s z=true)(hn:∀z,p z=true->q z=true->False):l.countP p+l.countP q<=l.countP s:=by
 induction l with
 |nil=>exact Xx _
 |cons z l ih=>
  rw[List.countP_cons,List.countP_cons,List.countP_cons]
  have h1:=hp z;have h2:=hq z;have h3:=hn z
  cases h4:p z<;>cases h5:q z<;>cases h6:s z<;>simp_all<;>lia
theorem HG.L8(G:HG H m)(ha:a < H.KM)(hb:b < H.KM)(hr:r.ok H.KM)(hm':m<=m')(hm:m'<=100)(hmm:r.eB=true∨m+1<=m')
  (hlk:r.eB=true->bv a=bv b/\(aN a).length=(aN b).length/\∀p∈(aN a).zip (aN b),Cn H.aM H.bL H.aM.length p.1 p.2)
  (ek:min (H.rt a) (H.rt b)=k) (eg:max (H.rt a) (H.rt b)=g) (hlt:k < g):HG (H.om a b r k g) m':=by
 have I:=G.VU
 have hne:H.rt a≠H.rt b:=λe=>by rw[e,Nat.min_self]at ek;rw[e,Nat.max_self]at eg;exact XQ hlt (ek.symm.trans eg)
 have ends:(H.rt a=k/\H.rt b=g)∨(H.rt a=g/\H.rt b=k):=by
  rcases Nat.le_total (H.rt a) (H.rt b)with h |h
  ·rw[Nat.min_eq_left h]at ek;rw[Nat.max_eq_right h]at eg;exact .inl ⟨ek,eg⟩
  ·rw[Nat.min_eq_right h]at ek;rw[Nat.max_eq_left h]at eg;exact .inr ⟨eg,ek⟩
 have kx:∃x,x < H.KM/\H.rt x=k:=ends.elim (λh=>aC a ha h.1) λh=>aC b hb h.2
 have gx:∃x,x < H.KM/\H.rt x=g:=ends.elim (λh=>aC b hb h.2) λh=>aC a ha h.1
 refine az kx ?_;clear kx;intro xk xkc xke
 refine az gx ?_;clear gx;intro xg xgc xge
 have kk:k∈H.bW:=xke▸G.nk xk xkc
 have gk:g∈H.bW:=xge▸G.nk xg xgc
 have kc:k < H.KM:=xke▸I.rc xkc
 have gc:g < H.KM:=xge▸I.rc xgc
 have rr:∀x,x < H.KM->H.rt (H.rt x)=H.rt x:=λx h=>I.iS _ (I.rc h) (I.jp x h)
 have rk:H.rt k=k:=by have:=rr xk xkc;rwa [xke]at this
 have rg:H.rt g=g:=by have:=rr xg xgc;rwa [xge]at this
 have uk:H.ua k=k:=by have:=I.jp xk xkc;rwa [xke]at this
 have pr:H.aM <+:H.aM++[(a,b,r)]:=Yk _ _
 have fi:∀j∈H.bL,j∈H.bL++[H.aM.length]:=λj h=>YG _ h
 have up:∀{i i' x y:Nat},i<=i'->Cn H.aM H.bL i x y->Cn (H.aM++[(a,b,r)]) (H.bL++[H.aM.length]) i' x y:=λhi h=>h.Dg pr fi hi
 have us:∀{i i' n x y:Nat},i<=i'->Cs H.aM H.bL i n x y->Cs (H.aM++[(a,b,r)]) (H.bL++[H.aM.length]) i' n x y:=λhi h=>h.yG pr fi hi
 have gg:gl k g (H.rt a)=gl k g (H.rt b):=by
  unfold gl
  rcases ends with⟨e1,e2⟩ | ⟨e1,e2⟩
  ·rw[e1,e2,Xz rfl,XC (XQ hlt)]
  ·rw[e1,e2,Xz rfl,XC (XQ hlt)]
 have el:(H.aM++[(a,b,r)])[H.aM.length]? =some (a,b,r):=by rw[YR (Xx _),Nat.sub_self];rfl
 have lE:(H.aM++[(a,b,r)]).length=H.aM.length+1:=Xv
 have lF:(H.bL++[H.aM.length]).length=H.bL.length+1:=Xv
 have fm:H.aM.length∈H.bL++[H.aM.length]:=YZ _ (Ym rfl)
 have ll:H.aM.length < (H.aM++[(a,b,r)]).length:=by rw[lE];exact Zi _
 have cab:Cs (H.aM++[(a,b,r)]) (H.bL++[H.aM.length]) (H.aM++[(a,b,r)]).length 1 a b:=.mK (.kY _) fm ll el
 have kf:(H.bW.filter λr=>decide (r≠g)).length+1<=H.bW.length:=List.length_filter_lt_length_iff_exists.mpr (aC g gk (by simp))
 have bt:Bt H.bL.length+Bt H.bL.length=Bt (H.bL++[H.aM.length]).length:=by rw[lF];refine(?_:_=2 * _);rw[Nat.two_mul]
 have bu:Bt H.bL.length<=Bt (H.bL++[H.aM.length]).length:=by rw[<-bt];exact XS ..
 have J:=(I.v9 a b r).Ma hlt gc rk rg uk
 refine{VU:=⟨J.c6,J.lh,J.lT,J.iS,J.lS,J.jp,J.cb⟩,nk:=?nk,kt:=?kt,c1:=G.c1,WO:=?mg,ed:=?ed,lR:=hm,lo:=?lo,ab:=?ab,wa:=?wa,kw:=?kw,lm:=?lm,lc:=?lc,fo:=?fo,eg:=xh G.eg ⟨ha,hb,hr⟩,al:=xh (λe he=>XB (gl k g) (G.al e he)) ?al,cn:=?cn,lk:=?lk,kn:=?kn,nl:=?nl}
 case nk=>
  intro x hx
  refine List.mem_filter.mpr ⟨?_,?_⟩
  ·show gl k g (H.rt x)∈H.bW
   unfold gl;split;exact kk;exact G.nk x hx
  ·show decide (gl k g (H.rt x)≠g)=true
   unfold gl;split<;>rename_i h
   ·exact XT (XQ hlt)
   ·exact XT h
 case kt=>refine(?_:(H.bW.filter λr=>decide (r≠g)).length+(H.bL++[_]).length<=6);rw[lF];have:=G.kt;lia
 case mg=>refine(?_:(H.jq++[(k,g)]).length<=(H.bL++[_]).length);rw[lF,Xv];exact YD G.WO
 case ed=>refine(?_:(H.aM++[_]).length<=_+(H.bL++[_]).length);rw[lF,lE];have:=G.ed;lia
 case lo=>
  intro x hx
  refine(?_:4 * (cm H.cV k (H.cV k++H.cV g) x).length<=_)
  by_cases e:x=k
  ·rw[e,gq,Xv,Nat.mul_add];exact Xs (Za (G.lo k kc) (G.lo g gc)) (Yd bt)
  ·rw[eS e];exact Xs (G.lo x hx) bu
 case ab=>
  intro x hx
  have hxk:x∈H.bW:=(Zl hx).1
  have hxg:x≠g:=by have:=(Zl hx).2;simpa using this
  refine(?_:(cm (cm H.bz k (H.bz k++H.bz g)) g [] x).length<=_/\∀y∈cm (cm H.bz k (H.bz k++H.bz g)) g [] x,_)
  rw[eS hxg]
  by_cases e:x=k
  ·rw[e,gq,Xv]
   exact bm (Xs (Za (G.ab k kk).1 (G.ab g gk).1) (Yd bt)) (λy hy=>(XM hy).elim ((G.ab k kk).2 y) ((G.ab g gk).2 y))
  ·rw[eS e];exact bm (Xs (G.ab x hxk).1 bu) ((G.ab x hxk).2)
 case wa=>
  refine(?_:(H.dQ++H.bz g).length<=_/\∀x∈H.dQ++H.bz g,_)
  rw[Xv]
  exact bm (Xs (Za G.wa.1 (G.ab g gk).1) (Yd bt)) (λy hy=>(XM hy).elim (G.wa.2 y) ((G.ab g gk).2 y))
 case kw=>refine(?_:H.dH.length+(H.dQ++H.bz g).length<=20+128 * (H.bL++[_]).length);rw[lF,Xv];have:=G.kw;have:=(G.ab g gk).1;have:=G.bt;lia
 case lm=>
  intro x hx
  refine(?_:x∈cm H.cV k (H.cV k++H.cV g) (gl k g (H.rt x)))
  unfold gl;split<;>rename_i h
  ·rw[gq,<-h];exact YZ _ (G.lm x hx)
  ·by_cases e:H.rt x=k
   ·rw[e,gq,<-e];exact YG _ (G.lm x hx)
   ·rw[eS e];exact G.lm x hx
 case lc=>
  intro x hx y hy
  have hy:y∈cm H.cV k (H.cV k++H.cV g) x:=hy
  by_cases e:x=k
  ·rw[e,gq]at hy;exact(XM hy).elim (G.lc k kc y) (G.lc g gc y)
  ·rw[eS e]at hy;exact G.lc x hx y hy
 case fo=>exact λj hj=>(XM hj).elim (λh=>Nat.lt_trans (G.fo j h) ll) λh=>by rw[XG h];exact ll
 case al=>exact gg
 case cn=>
  intro x y hx hy h
  have h:gl k g (H.rt x)=gl k g (H.rt y):=h
  have s1:∀r',mH H r'<=mH (H.om a b r k g) (gl k g r'):=λr'=>List.countP_mono_left λz _ hz=>XT (by refine(?_:gl k g (H.rt z)=_);rw[XX hz])
  have s2:mH H g+mH H k<=mH (H.om a b r k g) k:=OS (λz hz=>XT (by refine(?_:gl k g (H.rt z)=k);rw[XX hz];exact Xz rfl)) (λz hz=>XT (by refine(?_:gl k g (H.rt z)=k);rw[XX hz];exact XC (XQ hlt))) λz h1 h2=>XQ hlt ((XX h2).symm.trans (XX h1))
  have old:∀{x y:Nat},x < H.KM->y < H.KM->H.rt x=H.rt y->∃n,n+1<=mH H (H.rt x)/\Cs (H.aM++[(a,b,r)]) (H.bL++[H.aM.length]) (H.aM++[(a,b,r)]).length n x y:=λhx hy h=>(G.cn _ _ hx hy h).elim λn q=>aC n q.1 (us (Yj ll) q.2)
  have kg:∀{x y:Nat},x < H.KM->y < H.KM->H.rt x=g->H.rt y=k->∃n,n+1<=mH (H.om a b r k g) k/\Cs (H.aM++[(a,b,r)]) (H.bL++[H.aM.length]) (H.aM++[(a,b,r)]).length n x y:=λ{x y} hx hy h1 h2=>by
   have fin:∀{u v:Nat},u < H.KM->v < H.KM->H.rt u=g->H.rt v=k->Cs (H.aM++[(a,b,r)]) (H.bL++[H.aM.length]) (H.aM++[(a,b,r)]).length 1 u v->∃n,n+1<=mH (H.om a b r k g) k/\Cs (H.aM++[(a,b,r)]) (H.bL++[H.aM.length]) (H.aM++[(a,b,r)]).length n x y:=λhu hv e1 e2 c1=>by
    refine az (old hx hu (h1.trans e1.symm)) λn1 l1 p1=>?_
    refine az (old hv hy (e2.trans h2.symm)) λn2 l2 p2=>?_
    rw[h1]at l1;rw[e2]at l2
    exact aC (n1+(1+n2)) (by lia) (p1.vU (c1.vU p2))
   rcases ends with⟨e1,e2⟩ | ⟨e1,e2⟩
   ·exact fin hb ha e2 e1 cab.yH
   ·exact fin ha hb e1 e2 cab
  have e:(H.om a b r k g).rt x=gl k g (H.rt x):=rfl
  rw[e]
  by_cases h1:H.rt x=H.rt y
  ·refine az (old hx hy h1) λn l q=>?_;exact aC n (Xs l (s1 _)) q
  ·unfold gl at h
   by_cases h2:H.rt x=g
   ·have h3:H.rt y≠g:=λe=>h1 (h2.trans e.symm)
    rw[Xz h2,XC h3]at h
    rw[show gl k g (H.rt x)=k from Xz h2]
    exact kg hx hy h2 h.symm
   ·by_cases h3:H.rt y=g
    ·rw[XC h2,Xz h3]at h
     rw[show gl k g (H.rt x)=k from(XC h2).trans h]
     refine az (kg hy hx h3 h) λn l q=>?_;exact aC n l q.yH
    ·rw[XC h2,XC h3]at h;exact absurd h h1
 case lk=>
  intro j a' b' h
  rcases GV (show(H.aM++[(a,b,r)])[j]? =_ from h)with h' | ⟨rfl,h'⟩
  ·refine cO (G.lk j a' b' h') λh1 h2 h3=>?_
   exact fA h1 h2 (λp hp=>up (Xx _) (h3 p hp))
  ·cases h'
   refine cO (hlk rfl) λh1 h2 h3=>?_
   exact fA h1 h2 (λp hp=>up (Xx _) (h3 p hp))
 case kn=>
  intro e he
  obtain⟨q,h1,h2,rs,h3,h4⟩:=G.kn e he
  refine⟨q,h1,h2,rs,h3,?_⟩
  have:=XB (List.map (gl k g)) h4
  rw[XV,XV]at this
  exact this
 case nl=>
  refine(?_:dT (H.aM++[_])<=kF (gl k g (H.rt 2)) (gl k g (H.rt 3))+kF (gl k g (H.rt 4)) (gl k g (H.rt 5)))
  rw[BG]
  have h2:=FX (k:=k) (g:=g) (H.rt 2) (H.rt 3)
  have h4:=FX (k:=k) (g:=g) (H.rt 4) (H.rt 5)
  have nl:=G.nl
  refine(?_:_+(if r.eB=true then 1 else 0)<=_)
  cases hL:r.eB with
  |false=>exact Xs nl (Za h2 h4)
  |true=>
   refine cO (hlk hL) λp1 p2 p3=>?_
   have one:∀x y,H.rt x≠H.rt y->gl k g (H.rt x)=gl k g (H.rt y)->kF (H.rt x) (H.rt y)+1<=kF (gl k g (H.rt x)) (gl k g (H.rt y)):=λx y h h'=>by unfold kF;rw[XC h,Xz h'];exact Xx _
   rcases HJ (XJ ha I.c6) (XJ hb I.c6) p1 (λe=>hne (by rw[e]))with⟨rfl,rfl⟩ | ⟨rfl,rfl⟩ | ⟨rfl,rfl⟩ | ⟨rfl,rfl⟩
   ·have:=one 2 3 hne gg;simp only[if_true];exact JA nl this h4
   ·have:=one 2 3 hne.symm gg.symm;simp only[if_true];exact JA nl this h4
   ·have:=one 4 5 hne gg;simp only[if_true];exact JB nl h2 this
   ·have:=one 4 5 hne.symm gg.symm;simp only[if_true];exact JB nl h2 this
end
section
variable {d n a b i m k g:Nat}{v:V}{o:O}{S:Nat->Prop}{e:Ex}{r:Rs}
structure Hp(S:Nat->Prop)(c h m:Nat)(ms:Nat)(σ τ:aj):Prop where
 ex:∃A H,HX S A H τ/\HG H m/\H.KM=c/\A.yA .aJ=h/\H.bW.length * 300+H.dQ.length<=ms
 fm:Fm S σ τ
theorem JT(d:Nat)(X:HX S A H σ)(G:HG H m)(ha:a < H.KM)(hb:b < H.KM)(hr:r.ok H.KM)(hm':m<=m')(hm:m'<=100)(hmm:r.eB=false/\m+1=m'∨r.eB=true/\H.rt a≠H.rt b)
  (hlk:r.eB=true->bv a=bv b/\(aN a).length=(aN b).length/\∀p∈(aN a).zip (aN b),Cn H.aM H.bL H.aM.length p.1 p.2):
  ∃bo τ,aL (d+3) 26 [.o 2 (A.yA .aJ),.i a,.i b,r.gC] σ (.b bo) τ/\Hp S H.KM (A.yA .aJ) m' (H.bW.length * 300+H.dQ.length) σ τ:=by
 by_cases h:H.rt a=H.rt b
 ·refine c8 (Tu d X (G.WY ha hb) r h) λτ h1 h2 h3=>?_
  refine ba (hmm.resolve_right λq=>q.2 h) λh4 q1=>?_;subst q1
  exact eE _ τ h1 (⟨(iu A _ h2 (G.L7 ha hb hr h4 hm h) rfl rfl (Xx _)),h3⟩)
 ·have hlt:min (H.rt a) (H.rt b) < max (H.rt a) (H.rt b):=qGj h
  refine dk (Tt d X (G.WY ha hb) r rfl rfl hlt) λA' τ h1 h2 h3 h4=>?_
  have G':=G.L8 ha hb hr hm' hm (hmm.symm.imp (λq=>q.1) λq=>Yd q.2) hlk rfl rfl hlt
  refine eE _ τ h1 (⟨(iu A' _ h2 G' rfl h4 ?_),h3⟩)
  have gk:max (H.rt a) (H.rt b)∈H.bW:=(Nat.le_total (H.rt a) (H.rt b)).elim (λq=>by rw[Nat.max_eq_right q];exact G.nk b hb) λq=>by rw[Nat.max_eq_left q];exact G.nk a ha
  have kf:(H.bW.filter λr=>decide (r≠max (H.rt a) (H.rt b))).length+1<=H.bW.length:=List.length_filter_lt_length_iff_exists.mpr (aC _ gk (by simp))
  have:=(G.ab _ gk).1
  have:=G.bt
  refine(?_:(H.bW.filter _).length * 300+(H.dQ++H.bz _).length<=_)
  rw[Xv]
  lia
theorem TF(d:Nat)(X:HX S A H σ)(G:HG H m)(ha:a < H.KM)(hb:b < H.KM)(hr:r.ok H.KM)(hm:m+1<=100)(hl:r.eB=false):
  ∃v τ,aL (d+4) 25 [.o 2 (A.yA .aJ),.i a,.i b,r.gC] σ v τ/\Hp S H.KM (A.yA .aJ) (m+1) (H.bW.length * 300+H.dQ.length) σ τ:=by
 refine dY (JT d X G ha hb hr (Yp m) hm (.inl ⟨hl,rfl⟩) (λh=>by rw[hl]at h;cases h)) λbo τ h1 h2=>?_
 exact eE _ τ (cI (f:=Gr) rfl rfl (be (bM (bQ (af rfl) (dy X.Vu) rfl (ac.ah (af rfl) (ac.ah (af rfl) (Xo (af rfl)))) h1)))) h2
theorem zX[DecidableEq κ]{es:List (κ×V)}{q:κ}{u:V}(h:cA es q=some u):(q,u)∈es:=by
 unfold cA at h
 refine az (YK h) λe he hu=>?_
 have:=List.find?_some he
 have e1:e.1=q:=XX this
 have:e=(q,u):=by rw[<-e1,<-hu]
 exact this▸List.mem_of_find?_eq_some he
theorem wZ[DecidableEq κ]{es:List (κ×V)}{q:κ}{u:V}(h:cA es q=none):eC es q u=es++[(q,u)]:=by
 unfold eC
 rw[XC]
 intro ha
 refine az (List.any_eq_true.mp ha) λe he hq=>?_
 unfold cA at h
 rw[Option.map_eq_none_iff,List.find?_eq_none]at h
 exact h e he hq
theorem HZ(d:Nat)(X:HX S A H σ)(I:HI H)(hx:x < H.KM){w:V}(p:Pr (dB 4 (.r (A.yA .fh)) [.t (.s (bv x)::(aN x).map λk=>V.i (H.rt k:Int)),.i x] σ) w σ')(hk:mj (iw σ (.r (A.yA .fh))) 4=true):
  ai (d+3) 12 (.a (.v 2) (.m 4 (.a 25 (.v 0)) [.m 34 (.v 0) [.v 1],.v 1])) (bf [.o 2 (A.yA .aJ),.i x]) σ .n (au (bf [.o 2 (A.yA .aJ),.i x]) 2 w) σ':=
 bh (dp (eH X.Vu rfl rfl rfl) hk (ac.ah (bQ (af rfl) (dy X.Vu) rfl (Xo (af rfl)) (TG d X.Vu I hx)) (Xo (af rfl))) rfl p) bc
theorem qv(n:Nat)(X:HX S A H σ)(I:HI H)(hx:x < H.KM)(h0:ρ 0=some (.o 2 (A.yA .aJ)))(h1:ρ i=some (.i x)):Ev (d+2) (n+2) (.m 20 (.v 0) [.v i]) ρ σ (.i (H.rt x)) σ:=
 bQ (af h0) (dy X.Vu) rfl (Xo (af h1)) (ye d X.Vu I hx)
theorem FJ(H:HS)(x:Nat):fu (.t H.dH) (.t (.s (bv x)::(aN x).map λk=>V.i (H.rt k:Int)))=some (cA H.dH (iM H x)):=by
 refine(?_:Option.map _ (eW _)=_)
 rw[Hu];rfl
theorem JU(d:Nat)(X:HX S A H σ)(I:HI H)(hx:x < H.KM)(hn:cA H.dH (iM H x)=none)(hl:H.dH.length<=aK):
  aL (d+4) 22 [.o 2 (A.yA .aJ),.i x] σ .n (σ.set (A.yA .fh) (.t (H.dH++[(iM H x,.i x)]))):=by
 refine ba (X.y9 (H.dH++[(iM H x,.i x)])) λX1 F1=>?_
 have ds:fP (.t H.dH) (.t (.s (bv x)::(aN x).map λk=>V.i (H.rt k:Int))) (.i x)=some (.t (H.dH++[(iM H x,.i x)])):=by
  refine(?_:Option.map _ (eW _)=_)
  rw[Hu,<-wZ (u:=.i x) hn];rfl
 exact cI (f:=xo) (fl:=.n) rfl rfl (ao (HZ d X I hx (I8 (X.Vu.aZ .fh trivial) (by intro _ h;cases h) hl (by refine(?_:fu (.t H.dH) _=_);rw[FJ,hn]) ds) (sP (X.Vu.aZ .fh trivial) rfl rfl))
  (Xp (bC (aY (qv _ X1 ⟨I.c6,I.lh,I.lT,I.iS,I.lS,I.jp,I.cb⟩ hx rfl rfl) (qv _ X1 ⟨I.c6,I.lh,I.lT,I.iS,I.lS,I.jp,I.cb⟩ hx rfl rfl) (by rw[mr];simp) (Xw _)) aP)))
theorem Ia(I:HI H)(hx:x < H.KM):((aN x).map H.rt).map H.rt=(aN x).map H.rt:=by
 rw[XV]
 exact Y0 λk hk=>I.iS _ (I.rc (nv x hx k hk)) (I.jp k (nv x hx k hk))
theorem Hr(H:HS)(x:Nat):iM H x=.inl (bv x)::((aN x).map H.rt).map λr:Nat=>.inr (r:Int):=by unfold iM;rw[XV];rfl
theorem Qg:∀{l l':List Nat},l.map (λr:Nat=>(Sum.inr (r:Int):KV))=l'.map (λr:Nat=>.inr (r:Int))->l=l':=λ{l l'} h=>
 (List.map_inj_right (f:=λr:Nat=>(Sum.inr (r:Int):KV)) (λx y (h:(Sum.inr (x:Int):KV)=.inr (y:Int))=>by cases h;rfl)).mp h
theorem Vm(G:HG H m):∀(l l':List Nat),(∀z∈l,z < H.KM)->(∀z∈l',z < H.KM)->l.map H.rt=l'.map H.rt->l.length=l'.length/\∀p∈l.zip l',Cn H.aM H.bL H.aM.length p.1 p.2:=λl l' h1 h2 h=>by
 have hl:l.length=l'.length:=by have:=XB List.length h;rwa [Xr,Xr]at this
 refine bm hl (λp hp=>?_)
 refine aT (List.mem_iff_getElem?.mp hp) λi hi=>?_
 refine ba (List.getElem?_zip_eq_some.mp hi) λq1 q2=>?_
 have e:=XB (·[i]?) h
 rw[Yy,Yy,q1,q2]at e
 exact G.y5 (h1 _ (Yo q1)) (h2 _ (Yo q2)) (XA e)
theorem TB(d:Nat)(X:HX S A H σ)(G:HG H m)(hx:x < H.KM)(hkw:H.dH.length+H.dQ.length+1<=20+128 * H.bL.length):
  ∃τ,aL (d+4) 22 [.o 2 (A.yA .aJ),.i x] σ .n τ/\Hp S H.KM (A.yA .aJ) m (H.bW.length * 300+H.dQ.length) σ τ:=by
 have I:=G.VU
 have hkl:H.dH.length<=aK:=by have:=G.t5;refine(?_:_<=1000000);lia
 cases hg:cA H.dH (iM H x)with
 |none=>
  refine ba (X.y9 (H.dH++[(iM H x,.i x)])) λX1 F1=>?_
  exact⟨_,JU d X I hx hg hkl,(iu A _ X1 ({G with
   VU:=⟨I.c6,I.lh,I.lT,I.iS,I.lS,I.jp,I.cb⟩
   kw:=by refine(?_:(H.dH++[_]).length+_<=_);rw[Xv];refine(?_:H.dH.length+1+H.dQ.length<=20+128 * H.bL.length);exact hY hkw
   kn:=λe he=>(XM he).elim (λh=>G.kn e h) λh=>by
    rw[XG h]
    exact⟨x,hx,rfl,(aN x).map H.rt,Hr H x,(Ia I hx).symm⟩}) rfl rfl (Xx _)),F1⟩
 |some w=>
  obtain⟨q,qc,rfl,rs,h1,h2⟩:=G.kn _ (zX hg)
  rw[Hr]at h1
  have hop:bv x=bv q:=Sum.inl.inj (List.cons.inj h1).1
  have hrs:(aN x).map H.rt=rs:=Qg (List.cons.inj h1).2
  rw[<-hrs,Ia I hx]at h2
  refine ba (Vm G (aN q) (aN x) (nv q qc) (nv x hx) h2) λhl hz=>?_
  have st:=HZ d X I hx (I9 (u:=.i x) (X.Vu.aZ .fh trivial) (by intro _ h;cases h) hkl (by refine(?_:fu (.t H.dH) _=_);rw[FJ,hg])) (sP (X.Vu.aZ .fh trivial) rfl rfl)
  by_cases e:H.rt q=H.rt x
  ·exact⟨σ,cI (f:=xo) (fl:=.n) rfl rfl (ao st (Xp (bC (aY (qv _ X I qc rfl rfl) (qv _ X I hx rfl rfl) (by rw[mr,e];simp) (Xw _)) aP))),(iu A H X G rfl rfl (Xx _)),λ_ _=>rfl⟩
  ·refine dY (JT (r:=.iX) d X G qc hx trivial (Xx m) G.lR (.inr ⟨rfl,e⟩) λ_=>⟨hop.symm,hl,hz⟩) λbo τ h3 h4=>?_
   exact aC τ (cI (f:=xo) (fl:=.n) rfl rfl (ao st (Xp (cX (aY (qv _ X I qc rfl rfl) (qv _ X I hx rfl rfl) (by rw[mr];simp[e]) (Xw _))
    (Xp (dv (bQ (af rfl) (dy X.Vu) rfl (ac.ah (af rfl) (ac.ah (af rfl) (Xo (bI (Xo aq))))) h3))))))) h4
theorem I7{f:α->V}{l:List α}{x:α}(ha:σ[a]? =some (.l ((l++[x]).map f)))(h:l.length<=299):Pr (dB 2 (.r a) [] σ) (f x) (σ.set a (.l (l.map f))):=by
 have e:(l++[x]).map f=l.map f++[f x]:=Yc
 rw[e]at ha
 have:=Co ha List.getLast?_concat (bq (by rw[Xv,Xr];exact YD h))
 rwa [List.dropLast_concat]at this
theorem Ur(d:Nat):∀(N:Nat) (A:Ad) (H:HS) (σ:aj) (ρ:aA),HX S A H σ->HG H m->H.bW.length * 300+H.dQ.length<=N->ρ 0=some (.o 2 (A.yA .aJ))->
  ∃τ ρ',ai (d+4) 12 (.w (.p .g (.b .l [.a 26 (.v 0)]) (.c (.i 0))) [.e (.m 31 (.v 0) [.m 2 (.a 26 (.v 0)) []])]) ρ σ .n ρ' τ/\Hp S H.KM (A.yA .aJ) m N σ τ:=by
 intro N
 induction N using Nat.strongRecOn with
 |_ N ih=>
  intro A H σ ρ X G hN h0
  have len:Ev (d+4) 29 (.b .l [.a 26 (.v 0)]) ρ σ (.i ((av H.dQ).length:Int)) σ:=ci rfl (Xo (eH X.Vu h0 rfl rfl)) (fC (X.Vu.aZ .eZ trivial) (bq (by rw[Xr];exact Xs G.wa.1 (Xs G.bt (by decide)))))
  rcases List.eq_nil_or_concat H.dQ with hw | ⟨w,x,hw⟩
  ·rw[hw]at len
   exact⟨σ,ρ,iY (aY len aq rfl trivial),(iu A H X G rfl rfl hN),λ_ _=>rfl⟩
  ·rw[List.concat_eq_append]at hw
   have hl:H.dQ.length=w.length+1:=by rw[hw,Xv];rfl
   have hx:x < H.KM:=G.wa.2 x (by rw[hw];exact YZ _ (Ym rfl))
   have I:=G.VU
   have hb:=G.bt
   have hwa:=G.wa.1
   have hkw:=G.kw
   have h299:w.length<=299:=by lia
   have hat:σ[A.yA .eZ]? =some (.l (av (w++[x]))):=by rw[<-hw];exact X.Vu.aZ .eZ trivial
   refine ba (X.DI w) λX1 F1=>?_
   have G1:HG {H with dQ:=w} m:={G with VU:=⟨I.c6,I.lh,I.lT,I.iS,I.lS,I.jp,I.cb⟩,kn:=G.kn,wa:=⟨(qT (vn hl) hwa:w.length<=Bt H.bL.length),λy hy=>G.wa.2 y (by rw[hw];exact YG _ hy)⟩,kw:=(JD hkw hl:H.dH.length+w.length<=20+128 * H.bL.length)}
   obtain⟨τ,h1,nn0,F2⟩:=TB d X1 G1 hx (by refine(?_:H.dH.length+w.length+1<=20+128 * H.bL.length);lia);refine i8 nn0 ?_;clear nn0;intro A2 H2 X2 G2 c2 a2 m2
   have m2:H2.bW.length * 300+H2.dQ.length<=H.bW.length * 300+w.length:=m2
   have c2:H2.KM=H.KM:=c2
   obtain⟨τ',ρ',h3,nn0,F3⟩:=ih (H.bW.length * 300+w.length) (by lia) A2 H2 τ ρ X2 G2 m2 (by rw[a2];exact h0);refine i8 nn0 ?_;clear nn0;intro A3 H3 X3 G3 c3 a3 m3
   refine⟨τ',ρ',l7 (aY len aq ?_ trivial) (Xp (dv (bQ (af h0) (dy X.Vu) rfl (Xo (dp (eH X.Vu h0 rfl rfl) (eI (X.Vu.aZ .eZ trivial) rfl) ac.an rfl (I7 (x:=x) (l:=w) hat h299))) h1))) h3,(iu A3 H3 X3 G3 (c3.trans c2) (a3.trans a2) (Xs m3 (Xs (YC (by rw[hl];exact Yp _) _) hN))),F1.fT (F2.fT F3)⟩
   refine(?_:some (decide ((0:Int) < ((av H.dQ).length:Int)))=some true)
   rw[Xr,hl];simp
theorem TQ(d:Nat)(X:HX S A H σ)(G:HG H m):∃τ,aL (d+5) 27 [.o 2 (A.yA .aJ)] σ .n τ/\Hp S H.KM (A.yA .aJ) m (H.bW.length * 300+H.dQ.length) σ τ:=by
 refine dY (Ur d _ A H σ (bf [.o 2 (A.yA .aJ)]) X G (Xx _) rfl) λτ ρ' h1 h2=>?_
 exact aC τ (cI (f:=Gu) (fl:=.n) rfl rfl (Xp h1)) h2
end
section
variable {d n a b i m k g:Nat}{u v w:V}{o:O}{S:Nat->Prop}{e c:Ex}{es:List (Ex×Ex)}{vs:List (V×V)}{r:Rs}
theorem hH(f:α->β)(l:List α)(x:α):(l++[x]).map f=l.map f++[f x]:=Yc
theorem w9(ha:σ[a]? =some o){q:Option V}(h:fu o w=some q):gX σ .i w (.r a)=some q.isSome:=by refine(?_:((σ[a]?).bind λo=>(fu o w).map (·.isSome))=_);rw[ha];refine(?_:Option.map _ (fu o w)=_);rw[h];rfl
theorem Ac(ha:σ[a]? =some o){q:Option V}(h:fu o w=some q):gX σ .o w (.r a)=some (!q.isSome):=by refine(?_:Option.map _ (gX σ .i w (.r a))=_);rw[w9 ha h];rfl
noncomputable abbrev nd(es:List (Nat×V)):O:=.d (es.map λe=>((e.1:Int),e.2))
noncomputable def ng(es:List (Nat×V))(k:Nat):Option V:=(es.find? λe=>decide (e.1=k)).map (·.2)
theorem m5(es:List (Nat×V))(k:Nat):fu (nd es) (.i k)=some (ng es k):=by
 show some (cA _ _)=_
 congr 1
 unfold cA ng
 induction es with
 |nil=>rfl
 |cons e es ih=>
  rw[XD,Zr,Zr]
  by_cases h:e.1=k
  ·simp[h]
  ·have:decide ((e.1:Int)=(k:Int))=false:=by simp;exact th h
   rw[this,Yb h];exact ih
theorem xf{es:List (Nat×V)}(v:V)(h:ng es k=none):fP (nd es) (.i k) v=some (nd (es++[(k,v)])):=by
 have h':=XA (m5 es k)
 rw[h]at h'
 refine(?_:some (O.d (eC _ _ _))=_)
 rw[wZ h'];exact XB (λl=>some (O.d l)) (hH _ es (k,v)).symm
theorem xP{es:List (Nat×V)}(h:k∉es.map (·.1)):ng es k=none:=by
 unfold ng
 rw[Option.map_eq_none_iff,List.find?_eq_none]
 intro e he hk
 exact h (Yz (aC e he (XX hk)))
theorem xQ{es:List (Nat×V)}(h:k∈es.map (·.1)):∃v,ng es k=some v/\(k,v)∈es:=by
 refine az (Yf h) λe he hk=>?_
 cases hf:es.find? λe=>decide (e.1=k)with
 |none=>exact absurd (XT hk) (List.find?_eq_none.mp hf e he)
 |some q=>
  have h1:q.1=k:=XX (List.find?_some (p:=λe:Nat×V=>decide (e.1=k)) hf)
  exact aC q.2 (by unfold ng;rw[hf];rfl) (h1▸List.mem_of_find?_eq_some hf)
theorem VL{es:List (Nat×V)}{k':Nat}:ng (es++[(k',v)]) k=(ng es k).or (if k'=k then some v else none):=by
 unfold ng
 rw[List.find?_append,Option.map_or]
 congr 1
 by_cases h:k'=k
 ·simp[h]
 ·simp[h]
noncomputable def cp(x:Nat):Tm:=.bS (bv x) ((aN x).map λj=>.bS (bv j) [])
noncomputable abbrev tr(B:List Nat):List (Nat×V):=B.map λk=>(k,.b true)
noncomputable def jx:List Nat->List Nat->List Nat->List Nat×List Nat
 |B,T,[]=>(B,T)
 |B,T,k::r=>if k∈B then jx B T r else jx (B++[k]) (T++[k]) r
theorem OX{B T k r}:jx B T (k::r)=if k∈B then jx B T r else jx (B++[k]) (T++[k]) r:=rfl
noncomputable def xc:Nat->List Nat->List Nat->Option (List Nat)
 |0,_,_=>none
 |n+1,B,T=>if B.length+T.length<=100 then match T.getLast? with
  |none=>some B
  |some t=>xc n (jx B T.dropLast (aN t)).1 (jx B T.dropLast (aN t)).2
  else none
theorem Iq(B:List Nat)(k:Nat):(ng (tr B) k).isSome=decide (k∈B):=by
 have e:(tr B).map (·.1)=B:=by rw[XV];exact List.map_id _
 by_cases h:k∈B
 ·refine az (xQ (es:=tr B) (k:=k) (by rw[e];exact h)) λv hv _=>?_
  rw[hv,XT h];rfl
 ·rw[xP (es:=tr B) (by rw[e];exact h),Yb h];rfl
theorem OZ(l:List Nat):∀(B T:List Nat) (ρ:aA),B.length+T.length+2 * l.length<=300->ρ 2=some (.r σ.length)->ρ 3=some (.r (σ.length+1))->∃ρ',(∀j,j≠4->ρ' j=ρ j)/\
  bF d 10 (.v 4) [.i (.p .o (.v 4) (.v 2)) [.a (.s (.v 2) (.v 4)) (.c (.b true)),.e (.m 0 (.v 3) [.v 4])] []] (.bx ys) (av l) ρ (σ++[nd (tr B),.l (av T)]) .n ρ' (σ++[nd (tr (jx B T l).1),.l (av (jx B T l).2)]):=by
 induction l with
 |nil=>intro B T ρ _ _ _;exact aC ρ (λ_ _=>rfl) fG
 |cons k l ih=>
  intro B T ρ hl h2 h3
  rw[Xy]at hl
  have hin:∀n,Ev d (n+2) (.p .o (.v 4) (.v 2)) (au ρ 4 (.i k)) (σ++[nd (tr B),.l (av T)]) (.b (!decide (k∈B))) (σ++[nd (tr B),.l (av T)]):=λn=>
   aY (af (bw _ _ _)) (af h2) (by rw[Ac (lC _ _) (m5 _ _),Iq]) trivial
  by_cases hk:k∈B
  ·refine az (ih B T (au ρ 4 (.i k)) (by lia) h2 h3) λρ' h4 h5=>?_
   have e:jx B T (k::l)=jx B T l:=Xz hk
   rw[e]
   refine aC ρ' (λj hj=>(h4 j hj).trans (bR _ _ hj)) (fc (S:=.bx ys) (ρ':=au ρ 4 (.i k)) rfl (Xp (bC (by have:=hin 28;rw[XT hk]at this;exact this) aP)) trivial h5)
  ·refine az (ih (B++[k]) (T++[k]) (au ρ 4 (.i k)) (by rw[Xv,Xv];refine(?_:B.length+1+(T.length+1)+_<=_);lia) h2 h3) λρ' h4 h5=>?_
   have e:jx B T (k::l)=jx (B++[k]) (T++[k]) l:=XC hk
   rw[e]
   have hn:ng (tr B) k=none:=by have:=Iq B k;rw[Yb hk]at this;exact Option.not_isSome_iff_eq_none.mp (by rw[this];decide)
   have s1:lY (mG (.r σ.length) (.i k) (.b true) (σ++[nd (tr B),.l (av T)])) (σ++[nd (tr (B++[k])),.l (av T)]):=by
    have h:=mB (lC σ [nd (tr B),.l (av T)]) (by intro _ h;cases h) (bq (α:=Int×V) (by rw[Xr,Xr];exact bT (tf hl))) (xf (.b true) hn)
    rw[uy]at h
    have:tr B++[(k,V.b true)]=tr (B++[k]):=(hH _ B k).symm
    rw[this]at h;exact h
   have s2:Pr (dB 0 (.r (σ.length+1)) [.i k] (σ++[nd (tr (B++[k])),.l (av T)])) .n (σ++[nd (tr (B++[k])),.l (av (T++[k]))]):=by
    have h:=kO (f:=λn:Nat=>V.i (n:Int)) k (kB σ [nd (tr (B++[k])),.l (av T)] 1) (cG (hY hl))
    rw[wY]at h;exact h
   exact aC ρ' (λj hj=>(h4 j hj).trans (bR _ _ hj)) (fc (S:=.bx ys) (ρ':=au ρ 4 (.i k)) rfl (Xp (cX (by have:=hin 28;rw[Yb hk]at this;exact this)
    (ao (bh aq (kX (af (i:=2) h2) (af (bw _ _ _)) s1)) (Xp (dv (dp (af (i:=3) h3) (eI (kB σ _ 1) rfl) (Xo (af (bw _ _ _))) rfl s2)))))) trivial h5)
theorem HR.gU(R:HR A H σ):σ[A.yA .dW]? =some (.a 0 [(10,.r (A.yA .eL)),(11,.r (A.yA .eU)),(12,.r (A.yA .gF)),(13,.r (A.yA .gE))]):=R.aZ .dW trivial
theorem OY(I:HI H):∀(l B T:List Nat),(∀z∈l,z < H.KM)->(∀z∈T,z < H.KM)->∀z∈(jx B T l).2,z < H.KM:=by
 intro l
 induction l with
 |nil=>intro B T _ h;exact h
 |cons k l ih=>
  intro B T h1 h2
  rw[OX]
  split
  ·exact ih B T (λz hz=>h1 z (XI _ hz)) h2
  ·exact ih _ _ (λz hz=>h1 z (XI _ hz)) λz hz=>(XM hz).elim (h2 z) λh=>by rw[XG h];exact h1 k (XH ..)
noncomputable def U1:List St:=match xm.dZ with | [_,.w _ b,_,_,_]=>b |_=>[]
theorem O0(d:Nat)(R:HR A H σ)(I:HI H):∀(N:Nat) (B T L:List Nat) (ρ:aA),xc N B T=some L->(∀z∈T,z < H.KM)->ρ 0=some (.o 0 (A.yA .dW))->ρ 2=some (.r σ.length)->ρ 3=some (.r (σ.length+1))->
  ∃ρ',(∀j,j≠4->ρ' j=ρ j)/\ai (d+1) 12 (.w (.p .g (.b .l [.v 3]) (.c (.i 0))) U1) ρ (σ++[nd (tr B),.l (av T)]) .n ρ' (σ++[nd (tr L),.l []]):=by
 intro N
 induction N with
 |zero=>intro B T L ρ h;cases h
 |succ N ih=>
  intro B T L ρ h hT h0 h2 h3
  unfold xc at h
  split at h
  case isFalse=>cases h
  rename_i hl
  have len:Ev (d+1) 29 (.b .l [.v 3]) ρ (σ++[nd (tr B),.l (av T)]) (.i ((av T).length:Int)) (σ++[nd (tr B),.l (av T)]):=ci rfl (Xo (af h3)) (fC (kB σ _ 1) (bq (by rw[Xr];exact cG (bP hl rfl))))
  rcases List.eq_nil_or_concat T with rfl | ⟨T',t,rfl⟩
  ·cases h
   exact aC ρ (λ_ _=>rfl) (iY (aY len aq rfl trivial))
  ·rw[List.concat_eq_append]at *
   rw[List.getLast?_concat,List.dropLast_concat]at h
   have tc:t < H.KM:=hT t (YZ _ (Ym rfl))
   have hk:=g9 t
   rw[Xv]at hl
   refine az (OZ (d:=d+1) (σ:=σ) (ys:=av (aN t)) (aN t) B T' ρ (by lia) h2 h3) λρ1 g1 f1=>?_
   refine az (ih _ _ L ρ1 h (OY I _ _ _ (nv t tc) λz hz=>hT z (YG _ hz)) ((g1 0 (by decide)).trans h0) ((g1 2 (by decide)).trans h2) ((g1 3 (by decide)).trans h3)) λρ2 g2 f2=>?_
   have pp:Pr (dB 2 (.r (σ.length+1)) [] (σ++[nd (tr B),.l (av (T'++[t]))])) (.i t) (σ++[nd (tr B),.l (av T')]):=by
    have h:=I7 (f:=λn:Nat=>V.i (n:Int)) (x:=t) (l:=T') (kB σ [nd (tr B),.l (av (T'++[t]))] 1) (cG (gj (bP hl rfl)))
    rw[wY]at h;exact h
   have R1:=R.gy [nd (tr B),.l (av T')]
   refine aC ρ2 (λj hj=>(g2 j hj).trans (g1 j hj)) (l7 (aY len aq ?_ trivial) (Xp (fg (S:=.bx (av (aN t))) (jK (bQ (af h0) (R.gy _).gU rfl (Xo (dp (af h3) (eI (kB σ _ 1) rfl) ac.an rfl pp)) (tj d R1 I tc)) (bq (by rw[Xr];exact bP hk rfl))) f1)) f2)
   refine(?_:some (decide ((0:Int) < ((av (T'++[t])).length:Int)))=some true)
   rw[Xr,Xv];simp
noncomputable def vg:List Nat->List Nat->Bool
 |_,[]=>true
 |D,k::r=>(aN k).all (λj=>decide (j∈D)&&(aN j).isEmpty)&&decide (k∉D)&&vg (D++[k]) r
theorem RQ{D k r}:vg D (k::r)=((aN k).all (λj=>decide (j∈D)&&(aN j).isEmpty)&&decide (k∉D)&&vg (D++[k]) r):=rfl
noncomputable abbrev md(D:List Nat):List (Nat×V):=D.map λk=>(k,(cp k).enc)
theorem Im:∀{D:List Nat} {k:Nat},k∈D->ng (md D) k=some (cp k).enc:=λ{D k} h=>by
 refine az (xQ (es:=md D) (k:=k) (by rw[XV];exact Yz (aC k h rfl))) λv h1 h2=>?_
 refine az (Yf h2) λj hj e=>?_
 cases e;exact h1
theorem KA{j:Nat}(h:(aN j).isEmpty=true):cp j=.bS (bv j) []:=by unfold cp;rw[Zy h];rfl
theorem Kz(x:Nat)(h:(aN x).all (λj=>(aN j).isEmpty)=true):(cp x).enc=.t (.s (bv x)::(aN x).map λj=>(cp j).enc):=by
 refine(?_:V.t (_::Tm.encs _)=_)
 rw[oL,XV]
 congr 2
 exact Y0 λj hj=>by rw[KA (YM h j hj)];rfl
noncomputable def U2:List St:=match xm.dZ with | [_,_,_,.l _ _ b,_]=>b |_=>[]
theorem Q8(d:Nat){q:Nat}(I:HI H)(hq:q≠m):∀(L D:List Nat) (ρ:aA) (σ:aj),vg D L=true->(∀z∈L,z < H.KM)->D.length+L.length<=100->HR A H σ->(∀s,H.ok s->A.yA s≠m)->σ[m]? =some (nd (md D))->σ[q]? =some (.l ys)->ρ 0=some (.o 0 (A.yA .dW))->ρ 5=some (.r m)->
  ∃ρ' τ,(∀j,j≠6->ρ' j=ρ j)/\bF (d+1) 11 (.v 6) U2 (.cr q ys) (av L) ρ σ .n ρ' τ/\τ[m]? =some (nd (md (D++L)))/\∃g,τ=σ.set m (nd (md (D++L)))++g:=by
 intro L
 induction L with
 |nil=>intro D ρ σ _ _ _ R hm h1 h2 h0 h5;exact⟨ρ,σ,λ_ _=>rfl,fG,by rw[Yi];exact h1,[],by rw[Yi,Yi,qX h1]⟩
 |cons k L ih=>
  intro D ρ σ ho hc hl R hm h1 h2 h0 h5
  rw[RQ,YJ,YJ]at ho
  refine ba ho ?_;clear ho;intro nn0 ok3;refine ba nn0 ?_;clear nn0;intro ok1 ok2
  have kc:=hc k (XH ..)
  rw[Xy]at hl
  have hin:∀j∈aN k,j∈D/\(aN j).isEmpty=true:=λj hj=>by have:=YM ok1 j hj;rw[YJ]at this;exact bm (XX this.1) this.2
  let ρ1:=au ρ 6 (.i k)
  let G:aj:=[.l ((aN k).map λj=>(cp j).enc)]
  have o0:aD (av (aN k)):=bq (by rw[Xr];exact Xs (g9 k) (by decide))
  have hit:=gJ (d:=d+1) (n:=27) (elt:=.s (.v 5) (.v 7)) (tg:=.v 7) (ρ:=ρ1) (σ:=σ) (S:=.bx (av (aN k))) (λ_=>rfl) (λ_=>trivial) (λj:Nat=>V.i (j:Int)) (λj=>(cp j).enc) (aN k)
   (λj hj=>aC _ rfl (bi (af h5) (af (bw _ _ _)) (mC h1 (by intro _ h;cases h) (by rw[m5,Im (hin j hj).1])))) [] o0
  rw[X0]at hit
  have ev:Ev (d+1) 30 (.i .a (.t [.m 16 (.v 0) [.v 6]]) (.b .t [.o (.s (.v 5) (.v 7)) [.m (.v 7) (.e (.m 15 (.v 0) [.v 6])) []]])) ρ1 σ (cp k).enc (σ++G):=by
   rw[Kz k (List.all_eq_true.mpr λj hj=>(hin j hj).2)]
   exact bX (bI (Xo (bQ (af h0) R.gU rfl (Xo (af (bw _ _ _))) (vy d R I kc))))
    (ci rfl (Xo (dU (jK (bQ (af h0) R.gU rfl (Xo (af (bw _ _ _))) (tj d R I kc)) o0) hit)) (j3 aX (bq (by rw[Xr];exact Xs (g9 k) (by decide)))))
    (vk (xs:=[.s (bv k)]) (bq (by rw[Xv,Xr];exact Xs (YC (g9 k) 1) (by decide))))
  have kn:ng (md D) k=none:=xP (by rw[XV];intro h;refine az (Yf h) λj hj e=>?_;cases e;exact XX ok2 hj)
  have lm:m < σ.length:=(XZ h1).1
  have e1:md D++[(k,(cp k).enc)]=md (D++[k]):=(hH _ D k).symm
  have s1:lY (mG (.r m) (.i k) (cp k).enc (σ++G)) (σ.set m (nd (md (D++[k])))++G):=by
   have h:=mB (bO _ G h1) (by intro _ h;cases h) (bq (α:=Int×V) (by rw[Xr,Xr];exact bT (bP hl rfl))) (xf (cp k).enc kn)
   rw[py lm,e1]at h;exact h
  have R':HR A H (σ.set m (nd (md (D++[k])))++G):=HR.gy ⟨R.eT,λs hs=>by rw[aV (λh=>hm s hs h.symm)];exact R.aZ s hs⟩ G
  obtain⟨ρ',τ,f1,f2,f3,g,f4⟩:=ih (D++[k]) ρ1 (σ.set m (nd (md (D++[k])))++G) ok3 (λz hz=>hc z (XI _ hz)) (by rw[Xv];refine(?_:D.length+1+_<=_);exact gj hl) R' hm (bO _ _ (cS h1)) (bO _ _ (by rw[aV hq.symm];exact h2)) h0 h5
  rw[XU]at f3 f4
  refine⟨ρ',τ,λj hj=>(f1 j hj).trans (bR _ _ hj),fc (S:=.cr q ys) (ρ':=ρ1) rfl (Xp (bh ev (kX (af (i:=5) h5) (af (bw _ _ _)) s1))) (bO _ _ (by rw[aV hq.symm];exact h2)) f2,f3,G++g,?_⟩
  rw[f4,py (by rw[XN];exact lm),Yr,XU];rfl
noncomputable def j1(x:Nat):List Nat:=aN x|>.foldr (λk l=>if k∈l then l else if k=1 then l++[1]else k::l) [x] |> λl=>(l.filter (· ≠x))++[x]
theorem U3:∀x,x < 6->∃L,xc 5 [x] [x]=some L/\iP (L.map λk:Nat=>(k:Int))=((j1 x).map λk:Nat=>(k:Int))/\vg [] (j1 x)=true/\(j1 x).getLast? =some x/\L.length<=3/\(j1 x).length<=3/\∀z∈j1 x,z<=x
 |0,_=>⟨[0],by decide⟩
 |1,_=>⟨[1],by decide⟩
 |2,_=>⟨[2,0],by decide⟩
 |3,_=>⟨[3,1],by decide⟩
 |4,_=>⟨[4,0,1],by decide⟩
 |5,_=>⟨[5,1,0],by decide⟩
 |x+6,h=>absurd h (Zj (YQ ..))
theorem CG(d:Nat)(R:HR A H σ)(I:HI H)(hx:x < H.KM):aL (d+2) 9 [.o 0 (A.yA .dW),.i x] σ (cp x).enc σ:=by
 refine RK (U3 x (XJ hx I.c6)) λL t1 t2 t3 t4 t5 t6 t7=>?_
 let ρ1:=au (au (bf [.o 0 (A.yA .dW),.i x]) 2 (.r σ.length)) 3 (.r (σ.length+1))
 have g0:σ++[nd (tr [x])]++[.l (av [x])]=σ++[nd (tr [x]),.l (av [x])]:=XU _ _ _
 refine az (O0 d R I 5 [x] [x] L ρ1 t1 (λz hz=>by rw[XG hz];exact hx) rfl rfl rfl) λρ2 k2 w=>?_
 let σ2:aj:=σ++[nd (tr L),.l []]
 have l2:σ2.length=σ.length+2:=Xv
 let σ3:aj:=σ2++[nd (md [])]
 let σ4:aj:=σ3++[.l (av (j1 x))]
 have R2:HR A H σ2:=R.gy _
 have lt:∀s,H.ok s->A.yA s < σ.length:=λs hs=>R.lt hs
 have o3:σ3[σ.length]? =some (nd (tr L)):=bO _ _ (lC _ _)
 have srt:Pr (il .o [.r σ.length] σ3) (.r σ3.length) σ4:=by
  have h:=SN o3 (by rw[Xr,Xr];exact vm (bP t5 rfl))
  have e:(((tr L).map λe=>((e.1:Int),e.2)).map (·.1))=L.map λk:Nat=>(k:Int):=by rw[XV,XV];rfl
  have e2:((j1 x).map λk:Nat=>(k:Int)).map V.i=av (j1 x):=by rw[XV];rfl
  rw[e,t2,e2]at h;exact h
 have l3:σ3.length=σ2.length+1:=Xv
 have q1:σ3.length≠σ2.length:=by rw[l3];exact Nat.succ_ne_self _
 have m4:σ4[σ2.length]? =some (nd (md [])):=bO _ _ aX
 obtain⟨ρ4,τ,f1,f2,f3,g,f4⟩:=Q8 d (q:=σ3.length) (m:=σ2.length) (ys:=av (j1 x)) I q1 (j1 x) [] (au ρ2 5 (.r σ2.length)) σ4 t3 (λz hz=>YH (t7 z hz) hx) (by rw[XY];exact Xs (YC t6 _) (by decide)) ((R2.gy _).gy _) (λs hs=>by have:=lt s hs;rw[l2];exact gN (d5 this)) m4 aX ((bR _ _ (by decide)).trans (k2 0 (by decide))) (bw _ _ _)
 rw[X0]at f3
 have fin:ng (md (j1 x)) x=some (cp x).enc:=Im (List.mem_of_getLast? t4)
 refine fV (f:=xm) (ρ':=ρ4) rfl rfl (ao (bh (bI (ac.ah (yN (o:=nd (tr [x])) (tP (af rfl) aq yR) rfl) (Xo (du (Xo (af rfl)))))) (gR rfl rfl (da bc (da bc gS)))) ?_) (σ':=τ) ?_ ((cp x).lo_enc _)
 ·rw[Xv,show [nd (tr [x])].length=1 from rfl,show(σ++[nd (tr [x])]++[O.l [V.i x]])=σ++[nd (tr [x]),.l (av [x])] from g0]
  exact ao w (ao (bh pH bc) (ao (fg (S:=.cr σ3.length (av (j1 x))) (fe (ci rfl (Xo (af ((bR _ _ (by decide)).trans (k2 2 (by decide))))) srt) aX (bq (by rw[Xr];exact Xs t6 (by decide)))) f2)
   (be (bM (bi (af ((f1 5 (by decide)).trans (bw _ _ _))) (af ((f1 1 (by decide)).trans ((bR _ _ (by decide)).trans (k2 1 (by decide))))) (mC f3 (by intro _ h;cases h) (by rw[m5,fin])))))))
 ·rw[f4]
  have e:σ4=σ++([nd (tr L),.l []]++[nd (md [])]++[.l (av (j1 x))]):=by refine(?_:σ++_++_++_=_);rw[XU,XU,XU]
  rw[e,l2,wY,XU];exact Yk _ _
end
structure GP(p:Pp)(D Z:Nat):Prop where
 Wl:p.good
 Ww:p.dep<=D
 Wx:p.sz<=Z
section
variable {d n a b i j m k g q:Nat}{u v w:V}{o:O}{e c:Ex}{r:Rs}{p:Pp}
theorem xT(x:Nat):ip (bv x):=Cd (dR rfl) (dR rfl) (dR rfl) (dR rfl) x
theorem xU(x:Nat):(bv x).length=1:=Cd (P:=λl=>l.length=1) rfl rfl rfl rfl x
theorem QW:∀l:List Nat,Tm.goods (l.map λj=>.bS (bv j) []):=λl=>by induction l with |nil=>trivial |cons j l ih=>exact bm (⟨xT j,trivial⟩) ih
theorem QV:∀l:List Nat,Tm.deps (l.map λj=>.bS (bv j) [])<=1:=λl=>by induction l with |nil=>exact Xw _ |cons j l ih=>exact Nat.max_le.mpr ⟨Xx _,ih⟩
theorem QX:∀l:List Nat,Tm.szs (l.map λj=>.bS (bv j) [])=5 * l.length:=λl=>by
 induction l with
 |nil=>rfl
 |cons j l ih=>refine(?_:(bv j).length+3+0+1+Tm.szs _=_);rw[ih,xU,Xy,Nat.mul_succ,Nat.add_comm]
theorem vI(x:Nat):(cp x).good:=⟨xT x,QW _⟩
theorem vH(x:Nat):(cp x).dep<=2:=YD (QV _)
theorem vJ(x:Nat):(cp x).sz<=14:=by refine(?_:(bv x).length+3+Tm.szs _<=_);rw[QX,xU];have:=g9 x;lia
noncomputable def gK:Rs->Pp
 | .mU w=>.cR w
 | .lr x y=>.db [114] [([63,120],cp x),([63,121],cp y)]
 | .iX=>.cR []
theorem IV{c:Nat}(h:r.ok c)(hl:r.eB=false):GP (gK r) 4 100:=by
 cases r with
 |mU w=>exact⟨h.1,Nat.le_of_lt_succ (by decide:1 < 5),by have:=h.2;refine(?_:w.length+40<=100);exact ja this rfl⟩
 |lr x y=>
  have h1:=vH x;have h2:=vH y;have h3:=vJ x;have h4:=vJ y
  refine⟨⟨dR rfl,?_⟩,?_,?_⟩
  ·intro q hq
   rcases XL hq with rfl |hq
   ·exact bm (dR rfl) (vI x)
   ·rw[XG hq];exact bm (dR rfl) (vI y)
  ·refine(?_:max (cp x).dep (max (cp y).dep 0)+1<=4);exact qGg h1 h2
  ·refine(?_:1+40+(2+(cp x).sz+5+(2+(cp y).sz+5+0))<=100);lia
 |iX=>cases hl
theorem PK(R:HR A H σ)(hE:H.aM[j]? =some (a,b,r))(hl:H.aM.length<=300)(h0:ρ 0=some (.o 2 (A.yA .aJ)))(h1:ρ i=some (.i j)):Ev d (n+3) (.s (.a 23 (.v 0)) (.v i)) ρ σ (jV (a,b,r)) σ:=
 have hj:j < H.aM.length:=(XZ hE).1
 bi (eH R h0 rfl rfl) (af h1) (dL (R.aZ .fJ trivial) (gG (Yj (XJ hj (Xs hl (by decide))))) (by unfold dS;rw[Xz (YX _)];refine(?_:(List.map jV _)[j]? =_);rw[Yy,hE];rfl))
theorem JV(d:Nat)(R:HR A H σ)(I:HI H)(hE:H.aM[j]? =some (a,b,r))(hl:H.aM.length<=300)(hr:r.ok H.KM)(hk:r.eB=false):aL (d+3) 30 [.o 2 (A.yA .aJ),.i j] σ (gK r).enc σ:=by
 have s1:ai (d+2) 12 (.a (.v 2) (.s (.s (.a 23 (.v 0)) (.v 1)) (.c (.i 2)))) (bf [.o 2 (A.yA .aJ),.i j]) σ .n (au (bf [.o 2 (A.yA .aJ),.i j]) 2 r.gC) σ:=
  bh (bi (PK R hE hl rfl rfl) aq (c9 (bg rfl) rfl)) bc
 cases r with
 |mU w=>exact cI (f:=AN) (fl:=.r _) rfl rfl (ao s1 (be (cX (aY (bi (af rfl) aq (c9 (bg rfl) rfl)) aq rfl (Xw _)) (be (bM (bI (ac.ah aq (Xo (bi (af rfl) aq (c9 (bg rfl) rfl))))))))))
 |lr x y=>
  have hit:=gJ (d:=d+2) (n:=27) (elt:=.t [.v 3,.m 38 (.a 21 (.v 0)) [.v 4]]) (tg:=.t [.v 3,.v 4]) (ρ:=au (bf [.o 2 (A.yA .aJ),.i j]) 2 (Rs.lr x y).gC) (σ:=σ)
   (S:=.bx [.t [.s [63,120],.i x],.t [.s [63,121],.i y]]) (λ_=>rfl) (λ_=>trivial) (λz:List Nat×Nat=>V.t [.s z.1,.i z.2]) (λz=>dG (z.1,cp z.2)) [([63,120],x),([63,121],y)]
   (λz hz=>aC _ rfl (bI (ac.ah (af rfl) (Xo (bQ (eH R rfl rfl rfl) R.gU rfl (Xo (af rfl)) (CG d R I (by
    rcases XL hz with rfl |hz
    ·exact hr.1
    ·rw[XG hz];exact hr.2))))))) [] (by simp only[aD,dz,bY,aK,Xv,Xy,XY,Xr]at *;lia)
  exact fV (f:=AN) rfl rfl (ao s1 (ao (bC (aY (bi (af rfl) aq (c9 (bg rfl) rfl)) aq rfl (Xw _)) aP) (be (bM (bI (ac.ah aq (ac.ah (bi (af rfl) aq (c9 (bg rfl) rfl))
   (Xo (ci rfl (Xo (dU (jK (bi (af rfl) aq (c9 (bg rfl) rfl)) (by simp only[aD,dz,bY,aK,Xv,Xy,XY,Xr]at *;lia)) hit)) (j3 aX (by simp only[aD,dz,bY,aK,Xv,Xy,XY,Xr]at *;lia)))))))))))
   (Yk _ _) ((gK (.lr x y)).lo_enc _)
 |iX=>cases hk
noncomputable def iq:List Pp->List Pp
 |x::y::r=>.bG x y::iq r
 |_=>[]
theorem Hm{x}:iq [x]=[]:=rfl
noncomputable def i5:List Pp->List Pp
 |x::y::r=>i5 r
 |l=>l
theorem Qy{x}:i5 [x]=[x]:=rfl
theorem sM{P:List Pp->Prop}(h0:P [])(h1:∀x,P [x])(h2:∀x y r,P r->P (x::y::r)):∀l,P l
 | []=>h0
 | [x]=>h1 x
 |x::y::r=>h2 x y r (sM h0 h1 h2 r)
theorem Qx(l:List Pp):((List.range (l.length / 2)).map λi=>Pp.bG (l.getD (2 * i) (.cR [])) (l.getD (2 * i+1) (.cR [])))=iq l:=by
 induction l using sM with
 |h0=>rfl
 |h1 x=>simp[Hm]
 |h2 x y r ih=>
  have:(x::y::r).length / 2=r.length / 2+1:=by refine(?_:(r.length+2) / 2=_);exact Nat.add_div_right _ (by decide)
  rw[this,List.range_succ_eq_map,XD,XV]
  exact XB (List.cons _) ih
theorem Qz(l:List Pp):l.drop (l.length - l.length % 2)=i5 l:=by
 induction l using sM with
 |h0=>rfl
 |h1 x=>rfl
 |h2 x y r ih=>
  have e:(x::y::r).length % 2=r.length % 2:=Nat.add_mod_right r.length 2
  have e2:(x::y::r).length - r.length % 2=(r.length - r.length % 2)+2:=Nat.sub_add_comm (m:=2) (Nat.mod_le r.length 2)
  rw[e,e2];exact ih
noncomputable def kP(l:List Pp):Nat:=(l.map λp=>p.sz+10).sum
theorem Ta(l:List Pp):kP (iq l++i5 l)=kP l:=by
 induction l using sM with
 |h0=>rfl
 |h1 x=>rfl
 |h2 x y r ih=>
  have ih:kP (iq r++i5 r)=kP r:=ih
  refine(?_:(x.sz+y.sz+10)+10+kP (iq r++i5 r)=x.sz+10+(y.sz+10+kP r))
  lia
theorem Hk(l:List Pp):(iq l++i5 l).length=(l.length+1) / 2:=by
 induction l using sM with
 |h0=>rfl
 |h1 x=>simp[Hm,Qy]
 |h2 x y r ih=>
  have ih:(iq r++i5 r).length=_:=ih
  refine(?_:(iq r++i5 r).length+1=(r.length+2+1) / 2);rw[ih];exact (Nat.add_div_right (r.length+1) (by decide)).symm
theorem Qt{l:List Pp}(h:∀p∈l,p.good/\p.dep<=D):∀p∈iq l++i5 l,p.good/\p.dep<=D+1:=by
 induction l using sM with
 |h0=>exact λ_ h=>nomatch h
 |h1 x=>intro p hp;exact bm ((h p hp).1) (YV (h p hp).2)
 |h2 x y r ih=>
  intro p hp
  have hx:=h x (XH ..)
  have hy:=h y (XI _ (XH ..))
  rcases XL (show p∈.bG x y::(iq r++i5 r) from hp)with rfl |hp
  ·exact bm (⟨hx.1,hy.1⟩) (YD (Nat.max_le.mpr ⟨hx.2,hy.2⟩))
  ·exact ih (λp hp=>h p (XI _ (XI _ hp))) p hp
theorem Au(hq:σ[q]? =some (.l (ps.map Pp.enc)))(hk:k < ps.length)(hl:ps.length<=100)(h3:ρ 3=some (.r q)){z:Int}(hz:z=k)(he:Ev d (n+1) e ρ σ (.i z) σ):Ev d (n+2) (.s (.v 3) e) ρ σ (ps.getD k (.cR [])).enc σ:=by
 subst hz
 refine bi (af h3) he (dL hq (gG (Xs (Yj hk) (Xs hl (by decide)))) ?_)
 unfold dS
 rw[Xz (YX _)]
 refine(?_:(ps.map Pp.enc)[k]? =_)
 rw[Yy,List.getD_eq_getElem?_getD,Yu hk];rfl
theorem my(hq:σ[q]? =some (.l (ps.map Pp.enc)))(hl:ps.length<=100)(h3:ρ 3=some (.r q)):Ev d (n+2) (.b .l [.v 3]) ρ σ (.i (ps.length:Nat)) σ:=by
 have h:=ci rfl (d:=d) (n:=n+1) (ρ:=ρ) (Xo (af h3)) (fC hq (bq (by rw[Xr];exact Xs hl (by decide))))
 rwa [Xr]at h
noncomputable def J4:List St:=match uJ.dZ with | [_,.w _ b,_]=>b |_=>[]
theorem Uh(hq:σ[q]? =some (.l (ps.map Pp.enc)))(h2:2<=ps.length)(hl:ps.length<=100)(h3:ρ 3=some (.r q)):∃ρ' g,(∀j,j≠3->j≠4->ρ' j=ρ j)/\ae d 11 J4 ρ σ .n ρ' (σ++g)/\∃q',ρ' 3=some (.r q')/\(σ++g)[q']? =some (.l ((iq ps++i5 ps).map Pp.enc)):=by
 let G1:aj:=[.l ((iq ps).map Pp.enc)]
 let G2:aj:=[.l ((i5 ps).map Pp.enc)]
 let G3:aj:=[.l ((iq ps++i5 ps).map Pp.enc)]
 have hr:df 0 ((ps.length:Nat) - 1:Int) 2=(List.range (ps.length / 2)).map λi:Nat=>V.i (0+2 * (i:Int)):=by
  unfold df
  have:(((ps.length:Int) - 1 - 0+2 - 1) / 2).toNat=ps.length / 2:=by lia
  rw[this]
 have hit:=gJ (d:=d) (n:=29) (elt:=.t [.c (.s [106,111,105,110]),.s (.v 3) (.v 5),.s (.v 3) (.i .a (.v 5) (.c (.i 1)))]) (tg:=.v 5) (ρ:=ρ) (σ:=σ) (S:=.bx (df 0 ((ps.length:Nat) - 1:Int) 2)) (λ_=>rfl) (λ_=>trivial)
  (λi:Nat=>V.i (0+2 * (i:Int))) (λi=>(Pp.bG (ps.getD (2 * i) (.cR [])) (ps.getD (2 * i+1) (.cR []))).enc) (List.range (ps.length / 2)) (λi hi=>aC _ rfl (by
   have hi:i < ps.length / 2:=YB hi
   have h5:au ρ 5 (.i (0+2 * (i:Int))) 5=some (.i (0+2 * (i:Int))):=bw _ _ _
   exact bI (ac.ah aq (ac.ah (Au (k:=2 * i) hq (by lia) hl h3 (by lia) (af h5)) (Xo (Au (k:=2 * i+1) hq (by lia) hl h3 (by lia) (bX (af h5) aq iy))))))) [] (bq (by rw[X0,Xr,XW];lia))
 rw[X0,<-hr,show(List.range (ps.length / 2)).map (λi=>(Pp.bG (ps.getD (2 * i) (.cR [])) (ps.getD (2 * i+1) (.cR []))).enc)=(iq ps).map Pp.enc from by rw[<-Qx,XV];rfl]at hit
 have q1:=bO σ G1 hq
 have q2:=bO (σ++G1) G2 q1
 have lenj:(iq ps++i5 ps).length<=100:=by rw[Hk];lia
 have lp:(iq ps).length<=100:=by rw[Xv]at lenj;exact bT lenj
 have e1:Ev d 30 (.o (.t [.c (.s [106,111,105,110]),.s (.v 3) (.v 5),.s (.v 3) (.i .a (.v 5) (.c (.i 1)))]) [.m (.v 5) (.r [.c (.i 0),.i .s (.b .l [.v 3]) (.c (.i 1)),.c (.i 2)]) []]) ρ σ (.r σ.length) (σ++G1):=
  dU (DZ (ac.ah aq (ac.ah (bX (my hq hl h3) aq j2) (Xo aq))) (by unfold aK;lia) (by unfold aK bY;lia) (by unfold aK;lia)) hit
 have e2:Ev d 29 (.e (.v 3) (some (.i .s (.b .l [.v 3]) (.i .m (.b .l [.v 3]) (.c (.i 2))))) none) (au ρ 4 (.r σ.length)) (σ++G1) (.r (σ++G1).length) (σ++G1++G2):=by
  have h:=ji (d:=d) (n:=28) (ρ:=au ρ 4 (.r σ.length)) (σ:=σ++G1) (af (i:=3) h3) (bX (my q1 hl h3) (bX (my q1 hl h3) (aq (v:=.i 2)) (sY (by decide))) j2) (sX q1 (by unfold bY;lia) (bq (by rw[Xr];exact Xs hl (by decide))))
  have e:(((ps.length:Nat):Int) - ((ps.length:Nat):Int) % 2).toNat=ps.length - ps.length % 2:=qG8
  rw[e,<-List.map_drop,Qz]at h;exact h
 have e3:Pr (kC .a (.r σ.length) (.r (σ++G1).length) (σ++G1++G2)) (.r (σ++G1++G2).length) (σ++G1++G2++G3):=by
  have h:=pf (bO (σ++G1) G2 aX) aX (bq (by rw[<-Yc,Xr];exact Xs lenj (by decide)))
  rw[<-Yc]at h;exact h
 refine⟨au (au ρ 4 (.r σ.length)) 3 (.r (σ++G1++G2).length),G1++G2++G3,λj h3 h4=>by rw[bR _ _ h3,bR _ _ h4],?_,_,bw _ _ _,?_⟩
 ·rw[<-XU,<-XU]
  exact ao (bh e1 bc) (Xp (bh (bX (af (bw _ _ _)) e2 e3) bc))
 ·rw[<-XU,<-XU];exact aX
theorem Ui:∀(N:Nat) (ps:List Pp) (σ:aj) (ρ:aA) (q D:Nat),ps.length<=N->ps.length<=100->σ[q]? =some (.l (ps.map Pp.enc))->ρ 3=some (.r q)->(∀p∈ps,p.good/\p.dep<=D)->
  ∃ρ' g ps' q',(∀j,j≠3->j≠4->ρ' j=ρ j)/\ai d 12 (.w (.p .g (.b .l [.v 3]) (.c (.i 1))) J4) ρ σ .n ρ' (σ++g)/\ρ' 3=some (.r q')/\(σ++g)[q']? =some (.l (ps'.map Pp.enc))/\ps'.length<=1/\kP ps'=kP ps/\(ps=[]->ps'=[])/\(ps'.length=0->ps=[])/\∀p∈ps',p.good/\p.dep<=D+N:=by
 intro N
 induction N with
 |zero=>
  intro ps σ ρ q D h0 hl hq h3 hg
  obtain rfl:=Zo (Nat.le_zero.mp h0)
  exact BV ρ ([]) ([]) q (λ_ _ _=>rfl) (by rw[Yi];exact iY (aY (my hq hl h3) aq rfl trivial)) h3 (by rw[Yi];exact hq) (Xw _) rfl id (λ_=>rfl) (λ_ h=>nomatch h)
 |succ N ih=>
  intro ps σ ρ q D h0 hl hq h3 hg
  by_cases h2:2<=ps.length
  ·obtain⟨ρ1,g1,k1,b1,q1,i1,s1⟩:=Uh (d:=d) hq h2 hl h3
   have hj:=Hk ps
   refine Ix (ih _ (σ++g1) ρ1 q1 (D+1) (by lia) (by lia) s1 i1 (Qt hg)) λρ2 g2 ps' q2 k2 b2 i2 s2 c1 c2 c3 c5 c4=>?_
   refine BV ρ2 (g1++g2) ps' q2 (λj hj hj'=>(k2 j hj hj').trans (k1 j hj hj')) ?_ i2 (by rw[<-XU];exact s2) c1 (c2.trans (Ta ps)) (λh=>by rw[h]at h2;exact absurd h2 (by decide)) (λh=>absurd (XB List.length (c5 h)) (by rw[hj,XY];lia)) (λp hp=>⟨(c4 p hp).1,by have:=(c4 p hp).2;exact Jy this⟩)
   rw[<-XU]
   exact l7 (aY (my hq hl h3) aq (by refine(?_:some (decide ((1:Int) < ((ps.length:Nat):Int)))=_);rw[XT (by exact mE h2)]) trivial) b1 b2
  ·exact BV ρ ([]) ps q (λ_ _ _=>rfl) (by rw[Yi];exact iY (aY (my hq hl h3) aq (by refine(?_:some (decide ((1:Int) < ((ps.length:Nat):Int)))=_);rw[Yb (by exact yc h2)]) trivial)) h3 (by rw[Yi];exact hq) (x9 h2) rfl id (λh=>Zo h) (λp hp=>⟨(hg p hp).1,Xs (hg p hp).2 (XS ..)⟩)
theorem Tv(d:Nat)(R:HR A H σ)(I:HI H)(hx:x < H.KM)(hl:ps.length<=100)(hq:σ[q]? =some (.l (ps.map Pp.enc)))(hg:∀p∈ps,p.good/\p.dep<=D)(hD:3<=D):∃p,GP p (D+ps.length) (kP ps+60)/\aL (d+3) 31 [.o 2 (A.yA .aJ),.i x,.r q] σ p.enc σ:=by
 let G0:aj:=[.l (ps.map Pp.enc)]
 let ρ1:=au (bf [.o 2 (A.yA .aJ),.i x,.r q]) 3 (.r σ.length)
 refine Ix (Ui (d:=d+2) ps.length ps (σ++G0) ρ1 σ.length D (Xx _) hl aX rfl hg) λρ2 g ps' q2 k b i2 s2 c1 c2 c3 c5 c4=>?_
 have st:ai (d+2) 12 (.a (.v 3) (.b .c [.v 2])) (bf [.o 2 (A.yA .aJ),.i x,.r q]) σ .n ρ1 (σ++G0):=bh (ci rfl (Xo (af rfl)) (I0 hq (bq (by rw[Xr];exact Xs hl (by decide))))) bc
 have px:σ <+:σ++G0++g:=by rw[XU];exact Yk _ _
 have R2:HR A H (σ++G0++g):=(R.gy _).gy _
 match ps',c1,s2,c2,c3,c5,c4 with
 | [],_,s2,c2,_,c5,_=>
  have e:=c5 rfl
  subst e
  exact aC (.cZ (cp x)) (⟨vI x,Xs (YD (vH x)) (Xs hD (XS ..)),by have:=vJ x;refine(?_:(cp x).sz+40<=0+60);exact td (ja this rfl)⟩) (fV (f:=uJ) (ρ':=ρ2) rfl rfl (ao st (ao b (be (bM (jh (aY (my s2 (Xw _) i2) aq rfl (Xw _))
   (bI (ac.ah aq (Xo (bQ (eH R2 (k 0 (by decide) (by decide)) rfl rfl) R2.gU rfl (Xo (af (k 1 (by decide) (by decide)))) (CG d R2 I hx)))))))))) px ((Pp.cZ (cp x)).lo_enc _))
 | [p],_,s2,c2,_,_,c4=>
  have h:=c4 p (Ym rfl)
  have hs:p.sz+10=kP ps:=c2
  exact aC p (⟨h.1,h.2,bT (d5 (te hs))⟩) (fV (f:=uJ) (ρ':=ρ2) rfl rfl (ao st (ao b (be (bM (jD (aY (my s2 (show 1<=100 by decide) i2) aq rfl (Xw _)) (Au (k:=0) (z:=0) s2 (show 0 < 1 by decide) (show 1<=100 by decide) i2 rfl aq)))))) px (p.lo_enc _))
 |_::_::_,c1,_,_,_,_,_=>exact absurd c1 (by rw[Xy,Xy];exact Jk)
end
noncomputable abbrev gL(l:List (Nat×Nat)):List V:=l.map λe:Nat×Nat=>V.t [.i e.1,.i e.2]
noncomputable abbrev jd(es:List (Nat×Nat)):List (Nat×V):=es.map λe=>(e.1,.r e.2)
structure lJ(W:Nat)(es:List (Nat×Nat))(bs:Nat->List (Nat×Nat))(σ:aj):Prop where
 V6:σ[W+1]? =some (nd (jd es))
 Wc:∀e∈es,σ[e.2]? =some (.l (gL (bs e.1)))
 rh:∀e∈es,∀f∈es,e.2=f.2->e.1=f.1
 lo:∀e∈es,W+1 < e.2
 no:∀k,k∉es.map (·.1)->bs k=[]
 ln:es.length<=6
 WG:∀e∈es,e.1 < 6
 nd:(es.map (·.1)).Nodup
section
variable {d n a b i j m k g q:Nat}{u v w:V}{o:O}{e c:Ex}{r:Rs}{p:Pp}{es:List (Nat×Nat)}
theorem Io(h:k∈es.map (·.1)):∃ad,ng (jd es) k=some (.r ad)/\(k,ad)∈es:=by
 refine az (xQ (es:=jd es) (k:=k) (by rw[XV];exact h)) λv h1 h2=>?_
 refine az (Yf h2) λf hf e=>?_
 cases e;exact aC _ h1 hf
theorem Ip(h:k∉es.map (·.1)):ng (jd es) k=none:=xP (by rw[XV];exact h)
noncomputable def dn(N:Nat)(σ τ:aj):Prop:=∀i,i < N->τ[i]? =σ[i]?
theorem dn.iW(h:dn N σ σ₁)(h2:dn N σ₁ τ):dn N σ τ:=λi hi=>(h2 i hi).trans (h i hi)
theorem lX(h:N<=σ.length)(g:aj):dn N σ (σ++g):=λi hi=>Yl (XJ hi h)
theorem rI(h:N<=a):dn N σ (σ.set a o):=λi hi=>aV (nO hi h)
theorem HR.y7(R:HR A H σ)(hN:∀s,H.ok s->A.yA s < N)(h:dn N σ τ):HR A H τ:=⟨R.eT,λs hs=>by rw[h _ (hN s hs)];exact R.aZ s hs⟩
theorem e8(h:σ[a]? =some o):a < σ.length:=(XZ h).1
theorem B4{l:List Nat}(h:l.Nodup)(hk:k∉l):(l++[k]).Nodup:=by
 rw[List.nodup_append];exact fA h (List.pairwise_singleton _ _) (λx hx y hy e=>hk (by rw[XG hy]at e;exact e▸hx))
theorem u7:∀{m:Nat} {l:List Nat},l.Nodup->(∀z∈l,z < m)->l.length<=m:=λ{m}=>by
 induction m with
 |zero=>intro l _ hl;exact Yd (List.length_eq_zero_iff.mpr (List.eq_nil_iff_forall_not_mem.mpr λz hz=>Y5 _ (hl z hz)))
 |succ m ih=>
  intro l h hl
  by_cases hm:m∈l
  ·have:=ih (h.erase m) λz hz=>Nat.lt_of_le_of_ne (Nat.le_of_lt_succ (hl z (List.mem_of_mem_erase hz))) λe=>h.not_mem_erase (e▸hz)
   rw[List.length_erase_of_mem hm]at this
   exact Nat.le_add_of_sub_le this
  ·exact YV (ih h λz hz=>Nat.lt_of_le_of_ne (Nat.le_of_lt_succ (hl z hz)) λe=>hm (e▸hz))
theorem RE:∀{es:List (Nat×Nat)},(es.map (·.1)).Nodup->(k,x)∈es->(k,y)∈es->x=y:=λ{es} h h1 h2=>by
 induction es with
 |nil=>cases h1
 |cons f es ih=>
  rw[XD,Zg]at h
  rcases XL h1 with e1 |h1<;>rcases XL h2 with e2 |h2
  ·rw[<-e1]at e2;exact(XB Prod.snd e2).symm
  ·rw[<-e1]at h;exact absurd (Yz (aC _ h2 rfl)) h.1
  ·rw[<-e2]at h;exact absurd (Yz (aC _ h1 rfl)) h.1
  ·exact ih h.2 h1 h2
theorem Fe(d:Nat)(B:lJ W es bs σ)(hk:k < 6)(hb:(bs k).length<=100)(t:Nat×Nat){i3:Nat}(h0:ρ 0=some (.o 3 W))(hW:σ[W]? =some (.a 3 fs))(hg:cA fs 42=some (.r (W+1)))(h1:ρ i1=some (.i k))(h2:ρ i2=some (.i t.1))(h3:ρ i3=some (.i t.2)):
  ∃es' τ,ai d 11 (.e (.m 0 (.m 4 (.a 42 (.v 0)) [.v i1,.d []]) [.t [.v i2,.v i3]])) ρ σ .n ρ τ/\lJ W es' (cm bs k (bs k++[t])) τ/\dn (W+1) σ τ/\σ.length<=τ.length:=by
 have lW:W+1 < σ.length:=e8 B.V6
 have oW:(σ++[O.l []])[W+1]? =some (nd (jd es)):=bO _ _ B.V6
 have nl:∀xs,(nd (jd es))≠.l xs:=by intro _ h;cases h
 have ll:oT (nd (jd es))<=aK:=bq (α:=Int×V) (by rw[Xr,Xr];exact Xs B.ln (by decide))
 have eo:Ev d 28 (.a 42 (.v 0)) ρ σ (.r (W+1)) σ:=dw (af h0) rfl hW hg
 have ea:∀n s,Ev d (n+3) (.t [.v i2,.v i3]) ρ s (.t [.i t.1,.i t.2]) s:=λn s=>bI (ac.ah (af h2) (Xo (af h3)))
 by_cases hm:k∈es.map (·.1)
 ·refine az (Io hm) λad g1 g2=>?_
  have hl:=bO σ [O.l []] (B.Wc _ g2)
  have lad:=B.lo _ g2
  refine di es ((σ++[O.l []]).set ad (.l (gL (bs k++[t])))) (dv (dp (dp eo (sP B.V6 rfl rfl) (ac.ah (af h1) (Xo (du ac.an))) (Bz B.V6 rfl oW rfl) (I9 oW nl ll (by rw[m5,g1]))) (eI hl rfl) (Xo (ea _ _)) rfl (kO (f:=λe:Nat×Nat=>V.t [.i e.1,.i e.2]) t hl (bP hb rfl)))) ?_ ?_ ?_
  ·refine⟨by rw[aV (by lia)];exact oW,λe he=>?_,B.rh,B.lo,λz hz=>?_,B.ln,B.WG,B.nd⟩
   ·by_cases ee:ad=e.2
    ·have:e.1=k:=B.rh e he _ g2 ee.symm
     rw[<-ee,cS hl,this,gq]
    ·have:e.1≠k:=λh=>ee (by
      have e1:(k,e.2)∈es:=h▸he
      exact(RE B.nd g2 e1))
     rw[aV ee,eS this];exact bO _ _ (B.Wc e he)
   ·rw[eS λh=>hz (by rw[h];exact hm)];exact B.no z hz
  ·exact(lX (Yj lW) _).iW (rI (Yj lad))
  ·rw[XN,Xv];exact XS ..
 ·have gn:=Ip hm
  have e1:jd es++[(k,.r σ.length)]=jd (es++[(k,σ.length)]):=(hH _ es (k,σ.length)).symm
  have ds:fP (nd (jd es)) (.i k) (.r σ.length)=some (nd (jd (es++[(k,σ.length)]))):=by rw[xf _ gn,e1]
  let τ1:aj:=(σ++[O.l []]).set (W+1) (nd (jd (es++[(k,σ.length)])))
  have hl:τ1[σ.length]? =some (.l (gL [])):=by rw[aV (XQ lW)];exact aX
  have ol:∀e∈es,e.2 < σ.length:=λe he=>e8 (B.Wc e he)
  refine di (es++[(k,σ.length)]) (τ1.set σ.length (.l (gL [t]))) (dv (dp (dp eo (sP B.V6 rfl rfl) (ac.ah (af h1) (Xo (du ac.an))) (Bz B.V6 rfl oW rfl) (I8 oW nl ll (by rw[m5,gn]) ds)) (eI hl rfl) (Xo (ea _ _)) rfl (kO (f:=λe:Nat×Nat=>V.t [.i e.1,.i e.2]) t hl (by decide)))) ?_ ?_ ?_
  ·refine⟨by rw[aV (Y3 lW)];exact cS oW,λe he=>?_,λe he f hf h=>?_,λe he=>?_,λz hz=>?_,?_,λe he=>?_,?_⟩
   ·rcases XM he with he |he
    ·have:e.1≠k:=λh=>hm (h▸Y8 he)
     rw[aV (Y3 (ol e he)),aV (XQ (B.lo e he)),eS this];exact bO _ _ (B.Wc e he)
    ·rw[XG he,cS hl,gq,B.no k hm];rfl
   ·rcases XM he with he |he<;>rcases XM hf with hf |hf
    ·exact B.rh e he f hf h
    ·rw[XG hf]at h;exact absurd h (XQ (ol e he))
    ·rw[XG he]at h;exact absurd h.symm (XQ (ol f hf))
    ·rw[XG he,XG hf]
   ·rcases XM he with he |he
    ·exact B.lo e he
    ·rw[XG he];exact lW
   ·rw[Yc,List.mem_append,not_or]at hz
    rw[eS λh=>hz.2 (Ym h)];exact B.no z hz.1
   ·have nn:((es++[(k,σ.length)]).map (·.1)).Nodup:=by rw[hH];exact B4 B.nd hm
    have:=u7 nn (λz hz=>by
     refine az (Yf hz) λf hf q2=>?_;subst q2
     rcases XM hf with hf |hf
     ·exact B.WG f hf
     ·rw[XG hf];exact hk)
    rwa [Xr]at this
   ·rcases XM he with he |he
    ·exact B.WG e he
    ·rw[XG he];exact hk
   ·rw[hH];exact B4 B.nd hm
  ·exact((lX (Yj lW) _).iW (rI (Xx _))).iW (rI (Yj lW))
  ·rw[XN,XN,Xv];exact XS ..
structure BO(E:d7)(F D:List Nat)(bs:Nat->List (Nat×Nat)):Prop where
 WQ:∀k,∀t∈bs k,t.1∈F/\∃r,E[t.1]? =some (k,t.2,r)∨E[t.1]? =some (t.2,k,r)
 WH:∀j∈D,∀(x y:Nat) (r:Rs),E[j]? =some (x,y,r)->(j,y)∈bs x/\(j,x)∈bs y
 WI:∀k,(bs k).length<=2 * D.length
theorem u3{t t':Nat×Nat}{z:Nat}(h:t'∈bs z):t'∈cm bs k (bs k++[t]) z:=by
 by_cases e:z=k
 ·subst e;rw[gq];exact YG _ h
 ·rw[eS e];exact h
theorem Ib{t:Nat×Nat}:t∈cm bs k (bs k++[t]) k:=by rw[gq];exact YZ _ (Ym rfl)
theorem Jg{t:Nat×Nat}{P:Nat->Nat×Nat->Prop}(h:∀z,∀u∈bs z,P z u)(ht:P k t):∀z,∀u∈cm bs k (bs k++[t]) z,P z u:=λz u hu=>by
 by_cases e:z=k
 ·subst e;rw[gq]at hu;exact(XM hu).elim (h z u) λh=>by rw[XG h];exact ht
 ·rw[eS e]at hu;exact h z u hu
theorem Ct{t:Nat×Nat}(h:∀z,(bs z).length<=n):∀z,(cm bs k (bs k++[t]) z).length<=n+1:=λz=>by
 by_cases e:z=k
 ·subst e;rw[gq,Xv];exact YD (h z)
 ·rw[eS e];exact YV (h z)
theorem BO.KY{D:List Nat}(B:BO E F D bs)(hj:j∈F)(hE:E[j]? =some (x,y,r)):BO E F (D++[j]) (cm (cm bs x (bs x++[(j,y)])) y (cm bs x (bs x++[(j,y)]) y++[(j,x)])) where
 WQ:=Jg (P:=λk t=>t.1∈F/\∃r,E[t.1]? =some (k,t.2,r)∨E[t.1]? =some (t.2,k,r)) (Jg (P:=λk t=>t.1∈F/\∃r,E[t.1]? =some (k,t.2,r)∨E[t.1]? =some (t.2,k,r)) B.WQ ⟨hj,r,.inl hE⟩) ⟨hj,r,.inr hE⟩
 WH:=λi hi a b q h=>by
  rcases XM hi with hi |hi
  ·exact bm (u3 (u3 (B.WH i hi a b q h).1)) (u3 (u3 (B.WH i hi a b q h).2))
  ·rw[XG hi]at h ⊢
   rw[hE]at h;cases h
   exact bm (u3 Ib) Ib
 WI:=λk=>by rw[Xv,Nat.mul_add];exact Ct (Ct B.WI) k
noncomputable def wo(h W p l:Nat):O:=.a 3 [(39,.o 2 h),(40,.i p),(41,.i l),(42,.r (W+1))]
theorem lG{g g':aj}(h0:ρ 0=some (.o cl σ.length))(hc:fE cl nm=true)(hl:fs.length<=100)(he:Ev d 30 e ρ (σ++.a cl fs::g) v (σ++.a cl fs::g')):ai d (n+1) (.a (.a nm (.v 0)) e) ρ (σ++.a cl fs::g) .n ρ (σ++.a cl (gZ fs nm v)::g'):=by
 have h:=bh (n:=n) he (vP (m:=3) (v:=v) (af (n:=29) h0) hc (lC _ _) hl)
 rw[uy]at h;exact h
noncomputable def Vg:List St:=match AH.dZ with | [_,_,_,_,.l _ _ b]=>b |_=>[]
theorem xl(i0:Nat)(R:HR A H σ)(hE:H.aM[j]? =some (a,b,r))(hl:H.aM.length<=300){eh:Ex}(h0:Ev d (n+1) eh ρ σ (.o 2 (A.yA .aJ)) σ)(h1:ρ i=some (.i j)):Ev d (n+3) (.s (.a 23 eh) (.v i)) ρ σ (jV (a,b,r)) σ:=
 have hj:j < H.aM.length:=(XZ hE).1
 bi (dw h0 rfl (dy R) rfl) (af h1) (dL (R.aZ .fJ trivial) (gG (Yj (XJ hj (Xs hl (by decide))))) (by unfold dS;rw[Xz (YX _)];refine(?_:(List.map jV _)[j]? =_);rw[Yy,hE];rfl))
theorem Vk(d:Nat){N:Nat}(hF:H.bL=F)(h6:F.length<=6)(hl:H.aM.length<=300)(hc:H.KM<=6)(heg:∀e∈H.aM,e.1 < H.KM/\e.2.1 < H.KM)(hfo:∀j∈F,j < H.aM.length)(hN:∀s,H.ok s->A.yA s < W)(hg:cA fs 42=some (.r (W+1))):∀(L D:List Nat) (ρ:aA) (σ:aj) (es:List (Nat×Nat)) (bs:Nat->List (Nat×Nat)),D++L=F->HR A H σ->lJ W es bs σ->σ[W]? =some (.a 3 fs)->BO H.aM F D bs->ρ 0=some (.o 3 W)->ρ 1=some (.o 2 (A.yA .aJ))->
  ∃ρ' τ es' bs',bF d 11 (.v 2) Vg (.cr (A.yA .fK) (av F)) (av L) ρ σ .n ρ' τ/\lJ W es' bs' τ/\BO H.aM F F bs'/\dn (W+1) σ τ:=by
 intro L
 induction L with
 |nil=>intro D ρ σ es bs hD R B hW O h0 h1;rw[Yi]at hD;subst hD;exact kL ρ σ es bs fG B O (λ_ _=>rfl)
 |cons j L ih=>
  intro D ρ σ es bs hD R B hW O h0 h1
  have jF:j∈F:=hD▸YZ _ (XH ..)
  have hj:=hfo j jF
  obtain⟨⟨x,y,r⟩,hE⟩:∃e,H.aM[j]? =some e:=⟨_,Yu hj⟩
  have hxy:x < H.KM/\y < H.KM:=heg _ (Yo hE)
  have D6:D.length+1<=6:=by have:=XB List.length hD;rw[Xv,Xy]at this;lia
  let ρ1:=au ρ 2 (.i j)
  let ρ2:=au (au (au ρ1 3 (.i x)) 4 (.i y)) 5 r.gC
  have st:ai d 11 (.a (.t [.v 3,.v 4,.v 5]) (.s (.a 23 (.v 1)) (.v 2))) ρ1 σ .n ρ2 σ:=bh (xl 0 R hE hl (af h1) (bw _ _ _)) (gR rfl rfl (da bc (da bc (da bc gS))))
  have b1:=O.WI x
  refine dk (Fe (i1:=3) (i2:=2) (i3:=4) d B (XJ hxy.1 hc) (by lia) (j,y) (ρ:=ρ2) h0 hW hg rfl rfl rfl) λes1 σ1 p1 B1 L1 N1=>?_
  have hW1:σ1[W]? =some (.a 3 fs):=(L1 W (Zi _)).trans hW
  have b2:(cm bs x (bs x++[(j,y)]) y).length<=100:=Xs (Ct (n:=2 * D.length) O.WI y) (by lia)
  refine dk (Fe (i1:=4) (i2:=2) (i3:=3) d B1 (XJ hxy.2 hc) b2 (j,x) (ρ:=ρ2) h0 hW1 hg rfl rfl rfl) λes2 σ2 p2 B2 L2 N2=>?_
  have LL:=L1.iW L2
  have R2:HR A H σ2:=R.y7 (λs hs=>ZA (hN s hs)) LL
  refine pb (ih (D++[j]) ρ2 σ2 es2 _ (by rw[XU];exact hD) R2 B2 ((L2 W (Zi _)).trans hW1) (O.KY jF hE) h0 h1) λρ' τ es' bs' f1 f2 f3 f4=>?_
  exact kL ρ' τ es' bs' (fc (S:=.cr (A.yA .fK) (av F)) (ρ':=ρ1) rfl (ao st (ao p1 (Xp p2))) (by rw[<-hF];exact R2.aZ .fK trivial) f1) f2 f3 (LL.iW f4)
theorem T0(d:Nat)(R:HR A H σ)(G:HG H m):∃τ es bs,aL (d+1) 32 [.o 3 σ.length,.o 2 (A.yA .aJ)] (σ++[.a 3 []]) .n τ/\dn σ.length σ τ/\τ[σ.length]? =some (wo (A.yA .aJ) σ.length 0 0)/\lJ σ.length es bs τ/\BO H.aM H.bL H.bL bs:=by
 let W:=σ.length
 let ρ:=bf [.o 3 W,.o 2 (A.yA .aJ)]
 let fs:List (Nat×V):=[(39,.o 2 (A.yA .aJ)),(40,.i 0),(41,.i 0),(42,.r (W+1))]
 let σ0:aj:=σ++[.a 3 fs,nd []]
 have hN:∀s,H.ok s->A.yA s < W:=λs hs=>R.lt hs
 have R0:HR A H σ0:=R.gy _
 have B0:lJ W [] (λ_=>[]) σ0:=⟨kB σ _ 1,λ_ h=>(nomatch h),λ_ h=>(nomatch h),λ_ h=>(nomatch h),λ_ _=>rfl,Xw _,λ_ h=>(nomatch h),Zc⟩
 have hc:=G.VU.c6
 have g5:=G.t5
 have hed:H.aM.length<=300:=by have:=G.ed;have:=G.lR;lia
 refine pb (Vk d (N:=0) (fs:=fs) (F:=H.bL) rfl (bP g5 rfl) hed hc (λe he=>⟨(G.eg e he).1,(G.eg e he).2.1⟩) G.fo hN rfl H.bL [] ρ σ0 [] (λ_=>[]) rfl R0 B0 (lC _ _) ⟨λ_ _ h=>(nomatch h),λ_ h=>(nomatch h),λ_=>Xw _⟩ rfl rfl) λρ' τ es' bs' f1 f2 f3 f4=>?_
 have s4:ai d 12 (.a (.a 42 (.v 0)) (.g .i [])) ρ (σ++[.a 3 [(39,.o 2 (A.yA .aJ)),(40,.i 0),(41,.i 0)]]) .n ρ σ0:=by
  refine lG (g':=[nd []]) rfl rfl (by decide:3<=100) ?_
  have h:=pH (d:=d) (n:=29) (kd:=.i) (ρ:=ρ) (σ:=σ++[.a 3 [(39,.o 2 (A.yA .aJ)),(40,.i 0),(41,.i 0)]])
  rw[Xv,XU]at h;exact h
 exact xM τ es' bs' (cI (f:=AH) (fl:=.n) (ρ':=ρ') rfl rfl (ao (lG (g':=[]) rfl rfl (by decide:0<=100) (af rfl)) (ao (lG (g':=[]) rfl rfl (by decide:1<=100) aq) (ao (lG (g':=[]) rfl rfl (by decide:2<=100) aq) (ao s4
  (Xp (fg (S:=.cr (A.yA .fK) (av H.bL)) (fe (dw (af rfl) rfl (dy R0) rfl) (R0.aZ .fK trivial) (bq (by rw[Xr];exact bP g5 rfl))) f1))))))) (λi hi=>(f4 i (ZA hi)).trans (Yl hi)) ((f4 W (Zi _)).trans (lC _ _)) f2 f3
end
noncomputable abbrev Cm:=List (Nat×Option (Nat×Nat))
variable {C:Cm}
noncomputable def cmV:Option (Nat×Nat)->V
 |none=>.t []
 |some e=>.t [.i e.1,.i e.2]
noncomputable abbrev jv(C:Cm):List (Nat×V):=C.map λe=>(e.1,cmV e.2)
inductive iR(E:d7)(F:List Nat)(a q:Nat):Cm->Prop
 |tJ:iR E F a q [(a,none)]
 |tI {C:Cm} {h y j:Nat} {r:Rs} (hc:iR E F a q C) (hh:h∈C.map (·.1)) (hy:y∉C.map (·.1)) (hf:j∈F) (hj:j < q) (he:E[j]? =some (h,y,r)∨E[j]? =some (y,h,r)):iR E F a q (C++[(y,some (h,j))])
section
variable {d n a b i j m k g q:Nat}{u v w:V}{o:O}{e c:Ex}{r:Rs}{p:Pp}{es:List (Nat×Nat)}
theorem H7{l:List α}{x:α}(h:l[a]? =some x):a < l.length:=(XZ h).1
theorem iR.nd(h:iR E F a q C):(C.map (·.1)).Nodup:=by
 induction h with
 |tJ=>exact List.pairwise_singleton _ _
 |tI _ _ hy _ _ _ ih=>rw[hH];exact B4 ih hy
theorem iR.lt(h:iR E F a q C)(ha:a < N)(hE:∀e∈E,e.1 < N/\e.2.1 < N):∀z∈C.map (·.1),z < N:=by
 induction h with
 |tJ=>intro z hz;rw[XG hz];exact ha
 |tI _ _ hy _ _ he ih=>
  intro z hz
  rw[hH]at hz
  rcases XM hz with hz |hz
  ·exact ih z hz
  ·rw[XG hz];exact he.elim (λh=>(hE _ (Yo h)).2) λh=>(hE _ (Yo h)).1
theorem iR.Dc(h:iR E F a q C):a∈C.map (·.1):=by
 induction h with
 |tJ=>exact Ym rfl
 |tI _ _ _ _ _ _ ih=>rw[hH];exact YG _ ih
theorem Il(C:Cm)(k:Nat):(ng (jv C) k).isSome=decide (k∈C.map (·.1)):=by
 have e:(jv C).map (·.1)=C.map (·.1):=by rw[XV];rfl
 by_cases h:k∈C.map (·.1)
 ·refine az (xQ (es:=jv C) (k:=k) (by rw[e];exact h)) λv hv _=>?_
  rw[hv,XT h];rfl
 ·rw[xP (es:=jv C) (by rw[e];exact h),Yb h];rfl
noncomputable def Se:List St:=match uI.dZ with | [_,.w _ [_,.l _ _ b],_,_,_,_]=>b |_=>[]
noncomputable def Sf:List St:=match uI.dZ with | [_,.w _ b,_,_,_,_]=>b |_=>[]
noncomputable def IP:List St:=match uI.dZ with | [_,_,_,_,.w _ b,_]=>b |_=>[]
structure PS(c0 r0 q:Nat)(C:Cm)(ρ:aA)(σ:aj):Prop where
 Wm:σ[c0]? =some (nd (jv C))
 WF:σ[r0]? =some (.l (av (C.map (·.1))))
 ne:c0≠r0
 e4:ρ 4=some (.r c0)
 e5:ρ 5=some (.r r0)
 e3:ρ 3=some (.i q)
theorem PS.wt(P:PS c0 r0 q C ρ σ)(h3:i≠3)(h4:i≠4)(h5:i≠5):PS c0 r0 q C (au ρ i v) σ:=⟨P.Wm,P.WF,P.ne,(bR _ _ h4.symm).trans P.e4,(bR _ _ h5.symm).trans P.e5,(bR _ _ h3.symm).trans P.e3⟩
theorem PS.MP(P:PS c0 r0 q C ρ σ)(g:aj):PS c0 r0 q C ρ (σ++g):=⟨bO _ _ P.Wm,bO _ _ P.WF,P.ne,P.e4,P.e5,P.e3⟩
theorem Aw(P:PS c0 r0 q C ρ σ)(hi:ρ i=some (.i k)):Ev d (n+2) (.p .o (.v i) (.v 4)) ρ σ (.b (!decide (k∈C.map (·.1)))) σ:=
 aY (af hi) (af P.e4) (by rw[Ac P.Wm (m5 _ _),Il]) trivial
theorem Sg(d:Nat){S0:Nat}(hcs:c0≠S0)(hrs:r0≠S0)(hN:∀e∈E,e.1 < 6/\e.2.1 < 6)(ha:a < 6):∀(L:List (Nat×Nat)) (C:Cm) (ρ:aA) (σ:aj),(∀t∈L,t.1∈F/\∃r,E[t.1]? =some (k,t.2,r)∨E[t.1]? =some (t.2,k,r))->iR E F a q C->k∈C.map (·.1)->PS c0 r0 q C ρ σ->N<=c0->N<=r0->σ[S0]? =some (.l ys)->ρ 7=some (.i k)->
  ∃ρ' τ C',(∀j,j≠8->j≠9->ρ' j=ρ j)/\bF d 10 (.t [.v 8,.v 9]) Se (.cr S0 ys) (gL L) ρ σ .n ρ' τ/\iR E F a q C'/\PS c0 r0 q C' ρ' τ/\dn N σ τ/\C.map (·.1) <+:C'.map (·.1)/\(∀t∈L,t.1 < q->t.2∈C'.map (·.1))/\τ.length=σ.length:=by
 intro L
 induction L with
 |nil=>intro C ρ σ _ hC _ P _ _ _ _;exact BS ρ σ C (λ_ _ _=>rfl) fG hC P (λ_ _=>rfl) (Yn _) (λ_ h=>(nomatch h)) rfl
 |cons t L ih=>
  intro C ρ σ hL hC hk P n1 n2 hS h7
  obtain⟨j,y⟩:=t
  obtain⟨tF,r,tE⟩:=hL (j,y) (XH ..)
  let ρ1:=au (au ρ 8 (.i j)) 9 (.i y)
  have P1:PS c0 r0 q C ρ1 σ:=(P.wt (by decide) (by decide) (by decide)).wt (by decide) (by decide) (by decide)
  have hb:fM 4 (.t [.v 8,.v 9]) (.t [.i j,.i y]) ρ=some ρ1:=rfl
  have lt:Ev d 29 (.p .l (.v 8) (.v 3)) ρ1 σ (.b (decide ((j:Int) < (q:Int)))) σ:=aY (af rfl) (af P1.e3) rfl trivial
  have ni:Ev d 29 (.p .o (.v 9) (.v 4)) ρ1 σ (.b (!decide (y∈C.map (·.1)))) σ:=Aw P1 rfl
  by_cases hgo:j < q/\y∉C.map (·.1)
  ·have hC1:=iR.tI hC hk hgo.2 tF hgo.1 tE
   have cl:=u7 hC.nd (hC.lt ha hN)
   have ln:C.length<=6:=by rwa [Xr]at cl
   have gn:ng (jv C) y=none:=by have:=Il C y;rw[Yb hgo.2]at this;exact Option.not_isSome_iff_eq_none.mp (by rw[this];decide)
   let σ1:=σ.set c0 (nd (jv (C++[(y,some (k,j))])))
   let σ2:=σ1.set r0 (.l (av ((C++[(y,some (k,j))]).map (·.1))))
   have s1:lY (mG (.r c0) (.i y) (.t [.i k,.i j]) σ) σ1:=by
    have h:=mB P.Wm (by intro _ h;cases h) (bq (α:=Int×V) (by rw[Xr,Xr];exact bP ln rfl)) (xf (.t [.i k,.i j]) gn)
    have e:jv C++[(y,.t [.i k,.i j])]=jv (C++[(y,some (k,j))]):=(hH _ C (y,some (k,j))).symm
    rw[e]at h;exact h
   have r1:σ1[r0]? =some (.l (av (C.map (·.1)))):=by rw[aV P.ne];exact P.WF
   have s2:Pr (dB 0 (.r r0) [.i y] σ1) .n σ2:=by
    have h:=kO (f:=λn:Nat=>V.i (n:Int)) y r1 (by rw[Xr];exact bP ln rfl)
    rw[<-hH (λe:Nat×Option (Nat×Nat)=>e.1) C (y,some (k,j))]at h;exact h
   have P2:PS c0 r0 q (C++[(y,some (k,j))]) ρ1 σ2:=⟨by rw[aV P.ne.symm];exact cS P.Wm,cS r1,P.ne,P1.e4,P1.e5,P1.e3⟩
   refine B9 (ih _ ρ1 σ2 (λt ht=>hL t (XI _ ht)) hC1 (by rw[hH];exact YG _ hk) P2 n1 n2 (by rw[aV hrs,aV hcs];exact hS) h7) λρ' τ C' f1 f2 f3 f4 f5 f6 f7 f8=>?_
   rw[hH]at f6
   refine BS ρ' τ C' (λj h8 h9=>(f1 j h8 h9).trans (by refine(?_:au (au ρ 8 _) 9 _ j=_);rw[bR _ _ h9,bR _ _ h8])) (fc (S:=.cr S0 ys) hb (Xp (cX (j9 (by rw[XT (by exact mE hgo.1)]at lt;exact lt) (by rw[Yb hgo.2]at ni;exact ni))
    (ao (bh (bI (ac.ah (af (i:=7) h7) (Xo (af (i:=8) rfl)))) (kX (af (i:=4) P1.e4) (af rfl) s1)) (Xp (dv (dp (af P1.e5) (eI r1 rfl) (Xo (af rfl)) rfl s2)))))) (by refine(?_:σ2[S0]? =_);rw[aV hrs,aV hcs];exact hS) f2) f3 f4 ?_ ((Yk _ _).trans f6) (λt ht hq=>?_) (by rw[f8,XN,XN])
   ·exact((rI n1).iW (rI n2)).iW f5
   ·rcases XL ht with rfl |ht
    ·exact f6.subset (YZ _ (Ym rfl))
    ·exact f7 t ht hq
  ·refine B9 (ih C ρ1 σ (λt ht=>hL t (XI _ ht)) hC hk P1 n1 n2 hS h7) λρ' τ C' f1 f2 f3 f4 f5 f6 f7 f8=>?_
   refine BS ρ' τ C' (λj h8 h9=>(f1 j h8 h9).trans (by refine(?_:au (au ρ 8 _) 9 _ j=_);rw[bR _ _ h9,bR _ _ h8])) (fc (S:=.cr S0 ys) hb (Xp (bC ?_ aP)) hS f2) f3 f4 f5 f6 (λt ht hq=>?_) f8
   ·by_cases h1:j < q
    ·rw[XT (by exact mE h1)]at lt
     rw[XT (Classical.byContradiction λh=>hgo ⟨h1,h⟩)]at ni
     exact j9 lt ni
    ·rw[Yb (by exact yc h1)]at lt;exact lL lt
   ·rcases XL ht with rfl |ht
    ·exact f6.subset (Classical.byContradiction λh=>hgo ⟨hq,h⟩)
    ·exact f7 t ht hq
theorem Sh(d:Nat)(hE:∀e∈E,e.1 < 6/\e.2.1 < 6)(ha:a < 6)(hW:W+1 < N)(O:BO E F F bs)(hg:cA fs 42=some (.r (W+1))):∀(M:Nat) (t:Nat) (C:Cm) (ρ:aA) (σ:aj),6 - t<=M->iR E F a q C->PS c0 r0 q C ρ σ->lJ W es bs σ->(∀e∈es,e.2 < N)->σ[W]? =some (.a 3 fs)->N<=c0->N<=r0->ρ 0=some (.o 3 W)->ρ 1=some (.i a)->ρ 2=some (.i b)->ρ 6=some (.i t)->t<=C.length->
  (∀i,i < t->∀z,(C.map (·.1))[i]? =some z->∀u∈bs z,u.1 < q->u.2∈C.map (·.1))->F.length<=6->
  ∃ρ' τ C',(∀j,j < 4->ρ' j=ρ j)/\ai d 12 (.w (.n [.p .l (.v 6) (.b .l [.v 5]),.p .o (.v 2) (.v 4)]) Sf) ρ σ .n ρ' τ/\iR E F a q C'/\PS c0 r0 q C' ρ' τ/\dn N σ τ/\σ.length<=τ.length/\(b∈C'.map (·.1)∨∀z∈C'.map (·.1),∀u∈bs z,u.1 < q->u.2∈C'.map (·.1)):=by
 intro M
 induction M with
 |zero=>
  intro t C ρ σ hM hC P B hes hW0 n1 n2 h0 h1 h2 h6 ht hcl hF
  have cl:=u7 hC.nd (hC.lt ha hE)
  rw[Xr]at cl
  have lt:Ev d 29 (.p .l (.v 6) (.b .l [.v 5])) ρ σ (.b (decide ((t:Int) < ((av (C.map (·.1))).length:Int)))) σ:=aY (af h6) (ci rfl (Xo (af P.e5)) (fC P.WF (bq (by rw[Xr,Xr];exact bP cl rfl)))) rfl trivial
  rw[Yb (by rw[Xr,Xr];exact qG7 cl hM)]at lt
  refine qH ρ σ C (λ_ _=>rfl) (iY (lL lt)) hC P (λ_ _=>rfl) (Xx _) (.inr λz hz=>?_)
  refine aT (List.mem_iff_getElem?.mp hz) λi hi=>?_
  exact hcl i (by have:=H7 hi;rw[Xr]at this;lia) z hi
 |succ M ih=>
  intro t C ρ σ hM hC P B hes hW0 n1 n2 h0 h1 h2 h6 ht hcl hF
  have cl:=u7 hC.nd (hC.lt ha hE)
  rw[Xr]at cl
  have lt:Ev d 29 (.p .l (.v 6) (.b .l [.v 5])) ρ σ (.b (decide ((t:Int) < ((av (C.map (·.1))).length:Int)))) σ:=aY (af h6) (ci rfl (Xo (af P.e5)) (fC P.WF (bq (by rw[Xr,Xr];exact bP cl rfl)))) rfl trivial
  have ni:Ev d 29 (.p .o (.v 2) (.v 4)) ρ σ (.b (!decide (b∈C.map (·.1)))) σ:=Aw P h2
  by_cases hlt:t < C.length
  ·rw[XT (by rw[Xr,Xr];exact mE hlt)]at lt
   by_cases hb:b∈C.map (·.1)
   ·rw[XT hb]at ni
    exact qH ρ σ C (λ_ _=>rfl) (iY (j9 lt ni)) hC P (λ_ _=>rfl) (Xx _) (.inl hb)
   ·rw[Yb hb]at ni
    obtain⟨z,hz⟩:∃z,(C.map (·.1))[t]? =some z:=⟨_,Yu (by rw[Xr];exact hlt)⟩
    have zm:=Yo hz
    have z6:=hC.lt ha hE z zm
    let ρ1:=au (au ρ 7 (.i z)) 6 (.i ((t+1:Nat):Int))
    have st:ai d 11 (.a (.t [.v 7,.v 6]) (.t [.s (.v 5) (.v 6),.i .a (.v 6) (.c (.i 1))])) ρ σ .n ρ1 σ:=
     bh (bI (ac.ah (bi (af P.e5) (af h6) (dL (v:=.i z) P.WF (gG (by unfold aK;exact j4 (qT hlt cl) rfl)) (by unfold dS;rw[Xz (YX _)];refine(?_:(List.map _ _)[t]? =_);rw[Yy,hz];rfl))) (Xo (bX (af h6) aq iy)))) (gR rfl rfl (da bc (da bc gS)))
    have P1:PS c0 r0 q C ρ1 σ:=(P.wt (by decide) (by decide) (by decide)).wt (by decide) (by decide) (by decide)
    let g:aj:=[.l []]
    -- the words beside z
    obtain⟨S0,hS0,hov,hcS,hrS⟩:∃S0,(σ++g)[S0]? =some (.l (gL (bs z)))/\bA d 30 (.e (.m 3 (.a 42 (.v 0)) [.v 7,.d []])) ρ1 σ (.cr S0 (gL (bs z))) (σ++g)/\c0≠S0/\r0≠S0:=by
     have ea:Ev d 29 (.a 42 (.v 0)) ρ1 σ (.r (W+1)) σ:=dw (af (i:=0) h0) rfl hW0 hg
     have nl:∀xs,(nd (jd es))≠.l xs:=by intro _ h;cases h
     have key:∀{rv:Option V} {S0:Nat},ng (jd es) z=rv->rv.getD (.r σ.length)=.r S0->(σ++g)[S0]? =some (.l (gL (bs z)))->bA d 30 (.e (.m 3 (.a 42 (.v 0)) [.v 7,.d []])) ρ1 σ (.cr S0 (gL (bs z))) (σ++g):=λ{rv S0} h1 h2 h3=>by
      have pg:=Sy (u:=.r σ.length) (bO σ g B.V6) nl (m5 (jd es) z)
      rw[h1,h2]at pg
      exact fe (dp ea (sP B.V6 rfl rfl) (ac.ah (af rfl) (Xo (du ac.an))) (Bz B.V6 rfl (bO σ g B.V6) rfl) pg) h3 (bq (by rw[Xr];have:=O.WI z;lia))
     by_cases hm:z∈es.map (·.1)
     ·refine az (Io hm) λad g1 g2=>?_
      have hl:=bO σ g (B.Wc _ g2)
      have:=hes _ g2
      exact eX ad hl (key g1 rfl hl) (by lia) (by lia)
     ·have hl:(σ++g)[σ.length]? =some (.l (gL (bs z))):=by rw[B.no z hm];exact aX
      have:=e8 P.Wm;have:=e8 P.WF
      exact eX σ.length hl (key (Ip hm) rfl hl) (by lia) (gN this)
    refine B9 (Sg d hcS hrS hE ha (bs z) C ρ1 (σ++g) (O.WQ z) hC zm (P1.MP g) n1 n2 hS0 rfl) λρ2 τ1 C1 k1 f1 c1 p1 l1 x1 y1 len1=>?_
    have LL:dn N σ τ1:=(lX (by have:=e8 P.Wm;exact qT n1 (qL this)) g).iW l1
    have B1:lJ W es bs τ1:=⟨by rw[LL _ hW];exact B.V6,λe he=>by rw[LL _ (hes e he)];exact B.Wc e he,B.rh,B.lo,B.no,B.ln,B.WG,B.nd⟩
    have cle:C.length<=C1.length:=by have:=x1.length_le;rwa [Xr,Xr]at this
    refine vd (ih (t+1) C1 ρ2 τ1 (qG6 hM) c1 p1 B1 hes (by rw[LL _ (by exact qQ hW)];exact hW0) n1 n2 ((k1 0 (by decide) (by decide)).trans h0) ((k1 1 (by decide) (by decide)).trans h1) ((k1 2 (by decide) (by decide)).trans h2) ((k1 6 (by decide) (by decide)).trans (bw _ _ _)) (qT hlt cle) (λi hi z' hz' u hu hq=>by
     rcases Nat.lt_succ_iff_lt_or_eq.mp hi with hi |rfl
     ·have hz0:(C.map (·.1))[i]? =some z':=by refine aT x1 ?_;clear x1;intro T hT;rw[<-hT,Yl (by rw[Xr];exact qT hi (qL hlt))]at hz';exact hz'
      exact x1.subset (hcl i hi z' hz0 u hu hq)
     ·have hz0:(C.map (·.1))[i]? =some z':=by refine aT x1 ?_;clear x1;intro T hT;rw[<-hT,Yl (by rw[Xr];exact hlt)]at hz';exact hz'
      rw[hz]at hz0;cases hz0
      exact y1 u hu hq) hF) λρ3 τ2 C2 k2 f2 c2 p2 l2 le2 y2=>?_
    exact qH ρ3 τ2 C2 (λj hj=>(k2 j hj).trans ((k1 j (kQ hj rfl) (kQ hj rfl)).trans (by refine(?_:au (au ρ 7 _) 6 _ j=_);rw[bR _ _ (by exact kQ hj rfl),bR _ _ (by exact kQ hj rfl)]))) (l7 (j9 lt ni) (ao st (Xp (fg (S:=.cr S0 (gL (bs z))) hov f1))) f2) c2 p2 (LL.iW l2) (Xs (by rw[len1,Xv];exact XS ..) le2) y2
  ·rw[Yb (by rw[Xr,Xr];exact yc hlt)]at lt
   refine qH ρ σ C (λ_ _=>rfl) (iY (lL lt)) hC P (λ_ _=>rfl) (Xx _) (.inr λz hz=>?_)
   refine aT (List.mem_iff_getElem?.mp hz) λi hi=>?_
   exact hcl i (by have:=H7 hi;rw[Xr]at this;exact qT this (x9 hlt)) z hi
end
noncomputable abbrev kH(L:List (Nat×Bool)):List V:=L.map λt:Nat×Bool=>V.t [.i t.1,.b t.2]
section
variable {d n a b i j m k g q l:Nat}{u v w:V}{o:O}{e c:Ex}{r:Rs}{es:List (Nat×Nat)}
theorem RD{es:List (Nat×V)}(hn:(es.map (·.1)).Nodup)(h:(k,v)∈es):ng es k=some v:=by
 induction es with
 |nil=>cases h
 |cons e es ih=>
  rw[XD,Zg]at hn
  unfold ng at *
  rw[Zr]
  rcases XL h with h |h
  ·rw[<-h];simp
  ·have:e.1≠k:=λhk=>hn.1 (hk▸Yz (aC _ h rfl))
   rw[Yb this];exact ih hn.2 h
set_option tactic.hygienic true in
theorem Si(d:Nat){C0:Cm}(hl:H.aM.length<=300)(hnd:(C0.map (·.1)).Nodup)(hN:∀s,H.ok s->A.yA s < W)(hg:cA fs 39=some (.o 2 (A.yA .aJ)))(hWf:W < f0)(hcf:c0≠f0)(h:iR H.aM F a q C):(∀e∈C,e∈C0)->C.length<=6->∀(b:Nat) (L:List (Nat×Bool)) (ρ:aA) (σ:aj),b∈C.map (·.1)->L.length+C.length<=20->HR A H σ->σ[W]? =some (.a 3 fs)->σ[c0]? =some (nd (jv C0))->σ[f0]? =some (.l (kH L))->ρ 0=some (.o 3 W)->ρ 1=some (.i a)->ρ 2=some (.i b)->ρ 4=some (.r c0)->ρ 10=some (.r f0)->
  ∃ρ' L',ρ' 10=some (.r f0)/\ai d 12 (.w (.p .n (.v 2) (.v 1)) IP) ρ σ .n ρ' (σ.set f0 (.l (kH (L++L'))))/\L'.length+1<=C.length/\∀t∈L',t.1∈F/\t.1 < q:=by
 have stop:∀(L:List (Nat×Bool)) (ρ:aA) (σ:aj),σ[f0]? =some (.l (kH L))->ρ 1=some (.i a)->ρ 2=some (.i a)->ρ 10=some (.r f0)->∃ρ' L',ρ' 10=some (.r f0)/\ai d 12 (.w (.p .n (.v 2) (.v 1)) IP) ρ σ .n ρ' (σ.set f0 (.l (kH (L++L'))))/\L'.length+1<=1/\∀t∈L',t.1∈F/\t.1 < q:=λL ρ σ hf h1 h2 hr=>
  (di ρ ([]) hr (by rw[Yi,qX hf];exact iY (aY (af h2) (af h1) (by rw[mr,XT rfl];rfl) (Xw _))) (Xx _) (λ_ h=>(nomatch h)))
 induction h with
 |tJ=>intro _ _ b L ρ σ hb _ _ _ _ hf _ h1 h2 _ hr;rw[XG hb]at h2;exact stop L ρ σ hf h1 h2 hr
 |tI hc hh hy hfj hj he ih=>
  rename_i C h y j r
  intro hC hlen b L ρ σ hb hL R hW hc0 hf h0 h1 h2 h4 hr
  rw[Xv]at hlen hL
  have hlen:C.length+1<=6:=hlen
  have hL:L.length+(C.length+1)<=20:=hL
  have ih:=ih (λe he=>hC e (YG _ he)) (bT hlen)
  rw[hH]at hb
  rcases XM hb with hb |hb
  ·refine dk (ih b L ρ σ hb (bT (vt hL)) R hW hc0 hf h0 h1 h2 h4 hr) λρ' L' f1 f2 f3 f4=>?_
   exact di ρ' L' f1 f2 (by rw[Xv];exact YV f3) f4
  ·have hby:b=y:=XG hb
   subst hby
   have hne:b≠a:=λe=>hy (e▸hc.Dc)
   have gv:ng (jv C0) b=some (.t [.i h,.i j]):=RD (by rw[XV];exact hnd) (Yz (aC _ (hC _ (YZ _ (Ym rfl))) rfl))
   obtain⟨ex,ey,er,hE⟩:∃x y r,H.aM[j]? =some (x,y,r):=he.elim (λh=>Ig _ _ _ h) λh=>Ig _ _ _ h
   let bb:=!decide (ex=h)
   let ρ1:=au (au ρ 7 (.i h)) 8 (.i j)
   let σ1:=σ.set f0 (.l (kH (L++[(j,bb)])))
   have s1:ai d 11 (.a (.t [.v 7,.v 8]) (.s (.v 4) (.v 2))) ρ σ .n ρ1 σ:=bh (bi (af h4) (af h2) (mC hc0 (by intro _ h;cases h) (by rw[m5,gv]))) (gR rfl rfl (da bc (da bc gS)))
   have s2:ai d 11 (.e (.m 0 (.v 10) [.t [.v 8,.p .n (.s (.s (.a 23 (.a 39 (.v 0))) (.v 8)) (.c (.i 0))) (.v 7)]])) ρ1 σ .n ρ1 σ1:=
    dv (dp (af (i:=10) hr) (eI hf rfl) (Xo (bI (ac.ah (af rfl) (Xo (aY (bi (xl 0 R hE hl (dw (af (i:=0) h0) rfl hW hg) rfl) aq (c9 (bg rfl) rfl)) (af (i:=7) rfl) (mr _ _) (Xw _)))))) rfl (kO (f:=λt:Nat×Bool=>V.t [.i t.1,.b t.2]) (j,bb) hf (by lia)))
   have nf:∀i,i < f0->σ1[i]? =σ[i]?:=λi hi=>aV (mD hi)
   refine dk (ih h (L++[(j,bb)]) (au ρ1 2 (.i h)) σ1 hh (by rw[Xv];refine(?_:L.length+1+_<=_);lia) ⟨R.eT,λs hs=>by rw[nf _ (Nat.lt_trans (hN s hs) hWf)];exact R.aZ s hs⟩ ((nf W hWf).trans hW) ((aV hcf.symm).trans hc0) (cS hf) h0 h1 (bw _ _ _) h4 hr) λρ' L' f1 f2 f3 f4=>?_
   rw[Yr,XU]at f2
   refine di ρ' ((j,bb)::L') f1 (l7 (aY (af h2) (af h1) (by rw[mr,Yb hne];rfl) (Xw _)) (ao s1 (ao s2 (Xp (bh (af rfl) bc)))) f2) (by rw[Xv];exact YD f3) (λt ht=>?_)
   rcases XL ht with rfl |ht
   ·exact bm hfj hj
   ·exact f4 t ht
theorem OK(hC:∀z∈C.map (·.1),∀u∈bs z,u.1 < q->u.2∈C.map (·.1))(O:BO E F F bs)(ha:a∈C.map (·.1))(h:Cn E F q a b):b∈C.map (·.1):=by
 refine az h ?_;clear h;intro n h5 h
 clear h5
 induction h with
 |kY=>exact ha
 |mK _ hf hj he ih=>exact hC _ (ih ha) _ (O.WH _ hf _ _ _ he).1 hj
 |nW _ hf hj he ih=>exact hC _ (ih ha) _ (O.WH _ hf _ _ _ he).2 hj
structure WS(A:Ad)(H:HS)(m W:Nat)(es:List (Nat×Nat))(bs:Nat->List (Nat×Nat))(σ:aj):Prop where
 V9:HR A H σ
 V5:HG H m
 lt:∀s,H.ok s->A.yA s < W
 VX:lJ W es bs σ
 WP:BO H.aM H.bL H.bL bs
theorem WS.e6(S:WS A H m W es bs σ):∀e∈H.aM,e.1 < 6/\e.2.1 < 6:=λe he=>⟨XJ (S.V5.eg e he).1 S.V5.VU.c6,XJ (S.V5.eg e he).2.1 S.V5.VU.c6⟩
theorem WS.el(S:WS A H m W es bs σ):H.aM.length<=300:=by have:=S.V5.ed;have:=S.V5.lR;have:=S.V5.t5;lia
theorem TK(d:Nat)(S:WS A H m W es bs σ){p:Nat}(hW:σ[W]? =some (wo (A.yA .aJ) W p l))(ha:a < H.KM)(cn:Cn H.aM H.bL q a b):
  ∃τ ad L,aL (d+1) 33 [.o 3 W,.i a,.i b,.i q] σ (.r ad) τ/\dn σ.length σ τ/\σ.length<=τ.length/\σ.length<=ad/\τ[ad]? =some (.l (kH L))/\L.length<=5/\∀t∈L,t.1∈H.bL/\t.1 < q:=by
 have a6:a < 6:=XJ ha S.V5.VU.c6
 let c0:=σ.length
 let σ0:aj:=σ++[nd (jv [(a,none)])]++[.l (av [a])]
 have l0:(σ++[nd (jv [(a,none)])]).length=c0+1:=Xv
 let ρ0:=bf [.o 3 W,.i a,.i b,.i q]
 let ρ1:=au (au (au ρ0 4 (.r c0)) 5 (.r (c0+1))) 6 (.i 0)
 have st:ai d 12 (.a (.t [.v 4,.v 5,.v 6]) (.t [.g .i [(.v 1,.t [])],.d [.v 1],.c (.i 0)])) ρ0 σ .n ρ1 σ0:=by
  have h:=bh (n:=11) (t:=.t [.v 4,.v 5,.v 6]) (bI (ac.ah (yN (d:=d) (n:=28) (o:=nd (jv [(a,none)])) (ρ:=ρ0) (σ:=σ) (kd:=.i) (tP (af (i:=1) rfl) (bI ac.an) yR) rfl) (ac.ah (du (Xo (af (i:=1) rfl))) (Xo (aq (v:=.i 0)))))) (gR rfl rfl (da bc (da bc (da bc gS))))
  rw[l0]at h;exact h
 have P0:PS c0 (c0+1) q [(a,none)] ρ1 σ0:=⟨bO _ _ aX,by rw[<-l0];exact aX,XQ (Zi _),rfl,rfl,rfl⟩
 have lW:W+1 < σ.length:=e8 S.VX.V6
 have up:∀{i:Nat} {o:O},σ[i]? =some o->σ0[i]? =some o:=λh=>bO _ _ (bO _ _ h)
 have B0:lJ W es bs σ0:=⟨up S.VX.V6,λe he=>up (S.VX.Wc e he),S.VX.rh,S.VX.lo,S.VX.no,S.VX.ln,S.VX.WG,S.VX.nd⟩
 refine vd (Sh (b:=b) d S.e6 a6 lW S.WP (fs:=[(39,.o 2 (A.yA .aJ)),(40,.i p),(41,.i l),(42,.r (W+1))]) rfl 6 0 [(a,none)] ρ1 σ0 (Xx _) .tJ P0 B0 (λe he=>e8 (S.VX.Wc e he)) (up hW) (Xx _) (Yp _) rfl rfl rfl rfl (Xw _) (λi hi=>absurd hi (Y5 _)) (YV S.V5.t5)) λρ2 σ2 C k2 w1 hC P2 L2 le2 fin=>?_
 have hb:b∈C.map (·.1):=fin.elim id λh=>OK h S.WP hC.Dc cn
 have cl:=u7 hC.nd (hC.lt a6 S.e6)
 rw[Xr]at cl
 have n0:σ.length<=σ2.length:=Xs (by rw[Xv,Xv];exact Xs (XS ..) (XS ..)) le2
 have low2:dn σ.length σ σ2:=((lX (Xx _) _).iW (lX (by rw[Xv];exact XS ..) _)).iW L2
 have R2:HR A H σ2:=S.V9.y7 (λs hs=>S.V9.lt hs) low2
 have hW2:σ2[W]? =some (wo (A.yA .aJ) W p l):=(low2 W (qQ lW)).trans hW
 let σ3:aj:=σ2++[.l []]
 refine dk (Si (c0:=c0) (f0:=σ2.length) (C0:=C) d S.el hC.nd S.lt (fs:=[(39,.o 2 (A.yA .aJ)),(40,.i p),(41,.i l),(42,.r (W+1))]) rfl (XJ (Nat.lt_of_succ_lt lW) n0) (XQ (e8 P2.Wm)) hC (λ_ h=>h) cl b [] (au ρ2 10 (.r σ2.length)) σ3 hb (by rw[XY];exact qU cl rfl) (R2.gy _) (bO _ _ hW2) (bO _ _ P2.Wm) aX ((bR _ _ (by decide)).trans (k2 0 (by decide))) ((bR _ _ (by decide)).trans (k2 1 (by decide))) ((bR _ _ (by decide)).trans (k2 2 (by decide))) ((bR _ _ (by decide)).trans P2.e4) (bw _ _ _)) λρ4 L k4 w2 len4 ok4=>?_
 let σ4:=σ3.set σ2.length (.l (kH ([]++L)))
 have l5:L.length<=5:=jc (qT len4 cl)
 have g4:σ4[σ2.length]? =some (.l (kH L)):=cS aX
 have n4:σ4.length=σ2.length+1:=by rw[XN,Xv];rfl
 refine qH (σ4++[.l (kH L.reverse)]) σ4.length L.reverse (cI (f:=uI) (fl:=.r _) (ρ':=ρ4) rfl rfl (ao st (ao w1 (ao (bC ?_ aP) (ao (bh (du ac.an) bc) (ao w2 (be (bM ?_)))))))) ?_ ?_ (by rw[n4];exact d5 n0) aX (by rw[List.length_reverse];exact l5) (λt ht=>ok4 t (List.mem_reverse.mp ht))
 ·have h:=Aw (d:=d) (n:=28) P2 (k2 2 (by decide));rw[XT hb]at h;exact h
 ·have h:=yO (d:=d) (n:=29) (af (n:=28) k4) (Cp g4 (bq (by rw[Xr];exact bT (bP (qT len4 cl) rfl))))
  rw[<-Zn]at h;exact h
 ·exact((low2.iW (lX n0 _)).iW (rI n0)).iW (lX (by rw[n4];exact d5 n0) _)
 ·rw[Xv,n4];exact CA (d5 n0)
end
noncomputable def ju:Nat->Nat
 |0=>1
 |q+1=>1+2 * (5 * ju q)
noncomputable def ZE:Nat->Nat
 |0=>100
 |q+1=>2 * (5 * ZE q+310)+45
theorem N5(q:Nat):100<=ZE q:=by cases q with |zero=>exact Xx _ |succ q=>refine(?_:100<=2 * (5 * ZE q+310)+45);exact cG (vo iO)
theorem MI(q:Nat):1<=ju q:=by cases q with |zero=>exact Xx _ |succ q=>refine(?_:1<=1+_);exact iO
section
variable {d n a b i j m k g q l p p':Nat}{u v w:V}{o:O}{e c:Ex}{r:Rs}{es:List (Nat×Nat)}
noncomputable def fS(N W:Nat)(σ τ:aj):Prop:=∀i,i < N->i≠W->τ[i]? =σ[i]?
theorem VA(h:fS N W σ σ₁)(h2:fS N W σ₁ τ):fS N W σ τ:=λi hi hn=>(h2 i hi hn).trans (h i hi hn)
theorem n9:fS N W σ (σ.set W o):=λi _ hn=>aV hn.symm
theorem yV(h:dn N σ τ):fS N W σ τ:=λi hi _=>h i hi
theorem WS.mv(S:WS A H m W es bs σ)(hW:W+1 < N)(hes:∀e∈es,e.2 < N)(h:fS N W σ τ):WS A H m W es bs τ where
 V9:=⟨S.V9.eT,λs hs=>by have:=S.lt s hs;rw[h _ (by lia) (by exact gN this)];exact S.V9.aZ s hs⟩
 V5:=S.V5
 lt:=S.lt
 VX:=⟨by rw[h _ hW (by exact qV rfl)];exact S.VX.V6,λe he=>by have:=S.VX.lo e he;rw[h _ (hes e he) (by exact pq this)];exact S.VX.Wc e he,S.VX.rh,S.VX.lo,S.VX.no,S.VX.ln,S.VX.WG,S.VX.nd⟩
 WP:=S.WP
theorem Jc(h:dn σ.length σ τ)(hl:σ.length<=τ.length):σ <+:τ:=by
 rw[List.prefix_iff_eq_take]
 apply List.ext_getElem?
 intro i
 rw[List.getElem?_take]
 split
 ·exact(h i (by assumption)).symm
 ·exact List.getElem?_eq_none (by lia)
theorem KJ(hW:σ[W]? =some (wo k W p l))(hk:k < W)(hl:W+1 < σ.length)(hp:σ.set W (wo k W p' l) <+:τ)(hv:∀m,v.lo m=true):nY σ τ (σ.set W (wo k W p' l)) v:=
 ⟨hp,by rw[XN];exact Xx _,hv _,λi o h=>by
  by_cases e:W=i
  ·subst e
   rw[cS hW]at h;cases h
   refine .inr ?_
   refine(?_:V.loAll _ [.o 2 k,.i p',.i l,.r (W+1)]=true)
   simp[jU,iJ,zW,EU,sa];lia
  ·rw[aV e]at h;exact .inl h⟩
noncomputable def OE(d q:Nat)(A:Ad)(H:HS)(m W N:Nat)(es:List (Nat×Nat))(bs:Nat->List (Nat×Nat)):Prop:=
 ∀(σ:aj) (p l j:Nat),WS A H m W es bs σ->σ[W]? =some (wo (A.yA .aJ) W p l)->j∈H.bL->dT (H.aM.take (j+1))<=q->p+ju q<=20000->l+q<=100->
  ∃P p',GP P (4+7 * q) (ZE q)/\p<=p'/\p'<=p+ju q/\aL (d+4+2 * q) 36 [.o 3 W,.i j] σ P.enc (σ.set W (wo (A.yA .aJ) W p' l))
noncomputable def BT(d q:Nat)(A:Ad)(H:HS)(m W N:Nat)(es:List (Nat×Nat))(bs:Nat->List (Nat×Nat)):Prop:=
 ∀(σ:aj) (p l a b t:Nat),WS A H m W es bs σ->σ[W]? =some (wo (A.yA .aJ) W p l)->a < H.KM->Cn H.aM H.bL t a b->dT (H.aM.take t)<=q->p+5 * ju q<=20000->l+q<=100->
  ∃P p',GP P (10+7 * q) (5 * ZE q+310)/\p<=p'/\p'<=p+5 * ju q/\aL (d+5+2 * q) 35 [.o 3 W,.i a,.i b,.i t] σ P.enc (σ.set W (wo (A.yA .aJ) W p' l))
theorem HM{s t:Nat}(h:s<=t):dT (E.take s)<=dT (E.take t):=List.Sublist.countP_le ((List.take_prefix_take_left h).sublist)
noncomputable def Fi:List St:=match AG.dZ with | [_,.l _ _ b,_]=>b |_=>[]
theorem OD(hO:OE d q A H m W N es bs)(hWN:W+1 < N)(hes:∀e∈es,e.2 < N){ad:Nat}(hf0:N<=f0)(had:N<=ad)(hfa:f0≠ad)(hl:l+q<=100)(hlk:dT (H.aM.take t0)<=q):∀(L:List (Nat×Bool)) (ps:List Pp) (p:Nat) (ρ:aA) (σ:aj),(∀t∈L,t.1∈H.bL/\t.1 < t0)->WS A H m W es bs σ->σ[W]? =some (wo (A.yA .aJ) W p l)->σ[f0]? =some (.l (ps.map Pp.enc))->σ[ad]? =some (.l ys)->p+L.length * ju q<=20000->(∀P∈ps,GP P (5+7 * q) (ZE q+40))->ps.length+L.length<=20->ρ 0=some (.o 3 W)->ρ 4=some (.r f0)->
  ∃(ρ':aA) (τ:aj) (ps':List Pp) (p':Nat),(∀j,j < 5->ρ' j=ρ j)/\bF (d+4+2 * q) 11 (.t [.v 5,.v 6]) Fi (.cr ad ys) (kH L) ρ σ .n ρ' τ/\WS A H m W es bs τ/\τ[W]? =some (wo (A.yA .aJ) W p' l)/\τ[f0]? =some (.l (ps'.map Pp.enc))/\(∀P∈ps',GP P (5+7 * q) (ZE q+40))/\ps'.length=ps.length+L.length/\p<=p'/\p'<=p+L.length * ju q/\(∀i,i≠W->i≠f0->τ[i]? =σ[i]?)/\τ.length=σ.length:=by
 intro L
 induction L with
 |nil=>intro ps p ρ σ _ S hW hf ha hp hg hl h0 h4;exact⟨ρ,σ,ps,p,λ_ _=>rfl,fG,S,hW,hf,hg,rfl,Xx _,XS ..,λ_ _ _=>rfl,rfl⟩
 |cons t L ih=>
  intro ps p ρ σ hL S hW hf ha hp hg hlen h0 h4
  obtain⟨j,bk⟩:=t
  refine ba (hL (j,bk) (XH ..)) λjF jt=>?_
  rw[Xy,Nat.add_mul,Nat.one_mul]at hp
  rw[Xy]at hlen
  refine dk (hO σ p l j S hW jF (Xs (HM jt) hlk) (bT (gj hp)) hl) λP p1 gP le1 le2 hr=>?_
  let ρ1:=au (au (au ρ 5 (.i j)) 6 (.b bk)) 7 P.enc
  let P':Pp:=if bk then .cH P else P
  let σ1:=σ.set W (wo (A.yA .aJ) W p1 l)
  have fW:f0≠W:=nO (qQ hWN) hf0
  have aW:ad≠W:=nO (qQ hWN) had
  have gP':GP P' (5+7 * q) (ZE q+40):=by
   refine(?_:GP (if bk then .cH P else P) _ _)
   cases bk with
   |true=>exact⟨gP.Wl,Nat.succ_le_of_lt (by have:=gP.Ww;refine(?_:P.dep < _);lia),YS gP.Wx _⟩
   |false=>exact⟨gP.Wl,by have:=gP.Ww;refine(?_:P.dep<=_);lia,Xs gP.Wx (XS ..)⟩
  have S1:WS A H m W es bs σ1:=S.mv hWN hes n9
  have f1:σ1[f0]? =some (.l (ps.map Pp.enc)):=(aV fW.symm).trans hf
  let σ2:=σ1.set f0 (.l ((ps++[P']).map Pp.enc))
  have ev:Ev (d+4+2 * q) 29 (.f (.v 6) (.t [.c (.s [116,117,114,110]),.v 7]) (.v 7)) ρ1 σ1 P'.enc σ1:=by
   cases bk with
   |true=>exact jD (af rfl) (bI (ac.ah aq (Xo (af rfl))))
   |false=>exact jh (af rfl) (af rfl)
  have st:ae (d+4+2 * q) 11 Fi (au (au ρ 5 (.i j)) 6 (.b bk)) σ .n ρ1 σ2:=
   ao (bh (bQ (af (i:=0) h0) hW rfl (Xo (af rfl)) hr) bc) (Xp (dv (dp (af (i:=4) h4) (eI f1 rfl) (Xo ev) rfl (kO (f:=Pp.enc) P' f1 (bT (bP hlen rfl))))))
  have S2:WS A H m W es bs σ2:=S1.mv hWN hes λi hi _=>aV (nO hi hf0)
  obtain⟨ρ',τ,ps',p',k1,k2,k3,k4,k5,k6,k7,k8,k9,k10,k11⟩:=ih (ps++[P']) p1 ρ1 σ2 (λt ht=>hL t (XI _ ht)) S2 ((aV fW).trans (cS hW)) (cS f1) ((aV hfa).trans ((aV aW.symm).trans ha)) (JE le2 hp) (λQ hQ=>(XM hQ).elim (hg Q) λh=>by rw[XG h];exact gP') (by rw[Xv];refine(?_:ps.length+1+_<=_);exact gj hlen) h0 h4
  refine⟨ρ',τ,ps',p',λj hj=>(k1 j hj).trans (by refine(?_:au (au (au ρ 5 _) 6 _) 7 _ j=_);rw[bR _ _ (by exact kQ hj rfl),bR _ _ (by exact kQ hj rfl),bR _ _ (by exact gN hj)]),fc (S:=.cr ad ys) rfl st ((aV hfa).trans ((aV aW.symm).trans ha)) k2,k3,k4,k5,k6,?_,Xs le1 k8,?_,λi h1 h2=>(k10 i h1 h2).trans ((aV h2.symm).trans (aV h1.symm)),by rw[k11,XN,XN]⟩
  ·rw[k7,Xv];refine(?_:ps.length+1+L.length=ps.length+(L.length+1));exact x4
  ·rw[Xy,Nat.add_mul,Nat.one_mul];lia
theorem Tb(h:∀P∈ps,P.sz<=Z):kP ps<=ps.length * (Z+10):=by
 induction ps with
 |nil=>exact Xw _
 |cons P ps ih=>
  have:=ih λQ hQ=>h Q (XI _ hQ)
  have:=h P (XH ..)
  refine(?_:P.sz+10+kP ps<=(ps.length+1) * (Z+10))
  rw[Nat.succ_mul];lia
theorem Fj(hO:OE d q A H m W N es bs)(hWN:W+1 < N)(hes:∀e∈es,e.2 < N):BT d q A H m W N es bs:=by
 intro σ p l a b t S hW ha cn hq hp hl
 have lW:W+1 < σ.length:=e8 S.VX.V6
 have hk:A.yA .aJ < W:=S.lt .aJ trivial
 let σ1:aj:=σ++[.l []]
 have le:∀e∈es,e.2 < σ.length:=λe he=>e8 (S.VX.Wc e he)
 have S1:WS A H m W es bs σ1:=S.mv lW le (yV (lX (Xx _) _))
 have hW1:σ1[W]? =some (wo (A.yA .aJ) W p l):=bO _ _ hW
 refine vd (TK (d+3+2 * q) S1 hW1 ha cn) λτ1 ad L c1 low1 n1 na g1 l5 ok=>?_
 have n0:σ1.length=σ.length+1:=Xv
 have low0:dn σ.length σ τ1:=(lX (Xx _) _).iW λi hi=>low1 i (i9 hi n0)
 have S2:WS A H m W es bs τ1:=S.mv lW le (yV low0)
 have adl:σ.length < ad:=qT (gM n0) na
 have hO':OE d q A H m W σ.length es bs:=hO
 obtain⟨ρ3,τ3,ps,p3,k1,k2,S3,hW3,hf3,gp,len3,le1,le2,fr3,n3⟩:=OD hO' lW le (f0:=σ.length) (ad:=ad) (t0:=t) (ys:=kH L) (Xx _) (Yj adl) (XQ adl) hl hq L [] p (au (bf [.o 3 W,.i a,.i b,.i t]) 4 (.r σ.length)) τ1 ok S2 ((low0 W (qQ lW)).trans hW) ((low1 σ.length (gM n0)).trans aX) g1 (Xs (YC (Y9 _ l5) _) hp) (λ_ h=>(nomatch h)) (by rw[XY];exact qU l5 rfl) rfl rfl
 rw[XY,Nat.zero_add]at len3
 have z3:=Tb λP hP=>(gp P hP).Wx
 have z4:ps.length * (ZE q+40+10)<=5 * (ZE q+50):=Y9 _ (qT (te len3) l5)
 refine az (Tv (d+1+2 * q) S3.V9 S3.V5.VU ha (ps:=ps) (bP (qT (te len3) l5) rfl) hf3 (λP hP=>⟨(gp P hP).Wl,(gp P hP).Ww⟩) (cG iO)) λP gP hj=>?_
 refine di P p3 (⟨gP.Wl,by have:=gP.Ww;lia,by have:=gP.Wx;lia⟩) le1 (Xs le2 (YC (Y9 _ l5) _)) ?_
 have e1:d+4+2 * q=d+3+2 * q+1:=by lia
 have e2:d+4+2 * q=d+1+2 * q+3:=by lia
 have e3:d+5+2 * q=d+4+2 * q+1:=by lia
 rw[<-e1]at c1
 rw[<-e2]at hj
 rw[e3]
 refine aL.lj (f:=AG) (fl:=.r P.enc) (ρ':=ρ3) (σ':=τ3) rfl rfl (ao (bh (du ac.an) bc) (ao (fg (S:=.cr ad (kH L)) (fe (bQ (af rfl) hW1 rfl (ac.ah (af rfl) (ac.ah (af rfl) (Xo (af rfl)))) c1) g1 (bq (by rw[Xr];exact bP l5 rfl))) k2)
  (be (bM (cw (ac.ah (dw (af (k1 0 (by decide))) rfl hW3 rfl) (ac.ah (af (k1 1 (by decide))) (Xo (af (k1 4 (by decide)))))) hj))))) ?_
 refine KJ hW hk lW (Jc (λi hi=>?_) (by rw[XN,n3];exact qT (vn n0) n1)) (λm=>P.lo_enc m)
 rw[XN]at hi
 by_cases e:i=W
 ·rw[e,hW3,cS hW]
 ·rw[aV (Yv e),fr3 i e (by exact gN hi)];exact low0 i hi
end
section
variable {d n a b i j m k g q l p p':Nat}{u v w:V}{o:O}{e c:Ex}{r:Rs}{es:List (Nat×Nat)}
noncomputable abbrev nI(L:List (Nat×Nat)):List V:=L.map λt:Nat×Nat=>V.t [.i t.1,.i t.2]
theorem RO(hB:BT d q A H m W N es bs)(hWN:W+1 < N)(hes:∀e∈es,e.2 < N)(ha0:N<=a0)(hl:l+q<=100)(hlk:dT (H.aM.take j)<=q)(h0:ρ 0=some (.o 3 W))(h1:ρ 1=some (.i j)):∀(L:List (Nat×Nat)) (ps:List Pp) (p:Nat) (σ:aj),(∀t∈L,t.1 < H.KM/\Cn H.aM H.bL j t.1 t.2)->WS A H m W es bs σ->σ[W]? =some (wo (A.yA .aJ) W p l)->a0 < σ.length->p+L.length * (5 * ju q)<=20000->(∀P∈ps,GP P (10+7 * q) (5 * ZE q+310))->ps.length+L.length<=20->
  ∃(σ':aj) (ps':List Pp) (p':Nat),cW (d+5+2 * q) 27 (.m 43 (.v 0) [.v 7,.v 8,.v 1]) (.t [.v 7,.v 8]) [] [] ρ (.it a0 ys) (nI L) σ (ps.map Pp.enc) (ps'.map Pp.enc) σ'/\σ'[W]? =some (wo (A.yA .aJ) W p' l)/\WS A H m W es bs σ'/\(∀P∈ps',GP P (10+7 * q) (5 * ZE q+310))/\ps'.length=ps.length+L.length/\p<=p'/\p'<=p+L.length * (5 * ju q)/\(∀i,i≠W->i≠a0->σ'[i]? =σ[i]?)/\σ'.length=σ.length:=by
 have aW:a0≠W:=nO (qQ hWN) ha0
 intro L
 induction L with
 |nil=>intro ps p σ _ S hW hx hp hg hn;exact Ih (σ.set a0 .u) ps p cW.mR ((aV aW).trans hW) (S.mv hWN hes λi hi _=>aV (nO hi ha0)) hg rfl (Xx _) (XS ..) (λi _ h=>aV (Yv h)) XN
 |cons t L ih=>
  intro ps p σ hL S hW hx hp hg hn
  refine ba (hL t (XH ..)) λt1 t2=>?_
  rw[Xy,Nat.add_mul,Nat.one_mul]at hp
  rw[Xy]at hn
  let σ1:=σ.set a0 (.i (nI L))
  have S1:WS A H m W es bs σ1:=S.mv hWN hes λi hi _=>aV (nO hi ha0)
  refine dk (hB σ1 p l t.1 t.2 j S1 ((aV aW).trans hW) t1 t2 hlk (bT (gj hp)) hl) λP p1 gP le1 le2 hr=>?_
  let σ2:=σ1.set W (wo (A.yA .aJ) W p1 l)
  have hW1:σ1[W]? =some (wo (A.yA .aJ) W p l):=(aV aW).trans hW
  have S2:WS A H m W es bs σ2:=S1.mv hWN hes n9
  refine Iv (ih (ps++[P]) p1 σ2 (λt ht=>hL t (XI _ ht)) S2 (cS hW1) (by rw[XN,XN];exact hx) (JE le2 hp) (λQ hQ=>(XM hQ).elim (hg Q) λh=>by rw[XG h];exact gP) (by rw[Xv];refine(?_:ps.length+1+_<=_);exact gj hn)) λσ' ps' p' f1 f2 f3 f4 f5 f6 f7 f8 f9=>?_
  rw[hH]at f1
  have hG:(eM.it a0 ys).Wf (nI L) σ2:=by
   refine(?_:σ2[a0]? =some (.i (nI L)))
   rw[aV aW.symm]
   exact Zz hx
  refine Ih σ' ps' p' (cW.Wy (S:=.it a0 ys) (ρ':=au (au ρ 7 (.i t.1)) 8 (.i t.2)) rfl ej.oq (jE.pK (bQ (af (i:=0) h0) hW1 rfl (ac.ah (af rfl) (ac.ah (af rfl) (Xo (af (i:=1) h1)))) hr) (bq (by rw[Xr];exact bT (bP hn rfl)))) hG f1) f2 f3 f4 ?_ (Xs le1 f6) ?_ (λi h1 h2=>(f8 i h1 h2).trans ((aV h1.symm).trans (aV h2.symm))) (by rw[f9,XN,XN])
  ·rw[f5,Xv];refine(?_:ps.length+1+L.length=ps.length+(L.length+1));exact x4
  ·rw[Xy,Nat.add_mul,Nat.one_mul];lia
theorem vC(h0:ρ 0=some (.o cl W))(hc:fE cl nm=true)(he:Ev d 30 e ρ σ v σ₁)(hW:σ₁[W]? =some (.a cl fs))(hl:fs.length<=100):ai d (n+1) (.a (.a nm (.v 0)) e) ρ σ .n ρ (σ₁.set W (.a cl (gZ fs nm v))):=
 bh he (vP (af h0) hc hW hl)
theorem mq(h0:ρ 0=some (.o 3 W))(hW:σ[W]? =some (wo k W p l))(hc:fE 3 nm=true)(hg:cA [(39,V.o 2 k),(40,.i p),(41,.i l),(42,.r (W+1))] nm=some v):Ev d (n+2) (.a nm (.v 0)) ρ σ v σ:=dw (af h0) hc hW hg
theorem Iz(d:Nat)(S:WS A H m W es bs σ)(hW:σ[W]? =some (wo (A.yA .aJ) W p l))(hp:p+1<=20000)(hE:H.aM[j]? =some (x,y,r)){rest:List St}
  (h:ae d 12 rest (au (au (au (bf [.o 3 W,.i j]) 2 (.i x)) 3 (.i y)) 4 r.gC) (σ.set W (wo (A.yA .aJ) W (p+1) l)) fl ρ' τ):
  ae d 12 (.a (.a 40 (.v 0)) (.i .a (.a 40 (.v 0)) (.c (.i 1)))::.i (.p .g (.a 40 (.v 0)) (.h 1)) [.s] []::.a (.t [.v 2,.v 3,.v 4]) (.s (.a 23 (.a 39 (.v 0))) (.v 1))::rest) (bf [.o 3 W,.i j]) σ fl ρ' τ:=by
 have lW:W+1 < σ.length:=e8 S.VX.V6
 have S1:WS A H m W es bs (σ.set W (wo (A.yA .aJ) W (p+1) l)):=S.mv lW (λe he=>e8 (S.VX.Wc e he)) n9
 have hW1:(σ.set W (wo (A.yA .aJ) W (p+1) l))[W]? =some (wo (A.yA .aJ) W (p+1) l):=cS hW
 refine ao (vC rfl rfl (bX (mq rfl hW rfl rfl) aq iy) hW (by decide:4<=100)) (ao (bC (aY (mq rfl hW1 rfl rfl) (vZ rfl) ?_ trivial) aP) (ao (bh (xl 0 S1.V9 hE S1.el (mq rfl hW1 rfl rfl) rfl) (gR rfl rfl (da bc (da bc (da bc gS))))) h))
 refine(?_:some (decide ((20000:Int) < ((p+1:Nat):Int)))=_)
 rw[Yb (by lia)]
theorem HK(hE:E[j]? =some (x,y,.iX)):dT (E.take (j+1))=dT (E.take j)+1:=by
 refine aT (XZ hE) λhj hx=>?_
 rw[List.take_succ_eq_append_getElem hj,BG,hx];rfl
theorem Iy(hB:∀q',q=q'+1->BT d q' A H m W N es bs)(hWN:W+1 < N)(hes:∀e∈es,e.2 < N):OE d q A H m W N es bs:=by
 intro σ p l j S hW jF hq hp hl
 have hj:=S.V5.fo j jF
 obtain⟨⟨x,y,r⟩,hE⟩:∃e,H.aM[j]? =some e:=⟨_,Yu hj⟩
 have eg:x < H.KM/\y < H.KM/\r.ok H.KM:=S.V5.eg _ (Yo hE)
 have ng:=MI q
 have zg:=N5 q
 have lW:W+1 < σ.length:=e8 S.VX.V6
 have le:∀e∈es,e.2 < σ.length:=λe he=>e8 (S.VX.Wc e he)
 have hk:A.yA .aJ < W:=S.lt .aJ trivial
 have S1:WS A H m W es bs (σ.set W (wo (A.yA .aJ) W (p+1) l)):=S.mv lW le n9
 have hW1:(σ.set W (wo (A.yA .aJ) W (p+1) l))[W]? =some (wo (A.yA .aJ) W (p+1) l):=cS hW
 have e1:d+4+2 * q=d+2 * q+3+1:=by lia
 rw[e1]
 cases hr:r.eB with
 |false=>
  have gp:=IV eg.2.2 hr
  have nl:∃kd rest,r.gC=.t (.s kd::rest)/\kd≠[108,105,107,101]/\rest.length<=2:=by
   cases r with
   |mU w=>exact dN _ _ rfl (by decide) (show 1<=2 by decide)
   |lr x y=>exact dN _ _ rfl (by decide) (show 2<=2 by decide)
   |iX=>cases hr
  refine cP nl ?_;clear nl;intro kd rest he hkd hrl
  refine di (gK r) (p+1) (⟨gp.Wl,by have:=gp.Ww;exact d5 this,by have:=gp.Wx;exact qT this zg⟩) (Yp _) (x5 ng) (cI (f:=AI) (fl:=.r _) rfl rfl (Iz _ S hW (qT (x5 ng) hp) hE (be (cX (aY (bi (af (i:=4) (v:=.t (.s kd::rest)) (XB some he)) aq (c9 (v:=.s kd) (bg rfl) rfl)) aq ?_ (Xw _)) (be (bM (cw (ac.ah (mq rfl hW1 rfl rfl) (Xo (af rfl))) (JV _ S1.V9 S1.V5.VU hE S1.el eg.2.2 hr))))))))
  show Option.map _ (some (decide (kd=_)))=_
  rw[Yb hkd];rfl
 |true=>
  obtain rfl:r=.iX:=by cases r<;>first |rfl |cases hr
  rw[HK hE]at hq
  obtain⟨q',rfl⟩:∃q',q=q'+1:=⟨q - 1,qGz hq⟩
  have hB:=hB q' rfl
  refine cO (S.V5.lk j x y hE) λlk1 lk2 lk3=>?_
  let L:=(aN x).zip (aN y)
  have L2:L.length<=2:=by refine(?_:((aN x).zip (aN y)).length<=2);rw[List.length_zip];exact Xs (Zw _ _) (g9 x)
  let σ1:=σ.set W (wo (A.yA .aJ) W (p+1) l)
  let σ2:=σ1.set W (wo (A.yA .aJ) W (p+1) (l+1))
  have hW2:σ2[W]? =some (wo (A.yA .aJ) W (p+1) (l+1)):=cS hW1
  have n2:σ2.length=σ.length:=by rw[XN,XN]
  have S2:WS A H m W es bs σ2:=S1.mv lW le n9
  let σ3:aj:=σ2++[.i (((av (aN x)).zip (av (aN y))).map λp=>.t [p.1,p.2]),.u,.u,.u]
  have ez:(((av (aN x)).zip (av (aN y))).map λp:V×V=>V.t [p.1,p.2])=nI L:=by rw[List.zip_map,XV];rfl
  have S3:WS A H m W es bs σ3:=S2.mv (by rw[n2];exact lW) (λe he=>by rw[n2];exact le e he) (yV (lX (Xx _) _))
  have hW3:σ3[W]? =some (wo (A.yA .aJ) W (p+1) (l+1)):=bO _ _ hW2
  let ρ1:=au (au (au (bf [.o 3 W,.i j]) 2 (.i x)) 3 (.i y)) 4 (Rs.iX).gC
  let ρ2:=au ρ1 5 (.r σ2.length)
  have hNE:ju (q'+1)=1+2 * (5 * ju q'):=rfl
  have hZE:ZE (q'+1)=2 * (5 * ZE q'+310)+45:=rfl
  have pL:L.length * (5 * ju q')<=2 * (5 * ju q'):=Y9 _ L2
  have pZ:∀n,n=L.length->n * (5 * ZE q'+310+2)<=2 * (5 * ZE q'+310+2):=λn hn=>Y9 _ (hn▸L2)
  refine Iv (RO (N:=σ2.length) (hB:BT d q' A H m W σ2.length es bs) (by rw[n2];exact lW) (λe he=>by rw[n2];exact le e he) (a0:=σ2.length) (j:=j) (ys:=nI L) (l:=l+1) (Xx _) (gj hl) (jc hq) (ρ:=ρ2) rfl rfl L [] (p+1) σ3 (λt ht=>⟨nv x eg.1 _ (List.of_mem_zip (show(t.1,t.2)∈(aN x).zip (aN y) from ht)).1,lk3 t ht⟩) S3 hW3 (by refine(?_:_ < (σ2++_).length);rw[Xv];exact Nat.lt_add_of_pos_right (show 0 < 4 by decide)) (qGo hp pL hNE) (λ_ h=>(nomatch h)) (by rw[XY];exact qU L2 rfl)) λσ4 ps p4 it hW4 S4 gp len4 le4 ge4 fr4 n4=>?_
  rw[XY,Nat.zero_add]at len4
  let P:Pp:=.cD (bv x) ps
  have eP:P.enc=.t [.s gf,.s (bv x),.t (ps.map Pp.enc)]:=by refine(?_:Pp.enc (.cD _ _)=_);rw[rL,rM]
  have dP:∀qs:List Pp,(∀P∈qs,GP P (10+7 * q') (5 * ZE q'+310))->Pp.goods qs/\Pp.deps qs<=10+7 * q'/\Pp.szs qs<=qs.length * (5 * ZE q'+310+2):=λqs=>by
   induction qs with
   |nil=>intro _;exact fA trivial (Xw _) (Xw _)
   |cons Q qs ih=>
    intro h
    refine cO (ih λP hP=>h P (XI _ hP)) λi1 i2 i3=>?_
    have hQ:=h Q (XH ..)
    refine fA (⟨hQ.Wl,i1⟩) (Nat.max_le.mpr ⟨hQ.Ww,i2⟩) ?_
    have:=hQ.Wx
    refine(?_:Q.sz+2+Pp.szs qs<=(qs.length+1) * _)
    rw[Nat.succ_mul];lia
  refine cO (dP ps gp) λg1 g2 g3=>?_
  have gP:GP P (4+7 * (q'+1)) (ZE (q'+1)):=⟨⟨xT x,g1⟩,by refine(?_:Pp.deps ps+1<=_);lia,by refine(?_:(bv x).length+40+Pp.szs ps<=_);rw[xU];have:=pZ _ len4;lia⟩
  have cl:∀{s:aj},WS A H m W es bs s->∀{ρ:aA} {i z n:Nat},ρ 0=some (.o 3 W)->s[W]? =some (wo (A.yA .aJ) W (p+1) (l+1))->ρ i=some (.i z)->z < H.KM->Ev (d+2 * (q'+1)+3) (n+5) (.m 15 (.a 21 (.a 39 (.v 0))) [.v i]) ρ s (.t (av (aN z))) s:=λ{s} Ss {ρ i z n} h0 hw hi hz=>
   bQ (dw (mq h0 hw rfl rfl) rfl (dy Ss.V9) rfl) Ss.V9.gU rfl (Xo (af hi)) (tj _ Ss.V9 Ss.V5.VU hz)
  have zp:Ev (d+2 * (q'+1)+3) 30 (.b .z [.m 15 (.a 21 (.a 39 (.v 0))) [.v 2],.m 15 (.a 21 (.a 39 (.v 0))) [.v 3]]) ρ1 σ2 (.r σ2.length) σ3:=ci rfl (ac.ah (cl S2 rfl hW2 rfl eg.1) (Xo (cl S2 rfl hW2 rfl eg.2.1))) Cr
  have e2:d+2 * (q'+1)+3=d+5+2 * q':=by lia
  have it':cW (d+2 * (q'+1)+3) 27 (.m 43 (.v 0) [.v 7,.v 8,.v 1]) (.t [.v 7,.v 8]) [] [] ρ2 (.it σ2.length (nI L)) (nI L) σ3 [] (ps.map Pp.enc) σ4:=by rw[e2];exact it
  have hit:σ3[σ2.length]? =some (.i (nI L)):=by rw[<-ez];exact lC _ _
  let σ5:aj:=σ4++[.l (ps.map Pp.enc)]
  have ev6:Ev (d+2 * (q'+1)+3) 30 (.t [.c (.s [117,110,100,101,114]),.m 16 (.a 21 (.a 39 (.v 0))) [.v 2],.b .t [.o (.m 43 (.v 0) [.v 7,.v 8,.v 1]) [.m (.t [.v 7,.v 8]) (.e (.v 5)) []]]]) ρ2 σ3 P.enc σ5:=by
   rw[eP]
   exact bI (ac.ah aq (ac.ah (bQ (dw (mq (nm:=39) rfl hW3 rfl rfl) rfl (dy S3.V9) rfl) S3.V9.gU rfl (Xo (af rfl)) (vy _ S3.V9 S3.V5.VU eg.1))
    (Xo (ci rfl (Xo (dU (zo (af (i:=5) rfl) hit (bq (by rw[Xr];exact bP L2 rfl))) it')) (j3 aX (bq (by rw[Xr];exact bP (qT (te len4) L2) rfl)))))))
  have hW5:σ5[W]? =some (wo (A.yA .aJ) W p4 (l+1)):=bO _ _ hW4
  have sub1:(((l+1:Nat):Int) - 1)=(l:Nat):=qW
  have e9:ai (d+2 * (q'+1)+3) 12 (.a (.a 41 (.v 0)) (.i .s (.a 41 (.v 0)) (.c (.i 1)))) (au ρ2 6 P.enc) σ5 .n (au ρ2 6 P.enc) (σ5.set W (wo (A.yA .aJ) W p4 l)):=by
   have h:=vC (d:=d+2 * (q'+1)+3) (n:=11) (ρ:=au ρ2 6 P.enc) (nm:=41) rfl rfl (bX (mq (nm:=41) rfl hW5 rfl rfl) (aq (v:=.i 1)) j2) hW5 (by decide:4<=100)
   rw[sub1]at h;exact h
  refine di P p4 gP (bT le4) (qGp ge4 hNE pL) (aL.lj (f:=AI) (fl:=.r P.enc) (ρ':=au ρ2 6 P.enc) (σ':=σ5.set W (wo (A.yA .aJ) W p4 l)) rfl rfl (Iz _ S hW (JD hp hNE) hE (ao (bC (aY (bi (af rfl) aq (c9 (bg rfl) rfl)) aq rfl (Xw _)) aP)
   (ao (vC rfl rfl (bX (mq rfl hW1 rfl rfl) aq iy) hW1 (by decide:4<=100)) (ao (bC (aY (mq rfl hW2 rfl rfl) (vZ rfl) ?_ trivial) aP) (ao (bh zp bc) (ao (bh ev6 bc) (ao e9 (be (bM (af rfl)))))))))) ?_)
  ·show some (decide ((100:Int) < ((l+1:Nat):Int)))=_
   rw[Yb (by lia)]
  ·refine KJ hW hk lW (Jc (λi hi=>?_) ?_) (λm=>P.lo_enc m)
   ·rw[XN]at hi
    by_cases e:i=W
    ·rw[e,cS hW5,cS hW]
    ·rw[aV (Yv e),aV (Yv e)]
     have h4:σ4.length=σ.length+4:=by rw[n4,Xv,n2];rfl
     rw[show σ5[i]? =σ4[i]? from Yl (by exact i9 hi h4),fr4 i e (by exact gN (qT hi (gM n2))),show σ3[i]? =σ2[i]? from Yl (by exact qT hi (gM n2)),aV (Yv e),aV (Yv e)]
   ·have h4:σ4.length=σ.length+4:=by rw[n4,Xv,n2];rfl
    rw[XN,XN,Xv];exact d5 (vn h4)
theorem RN(hWN:W+1 < N)(hes:∀e∈es,e.2 < N):∀q,OE d q A H m W N es bs:=λq=>by
 induction q with
 |zero=>exact Iy (λ_ h=>nomatch h) hWN hes
 |succ q ih=>exact Iy (λq' h=>by cases h;exact Fj ih hWN hes) hWN hes
theorem HL(G:HG H m)(t:Nat):dT (H.aM.take t)<=2:=by
 have h1:dT (H.aM.take t)<=dT H.aM:=List.Sublist.countP_le (List.take_sublist _ _)
 have h2:=G.nl
 have:∀x y,kF x y<=1:=λx y=>by unfold kF;split<;>decide
 exact Xs h1 (Xs h2 (Za (this _ _) (this _ _)))
theorem T1(d:Nat)(S:WS A H m W es bs σ)(hW:σ[W]? =some (wo (A.yA .aJ) W p l))(ha:a < H.KM)(hb:b < H.KM)(hab:H.rt a=H.rt b):
  ∃P p',GP P 24 86885/\aL (d+10) 34 [.o 3 W,.i a,.i b] σ P.enc (σ.set W (wo (A.yA .aJ) W p' 0)):=by
 have lW:W+1 < σ.length:=e8 S.VX.V6
 have le:∀e∈es,e.2 < σ.length:=λe he=>e8 (S.VX.Wc e he)
 let σ1:=σ.set W (wo (A.yA .aJ) W 0 l)
 let σ2:=σ1.set W (wo (A.yA .aJ) W 0 0)
 have hW1:σ1[W]? =some (wo (A.yA .aJ) W 0 l):=cS hW
 have hW2:σ2[W]? =some (wo (A.yA .aJ) W 0 0):=cS hW1
 have S2:WS A H m W es bs σ2:=(S.mv lW le n9).mv lW le n9
 refine dk (Fj (q:=2) (RN (d:=d) lW le 2) lW le σ2 0 0 a b H.aM.length S2 hW2 ha (S.V5.y5 ha hb hab) (HL S.V5 _) (by decide) (by decide)) λP p' gP _ _ h=>?_
 refine eE P p' gP ?_
 have en:((H.aM.map jV).length:Int)=(H.aM.length:Nat):=by rw[Xr]
 have e:σ2.set W (wo (A.yA .aJ) W p' 0)=σ.set W (wo (A.yA .aJ) W p' 0):=by rw[Yr,Yr]
 rw[e]at h
 exact cI (f:=GD) (fl:=.r _) rfl rfl (ao (bh (bI (ac.ah aq (Xo aq))) (gR rfl rfl (da (vP (af rfl) rfl hW (by decide:4<=100)) (da (vP (af rfl) rfl hW1 (by decide:4<=100)) gS))))
  (be (bM (bQ (af rfl) hW2 rfl (ac.ah (af rfl) (ac.ah (af rfl) (Xo (en▸ci rfl (Xo (dw (mq rfl hW2 rfl rfl) rfl (dy S2.V9) rfl)) (fC (S2.V9.aZ .fJ trivial) (bq (by rw[Xr];exact S.el))))))) h))))
end
set_option genCtorIdx false in
inductive ij where
 |gW (j:Nat) (t:Bool)
 |mY
 |oP (m:Nat)
variable {wy:ij}
noncomputable def ij.iK:ij->V
 | .gW j t=>.t [.s [101,100,103,101],.i j,.b t]
 | .mY=>.t [.s [108,105,107,101]]
 | .oP m=>.t [.s [111,118,101,114],.i m]
structure SH where
 Vt:Nat->Nat->Option Nat
 wf:Nat->Nat->Option ij
 V2:Option Bool
variable {s':SH}{step:SH->Nat->SH}
noncomputable def gO(f:Nat->Nat->Option α)(a b:Nat)(v:α):Nat->Nat->Option α:=λx y=>if x=a/\y=b then some v else f x y
noncomputable def SH.fX(s:SH)(a b c:Nat):Bool:=match s.Vt a b with
 |some c0=>decide (c < c0)
 |none=>true
noncomputable def SH.oJ(s:SH)(a b c:Nat)(w:ij):SH:=⟨gO s.Vt a b c,gO s.wf a b w,some true⟩
noncomputable def SH.gD(s:SH)(a b c:Nat)(w:ij):SH:=if s.fX a b c then s.oJ a b c w else s
noncomputable def kz(a b:Nat):List (Nat×Nat):=(aN a).zip (aN b)
noncomputable def jZ(cf:Nat->Nat->Option Nat)(a b:Nat):Nat:=((kz a b).map λp=>(cf p.1 p.2).getD 0).sum
noncomputable def qE(a b:Nat):Bool:=decide (a≠b)&&(decide (bv a=bv b)&&decide ((aN a).length=(aN b).length))
noncomputable def SH.oI(s:SH)(a b:Nat):SH:=if qE a b&&(kz a b).all (λp=>(s.Vt p.1 p.2).isSome)then s.gD a b (jZ s.Vt a b) .mY else s
noncomputable def SH.mW(s:SH)(m a b:Nat):SH:=match s.Vt a m with
 |none=>s
 |some c1=>match s.Vt m b with
  |none=>s
  |some c2=>s.gD a b (c1+c2) (.oP m)
noncomputable def fN(f:Nat->Nat->Option α):Nat:=(List.range 36).countP λi=>(f (i / 6) (i % 6)).isSome
noncomputable def mh:Nat:=1099511627776
noncomputable def SH.ms(s:SH):Nat:=((List.range 36).map λi=>(s.Vt (i / 6) (i % 6)).getD mh).sum
noncomputable def sd(E:d7)(cf:Nat->Nat->Option Nat)(a b x:Nat):ij->Prop
 | .gW j _=>∃e1 e2 r,E[j]? =some (e1,e2,r)/\r.eB=false
 | .mY=>bv a=bv b/\(∀p∈kz a b,∃y,cf p.1 p.2=some y)/\jZ cf a b<=x
 | .oP m=>m≠a/\m≠b/\∃c1 c2,cf a m=some c1/\cf m b=some c2/\c1+c2<=x
structure SI(E:d7)(c:Nat)(s:SH):Prop where
 c6:c<=6
 dg:∀a,a < c->s.Vt a a=some 0
 dm:∀a b x,s.Vt a b=some x->a < c/\b < c
 po:∀a b x,s.Vt a b=some x->a≠b->1<=x
 Wk:∀a b x,s.Vt a b=some x->x<=2 ^ fN s.Vt
 WW:∀a b x,s.Vt a b=some x->a≠b->∃w,s.wf a b=some w/\sd E s.Vt a b x w
section
variable {c a b m i j k n:Nat}{s:SH}{w:ij}
theorem Ae{f:Nat->Nat->Option α}:fN f<=36:=by have:fN f<=(List.range 36).length:=List.countP_le_length;rwa [XW]at this
theorem nU{f:Nat->Nat->Option α}{v:α}:gO f a b v a b=some v:=Xz ⟨rfl,rfl⟩
theorem q6{f:Nat->Nat->Option α}{v:α}(h:¬(x=a/\y=b)):gO f a b v x y=f x y:=XC h
theorem FG{l:List α}{p q:α->Bool}(h:∀z,p z=true->q z=true){z:α}(hz:z∈l)(hp:p z=false)(hq:q z=true):l.countP p+1<=l.countP q:=by
 induction l with
 |nil=>cases hz
 |cons u l ih=>
  rw[List.countP_cons,List.countP_cons]
  have hm:l.countP p<=l.countP q:=List.countP_mono_left λz _=>h z
  rcases XL hz with rfl |hz
  ·rw[hp,hq];exact YD hm
  ·have:=ih hz
   have hu:=h u
   cases h1:p u with
   |false=>rw[XC (by decide:¬false=true)];lia
   |true=>rw[hu h1];exact YD this
theorem zZ(ha:a < 6)(hb:b < 6):(a * 6+b) / 6=a/\(a * 6+b) % 6=b/\a * 6+b∈List.range 36:=⟨qGk hb,qGl hb,Y' (by lia)⟩
theorem Fz{f:Nat->Nat->Option α}{v:α}:fN f<=fN (gO f a b v):=List.countP_mono_left λi _ h=>by
 unfold gO;split
 ·rfl
 ·exact h
theorem Fy{f:Nat->Nat->Option α}{v:α}(ha:a < 6)(hb:b < 6)(h:f a b=none):fN f+1<=fN (gO f a b v):=by
 refine cO (zZ ha hb) λe1 e2 e3=>?_
 exact FG (λi h=>by unfold gO;split;rfl;exact h) e3 (by rw[e1,e2,h];rfl) (by rw[e1,e2,nU];rfl)
theorem yr{l:List α}{f g:α->Nat}(h:∀z∈l,f z<=g z):(l.map f).sum<=(l.map g).sum:=by
 induction l with
 |nil=>exact Xx _
 |cons u l ih=>exact Za (h u (XH ..)) (ih λz hz=>h z (XI _ hz))
theorem UU{l:List α}{f g:α->Nat}(h:∀z∈l,f z<=g z){z:α}(hz:z∈l)(hlt:f z < g z):(l.map f).sum < (l.map g).sum:=by
 induction l with
 |nil=>cases hz
 |cons u l ih=>
  have hu:=h u (XH ..)
  have hr:=yr λz hz=>h z (XI _ hz)
  refine(?_:f u+_ < g u+_)
  rcases XL hz with rfl |hz
  ·exact Nat.add_lt_add_of_lt_of_le hlt hr
  ·exact Nat.add_lt_add_of_le_of_lt hu (ih (λz hz=>h z (XI _ hz)) hz)
noncomputable def Le(cf cf':Nat->Nat->Option Nat):Prop:=∀a b x,cf a b=some x->∃y,cf' a b=some y/\y<=x
theorem wn(cf:Nat->Nat->Option Nat):Le cf cf:=λ_ _ x h=>aC x h (Xx _)
theorem Le.DV{cf'':Nat->Nat->Option Nat}(h:Le cf cf')(h2:Le cf' cf''):Le cf cf'':=λa b x q=>by
 refine az (h a b x q) λy q1 q2=>?_
 refine az (h2 a b y q1) λz q3 q4=>?_
 exact aC z q3 (Xs q4 q2)
theorem QK(h:Le cf cf')(hk:∀p∈kz a b,∃y,cf p.1 p.2=some y):jZ cf' a b<=jZ cf a b:=yr λp hp=>by
 refine aT (hk p hp) λy hy=>?_
 refine az (h _ _ _ hy) λz hz hl=>?_
 rw[hy,hz];exact hl
theorem sd.le(h:Le cf cf')(hx:x<=y)(k:sd E cf a b x w):sd E cf' a b y w:=by
 cases w with
 |gW j t=>exact k
 |mY=>exact fA k.1 (λp hp=>(k.2.1 p hp).elim λy hy=>(h _ _ _ hy).elim λz hz=>⟨z,hz.1⟩) (Xs (QK h k.2.1) (Xs k.2.2 hx))
 |oP m=>
  obtain⟨h1,h2,c1,c2,e1,e2,h3⟩:=k
  refine az (h _ _ _ e1) λd1 f1 g1=>?_
  refine az (h _ _ _ e2) λd2 f2 g2=>?_
  exact⟨h1,h2,d1,d2,f1,f2,Xs (Za g1 g2) (Xs h3 hx)⟩
theorem uD(h:s.fX a b k=true):Le s.Vt (s.oJ a b k w).Vt:=λx y z hz=>by
 by_cases e:x=a/\y=b
 ·refine ba e ?_;clear e;intro q0 q1;subst q0;subst q1
  unfold SH.fX at h
  rw[hz]at h
  exact aC k nU (Yj (XX h))
 ·exact aC z ((q6 e).trans hz) (Xx _)
theorem xZ(h:n<=m):2 ^ n<=2 ^ m:=Nat.pow_le_pow_right (by decide) h
theorem SI.zE(I:SI E c s)(ha:a < c)(h:s.fX a b k=true):a≠b:=λe=>by
 subst e;unfold SH.fX at h;rw[I.dg a ha]at h;exact absurd (XX h) (Y5 _)
theorem SI.No(I:SI E c s)(ha:a < c)(hb:b < c)(h:s.fX a b k=true)(h1:1<=k)(hk:k<=2 * 2 ^ fN s.Vt)(hw:sd E s.Vt a b k w):SI E c (s.oJ a b k w):=by
 have ne:=I.zE ha h
 have cu:2 ^ fN s.Vt<=2 ^ fN (s.oJ a b k w).Vt:=xZ Fz
 have kb:k<=2 ^ fN (s.oJ a b k w).Vt:=by
  cases hc:s.Vt a b with
  |none=>exact Xs hk (by rw[<-Nat.pow_succ'];exact xZ (Fy (XJ ha I.c6) (XJ hb I.c6) hc))
  |some c0=>unfold SH.fX at h;rw[hc]at h;exact Xs (Yj (XX h)) (Xs (I.Wk _ _ _ hc) cu)
 have cases_:∀{x y z:Nat},(s.oJ a b k w).Vt x y=some z->(x=a/\y=b/\z=k)∨(¬(x=a/\y=b)/\s.Vt x y=some z):=λ{x y z} hz=>by
  by_cases e:x=a/\y=b
  ·refine ba e ?_;clear e;intro q0 q1;subst q0;subst q1;exact .inl ⟨rfl,rfl,(XA (nU.symm.trans hz)).symm⟩
  ·exact .inr ⟨e,(q6 e).symm.trans hz⟩
 refine⟨I.c6,λx hx=>(q6 λe=>ne (e.1.symm.trans e.2)).trans (I.dg x hx),λx y z hz=>?_,λx y z hz hn=>?_,λx y z hz=>?_,λx y z hz hn=>?_⟩
 ·rcases cases_ hz with⟨rfl,rfl,_⟩ | ⟨_,q⟩
  ·exact bm ha hb
  ·exact I.dm _ _ _ q
 ·rcases cases_ hz with⟨_,_,rfl⟩ | ⟨_,q⟩
  ·exact h1
  ·exact I.po _ _ _ q hn
 ·rcases cases_ hz with⟨_,_,rfl⟩ | ⟨_,q⟩
  ·exact kb
  ·exact Xs (I.Wk _ _ _ q) cu
 ·rcases cases_ hz with⟨rfl,rfl,rfl⟩ | ⟨e,q⟩
  ·exact aC w nU (hw.le (uD h) (Xx _))
  ·refine az (I.WW _ _ _ q hn) λw' q1 q2=>?_
   exact aC w' ((q6 e).trans q1) (q2.le (uD h) (Xx _))
theorem SI.Nn(I:SI E c s)(h:s.Vt a b=some x):x<=68719476736:=Xs (I.Wk _ _ _ h) (Xs (xZ Ae) (by decide))
theorem SI.Ey(I:SI E c s)(ha:a < c)(hb:b < c)(h:s.fX a b k=true)(hk:k<=2 * 2 ^ fN s.Vt):(s.oJ a b k w).ms < s.ms:=by
 refine cO (zZ (XJ ha I.c6) (XJ hb I.c6)) λe1 e2 e3=>?_
 have kl:k < mh:=YH hk (YH (Nat.mul_le_mul_left 2 (xZ Ae)) (by decide))
 have one:k < (s.Vt a b).getD mh:=by
  unfold SH.fX at h
  cases hc:s.Vt a b with
  |none=>exact kl
  |some c0=>rw[hc]at h;exact XX h
 refine UU (λi _=>?_) e3 (by rw[e1,e2];refine(?_:(gO s.Vt a b k a b).getD mh < _);rw[nU];exact one)
 refine(?_:(gO s.Vt a b k _ _).getD mh<=_)
 by_cases e:i / 6=a/\i % 6=b
 ·rw[e.1,e.2,nU];exact Yj one
 ·rw[q6 e];exact Xx _
structure SR(E:d7)(c:Nat)(s s':SH):Prop where
 Wo:SI E c s->SI E c s'
 WK:Le s.Vt s'.Vt
 Wq:SI E c s->s'=s∨(s'.V2=some true/\s'.ms < s.ms)
theorem SR.qb(s:SH):SR E c s s:=⟨id,wn _,λ_=>.inl rfl⟩
theorem SR.uh{s'':SH}(h:SR E c s s')(h2:SR E c s' s''):SR E c s s'':=⟨λI=>h2.Wo (h.Wo I),h.WK.DV h2.WK,λI=>by
 rcases h2.Wq (h.Wo I)with e |e
 ·rw[e];exact h.Wq I
 ·rcases h.Wq I with e' |e'
  ·rw[e']at e;exact .inr e
  ·exact .inr ⟨e.1,Nat.lt_trans e.2 e'.2⟩⟩
theorem SR.wH(ha:a < c)(hb:b < c)(h:SI E c s->s.fX a b k=true->a≠b->1<=k/\k<=2 * 2 ^ fN s.Vt/\sd E s.Vt a b k w):SR E c s (s.gD a b k w):=by
 unfold SH.gD
 split
 ·rename_i he
  exact⟨λI=>let⟨h1,h2,h3⟩:=h I he (I.zE ha he);I.No ha hb he h1 h2 h3,uD he,λI=>.inr ⟨rfl,I.Ey ha hb he (h I he (I.zE ha he)).2.1⟩⟩
 ·exact .qb s
theorem Hx(a:Nat)(ha:a < 6)(b:Nat)(hb:b < 6)(ho:bv a=bv b)(hn:a≠b):(kz a b=[(0,1)]∨kz a b=[(1,0)]∨kz a b=[(0,1),(1,0)]∨kz a b=[(1,0),(0,1)])/\2<=a/\2<=b:=by
 rcases HJ ha hb ho hn with⟨rfl,rfl⟩ | ⟨rfl,rfl⟩ | ⟨rfl,rfl⟩ | ⟨rfl,rfl⟩<;>decide
theorem SR.ug(ha:a < c)(hb:b < c):SR E c s (s.oI a b):=by
 unfold SH.oI
 split
 ·rename_i hc
  rw[YJ]at hc
  refine ba hc ?_;clear hc;intro h1 h2
  unfold qE at h1
  rw[YJ,YJ]at h1
  have op:=XX h1.2.1
  refine .wH ha hb λI he ne=>?_
  have hk:∀p∈kz a b,∃y,s.Vt p.1 p.2=some y:=λp hp=>Option.isSome_iff_exists.mp (YM h2 p hp)
  have kf:=(Hx a (XJ ha I.c6) b (XJ hb I.c6) op ne).1
  have one:∀{u v:Nat},u≠v->(∃y,s.Vt u v=some y)->1<=(s.Vt u v).getD 0/\(s.Vt u v).getD 0<=2 ^ fN s.Vt:=λhn ⟨y,hy⟩=>by rw[hy];exact bm (I.po _ _ _ hy hn) (I.Wk _ _ _ hy)
  have fin:1<=jZ s.Vt a b/\jZ s.Vt a b<=2 * 2 ^ fN s.Vt:=by
   unfold jZ
   rcases kf with e |e |e |e<;>rw[e]at hk ⊢
   ·have:=one (u:=0) (v:=1) (by decide) (hk (0,1) (by decide));refine(?_:1<=(s.Vt 0 1).getD 0+0/\(s.Vt 0 1).getD 0+0<=_);exact JF this
   ·have:=one (u:=1) (v:=0) (by decide) (hk (1,0) (by decide));refine(?_:1<=(s.Vt 1 0).getD 0+0/\(s.Vt 1 0).getD 0+0<=_);exact JF this
   ·have:=one (u:=0) (v:=1) (by decide) (hk (0,1) (by decide));have:=one (u:=1) (v:=0) (by decide) (hk (1,0) (by decide));refine(?_:1<=(s.Vt 0 1).getD 0+((s.Vt 1 0).getD 0+0)/\(s.Vt 0 1).getD 0+((s.Vt 1 0).getD 0+0)<=_);lia
   ·have:=one (u:=0) (v:=1) (by decide) (hk (0,1) (by decide));have:=one (u:=1) (v:=0) (by decide) (hk (1,0) (by decide));refine(?_:1<=(s.Vt 1 0).getD 0+((s.Vt 0 1).getD 0+0)/\(s.Vt 1 0).getD 0+((s.Vt 0 1).getD 0+0)<=_);lia
  exact BN fin.1 fin.2 op hk (Xx _)
 ·exact .qb s
set_option tactic.hygienic true in
theorem SR.wI(ha:a < c)(hb:b < c):SR E c s (s.mW m a b):=by
 unfold SH.mW
 split
 ·exact .qb s
 ·rename_i c1 h1
  split
  ·exact .qb s
  ·rename_i c2 h2
   refine .wH ha hb λI he ne=>?_
   have ma:m≠a:=λe=>by
    subst e
    rw[I.dg m ha]at h1;cases h1
    unfold SH.fX at he;rw[h2,Nat.zero_add]at he
    exact absurd (XX he) (YW _)
   have mb:m≠b:=λe=>by
    subst e
    rw[I.dg m hb]at h2;cases h2
    unfold SH.fX at he;rw[h1]at he
    exact absurd (XX he) (YW _)
   have b1:=I.Wk _ _ _ h1
   have b2:=I.Wk _ _ _ h2
   exact⟨Xs (I.po _ _ _ h1 ma.symm) (XS ..),ya b1 b2,ma,mb,c1,c2,h1,h2,Xx _⟩
theorem SR.ly{l:List α}{f:SH->α->SH}(h:∀s,∀z∈l,SR E c s (f s z)):∀s,SR E c s (l.foldl f s):=by
 induction l with
 |nil=>exact λs=>.qb s
 |cons z l ih=>exact λs=>(h s z (XH ..)).uh (ih (λs u hu=>h s u (XI _ hu)) _)
theorem sF{l:List α}{f:SH->α->SH}(h:∀s,∀z∈l,SR E c s (f s z))(I:SI E c s)(hs:(l.foldl f s).ms=s.ms):l.foldl f s=s/\∀z∈l,f s z=s:=by
 induction l generalizing s with
 |nil=>exact bm rfl (λ_ h=>(nomatch h))
 |cons z l ih=>
  have h1:=h s z (XH ..)
  have hl:∀s,∀z∈l,SR E c s (f s z):=λs u hu=>h s u (XI _ hu)
  have h2:=SR.ly hl (f s z)
  have m1:(f s z).ms<=s.ms:=(h1.Wq I).elim (λe=>by rw[e];exact Xx _) λe=>Yj e.2
  have m2:(l.foldl f (f s z)).ms<=(f s z).ms:=(h2.Wq (h1.Wo I)).elim (λe=>by rw[e];exact Xx _) λe=>Yj e.2
  have hs:(l.foldl f (f s z)).ms=s.ms:=hs
  have e1:f s z=s:=(h1.Wq I).resolve_right λe=>by have:=e.2;lia
  refine(?_:l.foldl f (f s z)=s/\_)
  rw[e1]at hs ⊢
  refine ba (ih hl I hs) λq1 q2=>?_
  exact bm q1 (λu hu=>(XL hu).elim (λe=>by rw[e];exact e1) (q2 u))
noncomputable def SH.qa(s:SH)(lot:List Nat):SH:=lot.foldl (λs a=>lot.foldl (λs b=>s.oI a b) s) s
noncomputable def SH.ue(s:SH)(lot:List Nat):SH:=lot.foldl (λs m=>lot.foldl (λs a=>lot.foldl (λs b=>s.mW m a b) s) s) s
noncomputable def SH.rW(s:SH)(lots:List (List Nat)):SH:=lots.foldl (λs lot=>(s.qa lot).ue lot) s
theorem wF(h:∀z∈lot,z < c)(s:SH):SR E c s (s.qa lot):=.ly (λs a ha=>.ly (λs b hb=>.ug (h a ha) (h b hb)) s) s
theorem SR.wG(h:∀z∈lot,z < c)(s:SH):SR E c s (s.ue lot):=.ly (λs m _=>.ly (λs a ha=>.ly (λs b hb=>.wI (h a ha) (h b hb)) s) s) s
theorem Nq(h:∀lot∈lots,∀z∈lot,z < c)(s:SH):SR E c s (s.rW lots):=.ly (λs lot hl=>(wF (h lot hl) s).uh (.wG (h lot hl) _)) s
structure SC(s:SH)(lots:List (List Nat)):Prop where
 lk:∀lot∈lots,∀a∈lot,∀b∈lot,qE a b=true->(∀p∈kz a b,∃y,s.Vt p.1 p.2=some y)->∃y,s.Vt a b=some y/\y<=jZ s.Vt a b
 W8:∀lot∈lots,∀m∈lot,∀a∈lot,∀b∈lot,∀c1 c2,s.Vt a m=some c1->s.Vt m b=some c2->∃y,s.Vt a b=some y/\y<=c1+c2
theorem HD(I:SI E c s)(ha:a < c)(hb:b < c)(hk:s.fX a b k=true->k<=2 * 2 ^ fN s.Vt)(h:s.gD a b k w=s):∃y,s.Vt a b=some y/\y<=k:=by
 unfold SH.gD at h
 cases he:s.fX a b k with
 |true=>
  rw[Xz he]at h
  have:=I.Ey (w:=w) ha hb he (hk he)
  rw[h]at this;exact absurd this (YW _)
 |false=>
  unfold SH.fX at he
  cases hc:s.Vt a b with
  |none=>rw[hc]at he;cases he
  |some c0=>rw[hc]at he;exact aC c0 rfl (Nat.le_of_not_lt (of_decide_eq_false he))
theorem Nm(hl:∀lot∈lots,∀z∈lot,z < c)(I:SI E c s)(h:(s.rW lots).ms=s.ms):SC s lots:=by
 refine ba (sF (λs lot hlot=>(wF (hl lot hlot) s).uh (.wG (hl lot hlot) _)) I h) λ_ h1=>?_
 have pz:∀lot∈lots,s.qa lot=s/\s.ue lot=s:=λlot hlot=>by
  have e:=h1 lot hlot
  have r1:=wF (E:=E) (hl lot hlot) s
  have r2:=SR.wG (E:=E) (hl lot hlot) (s.qa lot)
  rcases r1.Wq I with q |q
  ·rw[q]at e;exact bm q e
  ·exfalso
   rcases r2.Wq (r1.Wo I)with q2 |q2
   ·rw[q2]at e;rw[e]at q;exact absurd q.2 (YW _)
   ·rw[e]at q2;exact absurd (Nat.lt_trans q2.2 q.2) (YW _)
 refine⟨λlot hlot a ha b hb hc hk=>?_,λlot hlot m hm a ha b hb c1 c2 e1 e2=>?_⟩
 ·have hz:=hl lot hlot
  refine ba (sF (l:=lot) (λs a ha=>.ly (λs b hb=>.ug (hz a ha) (hz b hb)) s) I (by rw[show lot.foldl _ s=s from(pz lot hlot).1])) λ_ f1=>?_
  refine ba (sF (l:=lot) (λs b hb=>.ug (hz a ha) (hz b hb)) I (by rw[f1 a ha])) λ_ f2=>?_
  have f3:=f2 b hb
  unfold SH.oI at f3
  rw[hc,List.all_eq_true.mpr λp hp=>Option.isSome_iff_exists.mpr (hk p hp)]at f3
  have f3:s.gD a b (jZ s.Vt a b) .mY=s:=f3
  refine HD I (hz a ha) (hz b hb) (λhe=>?_) f3
  have q:=SR.ug (E:=E) (s:=s) (hz a ha) (hz b hb)
  have kb:jZ s.Vt a b<=((kz a b).map λ_=>2 ^ fN s.Vt).sum:=yr λp hp=>by refine aT (hk p hp) λy hy=>?_;rw[hy];exact I.Wk _ _ _ hy
  have l2:(kz a b).length<=2:=by refine(?_:((aN a).zip (aN b)).length<=2);rw[List.length_zip];exact Xs (Zw _ _) (g9 a)
  rw[List.map_const',List.sum_replicate_nat]at kb
  exact Xs kb (Y9 _ l2)
 ·have hz:=hl lot hlot
  refine ba (sF (l:=lot) (λs m _=>.ly (λs a ha=>.ly (λs b hb=>.wI (hz a ha) (hz b hb)) s) s) I (by rw[show lot.foldl _ s=s from(pz lot hlot).2])) λ_ f1=>?_
  refine ba (sF (l:=lot) (λs a ha=>.ly (λs b hb=>.wI (m:=m) (hz a ha) (hz b hb)) s) I (by rw[f1 m hm])) λ_ f2=>?_
  refine ba (sF (l:=lot) (λs b hb=>.wI (m:=m) (hz a ha) (hz b hb)) I (by rw[f2 a ha])) λ_ f3=>?_
  have f4:=f3 b hb
  unfold SH.mW at f4
  simp only[e1,e2]at f4
  have b1:=I.Wk _ _ _ e1
  have b2:=I.Wk _ _ _ e2
  exact HD I (hz a ha) (hz b hb) (λ_=>ya b1 b2) f4
end
structure TD{α:Type}(enc:α->V)(es:List (List KV×V))(f:Nat->Nat->Option α):Prop where
 r4:∀a b:Nat,cA es [.inr (a:Int),.inr (b:Int)]=(f a b).map enc
 zK:es.length<=fN f
 lo:∀e∈es,∀m,e.2.lo m=true
noncomputable def fZ(h W:Nat)(t:Option Bool):List (Nat×V):=(39,.o 2 h)::(46,.r (W+1))::(47,.r (W+2))::match t with
 |none=>[]
 |some b=>[(49,.b b)]
structure SS(A:Ad)(H:HS)(m W:Nat)(s:SH)(σ:aj):Prop where
 VV:HR A H σ
 VY:HG H m
 lt:∀s,H.ok s->A.yA s < W
 V3:σ[W]? =some (.a 4 (fZ (A.yA .aJ) W s.V2))
 cs:∃es,σ[W+1]? =some (.t es)/\TD (λn:Nat=>V.i n) es s.Vt
 Wr:∃es,σ[W+2]? =some (.t es)/\TD ij.iK es s.wf
structure cz(N W:Nat)(σ τ:aj):Prop where
 Wa:∀i,i < N->i≠W->i≠W+1->i≠W+2->τ[i]? =σ[i]?
 Wv:σ.length<=τ.length
section
variable {d n a b i j k m q l c:Nat}{u v w:V}{o:O}{e:Ex}{r:Rs}{s:SH}{enc:α->V}{es:List (List KV×V)}{f:Nat->Nat->Option α}
theorem mL:cz N W σ σ:=⟨λ_ _ _ _ _=>rfl,Xx _⟩
theorem cz.jm(h:cz N W σ σ₁)(h2:cz N W σ₁ τ):cz N W σ τ:=⟨λi h0 h1 h3 h4=>(h2.Wa i h0 h1 h3 h4).trans (h.Wa i h0 h1 h3 h4),Xs h.Wv h2.Wv⟩
theorem yU(h:N<=σ.length)(g:aj):cz N W σ (σ++g):=⟨λi hi _ _ _=>Yl (XJ hi h),by rw[Xv];exact XS ..⟩
theorem tQ(h:a=W∨a=W+1∨a=W+2∨N<=a):cz N W σ (σ.set a o):=⟨λi hi h1 h2 h3=>aV (by lia),by rw[XN];exact Xx _⟩
theorem Oe[DecidableEq κ]{es:List (κ×V)}{k:κ}:cA (es.map λe=>if e.1=k then(e.1,v)else e) k'=if k'=k then(cA es k').map λ_=>v else cA es k':=by
 unfold cA
 induction es with
 |nil=>split<;>rfl
 |cons e es ih=>
  rw[XD,Zr,Zr]
  by_cases h:e.1=k
  ·rw[Xz h]
   by_cases h2:e.1=k'
   ·have:k'=k:=h2.symm.trans h
    simp[h2,this]
   ·have h3:k'≠k:=λq=>h2 (h.trans q.symm)
    rw[XC h3]at ih ⊢
    simp only[Yb h2]
    exact ih
  ·rw[XC h]
   by_cases h2:e.1=k'
   ·have h3:k'≠k:=λq=>h (h2.trans q)
    simp[h2,h3]
   ·simp only[Yb h2]
    exact ih
theorem Od[DecidableEq κ]{es:List (κ×V)}{k:κ}:cA (eC es k v) k'=if k'=k then some v else cA es k':=by
 unfold eC
 split
 ·rename_i h
  rw[Oe]
  split
  ·rename_i hk
   subst hk
   refine az (List.any_eq_true.mp h) λe he hq=>?_
   unfold cA
   cases hf:es.find? λe=>decide (e.1=k')with
   |none=>exact absurd hq (List.find?_eq_none.mp hf e he)
   |some _=>rfl
  ·rfl
 ·rename_i h
  unfold cA
  rw[List.find?_append,Option.map_or]
  by_cases hk:k'=k
  ·subst hk
   rw[Xz rfl]
   have:es.find? (λe=>decide (e.1=k'))=none:=List.find?_eq_none.mpr λe he hq=>h (List.any_eq_true.mpr (aC e he hq))
   rw[this];simp
  ·rw[XC hk];simp[Yv hk]
theorem QC(h:([.inr (x:Int),.inr (y:Int)]:List KV)=[.inr (a:Int),.inr (b:Int)]):x=a/\y=b:=by
 have h1:=List.cons.inj h
 have h2:=List.cons.inj h1.2
 exact bm (Int.ofNat.inj (Sum.inr.inj h1.1)) (Int.ofNat.inj (Sum.inr.inj h2.1))
theorem TD.zM(T:TD enc es f)(ha:a < 6)(hb:b < 6)(z:α)(hz:∀m,(enc z).lo m=true):TD enc (eC es [.inr (a:Int),.inr (b:Int)] (enc z)) (gO f a b z):=by
 refine⟨λx y=>?_,?_,λe he=>?_⟩
 ·rw[Od]
  by_cases h:x=a/\y=b
  ·refine ba h ?_;clear h;intro q0 q1;subst q0;subst q1
   rw[Xz rfl,nU];rfl
  ·rw[XC λq=>h (QC q),q6 h];exact T.r4 x y
 ·unfold eC
  split
  ·rw[Xr];exact Xs T.zK Fz
  ·rename_i h
   rw[Xv]
   have hn:f a b=none:=by
    have g:=T.r4 a b
    cases hf:f a b with
    |none=>rfl
    |some z=>
     rw[hf]at g
     exact absurd (List.any_eq_true.mpr (aC _ (zX g) (XT rfl))) h
   exact Xs (YD T.zK) (Fy ha hb hn)
 ·unfold eC at he
  split at he
  ·refine az (Yf he) λe' h1 h2=>?_
   split at h2
   ·rw[<-h2];exact hz
   ·rw[<-h2];exact T.lo e' h1
  ·rcases XM he with h |h
   ·exact T.lo e h
   ·rw[XG h];exact hz
theorem TD.zL(T:TD enc es f):oT (.t es)<=aK:=Xs T.zK (Xs Ae (by decide))
theorem xd(a b:Nat):fu (.t es) (.t [.i a,.i b])=some (cA es [.inr (a:Int),.inr (b:Int)]):=rfl
theorem Ai(a b:Nat):fP (.t es) (.t [.i a,.i b]) v=some (.t (eC es [.inr (a:Int),.inr (b:Int)] v)):=rfl
theorem SS.mv(S:SS A H m W s σ)(h:∀i,i < W+3->τ[i]? =σ[i]?):SS A H m W s τ:=⟨⟨S.VV.eT,λz hz=>by have:=S.lt z hz;rw[h _ (by exact d5 this)];exact S.VV.aZ z hz⟩,S.VY,S.lt,(h _ (jb pn)).trans S.V3,S.cs.elim λes q=>(aC es ((h _ (vm (Cz rfl))).trans q.1) q.2),S.Wr.elim λes q=>(aC es ((h _ pn).trans q.1) q.2)⟩
theorem SS.rX(S:SS A H m W s σ):W+2 < σ.length:=S.Wr.elim λ_ q=>e8 q.1
theorem SS.mX(S:SS A H m W s σ)(g:aj):SS A H m W s (σ++g):=S.mv λi hi=>Yl (by have:=S.rX;exact qT hi this)
theorem jW(S:SS A H m W s σ)(h0:ρ 0=some (.o 4 W))(hc:fE 4 nm=true)(hg:cA [(39,V.o 2 (A.yA .aJ)),(46,.r (W+1)),(47,.r (W+2))] nm=some v):Ev d (n+2) (.a nm (.v 0)) ρ σ v σ:=by
 refine dw (af h0) hc S.V3 ?_
 unfold fZ cA at *
 rw[show ∀l:List (Nat×V),((39,V.o 2 (A.yA .aJ))::(46,.r (W+1))::(47,.r (W+2))::l)=[(39,V.o 2 (A.yA .aJ)),(46,.r (W+1)),(47,.r (W+2))]++l from λl=>rfl,List.find?_append,Option.map_or,hg];rfl
theorem kG(h1:ρ i1=some (.i a))(h2:ρ i2=some (.i b)):Ev d (n+3) (.t [.v i1,.v i2]) ρ σ (.t [.i a,.i b]) σ:=bI (ac.ah (af h1) (Xo (af h2)))
theorem Av(S:SS A H m W s σ)(h0:ρ 0=some (.o 4 W))(he:Ev d (n+3) e ρ σ (.t [.i a,.i b]) σ):Ev d (n+4) (.p .o e (.a 46 (.v 0))) ρ σ (.b (!(s.Vt a b).isSome)) σ:=by
 obtain⟨es,h1,T⟩:=S.cs
 exact aY he (jW S h0 rfl rfl) (by rw[Ac h1 (xd a b),T.r4,Option.isSome_map]) trivial
theorem F7(S:SS A H m W s σ)(h0:ρ 0=some (.o 4 W))(he:Ev d (n+3) e ρ σ (.t [.i a,.i b]) σ):Ev d (n+4) (.p .i e (.a 46 (.v 0))) ρ σ (.b (s.Vt a b).isSome) σ:=by
 obtain⟨es,h1,T⟩:=S.cs
 exact aY he (jW S h0 rfl rfl) (by rw[w9 h1 (xd a b),T.r4,Option.isSome_map]) trivial
theorem uF(S:SS A H m W s σ)(h0:ρ 0=some (.o 4 W))(he:Ev d (n+3) e ρ σ (.t [.i a,.i b]) σ)(hc:s.Vt a b=some c):Ev d (n+4) (.s (.a 46 (.v 0)) e) ρ σ (.i c) σ:=by
 obtain⟨es,h1,T⟩:=S.cs
 exact bi (jW S h0 rfl rfl) he (mC h1 (by intro _ h;cases h) (by rw[xd,T.r4,hc];rfl))
theorem Vj(w:ij)(m:Nat):w.iK.lo m=true:=by cases w<;>rfl
theorem yg(d:Nat)(S:SS A H m W s σ)(ha:a < 6)(hb:b < 6)(k:Nat)(w:ij):∃τ,aL (d+1) 38 [.o 4 W,.i a,.i b,.i k,w.iK] σ .n τ/\SS A H m W (s.gD a b k w) τ/\cz σ.length W σ τ/\τ.length=σ.length:=by
 let ρ:=bf [.o 4 W,.i a,.i b,.i k,w.iK]
 have ni:Ev d 29 (.p .o (.t [.v 1,.v 2]) (.a 46 (.v 0))) ρ σ (.b (!(s.Vt a b).isSome)) σ:=Av S rfl (kG rfl rfl)
 have cond:Ev d 30 (.r [.p .o (.t [.v 1,.v 2]) (.a 46 (.v 0)),.p .l (.v 3) (.s (.a 46 (.v 0)) (.t [.v 1,.v 2]))]) ρ σ (.b (s.fX a b k)) σ:=by
  unfold SH.fX
  cases hc:s.Vt a b with
  |none=>rw[hc]at ni;exact Dm ni
  |some c0=>
   rw[hc]at ni
   refine rq ni (tO (aY (af rfl) (uF S rfl (kG rfl rfl) hc) ?_ trivial))
   refine(?_:some (decide ((k:Int) < (c0:Int)))=some (decide (k < c0)))
   congr 1;exact decide_eq_decide.mpr Int.ofNat_lt
 unfold SH.gD
 cases he:s.fX a b k with
 |false=>rw[he]at cond;exact eX σ (cI (f:=AE) (fl:=.n) rfl rfl (Xp (bC cond aP))) S mL rfl
 |true=>
  rw[he]at cond
  obtain⟨ec,c1,cT⟩:=S.cs
  obtain⟨ew,w1,wT⟩:=S.Wr
  let ec':=eC ec [.inr (a:Int),.inr (b:Int)] (V.i k)
  let ew':=eC ew [.inr (a:Int),.inr (b:Int)] w.iK
  let σ1:=σ.set (W+1) (.t ec')
  let σ2:=σ1.set (W+2) (.t ew')
  let σ3:=σ2.set W (.a 4 (fZ (A.yA .aJ) W (some true)))
  have cT':TD (λn:Nat=>V.i n) ec' (gO s.Vt a b k):=cT.zM ha hb k λ_=>rfl
  have wT':TD ij.iK ew' (gO s.wf a b w):=wT.zM ha hb w (Vj w)
  have S1:SS A H m W ⟨gO s.Vt a b k,s.wf,s.V2⟩ σ1:=⟨⟨S.VV.eT,λz hz=>by have:=S.lt z hz;rw[aV (by exact CB this)];exact S.VV.aZ z hz⟩,S.VY,S.lt,(aV (qV rfl)).trans S.V3,(aC ec' (cS c1) cT'),(aC ew ((aV (nM rfl)).trans w1) wT)⟩
  have S2:SS A H m W ⟨gO s.Vt a b k,gO s.wf a b w,s.V2⟩ σ2:=⟨⟨S1.VV.eT,λz hz=>by have:=S.lt z hz;rw[aV (by exact CB this)];exact S1.VV.aZ z hz⟩,S.VY,S.lt,(aV (qV rfl)).trans S1.V3,(aC ec' ((aV (nM rfl)).trans (cS c1)) cT'),(aC ew' (cS (S1.Wr.elim λ_ q=>(aV (nM rfl)).trans w1)) wT')⟩
  have S3:SS A H m W (s.oJ a b k w) σ3:=⟨⟨S2.VV.eT,λz hz=>by have:=S.lt z hz;rw[aV (by exact mD this)];exact S2.VV.aZ z hz⟩,S.VY,S.lt,cS S2.V3,(aC ec' ((aV (yb rfl)).trans ((aV (nM rfl)).trans (cS c1))) cT'),S2.Wr.elim λe q=>(aC e ((aV (yb rfl)).trans q.1) q.2)⟩
  have fl4:(fZ (A.yA .aJ) W s.V2).length<=100:=by unfold fZ;cases s.V2;exact(show 3<=100 by decide);exact(show 4<=100 by decide)
  have fse:gZ (fZ (A.yA .aJ) W s.V2) 49 (.b true)=fZ (A.yA .aJ) W (some true):=by unfold fZ;cases s.V2<;>rfl
  have st3:ai d 11 (.a (.a 49 (.v 0)) (.c (.b true))) ρ σ2 .n ρ σ3:=by
   have h:=vC (d:=d) (n:=10) (ρ:=ρ) (nm:=49) rfl rfl (aq (v:=.b true)) S2.V3 fl4
   rw[fse]at h;exact h
  refine eX σ3 (cI (f:=AE) (fl:=.n) rfl rfl (Xp (cX cond (ao (bh (af rfl) (kX (jW S rfl rfl rfl) (kG rfl rfl) (mB c1 (by intro _ h;cases h) cT.zL (Ai a b)))) (ao (bh (af rfl) (kX (jW S1 rfl rfl rfl) (kG rfl rfl) (mB ((aV (nM rfl)).trans w1) (by intro _ h;cases h) wT.zL (Ai a b)))) (Xp st3)))))) S3 (((tQ JG).jm (tQ (by lia))).jm (tQ (by lia))) ?_
  rw[XN,XN,XN]
theorem AW(d:Nat){nn:Nat}(hq:W+2 < q)(hqN:q < N)(K:aA->Prop)(hK:∀ρ z,K ρ->K (au ρ v0 (.i z)))(one:∀(z:Nat) (s:SH) (ρ:aA) (σ:aj),z∈l0->SS A H m W s σ->σ[q]? =some (.l (av l0))->N<=σ.length->K ρ->ρ v0=some (.i z)->∃ρ' τ,ae d nn bd ρ σ .n ρ' τ/\SS A H m W (step s z) τ/\cz N W σ τ/\K ρ'):
  ∀(l:List Nat) (s:SH) (ρ:aA) (σ:aj),(∀z∈l,z∈l0)->SS A H m W s σ->σ[q]? =some (.l (av l0))->N<=σ.length->K ρ->∃ρ' τ,bF d nn (.v v0) bd (.cr q (av l0)) (av l) ρ σ .n ρ' τ/\SS A H m W (l.foldl step s) τ/\cz N W σ τ/\K ρ':=by
 intro l
 induction l with
 |nil=>intro s ρ σ _ S h1 _ k;exact di ρ σ fG S mL k
 |cons z l ih=>
  intro s ρ σ hl S h1 hN k
  refine dk (one z s (au ρ v0 (.i z)) σ (hl z (XH ..)) S h1 hN (hK ρ z k) (bw _ _ _)) λρ1 σ1 b1 S1 F1 k1=>?_
  have h2:σ1[q]? =some (.l (av l0)):=(F1.Wa q hqN (pq hq) (nN hq rfl) (mD hq)).trans h1
  refine dk (ih (step s z) ρ1 σ1 (λu hu=>hl u (XI _ hu)) S1 h2 (Xs hN F1.Wv) k1) λρ2 τ b2 S2 F2 k2=>?_
  exact di ρ2 τ (fc (S:=.cr q (av l0)) rfl b1 h2 b2) S2 (F1.jm F2) k2
theorem J8(S:SS A H m W s σ)(S':SS A H m W s' τ)(F:cz σ.length W σ τ):∃τ',SS A H m W s' τ'/\cz σ.length W σ τ'/\τ'.length=σ.length/\nY σ τ τ' .n:=by
 have tk:∀i,i < σ.length->(τ.take σ.length)[i]? =τ[i]?:=λi hi=>by rw[List.getElem?_take,Xz hi]
 have ln:(τ.take σ.length).length=σ.length:=by rw[List.length_take];exact Nat.min_eq_left F.Wv
 have sl:=S.rX
 refine⟨τ.take σ.length,S'.mv λi hi=>tk i (qT hi sl),⟨λi hi h1 h2 h3=>(tk i hi).trans (F.Wa i hi h1 h2 h3),Yd ln.symm⟩,ln,List.take_prefix _ _,Yd ln.symm,rfl,λi o ho=>?_⟩
 have hi:i < σ.length:=by have:=e8 ho;rw[ln]at this;exact this
 rw[tk i hi]at ho
 rw[ln]
 have all:∀{es:List (List KV×V)},(∀e∈es,∀m,e.2.lo m=true)->(O.t es).lo σ.length=true:=λ{es} h=>by
  refine(?_:V.loAll _ (es.map (·.2))=true)
  induction es with
  |nil=>rfl
  |cons e es ih=>refine(?_:(V.lo _ e.2&&V.loAll _ _)=true);rw[h e (XH ..),ih λz hz=>h z (XI _ hz)];rfl
 by_cases h1:i=W
 ·rw[h1,S'.V3]at ho;cases ho
  have:=S.lt .aJ trivial
  refine .inr ?_
  refine(?_:V.loAll _ ((fZ (A.yA .aJ) W s'.V2).map (·.2))=true)
  unfold fZ
  cases s'.V2<;>(simp[jU,iJ,zW,EU,NY];exact qGc this sl)
 ·by_cases h2:i=W+1
  ·obtain⟨es,e1,T⟩:=S'.cs
   rw[h2,e1]at ho;cases ho
   exact .inr (all T.lo)
  ·by_cases h3:i=W+2
   ·obtain⟨es,e1,T⟩:=S'.Wr
    rw[h3,e1]at ho;cases ho
    exact .inr (all T.lo)
   ·rw[F.Wa i hi h1 h2 h3]at ho;exact .inl ho
noncomputable def xV:List St:=match AD.dZ with | [.l _ _ [.l _ _ [.l _ _ b]]]=>b |_=>[]
theorem RY(d:Nat){mm:Nat}(S:SS A H m W s σ)(ha:a < 6)(hb:b < 6)(h0:ρ 0=some (.o 4 W))(h2:ρ 2=some (.i mm))(h3:ρ 3=some (.i a))(h4:ρ 4=some (.i b)):∃ρ' τ,ae (d+1) 9 xV ρ σ .n ρ' τ/\SS A H m W (s.mW mm a b) τ/\cz σ.length W σ τ/\∀j,j≠5->ρ' j=ρ j:=by
 have i1:Ev (d+1) 29 (.p .i (.t [.v 3,.v 2]) (.a 46 (.v 0))) ρ σ (.b (s.Vt a mm).isSome) σ:=F7 S h0 (kG h3 h2)
 have i2:Ev (d+1) 29 (.p .i (.t [.v 2,.v 4]) (.a 46 (.v 0))) ρ σ (.b (s.Vt mm b).isSome) σ:=F7 S h0 (kG h2 h4)
 unfold SH.mW
 cases c1:s.Vt a mm with
 |none=>rw[c1]at i1;exact di ρ σ (Xp (bC (lL i1) aP)) S mL (λ_ _=>rfl)
 |some k1=>
  rw[c1]at i1
  cases c2:s.Vt mm b with
  |none=>rw[c2]at i2;exact di ρ σ (Xp (bC (j9 i1 i2) aP)) S mL (λ_ _=>rfl)
  |some k2=>
   rw[c2]at i2
   refine hX (yg d S ha hb (k1+k2) (.oP mm)) λτ h S' F _=>?_
   exact di (au ρ 5 (.i ((k1+k2:Nat):Int))) τ (Xp (cX (j9 i1 i2) (ao (bh (bX (uF S h0 (kG h3 h2) c1) (uF S h0 (kG h2 h4) c2) iy) bc) (Xp (dv (bQ (af (i:=0) h0) S.V3 rfl (ac.ah (af (i:=3) h3) (ac.ah (af (i:=4) h4) (ac.ah (af rfl) (Xo (bI (ac.ah aq (Xo (af (i:=2) h2)))))))) h)))))) S' F (λj hj=>bR _ _ hj)
theorem cz.le(h:cz M W σ τ)(hn:N<=M):cz N W σ τ:=⟨λi hi=>h.Wa i (XJ hi hn),h.Wv⟩
theorem TH(d:Nat)(S:SS A H m W s σ)(h6:∀z∈lot,z < 6)(hl:lot.length<=300)(hq:W+2 < q)(hs:σ[q]? =some (.l (av lot))):∃τ,aL (d+2) 40 [.o 4 W,.r q] σ .n τ/\SS A H m W (s.ue lot) τ/\cz σ.length W σ τ/\τ.length=σ.length:=by
 have ok:aD (av lot):=bq (by rw[Xr];exact hl)
 have qN:=e8 hs
 refine dk (AW (d+1) (nn:=11) (v0:=2) (bd:=[.l (.v 3) (.e (.v 1)) [.l (.v 4) (.e (.v 1)) xV]]) (step:=λs mm=>lot.foldl (λs a=>lot.foldl (λs b=>s.mW mm a b) s) s) (l0:=lot) (N:=σ.length) hq qN (λρ=>ρ 0=some (.o 4 W)/\ρ 1=some (.r q)) (λρ z k=>k)
  (λmm s ρ σ1 hm S hs hN k hv=>by
   refine i8 (AW (d+1) (nn:=10) (v0:=3) (bd:=[.l (.v 4) (.e (.v 1)) xV]) (step:=λs a=>lot.foldl (λs b=>s.mW mm a b) s) (l0:=lot) (N:=σ.length) hq qN (λρ=>(ρ 0=some (.o 4 W)/\ρ 1=some (.r q))/\ρ 2=some (.i mm)) (λρ z k=>k)
    (λa s ρ σ1 ha S hs hN k hv=>by
     refine i8 (AW (d+1) (nn:=9) (v0:=4) (bd:=xV) (step:=λs b=>s.mW mm a b) (l0:=lot) (N:=σ.length) hq qN (λρ=>((ρ 0=some (.o 4 W)/\ρ 1=some (.r q))/\ρ 2=some (.i mm))/\ρ 3=some (.i a)) (λρ z k=>k)
      (λb s ρ σ1 hb S hs hN k hv=>by
       refine dk (RY d S (h6 a ha) (h6 b hb) k.1.1.1 k.1.2 k.2 hv) λρ' τ h1 h2 h3 h4=>?_
       exact iu ρ' τ h1 h2 (h3.le hN) (⟨⟨(h4 0 (by decide)).trans k.1.1.1,(h4 1 (by decide)).trans k.1.1.2⟩,(h4 2 (by decide)).trans k.1.2⟩) ((h4 3 (by decide)).trans k.2)) lot s ρ σ1 (λ_ h=>h) S hs hN ⟨k,hv⟩) λρ' τ b S' F k' h2=>?_
     exact di ρ' τ (Xp (fg (S:=.cr q (av lot)) (fe (af k.1.2) hs ok) b)) S' F k') lot s ρ σ1 (λ_ h=>h) S hs hN ⟨k,hv⟩) λρ' τ b S' F k' h2=>?_
   exact di ρ' τ (Xp (fg (S:=.cr q (av lot)) (fe (af k.2) hs ok) b)) S' F k') lot s (bf [.o 4 W,.r q]) σ (λ_ h=>h) S hs (Xx _) ⟨rfl,rfl⟩) λρ' τ b S' F _=>?_
 refine hX (J8 S S' F) λτ' S2 F2 n2 D=>?_
 exact eX τ' (aL.lj (f:=AD) (fl:=.n) rfl rfl (Xp (fg (S:=.cr q (av lot)) (fe (af rfl) hs ok) b)) D) S2 F2 n2
end
section
variable {d n a b i j k m q l c:Nat}{u v w:V}{o:O}{e:Ex}{r:Rs}{s:SH}
theorem Hi(f g:α->V)(p:α->Bool)(ha:a0 < σ.length):∀(L:List α),(∀z∈L,∀o,∃ρ',fM 4 tg (f z) ρ=some ρ'/\ej d n ifs ρ' (σ.set a0 o) (p z) (σ.set a0 o)/\(p z=true->Ev d n elt ρ' (σ.set a0 o) (g z) (σ.set a0 o)))->
  ∀(acc:List V) (o:O),acc.length+L.length<=300->cW d n elt tg ifs [] ρ (.it a0 ys) (L.map f) (σ.set a0 o) acc (acc++(L.filter p).map g) (σ.set a0 .u):=by
 have ss:∀o o',(σ.set a0 o).set a0 o'=σ.set a0 o':=λo o'=>Yr ..
 intro L
 induction L with
 |nil=>
  intro _ acc o _
  have h:=cW.mR (d:=d) (n:=n) (elt:=elt) (tg:=tg) (ifs:=ifs) (gs:=[]) (ρ:=ρ) (S:=.it a0 ys) (σ:=σ.set a0 o) (acc:=acc)
  have e:(eM.it a0 ys).iG Option.none (σ.set a0 o)=σ.set a0 .u:=ss _ _
  rw[e]at h
  rw[show acc++List.map g (List.filter p [])=acc from Yi _];exact h
 |cons z L ih=>
  intro h acc o hl
  rw[Xy]at hl
  refine c8 (h z (XH ..) (.i (L.map f))) λρ' h1 h2 h3=>?_
  have e:(eM.it a0 ys).iG (some (L.map f)) (σ.set a0 o)=σ.set a0 (.i (L.map f)):=ss _ _
  have hG:(eM.it a0 ys).Wf (L.map f) (σ.set a0 (.i (L.map f))):=Zz ha
  have ih:=ih (λu hu=>h u (XI _ hu))
  cases hp:p z with
  |true=>
   rw[hp]at h2
   have q:=ih (acc++[g z]) (.i (L.map f)) (by rw[Xv];refine(?_:acc.length+1+_<=_);exact gj hl)
   rw[XU]at q
   rw[List.filter_cons_of_pos hp]
   exact cW.Wy (S:=.it a0 ys) h1 (by rw[e];exact h2) (jE.pK (h3 hp) (bq (bT hl))) hG q
  |false=>
   rw[hp]at h2
   rw[List.filter_cons_of_neg (by rw[hp];exact YE)]
   exact cW.WT (S:=.it a0 ys) h1 (by rw[e];exact h2) hG (ih acc (.i (L.map f)) (bT (vt hl)))
noncomputable def pv(z:Nat×Nat):V:=.t [.i z.1,.i z.2]
theorem Gf(g:Nat×Nat->V)(p:Nat×Nat->Bool)(S:SS A H m W s σ)(h4:ρ 4=some (.t (av (aN a))))(h5:ρ 5=some (.t (av (aN b))))(h:∀z∈kz a b,∀σ',SS A H m W s σ'->ej d (n+4) ifs (au ρ v0 (pv z)) σ' (p z) σ'/\(p z=true->Ev d (n+4) elt (au ρ v0 (pv z)) σ' (g z) σ')):
  Ev d (n+5) (.o elt [.m (.v v0) (.e (.b .z [.v 4,.v 5])) ifs]) ρ σ (.r (σ.length+4)) (σ++[.u,.u,.u,.u,.l (((kz a b).filter p).map g)]):=by
 let σz:aj:=σ++[.i ((kz a b).map pv),.u,.u,.u]
 have l2:(kz a b).length<=2:=by refine(?_:((aN a).zip (aN b)).length<=2);rw[List.length_zip];exact Xs (Zw _ _) (g9 a)
 have ez:(((av (aN a)).zip (av (aN b))).map λp:V×V=>V.t [p.1,p.2])=(kz a b).map pv:=by rw[List.zip_map,XV];rfl
 have lz:σ.length < σz.length:=by rw[Xv];exact Nat.lt_add_of_pos_right (show 0 < 4 by decide)
 have gz:σz[σ.length]? =some (.i ((kz a b).map pv)):=lC _ _
 have hit:=Hi (d:=d) (n:=n+4) (elt:=elt) (tg:=.v v0) (ifs:=ifs) (ρ:=ρ) (σ:=σz) (a0:=σ.length) (ys:=(kz a b).map pv) pv g p lz (kz a b) (λz hz o=>aC _ rfl (h z hz _ ((S.mX _).mv λi hi=>aV (by have:=S.rX;exact nO hi this)))) [] (.i ((kz a b).map pv)) (by rw[XY];exact qU l2 rfl)
 rw[qX gz,X0]at hit
 have e1:σz.set σ.length .u=σ++[.u,.u,.u,.u]:=uy _ _ _
 have zp:Ev d (n+4) (.b .z [.v 4,.v 5]) ρ σ (.r σ.length) σz:=by
  have q:=ci rfl (d:=d) (n:=n+3) (ρ:=ρ) (ac.ah (af h4) (Xo (af h5))) (Cr (σ:=σ))
  rw[ez]at q;exact q
 have q:=dU (zo zp gz (bq (by rw[Xr];exact bP l2 rfl))) hit
 rw[e1]at q
 have e2:(σ++[O.u,.u,.u,.u]).length=σ.length+4:=Xv
 rw[e2,XU]at q;exact q
theorem uP(f:α->Nat)(L:List α):jz (L.map λz=>V.i (f z))=some (L.map λz=>((f z:Nat):Int)):=by
 induction L with
 |nil=>rfl
 |cons z L ih=>refine(?_:Option.map _ (jz _)=_);rw[ih];rfl
theorem Kp(f:α->Nat)(L:List α):(L.map λz=>((f z:Nat):Int)).sum=((L.map f).sum:Nat):=by
 induction L with
 |nil=>rfl
 |cons z L ih=>rw[XD,Yq,ih,XD,Yq];rfl
noncomputable def BF:List St:=match AC.dZ with | [.l _ _ [.l _ _ b]]=>b |_=>[]
theorem PM(d:Nat)(S:SS A H m W s σ)(ha:a < H.KM)(hb:b < H.KM)(h0:ρ 0=some (.o 4 W))(h2:ρ 2=some (.i a))(h3:ρ 3=some (.i b))(h4:ρ 4=some (.t (av (aN a))))(h5:ρ 5=some (.t (av (aN b)))):
  Ev (d+1) 30 (.n [.p .n (.v 2) (.v 3),.p .e (.m 16 (.a 21 (.a 39 (.v 0))) [.v 2]) (.m 16 (.a 21 (.a 39 (.v 0))) [.v 3]),.p .e (.b .l [.v 4]) (.b .l [.v 5])]) ρ σ (.b (qE a b)) σ:=by
 have op:∀{i z n:Nat},ρ i=some (.i z)->z < H.KM->Ev (d+1) (n+5) (.m 16 (.a 21 (.a 39 (.v 0))) [.v i]) ρ σ (.s (bv z)) σ:=λ{i z n} hi hz=>
  bQ (dw (jW S h0 rfl rfl) rfl (dy S.VV) rfl) S.VV.gU rfl (Xo (af hi)) (vy d S.VV S.VY.VU hz)
 have ln:∀{i z n:Nat},ρ i=some (.t (av (aN z)))->Ev (d+1) (n+2) (.b .l [.v i]) ρ σ (.i ((aN z).length:Nat)) σ:=λ{i z n} hi=>by
  have h:=ci rfl (d:=d+1) (n:=n+1) (ρ:=ρ) (Xo (af hi)) (x0 (σ:=σ) (bq (by rw[Xr];exact Xs (g9 z) (by decide))))
  rwa [Xr]at h
 have e1:Ev (d+1) 29 (.p .n (.v 2) (.v 3)) ρ σ (.b (decide (a≠b))) σ:=aY (af h2) (af h3) (by rw[mr,decide_not]) (Xw _)
 have e2:Ev (d+1) 29 (.p .e (.m 16 (.a 21 (.a 39 (.v 0))) [.v 2]) (.m 16 (.a 21 (.a 39 (.v 0))) [.v 3])) ρ σ (.b (decide (bv a=bv b))) σ:=aY (op h2 ha) (op h3 hb) vE (Xw _)
 have e3:Ev (d+1) 29 (.p .e (.b .l [.v 4]) (.b .l [.v 5])) ρ σ (.b (decide ((aN a).length=(aN b).length))) σ:=aY (ln h4) (ln h5) (sG _ _) (Xw _)
 unfold qE
 cases hn:decide (a≠b)with
 |false=>rw[hn]at e1;exact lL e1
 |true=>
  rw[hn]at e1
  refine Ev.rp e1 ?_
  cases ho:decide (bv a=bv b)with
  |false=>rw[ho]at e2;exact lL e2
  |true=>rw[ho]at e2;exact j9 e2 e3
theorem Q0(d:Nat)(I:∀x y z,s.Vt x y=some z->z<=68719476736)(S:SS A H m W s σ)(ha:a < H.KM)(hb:b < H.KM)(h0:ρ 0=some (.o 4 W))(h2:ρ 2=some (.i a))(h3:ρ 3=some (.i b)):∃ρ' τ,ae (d+1) 10 BF ρ σ .n ρ' τ/\SS A H m W (s.oI a b) τ/\cz σ.length W σ τ/\∀j,j≠4->j≠5->ρ' j=ρ j:=by
 have a6:=XJ ha S.VY.VU.c6
 have b6:=XJ hb S.VY.VU.c6
 let ρ1:=au (au ρ 4 (.t (av (aN a)))) 5 (.t (av (aN b)))
 have kid:∀{i z n:Nat},ρ i=some (.i z)->z < H.KM->Ev (d+1) (n+5) (.m 15 (.a 21 (.a 39 (.v 0))) [.v i]) ρ σ (.t (av (aN z))) σ:=λ{i z n} hi hz=>
  bQ (dw (jW S h0 rfl rfl) rfl (dy S.VV) rfl) S.VV.gU rfl (Xo (af hi)) (tj d S.VV S.VY.VU hz)
 have st:ai (d+1) 10 (.a (.t [.v 4,.v 5]) (.t [.m 15 (.a 21 (.a 39 (.v 0))) [.v 2],.m 15 (.a 21 (.a 39 (.v 0))) [.v 3]])) ρ σ .n ρ1 σ:=bh (bI (ac.ah (kid h2 ha) (Xo (kid h3 hb)))) (gR rfl rfl (da bc (da bc gS)))
 have fin:∀j,j≠4->j≠5->ρ1 j=ρ j:=λj h4 h5=>(bR _ _ h5).trans (bR _ _ h4)
 have cnd:=PM d S ha hb (ρ:=ρ1) h0 h2 h3 rfl rfl
 unfold SH.oI
 cases hc:qE a b with
 |false=>rw[hc]at cnd;exact di ρ1 σ (ao st (Xp (bC cnd aP))) S mL fin
 |true=>
  rw[hc]at cnd
  let p:Nat×Nat->Bool:=λz=>!(s.Vt z.1 z.2).isSome
  let g1:aj:=[.u,.u,.u,.u,.l (((kz a b).filter p).map pv)]
  have ec:Ev (d+1) 29 (.o (.v 6) [.m (.v 6) (.e (.b .z [.v 4,.v 5])) [.p .o (.v 6) (.a 46 (.v 0))]]) ρ1 σ (.r (σ.length+4)) (σ++g1):=
   Gf (n:=24) pv p S rfl rfl λz hz σ' S'=>⟨wm (Av S' (ρ:=au ρ1 6 (pv z)) h0 (af (bw _ _ _))),λ_=>af (bw _ _ _)⟩
  let σ1:aj:=σ++g1
  let σ2:aj:=σ1++[.l []]
  have gl:σ2[σ.length+4]? =some (.l (((kz a b).filter p).map pv)):=bO _ _ (kB σ g1 4)
  have ev:Ev (d+1) 30 (.p .e (.o (.v 6) [.m (.v 6) (.e (.b .z [.v 4,.v 5])) [.p .o (.v 6) (.a 46 (.v 0))]]) (.d [])) ρ1 σ (.b ((kz a b).all λz=>(s.Vt z.1 z.2).isSome)) σ2:=by
   refine aY ec (du ac.an) ?_ (Xw _)
   rw[As gl aX]
   refine(?_:some ((((kz a b).filter p).map pv).isEmpty)=_)
   congr 1
   rw[List.isEmpty_map]
   generalize kz a b=L
   induction L with
   |nil=>rfl
   |cons z L ih=>
    rw[YU,List.filter_cons]
    refine(?_:(if p z=true then z::List.filter p L else List.filter p L).isEmpty=_)
    cases hz:(s.Vt z.1 z.2).isSome with
    |true=>rw[XC (by refine(?_:¬(!(s.Vt z.1 z.2).isSome)=true);rw[hz];decide),ih];rfl
    |false=>rw[Xz (by refine(?_:(!(s.Vt z.1 z.2).isSome)=true);rw[hz];rfl)];rfl
  have S2:SS A H m W s σ2:=(S.mX g1).mX _
  have F2:cz σ.length W σ σ2:=(yU (Xx _) g1).jm (yU (by rw[Xv];exact XS ..) _)
  rw[Bool.true_and]
  cases hk:(kz a b).all λz=>(s.Vt z.1 z.2).isSome with
  |false=>rw[hk]at ev;exact di ρ1 σ2 (ao st (Xp (cX cnd (Xp (bC ev aP))))) S2 F2 fin
  |true=>
   rw[hk]at ev
   have hs:∀z∈kz a b,s.Vt z.1 z.2=some ((s.Vt z.1 z.2).getD 0):=λz hz=>by
    refine aT (Option.isSome_iff_exists.mp (YM hk z hz)) λy hy=>?_;rw[hy];rfl
   let g3:aj:=[.u,.u,.u,.u,.l ((kz a b).map λz=>.i ((s.Vt z.1 z.2).getD 0:Nat))]
   have e3:Ev (d+1) 28 (.o (.s (.a 46 (.v 0)) (.v 7)) [.m (.v 7) (.e (.b .z [.v 4,.v 5])) []]) ρ1 σ2 (.r (σ2.length+4)) (σ2++g3):=by
    have q:=Gf (d:=d+1) (n:=23) (v0:=7) (ifs:=[]) (elt:=.s (.a 46 (.v 0)) (.v 7)) (ρ:=ρ1) (a:=a) (b:=b) (λz=>.i ((s.Vt z.1 z.2).getD 0:Nat)) (λ_=>true) S2 rfl rfl λz hz σ' S'=>⟨ej.oq,λ_=>uF S' (ρ:=au ρ1 7 (pv z)) h0 (af (bw _ _ _)) (hs z hz)⟩
    rw[List.filter_eq_self.mpr λ_ _=>rfl]at q;exact q
   have sm:Ev (d+1) 29 (.b .s [.o (.s (.a 46 (.v 0)) (.v 7)) [.m (.v 7) (.e (.b .z [.v 4,.v 5])) []]]) ρ1 σ2 (.i (jZ s.Vt a b:Nat)) (σ2++g3):=by
    have q:=ci rfl (d:=d+1) (n:=28) (ρ:=ρ1) (Xo e3) (x3 (kB σ2 g3 4) (uP (λz:Nat×Nat=>(s.Vt z.1 z.2).getD 0) (kz a b)) (bq (by rw[Xr];refine(?_:((aN a).zip (aN b)).length<=300);rw[List.length_zip];exact Xs (Zw _ _) (Xs (g9 a) (by decide)))) λi hi=>by
     refine az (Yf hi) λz hz q2=>?_;subst q2
     have:=I _ _ _ (hs z hz)
     unfold bY;lia)
    rw[Kp]at q;exact q
   refine hX (yg d (S2.mX g3) a6 b6 (jZ s.Vt a b) .mY) λτ h S3 F3 _=>?_
   refine di ρ1 τ (ao st (Xp (cX cnd (Xp (cX ev (Xp (dv (bQ (af (i:=0) h0) S2.V3 rfl (ac.ah (af (i:=2) h2) (ac.ah (af (i:=3) h3) (ac.ah sm (Xo (bI (Xo aq)))))) h)))))))) S3 ?_ fin
   exact(F2.jm (yU (by have:=F2.Wv;exact this) g3)).jm (F3.le (by have:=F2.Wv;rw[Xv];exact d5 this))
theorem GL(d:Nat){nn:Nat}(hq:W+2 < q)(hqN:q < N)(K:aA->Prop)(hK:∀ρ z,K ρ->K (au ρ v0 (.i z)))(one:∀(z:Nat) (s:SH) (ρ:aA) (σ:aj),z∈l0->SS A H m W s σ/\SI E H.KM s->σ[q]? =some (.l (av l0))->N<=σ.length->K ρ->ρ v0=some (.i z)->∃ρ' τ,ae d nn bd ρ σ .n ρ' τ/\(SS A H m W (step s z) τ/\SI E H.KM (step s z))/\cz N W σ τ/\K ρ'):
  ∀(l:List Nat) (s:SH) (ρ:aA) (σ:aj),(∀z∈l,z∈l0)->SS A H m W s σ/\SI E H.KM s->σ[q]? =some (.l (av l0))->N<=σ.length->K ρ->∃ρ' τ,bF d nn (.v v0) bd (.cr q (av l0)) (av l) ρ σ .n ρ' τ/\(SS A H m W (l.foldl step s) τ/\SI E H.KM (l.foldl step s))/\cz N W σ τ/\K ρ':=by
 intro l
 induction l with
 |nil=>intro s ρ σ _ S h1 _ k;exact di ρ σ fG S mL k
 |cons z l ih=>
  intro s ρ σ hl S h1 hN k
  refine dk (one z s (au ρ v0 (.i z)) σ (hl z (XH ..)) S h1 hN (hK ρ z k) (bw _ _ _)) λρ1 σ1 b1 S1 F1 k1=>?_
  have h2:σ1[q]? =some (.l (av l0)):=(F1.Wa q hqN (pq hq) (nN hq rfl) (mD hq)).trans h1
  refine dk (ih (step s z) ρ1 σ1 (λu hu=>hl u (XI _ hu)) S1 h2 (Xs hN F1.Wv) k1) λρ2 τ b2 S2 F2 k2=>?_
  exact di ρ2 τ (fc (S:=.cr q (av l0)) rfl b1 h2 b2) S2 (F1.jm F2) k2
theorem TA(d:Nat)(I:SI E H.KM s)(S:SS A H m W s σ)(h6:∀z∈lot,z < H.KM)(hl:lot.length<=300)(hq:W+2 < q)(hs:σ[q]? =some (.l (av lot))):∃τ,aL (d+2) 39 [.o 4 W,.r q] σ .n τ/\SS A H m W (s.qa lot) τ/\cz σ.length W σ τ/\τ.length=σ.length:=by
 have ok:aD (av lot):=bq (by rw[Xr];exact hl)
 have qN:=e8 hs
 obtain⟨ρ',τ,b,⟨S',I'⟩,F,_⟩:=GL (d+1) (nn:=11) (v0:=2) (bd:=[.l (.v 3) (.e (.v 1)) BF]) (step:=λs a=>lot.foldl (λs b=>s.oI a b) s) (l0:=lot) (N:=σ.length) (E:=E) hq qN (λρ=>ρ 0=some (.o 4 W)/\ρ 1=some (.r q)) (λρ z k=>k)
  (λa s ρ σ1 ha S hs hN k hv=>by
   refine i8 (GL (d+1) (nn:=10) (v0:=3) (bd:=BF) (step:=λs b=>s.oI a b) (l0:=lot) (N:=σ.length) (E:=E) hq qN (λρ=>(ρ 0=some (.o 4 W)/\ρ 1=some (.r q))/\ρ 2=some (.i a)) (λρ z k=>k)
    (λb s ρ σ1 hb S hs hN k hv=>by
     refine dk (Q0 d (λ_ _ _ h=>S.2.Nn h) S.1 (h6 a ha) (h6 b hb) k.1.1 k.2 hv) λρ' τ h1 h2 h3 h4=>?_
     exact iu ρ' τ h1 (⟨h2,(SR.ug (h6 a ha) (h6 b hb)).Wo S.2⟩) (h3.le hN) (⟨(h4 0 (by decide) (by decide)).trans k.1.1,(h4 1 (by decide) (by decide)).trans k.1.2⟩) ((h4 2 (by decide) (by decide)).trans k.2)) lot s ρ σ1 (λ_ h=>h) S hs hN ⟨k,hv⟩) λρ' τ b S' F k' h2=>?_
   exact di ρ' τ (Xp (fg (S:=.cr q (av lot)) (fe (af k.2) hs ok) b)) S' F k') lot s (bf [.o 4 W,.r q]) σ (λ_ h=>h) ⟨S,I⟩ hs (Xx _) ⟨rfl,rfl⟩
 refine hX (J8 S S' F) λτ' S2 F2 n2 D=>?_
 exact eX τ' (aL.lj (f:=AC) (fl:=.n) rfl rfl (Xp (fg (S:=.cr q (av lot)) (fe (af rfl) hs ok) b)) D) S2 F2 n2
end
section
variable {d n a b i j k m q l c:Nat}{u v w:V}{o:O}{e:Ex}{r:Rs}{s:SH}
theorem To(d:Nat)(R:HR A H σ)(I:HI H):aL (d+1) 4 [.o 0 (A.yA .dW)] σ (.i H.KM) σ:=by
 have h:=ci rfl (d:=d) (n:=29) (ρ:=bf [.o 0 (A.yA .dW)]) (Xo (dw (m:=10) (af (n:=27) (i:=0) rfl) rfl R.gU rfl)) (fC (R.aZ .eL trivial) (bq (by rw[Xr,XW,I.cb];exact Xs I.c6 (by decide))))
 rw[Xr,XW,I.cb]at h
 exact cI (f:=Gl) (fl:=.r _) rfl rfl (be (bM h))
theorem JR(d:Nat)(R:HR A H σ)(I:HI H):aL (d+2) 18 [.o 2 (A.yA .aJ)] σ (.i H.KM) σ:=
 cI (f:=Gv) (fl:=.r _) rfl rfl (be (bM (bQ (eH R rfl rfl rfl) R.gU rfl ac.an (To d R I))))
theorem vB(c:Nat):df 0 (c:Nat) 1=av (List.range c):=by
 unfold df
 have:(((c:Int) - 0+1 - 1) / 1).toNat=c:=by lia
 rw[this]
 exact Y0 λk _=>by rw[Int.zero_add,Int.one_mul]
noncomputable def kR(H:HS):List Nat:=(List.range H.KM).filter λx=>decide (H.ua x=x)
theorem TW(d:Nat)(R:HR A H σ)(I:HI H):aL (d+1) 16 [.o 1 (A.yA .un)] σ (.r σ.length) (σ++[.l (av (kR H))]):=by
 have hc:=I.c6
 have at_:∀(ρ:aA) (n:Nat),ρ 0=some (.o 1 (A.yA .un))->Ev d (n+2) (.a 17 (.v 0)) ρ σ (.r (A.yA .c7)) σ:=λρ n h0=>dw (af h0) rfl (R.aZ .un trivial) rfl
 have ln:=ci rfl (d:=d) (n:=28) (ρ:=bf [.o 1 (A.yA .un)]) (Xo (at_ _ _ rfl)) (fC (R.aZ .c7 trivial) (bq (by rw[Xr,XW];exact bP hc rfl)))
 rw[Xr,XW]at ln
 have hit:=Hj (d:=d) (n:=29) (elt:=.v 1) (tg:=.v 1) (ifs:=[.p .e (.s (.a 17 (.v 0)) (.v 1)) (.v 1)]) (ρ:=bf [.o 1 (A.yA .un)]) (σ:=σ) (S:=.bx (df 0 (H.KM:Nat) 1)) (ys:=[]) (λ_ _=>rfl) id (λv=>match v with | .i z=>decide (H.ua z.toNat=z.toNat) |_=>false) (av (List.range H.KM)) [] (λz hz=>by
  refine az (Yf hz) λk hk q2=>?_;subst q2
  have hk:k < H.KM:=YB hk
  refine dK _ rfl (wm (aY (vN R I hk rfl (bw _ _ _)) (af (bw _ _ _)) ?_ (Xw _))) (λ_=>af (bw _ _ _))
  rw[sG];rfl) (λ_=>trivial) (bq (by rw[X0,Xr,XW];exact bP hc rfl))
 rw[X0,<-vB]at hit
 have er:((df 0 (H.KM:Nat) 1).filter λv=>match v with | .i z=>decide (H.ua z.toNat=z.toNat) |_=>false).map id=av (kR H):=by
  rw[List.map_id,vB,List.filter_map];rfl
 rw[er]at hit
 exact cI (f:=Gx) (fl:=.r _) rfl rfl (be (bM (dU (pR ln (by unfold aK;lia) (by unfold bY;exact vx)) hit)))
theorem Tq(d:Nat)(R:HR A H σ)(I:HI H):aL (d+2) 28 [.o 2 (A.yA .aJ)] σ (.r σ.length) (σ++[.l (av (kR H))]):=
 cI (f:=Gn) (fl:=.r _) rfl rfl (be (bM (bQ (eH R rfl rfl rfl) (R.aZ .un trivial) rfl ac.an (TW d R I))))
theorem Qh(x:Nat)(l:List Nat):∃l':List Nat,nj (x:Int) (l.map λk:Nat=>(k:Int))=l'.map (λk:Nat=>(k:Int))/\(∀z,z∈l'↔z=x∨z∈l)/\l'.length=l.length+1:=by
 induction l with
 |nil=>exact dK ([x]) rfl (λz=>by simp) rfl
 |cons y l ih=>
  rw[XD,xy]
  split
  ·exact dK (x::y::l) rfl (λz=>Yt) rfl
  ·refine c8 ih ?_;clear ih;intro l' h1 h2 h3
   exact dK (y::l') (by rw[h1];rfl) (λz=>by rw[Yt,h2,Yt];exact⟨λh=>h.elim (λh=>.inr (.inl h)) λh=>h.imp id .inr,λh=>h.elim (λh=>.inr (.inl h)) λh=>h.imp id .inr⟩) (by rw[Xy,h3];rfl)
theorem Uv(l:List Nat):∃l':List Nat,iP (l.map λk:Nat=>(k:Int))=l'.map (λk:Nat=>(k:Int))/\(∀z,z∈l'↔z∈l)/\l'.length=l.length:=by
 induction l with
 |nil=>exact dK ([]) rfl (λz=>Iff.rfl) rfl
 |cons y l ih=>
  refine c8 ih ?_;clear ih;intro l' h1 h2 h3
  refine c8 (Qh y l') λl2 g1 g2 g3=>?_
  exact dK l2 (by rw[XD,Uu,h1,g1]) (λz=>by rw[g2,h2,Yt]) (by rw[g3,h3];rfl)
theorem TE(d:Nat)(R:HR A H σ)(G:HG H m)(hx:x < H.KM)(hr:H.rt x=x):∃lot,aL (d+3) 29 [.o 2 (A.yA .aJ),.i x] σ (.r σ.length) (σ++[.l (av lot)])/\(∀z,z∈lot↔z∈H.cV x)/\lot.length<=32:=by
 have I:=G.VU
 refine c8 (Uv (H.cV x)) λlot h1 h2 h3=>?_
 have l32:(H.cV x).length<=32:=by have:=G.lo x hx;have:=G.bt;lia
 have so:=Cq (σ:=σ) (R.aZ (.cY x) hx) (uP (λk=>k) (H.cV x)) (by rw[Xr];exact vm (bP l32 rfl))
 rw[h1]at so
 have e:(lot.map λk:Nat=>(k:Int)).map V.i=av lot:=by rw[XV];rfl
 rw[e]at so
 have uf:=tq d R I hx
 rw[hr]at uf
 have hm:aL (d+2) 15 [.o 1 (A.yA .un),.i x] σ (.r σ.length) (σ++[.l (av lot)]):=
  cI (f:=GB) (fl:=.r _) rfl rfl (be (bM (ci rfl (Xo (bi (dw (af rfl) rfl (R.aZ .un trivial) rfl) (bQ (af rfl) (R.aZ .un trivial) rfl (Xo (af rfl)) uf) (dL (R.aZ .fj trivial) (gG (I.oj hx)) (yi hx (gG (I.oj hx)))))) so)))
 exact dK lot (cI (f:=Gq) (fl:=.r _) rfl rfl (be (bM (bQ (eH R rfl rfl rfl) (R.aZ .un trivial) rfl (Xo (af rfl)) hm)))) h2 (qT (te h3) l32)
structure mS(N:Nat)(c:Nat)(PL:List (Nat×List Nat))(σ:aj):Prop where
 pQ:∀p∈PL,σ[p.1]? =some (.l (av p.2))
 lo:∀p∈PL,N<=p.1
 ln:∀p∈PL,p.2.length<=32
 lc:∀p∈PL,∀z∈p.2,z < c
theorem Q7(d:Nat){qc:Nat}(G:HG H m)(hN:∀z,H.ok z->A.yA z < N){h0:ρ 1=some (.o 2 (A.yA .aJ))}:∀(l:List Nat) (PL:List (Nat×List Nat)) (σ:aj),(∀z∈l,z∈kR H)->HR A H σ->N<=σ.length->σ[qc]? =some (.l (av (kR H)))->mS N H.KM PL σ->PL.length+l.length<=20->
  ∃(PL':List (Nat×List Nat)) (g:aj),cW (d+3) 29 (.m 37 (.v 1) [.v 9]) (.v 9) [] [] ρ (.cr qc (av (kR H))) (av l) σ (PL.map λp=>V.r p.1) (PL'.map λp=>V.r p.1) (σ++g)/\mS N H.KM PL' (σ++g)/\(∀p∈PL,p∈PL')/\(∀z∈l,∃p∈PL',∀u,u∈p.2↔u∈H.cV z)/\PL'.length<=20:=by
 intro l
 induction l with
 |nil=>intro PL σ _ R _ _ Lt hn;exact iu PL ([]) (by rw[Yi];exact cW.mR) (by rw[Yi];exact Lt) (λ_ h=>h) (λ_ h=>(nomatch h)) hn
 |cons z l ih=>
  intro PL σ hl R hs hq Lt hn
  rw[Xy]at hn
  have hz:=Zl (hl z (XH ..))
  have zc:z < H.KM:=YB hz.1
  have zr:=G.VU.iS z zc (XX hz.2)
  refine c8 (TE d R G zc zr) λlot h1 h2 h3=>?_
  let σ1:aj:=σ++[.l (av lot)]
  have q1:σ1[qc]? =some (.l (av (kR H))):=bO _ _ hq
  have Lt1:mS N H.KM (PL++[(σ.length,lot)]) σ1:=by
   refine⟨λp hp=>?_,λp hp=>?_,λp hp=>?_,λp hp=>?_⟩<;>rcases XM hp with hp |hp
   ·exact bO _ _ (Lt.pQ p hp)
   ·rw[XG hp];exact aX
   ·exact Lt.lo p hp
   ·rw[XG hp];exact hs
   ·exact Lt.ln p hp
   ·rw[XG hp];exact h3
   ·exact Lt.lc p hp
   ·rw[XG hp];exact λu hu=>G.lc z zc u ((h2 u).mp hu)
  refine i8 (ih (PL++[(σ.length,lot)]) σ1 (λu hu=>hl u (XI _ hu)) (R.gy _) (by rw[Xv];exact Xs hs (XS ..)) q1 Lt1 (by rw[Xv];refine(?_:PL.length+1+_<=_);exact gj hn)) λPL' g f1 f2 f3 f4 f5=>?_
  rw[hH]at f1
  have ea:σ1++g=σ++([.l (av lot)]++g):=XU ..
  rw[ea]at f1 f2
  refine iu PL' _ (cW.Wy (S:=.cr qc (av (kR H))) rfl ej.oq (jE.pK (bQ (af (i:=1) h0) (dy R) rfl (Xo (af (bw _ _ _))) h1) (bq (by rw[Xr];exact bT (bP hn rfl)))) q1 f1) f2 (λp hp=>f3 p (YG _ hp)) (λu hu=>?_) f5
  rcases XL hu with rfl |hu
  ·exact aC _ (f3 _ (YZ _ (Ym rfl))) h2
  ·exact f4 u hu
theorem GM(d:Nat){nn:Nat}(K:aA->Prop)(hK:∀ρ z,K ρ->K (au ρ v0 (.i z)))(l0:List Nat)(one:∀(z:Nat) (s:SH) (ρ:aA) (σ:aj),z∈l0->SS A H m W s σ->K ρ->ρ v0=some (.i z)->∃ρ' τ,ae d nn bd ρ σ .n ρ' τ/\SS A H m W (step s z) τ/\cz N W σ τ/\τ.length=σ.length/\K ρ'):
  ∀(l:List Nat) (s:SH) (ρ:aA) (σ:aj),(∀z∈l,z∈l0)->SS A H m W s σ->K ρ->∃ρ' τ,bF d nn (.v v0) bd (.bx ys) (av l) ρ σ .n ρ' τ/\SS A H m W (l.foldl step s) τ/\cz N W σ τ/\τ.length=σ.length/\K ρ':=by
 intro l
 induction l with
 |nil=>intro s ρ σ _ S k;exact iu ρ σ fG S mL rfl k
 |cons z l ih=>
  intro s ρ σ hl S k
  refine i8 (one z s (au ρ v0 (.i z)) σ (hl z (XH ..)) S (hK ρ z k) (bw _ _ _)) λρ1 σ1 b1 S1 F1 n1 k1=>?_
  refine i8 (ih (step s z) ρ1 σ1 (λu hu=>hl u (XI _ hu)) S1 k1) λρ2 τ b2 S2 F2 n2 k2=>?_
  exact iu ρ2 τ (fc (S:=.bx ys) rfl b1 trivial b2) S2 (F1.jm F2) (n2.trans n1) k2
noncomputable def SH.mV(s:SH)(z:Nat):SH:={s with Vt:=gO s.Vt z z 0}
noncomputable def SH.kA(E:d7)(s:SH)(j:Nat):SH:=match E[j]? with
 |none=>s
 |some e=>if e.2.2.eB then s else(s.gD e.1 e.2.1 1 (.gW j false)).gD e.2.1 e.1 1 (.gW j true)
theorem O3(d:Nat)(S:SS A H m W s σ){z:Nat}(hz:z < 6)(h0:ρ 0=some (.o 4 W))(h2:ρ 2=some (.i z)):∃τ,ae d 11 [.a (.s (.a 46 (.v 0)) (.t [.v 2,.v 2])) (.c (.i 0))] ρ σ .n ρ τ/\SS A H m W (s.mV z) τ/\cz σ.length W σ τ/\τ.length=σ.length:=by
 obtain⟨ec,c1,cT⟩:=S.cs
 have cT':TD (λn:Nat=>V.i n) (eC ec [.inr (z:Int),.inr (z:Int)] (V.i (0:Nat))) (gO s.Vt z z 0):=cT.zM hz hz 0 λ_=>rfl
 refine eX (σ.set (W+1) (.t (eC ec [.inr (z:Int),.inr (z:Int)] (V.i (0:Nat))))) (Xp (bh aq (kX (jW S h0 rfl rfl) (kG h2 h2) (mB c1 (by intro _ h;cases h) cT.zL (Ai z z))))) (⟨⟨S.VV.eT,λu hu=>by have:=S.lt u hu;rw[aV (by exact CB this)];exact S.VV.aZ u hu⟩,S.VY,S.lt,(aV (qV rfl)).trans S.V3,(aC _ (cS c1) cT'),S.Wr.elim λe q=>(aC e ((aV (nM rfl)).trans q.1) q.2)⟩) (tQ JG) XN
noncomputable def Al:List St:=match uG.dZ with | [_,_,_,_,_,.l _ _ b,_,_,_]=>b |_=>[]
theorem Ph(d:Nat)(S:SS A H m W s σ){z:Nat}(hz:z < H.aM.length)(h0:ρ 0=some (.o 4 W))(h1:ρ 1=some (.o 2 (A.yA .aJ)))(h3:ρ 3=some (.i z)):∃ρ' τ,ae (d+1) 11 Al ρ σ .n ρ' τ/\SS A H m W (s.kA H.aM z) τ/\cz σ.length W σ τ/\τ.length=σ.length/\(∀j,j < 3->ρ' j=ρ j):=by
 obtain⟨⟨x,y,r⟩,hE⟩:∃e,H.aM[z]? =some e:=⟨_,Yu hz⟩
 have eg:x < H.KM/\y < H.KM/\r.ok H.KM:=S.VY.eg _ (Yo hE)
 have x6:=XJ eg.1 S.VY.VU.c6
 have y6:=XJ eg.2.1 S.VY.VU.c6
 have el:H.aM.length<=300:=by have:=S.VY.ed;have:=S.VY.lR;have:=S.VY.t5;lia
 let ρ1:=au (au (au ρ 4 (.i x)) 5 (.i y)) 6 r.gC
 have st:ai (d+1) 11 (.a (.t [.v 4,.v 5,.v 6]) (.s (.a 23 (.v 1)) (.v 3))) ρ σ .n ρ1 σ:=bh (xl 0 S.VV hE el (af h1) h3) (gR rfl rfl (da bc (da bc (da bc gS))))
 have fin:∀j,j < 3->ρ1 j=ρ j:=λj hj=>(bR _ _ (kQ hj rfl)).trans ((bR _ _ (kQ hj rfl)).trans (bR _ _ (kQ hj rfl)))
 have kd:∃kd rest,r.gC=.t (.s kd::rest)/\decide (kd=[108,105,107,101])=r.eB/\rest.length<=2:=by
  cases r with
  |mU w=>exact dN _ _ rfl rfl (show 1<=2 by decide)
  |lr x y=>exact dN _ _ rfl rfl (show 2<=2 by decide)
  |iX=>exact dN _ _ rfl rfl (Xw _)
 refine cP kd ?_;clear kd;intro kd rest he hkd hrl
 have cnd:Ev (d+1) 30 (.p .n (.s (.v 6) (.c (.i 0))) (.c (.s [108,105,107,101]))) ρ1 σ (.b (!r.eB)) σ:=by
  refine aY (bi (af (v:=.t (.s kd::rest)) (XB some he)) aq (c9 (v:=.s kd) (bg rfl) rfl)) aq ?_ (Xw _)
  rw[<-hkd];rfl
 unfold SH.kA
 rw[hE]
 refine(?_:∃ρ' τ,_/\SS A H m W (if r.eB then s else _) τ/\_)
 cases hr:r.eB with
 |true=>rw[hr]at cnd;exact iu ρ1 σ (ao st (Xp (bC cnd aP))) S mL rfl fin
 |false=>
  rw[hr]at cnd
  refine hX (yg d S x6 y6 1 (.gW z false)) λσ1 c1 S1 F1 n1=>?_
  refine hX (yg d S1 y6 x6 1 (.gW z true)) λσ2 c2 S2 F2 n2=>?_
  exact iu ρ1 σ2 (ao st (Xp (cX cnd (ao (dv (bQ (af (i:=0) h0) S.V3 rfl (ac.ah (af (i:=4) rfl) (ac.ah (af (i:=5) rfl) (ac.ah aq (Xo (bI (ac.ah aq (ac.ah (af (i:=3) h3) (Xo aq)))))))) c1)) (Xp (dv (bQ (af (i:=0) h0) S1.V3 rfl (ac.ah (af (i:=5) rfl) (ac.ah (af (i:=4) rfl) (ac.ah aq (Xo (bI (ac.ah aq (ac.ah (af (i:=3) h3) (Xo aq)))))))) c2))))))) S2 (F1.jm (F2.le (gM n1))) (n2.trans n1) fin
end
section
variable {d n a b i j k m q l c:Nat}{u v w:V}{o:O}{e:Ex}{r:Rs}{s:SH}
theorem SI.tt(I:SI E c s)(t:Option Bool):SI E c {s with V2:=t}:=⟨I.c6,I.dg,I.dm,I.po,I.Wk,I.WW⟩
noncomputable abbrev rl(l:List (Nat×List Nat)):List V:=l.map λp:Nat×List Nat=>V.r p.1
noncomputable def H6:List St:=match uG.dZ with | [_,_,_,_,_,_,_,_,.w _ [_,.l _ _ b]]=>b |_=>[]
noncomputable def KB:List St:=match uG.dZ with | [_,_,_,_,_,_,_,_,.w _ b]=>b |_=>[]
theorem Vb(d:Nat){l0:List (Nat×List Nat)}(hN:W+3<=N)(hqN:ql < N)(hqW:W+2 < ql):∀(PL:List (Nat×List Nat)) (s:SH) (ρ:aA) (σ:aj),(∀p∈PL,p∈l0)->SS A H m W s σ->SI H.aM H.KM s->mS (W+3) H.KM l0 σ->(∀p∈l0,p.1 < N)->N<=σ.length->σ[ql]? =some (.l (rl l0))->ρ 0=some (.o 4 W)->ρ 7=some (.r ql)->
  ∃ρ' τ,bF (d+3) 10 (.v 8) H6 (.cr ql (rl l0)) (rl PL) ρ σ .n ρ' τ/\SS A H m W (s.rW (PL.map (·.2))) τ/\SI H.aM H.KM (s.rW (PL.map (·.2)))/\mS (W+3) H.KM l0 τ/\cz N W σ τ/\τ.length=σ.length/\ρ' 0=some (.o 4 W)/\ρ' 7=some (.r ql):=by
 intro PL
 induction PL with
 |nil=>intro s ρ σ _ S I Lt _ _ _ h0 h7;exact BP ρ σ fG S I Lt mL rfl h0 h7
 |cons p PL ih=>
  intro s ρ σ hl S I Lt hp hs hq h0 h7
  have pm:=hl p (XH ..)
  have lc:=Lt.lc p pm
  have ln:p.2.length<=300:=Xs (Lt.ln p pm) (by decide)
  have lo:W+2 < p.1:=Lt.lo p pm
  refine hX (TA (d+1) I S lc ln lo (Lt.pQ p pm)) λσ1 c1 S1 F1 n1=>?_
  have I1:=(wF (E:=H.aM) lc s).Wo I
  have mv:∀{τ:aj},cz N W σ τ->mS (W+3) H.KM l0 τ:=λF=>⟨λu hu=>by have:=Lt.lo u hu;rw[F.Wa _ (hp u hu) (by exact pq this) (by exact nN this rfl) (by exact nN this rfl)];exact Lt.pQ u hu,Lt.lo,Lt.ln,Lt.lc⟩
  have Lt1:=mv (F1.le hs)
  refine hX (TH (d+1) S1 (lot:=p.2) (λz hz=>XJ (lc z hz) S.VY.VU.c6) ln lo (Lt1.pQ p pm)) λσ2 c2 S2 F2 n2=>?_
  have I2:=(SR.wG (E:=H.aM) lc (s.qa p.2)).Wo I1
  have FF:cz N W σ σ2:=(F1.le hs).jm (F2.le (qT hs (gM n1)))
  have q2:σ2[ql]? =some (.l (rl l0)):=(FF.Wa ql hqN (pq hqW) (nN hqW rfl) (mD hqW)).trans hq
  let ρ1:=au ρ 8 (.r p.1)
  refine RM (ih ((s.qa p.2).ue p.2) ρ1 σ2 (λu hu=>hl u (XI _ hu)) S2 I2 (mv FF) hp (JH hs n2 n1) q2 h0 h7) λρ' τ f1 f2 f3 f4 f5 f6 f7=>?_
  exact Rl ρ' τ (fc (S:=.cr ql (rl l0)) (bd:=H6) (n:=10) (ρ':=ρ1) rfl (ao (dv (bQ (af (i:=0) h0) S.V3 rfl (Xo (af (bw _ _ _))) c1)) (Xp (dv (bQ (af (i:=0) h0) S1.V3 rfl (Xo (af (bw _ _ _))) c2)))) q2 f1) f2 f3 f4 (FF.jm f5) (f6.trans (n2.trans n1)) f7
theorem Ax(S:SS A H m W s σ){t:Bool}(ht:s.V2=some t)(h0:ρ 0=some (.o 4 W)):Ev d (n+2) (.a 49 (.v 0)) ρ σ (.b t) σ:=dw (af h0) rfl S.V3 (by rw[ht];rfl)
theorem J'(d:Nat)(S:SS A H m W s σ)(t:Bool)(h0:ρ 0=some (.o 4 W)):ai d (n+1) (.a (.a 49 (.v 0)) (.c (.b t))) ρ σ .n ρ (σ.set W (.a 4 (fZ (A.yA .aJ) W (some t))))/\SS A H m W {s with V2:=some t} (σ.set W (.a 4 (fZ (A.yA .aJ) W (some t)))):=by
 have fl4:(fZ (A.yA .aJ) W s.V2).length<=100:=by unfold fZ;cases s.V2;exact(show 3<=100 by decide);exact(show 4<=100 by decide)
 have fse:gZ (fZ (A.yA .aJ) W s.V2) 49 (.b t)=fZ (A.yA .aJ) W (some t):=by unfold fZ;cases s.V2<;>rfl
 have h:=vC (d:=d) (n:=n) (ρ:=ρ) (nm:=49) h0 rfl (aq (v:=.b t)) S.V3 fl4
 rw[fse]at h
 exact⟨h,⟨S.VV.eT,λz hz=>by have:=S.lt z hz;rw[aV (by exact mD this)];exact S.VV.aZ z hz⟩,S.VY,S.lt,cS S.V3,S.cs.elim λe q=>(aC e ((aV (yb rfl)).trans q.1) q.2),S.Wr.elim λe q=>(aC e ((aV (yb rfl)).trans q.1) q.2)⟩
theorem Vc(d:Nat){l0:List (Nat×List Nat)}(hN:W+3<=N)(hqN:ql < N)(hqW:W+2 < ql)(hl:l0.length<=300)(hp:∀p∈l0,p.1 < N):∀(M:Nat) (s:SH) (ρ:aA) (σ:aj),s.ms<=M->s.V2=some true->SS A H m W s σ->SI H.aM H.KM s->mS (W+3) H.KM l0 σ->N<=σ.length->σ[ql]? =some (.l (rl l0))->ρ 0=some (.o 4 W)->ρ 7=some (.r ql)->
  ∃ρ' τ s',ai (d+3) 12 (.w (.a 49 (.v 0)) KB) ρ σ .n ρ' τ/\SS A H m W s' τ/\SI H.aM H.KM s'/\SC s' (l0.map (·.2))/\cz N W σ τ/\Le s.Vt s'.Vt:=by
 intro M
 induction M using Nat.strongRecOn with
 |_ M ih=>
  intro s ρ σ hM ht S I Lt hs hq h0 h7
  refine ba (J' (d+3) (n:=10) (ρ:=ρ) S false h0) λb1 S1=>?_
  let σ1:=σ.set W (.a 4 (fZ (A.yA .aJ) W (some false)))
  have F1:cz N W σ σ1:=tQ (.inl rfl)
  have I1:=I.tt (some false)
  have Lt1:mS (W+3) H.KM l0 σ1:=⟨λu hu=>by have:=Lt.lo u hu;rw[F1.Wa _ (hp u hu) (by exact pq this) (by exact nN this rfl) (by exact nN this rfl)];exact Lt.pQ u hu,Lt.lo,Lt.ln,Lt.lc⟩
  have q1:σ1[ql]? =some (.l (rl l0)):=(F1.Wa ql hqN (pq hqW) (nN hqW rfl) (mD hqW)).trans hq
  have n1:σ1.length=σ.length:=XN
  refine Iu (Vb (A:=A) (H:=H) (m:=m) d hN hqN hqW l0 {s with V2:=some false} ρ σ1 (λ_ h=>h) S1 I1 Lt1 hp (qT hs (gM n1)) q1 h0 h7) λρ2 σ2 f1 S2 I2 Lt2 F2 n2 g0 g7=>?_
  have lz:∀lot∈l0.map (·.2),∀z∈lot,z < H.KM:=λlot hlot=>by refine az (Yf hlot) λp hp q2=>?_;subst q2;exact Lt.lc p hp
  have R:=Nq (E:=H.aM) lz {s with V2:=some false}
  have body:ae (d+3) 11 KB ρ σ .n ρ2 σ2:=ao b1 (Xp (fg (S:=.cr ql (rl l0)) (fe (af h7) q1 (bq (by rw[Xr];exact hl))) f1))
  have q2:σ2[ql]? =some (.l (rl l0)):=(F2.Wa ql hqN (pq hqW) (nN hqW rfl) (mD hqW)).trans q1
  have lf:Le s.Vt (SH.rW {s with V2:=some false} (l0.map (·.2))).Vt:=R.WK
  rcases R.Wq I1 with e | ⟨e1,e2⟩
  ·rw[e]at S2 I2
   have C:=Nm lz I1 (XB SH.ms e)
   exact xN ρ2 σ2 _ (l7 (Ax S ht h0) body (iY (Ax S2 rfl g0))) S2 I2 C (F1.jm F2) (wn _)
  ·have e2:(SH.rW {s with V2:=some false} (l0.map (·.2))).ms < s.ms:=e2
   refine vc (ih _ (XJ e2 hM) _ ρ2 σ2 (Xx _) e1 S2 I2 Lt2 (JH hs n2 n1) q2 g0 g7) λρ3 σ3 s3 h3 S3 I3 C3 F3 L3=>?_
   exact xN ρ3 σ3 s3 (l7 (Ax S ht h0) body h3) S3 I3 C3 ((F1.jm F2).jm F3) (Le.DV lf L3)
end
section
variable {d n a b i j k m q l c:Nat}{u v w:V}{o:O}{e:Ex}{r:Rs}{s:SH}
theorem O2(L:List Nat):∀s:SH,(∀x y,(L.foldl SH.mV s).Vt x y=if x=y/\x∈L then some 0 else s.Vt x y)/\(L.foldl SH.mV s).wf=s.wf:=by
 induction L with
 |nil=>intro s;exact bm (λx y=>(XC λh=>(nomatch h.2)).symm) rfl
 |cons z L ih=>
  intro s
  refine ba (ih (s.mV z)) λh1 h2=>?_
  refine bm (λx y=>(h1 x y).trans ?_) h2
  by_cases h:x=y/\x∈L
  ·rw[Xz h,Xz ⟨h.1,XI _ h.2⟩]
  ·rw[XC h]
   refine(?_:gO s.Vt z z 0 x y=_)
   by_cases h3:x=z/\y=z
   ·rw[h3.1,h3.2,nU,Xz ⟨rfl,XH ..⟩]
   ·rw[q6 h3,XC λ(q:x=y/\x∈z::L)=>(XL q.2).elim (λe=>h3 ⟨e,q.1▸e⟩) λe=>h ⟨q.1,e⟩]
theorem O4(E:d7)(hc:c<=6):SI E c ((List.range c).foldl SH.mV ⟨λ_ _=>none,λ_ _=>none,none⟩):=by
 have h:=(O2 (List.range c) ⟨λ_ _=>none,λ_ _=>none,none⟩).1
 have inv:∀{x y z:Nat},((List.range c).foldl SH.mV ⟨λ_ _=>none,λ_ _=>none,none⟩).Vt x y=some z->x=y/\x < c/\z=0:=λ{x y z} hz=>by
  rw[h]at hz
  by_cases q:x=y/\x∈List.range c
  ·rw[Xz q]at hz;exact fA q.1 (YB q.2) ((XA hz).symm)
  ·rw[XC q]at hz;cases hz
 refine⟨hc,λa ha=>?_,λa b x hx=>?_,λa b x hx hn=>absurd (inv hx).1 hn,λa b x hx=>by rw[(inv hx).2.2];exact Xw _,λa b x hx hn=>absurd (inv hx).1 hn⟩
 ·rw[h,Xz ⟨rfl,Y' ha⟩]
 ·refine cO (inv hx) λq0 h2 _=>?_;subst q0;exact bm h2 h2
theorem HC{w:ij}:∃y,(s.gD a b k w).Vt a b=some y/\y<=k:=by
 unfold SH.gD
 cases he:s.fX a b k with
 |true=>exact aC k nU (Xx _)
 |false=>
  unfold SH.fX at he
  cases hc:s.Vt a b with
  |none=>rw[hc]at he;cases he
  |some c0=>rw[hc]at he;exact aC c0 hc (Nat.le_of_not_lt (of_decide_eq_false he))
theorem Np{e:Nat×Nat×Rs}(hE:E[j]? =some e)(h1:e.1 < c)(h2:e.2.1 < c)(s:SH):SR E c s (s.kA E j):=by
 unfold SH.kA
 rw[hE]
 refine(?_:SR E c s (if e.2.2.eB then s else _))
 have p:∀{s:SH},1<=2 * 2 ^ fN s.Vt:=λ{s}=>by have:0 < 2 ^ fN s.Vt:=Nat.pow_pos (by decide);exact jb (ya (cG this) this)
 cases hl:e.2.2.eB with
 |true=>exact .qb s
 |false=>exact(SR.wH (k:=1) (w:=.gW j false) h1 h2 λI _ _=>⟨Xx _,p,e.1,e.2.1,e.2.2,hE,hl⟩).uh (SR.wH (k:=1) (w:=.gW j true) h2 h1 λI _ _=>⟨Xx _,p,e.1,e.2.1,e.2.2,hE,hl⟩)
theorem Pg(hE:E[j]? =some (x,y,r))(hl:r.eB=false)(s:SH)(hx:x < c)(hy:y < c):(∃k,(s.kA E j).Vt x y=some k/\k<=1)/\∃k,(s.kA E j).Vt y x=some k/\k<=1:=by
 have e:s.kA E j=(s.gD x y 1 (.gW j false)).gD y x 1 (.gW j true):=by unfold SH.kA;rw[hE];refine(?_:(if r.eB then _ else _)=_);rw[hl];rfl
 rw[e]
 refine bm ?_ HC
 refine az (HC (s:=s) (a:=x) (b:=y) (k:=1) (w:=.gW j false)) λk h1 h2=>?_
 have R:Le (s.gD x y 1 (.gW j false)).Vt ((s.gD x y 1 (.gW j false)).gD y x 1 (.gW j true)).Vt:=by
  unfold SH.gD
  split
  ·rename_i he;split
   ·exact uD (by assumption)
   ·exact wn _
  ·split
   ·exact uD (by assumption)
   ·exact wn _
 refine az (R _ _ _ h1) λk' h3 h4=>?_
 exact aC k' h3 (Xs h4 h2)
noncomputable def tH(E:d7)(cf:Nat->Nat->Option Nat)(L:List Nat):Prop:=∀j∈L,∀x y r,E[j]? =some (x,y,r)->r.eB=false->(∃k,cf x y=some k/\k<=1)/\∃k,cf y x=some k/\k<=1
theorem tH.le{L:List Nat}(h:tH E cf L)(hl:Le cf cf'):tH E cf' L:=λj hj x y r hE hr=>by
 have up:∀{x y:Nat},(∃k,cf x y=some k/\k<=1)->∃k,cf' x y=some k/\k<=1:=λ⟨k,h1,h2⟩=>(hl _ _ _ h1).elim λk' q=>aC k' q.1 (Xs q.2 h2)
 exact bm (up (h j hj x y r hE hr).1) (up (h j hj x y r hE hr).2)
theorem Pi(hc:∀e∈E,e.1 < c/\e.2.1 < c):∀(L:List Nat) (s:SH),(∀j∈L,j < E.length)->SR E c s (L.foldl (SH.kA E) s)/\tH E (L.foldl (SH.kA E) s).Vt L:=by
 intro L
 induction L with
 |nil=>intro s _;exact bm (.qb s) (λ_ h=>(nomatch h))
 |cons z L ih=>
  intro s hL
  obtain⟨e,he⟩:∃e,E[z]? =some e:=⟨_,Yu (hL z (XH ..))⟩
  have ec:=hc e (Yo he)
  refine ba (ih (s.kA E z) λj hj=>hL j (XI _ hj)) λh1 h2=>?_
  refine bm ((Np he ec.1 ec.2 s).uh h1) (λj hj x y r hE hr=>?_)
  rcases XL hj with rfl |hj
  ·rw[hE]at he;cases he
   obtain⟨nn0,k2,q3,q4⟩:=Pg hE hr s ec.1 ec.2;refine az nn0 ?_;clear nn0;intro k1 q1 q2
   refine az (h1.WK _ _ _ q1) λl1 p1 p2=>?_
   refine az (h1.WK _ _ _ q3) λl2 p3 p4=>?_
   exact⟨(aC l1 p1 (Xs p2 q2)),l2,p3,Xs p4 q4⟩
  ·exact h2 j hj x y r hE hr
structure SE(H:HS)(s:SH)(lots:List (List Nat)):Prop where
 WV:SI H.aM H.KM s
 W0:SC s lots
 lc:∀lot∈lots,∀z∈lot,z < H.KM
 lt:∀x,x < H.KM->∃lot∈lots,∀z,z∈lot↔z∈H.cV (H.rt x)
 W9:tH H.aM s.Vt (List.range H.aM.length)
theorem TR(d:Nat)(R:HR A H σ)(G:HG H m):∃τ s lots,aL (d+4) 37 [.o 4 σ.length,.o 2 (A.yA .aJ)] (σ++[.a 4 []]) .n τ/\dn σ.length σ τ/\SS A H m σ.length s τ/\SE H s lots:=by
 let W:=σ.length
 have I:=G.VU
 have hc:=I.c6
 have el:H.aM.length<=300:=by have:=G.ed;have:=G.lR;have:=G.t5;lia
 let ρ:=bf [.o 4 W,.o 2 (A.yA .aJ)]
 let h:=A.yA .aJ
 let σ0:aj:=σ++[.a 4 (fZ h W none),.t [],.t []]
 let s0:SH:=⟨λ_ _=>none,λ_ _=>none,none⟩
 have hN:∀z,H.ok z->A.yA z < W:=λz hz=>R.lt hz
 have n0:σ0.length=W+3:=Xv
 have S0:SS A H m W s0 σ0:=⟨R.gy _,G,hN,lC _ _,⟨[],kB σ _ 1,λ_ _=>rfl,Xw _,λ_ h=>(nomatch h)⟩,⟨[],kB σ _ 2,λ_ _=>rfl,Xw _,λ_ h=>(nomatch h)⟩⟩
 have s1:ai (d+3) 12 (.i (.p .g (.m 28 (.v 1) []) (.h 3)) [.s] []) ρ (σ++[.a 4 []]) .n ρ (σ++[.a 4 []]):=by
  refine bC (aY (bQ (af (i:=1) rfl) (dy (R.gy _)) rfl ac.an (JR _ (R.gy _) I)) (vZ rfl) ?_ trivial) aP
  refine(?_:some (decide ((60:Int) < (H.KM:Nat)))=_)
  rw[Yb (by lia)]
 have s3:ai (d+3) 12 (.a (.a 46 (.v 0)) (.g .t [])) ρ (σ++[.a 4 [(39,.o 2 h)]]) .n ρ (σ++[.a 4 [(39,.o 2 h),(46,.r (W+1))],.t []]):=by
  refine lG (g':=[.t []]) rfl rfl (show 1<=100 by decide) ?_
  have h:=pH (d:=d+3) (n:=29) (kd:=.t) (ρ:=ρ) (σ:=σ++[.a 4 [(39,.o 2 h)]])
  rw[Xv,XU]at h;exact h
 have s4:ai (d+3) 12 (.a (.a 47 (.v 0)) (.g .t [])) ρ (σ++[.a 4 [(39,.o 2 h),(46,.r (W+1))],.t []]) .n ρ σ0:=by
  refine lG (g:=[.t []]) (g':=[.t [],.t []]) rfl rfl (show 2<=100 by decide) ?_
  have h:=pH (d:=d+3) (n:=29) (kd:=.t) (ρ:=ρ) (σ:=σ++[.a 4 [(39,.o 2 h),(46,.r (W+1))],.t []])
  rw[Xv,XU]at h;exact h
 refine i8 (GM (d+3) (nn:=11) (v0:=2) (bd:=[.a (.s (.a 46 (.v 0)) (.t [.v 2,.v 2])) (.c (.i 0))]) (step:=SH.mV) (ys:=df 0 (H.KM:Nat) 1) (N:=W) (λρ=>ρ 0=some (.o 4 W)/\ρ 1=some (.o 2 h)) (λρ z k=>k) (List.range H.KM) (λz s ρ σ1 hz S k hv=>by
  refine hX (O3 (d+3) S (XJ (YB hz) hc) k.1 hv) λτ h1 h2 h3 h4=>?_
  exact iu ρ τ h1 h2 (h3.le (by have:=S.rX;exact bT (qL this))) h4 k) (List.range H.KM) s0 ρ σ0 (λ_ h=>h) S0 ⟨rfl,rfl⟩) λρ5 σ5 f5 S5 F5 n5 k5=>?_
 have I5:SI H.aM H.KM ((List.range H.KM).foldl SH.mV s0):=O4 H.aM hc
 refine i8 (GM (d+3) (nn:=11) (v0:=3) (bd:=Al) (step:=SH.kA H.aM) (ys:=df 0 (H.aM.length:Nat) 1) (N:=W) (λρ=>ρ 0=some (.o 4 W)/\ρ 1=some (.o 2 h)) (λρ z k=>k) (List.range H.aM.length) (λz s ρ σ1 hz S k hv=>by
  refine i8 (Ph (d+2) S (YB hz) k.1 k.2 hv) λρ' τ h1 h2 h3 h4 h5=>?_
  exact iu ρ' τ h1 h2 (h3.le (by have:=S.rX;exact bT (qL this))) h4 (⟨(h5 0 (by decide)).trans k.1,(h5 1 (by decide)).trans k.2⟩)) (List.range H.aM.length) _ ρ5 σ5 (λ_ h=>h) S5 k5) λρ6 σ6 f6 S6 F6 n6 k6=>?_
 refine ba (Pi (λe he=>⟨(G.eg e he).1,(G.eg e he).2.1⟩) (List.range H.aM.length) ((List.range H.KM).foldl SH.mV s0) λj hj=>YB hj) λR6 B6=>?_
 have I6:=R6.Wo I5
 let σ7:aj:=σ6++[.l (av (kR H))]
 have n6':σ6.length=W+3:=n6.trans (n5.trans n0)
 have S7:=S6.mX [.l (av (kR H))]
 have rl6:(kR H).length<=6:=Xs (List.length_filter_le _ _) (by rw[XW];exact hc)
 refine i8 (Q7 (N:=W+3) (ρ:=ρ6) (qc:=σ6.length) d G (λz hz=>by have:=hN z hz;exact d5 this) (h0:=k6.2) (kR H) [] σ7 (λ_ h=>h) S7.VV (by rw[Xv,n6'];exact XS ..) aX ⟨λ_ h=>(nomatch h),λ_ h=>(nomatch h),λ_ h=>(nomatch h),λ_ h=>(nomatch h)⟩ (by rw[XY];exact qU rl6 rfl)) λPL g it Lt _ fx pl20=>?_
 let σ8:aj:=σ7++g++[.l (rl PL)]
 have S8:=(S7.mX g).mX [.l (rl PL)]
 have e7:ai (d+3) 12 (.a (.v 7) (.o (.m 37 (.v 1) [.v 9]) [.m (.v 9) (.e (.m 36 (.v 1) [])) []])) ρ6 σ6 .n (au ρ6 7 (.r (σ7++g).length)) σ8:=
  bh (dU (fe (bQ (af k6.2) (dy S6.VV) rfl ac.an (Tq _ S6.VV I)) aX (bq (by rw[Xr];exact bP rl6 rfl))) it) bc
 refine ba (J' (d+3) (n:=11) (ρ:=au ρ6 7 (.r (σ7++g).length)) S8 true k6.1) λb9 S9=>?_
 let σ9:=σ8.set W (.a 4 (fZ h W (some true)))
 have n8:σ8.length=(σ7++g).length+1:=Xv
 have n7:W+3 < (σ7++g).length:=by rw[Xv,Xv,n6'];refine(?_:W+3 < W+3+1+g.length);exact iO
 have gt:∀i,W < i->σ9[i]? =σ8[i]?:=λi hi=>aV (gN hi)
 have Lt9:mS (W+3) H.KM PL σ9:=⟨λp hp=>by have:=Lt.lo p hp;rw[gt _ (by exact jb this)];exact bO _ _ (Lt.pQ p hp),Lt.lo,Lt.ln,Lt.lc⟩
 refine vc (Vc (A:=A) (H:=H) (m:=m) (N:=σ9.length) d (ql:=(σ7++g).length) (l0:=PL) (by rw[XN];exact qL (i9 n7 n8)) (by rw[XN];exact gM n8) (qL n7) (bP pl20 rfl) (λp hp=>e8 (Lt9.pQ p hp)) _ _ (au ρ6 7 (.r (σ7++g).length)) σ9 (Xx _) rfl S9 (I6.tt _) Lt9 (Xx _) ((gt _ (qQ n7)).trans aX) k6.1 (bw _ _ _)) λρw τ sf hw Sw Iw Cw Fw Lw=>?_
 have ln:=ci rfl (d:=d+3) (n:=29) (ρ:=ρ5) (Xo (dw (m:=23) (af (n:=27) k5.2) rfl (dy S5.VV) rfl)) (fC (S5.VV.aZ .fJ trivial) (bq (by rw[Xr];exact el)))
 rw[Xr]at ln
 have l5:ai (d+3) 12 (.l (.v 2) (.r [.m 28 (.v 1) []]) [.a (.s (.a 46 (.v 0)) (.t [.v 2,.v 2])) (.c (.i 0))]) ρ σ0 .n ρ5 σ5:=by
  refine fg (S:=.bx (df 0 (H.KM:Nat) 1)) (pR (bQ (af (i:=1) rfl) (dy S0.VV) rfl ac.an (JR _ S0.VV I)) (by unfold aK;lia) (by unfold bY;exact vx)) ?_
  refine(?_:bF _ _ _ _ (.bx (df 0 (H.KM:Nat) 1)) (df 0 (H.KM:Nat) 1) _ _ _ _ _)
  rw[vB]at f5 ⊢;exact f5
 have l6:ai (d+3) 12 (.l (.v 3) (.r [.b .l [.a 23 (.v 1)]]) Al) ρ5 σ5 .n ρ6 σ6:=by
  refine fg (S:=.bx (df 0 (H.aM.length:Nat) 1)) (pR ln (by unfold aK;lia) (by unfold bY;exact vx)) ?_
  refine(?_:bF _ _ _ _ (.bx (df 0 (H.aM.length:Nat) 1)) (df 0 (H.aM.length:Nat) 1) _ _ _ _ _)
  rw[vB]at f6 ⊢;exact f6
 refine BR τ sf (PL.map (·.2)) (cI (f:=uG) (fl:=.n) (ρ':=ρw) rfl rfl (ao s1 (ao (lG (g:=[]) (g':=[]) rfl rfl (show 0<=100 by decide) (af (i:=1) rfl)) (ao s3 (ao s4 (ao l5 (ao l6 (ao e7 (ao b9 (Xp hw)))))))))) (λi hi=>?_) Sw (⟨Iw,Cw,λlot hlot=>?_,λx hx=>?_,B6.le Lw⟩)
 ·have hi:i < W:=hi
  rw[Fw.Wa i (by rw[XN];lia) (by lia) (by lia) (by lia),show σ9[i]? =σ8[i]? from aV (by lia),show σ8[i]? =(σ7++g)[i]? from Yl (by lia),show(σ7++g)[i]? =σ7[i]? from Yl (by rw[Xv,n6'];lia),show σ7[i]? =σ6[i]? from Yl (by lia),F6.Wa i hi (by lia) (by lia) (by lia),F5.Wa i hi (by lia) (by lia) (by lia)]
  exact Yl hi
 ·refine az (Yf hlot) λp hp q2=>?_;subst q2;exact Lt.lc p hp
 ·have rc:=I.rc hx
  refine az (fx (H.rt x) (List.mem_filter.mpr ⟨Y' rc,XT (I.jp x hx)⟩)) λp hp hz=>?_
  exact aC p.2 (Yz (aC p hp rfl)) hz
end
noncomputable def ec:Nat->Nat
 |0=>1
 |q+1=>2 * (5 * ec q)
section
variable {d n a b i j k m q l c:Nat}{u v w:V}{o:O}{e:Ex}{r:Rs}{s:SH}
theorem FP(q:Nat):1<=ec q:=by induction q with |zero=>exact Xx _ |succ q ih=>refine(?_:1<=2 * (5 * ec q));exact JI ih
theorem FO{p:Nat}(h:p<=q):ec p<=ec q:=by
 induction h with
 |refl=>exact Xx _
 |step _ ih=>refine(?_:_<=2 * (5 * ec _));exact JI ih
theorem SE.Ew(S:SE H s lots)(G:HG H m)(ha:a < H.KM):∃lot∈lots,∀z,z < H.KM->H.rt z=H.rt a->z∈lot:=by
 refine az (S.lt a ha) λlot h1 h2=>?_
 exact aC lot h1 (λz hz hr=>(h2 z).mpr (by rw[<-hr];exact G.lm z hz))
theorem Vq{l l':List Nat}{p:Nat×Nat}(h:p∈l.zip l'):(p.2,p.1)∈l'.zip l:=by
 refine aT (List.mem_iff_getElem?.mp h) λi hi=>?_
 refine ba (List.getElem?_zip_eq_some.mp hi) λh1 h2=>?_
 exact List.mem_iff_getElem?.mpr ⟨i,List.getElem?_zip_eq_some.mpr ⟨h2,h1⟩⟩
theorem HH(S:SE H s lots)(G:HG H m)(ha:a < H.KM)(hb:b < H.KM)(hr:H.rt a=H.rt b)(ho:bv a=bv b)(hl:(aN a).length=(aN b).length){B:Nat}(hk:∀p∈kz a b,∃y,s.Vt p.1 p.2=some y/\y<=B):∃y,s.Vt a b=some y/\y<=2 * B:=by
 by_cases e:a=b
 ·subst e;exact aC 0 (S.WV.dg a ha) (Xw _)
 ·refine az (S.Ew G ha) λlot h1 h2=>?_
  refine az (S.W0.lk lot h1 a (h2 a ha rfl) b (h2 b hb hr.symm) (by unfold qE;rw[XT e,XT ho,XT hl];rfl) λp hp=>(hk p hp).elim λy q=>⟨y,q.1⟩) λy hy hle=>?_
  refine aC y hy (Xs hle ?_)
  have kb:jZ s.Vt a b<=((kz a b).map λ_=>B).sum:=yr λp hp=>by refine az (hk p hp) λy hy q=>?_;rw[hy];exact q
  have l2:(kz a b).length<=2:=by refine(?_:((aN a).zip (aN b)).length<=2);rw[List.length_zip];exact Xs (Zw _ _) (g9 a)
  rw[List.map_const',List.sum_replicate_nat]at kb
  exact Xs kb (Y9 _ l2)
theorem OR(S:SE H s lots)(G:HG H m):∀(j x y:Nat),x < H.KM->Cn H.aM H.bL j x y->∃k,s.Vt x y=some k/\k<=5 * ec (dT (H.aM.take j)):=by
 intro j
 induction j using Nat.strongRecOn with
 |_ j ih=>
  have edge:∀{i a b:Nat} {r:Rs},i < j->H.aM[i]? =some (a,b,r)->(a < H.KM/\b < H.KM/\H.rt a=H.rt b)/\(∃k,s.Vt a b=some k/\k<=ec (dT (H.aM.take j)))/\∃k,s.Vt b a=some k/\k<=ec (dT (H.aM.take j)):=λ{i a b r} hi hE=>by
   have mem:=Yo hE
   have eg:a < H.KM/\b < H.KM/\r.ok H.KM:=G.eg _ mem
   have al:H.rt a=H.rt b:=G.al _ mem
   refine bm (⟨eg.1,eg.2.1,al⟩) ?_
   cases hr:r.eB with
   |false=>
    obtain⟨nn0,k2,q3,q4⟩:=S.W9 i (Y' (XZ hE).1) a b r hE hr;refine az nn0 ?_;clear nn0;intro k1 q1 q2
    exact⟨(aC k1 q1 (Xs q2 (FP _))),k2,q3,Xs q4 (FP _)⟩
   |true=>
    obtain rfl:r=.iX:=by cases r<;>first |rfl |cases hr
    refine cO (G.lk i a b hE) λh1 h2 h3=>?_
    have q1:dT (H.aM.take i)+1<=dT (H.aM.take j):=by rw[<-HK hE];exact HM hi
    have mh:2 * (5 * ec (dT (H.aM.take i)))<=ec (dT (H.aM.take j)):=FO q1
    refine az (HH S G eg.1 eg.2.1 al h1 h2 (B:=5 * ec (dT (H.aM.take i))) λp hp=>ih i hi p.1 p.2 (nv a eg.1 _ (List.of_mem_zip (show(p.1,p.2)∈(aN a).zip (aN b) from hp)).1) (h3 p hp)) λy1 f1 g1=>?_
    refine az (HH S G eg.2.1 eg.1 al.symm h1.symm h2.symm (B:=5 * ec (dT (H.aM.take i))) λp hp=>ih i hi p.1 p.2 (nv b eg.2.1 _ (List.of_mem_zip (show(p.1,p.2)∈(aN b).zip (aN a) from hp)).1) (by refine az (h3 (p.2,p.1) (Vq hp)) λn n5 cs=>?_;exact aC n n5 cs.yH)) λy2 f2 g2=>?_
    exact⟨(aC y1 f1 (Xs g1 mh)),y2,f2,Xs g2 mh⟩
  have steps:∀{n x y:Nat},Cs H.aM H.bL j n x y->x < H.KM->y < H.KM/\H.rt y=H.rt x/\∃k,s.Vt x y=some k/\k<=n * ec (dT (H.aM.take j)):=λ{n x y} h=>by
   have add:∀{n x a b k2:Nat},x < H.KM->a < H.KM/\H.rt a=H.rt x/\(∃k,s.Vt x a=some k/\k<=n * ec (dT (H.aM.take j)))->b < H.KM->H.rt b=H.rt a->s.Vt a b=some k2->k2<=ec (dT (H.aM.take j))->b < H.KM/\H.rt b=H.rt x/\∃k,s.Vt x b=some k/\k<=(n+1) * ec (dT (H.aM.take j)):=λhx ⟨ha,ra,k1,q1,l1⟩ hb rb q2 l2=>by
    refine az (S.Ew G hx) λlot h1 h2=>?_
    refine az (S.W0.W8 lot h1 _ (h2 _ ha ra) _ (h2 _ hx rfl) _ (h2 _ hb (rb.trans ra)) _ _ q1 q2) λy hy hl=>?_
    exact⟨hb,rb.trans ra,y,hy,by rw[Nat.succ_mul];exact qT hl (qF l1 l2)⟩
   induction h with
   |kY=>intro hx;exact⟨hx,rfl,0,S.WV.dg _ hx,Xw _⟩
   |mK _ hf hj he ih=>intro hx;refine cO (edge hj he) λnn0 nn1 _=>?_;refine cO nn0 ?_;clear nn0;intro ha hb hr;refine az nn1 ?_;clear nn1;intro k q1 q2;exact add hx (ih hx) hb hr.symm q1 q2
   |nW _ hf hj he ih=>intro hx;refine cO (edge hj he) λnn0 _ nn1=>?_;refine cO nn0 ?_;clear nn0;intro ha hb hr;refine az nn1 ?_;clear nn1;intro k q1 q2;exact add hx (ih hx) ha hr q1 q2
  intro x y hx ⟨n,n5,h⟩
  obtain⟨_,_,k,q1,q2⟩:=steps h hx
  exact aC k q1 (Xs q2 (Y9 _ n5))
theorem OQ(S:SE H s lots)(G:HG H m)(hx:x < H.KM)(hy:y < H.KM)(h:H.rt x=H.rt y):∃k,s.Vt x y=some k/\k<=500:=by
 refine az (OR S G _ x y hx (G.y5 hx hy h)) λk h1 h2=>?_
 exact aC k h1 (Xs h2 (Xs (Nat.mul_le_mul_left 5 (FO (HL G _))) (by decide)))
noncomputable def rk(s:SH)(v:Nat):Nat:=(List.range 36).countP λi=>match s.Vt (i / 6) (i % 6)with
 |some k=>decide (k * 16+(i / 6+i % 6) < v)
 |none=>false
theorem CJ{v:Nat}(ha:a < 6)(hb:b < 6)(hk:s.Vt a b=some k)(h:k * 16+(a+b) < v):rk s (k * 16+(a+b))+1<=rk s v:=by
 refine cO (zZ ha hb) λe1 e2 e3=>?_
 refine FG (λi hi=>?_) e3 ?_ ?_
 ·cases hc:s.Vt (i / 6) (i % 6)with
  |none=>rw[hc]at hi;cases hi
  |some z=>rw[hc]at hi;exact XT (Nat.lt_trans (XX hi) h)
 ·rw[e1,e2,hk];exact Yb (YW _)
 ·rw[e1,e2,hk];exact XT h
theorem TT(d:Nat)(S:SS A H m W s σ)(hk:s.Vt a b=some k):aL (d+1) 41 [.o 4 W,.i a,.i b] σ (.i k) σ:=by
 have ni:=Av (d:=d) (n:=26) (ρ:=bf [.o 4 W,.i a,.i b]) S rfl (kG (i1:=1) (i2:=2) (a:=a) (b:=b) rfl rfl)
 rw[hk]at ni
 exact cI (f:=Gw) (fl:=.r _) rfl rfl (ao (bC ni aP) (be (bM (uF S rfl (kG rfl rfl) hk))))
theorem Tx(d:Nat)(R:HR A H σ)(I:HI H)(hx:x < H.KM)(hq:σ[q]? =some (.l [])):aL (d+3) 31 [.o 2 (A.yA .aJ),.i x,.r q] σ (Pp.cZ (cp x)).enc σ:=by
 have g0:(σ++[O.l []])[σ.length]? =some (.l (List.map Pp.enc [])):=aX
 have R1:=R.gy [.l []]
 exact fV (f:=uJ) (ρ':=au (bf [.o 2 (A.yA .aJ),.i x,.r q]) 3 (.r σ.length)) rfl rfl (ao (bh (ci rfl (Xo (af rfl)) (I0 hq (Xw _))) bc)
  (ao (iY (aY (my g0 (Xw _) rfl) aq rfl trivial)) (be (bM (jh (aY (my g0 (Xw _) rfl) aq rfl (Xw _)) (bI (ac.ah aq (Xo (bQ (eH R1 rfl rfl rfl) R1.gU rfl (Xo (af (i:=1) rfl)) (CG d R1 I hx)))))))))) (Yk _ _) ((Pp.cZ (cp x)).lo_enc _)
theorem PN(S:SS A H m W s σ)(h0:ρ 0=some (.o 4 W))(he:Ev d (n+3) e ρ σ (.t [.i a,.i b]) σ)(hc:s.wf a b=some wy):Ev d (n+4) (.s (.a 47 (.v 0)) e) ρ σ wy.iK σ:=by
 obtain⟨es,h1,T⟩:=S.Wr
 exact bi (jW S h0 rfl rfl) he (mC h1 (by intro _ h;cases h) (by rw[xd,T.r4,hc];rfl))
theorem QU{f:α->Nat}{l:List α}{z:α}(h:z∈l):f z<=(l.map f).sum:=by
 induction l with
 |nil=>cases h
 |cons u l ih=>
  rw[XD,Yq]
  rcases XL h with rfl |h
  ·exact XS ..
  ·exact Xs (ih h) (YQ ..)
theorem TS(E1:SE H s lots):∀(N d a b k:Nat),s.Vt a b=some k->rk s (k * 16+(a+b)) < N->∃P:Pp,P.good/\P.dep<=N+5/\(a=b->P.sz<=60)/\(a≠b->P.sz+(if a < 2 then 200 else 120)<=400 * k)/\∀(A:Ad) (m W:Nat) (σ:aj),SS A H m W s σ->aL (d+4+N) 42 [.o 4 W,.i a,.i b] σ P.enc σ:=by
 intro N
 induction N with
 |zero=>intro d a b k _ h;exact absurd h (Y5 _)
 |succ N ih=>
  intro d a b k hk hN
  have I:=E1.WV
  have ab:=I.dm a b k hk
  have a6:=XJ ab.1 I.c6
  have b6:=XJ ab.2 I.c6
  have e0:d+4+(N+1)=(d+N+1)+3+1:=by lia
  -- the first lines
  have first:∀{A:Ad} {m W:Nat} {σ:aj},SS A H m W s σ->ai (d+N+1+3) 12 (.e (.m 52 (.v 0) [.v 1,.v 2])) (bf [.o 4 W,.i a,.i b]) σ .n (bf [.o 4 W,.i a,.i b]) σ:=λS=>dv (bQ (af rfl) S.V3 rfl (ac.ah (af rfl) (Xo (af rfl))) (TT _ S hk))
  have same:∀{W:Nat} {σ:aj},Ev (d+N+1+3) 30 (.p .e (.v 1) (.v 2)) (bf [.o 4 W,.i a,.i b]) σ (.b (decide (a=b))) σ:=λ{W σ}=>aY (af (i:=1) rfl) (af (i:=2) rfl) (sG _ _) (Xw _)
  by_cases e:a=b
  ·refine u5 (.cZ (cp a)) (vI a) (by have:=vH a;refine(?_:(cp a).dep+1<=_);exact pj this pn rfl) (λ_=>by have:=vJ a;refine(?_:(cp a).sz+40<=_);exact ja this rfl) (λh=>absurd e h) (λA m W σ S=>?_)
   rw[e0]
   have sm:=same (W:=W) (σ:=σ)
   rw[XT e]at sm
   have S1:=S.mX [.l []]
   exact fV (f:=uH) rfl rfl (ao (first S) (be (cX sm (be (bM (cw (ac.ah (jW S rfl rfl rfl) (ac.ah (af (i:=1) rfl) (Xo (du ac.an)))) (Tx _ S1.VV S.VY.VU ab.1 aX))))))) (Yk _ _) ((Pp.cZ (cp a)).lo_enc _)
  ·refine az (I.WW a b k hk e) λwy hw wk=>?_
   have k1:=I.po a b k hk e
   -- the lines up to the way
   have start:∀{A:Ad} {m W:Nat} {σ:aj} {fl:Fl} {ρ':aA} {τ:aj} {rest:List St},SS A H m W s σ->ae (d+N+1+3) 12 rest (au (bf [.o 4 W,.i a,.i b]) 3 wy.iK) σ fl ρ' τ->ae (d+N+1+3) 12 (.e (.m 52 (.v 0) [.v 1,.v 2])::.i (.p .e (.v 1) (.v 2)) [.r (.l 31 [.a 39 (.v 0),.v 1,.d []])] []::.a (.v 3) (.s (.a 47 (.v 0)) (.t [.v 1,.v 2]))::rest) (bf [.o 4 W,.i a,.i b]) σ fl ρ' τ:=λ{A m W σ fl ρ' τ rest} S h=>by
    have sm:=same (W:=W) (σ:=σ)
    rw[Yb e]at sm
    exact ao (first S) (ao (bC sm aP) (ao (bh (PN S rfl (kG rfl rfl) hw) bc) h))
   have kd:∀{W:Nat} {σ:aj} (kw:List Nat),∃kd rest,wy.iK=.t (.s kd::rest)/\rest.length<=2/\Ev (d+N+1+3) 30 (.p .e (.s (.v 3) (.c (.i 0))) (.c (.s kw))) (au (bf [.o 4 W,.i a,.i b]) 3 wy.iK) σ (.b (decide (kd=kw))) σ:=λ{W σ} kw=>by
    have one:∃kd rest,wy.iK=.t (.s kd::rest)/\rest.length<=2:=by
     cases wy with
     |gW j t=>exact eE _ _ rfl (show 2<=2 by decide)
     |mY=>exact eE _ _ rfl (Xw _)
     |oP m=>exact eE _ _ rfl (show 1<=2 by decide)
    refine dY one ?_;clear one;intro kd rest h1 h2
    exact dN kd rest h1 h2 (aY (bi (af (i:=3) (v:=.t (.s kd::rest)) (XB some h1)) aq (c9 (v:=.s kd) (bg rfl) rfl)) aq vE (Xw _))
   have isk:∀{W:Nat} {σ:aj} {kd kw:List Nat} {rest:List V} {bo:Bool},wy.iK=.t (.s kd::rest)->decide (kd=kw)=bo->Ev (d+N+1+3) 30 (.p .e (.s (.v 3) (.c (.i 0))) (.c (.s kw))) (au (bf [.o 4 W,.i a,.i b]) 3 wy.iK) σ (.b bo) σ:=λ{W σ kd0 kw rest bo} h hb=>by
    refine cP (kd (W:=W) (σ:=σ) kw) λkd' rest' h1 _ h3=>?_
    rw[h]at h1;cases h1
    rw[hb]at h3;exact h3
   rw[e0]
   cases wy with
   |oP mm=>
    obtain⟨ma,mb,c1,c2,q1,q2,hle⟩:=wk
    have am:=I.dm _ _ _ q1
    have p1:=I.po _ _ _ q1 ma.symm
    have p2:=I.po _ _ _ q2 mb
    have m6:=XJ am.2 I.c6
    have r1:=CJ (s:=s) (v:=k * 16+(a+b)) a6 m6 q1 (by lia)
    have r2:=CJ (s:=s) (v:=k * 16+(a+b)) m6 b6 q2 (by lia)
    refine u8 (ih d a mm c1 q1 (CE r1 hN)) λP1 g1 d1 _ z1 h1=>?_
    refine u8 (ih d mm b c2 q2 (CE r2 hN)) λP2 g2 d2 _ z2 h2=>?_
    have z1:=z1 ma.symm
    have z2:=z2 mb
    have e2:d+N+1+3=d+4+N:=JJ
    refine u5 (.bG P1 P2) (⟨g1,g2⟩) (YD (Nat.max_le.mpr ⟨d1,d2⟩)) (λh=>absurd h e) (λ_=>?_) (λA m W σ S=>?_)
    ·show P1.sz+P2.sz+10+_<=_
     have:(if a < 2 then 200 else 120)<=200:=by split<;>decide
     have:120<=(if a < 2 then 200 else 120):=by split<;>decide
     have:120<=(if mm < 2 then 200 else 120):=by split<;>decide
     lia
    ·have h1:=h1 A m W σ S
     have h2:=h2 A m W σ S
     rw[<-e2]at h1 h2
     have wv:Ev (d+N+1+3) 28 (.s (.v 3) (.c (.i 1))) (au (bf [.o 4 W,.i a,.i b]) 3 (ij.oP mm).iK) σ (.i mm) σ:=bi (af rfl) aq (c9 (bg rfl) rfl)
     exact cI (f:=uH) (fl:=.r _) rfl rfl (start S (be (cX (isk rfl rfl) (be (bM (bI (ac.ah aq (ac.ah (bQ (af (i:=0) rfl) S.V3 rfl (ac.ah (af (i:=1) rfl) (Xo wv)) h1) (Xo (bQ (af (i:=0) rfl) S.V3 rfl (ac.ah wv (Xo (af (i:=2) rfl))) h2))))))))))
   |gW j t=>
    refine sW wk ?_;clear wk;intro e1 e2 r hE hr
    let P:Pp:=if t then .cH (gK r)else gK r
    have eg0:∀{A:Ad} {m W:Nat} {σ:aj},SS A H m W s σ->r.ok H.KM:=λS=>(S.VY.eg _ (Yo hE)).2.2
    refine Classical.byCases (p:=r.ok H.KM) (λrok=>?_) λh=>u5 (.cZ (cp a)) (vI a) (by have:=vH a;refine(?_:(cp a).dep+1<=_);exact pj this pn rfl) (λh=>absurd h e) (λ_=>by have:=vJ a;refine(?_:(cp a).sz+40+_<=_);have:(if a < 2 then 200 else 120)<=200:=by{split<;>decide};lia) (λA m W σ S=>absurd (eg0 S) h)
    have gp:=IV rok hr
    refine u5 P ?_ ?_ (λh=>absurd h e) (λ_=>?_) (λA m W σ S=>?_)
    ·refine(?_:(if t then _ else _:Pp).good);cases t;exact gp.Wl;exact gp.Wl
    ·have:=gp.Ww;refine(?_:(if t then Pp.cH (gK r)else gK r).dep<=_);cases t with |true=>refine(?_:(gK r).dep+1<=_);lia |false=>refine(?_:(gK r).dep<=_);lia
    ·have:(if t then Pp.cH (gK r)else gK r).sz<=140:=by have:=gp.Wx;cases t with |true=>refine(?_:(gK r).sz+40<=_);exact qR this |false=>refine(?_:(gK r).sz<=_);exact bP this rfl
     have:(if a < 2 then 200 else 120)<=200:=by split<;>decide
     refine(?_:(if t then Pp.cH (gK r)else gK r).sz+_<=_)
     lia
    ·have el:H.aM.length<=300:=by have:=S.VY.ed;have:=S.VY.lR;have:=S.VY.t5;lia
     have pe:=JV (d+N+1) S.VV S.VY.VU hE el rok hr
     let ρ4:=au (au (bf [.o 4 W,.i a,.i b]) 3 (ij.gW j t).iK) 4 (gK r).enc
     have fin:Ev (d+N+1+3) 30 (.f (.s (.v 3) (.c (.i 2))) (.t [.c (.s [116,117,114,110]),.v 4]) (.v 4)) ρ4 σ P.enc σ:=by
      have tv:Ev (d+N+1+3) 29 (.s (.v 3) (.c (.i 2))) ρ4 σ (.b t) σ:=bi (af (i:=3) rfl) aq (c9 (bg rfl) rfl)
      refine(?_:Ev _ _ _ _ _ (if t then Pp.cH (gK r)else gK r).enc _)
      cases t with
      |true=>exact jD tv (bI (ac.ah aq (Xo (af rfl))))
      |false=>exact jh tv (af rfl)
     exact cI (f:=uH) (fl:=.r _) rfl rfl (start S (ao (bC (isk rfl rfl) aP) (be (cX (isk rfl rfl) (ao (bh (cw (ac.ah (jW S rfl rfl rfl) (Xo (bi (af (i:=3) rfl) aq (c9 (bg rfl) rfl)))) pe) bc) (be (bM fin)))))))
   |mY=>
    refine cO wk ?_;clear wk;intro op hks hle
    refine cO (Hx a a6 b b6 op e) λkf a2 b2=>?_
    have km:∀z∈kz a b,z.1 < 2/\z.2 < 2/\z.1≠z.2:=λz hz=>by
     rcases kf with q |q |q |q<;>rw[q]at hz
     ·rw[XG hz];decide
     ·rw[XG hz];decide
     ·rcases XL hz with rfl |hz;decide;rw[XG hz];decide
     ·rcases XL hz with rfl |hz;decide;rw[XG hz];decide
    have yk:∀z∈kz a b,(s.Vt z.1 z.2).getD 0<=k:=λz hz=>Xs (QU (f:=λz:Nat×Nat=>(s.Vt z.1 z.2).getD 0) hz) hle
    have e2:d+N+1+3=d+4+N:=JJ
    have all:∀z:Nat×Nat,∃P:Pp,z∈kz a b->P.good/\P.dep<=N+5/\P.sz+200<=400 * (s.Vt z.1 z.2).getD 0/\∀(A:Ad) (m W:Nat) (σ:aj),SS A H m W s σ->aL (d+N+1+3) 42 [.o 4 W,.i z.1,.i z.2] σ P.enc σ:=λz=>by
     by_cases hz:z∈kz a b
     ·refine aT (hks z hz) λy hy=>?_
      refine cO (km z hz) λt1 t2 tn=>?_
      have hyk:=yk z hz
      rw[hy]at hyk
      have hyk:y<=k:=hyk
      have r1:=CJ (s:=s) (v:=k * 16+(a+b)) (bP t1 rfl:z.1 < 6) (bP t2 rfl:z.2 < 6) hy (by lia)
      refine u8 (ih d z.1 z.2 y hy (CE r1 hN)) λP g1 d1 _ z1 h1=>?_
      have z1:=z1 tn
      rw[Xz t1]at z1
      exact fB P (λ_=>⟨g1,d1,by rw[hy];exact z1,λA m W σ S=>by rw[e2];exact h1 A m W σ S⟩)
     ·exact fB (.cR []) (λh=>absurd h hz)
    refine aT (Classical.axiomOfChoice all) λf hf=>?_
    let ps:=(kz a b).map f
    have fold:∀L:List (Nat×Nat),(∀z∈L,z∈kz a b)->Pp.goods (L.map f)/\Pp.deps (L.map f)<=N+5/\Pp.szs (L.map f)+198 * L.length<=400 * (L.map λz=>(s.Vt z.1 z.2).getD 0).sum:=λL=>by
     induction L with
     |nil=>intro _;exact fA trivial (Xw _) (Xx _)
     |cons z L ihL=>
      intro h
      refine cO (ihL λu hu=>h u (XI _ hu)) λi1 i2 i3=>?_
      refine kN (hf z (h z (XH ..))) λg1 d1 z1 _=>?_
      refine fA (⟨g1,i1⟩) (Nat.max_le.mpr ⟨d1,i2⟩) ?_
      refine(?_:(f z).sz+2+Pp.szs (L.map f)+198 * (L.length+1)<=400 * ((s.Vt z.1 z.2).getD 0+(L.map λz=>(s.Vt z.1 z.2).getD 0).sum))
      lia
    refine cO (fold (kz a b) λ_ h=>h) λg1 d1 z1=>?_
    have l1:1<=(kz a b).length:=by rcases kf with q |q |q |q<;>rw[q]<;>decide
    have hle:((kz a b).map λz=>(s.Vt z.1 z.2).getD 0).sum<=k:=hle
    refine u5 (.cD (bv a) ps) (⟨xT a,g1⟩) (by refine(?_:Pp.deps ps+1<=_);exact YD d1) (λh=>absurd h e) (λ_=>?_) (λA m W σ S=>?_)
    ·rw[XC (by lia)]
     refine(?_:(bv a).length+40+Pp.szs ps+120<=_)
     rw[xU]
     have:Pp.szs ps+198 * (kz a b).length<=400 * _:=z1
     lia
    ·have l2:(kz a b).length<=2:=by refine(?_:((aN a).zip (aN b)).length<=2);rw[List.length_zip];exact Xs (Zw _ _) (g9 a)
     let ρ3:=au (bf [.o 4 W,.i a,.i b]) 3 ij.mY.iK
     let σz:aj:=σ++[.i ((kz a b).map pv),.u,.u,.u]
     have ez:(((av (aN a)).zip (av (aN b))).map λp:V×V=>V.t [p.1,p.2])=(kz a b).map pv:=by rw[List.zip_map,XV];rfl
     have lz:σ.length < σz.length:=by rw[Xv];exact Nat.lt_add_of_pos_right (show 0 < 4 by decide)
     have gz:σz[σ.length]? =some (.i ((kz a b).map pv)):=lC _ _
     have kid:∀{i z n:Nat},ρ3 i=some (.i z)->z < H.KM->Ev (d+N+1+3) (n+5) (.m 15 (.a 21 (.a 39 (.v 0))) [.v i]) ρ3 σ (.t (av (aN z))) σ:=λ{i z n} hi hz=>
      bQ (dw (jW S rfl rfl rfl) rfl (dy S.VV) rfl) S.VV.gU rfl (Xo (af hi)) (tj _ S.VV S.VY.VU hz)
     have zp:Ev (d+N+1+3) 30 (.b .z [.m 15 (.a 21 (.a 39 (.v 0))) [.v 1],.m 15 (.a 21 (.a 39 (.v 0))) [.v 2]]) ρ3 σ (.r σ.length) σz:=by
      have q:=ci rfl (d:=d+N+1+3) (n:=29) (ρ:=ρ3) (ac.ah (kid (i:=1) rfl ab.1) (Xo (kid (i:=2) rfl ab.2))) (Cr (σ:=σ))
      rw[ez]at q;exact q
     have Sz:=S.mX [.i ((kz a b).map pv),.u,.u,.u]
     have sl:=S.rX
     let ρ5:=au ρ3 5 (.r σ.length)
     have hit:=Hi (d:=d+N+1+3) (n:=27) (elt:=.m 53 (.v 0) [.v 6,.v 7]) (tg:=.t [.v 6,.v 7]) (ifs:=[]) (ρ:=ρ5) (σ:=σz) (a0:=σ.length) (ys:=(kz a b).map pv) pv (λz=>(f z).enc) (λ_=>true) lz (kz a b) (λz hz o=>by
      have S':SS A H m W s (σz.set σ.length o):=Sz.mv λi hi=>aV (nO hi sl)
      exact dK _ rfl ej.oq (λ_=>bQ (af (i:=0) rfl) S'.V3 rfl (ac.ah (af (i:=6) rfl) (Xo (af (i:=7) rfl))) ((hf z hz).2.2.2 A m W _ S'))) [] (.i ((kz a b).map pv)) (by rw[XY];exact qU l2 rfl)
     rw[qX gz,X0,List.filter_eq_self.mpr λ_ _=>rfl]at hit
     have em:(kz a b).map (λz=>(f z).enc)=ps.map Pp.enc:=by rw[XV];rfl
     rw[em]at hit
     have eP:(Pp.cD (bv a) ps).enc=.t [.s gf,.s (bv a),.t (ps.map Pp.enc)]:=by rw[rL,rM]
     have lp:ps.length<=2:=by rw[Xr];exact l2
     have fin:Ev (d+N+1+3) 30 (.t [.c (.s [117,110,100,101,114]),.m 16 (.a 21 (.a 39 (.v 0))) [.v 1],.b .t [.o (.m 53 (.v 0) [.v 6,.v 7]) [.m (.t [.v 6,.v 7]) (.e (.v 5)) []]]]) ρ5 σz (Pp.cD (bv a) ps).enc (σz.set σ.length .u++[.l (ps.map Pp.enc)]):=by
      rw[eP]
      exact bI (ac.ah aq (ac.ah (bQ (dw (jW Sz rfl rfl rfl) rfl (dy Sz.VV) rfl) Sz.VV.gU rfl (Xo (af (i:=1) rfl)) (vy _ Sz.VV Sz.VY.VU ab.1)) (Xo (ci rfl (Xo (dU (zo (af (i:=5) rfl) gz (bq (by rw[Xr];exact bP l2 rfl))) hit)) (j3 aX (bq (by rw[Xr];exact bP lp rfl)))))))
     refine fV (f:=uH) (ρ':=ρ5) rfl rfl (start S (ao (bC (isk rfl rfl) aP) (ao (bC (isk rfl rfl) aP) (ao (bh zp bc) (be (bM fin)))))) ?_ ((Pp.cD (bv a) ps).lo_enc _)
     rw[show σz.set σ.length .u=σ++[.u,.u,.u,.u] from uy _ _ _,XU]
     exact Yk _ _
end
noncomputable def jA(x:Nat):List KV:=.inl (bv x)::(aN x).map λk:Nat=>.inr (k:Int)
noncomputable def fR(c:Nat):List (List KV×V):=(List.range c).map λx:Nat=>(jA x,V.i (x:Int))
noncomputable def j7(x:Nat):Nat:=1+(aN x).length
noncomputable def jw(x:Nat):Nat:=if(aN x).isEmpty then 1 else 2
structure HB(c:Nat)(H:HS):Prop where
 c6:c<=6
 hc:H.KM=c
 ua:∀x,H.ua x=x
 rt:∀x,H.rt x=x
 lo:∀x,H.cV x=[x]
 WR:H.jq=[]
 ed:H.aM=[]
 fo:H.bL=[]
 kn:H.dH=fR c
 WE:H.bW=List.range c
 ab:∀r,(H.bz r).length<=c - 2/\∀x∈H.bz r,x < c
 wa:H.dQ=[]
structure jG(c:Nat)(H:HS):Prop where
 cb:H.cb=c
 nu:H.tT=fR c
 we:H.wj=(List.range c).map j7
 de:H.wc=(List.range c).map jw
section
variable {d n a b i j k m q l c:Nat}{u v w:V}{o:O}{e:Ex}{r:Rs}{S:Nat->Prop}
theorem QE(l:List Nat):eW (av l)=some (l.map λk:Nat=>.inr (k:Int)):=by
 induction l with
 |nil=>rfl
 |cons k l ih=>refine(?_:(match qC (V.i k),eW (av l)with |some k,some ks=>some (k::ks) |_,_=>Option.none)=_);rw[ih];rfl
theorem Hv(x:Nat):eW (.s (bv x)::av (aN x))=some (jA x):=by
 refine(?_:(match qC (V.s (bv x)),eW (av (aN x))with |some k,some ks=>some (k::ks) |_,_=>Option.none)=_)
 rw[QE];rfl
theorem Hq:∀x,x < 6->∀y,y < 6->jA x=jA y->x=y:=by decide
theorem U0(hx:x < c)(hc:c<=6):cA (fR c) (jA x)=some (.i x):=by
 have hm:(jA x,V.i (x:Int))∈fR c:=Yz (aC x (Y' hx) rfl)
 cases hf:cA (fR c) (jA x)with
 |none=>
  unfold cA at hf
  rw[Option.map_eq_none_iff,List.find?_eq_none]at hf
  exact absurd (XT rfl) (hf _ hm)
 |some v=>
  refine az (Yf (zX hf)) λy hy e=>?_
  have e1:=XB Prod.fst e
  have:=Hq y (XJ (YB hy) hc) x (XJ hx hc) e1
  subst this
  exact XB some (XB Prod.snd e).symm
theorem CT(hc:c < 6):cA (fR c) (jA c)=none:=by
 unfold cA
 rw[Option.map_eq_none_iff,List.find?_eq_none]
 intro e he hq
 refine az (Yf he) λy hy q2=>?_;subst q2
 have hy:=YB hy
 exact XQ hy (Hq y (Nat.lt_trans hy hc) c hc (XX hq))
theorem Kt(c:Nat):fR c++[(jA c,V.i (c:Int))]=fR (c+1):=by unfold fR;rw[Zx,Yc];rfl
theorem FK(es:List (List KV×V))(x:Nat):fu (.t es) (hU x)=some (cA es (jA x)):=by refine(?_:Option.map _ (eW _)=_);rw[Hv];rfl
theorem Pf{es:List (List KV×V)}(x:Nat)(v:V)(h:cA es (jA x)=none):fP (.t es) (hU x) v=some (.t (es++[(jA x,v)])):=by refine(?_:Option.map _ (eW _)=_);rw[Hv,<-wZ h];rfl
theorem HX.Ml(X:HX S A H σ)(l:List (List KV×V)):HX S A {H with tT:=l} (σ.set (A.yA .eU) (.t l))/\Fm S σ (σ.set (A.yA .eU) (.t l)):=X.mQ (s:=.eU) trivial (X.Vu.ke (s:=.eU) trivial (λ_ h=>h) rfl λt ht _=>by cases t<;>first |rfl |exact absurd rfl ht) λ_ h=>h
theorem HX.Mk(X:HX S A H σ)(c:Nat):HX S A {H with cb:=c} (σ.set (A.yA .eL) (.l ((List.range c).map hU)))/\Fm S σ (σ.set (A.yA .eL) (.l ((List.range c).map hU))):=X.mQ (s:=.eL) trivial (X.Vu.ke (s:=.eL) trivial (λ_ h=>h) rfl λt ht _=>by cases t<;>first |rfl |exact absurd rfl ht) λ_ h=>h
theorem HX.Mn(X:HX S A H σ)(l:List Nat):HX S A {H with wj:=l} (σ.set (A.yA .gF) (.l (av l)))/\Fm S σ (σ.set (A.yA .gF) (.l (av l))):=X.mQ (s:=.gF) trivial (X.Vu.ke (s:=.gF) trivial (λ_ h=>h) rfl λt ht _=>by cases t<;>first |rfl |exact absurd rfl ht) λ_ h=>h
theorem HX.Mh(X:HX S A H σ)(l:List Nat):HX S A {H with wc:=l} (σ.set (A.yA .gE) (.l (av l)))/\Fm S σ (σ.set (A.yA .gE) (.l (av l))):=X.mQ (s:=.gE) trivial (X.Vu.ke (s:=.gE) trivial (λ_ h=>h) rfl λt ht _=>by cases t<;>first |rfl |exact absurd rfl ht) λ_ h=>h
theorem IJ(x:Nat):∃ch,bv x=[ch]/\ch∈[97,98,102,103]:=Cd (P:=λl=>∃ch,l=[ch]/\ch∈[97,98,102,103]) (aC 97 rfl (by decide)) (aC 98 rfl (by decide)) (aC 102 rfl (by decide)) (aC 103 rfl (by decide)) x
theorem OG{ch:Nat}(h:ch∈[97,98,102,103]):kJ ch=false/\gd [ch] [40,41,91,93,123,125,44,58]=false:=by
 simp only[Yt,Ye,or_false]at h
 rcases h with rfl |rfl |rfl |rfl<;>decide+kernel
theorem Ts(d x:Nat)(σ:aj):aL (d+1) 2 [.s (bv x)] σ (.b true) σ:=by
 refine az (IJ x) λch h1 h2=>?_
 refine ba (OG h2) λw1 w2=>?_
 rw[h1]
 have hit:=Hj (d:=d) (n:=27) (elt:=.v 1) (tg:=.v 1) (ifs:=[.r [.m 8 (.v 1) [],.p .i (.v 1) (.c (.s [40,41,91,93,123,125,44,58]))]]) (ρ:=bf [.s [ch]]) (σ:=σ) (S:=.bx ([ch].map λc=>.s [c])) (ys:=[]) (λ_ _=>rfl) id (λ_=>false) ([ch].map λc=>V.s [c]) [] (λz hz=>by
  rw[XG hz]
  exact dK _ rfl (wm (rq (dp (af (bw _ _ _)) rfl ac.an rfl (by have k:=SG (p:=[ch]) (σ:=σ);rw[show(!([ch]:List Nat).isEmpty&&[ch].all kJ)=false from by simp[w1]]at k;exact k)) (tO (aY (af (bw _ _ _)) aq (by refine(?_:some (gd [ch] _)=_);rw[w2]) trivial)))) (λh=>absurd h (by decide))) (λ_=>trivial) (show 1<=aK by decide)
 have hf:(List.filter (λ_=>false) ([ch].map λc=>V.s [c])).map id=[]:=rfl
 rw[hf,X0]at hit
 exact fV (f:=GE) rfl rfl (be (bM (Ev.rp (aY (af rfl) aq rfl (Xw _)) (Ev.yM (aY (dU (D0 (af rfl) (show 1<=aK by decide)) hit) (du ac.an) (by
  rw[As (bO _ _ aX) aX];rfl) (Xw _)))))) (by rw[XU];exact Yk _ _) rfl
theorem TP(d x:Nat){bk:Nat}(σ:aj):aL (d+2) 6 [.o 0 bk,.s (bv x)] σ .n σ:=by
 refine az (IJ x) λch h1 h2=>?_
 have hop:=Ts d x σ
 rw[h1]at hop ⊢
 have e:decide ([ch]=([63]:List Nat))=false:=by
  simp only[Yt,Ye,or_false]at h2
  rcases h2 with rfl |rfl |rfl |rfl<;>rfl
 exact cI (f:=Gk) (fl:=.n) rfl rfl (Xp (bC (rq (tN (cw (Xo (af rfl)) hop)) (tO (aY (bi (af rfl) aq (SU (bg rfl) rfl)) aq (by rw[vE,e]) (Xw _)))) aP))
theorem lD(R:HR A H σ)(h0:ρ 0=some (.o 0 (A.yA .dW)))(hc:fE 0 nm=true)(hg:cA [(10,V.r (A.yA .eL)),(11,.r (A.yA .eU)),(12,.r (A.yA .gF)),(13,.r (A.yA .gE))] nm=some v):Ev d (n+2) (.a nm (.v 0)) ρ σ v σ:=dw (af h0) hc R.gU hg
theorem Ku(d x:Nat){bk:V}:ai d 12 (.a (.v 3) (.i .a (.t [.v 1]) (.b .t [.v 2]))) (bf [bk,.s (bv x),.t (av (aN x))]) σ .n (au (bf [bk,.s (bv x),.t (av (aN x))]) 3 (hU x)) σ:=
 bh (bX (bI (Xo (af rfl))) (ci rfl (Xo (af rfl)) SX) (vk (xs:=[.s (bv x)]) (bq (by rw[Xv,Xr];exact Xs (YC (g9 x) 1) (by decide))))) bc
theorem TV(d:Nat)(R:HR A H σ)(K:jG c H)(hc:c<=6)(hx:x < c):aL (d+1) 5 [.o 0 (A.yA .dW),.s (bv x),.t (av (aN x))] σ (.i x) σ:=by
 have nu:σ[A.yA .eU]? =some (.t (fR c)):=by have:=R.aZ .eU trivial;rw[show H.iF A .eU=.t H.tT from rfl,K.nu]at this;exact this
 have dg:=FK (fR c) x
 rw[U0 hx hc]at dg
 exact cI (f:=Az) (fl:=.r _) rfl rfl (ao (Ku d x) (be (cX (aY (af rfl) (lD R rfl rfl rfl) (w9 nu dg) trivial) (be (bM (bi (lD R rfl rfl rfl) (af rfl) (mC nu (by intro _ h;cases h) dg)))))))
theorem Bx:∀c,c < 6->(∀k∈aN c,k < 2/\k < c/\j7 k=1/\jw k=1)/\((aN c).map j7).sum=(aN c).length:=by decide
theorem OW(c:Nat)(hc:c < 6):∃i is,((aN c).map λk=>(jw k:Int))++[(0:Int)]=i::is/\1+o8 i is=(jw c:Nat):=by
 match c,hc with
 |0,_=>exact eE _ _ rfl (by decide)
 |1,_=>exact eE _ _ rfl (by decide)
 |2,_=>exact eE _ _ rfl (by decide)
 |3,_=>exact eE _ _ rfl (by decide)
 |4,_=>exact eE _ _ rfl (by decide)
 |5,_=>exact eE _ _ rfl (by decide)
 |c+6,h=>exact absurd h (Zj (YQ ..))
theorem GT{f:Nat->Nat}(h:k < c):(dS (k:Int) (av ((List.range c).map f)).length).bind ((av ((List.range c).map f))[·]?)=some (.i (f k)):=by
 unfold dS
 rw[Xz (YX _)]
 refine(?_:(av ((List.range c).map f))[k]? =_)
 rw[Yy,Yy,List.getElem?_range h];rfl
theorem TU(d:Nat)(X:HX S A H σ)(K:jG c H)(hc:c < 6):∃τ H',aL (d+3) 5 [.o 0 (A.yA .dW),.s (bv c),.t (av (aN c))] σ (.i c) τ/\HX S A H' τ/\Fm S σ τ/\jG (c+1) H'/\(∀q,HB q H->HB q H'):=by
 refine ba (Bx c hc) λkf ks=>?_
 let ρ:=au (bf [.o 0 (A.yA .dW),.s (bv c),.t (av (aN c))]) 3 (hU c)
 have nodl:σ[A.yA .eL]? =some (.l ((List.range c).map hU)):=by have:=X.Vu.aZ .eL trivial;rw[show H.iF A .eL=.l ((List.range H.cb).map hU) from rfl,K.cb]at this;exact this
 have numl:σ[A.yA .eU]? =some (.t (fR c)):=by have:=X.Vu.aZ .eU trivial;rw[show H.iF A .eU=.t H.tT from rfl,K.nu]at this;exact this
 have dg:=FK (fR c) c
 rw[CT hc]at dg
 have lenc:∀{s:aj} {ρ:aA} {n:Nat},HR A H s->ρ 0=some (.o 0 (A.yA .dW))->s[A.yA .eL]? =some (.l ((List.range c).map hU))->Ev (d+2) (n+3) (.b .l [.a 10 (.v 0)]) ρ s (.i (c:Nat)) s:=λ{s ρ n} R h0 hn=>by
  have h:=ci rfl (d:=d+2) (n:=n+2) (ρ:=ρ) (Xo (lD (nm:=10) R h0 rfl rfl)) (fC hn (bq (by rw[Xr,XW];exact j4 hc rfl)))
  rw[Xr,XW]at h;exact h
 have kl:=g9 c
 -- the check of the kids
 have chk:∀(L:List Nat) (ρ':aA),(∀k∈L,k < c)->ρ' 0=some (.o 0 (A.yA .dW))->ρ' 1=ρ 1->ρ' 3=ρ 3->∃ρ'',bF (d+2) 11 (.v 4) [.i (.j (.q .a .l (.c (.i 0)) (.v 4) (.b .l [.a 10 (.v 0)]))) [.s] []] (.bx (av (aN c))) (av L) ρ' σ .n ρ'' σ/\ρ'' 0=ρ' 0/\ρ'' 1=ρ' 1/\ρ'' 3=ρ' 3:=by
  intro L
  induction L with
  |nil=>intro ρ' _ _ _ _;exact eX ρ' fG rfl rfl rfl
  |cons k L ih=>
   intro ρ' hL h0 h1 h3
   have kc:=hL k (XH ..)
   refine hX (ih (au ρ' 4 (.i k)) (λz hz=>hL z (XI _ hz)) h0 h1 h3) λρ'' f g0 g1 g3=>?_
   refine eX ρ'' (fc (S:=.bx (av (aN c))) (ρ':=au ρ' 4 (.i k)) rfl (Xp (bC (tN (Lh (r:=true) aq (af (bw _ _ _)) ?_ (show dI .a _ from trivial) (lenc X.Vu (ρ:=au ρ' 4 (.i k)) h0 nodl) ?_ (show dI .l _ from trivial))) aP)) trivial f) g0 g1 g3
   ·refine(?_:some (decide ((0:Int)<=(k:Nat)))=_);rw[XT (YX _)]
   ·refine(?_:some (decide ((k:Int) < (c:Nat)))=_);rw[XT (by exact mE kc)]
 refine hX (chk (aN c) ρ (λk hk=>(kf k hk).2.1) rfl rfl rfl) λρ4 f4 g0 g1 g3=>?_
 have sl:∀{s:aj} {ρ:aA} {n:Nat},ρ 3=some (hU c)->bA (d+2) (n+2) (.e (.e (.v 3) (some (.c (.i 1))) none)) ρ s (.bx (av (aN c))) s:=λ{s ρ n} h=>by
  refine jK (ji (af h) (aq (v:=.i 1)) (pi (xs:=.s (bv c)::av (aN c)) ⟨by decide,?_⟩ ?_)) (bq (by rw[Xr];exact bP kl rfl))
  ·rw[Xy,Xr];exact nP
  ·exact bq (by rw[Xy,Xr];exact ja kl rfl)
 -- the stores
 refine ba (X.Ml (fR (c+1))) λX1 F1=>?_
 refine ba (X1.Mk (c+1)) λX2 F2=>?_
 have s1:lY (mG (.r (A.yA .eU)) (hU c) (.i (c:Nat)) σ) (σ.set (A.yA .eU) (.t (fR (c+1)))):=by
  have h:=mB numl (by intro _ h;cases h) (bq (α:=List KV×V) (by unfold fR;rw[Xr,XW];exact j4 hc rfl)) (Pf c (.i (c:Nat)) (CT hc))
  rw[Kt]at h;exact h
 let σ1:=σ.set (A.yA .eU) (.t (fR (c+1)))
 let σ2:=σ1.set (A.yA .eL) (.l ((List.range (c+1)).map hU))
 have nod1:σ1[A.yA .eL]? =some (.l ((List.range c).map hU)):=by rw[aV λe=>by have:=X.Vu.eT .eU .eL trivial trivial e;cases this];exact nodl
 have s2:Pr (dB 0 (.r (A.yA .eL)) [hU c] σ1) .n σ2:=by
  have h:=kO (f:=hU) c nod1 (by rw[XW];exact j4 hc rfl)
  rw[<-Zx]at h;exact h
 have wel:σ2[A.yA .gF]? =some (.l (av ((List.range c).map j7))):=by have h:σ2[A.yA .gF]? =some (.l (av H.wj)):=X2.Vu.aZ .gF trivial;rw[K.we]at h;exact h
 let G1:aj:=[.l ((aN c).map λk=>.i (j7 k))]
 have hit1:=gJ (d:=d+2) (n:=26) (elt:=.s (.a 12 (.v 0)) (.v 5)) (tg:=.v 5) (ρ:=ρ4) (σ:=σ2) (S:=.bx (av (aN c))) (λ_=>rfl) (λ_=>trivial) (λk:Nat=>V.i (k:Int)) (λk=>.i (j7 k)) (aN c)
  (λk hk=>aC _ rfl (bi (lD X2.Vu (ρ:=au ρ4 5 (.i k)) g0 rfl rfl) (af (bw _ _ _)) (dL wel (gG (by have:=(kf k hk).1;unfold aK;exact j4 this rfl)) (GT (kf k hk).2.1)))) [] (bq (by rw[X0,Xr];exact bP kl rfl))
 rw[X0]at hit1
 have sm:Ev (d+2) 29 (.i .a (.c (.i 1)) (.b .s [.o (.s (.a 12 (.v 0)) (.v 5)) [.m (.v 5) (.e (.e (.v 3) (some (.c (.i 1))) none)) []]])) ρ4 σ2 (.i (j7 c)) (σ2++G1):=by
  have h:=ci rfl (d:=d+2) (n:=27) (ρ:=ρ4) (Xo (dU (sl g3) hit1)) (x3 aX (uP j7 (aN c)) (bq (by rw[Xr];exact bP kl rfl)) λi hi=>by
   refine az (Yf hi) λz hz q2=>?_;subst q2
   rw[(kf z hz).2.2.1];unfold bY;exact qI nP nP)
  rw[Kp,ks]at h
  exact bX (aq (v:=.i 1)) h iy
 refine ba ((X2.kh G1).Mn ((List.range (c+1)).map j7)) λX4 F4=>?_
 let σ4:=(σ2++G1).set (A.yA .gF) (.l (av ((List.range (c+1)).map j7)))
 have s4:Pr (dB 0 (.r (A.yA .gF)) [.i (j7 c)] (σ2++G1)) .n σ4:=by
  have h:=kO (f:=λn:Nat=>V.i (n:Int)) (j7 c) (bO _ G1 wel) (by rw[Xr,XW];exact j4 hc rfl)
  rw[<-hH j7,<-Zx]at h;exact h
 have del:σ4[A.yA .gE]? =some (.l (av ((List.range c).map jw))):=by have h:σ4[A.yA .gE]? =some (.l (av H.wc)):=X4.Vu.aZ .gE trivial;rw[K.de]at h;exact h
 refine dY (OW c hc) λmi ms me mv=>?_
 let L1:List V:=(aN c).map λk=>.i (jw k)
 let G2:aj:=[.l L1,.l [.i 0],.l (L1++[.i 0])]
 have hit2:=gJ (d:=d+2) (n:=25) (elt:=.s (.a 13 (.v 0)) (.v 6)) (tg:=.v 6) (ρ:=ρ4) (σ:=σ4) (S:=.bx (av (aN c))) (λ_=>rfl) (λ_=>trivial) (λk:Nat=>V.i (k:Int)) (λk=>.i (jw k)) (aN c)
  (λk hk=>aC _ rfl (bi (lD X4.Vu (ρ:=au ρ4 6 (.i k)) g0 rfl rfl) (af (bw _ _ _)) (dL del (gG (by have:=(kf k hk).1;unfold aK;exact j4 this rfl)) (GT (kf k hk).2.1)))) [] (bq (by rw[X0,Xr];exact bP kl rfl))
 rw[X0]at hit2
 have l3:(L1++[V.i 0]).length<=300:=by rw[Xv,Xr];refine(?_:(aN c).length+1<=300);exact ja kl rfl
 have io:jz (L1++[V.i 0])=some (mi::ms):=by
  rw[<-me,show L1++[V.i 0]=(((aN c).map λk=>(jw k:Int))++[0]).map V.i from by rw[Yc,XV];rfl]
  exact G6 _
 have mx:Ev (d+2) 29 (.i .a (.c (.i 1)) (.b .m [.i .a (.o (.s (.a 13 (.v 0)) (.v 6)) [.m (.v 6) (.e (.e (.v 3) (some (.c (.i 1))) none)) []]) (.d [.c (.i 0)])])) ρ4 σ4 (.i (jw c:Nat)) (σ4++G2):=by
  have hb:=bX (d:=d+2) (n:=26) (op:=.a) (ρ:=ρ4) (dU (sl g3) hit2) (du (Xo (aq (v:=.i 0)))) (pf (bO _ _ aX) aX (bq l3))
  have h:=ci rfl (d:=d+2) (n:=27) (ρ:=ρ4) (Xo hb) (SJ aX io (bq l3))
  have h2:=bX (d:=d+2) (n:=28) (op:=.a) (aq (v:=.i 1)) h iy
  rw[mv]at h2
  have ea:σ4++[.l L1]++[.l [.i 0]]++[.l (L1++[.i 0])]=σ4++G2:=by rw[XU,XU];rfl
  exact ea▸h2
 refine ba ((X4.kh G2).Mh ((List.range (c+1)).map jw)) λX6 F6=>?_
 let σ6:=(σ4++G2).set (A.yA .gE) (.l (av ((List.range (c+1)).map jw)))
 have s6:Pr (dB 0 (.r (A.yA .gE)) [.i (jw c:Nat)] (σ4++G2)) .n σ6:=by
  have h:=kO (f:=λn:Nat=>V.i (n:Int)) (jw c) (bO _ G2 del) (by rw[Xr,XW];exact j4 hc rfl)
  rw[<-hH jw,<-Zx]at h;exact h
 have fin:Ev (d+2) 30 (.i .s (.b .l [.a 10 (.v 0)]) (.c (.i 1))) ρ4 σ6 (.i (c:Nat)) σ6:=by
  have h:=ci rfl (d:=d+2) (n:=28) (ρ:=ρ4) (Xo (lD (nm:=10) X6.Vu g0 rfl rfl)) (fC (xs:=(List.range (c+1)).map hU) (X6.Vu.aZ .eL trivial) (bq (by rw[Xr,XW];exact bP hc rfl)))
  rw[Xr,XW]at h
  have h2:=bX (op:=.s) h (aq (v:=.i 1)) j2
  have e:(((c+1:Nat):Int) - 1)=(c:Nat):=qW
  rw[e]at h2;exact h2
 refine iu σ6 _ (cI (f:=Az) (fl:=.r _) (ρ':=ρ4) rfl rfl (ao (Ku (d+2) c) (ao (bC (aY (af rfl) (lD X.Vu rfl rfl rfl) (w9 numl dg) trivial) aP) (ao (dv (bQ (af rfl) X.Vu.gU rfl (Xo (af rfl)) (TP d c σ)))
  (ao (fg (S:=.bx (av (aN c))) (sl rfl) f4) (ao (bh (lenc X.Vu g0 nodl) (kX (lD X.Vu g0 rfl rfl) (af g3) s1)) (ao (dv (dp (lD X1.Vu g0 rfl rfl) (eI nod1 rfl) (Xo (af g3)) rfl s2))
  (ao (dv (dp (lD X2.Vu g0 rfl rfl) (eI wel rfl) (Xo sm) (uW wel (bO _ G1 wel)) s4)) (ao (dv (dp (lD X4.Vu g0 rfl rfl) (eI del rfl) (Xo mx) (uW del (bO _ G2 del)) s6)) (be (bM fin))))))))))) X6 ?_ (⟨rfl,rfl,rfl,rfl⟩) (λq h=>⟨h.c6,h.hc,h.ua,h.rt,h.lo,h.WR,h.ed,h.fo,h.kn,h.WE,h.ab,h.wa⟩)
 exact((F1.fT F2).fT (X2.tU G1)).fT (F4.fT ((X4.tU G2).fT F6))
end
section
variable {d n a b i j k m q l c:Nat}{u v w:V}{o:O}{e:Ex}{r:Rs}{S:Nat->Prop}
theorem HX.DG(X:HX S A H σ)(s0:Sl)(hq:σ.length<=q)(hA:∀s,s≠s0->A'.yA s=A.yA s)(hA0:A'.yA s0=q)(hok:∀s,s≠s0->H'.ok s->H.ok s)(h0:τ[q]? =some (H'.iF A' s0))(hl:σ.length<=τ.length)(h:∀s,s≠s0->H'.ok s->τ[A.yA s]? =some (H'.iF A' s)):HX S A' H' τ:=by
 have lt:∀s,s≠s0->H'.ok s->A.yA s < q:=λs hs ho=>XJ (X.Vu.lt (hok s hs ho)) hq
 refine⟨⟨λs t hs ht e=>?_,λs hs=>?_⟩,λi hi=>⟨XJ (X.d9 i hi).1 hl,λs hs=>?_⟩⟩
 ·by_cases e1:s=s0
  ·by_cases e2:t=s0
   ·rw[e1,e2]
   ·rw[e1,hA0,hA t e2]at e;exact absurd e.symm (XQ (lt t e2 ht))
  ·by_cases e2:t=s0
   ·rw[e2,hA0,hA s e1]at e;exact absurd e (XQ (lt s e1 hs))
   ·rw[hA s e1,hA t e2]at e;exact X.Vu.eT s t (hok s e1 hs) (hok t e2 ht) e
 ·by_cases e1:s=s0
  ·rw[e1,hA0];exact h0
  ·rw[hA s e1];exact h s e1 hs
 ·by_cases e1:s=s0
  ·rw[e1,hA0];exact Y3 (XJ (X.d9 i hi).1 hq)
  ·rw[hA s e1];exact(X.d9 i hi).2 s (hok s e1 hs)
noncomputable def Sl.Nv(k:Nat)(s:Sl):Bool:=match s with
 | .cY r=>decide (r=k)
 |_=>false
noncomputable def Ad.nV(A:Ad)(k q:Nat):Ad:=⟨λs=>bif s.Nv k then q else A.yA s⟩
theorem yC{s:Sl}(h:s≠.cY k):(A.nV k q).yA s=A.yA s:=by
 cases s with
 |cY r=>refine(?_:(bif decide (r=k)then _ else _)=_);rw[Yb λe:r=k=>h (e▸rfl)];rfl
 |_=>rfl
theorem C6:(A.nV k q).yA (.cY k)=q:=by refine(?_:(bif decide (k=k)then _ else _)=_);rw[XT rfl];rfl
theorem BZ(R:HR A H σ){s t:Sl}(hs:H.ok s)(ht:H.ok t)(h:s≠t):A.yA s≠A.yA t:=λe=>h (R.eT s t hs ht e)
theorem JW(d:Nat)(R:HR A H σ)(hc:H.KM<=6):aL (d+1) 12 [.o 1 (A.yA .un)] σ (.i H.KM) σ:=by
 have h:=ci rfl (d:=d) (n:=29) (ρ:=bf [.o 1 (A.yA .un)]) (Xo (dw (m:=17) (af (n:=27) (i:=0) rfl) rfl (R.aZ .un trivial) rfl)) (fC (R.aZ .c7 trivial) (bq (by rw[Xr,XW];exact bP hc rfl)))
 rw[Xr,XW]at h
 exact cI (f:=GC) (fl:=.r _) rfl rfl (be (bM h))
theorem TC(d:Nat)(X:HX S A H σ)(hc:H.KM<=6)(hu:H.ua H.KM=H.KM)(hl:H.cV H.KM=[H.KM]):∃τ,aL (d+1) 11 [.o 1 (A.yA .un)] σ (.i H.KM) τ/\HX S (A.nV H.KM σ.length) {H with KM:=H.KM+1} τ/\Fm S σ τ/\(A.nV H.KM σ.length).yA .aJ=A.yA .aJ:=by
 have R:=X.Vu
 let f:=λx:Nat=>V.i (H.ua x:Int)
 let g:=λx:Nat=>V.r (A.yA (.cY x))
 let σ1:=σ.set (A.yA .c7) (.l ((List.range (H.KM+1)).map f))
 have n1:σ1.length=σ.length:=XN
 let σ2:aj:=σ1++[.l [.i (H.KM:Nat)]]
 let L3:List V:=(List.range H.KM).map g++[.r σ.length]
 let σ3:=σ2.set (A.yA .fj) (.l L3)
 have un:σ[A.yA .un]? =some (H.iF A .un):=R.aZ .un trivial
 have nu:∀{t:Sl},H.ok t->t≠.c7->A.yA .c7≠A.yA t:=λht h=>BZ R (s:=.c7) trivial ht h.symm
 have nl:∀{t:Sl},H.ok t->t≠.fj->A.yA .fj≠A.yA t:=λht h=>BZ R (s:=.fj) trivial ht h.symm
 have len:∀{s:aj} {nm ad:Nat} {xs:List V},s[A.yA .un]? =some (H.iF A .un)->fE 1 nm=true->cA [(17,V.r (A.yA .c7)),(18,.r (A.yA .fj)),(19,.r (A.yA .fL))] nm=some (.r ad)->s[ad]? =some (.l xs)->xs.length<=300->∀n,Ev d (n+3) (.b .l [.a nm (.v 0)]) (bf [.o 1 (A.yA .un)]) s (.i xs.length) s:=λh hc hg hx hl n=>ci rfl (Xo (dw (af rfl) hc h hg)) (fC hx (bq hl))
 have r6:((List.range H.KM).map f).length=H.KM:=by rw[Xr,XW]
 have e1:=len un (nm:=17) rfl rfl (R.aZ .c7 trivial) (by rw[Xr,XW];exact bP hc rfl)
 rw[Xr,XW]at e1
 have p1:Pr (dB 0 (.r (A.yA .c7)) [.i (H.KM:Nat)] σ) .n σ1:=by
  have h:=ph (v:=.i (H.KM:Nat)) (R.aZ .c7 trivial) (bq (by rw[Xr,XW];exact bP hc rfl))
  have e:(List.range H.KM).map (λx=>V.i (H.ua x:Int))++[.i (H.KM:Nat)]=(List.range (H.KM+1)).map f:=by rw[Zx,Yc];refine(?_:_=_++[V.i (H.ua H.KM:Int)]);rw[hu]
  rw[e]at h;exact h
 have un1:σ1[A.yA .un]? =some (H.iF A .un):=(aV (nu (t:=.un) trivial (cJ rfl))).trans un
 have lo1:σ1[A.yA .fj]? =some (.l ((List.range H.KM).map g)):=(aV (nu (t:=.fj) trivial (cJ rfl))).trans (R.aZ .fj trivial)
 have e2:=len un1 (nm:=18) rfl rfl lo1 (by rw[Xr,XW];exact bP hc rfl)
 rw[Xr,XW]at e2
 have lo2:σ2[A.yA .fj]? =some (.l ((List.range H.KM).map g)):=bO _ _ lo1
 have p2:Pr (dB 0 (.r (A.yA .fj)) [.r σ1.length] σ2) .n σ3:=by rw[n1];exact ph lo2 (bq (by rw[Xr,XW];exact bP hc rfl))
 have un3:σ3[A.yA .un]? =some (H.iF A .un):=(aV (nl (t:=.un) trivial (cJ rfl))).trans (bO _ _ un1)
 have ua3:σ3[A.yA .c7]? =some (.l ((List.range (H.KM+1)).map f)):=(aV (nl (t:=.c7) trivial (cJ rfl))).trans (bO _ _ (cS (R.aZ .c7 trivial)))
 have e3:=len un3 (nm:=17) rfl rfl ua3 (by rw[Xr,XW];exact ja hc rfl)
 rw[Xr,XW]at e3
 have fin:Ev d 30 (.i .s (.b .l [.a 17 (.v 0)]) (.c (.i 1))) (bf [.o 1 (A.yA .un)]) σ3 (.i (H.KM:Nat)) σ3:=by
  have h2:=bX (n:=29) (op:=.s) (e3 26) (aq (v:=.i 1)) j2
  have e:(((H.KM+1:Nat):Int) - 1)=(H.KM:Nat):=qW
  rw[e]at h2;exact h2
 have lu:=X.Vu.lt (s:=.fj) trivial
 refine eX σ3 (cI (f:=GA) (fl:=.r _) rfl rfl (ao (dv (dp (dw (af rfl) rfl un rfl) (eI (R.aZ .c7 trivial) rfl) (Xo (e1 26)) rfl p1)) (ao (dv (dp (dw (af rfl) rfl un1 rfl) (eI lo1 rfl) (Xo (du (Xo (e2 25)))) (uW lo1 lo2) p2)) (be (bM fin))))) (X.DG (q:=σ.length) (.cY H.KM) (Xx _) (λs h=>yC h) C6 ?_ ?_ ?_ ?_) (λi hi=>?_) (yC (by intro h;cases h))
 ·intro s hs ho
  cases s with
  |cY i=>exact Nat.lt_of_le_of_ne (Nat.le_of_lt_succ ho) λe=>hs (by rw[e])
  |_=>exact ho
 ·show σ3[σ.length]? =some (O.l (av (H.cV H.KM)))
  rw[hl,aV (XQ lu),<-n1];exact aX
 ·rw[XN,Xv,n1];exact XS ..
 ·intro s hs ho
  have old:∀{t:Sl},H.ok t->t≠.c7->t≠.fj->σ3[A.yA t]? =some (H.iF A t):=λht h1 h2=>(aV (nl ht h2)).trans (bO _ _ ((aV (nu ht h1)).trans (R.aZ _ ht)))
  cases s with
  |c7=>exact ua3
  |fj=>
   rw[cS lo2]
   refine(?_:some (O.l L3)=some (O.l ((List.range (H.KM+1)).map λx=>V.r ((A.nV H.KM σ.length).yA (.cY x)))))
   rw[Zx,Yc]
   have e1:(List.range H.KM).map (λx=>V.r ((A.nV H.KM σ.length).yA (.cY x)))=(List.range H.KM).map g:=Y0 λz hz=>by rw[yC λe=>XQ (YB hz) (by cases e;rfl)]
   have e2:[H.KM].map (λx=>V.r ((A.nV H.KM σ.length).yA (.cY x)))=[V.r σ.length]:=by refine(?_:[V.r _]=_);rw[C6]
   rw[e1,e2]
  |cY i=>exact old (Nat.lt_of_le_of_ne (Nat.le_of_lt_succ ho) λe=>hs (by rw[e])) (by intro h;cases h) (by intro h;cases h)
  |cj r=>exact old (t:=.cj r) ho (by intro h;cases h) (by intro h;cases h)
  |aJ=>exact old (t:=.aJ) trivial (cJ rfl) (cJ rfl)
  |dW=>exact old (t:=.dW) trivial (cJ rfl) (cJ rfl)
  |eL=>exact old (t:=.eL) trivial (cJ rfl) (cJ rfl)
  |eU=>exact old (t:=.eU) trivial (cJ rfl) (cJ rfl)
  |gF=>exact old (t:=.gF) trivial (cJ rfl) (cJ rfl)
  |gE=>exact old (t:=.gE) trivial (cJ rfl) (cJ rfl)
  |un=>exact old (t:=.un) trivial (cJ rfl) (cJ rfl)
  |fL=>exact old (t:=.fL) trivial (cJ rfl) (cJ rfl)
  |fJ=>exact old (t:=.fJ) trivial (cJ rfl) (cJ rfl)
  |fK=>exact old (t:=.fK) trivial (cJ rfl) (cJ rfl)
  |fh=>exact old (t:=.fh) trivial (cJ rfl) (cJ rfl)
  |cF=>
   refine(old (t:=.cF) trivial (cJ rfl) (cJ rfl)).trans ?_
   rfl
  |eZ=>exact old (t:=.eZ) trivial (cJ rfl) (cJ rfl)
 ·rw[aV ((X.d9 i hi).2 .fj trivial),show σ2[i]? =σ1[i]? from Yl (by rw[n1];exact(X.d9 i hi).1),aV ((X.d9 i hi).2 .c7 trivial)]
theorem Uk(d:Nat)(X:HX S A H σ)(hk:k∉H.bW)(h6:H.bW.length<=6)(h0:ρ 0=some (.o 2 (A.yA .aJ)))(h3:ρ 3=some (.i k)):∃τ,ai d 12 (.a (.s (.a 17 (.v 0)) (.v 3)) (.d [])) ρ σ .n ρ τ/\HX S (A.j8 k σ.length) {H with bW:=H.bW++[k],bz:=cm H.bz k []} τ/\Fm S σ τ/\(A.j8 k σ.length).yA .aJ=A.yA .aJ:=by
 have R:=X.Vu
 have ab:=R.aZ .cF trivial
 let f:=λr:Nat=>V.r (A.yA (.cj r))
 have gn:cA (H.bW.map λr:Nat=>((r:Int),f r)) (k:Int)=none:=by
  unfold cA
  rw[Option.map_eq_none_iff,List.find?_eq_none]
  intro e he hq
  refine az (Yf he) λz hz q2=>?_;subst q2
  exact hk (Int.ofNat.inj (XX hq)▸hz)
 let D:O:=.d ((H.bW.map λr:Nat=>((r:Int),f r))++[((k:Int),.r σ.length)])
 have ds:fP (.d (H.bW.map λr:Nat=>((r:Int),f r))) (.i k) (.r σ.length)=some D:=by refine(?_:some (O.d (eC _ _ _))=_);rw[wZ gn]
 let σ1:aj:=σ++[.l []]
 have st:=mB (bO σ [.l []] ab) (by intro _ h;cases h) (bq (α:=Int×V) (by rw[Xr];exact bP h6 rfl)) ds
 have la:=X.Vu.lt (s:=.cF) trivial
 have na:∀{t:Sl},H.ok t->t≠.cF->A.yA .cF≠A.yA t:=λht h=>BZ R (s:=.cF) trivial ht h.symm
 refine eX (σ1.set (A.yA .cF) D) (bh (du ac.an) (kX (eH (R.gy _) h0 rfl rfl) (af h3) st)) (X.DG (q:=σ.length) (.cj k) (Xx _) (λs h=>vO h) yB ?_ ?_ ?_ ?_) (λi hi=>?_) (vO (by intro h;cases h))
 ·intro s hs ho
  cases s with
  |cj i=>exact(XM ho).elim id λh=>absurd (XB Sl.cj (XG h)) hs
  |_=>exact ho
 ·show(σ1.set (A.yA .cF) D)[σ.length]? =some (O.l (av (cm H.bz k [] k)))
  rw[gq,aV (XQ la)];exact aX
 ·rw[XN,Xv];exact XS ..
 ·intro s hs ho
  have old:∀{t:Sl},H.ok t->t≠.cF->(σ1.set (A.yA .cF) D)[A.yA t]? =some (H.iF A t):=λht h1=>(aV (na ht h1)).trans (bO _ _ (R.aZ _ ht))
  cases s with
  |cF=>
   rw[cS (bO _ _ ab)]
   refine(?_:some D=some (O.d ((H.bW++[k]).map λr:Nat=>((r:Int),V.r ((A.j8 k σ.length).yA (.cj r))))))
   rw[Yc]
   have e1:H.bW.map (λr:Nat=>((r:Int),V.r ((A.j8 k σ.length).yA (.cj r))))=H.bW.map λr:Nat=>((r:Int),f r):=Y0 λz hz=>by rw[vO λe=>hk (by cases e;exact hz)]
   have e2:[k].map (λr:Nat=>((r:Int),V.r ((A.j8 k σ.length).yA (.cj r))))=[((k:Int),V.r σ.length)]:=by refine(?_:[((k:Int),V.r _)]=_);rw[yB]
   rw[e1,e2]
  |cj i=>
   have hi:i≠k:=λe=>hs (by rw[e])
   refine(old (t:=.cj i) ((XM ho).elim id λh=>absurd (XG h) hi) (by intro h;cases h)).trans ?_
   refine(?_:some (O.l (av (H.bz i)))=some (O.l (av (cm H.bz k [] i))))
   rw[eS hi]
  |cY i=>exact old (t:=.cY i) ho (by intro h;cases h)
  |aJ=>exact old (t:=.aJ) trivial (cJ rfl)
  |dW=>exact old (t:=.dW) trivial (cJ rfl)
  |eL=>exact old (t:=.eL) trivial (cJ rfl)
  |eU=>exact old (t:=.eU) trivial (cJ rfl)
  |gF=>exact old (t:=.gF) trivial (cJ rfl)
  |gE=>exact old (t:=.gE) trivial (cJ rfl)
  |un=>exact old (t:=.un) trivial (cJ rfl)
  |c7=>exact old (t:=.c7) trivial (cJ rfl)
  |fj=>exact old (t:=.fj) trivial (cJ rfl)
  |fL=>exact old (t:=.fL) trivial (cJ rfl)
  |fJ=>exact old (t:=.fJ) trivial (cJ rfl)
  |fK=>exact old (t:=.fK) trivial (cJ rfl)
  |fh=>exact old (t:=.fh) trivial (cJ rfl)
  |eZ=>exact old (t:=.eZ) trivial (cJ rfl)
 ·rw[aV ((X.d9 i hi).2 .cF trivial)];exact Yl (X.d9 i hi).1
theorem HX.Mg(X:HX S A H σ)(hk:k∈H.bW)(l:List Nat):HX S A {H with bz:=cm H.bz k l} (σ.set (A.yA (.cj k)) (.l (av l)))/\Fm S σ (σ.set (A.yA (.cj k)) (.l (av l))):=
 X.mQ (s:=.cj k) hk (X.Vu.ke (s:=.cj k) hk (λ_ h=>h) (by refine(?_:O.l (av (cm H.bz k l k))=_);rw[gq]) λt ht _=>by
  cases t with
  |cj i=>refine(?_:O.l (av (cm H.bz k l i))=_);rw[eS λe=>ht (by rw[e])];rfl
  |_=>rfl) λ_ h=>h
noncomputable def Oa:List St:=match xn.dZ with | [_,_,_,_,.l _ _ b,_,_]=>b |_=>[]
theorem N'(d:Nat){q0 bd:Nat}(hbd:bd<=100)(h0:ρ 0=some (.o 2 (A.yA .aJ)))(h3:ρ 3=some (.i k)):∀(L:List Nat) (H:HS) (σ:aj) (ρ':aA),HX S A H σ->(∀s,H.ok s->A.yA s≠q0)->σ[q0]? =some (.l ys)->(∀r∈L,r∈H.bW)->L.Nodup->(∀r,(H.bz r).length+(if r∈L then 1 else 0)<=bd/\∀z∈H.bz r,z<=k)->(∀j,j≠4->ρ' j=ρ j)->
  ∃ρ'' τ ab,(∀j,j≠4->ρ'' j=ρ j)/\bF d 11 (.v 4) Oa (.cr q0 ys) (av L) ρ' σ .n ρ'' τ/\HX S A {H with bz:=ab} τ/\Fm S σ τ/\∀r,(ab r).length<=bd/\∀z∈ab r,z<=k:=by
 intro L
 induction L with
 |nil=>intro H σ ρ' X _ _ _ _ hb hρ;exact xM ρ' σ H.bz hρ fG X (λ_ _=>rfl) (λr=>⟨by have:=(hb r).1;rw[XC (by intro h;cases h)]at this;exact this,(hb r).2⟩)
 |cons r L ih=>
  intro H σ ρ' X hq hs hk hn hb hρ
  have rk:=hk r (XH ..)
  have nn:=Zq hn
  have h300:(H.bz r).length<=300:=by have:=(hb r).1;exact bT (bP (qT this hbd) rfl)
  refine ba (X.Mg rk (H.bz r++[k])) λX1 F1=>?_
  let σ1:=σ.set (A.yA (.cj r)) (.l (av (H.bz r++[k])))
  have s1:σ1[q0]? =some (.l ys):=(aV (hq (.cj r) rk)).trans hs
  have pa:=kO (f:=λn:Nat=>V.i (n:Int)) k (X.Vu.aZ (.cj r) rk) h300
  refine B7 (ih _ σ1 (au ρ' 4 (.i r)) X1 hq s1 (λz hz=>hk z (XI _ hz)) nn.2 (λz=>by
   refine(?_:(cm H.bz r (H.bz r++[k]) z).length+_<=_/\∀u∈cm H.bz r (H.bz r++[k]) z,_)
   by_cases e:z=r
   ·subst e
    rw[gq,XC nn.1,Xv]
    have h1:=(hb z).1
    rw[Xz (XH ..)]at h1
    exact bm h1 (λu hu=>(XM hu).elim ((hb z).2 u) λh=>Yd (XG h))
   ·rw[eS e]
    have h1:=(hb z).1
    refine bm ?_ ((hb z).2)
    by_cases hz:z∈L
    ·rw[Xz (XI _ hz)]at h1;rw[Xz hz];exact h1
    ·rw[XC hz];lia) (λj hj=>(bR _ _ hj).trans (hρ j hj))) λρ'' τ ab f1 f2 f3 f4 f5=>?_
  exact xM ρ'' τ ab f1 (fc (S:=.cr q0 ys) (ρ':=au ρ' 4 (.i r)) rfl (Xp (dv (dp (bi (eH X.Vu (ρ:=au ρ' 4 (.i r)) ((hρ 0 (by decide)).trans h0) rfl rfl) (af (bw _ _ _)) (Ck (X.Vu.aZ .cF trivial) rk)) (eI (X.Vu.aZ (.cj r) rk) rfl) (Xo (af (i:=3) ((hρ 3 (by decide)).trans h3))) rfl pa))) s1 f2) f3 (F1.fT f4) f5
end
section
variable {d n a b i j k m q l c:Nat}{u v w:V}{o:O}{e:Ex}{r:Rs}{S:Nat->Prop}
theorem QJ(c:Nat):((aN c).map λk:Nat=>(k:Int))∈([[],[0],[1],[0,1],[1,0]]:List (List Int)):=By (P:=λl=>(l.map λk:Nat=>(k:Int))∈([[],[0],[1],[0,1],[1,0]]:List (List Int))) (by decide) (by decide) (by decide) (by decide) (by decide) c
theorem HB.hi(B:HB c H)(K:H.cb=c):HI H:=⟨by rw[B.hc];exact B.c6,λx _=>Yd (B.ua x),λx _=>by rw[B.ua],λx _ _=>B.rt x,λx _=>Yd (B.rt x),λx _=>by rw[B.rt,B.ua],by rw[K,B.hc]⟩
theorem Tj(d:Nat)(X:HX S A H σ)(B:HB c H)(K:jG c H)(hx:x < c)(hk:aN x=[]):aL (d+2) 20 [.o 2 (A.yA .aJ),.s (bv x),.t []] σ (.i x) σ:=by
 have tk:=TV d X.Vu K B.c6 hx
 rw[hk]at tk
 have sz:=JW d X.Vu (by rw[B.hc];exact B.c6)
 rw[B.hc]at sz
 refine cI (f:=xn) (fl:=.r _) rfl rfl (ao (bh (bQ (eH X.Vu rfl rfl rfl) X.Vu.gU rfl (ac.ah (af rfl) (Xo (af rfl))) tk) bc) (be (cX (aY (af rfl) (bQ (eH X.Vu rfl rfl rfl) (X.Vu.aZ .un trivial) rfl ac.an sz) ?_ trivial) (be (bM (af rfl))))))
 refine(?_:some (decide ((x:Int) < (c:Nat)))=_)
 rw[XT (by exact mE hx)]
theorem Uo(c:Nat)(hc:c < 6):∃L:List Nat,iP (oS ((aN c).map λk:Nat=>(k:Int)))=L.map (λk:Nat=>(k:Int))/\L.Nodup/\(∀z∈L,z < c)/\L.length<=2/\(c < 2->L=[]):=by
 match c,hc with
 |0,_=>exact fB ([]) (by decide)
 |1,_=>exact fB ([]) (by decide)
 |2,_=>exact fB ([0]) (by decide)
 |3,_=>exact fB ([1]) (by decide)
 |4,_=>exact fB ([0,1]) (by decide)
 |5,_=>exact fB ([0,1]) (by decide)
 |c+6,h=>exact absurd h (Zj (YQ ..))
theorem Ti(d:Nat)(X:HX S A H σ)(B:HB c H)(K:jG c H)(hc:c < 6):∃A' H' τ,aL (d+5) 20 [.o 2 (A.yA .aJ),.s (bv c),.t (av (aN c))] σ (.i c) τ/\HX S A' H' τ/\Fm S σ τ/\HB (c+1) H'/\jG (c+1) H'/\A'.yA .aJ=A.yA .aJ:=by
 refine i8 (TU (d+1) X K hc) λσ1 H1 t1 X1 F1 K1 hB=>?_
 have B1:=hB c B
 have hc1:H1.KM=c:=B1.hc
 have sz:=JW (d+3) X1.Vu (by rw[hc1];exact B.c6)
 refine hX (TC (d+3) X1 (by rw[hc1];exact B.c6) (B1.ua _) (B1.lo _)) λσ2 t2 X2 F2 h2=>?_
 rw[hc1]at sz t2 X2 h2
 let A2:=A.nV c σ1.length
 let H2:HS:={H1 with KM:=c+1}
 have X2:HX S A2 H2 σ2:=X2
 let ρ:=au (bf [.o 2 (A.yA .aJ),.s (bv c),.t (av (aN c))]) 3 (.i (c:Nat))
 have h0:ρ 0=some (.o 2 (A2.yA .aJ)):=by rw[h2];rfl
 refine hX (Uk (d+4) X2 (k:=c) (ρ:=ρ) (by refine(?_:c∉H1.bW);rw[B1.WE];intro h;exact YW _ (YB h)) (by refine(?_:H1.bW.length<=6);rw[B1.WE,XW];exact B.c6) h0 rfl) λσ3 t3 X3 F3 h3=>?_
 let A3:=A2.j8 c σ2.length
 let H3:HS:={H2 with bW:=H1.bW++[c],bz:=cm H1.bz c []}
 have X3:HX S A3 H3 σ3:=X3
 have h0':ρ 0=some (.o 2 (A3.yA .aJ)):=by rw[h3];exact h0
 have I3:HI H3:=⟨hc,λx _=>Yd (B1.ua x),λx _=>XB H1.rt (B1.ua x),λx _ _=>B1.rt x,λx _=>Yd (B1.rt x),λx _=>(B1.ua _),K1.cb⟩
 refine ba (Bx c hc) λkf _=>?_
 have kl:=g9 c
 refine u8 (Uo c hc) λL sL nL cL l2 e2=>?_
 let G1:aj:=[.l (av (aN c))]
 let G2:aj:=[.l (av L)]
 have hit:=gJ (d:=d+4) (n:=28) (elt:=.m 20 (.v 0) [.v 5]) (tg:=.v 5) (ρ:=ρ) (σ:=σ3) (S:=.bx (av (aN c))) (λ_=>rfl) (λ_=>trivial) (λk:Nat=>V.i (k:Int)) (λk=>.i (k:Int)) (aN c)
  (λk hk=>aC _ rfl (by
   have h:=qv (d:=d+2) (n:=26) (ρ:=au ρ 5 (.i k)) (i:=5) X3 I3 (ZA (kf k hk).2.1) h0' (bw _ _ _)
   rw[show H3.rt k=k from B1.rt k]at h;exact h)) [] (bq (by rw[X0,Xr];exact bP kl rfl))
 rw[X0]at hit
 have so:=SO (σ:=σ3++G1) aX (uP (λk=>k) (aN c)) (QJ c)
 rw[sL,show(L.map λk:Nat=>(k:Int)).map V.i=av L from by rw[XV];rfl]at so
 have ov:bA (d+4) 30 (.e (.b .r [.o (.m 20 (.v 0) [.v 5]) [.m (.v 5) (.e (.v 2)) []]])) ρ σ3 (.cr (σ3++G1).length (av L)) (σ3++G1++G2):=
  fe (Li (dU (jK (af (i:=2) rfl) (bq (by rw[Xr];exact bP kl rfl))) hit) so) aX (bq (by rw[Xr];exact bP l2 rfl))
 have X3g:=(X3.kh G1).kh G2
 have bd:∀r,(H3.bz r).length+(if r∈L then 1 else 0)<=c+1 - 2/\∀z∈H3.bz r,z<=c:=λr=>by
  have ob:=B1.ab r
  have ih:(if r∈L then 1 else 0)<=1:=by split<;>decide
  by_cases e:r=c
  ·have:H3.bz r=[]:=by refine(?_:cm H1.bz c [] r=_);rw[e,gq]
   rw[this]
   refine bm ?_ (λz hz=>(nomatch hz))
   rw[XC λh=>XQ (cL r h) e];exact Xw _
  ·have:H3.bz r=H1.bz r:=by refine(?_:cm H1.bz c [] r=_);rw[eS e]
   rw[this]
   refine bm ?_ (λz hz=>Yj (ob.2 z hz))
   rcases Nat.lt_or_ge c 2 with h |h
   ·rw[e2 h,XC (by intro h;cases h)];exact qGm ob
   ·exact qGn ob ih h
 refine B7 (N' (bd:=c+1 - 2) (d+4) (by lia) (A:=A3) (S:=S) (ρ:=ρ) (k:=c) (q0:=(σ3++G1).length) (ys:=av L) h0' rfl L H3 (σ3++G1++G2) ρ X3g (λs hs e=>by have:=X3.Vu.lt (s:=s) hs;rw[e,Xv]at this;exact Cu this iO) aX (λr hr=>YG _ (by rw[B1.WE];exact Y' (cL r hr))) nL bd (λ_ _=>rfl)) λρ4 σ4 ab k4 f4 X4 F4 b4=>?_
 let H4:HS:={H3 with bz:=ab}
 have X4:HX S A3 H4 σ4:=X4
 have I4:HI H4:=⟨I3.c6,I3.lh,I3.lT,I3.iS,I3.lS,I3.jp,I3.cb⟩
 have kk:iM H4 c=jA c:=by unfold iM jA;congr 1;exact Y0 λk _=>by rw[show H4.rt k=k from B1.rt k]
 have lk:=JU d X4 I4 (x:=c) (Zi _) (by rw[kk,show H4.dH=fR c from B1.kn];exact CT hc) (by rw[show H4.dH=fR c from B1.kn];unfold fR;rw[Xr,XW];exact Xs B.c6 (by decide))
 refine ba (X4.y9 (H4.dH++[(iM H4 c,.i c)])) λX5 F5=>?_
 have h5:A3.yA .aJ=A.yA .aJ:=h3.trans h2
 refine xN A3 ({H4 with dH:=H4.dH++[(iM H4 c,.i c)]}) (σ4.set (A3.yA .fh) (.t (H4.dH++[(iM H4 c,.i c)]))) (cI (f:=xn) (fl:=.r _) (ρ':=ρ4) rfl rfl (ao (bh (bQ (eH X.Vu rfl rfl rfl) X.Vu.gU rfl (ac.ah (af rfl) (Xo (af rfl))) t1) bc)
  (ao (bC (aY (af rfl) (bQ (eH X1.Vu rfl rfl rfl) (X1.Vu.aZ .un trivial) rfl ac.an sz) ?_ trivial) aP) (ao (dv (bQ (eH X1.Vu rfl rfl rfl) (X1.Vu.aZ .un trivial) rfl ac.an t2)) (ao t3 (ao (fg (S:=.cr (σ3++G1).length (av L)) ov f4)
  (ao (dv (bQ (af ((k4 0 (by decide)).trans h0')) (dy X4.Vu) rfl (Xo (af (k4 3 (by decide)))) lk)) (be (bM (af (k4 3 (by decide)))))))))))) X5 ?_ ?_ (⟨K1.cb,K1.nu,K1.we,K1.de⟩) h5
 ·show some (decide ((c:Int) < (c:Nat)))=_
  rw[Yb (Int.lt_irrefl _)]
 ·exact((F1.fT F2).fT F3).fT (((X3.tU G1).fT ((X3.kh G1).tU G2)).fT (F4.fT F5))
 ·exact⟨hc,rfl,B1.ua,B1.rt,B1.lo,B1.WR,B1.ed,B1.fo,by refine(?_:H1.dH++[(iM H4 c,.i c)]=_);rw[kk,B1.kn,Kt],by refine(?_:H1.bW++[c]=_);rw[B1.WE,Zx],λr=>⟨(b4 r).1,λz hz=>Nat.lt_succ_of_le ((b4 r).2 z hz)⟩,B1.wa⟩
theorem TN(d:Nat)(X:HX S A H σ)(B:HB c H)(K:jG c H)(hx:x < c)(hk:aN x=[]):aL (d+3) 21 [.o 2 (A.yA .aJ),(cp x).enc] σ (.i x) σ:=by
 have ad:=Tj d (X.kh [.l []]) B K hx hk
 have e:(cp x).enc=.t [.s (bv x)]:=by rw[KA (by rw[hk];rfl)];rfl
 rw[e]
 have sl:bA (d+2) 27 (.e (.e (.v 1) (some (.c (.i 1))) none)) (bf [.o 2 (A.yA .aJ),.t [.s (bv x)]]) σ (.bx []) σ:=jK (ji (af (i:=1) rfl) (aq (v:=.i 1)) (pi (xs:=[.s (bv x)]) ⟨by decide,(show(1:Int)<=((1:Nat):Int) by decide)⟩ (show 1<=aK by decide))) (Xw _)
 exact fV (f:=AB) rfl rfl (be (bM (bQ (af rfl) (dy X.Vu) rfl (ac.ah (bi (af (i:=1) rfl) aq (c9 (bg rfl) rfl)) (Xo (ci rfl (Xo (dU sl cW.mR)) (j3 aX (Xw _))))) ad))) (Yk _ _) rfl
theorem TM(d:Nat)(X:HX S A H σ)(B:HB c H)(K:jG c H)(hc:c < 6):∃A' H' τ,aL (d+6) 21 [.o 2 (A.yA .aJ),(cp c).enc] σ (.i c) τ/\HX S A' H' τ/\Fm S σ τ/\HB (c+1) H'/\jG (c+1) H'/\A'.yA .aJ=A.yA .aJ:=by
 refine ba (Bx c hc) λkf _=>?_
 have leaf:∀k∈aN c,aN k=[]:=λk hk=>by
  have:=(kf k hk).1
  match k,this with
  |0,_=>rfl
  |1,_=>rfl
  |k+2,h=>exact absurd h (Zj (YQ ..))
 have kl:=g9 c
 let G1:aj:=[.l (av (aN c))]
 refine vc (Ti d (X.kh G1) B K hc) λA' H' τ t X' F' B' K' h'=>?_
 have e:(cp c).enc=.t (.s (bv c)::(aN c).map λj=>(cp j).enc):=Kz c (List.all_eq_true.mpr λk hk=>by rw[leaf k hk];rfl)
 rw[e]
 let ρ:=bf [.o 2 (A.yA .aJ),.t (.s (bv c)::(aN c).map λj=>(cp j).enc)]
 have sl:bA (d+5) 27 (.e (.e (.v 1) (some (.c (.i 1))) none)) ρ σ (.bx ((aN c).map λj=>(cp j).enc)) σ:=by
  refine jK (ji (af (i:=1) rfl) (aq (v:=.i 1)) (pi (xs:=.s (bv c)::(aN c).map λj=>(cp j).enc) ⟨by decide,?_⟩ ?_)) (bq (by rw[Xr];exact bP kl rfl))
  ·rw[Xy,Xr];exact nP
  ·exact bq (by rw[Xy,Xr];exact ja kl rfl)
 have hit:=gJ (d:=d+5) (n:=27) (elt:=.m 33 (.v 0) [.v 2]) (tg:=.v 2) (ρ:=ρ) (σ:=σ) (S:=.bx ((aN c).map λj=>(cp j).enc)) (λ_=>rfl) (λ_=>trivial) (λj:Nat=>(cp j).enc) (λk:Nat=>V.i (k:Int)) (aN c)
  (λk hk=>aC _ rfl (bQ (af (i:=0) rfl) (dy X.Vu) rfl (Xo (af (bw _ _ _))) (TN (d+2) X B K (kf k hk).2.1 (leaf k hk)))) [] (bq (by rw[X0,Xr];exact bP kl rfl))
 rw[X0]at hit
 exact xN A' H' τ (cI (f:=AB) (fl:=.r _) rfl rfl (be (bM (bQ (af rfl) (dy X.Vu) rfl (ac.ah (bi (af (i:=1) rfl) aq (c9 (bg rfl) rfl)) (Xo (ci rfl (Xo (dU sl hit)) (j3 aX (bq (by rw[Xr];exact bP kl rfl)))))) t)))) X' ((X.tU G1).fT F') B' K' h'
theorem kS{g:aj}(h0:ρ 0=some (.o cl σ.length))(hc:fE cl nm=true)(hl:fs.length<=100)(he:∀s,Ev d 30 e ρ s (.r s.length) (s++[o])):ai d (n+1) (.a (.a nm (.v 0)) e) ρ (σ++.a cl fs::g) .n ρ (σ++.a cl (gZ fs nm (.r (σ.length+(g.length+1))))::(g++[o])):=by
 have h:=he (σ++.a cl fs::g)
 rw[Xv,XU]at h
 exact lG (g':=g++[o]) h0 hc hl h
theorem m8(s:aj):Ev d (n+1) (.d []) ρ s (.r s.length) (s++[.l []]):=du ac.an
theorem Tn(d:Nat)(σ:aj):aL (d+1) 3 [.o 0 σ.length] (σ++[.a 0 []]) .n (σ++[.a 0 [(10,.r (σ.length+1)),(11,.r (σ.length+2)),(12,.r (σ.length+3)),(13,.r (σ.length+4))],.l [],.t [],.l [],.l []]):=
 cI (f:=Gh) (fl:=.n) rfl rfl (ao (kS (g:=[]) rfl rfl (by exact(show 0<=100 by decide)) m8) (ao (kS (g:=[.l []]) rfl rfl (by exact(show 1<=100 by decide)) (λs=>pH (kd:=.t))) (ao (kS (g:=[.l [],.t []]) rfl rfl (by exact(show 2<=100 by decide)) m8) (Xp (kS (g:=[.l [],.t [],.l []]) rfl rfl (by exact(show 3<=100 by decide)) m8)))))
theorem TZ(d:Nat)(σ:aj):aL (d+1) 10 [.o 1 σ.length] (σ++[.a 1 []]) .n (σ++[.a 1 [(17,.r (σ.length+1)),(18,.r (σ.length+2)),(19,.r (σ.length+3))],.l [],.l [],.l []]):=
 cI (f:=Gz) (fl:=.n) rfl rfl (ao (kS (g:=[]) rfl rfl (by exact(show 0<=100 by decide)) m8) (ao (kS (g:=[.l []]) rfl rfl (by exact(show 1<=100 by decide)) m8) (Xp (kS (g:=[.l [],.l []]) rfl rfl (by exact(show 2<=100 by decide)) m8))))
noncomputable def ix:Sl->Nat
 | .aJ=>0 | .dW=>1 | .eL=>2 | .eU=>3 | .gF=>4 | .gE=>5 | .un=>6 | .c7=>7 | .fj=>8 | .fL=>9 | .fJ=>10 | .fK=>11 | .fh=>12 | .cF=>13 | .eZ=>14
 | .cY _=>0
 | .cj _=>0
noncomputable def xi(n:Nat):Sl:=[Sl.aJ,.dW,.eL,.eU,.gF,.gE,.un,.c7,.fj,.fL,.fJ,.fK,.fh,.cF,.eZ].getD n .aJ
noncomputable def pN:HS:=⟨0,0,[],[],[],λx=>x,λx=>x,λx=>[x],[],[],[],[],[],λ_=>[],[]⟩
theorem Tr(d:Nat)(σ:aj)(hS:∀i,S i->i < σ.length):∃τ,aL (d+2) 17 [.o 2 σ.length] (σ++[.a 2 []]) .n τ/\HX S ⟨λs=>σ.length+ix s⟩ pN τ/\Fm S σ τ:=by
 let p:=σ.length
 let bk:aj:=[.a 0 [(10,.r (p+2)),(11,.r (p+3)),(12,.r (p+4)),(13,.r (p+5))],.l [],.t [],.l [],.l []]
 let un:aj:=[.a 1 [(17,.r (p+7)),(18,.r (p+8)),(19,.r (p+9))],.l [],.l [],.l []]
 let ρ:=bf [.o 2 p]
 have b1:ai (d+1) 12 (.a (.a 21 (.v 0)) (.w 0 [])) ρ (σ++[.a 2 []]) .n ρ (σ++.a 2 [(21,.o 0 (p+1))]::bk):=by
  refine lG (g:=[]) (g':=bk) rfl rfl (by exact(show 0<=100 by decide)) ?_
  have h:=Tn d (σ++[.a 2 []])
  have l:(σ++[O.a 2 []]).length=p+1:=Xv
  rw[l]at h
  have q:=tM (d:=d+1) (n:=29) (c:=0) (ρ:=ρ) (σ:=σ++[.a 2 []]) ac.an rfl (by rw[l];exact h)
  rw[l,XU]at q;exact q
 have b2:ai (d+1) 12 (.a (.a 22 (.v 0)) (.w 1 [])) ρ (σ++.a 2 [(21,.o 0 (p+1))]::bk) .n ρ (σ++.a 2 [(21,.o 0 (p+1)),(22,.o 1 (p+6))]::(bk++un)):=by
  refine lG (g:=bk) (g':=bk++un) rfl rfl (by exact(show 1<=100 by decide)) ?_
  have h:=TZ d (σ++.a 2 [(21,.o 0 (p+1))]::bk)
  have l:(σ++O.a 2 [(21,.o 0 (p+1))]::bk).length=p+6:=Xv
  rw[l]at h
  have q:=tM (d:=d+1) (n:=29) (c:=1) (ρ:=ρ) (σ:=σ++.a 2 [(21,.o 0 (p+1))]::bk) ac.an rfl (by rw[l];exact h)
  rw[l,XU]at q;exact q
 let fs:List (Nat×V):=[(21,.o 0 (p+1)),(22,.o 1 (p+6))]
 let τ:aj:=σ++.a 2 [(21,.o 0 (p+1)),(22,.o 1 (p+6)),(23,.r (p+10)),(24,.r (p+11)),(25,.r (p+12)),(17,.r (p+13)),(26,.r (p+14)),(27,.i 0)]::(bk++un++[.l [],.l [],.t [],.d [],.l []])
 refine dK τ (cI (f:=Gp) (fl:=.n) (ρ':=ρ) rfl rfl (ao b1 (ao b2 (ao (kS (g:=bk++un) rfl rfl (by exact(show 2<=100 by decide)) m8) (ao (kS (g:=bk++un++[.l []]) rfl rfl (by exact(show 3<=100 by decide)) m8) (ao (kS (g:=bk++un++[.l [],.l []]) rfl rfl (by exact(show 4<=100 by decide)) (λs=>pH (kd:=.t))) (ao (kS (g:=bk++un++[.l [],.l [],.t []]) rfl rfl (by exact(show 5<=100 by decide)) (λs=>pH (kd:=.i))) (ao (kS (g:=bk++un++[.l [],.l [],.t [],.d []]) rfl rfl (by exact(show 6<=100 by decide)) m8) (Xp (lG (g:=bk++un++[.l [],.l [],.t [],.d [],.l []]) (g':=bk++un++[.l [],.l [],.t [],.d [],.l []]) rfl rfl (by exact(show 7<=100 by decide)) aq)))))))))) (⟨⟨λs t hs ht e=>?_,λs hs=>?_⟩,λi hi=>⟨?_,λs hs=>?_⟩⟩) (λi hi=>Yl (hS i hi))
 ·have xx:∀s,pN.ok s->xi (ix s)=s:=λs hs=>by
   cases s with
   |cY i=>exact absurd hs (Y5 _)
   |cj i=>cases hs
   |_=>rfl
  have e:ix s=ix t:=Nat.add_left_cancel e
  rw[<-xx s hs,<-xx t ht,e]
 ·cases s with
  |cY i=>exact absurd hs (Y5 _)
  |cj i=>cases hs
  |_=>exact kB σ _ _
 ·exact XJ (hS i hi) (by rw[Xv];exact XS ..)
 ·exact Y3 (XJ (hS i hi) (XS ..))
theorem HB0:HB 0 pN:=⟨by decide,rfl,λ_=>rfl,λ_=>rfl,λ_=>rfl,rfl,rfl,rfl,rfl,rfl,λ_=>⟨Xx _,λ_ h=>(nomatch h)⟩,rfl⟩
theorem L6:jG 0 pN:=⟨rfl,rfl,rfl,rfl⟩
theorem HB.hg(B:HB c H)(K:jG c H)(hc:1<=c):HG H 0 where
 VU:=B.hi K.cb
 nk:=λx hx=>by rw[B.rt,B.WE];rw[B.hc]at hx;exact Y' hx
 kt:=by rw[B.WE,B.fo,XW];exact B.c6
 c1:=by rw[B.hc];exact hc
 WO:=by rw[B.WR];exact Xw _
 ed:=by rw[B.ed];exact Xw _
 lR:=Xw _
 lo:=λx _=>by rw[B.lo,B.fo];exact(show 4 * 1<=4 by decide)
 ab:=λr _=>⟨by rw[B.fo];have:=(B.ab r).1;have:=B.c6;refine(?_:_<=4);lia,λz hz=>by rw[B.hc];exact(B.ab r).2 z hz⟩
 wa:=by rw[B.wa];exact bm (Xw _) (λ_ h=>(nomatch h))
 kw:=by rw[B.kn,B.wa,B.fo];unfold fR;rw[Xr,XW];have:=B.c6;refine(?_:c+0<=20+128 * 0);exact d5 (ja this rfl)
 lm:=λx _=>by rw[B.rt,B.lo];exact Ym rfl
 lc:=λx hx y hy=>by rw[B.lo]at hy;rw[XG hy];exact hx
 fo:=by rw[B.fo];exact λ_ h=>(nomatch h)
 eg:=by rw[B.ed];exact λ_ h=>(nomatch h)
 cn:=λx y hx hy h=>by
  rw[B.rt,B.rt]at h;subst h
  exact aC 0 (List.countP_pos_iff.mpr (aC x (Y' hx) (XT (by rw[B.rt])))) (.kY _)
 al:=by rw[B.ed];exact λ_ h=>(nomatch h)
 lk:=λj a b h=>by rw[B.ed]at h;cases h
 kn:=λe he=>by
  rw[B.kn]at he
  refine az (Yf he) λx hx q2=>?_;subst q2
  exact⟨x,by rw[B.hc];exact YB hx,rfl,aN x,rfl,rfl⟩
 nl:=by rw[B.ed];exact Xw _
end
section
variable {d n a b i j k m q l c t:Nat}{u v w:V}{o:O}{e:Ex}{r:Rs}{S:Nat->Prop}
noncomputable def kK(i:Nat):St:=AJ.dZ.getD i .s
theorem QP(d:Nat)(nums:List Int)(hl:nums.length<=63):∃(q0:O) (cells:List Int),cells.length<=40/\ai d 12 (kK 0) (bf [.f (nums.map V.i)]) [] .n (au (bf [.f (nums.map V.i)]) 1 (.r 1)) [q0,.l (cells.map V.i)]:=by
 let l:=nums.take 40
 have ll:l.length<=40:=by rw[List.length_take];exact Zw _ _
 let q0:O:=.l (l.map V.i)
 let ρ:=bf [.f (nums.map V.i)]
 have et:(nums.map V.i).take (40:Int).toNat=l.map V.i:=by rw[<-List.map_take];rfl
 have sl:=yP (d:=d) (n:=28) (ρ:=ρ) (σ:=[]) (af (i:=0) rfl) (aq (v:=.i 40)) (SV (xs:=nums.map V.i) ⟨by decide,by decide⟩ (bq (by rw[Xr];exact bP hl rfl)))
 rw[et]at sl
 have hit:=gJ (d:=d) (n:=29) (elt:=.i .m (.b .i [.v 12]) (.c (.i 1000003))) (tg:=.v 12) (ρ:=ρ) (σ:=[q0]) (S:=.cr 0 (l.map V.i)) (λ_=>rfl) (λ_=>rfl) V.i (λz=>.i (z % 1000003)) l
  (λz _=>aC _ rfl (bX (ci rfl (Xo (af (bw _ _ _))) SA) aq (sY (by decide)))) [] (bq (by rw[X0,Xr];exact bP ll rfl))
 rw[X0,show l.map (λz=>V.i (z % 1000003))=(l.map (· % 1000003)).map V.i from by rw[XV];rfl]at hit
 exact eE q0 (l.map (· % 1000003)) (by rw[Xr];exact ll) (bh (dU (fe sl rfl (bq (by rw[Xr];exact bP ll rfl))) hit) bc)
theorem QR(d:Nat){q0:O}(hl:cells.length<=40)(h1:ρ 1=some (.r 1)):∃(q2:O) (bl:Int),ai d 12 (kK 1) ρ [q0,.l (cells.map V.i)] .n (au ρ 2 (.r 3)) [q0,.l (cells.map V.i),q2,fd 1 bl 0]:=by
 let f:=λz:Int=>z.natAbs % 997
 let q2:O:=.l (cells.map λz=>V.i (f z:Nat))
 let σ:aj:=[q0,.l (cells.map V.i)]
 have hit:=gJ (d:=d) (n:=27) (elt:=.i .m (.b .b [.v 13]) (.c (.i 997))) (tg:=.v 13) (ρ:=ρ) (σ:=σ) (S:=.cr 1 (cells.map V.i)) (λ_=>rfl) (λ_=>rfl) V.i (λz=>.i (f z:Nat)) cells
  (λz _=>aC _ rfl (by
   have h:=bX (d:=d) (n:=26) (op:=.m) (ρ:=au ρ 13 (.i z)) (σ:=σ) (ci rfl (n:=25) (Xo (af (n:=24) (bw _ _ _))) (Sq (n:=z))) (aq (v:=.i 997)) (sY (by decide))
   exact h)) [] (bq (by rw[X0,Xr];exact bP hl rfl))
 rw[X0]at hit
 have sm:=ci rfl (d:=d) (n:=28) (ρ:=ρ) (Xo (dU (fe (af (σ:=σ) h1) rfl (bq (by rw[Xr];exact bP hl rfl))) hit)) (x3 (σ:=σ++[q2]) aX (uP f cells) (bq (by rw[Xr];exact bP hl rfl)) λi hi=>by
  refine az (Yf hi) λz _ q2=>?_;subst q2
  have:f z < 997:=Nat.mod_lt _ (by decide)
  unfold bY;lia)
 exact xL q2 _ (bh (yN (kd:=.s) (o:=fd 1 _ 0) (tP aq (af h1) (tP aq aq (tP aq sm yR))) rfl) bc)
theorem HX.mP(X:HX S A H σ)(hi:S i)(o:O):HX S A H (σ.set i o):=⟨⟨X.Vu.eT,λs hs=>by rw[aV ((X.d9 i hi).2 s hs).symm];exact X.Vu.aZ s hs⟩,λz hz=>⟨by rw[XN];exact(X.d9 z hz).1,(X.d9 z hz).2⟩⟩
noncomputable def Td:List St:=match kK 4 with | .l _ _ b=>b |_=>[]
theorem Te(d:Nat){h Q:Nat}(sN:S N)(sQ:S Q)(nq:N≠Q)(h3:ρ 3=some (.o 2 h))(h4:ρ 4=some (.r N)):∀(j k:Nat) (A:Ad) (H:HS) (σ:aj) (ρ':aA),k+j<=6->HX S A H σ->HB k H->jG k H->A.yA .aJ=h->σ[N]? =some (.l (av (List.range k)))->σ[Q]? =some (.l ys)->(∀z,z≠5->ρ' z=ρ z)->
  ∃ρ'' τ A' H',(∀z,z≠5->ρ'' z=ρ z)/\bF (d+6) 11 (.v 5) Td (.cr Q ys) ((List.range' k j).map λx=>(cp x).enc) ρ' σ .n ρ'' τ/\HX S A' H' τ/\HB (k+j) H'/\jG (k+j) H'/\A'.yA .aJ=h/\τ[N]? =some (.l (av (List.range (k+j))))/\∀i,S i->i≠N->τ[i]? =σ[i]?:=by
 intro j
 induction j with
 |zero=>intro k A H σ ρ' _ X B K hh hN hQ hρ;exact BU ρ' σ A H hρ fG X B K hh hN (λ_ _ _=>rfl)
 |succ j ih=>
  intro k A H σ ρ' hk X B K hh hN hQ hρ
  refine vc (TM d X B K (jb hk)) λA1 H1 σ1 p1 X1 F1 B1 K1 e1=>?_
  let ρ1:=au ρ' 5 (cp k).enc
  have N1:σ1[N]? =some (.l (av (List.range k))):=(F1 N sN).trans hN
  let σ2:=σ1.set N (.l (av (List.range (k+1))))
  have pa:Pr (dB 0 (.r N) [.i k] σ1) .n σ2:=by
   have h:=kO (f:=λn:Nat=>V.i (n:Int)) k N1 (by rw[XW];exact bT (bP hk rfl))
   rw[<-Zx]at h;exact h
  have X2:=X1.mP sN (.l (av (List.range (k+1))))
  have Q2:σ2[Q]? =some (.l ys):=(aV nq).trans ((F1 Q sQ).trans hQ)
  refine Ca (ih (k+1) A1 H1 σ2 ρ1 (gj hk) X2 B1 K1 (e1.trans hh) (cS N1) Q2 (λz hz=>(bR _ _ hz).trans (hρ z hz))) λρ'' τ A' H' g1 g2 g3 g4 g5 g6 g7 g8=>?_
  have ek:k+1+j=k+(j+1):=x4
  rw[ek]at g4 g5 g7
  rw[List.range'_succ,XD]
  refine BU ρ'' τ A' H' g1 (fc (S:=.cr Q ys) (ρ':=ρ1) rfl (Xp (dv (dp (af (i:=4) ((hρ 4 (by decide)).trans h4)) (eI hN rfl) (Xo (bQ (af (i:=3) ((hρ 3 (by decide)).trans h3)) (by rw[<-hh];exact dy X.Vu) rfl (Xo (af (bw _ _ _))) (by rw[<-hh];exact p1))) (uW hN N1) pa))) Q2 g2) g3 g4 g5 g6 g7 (λi hi hn=>(g8 i hi hn).trans ((aV (Yv hn)).trans (F1 i hi)))
theorem cq.fm(F:cq a n bl cells t σ)(h1:τ[a]? =σ[a]?)(h2:τ[n]? =σ[n]?):cq a n bl cells t τ:=⟨h1.trans F.lQ,h2.trans F.WD,F.ne,F.v4⟩
noncomputable def xG(z:Nat):List Nat:=[108]++FM z
theorem QO:∀z,z < 4->ip (xG z)/\(xG z).length<=20
 |0,_=>⟨dR (by decide+kernel),by decide+kernel⟩
 |1,_=>⟨dR (by decide+kernel),by decide+kernel⟩
 |2,_=>⟨dR (by decide+kernel),by decide+kernel⟩
 |3,_=>⟨dR (by decide+kernel),by decide+kernel⟩
 |z+4,h=>absurd h (Zj (YQ ..))
theorem sn(F:cq a n bl cells t σ)(ht:t<=100000){w:Nat}(hw:0 < w):∃r:Nat,r < w/\aL (d+1) 43 [.r a,.i (w:Nat)] σ (.i (r:Nat)) (σ.set a (fd n bl (t+1))):=by
 refine c8 (mF (d:=d) F ht (w:=(w:Int)) (mE (cG hw))) λr r0 r1 h=>?_
 refine aT (Int.eq_ofNat_of_zero_le r0) λz q1=>?_;subst q1
 exact aC z (by lia) h
theorem GU(h:k < c):(dS (k:Int) (av (List.range c)).length).bind ((av (List.range c))[·]?)=some (.i (k:Nat)):=by
 unfold dS
 rw[Xz (YX _)]
 refine(?_:(av (List.range c))[k]? =_)
 rw[Yy,List.getElem?_range h];rfl
noncomputable def Ic:List St:=match kK 5 with | .l _ _ b=>b |_=>[]
theorem Rg(d:Nat){h:Nat}(s3:S 3)(s1:S 1)(sN:S N)(n3:N≠3)(c6:1<=c)(X:HX S A H σ)(G:HG H m)(hc:H.KM=c)(hh:A.yA .aJ=h)(hm:m+1<=100)(F:cq 3 1 bl cells t σ)(ht:t+3<=100000)(hN:σ[N]? =some (.l (av (List.range c)))){z:Nat}(hz:z < 4)(h2:ρ 2=some (.r 3))(h3:ρ 3=some (.o 2 h))(h4:ρ 4=some (.r N))(h6:ρ 6=some (.i (z:Nat))):
  ∃ρ' τ A' H',(∀z,z≠7->z≠8->z≠9->ρ' z=ρ z)/\ae (d+4) 11 Ic ρ σ .n ρ' τ/\HX S A' H' τ/\HG H' (m+1)/\H'.KM=c/\A'.yA .aJ=h/\cq 3 1 bl cells (t+3) τ/\τ[N]? =some (.l (av (List.range c))):=by
 have c6':c<=6:=by rw[<-hc];exact G.VU.c6
 refine az (sn (d:=d+3) F (bT ht) (w:=c) c6) λr1 l1 d1=>?_
 let σ1:=σ.set 3 (fd 1 bl (t+1))
 have F1:cq 3 1 bl cells (t+1) σ1:=F.eF
 have N1:σ1[N]? =some (.l (av (List.range c))):=(aV n3.symm).trans hN
 refine az (sn (d:=d+3) F1 (jb ht) (w:=c) c6) λr2 l2 d2=>?_
 let σ2:=σ1.set 3 (fd 1 bl (t+2))
 have F2:cq 3 1 bl cells (t+2) σ2:=F1.eF
 have N2:σ2[N]? =some (.l (av (List.range c))):=(aV n3.symm).trans N1
 let w1:V:=(Rs.mU (xG z)).gC
 let w2:V:=(Rs.lr 0 r2).gC
 let σ3:aj:=σ2++[.l [w1,w2]]
 have F3:cq 3 1 bl cells (t+2) σ3:=F2.lP _
 refine az (sn (d:=d+3) F3 (vq ht rfl) (w:=2) (by decide)) λr3 l3 d3=>?_
 let σ4:=σ3.set 3 (fd 1 bl (t+3))
 have F4:cq 3 1 bl cells (t+3) σ4:=F3.eF
 have N4:σ4[N]? =some (.l (av (List.range c))):=(aV n3.symm).trans (bO _ _ N2)
 have X4:HX S A H σ4:=(((X.mP s3 _).mP s3 _).kh _).mP s3 _
 refine ba (QO z hz) λlg ll=>?_
 obtain⟨rs,rl,rok,rix⟩:∃rs:Rs,rs.eB=false/\rs.ok H.KM/\(dS (r3:Nat) 2).bind (([w1,w2]:List V)[·]?)=some rs.gC:=by
  match r3,l3 with
  |0,_=>exact dK (.mU (xG z)) rfl (⟨lg,ll⟩) rfl
  |1,_=>exact dK (.lr 0 r2) rfl (⟨qT c6 (gM hc),qT l2 (gM hc)⟩) rfl
  |r+2,h=>exact absurd h (Zj (YQ ..))
 obtain⟨v,τ,hm1,nn0,Fm'⟩:=TF d X4 G (a:=r1) (b:=r2) (qT l1 (gM hc)) (qT l2 (gM hc)) rok hm rl;refine i8 nn0 ?_;clear nn0;intro A' H' X' G' c' a' _
 let ρ1:=au (au ρ 7 (.i (r1:Nat))) 8 (.i (r2:Nat))
 let ρ2:=au ρ1 9 w2
 have ln:∀{s:aj} {n:Nat},s[N]? =some (.l (av (List.range c)))->Ev (d+4) (n+2) (.b .l [.v 4]) ρ s (.i (c:Nat)) s:=λ{s n} hs=>by
  have h:=ci rfl (d:=d+4) (n:=n+1) (ρ:=ρ) (Xo (af h4)) (fC hs (bq (by rw[Xr,XW];exact bP c6' rfl)))
  rw[Xr,XW]at h;exact h
 have st1:ai (d+4) 11 (.a (.t [.v 7,.v 8]) (.t [.l 43 [.v 2,.b .l [.v 4]],.l 43 [.v 2,.b .l [.v 4]]])) ρ σ .n ρ1 σ2:=
  bh (bI (ac.ah (cw (ac.ah (af h2) (Xo (ln hN))) d1) (Xo (cw (ac.ah (af h2) (Xo (ln N1))) d2)))) (gR rfl rfl (da bc (da bc gS)))
 have st2:ai (d+4) 11 (.a (.v 9) (.t [.c (.s [114,117,108,101]),.c (.s [114]),.t [.t [.c (.s [63,120]),.s (.v 4) (.c (.i 0))],.t [.c (.s [63,121]),.s (.v 4) (.v 8)]]])) ρ1 σ2 .n ρ2 σ2:=
  bh (bI (ac.ah aq (ac.ah aq (Xo (bI (ac.ah (bI (ac.ah aq (Xo (bi (af (i:=4) h4) (aq (v:=.i (0:Nat))) (dL N2 (gG (Xw _)) (GU c6)))))) (Xo (bI (ac.ah aq (Xo (bi (af (i:=4) h4) (af (i:=8) rfl) (dL N2 (gG (by unfold aK;exact j4 (qT l2 c6') rfl)) (GU l2))))))))))))) bc
 have e1:Ev (d+4) 27 (.t [.c (.s [116,111,108,100]),.i .a (.c (.s [108])) (.b .a [.v 6])]) ρ2 σ2 w1 σ2:=
  bI (ac.ah aq (Xo (bX aq (ci rfl (Xo (af (i:=6) h6)) (SP (gG (by unfold aK;exact j4 hz rfl)))) (nJ (Xs ll (by decide))))))
 have e2:Ev (d+4) 29 (.s (.d [.t [.c (.s [116,111,108,100]),.i .a (.c (.s [108])) (.b .a [.v 6])],.v 9]) (.l 43 [.v 2,.c (.i 2)])) ρ2 σ2 rs.gC σ4:=
  bi (du (ac.ah e1 (Xo (af rfl)))) (cw (ac.ah (af (i:=2) h2) (Xo aq)) d3) (dL (xs:=[w1,w2]) ((aV (by have:=F2.lt;exact gN this)).trans aX) (gG (by unfold aK;exact j4 l3 rfl)) rix)
 have hh2:A.yA .aJ=h:=hh
 exact BU ρ2 τ A' H' (λz h7 h8 h9=>(bR _ _ h9).trans ((bR _ _ h8).trans (bR _ _ h7))) (ao st1 (ao st2 (Xp (dv (bQ (af (i:=3) h3) (by rw[<-hh];exact dy ((X.mP s3 _).mP s3 _).Vu) rfl (ac.ah (af (i:=7) rfl) (ac.ah (af (i:=8) rfl) (Xo e2))) (by rw[<-hh];exact hm1)))))) X' G' (c'.trans hc) (a'.trans hh) (F4.fm (Fm' 3 s3) (Fm' 1 s1)) ((Fm' N sN).trans N4)
theorem Rf(d:Nat){h:Nat}(s3:S 3)(s1:S 1)(sN:S N)(n3:N≠3)(c6:1<=c)(h2:ρ 2=some (.r 3))(h3:ρ 3=some (.o 2 h))(h4:ρ 4=some (.r N)):∀(L:List Nat) (m:Nat) (A:Ad) (H:HS) (σ:aj) (t:Nat) (ρ':aA),(∀z∈L,z < 4)->m+L.length<=100->HX S A H σ->HG H m->H.KM=c->A.yA .aJ=h->cq 3 1 bl cells t σ->t+3 * L.length<=10000->σ[N]? =some (.l (av (List.range c)))->(∀z,z < 6->ρ' z=ρ z)->
  ∃ρ'' τ A' H' m' t',(∀z,z < 6->ρ'' z=ρ z)/\bF (d+4) 11 (.v 6) Ic (.bx ys) (av L) ρ' σ .n ρ'' τ/\HX S A' H' τ/\HG H' m'/\H'.KM=c/\A'.yA .aJ=h/\cq 3 1 bl cells t' τ/\t'<=10000/\τ[N]? =some (.l (av (List.range c))):=by
 intro L
 induction L with
 |nil=>intro m A H σ t ρ' _ _ X G hc hh F ht hN hρ;exact⟨ρ',σ,A,H,m,t,hρ,fG,X,G,hc,hh,F,bT ht,hN⟩
 |cons z L ih=>
  intro m A H σ t ρ' hL hm X G hc hh F ht hN hρ
  rw[Xy]at hm ht
  refine Ca (Rg (ρ:=au ρ' 6 (.i (z:Nat))) d s3 s1 sN n3 c6 X G hc hh (bT (gj hm)) F (ja (bT ht) rfl) hN (hL z (XH ..)) ((hρ 2 (by decide)).trans h2) ((hρ 3 (by decide)).trans h3) ((hρ 4 (by decide)).trans h4) (bw _ _ _)) λρ1 σ1 A1 H1 k1 b1 X1 G1 c1 a1 F1 N1=>?_
  obtain⟨ρ2,τ,A',H',m',t',k2,f,r⟩:=ih (m+1) A1 H1 σ1 (t+3) ρ1 (λu hu=>hL u (XI _ hu)) (gj hm) X1 G1 c1 a1 F1 (by lia) N1 (λu hu=>(k1 u (kQ hu rfl) (kQ hu rfl) (kQ hu rfl)).trans ((bR _ _ (gN hu)).trans (hρ u hu)))
  exact⟨ρ2,τ,A',H',m',t',k2,fc (S:=.bx ys) (ρ':=au ρ' 6 (.i (z:Nat))) rfl b1 trivial f,r⟩
end
section
variable {d n a b i j k m q l c t:Nat}{u v w:V}{o:O}{e:Ex}{r:Rs}{S:eM}
theorem Qs{f g:α->V}{p:α->Bool}(hS:∀r,S.iG r σ=σ)(hG:∀r,S.Wf r σ):∀(L:List α),(∀z∈L,∃ρ',fM 4 tg (f z) ρ=some ρ'/\ej d n ifs ρ' σ (p z) σ/\(p z=true->Ev d n elt ρ' σ (g z) σ))->∀acc:List V,acc.length+L.length<=300->cW d n elt tg ifs [] ρ S (L.map f) σ acc (acc++(L.filter p).map g) σ:=by
 intro L
 induction L with
 |nil=>
  intro _ acc _
  have h:=cW.mR (d:=d) (n:=n) (elt:=elt) (tg:=tg) (ifs:=ifs) (gs:=[]) (ρ:=ρ) (S:=S) (σ:=σ) (acc:=acc)
  rw[hS]at h
  rw[show acc++List.map g (List.filter p [])=acc from Yi _];exact h
 |cons z L ih=>
  intro h acc hl
  rw[Xy]at hl
  refine c8 (h z (XH ..)) λρ' h1 h2 h3=>?_
  have ih:=ih λu hu=>h u (XI _ hu)
  cases hp:p z with
  |true=>
   rw[hp]at h2
   have q:=ih (acc++[g z]) (by rw[Xv];refine(?_:acc.length+1+_<=_);exact gj hl)
   rw[XU]at q
   rw[List.filter_cons_of_pos hp]
   exact cW.Wy h1 (by rw[hS];exact h2) (jE.pK (h3 hp) (bq (bT hl))) (hG _) q
  |false=>
   rw[hp]at h2
   rw[List.filter_cons_of_neg (by rw[hp];exact YE)]
   exact cW.WT h1 (by rw[hS];exact h2) (hG _) (ih acc (bT (vt hl)))
noncomputable def nH(H:HS)(c a:Nat):List (Nat×Nat):=((List.range c).filter λb=>decide (H.rt a=H.rt b)).map λb=>(a,b)
noncomputable def qP(H:HS)(c:Nat):List (Nat×Nat):=(List.range c).flatMap (nH H c)
theorem IW(H:HS)(c a:Nat):(nH H c a).length<=c:=by unfold nH;rw[Xr];exact Xs (List.length_filter_le _ _) (by rw[XW];exact Xx _)
theorem R9{p:Nat×Nat}(h:p∈qP H c):p.1 < c/\p.2 < c/\H.rt p.1=H.rt p.2:=by
 refine az (List.mem_flatMap.mp h) λa ha hp=>?_
 refine az (Yf hp) λb hb q2=>?_;subst q2
 refine ba (Zl hb) λhb hr=>?_
 exact fA (YB ha) (YB hb) (XX hr)
theorem Sa(hc:1<=c):1<=(qP H c).length:=List.length_pos_of_mem (List.mem_flatMap.mpr (aC 0 (Y' hc) (Yz (aC 0 (List.mem_filter.mpr ⟨Y' hc,XT rfl⟩) rfl))))
theorem QT(d:Nat){h:Nat}(R:HR A H σ)(I:HI H)(hc:H.KM=c)(c6:c<=6)(hh:A.yA .aJ=h)(hN:σ[N]? =some (.l (av (List.range c))))(h3:ρ 3=some (.o 2 h))(h4:ρ 4=some (.r N)):ai (d+3) 12 (kK 7) ρ σ .n (au ρ 10 (.r σ.length)) (σ++[.l (gL (qP H c))]):=by
 have ok:aD (av (List.range c)):=bq (by rw[Xr,XW];exact bP c6 rfl)
 have oY:∀(a:Nat),a < c->∀acc:List V,acc.length<=200->cW (d+3) 29 (.t [.v 14,.v 15]) (.v 15) [.m 55 (.v 3) [.v 14,.v 15]] [] (au ρ 14 (.i a)) (.cr N (av (List.range c))) (av (List.range c)) σ acc (acc++gL (nH H c a)) σ:=λa ha acc hl=>by
  have q:=Qs (d:=d+3) (n:=29) (elt:=.t [.v 14,.v 15]) (tg:=.v 15) (ifs:=[.m 55 (.v 3) [.v 14,.v 15]]) (ρ:=au ρ 14 (.i a)) (σ:=σ) (S:=.cr N (av (List.range c))) (f:=λk:Nat=>V.i (k:Int)) (g:=λb:Nat=>V.t [.i a,.i b]) (p:=λb=>decide (H.rt a=H.rt b)) (λ_=>rfl) (λ_=>hN) (List.range c) (λb hb=>by
   have al:=Tl d R I (x:=a) (y:=b) (by rw[hc];exact ha) (by rw[hc];exact YB hb)
   rw[hh]at al
   exact dK _ rfl (wm (bQ (af (i:=3) h3) (by rw[<-hh];exact dy R) rfl (ac.ah (af (i:=14) rfl) (Xo (af (bw _ _ _)))) al)) (λ_=>bI (ac.ah (af (i:=14) rfl) (Xo (af (bw _ _ _)))))) acc (by rw[XW];exact bP (qF hl c6) rfl)
  have e:gL (nH H c a)=((List.range c).filter λb=>decide (H.rt a=H.rt b)).map λb:Nat=>V.t [.i a,.i b]:=by refine(?_:List.map _ (List.map _ _)=_);rw[XV];rfl
  rw[e];exact q
 have outer:∀(L:List Nat) (acc:List V),(∀a∈L,a < c)->acc.length+L.length * 6<=200->cW (d+3) 29 (.t [.v 14,.v 15]) (.v 14) [] [.m (.v 15) (.e (.v 4)) [.m 55 (.v 3) [.v 14,.v 15]]] ρ (.cr N (av (List.range c))) (av L) σ acc (acc++gL (L.flatMap (nH H c))) σ:=by
  intro L
  induction L with
  |nil=>intro acc _ _;rw[show acc++gL (List.flatMap (nH H c) [])=acc from Yi _];exact cW.mR
  |cons a L ih=>
   intro acc hL hl
   rw[Xy]at hl
   have pl:=IW H c a
   have q:=ih (acc++gL (nH H c a)) (λz hz=>hL z (XI _ hz)) (by rw[Xv,Xr];lia)
   rw[XU,<-Yc]at q
   exact cW.Wy (S:=.cr N (av (List.range c))) (ρ':=au ρ 14 (.i a)) rfl ej.oq (LY (fe (af (i:=4) h4) hN ok) (oY a (hL a (XH ..)) acc (bT hl))) hN q
 have q:=outer (List.range c) [] (λa ha=>YB ha) (by rw[XW,XY];lia)
 rw[X0]at q
 exact bh (dU (fe (af h4) hN ok) q) bc
theorem Ge(d:Nat)(g:P.good)(hd:P.dep<=d)(h3:d<=300)(hs:2 * P.sz<=aK)(h11:ρ 11=some P.enc):ae (d+2) 11 [.i (.j (.l 50 [.v 11])) [.r (.c (.b false))] []] ρ σ .n ρ σ:=
 Xp (bC (tN (cw (Xo (af h11)) (JS d P g hd h3 hs σ))) aP)
theorem QS{h:Nat}(R:HR A H σ)(G:HG H m)(hh:A.yA .aJ=h)(ha:a < H.KM)(hb:b < H.KM)(hab:H.rt a=H.rt b)(h3:ρ 3=some (.o 2 h))(h7:ρ 7=some (.i a))(h8:ρ 8=some (.i b)):∃ρ' τ,ai 194 12 (kK 9) ρ σ .n ρ' τ:=by
 refine B7 (T0 193 R G) λτ1 es bs w1 low1 hW1 B1 O1=>?_
 have lt:∀s,H.ok s->A.yA s < σ.length:=λs hs=>R.lt hs
 have S1:WS A H m σ.length es bs τ1:=⟨R.y7 (N:=σ.length) lt low1,G,lt,B1,O1⟩
 refine dY (T1 184 S1 hW1 ha hb hab) λP1 p' g1 w2=>?_
 let τ2:=τ1.set σ.length (wo (A.yA .aJ) σ.length p' 0)
 have S2:WS A H m σ.length es bs τ2:=S1.mv (e8 B1.V6) (λe he=>e8 (B1.Wc e he)) n9
 refine u9 (TR 190 S2.V9 G) λτ3 s lots c1 low3 S3 E3=>?_
 refine az (OQ E3 G ha hb hab) λk hk k500=>?_
 refine u8 (TS E3 37 153 a b k hk (Nat.lt_succ_of_le (by have:rk s (k * 16+(a+b))<=(List.range 36).length:=List.countP_le_length;rwa [XW]at this))) λP2 g2 d2 z1 z2 c2=>?_
 have c2:=c2 A m τ2.length τ3 S3
 have sz2:2 * P2.sz<=aK:=by
  by_cases e:a=b
  ·have:=z1 e;unfold aK;lia
  ·have:=z2 e
   have:0<=(if a < 2 then 200 else 120):=Xw _
   unfold aK;lia
 have e1:Ev 194 29 (.m 53 (.w 3 [.v 3]) [.v 7,.v 8]) ρ σ P1.enc τ2:=by
  rw[hh]at w1
  exact bQ (tM (Xo (af h3)) rfl w1) hW1 rfl (ac.ah (af h7) (Xo (af h8))) w2
 have e2:Ev 194 29 (.m 53 (.w 4 [.v 3]) [.v 7,.v 8]) ρ τ2 P2.enc τ3:=by
  rw[hh]at c1
  exact bQ (tM (Xo (af h3)) rfl c1) S3.V3 rfl (ac.ah (af h7) (Xo (af h8))) c2
 refine xL _ τ3 (fg (S:=.bx [P1.enc,P2.enc]) (jK (bI (ac.ah e1 (Xo e2))) (show 2<=aK by decide)) (fc (S:=.bx [P1.enc,P2.enc]) (ρ':=au ρ 11 P1.enc) rfl (Ge 192 g1.Wl (Xs g1.Ww (by decide)) (by decide) (Xs (Nat.mul_le_mul_left 2 g1.Wx) (by decide)) (bw _ _ _)) trivial
  (fc (S:=.bx [P1.enc,P2.enc]) (ρ':=au (au ρ 11 P1.enc) 11 P2.enc) rfl (Ge 192 g2 (Xs d2 (by decide)) (by decide) sz2 (bw _ _ _)) trivial fG)))
theorem Ty(nums:List Int)(hl:nums.length<=63):∃τ,aL 195 51 [.f (nums.map V.i)] [] (.b true) τ:=by
 let ρ0:=bf [.f (nums.map V.i)]
 refine dY (QP 194 nums hl) λq0 cells cl s0=>?_
 let ρ1:=au ρ0 1 (.r 1)
 refine Ir (QR (ρ:=ρ1) 194 (q0:=q0) cl rfl) λq2 bl s1=>?_
 let ρ2:=au ρ1 2 (.r 3)
 let σ1:aj:=[q0,.l (cells.map V.i),q2,fd 1 bl 0]
 have F1:cq 3 1 bl cells 0 σ1:=⟨rfl,rfl,by decide,cl⟩
 refine dk (Tz 3 186 F1 (by decide)) λp t1 pk _ t1b dr=>?_
 have t1b:t1<=766:=t1b
 let σ2:=σ1.set 3 (fd 1 bl t1)
 have F2:cq 3 1 bl cells t1 σ2:=F1.eF
 have s2:ai 194 12 (kK 2) ρ2 σ1 .n ρ2 σ2:=bC (tN (cw (Xo (cw (ac.ah (af (i:=2) rfl) (Xo aq)) dr)) (JS 192 p pk.Wt (Xs pk.Ws (by decide)) (by decide) (Xs (Nat.mul_le_mul_left 2 pk.Wu) (by decide)) σ2))) aP
 -- the heap
 let S:Nat->Prop:=λi=>i=1∨i=3
 refine c8 (Tr (S:=S) 192 σ2 (λi hi=>by rcases hi with rfl |rfl<;>(refine(?_:_ < 4);decide))) λσ3 h0 X3 Fm3=>?_
 have F3:cq 3 1 bl cells t1 σ3:=F2.fm (Fm3 3 (.inr rfl)) (Fm3 1 (.inl rfl))
 let A0:Ad:=⟨λs=>σ2.length+ix s⟩
 have hA0:A0.yA .aJ=4:=rfl
 let N:=σ3.length
 let σ4:aj:=σ3++[.l []]
 let ρ4:=au (au ρ2 3 (.o 2 4)) 4 (.r N)
 have s3:ai 194 12 (kK 3) ρ2 σ2 .n ρ4 σ4:=bh (bI (ac.ah (tM ac.an rfl h0) (Xo (du ac.an)))) (gR rfl rfl (da bc (da bc gS)))
 -- the terms
 let T6:List V:=(List.range 6).map λx=>(cp x).enc
 let σ5:aj:=σ4++[.l T6]
 have F5:cq 3 1 bl cells t1 σ5:=(F3.lP _).lP _
 refine az (sn (d:=193) F5 (bP t1b rfl) (w:=3) (by decide)) λr1 l1 d1=>?_
 let σ6:=σ5.set 3 (fd 1 bl (t1+1))
 let c:=4+r1
 have c6:c<=6:=by lia
 have n3:4<=N:=by have:=F3.lt;have:A0.yA .aJ < N:=X3.Vu.lt (s:=.aJ) trivial;have e:A0.yA .aJ=4:=rfl;lia
 let Q:=σ6.length
 let σ7:aj:=σ6++[.l ((List.range c).map λx=>(cp x).enc)]
 have n5:σ5.length=N+2:=by refine(?_:(σ3++[_]++[_]).length=_);rw[Xv,Xv];rfl
 have n6:σ6.length=N+2:=by rw[XN];exact n5
 have tk:T6.take (c:Int).toNat=(List.range c).map λx=>(cp x).enc:=by
  refine(?_:((List.range 6).map _).take c=_)
  rw[<-List.map_take,List.take_range,Nat.min_eq_left c6]
 have T6e:ac 194 28 [.t [.c (.s [97])],.t [.c (.s [98])],.t [.c (.s [102]),.t [.c (.s [97])]],.t [.c (.s [102]),.t [.c (.s [98])]],.t [.c (.s [103]),.t [.c (.s [97])],.t [.c (.s [98])]],.t [.c (.s [103]),.t [.c (.s [98])],.t [.c (.s [97])]]] ρ4 σ4 T6 σ4:=by
  have lf:∀{s:List Nat} {n:Nat},Ev 194 (n+2) (.t [.c (.s s)]) ρ4 σ4 (.t [.s s]) σ4:=bI (Xo aq)
  exact ac.ah lf (ac.ah lf (ac.ah (bI (ac.ah aq (Xo lf))) (ac.ah (bI (ac.ah aq (Xo lf))) (ac.ah (bI (ac.ah aq (ac.ah lf (Xo lf)))) (Xo (bI (ac.ah aq (ac.ah lf (Xo lf)))))))))
 have g6:σ6[σ4.length]? =some (.l T6):=(aV (by have:σ4.length=N+1:=Xv;exact gN (i9 n3 this))).trans aX
 have e4:Ev 194 29 (.i .a (.c (.i 4)) (.l 43 [.v 2,.c (.i 3)])) ρ4 σ5 (.i (c:Nat)) σ6:=bX aq (cw (ac.ah (af (i:=2) rfl) (Xo aq)) d1) iy
 have tkl:=Ja (n:=(c:Nat)) g6 ⟨YX _,by unfold bY;lia⟩ (show 6<=aK by decide)
 rw[tk]at tkl
 let S7:Nat->Prop:=λi=>i=1∨i=3∨i=N∨i=Q
 have hX7:HX S7 A0 pN σ7:=by
  have X5:=(X3.kh [.l []]).kh [.l T6]
  have X7:=(X5.mP (i:=3) (.inr rfl) (fd 1 bl (t1+1))).kh [.l ((List.range c).map λx=>(cp x).enc)]
  refine⟨X7.Vu,λi hi=>?_⟩
  have ln7:σ7.length=N+3:=by refine(?_:(σ6++[_]).length=_);rw[Xv,n6];rfl
  have slt:∀s,pN.ok s->A0.yA s < N:=λs hs=>X3.Vu.lt hs
  rcases hi with rfl |rfl |rfl |rfl
  ·exact X7.d9 1 (.inl rfl)
  ·exact X7.d9 3 (.inr rfl)
  ·exact bm (by refine(?_:N < σ7.length);exact jb (gM ln7)) (λs hs=>XQ (slt s hs))
  ·exact bm (by refine(?_:Q < σ7.length);lia) (λs hs=>by have:=slt s hs;refine(?_:A0.yA s≠σ6.length);exact gN (i9 this n6))
 have hN7:σ7[N]? =some (.l (av (List.range 0))):=bO _ _ ((aV (gN n3)).trans (bO _ _ aX))
 refine Ca (Te (S:=S7) 188 (h:=4) (Q:=Q) (N:=N) (ρ:=ρ4) (ys:=(List.range c).map λx=>(cp x).enc) (.inr (.inr (.inl rfl))) (.inr (.inr (.inr rfl))) (by refine(?_:N≠σ6.length);exact gN (jb (gM n6))) rfl rfl c 0 A0 pN σ7 ρ4 (by lia) hX7 HB0 L6 hA0 hN7 aX (λ_ _=>rfl)) λρ8 σ8 A8 H8 k8 f8 X8 B8 K8 a8 N8 fr8=>?_
 rw[Nat.zero_add]at B8 K8 N8
 have s4:ai 194 12 (kK 4) ρ4 σ4 .n ρ8 σ8:=by
  refine fg (S:=.cr Q ((List.range c).map λx=>(cp x).enc)) (fe (yP (du T6e) e4 tkl) aX (bq (by rw[Xr,XW];lia))) ?_
  rw[<-List.range_eq_range']at f8;exact f8
 have F8:cq 3 1 bl cells (t1+1) σ8:=((F5.eF (t':=t1+1)).lP _).fm (fr8 3 (.inr (.inl rfl)) (gN n3)) (fr8 1 (.inl rfl) (by lia))
 have G8:HG H8 0:=B8.hg K8 (by lia)
 -- the merges
 refine az (sn (d:=193) F8 (ja t1b rfl) (w:=4) (by decide)) λr2 l2 d2=>?_
 let σ9:=σ8.set 3 (fd 1 bl (t1+2))
 have F9:cq 3 1 bl cells (t1+2) σ9:=F8.eF
 have X9:HX S7 A8 H8 σ9:=X8.mP (.inr (.inl rfl)) _
 have N9:σ9[N]? =some (.l (av (List.range c))):=(aV (gN n3)).trans N8
 have e5:Ev 194 30 (.i .a (.c (.i 1)) (.l 43 [.v 2,.c (.i 4)])) ρ8 σ8 (.i ((1+r2:Nat):Int)) σ9:=bX aq (cw (ac.ah (af ((k8 2 (by decide)).trans rfl)) (Xo aq)) d2) iy
 obtain⟨ρa,σa,Aa,Ha,ma,ta,ka,fa,Xa,Ga,ca,aa,Fa,iQ,Na⟩:=Rf (S:=S7) (c:=c) 190 (h:=4) (N:=N) (ys:=df 0 ((1+r2:Nat):Int) 1) (ρ:=ρ8) (.inr (.inl rfl)) (.inl rfl) (.inr (.inr (.inl rfl))) (mD n3) (by lia) ((k8 2 (by decide)).trans rfl) ((k8 3 (by decide)).trans rfl) ((k8 4 (by decide)).trans rfl) (List.range (1+r2)) 0 A8 H8 σ9 (t1+2) ρ8 (λz hz=>by have:=YB hz;exact qT this (vu l2)) (by rw[XW];exact qU (vu l2) rfl) X9 G8 B8.hc a8 F9 (by rw[XW];lia) N9 (λ_ _=>rfl)
 have s5:ai 194 12 (kK 5) ρ8 σ8 .n ρa σa:=by
  refine fg (S:=.bx (df 0 ((1+r2:Nat):Int) 1)) (pR e5 (by unfold aK;lia) (by unfold bY;exact vx)) ?_
  refine(?_:bF _ _ _ _ (.bx (df 0 ((1+r2:Nat):Int) 1)) (df 0 ((1+r2:Nat):Int) 1) _ _ _ _ _)
  rw[vB]at fa ⊢;exact fa
 have pa:∀z,z < 5->ρa z=ρ4 z:=λz hz=>(ka z (bP hz rfl)).trans (k8 z (gN hz))
 obtain⟨σb,sb,nn0,Fmb⟩:=TQ 189 Xa Ga;refine i8 nn0 ?_;clear nn0;intro Ab Hb Xb Gb cb ab _
 have cb:Hb.KM=c:=cb.trans ca
 have ab:Ab.yA .aJ=4:=ab.trans aa
 have s6:ai 194 12 (kK 6) ρa σa .n ρa σb:=dv (bQ (af (i:=3) ((pa 3 (by decide)).trans rfl)) (by rw[<-aa];exact dy Xa.Vu) rfl ac.an (by rw[<-aa];exact sb))
 have Fb:cq 3 1 bl cells ta σb:=Fa.fm (Fmb 3 (.inr (.inl rfl))) (Fmb 1 (.inl rfl))
 have Nb:σb[N]? =some (.l (av (List.range c))):=(Fmb N (.inr (.inr (.inl rfl)))).trans Na
 have s7:=QT 191 (ρ:=ρa) Xb.Vu Gb.VU cb c6 ab Nb ((pa 3 (by decide)).trans rfl) ((pa 4 (by decide)).trans rfl)
 let σc:aj:=σb++[.l (gL (qP Hb c))]
 let ρc:=au ρa 10 (.r σb.length)
 have Fc:cq 3 1 bl cells ta σc:=Fb.lP _
 have pl:(qP Hb c).length<=300:=by
  have:∀L:List Nat,(L.flatMap (nH Hb c)).length<=L.length * 6:=λL=>by
   induction L with
   |nil=>exact Xx _
   |cons z L ih=>rw[List.flatMap_cons,Xv,Xy];have:=IW Hb c z;lia
  have:=this (List.range c)
  rw[XW]at this
  exact Xs this (by lia)
 refine az (sn (d:=193) Fc (bP iQ rfl) (Sa (H:=Hb) (c:=c) (by lia))) λr3 l3 d3=>?_
 let σd:=σc.set 3 (fd 1 bl (ta+1))
 obtain⟨⟨xa,xb⟩,hx⟩:∃z,(qP Hb c)[r3]? =some z:=⟨_,Yu l3⟩
 refine cO (R9 (Yo hx)) λxac xbc xr=>?_
 have ln:=ci rfl (d:=194) (n:=27) (ρ:=ρc) (Xo (af (bw _ _ _))) (fC (σ:=σc) aX (bq (by rw[Xr];exact pl)))
 rw[Xr]at ln
 let ρd:=au (au ρc 7 (.i xa)) 8 (.i xb)
 have s8:ai 194 12 (kK 8) ρc σc .n ρd σd:=
  bh (bi (af (bw _ _ _)) (cw (ac.ah (af (i:=2) ((pa 2 (by decide)).trans rfl)) (Xo ln)) d3) (dL (v:=.t [.i xa,.i xb]) ((aV (by have:=Fb.lt;exact gN this)).trans aX) (gG (by unfold aK;exact j4 (qT l3 pl) rfl)) (by unfold dS;rw[Xz (YX _)];refine(?_:(gL (qP Hb c))[r3]? =_);rw[Yy,hx];rfl))) (gR rfl rfl (da bc (da bc gS)))
 have Xd:HX S7 Ab Hb σd:=(Xb.kh _).mP (.inr (.inl rfl)) _
 refine Ir (QS (ρ:=ρd) Xd.Vu Gb ab (a:=xa) (b:=xb) (by rw[cb];exact xac) (by rw[cb];exact xbc) xr ((pa 3 (by decide)).trans rfl) rfl rfl) λρe σe s9=>?_
 exact fB σe (cI (f:=AJ) (fl:=.r (.b true)) rfl rfl (ao s0 (ao s1 (ao s2 (ao s3 (ao s4 (ao s5 (ao s6 (ao s7 (ao s8 (ao s9 (be (bM aq)))))))))))))
end
end
section
open PySem PySem.W PyProof.Rows PySem.Calls
set_option backward.match.sparseCases true
theorem QQ{prog q:Program}{w:World}{loose:List Str}{mean:ExcName->Option Value}{mg mb:Str->Option Value}{s:Shared}{K:Frag}{a:Addr}{vs:List Value}{l:List Int}{f:Addr}(ok:wX (fy K a l)=true)(hk:nsIn K mainGlobals (Str.ofString "law")=some (some (.ref 601)))
  (T:Top q loose mean mg mb s.heap) (KX:K.In s.heap) (hl:l.length<=63) (h1:s.heap.IsList a vs.toArray) (h2:IntsAre vs l) (hf:mg (Str.ofString "law")=some (.ref f)):
  codeAny (model prog w) callerA (.call (.ref f) ⟨[.ref a],[]⟩) (λr s'=>r=.ok (.ret (.bool true))/\(∀b o,s.heap.get? b=some o->s'.heap.get? b=some o)/\s'.gens=s.gens/\s'.os=s.os) s:=by
 have e1:=mg_of KX T.g hk
 rw[hf]at e1
 cases e1
 have I:aU ⟨prog,w,fy K a l,s.heap⟩ s.heap [] []:=⟨rfl,Zc,λ_ _ e=>e,λ_ h=>absurd h Ye,λ_ h=>absurd h Ye,λi x o h=>bN h,λi xs h=>bN h,(aC vs h1 h2),λi x o h=>bN h⟩
 refine aT (Ty l hl) λτ h=>?_
 refine YY (h ⟨prog,w,fy K a l,s.heap⟩ callerA s [] [.ref a] (Qa T KX ok) ⟨rfl,by decide,by decide+kernel⟩ I ⟨_,_,rfl,⟨rfl,rfl⟩,rfl⟩) λr s' k=>?_
 rcases r with _ |f
 ·exact k.elim
 ·cases f<;>first |exact k.elim |skip
  obtain⟨μ,st,e⟩:=k
  exact Ie (XB (λv=>Except.ok (Flow.ret v)) e) (λb o hb=>st.bJ.iE b o hb Ye) st.jR.1 st.jR.2.2
set_option maxHeartbeats 8000000 in
theorem main:PySem.Challenge.rw_pq0020_01.Holds:=by
 w_on
 refine holds_law ws λsaid=>?_
 refine holds_open (r:=PySem.Challenge.rw_pq0020_01.row) (XP:=λ_ _=>True) (YP:=YP) QY N3 N0 (λ_ _=>trivial) (λ_ _ _ _ _=>trivial) (by rfl) (by rfl) (by rfl) (λ_ _=>recFacts_nil rfl) (by rfl) (by assumption) (by decide+kernel) ⟨rfl,rfl,rfl,rfl,rfl,by decide+kernel⟩ ?hw ?hc
 (case hw=>w_witness2)
 intro w s₀ s₁ mg mb G Y fa o pm cd doc dV kV ho hd' hcd hD hmg hg args vals as hpre hlay hrd hwl hlo
 refine c8 Y ?_;clear Y;intro K KX ok hk
 have T:=PySem.W.Ground.T G
 clear hD hd' hcd ho G
 wrow_args hpre hlay hrd hwl hlo
 have hm:mg (Str.ofString "law")=some (.ref fa):=hmg
 clear hmg
 refine enter_call (YY (QQ (l:=?l) (vs:=?vs) (ok _ _) hk T KX ?h1 ?h2 ?h3 hm) ?h4)
 case h2=>assumption
 case h3=>assumption
 case h1=>lia
 clear hm T KX
 rintro r s' ⟨rfl,h2,h3,h4⟩
 refine GoodW.toG ⟨.inl (xM _ (.bool true) ([]) rfl ?_ ?_ ?_ ?_),h2,h4,h3.trans hg⟩
 ·intro cls;rfl
 ·exact .bool true
 ·generalize [ofPy _]=as
  first |kernel_rfl | (with_unfolding_all rfl) | (refine(?_:((WShape.has _ _ _)&&_)=true);simp[OpenLaw.row,WExpr.holds])
 ·exact λ_=>⟨Zc,λ_ h=>absurd h Ye⟩
end
end Mine.Internal
theorem PySem.Challenge.cw_pq0020_01_holds : PySem.Challenge.rw_pq0020_01.Holds := by
 exact Mine.Internal.main
