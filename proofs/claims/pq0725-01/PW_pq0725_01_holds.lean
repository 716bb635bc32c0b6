import PyProof.Rows.All
import Wide.All
import OpenK.AllK
import Wide.FinOn
import KE.KDictOf
import KE.KDictSum
import KE.KEqDict
import KE.KRevSl
import KE.KSortKey
import KE.RegKLenAny
import OpenK.KCell
import OpenK.KCls
import OpenK.KMake
import OpenK.KMeth
import OpenK.KWalk
import PyProof.AttrMissHeap
import PyProof.CallType
import PyProof.CompFree
import PyProof.DefCall
import PyProof.DictTruth
import PyProof.EqAt
import PyProof.FactsAll.list
import PyProof.FactsAll.str
import PyProof.ListCopy
import PyProof.ListOps
import PyProof.PureCalls
import PyProof.RangeFor
import PyProof.RangeIter
import PyProof.Rows.ListMul
import PyProof.Rows.SortStr
import PyProof.Rows.StrTemp
import PyProof.Rows.StrWeight2
import PyProof.Rows.TupAdd
import PyProof.SliceList
import PyProof.SliceSyntax
import PyProof.TupleCall
import PyProof.WalkInts
import PyProof.WalksMore
import PyProof.WalksPairs
import PyProof.ZipIter
import PySem.Challenge.RW_pq0725_01
set_option Elab.async false
set_option linter.all false
set_option bootstrap.genMatcherCode false
set_option tactic.hygienic false
set_option maxRecDepth 100000
set_option genSizeOf false
set_option genSizeOfSpec false
set_option genInjectivity false
open Nat renaming exists_eq_add_of_le'→Tg,le_trans→Th,lt_of_lt_of_le→Tn,le_refl→To,lt_succ_self→Tr,eq_of_beq_eq_true→Tu,not_lt_zero→Tw,lt_of_succ_lt_succ→Tx,ble_eq_true_of_le→Ty,le_succ→T3,le_of_ble_eq_true→T7,beq→T8,add_le_add_right→T9,lt_of_le_of_lt→Ue,le_add_right→Uf,succ_le_succ→Ug,add_le_add_left→Ul,not_lt→Uq,le_of_lt→Ur,zero_le→Ux,ne_of_lt→Uz,succ_pos→U0,lt_succ_of_lt→U5,ne_of_gt→U7,ble→U8,add_right_comm→U9,lt_irrefl→Vk,succ→Vm,le_add_left→Vo,add_assoc→Vu,succ_lt_succ→Vv,sub_add_cancel→Vw,le_of_succ_le→V0,mul_le_mul_left→V2,exists_eq_add_of_le→V5,add_sub_cancel_left→V6,le_of_succ_le_succ→V8,blt→Wg,beq_refl→Wi,zero_add→Wu,le_of_not_lt→Wz,le_sub_of_add_le→W1,add_sub_cancel'→W4,le_of_add_le_add_right→Xd,le_of_add_le_add_left→Xf,le_of_lt_succ→Xg,lt_of_succ_lt→Xh,le_max_right→Xm,max_eq_right→Xn,lt_add_of_pos_right→Xo,add_comm→Xu,succ_add→Xv,le_of_eq→Xw,le_max_left→X3,max_eq_left→X4,sub_eq_zero_of_le→Yb,sub_lt_sub_right→Yc,sub_le_of_le_add→Yh,not_succ_le_zero→Yj,pow_le_pow_right→Yk,max_le→Yr,mul_comm→Yz
open List renaming mem_cons_of_mem→Ti,mem_cons_self→Tj,length_cons→Tl,length_map→Tm,mem_cons→Tz,length_append→T1,map_inj_left→T4,map_cons→T5,range'→T6,length_singleton→Ua,zip_cons_cons→Ub,mem_map→Ud,all_eq_true→Ui,mem_range'_1→Uk,lookup_cons→Um,size_toArray→Uo,filter_eq_self→Up,map_map→Us,length_range'→Uu,range'_eq_map_range→Uv,filter_cons→Uw,range'_succ→U2,filter_eq_nil_iff→U4,length_eq_zero_iff→Va,all_cons→Vb,length_reverse→Vg,map_id→Vh,nil_append→Vi,length_filter_le→Vj,reverse_cons→Vn,append_nil→Vp,nodup_cons→Vq,toArray→Vt,forIn_nil→Vx,forIn_cons→Vz,map_congr_left→V4,eq_nil_of_length_eq_zero→V7,all_map→V9,append_assoc→We,replicate→Wf,isEmpty_iff→Wh,not_mem_nil→Wj,getElem?_eq_getElem→Wl,range→Wp,filter_cons_of_neg→Wq,filter_cons_of_pos→Ws,cons_lt_cons_iff→Wx,mem_append_right→Wy,any_eq_true→W0,drop_eq_nil_iff→W2,map_append→W3,replicate_succ→W6,filterMap_cons→W7,any_eq_false→Xi,filter_congr→Xj,any_cons→Xk,map_fst_zip→Xq,length_drop→Xr,append_cons→Xs,casesOn→Xx,range_succ_eq_map→Xy,map_nil→Xz,of_mem_zip→X6,foldl_cons→X7,filter_map→X8,mem_filter→X9,nodup_nil→Ye,mem_iff_getElem→Yg,drop_drop→Yi,mem_append_left→Yl,append_toArray→Yn,eraseDups_cons→Yp,foldl→Ys,filterMap_map→Yt,getElem_range→Yu,getElem?_drop→Yw,lookup_append→Yx,range'_concat→Yy,cons→Y2
open PySem.Heap renaming get?_push_of_some→Tq,get?_push_size→Tv,get?_update_self→Un,lt_size→U3,SameBut→Ve,get?_update_other→Vf,size_push→Vy,dictOf_iff→Wn,IsTuple→Y0
open Bool renaming false_ne_true→Ts,and_eq_true→Uc,and_eq_true_iff→Uh,false_eq_true→Ut,false_and→U6,false_or→Vc,true_and→Vd,and_false→Vl,or_eq_false_iff→V1,eq_iff_iff→Wa,and_eq_false_iff→Wc,and_true→Wk,not_eq_true'→Wv,not_eq_false'→Xe,and_assoc→Yd,or_eq_true_iff→Yo,and_comm→Yq,true_or→Y1
open PySem.Expr renaming casesOn→Tt
open Option renaming some→Uj,isNone_iff_eq_none→Uy,isSome_iff_exists→Wm,map_eq_some_iff→Ww,bind_some→Xp,isNone_none→Yv
open PySem.Stmt renaming casesOn→U1
open Int renaming fmod_nonneg_of_pos→Vr,lt_of_le_of_lt→Wo,ofNat_le→Wt,toNat_of_nonneg→W5,ofNat_lt→W8,le_trans→W9,fmod_lt_of_pos→Xa,lt_of_lt_of_le→Xb,ofNat_inj→Xl,natCast_pos→X5,le_refl→Ym
open PySem.Const renaming casesOn→V3
open PySem.UnaryOp renaming casesOn→Wb
open PySem renaming wpAny_bind→Y3,wpAny_pure→Y4,wpAny_holding→Y5,wpAny_standAt→Y6,wpAny_field→Y7
open PySem.W renaming boot_heap→Y8
section
section
end
section
namespace Mine
theorem vn{N c:Nat}(h:c≤N):N=N-c+c:=(Vw h).symm
theorem j8{N c a b:Nat}(h:a+b≤N) (d:c≤b):N=N-c+c:=vn (Th d (Th (Vo b a) h))
theorem im{N c a b:Nat}(h:b+a≤N) (d:c≤b):N=N-c+c:=vn (Th d (Th (Uf b a) h))
theorem F4{N i F:Nat}(h:N+i+2≤F):F-(N+i+2)+N+1+i+1=F:=by
  rw [U9 _ 1 i,Vu _ N i,Vu _ 1 1,Vu];exact Vw h
theorem zq9{a:Int}{k:Nat}(h:a.toNat=k+1):(a-1).toNat=k:=by
  rw [Int.pred_toNat,h];rfl
theorem Ow{i x k:Nat}(h:x-i=k+1):x-(i+1)=k:=by rw [← Nat.sub_sub,h];rfl
theorem zog{x y k:Nat}(h:max x y+1≤k):y≤k-1:=W1 (Th (Ug (Xm x y)) h)
theorem zn7{x y k:Nat}(h:max x y+1≤k):x≤k-1:=W1 (Th (Ug (X3 x y)) h)
theorem zqc{x y n m:Nat}(h:x≤n) (g:y≤m):max x y+1≤max n m+1:=Ug (Yr.mpr ⟨Th h (X3 n m),Th g (Xm n m)⟩)
theorem zqb{r w i:Nat}(h:i+1<max (r+1) (w+1)) (g:w≤r):i<r:=by
  rw [X4 (Ug g)] at h;exact Tx h
theorem zn5{r w i:Nat}(h:i+1<max (r+1) (w+1)) (g:r≤w):i<w:=by
  rw [Xn (Ug g)] at h;exact Tx h
theorem Qf{a b:Nat}:a<max a b↔a<b:=⟨fun h=>Nat.lt_of_not_le fun g=>(by rw [Nat.max_eq_left g] at h;exact Nat.lt_irrefl a h),fun h=>Nat.lt_of_lt_of_le h (Nat.le_max_right a b)⟩
theorem zqj{a b:Nat}:b<max a b↔b<a:=by rw [Nat.max_comm];exact Qf
theorem zp3{k n:Nat}(h:1≤k):max (k-1) (k-1+n)+1≤k+n:=by
  rw [Xn (Uf _ n),U9,Vw h];exact To _
theorem P3{a b:Nat}(h:a<b):b-a-1+1=b-a:=Nat.sub_add_cancel (Nat.sub_pos_of_lt h)
theorem znz{n h a:Nat}(g:h+1≤a∧a<h+1+(n-h-1)):a<n:=by
  rw [Nat.sub_sub] at g
  rcases Nat.le_total (h+1) n with e | e
  · rw [W4 e] at g;exact g.2
  · rw [Yb e] at g;exact absurd g.2 (Uq.mpr g.1)
theorem zny{i K l:Nat}(h:i<K) (g:¬ i<l):i-l<K-l:=Yc (Uq.mp g) h
theorem zp8{j k n:Nat}(h:j<n-k):k+j<n:=Nat.add_lt_of_lt_sub' h
theorem Qb{M:Nat}{x:Int}(h:0<M):(x.fmod M).toNat<M:=by
  have a:=Vr x (X5.mpr h)
  have b:=Xa x (X5.mpr h)
  exact (Int.toNat_lt a).mpr b
theorem Rz{K l:Nat}:((K:Int)-(l:Int)).toNat=K-l:=Int.toNat_sub K l
theorem Ta{x b c:Nat}(h:x≤b) (d:4 * b≤c+3):4 * x-3≤c:=Nat.sub_le_of_le_add (Nat.le_trans (Nat.mul_le_mul_left 4 h) d)
theorem zsu{x c:Nat}(h:4 * x-3≤c):2 * (4 * x-3)+3≤2 * c+3:=T9 (V2 2 h) 3
theorem zo2{v:Nat}{i:Int}(h:0≤i) (g:i<v):i.toNat<v:=(Int.toNat_lt h).mpr g
theorem ztk{i n:Nat}:(i:Int)<n+1↔i<n+1:=W8 (n:=i) (m:=n+1)
theorem znb{n m b c:Nat}(h:m≤n) (g:c+12 * n+60<b):c+12 * m+60<b:=
  Ue (T9 (Ul (V2 12 h) c) 60) g
theorem pq{a b c:Nat}(h:b≤a) (d:c<b):c<a:=Tn d h
theorem fi{a b c:Nat}(h:b≤a) (d:c<b):a≠c:=U7 (Tn d h)
theorem R6{n a:Nat}(h:n<a+1):n=a∨n<a:=(Nat.lt_or_eq_of_le (Nat.le_of_lt_succ h)).symm
theorem Ab{a b c:Nat}(h:b≤a) (d:c<b):c≠a:=Ne.symm (fi h d)
theorem lb{a b e:Nat}(h:b≤a):b≤a+e:=Th h (Uf a e)
theorem zpm{a b e:Nat}(h:a<b):a<b+e:=Tn h (Uf b e)
theorem rp{a b e:Nat}(h:a<b):a≠b+e:=Uz (zpm h)
theorem Ax{a b e:Nat}(h:a<b):b+e≠a:=Ne.symm (rp h)
theorem tz{a b c:Nat}(h:a<b) (g:b≤c):a≠c:=Uz (Tn h g)
theorem zqx{a b c:Nat}(h:a<b) (g:b≤c):c≠a:=Ne.symm (tz h g)
theorem Ar{a c:Nat}(h:955≤a) (g:a≠c):a≠0∧a≠951∧a≠952∧a≠953∧a≠954∧a≠c:=⟨fi h (by decide),fi h (by decide),fi h (by decide),fi h (by decide),fi h (by decide),g⟩
theorem zoj{a:Nat}(h:955≤a):a≠951∧a≠952∧a≠953:=⟨fi h (by decide),fi h (by decide),fi h (by decide)⟩
theorem zlg{a c:Nat}(h:955≤a) (g:a≠c):a≠951∧a≠953∧a≠c:=⟨fi h (by decide),fi h (by decide),g⟩
theorem O3{a b c d:Prop}(h:a∧b∧c∧d):a∧b∧c:=⟨h.1,h.2.1,h.2.2.1⟩
theorem Ro{a b c:Prop}{x y:Nat}(h:a∧b∧c∧¬ x=y):y≠x:=fun e=>h.2.2.2 e.symm
theorem zop{b:Prop}{k c:Nat}(h:a∧¬ k=c∧b):c≠k:=fun e=>h.2.1 e.symm
theorem zq8{k m:Nat}(h:k=0∨k=954):k=0∨k=951∨k=952∨k=953∨k=954∨k=m:=h.elim .inl fun h=>.inr (.inr (.inr (.inr (.inl h))))
theorem zn0{k m:Nat}(h:k=951∨k=952∨k=953):k=0∨k=951∨k=952∨k=953∨k=954∨k=m:=.inr (h.elim .inl fun h=>.inr (h.elim .inl fun h=>.inr (.inl h)))
theorem zn1{k m:Nat}(h:k=m):k=0∨k=951∨k=952∨k=953∨k=954∨k=m:=.inr (.inr (.inr (.inr (.inr h))))
theorem zqu{n:Nat}:((n+1:Nat):Int)+1=n+1+1:=rfl
theorem F8{a x n c:Nat}(h:a+12 * (n+1)+60<x) (d:c≤12):a+c+12 * n+60<x:=by
  rw [U9 a c,Vu a]
  exact Ue (T9 (Ul (Ul d (12 * n)) a) 60) h
theorem Q5{a x n c:Nat}(h:a+12 * n+60<x) (d:c≤60):a+c<x:=Nat.lt_of_le_of_lt (Nat.add_le_add (Nat.le_add_right a (12 * n)) d) h
theorem Qj{a n x:Nat}(h:a+(n+1)<x):a+1+n<x:=by rw [Nat.add_right_comm];exact h
theorem uc{a n x:Nat}(h:a+n<x):a<x:=Ue (Uf a n) h
theorem Fy{a c b x:Nat}(h:a+b<x) (d:c≤b):a+c<x:=Nat.lt_of_le_of_lt (Nat.add_le_add_left d a) h
theorem zoy{a c b x e:Nat}(h:a+b<x) (d:e+c≤b):a+e+c<x:=by rw [Vu];exact Fy h d
theorem zpi{n m b c:Nat}(h:m≤n) (g:c+n<b):c+m<b:=Ue (Ul h c) g
theorem zn3{a b c d:Nat}(h:a≤b+c) (g:c≤d):a≤b+d:=Th h (Ul g _)
theorem zof{a b c d:Nat}(h:d≤c) (g:a+c≤b):a+d≤b:=Th (Ul h _) g
theorem x4{n c a b:Nat}(h:n≤a) (d:a+c≤b):n+c≤b:=Th (T9 h c) d
theorem vj{n c a b e:Nat}(h:n≤a) (d:c+a+e≤b):c+n+e≤b:=Th (T9 (Ul h c) e) d
theorem vh{n c a b m:Nat}(h:n≤a) (d:c+a≤b):c+n≤m+b:=Th (Ul h c) (Th d (Vo b m))
theorem xn{a b m:Nat}(h:a≤m) (g:b≤m):max a b≤m:=Yr.mpr ⟨h,g⟩
theorem Rg{a b m c:Nat}(h:a≤c) (g:b≤c) (d:c≤m):max a b≤m:=Nat.le_trans (xn h g) d
theorem zom{a b m c e n:Nat}(h:a≤c) (g:b≤c) (d:e+(c+1)≤m):e+max (a+1) (b+1)≤n+m:=
  Th (Ul (xn (Ug h) (Ug g)) e) (Th d (Vo m n))
theorem zpq{a b m c:Nat}(h:a≤c) (g:b≤c) (d:c+1≤m):max (a+1) (b+1)≤m:=Th (xn (Ug h) (Ug g)) d
theorem Qg{a b:Nat}:max (a+1) (b+1)=max a b+1:=Nat.succ_max_succ a b
theorem zpx{a b:Nat}(h:¬ (b:Int) > (a:Int)):a=max a b:=(X4 (Wt.mp (Int.not_lt.mp h))).symm
theorem zp7{x K a b:Nat}(h:K≤a) (d:a≤b):K-x≤b:=Th (Nat.sub_le K x) (Th h d)
theorem Fr{n:Nat}(h:0<n):1+(n-1)=n:=Nat.add_sub_cancel' h
theorem zoh{h n:Nat}(g:h<n):h+(n-h)=n:=W4 (Ur g)
theorem Qw{h n:Nat}(g:h≤n):h+(n-h)=n:=Nat.add_sub_cancel' g
theorem Qd{a b:Nat}(h:a+1≤b):b-a=b-a-1+1:=(P3 h).symm
theorem zth{j b c e:Int}(h:0≤j) (g:j<b) (d:e≤0∧b≤c):e≤j∧j<c:=⟨W9 d.1 h,Xb g d.2⟩
theorem Sk{n:Nat}:((n:Nat):Int).toNat=n:=Int.toNat_natCast n
theorem zqd{N i k:Nat}(h:N+i+3≤k+1):k-(N+i+2)+N+1+i+1=k:=F4 (V8 h)
theorem Rj{N c a b e:Nat}(h:a+b≤N+e) (d:c+e≤b):N=N-c+c:=vn (Nat.le_of_add_le_add_right (Nat.le_trans d (Nat.le_trans (Nat.le_add_left b a) h)))
theorem znr{N c a b e:Nat}(h:b+a≤N+e) (d:c+e≤b):N=N-c+c:=vn (Xd (Th d (Th (Uf b a) h)))
theorem zon{i K l:Nat}(h:i<K) (g:l≤i):i-l<K-l:=Yc g h
theorem zsx{x:Nat}(h:1≤x):2 * (4 * x-3)+3≤4 * (x * 2)-3:=by
  obtain ⟨y,rfl⟩:=Tg h
  show 2 * (4 * y+1)+3≤4 * ((y+1) * 2)-3
  rw [Nat.add_mul,Nat.mul_add 4,Nat.mul_add 2,Yz y 2,← Nat.mul_assoc,← Nat.mul_assoc]
  exact To _
theorem zre{x:Nat}(h:x≤8):2 * (4 * x-3)+3≤61:=zsu (c:=29) (Ta h (by decide))
theorem zl4{n:Nat}(h:n≤3):max 1 (max (max 4 (n+13)+1+1) (max 12 1+1)+1)+1+1≤24:=by revert n;decide
theorem zqp{n:Nat}(h:n≤3):4-n+15+n=19:=by revert n;decide
theorem znn{n:Nat}(h:n≤4):138-n+61+n=199:=by revert n;decide
theorem zqh{s m n:Nat}(h:s≤4) (e:m=s) (g:70≤n):n-61-m+61+m=n:=by
  subst e;rw [U9,Vw,Vw]
  · exact Th (by decide) g
  · exact W1 (Th (T9 h 61) (Th (by decide) g))
theorem zpj{x k n:Nat}(h:x+1≤k):max (k-1) (k-1+n)+1≤k+n:=zp3 (Th (Vo 1 x) h)
theorem Q0{i b:Int}(h:i.natAbs<1000000000) (d:1000000000<b):i<b:=Int.lt_of_le_of_lt Int.le_natAbs (Int.lt_trans (Int.ofNat_lt.mpr h) d)
theorem Ra{i b:Int}(h:i.natAbs<1000000000) (d:b < -1000000000):b≤i:=
  Int.le_of_lt (Int.lt_trans d (Int.neg_lt_of_neg_lt (Wo Int.le_natAbs (W8.mpr (by rwa [Int.natAbs_neg])))))
theorem zpd{n c a b m:Nat}(h:n≤a) (d:c+a≤b):c+(n-1)≤m+b:=vh (Th (Nat.sub_le n 1) h) d
theorem n8{n c a b m e:Nat}(h:n≤a) (d:c+a+e≤b):c+n+e≤m+b:=Th (vj h d) (Vo b m)
theorem P2{a b c k N:Nat}(h:k+c≤N+b) (d:a+b≤c):k+a≤N:=Nat.le_of_add_le_add_right (Nat.le_trans (by rw [Nat.add_assoc];exact Nat.add_le_add_left d k) h)
theorem zql{k:Int}{n:Nat}(h:n≤4096) (g:k<n) (e:0≤k) : -4096≤k∧k<4096:=⟨W9 (by decide) e,Xb g (Wt.mpr h)⟩
theorem zo9{k:Int}{n:Nat}(h:n≤4096) (g:k<0) (e:0≤k+n) : -4096≤k∧k<4096:=
  ⟨(Int.add_le_add_iff_right 4096).mp (show (-4096+4096:Int)≤k+4096 from W9 e (Int.add_le_add_left (Wt.mpr h) k)),Int.lt_trans g (by decide)⟩
theorem P8{k b:Int}{n:Nat}(h:n≤4096) (g:k<n) (d:4096≤b):k<b:=Int.lt_of_lt_of_le (Int.lt_of_lt_of_le g (Int.ofNat_le.mpr h)) d
theorem zor{b:Int}{n:Nat}(h:n≤4096) (d:4096<b):(n:Int)<b:=Wo (Wt.mpr h) d
theorem zos{k:Int}{n:Nat}(g:k<0) (e:0≤k+n):0≤k+n∧k+n<n:=⟨e,by have:=Int.add_lt_add_right g n;rwa [Int.zero_add] at this⟩
theorem zpr{a b c n k:Nat}(h:a≤b+c) (g:k≤a+n):k+1≤b+(n+c+1):=
  Ug (show k≤b+(n+c) from Th g (by rw [Xu n c,← Vu];exact T9 h n))
theorem re{a b d:Nat}(h:a+(d+1)≤b):a+1+d≤b:=by rw [U9];exact h
theorem zpo{a lo:Nat}(g:a<lo+1) (h:¬ a<lo):a=lo:=Nat.le_antisymm (Xg g) (Uq.mp h)
theorem ub{k lo n:Nat}(h:lo+(k+1)=n):lo<n:=h▸Xo (U0 k)
theorem oj{k:Nat}:((0+k:Nat):Int).toNat=k:=(Wu k)
theorem zsi{a:Int}{k:Nat}(h:a.toNat=k+1):0<a:=Int.lt_of_not_ge fun g=>by rw [Int.toNat_of_nonpos g] at h;cases h
theorem zsd{k:Int}(h:0≤k):k=(k.toNat:Int):=(W5 h).symm
theorem zra{n:Nat}:max 24 (25+n)+1≤25+(n+1):=by rw [Xn (Th (by decide) (Uf 25 n))];exact To _
theorem zq4{k:Nat}(h:k<690):4+12 * k+60<9900:=Ue (T9 (Ul (V2 12 (Ur h)) 4) 60) (by decide)
theorem zo0{k:Nat}(h:k<690):1+300+k<1000:=Ue (Ul (Ur h) _) (by decide)
theorem zqg{a:Nat}(h:955≤a):a≠0∧a≠951∧a≠952∧a≠953∧a≠954:=⟨fi h (by decide),fi h (by decide),fi h (by decide),fi h (by decide),fi h (by decide)⟩
theorem zo7{a b c:Prop}{k n m:Nat}(h:a∧b∧c) (g:k<n) (e:n≤m):a∧c∧k≠m:=⟨h.1,h.2.2,tz g e⟩
theorem Oy{k m:Nat}(h:k=951∨k=952∨k=953∨k=m) (g:955≤k):k=m:=
  h.elim (fun e=>absurd e (fi g (by decide))) fun h=>h.elim (fun e=>absurd e (fi g (by decide))) fun h=>h.elim (fun e=>absurd e (fi g (by decide))) id
theorem F5{n s a c e b:Nat}(g:n≤s) (h:s≤a) (d:c+a+e≤b):c+n+e≤b:=vj (Nat.le_trans g h) d
theorem ya{n a c b:Nat}(h:n≤a) (d:c+a≤b):c+n≤b:=Th (Ul h c) d
theorem zqr{n s a c b:Nat}(g:n≤s) (h:s≤a) (d:a+c≤b):n+c≤b:=x4 (Th g h) d
theorem m5{n s a b:Nat}(g:n≤s) (h:s≤a) (d:a≤b):n≤b:=Th g (Th h d)
theorem zo8{n s r a c b:Nat}(f:n≤r) (g:r≤s) (h:s≤a) (d:a+c≤b):n+c≤b:=x4 (Th f (Th g h)) d
theorem Q4{l k a c x b n:Nat}(e:l=k) (h:k<a) (d:c+a+x≤b):c+l+x≤n+b:=e▸n8 (Nat.le_of_lt h) d
theorem Rf{l k a b:Nat}(e:l=k) (h:k<a) (d:a≤b):l≤b:=e▸Nat.le_trans (Nat.le_of_lt h) d
theorem znm{l k a c x b:Nat}(e:l=k) (h:k≤a) (d:c+a+x≤b):c+l+x≤b:=e▸vj h d
theorem pu{l k a b:Nat}(e:l=k) (h:k≤a) (d:a≤b):l≤b:=e▸Th h d
theorem Fc{n a c b:Nat}(h:n<a) (d:c+a≤b):c+n≤b:=ya (Nat.le_of_lt h) d
theorem zq7{n a c b e:Nat}(h:n<a) (d:c+(e+a)≤b):c+(e+n)≤b:=ya (Fc h (To _)) d
theorem lc{i n:Nat}(h:i<0+n):i<n:=Wu n▸h
theorem Ru{i n:Nat}(h:i<n):i<0+n:=(Nat.zero_add n).symm▸h
theorem jk{a k n:Nat}(h:a+(k+1)≤n+2):a+k≤n+1:=V8 h
theorem p8{a b k n:Nat}(h:a+(k+1)≤n+2) (d:b≤a):b≤n+1:=Th d (Th (Uf a k) (jk h))
theorem oq{a k n:Nat}(h:a+(k+1)=n):a+1+k=n:=(Xv a k).trans h
theorem md{a k n:Nat}(h:a+k≤n):a≤n:=Th (Uf a k) h
theorem zr6{a b k n:Nat}(h:a+(k+1)≤n) (g:b≤a+1):b+k≤n:=Th (T9 g k) (re h)
theorem zsz{a b c k:Nat}(h:b≤a+1) (g:c≤b+k):c≤a+(k+1):=Th g (Th (T9 h k) (Xw (Xv a k)))
theorem Gg{n s:Nat}(h:n<s+1) (g:¬ n=s):n<s:=Nat.lt_of_le_of_ne (Nat.le_of_lt_succ h) g
theorem zsg{n s:Nat}(h:n<s+1) (g:s≤n):n=s:=Nat.le_antisymm (Xg h) g
theorem Ox{a c n b:Nat}(h:a≤n) (d:n≤b):min a c≤b:=Nat.le_trans (Nat.min_le_left a c) (Nat.le_trans h d)
theorem znx{a c n b:Nat}(h:a≤n) (d:n≤b):0+min a c≤b:=(Wu (min a c)).symm▸Ox h d
theorem yj{x a b c e n:Nat}(h:x+a≤n+b) (d:c+b≤a+e):x+c≤n+e:=by
  refine Xd (b:=b) ?_
  rw [Vu,U9]
  exact Th (Ul d x) (by rw [← Vu];exact T9 h e)
theorem A6{x a b c e n:Nat}(h:x+a≤n+b) (d:c+b≤a+e):c≤n+e:=Nat.le_trans (Nat.le_add_left c x) (yj h d)
theorem zss{x a b c n:Nat}(h:x+a≤n+b) (d:c+b≤a):c≤n:=A6 (e:=0) h d
theorem O4{a b c k e n:Nat}(h:2 * k+c≤n+b) (d:a+b≤c+e):k+a≤n+e:=
  yj (Th (T9 (Nat.le_mul_of_pos_left k (by decide)) c) h) d
theorem zpv{a b c k m e n:Nat}(h:2 * (k+m)+c≤n+b) (d:a+b≤c+e):k+a≤n+e:=
  O4 (Th (T9 (V2 2 (Uf k m)) c) h) d
theorem Hb{k:Nat}{F:Int}(h:((k+1:Nat):Int)≤F):(k:Int)≤F-1:=Int.le_sub_right_of_add_le h
theorem Ba{k:Nat}{F:Int}(h:((k+1:Nat):Int)≤F):1≤F:=Int.le_trans (Int.ofNat_le.mpr (Nat.le_add_left 1 k)) h
theorem ztg{k a:Nat}{b:Int}(h:k≤a) (d:(a:Int)<b):(k:Int)<b:=Wo (Wt.mpr h) d
theorem zsp{k m:Nat}{F:Int}(h:((k+m:Nat):Int)<F):(m:Int)<F-k:=Int.lt_sub_left_of_add_lt h
theorem zr8{k m:Nat}{F:Int}(h:((k+m:Nat):Int)<F):(k:Int)≤F:=Int.le_of_lt (Wo (Wt.mpr (Uf k m)) h)
theorem ztt{a b:Nat}(h:¬ a<b):b≤0+a:=(Wu a).symm▸Uq.mp h
theorem ztw{a b c:Nat}(h:a≤b+c):a+1≤b+1+c:=(Xv b c).symm▸Ug h
theorem ztj{a b:Nat}(h:¬ a<b) (g:¬ a=b):b<a:=Nat.lt_of_le_of_ne (Uq.mp h) (Ne.symm g)
theorem ztx{n a c e b:Nat}(h:n≤a) (d:a+c+e<b):n+c+e<b:=Ue (T9 (T9 h c) e) d
theorem zt4{i K l:Nat}(h:i<K) (g:decide (l<K)=false):i<l:=Tn h (Uq.mp (of_decide_eq_false g))
theorem zsy{a:Int}(h:a.toNat=0):a≤0:=Int.toNat_eq_zero.mp h
theorem ztr{a b:Int}(h:¬ a<b):Int.toNat 0=(b-a).toNat:=(Int.toNat_eq_zero.mpr (Int.sub_nonpos_of_le (Int.not_lt.mp h))).symm
theorem zrh{n a c e f b:Nat}(h:n≤a) (d:c+(a+1)+e+f≤b):c+(n+1)+e+f≤b:=Th (T9 (T9 (Ul (Ug h) c) e) f) d
theorem zs2{n l:Nat}:max n (n+l+1)+1≤n+(l+1)+1:=Ug (xn (Uf n (l+1)) (To _))
theorem R8{k:Nat}{F:Int}:F-((k+1:Nat):Int)=F-1-k:=by rw [Int.natCast_add,Int.sub_sub,Int.add_comm];rfl
theorem zt9{k b c:Nat}(h:k≤62) (d:124+c≤b):2 * k+c≤b:=Th (T9 (V2 2 h) c) d
theorem zrr{a b c m n:Nat}(h:a≤b+c) (e:m=c) (f:n=b):a≤n+m:=by rw [e,f];exact h
theorem zsr{b c m n:Nat}(f:n=b) (e:m=c) (h:b+c≤4096):n+m≤16777216+1:=by rw [e,f];exact Th h (by decide)
theorem zrk{k:Int}{m n:Nat}(h:0≤k∧k<m) (e:n=m):k<n:=e▸h.2
theorem zsc{k b:Int}(h : -4096≤k∧k<4096) (d:b≤-4096):b≤k:=W9 d h.1
theorem zs9{k b:Int}(h : -4096≤k∧k<4096) (d:4096≤b):k<b:=Xb h.2 d
end Mine
end
section
open PySem
namespace Mine
noncomputable def ob{α β:Type}(x:Option α) (k:α→Option β):Option β:=match x with
  | some a=>k a
  | none=>none
noncomputable def ao{α β γ:Type}(x:Option (α×β)) (k:α→β→Option γ):Option γ:=match x with
  | some (a,b)=>k a b
  | none=>none
noncomputable def jy{α β γ δ:Type}(x:Option (α×β×γ)) (k:α→β→γ→Option δ):Option δ:=match x with
  | some (a,b,c)=>k a b c
  | none=>none
noncomputable def sr:List Nat→List Nat→Bool
  | [],[]=>true
  | a::x,b::y=>T8 a b&&sr x y
  | _,_=>false
noncomputable def seq(a b:Str):Bool:=sr a.cps.toList b.cps.toList
noncomputable def qe(a b:Str):Str:=⟨(a.cps.toList++b.cps.toList).toArray⟩
inductive V where
  | none
  | bool (b:Bool)
  | int (i:Int)
  | str (s:Str)
  | tup (xs:List V)
  | lst (xs:List V)
  | dct (ks:List Str) (xs:List V)
  | obj (C:Nat) (ks:List Str) (xs:List V)
  | rng (lo hi:Int)
  | ref (n:Nat)
  | val (v:Value)
inductive MObj where
  | lst (xs:List V)
  | dct (ks:List Str) (xs:List V)
  | obj (C:Nat) (ks:List Str) (xs:List V)
abbrev Loc:=List (Str×V)
structure Sto where
  next:Nat
  os:List (Nat×MObj)
inductive Fl where
  | next | brk | cont
  | ret (v:V)
inductive It where
  | items (xs:List V)
  | cur (n:Nat) (i:Nat)
structure FnD where
  names:List Str
  dflts:List V
  body:List Stmt
  scope:Scope
structure ClsD where
  init:Nat
  meths:List (Str×Nat)
  attrs:List Str
structure PD where
  glob:Str→Option V
  fn:Nat→Option FnD
  cls:Nat→Option ClsD
  con:Nat→Option (Nat×(List V→Option V))
  frz:List Stmt→Option (List Str×Str)
  fre:Nat→Bool:=fun J=>false
noncomputable def ae(x:Str):Loc→Option V
  | []=>none
  | (y,v)::r=>if seq x y then some v else ae x r
noncomputable def ac(x:Str) (v:V):Loc→Loc
  | []=>[(x,v)]
  | (y,u)::r=>if seq x y then (y,v)::r else (y,u)::ac x v r
noncomputable def d8{α:Type}(x:Str):List Str→List α→Option α
  | k::ks,v::vs=>if seq x k then some v else d8 x ks vs
  | _,_=>none
noncomputable def c8{α:Type}(x:Str) (v:α):List Str→List α→List Str×List α
  | k::ks,u::vs=>if seq x k then (k::ks,v::vs) else let r:=c8 x v ks vs;(k::r.1,u::r.2)
  | _,_=>([x],[v])
noncomputable def bm(x:Str):List (Str×NameKind)→Option NameKind
  | []=>none
  | (y,k)::r=>if seq x y then some k else bm x r
noncomputable def ry(x:Str):List (Str×Nat)→Option Nat
  | []=>none
  | (y,a)::r=>if seq x y then some a else ry x r
noncomputable def fk:List (Nat×MObj)→Nat→Option MObj
  | [],_=>none
  | (m,o)::r,n=>if T8 m n then some o else fk r n
noncomputable def qb:List (Nat×MObj)→Nat→MObj→List (Nat×MObj)
  | [],_,_=>[]
  | (m,p)::r,n,o=>if T8 m n then (m,o)::r else (m,p)::qb r n o
noncomputable def ab(σ:Sto) (n:Nat):Option MObj:=fk σ.os n
noncomputable def ah(σ:Sto) (n:Nat) (o:MObj):Sto:=⟨σ.next,qb σ.os n o⟩
noncomputable def mO:MObj→Option (Nat×List Str×List V)
  | .obj C ks vs=>some (C,ks,vs)
  | _=>none
noncomputable def mL:MObj→Option (List V)
  | .lst xs=>some xs
  | _=>none
noncomputable def mD:MObj→Option (List Str×List V)
  | .dct ks vs=>some (ks,vs)
  | _=>none
noncomputable def ja:V→Option Int
  | .int b=>some b
  | _=>none
noncomputable def jo:V→Option Str
  | .str s=>some s
  | _=>none
noncomputable def f6:V→Option (List V)
  | .tup xs=>some xs
  | _=>none
noncomputable def one{α:Type}:List α→Option α
  | [x]=>some x
  | _=>none
noncomputable def two{α:Type}:List α→Option (α×α)
  | [x,y]=>some (x,y)
  | _=>none
noncomputable def yu{α:Type}:List α→Option (α×List α)
  | x::r=>some (x,r)
  | []=>none
mutual
noncomputable def b9:Nat→V→V→Option Bool
  | 0,_,_=>none
  | n+1,a,b=>match a,b with
    | .none,.none=>some true
    | .none,.str _=>some false
    | .str _,.none=>some false
    | .none,.tup _=>some false
    | .tup _,.none=>some false
    | .str _,.tup _=>some false
    | .tup _,.str _=>some false
    | .bool x,.bool y=>some (x == y)
    | .int i,.int j=>some (decide (i=j))
    | .str s,.str t=>some (seq s t)
    | .tup xs,.tup ys=>ib n xs ys
    | _,_=>none
noncomputable def ib:Nat→List V→List V→Option Bool
  | 0,_,_=>none
  | n+1,xs,ys=>match xs,ys with
    | x::xs,y::ys=>ob (b9 n x y) fun a=>ob (ib n xs ys) fun b=>some (a&&b)
    | [],[]=>some true
    | _,_=>some false
end
noncomputable def ik:Nat:=24
noncomputable def bj(σ:Sto):V→Option (List V)
  | .lst xs=>some xs
  | .ref n=>ob (ab σ n) mL
  | _=>none
noncomputable def mh(σ:Sto):V→Option (List Str×List V)
  | .dct ks xs=>some (ks,xs)
  | .ref n=>ob (ab σ n) mD
  | _=>none
noncomputable def fg(σ:Sto):V→Option (Nat×List Str×List V)
  | .obj C ks xs=>some (C,ks,xs)
  | .ref n=>ob (ab σ n) mO
  | _=>none
noncomputable def sz{α:Type}(xs:List α):Bool:=U8 xs.length 4096
noncomputable def Bz(xs ys:List V):Option Bool:=if T8 xs.length ys.length then ib ik xs ys else some false
noncomputable def s6(σ:Sto) (a:V):Option Unit:=ao (mh σ a) fun ks xs=>if ks.isEmpty&&xs.isEmpty then some () else none
noncomputable def deq(σ:Sto) (a b:V):Option Bool:=ob (s6 σ a) fun J=>ob (s6 σ b) fun J=>some true
noncomputable def nh(σ:Sto) (a b:V):Option Bool:=
  if (b9 ik a b).isSome then b9 ik a b else if (bj σ a).isSome then ob (bj σ a) fun xs=>ob (bj σ b) fun ys=>Bz xs ys else deq σ a b
noncomputable def vo(x:V):List V→Option Bool
  | []=>some false
  | y::r=>ob (b9 ik y x) fun a=>ob (vo x r) fun b=>some (a||b)
noncomputable def push(σ:Sto) (o:MObj):Sto:=⟨σ.next+1,(σ.next,o)::σ.os⟩
noncomputable def gi(σ:Sto) (o:MObj):V×Sto:=(.ref σ.next,push σ o)
noncomputable def on(x:Option Bool):Option Bool:=ob x fun b=>some (!b)
noncomputable def e9(x:Str):List Str→Bool
  | []=>false
  | k::r=>if seq x k then true else e9 x r
noncomputable def Su(σ:Sto) (x c:V):Option Bool:=ao (mh σ c) fun ks J=>ob (jo x) fun s=>some (e9 s ks)
noncomputable def vq(σ:Sto) (x c:V):Option Bool:=
  if (f6 c).isSome then ob (f6 c) fun xs=>vo x xs else if (bj σ c).isSome then ob (bj σ c) fun xs=>vo x xs else Su σ x c
noncomputable def isNone:V→Option Bool
  | .none=>some true
  | .rng _ _=>none
  | .val _=>none
  | _=>some false
noncomputable def Gk:V→Bool
  | .none=>true
  | _=>false
noncomputable def yp(a b:V) (f:Int→Int→Bool):Option Bool:=ob (ja a) fun i=>ob (ja b) fun j=>some (f i j)
noncomputable def Ho(a b:V):Option Bool:=if Gk b then isNone a else none
noncomputable def bo(σ:Sto) (op:CmpOp) (a b:V):Option Bool:=
  match op with
  | .Eq=>nh σ a b
  | .NotEq=>on (nh σ a b)
  | .Lt=>yp a b fun i j=>decide (i<j)
  | .LtE=>yp a b fun i j=>decide (i≤j)
  | .Gt=>yp a b fun i j=>decide (i > j)
  | .GtE=>yp a b fun i j=>decide (i ≥ j)
  | .Is=>Ho a b
  | .IsNot=>on (Ho a b)
  | .In=>vq σ a b
  | .NotIn=>on (vq σ a b)
noncomputable def gw:Nat→List V→List V
  | 0,_=>[]
  | n+1,xs=>xs++gw n xs
noncomputable def pe(σ:Sto) (xs:List V):Option (V×Sto):=if sz xs then some (gi σ (.lst xs)) else none
noncomputable def j4(i:Int):Bool:=Wg i.natAbs 1000000000
noncomputable def Gz(op:Operator) (i j:Int):Option Int:=match op with
  | .Add=>some (i+j)
  | .Sub=>some (i-j)
  | .Mult=>if j4 j then some (i * j) else none
  | .FloorDiv=>if decide (0<j)&&j4 j then some (i.fdiv j) else none
  | .Mod=>if decide (0<j) then some (i.fmod j) else none
  | .Pow=>if decide (0≤j)&&(j4 i&&decide (j≤1000)) then some (i ^ j.toNat) else none
  | _=>none
noncomputable def zte(σ:Sto) (a b:V):Option (V×Sto):=
  if (jo a).isSome then ob (jo a) fun s=>ob (jo b) fun t=>if U8 (s.cps.toList.length+t.cps.toList.length) 4096 then some (.str (qe s t),σ) else none
  else if (f6 a).isSome then ob (f6 a) fun xs=>ob (f6 b) fun ys=>if sz (xs++ys) then some (.tup (xs++ys),σ) else none
  else ob (bj σ a) fun xs=>ob (bj σ b) fun ys=>pe σ (xs++ys)
noncomputable def zrl(σ:Sto) (a b:V):Option (V×Sto):=
  ob (bj σ a) fun xs=>ob (ja b) fun j=>if decide (0≤j∧j<1000)&&sz (gw j.toNat xs) then some (gi σ (.lst (gw j.toNat xs))) else none
noncomputable def zsa(σ:Sto) (op:Operator) (a b:V):Option (V×Sto):=match op with
  | .Add=>zte σ a b
  | .Mult=>zrl σ a b
  | _=>none
noncomputable def ff(σ:Sto) (op:Operator) (a b:V):Option (V×Sto):=
  if (ja a).isSome&&(ja b).isSome then ob (ja a) fun i=>ob (ja b) fun j=>ob (Gz op i j) fun k=>some (.int k,σ) else zsa σ op a b
noncomputable def An(i:Int) (n:Nat):Option Nat:=
  if decide (0≤i) then (if decide (i<n) then some i.toNat else none) else if decide (0≤i+n) then some (i+n).toNat else none
noncomputable def dr:List V→Nat→Option V
  | [],_=>none
  | x::_,0=>some x
  | _::r,n+1=>dr r n
noncomputable def rn:List V→Nat→V→List V
  | [],_,_=>[]
  | _::r,0,v=>v::r
  | x::r,n+1,v=>x::rn r n v
noncomputable def jx(σ:Sto) (v:V):Option (List V):=if (f6 v).isSome then f6 v else bj σ v
noncomputable def Qh(σ:Sto) (o:V) (k:Int):Option V:=ob (jx σ o) fun xs=>if sz xs then ob (An k xs.length) fun j=>dr xs j else none
noncomputable def zn8(σ:Sto) (o:V) (s:Str):Option V:=ao (mh σ o) fun ks vs=>d8 s ks vs
noncomputable def di(σ:Sto) (o i:V):Option V:=if (ja i).isSome then ob (ja i) fun k=>Qh σ o k else ob (jo i) fun s=>zn8 σ o s
noncomputable def ny(lo:Int):Nat→List V
  | 0=>[]
  | n+1=>.int lo::ny (lo+1) n
noncomputable def f9(σ:Sto):V→Option It
  | .tup xs=>some (.items xs)
  | .lst xs=>some (.items xs)
  | .rng a b=>if j4 a&&j4 b then some (.items (ny a (b-a).toNat)) else none
  | .ref n=>ob (bj σ (.ref n)) fun J=>some (.cur n 0)
  | _=>none
noncomputable def gq(σ:Sto):It→Option (Option (V×It))
  | .items l=>some (ao (yu l) fun x r=>some (x,.items r))
  | .cur n i=>ob (bj σ (.ref n)) fun xs=>some (ob (dr xs i) fun x=>some (x,.cur n (i+1)))
noncomputable def w6:List V→Option (List Str)
  | []=>some []
  | v::r=>ob (jo v) fun s=>ob (w6 r) fun l=>some (s::l)
noncomputable def t5(sep:Str):List Str→Str
  | []=>⟨#[]⟩
  | [x]=>x
  | x::r=>qe x (qe sep (t5 sep r))
noncomputable def Nn(v:V):Option (Str×V):=ob (f6 v) fun p=>ao (two p) fun a b=>ob (jo a) fun k=>some (k,b)
noncomputable def D7:List V→Option (List Str×List V)
  | []=>some ([],[])
  | v::r=>ao (Nn v) fun k b=>ao (D7 r) fun ks vs=>if e9 k ks then none else some (k::ks,b::vs)
noncomputable def Rd{α:Type}(xs:List α):Option Int:=if sz xs then some xs.length else none
noncomputable def sd(σ:Sto) (a:V):Option Int:=if (jx σ a).isSome then ob (jx σ a) fun xs=>Rd xs else ao (mh σ a) fun ks J=>Rd ks
noncomputable def wu(σ:Sto) (a:V):Option (V×Sto):=ob (s6 σ a) fun J=>some (gi σ (.lst []))
noncomputable def xw(σ:Sto) (a:V):Option (V×Sto):=ob (jx σ a) fun xs=>pe σ xs
noncomputable def u3(σ:Sto) (a:V):Option (V×Sto):=if (f6 a).isSome then ob (f6 a) fun xs=>some (.tup xs,σ) else ob (bj σ a) fun xs=>if sz xs then some (.tup xs,σ) else none
noncomputable def Ol(σ:Sto) (ks:List Str) (vs:List V):Option (V×Sto):=if sz ks then some (gi σ (.dct ks vs)) else none
noncomputable def x3(σ:Sto) (a:V):Option (V×Sto):=if (bj σ a).isSome then ob (bj σ a) fun xs=>ao (D7 xs) fun ks vs=>Ol σ ks vs else ao (mh σ a) fun ks vs=>Ol σ ks vs
noncomputable def Bp:Value→Option (Bool×String)
  | .builtin n=>some (false,n)
  | .type n=>some (true,n)
  | _=>none
noncomputable def Sw(σ:Sto) (n:String) (a:V):Option (V×Sto):=
  if n == "len" then ob (sd σ a) fun k=>some (.int k,σ) else if n == "sorted" then wu σ a else none
noncomputable def S6(σ:Sto) (n:String) (a:V):Option (V×Sto):=
  if n == "list" then xw σ a else if n == "tuple" then u3 σ a else if n == "dict" then x3 σ a
  else if n == "range" then ob (ja a) fun b=>some (.rng 0 b,σ)
  else if n == "int" then ob (ja a) fun b=>some (.int b,σ) else none
noncomputable def zrp(σ:Sto) (ty:Bool) (n:String) (a b:V):Option (V×Sto):=
  ob (ja a) fun i=>ob (ja b) fun j=>if ty then (if n == "range" then some (.rng i j,σ) else none) else if n == "max" then some (.int (if j > i then j else i),σ) else none
noncomputable def blt(σ:Sto) (f:Value) (args:List V):Option (V×Sto):=
  ao (Bp f) fun ty n=>if (one args).isSome then ob (one args) fun a=>cond ty (S6 σ n a) (Sw σ n a) else ao (two args) fun a b=>zrp σ ty n a b
noncomputable def yz(σ:Sto) (n:Nat) (xs:List V) (m:Str) (args:List V):Option (V×Sto):=
  if seq m "append" then ob (one args) fun x=>some (.none,ah σ n (.lst (xs++[x])))
  else if seq m "extend" then ob (one args) fun x=>ob (bj σ x) fun ys=>if sz (xs++ys) then some (.none,ah σ n (.lst (xs++ys))) else none
  else if seq m "pop" && args.isEmpty then ao (yu xs.reverse) fun x r=>some (x,ah σ n (.lst r.reverse)) else none
noncomputable def bmS(σ:Sto) (s:Str) (m:Str) (args:List V):Option (V×Sto):=
  if seq m "join" then ob (one args) fun x=>ob (bj σ x) fun xs=>ob (w6 xs) fun l=>if U8 s.cps.toList.length 16&&U8 ((l.map fun y=>y.cps.toList.length).sum+l.length) 100000 then some (.str (t5 s l),σ) else none else none
noncomputable def jg(σ:Sto) (o:V) (m:Str) (args:List V):Option (V×Sto):=
  match o with
  | .ref n=>ob (bj σ (.ref n)) fun xs=>if sz xs then yz σ n xs m args else none
  | .str s=>bmS σ s m args
  | _=>none
noncomputable def oo:List Nat→List Nat→Bool
  | [],[]=>false
  | [],_::_=>true
  | _::_,[]=>false
  | a::x,b::y=>if T8 a b then oo x y else Wg a b
noncomputable def ox(a b:Str):Bool:=oo a.cps.toList b.cps.toList
noncomputable def cCs(c:Const):Option Str:=@V3 (fun J=>Option Str) c (none) (fun J=>none) (fun J=>none) (fun J=>none) (fun J J=>none) (fun s=>some s) (fun J=>none) (none)
noncomputable def A9(e:Expr):Option Str:=@Tt (fun J=>Option Str) e (fun J J J=>none) (fun J J J=>none) (fun J J J J=>none) (fun J J J=>none) (fun J J J J=>none) (fun J J J J=>none) (fun J J J=>none) (fun J J J=>none) (fun J J J J=>none) (fun J J J J=>none) (fun J J J J J=>none) (fun J J J J=>none) (fun J J=>none) (fun J J=>none) (fun J J=>none) (fun J J J J=>none) (fun J J J J=>none) (fun J J J J=>none) (fun J J=>none) (fun c J J=>cCs c) (fun J J J=>none) (fun J J J=>none) (fun J J=>none) (fun J J=>none) (fun J J=>none) (fun J J J=>none) (fun J J J J=>none)
noncomputable def mz:List (Option Expr)→Option (List Str)
  | []=>some []
  | o::r=>ob o fun e=>ob (A9 e) fun s=>ob (mz r) fun l=>some (s::l)
noncomputable def nu:List Str→Bool
  | []=>true
  | k::r=>!e9 k r&&nu r
noncomputable def tw(e:Expr):Bool:=@Tt (fun J=>Bool) e (fun J J J=>false) (fun J J J=>false) (fun J J J J=>false) (fun J J J=>false) (fun J J J J=>false) (fun J J J J=>false) (fun J J J=>false) (fun J J J=>false) (fun J J J J=>false) (fun J J J J=>false) (fun J J J J J=>false) (fun J J J J=>false) (fun J J=>false) (fun J J=>false) (fun J J=>false) (fun J J J J=>false) (fun J J J J=>false) (fun J J J J=>false) (fun J J=>false) (fun J J J=>false) (fun J J J=>false) (fun J J J=>false) (fun J J=>true) (fun J J=>false) (fun J J=>false) (fun J J J=>false) (fun J J J J=>false)
noncomputable def fh:List Expr→Bool
  | []=>true
  | e::r=>!tw e&&fh r
noncomputable def ym(e:Expr):Option Str:=@Tt (fun J=>Option Str) e (fun J J J=>none) (fun J J J=>none) (fun J J J J=>none) (fun J J J=>none) (fun J J J J=>none) (fun J J J J=>none) (fun J J J=>none) (fun J J J=>none) (fun J J J J=>none) (fun J J J J=>none) (fun J J J J J=>none) (fun J J J J=>none) (fun J J=>none) (fun J J=>none) (fun J J=>none) (fun J J J J=>none) (fun J J J J=>none) (fun J J J J=>none) (fun J J=>none) (fun J J J=>none) (fun J J J=>none) (fun J J J=>none) (fun J J=>none) (fun f J=>some f) (fun J J=>none) (fun J J J=>none) (fun J J J J=>none)
noncomputable def jq(e:Expr):Bool:=@Tt (fun J=>Bool) e (fun J J J=>true) (fun J J J=>true) (fun J J J J=>true) (fun J J J=>true) (fun J J J J=>true) (fun J J J J=>true) (fun J J J=>true) (fun J J J=>true) (fun J J J J=>true) (fun J J J J=>true) (fun J J J J J=>true) (fun J J J J=>true) (fun J J=>true) (fun J J=>true) (fun J J=>true) (fun J J J J=>true) (fun f args kws J=>!((ym f).isSome&&(args.isEmpty&&kws.isEmpty))) (fun J J J J=>true) (fun J J=>true) (fun J J J=>true) (fun J J J=>true) (fun J J J=>true) (fun J J=>true) (fun J J=>true) (fun J J=>true) (fun J J J=>true) (fun J J J J=>true)
structure Fns where
  ev:Scope→Expr→Loc→Sto→Option (V×Sto)
  evs:Scope→List Expr→Loc→Sto→Option (List V×Sto)
  tr:Scope→Expr→Loc→Sto→Option (Bool×Sto)
  bos:Scope→BoolOp→List Expr→Loc→Sto→Option (Bool×Sto)
  trs:Scope→BoolOp→List Expr→Loc→Sto→Option (Bool×Sto)
  asg:Scope→Expr→V→Loc→Sto→Option (Loc×Sto)
  ass:Scope→List Expr→List V→Loc→Sto→Option (Loc×Sto)
  ex:Scope→Stmt→Loc→Sto→Option (Fl×Loc×Sto)
  exs:Scope→List Stmt→Loc→Sto→Option (Fl×Loc×Sto)
  call:Nat→List V→Sto→Option (V×Sto)
  new:Nat→List V→Sto→Option (V×Sto)
  wh:Scope→Expr→List Stmt→Loc→Sto→Option (Fl×Loc×Sto)
  fo:Scope→Expr→It→List Stmt→Loc→Sto→Option (Fl×Loc×Sto)
  co:Scope→Expr→List Expr→List Comprehension→Expr→It→Loc→Sto→List V→Option (List V×Loc×Sto)
noncomputable def bot:Fns:=
  ⟨fun J J J J=>none,fun J J J J=>none,fun J J J J=>none,fun J J J J J=>none,fun J J J J J=>none,fun J J J J J=>none,fun J J J J J=>none,fun J J J J=>none,fun J J J J=>none,
   fun J J J=>none,fun J J J=>none,fun J J J J J=>none,fun J J J J J J=>none,fun J J J J J J J J J=>none⟩
noncomputable def Ed(f:Str) (sc:Scope):Bool:=match bm f sc.names with
  | some .globalImplicit=>true
  | _=>false
noncomputable def pi(P:PD) (sc:Scope) (e:Expr):Option (Expr×Expr):=@Tt (fun J=>Option (Expr×Expr)) e (fun J J J=>none) (fun J J J=>none) (fun J J J J=>none) (fun J J J=>none) (fun J J J J=>none) (fun J J J J=>none) (fun J J J=>none) (fun J J J=>none) (fun J J J J=>none) (fun J J J J=>none) (fun J J J J J=>none) (fun J J J J=>none) (fun J J=>none) (fun J J=>none) (fun J J=>none) (fun J J J J=>none) (fun f args kws J=>ob (ym f) fun x=>if kws.isEmpty&&(fh args&&(seq x "zip" && (Ed x sc&&(P.glob x).isNone))) then two args else none) (fun J J J J=>none) (fun J J=>none) (fun J J J=>none) (fun J J J=>none) (fun J J J=>none) (fun J J=>none) (fun J J=>none) (fun J J=>none) (fun J J J=>none) (fun J J J J=>none)
noncomputable def qt(x:Str):Option V:=
  if seq x "len" then some (.val (.builtin "len")) else
  if seq x "list" then some (.val (.type "list")) else
  if seq x "range" then some (.val (.type "range")) else
  if seq x "tuple" then some (.val (.type "tuple")) else
  if seq x "dict" then some (.val (.type "dict")) else
  if seq x "max" then some (.val (.builtin "max")) else
  if seq x "sorted" then some (.val (.builtin "sorted")) else
  if seq x "int" then some (.val (.type "int")) else
  if seq x "zip" then some (.val (.type "zip")) else none
noncomputable def A5(e:Expr):Option (List Expr):=@Tt (fun J=>Option (List Expr)) e (fun J J J=>none) (fun J J J=>none) (fun J J J J=>none) (fun J J J=>none) (fun J J J J=>none) (fun J J J J=>none) (fun J J J=>none) (fun J J J=>none) (fun J J J J=>none) (fun J J J J=>none) (fun J J J J J=>none) (fun J J J J=>none) (fun J J=>none) (fun J J=>none) (fun J J=>none) (fun J J J J=>none) (fun J J J J=>none) (fun J J J J=>none) (fun J J=>none) (fun J J J=>none) (fun J J J=>none) (fun J J J=>none) (fun J J=>none) (fun J J=>none) (fun J J=>none) (fun vs J J=>some vs) (fun J J J J=>none)
noncomputable def qq(t e:Expr):Bool:=(A5 t).isSome&&((A5 e).isSome&&(((A5 e).getD []).all (constantsAlone 8) && !((A5 e).getD []).all (foldedForSure 8)))
noncomputable def fy(x:Str) (sc:Scope):Bool:=match bm x sc.names with
  | some .free=>true
  | _=>false
noncomputable def ze(sc:Scope):List (Str×NameKind)→Bool
  | []=>true
  | (x,k)::r=>(match k with
      | .local | .cell=>true
      | .free=>(match bm x sc.names with | some .cell | some .free=>true | _=>false)
      | .globalImplicit=>true
      | _=>false)&&(!seq x (Str.ofString "__debug__") && !seq x (Str.ofString "__classdict__"))&&ze sc r
noncomputable def mj(sc csc:Scope):Bool:=(match csc.kind with | .function=>true | _=>false)&&nu (csc.names.map (·.1))&&ze sc csc.names
noncomputable def G0(σ2:Sto) (a b:V):Option It:=ob (jx σ2 a) fun xs=>ob (f6 b) fun ys=>if xs.isEmpty&&ys.isEmpty then some (.items []) else none
noncomputable def gm(P:PD) (r:Fns) (sc:Scope) (e:Expr) (ρ:Loc) (σ:Sto):Option (It×Sto):=
  match pi P sc e with
  | some (x,y)=>ao (r.ev sc x ρ σ) fun a σ1=>ao (r.ev sc y ρ σ1) fun b σ2=>ob (G0 σ2 a b) fun it=>some (it,σ2)
  | none=>ao (r.ev sc e ρ σ) fun v σ1=>ob (f9 σ1 v) fun it=>some (it,σ1)
noncomputable def og:List Str→List V→List V→Option Loc
  | [],[],_=>some []
  | n::ns,v::vs,ds=>match og ns vs ds with
    | some l=>some ((n,v)::l)
    | none=>none
  | ns,[],ds=>if ds.length<ns.length then none else some (ns.zip (ds.drop (ds.length-ns.length)))
  | _,_,_=>none
noncomputable def mIt:MObj→List V
  | .lst xs=>xs
  | .dct _ xs=>xs
  | .obj _ _ xs=>xs
noncomputable def mWi(o:MObj) (l:List V):V:=match o with
  | .lst _=>.lst l
  | .dct ks _=>.dct ks l
  | .obj C ks _=>.obj C ks l
noncomputable def Bf:V→Bool
  | .lst _=>true
  | .dct _ _=>true
  | .obj _ _ _=>true
  | _=>false
mutual
noncomputable def kh(σ:Sto) (b:Bool):Nat→V→Option V
  | 0,_=>none
  | n+1,v=>match v with
    | .ref k=>ob (ab σ k) fun o=>ob (io σ b n (mIt o)) fun l=>some (mWi o l)
    | .tup xs=>ob (io σ b n xs) fun l=>some (.tup l)
    | v=>if b&&Bf v then none else some v
noncomputable def io(σ:Sto) (b:Bool):Nat→List V→Option (List V)
  | 0,_=>none
  | n+1,l=>match l with
    | []=>some []
    | x::xs=>ob (kh σ b n x) fun v=>ob (io σ b n xs) fun l=>some (v::l)
end
noncomputable abbrev fz (σ:Sto) (n:Nat) (v:V):Option V:=kh σ false n v
noncomputable abbrev fzs (σ:Sto) (n:Nat) (l:List V):Option (List V):=io σ false n l
noncomputable abbrev fzf (σ:Sto) (n:Nat) (v:V):Option V:=kh σ true n v
noncomputable abbrev fzfs (σ:Sto) (n:Nat) (l:List V):Option (List V):=io σ true n l
mutual
noncomputable def rf:V→Bool
  | .ref _=>false
  | .tup xs=>gx xs
  | _=>true
noncomputable def gx:List V→Bool
  | []=>true
  | x::xs=>rf x&&gx xs
end
noncomputable def xf:V→Bool
  | .none | .bool _ | .int _ | .str _=>true
  | _=>false
noncomputable def gt:Nat:=200
noncomputable def Bg(P:PD) (f:Nat) (σ:Sto) (c:List V→Option V) (args:List V):Option V:=ob (fzs σ gt args) fun args'=>ob (c args') fun v=>if xf v||P.fre f then some v else none
noncomputable def iz(P:PD) (n f:Nat) (args:List V) (σ:Sto):Option V:=ao (P.con f) fun k c=>if Wg k n then (if gx args then c args else Bg P f σ c args) else none
noncomputable def oa(σ:Sto) (f:Nat→Bool):Sto:=⟨σ.next,σ.os.filter fun p=>f p.1⟩
noncomputable def fe(σ:Sto) (f:Nat→Bool):Sto:=⟨σ.next,σ.os.filter fun p=>!f p.1⟩
noncomputable def wy(σ:Sto) (ρ₀:Loc):List Str→Loc→Option Loc
  | [],ρ=>some ρ
  | x::xs,ρ=>ob (ae x ρ₀) fun v=>ob (fz σ gt v) fun v'=>wy σ ρ₀ xs (ac x v' ρ)
noncomputable def Aw(k:Str) (ρ:Loc):Option (Nat→Bool):=match ae k ρ with
  | some (.ref b)=>some fun n=>T8 n b
  | none=>some fun J=>false
  | _=>none
noncomputable def yb(P:PD) (ss:List Stmt) (ρ:Loc) (σ:Sto):Option (Loc×Sto):=ao (P.frz ss) fun xs k=>ob (Aw k ρ) fun f=>ob (wy (fe σ f) ρ xs ρ) fun ρ'=>some (ρ',oa σ f)
noncomputable def ic(P:PD) (ss:List Stmt) (ρ:Loc) (σ:Sto):Loc×Sto:=(yb P ss ρ σ).getD (ρ,σ)
noncomputable def my(σ:Sto) (v:V):Bool:=(jo v).isSome||(bj σ v).isSome
noncomputable def Gc(c:Const):Option Int:=@V3 (fun J=>Option Int) c (none) (fun J=>none) (fun i=>some i) (fun J=>none) (fun J J=>none) (fun J=>none) (fun J=>none) (none)
noncomputable def vp(e:Expr):Option Int:=@Tt (fun J=>Option Int) e (fun J J J=>none) (fun J J J=>none) (fun J J J J=>none) (fun J J J=>none) (fun J J J J=>none) (fun J J J J=>none) (fun J J J=>none) (fun J J J=>none) (fun J J J J=>none) (fun J J J J=>none) (fun J J J J J=>none) (fun J J J J=>none) (fun J J=>none) (fun J J=>none) (fun J J=>none) (fun J J J J=>none) (fun J J J J=>none) (fun J J J J=>none) (fun J J=>none) (fun c J J=>Gc c) (fun J J J=>none) (fun J J J=>none) (fun J J=>none) (fun J J=>none) (fun J J=>none) (fun J J J=>none) (fun J J J J=>none)
noncomputable def Sg(x:Option Expr):Option Int:=ob x vp
noncomputable def G2(op:UnaryOp) (x:Expr):Option Int:=@Wb (fun J=>Option Int) op (none) (none) (none) (vp x)
noncomputable def G4(e:Expr):Option Int:=@Tt (fun J=>Option Int) e (fun J J J=>none) (fun J J J=>none) (fun J J J J=>none) (fun op x J=>G2 op x) (fun J J J J=>none) (fun J J J J=>none) (fun J J J=>none) (fun J J J=>none) (fun J J J J=>none) (fun J J J J=>none) (fun J J J J J=>none) (fun J J J J=>none) (fun J J=>none) (fun J J=>none) (fun J J=>none) (fun J J J J=>none) (fun J J J J=>none) (fun J J J J=>none) (fun J J=>none) (fun J J J=>none) (fun J J J=>none) (fun J J J=>none) (fun J J=>none) (fun J J=>none) (fun J J=>none) (fun J J J=>none) (fun J J J J=>none)
noncomputable def Ss(x:Option Expr):Option Int:=ob x G4
noncomputable def vb(lo u st:Option Expr):Option Bool:=
  if lo.isNone&&decide (Ss st=some 1) then (if u.isNone then some true else if decide (Sg u=some 0) then some false else none) else none
noncomputable def wr(P:PD) (n:Nat) (r:Fns) (sc:Scope) (ρ:Loc) (σ:Sto) (c:Const):Option (V×Sto):=
  match c with
  | .none=>some (.none,σ)
  | .bool b=>some (.bool b,σ)
  | .int i=>some (.int i,σ)
  | .str s=>some (.str s,σ)
  | _=>none
noncomputable def v5:V→Option Bool
  | .bool b=>some b
  | _=>none
noncomputable def qf:V→Option Nat
  | .ref b=>some b
  | _=>none
noncomputable def xh:NameKind→Bool
  | .local=>true
  | .cell=>true
  | .free=>true
  | _=>false
noncomputable def Rt:NameKind→Bool
  | .globalImplicit=>true
  | _=>false
noncomputable def Gd(x:Str) (sc:Scope):Bool:=match bm x sc.names with
  | some k=>xh k
  | none=>false
noncomputable def u9(P:PD) (n:Nat) (r:Fns) (sc:Scope) (ρ:Loc) (σ:Sto) (x:Str):Option (V×Sto):=
  ob (bm x sc.names) fun k=>if xh k then ob (ae x ρ) fun v=>some (v,σ)
  else if Rt k then (match P.glob x with | some v=>some (v,σ) | none=>ob (qt x) fun v=>some (v,σ))
  else none
noncomputable def N3(P:PD) (n:Nat) (r:Fns) (sc:Scope) (ρ:Loc) (σ:Sto) (op:BoolOp) (vs:List Expr):Option (V×Sto):=
  ao (r.bos sc op vs ρ σ) fun b σ1=>some (.bool b,σ1)
noncomputable def Pp(P:PD) (n:Nat) (r:Fns) (sc:Scope) (ρ:Loc) (σ:Sto) (a:Expr) (op:Operator) (b:Expr):Option (V×Sto):=
  ao (r.ev sc a ρ σ) fun x σ1=>ao (r.ev sc b ρ σ1) fun y σ2=>ff σ2 op x y
noncomputable def Hq(op:UnaryOp) (v:V):Option V:=match op with
  | .Not=>ob (v5 v) fun b=>some (.bool (!b))
  | .USub=>ob (ja v) fun i=>some (.int (-i))
  | _=>none
noncomputable def F9(P:PD) (n:Nat) (r:Fns) (sc:Scope) (ρ:Loc) (σ:Sto) (op:UnaryOp) (x:Expr):Option (V×Sto):=
  ao (r.ev sc x ρ σ) fun v σ1=>ob (Hq op v) fun u=>some (u,σ1)
noncomputable def Qr(P:PD) (n:Nat) (r:Fns) (sc:Scope) (ρ:Loc) (σ:Sto) (t a b:Expr):Option (V×Sto):=
  ao (r.tr sc t ρ σ) fun c σ1=>cond c (r.ev sc a ρ σ1) (r.ev sc b ρ σ1)
noncomputable def Nk(P:PD) (n:Nat) (r:Fns) (sc:Scope) (ρ:Loc) (σ:Sto) (ks:List (Option Expr)) (vs:List Expr):Option (V×Sto):=
  ob (mz ks) fun kl=>ao (r.evs sc vs ρ σ) fun xs σ1=>if T8 kl.length xs.length&&(U8 kl.length 15&&nu kl) then some (gi σ1 (.dct kl xs)) else none
noncomputable def Nl(P:PD) (n:Nat) (r:Fns) (sc:Scope) (ρ:Loc) (σ:Sto) (es:List Expr):Option (V×Sto):=
  ao (r.evs sc es ρ σ) fun xs σ1=>pe σ1 xs
noncomputable def Lr(P:PD) (n:Nat) (r:Fns) (sc:Scope) (ρ:Loc) (σ:Sto) (es:List Expr):Option (V×Sto):=
  ao (r.evs sc es ρ σ) fun xs σ1=>if sz xs then some (.tup xs,σ1) else none
noncomputable def zpc(P:PD) (n:Nat) (r:Fns) (sc:Scope) (ρ:Loc) (σ:Sto) (elt tgt iter:Expr) (ifs:List Expr) (gs:List Comprehension) (csc:Scope):Option (V×Sto):=
  ao (if mj sc csc then gm P r sc iter ρ σ else none) fun it σ1=>jy (r.co csc tgt ifs gs elt it (ρ.filter fun p=>fy p.1 csc) σ1 []) fun xs J σ2=>some (gi σ2 (.lst xs))
noncomputable def G6(P:PD) (n:Nat) (r:Fns) (sc:Scope) (ρ:Loc) (σ:Sto) (elt:Expr) (gens:List Comprehension) (csc:Scope):Option (V×Sto):=
  match gens with
  | []=>none
  | g::gs=>if decide (g.is_async=0) then zpc P n r sc ρ σ elt g.target g.iter g.ifs gs csc else none
noncomputable def P1(P:PD) (n:Nat) (r:Fns) (sc:Scope) (ρ:Loc) (σ:Sto) (a:Expr) (ops:List CmpOp) (bs:List Expr):Option (V×Sto):=
  ob (one ops) fun op=>ob (one bs) fun b=>ao (r.ev sc a ρ σ) fun x σ1=>ao (r.ev sc b ρ σ1) fun y σ2=>ob (bo σ2 op x y) fun c=>some (.bool c,σ2)
noncomputable def w8(P:PD) (C:Nat) (m:Str) (ks:List Str) (vs:List V):Option Nat:=
  ob (P.cls C) fun c=>if (d8 m ks vs).isNone then ry m c.meths else none
noncomputable def Gn(P:PD) (n:Nat) (r:Fns) (sc:Scope) (ρ:Loc) (σ:Sto) (o:Expr) (m:Str) (apos:Pos) (args:List Expr) (kws:List Keyword) (pos:Pos):Option (V×Sto):=
  ao (if kws.isEmpty&&(jq o&&(fh args&&(U8 args.length 20&&T8 apos.endLine pos.line))) then r.ev sc o ρ σ else none) fun ov σ1=>match fg σ1 ov with
    | some (C,ks,vs)=>ob (w8 P C m ks vs) fun f=>ao (r.evs sc args ρ σ1) fun xs σ2=>r.call f (ov::xs) σ2
    | none=>ao (if my σ1 ov then r.evs sc args ρ σ1 else none) fun xs σ2=>jg σ2 ov m xs
noncomputable def Kp:Value→Bool
  | .builtin s=>s == "sorted"
  | _=>false
noncomputable def vm:V→Option Value
  | .val u=>some u
  | _=>none
noncomputable def la:Value→Option Nat
  | .ref a=>some a
  | _=>none
noncomputable def zqq(r:Fns) (f:Nat) (x y:V) (σ3:Sto):Option (V×Sto):=
  ao (r.call f [x] σ3) fun a σ4=>ob (jo a) fun k1=>ao (r.call f [y] σ4) fun b σ5=>ob (jo b) fun k2=>if seq k1 k2 then none else some (gi σ5 (.lst (if ox k2 k1 then [y,x] else [x,y])))
noncomputable def zf1(P:PD) (n:Nat) (r:Fns) (sc:Scope) (ρ:Loc) (σ:Sto) (fv:Value) (k:Str) (kf:Expr) (args:List Expr) (σ1:Sto):Option (V×Sto):=
  ao (if Kp fv&&seq k "key" then r.evs sc args ρ σ1 else none) fun ls σ2=>ob (one ls) fun l=>ao (r.ev sc kf ρ σ2) fun kv σ3=>ob (ob (vm kv) la) fun f=>ao (ob (bj σ3 l) two) fun x y=>zqq r f x y σ3
noncomputable def rg(P:PD) (r:Fns) (fv:Value) (xs:List V) (σ2:Sto):Option (V×Sto):=match la fv with
  | some a=>match P.cls a with
    | some _=>r.new a xs σ2
    | none=>r.call a xs σ2
  | none=>blt σ2 fv xs
noncomputable def Qn(P:PD) (n:Nat) (r:Fns) (sc:Scope) (ρ:Loc) (σ:Sto) (fv:Value) (args:List Expr) (kws:List Keyword) (σ1:Sto):Option (V×Sto):=
  match kws with
  | []=>ao (r.evs sc args ρ σ1) fun xs σ2=>rg P r fv xs σ2
  | kw::rest=>ob (if rest.isEmpty then kw.arg else none) fun k=>zf1 P n r sc ρ σ fv k kw.value args σ1
noncomputable def G8(P:PD) (n:Nat) (r:Fns) (sc:Scope) (ρ:Loc) (σ:Sto) (fn:Str) (fp:Pos) (args:List Expr) (kws:List Keyword):Option (V×Sto):=
  ao (if fh args then r.ev sc (.Name fn fp) ρ σ else none) fun u σ1=>ob (vm u) fun fv=>Qn P n r sc ρ σ fv args kws σ1
noncomputable def O1:V→Bool
  | .val _=>true
  | _=>false
noncomputable def Fo(P:PD) (C:Nat) (m:Str) (ks:List Str) (vs:List V):Option V:=
  ob (P.cls C) fun c=>if e9 m c.attrs then ob (d8 m ks vs) fun v=>if O1 v then none else some v else none
noncomputable def G5(P:PD) (n:Nat) (r:Fns) (sc:Scope) (ρ:Loc) (σ:Sto) (o:Expr) (m:Str):Option (V×Sto):=
  ao (if jq o then r.ev sc o ρ σ else none) fun ov σ1=>jy (fg σ1 ov) fun C ks vs=>ob (Fo P C m ks vs) fun v=>some (v,σ1)
noncomputable def qy(e:Expr):Option (Option Expr×Option Expr×Option Expr):=@Tt (fun J=>Option (Option Expr×Option Expr×Option Expr)) e (fun J J J=>none) (fun J J J=>none) (fun J J J J=>none) (fun J J J=>none) (fun J J J J=>none) (fun J J J J=>none) (fun J J J=>none) (fun J J J=>none) (fun J J J J=>none) (fun J J J J=>none) (fun J J J J J=>none) (fun J J J J=>none) (fun J J=>none) (fun J J=>none) (fun J J=>none) (fun J J J J=>none) (fun J J J J=>none) (fun J J J J=>none) (fun J J=>none) (fun J J J=>none) (fun J J J=>none) (fun J J J=>none) (fun J J=>none) (fun J J=>none) (fun J J=>none) (fun J J J=>none) (fun lo u st J=>some (lo,u,st))
noncomputable def zs8(P:PD) (n:Nat) (r:Fns) (sc:Scope) (ρ:Loc) (σ:Sto) (o:Expr) (lo u st:Option Expr):Option (V×Sto):=
  ob (vb lo u st) fun b=>ao (r.ev sc o ρ σ) fun ov σ1=>ob (bj σ1 ov) fun xs=>if sz xs then some (gi σ1 (.lst (if b then xs.reverse else (xs.drop 1).reverse))) else none
noncomputable def zni(P:PD) (n:Nat) (r:Fns) (sc:Scope) (ρ:Loc) (σ:Sto) (o i:Expr):Option (V×Sto):=
  ao (r.ev sc o ρ σ) fun ov σ1=>ao (r.ev sc i ρ σ1) fun iv σ2=>ob (di σ2 ov iv) fun v=>some (v,σ2)
noncomputable def t6(P:PD) (n:Nat) (r:Fns) (sc:Scope) (ρ:Loc) (σ:Sto) (o i:Expr):Option (V×Sto):=
  match qy i with
  | some (lo,u,st)=>zs8 P n r sc ρ σ o lo u st
  | none=>zni P n r sc ρ σ o i
noncomputable def N0(P:PD) (n:Nat) (r:Fns) (sc:Scope) (ρ:Loc) (σ:Sto) (f:Expr) (args:List Expr) (kws:List Keyword) (pos:Pos):Option (V×Sto):=@Tt (fun J=>Option (V×Sto)) f (fun J J J=>none) (fun J J J=>none) (fun J J J J=>none) (fun J J J=>none) (fun J J J J=>none) (fun J J J J=>none) (fun J J J=>none) (fun J J J=>none) (fun J J J J=>none) (fun J J J J=>none) (fun J J J J J=>none) (fun J J J J=>none) (fun J J=>none) (fun J J=>none) (fun J J=>none) (fun J J J J=>none) (fun J J J J=>none) (fun J J J J=>none) (fun J J=>none) (fun J J J=>none) (fun o m apos=>Gn P n r sc ρ σ o m apos args kws pos) (fun J J J=>none) (fun J J=>none) (fun fn fp=>G8 P n r sc ρ σ fn fp args kws) (fun J J=>none) (fun J J J=>none) (fun J J J J=>none)
noncomputable def ev2(P:PD) (n:Nat) (r:Fns) (sc:Scope) (ρ:Loc) (σ:Sto) (e:Expr):Option (V×Sto):=@Tt (fun J=>Option (V×Sto)) e (fun op vs J=>N3 P n r sc ρ σ op vs) (fun J J J=>none) (fun a op b J=>Pp P n r sc ρ σ a op b) (fun op x J=>F9 P n r sc ρ σ op x) (fun J J J J=>none) (fun t a b J=>Qr P n r sc ρ σ t a b) (fun ks vs J=>Nk P n r sc ρ σ ks vs) (fun J J J=>none) (fun elt gens csc J=>G6 P n r sc ρ σ elt gens csc) (fun J J J J=>none) (fun J J J J J=>none) (fun J J J J=>none) (fun J J=>none) (fun J J=>none) (fun J J=>none) (fun a ops bs J=>P1 P n r sc ρ σ a ops bs) (fun f args kws pos=>N0 P n r sc ρ σ f args kws pos) (fun J J J J=>none) (fun J J=>none) (fun c J J=>wr P n r sc ρ σ c) (fun o m J=>G5 P n r sc ρ σ o m) (fun o i J=>t6 P n r sc ρ σ o i) (fun J J=>none) (fun x J=>u9 P n r sc ρ σ x) (fun es J=>Nl P n r sc ρ σ es) (fun es J J=>Lr P n r sc ρ σ es) (fun J J J J=>none)
noncomputable def sk(x:Str) (sc:Scope):Bool:=match bm x sc.names with
  | some .local | some .cell=>true
  | _=>false
noncomputable def Er(P:PD) (n:Nat) (r:Fns) (sc:Scope) (ρ:Loc) (σ:Sto) (v:V) (x:Str):Option (Loc×Sto):=if sk x sc then some (ac x v ρ,σ) else none
noncomputable def Fd(P:PD) (n:Nat) (r:Fns) (sc:Scope) (ρ:Loc) (σ:Sto) (v:V) (ts:List Expr):Option (Loc×Sto):=
  ob (f6 v) fun xs=>if T8 ts.length xs.length then r.ass sc ts xs ρ σ else none
noncomputable def A1(P:PD) (m:Str) (v:V) (o:MObj):Option MObj:=
  jy (mO o) fun C ks vs=>ob (P.cls C) fun c=>if e9 m c.attrs&&sz ks then some (.obj C (c8 m v ks vs).1 (c8 m v ks vs).2) else none
noncomputable def Em(P:PD) (n:Nat) (r:Fns) (sc:Scope) (ρ:Loc) (σ:Sto) (v:V) (o:Expr) (m:Str):Option (Loc×Sto):=
  ao (r.ev sc o ρ σ) fun ov σ1=>ob (qf ov) fun k=>ob (ab σ1 k) fun o=>ob (A1 P m v o) fun o'=>some (ρ,ah σ1 k o')
noncomputable def yl(v i:V) (o:MObj):Option MObj:=match i with
  | .int j=>ob (mL o) fun xs=>if sz xs&&decide (0≤j∧j<xs.length) then some (.lst (rn xs j.toNat v)) else none
  | .str s=>ao (mD o) fun ks vs=>if sz ks then some (.dct (c8 s v ks vs).1 (c8 s v ks vs).2) else none
  | _=>none
noncomputable def F1(P:PD) (n:Nat) (r:Fns) (sc:Scope) (ρ:Loc) (σ:Sto) (v:V) (o i:Expr):Option (Loc×Sto):=
  ao (r.ev sc o ρ σ) fun ov σ1=>ob (qf ov) fun k=>ao (r.ev sc i ρ σ1) fun iv σ2=>ob (ab σ2 k) fun o=>ob (yl v iv o) fun o'=>some (ρ,ah σ2 k o')
noncomputable def Tf(P:PD) (n:Nat) (r:Fns) (sc:Scope) (ρ:Loc) (σ:Sto) (t:Expr) (v:V):Option (Loc×Sto):=@Tt (fun J=>Option (Loc×Sto)) t (fun J J J=>none) (fun J J J=>none) (fun J J J J=>none) (fun J J J=>none) (fun J J J J=>none) (fun J J J J=>none) (fun J J J=>none) (fun J J J=>none) (fun J J J J=>none) (fun J J J J=>none) (fun J J J J J=>none) (fun J J J J=>none) (fun J J=>none) (fun J J=>none) (fun J J=>none) (fun J J J J=>none) (fun J J J J=>none) (fun J J J J=>none) (fun J J=>none) (fun J J J=>none) (fun o m J=>Em P n r sc ρ σ v o m) (fun o i J=>F1 P n r sc ρ σ v o i) (fun J J=>none) (fun x J=>Er P n r sc ρ σ v x) (fun J J=>none) (fun ts J J=>Fd P n r sc ρ σ v ts) (fun J J J J=>none)
noncomputable def su(e:Expr):Bool:=@Tt (fun J=>Bool) e (fun J J J=>false) (fun J J J=>false) (fun J J J J=>false) (fun J J J=>false) (fun J J J J=>false) (fun J J J J=>false) (fun J J J=>false) (fun J J J=>false) (fun J J J J=>true) (fun J J J J=>false) (fun J J J J J=>false) (fun J J J J=>false) (fun J J=>false) (fun J J=>false) (fun J J=>false) (fun J J J J=>false) (fun J J J J=>false) (fun J J J J=>false) (fun J J=>false) (fun J J J=>false) (fun J J J=>false) (fun J J J=>false) (fun J J=>false) (fun J J=>false) (fun J J=>false) (fun J J J=>false) (fun J J J J=>false)
noncomputable def Ny(P:PD) (n:Nat) (r:Fns) (sc:Scope) (ρ:Loc) (σ:Sto) (e:Expr):Option (Fl×Loc×Sto):=ao (if su e then none else r.ev sc e ρ σ) fun J σ1=>some (.next,ρ,σ1)
noncomputable def Ov(P:PD) (n:Nat) (r:Fns) (sc:Scope) (ρ:Loc) (σ:Sto) (e:Expr):Option (Fl×Loc×Sto):=ao (r.ev sc e ρ σ) fun v σ1=>some (.ret v,ρ,σ1)
noncomputable def zad(P:PD) (n:Nat) (r:Fns) (sc:Scope) (ρ:Loc) (σ:Sto) (t e:Expr):Option (Fl×Loc×Sto):=ao (if qq t e then none else r.ev sc e ρ σ) fun v σ1=>ao (r.asg sc t v ρ σ1) fun ρ1 σ2=>some (.next,ρ1,σ2)
noncomputable def zao(P:PD) (n:Nat) (r:Fns) (sc:Scope) (ρ:Loc) (σ:Sto) (t:Expr) (a b:List Stmt):Option (Fl×Loc×Sto):=ao (r.tr sc t ρ σ) fun c σ1=>cond c (r.exs sc a ρ σ1) (r.exs sc b ρ σ1)
noncomputable def Rc(P:PD) (n:Nat) (r:Fns) (sc:Scope) (ρ:Loc) (σ:Sto) (t it:Expr) (b:List Stmt):Option (Fl×Loc×Sto):=ao (gm P r sc it ρ σ) fun i σ1=>r.fo sc t i b ρ σ1
noncomputable def ex2(P:PD) (n:Nat) (r:Fns) (sc:Scope) (ρ:Loc) (σ:Sto) (st:Stmt):Option (Fl×Loc×Sto):=@U1 (fun J=>Option (Fl×Loc×Sto)) st (fun J J J J J J J J J J=>none) (fun J J J J J J J J J J=>none) (fun J J J J J J J J J J J=>none) (fun e J=>ob e fun e=>Ov P n r sc ρ σ e) (fun J J=>none) (fun ts e J=>ob (one ts) fun t=>zad P n r sc ρ σ t e) (fun J J J J J J J=>none) (fun J J J J=>none) (fun J J J J J=>none) (fun t it b z J=>if z.isEmpty then Rc P n r sc ρ σ t it b else none) (fun J J J J J=>none) (fun t b z J=>if z.isEmpty then r.wh sc t b ρ σ else none) (fun t a b J=>zao P n r sc ρ σ t a b) (fun J J J=>none) (fun J J J=>none) (fun J J J=>none) (fun J J J=>none) (fun J J J J J=>none) (fun J J J J J=>none) (fun J J J=>none) (fun J J=>none) (fun J J J J=>none) (fun J J=>none) (fun J J=>none) (fun e J=>Ny P n r sc ρ σ e) (fun J=>some (.next,ρ,σ)) (fun J=>none) (fun J=>none)
noncomputable def Sy(P:PD) (n:Nat) (r:Fns) (sc:Scope) (es:List Expr) (ρ:Loc) (σ:Sto):Option (List V×Sto):=match es with
  | []=>some ([],σ)
  | e::es=>ao (r.ev sc e ρ σ) fun v σ1=>ao (r.evs sc es ρ σ1) fun vs σ2=>some (v::vs,σ2)
noncomputable def dd(r:Fns) (sc:Scope) (e:Expr) (ρ:Loc) (σ:Sto):Option (Bool×Sto):=ao (r.ev sc e ρ σ) fun v σ1=>ob (v5 v) fun b=>some (b,σ1)
noncomputable def trU(r:Fns) (sc:Scope) (ρ:Loc) (σ:Sto) (op:UnaryOp) (x:Expr) (p:Pos):Option (Bool×Sto):=@Wb (fun J=>Option (Bool×Sto)) op (dd r sc (.UnaryOp op x p) ρ σ) (ao (r.tr sc x ρ σ) fun b σ1=>some (!b,σ1)) (dd r sc (.UnaryOp op x p) ρ σ) (dd r sc (.UnaryOp op x p) ρ σ)
noncomputable def tr2(P:PD) (n:Nat) (r:Fns) (sc:Scope) (e:Expr) (ρ:Loc) (σ:Sto):Option (Bool×Sto):=@Tt (fun J=>Option (Bool×Sto)) e (fun op vs J=>r.trs sc op vs ρ σ) (fun J J J=>dd r sc e ρ σ) (fun J J J J=>dd r sc e ρ σ) (fun op x p=>trU r sc ρ σ op x p) (fun J J J J=>dd r sc e ρ σ) (fun t a b J=>ao (r.tr sc t ρ σ) fun c σ1=>cond c (r.tr sc a ρ σ1) (r.tr sc b ρ σ1)) (fun J J J=>dd r sc e ρ σ) (fun J J J=>dd r sc e ρ σ) (fun J J J J=>dd r sc e ρ σ) (fun J J J J=>dd r sc e ρ σ) (fun J J J J J=>dd r sc e ρ σ) (fun J J J J=>dd r sc e ρ σ) (fun J J=>dd r sc e ρ σ) (fun J J=>dd r sc e ρ σ) (fun J J=>dd r sc e ρ σ) (fun J J J J=>dd r sc e ρ σ) (fun J J J J=>dd r sc e ρ σ) (fun J J J J=>dd r sc e ρ σ) (fun J J=>dd r sc e ρ σ) (fun J J J=>dd r sc e ρ σ) (fun J J J=>dd r sc e ρ σ) (fun J J J=>dd r sc e ρ σ) (fun J J=>dd r sc e ρ σ) (fun J J=>dd r sc e ρ σ) (fun J J=>dd r sc e ρ σ) (fun J J J=>dd r sc e ρ σ) (fun J J J J=>dd r sc e ρ σ)
noncomputable def jw(op:BoolOp) (b:Bool):Bool:=match op with
  | .And=>!b
  | .Or=>b
noncomputable def zap(P:PD) (n:Nat) (r:Fns) (sc:Scope) (op:BoolOp) (es:List Expr) (ρ:Loc) (σ:Sto):Option (Bool×Sto):=match es with
  | []=>none
  | e::es=>ao (dd r sc e ρ σ) fun b σ1=>if es.isEmpty||jw op b then some (b,σ1) else r.bos sc op es ρ σ1
noncomputable def zak(P:PD) (n:Nat) (r:Fns) (sc:Scope) (op:BoolOp) (es:List Expr) (ρ:Loc) (σ:Sto):Option (Bool×Sto):=match es with
  | []=>none
  | e::es=>ao (r.tr sc e ρ σ) fun b σ1=>if es.isEmpty||jw op b then some (b,σ1) else r.trs sc op es ρ σ1
noncomputable def zab(P:PD) (n:Nat) (r:Fns) (sc:Scope) (ts:List Expr) (vs:List V) (ρ:Loc) (σ:Sto):Option (Loc×Sto):=match ts with
  | []=>if vs.isEmpty then some (ρ,σ) else none
  | t::ts=>match vs with
    | []=>none
    | v::vs=>ao (r.asg sc t v ρ σ) fun ρ1 σ1=>r.ass sc ts vs ρ1 σ1
noncomputable def Bd(f:Fl):Bool:=match f with
  | .next | .cont=>true
  | _=>false
noncomputable def A2(f:Fl):Fl:=match f with
  | .brk=>.next
  | f=>f
noncomputable def yk:Fl→Bool
  | .next=>true
  | _=>false
noncomputable def yg:Fl→Option V
  | .ret v=>some v
  | .next=>some .none
  | _=>none
noncomputable def Bh(P:PD) (n:Nat) (r:Fns) (sc:Scope) (ss:List Stmt) (ρ:Loc) (σ:Sto):Option (Fl×Loc×Sto):=match ic P ss ρ σ with
  | (ρ,σ)=>match ss with
    | []=>some (.next,ρ,σ)
    | s::ss=>jy (r.ex sc s ρ σ) fun f ρ1 σ1=>if yk f then r.exs sc ss ρ1 σ1 else some (f,ρ1,σ1)
noncomputable def xi(P:PD) (n:Nat) (r:Fns) (f:Nat) (args:List V) (σ:Sto):Option (V×Sto):=ob (P.fn f) fun fd=>match iz P n f args σ with
  | some v=>some (v,σ)
  | none=>ob (og fd.names args fd.dflts) fun ρ=>jy (r.exs fd.scope fd.body ρ σ) fun fl J σ1=>ob (yg fl) fun v=>some (v,σ1)
noncomputable def R3(P:PD) (n:Nat) (r:Fns) (C:Nat) (args:List V) (σ:Sto):Option (V×Sto):=ob (P.cls C) fun c=>
  ao (r.call c.init (.ref σ.next::args) (push σ (.obj C [] []))) fun v σ1=>ob (isNone v) fun b=>if b then some (.ref σ.next,σ1) else none
noncomputable def wh2(P:PD) (n:Nat) (r:Fns) (sc:Scope) (t:Expr) (b:List Stmt) (ρ:Loc) (σ:Sto):Option (Fl×Loc×Sto):=ao (r.tr sc t ρ σ) fun c σ1=>
  cond c (jy (r.exs sc b ρ σ1) fun f ρ2 σ2=>if Bd f then r.wh sc t b ρ2 σ2 else some (A2 f,ρ2,σ2)) (some (.next,ρ,σ1))
noncomputable def fo2(P:PD) (n:Nat) (r:Fns) (sc:Scope) (t:Expr) (it:It) (b:List Stmt) (ρ:Loc) (σ:Sto):Option (Fl×Loc×Sto):=ob (gq σ it) fun x=>match x with
  | none=>some (.next,ρ,σ)
  | some p=>ao (r.asg sc t p.1 ρ σ) fun ρ1 σ1=>jy (r.exs sc b ρ1 σ1) fun f ρ2 σ2=>if Bd f then r.fo sc t p.2 b ρ2 σ2 else some (A2 f,ρ2,σ2)
noncomputable def yd(r:Fns) (sc:Scope) (ifs:List Expr) (ρ:Loc) (σ:Sto):Option (Bool×Sto):=if ifs.isEmpty then some (true,σ) else r.trs sc .And ifs ρ σ
noncomputable def Gl(P:PD) (r:Fns) (sc:Scope) (t:Expr) (ifs:List Expr) (gs:List Comprehension) (elt:Expr) (it:It) (ρ:Loc) (σ:Sto) (acc:List V):Option (List V×Loc×Sto):=match gs with
  | []=>ao (r.ev sc elt ρ σ) fun x σ3=>if sz acc then r.co sc t ifs gs elt it ρ σ3 (acc++[x]) else none
  | g::gs'=>ao (if decide (g.is_async=0) then gm P r sc g.iter ρ σ else none) fun it2 σ3=>jy (r.co sc g.target g.ifs gs' elt it2 ρ σ3 acc) fun acc' ρ2 σ4=>r.co sc t ifs gs elt it ρ2 σ4 acc'
noncomputable def zt8(P:PD) (r:Fns) (sc:Scope) (t:Expr) (ifs:List Expr) (gs:List Comprehension) (elt:Expr) (it:It) (v:V) (ρ:Loc) (σ:Sto) (acc:List V):Option (List V×Loc×Sto):=
  ao (r.asg sc t v ρ σ) fun ρ1 σ1=>ao (yd r sc ifs ρ1 σ1) fun c σ2=>cond c (Gl P r sc t ifs gs elt it ρ1 σ2 acc) (r.co sc t ifs gs elt it ρ1 σ2 acc)
noncomputable def co2(P:PD) (n:Nat) (r:Fns) (sc:Scope) (t:Expr) (ifs:List Expr) (gs:List Comprehension) (elt:Expr) (it:It) (ρ:Loc) (σ:Sto) (acc:List V):Option (List V×Loc×Sto):=ob (gq σ it) fun x=>match x with
  | none=>some (acc,ρ,σ)
  | some p=>zt8 P r sc t ifs gs elt p.2 p.1 ρ σ acc
noncomputable def step(P:PD) (n:Nat) (r:Fns):Fns where
  ev sc e ρ σ:=ev2 P n r sc ρ σ e
  evs:=Sy P n r
  tr:=tr2 P n r
  bos:=zap P n r
  trs:=zak P n r
  asg sc t v ρ σ:=Tf P n r sc ρ σ t v
  ass:=zab P n r
  ex sc st ρ σ:=ex2 P n r sc ρ σ st
  exs:=Bh P n r
  call:=xi P n r
  new:=R3 P n r
  wh:=wh2 P n r
  fo:=fo2 P n r
  co:=co2 P n r
noncomputable def run(P:PD):Nat→Fns
  | 0=>bot
  | n+1=>step P n (run P n)
end Mine
end
section
open PySem
set_option linter.unusedVariables false
namespace Mine
section
section
variable {α β γ δ:Type}{p:Prop}
theorem aa{x:α}(h:(none:Option α)=some x):p:=by cases h
theorem bf{a c:α}{b d:β}(h:some (a,b)=some (c,d)) (k:a=c→b=d→p):p:=by cases h;exact k rfl rfl
theorem jv{a d:α}{b e:β}{c f:γ}(h:some (a,b,c)=some (d,e,f)) (k:a=d→b=e→c=f→p):p:=by cases h;exact k rfl rfl rfl
theorem ad{x:Option α}{k:α→Option β}{z:β}(e:ob x k=some z) (h:∀a,x=some a→k a=some z→p):p:=by
  cases x with
  | none=>exact aa e
  | some a=>exact h a rfl e
theorem aw{x:Option (α×β)}{k:α→β→Option γ}{z:γ}(e:ao x k=some z) (h:∀a b,x=some (a,b)→k a b=some z→p):p:=by
  rcases x with _ | ⟨a,b⟩
  · exact aa e
  · exact h a b rfl e
theorem qc{x:Option (α×β×γ)}{k:α→β→γ→Option δ}{z:δ}(e:jy x k=some z) (h:∀a b c,x=some (a,b,c)→k a b c=some z→p):p:=by
  rcases x with _ | ⟨a,b,c⟩
  · exact aa e
  · exact h a b c rfl e
theorem bc{b:Bool}{x:Option α}{z:α}(h:(if b=true then x else none)=some z) (k:b=true→x=some z→p):p:=by
  cases b
  · exact aa h
  · exact k rfl h
theorem kj{b:Bool}{x:Option α}{z:α}(h:(if b=true then none else x)=some z) (k:b=false→x=some z→p):p:=by
  cases b
  · exact k rfl h
  · exact aa h
theorem cq{b:Bool}{x y:Option α}{z:α}(h:(if b=true then x else y)=some z) (k1:b=true→x=some z→p) (k2:b=false→y=some z→p):p:=by
  cases b
  · exact k2 rfl h
  · exact k1 rfl h
theorem cdE{b:Bool}{x y:Option α}{z:α}(h:cond b x y=some z) (k1:b=true→x=some z→p) (k2:b=false→y=some z→p):p:=by
  cases b
  · exact k2 rfl h
  · exact k1 rfl h
theorem b7{a b:Bool}(h:(a&&b)=true) (k:a=true→b=true→p):p:=k (Uh.mp h).1 (Uh.mp h).2
theorem br{a b:α}(h:some a=some b):a=b:=Uj.inj h
theorem n9{x:List α}{a:α}(h:one x=some a):x=[a]:=
  (Xx (motive:=fun x=>one x=some a→x=[a]) x aa fun c r=>Xx (motive:=fun r=>one (c::r)=some a→c::r=[a]) r (fun h=>by rw [br h]) fun J J=>aa) h
theorem jh{x:List α}(h:x.isEmpty=true):x=[]:=Wh.mp h
end
section
variable {P:PD}{x:Str}{sc:Scope}{v:V}{u:Value}{a:Nat}{i:Int}
theorem Qy:∀{a b:List Nat},sr a b=true→a=b
  | [],[],_=>rfl
  | [],_::_,h=>by cases h
  | _::_,[],h=>by cases h
  | a::x,b::y,h=>by
    obtain ⟨h1,h2⟩:=Uh.mp h
    rw [Tu h1,Qy h2]
theorem lf{a b:Str}(h:seq a b=true):a=b:=by
  obtain ⟨⟨a⟩⟩:=a;obtain ⟨⟨b⟩⟩:=b
  have:a=b:=Qy h
  rw [this]
theorem Mp(h:vm v=some u):v = .val u:=(@V.casesOn (fun v=>vm v=some u→v = .val u) v aa (fun J=>aa) (fun J=>aa) (fun J=>aa) (fun J=>aa) (fun J=>aa) (fun J J=>aa) (fun J J J=>aa) (fun J J=>aa) (fun J=>aa) fun J h=>congrArg V.val (br h)) h
theorem tl(h:la u=some a):u = .ref a:=(Value.casesOn (motive:=fun u=>la u=some a→u = .ref a) u aa aa aa (fun J=>aa) (fun J J=>aa) (fun J J=>aa) (fun J J=>aa) (fun J J=>aa) (fun J=>aa) (fun J=>aa) fun J h=>congrArg Value.ref (br h)) h
theorem qu{s:Str}(h:jo v=some s):v = .str s:=(@V.casesOn (fun v=>jo v=some s→v = .str s) v aa (fun J=>aa) (fun J=>aa) (fun J h=>congrArg V.str (br h)) (fun J=>aa) (fun J=>aa) (fun J J=>aa) (fun J J J=>aa) (fun J J=>aa) (fun J=>aa) fun J=>aa) h
theorem P7{b:Bool}(h:v5 v=some b):v = .bool b:=(@V.casesOn (fun v=>v5 v=some b→v = .bool b) v aa (fun J h=>congrArg V.bool (br h)) (fun J=>aa) (fun J=>aa) (fun J=>aa) (fun J=>aa) (fun J J=>aa) (fun J J J=>aa) (fun J J=>aa) (fun J=>aa) fun J=>aa) h
theorem m9(h:ja v=some i):v = .int i:=(@V.casesOn (fun v=>ja v=some i→v = .int i) v aa (fun J=>aa) (fun J h=>congrArg V.int (br h)) (fun J=>aa) (fun J=>aa) (fun J=>aa) (fun J J=>aa) (fun J J J=>aa) (fun J J=>aa) (fun J=>aa) fun J=>aa) h
theorem Qp(h:qf v=some a):v = .ref a:=(@V.casesOn (fun v=>qf v=some a→v = .ref a) v aa (fun J=>aa) (fun J=>aa) (fun J=>aa) (fun J=>aa) (fun J=>aa) (fun J J=>aa) (fun J J J=>aa) (fun J J=>aa) (fun J h=>congrArg V.ref (br h)) fun J=>aa) h
theorem zcn(h:Kp u=true):u = .builtin "sorted":=by
  cases u <;> first | (cases h;done) | exact congrArg Value.builtin (beq_iff_eq.mp h)
theorem yc{α:Type}{x:List α}{a b:α}(h:two x=some (a,b)):x=[a,b]:=by
  rcases x with _ | ⟨c,_ | ⟨d,_ | ⟨_,_⟩⟩⟩ <;> first | exact aa h | (cases h;rfl)
theorem pn{xs:List V}(h:f6 v=some xs):v = .tup xs:=(@V.casesOn (fun v=>f6 v=some xs→v = .tup xs) v aa (fun J=>aa) (fun J=>aa) (fun J=>aa) (fun J h=>congrArg V.tup (br h)) (fun J=>aa) (fun J J=>aa) (fun J J J=>aa) (fun J J=>aa) (fun J=>aa) fun J=>aa) h
theorem S3{o:MObj}{C:Nat}{ks:List Str}{vs:List V}(h:mO o=some (C,ks,vs)):o = .obj C ks vs:=by cases o <;> first | exact aa h | (cases h;rfl)
theorem G1{o:MObj}{xs:List V}(h:mL o=some xs):o = .lst xs:=by cases o <;> first | exact aa h | (cases h;rfl)
theorem Sa{o:MObj}{ks:List Str}{vs:List V}(h:mD o=some (ks,vs)):o = .dct ks vs:=by cases o <;> first | exact aa h | (cases h;rfl)
theorem zjt{k:NameKind}(h:xh k=true):k = .local∨k = .cell∨k = .free:=by
  cases k <;> first | (cases h;done) | exact .inl rfl | exact .inr (.inl rfl) | exact .inr (.inr rfl)
theorem zla{k:NameKind}(h:Rt k=true):k = .globalImplicit:=by cases k <;> first | (cases h;done) | rfl
theorem zm5(h:Gd x sc=true):∃k,bm x sc.names=some k∧xh k=true:=by
  unfold Gd at h
  revert h
  rcases bm x sc.names with _ | k <;> intro h
  · cases h
  · exact ⟨k,rfl,h⟩
theorem Fa(h:sk x sc=true):bm x sc.names=some .local∨bm x sc.names=some .cell:=by
  unfold sk at h
  revert h
  rcases bm x sc.names with _ | k <;> intro h
  · cases h
  · cases k <;> first | (cases h;done) | exact .inl rfl | exact .inr rfl
theorem zgt(h:Ed x sc=true):bm x sc.names=some .globalImplicit:=by
  unfold Ed at h
  revert h
  rcases bm x sc.names with _ | k <;> intro h
  · cases h
  · cases k <;> first | (cases h;done) | rfl
theorem zd2{i:Expr}{lo u st:Option Expr}(h:qy i=some (lo,u,st)):∃pos,i = .Slice lo u st pos:=(@Tt (fun i=>qy i=some (lo,u,st)→∃pos,i = .Slice lo u st pos) i (fun J J J=>aa) (fun J J J=>aa) (fun J J J J=>aa) (fun J J J=>aa) (fun J J J J=>aa) (fun J J J J=>aa) (fun J J J=>aa) (fun J J J=>aa) (fun J J J J=>aa) (fun J J J J=>aa) (fun J J J J J=>aa) (fun J J J J=>aa) (fun J J=>aa) (fun J J=>aa) (fun J J=>aa) (fun J J J J=>aa) (fun J J J J=>aa) (fun J J J J=>aa) (fun J J=>aa) (fun J J J=>aa) (fun J J J=>aa) (fun J J J=>aa) (fun J J=>aa) (fun J J=>aa) (fun J J=>aa) (fun J J J=>aa) (fun J J J pos h=>jv h fun h1 h2 h3=>⟨pos,by rw [h1,h2,h3]⟩)) h
theorem zlv{c:Const}(h:Gc c=some i):c = .int i:=(@V3 (fun c=>Gc c=some i→c = .int i) c aa (fun J=>aa) (fun J h=>congrArg Const.int (br h)) (fun J=>aa) (fun J J=>aa) (fun J=>aa) (fun J=>aa) aa) h
theorem No{e:Expr}(h:vp e=some i):∃p1 p2,e = .Constant (.int i) p1 p2:=(@PySem.Expr.casesOn (fun e=>vp e=some i→∃p1 p2,e = .Constant (.int i) p1 p2) e (fun J J J=>aa) (fun J J J=>aa) (fun J J J J=>aa) (fun J J J=>aa) (fun J J J J=>aa) (fun J J J J=>aa) (fun J J J=>aa) (fun J J J=>aa) (fun J J J J=>aa) (fun J J J J=>aa) (fun J J J J J=>aa) (fun J J J J=>aa) (fun J J=>aa) (fun J J=>aa) (fun J J=>aa) (fun J J J J=>aa) (fun J J J J=>aa) (fun J J J J=>aa) (fun J J=>aa) (fun J p1 p2 h=>⟨p1,p2,by rw [zlv h]⟩) (fun J J J=>aa) (fun J J J=>aa) (fun J J=>aa) (fun J J=>aa) (fun J J=>aa) (fun J J J=>aa) (fun J J J J=>aa)) h
theorem Mz{op:UnaryOp}{x:Expr}(h:G2 op x=some i):op = .USub∧vp x=some i:=(@PySem.UnaryOp.casesOn (fun op=>G2 op x=some i→op = .USub∧vp x=some i) op aa aa aa (fun h=>⟨rfl,h⟩)) h
theorem zkj{e:Expr}(h:G4 e=some i):∃p1 p2 p3,e = .UnaryOp .USub (.Constant (.int i) p1 p2) p3:=(@Tt (fun e=>G4 e=some i→∃p1 p2 p3,e = .UnaryOp .USub (.Constant (.int i) p1 p2) p3) e (fun J J J=>aa) (fun J J J=>aa) (fun J J J J=>aa) (fun J J p3 h=>(No (Mz h).2).elim fun p1 h1=>h1.elim fun p2 e=>⟨p1,p2,p3,by rw [(Mz h).1,e]⟩) (fun J J J J=>aa) (fun J J J J=>aa) (fun J J J=>aa) (fun J J J=>aa) (fun J J J J=>aa) (fun J J J J=>aa) (fun J J J J J=>aa) (fun J J J J=>aa) (fun J J=>aa) (fun J J=>aa) (fun J J=>aa) (fun J J J J=>aa) (fun J J J J=>aa) (fun J J J J=>aa) (fun J J=>aa) (fun J J J=>aa) (fun J J J=>aa) (fun J J J=>aa) (fun J J=>aa) (fun J J=>aa) (fun J J=>aa) (fun J J J=>aa) (fun J J J J=>aa)) h
theorem zkx{x:Option Expr}(h:Sg x=some i):∃p1 p2,x=some (.Constant (.int i) p1 p2):=ad (x:=x) h fun J hx h=>(No h).elim fun p1 h1=>h1.elim fun p2 e=>⟨p1,p2,hx.trans (congrArg some e)⟩
theorem zmh{x:Option Expr}(h:Ss x=some i):∃p1 p2 p3,x=some (.UnaryOp .USub (.Constant (.int i) p1 p2) p3):=ad (x:=x) h fun J hx h=>(zkj h).elim fun p1 h1=>h1.elim fun p2 h2=>h2.elim fun p3 e=>⟨p1,p2,p3,hx.trans (congrArg some e)⟩
theorem zhs{lo u st:Option Expr}{b:Bool}(e:vb lo u st=some b):lo=none∧(∃p1 p2 p3,st=some (.UnaryOp .USub (.Constant (.int 1) p1 p2) p3))∧((u=none∧b=true)∨(b=false∧∃p1 p2,u=some (.Constant (.int 0) p1 p2))):=by
  unfold vb at e
  refine bc e fun h e=>?_
  obtain ⟨h1,h2⟩:=Uh.mp h
  refine ⟨Uy.mp h1,zmh (of_decide_eq_true h2),?_⟩
  cases u with
  | none=>exact .inl ⟨rfl,by cases e;rfl⟩
  | some u=>exact bc e fun h e=>.inr ⟨by cases e;rfl,zkx (of_decide_eq_true h)⟩
theorem zje{p:Prop}{r:Fns}{fv:Value}{xs:List V}{σ2:Sto}{z:V×Sto}(e:rg P r fv xs σ2=some z) (k1:∀a c,fv = .ref a→P.cls a=some c→r.new a xs σ2=some z→p) (k2:∀a,fv = .ref a→P.cls a=none→r.call a xs σ2=some z→p) (k3:la fv=none→blt σ2 fv xs=some z→p):p:=by
  unfold rg at e
  cases h:la fv with
  | none=>rw [h] at e;exact k3 h e
  | some a=>
    rw [h] at e;dsimp only at e
    cases hc:P.cls a with
    | none=>rw [hc] at e;exact k2 a (tl h) hc e
    | some c=>rw [hc] at e;exact k1 a c (tl h) hc e
theorem zmx{p:Prop}{σ:Sto}{a b:V}{it:It}(e:G0 σ a b=some it) (k:jx σ a=some []→b = .tup []→it = .items []→p):p:=
  ad e fun xs h1 e=>ad e fun ys h2 e=>bc e fun h e=>b7 h fun h3 h4=>k (jh h3▸h1) ((pn h2).trans (jh h4▸rfl)) (br e).symm
theorem zmc{p:Prop}{r:Fns}{ex:Expr}{ρ:Loc}{σ σ':Sto}{it:It}(e:gm P r sc ex ρ σ=some (it,σ')) (k1:∀v,pi P sc ex=none→r.ev sc ex ρ σ=some (v,σ')→f9 σ' v=some it→p)
    (k2:∀x y a σ1,pi P sc ex=some (x,y)→r.ev sc x ρ σ=some (a,σ1)→r.ev sc y ρ σ1=some (.tup [],σ')→jx σ' a=some []→it = .items []→p):p:=by
  revert e k1 k2
  unfold gm
  generalize pi P sc ex=z
  rcases z with _ | ⟨x,y⟩
  · exact fun e k1 k2=>aw e fun v σ1 e1 e=>ad e fun i e2 e=>bf e fun h1 h2=>k1 v rfl (h2▸e1) (h1▸h2▸e2)
  · exact fun e k1 k2=>aw e fun a σ1 e1 e=>aw e fun b σ2 e2 e=>ad e fun i e3 e=>bf e fun h1 h2=>zmx e3 fun q1 q2 q3=>k2 x y a σ1 rfl e1 (q2▸h2▸e2) (h2▸q1) (h1▸q3)
theorem zkz{f:Expr}(h:ym f=some x):∃fp,f = .Name x fp:=(@Tt (fun f=>ym f=some x→∃fp,f = .Name x fp) f (fun J J J=>aa) (fun J J J=>aa) (fun J J J J=>aa) (fun J J J=>aa) (fun J J J J=>aa) (fun J J J J=>aa) (fun J J J=>aa) (fun J J J=>aa) (fun J J J J=>aa) (fun J J J J=>aa) (fun J J J J J=>aa) (fun J J J J=>aa) (fun J J=>aa) (fun J J=>aa) (fun J J=>aa) (fun J J J J=>aa) (fun J J J J=>aa) (fun J J J J=>aa) (fun J J=>aa) (fun J J J=>aa) (fun J J J=>aa) (fun J J J=>aa) (fun J J=>aa) (fun J fp h=>⟨fp,by rw [br h]⟩) (fun J J=>aa) (fun J J J=>aa) (fun J J J J=>aa)) h
theorem zih{ex x y:Expr}(q:pi P sc ex=some (x,y)):∃fp pos,ex = .Call (.Name "zip" fp) [x,y] [] pos∧fh [x,y]=true∧bm "zip" sc.names=some .globalImplicit∧P.glob "zip"=none:=
  (@Tt (fun ex=>pi P sc ex=some (x,y)→∃fp pos,ex = .Call (.Name "zip" fp) [x,y] [] pos∧fh [x,y]=true∧bm "zip" sc.names=some .globalImplicit∧P.glob "zip"=none) ex (fun J J J=>aa) (fun J J J=>aa) (fun J J J J=>aa) (fun J J J=>aa) (fun J J J J=>aa) (fun J J J J=>aa) (fun J J J=>aa) (fun J J J=>aa) (fun J J J J=>aa) (fun J J J J=>aa) (fun J J J J J=>aa) (fun J J J J=>aa) (fun J J=>aa) (fun J J=>aa) (fun J J=>aa) (fun J J J J=>aa) (fun f args kws pos q=>ad (x:=ym f) q fun z hz q1=>bc q1 fun h q2=>b7 h fun h0 h=>b7 h fun h1 h=>b7 h fun h2 h=>b7 h fun h3 h4=>(zkz hz).elim fun fp e=>⟨fp,pos,by rw [e,jh h0,yc q2,lf h2],yc q2▸h1,lf h2▸zgt h3,lf h2▸Uy.mp h4⟩) (fun J J J J=>aa) (fun J J=>aa) (fun J J J=>aa) (fun J J J=>aa) (fun J J J=>aa) (fun J J=>aa) (fun J J=>aa) (fun J J=>aa) (fun J J J=>aa) (fun J J J J=>aa)) q
theorem zkb{f:Fl}(h:yg f=some v):f = .ret v∨(f = .next∧v = .none):=by
  cases f <;> first | exact aa h | (cases h;first | exact .inl rfl | exact .inr ⟨rfl,rfl⟩)
end
end
section
structure Ans where
  tag:Nat
  k:Nat
  v:V
  s:Sto
  ρ:Loc
  fl:Fl
  b:Bool
  it:It
  xs:List V
  ks:List Str
  o:MObj
  f:Nat
structure Item where
  a:Ans
  p:Prop
  h:p
structure Tp where
  T:List Item
  φ:Prop
def TM (α:Type):Type:=Tp→Option (α×Tp)
section
variable {α β:Type}
noncomputable def bd(m:TM α) (k:α→TM β):TM β:=fun s=>match m s with
  | some (a,s')=>k a s'
  | none=>none
noncomputable def az{γ:Type}(m:TM (α×β)) (k:α→β→TM γ):TM γ:=fun s=>match m s with
  | some ((a,b),s')=>k a b s'
  | none=>none
noncomputable def ow{γ δ:Type}(m:TM (α×β×γ)) (k:α→β→γ→TM δ):TM δ:=fun s=>match m s with
  | some ((a,b,c),s')=>k a b c s'
  | none=>none
noncomputable def gd(c:Bool) (m:TM α):TM α:=match c with | true=>m | false=>fun J=>none
noncomputable def cd(c:Bool) (m m':TM α):TM α:=match c with | true=>m | false=>m'
noncomputable def li(r:Option α):TM α:=fun s=>match r with
  | some a=>some (a,s)
  | none=>none
noncomputable def hk(tag:Nat) (g:Ans→Bool) (val:Ans→α) (cl:Ans→Prop) (m:TM α):TM α:=fun s=>match s.T with
  | i::T=>match T8 i.a.tag tag&&g i.a with
    | true=>some (val i.a,⟨T,s.φ∧cl i.a⟩)
    | false=>m s
  | []=>m s
noncomputable def dw(_:Ans):Bool:=true
noncomputable def kb:Prop→List Item→Prop
  | φ,[]=>φ
  | φ,i::T=>kb (φ∧i.p) T
theorem Lz:∀(T:List Item) (φ:Prop),φ→kb φ T
  | [],_,h=>h
  | i::T,_,h=>Lz T _ ⟨h,i.h⟩
structure Tk (m:TM α) (r:Option α):Prop where
  h:∀s a s',m s=some (a,s')→s'.φ→s.φ∧r=some a
theorem Tk.bd{m:TM α}{r:Option α}{k:α→TM β}{k':α→Option β}(h:Tk m r) (h2:∀a,Tk (k a) (k' a)):Tk (bd m k) (r.bind k'):=⟨fun s b s' e hf=>by
  unfold Mine.bd at e
  cases q:m s with
  | none=>rw [q] at e;cases e
  | some p=>
    rw [q] at e
    obtain ⟨h3,h4⟩:=(h2 p.1).h p.2 b s' e hf
    obtain ⟨h5,h6⟩:=h.h s p.1 p.2 q h3
    exact ⟨h5,by rw [h6];exact h4⟩⟩
theorem Tk.li{r:Option α}:Tk (li r) r:=⟨fun s a s' e hf=>by
  unfold Mine.li at e
  cases r with
  | none=>cases e
  | some x=>cases e;exact ⟨hf,rfl⟩⟩
theorem Tk.hk{tag:Nat}{g:Ans→Bool}{val:Ans→α}{cl:Ans→Prop}{m:TM α}{r:Option α}(h1:∀a,g a=true→cl a→r=some (val a)) (h:Tk m r):Tk (hk tag g val cl m) r:=⟨fun s a s' e hf=>by
  unfold Mine.hk at e
  revert e
  cases s.T with
  | nil=>exact fun e=>h.h s a s' e hf
  | cons i T=>
    dsimp only
    cases c:(T8 i.a.tag tag&&g i.a) with
    | false=>exact fun e=>h.h s a s' e hf
    | true=>
      intro e
      cases e
      exact ⟨hf.1,h1 _ (Uh.mp c).2 hf.2⟩⟩
theorem Tk.hy{tag:Nat}{val:Ans→α}{cl:Ans→Prop}{m:TM α}{r:Option α}(h1:∀a,cl a→r=some (val a)) (h:Tk m r):Tk (Mine.hk tag dw val cl m) r:=Tk.hk (fun a J=>h1 a) h
theorem Tk.cast{m:TM α}{r r':Option α}(h:Tk m r) (e:r=r'):Tk m r':=e▸h
theorem Tk.run{m:TM α}{r:Option α}(h:Tk m r) (T:List Item) {a:α}(e:m ⟨T,True⟩=some (a,⟨[],kb True T⟩)):r=some a:=(h.h _ _ _ e (Lz T _ trivial)).2
theorem dg{m:TM α}{r:Option α}{k:α→TM β}{k':α→Option β}(h:Tk m r) (h2:∀a,Tk (k a) (k' a)):Tk (Mine.bd m k) (ob r k'):=(Tk.bd h h2).cast (by cases r <;> rfl)
theorem bw{γ:Type}{m:TM (α×β)}{r:Option (α×β)}{k:α→β→TM γ}{k':α→β→Option γ}(h:Tk m r) (h2:∀a b,Tk (k a b) (k' a b)):Tk (az m k) (ao r k'):=by
  rw [show az m k=Mine.bd m fun p=>k p.1 p.2 by funext s;unfold az Mine.bd;rcases m s with _ | ⟨⟨a,b⟩,s'⟩ <;> rfl]
  exact (Tk.bd h (k':=fun p=>k' p.1 p.2) fun p=>h2 p.1 p.2).cast (by cases r <;> rfl)
theorem ud{γ δ:Type}{m:TM (α×β×γ)}{r:Option (α×β×γ)}{k:α→β→γ→TM δ}{k':α→β→γ→Option δ}(h:Tk m r) (h2:∀a b c,Tk (k a b c) (k' a b c)):Tk (ow m k) (jy r k'):=by
  rw [show ow m k=Mine.bd m fun p=>k p.1 p.2.1 p.2.2 by funext s;unfold ow Mine.bd;rcases m s with _ | ⟨⟨a,b,c⟩,s'⟩ <;> rfl]
  exact (Tk.bd h (k':=fun p=>k' p.1 p.2.1 p.2.2) fun p=>h2 p.1 p.2.1 p.2.2).cast (by cases r <;> rfl)
theorem jm{c:Bool}{m:TM α}{r:Option α}(h:Tk m r):Tk (gd c m) (if c=true then r else none):=by
  cases c
  · exact ⟨fun J J J e=>by cases e⟩
  · exact h
theorem kgn{c:Bool}{m:TM α}{r:Option α}(h:Tk m r):Tk (gd (!c) m) (if c=true then none else r):=by
  cases c
  · exact h
  · exact ⟨fun J J J e=>by cases e⟩
theorem y0{c:Bool}{m m':TM α}{r r':Option α}(h:Tk m r) (h':Tk m' r'):Tk (cd c m m') (cond c r r'):=by cases c <;> assumption
theorem vw{c:Bool}{m m':TM α}{r r':Option α}(h:Tk m r) (h':Tk m' r'):Tk (cd c m m') (if c=true then r else r'):=by cases c <;> assumption
theorem Tk.no{r:Option α}:Tk (fun J=>none) r:=⟨fun J J J e=>by cases e⟩
end
structure FnsT where
  ev:Scope→Expr→Loc→Sto→TM (V×Sto)
  evs:Scope→List Expr→Loc→Sto→TM (List V×Sto)
  tr:Scope→Expr→Loc→Sto→TM (Bool×Sto)
  bos:Scope→BoolOp→List Expr→Loc→Sto→TM (Bool×Sto)
  trs:Scope→BoolOp→List Expr→Loc→Sto→TM (Bool×Sto)
  asg:Scope→Expr→V→Loc→Sto→TM (Loc×Sto)
  ass:Scope→List Expr→List V→Loc→Sto→TM (Loc×Sto)
  ex:Scope→Stmt→Loc→Sto→TM (Fl×Loc×Sto)
  exs:Scope→List Stmt→Loc→Sto→TM (Fl×Loc×Sto)
  call:Nat→List V→Sto→TM (V×Sto)
  new:Nat→List V→Sto→TM (V×Sto)
  wh:Scope→Expr→List Stmt→Loc→Sto→TM (Fl×Loc×Sto)
  fo:Scope→Expr→It→List Stmt→Loc→Sto→TM (Fl×Loc×Sto)
  co:Scope→Expr→List Expr→List Comprehension→Expr→It→Loc→Sto→List V→TM (List V×Loc×Sto)
section
variable (P:PD) (n:Nat) (t:FnsT)
noncomputable def Qe(sc:Scope) (ρ:Loc) (σ:Sto) (x:Str):TM (V×Sto):=hk 3 (fun J=>Gd x sc) (fun a=>(a.v,σ)) (fun a=>ae x ρ=some a.v) (li (u9 P n (run P n) sc ρ σ x))
noncomputable def xl(f:Nat) (args:List V) (σ:Sto):TM (V×Sto):=
  hk 0 (fun a=>T8 a.f f&&U8 a.k n) (fun a=>(a.v,a.s)) (fun a=>∀N,a.k≤N→(run P N).call f args σ=some (a.v,a.s))
  (hk 1 (fun a=>T8 a.f f&&U8 a.k n) (fun a=>(a.v,σ)) (fun a=>∀N σ,a.k≤N→(run P N).call f args σ=some (a.v,σ))
  (hk 2 (fun a=>T8 a.f f) (fun a=>(a.v,a.s)) (fun a=>(run P n).call f args σ=some (a.v,a.s)) (t.call f args σ)))
noncomputable def Gm(σ:Sto) (op:Operator) (a b:V):TM (V×Sto):=hk 4 dw (fun x=>(x.v,x.s)) (fun x=>ff σ op a b=some (x.v,x.s)) (hk 25 dw (fun x=>(x.v,σ)) (fun x=>∀σ,ff σ op a b=some (x.v,σ)) (li (ff σ op a b)))
noncomputable def Sb(σ:Sto) (f:Value) (xs:List V):TM (V×Sto):=hk 5 dw (fun x=>(x.v,x.s)) (fun x=>blt σ f xs=some (x.v,x.s)) (hk 21 dw (fun x=>(x.v,σ)) (fun x=>∀σ,blt σ f xs=some (x.v,σ)) (li (blt σ f xs)))
noncomputable def Hi(σ:Sto) (o:V) (m:Str) (xs:List V):TM (V×Sto):=hk 6 dw (fun x=>(x.v,x.s)) (fun x=>jg σ o m xs=some (x.v,x.s)) (li (jg σ o m xs))
noncomputable def tVc(σ:Sto) (op:CmpOp) (a b:V):TM Bool:=hk 7 dw (fun x=>x.b) (fun x=>bo σ op a b=some x.b) (hk 22 dw (fun x=>x.b) (fun x=>∀σ,bo σ op a b=some x.b) (li (bo σ op a b)))
noncomputable def Ql(σ:Sto) (a b:V):TM V:=hk 8 dw (fun x=>x.v) (fun x=>di σ a b=some x.v) (hk 23 dw (fun x=>x.v) (fun x=>∀σ,di σ a b=some x.v) (li (di σ a b)))
noncomputable def tIo(σ:Sto) (a:V):TM It:=hk 9 dw (fun x=>x.it) (fun x=>f9 σ a=some x.it) (hk 24 dw (fun x=>x.it) (fun x=>∀σ,f9 σ a=some x.it) (li (f9 σ a)))
noncomputable def Br(sc:Scope) (x:Expr) (it:It) (b:List Stmt) (ρ:Loc) (σ:Sto):TM (Fl×Loc×Sto):=
  hk 10 dw (fun x=>(x.fl,x.ρ,x.s)) (fun y=>(run P n).fo sc x it b ρ σ=some (y.fl,y.ρ,y.s)) (t.fo sc x it b ρ σ)
noncomputable def Bm(sc:Scope) (x:Expr) (b:List Stmt) (ρ:Loc) (σ:Sto):TM (Fl×Loc×Sto):=
  hk 11 dw (fun x=>(x.fl,x.ρ,x.s)) (fun y=>(run P n).wh sc x b ρ σ=some (y.fl,y.ρ,y.s)) (t.wh sc x b ρ σ)
noncomputable def v4(sc:Scope) (x:Expr) (ifs:List Expr) (gs:List Comprehension) (elt:Expr) (it:It) (ρ:Loc) (σ:Sto) (acc:List V):TM (List V×Loc×Sto):=
  hk 12 dw (fun x=>(x.xs,x.ρ,x.s)) (fun y=>(run P n).co sc x ifs gs elt it ρ σ acc=some (y.xs,y.ρ,y.s)) (t.co sc x ifs gs elt it ρ σ acc)
noncomputable def tOb(σ:Sto) (o:V):TM (Option (Nat×List Str×List V)):=
  hk 14 dw (fun x=>some (x.k,x.ks,x.xs)) (fun x=>fg σ o=some (x.k,x.ks,x.xs)) (hk 15 dw (fun J=>none) (fun J=>fg σ o=none) (li (some (fg σ o))))
noncomputable def tO3(σ:Sto) (o:V):TM (Nat×List Str×List V):=hk 14 dw (fun x=>(x.k,x.ks,x.xs)) (fun x=>fg σ o=some (x.k,x.ks,x.xs)) (li (fg σ o))
noncomputable def tAL(σ:Sto) (o:V):TM (List V):=hk 27 dw (fun x=>x.xs) (fun x=>bj σ o=some x.xs) (li (bj σ o))
noncomputable def yv(σ:Sto) (k:Nat):TM MObj:=hk 26 dw (fun x=>x.o) (fun x=>ab σ k=some x.o) (li (ab σ k))
noncomputable def Hw(v i:V) (o:MObj):TM MObj:=hk 28 dw (fun x=>x.o) (fun x=>yl v i o=some x.o) (li (yl v i o))
noncomputable def Hk(σ:Sto) (it:It):TM (Option (V×It)):=hk 29 dw (fun x=>some (x.v,x.it)) (fun x=>gq σ it=some (some (x.v,x.it))) (hk 30 dw (fun J=>none) (fun J=>gq σ it=some none) (li (gq σ it)))
noncomputable def tBo(b:Bool):TM Bool:=hk 18 dw (fun x=>x.b) (fun x=>b=x.b) (li (some b))
noncomputable def Hs(σ:Sto) (o:V):TM Bool:=hk 16 dw (fun J=>true) (fun J=>my σ o=true) (li (some (my σ o)))
noncomputable def tTh(ss:List Stmt) (ρ:Loc) (σ:Sto):TM (Loc×Sto):=hk 17 dw (fun x=>(x.ρ,x.s)) (fun x=>ic P ss ρ σ=(x.ρ,x.s)) (li (some (ic P ss ρ σ)))
noncomputable def yr(m:TM (Bool×Sto)):TM (Bool×Sto):=az m fun c σ=>bd (hk 18 dw (fun x=>x.b) (fun x=>c=x.b) (li (some c))) fun b=>li (some (b,σ))
noncomputable def vr(sc:Scope) (e:Expr) (ρ:Loc) (σ:Sto):TM (Bool×Sto):=yr (hk 19 dw (fun x=>(x.b,x.s)) (fun x=>(run P n).tr sc e ρ σ=some (x.b,x.s)) (t.tr sc e ρ σ))
noncomputable def v0(sc:Scope) (e:Expr) (ρ:Loc) (σ:Sto):TM (It×Sto):=match pi P sc e with
  | some (x,y)=>az (t.ev sc x ρ σ) fun a σ1=>az (t.ev sc y ρ σ1) fun b σ2=>bd (li (G0 σ2 a b)) fun it=>li (some (it,σ2))
  | none=>az (t.ev sc e ρ σ) fun v σ1=>bd (tIo σ1 v) fun i=>li (some (i,σ1))
noncomputable def tMC(sc:Scope) (ρ:Loc) (σ:Sto) (o:Expr) (m:Str) (apos:Pos) (args:List Expr) (kws:List Keyword) (pos:Pos):TM (V×Sto):=
  az (gd (kws.isEmpty&&(jq o&&(fh args&&(U8 args.length 20&&T8 apos.endLine pos.line)))) (t.ev sc o ρ σ)) fun ov σ1=>
  bd (tOb σ1 ov) fun x=>match x with
    | some (C,ks,vs)=>bd (li (w8 P C m ks vs)) fun f=>az (t.evs sc args ρ σ1) fun xs σ2=>xl P n t f (ov::xs) σ2
    | none=>bd (Hs σ1 ov) fun b=>az (gd b (t.evs sc args ρ σ1)) fun xs σ2=>Hi σ2 ov m xs
noncomputable def Ht(fv:Value) (xs:List V) (σ2:Sto):TM (V×Sto):=match la fv with
  | some a=>match P.cls a with
    | some _=>t.new a xs σ2
    | none=>xl P n t a xs σ2
  | none=>Sb σ2 fv xs
noncomputable def zty(sc:Scope) (ρ:Loc) (σ:Sto) (fv:Value) (args:List Expr) (kws:List Keyword) (σ1:Sto):TM (V×Sto):=match kws with
  | []=>az (t.evs sc args ρ σ1) fun xs σ2=>Ht P n t fv xs σ2
  | kw::rest=>li (Qn P n (run P n) sc ρ σ fv args (kw::rest) σ1)
noncomputable def tCN(sc:Scope) (ρ:Loc) (σ:Sto) (fn:Str) (fp:Pos) (args:List Expr) (kws:List Keyword):TM (V×Sto):=
  az (gd (fh args) (t.ev sc (.Name fn fp) ρ σ)) fun u σ1=>bd (li (vm u)) fun fv=>zty P n t sc ρ σ fv args kws σ1
noncomputable def tAt(sc:Scope) (ρ:Loc) (σ:Sto) (o:Expr) (m:Str):TM (V×Sto):=
  az (gd (jq o) (t.ev sc o ρ σ)) fun ov σ1=>ow (tO3 σ1 ov) fun C ks vs=>bd (li (Fo P C m ks vs)) fun v=>li (some (v,σ1))
noncomputable def zrf(sc:Scope) (ρ:Loc) (σ:Sto) (elt tgt iter:Expr) (ifs:List Expr) (gs:List Comprehension) (csc:Scope):TM (V×Sto):=
  az (gd (mj sc csc) (v0 P t sc iter ρ σ)) fun it σ1=>ow (v4 P n t csc tgt ifs gs elt it (ρ.filter fun p=>fy p.1 csc) σ1 []) fun xs J σ2=>li (some (gi σ2 (.lst xs)))
noncomputable def Sp(sc:Scope) (ρ:Loc) (σ:Sto) (elt:Expr) (gens:List Comprehension) (csc:Scope):TM (V×Sto):=match gens with
  | []=>fun J=>none
  | g::gs=>gd (decide (g.is_async=0)) (zrf P n t sc ρ σ elt g.target g.iter g.ifs gs csc)
noncomputable def P9(sc:Scope) (ρ:Loc) (σ:Sto) (elt:Expr) (gens:List Comprehension) (csc:Scope) (pos:Pos):TM (V×Sto):=
  hk 20 dw (fun x=>(x.v,x.s)) (fun x=>(run P (n+1)).ev sc (.ListComp elt gens csc pos) ρ σ=some (x.v,x.s)) (Sp P n t sc ρ σ elt gens csc)
noncomputable def zaa(sc:Scope) (ρ:Loc) (σ:Sto) (a:Expr) (ops:List CmpOp) (bs:List Expr):TM (V×Sto):=
  bd (li (one ops)) fun op=>bd (li (one bs)) fun b=>az (t.ev sc a ρ σ) fun x σ1=>az (t.ev sc b ρ σ1) fun y σ2=>bd (tVc σ2 op x y) fun c=>li (some (.bool c,σ2))
noncomputable def tCl(sc:Scope) (ρ:Loc) (σ:Sto) (f:Expr) (args:List Expr) (kws:List Keyword) (pos:Pos):TM (V×Sto):=@Tt (fun J=>TM (V×Sto)) f (fun J J J=>fun J=>none) (fun J J J=>fun J=>none) (fun J J J J=>fun J=>none) (fun J J J=>fun J=>none) (fun J J J J=>fun J=>none) (fun J J J J=>fun J=>none) (fun J J J=>fun J=>none) (fun J J J=>fun J=>none) (fun J J J J=>fun J=>none) (fun J J J J=>fun J=>none) (fun J J J J J=>fun J=>none) (fun J J J J=>fun J=>none) (fun J J=>fun J=>none) (fun J J=>fun J=>none) (fun J J=>fun J=>none) (fun J J J J=>fun J=>none) (fun J J J J=>fun J=>none) (fun J J J J=>fun J=>none) (fun J J=>fun J=>none) (fun J J J=>fun J=>none) (fun o m apos=>tMC P n t sc ρ σ o m apos args kws pos) (fun J J J=>fun J=>none) (fun J J=>fun J=>none) (fun fn fp=>tCN P n t sc ρ σ fn fp args kws) (fun J J=>fun J=>none) (fun J J J=>fun J=>none) (fun J J J J=>fun J=>none)
noncomputable def zt1(sc:Scope) (ρ:Loc) (σ:Sto) (o i:Expr):TM (V×Sto):=
  az (t.ev sc o ρ σ) fun x σ1=>az (t.ev sc i ρ σ1) fun y σ2=>bd (Ql σ2 x y) fun c=>li (some (c,σ2))
noncomputable def Gj(sc:Scope) (ρ:Loc) (σ:Sto) (o i:Expr):TM (V×Sto):=match qy i with
  | some (lo,u,st)=>bd (li (vb lo u st)) fun b=>az (t.ev sc o ρ σ) fun ov σ1=>bd (tAL σ1 ov) fun xs=>bd (tBo (sz xs)) fun c=>gd c (li (some (gi σ1 (.lst (if b then xs.reverse else (xs.drop 1).reverse)))))
  | none=>zt1 t sc ρ σ o i
noncomputable def tEv(sc:Scope) (e:Expr) (ρ:Loc) (σ:Sto):TM (V×Sto):=@Tt (fun J=>TM (V×Sto)) e (fun op vs J=>az (t.bos sc op vs ρ σ) fun b σ1=>li (some (.bool b,σ1))) (fun J J J=>fun J=>none) (fun a op b J=>az (t.ev sc a ρ σ) fun x σ1=>az (t.ev sc b ρ σ1) fun y σ2=>Gm σ2 op x y) (fun op x J=>az (t.ev sc x ρ σ) fun v σ1=>bd (li (Hq op v)) fun u=>li (some (u,σ1))) (fun J J J J=>fun J=>none) (fun c a b pos=>hk 20 dw (fun x=>(x.v,x.s)) (fun x=>(run P (n+1)).ev sc (.IfExp c a b pos) ρ σ=some (x.v,x.s)) (az (vr P n t sc c ρ σ) fun c σ1=>cd c (t.ev sc a ρ σ1) (t.ev sc b ρ σ1))) (fun ks vs J=>bd (li (mz ks)) fun kl=>az (t.evs sc vs ρ σ) fun xs σ1=>gd (T8 kl.length xs.length&&(U8 kl.length 15&&nu kl)) (li (some (gi σ1 (.dct kl xs))))) (fun J J J=>fun J=>none) (fun elt gens csc pos=>P9 P n t sc ρ σ elt gens csc pos) (fun J J J J=>fun J=>none) (fun J J J J J=>fun J=>none) (fun J J J J=>fun J=>none) (fun J J=>fun J=>none) (fun J J=>fun J=>none) (fun J J=>fun J=>none) (fun a ops bs J=>zaa t sc ρ σ a ops bs) (fun f args kws pos=>tCl P n t sc ρ σ f args kws pos) (fun J J J J=>fun J=>none) (fun J J=>fun J=>none) (fun c J J=>li (wr P n (run P n) sc ρ σ c)) (fun o m J=>tAt P t sc ρ σ o m) (fun o i J=>Gj t sc ρ σ o i) (fun J J=>fun J=>none) (fun x J=>Qe P n sc ρ σ x) (fun es J=>az (t.evs sc es ρ σ) fun xs σ1=>li (pe σ1 xs)) (fun es J J=>az (t.evs sc es ρ σ) fun xs σ1=>gd (sz xs) (li (some (.tup xs,σ1)))) (fun J J J J=>fun J=>none)
noncomputable def Sj(sc:Scope) (es:List Expr) (ρ:Loc) (σ:Sto):TM (List V×Sto):=match es with
  | []=>li (some ([],σ))
  | e::es=>az (t.ev sc e ρ σ) fun x σ1=>az (t.evs sc es ρ σ1) fun y σ2=>li (some (x::y,σ2))
noncomputable def tB(sc:Scope) (e:Expr) (ρ:Loc) (σ:Sto):TM (Bool×Sto):=az (t.ev sc e ρ σ) fun v σ1=>bd (li (v5 v)) fun b=>li (some (b,σ1))
noncomputable def zrn(sc:Scope) (ρ:Loc) (σ:Sto) (op:UnaryOp) (x:Expr) (p:Pos):TM (Bool×Sto):=@Wb (fun J=>TM (Bool×Sto)) op (tB t sc (.UnaryOp op x p) ρ σ) (az (t.tr sc x ρ σ) fun b σ1=>li (some (!b,σ1))) (tB t sc (.UnaryOp op x p) ρ σ) (tB t sc (.UnaryOp op x p) ρ σ)
noncomputable def zr5(sc:Scope) (e:Expr) (ρ:Loc) (σ:Sto):TM (Bool×Sto):=@Tt (fun J=>TM (Bool×Sto)) e (fun op vs J=>t.trs sc op vs ρ σ) (fun J J J=>tB t sc e ρ σ) (fun J J J J=>tB t sc e ρ σ) (fun op x p=>zrn t sc ρ σ op x p) (fun J J J J=>tB t sc e ρ σ) (fun c a b J=>az (t.tr sc c ρ σ) fun c σ1=>cd c (t.tr sc a ρ σ1) (t.tr sc b ρ σ1)) (fun J J J=>tB t sc e ρ σ) (fun J J J=>tB t sc e ρ σ) (fun J J J J=>tB t sc e ρ σ) (fun J J J J=>tB t sc e ρ σ) (fun J J J J J=>tB t sc e ρ σ) (fun J J J J=>tB t sc e ρ σ) (fun J J=>tB t sc e ρ σ) (fun J J=>tB t sc e ρ σ) (fun J J=>tB t sc e ρ σ) (fun J J J J=>tB t sc e ρ σ) (fun J J J J=>tB t sc e ρ σ) (fun J J J J=>tB t sc e ρ σ) (fun J J=>tB t sc e ρ σ) (fun J J J=>tB t sc e ρ σ) (fun J J J=>tB t sc e ρ σ) (fun J J J=>tB t sc e ρ σ) (fun J J=>tB t sc e ρ σ) (fun J J=>tB t sc e ρ σ) (fun J J=>tB t sc e ρ σ) (fun J J J=>tB t sc e ρ σ) (fun J J J J=>tB t sc e ρ σ)
noncomputable def tTr(sc:Scope) (e:Expr) (ρ:Loc) (σ:Sto):TM (Bool×Sto):=yr (zr5 t sc e ρ σ)
noncomputable def zal(sc:Scope) (op:BoolOp) (es:List Expr) (ρ:Loc) (σ:Sto):TM (Bool×Sto):=match es with
  | []=>fun J=>none
  | e::es=>az (yr (tB t sc e ρ σ)) fun b σ1=>cd (es.isEmpty||jw op b) (li (some (b,σ1))) (t.bos sc op es ρ σ1)
noncomputable def Td(sc:Scope) (op:BoolOp) (es:List Expr) (ρ:Loc) (σ:Sto):TM (Bool×Sto):=match es with
  | []=>fun J=>none
  | e::es=>az (t.tr sc e ρ σ) fun b σ1=>cd (es.isEmpty||jw op b) (li (some (b,σ1))) (t.trs sc op es ρ σ1)
noncomputable def zam(sc:Scope) (x:Expr) (v:V) (ρ:Loc) (σ:Sto):TM (Loc×Sto):=@Tt (fun J=>TM (Loc×Sto)) x (fun J J J=>fun J=>none) (fun J J J=>fun J=>none) (fun J J J J=>fun J=>none) (fun J J J=>fun J=>none) (fun J J J J=>fun J=>none) (fun J J J J=>fun J=>none) (fun J J J=>fun J=>none) (fun J J J=>fun J=>none) (fun J J J J=>fun J=>none) (fun J J J J=>fun J=>none) (fun J J J J J=>fun J=>none) (fun J J J J=>fun J=>none) (fun J J=>fun J=>none) (fun J J=>fun J=>none) (fun J J=>fun J=>none) (fun J J J J=>fun J=>none) (fun J J J J=>fun J=>none) (fun J J J J=>fun J=>none) (fun J J=>fun J=>none) (fun J J J=>fun J=>none) (fun o m J=>az (t.ev sc o ρ σ) fun ov σ1=>bd (li (qf ov)) fun k=>bd (yv σ1 k) fun o=>bd (li (A1 P m v o)) fun o'=>li (some (ρ,ah σ1 k o'))) (fun o i J=>az (t.ev sc o ρ σ) fun ov σ1=>bd (li (qf ov)) fun k=>az (t.ev sc i ρ σ1) fun iv σ2=>bd (yv σ2 k) fun o=>bd (Hw v iv o) fun o'=>li (some (ρ,ah σ2 k o'))) (fun J J=>fun J=>none) (fun x J=>li (Er P n (run P n) sc ρ σ v x)) (fun J J=>fun J=>none) (fun ts J J=>bd (li (f6 v)) fun xs=>gd (T8 ts.length xs.length) (t.ass sc ts xs ρ σ)) (fun J J J J=>fun J=>none)
noncomputable def zae(sc:Scope) (ts:List Expr) (vs:List V) (ρ:Loc) (σ:Sto):TM (Loc×Sto):=match ts with
  | []=>gd vs.isEmpty (li (some (ρ,σ)))
  | t1::ts=>match vs with
    | []=>fun J=>none
    | v::vs=>az (t.asg sc t1 v ρ σ) fun ρ1 σ1=>t.ass sc ts vs ρ1 σ1
noncomputable def tA1(sc:Scope) (x e:Expr) (ρ:Loc) (σ:Sto):TM (Fl×Loc×Sto):=az (gd (!qq x e) (t.ev sc e ρ σ)) fun v σ1=>az (t.asg sc x v ρ σ1) fun ρ1 σ2=>li (some (.next,ρ1,σ2))
noncomputable def tEx(sc:Scope) (st:Stmt) (ρ:Loc) (σ:Sto):TM (Fl×Loc×Sto):=@U1 (fun J=>TM (Fl×Loc×Sto)) st (fun J J J J J J J J J J=>fun J=>none) (fun J J J J J J J J J J=>fun J=>none) (fun J J J J J J J J J J J=>fun J=>none) (fun e J=>bd (li e) fun e=>az (t.ev sc e ρ σ) fun v σ1=>li (some (.ret v,ρ,σ1))) (fun J J=>fun J=>none) (fun ts e J=>bd (li (one ts)) fun x=>tA1 t sc x e ρ σ) (fun J J J J J J J=>fun J=>none) (fun J J J J=>fun J=>none) (fun J J J J J=>fun J=>none) (fun x it b z J=>gd z.isEmpty (az (v0 P t sc it ρ σ) fun i σ1=>Br P n t sc x i b ρ σ1)) (fun J J J J J=>fun J=>none) (fun c b z J=>gd z.isEmpty (Bm P n t sc c b ρ σ)) (fun c a b J=>az (vr P n t sc c ρ σ) fun c σ1=>cd c (t.exs sc a ρ σ1) (t.exs sc b ρ σ1)) (fun J J J=>fun J=>none) (fun J J J=>fun J=>none) (fun J J J=>fun J=>none) (fun J J J=>fun J=>none) (fun J J J J J=>fun J=>none) (fun J J J J J=>fun J=>none) (fun J J J=>fun J=>none) (fun J J=>fun J=>none) (fun J J J J=>fun J=>none) (fun J J=>fun J=>none) (fun J J=>fun J=>none) (fun e J=>az (gd (!su e) (t.ev sc e ρ σ)) fun J σ1=>li (some (.next,ρ,σ1))) (fun J=>li (some (.next,ρ,σ))) (fun J=>fun J=>none) (fun J=>fun J=>none)
noncomputable def Sm(sc:Scope) (ss:List Stmt) (ρ:Loc) (σ:Sto):TM (Fl×Loc×Sto):=az (tTh P ss ρ σ) fun ρ σ=>match ss with
  | []=>li (some (.next,ρ,σ))
  | s::ss=>ow (t.ex sc s ρ σ) fun f ρ1 σ1=>cd (yk f) (t.exs sc ss ρ1 σ1) (li (some (f,ρ1,σ1)))
noncomputable def xk(f:Nat) (args:List V) (σ:Sto):TM (V×Sto):=bd (li (P.fn f)) fun fd=>bd (li (og fd.names args fd.dflts)) fun ρ=>ow (t.exs fd.scope fd.body ρ σ) fun fl J σ1=>bd (li (yg fl)) fun v=>li (some (v,σ1))
noncomputable def Et(f:Nat) (args:List V) (σ:Sto):TM (V×Sto):=match iz P n f args σ with
  | some v=>bd (li (P.fn f)) fun J=>li (some (v,σ))
  | none=>xk P t f args σ
noncomputable def R9(C:Nat) (args:List V) (σ:Sto):TM (V×Sto):=bd (li (P.cls C)) fun c=>
  az (xl P n t c.init (.ref σ.next::args) (push σ (.obj C [] []))) fun v σ1=>bd (li (isNone v)) fun b=>gd b (li (some (.ref σ.next,σ1)))
noncomputable def Sq(sc:Scope) (c:Expr) (b:List Stmt) (ρ:Loc) (σ:Sto):TM (Fl×Loc×Sto):=az (vr P n t sc c ρ σ) fun c' σ1=>
  cd c' (ow (t.exs sc b ρ σ1) fun f ρ2 σ2=>cd (Bd f) (Bm P n t sc c b ρ2 σ2) (li (some (A2 f,ρ2,σ2)))) (li (some (.next,ρ,σ1)))
noncomputable def Sr(sc:Scope) (x:Expr) (it:It) (b:List Stmt) (ρ:Loc) (σ:Sto):TM (Fl×Loc×Sto):=bd (Hk σ it) fun i=>match i with
  | none=>li (some (.next,ρ,σ))
  | some p=>az (t.asg sc x p.1 ρ σ) fun ρ1 σ1=>ow (t.exs sc b ρ1 σ1) fun f ρ2 σ2=>cd (Bd f) (Br P n t sc x p.2 b ρ2 σ2) (li (some (A2 f,ρ2,σ2)))
noncomputable def yi(sc:Scope) (ifs:List Expr) (ρ:Loc) (σ:Sto):TM (Bool×Sto):=cd ifs.isEmpty (li (some (true,σ))) (t.trs sc .And ifs ρ σ)
noncomputable def R7(sc:Scope) (x:Expr) (ifs:List Expr) (gs:List Comprehension) (elt:Expr) (it:It) (ρ:Loc) (σ:Sto) (acc:List V):TM (List V×Loc×Sto):=bd (Hk σ it) fun i=>match i with
  | none=>li (some (acc,ρ,σ))
  | some p=>az (t.asg sc x p.1 ρ σ) fun ρ1 σ1=>az (yi t sc ifs ρ1 σ1) fun c σ2=>
    cd c (match gs with
      | []=>az (t.ev sc elt ρ1 σ2) fun y σ3=>gd (sz acc) (v4 P n t sc x ifs gs elt p.2 ρ1 σ3 (acc++[y]))
      | g::gs'=>az (gd (decide (g.is_async=0)) (v0 P t sc g.iter ρ1 σ2)) fun it2 σ3=>ow (v4 P n t sc g.target g.ifs gs' elt it2 ρ1 σ3 acc) fun acc' ρ2 σ4=>v4 P n t sc x ifs gs elt p.2 ρ2 σ4 acc')
      (v4 P n t sc x ifs gs elt p.2 ρ1 σ2 acc)
end
noncomputable def zn6(P:PD) (n:Nat) (t:FnsT):FnsT where
  ev:=tEv P n t
  evs:=Sj t
  tr:=tTr t
  bos:=zal t
  trs:=Td t
  asg:=zam P n t
  ass:=zae t
  ex:=tEx P n t
  exs:=Sm P t
  call:=Et P n t
  new:=R9 P n t
  wh:=Sq P n t
  fo:=Sr P n t
  co:=R7 P n t
noncomputable def zsq:FnsT:=⟨fun J J J J J=>none,fun J J J J J=>none,fun J J J J J=>none,fun J J J J J J=>none,fun J J J J J J=>none,fun J J J J J J=>none,fun J J J J J J=>none,fun J J J J J=>none,fun J J J J J=>none,
   fun J J J J=>none,fun J J J J=>none,fun J J J J J J=>none,fun J J J J J J J=>none,fun J J J J J J J J J J=>none⟩
noncomputable def kg(P:PD):Nat→FnsT
  | 0=>zsq
  | n+1=>zn6 P n (kg P n)
structure TOk (r:Fns) (t:FnsT):Prop where
  ev:∀sc e ρ σ,Tk (t.ev sc e ρ σ) (r.ev sc e ρ σ)
  evs:∀sc e ρ σ,Tk (t.evs sc e ρ σ) (r.evs sc e ρ σ)
  tr:∀sc e ρ σ,Tk (t.tr sc e ρ σ) (r.tr sc e ρ σ)
  bos:∀sc o e ρ σ,Tk (t.bos sc o e ρ σ) (r.bos sc o e ρ σ)
  trs:∀sc o e ρ σ,Tk (t.trs sc o e ρ σ) (r.trs sc o e ρ σ)
  asg:∀sc e v ρ σ,Tk (t.asg sc e v ρ σ) (r.asg sc e v ρ σ)
  ass:∀sc e v ρ σ,Tk (t.ass sc e v ρ σ) (r.ass sc e v ρ σ)
  ex:∀sc e ρ σ,Tk (t.ex sc e ρ σ) (r.ex sc e ρ σ)
  exs:∀sc e ρ σ,Tk (t.exs sc e ρ σ) (r.exs sc e ρ σ)
  call:∀f a σ,Tk (t.call f a σ) (r.call f a σ)
  new:∀f a σ,Tk (t.new f a σ) (r.new f a σ)
  wh:∀sc e b ρ σ,Tk (t.wh sc e b ρ σ) (r.wh sc e b ρ σ)
  fo:∀sc e i b ρ σ,Tk (t.fo sc e i b ρ σ) (r.fo sc e i b ρ σ)
  co:∀sc x ifs gs elt i ρ σ acc,Tk (t.co sc x ifs gs elt i ρ σ acc) (r.co sc x ifs gs elt i ρ σ acc)
end
section
section
variable {P:PD}{n:Nat}{t:FnsT}{sc csc:Scope}{ρ:Loc}{σ:Sto}
theorem Cu(T:TOk (run P n) t) (f:Nat) (a:List V) (σ:Sto):Tk (xl P n t f a σ) ((run P n).call f a σ):=
  Tk.hk (fun x hk h=>h n (T7 (Uh.mp hk).2)) (Tk.hk (fun x hk h=>h n σ (T7 (Uh.mp hk).2)) (Tk.hk (fun x J h=>h) (T.call f a σ)))
theorem My(T:TOk (run P n) t) {x:Expr}{it:It}{b:List Stmt}:Tk (Br P n t sc x it b ρ σ) ((run P n).fo sc x it b ρ σ):=Tk.hy (fun J h=>h) (T.fo ..)
theorem M2(T:TOk (run P n) t) {x:Expr}{b:List Stmt}:Tk (Bm P n t sc x b ρ σ) ((run P n).wh sc x b ρ σ):=Tk.hy (fun J h=>h) (T.wh ..)
theorem xd(T:TOk (run P n) t) {x elt:Expr}{ifs:List Expr}{gs:List Comprehension}{it:It}{acc:List V}:Tk (v4 P n t sc x ifs gs elt it ρ σ acc) ((run P n).co sc x ifs gs elt it ρ σ acc):=Tk.hy (fun J h=>h) (T.co ..)
theorem zpf{o:V}:Tk (tOb σ o) (some (fg σ o)):=Tk.hy (fun J h=>congrArg some h) (Tk.hy (fun J h=>congrArg some h) Tk.li)
theorem zpp{o:V}:Tk (tO3 σ o) (fg σ o):=Tk.hy (fun J h=>h) Tk.li
theorem zo5{o:V}:Tk (tAL σ o) (bj σ o):=Tk.hy (fun J h=>h) Tk.li
theorem Qu{k:Nat}:Tk (yv σ k) (ab σ k):=Tk.hy (fun J h=>h) Tk.li
theorem zqt{v i:V}{o:MObj}:Tk (Hw v i o) (yl v i o):=Tk.hy (fun J h=>h) Tk.li
theorem Qa{it:It}:Tk (Hk σ it) (gq σ it):=Tk.hy (fun J h=>h) (Tk.hy (fun J h=>h) Tk.li)
theorem Ot{b:Bool}:Tk (tBo b) (some b):=Tk.hy (fun J h=>congrArg some h) Tk.li
theorem zps{o:V}:Tk (Hs σ o) (some (my σ o)):=Tk.hy (fun J h=>congrArg some h) Tk.li
theorem zq3{ss:List Stmt}:Tk (tTh P ss ρ σ) (some (ic P ss ρ σ)):=Tk.hy (fun J h=>congrArg some h) Tk.li
theorem zjh{op:Operator}{a b:V}:Tk (Gm σ op a b) (ff σ op a b):=Tk.hy (fun J h=>h) (Tk.hy (fun J h=>h σ) Tk.li)
theorem zqf{op:CmpOp}{a b:V}:Tk (tVc σ op a b) (bo σ op a b):=Tk.hy (fun J h=>h) (Tk.hy (fun J h=>h σ) Tk.li)
theorem zi8{a b:V}:Tk (Ql σ a b) (di σ a b):=Tk.hy (fun J h=>h) (Tk.hy (fun J h=>h σ) Tk.li)
theorem zpt{a:V}:Tk (tIo σ a) (f9 σ a):=Tk.hy (fun J h=>h) (Tk.hy (fun J h=>h σ) Tk.li)
theorem zkm{u:Value}{xs:List V}:Tk (Sb σ u xs) (blt σ u xs):=Tk.hy (fun J h=>h) (Tk.hy (fun J h=>h σ) Tk.li)
theorem zqe{o:V}{m:Str}{xs:List V}:Tk (Hi σ o m xs) (jg σ o m xs):=Tk.hy (fun J h=>h) Tk.li
theorem Fe{m:TM (Bool×Sto)}{r:Option (Bool×Sto)}(h:Tk m r):Tk (yr m) r:=
  (bw h fun c σ1=>Tk.bd (Ot (b:=c)) fun b=>Tk.li (r:=some (b,σ1))).cast (by cases r <;> rfl)
theorem Fh(T:TOk (run P n) t) (sc:Scope) (e:Expr) (ρ:Loc) (σ:Sto):Tk (vr P n t sc e ρ σ) ((run P n).tr sc e ρ σ):=Fe (Tk.hy (fun J h=>h) (T.tr ..))
theorem zjd{x:Str}:Tk (Qe P n sc ρ σ x) (u9 P n (run P n) sc ρ σ x):=Tk.hk (fun a g h=>by
  obtain ⟨k,hk,ho⟩:=zm5 g
  unfold u9;rw [hk,h];exact if_pos ho) Tk.li
theorem Fq(T:TOk (run P n) t) {e:Expr}:Tk (v0 P t sc e ρ σ) (gm P (run P n) sc e ρ σ):=by
  unfold v0 gm
  rcases pi P sc e with _ | ⟨x,y⟩
  · exact bw (T.ev ..) fun v σ1=>dg zpt fun i=>Tk.li
  · exact bw (T.ev ..) fun a σ1=>bw (T.ev ..) fun b σ2=>dg Tk.li fun it=>Tk.li
theorem zlw(T:TOk (run P n) t) {ov:V}{m:Str}{args:List Expr}{σ1:Sto}{x:Option (Nat×List Str×List V)}:Tk (match x with
    | some (C,ks,vs)=>bd (li (w8 P C m ks vs)) fun f=>az (t.evs sc args ρ σ1) fun xs σ2=>xl P n t f (ov::xs) σ2
    | none=>bd (Hs σ1 ov) fun b=>az (gd b (t.evs sc args ρ σ1)) fun xs σ2=>Hi σ2 ov m xs) (match x with
    | some (C,ks,vs)=>ob (w8 P C m ks vs) fun f=>ao ((run P n).evs sc args ρ σ1) fun xs σ2=>(run P n).call f (ov::xs) σ2
    | none=>ao (if my σ1 ov then (run P n).evs sc args ρ σ1 else none) fun xs σ2=>jg σ2 ov m xs):=by
  rcases x with _ | ⟨C,ks,vs⟩
  · exact dg (k':=fun b=>ao (if b=true then (run P n).evs sc args ρ σ1 else none) fun xs σ2=>jg σ2 ov m xs) zps fun b=>bw (jm (T.evs ..)) fun xs σ2=>zqe
  · exact dg Tk.li fun f=>bw (T.evs ..) fun xs σ2=>Cu T ..
theorem zp2(T:TOk (run P n) t) {o:Expr}{m:Str}{apos pos:Pos}{args:List Expr}{kws:List Keyword}:Tk (tMC P n t sc ρ σ o m apos args kws pos) (Gn P n (run P n) sc ρ σ o m apos args kws pos):=
  bw (jm (T.ev ..)) fun ov σ1=>(dg zpf fun x=>zlw T:Tk _ (ob (some (fg σ1 ov)) _))
theorem zok(T:TOk (run P n) t) {fv:Value}{xs:List V}{σ2:Sto}:Tk (Ht P n t fv xs σ2) (rg P (run P n) fv xs σ2):=by
  unfold Ht rg
  rcases la fv with _ | a
  · exact zkm
  · dsimp only
    rcases P.cls a with _ | c
    · exact Cu T ..
    · exact T.new ..
theorem zq5(T:TOk (run P n) t) {fn:Str}{fp:Pos}{args:List Expr}{kws:List Keyword}:Tk (tCN P n t sc ρ σ fn fp args kws) (G8 P n (run P n) sc ρ σ fn fp args kws):=
  bw (jm (T.ev ..)) fun u σ1=>dg Tk.li fun fv=>by
    cases kws
    · exact bw (T.evs ..) fun xs σ2=>zok T
    · exact Tk.li
theorem zoi(T:TOk (run P n) t) {o:Expr}{m:Str}:Tk (tAt P t sc ρ σ o m) (G5 P n (run P n) sc ρ σ o m):=
  bw (jm (T.ev ..)) fun ov σ1=>ud zpp fun C ks vs=>dg Tk.li fun v=>Tk.li
theorem zna(T:TOk (run P n) t) {elt:Expr}{gens:List Comprehension}:Tk (Sp P n t sc ρ σ elt gens csc) (G6 P n (run P n) sc ρ σ elt gens csc):=by
  cases gens
  · exact Tk.no
  · exact jm (bw (jm (Fq T)) fun it σ1=>ud (xd T) fun xs J σ2=>Tk.li)
theorem zid(T:TOk (run P n) t) {elt:Expr}{gens:List Comprehension}{pos:Pos}:Tk (P9 P n t sc ρ σ elt gens csc pos) (G6 P n (run P n) sc ρ σ elt gens csc):=Tk.hy (fun J h=>h) (zna T)
theorem zk4(T:TOk (run P n) t) {a:Expr}{ops:List CmpOp}{bs:List Expr}:Tk (zaa t sc ρ σ a ops bs) (P1 P n (run P n) sc ρ σ a ops bs):=
  dg Tk.li fun op=>dg Tk.li fun b=>bw (T.ev ..) fun x σ1=>bw (T.ev ..) fun y σ2=>dg zqf fun c=>Tk.li
theorem znt(T:TOk (run P n) t) {f:Expr}{args:List Expr}{kws:List Keyword}{pos:Pos}:Tk (tCl P n t sc ρ σ f args kws pos) (N0 P n (run P n) sc ρ σ f args kws pos):=by
  cases f with
  | Attribute=>exact zp2 T
  | Name=>exact zq5 T
  | _=>exact Tk.no
theorem zkn(T:TOk (run P n) t) {o i:Expr}:Tk (Gj t sc ρ σ o i) (t6 P n (run P n) sc ρ σ o i):=by
  unfold Gj t6
  rcases qy i with _ | ⟨lo,u,st⟩
  · exact bw (T.ev ..) fun x σ1=>bw (T.ev ..) fun y σ2=>dg zi8 fun c=>Tk.li
  · exact dg Tk.li fun b=>bw (T.ev ..) fun ov σ1=>dg zo5 fun xs=>(dg Ot fun c=>jm Tk.li:Tk _ (ob (some (sz xs)) fun c=>if c=true then some (gi σ1 (.lst (if b then xs.reverse else (xs.drop 1).reverse))) else none))
theorem zoc(T:TOk (run P n) t) (sc:Scope) (e:Expr) (ρ:Loc) (σ:Sto):Tk (tEv P n t sc e ρ σ) (ev2 P n (run P n) sc ρ σ e):=by
  cases e with
  | Name=>exact zjd
  | BoolOp op vs=>exact (show Tk (az (t.bos sc op vs ρ σ) fun b σ1=>li (some (V.bool b,σ1))) (N3 P n (run P n) sc ρ σ op vs) from bw (T.bos ..) fun b σ1=>Tk.li)
  | BinOp a op b=>exact (show Tk (az (t.ev sc a ρ σ) fun x σ1=>az (t.ev sc b ρ σ1) fun y σ2=>Gm σ2 op x y) (Pp P n (run P n) sc ρ σ a op b) from bw (T.ev ..) fun x σ1=>bw (T.ev ..) fun y σ2=>zjh)
  | UnaryOp op x=>exact (show Tk (az (t.ev sc x ρ σ) fun v σ1=>bd (li (Hq op v)) fun u=>li (some (u,σ1))) (F9 P n (run P n) sc ρ σ op x) from bw (T.ev ..) fun v σ1=>dg Tk.li fun u=>Tk.li)
  | IfExp c a b pos=>exact (show Tk (Mine.hk 20 dw (fun x=>(x.v,x.s)) (fun x=>(run P (n+1)).ev sc (.IfExp c a b pos) ρ σ=some (x.v,x.s)) (az (vr P n t sc c ρ σ) fun c σ1=>cd c (t.ev sc a ρ σ1) (t.ev sc b ρ σ1))) (Qr P n (run P n) sc ρ σ c a b) from Tk.hy (fun J h=>h) (bw (Fh T ..) fun c σ1=>y0 (T.ev ..) (T.ev ..)))
  | List es=>exact (show Tk (az (t.evs sc es ρ σ) fun xs σ1=>li (pe σ1 xs)) (Nl P n (run P n) sc ρ σ es) from bw (T.evs ..) fun xs σ1=>Tk.li)
  | Tuple es=>exact (show Tk (az (t.evs sc es ρ σ) fun xs σ1=>gd (sz xs) (li (some (V.tup xs,σ1)))) (Lr P n (run P n) sc ρ σ es) from bw (T.evs ..) fun xs σ1=>jm Tk.li)
  | ListComp=>exact zid T
  | Compare=>exact zk4 T
  | Call=>exact znt T
  | Attribute=>exact zoi T
  | Subscript=>exact zkn T
  | Constant c=>exact Tk.li (r:=wr P n (run P n) sc ρ σ c)
  | Dict ks vs=>exact (show Tk (bd (li (mz ks)) fun kl=>az (t.evs sc vs ρ σ) fun xs σ1=>gd (T8 kl.length xs.length&&(U8 kl.length 15&&nu kl)) (li (some (gi σ1 (.dct kl xs))))) (Nk P n (run P n) sc ρ σ ks vs) from dg Tk.li fun kl=>bw (T.evs ..) fun xs σ1=>jm Tk.li)
  | _=>exact Tk.no
theorem zlo(T:TOk (run P n) t) (sc:Scope) (es:List Expr) (ρ:Loc) (σ:Sto):Tk (Sj t sc es ρ σ) (Sy P n (run P n) sc es ρ σ):=match es with
  | []=>Tk.li (r:=some ([],σ))
  | e::es=>show Tk (az (t.ev sc e ρ σ) fun x σ1=>az (t.evs sc es ρ σ1) fun y σ2=>li (some (x::y,σ2))) (ao ((run P n).ev sc e ρ σ) fun v σ1=>ao ((run P n).evs sc es ρ σ1) fun vs σ2=>some (v::vs,σ2)) from bw (T.ev ..) fun x σ1=>bw (T.evs ..) fun y σ2=>Tk.li
theorem Ha(T:TOk (run P n) t) {e:Expr}:Tk (tB t sc e ρ σ) (dd (run P n) sc e ρ σ):=bw (T.ev ..) fun v σ1=>dg Tk.li fun b=>Tk.li
theorem znq(T:TOk (run P n) t) (sc:Scope) (e:Expr) (ρ:Loc) (σ:Sto):Tk (tTr t sc e ρ σ) (tr2 P n (run P n) sc e ρ σ):=Fe (by
  cases e with
  | UnaryOp op x p=>
    cases op with
    | Not=>exact (show Tk (az (t.tr sc x ρ σ) fun b σ1=>li (some (!b,σ1))) (ao ((run P n).tr sc x ρ σ) fun b σ1=>some (!b,σ1)) from bw (T.tr ..) fun b σ1=>Tk.li)
    | _=>exact Ha T
  | BoolOp=>exact T.trs ..
  | IfExp c a b=>exact (show Tk (az (t.tr sc c ρ σ) fun c σ1=>cd c (t.tr sc a ρ σ1) (t.tr sc b ρ σ1)) (ao ((run P n).tr sc c ρ σ) fun c σ1=>cond c ((run P n).tr sc a ρ σ1) ((run P n).tr sc b ρ σ1)) from bw (T.tr ..) fun c σ1=>y0 (T.tr ..) (T.tr ..))
  | _=>exact Ha T)
theorem zk7(T:TOk (run P n) t) (sc:Scope) (op:BoolOp) (es:List Expr) (ρ:Loc) (σ:Sto):Tk (zal t sc op es ρ σ) (zap P n (run P n) sc op es ρ σ):=match es with
  | []=>Tk.no
  | e::es=>show Tk (az (yr (tB t sc e ρ σ)) fun b σ1=>cd (es.isEmpty||jw op b) (li (some (b,σ1))) (t.bos sc op es ρ σ1)) (ao (dd (run P n) sc e ρ σ) fun b σ1=>if (es.isEmpty||jw op b)=true then some (b,σ1) else (run P n).bos sc op es ρ σ1) from bw (Fe (Ha T)) fun b σ1=>vw Tk.li (T.bos ..)
theorem zmg(T:TOk (run P n) t) (sc:Scope) (op:BoolOp) (es:List Expr) (ρ:Loc) (σ:Sto):Tk (Td t sc op es ρ σ) (zak P n (run P n) sc op es ρ σ):=match es with
  | []=>Tk.no
  | e::es=>show Tk (az (t.tr sc e ρ σ) fun b σ1=>cd (es.isEmpty||jw op b) (li (some (b,σ1))) (t.trs sc op es ρ σ1)) (ao ((run P n).tr sc e ρ σ) fun b σ1=>if (es.isEmpty||jw op b)=true then some (b,σ1) else (run P n).trs sc op es ρ σ1) from bw (T.tr ..) fun b σ1=>vw Tk.li (T.trs ..)
theorem zkk(T:TOk (run P n) t) (sc:Scope) (x:Expr) (v:V) (ρ:Loc) (σ:Sto):Tk (zam P n t sc x v ρ σ) (Tf P n (run P n) sc ρ σ x v):=by
  cases x with
  | Name x=>exact Tk.li (r:=Er P n (run P n) sc ρ σ v x)
  | Tuple ts=>exact (show Tk (bd (li (f6 v)) fun xs=>gd (T8 ts.length xs.length) (t.ass sc ts xs ρ σ)) (Fd P n (run P n) sc ρ σ v ts) from dg Tk.li fun xs=>jm (T.ass ..))
  | Attribute o m=>exact (show Tk (az (t.ev sc o ρ σ) fun ov σ1=>bd (li (qf ov)) fun k=>bd (yv σ1 k) fun o=>bd (li (A1 P m v o)) fun o'=>li (some (ρ,ah σ1 k o'))) (Em P n (run P n) sc ρ σ v o m) from bw (T.ev ..) fun ov σ1=>dg Tk.li fun k=>dg Qu fun o=>dg Tk.li fun o'=>Tk.li)
  | Subscript o i=>exact (show Tk (az (t.ev sc o ρ σ) fun ov σ1=>bd (li (qf ov)) fun k=>az (t.ev sc i ρ σ1) fun iv σ2=>bd (yv σ2 k) fun o=>bd (Hw v iv o) fun o'=>li (some (ρ,ah σ2 k o'))) (F1 P n (run P n) sc ρ σ v o i) from bw (T.ev ..) fun ov σ1=>dg Tk.li fun k=>bw (T.ev ..) fun iv σ2=>dg Qu fun o=>dg zqt fun o'=>Tk.li)
  | _=>exact Tk.no
theorem zle(T:TOk (run P n) t) (sc:Scope) (ts:List Expr) (vs:List V) (ρ:Loc) (σ:Sto):Tk (zae t sc ts vs ρ σ) (zab P n (run P n) sc ts vs ρ σ):=match ts,vs with
  | [],vs=>show Tk (gd vs.isEmpty (li (some (ρ,σ)))) (if vs.isEmpty=true then some (ρ,σ) else none) from jm Tk.li
  | _::_,[]=>Tk.no
  | a::ts,v::vs=>show Tk (az (t.asg sc a v ρ σ) fun ρ1 σ1=>t.ass sc ts vs ρ1 σ1) (ao ((run P n).asg sc a v ρ σ) fun ρ1 σ1=>(run P n).ass sc ts vs ρ1 σ1) from bw (T.asg ..) fun ρ1 σ1=>T.ass ..
theorem zou(T:TOk (run P n) t) (sc:Scope) (st:Stmt) (ρ:Loc) (σ:Sto):Tk (tEx P n t sc st ρ σ) (ex2 P n (run P n) sc ρ σ st):=by
  cases st with
  | Expr e=>exact (show Tk (az (gd (!su e) (t.ev sc e ρ σ)) fun J σ1=>li (some (Fl.next,ρ,σ1))) (Ny P n (run P n) sc ρ σ e) from bw (kgn (T.ev ..)) fun v σ1=>Tk.li)
  | Return e=>exact (show Tk (bd (li e) fun e=>az (t.ev sc e ρ σ) fun v σ1=>li (some (Fl.ret v,ρ,σ1))) (ob e fun e=>Ov P n (run P n) sc ρ σ e) from dg Tk.li fun e=>bw (T.ev ..) fun v σ1=>Tk.li)
  | Assign ts e=>exact (show Tk (bd (li (one ts)) fun x=>tA1 t sc x e ρ σ) (ob (one ts) fun t=>zad P n (run P n) sc ρ σ t e) from dg Tk.li fun x=>bw (kgn (T.ev ..)) fun v σ1=>bw (T.asg ..) fun ρ1 σ2=>Tk.li)
  | If c a b=>exact (show Tk (az (vr P n t sc c ρ σ) fun c σ1=>cd c (t.exs sc a ρ σ1) (t.exs sc b ρ σ1)) (zao P n (run P n) sc ρ σ c a b) from bw (Fh T ..) fun c σ1=>y0 (T.exs ..) (T.exs ..))
  | While c b z=>exact (show Tk (gd z.isEmpty (Bm P n t sc c b ρ σ)) (if z.isEmpty=true then (run P n).wh sc c b ρ σ else none) from jm (M2 T))
  | For x it b z=>exact (show Tk (gd z.isEmpty (az (v0 P t sc it ρ σ) fun i σ1=>Br P n t sc x i b ρ σ1)) (if z.isEmpty=true then Rc P n (run P n) sc ρ σ x it b else none) from jm (bw (Fq T) fun i σ1=>My T))
  | Pass=>exact Tk.li (r:=some (Fl.next,ρ,σ))
  | _=>exact Tk.no
theorem zkg(T:TOk (run P n) t) (sc:Scope) (ss:List Stmt) (ρ:Loc) (σ:Sto):Tk (Sm P t sc ss ρ σ) (Bh P n (run P n) sc ss ρ σ):=by
  refine Tk.cast (r:=ao (some (ic P ss ρ σ)) fun ρ σ=>match ss with
    | []=>some (Fl.next,ρ,σ)
    | s::ss=>jy ((run P n).ex sc s ρ σ) fun f ρ1 σ1=>if yk f=true then (run P n).exs sc ss ρ1 σ1 else some (f,ρ1,σ1)) (bw zq3 fun ρ σ=>?_) rfl
  rcases ss with _ | ⟨s,ss⟩
  · exact Tk.li (r:=some (Fl.next,ρ,σ))
  · exact ud (T.ex sc s ρ σ) fun f ρ1 σ1=>vw (T.exs sc ss ρ1 σ1) Tk.li
theorem D3(T:TOk (run P n) t) {f:Nat}{args:List V}(hc:iz P n f args σ=none):Tk (xk P t f args σ) (xi P n (run P n) f args σ):=by
  unfold xi;rw [hc]
  exact dg Tk.li fun fd=>dg Tk.li fun ρ=>ud (T.exs ..) fun fl J σ1=>dg Tk.li fun v=>Tk.li
theorem zh0(T:TOk (run P n) t) (f:Nat) (args:List V) (σ:Sto):Tk (Et P n t f args σ) (xi P n (run P n) f args σ):=by
  unfold Et
  cases hc:iz P n f args σ with
  | none=>exact D3 T hc
  | some v=>unfold xi;rw [hc];exact dg Tk.li fun fd=>Tk.li
theorem zkc(T:TOk (run P n) t) (C:Nat) (args:List V) (σ:Sto):Tk (R9 P n t C args σ) (R3 P n (run P n) C args σ):=
  dg Tk.li fun c=>bw (Cu T ..) fun v σ1=>dg Tk.li fun b=>jm Tk.li
theorem zp1(T:TOk (run P n) t) (sc:Scope) (c:Expr) (b:List Stmt) (ρ:Loc) (σ:Sto):Tk (Sq P n t sc c b ρ σ) (wh2 P n (run P n) sc c b ρ σ):=
  bw (Fh T ..) fun c' σ1=>y0 (ud (T.exs ..) fun f ρ2 σ2=>vw (M2 T) Tk.li) Tk.li
theorem znw(T:TOk (run P n) t) (sc:Scope) (x:Expr) (it:It) (b:List Stmt) (ρ:Loc) (σ:Sto):Tk (Sr P n t sc x it b ρ σ) (fo2 P n (run P n) sc x it b ρ σ):=
  dg Qa fun i=>match i with
    | none=>Tk.li (r:=some (Fl.next,ρ,σ))
    | some p=>bw (T.asg ..) fun ρ1 σ1=>ud (T.exs ..) fun f ρ2 σ2=>vw (My T) Tk.li
theorem Nr(T:TOk (run P n) t) {ifs:List Expr}:Tk (yi t sc ifs ρ σ) (yd (run P n) sc ifs ρ σ):=vw Tk.li (T.trs ..)
theorem zqv(T:TOk (run P n) t) (sc:Scope) (x:Expr) (ifs:List Expr) (gs:List Comprehension) (elt:Expr) (it:It) (ρ:Loc) (σ:Sto) (acc:List V) :
    Tk (R7 P n t sc x ifs gs elt it ρ σ acc) (co2 P n (run P n) sc x ifs gs elt it ρ σ acc):=
  dg Qa fun i=>match i with
    | none=>Tk.li (r:=some (acc,ρ,σ))
    | some p=>bw (T.asg ..) fun ρ1 σ1=>bw (Nr T) fun c σ2=>y0 (match gs with
      | []=>bw (T.ev ..) fun y σ3=>jm (xd T)
      | g::gs=>bw (jm (Fq T)) fun it2 σ3=>ud (xd T) fun acc' ρ2 σ4=>xd T) (xd T)
theorem p9(P:PD):∀n,TOk (run P n) (kg P n)
  | 0=>⟨fun J J J J=>Tk.no,fun J J J J=>Tk.no,fun J J J J=>Tk.no,fun J J J J J=>Tk.no,fun J J J J J=>Tk.no,fun J J J J J=>Tk.no,fun J J J J J=>Tk.no,fun J J J J=>Tk.no,fun J J J J=>Tk.no,
    fun J J J=>Tk.no,fun J J J=>Tk.no,fun J J J J J=>Tk.no,fun J J J J J J=>Tk.no,fun J J J J J J J J J=>Tk.no⟩
  | n+1=>have T:=p9 P n;⟨zoc T,zlo T,znq T,zk7 T,zmg T,zkk T,zle T,zou T,zkg T,zh0 T,zkc T,zp1 T,znw T,zqv T⟩
end
end
section
section
variable {P:PD}{n k f:Nat}{args:List V}{v:V}{σ σ':Sto}{ρ ρ':Loc}{ss:List Stmt}{q:Fl×Loc×Sto}{sc:Scope}{x elt:Expr}{it:It}{b:List Stmt}
noncomputable def A0:Ans:=⟨0,0,.none,⟨0,[]⟩,[],.next,false,.items [],[],[],.lst [],0⟩
noncomputable def df(h:∀N,k≤N→(run P N).call f args σ=some (v,σ')):Item:=⟨{ A0 with tag:=0,k:=k,f:=f,v:=v,s:=σ' },_,h⟩
noncomputable def ap(h:∀N σ,k≤N→(run P N).call f args σ=some (v,σ)):Item:=⟨{ A0 with tag:=1,k:=k,f:=f,v:=v },_,h⟩
noncomputable def iu(h:(run P n).call f args σ=some (v,σ')):Item:=⟨{ A0 with tag:=2,f:=f,v:=v,s:=σ' },_,h⟩
noncomputable def ag{x:Str}(h:ae x ρ=some v):Item:=⟨{ A0 with tag:=3,v:=v },_,h⟩
noncomputable def mf{op:Operator}{a b:V}(h:ff σ op a b=some (v,σ')):Item:=⟨{ A0 with tag:=4,v:=v,s:=σ' },_,h⟩
noncomputable def ki{f:Value}(h:blt σ f args=some (v,σ')):Item:=⟨{ A0 with tag:=5,v:=v,s:=σ' },_,h⟩
noncomputable def sy{o:V}{m:Str}(h:jg σ o m args=some (v,σ')):Item:=⟨{ A0 with tag:=6,v:=v,s:=σ' },_,h⟩
noncomputable def fw{op:CmpOp}{a b:V}{c:Bool}(h:bo σ op a b=some c):Item:=⟨{ A0 with tag:=7,b:=c },_,h⟩
noncomputable def f7{a b:V}(h:di σ a b=some v):Item:=⟨{ A0 with tag:=8,v:=v },_,h⟩
noncomputable def yy{a:V}(h:f9 σ a=some it):Item:=⟨{ A0 with tag:=9,it:=it },_,h⟩
noncomputable def oz{fl:Fl}(h:(run P n).fo sc x it b ρ σ=some (fl,ρ',σ')):Item:=⟨{ A0 with tag:=10,fl:=fl,ρ:=ρ',s:=σ' },_,h⟩
noncomputable def ie{o:V}{C:Nat}{ks:List Str}{vs:List V}(h:fg σ o=some (C,ks,vs)):Item:=⟨{ A0 with tag:=14,k:=C,ks:=ks,xs:=vs },_,h⟩
noncomputable def tc{o:V}(h:fg σ o=none):Item:=⟨{ A0 with tag:=15 },_,h⟩
noncomputable def ta{o:V}(h:my σ o=true):Item:=⟨{ A0 with tag:=16 },_,h⟩
noncomputable def vy(h:ic P ss ρ σ=(ρ',σ')):Item:=⟨{ A0 with tag:=17,ρ:=ρ',s:=σ' },_,h⟩
noncomputable def bh{f:Value}(h:∀σ,blt σ f args=some (v,σ)):Item:=⟨{ A0 with tag:=21,v:=v },_,h⟩
noncomputable def aq{op:CmpOp}{a b:V}{c:Bool}(h:∀σ,bo σ op a b=some c):Item:=⟨{ A0 with tag:=22,b:=c },_,h⟩
noncomputable def ey{a b:V}(h:∀σ,di σ a b=some v):Item:=⟨{ A0 with tag:=23,v:=v },_,h⟩
noncomputable def v3{a:V}(h:∀σ,f9 σ a=some it):Item:=⟨{ A0 with tag:=24,it:=it },_,h⟩
noncomputable def lh{op:Operator}{a b:V}(h:∀σ,ff σ op a b=some (v,σ)):Item:=⟨{ A0 with tag:=25,v:=v },_,h⟩
noncomputable def gn{m:Nat}{o:MObj}(h:ab σ m=some o):Item:=⟨{ A0 with tag:=26,o:=o },_,h⟩
noncomputable def tne(h:gq σ it=some none):Item:=⟨{ A0 with tag:=30 },_,h⟩
noncomputable def gy{c d:Bool}(h:c=d):Item:=⟨{ A0 with tag:=18,b:=d },_,h⟩
noncomputable def ix{c:Bool}(h:(run P n).tr sc x ρ σ=some (c,σ')):Item:=⟨{ A0 with tag:=19,b:=c,s:=σ' },_,h⟩
noncomputable def cw(h:(run P n).ev sc x ρ σ=some (v,σ')):Item:=⟨{ A0 with tag:=20,v:=v,s:=σ' },_,h⟩
theorem iw(T:List Item) (e:(kg P n).exs sc ss ρ σ ⟨T,True⟩=some (q,⟨[],kb True T⟩)):(run P n).exs sc ss ρ σ=some q:=((p9 P n).exs ..).run T e
end
end
section
section
variable {P:PD}{n k f:Nat}{args:List V}{v:V}{σ σ':Sto}{ρ ρ':Loc}{ss:List Stmt}{q:Fl×Loc×Sto}{sc:Scope}{x e:Expr}{es:List Expr}{it:It}{b:List Stmt}{fl:Fl}
theorem ce(hc:iz P n f args σ=none) (T:List Item) (e:xk P (kg P n) f args σ ⟨T,True⟩=some ((v,σ'),⟨[],kb True T⟩)):(run P (n+1)).call f args σ=some (v,σ'):=(D3 (p9 P n) hc).run T e
def zoq (r:Option ((V×Sto)×Tp)):Option (V×Tp):=match r with | some (q,t)=>some (q.1,t) | none=>none
theorem eh(hc:iz P n f args σ=none) (T:List Item) (e:zoq (xk P (kg P n) f args σ ⟨T,True⟩)=some (v,⟨[],kb True T⟩)):∃σ',(run P (n+1)).call f args σ=some (v,σ'):=by
  cases h:xk P (kg P n) f args σ ⟨T,True⟩ with
  | none=>rw [h] at e;cases e
  | some r=>
    rw [h] at e
    obtain ⟨⟨u,σ'⟩,t⟩:=r
    cases e
    exact ⟨σ',(D3 (p9 P n) hc).run T h⟩
theorem cp(T:List Item) (e:(kg P n).ev sc x ρ σ ⟨T,True⟩=some ((v,σ'),⟨[],kb True T⟩)):(run P n).ev sc x ρ σ=some (v,σ'):=((p9 P n).ev ..).run T e
theorem jz{c:Bool}(T:List Item) (e:(kg P n).tr sc x ρ σ ⟨T,True⟩=some ((c,σ'),⟨[],kb True T⟩)):(run P n).tr sc x ρ σ=some (c,σ'):=((p9 P n).tr ..).run T e
theorem tpX{st:Stmt}(T:List Item) (e:(kg P n).ex sc st ρ σ ⟨T,True⟩=some (q,⟨[],kb True T⟩)):(run P n).ex sc st ρ σ=some q:=((p9 P n).ex ..).run T e
theorem tpA(T:List Item) (e:(kg P n).asg sc x v ρ σ ⟨T,True⟩=some ((ρ',σ'),⟨[],kb True T⟩)):(run P n).asg sc x v ρ σ=some (ρ',σ'):=((p9 P n).asg ..).run T e
structure Lc where
  sc:Scope
  tgt:Expr
  iter:Expr
  ifs:List Expr
  elt:Expr
noncomputable def pd{α:Type}:List (Option α)→Option α
  | []=>none
  | x::xs=>match x with | some a=>some a | none=>pd xs
noncomputable def jl:Nat→Expr→Option Lc
  | 0,_=>none
  | n+1,e=>@Tt (fun J=>Option Lc) e (fun J es J=>pd (es.map (jl n))) (fun J J J=>none) (fun a J b J=>pd [jl n a,jl n b]) (fun J o J=>jl n o) (fun J J J J=>none) (fun a b c J=>pd [jl n a,jl n b,jl n c]) (fun J J J=>none) (fun J J J=>none) (fun elt gens csc J=>ob gens.head? fun g=>some ⟨csc,g.target,g.iter,g.ifs,elt⟩) (fun J J J J=>none) (fun J J J J J=>none) (fun J J J J=>none) (fun J J=>none) (fun J J=>none) (fun J J=>none) (fun a J bs J=>pd (jl n a::bs.map (jl n))) (fun a bs J J=>pd (jl n a::bs.map (jl n))) (fun J J J J=>none) (fun J J=>none) (fun J J J=>none) (fun o J J=>jl n o) (fun a b J=>pd [jl n a,jl n b]) (fun J J=>none) (fun J J=>none) (fun es J=>pd (es.map (jl n))) (fun es J J=>pd (es.map (jl n))) (fun J J J J=>none)
noncomputable def r5(s:Stmt):Expr:=@U1 (fun J=>Expr) s (fun J J J J J J J J J J=>default) (fun J J J J J J J J J J=>default) (fun J J J J J J J J J J J=>default) (fun J J=>default) (fun J J=>default) (fun J J J=>default) (fun J J J J J J J=>default) (fun J J J J=>default) (fun J J J J J=>default) (fun J J J J J=>default) (fun J J J J J=>default) (fun e J J J=>e) (fun e J J J=>e) (fun J J J=>default) (fun J J J=>default) (fun J J J=>default) (fun J J J=>default) (fun J J J J J=>default) (fun J J J J J=>default) (fun J J J=>default) (fun J J=>default) (fun J J J J=>default) (fun J J=>default) (fun J J=>default) (fun J J=>default) (fun J=>default) (fun J=>default) (fun J=>default)
noncomputable def l0:List Expr→Nat→Expr
  | [],_=>default
  | x::_,0=>x
  | _::r,n+1=>l0 r n
noncomputable def iy(e:Expr) (i:Nat):Expr:=@Tt (fun J=>Expr) e (fun J es J=>l0 es i) (fun J J J=>default) (fun a J b J=>l0 [a,b] i) (fun J x J=>x) (fun J J J J=>default) (fun a b c J=>l0 [a,b,c] i) (fun J J J=>default) (fun J J J=>default) (fun x gens J J=>l0 (x::gens.map fun g=>g.iter) i) (fun J J J J=>default) (fun J J J J J=>default) (fun J J J J=>default) (fun J J=>default) (fun J J=>default) (fun J J=>default) (fun a J bs J=>l0 (a::bs) i) (fun f as J J=>l0 (f::as) i) (fun J J J J=>default) (fun J J=>default) (fun J J J=>default) (fun x J J=>x) (fun a b J=>l0 [a,b] i) (fun J J=>default) (fun J J=>default) (fun es J=>l0 es i) (fun es J J=>l0 es i) (fun J J J J=>default)
end
end
end Mine
end
section
open PySem PySem.W PyProof.Rows
namespace Mine
section
theorem K7:∀(a b:List Nat),sr a b=true↔a=b
  | [],[]=>by simp [sr]
  | [],_::_=>by simp [sr]
  | _::_,[]=>by simp [sr]
  | a::x,b::y=>by simp [sr,K7 x y,Nat.beq_eq]
theorem pa(a b:Str):seq a b=true↔a=b:=by
  obtain ⟨⟨a⟩⟩:=a;obtain ⟨⟨b⟩⟩:=b
  simp [seq,K7]
theorem tq(a b:Str):seq a b=decide (a=b):=by
  by_cases h:a=b
  · rw [(pa a b).mpr h,decide_eq_true h]
  · rw [decide_eq_false h]
    cases q:seq a b with
    | true=>exact absurd ((pa a b).mp q) h
    | false=>rfl
theorem kt(a:Str):seq a a=true:=(pa a a).mpr rfl
theorem pf{a b:Str}(h:a≠b):seq a b=false:=by rw [tq,decide_eq_false h]
theorem uw(a b:Str):seq a b=(a == b):=by
  rw [tq];by_cases h:a=b <;> simp [h]
theorem qo(x:Str):∀l:List (Str×NameKind),bm x l=l.lookup x
  | []=>rfl
  | (y,k)::r=>by
    rw [bm,Um,uw,qo x r]
    cases x == y <;> rfl
structure Gh where
  I:Addr→Option Obj
  mu:Nat→Addr
  de:Nat→Addr
section
variable (prog:Program) (w:World)
def ue (o:Obj) (m:Str→Option Value) (B:Nat):Prop:=∃es ep,o.data = .dict es ep∧StrKeys es∧(∀name,nsFind es name=m name)∧es.size≤B
def TupAt (L:Addr→Option Obj) (a:Addr) (vs:List Value):Prop:=∃n,L a=some { cls:=.type "tuple",data:=.seq vs.toArray n }
def LstAt (L:Addr→Option Obj) (a:Addr) (vs:List Value):Prop:=∃n,L a=some { cls:=.type "list",data:=.seq vs.toArray n }
def DctAt (L:Addr→Option Obj) (a:Addr) (ks:List Str) (vs:List Value):Prop:=
  ∃o,L a=some o∧o.IsDictOf (strKind prog w) (ks.zip vs)∧ks.length=vs.length∧a≠sysModules
def ObjAt (L:Addr→Option Obj) (a d C:Addr) (ks:List Str) (vs:List Value):Prop:=
  L a=some (instObj C d)∧∃od,L d=some od∧ue od (fun k=>d8 k ks vs) ks.length∧ks.length=vs.length
def zq0 (L:Addr→Option Obj) (a:Addr) (lo hi:Int):Prop:=
  ∃t u v,L a=some { cls:=.type "range",data:=.fields #[.int lo t,.int hi u,.int 1 v] }
mutual
def Rl (g:Gh) (N:Nat):V→Value→Prop
  | .none,v=>v = .none
  | .bool b,v=>v = .bool b
  | .int i,v=>∃t,v = .int i t
  | .str s,v=>∃t,v = .str s t
  | .tup xs,v=>∃a vs,v = .ref a∧TupAt g.I a vs∧RlL g N xs vs
  | .lst xs,v=>∃a vs,v = .ref a∧LstAt g.I a vs∧RlL g 0 xs vs
  | .dct ks xs,v=>∃a vs,v = .ref a∧DctAt prog w g.I a ks vs∧RlL g 0 xs vs
  | .obj C ks xs,v=>∃a d vs,v = .ref a∧ObjAt g.I a d C ks vs∧RlL g 0 xs vs
  | .rng lo hi,v=>∃a,v = .ref a∧zq0 g.I a lo hi
  | .ref n,v=>n<N∧v = .ref (g.mu n)
  | .val u,v=>v=u
def RlL (g:Gh) (N:Nat):List V→List Value→Prop
  | [],vs=>vs=[]
  | x::xs,vs=>∃v r,vs=v::r∧Rl g N x v∧RlL g N xs r
end
def ObjOk (g:Gh) (N:Nat) (h:Heap) (n:Nat):MObj→Prop
  | .lst xs=>∃vs,LstAt h.get? (g.mu n) vs∧RlL prog w g N xs vs∧g.de n=g.mu n
  | .dct ks xs=>∃vs,DctAt prog w h.get? (g.mu n) ks vs∧RlL prog w g N xs vs∧g.de n=g.mu n
  | .obj C ks xs=>∃vs,ObjAt h.get? (g.mu n) (g.de n) C ks vs∧RlL prog w g N xs vs
def Live (h:Heap) (a:Addr):Prop:=∃o,h.get? a=some o
structure Ok (hb:Heap) (g:Gh) (σ:Sto) (h:Heap):Prop where
  sub:∀a o,g.I a=some o→h.get? a=some o
  base:∀a o,hb.get? a=some o→g.I a=some o
  obj:∀n o,ab σ n=some o→n<σ.next∧ObjOk prog w g σ.next h n o
  sep:∀n o,ab σ n=some o→g.I (g.mu n)=none∧g.I (g.de n)=none
  lt:∀n,n<σ.next→Live h (g.mu n)∧Live h (g.de n)
  inj:∀n m,n<σ.next→m<σ.next→n≠m→g.mu n≠g.mu m∧g.mu n≠g.de m∧g.de n≠g.mu m∧g.de n≠g.de m
end
def ew (g:Gh) (N:Nat) (a:Addr):Prop:=∃n,n<N∧(a=g.mu n∨a=g.de n)
structure Ext (Wr:Addr→Prop) (g:Gh) (N:Nat) (h:Heap) (g':Gh) (N':Nat) (h':Heap):Prop where
  I:∀a o,g.I a=some o→g'.I a=some o
  new:∀a o,g'.I a=some o→g.I a=some o∨h.get? a=none∨ew g N a
  mu:∀n,n<N→g'.mu n=g.mu n∧g'.de n=g.de n
  munew:∀n,N≤n→n<N'→h.get? (g'.mu n)=none∧h.get? (g'.de n)=none
  next:N≤N'
  keep:∀a o,h.get? a=some o→¬ ew g N a→¬ Wr a→h'.get? a=some o
  live:∀a o,h.get? a=some o→∃o',h'.get? a=some o'
def ak:Addr→Prop:=fun J=>False
theorem Ext.refl(Wr:Addr→Prop) (g:Gh) (N:Nat) (h:Heap):Ext Wr g N h g N h:=
  ⟨fun J J e=>e,fun J J e=>.inl e,fun J J=>⟨rfl,rfl⟩,fun n a b=>absurd b (Uq.mpr a),To _,fun J J e J J=>e,fun J o e=>⟨o,e⟩⟩
theorem Live.lt{h:Heap}{a:Addr}(x:Live h a):a<h.objs.size:=let ⟨_,e⟩:=x;Heap.lt_size e
theorem Live.to{h h':Heap}{a:Addr}(x:Live h a) (k:∀a o,h.get? a=some o→h'.get? a=some o):Live h' a:=let ⟨o,e⟩:=x;⟨o,k _ _ e⟩
theorem em{h:Heap}{a:Addr}(e:h.objs.size≤a):h.get? a=none:=by
  cases q:h.get? a with
  | none=>rfl
  | some o=>exact absurd (U3 q) (Uq.mpr e)
theorem Ext.trans {Wr:Addr→Prop}{g g₁ g₂:Gh}{N N₁ N₂:Nat}{h h₁ h₂:Heap}(x:Ext Wr g N h g₁ N₁ h₁) (y:Ext Wr g₁ N₁ h₁ g₂ N₂ h₂):Ext Wr g N h g₂ N₂ h₂ where
  I:=fun a o e=>y.I a o (x.I a o e)
  new :=fun a o e=>by
    rcases y.new a o e with q | q | ⟨n,hn,q⟩
    · exact x.new a o q
    · right;left
      cases r:h.get? a with
      | none=>rfl
      | some o'=>obtain ⟨o₁,e₁⟩:=x.live a o' r;rw [e₁] at q;cases q
    · right
      by_cases c:n<N
      · right;exact ⟨n,c,by rw [(x.mu n c).1,(x.mu n c).2] at q;exact q⟩
      · left
        have:=x.munew n (Wz c) hn
        rcases q with rfl | rfl
        · exact this.1
        · exact this.2
  mu:=fun n hn=>⟨(y.mu n (Tn hn x.next)).1.trans (x.mu n hn).1,(y.mu n (Tn hn x.next)).2.trans (x.mu n hn).2⟩
  munew :=fun n a b=>by
    by_cases q:n<N₁
    · have:=x.munew n a q
      rw [(y.mu n q).1,(y.mu n q).2];exact this
    · have:=y.munew n (Wz q) b
      constructor
      · cases r:h.get? (g₂.mu n) with
        | none=>rfl
        | some o'=>obtain ⟨o₁,e₁⟩:=x.live _ o' r;rw [e₁] at this;cases this.1
      · cases r:h.get? (g₂.de n) with
        | none=>rfl
        | some o'=>obtain ⟨o₁,e₁⟩:=x.live _ o' r;rw [e₁] at this;cases this.2
  next:=Th x.next y.next
  keep:=fun a o e hm hw=>y.keep a o (x.keep a o e hm hw) (fun ⟨n,hn,hq⟩=>by
    by_cases q:n<N
    · exact hm ⟨n,q,by rw [(x.mu n q).1,(x.mu n q).2] at hq;exact hq⟩
    · have:=x.munew n (Wz q) hn
      rcases hq with rfl | rfl
      · rw [this.1] at e;cases e
      · rw [this.2] at e;cases e) hw
  live:=fun a o e=>let ⟨o₁,e₁⟩:=x.live a o e;y.live a o₁ e₁
section
variable {prog:Program}{w:World}
mutual
theorem Rl.mono{g g':Gh}{N N':Nat}(hI:∀a o,g.I a=some o→g'.I a=some o) (hm:∀n,n<N→g'.mu n=g.mu n) (hN:N≤N') :
    ∀(x:V) (v:Value),Rl prog w g N x v→Rl prog w g' N' x v
  | .none,_,h=>h
  | .bool _,_,h=>h
  | .int _,_,h=>h
  | .str _,_,h=>h
  | .tup xs,_,h=>by
    obtain ⟨a,vs,e,⟨n,h1⟩,h3⟩:=h
    exact ⟨a,vs,e,⟨n,hI _ _ h1⟩,RlL.mono hI hm hN xs vs h3⟩
  | .lst xs,_,h=>by
    obtain ⟨a,vs,e,⟨n,h1⟩,h3⟩:=h
    exact ⟨a,vs,e,⟨n,hI _ _ h1⟩,RlL.mono hI (fun J q=>absurd q (Tw _)) (To 0) xs vs h3⟩
  | .dct _ xs,_,h=>by
    obtain ⟨a,vs,e,⟨o,h1,h2⟩,h3⟩:=h
    exact ⟨a,vs,e,⟨o,hI _ _ h1,h2⟩,RlL.mono hI (fun J q=>absurd q (Tw _)) (To 0) xs vs h3⟩
  | .obj _ _ xs,_,h=>by
    obtain ⟨a,d,vs,e,⟨h1,od,h2,h4⟩,h3⟩:=h
    exact ⟨a,d,vs,e,⟨hI _ _ h1,od,hI _ _ h2,h4⟩,RlL.mono hI (fun J q=>absurd q (Tw _)) (To 0) xs vs h3⟩
  | .rng _ _,_,h=>by
    obtain ⟨a,e,t,u,v,h1⟩:=h
    exact ⟨a,e,t,u,v,hI _ _ h1⟩
  | .ref n,_,h=>⟨Tn h.1 hN,by rw [hm n h.1];exact h.2⟩
  | .val _,_,h=>h
theorem RlL.mono{g g':Gh}{N N':Nat}(hI:∀a o,g.I a=some o→g'.I a=some o) (hm:∀n,n<N→g'.mu n=g.mu n) (hN:N≤N') :
    ∀(xs:List V) (vs:List Value),RlL prog w g N xs vs→RlL prog w g' N' xs vs
  | [],_,h=>h
  | x::xs,_,h=>by
    obtain ⟨v,r,e,h1,h2⟩:=h
    exact ⟨v,r,e,Rl.mono hI hm hN x v h1,RlL.mono hI hm hN xs r h2⟩
end
theorem Rl.up{g:Gh}{N:Nat}{x:V}{v:Value}(r:Rl prog w g 0 x v):Rl prog w g N x v:=Rl.mono (fun J J e=>e) (fun J q=>absurd q (Nat.not_lt_zero _)) (Nat.zero_le _) x v r
theorem RlL.up{g:Gh}{N:Nat}{x:List V}{v:List Value}(r:RlL prog w g 0 x v):RlL prog w g N x v:=RlL.mono (fun J J e=>e) (fun J q=>absurd q (Nat.not_lt_zero _)) (Nat.zero_le _) x v r
theorem Rl.ext{Wr:Addr→Prop}{g g':Gh}{N N':Nat}{h h':Heap}{x:V}{v:Value}(r:Rl prog w g N x v) (e:Ext Wr g N h g' N' h'):Rl prog w g' N' x v:=
  Rl.mono e.I (fun n hn=>(e.mu n hn).1) e.next x v r
theorem RlL.ext{Wr:Addr→Prop}{g g':Gh}{N N':Nat}{h h':Heap}{x:List V}{v:List Value}(r:RlL prog w g N x v) (e:Ext Wr g N h g' N' h'):RlL prog w g' N' x v:=
  RlL.mono e.I (fun n hn=>(e.mu n hn).1) e.next x v r
theorem RlL.length{g:Gh}{N:Nat}:∀{xs:List V}{vs:List Value},RlL prog w g N xs vs→vs.length=xs.length
  | [],_,h=>by rw [RlL] at h;subst h;rfl
  | x::xs,_,h=>by
    rw [RlL] at h
    obtain ⟨v,r,rfl,_,h2⟩:=h
    rw [Tl,Tl,RlL.length h2]
theorem RlL.append{g:Gh}{N:Nat}:∀{xs ys:List V}{vs us:List Value},RlL prog w g N xs vs→RlL prog w g N ys us→RlL prog w g N (xs++ys) (vs++us)
  | [],_,_,_,h,k=>by rw [RlL] at h;subst h;exact k
  | x::xs,_,_,_,h,k=>by
    rw [RlL] at h
    obtain ⟨v,r,rfl,h1,h2⟩:=h
    exact ⟨v,r++_,rfl,h1,RlL.append h2 k⟩
theorem RlL.nil{g:Gh}{N:Nat}:RlL prog w g N [] []:=rfl
theorem RlL.cons{g:Gh}{N:Nat}{x:V}{xs:List V}{v:Value}{vs:List Value}(h:Rl prog w g N x v) (k:RlL prog w g N xs vs):RlL prog w g N (x::xs) (v::vs):=⟨v,vs,rfl,h,k⟩
end
end
end Mine
end
section
variable {σ σ' σ0 σ1 σ2 σ3 σ4:Mine.Sto}{N n N₀ N':Nat}{ρ ρ0 ρ1 ρ2:Mine.Loc}{s:PySem.Shared}{g g' g₀ g₁:Mine.Gh}{prog:PySem.Program}{w:PySem.World}{A:PySem.Around}{P:Mine.PD}{hb h h' h₀:PySem.Heap}{sc csc:PySem.Scope}{K:PySem.W.Frag}{env:PySem.Env}
section
open PySem PySem.W PyProof.Rows PySem.Calls
namespace Mine
section
theorem Ext.weak{Wr Wr':Addr→Prop}{g g':Gh}{N N':Nat}{h h':Heap}(x:Ext Wr g N h g' N' h') (k:∀a,Wr a→Wr' a):Ext Wr' g N h g' N' h':=
  ⟨x.I,x.new,x.mu,x.munew,x.next,fun a o e hm hw=>x.keep a o e hm fun q=>hw (k a q),x.live⟩
structure Room (A:Around) (n:Nat):Prop where
  depth:A.depth+n<recursionLimit
  units:A.units+12 * n+60<cLine
  handled:A.handled=none
theorem Room.lt{A:Around}{n m:Nat}(h:Room A n) (k:m≤n):Room A m:=⟨by have:=h.depth;exact zpi ‹_› ‹_›,by have:=h.units;exact znb ‹_› ‹_›,h.handled⟩
theorem Room.in1{A:Around}{n:Nat}(h:Room A (n+1)):Room A.in1 n:=⟨by have:=h.depth;show A.depth+n<_;exact Nat.le_of_lt ‹_›,by have:=h.units;show A.units+1+12 * n+60<_;exact F8 ‹_› (by decide),h.handled⟩
section
variable (prog:Program) (w:World) (hb:Heap)
def Does {α:Type}(A:Around) (Wr:Addr→Prop) (g:Gh) (σ:Sto) (s:Shared) (t:Sem α) (σ':Sto) (R:Gh→Heap→α→Prop):Prop:=
  ∀ (Q:α→Shared→Prop) (E:Value→Shared→Prop),
    (∀a g' h' tk',Ext Wr g σ.next s.heap g' σ'.next h'→Ok prog w hb g' σ' h'→R g' h' a→Q a { s with heap:=h',toks:=tk' })→wpAny (model prog w) A t Q E s
end
section
variable {Wr:Addr→Prop}{σ₁ σ₂:Sto}{α β:Type}
theorem Does.bind{t:Sem α}{k:α→Sem β}{R:Gh→Heap→α→Prop}{R₂:Gh→Heap→β→Prop}(h:Does prog w hb A Wr g σ s t σ₁ R)
    (h2:∀a g₁ h₁ tk₁,Ext Wr g σ.next s.heap g₁ σ₁.next h₁→Ok prog w hb g₁ σ₁ h₁→R g₁ h₁ a→Does prog w hb A Wr g₁ σ₁ { s with heap:=h₁,toks:=tk₁ } (k a) σ₂ R₂) :
    Does prog w hb A Wr g σ s (t >>= k) σ₂ R₂:=fun Q E hQ=>
  Y3 (h _ _ fun a g₁ h₁ tk₁ x o r=>h2 a g₁ h₁ tk₁ x o r Q E fun b g₂ h₂ tk₂ y o₂ r₂=>hQ b g₂ h₂ tk₂ (x.trans y) o₂ r₂)
theorem Does.now{a:α}{R:Gh→Heap→α→Prop}(O:Ok prog w hb g σ s.heap) (r:R g s.heap a):Does prog w hb A Wr g σ s (pure a) σ R:=fun Q E hQ=>
  Y4 (hQ a g s.heap s.toks (Ext.refl ..) O r)
theorem Does.mono{t:Sem α}{R R':Gh→Heap→α→Prop}(h:Does prog w hb A Wr g σ s t σ' R) (k:∀g' h' a,Ext Wr g σ.next s.heap g' σ'.next h'→Ok prog w hb g' σ' h'→R g' h' a→R' g' h' a):Does prog w hb A Wr g σ s t σ' R':=
  fun Q E hQ=>h Q E fun a g' h' tk' x o r=>hQ a g' h' tk' x o (k g' h' a x o r)
theorem Does.weak{Wr':Addr→Prop}{t:Sem α}{R:Gh→Heap→α→Prop}(h:Does prog w hb A Wr g σ s t σ' R) (k:∀a,Wr a→Wr' a):Does prog w hb A Wr' g σ s t σ' R:=
  fun Q E hQ=>h Q E fun a g' h' tk' x o r=>hQ a g' h' tk' (x.weak k) o r
end
structure EnvOk (prog:Program) (w:World) (sc:Scope) (env:Env) (ρ:Loc) (g:Gh) (N:Nat) (h:Heap):Prop where
  kind:env.scope.kind = .function
  glob:env.globals=mainGlobals
  blt:env.builtins=builtinsNs
  inter:interactive env=false
  names:∀x k,bm x sc.names=some k→env.kindOf x=some k∨(k = .free∧env.kindOf x=some .cell)
  dbg:∀x k,bm x sc.names=some k→(x == ("__debug__" : Str))=false∧(x == ("__classdict__" : Str))=false
  loc:∃m,h.Ns env.locals m∧∀x V,ae x ρ=some V→bm x sc.names=some .local→∃v,m x=some v∧Rl prog w g N V v
  cel:∀x k,bm x sc.names=some k→k = .cell∨k = .free→∃c o,env.cells.lookup x=some c∧h.IsCell c o∧g.I c=none∧¬ ew g N c∧c≠env.locals∧
    ∀V,ae x ρ=some V→∃v,o=some v∧Rl prog w g N V v
  sepL:g.I env.locals=none∧¬ ew g N env.locals
  inj:∀x y k cx cy,bm x sc.names=some .cell→bm y sc.names=some k→k = .cell∨k = .free→env.cells.lookup x=some cx→env.cells.lookup y=some cy→x≠y→cx≠cy
section
theorem Ext.sepI{Wr:Addr→Prop}{a:Addr}{o:Obj}(x:Ext Wr g N h g' N' h') (e:h.get? a=some o) (hi:g.I a=none) (hm:¬ ew g N a):g'.I a=none:=by
  cases q:g'.I a with
  | none=>rfl
  | some o' => rcases x.new a o' q with r | r | r
               · rw [hi] at r;cases r
               · rw [e] at r;cases r
               · exact absurd r hm
theorem Ext.sepM{Wr:Addr→Prop}{a:Addr}{o:Obj}(x:Ext Wr g N h g' N' h') (e:h.get? a=some o) (hm:¬ ew g N a):¬ ew g' N' a:=fun ⟨n,hn,hq⟩=>by
  by_cases q:n<N
  · exact hm ⟨n,q,by rw [(x.mu n q).1,(x.mu n q).2] at hq;exact hq⟩
  · have:=x.munew n (Wz q) hn
    rcases hq with rfl | rfl
    · rw [this.1] at e;cases e
    · rw [this.2] at e;cases e
theorem EnvOk.ext(X:EnvOk prog w sc env ρ g N h) (x:Ext ak g N h g' N' h'):EnvOk prog w sc env ρ g' N' h' where
  kind:=X.kind
  glob:=X.glob
  blt:=X.blt
  inter:=X.inter
  names:=X.names
  dbg:=X.dbg
  loc:=by
    obtain ⟨m,hn,hl⟩:=X.loc
    obtain ⟨o,es,ep,ho,r⟩:=hn
    exact ⟨m,⟨o,es,ep,x.keep _ _ ho X.sepL.2 id,r⟩,fun y V e k=>let ⟨v,e1,e2⟩:=hl y V e k;⟨v,e1,e2.ext x⟩⟩
  cel:=fun y k hk hc=>by
    obtain ⟨c,o,h1,⟨oc,h2,h2'⟩,h3,h4,h5,h6⟩:=X.cel y k hk hc
    exact ⟨c,o,h1,⟨oc,x.keep _ _ h2 h4 id,h2'⟩,x.sepI h2 h3 h4,x.sepM h2 h4,h5,fun V e=>let ⟨v,e1,e2⟩:=h6 V e;⟨v,e1,e2.ext x⟩⟩
  sepL:=by
    obtain ⟨m,⟨o,es,ep,ho,_⟩,_⟩:=X.loc
    exact ⟨x.sepI ho X.sepL.1 X.sepL.2,x.sepM ho X.sepL.2⟩
  inj:=X.inj
end
section
variable {σ₁ σ₂:Sto}{x:Str}{pos:Pos}{V:V}
theorem zhn {k:NameKind}(X:EnvOk prog w sc env ρ g σ.next s.heap) (O:Ok prog w hb g σ s.heap) (hk:bm x sc.names=some k) (hs:k = .local∨k = .cell∨k = .free) (hv:ae x ρ=some V) :
    Does prog w hb A ak g σ s (eval (.Name x pos) env) σ (fun g' J v=>Rl prog w g' σ.next V v):=fun Q E hQ=>by
  have hd:=X.dbg x k hk
  refine wpAny_Name ?_ hd.1
  by_cases hl:k = .local
  · subst hl
    obtain ⟨m,hn,hm⟩:=X.loc
    obtain ⟨v,e1,e2⟩:=hm x V hv hk
    have hkk:env.kindOf x=some .local:=by rcases X.names x _ hk with q | q;exact q;cases q.1
    exact wpAny_loadName_local X.kind hkk hn e1 (hQ v g s.heap s.toks (Ext.refl ..) O e2)
  · have hc:k = .cell∨k = .free:=by rcases hs with q | q;exact absurd q hl;exact q
    obtain ⟨c,o,h1,h2,_,_,_,h6⟩:=X.cel x k hk hc
    obtain ⟨v,rfl,e2⟩:=h6 V hv
    have q:env.kindOf x=some .cell∨env.kindOf x=some .free:=by
      rcases X.names x k hk with q | q
      · rcases hc with rfl | rfl
        · exact .inl q
        · exact .inr q
      · exact .inl q.2
    rcases q with q | q
    · exact wpAny_loadName_cell X.kind q h1 h2 (hQ v g s.heap s.toks (Ext.refl ..) O e2)
    · exact wpAny_loadName_free X.kind q h1 h2 (hQ v g s.heap s.toks (Ext.refl ..) O e2) hd.2
end
structure Wd (prog:Program) (w:World) (P:PD) (hb:Heap):Prop where
  globs:∃mg mb,hb.Ns mainGlobals mg∧hb.Ns builtinsNs mb∧
    (∀x v,P.glob x=some v→∃u,mg x=some u∧∀(g:Gh) N,(∀a o,hb.get? a=some o→g.I a=some o)→Rl prog w g N v u)∧
    (∀x v,P.glob x=none→qt x=some v→mg x=none∧∃u,mb x=some u∧v = .val u)
  nolimit:hb.NoLimit
section
variable {σ₁ σ₂:Sto}{x:Str}{pos:Pos}{V:V}
theorem Ok.keeps(O:Ok prog w hb g σ s.heap):∀a o,hb.get? a=some o→s.heap.get? a=some o:=fun a o e=>O.sub a o (O.base a o e)
theorem Co(W:Wd prog w P hb) (X:EnvOk prog w sc env ρ g σ.next s.heap) (O:Ok prog w hb g σ s.heap) (hk:bm x sc.names=some .globalImplicit)
    (hv:P.glob x=some V∨(P.glob x=none∧qt x=some V)) :
    Does prog w hb A ak g σ s (eval (.Name x pos) env) σ (fun g' J v=>Rl prog w g' σ.next V v):=fun Q E hQ=>by
  have hd:=X.dbg x _ hk
  have hkk:env.kindOf x=some .globalImplicit:=by rcases X.names x _ hk with q | q;exact q;cases q.1
  obtain ⟨mg,mb,h1,h2,h3,h4⟩:=W.globs
  have g1:s.heap.Ns env.globals mg:=X.glob▸h1.keeps O.keeps
  rcases hv with hv | ⟨hn,hv⟩
  · obtain ⟨u,e1,e2⟩:=h3 x V hv
    exact Name_function_global X.kind hkk (loadGlobal_global g1 e1 (hQ u g s.heap s.toks (Ext.refl ..) O (e2 g _ O.base))) hd.1
  · obtain ⟨e0,u,e1,rfl⟩:=h4 x V hn hv
    have g2:s.heap.Ns env.builtins mb:=X.blt▸h2.keeps O.keeps
    exact Name_function_global X.kind hkk (loadGlobal_builtin g1 e0 g2 e1 (hQ u g s.heap s.toks (Ext.refl ..) O rfl)) hd.1
theorem zfe{c:Const}{k:Nat}(O:Ok prog w hb g σ s.heap) (hv:(match c with | .none=>some .none | .bool b=>some (.bool b) | .int i=>some (.int i) | .str s=>some (.str s) | _=>none)=some V) :
    Does prog w hb A ak g σ s (eval (.Constant c k pos) env) σ (fun g' J v=>Rl prog w g' σ.next V v):=fun Q E hQ=>by
  cases c <;> first | (cases hv;done) | skip
  · cases hv;exact wpAny_Constant_none (hQ _ g s.heap s.toks (Ext.refl ..) O rfl)
  · cases hv;exact wpAny_Constant_bool (hQ _ g s.heap s.toks (Ext.refl ..) O rfl)
  · cases hv;exact wpAny_Constant_int (hQ _ g s.heap _ (Ext.refl ..) O ⟨_,rfl⟩)
  · cases hv;exact wpAny_Constant_str (hQ _ g s.heap _ (Ext.refl ..) O ⟨_,rfl⟩)
end
end
section
theorem zj6:∀{os:List (Nat×MObj)}{n m:Nat}{o:MObj},(∀p∈os,p.1<m)→fk os n=some o→n<m
  | (k,p)::r,n,m,o,hl,e=>by
    unfold fk at e
    split at e
    · rename_i q
      have:=Tu q
      subst this
      exact hl _ (.head _)
    · exact zj6 (fun p hp=>hl p (.tail _ hp)) e
theorem Jj:∀(os:List (Nat×MObj)) (n m:Nat) (o:MObj),fk (qb os n o) m=if n=m then (if (fk os n).isSome then some o else none) else fk os m
  | [],n,m,o=>by simp [fk,qb]
  | (k, p)::r,n,m,o=>by
    unfold qb
    by_cases q:T8 k n=true
    · rw [if_pos q]
      have:=Tu q
      subst this
      unfold fk
      by_cases e:k=m
      · subst e;simp
      · have e':T8 k m=false:=by rw [← Bool.not_eq_true];exact fun t=>e (Tu t)
        rw [e',if_neg e];simp
    · rw [if_neg q]
      unfold fk
      rw [Jj r n m o]
      by_cases e:T8 k m=true
      · have e':=Tu e
        subst e'
        have:¬ n=k:=fun t=>q (by rw [t];exact Wi k)
        rw [if_pos e,if_pos e,if_neg this]
      · rw [if_neg e,if_neg e,if_neg q]
theorem o7(σ:Sto) (o:MObj) (m:Nat):ab (push σ o) m=if σ.next=m then some o else ab σ m:=by
  show fk ((σ.next,o)::σ.os) m=_
  unfold fk
  by_cases e:σ.next=m
  · subst e;simp [Wi]
  · have e':T8 σ.next m=false:=by rw [← Bool.not_eq_true];exact fun t=>e (Tu t)
    rw [e',if_neg e];rfl
theorem Ci(σ:Sto) (n m:Nat) (o:MObj) {p:MObj}(hs:ab σ n=some p):ab (ah σ n o) m=if n=m then some o else ab σ m:=by
  have:=Jj σ.os n m o
  unfold ab at hs ⊢
  show fk (qb σ.os n o) m=_
  rw [this,hs];rfl
theorem ObjOk.grow{N N':Nat}{n:Nat}{o:MObj}(hI:∀a o,g.I a=some o→g'.I a=some o) (hm:∀n,n<N→g'.mu n=g.mu n∧g'.de n=g.de n) (hN:N≤N') (hn:n<N)
    (k1:∀x,h.get? (g.mu n)=some x→h'.get? (g.mu n)=some x) (k2:∀x,h.get? (g.de n)=some x→h'.get? (g.de n)=some x) (x:ObjOk prog w g N h n o):ObjOk prog w g' N' h' n o:=by
  have m1:=fun i hi=>(hm i hi).1
  cases o with
  | lst xs=>
    obtain ⟨vs,⟨c,e1⟩,e2,e3⟩:=x
    exact ⟨vs,⟨c,by rw [(hm n hn).1];exact k1 _ e1⟩,RlL.mono hI m1 hN _ _ e2,by rw [(hm n hn).1,(hm n hn).2];exact e3⟩
  | dct ks xs=>
    obtain ⟨vs,⟨c,e1,e4⟩,e2,e3⟩:=x
    exact ⟨vs,⟨c,by rw [(hm n hn).1];exact k1 _ e1,by rw [(hm n hn).1];exact e4⟩,RlL.mono hI m1 hN _ _ e2,by rw [(hm n hn).1,(hm n hn).2];exact e3⟩
  | obj C ks xs=>
    obtain ⟨vs,⟨e1,od,e4,e5⟩,e2⟩:=x
    exact ⟨vs,⟨by rw [(hm n hn).1,(hm n hn).2];exact k1 _ e1,od,by rw [(hm n hn).2];exact k2 _ e4,e5⟩,RlL.mono hI m1 hN _ _ e2⟩
theorem Ok.grow(O:Ok prog w hb g σ h) (k:∀a o,h.get? a=some o→h'.get? a=some o):Ok prog w hb g σ h' where
  sub:=fun a o e=>k a o (O.sub a o e)
  base:=O.base
  obj:=fun n o e=>⟨(O.obj n o e).1,(O.obj n o e).2.grow (fun J J e=>e) (fun J J=>⟨rfl,rfl⟩) (To _) (O.obj n o e).1 (k _) (k _)⟩
  sep:=O.sep
  lt:=fun n hn=>⟨(O.lt n hn).1.to k,(O.lt n hn).2.to k⟩
  inj:=O.inj
theorem Ext.grow{N:Nat}(k:∀a o,h.get? a=some o→h'.get? a=some o):Ext ak g N h g N h':=
  ⟨fun J J e=>e,fun J J e=>.inl e,fun J J=>⟨rfl,rfl⟩,fun n a b=>absurd b (Uq.mpr a),To _,fun a o e J J=>k a o e,fun a o e=>⟨o,k a o e⟩⟩
def Gh.addI (g:Gh) (a:Addr) (o:Obj):Gh:={ g with I:=fun b=>if b=a then some o else g.I b }
def Gh.addM (g:Gh) (n:Nat) (a d:Addr):Gh:={ g with mu:=fun m=>if m=n then a else g.mu m,de:=fun m=>if m=n then d else g.de m }
theorem Ek{a:Addr}{o:Obj}:(g.addI a o).I a=some o:=if_pos rfl
theorem nn{a:Addr}(O:Ok prog w hb g σ h) (ha:h.get? a=none):g.I a=none:=by
  cases q:g.I a with
  | none=>rfl
  | some x=>rw [O.sub a x q] at ha;cases ha
theorem Live.ne{a b:Addr}(x:Live h a) (ha:h.get? b=none):a≠b:=fun q=>by
  subst q
  obtain ⟨o,e⟩:=x
  rw [e] at ha;cases ha
theorem qi{a:Addr}(O:Ok prog w hb g σ h) (ha:h.get? a=none):¬ ew g σ.next a:=fun ⟨n,hn,q⟩=>by
  rcases q with rfl | rfl
  · exact (O.lt n hn).1.ne ha rfl
  · exact (O.lt n hn).2.ne ha rfl
theorem zfp{a:Addr}{o:Obj}(O:Ok prog w hb g σ h) (ha:h.get? a=none):∀b x,g.I b=some x→(g.addI a o).I b=some x:=fun b x e=>by
  have:b≠a:=fun q=>by subst q;rw [O.sub b x e] at ha;cases ha
  show (if b=a then some o else g.I b)=some x
  rw [if_neg this];exact e
theorem Ds{a:Addr}{o:Obj}(O:Ok prog w hb g σ h) (k:∀a o,h.get? a=some o→h'.get? a=some o) (ha:h.get? a=none) (e:h'.get? a=some o) :
    Ok prog w hb (g.addI a o) σ h'∧Ext ak g σ.next h (g.addI a o) σ.next h':=by
  have old:=zfp (o:=o) O ha
  refine ⟨⟨fun b x q=>?_,fun b x q=>old _ _ (O.base b x q),fun n x q=>⟨(O.obj n x q).1,(O.obj n x q).2.grow old (fun J J=>⟨rfl,rfl⟩) (To _) (O.obj n x q).1 (k _) (k _)⟩,fun n x q=>?_,
    fun n hn=>⟨(O.lt n hn).1.to k,(O.lt n hn).2.to k⟩,O.inj⟩,
    ⟨old,fun b x q=>?_,fun J J=>⟨rfl,rfl⟩,fun n a b=>absurd b (Uq.mpr a),To _,fun a o e J J=>k a o e,fun a o e=>⟨o,k a o e⟩⟩⟩
  · have q':(if b=a then some o else g.I b)=some x:=q
    by_cases c:b=a
    · subst c;rw [if_pos rfl] at q';cases q';exact e
    · rw [if_neg c] at q';exact k _ _ (O.sub _ _ q')
  · have l:=O.lt n (O.obj n x q).1
    have s:=O.sep n x q
    refine ⟨?_,?_⟩
    · show (if g.mu n=a then some o else g.I (g.mu n))=none
      rw [if_neg (l.1.ne ha)];exact s.1
    · show (if g.de n=a then some o else g.I (g.de n))=none
      rw [if_neg (l.2.ne ha)];exact s.2
  · have q':(if b=a then some o else g.I b)=some x:=q
    by_cases c:b=a
    · subst c;exact .inr (.inl ha)
    · rw [if_neg c] at q';exact .inl q'
theorem cf{N:Nat}{a d:Addr}:∀n,n<N→(g.addM N a d).mu n=g.mu n∧(g.addM N a d).de n=g.de n:=fun n hn=>by
  have:n≠N:=Uz hn
  exact ⟨if_neg this,if_neg this⟩
theorem zr{a d:Addr}{o:MObj}(O:Ok prog w hb g σ h) (k:∀a o,h.get? a=some o→h'.get? a=some o)
    (ha:h.get? a=none) (hd:h.get? d=none) (ha':Live h' a) (hd':Live h' d) (e:ObjOk prog w (g.addM σ.next a d) (σ.next+1) h' σ.next o) :
    Ok prog w hb (g.addM σ.next a d) (push σ o) h'∧Ext ak g σ.next h (g.addM σ.next a d) (push σ o).next h':=by
  have hI:∀b x,g.I b=some x→(g.addM σ.next a d).I b=some x:=fun J J e=>e
  have m0:(g.addM σ.next a d).mu σ.next=a:=if_pos rfl
  have d0:(g.addM σ.next a d).de σ.next=d:=if_pos rfl
  have cases_:∀n,n<σ.next+1→n=σ.next∨n<σ.next:=fun n hn=>by exact R6 ‹_›
  refine ⟨⟨fun b x q=>k _ _ (O.sub b x q),O.base,fun n x q=>?_,fun n x q=>?_,fun n hn=>?_,fun n m hn hm hne=>?_⟩,
    ⟨hI,fun b x q=>.inl q,cf,fun n h1 h2=>?_,T3 _,fun a o e J J=>k a o e,fun a o e=>⟨o,k a o e⟩⟩⟩
  · rw [o7] at q
    split at q
    · rename_i c;cases q;subst c;exact ⟨Tr _,e⟩
    · have l:=(O.obj n x q).1
      exact ⟨U5 l,(O.obj n x q).2.grow hI cf (T3 _) l (k _) (k _)⟩
  · rw [o7] at q
    split at q
    · rename_i c;subst c
      rw [m0,d0];exact ⟨nn (g:=g) O ha,nn (g:=g) O hd⟩
    · have l:=(O.obj n x q).1
      rw [(cf n l).1,(cf n l).2];exact O.sep n x q
  · rcases cases_ n hn with rfl | l
    · rw [m0,d0];exact ⟨ha',hd'⟩
    · rw [(cf n l).1,(cf n l).2];exact ⟨(O.lt n l).1.to k,(O.lt n l).2.to k⟩
  · rcases cases_ n hn with rfl | l <;> rcases cases_ m hm with rfl | l'
    · exact absurd rfl hne
    · rw [m0,d0,(cf m l').1,(cf m l').2]
      have q:=O.lt m l'
      exact ⟨(q.1.ne ha).symm,(q.2.ne ha).symm,(q.1.ne hd).symm,(q.2.ne hd).symm⟩
    · rw [m0,d0,(cf n l).1,(cf n l).2]
      have q:=O.lt n l
      exact ⟨q.1.ne ha,q.1.ne hd,q.2.ne ha,q.2.ne hd⟩
    · rw [(cf n l).1,(cf n l).2,(cf m l').1,(cf m l').2];exact O.inj n m l l' hne
  · have:n=σ.next:=by have h2':n<σ.next+1:=h2;exact zsg ‹_› ‹_›
    subst this
    rw [m0,d0];exact ⟨ha,hd⟩
theorem D2{n:Nat}{o o':MObj}(O:Ok prog w hb g σ h) (hs:ab σ n=some o) (k:∀b,b≠g.mu n→b≠g.de n→h'.get? b=h.get? b)
    (hl:∀a o,h.get? a=some o→∃o',h'.get? a=some o') (e:ObjOk prog w g σ.next h' n o') :
    Ok prog w hb g (ah σ n o') h'∧Ext ak g σ.next h g (ah σ n o').next h':=by
  have hn:=(O.obj n o hs).1
  have sn:=O.sep n o hs
  have keep:∀b x,h.get? b=some x→¬ ew g σ.next b→h'.get? b=some x:=fun b x q hm=>
    (k b (fun c=>hm ⟨n,hn,.inl c⟩) (fun c=>hm ⟨n,hn,.inr c⟩)).trans q
  refine ⟨⟨fun b x q=>?_,O.base,fun m x q=>?_,fun m x q=>?_,fun m hm=>⟨let ⟨o,e⟩:=(O.lt m hm).1;hl _ o e,let ⟨o,e⟩:=(O.lt m hm).2;hl _ o e⟩,O.inj⟩,
    ⟨fun J J e=>e,fun J J e=>.inl e,fun J J=>⟨rfl,rfl⟩,fun n a b=>absurd b (Uq.mpr a),To _,fun a o e hm J=>keep a o e hm,hl⟩⟩
  · refine (k b (fun c=>?_) (fun c=>?_)).trans (O.sub b x q)
    · rw [c,sn.1] at q;cases q
    · rw [c,sn.2] at q;cases q
  · rw [Ci σ n m o' hs] at q
    split at q
    · rename_i c;cases q;subst c;exact ⟨hn,e⟩
    · rename_i c
      have l:=(O.obj m x q).1
      have ij:=O.inj n m hn l c
      exact ⟨l,(O.obj m x q).2.grow (fun J J e=>e) (fun J J=>⟨rfl,rfl⟩) (To _) l (fun y e=>(k _ (Ne.symm ij.1) (Ne.symm ij.2.2.1)).trans e) (fun y e=>(k _ (Ne.symm ij.2.1) (Ne.symm ij.2.2.2)).trans e)⟩
  · rw [Ci σ n m o' hs] at q
    split at q
    · rename_i c;subst c;exact sn
    · exact O.sep m x q
end
section
theorem ig(h:Heap) (o:Obj):∀b x,h.get? b=some x→(h.push o).get? b=some x:=fun J J e=>Tq o e
theorem zbb{xs:List V}{vs:List Value}(O:Ok prog w hb g σ s.heap) (r:RlL prog w g σ.next xs vs) (hz:sz xs=true) :
    Does prog w hb A ak g σ s (newTuple vs) σ (fun g' J v=>Rl prog w g' σ.next (.tup xs) v):=fun Q E hQ=>by
  have hl:=r.length
  have hz':xs.length≤4096:=T7 hz
  refine wpAny_newObj_type ?_ (by show vs.toArray.size≤sizeLine;rw [Uo,hl,sizeLine_eq];exact Th ‹_› (by decide))
  have z:=Ds (g:=g) O (ig s.heap { cls:=.type "tuple",data:=.seq vs.toArray }) (em (To _)) (Tv _ rfl)
  exact hQ _ _ _ s.toks z.2 z.1 ⟨_,vs,rfl,⟨0,Ek⟩,r.ext z.2⟩
theorem zcj{xs:List V}{vs:List Value}(O:Ok prog w hb g σ s.heap) (r:RlL prog w g σ.next xs vs) (hz:sz xs=true) :
    Does prog w hb A ak g σ s (newList vs) (push σ (.lst xs)) (fun g' J v=>Rl prog w g' (push σ (.lst xs)).next (.ref σ.next) v):=fun Q E hQ=>by
  have hl:=r.length
  have hz':xs.length≤4096:=T7 hz
  refine wpAny_newObj_type ?_ (by show vs.toArray.size≤sizeLine;rw [Uo,hl,sizeLine_eq];exact Th ‹_› (by decide))
  have hm:(g.addM σ.next s.heap.objs.size s.heap.objs.size).mu σ.next=s.heap.objs.size:=if_pos rfl
  have hd:(g.addM σ.next s.heap.objs.size s.heap.objs.size).de σ.next=s.heap.objs.size:=if_pos rfl
  have lt:Live (s.heap.push { cls:=.type "list",data:=.seq vs.toArray }) s.heap.objs.size:=⟨_,Tv _ rfl⟩
  have z:=zr (g:=g) (o:=.lst xs) O (ig s.heap { cls:=.type "list",data:=.seq vs.toArray }) (em (To _)) (em (To _)) lt lt
    ⟨vs,⟨0,by rw [hm];exact Tv _ rfl⟩,RlL.mono (g:=g) (g':=g.addM σ.next s.heap.objs.size s.heap.objs.size) (fun J J e=>e) (fun n hn=>(cf n hn).1) (T3 _) _ _ r,hd.trans hm.symm⟩
  exact hQ _ _ _ s.toks z.2 z.1 ⟨Tr _,by rw [hm]⟩
end
end Mine
end
section
open PySem PySem.W PyProof.Rows PySem.Calls PySem.SeqAt
namespace Mine
section
theorem TupAt.isTuple{L:Addr→Option Obj}{h:Heap}{a:Addr}{vs:List Value}(x:TupAt L a vs) (k:∀a o,L a=some o→h.get? a=some o):h.IsTuple a vs.toArray:=
  let ⟨n,e⟩:=x;⟨_,k _ _ e,rfl,n,rfl⟩
theorem TupAt.inj{L:Addr→Option Obj}{a:Addr}{vs us:List Value}(x:TupAt L a vs) (y:TupAt L a us):vs=us:=by
  obtain ⟨n,e⟩:=x
  obtain ⟨n',e'⟩:=y
  rw [e] at e';cases e';rfl
theorem zar(n:Nat) (e:Nat→Bool):(Wp (n+1)).all e=(e 0&&(Wp n).all fun j=>e (j+1)):=by
  rw [Xy,Vb,V9];rfl
theorem S9(p:V→V→Bool→Prop) {n:Nat}{a b:V}{r:Bool}(e:b9 (n+1) a b=some r) (h1:p .none .none true) (h2:∀x y,p (.bool x) (.bool y) (x == y)) (h3:∀i j,p (.int i) (.int j) (decide (i=j)))
    (h4:∀x y,p (.str x) (.str y) (seq x y)) (h5:∀xs ys,ib n xs ys=some r→p (.tup xs) (.tup ys) r) (h6:∀x,p .none (.str x) false) (h7:∀x,p (.str x) .none false) (h8:∀x,p .none (.tup x) false) (h9:∀x,p (.tup x) .none false)
    (h10:∀x y,p (.str x) (.tup y) false) (h11:∀x y,p (.tup x) (.str y) false):p a b r:=by
  cases a <;> first | exact aa e | cases b <;> first | exact aa e | exact h5 _ _ e | cases e <;> first | exact h1 | exact h2 _ _ | exact h3 _ _ | exact h4 _ _ | exact h6 _ | exact h7 _ | exact h8 _ | exact h9 _ | exact h10 _ _ | exact h11 _ _
theorem Qt(p:List V→List V→Bool→Prop) {n:Nat}{a b:List V}{r:Bool}(e:ib (n+1) a b=some r) (h1:p [] [] true) (h2:∀x xs,p (x::xs) [] false) (h3:∀x xs,p [] (x::xs) false)
    (h4:∀x xs y ys c d,b9 n x y=some c→ib n xs ys=some d→p (x::xs) (y::ys) (c&&d)):p a b r:=by
  rcases a with _ | ⟨x,xs⟩ <;> rcases b with _ | ⟨y,ys⟩
  · cases e;exact h1
  · cases e;exact h3 _ _
  · cases e;exact h2 _ _
  · exact ad (x:=b9 n x y) e fun c h1 e=>ad e fun d h2 e=>br e▸h4 _ _ _ _ _ _ h1 h2
theorem zfv(n:Nat) :
    (∀x y b v,b9 n x y=some b→Rl prog w g N x v→Rl prog w g N y v→b=true)∧
    (∀xs ys b vs,ib n xs ys=some b→RlL prog w g N xs vs→RlL prog w g N ys vs→b=true):=by
  induction n with
  | zero=>exact ⟨fun x y b v e=>aa e,fun xs ys b vs e=>aa e⟩
  | succ n ih=>
    refine ⟨fun x y b v e=>S9 (fun x y b=>Rl prog w g N x v→Rl prog w g N y v→b=true) e (fun J J=>rfl) ?_ ?_ ?_ ?_ ?_ ?_ ?_ ?_ ?_ ?_,
      fun xs ys b vs e=>Qt (fun x y b=>RlL prog w g N x vs→RlL prog w g N y vs→b=true) e (fun J J=>rfl) ?_ ?_ ?_⟩
    · intro x y (r1:v=_) (r2:v=_)
      rw [r1] at r2;cases r2;exact beq_self_eq_true x
    · rintro i j ⟨t,rfl⟩ ⟨u,q⟩
      cases q;exact decide_eq_true rfl
    · rintro i j ⟨t,rfl⟩ ⟨u,q⟩
      cases q;exact kt _
    · rintro xs ys e ⟨a,vs,rfl,t1,l1⟩ ⟨b,us,q,t2,l2⟩
      cases q
      exact ih.2 _ _ _ _ e (t1.inj t2▸l1) l2
    · rintro x (r1:v=_) ⟨t,q⟩;rw [r1] at q;cases q
    · rintro x ⟨t,q⟩ (r1:v=_);rw [r1] at q;cases q
    · rintro x (r1:v=_) ⟨t,_,q,_⟩;rw [r1] at q;cases q
    · rintro x ⟨t,_,q,_⟩ (r1:v=_);rw [r1] at q;cases q
    · rintro x y ⟨t,rfl⟩ ⟨_,_,q,_⟩;cases q
    · rintro x y ⟨_,_,q,_⟩ ⟨t,rfl⟩;cases q
    · rintro x xs ⟨v,r,rfl,_⟩ q;cases q
    · rintro x xs q ⟨v,r,rfl,_⟩;cases q
    · rintro x xs y ys c d e1 e2 ⟨v,r,rfl,h1,h2⟩ ⟨v',r',q,h3,h4⟩
      cases q
      rw [ih.1 _ _ _ _ e1 h1 h3,ih.2 _ _ _ _ e2 h2 h4];rfl
theorem Eg (k:∀a o,g.I a=some o→s.heap.get? a=some o) (n:Nat) :
    (∀(A:Around) x y b v u,b9 n x y=some b→Rl prog w g N x v→Rl prog w g N y u→A.units+n<cLine→EqAt A s v u b∧RcAt A s v u b∧RcNeAt A s v u (!b))∧
    (∀(A:Around) xs ys b vs us,ib n xs ys=some b→RlL prog w g N xs vs→RlL prog w g N ys us→A.units+n<cLine→
      ∃e:Nat→Bool,(∀j (h1:j<vs.length) (h2:j<us.length),EqAt A s vs[j] us[j] (e j))∧b=((Wp (min vs.length us.length)).all e&&vs.length == us.length)):=by
  induction n with
  | zero=>exact ⟨fun A x y b v u e=>aa e,fun A xs ys b vs us e=>aa e⟩
  | succ n ih=>
    refine ⟨fun A x y b v u e r1 r2 hu=>?_,fun A xs ys b vs us e r1 r2 hu=>?_⟩
    · have hu':A.units<cLine:=Ue (Uf ..) hu
      have e0:=e
      revert e0 r1 r2
      refine S9 (fun x y b=>Rl prog w g N x v→Rl prog w g N y u→b9 (n+1) x y=some b→EqAt A s v u b∧RcAt A s v u b∧RcNeAt A s v u (!b)) e ?_ ?_ ?_ ?_ ?_ ?_ ?_ ?_ ?_ ?_ ?_
      · rintro (r1:v=_) (r2:u=_) -
        rw [r1,r2];exact ⟨.same _,.none_none,.none_none⟩
      · rintro x y (r1:v=_) (r2:u=_) -
        rw [r1,r2];exact ⟨.bool_bool _ _,.bool_bool _ _,.bool_bool _ _⟩
      · rintro i j ⟨t,rfl⟩ ⟨t',rfl⟩ -
        exact ⟨.int_int _ _ _ _,.int_int _ _ _ _,.int_int _ _ _ _⟩
      · rintro x y ⟨t,rfl⟩ ⟨t',rfl⟩ -
        rw [uw]
        exact ⟨.str_str _ _ _ _,.str_str _ _ _ _,.str_str _ _ _ _⟩
      · rintro xs ys e r1 r2 e0
        have r1':=r1
        have r2':=r2
        obtain ⟨a,vs,rfl,t1,l1⟩:=r1
        obtain ⟨c,us,rfl,t2,l2⟩:=r2
        obtain ⟨f,hf,q⟩:=ih.2 A.in1 _ _ _ _ _ e l1 l2 (Ue (Xw (U9 ..)) hu)
        have z1:=RcAt.tuples (e:=f) (t1.isTuple k) (t2.isTuple k) hu' hf
        have z2:=RcNeAt.tuples (e:=f) (t1.isTuple k) (t2.isTuple k) hu' hf
        have q:b=((Wp (min vs.toArray.size us.toArray.size)).all f&&vs.toArray.size == us.toArray.size):=q
        rw [← q] at z1 z2
        refine ⟨?_,z1,z2⟩
        by_cases hac:a=c
        · subst hac
          rw [(zfv (prog:=prog) (w:=w) (g:=g) (N:=N) (n+1)).1 _ _ _ _ e0 r1' r2'];exact .same _
        · exact .of_refs hac z1
      · rintro x (r1:v=_) ⟨t,rfl⟩ -
        rw [r1];exact ⟨.none_str _ _,.none_str _ _,.none_str _ _⟩
      · rintro x ⟨t,rfl⟩ (r1:u=_) -
        rw [r1];exact ⟨.str_none _ _,.str_none _ _,.str_none _ _⟩
      · rintro x (r1:v=_) ⟨a,vs,rfl,h,_⟩ -
        rw [r1];exact ⟨.none_tuple (h.isTuple k) hu',.none_tuple (h.isTuple k) hu',.none_tuple (h.isTuple k) hu'⟩
      · rintro x ⟨a,vs,rfl,h,_⟩ (r1:u=_) -
        rw [r1];exact ⟨.tuple_none (h.isTuple k) hu',.tuple_none (h.isTuple k) hu',.tuple_none (h.isTuple k) hu'⟩
      · rintro x y ⟨t,rfl⟩ ⟨a,vs,rfl,h,_⟩ -
        exact ⟨.str_tuple _ _ (h.isTuple k) hu',.str_tuple _ _ (h.isTuple k) hu',.str_tuple _ _ (h.isTuple k) hu'⟩
      · rintro x y ⟨a,vs,rfl,h,_⟩ ⟨t,rfl⟩ -
        exact ⟨.tuple_str _ _ (h.isTuple k) hu',.tuple_str _ _ (h.isTuple k) hu',.tuple_str _ _ (h.isTuple k) hu'⟩
    · revert r1 r2
      refine Qt (fun xs ys b=>RlL prog w g N xs vs→RlL prog w g N ys us→∃e:Nat→Bool,(∀j (h1:j<vs.length) (h2:j<us.length),EqAt A s vs[j] us[j] (e j))∧b=((Wp (min vs.length us.length)).all e&&vs.length == us.length)) e ?_ ?_ ?_ ?_
      · rintro rfl rfl
        exact ⟨fun J=>true,fun j h1=>absurd h1 (Tw _),rfl⟩
      · rintro x xs ⟨v,r,rfl,_⟩ rfl
        exact ⟨fun J=>true,fun j J h2=>absurd h2 (Tw _),(Vl _).symm⟩
      · rintro x xs rfl ⟨v,r,rfl,_⟩
        exact ⟨fun J=>true,fun j h1=>absurd h1 (Tw _),rfl⟩
      · rintro x xs y ys c d e1 e2 ⟨v,r,rfl,h1,h2⟩ ⟨u,r',rfl,h3,h4⟩
        have hu2:A.units+n<cLine:=Xh hu
        obtain ⟨f,hf,q⟩:=ih.2 A _ _ _ _ _ e2 h2 h4 hu2
        refine ⟨fun j=>match j with | 0=>c | j+1=>f j,fun j hj1 hj2=>?_,?_⟩
        · cases j with
          | zero=>exact (ih.1 A _ _ _ _ _ e1 h1 h3 hu2).1
          | succ j=>exact hf j (Tx hj1) (Tx hj2)
        · rw [q,Tl,Tl,Nat.succ_min_succ,zar,Yd]
          congr 1
          simp
end
section
theorem LstAt.isList{L:Addr→Option Obj}{a:Addr}{vs:List Value}(x:LstAt L a vs) (k:∀a o,L a=some o→h.get? a=some o):h.IsList a vs.toArray:=
  let ⟨n,e⟩:=x;⟨_,k _ _ e,rfl,n,rfl⟩
theorem LstAt.to{L L':Addr→Option Obj}{a:Addr}{vs:List Value}(x:LstAt L a vs) (k:∀a o,L a=some o→L' a=some o):LstAt L' a vs:=let ⟨n,e⟩:=x;⟨n,k _ _ e⟩
theorem DctAt.to{L L':Addr→Option Obj}{a:Addr}{ks:List Str}{vs:List Value}(x:DctAt prog w L a ks vs) (k:∀a o,L a=some o→L' a=some o):DctAt prog w L' a ks vs:=
  let ⟨o,e,r⟩:=x;⟨o,k _ _ e,r⟩
theorem DctAt.dictOf{a:Addr}{ks:List Str}{vs:List Value}(x:DctAt prog w h.get? a ks vs):h.DictOf (strKind prog w) a (ks.zip vs):=let ⟨o,e,r,_⟩:=x;Heap.dictOf_iff.mpr ⟨o,e,r⟩
theorem DctAt.ne{L:Addr→Option Obj}{a:Addr}{ks:List Str}{vs:List Value}(x:DctAt prog w L a ks vs):(a == sysModules)=false:=by
  obtain ⟨_,_,_,_,n⟩:=x
  simpa using n
theorem zp0(p:V→Prop) {v:V}{xs:List V}(e:bj σ v=some xs) (k1:p (.lst xs)) (k2:∀n,ab σ n=some (.lst xs)→p (.ref n)):p v:=
  (@Mine.V.casesOn (fun v=>bj σ v=some xs→p v) v aa (fun J=>aa) (fun J=>aa) (fun J=>aa) (fun J=>aa) (fun ys h=>br h▸k1) (fun J J=>aa) (fun J J J=>aa) (fun J J=>aa) (fun n h=>ad h fun o h1 h2=>k2 n (G1 h2▸h1)) (fun J=>aa)) e
theorem zp6(p:V→Prop) {v:V}{ks:List Str}{xs:List V}(e:mh σ v=some (ks,xs)) (k1:p (.dct ks xs)) (k2:∀n,ab σ n=some (.dct ks xs)→p (.ref n)):p v:=
  (@Mine.V.casesOn (fun v=>mh σ v=some (ks,xs)→p v) v aa (fun J=>aa) (fun J=>aa) (fun J=>aa) (fun J=>aa) (fun J=>aa) (fun J J h=>bf h fun h1 h2=>h1▸h2▸k1) (fun J J J=>aa) (fun J J=>aa) (fun n h=>ad h fun o h1 h2=>k2 n (Sa h2▸h1)) (fun J=>aa)) e
theorem j3{v:V}{xs:List V}{u:Value}(O:Ok prog w hb g σ h) (e:bj σ v=some xs) (r:Rl prog w g σ.next v u) :
    ∃a vs,u = .ref a∧LstAt h.get? a vs∧RlL prog w g σ.next xs vs:=by
  refine zp0 (fun v=>Rl prog w g σ.next v u→∃a vs,u = .ref a∧LstAt h.get? a vs∧RlL prog w g σ.next xs vs) e ?_ ?_ r
  · rintro ⟨a,vs,e,h1,h2⟩
    exact ⟨a,vs,e,h1.to O.sub,h2.up⟩
  · rintro n q ⟨_,e⟩
    obtain ⟨_,vs,h1,h2,_⟩:=O.obj _ _ q
    exact ⟨_,vs,e,h1,h2⟩
theorem tv{v:V}{ks:List Str}{xs:List V}{u:Value}(O:Ok prog w hb g σ h) (e:mh σ v=some (ks,xs)) (r:Rl prog w g σ.next v u) :
    ∃a vs,u = .ref a∧DctAt prog w h.get? a ks vs∧RlL prog w g σ.next xs vs:=by
  refine zp6 (fun v=>Rl prog w g σ.next v u→∃a vs,u = .ref a∧DctAt prog w h.get? a ks vs∧RlL prog w g σ.next xs vs) e ?_ ?_ r
  · rintro ⟨a,vs,e,h1,h2⟩
    exact ⟨a,vs,e,h1.to O.sub,h2.up⟩
  · rintro n q ⟨_,e⟩
    obtain ⟨_,vs,h1,h2,_⟩:=O.obj _ _ q
    exact ⟨_,vs,e,h1,h2⟩
theorem Ag{v:V}{xs:List V}{u:Value}(O:Ok prog w hb g σ h) (e:jx σ v=some xs) (r:Rl prog w g σ.next v u) :
    ∃a vs,u = .ref a∧((∃ys,v = .tup ys)∧h.IsTuple a vs.toArray∨LstAt h.get? a vs)∧RlL prog w g σ.next xs vs:=
  cq e (fun J e=>by
    obtain rfl:=pn e
    obtain ⟨a,vs,q,h1,h2⟩:=r
    exact ⟨a,vs,q,.inl ⟨⟨_,rfl⟩,h1.isTuple O.sub⟩,h2⟩) fun J e=>let ⟨a,vs,h1,h2,h3⟩:=j3 O e r;⟨a,vs,h1,.inr h2,h3⟩
theorem Fg{p:Prop}{a:V}(e:s6 σ a=some ()) (k:mh σ a=some ([],[])→p):p:=aw e fun ks xs h e=>bc e fun q J=>b7 q fun q1 q2=>k (jh q1▸jh q2▸h)
def zah (prog:Program) (w:World) (A:Around) (s:Shared) (v u:Value) (c:Bool):Prop:=
  (∀(Q E:Value→Shared→Prop),Q (.bool c) s→wpAny (model prog w) A (compareOp .Eq v u) Q E s)∧(∀(Q E:Value→Shared→Prop),Q (.bool (!c)) s→wpAny (model prog w) A (compareOp .NotEq v u) Q E s)
theorem zkv{xs ys:List V}{a b:Addr}{vs us:List Value}{c:Bool}(O:Ok prog w hb g σ s.heap) (e:Bz xs ys=some c) (h1:LstAt s.heap.get? a vs) (h3:LstAt s.heap.get? b us) (h2:RlL prog w g σ.next xs vs) (h4:RlL prog w g σ.next ys us) (hu:A.units+30<cLine):zah prog w A s (.ref a) (.ref b) c:=by
  have i1:=h1.isList (h:=s.heap) fun J J e=>e
  have i2:=h3.isList (h:=s.heap) fun J J e=>e
  have l1:=h2.length
  have l2:=h4.length
  have hu':A.units<cLine:=Ue (Uf ..) hu
  refine cq e (fun hl e=>?_) fun hl e=>?_
  · obtain ⟨f,hf,q⟩:=(Eg (prog:=prog) (w:=w) (g:=g) (s:=s) (N:=σ.next) O.sub ik).2 A.in1 _ _ _ _ _ e h2 h4 (show A.units+1+24<cLine by exact zoy ‹_› (by decide))
    have hsz:vs.toArray.size=us.toArray.size:=l1.trans ((Tu hl).trans l2.symm)
    have z1:=RcAt.lists (e:=f) i1 i2 hsz hu' hf
    have z2:=RcNeAt.lists (e:=f) i1 i2 hsz hu' hf
    have hq:(vs.length == us.length)=true:=beq_iff_eq.mpr hsz
    rw [show min vs.length us.length=vs.toArray.size from Nat.min_eq_left (Xw hsz),hq,Wk] at q
    rw [← q] at z1 z2
    exact ⟨fun Q E q=>z1 prog w E Q q,fun Q E q=>z2 prog w E Q q⟩
  · have hsz:(vs.toArray.size != us.toArray.size)=true:=bne_iff_ne.mpr fun q=>by
      rw [← l1.symm.trans ((show vs.length=us.length from q).trans l2 |>.symm |>.symm),Wi] at hl
      cases hl
    have z1:=RcAt.lists_lengths (A:=A) i1 i2 hsz hu'
    have z2:=RcNeAt.lists_lengths (A:=A) i1 i2 hsz hu'
    rw [← br e]
    exact ⟨fun Q E q=>z1 prog w E Q q,fun Q E q=>z2 prog w E Q q⟩
theorem Ms{a b:V}{c:Bool}{v u:Value}(O:Ok prog w hb g σ s.heap) (e:nh σ a b=some c) (r1:Rl prog w g σ.next a v) (r2:Rl prog w g σ.next b u) (hu:A.units+30<cLine):zah prog w A s v u c:=by
  refine cq e (fun J e=>?_) fun J e=>cq e (fun J e=>ad e fun xs e1 e=>ad e fun ys e2 e=>?_) fun J e=>ad e fun J e1 e=>ad e fun J e2 e=>?_
  · have z:=(Eg (prog:=prog) (w:=w) (g:=g) (s:=s) (N:=σ.next) O.sub ik).1 A _ _ _ _ _ e r1 r2 (show A.units+24<cLine by exact Fy ‹_› (by decide))
    exact ⟨fun Q E q=>z.2.1 prog w E Q q,fun Q E q=>z.2.2 prog w E Q q⟩
  · obtain ⟨a',vs,rfl,h1,h2⟩:=j3 O e1 r1
    obtain ⟨b',us,rfl,h3,h4⟩:=j3 O e2 r2
    exact zkv O e h1 h3 h2 h4 hu
  · obtain ⟨a',vs,rfl,h1,h2⟩:=Fg e1 fun e=>tv O e r1
    obtain ⟨b',us,rfl,h3,h4⟩:=Fg e2 fun e=>tv O e r2
    have hu':A.units<cLine:=Ue (Uf ..) hu
    rw [← br e]
    exact ⟨fun Q E q=>keq_eq (r:=true) h1.ne h3.ne h1.dictOf h3.dictOf (by assumption) (fun J=>.nil) q,fun Q E q=>keq_ne (r:=true) h1.ne h3.ne h1.dictOf h3.dictOf (by assumption) (fun J=>.nil) q⟩
theorem Mf {x:V}{u:Value}(O:Ok prog w hb g σ s.heap) (r2:Rl prog w g σ.next x u) (hu:A.units+30<cLine) :
    ∀{xs:List V}{vs:List Value}{c:Bool},vo x xs=some c→RlL prog w g σ.next xs vs→∃e:Value→Bool,(∀y,y∈vs→EqAt A s y u (e y))∧c=vs.any e:=by
  intro xs vs c hc r
  have key:∀{xs:List V}{vs:List Value}{c:Bool},vo x xs=some c→RlL prog w g σ.next xs vs→
      (∀y,y∈vs→EqAt A s y u ((xs.zip vs).any fun p=>p.2 == y&&b9 ik p.1 x == some true))∧c=(xs.zip vs).any fun p=>b9 ik p.1 x == some true:=by
    intro xs
    induction xs with
    | nil=>
      intro vs c hc r
      obtain rfl:vs=[]:=r
      rw [← br hc]
      exact ⟨fun y hy=>(nomatch hy),rfl⟩
    | cons a xs ih=>
      intro vs c hc r
      obtain ⟨v,r',rfl,h1,h2⟩:=r
      refine ad (x:=b9 ik a x) hc fun b e1 hc=>ad hc fun b' e2 hc=>?_
      · rw [← br hc]
        clear hc
        obtain ⟨k1,rfl⟩:=ih e2 h2
        have z:=((Eg (prog:=prog) (w:=w) (g:=g) (s:=s) (N:=σ.next) O.sub ik).1 A _ _ _ _ _ e1 h1 r2 (by show A.units+24<cLine;exact Fy ‹_› (by decide))).1
        refine ⟨fun y hy=>?_,?_⟩
        · rw [Ub,Xk]
          dsimp only
          rw [e1]
          cases b with
          | true=>
            by_cases q:v=y
            · subst q;simpa using z
            · have:(v == y)=false:=by simpa using q
              rw [this,U6,Vc]
              exact k1 y ((Tz.mp hy).resolve_left (Ne.symm q))
          | false=>
            have:(v == y&&some false == some true)=false:=by simp
            rw [this,Vc]
            by_cases q:y∈r'
            · exact k1 y q
            · obtain rfl:y=v:=(Tz.mp hy).resolve_right q
              have:((xs.zip r').any fun p=>p.2 == y&&b9 ik p.1 x == some true)=false:=by
                rw [Xi]
                rintro ⟨p1,p2⟩ hp
                have:p2≠y:=fun t=>q (t▸(X6 hp).2)
                simp [this]
              rw [this];exact z
        · rw [Ub,Xk]
          dsimp only
          rw [e1]
          cases b <;> rfl
  obtain ⟨k1,k2⟩:=key hc r
  refine ⟨_,k1,?_⟩
  rw [k2]
  have hl:=r.length
  rw [Wa,W0,W0]
  constructor
  · rintro ⟨⟨p1,p2⟩,hp,hq⟩
    exact ⟨p2,(X6 hp).2,W0.mpr ⟨⟨p1,p2⟩,hp,by simpa using hq⟩⟩
  · rintro ⟨y,hy,hq⟩
    obtain ⟨p,hp,hq⟩:=W0.mp hq
    exact ⟨p,hp,(Uh.mp hq).2⟩
theorem Ii{vs:List Value}:∀{ks:List Str}{vs:List Value}{x:Str},ks.length=vs.length→(valueAt (ks.zip vs) x).isSome=e9 x ks
  | [],vs,x,_=>by simp [valueAt,e9]
  | k::ks,[],x,h=>by cases h
  | k :: ks,v::vs,x,h=>by
    have ih:=Ii (vs:=vs) (ks:=ks) (x:=x) (Vm.inj h)
    rw [Ub,e9,tq]
    unfold valueAt at ih ⊢
    rw [List.find?_cons]
    by_cases q:x=k
    · subst q;simp
    · have q':¬ k=x:=fun t=>q t.symm
      simp only [q,q',decide_false,Ut,if_false]
      exact ih
def zno (prog:Program) (w:World) (A:Around) (s:Shared) (u v:Value) (b:Bool):Prop:=
  (∀(Q E:Value→Shared→Prop),(∀k,Q (.bool b) { s with toks:=k })→wpAny (model prog w) A (compareOp .In u v) Q E s)∧(∀(Q E:Value→Shared→Prop),(∀k,Q (.bool (!b)) { s with toks:=k })→wpAny (model prog w) A (compareOp .NotIn u v) Q E s)
theorem Oj{x c:V}{b:Bool}{u v:Value}(O:Ok prog w hb g σ s.heap) (e:vq σ x c=some b) (r1:Rl prog w g σ.next x u) (r2:Rl prog w g σ.next c v) (hu:A.units+31<cLine):zno prog w A s u v b:=by
  have hu':A.in1.units+30<cLine:=(show A.units+1+30<cLine by assumption)
  refine cq e (fun J e=>ad e fun xs e1 e=>?_) fun J e=>cq e (fun J e=>ad e fun xs e1 e=>?_) fun J e=>aw e fun ks xs e1 e=>ad e fun z e2 e=>?_
  · obtain rfl:=pn e1
    obtain ⟨a,vs,rfl,h1,h2⟩:=r2
    obtain ⟨f,hf,rfl⟩:=Mf (A:=A.in1) O r1 hu' e h2
    have i1:=h1.isTuple O.sub
    have he:∀y,y∈vs.toArray→EqAt A.in1 s y u (f y):=fun y hy=>hf y (List.mem_toArray.mp hy)
    have hany:vs.toArray.any f=vs.any f:=by simp
    exact ⟨fun Q E q=>in_tupleAt f i1 he (by rw [hany];exact q s.toks),fun Q E q=>notIn_tupleAt f i1 he (by rw [hany];exact q s.toks)⟩
  · obtain ⟨a,vs,rfl,h1,h2⟩:=j3 O e1 r2
    obtain ⟨f,hf,rfl⟩:=Mf (A:=A.in1) O r1 hu' e h2
    have i1:=h1.isList (h:=s.heap) fun J J e=>e
    have he:∀y,y∈vs.toArray→EqAt A.in1 s y u (f y):=fun y hy=>hf y (List.mem_toArray.mp hy)
    have hany:vs.toArray.any f=vs.any f:=by simp
    exact ⟨fun Q E q=>in_listAt f i1 he (by rw [hany];exact q s.toks),fun Q E q=>notIn_listAt f i1 he (by rw [hany];exact q s.toks)⟩
  · obtain ⟨a,vs,rfl,h1,h2⟩:=tv O e1 r2
    obtain rfl:=qu e2
    obtain ⟨t,rfl⟩:=r1
    have hl:ks.length=vs.length:=let ⟨_,_,_,l,_⟩:=h1;l
    have hv:=(Ii (vs:=vs) (x:=z) hl).trans (br e)
    have hk:(strKind prog w).is z (.str z t)=true:=by show Value.isStrOf z (.str z t)=true;simp [Value.isStrOf]
    exact ⟨fun Q E q=>wpAny_in_of hk h1.ne h1.dictOf.mapOf (by rw [hv];exact q _),fun Q E q=>wpAny_notIn_of hk h1.ne h1.dictOf.mapOf (by rw [hv];exact q _)⟩
end
section
theorem Jx{a:V}{c:Bool}{v:Value}(e:isNone a=some c) (r:Rl prog w g N a v):(v == Value.none)=c:=
  (@Mine.V.casesOn (fun a=>isNone a=some c→Rl prog w g N a v→(v == Value.none)=c) a (fun e r=>by rw [show v=Value.none from r,← br e];rfl) (fun J e r=>by rw [show v=Value.bool _ from r,← br e];rfl) (fun J e r=>let ⟨_,q⟩:=r;by rw [q,← br e];rfl) (fun J e r=>let ⟨_,q⟩:=r;by rw [q,← br e];rfl) (fun J e r=>let ⟨_,_,q,_⟩:=r;by rw [q,← br e];rfl) (fun J e r=>let ⟨_,_,q,_⟩:=r;by rw [q,← br e];rfl) (fun J J e r=>let ⟨_,_,q,_⟩:=r;by rw [q,← br e];rfl) (fun J J J e r=>let ⟨_,_,_,q,_⟩:=r;by rw [q,← br e];rfl) (fun J J e=>aa e) (fun J e r=>by rw [show v=Value.ref _ from r.2,← br e];rfl) (fun J e=>aa e)) e r
theorem Nu{b:V}(h:Gk b=true):b = .none:=(@Mine.V.casesOn (fun b=>Gk b=true→b = .none) b (fun J=>rfl) (fun J h=>nomatch h) (fun J h=>nomatch h) (fun J h=>nomatch h) (fun J h=>nomatch h) (fun J h=>nomatch h) (fun J J h=>nomatch h) (fun J J J h=>nomatch h) (fun J J h=>nomatch h) (fun J h=>nomatch h) (fun J h=>nomatch h)) h
theorem Am{p:Prop}{a b:V}{c:Bool}{v u:Value}{f:Int→Int→Bool}(e:yp a b f=some c) (r1:Rl prog w g N a v) (r2:Rl prog w g N b u) (k:∀i j t t',v = .int i t→u = .int j t'→f i j=c→p):p:=
  ad e fun i h1 e=>ad e fun j h2 e=>by
    obtain rfl:=m9 h1
    obtain rfl:=m9 h2
    obtain ⟨t,q⟩:=r1;obtain ⟨t',q'⟩:=r2
    exact k i j t t' q q' (br e)
theorem Ml{op:CmpOp}{a b:V}{c:Bool}{v u:Value}(O:Ok prog w hb g σ s.heap) (e:bo σ op a b=some c) (r1:Rl prog w g σ.next a v) (r2:Rl prog w g σ.next b u) (hu:A.units+31<cLine) :
    Does prog w hb A ak g σ s (compareOp op v u) σ (fun J J r=>r = .bool c):=fun Q E hQ=>by
  have q0:Q (.bool c) s:=hQ _ g s.heap s.toks (Ext.refl ..) O rfl
  have qk:∀k,Q (.bool c) { s with toks:=k }:=fun k=>hQ _ g s.heap k (Ext.refl ..) O rfl
  have hu':A.units+30<cLine:=Xh hu
  cases op with
  | Eq=>exact (Ms O e r1 r2 hu').1 Q E q0
  | NotEq=>exact ad (x:=nh σ a b) e fun c' e1 e=>(Ms O e1 r1 r2 hu').2 Q E (br e▸q0)
  | Lt=>exact Am e r1 r2 fun i j t t' q q' h=>q▸q'▸PyProof.Rows.lt_int (h▸q0)
  | LtE=>exact Am e r1 r2 fun i j t t' q q' h=>q▸q'▸PyProof.Rows.le_int (h▸q0)
  | Gt=>exact Am e r1 r2 fun i j t t' q q' h=>q▸q'▸PyProof.Rows.gt_int (h▸q0)
  | GtE=>exact Am e r1 r2 fun i j t t' q q' h=>q▸q'▸PyProof.Rows.ge_int (h▸q0)
  | Is=>
    refine bc e fun h e=>?_
    obtain rfl:=Nu h
    rw [show u=Value.none from r2]
    exact PySem.is_none (by rw [Jx e r1];exact q0)
  | IsNot=>
    refine ad (x:=Ho a b) e fun c' e1 ef=>bc e1 fun h e1=>?_
    obtain rfl:=Nu h
    rw [show u=Value.none from r2]
    exact PySem.isNot_none (by rw [Jx e1 r1,br ef];exact q0)
  | In=>exact (Oj O e r1 r2 hu).1 Q E qk
  | NotIn=>exact ad (x:=vq σ a b) e fun c' e1 e=>(Oj O e1 r1 r2 hu).2 Q E (br e▸qk)
end
section
theorem ww{a:Addr}{xs:List V}{vs:List Value}{n:Nat}(O:Ok prog w hb g σ h) (k:∀a o,h.get? a=some o→h'.get? a=some o) (ha:h.get? a=none)
    (e:h'.get? a=some { cls:=.type "list",data:=.seq vs.toArray n }) (r:RlL prog w g σ.next xs vs) :
    Ok prog w hb (g.addM σ.next a a) (push σ (.lst xs)) h'∧Ext ak g σ.next h (g.addM σ.next a a) (push σ (.lst xs)).next h'∧Rl prog w (g.addM σ.next a a) (push σ (.lst xs)).next (.ref σ.next) (.ref a):=by
  have hm:(g.addM σ.next a a).mu σ.next=a:=if_pos rfl
  have hd:(g.addM σ.next a a).de σ.next=a:=if_pos rfl
  have z:=zr (g:=g) (o:=.lst xs) O k ha ha ⟨_,e⟩ ⟨_,e⟩
    ⟨vs,⟨n,by rw [hm];exact e⟩,RlL.mono (g:=g) (g':=g.addM σ.next a a) (fun J J e=>e) (fun n hn=>(cf n hn).1) (T3 _) _ _ r,hd.trans hm.symm⟩
  exact ⟨z.1,z.2,Tr _,by rw [hm]⟩
theorem Mk{a:Addr}{xs:List V}{vs:List Value}{n:Nat}(O:Ok prog w hb g σ h) (k:∀a o,h.get? a=some o→h'.get? a=some o) (ha:h.get? a=none)
    (e:h'.get? a=some { cls:=.type "tuple",data:=.seq vs.toArray n }) (r:RlL prog w g σ.next xs vs) :
    ∃g',Ok prog w hb g' σ h'∧Ext ak g σ.next h g' σ.next h'∧Rl prog w g' σ.next (.tup xs) (.ref a):=by
  have z:=Ds (g:=g) O k ha e
  exact ⟨_,z.1,z.2,_,vs,rfl,⟨n,Ek⟩,r.ext z.2⟩
theorem tj(a b:Str):qe a b=a++b:=by
  obtain ⟨⟨a⟩⟩:=a;obtain ⟨⟨b⟩⟩:=b
  show (⟨(a++b).toArray⟩:Str)=⟨a.toArray++b.toArray⟩
  simp
theorem zb6(n:Nat) (vs:List Value) (acc:List Value):(Ys (fun x1 x2=>x1++x2) acc.toArray (Wf n vs.toArray))=(acc++(Wf n vs).flatten).toArray:=by
  induction n generalizing acc with
  | zero=>simp
  | succ n ih=>
    rw [W6,X7,W6,List.flatten_cons,← We]
    rw [show acc.toArray++vs.toArray=(acc++vs).toArray by simp,ih]
theorem Kv{N:Nat}{xs:List V}{vs:List Value}(r:RlL prog w g N xs vs):∀n,RlL prog w g N (gw n xs) (List.replicate n vs).flatten
  | 0=>.nil
  | n+1=>by rw [W6,List.flatten_cons];exact r.append (Kv r n)
theorem wg{i:Int}(e:j4 i=true):i.natAbs<1000000000:=by
  unfold j4 at e
  have:(i.natAbs+1).ble 1000000000=true:=e
  exact T7 this
theorem zcg{i:Int}(e:i.natAbs<1000000000):Builtin.Int.intBits i≤64:=by
  unfold Builtin.Int.intBits
  split
  · exact Ux _
  · rename_i h
    have h0:i.natAbs≠0:=by
      intro q;exact h (by simp [Int.natAbs_eq_zero.mp q])
    have:i.natAbs.log2<30:=(Nat.log2_lt h0).mpr (by exact Th ‹_› (by decide))
    exact Th ‹_› (by decide)
end
section
theorem g9{α:Type}{xs:List α}(h:sz xs=true):xs.length≤4096:=T7 h
theorem zag{xs ys:List V}{vs us:List Value}(k1:vs.length=xs.length) (k2:us.length=ys.length) (hs:(xs++ys).length≤4096):vs.toArray.size+us.toArray.size≤sizeLine:=by
  rw [T1,← k1,← k2] at hs
  exact Th hs (by rw [sizeLine_eq];decide)
theorem Nj{j:Int}(h:decide (0<j)=true):j≠0:=Int.ne_of_gt (of_decide_eq_true h)
theorem zj1{op:Operator}{i j k:Int}{t t':Tok}(O:Ok prog w hb g σ s.heap) (e:Gz op i j=some k) :
    Does prog w hb A ak g σ s (binaryOp op (.int i t) (.int j t')) σ (fun g' J r=>Rl prog w g' σ.next (.int k) r):=fun Q E hQ=>by
  have fin:∀{m:Int}{t'':Tok} {tk},m=k→Q (.int m t'') { s with heap:=s.heap,toks:=tk }:=fun {m t'' tk} q=>hQ _ g s.heap _ (Ext.refl ..) O ⟨t'',congrArg (Value.int · t'') q⟩
  cases op with
  | Add=>exact PyProof.Rows.add_int (fin (Uj.inj e))
  | Sub=>exact PyProof.Rows.sub_int (fin (Uj.inj e))
  | Mult=>exact bc e fun hs e=>PyProof.Rows.mul_int (fin (Uj.inj e)) (IntMulOk.of_right (zcg (wg hs)))
  | FloorDiv=>exact bc e fun hs e=>b7 hs fun h1 h2=>PyProof.Rows.floordiv_int (Nj h1) (fin (Uj.inj e)) (.inl (PyProof.noPylong_small (Tn (wg h2) (by decide))))
  | Mod=>exact bc e fun hs e=>PyProof.Rows.mod_int' (Nj hs) (fin (Uj.inj e))
  | Pow=>exact bc e fun hs e=>b7 hs fun h1 h2=>b7 h2 fun h2 h3=>PyProof.Rows.pow_int_small (of_decide_eq_true h1) (W9 (of_decide_eq_true h3) (by decide)) (Tn (wg h2) (by decide)) (fin (Uj.inj e))
  | _=>exact aa e
theorem zjg {xs ys:List V}{v u:Value}(O:Ok prog w hb g σ s.heap) (r1:Rl prog w g σ.next (.tup xs) v) (r2:Rl prog w g σ.next (.tup ys) u) (hs:(xs++ys).length≤4096) :
    Does prog w hb A ak g σ s (binaryOp .Add v u) σ (fun g' J r=>Rl prog w g' σ.next (.tup (xs++ys)) r):=fun Q E hQ=>by
  obtain ⟨t,vs,rfl,ho,l1⟩:=id r1
  obtain ⟨t',us,rfl,ho2,l2⟩:=id r2
  obtain ⟨n,ho⟩:=ho
  obtain ⟨n2,ho2⟩:=ho2
  have ho:=O.sub _ _ ho
  have ho2:=O.sub _ _ ho2
  have k1:=l1.length
  have k2:=l2.length
  by_cases hv:vs=[]
  · rw [hv] at k1
    rw [V7 k1.symm] at hQ
    exact concat_meets ⟨_,ho,rfl⟩ ⟨_,ho2,rfl⟩ noFill_tuple_add seq_tuple_add PySem.F.slot_tuple_add PySem.F.entry_tuple_add (PySem.F.args_tuple_add_2 _ _)
      (AutoSeq1.tuple___add___tuple_tuple_0 t vs.toArray n t' us.toArray n2 (by rw [hv];rfl)) ⟨ho,ho2,hQ _ g s.heap _ (Ext.refl ..) O r2⟩
  · by_cases hw:us=[]
    · rw [hw] at k2
      rw [V7 k2.symm,Vp] at hQ
      exact concat_meets ⟨_,ho,rfl⟩ ⟨_,ho2,rfl⟩ noFill_tuple_add seq_tuple_add PySem.F.slot_tuple_add PySem.F.entry_tuple_add (PySem.F.args_tuple_add_2 _ _)
        (AutoSeq1.tuple___add___tuple_tuple_1 t vs.toArray n t' us.toArray n2 (by simpa using hv) (by rw [hw];rfl)) ⟨ho,ho2,hQ _ g s.heap _ (Ext.refl ..) O r1⟩
    · refine concat_meets ⟨_,ho,rfl⟩ ⟨_,ho2,rfl⟩ noFill_tuple_add seq_tuple_add PySem.F.slot_tuple_add PySem.F.entry_tuple_add (PySem.F.args_tuple_add_2 _ _)
        (AutoSeq1.tuple___add___tuple_tuple_2 t vs.toArray n t' us.toArray n2 (by simpa using hv) (by simpa using hw) (zag k1 k2 hs)) ⟨ho,ho2,?_⟩
      rw [Yn]
      obtain ⟨g',z1,z2,z3⟩:=Mk O (ig s.heap { cls:=.type "tuple",data:=.seq (vs++us).toArray }) (em (To _)) (Tv _ rfl) (l1.append l2)
      exact hQ _ g' _ _ z2 z1 z3
theorem zic{xs ys:List V}{a b c:V}{v u:Value}(O:Ok prog w hb g σ s.heap) (e1:bj σ a=some xs) (e2:bj σ b=some ys) (r1:Rl prog w g σ.next a v) (r2:Rl prog w g σ.next b u) (e:pe σ (xs++ys)=some (c,σ')) :
    Does prog w hb A ak g σ s (binaryOp .Add v u) σ' (fun g' J r=>Rl prog w g' σ'.next c r):=fun Q E hQ=>by
  obtain ⟨t,vs,rfl,⟨n,ho⟩,l1⟩:=j3 O e1 r1
  obtain ⟨t',us,rfl,⟨n2,ho2⟩,l2⟩:=j3 O e2 r2
  refine bc e fun hs e=>bf e fun h1 h2=>?_
  subst h1 h2
  refine PySem.P.add_list ho ho2 ?_ (zag l1.length l2.length (g9 hs))
  rw [Yn]
  have z:=ww O (ig s.heap { cls:=.type "list",data:=.seq (vs++us).toArray }) (em (To _)) (Tv _ rfl) (l1.append l2)
  exact hQ _ _ _ s.toks z.2.1 z.1 z.2.2
theorem zg2(n:Nat) (vs:List Value):(Ys (fun x1 x2=>x1++x2) #[] (Wf (if vs.toArray.isEmpty=true then 0 else n) vs.toArray))=((Wf n vs).flatten).toArray:=by
  rcases vs with _ | ⟨v,vs⟩
  · rw [show (Wf n ([]:List Value)).flatten=[] by simp];rfl
  · exact zb6 n (v::vs) []
theorem ziw {xs:List V}{a c:V}{v:Value}{j:Int}{t':Tok}(O:Ok prog w hb g σ s.heap) (e1:bj σ a=some xs) (r1:Rl prog w g σ.next a v) (h0:0≤j) (hj:j<1000) (hs:(gw j.toNat xs).length≤4096) (ec:gi σ (.lst (gw j.toNat xs))=(c,σ')) :
    Does prog w hb A ak g σ s (binaryOp .Mult v (.int j t')) σ' (fun g' J r=>Rl prog w g' σ'.next c r):=fun Q E hQ=>by
  obtain ⟨t,vs,rfl,⟨n,ho⟩,l1⟩:=j3 O e1 r1
  cases ec
  have rr:=Kv (prog:=prog) (w:=w) l1 j.toNat
  have hle:j.toNat * vs.length≤4096:=by
    have kr:=rr.length
    rw [List.length_flatten,List.map_replicate,List.sum_replicate_nat] at kr
    rw [kr];exact hs
  refine wpAny_binaryOp_repeat_ref (T:="list") (U:="int") (by decide) ⟨_,ho,rfl⟩ (fun s'=>typeIs_int s' j t') noFill_list_mul PySem.F.fills_int_mul PySem.F.slot_int_rmul repeat_list PySem.F.slot_int_index.lookup
    (call_meets PySem.F.slot_int_rmul (typeIs_int s j t') PySem.F.entry_int_rmul (PySem.F.args_int_rmul_2 _ _) (int___rmul___int_list j t' t vs.toArray n)
      ⟨ho,rfl,⟨_,ho,rfl⟩,call_meets PySem.F.slot_list_mul ⟨_,ho,rfl⟩ PySem.F.entry_list_mul (PySem.F.args_list_mul_2 _ _)
        (AutoListH.list___mul___list_int_3 t vs.toArray n j t' (by simp [Builtin.List.listFitsIndex];exact zth ‹_› ‹_› (by decide)) (by simp only [Uo];rw [Yz] at hle;lia) (by rw [Yz] at hle;simp [Builtin.List.listTooLong,sizeLine];exact Th ‹_› (by decide)))
        ⟨ho,?_⟩⟩)
  rw [zg2]
  have z:=ww O (ig s.heap { cls:=.type "list",data:=.seq ((Wf j.toNat vs).flatten).toArray }) (em (To _)) (Tv _ rfl) rr
  exact hQ _ _ _ s.toks z.2.1 z.1 z.2.2
theorem zfh{x y:Str}{v u:Value}(O:Ok prog w hb g σ s.heap) (r1:Rl prog w g σ.next (.str x) v) (r2:Rl prog w g σ.next (.str y) u) (hs:x.cps.toList.length+y.cps.toList.length≤4096) :
    Does prog w hb A ak g σ s (binaryOp .Add v u) σ (fun g' J r=>Rl prog w g' σ.next (.str (qe x y)) r):=fun Q E hQ=>by
  obtain ⟨t,rfl⟩:=r1;obtain ⟨t',rfl⟩:=r2
  exact PyProof.Rows.add_str (fun t' tk=>hQ _ g s.heap _ (Ext.refl ..) O ⟨t',by rw [tj]⟩) (Th hs (by rw [sizeLine_eq];decide))
theorem zml{p:Prop}{op:Operator}{a b c:V}(e:ff σ op a b=some (c,σ')) (k1:∀i j k,a = .int i→b = .int j→Gz op i j=some k→c = .int k→σ=σ'→p)
    (k2:∀x y,op = .Add→a = .str x→b = .str y→x.cps.toList.length+y.cps.toList.length≤4096→c = .str (qe x y)→σ=σ'→p)
    (k3:∀xs ys,op = .Add→a = .tup xs→b = .tup ys→(xs++ys).length≤4096→c = .tup (xs++ys)→σ=σ'→p)
    (k4:∀xs ys,op = .Add→bj σ a=some xs→bj σ b=some ys→pe σ (xs++ys)=some (c,σ')→p)
    (k5:∀xs j,op = .Mult→bj σ a=some xs→b = .int j→0≤j→j<1000→(gw j.toNat xs).length≤4096→gi σ (.lst (gw j.toNat xs))=(c,σ')→p):p:=by
  refine cq e (fun J e=>ad e fun i h1 e=>ad e fun j h2 e=>ad e fun k h3 e=>bf e fun h4 h5=>k1 i j k (m9 h1) (m9 h2) h3 h4.symm h5) fun J e=>?_
  cases op with
  | Add=>
    refine cq e (fun J e=>ad e fun x h1 e=>ad e fun y h2 e=>bc e fun hs e=>bf e fun h4 h5=>k2 x y rfl (qu h1) (qu h2) (T7 hs) h4.symm h5) fun J e=>?_
    exact cq e (fun J e=>ad e fun x h1 e=>ad e fun y h2 e=>bc e fun hs e=>bf e fun h4 h5=>k3 x y rfl (pn h1) (pn h2) (g9 hs) h4.symm h5) fun J e=>ad e fun x h1 e=>ad e fun y h2 e=>k4 x y rfl h1 h2 e
  | Mult=>exact ad e fun x h1 e=>ad e fun j h2 e=>bc e fun hs e=>b7 hs fun hj hs=>k5 x j rfl h1 (m9 h2) (of_decide_eq_true hj).1 (of_decide_eq_true hj).2 (g9 hs) (Uj.inj e)
  | _=>exact aa e
theorem zir{op:Operator}{a b c:V}{v u:Value}(O:Ok prog w hb g σ s.heap) (e:ff σ op a b=some (c,σ')) (r1:Rl prog w g σ.next a v) (r2:Rl prog w g σ.next b u) :
    Does prog w hb A ak g σ s (binaryOp op v u) σ' (fun g' J r=>Rl prog w g' σ'.next c r):=by
  refine zml e ?_ ?_ ?_ ?_ ?_
  · rintro i j k rfl rfl h rfl rfl
    obtain ⟨t,rfl⟩:=r1;obtain ⟨t',rfl⟩:=r2
    exact zj1 O h
  · rintro x y rfl rfl rfl h rfl rfl
    exact zfh O r1 r2 h
  · rintro x y rfl rfl rfl h rfl rfl
    exact zjg O r1 r2 h
  · rintro x y rfl h1 h2 h
    exact zic O h1 h2 r1 r2 h
  · rintro x j rfl h1 rfl h2 h3 h4 h5
    obtain ⟨t',rfl⟩:=r2
    exact ziw O h1 r1 h2 h3 h4 h5
end
theorem zgf(l:List Value):(Wp l.length).reverse.filterMap (l[·]?)=l.reverse:=by
  rw [List.filterMap_reverse]
  congr 1
  induction l with
  | nil=>rfl
  | cons x l ih=>
    rw [Tl,Xy,W7]
    simp only [List.getElem?_cons_zero,Yt]
    rw [show (fun x_1=>(x::l)[x_1]?) ∘ Vm=(l[·]?) from by funext i;simp,ih]
theorem zbw(n:Nat):sliceRange n 0 (-1)=(Wp n).reverse.map (· + 1):=by
  unfold sliceRange
  rw [if_neg (by decide),Int.sub_zero,Int.sub_neg,Int.add_sub_cancel,Int.neg_neg,Int.ediv_one]
  have hc:(if (n:Int) > 0 then (n:Int) else 0).toNat=n:=by
    cases n with
    | zero=>rfl
    | succ n=>rw [if_pos (X5.mpr (U0 n))];rfl
  dsimp only
  rw [hc]
  refine List.ext_getElem (by rw [Tm,Tm,Vg]) fun i h1 h2=>?_
  rw [Tm,List.length_range] at h1
  rw [List.getElem_map,List.getElem_map,List.getElem_reverse,Yu,Yu,List.length_range,Int.neg_mul,Int.one_mul,← Int.sub_eq_add_neg,Int.toNat_sub,Nat.sub_right_comm,Vw (Nat.sub_pos_of_lt h1)]
theorem zbl(vs:List Value):slicePick vs.toArray none (some 0) (some (-1))=(vs.drop 1).reverse.toArray:=by
  cases vs with
  | nil=>rfl
  | cons x l=>
    unfold slicePick
    have hb:sliceBounds none (some 0) (some (-1)) (x::l).toArray.size=((l.length:Int),0,-1):=by
      unfold sliceBounds
      show ((((l.length+1:Nat):Int)-1),max (-1) (min 0 (((l.length+1:Nat):Int)-1)),(-1:Int))=_
      rw [show (((l.length+1:Nat):Int)-1)=(l.length:Int) from Int.add_sub_cancel (l.length:Int) 1,Int.min_eq_left (Int.natCast_nonneg _)]
      rfl
    rw [hb]
    dsimp only
    rw [zbw,Yt]
    exact congrArg Vt ((congrArg (fun f=>List.filterMap f (Wp l.length).reverse) (funext fun i=>by simp)).trans (zgf l))
section
theorem Dy:∀{xs:List V}{j:Nat}{x:V},dr xs j=some x→∀{vs:List Value}{N:Nat},RlL prog w g N xs vs→∃v,vs[j]?=some v∧Rl prog w g N x v
  | [],_,_,e,_,_,_=>aa e
  | y::r,0,x,e,_,_,k=>by
    obtain ⟨v,r',rfl,h1,_⟩:=k
    exact ⟨v,rfl,br e▸h1⟩
  | y::r,j+1,x,e,_,_,k=>by
    obtain ⟨v,r',rfl,_,h2⟩:=k
    exact Dy (xs:=r) e h2
theorem Du(p:Nat→Prop) {k:Int}{n j:Nat}(e:An k n=some j) (k1:0≤k→k<n→p k.toNat) (k2:k<0→0≤k+n→p (k+n).toNat):p j:=
  cq e (fun h e=>bc e fun h2 e=>br e▸k1 (of_decide_eq_true h) (of_decide_eq_true h2)) fun h e=>bc e fun h2 e=>br e▸k2 (Int.not_le.mp (of_decide_eq_false h)) (of_decide_eq_true h2)
theorem zdk{k:Int}{n j:Nat}(e:An k n=some j):seqIndex? k n=some j:=by
  unfold seqIndex?
  refine Du (fun j=>_=some j) e (fun h1 h2=>?_) fun h1 h2=>?_
  · rw [if_neg (Int.not_lt.mpr h1)]
    exact if_pos (by simp;exact ⟨h1,h2⟩)
  · rw [if_pos h1]
    exact if_pos (by simp;exact zos ‹_› ‹_›)
theorem B7{x:Str}{V':V}:∀{ks:List Str}{xs:List V}{vs:List Value}{N:Nat},d8 x ks xs=some V'→RlL prog w g N xs vs→∃v,valueAt (ks.zip vs) x=some v∧d8 x ks vs=some v∧Rl prog w g N V' v
  | [],_,_,_,e,_=>aa e
  | k::ks,[],_,_,e,_=>aa e
  | k :: ks,y::xs,_,N,e,r=>by
    obtain ⟨v,r',rfl,h1,h2⟩:=r
    rw [Ub]
    unfold valueAt
    rw [List.find?_cons]
    refine cq e (fun q e=>?_) fun q e=>?_
    · rw [lf q]
      exact ⟨v,by simp,if_pos (kt k),br e▸h1⟩
    · obtain ⟨u,e1,e2,e3⟩:=B7 (vs:=r') e h2
      refine ⟨u,?_,(if_neg (by rw [q];exact Ts)).trans e2,e3⟩
      have q':¬ k=x:=fun t=>by rw [t,kt] at q;cases q
      simp only [q',decide_false]
      exact e1
theorem zgd{value slice:Expr}{o x:V}{ov:Value}{k:Int}{t:Tok}(O:Ok prog w hb g σ s.heap) (e:Qh σ o k=some x) (r1:Rl prog w g σ.next o ov) (hs:∀o i,subscripted slice false o i=operate [o,i] (getItem o i)) :
    Does prog w hb A ak g σ s (subscriptTail value slice ov (.int k t)) σ (fun g' J r=>Rl prog w g' σ.next x r):=fun Q E hQ=>by
  refine ad (x:=jx σ o) e fun xs e1 e=>bc e fun hz e=>ad e fun j hj e=>?_
  have hz:=g9 hz
  obtain ⟨a,vs,rfl,hc,l⟩:=Ag O e1 r1
  obtain ⟨v,hv,rv⟩:=Dy e l
  have q:=hQ v g s.heap s.toks (Ext.refl ..) O rv
  rw [← l.length] at hz hj
  clear e e1 r1 l hQ
  rcases hc with ⟨_,ht⟩ | hl
  · have hr : -(4096:Int)≤k∧k<4096:=Du (fun J=>_) hj (fun h1 h2=>by exact zql ‹_› ‹_› ‹_›) fun h1 h2=>by exact zo9 ‹_› ‹_› ‹_›
    exact item_tupleT (show IsTup s.heap a vs.toArray from ht) (by exact zsc ‹_› (by decide)) (by exact zs9 ‹_› (by decide)) (zdk hj) hv q (hs _ _)
  · have il:=hl.isList (h:=s.heap) fun J J e=>e
    refine tail_any il.typeIs PySem.F.slot_list_getitem.lookup ?_ (hs _ _)
    revert hv
    refine Du (fun j=>vs[j]?=some v→_) hj (fun h1 h2 hv=>?_) fun h1 h2 hv=>?_
    · exact wpAny_getItem_list il h1 (by exact P8 ‹_› ‹_› (by decide)) (by simpa using hv) q
    · exact wpAny_getItem_list_neg il h1 (by simp only [Uo];lia) (by lia) (by simpa using hv) q
theorem zhu{value slice:Expr}{o i x:V}{ov iv:Value}(O:Ok prog w hb g σ s.heap) (e:di σ o i=some x) (r1:Rl prog w g σ.next o ov) (r2:Rl prog w g σ.next i iv)
    (hs:∀o i,subscripted slice false o i=operate [o,i] (getItem o i)) :
    Does prog w hb A ak g σ s (subscriptTail value slice ov iv) σ (fun g' J r=>Rl prog w g' σ.next x r):=by
  refine cq e (fun J e=>ad e fun k h1 e=>?_) fun J e=>ad e fun z h1 e=>aw e fun ks vs' e1 e=>?_
  · rw [m9 h1] at r2
    obtain ⟨t,rfl⟩:=r2
    exact zgd O e r1 hs
  · rw [qu h1] at r2
    obtain ⟨t,rfl⟩:=r2
    obtain ⟨a,vs,rfl,hd,l⟩:=tv O e1 r1
    obtain ⟨v,hv,_,rv⟩:=B7 e l
    have hk:(strKind prog w).is z (.str z t)=true:=by show Value.isStrOf z (.str z t)=true;simp [Value.isStrOf]
    exact fun Q E hQ=>tail_any hd.dictOf.mapOf.typeIs slot_dict_getitem.lookup (wpAny_getItem_of hk hd.dictOf.mapOf hv (hQ v g s.heap _ (Ext.refl ..) O rv)) (hs _ _)
end
section
structure ClsOk (K:Frag) (C:Addr) (c:ClsD):Prop where
  ga:findIn K (.ref C) "__getattribute__"=some (some (.builtin "object.__getattribute__"))
  gk:findIn K (.ref C) "__getattr__"=some none
  sa:findIn K (.ref C) "__setattr__"=some (some (.builtin "object.__setattr__"))
  over:plainOver K C=true
  dict:(clsIn K C).any (·.hasDict)=true
  makes:makesIn K C=true
  init:findIn K (.ref C) "__init__"=some (some (.ref c.init))
  initf:typeIn K (.ref c.init)=some (.type "function")
  meth:∀m f,ry m c.meths=some f→findIn K (.ref C) m=some (some (.ref f))∧typeIn K (.ref f)=some (.type "function")
  attr:∀m,e9 m c.attrs=true→findIn K (.ref C) m=some none∧copiedNames.contains m=false
  shade:∀m f,ry m c.meths=some f→e9 m c.attrs=false
section
variable {C:Addr}{c:ClsD}{ks:List Str}{xs:List V}
theorem fE{p:Prop}(h:false=true):p:=nomatch h
theorem H1{o:Expr}{attr:Str}{env:Env}{t:Sem Value}(e:jq o=true):attributeBase o attr env t=t:=
  (@Tt (fun o=>jq o=true→attributeBase o attr env t=t) o (fun J J J=>fun J=>rfl) (fun J J J=>fun J=>rfl) (fun J J J J=>fun J=>rfl) (fun J J J=>fun J=>rfl) (fun J J J J=>fun J=>rfl) (fun J J J J=>fun J=>rfl) (fun J J J=>fun J=>rfl) (fun J J J=>fun J=>rfl) (fun J J J J=>fun J=>rfl) (fun J J J J=>fun J=>rfl) (fun J J J J J=>fun J=>rfl) (fun J J J J=>fun J=>rfl) (fun J J=>fun J=>rfl) (fun J J=>fun J=>rfl) (fun J J=>fun J=>rfl) (fun J J J J=>fun J=>rfl) (fun f args kws pos=>@Tt (fun f=>jq (.Call f args kws pos)=true→attributeBase (.Call f args kws pos) attr env t=t) f (fun J J J=>fun J=>rfl) (fun J J J=>fun J=>rfl) (fun J J J J=>fun J=>rfl) (fun J J J=>fun J=>rfl) (fun J J J J=>fun J=>rfl) (fun J J J J=>fun J=>rfl) (fun J J J=>fun J=>rfl) (fun J J J=>fun J=>rfl) (fun J J J J=>fun J=>rfl) (fun J J J J=>fun J=>rfl) (fun J J J J J=>fun J=>rfl) (fun J J J J=>fun J=>rfl) (fun J J=>fun J=>rfl) (fun J J=>fun J=>rfl) (fun J J=>fun J=>rfl) (fun J J J J=>fun J=>rfl) (fun J J J J=>fun J=>rfl) (fun J J J J=>fun J=>rfl) (fun J J=>fun J=>rfl) (fun J J J=>fun J=>rfl) (fun J J J=>fun J=>rfl) (fun J J J=>fun J=>rfl) (fun J J=>fun J=>rfl) (fun id p=>by
    rcases args with _ | ⟨a,as⟩
    · rcases kws with _ | ⟨k,ks⟩
      · exact fE
      · exact fun J=>rfl
    · exact fun J=>rfl) (fun J J=>fun J=>rfl) (fun J J J=>fun J=>rfl) (fun J J J J=>fun J=>rfl)) (fun J J J J=>fun J=>rfl) (fun J J=>fun J=>rfl) (fun J J J=>fun J=>rfl) (fun J J J=>fun J=>rfl) (fun J J J=>fun J=>rfl) (fun J J=>fun J=>rfl) (fun J J=>fun J=>rfl) (fun J J=>fun J=>rfl) (fun J J J=>fun J=>rfl) (fun J J J J=>fun J=>rfl)) e
theorem zbe(es:Array DictEntry) (name:Str):nsFind es name=(es.toList.find? (·.key.isStr name)).map (·.val):=by
  unfold nsFind findBy
  rw [← Array.find?_toList]
theorem Jh{od:Obj}{m:Str→Option Value}{B:Nat}(x:ue od m B) (name:Str):lookIn name od=some (m name):=by
  obtain ⟨es,ep,hd,hk,hf,_⟩:=x
  unfold lookIn
  rw [hd]
  dsimp only
  have:=hf name
  rw [zbe] at this
  cases q:es.toList.find? (·.key.isStr name) with
  | some e=>rw [q] at this;dsimp only;rw [← this];rfl
  | none=>
    rw [q] at this
    dsimp only
    have hr:es.toList.any (·.refKey)=false:=by
      rw [Xi]
      intro e he
      obtain ⟨n,t,hn⟩:=hk e (by simpa using he)
      simp [DictEntry.refKey,hn]
    rw [hr,if_neg Ts,← this];rfl
theorem zqo(p:V→Prop) {v:V}(e:fg σ v=some (C,ks,xs)) (k1:p (.obj C ks xs)) (k2:∀n,ab σ n=some (.obj C ks xs)→p (.ref n)):p v:=
  (@Mine.V.casesOn (fun v=>fg σ v=some (C,ks,xs)→p v) v aa (fun J=>aa) (fun J=>aa) (fun J=>aa) (fun J=>aa) (fun J=>aa) (fun J J=>aa) (fun J J J h=>jv h fun h1 h2 h3=>h1▸h2▸h3▸k1) (fun J J=>aa) (fun n h=>ad h fun o h1 h2=>k2 n (S3 h2▸h1)) (fun J=>aa)) e
theorem N9{v:V}{u:Value}(O:Ok prog w hb g σ h) (e:fg σ v=some (C,ks,xs)) (r:Rl prog w g σ.next v u) :
    ∃a d vs,u = .ref a∧ObjAt h.get? a d C ks vs∧RlL prog w g σ.next xs vs:=by
  refine zqo (fun v=>Rl prog w g σ.next v u→∃a d vs,u = .ref a∧ObjAt h.get? a d C ks vs∧RlL prog w g σ.next xs vs) e ?_ ?_ r
  · rintro ⟨a,d,vs,e,⟨h1,od,h2,h3⟩,h4⟩
    exact ⟨a,d,vs,e,⟨O.sub _ _ h1,od,O.sub _ _ h2,h3⟩,h4.up⟩
  · rintro n q ⟨_,e⟩
    obtain ⟨_,vs,h1,h2⟩:=O.obj _ _ q
    exact ⟨_,_,vs,e,h1,h2⟩
theorem zdh{x:V}{v:Value}{N:Nat}(hv:∀u,x≠.val u) (r:Rl prog w g N x v):handedIn v=true:=
  (@Mine.V.casesOn (fun x=>(∀u,x≠.val u)→Rl prog w g N x v→handedIn v=true) x (fun J r=>(show v=_ from r)▸rfl) (fun J J r=>(show v=_ from r)▸rfl) (fun J J r=>r.elim fun J q=>q▸rfl) (fun J J r=>r.elim fun J q=>q▸rfl) (fun J J r=>r.elim fun J r=>r.elim fun J q=>q.1▸rfl) (fun J J r=>r.elim fun J r=>r.elim fun J q=>q.1▸rfl) (fun J J J r=>r.elim fun J r=>r.elim fun J q=>q.1▸rfl) (fun J J J J r=>r.elim fun J r=>r.elim fun J r=>r.elim fun J q=>q.1▸rfl) (fun J J J r=>r.elim fun J q=>q.1▸rfl) (fun J J r=>r.2▸rfl) (fun J h=>absurd rfl (h _))) hv r
theorem ObjAt.inst{a d:Addr}{vs:List Value}(x:ObjAt h.get? a d C ks vs):∃od,InstAt h a (instObj C d) C (some od)∧ue od (fun k=>d8 k ks vs) ks.length:=by
  obtain ⟨h1,od,h2,h3,_⟩:=x
  exact ⟨od,⟨h1,rfl,rfl,h2⟩,h3⟩
theorem zfy{x:Str}{V':V}:∀{ks:List Str}{xs:List V}{vs:List Value}{N:Nat},d8 x ks xs=some V'→RlL prog w g N xs vs→∃v,d8 x ks vs=some v∧Rl prog w g N V' v:=fun e r=>
  let ⟨v,_,h2,h3⟩:=B7 e r
  ⟨v,h2,h3⟩
theorem zca{m:Str}{o x:V}{ov:Value}{b:Bool}(X:K.In hb) (Z:ClsOk K C c) (O:Ok prog w hb g σ s.heap) (e:fg σ o=some (C,ks,xs)) (ha:e9 m c.attrs=true) (hx:d8 m ks xs=some x) (hv:∀u,x≠.val u)
    (r:Rl prog w g σ.next o ov):Does prog w hb A ak g σ s (getAttr ov m true) σ (fun g' J u=>Rl prog w g' σ.next x u):=fun Q E hQ=>by
  obtain ⟨a,d,vs,rfl,h1,h2⟩:=N9 O e r
  obtain ⟨od,I,hn⟩:=h1.inst
  obtain ⟨v,k1,k2⟩:=zfy hx h2
  obtain ⟨cd,hc,hd⟩:=any_some Z.dict
  have hh:handedIn v=true:=zdh hv k2
  refine get_value (X.keeps O.keeps) I Z.ga ?_ hh (hQ v g s.heap _ (Ext.refl ..) O k2)
  unfold findObj
  rw [hc,Xp,(Z.attr m ha).1,Xp]
  dsimp only [Xp]
  unfold W.ownOf
  rw [hd,if_pos rfl]
  dsimp only
  rw [Jh hn m,k1]
  rfl
theorem zrs{α:Type}{p:Prop}{b:Bool}{x:α}{y:Option α}(h:(if b=true then some x else y)=none) (k:b=false→y=none→p):p:=by
  cases b
  · exact k rfl h
  · exact nomatch h
theorem za3 {m:Str}{o:V}{ov:Value}{f:Addr}{pl:Sem Bool}{Q:Value×List Value→Shared→Prop}{E:Value→Shared→Prop}(X:K.In hb) (Z:ClsOk K C c) (O:Ok prog w hb g σ s.heap) (e:fg σ o=some (C,ks,xs))
    (hm:ry m c.meths=some f) (hk:d8 m ks xs=none) (r:Rl prog w g σ.next o ov) (q:Q (.ref f,[ov]) s):wpAny (model prog w) A (getMethod ov m pl) Q E s:=by
  obtain ⟨a,d,vs,rfl,h1,h2⟩:=N9 O e r
  have hl:ks.length=vs.length:=let ⟨_,_,_,_,l⟩:=h1;l
  obtain ⟨od,I,hn⟩:=h1.inst
  obtain ⟨f1,f2⟩:=Z.meth m f hm
  have hno:d8 m ks vs=none:=by
    have:∀{ks:List Str}{xs:List V}{vs:List Value},xs.length=vs.length→d8 m ks xs=none→d8 m ks vs=none:=by
      intro ks
      induction ks with
      | nil=>intro xs vs _ _;rfl
      | cons k ks ih=>
        intro xs vs hl hk
        cases xs with
        | nil=>cases vs with
          | nil=>rfl
          | cons _ _=>cases hl
        | cons y xs=>cases vs with
          | nil=>cases hl
          | cons v vs=>
            exact zrs hk fun q hk=>(if_neg (by rw [q];exact Ts)).trans (ih (Vm.inj hl) hk)
    exact this h2.length.symm hk
  refine method_fn (X.keeps O.keeps) I Z.ga Z.gk f1 f2 ?_ q
  unfold shadowIn
  dsimp only
  rw [Jh hn m,hno];rfl
end
end
section
section
theorem Dj{α:Type}(x:Str) (v:α):∀(ks:List Str) (vs:List α),ks.length=vs.length→(c8 x v ks vs).1.length=(c8 x v ks vs).2.length
  | [],[],_=>rfl
  | [],_::_,h=>nomatch h
  | _::_,[],h=>nomatch h
  | k::ks,u::vs,h=>by
    unfold c8
    split
    · exact h
    · exact congrArg Vm (Dj x v ks vs (Vm.inj h))
theorem I8 {α:Type}(x:Str) (v:α):∀(ks:List Str) (vs:List α),ks.length=vs.length→∀y,d8 y (c8 x v ks vs).1 (c8 x v ks vs).2=if y=x then some v else d8 y ks vs
  | [],[],_,y=>by
    simp only [c8,d8,tq]
    by_cases q:y=x <;> simp [q]
  | [],_::_,h,_=>nomatch h
  | _::_,[],h,_=>nomatch h
  | k :: ks,u::vs,h,y=>by
    unfold c8
    by_cases q:x=k
    · subst q
      rw [kt,if_pos rfl]
      simp only [d8,tq]
      by_cases p:y=x <;> simp [p]
    · rw [pf q,if_neg Ts]
      simp only [d8]
      rw [I8 x v ks vs (Vm.inj h) y]
      by_cases p:y=k
      · subst p
        rw [kt,if_pos rfl,if_neg (Ne.symm q)];rfl
      · rw [pf p,if_neg Ts]
        by_cases p':y=x <;> simp [p']
end
section
variable {C:Addr}{c:ClsD}{ks:List Str}{xs:List V}
theorem Dh(x:Str) {V':V}{v:Value}(hr:Rl prog w g N V' v):∀{ks:List Str}{xs:List V}{vs:List Value},ks.length=xs.length→RlL prog w g N xs vs→
    (c8 x V' ks xs).1=(c8 x v ks vs).1∧RlL prog w g N (c8 x V' ks xs).2 (c8 x v ks vs).2
  | [],[],_,_,r=>by
    obtain rfl:_=[]:=r
    exact ⟨rfl,.cons hr .nil⟩
  | k :: ks,y::xs,_,h,r=>by
    obtain ⟨u,vs,rfl,h1,h2⟩:=r
    unfold c8
    by_cases q:x=k
    · subst q
      rw [kt,if_pos rfl,if_pos rfl]
      exact ⟨rfl,.cons hr h2⟩
    · rw [pf q,if_neg Ts,if_neg Ts]
      obtain ⟨i1,i2⟩:=Dh x hr (Vm.inj h) h2
      exact ⟨by dsimp only;rw [i1],.cons h1 i2⟩
theorem Jm{α:Type}(x:Str) (v:α):∀(ks:List Str) (vs:List α),ks.length=vs.length→(c8 x v ks vs).1.length=cond (d8 x ks vs).isSome ks.length (ks.length+1)
  | [],[],_=>rfl
  | k :: ks,u::vs,h=>by
    have ih:=Jm x v ks vs (Vm.inj h)
    have e1:d8 x (k::ks) (u::vs)=if seq x k then some u else d8 x ks vs:=rfl
    rw [e1]
    unfold c8
    by_cases q:seq x k=true
    · rw [if_pos q,if_pos q];rfl
    · rw [if_neg q,if_neg q]
      show (c8 x v ks vs).1.length+1=_
      rw [ih]
      cases (d8 x ks vs).isSome <;> rfl
theorem zlc {M:Model}{E:Value→Shared→Prop}{d:Addr}{od:Obj}{mm:Str→Option Value}{B:Nat}{name:Str}{v:Value}{Q:Unit→Shared→Prop}(hd:s.heap.get? d=some od) (hn:ue od mm B)
    (hQ:∀od' h',h'.get? d=some od'→ue od' (fun x=>if x=name then some v else mm x) (cond (mm name).isSome B (B+1))→Ve d s.heap h'→Q () { s with heap:=h',toks:=s.toks+1 }) :
    wpAny M A (nsSet d name v) Q E s:=fun Γ p J=>by
  obtain ⟨es,ep,hdd,hk,hm,hz⟩:=hn
  simp only [nsSet,strHash,Sem.wp_bind',Sem.wp_cmd_ask,Sem.wp_pure',Sem.wp_cmd_mkText]
  rw [Sem.wp_loadPart_of M Γ _ p { s with toks:=s.toks+1 } (o:=od) _ hd]
  have hany:es.any (·.refKey)=false:=by
    rw [Array.any_eq_false'];intro e he;obtain ⟨n,t,h⟩:=hk e he;simp [DictEntry.refKey,h]
  simp only [hdd,aRefKeyMayBeTheName_eq,aRefKeyMayBeTheNameByArray,hany,Vl,Ut,if_false,Sem.wp_cmd_updatePart]
  have hmn:=hm name
  obtain ⟨c,d',dt,sl⟩:=od
  subst hdd
  refine ⟨by rw [hd];rfl,?_⟩
  cases hi:es.findIdx? (·.key.isStr name) with
  | some i=>
    have hs:(mm name).isSome=true:=by
      rw [← hmn]
      unfold nsFind
      rw [findBy_of_findIdx?]
      simp only [hi]
      have:=(Array.findIdx?_eq_some_iff_getElem.mp hi).1
      simp [this]
    refine hQ _ _ (Un _ hd (by simp only [Obj.putName_eq,Obj.putNameByArray,hi];rfl)) ⟨_,ep,by simp only [Obj.putName_eq,Obj.putNameByArray,hi];rfl,hk.modify _ _,fun x=>?_,?_⟩ (Ve.update ..)
    · show _=if x=name then some v else mm x
      rw [← hm];exact findBy_modify (fun n v=>v.isStr n) Value.isStr_inj es name x v i hi
    · rw [hs,Array.size_modify];exact hz
  | none=>
    have hs:(mm name).isSome=false:=by
      rw [← hmn]
      unfold nsFind
      rw [findBy_of_findIdx?]
      simp only [hi]
      rfl
    refine hQ _ _ (Un _ hd (by simp only [Obj.putName_eq,Obj.putNameByArray,hi];rfl)) ⟨_,ep+1,by simp only [Obj.putName_eq,Obj.putNameByArray,hi];rfl,hk.push _ _ _ _,fun x=>?_,?_⟩ (Ve.update ..)
    · show _=if x=name then some v else mm x
      rw [← hm]
      exact findBy_push (fun n v=>v.isStr n) es name x _ _ v (fun y=>by
        show (name == y)=decide (y=name)
        by_cases h:y=name
        · subst h;simp
        · have:¬ name=y:=fun e=>h e.symm
          simp [h,this]) hi
    · rw [hs,Array.size_push];show _≤B+1;exact Ug ‹_›
theorem zlj{R:Result→Shared→Prop}{a d:Addr}{od:Obj}{m:Str}{tk:Tok}{v:Value}{mm:Str→Option Value}{B:Nat}(X:K.In s.heap) (Z:ClsOk K C c) (I:InstAt s.heap a (instObj C d) C (some od)) (hd:s.heap.get? d=some od) (hn:ue od mm B) (hB:B≤4096) (ha:e9 m c.attrs=true)
    (hR:∀od' h',h'.get? d=some od'→ue od' (fun x=>if x=m then some v else mm x) (cond (mm m).isSome B (B+1))→Ve d s.heap h'→R (.ok (.ret .none)) { s with heap:=h',toks:=s.toks+1 }) :
    codeAny (model prog w) A (.call (.builtin "object.__setattr__") ⟨[.ref a,.str m tk,v],[]⟩) R s:=by
  have ht:takerIn K C m=some none:=by unfold takerIn;rw [(Z.attr m ha).1];rfl
  refine osa_open X I Z.over ht fun b=>?_
  obtain ⟨cd,hc,hd'⟩:=any_some Z.dict
  have hx:=I.at_
  refine Y3 (Y4 (Y3 (Y3 (wpAny_loadPart hx (Y3 ((looks_clsIn X hc).here ?_))))))
  rw [hd']
  refine Y4 (a:=some d) (Y3 (Y4 (Y3 ?_)))
  refine zlc hd hn fun od' h' o' n' s'=>?_
  obtain ⟨es,ep,q1,q2,q3,q4⟩:=id n'
  refine Y3 (wpAny_lookBehind (o:=od') o' ?_ (Y4 (hR od' h' o' n' s')))
  rw [q1]
  refine pastItsLine_dict ?_
  have:cond (mm m).isSome B (B+1)≤4097:=by cases (mm m).isSome <;> simp only [cond] <;> (first | exact Ue ‹_› (by decide) | exact Th ‹_› (by decide))
  rw [sizeLine_eq];exact m5 ‹_› ‹_› (by decide)
theorem zcc{m:Str}{n:Nat}{x:V}{ov v:Value}(X:K.In hb) (Z:ClsOk K C c) (O:Ok prog w hb g σ s.heap) (e:ab σ n=some (.obj C ks xs)) (ha:e9 m c.attrs=true) (hz:sz ks=true)
    (r:Rl prog w g σ.next (.ref n) ov) (rx:Rl prog w g σ.next x v) :
    Does prog w hb A ak g σ s (setAttr ov m v) (ah σ n (.obj C (c8 m x ks xs).1 (c8 m x ks xs).2)) (fun J J J=>True):=fun Q E hQ=>by
  obtain ⟨hn,rfl⟩:=r
  obtain ⟨_,vs,⟨h1,od,h2,h3,hl⟩,h4⟩:=O.obj _ _ e
  have I:InstAt s.heap (g.mu n) (instObj C (g.de n)) C (some od):=⟨h1,rfl,rfl,h2⟩
  have XX:=X.keeps O.keeps
  refine set_plain XX I Z.sa (zlj (prog:=prog) (w:=w) XX Z I h2 h3 (g9 hz) ha fun od' h' o1 n1 hs=>?_)
  have hne:g.mu n≠g.de n:=fun q=>by
    rw [q,h2] at h1
    cases h1
    obtain ⟨es,ep,q1,_⟩:=h3
    cases q1
  have hlx:ks.length=xs.length:=hl.trans h4.length
  obtain ⟨k1,k2⟩:=Dh m rx hlx h4
  obtain ⟨es',ep',o2,o3,o4,o5⟩:=n1
  have z:=D2 (o':=.obj C (c8 m x ks xs).1 (c8 m x ks xs).2) O e (h':=h') (fun b b1 b2=>hs.2 b b2)
    (fun a o q=>by
      by_cases qa:a=g.de n
      · subst qa;exact ⟨_,o1⟩
      · exact ⟨o,(hs.2 a qa).trans q⟩)
    ⟨(c8 m v ks vs).2,⟨(hs.2 _ hne).trans h1,od',o1,⟨es',ep',o2,o3,fun y=>by rw [o4 y,k1];exact (I8 m v ks vs hl y).symm,by rw [k1,Jm m v ks vs hl];exact o5⟩,by rw [k1];exact Dj m v ks vs hl⟩,k2⟩
  exact hQ () g h' _ z.2 z.1 trivial
theorem I7 (x:Str) (v:Value):∀(ks:List Str) (vs:List Value),ks.length=vs.length→((ks.zip vs).map (fun p=>p.1)).Nodup→stored (ks.zip vs) x v=(c8 x v ks vs).1.zip (c8 x v ks vs).2
  | [],[],_,_=>rfl
  | [],_::_,h,_=>nomatch h
  | _::_,[],h,_=>nomatch h
  | k :: ks,u::vs,h,nd=>by
    rw [Ub] at nd ⊢
    rw [T5,Vq] at nd
    unfold c8
    by_cases q:x=k
    · subst q
      rw [kt,if_pos rfl]
      unfold stored
      have h1:(((x,u)::ks.zip vs).any fun kv=>decide (kv.1=x))=true:=by simp
      rw [if_pos h1,T5,if_pos rfl,Ub]
      congr 1
      have:∀kv∈ks.zip vs,(if kv.1=x then (kv.1,v) else kv)=kv:=fun kv hkv=>by
        rw [if_neg]
        intro t
        exact nd.1 (Ud.mpr ⟨kv,hkv,t⟩)
      exact (V4 this).trans (Vh _)
    · rw [pf q,if_neg Ts]
      have ih:=I7 x v ks vs (Vm.inj h) nd.2
      rw [Ub,← ih]
      have q':¬ k=x:=fun t=>q t.symm
      unfold stored
      rw [Xk]
      simp only [q',decide_false,Vc]
      split
      · rw [T5,if_neg q']
      · rfl
theorem zb5{m:Str}{n:Nat}{x:V}{ov kv v:Value}(O:Ok prog w hb g σ s.heap) (e:ab σ n=some (.dct ks xs)) (hz:sz ks=true)
    (r:Rl prog w g σ.next (.ref n) ov) (rk:Rl prog w g σ.next (.str m) kv) (rx:Rl prog w g σ.next x v) :
    Does prog w hb A ak g σ s (setItem ov kv v) (ah σ n (.dct (c8 m x ks xs).1 (c8 m x ks xs).2)) (fun J J J=>True):=fun Q E hQ=>by
  obtain ⟨hn,rfl⟩:=r
  obtain ⟨t,rfl⟩:=rk
  obtain ⟨_,vs,hd,h4,h5⟩:=O.obj _ _ e
  have hz:=g9 hz
  have hl:ks.length=vs.length:=let ⟨_,_,_,l,_⟩:=hd;l
  have hne:g.mu n≠sysModules:=let ⟨_,_,_,_,l⟩:=hd;l
  have hk:(strKind prog w).is m (.str m t)=true:=by show Value.isStrOf m (.str m t)=true;simp [Value.isStrOf]
  refine wpAny_setItem_pairs hk hd.dictOf (fun h' hd' hs=>?_) (by rw [List.length_zip,sizeLine_eq];exact Ox ‹_› (by decide))
  have hlx:ks.length=xs.length:=hl.trans h4.length
  obtain ⟨k1,k2⟩:=Dh m rx hlx h4
  obtain ⟨o',o1,o2⟩:=Wn.mp hd'
  have nd:((ks.zip vs).map (·.1)).Nodup:=by
    obtain ⟨_,_,⟨_,_,_,_,_,_,nd⟩,_⟩:=hd
    exact nd
  rw [I7 m v ks vs hl nd] at o2
  have z:=D2 (o':=.dct (c8 m x ks xs).1 (c8 m x ks xs).2) O e (h':=h') (fun b b1 b2=>hs.2 b b1)
    (fun a o q=>by
      by_cases qa:a=g.mu n
      · subst qa;exact ⟨_,o1⟩
      · exact ⟨o,(hs.2 a qa).trans q⟩)
    ⟨(c8 m v ks vs).2,⟨o',o1,by rw [k1];exact o2,by rw [k1];exact Dj m v ks vs hl,hne⟩,k2,h5⟩
  exact hQ () g h' _ z.2 z.1 trivial
end
end
section
section
variable {xs ys:List V}{E:Value→Shared→Prop}
theorem y5{n k:Nat}{vs:List Value}{zs:List V}(O:Ok prog w hb g σ s.heap) (e:ab σ n=some (.lst xs)) (o':Obj) (f:Obj→Obj) (hf:(s.heap.update (g.mu n) f).get? (g.mu n)=some o')
    (ho:o' = { cls:=.type "list",data:=.seq vs.toArray k }) (r:RlL prog w g σ.next zs vs) :
    Ok prog w hb g (ah σ n (.lst zs)) (s.heap.update (g.mu n) f)∧Ext ak g σ.next s.heap g (ah σ n (.lst zs)).next (s.heap.update (g.mu n) f):=by
  obtain ⟨hn,us,h1,h2,h3⟩:=O.obj _ _ e
  have hs:=Ve.update s.heap (g.mu n) f
  subst ho
  exact D2 (o':=.lst zs) O e (fun b b1 J=>hs.2 b b1)
    (fun a o q=>by
      by_cases qa:a=g.mu n
      · subst qa;exact ⟨_,hf⟩
      · exact ⟨o,(hs.2 a qa).trans q⟩) ⟨vs,⟨k,hf⟩,r,h3⟩
theorem J3:∀{xs:List V}{vs:List Value}(j:Nat) {x:V}{v:Value},RlL prog w g N xs vs→Rl prog w g N x v→RlL prog w g N (rn xs j x) (vs.set j v)
  | [],_,j,_,_,r,_=>by obtain rfl:_=[]:=r;exact .nil
  | y::xs,_,0,_,_,⟨u,r',e,_,h2⟩,k=>by subst e;exact .cons k h2
  | y::xs,_,j+1,_,_,⟨u,r',e,h1,h2⟩,k=>by subst e;exact .cons h1 (J3 j h2 k)
theorem zet{l:Addr}{vs:List Value}{n:Nat}{k:Int}{t:Tok}{v:Value}{Q:Unit→Shared→Prop}(ho:s.heap.get? l=some { cls:=.type "list",data:=.seq vs.toArray n })
    (h0:0≤k) (hn:k<vs.length) (hz:vs.length≤4096)
    (hQ:Q () { s with heap:=s.heap.update l (Obj.mapSeq (·.setIfInBounds k.toNat v)) }):wpAny (model prog w) A (setItem (.ref l) (.int k t) v) Q E s:=by
  have hl:s.heap.IsList l vs.toArray:=⟨_,ho,rfl,n,rfl⟩
  have hlt:k.toNat<vs.toArray.size:=by simp;exact zo2 ‹_› ‹_›
  have hx:vs.toArray[k.toNat]?=some vs.toArray[k.toNat]:=Array.getElem?_eq_getElem hlt
  have hk:k=((k.toNat:Nat):Int):=by exact zsd ‹_›
  unfold setItem
  try with_reducible refine Y5 ?_
  first | refine Y3 (Y4 ?_) | skip
  refine Y3 (wpAny_sequenceKey hl.typeIs (by decide) (Y3 (wpAny_callSpecial?_slot (name:=Str.ofString "__setitem__") hl.typeIs slot_list_setitem
    (wpAny_call_entry slot_list_setitem hl.typeIs entry_list_setitem ?_ (args_list_setitem _ _ _)))))
  show wpAny _ _ (Builtin.List.listSubscript? (.int k t) >>= _) _ _ s
  refine Y3 (wpAny_listSubscript_int (fitsIndex_of h0 (by exact P8 ‹_› ‹_› (by decide))) ?_)
  rw [hk]
  show wpAny _ _ ((seqItemAt l k.toNat >>= fun r=>pure (r.map (k.toNat,·))) >>= _) _ _ s
  refine Y3 (Y3 (wpAny_seqItemAt ho rfl (Y4 ?_)))
  rw [hx]
  show wpAny _ _ (setSeqItemAt l k.toNat v >>= _) _ _ s
  refine Y3 (wpAny_setSeqItemAt ho rfl ?_)
  first
    | exact Y3 (Y4 (Y4 ⟨.none,rfl,Y4 hQ⟩))
    | exact Y4 ⟨.none,rfl,Y4 hQ⟩
theorem zch{n:Nat}{k:Int}{x:V}{ov iv v:Value}(O:Ok prog w hb g σ s.heap) (e:ab σ n=some (.lst xs)) (hz:sz xs=true) (hk:0≤k∧k<xs.length)
    (r:Rl prog w g σ.next (.ref n) ov) (ri:Rl prog w g σ.next (.int k) iv) (rx:Rl prog w g σ.next x v) :
    Does prog w hb A ak g σ s (setItem ov iv v) (ah σ n (.lst (rn xs k.toNat x))) (fun J J J=>True):=fun Q E hQ=>by
  obtain ⟨hn,rfl⟩:=r
  obtain ⟨t,rfl⟩:=ri
  obtain ⟨_,vs,⟨c,h1⟩,h2,h3⟩:=O.obj _ _ e
  have hl:=h2.length
  refine zet h1 hk.1 (by exact zrk ‹_› ‹_›) (by rw [hl];exact g9 hz) ?_
  have z:=y5 (vs:=vs.set k.toNat v) (zs:=rn xs k.toNat x) (k:=c) O e _ (Obj.mapSeq (·.setIfInBounds k.toNat v)) (Un _ h1 (by simp [Obj.mapSeq,Obj.isFreed]))
    (by simp [Obj.mapSeq]) (J3 _ h2 rx)
  exact hQ () g _ s.toks z.2 z.1 trivial
theorem zdy{n:Nat}{x:V}{v:Value}(O:Ok prog w hb g σ s.heap) (e:ab σ n=some (.lst xs)) (hz:sz xs=true) (rx:Rl prog w g σ.next x v) :
    Does prog w hb A ak g σ s (call (.builtin "list.append") [.ref (g.mu n),v]) (ah σ n (.lst (xs++[x]))) (fun J J r=>r = .none):=fun Q E hQ=>by
  obtain ⟨_,vs,⟨c,h1⟩,h2,h3⟩:=O.obj _ _ e
  have hl:=h2.length
  have hz:=g9 hz
  refine call_meets PySem.F.slot_list_append ⟨_,h1,rfl⟩ PySem.F.entry_list_append (PySem.F.args_list_append_2 _ _) (PySem.list_append (g.mu n) vs.toArray c v (by simp only [Uo,sizeLine_eq];exact pu ‹_› ‹_› (by decide))) ⟨h1,?_⟩
  have z:=y5 (vs:=vs++[v]) (zs:=xs++[x]) (k:=c+1) O e _ (Obj.mapSeq (·.push v)) (Un _ h1 (by simp [Obj.mapSeq,Obj.isFreed]))
    (by simp [Obj.mapSeq]) (h2.append (.cons rx .nil))
  exact hQ _ g _ s.toks z.2 z.1 rfl
theorem zd4{n:Nat}{x:V}{v:Value}(O:Ok prog w hb g σ s.heap) (e:ab σ n=some (.lst xs)) (e2:bj σ x=some ys) (hz:sz xs=true) (hz2:sz (xs++ys)=true) (rx:Rl prog w g σ.next x v) :
    Does prog w hb A ak g σ s (call (.builtin "list.extend") [.ref (g.mu n),v]) (ah σ n (.lst (xs++ys))) (fun J J r=>r = .none):=fun Q E hQ=>by
  obtain ⟨_,vs,⟨c,h1⟩,h2,h3⟩:=O.obj _ _ e
  obtain ⟨b,us,rfl,⟨c2,h4⟩,h5⟩:=j3 O e2 rx
  have hl:=h2.length
  have hl2:=h5.length
  have hz:=g9 hz
  have hz2:=g9 hz2
  rw [T1] at hz2
  refine call_meets PySem.F.slot_list_extend ⟨_,h1,rfl⟩ PySem.F.entry_list_extend (PySem.F.args_list_extend_2 _ _)
    (PySem.AutoSeq1.list_extend_list_list_0 (g.mu n) vs.toArray c b us.toArray c2 (by simp [Builtin.List.listTooLong,sizeLine];lia) (by simp only [Uo,sizeLine_eq];exact pu ‹_› ‹_› (by decide)) (by simp only [Uo,sizeLine_eq];exact zsr ‹_› ‹_› ‹_›)) ⟨h1,h4,?_⟩
  have z:=y5 (vs:=vs++us) (zs:=xs++ys) (k:=if us=[] then c else c+1) O e _ (Obj.mapSeq (fun a=>a++us.toArray)) (Un _ h1 (by simp [Obj.mapSeq,Obj.isFreed]))
    (by
      simp only [Obj.mapSeq]
      congr 1
      simp
      ) (h2.append h5)
  exact hQ _ g _ s.toks z.2 z.1 rfl
theorem zmt {n:Nat}{x:V}{r:List V}(O:Ok prog w hb g σ s.heap) (e:ab σ n=some (.lst xs)) (hz:sz xs=true) (hx:xs.reverse=x::r) :
    Does prog w hb A ak g σ s (call (.builtin "list.pop") [.ref (g.mu n)]) (ah σ n (.lst r.reverse)) (fun g' J u=>Rl prog w g' σ.next x u):=fun Q E hQ=>by
  obtain ⟨_,vs,⟨c,h1⟩,h2,h3⟩:=O.obj _ _ e
  have hxs:xs=r.reverse++[x]:=by
    have:=congrArg List.reverse hx
    simpa using this
  subst hxs
  have hl:=h2.length
  have hz:=g9 hz
  have split:∀{l:List V}{us:List Value},RlL prog w g σ.next (l++[x]) us→∃ws v,us=ws++[v]∧RlL prog w g σ.next l ws∧Rl prog w g σ.next x v:=by
    intro l
    induction l with
    | nil=>
      intro us h
      obtain ⟨v,r',rfl,k1,k2⟩:=h
      obtain rfl:r'=[]:=k2
      exact ⟨[],v,rfl,.nil,k1⟩
    | cons y l ih=>
      intro us h
      obtain ⟨v,r',rfl,k1,k2⟩:=h
      obtain ⟨ws,u,rfl,k3,k4⟩:=ih k2
      exact ⟨v::ws,u,rfl,.cons k1 k3,k4⟩
  obtain ⟨ws,v,rfl,k3,k4⟩:=split h2
  refine call_meets PySem.F.slot_list_pop ⟨_,h1,rfl⟩ PySem.F.entry_list_pop (PySem.F.args_list_pop_1 _) (PySem.MeetsSeq.list_pop_last (g.mu n) (ws++[v]).toArray c v (by simp) (by simp only [Uo,sizeLine_eq];exact pu ‹_› ‹_› (by decide))) ⟨h1,?_⟩
  have z:=y5 (vs:=ws) (zs:=r.reverse) (k:=c+1) O e _ (Obj.mapSeq fun a=>a.eraseIdxIfInBounds ((ws++[v]).toArray.size-1)) (Un _ h1 (by simp [Obj.mapSeq,Obj.isFreed]))
    (by
      have hp:(ws++[v]).toArray.eraseIdxIfInBounds ((ws++[v]).toArray.size-1)=ws.toArray:=by
        apply Array.toList_inj.mp
        simp [Array.eraseIdxIfInBounds,List.eraseIdx_append_of_length_le]
      simp only [Obj.mapSeq,hp]
      simp) k3
  exact hQ _ g _ s.toks z.2 z.1 k4
theorem Jf:∀{xs:List V}{l:List Str}{vs:List Value},w6 xs=some l→RlL prog w g N xs vs→StrsAre vs l
  | [],l,vs,e,r=>by rw [← br e,show vs=[] from r];exact .nil
  | x::xs,l,vs,e,r=>ad (x:=jo x) e fun s h1 e=>ad e fun l' h2 e=>by
    obtain ⟨v,r',rfl,h3,h4⟩:=r
    rw [qu h1] at h3
    obtain ⟨t,rfl⟩:=h3
    rw [← br e]
    exact .cons _ _ (Jf h2 h4)
end
end
end Mine
end
section
open PySem PySem.W PyProof.Rows PySem.Calls
namespace Mine
section
def Own (sc:Scope) (env:Env) (a:Addr):Prop:=a=env.locals∨∃x,bm x sc.names=some .cell∧env.cells.lookup x=some a
def DoesC (prog:Program) (w:World) (hb:Heap) (A:Around) (g:Gh) (σ:Sto) (s:Shared) (c:Code) (σ':Sto) (R:Gh→Heap→Value→Prop):Prop:=
  ∀R':Result→Shared→Prop,(∀v g' h' tk',Ext ak g σ.next s.heap g' σ'.next h'→Ok prog w hb g' σ' h'→R g' h' v→R' (.ok (.ret v)) { s with heap:=h',toks:=tk' })→codeAny (model prog w) A c R' s
theorem DoesC.does{prog:Program}{w:World}{hb:Heap}{A:Around}{g:Gh}{σ σ':Sto}{s:Shared}{f:Value}{vs:List Value}{R:Gh→Heap→Value→Prop}(h:DoesC prog w hb A g σ s (.call f ⟨vs,[]⟩) σ' R) :
    Does prog w hb A ak g σ s (call f vs) σ' R:=fun Q E hQ=>wpAny_call (h _ hQ)
section
variable (prog:Program) (w:World)
def ui (g:Gh) (N:Nat):Fl→Flow→Prop
  | .next,f=>f = .next
  | .brk,f=>f = .brk
  | .cont,f=>f = .cont
  | .ret v,f=>∃u,f = .ret u∧Rl prog w g N v u
variable (P:PD) (hb:Heap)
def dy (n:Nat):Prop:=∀(sc:Scope) (e:Expr) (ρ:Loc) (σ:Sto) (V:V) (σ':Sto) (A:Around) (g:Gh) (s:Shared) (env:Env),(run P n).ev sc e ρ σ=some (V,σ')→Room A n→
  EnvOk prog w sc env ρ g σ.next s.heap→Ok prog w hb g σ s.heap→Does prog w hb A ak g σ s (eval e env) σ' (fun g' J v=>Rl prog w g' σ'.next V v)
def t9 (n:Nat):Prop:=∀(sc:Scope) (es:List Expr) (ρ:Loc) (σ:Sto) (Vs:List V) (σ':Sto) (A:Around) (g:Gh) (s:Shared) (env:Env) (pos:Pos),(run P n).evs sc es ρ σ=some (Vs,σ')→Room A n→
  EnvOk prog w sc env ρ g σ.next s.heap→Ok prog w hb g σ s.heap→Does prog w hb A ak g σ s (spliced (backTo pos (starEach es env))) σ' (fun g' J vs=>RlL prog w g' σ'.next Vs vs)
def r9 (n:Nat):Prop:=∀(sc:Scope) (e:Expr) (ρ:Loc) (σ:Sto) (b:Bool) (σ':Sto) (A:Around) (g:Gh) (s:Shared) (env:Env),(run P n).tr sc e ρ σ=some (b,σ')→Room A n→
  EnvOk prog w sc env ρ g σ.next s.heap→Ok prog w hb g σ s.heap→Does prog w hb A ak g σ s (isTrue e env (eval e env)) σ' (fun J J c=>c=b)
def Al (n:Nat):Prop:=∀(sc:Scope) (op:BoolOp) (es:List Expr) (ρ:Loc) (σ:Sto) (b:Bool) (σ':Sto) (A:Around) (g:Gh) (s:Shared) (env:Env) (pos:Pos),(run P n).bos sc op es ρ σ=some (b,σ')→Room A n→
  EnvOk prog w sc env ρ g σ.next s.heap→Ok prog w hb g σ s.heap→Does prog w hb A ak g σ s (boolOp pos op (evalEach es env)) σ' (fun J J c=>c = .bool b)
def Fk (n:Nat):Prop:=∀(sc:Scope) (op:BoolOp) (es:List Expr) (ρ:Loc) (σ:Sto) (b:Bool) (σ':Sto) (A:Around) (g:Gh) (s:Shared) (env:Env),(run P n).trs sc op es ρ σ=some (b,σ')→Room A n→
  EnvOk prog w sc env ρ g σ.next s.heap→Ok prog w hb g σ s.heap→Does prog w hb A ak g σ s (allTrue op es env) σ' (fun J J c=>c=b)
def Ap (n:Nat):Prop:=∀(sc:Scope) (t:Expr) (V:V) (v:Value) (ρ:Loc) (σ:Sto) (ρ':Loc) (σ':Sto) (A:Around) (g:Gh) (s:Shared) (env:Env),(run P n).asg sc t V ρ σ=some (ρ',σ')→Room A n→
  EnvOk prog w sc env ρ g σ.next s.heap→Ok prog w hb g σ s.heap→Rl prog w g σ.next V v→Does prog w hb A (Own sc env) g σ s (assign t env v) σ' (fun g' h' J=>EnvOk prog w sc env ρ' g' σ'.next h')
def Rr (n:Nat):Prop:=∀(sc:Scope) (ts:List Expr) (Vs:List V) (vs:List Value) (ρ:Loc) (σ:Sto) (ρ':Loc) (σ':Sto) (A:Around) (g:Gh) (s:Shared) (env:Env),(run P n).ass sc ts Vs ρ σ=some (ρ',σ')→Room A n→
  EnvOk prog w sc env ρ g σ.next s.heap→Ok prog w hb g σ s.heap→RlL prog w g σ.next Vs vs→
  Does prog w hb A (Own sc env) g σ s (assignInOrder ((assignEach ts env).map (·.2)) vs) σ' (fun g' h' J=>EnvOk prog w sc env ρ' g' σ'.next h')
def Tb (n:Nat):Prop:=∀(sc:Scope) (st:Stmt) (ρ:Loc) (σ:Sto) (f:Fl) (ρ':Loc) (σ':Sto) (A:Around) (g:Gh) (s:Shared) (env:Env),(run P n).ex sc st ρ σ=some (f,ρ',σ')→Room A n→
  EnvOk prog w sc env ρ g σ.next s.heap→Ok prog w hb g σ s.heap→Does prog w hb A (Own sc env) g σ s (exec st env) σ' (fun g' h' fl=>EnvOk prog w sc env ρ' g' σ'.next h'∧ui prog w g' σ'.next f fl)
def vi (n:Nat):Prop:=∀(sc:Scope) (ss:List Stmt) (ρ:Loc) (σ:Sto) (f:Fl) (ρ':Loc) (σ':Sto) (A:Around) (g:Gh) (s:Shared) (env:Env),(run P n).exs sc ss ρ σ=some (f,ρ',σ')→Room A n→
  EnvOk prog w sc env ρ g σ.next s.heap→Ok prog w hb g σ s.heap→Does prog w hb A (Own sc env) g σ s (execs ss env) σ' (fun g' h' fl=>EnvOk prog w sc env ρ' g' σ'.next h'∧ui prog w g' σ'.next f fl)
def xb (n:Nat):Prop:=∀(f:Addr) (Vs:List V) (vs:List Value) (σ:Sto) (V:V) (σ':Sto) (A:Around) (g:Gh) (s:Shared),(run P n).call f Vs σ=some (V,σ')→Room A n→
  Ok prog w hb g σ s.heap→RlL prog w g σ.next Vs vs→DoesC prog w hb A g σ s (.call (.ref f) ⟨vs,[]⟩) σ' (fun g' J v=>Rl prog w g' σ'.next V v)
def F2 (n:Nat):Prop:=∀(C:Addr) (Vs:List V) (vs:List Value) (σ:Sto) (V:V) (σ':Sto) (A:Around) (g:Gh) (s:Shared),(run P n).new C Vs σ=some (V,σ')→Room A n→
  Ok prog w hb g σ s.heap→RlL prog w g σ.next Vs vs→Does prog w hb A ak g σ s (call (.ref C) vs) σ' (fun g' J v=>Rl prog w g' σ'.next V v)
end
section
theorem jc{α:Type}{M:Model}{t t':Sem α}{Q:α→Shared→Prop}{E:Value→Shared→Prop}(h:t=t') (k:wpAny M A t' Q E s):wpAny M A t Q E s:=h▸k
theorem zc6{x:Expr}{r:Mine.V×Sto}:∀{n:Nat},(run P n).ev sc x ρ σ=some r→tw x=false
  | 0,e=>aa e
  | n+1,e=>(@Tt (fun x=>(run P (n+1)).ev sc x ρ σ=some r→tw x=false) x (fun J J J=>fun J=>rfl) (fun J J J=>fun J=>rfl) (fun J J J J=>fun J=>rfl) (fun J J J=>fun J=>rfl) (fun J J J J=>fun J=>rfl) (fun J J J J=>fun J=>rfl) (fun J J J=>fun J=>rfl) (fun J J J=>fun J=>rfl) (fun J J J J=>fun J=>rfl) (fun J J J J=>fun J=>rfl) (fun J J J J J=>fun J=>rfl) (fun J J J J=>fun J=>rfl) (fun J J=>fun J=>rfl) (fun J J=>fun J=>rfl) (fun J J=>fun J=>rfl) (fun J J J J=>fun J=>rfl) (fun J J J J=>fun J=>rfl) (fun J J J J=>fun J=>rfl) (fun J J=>fun J=>rfl) (fun J J J=>fun J=>rfl) (fun J J J=>fun J=>rfl) (fun J J J=>fun J=>rfl) (fun J J e=>aa e) (fun J J=>fun J=>rfl) (fun J J=>fun J=>rfl) (fun J J J=>fun J=>rfl) (fun J J J J=>fun J=>rfl)) e
theorem zax{x:Expr}{es:List Expr}(h:tw x=false):starEach (x::es) env=(false,eval x env)::starEach es env:=
  (@Tt (fun x=>tw x=false→starEach (x::es) env=(false,eval x env)::starEach es env) x (fun J J J=>fun J=>rfl) (fun J J J=>fun J=>rfl) (fun J J J J=>fun J=>rfl) (fun J J J=>fun J=>rfl) (fun J J J J=>fun J=>rfl) (fun J J J J=>fun J=>rfl) (fun J J J=>fun J=>rfl) (fun J J J=>fun J=>rfl) (fun J J J J=>fun J=>rfl) (fun J J J J=>fun J=>rfl) (fun J J J J J=>fun J=>rfl) (fun J J J J=>fun J=>rfl) (fun J J=>fun J=>rfl) (fun J J=>fun J=>rfl) (fun J J=>fun J=>rfl) (fun J J J J=>fun J=>rfl) (fun J J J J=>fun J=>rfl) (fun J J J J=>fun J=>rfl) (fun J J=>fun J=>rfl) (fun J J J=>fun J=>rfl) (fun J J J=>fun J=>rfl) (fun J J J=>fun J=>rfl) (fun J J h=>nomatch h) (fun J J=>fun J=>rfl) (fun J J=>fun J=>rfl) (fun J J J=>fun J=>rfl) (fun J J J J=>fun J=>rfl)) h
theorem zkr(he:dy prog w P hb n) (hs:t9 prog w P hb n):t9 prog w P hb (n+1):=fun sc es ρ σ Vs σ' A g s env pos e R X O=>by
  have R:=R.lt (T3 n)
  cases es with
  | nil=>exact bf e fun h1 h2=>by subst h1 h2;exact Does.now O .nil
  | cons x es=>
    refine aw (x:=(run P n).ev sc x ρ σ) e fun v σ1 e1 e=>aw e fun vs σ2 e2 e=>bf e fun h1 h2=>?_
    subst h1 h2
    rw [zax (zc6 e1)]
    exact fun Q E hQ=>spliced_cons (he _ _ _ _ _ _ _ _ _ _ e1 R X O _ _ fun u g₁ h₁ tk₁ x₁ O₁ r₁=>hs _ _ _ _ _ _ _ _ _ _ pos e2 R (X.ext x₁) O₁ _ _ fun us g₂ h₂ tk₂ x₂ O₂ r₂=>hQ _ _ _ _ (x₁.trans x₂) O₂ (.cons (r₁.ext x₂) r₂))
theorem y6{b:Bool}{Q:Bool→Shared→Prop}{E:Value→Shared→Prop}{M:Model}(h:Q b s):wpAny M A (truthy (.bool b)) Q E s:=PySem.wpAny_truthy_bool h
theorem Ft{p:Prop}{x:Expr}{b:Bool}(e:dd (run P n) sc x ρ σ=some (b,σ')) (k:(run P n).ev sc x ρ σ=some (.bool b,σ')→p):p:=
  aw e fun v σ1 e1 e=>ad e fun c hc e=>bf e fun h1 h2=>k (by rw [e1,P7 hc,h1,h2])
theorem Gq{p:Prop}{op:BoolOp}{b c:Bool}{y:Expr}{es:List Expr}{σ1:Sto}{r:Option (Bool×Sto)}(e:(if ((y::es).isEmpty||jw op c)=true then some (c,σ1) else r)=some (b,σ')) (k1:jw op c=true→c=b→σ1=σ'→p) (k2:jw op c=false→r=some (b,σ')→p):p:=
  cq e (fun h e=>bf e fun h1 h2=>k1 h h1 h2) fun h e=>k2 h e
theorem zqk{α:Type}{op:BoolOp}{c:Bool}{x y:α}:(match op,c with | .And,false | .Or,true=>x | _,_=>y)=cond (jw op c) x y:=by cases op <;> cases c <;> rfl
theorem zkw{α:Type}{op:BoolOp}{c:Bool}{x y z:α}:(match op,c with | .And,false=>x | .Or,true=>z | _,_=>y)=cond (jw op c) (match op with | .And=>x | .Or=>z) y:=by cases op <;> cases c <;> rfl
theorem zlm (he:dy prog w P hb n) (hs:Al prog w P hb n):Al prog w P hb (n+1):=fun sc op es ρ σ b σ' A g s env pos e R X O=>by
  have R:=R.lt (T3 n)
  rcases es with _ | ⟨x,es⟩
  · exact aa e
  · refine aw (x:=dd (run P n) sc x ρ σ) e fun c σ1 e1 e=>Ft e1 fun e1=>?_
    rcases es with _ | ⟨y,es⟩
    · exact bf e fun h1 h2=>by subst h1 h2;exact (he _ _ _ _ _ _ _ _ _ _ e1 R X O).mono fun J J a J J r=>r
    · have hu:boolOp pos op (eval x env::evalEach (y::es) env)=(do
          let v ← eval x env
          standAt pos
          let t ← holding [v] (truthy v)
          match op,t with
          | .And,false | .Or,true=>pure v
          | _,_=>boolOp pos op (evalEach (y::es) env)):=rfl
      intro Q E hQ
      refine jc hu (Y3 (he _ _ _ _ _ _ _ _ _ _ e1 R X O _ _ fun u g₁ h₁ tk₁ x₁ O₁ r₁=>?_))
      obtain rfl:u = .bool c:=r₁
      refine Y3 (Y6 (Y3 (Y5 (y6 (jc zqk ?_)))))
      refine Gq e (fun h1 h2 h3=>?_) fun h1 e=>?_
      · rw [h1];subst h2 h3;exact Y4 (hQ _ _ _ _ x₁ O₁ rfl)
      · rw [h1]
        exact hs _ _ _ _ _ _ _ _ _ _ _ pos e R (X.ext x₁) O₁ _ _ fun us g₂ h₂ tk₂ x₂ O₂ r₂=>hQ _ _ _ _ (x₁.trans x₂) O₂ r₂
theorem zhi{op:BoolOp}{u:Bool}:(match op,u with | .And,false=>pure false | .Or,true=>pure true | _,_=>allTrue op [] env)=(pure u:Sem Bool):=by cases op <;> cases u <;> rfl
theorem zcs{op:BoolOp}{u:Bool}(h:jw op u=true):(match (generalizing:=false) op with | .And=>pure false | .Or=>pure true)=(pure u:Sem Bool):=by cases op <;> cases u <;> first | rfl | cases h
theorem za2 {op:BoolOp}{x:Expr}{es:List Expr}:allTrue op (x::es) env=(do
        match op,← isTrue x env (eval x env) with
        | .And,false=>pure false
        | .Or,true=>pure true
        | _,_=>allTrue op es env):=rfl
theorem zlk(he:r9 prog w P hb n) (hs:Fk prog w P hb n):Fk prog w P hb (n+1):=fun sc op es ρ σ b σ' A g s env e R X O=>by
  rcases es with _ | ⟨x,es⟩
  · exact aa e
  · refine aw (x:=(run P n).tr sc x ρ σ) e fun c σ1 e1 e=>fun Q E hQ=>jc za2 (Y3 (he _ _ _ _ _ _ _ _ _ _ e1 (R.lt (T3 n)) X O _ _ fun u g₁ h₁ tk₁ x₁ O₁ r₁=>?_))
    subst r₁
    rcases es with _ | ⟨y,es⟩
    · exact bf e fun h1 h2=>jc zhi (Y4 (h1▸hQ _ _ _ _ (h2▸x₁) (h2▸O₁) rfl))
    · refine jc zkw (Gq e (fun h1 h2 h3=>?_) fun h1 e=>?_) <;> rw [h1]
      · exact jc (zcs h1) (Y4 (hQ _ _ _ _ (h3▸x₁) (h3▸O₁) h2))
      · exact hs _ _ _ _ _ _ _ _ _ _ _ e (R.lt (T3 n)) (X.ext x₁) O₁ _ _ fun us g₂ h₂ tk₂ x₂ O₂ r₂=>hQ _ _ _ _ (x₁.trans x₂) O₂ r₂
end
end
section
theorem Cr{a d:Addr}{o:MObj}(O:Ok prog w hb g σ h) (X:Ext ak g₀ N₀ h₀ g σ.next h) (a0:h₀.get? a=none) (d0':h₀.get? d=none) (aI:g.I a=none) (dI:g.I d=none)
    (am:¬ ew g σ.next a) (dm:¬ ew g σ.next d) (ha':Live h a) (hd':Live h d) (e:ObjOk prog w (g.addM σ.next a d) (σ.next+1) h σ.next o) :
    Ok prog w hb (g.addM σ.next a d) (push σ o) h∧Ext ak g₀ N₀ h₀ (g.addM σ.next a d) (push σ o).next h:=by
  have hI:∀b x,g.I b=some x→(g.addM σ.next a d).I b=some x:=fun J J e=>e
  have m0:(g.addM σ.next a d).mu σ.next=a:=if_pos rfl
  have d0:(g.addM σ.next a d).de σ.next=d:=if_pos rfl
  have cases_:∀n,n<σ.next+1→n=σ.next∨n<σ.next:=fun n hn=>by exact R6 ‹_›
  have an:∀m,m<σ.next→a≠g.mu m∧a≠g.de m:=fun m hm=>⟨fun q=>am ⟨m,hm,.inl q⟩,fun q=>am ⟨m,hm,.inr q⟩⟩
  have dn:∀m,m<σ.next→d≠g.mu m∧d≠g.de m:=fun m hm=>⟨fun q=>dm ⟨m,hm,.inl q⟩,fun q=>dm ⟨m,hm,.inr q⟩⟩
  refine ⟨⟨fun b x q=>O.sub b x q,O.base,fun n x q=>?_,fun n x q=>?_,fun n hn=>?_,fun n m hn hm hne=>?_⟩,
    ⟨fun b x q=>X.I b x q,fun b x q=>X.new b x q,fun n hn=>?_,fun n h1 h2=>?_,Nat.le_succ_of_le X.next,X.keep,X.live⟩⟩
  · rw [o7] at q
    split at q
    · rename_i c;cases q;subst c;exact ⟨Tr _,e⟩
    · have l:=(O.obj n x q).1
      exact ⟨U5 l,(O.obj n x q).2.grow hI cf (T3 _) l (fun J e=>e) (fun J e=>e)⟩
  · rw [o7] at q
    split at q
    · rename_i c;subst c
      rw [m0,d0];exact ⟨aI,dI⟩
    · have l:=(O.obj n x q).1
      rw [(cf n l).1,(cf n l).2];exact O.sep n x q
  · rcases cases_ n hn with rfl | l
    · rw [m0,d0];exact ⟨ha',hd'⟩
    · rw [(cf n l).1,(cf n l).2];exact O.lt n l
  · rcases cases_ n hn with rfl | l <;> rcases cases_ m hm with rfl | l'
    · exact absurd rfl hne
    · rw [m0,d0,(cf m l').1,(cf m l').2]
      exact ⟨(an m l').1,(an m l').2,(dn m l').1,(dn m l').2⟩
    · rw [m0,d0,(cf n l).1,(cf n l).2]
      exact ⟨(an n l).1.symm,(dn n l).1.symm,(an n l).2.symm,(dn n l).2.symm⟩
    · rw [(cf n l).1,(cf n l).2,(cf m l').1,(cf m l').2];exact O.inj n m l l' hne
  · have l:=Tn hn X.next
    rw [(cf n l).1,(cf n l).2];exact X.mu n hn
  · have h2':n<σ.next+1:=h2
    rcases cases_ n h2' with rfl | l
    · rw [m0,d0];exact ⟨a0,d0'⟩
    · rw [(cf n l).1,(cf n l).2];exact X.munew n h1 l
theorem zb1{a:Addr}(O:Ok prog w hb g σ h) (ha:h.objs.size≤a):¬ ew g σ.next a:=fun ⟨n,hn,q⟩=>by
  rcases q with rfl | rfl
  · exact absurd (O.lt n hn).1.lt (Uq.mpr ha)
  · exact absurd (O.lt n hn).2.lt (Uq.mpr ha)
theorem zfs{a:Addr}(O:Ok prog w hb g σ h) (ha:h.objs.size≤a):g.I a=none:=by
  cases q:g.I a with
  | none=>rfl
  | some x=>exact absurd (U3 (O.sub a x q)) (Uq.mpr ha)
def But (a:Addr) (h h':Heap):Prop:=∀b o,b≠a→h.get? b=some o→h'.get? b=some o
theorem But.same{a:Addr}{h h':Heap}(hs:Heap.SameBut a h h'):But a h h':=fun b J q e=>(hs.2 b q).trans e
theorem But.of{a:Addr}{h h':Heap}(k:∀b o,h.get? b=some o→h'.get? b=some o):But a h h':=fun b o J e=>k b o e
theorem But.trans{a:Addr}{h h' h'':Heap}(x:But a h h') (y:But a h' h''):But a h h'':=fun b o q e=>y b o q (x b o q e)
theorem Ok.priv{a:Addr}(O:Ok prog w hb g σ h) (aI:g.I a=none) (am:¬ ew g σ.next a) (hs:But a h h'):Ok prog w hb g σ h':=by
  have ke:∀b o,h.get? b=some o→b≠a→h'.get? b=some o:=fun b o e q=>hs b o q e
  refine ⟨fun b o e=>ke b o (O.sub b o e) (fun q=>by subst q;rw [aI] at e;cases e),O.base,fun n o e=>⟨(O.obj n o e).1,?_⟩,O.sep,fun n hn=>⟨let ⟨o,e⟩:=(O.lt n hn).1;⟨o,ke _ _ e fun q=>am ⟨n,hn,.inl q.symm⟩⟩,let ⟨o,e⟩:=(O.lt n hn).2;⟨o,ke _ _ e fun q=>am ⟨n,hn,.inr q.symm⟩⟩⟩,O.inj⟩
  have hn:=(O.obj n o e).1
  exact (O.obj n o e).2.grow (fun J J e=>e) (fun J J=>⟨rfl,rfl⟩) (To _) hn (fun J e'=>ke _ _ e' fun q=>am ⟨n,hn,.inl q.symm⟩) (fun J e'=>ke _ _ e' fun q=>am ⟨n,hn,.inr q.symm⟩)
theorem Ext.priv{Wr:Addr→Prop}{a:Addr}{N:Nat}(X:Ext Wr g₀ N₀ h₀ g N h) (a0:h₀.get? a=none) (hs:But a h h'):Ext Wr g₀ N₀ h₀ g N h':=by
  have ke:∀b o,h.get? b=some o→b≠a→h'.get? b=some o:=fun b o e q=>hs b o q e
  have ne:∀b o,h₀.get? b=some o→b≠a:=fun b o e q=>by subst q;rw [a0] at e;cases e
  exact ⟨X.I,X.new,X.mu,X.munew,X.next,fun b o e hm hw=>ke _ _ (X.keep b o e hm hw) (ne b o e),fun b o e=>let ⟨o',e'⟩:=X.live b o e;⟨o',ke _ _ e' (ne b o e)⟩⟩
theorem y8:∀(l:List Str),nu l=true→l.Nodup
  | [],_=>Ye
  | k :: r,e=>by
    rw [nu,Uc] at e
    refine Vq.mpr ⟨fun hm=>?_,y8 r e.2⟩
    have:∀{l:List Str},k∈l→e9 k l=true:=by
      intro l
      induction l with
      | nil=>intro h;cases h
      | cons x l ih=>
        intro h
        unfold e9
        by_cases q:k=x
        · subst q;rw [kt,if_pos rfl]
        · rw [pf q,if_neg Ts]
          rcases Tz.mp h with r | r
          · exact absurd r q
          · exact ih r
    have q:=e.1
    rw [this hm] at q
    cases q
theorem zk3{e:Expr}{s:Str}(h:A9 e=some s):∃kp pos,e = .Constant (.str s) kp pos:=
  (@Tt (fun e=>A9 e=some s→∃kp pos,e = .Constant (.str s) kp pos) e (fun J J J=>aa) (fun J J J=>aa) (fun J J J J=>aa) (fun J J J=>aa) (fun J J J J=>aa) (fun J J J J=>aa) (fun J J J=>aa) (fun J J J=>aa) (fun J J J J=>aa) (fun J J J J=>aa) (fun J J J J J=>aa) (fun J J J J=>aa) (fun J J=>aa) (fun J J=>aa) (fun J J=>aa) (fun J J J J=>aa) (fun J J J J=>aa) (fun J J J J=>aa) (fun J J=>aa) (fun c kp pos=>@V3 (fun c=>A9 (.Constant c kp pos)=some s→∃kp' pos',Expr.Constant c kp pos = .Constant (.str s) kp' pos') c aa (fun J=>aa) (fun J=>aa) (fun J=>aa) (fun J J=>aa) (fun z h=>⟨kp,pos,by rw [br h]⟩) (fun J=>aa) aa) (fun J J J=>aa) (fun J J J=>aa) (fun J J=>aa) (fun J J=>aa) (fun J J=>aa) (fun J J J=>aa) (fun J J J J=>aa)) h
theorem Lb{p:Prop}{ks:List (Option Expr)}{kl:List Str}(e:mz ks=some kl) (k1:ks=[]→kl=[]→p) (k2:∀kx kp pos ks' kl',ks=some (.Constant (.str kx) kp pos)::ks'→mz ks'=some kl'→kl=kx::kl'→p):p:=by
  rcases ks with _ | ⟨o,ks⟩
  · exact k1 rfl (br e).symm
  · exact ad (x:=o) e fun x h1 e=>ad e fun kx h2 e=>ad e fun kl' h3 e=>(zk3 h2).elim fun kp q=>q.elim fun pos q=>k2 kx kp pos ks kl' (by rw [h1,q]) h3 (br e).symm
theorem B8:∀{ks:List (Option Expr)}{kl:List Str},mz ks=some kl→ks.all (·.isSome)=true∧ks.length=kl.length
  | [],kl,e=>by cases e;exact ⟨rfl,rfl⟩
  | k::ks,kl,e=>Lb e (fun h=>nomatch h) fun kx kp pos ks' kl' h1 h2 h3=>by
    cases h1;subst h3
    obtain ⟨a,b⟩:=B8 h2
    exact ⟨a,congrArg Vm b⟩
theorem Kd(he:dy prog w P hb n) {pos:Pos}(R:Room A n):∀(m:Nat) (ks:List (Option Expr)) (es:List Expr) (kl:List Str) (Vs:List V) (σ σ':Sto) (g:Gh) (s:Shared),m≤n→mz ks=some kl→(run P m).evs sc es ρ σ=some (Vs,σ')→kl.length=Vs.length→
    (∀k,k≤n→dy prog w P hb k)→EnvOk prog w sc env ρ g σ.next s.heap→Ok prog w hb g σ s.heap→
    Does prog w hb A ak g σ s (evalPairs (pairTrees ks es env pos)) σ' (fun g' J ps=>∃kvs vs,ps=kvs∧Carries (strKind prog w) kvs (kl.zip vs)∧RlL prog w g' σ'.next Vs vs)
  | 0,_,_,_,_,_,_,_,_,_,_,e,_,_,_,_=>aa e
  | m+1,ks,[],kl,Vs,σ,σ',g,s,hm,ek,e,hl,hev,X,O=>bf e fun h1 h2=>by
    subst h1 h2
    obtain rfl:kl=[]:=Va.mp hl
    obtain rfl:ks=[]:=Va.mp (B8 ek).2
    exact Does.now O ⟨[],[],rfl,trivial,.nil⟩
  | m+1,ks,x::es,kl,Vs,σ,σ',g,s,hm,ek,e,hl,hev,X,O=>aw (x:=(run P m).ev sc x ρ σ) e fun v σ1 e1 e=>aw e fun vs σ2 e2 e=>bf e fun h1 h2=>by
    subst h1 h2
    refine Lb ek (fun J h=>by subst h;cases hl) fun kx kp p ks' kl' h1 e3 h2=>?_
    subst h1 h2
    have R':Room A m:=R.lt (V0 hm)
    have O':Ok prog w hb g σ { s with toks:=s.toks+1 }.heap:=O
    refine fun Q E hQ=>evalPairs_cons (wpAny_Constant_str (Y3 (hev m (V0 hm) _ _ _ _ _ _ _ _ { s with toks:=s.toks+1 } _ e1 R' X O' _ _ fun u g₁ h₁ tk₁ x₁ O₁ r₁=>Y3 (Y6 (Y4 ?_)))))
    refine Kd he R m ks' es kl' vs σ1 _ g₁ _ (V0 hm) e3 e2 (Vm.inj hl) hev (X.ext x₁) O₁ _ _ fun ps g₂ h₂ tk₂ x₂ O₂ r₂=>?_
    obtain ⟨kvs,us,rfl,c,rr⟩:=r₂
    exact hQ _ g₂ h₂ tk₂ (x₁.trans x₂) O₂ ⟨_,u::us,rfl,⟨by show Value.isStrOf kx (.str kx s.toks)=true;simp [Value.isStrOf],rfl,c⟩,.cons (r₁.ext x₂) rr⟩
theorem z8:∀(n:Nat) {es:List Expr}{σ:Sto}{xs:List V}{σ':Sto},(run P n).evs sc es ρ σ=some (xs,σ')→es.length=xs.length
  | 0,_,_,_,_,e=>aa e
  | n+1,[],_,_,_,e=>bf e fun h1 J=>h1▸rfl
  | n+1,x::es,σ,xs,σ',e=>aw (x:=(run P n).ev sc x ρ σ) e fun v σ1 J e=>aw e fun vs σ2 e2 e=>bf e fun h1 J=>h1▸congrArg Vm (z8 n e2)
theorem emptyDict(h:Heap):(({ cls:=.type "dict",data:=.dict #[] }:Obj)).IsDictOf (strKind prog w) []:=by
  obtain ⟨o,ho,hd⟩:=Wn.mp (Heap.DictOf.new (knd:=strKind prog w) h)
  rw [Tv _ rfl] at ho
  exact (Uj.inj ho)▸hd
theorem B6(W:hb.NoLimit) (O:Ok prog w hb g σ h) {a:Addr}(ha:h.objs.size≤a):a≠sysModules:=by
  obtain ⟨mc,hn,hl⟩:=W
  have:=modules_low ⟨mc,hn.keeps fun a o e=>O.sub a o (O.base a o e),hl⟩
  intro q
  subst q
  exact absurd this (Uq.mpr ha)
end
section
section
variable {V:V}
theorem zig(W:hb.NoLimit) (hev:∀k,k≤n→dy prog w P hb k) {ks:List (Option Expr)}{es:List Expr}{kl:List Str}{xs:List Mine.V}{pos:Pos}(e1:mz ks=some kl) (e2:(run P n).evs sc es ρ σ=some (xs,σ'))
    (e3:(T8 kl.length xs.length&&(U8 kl.length 15&&nu kl))=true) (R:Room A n) (X:EnvOk prog w sc env ρ g σ.next s.heap) (O:Ok prog w hb g σ s.heap) :
    Does prog w hb A ak g σ s (eval (.Dict ks es pos) env) (push σ' (.dct kl xs)) (fun g' J v=>Rl prog w g' (push σ' (.dct kl xs)).next (.ref σ'.next) v):=fun Q E hQ=>by
  simp only [Uc] at e3
  obtain ⟨e4,e5,e6⟩:=e3
  have hl:kl.length=xs.length:=Tu e4
  have h15:kl.length≤15:=T7 e5
  have nd:=y8 kl e6
  obtain ⟨k1,k2⟩:=B8 e1
  have nm:=B6 W O (To _)
  let e₀:Obj:={ cls:=.type "dict",data:=.dict #[] }
  have hp:(s.heap.push e₀).get? s.heap.objs.size=some e₀:=Tv _ rfl
  have x₀:Ext ak g σ.next s.heap g σ.next (s.heap.push e₀):=Ext.grow (ig s.heap e₀)
  have O₀:=O.grow (ig s.heap e₀)
  have nM:=zb1 O (To s.heap.objs.size)
  have nI:=zfs O (To s.heap.objs.size)
  have fresh:s.heap.get? s.heap.objs.size=none:=em (To _)
  have fin:∀(g₁:Gh) (h₁:Heap) (tk:Nat) (vs:List Value) (od:Obj),Ext ak g σ.next s.heap g₁ σ'.next h₁→Ok prog w hb g₁ σ' h₁→h₁.get? s.heap.objs.size=some od→od.IsDictOf (strKind prog w) (kl.zip vs)→kl.length=vs.length→
      RlL prog w g₁ σ'.next xs vs→g₁.I s.heap.objs.size=none→¬ ew g₁ σ'.next s.heap.objs.size→Q (.ref s.heap.objs.size) { s with heap:=h₁,toks:=tk }:=fun g₁ h₁ tk vs od x₁ O₁ q1 q2 q3 q4 q5 q6=>by
    have lt:Live h₁ s.heap.objs.size:=⟨_,q1⟩
    have hm:(g₁.addM σ'.next s.heap.objs.size s.heap.objs.size).mu σ'.next=s.heap.objs.size:=if_pos rfl
    have hd:(g₁.addM σ'.next s.heap.objs.size s.heap.objs.size).de σ'.next=s.heap.objs.size:=if_pos rfl
    have z:=Cr (o:=.dct kl xs) O₁ x₁ fresh fresh q5 q5 q6 q6 lt lt
      ⟨vs,by rw [hm];exact ⟨od,q1,q2,q3,nm⟩,RlL.mono (g:=g₁) (g':=g₁.addM σ'.next s.heap.objs.size s.heap.objs.size) (fun J J e=>e) (fun n hn=>(cf n hn).1) (T3 _) _ _ q4,hd.trans hm.symm⟩
    exact hQ _ _ _ tk z.2 z.1 ⟨Tr _,by rw [hm]⟩
  cases ks with
  | nil=>
    obtain rfl:kl=[]:=Va.mp k2.symm
    obtain rfl:xs=[]:=Va.mp hl.symm
    have h0:es=[]:=Va.mp (z8 n e2)
    subst h0
    have h1:σ'=σ:=by
      cases n with
      | zero=>exact aa e2
      | succ n=>exact bf e2 fun J h=>h.symm
    subst h1
    exact wpAny_Dict_empty (fin g _ s.toks [] e₀ x₀ O₀ hp (emptyDict s.heap) rfl .nil nI nM)
  | cons k ks=>
    have k3:=z8 n e2
    refine wpAny_Dict_any k1 (by lia) (by simp) (by exact pu ‹_› ‹_› (by decide)) ?_
    refine Kd (prog:=prog) (w:=w) (hb:=hb) (env:=env) (hev n (To n)) R n (k::ks) es kl xs σ σ' g { s with heap:=s.heap.push e₀ } (To n) e1 e2 hl hev (X.ext x₀) O₀ _ _ fun ps g₁ h₁ tk₁ x₁ O₁ r₁=>?_
    obtain ⟨kvs,vs,rfl,c,rr⟩:=r₁
    have x₁':Ext ak g σ.next s.heap g₁ σ'.next h₁:=x₀.trans x₁
    have hp1:h₁.get? s.heap.objs.size=some e₀:=x₁.keep _ _ hp nM id
    have hl1:=rr.length
    have hdict:h₁.DictOf (strKind prog w) s.heap.objs.size []:=Wn.mpr ⟨e₀,hp1,emptyDict s.heap⟩
    refine wpAny_storeAll ps (kl.zip vs) [] _ _ c hdict (by rw [List.length_nil,List.length_zip,sizeLine_eq];exact znx ‹_› (by decide)) fun h₂ hm hs=>?_
    have nd2:((kl.zip vs).map (·.1)).Nodup:=by
      have:(kl.zip vs).map (·.1)=kl:=Xq (by lia)
      rw [this];exact nd
    rw [merged_nil_of_nodup _ nd2] at hm
    obtain ⟨od,o1,o2⟩:=Wn.mp hm
    have nI1:g₁.I s.heap.objs.size=none:=x₁.sepI hp nI nM
    have nM1:¬ ew g₁ σ'.next s.heap.objs.size:=x₁.sepM hp nM
    have O₂:=O₁.priv nI1 nM1 (.same hs)
    have x₂:=x₁'.priv fresh (.same hs)
    exact fin g₁ h₂ _ vs od x₂ O₂ o1 o2 (by lia) rr nI1 nM1
end
end
section
section
variable {V:V}
abbrev EvGoal (prog:Program) (w:World) (hb:Heap) (A:Around) (g:Gh) (σ:Sto) (s:Shared) (env:Env) (e:Expr) (σ':Sto) (V:Mine.V):Prop:=
  Does prog w hb A ak g σ s (eval e env) σ' (fun g' J v=>Rl prog w g' σ'.next V v)
theorem zg9(he:dy prog w P hb n) {a b:Expr}{op:Operator}{pos:Pos}{σ1 σ2:Sto}{x y:Mine.V}(e1:(run P n).ev sc a ρ σ=some (x,σ1)) (e2:(run P n).ev sc b ρ σ1=some (y,σ2)) (e3:ff σ2 op x y=some (V,σ'))
    (R:Room A n) (X:EnvOk prog w sc env ρ g σ.next s.heap) (O:Ok prog w hb g σ s.heap):EvGoal prog w hb A g σ s env (.BinOp a op b pos) σ' V:=fun Q E hQ=>by
  refine PySem.wpAny_BinOp (he _ _ _ _ _ _ _ _ _ _ e1 R X O _ _ fun u g₁ h₁ tk₁ x₁ O₁ r₁=>?_)
  refine he _ _ _ _ _ _ _ _ { s with heap:=h₁,toks:=tk₁ } _ e2 R (X.ext x₁) O₁ _ _ fun v g₂ h₂ tk₂ x₂ O₂ r₂=>?_
  exact zir (s:={ s with heap:=h₂,toks:=tk₂ }) O₂ e3 (r₁.ext x₂) r₂ _ _ fun c g₃ h₃ tk₃ x₃ O₃ r₃=>hQ c g₃ h₃ tk₃ ((x₁.trans x₂).trans x₃) O₃ r₃
theorem zco(he:dy prog w P hb n) {a b:Expr}{op:CmpOp}{pos:Pos}{σ1 σ2:Sto}{x y:Mine.V}{c:Bool}(e1:(run P n).ev sc a ρ σ=some (x,σ1)) (e2:(run P n).ev sc b ρ σ1=some (y,σ2)) (e3:bo σ2 op x y=some c)
    (R:Room A n) (X:EnvOk prog w sc env ρ g σ.next s.heap) (O:Ok prog w hb g σ s.heap):EvGoal prog w hb A g σ s env (.Compare a [op] [b] pos) σ2 (.bool c):=fun Q E hQ=>by
  have hm:behindInMarks op b=false:=by cases b <;> first | rfl | (cases n <;> cases e2)
  refine PySem.wpAny_Compare1 (he _ _ _ _ _ _ _ _ _ _ e1 R X O _ _ fun u g₁ h₁ tk₁ x₁ O₁ r₁=>?_) hm
  refine he _ _ _ _ _ _ _ _ { s with heap:=h₁,toks:=tk₁ } _ e2 R (X.ext x₁) O₁ _ _ fun v g₂ h₂ tk₂ x₂ O₂ r₂=>?_
  exact Ml (s:={ s with heap:=h₂,toks:=tk₂ }) O₂ e3 (r₁.ext x₂) r₂ (by have:=R.units;exact Q5 ‹_› (by decide)) _ _ fun c g₃ h₃ tk₃ x₃ O₃ r₃=>hQ c g₃ h₃ tk₃ ((x₁.trans x₂).trans x₃) O₃ (by subst r₃;rfl)
theorem zib(he:dy prog w P hb n) {a:Expr}{pos:Pos}{σ1:Sto}{i:Int}(e1:(run P n).ev sc a ρ σ=some (.int i,σ1))
    (R:Room A n) (X:EnvOk prog w sc env ρ g σ.next s.heap) (O:Ok prog w hb g σ s.heap):EvGoal prog w hb A g σ s env (.UnaryOp .USub a pos) σ1 (.int (-i)):=fun Q E hQ=>by
  refine PySem.wpAny_UnaryOp (he _ _ _ _ _ _ _ _ _ _ e1 R X O _ _ fun u g₁ h₁ tk₁ x₁ O₁ r₁=>?_)
  obtain ⟨t,rfl⟩:=r₁
  exact PyProof.Rows.neg_int (hQ _ g₁ h₁ _ x₁ O₁ ⟨_,rfl⟩)
theorem zkq(he:dy prog w P hb n) {a:Expr}{pos:Pos}{σ1:Sto}{b:Bool}(e1:(run P n).ev sc a ρ σ=some (.bool b,σ1))
    (R:Room A n) (X:EnvOk prog w sc env ρ g σ.next s.heap) (O:Ok prog w hb g σ s.heap):EvGoal prog w hb A g σ s env (.UnaryOp .Not a pos) σ1 (.bool (!b)):=fun Q E hQ=>by
  refine PySem.wpAny_UnaryOp (he _ _ _ _ _ _ _ _ _ _ e1 R X O _ _ fun u g₁ h₁ tk₁ x₁ O₁ r₁=>?_)
  obtain rfl:u = .bool b:=r₁
  exact PySem.not_value (y6 (hQ _ g₁ h₁ _ x₁ O₁ rfl))
theorem zf7(he:dy prog w P hb n) (ht:r9 prog w P hb n) {t a b:Expr}{pos:Pos}{σ1:Sto}{c:Bool}(e1:(run P n).tr sc t ρ σ=some (c,σ1)) (e2:(run P n).ev sc (if c then a else b) ρ σ1=some (V,σ'))
    (R:Room A n) (X:EnvOk prog w sc env ρ g σ.next s.heap) (O:Ok prog w hb g σ s.heap):EvGoal prog w hb A g σ s env (.IfExp t a b pos) σ' V:=fun Q E hQ=>by
  refine PySem.wpAny_IfExp (ht _ _ _ _ _ _ _ _ _ _ e1 R X O _ _ fun u g₁ h₁ tk₁ x₁ O₁ r₁=>?_)
  subst r₁
  cases u
  · exact he _ _ _ _ _ _ _ _ { s with heap:=h₁,toks:=tk₁ } _ e2 R (X.ext x₁) O₁ _ _ fun v g₂ h₂ tk₂ x₂ O₂ r₂=>hQ v g₂ h₂ tk₂ (x₁.trans x₂) O₂ r₂
  · exact he _ _ _ _ _ _ _ _ { s with heap:=h₁,toks:=tk₁ } _ e2 R (X.ext x₁) O₁ _ _ fun v g₂ h₂ tk₂ x₂ O₂ r₂=>hQ v g₂ h₂ tk₂ (x₁.trans x₂) O₂ r₂
theorem zjc(he:t9 prog w P hb n) {es:List Expr}{pos:Pos}{xs:List Mine.V}{σ1:Sto}(e1:(run P n).evs sc es ρ σ=some (xs,σ1)) (e2:sz xs=true)
    (R:Room A n) (X:EnvOk prog w sc env ρ g σ.next s.heap) (O:Ok prog w hb g σ s.heap):EvGoal prog w hb A g σ s env (.List es pos) (push σ1 (.lst xs)) (.ref σ1.next):=fun Q E hQ=>by
  rw [arm_eval_List]
  refine Y3 (Y6 (Y3 (he _ _ _ _ _ _ _ _ _ _ pos e1 R X O _ _ fun vs g₁ h₁ tk₁ x₁ O₁ r₁=>?_)))
  exact zcj (s:={ s with heap:=h₁,toks:=tk₁ }) O₁ r₁ e2 _ _ fun c g₃ h₃ tk₃ x₃ O₃ r₃=>hQ c g₃ h₃ tk₃ (x₁.trans x₃) O₃ r₃
theorem zg1(he:t9 prog w P hb n) {es:List Expr}{k:Nat}{pos:Pos}{xs:List Mine.V}{σ1:Sto}(e1:(run P n).evs sc es ρ σ=some (xs,σ1)) (e2:sz xs=true)
    (R:Room A n) (X:EnvOk prog w sc env ρ g σ.next s.heap) (O:Ok prog w hb g σ s.heap):EvGoal prog w hb A g σ s env (.Tuple es k pos) σ1 (.tup xs):=fun Q E hQ=>by
  rw [arm_eval_Tuple]
  refine Y3 (Y6 (Y3 (he _ _ _ _ _ _ _ _ _ _ pos e1 R X O _ _ fun vs g₁ h₁ tk₁ x₁ O₁ r₁=>?_)))
  exact zbb (s:={ s with heap:=h₁,toks:=tk₁ }) O₁ r₁ e2 _ _ fun c g₃ h₃ tk₃ x₃ O₃ r₃=>hQ c g₃ h₃ tk₃ (x₁.trans x₃) O₃ r₃
theorem za0(KX:K.In hb) (he:dy prog w P hb n) {o:Expr}{m:Str}{pos:Pos}{ov:Mine.V}{C:Nat}{c:ClsD}{ks:List Str}{vs:List Mine.V}(e0:jq o=true) (e1:(run P n).ev sc o ρ σ=some (ov,σ'))
    (e2:fg σ' ov=some (C,ks,vs)) (Z:ClsOk K C c) (e3:e9 m c.attrs=true) (e4:d8 m ks vs=some V) (e5:∀u,V≠.val u)
    (R:Room A n) (X:EnvOk prog w sc env ρ g σ.next s.heap) (O:Ok prog w hb g σ s.heap):EvGoal prog w hb A g σ s env (.Attribute o m pos) σ' V:=fun Q E hQ=>by
  rw [arm_eval_Attribute,H1 e0]
  refine Y3 (he _ _ _ _ _ _ _ _ _ _ e1 R X O _ _ fun u g₁ h₁ tk₁ x₁ O₁ r₁=>?_)
  refine Y3 (Y6 (Y3 (Y5 (zca (b:=true) (s:={ s with heap:=h₁,toks:=tk₁ }) KX Z O₁ e2 e3 e4 e5 r₁ _ _ fun c g₃ h₃ tk₃ x₃ O₃ r₃=>?_))))
  exact Y3 (wpAny_letTemporaryGo (Y4 (hQ c g₃ h₃ tk₃ (x₁.trans x₃) O₃ r₃)))
theorem za1(he:dy prog w P hb n) {o i:Expr}{pos:Pos}{σ1:Sto}{ov iv:Mine.V}(hs:∀o' i',subscripted i false o' i'=operate [o',i'] (getItem o' i')) (e1:(run P n).ev sc o ρ σ=some (ov,σ1)) (e2:(run P n).ev sc i ρ σ1=some (iv,σ'))
    (e3:di σ' ov iv=some V) (R:Room A n) (X:EnvOk prog w sc env ρ g σ.next s.heap) (O:Ok prog w hb g σ s.heap):EvGoal prog w hb A g σ s env (.Subscript o i pos) σ' V:=fun Q E hQ=>by
  refine PyProof.Rows.Subscript_ (he _ _ _ _ _ _ _ _ _ _ e1 R X O _ _ fun u g₁ h₁ tk₁ x₁ O₁ r₁=>?_)
  refine he _ _ _ _ _ _ _ _ { s with heap:=h₁,toks:=tk₁ } _ e2 R (X.ext x₁) O₁ _ _ fun v g₂ h₂ tk₂ x₂ O₂ r₂=>?_
  exact zhu (s:={ s with heap:=h₂,toks:=tk₂ }) O₂ e3 (r₁.ext x₂) r₂ hs _ _ fun c g₃ h₃ tk₃ x₃ O₃ r₃=>hQ c g₃ h₃ tk₃ ((x₁.trans x₂).trans x₃) O₃ r₃
theorem RlL.rev{N:Nat}:∀{xs:List Mine.V}{vs:List Value},RlL prog w g N xs vs→RlL prog w g N xs.reverse vs.reverse
  | [],vs,h=>by obtain rfl:vs=[]:=h;exact .nil
  | x::xs,_,⟨v,r,e,h1,h2⟩=>by
    subst e
    rw [Vn,Vn]
    exact h2.rev.append (.cons h1 .nil)
theorem RlL.drop1{N:Nat}:∀{xs:List Mine.V}{vs:List Value},RlL prog w g N xs vs→RlL prog w g N (xs.drop 1) (vs.drop 1)
  | [],vs,h=>by obtain rfl:vs=[]:=h;exact .nil
  | x::xs,_,⟨v,r,e,h1,h2⟩=>by subst e;exact h2
theorem zhj (he:dy prog w P hb n) {o:Expr}{u:Option Expr}{kp:Nat}{p1 p2 p3 pos:Pos}{σ1:Sto}{ov:Mine.V}{xs ys:List Mine.V}(e1:(run P n).ev sc o ρ σ=some (ov,σ1)) (e2:bj σ1 ov=some xs) (hz:sz xs=true)
    (hu:u=none∧ys=xs.reverse∨∃kc pc,u=some (.Constant (.int 0) kc pc)∧ys=(xs.drop 1).reverse)
    (R:Room A n) (X:EnvOk prog w sc env ρ g σ.next s.heap) (O:Ok prog w hb g σ s.heap) :
    EvGoal prog w hb A g σ s env (.Subscript o (.Slice none u (some (.UnaryOp .USub (.Constant (.int 1) kp p1) p2)) p3) pos) (push σ1 (.lst ys)) (.ref σ1.next):=fun Q E hQ=>by
  refine PyProof.Rows.Subscript_ (he _ _ _ _ _ _ _ _ _ _ e1 R X O _ _ fun ua g₁ h₁ tk₁ x₁ O₁ r₁=>?_)
  obtain ⟨b,us,rfl,hl,h5⟩:=j3 O₁ e2 r₁
  have hz:=g9 hz
  have l5:=h5.length
  have il:=hl.isList (h:=h₁) fun J J e=>e
  have fin:∀(tk:Nat) (vl:Value) (lo:Option Int) (vu vk:Value) (hi:Option Int),IsPart vl lo→IsPart vu hi→IsPart vk (some (-1))→(∃zs:List Value,slicePick us.toArray lo hi (some (-1))=zs.toArray∧RlL prog w g₁ σ1.next ys zs)→
      wpAny (model prog w) A (subscriptTail o (.Slice none u (some (.UnaryOp .USub (.Constant (.int 1) kp p1) p2)) p3) (.ref b) (.ref h₁.objs.size)) Q E { s with heap:=h₁.push { cls:=.type "slice",data:=.fields #[vl,vu,vk] },toks:=tk }:=fun tk vl lo vu vk hi q1 q2 q3 ⟨zs,z1,z2⟩=>by
    refine tail_any (T:="list") (il.push _).typeIs PySem.F.slot_list_getitem.lookup (ops:=[.ref b,.ref h₁.objs.size]) ?_ rfl
    refine wpAny_getItem_list_slice (il.push _) (Heap.IsSliceOf.new ..) q1 q2 q3 (by simp) ?_ (by rw [Uo,sizeLine_eq];exact pu ‹_› ‹_› (by decide))
    rw [z1]
    let so:Obj:={ cls:=.type "slice",data:=.fields #[vl,vu,vk] }
    have e0:Ext ak g₁ σ1.next h₁ g₁ σ1.next (h₁.push so):=Ext.grow (ig h₁ so)
    have O0:=O₁.grow (ig h₁ so)
    have hlen:sz ys=true:=by
      have:ys.length≤xs.length:=by
        rcases hu with ⟨_,rfl⟩ | ⟨_,_,_,rfl⟩ <;> simp
      exact Ty (by exact Th ‹_› ‹_›)
    have hm:(g₁.addM σ1.next (h₁.push so).objs.size (h₁.push so).objs.size).mu σ1.next=(h₁.push so).objs.size:=if_pos rfl
    have hd:(g₁.addM σ1.next (h₁.push so).objs.size (h₁.push so).objs.size).de σ1.next=(h₁.push so).objs.size:=if_pos rfl
    have z:=ww (xs:=ys) (vs:=zs) (n:=0) O0 (ig (h₁.push so) { cls:=.type "list",data:=.seq zs.toArray }) (em (To _)) (Tv _ rfl) z2
    exact hQ _ _ _ _ ((x₁.trans e0).trans z.2.1) z.1 z.2.2
  refine wpAny_Slice ?_
  refine wpAny_evalPart_none ?_
  have step1:∀(k:Nat) (Q':Value→Shared→Prop),Q' (.int (-1) (k+1)) { s with heap:=h₁,toks:=k+2 }→wpAny (model prog w) A (evalPart (some (.UnaryOp .USub (.Constant (.int 1) kp p1) p2)) env) Q' E { s with heap:=h₁,toks:=k }:=fun k Q' q=>by
    refine wpAny_evalPart_some (PySem.wpAny_UnaryOp (wpAny_Constant_int (PyProof.Rows.neg_int ?_)))
    exact q
  rcases hu with ⟨rfl,rfl⟩ | ⟨kc,pc,rfl,rfl⟩
  · refine wpAny_evalPart_none (step1 tk₁ _ ?_)
    exact fin _ _ _ _ _ _ .none .none (.int _ _) ⟨us.reverse,by rw [krv_pick],h5.rev⟩
  · refine wpAny_evalPart_some (wpAny_Constant_int ?_)
    exact step1 (tk₁+1) _ (fin _ _ _ _ _ _ .none (.int _ _) (.int _ _) ⟨(us.drop 1).reverse,zbl us,h5.drop1.rev⟩)
end
end
section
section
variable {V:V}
theorem Dz{ks:List Str}{vs:List Value}(h:ks.length=vs.length):(ks.zip vs).length=ks.length:=by rw [List.length_zip];lia
theorem zhz{a:Mine.V}{k:Int}{v:Value}(O:Ok prog w hb g σ s.heap) (r:Rl prog w g σ.next a v) (e:sd σ a=some k) :
    Does prog w hb A ak g σ s (call (.builtin "len") [v]) σ (fun g' J u=>Rl prog w g' σ.next (.int k) u):=fun Q E hQ=>by
  refine cq e (fun J e=>ad e fun xs e1 e=>bc e fun hz e=>?_) fun J e=>aw e fun ks xs e2 e=>bc e fun hz e=>?_
  · have hz:=g9 hz
    obtain ⟨b,vs,rfl,hc,l⟩:=Ag O e1 r
    have kl:=l.length
    have hkk:((vs.toArray.size:Nat):Int)=k:=by rw [Uo,kl];exact br e
    rcases hc with ⟨_,ht⟩ | hl
    · exact kun_lenT (show IsTup s.heap b vs.toArray from ht) hkk (by lia) (hQ _ g s.heap _ (Ext.refl ..) O ⟨_,rfl⟩)
    · exact kun_lenL (hl.isList (h:=s.heap) fun J J e=>e) hkk (by lia) (hQ _ g s.heap _ (Ext.refl ..) O ⟨_,rfl⟩)
  · have hz:=g9 hz
    obtain ⟨b,vs,rfl,hd,l⟩:=tv O e2 r
    have hl:ks.length=vs.length:=let ⟨_,_,_,l,_⟩:=hd;l
    have q:=call_len_dict (prog:=prog) (w:=w) (A:=A) (E:=E) (Q:=Q) (s:=s) hd.ne hd.dictOf (by rw [Dz hl];exact zor ‹_› (by decide))
    rw [Dz hl,br e] at q
    exact q (hQ _ g s.heap _ (Ext.refl ..) O ⟨_,rfl⟩)
theorem zcd {a:Mine.V}{v:Value}(R:A.handled=none) (O:Ok prog w hb g σ s.heap) (r:Rl prog w g σ.next a v) (e:wu σ a=some (V,σ')) :
    Does prog w hb A ak g σ s (call (.builtin "sorted") [v]) σ' (fun g' J u=>Rl prog w g' σ'.next V u):=fun Q E hQ=>by
  refine ad (x:=s6 σ a) e fun J e1 e=>Fg e1 fun e1=>bf e fun h1 h2=>?_
  · subst h1 h2
    obtain ⟨d,vs,rfl,hd,l⟩:=tv O e1 r
    obtain rfl:vs=[]:=l
    obtain ⟨ep,hat⟩:=hd.dictOf.dictAt
    refine call_function_entry kind_sorted plain_sorted entry_sorted (args_sorted1 _) ?_
    unfold Builtin.«sorted»
    refine Y3 (m:=checkCount "sorted" 1 1 _) (Y4 ?_)
    refine Y3 (kdu_collect (A:=A.in1) (kdl_dict (knd:=strKind prog w) (kvs:=[]) (ep:=ep) hd.ne) R hat (Ux _) fun h' tk acc hk hacc=>?_)
    have hac:acc.toList=[]:=Va.mp (by rw [Array.length_toList];exact hacc.1)
    rw [hac]
    refine Y3 (wpAny_newList ?_ (Ux _))
    have hoL:(h'.push (seqObj "list" (Vt ([]:List Value)) 0)).get? h'.objs.size=some (seqObj "list" (Vt ([]:List Value)) 0):=Tv _ rfl
    refine Y3 (Y5 (wpAny_call_entry slot_list_sort ⟨_,hoL,rfl⟩ entry_list_sort (list_sort_tree (ns:=[]) hoL .nil (by decide) fun af ns' a1 a2 a3=>⟨_,rfl,?_⟩) (args_list_sort _)))
    obtain rfl:ns'=[]:=List.Perm.eq_nil a2
    have ho:af = #[]:=by
      cases af with
      | mk l=>
        cases l with
        | nil=>rfl
        | cons x l=>cases a1
    subst ho
    refine Y4 ⟨_,rfl,?_⟩
    let D:=h'.objs.size
    let hA:=h'.push (seqObj "list" (Vt ([]:List Value)) 0)
    have hn:hA.get? D=some (seqObj "list" #[] 0):=hoL
    have h1:=Un (Obj.mapSeq fun J=>(#[]:Array Value)) hn (by simp [Obj.mapSeq,Obj.isFreed])
    have h2:((hA.update D (Obj.mapSeq fun J=>#[])).push (seqObj "tuple" (Vt ([]:List Value)) 0)).get? D=_:=Tq _ h1
    have h3:(((hA.update D (Obj.mapSeq fun J=>#[])).push (seqObj "tuple" (Vt ([]:List Value)) 0)).push (seqObj "list" #[] 0)).get? D=_:=Tq _ h2
    have h4:=Un (Obj.mapSeq fun J=>(#[]:Array Value)) h3 (by simp [Obj.mapSeq,Obj.isFreed])
    have kk:∀a o,s.heap.get? a=some o→(sortedHeap hA D [] #[]).get? a=some o:=fun a o q=>by
      have q':=hk a o q
      have ne:a≠D:=Uz (U3 q')
      exact (Vf _ _ (Ne.symm ne)).trans (Tq _ (Tq _ ((Vf _ _ (Ne.symm ne)).trans (Tq _ q'))))
    have fr:s.heap.get? D=none:=by
      cases q:s.heap.get? D with
      | none=>rfl
      | some o=>exact absurd (U3 (hk _ _ q)) (Vk _)
    have z:=ww (xs:=[]) (vs:=[]) O kk fr h4 .nil
    exact hQ _ _ _ tk z.2.1 z.1 z.2.2
end
end
section
theorem zas:typeLookup (.type "list") "keys"=pure none:=am_miss_of_fast (by kernel_rfl)
section
variable {E:Value→Shared→Prop}
theorem zea{a:Addr}{o:Obj}{xs:Array Value}{k:Nat}{Q:Option Value→Shared→Prop}
    (hx:s.heap.get? a=some o) (hc:o = { cls:=.type "list",data:=.seq xs k }) (hA:A.handled=none)
    (h:∀h' tk,(∀b ob,s.heap.get? b=some ob→h'.get? b=some ob)→Q none { s with heap:=h',toks:=tk }) :
    wpAny (model prog w) A (getAttr? (.ref a) "keys") Q E s:=by
  subst hc
  obtain ⟨hp,g,d,tk,os⟩:=s
  have hT:∀tk',(⟨hp,g,d,tk',os⟩:Shared).TypeIs (.ref a) "list":=fun J=>⟨_,hx,rfl⟩
  have f1:=sub_AttributeError
  have f3:=F.slot_list_getattribute.lookup
  have f4:=F.slot_list_getattribute.bind (.ref a)
  have f5:=am_list_getattr_none
  unfold getAttr? getAttrBy? getAttrBy
  repeat (any_goals (first | assumption | exact hT _ | ((with_reducible show wpAny _ _ (call (Value.builtin "list.__getattribute__") _ _) _ _ _);refine call_meets F.slot_list_getattribute (hT _) am_entry_list_getattribute (F.args_list_getattribute_2 _ _) (meets_getattribute_miss_list a xs k _ _ _ zas (by decide +kernel) (by decide +kernel)) ⟨hx,hA,fun h' tk' e hx'=>?_⟩) | wp_step))
  obtain ⟨t',u',he⟩:=hx'.there
  show wpAny _ _ (getattributeRaised _ _ _ _ _ _ _) _ _ _
  unfold getattributeRaised
  repeat (any_goals (first | assumption | wp_step))
  exact h _ _ hx'.keeps
theorem y3:plainId "dict.update.loop"=true:=by decide +kernel
theorem H0:entryFor table "dict.update.loop"=some Builtin.«dict.update.loop»:=entryFor_of_fast (by kernel_rfl)
def PairsAt (L:Addr→Option Obj):List Value→List Str→List Value→Prop
  | [],[],[]=>True
  | u::us,k::ks,w::ws=>(∃a t n,u = .ref a∧L a=some { cls:=.type "tuple",data:=.seq #[.str k t,w] n })∧PairsAt L us ks ws
  | _,_,_=>False
theorem Ir{d it l:Addr}{h₀:Heap}(hh:A.handled=none) (d0:h₀.get? d=none) (it0:h₀.get? it=none) (hne:d≠it) {items:Array Value}(hl:h₀.IsList l items) {R:Result→Shared→Prop} :
    ∀ (us:List Value) (pre:List Value) (ks:List Str) (ws:List Value) (acc:List (Str×Value)) (s:Shared) (i:Int) (t:Tok),items.toList=pre++us→PairsAt h₀.get? us ks ws→(∀b o,h₀.get? b=some o→s.heap.get? b=some o)→
      s.heap.IsListIter it l pre.length→s.heap.DictOf (strKind prog w) d acc→acc.length+us.length≤sizeLine→((acc++ks.zip ws).map (·.1)).Nodup→
      (∀h' tk,(∀b o,h₀.get? b=some o→h'.get? b=some o)→h'.DictOf (strKind prog w) d (acc++ks.zip ws)→R (.ok (.ret .none)) { s with heap:=h',toks:=tk })→
      codeAny (model prog w) A (.builtin "dict.update.loop" ⟨[.ref d,.ref it,.int i t,.none],[]⟩) R s
  | [],pre,ks,ws,acc,s,i,t,hi,hp,hk,hit,hd,hsz,hn,hR=>by
    have:ks=[]∧ws=[]:=by
      cases ks <;> cases ws <;> first | exact ⟨rfl,rfl⟩ | exact hp.elim
    obtain ⟨rfl,rfl⟩:=this
    refine codeAny_builtin H0 ?_
    rw [Around.under_plainId y3 _]
    show wpAny _ A.in1 (pyNext (.ref it) >>= _) _ _ s
    have hl':s.heap.IsList l items:=let ⟨o,ho,r⟩:=hl;⟨o,hk _ _ ho,r⟩
    refine Y3 (wpAny_pyNext_list_end hh hit hl' (by rw [← Array.getElem?_toList,hi];simp) fun h' hx=>?_)
    show wpAny _ _ (Builtin.Dict.addKeywords d [] >>= _) _ _ _
    refine Y3 (Y4 (Y4 ?_))
    exact hR h' s.toks (fun b o e=>hx b o (fun q=>by subst q;rw [it0] at e;cases e) (hk b o e)) (by simpa using hd.extBut hx hne)
  | u :: us,pre,ks,ws,acc,s,i,t,hi,hp,hk,hit,hd,hsz,hn,hR=>by
    obtain ⟨k,ks,w',ws,rfl,rfl⟩:∃k ks' w' ws',ks=k::ks'∧ws=w' :: ws':=by
      cases ks <;> cases ws <;> first | exact ⟨_,_,_,_,rfl,rfl⟩ | exact hp.elim
    obtain ⟨⟨a,tk,n,rfl,ha⟩,hp⟩:=hp
    refine codeAny_builtin H0 ?_
    rw [Around.under_plainId y3 _]
    show wpAny _ A.in1 (pyNext (.ref it) >>= _) _ _ s
    have hl':s.heap.IsList l items:=let ⟨o,ho,r⟩:=hl;⟨o,hk _ _ ho,r⟩
    refine Y3 (wpAny_pyNext_list_item hit hl' (x:=.ref a) (by rw [← Array.getElem?_toList,hi];simp) fun h' hx hs=>?_)
    have hk':∀b o,h₀.get? b=some o→h'.get? b=some o:=fun b o e=>(hs.2 b fun q=>by subst q;rw [it0] at e;cases e).trans (hk b o e)
    have ha':=hk' _ _ ha
    refine Y3 (Y5 ?_)
    show wpAny _ _ (tryCatch (Builtin.Dict.pairItems (.ref a)) _ >>= _) _ _ _
    refine Y3 (wpAny_tryCatch ?_)
    unfold Builtin.Dict.pairItems
    refine Y3 (wpAny_typeOf (show ({ s with heap:=h' }:Shared).TypeIs (.ref a) "tuple" from ⟨_,ha',rfl⟩) ?_)
    rw [if_pos (by decide)]
    refine Y3 (wpAny_seqItems ha' rfl (Y4 ?_))
    show wpAny _ _ (holding [Value.str k tk,w'] (dictSet d (.str k tk) w')) _ _ _
    have hd1:h'.DictOf (strKind prog w) d acc:=hd.sameBut hs hne
    refine Y5 (wpAny_dictSet_pairs (k:=k) (by show Value.isStrOf k (.str k tk)=true;simp [Value.isStrOf]) hd1 (fun h₂ hd2 hs2=>?_) (by rw [Tl] at hsz;exact md ‹_›))
    have hst:stored acc k w'=acc++[(k,w')]:=by
      refine PyProof.Rows.stored_absent (PyProof.Rows.valueAt_none_of_not_mem fun hm=>?_) _
      rw [Ub,W3,T5,List.nodup_append] at hn
      exact hn.2.2 k hm k (Tj ..) rfl
    rw [hst] at hd2
    refine Y4 ⟨plainId_quiet y3 _,?_⟩
    refine Ir hh d0 it0 hne hl us (pre++[.ref a]) ks ws (acc++[(k,w')]) { s with heap:=h₂,toks:=s.toks+1 } (i+1) 0 (by rw [hi];simp) hp (fun b o e=>(hs2.2 b fun q=>by subst q;rw [d0] at e;cases e).trans (hk' b o e)) ?_ hd2
      (by rw [T1,Ua];rw [Tl] at hsz;exact re ‹_›) (by simpa using hn) fun h3 tk3 k3 d3=>hR h3 tk3 k3 (by simpa using d3)
    rw [T1,Ua]
    obtain ⟨o,ho,r⟩:=hx
    exact ⟨o,(hs2.2 it (Ne.symm hne)).trans ho,r⟩
end
end
section
section
variable {V:V}
theorem L8{k:Str}:∀{l:List Str},e9 k l=false→k ∉ l
  | [],_=>Wj
  | x :: r,e=>by
    have e:(if seq k x=true then true else e9 k r)=false:=e
    cases q:seq k x
    · rw [q,if_neg Ts] at e
      exact fun hm=>(Tz.mp hm).elim (fun c=>by rw [c,kt] at q;cases q) (L8 e)
    · rw [q,if_pos rfl] at e;cases e
theorem zex{v:Mine.V}{k:Str}{b:Mine.V}(e:Nn v=some (k,b)):v = .tup [.str k,b]:=
  ad e fun p h1 e=>aw e fun x y h2 e=>ad e fun k' h3 e=>bf e fun h4 h5=>by rw [pn h1,yc h2,qu h3,h4,h5]
theorem Jd:∀{xs:List Mine.V}{us:List Value}{ks:List Str}{vs:List Mine.V},D7 xs=some (ks,vs)→RlL prog w g N xs us→∃ws,PairsAt g.I us ks ws∧RlL prog w g N vs ws∧ks.Nodup∧ks.length=us.length
  | [],us,ks,vs,e,r=>bf e fun h1 h2=>by
    rw [← h1,← h2,show us=[] from r]
    exact ⟨[],trivial,.nil,Ye,rfl⟩
  | x::xs,us,ks,vs,e,r=>aw e fun k b e1 e=>aw e fun ks' vs' e2 e=>kj e fun hk e=>bf e fun q1 q2=>by
    obtain ⟨u,r',rfl,h1,h2⟩:=r
    obtain ⟨ws,p1,p2,p3,p4⟩:=Jd e2 h2
    rw [zex e1] at h1
    obtain ⟨a,zs,rfl,⟨n,ht⟩,z1,z2,rfl,⟨t,rfl⟩,z3,z4,rfl,k3,k4⟩:=h1
    obtain rfl:z4=[]:=k4
    rw [← q1,← q2]
    exact ⟨z3::ws,⟨⟨a,t,n,rfl,ht⟩,p1⟩,.cons k3 p2,Vq.mpr ⟨L8 hk,p3⟩,congrArg (· + 1) p4⟩
theorem PairsAt.to{L L':Addr→Option Obj}(k:∀a o,L a=some o→L' a=some o):∀{us:List Value}{ks:List Str}{ws:List Value},PairsAt L us ks ws→PairsAt L' us ks ws
  | [],[],[],_=>trivial
  | _::_,_::_,_::_,⟨⟨a,t,n,e,q⟩,h⟩=>⟨⟨a,t,n,e,k _ _ q⟩,h.to k⟩
  | [],_::_,_,h=>h.elim
  | [],[],_::_,h=>h.elim
  | _::_,[],_,h=>h.elim
  | _::_,_::_,[],h=>h.elim
theorem L1{a:Addr}{ks:List Str}{xs:List Mine.V}{vs:List Value}(W:hb.NoLimit) (O:Ok prog w hb g σ h) (k:∀a o,h.get? a=some o→h'.get? a=some o) (ha:h.get? a=none) (hm:a≠sysModules)
    (e:h'.DictOf (strKind prog w) a (ks.zip vs)) (hl:ks.length=vs.length) (r:RlL prog w g σ.next xs vs) :
    Ok prog w hb (g.addM σ.next a a) (push σ (.dct ks xs)) h'∧Ext ak g σ.next h (g.addM σ.next a a) (push σ (.dct ks xs)).next h'∧Rl prog w (g.addM σ.next a a) (push σ (.dct ks xs)).next (.ref σ.next) (.ref a):=by
  have m0:(g.addM σ.next a a).mu σ.next=a:=if_pos rfl
  have d0:(g.addM σ.next a a).de σ.next=a:=if_pos rfl
  obtain ⟨o,ho,hd⟩:=Wn.mp e
  have z:=zr (g:=g) (o:=.dct ks xs) O k ha ha ⟨_,ho⟩ ⟨_,ho⟩
    ⟨vs,by rw [m0];exact ⟨o,ho,hd,hl,hm⟩,RlL.mono (g:=g) (g':=g.addM σ.next a a) (fun J J e=>e) (fun n hn=>(cf n hn).1) (T3 _) _ _ r,d0.trans m0.symm⟩
  exact ⟨z.1,z.2,Tr _,by rw [m0]⟩
theorem zgb {a:Mine.V}{v:Value}(W:hb.NoLimit) (R:A.handled=none) (O:Ok prog w hb g σ s.heap) (r:Rl prog w g σ.next a v) (e:x3 σ a=some (V,σ')) :
    Does prog w hb A ak g σ s (call (.type "dict") [v]) σ' (fun g' J u=>Rl prog w g' σ'.next V u):=fun Q E hQ=>by
  refine cq e (fun J e=>ad e fun xs e1 e=>aw e fun ks vs e2 e=>bc e fun hz e=>bf e fun q1 q2=>?_) fun J e=>aw e fun ks xs e2 e=>bc e fun hz e=>bf e fun q1 q2=>?_
  · subst q1 q2
    · · have hz:=g9 hz
        obtain ⟨l,us,rfl,⟨c,hl⟩,h5⟩:=j3 O e1 r
        obtain ⟨ws,p1,p2,p3,p4⟩:=Jd e2 h5
        have lw:ks.length=ws.length:=by
          have:∀{us:List Value}{ks:List Str}{ws:List Value},PairsAt g.I us ks ws→ks.length=ws.length:=by
            intro us
            induction us with
            | nil=>intro ks ws h;cases ks <;> cases ws <;> first | rfl | exact h.elim
            | cons u us ih=>intro ks ws h;cases ks <;> cases ws <;> first | exact h.elim | exact congrArg (· + 1) (ih h.2)
          exact this p1
        let d:=s.heap.objs.size
        have nm:=B6 W O (To s.heap.objs.size)
        have fr:s.heap.get? d=none:=em (To _)
        refine callType_codes (Q₁:=fun obj s₁=>obj = .ref d∧s₁ = { s with heap:=s.heap.push { cls:=.type "dict",data:=.dict #[] } }) PySem.F.kt_called_dict (PySem.F.kt_typeCall_dict_1 _) PySem.F.entry_dict_init (kt_code_dict_new _ ⟨rfl,rfl⟩) ?_
        rintro obj s₁ ⟨rfl,rfl⟩
        have hnew:(s.heap.push { cls:=.type "dict",data:=.dict #[] }).DictOf (strKind prog w) d []:=Heap.DictOf.new s.heap
        have hl':(s.heap.push { cls:=.type "dict",data:=.dict #[] }).get? l=some { cls:=.type "list",data:=.seq us.toArray c }:=Tq _ hl
        refine ⟨hnew.typeIs,PySem.F.args_dict_init_2 _ _,?_⟩
        unfold Builtin.«dict.__init__»
        refine Y3 ?_
        unfold Builtin.Dict.selfAndRest
        refine Y3 (wpAny_notOrdered_dict hnew.typeIs ?_)
        show wpAny _ _ (pure (d,[Value.ref l])) _ _ _
        refine Y4 ?_
        show wpAny _ _ (Builtin.Dict.updateFrom "dict.__init__" d (.ref l) [] .none) _ _ _
        unfold Builtin.Dict.updateFrom
        refine Y3 (wpAny_typeOf (show ({ s with heap:=s.heap.push { cls:=.type "dict",data:=.dict #[] } }:Shared).TypeIs (.ref l) "list" from ⟨_,hl',rfl⟩) ?_)
        rw [if_pos (by decide)]
        refine Y3 (zea hl' rfl R fun h₁ tk₁ k₁=>?_)
        rw [if_pos (by rfl)]
        have hl1:h₁.IsList l us.toArray:=⟨_,k₁ _ _ hl',rfl,c,rfl⟩
        refine Y3 (wpAny_rule ?_)
        refine Y3 (wpAny_pyIter_list hl1 ?_)
        let it:=h₁.objs.size
        have hd1:h₁.DictOf (strKind prog w) d []:=hnew.keep k₁
        have kk:∀b o,s.heap.get? b=some o→h₁.get? b=some o:=fun b o q=>k₁ _ _ (Tq _ q)
        have itf:s.heap.get? it=none:=by
          cases q:s.heap.get? it with
          | none=>rfl
          | some o=>exact absurd (U3 (kk _ _ q)) (Vk _)
        have hne:d≠it:=by
          obtain ⟨o,_,_,ho,_⟩:=hd1
          exact Uz (U3 ho)
        refine Y4 ⟨plainId_quiet y3 _,?_⟩
        refine Ir (A:=A.in1) (h₀:=s.heap) R fr itf hne ⟨_,hl,rfl,c,rfl⟩ us [] ks ws [] _ 0 _ (by simp) (p1.to O.sub) (fun b o q=>Tq _ (kk _ _ q)) ⟨_,Tv _ rfl,rfl,rfl⟩ (hd1.push _) (by rw [sizeLine_eq];simp;lia) ?_ fun h₂ tk₂ k₂ d₂=>?_
        · have:((ks.zip ws).map (·.1))=ks:=Xq (by lia)
          rw [Vi,this];exact p3
        · rw [Vi] at d₂
          have z:=L1 (h:=s.heap) W O k₂ fr nm d₂ lw p2
          exact ⟨rfl,hQ _ _ _ _ z.2.1 z.1 z.2.2⟩
  · subst q1 q2
    · · have hz:=g9 hz
        obtain ⟨b,vs,rfl,hd,l⟩:=tv O e2 r
        have hl:ks.length=vs.length:=let ⟨_,_,_,l,_⟩:=hd;l
        have fr:s.heap.get? s.heap.objs.size=none:=em (To _)
        refine kt_call_dict hd.ne hd.dictOf (by rw [Dz hl,sizeLine_eq];exact Th ‹_› (by decide)) fun h' hd' hs=>?_
        have k':∀a o,s.heap.get? a=some o→h'.get? a=some o:=fun a o q=>(hs.2 a (Uz (U3 q))).trans (Tq _ q)
        have z:=L1 (h:=s.heap) W O k' fr (B6 W O (To _)) hd' hl l
        exact hQ _ _ _ _ z.2.1 z.1 z.2.2
end
end
section
section
variable {V:V}
theorem Ke{xs:List Mine.V}{us:List Value}(l:us.length=xs.length) (hz:xs.length≤4096):us.toArray.size≤sizeLine:=by
  rw [Uo,l]
  exact Th hz (by rw [sizeLine_eq];decide)
theorem zg7{a:Mine.V}{v:Value}(O:Ok prog w hb g σ s.heap) (r:Rl prog w g σ.next a v) (e:xw σ a=some (V,σ')) :
    Does prog w hb A ak g σ s (call (.type "list") [v]) σ' (fun g' J u=>Rl prog w g' σ'.next V u):=fun Q E hQ=>by
  refine ad (x:=jx σ a) e fun xs e1 e=>bc e fun hz e=>bf e fun q1 q2=>?_
  subst q1 q2
  obtain ⟨b,vs,rfl,hc,l⟩:=Ag O e1 r
  have fin:∀{T:String}{o:Obj}{c:Nat},(T = "list"∨T = "tuple")→s.heap.get? b=some o→o.cls = .type T→o.data = .seq vs.toArray c→wpAny (model prog w) A (call (.type "list") [.ref b]) Q E s:=fun hT ho hc hd=>by
    refine call_list_seq (hsz:=Ke l.length (g9 hz)) b hT ho hc hd fun h' c' hk hD=>?_
    have z:=ww O hk (em (To _)) hD l
    exact hQ _ _ _ _ z.2.1 z.1 z.2.2
  rcases hc with ⟨_,o,h2,h3,n,h4⟩ | ⟨_,ht⟩
  · exact fin (.inr rfl) h2 h3 h4
  · exact fin (.inl rfl) ht rfl rfl
theorem zf2{p:Prop}{a:Mine.V}(e:u3 σ a=some (V,σ')) (k1:∀xs,a = .tup xs→V = .tup xs→σ'=σ→p) (k2:∀xs,bj σ a=some xs→xs.length≤4096→V = .tup xs→σ'=σ→p):p:=
  cq e (fun J e=>ad e fun xs h e=>bf e fun h1 h2=>k1 xs (pn h) h1.symm h2.symm) fun J e=>ad e fun xs h e=>bc e fun hz e=>bf e fun h1 h2=>k2 xs h (g9 hz) h1.symm h2.symm
theorem zdm{a:Mine.V}{v:Value}(O:Ok prog w hb g σ s.heap) (r:Rl prog w g σ.next a v) (e:u3 σ a=some (V,σ')) :
    Does prog w hb A ak g σ s (call (.type "tuple") [v]) σ' (fun g' J u=>Rl prog w g' σ'.next V u):=fun Q E hQ=>by
  refine zf2 e ?_ ?_
  · rintro xs rfl rfl rfl
    obtain ⟨a,vs,rfl,ht,l⟩:=id r
    exact call_tuple_same (ht.isTuple O.sub) (hQ _ _ _ _ (Ext.refl ..) O r)
  · rintro xs e1 hz rfl rfl
    obtain ⟨b,us,rfl,hl,l⟩:=j3 O e1 r
    refine call_tuple_list (hl.isList (h:=s.heap) fun J J e=>e) (fun h' hk=>?_) (Ke l.length hz)
    have fr:s.heap.get? h'.objs.size=none:=by
      cases q:s.heap.get? h'.objs.size with
      | none=>rfl
      | some o=>exact absurd (U3 (hk _ _ q)) (Vk _)
    obtain ⟨g',z1,z2,z3⟩:=Mk O (fun a o q=>Tq _ (hk a o q)) fr (Tv _ rfl) l
    exact hQ _ _ _ _ z2 z1 z3
theorem Me{a:Addr}{lo hi:Int}{t u v:Tok}(O:Ok prog w hb g σ h) (k:∀a o,h.get? a=some o→h'.get? a=some o) (ha:h.get? a=none)
    (e:h'.get? a=some { cls:=.type "range",data:=.fields #[.int lo t,.int hi u,.int 1 v] }) :
    ∃g',Ok prog w hb g' σ h'∧Ext ak g σ.next h g' σ.next h'∧Rl prog w g' σ.next (.rng lo hi) (.ref a):=by
  have z:=Ds (g:=g) O k ha e
  exact ⟨_,z.1,z.2,_,rfl,t,u,v,Ek⟩
theorem Re{f:Value}{n:String}(e:Bp f=some (true,n)):f = .type n:=by cases f <;> first | exact aa e | (cases e;done) | (cases e;rfl)
theorem P0{f:Value}{n:String}(e:Bp f=some (false,n)):f = .builtin n:=by cases f <;> first | exact aa e | (cases e;done) | (cases e;rfl)
theorem zqa{p:String→Mine.V→Sto→Prop}{n:String}{a:Mine.V}(e:Sw σ n a=some (V,σ')) (k1:∀k,sd σ a=some k→p "len" (.int k) σ) (k2:wu σ a=some (V,σ')→p "sorted" V σ'):p n V σ':=
  cq e (fun q e=>ad e fun k hk e=>bf e fun h1 h2=>by rw [beq_iff_eq.mp q,← h1,← h2];exact k1 k hk) fun J e=>bc e fun q e=>by rw [beq_iff_eq.mp q];exact k2 e
theorem zp4{p:String→Mine.V→Mine.V→Sto→Prop}{n:String}{a:Mine.V}(e:S6 σ n a=some (V,σ')) (k4:xw σ a=some (V,σ')→p "list" a V σ') (k5:u3 σ a=some (V,σ')→p "tuple" a V σ')
    (k6:x3 σ a=some (V,σ')→p "dict" a V σ') (k7:∀b,p "range" (.int b) (.rng 0 b) σ) (k8:∀b,p "int" (.int b) (.int b) σ):p n a V σ':=
  cq e (fun q e=>by rw [beq_iff_eq.mp q];exact k4 e) fun J e=>cq e (fun q e=>by rw [beq_iff_eq.mp q];exact k5 e) fun J e=>cq e (fun q e=>by rw [beq_iff_eq.mp q];exact k6 e) fun J e=>
    cq e (fun q e=>ad e fun b hb e=>bf e fun h1 h2=>by rw [beq_iff_eq.mp q,m9 hb,← h1,← h2];exact k7 b) fun J e=>bc e fun q e=>ad e fun b hb e=>bf e fun h1 h2=>by rw [beq_iff_eq.mp q,m9 hb,← h1,← h2];exact k8 b
theorem zti(P:Value→List Mine.V→Mine.V→Sto→Prop) {f:Value}{args:List Mine.V}(e:blt σ f args=some (V,σ')) (k1:∀a k,sd σ a=some k→P (.builtin "len") [a] (.int k) σ) (k2:∀a,wu σ a=some (V,σ')→P (.builtin "sorted") [a] V σ')
    (k3:∀i j,P (.builtin "max") [.int i,.int j] (.int (if j > i then j else i)) σ) (k4:∀a,xw σ a=some (V,σ')→P (.type "list") [a] V σ') (k5:∀a,u3 σ a=some (V,σ')→P (.type "tuple") [a] V σ')
    (k6:∀a,x3 σ a=some (V,σ')→P (.type "dict") [a] V σ') (k7:∀b,P (.type "range") [.int b] (.rng 0 b) σ) (k8:∀b,P (.type "int") [.int b] (.int b) σ)
    (k9:∀i j,P (.type "range") [.int i,.int j] (.rng i j) σ):P f args V σ':=by
  refine aw (x:=Bp f) e fun ty n hf e=>cq e (fun J e=>ad e fun a ha e=>?_) fun J e=>aw e fun a b ha e=>ad e fun i h1 e=>ad e fun j h2 e=>?_
  · rw [n9 ha]
    cases ty
    · rw [P0 hf];exact zqa (p:=fun n V σ'=>P (.builtin n) [a] V σ') e (k1 a) (k2 a)
    · rw [Re hf];exact zp4 (p:=fun n a V σ'=>P (.type n) [a] V σ') e (k4 a) (k5 a) (k6 a) k7 k8
  · rw [yc ha,m9 h1,m9 h2]
    cases ty
    · exact bc e fun q e=>bf e fun h1 h2=>by rw [P0 hf,beq_iff_eq.mp q];rw [← h1,← h2];exact k3 i j
    · exact bc e fun q e=>bf e fun h1 h2=>by rw [Re hf,beq_iff_eq.mp q];rw [← h1,← h2];exact k9 i j
theorem RlL.one{x:Mine.V}{vs:List Value}(r:RlL prog w g N [x] vs):∃v,vs=[v]∧Rl prog w g N x v:=let ⟨v,_,e,h,k⟩:=r;⟨v,by rw [e,show _=[] from k],h⟩
theorem RlL.two{x y:Mine.V}{vs:List Value}(r:RlL prog w g N [x,y] vs):∃v u,vs=[v,u]∧Rl prog w g N x v∧Rl prog w g N y u:=let ⟨v,_,e,h,k⟩:=r;let ⟨u,e',h'⟩:=RlL.one k;⟨v,u,by rw [e,e'],h,h'⟩
theorem zkp{f:Value}{args:List Mine.V}{vs:List Value}(W:hb.NoLimit) (R:A.handled=none) (O:Ok prog w hb g σ s.heap) (r:RlL prog w g σ.next args vs) (e:blt σ f args=some (V,σ')) :
    Does prog w hb A ak g σ s (call f vs) σ' (fun g' J u=>Rl prog w g' σ'.next V u):=by
  refine zti (fun f args V σ'=>RlL prog w g σ.next args vs→Does prog w hb A ak g σ s (call f vs) σ' (fun g' J u=>Rl prog w g' σ'.next V u)) e ?_ ?_ ?_ ?_ ?_ ?_ ?_ ?_ ?_ r
  · intro a k e1 r
    obtain ⟨v,rfl,r1⟩:=r.one
    exact zhz O r1 e1
  · intro a e1 r
    obtain ⟨v,rfl,r1⟩:=r.one
    exact zcd R O r1 e1
  · intro i j r Q E hQ
    obtain ⟨_,_,rfl,⟨t,rfl⟩,⟨t2,rfl⟩⟩:=r.two
    refine max_two_ints R fun h' tk k=>hQ _ g h' tk (Ext.grow k) (O.grow k) ?_
    by_cases q:j > i
    · rw [if_pos q,if_pos q];exact ⟨_,rfl⟩
    · rw [if_neg q,if_neg q];exact ⟨_,rfl⟩
  · intro a e1 r
    obtain ⟨v,rfl,r1⟩:=r.one
    exact zg7 O r1 e1
  · intro a e1 r
    obtain ⟨v,rfl,r1⟩:=r.one
    exact zdm O r1 e1
  · intro a e1 r
    obtain ⟨v,rfl,r1⟩:=r.one
    exact zgb W R O r1 e1
  · intro b r Q E hQ
    obtain ⟨_,rfl,⟨t,rfl⟩⟩:=r.one
    refine call_range_1 ?_
    obtain ⟨g',z1,z2,z3⟩:=Me O (ig s.heap _) (em (To _)) (Tv _ rfl)
    exact hQ _ _ _ _ z2 z1 z3
  · intro b r Q E hQ
    obtain ⟨_,rfl,⟨t,rfl⟩⟩:=r.one
    exact call_int_int (hQ _ g s.heap s.toks (Ext.refl ..) O ⟨_,rfl⟩)
  · intro i j r Q E hQ
    obtain ⟨_,_,rfl,⟨t,rfl⟩,⟨t2,rfl⟩⟩:=r.two
    refine call_range_2 ?_
    obtain ⟨g',z1,z2,z3⟩:=Me O (ig s.heap _) (em (To _)) (Tv _ rfl)
    exact hQ _ _ _ _ z2 z1 z3
theorem zeu(a b c:Str):a++(b++c)=a++b++c:=by
  rw [← tj,← tj,← tj,← tj]
  simp [qe]
theorem ze3 (sep:Str) (l:List Str):t5 sep l=PySem.Txt.join sep l:=by
  have h:∀(l:List Str),t5 sep l=Str.join sep l:=by
    intro l
    induction l with
    | nil=>rfl
    | cons x l ih=>
      cases l with
      | nil=>rfl
      | cons y l=>
        show qe x (qe sep (t5 sep (y::l)))=x++sep++Str.join sep (y::l)
        rw [ih,tj,tj,zeu]
  rw [h,PySem.Txt.join,StrLaws.glued_eq_join]
theorem zi6{s0:Str}{x:Mine.V}{v:Value}{xs:List Mine.V}{l:List Str}{t:Tok}(O:Ok prog w hb g σ s.heap) (e1:bj σ x=some xs) (e2:w6 xs=some l)
    (e3:(U8 s0.cps.toList.length 16&&U8 ((l.map fun y=>y.cps.toList.length).sum+l.length) 100000)=true) (r:Rl prog w g σ.next x v) :
    Does prog w hb A ak g σ s (call (.builtin "str.join") [.str s0 t,v]) σ (fun g' J u=>Rl prog w g' σ.next (.str (t5 s0 l)) u):=fun Q E hQ=>by
  rw [Uc] at e3
  have h1:=T7 e3.1
  have h2:=T7 e3.2
  obtain ⟨b,us,rfl,hl,h5⟩:=j3 O e1 r
  have hlen:∀y:Str,y.length=y.cps.toList.length:=fun y=>rfl
  refine PyProof.Rows.join_listW (hl.isList (h:=s.heap) fun J J e=>e) (Jf e2 h5) (by rw [hlen];exact h1) ?_ fun t' k=>?_
  · have:(l.map (·.length))=l.map fun y=>y.cps.toList.length:=V4 fun y J=>hlen y
    rw [this];exact Th ‹_› (by decide)
  · rw [← ze3]
    exact hQ _ g s.heap k (Ext.refl ..) O ⟨_,rfl⟩
end
end
section
def pb (slots:List (Str×Value)) (p:Str×Value):List (Str×Value):=if (slots.lookup p.1).isNone then slots++[(p.1,p.2)] else slots
theorem Ij(n k:Str) (v:Value):∀l:List (Str×Value),(l++[(k,v)]).lookup n=match l.lookup n with | some u=>some u | none=>if n == k then some v else none
  | []=>by
    rw [Vi,Um]
    cases n == k <;> rfl
  | (a,b)::l=>by
    rw [List.cons_append,Um,Um]
    cases n == a
    · exact Ij n k v l
    · rfl
theorem H6 (n:Str):∀(l slots:List (Str×Value)),(l.foldl pb slots).lookup n=match slots.lookup n with | some u=>some u | none=>l.lookup n
  | [],slots=>by cases h:slots.lookup n <;> simp [h]
  | (k, v)::l,slots=>by
    rw [X7,H6 n l]
    unfold pb
    rw [Um]
    cases q:slots.lookup k with
    | some u=>
      simp only [Option.isNone_some,Ut,if_false]
      cases r:slots.lookup n with
      | some w=>rfl
      | none=>
        cases e:n == k with
        | false=>rfl
        | true=>
          rw [beq_iff_eq.mp e,q] at r;cases r
    | none=>
      simp only [Yv,if_true]
      rw [Ij]
      cases r:slots.lookup n with
      | some w=>rfl
      | none=>cases e:n == k <;> rfl
theorem Ia(F:Str→Option Value):∀(ns:List Str) (us:List Value),ns.length=us.length→(∀i (h:i<ns.length),F ns[i]=us[i]?)→(ns.filterMap fun n=>(F n).map (n,·))=ns.zip us
  | [],[],_,_=>rfl
  | [],_::_,h,_=>nomatch h
  | _::_,[],h,_=>nomatch h
  | n::ns,u::us,h,k=>by
    have k0:F n=some u:=k 0 (Nat.zero_lt_succ _)
    rw [W7,k0,Ub]
    show (n,u)::_=_
    congr 1
    exact Ia F ns us (Vm.inj h) fun i hi=>k (i+1) (Vv hi)
theorem y9:∀(ns:List Str) (vs:List Value) (i:Nat) (h:i<ns.length),ns.Nodup→(ns.zip vs).lookup ns[i]=vs[i]?
  | n::ns,[],i,h,_=>by simp
  | n::ns,v::vs,0,h,_=>by simp
  | n :: ns,v::vs,i+1,h,nd=>by
    rw [Ub,Um]
    have hi:i<ns.length:=Tx h
    rw [Vq] at nd
    have ne:((n::ns)[i+1] == n)=false:=by
      rw [beq_eq_false_iff_ne]
      intro e
      exact nd.1 (e▸(by rw [List.getElem_cons_succ];exact List.getElem_mem hi))
    rw [ne]
    simpa using y9 ns vs i hi nd.2
theorem H3:∀(ns:List Str) (vs:List Value) (n:Str),n ∉ ns→(ns.zip vs).lookup n=none
  | [],_,_,_=>rfl
  | _::_,[],_,_=>rfl
  | k :: ns,v::vs,n,h=>by
    rw [Ub,Um]
    have ne:(n == k)=false:=by
      rw [beq_eq_false_iff_ne];intro e;exact h (e▸Tj ..)
    rw [ne]
    exact H3 ns vs n fun hm=>h (Ti _ hm)
theorem zbk(ns:List Str) (ds:List Value) (k i:Nat) (h:i<ns.length) (nd:ns.Nodup):((ns.drop k).zip ds).lookup ns[i]=if k≤i then ds[i-k]? else none:=by
  by_cases hk:k≤i
  · rw [if_pos hk]
    have h':i-k<(ns.drop k).length:=by rw [Xr];exact zon ‹_› ‹_›
    have:=y9 (ns.drop k) ds (i-k) h' (List.Nodup.sublist (List.drop_sublist k ns) nd)
    rw [List.getElem_drop] at this
    have e:k+(i-k)=i:=by exact Qw ‹_›
    simp only [e] at this
    exact this
  · rw [if_neg hk]
    apply H3
    intro hm
    obtain ⟨j,hj,e⟩:=Yg.mp hm
    rw [List.getElem_drop] at e
    rw [Xr] at hj
    exact (List.pairwise_iff_getElem.mp nd) i (k+j) h (by exact zp8 ‹_›) (by lia) e.symm
section
variable {M:Model}{E:Value→Shared→Prop}
theorem Ce(f:Str×Value→List (Str×Value)→Sem (ForInStep (List (Str×Value)))) (hf:∀n d slots,f (n,d) slots=if (slots.lookup n).isNone then (do let slots:=slots++[(n,d)];pure (.yield slots)) else pure (.yield slots)) :
    ∀(l slots:List (Str×Value)) (s:Shared) (Q:List (Str×Value)→Shared→Prop),Q (l.foldl pb slots) s→wpAny M A (forIn l slots f) Q E s
  | [],slots,s,Q,h=>by rw [Vx];exact Y4 h
  | (n,d)::l,slots,s,Q,h=>by
    rw [Vz,hf]
    rw [X7] at h
    cases q:(slots.lookup n).isNone
    · have:pb slots (n,d)=slots:=by unfold pb;simp [q]
      rw [this] at h
      exact Y3 (Y4 (Ce f hf l _ s Q h))
    · have:pb slots (n,d)=slots++[(n,d)]:=by unfold pb;simp [q]
      rw [this] at h
      exact Y3 (Y4 (Ce f hf l _ s Q h))
end
theorem Ew{α:Type}{M:Model}{A:Around}{s:Shared}{Q:α→Shared→Prop}{E:Value→Shared→Prop}{c:Bool}{X Y:Sem α}(h:c=false) (k:wpAny M A Y Q E s):wpAny M A (if c=true then X else Y) Q E s:=by
  rw [h];exact k
theorem Oq{α β:Type}{M:Model}{A:Around}{s:Shared}{b:β}{Q:β→Shared→Prop}{E:Value→Shared→Prop}{f:α→β→Sem (ForInStep β)}(h:Q b s):wpAny M A (forIn ([]:List α) b f) Q E s:=jc (List.forIn_nil ..) (wpAny_pure h)
theorem ztp(n v d:Nat) (h1:v≤n) (h2:n≤v+d):n=v+(d-(d-(n-v))):=by rw [Nat.sub_sub_self (Nat.sub_le_iff_le_add'.mpr h2),W4 h1]
theorem zsf(n v d i:Nat) (h1:v≤n) (h2:n≤v+d) (h3:d≤n) (h4:v≤i):i-(n-d)=d-(n-v)+(i-v):=by
  obtain ⟨a,rfl⟩:=V5 h1
  obtain ⟨b,rfl⟩:=V5 h4
  obtain ⟨c,rfl⟩:=V5 (Xf h2)
  rw [Xu v a] at h3
  obtain ⟨e,rfl⟩:=V5 (Xf h3)
  rw [V6,V6,V6,Xu (c+e) a,← Vu a c e,V6,U9 c e b,Nat.add_sub_cancel]
theorem zg0{ns:List Str}{ds vs:List Value}(nd:ns.Nodup) (l1:vs.length≤ns.length) (l2:ns.length≤vs.length+ds.length) (l3:ds.length≤ns.length) :
    (ns.filterMap fun n=>((Ys pb (ns.zip vs) ((ns.drop (ns.length-ds.length)).zip ds)).lookup n).map (n,·))=ns.zip (vs++ds.drop (ds.length-(ns.length-vs.length))):=by
  refine Ia _ _ _ ?_ fun i hi=>?_
  · rw [T1,Xr];exact ztp _ _ _ l1 l2
  · rw [H6,y9 ns vs i hi nd]
    by_cases q:i<vs.length
    · rw [Wl q,List.getElem?_append_left q,Wl q]
    · have q:=Uq.mp q
      rw [List.getElem?_eq_none q,List.getElem?_append_right q,Yw]
      refine (zbk ns ds _ i hi nd).trans ((if_pos ?_).trans (congrArg (ds[·]?) ?_))
      · exact Yh (Th l2 (T9 q _))
      · exact zsf _ _ _ _ l1 l2 l3 q
theorem zdf{ns:List Str}{vs:List Value}{k:Nat}(nd:ns.Nodup) (h:ns.length≤vs.length+k):(!(List.filter (fun n=>(List.lookup n (ns.zip vs)).isNone) (List.take (ns.length-k) ns)).isEmpty)=false:=by
  rw [Xe,Wh,U4]
  intro n hn
  obtain ⟨i,hi,rfl⟩:=Yg.mp hn
  rw [List.length_take] at hi
  have h1:i<vs.length:=Tn (Tn hi (Nat.min_le_left ..)) (Yh h)
  rw [List.getElem_take,y9 ns vs i (Tn hi (Nat.min_le_right ..)) nd,Wl h1]
  exact Ts
theorem zey{D:FuncData}{as:List Arg}{ns:List Str}{ds vs:List Value}{s:Shared}(h1:D.params.posonlyargs=[]) (h2:D.params.args=as) (h3:D.params.vararg=none) (h4:D.params.kwonlyargs=[]) (h5:D.params.kwarg=none)
    (hn:as.map (fun a:Arg=>a.arg)=ns) (nd:ns.Nodup) (hd:ds=[]∧D.defaults = .none∨∃T o n,D.defaults = .ref T∧s.heap.get? T=some o∧o.data = .seq ds.toArray n) (l1:vs.length≤ns.length) (l2:ns.length≤vs.length+ds.length) (l3:ds.length≤ns.length) :
    BindsTo s D ⟨vs,[]⟩ (ns.zip (vs++ds.drop (ds.length-(ns.length-vs.length)))):=fun M A E Q hQ=>by
  have key:wpAny M A (seqItems? D.defaults) (fun r s'=>r.getD #[]=ds.toArray∧s'=s) E s:=by
    rcases hd with ⟨rfl,e⟩ | ⟨T,o,n,e,ho,hdd⟩
    · rw [e];exact Y4 ⟨rfl,rfl⟩
    · rw [e];exact wpAny_seqItems ho hdd ⟨rfl,rfl⟩
  obtain ⟨nm,qn,⟨po,as',va,ko,kwd,ka,dfl⟩,b,sc,gl,cl,dv,kd,dc,pm,an,cd,ct,bi⟩:=D
  dsimp only at h1 h2 h3 h4 h5 key
  subst h1 h2 h3 h4 h5 hn
  clear hd
  unfold bindArgs
  dsimp only [Xz,Vi]
  refine Y3 (Oq ?_)
  refine Y3 (m:=seqItems? dv) (wpAny_mono key (fun r s' hr=>?_) fun J J e=>e)
  obtain ⟨hr,rfl⟩:=hr
  rw [hr]
  have e2:(ds.toArray.toList.drop (ds.toArray.toList.length-(as'.map fun a:Arg=>a.arg).length))=ds:=by
    show ds.drop (ds.length-_)=ds
    rw [Yb l3,List.drop_zero]
  refine Ew (c:=decide (vs.length > (as'.map fun a:Arg=>a.arg).length)&&true) (by rw [decide_eq_false (Uq.mpr l1)];rfl) ?_
  refine Ew (c:=!(List.filter (fun n=>(List.lookup n ((as'.map fun a:Arg=>a.arg).zip vs)).isNone) (List.take ((as'.map fun a:Arg=>a.arg).length-(ds.toArray.toList.drop (ds.toArray.toList.length-(as'.map fun a:Arg=>a.arg).length)).length) (as'.map fun a:Arg=>a.arg))).isEmpty) (by rw [e2];exact zdf nd l2) ?_
  refine Y3 (Ce _ (fun J J J=>rfl) _ _ _ _ ?_)
  refine Y3 (Oq ?_)
  refine Ew (c:=false) rfl (Y4 ?_)
  show Q (((as'.map fun a:Arg=>a.arg)++[]).filterMap fun n=>((Ys pb ((as'.map fun a:Arg=>a.arg).zip vs) (((as'.map fun a:Arg=>a.arg).drop ((as'.map fun a:Arg=>a.arg).length-(ds.toArray.toList.drop (ds.toArray.toList.length-(as'.map fun a:Arg=>a.arg).length)).length)).zip (ds.toArray.toList.drop (ds.toArray.toList.length-(as'.map fun a:Arg=>a.arg).length)))).lookup n).map (n,·)) s'
  rw [Vp,e2,zg0 nd l1 l2 l3]
  exact hQ
end
section
structure FnOk (prog:Program) (w:World) (hb:Heap) (f:Addr) (fd:FnD):Prop where
  obj:∃o D ds,hb.get? f=some o∧o.data = .func D∧hb.CodeRec D.code D.qualname∧D.body = .stmts fd.body∧D.closure=[]∧D.scope=fd.scope∧D.globals=mainGlobals∧D.builtins=builtinsNs∧
    D.params.posonlyargs=[]∧D.params.args.map (fun a:Arg=>a.arg)=fd.names∧D.params.vararg=none∧D.params.kwonlyargs=[]∧D.params.kwarg=none∧
    (ds=[]∧D.defaults = .none∨∃T o n,D.defaults = .ref T∧hb.get? T=some o∧o.data = .seq ds.toArray n)∧ds.length≤fd.names.length∧
    ∀g N,(∀a o,hb.get? a=some o→g.I a=some o)→RlL prog w g N fd.dflts ds
  co:fd.scope.isCoroutine=false
  gen:fd.scope.isGenerator=false
  kind:fd.scope.kind = .function
  nd:fd.names.Nodup
  own:∀n∈fd.names,bm n fd.scope.names=some .local∨bm n fd.scope.names=some .cell
  nofree:∀x k,bm x fd.scope.names=some k→k≠.free∧(x == ("__debug__" : Str))=false∧(x == ("__classdict__" : Str))=false
theorem v7 (x:Str):∀(names:List (Str×NameKind)) (n:Nat) (acc:List (Str×Addr)),(acc.lookup x).isSome=true∨names.lookup x=some .cell→((cellsFrom n names acc).lookup x).isSome=true
  | [],n,acc,h=>by
    rcases h with h | h
    · exact h
    · cases h
  | (y, k)::r,n,acc,h=>by
    unfold cellsFrom
    by_cases q:k == .cell
    · rw [if_pos q]
      apply v7 x r
      rw [Um] at h ⊢
      cases e:x == y with
      | true=>exact .inl rfl
      | false=>
        rw [e] at h
        exact h
    · rw [if_neg q]
      apply v7 x r
      rcases h with h | h
      · exact .inl h
      · rw [Um] at h
        cases e:x == y with
        | true=>
          rw [e] at h
          cases h
          exact absurd rfl q
        | false=>rw [e] at h;exact .inr h
section
variable {V:V}
theorem Ip(kd:Str→Option NameKind) (x:Str):∀(ns:List Str) (vs:List Value) (m:Str→Option Value),x ∉ ns→bindL kd (ns.zip vs) m x=m x
  | [],_,_,_=>rfl
  | _::_,[],_,_=>rfl
  | n::ns,v::vs,m,h=>by
    have ne:x≠n:=fun e=>h (e▸Tj ..)
    rw [Ub,bindL,Ip kd x ns vs _ fun hm=>h (Ti _ hm)]
    split
    · exact if_neg ne
    · rfl
theorem Iu(kd:Str→Option NameKind) (x:Str):∀(ns:List Str) (vs:List Value) (m:Str→Option Value),x ∉ ns→bindC kd (ns.zip vs) m x=m x
  | [],_,_,_=>rfl
  | _::_,[],_,_=>rfl
  | n::ns,v::vs,m,h=>by
    have ne:x≠n:=fun e=>h (e▸Tj ..)
    rw [Ub,bindC,Iu kd x ns vs _ fun hm=>h (Ti _ hm)]
    split
    · rfl
    · exact if_neg ne
theorem C8(kd:Str→Option NameKind) (x:Str):∀(ns:List Str) (Vs:List Mine.V) (vs:List Value) (m c:Str→Option Value),ns.Nodup→RlL prog w g N Vs vs→ae x (ns.zip Vs)=some V→
    (kd x=some .local→∃v,bindL kd (ns.zip vs) m x=some v∧Rl prog w g N V v)∧(kd x≠some .local→∃v,bindC kd (ns.zip vs) c x=some v∧Rl prog w g N V v)
  | [],_,_,_,_,_,_,e=>by cases e
  | _::_,[],_,_,_,_,_,e=>by cases e
  | n :: ns,V' :: Vs,_,m,c,nd,⟨v,r,e1,k1,k2⟩,e=>by
    subst e1
    rw [Ub,ae] at e
    rw [Vq] at nd
    rw [Ub,bindL,bindC]
    by_cases q:x=n
    · subst q
      rw [kt,if_pos rfl] at e
      cases e
      rw [Ip kd x ns r _ nd.1,Iu kd x ns r _ nd.1]
      refine ⟨fun h=>⟨v,?_,k1⟩,fun h=>⟨v,?_,k1⟩⟩
      · rw [if_pos h];exact if_pos rfl
      · rw [if_neg h];exact if_pos rfl
    · rw [pf q,if_neg Ts] at e
      exact C8 kd x ns Vs r _ _ nd.2 k2 e
theorem Ext.frame{Wr:Addr→Prop}(X:Ext ak g₀ N₀ h₀ g N h) (Y:Ext Wr g N h g' N' h') (f:∀a,Wr a→h₀.get? a=none):Ext ak g₀ N₀ h₀ g' N' h':=by
  have Z:=Ext.trans (X.weak (Wr':=Wr) fun J q=>q.elim) Y
  exact ⟨Z.I,Z.new,Z.mu,Z.munew,Z.next,fun a o e hm J=>Z.keep a o e hm (fun q=>by rw [f a q] at e;cases e),Z.live⟩
theorem Room.deeper{env:Env}(R:Room A (n+1)):Room (A.deeper env) n:=⟨by have:=R.depth;show A.depth+1+n<_;exact Qj ‹_›,by have:=R.units;show A.units+3+12 * n+60<_;exact F8 ‹_› (by decide),R.handled⟩
set_option tactic.hygienic true in
theorem Ji:∀(ns:List Str) (Vs ds:List Mine.V) (ρ:Loc),og ns Vs ds=some ρ→Vs.length≤ns.length∧ns.length≤Vs.length+ds.length∧ρ=ns.zip (Vs++ds.drop (ds.length-(ns.length-Vs.length)))
  | [],[],ds,ρ,e=>by
    cases e
    exact ⟨To _,Ux _,by simp⟩
  | [],_::_,ds,ρ,e=>by cases e
  | n :: ns,v::vs,ds,ρ,e=>by
    unfold og at e
    split at e
    · rename_i l e1
      cases e
      obtain ⟨a,b,c⟩:=Ji ns vs ds l e1
      refine ⟨by simpa using a,by simp only [Tl];exact ztw ‹_›,?_⟩
      rw [c,List.cons_append,Ub,Tl,Tl]
      have:ns.length+1-(vs.length+1)=ns.length-vs.length:=by lia
      rw [this]
    · cases e
  | n :: ns,[],ds,ρ,e=>by
    unfold og at e
    split at e
    · cases e
    · cases e
      refine ⟨Ux _,?_,?_⟩
      · simp only [List.length_nil];exact ztt ‹_›
      · simp
theorem RlL.drop{N:Nat}:∀(k:Nat) {xs:List Mine.V}{vs:List Value},RlL prog w g N xs vs→RlL prog w g N (xs.drop k) (vs.drop k)
  | 0,_,_,h=>by simpa using h
  | k+1,[],vs,h=>by obtain rfl:vs=[]:=h;exact .nil
  | k+1,x::xs,_,⟨v,r,e,h1,h2⟩=>by subst e;exact h2.drop k
theorem zd9 {f:Addr}{fd:FnD}{D:FuncData}{Vs:List Mine.V}{vs:List Value}{s₁:Shared}(Z:FnOk prog w hb f fd) (O:Ok prog w hb g σ s.heap) (h1:D.scope=fd.scope) (h2:D.globals=mainGlobals) (h3:D.builtins=builtinsNs)
    (r:RlL prog w g σ.next Vs vs) (x:InCallC s (callEnvC D s.heap.objs.size f).locals (bindL (callEnvC D s.heap.objs.size f).kindOf (fd.names.zip vs) fun J=>none) (callEnvC D s.heap.objs.size f).cells
        (bindC (callEnvC D s.heap.objs.size f).kindOf (fd.names.zip vs) fun J=>none) s₁) :
    EnvOk prog w fd.scope (callEnvC D s.heap.objs.size f) (fd.names.zip Vs) g σ.next s₁.heap:=by
  let env:=callEnvC D s.heap.objs.size f
  have kd:∀y,env.kindOf y=bm y fd.scope.names:=fun y=>by
    show D.scope.names.lookup y=_
    rw [h1,qo]
  have above:∀y c,env.cells.lookup y=some c→s.heap.get? c=none:=fun y c hc=>
    em (Ur (x.above y c (mem_of_lookup hc)))
  have lfresh:s.heap.get? env.locals=none:=em (To _)
  have kscope:env.scope=fd.scope:=h1
  refine ⟨by rw [kscope];exact Z.kind,h2,h3,?_,fun y k hk=>.inl ((kd y).trans hk),fun y k hk=>(Z.nofree y k hk).2,⟨_,x.toInCall.ns,fun y W hy hl=>?_⟩,fun y k hk hc=>?_,⟨nn O lfresh,qi O lfresh⟩,fun y z k cy cz hy hz hk hcy hcz hne e=>?_⟩
  · show (env.scope.kind == .module&&_)=false
    rw [kscope,Z.kind];rfl
  · exact (C8 env.kindOf y fd.names Vs vs (fun J=>none) (fun J=>none) Z.nd r hy).1 ((kd y).trans hl)
  · have hcell:bm y fd.scope.names=some .cell:=by
      rcases hc with rfl | rfl
      · exact hk
      · exact absurd rfl (Z.nofree y _ hk).1
    obtain ⟨c,hcc⟩:=Wm.mp (v7 y D.scope.names (s.heap.objs.size+1) [] (.inr (by rw [h1,← qo];exact hcell)))
    have hcc:env.cells.lookup y=some c:=hcc
    refine ⟨c,_,hcc,x.cell y c hcc,nn O (above y c hcc),qi O (above y c hcc),U7 (x.above y c (mem_of_lookup hcc)),fun W hy=>?_⟩
    exact (C8 env.kindOf y fd.names Vs vs (fun J=>none) (fun J=>none) Z.nd r hy).2 (by rw [kd y,hcell];decide)
  · exact hne (name_of_addr x.apart (mem_of_lookup hcy) (e▸mem_of_lookup hcz))
theorem Ja {f:Addr}{fd:FnD}{Vs:List Mine.V}{vs:List Value}{ρ ρ':Loc}{fl:Fl}(hx:vi prog w P hb n) (W:hb.NoLimit) (Z:FnOk prog w hb f fd) (R:Room A (n+1)) (O:Ok prog w hb g σ s.heap) (r:RlL prog w g σ.next Vs vs)
    (e1:og fd.names Vs fd.dflts=some ρ) (e2:(run P n).exs fd.scope fd.body ρ σ=some (fl,ρ',σ')) (hV:fl = .ret V∨fl = .next∧V = .none) :
    DoesC prog w hb A g σ s (.call (.ref f) ⟨vs,[]⟩) σ' (fun g' J v=>Rl prog w g' σ'.next V v):=fun Q hQ=>by
  obtain ⟨o,D,ds,ho,hD,hcr,hbody,hclo,hsc,hgl,hbl,p1,p2,p3,p4,p5,hds,hdl,hdr⟩:=Z.obj
  obtain ⟨l1,l2,rfl⟩:=Ji _ _ _ _ e1
  have rd:=hdr g σ.next O.base
  have ld:=rd.length
  have lv:=r.length
  have rr:RlL prog w g σ.next (Vs++fd.dflts.drop (fd.dflts.length-(fd.names.length-Vs.length))) (vs++ds.drop (ds.length-(fd.names.length-vs.length))):=by
    rw [ld,lv];exact r.append (rd.drop _)
  have hk:=O.keeps
  refine codeAny_call_function (by have:=R.depth;exact uc ‹_›) (hk _ _ ho) hD (by rw [hsc];exact Z.co) (by rw [hsc];exact Z.gen) hbody (hcr.keeps hk) ?_
  refine zey p1 rfl p3 p4 p5 p2 Z.nd ?_ (by lia) (by exact zrr ‹_› ‹_› ‹_›) hdl _ _ _ _ ?_
  · rcases hds with q | ⟨T,oT,m,q1,q2,q3⟩
    · exact .inl q
    · exact .inr ⟨T,oT,m,q1,hk _ _ q2,q3⟩
  rw [hclo]
  refine wpAny_newFunctionEnv_cells (by rw [hsc];exact Z.kind) (fun x hm=>?_) fun env he s₁ x=>?_
  · have hm':x.1∈fd.names:=by
      obtain ⟨a,b⟩:=x
      exact (X6 hm).1
    rw [hsc,← qo]
    rcases Z.own x.1 hm' with q | q
    · exact .inl q
    · exact .inr ⟨q,v7 x.1 fd.scope.names (s.heap.objs.size+1) [] (.inr (by rw [← qo];exact q))⟩
  · subst he
    have x:InCallC s (callEnvC D s.heap.objs.size f).locals (bindL (callEnvC D s.heap.objs.size f).kindOf (fd.names.zip (vs++ds.drop (ds.length-(fd.names.length-vs.length)))) fun J=>none) (callEnvC D s.heap.objs.size f).cells
        (bindC (callEnvC D s.heap.objs.size f).kindOf (fd.names.zip (vs++ds.drop (ds.length-(fd.names.length-vs.length)))) fun J=>none) s₁:=x
    have X:=zd9 (prog:=prog) (w:=w) Z O hsc hgl hbl rr x
    obtain ⟨nl,hnl,hnn⟩:=W
    refine ⟨⟨nl,(hnl.keeps hk).keeps x.toInCall.keep,hnn⟩,codeAny_func ?_⟩
    have x₀:Ext ak g σ.next s.heap g σ.next s₁.heap:=Ext.grow x.toInCall.keep
    have O₁:Ok prog w hb g σ s₁.heap:=O.grow x.toInCall.keep
    obtain ⟨h₁,tk₁,rfl,_⟩:=x.done
    refine hx _ _ _ _ _ _ _ _ _ { s with heap:=h₁,toks:=tk₁ } _ e2 R.deeper X O₁ _ _ fun fl' g₂ h₂ tk₂ x₂ O₂ r₂=>?_
    have x₃:=Ext.frame x₀ x₂ fun a ha=>by
      rcases ha with rfl | ⟨y,_,hy⟩
      · exact em (To _)
      · exact em (Ur (x.above y a (mem_of_lookup hy)))
    refine hQ _ g₂ h₂ tk₂ x₃ O₂ ?_
    rcases hV with rfl | ⟨rfl,rfl⟩
    · obtain ⟨u,rfl,ru⟩:=r₂.2
      exact ru
    · obtain rfl:fl' = .next:=r₂.2
      rfl
end
end
section
section
variable {V:V}
theorem Room.make{C:Addr}{vs:List Value}{kw:List (Str×Value)}(R:Room A (n+1)):Room (A.under (.builtin "type.__call__" ⟨.ref C::vs,kw⟩)) n:=by
  have h1:(Code.builtin "type.__call__" ⟨.ref C::vs,kw⟩).weight=1:=by
    unfold Code.weight
    have a1:(Code.builtin "type.__call__" ⟨.ref C::vs,kw⟩).frames=0:=rfl
    have a2:(Code.builtin "type.__call__" ⟨.ref C::vs,kw⟩).isCreation=true:=rfl
    have a3:(Code.builtin "type.__call__" ⟨.ref C::vs,kw⟩).isGuard=false:=by show guardIds.contains "type.__call__"=false;decide +kernel
    have a4:(Code.builtin "type.__call__" ⟨.ref C::vs,kw⟩).isCaller=false:=rfl
    rw [a1,a2,a3,a4];rfl
  have h2:(Code.builtin "type.__call__" ⟨.ref C::vs,kw⟩).cUnits=1:=rfl
  refine ⟨?_,?_,R.handled⟩
  · have:=R.depth
    show A.depth+(Code.builtin "type.__call__" ⟨.ref C::vs,kw⟩).weight+n<_
    rw [h1];exact Qj ‹_›
  · have:=R.units
    show A.units+(Code.builtin "type.__call__" ⟨.ref C::vs,kw⟩).cUnits+12 * n+60<_
    rw [h2];exact F8 ‹_› (by decide)
theorem zks(hc:xb prog w P hb n) (X:K.In hb) {C:Nat}{c:ClsD}{Vs:List Mine.V}{vs:List Value}(Z:ClsOk K C c) (R:Room A (n+1)) (O:Ok prog w hb g σ s.heap) (r:RlL prog w g σ.next Vs vs)
    (e:(run P n).call c.init (.ref σ.next::Vs) (push σ (.obj C [] []))=some (.none,σ')) :
    DoesC prog w hb A g σ s (.call (.ref C) ⟨vs,[]⟩) σ' (fun g' J v=>Rl prog w g' σ'.next (.ref σ.next) v):=fun Q hQ=>by
  have XX:=X.keeps O.keeps
  obtain ⟨hh,gs,d,t,os⟩:=s
  refine make_core (makes_of XX Z.makes) (looks_findIn XX Z.init) (fun self=>bind_fn XX self Z.initf) (.inl rfl) ?_
  let D:=hh.objs.size
  have kd:∀b o,hh.get? b=some o→((hh.push W.emptyDict).push (instObj C D)).get? b=some o:=fun b o e=>Tq _ (Tq _ e)
  have hd0:hh.get? D=none:=em (To _)
  have ha0:hh.get? (D+1)=none:=em (T3 _)
  have e1:((hh.push W.emptyDict).push (instObj C D)).get? D=some W.emptyDict:=Tq _ (Tv _ rfl)
  have e2:((hh.push W.emptyDict).push (instObj C D)).get? (D+1)=some (instObj C D):=by
    have:=Tv (o:=instObj C D) (hh.push W.emptyDict) rfl
    rwa [Vy] at this
  have m0:(g.addM σ.next (D+1) D).mu σ.next=D+1:=if_pos rfl
  have d0:(g.addM σ.next (D+1) D).de σ.next=D:=if_pos rfl
  have z:=zr (g:=g) (o:=.obj C [] []) O kd ha0 hd0 ⟨_,e2⟩ ⟨_,e1⟩
    ⟨[],by rw [m0,d0];exact ⟨e2,_,e1,⟨#[],_,rfl,fun e he=>absurd he (Array.not_mem_empty _),fun J=>rfl,To _⟩,rfl⟩,.nil⟩
  refine hc _ (.ref σ.next::Vs) (.ref (D+1)::vs) (push σ (.obj C [] [])) .none σ' _ (g.addM σ.next (D+1) D) ⟨(hh.push W.emptyDict).push (instObj C D),gs,d,t,os⟩ e R.make z.1 ?_ _ fun v g' h' tk' x' O' r'=>?_
  · exact .cons ⟨Tr _,by rw [m0]⟩ (r.ext z.2)
  · obtain rfl:v = .none:=r'
    refine ⟨rfl,hQ _ g' h' tk' (z.2.trans x') O' ?_⟩
    have lt:σ.next<(push σ (.obj C [] [])).next:=Tr _
    exact ⟨Tn lt x'.next,by rw [(x'.mu σ.next lt).1,m0]⟩
end
end
section
def MutLive (g:Gh) (σ:Sto) (a:Addr):Prop:=∃n o,ab σ n=some o∧(a=g.mu n∨a=g.de n)
open Classical in
noncomputable def Gh.ice(g:Gh) (σ:Sto) (h:Heap):Gh:={ g with I:=fun a=>if MutLive g σ a then h.get? a else g.I a }
open Classical in
noncomputable def Gh.melt(g g':Gh) (σ:Sto):Gh:={ g with I:=fun a=>if MutLive g σ a then none else g'.I a }
section
variable {V:V}
theorem MutLive.mut(O:Ok prog w hb g σ h) {a:Addr}(x:MutLive g σ a):ew g σ.next a:=let ⟨n,o,e,q⟩:=x;⟨n,(O.obj n o e).1,q⟩
theorem MutLive.notI(O:Ok prog w hb g σ h) {a:Addr}(x:MutLive g σ a):g.I a=none:=by
  obtain ⟨n,o,e,q⟩:=x
  rcases q with rfl | rfl
  · exact (O.sep n o e).1
  · exact (O.sep n o e).2
theorem MutLive.live(O:Ok prog w hb g σ h) {a:Addr}(x:MutLive g σ a):Live h a:=by
  obtain ⟨n,o,e,q⟩:=x
  rcases q with rfl | rfl
  · exact (O.lt n (O.obj n o e).1).1
  · exact (O.lt n (O.obj n o e).1).2
open Classical in
theorem pw(O:Ok prog w hb g σ h):∀a o,g.I a=some o→(g.ice σ h).I a=some o:=fun a o e=>by
  show (if MutLive g σ a then h.get? a else g.I a)=some o
  rw [if_neg fun x=>by rw [x.notI O] at e;cases e];exact e
theorem Ah{a:Addr}(x:MutLive g σ a):(g.ice σ h).I a=h.get? a:=if_pos x
open Classical in
theorem nv{a:Addr}{o:Obj}(e:(g.ice σ h).I a=some o):MutLive g σ a∧h.get? a=some o∨g.I a=some o:=by
  have e':(if MutLive g σ a then h.get? a else g.I a)=some o:=e
  by_cases c:MutLive g σ a
  · rw [if_pos c] at e';exact .inl ⟨c,e'⟩
  · rw [if_neg c] at e';exact .inr e'
theorem Ok.less(O:Ok prog w hb g σ h) (hn:σ'.next≤σ.next) (hs:∀n o,ab σ' n=some o→ab σ n=some o) (hr:∀n o,ab σ' n=some o→n<σ'.next∧ObjOk prog w g σ'.next h n o):Ok prog w hb g σ' h:=
  ⟨O.sub,O.base,hr,fun n o e=>O.sep n o (hs n o e),fun n hn'=>O.lt n (Tn hn' hn),fun n m hn' hm hne=>O.inj n m (Tn hn' hn) (Tn hm hn) hne⟩
theorem Ok.bare(O:Ok prog w hb g σ h):Ok prog w hb g ⟨0,[]⟩ h:=
  ⟨O.sub,O.base,(fun n o e=>by cases e),(fun n o e=>by cases e),fun n hn=>absurd hn (Tw _),fun n m hn=>absurd hn (Tw _)⟩
def qh (o:Obj):Prop:=(∃vs n,o = { cls:=.type "tuple",data:=.seq vs n })∨(∃fs,o = { cls:=.type "range",data:=.fields fs })
theorem Nc {b:Bool}(O:Ok prog w hb g σ h) (hm:∀k o,ab σ k=some o→g₁.I (g.mu k)=h.get? (g.mu k)∧g₁.I (g.de k)=h.get? (g.de k)) (hi:∀a o,g.I a=some o→qh o→g₁.I a=some o) (ha:b=false→∀a o,g.I a=some o→g₁.I a=some o) (n:Nat) :
    (∀V V' v,kh σ b n V=some V'→Rl prog w g σ.next V v→Rl prog w g₁ 0 V' v)∧(∀xs l vs,io σ b n xs=some l→RlL prog w g σ.next xs vs→RlL prog w g₁ 0 l vs):=by
  induction n with
  | zero=>exact ⟨fun J J J e=>aa e,fun J J J e=>aa e⟩
  | succ n ih=>
    obtain ⟨ih,ihs⟩:=ih
    refine ⟨fun V V' v e=>?_,fun xs l vs e r=>?_⟩
    · have tr:∀{X:Mine.V},Bf X=true→(if (b&&Bf X)=true then none else some X)=some V'→(Rl prog w g 0 X v)→Rl prog w g₁ 0 V' v:=fun ht e r=>kj e fun q e=>by
        rw [ht,Wk] at q
        rw [← Uj.inj e]
        exact Rl.mono (N:=0) (ha q) (fun J q=>absurd q (Tw _)) (To 0) _ v r
      revert e
      refine @Mine.V.casesOn (fun V=>kh σ b (n+1) V=some V'→Rl prog w g σ.next V v→Rl prog w g₁ 0 V' v) V (fun e r=>?_) (fun J e r=>?_) (fun J e r=>?_) (fun J e r=>?_) (fun xs e r=>?_) (fun J e=>tr rfl e) (fun J J e=>tr rfl e) (fun J J J e=>tr rfl e) (fun J J e r=>?_) (fun k e r=>?_) (fun J e r=>?_)
      · exact kj e fun J e=>by rw [← Uj.inj e];exact r
      · exact kj e fun J e=>by rw [← Uj.inj e];exact r
      · exact kj e fun J e=>by rw [← Uj.inj e];exact r
      · exact kj e fun J e=>by rw [← Uj.inj e];exact r
      · refine ad (x:=io σ b n xs) e fun l e1 e=>?_
        rw [← Uj.inj e]
        obtain ⟨a,vs,rfl,⟨c,h1⟩,h2⟩:=r
        exact ⟨a,vs,rfl,⟨c,hi _ _ h1 (.inl ⟨_,_,rfl⟩)⟩,ihs _ _ _ e1 h2⟩
      · refine kj e fun J e=>?_
        rw [← Uj.inj e]
        obtain ⟨a,rfl,t,u,w',h1⟩:=r
        exact ⟨a,rfl,t,u,w',hi _ _ h1 (.inr ⟨_,rfl⟩)⟩
      · refine ad (x:=ab σ k) e fun o q e=>ad e fun l e1 e=>?_
        rw [← Uj.inj e]
        obtain ⟨hk,rfl⟩:=r
        obtain ⟨m1,m2⟩:=hm k o q
        have ob:=(O.obj _ _ q).2
        rcases o with xs | ⟨ks,xs⟩ | ⟨C,ks,xs⟩
        · obtain ⟨vs,⟨c,h1⟩,h2,h3⟩:=ob
          exact ⟨_,vs,rfl,⟨c,m1.trans h1⟩,ihs _ _ _ e1 h2⟩
        · obtain ⟨vs,⟨o,h1,h5⟩,h2,h3⟩:=ob
          exact ⟨_,vs,rfl,⟨o,m1.trans h1,h5⟩,ihs _ _ _ e1 h2⟩
        · obtain ⟨vs,⟨h1,od,h4,h5⟩,h2⟩:=ob
          exact ⟨_,_,vs,rfl,⟨m1.trans h1,od,m2.trans h4,h5⟩,ihs _ _ _ e1 h2⟩
      · exact kj e fun J e=>by rw [← Uj.inj e];exact r
    · rcases xs with _ | ⟨x,xs⟩
      · rw [← Uj.inj e,show vs=[] from r]
        exact .nil
      · refine ad (x:=kh σ b n x) e fun v' e1 e=>ad e fun l' e2 e=>?_
        rw [← Uj.inj e]
        obtain ⟨v,r',rfl,h1,h2⟩:=r
        exact .cons (ih _ _ _ e1 h1) (ihs _ _ _ e2 h2)
theorem Oh(O:Ok prog w hb g σ h) (n:Nat):(∀V V' v,kh σ false n V=some V'→Rl prog w g σ.next V v→Rl prog w (g.ice σ h) 0 V' v)∧(∀xs l vs,io σ false n xs=some l→RlL prog w g σ.next xs vs→RlL prog w (g.ice σ h) 0 l vs):=Nc (b:=false) (g₁:=g.ice σ h) O (fun k o q=>⟨Ah ⟨k,o,q,.inl rfl⟩,Ah ⟨k,o,q,.inr rfl⟩⟩) (fun a o e J=>pw O a o e) (fun J=>pw O) n
theorem Q7(O:Ok prog w hb g σ h) (n:Nat):∀(V V':Mine.V) (v:Value),fz σ n V=some V'→Rl prog w g σ.next V v→Rl prog w (g.ice σ h) 0 V' v:=(Oh O n).1
theorem zl6(O:Ok prog w hb g σ h) (n:Nat):∀(xs l:List Mine.V) (vs:List Value),fzs σ n xs=some l→RlL prog w g σ.next xs vs→RlL prog w (g.ice σ h) 0 l vs:=(Oh O n).2
mutual
theorem zqz:∀(V:Mine.V) (v:Value),rf V=true→Rl prog w g N V v→Rl prog w g 0 V v
  | .ref k,_,e,_=>by cases e
  | .tup xs,v,e,⟨a,vs,q,h1,h2⟩=>⟨a,vs,q,h1,Ey xs vs e h2⟩
  | .none,_,_,r=>r
  | .bool _,_,_,r=>r
  | .int _,_,_,r=>r
  | .str _,_,_,r=>r
  | .rng _ _,_,_,r=>r
  | .val _,_,_,r=>r
  | .lst _,_,_,r=>r
  | .dct _ _,_,_,r=>r
  | .obj _ _ _,_,_,r=>r
theorem Ey:∀(xs:List Mine.V) (vs:List Value),gx xs=true→RlL prog w g N xs vs→RlL prog w g 0 xs vs
  | [],_,_,r=>r
  | x::xs,_,e,⟨v,r',q,h1,h2⟩=>by
    have e':(rf x&&gx xs)=true:=e
    rw [Uc] at e'
    exact ⟨v,r',q,zqz x v e'.1 h1,Ey xs r' e'.2 h2⟩
end
open Classical in
theorem Dg(O:Ok prog w hb g σ h) (a1:∀a o,g.I a=some o→g₁.I a=some o) (a2:∀a o,g₁.I a=some o→g.I a=some o∨MutLive g σ a)
    (X:Ext ak g₁ 0 h g' 0 h') (O':Ok prog w hb g' ⟨0,[]⟩ h'):Ok prog w hb (g.melt g' σ) σ h'∧Ext ak g σ.next h (g.melt g' σ) σ.next h':=by
  have kp:∀a o,h.get? a=some o→h'.get? a=some o:=fun a o e=>X.keep a o e (fun ⟨n,hn,_⟩=>absurd hn (Tw _)) id
  have hI:∀a o,g.I a=some o→(g.melt g' σ).I a=some o:=fun a o e=>by
    show (if MutLive g σ a then none else g'.I a)=some o
    rw [if_neg fun x=>by rw [x.notI O] at e;cases e]
    exact X.I _ _ (a1 _ _ e)
  have hO:∀a o,(g.melt g' σ).I a=some o→¬ MutLive g σ a∧g'.I a=some o:=fun a o e=>by
    have e':(if MutLive g σ a then none else g'.I a)=some o:=e
    by_cases c:MutLive g σ a
    · rw [if_pos c] at e';cases e'
    · rw [if_neg c] at e';exact ⟨c,e'⟩
  refine ⟨⟨fun a o e=>O'.sub a o (hO a o e).2,fun a o e=>hI a o (O.base a o e),fun n o e=>⟨(O.obj n o e).1,?_⟩,fun n o e=>?_,fun n hn=>⟨(O.lt n hn).1.to kp,(O.lt n hn).2.to kp⟩,O.inj⟩,
    ⟨hI,fun a o e=>?_,fun J J=>⟨rfl,rfl⟩,fun n a b=>absurd b (Uq.mpr a),To _,fun a o e J J=>kp a o e,fun a o e=>⟨o,kp a o e⟩⟩⟩
  · exact (O.obj n o e).2.grow hI (fun J J=>⟨rfl,rfl⟩) (To _) (O.obj n o e).1 (fun x q=>kp _ x q) (fun x q=>kp _ x q)
  · exact ⟨if_pos ⟨n,o,e,.inl rfl⟩,if_pos ⟨n,o,e,.inr rfl⟩⟩
  · obtain ⟨c,e'⟩:=hO a o e
    rcases X.new a o e' with q | q | ⟨n,hn,_⟩
    · rcases a2 a o q with q | q
      · exact .inl q
      · exact absurd q c
    · exact .inr (.inl q)
    · exact absurd hn (Tw _)
open Classical in
noncomputable def Gh.cut(g:Gh) (h₀:Heap):Gh:={ g with I:=fun a=>if∃o,h₀.get? a=some o∧¬ qh o then none else g.I a }
open Classical in
theorem L0{a:Addr}(e:h₀.get? a=none):(g.cut h₀).I a=g.I a:=by
  show (if∃o,h₀.get? a=some o∧¬ qh o then none else g.I a)=g.I a
  rw [if_neg fun ⟨o,q,_⟩=>by rw [e] at q;cases q]
open Classical in
theorem ziz{a:Addr}{o:Obj}(e:g.I a=some o) (hi:qh o) (hs:g.I a=some o→∀o',h₀.get? a=some o'→o'=o):(g.cut h₀).I a=some o:=by
  show (if∃o,h₀.get? a=some o∧¬ qh o then none else g.I a)=some o
  rw [if_neg fun ⟨o',q,c⟩=>c (hs e o' q▸hi)];exact e
open Classical in
theorem zms{a:Addr}{o:Obj}(e:(g.cut h₀).I a=some o):g.I a=some o∧∀o',h₀.get? a=some o'→qh o':=by
  have e':(if∃o,h₀.get? a=some o∧¬ qh o then none else g.I a)=some o:=e
  by_cases c:∃o,h₀.get? a=some o∧¬ qh o
  · rw [if_pos c] at e';cases e'
  · rw [if_neg c] at e'
    exact ⟨e',fun o' q=>Classical.byContradiction fun n=>c ⟨o',q,n⟩⟩
theorem MutLive.notImm(O:Ok prog w hb g σ h) {a:Addr}(x:MutLive g σ a):∃o,h.get? a=some o∧¬ qh o:=by
  obtain ⟨n,o,e,q⟩:=x
  have z:=(O.obj n o e).2
  cases o with
  | lst xs=>
    obtain ⟨vs,⟨c,h1⟩,_,h2⟩:=z
    have:a=g.mu n:=by rcases q with q | q <;> simp [q,h2]
    subst this
    refine ⟨_,h1,?_⟩
    rintro (⟨_,_,q⟩ | ⟨_,q⟩) <;> exact absurd (congrArg Obj.cls q) (by simp)
  | dct ks xs=>
    obtain ⟨vs,⟨o,h1,⟨es,ep,_,hd,_⟩,_⟩,_,h2⟩:=z
    have:a=g.mu n:=by rcases q with q | q <;> simp [q,h2]
    subst this
    refine ⟨_,h1,?_⟩
    rintro (⟨_,_,q⟩ | ⟨_,q⟩) <;> (rw [q] at hd;cases hd)
  | obj C ks xs=>
    obtain ⟨vs,⟨h1,od,h4,⟨es,ep,hd,_⟩,_⟩,h2⟩:=z
    rcases q with rfl | rfl
    · refine ⟨_,h1,?_⟩
      rintro (⟨_,_,q⟩ | ⟨_,q⟩) <;> cases q
    · refine ⟨_,h4,?_⟩
      rintro (⟨_,_,q⟩ | ⟨_,q⟩) <;> (rw [q] at hd;cases hd)
theorem zk1(O:Ok prog w hb g σ h) (ho:∀a o,h₀.get? a=some o→h.get? a=some o) (hn:∀n,n<σ.next→h₀.get? (g.mu n)=none∧h₀.get? (g.de n)=none) (n:Nat):∀(V V':Mine.V) (v:Value),fzf σ n V=some V'→Rl prog w g σ.next V v→Rl prog w ((g.ice σ h).cut h₀) 0 V' v:=
  (Nc (b:=true) (g₁:=(g.ice σ h).cut h₀) O (fun k o q=>⟨(L0 (hn k (O.obj k o q).1).1).trans (Ah ⟨k,o,q,.inl rfl⟩),(L0 (hn k (O.obj k o q).1).2).trans (Ah ⟨k,o,q,.inr rfl⟩)⟩)
    (fun a o e i=>ziz (pw O a o e) i fun J o' q=>Uj.inj ((ho _ _ q).symm.trans (O.sub _ _ e))) (fun q=>nomatch q) n).1
end
end
section
def Az (prog:Program) (w:World) (hb:Heap) (f k:Nat) (c:List V→Option V):Prop:=
  ∀args V,c args=some V→∀A g s vs,Room A k→Ok prog w hb g ⟨0,[]⟩ s.heap→RlL prog w g 0 args vs→DoesC prog w hb A g ⟨0,[]⟩ s (.call (.ref f) ⟨vs,[]⟩) ⟨0,[]⟩ (fun g' J v=>Rl prog w g' 0 V v)
def Ao (prog:Program) (w:World) (hb:Heap) (f k:Nat) (c:List V→Option V):Prop:=
  ∀args V,c args=some V→∀A g s vs,Room A k→Ok prog w hb g ⟨0,[]⟩ s.heap→RlL prog w g 0 args vs→DoesC prog w hb A g ⟨0,[]⟩ s (.call (.ref f) ⟨vs,[]⟩) ⟨0,[]⟩ (fun g' J v=>Rl prog w (g'.cut s.heap) 0 V v)
structure Wld (prog:Program) (w:World) (P:PD) (hb:Heap) (K:Frag):Prop where
  wd:Wd prog w P hb
  inK:K.In hb
  cls:∀C c,P.cls C=some c→ClsOk K C c
  fns:∀f fd,P.fn f=some fd→FnOk prog w hb f fd
  con:∀f k c,P.con f=some (k,c)→Az prog w hb f k c
  fre:∀f k c,P.con f=some (k,c)→P.fre f=true→Ao prog w hb f k c
section
variable {V:V}
theorem zrb{V:Mine.V}{v:Value}{N:Nat}(hs:xf V=true) (q:Rl prog w g N V v):Rl prog w g' N' V v:=by
  revert hs q
  exact @Mine.V.casesOn (fun V=>xf V=true→Rl prog w g N V v→Rl prog w g' N' V v) V (fun J q=>q) (fun J J q=>q) (fun J J q=>q) (fun J J q=>q) (fun J=>fE) (fun J=>fE) (fun J J=>fE) (fun J J J=>fE) (fun J J=>fE) (fun J=>fE) (fun J=>fE)
theorem zbd {f:Nat}{args:List Mine.V}{vs:List Value}(hc:∀f k c,P.con f=some (k,c)→Az prog w hb f k c) (hf:∀f k c,P.con f=some (k,c)→P.fre f=true→Ao prog w hb f k c) (e:iz P n f args σ=some V) (R:Room A n) (O:Ok prog w hb g σ s.heap) (r:RlL prog w g σ.next args vs) :
    DoesC prog w hb A g σ s (.call (.ref f) ⟨vs,[]⟩) σ (fun g' J v=>Rl prog w g' σ.next V v):=fun Q hQ=>by
  refine aw (x:=P.con f) e fun k c e1 e=>bc e fun hk e=>cq e (fun hr e=>?_) fun J e=>ad (x:=fzs σ gt args) e fun args' e2 e=>ad e fun v' e3 e=>bc e fun hs e=>?_
  · have hk:k≤n:=V0 (T7 hk)
    refine hc f k c e1 args V e A g s vs (R.lt hk) O.bare (Ey args vs hr r) _ fun v g' h' tk' x o q=>?_
    have z:=Dg (g₁:=g) O (fun J J e=>e) (fun J J e=>.inl e) x o
    refine hQ v _ h' tk' z.2 z.1 (Rl.mono (N:=0) (fun a ob e'=>?_) (fun J q=>absurd q (Tw _)) (Ux _) V v q)
    have nm:¬ MutLive g σ a:=fun ml=>by
      rcases x.new a ob e' with q | q | ⟨n,hn,_⟩
      · rw [ml.notI O] at q;cases q
      · obtain ⟨o',eo⟩:=ml.live O
        rw [eo] at q;cases q
      · exact absurd hn (Tw _)
    exact (if_neg nm).trans e'
  · have hk:k≤n:=V0 (T7 hk)
    have rI:=zl6 O _ _ _ _ e2 r
    have Oi:Ok prog w hb (g.ice σ s.heap) ⟨0,[]⟩ s.heap:=
      ⟨fun a o e=>(nv e).elim (fun q=>q.2) (O.sub a o),fun a o e=>pw O a o (O.base a o e),(fun n o e=>by cases e),(fun n o e=>by cases e),fun n hn=>absurd hn (Tw _),fun n m hn=>absurd hn (Tw _)⟩
    have aI:∀a ob,(g.ice σ s.heap).I a=some ob→g.I a=some ob∨MutLive g σ a:=fun a ob e=>(nv e).elim (fun q=>.inr q.1) .inl
    rw [br e] at e3 hs
    rcases Yo.mp hs with hs | hF
    · refine hc f k c e1 args' V e3 A (g.ice σ s.heap) s vs (R.lt hk) Oi rI _ fun v g' h' tk' x o q=>?_
      have z:=Dg (g₁:=g.ice σ s.heap) O (pw O) aI x o
      exact hQ v _ h' tk' z.2 z.1 (zrb hs q)
    · refine hf f k c e1 hF args' V e3 A (g.ice σ s.heap) s vs (R.lt hk) Oi rI _ fun v g' h' tk' x o q=>?_
      have z:=Dg (g₁:=g.ice σ s.heap) O (pw O) aI x o
      refine hQ v _ h' tk' z.2 z.1 (Rl.mono (N:=0) (fun a ob e'=>?_) (fun J q=>absurd q (Tw _)) (Ux _) V v q)
      obtain ⟨e5,e6⟩:=zms e'
      exact (if_neg fun ml=>let ⟨o',q1,q2⟩:=ml.notImm O;q2 (e6 o' q1)).trans e5
theorem EnvOk.map{ρ':Loc}(X:EnvOk prog w sc env ρ g N h) (x:Ext ak g N h g' N' h') (k:∀y V',ae y ρ'=some V'→∃V,ae y ρ=some V∧∀v,Rl prog w g N V v→Rl prog w g' N' V' v):EnvOk prog w sc env ρ' g' N' h':=by
  have Y:=X.ext x
  refine ⟨Y.kind,Y.glob,Y.blt,Y.inter,Y.names,Y.dbg,?_,?_,Y.sepL,Y.inj⟩
  · obtain ⟨m,⟨o,es,ep,ho,r⟩,hl⟩:=X.loc
    exact ⟨m,⟨o,es,ep,x.keep _ _ ho X.sepL.2 id,r⟩,fun y V' e kd=>by
      obtain ⟨V,e1,e2⟩:=k y V' e
      obtain ⟨v,h1,h2⟩:=hl y V e1 kd
      exact ⟨v,h1,e2 v h2⟩⟩
  · intro y kd hk hc
    obtain ⟨c,o,h1,⟨oc,h2,h2'⟩,h3,h4,h5,h6⟩:=X.cel y kd hk hc
    exact ⟨c,o,h1,⟨oc,x.keep _ _ h2 h4 id,h2'⟩,x.sepI h2 h3 h4,x.sepM h2 h4,h5,fun V' e=>by
      obtain ⟨V,e1,e2⟩:=k y V' e
      obtain ⟨v,h7,h8⟩:=h6 V e1
      exact ⟨v,h7,e2 v h8⟩⟩
theorem v8(f:Nat→Bool):∀(os:List (Nat×MObj)) (n:Nat),fk (os.filter fun p=>f p.1) n=if f n then fk os n else none
  | [],n=>by cases f n <;> rfl
  | (m,o)::r,n=>by
    rw [Uw]
    have ih:=v8 f r n
    show fk (if f m=true then (m,o)::r.filter fun p=>f p.1 else r.filter fun p=>f p.1) n=if f n=true then (if T8 m n=true then some o else fk r n) else none
    cases c:T8 m n with
    | true=>
      rw [← Tu c] at ih ⊢
      cases hf:f m
      · rw [hf] at ih;exact ih
      · exact if_pos (Wi m)
    | false=>
      rw [if_neg Ts]
      cases hf:f m
      · exact ih
      · exact (if_neg (by rw [c];exact Ts)).trans ih
theorem mi(x y:Str) (v:Mine.V):∀ρ:Loc,ae y (ac x v ρ)=if y=x then some v else ae y ρ
  | []=>by
    show (if seq y x=true then some v else none)=_
    rw [tq]
    by_cases q:y=x
    · rw [if_pos q,decide_eq_true q];rfl
    · rw [if_neg q,decide_eq_false q];rfl
  | (z,u)::r=>by
    show ae y (if seq x z=true then (z,v)::r else (z,u)::ac x v r)=if y=x then some v else if seq y z=true then some u else ae y r
    cases q:seq x z
    · show (if seq y z=true then some u else ae y (ac x v r))=_
      rw [mi x y v r]
      cases c:seq y z
      · rfl
      · rw [if_pos rfl,if_pos rfl,if_neg fun t=>by rw [← t,c] at q;cases q]
    · rw [← lf q]
      show (if seq y x=true then some v else ae y r)=_
      rw [tq]
      by_cases c:y=x
      · rw [if_pos c,decide_eq_true c];rfl
      · rw [if_neg c,decide_eq_false c];rfl
theorem J5{σr:Sto}{ρ₀:Loc}:∀(xs:List Str) (ρ ρ':Loc),wy σr ρ₀ xs ρ=some ρ'→
    (∀y V',ae y ρ=some V'→ae y ρ₀=some V'∨∃V,ae y ρ₀=some V∧fz σr gt V=some V')→∀y V',ae y ρ'=some V'→ae y ρ₀=some V'∨∃V,ae y ρ₀=some V∧fz σr gt V=some V'
  | [],ρ,ρ',e,h=>br e▸h
  | x :: xs,ρ,ρ',e,h=>ad (x:=ae x ρ₀) e fun v e1 e=>ad e fun v' e2 e=>J5 xs _ _ e fun y V' hy=>by
    rw [mi] at hy
    by_cases q:y=x
    · rw [if_pos q] at hy
      exact .inr ⟨v,q▸e1,br hy▸e2⟩
    · rw [if_neg q] at hy
      exact h y V' hy
theorem zse{α:Type}{x:Option α}{a b:α}{p:Prop}(e:x.getD a=b) (k1:x=some b→p) (k2:a=b→p):p:=by
  cases x
  · exact k2 e
  · exact k1 (congrArg some e)
theorem zh8 {ss:List Stmt}{ρ':Loc}(e:ic P ss ρ σ=(ρ',σ')) (X:EnvOk prog w sc env ρ g σ.next h) (O:Ok prog w hb g σ h) :
    ∃g',Ok prog w hb g' σ' h∧EnvOk prog w sc env ρ' g' σ'.next h∧Ext ak g σ.next h g' σ'.next h:=by
  refine zse (x:=yb P ss ρ σ) e (fun e=>aw e fun xs k J e=>ad e fun f J e=>ad e fun ρ'' e1 e=>bf e fun q1 q2=>?_) fun q=>?_
  rotate_left
  · cases q
    exact ⟨g,O,X,Ext.refl ..⟩
  · subst q1 q2
    · · have d0:∀n,ab (fe σ f) n=if f n then none else ab σ n:=fun n=>by
          show fk (σ.os.filter fun p=>!f p.1) n=_
          rw [v8 (fun m=>!f m)]
          cases f n <;> rfl
        have k0:∀n,ab (oa σ f) n=if f n then ab σ n else none:=fun n=>by
          show fk (σ.os.filter fun p=>f p.1) n=_
          rw [v8 f]
          rfl
        have d1:∀n o,ab (fe σ f) n=some o→ab σ n=some o:=fun n o q=>by
          rw [d0] at q
          exact kj q fun J q=>q
        have k1:∀n o,ab (oa σ f) n=some o→ab σ n=some o∧ab (fe σ f) n=none:=fun n o q=>by
          rw [k0] at q
          exact bc q fun c q=>⟨q,by rw [d0,if_pos c]⟩
        have Or:Ok prog w hb g (fe σ f) h:=O.less (To _) d1 fun n o q=>O.obj n o (d1 n o q)
        have ml:∀a,MutLive g (fe σ f) a→ew g σ.next a:=fun a q=>q.mut Or
        have hI:=pw Or
        have x:Ext ak g σ.next h (g.ice (fe σ f) h) (oa σ f).next h:=
          ⟨hI,fun a o q=>(nv q).elim (fun c=>.inr (.inr (ml a c.1))) .inl,fun J J=>⟨rfl,rfl⟩,fun n a b=>absurd b (Uq.mpr a),To _,fun J J e J J=>e,fun J o e=>⟨o,e⟩⟩
        refine ⟨_,⟨fun a o q=>(nv q).elim (fun c=>c.2) (O.sub a o),fun a o q=>hI a o (O.base a o q),fun n o q=>?_,fun n o q=>?_,O.lt,O.inj⟩,X.map x fun y V' hy=>?_,x⟩
        · have q':=(k1 n o q).1
          exact ⟨(O.obj n o q').1,(O.obj n o q').2.grow hI (fun J J=>⟨rfl,rfl⟩) (To _) (O.obj n o q').1 (fun J e=>e) fun J e=>e⟩
        · obtain ⟨q',qd⟩:=k1 n o q
          have hn:=(O.obj n o q').1
          have nl:∀a,(a=g.mu n∨a=g.de n)→¬ MutLive g (fe σ f) a:=fun a ha ⟨m,om,qm,hm⟩=>by
            have hmn:=(O.obj m om (d1 m om qm)).1
            have ne:n≠m:=fun c=>by subst c;rw [qd] at qm;cases qm
            have ij:=O.inj n m hn hmn ne
            rcases ha with rfl | rfl <;> rcases hm with c | c
            · exact ij.1 c
            · exact ij.2.1 c
            · exact ij.2.2.1 c
            · exact ij.2.2.2 c
          have sp:=O.sep n o q'
          refine ⟨?_,?_⟩
          · show (g.ice (fe σ f) h).I (g.mu n)=none
            cases c:(g.ice (fe σ f) h).I (g.mu n) with
            | none=>rfl
            | some o' => rcases nv c with c | c
                         · exact absurd c.1 (nl _ (.inl rfl))
                         · rw [sp.1] at c;cases c
          · show (g.ice (fe σ f) h).I (g.de n)=none
            cases c:(g.ice (fe σ f) h).I (g.de n) with
            | none=>rfl
            | some o' => rcases nv c with c | c
                         · exact absurd c.1 (nl _ (.inr rfl))
                         · rw [sp.2] at c;cases c
        · rcases J5 _ _ _ e1 (fun y V' hy=>.inl hy) y V' hy with q | ⟨V,q1,q2⟩
          · exact ⟨V',q,fun v r=>r.ext x⟩
          · exact ⟨V,q1,fun v r=>(Q7 Or _ _ _ _ q2 r).up⟩
end
end
end Mine
end
section
open PySem PySem.W PyProof.Rows PySem.Calls
set_option maxRecDepth 20000
namespace Mine
section
theorem zc2:typeOf (.builtin "list.append")=pure (.type "method_descriptor"):=by kernel_rfl
theorem zeh:typeOf (.builtin "list.extend")=pure (.type "method_descriptor"):=by kernel_rfl
theorem zk0:typeOf (.builtin "list.pop")=pure (.type "method_descriptor"):=by kernel_rfl
theorem zj2:typeOf (.builtin "str.join")=pure (.type "method_descriptor"):=by kernel_rfl
section
variable {V:V}
theorem uo(env:Env) (pos:Pos):∀{es:List Expr},fh es=true→starEach es env=es.map (fun e=>(false,eval e env))∧(backTo pos (starEach es env)).any (·.1)=false∧(backTo pos (starEach es env)).all (!·.1)=true
  | [],_=>⟨rfl,rfl,rfl⟩
  | e :: es,hs=>by
    have h0:starEach (e::es) env=(false,eval e env)::starEach es env∧fh es=true:=by
      cases e <;> first | (cases hs;done) | exact ⟨rfl,hs⟩
    obtain ⟨a,b,c⟩:=uo env pos h0.2
    rw [h0.1]
    refine ⟨by rw [a];rfl,?_,?_⟩
    · show (false||(backTo pos (starEach es env)).any (·.1))=false
      rw [b];rfl
    · show (!false&&(backTo pos (starEach es env)).all (!·.1))=true
      rw [c];rfl
theorem Il{M:Model}{E:Value→Shared→Prop}{f:Value}{pos:Pos}{es:List Expr}{Q:Args→Shared→Prop}(hs:fh es=true) (h:wpAny M A (spliced (backTo pos (starEach es env))) (fun vs s'=>Q ⟨vs,[]⟩ s') E s) :
    wpAny M A (evalArgs f true (backTo pos (starEach es env)) []) Q E s:=by
  cases es with
  | nil=>
    unfold evalArgs
    show wpAny M A (spliced (backTo pos (starEach [] env)) >>= _) Q E s
    refine Y3 (wpAny_mono h (fun vs s' h'=>?_) fun J J x=>x)
    refine Y5 ?_
    exact Y3 (Y4 (Y3 (Y4 (Y4 h'))))
  | cons e es=>
    have h0:starEach (e::es) env=(false,eval e env)::starEach es env:=by
      cases e <;> first | (cases hs;done) | rfl
    rw [h0] at h ⊢
    exact evalArgs_plain h
theorem Ik{pos pos':Pos}{f:Value}{first:List Value}{es:List Expr}{Vs:List Mine.V}{R:Gh→Heap→Value→Prop}(hk:∀h,(∀a o,hb.get? a=some o→h.get? a=some o)→∃k,(k=Keeper.frame∨k=Keeper.machine∨k=Keeper.boundFrame)∧Looks (model prog w) h (keeperOf f) k)
    (hs:fh es=true) (ha:Does prog w hb A ak g σ s (spliced (backTo pos (starEach es env))) σ1 (fun g' J vs=>RlL prog w g' σ1.next Vs vs))
    (hcall:∀g₁ h₁ tk vs,Ext ak g σ.next s.heap g₁ σ1.next h₁→Ok prog w hb g₁ σ1 h₁→RlL prog w g₁ σ1.next Vs vs→Does prog w hb A ak g₁ σ1 { s with heap:=h₁,toks:=tk } (call f (first++vs)) σ2 R) :
    Does prog w hb A ak g σ s (callWith pos' f first (backTo pos (starEach es env)) []) σ2 R:=fun Q E hQ=>by
  refine callWith_of (P:=fun h=>∀a o,hb.get? a=some o→h.get? a=some o) (by rw [(uo env pos hs).2.1];rfl) hk (Il hs (ha _ _ fun vs g₁ h₁ tk₁ x₁ O₁ r₁=>?_))
  refine ⟨O₁.keeps (s:={ s with heap:=h₁,toks:=tk₁ }),?_⟩
  exact hcall g₁ h₁ tk₁ vs x₁ O₁ r₁ Q E fun v g₂ h₂ tk₂ x₂ O₂ r₂=>hQ v g₂ h₂ tk₂ (x₁.trans x₂) O₂ r₂
theorem Jp{f:Addr}{fd:FnD}(Z:FnOk prog w hb f fd) (h:Heap) (k:∀a o,hb.get? a=some o→h.get? a=some o):∃q,(q=Keeper.frame∨q=Keeper.machine∨q=Keeper.boundFrame)∧Looks (model prog w) h (keeperOf (.ref f)) q:=by
  obtain ⟨o,D,ds,ho,hD,_⟩:=Z.obj
  refine ⟨.frame,.inl rfl,?_⟩
  unfold keeperOf
  refine (Looks.ld (part:=none) (k _ _ ho)).andThen ?_
  rw [hD]
  exact .now
set_option tactic.hygienic true in
theorem zbs{C:Addr}{c:ClsD}(X:K.In hb) (Z:ClsOk K C c) (h:Heap) (k:∀a o,hb.get? a=some o→h.get? a=some o):∃q,(q=Keeper.frame∨q=Keeper.machine∨q=Keeper.boundFrame)∧Looks (model prog w) h (keeperOf (.ref C)) q:=by
  refine keeps_K ?_ h (X.keeps k)
  have hm:=Z.makes
  unfold makesIn at hm
  split at hm
  · rename_i oc od cd sl ho
    simp only [Uc,Wv,beq_iff_eq] at hm
    unfold keepIn
    simp only [ho]
    exact beq_iff_eq.mpr hm.1.2
  · cases hm
theorem y7{f:Value}(hf:∀a,f≠.ref a) (h:Heap):∃q,(q=Keeper.frame∨q=Keeper.machine∨q=Keeper.boundFrame)∧Looks (model prog w) h (keeperOf f) q:=by
  refine ⟨.machine,.inr (.inl rfl),?_⟩
  unfold keeperOf
  cases f <;> first | exact .now | exact absurd rfl (hf _)
theorem Le{f:Nat}{args:List Mine.V}{r:Mine.V×Sto}(e:(run P n).call f args σ=some r):∃fd,P.fn f=some fd:=by
  cases n with
  | zero=>exact aa e
  | succ n=>exact ad (x:=P.fn f) e fun fd h J=>⟨fd,h⟩
noncomputable def oy(o:Mine.V) (m:Str):String:=if (jo o).isSome then "str.join" else if seq m "append" then "list.append" else if seq m "extend" then "list.extend" else "list.pop"
theorem Q9{α:Type}{l:List α}{x:α}{r:List α}(h:yu l=some (x,r)):l=x::r:=by
  rcases l with _ | ⟨y,l⟩
  · exact aa h
  · exact bf h fun h1 h2=>by rw [h1,h2]
theorem zot (p:Str→List Mine.V→Mine.V→Sto→Prop) {k:Nat}{xs:List Mine.V}{m:Str}{args:List Mine.V}(e:yz σ k xs m args=some (V,σ')) (k1:∀x,p "append" [x] .none (ah σ k (.lst (xs++[x]))))
    (k2:∀x ys,bj σ x=some ys→sz (xs++ys)=true→p "extend" [x] .none (ah σ k (.lst (xs++ys)))) (k3:∀x r,xs.reverse=x::r→p "pop" [] x (ah σ k (.lst r.reverse))):p m args V σ':=
  cq e (fun q e=>ad e fun x h e=>bf e fun h1 h2=>by rw [lf q,n9 h,← h1,← h2];exact k1 x) fun J e=>
    cq e (fun q e=>ad e fun x h e=>ad e fun ys h3 e=>bc e fun hz e=>bf e fun h1 h2=>by rw [lf q,n9 h,← h1,← h2];exact k2 x ys h3 hz) fun J e=>
      bc e fun q e=>aw e fun x r h e=>bf e fun h1 h2=>b7 q fun q1 q2=>by
        rw [lf q1,jh q2,← h1,← h2]
        exact k3 x r (Q9 h)
theorem Mu(p:Mine.V→Str→List Mine.V→Mine.V→Sto→Prop) {o:Mine.V}{m:Str}{args:List Mine.V}(e:jg σ o m args=some (V,σ')) (k1:∀k xs x,bj σ (.ref k)=some xs→sz xs=true→p (.ref k) "append" [x] .none (ah σ k (.lst (xs++[x]))))
    (k2:∀k xs x ys,bj σ (.ref k)=some xs→sz xs=true→bj σ x=some ys→sz (xs++ys)=true→p (.ref k) "extend" [x] .none (ah σ k (.lst (xs++ys)))) (k3:∀k xs x r,bj σ (.ref k)=some xs→sz xs=true→xs.reverse=x::r→p (.ref k) "pop" [] x (ah σ k (.lst r.reverse)))
    (k4:∀s x xs l,bj σ x=some xs→w6 xs=some l→(U8 s.cps.toList.length 16&&U8 ((l.map fun y=>y.cps.toList.length).sum+l.length) 100000)=true→p (.str s) "join" [x] (.str (t5 s l)) σ):p o m args V σ':=by
  revert e
  refine @Mine.V.casesOn (fun o=>jg σ o m args=some (V,σ')→p o m args V σ') o aa (fun J=>aa) (fun J=>aa) (fun s e=>?_) (fun J=>aa) (fun J=>aa) (fun J J=>aa) (fun J J J=>aa) (fun J J=>aa) (fun k e=>?_) (fun J=>aa)
  · exact bc e fun q e=>ad e fun x h e=>ad e fun xs h2 e=>ad e fun l h3 e=>bc e fun h4 e=>bf e fun h5 h6=>by rw [lf q,n9 h,← h5,← h6];exact k4 s x xs l h2 h3 h4
  · exact ad e fun xs h e=>bc e fun hz e=>zot (fun m args V σ'=>p (.ref k) m args V σ') e (fun x=>k1 k xs x h hz) (fun x ys=>k2 k xs x ys h hz) fun x r=>k3 k xs x r h hz
theorem uv{k:Nat}{xs:List Mine.V}(e:bj σ (.ref k)=some xs):ab σ k=some (.lst xs):=ad (x:=ab σ k) e fun o h1 h2=>G1 h2▸h1
theorem P4{k:Nat}:oy (.ref k) "append" = "list.append":=by kernel_rfl
theorem Q6{k:Nat}:oy (.ref k) "extend" = "list.extend":=by kernel_rfl
theorem Q8{k:Nat}:oy (.ref k) "pop" = "list.pop":=by kernel_rfl
theorem zej{o:Mine.V}{m:Str}{u:Value}{args:List Mine.V}{σ0:Sto}{pl:Sem Bool}{Q:Value×List Value→Shared→Prop}{E:Value→Shared→Prop}(e:jg σ0 o m args=some (V,σ')) (hm:my σ o=true) (O:Ok prog w hb g σ s.heap) (r:Rl prog w g σ.next o u)
    (q:Q (.builtin (oy o m),[u]) s):wpAny (model prog w) A (getMethod u m pl) Q E s:=by
  have gl:∀{id:String}{m:Str}{k:Nat}(_slot:Slot "list" m id) (_ty:typeOf (.builtin id)=pure (.type "method_descriptor")),oy (.ref k) m=id→my σ (.ref k)=true→Rl prog w g σ.next (.ref k) u→Q (.builtin (oy (.ref k) m),[u]) s→wpAny (model prog w) A (getMethod u m pl) Q E s:=by
    intro id m k slot ty hid hm r q
    rw [hid] at q
    obtain ⟨xs,hl⟩:∃xs,bj σ (.ref k)=some xs:=Wm.mp hm
    obtain ⟨a,us,rfl,⟨c,h1⟩,h2⟩:=j3 O hl r
    exact getMethod_builtin (T:="list") ⟨_,h1,rfl⟩ PySem.F.plainAttrs_list slot ty (fun a' e=>by cases e;exact ⟨_,h1,rfl⟩) q
  refine Mu (fun o m J J J=>my σ o=true→Rl prog w g σ.next o u→Q (.builtin (oy o m),[u]) s→wpAny (model prog w) A (getMethod u m pl) Q E s) e ?_ ?_ ?_ ?_ hm r q
  · exact fun J J J J J=>gl PySem.F.slot_list_append zc2 P4
  · exact fun J J J J J J J J=>gl PySem.F.slot_list_extend zeh Q6
  · exact fun J J J J J J J=>gl PySem.F.slot_list_pop zk0 Q8
  · rintro z _ _ _ _ _ _ _ ⟨t,rfl⟩ q
    exact getMethod_builtin (T:="str") (typeIs_str s z t) PySem.F.plainAttrs_str PySem.F.slot_str_join zj2 (fun a' e=>by cases e) q
theorem zci{o:Mine.V}{m:Str}{args:List Mine.V}{ov:Value}{vs:List Value}(O:Ok prog w hb g σ s.heap) (e:jg σ o m args=some (V,σ')) (r:Rl prog w g σ.next o ov) (rr:RlL prog w g σ.next args vs) :
    Does prog w hb A ak g σ s (call (.builtin (oy o m)) ([ov]++vs)) σ' (fun g' J v=>Rl prog w g' σ'.next V v):=by
  refine Mu (fun o m args V σ'=>Rl prog w g σ.next o ov→RlL prog w g σ.next args vs→Does prog w hb A ak g σ s (call (.builtin (oy o m)) ([ov]++vs)) σ' (fun g' J v=>Rl prog w g' σ'.next V v)) e ?_ ?_ ?_ ?_ r rr
  · rintro k xs x q hz ⟨hk,rfl⟩ rr
    obtain ⟨v,rfl,r1⟩:=rr.one
    rw [P4]
    exact (zdy O (uv q) hz r1).mono fun J J a J J h=>h
  · rintro k xs x ys q hz e2 hz2 ⟨hk,rfl⟩ rr
    obtain ⟨v,rfl,r1⟩:=rr.one
    rw [Q6]
    exact (zd4 O (uv q) e2 hz hz2 r1).mono fun J J a J J h=>h
  · rintro k xs x r0 q hz hx ⟨hk,rfl⟩ rr
    obtain rfl:vs=[]:=rr
    rw [Q8]
    exact (zmt O (uv q) hz hx).mono fun J J a J J h=>h
  · rintro z x xs l e2 e3 hw ⟨t,rfl⟩ rr
    obtain ⟨v,rfl,r1⟩:=rr.one
    exact zi6 O e2 e3 hw r1
end
end
end Mine
end
section
open PySem PySem.W PyProof.Rows PySem.Calls
namespace Mine
section
section
variable {V:V}
theorem zhr(Z:Wld prog w P hb K) (he:dy prog w P hb n) (hs:t9 prog w P hb n) (hc:xb prog w P hb n) (hn:F2 prog w P hb n) {fn:Str}{fp pos:Pos}{args:List Expr}{fv:Value}{xs:List Mine.V}
    (e0:fh args=true) (e1:(run P n).ev sc (.Name fn fp) ρ σ=some (.val fv,σ1)) (e2:(run P n).evs sc args ρ σ1=some (xs,σ2))
    (e3:rg P (run P n) fv xs σ2=some (V,σ'))
    (R:Room A n) (X:EnvOk prog w sc env ρ g σ.next s.heap) (O:Ok prog w hb g σ s.heap):EvGoal prog w hb A g σ s env (.Call (.Name fn fp) args [] pos) σ' V:=fun Q E hQ=>by
  rw [arm_eval_Call_Name']
  refine Y3 (he _ _ _ _ _ _ _ _ _ _ e1 R X O _ _ fun u g₁ h₁ tk₁ x₁ O₁ r₁=>?_)
  obtain rfl:u=fv:=r₁
  have ha:=hs _ _ _ _ _ _ A g₁ { s with heap:=h₁,toks:=tk₁ } env pos e2 R (X.ext x₁) O₁
  have fin:(∀h,(∀a o,hb.get? a=some o→h.get? a=some o)→∃k,(k=Keeper.frame∨k=Keeper.machine∨k=Keeper.boundFrame)∧Looks (model prog w) h (keeperOf u) k)→
      (∀g₂ h₂ tk vs,Ok prog w hb g₂ σ2 h₂→RlL prog w g₂ σ2.next xs vs→Does prog w hb A ak g₂ σ2 { s with heap:=h₂,toks:=tk } (call u vs) σ' (fun g' J v=>Rl prog w g' σ'.next V v))→
      wpAny (model prog w) A (callWith pos u [] (backTo pos (starEach args env)) (backToKw pos (keywordEach [] env))) Q E { s with heap:=h₁,toks:=tk₁ }:=fun hk hcall=>
    Ik (first:=[]) hk e0 ha (fun g₂ h₂ tk vs x O r=>hcall g₂ h₂ tk vs O r) Q E fun v g₃ h₃ tk₃ x₃ O₃ r₃=>hQ v g₃ h₃ tk₃ (x₁.trans x₃) O₃ r₃
  refine zje e3 (fun a c h1 hcl e4=>?_) (fun a h1 J e4=>?_) fun h1 e4=>?_
  · subst h1;exact fin (zbs Z.inK (Z.cls _ _ hcl)) fun g₂ h₂ tk vs O r=>hn _ _ _ _ _ _ A g₂ _ e4 R O r
  · subst h1
    obtain ⟨fd,hfd⟩:=Le e4
    exact fin (Jp (Z.fns _ _ hfd)) fun g₂ h₂ tk vs O r=>(hc _ _ _ _ _ _ A g₂ _ e4 R O r).does
  · exact fin (fun h J=>y7 (fun a e=>by rw [e] at h1;cases h1) h) fun g₂ h₂ tk vs O r=>zkp Z.wd.nolimit R.handled O r e4
theorem zcx{args:List Expr}{env:Env}{pos:Pos}(e0:fh args=true) (e1:U8 args.length 20=true):methodCallForm (args.length+([]:List Keyword).length) (backTo pos (starEach args env)) (backToKw pos (keywordEach [] env))=true:=by
  unfold methodCallForm
  rw [(uo env pos e0).2.2]
  have:=T7 e1
  have k0:(backToKw pos (keywordEach [] env))=[]:=rfl
  rw [k0]
  have:args.length+([]:List Keyword).length+(if ([]:List (Option Str×Sem Value)).isEmpty=true then 0 else 1)<30:=by simp;exact Ue ‹_› (by decide)
  simp only [List.all_nil,Wk,Vd,decide_eq_true_eq]
  exact this
theorem J6{o:Expr}{m:Str}{apos pos:Pos}{args:List Expr}{ov:Mine.V}{xs:List Mine.V}(he:dy prog w P hb n) (hs:t9 prog w P hb n)
    (e0:jq o=true) (e00:fh args=true) (e01:U8 args.length 20=true) (e02:T8 apos.endLine pos.line=true) (e1:(run P n).ev sc o ρ σ=some (ov,σ1)) (e2:(run P n).evs sc args ρ σ1=some (xs,σ2))
    (R:Room A n) (X:EnvOk prog w sc env ρ g σ.next s.heap) (O:Ok prog w hb g σ s.heap)
    (hm:∀g₁ h₁ tk u,Ok prog w hb g₁ σ1 h₁→Rl prog w g₁ σ1.next ov u→∃fv,(∀pl Q E,Q (fv,[u]) { s with heap:=h₁,toks:=tk }→wpAny (model prog w) A (getMethod u m pl) Q E { s with heap:=h₁,toks:=tk })∧
      (∀h,(∀a o,hb.get? a=some o→h.get? a=some o)→∃k,(k=Keeper.frame∨k=Keeper.machine∨k=Keeper.boundFrame)∧Looks (model prog w) h (keeperOf fv) k)∧
      ∀g₂ h₂ tk₂ vs,Ok prog w hb g₂ σ2 h₂→Rl prog w g₂ σ2.next ov u→RlL prog w g₂ σ2.next xs vs→Does prog w hb A ak g₂ σ2 { s with heap:=h₂,toks:=tk₂ } (call fv ([u]++vs)) σ' (fun g' J v=>Rl prog w g' σ'.next V v)) :
    EvGoal prog w hb A g σ s env (.Call (.Attribute o m apos) args [] pos) σ' V:=fun Q E hQ=>by
  rw [arm_eval_Call,H1 e0]
  refine Y3 (he _ _ _ _ _ _ _ _ _ _ e1 R X O _ _ fun u g₁ h₁ tk₁ x₁ O₁ r₁=>?_)
  obtain ⟨fv,h1,h2,h3⟩:=hm g₁ h₁ tk₁ u O₁ r₁
  refine Y3 (Y6 ?_)
  unfold methodCall
  rw [zcx e00 e01]
  refine Y3 (Y5 ?_)
  unfold calleeOf
  rw [if_pos rfl]
  refine h1 _ _ _ ?_
  dsimp only
  unfold methodCallPos
  have hp:(apos.endLine == pos.line)=true:=by
    have:=Tu e02
    rw [this];exact beq_self_eq_true _
  rw [hp]
  simp only [Bool.not_true,Vc,if_true]
  refine Y3 (Y4 ?_)
  have ha:=hs _ _ _ _ _ _ A g₁ { s with heap:=h₁,toks:=tk₁ } env pos e2 R (X.ext x₁) O₁
  exact Ik (first:=[u]) h2 e00 ha (fun g₂ h₂ tk vs x O r=>h3 g₂ h₂ tk vs O (r₁.ext x) r) Q E fun v g₃ h₃ tk₃ x₃ O₃ r₃=>hQ v g₃ h₃ tk₃ (x₁.trans x₃) O₃ r₃
end
end
end Mine
end
section
open PySem PySem.W PyProof.Rows PySem.Calls
set_option maxRecDepth 20000
namespace Mine
section
def ux (sc:Scope) (env:Env) (a:Addr):Prop:=a=env.locals∨∃x k,bm x sc.names=some k∧(k = .cell∨k = .free)∧env.cells.lookup x=some a
theorem Own.addr{sc:Scope}{env:Env}{a:Addr}(h:Own sc env a):ux sc env a:=h.imp id fun ⟨x,k,e⟩=>⟨x,_,k,.inl rfl,e⟩
def Hid (S:Addr→Prop) (g:Gh) (N:Nat) (h:Heap) (sc:Scope) (env:Env):Prop:=∀a,S a→Live h a∧g.I a=none∧¬ ew g N a∧¬ ux sc env a
def Bar (S:Addr→Prop) (h h':Heap):Prop:=∀b o,¬ S b→h.get? b=some o→h'.get? b=some o
section
variable {V:V}{S:Addr→Prop}
theorem Hid.ext{Wr:Addr→Prop}(H:Hid S g N h sc env) (x:Ext Wr g N h g' N' h'):Hid S g' N' h' sc env:=fun a ha=>by
  obtain ⟨⟨o,e⟩,b,c,d⟩:=H a ha
  exact ⟨x.live a o e,x.sepI e b c,x.sepM e c,d⟩
theorem Bar.of(k:∀a o,h.get? a=some o→h'.get? a=some o):Bar S h h':=fun a o J e=>k a o e
theorem Hid.bar(H:Hid S g N h sc env) (x:Bar S h h') (l:∀a,S a→Live h' a):Hid S g N h' sc env:=fun a ha=>⟨l a ha,(H a ha).2⟩
theorem Ok.bar(O:Ok prog w hb g σ h) (H:Hid S g σ.next h sc env) (x:Bar S h h'):Ok prog w hb g σ h':=by
  have ke:∀b o,h.get? b=some o→¬ S b→h'.get? b=some o:=fun b o e q=>x b o q e
  have nI:∀b o,g.I b=some o→¬ S b:=fun b o e q=>by rw [(H b q).2.1] at e;cases e
  have nM:∀b,ew g σ.next b→¬ S b:=fun b e q=>(H b q).2.2.1 e
  refine ⟨fun b o e=>ke b o (O.sub b o e) (nI b o e),O.base,fun n o e=>⟨(O.obj n o e).1,?_⟩,O.sep,
    fun n hn=>⟨let ⟨o,e⟩:=(O.lt n hn).1;⟨o,ke _ _ e (nM _ ⟨n,hn,.inl rfl⟩)⟩,let ⟨o,e⟩:=(O.lt n hn).2;⟨o,ke _ _ e (nM _ ⟨n,hn,.inr rfl⟩)⟩⟩,O.inj⟩
  have hn:=(O.obj n o e).1
  exact (O.obj n o e).2.grow (fun J J e=>e) (fun J J=>⟨rfl,rfl⟩) (To _) hn (fun J e'=>ke _ _ e' (nM _ ⟨n,hn,.inl rfl⟩)) (fun J e'=>ke _ _ e' (nM _ ⟨n,hn,.inr rfl⟩))
theorem Ext.bar(x:Bar S h h') (l:∀a,S a→Live h' a):Ext S g N h g N h':=
  ⟨fun J J e=>e,fun J J e=>.inl e,fun J J=>⟨rfl,rfl⟩,fun n a b=>absurd b (Uq.mpr a),To _,fun a o e J hw=>x a o hw e,fun a o e=>by
    by_cases c:S a
    · exact l a c
    · exact ⟨o,x a o c e⟩⟩
theorem EnvOk.bar(X:EnvOk prog w sc env ρ g N h) (H:Hid S g N h sc env) (x:Bar S h h'):EnvOk prog w sc env ρ g N h' where
  kind:=X.kind
  glob:=X.glob
  blt:=X.blt
  inter:=X.inter
  names:=X.names
  dbg:=X.dbg
  loc:=by
    obtain ⟨m,⟨o,es,ep,ho,r⟩,hl⟩:=X.loc
    exact ⟨m,⟨o,es,ep,x _ _ (fun q=>(H _ q).2.2.2 (.inl rfl)) ho,r⟩,hl⟩
  cel:=fun y k hk hc=>by
    obtain ⟨c,o,h1,⟨oc,h2,h2'⟩,r⟩:=X.cel y k hk hc
    exact ⟨c,o,h1,⟨oc,x _ _ (fun q=>(H _ q).2.2.2 (.inr ⟨y,_,hk,hc,h1⟩)) h2,h2'⟩,r⟩
  sepL:=X.sepL
  inj:=X.inj
variable (prog w) in
def ItAt (g:Gh) (N:Nat) (h:Heap) (I:Addr):It→Prop
  | .cur n i=>n<N∧h.IsListIter I (g.mu n) i
  | .items xs=>(∃t vs i,TupAt g.I t vs∧h.IsTupleIter I t i∧RlL prog w g N xs (vs.drop i))∨(∃l vs i,LstAt g.I l vs∧h.IsListIter I l i∧RlL prog w g N xs (vs.drop i))∨
      (∃lo left,IsRangeIter h I lo left 1∧xs=ny lo left.toNat)
def N8 (S:Addr→Prop) (h:Heap) (I:Addr):Prop:=∃TI TO i1 i2 a b,IsZip h I TI TO .none∧IsPair h TI (.ref i1) (.ref i2)∧IsPair h TO a b∧i1≠I∧S TO∧S i1∧
  ((∃t k,∃xs:Array Value,h.IsTupleIter i1 t k∧h.IsTuple t xs∧xs[k]?=none∧t≠I)∨(∃l k,∃xs:Array Value,h.IsListIter i1 l k∧h.IsList l xs∧xs[k]?=none∧l≠I))
variable (prog w) in
def It0 (S:Addr→Prop) (g:Gh) (N:Nat) (h:Heap) (I:Addr) (it:It):Prop:=ItAt prog w g N h I it∨it = .items []∧N8 S h I
theorem ItAt.ext{Wr:Addr→Prop}{I:Addr}{it:It}(T:ItAt prog w g N h I it) (x:Ext Wr g N h g' N' h') (hm:¬ ew g N I) (hw:¬ Wr I):ItAt prog w g' N' h' I it:=by
  have kp:∀o,h.get? I=some o→h'.get? I=some o:=fun o e=>x.keep I o e hm hw
  cases it with
  | cur n i=>
    obtain ⟨hn,o,e,r⟩:=T
    exact ⟨Tn hn x.next,o,kp o e,r.1,by rw [(x.mu n hn).1];exact r.2⟩
  | items xs=>
    rcases T with ⟨t,vs,i,⟨c,h1⟩,⟨o,h2,h3⟩,h4⟩ | ⟨l,vs,i,⟨c,h1⟩,⟨o,h2,h3⟩,h4⟩ | ⟨lo,left,h1,h2⟩
    · exact .inl ⟨t,vs,i,⟨c,x.I _ _ h1⟩,⟨o,kp o h2,h3⟩,h4.ext x⟩
    · exact .inr (.inl ⟨l,vs,i,⟨c,x.I _ _ h1⟩,⟨o,kp o h2,h3⟩,h4.ext x⟩)
    · exact .inr (.inr ⟨lo,left,kp _ h1,h2⟩)
theorem It0.grow{I:Addr}{it:It}(T:It0 prog w S g N h I it) (k:∀a o,h.get? a=some o→h'.get? a=some o):It0 prog w S g N h' I it:=by
  rcases T with T | ⟨e,TI,TO,i1,i2,a,b,h1,h2,h3,h4,h5,h6,h7⟩
  · refine .inl ?_
    cases it with
    | cur n i=>obtain ⟨hn,o,e,r⟩:=T;exact ⟨hn,o,k _ _ e,r⟩
    | items xs=>
      rcases T with ⟨t,vs,i,q,⟨o,h2,h3⟩,h4⟩ | ⟨l,vs,i,q,⟨o,h2,h3⟩,h4⟩ | ⟨lo,left,q,h2⟩
      · exact .inl ⟨t,vs,i,q,⟨o,k _ _ h2,h3⟩,h4⟩
      · exact .inr (.inl ⟨l,vs,i,q,⟨o,k _ _ h2,h3⟩,h4⟩)
      · exact .inr (.inr ⟨lo,left,k _ _ q,h2⟩)
  · refine .inr ⟨e,TI,TO,i1,i2,a,b,k _ _ h1,k _ _ h2,k _ _ h3,h4,h5,h6,?_⟩
    rcases h7 with ⟨t,n,xs,⟨o,q1,q2⟩,⟨o2,q3,q4⟩,q5⟩ | ⟨t,n,xs,⟨o,q1,q2⟩,⟨o2,q3,q4⟩,q5⟩
    · exact .inl ⟨t,n,xs,⟨o,k _ _ q1,q2⟩,⟨o2,k _ _ q3,q4⟩,q5⟩
    · exact .inr ⟨t,n,xs,⟨o,k _ _ q1,q2⟩,⟨o2,k _ _ q3,q4⟩,q5⟩
end
end
section
section
variable {E:Value→Shared→Prop}
theorem B9{α:Type}{Q:α→Shared→Prop}(hh:A.handled=none)
    (hE:∀h' e,(∀b o,s.heap.get? b=some o→h'.get? b=some o)→(∃o,h'.get? e=some o∧o.cls = .type "StopIteration")→E (.ref e) { s with heap:=h' }) :
    wpAny (model prog w) A (newExc (.type "StopIteration") [] >>= fun e=>(raiseNew e:Sem α)) Q E s:=by
  refine Y3 ?_
  simp only [newExc,newTuple]
  refine Y3 (wpAny_newObj_type ?_ (by size_fits))
  refine Y3 (m:=firstArgMember _ _) (wpAny_of_eq (a:=Value.none) (by first | rfl | (simp only [firstArgMember];rfl)) ?_)
  refine wpAny_newObj_type ?_ (by size_fits)
  simp only [raiseNew]
  refine Y3 (wpAny_handled ?_)
  rw [hh]
  refine Y3 (Y4 (wpAny_throw ?_))
  exact hE _ _ (fun b ob e=>Tq _ (Tq _ e)) ⟨_,Tv _ rfl,rfl⟩
theorem H9{it l:Addr}{i:Nat}{items:Array Value}{Q:Fin→Shared→Prop}(hh:A.handled=none) (hit:s.heap.IsListIter it l i) (hl:s.heap.IsList l items) (hx:items[i]?=none)
    (hE:∀h' e,(∀b o,b≠it→s.heap.get? b=some o→h'.get? b=some o)→Live h' it→(∃o,h'.get? e=some o∧o.cls = .type "StopIteration")→E (.ref e) { s with heap:=h' }) :
    wpAny (model prog w) A (Builtin.«list_iterator.__next__» ⟨[.ref it],[]⟩) Q E s:=by
  obtain ⟨⟨c,dct,dt,sl⟩,ho,hc,hd⟩:=id hit
  simp only at hc hd
  subst hc hd
  obtain ⟨ol,hol,_,nl,hdl⟩:=hl
  show wpAny _ _ (field (.ref it) 0 >>= _) _ _ s
  refine Y3 (Y7 ho rfl (x:=.ref l) rfl ?_)
  show wpAny _ _ (if (Value.ref l == Value.none)=true then _ else _) _ _ s
  rw [if_neg (show ¬ ((Value.ref l == Value.none)=true) from Ts)]
  show wpAny _ _ (field (.ref it) 1 >>= _) _ _ s
  refine Y3 (Y7 ho rfl (x:=.int i 0) rfl ?_)
  show wpAny _ _ (seqItems? (.ref l) >>= _) _ _ s
  refine Y3 (wpAny_seqItems hol hdl ?_)
  simp only [Int.toNat_natCast,hx]
  refine Y3 (wpAny_rule (Y3 (wpAny_setField ho rfl (by simp) ?_)))
  show wpAny _ _ (newExc (.type "StopIteration") [] >>= _) _ _ _
  refine B9 hh fun h' e k he=>hE h' e (fun b o hb q=>k _ _ ((Vf _ _ (Ne.symm hb)).trans q)) ⟨_,k _ _ (Un _ ho rfl)⟩ he
theorem H5{it l:Addr}{i:Nat}{items:Array Value}{Q:Fin→Shared→Prop}(hh:A.handled=none) (hit:s.heap.IsTupleIter it l i) (hl:s.heap.IsTuple l items) (hx:items[i]?=none)
    (hE:∀h' e,(∀b o,b≠it→s.heap.get? b=some o→h'.get? b=some o)→Live h' it→(∃o,h'.get? e=some o∧o.cls = .type "StopIteration")→E (.ref e) { s with heap:=h' }) :
    wpAny (model prog w) A (Builtin.«tuple_iterator.__next__» ⟨[.ref it],[]⟩) Q E s:=by
  obtain ⟨⟨c,dct,dt,sl⟩,ho,hc,hd⟩:=id hit
  simp only at hc hd
  subst hc hd
  obtain ⟨ol,hol,_,nl,hdl⟩:=hl
  show wpAny _ _ (field (.ref it) 0 >>= _) _ _ s
  refine Y3 (Y7 ho rfl (x:=.ref l) rfl ?_)
  show wpAny _ _ (if (Value.ref l == Value.none)=true then _ else _) _ _ s
  rw [if_neg (show ¬ ((Value.ref l == Value.none)=true) from Ts)]
  show wpAny _ _ (field (.ref it) 1 >>= _) _ _ s
  refine Y3 (Y7 ho rfl (x:=.int i 0) rfl ?_)
  show wpAny _ _ (seqItems? (.ref l) >>= _) _ _ s
  refine Y3 (wpAny_seqItems hol hdl ?_)
  simp only [Int.toNat_natCast,hx]
  refine Y3 (wpAny_rule (Y3 (wpAny_setField ho rfl (by simp) ?_)))
  show wpAny _ _ (newExc (.type "StopIteration") [] >>= _) _ _ _
  refine B9 hh fun h' e k he=>hE h' e (fun b o hb q=>k _ _ ((Vf _ _ (Ne.symm hb)).trans q)) ⟨_,k _ _ (Un _ ho rfl)⟩ he
theorem zat{it:Addr}{x left step:Int}{Q:Fin→Shared→Prop}(hh:A.handled=none) (hit:IsRangeIter s.heap it x left step) (hleft:left≤0)
    (hE:∀h' e,(∀b o,b≠it→s.heap.get? b=some o→h'.get? b=some o)→Live h' it→(∃o,h'.get? e=some o∧o.cls = .type "StopIteration")→E (.ref e) { s with heap:=h' }) :
    wpAny (model prog w) A (Builtin.«range_iterator.__next__» ⟨[.ref it],[]⟩) Q E s:=by
  show wpAny _ _ (field (.ref it) 0 >>= _) _ _ s
  refine Y3 (Y7 hit rfl (x:=rawInt x) rfl ?_)
  show wpAny _ _ (field (.ref it) 1 >>= _) _ _ s
  refine Y3 (Y7 hit rfl (x:=rawInt left) rfl ?_)
  show wpAny _ _ (field (.ref it) 2 >>= _) _ _ s
  refine Y3 (Y7 hit rfl (x:=rawInt step) rfl ?_)
  show wpAny _ _ (if left≤0 then _ else _) _ _ s
  rw [if_pos hleft]
  refine Y3 (wpAny_rule ?_)
  refine Y3 ?_
  show wpAny _ _ (newExc (.type "StopIteration") [] >>= _) _ _ _
  exact B9 hh fun h' e k he=>hE h' e (fun b o hb q=>k _ _ q) ⟨_,k _ _ hit⟩ he
theorem za{T:String}{it:Addr}{B:Builtin}{id:String}{Q:Option Value→Shared→Prop}{S:Addr→Prop}(hT:s.TypeIs (.ref it) T) (slot:Slot T "__next__" id) (entry:entryFor table id=some B) (args:argsOk id ⟨[.ref it],[]⟩)
    (hB:∀(A':Around) (Q':Fin→Shared→Prop) (E':Value→Shared→Prop),A'.handled=A.handled→(∀h' e,Bar S s.heap h'→(∀a,S a→Live h' a)→(∃o,h'.get? e=some o∧o.cls = .type "StopIteration")→E' (.ref e) { s with heap:=h' })→wpAny (model prog w) A' (B ⟨[.ref it],[]⟩) Q' E' s)
    (hQ:∀h',Bar S s.heap h'→(∀a,S a→Live h' a)→Q none { s with heap:=h' }):wpAny (model prog w) A (pyNext (.ref it)) Q E s:=by
  unfold pyNext
  refine Y3 (wpAny_attempt (wpAny_callSpecial?_slot (name:=Str.ofString "__next__") hT slot (wpAny_call_entry slot hT entry (hB _ _ _ rfl fun h' e hk hl he=>?_) args)))
  obtain ⟨o,ho,hc⟩:=he
  refine Y3 (wpAny_isInstance (T:="StopIteration") (b:=true) ⟨o,ho,hc⟩ isSubtype_stop ?_)
  exact Y4 (hQ _ hk hl)
theorem Je{T:String}{it:Addr}{B:Builtin}{id:String}{Q:Value→Shared→Prop}{S:Addr→Prop}(hT:s.TypeIs (.ref it) T) (slot:Slot T "__next__" id) (entry:entryFor table id=some B) (args:argsOk id ⟨[.ref it],[]⟩)
    (hB:∀(A':Around) (Q':Fin→Shared→Prop) (E':Value→Shared→Prop),A'.handled=A.handled→(∀h' e,Bar S s.heap h'→(∀a,S a→Live h' a)→(∃o,h'.get? e=some o∧o.cls = .type "StopIteration")→E' (.ref e) { s with heap:=h' })→wpAny (model prog w) A' (B ⟨[.ref it],[]⟩) Q' E' s)
    (hE:∀h' e,Bar S s.heap h'→(∀a,S a→Live h' a)→(∃o,h'.get? e=some o∧o.cls = .type "StopIteration")→E (.ref e) { s with heap:=h' }):wpAny (model prog w) A (Builtin.SmallTypes.nextOf (.ref it)) Q E s:=by
  unfold Builtin.SmallTypes.nextOf
  exact Y3 (wpAny_callSpecial?_slot (name:=Str.ofString "__next__") hT slot (wpAny_call_entry slot hT entry (hB _ _ _ rfl hE) args))
end
end
section
section
variable {V:V}{S:Addr→Prop}{E:Value→Shared→Prop}
theorem za9 {z:Addr}{Q:Fin→Shared→Prop}(hh:A.handled=none) (Z:N8 S s.heap z) (hz0:S z) (hS:∀a,S a→Live s.heap a)
    (hE:∀h' e,Bar S s.heap h'→(∀a,S a→Live h' a)→(∃o,h'.get? e=some o∧o.cls = .type "StopIteration")→E (.ref e) { s with heap:=h' }) :
    wpAny (model prog w) A (Builtin.«zip.__next__» ⟨[.ref z],[]⟩) Q E s:=by
  obtain ⟨TI,TO,i1,i2,a,b,hz,hTI,hTO,hne,sTO,si1,hit⟩:=Z
  show wpAny _ _ (field (.ref z) 2 >>= _) _ _ _
  refine Y3 (Y7 hz rfl (x:=.bool false) rfl ?_)
  show wpAny _ _ (field (.ref z) 3 >>= _) _ _ _
  refine Y3 (Y7 hz rfl (x:=.ref TI) rfl ?_)
  refine Y3 (wpAny_seqItems hTI rfl ?_)
  show wpAny _ _ (Builtin.SmallTypes.ownedTupleIsFree (.ref z) >>= _) _ _ _
  refine Y3 ?_
  unfold Builtin.SmallTypes.ownedTupleIsFree
  refine Y3 (Y7 hz rfl (x:=.none) rfl (Y4 ?_))
  simp only [if_true]
  refine Y3 (wpAny_rule ?_)
  refine Y3 (Y7 hz rfl (x:=.ref TO) rfl ?_)
  refine Y3 (wpAny_setField_rec hz (by simp) fun h₁ hz₁ hs₁=>?_)
  replace hz₁:IsZip h₁ z TI TO .ellipsis:=hz₁
  refine Y3 ?_
  simp only [List.zipIdx_cons,List.zipIdx_nil,Vz,Vx]
  refine Y3 (Y3 (wpAny_onRaise ?_))
  show wpAny _ _ (Builtin.SmallTypes.nextOf (.ref i1) >>= _) _ _ _
  have k1:∀b o,b≠z→s.heap.get? b=some o→h₁.get? b=some o:=fun b o hb q=>(hs₁.2 b hb).trans q
  have fin:∀h₂ e,(∀b o,b≠i1→h₁.get? b=some o→h₂.get? b=some o)→Live h₂ i1→(∃o,h₂.get? e=some o∧o.cls = .type "StopIteration")→
      wpAny (model prog w) A (setField (.ref z) 0 .none) (fun J s'=>E (.ref e) s') E { s with heap:=h₂ }:=fun h₂ e k2 l2 he=>by
    obtain ⟨oe,hoe,hce⟩:=he
    have hz₂:IsZip h₂ z TI TO .ellipsis:=k2 _ _ (Ne.symm hne) hz₁
    have hez:e≠z:=fun x=>by subst x;rw [hz₂] at hoe;cases hoe;simp at hce
    refine wpAny_setField_rec hz₂ (by simp) fun h₃ hz₃ hs₃=>hE h₃ e (fun c o c1 x=>?_) (fun c hc=>?_) ⟨oe,hs₃.extBut _ _ hez hoe,hce⟩
    · have c2:c≠z:=fun q=>c1 (q▸hz0)
      have c3:c≠i1:=fun q=>c1 (q▸si1)
      exact hs₃.extBut _ _ c2 (k2 _ _ c3 (k1 _ _ c2 x))
    · by_cases c2:c=z
      · subst c2;exact ⟨_,hz₃⟩
      · by_cases c3:c=i1
        · subst c3
          obtain ⟨o,ho⟩:=l2
          exact ⟨o,hs₃.extBut _ _ c2 ho⟩
        · obtain ⟨o,ho⟩:=hS c hc
          exact ⟨o,hs₃.extBut _ _ c2 (k2 _ _ c3 (k1 _ _ c2 ho))⟩
  rcases hit with ⟨t,k,xs,⟨oi,q1,q2⟩,⟨ot,q3,q4⟩,hx,q5⟩ | ⟨t,k,xs,⟨oi,q1,q2⟩,⟨ot,q3,q4⟩,hx,q5⟩
  · have hT:h₁.IsTupleIter i1 t k:=⟨oi,k1 _ _ hne q1,q2⟩
    refine Y3 (Je (S:=fun a=>a=i1) hT.typeIs PySem.F.slot_tuple_iterator_next PySem.F.entry_tuple_iterator_next (PySem.F.args_tuple_iterator_next_1 _) (fun A' Q' E' hA hE'=>?_) fun h₂ e k2 l2 he=>?_)
    · exact H5 (hA.trans hh) hT (⟨ot,k1 _ _ q5 q3,q4⟩:h₁.IsTuple t xs) hx fun h' e k l he=>hE' h' e (fun b o hb q=>k b o hb q) (fun a ha=>ha▸l) he
    · exact fin h₂ e (fun b o hb q=>k2 b o hb q) (l2 i1 rfl) he
  · have hT:h₁.IsListIter i1 t k:=⟨oi,k1 _ _ hne q1,q2⟩
    refine Y3 (Je (S:=fun a=>a=i1) hT.typeIs slot_listiter_next entry_listiter_next (args_listiter_next _) (fun A' Q' E' hA hE'=>?_) fun h₂ e k2 l2 he=>?_)
    · exact H9 (hA.trans hh) hT (⟨ot,k1 _ _ q5 q3,q4⟩:h₁.IsList t xs) hx fun h' e k l he=>hE' h' e (fun b o hb q=>k b o hb q) (fun a ha=>ha▸l) he
    · exact fin h₂ e (fun b o hb q=>k2 b o hb q) (l2 i1 rfl) he
theorem Dl{α:Type}:∀{l:List α}{i:Nat},l.drop i=[]→l[i]?=none:=fun h=>List.getElem?_eq_none (List.drop_eq_nil_iff.mp h)
theorem qj{α:Type}:∀{l:List α}{i:Nat}{x:α}{r:List α},l.drop i=x::r→l[i]?=some x∧l.drop (i+1)=r:=fun {l i x r} h=>by
  have h1:(l.drop i)[0]?=some x:=by rw [h];rfl
  rw [Yw] at h1
  refine ⟨h1,?_⟩
  have h2:(l.drop i).drop 1=r:=by rw [h];rfl
  rw [Yi] at h2
  exact h2
theorem zjy{α β:Type}{x:Option α}{f:α→β}(h:(ob x fun a=>some (f a))=none):x=none:=by
  cases x
  · rfl
  · exact nomatch h
theorem K3:∀(xs:List Mine.V) (i:Nat),dr xs i=none→xs.length≤i
  | [],_,_=>Ux _
  | _::_,0,h=>nomatch h
  | _::xs,i+1,h=>Ug (K3 xs i h)
theorem Ix {I:Addr}{it:It}{Q:Option Value→Shared→Prop}(R:A.handled=none) (O:Ok prog w hb g σ s.heap) (T:It0 prog w S g σ.next s.heap I it) (hI:S I) (hS:∀a,S a→Live s.heap a) (e:gq σ it=some none)
    (hQ:∀h',Bar S s.heap h'→(∀a,S a→Live h' a)→Q none { s with heap:=h' }):wpAny (model prog w) A (pyNext (.ref I)) Q E s:=by
  have one:∀{h'},(∀b o,b≠I→s.heap.get? b=some o→h'.get? b=some o)→Live h' I→Bar S s.heap h'∧∀a,S a→Live h' a:=fun k l=>
    ⟨fun b o hb q=>k b o (fun c=>hb (c▸hI)) q,fun a ha=>by
      by_cases c:a=I
      · subst c;exact l
      · obtain ⟨o,ho⟩:=hS a ha;exact ⟨o,k a o c ho⟩⟩
  have lst:∀{l:Addr}{xs:Array Value}{i:Nat},s.heap.IsListIter I l i→s.heap.IsList l xs→xs[i]?=none→wpAny (model prog w) A (pyNext (.ref I)) Q E s:=fun hT hl hx=>
    za (S:=S) hT.typeIs slot_listiter_next entry_listiter_next (args_listiter_next _) (fun A' Q' E' hA hE'=>H9 (hA.trans R) hT hl hx fun h' e k l he=>hE' h' e (one k l).1 (one k l).2 he) hQ
  rcases T with T | ⟨rfl,Z⟩
  · cases it with
    | cur n i=>
      obtain ⟨hn,hT⟩:=T
      refine ad (x:=bj σ (.ref n)) e fun xs q e=>?_
      obtain ⟨_,vs,⟨c,h1⟩,h2,_⟩:=O.obj _ _ (uv q)
      refine lst hT ⟨_,h1,rfl,c,rfl⟩ ?_
      have:=K3 xs i (zjy (br e))
      rw [← h2.length] at this
      simpa using this
    | items xs=>
      have hx:xs=[]:=by
        rcases xs with _ | ⟨x,r⟩
        · rfl
        · exact nomatch br e
      subst hx
      rcases T with ⟨t,vs,i,⟨c,h1⟩,hT,h4⟩ | ⟨l,vs,i,⟨c,h1⟩,hT,h4⟩ | ⟨lo,left,hT,h2⟩
      · have hx:vs.toArray[i]?=none:=by simpa using Dl (h4:vs.drop i=[])
        have ht:s.heap.IsTuple t vs.toArray:=⟨_,O.sub _ _ h1,rfl,c,rfl⟩
        exact za (S:=S) hT.typeIs PySem.F.slot_tuple_iterator_next PySem.F.entry_tuple_iterator_next (PySem.F.args_tuple_iterator_next_1 _) (fun A' Q' E' hA hE'=>H5 (hA.trans R) hT ht hx fun h' e k l he=>hE' h' e (one k l).1 (one k l).2 he) hQ
      · exact lst hT ⟨_,O.sub _ _ h1,rfl,c,rfl⟩ (by simpa using Dl (h4:vs.drop i=[]))
      · have hl:left≤0:=by
          cases q:left.toNat with
          | zero=>exact zsy ‹_›
          | succ k=>rw [q] at h2;cases h2
        have hTy:s.TypeIs (.ref I) "range_iterator":=⟨_,hT,rfl⟩
        exact za (S:=S) hTy PySem.F.slot_range_iterator_next PySem.F.entry_range_iterator_next (PySem.F.args_range_iterator_next_1 _) (fun A' Q' E' hA hE'=>zat (hA.trans R) hT hl fun h' e k l he=>hE' h' e (one k l).1 (one k l).2 he) hQ
  · have hTy:s.TypeIs (.ref I) "zip":=by
      obtain ⟨TI,TO,i1,i2,a,b,hz,_⟩:=Z
      exact ⟨_,hz,rfl⟩
    exact za (S:=S) hTy PySem.F.slot_zip_next PySem.F.entry_zip_next (PySem.F.args_zip_next_1 _) (fun A' Q' E' hA hE'=>za9 (hA.trans R) Z hI hS hE') hQ
theorem Im {I:Addr}{it it':It}{Q:Option Value→Shared→Prop}(O:Ok prog w hb g σ s.heap) (T:It0 prog w S g σ.next s.heap I it) (hI:S I) (hS:∀a,S a→Live s.heap a) (e:gq σ it=some (some (V,it')))
    (hQ:∀v h' tk,Bar S s.heap h'→(∀a,S a→Live h' a)→ItAt prog w g σ.next h' I it'→Rl prog w g σ.next V v→Q (some v) { s with heap:=h',toks:=tk }):wpAny (model prog w) A (pyNext (.ref I)) Q E s:=by
  have one:∀{h'},Ve I s.heap h'→Live h' I→Bar S s.heap h'∧∀a,S a→Live h' a:=fun k l=>
    ⟨fun b o hb q=>(k.2 b (fun c=>hb (c▸hI))).trans q,fun a ha=>by
      by_cases c:a=I
      · subst c;exact l
      · obtain ⟨o,ho⟩:=hS a ha;exact ⟨o,(k.2 a c).trans ho⟩⟩
  rcases T with T | ⟨rfl,Z⟩
  · cases it with
    | cur n i=>
      obtain ⟨hn,hT⟩:=T
      refine ad (x:=bj σ (.ref n)) e fun xs q e=>ad (br e) fun x hx e=>bf e fun q1 q2=>?_
      subst q1 q2
      obtain ⟨_,vs,⟨c,h1⟩,h2,_⟩:=O.obj _ _ (uv q)
      obtain ⟨v,hv,rv⟩:=Dy hx h2
      refine wpAny_pyNext_list_item hT (⟨_,h1,rfl,c,rfl⟩:s.heap.IsList (g.mu n) vs.toArray) (by simpa using hv) fun h' hT' hs=>?_
      have z:=one hs (let ⟨o,ho,_⟩:=hT';⟨o,ho⟩)
      exact hQ v h' s.toks z.1 z.2 ⟨hn,hT'⟩ rv
    | items xs=>
      obtain ⟨x,r,rfl,rfl,rfl⟩:∃x r,xs=x::r∧V=x∧it' = .items r:=by
        exact aw (br e) fun x r h e=>bf e fun q1 q2=>⟨x,r,Q9 h,q1.symm,q2.symm⟩
      rcases T with ⟨t,vs,i,⟨c,h1⟩,hT,h4⟩ | ⟨l,vs,i,⟨c,h1⟩,hT,h4⟩ | ⟨lo,left,hT,h2⟩
      · obtain ⟨v,r',hd,k1,k2⟩:=h4
        obtain ⟨d1,d2⟩:=qj hd
        refine wpAny_pyNext_tuple_item hT (⟨_,O.sub _ _ h1,rfl,c,rfl⟩:s.heap.IsTuple t vs.toArray) (by simpa using d1) fun h' hT' hs=>?_
        have z:=one hs (let ⟨o,ho,_⟩:=hT';⟨o,ho⟩)
        exact hQ v h' s.toks z.1 z.2 (.inl ⟨t,vs,i+1,⟨c,h1⟩,hT',by rw [d2];exact k2⟩) k1
      · obtain ⟨v,r',hd,k1,k2⟩:=h4
        obtain ⟨d1,d2⟩:=qj hd
        refine wpAny_pyNext_list_item hT (⟨_,O.sub _ _ h1,rfl,c,rfl⟩:s.heap.IsList l vs.toArray) (by simpa using d1) fun h' hT' hs=>?_
        have z:=one hs (let ⟨o,ho,_⟩:=hT';⟨o,ho⟩)
        exact hQ v h' s.toks z.1 z.2 (.inr (.inl ⟨l,vs,i+1,⟨c,h1⟩,hT',by rw [d2];exact k2⟩)) k1
      · cases q:left.toNat with
        | zero=>rw [q] at h2;cases h2
        | succ k=>
          rw [q] at h2
          obtain ⟨rfl,rfl⟩:V = .int lo∧r=ny (lo+1) k:=by
            have h2':V::r = .int lo::ny (lo+1) k:=h2
            cases h2';exact ⟨rfl,rfl⟩
          refine wpAny_pyNext_range_item hT (by exact zsi ‹_›) fun h' hT' hs=>?_
          have z:=one hs ⟨_,hT'⟩
          exact hQ _ h' _ z.1 z.2 (.inr (.inr ⟨lo+1,left-1,hT',by rw [show (left-1).toNat=k by exact zq9 ‹_›]⟩)) ⟨_,rfl⟩
  · exact nomatch br e
end
end
section
abbrev zo1 (T:String) (a:Addr):Obj:={ cls:=.type T,data:=.fields #[.ref a,.int 0 0] }
abbrev zh3 (h:Heap) (T:String) (a b:Addr):Heap:=((h.push (zo1 T a)).push (zo1 "tuple_iterator" b)).push { cls:=.type "tuple",data:=.seq #[.ref h.objs.size,.ref (h.push (zo1 T a)).objs.size] }
abbrev zh4 (h:Heap) (T:String) (a b:Addr):Heap:=(zh3 h T a b).push { cls:=.type "tuple",data:=.seq #[.none,.none] }
abbrev zh5 (h:Heap) (T:String) (a b:Addr):Heap:=(zh4 h T a b).push { cls:=.type "zip",data:=.fields #[.none,.bool false,.bool false,.ref ((h.push (zo1 T a)).push (zo1 "tuple_iterator" b)).objs.size,.ref (zh3 h T a b).objs.size] }
theorem zaz(l1 l2:Addr) (xs ys:Array Value) :
    Meets (Builtin.«zip.__new__» ⟨[.type "zip",.ref l1,.ref l2],[]⟩) (fun J R s=>s.heap.IsList l1 xs∧s.heap.IsTuple l2 ys∧R (.ok (.ret (.ref (zh4 s.heap "list_iterator" l1 l2).objs.size))) { s with heap:=zh5 s.heap "list_iterator" l1 l2 }):=
  .of_wp fun prog w A R s h=>by
    obtain ⟨hp,g,d,tk,os⟩:=s;obtain ⟨hl1,hl2,h⟩:=h
    have hsub:=PySem.sub_zip
    have hL1:Heap.IsList (Shared.heap ⟨hp,g,d,tk,os⟩) l1 xs:=hl1
    have hL2:Y0 (Shared.heap ⟨hp.push { cls:=.type "list_iterator",data:=.fields #[.ref l1,.int 0 0] },g,d,tk,os⟩) l2 ys:=let ⟨o,ho,r⟩:=hl2;⟨o,Tq _ ho,r⟩
    wp_walk using wpAny_pyIter_list hL1,wpAny_pyIter_tuple hL2
    exact ⟨_,rfl,h⟩
theorem zav(l1 l2:Addr) (xs ys:Array Value) :
    Meets (Builtin.«zip.__new__» ⟨[.type "zip",.ref l1,.ref l2],[]⟩) (fun J R s=>s.heap.IsTuple l1 xs∧s.heap.IsTuple l2 ys∧R (.ok (.ret (.ref (zh4 s.heap "tuple_iterator" l1 l2).objs.size))) { s with heap:=zh5 s.heap "tuple_iterator" l1 l2 }):=
  .of_wp fun prog w A R s h=>by
    obtain ⟨hp,g,d,tk,os⟩:=s;obtain ⟨hl1,hl2,h⟩:=h
    have hsub:=PySem.sub_zip
    have hL1:Y0 (Shared.heap ⟨hp,g,d,tk,os⟩) l1 xs:=hl1
    have hL2:Y0 (Shared.heap ⟨hp.push { cls:=.type "tuple_iterator",data:=.fields #[.ref l1,.int 0 0] },g,d,tk,os⟩) l2 ys:=let ⟨o,ho,r⟩:=hl2;⟨o,Tq _ ho,r⟩
    wp_walk using wpAny_pyIter_tuple hL1,wpAny_pyIter_tuple hL2
    exact ⟨_,rfl,h⟩
section
variable {V:V}{S:Addr→Prop}{E:Value→Shared→Prop}
theorem zdc{T:String}{a b:Addr}(h:Heap):IsZip (zh5 h T a b) (h.objs.size+4) (h.objs.size+2) (h.objs.size+3) .none∧IsPair (zh5 h T a b) (h.objs.size+2) (.ref h.objs.size) (.ref (h.objs.size+1))∧IsPair (zh5 h T a b) (h.objs.size+3) .none .none∧
    (zh5 h T a b).get? h.objs.size=some (zo1 T a)∧(∀c o,h.get? c=some o→(zh5 h T a b).get? c=some o)∧(zh4 h T a b).objs.size=h.objs.size+4:=by
  have z1:(h.push (zo1 T a)).objs.size=h.objs.size+1:=Vy ..
  have z2:((h.push (zo1 T a)).push (zo1 "tuple_iterator" b)).objs.size=h.objs.size+2:=by rw [Vy,z1]
  have z3:(zh3 h T a b).objs.size=h.objs.size+3:=by rw [Vy,z2]
  have z4:(zh4 h T a b).objs.size=h.objs.size+4:=by rw [Vy,z3]
  refine ⟨?_,?_,?_,?_,fun c o e=>Tq _ (Tq _ (Tq _ (Tq _ (Tq _ e)))),z4⟩
  · have:=Tv (o:={ cls:=.type "zip",data:=.fields #[.none,.bool false,.bool false,.ref ((h.push (zo1 T a)).push (zo1 "tuple_iterator" b)).objs.size,.ref (zh3 h T a b).objs.size] }) (zh4 h T a b) rfl
    rw [z4] at this
    rw [z2,z3] at this
    show (zh5 h T a b).get? (h.objs.size+4)=_
    unfold zh5
    rw [z2,z3]
    exact this
  · have:=Tv (o:={ cls:=.type "tuple",data:=.seq #[.ref h.objs.size,.ref (h.push (zo1 T a)).objs.size] }) ((h.push (zo1 T a)).push (zo1 "tuple_iterator" b)) rfl
    rw [z2] at this
    have q:=Tq { cls:=.type "zip",data:=.fields #[.none,.bool false,.bool false,.ref ((h.push (zo1 T a)).push (zo1 "tuple_iterator" b)).objs.size,.ref (zh3 h T a b).objs.size] } (Tq { cls:=.type "tuple",data:=.seq #[.none,.none] } this)
    show (zh5 h T a b).get? (h.objs.size+2)=some { cls:=.type "tuple",data:=.seq #[.ref h.objs.size,.ref (h.objs.size+1)] }
    rw [← z1]
    exact q
  · have:=Tv (o:={ cls:=.type "tuple",data:=.seq #[.none,.none] }) (zh3 h T a b) rfl
    rw [z3] at this
    exact Tq _ this
  · exact Tq _ (Tq _ (Tq _ (Tq _ (Tv _ rfl))))
def Nx (prog:Program) (w:World) (hb:Heap) (sc:Scope) (env:Env) (g:Gh) (σ:Sto) (s:Shared) (σ':Sto) (it:It) (Q:Value→Shared→Prop):Prop:=
  ∀I g' h' tk S,Ext ak g σ.next s.heap g' σ'.next h'→Ok prog w hb g' σ' h'→It0 prog w S g' σ'.next h' I it→S I→Hid S g' σ'.next h' sc env→(∀a,S a→s.heap.get? a=none)→Q (.ref I) { s with heap:=h',toks:=tk }
theorem Da(X:EnvOk prog w sc env ρ g N h) {a:Addr}(q:ux sc env a):Live h a:=by
  rcases q with rfl | ⟨x,k,hk,hc,e⟩
  · obtain ⟨m,⟨o,_,_,ho,_⟩,_⟩:=X.loc
    exact ⟨o,ho⟩
  · obtain ⟨c,o,h1,⟨oc,h2,_⟩,_⟩:=X.cel x k hk hc
    rw [h1] at e
    cases e
    exact ⟨oc,h2⟩
theorem Mv(O:Ok prog w hb g σ h) (X:EnvOk prog w sc env ρ g σ.next h) (hS:∀a,S a→h.get? a=none∧Live h' a):Hid S g σ.next h' sc env:=fun a ha=>by
  obtain ⟨a1,a2⟩:=hS a ha
  refine ⟨a2,nn O a1,qi O a1,fun q=>?_⟩
  obtain ⟨o,e⟩:=Da X q
  rw [e] at a1;cases a1
theorem zcz{v:Mine.V}{u:Value}{it:It}(O:Ok prog w hb g σ s.heap) (X:EnvOk prog w sc env ρ g σ.next s.heap) (e:f9 σ v=some it) (r:Rl prog w g σ.next v u) (Q:Value→Shared→Prop)
    (hQ:Nx prog w hb sc env g σ s σ it Q):wpAny (model prog w) A (pyIter u) Q E s:=by
  have fr:s.heap.get? s.heap.objs.size=none:=em (To _)
  have go:∀{o:Obj},o.isFreed=false→ItAt prog w g σ.next (s.heap.push o) s.heap.objs.size it→Q (.ref s.heap.objs.size) { s with heap:=s.heap.push o }:=fun {o} hf hi=>
    hQ s.heap.objs.size g _ s.toks (fun a=>a=s.heap.objs.size) (Ext.grow (ig s.heap o)) (O.grow (ig s.heap o)) (.inl hi) rfl (Mv O X fun a ha=>by subst ha;exact ⟨fr,⟨o,Tv _ hf⟩⟩) fun a ha=>by subst ha;exact fr
  revert e r
  refine @Mine.V.casesOn (fun v=>f9 σ v=some it→Rl prog w g σ.next v u→wpAny (model prog w) A (pyIter u) Q E s) v aa (fun J=>aa) (fun J=>aa) (fun J=>aa) (fun xs e r=>?_) (fun xs e r=>?_) (fun J J=>aa) (fun J J J=>aa) (fun lo hi e r=>bc e fun hs e=>?_) (fun n e r=>ad e fun xs q e=>?_) (fun J=>aa)
  · rw [← br e] at go
    obtain ⟨a,vs,rfl,⟨c,h1⟩,h2⟩:=r
    exact wpAny_pyIter_tuple (⟨_,O.sub _ _ h1,rfl,c,rfl⟩:s.heap.IsTuple a vs.toArray) (go rfl (.inl ⟨a,vs,0,⟨c,h1⟩,⟨_,Tv _ rfl,rfl,rfl⟩,h2⟩))
  · rw [← br e] at go
    obtain ⟨a,vs,rfl,⟨c,h1⟩,h2⟩:=r
    exact wpAny_pyIter_list (⟨_,O.sub _ _ h1,rfl,c,rfl⟩:s.heap.IsList a vs.toArray) (go rfl (.inr (.inl ⟨a,vs,0,⟨c,h1⟩,⟨_,Tv _ rfl,rfl,rfl⟩,h2.up⟩)))
  · rw [← br e] at go
    refine b7 hs fun s1 s2=>?_
    have s1:=wg s1
    have s2:=wg s2
    obtain ⟨a,rfl,t,u',v',h1⟩:=r
    refine wpAny_pyIter_range (O.sub _ _ h1) (small_one (by exact Ra ‹_› (by decide)) (by exact Q0 ‹_› (by decide)) (by exact Ra ‹_› (by decide)) (by exact Q0 ‹_› (by decide))) (go rfl (.inr (.inr ⟨lo,_,Tv _ rfl,?_⟩)))
    have:(Builtin.Range.rangeSize lo hi 1).toNat=(hi-lo).toNat:=by
      unfold Builtin.Range.rangeSize
      simp only [show (1:Int) > 0 by decide,if_true]
      split
      · rw [Int.ediv_one];lia
      · exact ztr ‹_›
    rw [this]
  · rw [← br e] at go
    obtain ⟨hn,rfl⟩:=r
    obtain ⟨_,vs,⟨c,h1⟩,h2,_⟩:=O.obj _ _ (uv q)
    exact wpAny_pyIter_list (⟨_,h1,rfl,c,rfl⟩:s.heap.IsList (g.mu n) vs.toArray) (go rfl ⟨hn,⟨_,Tv _ rfl,rfl,rfl⟩⟩)
theorem Dm (Z:Wld prog w P hb K) (he:dy prog w P hb n) {ex:Expr}{it:It}(e:gm P (run P n) sc ex ρ σ=some (it,σ')) (R:Room A n) (X:EnvOk prog w sc env ρ g σ.next s.heap) (O:Ok prog w hb g σ s.heap) (Q:Value→Shared→Prop)
    (hQ:Nx prog w hb sc env g σ s σ' it Q):wpAny (model prog w) A (eval ex env) (fun x s₁=>wpAny (model prog w) A (pyIter x) Q E s₁) E s:=by
  refine zmc e (fun v q e1 e2=>?_) fun x y a σ1 q e1 e2 e3 hi=>?_
  · refine he _ _ _ _ _ _ _ _ _ _ e1 R X O _ _ fun u g₁ h₁ tk₁ x₁ O₁ r₁=>?_
    refine zcz (s:={ s with heap:=h₁,toks:=tk₁ }) O₁ (X.ext x₁) e2 r₁ Q fun I g₂ h₂ tk₂ S x₂ O₂ T hI H hf=>?_
    refine hQ I g₂ h₂ tk₂ S (x₁.trans x₂) O₂ T hI H fun a ha=>?_
    cases q:s.heap.get? a with
    | none=>rfl
    | some o=>
      obtain ⟨o',eo⟩:=x₁.live a o q
      have:=hf a ha
      rw [show ({ s with heap:=h₁,toks:=tk₁ }:Shared).heap=h₁ from rfl,eo] at this;cases this
  · subst hi
    obtain ⟨fp,pos,hex,c1,hk,hg⟩:=zih q
    subst hex
    rw [arm_eval_Call_Name']
    refine Y3 (Co (V:=.val (.type "zip")) Z.wd X O hk (.inr ⟨hg,by kernel_rfl⟩) _ _ fun u g₁ h₁ tk₁ x₁ O₁ r₁=>?_)
    obtain rfl:u = .type "zip":=r₁
    have two:Does prog w hb A ak g₁ σ { s with heap:=h₁,toks:=tk₁ } (spliced (backTo pos (starEach [x,y] env))) σ' (fun g' J vs=>RlL prog w g' σ'.next [a,.tup []] vs):=fun Q' E' hQ'=>by
      rw [(uo env pos c1).1]
      refine spliced_cons (he _ _ _ _ _ _ _ _ { s with heap:=h₁,toks:=tk₁ } _ e1 R (X.ext x₁) O₁ _ _ fun u g₂ h₂ tk₂ x₂ O₂ r₂=>?_)
      refine spliced_cons (he _ _ _ _ _ _ _ _ { s with heap:=h₂,toks:=tk₂ } _ e2 R ((X.ext x₁).ext x₂) O₂ _ _ fun v g₃ h₃ tk₃ x₃ O₃ r₃=>?_)
      exact spliced_nil (hQ' _ _ _ _ (x₂.trans x₃) O₃ (.cons (r₂.ext x₃) (.cons r₃ .nil)))
    refine callWith_of (P:=fun J=>True) (by rw [(uo env pos c1).2.1];rfl) (fun h J=>y7 (fun a e=>by cases e) h) (Il c1 (two _ _ fun vs g₂ h₂ tk₂ x₂ O₂ r₂=>⟨trivial,?_⟩))
    obtain ⟨u,r',rfl,ra,rb⟩:=r₂
    obtain ⟨v,r'',rfl,rb,rc⟩:=rb
    obtain rfl:r''=[]:=rc
    obtain ⟨t2,vs2,rfl,⟨c2,ht2⟩,hv2⟩:=rb
    obtain rfl:vs2=[]:=hv2
    have ht2':h₂.IsTuple t2 (Vt []):=⟨_,O₂.sub _ _ ht2,rfl,c2,rfl⟩
    have x12:=x₁.trans x₂
    have X₂:=X.ext x12
    obtain ⟨l1,us,rfl,hc,hl⟩:=Ag O₂ e3 ra
    obtain rfl:us=[]:=hl
    have fin:∀(T:String),((T = "list_iterator"∧h₂.IsList l1 (Vt []))∨(T = "tuple_iterator"∧h₂.IsTuple l1 (Vt [])))→wpAny (model prog w) A (pyIter (.ref (zh4 h₂ T l1 t2).objs.size)) Q E { s with heap:=zh5 h₂ T l1 t2,toks:=tk₂ }:=fun T hT=>by
      obtain ⟨z1,z2,z3,z4,z5,z6⟩:=zdc (T:=T) (a:=l1) (b:=t2) h₂
      rw [z6]
      refine wpAny_pyIter_zip z1 ?_
      have ll:∀{o:Obj},h₂.get? l1=some o→l1≠h₂.objs.size+4:=fun q c=>Vk _ (Tn (U3 q) (by rw [c];exact Uf _ _))
      have fr:∀a,(a=h₂.objs.size+4∨a=h₂.objs.size+3∨a=h₂.objs.size)→h₂.get? a=none:=fun a ha=>by
        rcases ha with rfl | rfl | rfl
        · exact em (Uf _ _)
        · exact em (Uf _ _)
        · exact em (To _)
      refine hQ (h₂.objs.size+4) g₂ _ tk₂ (fun a=>a=h₂.objs.size+4∨a=h₂.objs.size+3∨a=h₂.objs.size) (x12.trans (Ext.grow z5)) (O₂.grow z5) (.inr ⟨rfl,h₂.objs.size+2,h₂.objs.size+3,h₂.objs.size,h₂.objs.size+1,.none,.none,z1,z2,z3,Uz (Xo (by decide)),.inr (.inl rfl),.inr (.inr rfl),?_⟩) (.inl rfl)
        (Mv O₂ X₂ fun a ha=>⟨fr a ha,?_⟩) fun a ha=>?_
      · rcases hT with ⟨rfl,⟨o,q1,q2⟩⟩ | ⟨rfl,⟨o,q1,q2⟩⟩
        · exact .inr ⟨l1,0,_,⟨_,z4,rfl,rfl⟩,⟨o,z5 _ _ q1,q2⟩,rfl,ll q1⟩
        · exact .inl ⟨l1,0,_,⟨_,z4,rfl,rfl⟩,⟨o,z5 _ _ q1,q2⟩,rfl,ll q1⟩
      · rcases ha with rfl | rfl | rfl
        · exact ⟨_,z1⟩
        · exact ⟨_,z3⟩
        · exact ⟨_,z4⟩
      · cases q:s.heap.get? a with
        | none=>rfl
        | some o=>
          obtain ⟨o',eo⟩:=x12.live a o q
          rw [fr a ha] at eo;cases eo
    rcases hc with ⟨_,ht⟩ | hl
    · refine callType_new PySem.F.called_zip (by decide) (PySem.F.typeCall_zip_2 _ _) (PySem.F.newCall_zip_2 _ _) (fun obj=>PySem.F.args_object_init_3 obj _ _) PySem.F.entry_zip_new (zav l1 t2 _ _) ⟨ht,ht2',⟨_,Tv _ rfl,rfl⟩,fin _ (.inr ⟨rfl,ht⟩)⟩
    · refine callType_new PySem.F.called_zip (by decide) (PySem.F.typeCall_zip_2 _ _) (PySem.F.newCall_zip_2 _ _) (fun obj=>PySem.F.args_object_init_3 obj _ _) PySem.F.entry_zip_new (zaz l1 t2 _ _) ⟨hl.isList fun J J e=>e,ht2',⟨_,Tv _ rfl,rfl⟩,fin _ (.inl ⟨rfl,hl.isList fun J J e=>e⟩)⟩
end
end
section
section
variable (prog:Program) (w:World) (P:PD) (hb:Heap)
def Gi (n:Nat):Prop:=∀(sc:Scope) (t:Expr) (b:List Stmt) (ρ:Loc) (σ:Sto) (f:Fl) (ρ':Loc) (σ':Sto) (A:Around) (g:Gh) (s:Shared) (env:Env),(run P n).wh sc t b ρ σ=some (f,ρ',σ')→Room A n→
  EnvOk prog w sc env ρ g σ.next s.heap→Ok prog w hb g σ s.heap→∀R':Result→Shared→Prop,(∀fl g' h' tk,Ext (Own sc env) g σ.next s.heap g' σ'.next h'→Ok prog w hb g' σ' h'→EnvOk prog w sc env ρ' g' σ'.next h'→ui prog w g' σ'.next f fl→R' (.ok fl) { s with heap:=h',toks:=tk })→
  codeAny (model prog w) A (.whileLoop t b [] env) R' s
def Ge (n:Nat):Prop:=∀(sc:Scope) (t:Expr) (it:It) (b:List Stmt) (ρ:Loc) (σ:Sto) (f:Fl) (ρ':Loc) (σ':Sto) (A:Around) (g:Gh) (s:Shared) (env:Env) (I:Addr) (S:Addr→Prop),(run P n).fo sc t it b ρ σ=some (f,ρ',σ')→Room A n→
  EnvOk prog w sc env ρ g σ.next s.heap→Ok prog w hb g σ s.heap→It0 prog w S g σ.next s.heap I it→S I→Hid S g σ.next s.heap sc env→
  ∀R':Result→Shared→Prop,(∀fl g' h' tk,Ext (fun a=>Own sc env a∨S a) g σ.next s.heap g' σ'.next h'→Ok prog w hb g' σ' h'→EnvOk prog w sc env ρ' g' σ'.next h'→ui prog w g' σ'.next f fl→R' (.ok fl) { s with heap:=h',toks:=tk })→
  codeAny (model prog w) A (.forLoop t (.ref I) b [] env) R' s
end
section
variable {V:V}{S:Addr→Prop}{E:Value→Shared→Prop}
theorem zqy(ht:r9 prog w P hb n) (hx:vi prog w P hb n) (hw:Gi prog w P hb n):Gi prog w P hb (n+1):=by
  intro sc t b ρ σ f ρ' σ' A g s env e R X O R' hQ
  have R:=R.lt (T3 n)
  refine codeAny_of_tree ?_
  rw [Around.under_of_weight (A:=A) (c:=.whileLoop t b [] env) rfl]
  show wpAny _ A ((whileTurn t b [] env).onRaise (fun x=>do noteFrame x env;theTreesLotGoes x)) _ _ s
  refine wpAny_noted ?_
  unfold whileTurn
  refine aw (x:=(run P n).tr sc t ρ σ) e fun c σ1 e1 e=>Y3 (ht _ _ _ _ _ _ _ _ _ _ e1 R X O _ _ fun u g₁ h₁ tk₁ x₁ O₁ r₁=>?_)
  subst r₁
  cases u with
  | false=>exact jv e fun h1 h2 h3=>by subst h1 h2 h3;exact Y3 (Y4 (Y4 (hQ _ g₁ h₁ tk₁ (x₁.weak fun J q=>q.elim) O₁ (X.ext x₁) rfl)))
  | true=>
    refine qc e fun fl0 ρ2 σ2 e2 e=>Y3 (hx _ _ _ _ _ _ _ _ _ { s with heap:=h₁,toks:=tk₁ } _ e2 R (X.ext x₁) O₁ _ _ fun fl g₂ h₂ tk₂ x₂ O₂ r₂=>?_)
    have x12:=Ext.trans (x₁.weak (Wr':=Own sc env) fun J q=>q.elim) x₂
    obtain ⟨X₂,r₂⟩:=r₂
    cases fl0 with
    | next=>subst r₂;exact Y4 ⟨rfl,hw _ _ _ _ _ _ _ _ _ _ { s with heap:=h₂,toks:=tk₂ } _ e R X₂ O₂ _ fun fl g₃ h₃ tk₃ x₃ O₃ X₃ r₃=>hQ fl g₃ h₃ tk₃ (x12.trans x₃) O₃ X₃ r₃⟩
    | cont=>subst r₂;exact Y4 ⟨rfl,hw _ _ _ _ _ _ _ _ _ _ { s with heap:=h₂,toks:=tk₂ } _ e R X₂ O₂ _ fun fl g₃ h₃ tk₃ x₃ O₃ X₃ r₃=>hQ fl g₃ h₃ tk₃ (x12.trans x₃) O₃ X₃ r₃⟩
    | brk=>subst r₂;exact jv e fun h1 h2 h3=>by subst h1 h2 h3;exact Y4 (hQ _ g₂ h₂ tk₂ x12 O₂ X₂ rfl)
    | ret v=>
      obtain ⟨u,rfl,ru⟩:=r₂
      exact jv e fun h1 h2 h3=>by subst h1 h2 h3;exact Y4 (hQ _ g₂ h₂ tk₂ x12 O₂ X₂ ⟨u,rfl,ru⟩)
theorem Hid.ext'{Wr:Addr→Prop}(H:Hid S g N h sc env) (x:Ext Wr g N h g' N' h'):Hid S g' N' h' sc env:=H.ext x
theorem zg {target:Expr}{I:Addr}{o:Obj}{T:String}{v:Value}{Q':Unit→Shared→Prop}(ho:s.heap.get? I=some o) (hT:o.cls = .type T)
    (hn:["enumerate","zip","dict_itemiterator","dict_reverseitemiterator","odict_iterator","itertools.zip_longest","itertools.pairwise"].contains T=false) (h:Q' () s):wpAny (model prog w) A (letOwnedTupleGo target (.ref I) v) Q' E s:=by
  unfold letOwnedTupleGo
  cases target <;> first
    | exact Y4 h
    | (cases v <;> first
        | exact Y4 h
        | (refine Y3 (wpAny_load ho ?_)
           rw [hT]
           cases o.data <;> first
             | exact Y4 h
             | (simp only [hn,U6,Ut,if_false];exact Y4 h)))
theorem K2{target:Expr}{I:Addr}{it:It}{v:Value}{Q':Unit→Shared→Prop}(T:ItAt prog w g N s.heap I it) (h:Q' () s):wpAny (model prog w) A (letOwnedTupleGo target (.ref I) v) Q' E s:=by
  cases it with
  | cur n i=>obtain ⟨_,o,ho,hc,_⟩:=T;exact zg ho hc (by decide) h
  | items xs=>
    rcases T with ⟨t,vs,i,_,⟨o,ho,hc,_⟩,_⟩ | ⟨l,vs,i,_,⟨o,ho,hc,_⟩,_⟩ | ⟨lo,left,h1,_⟩
    · exact zg ho hc (by decide) h
    · exact zg ho hc (by decide) h
    · exact zg h1 rfl (by decide) h
theorem zo4(ha:Ap prog w P hb n) (hx:vi prog w P hb n) (hf:Ge prog w P hb n):Ge prog w P hb (n+1):=by
  intro sc t it b ρ σ f ρ' σ' A g s env I S e R X O T hI H R' hQ
  have R:=R.lt (T3 n)
  refine codeAny_of_tree ?_
  rw [Around.under_of_weight (A:=A) (c:=.forLoop t (.ref I) b [] env) rfl]
  show wpAny _ A ((forTurn t (.ref I) b [] env).onRaise (fun x=>do noteFrame x env;theTreesLotGoes x)) _ _ s
  refine wpAny_noted ?_
  unfold forTurn
  have hS:∀a,S a→Live s.heap a:=fun a q=>(H a q).1
  refine ad (x:=gq σ it) e fun p0 e1 e=>Y3 (Y6 ?_)
  rcases p0 with _ | ⟨v,it'⟩
  · refine Y3 (wpAny_onRaise (Ix R.handled O T hI hS e1 fun h' hb' hl=>Y4 ⟨rfl,codeAny_block ?_⟩))
    have x:Ext S g σ.next s.heap g σ.next h':=Ext.bar hb' hl
    exact jv e fun h1 h2 h3=>by subst h1 h2 h3;exact Y4 (hQ _ g h' s.toks (x.weak fun J q=>.inr q) (O.bar H hb') (X.bar H hb') rfl)
  · refine Y3 (wpAny_onRaise (Im O T hI hS e1 fun u h₁ tk₁ hb₁ hl₁ T₁ r₁=>?_))
    have x₁:Ext S g σ.next s.heap g σ.next h₁:=Ext.bar hb₁ hl₁
    have H₁:Hid S g σ.next h₁ sc env:=H.bar hb₁ hl₁
    refine Y3 (K2 (s:={ s with heap:=h₁,toks:=tk₁ }) T₁ ?_)
    refine aw (x:=(run P n).asg sc t v ρ σ) e fun ρ1 σ1 e2 e=>qc e fun fl0 ρ2 σ2 e3 e=>Y3 (ha _ _ _ _ _ _ _ _ _ _ { s with heap:=h₁,toks:=tk₁ } _ e2 R (X.bar H hb₁) (O.bar H hb₁) r₁ _ _ fun J g₂ h₂ tk₂ x₂ O₂ X₂=>?_)
    have nS:∀a,S a→¬ Own sc env a:=fun a ha' q=>(H a ha').2.2.2 q.addr
    have T₂:ItAt prog w g₂ σ1.next h₂ I it':=T₁.ext x₂ (H₁ I hI).2.2.1 (nS I hI)
    have H₂:=H₁.ext' x₂
    refine Y3 (hx _ _ _ _ _ _ _ _ _ { s with heap:=h₂,toks:=tk₂ } _ e3 R X₂ O₂ _ _ fun fl g₃ h₃ tk₃ x₃ O₃ r₃=>?_)
    have x13:=(Ext.trans (x₁.weak (Wr':=fun a=>Own sc env a∨S a) fun J q=>.inr q) (x₂.weak fun J q=>.inl q)).trans (x₃.weak fun J q=>.inl q)
    have T₃:=T₂.ext x₃ (H₂ I hI).2.2.1 (nS I hI)
    have H₃:=H₂.ext' x₃
    obtain ⟨X₃,r₃⟩:=r₃
    clear x₁ H₁ T₁ X₂ O₂ T₂ H₂ x₂ x₃ nS e1 e2 e3 r₁ hS hb₁ hl₁ T H X O
    cases fl0 with
    | next=>subst r₃;exact Y4 ⟨rfl,hf _ _ _ _ _ _ _ _ _ _ _ { s with heap:=h₃,toks:=tk₃ } _ I S e R X₃ O₃ (.inl T₃) hI H₃ _ fun fl g₄ h₄ tk₄ x₄ O₄ X₄ r₄=>hQ fl g₄ h₄ tk₄ (x13.trans x₄) O₄ X₄ r₄⟩
    | cont=>subst r₃;exact Y4 ⟨rfl,hf _ _ _ _ _ _ _ _ _ _ _ { s with heap:=h₃,toks:=tk₃ } _ I S e R X₃ O₃ (.inl T₃) hI H₃ _ fun fl g₄ h₄ tk₄ x₄ O₄ X₄ r₄=>hQ fl g₄ h₄ tk₄ (x13.trans x₄) O₄ X₄ r₄⟩
    | brk=>subst r₃;exact jv e fun h1 h2 h3=>by subst h1 h2 h3;exact Y4 (hQ _ g₃ h₃ tk₃ x13 O₃ X₃ rfl)
    | ret v=>
      obtain ⟨u,rfl,ru⟩:=r₃
      exact jv e fun h1 h2 h3=>by subst h1 h2 h3;exact Y4 (hQ _ g₃ h₃ tk₃ x13 O₃ X₃ ⟨u,rfl,ru⟩)
end
end
section
section
variable (prog:Program) (w:World) (P:PD) (hb:Heap)
def xz (n:Nat):Prop:=∀(sc:Scope) (es:List Expr) (ρ:Loc) (σ:Sto) (b:Bool) (σ':Sto) (A:Around) (g:Gh) (s:Shared) (env:Env),(run P n).trs sc .And es ρ σ=some (b,σ')→Room A n→
  EnvOk prog w sc env ρ g σ.next s.heap→Ok prog w hb g σ s.heap→Does prog w hb A ak g σ s (forIn es true fun c r=>if r=true then do let ok ← isTrue c env (eval c env);pure (ForInStep.yield ok) else pure (ForInStep.yield r)) σ' (fun J J c=>c=b)
end
section
variable {V:V}{S:Addr→Prop}{E:Value→Shared→Prop}
theorem zel(R:A.handled=none):A.mark none=A:=by
  obtain ⟨hd,d,f,gs,u⟩:=A
  subst R
  rfl
theorem Iv{M:Model}{Q:Bool→Shared→Prop}(f:Expr→Sem Bool):∀(es:List Expr),Q false s→wpAny M A (forIn es false fun c r=>if r=true then do let ok ← f c;pure (ForInStep.yield ok) else pure (ForInStep.yield r)) Q E s
  | [],h=>by rw [Vx];exact Y4 h
  | c::es,h=>by
    rw [Vz]
    exact Y3 (Y4 (Iv f es h))
theorem zmi (he:r9 prog w P hb n) (hs:xz prog w P hb n):xz prog w P hb (n+1):=fun sc es ρ σ b σ' A g s env e R X O=>by
  rcases es with _ | ⟨x,es⟩
  · exact aa e
  · refine aw (x:=(run P n).tr sc x ρ σ) e fun c σ1 e1 e=>fun Q E hQ=>jc (Vz ..) (Y3 (Y3 (he _ _ _ _ _ _ _ _ _ _ e1 (R.lt (T3 n)) X O _ _ fun u g₁ h₁ tk₁ x₁ O₁ r₁=>Y4 ?_)))
    subst r₁
    rcases es with _ | ⟨y,es⟩
    · exact bf e fun h1 h2=>jc (Vx ..) (Y4 (hQ _ _ _ _ (h2▸x₁) (h2▸O₁) h1))
    · refine Gq e (fun h1 h2 h3=>?_) fun h1 e=>?_
      · obtain rfl:u=false:=by cases u <;> first | rfl | cases h1
        exact Iv _ _ (hQ _ _ _ _ (h3▸x₁) (h3▸O₁) h2)
      · obtain rfl:u=true:=by cases u <;> first | rfl | cases h1
        exact hs _ _ _ _ _ _ A g₁ { s with heap:=h₁,toks:=tk₁ } env e (R.lt (T3 n)) (X.ext x₁) O₁ _ _ fun us g₂ h₂ tk₂ x₂ O₂ r₂=>hQ _ _ _ _ (x₁.trans x₂) O₂ r₂
theorem za4{I:Addr}{it:It}{Q:Value→Shared→Prop}(T:It0 prog w S g N s.heap I it) (h:Q (.ref I) s):wpAny (model prog w) A (pyIter (.ref I)) Q E s:=by
  rcases T with T | ⟨_,TI,TO,i1,i2,a,b,hz,_⟩
  · cases it with
    | cur n i=>exact wpAny_pyIter_listiter T.2 h
    | items xs=>
      rcases T with ⟨t,vs,i,_,hT,_⟩ | ⟨l,vs,i,_,hT,_⟩ | ⟨lo,left,hT,_⟩
      · exact wpAny_pyIter_tupleiter hT h
      · exact wpAny_pyIter_listiter hT h
      · exact wpAny_pyIter_rangeiter hT h
  · exact wpAny_pyIter_zip hz h
theorem Ih{R:Result→Shared→Prop}{elt:Expr}{gens:List Comprehension}{g0:Comprehension}{scope:Scope}{pos:Pos}{d:Nat}{I:Addr}{acc:Value}{it:It}(T:It0 prog w S g N s.heap I it) (hg:gens[d]?=some g0) (ha:g0.is_async=0)
    (h:codeAny (model prog w) A (.compLoop (.ListComp elt gens scope pos) d (.ref I) acc env) R s):codeAny (model prog w) A (.compStart (.ListComp elt gens scope pos) d (.ref I) acc env) R s:=by
  refine codeAny_of_tree ?_
  show wpAny _ _ ((compStart (.ListComp elt gens scope pos) d (.ref I) acc env).onRaise (fun x=>do noteFrame x env;standAt theWindowsPlace)) _ _ s
  refine wpAny_notedAt ?_
  unfold compStart
  have hc:clausesOf (.ListComp elt gens scope pos)=gens:=rfl
  rw [hc,hg]
  have h0:((some g0).elim false fun x=>x.is_async != 0)=false:=by show (g0.is_async != 0)=false;rw [ha];rfl
  rw [if_neg (by rw [h0];exact Ts)]
  show wpAny _ _ (ask >>= _) _ _ s
  refine Y3 (wpAny_askSetting (wpAny_ite ?_))
  split
  · first
      | exact Y3 (Y4 (Y4 (And.intro rfl h)))
      | exact Y4 (And.intro rfl h)
  · refine Y3 (wpAny_rule ?_)
    show wpAny _ _ (standAt _ >>= _) _ _ s
    exact Y3 (Y6 (Y3 (za4 T (Y4 (And.intro rfl h)))))
end
end
section
def AccAt (h:Heap) (D:Addr) (vs:List Value):Prop:=∃c,h.get? D=some { cls:=.type "list",data:=.seq vs.toArray c }
def jt (S:Addr→Prop) (D:Addr) (a:Addr):Prop:=S a∨a=D
section
variable (prog:Program) (w:World) (P:PD) (hb:Heap)
def si (n:Nat):Prop:=∀(sc:Scope) (t:Expr) (ifs:List Expr) (gs:List Comprehension) (elt:Expr) (it:It) (ρ:Loc) (σ:Sto) (acc acc':List V) (ρ':Loc) (σ':Sto) (A:Around) (g:Gh) (s:Shared) (env:Env) (I:Addr) (S:Addr→Prop) (D:Addr) (vs:List Value)
  (gens:List Comprehension) (d:Nat) (iter0:Expr) (csc:Scope) (pos:Pos),(run P n).co sc t ifs gs elt it ρ σ acc=some (acc',ρ',σ')→Room A n→gens.drop d=⟨t,iter0,ifs,0⟩::gs→
  EnvOk prog w sc env ρ g σ.next s.heap→Ok prog w hb g σ s.heap→It0 prog w S g σ.next s.heap I it→S I→¬ S D→Hid (jt S D) g σ.next s.heap sc env→AccAt s.heap D vs→RlL prog w g σ.next acc vs→
  ∀R':Result→Shared→Prop,(∀g' h' tk vs',Ext (fun a=>Own sc env a∨jt S D a) g σ.next s.heap g' σ'.next h'→Ok prog w hb g' σ' h'→EnvOk prog w sc env ρ' g' σ'.next h'→AccAt h' D vs'→RlL prog w g' σ'.next acc' vs'→Hid (jt S D) g' σ'.next h' sc env→R' (.ok .next) { s with heap:=h',toks:=tk })→
  codeAny (model prog w) A (.compLoop (.ListComp elt gens csc pos) d (.ref I) (.ref D) env) R' s
end
section
variable {V:V}{S:Addr→Prop}{E:Value→Shared→Prop}
theorem zeg{D:Addr}{vs:List Value}{v:Value}{Q:Value→Shared→Prop}(hD:AccAt s.heap D vs) (hz:vs.length≤4096)
    (hQ:∀h',AccAt h' D (vs++[v])→Ve D s.heap h'→Q .none { s with heap:=h' }):wpAny (model prog w) A (call (.builtin "list.append") [.ref D,v]) Q E s:=by
  obtain ⟨c,h1⟩:=hD
  refine call_meets PySem.F.slot_list_append ⟨_,h1,rfl⟩ PySem.F.entry_list_append (PySem.F.args_list_append_2 _ _) (PySem.list_append D vs.toArray c v (by simp only [Uo,sizeLine_eq];exact Th ‹_› (by decide))) ⟨h1,?_⟩
  exact hQ _ ⟨c+1,(Un _ h1 (by simp [Obj.mapSeq,Obj.isFreed])).trans (by simp [Obj.mapSeq])⟩ (Ve.update ..)
theorem Hid.sub{S':Addr→Prop}(H:Hid S' g N h sc env) (k:∀a,S a→S' a):Hid S g N h sc env:=fun a ha=>H a (k a ha)
theorem AccAt.ext{Wr:Addr→Prop}{D:Addr}{vs:List Value}(T:AccAt h D vs) (x:Ext Wr g N h g' N' h') (hm:¬ ew g N D) (hw:¬ Wr D):AccAt h' D vs:=let ⟨c,e⟩:=T;⟨c,x.keep _ _ e hm hw⟩
theorem Cj{ex:Expr}{r:It×Sto}(e:gm P (run P n) sc ex ρ σ=some r) (x:Value):foldedSetIterable ex env x=pure x:=by
  cases ex <;> first | rfl | (cases n <;> cases e)
theorem zdn{β:Type}{M:Model}{ex:Expr}{k:Value→Sem β}{Q':β→Shared→Prop}(hf:∀x,foldedSetIterable ex env x=pure x)
    (h:wpAny M A (eval ex env) (fun x s₁=>wpAny M A (pyIter x) (fun it s₂=>wpAny M A (k it) Q' E s₂) E s₁) E s) :
    wpAny M A (do let x ← eval ex env;standAt ex.pos;let x ← foldedSetIterable ex env x;let it ← holding [x] (pyIter x);k it) Q' E s:=by
  refine Y3 (wpAny_mono h (fun x s₁ h₁=>?_) fun J J e=>e)
  exact Y3 (Y6 (Y3 (wpAny_of_eq (hf x) (Y3 (Y5 h₁)))))
structure CoAt (prog:Program) (w:World) (hb:Heap) (g:Gh) (σ:Sto) (h:Heap) (sc:Scope) (env:Env) (ρ:Loc) (S:Addr→Prop) (I D:Addr) (it:It) (acc:List Mine.V) (vs:List Value):Prop where
  X:EnvOk prog w sc env ρ g σ.next h
  O:Ok prog w hb g σ h
  T:ItAt prog w g σ.next h I it
  H:Hid (jt S D) g σ.next h sc env
  D:AccAt h D vs
  A:RlL prog w g σ.next acc vs
theorem CoAt.ext{acc:List Mine.V}{ρ:Loc}{I D:Addr}{it:It}{vs:List Value}(C:CoAt prog w hb g σ h sc env ρ S I D it acc vs) (x:Ext ak g σ.next h g' σ'.next h') (O:Ok prog w hb g' σ' h') (hI:S I):CoAt prog w hb g' σ' h' sc env ρ S I D it acc vs:=
  ⟨C.X.ext x,O,C.T.ext x (C.H I (.inl hI)).2.2.1 id,C.H.ext x,C.D.ext x (C.H D (.inr rfl)).2.2.1 id,C.A.ext x⟩
section
variable {t elt iter0:Expr}{ifs:List Expr}{gs gens:List Comprehension}{it it':It}{ρ':Loc}{acc acc':List Mine.V}{I D:Addr}{vs:List Value}{d:Nat}{pos:Pos}{R':Result→Shared→Prop}{Q:Fin→Shared→Prop}
def CoEnd (prog:Program) (w:World) (hb:Heap) (g:Gh) (σ σ':Sto) (h:Heap) (s:Shared) (sc:Scope) (env:Env) (ρ':Loc) (S:Addr→Prop) (D:Addr) (acc':List Mine.V) (R':Result→Shared→Prop):Prop:=
  ∀g' h' tk vs',Ext (fun a=>Own sc env a∨jt S D a) g σ.next h g' σ'.next h'→Ok prog w hb g' σ' h'→EnvOk prog w sc env ρ' g' σ'.next h'→AccAt h' D vs'→RlL prog w g' σ'.next acc' vs'→Hid (jt S D) g' σ'.next h' sc env→R' (.ok .next) { s with heap:=h',toks:=tk }
theorem CoEnd.mono(k:CoEnd prog w hb g σ σ' h s sc env ρ' S D acc' R') (x:Ext (fun a=>Own sc env a∨jt S D a) g σ.next h g₁ σ1.next h₀):CoEnd prog w hb g₁ σ1 σ' h₀ s sc env ρ' S D acc' R':=fun g' h' tk vs' y=>k g' h' tk vs' (x.trans y)
theorem Dn(hc:si prog w P hb n) (e:(run P n).co sc t ifs gs elt it ρ σ acc=some (acc',ρ',σ')) (R:Room A n) (hg:gens.drop d=⟨t,iter0,ifs,0⟩::gs) (C:CoAt prog w hb g σ h sc env ρ S I D it acc vs) (hI:S I) (hSD:¬ S D) (tk:Nat)
    (k:CoEnd prog w hb g σ σ' h s sc env ρ' S D acc' R'):codeAny (model prog w) A (.compLoop (.ListComp elt gens csc pos) d (.ref I) (.ref D) env) R' { s with heap:=h,toks:=tk }:=
  hc _ _ _ _ _ _ _ _ _ _ _ _ _ g { s with heap:=h,toks:=tk } env I S D vs gens d iter0 csc pos e R hg C.X C.O (.inl C.T) hI hSD C.H C.D C.A _ k
theorem zkl(he:dy prog w P hb n) (hc:si prog w P hb n) (e:Gl P (run P n) sc t ifs [] elt it ρ σ acc=some (acc',ρ',σ')) (R:Room A n) (hg:gens.drop d=[⟨t,iter0,ifs,0⟩]) (C:CoAt prog w hb g σ h sc env ρ S I D it acc vs) (hI:S I) (hSD:¬ S D) (tk:Nat)
    (k:CoEnd prog w hb g σ σ' h s sc env ρ' S D acc' R') (hQ:∀s',codeAny (model prog w) A (.compLoop (.ListComp elt gens csc pos) d (.ref I) (.ref D) env) R' s'→Q (.again (.compLoop (.ListComp elt gens csc pos) d (.ref I) (.ref D) env)) s') :
    wpAny (model prog w) A ((do let _ ← call (.builtin "list.append") [.ref D,← eval elt env]) >>= fun J=>again (.compLoop (.ListComp elt gens csc pos) d (.ref I) (.ref D) env)) Q E { s with heap:=h,toks:=tk }:=by
  refine aw (x:=(run P n).ev sc elt ρ σ) e fun x σ3 e4 e=>bc e fun hz e=>?_
  refine Y3 (Y3 (he _ _ _ _ _ _ _ _ { s with heap:=h,toks:=tk } _ e4 R C.X C.O _ _ fun y g₄ h₄ tk₄ x₄ O₄ r₄=>?_))
  have C₄:=C.ext x₄ O₄ hI
  refine Y3 (zeg (s:={ s with heap:=h₄,toks:=tk₄ }) C₄.D (C₄.A.length▸g9 hz) fun h₅ D₅ hs₅=>Y4 (Y4 (hQ _ ?_)))
  have HD:Hid (fun a=>a=D) g₄ σ3.next h₄ sc env:=C₄.H.sub fun a q=>.inr q
  have b₅:Bar (fun a=>a=D) h₄ h₅:=fun b o hb' q=>(hs₅.2 b hb').trans q
  have x₅:Ext (fun a=>a=D) g₄ σ3.next h₄ g₄ σ3.next h₅:=Ext.bar b₅ fun a q=>by
    obtain ⟨c,q2⟩:=D₅
    rw [show a=D from q]
    exact ⟨_,q2⟩
  exact Dn hc e R hg ⟨C₄.X.bar HD b₅,C₄.O.bar HD b₅,C₄.T.ext x₅ (C₄.H I (.inl hI)).2.2.1 fun q=>hSD ((show I=D from q)▸hI),C₄.H.ext x₅,D₅,C₄.A.append (.cons r₄ .nil)⟩ hI hSD tk₄ (k.mono ((x₄.weak fun J q=>q.elim).trans (x₅.weak fun a q=>.inr (.inr q))))
theorem zkd{t' iter':Expr}{ifs':List Expr}{gs':List Comprehension}(Z:Wld prog w P hb K) (he:dy prog w P hb n) (hc:si prog w P hb n) (e:Gl P (run P n) sc t ifs (⟨t',iter',ifs',0⟩::gs') elt it ρ σ acc=some (acc',ρ',σ')) (R:Room A n) (hg:gens.drop d=⟨t,iter0,ifs,0⟩::⟨t',iter',ifs',0⟩::gs') (C:CoAt prog w hb g σ h sc env ρ S I D it acc vs) (hI:S I) (hSD:¬ S D) (tk:Nat)
    (k:CoEnd prog w hb g σ σ' h s sc env ρ' S D acc' R') (hQ:∀s',codeAny (model prog w) A (.compLoop (.ListComp elt gens csc pos) d (.ref I) (.ref D) env) R' s'→Q (.again (.compLoop (.ListComp elt gens csc pos) d (.ref I) (.ref D) env)) s') :
    wpAny (model prog w) A (do
      let x ← eval iter' env
      standAt iter'.pos
      let x ← foldedSetIterable iter' env x
      let it ← holding [x] (pyIter x)
      let _ ← runOwn (.compStart (.ListComp elt gens csc pos) (d+1) it (.ref D) env) env
      again (.compLoop (.ListComp elt gens csc pos) d (.ref I) (.ref D) env)) Q E { s with heap:=h,toks:=tk }:=by
  refine aw (x:=if decide ((0:Int)=0)=true then gm P (run P n) sc iter' ρ σ else none) e fun it2 σ3 e4 e=>qc e fun acc2 ρ2 σ4 e5 e=>bc e4 fun J e4=>?_
  refine zdn (Cj e4) (Dm Z he (s:={ s with heap:=h,toks:=tk }) e4 R C.X C.O _ fun I2 g₄ h₄ tk₄ S2 x₄ O₄ T2 hI2 H2 hf2=>?_)
  refine Y3 (wpAny_runOwn ?_ (by intro q;cases q))
  rw [zel R.handled]
  have C₄:=C.ext x₄ O₄ hI
  have hgn:=(qj hg).2
  have fr:∀a o,h.get? a=some o→¬ S2 a:=fun a o ho q=>by
    have:=hf2 a q
    rw [show ({ s with heap:=h,toks:=tk }:Shared).heap=h from rfl,ho] at this;cases this
  have nS2:∀a,S2 a→¬ jt S D a:=fun a q c=>let ⟨o,ho⟩:=(C.H a c).1;fr a o ho q
  refine Ih T2 (qj hgn).1 rfl ?_
  refine hc _ _ _ _ _ _ _ _ _ _ _ _ _ g₄ { s with heap:=h₄,toks:=tk₄ } env I2 S2 D vs gens (d+1) iter' csc pos e5 R hgn C₄.X O₄ T2 hI2 (fun q=>nS2 D q (.inr rfl)) (fun a q=>q.elim (H2 a) fun c=>C₄.H a (.inr c)) C₄.D C₄.A _
    fun g₅ h₅ tk₅ vs' x₅ O₅ X₅ D₅ A₅ H₅=>Y4 (hQ _ ?_)
  have y:=Ext.trans (x₄.weak (Wr':=fun a=>Own sc env a∨jt S2 D a) fun J q=>q.elim) x₅
  have x35:Ext (fun a=>Own sc env a∨jt S D a) g σ.next h g₅ σ4.next h₅:=⟨y.I,y.new,y.mu,y.munew,y.next,fun a o q hm hw=>y.keep a o q hm fun c=>c.elim (fun c=>hw (.inl c)) fun c=>c.elim (fun c=>fr a o q c) fun c=>hw (.inr (.inr c)),y.live⟩
  have HS₅:Hid (jt S D) g₅ σ4.next h₅ sc env:=C₄.H.ext x₅
  exact Dn hc e R hg ⟨X₅,O₅,C₄.T.ext x₅ (C₄.H I (.inl hI)).2.2.1 fun c=>c.elim (fun c=>(C₄.H I (.inl hI)).2.2.2 c.addr) fun c=>c.elim (fun c=>nS2 I c (.inl hI)) fun c=>hSD ((show I=D from c)▸hI),HS₅,D₅,A₅⟩ hI hSD tk₅ (k.mono x35)
theorem zds {it:Value}(hgd:gens[d]?=some ⟨t,iter0,ifs,0⟩):∃F:Bool→Sem Fin,compTurn (.ListComp elt gens csc pos) d it (.ref D) env=(do
      standAt iter0.pos
      let x ← pyNext it
      match x with
      | none=>pure (.done .next)
      | some v=>do
        letOwnedTupleGo t it v
        assign t env v
        let ok ← forIn ifs true fun c r=>if r=true then do let ok ← isTrue c env (eval c env);pure (ForInStep.yield ok) else pure (ForInStep.yield r)
        F ok)∧F false=again (.compLoop (.ListComp elt gens csc pos) d it (.ref D) env)∧
      (gens[d+1]?=none→F true=((do let _ ← call (.builtin "list.append") [.ref D,← eval elt env]) >>= fun J=>again (.compLoop (.ListComp elt gens csc pos) d it (.ref D) env)))∧
      (∀t' iter' ifs',gens[d+1]?=some ⟨t',iter',ifs',0⟩→F true=(do
        let x ← eval iter' env
        standAt iter'.pos
        let x ← foldedSetIterable iter' env x
        let it2 ← holding [x] (pyIter x)
        let _ ← runOwn (.compStart (.ListComp elt gens csc pos) (d+1) it2 (.ref D) env) env
        again (.compLoop (.ListComp elt gens csc pos) d it (.ref D) env))):=by
  refine ⟨_,by unfold compTurn;dsimp only;rw [hgd];rfl,rfl,fun h=>?_,fun t' iter' ifs' h=>?_⟩
  · rw [h];rfl
  · rw [h];rfl
theorem zly(ht:xz prog w P hb n) {c:Bool}(e:yd (run P n) sc ifs ρ σ=some (c,σ')) (R:Room A n) (X:EnvOk prog w sc env ρ g σ.next s.heap) (O:Ok prog w hb g σ s.heap) :
    Does prog w hb A ak g σ s (forIn ifs true fun c r=>if r=true then do let ok ← isTrue c env (eval c env);pure (ForInStep.yield ok) else pure (ForInStep.yield r)) σ' (fun J J u=>u=c):=
  cq e (fun q e=>bf e fun q1 q2=>fun Q E hQ=>by
    rw [jh q]
    exact jc (Vx ..) (Y4 (hQ _ g s.heap s.toks (q2▸Ext.refl ..) (q2▸O) q1))) fun J e=>ht _ _ _ _ _ _ A g s env e R X O
theorem zn4 (Z:Wld prog w P hb K) (ha:Ap prog w P hb n) (he:dy prog w P hb n) (ht:xz prog w P hb n) (hc:si prog w P hb n):si prog w P hb (n+1):=by
  intro sc t ifs gs elt it ρ σ acc acc' ρ' σ' A g s env I S D vs gens d iter0 csc pos e R hg X O T hI hSD H hD hacc R' hQ
  have R:=R.lt (T3 n)
  have hS:∀a,S a→Live s.heap a:=fun a q=>(H a (.inl q)).1
  have HS:Hid S g σ.next s.heap sc env:=H.sub fun a q=>.inl q
  refine codeAny_of_tree ?_
  rw [Around.under_of_weight (A:=A) (c:=.compLoop (.ListComp elt gens csc pos) d (.ref I) (.ref D) env) rfl]
  show wpAny _ A ((compTurn (.ListComp elt gens csc pos) d (.ref I) (.ref D) env).onRaise (fun x=>do noteFrame x env;theTreesLotGoes x)) _ _ s
  refine wpAny_noted ?_
  obtain ⟨F,f0,f1,f2,f3⟩:=zds (elt:=elt) (csc:=csc) (pos:=pos) (env:=env) (D:=D) (it:=.ref I) (qj hg).1
  rw [f0]
  refine Y3 (Y6 ?_)
  refine ad (x:=gq σ it) e fun p0 e1 e=>?_
  rcases p0 with _ | ⟨v,it'⟩
  · refine jv e fun q1 q2 q3=>?_
    subst q1 q2 q3
    refine Y3 (Ix R.handled O T hI hS e1 fun h' hb' hl=>?_)
    have x:Ext S g σ.next s.heap g σ.next h':=Ext.bar hb' hl
    exact Y4 (hQ g h' s.toks vs (x.weak fun a q=>.inr (.inl q)) (O.bar HS hb') (X.bar HS hb') (let ⟨c,q⟩:=hD;⟨c,hb' D _ hSD q⟩) hacc (H.ext x))
  · refine Y3 (Im O T hI hS e1 fun u h₁ tk₁ hb₁ hl₁ T₁ r₁=>?_)
    have x₁:Ext S g σ.next s.heap g σ.next h₁:=Ext.bar hb₁ hl₁
    have H₁:Hid (jt S D) g σ.next h₁ sc env:=H.ext x₁
    refine Y3 (K2 (s:={ s with heap:=h₁,toks:=tk₁ }) T₁ ?_)
    refine aw (x:=(run P n).asg sc t v ρ σ) e fun ρ1 σ1 e2 e=>aw (x:=yd (run P n) sc ifs ρ1 σ1) e fun c σ2 e3 e=>?_
    refine Y3 (ha _ _ _ _ _ _ _ _ _ _ { s with heap:=h₁,toks:=tk₁ } _ e2 R (X.bar HS hb₁) (O.bar HS hb₁) r₁ _ _ fun J g₂ h₂ tk₂ x₂ O₂ X₂=>?_)
    have nW:∀a,jt S D a→¬ Own sc env a:=fun a q c=>(H a q).2.2.2 c.addr
    have D₁:AccAt h₁ D vs:=let ⟨c,q⟩:=hD;⟨c,hb₁ D _ hSD q⟩
    have x12:Ext (fun a=>Own sc env a∨jt S D a) g σ.next s.heap g₂ σ1.next h₂:=Ext.trans (x₁.weak fun a q=>.inr (.inl q)) (x₂.weak fun a q=>.inl q)
    have C₂:CoAt prog w hb g₂ σ1 h₂ sc env ρ1 S I D it' acc vs:=⟨X₂,O₂,T₁.ext x₂ (H₁ I (.inl hI)).2.2.1 (nW I (.inl hI)),H₁.ext x₂,D₁.ext x₂ (H₁ D (.inr rfl)).2.2.1 (nW D (.inr rfl)),hacc.ext x12⟩
    refine Y3 (zly ht (s:={ s with heap:=h₂,toks:=tk₂ }) e3 R X₂ O₂ _ _ fun u g₃ h₃ tk₃ x₃ O₃ q=>?_)
    have C₃:=C₂.ext x₃ O₃ hI
    have k:CoEnd prog w hb g₃ σ2 σ' h₃ s sc env ρ' S D acc' R':=CoEnd.mono hQ (x12.trans (x₃.weak fun J q=>q.elim))
    subst q
    cases u with
    | false=>
      rw [f1]
      exact Y4 ⟨rfl,Dn hc e R hg C₃ hI hSD tk₃ k⟩
    | true=>
      rcases gs with _ | ⟨⟨t',iter',ifs',as⟩,gs'⟩
      · rw [f2 (Dl (qj hg).2)]
        exact zkl he hc e R hg C₃ hI hSD tk₃ k fun s' q=>⟨rfl,q⟩
      · obtain rfl:as=0:=aw e fun J J h J=>bc h fun h J=>of_decide_eq_true h
        rw [f3 _ _ _ (qj (qj hg).2).1]
        exact zkd Z he hc e R hg C₃ hI hSD tk₃ k fun s' q=>⟨rfl,q⟩
end
end
end
theorem v6:∀(names:List (Str×NameKind)) (n:Nat) (acc:List (Str×Addr)),cellsFrom n names acc=cellsFrom n names []++acc
  | [],_,_=>rfl
  | (x,k)::r,n,acc=>by
    unfold cellsFrom
    split
    · rw [v6 r (n+1) ((x,n)::acc),v6 r (n+1) [(x,n)],We];rfl
    · exact v6 r n acc
theorem B3:∀(names:List (Str×NameKind)) (n:Nat) (x:Str) (c:Addr),(x,c)∈cellsFrom n names []→(x,NameKind.cell)∈names
  | [],_,_,_,h=>by cases h
  | (y, k)::r,n,x,c,h=>by
    unfold cellsFrom at h
    split at h
    · rename_i hk
      rw [v6] at h
      rcases List.mem_append.mp h with h | h
      · exact Ti _ (B3 r _ x c h)
      · rw [List.mem_singleton] at h
        cases h
        rw [beq_iff_eq.mp hk]
        exact Tj ..
    · exact Ti _ (B3 r n x c h)
def l7 (env:Env):List (Str×NameKind)→List (Str×Addr)→List (Str×Addr)
  | [],acc=>acc
  | (y,k)::r,acc=>if k == .free then l7 env r ((y,(env.cells.lookup y).getD 0)::acc) else l7 env r acc
theorem Cp{env:Env}(f:Str×NameKind→List (Str×Addr)→Sem (ForInStep (List (Str×Addr)))) (hf:∀name kind cs,f (name,kind) cs=if kind == .free then (do let a ← cellOf env name;pure (.yield ((name,a)::cs))) else pure (.yield cs)) :
    ∀(names:List (Str×NameKind)) (acc:List (Str×Addr)),(∀y,(y,NameKind.free)∈names→∃c,env.cells.lookup y=some c)→forIn names acc f=(pure (l7 env names acc):Sem _)
  | [],acc,_=>by rw [Vx];rfl
  | (y,k)::r,acc,h=>by
    rw [Vz,hf]
    unfold l7
    have h':∀z,(z,NameKind.free)∈r→∃c,env.cells.lookup z=some c:=fun z hz=>h z (Ti _ hz)
    by_cases hk:k == .free
    · rw [if_pos hk,if_pos hk]
      obtain ⟨c,hc⟩:=h y (by rw [beq_iff_eq.mp hk];exact Tj ..)
      have hcell:cellOf env y=pure c:=by unfold cellOf;rw [hc]
      rw [hcell,pure_bind,pure_bind,hc]
      exact Cp f hf r _ h'
    · rw [if_neg hk,if_neg hk,pure_bind]
      exact Cp f hf r _ h'
theorem zaw{env:Env}{scope:Scope}(h:∀y,(y,NameKind.free)∈scope.names→∃c,env.cells.lookup y=some c):closureFor scope env=pure (l7 env scope.names []):=by
  unfold closureFor
  show (forIn scope.names [] _ >>= fun cs=>pure cs)=_
  rw [Cp (env:=env) _ (fun name kind cs=>by cases hkc:kind == NameKind.free <;> simp [hkc]) _ _ h,pure_bind]
theorem B4 {env:Env}(x:Str):∀(names:List (Str×NameKind)) (acc:List (Str×Addr)),((x,NameKind.free)∈names∨acc.lookup x=some ((env.cells.lookup x).getD 0))→(∀c,acc.lookup x=some c→c=(env.cells.lookup x).getD 0)→
    (l7 env names acc).lookup x=some ((env.cells.lookup x).getD 0)
  | [],acc,h,_=>by
    rcases h with h | h
    · cases h
    · exact h
  | (y, k)::r,acc,h,hu=>by
    unfold l7
    by_cases hk:k == .free
    · rw [if_pos hk]
      have hy:∀c,((y,(env.cells.lookup y).getD 0)::acc).lookup x=some c→c=(env.cells.lookup x).getD 0:=fun c hc=>by
        rw [Um] at hc
        cases q:x == y with
        | true=>rw [q] at hc;cases hc;rw [beq_iff_eq.mp q]
        | false=>rw [q] at hc;exact hu c hc
      refine B4 x r _ ?_ hy
      rcases h with h | h
      · rcases Tz.mp h with c | c
        · cases c
          right
          rw [Um,beq_self_eq_true]
        · exact .inl c
      · right
        rw [Um]
        cases q:x == y with
        | true=>rw [beq_iff_eq.mp q]
        | false=>exact h
    · rw [if_neg hk]
      refine B4 x r acc ?_ hu
      rcases h with h | h
      · rcases Tz.mp h with c | c
        · cases c;exact absurd rfl hk
        · exact .inl c
      · exact .inr h
theorem Jl {env:Env}:∀(names:List (Str×NameKind)) (acc:List (Str×Addr)) (x:Str) (c:Addr),(x,c)∈l7 env names acc→(x,c)∈acc∨(x,NameKind.free)∈names
  | [],_,_,_,h=>.inl h
  | (y, k)::r,acc,x,c,h=>by
    unfold l7 at h
    split at h
    · rename_i hk
      rcases Jl r _ x c h with q | q
      · rcases Tz.mp q with q | q
        · cases q;right;rw [beq_iff_eq.mp hk];exact Tj ..
        · exact .inl q
      · exact .inr (Ti _ q)
    · rcases Jl r _ x c h with q | q
      · exact .inl q
      · exact .inr (Ti _ q)
theorem Ie {sc:Scope}:∀{names:List (Str×NameKind)},ze sc names=true→∀x k,(x,k)∈names→(k = .local∨k = .cell∨k = .globalImplicit∨k = .free∧(bm x sc.names=some .cell∨bm x sc.names=some .free))∧(x == ("__debug__" : Str))=false∧(x == ("__classdict__" : Str))=false
  | [],_,_,_,h=>by cases h
  | (y, k0)::r,e,x,k,h=>by
    unfold ze at e
    rw [Uc,Uc,Uc] at e
    obtain ⟨⟨e1,e2,e3⟩,e4⟩:=e
    rcases Tz.mp h with q | q
    · cases q
      refine ⟨?_,by rw [← uw];simpa using e2,by rw [← uw];simpa using e3⟩
      cases k0 <;> first | exact .inl rfl | exact .inr (.inl rfl) | exact .inr (.inr (.inl rfl)) | skip
      all_goals first
        | (cases e1;done)
        | (refine .inr (.inr (.inr ⟨rfl,?_⟩))
           dsimp only at e1
           split at e1
           · rename_i q;exact .inl q
           · rename_i q;exact .inr q
           · cases e1)
    · exact Ie e4 x k q
theorem un {α:Type}:∀{l:List (Str×α)},(l.map (·.1)).Nodup→∀{x:Str}{k:α},(x,k)∈l→l.lookup x=some k
  | (y, k0)::r,nd,x,k,h=>by
    rw [T5,Vq] at nd
    rw [Um]
    rcases Tz.mp h with q | q
    · cases q;rw [beq_self_eq_true]
    · have ne:(x == y)=false:=by
        rw [beq_eq_false_iff_ne]
        intro c
        exact nd.1 (Ud.mpr ⟨(x,k),q,c⟩)
      rw [ne]
      exact un nd.2 q
theorem H7(f:Str×NameKind→Str×NameKind) (hf:∀n k,(f (n,k)).1=n) (x:Str):∀(names:List (Str×NameKind)) (k:NameKind),names.lookup x=some k→(names.map f).lookup x=some (f (x,k)).2
  | [],_,h=>by cases h
  | (y,k0)::r,k,h=>by
    rw [Um] at h
    have e:f (y,k0)=(y,(f (y,k0)).2):=by
      have:=hf y k0
      cases q:f (y,k0) with
      | mk a b=>rw [q] at this;cases this;rfl
    rw [T5,e,Um]
    cases q:x == y with
    | true=>
      rw [q] at h
      cases h
      rw [beq_iff_eq.mp q]
    | false=>
      rw [q] at h
      exact H7 f hf x r k h
theorem zau{env:Env}(x:Str) (names:List (Str×NameKind)) (k:NameKind) (h:names.lookup x=some k) :
    (names.map fun (n,k)=>if (k == NameKind.free&&env.scope.kind == .function&&env.kindOf n == some .cell) then (n,NameKind.cell) else (n,k)).lookup x=some (if (k == NameKind.free&&env.scope.kind == .function&&env.kindOf x == some .cell) then .cell else k):=by
  have:=H7 (fun (n,k)=>if (k == NameKind.free&&env.scope.kind == .function&&env.kindOf n == some .cell) then (n,NameKind.cell) else (n,k)) (fun n k=>by dsimp only;split <;> rfl) x names k h
  rw [this]
  dsimp only
  split <;> rfl
section
abbrev dictObj:Obj:={ cls:=.type "dict",data:=.dict #[] }
def mw (csc:Scope) (env:Env) (L:Addr):Env:={ newEnv csc L env.globals (cellsFrom (L+1) csc.names (l7 env csc.names [])) env.qual none .none (some env) builtinsNs with scope:=relabel csc env }
section
variable {M:Model}{E:Value→Shared→Prop}
theorem zay{scope:Scope}{globals:Addr}{cl:List (Str×Addr)}{qual:Str}{outer:Env}{Q:Env→Shared→Prop}
    (hQ:Q (newEnv scope s.heap.objs.size globals (cellsFrom (s.heap.objs.size+1) scope.names cl) qual none .none (some outer) builtinsNs) { s with heap:=pushCells (s.heap.push dictObj) scope.names }) :
    wpAny M A (newFunctionEnv scope globals cl [] qual none .none (some outer)) Q E s:=by
  simp only [newFunctionEnv,Option.isSome_some,if_true]
  refine Y3 (wpAny_alloc ?_)
  refine Y3 (wpAny_layCells _ (fun name kind cells=>by cases hkc:kind == NameKind.cell <;> simp [hkc]) _ _ _ _ ?_)
  rw [show ({ s with heap:=s.heap.push dictObj }:Shared).heap.objs.size=s.heap.objs.size+1 from Vy ..]
  refine Y3 ?_
  rw [Vx]
  exact Y4 (Y4 hQ)
end
section
variable {V:V}{S:Addr→Prop}{E:Value→Shared→Prop}
theorem y4 (f:Str→Bool) (x:Str):∀ρ:Loc,ae x (ρ.filter fun p=>f p.1)=if f x then ae x ρ else none
  | []=>by simp [ae]
  | (y, v)::r=>by
    rw [Uw]
    have ih:=y4 f x r
    by_cases q:x=y
    · subst q
      cases hf:f x
      · simp only [hf,Ut,if_false] at ih ⊢;exact ih
      · simp only [if_true]
        unfold ae
        rw [kt];simp
    · cases hf:f y
      · simp only [Ut,if_false]
        rw [ih,ae,pf q]
        rfl
      · simp only [if_true]
        rw [ae,pf q,ih,ae,pf q]
        rfl
theorem Kl (X:EnvOk prog w sc env ρ g σ.next h) (O:Ok prog w hb g σ h) (hc:mj sc csc=true) :
    EnvOk prog w csc (mw csc env h.objs.size) (ρ.filter fun p=>fy p.1 csc) g σ.next (pushCells (h.push dictObj) csc.names)∧closureFor csc env=pure (l7 env csc.names [])∧
      (∀a o,h.get? a=some o→(pushCells (h.push dictObj) csc.names).get? a=some o)∧csc.kind = .function∧(∀x∈csc.names,x.2 = .local→csc.names.lookup x.1=some .local)∧
      (∀a,ux csc (mw csc env h.objs.size) a→h.get? a=none∨ux sc env a)∧(∀a,Own csc (mw csc env h.objs.size) a→h.get? a=none)∧∃m,(pushCells (h.push dictObj) csc.names).Ns h.objs.size m:=by
  unfold mj at hc
  rw [Uc,Uc] at hc
  obtain ⟨⟨c1,c2⟩,c3⟩:=hc
  have hk:csc.kind = .function:=by
    revert c1
    cases csc.kind <;> intro c1 <;> first | rfl | cases c1
  have nd:(csc.names.map (·.1)).Nodup:=y8 _ c2
  have cn:=fun x k=>Ie c3 x k
  have look:∀{x k},bm x csc.names=some k→(x,k)∈csc.names:=fun q=>mem_of_lookup (by rw [qo] at q;exact q)
  have kp:∀a o,h.get? a=some o→(pushCells (h.push dictObj) csc.names).get? a=some o:=fun a o e=>pushCells_keeps _ _ a o (Tq _ e)
  have hfree:∀y,(y,NameKind.free)∈csc.names→∃k,bm y sc.names=some k∧(k = .cell∨k = .free):=fun y hy=>by
    rcases (cn y _ hy).1 with q | q | q | ⟨_,q⟩
    · cases q
    · cases q
    · cases q
    · rcases q with q | q
      · exact ⟨_,q,.inl rfl⟩
      · exact ⟨_,q,.inr rfl⟩
  have hlk:∀y,(y,NameKind.free)∈csc.names→∃c,env.cells.lookup y=some c:=fun y hy=>by
    obtain ⟨k,q1,q2⟩:=hfree y hy
    obtain ⟨c,o,h1,_⟩:=X.cel y k q1 q2
    exact ⟨c,h1⟩
  have ok:=cellsFrom_ok csc.names (h.push dictObj) (h.objs.size+1) [] ⟨fun J J hm=>(nomatch hm),List.Pairwise.nil⟩ (by rw [Vy];exact To _)
  rw [Vy] at ok
  have hcs:(mw csc env h.objs.size).cells=cellsFrom (h.objs.size+1) csc.names []++l7 env csc.names []:=v6 _ _ _
  have freeLook:∀y,bm y csc.names=some .free→∃c,env.cells.lookup y=some c∧(mw csc env h.objs.size).cells.lookup y=some c:=fun y hy=>by
    have hm:=look hy
    obtain ⟨c,hc⟩:=hlk y hm
    refine ⟨c,hc,?_⟩
    rw [hcs,Yx]
    have n0:(cellsFrom (h.objs.size+1) csc.names []).lookup y=none:=by
      cases q:(cellsFrom (h.objs.size+1) csc.names []).lookup y with
      | none=>rfl
      | some c'=>
        have hm':=B3 _ _ _ _ (mem_of_lookup q)
        have e1:=un nd hm
        have e2:=un nd hm'
        rw [e1] at e2;cases e2
    rw [n0,B4 y csc.names [] (.inl hm) (fun c h=>by cases h),hc]
    rfl
  have cellLook:∀y,bm y csc.names=some .cell→∃c,(y,c)∈cellsFrom (h.objs.size+1) csc.names []∧(mw csc env h.objs.size).cells.lookup y=some c:=fun y hy=>by
    obtain ⟨c,hc⟩:=Wm.mp (v7 y csc.names (h.objs.size+1) [] (.inr (by rw [← qo];exact hy)))
    refine ⟨c,mem_of_lookup hc,?_⟩
    rw [hcs,Yx,hc]
    rfl
  have kd:∀y k,bm y csc.names=some k→(mw csc env h.objs.size).kindOf y=some k∨(k = .free∧(mw csc env h.objs.size).kindOf y=some .cell):=fun y k hy=>by
    have e:=zau (env:=env) y csc.names k (by rw [← qo];exact hy)
    have e':(mw csc env h.objs.size).kindOf y=_:=e
    rw [e']
    split
    · rename_i q
      simp only [Uc,beq_iff_eq] at q
      exact .inr ⟨q.1.1,rfl⟩
    · exact .inl rfl
  have lfresh:h.get? h.objs.size=none:=em (To _)
  have cfresh:∀{y c},(y,c)∈cellsFrom (h.objs.size+1) csc.names []→h.get? c=none:=fun hm=>em (V0 (ok.empty _ _ hm).2)
  have hns:=(Heap.Ns.new h (.type "dict")).keeps (pushCells_keeps csc.names _)
  refine ⟨⟨?_,X.glob,X.blt,?_,kd,fun y k hy=>(cn y k (look hy)).2,⟨_,hns,fun y V hy hl=>?_⟩,fun y k hy hk'=>?_,⟨nn O lfresh,qi O lfresh⟩,fun y z k cy cz hy hz hk' hcy hcz hne e=>?_⟩,zaw hlk,kp,hk,fun x hx hl=>?_,fun a ha=>?_,fun a ha=>?_,_,hns⟩
  · exact hk
  · show (csc.kind == .module&&_)=false
    rw [hk];rfl
  · rw [y4 (fun p=>fy p csc)] at hy
    have:fy y csc=false:=by unfold fy;rw [hl]
    rw [this] at hy
    cases hy
  · rcases hk' with rfl | rfl
    · obtain ⟨c,hm,hc⟩:=cellLook y hy
      refine ⟨c,none,hc,(ok.empty _ _ hm).1,nn O (cfresh hm),qi O (cfresh hm),fun q=>?_,fun V hv=>?_⟩
      · have:=(ok.empty _ _ hm).2
        rw [q] at this
        exact Vk _ this
      · rw [y4 (fun p=>fy p csc)] at hv
        have:fy y csc=false:=by unfold fy;rw [hy]
        rw [this] at hv
        cases hv
    · obtain ⟨c,hc,hc'⟩:=freeLook y hy
      obtain ⟨k,q1,q2⟩:=hfree y (look hy)
      obtain ⟨c0,o,h1,⟨oc,h2,h2'⟩,h3,h4,h5,h6⟩:=X.cel y k q1 q2
      rw [hc] at h1
      cases h1
      refine ⟨c,o,hc',⟨oc,kp _ _ h2,h2'⟩,h3,h4,fun q=>?_,fun V hv=>?_⟩
      · have q':c=h.objs.size:=q
        rw [q',lfresh] at h2;cases h2
      · rw [y4 (fun p=>fy p csc)] at hv
        have:fy y csc=true:=by unfold fy;rw [hy]
        rw [this] at hv
        exact h6 V hv
  · obtain ⟨c,hm,hc⟩:=cellLook y hy
    rw [hc] at hcy
    cases hcy
    rcases hk' with rfl | rfl
    · obtain ⟨c',hm',hc'⟩:=cellLook z hz
      rw [hc'] at hcz
      cases hcz
      exact hne (name_of_addr ok.apart hm (e▸hm'))
    · obtain ⟨c',hc1,hc'⟩:=freeLook z hz
      rw [hc'] at hcz
      cases hcz
      obtain ⟨k,q1,q2⟩:=hfree z (look hz)
      obtain ⟨c0,o,h1,⟨oc,h2,_⟩,_⟩:=X.cel z k q1 q2
      rw [hc1] at h1
      cases h1
      rw [← e,cfresh hm] at h2;cases h2
  · obtain ⟨x1,x2⟩:=x
    cases hl
    exact un nd hx
  · rcases ha with rfl | ⟨y,k,hy,hk',hc⟩
    · exact .inl lfresh
    · rcases hk' with rfl | rfl
      · obtain ⟨c,hm,hc'⟩:=cellLook y hy
        rw [hc'] at hc
        cases hc
        exact .inl (cfresh hm)
      · obtain ⟨c,hc1,hc'⟩:=freeLook y hy
        rw [hc'] at hc
        cases hc
        obtain ⟨k,q1,q2⟩:=hfree y (look hy)
        exact .inr (.inr ⟨y,k,q1,q2,hc1⟩)
  · rcases ha with rfl | ⟨y,hy,hc⟩
    · exact lfresh
    · obtain ⟨c,hm,hc'⟩:=cellLook y hy
      rw [hc'] at hc
      cases hc
      exact cfresh hm
end
end
section
section
variable {V:V}{S:Addr→Prop}{E:Value→Shared→Prop}
structure Gathered (prog:Program) (w:World) (hb:Heap) (g:Gh) (σ:Sto) (s:Shared) (g₄:Gh) (σ2:Sto) (h₄:Heap) (xs:List Mine.V) (C D:Addr) (vs:List Value):Prop where
  ext:Ext ak g σ.next s.heap g₄ σ2.next h₄
  ok:Ok prog w hb g₄ σ2 h₄
  rel:RlL prog w g₄ σ2.next xs vs
  acc:AccAt h₄ D vs
  d0:s.heap.get? D=none
  dI:g₄.I D=none
  dM:¬ ew g₄ σ2.next D
  c0:s.heap.get? C=none
  cI:g₄.I C=none
  cM:¬ ew g₄ σ2.next C
  ne:C≠D
  ns:∃m,h₄.Ns C m
theorem B5{Wr:Addr→Prop}{a:Addr}(x:Ext Wr g N h g' N' h') (e:h'.get? a=none):h.get? a=none:=by
  cases q:h.get? a with
  | none=>rfl
  | some o=>
    obtain ⟨o',eo⟩:=x.live a o q
    rw [eo] at e;cases e
theorem Jt {use:Option (Value→Sem Unit)}{Q:Value→Shared→Prop}{tgt iter elt:Expr}{ifs:List Expr}{gs:List Comprehension}{pos pos':Pos}{it:It}{xs:List Mine.V}{ρe:Loc}(Z:Wld prog w P hb K) (he:dy prog w P hb n) (hco:si prog w P hb n)
    (hsc:mj sc csc=true) (e1:gm P (run P n) sc iter ρ σ=some (it,σ1)) (e2:(run P n).co csc tgt ifs gs elt it (ρ.filter fun p=>fy p.1 csc) σ1 []=some (xs,ρe,σ2))
    (R:Room A n) (X:EnvOk prog w sc env ρ g σ.next s.heap) (O:Ok prog w hb g σ s.heap)
    (k:∀g₄ h₄ tk₄ C D vs,Gathered prog w hb g σ s g₄ σ2 h₄ xs C D vs→compPost (model prog w) A E use Q (.ref D) C (.ok .next) { s with heap:=h₄,toks:=tk₄ }) :
    wpAny (model prog w) A (comprehension (.ListComp elt (⟨tgt,iter,ifs,0⟩::gs) csc pos) csc env pos' (newList []) false (eval iter env) use) Q E s:=by
  obtain ⟨_,hclo,_,hkind,hnames,_⟩:=Kl X O hsc
  refine wpAny_comprehension_free (g:=⟨tgt,iter,ifs,0⟩) (gs:=gs) rfl (Cj e1) hclo hkind hnames ?_
  refine Dm Z he e1 R X O _ fun I g₁ h₁ tk₁ S x₁ O₁ T hI H hf=>?_
  have X₁:=X.ext x₁
  let lo:Obj:={ cls:=.type "list",data:=.seq (Vt ([]:List Value)) }
  let D:=h₁.objs.size
  refine wpAny_newObj_type ?_ (Ux _)
  have xp:Ext ak g₁ σ1.next h₁ g₁ σ1.next (h₁.push lo):=Ext.grow (ig h₁ lo)
  have Op:=O₁.grow (ig h₁ lo)
  obtain ⟨Xc,_,kp,_,_,addr,own,hns⟩:=Kl (X₁.ext xp) Op hsc
  refine zay ?_
  let C:=(h₁.push lo).objs.size
  have hD1:h₁.get? D=none:=em (To _)
  have hDp:(h₁.push lo).get? D=some lo:=Tv _ rfl
  have hCp:(h₁.push lo).get? C=none:=em (To _)
  have kk:∀a o,h₁.get? a=some o→(pushCells ((h₁.push lo).push dictObj) csc.names).get? a=some o:=fun a o e=>kp a o (ig h₁ lo a o e)
  have xc:Ext ak g σ.next s.heap g₁ σ1.next (pushCells ((h₁.push lo).push dictObj) csc.names):=x₁.trans (Ext.grow kk)
  have Oc:=O₁.grow kk
  have Tc:=T.grow kk
  have hSD:¬ S D:=fun q=>by
    obtain ⟨o,ho⟩:=(H D q).1
    rw [hD1] at ho;cases ho
  have Hc:Hid (jt S D) g₁ σ1.next (pushCells ((h₁.push lo).push dictObj) csc.names) csc (mw csc env C):=fun a ha=>by
    rcases ha with ha | rfl
    · obtain ⟨l,b,c,d⟩:=H a ha
      refine ⟨l.to kk,b,c,fun q=>?_⟩
      rcases addr a q with q | q
      · obtain ⟨o,ho⟩:=l
        rw [ig h₁ lo a o ho] at q;cases q
      · exact d q
    · refine ⟨⟨lo,kp _ _ hDp⟩,nn O₁ hD1,qi O₁ hD1,fun q=>?_⟩
      rcases addr D q with q | q
      · rw [hDp] at q;cases q
      · obtain ⟨o,ho⟩:=Da X₁ q
        rw [hD1] at ho;cases ho
  refine Ih (s:={ s with heap:=pushCells ((h₁.push lo).push dictObj) csc.names,toks:=tk₁ }) Tc rfl rfl ?_
  refine hco _ _ _ _ _ _ _ _ _ _ _ _ A g₁ { s with heap:=pushCells ((h₁.push lo).push dictObj) csc.names,toks:=tk₁ } (mw csc env C) I S D [] _ 0 iter csc pos e2 R rfl Xc Oc Tc hI hSD Hc ⟨0,kp _ _ hDp⟩ .nil _
    fun g₄ h₄ tk₄ vs x₄ O₄ X₄ D₄ A₄ H₄=>?_
  have hD0:s.heap.get? D=none:=B5 x₁ hD1
  have hC0:s.heap.get? C=none:=B5 (x₁.trans xp) hCp
  have xA:Ext ak g σ.next s.heap g₄ σ2.next h₄:=Ext.frame xc x₄ fun a ha=>by
    rcases ha with ha | ha | rfl
    · exact B5 (x₁.trans xp) (own a ha)
    · exact hf a ha
    · exact hD0
  obtain ⟨m,hm,_⟩:=X₄.loc
  have hne:C≠D:=fun q=>by
    have:=(H₄ D (.inr rfl)).2.2.2
    exact this (.inl q.symm)
  exact k g₄ h₄ tk₄ C D vs ⟨xA,O₄,A₄,D₄,hD0,(H₄ D (.inr rfl)).2.1,(H₄ D (.inr rfl)).2.2.1,hC0,X₄.sepL.1,X₄.sepL.2,hne,m,hm⟩
theorem Gathered.adopt{g₄:Gh}{h₄:Heap}{xs:List Mine.V}{C D:Addr}{vs:List Value}(G:Gathered prog w hb g σ s g₄ σ2 h₄ xs C D vs) :
    Ok prog w hb (g₄.addM σ2.next D D) (push σ2 (.lst xs)) h₄∧Ext ak g σ.next s.heap (g₄.addM σ2.next D D) (push σ2 (.lst xs)).next h₄∧Rl prog w (g₄.addM σ2.next D D) (push σ2 (.lst xs)).next (.ref σ2.next) (.ref D)∧
      (g₄.addM σ2.next D D).I C=none∧¬ ew (g₄.addM σ2.next D D) (push σ2 (.lst xs)).next C:=by
  have m0:(g₄.addM σ2.next D D).mu σ2.next=D:=if_pos rfl
  have d0:(g₄.addM σ2.next D D).de σ2.next=D:=if_pos rfl
  obtain ⟨c,hc⟩:=G.acc
  have z:=Cr (o:=.lst xs) G.ok G.ext G.d0 G.d0 G.dI G.dI G.dM G.dM ⟨_,hc⟩ ⟨_,hc⟩
    ⟨vs,⟨c,by rw [m0];exact hc⟩,RlL.mono (g:=g₄) (g':=g₄.addM σ2.next D D) (fun J J e=>e) (fun n hn=>(cf n hn).1) (T3 _) _ _ G.rel,d0.trans m0.symm⟩
  refine ⟨z.1,z.2,⟨Tr _,by rw [m0]⟩,G.cI,fun ⟨n,hn,q⟩=>?_⟩
  by_cases c:n=σ2.next
  · subst c
    rw [m0,d0] at q
    exact G.ne (q.elim id id)
  · have hn':n<σ2.next+1:=hn
    have l:n<σ2.next:=by exact Gg ‹_› ‹_›
    rw [(cf n l).1,(cf n l).2] at q
    exact G.cM ⟨n,l,q⟩
theorem zbg{tgt iter elt:Expr}{ifs:List Expr}{gs:List Comprehension}{pos:Pos}{it:It}{xs:List Mine.V}{ρe:Loc}(Z:Wld prog w P hb K) (he:dy prog w P hb n) (hco:si prog w P hb n)
    (hsc:mj sc csc=true) (e1:gm P (run P n) sc iter ρ σ=some (it,σ1)) (e2:(run P n).co csc tgt ifs gs elt it (ρ.filter fun p=>fy p.1 csc) σ1 []=some (xs,ρe,σ2))
    (R:Room A n) (X:EnvOk prog w sc env ρ g σ.next s.heap) (O:Ok prog w hb g σ s.heap) :
    EvGoal prog w hb A g σ s env (.ListComp elt (⟨tgt,iter,ifs,0⟩::gs) csc pos) (push σ2 (.lst xs)) (.ref σ2.next):=fun Q E hQ=>by
  rw [arm_eval_ListComp]
  refine Jt Z he hco hsc e1 e2 R X O fun g₄ h₄ tk₄ C D vs G=>?_
  obtain ⟨a1,a2,a3,a4,a5⟩:=G.adopt
  obtain ⟨m,hm⟩:=G.ns
  refine ⟨m,hm,fun h' hs=>?_⟩
  exact hQ _ _ h' tk₄ (a2.priv G.c0 (.same hs)) (a1.priv a4 a5 (.same hs)) a3
end
end
section
theorem zy:∀(a b:List Nat),oo a b=decide (a<b)
  | [],[]=>by simp [oo]
  | [],_::_=>by simp [oo]
  | _::_,[]=>by simp [oo]
  | a :: x,b::y=>by
    unfold oo
    by_cases q:a=b
    · subst q
      rw [Wi,if_pos rfl,zy x y]
      simp [Wx]
    · have:T8 a b=false:=by
        cases c:T8 a b with
        | false=>rfl
        | true=>exact absurd (Tu c) q
      rw [this,if_neg Ts]
      have h2:Wg a b=decide (a<b):=by
        cases c:Wg a b with
        | true=>exact (decide_eq_true (T7 c)).symm
        | false=>
          refine (decide_eq_false fun hlt=>?_).symm
          have:Wg a b=true:=Ty hlt
          rw [c] at this;cases this
      rw [h2]
      by_cases lt:a<b
      · rw [decide_eq_true lt];symm;exact decide_eq_true (Wx.mpr (.inl lt))
      · rw [decide_eq_false lt];symm
        refine decide_eq_false fun h=>?_
        rcases Wx.mp h with c | c
        · exact lt c
        · exact q c.1
theorem K0:∀(a b:List Nat),oo a b=false→oo b a=false→a=b
  | [],[],_,_=>rfl
  | [],_::_,h,_=>by cases h
  | _::_,[],_,h=>by cases h
  | a :: x,b::y,h1,h2=>by
    unfold oo at h1 h2
    by_cases q:a=b
    · subst q
      rw [Wi,if_pos rfl] at h1 h2
      rw [K0 x y h1 h2]
    · have n1:T8 a b=false:=by
        cases c:T8 a b with
        | false=>rfl
        | true=>exact absurd (Tu c) q
      have n2:T8 b a=false:=by
        cases c:T8 b a with
        | false=>rfl
        | true=>exact absurd (Tu c).symm q
      rw [n1,if_neg Ts] at h1
      rw [n2,if_neg Ts] at h2
      exfalso
      have c1:¬ a<b:=fun c=>by have:Wg a b=true:=Ty c;rw [h1] at this;cases this
      have c2:¬ b<a:=fun c=>by have:Wg b a=true:=Ty c;rw [h2] at this;cases this
      lia
theorem zgl{x y:Keyed}{xs:Array Keyed}(h:xs.Perm #[x,y]):xs = #[x,y]∨xs = #[y,x]:=by
  have:=ksk_perm2 (Array.perm_iff_toList_perm.mp h)
  rcases this with q | q
  · left;exact Array.toList_inj.mp (by simpa using q)
  · right;exact Array.toList_inj.mp (by simpa using q)
section
variable {σ5:Sto}{V:V}{S:Addr→Prop}{E:Value→Shared→Prop}
theorem zfk {D kS:Addr}{v1 v2:Value}{k1 k2:Str}{t1 t2:Tok}{e e1:Nat}{Q:PySem.Fin→Shared→Prop}(hne:kS≠D) (hD:s.heap.get? D=some (seqObj "list" #[] e1)) (hk:s.heap.get? kS=some (seqObj "list" #[.str k1 t1,.str k2 t2] e)) (hd:k1≠k2)
    (hQ:∀h' c,h'.get? D=some (seqObj "list" (if ox k2 k1 then [v2,v1] else [v1,v2]).toArray c)→(∀b o,b≠D→b≠kS→s.heap.get? b=some o→h'.get? b=some o)→Q (.done (.ret .none)) { s with heap:=h' }) :
    wpAny (model prog w) A (ksk_end D false #[v1,v2] e1 (.ref kS) #[.str k1 t1,.str k2 t2]) Q E s:=by
  have hz:(#[Value.str k1 t1,.str k2 t2].zip #[v1,v2]) = #[(.str k1 t1,v1),(.str k2 t2,v2)]:=by simp
  unfold ksk_end
  try dsimp only
  rw [hz]
  simp only [Ut,if_false]
  rw [if_neg (by simp),if_neg (by simp)]
  have hkk:keyKind' #[Value.str k1 t1,.str k2 t2]=pure oneType':=keyKind_strs (.cons k1 t1 (.cons k2 t2 .nil))
  rw [hkk]
  refine Y3 (Y4 ?_)
  refine Y3 (wpAny_mono (wpS_sortRunsK (κ:=PyProof.Rows.strKind) (a₀:=#[(Value.str k1 t1,v1),(.str k2 t2,v2)]) (st:=SortSt.mk' oneType' #[(Value.str k1 t1,v1),(.str k2 t2,v2)] #[] 7 none)
    (Q:=fun J st'=>(arrOf st').Perm #[(Value.str k1 t1,v1),(.str k2 t2,v2)]∧failedOf st'=none∧SortedToK PyProof.Rows.strKind (arrOf st') 2)
    strKind_oneLt (fun p hp=>?_) ⟨Array.Perm.refl _,rfl,rfl,rfl⟩ (by simp) (by simp) fun st' a1 a2 a3=>⟨a1,a2,a3⟩) ?_ fun J J e=>e)
  · have hp':p=(Value.str k1 t1,v1)∨p=(.str k2 t2,v2):=by simpa using hp
    rcases hp' with rfl | rfl
    · exact ⟨_,rfl⟩
    · exact ⟨_,rfl⟩
  · rintro ⟨⟨⟩,st'⟩ s' ⟨rfl,hp,hf,hs⟩
    try dsimp only
    have hout:(arrOf st').map (·.2)=(if ox k2 k1 then [v2,v1] else [v1,v2]).toArray:=by
      have h01:=hs 0 1 (by decide) (by decide)
      have hslt:ox k2 k1=decide (k2.cps.toList<k1.cps.toList):=zy _ _
      rcases zgl hp with q | q
      · rw [q] at h01 ⊢
        have:decide (k2.cps.toList<k1.cps.toList)=false:=h01
        rw [hslt,this]
        simp
      · rw [q] at h01 ⊢
        have h12:decide (k1.cps.toList<k2.cps.toList)=false:=h01
        have:decide (k2.cps.toList<k1.cps.toList)=true:=by
          apply decide_eq_true
          have n12:=of_decide_eq_false h12
          apply Classical.byContradiction
          intro n21
          apply hd
          obtain ⟨⟨a⟩⟩:=k1
          obtain ⟨⟨b⟩⟩:=k2
          have:=K0 a b (by rw [zy];exact decide_eq_false n12) (by rw [zy];exact decide_eq_false n21)
          rw [this]
        rw [hslt,this]
        simp
    have s1:=Ve.update s'.heap kS (Obj.mapSeq fun J=>(#[]:Array Value))
    have nD:(s'.heap.update kS (Obj.mapSeq fun J=>(#[]:Array Value))).get? D=some (seqObj "list" #[] e1):=(s1.2 D hne.symm).trans hD
    unfold ksk_tail
    try dsimp only
    refine Y3 (listUpdate_at hk rfl ?_ (by rw [sizeLine_eq];simp) (Ux _))
    refine Y3 (wpAny_letGo ?_)
    refine Y3 (seqEpoch_at nD rfl ?_)
    simp only [Ut,if_false]
    refine Y3 (listUpdate_at nD rfl ?_ (Ux _) (by rw [hout,sizeLine_eq];split <;> simp))
    rw [hf]
    simp only [bne_self_eq_false,Ut,if_false]
    have nD2:=get?_update_seq nD fun J=>(arrOf st').map (·.2)
    have s2:=Ve.update (s'.heap.update kS (Obj.mapSeq fun J=>(#[]:Array Value))) D (Obj.mapSeq fun J=>(arrOf st').map (·.2))
    refine Y4 (hQ _ _ (nD2.trans (by rw [hout])) fun b o h1 h2 q=>(s2.2 b h1).trans ((s1.2 b h2).trans q))
theorem zcq{l:Mine.V}{u:Value}{f:Nat}{x y:Mine.V}{k1 k2:Str}(H:xb prog w P hb n) (R:Room A (n+1)) (O:Ok prog w hb g σ3 s.heap) (el:bj σ3 l=some [x,y]) (rl:Rl prog w g σ3.next l u)
    (e5:(run P n).call f [x] σ3=some (.str k1,σ4)) (e6:(run P n).call f [y] σ4=some (.str k2,σ5)) (hk:seq k1 k2=false) :
    Does prog w hb A ak g σ3 s (call (.builtin "sorted") [u] [(Str.ofString "key",.ref f)]) (push σ5 (.lst (if ox k2 k1 then [y,x] else [x,y]))) (fun g' J v=>Rl prog w g' (push σ5 (.lst (if ox k2 k1 then [y,x] else [x,y]))).next (.ref σ5.next) v):=fun Q E hQ=>by
  have hkd:k1≠k2:=fun q=>by subst q;rw [kt] at hk;cases hk
  have R2:Room A.in1.in1 n:=⟨by have:=R.depth;show A.depth+n<_;exact Ur ‹_›,by have:=R.units;show A.units+1+1+12 * n+60<_;lia,R.handled⟩
  obtain ⟨b,us,rfl,hl,h5⟩:=j3 O el rl
  obtain ⟨v1,r',rfl,rv1,h6⟩:=h5
  obtain ⟨v2,r'',rfl,rv2,h7⟩:=h6
  obtain rfl:r''=[]:=h7
  have hil:=hl.isList (h:=s.heap) fun J J e=>e
  refine call_function_entry_kw kind_sorted plain_sorted entry_sorted (ksk_s1 _ _) ?_
  unfold Builtin.«sorted»
  refine Y3 (m:=checkCount "sorted" 1 1 _) (Y4 ?_)
  refine Y3 (collect_list hil ?_ (by rw [sizeLine_eq];simp))
  refine Y3 (wpAny_newList ?_ (by rw [sizeLine_eq];simp))
  let h1:=(s.heap.push (seqObj "list" #[] 0)).update s.heap.objs.size (Obj.mapSeq (· ++ [v1,v2].toArray))
  let h2:=h1.push (seqObj "list" [v1,v2].toArray 0)
  let D:=h1.objs.size
  have k1':∀a o,s.heap.get? a=some o→h1.get? a=some o:=fun a o q=>
    (Vf _ _ (U7 (U3 q))).trans (Tq _ q)
  have k2':∀a o,s.heap.get? a=some o→h2.get? a=some o:=fun a o q=>Tq _ (k1' a o q)
  have hD2:h2.get? D=some (seqObj "list" [v1,v2].toArray 0):=Tv _ rfl
  have hD0:s.heap.get? D=none:=by
    cases q:s.heap.get? D with
    | none=>rfl
    | some o=>exact absurd (U3 (k1' _ _ q)) (Vk _)
  refine Y3 (Y5 (wpAny_call_entry_kw slot_list_sort ⟨_,hD2,rfl⟩ entry_list_sort ?_ (ksk_l1 _ _)))
  show wpAny (model prog w) A.in1.in1 (ksk_tree D (.ref f) false) _ _ { s with heap:=h2 }
  unfold ksk_tree
  let h3:=h2.update D (Obj.mapSeq fun J=>(#[]:Array Value))
  obtain ⟨e1,hD3⟩:∃e1,h3.get? D=some (seqObj "list" #[] e1):=⟨_,get?_update_seq hD2 fun J=>#[]⟩
  refine Y3 (listItems_at hD2 rfl ?_)
  refine Y3 (listUpdate_at hD2 rfl ?_ (by rw [sizeLine_eq];simp) (Ux _))
  refine Y3 (seqEpoch_at hD3 rfl ?_)
  refine Y3 (wpAny_newTuple ?_ (by rw [sizeLine_eq];simp))
  refine Y3 (wpAny_newList ?_ (Ux _))
  refine Y5 ?_
  let h4:=h3.push (seqObj "tuple" [v1,v2].toArray 0)
  let h5:=h4.push (seqObj "list" #[] 0)
  let kS:=h4.objs.size
  have k3:∀a o,s.heap.get? a=some o→h3.get? a=some o:=fun a o q=>by
    have ne:D≠a:=fun c=>by rw [← c,hD0] at q;cases q
    exact (Vf _ _ ne).trans (k2' a o q)
  have k5:∀a o,s.heap.get? a=some o→h5.get? a=some o:=fun a o q=>Tq _ (Tq _ (k3 a o q))
  have hD4:h4.get? D=some (seqObj "list" #[] e1):=Tq _ hD3
  have hD5:h5.get? D=some (seqObj "list" #[] e1):=Tq _ hD4
  have hk5:h5.get? kS=some (seqObj "list" #[] 0):=Tv _ rfl
  have hk0:s.heap.get? kS=none:=by
    cases q:s.heap.get? kS with
    | none=>rfl
    | some o=>exact absurd (U3 (Tq (seqObj "tuple" [v1,v2].toArray 0) (k3 _ _ q))) (Vk _)
  have hne:kS≠D:=U7 (U3 hD4)
  have x5:Ext ak g σ3.next s.heap g σ3.next h5:=Ext.grow k5
  have O5:Ok prog w hb g σ3 h5:=O.grow k5
  have gD:g.I D=none:=nn O hD0
  have mD:¬ ew g σ3.next D:=qi O hD0
  have gk:g.I kS=none:=nn O hk0
  have mk:¬ ew g σ3.next kS:=qi O hk0
  show wpAny (model prog w) A.in1.in1 (ksk_rest D (.ref f) false [v1,v2].toArray e1 (.ref kS)) _ _ { s with heap:=h5 }
  unfold ksk_rest
  refine Y3 (wpAny_rule ?_)
  have ef:∀{β:Type}(b:β) (body:Value→β→Sem (ForInStep β)),forIn ([v1,v2].toArray) b body=forIn [v1,v2] b body:=fun b body=>by
    first
      | rw [List.forIn_toArray]
      | (rw [← Array.forIn_toList])
  rw [ef,Vz]
  refine Y3 (Y3 ?_)
  refine Y3 (wpAny_attempt ((H f [x] [v1] σ3 _ σ4 _ g { s with heap:=h5 } e5 R2 O5 (.cons rv1 .nil)).does _ _ fun w1 g₆ h6 tk6 x6 O6 r6=>?_))
  obtain ⟨t1,rfl⟩:=r6
  dsimp only
  have hk6:=x6.keep _ _ hk5 mk id
  have hD6:=x6.keep _ _ hD5 mD id
  have gD6:=x6.sepI hD5 gD mD
  have mD6:=x6.sepM hD5 mD
  have gk6:=x6.sepI hk5 gk mk
  have mk6:=x6.sepM hk5 mk
  let h7:=h6.update kS (Obj.mapSeq (·.push (.str k1 t1)))
  have s7:=Ve.update h6 kS (Obj.mapSeq (·.push (.str k1 t1)))
  obtain ⟨c7,hk7⟩:∃c,h7.get? kS=some (seqObj "list" #[.str k1 t1] c):=⟨_,get?_update_seq hk6 (·.push (.str k1 t1))⟩
  have hD7:h7.get? D=some (seqObj "list" #[] e1):=(s7.2 D hne.symm).trans hD6
  have O7:Ok prog w hb g₆ σ4 h7:=O6.priv gk6 mk6 (.same s7)
  have x7:Ext ak g σ3.next s.heap g₆ σ4.next h7:=(x5.trans x6).priv hk0 (.same s7)
  refine Y3 (listUpdate_at hk6 rfl ?_ (by rw [sizeLine_eq];simp) (by rw [sizeLine_eq];simp))
  refine Y4 ?_
  dsimp only
  rw [Vz]
  refine Y3 ?_
  refine Y3 (wpAny_attempt ((H f [y] [v2] σ4 _ σ5 _ g₆ { s with heap:=h7,toks:=tk6 } e6 R2 O7 (.cons (rv2.ext x7) .nil)).does _ _ fun w2 g₈ h8 tk8 x8 O8 r8=>?_))
  obtain ⟨t2,rfl⟩:=r8
  dsimp only
  have hk8:=x8.keep _ _ hk7 mk6 id
  have hD8:=x8.keep _ _ hD7 mD6 id
  have gD8:=x8.sepI hD7 gD6 mD6
  have mD8:=x8.sepM hD7 mD6
  have gk8:=x8.sepI hk7 gk6 mk6
  have mk8:=x8.sepM hk7 mk6
  let h9:=h8.update kS (Obj.mapSeq (·.push (.str k2 t2)))
  have s9:=Ve.update h8 kS (Obj.mapSeq (·.push (.str k2 t2)))
  obtain ⟨c9,hk9⟩:∃c,h9.get? kS=some (seqObj "list" #[.str k1 t1,.str k2 t2] c):=⟨_,get?_update_seq hk8 (·.push (.str k2 t2))⟩
  have hD9:h9.get? D=some (seqObj "list" #[] e1):=(s9.2 D hne.symm).trans hD8
  have O9:Ok prog w hb g₈ σ5 h9:=O8.priv gk8 mk8 (.same s9)
  have x9:Ext ak g σ3.next s.heap g₈ σ5.next h9:=(x7.trans x8).priv hk0 (.same s9)
  refine Y3 (listUpdate_at hk8 rfl ?_ (by rw [sizeLine_eq];simp) (by rw [sizeLine_eq];simp))
  refine Y4 ?_
  dsimp only
  rw [Vx]
  refine Y4 ?_
  refine Y3 (listItems_at hk9 rfl ?_)
  refine zfk hne hD9 hk9 hkd fun h' c hD' kk=>?_
  refine ⟨_,rfl,Y4 ⟨_,rfl,?_⟩⟩
  have lk:But D h9 h'∨True:=.inr trivial
  let S2:Addr→Prop:=fun a=>a=D∨a=kS
  have xF:Ext ak g σ3.next s.heap g₈ σ5.next h':=by
    have ne:∀a o,s.heap.get? a=some o→a≠D∧a≠kS:=fun a o q=>⟨fun c=>by (rw [c,hD0] at q;cases q),fun c=>by (rw [c,hk0] at q;cases q)⟩
    exact ⟨x9.I,x9.new,x9.mu,x9.munew,x9.next,fun a o q hm hw=>kk a o (ne a o q).1 (ne a o q).2 (x9.keep a o q hm hw),fun a o q=>let ⟨o',q'⟩:=x9.live a o q;⟨o',kk a o' (ne a o q).1 (ne a o q).2 q'⟩⟩
  have OF:Ok prog w hb g₈ σ5 h':=by
    have nI:∀a o,g₈.I a=some o→a≠D∧a≠kS:=fun a o q=>⟨fun c=>by (rw [c,gD8] at q;cases q),fun c=>by (rw [c,gk8] at q;cases q)⟩
    have nM:∀a,ew g₈ σ5.next a→a≠D∧a≠kS:=fun a q=>⟨fun c=>mD8 (c▸q),fun c=>mk8 (c▸q)⟩
    refine ⟨fun a o q=>kk a o (nI a o q).1 (nI a o q).2 (O9.sub a o q),O9.base,fun m o q=>⟨(O9.obj m o q).1,?_⟩,O9.sep,fun m hm=>⟨let ⟨o,q⟩:=(O9.lt m hm).1;⟨o,kk _ _ (nM _ ⟨m,hm,.inl rfl⟩).1 (nM _ ⟨m,hm,.inl rfl⟩).2 q⟩,let ⟨o,q⟩:=(O9.lt m hm).2;⟨o,kk _ _ (nM _ ⟨m,hm,.inr rfl⟩).1 (nM _ ⟨m,hm,.inr rfl⟩).2 q⟩⟩,O9.inj⟩
    have hm:=(O9.obj m o q).1
    exact (O9.obj m o q).2.grow (fun J J e=>e) (fun J J=>⟨rfl,rfl⟩) (To _) hm (fun J e'=>kk _ _ (nM _ ⟨m,hm,.inl rfl⟩).1 (nM _ ⟨m,hm,.inl rfl⟩).2 e') (fun J e'=>kk _ _ (nM _ ⟨m,hm,.inr rfl⟩).1 (nM _ ⟨m,hm,.inr rfl⟩).2 e')
  have rr:RlL prog w g₈ σ5.next (if ox k2 k1 then [y,x] else [x,y]) (if ox k2 k1 then [v2,v1] else [v1,v2]):=by
    split
    · exact .cons (rv2.ext xF) (.cons (rv1.ext xF) .nil)
    · exact .cons (rv1.ext xF) (.cons (rv2.ext xF) .nil)
  have m0:(g₈.addM σ5.next D D).mu σ5.next=D:=if_pos rfl
  have d0:(g₈.addM σ5.next D D).de σ5.next=D:=if_pos rfl
  have z:=Cr (o:=.lst (if ox k2 k1 then [y,x] else [x,y])) OF xF hD0 hD0 gD8 gD8 mD8 mD8 ⟨_,hD'⟩ ⟨_,hD'⟩
    ⟨_,⟨c,by rw [m0];exact hD'⟩,RlL.mono (g:=g₈) (g':=g₈.addM σ5.next D D) (fun J J e=>e) (fun n hn=>(cf n hn).1) (T3 _) _ _ rr,d0.trans m0.symm⟩
  exact hQ _ _ h' tk8 z.2 z.1 ⟨Tr _,by rw [m0]⟩
end
end
section
structure Snd (prog:Program) (w:World) (P:PD) (hb:Heap) (n:Nat):Prop where
  ev:dy prog w P hb n
  evs:t9 prog w P hb n
  tr:r9 prog w P hb n
  bos:Al prog w P hb n
  trs:Fk prog w P hb n
  tst:xz prog w P hb n
  asg:Ap prog w P hb n
  ass:Rr prog w P hb n
  ex:Tb prog w P hb n
  exs:vi prog w P hb n
  call:xb prog w P hb n
  new:F2 prog w P hb n
  wh:Gi prog w P hb n
  fo:Ge prog w P hb n
  co:si prog w P hb n
section
variable {V:V}{S:Addr→Prop}{E:Value→Shared→Prop}
theorem zgg:Snd prog w P hb 0 where
  ev:=fun J J J J J J J J J J h=>aa h
  evs:=fun J J J J J J J J J J J h=>aa h
  tr:=fun J J J J J J J J J J h=>aa h
  bos:=fun J J J J J J J J J J J J h=>aa h
  trs:=fun J J J J J J J J J J J h=>aa h
  tst:=fun J J J J J J J J J J h=>aa h
  asg:=fun J J J J J J J J J J J J h=>aa h
  ass:=fun J J J J J J J J J J J J h=>aa h
  ex:=fun J J J J J J J J J J J h=>aa h
  exs:=fun J J J J J J J J J J J h=>aa h
  call:=fun J J J J J J J J J h=>aa h
  new:=fun J J J J J J J J J h=>aa h
  wh:=fun J J J J J J J J J J J J h=>aa h
  fo:=fun J J J J J J J J J J J J J J J h=>aa h
  co:=fun J J J J J J J J J J J J J J J J J J J J J J J J J h=>aa h
theorem za6(Z:Wld prog w P hb K) (H:Snd prog w P hb n) {fn k:Str}{fp pos:Pos}{kp:Pos}{args:List Expr}{kf:Expr}{l x y:Mine.V}{f:Nat}{k1 k2:Str}{σ3 σ4 σ5:Sto}
    (e0:fh args=true) (e1:(run P n).ev sc (.Name fn fp) ρ σ=some (.val (.builtin "sorted"),σ1)) (ek:seq k "key"=true) (e2:(run P n).evs sc args ρ σ1=some ([l],σ2)) (e3:(run P n).ev sc kf ρ σ2=some (.val (.ref f),σ3))
    (e4:bj σ3 l=some [x,y]) (e5:(run P n).call f [x] σ3=some (.str k1,σ4)) (e6:(run P n).call f [y] σ4=some (.str k2,σ5)) (e7:seq k1 k2=false)
    (R:Room A (n+1)) (X:EnvOk prog w sc env ρ g σ.next s.heap) (O:Ok prog w hb g σ s.heap) :
    EvGoal prog w hb A g σ s env (.Call (.Name fn fp) args [⟨some k,kf,kp⟩] pos) (push σ5 (.lst (if ox k2 k1 then [y,x] else [x,y]))) (.ref σ5.next):=fun Q E hQ=>by
  obtain rfl:=(pa _ _).mp ek
  have R0:=R.lt (T3 n)
  have hargs:∃a,args=[a]:=by
    have hl:=z8 n e2
    rcases args with _ | ⟨a,_ | ⟨b,r⟩⟩
    · cases hl
    · exact ⟨a,rfl⟩
    · cases hl
  obtain ⟨a,rfl⟩:=hargs
  rw [arm_eval_Call_Name']
  refine Y3 (H.ev _ _ _ _ _ _ _ _ _ _ e1 R0 X O _ _ fun u g₁ h₁ tk₁ x₁ O₁ r₁=>?_)
  obtain rfl:u = .builtin "sorted":=r₁
  have hkw:backToKw pos (keywordEach [⟨some (Str.ofString "key"),kf,kp⟩] env)=[(some (Str.ofString "key"),do let v ← eval kf env;standAt pos;pure v)]:=rfl
  rw [hkw]
  have each:=uo env pos e0
  refine callWith_of (P:=fun J=>True) (by rw [each.2.1];rfl) (fun h J=>y7 (fun a q=>by cases q) h) ?_
  have h0:starEach [a] env=[(false,eval a env)]:=each.1
  have hs:=H.evs _ _ _ _ _ _ A g₁ { s with heap:=h₁,toks:=tk₁ } env pos e2 R0 (X.ext x₁) O₁
  rw [h0] at hs ⊢
  refine evalArgs_kw (x:=eval a env) (rest:=[]) rfl (hs _ _ fun vs g₂ h₂ tk₂ x₂ O₂ r₂=>?_)
  obtain ⟨u,r',rfl,ru,r3⟩:=r₂
  obtain rfl:r'=[]:=r3
  have x12:=x₁.trans x₂
  show wpAny _ _ (do
    let v ← (do let v ← eval kf env;standAt pos;pure v)
    return v::(← holding [v] (evalAll []))) _ _ _
  refine Y3 (Y3 (H.ev _ _ _ _ _ _ _ _ { s with heap:=h₂,toks:=tk₂ } _ e3 R0 (X.ext x12) O₂ _ _ fun fv g₃ h₃ tk₃ x₃ O₃ r₃=>Y3 (Y6 (Y4 ?_))))
  obtain rfl:fv = .ref f:=r₃
  refine Y3 (Y5 (Y4 (Y4 ⟨trivial,?_⟩)))
  show wpAny _ _ (call (.builtin "sorted") [u] [(Str.ofString "key",.ref f)]) _ _ _
  exact zcq (s:={ s with heap:=h₃,toks:=tk₃ }) H.call R O₃ e4 (ru.ext x₃) e5 e6 e7 _ _ fun v g₄ h₄ tk₄ x₄ O₄ r₄=>hQ v g₄ h₄ tk₄ ((x12.trans x₃).trans x₄) O₄ r₄
theorem zi7(H:Al prog w P hb n) {op:BoolOp}{vs:List Expr}{pos:Pos}{b:Bool}(e:(run P n).bos sc op vs ρ σ=some (b,σ')) (R:Room A n) (X:EnvOk prog w sc env ρ g σ.next s.heap) (O:Ok prog w hb g σ s.heap):EvGoal prog w hb A g σ s env (.BoolOp op vs pos) σ' (.bool b):=fun Q E hQ=>
  jc (arm_eval_BoolOp ..) (H _ _ _ _ _ _ _ _ _ _ _ pos e R X O _ _ fun u g₁ h₁ tk₁ x₁ O₁ r₁=>hQ u g₁ h₁ tk₁ x₁ O₁ r₁)
theorem zn2(Z:Wld prog w P hb K) {x:Str}{pos:Pos}(e:u9 P n (run P n) sc ρ σ x=some (V,σ')) (X:EnvOk prog w sc env ρ g σ.next s.heap) (O:Ok prog w hb g σ s.heap):EvGoal prog w hb A g σ s env (.Name x pos) σ' V:=by
  refine ad e fun k hk e=>cq e (fun h e=>ad e fun v hv e=>bf e fun h1 h2=>?_) fun J e=>bc e fun h e=>?_
  · subst h1 h2
    exact zhn X O hk (zjt h) hv
  · rw [zla h] at hk
    cases hg:P.glob x with
    | some v=>rw [hg] at e;exact bf e fun h1 h2=>by subst h1 h2;exact Co Z.wd X O hk (.inl hg)
    | none=>rw [hg] at e;exact ad e fun v hv e=>bf e fun h1 h2=>by subst h1 h2;exact Co Z.wd X O hk (.inr ⟨hg,hv⟩)
theorem znh(H:dy prog w P hb n) {op:UnaryOp}{x:Expr}{pos:Pos}(e:F9 P n (run P n) sc ρ σ op x=some (V,σ')) (R:Room A n) (X:EnvOk prog w sc env ρ g σ.next s.heap) (O:Ok prog w hb g σ s.heap):EvGoal prog w hb A g σ s env (.UnaryOp op x pos) σ' V:=by
  refine aw e fun v σ1 e1 e=>ad e fun u hu e=>bf e fun h1 h2=>?_
  subst h1 h2
  cases op <;> first | exact aa hu | skip
  · exact ad hu fun b hb h=>by cases h;rw [P7 hb] at e1;exact zkq H e1 R X O
  · exact ad hu fun b hb h=>by cases h;rw [m9 hb] at e1;exact zib H e1 R X O
theorem zm8{i:Expr}(h:qy i=none) (o' i':Value):subscripted i false o' i'=operate [o',i'] (getItem o' i'):=by cases i <;> first | rfl | cases h
theorem zmz(H:dy prog w P hb n) {o i:Expr}{pos:Pos}(e:t6 P n (run P n) sc ρ σ o i=some (V,σ')) (R:Room A n) (X:EnvOk prog w sc env ρ g σ.next s.heap) (O:Ok prog w hb g σ s.heap):EvGoal prog w hb A g σ s env (.Subscript o i pos) σ' V:=by
  unfold t6 at e
  rcases hs:qy i with _ | ⟨lo,u,st⟩ <;> rw [hs] at e
  · exact aw e fun ov σ1 e1 e=>aw e fun iv σ2 e2 e=>ad e fun v e3 e=>bf e fun h1 h2=>by subst h1 h2;exact za1 H (zm8 hs) e1 e2 e3 R X O
  · obtain ⟨p,rfl⟩:=zd2 hs
    refine ad e fun b hr e=>aw e fun ov σ1 e1 e=>ad e fun xs e2 e=>bc e fun hz e=>bf e fun h1 h2=>?_
    subst h1 h2
    obtain ⟨rfl,⟨p1,p2,p3,rfl⟩,hu⟩:=zhs hr
    exact zhj H e1 e2 hz (hu.elim (fun h=>.inl ⟨h.1,by rw [h.2];rfl⟩) fun h=>.inr (let ⟨a,b,c⟩:=h.2;⟨a,b,c,by rw [h.1];rfl⟩)) R X O
theorem zqm(Z:Wld prog w P hb K) (H:dy prog w P hb n) {o:Expr}{m:Str}{pos:Pos}(e:G5 P n (run P n) sc ρ σ o m=some (V,σ')) (R:Room A n) (X:EnvOk prog w sc env ρ g σ.next s.heap) (O:Ok prog w hb g σ s.heap):EvGoal prog w hb A g σ s env (.Attribute o m pos) σ' V:=
  aw e fun ov σ1 e1 e=>bc e1 fun e0 e1=>qc e fun C ks vs e2 e=>ad e fun v ha e=>bf e fun h1 h2=>ad ha fun c hc ha=>bc ha fun e3 ha=>ad ha fun v' e4 ha=>kj ha fun hv ha=>by
    subst h1 h2
    cases ha
    exact za0 Z.inK H e0 e1 e2 (Z.cls _ _ hc) e3 e4 (fun u q=>by subst q;cases hv) R X O
theorem zow(Z:Wld prog w P hb K) (H:Snd prog w P hb n) {o:Expr}{m:Str}{apos pos:Pos}{args:List Expr}{kws:List Keyword}(e:Gn P n (run P n) sc ρ σ o m apos args kws pos=some (V,σ')) (R:Room A n) (X:EnvOk prog w sc env ρ g σ.next s.heap) (O:Ok prog w hb g σ s.heap):EvGoal prog w hb A g σ s env (.Call (.Attribute o m apos) args kws pos) σ' V:=by
  refine aw e fun ov σ1 e1 e'=>bc e1 fun hc e1'=>b7 hc fun ck hc=>b7 hc fun c1 hc=>b7 hc fun c2 hc=>b7 hc fun c3 c4=>?_
  obtain rfl:=jh ck
  rcases e2:fg σ1 ov with _ | ⟨C,ks,vs⟩ <;> rw [e2] at e'
  · refine aw e' fun xs σ2 e3 e'=>bc e3 fun hme e3=>J6 H.ev H.evs c1 c2 c3 c4 e1' e3 R X O fun g₁ h₁ tk u O₁ r₁=>?_
    exact ⟨.builtin (oy ov m),fun pl Q E q=>zej e' hme (s:={ s with heap:=h₁,toks:=tk }) O₁ r₁ q,fun h J=>y7 (fun a q=>by cases q) h,fun g₂ h₂ tk₂ vs O₂ r₂ rr=>zci (s:={ s with heap:=h₂,toks:=tk₂ }) O₂ e' r₂ rr⟩
  · refine ad e' fun f hf e'=>aw e' fun xs σ2 e3 e'=>ad hf fun c hcl hf=>bc hf fun hk hf=>?_
    obtain ⟨fd,hfd⟩:=Le e'
    refine J6 H.ev H.evs c1 c2 c3 c4 e1' e3 R X O fun g₁ h₁ tk u O₁ r₁=>⟨.ref f,fun pl Q E q=>za3 (s:={ s with heap:=h₁,toks:=tk }) Z.inK (Z.cls _ _ hcl) O₁ e2 hf (Uy.mp hk) r₁ q,Jp (Z.fns _ _ hfd),fun g₂ h₂ tk₂ vs O₂ r₂ rr=>?_⟩
    exact (H.call _ _ _ _ _ _ A g₂ { s with heap:=h₂,toks:=tk₂ } e' R O₂ (.cons r₂ rr)).does
theorem znu(Z:Wld prog w P hb K) (H:Snd prog w P hb n) {fn:Str}{fp pos:Pos}{args:List Expr}{kws:List Keyword}(e:G8 P n (run P n) sc ρ σ fn fp args kws=some (V,σ')) (R1:Room A (n+1)) (X:EnvOk prog w sc env ρ g σ.next s.heap) (O:Ok prog w hb g σ s.heap):EvGoal prog w hb A g σ s env (.Call (.Name fn fp) args kws pos) σ' V:=by
  have R:=R1.lt (T3 n)
  refine aw e fun u σ1 e1 e=>bc e1 fun e0 e1=>ad e fun fv hv e=>?_
  rw [Mp hv] at e1
  rcases kws with _ | ⟨⟨arg,kf,kp⟩,rest⟩
  · exact aw e fun xs σ2 e2 e=>zhr Z H.ev H.evs H.call H.new e0 e1 e2 e R X O
  · refine ad e fun k ha e=>bc ha fun he ha=>aw e fun ls σ2 e2 e=>bc e2 fun hs e2=>b7 hs fun hs ek=>ad e fun l hl e=>aw e fun kv σ3 e3 e=>ad e fun f hf e=>ad hf fun fu hfu hf=>aw e fun x y hxy e=>ad hxy fun ll e4 hxy=>
      aw e fun a σ4 e5 e=>ad e fun k1 h1 e=>aw e fun b σ5 e6 e=>ad e fun k2 h2 e=>kj e fun e7 e=>bf e fun q1 q2=>?_
    subst q1 q2
    obtain rfl:=jh he
    obtain rfl:arg=some k:=ha
    rw [zcn hs] at e1
    rw [n9 hl] at e2
    rw [Mp hfu,tl hf] at e3
    rw [yc hxy] at e4
    rw [qu h1] at e5
    rw [qu h2] at e6
    exact za6 Z H e0 e1 ek e2 e3 e4 e5 e6 e7 R1 X O
set_option maxHeartbeats 2000000 in
theorem zjw (Z:Wld prog w P hb K) (HA:∀k,k≤n→Snd prog w P hb k):dy prog w P hb (n+1):=fun sc ex ρ σ V σ' A g s env e R1 X O=>by
  have R:=R1.lt (T3 n)
  have H:=HA n (To n)
  cases ex with
  | Constant c k pos=>cases c <;> first | exact aa e | exact bf e fun h1 h2=>by subst h1 h2;exact zfe O rfl
  | Name x pos=>exact zn2 (n:=n) Z e X O
  | BoolOp op vs pos=>exact aw (x:=(run P n).bos sc op vs ρ σ) e fun b σ1 e1 e=>bf e fun h1 h2=>by subst h1 h2;exact zi7 H.bos e1 R X O
  | BinOp a op b pos=>exact aw (x:=(run P n).ev sc a ρ σ) e fun x σ1 e1 e=>aw e fun y σ2 e2 e=>zg9 H.ev e1 e2 e R X O
  | UnaryOp op x pos=>exact znh H.ev e R X O
  | IfExp t a b pos=>exact aw (x:=(run P n).tr sc t ρ σ) e fun c σ1 e1 e=>zf7 H.ev H.tr e1 (by cases c <;> exact e) R X O
  | Dict ks vs pos=>exact ad (x:=mz ks) e fun kl e1 e=>aw e fun xs σ1 e2 e=>bc e fun e3 e=>bf e fun h1 h2=>by subst h1 h2;exact zig Z.wd.nolimit (fun k hk=>(HA k hk).ev) e1 e2 e3 R X O
  | List es pos=>exact aw (x:=(run P n).evs sc es ρ σ) e fun xs σ1 e1 e=>bc e fun e2 e=>bf e fun h1 h2=>by subst h1 h2;exact zjc H.evs e1 e2 R X O
  | Tuple es k pos=>exact aw (x:=(run P n).evs sc es ρ σ) e fun xs σ1 e1 e=>bc e fun e2 e=>bf e fun h1 h2=>by subst h1 h2;exact zg1 H.evs e1 e2 R X O
  | ListComp elt gens csc pos=>
    rcases gens with _ | ⟨⟨tgt,iter,ifs,as⟩,gs⟩
    · exact aa e
    · exact bc (b:=decide (as=0)) e fun has e=>aw e fun it σ1 e1 e=>bc e1 fun hsc e1=>qc e fun xs ρe σ2 e2 e=>bf e fun h1 h2=>by
        obtain rfl:as=0:=of_decide_eq_true has
        subst h1 h2;exact zbg Z H.ev H.co hsc e1 e2 R X O
  | Compare a ops bs pos=>
    exact ad (x:=one ops) e fun op h1 e=>ad e fun b h2 e=>aw e fun x σ1 e1 e=>aw e fun y σ2 e2 e=>ad e fun c e3 e=>bf e fun q1 q2=>by
      obtain rfl:=n9 h1
      obtain rfl:=n9 h2
      subst q1 q2;exact zco H.ev e1 e2 e3 R X O
  | Attribute o m pos=>exact zqm Z H.ev e R X O
  | Subscript o i pos=>exact zmz H.ev e R X O
  | Call f args kws pos=>
    cases f with
    | Attribute o m apos=>exact zow Z H e R X O
    | Name fn fp=>exact znu Z H e R1 X O
    | _=>exact aa e
  | _=>exact aa e
end
end
section
section
variable {V:V}{S:Addr→Prop}{E:Value→Shared→Prop}
theorem EnvOk.set_local {x:Str}{v:Value}{m:Str→Option Value}(X:EnvOk prog w sc env ρ g N h) (hk:bm x sc.names=some .local) (hs:Heap.SameBut env.locals h h') (hm:h.Ns env.locals m)
    (hn:h'.Ns env.locals (fun y=>if y=x then some v else m y)) (r:Rl prog w g N V v):EnvOk prog w sc env (ac x V ρ) g N h' where
  kind:=X.kind
  glob:=X.glob
  blt:=X.blt
  inter:=X.inter
  names:=X.names
  dbg:=X.dbg
  loc :=by
    refine ⟨_,hn,fun y V' hy hl=>?_⟩
    rw [mi] at hy
    by_cases q:y=x
    · rw [if_pos q] at hy
      cases hy
      exact ⟨v,if_pos q,r⟩
    · rw [if_neg q] at hy
      obtain ⟨m',hm',hl'⟩:=X.loc
      obtain ⟨u,e1,e2⟩:=hl' y V' hy hl
      have:m y=m' y:=by
        obtain ⟨o,es,ep,h1,h2,_,h3⟩:=hm
        obtain ⟨o',es',ep',h1',h2',_,h3'⟩:=hm'
        rw [h1] at h1'
        cases h1'
        rw [h2] at h2'
        cases h2'
        rw [← h3 y,← h3' y]
      exact ⟨u,(if_neg q).trans (this.trans e1),e2⟩
  cel :=fun y k hy hc=>by
    obtain ⟨c,o,h1,⟨oc,h2,h2'⟩,h3,h4,h5,h6⟩:=X.cel y k hy hc
    refine ⟨c,o,h1,⟨oc,(hs.2 c h5).trans h2,h2'⟩,h3,h4,h5,fun V' hv=>?_⟩
    rw [mi] at hv
    have ne:y≠x:=fun q=>by
      subst q
      rw [hk] at hy
      cases hy
      rcases hc with c | c <;> cases c
    rw [if_neg ne] at hv
    exact h6 V' hv
  sepL:=X.sepL
  inj:=X.inj
theorem EnvOk.set_cell{x:Str}{v:Value}{c:Addr}(X:EnvOk prog w sc env ρ g N h) (hk:bm x sc.names=some .cell) (hc:env.cells.lookup x=some c) (hs:Heap.SameBut c h h')
    (hn:h'.IsCell c (some v)) (r:Rl prog w g N V v):EnvOk prog w sc env (ac x V ρ) g N h' where
  kind:=X.kind
  glob:=X.glob
  blt:=X.blt
  inter:=X.inter
  names:=X.names
  dbg:=X.dbg
  loc:=by
    obtain ⟨m,⟨o,es,ep,h1,r1⟩,hl⟩:=X.loc
    obtain ⟨c',o',e1,_,_,_,e2,_⟩:=X.cel x _ hk (.inl rfl)
    rw [hc] at e1
    cases e1
    refine ⟨m,⟨o,es,ep,(hs.2 _ (Ne.symm e2)).trans h1,r1⟩,fun y V' hy hl'=>?_⟩
    rw [mi] at hy
    have ne:y≠x:=fun q=>by subst q;rw [hk] at hl';cases hl'
    rw [if_neg ne] at hy
    exact hl y V' hy hl'
  cel :=fun y k hy hk'=>by
    by_cases q:y=x
    · subst q
      rw [hk] at hy
      cases hy
      obtain ⟨c',o,h1,_,h3,h4,h5,_⟩:=X.cel y _ hk (.inl rfl)
      rw [hc] at h1
      cases h1
      refine ⟨c,some v,hc,hn,h3,h4,h5,fun V' hv=>?_⟩
      rw [mi,if_pos rfl] at hv
      cases hv
      exact ⟨v,rfl,r⟩
    · obtain ⟨c',o,h1,⟨oc,h2,h2'⟩,h3,h4,h5,h6⟩:=X.cel y k hy hk'
      have ne:c'≠c:=fun e=>X.inj x y k c c' hk hy hk' hc h1 (Ne.symm q) e.symm
      refine ⟨c',o,h1,⟨oc,(hs.2 c' ne).trans h2,h2'⟩,h3,h4,h5,fun V' hv=>?_⟩
      rw [mi,if_neg q] at hv
      exact h6 V' hv
  sepL:=X.sepL
  inj:=X.inj
theorem Ext.one{Wr:Addr→Prop}{a:Addr}(hs:Heap.SameBut a h h') (l:Live h' a) (k:Wr a):Ext Wr g N h g N h':=
  Ext.weak (Ext.bar (S:=fun b=>b=a) (fun b o hb q=>(hs.2 b hb).trans q) (fun b q=>q▸l)) fun b q=>by subst q;exact k
theorem zfd{x:Str}{pos:Pos}{v:Value}(X:EnvOk prog w sc env ρ g σ.next s.heap) (O:Ok prog w hb g σ s.heap) (r:Rl prog w g σ.next V v) (hk:bm x sc.names=some .local∨bm x sc.names=some .cell) :
    Does prog w hb A (Own sc env) g σ s (assign (.Name x pos) env v) σ (fun g' h' J=>EnvOk prog w sc env (ac x V ρ) g' σ.next h'):=fun Q E hQ=>by
  refine wpAny_assign_Name ?_
  rcases hk with hk | hk
  · have hl:env.kindOf x=some .local:=by rcases X.names x _ hk with q | q;exact q;cases q.1
    obtain ⟨m,hm,_⟩:=X.loc
    refine wpAny_storeName_local hl hm (fun h' hn hs=>?_) (by rw [X.kind];rfl)
    have lv:Live h' env.locals:=let ⟨o,_,_,e,_⟩:=hn;⟨o,e⟩
    exact hQ () g h' _ (Ext.one hs lv (.inl rfl)) (O.priv X.sepL.1 X.sepL.2 (.same hs)) (X.set_local hk hs hm hn r)
  · have hl:env.kindOf x=some .cell:=by rcases X.names x _ hk with q | q;exact q;cases q.1
    obtain ⟨c,o,h1,h2,h3,h4,h5,_⟩:=X.cel x _ hk (.inl rfl)
    refine wpAny_storeName_cell X.kind hl h1 h2 fun h' hn hs=>?_
    have lv:Live h' c:=let ⟨o,e,_⟩:=hn;⟨o,e⟩
    exact hQ () g h' s.toks (Ext.one hs lv (.inr ⟨x,hk,h1⟩)) (O.priv h3 h4 (.same hs)) (X.set_cell hk h1 hs hn r)
theorem Iz{x:Expr}{v:Mine.V}{r:Loc×Sto}:∀{n:Nat},(run P n).asg sc x v ρ σ=some r→tw x=false
  | 0,e=>aa e
  | n+1,e=>by cases x <;> first | rfl | exact aa e
theorem H4{x:Expr}{es:List Expr}(h:tw x=false):assignEach (x::es) env=(false,assign x env)::assignEach es env:=by cases x <;> first | rfl | cases h
theorem zj:∀(n:Nat) {ts:List Expr}{xs:List Mine.V}{ρ:Loc}{σ:Sto}{r:Loc×Sto},(run P n).ass sc ts xs ρ σ=some r→assignEach ts env=ts.map fun t=>(false,assign t env)
  | 0,_,_,_,_,_,e=>aa e
  | n+1,[],_,_,_,_,_=>rfl
  | n+1,_::_,[],_,_,_,e=>aa e
  | n+1,t::ts,x::xs,ρ,σ,r,e=>aw (x:=(run P n).asg sc t x ρ σ) e fun ρ1 σ1 e1 e=>by
    rw [H4 (Iz e1),zj n e]
    rfl
theorem zhg(H:Snd prog w P hb n):Rr prog w P hb (n+1):=fun sc ts Vs vs ρ σ ρ' σ' A g s env e R X O r=>by
  have R:=R.lt (T3 n)
  rw [zj (env:=env) (n+1) e]
  cases ts with
  | nil=>
    refine bc (b:=Vs.isEmpty) e fun h e=>bf e fun h1 h2=>?_
    obtain rfl:=jh h
    subst h1 h2
    obtain rfl:vs=[]:=r
    exact fun Q E hQ=>Y4 (hQ () g s.heap s.toks (Ext.refl ..) O X)
  | cons t ts=>
    cases Vs with
    | nil=>exact aa e
    | cons x xs=>
      obtain ⟨v,r',rfl,r1,r2⟩:=r
      refine aw (x:=(run P n).asg sc t x ρ σ) e fun ρ1 σ1 e1 e=>fun Q E hQ=>?_
      show wpAny _ _ (holding r' (assign t env v) >>= fun J=>assignInOrder ((ts.map fun t=>(false,assign t env)).map (·.2)) r') _ _ _
      refine Y3 (Y5 (H.asg _ _ _ _ _ _ _ _ _ _ _ _ e1 R X O r1 _ _ fun J g₁ h₁ tk₁ x₁ O₁ X₁=>?_))
      rw [← zj (env:=env) n e]
      exact H.ass _ _ _ _ _ _ _ _ _ _ { s with heap:=h₁,toks:=tk₁ } _ e R X₁ O₁ (r2.ext x₁) _ _ fun J g₂ h₂ tk₂ x₂ O₂ X₂=>hQ () g₂ h₂ tk₂ (x₁.trans x₂) O₂ X₂
theorem zg5(H:Snd prog w P hb n) {ts:List Expr}{k:Nat}{pos:Pos}{v:Value}{ρ':Loc}(e:Fd P n (run P n) sc ρ σ V ts=some (ρ',σ')) (R:Room A n) (X:EnvOk prog w sc env ρ g σ.next s.heap) (O:Ok prog w hb g σ s.heap) (r:Rl prog w g σ.next V v) :
    Does prog w hb A (Own sc env) g σ s (assign (.Tuple ts k pos) env v) σ' (fun g' h' J=>EnvOk prog w sc env ρ' g' σ'.next h'):=ad e fun xs hu e4=>bc e4 fun hl e5=>fun Q E hQ=>by
  have hl:=Tu hl
  obtain rfl:=pn hu
  obtain ⟨a,vs,rfl,⟨c,ht⟩,rr⟩:=r
  have hlen:=rr.length
  have each:=zj (env:=env) n e5
  have ht':s.heap.IsTuple a vs.toArray:=⟨_,O.sub _ _ ht,rfl,c,rfl⟩
  refine wpAny_assign_Tuple R.handled ht' (by rw [each,Tm,hl,Uo,hlen]) ?_ fun h' hx=>?_
  · rw [each,List.findIdx?_eq_none_iff]
    intro x hx
    obtain ⟨t,_,rfl⟩:=Ud.mp hx
    rfl
  · have k':∀b o,s.heap.get? b=some o→h'.get? b=some o:=fun b o q=>hx b o (Uz (U3 q)) q
    have x₁:Ext ak g σ.next s.heap g σ.next h':=Ext.grow k'
    exact H.ass _ _ _ _ _ _ _ _ _ _ { s with heap:=h' } _ e5 R (X.ext x₁) (O.grow k') (rr.ext x₁) _ _ fun u g₂ h₂ tk₂ x₂ O₂ X₂=>hQ u g₂ h₂ tk₂ (Ext.trans (x₁.weak fun J q=>q.elim) x₂) O₂ X₂
theorem zgr(Z:Wld prog w P hb K) (H:Snd prog w P hb n) {o:Expr}{m:Str}{pos:Pos}{v:Value}{ρ':Loc}(e:Em P n (run P n) sc ρ σ V o m=some (ρ',σ')) (R:Room A n) (X:EnvOk prog w sc env ρ g σ.next s.heap) (O:Ok prog w hb g σ s.heap) (r:Rl prog w g σ.next V v) :
    Does prog w hb A (Own sc env) g σ s (assign (.Attribute o m pos) env v) σ' (fun g' h' J=>EnvOk prog w sc env ρ' g' σ'.next h'):=
  aw e fun ov σ1 e1 e=>ad e fun k hk e=>ad e fun o2 e2 e=>ad e fun o3 hp e=>bf e fun h1 h2=>qc hp fun C ks vs ho hp=>ad hp fun c hc hp=>bc hp fun h3 hp=>b7 h3 fun h3 h4=>fun Q E hQ=>by
    rw [Qp hk] at e1
    rw [S3 ho] at e2
    cases hp
    subst h1 h2
    refine jc (arm_assign_Attribute ..) (Y3 (Y5 (H.ev _ _ _ _ _ _ _ _ _ _ e1 R X O _ _ fun u g₁ h₁ tk₁ x₁ O₁ r₁=>Y3 (Y6 (Y3 (Y5 ?_))))))
    refine zcc (s:={ s with heap:=h₁,toks:=tk₁ }) Z.inK (Z.cls _ _ hc) O₁ e2 h3 h4 r₁ (r.ext x₁) _ _ fun J g₂ h₂ tk₂ x₂ O₂ J=>wpAny_release ?_
    have x12:=x₁.trans x₂
    exact hQ () g₂ h₂ tk₂ (x12.weak fun J q=>q.elim) O₂ (X.ext x12)
theorem zjj{k:Nat}{i:Mine.V}{o o':MObj}{ov u v:Value}(e:ab σ k=some o) (hp:yl V i o=some o') (O:Ok prog w hb g σ s.heap) (r1:Rl prog w g σ.next (.ref k) ov) (r2:Rl prog w g σ.next i u) (r3:Rl prog w g σ.next V v) :
    Does prog w hb A ak g σ s (setItem ov u v) (ah σ k o') (fun J J J=>True):=by
  cases i <;> first | exact aa hp | skip
  · exact ad hp fun xs ho hp=>bc hp fun h4 hp=>b7 h4 fun h4 h5=>by
      rw [G1 ho] at e
      cases hp;exact zch O e h4 (of_decide_eq_true h5) r1 r2 r3
  · exact aw hp fun ks vs ho hp=>bc hp fun h4 hp=>by
      rw [Sa ho] at e
      cases hp;exact zb5 O e h4 r1 r2 r3
theorem zfl(H:Snd prog w P hb n) {o i:Expr}{pos:Pos}{v:Value}{ρ':Loc}(e:F1 P n (run P n) sc ρ σ V o i=some (ρ',σ')) (R:Room A n) (X:EnvOk prog w sc env ρ g σ.next s.heap) (O:Ok prog w hb g σ s.heap) (r:Rl prog w g σ.next V v) :
    Does prog w hb A (Own sc env) g σ s (assign (.Subscript o i pos) env v) σ' (fun g' h' J=>EnvOk prog w sc env ρ' g' σ'.next h'):=
  aw e fun ov σ1 e1 e=>ad e fun k hk e=>aw e fun iv σ2 e2 e=>ad e fun o2 e3 e=>ad e fun o3 hp e=>bf e fun h1 h2=>fun Q E hQ=>by
    rw [Qp hk] at e1
    subst h1 h2
    refine jc (arm_assign_Subscript ..) (Y3 (Y5 (H.ev _ _ _ _ _ _ _ _ _ _ e1 R X O _ _ fun ov g₁ h₁ tk₁ x₁ O₁ r₁=>?_)))
    refine Y3 (Y5 (H.ev _ _ _ _ _ _ _ _ { s with heap:=h₁,toks:=tk₁ } _ e2 R (X.ext x₁) O₁ _ _ fun u g₂ h₂ tk₂ x₂ O₂ r₂=>?_))
    refine Y3 (Y6 (Y3 (Y5 ?_)))
    refine zjj (s:={ s with heap:=h₂,toks:=tk₂ }) e3 hp O₂ (r₁.ext x₂) r₂ ((r.ext x₁).ext x₂) _ _ fun J g₃ h₃ tk₃ x₃ O₃ J=>wpAny_release ?_
    have x13:=(x₁.trans x₂).trans x₃
    exact hQ () g₃ h₃ tk₃ (x13.weak fun J q=>q.elim) O₃ (X.ext x13)
theorem zhb(Z:Wld prog w P hb K) (H:Snd prog w P hb n):Ap prog w P hb (n+1):=fun sc t V v ρ σ ρ' σ' A g s env e R X O r=>by
  have R:=R.lt (T3 n)
  cases t with
  | Name x pos=>exact bc (b:=sk x sc) e fun h e=>bf e fun h1 h2=>by subst h1 h2;exact zfd X O r (Fa h)
  | Tuple ts k pos=>exact zg5 H e R X O r
  | Attribute o m pos=>exact zgr Z H e R X O r
  | Subscript o i pos=>exact zfl H e R X O r
  | _=>exact aa e
end
end
section
section
variable {V:V}{S:Addr→Prop}{E:Value→Shared→Prop}
theorem Nv(H:dy prog w P hb n) {ex:Expr}{b:Bool}(hi:∀wh,isTrue ex env wh=(do let v ← wh;standAt ex.pos;holding [v] (truthy v))) (e:dd (run P n) sc ex ρ σ=some (b,σ')) (R:Room A n) (X:EnvOk prog w sc env ρ g σ.next s.heap) (O:Ok prog w hb g σ s.heap):Does prog w hb A ak g σ s (isTrue ex env (eval ex env)) σ' (fun J J c=>c=b):=
  Ft e fun e1 Q E hQ=>PySem.wpAny_isTrue_value (H _ _ _ _ _ _ _ _ _ _ e1 R X O _ _ fun u g₁ h₁ tk₁ x₁ O₁ r₁=>by
    obtain rfl:u = .bool b:=r₁
    exact y6 (hQ _ _ _ _ x₁ O₁ rfl)) (hi _)
theorem zmy(H:dy prog w P hb n) {a y:Expr}{op:CmpOp}{pos:Pos}{b:Bool}{x z:Mine.V}(q1:(run P n).ev sc a ρ σ=some (x,σ1)) (q2:(run P n).ev sc y ρ σ1=some (z,σ')) (q3:bo σ' op x z=some b) (R:Room A n) (X:EnvOk prog w sc env ρ g σ.next s.heap) (O:Ok prog w hb g σ s.heap):Does prog w hb A ak g σ s (isTrue (.Compare a [op] [y] pos) env (eval (.Compare a [op] [y] pos) env)) σ' (fun J J c=>c=b):=fun Q E hQ=>by
  have hm:behindInMarks op y=false:=by cases y <;> first | rfl | (cases n <;> exact aa q2)
  refine PySem.wpAny_isTrue_Compare1 (H _ _ _ _ _ _ _ _ _ _ q1 R X O _ _ fun u g₁ h₁ tk₁ x₁ O₁ r₁=>?_) hm
  refine H _ _ _ _ _ _ _ _ { s with heap:=h₁,toks:=tk₁ } _ q2 R (X.ext x₁) O₁ _ _ fun v g₂ h₂ tk₂ x₂ O₂ r₂=>?_
  refine Ml (s:={ s with heap:=h₂,toks:=tk₂ }) O₂ q3 (r₁.ext x₂) r₂ (by have:=R.units;exact Q5 ‹_› (by decide)) _ _ fun c g₃ h₃ tk₃ x₃ O₃ r₃=>?_
  subst r₃
  exact y6 (hQ _ g₃ h₃ tk₃ ((x₁.trans x₂).trans x₃) O₃ rfl)
theorem zq1(H:r9 prog w P hb n) {t x y:Expr}{pos:Pos}{b c:Bool}(e1:(run P n).tr sc t ρ σ=some (c,σ1)) (e:cond c ((run P n).tr sc x ρ σ1) ((run P n).tr sc y ρ σ1)=some (b,σ')) (R:Room A n) (X:EnvOk prog w sc env ρ g σ.next s.heap) (O:Ok prog w hb g σ s.heap):Does prog w hb A ak g σ s (isTrue (.IfExp t x y pos) env (eval (.IfExp t x y pos) env)) σ' (fun J J c=>c=b):=fun Q E hQ=>by
  refine jc (arm_isTrue_IfExp ..) (Y3 (H _ _ _ _ _ _ _ _ _ _ e1 R X O _ _ fun u g₁ h₁ tk₁ x₁ O₁ r₁=>?_))
  subst r₁
  refine cdE e (fun q e=>?_) fun q e=>?_
  · subst q;exact H _ _ _ _ _ _ _ _ { s with heap:=h₁,toks:=tk₁ } _ e R (X.ext x₁) O₁ _ _ fun v g₂ h₂ tk₂ x₂ O₂ r₂=>hQ v g₂ h₂ tk₂ (x₁.trans x₂) O₂ r₂
  · subst q;exact H _ _ _ _ _ _ _ _ { s with heap:=h₁,toks:=tk₁ } _ e R (X.ext x₁) O₁ _ _ fun v g₂ h₂ tk₂ x₂ O₂ r₂=>hQ v g₂ h₂ tk₂ (x₁.trans x₂) O₂ r₂
theorem zjr (HA:∀k,k≤n→Snd prog w P hb k):r9 prog w P hb (n+1):=fun sc ex ρ σ b σ' A g s env e R X O=>by
  have R:=R.lt (T3 n)
  have H:=HA n (To n)
  cases ex with
  | UnaryOp op x pos=>
    cases op with
    | Not=>
      refine aw (x:=(run P n).tr sc x ρ σ) e fun c σ1 e1 e=>bf e fun h1 h2=>?_
      subst h1 h2
      exact fun Q E hQ=>PySem.wpAny_isTrue_Not (H.tr _ _ _ _ _ _ _ _ _ _ e1 R X O _ _ fun u g₁ h₁ tk₁ x₁ O₁ r₁=>hQ _ _ _ _ x₁ O₁ (congrArg not r₁))
    | _=>exact Nv H.ev (fun J=>rfl) e R X O
  | BoolOp op vs pos=>exact fun Q E hQ=>PySem.wpAny_isTrue_BoolOp (H.trs _ _ _ _ _ _ _ _ _ _ _ e R X O _ _ fun u g₁ h₁ tk₁ x₁ O₁ r₁=>hQ u g₁ h₁ tk₁ x₁ O₁ r₁)
  | IfExp t x y pos=>exact aw (x:=(run P n).tr sc t ρ σ) e fun c σ1 e1 e=>zq1 H.tr e1 e R X O
  | Compare a ops bs pos=>
    refine Ft e fun e1=>?_
    cases n with
    | zero=>exact aa e1
    | succ m=>
      exact ad (x:=one ops) e1 fun op h1 e=>ad e fun y h2 e=>aw e fun x σ1 q1 e=>aw e fun z σ2 q2 e=>ad e fun c q3 e=>bf e fun h3 h4=>by
        obtain rfl:=n9 h1
        obtain rfl:=n9 h2
        subst h4
        cases h3
        exact zmy (HA m (T3 m)).ev q1 q2 q3 (R.lt (T3 m)) X O
  | _=>exact Nv H.ev (fun J=>rfl) e R X O
theorem zfq(H:Snd prog w P hb n):vi prog w P hb (n+1):=fun sc ss ρ σ f ρ' σ' A g s env e R X O=>by
  have R:=R.lt (T3 n)
  cases q:ic P ss ρ σ with
  | mk ρ0 σ0=>
  obtain ⟨g0,O0,X0,x0⟩:=zh8 q X O
  have x0':Ext (Own sc env) g σ.next s.heap g0 σ0.next s.heap:=x0.weak fun J c=>c.elim
  replace e:Bh P n (run P n) sc ss ρ σ=some (f,ρ',σ'):=e
  unfold Bh at e
  rw [q] at e
  clear q x0 X O
  cases ss with
  | nil=>
    exact jv e fun h1 h2 h3=>by
      subst h1 h2 h3
      exact fun Q E hQ=>PySem.wpAny_execs_nil (hQ _ g0 s.heap s.toks x0' O0 ⟨X0,rfl⟩)
  | cons st ss=>
    refine qc (x:=(run P n).ex sc st ρ0 σ0) e fun f1 ρ1 σ1 e1 e Q E hQ=>jc (arm_execs_cons ..) (Y3 (H.ex _ _ _ _ _ _ _ _ _ _ _ e1 R X0 O0 _ _ fun fl g₁ h₁ tk₁ x₁ O₁ r₁=>?_))
    refine cq e (fun hf e=>?_) fun hf e=>jv e fun h1 h2 h3=>?_
    · have hn:f1 = .next:=by cases f1 <;> first | rfl | cases hf
      subst hn
      obtain rfl:fl = .next:=r₁.2
      exact H.exs _ _ _ _ _ _ _ _ _ { s with heap:=h₁,toks:=tk₁ } _ e R r₁.1 O₁ _ _ fun fl g₂ h₂ tk₂ x₂ O₂ r₂=>hQ fl g₂ h₂ tk₂ (x0'.trans (x₁.trans x₂)) O₂ r₂
    · subst h1 h2 h3
      have z:=hQ fl g₁ h₁ tk₁ (x0'.trans x₁) O₁ r₁
      replace r₁:=r₁.2
      clear hQ
      cases f1 with
      | next=>cases hf
      | brk=>obtain rfl:fl = .brk:=r₁;exact Y4 z
      | cont=>obtain rfl:fl = .cont:=r₁;exact Y4 z
      | ret v=>obtain ⟨u,rfl,_⟩:=r₁;exact Y4 z
theorem zde(Z:Wld prog w P hb K) (H:Snd prog w P hb n):xb prog w P hb (n+1):=fun f Vs vs σ V σ' A g s e R O r=>by
  refine ad (x:=P.fn f) e fun fd hf e=>?_
  cases e1:iz P n f Vs σ with
  | some v=>rw [e1] at e;exact bf e fun h1 h2=>by subst h1 h2;exact zbd Z.con Z.fre e1 (R.lt (T3 n)) O r
  | none=>
    rw [e1] at e
    exact ad e fun ρ e1 e=>qc e fun fl ρ2 σ1 e2 e=>ad e fun v hv e=>bf e fun h1 h2=>by
      subst h1 h2
      rcases zkb hv with h | ⟨h,h'⟩
      · subst h;exact Ja H.exs Z.wd.nolimit (Z.fns _ _ hf) R O r e1 e2 (.inl rfl)
      · subst h h';exact Ja H.exs Z.wd.nolimit (Z.fns _ _ hf) R O r e1 e2 (.inr ⟨rfl,rfl⟩)
theorem zgc{v:Mine.V}(h:isNone v=some true):v = .none:=by cases v <;> first | rfl | cases h
theorem zft(Z:Wld prog w P hb K) (H:Snd prog w P hb n):F2 prog w P hb (n+1):=fun C Vs vs σ V σ' A g s e R O r=>
  ad (x:=P.cls C) e fun c hc e=>aw e fun v σ1 e1 e=>ad e fun b hb e=>bc e fun ht e=>bf e fun h1 h2=>by
    subst h1 h2 ht
    rw [zgc hb] at e1
    exact (zks H.call Z.inK (Z.cls _ _ hc) R O r e1).does
end
end
section
noncomputable def uy(l:List (Str×V)) (ρ:Loc):Loc:=l.foldl (fun ρ p=>ac p.1 p.2 ρ) ρ
theorem Ca (y:Str):∀(l:List (Str×V)) (ρ:Loc),(l.map (·.1)).Nodup→ae y (uy l ρ)=match l.lookup y with | some v=>some v | none=>ae y ρ
  | [],ρ,_=>rfl
  | (x, v)::r,ρ,nd=>by
    rw [T5,Vq] at nd
    show ae y (uy r (ac x v ρ))=_
    rw [Ca y r _ nd.2,Um]
    by_cases q:y=x
    · subst q
      rw [beq_self_eq_true]
      have:r.lookup y=none:=by
        cases c:r.lookup y with
        | none=>rfl
        | some w=>exact absurd (Ud.mpr ⟨(y,w),mem_of_lookup c,rfl⟩) nd.1
      rw [this]
      dsimp only
      rw [mi,if_pos rfl]
    · have:(y == x)=false:=by rw [beq_eq_false_iff_ne];exact q
      rw [this]
      cases c:r.lookup y with
      | some w=>rfl
      | none=>dsimp only;rw [mi,if_neg q]
theorem zaq{l l':List (Str×V)}(nd:(l.map (·.1)).Nodup) (nd':(l'.map (·.1)).Nodup) (h:∀p,p∈l↔p∈l') (y:Str):l.lookup y=l'.lookup y:=by
  cases q:l.lookup y with
  | some v=>
    have:=(h _).mp (mem_of_lookup q)
    exact (un nd' this).symm
  | none=>
    cases q':l'.lookup y with
    | none=>rfl
    | some v=>
      have:=un nd ((h _).mpr (mem_of_lookup q'))
      rw [q] at this;cases this
section
variable {V:V}{S:Addr→Prop}{E:Value→Shared→Prop}
theorem Iq:∀(ns:List Str) (Vs:List Mine.V) (vs:List Value) (ρ:Loc) (g:Gh) (s:Shared),(∀n∈ns,bm n sc.names=some .local)→ns.length=Vs.length→RlL prog w g σ.next Vs vs→EnvOk prog w sc env ρ g σ.next s.heap→Ok prog w hb g σ s.heap→
    Does prog w hb A (Own sc env) g σ s (assignInOrder (ns.map fun n=>bindName env n) vs) σ (fun g' h' J=>EnvOk prog w sc env (uy (ns.zip Vs) ρ) g' σ.next h')
  | [],Vs,vs,ρ,g,s,_,hl,r,X,O=>by
    intro Q E hQ
    cases Vs with
    | nil=>
      exact Y4 (hQ () g s.heap s.toks (Ext.refl ..) O X)
    | cons=>cases hl
  | n :: ns,Vs,vs,ρ,g,s,hk,hl,r,X,O=>by
    rcases Vs with _ | ⟨V,Vs⟩
    · cases hl
    obtain ⟨v,r',e,r1,r2⟩:=r
    subst e
    intro Q E hQ
    show wpAny _ _ (holding r' (bindName env n v) >>= fun J=>assignInOrder (ns.map fun n=>bindName env n) r') _ _ _
    refine Y3 (Y5 ?_)
    have hkn:=hk n (Tj ..)
    have hln:env.kindOf n=some .local:=by rcases X.names n _ hkn with q | q;exact q;cases q.1
    obtain ⟨m,hm,_⟩:=X.loc
    refine wpAny_bindName (wpAny_storeName_local hln hm (fun h' hn hs=>?_) (by rw [X.kind];rfl))
    have lv:Live h' env.locals:=let ⟨o,_,_,e,_⟩:=hn;⟨o,e⟩
    have x₁:Ext (Own sc env) g σ.next s.heap g σ.next h':=Ext.one hs lv (.inl rfl)
    exact Iq ns Vs r' (ac n V ρ) g { s with heap:=h',toks:=s.toks+1 } (fun z hz=>hk z (Ti _ hz)) (Vm.inj hl) r2 (X.set_local hkn hs hm hn r1) (O.priv X.sepL.1 X.sepL.2 (.same hs)) _ _
      fun u g₂ h₂ tk₂ x₂ O₂ X₂=>hQ u g₂ h₂ tk₂ (x₁.trans x₂) O₂ X₂
def SwOk (env:Env) (line:Nat) (t value:Expr):Prop:=(∃elt gens csc p x px b,value = .ListComp elt gens csc p∧t = .Name x px∧swapsWithSole [t] value line env=pure b)∨swapsWithSole [t] value line env=pure false∨(∃a b c d,value = .SetComp a b c d)∨(∃a b c d e,value = .DictComp a b c d e)
theorem SwOk.of{line:Nat}{t value:Expr}(h:swapsWithSole [t] value line env=pure false):SwOk env line t value:=.inr (.inl h)
theorem zcb{t value:Expr}{line:Nat}:SwOk env line t value:=
  @Tt (fun value=>SwOk env line t value) value (fun J J J=>SwOk.of rfl) (fun J J J=>SwOk.of rfl) (fun J J J J=>SwOk.of rfl) (fun J J J=>SwOk.of rfl) (fun J J J J=>SwOk.of rfl) (fun J J J J=>SwOk.of rfl) (fun J J J=>SwOk.of rfl) (fun J J J=>SwOk.of rfl) (fun a b c d=>@Tt (fun t=>SwOk env line t (.ListComp a b c d)) t (fun J J J=>SwOk.of rfl) (fun J J J=>SwOk.of rfl) (fun J J J J=>SwOk.of rfl) (fun J J J=>SwOk.of rfl) (fun J J J J=>SwOk.of rfl) (fun J J J J=>SwOk.of rfl) (fun J J J=>SwOk.of rfl) (fun J J J=>SwOk.of rfl) (fun J J J J=>SwOk.of rfl) (fun J J J J=>SwOk.of rfl) (fun J J J J J=>SwOk.of rfl) (fun J J J J=>SwOk.of rfl) (fun J J=>SwOk.of rfl) (fun J J=>SwOk.of rfl) (fun J J=>SwOk.of rfl) (fun J J J J=>SwOk.of rfl) (fun J J J J=>SwOk.of rfl) (fun J J J J=>SwOk.of rfl) (fun J J=>SwOk.of rfl) (fun J J J=>SwOk.of rfl) (fun J J J=>SwOk.of rfl) (fun J J J=>SwOk.of rfl) (fun J J=>SwOk.of rfl) (fun J J=>.inl ⟨_,_,_,_,_,_,_,rfl,rfl,rfl⟩) (fun J J=>SwOk.of rfl) (fun J J J=>SwOk.of rfl) (fun J J J J=>SwOk.of rfl)) (fun J J J J=>.inr (.inr (.inl ⟨_,_,_,_,rfl⟩))) (fun J J J J J=>.inr (.inr (.inr ⟨_,_,_,_,_,rfl⟩))) (fun J J J J=>SwOk.of rfl) (fun J J=>SwOk.of rfl) (fun J J=>SwOk.of rfl) (fun J J=>SwOk.of rfl) (fun J J J J=>SwOk.of rfl) (fun J J J J=>SwOk.of rfl) (fun J J J J=>SwOk.of rfl) (fun J J=>SwOk.of rfl) (fun J J J=>SwOk.of rfl) (fun J J J=>SwOk.of rfl) (fun J J J=>SwOk.of rfl) (fun J J=>SwOk.of rfl) (fun J J=>SwOk.of rfl) (fun J J=>SwOk.of rfl) (fun J J J=>SwOk.of rfl) (fun J J J J=>SwOk.of rfl)
theorem H8{α β:Type}(f:α→Option β):∀(l:List α),(l.filterMap f).length=l.length→l.map f=(l.filterMap f).map some
  | [],_=>rfl
  | x :: l,h=>by
    rw [W7] at h ⊢
    cases q:f x with
    | none=>
      rw [q] at h
      have:=List.length_filterMap_le f l
      simp only [Tl] at h
      lia
    | some y=>
      rw [q] at h
      simp only [Tl] at h
      rw [T5,T5,q,H8 f l (by lia)]
theorem Ic:∀(k:Nat) (l:List Str),l.length≤k→l.eraseDups.length≤l.length
  | _,[],_=>by simp
  | 0,_::_,h=>by simp at h
  | k+1,a::as,h=>by
    rw [Yp,Tl,Tl]
    have h1:=Vj (fun b=>!b == a) as
    have h2:=Ic k (as.filter fun b=>!b == a) (by simp only [Tl] at h;lia)
    lia
theorem Hz:∀{l:List Str},l.eraseDups.length=l.length→l.Nodup
  | [],_=>Ye
  | a::as,h=>by
    rw [Yp,Tl,Tl] at h
    have h1:=Vj (fun b=>!b == a) as
    have h2:=Ic _ (as.filter fun b=>!b == a) (To _)
    have h3:(as.filter fun b=>!b == a).length=as.length:=by lia
    have h5:=List.length_filter_eq_length_iff.mp h3
    have h4:(as.filter fun b=>!b == a)=as:=Up.mpr h5
    rw [h4] at h
    refine Vq.mpr ⟨fun hm=>?_,Hz (by lia)⟩
    have:=h5 a hm
    simp at this
def SwSt (env:Env) (t value:Expr):Prop:=swappedStores [t] value env=pure none∨(∃ts k p vs k' p',t = .Tuple ts k p∧value = .Tuple vs k' p')∨∃ts p,t = .List ts p
theorem SwSt.of{t value:Expr}(h:swappedStores [t] value env=pure none):SwSt env t value:=.inl h
theorem zrw{t value:Expr}:SwSt env t value:=
  @Tt (fun t=>SwSt env t value) t (fun J J J=>SwSt.of rfl) (fun J J J=>SwSt.of rfl) (fun J J J J=>SwSt.of rfl) (fun J J J=>SwSt.of rfl) (fun J J J J=>SwSt.of rfl) (fun J J J J=>SwSt.of rfl) (fun J J J=>SwSt.of rfl) (fun J J J=>SwSt.of rfl) (fun J J J J=>SwSt.of rfl) (fun J J J J=>SwSt.of rfl) (fun J J J J J=>SwSt.of rfl) (fun J J J J=>SwSt.of rfl) (fun J J=>SwSt.of rfl) (fun J J=>SwSt.of rfl) (fun J J=>SwSt.of rfl) (fun J J J J=>SwSt.of rfl) (fun J J J J=>SwSt.of rfl) (fun J J J J=>SwSt.of rfl) (fun J J=>SwSt.of rfl) (fun J J J=>SwSt.of rfl) (fun J J J=>SwSt.of rfl) (fun J J J=>SwSt.of rfl) (fun J J=>SwSt.of rfl) (fun J J=>SwSt.of rfl) (fun J J=>.inr (.inr ⟨_,_,rfl⟩)) (fun a b c=>@Tt (fun value=>SwSt env (.Tuple a b c) value) value (fun J J J=>SwSt.of rfl) (fun J J J=>SwSt.of rfl) (fun J J J J=>SwSt.of rfl) (fun J J J=>SwSt.of rfl) (fun J J J J=>SwSt.of rfl) (fun J J J J=>SwSt.of rfl) (fun J J J=>SwSt.of rfl) (fun J J J=>SwSt.of rfl) (fun J J J J=>SwSt.of rfl) (fun J J J J=>SwSt.of rfl) (fun J J J J J=>SwSt.of rfl) (fun J J J J=>SwSt.of rfl) (fun J J=>SwSt.of rfl) (fun J J=>SwSt.of rfl) (fun J J=>SwSt.of rfl) (fun J J J J=>SwSt.of rfl) (fun J J J J=>SwSt.of rfl) (fun J J J J=>SwSt.of rfl) (fun J J=>SwSt.of rfl) (fun J J J=>SwSt.of rfl) (fun J J J=>SwSt.of rfl) (fun J J J=>SwSt.of rfl) (fun J J=>SwSt.of rfl) (fun J J=>SwSt.of rfl) (fun J J=>SwSt.of rfl) (fun J J J=>.inr (.inl ⟨_,_,_,_,_,_,rfl,rfl⟩)) (fun J J J J=>SwSt.of rfl)) (fun J J J J=>SwSt.of rfl)
def pp (env:Env) (line:Nat) (t:Expr):Option Str:=match t with
  | .Name id pos=>if env.kindOf id == some .local&&pos.line == line then some id else none
  | _=>none
def Fi (env:Env) (t:Expr) (r:Option (List Str)):Prop:=∀names,r=some names→∃ts k p,t = .Tuple ts k p∧names.Nodup∧∃line:Nat,ts.map (pp env line)=names.map some
theorem Bo{α:Type}{R:Option α→Prop}{c:Bool}{X:Sem (Option α)}(h1:c=true→∃r,(pure none:Sem (Option α))=pure r∧R r) (h2:c=false→∃r,X=pure r∧R r):∃r,(if c=true then pure none else X)=pure r∧R r:=by
  cases c
  · exact h2 rfl
  · exact h1 rfl
theorem zbf{ts vs:List Expr}{k k':Nat}{p p':Pos}(hb':qq (.Tuple ts k p) (.Tuple vs k' p')=false):∃r,swappedStores [.Tuple ts k p] (.Tuple vs k' p') env=pure r∧Fi env (.Tuple ts k p) r:=by
  have no:∃r,(pure none:Sem (Option (List Str)))=pure r∧Fi env (.Tuple ts k p) r:=⟨none,rfl,fun J q=>nomatch q⟩
  let line:Nat:=(ts.head?.map (·.pos.line)).getD 0
  refine Bo (fun J=>no) fun J=>Bo (fun J=>no) fun J=>Bo (c:=(ts.filterMap (pp env line)).length != ts.length||(ts.filterMap (pp env line)).eraseDups.length != (ts.filterMap (pp env line)).length) (fun J=>no) fun c3=>Bo (fun J=>no) fun c4=>?_
  have c5:vs.all (constantsAlone 8)=false:=by
    have q:(vs.all (constantsAlone 8) && !vs.all (foldedForSure 8))=false:=hb'
    rw [c4] at q
    simpa using q
  refine ⟨some (ts.filterMap (pp env line)),if_neg (by rw [c5];exact Ts),fun ns q=>?_⟩
  rw [← Uj.inj q]
  rw [V1,bne_eq_false_iff_eq,bne_eq_false_iff_eq] at c3
  exact ⟨ts,k,p,rfl,Hz c3.2,line,H8 _ ts c3.1⟩
theorem za7{t value:Expr}(hl:∀ts p,t≠.List ts p) (hb':qq t value=false):∃r,swappedStores [t] value env=pure r∧Fi env t r:=by
  rcases zrw (env:=env) (t:=t) (value:=value) with h | ⟨ts,k,p,vs,k',p',rfl,rfl⟩ | ⟨ts,p,rfl⟩
  · exact ⟨none,h,fun J q=>nomatch q⟩
  · exact zbf hb'
  · exact absurd rfl (hl _ _)
end
end
section
theorem Ea{α β:Type}:∀(a:List α) (b:List β),a.length=b.length→a.reverse.zip b.reverse=(a.zip b).reverse
  | [],[],_=>rfl
  | x::a,y::b,h=>by
    have h':=Vm.inj h
    rw [Vn,Vn,Ub,Vn,← Ea a b h',List.zip_append (by rw [Vg,Vg];exact h')]
    rfl
section
variable {V:V}{S:Addr→Prop}{E:Value→Shared→Prop}
theorem zju{line:Nat}{t:Expr}{nm:Str}(h:pp env line t=some nm):∃pos,t = .Name nm pos∧env.kindOf nm=some .local:=
  (@Tt (fun t=>pp env line t=some nm→∃pos,t = .Name nm pos∧env.kindOf nm=some .local) t (fun J J J=>aa) (fun J J J=>aa) (fun J J J J=>aa) (fun J J J=>aa) (fun J J J J=>aa) (fun J J J J=>aa) (fun J J J=>aa) (fun J J J=>aa) (fun J J J J=>aa) (fun J J J J=>aa) (fun J J J J J=>aa) (fun J J J J=>aa) (fun J J=>aa) (fun J J=>aa) (fun J J=>aa) (fun J J J J=>aa) (fun J J J J=>aa) (fun J J J J=>aa) (fun J J=>aa) (fun J J J=>aa) (fun J J J=>aa) (fun J J J=>aa) (fun J J=>aa) (fun id pos h=>bc h fun hk h=>b7 hk fun hk J=>(Uj.inj h)▸⟨pos,rfl,beq_iff_eq.mp hk⟩) (fun J J=>aa) (fun J J J=>aa) (fun J J J J=>aa)) h
theorem Ju(X:∀x k,bm x sc.names=some k→env.kindOf x=some k∨(k = .free∧env.kindOf x=some .cell)) {line:Nat}:∀(n:Nat) (ts:List Expr) (names:List Str) (xs:List Mine.V) (ρ:Loc) (σ:Sto) (ρ':Loc) (σ':Sto),(run P n).ass sc ts xs ρ σ=some (ρ',σ')→
    ts.map (pp env line)=names.map some→ρ'=uy (names.zip xs) ρ∧σ'=σ∧names.length=xs.length∧∀n∈names,bm n sc.names=some .local
  | 0,_,_,_,_,_,_,_,e,_=>aa e
  | n + 1,[],names,xs,ρ,σ,ρ',σ',e,hm=>by
    cases names with
    | cons=>cases hm
    | nil=>
      refine bc (b:=xs.isEmpty) e fun h e=>bf e fun h1 h2=>?_
      obtain rfl:=jh h
      exact ⟨h1.symm,h2.symm,rfl,fun J h=>nomatch h⟩
  | n+1,t::ts,names,[],ρ,σ,ρ',σ',e,hm=>aa e
  | n+1,t::ts,[],x::xs,ρ,σ,ρ',σ',e,hm=>nomatch hm
  | n + 1,t::ts,nm::names,x::xs,ρ,σ,ρ',σ',e,hm=>aw (x:=(run P n).asg sc t x ρ σ) e fun ρ1 σ1 e1 e=>by
    rw [T5,T5] at hm
    injection hm with h1 h2
    obtain ⟨a,b,c,d⟩:=Ju X n ts names xs _ _ _ _ e h2
    obtain ⟨pos,rfl,hk⟩:=zju h1
    cases n with
    | zero=>exact aa e1
    | succ m=>
      refine bc (b:=sk nm sc) e1 fun hs e1=>bf e1 fun q1 q2=>?_
      have hl:bm nm sc.names=some .local:=(Fa hs).elim id fun q=>(X nm _ q).elim (fun c=>by rw [hk] at c;cases c) fun c=>by cases c.1
      subst q1 q2
      exact ⟨a,b,congrArg Vm c,fun z hz=>(Tz.mp hz).elim (fun q=>q▸hl) (d z)⟩
theorem zgp{names:List Str}{xs:List Mine.V}{ρ:Loc}{y:Str}{V':Mine.V}(nd:names.Nodup) (hl:names.length=xs.length) (hy:ae y (uy (names.zip xs) ρ)=some V'):ae y (uy (names.reverse.zip xs.reverse) ρ)=some V':=by
  have nd1:((names.zip xs).map (·.1)).Nodup:=by
    rw [Xq (Xw hl)];exact nd
  have nd2:((names.reverse.zip xs.reverse).map (·.1)).Nodup:=by
    rw [Ea names xs hl,List.map_reverse]
    exact (List.reverse_perm _).nodup_iff.mpr nd1
  rw [Ca y _ _ nd2,zaq nd2 nd1 (fun p=>by rw [Ea names xs hl];exact List.mem_reverse),← Ca y _ _ nd1]
  exact hy
theorem zdv{names:List Str}{ts:List Expr}{k line:Nat}{p:Pos}{v:Mine.V}{u:Value}{ρ':Loc}{L:List (Value→Sem Unit)}(nd:names.Nodup) (hm:ts.map (pp env line)=names.map some) (e2:(run P n).asg sc (.Tuple ts k p) v ρ σ=some (ρ',σ')) (R:Room A n) (X:EnvOk prog w sc env ρ g σ.next s.heap) (O:Ok prog w hb g σ s.heap) (r₁:Rl prog w g σ.next v u) :
    Does prog w hb A (Own sc env) g σ s (assignStores env u (some names) L) σ' (fun g' h' fl=>EnvOk prog w sc env ρ' g' σ'.next h'∧fl = .next):=fun Q E hQ=>by
  cases n with
  | zero=>exact aa e2
  | succ m=>
    refine ad (x:=f6 v) e2 fun xs hu e3=>bc e3 fun J e4=>?_
    obtain rfl:=pn hu
    obtain ⟨a,vs,rfl,⟨c,ht⟩,rr⟩:=r₁
    obtain ⟨rfl,rfl,hl,hloc⟩:=Ju X.names m ts names xs ρ σ ρ' σ' e4 hm
    show wpAny _ _ (do rule "assign.swapped-stores";let items ← unpackItems (.ref a) names.length none;assignInOrder (names.reverse.map fun n=>bindName env n) items.reverse;pure Flow.next) _ _ _
    refine Y3 (wpAny_rule ?_)
    rw [show names.length=vs.toArray.size from hl.trans rr.length.symm]
    refine Y3 (wpAny_unpackItems_tuple R.handled (⟨_,O.sub _ _ ht,rfl,c,rfl⟩:s.heap.IsTuple a vs.toArray) fun h' hx=>?_)
    have k':∀b o,s.heap.get? b=some o→h'.get? b=some o:=fun b o q=>hx b o (Uz (U3 q)) q
    have x₂:Ext ak g σ'.next s.heap g σ'.next h':=Ext.grow k'
    refine Y3 (Iq (s:={ s with heap:=h',toks:=s.toks }) names.reverse xs.reverse vs.reverse ρ g (fun z hz=>hloc z (List.mem_reverse.mp hz)) (by rw [Vg,Vg,hl]) (rr.ext x₂).rev (X.ext x₂) (O.grow k') _ _ fun J g₃ h₃ tk₃ x₃ O₃ X₃=>Y4 ?_)
    refine hQ _ g₃ h₃ tk₃ (Ext.trans (x₂.weak fun J q=>q.elim) x₃) O₃ ⟨X₃.map (Ext.refl ..) fun y V' hy=>⟨V',zgp nd hl hy,fun v r=>r⟩,rfl⟩
theorem zd6(H:Snd prog w P hb n) {t value:Expr}{v:Mine.V}{ρ':Loc}(hsw:qq t value=false) (hnl:∀ts p,t≠.List ts p) (e1:(run P n).ev sc value ρ σ=some (v,σ1)) (e2:(run P n).asg sc t v ρ σ1=some (ρ',σ'))
    (R:Room A n) (X:EnvOk prog w sc env ρ g σ.next s.heap) (O:Ok prog w hb g σ s.heap) :
    Does prog w hb A (Own sc env) g σ s (do let v ← eval value env;assignStores env v (← swappedStores [t] value env) [assign t env]) σ' (fun g' h' fl=>EnvOk prog w sc env ρ' g' σ'.next h'∧fl = .next):=fun Q E hQ=>by
  refine Y3 (H.ev _ _ _ _ _ _ _ _ _ _ e1 R X O _ _ fun u g₁ h₁ tk₁ x₁ O₁ r₁=>?_)
  obtain ⟨r,hr,hn⟩:=za7 (env:=env) hnl hsw
  have hQ':=fun fl g' h' tk x O q=>hQ fl g' h' tk (Ext.trans (x₁.weak fun J q=>q.elim) x) O q
  refine Y3 (wpAny_of_eq hr ?_)
  cases r with
  | none=>exact Y3 (H.asg _ _ _ _ _ _ _ _ _ _ { s with heap:=h₁,toks:=tk₁ } _ e2 R (X.ext x₁) O₁ r₁ _ _ fun J g₂ h₂ tk₂ x₂ O₂ X₂=>Y4 (hQ' _ g₂ h₂ tk₂ x₂ O₂ ⟨X₂,rfl⟩))
  | some names=>
    obtain ⟨ts,k,p,rfl,nd,line,hm⟩:=hn names rfl
    exact zdv (s:={ s with heap:=h₁,toks:=tk₁ }) nd hm e2 R (X.ext x₁) O₁ r₁ _ _ hQ'
theorem zmu (Z:Wld prog w P hb K) (HA:∀k,k≤n→Snd prog w P hb k) {elt:Expr}{gens:List Comprehension}{p px:Pos}{x:Str}{v:Mine.V}{ρ':Loc}(e1:(run P n).ev sc (.ListComp elt gens csc p) ρ σ=some (v,σ1)) (e2:(run P n).asg sc (.Name x px) v ρ σ1=some (ρ',σ'))
    (R:Room A n) (X:EnvOk prog w sc env ρ g σ.next s.heap) (O:Ok prog w hb g σ s.heap) :
    Does prog w hb A (Own sc env) g σ s (evalThenUse (.ListComp elt gens csc p) env (fun v=>assignAll v [assign (.Name x px) env]) >>= fun J=>pure Flow.next) σ' (fun g' h' fl=>EnvOk prog w sc env ρ' g' σ'.next h'∧fl = .next):=fun Q E hQ=>by
  have H:=HA n (To n)
  cases n with
  | zero=>exact aa e1
  | succ m=>
    have Hm:=HA m (T3 m)
    have Rm:=R.lt (T3 m)
    rcases gens with _ | ⟨⟨tgt,iter,ifs,as⟩,gs⟩
    · exact aa e1
    · refine bc (b:=decide (as=0)) e1 fun has q=>aw q fun it σ3 q1 q=>bc q1 fun hsc q1=>qc q fun xs ρe σ2 q2 q=>bf q fun z1 z2=>?_
      obtain rfl:as=0:=of_decide_eq_true has
      subst z1 z2
      rw [arm_evalThenUse_ListComp]
      refine Y3 (Y3 (Jt (use:=some fun v=>assignAll v [assign (.Name x px) env]) Z Hm.ev Hm.co hsc q1 q2 Rm X O fun g₄ h₄ tk₄ C D vs G=>?_))
      obtain ⟨a1,a2,a3,a4,a5⟩:=G.adopt
      obtain ⟨mm,hmm⟩:=G.ns
      show wpAny _ _ (assign (.Name x px) env (.ref D)) _ _ _
      have XA:=X.ext a2
      refine H.asg _ _ _ _ _ _ _ _ _ _ { s with heap:=h₄,toks:=tk₄ } _ e2 R XA a1 a3 _ _ fun J g₅ h₅ tk₅ x₅ O₅ X₅=>?_
      have nO:¬ ux sc env C:=fun q=>by
        obtain ⟨o,ho⟩:=Da X q
        rw [G.c0] at ho;cases ho
      have nC:¬ Own sc env C:=fun q=>nO q.addr
      obtain ⟨oC,es,ep,hoC,rC⟩:=hmm
      have hC5:=x₅.keep _ _ hoC a5 nC
      refine ⟨mm,⟨oC,es,ep,hC5,rC⟩,fun h' hs=>Y4 (Y4 ?_)⟩
      have HC:Hid (fun b=>b=C) g₅ σ'.next h₅ sc env:=fun b hb2=>by
        subst hb2
        exact ⟨⟨oC,hC5⟩,x₅.sepI hoC a4 a5,x₅.sepM hoC a5,nO⟩
      have bC:Bar (fun b=>b=C) h₅ h':=fun b o hb2 q=>(hs.2 b hb2).trans q
      have xx:=Ext.trans (a2.weak (Wr':=Own sc env) fun J q=>q.elim) x₅
      exact hQ _ g₅ h' tk₅ (xx.priv G.c0 (.same hs)) (O₅.bar HC bC) ⟨X₅.bar HC bC,rfl⟩
theorem zdi(Z:Wld prog w P hb K) (HA:∀k,k≤n→Snd prog w P hb k) {t value:Expr}{pos:Pos}{v:Mine.V}{ρ':Loc}(hsw:qq t value=false) (e1:(run P n).ev sc value ρ σ=some (v,σ1)) (e2:(run P n).asg sc t v ρ σ1=some (ρ',σ'))
    (R:Room A n) (X:EnvOk prog w sc env ρ g σ.next s.heap) (O:Ok prog w hb g σ s.heap) :
    Does prog w hb A (Own sc env) g σ s (exec (.Assign [t] value pos) env) σ' (fun g' h' fl=>EnvOk prog w sc env ρ' g' σ'.next h'∧fl = .next):=fun Q E hQ=>by
  have H:=HA n (To n)
  have hst:(assignEach [t] env).map (·.2)=[assign t env]:=by
    rw [H4 (Iz e2)];rfl
  have hnl:∀ts p,t≠.List ts p:=fun ts p q=>by subst q;cases n <;> exact aa e2
  rw [arm_exec_Assign,hst]
  refine Y3 (Y6 ?_)
  have plain:=zd6 (s:=s) (A:=A) H hsw hnl e1 e2 R X O Q E hQ
  rcases zcb (env:=env) (t:=t) (value:=value) (line:=pos.line) with ⟨elt,gens,csc,p,x,px,b,rfl,rfl,hb'⟩ | hb' | ⟨a,b,c,d,rfl⟩ | ⟨a,b,c,d,f,rfl⟩
  · rw [hb']
    refine Y3 (Y4 ?_)
    cases b with
    | false=>rw [if_neg Ts];exact plain
    | true=>
      rw [if_pos rfl]
      exact zmu Z HA e1 e2 R X O Q E hQ
  · rw [hb']
    refine Y3 (Y4 ?_)
    rw [if_neg Ts]
    exact plain
  · cases n <;> exact aa e1
  · cases n <;> exact aa e1
end
end
section
section
variable {V:V}{S:Addr→Prop}{E:Value→Shared→Prop}
theorem zld{ex:Expr}{line:Nat}{r:Mine.V×Sto}(h:su ex=false):∀{n:Nat},(run P n).ev sc ex ρ σ=some r→swapsWith ex none line env=pure false
  | 0,e=>aa e
  | n+1,e=>by cases ex <;> first | rfl | (cases h;done) | exact aa e
theorem zi4(H:dy prog w P hb n) {ex:Expr}{pos:Pos}{v:Mine.V}(hl:su ex=false) (e1:(run P n).ev sc ex ρ σ=some (v,σ')) (R:Room A n) (X:EnvOk prog w sc env ρ g σ.next s.heap) (O:Ok prog w hb g σ s.heap):Does prog w hb A (Own sc env) g σ s (exec (.Expr ex pos) env) σ' (fun g' h' fl=>EnvOk prog w sc env ρ g' σ'.next h'∧fl = .next):=fun Q E hQ=>
  PySem.wpAny_Expr_any (H _ _ _ _ _ _ _ _ _ _ e1 R X O _ _ fun u g₁ h₁ tk₁ x₁ O₁ r₁=>hQ _ g₁ h₁ tk₁ (x₁.weak fun J q=>q.elim) O₁ ⟨X.ext x₁,rfl⟩) X.inter (zld hl e1)
theorem zlh(H:dy prog w P hb n) {ex:Expr}{pos:Pos}{v:Mine.V}(e1:(run P n).ev sc ex ρ σ=some (v,σ')) (R:Room A n) (X:EnvOk prog w sc env ρ g σ.next s.heap) (O:Ok prog w hb g σ s.heap):Does prog w hb A (Own sc env) g σ s (exec (.Return (some ex) pos) env) σ' (fun g' h' fl=>EnvOk prog w sc env ρ g' σ'.next h'∧ui prog w g' σ'.next (.ret v) fl):=fun Q E hQ=>by
  refine jc (arm_exec_Return ..) (Y3 (Y6 ?_))
  show wpAny _ _ (eval ex env >>= fun v=>pure (Flow.ret v)) _ _ _
  exact Y3 (H _ _ _ _ _ _ _ _ _ _ e1 R X O _ _ fun u g₁ h₁ tk₁ x₁ O₁ r₁=>Y4 (hQ _ g₁ h₁ tk₁ (x₁.weak fun J q=>q.elim) O₁ ⟨X.ext x₁,u,rfl,r₁⟩))
theorem zme(HT:r9 prog w P hb n) (HX:vi prog w P hb n) {t:Expr}{a b:List Stmt}{pos:Pos}{c:Bool}{f:Fl}{ρ':Loc}(e1:(run P n).tr sc t ρ σ=some (c,σ1)) (e:cond c ((run P n).exs sc a ρ σ1) ((run P n).exs sc b ρ σ1)=some (f,ρ',σ')) (R:Room A n) (X:EnvOk prog w sc env ρ g σ.next s.heap) (O:Ok prog w hb g σ s.heap):Does prog w hb A (Own sc env) g σ s (exec (.If t a b pos) env) σ' (fun g' h' fl=>EnvOk prog w sc env ρ' g' σ'.next h'∧ui prog w g' σ'.next f fl):=fun Q E hQ=>by
  refine PySem.wpAny_If (HT _ _ _ _ _ _ _ _ _ _ e1 R X O _ _ fun u g₁ h₁ tk₁ x₁ O₁ r₁=>?_)
  subst r₁
  have go:∀ss,(run P n).exs sc ss ρ σ1=some (f,ρ',σ')→wpAny (model prog w) A (execs ss env) Q E { s with heap:=h₁,toks:=tk₁ }:=fun ss e=>
    HX _ _ _ _ _ _ _ _ _ { s with heap:=h₁,toks:=tk₁ } _ e R (X.ext x₁) O₁ _ _ fun fl g₂ h₂ tk₂ x₂ O₂ r₂=>hQ fl g₂ h₂ tk₂ (Ext.trans (x₁.weak fun J q=>q.elim) x₂) O₂ r₂
  exact cdE e (fun q e=>by subst q;exact go _ e) fun q e=>by subst q;exact go _ e
theorem zlp(Z:Wld prog w P hb K) (H:Snd prog w P hb n) {t iter:Expr}{b:List Stmt}{pos:Pos}{it:It}{f:Fl}{ρ':Loc}(e1:gm P (run P n) sc iter ρ σ=some (it,σ1)) (e:(run P n).fo sc t it b ρ σ1=some (f,ρ',σ')) (R:Room A n) (X:EnvOk prog w sc env ρ g σ.next s.heap) (O:Ok prog w hb g σ s.heap):Does prog w hb A (Own sc env) g σ s (exec (.For t iter b [] pos) env) σ' (fun g' h' fl=>EnvOk prog w sc env ρ' g' σ'.next h'∧ui prog w g' σ'.next f fl):=fun Q E hQ=>by
  refine PySem.wpAny_For (Dm Z H.ev e1 R X O _ fun I g₁ h₁ tk₁ S x₁ O₁ T hI Hd hf=>?_) (Cj e1)
  refine H.fo _ _ _ _ _ _ _ _ _ _ _ { s with heap:=h₁,toks:=tk₁ } _ I S e R (X.ext x₁) O₁ T hI Hd _ fun fl g₂ h₂ tk₂ x₂ O₂ X₂ r₂=>hQ fl g₂ h₂ tk₂ ?_ O₂ ⟨X₂,r₂⟩
  have y:=Ext.trans (x₁.weak (Wr':=fun a=>Own sc env a∨S a) fun J q=>q.elim) x₂
  exact ⟨y.I,y.new,y.mu,y.munew,y.next,fun a o q hm hw=>y.keep a o q hm fun c=>c.elim hw fun c=>(by rw [hf a c] at q;cases q),y.live⟩
theorem zjb(Z:Wld prog w P hb K) (HA:∀k,k≤n→Snd prog w P hb k):Tb prog w P hb (n+1):=fun sc st ρ σ f ρ' σ' A g s env e R X O=>by
  have R:=R.lt (T3 n)
  have H:=HA n (To n)
  cases st with
  | Expr ex pos=>
    exact aw (x:=if su ex=true then none else (run P n).ev sc ex ρ σ) e fun v σ1 e1 e=>kj e1 fun hl e1=>jv e fun h1 h2 h3=>by subst h1 h2 h3;exact zi4 H.ev hl e1 R X O
  | Return val pos=>
    refine ad (x:=val) e fun ex hv e=>aw e fun v σ1 e1 e=>jv e fun h1 h2 h3=>?_
    subst h1 h2 h3 hv;exact zlh H.ev e1 R X O
  | Assign ts val pos=>
    refine ad (x:=one ts) e fun t ht e=>aw e fun v σ1 e1 e=>aw e fun ρ1 σ2 e2 e=>kj e1 fun hs e1=>jv e fun h1 h2 h3=>?_
    obtain rfl:=n9 ht
    subst h1 h2 h3;exact zdi Z HA hs e1 e2 R X O
  | If t a b pos=>exact aw (x:=(run P n).tr sc t ρ σ) e fun c σ1 e1 e=>zme H.tr H.exs e1 e R X O
  | While t b z pos=>
    refine bc (b:=z.isEmpty) e fun h e=>?_
    obtain rfl:=jh h
    exact fun Q E hQ=>PySem.wpAny_While (H.wh _ _ _ _ _ _ _ _ _ _ _ _ e R X O _ fun fl g₁ h₁ tk₁ x₁ O₁ X₁ r₁=>hQ fl g₁ h₁ tk₁ x₁ O₁ ⟨X₁,r₁⟩)
  | For t iter b z pos=>
    refine bc (b:=z.isEmpty) e fun h e2=>aw e2 fun it σ1 e1 e3=>?_
    obtain rfl:=jh h
    exact zlp Z H e1 e3 R X O
  | Pass pos=>
    refine jv (a:=Fl.next) (b:=ρ) (c:=σ) e fun h1 h2 h3=>?_
    subst h1 h2 h3
    exact fun Q E hQ=>jc (arm_exec_Pass ..) (Y3 (Y6 (Y4 (hQ _ g s.heap s.toks (Ext.refl ..) O ⟨X,rfl⟩))))
  | _=>exact aa e
theorem zp(Z:Wld prog w P hb K):∀n k,k≤n→Snd prog w P hb k
  | 0,k,hk=>by
    obtain rfl:k=0:=Nat.le_zero.mp hk
    exact zgg
  | n + 1,k,hk=>by
    have HA:=zp Z n
    by_cases q:k≤n
    · exact HA k q
    · obtain rfl:k=n+1:=by lia
      have H:=HA n (To n)
      exact ⟨zjw Z HA,zkr H.ev H.evs,zjr HA,zlm H.ev H.bos,zlk H.tr H.trs,zmi H.tr H.tst,zhb Z H,zhg H,zjb Z HA,zfq H,zde Z H,zft Z H,zqy H.tr H.exs H.wh,zo4 H.asg H.exs H.fo,zn4 Z H.asg H.ev H.tst H.co⟩
end
end
section
section
variable {V:V}
theorem Og(Z:Wld prog w P hb K) {f k:Nat}{c:List Mine.V→Option Mine.V}
    (hc:∀args V',c args=some V'→∃V σ',(run P k).call f args ⟨0,[]⟩=some (V,σ')∧fz σ' gt V=some V'):Az prog w hb f k c:=by
  intro args V' e A g s vs R O r Q hQ
  obtain ⟨V,σ',e1,e2⟩:=hc args V' e
  refine (zp Z k k (To k)).call f args vs ⟨0,[]⟩ V σ' A g s e1 R O r _ fun v g' h' tk' x O' r'=>?_
  have hI:=pw O'
  have kp:∀a o,s.heap.get? a=some o→h'.get? a=some o:=fun a o e=>x.keep a o e (fun ⟨n,hn,_⟩=>absurd hn (Tw _)) id
  have rz:=Q7 O' _ _ _ _ e2 r'
  let g2:Gh:={ I:=(g'.ice σ' h').I,mu:=g.mu,de:=g.de }
  have O2:Ok prog w hb g2 ⟨0,[]⟩ h':=
    ⟨fun a o e=>(nv e).elim (fun q=>q.2) (O'.sub a o),fun a o e=>hI a o (O'.base a o e),(fun n o e=>by cases e),(fun n o e=>by cases e),fun n hn=>absurd hn (Tw _),fun n m hn=>absurd hn (Tw _)⟩
  have x2:Ext ak g 0 s.heap g2 0 h':=by
    refine ⟨fun a o e=>hI a o (x.I a o e),fun a o e=>?_,fun J J=>⟨rfl,rfl⟩,fun n a b=>absurd b (Tw _),To _,fun a o e J J=>kp a o e,fun a o e=>⟨o,kp a o e⟩⟩
    rcases nv e with ⟨⟨n,o',q1,q2⟩,_⟩ | q
    · right;left
      have hn:=(O'.obj n o' q1).1
      have m:=x.munew n (Ux _) hn
      rcases q2 with rfl | rfl
      · exact m.1
      · exact m.2
    · rcases x.new a o q with q | q | ⟨n,hn,_⟩
      · exact .inl q
      · exact .inr (.inl q)
      · exact absurd hn (Tw _)
  exact hQ v g2 h' tk' x2 O2 (Rl.mono (g:=g'.ice σ' h') (g':=g2) (N:=0) (fun J J e=>e) (fun J q=>absurd q (Tw _)) (To 0) V' v rz)
theorem zlr(Z:Wld prog w P hb K) {f k:Nat}{c:List Mine.V→Option Mine.V}
    (hc:∀args V',c args=some V'→∃V σ',(run P k).call f args ⟨0,[]⟩=some (V,σ')∧fzf σ' gt V=some V'):Ao prog w hb f k c:=by
  intro args V' e A g s vs R O r Q hQ
  obtain ⟨V,σ',e1,e2⟩:=hc args V' e
  refine (zp Z k k (To k)).call f args vs ⟨0,[]⟩ V σ' A g s e1 R O r _ fun v g' h' tk' x O' r'=>?_
  have hI:=pw O'
  have kp:∀a o,s.heap.get? a=some o→h'.get? a=some o:=fun a o e=>x.keep a o e (fun ⟨n,hn,_⟩=>absurd hn (Tw _)) id
  have rz:=zk1 (h₀:=s.heap) O' kp (fun n hn=>x.munew n (Ux _) hn) _ _ _ _ e2 r'
  let g2:Gh:={ I:=(g'.ice σ' h').I,mu:=g.mu,de:=g.de }
  have O2:Ok prog w hb g2 ⟨0,[]⟩ h':=
    ⟨fun a o e=>(nv e).elim (fun q=>q.2) (O'.sub a o),fun a o e=>hI a o (O'.base a o e),(fun n o e=>by cases e),(fun n o e=>by cases e),fun n hn=>absurd hn (Tw _),fun n m hn=>absurd hn (Tw _)⟩
  have x2:Ext ak g 0 s.heap g2 0 h':=by
    refine ⟨fun a o e=>hI a o (x.I a o e),fun a o e=>?_,fun J J=>⟨rfl,rfl⟩,fun n a b=>absurd b (Tw _),To _,fun a o e J J=>kp a o e,fun a o e=>⟨o,kp a o e⟩⟩
    rcases nv e with ⟨⟨n,o',q1,q2⟩,_⟩ | q
    · right;left
      have hn:=(O'.obj n o' q1).1
      have m:=x.munew n (Ux _) hn
      rcases q2 with rfl | rfl
      · exact m.1
      · exact m.2
    · rcases x.new a o q with q | q | ⟨n,hn,_⟩
      · exact .inl q
      · exact .inr (.inl q)
      · exact absurd hn (Tw _)
  exact hQ v g2 h' tk' x2 O2 (Rl.mono (g:=(g'.ice σ' h').cut s.heap) (g':=g2.cut s.heap) (N:=0) (fun J J e=>e) (fun J q=>absurd q (Tw _)) (To 0) V' v rz)
theorem Wld.add(Z:Wld prog w P hb K) {P':PD}(h1:P'.glob=P.glob) (h2:P'.fn=P.fn) (h3:P'.cls=P.cls) (hc:∀f k c,P'.con f=some (k,c)→Az prog w hb f k c) (hf:∀f k c,P'.con f=some (k,c)→P'.fre f=true→Ao prog w hb f k c):Wld prog w P' hb K:=by
  refine ⟨⟨?_,Z.wd.nolimit⟩,Z.inK,fun C c q=>Z.cls C c (h3▸q),fun f fd q=>Z.fns f fd (h2▸q),hc,hf⟩
  obtain ⟨mg,mb,a,b,c,d⟩:=Z.wd.globs
  exact ⟨mg,mb,a,b,fun x v q=>c x v (h1▸q),fun x v q=>d x v (h1▸q)⟩
end
end
end Mine
end
section
open PySem PySem.W PyProof.Rows
set_option maxHeartbeats 4000000
namespace Mine
section
section
variable (tb:String→Option Builtin) (p:Program) (w:World) (n₀:Nat) (ann:Option Value)
noncomputable def wx:Nat→SharedT→Thread→Option SharedT
  | 0,_,_=>none
  | n + 1,s,t=>match through t with
    | true=>some s
    | false=>match stepOk n₀ ann t with
      | false=>none
      | true=>match stepT (denote tb) p w s t with
        | some (s',t')=>wx n s' t'
        | none=>none
theorem I9:∀{n:Nat}{s s':SharedT}{t:Thread},wx tb p w n₀ ann n s t=some s'→topRun tb p w n₀ ann n s.abs t=some s'.abs
  | 0,_,_,_,h=>by cases h
  | n + 1,s,s',t,h=>by
    unfold wx at h
    unfold topRun
    cases he:through t with
    | true=>rw [he] at h;cases h;rfl
    | false=>
      rw [he] at h
      cases hk:stepOk n₀ ann t with
      | false=>rw [hk] at h;cases h
      | true=>
        rw [hk] at h
        cases hs:stepT (denote tb) p w s t with
        | none=>rw [hs] at h;cases h
        | some r=>obtain ⟨s₂,t₂⟩:=r;rw [hs] at h;rw [stepT_spec hs];exact I9 h
end
theorem zf8{p q:Program}{loose:List Str}{Xt:Shared→Bool}{α:Type}{Yf:Shared→α}{Ya:World→α}{N:Nat}{H₀:Params→Heap}{gs₀:Array GenState}{d₀:Drawn}{k₀:Nat}{m₀:Nat}{ann:Option Value}
    (open_:∀w:World,(fencedOpening treeTable p w N).map (fun s=>(s.heap,s.gens,s.drawn,s.toks))=some (H₀ w.params,gs₀,d₀,k₀))
    (size:∀w:World,((H₀ w.params).isNs mainGlobals&&gs₀.size == 0,(H₀ w.params).objs.size,(H₀ w.params).nsMap mainGlobals "__annotations__")=(true,m₀,ann))
    (run:∀(w:World) (os:OsState),∃s,topRun treeTable p w m₀ ann N ⟨H₀ w.params,gs₀,d₀,k₀,os⟩ (topStub p)=some s∧
      (staticsOk (importedModules p.main.body) (H₀ w.params) s.heap&&namesBound p s.heap&&gensDone s&&laidKept (H₀ w.params) s.heap)=true∧openSeen q loose (importedModules p.main.body) Xt true s=openGood q loose∧Yf s=Ya w) :
    LeftO p q loose Xt Yf Ya N:=fun w=>by
  obtain ⟨⟨h,gs,d,k,os⟩,e,e'⟩:=Ww.mp (open_ w)
  obtain ⟨rfl,rfl,rfl,rfl⟩:h=H₀ w.params∧gs=gs₀∧d=d₀∧k=k₀:=by simpa using e'
  obtain ⟨z1,z2,z3⟩:_∧_∧_:=by simpa only [Prod.mk.injEq] using size w
  obtain ⟨s,r,l1,l2,l3⟩:=run w os
  have t:topFrom treeTable p w N ⟨H₀ w.params,gs,d,k,os⟩=some s:=by
    unfold topFrom
    dsimp only
    rw [z1,z2,z3,r]
    show (match staticsOk (importedModules p.main.body) (H₀ w.params) s.heap&&namesBound p s.heap&&gensDone s&&laidKept (H₀ w.params) s.heap with | true=>_ | false=>_)=_
    rw [l1]
  unfold openEnds
  rw [e]
  show (topFrom treeTable p w N _).map _=_
  rw [t]
  exact congrArg some (Prod.ext l2 l3)
noncomputable abbrev pg:Program:=PySem.Challenge.rw_pq0725_01.row.toRowW.1
noncomputable def Hv(os:Nat→Obj):Nat→Nat→Nat→BT
  | 0,_,_=>.nil
  | d+1,a,b=>match Wg b 11 with
    | true=>.node (os b) (Hv os d (2 * a) (a+b)) (Hv os d (2 * a) (2 * a+b))
    | false=>.nil
noncomputable def ft{α:Type}(d:α):List α→Nat→α
  | [],_=>d
  | x::_,0=>x
  | _::r,n+1=>ft d r n
noncomputable def S0(P:Params) (os:OsState):SharedT:=⟨Hv (fun i=>ft default (Y8 P).objs.toList i) 5 1 0,11,(Y8 P).life,Array.mk [],boot_drawn,boot_toks,os⟩
theorem znk(P:Params) (os:OsState):(S0 P os).abs=⟨Y8 P,Array.mk [],boot_drawn,boot_toks,os⟩:=by kernel_rfl
section
variable (p:Program) (w:World) (n₀:Nat) (ann:Option Value)
noncomputable def wv:Nat→SharedT→Thread→Option SharedT
  | 0,_,_=>none
  | n + 1,s,t=>match through t with
    | true=>some s
    | false=>match PySem.W.Fast.tw6613529449190102663 n₀ ann t with
      | false=>none
      | true=>match PySem.W.Fast.tw10156331382660048174 (PySem.W.Fast.tw11892475500146522536 PySem.W.Fast.tw14364793385576792824) p w s t with
        | some (s',t')=>wv n s' t'
        | none=>none
theorem Jb:∀{n:Nat}{s s':SharedT}{t:Thread},wv p w n₀ ann n s t=some s'→wx treeTable p w n₀ ann n s t=some s'
  | 0,_,_,_,h=>by cases h
  | n + 1,s,s',t,h=>by
    unfold wv at h
    rw [← PySem.W.Fast.te6613529449190102663,← PySem.W.Fast.te10156331382660048174,← PySem.W.Fast.te11892475500146522536,← PySem.W.Fast.te14364793385576792824] at h
    unfold wx
    cases he:through t with
    | true=>rw [he] at h;exact h
    | false=>
      rw [he] at h
      cases hk:stepOk n₀ ann t with
      | false=>rw [hk] at h;cases h
      | true=>
        rw [hk] at h
        cases hs:stepT (denote treeTable) p w s t with
        | none=>rw [hs] at h;cases h
        | some r=>obtain ⟨s₂,t₂⟩:=r;rw [hs] at h;exact Jb h
end
noncomputable def lo:List Str:=[⟨#[95,119,97,108,108]⟩,⟨#[65,78,89]⟩,⟨#[66,79,84,84,79,77]⟩,⟨#[110,97,109,101,100]⟩,⟨#[116,117,112,108,101,95,111,102]⟩,⟨#[117,110,105,111,110,95,111,102]⟩,⟨#[112,97,114,116,115,95,111,102,95,107,105,110,100]⟩,⟨#[114,101,98,117,105,108,116,95,107,105,110,100]⟩,⟨#[115,117,98,115,116,105,116,117,116,101,100]⟩,⟨#[102,114,101,101,95,118,97,114,115]⟩,⟨#[111,112,101,110,101,100]⟩,⟨#[98,105,110,100,101,114,95,116,101,120,116]⟩,⟨#[107,105,110,100,95,116,101,120,116]⟩,⟨#[77,79,83,84,95,67,65,83,69,83]⟩,⟨#[83,105,100,101]⟩,⟨#[83,105,100,101,115]⟩,⟨#[111,99,99,117,114,114,101,110,99,101,115]⟩,⟨#[98,111,117,110,100,95,111,99,99,117,114,114,101,110,99,101,115]⟩,⟨#[105,115,95,100,105,97,103,111,110,97,108]⟩,⟨#[108,101,102,116,95,99,97,115,101,115]⟩,⟨#[116,117,112,108,101,95,99,97,115,101,115]⟩,⟨#[105,115,95,101,109,112,116,121]⟩,⟨#[116,97,105,108,95,111,102]⟩,⟨#[84,89,80,69]⟩,⟨#[70,85,78,67,84,73,79,78]⟩,⟨#[83,101,97,114,99,104]⟩,⟨#[110,97,114,114,111,119,101,100]⟩,⟨#[119,105,100,101,110,101,100]⟩,⟨#[104,97,115,95,119,105,116,104,105,110]⟩,⟨#[116,117,112,108,101,95,119,97,121,115]⟩,⟨#[105,115,95,115,117,98,116,121,112,101]⟩,⟨#[115,97,109,101,95,107,105,110,100]⟩,⟨#[109,97,116,99,104,101,100]⟩,⟨#[116,111,108,100,95,112,97,114,97,109]⟩,⟨#[70,79,82,77,83]⟩,⟨#[110,97,109,101,115,95,119,105,116,104,105,110]⟩,⟨#[77,101,101,116,105,110,103]⟩,⟨#[105,110,116,101,114,115,101,99,116,105,111,110]⟩,⟨#[98,105,110,100,101,114,115,95,109,97,110,121]⟩,⟨#[105,115,95,109,111,114,101,95,115,112,101,99,105,102,105,99]⟩,⟨#[105,115,95,97,104,101,97,100,95,111,102,95,97,108,108]⟩,⟨#[98,101,115,116,95,111,102]⟩,⟨#[70,73,82,83,84,95,87,79,82,76,68]⟩,⟨#[84,97,98,108,101]⟩,⟨#[84,97,98,108,101,115]⟩,⟨#[82,111,119,115,69,114,114,111,114]⟩,⟨#[75,105,110,100,70,97,117,108,116]⟩,⟨#[83,73,71,78,69,68]⟩,⟨#[85,78,83,73,71,78,69,68]⟩,⟨#[80,76,65,73,78,95,69,82,82,79,82,83]⟩,⟨#[84,69,88,84,95,69,82,82,79,82,83]⟩,⟨#[67,65,76,76,95,69,82,82,79,82,83]⟩,⟨#[68,101,99,108]⟩,⟨#[75,105,110,100,115]⟩,⟨#[110,111,109,105,110,97,108]⟩,⟨#[115,116,97,114,116,95,107,105,110,100,115]⟩,⟨#[115,116,97,114,116,95,101,114,114,111,114,115]⟩,⟨#[115,116,97,114,116,95,114,111,119,115]⟩,⟨#[77,101,116,104,111,100]⟩,⟨#[95,108,97,119,95,97,98,111,118,101]⟩,⟨#[95,108,97,119,95,98,111,120]⟩,⟨#[95,108,97,119,95,100,114,97,119]⟩,⟨#[95,108,97,119,95,119,111,114,100,115]⟩,⟨#[95,108,97,119,95,107,105,110,100]⟩,⟨#[95,108,97,119,95,115,105,103]⟩,⟨#[95,108,97,119,95,105,115,95,98,101,108,111,119]⟩,⟨#[95,108,97,119,95,105,115,95,119,105,116,104,105,110]⟩,⟨#[95,108,97,119,95,105,115,95,98,101,116,116,101,114]⟩,⟨#[95,108,97,119,95,109,101,101,116]⟩,⟨#[95,108,97,119,95,104,97,118,101,95,99,111,109,109,111,110]⟩,⟨#[95,108,97,119,95,109,97,100,101]⟩,⟨#[95,108,97,119,95,99,97,108,108,95,114,105,103,104,116]⟩,⟨#[95,108,97,119,95,97,110,121,95,114,105,103,104,116]⟩]
noncomputable def qv:Program:=view pg [83]
theorem zph:opening pg=plainProg pg.main.scope.names:=by kernel_rfl
theorem zl3(s:Shared):fenceModules? pg s=some s:=by kernel_rfl
theorem zns(N:Nat) (hN:U8 600 N=true) (w:World):(fencedOpening treeTable pg w N).map (fun s=>(s.heap,s.gens,s.drawn,s.toks))=some (Y8 w.params,Array.mk [],boot_drawn,boot_toks):=boot_open zph hN zl3 w
theorem zob(w:World):((Y8 w.params).isNs mainGlobals&&(Array.mk []:Array GenState).size == 0,(Y8 w.params).objs.size,(Y8 w.params).nsMap mainGlobals "__annotations__")=(true,11,some (.ref 6)):=by kernel_rfl
noncomputable def xt(s:Shared):Bool:=xlAt qv [] s&&recOk [] s
end
theorem zi3{p q:Program}{loose:List Str}{Xt:Shared→Bool}{α:Type}{Yf:Shared→α}{Ya:World→α}{N:Nat}{m₀:Nat}{ann:Option Value}
    (h0:∀P os,(S0 P os).abs=⟨Y8 P,Array.mk [],boot_drawn,boot_toks,os⟩)
    (h:∀w:World,(fun os=>(wv p w m₀ ann N (S0 w.params os) (topStub p)).map (fun s=>((staticsOk (importedModules p.main.body) (Y8 w.params) s.abs.heap&&namesBound p s.abs.heap&&gensDone s.abs&&laidKept (Y8 w.params) s.abs.heap),PySem.W.Fast.tw4187177175401517315 q loose (importedModules p.main.body) Xt true s.abs,Yf s.abs)))=fun J=>some (true,openGood q loose,Ya w))
    (w:World) (os:OsState):∃s,topRun treeTable p w m₀ ann N ⟨Y8 w.params,Array.mk [],boot_drawn,boot_toks,os⟩ (topStub p)=some s∧
      (staticsOk (importedModules p.main.body) (Y8 w.params) s.heap&&namesBound p s.heap&&gensDone s&&laidKept (Y8 w.params) s.heap)=true∧openSeen q loose (importedModules p.main.body) Xt true s=openGood q loose∧Yf s=Ya w:=by
  rw [← PySem.W.Fast.te4187177175401517315] at h
  obtain ⟨s',r,l⟩:=Ww.mp (congrFun (h w) os)
  obtain ⟨l1,l23⟩:=Prod.mk.inj l
  obtain ⟨l2,l3⟩:=Prod.mk.inj l23
  have r2:=I9 _ _ _ _ _ (Jb _ _ _ _ r)
  rw [h0] at r2
  exact ⟨s'.abs,r2,l1,l2,l3⟩
theorem ba{a b:Bool}(h:a=true) (k:b=true):(a&&b)=true:=by rw [h,k];rfl
theorem sdA:PySem.W.Fast.tw11788848310118352699 PySem.Challenge.pw_pq0725_01.main=true:=by kernel_rfl
theorem sdB:(((PySem.W.Fast.tw9807087744658564304 PySem.Challenge.pw_pq0725_01.main.body).isEmpty||PySem.W.Fast.tw12862048085361865435 (PySem.W.Fast.tw9807087744658564304 PySem.Challenge.pw_pq0725_01.main.body) PySem.Challenge.pw_pq0725_01.main.body))=true:=by kernel_rfl
theorem sdC:PySem.W.Fast.tw8377067652309620493 PySem.Challenge.pw_pq0725_01=true:=by kernel_rfl
theorem sdD:(PySem.W.R.allR (PySem.W.Fast.tw18344453789297297638 PySem.Challenge.pw_pq0725_01) fun n=>!PySem.W.Fast.tw3471404346716756564 PySem.W.Fast.tw14412699480532031325 n)=true:=by kernel_rfl
theorem sdE:PySem.W.Fast.tw8326940854005059898 { strict:=!PySem.W.R.allR (PySem.W.Fast.tw5923862056798008813 PySem.Challenge.pw_pq0725_01.main.body) (PySem.W.Fast.tw3471404346716756564 PySem.W.Fast.tw17691160309236699985),foot:=none,bare:=PySem.W.R.filterR (PySem.W.Fast.tw13343964577679436407 PySem.Challenge.pw_pq0725_01 PySem.Challenge.pw_pq0725_01.main.body) [⟨⟨[118,97,114,115]⟩⟩,⟨⟨[100,105,114]⟩⟩,⟨⟨[108,111,99,97,108,115]⟩⟩] } PySem.Challenge.pw_pq0725_01.main.body=true:=by kernel_rfl
theorem sdF:(PySem.W.Fast.tw17119622794617984870 PySem.Challenge.pw_pq0725_01 PySem.Challenge.pw_pq0725_01.main.body fun J n=>PySem.W.Fast.tw17868728402115742887 n)=true:=by kernel_rfl
theorem sdL:PySem.W.Fast.tw12908688711261696721 PySem.Challenge.pw_pq0725_01=true:=by
  delta PySem.W.Fast.tw12908688711261696721
  exact ba (ba (ba (ba (ba sdA sdB) sdC) sdD) sdE) sdF
theorem zga:PySem.Challenge.rw_pq0725_01.wellSaid=true:=by
  rw [PySem.W.Fast.te9446332074065402090]
  delta PySem.W.Fast.tw9446332074065402090 PySem.W.Fast.tw17960256430627541270 PySem.W.Fast.tw2436336058641802641
  rw [show PySem.W.Fast.tw12908688711261696721 (PySem.W.Fast.tw2368527892694137696 PySem.Challenge.rw_pq0725_01).prog=true from sdL]
  kernel_rfl
end Mine
end
section
open PySem PySem.W
namespace Mine
end Mine
end
section
open PySem PySem.W
namespace Mine
noncomputable def ztc(c:Const):V:=@V3 (fun J=>V) c .none (fun b=>.bool b) (fun i=>.int i) (fun J=>.none) (fun J J=>.none) (fun J=>.none) (fun J=>.none) .none
noncomputable def zso(e:Expr):V:=@Tt (fun J=>V) e (fun J J J=>.none) (fun J J J=>.none) (fun J J J J=>.none) (fun J J J=>.none) (fun J J J J=>.none) (fun J J J J=>.none) (fun J J J=>.none) (fun J J J=>.none) (fun J J J J=>.none) (fun J J J J=>.none) (fun J J J J J=>.none) (fun J J J J=>.none) (fun J J=>.none) (fun J J=>.none) (fun J J=>.none) (fun J J J J=>.none) (fun J J J J=>.none) (fun J J J J=>.none) (fun J J=>.none) (fun c J J=>ztc c) (fun J J J=>.none) (fun J J J=>.none) (fun J J=>.none) (fun J J=>.none) (fun J J=>.none) (fun es J J=>if es.isEmpty then .tup [] else .none) (fun J J J J=>.none)
noncomputable def ai:List Stmt→Nat→Stmt
  | [],_=>.Pass default
  | s::_,0=>s
  | _::r,n+1=>ai r n
noncomputable def zq2(s:Stmt):List Stmt:=@U1 (fun J=>List Stmt) s (fun J J J J J J J J J J=>[]) (fun J J J J J J J J J J=>[]) (fun J J J b J J J J J J J=>b) (fun J J=>[]) (fun J J=>[]) (fun J J J=>[]) (fun J J J J J J J=>[]) (fun J J J J=>[]) (fun J J J J J=>[]) (fun J J J J J=>[]) (fun J J J J J=>[]) (fun J J J J=>[]) (fun J J J J=>[]) (fun J J J=>[]) (fun J J J=>[]) (fun J J J=>[]) (fun J J J=>[]) (fun J J J J J=>[]) (fun J J J J J=>[]) (fun J J J=>[]) (fun J J=>[]) (fun J J J J=>[]) (fun J J=>[]) (fun J J=>[]) (fun J J=>[]) (fun J=>[]) (fun J=>[]) (fun J=>[])
noncomputable def zaf(s:Stmt):Option FnD:=@U1 (fun J=>Option FnD) s (fun J a b J J J sc J J J=>some ⟨a.args.map fun (a:Arg)=>a.arg,a.defaults.map zso,b,sc⟩) (fun J J J J J J J J J J=>none) (fun J J J J J J J J J J J=>none) (fun J J=>none) (fun J J=>none) (fun J J J=>none) (fun J J J J J J J=>none) (fun J J J J=>none) (fun J J J J J=>none) (fun J J J J J=>none) (fun J J J J J=>none) (fun J J J J=>none) (fun J J J J=>none) (fun J J J=>none) (fun J J J=>none) (fun J J J=>none) (fun J J J=>none) (fun J J J J J=>none) (fun J J J J J=>none) (fun J J J=>none) (fun J J=>none) (fun J J J J=>none) (fun J J=>none) (fun J J=>none) (fun J J=>none) (fun J=>none) (fun J=>none) (fun J=>none)
noncomputable def cb(i:Nat):Option FnD:=zaf (ai pg.main.body i)
noncomputable def b8(i j:Nat):Option FnD:=zaf (ai (zq2 (ai pg.main.body i)) j)
noncomputable def ar:Option FnD→FnD
  | some d=>d
  | none=>⟨[],[],[],default⟩
noncomputable def f33:FnD:=ar (cb 4)
noncomputable def f41:FnD:=ar (cb 5)
noncomputable def f48:FnD:=ar (cb 6)
noncomputable def f55:FnD:=ar (cb 7)
noncomputable def f62:FnD:=ar (cb 8)
noncomputable def f67:FnD:=ar (cb 9)
noncomputable def Hh:FnD:=ar (cb 10)
noncomputable def f79:FnD:=ar (cb 11)
noncomputable def f91:FnD:=ar (cb 13)
noncomputable def G9:FnD:=ar (b8 17 0)
noncomputable def R5:FnD:=ar (b8 17 1)
noncomputable def zr2:FnD:=ar (b8 17 3)
noncomputable def zru:FnD:=ar (b8 17 4)
noncomputable def Sn:FnD:=ar (cb 21)
noncomputable def zsl:FnD:=ar (cb 22)
noncomputable def zs3:FnD:=ar (cb 23)
noncomputable def zs6:FnD:=ar (cb 24)
noncomputable def Ry:FnD:=ar (b8 28 0)
noncomputable def f277:FnD:=ar (b8 28 1)
noncomputable def f284:FnD:=ar (b8 28 2)
noncomputable def Bi:FnD:=ar (b8 28 3)
noncomputable def zsn:FnD:=ar (b8 28 7)
noncomputable def zt6:FnD:=ar (b8 28 9)
noncomputable def zsk:FnD:=ar (b8 28 10)
noncomputable def S8:FnD:=ar (b8 28 11)
noncomputable def f375:FnD:=ar (cb 32)
noncomputable def f383:FnD:=ar (cb 33)
noncomputable def S7:FnD:=ar (cb 34)
noncomputable def S5:FnD:=ar (cb 35)
noncomputable def zsw:FnD:=ar (cb 39)
noncomputable def ztb:FnD:=ar (b8 40 0)
noncomputable def ztd:FnD:=ar (b8 40 2)
noncomputable def zro:FnD:=ar (b8 40 3)
noncomputable def f449:FnD:=ar (b8 40 4)
noncomputable def zta:FnD:=ar (b8 40 5)
noncomputable def zrq:FnD:=ar (b8 40 6)
noncomputable def ztu:FnD:=ar (b8 40 9)
noncomputable def f491:FnD:=ar (b8 40 10)
noncomputable def zrz:FnD:=ar (b8 40 11)
noncomputable def zt2:FnD:=ar (b8 40 12)
noncomputable def zac:FnD:=ar (cb 41)
noncomputable def zr1:FnD:=ar (cb 43)
noncomputable def Gf:FnD:=ar (cb 44)
noncomputable def f566:FnD:=ar (cb 45)
noncomputable def f573:FnD:=ar (cb 46)
noncomputable def zrd:FnD:=ar (b8 49 0)
noncomputable def f594:FnD:=ar (b8 49 1)
noncomputable def f599:FnD:=ar (b8 49 2)
noncomputable def zr7:FnD:=ar (b8 50 0)
noncomputable def zr9:FnD:=ar (b8 50 1)
noncomputable def ztz:FnD:=ar (b8 50 2)
noncomputable def zrj:FnD:=ar (b8 50 3)
noncomputable def f648:FnD:=ar (b8 50 4)
noncomputable def f653:FnD:=ar (b8 50 5)
noncomputable def f658:FnD:=ar (b8 50 6)
noncomputable def f665:FnD:=ar (b8 50 7)
noncomputable def f670:FnD:=ar (b8 50 8)
noncomputable def zr0:FnD:=ar (b8 60 0)
noncomputable def ztv:FnD:=ar (b8 60 1)
noncomputable def ztl:FnD:=ar (b8 61 0)
noncomputable def zt3:FnD:=ar (b8 61 1)
noncomputable def zrx:FnD:=ar (b8 61 3)
noncomputable def ztq:FnD:=ar (b8 61 4)
noncomputable def zs4:FnD:=ar (b8 61 5)
noncomputable def zt7:FnD:=ar (cb 62)
noncomputable def ztm:FnD:=ar (cb 63)
noncomputable def zs0:FnD:=ar (cb 64)
noncomputable def zt5:FnD:=ar (cb 65)
noncomputable def zry:FnD:=ar (b8 67 0)
noncomputable def zrc:FnD:=ar (b8 67 1)
noncomputable def zr3:FnD:=ar (b8 67 2)
noncomputable def zs1:FnD:=ar (cb 69)
noncomputable def f935:FnD:=ar (cb 70)
noncomputable def zrm:FnD:=ar (cb 71)
noncomputable def f947:FnD:=ar (cb 72)
noncomputable def Se:FnD:=ar (cb 73)
noncomputable def f959:FnD:=ar (cb 74)
noncomputable def zst:FnD:=ar (cb 75)
noncomputable def f971:FnD:=ar (cb 76)
noncomputable def ztf:FnD:=ar (cb 77)
noncomputable def zt0:FnD:=ar (cb 78)
noncomputable def f990:FnD:=ar (cb 79)
noncomputable def f995:FnD:=ar (cb 80)
noncomputable def f1000:FnD:=ar (cb 81)
noncomputable def f1005:FnD:=ar (cb 82)
noncomputable def f1010:FnD:=ar (cb 83)
noncomputable def gtab:List (Str×V):=[
  (⟨#[65,78,89]⟩,.tup [.str ⟨#[110,97,109,101]⟩,.str ⟨#[65,110,121]⟩,.tup []]),
  (⟨#[66,79,84,84,79,77]⟩,.tup [.str ⟨#[98,111,116,116,111,109]⟩]),
  (⟨#[77,79,83,84,95,67,65,83,69,83]⟩,.int 64),
  (⟨#[110,97,109,101,100]⟩,.val (.ref 33)),
  (⟨#[116,117,112,108,101,95,111,102]⟩,.val (.ref 41)),
  (⟨#[117,110,105,111,110,95,111,102]⟩,.val (.ref 48)),
  (⟨#[112,97,114,116,115,95,111,102,95,107,105,110,100]⟩,.val (.ref 55)),
  (⟨#[114,101,98,117,105,108,116,95,107,105,110,100]⟩,.val (.ref 62)),
  (⟨#[115,117,98,115,116,105,116,117,116,101,100]⟩,.val (.ref 67)),
  (⟨#[102,114,101,101,95,118,97,114,115]⟩,.val (.ref 72)),
  (⟨#[111,112,101,110,101,100]⟩,.val (.ref 79)),
  (⟨#[107,105,110,100,95,116,101,120,116]⟩,.val (.ref 91)),
  (⟨#[108,101,102,116,95,99,97,115,101,115]⟩,.val (.ref 235)),
  (⟨#[116,117,112,108,101,95,99,97,115,101,115]⟩,.val (.ref 240)),
  (⟨#[105,115,95,101,109,112,116,121]⟩,.val (.ref 245)),
  (⟨#[116,97,105,108,95,111,102]⟩,.val (.ref 252)),
  (⟨#[116,117,112,108,101,95,119,97,121,115]⟩,.val (.ref 375)),
  (⟨#[105,115,95,115,117,98,116,121,112,101]⟩,.val (.ref 383)),
  (⟨#[115,97,109,101,95,107,105,110,100]⟩,.val (.ref 390)),
  (⟨#[109,97,116,99,104,101,100]⟩,.val (.ref 396)),
  (⟨#[110,97,109,101,115,95,119,105,116,104,105,110]⟩,.val (.ref 409)),
  (⟨#[105,110,116,101,114,115,101,99,116,105,111,110]⟩,.val (.ref 545)),
  (⟨#[98,105,110,100,101,114,115,95,109,97,110,121]⟩,.val (.ref 552)),
  (⟨#[105,115,95,109,111,114,101,95,115,112,101,99,105,102,105,99]⟩,.val (.ref 559)),
  (⟨#[105,115,95,97,104,101,97,100,95,111,102,95,97,108,108]⟩,.val (.ref 566)),
  (⟨#[98,101,115,116,95,111,102]⟩,.val (.ref 573)),
  (⟨#[110,111,109,105,110,97,108]⟩,.val (.ref 857)),
  (⟨#[115,116,97,114,116,95,107,105,110,100,115]⟩,.val (.ref 864)),
  (⟨#[115,116,97,114,116,95,101,114,114,111,114,115]⟩,.val (.ref 871)),
  (⟨#[115,116,97,114,116,95,114,111,119,115]⟩,.val (.ref 878)),
  (⟨#[95,108,97,119,95,97,98,111,118,101]⟩,.val (.ref 928)),
  (⟨#[95,108,97,119,95,98,111,120]⟩,.val (.ref 935)),
  (⟨#[95,108,97,119,95,100,114,97,119]⟩,.val (.ref 942)),
  (⟨#[95,108,97,119,95,119,111,114,100,115]⟩,.val (.ref 947)),
  (⟨#[95,108,97,119,95,107,105,110,100]⟩,.val (.ref 954)),
  (⟨#[95,108,97,119,95,115,105,103]⟩,.val (.ref 959)),
  (⟨#[95,108,97,119,95,105,115,95,98,101,108,111,119]⟩,.val (.ref 966)),
  (⟨#[95,108,97,119,95,105,115,95,119,105,116,104,105,110]⟩,.val (.ref 971)),
  (⟨#[95,108,97,119,95,105,115,95,98,101,116,116,101,114]⟩,.val (.ref 978)),
  (⟨#[95,108,97,119,95,109,101,101,116]⟩,.val (.ref 985)),
  (⟨#[95,108,97,119,95,104,97,118,101,95,99,111,109,109,111,110]⟩,.val (.ref 990)),
  (⟨#[95,108,97,119,95,109,97,100,101]⟩,.val (.ref 995)),
  (⟨#[95,108,97,119,95,99,97,108,108,95,114,105,103,104,116]⟩,.val (.ref 1000)),
  (⟨#[95,108,97,119,95,97,110,121,95,114,105,103,104,116]⟩,.val (.ref 1005)),
  (⟨#[108,97,119]⟩,.val (.ref 1010)),
  (⟨#[83,101,97,114,99,104]⟩,.val (.ref 345)),
  (⟨#[83,105,100,101,115]⟩,.val (.ref 207)),
  (⟨#[77,101,101,116,105,110,103]⟩,.val (.ref 534)),
  (⟨#[84,97,98,108,101]⟩,.val (.ref 602)),
  (⟨#[84,97,98,108,101,115]⟩,.val (.ref 680)),
  (⟨#[68,101,99,108]⟩,.val (.ref 758)),
  (⟨#[75,105,110,100,115]⟩,.val (.ref 845)),
  (⟨#[77,101,116,104,111,100]⟩,.val (.ref 917)),
  (⟨#[83,73,71,78,69,68]⟩,.tup [.str ⟨#[73,110,116,56]⟩,.str ⟨#[73,110,116,49,54]⟩,.str ⟨#[73,110,116,51,50]⟩,.str ⟨#[73,110,116,54,52]⟩,.str ⟨#[66,105,103,73,110,116]⟩]),
  (⟨#[85,78,83,73,71,78,69,68]⟩,.tup [.str ⟨#[85,73,110,116,56]⟩,.str ⟨#[85,73,110,116,49,54]⟩,.str ⟨#[85,73,110,116,51,50]⟩,.str ⟨#[85,73,110,116,54,52]⟩]),
  (⟨#[80,76,65,73,78,95,69,82,82,79,82,83]⟩,.tup [.str ⟨#[68,105,118,105,100,101,69,114,114,111,114]⟩,.str ⟨#[73,110,101,120,97,99,116,69,114,114,111,114]⟩,.str ⟨#[84,121,112,101,69,114,114,111,114]⟩,.str ⟨#[83,116,97,99,107,79,118,101,114,102,108,111,119,69,114,114,111,114]⟩]),
  (⟨#[84,69,88,84,95,69,82,82,79,82,83]⟩,.tup [.str ⟨#[65,114,103,117,109,101,110,116,69,114,114,111,114]⟩,.str ⟨#[79,118,101,114,102,108,111,119,69,114,114,111,114]⟩,.str ⟨#[68,105,109,101,110,115,105,111,110,77,105,115,109,97,116,99,104]⟩,.str ⟨#[69,114,114,111,114,69,120,99,101,112,116,105,111,110]⟩]),
  (⟨#[67,65,76,76,95,69,82,82,79,82,83]⟩,.tup [.str ⟨#[77,101,116,104,111,100,69,114,114,111,114]⟩,.str ⟨#[65,109,98,105,103,117,111,117,115,69,114,114,111,114]⟩]),
  (⟨#[84,89,80,69]⟩,.tup [.str ⟨#[110,97,109,101]⟩,.str ⟨#[84,121,112,101]⟩,.tup []]),
  (⟨#[70,85,78,67,84,73,79,78]⟩,.tup [.str ⟨#[110,97,109,101]⟩,.str ⟨#[70,117,110,99,116,105,111,110]⟩,.tup []]),
  (⟨#[70,73,82,83,84,95,87,79,82,76,68]⟩,.int 1)]
noncomputable def ctab:List (Nat×ClsD):=[
  (345,⟨270,[(⟨#[95,95,105,110,105,116,95,95]⟩,270),(⟨#[114,117,110]⟩,277),(⟨#[115,101,116,116,108,101,100]⟩,284),(⟨#[115,116,101,112]⟩,291),(⟨#[98,121,95,102,111,114,109]⟩,313),(⟨#[112,108,97,105,110]⟩,325),(⟨#[110,111,109,105,110,97,108]⟩,330),(⟨#[97,114,101,95,99,111,110,99,114,101,116,101]⟩,337)],[⟨#[107,105,110,100,115]⟩,⟨#[102,117,101,108]⟩]⟩),
  (207,⟨155,[(⟨#[95,95,105,110,105,116,95,95]⟩,155),(⟨#[99,111,112,105,101,100]⟩,162),(⟨#[115,105,100,101]⟩,176),(⟨#[105,115,95,97,115,107,101,100]⟩,183)],[⟨#[114,111,119,115]⟩,⟨#[109,97,110,121]⟩]⟩),
  (534,⟨423,[(⟨#[95,95,105,110,105,116,95,95]⟩,423),(⟨#[105,115,95,111,112,101,110]⟩,437),(⟨#[115,101,116,116,108,101,100]⟩,442),(⟨#[109,101,101,116]⟩,449),(⟨#[109,101,101,116,95,98,121,95,119,111,114,100]⟩,456),(⟨#[109,101,101,116,95,117,110,105,111,110]⟩,463),(⟨#[109,101,101,116,95,112,108,97,105,110]⟩,484),(⟨#[109,101,101,116,95,116,117,112,108,101,115]⟩,491),(⟨#[109,101,101,116,95,110,97,109,101,115]⟩,498),(⟨#[109,101,101,116,95,108,111,119,101,114]⟩,505)],[⟨#[107,105,110,100,115]⟩,⟨#[116,97,107,101,110]⟩,⟨#[98,111,117,110,100,115]⟩]⟩),
  (602,⟨587,[(⟨#[95,95,105,110,105,116,95,95]⟩,587),(⟨#[97,100,100]⟩,594),(⟨#[108,105,118,101]⟩,599)],[⟨#[110,97,109,101]⟩,⟨#[109,101,116,104,111,100,115]⟩]⟩),
  (680,⟨620,[(⟨#[95,95,105,110,105,116,95,95]⟩,620),(⟨#[116,97,98,108,101]⟩,627),(⟨#[97,100,100]⟩,634),(⟨#[108,105,118,101]⟩,641),(⟨#[102,105,116,116,105,110,103]⟩,648),(⟨#[108,111,111,107,117,112]⟩,653),(⟨#[97,108,108,95,102,105,116,116,105,110,103]⟩,658),(⟨#[105,115,95,104,105,100,100,101,110]⟩,665),(⟨#[109,97,121,95,98,101,95,99,97,108,108,101,100]⟩,670)],[⟨#[107,105,110,100,115]⟩,⟨#[116,97,98,108,101,115]⟩,⟨#[97,108,108]⟩,⟨#[119,111,114,108,100]⟩]⟩),
  (758,⟨738,[(⟨#[95,95,105,110,105,116,95,95]⟩,738),(⟨#[116,97,98,108,101,95,102,111,114]⟩,743)],[⟨#[110,97,109,101]⟩,⟨#[112,97,114,97,109,115]⟩,⟨#[115,117,112,101,114]⟩,⟨#[105,115,95,97,98,115,116,114,97,99,116]⟩,⟨#[105,115,95,109,117,116,97,98,108,101]⟩,⟨#[102,105,101,108,100,115]⟩]⟩),
  (845,⟨776,[(⟨#[95,95,105,110,105,116,95,95]⟩,776),(⟨#[100,101,99,108,97,114,101]⟩,781),(⟨#[100,101,99,108]⟩,795),(⟨#[115,117,112,101,114,95,111,102]⟩,802),(⟨#[115,117,112,101,114,115]⟩,809)],[⟨#[100,101,99,108,115]⟩]⟩),
  (917,⟨893,[(⟨#[95,95,105,110,105,116,95,95]⟩,893),(⟨#[105,115,95,108,105,118,101]⟩,900),(⟨#[101,110,100]⟩,907)],[⟨#[110,117,109,98,101,114]⟩,⟨#[116,97,98,108,101]⟩,⟨#[115,105,103]⟩,⟨#[110,97,109,101,115]⟩,⟨#[104,97,115,95,114,101,115,116]⟩,⟨#[99,111,100,101]⟩,⟨#[116,114,101,101]⟩,⟨#[119,111,114,108,100,95,102,114,111,109]⟩,⟨#[119,111,114,108,100,95,116,111]⟩]⟩)]
noncomputable def ftab:List (Nat×FnD):=[(33,f33),(41,f41),(48,f48),(55,f55),(62,f62),(67,f67),(72,Hh),(79,f79),(91,f91),(155,G9),(162,R5),(176,zr2),(183,zru),(235,Sn),(240,zsl),(245,zs3),(252,zs6),(270,Ry),(277,f277),(284,f284),(291,Bi),(313,zsn),(325,zt6),(330,zsk),(337,S8),(375,f375),(383,f383),(390,S7),(396,S5),(409,zsw),(423,ztb),(437,ztd),(442,zro),(449,f449),(456,zta),(463,zrq),(484,ztu),(491,f491),(498,zrz),(505,zt2),(545,zac),(552,zr1),(559,Gf),(566,f566),(573,f573),(587,zrd),(594,f594),(599,f599),(620,zr7),(627,zr9),(634,ztz),(641,zrj),(648,f648),(653,f653),(658,f658),(665,f665),(670,f670),(738,zr0),(743,ztv),(776,ztl),(781,zt3),(795,zrx),(802,ztq),(809,zs4),(857,zt7),(864,ztm),(871,zs0),(878,zt5),(893,zry),(900,zrc),(907,zr3),(928,zs1),(935,f935),(942,zrm),(947,f947),(954,Se),(959,f959),(966,zst),(971,f971),(978,ztf),(985,zt0),(990,f990),(995,f995),(1000,f1000),(1005,f1005),(1010,f1010)]
noncomputable def xr{α:Type}(a:Nat):List (Nat×α)→Option α
  | []=>none
  | (b,d)::r=>if T8 a b then some d else xr a r
noncomputable def PB:PD where
  glob x:=ae x gtab
  fn a:=xr a ftab
  cls a:=xr a ctab
  con _:=none
  frz _:=none
noncomputable def nk(x:Str):V:=.tup [.str ⟨#[110,97,109,101]⟩,.str x,.tup []]
noncomputable def dcl(e:Str×V×V×V×V×V):V:=.obj 758 [⟨#[110,97,109,101]⟩,⟨#[112,97,114,97,109,115]⟩,⟨#[115,117,112,101,114]⟩,⟨#[105,115,95,97,98,115,116,114,97,99,116]⟩,⟨#[105,115,95,109,117,116,97,98,108,101]⟩,⟨#[102,105,101,108,100,115]⟩] [.str e.1,e.2.1,e.2.2.1,e.2.2.2.1,e.2.2.2.2.1,e.2.2.2.2.2]
noncomputable def kls:List (Str×V×V×V×V×V):=[
(⟨#[65,110,121]⟩,.lst [],.none,.bool true,.bool false,.lst []),
(⟨#[84,121,112,101]⟩,.lst [],nk ⟨#[65,110,121]⟩,.bool true,.bool false,.lst []),
(⟨#[70,117,110,99,116,105,111,110]⟩,.lst [],nk ⟨#[65,110,121]⟩,.bool true,.bool false,.lst []),
(⟨#[78,117,109,98,101,114]⟩,.lst [],nk ⟨#[65,110,121]⟩,.bool true,.bool false,.lst []),
(⟨#[65,98,115,116,114,97,99,116,67,104,97,114]⟩,.lst [],nk ⟨#[65,110,121]⟩,.bool true,.bool false,.lst []),
(⟨#[65,98,115,116,114,97,99,116,83,116,114,105,110,103]⟩,.lst [],nk ⟨#[65,110,121]⟩,.bool true,.bool false,.lst []),
(⟨#[69,120,99,101,112,116,105,111,110]⟩,.lst [],nk ⟨#[65,110,121]⟩,.bool true,.bool false,.lst []),
(⟨#[82,101,97,108]⟩,.lst [],nk ⟨#[78,117,109,98,101,114]⟩,.bool true,.bool false,.lst []),
(⟨#[73,110,116,101,103,101,114]⟩,.lst [],nk ⟨#[82,101,97,108]⟩,.bool true,.bool false,.lst []),
(⟨#[83,105,103,110,101,100]⟩,.lst [],nk ⟨#[73,110,116,101,103,101,114]⟩,.bool true,.bool false,.lst []),
(⟨#[85,110,115,105,103,110,101,100]⟩,.lst [],nk ⟨#[73,110,116,101,103,101,114]⟩,.bool true,.bool false,.lst []),
(⟨#[73,110,116,56]⟩,.lst [],nk ⟨#[83,105,103,110,101,100]⟩,.bool false,.bool false,.lst []),
(⟨#[73,110,116,49,54]⟩,.lst [],nk ⟨#[83,105,103,110,101,100]⟩,.bool false,.bool false,.lst []),
(⟨#[73,110,116,51,50]⟩,.lst [],nk ⟨#[83,105,103,110,101,100]⟩,.bool false,.bool false,.lst []),
(⟨#[73,110,116,54,52]⟩,.lst [],nk ⟨#[83,105,103,110,101,100]⟩,.bool false,.bool false,.lst []),
(⟨#[66,105,103,73,110,116]⟩,.lst [],nk ⟨#[83,105,103,110,101,100]⟩,.bool false,.bool false,.lst []),
(⟨#[85,73,110,116,56]⟩,.lst [],nk ⟨#[85,110,115,105,103,110,101,100]⟩,.bool false,.bool false,.lst []),
(⟨#[85,73,110,116,49,54]⟩,.lst [],nk ⟨#[85,110,115,105,103,110,101,100]⟩,.bool false,.bool false,.lst []),
(⟨#[85,73,110,116,51,50]⟩,.lst [],nk ⟨#[85,110,115,105,103,110,101,100]⟩,.bool false,.bool false,.lst []),
(⟨#[85,73,110,116,54,52]⟩,.lst [],nk ⟨#[85,110,115,105,103,110,101,100]⟩,.bool false,.bool false,.lst []),
(⟨#[66,111,111,108]⟩,.lst [],nk ⟨#[73,110,116,101,103,101,114]⟩,.bool false,.bool false,.lst []),
(⟨#[67,104,97,114]⟩,.lst [],nk ⟨#[65,98,115,116,114,97,99,116,67,104,97,114]⟩,.bool false,.bool false,.lst []),
(⟨#[83,116,114,105,110,103]⟩,.lst [],nk ⟨#[65,98,115,116,114,97,99,116,83,116,114,105,110,103]⟩,.bool false,.bool false,.lst []),
(⟨#[83,121,109,98,111,108]⟩,.lst [],nk ⟨#[65,110,121]⟩,.bool false,.bool false,.lst []),
(⟨#[78,111,116,104,105,110,103]⟩,.lst [],nk ⟨#[65,110,121]⟩,.bool false,.bool false,.lst []),
(⟨#[69,120,112,114]⟩,.lst [],nk ⟨#[65,110,121]⟩,.bool false,.bool true,.lst [.tup [.str ⟨#[104,101,97,100]⟩,nk ⟨#[83,121,109,98,111,108]⟩],.tup [.str ⟨#[97,114,103,115]⟩,nk ⟨#[65,110,121]⟩]]),
(⟨#[68,105,118,105,100,101,69,114,114,111,114]⟩,.lst [],nk ⟨#[69,120,99,101,112,116,105,111,110]⟩,.bool false,.bool false,.lst []),
(⟨#[73,110,101,120,97,99,116,69,114,114,111,114]⟩,.lst [],nk ⟨#[69,120,99,101,112,116,105,111,110]⟩,.bool false,.bool false,.lst []),
(⟨#[84,121,112,101,69,114,114,111,114]⟩,.lst [],nk ⟨#[69,120,99,101,112,116,105,111,110]⟩,.bool false,.bool false,.lst []),
(⟨#[83,116,97,99,107,79,118,101,114,102,108,111,119,69,114,114,111,114]⟩,.lst [],nk ⟨#[69,120,99,101,112,116,105,111,110]⟩,.bool false,.bool false,.lst []),
(⟨#[65,114,103,117,109,101,110,116,69,114,114,111,114]⟩,.lst [],nk ⟨#[69,120,99,101,112,116,105,111,110]⟩,.bool false,.bool false,.lst [.tup [.str ⟨#[109,115,103]⟩,nk ⟨#[65,110,121]⟩]]),
(⟨#[79,118,101,114,102,108,111,119,69,114,114,111,114]⟩,.lst [],nk ⟨#[69,120,99,101,112,116,105,111,110]⟩,.bool false,.bool false,.lst [.tup [.str ⟨#[109,115,103]⟩,nk ⟨#[65,110,121]⟩]]),
(⟨#[68,105,109,101,110,115,105,111,110,77,105,115,109,97,116,99,104]⟩,.lst [],nk ⟨#[69,120,99,101,112,116,105,111,110]⟩,.bool false,.bool false,.lst [.tup [.str ⟨#[109,115,103]⟩,nk ⟨#[65,110,121]⟩]]),
(⟨#[69,114,114,111,114,69,120,99,101,112,116,105,111,110]⟩,.lst [],nk ⟨#[69,120,99,101,112,116,105,111,110]⟩,.bool false,.bool false,.lst [.tup [.str ⟨#[109,115,103]⟩,nk ⟨#[65,110,121]⟩]]),
(⟨#[77,101,116,104,111,100,69,114,114,111,114]⟩,.lst [],nk ⟨#[69,120,99,101,112,116,105,111,110]⟩,.bool false,.bool false,.lst [.tup [.str ⟨#[102]⟩,nk ⟨#[65,110,121]⟩],.tup [.str ⟨#[97,114,103,115]⟩,nk ⟨#[65,110,121]⟩]]),
(⟨#[65,109,98,105,103,117,111,117,115,69,114,114,111,114]⟩,.lst [],nk ⟨#[69,120,99,101,112,116,105,111,110]⟩,.bool false,.bool false,.lst [.tup [.str ⟨#[102]⟩,nk ⟨#[65,110,121]⟩],.tup [.str ⟨#[97,114,103,115]⟩,nk ⟨#[65,110,121]⟩]]),
(⟨#[85,110,100,101,102,86,97,114,69,114,114,111,114]⟩,.lst [],nk ⟨#[69,120,99,101,112,116,105,111,110]⟩,.bool false,.bool false,.lst [.tup [.str ⟨#[118,97,114]⟩,nk ⟨#[65,110,121]⟩]]),
(⟨#[66,111,117,110,100,115,69,114,114,111,114]⟩,.lst [],nk ⟨#[69,120,99,101,112,116,105,111,110]⟩,.bool false,.bool false,.lst [.tup [.str ⟨#[97]⟩,nk ⟨#[65,110,121]⟩],.tup [.str ⟨#[105]⟩,nk ⟨#[65,110,121]⟩]]),
(⟨#[65,98,115,116,114,97,99,116,65,114,114,97,121]⟩,.lst [.tup [.str ⟨#[84,46,48]⟩,.tup [.str ⟨#[98,111,116,116,111,109]⟩],nk ⟨#[65,110,121]⟩],.tup [.str ⟨#[78,46,48]⟩,.tup [.str ⟨#[98,111,116,116,111,109]⟩],nk ⟨#[65,110,121]⟩]],nk ⟨#[65,110,121]⟩,.bool true,.bool false,.lst []),
(⟨#[65,114,114,97,121]⟩,.lst [.tup [.str ⟨#[84,46,48]⟩,.tup [.str ⟨#[98,111,116,116,111,109]⟩],nk ⟨#[65,110,121]⟩],.tup [.str ⟨#[78,46,48]⟩,.tup [.str ⟨#[98,111,116,116,111,109]⟩],nk ⟨#[65,110,121]⟩]],.tup [.str ⟨#[110,97,109,101]⟩,.str ⟨#[65,98,115,116,114,97,99,116,65,114,114,97,121]⟩,.tup [.tup [.str ⟨#[118,97,114]⟩,.str ⟨#[84,46,48]⟩],.tup [.str ⟨#[118,97,114]⟩,.str ⟨#[78,46,48]⟩]]],.bool false,.bool true,.lst []),
(⟨#[83,117,98,65,114,114,97,121]⟩,.lst [.tup [.str ⟨#[84,46,48]⟩,.tup [.str ⟨#[98,111,116,116,111,109]⟩],nk ⟨#[65,110,121]⟩],.tup [.str ⟨#[78,46,48]⟩,.tup [.str ⟨#[98,111,116,116,111,109]⟩],nk ⟨#[65,110,121]⟩]],.tup [.str ⟨#[110,97,109,101]⟩,.str ⟨#[65,98,115,116,114,97,99,116,65,114,114,97,121]⟩,.tup [.tup [.str ⟨#[118,97,114]⟩,.str ⟨#[84,46,48]⟩],.tup [.str ⟨#[118,97,114]⟩,.str ⟨#[78,46,48]⟩]]],.bool false,.bool true,.lst []),
(⟨#[65,98,115,116,114,97,99,116,82,97,110,103,101]⟩,.lst [.tup [.str ⟨#[84,46,48]⟩,.tup [.str ⟨#[98,111,116,116,111,109]⟩],nk ⟨#[65,110,121]⟩]],.tup [.str ⟨#[110,97,109,101]⟩,.str ⟨#[65,98,115,116,114,97,99,116,65,114,114,97,121]⟩,.tup [.tup [.str ⟨#[118,97,114]⟩,.str ⟨#[84,46,48]⟩],.tup [.str ⟨#[110]⟩,.int 1]]],.bool true,.bool false,.lst []),
(⟨#[85,110,105,116,82,97,110,103,101]⟩,.lst [.tup [.str ⟨#[84,46,48]⟩,.tup [.str ⟨#[98,111,116,116,111,109]⟩],nk ⟨#[65,110,121]⟩]],.tup [.str ⟨#[110,97,109,101]⟩,.str ⟨#[65,98,115,116,114,97,99,116,82,97,110,103,101]⟩,.tup [.tup [.str ⟨#[118,97,114]⟩,.str ⟨#[84,46,48]⟩]]],.bool false,.bool false,.lst [.tup [.str ⟨#[115,116,97,114,116]⟩,.tup [.str ⟨#[118,97,114]⟩,.str ⟨#[84,46,48]⟩]],.tup [.str ⟨#[115,116,111,112]⟩,.tup [.str ⟨#[118,97,114]⟩,.str ⟨#[84,46,48]⟩]]]),
(⟨#[83,116,101,112,82,97,110,103,101]⟩,.lst [.tup [.str ⟨#[84,46,48]⟩,.tup [.str ⟨#[98,111,116,116,111,109]⟩],nk ⟨#[65,110,121]⟩]],.tup [.str ⟨#[110,97,109,101]⟩,.str ⟨#[65,98,115,116,114,97,99,116,82,97,110,103,101]⟩,.tup [.tup [.str ⟨#[118,97,114]⟩,.str ⟨#[84,46,48]⟩]]],.bool false,.bool false,.lst [.tup [.str ⟨#[115,116,97,114,116]⟩,.tup [.str ⟨#[118,97,114]⟩,.str ⟨#[84,46,48]⟩]],.tup [.str ⟨#[115,116,101,112]⟩,.tup [.str ⟨#[118,97,114]⟩,.str ⟨#[84,46,48]⟩]],.tup [.str ⟨#[115,116,111,112]⟩,.tup [.str ⟨#[118,97,114]⟩,.str ⟨#[84,46,48]⟩]]]),
(⟨#[82,101,102]⟩,.lst [.tup [.str ⟨#[84,46,48]⟩,.tup [.str ⟨#[98,111,116,116,111,109]⟩],nk ⟨#[65,110,121]⟩]],nk ⟨#[65,110,121]⟩,.bool false,.bool true,.lst [.tup [.str ⟨#[120]⟩,.tup [.str ⟨#[118,97,114]⟩,.str ⟨#[84,46,48]⟩]]]),
(⟨#[82,97,116,105,111,110,97,108]⟩,.lst [.tup [.str ⟨#[84,46,48]⟩,.tup [.str ⟨#[98,111,116,116,111,109]⟩],nk ⟨#[73,110,116,101,103,101,114]⟩]],nk ⟨#[82,101,97,108]⟩,.bool false,.bool false,.lst [.tup [.str ⟨#[110,117,109]⟩,.tup [.str ⟨#[118,97,114]⟩,.str ⟨#[84,46,48]⟩]],.tup [.str ⟨#[100,101,110]⟩,.tup [.str ⟨#[118,97,114]⟩,.str ⟨#[84,46,48]⟩]]]),
(⟨#[80]⟩,.lst [],nk ⟨#[65,110,121]⟩,.bool true,.bool false,.lst []),
(⟨#[81]⟩,.lst [],nk ⟨#[80]⟩,.bool true,.bool false,.lst []),
(⟨#[88]⟩,.lst [],nk ⟨#[81]⟩,.bool false,.bool false,.lst []),
(⟨#[89]⟩,.lst [],nk ⟨#[80]⟩,.bool false,.bool false,.lst []),
(⟨#[90]⟩,.lst [],nk ⟨#[65,110,121]⟩,.bool false,.bool false,.lst [])]
noncomputable def KINDS:V:=
.obj 845 [⟨#[100,101,99,108,115]⟩] [.dct (kls.map (·.1)) (kls.map dcl)]
noncomputable def tN:Str:=⟨#[110,97,109,101]⟩
noncomputable def jf:Str:=⟨#[116,117,112,108,101]⟩
noncomputable def zmd:Str:=⟨#[117,110,105,111,110]⟩
noncomputable def tFn:Str:=⟨#[102,110]⟩
noncomputable def bb(x:Str):V:=.tup [.str tN,.str x,.tup []]
noncomputable def fnv:V:=.tup [.str tFn,.str ⟨#[102]⟩]
noncomputable def sX:Str:=⟨#[88]⟩
noncomputable def sY:Str:=⟨#[89]⟩
noncomputable def sZ:Str:=⟨#[90]⟩
noncomputable def sP:Str:=⟨#[80]⟩
noncomputable def sQ:Str:=⟨#[81]⟩
noncomputable def sm:Str:=⟨#[65,110,121]⟩
noncomputable def sXZ:Str:=⟨#[88,90]⟩
noncomputable def XZv:V:=.tup [.str zmd,.tup [bb sX,bb sZ]]
end Mine
end
section
open PySem PySem.W PyProof.Rows
set_option maxRecDepth 20000
namespace Mine
noncomputable def Av(d:Data):Bool:=match d with
  | .freed=>false
  | _=>true
noncomputable def qz:List Obj→Nat→List Nat→Frag
  | [],_,_=>[]
  | o::r,i,as=>match as with
    | []=>[]
    | a::t=>cond (T8 i a) (cond (Av o.data) ((i,o)::qz r (i+1) t) (qz r (i+1) t)) (qz r (i+1) as)
theorem J9:∀(l:List Obj) (i:Nat) (as:List Nat) (a:Nat) (o:Obj),(qz l i as).lookup a=some o→∃j,a=i+j∧l[j]?=some o∧Av o.data=true
  | [],_,_,_,_,e=>aa e
  | _::_,_,[],_,_,e=>aa e
  | x :: r,i,b::t,a,o,e=>by
    have k:∀as,(qz r (i+1) as).lookup a=some o→∃j,a=i+j∧(x::r)[j]?=some o∧Av o.data=true:=fun as e=>by
      obtain ⟨j,h1,h2,h3⟩:=J9 r (i+1) as a o e
      exact ⟨j+1,h1.trans (Xv i j),h2,h3⟩
    unfold qz at e
    dsimp only at e
    cases q:T8 i b with
    | false=>rw [q] at e;exact k _ e
    | true=>
      rw [q] at e
      cases q2:Av x.data with
      | false=>rw [q2] at e;exact k _ e
      | true=>
        rw [q2] at e
        replace e:(match a == i with | true=>some x | false=>(qz r (i+1) t).lookup a)=some o:=e
        cases q3:a == i with
        | true=>rw [q3] at e;cases e;exact ⟨0,beq_iff_eq.mp q3,rfl,q2⟩
        | false=>rw [q3] at e;exact k _ e
noncomputable def E4(h:Heap) (as:List Nat):Frag:=qz h.objs.toList 0 as
theorem zed(h:Heap) (as:List Nat):(E4 h as).In h:=fun a o e=>by
  obtain ⟨j,h1,h2,h3⟩:=J9 _ 0 as a o e
  rw [Wu] at h1
  subst h1
  unfold Heap.get?
  rw [← Array.getElem?_toList,h2]
  obtain ⟨c,d,da,sl⟩:=o
  cases da <;> first | rfl | cases h3
noncomputable def yn(f:Value→Option V):List Value→Option (List V)
  | []=>some []
  | v::r=>ob (f v) fun x=>ob (yn f r) fun l=>some (x::l)
noncomputable def A7:Data→Option (List Value)
  | .seq xs _=>some xs.toList
  | _=>none
noncomputable def Ff:Data→Option FuncData
  | .func D=>some D
  | _=>none
noncomputable def Go:Data→Option (List Value)
  | .fields xs=>some xs.toList
  | _=>none
noncomputable def zlb:Data→Bool
  | .func _=>true
  | .cls _=>true
  | _=>false
noncomputable def S4:Value→Option String
  | .type t=>some t
  | _=>none
noncomputable def Rv(o:Obj):Option (List Value):=ob (S4 o.cls) fun t=>if t == "tuple" && (o.dict.isNone&&T8 o.slots.toList.length 0) then A7 o.data else none
noncomputable def P5(v:Value):Option V:=match v with
  | .none=>some .none
  | .bool b=>some (.bool b)
  | .int i _=>some (.int i)
  | .str s _=>some (.str s)
  | _=>none
noncomputable def Be(K:Frag):Nat→Value→Option V
  | 0,_=>none
  | n+1,v=>if (la v).isSome then ob (la v) fun a=>ob (K.lookup a) fun o=>if zlb o.data then some (.val (.ref a)) else ob (Rv o) fun xs=>ob (yn (Be K n) xs) fun l=>some (.tup l) else P5 v
section
theorem i6{α:Type}{a b:α}(h:some a=some b):a=b:=Uj.inj h
theorem D8{f:Value→Option V}(hf:∀v V,f v=some V→Rl prog w g N V v):∀(l:List Value) (L:List Mine.V),yn f l=some L→RlL prog w g N L l
  | [],L,e=>by rw [← i6 e];exact rfl
  | v::r,L,e=>ad e fun x e1 e=>ad e fun l e2 e=>by
    rw [← i6 e]
    exact ⟨v,r,rfl,hf v x e1,D8 hf r l e2⟩
theorem Kf{f:Value→Option V}:∀{l:List Value}{L:List Mine.V},yn f l=some L→l.length=L.length
  | [],L,e=>by rw [← i6 e];rfl
  | v::r,L,e=>ad e fun x e1 e=>ad e fun l e2 e=>by rw [← i6 e];exact congrArg (· + 1) (Kf e2)
theorem M7{d:Data}{xs:List Value}(e:A7 d=some xs):∃m,d = .seq xs.toArray m:=
  (Data.casesOn (motive:=fun d=>A7 d=some xs→∃m,d = .seq xs.toArray m) d aa (fun J=>aa) (fun ys m e=>⟨m,by rw [← i6 e]⟩) (fun J J=>aa) (fun J J J=>aa) (fun J J=>aa) (fun J=>aa) (fun J=>aa) (fun J=>aa) (fun J=>aa) aa) e
theorem zka{d:Data}{D:FuncData}(e:Ff d=some D):d = .func D:=
  (Data.casesOn (motive:=fun d=>Ff d=some D→d = .func D) d aa (fun J=>aa) (fun J J=>aa) (fun J J=>aa) (fun J J J=>aa) (fun J J=>aa) (fun J=>aa) (fun J e=>by rw [i6 e]) (fun J=>aa) (fun J=>aa) aa) e
theorem zm3{d:Data}{xs:List Value}(e:Go d=some xs):d = .fields xs.toArray:=
  (Data.casesOn (motive:=fun d=>Go d=some xs→d = .fields xs.toArray) d aa (fun J=>aa) (fun J J=>aa) (fun J J=>aa) (fun J J J=>aa) (fun J J=>aa) (fun J=>aa) (fun J=>aa) (fun J=>aa) (fun J e=>by rw [← i6 e]) aa) e
theorem zmo{v:Value}{t:String}(e:S4 v=some t):v = .type t:=by rcases v with ⟨⟩ <;> first | exact aa e | rw [i6 e]
theorem zlt{o:Obj}{xs:List Value}(e:Rv o=some xs):∃m,o = { cls:=.type "tuple",data:=.seq xs.toArray m }:=
  ad e fun t h1 e=>bc e fun h2 e=>b7 h2 fun h3 h4=>b7 h4 fun h4 h5=>by
    obtain ⟨m,h6⟩:=M7 e
    obtain ⟨c,d,da,⟨sl⟩⟩:=o
    rw [beq_iff_eq.mp h3] at h1
    obtain rfl:sl=[]:=V7 (Tu h5)
    exact ⟨m,by rw [show c=_ from zmo h1,show d=none from Uy.mp h4,show da=_ from h6]⟩
theorem Dt(hg:∀a o,K.lookup a=some o→g.I a=some o):∀(n:Nat) (v:Value) (V:Mine.V),Be K n v=some V→Rl prog w g N V v
  | 0,v,V,e=>aa e
  | n + 1,v,V,e=>cq e (fun J e=>ad e fun a h1 e=>ad e fun o h2 e=>cq e (fun J e=>by rw [tl h1,← i6 e];exact rfl) fun J e=>ad e fun xs h3 e=>ad e fun l h4 ef=>by
      obtain ⟨m,rfl⟩:=zlt h3
      rw [tl h1,← i6 ef]
      exact ⟨a,xs,rfl,⟨m,hg _ _ h2⟩,D8 (Dt hg n) _ _ h4⟩) fun J e=>by
    unfold P5 at e
    rcases v with ⟨⟩ <;> first | exact aa e | (rw [← i6 e];first | exact rfl | exact ⟨_,rfl⟩)
noncomputable def Om:List Value→Option Str
  | _ :: .str s _::_=>some s
  | _=>none
noncomputable def Nt(K:Frag) (c:Nat) (q:Str):Option Unit:=ob (K.lookup c) fun o=>ob (Go o.data) fun vs=>ob (Om vs) fun s=>if seq s q then some () else none
noncomputable def Lu:Value→Bool
  | .none=>true
  | _=>false
noncomputable def Si(K:Frag) (v:Value):Option (List V):=
  if Lu v then some [] else ob (la v) fun T=>ob (K.lookup T) fun o=>ob (A7 o.data) fun xs=>yn (Be K 4) xs
noncomputable def Li:FuncBody→Option (List Stmt)
  | .stmts b=>some b
  | _=>none
noncomputable def zk5(D:FuncData):Bool:=D.params.posonlyargs.isEmpty&&(D.params.vararg.isNone&&(D.params.kwonlyargs.isEmpty&&(D.params.kwarg.isNone&&(D.closure.isEmpty&&(T8 D.globals mainGlobals&&T8 D.builtins builtinsNs)))))
noncomputable def Nm(K:Frag) (a:Nat):Option FnD:=ob (K.lookup a) fun o=>ob (Ff o.data) fun D=>ob (la D.code) fun c=>ob (Nt K c D.qualname) fun J=>ob (Li D.body) fun b=>ob (Si K D.defaults) fun ds=>
  if zk5 D&&U8 ds.length D.params.args.length then some ⟨D.params.args.map fun (x:Arg)=>x.arg,ds,b,D.scope⟩ else none
noncomputable def ziv:NameKind→Bool
  | .free=>true
  | _=>false
noncomputable def Te:ScopeKind→Bool
  | .function=>true
  | _=>false
noncomputable def F6(sc:Scope):List Str→Bool
  | []=>true
  | n::r=>sk n sc&&F6 sc r
noncomputable def En:List (Str×NameKind)→Bool
  | []=>true
  | (x,k)::r=>!ziv k&&(!seq x "__debug__" && (!seq x "__classdict__" && En r))
noncomputable def So(fd:FnD):Bool:=!fd.scope.isCoroutine&&(!fd.scope.isGenerator&&(Te fd.scope.kind&&(nu fd.names&&(F6 fd.scope fd.names&&En fd.scope.names))))
theorem A3{b:Bool}(h:(!b)=true):b=false:=by cases b <;> first | rfl | cases h
theorem zjx{p:Prop}{x y:Str}{k j:NameKind}{r:List (Str×NameKind)}(e:bm x ((y,j)::r)=some k) (k1:x=y→j=k→p) (k2:bm x r=some k→p):p:=cq e (fun q e=>k1 (lf q) (i6 e)) fun J e=>k2 e
theorem J7:∀{l:List (Str×NameKind)},En l=true→∀x k,bm x l=some k→k≠.free∧(x == ("__debug__" : Str))=false∧(x == ("__classdict__" : Str))=false
  | [],_,x,k,e=>aa e
  | (y,j)::r,h,x,k,e=>b7 h fun h1 h=>b7 h fun h2 h=>b7 h fun h3 h4=>zjx e (fun q1 q2=>by
      rw [← uw,← uw,q1,← q2]
      refine ⟨fun q=>?_,A3 h2,A3 h3⟩
      rw [q] at h1;exact nomatch h1) fun e=>J7 h4 x k e
theorem Kk{sc:Scope}:∀{l:List Str},F6 sc l=true→∀n∈l,bm n sc.names=some .local∨bm n sc.names=some .cell
  | [],_,n,hn=>nomatch hn
  | m::r,h,n,hn=>b7 h fun h1 h2=>(Tz.mp hn).elim (fun q=>q▸Fa h1) fun hn=>Kk h2 n hn
theorem zki{k:ScopeKind}(h:Te k=true):k = .function:=by cases k <;> first | rfl | cases h
theorem zep{v:Value}(h:Lu v=true):v = .none:=by rcases v with ⟨⟩ <;> first | rfl | cases h
theorem zdg{x:FuncBody}{b:List Stmt}(h:Li x=some b):x = .stmts b:=by cases x <;> first | exact aa h | rw [i6 h]
theorem zhf{vs:List Value}{s:Str}(e:Om vs=some s):∃z t r,vs=z :: .str s t::r:=by
  rcases vs with _ | ⟨z,_ | ⟨y,r⟩⟩
  · exact aa e
  · exact aa e
  · rcases y with ⟨⟩ <;> first | exact aa e | (rw [← i6 e];exact ⟨_,_,_,rfl⟩)
theorem ze2(hK:K.In hb) {c:Nat}{q:Str}(e:Nt K c q=some ()):hb.CodeRec (.ref c) q:=
  ad e fun o h1 e=>ad e fun vs h2 e=>ad e fun s h3 e=>bc e fun h4 J=>by
    obtain ⟨z,t,r,rfl⟩:=zhf h3
    rw [← lf h4]
    exact ⟨c,_,_,t,rfl,hK _ _ h1,zm3 h2,rfl⟩
theorem zk8(hK:K.In hb) {dv:Value}{ds:List V}(e:Si K dv=some ds):∃ds',(ds'=[]∧dv = .none∨∃T o n,dv = .ref T∧hb.get? T=some o∧o.data = .seq ds'.toArray n)∧ds'.length=ds.length∧∀g N,(∀a o,hb.get? a=some o→g.I a=some o)→RlL prog w g N ds ds':=
  cq e (fun q e=>⟨[],.inl ⟨rfl,zep q⟩,by rw [← i6 e];rfl,fun J J J=>by rw [← i6 e];exact rfl⟩) fun J e=>ad e fun T h1 e=>ad e fun o h2 e=>ad e fun xs h3 e=>by
    obtain ⟨m,h4⟩:=M7 h3
    have k:=fun (g:Gh) (N:Nat) (hg:∀a o,hb.get? a=some o→g.I a=some o)=>D8 (prog:=prog) (w:=w) (g:=g) (N:=N) (Dt (fun a o e=>hg a o (hK a o e)) 4) _ _ e
    exact ⟨xs,.inr ⟨T,o,m,tl h1,hK _ _ h2,h4⟩,Kf e,k⟩
theorem zjp (hK:K.In hb) {a:Nat}{fd:FnD}(h1:Nm K a=some fd) (h2:So fd=true):FnOk prog w hb a fd:=
  b7 h2 fun c1 h2=>b7 h2 fun c2 h2=>b7 h2 fun c3 h2=>b7 h2 fun c4 h2=>b7 h2 fun c5 c6=>⟨
    ad h1 fun o e1 e=>ad e fun D e2 e=>ad e fun c e3 e=>ad e fun J e4 e=>ad e fun b e5 e=>ad e fun ds e6 e=>bc e fun e7 e=>b7 e7 fun p e8=>b7 p fun p1 p=>b7 p fun p2 p=>b7 p fun p3 p=>b7 p fun p4 p=>b7 p fun p5 p=>b7 p fun p6 p7=>by
      obtain ⟨ds',d1,d2,d3⟩:=zk8 (prog:=prog) (w:=w) hK e6
      rw [← i6 e]
      exact ⟨o,D,ds',hK _ _ e1,zka e2,tl e3▸ze2 hK e4,zdg e5,jh p5,rfl,Tu p6,Tu p7,jh p1,rfl,Uy.mp p2,jh p3,Uy.mp p4,d1,
        by rw [d2,Tm];exact T7 e8,d3⟩,
    A3 c1,A3 c2,zki c3,y8 _ c4,Kk c5,J7 c6⟩
end
noncomputable def Eo(K:Frag) (C:Nat) (c:ClsD):=
  (findIn K (.ref C) "__getattribute__",findIn K (.ref C) "__getattr__",findIn K (.ref C) "__setattr__",plainOver K C,(clsIn K C).any (·.hasDict),makesIn K C,findIn K (.ref C) "__init__",typeIn K (.ref c.init),
   c.meths.map (fun m=>(findIn K (.ref C) m.1,typeIn K (.ref m.2))),c.attrs.map (fun m=>findIn K (.ref C) m))
noncomputable def Ef(c:ClsD):Option (Option Value)×Option (Option Value)×Option (Option Value)×Bool×Bool×Bool×Option (Option Value)×Option Value×List (Option (Option Value)×Option Value)×List (Option (Option Value)):=
  (some (some (.builtin "object.__getattribute__")),some none,some (some (.builtin "object.__setattr__")),true,true,true,some (some (.ref c.init)),some (.type "function"),
   c.meths.map (fun m=>(some (some (.ref m.2)),some (.type "function"))),c.attrs.map (fun J=>some none))
noncomputable def Dx(c:ClsD):Bool:=(c.attrs.all fun m=>!copiedNames.contains m)&&c.meths.all fun m=>!e9 m.1 c.attrs
theorem Cq{m:Str}{f:Nat}:∀{l:List (Str×Nat)},ry m l=some f→(m,f)∈l
  | [],e=>by cases e
  | (y,a)::r,e=>by
    unfold ry at e
    split at e
    · rename_i q;cases e;rw [(pa _ _).mp q];exact Tj ..
    · exact Ti _ (Cq e)
theorem E8{m:Str}:∀{l:List Str},e9 m l=true→m∈l
  | [],e=>by cases e
  | y::r,e=>by
    unfold e9 at e
    split at e
    · rename_i q;rw [(pa _ _).mp q];exact Tj ..
    · exact Ti _ (E8 e)
theorem ze1{K:Frag}{C:Nat}{c:ClsD}(h1:Eo K C c=Ef c) (h2:Dx c=true):ClsOk K C c:=by
  simp only [Eo,Ef,Prod.mk.injEq] at h1
  obtain ⟨a1,a2,a3,a4,a5,a6,a7,a8,a9,a10⟩:=h1
  simp only [Dx,Uc,Ui,Wv] at h2
  refine ⟨a1,a2,a3,a4,a5,a6,a7,a8,fun m f e=>?_,fun m e=>⟨?_,h2.1 m (E8 e)⟩,fun m f e=>h2.2 _ (Cq e)⟩
  · have:=T4.mp a9 _ (Cq e)
    exact Prod.mk.inj this
  · exact T4.mp a10 _ (E8 e)
noncomputable def xq(K:Frag) (x:Str):Option Value:=match K.lookup mainGlobals with
  | some ⟨_,_,.dict es _,_⟩=>nsFind es x
  | _=>none
theorem zfi{K:Frag}{hb:Heap}{mg:Str→Option Value}(hK:K.In hb) (n:hb.Ns mainGlobals mg) {x:Str}:(∃o es ep,K.lookup mainGlobals=some o∧o.data = .dict es ep)→xq K x=mg x:=by
  rintro ⟨o,es,ep,ho,hd⟩
  obtain ⟨o',es',ep',ho',hd',_,hf⟩:=n
  have:=hK _ _ ho
  rw [ho'] at this
  cases this
  rw [hd] at hd'
  cases hd'
  unfold xq
  rw [ho]
  obtain ⟨a,b,d,c⟩:=o
  dsimp only at hd
  subst hd
  exact hf x
noncomputable def Gv:List Nat:=[3,22,23,24,25,26,32,33,34,40,41,47,48,54,55,61,62,66,67,71,72,78,79,90,91,148,154,155,161,162,175,176,182,183,206,207,234,235,239,240,244,245,251,252,253,254,255,256,269,270,276,277,283,284,290,291,312,313,324,325,329,330,336,337,344,345,374,375,376,382,383,389,390,391,395,396,408,409,422,423,436,437,441,442,448,449,455,456,462,463,483,484,490,491,497,498,504,505,533,534,544,545,551,552,558,559,565,566,572,573,586,587,593,594,598,599,601,602,619,620,626,627,633,634,640,641,647,648,652,653,657,658,664,665,669,670,679,680,718,719,720,721,722,730,731,737,738,742,743,757,758,775,776,780,781,794,795,801,802,808,809,844,845,850,856,857,863,864,870,871,877,878,886,892,893,899,900,906,907,916,917,927,928,934,935,941,942,946,947,953,954,958,959,965,966,970,971,977,978,984,985,989,990,994,995,999,1000,1004,1005,1009,1010]
noncomputable def bnames:List Str:=[.ofString "len",.ofString "list",.ofString "range",.ofString "tuple",.ofString "dict",.ofString "max",.ofString "sorted",.ofString "int",.ofString "zip"]
noncomputable def Jg(K:Frag):Bool:=match K.lookup mainGlobals with
  | some ⟨_,_,.dict _ _,_⟩=>true
  | _=>false
noncomputable def Bn(K:Frag):=(ftab.map (fun e=>Nm K e.1),ctab.map (fun e=>Eo K e.1 e.2),gtab.map (fun e=>(xq K e.1).bind (Be K 6)),bnames.map (fun x=>(xq K x).isNone),Jg K)
noncomputable def obv:=(ftab.map (fun e=>some e.2),ctab.map (fun e=>Ef e.2),gtab.map (fun e=>some e.2),bnames.map (fun J=>true),true)
def Says (h:Heap):Prop:=∃K:Frag,K.In h∧Bn K=obv
theorem Says.keeps{h h':Heap}(x:Says h) (k:∀b o,h.get? b=some o→h'.get? b=some o):Says h':=let ⟨K,a,b⟩:=x;⟨K,fun c o e=>k _ _ (a c o e),b⟩
theorem zil{h:Heap}(e:Bn (E4 h Gv)=obv):Says h:=⟨_,zed h Gv,e⟩
theorem wc{α:Type}{a:Nat}{d:α}:∀{l:List (Nat×α)},xr a l=some d→(a,d)∈l
  | [],e=>by cases e
  | (b,x)::r,e=>by
    unfold xr at e
    split at e
    · rename_i q;cases e;rw [Tu q];exact Tj ..
    · exact Ti _ (wc e)
theorem Js{x:Str}{v:V}:∀{l:Loc},ae x l=some v→(x,v)∈l
  | [],e=>by cases e
  | (y,u)::r,e=>by
    unfold ae at e
    split at e
    · rename_i q;cases e;rw [(pa _ _).mp q];exact Tj ..
    · exact Ti _ (Js e)
theorem zlz:(ftab.all fun e=>So e.2)=true:=by kernel_rfl
theorem zfx:(ctab.all fun e=>Dx e.2)=true:=by kernel_rfl
theorem zce{x:Str}{v:V}(e:qt x=some v):x∈bnames:=by
  unfold qt at e
  have k:∀s,s∈bnames→seq x s=true→x∈bnames:=fun s hs q=>(pa _ _).mp q▸hs
  repeat (split at e;· rename_i q;exact k _ (by unfold bnames;repeat (first | with_reducible exact Tj | apply Ti)) q)
  cases e
theorem ze0:(bnames.map fun x=>qt x)=bnames.map (fun x=>(bootBuiltins x).map .val):=by kernel_rfl
theorem zh9:(bnames.all fun x=>!seq x "__name__")=true:=by kernel_rfl
set_option tactic.hygienic true in
theorem zmp {prog:Program}{w:World}{hb:Heap}{mg mb:Str→Option Value}(S:Says hb) (n:hb.Ns mainGlobals mg) (nb:hb.Ns builtinsNs mb) (nl:hb.NoLimit) (hm:∀x:Str,x≠"__name__"→mb x=bootBuiltins x):∃K,Wld prog w PB hb K:=by
  obtain ⟨K,hK,e⟩:=S
  simp only [Bn,obv,Prod.mk.injEq] at e
  obtain ⟨e1,e2,e3,e4,e5⟩:=e
  have hd:∃o es ep,K.lookup mainGlobals=some o∧o.data = .dict es ep:=by
    unfold Jg at e5
    split at e5
    · rename_i a b es ep c h;exact ⟨_,es,ep,h,rfl⟩
    · cases e5
  have hg:∀x,xq K x=mg x:=fun x=>zfi hK n hd
  refine ⟨K,⟨⟨mg,mb,n,nb,fun x v q=>?_,fun x v q1 q2=>?_⟩,nl⟩,hK,fun C c q=>?_,fun f fd q=>?_,fun f k c q=>(by cases q),fun f k c q=>(by cases q)⟩
  · have:=T4.mp e3 _ (Js q)
    dsimp only at this
    rw [hg] at this
    obtain ⟨u,h1,h2⟩:=Option.bind_eq_some_iff.mp this
    exact ⟨u,h1,fun g N hI=>Dt (fun a o e=>hI a o (hK a o e)) _ _ _ h2⟩
  · have hx:=zce q2
    refine ⟨?_,?_⟩
    · have:=T4.mp e4 _ hx
      rw [← hg]
      exact Uy.mp this
    · have:=T4.mp ze0 _ hx
      rw [q2] at this
      obtain ⟨u,h1,h2⟩:=Ww.mp this.symm
      refine ⟨u,?_,h2.symm⟩
      rw [hm x ?_]
      · exact h1
      · intro h
        have:=Ui.mp zh9 x hx
        rw [(pa _ _).mpr h] at this
        cases this
  · exact ze1 (T4.mp e2 _ (wc q)) (Ui.mp zfx _ (wc q))
  · exact zjp hK (T4.mp e1 _ (wc q)) (Ui.mp zlz _ (wc q))
end Mine
end
section
open PySem PySem.W PyProof.Rows
set_option maxHeartbeats 4000000
namespace Mine
noncomputable def yf(s:Shared):=Bn (E4 s.heap Gv)
theorem zem:∀w:World,(fun os=>(wv pg w 11 (some (.ref 6)) 7000 (S0 w.params os) (topStub pg)).map (fun s=>((staticsOk (importedModules pg.main.body) (Y8 w.params) s.abs.heap&&namesBound pg s.abs.heap&&gensDone s.abs&&laidKept (Y8 w.params) s.abs.heap),PySem.W.Fast.tw4187177175401517315 qv lo (importedModules pg.main.body) xt true s.abs,yf s.abs)))=fun J=>some (true,openGood qv lo,obv):=fun w=>by kernel_rfl
theorem znv:LeftO pg qv lo xt yf (fun J=>obv) 7000:=zf8 (zns 7000 rfl) zob (zi3 znk zem)
theorem Lw{prog:Program}{w:World}{g:Gh}{N:Nat}{P:Params}{h:Heap}:∀(l:List Int) (vs:List Value),WellAll P h vs (l.map .int)→RlL prog w g N (l.map V.int) vs
  | [],_,x=>by cases x;exact rfl
  | i :: l,_,x=>by
    cases x with
    | cons a b=>
      cases a with
      | int _ t=>exact ⟨_,_,rfl,⟨t,rfl⟩,Lw l _ b⟩
theorem ofPys:∀l:List Int,(l.map PyData.int).map ofPy=l.map WData.int
  | []=>rfl
  | i::l=>by rw [T5,T5,T5,ofPys l];rfl
theorem zdz{prog:Program}{w:World}{P:Params}{h:Heap}{l:Addr}{ns:List Int}(x:Well P h (.ref l) (.list (ns.map .int))) (g:Gh) (hg:∀a o,h.get? a=some o→g.I a=some o) (N:Nat):RlL prog w g N [V.lst (ns.map .int)] [.ref l]:=by
  cases x with
  | list a b=>exact ⟨_,_,rfl,⟨l,_,rfl,⟨0,hg _ _ a⟩,Lw _ _ b⟩,rfl⟩
noncomputable def Hx(h:Heap):Gh:=⟨fun a=>h.get? a,fun J=>0,fun J=>0⟩
theorem ok0{prog:Program}{w:World}(h:Heap):Ok prog w h (Hx h) ⟨0,[]⟩ h:=
  ⟨fun J J e=>e,fun J J e=>e,fun n o e=>(by cases e),fun n o e=>(by cases e),fun n hn=>absurd hn (Tw _),fun n m hn=>absurd hn (Tw _)⟩
theorem zmk:PB.glob "law"=some (.val (.ref 1010)):=by kernel_rfl
theorem ze4{prog:Program}{w:World}{PF:PD}{kF:Nat}{K:Frag}{s:Shared}(Z:Wld prog w PF s.heap K) (hk:kF<690) {ns:List Int}{l:Addr}(x:Well w.params s.heap (.ref l) (.list (ns.map .int)))
    (e:∃σ',(run PF kF).call 1010 [.lst (ns.map .int)] ⟨0,[]⟩=some (.bool true,σ')) (R':Result→Shared→Prop)
    (hR:∀h' tk',(∀a o,s.heap.get? a=some o→h'.get? a=some o)→R' (.ok (.ret (.bool true))) { s with heap:=h',toks:=tk' }) :
    codeAny (model prog w) callerA (.call (.ref 1010) ⟨[.ref l],[]⟩) R' s:=by
  obtain ⟨σ',e⟩:=e
  refine (zp Z kF kF (To _)).call 1010 _ _ ⟨0,[]⟩ _ σ' callerA (Hx s.heap) s e ⟨?_,?_,rfl⟩ (ok0 s.heap) (zdz x _ (fun J J q=>q) _) R' fun v g' h' tk' X O r=>?_
  · show 1+claimMargin+kF<recursionLimit
    unfold claimMargin recursionLimit;exact zo0 ‹_›
  · show 4+12 * kF+60<cLine
    unfold cLine;exact zq4 ‹_›
  · obtain rfl:v = .bool true:=r
    exact hR h' tk' fun a o q=>O.sub a o (O.base a o q)
theorem zj7:∀l:List Int,ofPy (PyData.list (l.map PyData.int))=WData.list (l.map WData.int):=by
  intro l
  have:∀l:List Int,PySem.W.ofPys (l.map PyData.int)=l.map WData.int:=by
    intro l
    induction l with
    | nil=>rfl
    | cons i l ih=>rw [T5,T5,← ih];rfl
  rw [← this];rfl
set_option tactic.hygienic true in
theorem reduce(PF:PD) (kF:Nat) (hk:kF<690) (hPF:∀prog w hb K,Wld prog w PB hb K→∃K',Wld prog w PF hb K')
    (law_true:∀l:List Int,l.length≤63→∃σ',(run PF kF).call 1010 [.lst (l.map .int)] ⟨0,[]⟩=some (.bool true,σ')):PySem.Challenge.rw_pq0725_01.Holds:=by
  refine holds_law zga fun said=>?_
  refine holds_open (q:=qv) (loose:=lo) (Xt:=xt) (XP:=XL qv []) (Yf:=yf) (Ya:=fun J=>obv) (YP:=fun J h=>Says h) (d:=?d) (kwd:=?kwd) (N:=7000) znv (fun J J e=>zil e) (fun J J J x k=>x.keeps k) (fun s e=>xl_of s (Uh.mp e).1) XL.keeps ?a ?b ?c (fun s e=>recFacts_of (Uh.mp e).2) ?e said ?f ⟨?g1,?g2,?g3,?g4,?g5,?g6⟩ ?hw ?hc
  case a=>exact rfl
  case b=>kernel_rfl
  case c=>kernel_rfl
  case e=>kernel_rfl
  case f=>kernel_rfl
  case g1=>kernel_rfl
  case g2=>kernel_rfl
  case g3=>kernel_rfl
  case g4=>kernel_rfl
  case g5=>kernel_rfl
  case g6=>kernel_rfl
  case hw=>w_witness2
  w_strict (
    k_fill
    intro w s₀ s₁ mg mb G Y fa o pm cd doc dV kV ho hd hcd hD hmg hg args vals as hpre hlay hrd hwl hlo
    clear hD hd
    have T:=G.T
    obtain ⟨K,Z⟩:=zmp (prog:=PySem.Challenge.rw_pq0725_01.row.prog) (w:=w) Y T.g T.b T.nolimit T.builtins
    obtain ⟨mg',mb',n1,n2,n3,n4⟩:=Z.wd.globs
    have hfa:fa=1010:=by
      obtain ⟨u,h1,h2⟩:=n3 "law" _ zmk
      obtain ⟨o1,es1,ep1,q1,q2,_,q3⟩:=n1
      obtain ⟨o2,es2,ep2,r1,r2,_,r3⟩:=T.g
      rw [q1] at r1;cases r1
      rw [q2] at r2;cases r2
      have h3:mg "law"=some (.ref fa):=hmg
      rw [← r3,q3,h1] at h3
      have h4:=h2 (Hx s₁.heap) 0 (fun J J e=>e)
      cases h3
      have h5:Value.ref fa = .ref 1010:=h4
      cases h5;rfl
    subst hfa
    obtain ⟨K',Z'⟩:=hPF _ _ _ _ Z
    clear n1 n2 n3 n4 hmg ho hcd Z
    wrow_args hpre hlay hrd hwl hlo
    refine enter_call ?_
    try refine codeAny_mono ?_ (fun J J g=>GoodW.toG g))
  rename_i ns _ _ _ _ _ _ _ l _ _ _ _ w1 _ _ _ hcond _
  have x:Well w.params s₁.heap (.ref l) (.list (ns.map .int)):=zj7 ns▸w1
  refine ze4 Z' hk x (law_true ns (by lia)) _ fun h' tk' keep=>?_
  refine ⟨.inl ⟨_,_,_,rfl,raisesW_false (by wrow_none_raised),.bool true,?_,unshared_nil⟩,keep,rfl,hg⟩
  kernel_rfl
end Mine
end
section
open PySem PySem.W
namespace Mine
noncomputable def PD.put(P:PD) (f k:Nat) (c:List V→Option V):PD:={ P with con:=fun g=>if T8 g f then some (k,c) else P.con g }
noncomputable def af(P:PD) (k f:Nat) (args:List V):Option V:=ao ((run P k).call f args ⟨0,[]⟩) fun v σ=>fz σ gt v
theorem Nd{P:PD}{k f:Nat}{args:List V}{v:V}(e:af P k f args=some v):∃V σ',(run P k).call f args ⟨0,[]⟩=some (V,σ')∧fz σ' gt V=some v:=aw e fun V σ h e=>⟨V,σ,h,e⟩
theorem Wld.from{prog:Program}{w:World}{hb:Heap}{P P':PD}{K K':Frag}(Z:Wld prog w P hb K) (Z':Wld prog w P' hb K') {f k:Nat}{c:List V→Option V}(hc:∀args v,c args=some v→af P' k f args=some v) (hf:P.fre f=false):Wld prog w (P.put f k c) hb K:=by
  refine Z.add rfl rfl rfl (fun g k' c' e=>cq e (fun h e=>bf e fun a b=>?_) fun J e=>Z.con _ _ _ e) (fun g k' c' e q=>cq e (fun h e=>?_) fun J e=>Z.fre _ _ _ e q)
  · rw [Tu h,← a,← b]
    exact Og Z' fun args v q=>Nd (hc args v q)
  · rw [Tu h] at q
    exact nomatch hf.symm.trans q
theorem Wld.put{prog:Program}{w:World}{hb:Heap}{P:PD}{K:Frag}(Z:Wld prog w P hb K) {f k:Nat}{c:List V→Option V}(hc:∀args v,c args=some v→af P k f args=some v) (hf:P.fre f=false):Wld prog w (P.put f k c) hb K:=Z.from Z hc hf
noncomputable def wds:List Str:=[sX,sY,sZ,sP,sQ,sm,sXZ]
noncomputable def i7:List Nat:=[0,1,2,3,4,5,6]
noncomputable def i77:List (Nat×Nat):=i7.flatMap fun i=>i7.map fun j=>(i,j)
noncomputable def wd(i:Nat):Str:=ft ⟨#[]⟩ wds i
noncomputable def kds:List V:=[bb sX,bb sY,bb sZ,bb sP,bb sQ,bb sm,XZv]
noncomputable def kd(i:Nat):V:=ft .none kds i
noncomputable def blT:List (List Bool):=[[true,false,false,true,true,true,true],[false,true,false,true,false,true,false],[false,false,true,false,false,true,true],
  [false,false,false,true,false,true,false],[false,false,false,true,true,true,false],[false,false,false,false,false,true,false],[false,false,false,false,false,true,true]]
noncomputable def bl(i j:Nat):Bool:=ft false (ft [] blT i) j
noncomputable def idx(x:Str):List Str→Nat→Option Nat
  | [],_=>none
  | y::r,n=>if seq x y then some n else idx x r (n+1)
noncomputable def wi(x:Str):Option Nat:=idx x wds 0
theorem ju{i:Nat}(h:i<7):i∈i7:=by
  unfold i7
  match i,h with
  | 0,_ | 1,_ | 2,_ | 3,_ | 4,_ | 5,_ | 6,_=>simp
  | n+7,h=>lia
theorem j5{i j:Nat}(h:i<7) (k:j<7):(i,j)∈i77:=List.mem_flatMap.mpr ⟨i,ju h,Ud.mpr ⟨j,ju k,rfl⟩⟩
theorem zbq:(i77.map fun p=>af PB 40 966 [.str (wd p.1),.str (wd p.2)])=i77.map fun p=>some (.bool (bl p.1 p.2)):=by kernel_rfl
theorem zen{i j:Nat}(hi:i<7) (hj:j<7):af PB 40 966 [.str (wd i),.str (wd j)]=some (.bool (bl i j)):=T4.mp zbq (i,j) (j5 hi hj)
noncomputable def Pa:PD:=PB.put 966 40 (af PB 40 966)
end Mine
end
section
open PySem
set_option maxRecDepth 20000
namespace Mine
section
section
variable {v x y a b:V}{xs ys:List V}{pos p2 p3:Pos}{k:Nat}{r:V×Sto}{q:Fl×Loc×Sto}{t:Bool}{e e1 e2:Expr}{es:List Expr}{nm:Str}
theorem aj{α β:Type}{x:Option α}{a:α}{k:α→Option β}{z:Option β}(h:x=some a) (h2:k a=z):ob x k=z:=by rw [h];exact h2
theorem bp{α β γ:Type}{x:Option (α×β)}{a:α}{b:β}{k:α→β→Option γ}{z:Option γ}(h:x=some (a,b)) (h2:k a b=z):ao x k=z:=by rw [h];exact h2
theorem rq{α β γ δ:Type}{x:Option (α×β×γ)}{a:α}{b:β}{c:γ}{k:α→β→γ→Option δ}{z:Option δ}(h:x=some (a,b,c)) (h2:k a b c=z):jy x k=z:=by rw [h];exact h2
theorem cm{α:Type}{c:Bool}{x y z:α}(h:c=true) (h2:x=z):(if c=true then x else y)=z:=by rw [if_pos h];exact h2
theorem Np(h1:(run P n).ev sc e1 ρ σ=some (x,σ1)) (h2:(run P n).ev sc e2 ρ σ1=some (y,σ2)) {op:Operator}(h3:ff σ2 op x y=some r):(run P (n+1)).ev sc (.BinOp e1 op e2 pos) ρ σ=some r:=bp h1 (bp h2 h3)
theorem xo{ea eb:Expr}(h:(run P n).tr sc e ρ σ=some (t,σ1)) (h2:cond t ((run P n).ev sc ea ρ σ1) ((run P n).ev sc eb ρ σ1)=some r):(run P (n+1)).ev sc (.IfExp e ea eb pos) ρ σ=some r:=bp h h2
theorem zv(h:(run P n).evs sc es ρ σ=some (xs,σ1)) (h3:pe σ1 xs=some r):(run P (n+1)).ev sc (.List es pos) ρ σ=some r:=bp h h3
theorem Ep(h:(run P n).evs sc es ρ σ=some (xs,σ1)) (h3:sz xs=true):(run P (n+1)).ev sc (.Tuple es k pos) ρ σ=some (.tup xs,σ1):=bp h (cm h3 rfl)
theorem lu{op:CmpOp}(h1:(run P n).ev sc e1 ρ σ=some (x,σ1)) (h2:(run P n).ev sc e2 ρ σ1=some (y,σ2)) (h3:bo σ2 op x y=some t):(run P (n+1)).ev sc (.Compare e1 [op] [e2] pos) ρ σ=some (.bool t,σ2):=by
  show ao ((run P n).ev sc e1 ρ σ) (fun x σ1=>ao ((run P n).ev sc e2 ρ σ1) fun y σ2=>ob (bo σ2 op x y) fun c=>some (V.bool c,σ2))=_
  exact bp h1 (bp h2 (aj h3 rfl))
theorem Fn{u:Value}(h0:fh es=true) (h1:(run P n).ev sc (.Name nm p2) ρ σ=some (.val u,σ)) (h2:(run P n).evs sc es ρ σ=some (xs,σ1)) (h3:rg P (run P n) u xs σ1=some r):(run P (n+1)).ev sc (.Call (.Name nm p2) es [] pos) ρ σ=some r:=
  bp (x:=if fh es=true then (run P n).ev sc (.Name nm p2) ρ σ else none) (cm h0 h1) (aj (x:=vm (.val u)) rfl (bp (x:=(run P n).evs sc es ρ σ) h2 h3))
theorem zt{f:Nat}(h0:fh es=true) (h1:(run P n).ev sc (.Name nm p2) ρ σ=some (.val (.ref f),σ)) (hc:P.cls f=none) (h2:(run P n).evs sc es ρ σ=some (xs,σ1)) (h3:(run P n).call f xs σ1=some r) :
    (run P (n+1)).ev sc (.Call (.Name nm p2) es [] pos) ρ σ=some r:=Fn h0 h1 h2 (by show (match P.cls f with | some _=>(run P n).new f xs σ1 | none=>(run P n).call f xs σ1)=_;rw [hc];exact h3)
theorem E7{f:Nat}{c:ClsD}(h0:fh es=true) (h1:(run P n).ev sc (.Name nm p2) ρ σ=some (.val (.ref f),σ)) (hc:P.cls f=some c) (h2:(run P n).evs sc es ρ σ=some (xs,σ1)) (h3:(run P n).new f xs σ1=some r) :
    (run P (n+1)).ev sc (.Call (.Name nm p2) es [] pos) ρ σ=some r:=Fn h0 h1 h2 (by show (match P.cls f with | some _=>(run P n).new f xs σ1 | none=>(run P n).call f xs σ1)=_;rw [hc];exact h3)
theorem tt{u:Value}(h0:fh es=true) (h1:(run P n).ev sc (.Name nm p2) ρ σ=some (.val u,σ)) (hu:∀a,u≠.ref a) (h2:(run P n).evs sc es ρ σ=some (xs,σ1)) (h3:blt σ1 u xs=some r) :
    (run P (n+1)).ev sc (.Call (.Name nm p2) es [] pos) ρ σ=some r:=Fn h0 h1 h2 (by
  have:la u=none:=by cases u <;> first | rfl | exact absurd rfl (hu _)
  unfold rg;rw [this];exact h3)
theorem wo{C f:Nat}{ks:List Str}{vs:List V}{c:ClsD}(h0:(jq e&&(fh es&&(U8 es.length 20&&T8 p2.endLine pos.line)))=true) (h1:(run P n).ev sc e ρ σ=some (v,σ1)) (h2:fg σ1 v=some (C,ks,vs)) (hc:P.cls C=some c)
    (hk:d8 nm ks vs=none) (hm:ry nm c.meths=some f) (h3:(run P n).evs sc es ρ σ1=some (xs,σ2)) (h4:(run P n).call f (v::xs) σ2=some r) :
    (run P (n+1)).ev sc (.Call (.Attribute e nm p2) es [] pos) ρ σ=some r:=
  bp (x:=if ([]:List Keyword).isEmpty&&(jq e&&(fh es&&(U8 es.length 20&&T8 p2.endLine pos.line))) then (run P n).ev sc e ρ σ else none) (cm h0 h1) (by
    rw [h2]
    exact aj (x:=w8 P C nm ks vs) (a:=f) (aj hc (cm (by rw [hk];rfl) hm)) (bp h3 h4))
theorem zm(h0:(jq e&&(fh es&&(U8 es.length 20&&T8 p2.endLine pos.line)))=true) (h1:(run P n).ev sc e ρ σ=some (v,σ1)) (h2:fg σ1 v=none) (hk:my σ1 v=true) (h3:(run P n).evs sc es ρ σ1=some (xs,σ2)) (h4:jg σ2 v nm xs=some r) :
    (run P (n+1)).ev sc (.Call (.Attribute e nm p2) es [] pos) ρ σ=some r:=
  bp (x:=if ([]:List Keyword).isEmpty&&(jq e&&(fh es&&(U8 es.length 20&&T8 p2.endLine pos.line))) then (run P n).ev sc e ρ σ else none) (cm h0 h1) (by
    rw [h2]
    exact bp (cm hk h3) h4)
theorem wz(hs:qy e2=none) (h1:(run P n).ev sc e1 ρ σ=some (x,σ1)) (h2:(run P n).ev sc e2 ρ σ1=some (y,σ2)) (h3:di σ2 x y=some v):(run P (n+1)).ev sc (.Subscript e1 e2 pos) ρ σ=some (v,σ2):=by
  show t6 P n (run P n) sc ρ σ e1 e2=_
  unfold t6;rw [hs]
  exact bp h1 (bp h2 (aj h3 rfl))
theorem dl:(run P (n+1)).evs sc [] ρ σ=some ([],σ):=rfl
theorem cc(h1:(run P n).ev sc e ρ σ=some (x,σ1)) (h2:(run P n).evs sc es ρ σ1=some (xs,σ2)):(run P (n+1)).evs sc (e::es) ρ σ=some (x::xs,σ2):=bp h1 (bp h2 rfl)
theorem Mx(h:(run P n).tr sc e ρ σ=some (t,σ1)):(run P (n+1)).tr sc (.UnaryOp .Not e pos) ρ σ=some (!t,σ1):=bp h rfl
theorem lp{op:BoolOp}(h:(run P n).trs sc op es ρ σ=some (t,σ1)):(run P (n+1)).tr sc (.BoolOp op es pos) ρ σ=some (t,σ1):=h
noncomputable def zsb(e:Expr):Bool:=@Tt (fun J=>Bool) e (fun J J J=>true) (fun J J J=>false) (fun J J J J=>false) (fun op J J=>@Wb (fun J=>Bool) op false (true) false false) (fun J J J J=>false) (fun J J J J=>true) (fun J J J=>false) (fun J J J=>false) (fun J J J J=>false) (fun J J J J=>false) (fun J J J J J=>false) (fun J J J J=>false) (fun J J=>false) (fun J J=>false) (fun J J=>false) (fun J J J J=>false) (fun J J J J=>false) (fun J J J J=>false) (fun J J=>false) (fun J J J=>false) (fun J J J=>false) (fun J J J=>false) (fun J J=>false) (fun J J=>false) (fun J J=>false) (fun J J J=>false) (fun J J J J=>false)
theorem Rb(h:(run P n).ev sc e ρ σ=some (.bool t,σ1)):dd (run P n) sc e ρ σ=some (t,σ1):=bp h rfl
theorem ji(h0:zsb e=false) (h:(run P n).ev sc e ρ σ=some (.bool t,σ1)):(run P (n+1)).tr sc e ρ σ=some (t,σ1):=by
  cases e with
  | UnaryOp op a p=>cases op <;> first | (cases h0;done) | exact Rb h
  | BoolOp=>cases h0
  | IfExp=>cases h0
  | _=>exact Rb h
theorem mr{op:BoolOp}(h:(run P n).tr sc e ρ σ=some (t,σ1)):(run P (n+1)).trs sc op [e] ρ σ=some (t,σ1):=bp h rfl
theorem Ai{op:BoolOp}{q:Option (Bool×Sto)}(h:(run P n).tr sc e ρ σ=some (t,σ1)) (h2:(if jw op t=true then some (t,σ1) else (run P n).trs sc op (e1::es) ρ σ1)=q):(run P (n+1)).trs sc op (e::e1::es) ρ σ=q:=bp h h2
end
end
section
section
variable {v x y a b:V}{xs ys:List V}{pos p2 p3:Pos}{k:Nat}{r:V×Sto}{q:Fl×Loc×Sto}{t:Bool}{e e1 e2:Expr}{es:List Expr}{nm:Str}{s:Stmt}{ss sa sb:List Stmt}{m:NameKind}
theorem au(h1:bm nm sc.names=some m) (h2:xh m=true) (h3:ae nm ρ=some v):(run P (n+1)).ev sc (.Name nm pos) ρ σ=some (v,σ):=aj h1 (cm h2 (aj h3 rfl))
theorem On(h1:bm nm sc.names=some .globalImplicit):u9 P n (run P n) sc ρ σ nm=(match P.glob nm with | some v=>some (v,σ) | none=>ob (qt nm) fun v=>some (v,σ)):=aj h1 rfl
theorem tm(h1:bm nm sc.names=some .globalImplicit) (h3:P.glob nm=some v):(run P (n+1)).ev sc (.Name nm pos) ρ σ=some (v,σ):=(On (n:=n) h1).trans (by rw [h3])
theorem tn(h1:bm nm sc.names=some .globalImplicit) (h2:P.glob nm=none) (h3:qt nm=some v):(run P (n+1)).ev sc (.Name nm pos) ρ σ=some (v,σ):=(On (n:=n) h1).trans (by rw [h2,h3];rfl)
theorem u1{C:Nat}{ks:List Str}{vs:List V}{c:ClsD}(h0:jq e=true) (h1:(run P n).ev sc e ρ σ=some (x,σ1)) (h2:fg σ1 x=some (C,ks,vs)) (hc:P.cls C=some c) (hk:e9 nm c.attrs=true) (hv:d8 nm ks vs=some v) (hn:(match v with | .val _=>false | _=>true)=true) :
    (run P (n+1)).ev sc (.Attribute e nm pos) ρ σ=some (v,σ1):=by
  have hn:O1 v=false:=by cases v <;> first | rfl | cases hn
  exact bp (x:=if jq e=true then (run P n).ev sc e ρ σ else none) (cm h0 h1) (rq h2 (aj (x:=Fo P C nm ks vs) (aj hc (cm hk (aj hv (by rw [hn];rfl)))) rfl))
theorem zmm(h1:(match bm nm sc.names with | some .local=>true | some .cell=>true | _=>false)=true):sk nm sc=true:=by
  unfold sk
  revert h1
  rcases bm nm sc.names with _ | k
  · exact id
  · cases k <;> exact id
theorem cu(h1:(match bm nm sc.names with | some .local=>true | some .cell=>true | _=>false)=true):(run P (n+1)).asg sc (.Name nm pos) v ρ σ=some (ac nm v ρ,σ):=cm (zmm h1) rfl
theorem ziy(h1:f6 v=some xs) (h2:T8 es.length xs.length=true) (h3:(run P n).ass sc es xs ρ σ=some (ρ1,σ1)):(run P (n+1)).asg sc (.Tuple es k pos) v ρ σ=some (ρ1,σ1):=aj h1 (cm h2 h3)
theorem zit:(run P (n+1)).ass sc [] [] ρ σ=some (ρ,σ):=rfl
theorem Kn(h1:(run P n).asg sc e v ρ σ=some (ρ1,σ1)) (h2:(run P n).ass sc es xs ρ1 σ1=some (ρ2,σ2)):(run P (n+1)).ass sc (e::es) (v::xs) ρ σ=some (ρ2,σ2):=bp h1 h2
theorem j0(h0:qq e1 e=false) (h1:(run P n).ev sc e ρ σ=some (v,σ1)) (h2:(run P n).asg sc e1 v ρ σ1=some (ρ1,σ2)):(run P (n+1)).ex sc (.Assign [e1] e pos) ρ σ=some (.next,ρ1,σ2):=
  bp (x:=if qq e1 e=true then none else (run P n).ev sc e ρ σ) (by rw [h0];exact h1) (bp h2 rfl)
theorem lx(h1:(run P n).ev sc e ρ σ=some (v,σ1)):(run P (n+1)).ex sc (.Return (some e) pos) ρ σ=some (.ret v,ρ,σ1):=bp h1 rfl
theorem m8(h1:(run P n).tr sc e ρ σ=some (t,σ1)) (h2:cond t ((run P n).exs sc sa ρ σ1) ((run P n).exs sc sb ρ σ1)=some q):(run P (n+1)).ex sc (.If e sa sb pos) ρ σ=some q:=bp h1 h2
theorem u8{it:It}{q:Fl×Loc×Sto}(h1:gm P (run P n) sc e ρ σ=some (it,σ1)) (h2:(run P n).fo sc e1 it sa ρ σ1=some q):(run P (n+1)).ex sc (.For e1 e sa [] pos) ρ σ=some q:=bp h1 h2
theorem zk(h:(run P n).wh sc e sa ρ σ=some q):(run P (n+1)).ex sc (.While e sa [] pos) ρ σ=some q:=h
theorem Mg(h0:su e=false) (h1:(run P n).ev sc e ρ σ=some (v,σ1)):(run P (n+1)).ex sc (.Expr e pos) ρ σ=some (.next,ρ,σ1):=
  bp (x:=if su e=true then none else (run P n).ev sc e ρ σ) (by rw [h0];exact h1) rfl
theorem Mh{xs:List Stmt}(h:P.frz xs=none):ic P xs ρ σ=(ρ,σ):=by unfold ic yb;rw [h];rfl
theorem Qk{f:Fl}{q:Option (Fl×Loc×Sto)}(h:P.frz (s::ss)=none) (h1:(run P n).ex sc s ρ σ=some (f,ρ1,σ1)) (h2:(if yk f=true then (run P n).exs sc ss ρ1 σ1 else some (f,ρ1,σ1))=q):(run P (n+1)).exs sc (s::ss) ρ σ=q:=by
  show (match ic P (s::ss) ρ σ with | (ρ,σ)=>jy ((run P n).ex sc s ρ σ) fun f ρ1 σ1=>if yk f=true then (run P n).exs sc ss ρ1 σ1 else some (f,ρ1,σ1))=_
  rw [Mh h]
  exact rq h1 h2
theorem g8(h:P.frz []=none):(run P (n+1)).exs sc [] ρ σ=some (.next,ρ,σ):=by
  show (match ic P [] ρ σ with | (ρ,σ)=>some (Fl.next,ρ,σ))=_
  rw [Mh h]
theorem i4(h:P.frz (s::ss)=none) (h1:(run P n).ex sc s ρ σ=some (.ret v,ρ1,σ1)):(run P (n+1)).exs sc (s::ss) ρ σ=some (.ret v,ρ1,σ1):=Qk h h1 rfl
theorem d9{it:It}(h0:pi P sc e=none) (h1:(run P n).ev sc e ρ σ=some (v,σ1)) (h2:f9 σ1 v=some it):gm P (run P n) sc e ρ σ=some (it,σ1):=by
  unfold gm;rw [h0];exact bp h1 (aj h2 rfl)
theorem zmw{f:Nat}{fd:FnD}{args:List V}{fl:Fl}(h0:P.fn f=some fd) (h1:iz P n f args σ=none) (h2:og fd.names args fd.dflts=some ρ) (h3:(run P n).exs fd.scope fd.body ρ σ=some (fl,ρ1,σ1)) (h4:yg fl=some v):(run P (n+1)).call f args σ=some (v,σ1):=
  aj h0 (by rw [h1];exact aj h2 (rq h3 (aj h4 rfl)))
theorem ii{f c:Nat}{fd:FnD}{g:List V→Option V}{args:List V}(h0:P.fn f=some fd) (h1:P.con f=some (c,g)) (h2:gx args=true) (h3:g args=some v) (h4:c<n):(run P (n+1)).call f args σ=some (v,σ):=by
  have:iz P n f args σ=some v:=by
    exact bp h1 (cm (show Wg c n=true from Ty h4) (cm h2 h3))
  exact aj h0 (by rw [this])
theorem ay{f:Nat}{args:List V}(h:P.con f=none):iz P n f args σ=none:=by
  unfold iz;rw [h];rfl
theorem wp{u:Bool}(h:(run P n).tr sc e ρ σ=some (t,σ)) (h2:(run P n).trs sc .And (e1::es) ρ σ=some (u,σ)):(run P (n+1)).trs sc .And (e::e1::es) ρ σ=some (t&&u,σ):=Ai h (by
  cases t
  · rfl
  · exact h2)
theorem w0{u:Bool}(h:(run P n).tr sc e ρ σ=some (t,σ)) (h2:(run P n).trs sc .Or (e1::es) ρ σ=some (u,σ)):(run P (n+1)).trs sc .Or (e::e1::es) ρ σ=some (t||u,σ):=Ai h (by
  cases t
  · exact h2
  · rfl)
theorem zc7(h:(run P n).tr sc e ρ σ=some (false,σ1)):(run P (n+1)).trs sc .And (e::e1::es) ρ σ=some (false,σ1):=Ai h rfl
theorem zc4{q:Bool×Sto}(h:(run P n).tr sc e ρ σ=some (true,σ1)) (h2:(run P n).trs sc .And (e1::es) ρ σ1=some q):(run P (n+1)).trs sc .And (e::e1::es) ρ σ=some q:=Ai h h2
theorem ge{cn:Const}(h:(match cn with | .none=>some V.none | .bool b=>some (.bool b) | .int i=>some (.int i) | .str s=>some (.str s) | _=>none)=some v):(run P (n+1)).ev sc (.Constant cn k pos) ρ σ=some (v,σ):=by
  show wr P n (run P n) sc ρ σ cn=_
  unfold wr
  cases cn <;> first | (cases h;done) | (cases h;rfl)
end
end
end Mine
end
section
open PySem PySem.W
set_option maxRecDepth 20000
namespace Mine
section
theorem we(x y:Str) (u a:V) (r:Loc):ac x u ((y,a)::r)=if seq x y=true then (y,u)::r else (y,a)::ac x u r:=rfl
theorem gz(x:Str) (u v:V):∀ρ:Loc,ac x v (ac x u ρ)=ac x v ρ
  | []=>by
    show ac x v [(x,u)]=[(x,v)]
    rw [we,if_pos (kt x)]
  | (y,a)::r=>by
    rw [we x y u,we x y v]
    by_cases h:seq x y=true
    · rw [if_pos h,if_pos h,we,if_pos h]
    · rw [if_neg h,if_neg h,we,if_neg h,gz]
section
variable {v x y a b:V}{xs ys:List V}{pos:Pos}{e elt iter tgt:Expr}{es ifs:List Expr}{nm:Str}{it:It}
theorem Fw{n:Nat}(h0:mj sc csc=true) (h1:gm P (run P n) sc iter ρ σ=some (it,σ1)) (h2:(run P n).co csc tgt ifs [] elt it (ρ.filter fun p=>fy p.1 csc) σ1 []=some (xs,ρ1,σ2)) :
    (run P (n+1)).ev sc (.ListComp elt [⟨tgt,iter,ifs,0⟩] csc pos) ρ σ=some (gi σ2 (.lst xs)):=
  bp (x:=if mj sc csc=true then gm P (run P n) sc iter ρ σ else none) (cm h0 h1) (rq h2 rfl)
noncomputable def j6(P:PD) (m:Nat) (csc:Scope) (ifs:List Expr) (ρ:Loc) (σ:Sto):Option (Bool×Sto):=yd (run P m) csc ifs ρ σ
theorem Lx{m:Nat}{r acc:List V}(ea:(run P m).asg csc tgt v ρ σ=some (ρ1,σ)):(run P (m+1)).co csc tgt ifs [] elt (.items (v::r)) ρ σ acc =
    ao (j6 P m csc ifs ρ1 σ) fun c σ2=>cond c (ao ((run P m).ev csc elt ρ1 σ2) fun x σ3=>if sz acc then (run P m).co csc tgt ifs [] elt (.items r) ρ1 σ3 (acc++[x]) else none) ((run P m).co csc tgt ifs [] elt (.items r) ρ1 σ2 acc):=
  bp ea rfl
theorem Dv(p:V→Bool) (f:V→V) (ht:(match bm nm csc.names with | some .local=>true | some .cell=>true | _=>false)=true):∀(items acc:List V) (ρ':Loc),
    (∀v∈items,∀n,j6 P (n+N) csc ifs (ac nm v ρ) σ=some (p v,σ))→(∀v∈items,p v=true→∀n,(run P (n+N)).ev csc elt (ac nm v ρ) σ=some (f v,σ))→
    (∀u,ac nm u ρ'=ac nm u ρ)→acc.length+items.length≤4096→∀n,∃ρ2,(run P (n+N+1+items.length+1)).co csc (.Name nm pos) ifs [] elt (.items items) ρ' σ acc=some (acc++(items.filter p).map f,ρ2,σ)
  | [],acc,ρ',_,_,_,_,n=>⟨ρ',by rw [List.filter_nil,Xz,Vp];rfl⟩
  | v :: r,acc,ρ',h1,h2,h3,h4,n=>by
    have e1:n+N+1+(v::r).length=(n+1+r.length)+N+1:=by rw [Tl];lia
    have ea:(run P (n+N+1+(v::r).length)).asg csc (.Name nm pos) v ρ' σ=some (ac nm v ρ,σ):=by rw [e1,← h3 v];exact cu (n:=n+1+r.length+N) ht
    have et:=h1 v (Tj ..) (n+1+r.length+1)
    rw [show n+1+r.length+1+N=n+N+1+(v::r).length by rw [Tl];lia] at et
    rw [Tl] at h4
    have h3':∀u,ac nm u (ac nm v ρ)=ac nm u ρ:=fun u=>gz nm v u ρ
    have hsz:sz acc=true:=Ty (by exact md ‹_›)
    have go:∀q,(run P (n+N+1+(v::r).length)).co csc (.Name nm pos) ifs [] elt (.items r) (ac nm v ρ) σ q=(run P (n+N+1+r.length+1)).co csc (.Name nm pos) ifs [] elt (.items r) (ac nm v ρ) σ q:=fun q=>by rw [Tl];rfl
    cases hp:p v with
    | false=>
      rw [hp] at et
      obtain ⟨ρ2,e⟩:=Dv p f ht r acc (ac nm v ρ) (fun u hu=>h1 u (Ti _ hu)) (fun u hu=>h2 u (Ti _ hu)) h3' (by exact Ur ‹_›) n
      refine ⟨ρ2,?_⟩
      rw [Wq (by rw [hp];exact Ts),← e]
      rw [Lx ea,et];exact go _
    | true=>
      rw [hp] at et
      have ee:=h2 v (Tj ..) hp (n+1+r.length+1)
      rw [show n+1+r.length+1+N=n+N+1+(v::r).length by rw [Tl];lia] at ee
      obtain ⟨ρ2,e⟩:=Dv p f ht r (acc++[f v]) (ac nm v ρ) (fun u hu=>h1 u (Ti _ hu)) (fun u hu=>h2 u (Ti _ hu)) h3' (by rw [T1,Ua];exact re ‹_›) n
      refine ⟨ρ2,?_⟩
      rw [Ws hp,T5,Xs,← e]
      rw [Lx ea,et];exact bp rfl (bp ee (cm hsz (go _)))
theorem zoa(N:Nat) (p:V→Bool) (f:V→V) {items acc:List V}{F:Nat}(ht:(match bm nm csc.names with | some .local=>true | some .cell=>true | _=>false)=true)
    (h1:∀v∈items,∀n,j6 P (n+N) csc ifs (ac nm v ρ) σ=some (p v,σ)) (h2:∀v∈items,p v=true→∀n,(run P (n+N)).ev csc elt (ac nm v ρ) σ=some (f v,σ))
    (h4:acc.length+items.length≤4096) (h5:N+items.length+2≤F):∃ρ2,(run P F).co csc (.Name nm pos) ifs [] elt (.items items) ρ σ acc=some (acc++(items.filter p).map f,ρ2,σ):=by
  have:=Dv p f ht items acc ρ h1 h2 (fun J=>rfl) h4 (F-(N+items.length+2)) (pos:=pos)
  rwa [show F-(N+items.length+2)+N+1+items.length+1=F by exact F4 ‹_›] at this
theorem Cn{i n:Nat}(h:i<n):An (i:Int) n=some i:=cm (decide_eq_true (Int.natCast_nonneg i)) (cm (decide_eq_true (Int.ofNat_lt.mpr h)) rfl)
theorem wj{xs:List V}{i:Nat}(h:i<xs.length) (h2:xs.length≤4096):di σ (.lst xs) (.int i)=dr xs i:=
  cm (c:=sz xs) (Ty h2) (aj (Cn h) rfl)
theorem Cb(σ:Sto) (a:V):blt σ (.builtin "len") [a]=ob (sd σ a) fun k=>some (.int k,σ):=by kernel_rfl
theorem qw(h2:xs.length≤4096):blt σ (.builtin "len") [.lst xs]=some (.int xs.length,σ):=by
  rw [Cb,show sd σ (.lst xs)=some xs.length from if_pos (show sz xs=true from Ty h2)];rfl
theorem zb3:∀(n:Nat) (lo:Int),(ny lo n).length=n
  | 0,_=>rfl
  | n+1,lo=>by unfold ny;rw [Tl,zb3 n]
theorem Cg:∀(n:Nat) (lo:Nat),ny (lo:Int) n=(List.range' lo n).map fun (i:Nat)=>V.int (i:Int)
  | 0,_=>rfl
  | n+1,lo=>by
    unfold ny
    rw [U2,T5]
    have:=Cg n (lo+1)
    rw [← this];rfl
end
end
section
section
variable {v x y a b:V}{xs ys:List V}{pos p2 p3:Pos}{k m:Nat}{r:V×Sto}{q:Fl×Loc×Sto}{t:Bool}{e e1 e2:Expr}{es:List Expr}{nm:Str}{s:Stmt}{ss sa sb:List Stmt}{o p:MObj}{fl:Fl}
noncomputable def Bj(fl:Fl) (ρ:Loc) (σ:Sto) (k:Option (Fl×Loc×Sto)):Option (Fl×Loc×Sto):=match fl with
  | .next=>k
  | f=>some (f,ρ,σ)
theorem ci(h:P.frz (s::ss)=none) (h1:(run P n).ex sc s ρ σ=some (fl,ρ1,σ1)) (h2:Bj fl ρ1 σ1 ((run P n).exs sc ss ρ1 σ1)=some q):(run P (n+1)).exs sc (s::ss) ρ σ=some q:=Qk h h1 (by cases fl <;> exact h2)
noncomputable def zr4:Fl→Option V:=yg
theorem j2{f:Nat}{fd:FnD}{args:List V}(h0:P.fn f=some fd) (h1:iz P n f args σ=none) (h2:og fd.names args fd.dflts=some ρ) (h3:(run P n).exs fd.scope fd.body ρ σ=some (fl,ρ1,σ1)) (h4:zr4 fl=some v):(run P (n+1)).call f args σ=some (v,σ1):=zmw h0 h1 h2 h3 h4
theorem nr{α:Type}{t:Bool}{x y z:α}(ht:t=true) (h:x=z):cond t x y=z:=by rw [ht];exact h
theorem qr{α:Type}{t:Bool}{x y z:α}(ht:t=false) (h:y=z):cond t x y=z:=by rw [ht];exact h
theorem He(h1:(run P n).tr sc e ρ σ=some (t,σ1)) (ht:t=true) (h2:(run P n).exs sc sa ρ σ1=some (.next,ρ2,σ2)) (h3:(run P n).wh sc e sa ρ2 σ2=some q):(run P (n+1)).wh sc e sa ρ σ=some q:=bp h1 (by subst ht;exact rq h2 h3)
theorem zai(h1:(run P n).tr sc e ρ σ=some (t,σ1)) (ht:t=false):(run P (n+1)).wh sc e sa ρ σ=some (.next,ρ,σ1):=bp h1 (by subst ht;rfl)
theorem Sc(h1:(run P n).tr sc e ρ σ=some (t,σ1)) (ht:t=true) (h2:(run P n).exs sc sa ρ σ1=some (.ret v,ρ2,σ2)):(run P (n+1)).wh sc e sa ρ σ=some (.ret v,ρ2,σ2):=bp h1 (by subst ht;exact rq h2 rfl)
theorem lq{it:It}(h:gq σ it=some none):(run P (n+1)).fo sc e it sa ρ σ=some (.next,ρ,σ):=aj h rfl
theorem ku{it it':It}(h:gq σ it=some (some (v,it'))) (h1:(run P n).asg sc e v ρ σ=some (ρ1,σ1)) (h2:(run P n).exs sc sa ρ1 σ1=some (.next,ρ2,σ2)) (h3:(run P n).fo sc e it' sa ρ2 σ2=some q):(run P (n+1)).fo sc e it sa ρ σ=some q:=aj h (bp h1 (rq h2 h3))
theorem Af{it it':It}(h:gq σ it=some (some (v,it'))) (h1:(run P n).asg sc e v ρ σ=some (ρ1,σ1)) (h2:(run P n).exs sc sa ρ1 σ1=some (.ret x,ρ2,σ2)):(run P (n+1)).fo sc e it sa ρ σ=some (.ret x,ρ2,σ2):=aj h (bp h1 (rq h2 rfl))
theorem bg:ab (push σ o) σ.next=some o:=(o7 _ _ _).trans (if_pos rfl)
theorem cg(hn:m<σ.next):ab (push σ o) m=ab σ m:=(o7 _ _ _).trans (if_neg (U7 hn))
theorem Ri(h:m≠k):∀l:List (Nat×MObj),fk (qb l m o) k=fk l k
  | []=>rfl
  | (i,u)::r=>by
    have ih:=Ri h r
    have nb:T8 m k=false:=by
      cases d:T8 m k with
      | false=>rfl
      | true=>exact absurd (Tu d) h
    cases c:T8 i m with
    | true=>
      obtain rfl:=Tu c
      simp only [qb,fk,c,nb,if_true,Ut,if_false]
    | false=>simp only [qb,fk,c,ih,Ut,if_false]
theorem be(h:m≠k):ab (ah σ m o) k=ab σ k:=Ri h _
theorem bv(h:ab σ m=some p):ab (ah σ m o) m=some o:=(Ci σ m m o h).trans (if_pos rfl)
structure Gr (σ σ':Sto):Prop where
  le:σ.next≤σ'.next
  same:∀k,k<σ.next→ab σ' k=ab σ k
theorem Gr.refl(σ:Sto):Gr σ σ:=⟨Nat.le_refl _,fun J J=>rfl⟩
theorem Gr.trans(h:Gr σ σ1) (h2:Gr σ1 σ2):Gr σ σ2:=⟨Nat.le_trans h.le h2.le,fun k hk=>(h2.same k (Nat.lt_of_lt_of_le hk h.le)).trans (h.same k hk)⟩
theorem Gr.push(σ:Sto) (o:MObj):Gr σ (push σ o):=⟨Nat.le_succ _,fun J hk=>cg hk⟩
theorem Gr.put(h:Gr σ σ1) (hm:σ.next≤m):Gr σ (ah σ1 m o):=⟨h.le,fun k hk=>(be (by exact zqx ‹_› ‹_›)).trans (h.same k hk)⟩
def Feed (σ:Sto) (it:It) (l:List V):Prop:=it = .items l∨∃n i xs,it = .cur n i∧n<σ.next∧ab σ n=some (.lst xs)∧xs.drop i=l
theorem Feed.mono{it:It}(h:Feed σ it xs) (g:Gr σ σ1):Feed σ1 it xs:=by
  rcases h with h | ⟨n,i,l,h1,h2,h3,h4⟩
  · exact .inl h
  · exact .inr ⟨n,i,l,h1,Tn h2 g.le,(g.same n h2).trans h3,h4⟩
theorem uu:∀(l:List V) (i:Nat),dr l i=(l.drop i).head?
  | [],i=>by cases i <;> rfl
  | a::r,0=>rfl
  | a::r,i+1=>uu r i
theorem dj{m:Nat}{xs:List V}(h:ab σ m=some (.lst xs)):bj σ (.ref m)=some xs:=aj h rfl
theorem Feed.nil{it:It}(h:Feed σ it []):gq σ it=some none:=by
  rcases h with h | ⟨n,i,l,h1,h2,h3,h4⟩
  · rw [h];rfl
  · rw [h1];exact aj (dj h3) (by rw [uu,h4];rfl)
theorem Feed.cons{it:It}(h:Feed σ it (v::xs)):∃it',gq σ it=some (some (v,it'))∧Feed σ it' xs:=by
  rcases h with h | ⟨n,i,l,h1,h2,h3,h4⟩
  · exact ⟨.items xs,by rw [h];rfl,.inl rfl⟩
  · refine ⟨.cur n (i+1),?_,.inr ⟨n,i+1,l,rfl,h2,h3,?_⟩⟩
    · rw [h1];exact aj (dj h3) (by rw [uu,h4];rfl)
    · have:=congrArg (List.drop 1) h4
      rwa [Yi] at this
theorem ur(h:ab σ m=some (.lst xs)) (hz:sz xs=true):jg σ (.ref m) ⟨#[97,112,112,101,110,100]⟩ [x]=some (.none,ah σ m (.lst (xs++[x]))):=aj (dj h) (cm hz ((show yz σ m xs ⟨#[97,112,112,101,110,100]⟩ [x]=some (.none,ah σ m (.lst (xs++[x]))) by kernel_rfl)))
theorem zhc{α:Type}(xs:List α) (x:α):yu (xs++[x]).reverse=some (x,xs.reverse):=by rw [List.reverse_append];rfl
theorem Nz(h:ab σ m=some (.lst (xs++[x]))) (hz:sz (xs++[x])=true):jg σ (.ref m) ⟨#[112,111,112]⟩ []=some (x,ah σ m (.lst xs)):=
  aj (dj h) (cm hz ((show yz σ m (xs++[x]) ⟨#[112,111,112]⟩ []=ao (yu (xs++[x]).reverse) fun x r=>some (x,ah σ m (.lst r.reverse)) by kernel_rfl).trans (bp (zhc xs x) (by rw [List.reverse_reverse]))))
theorem zd1(h:ab σ m=some (.lst xs)) (hy:bj σ y=some ys) (hz:sz xs=true) (hz2:sz (xs++ys)=true):jg σ (.ref m) ⟨#[101,120,116,101,110,100]⟩ [y]=some (.none,ah σ m (.lst (xs++ys))):=aj (dj h) (cm hz ((show yz σ m xs ⟨#[101,120,116,101,110,100]⟩ [y]=ob (bj σ y) fun ys=>if sz (xs++ys) then some (.none,ah σ m (.lst (xs++ys))) else none by kernel_rfl).trans (aj hy (cm hz2 rfl))))
theorem dx{C:Nat}{ks:List Str}(h:ab σ m=some (.obj C ks xs)):fg σ (.ref m)=some (C,ks,xs):=by
  exact aj h rfl
theorem je(h:ab σ m=some (.lst xs)):f9 σ (.ref m)=some (.cur m 0):=by
  exact aj (dj h) rfl
theorem Mt{b:Bool}{lo u st:Option Expr}{p4:Pos}(h0:vb lo u st=some b) (h1:(run P n).ev sc e ρ σ=some (v,σ1)) (h2:bj σ1 v=some xs) (h3:sz xs=true):(run P (n+1)).ev sc (.Subscript e (.Slice lo u st p4) pos) ρ σ=some (gi σ1 (.lst (if b then xs.reverse else (xs.drop 1).reverse))):=
  aj (x:=vb lo u st) h0 (bp h1 (aj h2 (cm h3 rfl)))
theorem th{C:Nat}{ks:List Str}{c:ClsD}(h1:(run P n).ev sc e ρ σ=some (.ref k,σ1)) (h2:ab σ1 k=some (.obj C ks xs)) (hc:P.cls C=some c) (h3:(e9 nm c.attrs&&sz ks)=true):(run P (n+1)).asg sc (.Attribute e nm pos) v ρ σ=some (ρ,ah σ1 k (.obj C (c8 nm v ks xs).1 (c8 nm v ks xs).2)):=
  bp h1 (aj (x:=qf (.ref k)) rfl (aj h2 (aj (x:=A1 P nm v (.obj C ks xs)) (aj hc (cm (c:=e9 nm c.attrs&&sz ks) h3 rfl)) rfl)))
theorem D9{C:Nat}{c:ClsD}(hc:P.cls C=some c) (h:(run P n).call c.init (.ref σ.next::xs) (push σ (.obj C [] []))=some (.none,σ1)):(run P (n+1)).new C xs σ=some (.ref σ.next,σ1):=aj hc (bp h (aj (x:=isNone .none) rfl rfl))
theorem zin{ks:List (Option Expr)}{kl:List Str}(h:mz ks=some kl) (h1:(run P n).evs sc es ρ σ=some (xs,σ1)) (h2:(T8 kl.length xs.length&&(U8 kl.length 15&&nu kl))=true):(run P (n+1)).ev sc (.Dict ks es pos) ρ σ=some (gi σ1 (.dct kl xs)):=aj h (bp h1 (cm h2 rfl))
theorem De{ifs:List Expr}{tgt elt:Expr}{it it':It}{acc:List V}(hn:gq σ it=some (some (v,it'))) (ea:(run P m).asg csc tgt v ρ σ=some (ρ1,σ)):(run P (m+1)).co csc tgt ifs [] elt it ρ σ acc =
    ao (j6 P m csc ifs ρ1 σ) fun c σ2=>cond c (ao ((run P m).ev csc elt ρ1 σ2) fun x σ3=>if sz acc then (run P m).co csc tgt ifs [] elt it' ρ1 σ3 (acc++[x]) else none) ((run P m).co csc tgt ifs [] elt it' ρ1 σ2 acc):=
  aj hn (bp ea rfl)
theorem E6{ifs:List Expr}{tgt elt:Expr}(p:V→Bool) (f:V→V) (st:V→Loc→Loc):∀(items acc:List V) (ρ':Loc) (σ:Sto) (it:It),Feed σ it items→(∀v∈items,∀n σ ρ',(run P (n+N)).asg csc tgt v ρ' σ=some (st v ρ',σ))→
    (∀v∈items,∀n σ',Gr σ σ'→∃σ'',Gr σ' σ''∧j6 P (n+N) csc ifs (st v ρ) σ'=some (p v,σ''))→(∀v∈items,p v=true→∀n σ',Gr σ σ'→∃σ'',Gr σ' σ''∧(run P (n+N)).ev csc elt (st v ρ) σ'=some (f v,σ''))→
    (∀u∈items,st u ρ'=st u ρ)→(∀u∈items,∀w∈items,st u (st w ρ)=st u ρ)→acc.length+items.length≤4096→∀n,∃ρ2 σ2,Gr σ σ2∧(run P (n+N+1+items.length+1)).co csc tgt ifs [] elt it ρ' σ acc=some (acc++(items.filter p).map f,ρ2,σ2)
  | [],acc,ρ',σ,it,hf,_,_,_,_,_,_,n=>⟨ρ',σ,Gr.refl _,by
    rw [List.filter_nil,Xz,Vp]
    exact aj hf.nil rfl⟩
  | v :: r,acc,ρ',σ,it,hf,hs,h1,h2,h3,h3b,h4,n=>by
    have e1:n+N+1+(v::r).length=(n+1+(v::r).length)+N:=by rw [Tl];lia
    obtain ⟨it',hn,hf'⟩:=hf.cons
    have ea:(run P (n+N+1+(v::r).length)).asg csc tgt v ρ' σ=some (st v ρ,σ):=by rw [e1,← h3 v (Tj ..)];exact hs v (Tj ..) (n+1+(v::r).length) _ _
    obtain ⟨σa,ga,et⟩:=h1 v (Tj ..) (n+1+(v::r).length) σ (Gr.refl _)
    rw [← e1] at et
    rw [Tl] at h4
    have go:n+N+1+(v::r).length=n+N+1+r.length+1:=by rw [Tl];exact Sk
    have hsz:sz acc=true:=Ty (by exact md ‹_›)
    cases hp:p v with
    | false=>
      rw [hp] at et
      obtain ⟨ρ2,σ2,g2,e⟩:=E6 p f st r acc (st v ρ) σa it' (hf'.mono ga) (fun u hu=>hs u (Ti _ hu)) (fun u hu n σ' g=>h1 u (Ti _ hu) n σ' (ga.trans g)) (fun u hu q n σ' g=>h2 u (Ti _ hu) q n σ' (ga.trans g)) (fun u hu=>h3b u (Ti _ hu) v (Tj ..)) (fun u hu w hw=>h3b u (Ti _ hu) w (Ti _ hw)) (by exact Ur ‹_›) n
      refine ⟨ρ2,σ2,ga.trans g2,?_⟩
      rw [Wq (by rw [hp];exact Ts),← e,De hn ea,et]
      show (run P _).co csc tgt ifs [] elt it' (st v ρ) σa acc=_
      rw [go]
    | true=>
      rw [hp] at et
      obtain ⟨σb,gb,ee⟩:=h2 v (Tj ..) hp (n+1+(v::r).length) σa ga
      rw [← e1] at ee
      obtain ⟨ρ2,σ2,g2,e⟩:=E6 p f st r (acc++[f v]) (st v ρ) σb it' ((hf'.mono ga).mono gb) (fun u hu=>hs u (Ti _ hu)) (fun u hu n σ' g=>h1 u (Ti _ hu) n σ' ((ga.trans gb).trans g)) (fun u hu q n σ' g=>h2 u (Ti _ hu) q n σ' ((ga.trans gb).trans g)) (fun u hu=>h3b u (Ti _ hu) v (Tj ..)) (fun u hu w hw=>h3b u (Ti _ hu) w (Ti _ hw)) (by rw [T1,Ua];exact re ‹_›) n
      refine ⟨ρ2,σ2,(ga.trans gb).trans g2,?_⟩
      rw [Ws hp,T5,Xs,← e,De hn ea,et]
      exact bp rfl (bp ee (cm hsz (by rw [go])))
theorem zov{ifs:List Expr}{tgt elt:Expr}{it:It}{items acc:List V}{F:Nat}(N:Nat) (p:V→Bool) (f:V→V) (st:V→Loc→Loc) (hf:Feed σ it items) (hs:∀v∈items,∀n σ ρ',(run P (n+N)).asg csc tgt v ρ' σ=some (st v ρ',σ))
    (h1:∀v∈items,∀n σ',Gr σ σ'→∃σ'',Gr σ' σ''∧j6 P (n+N) csc ifs (st v ρ) σ'=some (p v,σ'')) (h2:∀v∈items,p v=true→∀n σ',Gr σ σ'→∃σ'',Gr σ' σ''∧(run P (n+N)).ev csc elt (st v ρ) σ'=some (f v,σ''))
    (h3b:∀u∈items,∀w∈items,st u (st w ρ)=st u ρ) (h4:acc.length+items.length≤4096) (h5:N+items.length+2≤F):∃ρ2 σ2,Gr σ σ2∧(run P F).co csc tgt ifs [] elt it ρ σ acc=some (acc++(items.filter p).map f,ρ2,σ2):=by
  have:=E6 (ρ:=ρ) p f st items acc ρ σ it hf hs h1 h2 (fun J J=>rfl) h3b h4 (F-(N+items.length+2))
  rwa [show F-(N+items.length+2)+N+1+items.length+1=F by exact F4 ‹_›] at this
end
end
end Mine
end
section
open PySem
set_option maxRecDepth 20000
set_option linter.unusedVariables false
namespace Mine
section
theorem Bq{c:Bool}{ifs:List Expr}(T:List Item) (e:yi (kg P n) csc ifs ρ σ ⟨T,True⟩=some ((c,σ'),⟨[],kb True T⟩)):j6 P n csc ifs ρ σ=some (c,σ'):=(Nr (p9 P n)).run T e
theorem i8{c:Bool}{ifs:List Expr}(T:List Item) (e:yi (kg P n) csc ifs ρ σ ⟨T,True⟩=some ((c,σ),⟨[],kb True T⟩)):∃σ'',Gr σ σ''∧j6 P n csc ifs ρ σ=some (c,σ''):=⟨σ,Gr.refl _,Bq T e⟩
theorem i9{v:V}{x:Expr}(T:List Item) (e:(kg P n).ev sc x ρ σ ⟨T,True⟩=some ((v,σ),⟨[],kb True T⟩)):∃σ'',Gr σ σ''∧(run P n).ev sc x ρ σ=some (v,σ''):=⟨σ,Gr.refl _,cp T e⟩
end
noncomputable def rE(s:Stmt):Expr:=@U1 (fun J=>Expr) s (fun J J J J J J J J J J=>default) (fun J J J J J J J J J J=>default) (fun J J J J J J J J J J J=>default) (fun o J=>o.getD default) (fun J J=>default) (fun J e J=>e) (fun J J J J J J J=>default) (fun J J J J=>default) (fun J J J J J=>default) (fun J J J J J=>default) (fun J J J J J=>default) (fun J J J J=>default) (fun J J J J=>default) (fun J J J=>default) (fun J J J=>default) (fun J J J=>default) (fun J J J=>default) (fun J J J J J=>default) (fun J J J J J=>default) (fun J J J=>default) (fun J J=>default) (fun J J J J=>default) (fun J J=>default) (fun J J=>default) (fun J J=>default) (fun J=>default) (fun J=>default) (fun J=>default)
theorem vis{v:V}{b:Bool}(h:isNone v=some b):∀σ,bo σ .Is v .none=some b:=fun J=>h
theorem F7{σ:Sto}{n i:Nat}{xs:List V}{v:V}(h:ab σ n=some (.lst xs)) (hi:dr xs i=some v):gq σ (.cur n i)=some (some (v,.cur n (i+1))):=by
  exact aj (dj h) (by rw [hi];rfl)
theorem tu{σ:Sto}{n i:Nat}{xs:List V}(h:ab σ n=some (.lst xs)) (hi:dr xs i=none):gq σ (.cur n i)=some none:=by
  exact aj (dj h) (by rw [hi];rfl)
theorem i5{P:PD}{n:Nat}{sc csc:Scope}{e elt iter tgt:Expr}{ifs:List Expr}{pos:Pos}{ρ ρf:Loc}{σ σ1:Sto}{it:It}{items:List V}(he:e = .ListComp elt [⟨tgt,iter,ifs,0⟩] csc pos) (hc:mj sc csc=true) (hρ:(ρ.filter fun p=>fy p.1 csc)=ρf) (N:Nat) (p:V→Bool) (f:V→V) (st:V→Loc→Loc) (hn:N+items.length+3≤n)
    (hi:gm P (run P (n-1)) sc iter ρ σ=some (it,σ1)) (hf:Feed σ1 it items) (hs:∀v∈items,∀n σ ρ',(run P (n+N)).asg csc tgt v ρ' σ=some (st v ρ',σ))
    (h1:∀v∈items,∀n σ',Gr σ1 σ'→∃σ'',Gr σ' σ''∧j6 P (n+N) csc ifs (st v ρf) σ'=some (p v,σ'')) (h2:∀v∈items,p v=true→∀n σ',Gr σ1 σ'→∃σ'',Gr σ' σ''∧(run P (n+N)).ev csc elt (st v ρf) σ'=some (f v,σ''))
    (h3b:∀u∈items,∀w∈items,st u (st w ρf)=st u ρf) (h4:items.length≤4096):∃σ2,Gr σ1 σ2∧(run P n).ev sc e ρ σ=some (.ref σ2.next,push σ2 (.lst ((items.filter p).map f))):=by
  obtain ⟨k,rfl⟩:∃k,n=k+1:=⟨n-1,by exact j8 ‹_› (by decide)⟩
  obtain ⟨ρ2,σ2,g,ec⟩:=zov (acc:=[]) (F:=k) N p f st hf hs h1 h2 h3b (by simpa using h4) (by exact P2 ‹_› (by decide))
  refine ⟨σ2,g,?_⟩
  rw [he]
  exact Fw hc hi (by rw [hρ];exact ec)
theorem F0{P:PD}{n:Nat}{sc csc:Scope}{nm:Str}{e elt iter:Expr}{ifs:List Expr}{pos p2:Pos}{ρ ρf:Loc}{σ σ1:Sto}{items:List V}(he:e = .ListComp elt [⟨.Name nm p2,iter,ifs,0⟩] csc pos) (hc:mj sc csc=true) (hρ:(ρ.filter fun p=>fy p.1 csc)=ρf) (N:Nat) (p:V→Bool) (f:V→V) (hn:N+items.length+3≤n)
    (hi:gm P (run P (n-1)) sc iter ρ σ=some (.items items,σ1)) (ht:(match bm nm csc.names with | some .local=>true | some .cell=>true | _=>false)=true)
    (h1:∀v∈items,∀n,j6 P (n+N) csc ifs (ac nm v ρf) σ1=some (p v,σ1)) (h2:∀v∈items,p v=true→∀n,(run P (n+N)).ev csc elt (ac nm v ρf) σ1=some (f v,σ1))
    (h4:items.length≤4096):(run P n).ev sc e ρ σ=some (.ref σ1.next,push σ1 (.lst ([]++(items.filter p).map f))):=by
  obtain ⟨k,rfl⟩:∃k,n=k+1:=⟨n-1,by exact j8 ‹_› (by decide)⟩
  obtain ⟨ρ2,ec⟩:=zoa (pos:=p2) (acc:=[]) (F:=k) N p f ht h1 h2 (by simpa using h4) (by exact P2 ‹_› (by decide))
  rw [he]
  exact Fw hc hi (by rw [hρ];exact ec)
end Mine
end
section
open PySem PySem.W
set_option maxRecDepth 20000
set_option maxHeartbeats 4000000
namespace Mine
section
theorem zu(f:Nat→V):∀(r:List Nat) (i:Nat),i<r.length→dr (r.map f) i=some (f (ft 0 r i))
  | _::_,0,_=>rfl
  | _::r,i+1,h=>zu f r i (Tx h)
theorem o8:∀(r:List Nat) (i:Nat),i<r.length→ft 0 r i∈r
  | _::_,0,_=>Tj ..
  | _::r,i+1,h=>Ti _ (o8 r i (Tx h))
theorem mo{σ:Sto}{n:Nat}(h:n≤1000):f9 σ (.rng 0 n)=some (.items ((T6 0 n).map fun (i:Nat)=>V.int (i:Int))):=by
  unfold f9;dsimp only
  rw [if_pos (by show (j4 0&&j4 (n:Int))=true;rw [Uc];exact ⟨rfl,Ty (by simp;exact Th ‹_› (by decide))⟩),← Cg n 0]
  simp
theorem Qv{σ:Sto}{k:Nat}{ks:List Str}{xs:List V}(h:ab σ k=some (.dct ks xs)):bj σ (.ref k)=none:=by
  show ob (ab σ k) mL=none
  rw [h];rfl
theorem Fm{σ:Sto}{k:Nat}{ks:List Str}{xs:List V}(h:ab σ k=some (.dct ks xs)):mh σ (.ref k)=some (ks,xs):=aj h rfl
theorem Ll{σ:Sto}{m:Nat}(h:ab σ m=some (.dct [] [])):s6 σ (.ref m)=some ():=bp (x:=mh σ (.ref m)) (aj h rfl) rfl
theorem Ng{σ:Sto}{a b:V}{c:Bool}(h:b9 ik a b=some c):nh σ a b=some c:=cm (by rw [h];rfl) h
theorem E1{σ:Sto}{a b:V}{xs ys:List V}(h0:b9 ik a b=none) (h1:bj σ a=some xs) (h2:bj σ b=some ys):nh σ a b=Bz xs ys:=
  (if_neg (by rw [h0];exact Ts)).trans (cm (by rw [h1];rfl) (aj h1 (aj h2 rfl)))
theorem Mj(xs:List V):Bz xs []=some xs.isEmpty:=by cases xs <;> rfl
theorem eq_nil{σ:Sto}{xs:List V}{a b:Nat}(h1:ab σ a=some (.lst xs)) (h2:ab σ b=some (.lst [])):bo σ .Eq (.ref a) (.ref b)=some xs.isEmpty:=(E1 rfl (dj h1) (dj h2)).trans (Mj xs)
noncomputable def sw(i:Nat):V:=.str (wd i)
noncomputable def so:Option Nat→V
  | none=>.str ⟨#[]⟩
  | some i=>.str (wd i)
noncomputable def bq(r:List Nat) (m:Option Nat):V:=.tup [.lst (r.map sw),so m]
noncomputable def bn(w:List Nat) (q:Option Nat) (i:Nat):Nat:=if i<w.length then ft 0 w i else q.getD 0
noncomputable def jp(r:List Nat) (m:Option Nat) (w:List Nat) (q:Option Nat):Bool:=(q.isNone&&(m.isSome || !decide (r.length=w.length)))||decide (r.length<w.length)
noncomputable def l9:Option Nat→Option Nat→Bool
  | some y,some z=>bl y z
  | _,_=>true
noncomputable def ou(r w:List Nat) (q:Option Nat):Bool:=(T6 0 r.length).all fun i=>bl (ft 0 r i) (bn w q i)
noncomputable def al(r:List Nat) (m:Option Nat) (w:List Nat) (q:Option Nat):Bool:=
  !jp r m w q&&(l9 m q&&ou r w q)
theorem Qq:∀{i:Nat},i<7→seq (wd i) ⟨#[]⟩=false
  | 0,_ | 1,_ | 2,_ | 3,_ | 4,_ | 5,_ | 6,_=>by kernel_rfl
  | n+7,h=>by lia
section
variable {c:Nat→Option (Nat×(List V→Option V))}{fre:Nat→Bool}
noncomputable abbrev Pc (c:Nat→Option (Nat×(List V→Option V))) (fre:Nat→Bool):PD:=⟨PB.glob,PB.fn,PB.cls,c,fun J=>none,fre⟩
theorem filter_nil(l:List Nat) (p:Nat→Bool):(((l.map fun (i:Nat)=>V.int (i:Int)).filter fun v=>match v with | .int i=>p i.toNat | _=>false).map id).isEmpty=l.all fun i=>!p i:=by
  induction l with
  | nil=>rfl
  | cons a l ih=>
    rw [T5,Vb]
    cases h:p a with
    | true=>rw [Ws (by show p (Int.toNat a)=true;simpa using h)];rfl
    | false=>rw [Wq (by show ¬ p (Int.toNat a)=true;simp [h]),ih];rfl
noncomputable def rho(r:List Nat) (m:Option Nat) (w:List Nat) (q:Option Nat):Loc:=[(⟨#[111,110,101]⟩,bq r m),(⟨#[111,116,104,101,114]⟩,bq w q),(⟨#[114,111,119]⟩,.lst (r.map sw)),(⟨#[109,111,114,101]⟩,so m),(⟨#[119,105,100,101]⟩,.lst (w.map sw)),(⟨#[114,101,115,116]⟩,so q)]
end
theorem zpz:∀i,i<7→wi (wd i)=some i
  | 0,_ | 1,_ | 2,_ | 3,_ | 4,_ | 5,_ | 6,_=>by kernel_rfl
  | n+7,h=>by lia
theorem zw:Pa.con 971=none:=by kernel_rfl
theorem km{P P':PD}{f k N:Nat}{fd:FnD}{args:List V}{v:V}{σ:Sto}(h0:P.fn f=some fd) (h1:P.con f=some (k,af P' k f)) (h2:gx args=true) (h3:af P' k f args=some v) (h:k+2≤N):(run P N).call f args σ=some (v,σ):=by
  obtain ⟨n,rfl⟩:=Tg h
  exact ii h0 h1 h2 h3 (Vo ..)
theorem Dk{i j:Nat}(hi:i<7) (hj:j<7):∀N σ,42≤N→(run Pa N).call 966 [.str (wd i),.str (wd j)] σ=some (.bool (bl i j),σ):=fun N σ h=>km (P':=PB) (k:=40) rfl (by kernel_rfl) rfl (zen hi hj) h
section
variable {r w:List Nat}{m q:Option Nat}
theorem ul(h:r.length≤3) (σ:Sto):blt σ (.builtin "len") [.lst (r.map sw)]=some (.int r.length,σ):=by rw [qw (by rw [Tm];exact Th ‹_› (by decide)),Tm]
theorem Hp{i:Nat}(h:r.length≤3) (hi:i<r.length) (σ:Sto):di σ (.lst (r.map sw)) (.int i)=some (.str (wd (ft 0 r i))):=by rw [wj (by rw [List.length_map];exact hi) (by rw [List.length_map];exact Nat.le_trans ‹_› (by decide)),zu _ _ _ hi];rfl
theorem ltI(a b:Nat) (σ:Sto):bo σ .Lt (.int a) (.int b)=some (decide (a<b)):=congrArg some (decide_eq_decide.mpr W8)
theorem neI(a b:Nat) (σ:Sto):bo σ .NotEq (.int a) (.int b)=some (!decide (a=b)):=congrArg some (congrArg not (decide_eq_decide.mpr Xl))
theorem Ay(h:∀i,q=some i→i<7) (σ:Sto):bo σ .Eq (so q) (.str ⟨#[]⟩)=some q.isNone:=by
  cases q with
  | none=>rfl
  | some i=>show some (seq (wd i) _)=_;rw [Qq (h i rfl)];rfl
theorem Ou(h:∀i,q=some i→i<7) (σ:Sto):bo σ .NotEq (so q) (.str ⟨#[]⟩)=some q.isSome:=by
  show on (bo σ .Eq (so q) (.str ⟨#[]⟩))=_
  rw [Ay h σ];cases q <;> rfl
noncomputable def Hj(r w:List Nat) (q:Option Nat):V→Bool
  | .int i=>!bl (ft 0 r i.toNat) (bn w q i.toNat)
  | _=>false
theorem zdb (hr:r.length≤3) (hw:w.length≤3) (hq:q=none→r.length≤w.length) (r7:∀i∈r,i<7) (w7:∀i∈w,i<7) (q7:∀i,q=some i→i<7) :
    (run Pa 92).ev f971.scope (iy (rE (ai f971.body 4)) 0) (rho r m w q) σ=some (.ref σ.next,push σ (.lst ([]++(((T6 0 r.length).map fun (i:Nat)=>V.int (i:Int)).filter (Hj r w q)).map id))):=
  F0 rfl rfl (ρf:=[(⟨#[114,111,119]⟩,.lst (r.map sw)),(⟨#[119,105,100,101]⟩,.lst (w.map sw)),(⟨#[114,101,115,116]⟩,so q)]) (by kernel_rfl) 70 (Hj r w q) id (by simp;exact ya ‹_› (by decide))
    (d9 rfl (cp [bh (ul hr)] (by kernel_rfl)) (mo (n:=r.length) (by exact Th ‹_› (by decide)))) rfl (fun v hv n=>by
      obtain ⟨i,hi,rfl⟩:=Ud.mp hv
      have hi:i<r.length:=by have:=(Uk.mp hi).2;exact lc ‹_›
      have b1:=r7 _ (o8 r i hi)
      have hlt:∀σ,bo σ .Lt (.int i) (.int w.length)=some (decide (i<w.length)):=ltI i w.length
      show j6 Pa (n+70) _ _ _ σ=some (!bl (ft 0 r i) (bn w q i),σ)
      by_cases hiw:i<w.length
      · rw [show bn w q i=ft 0 w i from if_pos hiw]
        rw [decide_eq_true hiw] at hlt
        exact Bq [ey (Hp hr hi),bh (ul hw),aq hlt,ey (Hp hw hiw),ap (Dk b1 (w7 _ (o8 w i hiw)))] (by kernel_rfl)
      · rw [decide_eq_false hiw] at hlt
        cases q with
        | none=>exact absurd (hq rfl) (by lia)
        | some z=>
          rw [show bn w (some z) i=z from if_neg hiw]
          exact Bq [ey (Hp hr hi),bh (ul hw),aq hlt,ap (Dk b1 (q7 z rfl))] (by kernel_rfl))
    (fun v J J n=>cp [] (by kernel_rfl)) (by simp;exact Th ‹_› (by decide))
theorem zcm (hr:r.length≤3) (hw:w.length≤3) (r7:∀i∈r,i<7) (w7:∀i∈w,i<7) (m7:∀i,m=some i→i<7) (q7:∀i,q=some i→i<7) :
    ∃σ',(run Pa 100).call 971 [bq r m,bq w q] σ=some (.bool (al r m w q),σ'):=by
  have ht:(run Pa 95).tr f971.scope (r5 (ai f971.body 2)) (rho r m w q) σ=some (jp r m w q,σ):=
    lp (w0 (lp (wp (jz [aq (Ay q7)] (by kernel_rfl)) (mr (lp (w0 (jz [aq (Ou m7)] (by kernel_rfl)) (mr (jz [bh (ul hr),bh (ul hw),aq (neI r.length w.length)] (by kernel_rfl)))))))) (mr (jz [bh (ul hr),bh (ul hw),aq (ltI r.length w.length)] (by kernel_rfl))))
  unfold al
  cases he:jp r m w q with
  | true=>exact eh (ay zw) [ix ht,gy he] (by kernel_rfl)
  | false =>
    have hq:q=none→r.length≤w.length:=fun h=>by
      subst h
      simp only [jp,Yv,Vd,V1,Xe,decide_eq_true_eq] at he
      lia
    have hl:=zdb (m:=m) (σ:=σ) hr hw hq r7 w7 q7
    have hf:bo (push (push σ (.lst ([]++(((T6 0 r.length).map fun (i:Nat)=>V.int (i:Int)).filter (Hj r w q)).map id))) (.lst [])) .Eq (.ref σ.next) (.ref (σ.next+1))=some (ou r w q):=
      (eq_nil ((o7 _ _ _).trans ((if_neg (Nat.succ_ne_self _).symm.symm).trans ((o7 _ _ _).trans (if_pos rfl)))) ((o7 _ _ _).trans (if_pos rfl))).trans (by
        unfold ou;rw [Vi]
        exact congrArg some ((filter_nil _ fun i=>!bl (ft 0 r i) (bn w q i)).trans (by simp only [Bool.not_not])))
    cases m with
    | none=>exact eh (ay zw) [ix ht,gy he,cw hl,fw hf] (by kernel_rfl)
    | some y=>
      cases q with
      | none=>exact absurd he (by simp [jp])
      | some z=>
        have hb:=Dk (m7 y rfl) (q7 z rfl)
        have hs:=Ou m7
        cases hm:bl y z with
        | true=>
          rw [show l9 (some y) (some z)=true from hm]
          exact eh (ay zw) [ix ht,gy he,aq hs,ap hb,gy hm,cw hl,fw hf] (by kernel_rfl)
        | false=>
          rw [show l9 (some y) (some z)=false from hm]
          exact eh (ay zw) [ix ht,gy he,aq hs,ap hb,gy hm] (by kernel_rfl)
end
end
end Mine
end
section
open PySem PySem.W
set_option maxRecDepth 20000
namespace Mine
structure ShOk (r:List Nat) (m:Option Nat):Prop where
  len:r.length≤3
  row:∀i∈r,i<7
  more:∀i,m=some i→i<7
theorem zb{r w:List Nat}{m q:Option Nat}(ha:ShOk r m) (hb:ShOk w q):af Pa 100 971 [bq r m,bq w q]=some (.bool (al r m w q)):=by
  obtain ⟨σ',h⟩:=zcm (σ:=⟨0,[]⟩) ha.len hb.len ha.row hb.row ha.more hb.more
  unfold af
  rw [h];rfl
noncomputable def Pb:PD:=Pa.put 971 100 (af Pa 100 971)
end Mine
end
section
open PySem PySem.W
set_option maxRecDepth 20000
set_option maxHeartbeats 4000000
namespace Mine
noncomputable def eu(r:List Nat) (m:Option Nat) (w:List Nat) (q:Option Nat):Bool:=al r m w q && !al w q r m
theorem Ni{r w:List Nat}{m q:Option Nat}:gx [bq r m,bq w q]=true:=by cases m <;> cases q <;> rfl
theorem Cc{P:PD}(h1:P.fn 971=some f971) (h2:P.con 971=some (100,af Pa 100 971)) {r w:List Nat}{m q:Option Nat}(ha:ShOk r m) (hb:ShOk w q):∀N σ,102≤N→(run P N).call 971 [bq r m,bq w q] σ=some (.bool (al r m w q),σ):=fun N σ h=>km h1 h2 Ni (zb ha hb) h
theorem zbv{r w:List Nat}{m q:Option Nat}(ha:ShOk r m) (hb:ShOk w q) (σ:Sto):(run Pb 115).call 978 [bq r m,bq w q] σ=some (.bool (eu r m w q),σ):=by
  have h1:=Cc (P:=Pb) rfl (by kernel_rfl) ha hb
  have h2:=Cc (P:=Pb) rfl (by kernel_rfl) hb ha
  unfold eu
  cases e:al r m w q with
  | false=>rw [e] at h1;exact ce (ay (by kernel_rfl)) [ap h1] (by kernel_rfl)
  | true=>rw [e] at h1;exact ce (ay (by kernel_rfl)) [ap h1,ap h2] (by kernel_rfl)
theorem zbx{r w:List Nat}{m q:Option Nat}(ha:ShOk r m) (hb:ShOk w q):af Pb 115 978 [bq r m,bq w q]=some (.bool (eu r m w q)):=by
  unfold af
  rw [zbv ha hb];rfl
noncomputable def Pd:PD:=Pb.put 978 115 (af Pb 115 978)
end Mine
end
section
open PySem PySem.W
set_option maxHeartbeats 4000000
namespace Mine
noncomputable def PD.putF(P:PD) (f k:Nat) (c:List V→Option V):PD:={ P with con:=(fun g=>if T8 g f then some (k,c) else P.con g),fre:=fun g=>T8 g f||P.fre g }
noncomputable def ip(P:PD) (k f:Nat) (args:List V):Option V:=ao ((run P k).call f args ⟨0,[]⟩) fun v σ=>fzf σ gt v
theorem zh1{P:PD}{k f:Nat}{args:List V}{v:V}(e:ip P k f args=some v):∃V σ',(run P k).call f args ⟨0,[]⟩=some (V,σ')∧fzf σ' gt V=some v:=aw e fun V σ h e=>⟨V,σ,h,e⟩
theorem znp (σ:Sto) (n:Nat):(∀v w,fzf σ n v=some w→fz σ n v=some w)∧(∀l m,fzfs σ n l=some m→fzs σ n l=some m):=by
  induction n with
  | zero=>exact ⟨fun J J e=>aa e,fun J J e=>aa e⟩
  | succ n ih=>
    obtain ⟨ih,ihs⟩:=ih
    have tr:∀(v:V) {w:V},(if (true&&Bf v)=true then none else some v)=some w→some v=some w:=fun v w e=>kj e fun J e=>e
    refine ⟨fun v w=>?_,fun l m e=>?_⟩
    · exact @V.casesOn (fun v=>fzf σ (n+1) v=some w→fz σ (n+1) v=some w) v (fun e=>tr .none e) (fun b e=>tr (.bool b) e) (fun b e=>tr (.int b) e) (fun b e=>tr (.str b) e) (fun xs e=>ad (x:=fzfs σ n xs) e fun l h e=>aj (x:=fzs σ n xs) (ihs _ _ h) e) (fun b e=>tr (.lst b) e) (fun b c e=>tr (.dct b c) e) (fun a b c e=>tr (.obj a b c) e) (fun a b e=>tr (.rng a b) e)
        (fun k e=>ad (x:=ab σ k) e fun o h e=>ad e fun l h2 e=>aj (x:=ab σ k) h (aj (x:=fzs σ n (mIt o)) (ihs _ _ h2) e)) (fun b e=>tr (.val b) e)
    · rcases l with _ | ⟨x,xs⟩
      · exact e
      · exact ad (x:=fzf σ n x) e fun v h e=>ad e fun l h2 e=>aj (x:=fz σ n x) (ih _ _ h) (aj (x:=fzs σ n xs) (ihs _ _ h2) e)
theorem zhd{P:PD}{k f:Nat}{args:List V}{v:V}(e:ip P k f args=some v):af P k f args=some v:=aw e fun V σ h e=>bp h ((znp σ _).1 _ _ e)
theorem Wld.putF{prog:Program}{w:World}{hb:Heap}{P:PD}{K:Frag}(Z:Wld prog w P hb K) {f k:Nat}(hn:P.con f=none):Wld prog w (P.putF f k (ip P k f)) hb K:=by
  refine Z.add rfl rfl rfl (fun g k' c' e=>cq e (fun h e=>bf e fun a b=>?_) fun J e=>Z.con _ _ _ e) (fun g k' c' e q=>cq e (fun h e=>bf e fun a b=>?_) fun h e=>Z.fre _ _ _ e ?_)
  · rw [Tu h,← a,← b]
    exact Og Z fun args v q=>Nd (zhd q)
  · rw [Tu h,← a,← b]
    exact zlr Z fun args v q=>zh1 q
  · have q:(T8 g f||P.fre g)=true:=q
    rw [h] at q
    exact q
noncomputable def pt(i:Nat):List Nat:=if T8 i 6 then [0,2] else [i]
noncomputable def mt(i j:Nat):Bool:=(pt i).any fun x=>(pt j).any fun y=>bl x y||bl y x
theorem zdp:(i77.map fun p=>af Pd 70 985 [.str (wd p.1),.str (wd p.2)])=i77.map fun p=>some (.bool (mt p.1 p.2)):=by kernel_rfl
theorem zgx{i j:Nat}(hi:i<7) (hj:j<7):af Pd 70 985 [.str (wd i),.str (wd j)]=some (.bool (mt i j)):=T4.mp zdp (i,j) (j5 hi hj)
noncomputable def Pe:PD:=Pd.put 985 70 (af Pd 70 985)
theorem zdl:(i7.map fun i=>af Pe 90 954 [.str (wd i)])=i7.map fun i=>some (kd i):=by kernel_rfl
theorem zgh{i:Nat}(hi:i<7):af Pe 90 954 [.str (wd i)]=some (kd i):=T4.mp zdl i (ju hi)
noncomputable def Pf:PD:=Pe.put 954 90 (af Pe 90 954)
noncomputable def ko:Option Nat→V
  | none=>.none
  | some i=>kd i
noncomputable def sg(r:List Nat) (m:Option Nat):V:=.tup [.str jf,.tup (fnv::r.map kd),ko m]
theorem Ky{σ:Sto}{i j:Nat}{xs ys:List V}(h1:ab σ i=some (.lst xs)) (h2:ab σ j=some (.lst ys)) (h3:sz (xs++ys)=true):ff σ .Add (.ref i) (.ref j)=some (gi σ (.lst (xs++ys))):=by
  show ob (bj σ (.ref i)) (fun xs=>ob (bj σ (.ref j)) fun ys=>pe σ (xs++ys))=_
  exact aj (dj h1) (aj (dj h2) (cm h3 rfl))
theorem Ec{σ:Sto}{i:Nat}{xs:List V}(h1:ab σ i=some (.lst xs)) (h3:sz xs=true):blt σ (.type "tuple") [.ref i]=some (.tup xs,σ):=by
  show u3 σ (.ref i)=_
  exact aj (dj h1) (cm h3 rfl)
noncomputable def kv:V→V
  | .str x=>match wi x with
    | some i=>kd i
    | none=>.none
  | _=>.none
theorem Q2{i:Nat}(h:i<7):kv (sw i)=kd i:=by
  show (match wi (wd i) with | some i=>kd i | none=>.none)=_
  rw [zpz i h]
theorem Nb{r:List Nat}(h:∀i∈r,i<7):(([]:List V)++((r.map sw).filter fun J=>true).map kv)=r.map kd:=by
  rw [Vi,Up.mpr (fun J J=>rfl),Us]
  exact V4 fun i hi=>Q2 (h i hi)
theorem D5:Pf.con 959=none:=by kernel_rfl
theorem Ma{P:PD}(h1:P.fn 954=some Se) (h2:P.con 954=some (90,af Pe 90 954)) {i:Nat}(hi:i<7):∀N σ,92≤N→(run P N).call 954 [.str (wd i)] σ=some (kd i,σ):=fun N σ h=>km h1 h2 rfl (zgh hi) h
noncomputable def Gy:Sto:=push ⟨0,[]⟩ (.lst [fnv])
noncomputable def Sl(r:List Nat):Sto:=push Gy (.lst (([]:List V)++((r.map sw).filter fun J=>true).map kv))
noncomputable def Sz(r:List Nat):Sto:=push (Sl r) (.lst ([fnv]++(([]:List V)++((r.map sw).filter fun J=>true).map kv)))
noncomputable def zpy:Str:=⟨#[114,111,119]⟩
noncomputable def zmb:Str:=⟨#[109,111,114,101]⟩
theorem zl7{r:List Nat}{m:Option Nat}(hs:ShOk r m):(run Pf 125).call 959 [bq r m] ⟨0,[]⟩=some (sg r m,Sz r):=by
  have hz:sz ([fnv]++(([]:List V)++((r.map sw).filter fun J=>true).map kv))=true:=by
    rw [Nb hs.row]
    exact Ty (by have:=hs.len;simp;exact Th ‹_› (by decide))
  have hl:=F0 (P:=Pf) (n:=118) (sc:=f959.scope) (σ:=Gy) (σ1:=Gy) (e:=iy (iy (rE (ai f959.body 1)) 1) 1) (ρ:=[(⟨#[115,104,97,112,101]⟩,bq r m),(zpy,.lst (r.map sw)),(zmb,so m)]) rfl rfl (ρf:=[]) (by kernel_rfl) 100 (fun J=>true) kv (items:=r.map sw) (by have:=hs.len;simp;exact ya ‹_› (by decide))
    (d9 rfl (cp (v:=.lst (r.map sw)) [] (by kernel_rfl)) rfl) rfl (fun v hv n=>rfl) (fun v hv J n=>by
      obtain ⟨i,hi,rfl⟩:=Ud.mp hv
      have hi:=hs.row i hi
      rw [Q2 hi]
      exact cp [ap (Ma (P:=Pf) rfl (by kernel_rfl) hi)] (by kernel_rfl)) (by have:=hs.len;simp;exact Th ‹_› (by decide))
  have hv:=Ky (σ:=Sl r) (i:=0) (j:=1) rfl rfl hz
  have hb:=Ec (σ:=Sz r) (i:=2) rfl hz
  rw [show sg r m = .tup [.str jf,.tup ([fnv]++(([]:List V)++((r.map sw).filter fun J=>true).map kv)),ko m] from by unfold sg;rw [Nb hs.row];rfl]
  cases m with
  | none=>exact ce (ay D5) [cw hl,mf hv,ki hb] (by kernel_rfl)
  | some i=>exact ce (ay D5) [cw hl,mf hv,aq (Ay hs.more),ap (Ma (P:=Pf) rfl (by kernel_rfl) (hs.more i rfl)),ki hb] (by kernel_rfl)
end Mine
end
section
open PySem PySem.W
set_option maxHeartbeats 400000
namespace Mine
mutual
noncomputable def dep:V→Nat
  | .tup xs=>uh xs+1
  | _=>1
noncomputable def uh:List V→Nat
  | []=>1
  | x::xs=>max (dep x) (uh xs)+1
end
mutual
noncomputable def nl:V→Bool
  | .ref _=>false
  | .lst _=>false
  | .dct _ _=>false
  | .obj _ _ _=>false
  | .tup xs=>s3 xs
  | _=>true
noncomputable def s3:List V→Bool
  | []=>true
  | x::xs=>nl x&&s3 xs
end
theorem At (σ:Sto) (b:Bool) (n:Nat):(∀v,rf v=true→(b && !nl v)=false→dep v≤n→kh σ b n v=some v)∧(∀l,gx l=true→(b && !s3 l)=false→uh l≤n→io σ b n l=some l):=by
  induction n with
  | zero=>exact ⟨fun v J J h=>by rcases v with ⟨⟩ <;> exact absurd h (Yj _),fun l J J h=>by rcases l with ⟨⟩ <;> exact absurd h (Yj _)⟩
  | succ n ih=>
    obtain ⟨ih,ihs⟩:=ih
    have tr:∀{v:V}{c:Bool},(b&&c)=false→(if (b&&c)=true then none else some v)=some v:=fun h=>if_neg (by rw [h];exact Ts)
    refine ⟨fun v=>?_,fun l hl hn h=>?_⟩
    · exact @V.casesOn (fun v=>rf v=true→(b && !nl v)=false→dep v≤n+1→kh σ b (n+1) v=some v) v (fun J h J=>tr h) (fun J J h J=>tr h) (fun J J h J=>tr h) (fun J J h J=>tr h) (fun xs hr hn h=>aj (ihs xs hr hn (V8 h)) rfl)
        (fun J J h J=>tr h) (fun J J J h J=>tr h) (fun J J J J h J=>tr h) (fun J J J h J=>tr h) (fun J h=>nomatch h) (fun J J h J=>tr h)
    · rcases l with _ | ⟨x,xs⟩
      · rfl
      · have h:max (dep x) (uh xs)+1≤n+1:=h
        have h:=Yr.mp (V8 h)
        have hn:(b && !(nl x&&s3 xs))=false:=hn
        have hn:(b && !nl x)=false∧(b && !s3 xs)=false:=by
          revert hn
          cases b <;> cases nl x <;> cases s3 xs <;> decide
        exact b7 hl fun h1 h2=>aj (ih x h1 hn.1 h.1) (aj (ihs xs h2 hn.2 h.2) rfl)
structure Pl (n:Nat) (v:V):Prop where
  rf:rf v=true
  nl:nl v=true
  dep:dep v≤n
structure Pls (n:Nat) (l:List V):Prop where
  rf:gx l=true
  nl:s3 l=true
  dep:uh l≤n
theorem Pl.fz{v:V}{n k:Nat}(h:Pl n v) (σ:Sto) (hk:n≤k):Mine.fz σ k v=some v:=(At σ false k).1 v h.rf rfl (Nat.le_trans h.dep hk)
theorem Pl.fzf{v:V}{n k:Nat}(h:Pl n v) (σ:Sto) (hk:n≤k):Mine.fzf σ k v=some v:=(At σ true k).1 v h.rf (by rw [h.nl];rfl) (Nat.le_trans h.dep hk)
theorem Pls.fzf{l:List V}{n k:Nat}(h:Pls n l) (σ:Sto) (hk:n≤k):Mine.fzfs σ k l=some l:=(At σ true k).2 l h.rf (by rw [h.nl];rfl) (Nat.le_trans h.dep hk)
theorem Pls.nil:Pls 1 []:=⟨rfl,rfl,Nat.le_refl _⟩
theorem Pls.cons{x:V}{xs:List V}{n m:Nat}(h:Pl n x) (h2:Pls m xs):Pls (max n m+1) (x::xs):=
  ⟨Uh.mpr ⟨h.rf,h2.rf⟩,Uh.mpr ⟨h.nl,h2.nl⟩,by have:=h.dep;have:=h2.dep;show max (Mine.dep x) (uh xs)+1≤_;exact zqc ‹_› ‹_›⟩
theorem Pl.tup{xs:List V}{n:Nat}(h:Pls n xs):Pl (n+1) (.tup xs):=⟨h.rf,h.nl,Nat.succ_le_succ h.dep⟩
theorem Pl.le{v:V}{n k:Nat}(h:Pl n v) (hk:n≤k):Pl k v:=⟨h.rf,h.nl,Nat.le_trans h.dep hk⟩
theorem Pls.le{v:List V}{n k:Nat}(h:Pls n v) (hk:n≤k):Pls k v:=⟨h.rf,h.nl,Nat.le_trans h.dep hk⟩
theorem zmn:(i7.map fun i=>(rf (kd i),nl (kd i),U8 (dep (kd i)) 12))=i7.map fun J=>(true,true,true):=by kernel_rfl
theorem nz{i:Nat}(h:i<7):Pl 12 (kd i):=by
  have:=T4.mp zmn i (ju h)
  simp only [Prod.mk.injEq] at this
  exact ⟨this.1,this.2.1,T7 this.2.2⟩
theorem pl_fn:Pl 4 fnv:=⟨by kernel_rfl,by kernel_rfl,T7 (by kernel_rfl)⟩
theorem Oo(s:Str):Pl 1 (.str s):=⟨rfl,rfl,Nat.le_refl _⟩
theorem pl_none:Pl 1 .none:=⟨rfl,rfl,To _⟩
theorem M9:∀{r:List Nat},(∀i∈r,i<7)→Pls (r.length+13) (r.map kd)
  | [],_=>Pls.nil.le (by decide)
  | i::r,h=>(Pls.cons (nz (h i (Tj ..))) (M9 fun j hj=>h j (Ti _ hj))).le (by rw [Tl];exact Tr _)
theorem Fp{m:Option Nat}(h:∀i,m=some i→i<7):Pl 12 (ko m):=by
  cases m with
  | none=>exact pl_none.le (by decide)
  | some i=>exact nz (h i rfl)
theorem db{r:List Nat}{m:Option Nat}(h:ShOk r m):Pl 24 (sg r m):=
  (Pl.tup (Pls.cons (Oo jf) (Pls.cons (Pl.tup (Pls.cons pl_fn (M9 h.row))) (Pls.cons (Fp h.more) Pls.nil)))).le (by have:=h.len;exact zl4 ‹_›)
theorem K8{r:List Nat}{m:Option Nat}(hs:ShOk r m):ip Pf 125 959 [bq r m]=some (sg r m):=by
  unfold ip
  rw [zl7 hs]
  exact (db hs).fzf _ (by decide +kernel)
noncomputable def Pg:PD:=Pf.putF 959 125 (ip Pf 125 959)
noncomputable def sh(f:Int):V:=.obj 345 [⟨#[107,105,110,100,115]⟩,⟨#[102,117,101,108]⟩] [KINDS,.int f]
noncomputable def SIDES:V:=.obj 207 [⟨#[114,111,119,115]⟩,⟨#[109,97,110,121]⟩] [.dct [] [],.int 0]
noncomputable def Ga:Str:=⟨#[115,117,98]⟩
noncomputable def gl(p:Nat×Nat):V:=.tup [.str Ga,kd p.1,kd p.2]
noncomputable def uf(i j:Nat):List (List (Nat×Nat)):=
  if T8 i j then [[]] else if T8 j 5 then [[]] else if T8 i 6 then [[(0,j),(2,j)]] else if T8 j 6 then [[(i,0)],[(i,2)]] else if bl i j then [[]] else []
noncomputable def Qo(l:List (List (Nat×Nat))):V:=.lst (l.map fun w=>.lst (w.map gl))
theorem fb:∀{i:Nat},i<6→kd i=bb (wd i)
  | 0,_ | 1,_ | 2,_ | 3,_ | 4,_ | 5,_=>by kernel_rfl
  | n+6,h=>by lia
theorem ng:kd 6=XZv:=by kernel_rfl
noncomputable def ej:List Nat→List (List Nat)
  | []=>[[]]
  | i::r=>(pt i).flatMap fun x=>(ej r).map fun l=>x::l
noncomputable def fq(l:List V) (t:V):Option V:=af Pg 100 235 [.tup [.str jf,.tup (fnv::l),t]]
noncomputable def fm(l:List (List V)) (t:V):Option V:=some (.lst (l.map fun r=>.tup [.str jf,.tup (fnv::r),t]))
noncomputable def nX:V:=bb sX
noncomputable def nZ:V:=bb sZ
noncomputable def um(a b c:Str) (t:V):List (Option V):=[fq [] t,fq [bb a] t,fq [XZv] t,fq [bb a,bb b] t,fq [bb a,XZv] t,fq [XZv,bb b] t,fq [XZv,XZv] t,fq [bb a,bb b,bb c] t]
noncomputable def uk(a b c:Str) (t:V):List (Option V):=[fm [[]] t,fm [[bb a]] t,fm [[nX],[nZ]] t,fm [[bb a,bb b]] t,fm [[bb a,nX],[bb a,nZ]] t,fm [[nX,bb b],[nZ,bb b]] t,fm [[nX,nX],[nX,nZ],[nZ,nX],[nZ,nZ]] t,fm [[bb a,bb b,bb c]] t]
theorem ziq:(fun a b c=>um a b c .none)=fun a b c=>uk a b c .none:=by kernel_rfl
theorem zo6:(fun a b c=>um a b c XZv)=fun a b c=>uk a b c XZv:=by kernel_rfl
theorem zn9:(fun d a b c=>um a b c (bb d))=fun d a b c=>uk a b c (bb d):=by kernel_rfl
theorem znj{m:Option Nat}(h:∀i,m=some i→i<7) (a b c:Str):um a b c (ko m)=uk a b c (ko m):=by
  cases m with
  | none=>exact congrFun (congrFun (congrFun ziq a) b) c
  | some i=>
    by_cases hi:i=6
    · subst hi
      show um a b c (kd 6)=uk a b c (kd 6)
      rw [ng];exact congrFun (congrFun (congrFun zo6 a) b) c
    · show um a b c (kd i)=uk a b c (kd i)
      rw [fb (by have:=h i rfl;exact Gg ‹_› ‹_›)];exact congrFun (congrFun (congrFun (congrFun zn9 (wd i)) a) b) c
theorem zl5{m:Option Nat}(h:∀i,m=some i→i<7) (a b c:Str):fq [] (ko m)=fm [[]] (ko m)∧fq [bb a] (ko m)=fm [[bb a]] (ko m)∧fq [XZv] (ko m)=fm [[nX],[nZ]] (ko m)∧fq [bb a,bb b] (ko m)=fm [[bb a,bb b]] (ko m)∧fq [bb a,XZv] (ko m)=fm [[bb a,nX],[bb a,nZ]] (ko m)∧
    fq [XZv,bb b] (ko m)=fm [[nX,bb b],[nZ,bb b]] (ko m)∧fq [XZv,XZv] (ko m)=fm [[nX,nX],[nX,nZ],[nZ,nX],[nZ,nZ]] (ko m)∧fq [bb a,bb b,bb c] (ko m)=fm [[bb a,bb b,bb c]] (ko m):=by
  have:=znj h a b c
  unfold um uk at this
  simpa only [Y2.injEq,and_true] using this
theorem zpg:nX=kd 0:=by kernel_rfl
theorem zoe:nZ=kd 2:=by kernel_rfl
structure SgOk (r:List Nat) (m:Option Nat):Prop extends ShOk r m where
  short:r.length≤2∨∀i∈r,i<6
theorem Bb:pt 6=[0,2]:=rfl
theorem ye{i:Nat}(h:i≠6):pt i=[i]:=if_neg fun q=>h (Tu q)
theorem Dd{Q:List Nat→Prop}{r:List Nat}{m:Option Nat}(h:SgOk r m) (h0:Q []) (h1:∀i,i<6→Q [i]) (h6:Q [6]) (h2:∀i j,i<6→j<6→Q [i,j]) (h26:∀i,i<6→Q [i,6]) (h62:∀j,j<6→Q [6,j]) (h66:Q [6,6]) (h3:∀i j k,i<6→j<6→k<6→Q [i,j,k]):Q r:=by
  have k:∀i,i<7→i<6∨i=6:=fun i hi=>Nat.lt_or_eq_of_le (Xg hi)
  obtain ⟨⟨l,hr,_⟩,hs⟩:=h
  rcases r with _ | ⟨i,_ | ⟨j,_ | ⟨n,_ | ⟨x,r⟩⟩⟩⟩
  · exact h0
  · exact (k i (hr i (Tj ..))).elim (h1 i) fun q=>q▸h6
  · rcases k i (hr i (Tj ..)) with p | rfl <;> rcases k j (hr j (Ti _ (Tj ..))) with q | rfl
    · exact h2 i j p q
    · exact h26 i p
    · exact h62 j q
    · exact h66
  · have hs:=hs.resolve_left (by show ¬ 3≤2;decide)
    exact h3 i j n (hs i (Tj ..)) (hs j (Ti _ (Tj ..))) (hs n (Ti _ (Ti _ (Tj ..))))
  · exact absurd l (by show ¬ r.length+4≤3;exact fun q=>absurd (Th (Vo ..) q) (by decide))
theorem r4{i:Nat}(h:i<6) (r:List Nat):ej (i::r)=(ej r).map fun l=>i::l:=by
  show (pt i).flatMap _=_
  rw [ye (Uz h),List.flatMap_singleton]
theorem zdr{r:List Nat}{m:Option Nat}(h:SgOk r m):af Pg 100 235 [sg r m]=some (.lst ((ej r).map fun l=>sg l m)):=by
  have K:=fun a b c=>zl5 h.more a b c
  have z:Str:=⟨#[]⟩
  have e0:=zpg
  have e2:=zoe
  refine Dd (Q:=fun r=>fq (r.map kd) (ko m)=fm ((ej r).map fun l=>l.map kd) (ko m)) h ?_ ?_ ?_ ?_ ?_ ?_ ?_ ?_ |>.trans ?_
  · exact (K z z z).1
  · intro i hi
    rw [r4 hi]
    show fq [kd i] (ko m)=fm [[kd i]] (ko m)
    rw [fb hi];exact (K _ z z).2.1
  · show fq [kd 6] (ko m)=fm [[kd 0],[kd 2]] (ko m)
    rw [ng,← e0,← e2];exact (K z z z).2.2.1
  · intro i j hi hj
    rw [r4 hi,r4 hj]
    show fq [kd i,kd j] (ko m)=fm [[kd i,kd j]] (ko m)
    rw [fb hi,fb hj];exact (K _ _ z).2.2.2.1
  · intro i hi
    rw [r4 hi]
    show fq [kd i,kd 6] (ko m)=fm [[kd i,kd 0],[kd i,kd 2]] (ko m)
    rw [ng,← e0,← e2,fb hi];exact (K _ z z).2.2.2.2.1
  · intro j hj
    show fq [kd 6,kd j] (ko m)=fm (((pt 6).flatMap fun x=>(ej [j]).map fun l=>x::l).map fun l=>l.map kd) (ko m)
    rw [r4 hj]
    show fq [kd 6,kd j] (ko m)=fm [[kd 0,kd j],[kd 2,kd j]] (ko m)
    rw [ng,← e0,← e2,fb hj];exact (K z _ z).2.2.2.2.2.1
  · show fq [kd 6,kd 6] (ko m)=fm [[kd 0,kd 0],[kd 0,kd 2],[kd 2,kd 0],[kd 2,kd 2]] (ko m)
    rw [ng,← e0,← e2];exact (K z z z).2.2.2.2.2.2.1
  · intro i j k hi hj hk
    rw [r4 hi,r4 hj,r4 hk]
    show fq [kd i,kd j,kd k] (ko m)=fm [[kd i,kd j,kd k]] (ko m)
    rw [fb hi,fb hj,fb hk];exact (K _ _ _).2.2.2.2.2.2.2
  · show some (V.lst (List.map _ (List.map _ _)))=_
    rw [Us];rfl
noncomputable def Aj:List Str→List Str→Bool
  | [],[]=>true
  | a::x,b::y=>seq a b&&Aj x y
  | _,_=>false
theorem C9:∀{a b:List Str},Aj a b=true→a=b
  | [],[],_=>rfl
  | a::x,b::y,h=>b7 h fun h1 h2=>by rw [lf h1,C9 h2]
  | [],_::_,h=>fE h
  | _::_,[],h=>fE h
mutual
noncomputable def same:V→V→Bool
  | .none,b=>match b with | .none=>true | _=>false
  | .bool x,b=>match b with | .bool y=>x == y | _=>false
  | .int x,b=>match b with | .int y=>decide (x=y) | _=>false
  | .str x,b=>match b with | .str y=>seq x y | _=>false
  | .tup x,b=>match b with | .tup y=>rj x y | _=>false
  | .lst x,b=>match b with | .lst y=>rj x y | _=>false
  | .dct k x,b=>match b with | .dct l y=>Aj k l&&rj x y | _=>false
  | .obj C k x,b=>match b with | .obj D l y=>T8 C D&&(Aj k l&&rj x y) | _=>false
  | _,_=>false
noncomputable def rj:List V→List V→Bool
  | [],b=>match b with | []=>true | _=>false
  | a::x,b=>match b with | c::y=>same a c&&rj x y | []=>false
end
mutual
theorem Dr:∀(a b:V),same a b=true→a=b
  | .none,b=>@V.casesOn (fun b=>same .none b=true→V.none=b) b (fun J=>rfl) (fun J=>fE) (fun J=>fE) (fun J=>fE) (fun J=>fE) (fun J=>fE) (fun J J=>fE) (fun J J J=>fE) (fun J J=>fE) (fun J=>fE) (fun J=>fE)
  | .bool x,b=>@V.casesOn (fun b=>same (.bool x) b=true→V.bool x=b) b fE (fun y h=>congrArg V.bool (beq_iff_eq.mp h)) (fun J=>fE) (fun J=>fE) (fun J=>fE) (fun J=>fE) (fun J J=>fE) (fun J J J=>fE) (fun J J=>fE) (fun J=>fE) (fun J=>fE)
  | .int x,b=>@V.casesOn (fun b=>same (.int x) b=true→V.int x=b) b fE (fun J=>fE) (fun y h=>congrArg V.int (of_decide_eq_true h)) (fun J=>fE) (fun J=>fE) (fun J=>fE) (fun J J=>fE) (fun J J J=>fE) (fun J J=>fE) (fun J=>fE) (fun J=>fE)
  | .str x,b=>@V.casesOn (fun b=>same (.str x) b=true→V.str x=b) b fE (fun J=>fE) (fun J=>fE) (fun y h=>congrArg V.str (lf h)) (fun J=>fE) (fun J=>fE) (fun J J=>fE) (fun J J J=>fE) (fun J J=>fE) (fun J=>fE) (fun J=>fE)
  | .tup x,b=>@V.casesOn (fun b=>same (.tup x) b=true→V.tup x=b) b fE (fun J=>fE) (fun J=>fE) (fun J=>fE) (fun y h=>congrArg V.tup (wl x y h)) (fun J=>fE) (fun J J=>fE) (fun J J J=>fE) (fun J J=>fE) (fun J=>fE) (fun J=>fE)
  | .lst x,b=>@V.casesOn (fun b=>same (.lst x) b=true→V.lst x=b) b fE (fun J=>fE) (fun J=>fE) (fun J=>fE) (fun J=>fE) (fun y h=>congrArg V.lst (wl x y h)) (fun J J=>fE) (fun J J J=>fE) (fun J J=>fE) (fun J=>fE) (fun J=>fE)
  | .dct k x,b=>@V.casesOn (fun b=>same (.dct k x) b=true→V.dct k x=b) b fE (fun J=>fE) (fun J=>fE) (fun J=>fE) (fun J=>fE) (fun J=>fE) (fun l y h=>b7 h fun h1 h2=>by rw [C9 h1,wl x y h2]) (fun J J J=>fE) (fun J J=>fE) (fun J=>fE) (fun J=>fE)
  | .obj C k x,b=>@V.casesOn (fun b=>same (.obj C k x) b=true→V.obj C k x=b) b fE (fun J=>fE) (fun J=>fE) (fun J=>fE) (fun J=>fE) (fun J=>fE) (fun J J=>fE) (fun D l y h=>b7 h fun h0 h=>b7 h fun h1 h2=>by rw [Tu h0,C9 h1,wl x y h2]) (fun J J=>fE) (fun J=>fE) (fun J=>fE)
  | .rng _ _,b=>fE
  | .ref _,b=>fE
  | .val _,b=>fE
theorem wl:∀(a b:List V),rj a b=true→a=b
  | [],b=>@Xx V (fun b=>rj [] b=true→[]=b) b (fun J=>rfl) (fun J J=>fE)
  | a::x,b=>@Xx V (fun b=>rj (a::x) b=true→a::x=b) b fE (fun c y h=>b7 h fun h1 h2=>by rw [Dr a c h1,wl x y h2])
end
noncomputable def F3(v:V):List Nat→Option Nat
  | []=>none
  | i::r=>if same v (kd i) then some i else F3 v r
noncomputable def ni(v:V):Option Nat:=F3 v i7
theorem ut{v:V}{i:Nat}:∀{l:List Nat},F3 v l=some i→v=kd i∧i∈l
  | [],e=>aa e
  | j::r,e=>cq e (fun h e=>by rw [← Uj.inj e];exact ⟨Dr _ _ h,Tj ..⟩) fun J e=>⟨(ut e).1,Ti _ (ut e).2⟩
theorem lt7{i:Nat}(h:i∈i7):i<7:=T7 (Ui.mp (show (i7.all fun i=>Wg i 7)=true by decide +kernel) i h)
theorem zmr:(i7.map fun i=>ni (kd i))=i7.map some:=by kernel_rfl
theorem Mo{i:Nat}(h:i<7):ni (kd i)=some i:=List.map_inj_left.mp zmr i (ju h)
theorem zio{m:Option Nat}(h:∀i,m=some i→i<7):ni (ko m)=m:=by
  rcases m with _ | i
  · show ni .none=none
    kernel_rfl
  · exact Mo (h i rfl)
noncomputable def A4:List V→Option (List Nat)
  | []=>some []
  | v::r=>ob (ni v) fun i=>ob (A4 r) fun l=>some (i::l)
theorem Kj:∀{r:List Nat},(∀i∈r,i<7)→A4 (r.map kd)=some r
  | [],_=>rfl
  | i::r,h=>aj (Mo (h i (Tj ..))) (aj (Kj fun j hj=>h j (Ti _ hj)) rfl)
noncomputable def zan(v:V):Option (List Nat×Option Nat):=ob (f6 v) fun xs=>ob (dr xs 1) fun a=>ob (dr xs 2) fun b=>ob (f6 a) fun l=>ob (A4 (l.drop 1)) fun r=>some (r,ni b)
theorem zjz{r:List Nat}{m:Option Nat}(h:SgOk r m):zan (sg r m)=some (r,m):=
  aj (x:=f6 (sg r m)) rfl (aj rfl (aj rfl (aj (x:=f6 (.tup (fnv::r.map kd))) rfl (aj (x:=A4 (r.map kd)) (Kj h.row) (by rw [zio h.more])))))
noncomputable def Ph:PD:=Pg.put 235 100 (af Pg 100 235)
theorem zh2:(fun n=>i77.map fun p=>b9 (n+14) (kd p.1) (kd p.2))=fun J=>i77.map fun p=>some (T8 p.1 p.2):=by kernel_rfl
theorem M8(n:Nat) {i j:Nat}(hi:i<7) (hj:j<7):b9 (n+14) (kd i) (kd j)=some (decide (i=j)):=by
  rw [T4.mp (congrFun zh2 n) _ (j5 hi hj)]
  congr 1
  by_cases h:i=j
  · rw [decide_eq_true h,h];exact Wi j
  · rw [decide_eq_false h]
    cases q:T8 i j with
    | true=>exact absurd (Tu q) h
    | false=>rfl
theorem Ig:(fun n=>i7.map fun i=>(b9 (n+14) .none (kd i),b9 (n+14) (kd i) .none))=fun J=>i7.map fun J=>(some false,some false):=by kernel_rfl
theorem Mi(n:Nat):∀{r w:List Nat},(∀i∈r,i<7)→(∀i∈w,i<7)→ib (n+15+r.length) (r.map kd) (w.map kd)=some (decide (r=w))
  | [],[],_,_=>rfl
  | [],j::w,_,_=>rfl
  | i::r,[],_,_=>rfl
  | i :: r,j::w,h1,h2=>by
    rw [T5,T5,Tl]
    show (ob (b9 (n+15+r.length) (kd i) (kd j)) fun a=>ob (ib (n+15+r.length) (r.map kd) (w.map kd)) fun b=>some (a&&b))=_
    rw [Mi n (fun k hk=>h1 k (Ti _ hk)) (fun k hk=>h2 k (Ti _ hk)),show n+15+r.length=(n+1+r.length)+14 by lia,M8 _ (h1 i (Tj ..)) (h2 j (Tj ..))]
    show some (_&&_)=_
    congr 1
    by_cases e:i=j
    · by_cases e2:r=w
      · rw [decide_eq_true e,decide_eq_true e2,decide_eq_true (by rw [e,e2])];rfl
      · rw [decide_eq_false e2,Vl,decide_eq_false (fun q=>e2 (Y2.inj q).2)]
    · rw [decide_eq_false e,U6,decide_eq_false (fun q=>e (Y2.inj q).1)]
theorem zke(n:Nat) {m q:Option Nat}(h1:∀i,m=some i→i<7) (h2:∀i,q=some i→i<7):b9 (n+14) (ko m) (ko q)=some (decide (m=q)):=by
  cases m with
  | none=>
    cases q with
    | none=>rfl
    | some j=>exact (Prod.mk.inj (T4.mp (congrFun Ig n) _ (ju (h2 j rfl)))).1
  | some i=>
    cases q with
    | none=>exact (Prod.mk.inj (T4.mp (congrFun Ig n) _ (ju (h1 i rfl)))).2
    | some j=>
      rw [show ko (some i)=kd i from rfl,show ko (some j)=kd j from rfl,M8 n (h1 i rfl) (h2 j rfl)]
      congr 1
      by_cases e:i=j
      · rw [decide_eq_true e,decide_eq_true (by rw [e])]
      · rw [decide_eq_false e,decide_eq_false (fun q=>e (Uj.inj q))]
theorem zlf{r w:List Nat}{m q:Option Nat}(h1:ShOk r m) (h2:ShOk w q):b9 ik (sg r m) (sg w q)=some (decide (r=w∧m=q)):=by
  have e1:ib 19 (r.map kd) (w.map kd)=some (decide (r=w)):=by
    have:=Mi (4-r.length) h1.row h2.row
    rwa [show 4-r.length+15+r.length=19 by have:=h1.len;exact zqp ‹_›] at this
  have e2:b9 20 (ko m) (ko q)=some (decide (m=q)):=zke 6 h1.more h2.more
  have e3:b9 21 (.tup (fnv::r.map kd)) (.tup (fnv::w.map kd))=some (decide (r=w)):=by
    show (ob (b9 19 fnv fnv) fun a=>ob (ib 19 (r.map kd) (w.map kd)) fun b=>some (a&&b))=_
    rw [e1,show b9 19 fnv fnv=some true from by kernel_rfl]
    show some (true&&_)=_
    rw [Vd]
  show (ob (b9 22 (.str jf) (.str jf)) fun a=>ob (ib 22 [.tup (fnv::r.map kd),ko m] [.tup (fnv::w.map kd),ko q]) fun b=>some (a&&b))=_
  have e4:ib 22 [.tup (fnv::r.map kd),ko m] [.tup (fnv::w.map kd),ko q]=some (decide (r=w)&&(decide (m=q)&&true)):=by
    show (ob (b9 21 (.tup (fnv::r.map kd)) (.tup (fnv::w.map kd))) fun a=>ob ((ob (b9 20 (ko m) (ko q)) fun a=>ob (ib 20 [] []) fun b=>some (a&&b))) fun b=>some (a&&b))=_
    rw [e3,e2];rfl
  rw [e4,show b9 22 (.str jf) (.str jf)=some true from by kernel_rfl]
  show some (true&&_)=_
  rw [Vd,Wk]
  congr 1
  by_cases a:r=w
  · by_cases b:m=q
    · rw [decide_eq_true a,decide_eq_true b,decide_eq_true ⟨a,b⟩];rfl
    · rw [decide_eq_false b,Vl,decide_eq_false fun q=>b q.2]
  · rw [decide_eq_false a,U6,decide_eq_false fun q=>a q.1]
noncomputable def fx(l:List V) (t:V):Option V:=af Ph 60 245 [.tup [.str jf,.tup (fnv::l),t]]
theorem zk9:(fun a b c t=>[fx [] t,fx [bb a] t,fx [XZv] t,fx [bb a,bb b] t,fx [bb a,XZv] t,fx [XZv,bb b] t,fx [XZv,XZv] t,fx [bb a,bb b,bb c] t])=fun J J J J=>[some (.bool false),some (.bool false),some (.bool false),some (.bool false),some (.bool false),some (.bool false),some (.bool false),some (.bool false)]:=by kernel_rfl
theorem zrv:(i7.map fun i=>af Ph 60 245 [kd i])=i7.map fun J=>some (.bool false):=by kernel_rfl
theorem zne(a b c:Str) (t:V):fx [] t=some (.bool false)∧fx [bb a] t=some (.bool false)∧fx [XZv] t=some (.bool false)∧fx [bb a,bb b] t=some (.bool false)∧fx [bb a,XZv] t=some (.bool false)∧fx [XZv,bb b] t=some (.bool false)∧fx [XZv,XZv] t=some (.bool false)∧fx [bb a,bb b,bb c] t=some (.bool false):=by
  have:=congrFun (congrFun (congrFun (congrFun zk9 a) b) c) t
  simpa only [Y2.injEq,and_true] using this
theorem Qm{r:List Nat}{m:Option Nat}(h:SgOk r m):af Ph 60 245 [sg r m]=some (.bool false):=by
  have K:=fun a b c=>zne a b c (ko m)
  have z:Str:=⟨#[]⟩
  refine Dd (Q:=fun r=>fx (r.map kd) (ko m)=some (.bool false)) h (K z z z).1 (fun i hi=>?_) ?_ (fun i j hi hj=>?_) (fun i hi=>?_) (fun j hj=>?_) ?_ fun i j k hi hj hk=>?_
  · show fx [kd i] _=_
    rw [fb hi];exact (K _ z z).2.1
  · show fx [kd 6] _=_
    rw [ng];exact (K z z z).2.2.1
  · show fx [kd i,kd j] _=_
    rw [fb hi,fb hj];exact (K _ _ z).2.2.2.1
  · show fx [kd i,kd 6] _=_
    rw [ng,fb hi];exact (K _ z z).2.2.2.2.1
  · show fx [kd 6,kd j] _=_
    rw [ng,fb hj];exact (K z _ z).2.2.2.2.2.1
  · show fx [kd 6,kd 6] _=_
    rw [ng];exact (K z z z).2.2.2.2.2.2.1
  · show fx [kd i,kd j,kd k] _=_
    rw [fb hi,fb hj,fb hk];exact (K _ _ _).2.2.2.2.2.2.2
noncomputable def Pi:PD:=Ph.put 245 60 (af Ph 60 245)
theorem zi2:(fun l=>af Pi 90 252 [.tup [.str jf,.tup l,.none]])=fun J=>some .none:=by kernel_rfl
theorem ztn:(fun l=>i7.map fun i=>af Pi 90 252 [.tup [.str jf,.tup l,kd i]])=fun J=>i7.map fun i=>some (kd i):=by kernel_rfl
theorem Rh{r:List Nat}{m:Option Nat}(h:∀i,m=some i→i<7):af Pi 90 252 [sg r m]=some (ko m):=by
  cases m with
  | none=>exact congrFun zi2 _
  | some i=>exact T4.mp (congrFun ztn _) _ (ju (h i rfl))
noncomputable def Pj:PD:=Pi.put 252 90 (af Pi 90 252)
end Mine
end
section
open PySem PySem.W
set_option maxHeartbeats 4000000
namespace Mine
section
noncomputable def kx(r:List Nat):Nat→V
  | 0=>fnv
  | i+1=>kd (ft 0 r i)
noncomputable def kn(w:List Nat) (q:Option Nat) (i:Nat):V:=if i<w.length+1 then kx w i else ko q
noncomputable def gv(a b:V):V:=.tup [.str Ga,a,b]
noncomputable def lz(r:List Nat) (m:Option Nat) (w:List Nat) (q:Option Nat):Bool:=decide (r.length<w.length)||(q.isNone&&(m.isSome||decide (w.length<r.length)))
theorem zma{r:List Nat}:∀{i:Nat},i<r.length+1→dr (fnv::r.map kd) i=some (kx r i)
  | 0,_=>rfl
  | i+1,h=>zu kd r i (Tx h)
theorem zgu{σ:Sto}{xs:List V}{i:Nat}(h:i<xs.length) (h2:xs.length≤4096):di σ (.tup xs) (.int i)=dr xs i:=cm (c:=sz xs) (Ty h2) (aj (Cn h) rfl)
theorem zi1{σ:Sto}{xs:List V}(h2:xs.length≤4096):blt σ (.builtin "len") [.tup xs]=some (.int xs.length,σ):=by
  rw [Cb,show sd σ (.tup xs)=some xs.length from if_pos (show sz xs=true from Ty h2)];rfl
theorem tf{σ:Sto}{q:Option Nat}(h:∀i,q=some i→i<7):bo σ .Is (ko q) .none=some q.isNone:=by
  cases q with
  | none=>rfl
  | some z=>
    have h:=h z rfl
    show isNone (kd z)=_
    match z,h with
    | 0,_ | 1,_ | 2,_ | 3,_ | 4,_ | 5,_ | 6,_=>kernel_rfl
    | n+7,h=>lia
theorem zbr{σ:Sto}{q:Option Nat}(h:∀i,q=some i→i<7):bo σ .IsNot (ko q) .none=some q.isSome:=by
  have:=tf (σ:=σ) h
  show on (bo σ .Is (ko q) .none)=_
  rw [this];cases q <;> rfl
noncomputable def Gb(r:List Nat) (m:Option Nat) (w:List Nat) (q:Option Nat):Loc:=[(⟨#[111,110,101]⟩,sg r m),(⟨#[111,116,104,101,114]⟩,sg w q),(⟨#[115,111,109,101]⟩,.tup (fnv::r.map kd)),(⟨#[116,97,105,108]⟩,ko m),(⟨#[119,97,110,116,101,100]⟩,.tup (fnv::w.map kd)),(⟨#[114,101,115,116]⟩,ko q)]
theorem Cf:Pj.con 375=none:=by kernel_rfl
theorem zcu:Pj.con 245=some (60,af Ph 60 245):=by kernel_rfl
theorem zek:Pj.con 252=some (90,af Pi 90 252):=by kernel_rfl
section
variable {r w:List Nat}{m q:Option Nat}
theorem Ob(h:ShOk r m):gx [sg r m]=true:=(Pls.cons (db h) Pls.nil).rf
theorem uz(h:SgOk r m):∀N σ,92≤N→(run Pj N).call 252 [sg r m] σ=some (ko m,σ):=fun N σ hN=>km rfl zek (Ob h.toShOk) (Rh h.more) hN
theorem cr(h:r.length≤3):∀σ,blt σ (.builtin "len") [.tup (fnv::r.map kd)]=some (.int (fnv::r.map kd).length,σ):=fun σ=>zi1 (by simp;exact Th ‹_› (by decide))
theorem ltL(r w:List Nat):∀σ,bo σ .Lt (.int (fnv::r.map kd).length) (.int (fnv::w.map kd).length)=some (decide (r.length<w.length)):=fun σ=>congrArg some (decide_eq_decide.mpr (by simp))
theorem gtL(r w:List Nat):∀σ,bo σ .Gt (.int (fnv::r.map kd).length) (.int (fnv::w.map kd).length)=some (decide (w.length<r.length)):=fun σ=>congrArg some (decide_eq_decide.mpr (by simp))
theorem Lk(h1:ShOk r m) (h2:ShOk w q):(run Pj 100).tr f375.scope (r5 (ai f375.body 2)) (Gb r m w q) ⟨0,[]⟩=some (lz r m w q,⟨0,[]⟩):=
  lp (w0 (jz [bh (cr h1.len),bh (cr h2.len),aq (ltL r w)] (by kernel_rfl)) (mr (lp (wp (jz [aq fun J=>tf h2.more] (by kernel_rfl)) (mr (lp (w0 (jz [aq fun J=>zbr h1.more] (by kernel_rfl)) (mr (jz [bh (cr h1.len),bh (cr h2.len),aq (gtL r w)] (by kernel_rfl))))))))))
theorem zj5(h1:SgOk r m) (h2:SgOk w q) (he:lz r m w q=true):(run Pj 105).call 375 [sg r m,sg w q] ⟨0,[]⟩=some (.ref 0,push ⟨0,[]⟩ (.lst [])):=
  ce (ay Cf) [ap (uz h1),ap (uz h2),ix (Lk h1.toShOk h2.toShOk),gy he] (by kernel_rfl)
noncomputable def fG(r w:List Nat) (q:Option Nat):V→V
  | .int i=>gv (kx r i.toNat) (kn w q i.toNat)
  | _=>.none
noncomputable def tG(m q:Option Nat):List V:=match m with
  | none=>[]
  | some i=>[gv (kd i) (ko q)]
noncomputable def gG(r w:List Nat) (q:Option Nat):List V:=[]++((((T6 0 (fnv::r.map kd).length).map fun (i:Nat)=>V.int (i:Int)).filter fun J=>true).map (fG r w q))
noncomputable def sG(r:List Nat) (m:Option Nat) (w:List Nat) (q:Option Nat):Sto:=push (push (push (push ⟨0,[]⟩ (.lst (gG r w q))) (.lst (tG m q))) (.lst (gG r w q++tG m q))) (.lst [.ref 2])
theorem mq{i:Nat}(h:r.length≤3) (hi:i<r.length+1):∀σ,di σ (.tup (fnv::r.map kd)) (.int i)=some (kx r i):=fun σ=>by rw [zgu (by simpa using hi) (by simp;exact Th ‹_› (by decide)),zma hi]
theorem zod (h1:ShOk r m) (h2:ShOk w q):(run Pj 99).ev f375.scope (rE (ai f375.body 3)) (Gb r m w q) ⟨0,[]⟩=some (.ref 0,push ⟨0,[]⟩ (.lst (gG r w q))):=
  F0 (P:=Pj) (n:=99) (sc:=f375.scope) (ρ:=Gb r m w q) (σ:=⟨0,[]⟩) (σ1:=⟨0,[]⟩) (e:=rE (ai f375.body 3)) rfl rfl (ρf:=[(⟨#[115,111,109,101]⟩,.tup (fnv::r.map kd)),(⟨#[119,97,110,116,101,100]⟩,.tup (fnv::w.map kd)),(⟨#[114,101,115,116]⟩,ko q)]) (by kernel_rfl) 60 (fun J=>true) (fG r w q) (items:=(T6 0 (fnv::r.map kd).length).map fun (i:Nat)=>V.int (i:Int)) (by have:=h1.len;simp;lia)
    (d9 rfl (cp [bh (cr h1.len)] (by kernel_rfl)) (mo (n:=(fnv::r.map kd).length) (by have:=h1.len;simp;exact Th ‹_› (by decide)))) rfl (fun v hv n=>rfl) (fun v hv J n=>by
      obtain ⟨i,hi,rfl⟩:=Ud.mp hv
      have hi:i<r.length+1:=by have:=(Uk.mp hi).2;simpa using this
      show _=some (gv (kx r i) (kn w q i),_)
      have hc:∀σ,bo σ .Lt (.int i) (.int (fnv::w.map kd).length)=some (decide (i<w.length+1)):=fun σ=>congrArg some (decide_eq_decide.mpr (by simp;exact ztk))
      by_cases hiw:i<w.length+1
      · rw [decide_eq_true hiw] at hc
        rw [show kn w q i=kx w i from if_pos hiw]
        exact cp [ey (mq h1.len hi),bh (cr h2.len),aq hc,ey (mq h2.len hiw)] (by kernel_rfl)
      · rw [decide_eq_false hiw] at hc
        rw [show kn w q i=ko q from if_neg hiw]
        exact cp [ey (mq h1.len hi),bh (cr h2.len),aq hc] (by kernel_rfl)) (by have:=h1.len;simp;exact Th ‹_› (by decide))
theorem zo3(h1:SgOk r m) (h2:SgOk w q) (he:lz r m w q=false):(run Pj 105).call 375 [sg r m,sg w q] ⟨0,[]⟩=some (.ref 3,sG r m w q):=by
  have hG:(gG r w q).length=r.length+1:=by
    unfold gG
    rw [Vi,Up.mpr (fun J J=>rfl)];simp
  have hz:sz (gG r w q++tG m q)=true:=Ty (by
    have:=h1.len
    rw [T1,hG]
    cases m <;> simp [tG] <;> exact Th ‹_› (by decide))
  have fin:=Ky (σ:=push (push ⟨0,[]⟩ (.lst (gG r w q))) (.lst (tG m q))) (i:=0) (j:=1) rfl rfl hz
  have hl:=zod h1.toShOk h2.toShOk
  have ht:=Lk h1.toShOk h2.toShOk
  cases m with
  | none=>exact ce (ay Cf) [ap (uz h1),ap (uz h2),ix ht,gy he,cw hl,mf fin] (by kernel_rfl)
  | some i=>exact ce (ay Cf) [ap (uz h1),ap (uz h2),ix ht,gy he,cw hl,aq fun J=>tf h1.more,mf fin] (by kernel_rfl)
end
end
section
section
variable {q:Fl×Loc×Sto}{ss:List Stmt}{v:V}{m:Nat}{xs:List V}
theorem ch{k:Option (Fl×Loc×Sto)}(h:k=some q):Bj .next ρ1 σ1 k=some q:=h
theorem zi{k:Option (Fl×Loc×Sto)}:Bj (.ret v) ρ1 σ1 k=some (.ret v,ρ1,σ1):=rfl
theorem ln(h:ab σ m=some (.lst xs)):fg σ (.ref m)=none:=by
  show ob (ab σ m) mO=none
  rw [h];rfl
theorem lj(h:ab σ m=some (.lst xs)):my σ (.ref m)=true:=by
  show (false||(ob (ab σ m) mL).isSome)=true
  rw [h];rfl
theorem eq(x:Str) (v:V) (ρ:Loc):ae x (ac x v ρ)=some v:=(mi x x v ρ).trans (if_pos rfl)
theorem dk{x y:Str}(v:V) (ρ:Loc) (h:y≠x):ae y (ac x v ρ)=ae y ρ:=(mi x y v ρ).trans (if_neg h)
end
noncomputable def wE(s:Stmt):Expr:=r5 s
noncomputable def wB(s:Stmt):List Stmt:=@U1 (fun J=>List Stmt) s (fun J J J J J J J J J J=>[]) (fun J J J J J J J J J J=>[]) (fun J J J J J J J J J J J=>[]) (fun J J=>[]) (fun J J=>[]) (fun J J J=>[]) (fun J J J J J J J=>[]) (fun J J J J=>[]) (fun J J J J J=>[]) (fun J J b J J=>b) (fun J J J J J=>[]) (fun J b J J=>b) (fun J b J J=>b) (fun J J J=>[]) (fun J J J=>[]) (fun J J J=>[]) (fun J J J=>[]) (fun J J J J J=>[]) (fun J J J J J=>[]) (fun J J J=>[]) (fun J J=>[]) (fun J J J J=>[]) (fun J J=>[]) (fun J J=>[]) (fun J J=>[]) (fun J=>[]) (fun J=>[]) (fun J=>[])
noncomputable def lB:List Stmt:=wB (ai f284.body 0)
noncomputable def d6:Str:=⟨#[115,101,108,102]⟩
noncomputable def dp:Str:=⟨#[108,101,102,116]⟩
noncomputable def tx:Str:=⟨#[115,105,100,101,115]⟩
noncomputable def np:Str:=⟨#[119,97,105,116,105,110,103]⟩
noncomputable def rm:Str:=⟨#[119,97,121,115]⟩
noncomputable def Gp:Str:=⟨#[119,97,121]⟩
noncomputable def cj:Str:=⟨#[107,105,110,100,115]⟩
noncomputable def vg:Str:=⟨#[102,117,101,108]⟩
noncomputable def oh:Str:=⟨#[114,111,119,115]⟩
noncomputable def vc:Str:=⟨#[109,97,110,121]⟩
noncomputable def SO(F:Int):MObj:=.obj 345 [cj,vg] [KINDS,.int F]
structure Sd (σ:Sto) (d:Nat):Prop where
  hd:∃r,ab σ d=some (.obj 207 [oh,vc] [.ref r,.int 0])∧ab σ r=some (.dct [] [])∧r<σ.next
  lt:d<σ.next
section
variable {c:Nat→Option (Nat×(List V→Option V))}{fre:Nat→Bool}{s l d w:Nat}{F:Int}{L a b r:List V}{g:V}
theorem zoo(h1:ae d6 ρ=some (.ref s)) (hs:ab σ s=some (SO F)):(run (Pc c fre) (n+20)).ex f284.scope (ai lB 0) ρ σ=some (.next,ρ,ah σ s (SO (F-1))):=by
  refine' j0 rfl ?a1 ?a2
  case a1=>
    refine' Np ?b1 ?b2 ?b3
    case b1=>
      refine' u1 rfl (au rfl rfl h1) (dx hs) rfl rfl rfl rfl
    case b2=>exact ge rfl
    case b3=>rfl
  case a2=>exact th (au rfl rfl h1) hs rfl rfl
theorem zpu{ws:V}(h1:ae d6 ρ=some (.ref s)) (h2:ae dp ρ=some (.ref l)) (h3:ae tx ρ=some (.ref d)) (hs:ab σ s=some (SO F)) (hF:0≤F) (hl:ab σ l=some (.lst (L++[g]))) (hz:sz (L++[g])=true)
    (hs':ab (ah σ l (.lst L)) s=some (SO F)) (hst:∀n,(run (Pc c fre) (n+150)).call 291 [.ref s,g,.ref d] (ah σ l (.lst L))=some (ws,ah σ l (.lst L))) :
    (run (Pc c fre) (n+170)).ex f284.scope (ai lB 1) ρ σ=some (.next,ac rm ws ρ,ah σ l (.lst L)):=by
  refine' j0 rfl ?a1 (cu rfl)
  case a1=>
    refine' xo ?b1 ?b2
    case b1=>exact ji rfl (lu (u1 rfl (au rfl rfl h1) (dx hs) rfl rfl rfl rfl) (ge rfl) (by show some (decide (F ≥ 0))=some true;rw [decide_eq_true hF]))
    case b2=>
      refine' nr rfl ?c1
      refine' wo rfl (au rfl rfl h1) (dx hs) rfl rfl rfl ?d1 ?d2
      case d1=>exact cc (zm rfl (au rfl rfl h2) (ln hl) (lj hl) dl (Nz hl hz)) (cc (au rfl rfl h3) dl)
      case d2=>exact hst _
theorem Cs{xs ys:List V}{x y:V}(h0:b9 ik x y=none) (h1:bj σ x=some xs) (h2:bj σ y=some []):nh σ x y=some xs.isEmpty:=(E1 h0 h1 h2).trans (Mj xs)
theorem Dc{sc:Scope}{e:Expr}{p1 p2:Pos}{x:V}{xs:List V}(h:(run (Pc c fre) (n+3)).ev sc e ρ σ=some (x,σ)) (h0:b9 ik x (.ref σ.next)=none) (h1:bj (push σ (.lst [])) x=some xs):(run (Pc c fre) (n+5)).tr sc (.Compare e [.Eq] [.List [] p1] p2) ρ σ=some (xs.isEmpty,push σ (.lst [])):=
  ji rfl (lu h (zv dl rfl) (Cs (ys:=[]) h0 h1 (dj bg)))
theorem tg{sc:Scope}{e:Expr}{p1 p2:Pos}{x:V}{xs:List V}(h:(run (Pc c fre) (n+3)).ev sc e ρ σ=some (x,σ)) (h0:b9 ik x (.ref σ.next)=none) (h1:bj (push σ (.lst [])) x=some xs):(run (Pc c fre) (n+5)).tr sc (.Compare e [.NotEq] [.List [] p1] p2) ρ σ=some (!xs.isEmpty,push σ (.lst [])):=
  ji rfl (lu h (zv dl rfl) (by show on (nh _ _ _)=_;rw [Cs (ys:=[]) h0 h1 (dj bg)];rfl))
theorem zl0(h:ae rm ρ=some (.lst [])):(run (Pc c fre) (n+20)).ex f284.scope (ai lB 2) ρ σ=some (.ret .none,ρ,push σ (.lst [])):=
  m8 (Dc (au rfl rfl h) rfl rfl) (i4 rfl (lx (ge rfl)))
theorem Nw{x:V}(h:ae rm ρ=some (.lst (x::r))):(run (Pc c fre) (n+20)).ex f284.scope (ai lB 2) ρ σ=some (.next,ρ,push σ (.lst [])):=
  m8 (Dc (au rfl rfl h) rfl rfl) (g8 rfl)
theorem zj8{x:V}(h:ae rm ρ=some (.lst [x])):(run (Pc c fre) (n+20)).ex f284.scope (ai lB 3) ρ σ=some (.next,ρ,push σ (.lst [])):=
  u8 (d9 rfl (Mt rfl (au rfl rfl h) rfl rfl) (je bg)) (lq (tu bg rfl))
theorem Qc(h:ae rm ρ=some (.lst (.lst a::r))) (hr:r.length≤10) (h2:ae dp ρ=some (.ref l)) (hl:ab σ l=some (.lst L)) (hz:sz L=true) (hz2:sz (L++a)=true):(run (Pc c fre) (n+20)).ex f284.scope (ai lB 4) ρ σ=some (.next,ρ,ah σ l (.lst (L++a))):=
  Mg rfl (zm rfl (au rfl rfl h2) (ln hl) (lj hl) (cc (wz rfl (au rfl rfl h) (ge rfl) (wj (i:=0) (by simp) (by simp;exact Th ‹_› (by decide)))) dl) (zd1 hl rfl hz hz2))
end
end
section
section
variable {c:Nat→Option (Nat×(List V→Option V))}{fre:Nat→Bool}{s l d w o r:Nat}{F:Int}{L a b:List V}{g:V}
theorem Sd.mono(h:Sd σ d) (g:Gr σ σ'):Sd σ' d:=by
  obtain ⟨⟨r,h1,h2,h3⟩,h4⟩:=h
  exact ⟨⟨r,(g.same d h4).trans h1,(g.same r h3).trans h2,Tn h3 g.le⟩,Tn h4 g.le⟩
theorem Sd.put{p o:MObj}(h:Sd σ d) (hs:ab σ s=some p) (hp:(∃xs,p = .lst xs)∨∃F,p=SO F):Sd (ah σ s o) d:=by
  obtain ⟨⟨r,h1,h2,h3⟩,h4⟩:=h
  have n1:s≠d:=fun e=>by subst e;rw [hs] at h1;cases h1;rcases hp with ⟨_,q⟩ | ⟨_,q⟩ <;> cases q
  have n2:s≠r:=fun e=>by subst e;rw [hs] at h2;cases h2;rcases hp with ⟨_,q⟩ | ⟨_,q⟩ <;> cases q
  exact ⟨⟨r,(be n1).trans h1,(be n2).trans h2,h3⟩,h4⟩
theorem zbz(hk:c 155=none) {v:V}(hv:isNone v=some false) (ho:ab σ o=some (.obj 207 [] [])):(run (Pc c fre) (n+30)).call 155 [.ref o,v,.int 0] σ=some (.none,ah (ah σ o (.obj 207 [oh] [v])) o (.obj 207 [oh,vc] [v,.int 0])):=by
  refine' j2 (fd:=G9) rfl (ay hk) rfl (ci rfl ?a (ch (ci rfl ?b (ch (g8 rfl))))) rfl
  case a=>exact j0 rfl (xo (ji rfl (lu (au rfl rfl rfl) (ge rfl) hv)) (qr rfl (au rfl rfl rfl))) (th (au rfl rfl rfl) ho rfl rfl)
  case b=>exact j0 rfl (au rfl rfl rfl) (th (au rfl rfl rfl) (bv ho) rfl rfl)
theorem zbm(hk:c 155=none) (ho:ab σ o=some (.obj 207 [] [])) (hlt:o<σ.next):(run (Pc c fre) (n+30)).call 155 [.ref o] σ=some (.none,ah (ah (push σ (.dct [] [])) o (.obj 207 [oh] [.ref σ.next])) o (.obj 207 [oh,vc] [.ref σ.next,.int 0])):=by
  refine' j2 (fd:=G9) rfl (ay hk) rfl (ci rfl ?a (ch (ci rfl ?b (ch (g8 rfl))))) rfl
  case a=>exact j0 rfl (xo (ji rfl (lu (au rfl rfl rfl) (ge rfl) rfl)) (nr rfl (zin rfl dl rfl))) (th (au rfl rfl rfl) ((cg hlt).trans ho) rfl rfl)
  case b=>exact j0 rfl (au rfl rfl rfl) (th (au rfl rfl rfl) (bv ((cg hlt).trans ho)) rfl rfl)
theorem wt{o1 o2:MObj}{k:Nat}(h:k≠o):ab (ah (ah σ o o1) o o2) k=ab σ k:=(be (Ne.symm h)).trans (be (Ne.symm h))
noncomputable def As(σ:Sto):Sto:=ah (ah (push (push σ (.dct [] [])) (.obj 207 [] [])) (σ.next+1) (.obj 207 [oh] [.ref σ.next])) (σ.next+1) (.obj 207 [oh,vc] [.ref σ.next,.int 0])
theorem newSd_gr:Gr σ (As σ):=⟨by show σ.next≤σ.next+1+1;lia,fun k hk=>(wt (by show k≠σ.next+1;exact rp ‹_›)).trans ((cg (by show k<σ.next+1;exact lb ‹_›)).trans (cg hk))⟩
theorem ze8:Sd (As σ) (σ.next+1):=⟨⟨σ.next,bv (bv bg),(wt (by show σ.next≠σ.next+1;lia)).trans ((cg (Tr _)).trans bg),by show σ.next<σ.next+1+1;exact T3 _⟩,Tr _⟩
theorem zbt(hk:c 155=none) (hk2:c 162=none) (h:Sd σ d):(run (Pc c fre) (n+50)).call 162 [.ref d] σ=some (.ref (σ.next+1),As σ):=by
  obtain ⟨⟨r,h1,h2,h3⟩,h4⟩:=h
  have h1':ab (push σ (.dct [] [])) d=some (.obj 207 [oh,vc] [.ref r,.int 0]):=(cg h4).trans h1
  have hd:x3 σ (.ref r)=some (.ref σ.next,push σ (.dct [] [])):=(if_neg (by rw [Qv h2];exact Ts)).trans (bp (Fm h2) rfl)
  exact j2 (fd:=R5) rfl (ay hk2) rfl (i4 rfl (lx (E7 rfl (tm rfl rfl) rfl (cc (tt rfl (tn rfl rfl rfl) (fun a h=>by cases h) (cc (u1 rfl (au rfl rfl rfl) (dx h1) rfl rfl rfl rfl) dl) hd) (cc (u1 rfl (au rfl rfl rfl) (dx h1') rfl rfl rfl rfl) dl)) (D9 rfl (zbz hk rfl bg))))) rfl
end
end
section
noncomputable def pr(e:Nat×Nat):V:=.tup [.ref e.1,.ref e.2]
inductive Ents (σ:Sto):List (Nat×Nat)→List (List V)→Prop
  | nil:Ents σ [] []
  | cons {l d:Nat}{L:List V}{es:List (Nat×Nat)}{Ls:List (List V)}:ab σ l=some (.lst L)→l<σ.next→Sd σ d→(∀e∈es,e.1≠l)→Ents σ es Ls→Ents σ ((l,d)::es) (L::Ls)
section
variable {K:List (Nat×MObj)}{s l d w:Nat}{F F':Int}{L L':List V}{es:List (Nat×Nat)}{W:List (List V)}
theorem Ents.gr(h:Ents σ es W) (g:Gr σ σ'):Ents σ' es W:=by
  induction h with
  | nil=>exact .nil
  | cons h1 h2 h3 h4 _ ih=>exact .cons ((g.same _ h2).trans h1) (Tn h2 g.le) (h3.mono g) h4 ih
theorem Ents.put{m:Nat}{p o:MObj}(h:Ents σ es W) (hs:ab σ m=some p) (hp:(∃xs,p = .lst xs)∨∃F,p=SO F) (hm:∀e∈es,e.1≠m):Ents (ah σ m o) es W:=by
  induction h with
  | nil=>exact .nil
  | cons h1 h2 h3 h4 _ ih=>exact .cons ((be (Ne.symm (hm _ (Tj ..)))).trans h1) h2 (h3.put hs hp) h4 (ih fun e he=>hm e (Ti _ he))
theorem Ents.lt(h:Ents σ es W):∀e∈es,e.1<σ.next∧∃L,ab σ e.1=some (.lst L):=by
  induction h with
  | nil=>exact fun e h=>nomatch h
  | cons h1 h2 h3 h4 _ ih=>
    intro e he
    rcases Tz.mp he with rfl | he
    · exact ⟨h2,_,h1⟩
    · exact ih e he
structure Cd (K:List (Nat×MObj)) (σ:Sto) (ρ:Loc) (s l d w:Nat) (F:Int) (L:List V) (es:List (Nat×Nat)) (W:List (List V)):Prop where
  n1:ae d6 ρ=some (.ref s)
  n2:ae dp ρ=some (.ref l)
  n3:ae tx ρ=some (.ref d)
  n4:ae np ρ=some (.ref w)
  hs:ab σ s=some (SO F)
  ls:s<σ.next
  hl:ab σ l=some (.lst L)
  ll:l<σ.next
  hd:Sd σ d
  hw:ab σ w=some (.lst (es.map pr).reverse)
  lw:w<σ.next
  ne:l≠w
  he:Ents σ es W
  hn:∀e∈es,e.1≠l∧e.1≠w
  kp:∀p∈K,ab σ p.1=some p.2∧p.1<σ.next∧p.1≠s∧p.1≠l∧p.1≠w∧∀e∈es,e.1≠p.1
theorem Cd.gr(C:Cd K σ ρ s l d w F L es W) (g:Gr σ σ'):Cd K σ' ρ s l d w F L es W:=
  ⟨C.n1,C.n2,C.n3,C.n4,(g.same _ C.ls).trans C.hs,Tn C.ls g.le,(g.same _ C.ll).trans C.hl,Tn C.ll g.le,C.hd.mono g,(g.same _ C.lw).trans C.hw,Tn C.lw g.le,C.ne,C.he.gr g,C.hn,fun p hp=>let ⟨a,b,q⟩:=C.kp p hp;⟨(g.same _ b).trans a,Tn b g.le,q⟩⟩
theorem Cd.loc{x:Str}(v:V) (C:Cd K σ ρ s l d w F L es W) (h1:d6≠x) (h2:dp≠x) (h3:tx≠x) (h4:np≠x):Cd K σ (ac x v ρ) s l d w F L es W:=
  ⟨(dk v ρ h1).trans C.n1,(dk v ρ h2).trans C.n2,(dk v ρ h3).trans C.n3,(dk v ρ h4).trans C.n4,C.hs,C.ls,C.hl,C.ll,C.hd,C.hw,C.lw,C.ne,C.he,C.hn,C.kp⟩
theorem Cd.sl(C:Cd K σ ρ s l d w F L es W):s≠l:=fun e=>by have:=C.hs;rw [e,C.hl] at this;cases this
theorem Cd.sw(C:Cd K σ ρ s l d w F L es W):s≠w:=fun e=>by have:=C.hs;rw [e,C.hw] at this;cases this
theorem Cd.se(C:Cd K σ ρ s l d w F L es W):∀e∈es,e.1≠s:=fun e he q=>by
  obtain ⟨_,L',h⟩:=C.he.lt e he
  rw [q,C.hs] at h;cases h
theorem Cd.setF(C:Cd K σ ρ s l d w F L es W):Cd K (ah σ s (SO F')) ρ s l d w F' L es W:=
  ⟨C.n1,C.n2,C.n3,C.n4,bv C.hs,C.ls,(be C.sl).trans C.hl,C.ll,C.hd.put C.hs (.inr ⟨_,rfl⟩),(be C.sw).trans C.hw,C.lw,C.ne,C.he.put C.hs (.inr ⟨_,rfl⟩) C.se,C.hn,fun p hp=>let ⟨a,b,q,r⟩:=C.kp p hp;⟨(be q.symm).trans a,b,q,r⟩⟩
theorem Cd.setL(C:Cd K σ ρ s l d w F L es W):Cd K (ah σ l (.lst L')) ρ s l d w F L' es W:=
  ⟨C.n1,C.n2,C.n3,C.n4,(be C.sl.symm).trans C.hs,C.ls,bv C.hl,C.ll,C.hd.put C.hl (.inl ⟨_,rfl⟩),(be C.ne).trans C.hw,C.lw,C.ne,C.he.put C.hl (.inl ⟨_,rfl⟩) fun e he=>(C.hn e he).1,C.hn,fun p hp=>let ⟨a,b,q,r,u⟩:=C.kp p hp;⟨(be r.symm).trans a,b,q,r,u⟩⟩
theorem Cd.addW{l2 d2:Nat}{L2:List V}(C:Cd K σ ρ s l d w F L es W) (h2:ab σ l2=some (.lst L2)) (h3:l2<σ.next) (hd2:Sd σ d2) (n1:l2≠l) (n2:l2≠w) (n3:∀e∈es,e.1≠l2) (n4:∀p∈K,p.1≠l2):Cd K (ah σ w (.lst ((es.map pr).reverse++[pr (l2,d2)]))) ρ s l d w F L ((l2,d2)::es) (L2::W):=
  ⟨C.n1,C.n2,C.n3,C.n4,(be C.sw.symm).trans C.hs,C.ls,(be C.ne.symm).trans C.hl,C.ll,C.hd.put C.hw (.inl ⟨_,rfl⟩),by rw [bv C.hw,T5,Vn],C.lw,C.ne,
   .cons ((be n2.symm).trans h2) h3 (hd2.put C.hw (.inl ⟨_,rfl⟩)) n3 (C.he.put C.hw (.inl ⟨_,rfl⟩) fun e he=>(C.hn e he).2),fun e he=>by
    rcases Tz.mp he with rfl | he
    · exact ⟨n1,n2⟩
    · exact C.hn e he,fun p hp=>let ⟨a,b,q,r,u,x⟩:=C.kp p hp;⟨(be u.symm).trans a,b,q,r,u,fun e he=>by
    rcases Tz.mp he with rfl | he
    · exact (n4 p hp).symm
    · exact x e he⟩⟩
end
section
variable {K:List (Nat×MObj)}{c:Nat→Option (Nat×(List V→Option V))}{fre:Nat→Bool}{s l d w:Nat}{F:Int}{L a b r:List V}{g:V}{es:List (Nat×Nat)}{W:List (List V)}
theorem ziu{x:V}(hk:c 155=none) (hk2:c 162=none) (h:ae rm ρ=some (.lst [x,.lst b])) (C:Cd K σ ρ s l d w F L es W) (hz:sz (L++b)=true) (hz2:sz (es.map pr).reverse=true) :
    ∃σ' es',(run (Pc c fre) (n+80)).ex f284.scope (ai lB 3) ρ σ=some (.next,ac Gp (.lst b) ρ,σ')∧Cd K σ' ρ s l d w F L es' ((L++b)::W)∧es'.length=es.length+1:=by
  have g1:Gr σ (push σ (.lst [.lst b])):=Gr.push _ _
  have g2:Gr σ (push (push σ (.lst [.lst b])) (.lst (L++b))):=g1.trans (Gr.push _ _)
  have g3:=g2.trans newSd_gr
  have C1:=C.gr g1
  have C3:=C.gr g3
  have hlt:=fun e he=>(C.he.lt e he).1
  have hv:ff (push σ (.lst [.lst b])) .Add (.ref l) (.lst b)=some (gi (push σ (.lst [.lst b])) (.lst (L++b))):=by
    show ob (bj (push σ (.lst [.lst b])) (.ref l)) _=_
    rw [dj C1.hl]
    exact if_pos hz
  have C2:=C3.addW (l2:=σ.next+1) (d2:=σ.next+2+1) (L2:=L++b) ((newSd_gr.same _ (Tr _)).trans bg) (by show σ.next+1<σ.next+1+1+1+1;lia) ze8 (by have:=C.ll;exact Ax ‹_›) (by have:=C.lw;exact Ax ‹_›) (fun e he=>by have:=hlt e he;exact rp ‹_›) (fun p hp=>by have:=(C.kp p hp).2.1;exact rp ‹_›)
  refine ⟨_,_,?_,C2,rfl⟩
  have C0:=C.loc (x:=Gp) (.lst b) (by decide +kernel) (by decide +kernel) (by decide +kernel) (by decide +kernel)
  have C01:=C0.gr g1
  have C03:=C0.gr g3
  obtain ⟨r,h1,_⟩:=(C01.gr (Gr.push (push σ (.lst [.lst b])) (.lst (L++b)))).hd.hd
  refine u8 (d9 rfl (Mt rfl (au rfl rfl h) rfl rfl) (je bg)) (ku (v:=.lst b) (it':=.cur σ.next 1) (F7 bg rfl) (cu rfl) (ci rfl (Mg rfl (zm rfl (au rfl rfl C01.n4) (ln C01.hw) (lj C01.hw) (cc (Ep (cc (Np (au rfl rfl C01.n2) (au rfl rfl (eq ..)) hv) (cc (wo rfl (au rfl rfl C01.n3) (dx h1) rfl rfl rfl dl (zbt hk hk2 (C01.gr (Gr.push _ _)).hd)) dl)) rfl) dl) (ur C03.hw hz2))) (ch (g8 rfl))) (lq ?e))
  case e=>
    have:ab (ah (As (push (push σ (.lst [.lst b])) (.lst (L++b)))) w (.lst ((es.map pr).reverse++[pr (σ.next+1,σ.next+2+1)]))) σ.next=some (.lst [.lst b]):=
      (be (by have:=C.lw;exact Uz ‹_›)).trans ((newSd_gr.same _ (by show σ.next<σ.next+1+1;exact T3 _)).trans ((cg (by show σ.next<σ.next+1;exact Tr _)).trans bg))
    exact tu this rfl
end
end
section
inductive Stl (St:V→List (List V)→Prop):List V→List (List V)→Bool→List (List V)→Nat→Prop
  | done {W:List (List V)}:Stl St [] W true W 0
  | stop {g:V}{L:List V}{W:List (List V)}:St g []→(L++[g]).length≤100→Stl St (L++[g]) W false W 1
  | go1 {g:V}{L a:List V}{W W':List (List V)}{b:Bool}{n:Nat}:St g [a]→(L++[g]).length≤100→(L++a).length≤100→Stl St (L++a) W b W' n→Stl St (L++[g]) W b W' (n+1)
  | go2 {g:V}{L a e:List V}{W W':List (List V)}{b:Bool}{n:Nat}:St g [a,e]→(L++[g]).length≤100→(L++a).length≤100→(L++e).length≤100→W.length≤100→Stl St (L++a) ((L++e)::W) b W' n→Stl St (L++[g]) W b W' (n+1)
inductive Rn (St:V→List (List V)→Prop):List (List V)→Bool→Nat→Prop
  | nil:Rn St [] false 0
  | ok {L:List V}{W W':List (List V)}{n:Nat}:Stl St L W true W' n→W.length≤100→L.length≤100→Rn St (L::W) true n
  | next {L:List V}{W W':List (List V)}{b:Bool}{n m:Nat}:Stl St L W false W' n→W.length≤100→L.length≤100→Rn St W' b m→Rn St (L::W) b (n+m)
def jr (P:PD) (St:V→List (List V)→Prop):Prop:=∀g ws,St g ws→∀n σ s d F,ab σ s=some (SO F)→Sd σ d→(run P (n+150)).call 291 [.ref s,g,.ref d] σ=some (.lst (ws.map .lst),σ)
theorem ir{xs:List V}(h:xs.length≤100):sz xs=true:=Ty (by exact Th ‹_› (by decide))
section
variable {K:List (Nat×MObj)}{c:Nat→Option (Nat×(List V→Option V))}{fre:Nat→Bool}{s l d w:Nat}{F:Int}{L a b r:List V}{g:V}{es:List (Nat×Nat)}{W:List (List V)}{St:V→List (List V)→Prop}
theorem Ents.len(h:Ents σ es W):es.length=W.length:=by
  induction h with
  | nil=>rfl
  | cons _ _ _ _ _ ih=>rw [Tl,Tl,ih]
theorem Di{ws:List (List V)}(hst:jr (Pc c fre) St) (hw:St g ws) (C:Cd K σ ρ s l d w F (L++[g]) es W) (hF:1≤F) (hz:(L++[g]).length≤100):∃σ',Cd K σ' (ac rm (.lst (ws.map .lst)) ρ) s l d w (F-1) L es W∧
    ∀q,(run (Pc c fre) (n+178)).exs f284.scope (lB.drop 2) (ac rm (.lst (ws.map .lst)) ρ) σ'=some q→(run (Pc c fre) (n+180)).exs f284.scope lB ρ σ=some q:=by
  have C2:=C.setF (F':=F-1)
  have C3:=C2.setL (L':=L)
  refine ⟨_,C3.loc (.lst (ws.map .lst)) (by decide +kernel) (by decide +kernel) (by decide +kernel) (by decide +kernel),fun q hq=>?_⟩
  exact ci rfl (zoo C.n1 C.hs) (ch (ci rfl (zpu C2.n1 C2.n2 C2.n3 C2.hs (by exact Hb ‹_›) C2.hl (ir hz) C3.hs fun n=>hst g ws hw n _ s d _ C3.hs C3.hd) (ch hq)))
theorem zd5(hst:jr (Pc c fre) St) (hw:St g []) (C:Cd K σ ρ s l d w F (L++[g]) es W) (hF:1≤F) (hz:(L++[g]).length≤100):∃ρ' σ',Cd K σ' ρ' s l d w (F-1) L es W∧(run (Pc c fre) (n+180)).exs f284.scope lB ρ σ=some (.ret .none,ρ',σ'):=by
  obtain ⟨σ',C',h⟩:=Di (n:=n) hst hw C hF hz
  exact ⟨_,_,C'.gr (Gr.push _ _),h _ (i4 rfl (zl0 (eq ..)))⟩
theorem zhh(hst:jr (Pc c fre) St) (hw:St g [a]) (C:Cd K σ ρ s l d w F (L++[g]) es W) (hF:1≤F) (hz:(L++[g]).length≤100) (hz2:(L++a).length≤100):∃ρ' σ',Cd K σ' ρ' s l d w (F-1) (L++a) es W∧(run (Pc c fre) (n+180)).exs f284.scope lB ρ σ=some (.next,ρ',σ'):=by
  obtain ⟨σ',C',h⟩:=Di (n:=n) hst hw C hF hz
  have C5:=(C'.gr (Gr.push _ (.lst []))).gr (Gr.push _ (.lst []))
  refine ⟨_,_,C5.setL (L':=L++a),h _ (ci rfl (Nw (eq ..)) (ch (ci rfl (zj8 (eq ..)) (ch (ci rfl (Qc (eq ..) (by decide) C5.n2 C5.hl (ir (by rw [T1] at hz2;exact md ‹_›)) (ir hz2)) (ch (g8 rfl)))))))⟩
theorem zgv(hk:c 155=none) (hk2:c 162=none) {e:List V}(hst:jr (Pc c fre) St) (hw:St g [a,e]) (C:Cd K σ ρ s l d w F (L++[g]) es W) (hF:1≤F) (hz:(L++[g]).length≤100) (hz2:(L++a).length≤100) (hz3:(L++e).length≤100) (hW:W.length≤100) :
    ∃ρ' σ' es',Cd K σ' ρ' s l d w (F-1) (L++a) es' ((L++e)::W)∧(run (Pc c fre) (n+180)).exs f284.scope lB ρ σ=some (.next,ρ',σ'):=by
  obtain ⟨σ',C',h⟩:=Di (n:=n) hst hw C hF hz
  have C4:=C'.gr (Gr.push _ (.lst []))
  obtain ⟨σ5,es',h5,C5,_⟩:=ziu (n:=n+96) hk hk2 (eq ..) C4 (ir hz3) (ir (by rw [Vg,Tm,C.he.len];exact hW))
  have C6:=C5.loc (x:=Gp) (.lst e) (by decide +kernel) (by decide +kernel) (by decide +kernel) (by decide +kernel)
  refine ⟨_,_,_,C6.setL (L':=L++a),h _ (ci rfl (Nw (eq ..)) (ch (ci rfl h5 (ch (ci rfl (Qc (r:=[.lst e]) ((dk _ _ (by decide +kernel)).trans (eq ..)) (by show 1≤10;decide) C6.n2 C6.hl (ir (by rw [T1] at hz2;exact md ‹_›)) (ir hz2)) (ch (g8 rfl)))))))⟩
theorem zb2(hk:c 155=none) (hk2:c 162=none) (hst:jr (Pc c fre) St) {W':List (List V)}{b:Bool}{k:Nat}(h:Stl St L W b W' k):∀{σ ρ es F},Cd K σ ρ s l d w F L es W→(k:Int)≤F→
    ∃ρ' σ' L' es',Cd K σ' ρ' s l d w (F-k) L' es' W'∧(run (Pc c fre) (n+k+181)).wh f284.scope (wE (ai f284.body 0)) lB ρ σ=some (if b then .next else .ret .none,ρ',σ'):=by
  induction h with
  | @done W=>
    intro σ ρ es F C hF
    have C1:=C.gr (Gr.push _ (.lst []))
    refine ⟨_,_,[],es,?_,zai (tg (au rfl rfl C.n2) rfl (dj C1.hl)) rfl⟩
    rwa [show F-((0:Nat):Int)=F by lia]
  | @stop g L W hw hz=>
    intro σ ρ es F C hF
    have C1:=C.gr (Gr.push _ (.lst []))
    obtain ⟨ρ',σ',C',h⟩:=zd5 (n:=n+1) hst hw C1 (by assumption) hz
    exact ⟨_,_,_,_,C',Sc (tg (au rfl rfl C.n2) rfl (dj C1.hl)) (by cases L <;> rfl) h⟩
  | @go1 g L a W W' b k hw hz hz2 _ ih=>
    intro σ ρ es F C hF
    have C1:=C.gr (Gr.push _ (.lst []))
    obtain ⟨ρ',σ',C',h⟩:=zhh (n:=n+k+1) hst hw C1 (by exact Ba ‹_›) hz hz2
    obtain ⟨ρ2,σ2,L2,es2,C2,h2⟩:=ih C' (by exact Hb ‹_›)
    refine ⟨ρ2,σ2,L2,es2,?_,He (tg (au rfl rfl C.n2) rfl (dj C1.hl)) (by cases L <;> rfl) h h2⟩
    rwa [show F-((k+1:Nat):Int)=F-1-k by exact R8]
  | @go2 g L a e W W' b k hw hz hz2 hz3 hW _ ih=>
    intro σ ρ es F C hF
    have C1:=C.gr (Gr.push _ (.lst []))
    obtain ⟨ρ',σ',es',C',h⟩:=zgv (n:=n+k+1) hk hk2 hst hw C1 (by exact Ba ‹_›) hz hz2 hz3 hW
    obtain ⟨ρ2,σ2,L2,es2,C2,h2⟩:=ih C' (by exact Hb ‹_›)
    refine ⟨ρ2,σ2,L2,es2,?_,He (tg (au rfl rfl C.n2) rfl (dj C1.hl)) (by cases L <;> rfl) h h2⟩
    rwa [show F-((k+1:Nat):Int)=F-1-k by exact R8]
end
end
section
noncomputable def nt:Str:=⟨#[102,111,117,110,100]⟩
noncomputable def ve:Str:=⟨#[104,101,114,101]⟩
section
variable {e e1:Expr}{es:List Expr}{q:Bool×Sto}
end
section
variable {K:List (Nat×MObj)}{c:Nat→Option (Nat×(List V→Option V))}{fre:Nat→Bool}{s l d w:Nat}{F:Int}{L a b r:List V}{g:V}{es:List (Nat×Nat)}{W:List (List V)}{St:V→List (List V)→Prop}
theorem zba{N:Nat}(hN:40≤N) (hk:c 337=none) (hd:Sd σ d):(run (Pc c fre) N).call 337 [.ref s,.ref d] σ=some (.bool true,push σ (.lst [])):=by
  obtain ⟨n,rfl⟩:=Tg hN
  obtain ⟨⟨r,h1,h2,h3⟩,h4⟩:=hd
  have hb:wu σ (.ref r)=some (.ref σ.next,push σ (.lst [])):=aj (Ll h2) rfl
  exact j2 (fd:=S8) rfl (ay hk) rfl (ci rfl (u8 (d9 rfl (tt rfl (tn rfl rfl rfl) (fun a h=>by cases h) (cc (u1 rfl (au rfl rfl rfl) (dx h1) rfl rfl rfl rfl) dl) hb) (je bg)) (lq (tu bg rfl))) (ch (i4 rfl (lx (ge rfl))))) rfl
structure Cw (K:List (Nat×MObj)) (σ:Sto) (s w:Nat) (F:Int) (es:List (Nat×Nat)) (W:List (List V)):Prop where
  hs:ab σ s=some (SO F)
  ls:s<σ.next
  hw:ab σ w=some (.lst (es.map pr).reverse)
  lw:w<σ.next
  he:Ents σ es W
  hn:∀e∈es,e.1≠w
  kp:∀p∈K,ab σ p.1=some p.2∧p.1<σ.next∧p.1≠s∧p.1≠w∧∀e∈es,e.1≠p.1
theorem za8{N:Nat}(hk:c 155=none) (hk2:c 162=none) (hk3:c 284=none) (hk4:c 337=none) (hst:jr (Pc c fre) St) {W':List (List V)}{b:Bool}{k:Nat}(h:Stl St L W b W' k) (C:Cw K σ s w F es W) (hl:ab σ l=some (.lst L)) (ll:l<σ.next) (hd:Sd σ d) (ne:l≠w) (hn:∀e∈es,e.1≠l) (hkl:∀p∈K,p.1≠l) (hF:(k:Int)≤F) (hN:k+190≤N) :
    ∃σ' es',Cw K σ' s w (F-k) es' W'∧(run (Pc c fre) N).call 284 [.ref s,.ref l,.ref d,.ref w] σ=some (if b then .ref d else .none,σ'):=by
  obtain ⟨n,rfl⟩:∃n,N=n+k+190:=⟨N-(k+190),by exact vn ‹_›⟩
  have C0:Cd K σ [(d6,.ref s),(dp,.ref l),(tx,.ref d),(np,.ref w)] s l d w F L es W:=
    ⟨rfl,rfl,rfl,rfl,C.hs,C.ls,hl,ll,hd,C.hw,C.lw,ne,C.he,fun e he=>⟨hn e he,C.hn e he⟩,fun p hp=>let ⟨a,b,x,y,z⟩:=C.kp p hp;⟨a,b,x,hkl p hp,y,z⟩⟩
  obtain ⟨ρ',σ',L',es',C',h'⟩:=zb2 (n:=n+6) hk hk2 hst h C0 hF
  rw [show n+6+k+181=n+k+187 by lia] at h'
  cases b with
  | false=>exact ⟨_,_,⟨C'.hs,C'.ls,C'.hw,C'.lw,C'.he,fun e he=>(C'.hn e he).2,fun p hp=>let ⟨a,b,x,_,y,z⟩:=C'.kp p hp;⟨a,b,x,y,z⟩⟩,j2 (fd:=f284) rfl (ay hk3) rfl (i4 rfl (zk h')) rfl⟩
  | true=>
    have C2:=C'.gr (Gr.push _ (.lst []))
    exact ⟨_,_,⟨C2.hs,C2.ls,C2.hw,C2.lw,C2.he,fun e he=>(C2.hn e he).2,fun p hp=>let ⟨a,b,x,_,y,z⟩:=C2.kp p hp;⟨a,b,x,y,z⟩⟩,j2 (fd:=f284) rfl (ay hk3) rfl (ci rfl (zk h') (ch (i4 rfl (lx (xo (ji rfl (wo rfl (au rfl rfl C'.n1) (dx C'.hs) rfl rfl rfl (cc (au rfl rfl C'.n3) dl) (zba (by exact A6 ‹_› (by decide)) hk4 C'.hd))) (nr rfl (au rfl rfl C'.n3))))))) rfl⟩
end
end
section
noncomputable def rB:List Stmt:=wB (ai f277.body 1)
section
variable {K:List (Nat×MObj)}{c:Nat→Option (Nat×(List V→Option V))}{fre:Nat→Bool}{s l d w:Nat}{F:Int}{L a b r:List V}{g:V}{es:List (Nat×Nat)}{W:List (List V)}{St:V→List (List V)→Prop}
theorem zqs{xs:List V}{x:V}(h:xs.length≤100):sz (xs++[x])=true:=Ty (by rw [T1,Ua];exact Ue ‹_› (by decide))
theorem Stl.pos{b:Bool}{W':List (List V)}{k:Nat}(h:Stl St L W b W' k):b=false→1≤k:=by
  cases h <;> intro q
  · cases q
  · exact To _
  · lia
  · lia
theorem Cw.gr{σ':Sto}(C:Cw K σ s w F es W) (g:Gr σ σ'):Cw K σ' s w F es W:=
  ⟨(g.same _ C.ls).trans C.hs,Tn C.ls g.le,(g.same _ C.lw).trans C.hw,Tn C.lw g.le,C.he.gr g,C.hn,fun p hp=>let ⟨a,b,q⟩:=C.kp p hp;⟨(g.same _ b).trans a,Tn b g.le,q⟩⟩
theorem L4(hk:c 155=none) (hk2:c 162=none) (hk3:c 284=none) (hk4:c 337=none) (hst:jr (Pc c fre) St) {W':List (List V)}{b:Bool}{k N:Nat}(h:Stl St L W b W' k) (hW:W.length≤100) (hL:L.length≤100) (h1:ae d6 ρ=some (.ref s)) (h4:ae np ρ=some (.ref w)) (C:Cw K σ s w F es (L::W)) (hF:(k:Int)≤F) (hN:k+197≤N) :
    ∃ρ' σ' es' d,Cw K σ' s w (F-k) es' W'∧ae d6 ρ'=some (.ref s)∧ae np ρ'=some (.ref w)∧ae nt ρ'=some (if b then .ref d else .none)∧∀q,(run (Pc c fre) (N-2)).exs f277.scope (rB.drop 2) ρ' σ'=some q→(run (Pc c fre) N).exs f277.scope rB ρ σ=some q:=by
  obtain ⟨n,rfl⟩:∃n,N=n+k+197:=⟨N-(k+197),by exact vn ‹_›⟩
  obtain ⟨es0,hes⟩:∃e,es=e:=⟨_,rfl⟩
  cases C.he with
  | @cons l d _ es1 _ q1 q2 q3 q4 q5=>
    have hw:=C.hw
    rw [T5,Vn] at hw
    have hlen:(es1.map pr).reverse.length≤100:=by rw [Vg,Tm,q5.len];exact hW
    have nl:l≠w:=C.hn _ (Tj ..)
    have sw:w≠s:=fun e=>by have:=C.hs;rw [← e,C.hw] at this;cases this
    have C1:Cw K (ah σ w (.lst (es1.map pr).reverse)) s w F es1 W:=⟨(be sw).trans C.hs,C.ls,bv hw,C.lw,q5.put hw (.inl ⟨_,rfl⟩) fun e he=>C.hn e (Ti _ he),fun e he=>C.hn e (Ti _ he),fun p hp=>let ⟨a,b,x,y,z⟩:=C.kp p hp;⟨(be y.symm).trans a,b,x,y,fun e he=>z e (Ti _ he)⟩⟩
    obtain ⟨σ',es',C',h'⟩:=za8 (N:=n+k+193) hk hk2 hk3 hk4 hst h C1 ((be nl.symm).trans q1) q2 (q3.put hw (.inl ⟨_,rfl⟩)) nl q4 (fun p hp=>((C.kp p hp).2.2.2.2 _ (Tj ..)).symm) hF (by exact yj ‹_› (by decide))
    have e1:∀x,x≠dp→x≠ve→ae x (ac ve (.ref d) (ac dp (.ref l) ρ))=ae x ρ:=fun x a b=>(dk _ _ b).trans (dk _ _ a)
    have e2:∀x v,x≠dp→x≠ve→x≠nt→ae x (ac nt v (ac ve (.ref d) (ac dp (.ref l) ρ)))=ae x ρ:=fun x v a b c=>(dk _ _ c).trans (e1 x a b)
    refine ⟨ac nt (if b then .ref d else .none) (ac ve (.ref d) (ac dp (.ref l) ρ)),σ',es',d,C',(e2 _ _ (by decide +kernel) (by decide +kernel) (by decide +kernel)).trans h1,(e2 _ _ (by decide +kernel) (by decide +kernel) (by decide +kernel)).trans h4,eq ..,fun q hq=>?_⟩
    refine ci rfl (j0 rfl (zm rfl (au rfl rfl h4) (ln hw) (lj hw) dl (Nz hw (zqs hlen))) (ziy rfl rfl (Kn (cu rfl) (Kn (cu rfl) zit)))) (ch (ci rfl (j0 rfl (wo rfl (au rfl rfl ((e1 _ (by decide +kernel) (by decide +kernel)).trans h1)) (dx C1.hs) rfl rfl rfl (cc (au rfl rfl ((dk _ _ (by decide +kernel)).trans (eq ..))) (cc (au rfl rfl (eq ..)) (cc (au rfl rfl ((e1 _ (by decide +kernel) (by decide +kernel)).trans h4)) dl))) h') (cu rfl)) (ch hq)))
end
end
section
section
variable {K:List (Nat×MObj)}{c:Nat→Option (Nat×(List V→Option V))}{fre:Nat→Bool}{s l d w:Nat}{F:Int}{L a b r:List V}{g:V}{es:List (Nat×Nat)}{W:List (List V)}{St:V→List (List V)→Prop}
theorem C7(h1:ae d6 ρ=some (.ref s)) (h4:ae np ρ=some (.ref w)) (C:Cw K σ s w F es W) (hF:0<F) {N:Nat}(hN:30≤N):(run (Pc c fre) N).tr f277.scope (wE (ai f277.body 1)) ρ σ=some (!W.isEmpty,push σ (.lst [])):=by
  obtain ⟨n,rfl⟩:=Tg hN
  have C1:=C.gr (Gr.push _ (.lst []))
  have ht:=tg (n:=n+23) (c:=c) (fre:=fre) (sc:=f277.scope) (ρ:=ρ) (e:=.Name np default) (p1:=default) (p2:=default) (au rfl rfl h4) rfl (dj C1.hw)
  have he:(es.map pr).reverse.isEmpty=W.isEmpty:=by
    have:=C.he.len
    rw [List.isEmpty_reverse]
    cases es <;> cases W <;> first | rfl | cases this
  cases hW:W.isEmpty with
  | true=>
    rw [he,hW] at ht
    exact lp (zc7 (tg (au rfl rfl h4) rfl (dj C1.hw) |>.trans (by rw [he,hW];rfl)))
  | false=>
    exact lp (zc4 (tg (au rfl rfl h4) rfl (dj C1.hw) |>.trans (by rw [he,hW];rfl)) (mr (ji rfl (lu (u1 rfl (au rfl rfl h1) (dx C1.hs) rfl rfl rfl rfl) (ge rfl) (by show some (decide (F > 0))=some true;rw [decide_eq_true hF])))))
theorem zli(hk:c 155=none) (hk2:c 162=none) (hk3:c 284=none) (hk4:c 337=none) (hst:jr (Pc c fre) St) {b:Bool}{k:Nat}(h:Rn St W b k):∀{σ ρ es F N},ae d6 ρ=some (.ref s)→ae np ρ=some (.ref w)→Cw K σ s w F es W→(k:Int)<F→2 * k+210≤N→
    ∃ρ' σ' d,(run (Pc c fre) N).wh f277.scope (wE (ai f277.body 1)) rB ρ σ=some (if b then .ret (.ref d) else .next,ρ',σ')∧∀p∈K,ab σ' p.1=some p.2∧p.1<σ'.next:=by
  induction h with
  | nil=>
    intro σ ρ es F N h1 h4 C hF hN
    obtain ⟨n,rfl⟩:∃n,N=n+1:=⟨N-1,by exact j8 ‹_› (by decide)⟩
    have C1:=C.gr (Gr.push _ (.lst []))
    exact ⟨_,_,0,zai (C7 h1 h4 C (by assumption) (by exact zss ‹_› (by decide))) rfl,fun p hp=>⟨(C1.kp p hp).1,(C1.kp p hp).2.1⟩⟩
  | @ok L W W' k h hW hL=>
    intro σ ρ es F N h1 h4 C hF hN
    obtain ⟨n,rfl⟩:∃n,N=n+3:=⟨N-3,by exact j8 ‹_› (by decide)⟩
    have C1:=C.gr (Gr.push _ (.lst []))
    obtain ⟨ρ',σ',es',d,C',q1,q2,q3,hh⟩:=L4 (N:=n+2) hk hk2 hk3 hk4 hst h hW hL h1 h4 C1 (by lia) (by exact O4 ‹_› (by decide))
    obtain ⟨m,rfl⟩:∃m,n=m+20:=⟨n-20,by exact Rj ‹_› (by decide)⟩
    exact ⟨_,_,d,Sc (C7 h1 h4 C (by exact Ba ‹_›) (by lia)) rfl (hh _ (i4 rfl (m8 (ji rfl (lu (au rfl rfl q3) (ge rfl) rfl)) (nr rfl (i4 rfl (lx (au rfl rfl q3))))))),fun p hp=>⟨(C'.kp p hp).1,(C'.kp p hp).2.1⟩⟩
  | @next L W W' b k m h hW hL _ ih=>
    intro σ ρ es F N h1 h4 C hF hN
    have hp:=h.pos rfl
    obtain ⟨n,rfl⟩:∃n,N=n+3:=⟨N-3,by exact j8 ‹_› (by decide)⟩
    have C1:=C.gr (Gr.push _ (.lst []))
    obtain ⟨ρ',σ',es',d,C',q1,q2,q3,hh⟩:=L4 (N:=n+2) hk hk2 hk3 hk4 hst h hW hL h1 h4 C1 (by exact zr8 ‹_›) (by exact zpv ‹_› (by decide))
    obtain ⟨ρ2,σ2,d2,h2,hk9⟩:=ih (N:=n+2) q1 q2 C' (by exact zsp ‹_›) (by lia)
    obtain ⟨m,rfl⟩:∃m,n=m+20:=⟨n-20,by exact Rj ‹_› (by decide)⟩
    exact ⟨_,_,d2,He (C7 h1 h4 C (by exact Ba ‹_›) (by lia)) rfl (hh _ (ci rfl (m8 (ji rfl (lu (au rfl rfl q3) (ge rfl) rfl)) (qr rfl (g8 rfl))) (ch (g8 rfl)))) h2,hk9⟩
theorem Kq(hk:c 155=none) (hk2:c 162=none) (hk3:c 284=none) (hk4:c 337=none) (hk5:c 277=none) (hst:jr (Pc c fre) St) {b:Bool}{k N:Nat}(h:Rn St [L] b k) (hL:L.length≤100) (hs:ab σ s=some (SO F)) (ls:s<σ.next) (hl:ab σ l=some (.lst L)) (ll:l<σ.next) (hd:Sd σ d) (hF:(k:Int)<F) (hN:2 * k+220≤N) (hK:∀p∈K,ab σ p.1=some p.2∧p.1<σ.next∧p.1≠s) :
    ∃v σ',(run (Pc c fre) N).call 277 [.ref s,.ref l,.ref d] σ=some (v,σ')∧isNone v=some (!b)∧∀p∈K,ab σ' p.1=some p.2∧p.1<σ'.next:=by
  obtain ⟨n,rfl⟩:∃n,N=n+10:=⟨N-10,by exact j8 ‹_› (by decide)⟩
  have hb:xw σ (.ref l)=some (.ref σ.next,push σ (.lst L)):=aj (x:=jx σ (.ref l)) (dj hl) (cm (ir hL) rfl)
  have g1:Gr σ (push σ (.lst L)):=Gr.push _ _
  have g2:Gr σ (push (push σ (.lst L)) (.lst [pr (σ.next,d)])):=g1.trans (Gr.push _ _)
  have hone:∀(P:Nat×Nat→Prop),P (σ.next,d)→∀e∈[(σ.next,d)],P e:=fun P h e he=>by
    rcases Tz.mp he with rfl | he
    · exact h
    · cases he
  have C:Cw K (push (push σ (.lst L)) (.lst [pr (σ.next,d)])) s (σ.next+1) F [(σ.next,d)] [L]:=
    ⟨(g2.same _ ls).trans hs,Tn ls g2.le,bg,Tr _,.cons ((cg (Tr _)).trans bg) (by show σ.next<σ.next+1+1;exact T3 _) (hd.mono g2) (fun e h=>nomatch h) .nil,hone _ (by show σ.next≠σ.next+1;lia),fun p hp=>let ⟨a,b,x⟩:=hK p hp;⟨(g2.same _ b).trans a,Tn b g2.le,x,by exact rp ‹_›,hone _ (by show σ.next≠p.1;exact U7 ‹_›)⟩⟩
  obtain ⟨ρ',σ',d',h',hkp⟩:=zli (N:=n+6) hk hk2 hk3 hk4 hst h (ρ:=[(d6,.ref s),(⟨#[103,111,97,108,115]⟩,.ref l),(tx,.ref d),(np,.ref (σ.next+1))]) rfl rfl C hF (by exact yj ‹_› (by decide))
  have pre:∀q,(run (Pc c fre) (n+8)).exs f277.scope (f277.body.drop 1) [(d6,.ref s),(⟨#[103,111,97,108,115]⟩,.ref l),(tx,.ref d),(np,.ref (σ.next+1))] (push (push σ (.lst L)) (.lst [pr (σ.next,d)]))=some q→(run (Pc c fre) (n+9)).exs f277.scope f277.body [(d6,.ref s),(⟨#[103,111,97,108,115]⟩,.ref l),(tx,.ref d)] σ=some q:=fun q hq=>
    ci rfl (j0 rfl (zv (cc (Ep (cc (tt rfl (tn rfl rfl rfl) (fun a h=>by cases h) (cc (au rfl rfl rfl) dl) hb) (cc (au rfl rfl rfl) dl)) rfl) dl) rfl) (cu rfl)) (ch hq)
  cases b with
  | true=>exact ⟨_,_,j2 (fd:=f277) rfl (ay hk5) rfl (pre _ (i4 rfl (zk h'))) rfl,rfl,hkp⟩
  | false=>exact ⟨_,_,j2 (fd:=f277) rfl (ay hk5) rfl (pre _ (ci rfl (zk h') (ch (i4 rfl (lx (ge rfl)))))) rfl,rfl,hkp⟩
end
end
end Mine
end
section
open PySem PySem.W
set_option maxHeartbeats 400000
namespace Mine
section
noncomputable def zri:Nat→List Stmt→List Stmt→List Stmt
  | n+1,s::ss,r=>s::zri n ss r
  | _,_,r=>r
noncomputable def nf:Str:=⟨#[111,110,101]⟩
noncomputable def nw:Str:=⟨#[111,116,104,101,114]⟩
theorem Cm:Pj.con 291=none:=by kernel_rfl
noncomputable def Gw:V:=bb sm
section
variable {f:Int}{r:List Nat}{m:Option Nat}{w:List Nat}{q:Option Nat}
theorem zew(h:SgOk r m):∀N σ,62≤N→(run Pj N).call 245 [sg r m] σ=some (.bool false,σ):=fun N σ hN=>km rfl zcu (Ob h.toShOk) (Qm h) hN
theorem zsj:(i7.map fun i=>b9 22 (kd i) (.tup []))=i7.map fun J=>some false:=by kernel_rfl
theorem Ee(h:∀i,q=some i→i<7) (σ:Sto):bo σ .Eq (sg w q) Gw=some false:=by
  have:b9 ik (sg w q) Gw=some false:=by
    cases q with
    | none=>kernel_rfl
    | some i=>
      have e:=T4.mp zsj i (ju (h i rfl))
      show (ob (b9 22 (.str jf) (.str tN)) fun a=>ob ((ob (b9 21 (.tup (fnv::w.map kd)) (.str sm)) fun a=>ob ((ob (b9 20 (kd i) (.tup [])) fun a=>ob (ib 20 [] []) fun b=>some (a&&b))) fun b=>some (a&&b))) fun b=>some (a&&b))=_
      rw [show b9 20 (kd i) (.tup [])=some false from T4.mp (show (i7.map fun i=>b9 20 (kd i) (.tup []))=i7.map fun J=>some false by kernel_rfl) i (ju (h i rfl))]
      rfl
  show nh σ (sg w q) Gw=_
  exact Ng this
theorem xy(h1:ShOk r m) (h2:ShOk w q) (σ:Sto):bo σ .Eq (sg r m) (sg w q)=some (decide (r=w∧m=q)):=by
  show nh σ _ _=_
  exact Ng (zlf h1 h2)
theorem Lg{V:V}{σ':Sto}(h1:SgOk r m) (h2:SgOk w q) (hne:¬ (r=w∧m=q)) (ht:(run Pj 105).call 375 [sg r m,sg w q] ⟨0,[]⟩=some (V,σ')):(run Pj 134).call 291 [sh f,gv (sg r m) (sg w q),SIDES] ⟨0,[]⟩=some (V,σ'):=
  ce (ay Cm) [aq fun σ=>(xy h1.toShOk h2.toShOk σ).trans (congrArg some (decide_eq_false hne)),ap (zew h1),aq (Ee (w:=w) h2.more),iu ht] (by kernel_rfl)
theorem zie(h1:ShOk r m):(run Pj 134).call 291 [sh f,gv (sg r m) (sg r m),SIDES] ⟨0,[]⟩=some (.ref 1,push (push ⟨0,[]⟩ (.lst [])) (.lst [.ref 0])):=
  ce (ay Cm) [aq fun σ=>(xy h1 h1 σ).trans (congrArg some (decide_eq_true ⟨rfl,rfl⟩))] (by kernel_rfl)
end
end
section
noncomputable def Pk:PD:=Pj.putF 291 134 (ip Pj 134 291)
theorem te{P:PD}{n f k:Nat}{σ:Sto}{fd:FnD}{g:List V→Option V}{args args':List V}{v:V}(h0:P.fn f=some fd) (h1:P.con f=some (k,g)) (hr:gx args=false) (h2:fzs σ gt args=some args') (h3:g args'=some v) (hv:xf v=true∨P.fre f=true) (h4:k<n):(run P (n+1)).call f args σ=some (v,σ):=by
  have:iz P n f args σ=some v:=by
    exact bp h1 (cm (show Wg k n=true from Ty h4) ((if_neg (by rw [hr];exact Ts)).trans (aj h2 (aj h3 (cm (Yo.mpr hv) rfl)))))
  exact aj h0 (by rw [this])
def StP (g:V) (ws:List (List V)):Prop:=Pl 40 g∧∀F,ip Pj 134 291 [sh F,g,SIDES]=some (.lst (ws.map .lst))
theorem u2{σ:Sto}{b:Bool}{k C n:Nat}{ks:List Str}{xs l:List V}(h:ab σ k=some (.obj C ks xs)) (h2:io σ b n xs=some l):kh σ b (n+1) (.ref k)=some (.obj C ks l):=aj (x:=ab σ k) h (aj (x:=io σ b n xs) h2 rfl)
theorem xa{σ:Sto}{b:Bool}{k n:Nat}{ks:List Str}{xs l:List V}(h:ab σ k=some (.dct ks xs)) (h2:io σ b n xs=some l):kh σ b (n+1) (.ref k)=some (.dct ks l):=aj (x:=ab σ k) h (aj (x:=io σ b n xs) h2 rfl)
theorem ky{σ:Sto}{b:Bool}{k n:Nat}{xs l:List V}(h:ab σ k=some (.lst xs)) (h2:io σ b n xs=some l):kh σ b (n+1) (.ref k)=some (.lst l):=aj (x:=ab σ k) h (aj (x:=io σ b n xs) h2 rfl)
theorem ca{σ:Sto}{b:Bool}{n:Nat}{x v:V}{xs l:List V}(h:kh σ b n x=some v) (h2:io σ b n xs=some l):io σ b (n+1) (x::xs)=some (v::l):=aj (x:=kh σ b n x) h (aj (x:=io σ b n xs) h2 rfl)
theorem N5{σ:Sto}{s:Nat}{F:Int}(h:ab σ s=some (SO F)) (n:Nat):fz σ (n+5) (.ref s)=some (sh F):=u2 h rfl
theorem Ko{σ:Sto}{d:Nat}(h:Sd σ d) (n:Nat):fz σ (n+8) (.ref d)=some SIDES:=by
  obtain ⟨⟨r,h1,h2,_⟩,_⟩:=h
  exact u2 h1 (ca (xa (l:=[]) h2 rfl) rfl)
theorem zf3:jr (Pc Pk.con Pk.fre) StP:=fun g ws hg n σ s d F hs hd=>by
  refine te (fd:=Bi) (k:=134) (g:=ip Pj 134 291) (args':=[sh F,g,SIDES]) rfl (by kernel_rfl) rfl ?_ (hg.2 F) (.inr (by kernel_rfl)) (by lia)
  exact ca (N5 hs 194) (ca (hg.1.fz σ (by decide)) (ca (Ko hd 189) rfl))
theorem zge:(fun f=>i77.map fun p=>ip Pj 134 291 [sh f,gl p,SIDES])=fun J=>i77.map fun p=>some (Qo (uf p.1 p.2)):=by kernel_rfl
theorem zjv:(fun f=>(ip Pj 134 291 [sh f,gv fnv fnv,SIDES]))=fun J=>some (Qo [[]]):=by kernel_rfl
theorem t7{a b:V}(h1:Pl 24 a) (h2:Pl 24 b):Pl 40 (gv a b):=(Pl.tup (Pls.cons (Oo Ga) (Pls.cons h1 (Pls.cons h2 Pls.nil)))).le (by decide)
noncomputable def Bk(i j:Nat):List (List V):=(uf i j).map fun w=>w.map gl
theorem Df{i j:Nat}(hi:i<7) (hj:j<7):StP (gl (i,j)) (Bk i j):=
  ⟨t7 ((nz hi).le (by decide)) ((nz hj).le (by decide)),fun F=>by
    have:=T4.mp (congrFun zge F) (i,j) (j5 hi hj)
    rw [this]
    show some (V.lst ((uf i j).map fun w=>.lst (w.map gl)))=some (V.lst (((uf i j).map fun w=>w.map gl).map .lst))
    rw [Us];rfl⟩
theorem zng:StP (gv fnv fnv) [[]]:=⟨t7 (pl_fn.le (by decide)) (pl_fn.le (by decide)),fun F=>congrFun zjv F⟩
section
variable {r:List Nat}{m:Option Nat}{w:List Nat}{q:Option Nat}
theorem zl1(h:SgOk r m):StP (gv (sg r m) (sg r m)) [[]]:=⟨t7 (db h.toShOk) (db h.toShOk),fun F=>by
  unfold ip;rw [zie h.toShOk];kernel_rfl⟩
theorem zez(h1:SgOk r m) (h2:SgOk w q) (hne:¬ (r=w∧m=q)) (he:lz r m w q=true):StP (gv (sg r m) (sg w q)) []:=⟨t7 (db h1.toShOk) (db h2.toShOk),fun F=>by
  unfold ip;rw [Lg h1 h2 hne (zj5 h1 h2 he)];kernel_rfl⟩
noncomputable def Gs(r:List Nat) (m:Option Nat) (w:List Nat) (q:Option Nat):List V:=((T6 0 (r.length+1)).map fun i=>gv (kx r i) (kn w q i))++tG m q
theorem zp9:gG r w q++tG m q=Gs r m w q:=by
  unfold gG Gs
  rw [Vi,Up.mpr (fun J J=>rfl),Us,Tl,Tm];rfl
theorem L5{n:Nat}{f:Nat→V}:∀{l:List Nat},(∀i∈l,Pl n (f i))→Pls (n+l.length+1) (l.map f)
  | [],_=>Pls.nil.le (by lia)
  | i::l,h=>(Pls.cons (h i (Tj ..)) (L5 fun j hj=>h j (Ti _ hj))).le (by rw [Tl];exact zs2)
theorem Pls.app{n:Nat}:∀{k:Nat}{a b:List V},Pls k a→Pls n b→Pls (k+n) (a++b)
  | k,[],b,_,h=>h.le (by lia)
  | k,x::a,b,h1,h2=>by
    have hd:max (Mine.dep x) (uh a)+1≤k:=h1.dep
    obtain ⟨e1,e2⟩:=Uh.mp (show (Mine.rf x&&gx a)=true from h1.rf)
    obtain ⟨e3,e4⟩:=Uh.mp (show (Mine.nl x&&s3 a)=true from h1.nl)
    exact (Pls.cons (n:=k-1) ⟨e1,e3,by exact zn7 ‹_›⟩ (Pls.app (k:=k-1) ⟨e2,e4,by exact zog ‹_›⟩ h2)).le (by exact zpj ‹_›)
theorem Q1(h:∀i∈r,i<7):∀i,i<r.length+1→Pl 12 (kx r i)
  | 0,_=>pl_fn.le (by decide)
  | i+1,hi=>nz (h _ (o8 r i (by lia)))
theorem zpe(h:∀i∈w,i<7) (hq:∀i,q=some i→i<7) (i:Nat):Pl 12 (kn w q i):=by
  unfold kn
  split
  · rename_i c;exact Q1 h i c
  · exact Fp hq
theorem zm7(h1:ShOk r m) (h2:ShOk w q):Pls 120 (Gs r m w q):=by
  refine (Pls.app (L5 (n:=40) fun i hi=>t7 ((Q1 h1.row i (by have:=(Uk.mp hi).2;exact lc ‹_›)).le (by decide)) ((zpe h2.row h2.more i).le (by decide))) (n:=42) ?_).le (by have:=h1.len;rw [Uu];exact zrh ‹_› (by decide))
  cases m with
  | none=>exact Pls.nil.le (by decide)
  | some i=>exact (Pls.cons (t7 ((nz (h1.more i rfl)).le (by decide)) ((Fp h2.more).le (by decide))) Pls.nil).le (by decide)
theorem zlu(h1:SgOk r m) (h2:SgOk w q) (hne:¬ (r=w∧m=q)) (he:lz r m w q=false):StP (gv (sg r m) (sg w q)) [Gs r m w q]:=⟨t7 (db h1.toShOk) (db h2.toShOk),fun F=>by
  unfold ip;rw [Lg h1 h2 hne (zo3 h1 h2 he)]
  show fzf (sG r m w q) 200 (.ref 3)=_
  have e3:ab (sG r m w q) 3=some (.lst [.ref 2]):=rfl
  have e2:ab (sG r m w q) 2=some (.lst (Gs r m w q)):=by rw [← zp9];rfl
  have e1:=(zm7 h1.toShOk h2.toShOk).fzf (sG r m w q) (k:=197) (by decide)
  exact ky (n:=199) e3 (ca (n:=198) (ky (n:=197) e2 e1) rfl)⟩
end
end
section
section
variable {St:V→List (List V)→Prop}{L a e:List V}{W:List (List V)}{b:Bool}{m:Nat}{g:V}
theorem zix(h:Rn St W b m) (hg:St g []) (h1:W.length≤100) (h2:(L++[g]).length≤100):Rn St ((L++[g])::W) b (1+m):=.next (.stop hg h2) h1 h2 h
theorem zk6(h:Rn St ((L++a)::W) b n) (hg:St g [a]) (h2:(L++[g]).length≤100):Rn St ((L++[g])::W) b (n+1):=by
  cases h with
  | ok h h1 h3=>exact .ok (.go1 hg h2 h3 h) h1 h2
  | @next _ _ _ _ n m h h1 h3 h4=>
    rw [show n+m+1=n+1+m by lia]
    exact .next (.go1 hg h2 h3 h) h1 h2 h4
theorem zl9(h:Rn St ((L++a)::(L++e)::W) b n) (hg:St g [a,e]) (h2:(L++[g]).length≤100) (he:(L++e).length≤100) (hW:W.length≤100):Rn St ((L++[g])::W) b (n+1):=by
  cases h with
  | ok h h1 h3=>exact .ok (.go2 hg h2 h3 he hW h) hW h2
  | @next _ _ _ _ n m h h1 h3 h4=>
    rw [show n+m+1=n+1+m by lia]
    exact .next (.go2 hg h2 h3 he hW h) hW h2 h4
def Good (St:V→List (List V)→Prop) (d:Nat) (L:List V) (t:Bool) (c:Nat):Prop:=L.length≤20∧∀W b m,W.length+d≤100→Rn St W b m→∃n,n≤m+c∧Rn St (L::W) (t||b) n
variable {d c c1 c2:Nat}{t t1 t2:Bool}
theorem Kz:Good St d [] true 0:=⟨by decide,fun W b m hW h=>⟨0,Nat.zero_le _,.ok .done (by exact md ‹_›) (by decide)⟩⟩
theorem Good.le{d' c':Nat}(h:Good St d L t c) (hd:d≤d') (hc:c≤c'):Good St d' L t c':=⟨h.1,fun W b m hW hr=>by
  obtain ⟨n,h1,h2⟩:=h.2 W b m (by exact zof ‹_› ‹_›) hr
  exact ⟨n,by exact zn3 ‹_› ‹_›,h2⟩⟩
theorem J4(hg:St g []) (hL:L.length<20):Good St d (L++[g]) false 1:=⟨by rw [List.length_append,List.length_singleton];assumption,fun W b m hW h=>⟨1+m,by lia,zix h hg (by exact md ‹_›) (by rw [List.length_append,List.length_singleton];exact Nat.le_trans ‹_› (by decide))⟩⟩
theorem wk(hg:St g [a]) (hL:L.length<20) (h:Good St d (L++a) t c):Good St d (L++[g]) t (c+1):=⟨by rw [T1,Ua];assumption,fun W b m hW hr=>by
  obtain ⟨n,h1,h2⟩:=h.2 W b m hW hr
  exact ⟨n+1,by exact Ug ‹_›,zk6 h2 hg (by rw [T1,Ua];exact Th ‹_› (by decide))⟩⟩
theorem zgm(hg:St g [a,e]) (hL:L.length<20) (h1:Good St d (L++a) t1 c1) (h2:Good St d (L++e) t2 c2):Good St (d+1) (L++[g]) (t1||t2) (c1+c2+1):=⟨by rw [T1,Ua];assumption,fun W b m hW hr=>by
  obtain ⟨n2,q1,q2⟩:=h2.2 W b m (by exact Ur ‹_›) hr
  obtain ⟨n1,p1,p2⟩:=h1.2 _ _ _ (by rw [Tl];exact re ‹_›) q2
  refine ⟨n1+1,by exact zpr ‹_› ‹_›,?_⟩
  rw [Bool.or_assoc]
  exact zl9 p2 hg (by rw [T1,Ua];exact Th ‹_› (by decide)) (by have:=h2.1;exact Th ‹_› (by decide)) (by exact md ‹_›)⟩
end
abbrev Simple (i j:Nat):Prop:=uf i j=if bl i j then [[]] else []
theorem zfj:∀p∈i77,Simple p.1 p.2∨(uf p.1 p.2=[[(0,p.2),(2,p.2)]]∧Simple 0 p.2∧Simple 2 p.2∧bl p.1 p.2=(bl 0 p.2&&bl 2 p.2))∨(uf p.1 p.2=[[(p.1,0)],[(p.1,2)]]∧Simple p.1 0∧Simple p.1 2∧bl p.1 p.2=(bl p.1 0||bl p.1 2)):=by decide +kernel
section
variable {L:List V}{d c i j:Nat}{t:Bool}
theorem v9(hi:i<7) (hj:j<7) (hs:Simple i j) (hL:L.length<20) (h:Good StP d L t c):Good StP d (L++[gl (i,j)]) (bl i j&&t) (c+1):=by
  have hg:=Df hi hj
  unfold Bk at hg
  rw [hs] at hg
  cases hb:bl i j with
  | true=>
    rw [hb] at hg
    rw [Vd]
    exact wk (a:=[]) hg hL (by rw [Vp];exact h)
  | false=>
    rw [hb] at hg
    rw [U6]
    exact (J4 hg hL).le (To _) (by lia)
theorem Jo(hi:i<7) (hj:j<7) (hL:L.length+2<20) (h:Good StP d L t c):Good StP (d+1) (L++[gl (i,j)]) (bl i j&&t) (2 * c+3):=by
  rcases zfj (i,j) (j5 hi hj) with hs | ⟨hw,s1,s2,hb⟩ | ⟨hw,s1,s2,hb⟩
  · exact (v9 hi hj hs (by exact uc ‹_›) h).le (by exact T3 _) (by lia)
  · have hg:=Df hi hj
    unfold Bk at hg
    rw [hw] at hg
    dsimp only at hb s1 s2
    have h1:=v9 (by decide) hj s1 (by exact uc ‹_›) h
    have h2:=v9 (L:=L++[gl (0,j)]) (by decide) hj s2 (by rw [T1,Ua];exact Ur ‹_›) h1
    have h3:=wk (L:=L) (a:=[gl (0,j),gl (2,j)]) hg (by exact uc ‹_›) (by rw [show L++[gl (0,j),gl (2,j)]=L++[gl (0,j)]++[gl (2,j)] by rw [We];rfl];exact h2)
    rw [hb,show ((bl 0 j&&bl 2 j)&&t)=(bl 2 j&&(bl 0 j&&t)) by cases bl 0 j <;> cases bl 2 j <;> rfl]
    exact h3.le (by exact T3 _) (by lia)
  · have hg:=Df hi hj
    unfold Bk at hg
    rw [hw] at hg
    dsimp only at hb s1 s2
    have h1:=v9 hi (by decide) s1 (by exact uc ‹_›) h
    have h2:=v9 hi (by decide) s2 (by exact uc ‹_›) h
    have h3:=zgm (L:=L) (a:=[gl (i,0)]) (e:=[gl (i,2)]) hg (by exact uc ‹_›) h1 h2
    rw [hb,show ((bl i 0||bl i 2)&&t)=(bl i 0&&t||bl i 2&&t) by cases bl i 0 <;> cases bl i 2 <;> cases t <;> rfl]
    exact h3.le (by exact Tr _) (by lia)
end
section
variable {r:List Nat}{m:Option Nat}{w:List Nat}{q:Option Nat}
theorem J8 (hr:∀i∈r,i<7) (hw:∀i∈w,i<7) (hq:∀i,q=some i→i<7) (hlen:r.length≤3) (hnd:r.length≤w.length∨q.isSome=true):∀k,k≤r.length→Good StP k ((List.range' 0 (k+1)).map fun i=>gv (kx r i) (kn w q i)) ((List.range' 0 k).all fun i=>bl (ft 0 r i) (bn w q i)) (4 * 2 ^ k-3)
  | 0,_=>wk (L:=[]) (a:=[]) (by
      have:kn w q 0=fnv:=if_pos (U0 _)
      show StP (gv fnv (kn w q 0)) _
      rw [this];exact zng) (by decide) Kz
  | k + 1,hk=>by
    have ih:=J8 hr hw hq hlen hnd k (by exact Ur ‹_›)
    have e1:T6 0 (k+1+1)=T6 0 (k+1)++[k+1]:=by rw [Yy];simp
    have e2:T6 0 (k+1)=T6 0 k++[k]:=by rw [Yy];simp
    rw [e1,W3,e2,List.all_append,← e2]
    have hi:ft 0 r k<7:=hr _ (o8 r k (by assumption))
    have hn:bn w q k<7∧kn w q (k+1)=kd (bn w q k):=by
      unfold bn kn
      by_cases c:k<w.length
      · rw [if_pos c,if_pos (by exact Vv ‹_›)]
        exact ⟨hw _ (o8 w k c),rfl⟩
      · rw [if_neg c,if_neg (by lia)]
        rcases hnd with h | h
        · lia
        · cases q with
          | none=>cases h
          | some z=>exact ⟨hq z rfl,rfl⟩
    have h:=Jo hi hn.1 (by rw [Tm,Uu];lia) ih
    rw [List.map_singleton,hn.2,Vb,List.all_nil,Wk,Yq]
    refine h.le (To _) ?_
    have:1≤2 ^ k:=Nat.one_le_two_pow
    rw [Nat.pow_succ];exact zsx ‹_›
theorem zhw(h1:ShOk r m) (h2:ShOk w q) (hs:lz r m w q=false):Good StP 4 (Gs r m w q) (l9 m q&&ou r w q) 61:=by
  unfold lz at hs
  simp only [V1,decide_eq_false_iff_not,Wc,Uq] at hs
  have hnd:r.length≤w.length∨q.isSome=true:=by
    cases q with
    | none => rcases hs.2 with h | h
              · cases h
              · exact .inl (by simpa using h.2)
    | some z=>exact .inr rfl
  have hr:=J8 h1.row h2.row h2.more h1.len hnd r.length (To _)
  have h3:=h1.len
  have hp:2 ^ r.length≤8:=Yk (by decide) h3
  unfold Gs
  cases m with
  | none=>
    rw [show tG none q=[] from rfl,Vp,show l9 none q=true from rfl,Vd]
    exact hr.le (by exact Th ‹_› (by decide)) (by exact Ta ‹_› (by decide))
  | some y=>
    cases q with
    | none => rcases hs.2 with h | h
              · cases h
              · exact absurd h.1 (by simp)
    | some z=>
      have h:=Jo (h1.more y rfl) (h2.more z rfl) (by rw [Tm,Uu];exact ztx ‹_› (by decide)) hr
      exact h.le (by exact Ue ‹_› (by decide)) (by exact zre ‹_›)
theorem zh6(h1:SgOk r m) (h2:SgOk w q):Good StP 4 [gv (sg r m) (sg w q)] (decide (r=w∧m=q)||(!lz r m w q&&(l9 m q&&ou r w q))) 62:=by
  by_cases he:r=w∧m=q
  · obtain ⟨rfl,rfl⟩:=he
    rw [decide_eq_true ⟨rfl,rfl⟩,Y1]
    exact (wk (L:=[]) (a:=[]) (d:=0) (zl1 h1) (by decide) Kz).le (by decide) (by decide)
  · rw [decide_eq_false he,Vc]
    cases hs:lz r m w q with
    | true=>exact (J4 (L:=[]) (d:=0) (zez h1 h2 he hs) (by decide)).le (by decide) (by decide)
    | false=>exact wk (L:=[]) (zlu h1 h2 he hs) (by decide) (zhw h1.toShOk h2.toShOk hs)
end
end
section
theorem bl_tab:(∀i∈i7,bl i i=true)∧∀j∈i7,bl 6 j=(bl 0 j&&bl 2 j):=by decide +kernel
theorem Mr{i:Nat}(h:i<7):bl i i=true:=bl_tab.1 i (ju h)
theorem zs7{j:Nat}(h:j<7):bl 6 j=(bl 0 j&&bl 2 j):=bl_tab.2 j (ju h)
section
variable {r:List Nat}{m:Option Nat}{w:List Nat}{q:Option Nat}
theorem zbn:jp r m w q=lz r m w q:=by
  unfold jp lz
  rw [Bool.or_comm]
  by_cases h:r.length<w.length
  · rw [decide_eq_true h,Y1,Y1]
  · rw [decide_eq_false h,Vc,Vc]
    congr 2
    by_cases e:r.length=w.length
    · rw [decide_eq_true e,decide_eq_false (by lia)];rfl
    · rw [decide_eq_false e,decide_eq_true (by exact ztj ‹_› ‹_›)];rfl
theorem zh(h:ShOk r m):al r m r m=true:=by
  have h1:jp r m r m=false:=by
    unfold jp
    cases m <;> simp
  have h2:l9 m m=true:=by
    cases m with
    | none=>rfl
    | some i=>exact Mr (h.more i rfl)
  have h3:ou r r m=true:=by
    unfold ou
    refine Ui.mpr fun i hi=>?_
    have hi:i<r.length:=by have:=(Uk.mp hi).2;exact lc ‹_›
    rw [show bn r m i=ft 0 r i from if_pos hi]
    exact Mr (h.row _ (o8 r i hi))
  unfold al
  rw [h1,h2,h3];rfl
theorem zc1(h:ShOk r m):(decide (r=w∧m=q)||(!lz r m w q&&(l9 m q&&ou r w q)))=al r m w q:=by
  rw [← zbn]
  show (_||al r m w q)=_
  by_cases he:r=w∧m=q
  · obtain ⟨rfl,rfl⟩:=he
    rw [zh h,Bool.or_true]
  · rw [decide_eq_false he,Vc]
noncomputable def kz:List Nat→(Nat→Nat)→Bool
  | [],_=>true
  | x::l,f=>bl x (f 0)&&kz l (fun i=>f (i+1))
theorem Cl:∀(r:List Nat) (f:Nat→Nat),(List.range' 0 r.length).all (fun i=>bl (ft 0 r i) (f i))=kz r f
  | [],f=>rfl
  | x::l,f=>by
    rw [Tl,U2,Vb]
    show (bl x (f 0)&&_)=(bl x (f 0)&&_)
    congr 1
    rw [← Cl l,show (0+1:Nat)=1 from rfl,Uv,Uv,V9,V9]
    congr 1
    funext i
    show bl (ft 0 (x::l) (1+i)) (f (1+i))=bl (ft 0 l (0+i)) (f (0+i+1))
    rw [show 1+i=i+1 by lia,show 0+i=i by exact oj];rfl
theorem E3:∀r,ej r≠[]
  | []=>List.cons_ne_nil _ _
  | i :: r=>by
    unfold ej
    intro q
    rw [List.flatMap_eq_nil_iff] at q
    have:∃x,x∈pt i:=by
      by_cases c:i=6
      · subst c;exact ⟨0,by rw [Bb];exact Tj ..⟩
      · exact ⟨i,by rw [ye c];exact Tj ..⟩
    obtain ⟨x,hx⟩:=this
    exact E3 r (List.map_eq_nil_iff.mp (q x hx))
theorem Mn:∀(r:List Nat) (f:Nat→Nat),(∀i∈r,i<7)→(∀i,f i<7)→((ej r).all fun l=>kz l f)=kz r f
  | [],f,_,_=>rfl
  | i :: r,f,hr,hf=>by
    have ih:=Mn r (fun i=>f (i+1)) (fun j hj=>hr j (Ti _ hj)) fun i=>hf (i+1)
    have e:∀x,((ej r).all fun l=>kz (x::l) f)=(bl x (f 0)&&kz r fun i=>f (i+1)):=fun x=>by
      rw [← ih]
      show ((ej r).all fun l=>bl x (f 0)&&kz l fun i=>f (i+1))=_
      cases bl x (f 0) with
      | true=>simp
      | false=>
        rw [U6]
        cases hc:ej r with
        | nil=>exact absurd hc (E3 r)
        | cons a l=>rfl
    show (((pt i).flatMap fun x=>(ej r).map fun l=>x::l).all fun l=>kz l f)=(bl i (f 0)&&_)
    rw [List.all_flatMap]
    have e2:(fun x=>((ej r).map fun l=>x::l).all fun l=>kz l f)=fun x=>(bl x (f 0)&&kz r fun i=>f (i+1)):=by
      funext x
      rw [← e x,V9];rfl
    rw [e2]
    by_cases c:i=6
    · subst c
      rw [Bb,zs7 (hf 0)]
      show ((bl 0 (f 0)&&_)&&((bl 2 (f 0)&&_)&&true))=_
      cases bl 0 (f 0) <;> cases bl 2 (f 0) <;> simp
    · rw [ye c]
      show ((bl i (f 0)&&_)&&true)=_
      rw [Wk]
theorem Ez:∀{r:List Nat},(∀i∈r,i<7)→∀l∈ej r,l.length=r.length∧∀i∈l,i<6
  | [],_,l,hl=>by
    rcases Tz.mp hl with rfl | hl
    · exact ⟨rfl,fun i h=>nomatch h⟩
    · cases hl
  | i :: r,h,l,hl=>by
    unfold ej at hl
    obtain ⟨x,hx,hl⟩:=List.mem_flatMap.mp hl
    obtain ⟨l',hl',rfl⟩:=Ud.mp hl
    obtain ⟨h1,h2⟩:=Ez (fun j hj=>h j (Ti _ hj)) l' hl'
    refine ⟨by rw [Tl,Tl,h1],fun j hj=>?_⟩
    rcases Tz.mp hj with rfl | hj
    · by_cases c:i=6
      · subst c
        rw [Bb] at hx
        simp at hx;lia
      · rw [ye c] at hx
        have:=h i (Tj ..)
        simp at hx;lia
    · exact h2 j hj
theorem jd(hw:∀i∈w,i<7) (hq:∀i,q=some i→i<7) (i:Nat):bn w q i<7:=by
  unfold bn
  split
  · rename_i c;exact hw _ (o8 w i c)
  · cases q with
    | none=>exact U0 _
    | some z=>exact hq z rfl
theorem zb4(h1:ShOk r m) (h2:ShOk w q):((ej r).all fun l=>al l m w q)=al r m w q:=by
  have e:∀l∈ej r,al l m w q=((!jp r m w q&&l9 m q)&&kz l (bn w q)):=fun l hl=>by
    have hlen:=(Ez h1.row l hl).1
    unfold al ou
    rw [Cl,Yd]
    congr 2
    unfold jp
    rw [hlen]
  have e3:al r m w q=((!jp r m w q&&l9 m q)&&kz r (bn w q)):=by
    unfold al ou
    rw [Cl,Yd]
  rw [e3,← Mn r _ h1.row (jd h2.row h2.more)]
  have e4:((ej r).all fun l=>al l m w q)=(ej r).all fun l=>((!jp r m w q&&l9 m q)&&kz l (bn w q)):=by
    rw [Wa,Ui,Ui]
    exact ⟨fun h l hl=>by rw [← e l hl];exact h l hl,fun h l hl=>by rw [e l hl];exact h l hl⟩
  rw [e4]
  cases hb:(!jp r m w q&&l9 m q) with
  | true=>simp
  | false=>
    rw [U6]
    cases hc:ej r with
    | nil=>
      exact absurd hc (E3 r)
    | cons a l=>rfl
end
end
section
noncomputable def Aq:Str:=⟨#[99,97,115,101]⟩
noncomputable def wq:Str:=⟨#[115,101,97,114,99,104]⟩
noncomputable def na(σ:Sto) (F:Int):Sto:=ah (ah (push σ (.obj 345 [] [])) σ.next (.obj 345 [cj] [KINDS])) σ.next (SO F)
noncomputable def xm(σ:Sto):Sto:=ah (ah (push (push σ (.obj 207 [] [])) (.dct [] [])) σ.next (.obj 207 [oh] [.ref (σ.next+1)])) σ.next (.obj 207 [oh,vc] [.ref (σ.next+1),.int 0])
section
variable {c:Nat→Option (Nat×(List V→Option V))}{fre:Nat→Bool}{o:Nat}{F:Int}{a x:V}{St:V→List (List V)→Prop}{b:Bool}{k:Nat}
theorem newSr_gr:Gr σ (na σ F):=⟨T3 _,fun k hk=>(wt (by exact Uz ‹_›)).trans (cg hk)⟩
theorem Ka:ab (na σ F) σ.next=some (SO F):=bv (bv bg)
theorem newS0_gr:Gr σ (xm σ):=⟨by show σ.next≤σ.next+1+1;lia,fun k hk=>(wt (by exact Uz ‹_›)).trans ((cg (by show k<σ.next+1;exact lb ‹_›)).trans (cg hk))⟩
theorem newS0_sd:Sd (xm σ) σ.next:=⟨⟨σ.next+1,bv (bv ((cg (Tr _)).trans bg)),(wt (by lia)).trans bg,by show σ.next+1<σ.next+1+1;exact Tr _⟩,by show σ.next<σ.next+1+1;exact T3 _⟩
theorem zbc(hk:c 270=none) (hN:30≤N) (ho:ab σ o=some (.obj 345 [] [])):(run (Pc c fre) N).call 270 [.ref o,KINDS,.int F] σ=some (.none,ah (ah σ o (.obj 345 [cj] [KINDS])) o (SO F)):=by
  obtain ⟨n,rfl⟩:=Tg hN
  exact j2 (fd:=Ry) rfl (ay hk) rfl (ci rfl (j0 rfl (au rfl rfl rfl) (th (au rfl rfl rfl) ho rfl rfl)) (ch (ci rfl (j0 rfl (au rfl rfl rfl) (th (au rfl rfl rfl) (bv ho) rfl rfl)) (ch (g8 rfl))))) rfl
theorem zby(hk:c 270=none) (hN:40≤N):(run (Pc c fre) N).new 345 [KINDS,.int F] σ=some (.ref σ.next,na σ F):=by
  obtain ⟨n,rfl⟩:=Tg hN
  exact D9 rfl (zbc hk (by lia) bg)
theorem zd3(hk:c 155=none) (hN:40≤N):(run (Pc c fre) N).new 207 [] σ=some (.ref σ.next,xm σ):=by
  obtain ⟨n,rfl⟩:=Tg hN
  exact D9 rfl (zbm (n:=n+9) hk bg (Tr _))
noncomputable def fT(s:Stmt):Expr:=@U1 (fun J=>Expr) s (fun J J J J J J J J J J=>default) (fun J J J J J J J J J J=>default) (fun J J J J J J J J J J J=>default) (fun J J=>default) (fun J J=>default) (fun J J J=>default) (fun J J J J J J J=>default) (fun J J J J=>default) (fun J J J J J=>default) (fun t J J J J=>t) (fun J J J J J=>default) (fun J J J J=>default) (fun J J J J=>default) (fun J J J=>default) (fun J J J=>default) (fun J J J=>default) (fun J J J=>default) (fun J J J J J=>default) (fun J J J J J=>default) (fun J J J=>default) (fun J J=>default) (fun J J J J=>default) (fun J J=>default) (fun J J=>default) (fun J J=>default) (fun J=>default) (fun J=>default) (fun J=>default)
noncomputable def sB:List Stmt:=wB (ai f383.body 1)
noncomputable def yx(b:Bool):Fl:=if b then .next else .ret (.bool false)
theorem zhl(hk:c 155=none) (hk2:c 162=none) (hk3:c 284=none) (hk4:c 337=none) (hk5:c 277=none) (hk6:c 270=none) (hst:jr (Pc c fre) St) (h1:ae cj ρ=some KINDS) (h2:ae nw ρ=some a) (h3:ae vg ρ=some (.int F)) (h4:ae Aq ρ=some x) (h:Rn St [[gv x a]] b k) (hF:(k:Int)<F) (hN:2 * k+240≤N) :
    ∃σ',(run (Pc c fre) N).exs f383.scope sB ρ σ=some (yx b,ac wq (.ref σ.next) ρ,σ'):=by
  obtain ⟨n,rfl⟩:∃n,N=n+20:=⟨N-20,by exact j8 ‹_› (by decide)⟩
  have g1:Gr (na σ F) (push (na σ F) (.lst [gv x a])):=Gr.push _ _
  have g2:=g1.trans (newS0_gr (σ:=push (na σ F) (.lst [gv x a])))
  obtain ⟨v,σ',hr,hv,_⟩:=Kq (K:=[]) (N:=n+14) (σ:=xm (push (na σ F) (.lst [gv x a]))) (s:=σ.next) (l:=σ.next+1) (d:=σ.next+2) hk hk2 hk3 hk4 hk5 hst h (by simp) ((g2.same _ (Tr _)).trans Ka) (Tn (Tr _) g2.le) ((newS0_gr.same _ (Tr _)).trans bg) (by show σ.next+1<σ.next+1+1+1+1;lia) newS0_sd hF (by exact yj ‹_› (by decide)) (fun p hp=>nomatch hp)
  have hs:ae wq (ac wq (.ref σ.next) ρ)=some (.ref σ.next):=eq ..
  refine ⟨σ',ci rfl (j0 rfl (E7 rfl (tm rfl rfl) rfl (cc (au rfl rfl h1) (cc (au rfl rfl h3) dl)) (zby hk6 (by exact A6 ‹_› (by decide)))) (cu rfl)) (ch (ci (fl:=yx b) (ρ1:=ac wq (.ref σ.next) ρ) (σ1:=σ') rfl (m8 (ji rfl (lu (wo rfl (au rfl rfl hs) (dx Ka) rfl rfl rfl (cc (zv (cc (Ep (cc (ge rfl) (cc (au rfl rfl ((dk _ _ (by decide +kernel)).trans h4)) (cc (au rfl rfl ((dk _ _ (by decide +kernel)).trans h2)) dl))) rfl) dl) rfl) (cc (E7 rfl (tm rfl rfl) rfl dl (zd3 hk (by exact A6 ‹_› (by decide)))) dl)) hr) (ge rfl) hv)) ?c) ?d))⟩
  case c=>
    cases b with
    | true=>exact qr rfl (g8 rfl)
    | false=>exact nr rfl (i4 rfl (lx (ge rfl)))
  case d=>
    cases b with
    | true=>exact ch (g8 rfl)
    | false=>exact zi
theorem Kr(hk:c 155=none) (hk2:c 162=none) (hk3:c 284=none) (hk4:c 337=none) (hk5:c 277=none) (hk6:c 270=none) (hst:jr (Pc c fre) St) (ok:V→Bool):∀(items:List V) {ρ:Loc}{σ:Sto}{N:Nat},ae cj ρ=some KINDS→ae nw ρ=some a→ae vg ρ=some (.int F)→(∀x∈items,∃k,k≤62∧Rn St [[gv x a]] (ok x) k)→62<F→370+items.length≤N→
    ∃ρ' σ',(run (Pc c fre) N).fo f383.scope (fT (ai f383.body 1)) (.items items) sB ρ σ=some (yx (items.all ok),ρ',σ')
  | [],ρ,σ,N,_,_,_,_,_,hN=>by
    obtain ⟨n,rfl⟩:∃n,N=n+1:=⟨N-1,by exact im ‹_› (by decide)⟩
    exact ⟨_,_,lq rfl⟩
  | x :: r,ρ,σ,N,h1,h2,h3,h4,hF,hN=>by
    obtain ⟨n,rfl⟩:∃n,N=n+1:=⟨N-1,by exact im ‹_› (by decide)⟩
    obtain ⟨n',rfl⟩:∃m,n=m+1:=⟨n-1,by exact znr ‹_› (by decide)⟩
    obtain ⟨k,hkk,hr⟩:=h4 x (Tj ..)
    rw [Tl] at hN
    have l1:ae cj (ac Aq x ρ)=some KINDS:=(dk _ _ (by decide +kernel)).trans h1
    have l2:ae nw (ac Aq x ρ)=some a:=(dk _ _ (by decide +kernel)).trans h2
    have l3:ae vg (ac Aq x ρ)=some (.int F):=(dk _ _ (by decide +kernel)).trans h3
    obtain ⟨σ1,e1⟩:=zhl (N:=n' + 1) (σ:=σ) hk hk2 hk3 hk4 hk5 hk6 hst l1 l2 l3 (eq ..) hr (by lia) (by lia)
    cases hb:ok x with
    | false=>
      rw [hb] at e1
      rw [Vb,hb,U6]
      exact ⟨_,_,Af rfl (cu rfl) e1⟩
    | true=>
      rw [hb] at e1
      rw [Vb,hb,Vd]
      obtain ⟨ρ2,σ2,e2⟩:=Kr hk hk2 hk3 hk4 hk5 hk6 hst ok r (N:=n' + 1) (σ:=σ1) ((dk (x:=wq) _ _ (by decide +kernel)).trans l1) ((dk _ _ (by decide +kernel)).trans l2) ((dk _ _ (by decide +kernel)).trans l3) (fun y hy=>h4 y (Ti _ hy)) hF (by exact jk ‹_›)
      exact ⟨_,_,ku rfl (cu rfl) e1 e2⟩
theorem zgq(hk:c 155=none) (hk2:c 162=none) (hk3:c 284=none) (hk4:c 337=none) (hk5:c 277=none) (hk6:c 270=none) (hk7:c 383=none) (hst:jr (Pc c fre) St) (ok:V→Bool) {items:List V}{o:V}{t:Bool}(ht:bo σ .Eq o a=some t) (htk:t=true→items.all ok=true)
    (hlc:∀N,102≤N→(run (Pc c fre) N).call 235 [o] σ=some (.lst items,σ)) (h4:∀x∈items,∃k,k≤62∧Rn St [[gv x a]] (ok x) k) (hl:items.length≤10) (hN:400≤N):∃σ',(run (Pc c fre) N).call 383 [KINDS,o,a] σ=some (.bool (items.all ok),σ'):=by
  obtain ⟨n,rfl⟩:=Tg hN
  have b0:og f383.names [KINDS,o,a] f383.dflts=some [(cj,KINDS),(nf,o),(nw,a),(vg,.int 4000)]:=rfl
  cases t with
  | true=>
    rw [htk rfl]
    exact ⟨_,j2 (fd:=f383) rfl (ay hk7) b0 (i4 rfl (m8 (ji rfl (lu (au rfl rfl rfl) (au rfl rfl rfl) ht)) (nr rfl (i4 rfl (lx (ge rfl)))))) rfl⟩
  | false=>
    obtain ⟨ρ',σ',e⟩:=Kr (N:=n+396) (ρ:=[(cj,KINDS),(nf,o),(nw,a),(vg,.int 4000)]) (σ:=σ) hk hk2 hk3 hk4 hk5 hk6 hst ok items rfl rfl rfl h4 (by decide) (by exact vh ‹_› (by decide))
    refine ⟨σ',j2 (fd:=f383) (fl:=.ret (.bool (items.all ok))) (ρ1:=ρ') rfl (ay hk7) b0 (ci rfl (m8 (ji rfl (lu (au rfl rfl rfl) (au rfl rfl rfl) ht)) (qr rfl (g8 rfl))) (ch (ci rfl (u8 (d9 rfl (zt rfl (tm rfl rfl) rfl (cc (au rfl rfl rfl) dl) (hlc _ (by lia))) rfl) e) ?g))) rfl⟩
    cases items.all ok with
    | false=>exact zi
    | true=>exact ch (i4 rfl (lx (ge rfl)))
end
end
end Mine
end
section
open PySem PySem.W
set_option maxHeartbeats 4000000
namespace Mine
section
theorem zjs{g:V}{t:Bool}{c d:Nat}(h:Good StP d [g] t c) (hd:d≤100):∃k,k≤c∧Rn StP [[g]] t k:=by
  obtain ⟨n,h1,h2⟩:=h.2 [] false 0 (by simpa using hd) .nil
  rw [Bool.or_false] at h2
  exact ⟨n,by lia,h2⟩
section
variable {r:List Nat}{m:Option Nat}{w:List Nat}{q:Option Nat}
theorem Rp(h1:SgOk r m) (h2:SgOk w q):∃k,k≤62∧Rn StP [[gv (sg r m) (sg w q)]] (al r m w q) k:=by
  have:=zjs (zh6 h1 h2) (by decide)
  rwa [zc1 h1.toShOk] at this
theorem zjl{P:PD}(hf:P.fn 235=some Sn) (hc:P.con 235=some (100,af Pg 100 235)) (h:SgOk r m) (hN:102≤N):(run P N).call 235 [sg r m] σ=some (.lst ((ej r).map fun l=>sg l m),σ):=km hf hc (Pls.cons (db h.toShOk) Pls.nil).rf (zdr h) hN
theorem Cv(h:ShOk r m):∀l∈ej r,SgOk l m:=fun l hl=>by
  obtain ⟨h1,h2⟩:=Ez h.row l hl
  exact ⟨⟨by rw [h1];exact h.len,fun i hi=>U5 (h2 i hi),h.more⟩,.inr h2⟩
theorem Mc:∀r:List Nat,(ej r).length≤2 ^ r.length
  | []=>To _
  | i::r=>by
    have ih:=Mc r
    unfold ej
    rw [Tl,Nat.pow_succ]
    by_cases c:i=6
    · subst c;rw [Bb];simp;lia
    · rw [ye c];simp;lia
noncomputable def Bl(v:V) (f:List Nat→Option Nat→Bool):Bool:=(ao (zan v) fun r m=>some (f r m)).getD false
theorem Ex{r:List Nat}{m:Option Nat}(h:SgOk r m) (f:List Nat→Option Nat→Bool):Bl (sg r m) f=f r m:=by unfold Bl;rw [zjz h];rfl
noncomputable def B2(w:List Nat) (q:Option Nat) (v:V):Bool:=Bl v fun r m=>al r m w q
theorem zm4(h1:SgOk r m) (h2:SgOk w q) (hN:400≤N):∃σ',(run Pk N).call 383 [KINDS,sg r m,sg w q] σ=some (.bool (al r m w q),σ'):=by
  have hall:((ej r).map fun l=>sg l m).all (B2 w q)=al r m w q:=by
    rw [← zb4 h1.toShOk h2.toShOk,V9]
    refine Wa.mpr ?_
    rw [Ui,Ui]
    have e:∀l∈ej r,(B2 w q ∘ fun l=>sg l m) l=al l m w q:=fun l hl=>by
      exact Ex (Cv h1.toShOk l hl) _
    exact ⟨fun h l hl=>by rw [← e l hl];exact h l hl,fun h l hl=>by rw [e l hl];exact h l hl⟩
  have hp:2 ^ r.length≤8:=Yk (by decide) h1.len
  obtain ⟨σ',e⟩:=zgq (c:=Pk.con) (fre:=Pk.fre) (N:=N) (σ:=σ) (a:=sg w q) (o:=sg r m) (items:=(ej r).map fun l=>sg l m) (by kernel_rfl) (by kernel_rfl) (by kernel_rfl) (by kernel_rfl) (by kernel_rfl) (by kernel_rfl) (by kernel_rfl) zf3 (B2 w q) (xy h1.toShOk h2.toShOk σ) (fun h=>by
      obtain ⟨rfl,rfl⟩:=of_decide_eq_true h
      rw [hall];exact zh h1.toShOk) (fun N hN=>zjl (P:=Pk) rfl (by kernel_rfl) h1 hN) (fun x hx=>by
      obtain ⟨l,hl,rfl⟩:=Ud.mp hx
      have:=Rp (Cv h1.toShOk l hl) h2
      rwa [show B2 w q (sg l m)=al l m w q from Ex (Cv h1.toShOk l hl) _]) (by rw [Tm];have:=Mc r;exact m5 ‹_› ‹_› (by decide)) hN
  rw [hall] at e
  exact ⟨σ',e⟩
end
theorem zis:(i77.map fun p=>af Pk 400 383 [KINDS,kd p.1,kd p.2])=i77.map fun p=>some (.bool (bl p.1 p.2)):=by kernel_rfl
noncomputable def yo:List V→Option V
  | [k,a,b]=>if (ni a).isSome&&(ni b).isSome then ob (ni a) fun i=>ob (ni b) fun j=>if same k KINDS then some (.bool (bl i j)) else none else af Pk 400 383 [k,a,b]
  | _=>none
theorem zpl:∀args v,yo args=some v→af Pk 400 383 args=some v
  | [k,a,b],v,e=>cq e (fun J e=>ad e fun i h1 e=>ad e fun j h2 e=>bc e fun h3 e=>by
      rw [(ut h1).1,(ut h2).1,Dr _ _ h3,← e]
      exact (T4.mp zis (i,j) (j5 (lt7 (ut h1).2) (lt7 (ut h2).2)) :)) fun J e=>e
  | [],_,e=>aa e
  | [_],_,e=>aa e
  | [_,_],_,e=>aa e
  | _::_::_::_::_,_,e=>aa e
noncomputable def Pm:PD:=Pk.put 383 400 yo
theorem zii(r:List Nat) (m:Option Nat):ni (sg r m)=none:=by kernel_rfl
theorem cSub_sg{r w:List Nat}{m q:Option Nat}:yo [KINDS,sg r m,sg w q]=af Pk 400 383 [KINDS,sg r m,sg w q]:=by
  unfold yo;dsimp only;rw [zii];rfl
theorem zik{r:List Nat}{m:Option Nat}{w:List Nat}{q:Option Nat}(h1:SgOk r m) (h2:SgOk w q):af Pk 400 383 [KINDS,sg r m,sg w q]=some (.bool (al r m w q)):=by
  obtain ⟨σ',e⟩:=zm4 (σ:=⟨0,[]⟩) h1 h2 (To 400)
  unfold af;rw [e];rfl
end
end Mine
end
section
open PySem PySem.W
set_option maxHeartbeats 400000
namespace Mine
theorem ze9{P:PD}(h1:P.fn 291=some Bi) (h2:P.con 291=some (134,ip Pj 134 291)) (h3:P.fre 291=true):jr P StP:=fun g ws hg n σ s d F hs hd=>by
  refine te (fd:=Bi) (k:=134) (g:=ip Pj 134 291) (args':=[sh F,g,SIDES]) h1 h2 rfl ?_ (hg.2 F) (.inr h3) (by lia)
  exact ca (N5 hs 194) (ca (hg.1.fz σ (by decide)) (ca (Ko hd 189) rfl))
noncomputable def zrt:Str:=⟨#[115,105,103]⟩
noncomputable def E2:Str:=⟨#[110,97,109,101,115]⟩
noncomputable def zkh:Str:=⟨#[116,97,98,108,101]⟩
noncomputable def sM:Sto:=push (push (xm ⟨0,[]⟩) (.lst [])) (.lst [])
theorem zhp:jr (Pc Pm.con Pm.fre) StP:=ze9 rfl (by kernel_rfl) (by kernel_rfl)
noncomputable def zsv(t:Bool) (σ:Sto):V:=if t then .ref σ.next else .none
theorem za5{o:V}{w:List Nat}{q:Option Nat}{t:Bool}{k:Nat}(h:Rn StP [[gv o (sg w q)]] t k) (hk:k≤62):∃σ',(run Pm 400).call 396 [KINDS,o,sg w q] ⟨0,[]⟩=some (zsv t σ',push σ' (.dct [] []))∨(t=false∧(run Pm 400).call 396 [KINDS,o,sg w q] ⟨0,[]⟩=some (.none,σ')):=by
  have z1:ab (na sM 4000) 3=some (.lst []):=rfl
  have g3:Gr (na sM 4000) (push (push (na sM 4000) (.lst [gv o (sg w q)])) (.lst ([]++[gv o (sg w q)]))):=(Gr.push _ _).trans (Gr.push _ _)
  obtain ⟨v,σ',hr,hv,hK⟩:=Kq (c:=Pm.con) (fre:=Pm.fre) (K:=[(2,.lst [])]) (N:=393) (σ:=push (push (na sM 4000) (.lst [gv o (sg w q)])) (.lst ([]++[gv o (sg w q)]))) (s:=4) (l:=6) (d:=0) (F:=4000) (by kernel_rfl) (by kernel_rfl) (by kernel_rfl) (by kernel_rfl) (by kernel_rfl) zhp h (by simp) rfl (by show 4<7;decide) rfl (by show 6<7;decide) (newS0_sd.mono (((Gr.push _ _).trans (Gr.push _ _)).trans (newSr_gr.trans g3))) (by exact ztg ‹_› (by decide)) (by exact zt9 ‹_› (by decide)) (fun p hp=>by
    rcases Tz.mp hp with rfl | hp
    · exact ⟨rfl,by show 2<7;decide,by decide⟩
    · cases hp)
  obtain ⟨kp1,kp2⟩:=hK _ (Tj ..)
  dsimp only at kp1 kp2
  refine ⟨σ',?_⟩
  cases t with
  | false=>exact .inr ⟨rfl,ce (ay (by kernel_rfl)) [iu hr,aq (vis hv)] (by kernel_rfl)⟩
  | true=>
    have kp3:ab (push σ' (.dct [] [])) 2=some (.lst []):=(cg kp2).trans kp1
    exact .inl (ce (ay (by kernel_rfl)) [iu hr,aq (vis hv),yy (je kp3),tne (tu (i:=0) kp3 rfl)] (by kernel_rfl))
noncomputable def mV(t:Bool):V:=if t then .dct [] [] else .none
theorem zbj{r:List Nat}{m:Option Nat}{w:List Nat}{q:Option Nat}(h1:SgOk r m) (h2:SgOk w q):af Pm 400 396 [KINDS,sg r m,sg w q]=some (mV (al r m w q)):=by
  obtain ⟨k,hk,hr⟩:=Rp h1 h2
  obtain ⟨σ',e | ⟨ht,e⟩⟩:=za5 hr hk
  · unfold af;rw [e]
    cases al r m w q with
    | false=>rfl
    | true=>exact xa (n:=199) (l:=[]) bg rfl
  · unfold af;rw [e,ht];rfl
noncomputable def Pn:PD:=Pm.put 396 400 (af Pm 400 396)
section
section
variable {r w:List Nat}{m q:Option Nat}
theorem vf{l:List V}(h:gx l=true):gx (KINDS::l)=true:=h
theorem zq(hf:P.fn 383=some f383) (hc:P.con 383=some (400,yo)) (h1:SgOk r m) (h2:SgOk w q) (hN:402≤N):(run P N).call 383 [KINDS,sg r m,sg w q] σ=some (.bool (al r m w q),σ):=by
  obtain ⟨n,rfl⟩:=Tg hN
  exact ii hf hc (vf (Pls.cons (db h1.toShOk) (Pls.cons (db h2.toShOk) Pls.nil)).rf) (cSub_sg.trans (zik h1 h2)) (Vo ..)
end
section
variable {r w:List Nat}{m q:Option Nat}
theorem M5(h1:SgOk r m) (h2:SgOk w q) (hN:402≤N):(run Pn N).call 383 [KINDS,sg r m,sg w q] σ=some (.bool (al r m w q),σ):=zq rfl (by kernel_rfl) h1 h2 hN
theorem zz{i:Nat}{xs:List V}(h:ab σ i=some (.lst xs)) (hz:sz xs=true):blt σ (.builtin "len") [.ref i]=some (.int xs.length,σ):=by
  have e:sd σ (.ref i)=some ((xs.length:Nat):Int):=cm (c:=(jx σ (.ref i)).isSome) (by rw [show jx σ (.ref i)=some xs from dj h];rfl) (aj (x:=jx σ (.ref i)) (dj h) (cm hz rfl))
  rw [Cb,e];rfl
theorem zdj(h1:SgOk r m) (h2:SgOk w q):∃σ',(run Pn 420).call 559 [KINDS,sg r m,sg w q] σ=some (.bool (eu r m w q),σ'):=by
  unfold eu
  have c1:∀N σ,402≤N→(run Pn N).call 383 [KINDS,sg r m,sg w q] σ=some (.bool (al r m w q),σ):=fun N σ h=>M5 h1 h2 h
  have c2:∀N σ,402≤N→(run Pn N).call 383 [KINDS,sg w q,sg r m] σ=some (.bool (al w q r m),σ):=fun N σ h=>M5 h2 h1 h
  cases e1:al r m w q with
  | false=>rw [e1] at c1;exact eh (ay (by kernel_rfl)) [ap c1] (by kernel_rfl)
  | true=>
    rw [e1] at c1
    cases e2:al w q r m with
    | false=>rw [e2] at c2;exact eh (ay (by kernel_rfl)) [ap c1,ap c2] (by kernel_rfl)
    | true=>rw [e2] at c2;exact eh (ay (by kernel_rfl)) [ap c1,ap c2,ki (zz (σ:=push σ (.lst [])) bg rfl),ki (zz (σ:=push (push σ (.lst [])) (.lst [])) bg rfl)] (by kernel_rfl)
theorem Kx(h1:SgOk r m) (h2:SgOk w q):af Pn 420 559 [KINDS,sg r m,sg w q]=some (.bool (eu r m w q)):=by
  obtain ⟨σ',e⟩:=zdj (σ:=⟨0,[]⟩) h1 h2
  unfold af;rw [e];rfl
end
noncomputable def Po:PD:=Pn.put 559 420 (af Pn 420 559)
section
variable {r w:List Nat}{m q:Option Nat}
theorem Oe(h1:SgOk r m) (h2:SgOk w q) (hN:402≤N):(run Po N).call 383 [KINDS,sg r m,sg w q] σ=some (.bool (al r m w q),σ):=zq rfl (by kernel_rfl) h1 h2 hN
theorem zeq(h1:SgOk r m) (h2:SgOk w q):(run Po 420).call 390 [KINDS,sg r m,sg w q] σ=some (.bool (decide (r=w∧m=q)||(al r m w q&&al w q r m)),σ):=by
  have c1:∀N σ,402≤N→(run Po N).call 383 [KINDS,sg r m,sg w q] σ=some (.bool (al r m w q),σ):=fun N σ h=>Oe h1 h2 h
  have c2:∀N σ,402≤N→(run Po N).call 383 [KINDS,sg w q,sg r m] σ=some (.bool (al w q r m),σ):=fun N σ h=>Oe h2 h1 h
  have c0:=xy h1.toShOk h2.toShOk
  cases e0:decide (r=w∧m=q) with
  | true=>rw [e0] at c0;exact ce (ay (by kernel_rfl)) [aq c0] (by kernel_rfl)
  | false=>
    rw [e0] at c0
    cases e1:al r m w q with
    | false=>rw [e1] at c1;exact ce (ay (by kernel_rfl)) [aq c0,ap c1] (by kernel_rfl)
    | true=>rw [e1] at c1;exact ce (ay (by kernel_rfl)) [aq c0,ap c1,ap c2] (by kernel_rfl)
theorem zg3(h1:SgOk r m) (h2:SgOk w q):af Po 420 390 [KINDS,sg r m,sg w q]=some (.bool (al r m w q&&al w q r m)):=by
  have e:(decide (r=w∧m=q)||(al r m w q&&al w q r m))=(al r m w q&&al w q r m):=by
    by_cases he:r=w∧m=q
    · obtain ⟨rfl,rfl⟩:=he
      rw [zh h1.toShOk];simp
    · rw [decide_eq_false he,Vc]
  unfold af;rw [zeq h1 h2,e];rfl
end
noncomputable def Pq:PD:=Po.put 390 420 (af Po 420 390)
end
section
noncomputable def pv:Str:=⟨#[115,105,103,115]⟩
noncomputable def bu:Str:=⟨#[97,116]⟩
noncomputable def xv:Str:=⟨#[115,112,111,116]⟩
noncomputable def t8:Str:=⟨#[104,101,108,100]⟩
noncomputable def yh(xs:List V) (i:Nat):V:=xs.getD i .none
theorem Km:∀(xs:List V) (i:Nat),i<xs.length→dr xs i=some (yh xs i)
  | _::_,0,_=>rfl
  | _::r,i+1,h=>Km r i (Tx h)
noncomputable def fj(lo n:Nat):List V:=(T6 lo n).map fun (i:Nat)=>V.int (i:Int)
theorem wb(lo n:Nat):fj lo (n+1) = .int lo::fj (lo+1) n:=by
  unfold fj
  rw [U2,T5]
section
variable {c:Nat→Option (Nat×(List V→Option V))}{fre:Nat→Bool}{xs:List V}{bt:Nat→Nat→Bool}{i h:Nat}
def uj (P:PD) (xs:List V) (bt:Nat→Nat→Bool):Prop:=∀i j,i<xs.length→j<xs.length→∀N σ,422≤N→(run P N).call 559 [KINDS,yh xs i,yh xs j] σ=some (.bool (bt i j),σ)
theorem zc(hx:xs.length≤100) (hi:i<xs.length):di σ (.lst xs) (.int i)=some (yh xs i):=by rw [wj hi (by exact Th ‹_› (by decide)),Km _ _ hi]
noncomputable def fl3(b:Bool):Fl:=if b then .ret (.bool false) else .next
theorem zcp{j:Nat}(hb:uj (Pc c fre) xs bt) (hx:xs.length≤100) (hi:i<xs.length) (hj:j<xs.length) (h1:ae cj ρ=some KINDS) (h2:ae pv ρ=some (.lst xs)) (h3:ae bu ρ=some (.int i)) (h4:ae xv ρ=some (.int j)) (hN:440≤N) :
    (run (Pc c fre) N).exs f566.scope (wB (ai f566.body 0)) ρ σ=some (fl3 (!decide (j=i) && !bt i j),ρ,σ):=by
  obtain ⟨n,rfl⟩:=Tg hN
  have hne:bo σ .NotEq (.int j) (.int i)=some (!decide (j=i)):=by
    show some (!decide ((j:Int)=i))=_
    congr 2;exact decide_eq_decide.mpr Xl
  refine ci (fl:=fl3 (!decide (j=i) && !bt i j)) (ρ1:=ρ) (σ1:=σ) rfl (m8 (lp (wp (ji rfl (lu (au rfl rfl h4) (au rfl rfl h3) hne)) (mr (Mx (ji rfl (zt rfl (tm rfl rfl) rfl (cc (au rfl rfl h1) (cc (wz rfl (au rfl rfl h2) (au rfl rfl h3) (zc hx hi)) (cc (wz rfl (au rfl rfl h2) (au rfl rfl h4) (zc hx hj)) dl))) (hb i j hi hj _ _ (by lia)))))))) ?a) ?b
  case a=>
    cases (!decide (j=i) && !bt i j) with
    | true=>exact nr rfl (i4 rfl (lx (ge rfl)))
    | false=>exact qr rfl (g8 rfl)
  case b=>
    cases (!decide (j=i) && !bt i j) with
    | true=>exact zi
    | false=>exact ch (g8 rfl)
theorem Jc (hb:uj (Pc c fre) xs bt) (hx:xs.length≤100) (hi:i<xs.length):∀(k lo:Nat) {ρ:Loc}{N:Nat},lo+k=xs.length→ae cj ρ=some KINDS→ae pv ρ=some (.lst xs)→ae bu ρ=some (.int i)→442+k≤N→
    ∃ρ',(run (Pc c fre) N).fo f566.scope (fT (ai f566.body 0)) (.items (fj lo k)) (wB (ai f566.body 0)) ρ σ=some (yx ((T6 lo k).all fun j=>decide (j=i)||bt i j),ρ',σ)
  | 0,lo,ρ,N,hk,h1,h2,h3,hN=>by
    obtain ⟨n,rfl⟩:∃n,N=n+1:=⟨N-1,by exact im ‹_› (by decide)⟩
    exact ⟨_,lq rfl⟩
  | k + 1,lo,ρ,N,hk,h1,h2,h3,hN=>by
    obtain ⟨n,rfl⟩:∃n,N=n+2:=⟨N-2,by exact im ‹_› (by decide)⟩
    have l1:ae cj (ac xv (.int lo) ρ)=some KINDS:=(dk _ _ (by decide +kernel)).trans h1
    have l2:ae pv (ac xv (.int lo) ρ)=some (.lst xs):=(dk _ _ (by decide +kernel)).trans h2
    have l3:ae bu (ac xv (.int lo) ρ)=some (.int i):=(dk _ _ (by decide +kernel)).trans h3
    have e1:=zcp (N:=n+1) (σ:=σ) hb hx hi (j:=lo) (by exact ub ‹_›) l1 l2 l3 (eq ..) (by exact p8 ‹_› (by decide))
    rw [wb,U2,Vb]
    cases hc:(!decide (lo=i) && !bt i lo) with
    | true=>
      rw [hc] at e1
      have hc2:(decide (lo=i)||bt i lo)=false:=by
        cases h1:decide (lo=i) <;> cases h2:bt i lo <;> rw [h1,h2] at hc <;> first | rfl | cases hc
      rw [hc2,U6]
      exact ⟨_,Af rfl (cu rfl) e1⟩
    | false=>
      rw [hc] at e1
      have hc2:(decide (lo=i)||bt i lo)=true:=by
        cases h1:decide (lo=i) <;> cases h2:bt i lo <;> rw [h1,h2] at hc <;> first | rfl | cases hc
      rw [hc2,Vd]
      obtain ⟨ρ',e2⟩:=Jc hb hx hi k (lo+1) (N:=n+1) (by exact oq ‹_›) l1 l2 l3 (by exact jk ‹_›)
      exact ⟨_,ku rfl (cu rfl) e1 e2⟩
noncomputable def ia(bt:Nat→Nat→Bool) (n i:Nat):Bool:=(T6 0 n).all fun j=>decide (j=i)||bt i j
theorem zb8(hk:c 566=none) (hb:uj (Pc c fre) xs bt) (hx:xs.length≤10) (hi:i<xs.length) (hN:460≤N):(run (Pc c fre) N).call 566 [KINDS,.lst xs,.int i] σ=some (.bool (ia bt xs.length i),σ):=by
  obtain ⟨n,rfl⟩:=Tg hN
  obtain ⟨ρ',e⟩:=Jc (σ:=σ) (N:=n+457) (ρ:=[(cj,KINDS),(pv,.lst xs),(bu,.int i)]) hb (by exact Th ‹_› (by decide)) hi xs.length 0 (by exact oj) rfl rfl rfl (by exact vh ‹_› (by decide))
  refine j2 (fd:=f566) (fl:=.ret (.bool (ia bt xs.length i))) (ρ1:=ρ') rfl (ay hk) rfl (ci rfl (u8 (d9 rfl (tt rfl (tn rfl rfl rfl) (fun a h=>by cases h) (cc (tt rfl (tn rfl rfl rfl) (fun a h=>by cases h) (cc (au rfl rfl rfl) dl) (qw (by exact Th ‹_› (by decide)))) dl) rfl) (mo (by exact Th ‹_› (by decide)))) e) ?g) rfl
  show Bj (yx (ia bt xs.length i)) _ _ _=_
  cases ia bt xs.length i with
  | false=>exact zi
  | true=>exact ch (i4 rfl (lx (ge rfl)))
end
end
section
noncomputable def fc(bt:Nat→Nat→Bool):Nat→Nat→Nat→Nat
  | _,0,h=>h
  | lo,k+1,h=>fc bt (lo+1) k (if bt h lo then h else lo)
section
variable {c:Nat→Option (Nat×(List V→Option V))}{fre:Nat→Bool}{xs:List V}{bt:Nat→Nat→Bool}{i h:Nat}
theorem zc3{j:Nat}(hb:uj (Pc c fre) xs bt) (hx:xs.length≤100) (hi:i<xs.length) (hj:j<xs.length) (h1:ae cj ρ=some KINDS) (h2:ae pv ρ=some (.lst xs)) (h3:ae t8 ρ=some (.int i)) (h4:ae bu ρ=some (.int j)) (hN:440≤N) :
    (run (Pc c fre) N).exs f573.scope (wB (ai f573.body 2)) ρ σ=some (.next,if bt i j then ρ else ac t8 (.int j) ρ,σ):=by
  obtain ⟨n,rfl⟩:=Tg hN
  refine ci rfl (m8 (Mx (ji rfl (zt rfl (tm rfl rfl) rfl (cc (au rfl rfl h1) (cc (wz rfl (au rfl rfl h2) (au rfl rfl h3) (zc hx hi)) (cc (wz rfl (au rfl rfl h2) (au rfl rfl h4) (zc hx hj)) dl))) (hb i j hi hj _ _ (by lia))))) ?a) (ch (g8 rfl))
  case a=>
    cases bt i j with
    | true=>exact qr rfl (g8 rfl)
    | false=>exact nr rfl (ci rfl (j0 rfl (au rfl rfl h4) (cu rfl)) (ch (g8 rfl)))
theorem Ch(hb:uj (Pc c fre) xs bt) (hx:xs.length≤100):∀(k lo h:Nat) {ρ:Loc}{N:Nat},lo+k=xs.length→h<xs.length→ae cj ρ=some KINDS→ae pv ρ=some (.lst xs)→ae t8 ρ=some (.int h)→442+k≤N→
    ∃ρ',(run (Pc c fre) N).fo f573.scope (fT (ai f573.body 2)) (.items (fj lo k)) (wB (ai f573.body 2)) ρ σ=some (.next,ρ',σ)∧ae cj ρ'=some KINDS∧ae pv ρ'=some (.lst xs)∧ae t8 ρ'=some (.int (fc bt lo k h))∧fc bt lo k h<xs.length
  | 0,lo,h,ρ,N,hk,hh,h1,h2,h3,hN=>by
    obtain ⟨n,rfl⟩:∃n,N=n+1:=⟨N-1,by exact im ‹_› (by decide)⟩
    exact ⟨_,lq rfl,h1,h2,h3,hh⟩
  | k + 1,lo,h,ρ,N,hk,hh,h1,h2,h3,hN=>by
    obtain ⟨n,rfl⟩:∃n,N=n+2:=⟨N-2,by exact im ‹_› (by decide)⟩
    have l1:ae cj (ac bu (.int lo) ρ)=some KINDS:=(dk _ _ (by decide +kernel)).trans h1
    have l2:ae pv (ac bu (.int lo) ρ)=some (.lst xs):=(dk _ _ (by decide +kernel)).trans h2
    have l3:ae t8 (ac bu (.int lo) ρ)=some (.int h):=(dk _ _ (by decide +kernel)).trans h3
    have e1:=zc3 (N:=n+1) (σ:=σ) hb hx hh (j:=lo) (by exact ub ‹_›) l1 l2 l3 (eq ..) (by exact p8 ‹_› (by decide))
    rw [wb]
    unfold fc
    cases hc:bt h lo with
    | true=>
      rw [hc,if_pos rfl] at e1
      obtain ⟨ρ',e2,q⟩:=Ch hb hx k (lo+1) h (N:=n+1) (by exact oq ‹_›) hh l1 l2 l3 (by exact jk ‹_›)
      exact ⟨ρ',ku rfl (cu rfl) e1 e2,by rw [if_pos rfl];exact q⟩
    | false=>
      rw [hc,if_neg Ts] at e1
      obtain ⟨ρ',e2,q⟩:=Ch hb hx k (lo+1) lo (N:=n+1) (by exact oq ‹_›) (by exact ub ‹_›) ((dk (x:=t8) (.int lo) _ (by decide +kernel)).trans l1) ((dk _ _ (by decide +kernel)).trans l2) (eq ..) (by exact jk ‹_›)
      exact ⟨ρ',ku rfl (cu rfl) e1 e2,by rw [if_neg Ts];exact q⟩
noncomputable def rt(bt:Nat→Nat→Bool) (n:Nat):V:=if ia bt n (fc bt 1 (n-1) 0) then .int (fc bt 1 (n-1) 0:Nat) else .none
theorem zc9(hk:c 573=none) (hk2:c 566=none) (hb:uj (Pc c fre) xs bt) (hx:xs.length≤10) (h0:0<xs.length) (hN:480≤N):∃σ',(run (Pc c fre) N).call 573 [KINDS,.lst xs] σ=some (rt bt xs.length,σ'):=by
  obtain ⟨n,rfl⟩:=Tg hN
  obtain ⟨x,r,rfl⟩:∃x r,xs=x::r:=by cases xs with
    | nil=>exact absurd h0 (Vk _)
    | cons x r=>exact ⟨x,r,rfl⟩
  have hr:f9 (push σ (.lst [])) (.rng 1 (x::r).length)=some (.items (fj 1 ((x::r).length-1))):=by
    show (if (j4 1&&j4 ((x::r).length:Int))=true then some (It.items (ny 1 (((x::r).length:Int)-1).toNat)) else none)=_
    rw [if_pos (by show (j4 1&&j4 ((x::r).length:Int))=true;rw [Uc];exact ⟨rfl,Ty (by simp at hx ⊢;exact Ue ‹_› (by decide))⟩)]
    have:=Cg ((x::r).length-1) 1
    rw [show (((x::r).length:Int)-1).toNat=(x::r).length-1 by exact Rz]
    exact congrArg (fun l=>some (It.items l)) this
  obtain ⟨ρ',e,q1,q2,q3,q4⟩:=Ch (σ:=push σ (.lst [])) (N:=n+475) (ρ:=[(cj,KINDS),(pv,.lst (x::r)),(t8,.int 0)]) hb (by exact Th ‹_› (by decide)) ((x::r).length-1) 1 0 (by simp;exact Fr ‹_›) h0 rfl rfl rfl (by exact zpd ‹_› (by decide))
  have ha:=fun N hN=>zb8 (σ:=push σ (.lst [])) hk2 hb hx q4 (N:=N) hN
  refine ⟨push σ (.lst []),j2 (fd:=f573) (fl:=.ret (rt bt (x::r).length)) (ρ1:=ρ') rfl (ay hk) rfl (ci rfl (m8 (Dc (au rfl rfl rfl) rfl rfl) (qr rfl (g8 rfl))) (ch (ci rfl (j0 rfl (ge rfl) (cu rfl)) (ch (ci rfl (u8 (d9 rfl (tt rfl (tn rfl rfl rfl) (fun a h=>by cases h) (cc (ge rfl) (cc (tt rfl (tn rfl rfl rfl) (fun a h=>by cases h) (cc (au rfl rfl rfl) dl) (qw (by exact Th ‹_› (by decide)))) dl)) rfl) hr) e) (ch (i4 rfl (lx (xo (ji rfl (zt rfl (tm rfl rfl) rfl (cc (au rfl rfl q1) (cc (au rfl rfl q2) (cc (au rfl rfl q3) dl))) (ha _ (by lia)))) ?g)))))))) ) rfl⟩
  unfold rt
  cases ia bt (x::r).length (fc bt 1 ((x::r).length-1) 0) with
  | true=>exact nr rfl (au rfl rfl q3)
  | false=>exact qr rfl (ge rfl)
end
end
noncomputable def lg(S:List (List Nat×Option Nat)):List V:=S.map fun p=>sg p.1 p.2
noncomputable def av(S:List (List Nat×Option Nat)) (i:Nat):List Nat×Option Nat:=S.getD i ([],none)
theorem kq:∀{S:List (List Nat×Option Nat)}{i:Nat},i<S.length→av S i∈S
  | _::_,0,_=>Tj ..
  | _::r,i+1,h=>Ti _ (kq (S:=r) (Tx h))
theorem Cx:∀{S:List (List Nat×Option Nat)}{i:Nat},i<S.length→yh (lg S) i=sg (av S i).1 (av S i).2
  | _::_,0,_=>rfl
  | _::r,i+1,h=>Cx (S:=r) (Tx h)
noncomputable def ez(S:List (List Nat×Option Nat)) (i j:Nat):Bool:=eu (av S i).1 (av S i).2 (av S j).1 (av S j).2
theorem zkt{P:PD}{S:List (List Nat×Option Nat)}(hf:P.fn 559=some Gf) (hc:P.con 559=some (420,af Pn 420 559)) (hS:∀p∈S,SgOk p.1 p.2):uj P (lg S) (ez S):=fun i j hi hj N σ hN=>by
  unfold lg at hi hj
  rw [Tm] at hi hj
  rw [Cx hi,Cx hj]
  obtain ⟨n,rfl⟩:=Tg hN
  have h1:=hS _ (kq hi)
  have h2:=hS _ (kq hj)
  exact ii hf hc (vf (Pls.cons (db h1.toShOk) (Pls.cons (db h2.toShOk) Pls.nil)).rf) (Kx h1 h2) (by lia)
theorem Ad:∀{P:PD}{f k:Nat}{g:List V→Option V},Pc P.con P.fre=P→Pc (P.put f k g).con (P.put f k g).fre=P.put f k g
  | P,f,k,g,h=>by
    generalize P.con=c at h
    generalize P.fre=d at h
    subst h
    rfl
theorem zsm:Pc Pn.con Pn.fre=Pn:=rfl
theorem zua:Pc Po.con Po.fre=Po:=Ad zsm
theorem Hf:Pc Pq.con Pq.fre=Pq:=Ad zua
theorem zgs{S:List (List Nat×Option Nat)}(hS:∀p∈S,SgOk p.1 p.2) (hl:S.length≤10) (h0:0<S.length):af Pq 480 573 [KINDS,.lst (lg S)]=some (rt (ez S) S.length):=by
  have e0:(lg S).length=S.length:=Tm _
  obtain ⟨σ',e⟩:=zc9 (c:=Pq.con) (fre:=Pq.fre) (σ:=⟨0,[]⟩) (N:=480) (by kernel_rfl) (by kernel_rfl) (by rw [Hf];exact zkt (P:=Pq) rfl (by kernel_rfl) hS) (by exact pu ‹_› ‹_› (by decide)) (by lia) (To _)
  rw [e0] at e
  rw [Hf] at e
  have hb:∀(b:Bool) (k:Nat),fz σ' gt (if b then .int k else .none)=some (if b then .int k else .none):=fun b k=>by cases b <;> rfl
  unfold af;rw [e]
  exact hb _ _
noncomputable def Pr:PD:=Pq.put 573 480 (af Pq 480 573)
theorem zsh:Pc Pr.con Pr.fre=Pr:=Ad Hf
noncomputable def sf(l:List V) (t:V):V:=.tup [.str jf,.tup (fnv::l),t]
noncomputable def xe(a b c:Str) (t:V):List V:=[sf [] t,sf [bb a] t,sf [XZv] t,sf [bb a,bb b] t,sf [bb a,XZv] t,sf [XZv,bb b] t,sf [XZv,XZv] t,sf [bb a,bb b,bb c] t]
noncomputable def w9(a b c d:Str):List V:=xe a b c .none++(xe a b c XZv++xe a b c (bb d))
theorem sx{l:List V}{v:V}(n:Nat) (h:l[n]?=some v):v∈l:=List.mem_of_getElem? h
theorem ze5{r:List Nat}{m:Option Nat}(h:SgOk r m):∃a b c,sg r m∈xe a b c (ko m):=by
  have z:Str:=⟨#[]⟩
  have k6:=ng
  refine Dd (Q:=fun r=>∃a b c,sg r m∈xe a b c (ko m)) h ⟨z,z,z,sx 0 rfl⟩ (fun i hi=>⟨wd i,z,z,sx 1 ?_⟩) ⟨z,z,z,sx 2 ?_⟩ (fun i j hi hj=>⟨wd i,wd j,z,sx 3 ?_⟩) (fun i hi=>⟨wd i,z,z,sx 4 ?_⟩) (fun j hj=>⟨z,wd j,z,sx 5 ?_⟩) ⟨z,z,z,sx 6 ?_⟩ fun i j k hi hj hk=>⟨wd i,wd j,wd k,sx 7 ?_⟩
  · show _=some (sf [kd i] (ko m))
    rw [fb hi];rfl
  · show _=some (sf [kd 6] (ko m))
    rw [k6];rfl
  · show _=some (sf [kd i,kd j] (ko m))
    rw [fb hi,fb hj];rfl
  · show _=some (sf [kd i,kd 6] (ko m))
    rw [k6,fb hi];rfl
  · show _=some (sf [kd 6,kd j] (ko m))
    rw [k6,fb hj];rfl
  · show _=some (sf [kd 6,kd 6] (ko m))
    rw [k6];rfl
  · show _=some (sf [kd i,kd j,kd k] (ko m))
    rw [fb hi,fb hj,fb hk];rfl
theorem L3{r:List Nat}{m:Option Nat}(h:SgOk r m):∃a b c d,sg r m∈w9 a b c d:=by
  obtain ⟨a,b,c,hm⟩:=ze5 h
  cases m with
  | none=>exact ⟨a,b,c,⟨#[]⟩,Yl _ hm⟩
  | some i=>
    have hi:=h.more i rfl
    by_cases q:i=6
    · subst q
      rw [show ko (some 6)=XZv from ng] at hm
      exact ⟨a,b,c,⟨#[]⟩,Wy _ (Yl _ hm)⟩
    · rw [show ko (some i)=bb (wd i) from fb (by exact Gg ‹_› ‹_›)] at hm
      exact ⟨a,b,c,wd i,Wy _ (Wy _ hm)⟩
theorem zf4:(fun a b c d=>(w9 a b c d).map fun v=>af Pr 200 72 [v])=fun a b c d=>(w9 a b c d).map fun J=>some (.lst []):=by kernel_rfl
theorem zee:(fun a b c d=>(w9 a b c d).map fun v=>af Pr 200 409 [v])=fun a b c d=>(w9 a b c d).map fun J=>some (.lst []):=by kernel_rfl
theorem zfg{r:List Nat}{m:Option Nat}(h:SgOk r m):af Pr 200 72 [sg r m]=some (.lst []):=by
  obtain ⟨a,b,c,d,hm⟩:=L3 h
  exact T4.mp (congrFun (congrFun (congrFun (congrFun zf4 a) b) c) d) _ hm
theorem zdt{r:List Nat}{m:Option Nat}(h:SgOk r m):af Pr 200 409 [sg r m]=some (.lst []):=by
  obtain ⟨a,b,c,d,hm⟩:=L3 h
  exact T4.mp (congrFun (congrFun (congrFun (congrFun zee a) b) c) d) _ hm
noncomputable def zmf:Str:=⟨#[116,97,107,101,110]⟩
noncomputable def zj0:Str:=⟨#[98,111,117,110,100,115]⟩
noncomputable def MEET:V:=.obj 534 [cj,zmf,zj0] [KINDS,.lst [],.dct [] []]
noncomputable def mx(i j:Nat):Option Nat:=if T8 i j then some i else if bl i j then some i else if bl j i then some j else if T8 i 6 then (if bl 0 j then some 0 else none) else if T8 j 6 then (if bl 0 i then some 0 else none) else none
noncomputable def BOT:V:=.tup [.str ⟨#[98,111,116,116,111,109]⟩]
noncomputable def me(i j:Nat):V:=match mx i j with
  | some k=>kd k
  | none=>BOT
theorem zf5:(i77.map fun p=>af Pr 470 449 [MEET,kd p.1,kd p.2,.dct [] []])=i77.map fun p=>some (.tup [me p.1 p.2,.dct [] []]):=by kernel_rfl
theorem zjn:af Pr 470 449 [MEET,fnv,fnv,.dct [] []]=some (.tup [fnv,.dct [] []]):=by kernel_rfl
theorem xg:∀p∈i77,(mx p.1 p.2).isSome=mt p.1 p.2∧∀k,mx p.1 p.2=some k→k<7:=by
  have:∀p∈i77,((mx p.1 p.2).isSome == mt p.1 p.2&&(match mx p.1 p.2 with | some k=>Wg k 7 | none=>true))=true:=by decide +kernel
  intro p hp
  have:=this p hp
  simp only [Uc,beq_iff_eq] at this
  refine ⟨this.1,fun k hk=>?_⟩
  have h2:=this.2
  rw [hk] at h2
  exact T7 h2
section
theorem Wld.hook{prog:Program}{w:World}{hb:Heap}{P:PD}{K:Frag}(Z:Wld prog w P hb K) (z:List Stmt→Option (List Str×Str)):Wld prog w { P with frz:=z } hb K:=Z.add rfl rfl rfl Z.con Z.fre
noncomputable def zlq(v:V):Bool:=(ob (f6 v) fun xs=>ob (dr xs 0) fun t=>ob (jo t) fun s=>if seq s jf then some true else none).isSome
noncomputable def qx(args:List V):Option V:=if (ob (dr args 1) fun v=>if zlq v then none else some true).isSome then af Pr 470 449 args else none
theorem zgk:∀args v,qx args=some v→af Pr 470 449 args=some v:=fun args v e=>bc e fun J e=>e
noncomputable def Ak(s:Stmt):Nat:=@U1 (fun J=>Nat) s (fun J J J J J J J J J J=>0) (fun J J J J J J J J J J=>0) (fun J J J J J J J J J J J=>0) (fun J J=>0) (fun J J=>0) (fun J J p=>p.line) (fun J J J J J J J=>0) (fun J J J J=>0) (fun J J J J J=>0) (fun J J J J p=>p.line) (fun J J J J J=>0) (fun J J J J=>0) (fun J J J p=>p.line) (fun J J J=>0) (fun J J J=>0) (fun J J J=>0) (fun J J J=>0) (fun J J J J J=>0) (fun J J J J J=>0) (fun J J J=>0) (fun J J=>0) (fun J J J J=>0) (fun J J=>0) (fun J J=>0) (fun J J=>0) (fun J=>0) (fun J=>0) (fun J=>0)
noncomputable def jn:Str:=⟨#[116,111,108,100]⟩
noncomputable def zgo:Str:=⟨#[109,101,101,116,105,110,103]⟩
noncomputable def hkI:List Stmt→Option (List Str×Str)
  | s::_=>if T8 (Ak s) 420 then some ([jn],⟨#[]⟩) else if T8 (Ak s) 572 then some ([zgo],⟨#[]⟩) else none
  | []=>none
noncomputable def Ps:PD:=((Pr.put 72 200 (af Pr 200 72)).put 409 200 (af Pr 200 409)).put 449 470 qx
noncomputable def Pt:PD:={ Ps with frz:=hkI }
section
variable {s:Stmt}{ss:List Stmt}{fl:Fl}{q:Fl×Loc×Sto}
end
section
variable {r w:List Nat}{m q:Option Nat}
theorem Lp(h:SgOk r m) (hN:202≤N):(run Pt N).call 72 [sg r m] σ=some (.lst [],σ):=km (P':=Pr) (k:=200) rfl (by kernel_rfl) (Pls.cons (db h.toShOk) Pls.nil).rf (zfg h) hN
theorem Kb(h:SgOk r m) (hN:202≤N):(run Pt N).call 409 [sg r m] σ=some (.lst [],σ):=km (P':=Pr) (k:=200) rfl (by kernel_rfl) (Pls.cons (db h.toShOk) Pls.nil).rf (zdt h) hN
theorem N1(h1:SgOk r m) (h2:SgOk w q) (hN:402≤N):(run Pt N).call 383 [KINDS,sg r m,sg w q] σ=some (.bool (al r m w q),σ):=zq rfl (by kernel_rfl) h1 h2 hN
theorem ze7(h:SgOk r m) (hN:62≤N):(run Pt N).call 245 [sg r m] σ=some (.bool false,σ):=km (P':=Ph) (k:=60) rfl (by kernel_rfl) (Pls.cons (db h.toShOk) Pls.nil).rf (Qm h) hN
theorem zc5{i:Nat}(h:i<7) (hN:62≤N):(run Pt N).call 245 [kd i] σ=some (.bool false,σ):=km (P':=Ph) (k:=60) rfl (by kernel_rfl) (Pls.cons (nz h) Pls.nil).rf (T4.mp zrv i (ju h)) hN
theorem Jz(n:Nat) (σ:Sto):(run Pt (n+70)).call 245 [BOT] σ=some (.bool true,σ):=by kernel_rfl
theorem zd0(n:Nat) (σ:Sto):(run Pt (n+70)).call 245 [fnv] σ=some (.bool false,σ):=by kernel_rfl
theorem Lq(h:SgOk r m) (hN:92≤N):(run Pt N).call 252 [sg r m] σ=some (ko m,σ):=km (P':=Pi) (k:=90) rfl (by kernel_rfl) (Pls.cons (db h.toShOk) Pls.nil).rf (Rh h.more) hN
theorem zif{l:List V}(h:gx l=true):gx (MEET::l)=true:=h
theorem zeo:(fun x d=>i7.map fun i=>qx [MEET,kd i,x,d])=fun x d=>i7.map fun i=>af Pr 470 449 [MEET,kd i,x,d]:=by kernel_rfl
theorem K6{i j:Nat}(hi:i<7) (hj:j<7) (hN:472≤N):(run Pt N).call 449 [MEET,kd i,kd j,.dct [] []] σ=some (.tup [me i j,.dct [] []],σ):=by
  obtain ⟨n,rfl⟩:=Tg hN
  have e1:qx [MEET,kd i,kd j,.dct [] []]=some (.tup [me i j,.dct [] []]):=
    (T4.mp (congrFun (congrFun zeo (kd j)) (.dct [] [])) i (ju hi)).trans (T4.mp zf5 (i,j) (j5 hi hj))
  have hd:Pls 1 ([]:List V):=Pls.nil
  exact ii (fd:=f449) (c:=470) (g:=qx) rfl (by kernel_rfl) (zif (by
    show (rf (kd i)&&(rf (kd j)&&true))=true
    rw [(nz hi).rf,(nz hj).rf];rfl)) e1 (by lia)
theorem zff(hN:472≤N):(run Pt N).call 449 [MEET,fnv,fnv,.dct [] []] σ=some (.tup [fnv,.dct [] []],σ):=by
  obtain ⟨n,rfl⟩:=Tg hN
  have e1:qx [MEET,fnv,fnv,.dct [] []]=af Pr 470 449 [MEET,fnv,fnv,.dct [] []]:=by kernel_rfl
  exact ii (fd:=f449) (c:=470) (g:=qx) rfl (by kernel_rfl) rfl (e1.trans zjn) (by lia)
theorem L7(h:SgOk r m) (hN:230≤N):(run Pt N).call 437 [MEET,sg r m] σ=some (.bool false,push σ (.lst [])):=by
  obtain ⟨n,rfl⟩:=Tg hN
  have hv:bo (push σ (.lst [])) .NotEq (.lst []) (.ref σ.next)=some false:=by show on (nh _ (.lst []) (.ref σ.next))=_;rw [Cs (xs:=[]) (ys:=[]) rfl rfl (dj bg)];rfl
  exact ce (ay (by kernel_rfl)) [ap fun N σ h1=>Lp h h1,fw hv] (by kernel_rfl)
end
end
section
noncomputable def D0:V:=.dct [] []
theorem zc8:(i7.map fun i=>af Pr 200 72 [kd i])=i7.map fun J=>some (.lst []):=by kernel_rfl
section
variable {r w:List Nat}{m q:Option Nat}
theorem zfb{i:Nat}(h:i<7) (hN:202≤N):(run Pt N).call 72 [kd i] σ=some (.lst [],σ):=by
  obtain ⟨n,rfl⟩:=Tg hN
  exact ii (fd:=Hh) (c:=200) (g:=af Pr 200 72) rfl (by kernel_rfl) (Pls.cons (nz h) Pls.nil).rf (T4.mp zc8 i (ju h)) (by lia)
theorem Jn{v:V}(hf:∀N σ,202≤N→(run Pt N).call 72 [v] σ=some (.lst [],σ)):∀N σ,240≤N→(run Pt N).call 442 [MEET,v,D0] σ=some (v,push (push σ (.lst [])) (.lst [])):=fun N σ hN=>by
  obtain ⟨n,rfl⟩:=Tg hN
  exact ce (ay (by kernel_rfl)) [ap hf,fw (eq_nil (xs:=[]) (σ:=push (push σ (.lst [])) (.lst [])) ((cg (Tr _)).trans bg) bg)] (by kernel_rfl)
noncomputable def Fj:Str:=⟨#[115,111,109,101]⟩
noncomputable def zo:Str:=⟨#[111,116,104,101,114,115]⟩
noncomputable def Fs:Str:=⟨#[116,97,105,108]⟩
noncomputable def Fb:Str:=⟨#[114,101,115,116]⟩
noncomputable def gu:Str:=⟨#[107,105,110,100]⟩
noncomputable def ly:Str:=⟨#[114,105,103,104,116]⟩
noncomputable def rT(r:List Nat) (m:Option Nat) (w:List Nat) (q:Option Nat) (fd:Nat) (X:Loc):Loc:=(d6,MEET)::(nf,sg r m)::(nw,sg w q)::(jn,D0)::(Fj,.tup (fnv::r.map kd))::(zo,.tup (fnv::w.map kd))::(Fs,ko m)::(Fb,ko q)::(nt,.ref fd)::(ve,D0)::X
theorem lt_len{xs:List V}{i:Nat}{σ:Sto}:bo σ .Lt (.int i) (.int xs.length)=some (decide (i<xs.length)):=by
  show some (decide ((i:Int)<xs.length))=_
  congr 1;exact decide_eq_decide.mpr W8
noncomputable def mB:List Stmt:=wB (ai f491.body 3)
end
end
section
section
variable {r w:List Nat}{m q:Option Nat}{fd i:Nat}{mv:Nat→V}{okm:Nat→Bool}{L:List V}
noncomputable def zs5:V:=.tup [BOT,D0]
noncomputable def fl4(b:Bool):Fl:=if b then .next else .ret zs5
structure MvOk (r:List Nat) (m:Option Nat) (w:List Nat) (q:Option Nat) (K:Nat) (mv:Nat→V) (okm:Nat→Bool):Prop where
  meet:∀i,i<K→∀N σ,472≤N→(run Pt N).call 449 [MEET,kn r m i,kn w q i,D0] σ=some (.tup [mv i,D0],σ)
  emp:∀i,i<K→∀N σ,80≤N→(run Pt N).call 245 [mv i] σ=some (.bool (!okm i),σ)
theorem sj(h:i<r.length+1):∀σ,bo σ .Lt (.int i) (.int (fnv::r.map kd).length)=some true:=fun σ=>lt_len.trans (congrArg some (decide_eq_true (by simpa using h)))
theorem sq(h:¬ i<r.length+1):∀σ,bo σ .Lt (.int i) (.int (fnv::r.map kd).length)=some false:=fun σ=>lt_len.trans (congrArg some (decide_eq_false (by simpa using h)))
theorem Q3(r:List Nat) (m:Option Nat) (i:Nat):(i<r.length+1∧kn r m i=kx r i)∨(¬ i<r.length+1∧kn r m i=ko m):=by
  by_cases c:i<r.length+1
  · exact .inl ⟨c,if_pos c⟩
  · exact .inr ⟨c,if_neg c⟩
theorem s5{X:Loc}{n:Str}{v:Option V}{p:Loc→Prop}(_:ae n X=v) (h:p X):∃X,p X:=⟨X,h⟩
theorem zj4{K:Nat}{X:Loc}(H:MvOk r m w q K mv okm) (hr:r.length≤3) (hw:w.length≤3) (hi:i<K) (hs:ab σ fd=some (.lst L)) (hz:L.length≤100) (hN:490≤N) :
    ∃X',(run Pt N).exs f491.scope mB (rT r m w q fd (ac bu (.int i) X)) σ=some (fl4 (okm i),rT r m w q fd X',if okm i then ah σ fd (.lst (L++[mv i])) else σ):=by
  obtain ⟨n,rfl⟩:=Tg hN
  have hm:=H.meet i hi
  have he:=H.emp i hi
  have t1:ae bu (ac bu (.int i) X)=some (.int i):=eq ..
  have t2:ae bu (ac dp (kn r m i) (ac bu (.int i) X))=some (.int i):=(dk _ _ (by decide +kernel)).trans t1
  have l1:ae dp (ac ly (kn w q i) (ac dp (kn r m i) (ac bu (.int i) X)))=some (kn r m i):=(dk _ _ (by decide +kernel)).trans (eq ..)
  have l2:ae ly (ac ly (kn w q i) (ac dp (kn r m i) (ac bu (.int i) X)))=some (kn w q i):=eq ..
  have l3:ae gu (ac gu (mv i) (ac ly (kn w q i) (ac dp (kn r m i) (ac bu (.int i) X))))=some (mv i):=eq ..
  have z0:∀X,ae d6 (rT r m w q fd X)=some MEET:=fun X=>by kernel_rfl
  have z1:∀X,ae Fj (rT r m w q fd X)=some (.tup (fnv::r.map kd)):=fun X=>by kernel_rfl
  have z2:∀X,ae zo (rT r m w q fd X)=some (.tup (fnv::w.map kd)):=fun X=>by kernel_rfl
  have z3:∀X,ae Fs (rT r m w q fd X)=some (ko m):=fun X=>by kernel_rfl
  have z4:∀X,ae Fb (rT r m w q fd X)=some (ko q):=fun X=>by kernel_rfl
  have g1:=ur (x:=mv i) hs (ir hz)
  rcases Q3 r m i with ⟨c1,k1⟩ | ⟨c1,k1⟩ <;> rcases Q3 w q i with ⟨c2,k2⟩ | ⟨c2,k2⟩ <;> rw [k1,k2] at hm l1 l2 l3 <;> rw [k1] at t2 <;> cases hb:okm i
  · rw [hb] at he;exact s5 l3 (iw [ag t1,bh (cr hr),aq (sj c1),ag (z1 (ac bu (.int i) X)),ag t1,ey (mq hr c1),ag t2,bh (cr hw),aq (sj c2),ag (z2 (ac dp (kx r i) (ac bu (.int i) X))),ag t2,ey (mq hw c2),ag (z0 (ac ly (kx w i) (ac dp (kx r i) (ac bu (.int i) X)))),ag l1,ag l2,ap hm,ag l3,ap he] (by kernel_rfl))
  · rw [hb] at he;exact s5 l3 (iw [ag t1,bh (cr hr),aq (sj c1),ag (z1 (ac bu (.int i) X)),ag t1,ey (mq hr c1),ag t2,bh (cr hw),aq (sj c2),ag (z2 (ac dp (kx r i) (ac bu (.int i) X))),ag t2,ey (mq hw c2),ag (z0 (ac ly (kx w i) (ac dp (kx r i) (ac bu (.int i) X)))),ag l1,ag l2,ap hm,ag l3,ap he,tc (ln hs),ta (lj hs),ag l3,sy g1] (by kernel_rfl))
  · rw [hb] at he;exact s5 l3 (iw [ag t1,bh (cr hr),aq (sj c1),ag (z1 (ac bu (.int i) X)),ag t1,ey (mq hr c1),ag t2,bh (cr hw),aq (sq c2),ag (z4 (ac dp (kx r i) (ac bu (.int i) X))),ag (z0 (ac ly (ko q) (ac dp (kx r i) (ac bu (.int i) X)))),ag l1,ag l2,ap hm,ag l3,ap he] (by kernel_rfl))
  · rw [hb] at he;exact s5 l3 (iw [ag t1,bh (cr hr),aq (sj c1),ag (z1 (ac bu (.int i) X)),ag t1,ey (mq hr c1),ag t2,bh (cr hw),aq (sq c2),ag (z4 (ac dp (kx r i) (ac bu (.int i) X))),ag (z0 (ac ly (ko q) (ac dp (kx r i) (ac bu (.int i) X)))),ag l1,ag l2,ap hm,ag l3,ap he,tc (ln hs),ta (lj hs),ag l3,sy g1] (by kernel_rfl))
  · rw [hb] at he;exact s5 l3 (iw [ag t1,bh (cr hr),aq (sq c1),ag (z3 (ac bu (.int i) X)),ag t2,bh (cr hw),aq (sj c2),ag (z2 (ac dp (ko m) (ac bu (.int i) X))),ag t2,ey (mq hw c2),ag (z0 (ac ly (kx w i) (ac dp (ko m) (ac bu (.int i) X)))),ag l1,ag l2,ap hm,ag l3,ap he] (by kernel_rfl))
  · rw [hb] at he;exact s5 l3 (iw [ag t1,bh (cr hr),aq (sq c1),ag (z3 (ac bu (.int i) X)),ag t2,bh (cr hw),aq (sj c2),ag (z2 (ac dp (ko m) (ac bu (.int i) X))),ag t2,ey (mq hw c2),ag (z0 (ac ly (kx w i) (ac dp (ko m) (ac bu (.int i) X)))),ag l1,ag l2,ap hm,ag l3,ap he,tc (ln hs),ta (lj hs),ag l3,sy g1] (by kernel_rfl))
  · rw [hb] at he;exact s5 l3 (iw [ag t1,bh (cr hr),aq (sq c1),ag (z3 (ac bu (.int i) X)),ag t2,bh (cr hw),aq (sq c2),ag (z4 (ac dp (ko m) (ac bu (.int i) X))),ag (z0 (ac ly (ko q) (ac dp (ko m) (ac bu (.int i) X)))),ag l1,ag l2,ap hm,ag l3,ap he] (by kernel_rfl))
  · rw [hb] at he;exact s5 l3 (iw [ag t1,bh (cr hr),aq (sq c1),ag (z3 (ac bu (.int i) X)),ag t2,bh (cr hw),aq (sq c2),ag (z4 (ac dp (ko m) (ac bu (.int i) X))),ag (z0 (ac ly (ko q) (ac dp (ko m) (ac bu (.int i) X)))),ag l1,ag l2,ap hm,ag l3,ap he,tc (ln hs),ta (lj hs),ag l3,sy g1] (by kernel_rfl))
theorem Mw{K:Nat}(H:MvOk r m w q K mv okm) (hr:r.length≤3) (hw:w.length≤3):∀(k lo:Nat) {X:Loc}{σ:Sto}{L:List V}{N:Nat},lo+k=K→ab σ fd=some (.lst L)→L.length+k≤100→492+k≤N→
    ∃X' σ',(run Pt N).fo f491.scope (fT (ai f491.body 3)) (.items (fj lo k)) mB (rT r m w q fd X) σ=some (fl4 ((T6 lo k).all okm),rT r m w q fd X',σ')∧((T6 lo k).all okm=true→ab σ' fd=some (.lst (L++(T6 lo k).map mv)))∧σ'.next=σ.next
  | 0,lo,X,σ,L,N,hk,hs,hz,hN=>by
    obtain ⟨n,rfl⟩:∃n,N=n+1:=⟨N-1,by exact im ‹_› (by decide)⟩
    exact ⟨_,_,lq rfl,fun J=>(by rw [List.range'_zero,Xz,Vp];exact hs),rfl⟩
  | k + 1,lo,X,σ,L,N,hk,hs,hz,hN=>by
    obtain ⟨n,rfl⟩:∃n,N=n+2:=⟨N-2,by exact im ‹_› (by decide)⟩
    obtain ⟨X1,e1⟩:=zj4 (N:=n+1) (X:=X) H hr hw (i:=lo) (by exact ub ‹_›) hs (by exact md ‹_›) (by exact p8 ‹_› (by decide))
    rw [wb,U2,Vb]
    have ea:(run Pt (n+1)).asg f491.scope (fT (ai f491.body 3)) (.int lo) (rT r m w q fd X) σ=some (rT r m w q fd (ac bu (.int lo) X),σ):=by kernel_rfl
    cases hb:okm lo with
    | false=>
      rw [hb] at e1
      exact ⟨_,_,Af rfl ea e1,fun h=>(by rw [U6] at h;cases h),rfl⟩
    | true=>
      rw [hb,if_pos rfl] at e1
      obtain ⟨X2,σ2,e2,q2,q3⟩:=Mw H hr hw k (lo+1) (L:=L++[mv lo]) (N:=n+1) (by exact oq ‹_›) (bv hs) (by rw [T1,Ua];exact re ‹_›) (by exact jk ‹_›)
      rw [Vd]
      refine ⟨X2,σ2,ku rfl ea e1 e2,fun h=>?_,q3⟩
      rw [q2 h,T5,We];rfl
noncomputable def ma(r:List Nat) (m:Option Nat) (w:List Nat) (q:Option Nat):Bool:=(m.isNone&&decide (r.length<w.length))||(q.isNone&&decide (w.length<r.length))
noncomputable def Hu(mv:Nat→V) (K:Nat) (t:V):V:=.tup [.str jf,.tup ((T6 0 K).map mv),t]
noncomputable def Au:Option Nat→Option Nat→V
  | some y,some z=>match mx y z with
    | some k=>kd k
    | none=>.none
  | _,_=>.none
theorem Lv{a b:Nat}{σ:Sto}:blt σ (.builtin "max") [.int a,.int b]=some (.int (max a b:Nat),σ):=by
  rw [show blt σ (.builtin "max") [.int a,.int b]=some (.int (if (b:Int) > a then b else a),σ) by kernel_rfl]
  congr 3
  by_cases c:(b:Int) > a
  · rw [if_pos c];congr 1;lia
  · rw [if_neg c];congr 1;exact zpx ‹_›
end
end
section
section
variable {r w:List Nat}{m q:Option Nat}{fd i:Nat}{mv:Nat→V}{okm:Nat→Bool}{L:List V}
noncomputable def ph:Str:=⟨#[109,111,114,101]⟩
noncomputable def zoz(r:List Nat) (m:Option Nat) (w:List Nat) (q:Option Nat):Loc:=[(d6,MEET),(nf,sg r m),(nw,sg w q),(jn,D0)]
noncomputable def zqn(r:List Nat) (m:Option Nat) (w:List Nat) (q:Option Nat):Loc:=[(d6,MEET),(nf,sg r m),(nw,sg w q),(jn,D0),(Fj,.tup (fnv::r.map kd)),(zo,.tup (fnv::w.map kd)),(Fs,ko m),(Fb,ko q)]
theorem Lm(r w:List Nat) (σ:Sto):bo σ .Lt (.int (fnv::r.map kd).length) (.int (fnv::w.map kd).length)=some (decide (r.length<w.length)):=by
  show some (decide (((fnv::r.map kd).length:Int)<(fnv::w.map kd).length))=_
  congr 1;refine decide_eq_decide.mpr ?_;simp
theorem Rx:∀{y z:Nat},y<7→z<7→∀N σ,80≤N→(run Pt N).call 245 [me y z] σ=some (.bool (!(mx y z).isSome),σ):=fun {y z} hy hz N σ hN=>by
  have:=(xg (y,z) (j5 hy hz)).2
  unfold me
  cases h:mx y z with
  | none=>
    obtain ⟨n,rfl⟩:=Tg hN
    exact Jz (n+10) σ
  | some k=>exact zc5 (this k h) (by exact pq ‹_› (by decide))
noncomputable def yt(r:List Nat) (m:Option Nat) (w:List Nat) (q:Option Nat) (mv:Nat→V) (okm:Nat→Bool):V:=
  if !ma r m w q&&(T6 0 (max (r.length+1) (w.length+1))).all okm then Hu mv (max (r.length+1) (w.length+1)) (Au m q) else BOT
theorem zg8(h1:SgOk r m) (h2:SgOk w q) (n:Nat) (σ:Sto):(run Pt (n+20)).tr f491.scope (r5 (ai f491.body 1)) (zqn r m w q) σ=some (ma r m w q,σ):=
  lp (w0 (lp (wp (jz [aq fun J=>tf h1.more] (by kernel_rfl)) (mr (jz [bh (cr h1.len),bh (cr h2.len),aq (Lm r w)] (by kernel_rfl))))) (mr (lp (wp (jz [aq fun J=>tf h2.more] (by kernel_rfl)) (mr (jz [bh (cr h2.len),bh (cr h1.len),aq (Lm w r)] (by kernel_rfl)))))))
theorem zda (h1:SgOk r m) (h2:SgOk w q) (H:ma r m w q=false→MvOk r m w q (max (r.length+1) (w.length+1)) mv okm) (hN:530≤N):∃σ',(run Pt N).call 491 [MEET,sg r m,sg w q,D0] σ=some (.tup [yt r m w q mv okm,D0],σ'):=by
  obtain ⟨n,rfl⟩:=Tg hN
  have hr:=h1.len
  have hw:=h2.len
  have ht:=zg8 h1 h2 (n+506) σ
  have a1:=fun N σ (h:92≤N)=>Lq (σ:=σ) h1 h
  have a2:=fun N σ (h:92≤N)=>Lq (σ:=σ) h2 h
  unfold yt
  cases hc:ma r m w q with
  | true=>exact eh (ay (by kernel_rfl)) [ap a1,ap a2,ix ht,gy hc] (by kernel_rfl)
  | false =>
    obtain ⟨X',σ',e,hs,hnx⟩:=Mw (X:=[]) (N:=n+524) (fd:=σ.next) (H hc) hr hw (max (r.length+1) (w.length+1)) 0 (L:=[]) (by exact oj) (σ:=push σ (.lst [])) bg (by simp;exact Rg ‹_› ‹_› (by decide)) (by exact zom ‹_› ‹_› (by decide))
    have hit:∀σ,f9 σ (.rng 0 (max (fnv::r.map kd).length (fnv::w.map kd).length:Nat))=some (.items (fj 0 (max (r.length+1) (w.length+1)))):=fun σ=>by
      rw [Tl,Tl,Tm,Tm]
      exact mo (by exact zpq ‹_› ‹_› (by decide))
    have hx:∀σ,blt σ (.builtin "max") [.int (fnv::r.map kd).length,.int (fnv::w.map kd).length]=some (.int (max (fnv::r.map kd).length (fnv::w.map kd).length:Nat),σ):=fun σ=>Lv
    cases ha:(T6 0 (max (r.length+1) (w.length+1))).all okm with
    | false=>
      rw [ha] at e
      exact eh (ay (by kernel_rfl)) [ap a1,ap a2,ix ht,gy hc,bh (cr hr),bh (cr hw),bh hx,v3 hit,oz e] (by kernel_rfl)
    | true=>
      rw [ha] at e
      have hs:=hs ha
      have hz:sz (([]:List V)++(T6 0 (max (r.length+1) (w.length+1))).map mv)=true:=ir (by simp;exact Rg ‹_› ‹_› (by decide))
      have hb:=Ec hs hz
      have n1:=fun σ=>tf (σ:=σ) h1.more
      have n2:=fun σ=>tf (σ:=σ) h2.more
      cases m with
      | none=>exact eh (ay (by kernel_rfl)) [ap a1,ap a2,ix ht,gy hc,bh (cr hr),bh (cr hw),bh hx,v3 hit,oz e,ki hb] (by kernel_rfl)
      | some y=>cases q with
        | none=>exact eh (ay (by kernel_rfl)) [ap a1,ap a2,ix ht,gy hc,bh (cr hr),bh (cr hw),bh hx,v3 hit,oz e,aq n1,ki hb] (by kernel_rfl)
        | some z=>
          have hy:=h1.more y rfl
          have hz7:=h2.more z rfl
          have hm:=fun N σ (h:472≤N)=>K6 (σ:=σ) hy hz7 h
          have he:=Rx hy hz7
          have k1:ae gu (ac ph D0 (ac gu (me y z) X'))=some (me y z):=(dk _ _ (by decide +kernel)).trans (eq ..)
          cases hx2:mx y z with
          | none=>
            rw [hx2] at he
            rw [show Au (some y) (some z) = .none by show (match mx y z with | some k=>kd k | none=>V.none)=_;rw [hx2]]
            exact eh (ay (by kernel_rfl)) [ap a1,ap a2,ix ht,gy hc,bh (cr hr),bh (cr hw),bh hx,v3 hit,oz e,aq n1,aq n2,ap hm,ag k1,ap he,ki hb] (by kernel_rfl)
          | some k=>
            rw [hx2] at he
            have hk7:=(xg (y,z) (j5 hy hz7)).2 k hx2
            have ek:me y z=kd k:=by unfold me;rw [hx2]
            have hst:=Jn (v:=kd k) (fun N σ h=>zfb hk7 h)
            rw [show Au (some y) (some z)=kd k by show (match mx y z with | some k=>kd k | none=>V.none)=_;rw [hx2]]
            rw [ek] at k1 hm he
            have k2:ae ph (ac ph D0 (ac gu (kd k) X'))=some D0:=eq ..
            have z0:∀X,ae d6 (rT r (some y) w (some z) σ.next X)=some MEET:=fun X=>by kernel_rfl
            have zf:∀X,ae nt (rT r (some y) w (some z) σ.next X)=some (.ref σ.next):=fun X=>by kernel_rfl
            have hlt:σ.next<σ'.next:=by rw [hnx];exact Tr _
            have hs2:ab (push (push σ' (.lst [])) (.lst [])) σ.next=some (.lst ([]++(T6 0 (max (r.length+1) (w.length+1))).map mv)):=(cg (U5 hlt)).trans ((cg hlt).trans hs)
            exact eh (ay (by kernel_rfl)) [ap a1,ap a2,ix ht,gy hc,bh (cr hr),bh (cr hw),bh hx,v3 hit,oz e,aq n1,aq n2,ap hm,ag k1,ap he,ag (zf (ac ph D0 (ac gu (kd k) X'))),ag (z0 (ac ph D0 (ac gu (kd k) X'))),ag k1,ag k2,df fun N h=>hst N σ' h,ki (Ec hs2 hz)] (by kernel_rfl)
end
end
section
noncomputable def Bv(r:List Nat) (m:Option Nat) (w:List Nat) (q:Option Nat):Nat→V
  | 0=>fnv
  | i+1=>me (bn r m i) (bn w q i)
noncomputable def B1(r:List Nat) (m:Option Nat) (w:List Nat) (q:Option Nat):Nat→Bool
  | 0=>true
  | i+1=>mt (bn r m i) (bn w q i)
section
variable {r w:List Nat}{m q:Option Nat}
theorem Lh{i:Nat}(h:i<r.length∨m.isSome=true):kn r m (i+1)=kd (bn r m i):=by
  unfold kn bn
  by_cases c:i<r.length
  · rw [if_pos (by exact Vv ‹_›),if_pos c];rfl
  · rw [if_neg (by lia),if_neg c]
    rcases h with h | h
    · exact absurd h c
    · cases m with
      | none=>cases h
      | some y=>rfl
theorem zln(h1:ShOk r m) (h2:ShOk w q) (hc:ma r m w q=false):MvOk r m w q (max (r.length+1) (w.length+1)) (Bv r m w q) (B1 r m w q):=by
  unfold ma at hc
  simp only [V1,Wc,decide_eq_false_iff_not,Uq] at hc
  have ha:∀i,i+1<max (r.length+1) (w.length+1)→i<r.length∨m.isSome=true:=fun i hi=>by
    rcases hc.1 with h | h
    · right;cases m <;> first | rfl | cases h
    · left;exact zqb ‹_› ‹_›
  have hb:∀i,i+1<max (r.length+1) (w.length+1)→i<w.length∨q.isSome=true:=fun i hi=>by
    rcases hc.2 with h | h
    · right;cases q <;> first | rfl | cases h
    · left;exact zn5 ‹_› ‹_›
  refine ⟨fun i hi N σ hN=>?_,fun i hi N σ hN=>?_⟩
  · cases i with
    | zero=>
      rw [show kn r m 0=fnv from if_pos (U0 _),show kn w q 0=fnv from if_pos (U0 _)]
      exact zff hN
    | succ i=>
      rw [Lh (ha i hi),Lh (hb i hi)]
      exact K6 (jd h1.row h1.more i) (jd h2.row h2.more i) hN
  · cases i with
    | zero=>
      obtain ⟨n,rfl⟩:=Tg hN
      exact zd0 (n+10) σ
    | succ i=>
      have:=(xg (bn r m i,bn w q i) (j5 (jd h1.row h1.more i) (jd h2.row h2.more i))).1
      show _=some (V.bool (!mt (bn r m i) (bn w q i)),σ)
      rw [← this]
      exact Rx (jd h1.row h1.more i) (jd h2.row h2.more i) N σ hN
noncomputable def vv(r:List Nat) (m:Option Nat) (w:List Nat) (q:Option Nat):V:=yt r m w q (Bv r m w q) (B1 r m w q)
theorem zcl(h1:SgOk r m) (h2:SgOk w q) (hN:550≤N):∃σ',(run Pt N).call 484 [MEET,sg r m,sg w q,D0] σ=some (.tup [vv r m w q,D0],σ'):=by
  obtain ⟨n,rfl⟩:=Tg hN
  obtain ⟨σ',e⟩:=zda (σ:=σ) (N:=n+543) h1 h2 (zln h1.toShOk h2.toShOk) (by lia)
  exact eh (ay (by kernel_rfl)) [iu e] (by kernel_rfl)
theorem zdu{P:PD}{n f k:Nat}{g:List V→Option V}{args args':List V}(h1:P.con f=some (k,g)) (hr:gx args=false) (h2:fzs σ gt args=some args') (h3:g args'=none):iz P n f args σ=none:=by
  have e:Bg P f σ g args=none:=by
    unfold Bg;rw [h2]
    show ob (g args') _=none
    rw [h3];rfl
  unfold iz;rw [h1]
  show (if Wg k n=true then (if gx args=true then g args else Bg P f σ g args) else none)=none
  rw [hr,if_neg Ts,e]
  exact ite_self none
theorem zfc(os:List (Nat×MObj)):os.filter (fun J=>!false)=os:=Up.mpr fun J J=>rfl
theorem zij(os:List (Nat×MObj)):os.filter (fun J=>false)=[]:=U4.mpr fun J J h=>by cases h
theorem zhe{P:PD}{ss:List Stmt}{xs:List Str}{k:Str}{ρ ρ':Loc}(h:P.frz ss=some (xs,k)) (hk:ae k ρ=none) (hf:wy σ ρ xs ρ=some ρ'):ic P ss ρ σ=(ρ',⟨σ.next,[]⟩):=by
  have hb:Aw k ρ=some fun J=>false:=by unfold Aw;rw [hk]
  have hd:fe σ (fun J=>false)=σ:=by
    show (⟨σ.next,σ.os.filter fun J=>!false⟩:Sto)=σ
    rw [zfc]
  unfold ic
  rw [show yb P ss ρ σ=some (ρ',oa σ fun J=>false) from bp h (aj hb (aj (by rw [hd];exact hf) rfl))]
  show (ρ',(⟨σ.next,σ.os.filter fun J=>false⟩:Sto))=_
  rw [zij]
noncomputable def ro(r:List Nat) (m:Option Nat) (w:List Nat) (q:Option Nat):V:=
  if decide (r=w∧m=q) then sg r m else if al r m w q then sg r m else if al w q r m then sg w q else vv r m w q
theorem zdx {k:Nat}(h1:SgOk r m) (h2:SgOk w q) (hs:ab σ k=some (.dct [] [])) (hN:580≤N):∃σ',(run Pt N).call 449 [MEET,sg r m,sg w q,.ref k] σ=some (.tup [ro r m w q,D0],σ'):=by
  obtain ⟨n,rfl⟩:=Tg hN
  have hfz:fzs σ gt [MEET,sg r m,sg w q,.ref k]=some [MEET,sg r m,sg w q,D0]:=
    ca (n:=199) rfl (ca (n:=198) ((db h1.toShOk).fz σ (by decide)) (ca (n:=197) ((db h2.toShOk).fz σ (by decide)) (ca (n:=196) (xa (l:=[]) hs rfl) rfl)))
  have hr:gx [MEET,sg r m,sg w q,.ref k]=false:=by
    show (rf MEET&&(rf (sg r m)&&(rf (sg w q)&&(false&&true))))=false
    rw [U6,Vl,Vl,Vl]
  have hcn:∀n,iz Pt n 449 [MEET,sg r m,sg w q,.ref k] σ=none:=fun n=>zdu (k:=470) (g:=qx) (by kernel_rfl) hr hfz (by kernel_rfl)
  have hth:ic Pt f449.body [(d6,MEET),(nf,sg r m),(nw,sg w q),(jn,.ref k)] σ=(zoz r m w q,⟨σ.next,[]⟩):=by
    refine zhe (xs:=[jn]) (k:=⟨#[]⟩) (by kernel_rfl) rfl ?_
    exact aj (x:=ae jn _) rfl (aj (x:=fz σ gt (.ref k)) (xa (n:=199) (l:=[]) hs rfl) rfl)
  have c0:=xy h1.toShOk h2.toShOk
  have y2:=Ee (w:=w) h2.more
  have y1:=Ee (w:=r) h1.more
  have o1:=fun N (h:230≤N)=>L7 (σ:=⟨σ.next,[]⟩) h1 h
  have o2:=fun N (h:230≤N)=>L7 (σ:=push ⟨σ.next,[]⟩ (.lst [])) h2 h
  have s1:=fun N σ (h:402≤N)=>N1 (σ:=σ) h1 h2 h
  have s2:=fun N σ (h:402≤N)=>N1 (σ:=σ) h2 h1 h
  unfold ro
  cases he:decide (r=w∧m=q) with
  | true=>rw [he] at c0;exact eh (hcn _) [vy hth,aq c0] (by kernel_rfl)
  | false=>
    rw [he] at c0
    cases e1:al r m w q with
    | true=>rw [e1] at s1;exact eh (hcn _) [vy hth,aq c0,aq y2,aq y1,df o1,df o2,ap s1] (by kernel_rfl)
    | false=>
      rw [e1] at s1
      cases e2:al w q r m with
      | true=>rw [e2] at s2;exact eh (hcn _) [vy hth,aq c0,aq y2,aq y1,df o1,df o2,ap s1,ap s2] (by kernel_rfl)
      | false=>
        rw [e2] at s2
        obtain ⟨σ5,e⟩:=zcl (σ:=push (push ⟨σ.next,[]⟩ (.lst [])) (.lst [])) (N:=n+572) h1 h2 (by lia)
        exact eh (hcn _) [vy hth,aq c0,aq y2,aq y1,df o1,df o2,ap s1,ap s2,iu e] (by kernel_rfl)
end
end
section
noncomputable def d7(r:List Nat) (m:Option Nat) (w:List Nat) (q:Option Nat):Bool:=!ma r m w q&&(T6 0 (max r.length w.length)).all fun i=>mt (bn r m i) (bn w q i)
theorem N2:∀p∈i77,(bl p.1 p.2=true→mt p.1 p.2=true)∧mt p.1 p.2=mt p.2 p.1:=by decide +kernel
section
variable {r w:List Nat}{m q:Option Nat}
theorem Mq(h1:ShOk r m) (h2:ShOk w q):d7 r m w q=d7 w q r m:=by
  unfold d7
  rw [show ma r m w q=ma w q r m from Bool.or_comm _ _,Nat.max_comm]
  congr 1
  refine Wa.mpr ?_
  rw [Ui,Ui]
  have e:∀i,mt (bn r m i) (bn w q i)=mt (bn w q i) (bn r m i):=fun i=>(N2 (bn r m i,bn w q i) (j5 (jd h1.row h1.more i) (jd h2.row h2.more i))).2
  exact ⟨fun h i hi=>by rw [← e];exact h i hi,fun h i hi=>by rw [e];exact h i hi⟩
theorem Cy(h1:ShOk r m) (h2:ShOk w q) (h:al r m w q=true):d7 r m w q=true:=by
  unfold al at h
  simp only [Uc,Wv] at h
  obtain ⟨h3,h4,h5⟩:=h
  unfold jp at h3
  simp only [V1,decide_eq_false_iff_not,Uq,Wc,Xe,decide_eq_true_eq] at h3
  unfold d7 ma
  have e1:decide (r.length<w.length)=false:=decide_eq_false (by lia)
  have e2:(q.isNone&&decide (w.length<r.length))=false:=by
    rcases h3.1 with h | h
    · rw [h];rfl
    · rw [decide_eq_false (by lia),Vl]
  rw [e1,e2,Vl,X4 h3.2]
  refine Ui.mpr fun i hi=>?_
  have hi':i<r.length:=by have:=(Uk.mp hi).2;exact lc ‹_›
  have:=Ui.mp h5 i hi
  rw [show bn r m i=ft 0 r i from if_pos hi']
  exact (N2 (ft 0 r i,bn w q i) (j5 (h1.row _ (o8 r i hi')) (jd h2.row h2.more i))).1 this
noncomputable def rx(r:List Nat) (m:Option Nat) (w:List Nat) (q:Option Nat):List Nat:=(T6 0 (max r.length w.length)).map fun i=>(mx (bn r m i) (bn w q i)).getD 0
noncomputable def Hn:Option Nat→Option Nat→Option Nat
  | some y,some z=>mx y z
  | _,_=>none
theorem N4:(List.range' 0 (max (r.length+1) (w.length+1))).all (B1 r m w q)=(List.range' 0 (max r.length w.length)).all fun i=>mt (bn r m i) (bn w q i):=by
  rw [show max (r.length+1) (w.length+1)=max r.length w.length+1 by exact Qg,U2,Vb]
  show (true&&_)=_
  rw [Vd,Uv,Uv,V9,V9]
  congr 1
  funext i
  show B1 r m w q (0+1+i)=mt (bn r m (0+i)) (bn w q (0+i))
  rw [show 0+1+i=i+1 by lia,show 0+i=i by exact oj];rfl
theorem zjo (h1:ShOk r m) (h2:ShOk w q) (h:d7 r m w q=true):vv r m w q=sg (rx r m w q) (Hn m q):=by
  have hh:=h
  unfold d7 at h
  simp only [Uc] at h
  unfold vv yt
  rw [N4,h.1,h.2]
  show Hu _ _ _=_
  unfold Hu sg
  have e1:Au m q=ko (Hn m q):=by
    cases m with
    | none=>rfl
    | some y=>cases q with
      | none=>rfl
      | some z=>
        show (match mx y z with | some k=>kd k | none=>V.none)=ko (mx y z)
        cases mx y z <;> rfl
  have e2:(T6 0 (max (r.length+1) (w.length+1))).map (Bv r m w q)=fnv::(rx r m w q).map kd:=by
    rw [show max (r.length+1) (w.length+1)=max r.length w.length+1 by exact Qg,U2,T5]
    congr 1
    unfold rx
    rw [Us,Uv,Uv,Us,Us]
    refine V4 fun i hi=>?_
    show Bv r m w q (0+1+i)=kd ((mx (bn r m (0+i)) (bn w q (0+i))).getD 0)
    rw [show 0+1+i=i+1 by lia,show 0+i=i by exact oj]
    have hm:=Ui.mp h.2 i (Uk.mpr ⟨Ux _,by have:=List.mem_range.mp hi;exact Ru ‹_›⟩)
    have ht:=(xg (bn r m i,bn w q i) (j5 (jd h1.row h1.more i) (jd h2.row h2.more i))).1
    show me (bn r m i) (bn w q i)=_
    unfold me
    dsimp only at ht
    cases hx:mx (bn r m i) (bn w q i) with
    | none=>rw [hx,hm] at ht;cases ht
    | some k=>rfl
  rw [e1,e2]
theorem zk2(h:d7 r m w q=false):vv r m w q=BOT:=by
  unfold vv yt
  unfold d7 at h
  rw [N4,h];rfl
theorem zqi(h1:ShOk r m) (h2:ShOk w q) (hl:r.length≤2) (hl2:w.length≤2):SgOk (rx r m w q) (Hn m q):=by
  have hlen:(rx r m w q).length≤2:=by unfold rx;rw [Tm,Uu];exact xn ‹_› ‹_›
  have hx:∀y z,y<7→z<7→∀k,mx y z=some k→k<7:=fun y z hy hz=>(xg (y,z) (j5 hy hz)).2
  refine ⟨⟨by exact Th ‹_› (by decide),fun i hi=>?_,fun i hi=>?_⟩,.inl hlen⟩
  · unfold rx at hi
    obtain ⟨j,_,rfl⟩:=Ud.mp hi
    cases hm:mx (bn r m j) (bn w q j) with
    | none=>exact U0 _
    | some k=>exact hx _ _ (jd h1.row h1.more j) (jd h2.row h2.more j) k hm
  · cases m with
    | none=>cases hi
    | some y=>cases q with
      | none=>cases hi
      | some z=>exact hx y z (h1.more y rfl) (h2.more z rfl) i hi
theorem zfu (h1:SgOk r m) (h2:SgOk w q) (hl:r.length≤2) (hl2:w.length≤2):(d7 r m w q=true∧∃r' m',SgOk r' m'∧ro r m w q=sg r' m')∨(d7 r m w q=false∧ro r m w q=BOT):=by
  unfold ro
  cases he:decide (r=w∧m=q) with
  | true=>
    obtain ⟨rfl,rfl⟩:=of_decide_eq_true he
    exact .inl ⟨Cy h1.toShOk h1.toShOk (zh h1.toShOk),r,m,h1,rfl⟩
  | false=>
    rw [if_neg Ts]
    cases e1:al r m w q with
    | true=>exact .inl ⟨Cy h1.toShOk h2.toShOk e1,r,m,h1,rfl⟩
    | false=>
      rw [if_neg Ts]
      cases e2:al w q r m with
      | true=>exact .inl ⟨(Mq h1.toShOk h2.toShOk).trans (Cy h2.toShOk h1.toShOk e2),w,q,h2,rfl⟩
      | false=>
        rw [if_neg Ts]
        cases hc:d7 r m w q with
        | true=>exact .inl ⟨rfl,_,_,zqi h1.toShOk h2.toShOk hl hl2,zjo h1.toShOk h2.toShOk hc⟩
        | false=>exact .inr ⟨rfl,zk2 hc⟩
theorem zgi:af Pr 200 72 [BOT]=some (.lst []):=by kernel_rfl
theorem zhm(hN:202≤N):(run Pt N).call 72 [BOT] σ=some (.lst [],σ):=by
  obtain ⟨n,rfl⟩:=Tg hN
  exact ii (fd:=Hh) (c:=200) (g:=af Pr 200 72) rfl (by kernel_rfl) rfl zgi (by lia)
theorem zol:(fun r m σ=>bo σ .NotEq (sg r m) BOT)=fun J J J=>some true:=by kernel_rfl
theorem zmv:(fun σ=>bo σ .NotEq BOT BOT)=fun J=>some false:=by kernel_rfl
theorem zcr(h1:SgOk r m) (h2:SgOk w q) (hl:r.length≤2) (hl2:w.length≤2):∃v σ',(run Pt 620).call 545 [KINDS,sg r m,sg w q] ⟨0,[]⟩=some (v,σ')∧((d7 r m w q=true∧∃r' m',SgOk r' m'∧v=sg r' m')∨(d7 r m w q=false∧v=BOT)):=by
  obtain ⟨σ4,hm⟩:=zdx (σ:=push ⟨3,[]⟩ (.dct [] [])) (k:=3) (N:=615) h1 h2 rfl (by decide)
  have main:(∀N σ,202≤N→(run Pt N).call 72 [ro r m w q] σ=some (.lst [],σ))→∀b,(∀N σ,80≤N→(run Pt N).call 245 [ro r m w q] σ=some (.bool b,σ))→∃σ',(run Pt 620).call 545 [KINDS,sg r m,sg w q] ⟨0,[]⟩=some (if b then BOT else ro r m w q,σ'):=fun hf b he=>by
    have hst:=Jn hf
    have a1:=fun N σ (h:202≤N)=>Kb (σ:=σ) h1 h
    have a2:=fun N σ (h:202≤N)=>Kb (σ:=σ) h2 h
    cases b <;> exact eh (ay (by kernel_rfl)) [ap a1,ap a2,iu hm,df fun N h=>hst N σ4 h,ap he] (by kernel_rfl)
  rcases zfu h1 h2 hl hl2 with ⟨hc,r',m',hs,hv⟩ | ⟨hc,hv⟩
  · rw [hv] at main
    obtain ⟨σ',e⟩:=main (fun N σ h=>Lp hs h) false (fun N σ h=>ze7 hs (by exact pq ‹_› (by decide)))
    exact ⟨_,σ',e,.inl ⟨hc,r',m',hs,rfl⟩⟩
  · rw [hv] at main
    obtain ⟨σ',e⟩:=main (fun N σ h=>zhm h) true (fun N σ h=>by
      obtain ⟨n,rfl⟩:=Tg h
      exact Jz (n+10) σ)
    exact ⟨_,σ',e,.inr ⟨hc,rfl⟩⟩
theorem zc0(h1:SgOk r m) (h2:SgOk w q) (hl:r.length≤2) (hl2:w.length≤2):∃v,af Pt 620 545 [KINDS,sg r m,sg w q]=some v∧∀σ,bo σ .NotEq v BOT=some (d7 r m w q):=by
  obtain ⟨v,σ',e,⟨hc,r',m',hs,rfl⟩ | ⟨hc,rfl⟩⟩:=zcr h1 h2 hl hl2
  · refine ⟨sg r' m',?_,fun σ=>?_⟩
    · unfold af;rw [e]
      exact (db hs.toShOk).fz σ' (show 24≤gt by decide +kernel)
    · rw [hc];exact congrFun (congrFun (congrFun zol r') m') σ
  · refine ⟨BOT,?_,fun σ=>?_⟩
    · unfold af;rw [e];kernel_rfl
    · rw [hc];exact congrFun zmv σ
end
noncomputable def Pu:PD:=Pr.put 545 620 (af Pt 620 545)
end
section
noncomputable def tF:Str:=⟨#[102]⟩
noncomputable def zjq:Str:=⟨#[110,117,109,98,101,114]⟩
noncomputable def zhk:Str:=⟨#[104,97,115,95,114,101,115,116]⟩
noncomputable def zpn:Str:=⟨#[99,111,100,101]⟩
noncomputable def zpa:Str:=⟨#[116,114,101,101]⟩
noncomputable def zl8:Str:=⟨#[119,111,114,108,100,95,102,114,111,109]⟩
noncomputable def zto:Str:=⟨#[119,111,114,108,100,95,116,111]⟩
noncomputable def gh:Str:=⟨#[110,97,109,101]⟩
noncomputable def ql:Str:=⟨#[109,101,116,104,111,100,115]⟩
noncomputable def nq:Str:=⟨#[116,97,98,108,101,115]⟩
noncomputable def A8:Str:=⟨#[97,108,108]⟩
noncomputable def Eh:Str:=⟨#[119,111,114,108,100]⟩
abbrev Shp:=List Nat×Option Nat
noncomputable def methKeys:List Str:=[zjq,zkh,zrt,E2,zhk,zpn,zpa,zl8,zto]
noncomputable def ed(i:Nat) (p:Shp):V:=.obj 917 methKeys [.int i,.str tF,sg p.1 p.2,.lst [],.bool p.2.isSome,.none,.none,.int ((i:Int)+2),.none]
noncomputable def meths:Nat→List Shp→List V
  | _,[]=>[]
  | i,p::r=>ed i p::meths (i+1) r
noncomputable def xu(S:List Shp):V:=.obj 602 [gh,ql] [.str tF,.lst (meths 0 S)]
noncomputable def bk(S:List Shp):V:=.obj 680 [cj,nq,A8,Eh] [KINDS,.dct [tF] [xu S],.lst (meths 0 S),.int ((S.length:Int)+1)]
theorem uq:∀(i:Nat) (S:List Shp),(meths i S).length=S.length
  | _,[]=>rfl
  | i,_::r=>by unfold meths;rw [Tl,Tl,uq]
theorem zd:∀{i:Nat}{S:List Shp}{v:V},v∈meths i S→∃j p,v=ed (i+j) p∧j<S.length∧av S j=p
  | _,[],v,h=>by cases h
  | i,p::r,v,h=>by
    unfold meths at h
    rcases Tz.mp h with rfl | h
    · exact ⟨0,p,rfl,U0 _,rfl⟩
    · obtain ⟨j,q,h1,h2,h3⟩:=zd h
      exact ⟨j+1,q,by rw [h1];congr 1;lia,Vv h2,h3⟩
section
variable {c:Nat→Option (Nat×(List V→Option V))}{fre:Nat→Bool}{S:List Shp}{i:Nat}{p:Shp}
theorem zcv{W:Int}(hk:c 900=none) (hW:(i:Int)+2≤W) (hN:40≤N):(run (Pc c fre) N).call 900 [ed i p,.int W] σ=some (.bool true,σ):=by
  obtain ⟨n,rfl⟩:=Tg hN
  have e1:∀σ,bo σ .Lt (.int W) (.int ((i:Int)+2))=some false:=fun σ=>congrArg some (decide_eq_false (show ¬ W<(i:Int)+2 by lia))
  exact ce (ay hk) [aq e1] (by kernel_rfl)
end
end
section
noncomputable def gf:Str:=⟨#[109,101,116,104,111,100]⟩
noncomputable def u5:Str:=Eh
noncomputable def vz:Str:=⟨#[103]⟩
section
variable {c:Nat→Option (Nat×(List V→Option V))}{fre:Nat→Bool}{S:List Shp}{i:Nat}{p:Shp}{W:Int}
theorem zb9(hk:c 599=none) (hk2:c 900=none) (hS:S.length≤10) (hW:(S.length:Int)+1≤W) (hN:80≤N):∃σ' l,Gr σ σ'∧l<σ'.next∧σ.next≤l∧ab σ' l=some (.lst (meths 0 S))∧(run (Pc c fre) N).call 599 [xu S,.int W] σ=some (.ref l,σ'):=by
  obtain ⟨n,rfl⟩:=Tg hN
  have hl:=uq 0 S
  obtain ⟨σ2,g,e⟩:=i5 (P:=Pc c fre) (n:=n+77) (sc:=f599.scope) (ρ:=[(d6,xu S),(u5,.int W)]) (σ:=σ) (e:=rE (ai f599.body 0)) rfl rfl (ρf:=[(u5,.int W)]) (by kernel_rfl) 45 (fun J=>true) id (fun v ρ=>ac gf v ρ) (by rw [hl];exact n8 ‹_› (by decide)) (items:=meths 0 S) (d9 rfl (cp (v:=.lst (meths 0 S)) (σ':=σ) [] (by kernel_rfl)) rfl) (.inl rfl) (fun v hv n σ ρ'=>cu rfl) (fun v hv n σ' g=>by
      obtain ⟨j,p,rfl,hj,_⟩:=zd hv
      exact i8 [ap fun N σ h=>zcv (c:=c) (fre:=fre) (p:=p) hk2 (show ((0+j:Nat):Int)+2≤W by lia) h] (by kernel_rfl)) (fun v hv J n σ' g=>i9 [] (by kernel_rfl)) (fun u hu w hw=>gz _ _ _ _) (by exact pu ‹_› ‹_› (by decide))
  rw [Vh,Up.mpr fun J J=>rfl] at e
  exact ⟨push σ2 (.lst (meths 0 S)),σ2.next,g.trans (Gr.push _ _),Tr _,g.le,bg,ce (ay hk) [cw e] (by kernel_rfl)⟩
end
end
section
section
variable {c:Nat→Option (Nat×(List V→Option V))}{fre:Nat→Bool}{S:List Shp}{i:Nat}{p:Shp}{W:Int}
theorem Ku(hk0:c 641=none) (hk:c 599=none) (hk2:c 900=none) (hS:S.length≤10) (hW:(S.length:Int)+1≤W) (hN:100≤N):∃σ' l,Gr σ σ'∧l<σ'.next∧σ.next≤l∧ab σ' l=some (.lst (meths 0 S))∧(run (Pc c fre) N).call 641 [bk S,.str tF,.int W] σ=some (.ref l,σ'):=by
  obtain ⟨n,rfl⟩:=Tg hN
  obtain ⟨σ',l,g,h1,h2,h3,e⟩:=zb9 (c:=c) (fre:=fre) (σ:=σ) (N:=n+95) hk hk2 hS hW (by lia)
  exact ⟨σ',l,g,h1,h2,h3,ce (ay hk0) [iu e] (by kernel_rfl)⟩
theorem zfz(hk0:c 641=none) (hN:100≤N):(run (Pc c fre) N).call 641 [bk S,.str vz,.int W] σ=some (.ref σ.next,push σ (.lst [])):=by
  obtain ⟨n,rfl⟩:=Tg hN
  exact ce (ay hk0) [] (by kernel_rfl)
noncomputable def Bt(v:V) (f:List Nat→Option Nat→Bool):Bool:=(jy (fg ⟨0,[]⟩ v) fun J J vs=>ob (dr vs 2) fun s=>some (Bl s f)).getD false
theorem Ct(h:SgOk p.1 p.2) (f:List Nat→Option Nat→Bool):Bt (ed i p) f=f p.1 p.2:=Ex h f
noncomputable def Hg(r:List Nat) (m:Option Nat) (v:V):Bool:=Bt v fun w q=>al r m w q
theorem K9{r:List Nat}{m:Option Nat}(h:SgOk p.1 p.2):Hg r m (ed i p)=al r m p.1 p.2:=Ct h _
theorem zhq{P:PD}(hf:P.fn 396=some S5) (hc:P.con 396=some (400,af Pm 400 396)) {r w:List Nat}{m q:Option Nat}(h1:SgOk r m) (h2:SgOk w q) (hN:402≤N):(run P N).call 396 [KINDS,sg r m,sg w q] σ=some (mV (al r m w q),σ):=by
  obtain ⟨n,rfl⟩:=Tg hN
  exact ii hf hc (vf (Pls.cons (db h1.toShOk) (Pls.cons (db h2.toShOk) Pls.nil)).rf) (zbj h1 h2) (by lia)
noncomputable def jj(v:V):V:=.tup [v,D0]
noncomputable def fB:List Stmt:=wB (ai f648.body 1)
noncomputable def rF(S:List Shp) (r:List Nat) (m:Option Nat) (W:Int) (fd:Nat) (X:Loc):Loc:=(d6,bk S)::(gh,.str tF)::(gu,sg r m)::(u5,.int W)::(nt,.ref fd)::X
theorem zev{X:Loc}{r:List Nat}{m:Option Nat}{fd:Nat}{L:List V}(hcn:(Pc c fre).con 396=some (400,af Pm 400 396)) (hr:SgOk r m) (hp:SgOk p.1 p.2) (hs:ab σ fd=some (.lst L)) (hz:L.length≤100) (hN:430≤N) :
    (run (Pc c fre) N).exs f648.scope fB (rF S r m W fd (ac gf (ed i p) X)) σ=some (.next,rF S r m W fd (ac jn (mV (al r m p.1 p.2)) (ac gf (ed i p) X)),if al r m p.1 p.2 then ah σ fd (.lst (L++[jj (ed i p)])) else σ):=by
  obtain ⟨n,rfl⟩:=Tg hN
  have z0:∀X,ae d6 (rF S r m W fd X)=some (bk S):=fun X=>by kernel_rfl
  have z2:∀X,ae gu (rF S r m W fd X)=some (sg r m):=fun X=>by kernel_rfl
  have l4:ae gf (ac gf (ed i p) X)=some (ed i p):=eq ..
  have l5:ae gf (ac jn (mV (al r m p.1 p.2)) (ac gf (ed i p) X))=some (ed i p):=(dk _ _ (by decide +kernel)).trans l4
  have l6:ae jn (ac jn (mV (al r m p.1 p.2)) (ac gf (ed i p) X))=some (mV (al r m p.1 p.2)):=eq ..
  have hm:=fun N σ (h:402≤N)=>zhq (P:=Pc c fre) (σ:=σ) rfl hcn hr hp h
  have hb:=ur (x:=jj (ed i p)) hs (ir hz)
  cases hw:al r m p.1 p.2 with
  | true=>rw [hw] at hm l5 l6;exact iw [ag (z0 (ac gf (ed i p) X)),ag (z2 (ac gf (ed i p) X)),ag l4,ap hm,ag l6,tc (ln hs),ta (lj hs),ag l5,ag l6,sy hb] (by kernel_rfl)
  | false=>rw [hw] at hm l6;exact iw [ag (z0 (ac gf (ed i p) X)),ag (z2 (ac gf (ed i p) X)),ag l4,ap hm,ag l6] (by kernel_rfl)
theorem Cz{r:List Nat}{m:Option Nat}{fd l:Nat}{xs:List V}(hcn:(Pc c fre).con 396=some (400,af Pm 400 396)) (hr:SgOk r m) (hne:fd≠l) (hx:∀v∈xs,∃i p,v=ed i p∧SgOk p.1 p.2):∀(k j:Nat) {X:Loc}{σ:Sto}{L:List V}{N:Nat},j+k=xs.length→ab σ fd=some (.lst L)→ab σ l=some (.lst xs)→L.length+k≤100→432+k≤N→
    ∃X' σ',(run (Pc c fre) N).fo f648.scope (fT (ai f648.body 1)) (.cur l j) fB (rF S r m W fd X) σ=some (.next,rF S r m W fd X',σ')∧ab σ' fd=some (.lst (L++((xs.drop j).filter (Hg r m)).map jj))∧σ'.next=σ.next
  | 0,j,X,σ,L,N,hk,hs,hl,hz,hN=>by
    obtain ⟨n,rfl⟩:∃n,N=n+1:=⟨N-1,by exact im ‹_› (by decide)⟩
    have e0:xs.drop j=[]:=W2.mpr (by lia)
    exact ⟨_,_,lq (tu hl (by rw [uu,e0];rfl)),by rw [e0];simpa using hs,rfl⟩
  | k + 1,j,X,σ,L,N,hk,hs,hl,hz,hN=>by
    obtain ⟨n,rfl⟩:∃n,N=n+2:=⟨N-2,by exact im ‹_› (by decide)⟩
    obtain ⟨v,rest,hd⟩:∃v rest,xs.drop j=v::rest:=by
      cases hq:xs.drop j with
      | nil=>have:=W2.mp hq;lia
      | cons v r=>exact ⟨v,r,rfl⟩
    have hd2:xs.drop (j+1)=rest:=by
      rw [← Yi,hd];rfl
    obtain ⟨i,p,rfl,hp⟩:=hx v (List.mem_of_mem_drop (hd▸Tj ..))
    have e1:=zev (c:=c) (fre:=fre) (W:=W) (i:=i) (N:=n+1) (X:=X) (S:=S) hcn hr hp hs (by exact md ‹_›) (by exact p8 ‹_› (by decide))
    have ea:(run (Pc c fre) (n+1)).asg f648.scope (fT (ai f648.body 1)) (ed i p) (rF S r m W fd X) σ=some (rF S r m W fd (ac gf (ed i p) X),σ):=by kernel_rfl
    have hn:gq σ (.cur l j)=some (some (ed i p,.cur l (j+1))):=F7 hl (by rw [uu,hd];rfl)
    rw [hd,Uw,K9 hp]
    cases hw:al r m p.1 p.2 with
    | true=>
      rw [hw,if_pos rfl] at e1
      obtain ⟨X',σ',a2,a3,a4⟩:=Cz hcn hr hne hx k (j+1) (L:=L++[jj (ed i p)]) (N:=n+1) (by exact oq ‹_›) (bv hs) ((be hne).trans hl) (by rw [T1,Ua];exact re ‹_›) (by exact jk ‹_›)
      refine ⟨X',σ',ku hn ea e1 a2,?_,a4⟩
      rw [a3,hd2,if_pos rfl,T5,We];rfl
    | false=>
      rw [hw,if_neg Ts] at e1
      obtain ⟨X',σ',a2,a3,a4⟩:=Cz hcn hr hne hx k (j+1) (L:=L) (N:=n+1) (by exact oq ‹_›) hs hl (by exact Ur ‹_›) (by exact jk ‹_›)
      refine ⟨X',σ',ku hn ea e1 a2,?_,a4⟩
      rw [a3,hd2,if_neg Ts]
end
end
section
noncomputable def TS(r:List Nat) (m:Option Nat):Nat→List Shp→List (Nat×Shp)
  | _,[]=>[]
  | i,p::S=>if al r m p.1 p.2 then (i,p)::TS r m (i+1) S else TS r m (i+1) S
noncomputable def MX(x:Nat×Shp):V:=ed x.1 x.2
noncomputable def dh(T:List (Nat×Shp)):List Shp:=T.map fun x=>x.2
section
variable {c:Nat→Option (Nat×(List V→Option V))}{fre:Nat→Bool}{S:List Shp}{i:Nat}{p:Shp}{W:Int}{r:List Nat}{m:Option Nat}
theorem Qs:∀{i:Nat}{S:List Shp},(∀p∈S,SgOk p.1 p.2)→(meths i S).filter (Hg r m)=(TS r m i S).map MX
  | _,[],_=>rfl
  | i,p::S,h=>by
    unfold meths TS
    rw [Uw,K9 (h p (Tj ..)),Qs fun q hq=>h q (Ti _ hq)]
    cases al r m p.1 p.2 <;> rfl
theorem E9:∀{i:Nat}{S:List Shp},(TS r m i S).length≤S.length
  | _,[]=>To _
  | i,p::S=>by
    unfold TS
    have:=E9 (i:=i+1) (S:=S)
    split
    · rw [Tl,Tl];exact Ug ‹_›
    · rw [Tl];exact lb ‹_›
theorem El:∀{i:Nat}{S:List Shp}{x:Nat×Shp},x∈TS r m i S→x.2∈S
  | _,[],x,h=>by cases h
  | i,p::S,x,h=>by
    unfold TS at h
    split at h
    · rcases Tz.mp h with rfl | h
      · exact Tj ..
      · exact Ti _ (El h)
    · exact Ti _ (El h)
theorem zg6(hk:c 648=none) (hk1:c 641=none) (hk2:c 599=none) (hk3:c 900=none) (hcn:c 396=some (400,af Pm 400 396)) (hr:SgOk r m) (hS:∀p∈S,SgOk p.1 p.2) (hl:S.length≤10) (hW:(S.length:Int)+1≤W) (hN:460≤N) :
    ∃σ' fd,fd<σ'.next∧ab σ' fd=some (.lst ((TS r m 0 S).map fun x=>jj (MX x)))∧(run (Pc c fre) N).call 648 [bk S,.str tF,sg r m,.int W] σ=some (.ref fd,σ'):=by
  obtain ⟨n,rfl⟩:=Tg hN
  obtain ⟨σ1,l,g,h1,h2,h3,e⟩:=Ku (c:=c) (fre:=fre) (σ:=push σ (.lst [])) (N:=n+455) hk1 hk2 hk3 hl hW (by lia)
  have hfd:ab σ1 σ.next=some (.lst []):=(g.same _ (Tr _)).trans bg
  obtain ⟨X',σ',a2,a3,a4⟩:=Cz (c:=c) (fre:=fre) (S:=S) (W:=W) (fd:=σ.next) (l:=l) (xs:=meths 0 S) hcn hr (by have:σ.next+1≤l:=h2;exact Uz ‹_›) (fun v hv=>by
    obtain ⟨j,p,hv,hj,hp⟩:=zd hv
    exact ⟨_,p,hv,hS p (hp▸kq hj)⟩) (meths 0 S).length 0 (X:=[]) (L:=[]) (N:=n+456) (by exact oj) hfd h3 (by rw [uq];simp;exact Th ‹_› (by decide)) (by rw [uq];exact vh ‹_› (by decide))
  refine ⟨σ',σ.next,?_,?_,ce (ay hk) [iu e,yy (je h3),oz a2] (by kernel_rfl)⟩
  · have:=g.le
    have hh:(push σ (.lst [])).next=σ.next+1:=rfl
    lia
  · rw [a3,List.drop_zero,Qs hS,Vi,Us];rfl
theorem lm{xs:List V}{l i:Nat}(h:ab σ l=some (.lst xs)) (hi:i<xs.length) (h2:xs.length≤4096):di σ (.ref l) (.int i)=dr xs i:=aj (x:=jx σ (.ref l)) (dj h) (cm (c:=sz xs) (Ty h2) (aj (Cn hi) rfl))
noncomputable def dq(T:List (Nat×Shp)) (i:Nat):Nat×Shp:=T.getD i (0,[],none)
theorem zl{α:Type}(f:α→V) (d:α):∀(l:List α) (i:Nat),i<l.length→dr (l.map f) i=some (f (l.getD i d))
  | _::_,0,_=>rfl
  | _::r,i+1,h=>zl f d r i (Tx h)
theorem Lo:∀{S:List Shp},(∀p∈S,SgOk p.1 p.2)→Pls (25+S.length) (lg S)
  | [],_=>Pls.nil.le (by decide)
  | p::S,h=>(Pls.cons (db (h p (Tj ..)).toShOk) (Lo fun q hq=>h q (Ti _ hq))).le (by rw [Tl];exact zra)
theorem Pls.fz{l:List V}{n k:Nat}(h:Pls n l) (σ:Sto) (hk:n≤k):Mine.fzs σ k l=some l:=(At σ false k).2 l h.rf rfl (Nat.le_trans h.dep hk)
theorem zbi{bt:Nat→Nat→Bool}{n:Nat}:xf (rt bt n)=true:=by
  unfold rt;split <;> rfl
theorem zho{P:PD}{T:List Shp}{x:Nat}(hf:P.fn 573=some f573) (hc:P.con 573=some (480,af Pq 480 573)) (hT:∀p∈T,SgOk p.1 p.2) (hl:T.length≤10) (h0:0<T.length) (hs:ab σ x=some (.lst (lg T))) (hN:482≤N):(run P N).call 573 [KINDS,.ref x] σ=some (rt (ez T) T.length,σ):=by
  obtain ⟨n,rfl⟩:=Tg hN
  exact te (args':=[KINDS,.lst (lg T)]) hf hc rfl (ca (n:=199) rfl (ca (n:=198) (ky hs ((Lo hT).fz σ (by exact ya ‹_› (by decide)))) rfl)) (zgs hT hl h0) (.inl zbi) (by lia)
noncomputable def stT(v:V) (ρ:Loc):Loc:=match v with
  | .tup [a,b]=>ac jn b (ac gf a ρ)
  | _=>ρ
noncomputable def rh(T:List (Nat×Shp)):V:=if T.isEmpty then .tup [.str ⟨#[110,111,110,101]⟩] else
  if ia (ez (dh T)) T.length (fc (ez (dh T)) 1 (T.length-1) 0) then .tup [.str ⟨#[111,110,101]⟩,MX (dq T (fc (ez (dh T)) 1 (T.length-1) 0)),D0] else .tup [.str ⟨#[109,97,110,121]⟩,.lst (T.map MX)]
theorem z7(bt:Nat→Nat→Bool) (n:Nat):∀(k lo h:Nat),lo+k=n→h<n→fc bt lo k h<n
  | 0,lo,h,_,hh=>hh
  | k+1,lo,h,hk,hh=>by
    unfold fc
    split
    · exact z7 bt n k (lo+1) h (by exact oq ‹_›) hh
    · exact z7 bt n k (lo+1) lo (by exact oq ‹_›) (by exact ub ‹_›)
theorem Ac:∀(T:List (Nat×Shp)) (σ:Sto) (n:Nat),T.length+2≤n→fzs σ n (T.map MX)=some (T.map MX)
  | [],σ,n,h=>by
    obtain ⟨k,rfl⟩:∃k,n=k+1:=⟨n-1,by exact j8 ‹_› (by decide)⟩
    rfl
  | x::T,σ,n,h=>by
    rw [Tl] at h
    obtain ⟨k,rfl⟩:∃k,n=k+2:=⟨n-2,by exact j8 ‹_› (by decide)⟩
    exact ca rfl (Ac T σ (k+1) (by exact jk ‹_›))
end
end
section
section
variable {S:List Shp}{W:Int}{r:List Nat}{m:Option Nat}{T:List (Nat×Shp)}{fd:Nat}
noncomputable def Bc(S:List Shp) (r:List Nat) (m:Option Nat) (W:Int) (fd:Nat):Loc:=[(d6,bk S),(gh,.str tF),(gu,sg r m),(u5,.int W),(nt,.ref fd)]
theorem qp{v:V}(h:v∈T.map fun x=>jj (MX x)):∃x,x∈T∧v=jj (MX x):=by
  obtain ⟨x,hx,rfl⟩:=Ud.mp h
  exact ⟨x,hx,rfl⟩
noncomputable def znd:V→V
  | .tup [a,_]=>a
  | _=>.none
noncomputable def znl:V→V
  | .tup [.obj _ _ (_::_::s::_),_]=>s
  | _=>.none
noncomputable def Hr(s:Stmt):List Stmt:=wB s
theorem Dp{f:Nat×Shp→V}(hl:T.length≤10):(T.map f).length≤4096:=by rw [List.length_map];exact Nat.le_trans ‹_› (by decide)
theorem zia(hs:ab σ fd=some (.lst (T.map fun x=>jj (MX x)))) (hlt:fd<σ.next) (hl:T.length≤10):∃σ2,Gr σ σ2∧(run Pu 511).ev f653.scope (iy (iy (rE (ai f653.body 2)) 2) 2) (Bc S r m W fd) σ=some (.ref σ2.next,push σ2 (.lst (lg (dh T)))):=by
  obtain ⟨σ2,g,h⟩:=i5 (P:=Pu) (n:=511) (sc:=f653.scope) (ρ:=Bc S r m W fd) (σ:=σ) (e:=iy (iy (rE (ai f653.body 2)) 2) 2) rfl rfl (ρf:=[]) (by kernel_rfl) 20 (fun J=>true) znl stT (by rw [Tm];exact vj ‹_› (by decide)) (items:=T.map fun x=>jj (MX x)) (d9 rfl (cp (v:=.ref fd) (σ':=σ) [] (by kernel_rfl)) (je hs)) (.inr ⟨fd,0,_,rfl,hlt,hs,rfl⟩) (fun v hv n σ ρ'=>by
      obtain ⟨x,_,rfl⟩:=qp hv
      exact tpA [] (by kernel_rfl)) (fun v hv n σ' g=>i8 [] (by kernel_rfl)) (fun v hv J n σ' g=>by
      obtain ⟨x,_,rfl⟩:=qp hv
      exact i9 [] (by kernel_rfl)) (fun u hu w hw=>by
      obtain ⟨x,_,rfl⟩:=qp hu
      obtain ⟨y,_,rfl⟩:=qp hw
      rfl) (Dp hl)
  rw [Up.mpr fun J J=>rfl,Us] at h
  exact ⟨σ2,g,by rw [h];unfold lg dh;rw [Us];rfl⟩
theorem zj3(hs:ab σ fd=some (.lst (T.map fun x=>jj (MX x)))) (hlt:fd<σ.next) (hl:T.length≤10):∃σ2,(run Pu 509).ev f653.scope (iy (rE (ai (Hr (ai f653.body 3)) 0)) 1) (Bc S r m W fd++[(bu,.none)]) σ=some (.ref σ2.next,push σ2 (.lst (T.map MX))):=by
  obtain ⟨σ2,g,h⟩:=i5 (P:=Pu) (n:=509) (sc:=f653.scope) (ρ:=Bc S r m W fd++[(bu,.none)]) (σ:=σ) (e:=iy (rE (ai (Hr (ai f653.body 3)) 0)) 1) rfl rfl (ρf:=[]) (by kernel_rfl) 20 (fun J=>true) znd stT (by rw [Tm];exact vj ‹_› (by decide)) (items:=T.map fun x=>jj (MX x)) (d9 rfl (cp (v:=.ref fd) (σ':=σ) [] (by kernel_rfl)) (je hs)) (.inr ⟨fd,0,_,rfl,hlt,hs,rfl⟩) (fun v hv n σ ρ'=>by
      obtain ⟨x,_,rfl⟩:=qp hv
      exact tpA [] (by kernel_rfl)) (fun v hv n σ' g=>i8 [] (by kernel_rfl)) (fun v hv J n σ' g=>by
      obtain ⟨x,_,rfl⟩:=qp hv
      exact i9 [] (by kernel_rfl)) (fun u hu w hw=>by
      obtain ⟨x,_,rfl⟩:=qp hu
      obtain ⟨y,_,rfl⟩:=qp hw
      rfl) (Dp hl)
  rw [Up.mpr fun J J=>rfl,Us] at h
  exact ⟨σ2,h⟩
end
end
section
section
variable {S:List Shp}{W:Int}{r:List Nat}{m:Option Nat}{T:List (Nat×Shp)}{fd:Nat}
theorem Gu:Pc Pu.con Pu.fre=Pu:=Ad zsh
theorem zf0(hr:SgOk r m) (hS:∀p∈S,SgOk p.1 p.2) (hl:S.length≤10) (hW:(S.length:Int)+1≤W):af Pu 520 653 [bk S,.str tF,sg r m,.int W]=some (rh (TS r m 0 S)):=by
  obtain ⟨σ,fd,h1,h2,e⟩:=zg6 (c:=Pu.con) (fre:=Pu.fre) (σ:=⟨0,[]⟩) (N:=516) (by kernel_rfl) (by kernel_rfl) (by kernel_rfl) (by kernel_rfl) (by kernel_rfl) hr hS hl hW (by decide)
  rw [Gu] at e
  have hT:∀x∈TS r m 0 S,SgOk x.2.1 x.2.2:=fun x hx=>hS _ (El hx)
  have hl':=Th (E9 (r:=r) (m:=m) (i:=0) (S:=S)) hl
  generalize TS r m 0 S=T at h2 hT hl' ⊢
  have fin:∀(V:V) (σ':Sto),(run Pu 520).call 653 [bk S,.str tF,sg r m,.int W] ⟨0,[]⟩=some (V,σ')→fz σ' gt V=some (rh T)→af Pu 520 653 [bk S,.str tF,sg r m,.int W]=some (rh T):=fun J J e h=>by unfold af;rw [e];exact h
  have g1:Gr σ (push σ (.lst [])):=Gr.push _ _
  have hs1:=(g1.same _ h1).trans h2
  have hlt1:fd<(push σ (.lst [])).next:=Tn h1 g1.le
  have hq:=eq_nil hs1 (bg (σ:=σ))
  have hlen:=zz hs1 (ir (by rw [Tm];exact Th ‹_› (by decide)))
  have it0:∀v,∀σ,di σ (jj v) (.int 0)=some v:=fun v σ=>rfl
  match T,hT,hl',h2,hs1,hq,hlen,fin with
  | [],_,_,_,_,hq,_,fin=>exact fin (.tup [.str ⟨#[110,111,110,101]⟩]) (push σ (.lst [])) (ce (ay (by kernel_rfl)) [iu e,fw hq] (by kernel_rfl)) (by kernel_rfl)
  | [x],_,_,_,hs1,hq,hlen,fin=>
    have hi:di (push σ (.lst [])) (.ref fd) (.int 0)=some (jj (MX x)):=lm (i:=0) hs1 (U0 _) (show 1≤4096 by decide)
    exact fin (.tup [.str ⟨#[111,110,101]⟩,MX x,D0]) (push σ (.lst [])) (ce (ay (by kernel_rfl)) [iu e,fw hq,ki hlen,f7 hi,ey (it0 (MX x)),f7 hi] (by kernel_rfl)) rfl
  | x :: y::T,hT,hl',h2,hs1,hq,hlen,fin=>
    have hT':∀p∈dh (x::y::T),SgOk p.1 p.2:=fun p hp=>by
      obtain ⟨x,hx,rfl⟩:=Ud.mp hp
      exact hT x hx
    have hsh:(dh (x::y::T)).length=(x::y::T).length:=Tm _
    obtain ⟨σ2,g2,e2⟩:=zia (S:=S) (r:=r) (m:=m) (W:=W) hs1 hlt1 hl'
    have hb:=fun N (h:482≤N)=>zho (P:=Pu) (σ:=push σ2 (.lst (lg (dh (x::y::T))))) (x:=σ2.next) (T:=dh (x::y::T)) rfl (by kernel_rfl) hT' (by rw [hsh];exact hl') (U0 _) bg h
    rw [hsh] at hb
    have g3:=g2.trans (Gr.push σ2 (.lst (lg (dh (x::y::T)))))
    have hs3:=(g3.same _ hlt1).trans hs1
    have hlt3:=Tn hlt1 g3.le
    have heq:∀σ,bo σ .Eq (.int ((x::y::T).map fun x=>jj (MX x)).length) (.int 1)=some false:=fun σ=>congrArg some (decide_eq_false (by simp;lia))
    have hlv:rh (x::y::T)=if ia (ez (dh (x::y::T))) (x::y::T).length (fc (ez (dh (x::y::T))) 1 ((x::y::T).length-1) 0) then .tup [.str ⟨#[111,110,101]⟩,MX (dq (x::y::T) (fc (ez (dh (x::y::T))) 1 ((x::y::T).length-1) 0)),D0] else .tup [.str ⟨#[109,97,110,121]⟩,.lst ((x::y::T).map MX)]:=rfl
    have hh:fc (ez (dh (x::y::T))) 1 ((x::y::T).length-1) 0<(x::y::T).length:=z7 _ _ _ 1 0 (by rw [Tl];lia) (U0 _)
    unfold rt at hb
    generalize fc (ez (dh (x::y::T))) 1 ((x::y::T).length-1) 0=h at hb hlv hh
    cases ha:ia (ez (dh (x::y::T))) (x::y::T).length h with
    | false=>
      rw [ha] at hb hlv
      obtain ⟨σ4,e4⟩:=zj3 (S:=S) (r:=r) (m:=m) (W:=W) hs3 hlt3 hl'
      refine fin (.tup [.str ⟨#[109,97,110,121]⟩,.ref σ4.next]) (push σ4 (.lst ((x::y::T).map MX))) (ce (ay (by kernel_rfl)) [iu e,fw hq,ki hlen,aq heq,cw e2,df hb,cw e4] (by kernel_rfl)) ?_
      have hm:fzs (push σ4 (.lst ((x::y::T).map MX))) 196 ((x::y::T).map MX)=some ((x::y::T).map MX):=Ac _ _ _ (by exact x4 ‹_› (by decide))
      have:=ca (σ:=push σ4 (.lst ((x::y::T).map MX))) (n:=198) (x:=.str ⟨#[109,97,110,121]⟩) (xs:=[.ref σ4.next]) rfl (ca (n:=197) (ky bg hm) rfl)
      rw [hlv];exact aj (x:=fzs _ 199 _) this rfl
    | true=>
      rw [ha] at hb hlv
      have hi:di _ (.ref fd) (.int h)=some (jj (MX (dq (x::y::T) h))):=(lm hs3 (by rw [Tm];exact hh) (Dp hl')).trans (zl (fun x=>jj (MX x)) (0,[],none) _ _ hh)
      refine fin (.tup [.str ⟨#[111,110,101]⟩,MX (dq (x::y::T) h),D0]) (push σ2 (.lst (lg (dh (x::y::T))))) (ce (ay (by kernel_rfl)) [iu e,fw hq,ki hlen,aq heq,cw e2,df hb,f7 hi,ey (it0 (MX (dq (x::y::T) h))),f7 hi] (by kernel_rfl)) ?_
      rw [hlv];rfl
end
end
section
noncomputable def CS(r:List Nat) (m:Option Nat):Nat→List Shp→List (Nat×Shp)
  | _,[]=>[]
  | i,p::S=>if d7 r m p.1 p.2 then (i,p)::CS r m (i+1) S else CS r m (i+1) S
noncomputable def Hy(r:List Nat) (m:Option Nat) (v:V):Bool:=Bt v fun w q=>d7 r m w q
noncomputable def Pv:PD:=(Pu.put 653 520 (af Pu 520 653)).put 658 640 (af Pu 640 658)
section
variable {S:List Shp}{W:Int}{r:List Nat}{m:Option Nat}{T:List (Nat×Shp)}{i:Nat}{p:Shp}
theorem zdo(hN:200≤N):(run Pu N).call 648 [bk S,.str vz,sg r m,.int W] σ=some (.ref σ.next,push (push σ (.lst [])) (.lst [])):=by
  obtain ⟨n,rfl⟩:=Tg hN
  have e:∀N,100≤N→(run Pu N).call 641 [bk S,.str vz,.int W] (push σ (.lst []))=some (.ref (push σ (.lst [])).next,push (push σ (.lst [])) (.lst [])):=fun N h=>by
    have e:=zfz (c:=Pu.con) (fre:=Pu.fre) (S:=S) (W:=W) (σ:=push σ (.lst [])) (N:=N) (by kernel_rfl) h
    rwa [Gu] at e
  have hn:ab (push (push σ (.lst [])) (.lst [])) (push σ (.lst [])).next=some (.lst []):=bg
  exact ce (ay (by kernel_rfl)) [df e,yy (je hn),tne (tu (i:=0) hn rfl)] (by kernel_rfl)
theorem zdd:af Pu 520 653 [bk S,.str vz,sg r m,.int W]=some (.tup [.str ⟨#[110,111,110,101]⟩]):=by
  have e:=fun N h=>zdo (S:=S) (r:=r) (m:=m) (W:=W) (σ:=⟨0,[]⟩) (N:=N) h
  obtain ⟨σ',e⟩:=eh (v:=.tup [.str ⟨#[110,111,110,101]⟩]) (P:=Pu) (n:=519) (f:=653) (args:=[bk S,.str vz,sg r m,.int W]) (ay (by kernel_rfl)) [df e] (by kernel_rfl)
  unfold af;rw [e];kernel_rfl
theorem Ks(h:SgOk p.1 p.2):Hy r m (ed i p)=d7 r m p.1 p.2:=Ct h _
theorem Oz:∀{i:Nat}{S:List Shp},(∀p∈S,SgOk p.1 p.2)→(meths i S).filter (Hy r m)=(CS r m i S).map MX
  | _,[],_=>rfl
  | i,p::S,h=>by
    unfold meths CS
    rw [Uw,Ks (h p (Tj ..)),Oz fun q hq=>h q (Ti _ hq)]
    cases d7 r m p.1 p.2 <;> rfl
theorem Aa:∀{i:Nat}{S:List Shp},(CS r m i S).length≤S.length
  | _,[]=>To _
  | i,p::S=>by
    unfold CS
    have:=Aa (i:=i+1) (S:=S)
    split
    · rw [Tl,Tl];exact Ug ‹_›
    · rw [Tl];exact lb ‹_›
theorem Ei:∀{i:Nat}{S:List Shp}{x:Nat×Shp},x∈CS r m i S→x.2∈S
  | _,[],x,h=>by cases h
  | i,p::S,x,h=>by
    unfold CS at h
    split at h
    · rcases Tz.mp h with rfl | h
      · exact Tj ..
      · exact Ti _ (Ei h)
    · exact Ti _ (Ei h)
theorem Ln (hr:SgOk r m) (hr2:r.length≤2) (hS:∀p∈S,SgOk p.1 p.2∧p.1.length≤2) (hl:S.length≤4) (hW:(S.length:Int)+1≤W):af Pu 640 658 [bk S,.str tF,sg r m,.int W]=some (.lst ((CS r m 0 S).map MX)):=by
  obtain ⟨σ1,l,g,h1,h2,h3,e⟩:=Ku (c:=Pu.con) (fre:=Pu.fre) (S:=S) (W:=W) (σ:=⟨0,[]⟩) (N:=635) (by kernel_rfl) (by kernel_rfl) (by kernel_rfl) (by exact Th ‹_› (by decide)) hW (by decide)
  rw [Gu] at e
  obtain ⟨σ2,g2,e2⟩:=i5 (P:=Pu) (n:=637) (sc:=f658.scope) (ρ:=[(d6,bk S),(gh,.str tF),(gu,sg r m),(u5,.int W)]) (σ:=⟨0,[]⟩) (σ1:=σ1) (e:=rE (ai f658.body 0)) rfl rfl (ρf:=[(d6,bk S),(gu,sg r m)]) (by kernel_rfl) 627 (Hy r m) id (fun v ρ=>ac nf v ρ) (by rw [uq];exact vj ‹_› (by decide)) (items:=meths 0 S) (d9 rfl (cp (v:=.ref l) (σ':=σ1) [iu e] (by kernel_rfl)) (je h3)) (.inr ⟨l,0,_,rfl,h1,h3,rfl⟩) (fun v hv n σ ρ'=>cu rfl) (fun v hv n σ' g=>by
      obtain ⟨j,p,rfl,hj,hp⟩:=zd hv
      obtain ⟨hp1,hp2⟩:=hS p (hp▸kq hj)
      obtain ⟨u,hu,hne⟩:=zc0 hr hp1 hr2 hp2
      rw [Ks hp1]
      have hin:∀N σ,622≤N→(run Pu N).call 545 [KINDS,sg r m,sg p.1 p.2] σ=some (u,σ):=fun N σ h=>by
        obtain ⟨n,rfl⟩:=Tg h
        exact ii (fd:=zac) (c:=620) (g:=af Pt 620 545) rfl (by kernel_rfl) (vf (Pls.cons (db hr.toShOk) (Pls.cons (db hp1.toShOk) Pls.nil)).rf) hu (by lia)
      exact i8 [ap hin,aq hne] (by kernel_rfl)) (fun v hv J n σ' g=>i9 [] (by kernel_rfl)) (fun u hu w hw=>gz _ _ _ _) (by rw [uq];exact Th ‹_› (by decide))
  rw [Vh,Oz fun p hp=>(hS p hp).1] at e2
  have e3:(run Pu 640).call 658 [bk S,.str tF,sg r m,.int W] ⟨0,[]⟩=some (.ref σ2.next,push σ2 (.lst ((CS r m 0 S).map MX))):=ce (ay (by kernel_rfl)) [cw e2] (by kernel_rfl)
  have hlen:(CS r m 0 S).length≤S.length:=Aa
  unfold af;rw [e3]
  exact ky (n:=199) bg (Ac _ _ _ (by exact zqr ‹_› ‹_› (by decide)))
end
end
section
noncomputable def o9:Str:=⟨#[111,116,104,101,114]⟩
noncomputable def nc(r:List Nat) (m:Option Nat) (i:Nat) (p:Shp) (x:Nat×Shp):Bool:=(!decide (x.1=i)&&al r m x.2.1 x.2.2)&&eu x.2.1 x.2.2 p.1 p.2
noncomputable def hB:List Stmt:=wB (ai f665.body 0)
noncomputable def fl5(b:Bool):Fl:=if b then .ret (.bool true) else .next
section
variable {S:List Shp}{W:Int}{r:List Nat}{m:Option Nat}{T:List (Nat×Shp)}{i:Nat}{p:Shp}{x:Nat×Shp}
theorem znc{w:List Nat}{q:Option Nat}(h1:SgOk r m) (h2:SgOk w q) (hN:402≤N):(run Pv N).call 383 [KINDS,sg r m,sg w q] σ=some (.bool (al r m w q),σ):=zq rfl (by kernel_rfl) h1 h2 hN
theorem zht{w:List Nat}{q:Option Nat}(h1:SgOk r m) (h2:SgOk w q) (hN:422≤N):(run Pv N).call 559 [KINDS,sg r m,sg w q] σ=some (.bool (eu r m w q),σ):=by
  obtain ⟨n,rfl⟩:=Tg hN
  exact ii (fd:=Gf) (c:=420) (g:=af Pn 420 559) rfl (by kernel_rfl) (vf (Pls.cons (db h1.toShOk) (Pls.cons (db h2.toShOk) Pls.nil)).rf) (Kx h1 h2) (by lia)
noncomputable def rH(S:List Shp) (i:Nat) (p:Shp) (r:List Nat) (m:Option Nat) (T:List (Nat×Shp)) (X:Loc):Loc:=(d6,bk S)::(gf,ed i p)::(gu,sg r m)::(zo,.lst (T.map MX))::X
theorem zfa{X:Loc}{T0:List (Nat×Shp)}(hr:SgOk r m) (hp:SgOk p.1 p.2) (hx:SgOk x.2.1 x.2.2) (hN:440≤N):(run Pv N).exs f665.scope hB (rH S i p r m T0 (ac o9 (MX x) X)) σ=some (fl5 (nc r m i p x),rH S i p r m T0 (ac o9 (MX x) X),σ):=by
  obtain ⟨n,rfl⟩:=Tg hN
  have z0:∀X,ae d6 (rH S i p r m T0 X)=some (bk S):=fun X=>by kernel_rfl
  have z2:∀X,ae gu (rH S i p r m T0 X)=some (sg r m):=fun X=>by kernel_rfl
  have l:=eq o9 (MX x) X
  have hne:∀σ,bo σ .NotEq (.int x.1) (.int i)=some (!decide (x.1=i)):=fun σ=>congrArg some (congrArg (!·) (decide_eq_decide.mpr Xl))
  have h1:=fun N σ (h:402≤N)=>znc (σ:=σ) hr hx h
  have h2:=fun N σ (h:422≤N)=>zht (σ:=σ) hx hp h
  unfold nc
  cases e0:decide (x.1=i) with
  | true=>rw [e0] at hne;exact iw [ag l,aq hne] (by kernel_rfl)
  | false=>
    rw [e0] at hne
    cases e1:al r m x.2.1 x.2.2 with
    | false=>rw [e1] at h1;exact iw [ag l,aq hne,ag (z0 (ac o9 (MX x) X)),ag (z2 (ac o9 (MX x) X)),ag l,ap h1] (by kernel_rfl)
    | true=>
      rw [e1] at h1
      cases e2:eu x.2.1 x.2.2 p.1 p.2 <;> rw [e2] at h2 <;> exact iw [ag l,aq hne,ag (z0 (ac o9 (MX x) X)),ag (z2 (ac o9 (MX x) X)),ag l,ap h1,ag (z0 (ac o9 (MX x) X)),ag l,ap h2] (by kernel_rfl)
theorem Kt{T0:List (Nat×Shp)}(hr:SgOk r m) (hp:SgOk p.1 p.2):∀(T:List (Nat×Shp)) {X:Loc}{N:Nat},(∀x∈T,SgOk x.2.1 x.2.2)→442+T.length≤N→
    ∃X',(run Pv N).fo f665.scope (fT (ai f665.body 0)) (.items (T.map MX)) hB (rH S i p r m T0 X) σ=some (fl5 (T.any (nc r m i p)),rH S i p r m T0 X',σ)
  | [],X,N,hT,hN=>by
    obtain ⟨n,rfl⟩:∃n,N=n+1:=⟨N-1,by exact im ‹_› (by decide)⟩
    exact ⟨_,lq rfl⟩
  | x :: T,X,N,hT,hN=>by
    obtain ⟨n,rfl⟩:∃n,N=n+2:=⟨N-2,by exact im ‹_› (by decide)⟩
    rw [Tl] at hN
    have e1:=zfa (N:=n+1) (σ:=σ) (S:=S) (i:=i) (X:=X) (T0:=T0) hr hp (hT x (Tj ..)) (by exact p8 ‹_› (by decide))
    have ea:(run Pv (n+1)).asg f665.scope (fT (ai f665.body 0)) (MX x) (rH S i p r m T0 X) σ=some (rH S i p r m T0 (ac o9 (MX x) X),σ):=by kernel_rfl
    rw [Xk]
    cases hb:nc r m i p x with
    | true=>
      rw [hb] at e1
      exact ⟨_,Af rfl ea e1⟩
    | false=>
      rw [hb] at e1
      rw [Vc]
      obtain ⟨X',e2⟩:=Kt hr hp T (N:=n+1) (fun y hy=>hT y (Ti _ hy)) (by exact jk ‹_›)
      exact ⟨X',ku rfl ea e1 e2⟩
theorem ze6(hr:SgOk r m) (hp:SgOk p.1 p.2) (hT:∀x∈T,SgOk x.2.1 x.2.2) (hl:T.length≤10) (hN:460≤N):(run Pv N).call 665 [bk S,ed i p,sg r m,.lst (T.map MX)] σ=some (.bool (T.any (nc r m i p)),σ):=by
  obtain ⟨n,rfl⟩:=Tg hN
  obtain ⟨X',e⟩:=Kt (σ:=σ) (S:=S) (i:=i) (T0:=T) hr hp T (X:=[]) (N:=n+457) hT (by exact vh ‹_› (by decide))
  cases h:T.any (nc r m i p) <;> rw [h] at e <;> exact ce (ay (by kernel_rfl)) [oz e] (by kernel_rfl)
noncomputable def MS(r:List Nat) (m:Option Nat) (T:List (Nat×Shp)):List (Nat×Shp):=T.filter fun x=>!T.any (nc r m x.1 x.2)
theorem zja(hr:SgOk r m) (hr2:r.length≤2) (hS:∀p∈S,SgOk p.1 p.2∧p.1.length≤2) (hl:S.length≤4) (hW:(S.length:Int)+1≤W):af Pv 650 670 [bk S,.str tF,sg r m,.int W]=some (.lst ((MS r m (CS r m 0 S)).map MX)):=by
  have hlen:(CS r m 0 S).length≤S.length:=Aa
  have hTS:∀x∈CS r m 0 S,SgOk x.2.1 x.2.2:=fun x hx=>(hS _ (Ei hx)).1
  have e1:∀N,642≤N→(run Pv N).call 658 [bk S,.str tF,sg r m,.int W] ⟨0,[]⟩=some (.lst ((CS r m 0 S).map MX),⟨0,[]⟩):=fun N hN=>by
    obtain ⟨n,rfl⟩:=Tg hN
    exact ii (fd:=f658) (c:=640) (g:=af Pu 640 658) rfl (by kernel_rfl) (by show (rf (bk S)&&(true&&(rf (sg r m)&&(true&&true))))=true;rw [(db hr.toShOk).rf];rfl) (Ln hr hr2 hS hl hW) (by lia)
  have key:∃q:V→Bool,∀x:Nat×Shp,q (MX x) = !(CS r m 0 S).any (nc r m x.1 x.2)∨¬ SgOk x.2.1 x.2.2:=by
    refine ⟨fun v=>(jy (fg ⟨0,[]⟩ v) fun J J vs=>ob (dr vs 0) fun n=>ob (ja n) fun i=>some (Bt v fun w q=>!(CS r m 0 S).any (nc r m i.toNat (w,q)))).getD false,fun x=>?_⟩
    by_cases h:SgOk x.2.1 x.2.2
    · left
      exact Ct (i:=x.1) h _
    · exact .inr h
  obtain ⟨q,hq⟩:=key
  have hmem:∀{v:V},v∈(CS r m 0 S).map MX→∃x,x∈CS r m 0 S∧v=MX x:=fun hv=>by
    obtain ⟨x,hx,rfl⟩:=Ud.mp hv
    exact ⟨x,hx,rfl⟩
  obtain ⟨σ2,g2,e2⟩:=i5 (P:=Pv) (n:=646) (sc:=f670.scope) (ρ:=[(d6,bk S),(gh,.str tF),(gu,sg r m),(u5,.int W),(nt,.lst ((CS r m 0 S).map MX))]) (σ:=⟨0,[]⟩) (e:=rE (ai f670.body 1)) rfl rfl (ρf:=[(d6,bk S),(gu,sg r m),(nt,.lst ((CS r m 0 S).map MX))]) (by kernel_rfl) 480 q id (fun v ρ=>ac gf v ρ) (by rw [Tm];exact F5 ‹_› ‹_› (by decide)) (items:=(CS r m 0 S).map MX) (d9 rfl (cp (v:=.lst ((CS r m 0 S).map MX)) (σ':=⟨0,[]⟩) [] (by kernel_rfl)) rfl) (.inl rfl) (fun v hv n σ ρ'=>cu rfl) (fun v hv n σ' g=>by
      obtain ⟨x,hx,rfl⟩:=hmem hv
      have hxs:=hTS x hx
      have h:=(hq x).resolve_right fun h=>h hxs
      rw [h]
      exact i8 [ap fun N σ h=>ze6 (S:=S) (i:=x.1) (p:=x.2) (σ:=σ) hr hxs hTS (by exact m5 ‹_› ‹_› (by decide)) h] (by kernel_rfl)) (fun v hv J n σ' g=>i9 [] (by kernel_rfl)) (fun u hu w hw=>gz _ _ _ _) (by rw [Tm];exact m5 ‹_› ‹_› (by decide))
  have hfil:((CS r m 0 S).map MX).filter q=(MS r m (CS r m 0 S)).map MX:=by
    unfold MS
    rw [X8]
    congr 1
    refine Xj fun x hx=>?_
    exact (hq x).resolve_right fun h=>h (hTS x hx)
  rw [Vh,hfil] at e2
  have e3:(run Pv 650).call 670 [bk S,.str tF,sg r m,.int W] ⟨0,[]⟩=some (.ref σ2.next,push σ2 (.lst ((MS r m (CS r m 0 S)).map MX))):=ce (ay (by kernel_rfl)) [df e1,cw e2] (by kernel_rfl)
  have hlm:(MS r m (CS r m 0 S)).length≤(CS r m 0 S).length:=Vj _ _
  unfold af;rw [e3]
  exact ky (n:=199) bg (Ac _ _ _ (by exact zo8 ‹_› ‹_› ‹_› (by decide)))
end
noncomputable def Pw:PD:=Pv.put 670 650 (af Pv 650 670)
end
section
noncomputable def j9:Str:=⟨#[114,111,119]⟩
noncomputable def Rk:Str:=⟨#[109,97,110,121]⟩
noncomputable def Rs:Str:=⟨#[114,111,119,115]⟩
noncomputable def ext(r:List Nat) (m:Option Nat) (K:Nat):List V:=r.map sw++gw (K-r.length) [so m]
theorem L6(v:V):∀(n i:Nat),i<n→dr (gw n [v]) i=some v
  | 0,i,h=>absurd h (Tw _)
  | n+1,0,_=>rfl
  | n+1,i+1,h=>L6 v n i (Tx h)
theorem Dw(v:V):∀n,(gw n [v]).length=n
  | 0=>rfl
  | n+1=>by unfold gw;rw [T1,Ua,Dw];lia
theorem Ly:∀(a b:List V) (i:Nat),dr (a++b) i=if i<a.length then dr a i else dr b (i-a.length)
  | [],b,i=>by simp
  | x::a,b,0=>by simp [dr]
  | x::a,b,i+1=>by
    show dr (a++b) i=_
    rw [Ly a b i,Tl]
    by_cases c:i<a.length
    · rw [if_pos c,if_pos (by exact Vv ‹_›)];rfl
    · rw [if_neg c,if_neg (by lia)];congr 1;lia
theorem Lj{r:List Nat}{m:Option Nat}{K i:Nat}(hi:i<K) (h:i<r.length∨m.isSome=true):dr (ext r m K) i=some (.str (wd (bn r m i))):=by
  unfold ext
  rw [Ly,Tm]
  unfold bn
  by_cases c:i<r.length
  · rw [if_pos c,if_pos c,zu _ _ _ c];rfl
  · rw [if_neg c,if_neg c,L6 _ _ _ (by exact zny ‹_› ‹_›)]
    rcases h with h | h
    · exact absurd h c
    · cases m with
      | none=>cases h
      | some y=>rfl
theorem wn{r:List Nat}{m:Option Nat}{K:Nat}(h:r.length≤K):(ext r m K).length=K:=by
  unfold ext
  rw [T1,Tm,Dw];exact Qw ‹_›
noncomputable def cB:List Stmt:=wB (ai f990.body 2)
section
variable {c:Nat→Option (Nat×(List V→Option V))}{fre:Nat→Bool}{k K:Nat}{r w:List Nat}{m q:Option Nat}{L:List V}
theorem zm2(h:∀i,m=some i→i<7):bo σ .Eq (so m) (.str ⟨#[]⟩)=some m.isNone:=by
  cases m with
  | none=>rfl
  | some i=>show some (seq (wd i) _)=_;rw [Qq (h i rfl)];rfl
noncomputable def stC(σ:Sto) (k:Nat) (r:List Nat) (m:Option Nat) (K:Nat) (L:List V):Sto:=ah (push (push (push σ (.lst [so m])) (.lst (gw (K-r.length) [so m]))) (.lst (ext r m K))) k (.lst (L++[.ref (σ.next+2)]))
noncomputable def pz(r:List Nat) (m:Option Nat) (K:Nat):Bool:=decide (r.length<K)&&m.isNone
theorem Eb(r:List Nat) (h:r.length≤3):∀σ,blt σ (.builtin "len") [.lst (r.map sw)]=some (.int r.length,σ):=fun σ=>by rw [qw (by rw [List.length_map];exact Nat.le_trans ‹_› (by decide)),List.length_map]
theorem Nq{a b:Nat}{d:Bool}(h:decide (a<b)=d):∀σ,bo σ .Lt (.int a) (.int b)=some d:=fun σ=>congrArg some ((decide_eq_decide.mpr Int.ofNat_lt).trans h)
theorem Ld(hr:ShOk r m) (h1:ae j9 ρ=some (.lst (r.map sw))) (h2:ae ph ρ=some (so m)) (h3:ae Rk ρ=some (.int K)) (n:Nat):(run Pw (n+20)).tr f990.scope (r5 (ai cB 0)) ρ σ=some (pz r m K,σ):=by
  unfold pz
  have hl:=Eb r hr.len
  cases h:decide (r.length<K) with
  | false=>exact jz [ag h1,bh hl,ag h3,aq (Nq h)] (by kernel_rfl)
  | true=>exact jz [ag h1,bh hl,ag h3,aq (Nq h),ag h2,aq fun σ=>zm2 (σ:=σ) hr.more] (by kernel_rfl)
theorem Mb(h:K≤3) (hrK:r.length≤K):ff (push σ (.lst [so m])) .Mult (.ref σ.next) (.int ((K:Int)-r.length))=some (.ref (σ.next+1),push (push σ (.lst [so m])) (.lst (gw (K-r.length) [so m]))):=by
  show ob (bj (push σ (.lst [so m])) (.ref σ.next)) _=_
  rw [dj bg]
  show (if (decide (0≤(K:Int)-r.length∧(K:Int)-r.length<1000)&&sz (gw ((K:Int)-r.length).toNat [so m]))=true then some (gi (push σ (.lst [so m])) (.lst (gw ((K:Int)-r.length).toNat [so m]))) else none)=_
  rw [show ((K:Int)-r.length).toNat=K-r.length by exact Rz,if_pos (by rw [decide_eq_true ⟨by lia,by lia⟩,ir (by rw [Dw];exact zp7 ‹_› (by decide))];rfl)];rfl
theorem Mm(h:K≤3) (hrK:r.length≤K):ff (push (push σ (.lst [so m])) (.lst (gw (K-r.length) [so m]))) .Add (.lst (r.map sw)) (.ref (σ.next+1))=some (.ref (σ.next+2),push (push (push σ (.lst [so m])) (.lst (gw (K-r.length) [so m]))) (.lst (ext r m K))):=by
  show ob (bj (push (push σ (.lst [so m])) (.lst (gw (K-r.length) [so m]))) (.ref (σ.next+1))) _=_
  rw [dj (σ:=push (push σ (.lst [so m])) (.lst (gw (K-r.length) [so m]))) (m:=σ.next+1) bg]
  exact if_pos (ir (by show (ext r m K).length≤100;rw [wn hrK];exact Th ‹_› (by decide)))
end
end
section
section
variable {k K:Nat}{r w:List Nat}{m q:Option Nat}{L:List V}
noncomputable def Bs:Sto:=push ⟨0,[]⟩ (.lst [])
noncomputable def Bw(r:List Nat) (m:Option Nat) (K:Nat):Sto:=stC Bs 0 r m K []
noncomputable def yw(r:List Nat) (m:Option Nat) (w:List Nat) (q:Option Nat) (K:Nat):Sto:=stC (Bw r m K) 0 w q K [.ref 3]
theorem zim{i j:Nat}(hi:i<7) (hj:j<7) (hN:72≤N):(run Pw N).call 985 [.str (wd i),.str (wd j)] σ=some (.bool (mt i j),σ):=km (P':=Pd) (k:=70) rfl (by kernel_rfl) rfl (zgx hi hj) hN
noncomputable def G3(r:List Nat) (m:Option Nat) (w:List Nat) (q:Option Nat) (K:Nat):Loc:=[(nf,bq r m),(nw,bq w q),(Rs,.ref 0),(Rk,.int K)]
theorem zlx:ma r m w q=(pz r m (max r.length w.length)||pz w q (max r.length w.length)):=by
  unfold ma pz
  have e1:decide (r.length<max r.length w.length)=decide (r.length<w.length):=decide_eq_decide.mpr (by exact Qf)
  have e2:decide (w.length<max r.length w.length)=decide (w.length<r.length):=decide_eq_decide.mpr (by exact zqj)
  rw [e1,e2,Yq,Yq (decide (w.length<r.length))]
theorem zcf(K:Nat) (f:Nat→Bool) (p:V→Bool) (h:∀i,i<K→p (.int i) = !f i):((((T6 0 K).map fun (i:Nat)=>V.int (i:Int)).filter p).map id).isEmpty=(T6 0 K).all f:=by
  rw [Vh]
  have:∀l:List Nat,(∀i∈l,p (.int i) = !f i)→((l.map fun (i:Nat)=>V.int (i:Int)).filter p).isEmpty=l.all f:=fun l=>by
    induction l with
    | nil=>intro _;rfl
    | cons a l ih=>
      intro hl
      rw [T5,Vb,Uw,hl a (Tj ..)]
      cases f a with
      | true=>exact ih fun i hi=>hl i (Ti _ hi)
      | false=>rfl
  exact this _ fun i hi=>h i (by have:=(Uk.mp hi).2;exact lc ‹_›)
theorem sub_int(a b:Int):∀σ,ff σ .Sub (.int a) (.int b)=some (.int (a-b),σ):=fun J=>rfl
theorem Na(h:pz r m K=false) (i:Nat) (hi:i<K):i<r.length∨m.isSome=true:=by
  unfold pz at h
  rcases Wc.mp h with h | h
  · left;have:=of_decide_eq_false h;exact zt4 ‹_› ‹_›
  · right;cases m <;> first | rfl | cases h
theorem zgj(h1:ShOk r m) (h2:ShOk w q):∃σ',(run Pw 120).call 990 [bq r m,bq w q] ⟨0,[]⟩=some (.bool (d7 r m w q),σ'):=by
  have hr:=Eb r h1.len
  have hw:=Eb w h2.len
  have hm:∀σ,blt σ (.builtin "max") [.int r.length,.int w.length]=some (.int (max r.length w.length:Nat),σ):=fun σ=>Lv
  have hK:max r.length w.length≤3:=Yr.mpr ⟨h1.len,h2.len⟩
  have ha:r.length≤max r.length w.length:=X3 ..
  have hb:w.length≤max r.length w.length:=Xm ..
  unfold d7
  rw [zlx]
  generalize max r.length w.length=K at hm hK ha hb ⊢
  have t1:=Ld (K:=K) (σ:=Bs) (ρ:=G3 r m w q K++[(j9,.lst (r.map sw)),(ph,so m)]) h1 rfl rfl rfl 92
  have t2:=Ld (K:=K) (σ:=Bw r m K) (ρ:=G3 r m w q K++[(j9,.lst (w.map sw)),(ph,so q)]) h2 rfl rfl rfl 91
  have m1:=Mb (m:=m) (σ:=Bs) hK ha
  have a1:=Mm (m:=m) (σ:=Bs) hK ha
  have m2:=Mb (m:=q) (σ:=Bw r m K) hK hb
  have a2:=Mm (m:=q) (σ:=Bw r m K) hK hb
  cases c1:pz r m K with
  | true=>exact eh (ay (by kernel_rfl)) [bh hr,bh hw,bh hm,ix t1,gy c1] (by kernel_rfl)
  | false =>cases c2:pz w q K with
    | true=>exact eh (ay (by kernel_rfl)) [bh hr,bh hw,bh hm,ix t1,gy c1,bh hr,lh (sub_int K r.length),mf m1,mf a1,ix t2,gy c2] (by kernel_rfl)
    | false=>
      have g0:ab (yw r m w q K) 0=some (.lst [.ref 3,.ref 6]):=rfl
      have g3:ab (yw r m w q K) 3=some (.lst (ext r m K)):=rfl
      have g6:ab (yw r m w q K) 6=some (.lst (ext w q K)):=rfl
      have hz:(fj 0 K).length=K:=by unfold fj;rw [Tm,Uu]
      obtain ⟨σ2,gg,e2⟩:=i5 (P:=Pw) (n:=113) (sc:=f990.scope) (ρ:=G3 r m w q K++[(j9,.lst (w.map sw)),(ph,so q)]) (σ:=yw r m w q K) (e:=iy (rE (ai f990.body 3)) 0) rfl rfl (ρf:=[(Rs,.ref 0)]) (by kernel_rfl) 85 (fun v=>match v with | .int i=>!mt (bn r m i.toNat) (bn w q i.toNat) | _=>false) id (fun v ρ=>ac bu v ρ) (by exact znm ‹_› ‹_› (by decide)) (items:=fj 0 K) (d9 rfl (cp (v:=.rng 0 K) (σ':=yw r m w q K) [] (by kernel_rfl)) (mo (by exact Th ‹_› (by decide)))) (.inl rfl) (fun v hv n σ ρ'=>cu rfl) (fun v hv n σ' g=>by
          obtain ⟨i,hi,rfl⟩:=Ud.mp hv
          have hi:i<K:=by have:=(Uk.mp hi).2;exact lc ‹_›
          have k0:=(g.same 0 (show 0<7 by decide)).trans g0
          have k3:=(g.same 3 (show 3<7 by decide)).trans g3
          have k6:=(g.same 6 (show 6<7 by decide)).trans g6
          have i0:di σ' (.ref 0) (.int 0)=some (.ref 3):=lm (i:=0) k0 (show 0<2 by decide) (show 2≤4096 by decide)
          have i1:di σ' (.ref 0) (.int 1)=some (.ref 6):=lm (i:=1) k0 (show 1<2 by decide) (show 2≤4096 by decide)
          have i2:di σ' (.ref 3) (.int i)=some (.str (wd (bn r m i))):=(lm k3 (by rw [wn ha];exact hi) (by rw [wn ha];exact Th ‹_› (by decide))).trans (Lj hi (Na c1 i hi))
          have i3:di σ' (.ref 6) (.int i)=some (.str (wd (bn w q i))):=(lm k6 (by rw [wn hb];exact hi) (by rw [wn hb];exact Th ‹_› (by decide))).trans (Lj hi (Na c2 i hi))
          exact i8 [f7 i0,f7 i2,f7 i1,f7 i3,ap fun N σ h=>zim (σ:=σ) (jd h1.row h1.more i) (jd h2.row h2.more i) h] (by kernel_rfl)) (fun v hv J n σ' g=>i9 [] (by kernel_rfl)) (fun u hu w hw=>gz _ _ _ _) (by exact pu ‹_› ‹_› (by decide))
      have hcmp:=eq_nil (σ:=push (push σ2 (.lst (((fj 0 K).filter (fun v=>match v with | .int i=>!mt (bn r m i.toNat) (bn w q i.toNat) | _=>false)).map id))) (.lst [])) (a:=σ2.next) (b:=σ2.next+1) ((cg (Tr _)).trans bg) bg
      unfold fj at hcmp
      rw [zcf _ (fun i=>mt (bn r m i) (bn w q i)) _ (fun i hi=>rfl)] at hcmp
      exact eh (ay (by kernel_rfl)) [bh hr,bh hw,bh hm,ix t1,gy c1,bh hr,lh (sub_int K r.length),mf m1,mf a1,ix t2,gy c2,bh hw,lh (sub_int K w.length),mf m2,mf a2,cw e2,fw hcmp] (by kernel_rfl)
theorem zhy(h1:ShOk r m) (h2:ShOk w q):af Pw 120 990 [bq r m,bq w q]=some (.bool (d7 r m w q)):=by
  obtain ⟨σ',e⟩:=zgj h1 h2
  unfold af;rw [e];rfl
end
noncomputable def Px:PD:=Pw.put 990 120 (af Pw 120 990)
end
section
section
variable {r:List Nat}{m:Option Nat}{S:List Shp}{T:List (Nat×Shp)}{bt:Nat→Nat→Bool}
theorem Jk (asym:∀a b,bt a b=true→bt b a=true→False) {a:Nat}(ha:ia bt n a=true) (han:a<n):∀(k lo h:Nat),lo+k=n→h<lo→(a<lo→h=a)→fc bt lo k h=a
  | 0,lo,h,hk,hh,hi=>hi (by lia)
  | k + 1,lo,h,hk,hh,hi=>by
    have hall:∀j,j<n→j≠a→bt a j=true:=fun j hj hne=>by
      have:=Ui.mp ha j (Uk.mpr ⟨Ux _,by exact Ru ‹_›⟩)
      rwa [decide_eq_false hne,Vc] at this
    unfold fc
    refine Jk asym ha han k (lo+1) _ (by exact oq ‹_›) ?_ fun hlt=>?_
    · split <;> (first | exact lb ‹_› | exact Tr _)
    · by_cases c:a<lo
      · obtain rfl:=hi c
        rw [if_pos (hall lo (by exact ub ‹_›) (by exact U7 ‹_›))]
      · have e:a=lo:=by exact zpo ‹_› ‹_›
        subst e
        have:bt h a=false:=by
          cases hb:bt h a with
          | false=>rfl
          | true=>exact absurd hb fun q=>asym a h (hall h (by lia) (by exact Uz ‹_›)) q
        rw [this,if_neg Ts]
theorem zbu(p:Nat→Bool) {h:Nat}(hp:p h=true) (hu:∀a,a<n→p a=true→a=h) (hn:h<n):(T6 0 n).filter p=[h]:=by
  have e:T6 0 n=T6 0 h++h::T6 (h+1) (n-h-1):=by
    rw [← U2,show n-h-1+1=n-h by exact P3 ‹_›]
    have:=List.range'_append (s:=0) (m:=h) (n:=n-h) (step:=1)
    rw [show 0+1 * h=h by lia,show h+(n-h)=n by exact zoh ‹_›] at this
    exact this.symm
  rw [e,List.filter_append,Uw,if_pos hp]
  have e1:(T6 0 h).filter p=[]:=U4.mpr fun a ha q=>by
    have:=(Uk.mp ha).2
    have:=hu a (by lia) q
    lia
  have e2:(T6 (h+1) (n-h-1)).filter p=[]:=U4.mpr fun a ha q=>by
    have h1:=Uk.mp ha
    have:=hu a (by exact znz ‹_›) q
    lia
  rw [e1,e2];rfl
theorem zbo(asym:∀a b,bt a b=true→bt b a=true→False) (h0:0<n):(T6 0 n).filter (ia bt n)=if ia bt n (fc bt 1 (n-1) 0) then [fc bt 1 (n-1) 0] else []:=by
  have key:∀a,a<n→ia bt n a=true→a=fc bt 1 (n-1) 0:=fun a han ha=>(Jk asym ha han (n-1) 1 0 (by exact Fr ‹_›) (by decide) (fun h=>by lia)).symm
  split
  · rename_i h
    exact zbu _ h key (z7 bt n (n-1) 1 0 (by exact Fr ‹_›) h0)
  · rename_i h
    refine U4.mpr fun a ha q=>h ?_
    have han:a<n:=by have:=(Uk.mp ha).2;exact lc ‹_›
    rw [← key a han q];exact q
theorem zeb{a b:Shp}(h1:eu a.1 a.2 b.1 b.2=true) (h2:eu b.1 b.2 a.1 a.2=true):False:=by
  unfold eu at h1 h2
  rw [Uc] at h1 h2
  have:=h1.2
  rw [h2.1] at this
  cases this
theorem z9{α:Type}(f:Nat×Shp→α):∀T:List (Nat×Shp),T.map f=(T6 0 T.length).map fun a=>f (dq T a)
  | []=>rfl
  | x::T=>by
    rw [T5,z9 f T,Tl,U2,T5]
    congr 1
    rw [Uv,Uv,Us,Us]
    refine V4 fun i J=>?_
    show f (dq T (0+i))=f (dq (x::T) (0+1+i))
    rw [show 0+1+i=i+1 by lia,show 0+i=i by exact oj];rfl
theorem xj:∀{i:Nat}{S:List Shp}{x:Nat×Shp},x∈TS r m i S→i≤x.1
  | _,[],x,h=>by cases h
  | i,p::S,x,h=>by
    unfold TS at h
    split at h
    · rcases Tz.mp h with rfl | h
      · exact To _
      · have:=xj h;exact Ur ‹_›
    · have:=xj h;exact Ur ‹_›
theorem Es:∀{i:Nat}{S:List Shp}{x:Nat×Shp},x∈TS r m i S→av S (x.1-i)=x.2∧x.1<i+S.length
  | _,[],x,h=>by cases h
  | i,p::S,x,h=>by
    have rest:x∈TS r m (i+1) S→av (p::S) (x.1-i)=x.2∧x.1<i+(p::S).length:=fun h=>by
      have h1:=xj h
      obtain ⟨a,b⟩:=Es h
      obtain ⟨k,hk⟩:∃k,x.1-i=k+1:=⟨x.1-i-1,by exact Qd ‹_›⟩
      rw [hk,Tl]
      refine ⟨?_,by lia⟩
      rw [show x.1-(i+1)=k by exact Ow ‹_›] at a
      exact a
    unfold TS at h
    split at h
    · rcases Tz.mp h with rfl | h
      · exact ⟨by show av (p::S) (i-i)=p;rw [Nat.sub_self];rfl,by rw [Tl];show i<_;lia⟩
      · exact rest h
    · exact rest h
theorem zn:∀{T:List (Nat×Shp)}{a:Nat},a<T.length→dq T a∈T
  | _::_,0,_=>Tj ..
  | _::T,a+1,h=>Ti _ (zn (T:=T) (Tx h))
theorem Ej:∀{i:Nat}{S:List Shp}{a b:Nat},a<(TS r m i S).length→b<(TS r m i S).length→(dq (TS r m i S) a).1=(dq (TS r m i S) b).1→a=b
  | _,[],a,b,h,_,_=>by cases h
  | i,p::S,a,b,ha,hb,e=>by
    unfold TS at ha hb e
    split at ha
    · rename_i c
      rw [if_pos c] at hb e
      cases a with
      | zero=>cases b with
        | zero=>rfl
        | succ b=>
          have:=xj (zn (T:=TS r m (i+1) S) (a:=b) (Tx hb))
          have e:i=(dq (TS r m (i+1) S) b).1:=e
          lia
      | succ a=>cases b with
        | zero=>
          have:=xj (zn (T:=TS r m (i+1) S) (a:=a) (Tx ha))
          have e:(dq (TS r m (i+1) S) a).1=i:=e
          lia
        | succ b=>rw [Ej (i:=i+1) (S:=S) (a:=a) (b:=b) (Tx ha) (Tx hb) e]
    · rename_i c
      rw [if_neg c] at hb e
      exact Ej ha hb e
noncomputable def py(S:List Shp) (tk:List Nat) (i:Nat):Bool:=tk.all fun j=>decide (j=i)||eu (av S i).1 (av S i).2 (av S j).1 (av S j).2
theorem Dq:∀{T:List (Nat×Shp)}{a:Nat},a<T.length→av (dh T) a=(dq T a).2
  | _::_,0,_=>rfl
  | _::T,a+1,h=>Dq (T:=T) (Tx h)
theorem zls(T:List (Nat×Shp)) (hT:T=TS r m 0 S) {a:Nat}(ha:a<T.length):py S (T.map fun x=>x.1) (dq T a).1=ia (ez (dh T)) T.length a:=by
  have hg:∀b,b<T.length→av S (dq T b).1=(dq T b).2:=fun b hb=>by
    have:=zn hb
    rw [hT] at this
    rw [hT]
    exact (Es this).1
  unfold py ia
  rw [z9,V9]
  have e:∀b,b∈T6 0 T.length→((fun j=>decide (j=(dq T a).1)||eu (av S (dq T a).1).1 (av S (dq T a).1).2 (av S j).1 (av S j).2) ∘ fun a=>(dq T a).1) b=(decide (b=a)||ez (dh T) a b):=fun b hb=>by
    have hb:b<T.length:=by have:=(Uk.mp hb).2;exact lc ‹_›
    show (decide ((dq T b).1=(dq T a).1)||eu (av S (dq T a).1).1 (av S (dq T a).1).2 (av S (dq T b).1).1 (av S (dq T b).1).2)=_
    unfold ez
    rw [hg a ha,hg b hb,Dq ha,Dq hb]
    congr 1
    refine decide_eq_decide.mpr ⟨fun h=>?_,fun h=>by rw [h]⟩
    subst hT
    exact Ej hb ha h
  rw [Wa,Ui,Ui]
  exact ⟨fun h b hb=>by rw [← e b hb];exact h b hb,fun h b hb=>by rw [e b hb];exact h b hb⟩
theorem zck(T:List (Nat×Shp)) (hT:T=TS r m 0 S) (h0:0<T.length):(T.map fun x=>x.1).filter (py S (T.map fun x=>x.1))=if ia (ez (dh T)) T.length (fc (ez (dh T)) 1 (T.length-1) 0) then [(dq T (fc (ez (dh T)) 1 (T.length-1) 0)).1] else []:=by
  have e1:(T.map fun x=>x.1).filter (py S (T.map fun x=>x.1))=((T6 0 T.length).filter (ia (ez (dh T)) T.length)).map fun a=>(dq T a).1:=by
    rw [z9 (fun x=>x.1) T,X8]
    congr 1
    refine Xj fun a ha=>?_
    have ha:a<T.length:=by have:=(Uk.mp ha).2;exact lc ‹_›
    have:=zls T hT ha
    rw [z9 (fun x=>x.1) T] at this
    exact this
  have asym:∀a b,ez (dh T) a b=true→ez (dh T) b a=true→False:=fun a b h1 h2=>zeb (a:=av (dh T) a) (b:=av (dh T) b) h1 h2
  rw [e1,zbo asym h0]
  split <;> rfl
end
end
section
noncomputable def bz(p:Shp):V:=bq p.1 p.2
noncomputable def g7:Str:=nq
noncomputable def d5:Str:=⟨#[115,104,97,112,101,115]⟩
noncomputable def tp:Str:=⟨#[116,97,107,105,110,103]⟩
noncomputable def zpw:Str:=⟨#[98,101,115,116]⟩
noncomputable def o0(T:List (Nat×Shp)):List V:=T.map fun x=>V.int x.1
section
theorem zaj{c:Bool}{ifs:List Expr}(g:Gr σ σ') (T:List Item) (e:yi (kg P n) csc ifs ρ σ ⟨T,True⟩=some ((c,σ'),⟨[],kb True T⟩)):∃σ'',Gr σ σ''∧j6 P n csc ifs ρ σ=some (c,σ''):=⟨σ',g,Bq T e⟩
end
section
variable {r w:List Nat}{m q:Option Nat}{S:List Shp}{T:List (Nat×Shp)}
theorem J2(ha:ShOk r m) (hb:ShOk w q) (hN:102≤N):(run Px N).call 971 [bq r m,bq w q] σ=some (.bool (al r m w q),σ):=Cc (P:=Px) rfl (by kernel_rfl) ha hb N σ hN
theorem Jw(ha:ShOk r m) (hb:ShOk w q) (hN:117≤N):(run Px N).call 978 [bq r m,bq w q] σ=some (.bool (eu r m w q),σ):=km (P':=Pb) (k:=115) rfl (by kernel_rfl) Ni (zbx ha hb) hN
theorem M6(ha:ShOk r m) (hN:127≤N):(run Px N).call 959 [bq r m] σ=some (sg r m,σ):=by
  obtain ⟨n,rfl⟩:=Tg hN
  exact ii (fd:=f959) (c:=125) (g:=ip Pf 125 959) rfl (by kernel_rfl) (by cases m <;> rfl) (K8 ha) (by lia)
theorem td{i:Nat}(hl:S.length≤10) (hi:i<S.length):di σ (.lst (S.map bz)) (.int i)=some (bq (av S i).1 (av S i).2):=by
  rw [wj (by rw [Tm];exact hi) (by rw [Tm];exact Th ‹_› (by decide)),zl bz ([],none) S i hi];rfl
theorem La(g:V→Bool):∀(i:Nat) (S:List Shp),(∀k,k<S.length→g (.int ((i+k:Nat):Int))=al r m (av S k).1 (av S k).2)→(((List.range' i S.length).map fun (i:Nat)=>V.int (i:Int)).filter g)=o0 (TS r m i S)
  | _,[],_=>rfl
  | i,p::S,h=>by
    have h0:=h 0 (U0 _)
    have ih:=La g (i+1) S fun k hk=>by
      have:=h (k+1) (Vv hk)
      rw [show i+1+k=i+(k+1) by lia];exact this
    rw [Tl,U2,T5,Uw,ih]
    rw [Nat.add_zero] at h0
    rw [h0]
    show _=o0 (if al r m p.1 p.2 then (i,p)::TS r m (i+1) S else TS r m (i+1) S)
    show (if al r m p.1 p.2=true then _ else _)=_
    split <;> rfl
noncomputable def Rw(S:List Shp) (r:List Nat) (told:V):Loc:=[(g7,bk S),(d5,.lst (S.map bz)),(j9,.lst (r.map sw)),(jn,told)]
theorem zer{told:V}(hr:ShOk r none) (hS:∀p∈S,ShOk p.1 p.2) (hl:S.length≤10) (hN:150≤N):∃σ2,Gr σ σ2∧(run Px N).ev f1000.scope (rE (ai f1000.body 1)) (Rw S r told) σ=some (.ref σ2.next,push σ2 (.lst (o0 (TS r none 0 S)))):=by
  obtain ⟨n,rfl⟩:=Tg hN
  have hlen:blt σ (.builtin "len") [.lst (S.map bz)]=some (.int S.length,σ):=by rw [qw (by rw [Tm];exact Th ‹_› (by decide)),Tm]
  have hit:f9 σ (.rng 0 S.length)=some (.items ((T6 0 S.length).map fun (i:Nat)=>V.int (i:Int))):=mo (by exact Th ‹_› (by decide))
  obtain ⟨σ2,g,e⟩:=i5 (P:=Px) (n:=n+150) (sc:=f1000.scope) (ρ:=Rw S r told) (σ:=σ) (e:=rE (ai f1000.body 1)) rfl rfl (ρf:=[(d5,.lst (S.map bz)),(j9,.lst (r.map sw))]) (by kernel_rfl) 115 (fun v=>match v with | .int i=>al r none (av S i.toNat).1 (av S i.toNat).2 | _=>false) id (fun v ρ=>ac bu v ρ) (by rw [Tm,Uu];exact n8 ‹_› (by decide)) (items:=(T6 0 S.length).map fun (i:Nat)=>V.int (i:Int)) (d9 rfl (cp (v:=.rng 0 S.length) (σ':=σ) [ki hlen] (by kernel_rfl)) hit) (.inl rfl) (fun v hv n σ ρ'=>cu rfl) (fun v hv n σ' g=>by
      obtain ⟨i,hi,rfl⟩:=Ud.mp hv
      have hi:i<S.length:=by have:=(Uk.mp hi).2;exact lc ‹_›
      exact i8 [ey fun σ=>td (σ:=σ) hl hi,ap fun N σ h=>J2 (σ:=σ) hr (hS _ (kq hi)) h] (by kernel_rfl)) (fun v hv J n σ' g=>i9 [] (by kernel_rfl)) (fun u hu w hw=>gz _ _ _ _) (by rw [Tm,Uu];exact Th ‹_› (by decide))
  rw [Vh,La _ 0 S fun k hk=>by show al r none (av S (((0+k:Nat):Int).toNat)).1 _=_;rw [show (((0+k:Nat):Int).toNat)=k by exact oj]] at e
  exact ⟨σ2,g,e⟩
theorem wa(f:Nat→Bool) (g:V→Bool) (tk:List Nat) (h:∀i∈tk,g (.int (i:Int))=f i):(tk.map fun (i:Nat)=>V.int (i:Int)).filter g=(tk.filter f).map fun (i:Nat)=>V.int (i:Int):=by
  induction tk with
  | nil=>rfl
  | cons a l ih=>
    rw [T5,Uw,Uw,h a (Tj ..),ih fun i hi=>h i (Ti _ hi)]
    cases f a <;> rfl
theorem N6:o0 T=(T.map fun x=>x.1).map fun (i:Nat)=>V.int (i:Int):=by
  unfold o0
  rw [Us];rfl
end
end
section
noncomputable def qg(e:Expr):Scope:=@Tt (fun J=>Scope) e (fun J J J=>default) (fun J J J=>default) (fun J J J J=>default) (fun J J J=>default) (fun J J J J=>default) (fun J J J J=>default) (fun J J J=>default) (fun J J J=>default) (fun J J c J=>c) (fun J J J J=>default) (fun J J J J J=>default) (fun J J J J=>default) (fun J J=>default) (fun J J=>default) (fun J J=>default) (fun J J J J=>default) (fun J J J J=>default) (fun J J J J=>default) (fun J J=>default) (fun J J J=>default) (fun J J J=>default) (fun J J J=>default) (fun J J=>default) (fun J J=>default) (fun J J=>default) (fun J J J=>default) (fun J J J J=>default)
noncomputable def gI(l:List Comprehension):Expr:=iy (l0 (l.map fun g=>l0 g.ifs 0) 0) 0
noncomputable def Bu(e:Expr):Expr:=@Tt (fun J=>Expr) e (fun J J J=>default) (fun J J J=>default) (fun J J J J=>default) (fun J J J=>default) (fun J J J J=>default) (fun J J J J=>default) (fun J J J=>default) (fun J J J=>default) (fun J g J J=>gI g) (fun J J J J=>default) (fun J J J J J=>default) (fun J J J J=>default) (fun J J=>default) (fun J J=>default) (fun J J=>default) (fun J J J J=>default) (fun J J J J=>default) (fun J J J J=>default) (fun J J=>default) (fun J J J=>default) (fun J J J=>default) (fun J J J=>default) (fun J J=>default) (fun J J=>default) (fun J J=>default) (fun J J J=>default) (fun J J J J=>default)
section
variable {r w:List Nat}{m q:Option Nat}{S:List Shp}{T:List (Nat×Shp)}{tk i:Nat}
noncomputable def Sh(S:List Shp) (r:List Nat) (told:V) (tk:Nat):Loc:=[(g7,bk S),(d5,.lst (S.map bz)),(j9,.lst (r.map sw)),(jn,told),(tp,.ref tk)]
noncomputable def ax(l:List Nat):List V:=l.map fun (i:Nat)=>V.int (i:Int)
noncomputable def Qz(S:List Shp) (tk:Nat) (v:V):Loc:=[(d5,.lst (S.map bz)),(tp,.ref tk),(bu,v)]
theorem zfr{l:List Nat}(hS:∀p∈S,ShOk p.1 p.2) (hSl:S.length≤10) (hi:i<S.length) (hl:∀j∈l,j<S.length) (hll:l.length≤10) (hs:ab σ tk=some (.lst (ax l))) (hlt:tk<σ.next) (hN:170≤N):∃σ2,Gr σ σ2∧(run Px N).ev (qg (rE (ai f1000.body 2))) (Bu (rE (ai f1000.body 2))) (Qz S tk (.int i)) σ=some (.ref σ2.next,push σ2 (.lst (ax (l.filter fun j=>!decide (j=i) && !eu (av S i).1 (av S i).2 (av S j).1 (av S j).2)))):=by
  obtain ⟨n,rfl⟩:=Tg hN
  have hmem:∀{v:V},v∈ax l→∃j,j∈l∧v = .int (j:Int):=fun hv=>by
    obtain ⟨j,hj,rfl⟩:=Ud.mp hv
    exact ⟨j,hj,rfl⟩
  obtain ⟨σ2,g,e⟩:=i5 (P:=Px) (n:=n+170) (sc:=qg (rE (ai f1000.body 2))) (ρ:=Qz S tk (.int i)) (σ:=σ) (e:=Bu (rE (ai f1000.body 2))) rfl rfl (ρf:=[(d5,.lst (S.map bz)),(bu,.int i)]) (by kernel_rfl) 130 (fun v=>match v with | .int j=>!decide (j.toNat=i) && !eu (av S i).1 (av S i).2 (av S j.toNat).1 (av S j.toNat).2 | _=>false) id (fun v ρ=>ac nf v ρ) (by show 130+(ax l).length+3≤_;unfold ax;rw [Tm];exact n8 ‹_› (by decide)) (items:=ax l) (d9 rfl (cp (v:=.ref tk) (σ':=σ) [] (by kernel_rfl)) (je hs)) (.inr ⟨tk,0,_,rfl,hlt,hs,rfl⟩) (fun v hv n σ ρ'=>cu rfl) (fun v hv n σ' g=>by
      obtain ⟨j,hj,rfl⟩:=hmem hv
      have hj:=hl j hj
      have hne:∀σ,bo σ .NotEq (.int j) (.int i)=some (!decide (j=i)):=fun σ=>congrArg some (congrArg (!·) (decide_eq_decide.mpr Xl))
      have hb:=fun N σ h=>Jw (N:=N) (σ:=σ) (hS _ (kq hi)) (hS _ (kq hj)) h
      show∃σ'',Gr σ' σ''∧j6 Px _ _ _ _ σ'=some (!decide (j=i) && !eu (av S i).1 (av S i).2 (av S j).1 (av S j).2,σ'')
      cases e0:decide (j=i) with
      | true=>rw [e0] at hne;exact i8 [aq hne] (by kernel_rfl)
      | false=>rw [e0] at hne;exact i8 [aq hne,ey fun σ=>td (σ:=σ) hSl hi,ey fun σ=>td (σ:=σ) hSl hj,ap hb] (by kernel_rfl)) (fun v hv J n σ' g=>i9 [] (by kernel_rfl)) (fun u hu w hw=>gz _ _ _ _) (by unfold ax;rw [Tm];exact Th ‹_› (by decide))
  rw [Vh] at e
  refine ⟨σ2,g,e.trans ?_⟩
  congr 4
  exact wa _ _ l fun j hj=>rfl
theorem zcw(S:List Shp) (i:Nat) (l:List Nat):(l.filter fun j=>!decide (j=i) && !eu (av S i).1 (av S i).2 (av S j).1 (av S j).2).isEmpty=py S l i:=by
  unfold py
  induction l with
  | nil=>rfl
  | cons a l ih=>
    rw [Uw,Vb,← ih]
    cases decide (a=i) <;> cases eu (av S i).1 (av S i).2 (av S a).1 (av S a).2 <;> rfl
theorem Jv(l:List Nat):(ax l).isEmpty=l.isEmpty:=by cases l <;> rfl
theorem zjk{told:V}{l:List Nat}(hS:∀p∈S,ShOk p.1 p.2) (hSl:S.length≤10) (hl:∀j∈l,j<S.length) (hll:l.length≤10) (hs:ab σ tk=some (.lst (ax l))) (hlt:tk<σ.next) (hN:200≤N):∃σ2,Gr σ σ2∧(run Px N).ev f1000.scope (rE (ai f1000.body 2)) (Sh S r told tk) σ=some (.ref σ2.next,push σ2 (.lst (ax (l.filter (py S l))))):=by
  obtain ⟨n,rfl⟩:=Tg hN
  have hmem:∀{v:V},v∈ax l→∃j,j∈l∧v = .int (j:Int):=fun hv=>by
    obtain ⟨j,hj,rfl⟩:=Ud.mp hv
    exact ⟨j,hj,rfl⟩
  obtain ⟨σ2,g,e⟩:=i5 (P:=Px) (n:=n+200) (sc:=f1000.scope) (ρ:=Sh S r told tk) (σ:=σ) (e:=rE (ai f1000.body 2)) rfl rfl (ρf:=[(d5,.lst (S.map bz)),(tp,.ref tk)]) (by kernel_rfl) 180 (fun v=>match v with | .int i=>py S l i.toNat | _=>false) id (fun v ρ=>ac bu v ρ) (by unfold ax;rw [Tm];exact n8 ‹_› (by decide)) (items:=ax l) (d9 rfl (cp (v:=.ref tk) (σ':=σ) [] (by kernel_rfl)) (je hs)) (.inr ⟨tk,0,_,rfl,hlt,hs,rfl⟩) (fun v hv n σ ρ'=>cu rfl) (fun v hv n σ' g=>by
      obtain ⟨i,hi,rfl⟩:=hmem hv
      obtain ⟨σ3,g3,e3⟩:=zfr (σ:=σ') (N:=n+177) (tk:=tk) hS hSl (hl i hi) hl hll ((g.same _ hlt).trans hs) (Tn hlt g.le) (by lia)
      have hcmp:=eq_nil (σ:=push (push σ3 (.lst (ax (l.filter fun j=>!decide (j=i) && !eu (av S i).1 (av S i).2 (av S j).1 (av S j).2)))) (.lst [])) (a:=σ3.next) (b:=σ3.next+1) ((cg (Tr _)).trans bg) bg
      rw [Jv,zcw] at hcmp
      exact zaj ((g3.trans (Gr.push _ (.lst (ax (l.filter fun j=>!decide (j=i) && !eu (av S i).1 (av S i).2 (av S j).1 (av S j).2))))).trans (Gr.push _ (.lst []))) [cw e3,fw hcmp] (by kernel_rfl)) (fun v hv J n σ' g=>i9 [] (by kernel_rfl)) (fun u hu w hw=>gz _ _ _ _) (by unfold ax;rw [Tm];exact Th ‹_› (by decide))
  rw [Vh] at e
  refine ⟨σ2,g,e.trans ?_⟩
  congr 4
  exact wa _ _ l fun j hj=>rfl
end
end
section
section
theorem zl2:bo (push σ (.dct [] [])) .Eq D0 (.ref σ.next)=some true:=by
  show ob (s6 (push σ (.dct [] [])) D0) (fun J=>ob (s6 (push σ (.dct [] [])) (.ref σ.next)) fun J=>some true)=_
  exact aj (a:=()) rfl (aj (Ll bg) rfl)
theorem K1:∀(l:List Nat) (n:Nat),l.length+2≤n→ib n (ax l) (ax l)=some true
  | [],n,h=>by
    obtain ⟨k,rfl⟩:∃k,n=k+1:=⟨n-1,by exact j8 ‹_› (by decide)⟩
    rfl
  | a::l,n,h=>by
    rw [Tl] at h
    obtain ⟨k,rfl⟩:∃k,n=k+2:=⟨n-2,by exact j8 ‹_› (by decide)⟩
    show ob (b9 (k+1) (.int (a:Int)) (.int (a:Int))) (fun a=>ob (ib (k+1) (ax l) (ax l)) fun b=>some (a&&b))=_
    exact aj (x:=b9 (k+1) (.int (a:Int)) (.int (a:Int))) (congrArg some (decide_eq_true rfl)) (aj (x:=ib (k+1) (ax l) (ax l)) (K1 l (k+1) (by exact jk ‹_›)) rfl)
theorem E5{a b:Nat}{l:List Nat}(h1:ab σ a=some (.lst (ax l))) (h2:ab σ b=some (.lst (ax l))) (hl:l.length≤10):bo σ .Eq (.ref a) (.ref b)=some true:=(E1 rfl (dj h1) (dj h2)).trans (cm (Nat.beq_refl _) (K1 l _ (show _≤24 by exact x4 ‹_› (by decide))))
end
section
variable {r w:List Nat}{m q:Option Nat}{S:List Shp}{T:List (Nat×Shp)}{tk i:Nat}
theorem zji(hr:SgOk r none) (hS:∀p∈S,SgOk p.1 p.2) (hl:S.length≤4) (hN:522≤N):(run Px N).call 653 [bk S,.str tF,sg r none,.int ((S.length:Int)+1)] σ=some (rh (TS r none 0 S),σ):=by
  obtain ⟨n,rfl⟩:=Tg hN
  exact ii (fd:=f653) (c:=520) (g:=af Pu 520 653) rfl (by kernel_rfl) (by show (rf (bk S)&&(true&&(rf (sg r none)&&(true&&true))))=true;rw [(db hr.toShOk).rf];rfl) (zf0 hr hS (by exact Th ‹_› (by decide)) (Ym _)) (by lia)
noncomputable def zrg(S:List Shp) (r:List Nat) (told:V) (tk bs:Nat):Loc:=[(g7,bk S),(d5,.lst (S.map bz)),(j9,.lst (r.map sw)),(jn,told),(tp,.ref tk),(zpw,.ref bs)]
theorem zb7 (hr:SgOk r none) (hS:∀p∈S,SgOk p.1 p.2) (hl:S.length≤4):∃σ',(run Px 540).call 1000 [bk S,.lst (S.map bz),.lst (r.map sw)] ⟨0,[]⟩=some (.bool true,σ'):=by
  have hSh:∀p∈S,ShOk p.1 p.2:=fun p hp=>(hS p hp).toShOk
  have hTl:(TS r none 0 S).length≤S.length:=E9
  obtain ⟨σ2,g2,e2⟩:=zer (σ:=⟨0,[]⟩) (S:=S) (r:=r) (told:=rh (TS r none 0 S)) (N:=536) hr.toShOk hSh (by exact Th ‹_› (by decide)) (by decide)
  have hs3:ab (push σ2 (.lst (o0 (TS r none 0 S)))) σ2.next=some (.lst (ax ((TS r none 0 S).map fun x=>x.1))):=by rw [N6];exact bg
  obtain ⟨σ4,g4,e4⟩:=zjk (σ:=push σ2 (.lst (o0 (TS r none 0 S)))) (S:=S) (r:=r) (told:=rh (TS r none 0 S)) (tk:=σ2.next) (l:=(TS r none 0 S).map fun x=>x.1) (N:=535) hSh (by exact Th ‹_› (by decide)) (fun j hj=>by
    obtain ⟨x,hx,rfl⟩:=Ud.mp hj
    have:=(Es hx).2;exact lc ‹_›) (by rw [Tm];exact m5 ‹_› ‹_› (by decide)) hs3 (Tr _) (by decide)
  generalize hB:((TS r none 0 S).map fun x=>x.1).filter (py S ((TS r none 0 S).map fun x=>x.1))=B at e4
  have k1:ab (push σ4 (.lst (ax B))) σ2.next=some (.lst (ax ((TS r none 0 S).map fun x=>x.1))):=(((g4.trans (Gr.push _ _)).same _ (Tr _)).trans hs3)
  have k2:ab (push σ4 (.lst (ax B))) σ4.next=some (.lst (ax B)):=bg
  have lt1:σ2.next<(push σ4 (.lst (ax B))).next:=Tn (Tr _) (g4.trans (Gr.push σ4 (.lst (ax B)))).le
  have lt2:σ4.next<(push σ4 (.lst (ax B))).next:=Tr _
  have hsig:=fun N σ h=>M6 (N:=N) (σ:=σ) hr.toShOk h
  have hlook:=fun N σ h=>zji (N:=N) (σ:=σ) hr hS hl h
  generalize hTT:TS r none 0 S=T at *
  have q3:=eq_nil ((cg lt1).trans k1) (bg (σ:=push σ4 (.lst (ax B))))
  have lt2':σ4.next<(push (push σ4 (.lst (ax B))) (.lst [])).next:=U5 lt2
  have q4:=eq_nil ((cg lt2').trans ((cg lt2).trans k2)) (bg (σ:=push (push σ4 (.lst (ax B))) (.lst [])))
  have lt1':σ2.next<(push (push σ4 (.lst (ax B))) (.lst [])).next:=U5 lt1
  have k1':=(cg (o:=.lst []) lt1').trans ((cg (o:=.lst []) lt1).trans k1)
  have k2':=(cg (o:=.lst []) lt2').trans ((cg (o:=.lst []) lt2).trans k2)
  cases T with
  | nil=>exact eh (ay (by kernel_rfl)) [ap hsig,ap hlook,cw e2,cw e4,fw q3] (by kernel_rfl)
  | cons x0 T0=>
    have hBv:=zck _ hTT.symm (U0 _)
    rw [hB] at hBv
    have hlv:rh (x0::T0)=if ia (ez (dh (x0::T0))) (x0::T0).length (fc (ez (dh (x0::T0))) 1 ((x0::T0).length-1) 0) then .tup [.str ⟨#[111,110,101]⟩,MX (dq (x0::T0) (fc (ez (dh (x0::T0))) 1 ((x0::T0).length-1) 0)),D0] else .tup [.str ⟨#[109,97,110,121]⟩,.lst ((x0::T0).map MX)]:=rfl
    rw [hlv] at hlook e2 e4
    cases ha:ia (ez (dh (x0::T0))) (x0::T0).length (fc (ez (dh (x0::T0))) 1 ((x0::T0).length-1) 0) with
    | true=>
      rw [ha,if_pos rfl] at hBv hlook e2 e4
      subst hBv
      generalize dq (x0::T0) (fc (ez (dh (x0::T0))) 1 ((x0::T0).length-1) 0)=x at *
      have hi:=lm (i:=0) k2' (show 0<1 by decide) (show 1≤4096 by decide)
      have heq:∀σ,bo σ .Eq (.int x.1) (.int x.1)=some true:=fun σ=>congrArg some (decide_eq_true rfl)
      have t0:∀σ,di σ (.tup [.str ⟨#[111,110,101]⟩,MX x,D0]) (.int 0)=some (.str ⟨#[111,110,101]⟩):=fun J=>rfl
      have t1:∀σ,di σ (.tup [.str ⟨#[111,110,101]⟩,MX x,D0]) (.int 1)=some (MX x):=fun J=>rfl
      exact eh (ay (by kernel_rfl)) [ap hsig,ap hlook,cw e2,cw e4,fw q3,fw q4,ey t0,ey t1,f7 hi,aq heq,fw (zl2 (σ:=push (push (push σ4 (.lst (ax [x.1]))) (.lst [])) (.lst [])))] (by kernel_rfl)
    | false=>
      rw [ha,if_neg Ts] at hBv hlook e2 e4
      subst hBv
      have hmem:∀{v:V},v∈(x0::T0).map MX→∃x,v=MX x:=fun hv=>by
        obtain ⟨x,hx,rfl⟩:=Ud.mp hv
        exact ⟨x,rfl⟩
      have hz:((x0::T0).map MX).map (fun v=>match v with | .obj _ _ (n::_)=>n | _=>.none)=ax ((x0::T0).map fun x=>x.1):=by
        unfold ax;rw [Us,Us];rfl
      generalize x0::T0=T at *
      obtain ⟨σ6,g6,e6⟩:=i5 (P:=Px) (n:=527) (sc:=f1000.scope) (ρ:=zrg S r (.tup [.str ⟨#[109,97,110,121]⟩,.lst (T.map MX)]) σ2.next σ4.next) (σ:=push (push (push σ4 (.lst (ax []))) (.lst [])) (.lst [])) (e:=iy (iy (rE (ai (Hr (ai f1000.body 4)) 0)) 1) 0) rfl rfl (ρf:=[]) (by kernel_rfl) 20 (fun J=>true) (fun v=>match v with | .obj _ _ (n::_)=>n | _=>.none) (fun v ρ=>ac gf v ρ) (by rw [Tm];exact F5 ‹_› ‹_› (by decide)) (items:=T.map MX) (d9 rfl (cp (v:=.lst (T.map MX)) (σ':=push (push (push σ4 (.lst (ax []))) (.lst [])) (.lst [])) [] (by kernel_rfl)) rfl) (.inl rfl) (fun v hv n σ ρ'=>cu rfl) (fun v hv n σ' g=>i8 [] (by kernel_rfl)) (fun v hv J n σ' g=>by
          obtain ⟨x,rfl⟩:=hmem hv
          exact i9 [] (by kernel_rfl)) (fun u hu w hw=>gz _ _ _ _) (by rw [Tm];exact m5 ‹_› ‹_› (by decide))
      rw [Up.mpr fun J J=>rfl,hz] at e6
      have hcmp:=E5 (σ:=push σ6 (.lst (ax (T.map fun x=>x.1)))) (a:=σ6.next) (b:=σ2.next) bg ((cg (Tn (U5 lt1') g6.le)).trans ((g6.same _ (U5 lt1')).trans k1')) (by rw [Tm];exact m5 ‹_› ‹_› (by decide))
      exact eh (ay (by kernel_rfl)) [ap hsig,ap hlook,cw e2,cw e4,fw q3,fw q4,cw e6,fw hcmp] (by kernel_rfl)
end
end
section
theorem zes{S:List Shp}{r:List Nat}(hr:SgOk r none) (hS:∀p∈S,SgOk p.1 p.2) (hl:S.length≤4):af Px 540 1000 [bk S,.lst (S.map bz),.lst (r.map sw)]=some (.bool true):=by
  obtain ⟨σ',e⟩:=zb7 hr hS hl
  unfold af;rw [e];rfl
section
variable {r w:List Nat}{m q:Option Nat}{S:List Shp}{T:List (Nat×Shp)}{tk i:Nat}
theorem Eu:∀{i:Nat}{S:List Shp}{x:Nat×Shp},x∈CS r m i S→i≤x.1∧av S (x.1-i)=x.2∧x.1<i+S.length
  | _,[],x,h=>by cases h
  | i,p::S,x,h=>by
    have rest:x∈CS r m (i+1) S→i≤x.1∧av (p::S) (x.1-i)=x.2∧x.1<i+(p::S).length:=fun h=>by
      obtain ⟨h1,a,b⟩:=Eu h
      obtain ⟨k,hk⟩:∃k,x.1-i=k+1:=⟨x.1-i-1,by exact Qd ‹_›⟩
      rw [hk,Tl]
      refine ⟨by exact Ur ‹_›,?_,by lia⟩
      rw [show x.1-(i+1)=k by exact Ow ‹_›] at a
      exact a
    unfold CS at h
    split at h
    · rcases Tz.mp h with rfl | h
      · exact ⟨To _,by show av (p::S) (i-i)=p;rw [Nat.sub_self];rfl,by rw [Tl];show i<_;lia⟩
      · exact rest h
    · exact rest h
theorem Lf(g:V→Bool):∀(i:Nat) (S:List Shp),(∀k,k<S.length→g (.int ((i+k:Nat):Int))=d7 r m (av S k).1 (av S k).2)→(((List.range' i S.length).map fun (i:Nat)=>V.int (i:Int)).filter g)=o0 (CS r m i S)
  | _,[],_=>rfl
  | i,p::S,h=>by
    have h0:=h 0 (U0 _)
    have ih:=Lf g (i+1) S fun k hk=>by
      have:=h (k+1) (Vv hk)
      rw [show i+1+k=i+(k+1) by lia];exact this
    rw [Tl,U2,T5,Uw,ih]
    rw [Nat.add_zero] at h0
    rw [h0]
    show _=o0 (if d7 r m p.1 p.2 then (i,p)::CS r m (i+1) S else CS r m (i+1) S)
    show (if d7 r m p.1 p.2=true then _ else _)=_
    split <;> rfl
noncomputable def nj(r:List Nat) (m:Option Nat) (S:List Shp) (l:List Nat):List Nat:=l.filter fun i=>al r m (av S i).1 (av S i).2
noncomputable def s8(S:List Shp) (j i:Nat):Bool:=eu (av S j).1 (av S j).2 (av S i).1 (av S i).2
noncomputable def yq(r:List Nat) (m:Option Nat) (S:List Shp) (l:List Nat):List Nat:=l.filter fun i=>((nj r m S l).filter fun j=>s8 S j i).isEmpty
theorem zfn{p:Shp}:eu p.1 p.2 p.1 p.2=false:=by
  unfold eu
  cases al p.1 p.2 p.1 p.2 <;> rfl
theorem znf(hT:T=CS r m 0 S):(MS r m T).map (fun x=>x.1)=yq r m S (T.map fun x=>x.1):=by
  unfold MS yq
  rw [X8]
  congr 1
  refine Xj fun x hx=>?_
  have hg:∀y∈T,av S y.1=y.2:=fun y hy=>by
    rw [hT] at hy
    exact (Eu hy).2.1
  show (!T.any (nc r m x.1 x.2))=((nj r m S (T.map fun x=>x.1)).filter fun j=>s8 S j x.1).isEmpty
  rw [Wa,Wh,U4,Wv,Xi]
  unfold nj s8 nc
  constructor
  · intro h j hj q
    obtain ⟨hj,hw⟩:=X9.mp hj
    obtain ⟨y,hy,rfl⟩:=Ud.mp hj
    rw [hg y hy] at hw q
    rw [hg x hx] at q
    have:=h y hy
    by_cases c:y.1=x.1
    · have e:y.2=x.2:=by rw [← hg y hy,← hg x hx,c]
      rw [e,zfn] at q;cases q
    · rw [decide_eq_false c,hw,q] at this;exact this rfl
  · intro h y hy q
    simp only [Uc] at q
    obtain ⟨⟨_,q2⟩,q3⟩:=q
    refine h y.1 (X9.mpr ⟨Ud.mpr ⟨y,hy,rfl⟩,by rw [hg y hy];exact q2⟩) ?_
    rw [hg y hy,hg x hx];exact q3
noncomputable def u7:Str:=⟨#[97,115,107,101,100]⟩
noncomputable def zx:Str:=⟨#[99,111,118,101,114,115]⟩
noncomputable def Sx(S:List Shp) (r:List Nat) (m:Option Nat):Loc:=[(g7,bk S),(d5,.lst (S.map bz)),(u7,bq r m),(gu,sg r m)]
theorem zm9(ha:ShOk r m) (hb:ShOk w q) (hN:122≤N):(run Px N).call 990 [bq r m,bq w q] σ=some (.bool (d7 r m w q),σ):=by
  obtain ⟨n,rfl⟩:=Tg hN
  exact ii (fd:=f990) (c:=120) (g:=af Pw 120 990) rfl (by kernel_rfl) (by cases m <;> cases q <;> rfl) (zhy ha hb) (by lia)
theorem zfo(hr:ShOk r m) (hS:∀p∈S,ShOk p.1 p.2) (hl:S.length≤10) (hN:160≤N):∃σ2,Gr σ σ2∧(run Px N).ev f1005.scope (rE (ai f1005.body 1)) (Sx S r m) σ=some (.ref σ2.next,push σ2 (.lst (o0 (CS r m 0 S)))):=by
  obtain ⟨n,rfl⟩:=Tg hN
  have hlen:blt σ (.builtin "len") [.lst (S.map bz)]=some (.int S.length,σ):=by rw [qw (by rw [Tm];exact Th ‹_› (by decide)),Tm]
  have hit:f9 σ (.rng 0 S.length)=some (.items ((T6 0 S.length).map fun (i:Nat)=>V.int (i:Int))):=mo (by exact Th ‹_› (by decide))
  obtain ⟨σ2,g,e⟩:=i5 (P:=Px) (n:=n+160) (sc:=f1005.scope) (ρ:=Sx S r m) (σ:=σ) (e:=rE (ai f1005.body 1)) rfl rfl (ρf:=[(d5,.lst (S.map bz)),(u7,bq r m)]) (by kernel_rfl) 135 (fun v=>match v with | .int i=>d7 r m (av S i.toNat).1 (av S i.toNat).2 | _=>false) id (fun v ρ=>ac bu v ρ) (by rw [Tm,Uu];exact n8 ‹_› (by decide)) (items:=(T6 0 S.length).map fun (i:Nat)=>V.int (i:Int)) (d9 rfl (cp (v:=.rng 0 S.length) (σ':=σ) [ki hlen] (by kernel_rfl)) hit) (.inl rfl) (fun v hv n σ ρ'=>cu rfl) (fun v hv n σ' g=>by
      obtain ⟨i,hi,rfl⟩:=Ud.mp hv
      have hi:i<S.length:=by have:=(Uk.mp hi).2;exact lc ‹_›
      have hc:∀N σ,122≤N→(run Px N).call 990 [bq (av S i).1 (av S i).2,bq r m] σ=some (.bool (d7 r m (av S i).1 (av S i).2),σ):=fun N σ h=>by rw [← Mq (hS _ (kq hi)) hr];exact zm9 (hS _ (kq hi)) hr h
      exact i8 [ey fun σ=>td (σ:=σ) hl hi,ap hc] (by kernel_rfl)) (fun v hv J n σ' g=>i9 [] (by kernel_rfl)) (fun u hu w hw=>gz _ _ _ _) (by rw [Tm,Uu];exact Th ‹_› (by decide))
  rw [Vh,Lf _ 0 S fun k hk=>by show d7 r m (av S (((0+k:Nat):Int).toNat)).1 _=_;rw [show (((0+k:Nat):Int).toNat)=k by exact oj]] at e
  exact ⟨σ2,g,e⟩
end
end
section
section
variable {r w:List Nat}{m q:Option Nat}{S:List Shp}{T:List (Nat×Shp)}{tk cv i:Nat}{l cl:List Nat}
noncomputable def Fv(S:List Shp) (r:List Nat) (m:Option Nat) (tk:Nat):Loc:=[(g7,bk S),(d5,.lst (S.map bz)),(u7,bq r m),(gu,sg r m),(tp,.ref tk)]
noncomputable def Qx(S:List Shp) (r:List Nat) (m:Option Nat) (tk cv:Nat):Loc:=[(g7,bk S),(d5,.lst (S.map bz)),(u7,bq r m),(gu,sg r m),(tp,.ref tk),(zx,.ref cv)]
theorem D1{v:V}(h:v∈ax l):∃j,j∈l∧v = .int (j:Int):=by
  obtain ⟨j,hj,rfl⟩:=Ud.mp h
  exact ⟨j,hj,rfl⟩
theorem u0:(ax l).length=l.length:=Tm _
theorem zfm(hr:ShOk r m) (hS:∀p∈S,ShOk p.1 p.2) (hSl:S.length≤10) (hl:∀j∈l,j<S.length) (hll:l.length≤10) (hs:ab σ tk=some (.lst (ax l))) (hlt:tk<σ.next) (hN:170≤N):∃σ2,Gr σ σ2∧(run Px N).ev f1005.scope (rE (ai f1005.body 3)) (Fv S r m tk) σ=some (.ref σ2.next,push σ2 (.lst (ax (nj r m S l)))):=by
  obtain ⟨n,rfl⟩:=Tg hN
  obtain ⟨σ2,g,e⟩:=i5 (P:=Px) (n:=n+170) (sc:=f1005.scope) (ρ:=Fv S r m tk) (σ:=σ) (e:=rE (ai f1005.body 3)) rfl rfl (ρf:=[(d5,.lst (S.map bz)),(u7,bq r m)]) (by kernel_rfl) 130 (fun v=>match v with | .int j=>al r m (av S j.toNat).1 (av S j.toNat).2 | _=>false) id (fun v ρ=>ac bu v ρ) (by rw [u0];exact n8 ‹_› (by decide)) (items:=ax l) (d9 rfl (cp (v:=.ref tk) (σ':=σ) [] (by kernel_rfl)) (je hs)) (.inr ⟨tk,0,_,rfl,hlt,hs,rfl⟩) (fun v hv n σ ρ'=>cu rfl) (fun v hv n σ' g=>by
      obtain ⟨j,hj,rfl⟩:=D1 hv
      have hj:=hl j hj
      exact i8 [ey fun σ=>td (σ:=σ) hSl hj,ap fun N σ h=>J2 (σ:=σ) hr (hS _ (kq hj)) h] (by kernel_rfl)) (fun v hv J n σ' g=>i9 [] (by kernel_rfl)) (fun u hu w hw=>gz _ _ _ _) (by rw [u0];exact Th ‹_› (by decide))
  rw [Vh] at e
  refine ⟨σ2,g,e.trans ?_⟩
  congr 4
  exact wa _ _ l fun j hj=>rfl
noncomputable def Qi(S:List Shp) (cv:Nat) (v:V):Loc:=[(d5,.lst (S.map bz)),(zx,.ref cv),(bu,v)]
theorem zdq(hS:∀p∈S,ShOk p.1 p.2) (hSl:S.length≤10) (hi:i<S.length) (hl:∀j∈cl,j<S.length) (hll:cl.length≤10) (hs:ab σ cv=some (.lst (ax cl))) (hlt:cv<σ.next) (hN:170≤N):∃σ2,Gr σ σ2∧(run Px N).ev (qg (rE (ai f1005.body 4))) (Bu (rE (ai f1005.body 4))) (Qi S cv (.int i)) σ=some (.ref σ2.next,push σ2 (.lst (ax (cl.filter fun j=>s8 S j i)))):=by
  obtain ⟨n,rfl⟩:=Tg hN
  obtain ⟨σ2,g,e⟩:=i5 (P:=Px) (n:=n+170) (sc:=qg (rE (ai f1005.body 4))) (ρ:=Qi S cv (.int i)) (σ:=σ) (e:=Bu (rE (ai f1005.body 4))) rfl rfl (ρf:=[(d5,.lst (S.map bz)),(bu,.int i)]) (by kernel_rfl) 130 (fun v=>match v with | .int j=>s8 S j.toNat i | _=>false) id (fun v ρ=>ac nf v ρ) (by rw [u0];exact n8 ‹_› (by decide)) (items:=ax cl) (d9 rfl (cp (v:=.ref cv) (σ':=σ) [] (by kernel_rfl)) (je hs)) (.inr ⟨cv,0,_,rfl,hlt,hs,rfl⟩) (fun v hv n σ ρ'=>cu rfl) (fun v hv n σ' g=>by
      obtain ⟨j,hj,rfl⟩:=D1 hv
      have hj:=hl j hj
      exact i8 [ey fun σ=>td (σ:=σ) hSl hj,ey fun σ=>td (σ:=σ) hSl hi,ap fun N σ h=>Jw (σ:=σ) (hS _ (kq hj)) (hS _ (kq hi)) h] (by kernel_rfl)) (fun v hv J n σ' g=>i9 [] (by kernel_rfl)) (fun u hu w hw=>gz _ _ _ _) (by rw [u0];exact Th ‹_› (by decide))
  rw [Vh] at e
  refine ⟨σ2,g,e.trans ?_⟩
  congr 4
  exact wa _ _ cl fun j hj=>rfl
theorem zku(hS:∀p∈S,ShOk p.1 p.2) (hSl:S.length≤10) (hl:∀j∈l,j<S.length) (hll:l.length≤10) (hs:ab σ tk=some (.lst (ax l))) (hlt:tk<σ.next) (hs2:ab σ cv=some (.lst (ax (nj r m S l)))) (hlt2:cv<σ.next) (hN:200≤N):∃σ2,Gr σ σ2∧(run Px N).ev f1005.scope (rE (ai f1005.body 4)) (Qx S r m tk cv) σ=some (.ref σ2.next,push σ2 (.lst (ax (yq r m S l)))):=by
  obtain ⟨n,rfl⟩:=Tg hN
  have hcl:(nj r m S l).length≤l.length:=Vj _ _
  have hcm:∀j∈nj r m S l,j<S.length:=fun j hj=>hl j (X9.mp hj).1
  obtain ⟨σ2,g,e⟩:=i5 (P:=Px) (n:=n+200) (sc:=f1005.scope) (ρ:=Qx S r m tk cv) (σ:=σ) (e:=rE (ai f1005.body 4)) rfl rfl (ρf:=[(d5,.lst (S.map bz)),(zx,.ref cv)]) (by kernel_rfl) 180 (fun v=>match v with | .int i=>((nj r m S l).filter fun j=>s8 S j i.toNat).isEmpty | _=>false) id (fun v ρ=>ac bu v ρ) (by rw [u0];exact n8 ‹_› (by decide)) (items:=ax l) (d9 rfl (cp (v:=.ref tk) (σ':=σ) [] (by kernel_rfl)) (je hs)) (.inr ⟨tk,0,_,rfl,hlt,hs,rfl⟩) (fun v hv n σ ρ'=>cu rfl) (fun v hv n σ' g=>by
      obtain ⟨i,hi,rfl⟩:=D1 hv
      obtain ⟨σ3,g3,e3⟩:=zdq (σ:=σ') (N:=n+177) (cv:=cv) hS hSl (hl i hi) hcm (by exact Th ‹_› ‹_›) ((g.same _ hlt2).trans hs2) (Tn hlt2 g.le) (by lia)
      have hcmp:=eq_nil (σ:=push (push σ3 (.lst (ax ((nj r m S l).filter fun j=>s8 S j i)))) (.lst [])) (a:=σ3.next) (b:=σ3.next+1) ((cg (Tr _)).trans bg) bg
      rw [Jv] at hcmp
      exact zaj ((g3.trans (Gr.push _ (.lst (ax ((nj r m S l).filter fun j=>s8 S j i))))).trans (Gr.push _ (.lst []))) [cw e3,fw hcmp] (by kernel_rfl)) (fun v hv J n σ' g=>i9 [] (by kernel_rfl)) (fun u hu w hw=>gz _ _ _ _) (by rw [u0];exact Th ‹_› (by decide))
  rw [Vh] at e
  refine ⟨σ2,g,e.trans ?_⟩
  congr 4
  exact wa _ _ l fun j hj=>rfl
theorem zll(hr:SgOk r m) (hr2:r.length≤2) (hS:∀p∈S,SgOk p.1 p.2∧p.1.length≤2) (hl:S.length≤4) (hN:642≤N):(run Px N).call 658 [bk S,.str tF,sg r m,.int ((S.length:Int)+1)] σ=some (.lst ((CS r m 0 S).map MX),σ):=by
  obtain ⟨n,rfl⟩:=Tg hN
  exact ii (fd:=f658) (c:=640) (g:=af Pu 640 658) rfl (by kernel_rfl) (by show (rf (bk S)&&(true&&(rf (sg r m)&&(true&&true))))=true;rw [(db hr.toShOk).rf];rfl) (Ln hr hr2 hS hl (Ym _)) (by lia)
theorem zkf(hr:SgOk r m) (hr2:r.length≤2) (hS:∀p∈S,SgOk p.1 p.2∧p.1.length≤2) (hl:S.length≤4) (hN:652≤N):(run Px N).call 670 [bk S,.str tF,sg r m,.int ((S.length:Int)+1)] σ=some (.lst ((MS r m (CS r m 0 S)).map MX),σ):=by
  obtain ⟨n,rfl⟩:=Tg hN
  exact ii (fd:=f670) (c:=650) (g:=af Pv 650 670) rfl (by kernel_rfl) (by show (rf (bk S)&&(true&&(rf (sg r m)&&(true&&true))))=true;rw [(db hr.toShOk).rf];rfl) (zja hr hr2 hS hl (Ym _)) (by lia)
noncomputable def Fz(v:V):V:=match v with
  | .obj _ _ (n::_)=>n
  | _=>.none
theorem L9:(T.map MX).map Fz=ax (T.map fun x=>x.1):=by
  unfold ax;rw [Us,Us];rfl
end
end
section
section
variable {r w:List Nat}{m q:Option Nat}{S:List Shp}{T:List (Nat×Shp)}{tk cv i:Nat}{l cl:List Nat}
noncomputable def zpb(S:List Shp) (r:List Nat) (m:Option Nat) (tk cv du:Nat):Loc:=[(g7,bk S),(d5,.lst (S.map bz)),(u7,bq r m),(gu,sg r m),(tp,.ref tk),(zx,.ref cv),(⟨#[100,117,101]⟩,.ref du)]
theorem zpk{a b:Nat}(h1:ab σ a=some (.lst (ax l))) (h2:ab σ b=some (.lst (ax l))) (hl:l.length≤10):bo σ .NotEq (.ref a) (.ref b)=some false:=by
  have:=E5 h1 h2 hl
  show on (bo σ .Eq (.ref a) (.ref b))=_
  rw [this];rfl
theorem Nf{v:V}(h:v∈T.map MX):∃x,v=MX x:=by
  obtain ⟨x,hx,rfl⟩:=Ud.mp h
  exact ⟨x,rfl⟩
theorem zha(hr:SgOk r m) (hr2:r.length≤2) (hS:∀p∈S,SgOk p.1 p.2∧p.1.length≤2) (hl:S.length≤4):∃σ',(run Px 670).call 1005 [bk S,.lst (S.map bz),bq r m] ⟨0,[]⟩=some (.bool true,σ'):=by
  have hSh:∀p∈S,ShOk p.1 p.2:=fun p hp=>(hS p hp).1.toShOk
  have hTl:(CS r m 0 S).length≤S.length:=Aa
  obtain ⟨σ1,g1,e1⟩:=zfo (σ:=⟨0,[]⟩) (S:=S) (N:=666) hr.toShOk hSh (by exact Th ‹_› (by decide)) (by decide)
  have d1:=znf (r:=r) (m:=m) (S:=S) (T:=CS r m 0 S) rfl
  have hms:(MS r m (CS r m 0 S)).length≤(CS r m 0 S).length:=Vj _ _
  have may:=fun N σ hN=>zkf (S:=S) (σ:=σ) (N:=N) hr hr2 hS hl hN
  have all:=fun N σ hN=>zll (S:=S) (σ:=σ) (N:=N) hr hr2 hS hl hN
  have hlm:∀j∈(CS r m 0 S).map fun x=>x.1,j<S.length:=fun j hj=>by
    obtain ⟨x,hx,rfl⟩:=Ud.mp hj
    have:=(Eu hx).2.2;exact lc ‹_›
  rw [N6] at e1
  generalize CS r m 0 S=T at *
  have k1:ab (push σ1 (.lst (ax (T.map fun x=>x.1)))) σ1.next=some (.lst (ax (T.map fun x=>x.1))):=bg
  have lt1:σ1.next<(push σ1 (.lst (ax (T.map fun x=>x.1)))).next:=Tr _
  obtain ⟨σ2,g2,e2⟩:=i5 (P:=Px) (n:=663) (sc:=f1005.scope) (ρ:=Fv S r m σ1.next) (σ:=push σ1 (.lst (ax (T.map fun x=>x.1)))) (e:=iy (r5 (ai f1005.body 2)) 0) rfl rfl (ρf:=[]) (by kernel_rfl) 20 (fun J=>true) Fz (fun v ρ=>ac gf v ρ) (by rw [Tm];exact F5 ‹_› ‹_› (by decide)) (items:=T.map MX) (d9 rfl (cp (v:=.lst (T.map MX)) (σ':=push σ1 (.lst (ax (T.map fun x=>x.1)))) [ap all] (by kernel_rfl)) rfl) (.inl rfl) (fun v hv n σ ρ'=>cu rfl) (fun v hv n σ' g=>i8 [] (by kernel_rfl)) (fun v hv J n σ' g=>by
      obtain ⟨x,rfl⟩:=Nf hv
      exact i9 [] (by kernel_rfl)) (fun u hu w hw=>gz _ _ _ _) (by rw [Tm];exact m5 ‹_› ‹_› (by decide))
  rw [Up.mpr fun J J=>rfl,L9] at e2
  have k2:ab (push σ2 (.lst (ax (T.map fun x=>x.1)))) σ1.next=some (.lst (ax (T.map fun x=>x.1))):=((g2.trans (Gr.push _ _)).same _ lt1).trans k1
  have lt2:σ1.next<(push σ2 (.lst (ax (T.map fun x=>x.1)))).next:=Tn lt1 (g2.trans (Gr.push σ2 (.lst (ax (T.map fun x=>x.1))))).le
  have c2:=zpk (σ:=push σ2 (.lst (ax (T.map fun x=>x.1)))) (a:=σ2.next) (b:=σ1.next) bg k2 (by rw [Tm];exact m5 ‹_› ‹_› (by decide))
  obtain ⟨σ3,g3,e3⟩:=zfm (σ:=push σ2 (.lst (ax (T.map fun x=>x.1)))) (S:=S) (tk:=σ1.next) (l:=T.map fun x=>x.1) (N:=664) hr.toShOk hSh (by exact Th ‹_› (by decide)) hlm (by rw [Tm];exact m5 ‹_› ‹_› (by decide)) k2 lt2 (by decide)
  generalize hcv:nj r m S (T.map fun x=>x.1)=CV at *
  have k3:ab (push σ3 (.lst (ax CV))) σ1.next=some (.lst (ax (T.map fun x=>x.1))):=((g3.trans (Gr.push _ _)).same _ lt2).trans k2
  have lt3:σ1.next<(push σ3 (.lst (ax CV))).next:=Tn lt2 (g3.trans (Gr.push σ3 (.lst (ax CV)))).le
  obtain ⟨σ4,g4,e4⟩:=zku (σ:=push σ3 (.lst (ax CV))) (S:=S) (r:=r) (m:=m) (tk:=σ1.next) (cv:=σ3.next) (l:=T.map fun x=>x.1) (N:=663) hSh (by exact Th ‹_› (by decide)) hlm (by rw [Tm];exact m5 ‹_› ‹_› (by decide)) k3 lt3 (by rw [hcv];exact bg) (Tr _) (by decide)
  have hdl:(yq r m S (T.map fun x=>x.1)).length≤(T.map fun x=>x.1).length:=Vj _ _
  generalize yq r m S (T.map fun x=>x.1)=DU at *
  obtain ⟨σ5,g5,e5⟩:=i5 (P:=Px) (n:=661) (sc:=f1005.scope) (ρ:=zpb S r m σ1.next σ3.next σ4.next) (σ:=push σ4 (.lst (ax DU))) (e:=iy (rE (ai f1005.body 5)) 0) rfl rfl (ρf:=[]) (by kernel_rfl) 20 (fun J=>true) Fz (fun v ρ=>ac gf v ρ) (by rw [Tm];lia) (items:=(MS r m T).map MX) (d9 rfl (cp (v:=.lst ((MS r m T).map MX)) (σ':=push σ4 (.lst (ax DU))) [ap may] (by kernel_rfl)) rfl) (.inl rfl) (fun v hv n σ ρ'=>cu rfl) (fun v hv n σ' g=>i8 [] (by kernel_rfl)) (fun v hv J n σ' g=>by
      obtain ⟨x,rfl⟩:=Nf hv
      exact i9 [] (by kernel_rfl)) (fun u hu w hw=>gz _ _ _ _) (by rw [Tm];lia)
  rw [Up.mpr fun J J=>rfl,L9,d1] at e5
  rw [Tm] at hdl
  have k5:ab (push σ5 (.lst (ax DU))) σ4.next=some (.lst (ax DU)):=((g5.trans (Gr.push _ _)).same _ (Tr _)).trans bg
  have c5:=E5 (σ:=push σ5 (.lst (ax DU))) (a:=σ5.next) (b:=σ4.next) bg k5 (by lia)
  have hsig:=fun N σ h=>M6 (N:=N) (σ:=σ) hr.toShOk h
  exact eh (ay (by kernel_rfl)) [ap hsig,cw e1,cw e2,fw c2,cw e3,cw e4,cw e5,fw c5] (by kernel_rfl)
theorem zi9(hr:SgOk r m) (hr2:r.length≤2) (hS:∀p∈S,SgOk p.1 p.2∧p.1.length≤2) (hl:S.length≤4):af Px 670 1005 [bk S,.lst (S.map bz),bq r m]=some (.bool true):=by
  obtain ⟨σ',e⟩:=zha hr hr2 hS hl
  unfold af;rw [e];rfl
end
noncomputable def Py:PD:=(Px.put 1000 540 (af Px 540 1000)).put 1005 670 (af Px 670 1005)
end
section
noncomputable def gc:Str:=⟨#[98,111,120]⟩
noncomputable def hkL:List Stmt→Option (List Str×Str)
  | s::_=>if T8 (Ak s) 911 then some ([cj],gc) else if T8 (Ak s) 938 then some ([nq,⟨#[115,104,97,112,101,115]⟩],gc) else none
  | []=>none
noncomputable def Pz:PD:={ Py with frz:=hkL }
structure GrM (M:List Nat) (σ σ':Sto):Prop where
  le:σ.next≤σ'.next
  same:∀k,k<σ.next→k ∉ M→ab σ' k=ab σ k
structure Bx (σ:Sto) (b:Nat):Prop where
  at':∃x y:Int,0≤x∧0≤y∧ab σ b=some (.lst [.int x,.int y])
  lt:b<σ.next
section
variable {M:List Nat}{b m:Nat}{o:MObj}
theorem GrM.refl(M:List Nat) (σ:Sto):GrM M σ σ:=⟨Nat.le_refl _,fun J J J=>rfl⟩
theorem GrM.trans(h:GrM M σ σ1) (h2:GrM M σ1 σ2):GrM M σ σ2:=⟨Nat.le_trans h.le h2.le,fun k hk hm=>(h2.same k (Nat.lt_of_lt_of_le hk h.le) hm).trans (h.same k hk hm)⟩
theorem GrM.of(h:Gr σ σ1):GrM M σ σ1:=⟨h.le,fun k hk J=>h.same k hk⟩
theorem GrM.put(h:m∈M):GrM M σ (ah σ m o):=⟨Nat.le_refl _,fun k J hm=>be fun e=>hm (e▸h)⟩
theorem GrM.mono{M':List Nat}(h:GrM M σ σ1) (hm:∀k∈M,k∈M'):GrM M' σ σ1:=⟨h.le,fun k hk hn=>h.same k hk fun q=>hn (hm k q)⟩
theorem Bx.gr(h:Bx σ b) (g:Gr σ σ1):Bx σ1 b:=by
  obtain ⟨⟨x,y,h1,h2,h3⟩,h4⟩:=h
  exact ⟨⟨x,y,h1,h2,(g.same _ h4).trans h3⟩,Tn h4 g.le⟩
end
section
variable {b:Nat}
theorem Fx{x y:Int}(h:ab σ b=some (.lst [.int x,.int y])):di σ (.ref b) (.int 0)=some (.int x)∧di σ (.ref b) (.int 1)=some (.int y):=
  ⟨(lm (i:=0) h (by simp) (by simp)).trans rfl,(lm (i:=1) h (by simp) (by simp)).trans rfl⟩
theorem Ck(hb:Bx σ b) {M:Nat}(hM:0<M) (hM2:M<1000):∃(k:Nat) (σ':Sto),k<M∧(∀N,60≤N→(run Pz N).call 942 [.ref b,.int M] σ=some (.int k,σ'))∧Bx σ' b∧GrM [b] σ σ'∧σ'.next=σ.next:=by
  obtain ⟨⟨x,y,hx,hy,hs⟩,hlt⟩:=hb
  obtain ⟨i0,i1⟩:=Fx hs
  have hMi:(0:Int)<M:=W8.mpr hM
  have hmod:∀(z:Int) (σ:Sto),ff σ .Mod (.int z) (.int M)=some (.int (z.fmod M),σ):=fun z σ=>by
    show ob (if decide ((0:Int)<M)=true then some (z.fmod M) else none) (fun k=>some (V.int k,σ))=_
    rw [if_pos (decide_eq_true hMi)];rfl
  have hdiv:∀(z:Int) (σ:Sto),ff σ .FloorDiv (.int z) (.int M)=some (.int (z.fdiv M),σ):=fun z σ=>by
    show ob (if (decide ((0:Int)<M)&&j4 (M:Int))=true then some (z.fdiv M) else none) (fun k=>some (V.int k,σ))=_
    rw [if_pos]
    · rfl
    · rw [decide_eq_true hMi,Vd]
      exact Ty (by simp;lia)
  have hgt:∀{d:Bool},decide (x > 0)=d→∀σ,bo σ .Gt (.int x) (.int 0)=some d:=fun h σ=>congrArg some h
  by_cases hx0:x > 0
  · have h1:=Vr x hMi
    have h2:=Xa x hMi
    refine ⟨(x.fmod M).toNat,ah σ b (.lst (rn [.int x,.int y] 0 (.int (x.fdiv M)))),by exact Qb ‹_›,fun N hN=>?_,⟨⟨x.fdiv M,y,Int.fdiv_nonneg hx (by lia),hy,bv hs⟩,hlt⟩,GrM.put (Tj ..),rfl⟩
    obtain ⟨n,rfl⟩:=Tg hN
    rw [W5 h1]
    exact ce (ay (by kernel_rfl)) [f7 i0,aq (hgt (decide_eq_true hx0)),f7 i0,lh (hmod x),f7 i0,lh (hdiv x),gn hs] (by kernel_rfl)
  · have e1:∀σ,ff σ .Mult (.int y) (.int 48271)=some (.int (y * 48271),σ):=fun J=>rfl
    have e2:∀σ,ff σ .Add (.int (y * 48271)) (.int 5)=some (.int (y * 48271+5),σ):=fun J=>rfl
    have e3:∀σ,ff σ .Mod (.int (y * 48271+5)) (.int 2147483647)=some (.int ((y * 48271+5).fmod 2147483647),σ):=fun J=>rfl
    have hz0:=Vr (y * 48271+5) (show (0:Int)<2147483647 by decide)
    generalize (y * 48271+5).fmod 2147483647=z at e3 hz0
    have hs2:ab (ah σ b (.lst (rn [.int x,.int y] 1 (.int z)))) b=some (.lst [.int x,.int z]):=bv hs
    obtain ⟨_,j1⟩:=Fx hs2
    have e4:∀σ,ff σ .FloorDiv (.int z) (.int 64)=some (.int (z.fdiv 64),σ):=fun σ=>rfl
    have h1:=Vr (z.fdiv 64) hMi
    have h2:=Xa (z.fdiv 64) hMi
    refine ⟨((z.fdiv 64).fmod M).toNat,ah σ b (.lst (rn [.int x,.int y] 1 (.int z))),by exact Qb ‹_›,fun N hN=>?_,⟨⟨x,z,hx,hz0,hs2⟩,hlt⟩,GrM.put (Tj ..),rfl⟩
    obtain ⟨n,rfl⟩:=Tg hN
    rw [W5 h1]
    exact ce (ay (by kernel_rfl)) [f7 i0,aq (hgt (decide_eq_false hx0)),f7 i1,lh e1,lh e2,lh e3,gn hs,f7 j1,lh e4,lh (hmod (z.fdiv 64))] (by kernel_rfl)
end
end
section
section
theorem Nh{tgt elt:Expr}(Inv:Sto→Prop) (Q:V→Prop) (st:V→Loc→Loc):∀(items acc:List V) (ρ':Loc) (σ:Sto),Inv σ→(∀v∈items,∀n σ ρ',(run P (n+N)).asg csc tgt v ρ' σ=some (st v ρ',σ))→
    (∀v∈items,∀n σ',Inv σ'→∃w σ'',Q w∧Inv σ''∧(run P (n+N)).ev csc elt (st v ρ) σ'=some (w,σ''))→
    (∀u∈items,st u ρ'=st u ρ)→(∀u∈items,∀w∈items,st u (st w ρ)=st u ρ)→acc.length+items.length≤4096→∀n,∃ws ρ2 σ2,(∀w∈ws,Q w)∧ws.length=items.length∧Inv σ2∧(run P (n+N+1+items.length+1)).co csc tgt [] [] elt (.items items) ρ' σ acc=some (acc++ws,ρ2,σ2)
  | [],acc,ρ',σ,hI,_,_,_,_,_,n=>⟨[],ρ',σ,(fun J h=>nomatch h),rfl,hI,by rw [Vp];rfl⟩
  | v :: r,acc,ρ',σ,hI,hs,h2,h3,h3b,h4,n=>by
    have e1:n+N+1+(v::r).length=(n+1+(v::r).length)+N:=by rw [Tl];lia
    have ea:(run P (n+N+1+(v::r).length)).asg csc tgt v ρ' σ=some (st v ρ,σ):=by rw [e1,← h3 v (Tj ..)];exact hs v (Tj ..) (n+1+(v::r).length) _ _
    obtain ⟨w,σb,hq,hIb,ee⟩:=h2 v (Tj ..) (n+1+(v::r).length) σ hI
    rw [← e1] at ee
    rw [Tl] at h4
    have go:n+N+1+(v::r).length=n+N+1+r.length+1:=by rw [Tl];exact Sk
    have hsz:sz acc=true:=Ty (by exact md ‹_›)
    obtain ⟨ws,ρ2,σ2,q1,q2,q3,e⟩:=Nh Inv Q st r (acc++[w]) (st v ρ) σb hIb (fun u hu=>hs u (Ti _ hu)) (fun u hu=>h2 u (Ti _ hu)) (fun u hu=>h3b u (Ti _ hu) v (Tj ..)) (fun u hu w hw=>h3b u (Ti _ hu) w (Ti _ hw)) (by rw [T1,Ua];exact re ‹_›) n
    refine ⟨w::ws,ρ2,σ2,fun u hu=>?_,by rw [Tl,Tl,q2],q3,?_⟩
    · rcases Tz.mp hu with rfl | hu
      · exact hq
      · exact q1 u hu
    · rw [Xs,← e,De (it':=.items r) rfl ea]
      rw [show j6 P (n+N+1+(v::r).length) csc [] (st v ρ) σ=some (true,σ) from rfl]
      show ao ((run P (n+N+1+(v::r).length)).ev csc elt (st v ρ) σ) (fun x σ3=>if sz acc then (run P (n+N+1+(v::r).length)).co csc tgt [] [] elt (.items r) (st v ρ) σ3 (acc++[x]) else none)=_
      rw [ee];show (if sz acc=true then _ else _)=_;rw [if_pos hsz,go]
theorem Od{n:Nat}{sc:Scope}{e elt iter tgt:Expr}{pos:Pos}{ρ ρf:Loc}{σ σ1:Sto}{items:List V}(he:e = .ListComp elt [⟨tgt,iter,[],0⟩] csc pos) (hc:mj sc csc=true) (hρ:(ρ.filter fun p=>fy p.1 csc)=ρf) (N:Nat) (Inv:Sto→Prop) (Q:V→Prop) (st:V→Loc→Loc) (hn:N+items.length+3≤n)
    (hi:gm P (run P (n-1)) sc iter ρ σ=some (.items items,σ1)) (h0:Inv σ1) (hs:∀v∈items,∀n σ ρ',(run P (n+N)).asg csc tgt v ρ' σ=some (st v ρ',σ))
    (h2:∀v∈items,∀n σ',Inv σ'→∃w σ'',Q w∧Inv σ''∧(run P (n+N)).ev csc elt (st v ρf) σ'=some (w,σ''))
    (h3b:∀u∈items,∀w∈items,st u (st w ρf)=st u ρf) (h4:items.length≤4096):∃ws σ2,(∀w∈ws,Q w)∧ws.length=items.length∧Inv σ2∧(run P n).ev sc e ρ σ=some (.ref σ2.next,push σ2 (.lst ws)):=by
  obtain ⟨k,rfl⟩:∃k,n=k+1:=⟨n-1,by exact j8 ‹_› (by decide)⟩
  obtain ⟨ws,ρ2,σ2,q1,q2,q3,ec⟩:=Nh (P:=P) (ρ:=ρf) (N:=N) Inv Q st items [] ρf σ1 h0 hs h2 (fun J J=>rfl) h3b (by simpa using h4) (k-(N+items.length+2))
  rw [show k-(N+items.length+2)+N+1+items.length+1=k by exact zqd ‹_›] at ec
  refine ⟨ws,σ2,q1,q2,q3,?_⟩
  rw [he]
  exact Fw hc hi (by rw [hρ];exact ec)
end
def Wrd (v:V):Prop:=∃i,i<7∧v=sw i
theorem Ki:∀{l:List V},(∀v∈l,Wrd v)→∃r:List Nat,(∀i∈r,i<7)∧l=r.map sw
  | [],_=>⟨[],(fun J h=>nomatch h),rfl⟩
  | v::l,h=>by
    obtain ⟨i,hi,rfl⟩:=h v (Tj ..)
    obtain ⟨r,hr,rfl⟩:=Ki fun u hu=>h u (Ti _ hu)
    exact ⟨i::r,fun j hj=>(Tz.mp hj).elim (fun e=>e▸hi) (hr j),rfl⟩
noncomputable def nm9:List Nat:=[0,1,2,3,4,5,6,0,3]
section
variable {c:Nat→Option (Nat×(List V→Option V))}{fre:Nat→Bool}{b nm:Nat}
theorem Of{k:Nat}(hk:k<9):∃i,i<7∧dr (nm9.map sw) k=some (sw i):=by
  match k,hk with
  | 0,_=>exact ⟨0,by decide,rfl⟩
  | 1,_=>exact ⟨1,by decide,rfl⟩
  | 2,_=>exact ⟨2,by decide,rfl⟩
  | 3,_=>exact ⟨3,by decide,rfl⟩
  | 4,_=>exact ⟨4,by decide,rfl⟩
  | 5,_=>exact ⟨5,by decide,rfl⟩
  | 6,_=>exact ⟨6,by decide,rfl⟩
  | 7,_=>exact ⟨0,by decide,rfl⟩
  | 8,_=>exact ⟨3,by decide,rfl⟩
  | k+9,h=>lia
noncomputable def D6:List V:=[.str sX,.str sY,.str sZ,.str sP,.str sQ,.str sm,.str sXZ,.str sX,.str sP]
theorem zky:D6=nm9.map sw:=by kernel_rfl
end
end
section
section
variable {b nm:Nat}
structure Iw (b nm:Nat) (xs:List V) (σ0 σ:Sto):Prop where
  box:Bx σ b
  gr:GrM [b] σ0 σ
  nam:ab σ nm=some (.lst xs)
  lt:nm<σ.next
theorem Iw.push{xs:List V}{o:MObj}(h:Iw b nm xs σ0 σ):Iw b nm xs σ0 (push σ o):=⟨h.box.gr (Gr.push _ _),h.gr.trans (GrM.of (Gr.push _ _)),(cg h.lt).trans h.nam,Nat.lt_succ_of_lt h.lt⟩
theorem Iw.draw{xs:List V}(h:Iw b nm xs σ0 σ) (hne:nm≠b) {M:Nat}(hM:0<M) (hM2:M<1000):∃(k:Nat) (σ':Sto),k<M∧(∀N,60≤N→(run Pz N).call 942 [.ref b,.int M] σ=some (.int k,σ'))∧Iw b nm xs σ0 σ'∧σ'.next=σ.next∧GrM [b] σ σ':=by
  obtain ⟨k,σ',h1,h2,h3,h4,h5⟩:=Ck h.box hM hM2
  exact ⟨k,σ',h1,h2,⟨h3,h.gr.trans h4,(h4.same nm h.lt (by simpa using hne)).trans h.nam,by rw [h5];exact h.lt⟩,h5,h4⟩
noncomputable def n7:Str:=⟨#[116,117,114,110]⟩
noncomputable def zhx:Str:=⟨#[102,101,119,101,115,116]⟩
theorem Iy(hb:Bx σ b) (hN:120≤N):∃(r:List Nat) (m:Option Nat) (σ':Sto) (l:Nat),r.length≤2∧(∀i∈r,i<7)∧(∀i,m=some i→i<7)∧(run Pz N).call 947 [.ref b,.int 0] σ=some (.tup [.ref l,so m],σ')∧ab σ' l=some (.lst (r.map sw))∧σ.next≤l∧l<σ'.next∧Bx σ' b∧GrM [b] σ σ':=by
  obtain ⟨n,rfl⟩:=Tg hN
  have hne:σ.next≠b:=by have:=hb.lt;exact U7 ‹_›
  have I1:Iw b σ.next (nm9.map sw) σ (push σ (.lst D6)):=⟨hb.gr (Gr.push _ _),GrM.of (Gr.push _ _),by rw [← zky];exact bg,Tr _⟩
  obtain ⟨k,σ2,hk3,e2,I2,n2,_⟩:=I1.draw hne (M:=3) (by decide) (by decide)
  have hadd:ff σ2 .Add (.int 0) (.int k)=some (.int k,σ2):=by
    show some (V.int (0+(k:Int)),σ2)=_
    rw [Int.zero_add]
  have hit:f9 σ2 (.rng 0 k)=some (.items (fj 0 k)):=mo (by lia)
  have hz:(fj 0 k).length=k:=by unfold fj;rw [Tm,Uu]
  obtain ⟨ws,σ3,q1,q2,I3,e3⟩:=Od (P:=Pz) (n:=n+116) (sc:=f947.scope) (ρ:=[(gc,.ref b),(zhx,.int 0),(E2,.ref σ.next)]) (σ:=push σ (.lst D6)) (e:=rE (ai f947.body 1)) rfl rfl (ρf:=[(gc,.ref b),(E2,.ref σ.next)]) (by kernel_rfl) 80 (Iw b σ.next (nm9.map sw) σ) Wrd (fun v ρ=>ac n7 v ρ) (by exact Q4 ‹_› ‹_› (by decide)) (items:=fj 0 k) (d9 rfl (cp (v:=.rng 0 k) [df e2,mf hadd] (by kernel_rfl)) hit) I2 (fun v hv n σ ρ'=>cu rfl) (fun v hv n σ' I=>by
      obtain ⟨j,σ'',hj,e,I',_⟩:=I.draw hne (M:=9) (by decide) (by decide)
      obtain ⟨i,hi,hx⟩:=Of hj
      exact ⟨sw i,σ'',⟨i,hi,rfl⟩,I',cp [df e,f7 ((lm I'.nam hj (show 9≤4096 by decide)).trans hx)] (by kernel_rfl)⟩) (fun u hu w hw=>gz _ _ _ _) (by exact Rf ‹_› ‹_› (by decide))
  obtain ⟨r,hr,rfl⟩:=Ki q1
  rw [Tm,hz] at q2
  have I4:Iw b σ.next (nm9.map sw) σ (push σ3 (.lst (r.map sw))):=I3.push
  have ne3:σ3.next≠b:=by have:=I3.box.lt;exact U7 ‹_›
  obtain ⟨k5,σ5,hk5,e5,I5,n5,g5⟩:=I4.draw hne (M:=4) (by decide) (by decide)
  have row5:ab σ5 σ3.next=some (.lst (r.map sw)):=(g5.same σ3.next (Tr _) (by simpa using ne3)).trans bg
  have lt5:σ3.next<σ5.next:=by rw [n5];exact Tr _
  have hge:σ.next≤σ3.next:=I3.gr.le
  cases k5 with
  | zero=>
    obtain ⟨j,σ6,hj,e6,I6,n6,g6⟩:=I5.draw hne (M:=9) (by decide) (by decide)
    obtain ⟨i,hi,hx⟩:=Of hj
    exact ⟨r,some i,σ6,σ3.next,by lia,hr,(fun j h=>by cases h;exact hi),ce (ay (by kernel_rfl)) [cw e3,df e5,df e6,f7 ((lm I6.nam hj (show 9≤4096 by decide)).trans hx)] (by kernel_rfl),(g6.same _ lt5 (by simpa using ne3)).trans row5,hge,Tn lt5 g6.le,I6.box,I6.gr⟩
  | succ k5=>
    have hcmp:∀σ,bo σ .Eq (.int (k5+1:Nat)) (.int 0)=some false:=fun σ=>congrArg some (decide_eq_false (by lia))
    exact ⟨r,none,σ5,σ3.next,by lia,hr,(fun j h=>by cases h),ce (ay (by kernel_rfl)) [cw e3,df e5,aq hcmp] (by kernel_rfl),row5,hge,lt5,I5.box,I5.gr⟩
end
end
section
noncomputable def wm:Str:=⟨#[115,99,114,105,112,116]⟩
noncomputable def Rq:Str:=⟨#[99,101,108,108]⟩
noncomputable def zp5:Str:=⟨#[115,105,122,101]⟩
section
variable {b:Nat}
theorem zfw(l:List Int) (hl:l.length≤63) (hN:60≤N):∃x y:Int,0≤x∧0≤y∧(run Pz N).call 935 [.lst (l.map .int)] σ=some (.ref σ.next,push σ (.lst [.int x,.int y])):=by
  obtain ⟨n,rfl⟩:=Tg hN
  have hlen:∀σ,blt σ (.builtin "len") [.lst (l.map V.int)]=some (.int l.length,σ):=fun σ=>by rw [qw (by rw [Tm];exact Th ‹_› (by decide)),Tm]
  have hc:∃c:Int,(run Pz (n+57)).ev f935.scope (rE (ai f935.body 0)) [(wm,.lst (l.map .int))] σ=some (.int c,σ):=by
    cases l with
    | nil=>exact ⟨2,cp [bh hlen] (by kernel_rfl)⟩
    | cons a l=>
      have h1:∀σ,bo σ .Gt (.int (a::l).length) (.int 0)=some true:=fun σ=>congrArg some (decide_eq_true (by rw [Tl];lia))
      have h2:∀σ,di σ (.lst ((a::l).map .int)) (.int 0)=some (.int a):=fun σ=>(wj (xs:=(a::l).map .int) (i:=0) (U0 _) (by rw [Tm];exact Th ‹_› (by decide))).trans rfl
      exact ⟨a,cp [bh hlen,aq h1,ey h2] (by kernel_rfl)⟩
  obtain ⟨c,e1⟩:=hc
  have hs:∃s:Int,0≤s∧(run Pz (n+56)).ev f935.scope (rE (ai f935.body 1)) [(wm,.lst (l.map .int)),(Rq,.int c)] σ=some (.int s,σ):=by
    have hge:∀{d:Bool},decide (c ≥ 0)=d→∀σ,bo σ .GtE (.int c) (.int 0)=some d:=fun h σ=>congrArg some h
    by_cases h:c ≥ 0
    · exact ⟨c,h,cp [aq (hge (decide_eq_true h))] (by kernel_rfl)⟩
    · exact ⟨-1-c,by lia,cp [aq (hge (decide_eq_false h))] (by kernel_rfl)⟩
  obtain ⟨s,hs,e2⟩:=hs
  have hx:∃x:Int,0≤x∧(run Pz (n+53)).ev f935.scope (iy (rE (ai f935.body 2)) 0) [(wm,.lst (l.map .int)),(Rq,.int c),(zp5,.int s)] σ=some (.int x,σ):=by
    have hge:∀{d:Bool},decide (s ≥ 10 ^ 18)=d→∀σ,bo σ .GtE (.int s) (.int (10 ^ 18))=some d:=fun h σ=>congrArg some h
    have hp:∀σ,ff σ .Pow (.int 10) (.int 18)=some (.int (10 ^ 18),σ):=fun J=>rfl
    generalize (10:Int) ^ 18=B at hge hp
    by_cases h:s ≥ B
    · exact ⟨s,hs,cp [lh hp,aq (hge (decide_eq_true h))] (by kernel_rfl)⟩
    · exact ⟨0,Ym _,cp [lh hp,aq (hge (decide_eq_false h))] (by kernel_rfl)⟩
  obtain ⟨x,hx,e3⟩:=hx
  have hm:∀σ,ff σ .Mod (.int s) (.int 1000003)=some (.int (s.fmod 1000003),σ):=fun J=>rfl
  have hn:=Vr s (show (0:Int)<1000003 by decide)
  generalize s.fmod 1000003=z at hm hn
  exact ⟨x,z+11,hx,by lia,ce (ay (by kernel_rfl)) [cw e1,cw e2,cw e3,lh hm] (by kernel_rfl)⟩
end
end
section
noncomputable def sv:List Stmt:=wB (ai f1010.body 2)
def Wr3 (v:V):Prop:=∃i,i<3∧v=sw i
theorem J1:∀{l:List V},(∀v∈l,Wr3 v)→∃r:List Nat,(∀i∈r,i<3)∧l=r.map sw
  | [],_=>⟨[],(fun J h=>nomatch h),rfl⟩
  | v::l,h=>by
    obtain ⟨i,hi,rfl⟩:=h v (Tj ..)
    obtain ⟨r,hr,rfl⟩:=J1 fun u hu=>h u (Ti _ hu)
    exact ⟨i::r,fun j hj=>(Tz.mp hj).elim (fun e=>e▸hi) (hr j),rfl⟩
theorem zm0{k:Nat}(hk:k<3):dr [.str ⟨#[88]⟩,.str ⟨#[89]⟩,.str ⟨#[90]⟩] k=some (sw k):=by
  match k,hk with
  | 0,_=>kernel_rfl
  | 1,_=>kernel_rfl
  | 2,_=>kernel_rfl
  | k+3,h=>lia
structure Ib (b:Nat) (σ0 σ:Sto):Prop where
  box:Bx σ b
  gr:GrM [b] σ0 σ
section
variable {b:Nat}{S:List Shp}
theorem Ib.push{o:MObj}(h:Ib b σ0 σ):Ib b σ0 (push σ o):=⟨h.box.gr (Gr.push _ _),h.gr.trans (GrM.of (Gr.push _ _))⟩
theorem Ib.draw(h:Ib b σ0 σ) {M:Nat}(hM:0<M) (hM2:M<1000):∃(k:Nat) (σ':Sto),k<M∧(∀N,60≤N→(run Pz N).call 942 [.ref b,.int M] σ=some (.int k,σ'))∧Ib b σ0 σ'∧σ'.next=σ.next∧GrM [b] σ σ':=by
  obtain ⟨k,σ',h1,h2,h3,h4,h5⟩:=Ck h.box hM hM2
  exact ⟨k,σ',h1,h2,⟨h3,h.gr.trans h4⟩,h5,h4⟩
theorem zm6(hb:Bx σ b) (h1:ae gc ρ=some (.ref b)) (hρ:(ρ.filter fun p=>fy p.1 (qg (rE (ai sv 0))))=[(gc,.ref b)]) (hN:100≤N):∃(r:List Nat) (σ':Sto),r.length≤3∧(∀i∈r,i<3)∧(run Pz N).ev f1010.scope (rE (ai sv 0)) ρ σ=some (.ref σ'.next,push σ' (.lst (r.map sw)))∧Ib b σ σ':=by
  obtain ⟨n,rfl⟩:=Tg hN
  have I0:Ib b σ σ:=⟨hb,GrM.refl _ _⟩
  obtain ⟨k,σ2,hk,e2,I2,n2,_⟩:=I0.draw (M:=4) (by decide) (by decide)
  have hit:f9 σ2 (.rng 0 k)=some (.items (fj 0 k)):=mo (by lia)
  have hz:(fj 0 k).length=k:=by unfold fj;rw [Tm,Uu]
  obtain ⟨ws,σ3,q1,q2,I3,e3⟩:=Od (P:=Pz) (n:=n+100) (sc:=f1010.scope) (ρ:=ρ) (σ:=σ) (e:=rE (ai sv 0)) rfl rfl hρ 80 (Ib b σ) Wr3 (fun v ρ=>ac xv v ρ) (by exact Q4 ‹_› ‹_› (by decide)) (items:=fj 0 k) (d9 rfl (cp (v:=.rng 0 k) [ag h1,df e2] (by kernel_rfl)) hit) I2 (fun v hv n σ ρ'=>cu rfl) (fun v hv n σ' I=>by
      obtain ⟨j,σ'',hj,e,I',hn,hg⟩:=(I.push (o:=.lst [.str ⟨#[88]⟩,.str ⟨#[89]⟩,.str ⟨#[90]⟩])).draw (M:=3) (by decide) (by decide)
      have hne:σ'.next≠b:=by have:=I.box.lt;exact U7 ‹_›
      have hx:ab σ'' σ'.next=some (.lst [.str ⟨#[88]⟩,.str ⟨#[89]⟩,.str ⟨#[90]⟩]):=(hg.same _ (Tr _) (by simpa using hne)).trans bg
      exact ⟨sw j,σ'',⟨j,hj,rfl⟩,I',cp [df e,f7 ((lm hx hj (show 3≤4096 by decide)).trans (zm0 hj))] (by kernel_rfl)⟩) (fun u hu w hw=>gz _ _ _ _) (by exact Rf ‹_› ‹_› (by decide))
  obtain ⟨r,hr,rfl⟩:=J1 q1
  rw [Tm,hz] at q2
  exact ⟨r,σ3,by lia,hr,e3,I3⟩
theorem Ev:∀(r:List Nat) (σ:Sto) (n:Nat),r.length+2≤n→fzs σ n (r.map sw)=some (r.map sw)
  | [],σ,n,h=>by
    obtain ⟨k,rfl⟩:∃k,n=k+1:=⟨n-1,by exact j8 ‹_› (by decide)⟩
    rfl
  | x::r,σ,n,h=>by
    rw [Tl] at h
    obtain ⟨k,rfl⟩:∃k,n=k+2:=⟨n-2,by exact j8 ‹_› (by decide)⟩
    exact ca rfl (Ev r σ (k+1) (by exact jk ‹_›))
theorem Kc(hS:∀p∈S,SgOk p.1 p.2) (hl:S.length≤4) (hb:Bx σ b) (h1:ae gc ρ=some (.ref b)) (h2:ae g7 ρ=some (bk S)) (h3:ae d5 ρ=some (.lst (S.map bz))) (hρ:(ρ.filter fun p=>fy p.1 (qg (rE (ai sv 0))))=[(gc,.ref b)]) (hN:560≤N):∃l σ',(run Pz N).exs f1010.scope sv ρ σ=some (.next,ac j9 (.ref l) ρ,σ')∧Bx σ' b:=by
  obtain ⟨n,rfl⟩:=Tg hN
  obtain ⟨r,σ2,q1,q2,e2,I2⟩:=zm6 (N:=n+558) hb h1 hρ (by lia)
  have hr:SgOk r none:=⟨⟨q1,fun i hi=>by have:=q2 i hi;exact Th ‹_› (by decide),fun i h=>by cases h⟩,.inr fun i hi=>by have:=q2 i hi;exact Th ‹_› (by decide)⟩
  have l1:ae g7 (ac j9 (.ref σ2.next) ρ)=some (bk S):=(dk _ _ (by decide +kernel)).trans h2
  have l2:ae d5 (ac j9 (.ref σ2.next) ρ)=some (.lst (S.map bz)):=(dk _ _ (by decide +kernel)).trans h3
  have l3:ae j9 (ac j9 (.ref σ2.next) ρ)=some (.ref σ2.next):=eq ..
  have hcall:∀N,542≤N→(run Pz N).call 1000 [bk S,.lst (S.map bz),.ref σ2.next] (push σ2 (.lst (r.map sw)))=some (.bool true,push σ2 (.lst (r.map sw))):=fun N hN=>by
    obtain ⟨k,rfl⟩:=Tg hN
    exact te (fd:=f1000) (k:=540) (g:=af Px 540 1000) (args':=[bk S,.lst (S.map bz),.lst (r.map sw)]) rfl (by kernel_rfl) rfl (ca (n:=199) rfl (ca (n:=198) rfl (ca (n:=197) (ky bg (Ev _ _ _ (by exact x4 ‹_› (by decide)))) rfl))) (zes hr hS hl) (.inl rfl) (by lia)
  exact ⟨σ2.next,push σ2 (.lst (r.map sw)),iw [cw e2,ag l1,ag l2,ag l3,df hcall] (by kernel_rfl),I2.box.gr (Gr.push _ _)⟩
end
end
noncomputable def Hl{α:Type}(A:Option (Fl×Loc×Sto)) (B:Loc→Sto→Option (Fl×Loc×Sto)) (T:Loc→Sto→α):Option α:=match A with
  | some (.next,ρ,σ1)=>match B ρ σ1 with
    | some (.next,ρ2,σ2)=>some (T ρ2 σ2)
    | _=>none
  | _=>none
set_option tactic.hygienic true in
theorem zj9{α:Type}{A:Option (Fl×Loc×Sto)}{B:Loc→Sto→Option (Fl×Loc×Sto)}{T:Loc→Sto→α}{r:α}(h:Hl A B T=some r):∃ρ1 σ1 ρ2 σ2,A=some (.next,ρ1,σ1)∧B ρ1 σ1=some (.next,ρ2,σ2)∧T ρ2 σ2=r:=by
  unfold Hl at h
  split at h
  · rename_i ρ1 σ1
    split at h
    · rename_i ρ2 σ2 e2
      exact ⟨ρ1,σ1,ρ2,σ2,rfl,e2,Uj.inj h⟩
    · cases h
  · cases h
noncomputable def E0:Str:=⟨#[97,98,111,118,101]⟩
noncomputable def Sf:Loc:=[(gc,.ref 0),(cj,KINDS),(gh,.str sZ),(E0,.str sm)]
noncomputable def sK(x y:Int):Sto:=⟨951,[(0,.lst [.int x,.int y])]⟩
theorem zm1(x y:Int):Hl ((run Pz 682).ex f995.scope (ai f995.body 0) [(gc,.ref 0)] ⟨1,[(0,.lst [.int x,.int y])]⟩) (fun ρ1 σ1=>(run Pz 681).ex f995.scope (ai f995.body 1) ρ1 σ1) (fun ρ2 σ2=>ic Pz (f995.body.drop 2) ρ2 σ2)=some (Sf,sK x y):=by kernel_rfl
theorem zg4(x y:Int):∃ρ1 σ1 ρ2 σ2,(run Pz 682).ex f995.scope (ai f995.body 0) [(gc,.ref 0)] ⟨1,[(0,.lst [.int x,.int y])]⟩=some (.next,ρ1,σ1)∧(run Pz 681).ex f995.scope (ai f995.body 1) ρ1 σ1=some (.next,ρ2,σ2)∧ic Pz (f995.body.drop 2) ρ2 σ2=(Sf,sK x y):=zj9 (zm1 x y)
section
noncomputable def gj(i:Int) (p:Shp) (nl:Nat) (wf:Int):MObj:=.obj 917 methKeys [.int i,.str tF,sg p.1 p.2,.ref nl,.bool p.2.isSome,.none,.none,.int wf,.none]
section
variable {o nl:Nat}{p:Shp}
noncomputable def iq(k:Nat) (p:Shp) (nl:Nat):MObj:=.obj 917 (methKeys.take k) (([.int 0,.str tF,sg p.1 p.2,.ref nl,.bool p.2.isSome,.none,.none,.int 0,.none]:List V).take k)
noncomputable def pj(σ:Sto) (o:Nat) (p:Shp) (nl:Nat):Sto:=ah (ah (ah (ah (ah (ah (ah (ah (ah σ o (iq 1 p nl)) o (iq 2 p nl)) o (iq 3 p nl)) o (iq 4 p nl)) o (iq 5 p nl)) o (iq 6 p nl)) o (iq 7 p nl)) o (iq 8 p nl)) o (iq 9 p nl)
theorem zcy(ho:ab σ o=some (.obj 917 [] [])) (hN:60≤N):(run Pz N).call 893 [.ref o,.int 0,.str tF,sg p.1 p.2,.ref nl,.bool p.2.isSome,.none,.none] σ=some (.none,pj σ o p nl):=by
  obtain ⟨n,rfl⟩:=Tg hN
  have h1:ab (ah σ o (iq 1 p nl)) o=some (iq 1 p nl):=bv ho
  have h2:=bv (o:=iq 2 p nl) h1
  have h3:=bv (o:=iq 3 p nl) h2
  have h4:=bv (o:=iq 4 p nl) h3
  have h5:=bv (o:=iq 5 p nl) h4
  have h6:=bv (o:=iq 6 p nl) h5
  have h7:=bv (o:=iq 7 p nl) h6
  have h8:=bv (o:=iq 8 p nl) h7
  exact ce (ay (by kernel_rfl)) [gn ho,gn h1,gn h2,gn h3,gn h4,gn h5,gn h6,gn h7,gn h8] (by kernel_rfl)
theorem zgw(ho:ab σ o=some (.obj 917 [] [])):ab (pj σ o p nl) o=some (gj 0 p nl 0):=bv (bv (bv (bv (bv (bv (bv (bv (bv ho))))))))
theorem K4{k:Nat}(h:k≠o):ab (pj σ o p nl) k=ab σ k:=by
  have h:=Ne.symm h
  exact (be h).trans ((be h).trans ((be h).trans ((be h).trans ((be h).trans ((be h).trans ((be h).trans ((be h).trans (be h))))))))
noncomputable def P6:List Str:=[cj,nq,A8,Eh]
noncomputable def Fu(σ:Sto) (o:Nat):Sto:=ah (ah (push (ah (push (ah σ o (.obj 680 [cj] [KINDS])) (.dct [] [])) o (.obj 680 [cj,nq] [KINDS,.ref σ.next])) (.lst [])) o (.obj 680 [cj,nq,A8] [KINDS,.ref σ.next,.ref (σ.next+1)])) o (.obj 680 P6 [KINDS,.ref σ.next,.ref (σ.next+1),.int 1])
theorem zct(ho:ab σ o=some (.obj 680 [] [])) (hlt:o<σ.next) (hN:60≤N):(run Pz N).call 620 [.ref o,KINDS] σ=some (.none,Fu σ o):=by
  obtain ⟨n,rfl⟩:=Tg hN
  have h1:ab (push (ah σ o (.obj 680 [cj] [KINDS])) (.dct [] [])) o=some (.obj 680 [cj] [KINDS]):=(cg (σ:=ah σ o (.obj 680 [cj] [KINDS])) hlt).trans (bv ho)
  have h2:ab (push (ah (push (ah σ o (.obj 680 [cj] [KINDS])) (.dct [] [])) o (.obj 680 [cj,nq] [KINDS,.ref σ.next])) (.lst [])) o=some (.obj 680 [cj,nq] [KINDS,.ref σ.next]):=(cg (σ:=ah (push (ah σ o (.obj 680 [cj] [KINDS])) (.dct [] [])) o (.obj 680 [cj,nq] [KINDS,.ref σ.next])) (U5 hlt)).trans (bv h1)
  have h3:=bv (o:=.obj 680 [cj,nq,A8] [KINDS,.ref σ.next,.ref (σ.next+1)]) h2
  exact ce (ay (by kernel_rfl)) [gn ho,gn h1,gn h2,gn h3] (by kernel_rfl)
end
end
section
noncomputable def u6:Str:=⟨#[101,108,100,101,114]⟩
noncomputable def aB:List Stmt:=wB (ai f594.body 0)
section
variable {tb ml m nl i:Nat}{p q:Shp}{ms:List Nat}{wf:Int}
theorem zi5(h1:SgOk p.1 p.2) (h2:SgOk q.1 q.2) (hN:422≤N):(run Pz N).call 390 [KINDS,sg p.1 p.2,sg q.1 q.2] σ=some (.bool (al p.1 p.2 q.1 q.2&&al q.1 q.2 p.1 p.2),σ):=by
  obtain ⟨n,rfl⟩:=Tg hN
  exact ii (fd:=S7) (c:=420) (g:=af Po 420 390) rfl (by kernel_rfl) (vf (Pls.cons (db h1.toShOk) (Pls.cons (db h2.toShOk) Pls.nil)).rf) (zg3 h1 h2) (by lia)
theorem Kg:∀{l:List Nat}{j:Nat},j<l.length→l.getD j 0∈l
  | _::_,0,_=>Tj ..
  | _::r,j+1,h=>Ti _ (Kg (l:=r) (Tx h))
def B0 (σ:Sto) (q:Shp) (e:Nat):Prop:=∃i p nl wf,ab σ e=some (gj i p nl wf)∧SgOk p.1 p.2∧(al p.1 p.2 q.1 q.2&&al q.1 q.2 p.1 p.2)=false
noncomputable def vx(tb m:Nat) (X:Loc):Loc:=(d6,.ref tb)::(gf,.ref m)::(cj,KINDS)::X
theorem zf6{e:Nat}{i:Int}{X:Loc}(hq:SgOk q.1 q.2) (he:B0 σ q e) (hm:ab σ m=some (gj i q nl wf)) (hN:450≤N):(run Pz N).exs f594.scope aB (vx tb m (ac u6 (.ref e) X)) σ=some (.next,vx tb m (ac u6 (.ref e) X),σ):=by
  obtain ⟨n,rfl⟩:=Tg hN
  obtain ⟨j,p,nl',wf',hs,hp,hne⟩:=he
  have hc:=fun N hN=>zi5 (σ:=σ) (N:=N) hp hq hN
  rw [hne] at hc
  have l:=eq u6 (.ref e) X
  have z:∀X,ae cj (vx tb m X)=some KINDS:=fun X=>by kernel_rfl
  have z2:∀X,ae gf (vx tb m X)=some (.ref m):=fun X=>by kernel_rfl
  exact iw [ag l,ie (dx hs),ag (z (ac u6 (.ref e) X)),ag l,ie (dx hs),ag (z2 (ac u6 (.ref e) X)),ie (dx hm),df hc] (by kernel_rfl)
theorem Kw{i:Int}(hq:SgOk q.1 q.2) (hm:ab σ m=some (gj i q nl wf)) (hl:ab σ ml=some (.lst (ms.map .ref))) (hE:∀e∈ms,B0 σ q e):∀(k j:Nat) {X:Loc}{N:Nat},j+k=ms.length→452+k≤N→
    ∃X',(run Pz N).fo f594.scope (fT (ai f594.body 0)) (.cur ml j) aB (vx tb m X) σ=some (.next,vx tb m X',σ)
  | 0,j,X,N,hk,hN=>by
    obtain ⟨n,rfl⟩:∃n,N=n+1:=⟨N-1,by exact im ‹_› (by decide)⟩
    refine ⟨_,lq (tu hl ?_)⟩
    rw [uu,W2.mpr (by rw [Tm];lia)];rfl
  | k+1,j,X,N,hk,hN=>by
    obtain ⟨n,rfl⟩:∃n,N=n+2:=⟨N-2,by exact im ‹_› (by decide)⟩
    have hj:j<ms.length:=by exact ub ‹_›
    have hn:dr (ms.map V.ref) j=some (.ref (ms.getD j 0)):=zl V.ref 0 ms j hj
    have hmem:ms.getD j 0∈ms:=Kg hj
    have e1:=zf6 (N:=n+1) (tb:=tb) (X:=X) hq (hE _ hmem) hm (by exact p8 ‹_› (by decide))
    obtain ⟨X',e2⟩:=Kw hq hm hl hE k (j+1) (X:=ac u6 (.ref (ms.getD j 0)) X) (N:=n+1) (by exact oq ‹_›) (by exact jk ‹_›)
    exact ⟨X',ku (F7 hl hn) (by kernel_rfl) e1 e2⟩
theorem Jr{i:Int}(hq:SgOk q.1 q.2) (hm:ab σ m=some (gj i q nl wf)) (ht:ab σ tb=some (.obj 602 [gh,ql] [.str tF,.ref ml])) (hl:ab σ ml=some (.lst (ms.map .ref))) (hE:∀e∈ms,B0 σ q e) (hlen:ms.length≤10) (hN:480≤N):(run Pz N).call 594 [.ref tb,.ref m,KINDS] σ=some (.none,ah σ ml (.lst (ms.map .ref++[.ref m]))):=by
  obtain ⟨n,rfl⟩:=Tg hN
  obtain ⟨X',e⟩:=Kw (tb:=tb) hq hm hl hE ms.length 0 (X:=[]) (N:=n+477) (by exact oj) (by exact vh ‹_› (by decide))
  have hb:=ur (x:=.ref m) hl (ir (by rw [Tm];exact Th ‹_› (by decide)))
  exact ce (ay (by kernel_rfl)) [ie (dx ht),yy (je hl),oz e,ie (dx ht),tc (ln hl),ta (lj hl),sy hb] (by kernel_rfl)
noncomputable def ug(σ:Sto):Sto:=ah (push (ah (push σ (.obj 602 [] [])) σ.next (.obj 602 [gh] [.str tF])) (.lst [])) σ.next (.obj 602 [gh,ql] [.str tF,.ref (σ.next+1)])
theorem zb0(hN:40≤N):(run Pz N).call 587 [.ref σ.next,.str tF] (push σ (.obj 602 [] []))=some (.none,ug σ):=by
  obtain ⟨n,rfl⟩:=Tg hN
  have h1:ab (push (ah (push σ (.obj 602 [] [])) σ.next (.obj 602 [gh] [.str tF])) (.lst [])) σ.next=some (.obj 602 [gh] [.str tF]):=(cg (σ:=ah (push σ (.obj 602 [] [])) σ.next (.obj 602 [gh] [.str tF])) (Tr _)).trans (bv bg)
  have h0:ab (push σ (.obj 602 [] [])) σ.next=some (.obj 602 [] []):=bg
  exact ce (ay (by kernel_rfl)) [gn h0,gn h1] (by kernel_rfl)
end
end
section
noncomputable def gp(w:Int):MObj:=.obj 680 P6 [KINDS,.ref 952,.ref 953,.int w]
section
variable {tb ml m nl i:Nat}{p q:Shp}{ms:List Nat}{w:Int}
theorem J0{ks:List Str}{xs:List V}{k:Nat}{s:Str}(h:ab σ k=some (.dct ks xs)):bo σ .NotIn (.str s) (.ref k)=some (!e9 s ks):=by
  have e:vq σ (.str s) (.ref k)=some (e9 s ks):=by
    show (if (bj σ (.ref k)).isSome=true then ob (bj σ (.ref k)) fun xs=>vo (V.str s) xs else Su σ (V.str s) (V.ref k))=_
    exact (if_neg (by rw [Qv h];exact Ts)).trans (bp (Fm h) rfl)
  show on (vq σ (.str s) (.ref k))=_
  rw [e];rfl
theorem Kh{ks:List Str}{xs:List V}{k:Nat}{s:Str}(h:ab σ k=some (.dct ks xs)):di σ (.ref k) (.str s)=d8 s ks xs:=bp (x:=mh σ (.ref k)) (Fm h) rfl
theorem qs{k:Nat}(h:k<σ.next):ab (ug σ) k=ab σ k:=by
  have hn:σ.next≠k:=by exact U7 ‹_›
  exact (be hn).trans ((cg (σ:=ah (push σ (.obj 602 [] [])) σ.next (.obj 602 [gh] [.str tF])) (by show k<σ.next+1;exact lb ‹_›)).trans ((be hn).trans (cg h)))
theorem zhv:ab (ug σ) σ.next=some (.obj 602 [gh,ql] [.str tF,.ref (σ.next+1)]):=bv ((cg (σ:=ah (push σ (.obj 602 [] [])) σ.next (.obj 602 [gh] [.str tF])) (by show σ.next<σ.next+1;exact Tr _)).trans (bv bg))
theorem zjf:ab (ug σ) (σ.next+1)=some (.lst []):=(be (by lia)).trans bg
noncomputable def j7(σ:Sto):Sto:=ah (ug σ) 952 (.dct [tF] [.ref σ.next])
theorem zbh(ht:ab σ 951=some (gp w)) (hd:ab σ 952=some (.dct [] [])) (hn:955≤σ.next) (hN:80≤N):(run Pz N).call 627 [.ref 951,.str tF] σ=some (.ref σ.next,j7 σ):=by
  obtain ⟨n,rfl⟩:=Tg hN
  have t1:ab (ug σ) 951=some (gp w):=(qs (by exact pq ‹_› (by decide))).trans ht
  have d1:ab (ug σ) 952=some (.dct [] []):=(qs (by exact pq ‹_› (by decide))).trans hd
  have t2:ab (j7 σ) 951=some (gp w):=(be (by decide)).trans t1
  have d2:ab (j7 σ) 952=some (.dct [tF] [.ref σ.next]):=bv d1
  have hi:di (j7 σ) (.ref 952) (.str tF)=some (.ref σ.next):=(Kh d2).trans rfl
  exact ce (ay (by kernel_rfl)) [ie (dx ht),fw (J0 (s:=tF) hd),df fun N h=>zb0 (σ:=σ) h,ie (dx t1),gn d1,ie (dx t2),f7 hi] (by kernel_rfl)
theorem zbp(ht:ab σ 951=some (gp w)) (hd:ab σ 952=some (.dct [tF] [.ref tb])) (hN:80≤N):(run Pz N).call 627 [.ref 951,.str tF] σ=some (.ref tb,σ):=by
  obtain ⟨n,rfl⟩:=Tg hN
  have hi:di σ (.ref 952) (.str tF)=some (.ref tb):=(Kh hd).trans rfl
  exact ce (ay (by kernel_rfl)) [ie (dx ht),fw (J0 (s:=tF) hd),ie (dx ht),f7 hi] (by kernel_rfl)
noncomputable def l8(σ:Sto) (m:Nat) (q:Shp) (nl:Nat) (ms:List Nat) (n:Nat):Sto:=
  ah (ah (ah (ah σ 951 (gp ((n:Int)+1+1))) m (gj n q nl 0)) m (gj n q nl ((n:Int)+1+1))) 953 (.lst (ms.map .ref++[.ref m]))
theorem zec{tb':Nat}{σ':Sto}(ht:ab σ 951=some (gp ((ms.length:Int)+1))) (ha:ab σ 953=some (.lst (ms.map .ref))) (hm:ab σ m=some (gj 0 q nl 0)) (hm1:m≠951) (hm2:m≠953) (hlen:ms.length≤10)
    (htab:∀N,80≤N→(run Pz N).call 627 [.ref 951,.str tF] (l8 σ m q nl ms ms.length)=some (.ref tb',σ')) (ht':ab σ' 951=some (gp ((ms.length:Int)+1+1)))
    {σ2:Sto}{ml':Nat}(htb:ab σ' tb'=some (.obj 602 [gh,ql] [.str tF,.ref ml'])) (hadd:∀N,480≤N→(run Pz N).call 594 [.ref tb',.ref m,KINDS] σ'=some (.none,σ2)) (hN:520≤N):(run Pz N).call 634 [.ref 951,.ref m] σ=some (.ref m,σ2):=by
  obtain ⟨n,rfl⟩:=Tg hN
  have t1:ab (ah σ 951 (gp ((ms.length:Int)+1+1))) 951=some (gp ((ms.length:Int)+1+1)):=bv ht
  have m1:ab (ah σ 951 (gp ((ms.length:Int)+1+1))) m=some (gj 0 q nl 0):=(be (Ne.symm hm1)).trans hm
  have a1:ab (ah σ 951 (gp ((ms.length:Int)+1+1))) 953=some (.lst (ms.map .ref)):=(be (by decide)).trans ha
  have m2:ab (ah (ah σ 951 (gp ((ms.length:Int)+1+1))) m (gj ms.length q nl 0)) m=some (gj ms.length q nl 0):=bv m1
  have t3:ab (ah (ah (ah σ 951 (gp ((ms.length:Int)+1+1))) m (gj ms.length q nl 0)) m (gj ms.length q nl ((ms.length:Int)+1+1))) 951=some (gp ((ms.length:Int)+1+1)):=(be hm1).trans ((be hm1).trans t1)
  have a3:ab (ah (ah (ah σ 951 (gp ((ms.length:Int)+1+1))) m (gj ms.length q nl 0)) m (gj ms.length q nl ((ms.length:Int)+1+1))) 953=some (.lst (ms.map .ref)):=(be hm2).trans ((be hm2).trans a1)
  have m4:ab (l8 σ m q nl ms ms.length) m=some (gj ms.length q nl ((ms.length:Int)+1+1)):=(be (Ne.symm hm2)).trans (bv m2)
  have t4:ab (l8 σ m q nl ms ms.length) 951=some (gp ((ms.length:Int)+1+1)):=(be (by decide)).trans t3
  have hl:blt (ah σ 951 (gp ((ms.length:Int)+1+1))) (.builtin "len") [.ref 953]=some (.int ms.length,ah σ 951 (gp ((ms.length:Int)+1+1))):=by rw [zz a1 (ir (by rw [Tm];exact Th ‹_› (by decide))),Tm]
  have hb:=ur (x:=.ref m) a3 (ir (by rw [Tm];exact Th ‹_› (by decide)))
  exact ce (ay (by kernel_rfl)) [ie (dx ht),gn ht,ie (dx t1),ki hl,ie (dx t1),gn m1,gn m2,ie (dx t3),tc (ln a3),ta (lj a3),sy hb,ie (dx t4),ie (dx m4),df htab,ie (dx htb),ie (dx ht'),df hadd] (by kernel_rfl)
end
end
section
noncomputable def XM(ml:Nat):List Nat:=[0,951,952,953,954,ml]
structure MOk (σ:Sto) (ml i m:Nat) (p:Shp):Prop where
  at':∃nl,ab σ m=some (gj i p nl ((i:Int)+1+1))∧ab σ nl=some (.lst [])∧nl<σ.next∧nl ∉ XM ml
  lt:m<σ.next
  nx:m ∉ XM ml
inductive Mths (σ:Sto) (ml:Nat):Nat→List Nat→List Shp→Prop
  | nil {i:Nat}:Mths σ ml i [] []
  | cons {i m:Nat}{p:Shp}{ms:List Nat}{S:List Shp}:MOk σ ml i m p→Mths σ ml (i+1) ms S→Mths σ ml i (m::ms) (p::S)
section
variable {ml ml' i m tb:Nat}{p q:Shp}{ms:List Nat}{S:List Shp}{M:List Nat}
theorem MOk.gr(h:MOk σ ml i m p) (g:GrM M σ σ') (hM:∀k,k<σ.next→k ∉ XM ml→k ∉ M) (hx:∀k,k<σ.next→k ∉ XM ml→k ∉ XM ml'):MOk σ' ml' i m p:=by
  obtain ⟨nl,h1,h2,h3,h4⟩:=h.at'
  exact ⟨⟨nl,(g.same _ h.lt (hM _ h.lt h.nx)).trans h1,(g.same _ h3 (hM _ h3 h4)).trans h2,Tn h3 g.le,hx _ h3 h4⟩,Tn h.lt g.le,hx _ h.lt h.nx⟩
theorem Mths.gr(h:Mths σ ml i ms S) (g:GrM M σ σ') (hM:∀k,k<σ.next→k ∉ XM ml→k ∉ M) (hx:∀k,k<σ.next→k ∉ XM ml→k ∉ XM ml'):Mths σ' ml' i ms S:=by
  induction h with
  | nil=>exact .nil
  | cons h1 _ ih=>exact .cons (h1.gr g hM hx) ih
theorem Mths.snoc(h:Mths σ ml i ms S) (h2:MOk σ ml (i+ms.length) m p):Mths σ ml i (ms++[m]) (S++[p]):=by
  induction h with
  | nil=>exact .cons h2 .nil
  | @cons i m' p' ms S h1 _ ih=>
    rw [Tl] at h2
    exact .cons h1 (ih (by rwa [show i+1+ms.length=i+(ms.length+1) by lia]))
theorem Mths.len(h:Mths σ ml i ms S):ms.length=S.length:=by
  induction h with
  | nil=>rfl
  | cons _ _ ih=>rw [Tl,Tl,ih]
theorem Mths.eld(h:Mths σ ml i ms S) (hS:∀p∈S,SgOk p.1 p.2) (hE:∀p∈S,(al p.1 p.2 q.1 q.2&&al q.1 q.2 p.1 p.2)=false):∀e∈ms,B0 σ q e:=by
  induction h with
  | nil=>exact fun e h=>nomatch h
  | cons h1 _ ih=>
    intro e he
    rcases Tz.mp he with rfl | he
    · obtain ⟨nl,a,_⟩:=h1.at'
      exact ⟨_,_,_,_,a,hS _ (Tj ..),hE _ (Tj ..)⟩
    · exact ih (fun p hp=>hS p (Ti _ hp)) (fun p hp=>hE p (Ti _ hp)) e he
structure LT (σ:Sto) (S:List Shp) (tb ml:Nat) (ms:List Nat):Prop where
  nx:955≤σ.next
  ht:ab σ 951=some (gp ((ms.length:Int)+1))
  hd:ab σ 952=some (if ms.isEmpty then .dct [] [] else .dct [tF] [.ref tb])
  ha:ab σ 953=some (.lst (ms.map .ref))
  hb:ms.isEmpty=false→ab σ tb=some (.obj 602 [gh,ql] [.str tF,.ref ml])∧tb<σ.next∧tb ∉ XM ml∧ab σ ml=some (.lst (ms.map .ref))∧ml<σ.next∧955≤ml
  hm:Mths σ ml 0 ms S
theorem LT.gr(h:LT σ S tb ml ms) (g:GrM [0,954] σ σ'):LT σ' S tb ml ms:=by
  have hn:=h.nx
  have e:∀k,k<σ.next→k ∉ XM ml→k ∉ [0,954]:=fun k J hk q=>hk (by
    unfold XM
    simp only [Tz,Wj,or_false] at q ⊢
    exact zq8 ‹_›)
  refine ⟨Th hn g.le,(g.same _ (by exact pq ‹_› (by decide)) (by simp)).trans h.ht,(g.same _ (by exact pq ‹_› (by decide)) (by simp)).trans h.hd,(g.same _ (by exact Ur ‹_›) (by simp)).trans h.ha,fun hne=>?_,h.hm.gr g e fun J J q=>q⟩
  obtain ⟨a,b,c,d,e1,f⟩:=h.hb hne
  exact ⟨(g.same _ b (e _ b c)).trans a,Tn b g.le,c,(g.same _ e1 (by simp;lia)).trans d,Tn e1 g.le,f⟩
theorem LT.add{σ0:Sto}{N nl:Nat}(h:LT σ0 S tb ml ms) (g0:Gr σ0 σ) (hq:SgOk q.1 q.2) (hS:∀p∈S,SgOk p.1 p.2) (hE:∀p∈S,(al p.1 p.2 q.1 q.2&&al q.1 q.2 p.1 p.2)=false) (hl:ms.length≤8) (hm:ab σ m=some (gj 0 q nl 0)) (hlt:m<σ.next) (hm0:σ0.next≤m) (hnl:ab σ nl=some (.lst [])) (hnlt:nl<σ.next) (hn0:σ0.next≤nl) (hne:nl≠m) (hN:520≤N) :
    ∃σ' tb' ml',(run Pz N).call 634 [.ref 951,.ref m] σ=some (.ref m,σ')∧LT σ' (S++[q]) tb' ml' (ms++[m])∧GrM [951,952,953,ml'] σ0 σ'∧((ms.isEmpty=false∧ml'=ml)∨σ0.next≤ml'):=by
  have hn:=h.nx
  have hnσ:=g0.le
  have q0:=Th hn hnσ
  have q1:=Th hn hm0
  have q2:=Th hn hn0
  have hm1:m≠951:=by exact fi ‹_› (by decide)
  have hm2:m≠953:=by exact fi ‹_› (by decide)
  have ht0:=(g0.same 951 (by exact pq ‹_› (by decide))).trans h.ht
  have hd0:=(g0.same 952 (by exact pq ‹_› (by decide))).trans h.hd
  have ha0:=(g0.same 953 (by exact Ur ‹_›)).trans h.ha
  have g3':GrM [951,953,m] σ (l8 σ m q nl ms ms.length):=((((GrM.put (by simp)).trans (GrM.put (by simp))).trans (GrM.put (by simp))).trans (GrM.put (by simp)))
  have t3:ab (l8 σ m q nl ms ms.length) 951=some (gp ((ms.length:Int)+1+1)):=(be (by decide)).trans ((be hm1).trans ((be hm1).trans (bv ht0)))
  have m3:ab (l8 σ m q nl ms ms.length) m=some (gj ms.length q nl ((ms.length:Int)+1+1)):=(be (Ne.symm hm2)).trans (bv (bv ((be (Ne.symm hm1)).trans hm)))
  have a3:ab (l8 σ m q nl ms ms.length) 953=some (.lst ((ms++[m]).map .ref)):=by
    rw [W3]
    exact bv ((be hm2).trans ((be hm2).trans ((be (by decide)).trans ha0)))
  have d3:ab (l8 σ m q nl ms ms.length) 952=some (if ms.isEmpty then .dct [] [] else .dct [tF] [.ref tb]):=(g3'.same _ (by exact pq ‹_› (by decide)) (by simp;exact Ab ‹_› (by decide))).trans hd0
  have n3:(l8 σ m q nl ms ms.length).next=σ.next:=rfl
  have nl3:ab (l8 σ m q nl ms ms.length) nl=some (.lst []):=(g3'.same _ hnlt (by simp;exact zlg ‹_› ‹_›)).trans hnl
  have hadd:=fun tb' σ' ht' σ2 ml' htb hadd htab=>zec (N:=N) (tb':=tb') (σ':=σ') ht0 ha0 hm hm1 hm2 (by exact Th ‹_› (by decide)) htab ht' (σ2:=σ2) (ml':=ml') htb hadd hN
  have hlen1:((ms++[m]).length:Int)+1=(ms.length:Int)+1+1:=by rw [T1,Ua];exact zqu
  have hemp:(ms++[m]).isEmpty=false:=by cases ms <;> rfl
  have g3:GrM [951,952,953] σ0 (l8 σ m q nl ms ms.length):=⟨Th g0.le g3'.le,fun k hk hx=>(g3'.same k (by exact Tn ‹_› ‹_›) (by simp at hx ⊢;exact zo7 ‹_› ‹_› ‹_›)).trans (g0.same k hk)⟩
  generalize l8 σ m q nl ms ms.length=σ3 at *
  have q3:955≤σ3.next:=n3.symm▸q0
  have q4:nl<σ3.next:=n3.symm▸hnlt
  have q5:m<σ3.next:=n3.symm▸hlt
  have q6:σ0.next≤σ3.next:=n3.symm▸hnσ
  have q7:nl≠σ3.next+1:=rp q4
  have q8:m≠σ3.next+1:=rp q5
  cases hemt:ms.isEmpty with
  | true=>
    obtain rfl:ms=[]:=Wh.mp hemt
    have hS0:S=[]:=by
      have:=h.hm.len
      cases S with
      | nil=>rfl
      | cons=>cases this
    subst hS0
    rw [hemt,if_pos rfl] at d3
    have tT:ab (j7 σ3) 951=some (gp ((([]:List Nat).length:Int)+1+1)):=(be (by decide)).trans ((qs (by lia)).trans t3)
    have tb4:ab (j7 σ3) σ3.next=some (.obj 602 [gh,ql] [.str tF,.ref (σ3.next+1)]):=(be (by lia)).trans zhv
    have ml4:ab (j7 σ3) (σ3.next+1)=some (.lst (([]:List Nat).map .ref)):=(be (by lia)).trans zjf
    have m4:ab (j7 σ3) m=some (gj (([]:List Nat).length:Nat) q nl ((([]:List Nat).length:Int)+1+1)):=(be (by exact Ab ‹_› (by decide))).trans ((qs (by assumption)).trans m3)
    have nl4:ab (j7 σ3) nl=some (.lst []):=(be (by exact Ab ‹_› (by decide))).trans ((qs (by assumption)).trans nl3)
    have a4:ab (j7 σ3) 953=some (.lst (([]++[m]).map .ref)):=(be (by decide)).trans ((qs (by exact Ur ‹_›)).trans a3)
    have d4:ab (j7 σ3) 952=some (.dct [tF] [.ref σ3.next]):=bv ((qs (by lia)).trans d3)
    have nx4:(j7 σ3).next=σ3.next+2:=rfl
    have key:=hadd σ3.next (j7 σ3) tT (ah (j7 σ3) (σ3.next+1) (.lst (([]:List Nat).map .ref++[.ref m]))) _ tb4 (fun N hN=>Jr (ms:=[]) hq m4 tb4 ml4 (fun e he=>nomatch he) (by simp) hN) (fun N hN=>zbh t3 d3 (by assumption) hN)
    refine ⟨_,σ3.next,σ3.next+1,key,?_,?_,.inr (by exact lb ‹_›)⟩
    · refine ⟨by show 955≤σ3.next+2;exact lb ‹_›,(be (by lia)).trans tT,(be (by lia)).trans d4,(be (by lia)).trans a4,fun J=>⟨(be (by lia)).trans tb4,by show σ3.next<σ3.next+2;exact T3 _,by unfold XM;simp;exact zqg ‹_›,bv ml4,by show σ3.next+1<σ3.next+2;exact Tr _,by exact lb ‹_›⟩,?_⟩
      refine .cons ⟨⟨nl,(be (by exact Ax ‹_›)).trans m4,(be (by exact Ax ‹_›)).trans nl4,by show nl<σ3.next+2;exact lb ‹_›,by unfold XM;simp;exact Ar ‹_› ‹_›⟩,by show m<σ3.next+2;exact lb ‹_›,by unfold XM;simp;exact Ar ‹_› ‹_›⟩ .nil
    · refine ⟨by show σ0.next≤σ3.next+2;exact lb ‹_›,fun k hk hx=>?_⟩
      simp at hx
      exact (be (by exact Ro ‹_›)).trans ((be (by exact zop ‹_›)).trans ((qs (by exact Tn ‹_› ‹_›)).trans (g3.same k hk (by simp;exact O3 ‹_›))))
  | false=>
    rw [hemt,if_neg Ts] at d3
    obtain ⟨b1,b2,b3,b4,b5,b6⟩:=h.hb hemt
    have q9:nl≠ml:=(tz b5 hn0).symm
    have r1:m≠ml:=(tz b5 hm0).symm
    have hXm:∀k,k<σ0.next→k ∉ XM ml→k ∉ [951,952,953]:=fun k J hk q=>hk (by
      unfold XM
      simp only [Tz,Wj,or_false] at q ⊢
      exact zn0 ‹_›)
    have tb3:ab σ3 tb=some (.obj 602 [gh,ql] [.str tF,.ref ml]):=(g3.same _ b2 (hXm _ b2 b3)).trans b1
    have ml3:ab σ3 ml=some (.lst (ms.map .ref)):=(g3.same _ b5 (by simp;exact zoj ‹_›)).trans b4
    have hm3:=h.hm.gr (ml':=ml) g3 hXm (fun J J q=>q)
    have key:=hadd tb σ3 t3 (ah σ3 ml (.lst (ms.map .ref++[.ref m]))) _ tb3 (fun N hN=>Jr hq m3 tb3 ml3 (hm3.eld hS hE) (by exact Th ‹_› (by decide)) hN) (fun N hN=>zbp t3 d3 hN)
    have g4:GrM [ml] σ3 (ah σ3 ml (.lst (ms.map .ref++[.ref m]))):=GrM.put (by simp)
    have hXml:∀k,k<σ3.next→k ∉ XM ml→k ∉ [ml]:=fun k J hk q=>hk (by
      unfold XM
      simp only [Tz,Wj,or_false] at q ⊢
      exact zn1 ‹_›)
    have ntb:ml≠tb:=fun e=>by subst e;exact b3 (by unfold XM;simp)
    refine ⟨_,tb,ml,key,?_,?_,.inl ⟨rfl,rfl⟩⟩
    · refine ⟨by show 955≤σ3.next;assumption,(be (by exact fi ‹_› (by decide))).trans (by rw [hlen1];exact t3),(be (by exact fi ‹_› (by decide))).trans (by rw [hemp,if_neg Ts];exact d3),(be (by exact fi ‹_› (by decide))).trans a3,fun J=>⟨(be ntb).trans tb3,by show tb<σ3.next;exact Tn ‹_› ‹_›,b3,by rw [W3];exact bv ml3,by show ml<σ3.next;exact Tn ‹_› ‹_›,b6⟩,?_⟩
      refine (hm3.gr g4 hXml (fun J J q=>q)).snoc ?_
      rw [Wu]
      exact ⟨⟨nl,(be (by exact tz ‹_› ‹_›)).trans m3,(be (by exact tz ‹_› ‹_›)).trans nl3,by show nl<σ3.next;assumption,by unfold XM;simp;exact Ar ‹_› ‹_›⟩,by show m<σ3.next;assumption,by unfold XM;simp;exact Ar ‹_› ‹_›⟩
    · refine ⟨by show σ0.next≤σ3.next;assumption,fun k hk hx=>?_⟩
      simp at hx
      exact (be (by exact Ro ‹_›)).trans (g3.same k hk (by simp;exact O3 ‹_›))
end
end
section
noncomputable def dz(r:Nat) (p:Shp):V:=.tup [.ref r,so p.2]
noncomputable def jb:List Nat→List Shp→List V
  | r::rs,p::S=>dz r p::jb rs S
  | _,_=>[]
def f8 (p:Shp):Prop:=SgOk p.1 p.2∧p.1.length≤2
inductive Rws (σ:Sto):List Nat→List Shp→Prop
  | nil:Rws σ [] []
  | cons {r:Nat}{p:Shp}{rs:List Nat}{S:List Shp}:ab σ r=some (.lst (p.1.map sw))→r<σ.next→955≤r→Rws σ rs S→Rws σ (r::rs) (p::S)
section
variable {r:Nat}{p q:Shp}{rs:List Nat}{S:List Shp}{M:List Nat}
theorem Rws.gr(h:Rws σ rs S) (g:GrM M σ σ') (hM:∀k,k<σ.next→955≤k→(∃p:Shp,ab σ k=some (.lst (p.1.map sw)))→k ∉ M):Rws σ' rs S:=by
  induction h with
  | nil=>exact .nil
  | cons h1 h2 h3 _ ih=>exact .cons ((g.same _ h2 (hM _ h2 h3 ⟨_,h1⟩)).trans h1) (Tn h2 g.le) h3 ih
theorem Rws.snoc(h:Rws σ rs S) (h1:ab σ r=some (.lst (p.1.map sw))) (h2:r<σ.next) (h3:955≤r):Rws σ (rs++[r]) (S++[p]):=by
  induction h with
  | nil=>exact .cons h1 h2 h3 .nil
  | cons a b c _ ih=>exact .cons a b c ih
theorem Rws.len(h:Rws σ rs S):rs.length=S.length:=by
  induction h with
  | nil=>rfl
  | cons _ _ _ _ ih=>rw [Tl,Tl,ih]
theorem K5:∀{rs:List Nat}{S:List Shp},rs.length=S.length→jb (rs++[r]) (S++[p])=jb rs S++[dz r p]
  | [],[],_=>rfl
  | a::rs,b::S,h=>by
    show dz a b::jb (rs++[r]) (S++[p])=_
    rw [K5 (Vm.inj h)];rfl
  | [],_::_,h=>by cases h
  | _::_,[],h=>by cases h
theorem D4:∀{rs:List Nat}{S:List Shp},rs.length=S.length→(jb rs S).length=S.length
  | [],[],_=>rfl
  | a::rs,b::S,h=>by
    show (jb rs S).length+1=_
    rw [D4 (Vm.inj h)];rfl
  | [],_::_,h=>by cases h
  | _::_,[],h=>by cases h
theorem u4(h:ab σ r=some (.lst (p.1.map sw))) (hl:p.1.length≤10) (n:Nat):fz σ (n+30) (dz r p)=some (bq p.1 p.2):=by
  have h1:fz σ (n+28) (.ref r)=some (.lst (p.1.map sw)):=ky h (Ev _ _ _ (by lia))
  have h2:fzs σ (n+28) [so p.2]=some [so p.2]:=by
    cases p.2 <;> rfl
  have h3:fzs σ (n+29) [.ref r,so p.2]=some [.lst (p.1.map sw),so p.2]:=ca h1 h2
  exact aj (x:=fzs σ (n+29) [.ref r,so p.2]) h3 rfl
theorem Rws.mem(h:Rws σ rs S):∀v∈jb rs S,∃r p,v=dz r p∧p∈S∧ab σ r=some (.lst (p.1.map sw))∧r<σ.next:=by
  induction h with
  | nil=>exact fun v h=>nomatch h
  | cons a b c _ ih=>
    intro v hv
    rcases Tz.mp hv with rfl | hv
    · exact ⟨_,_,rfl,Tj ..,a,b⟩
    · obtain ⟨r,p,h1,h2,h3⟩:=ih v hv
      exact ⟨r,p,h1,Ti _ h2,h3⟩
theorem Rws.get(h:Rws σ rs S):∀p∈S,∃r,dz r p∈jb rs S∧ab σ r=some (.lst (p.1.map sw))∧r<σ.next:=by
  induction h with
  | nil=>exact fun v h=>nomatch h
  | cons a b c _ ih=>
    intro p hp
    rcases Tz.mp hp with rfl | hp
    · exact ⟨_,Tj ..,a,b⟩
    · obtain ⟨r,h1,h2⟩:=ih p hp
      exact ⟨r,Ti _ h1,h2⟩
noncomputable def By(o:Option V):Bool:=(ob o v5).getD false
noncomputable def vt(σ:Sto) (q:Shp) (v:V):Bool:=(ob (fz σ 30 v) fun u=>some (By (af Pa 100 971 [u,bq q.1 q.2])&&By (af Pa 100 971 [bq q.1 q.2,u]))).getD false
theorem Oa(h:ab σ r=some (.lst (p.1.map sw))) (hp:f8 p) (hq:f8 q):vt σ q (dz r p)=(al p.1 p.2 q.1 q.2&&al q.1 q.2 p.1 p.2):=by
  unfold vt
  rw [u4 h (by have:=hp.2;exact Th ‹_› (by decide)) 0]
  show (some (By (af Pa 100 971 [bq p.1 p.2,bq q.1 q.2])&&By (af Pa 100 971 [bq q.1 q.2,bq p.1 p.2]))).getD false=_
  rw [zb hp.1.toShOk hq.1.toShOk,zb hq.1.toShOk hp.1.toShOk];rfl
theorem Jy{l:Nat}(h:ab σ r=some (.lst (p.1.map sw))) (h2:ab σ l=some (.lst (q.1.map sw))) (hp:f8 p) (hq:f8 q) (hN:102≤N):(run Pz N).call 971 [dz r p,dz l q] σ=some (.bool (al p.1 p.2 q.1 q.2),σ):=by
  obtain ⟨n,rfl⟩:=Tg hN
  have f1:fz σ 199 (dz r p)=some (bq p.1 p.2):=u4 h (by have:=hp.2;exact Th ‹_› (by decide)) 169
  have f2:fz σ 198 (dz l q)=some (bq q.1 q.2):=u4 h2 (by have:=hq.2;exact Th ‹_› (by decide)) 168
  exact te (fd:=f971) (k:=100) (g:=af Pa 100 971) (args':=[bq p.1 p.2,bq q.1 q.2]) rfl (by kernel_rfl) rfl (ca (n:=199) f1 (ca (n:=198) f2 rfl)) (zb hp.1.toShOk hq.1.toShOk) (.inl rfl) (by lia)
theorem N7{l:Nat}(h2:ab σ l=some (.lst (q.1.map sw))) (hq:f8 q) (hN:127≤N):(run Pz N).call 959 [dz l q] σ=some (sg q.1 q.2,σ):=by
  obtain ⟨n,rfl⟩:=Tg hN
  have f2:fz σ 199 (dz l q)=some (bq q.1 q.2):=u4 h2 (by have:=hq.2;exact Th ‹_› (by decide)) 169
  exact te (fd:=f959) (k:=125) (g:=ip Pf 125 959) (args':=[bq q.1 q.2]) rfl (by kernel_rfl) rfl (ca (n:=199) f2 rfl) (K8 hq.1.toShOk) (.inr (by kernel_rfl)) (by lia)
noncomputable def mdB:List Stmt:=wB (ai f995.body 3)
noncomputable def Gx:Expr:=iy (r5 (ai mdB 1)) 0
noncomputable def Ae:Str:=⟨#[115,104,97,112,101]⟩
theorem zmj{ρ:Loc}{l:Nat}(hR:Rws σ rs S) (hS:∀p∈S,f8 p) (hq:f8 q) (hs:ab σ 954=some (.lst (jb rs S))) (hn:955≤σ.next) (hl:ab σ l=some (.lst (q.1.map sw))) (hlt:l<σ.next) (hlen:S.length≤10) (h1:ae d5 ρ=some (.ref 954)) (hρ:(ρ.filter fun p=>fy p.1 (qg Gx))=[(Ae,dz l q)]) (hN:150≤N):∃σ2,Gr σ σ2∧(run Pz N).ev f995.scope Gx ρ σ=some (.ref σ2.next,push σ2 (.lst ((jb rs S).filter (vt σ q)))):=by
  obtain ⟨n,rfl⟩:=Tg hN
  have hvl:=D4 hR.len
  obtain ⟨σ2,g,e⟩:=i5 (P:=Pz) (n:=n+150) (sc:=f995.scope) (ρ:=ρ) (σ:=σ) (e:=Gx) rfl rfl hρ 120 (vt σ q) id (fun v ρ=>ac nf v ρ) (by rw [hvl];exact n8 ‹_› (by decide)) (items:=jb rs S) (d9 rfl (cp (v:=.ref 954) (σ':=σ) [ag h1] (by kernel_rfl)) (je hs)) (.inr ⟨954,0,_,rfl,by assumption,hs,rfl⟩) (fun v hv n σ ρ'=>cu rfl) (fun v hv n σ' g=>by
      obtain ⟨r,p,rfl,hp,hr,hrl⟩:=hR.mem v hv
      rw [Oa hr (hS p hp) hq]
      have hr':=(g.same _ hrl).trans hr
      have hl':=(g.same _ hlt).trans hl
      have c1:∀N,102≤N→(run Pz N).call 971 [dz r p,dz l q] σ'=_:=fun N h=>Jy hr' hl' (hS p hp) hq h
      have c2:∀N,102≤N→(run Pz N).call 971 [dz l q,dz r p] σ'=_:=fun N h=>Jy hl' hr' hq (hS p hp) h
      cases e1:al p.1 p.2 q.1 q.2 with
      | false=>rw [e1] at c1;exact i8 [df c1] (by kernel_rfl)
      | true=>rw [e1] at c1;exact i8 [df c1,df c2] (by kernel_rfl)) (fun v hv J n σ' g=>i9 [] (by kernel_rfl)) (fun u hu w hw=>gz _ _ _ _) (by rw [hvl];exact Th ‹_› (by decide))
  rw [Vh] at e
  exact ⟨σ2,g,e⟩
theorem zgy(hq:f8 q) (hR:Rws σ rs S) (hS:∀p∈S,f8 p) (h:((jb rs S).filter (vt σ q)).isEmpty=true):∀p∈S,(al p.1 p.2 q.1 q.2&&al q.1 q.2 p.1 p.2)=false:=fun p hp=>by
  obtain ⟨r,h1,h2,_⟩:=hR.get p hp
  have:=U4.mp (Wh.mp h) _ h1
  rw [Oa h2 (hS p hp) hq] at this
  exact Bool.eq_false_iff.mpr this
end
end
end Mine
end
section
open PySem PySem.W
set_option maxHeartbeats 800000
namespace Mine
section
structure Md (σ:Sto) (S:List Shp) (tb ml:Nat) (ms rs:List Nat):Prop where
  lt:LT σ S tb ml ms
  hs:ab σ 954=some (.lst (jb rs S))
  hr:Rws σ rs S
  bx:Bx σ 0
noncomputable def zox:Loc:=[(gc,.ref 0),(cj,KINDS),(gh,.str sZ),(E0,.str sm),(g7,.ref 951),(d5,.ref 954)]
noncomputable def pk(t s:V):Loc:=[(gc,.ref 0),(cj,KINDS),(gh,.str sZ),(E0,.str sm),(g7,.ref 951),(d5,.ref 954),(n7,t),(Ae,s)]
section
variable {S:List Shp}{tb ml:Nat}{ms rs:List Nat}
theorem zmq{m:Option Nat}(h:∀i,m=some i→i<7):bo σ .NotEq (so m) (.str ⟨#[]⟩)=some m.isSome:=by
  have:=Ay (σ:=σ) h
  show on (bo σ .Eq (so m) (.str ⟨#[]⟩))=_
  rw [this];cases m <;> rfl
theorem Bx.grm{M:List Nat}{b:Nat}(h:Bx σ b) (g:GrM M σ σ') (hb:b ∉ M):Bx σ' b:=by
  obtain ⟨⟨x,y,h1,h2,h3⟩,h4⟩:=h
  exact ⟨⟨x,y,h1,h2,(g.same _ h4 hb).trans h3⟩,Tn h4 g.le⟩
theorem Md.gr0(h:Md σ S tb ml ms rs) (g:GrM [0] σ σ') (hb:Bx σ' 0):Md σ' S tb ml ms rs:=
  ⟨h.lt.gr (g.mono fun k hk=>by simp at hk ⊢;lia),(g.same _ (by have:=h.lt.nx;assumption) (by simp)).trans h.hs,h.hr.gr g fun k J hk J=>by simp;exact fi ‹_› (by decide),hb⟩
theorem zko{k:Nat}{p:Shp}(h:ab σ k=some (.lst (p.1.map sw))) (h2:ab σ ml=some (.lst (ms.map .ref))) (hne:ms.isEmpty=false):k≠ml:=fun e=>by
  subst e
  rw [h] at h2
  cases ms with
  | nil=>cases hne
  | cons a l=>cases hp:p.1 with
    | nil=>rw [hp] at h2;cases h2
    | cons b r=>rw [hp] at h2;cases h2
noncomputable def ifB(s:Stmt):List Stmt:=wB s
theorem zi0{l:Nat}{q:Shp}{t:V}(h:Md σ S tb ml ms rs) (hq:f8 q) (hS:∀p∈S,f8 p) (hE:∀p∈S,(al p.1 p.2 q.1 q.2&&al q.1 q.2 p.1 p.2)=false) (hlen:S.length≤6) (hl:ab σ l=some (.lst (q.1.map sw))) (hlt:l<σ.next) (hl9:955≤l) (hN:560≤N) :
    ∃σ' tb' ml' ms',(run Pz N).exs f995.scope (ifB (ai mdB 1)) (pk t (dz l q)) σ=some (.next,pk t (dz l q),σ')∧Md σ' (S++[q]) tb' ml' ms' (rs++[l]):=by
  obtain ⟨n,rfl⟩:=Tg hN
  have hn:=h.lt.nx
  have hvl:=D4 h.hr.len
  have hml:=h.lt.hm.len
  generalize hσ4:ah σ 954 (.lst (jb rs S++[dz l q]))=σ4
  have n4:σ4.next=σ.next:=by rw [← hσ4];rfl
  have q1:955≤σ4.next:=n4.symm▸hn
  have q2:l<σ4.next:=n4.symm▸hlt
  have ea:jg σ (.ref 954) ⟨#[97,112,112,101,110,100]⟩ [dz l q]=some (.none,σ4):=by rw [← hσ4];exact ur h.hs (ir (by rw [hvl];exact Th ‹_› (by decide)))
  have g4:GrM [954] σ σ4:=by rw [← hσ4];exact GrM.put (by simp)
  have LT4:LT σ4 S tb ml ms:=h.lt.gr (g4.mono fun k hk=>by simp at hk ⊢;lia)
  have s4:ab σ4 954=some (.lst (jb rs S++[dz l q])):=by rw [← hσ4];exact bv h.hs
  have l4:ab σ4 l=some (.lst (q.1.map sw)):=(g4.same _ hlt (by simp;exact U7 ‹_›)).trans hl
  have R4:Rws σ4 rs S:=h.hr.gr g4 fun k J hk J=>by simp;exact U7 ‹_›
  have g6:Gr σ4 (pj (push (push σ4 (.lst [])) (.obj 917 [] [])) (σ4.next+1) q σ4.next):=⟨by show σ4.next≤σ4.next+1+1;lia,fun k hk=>(K4 (by exact rp ‹_›)).trans ((cg (by show k<σ4.next+1;exact lb ‹_›)).trans (cg hk))⟩
  have o6:ab (push (push σ4 (.lst [])) (.obj 917 [] [])) (σ4.next+1)=some (.obj 917 [] []):=bg
  have m6:ab (pj (push (push σ4 (.lst [])) (.obj 917 [] [])) (σ4.next+1) q σ4.next) (σ4.next+1)=some (gj 0 q σ4.next 0):=zgw o6
  have nl6:ab (pj (push (push σ4 (.lst [])) (.obj 917 [] [])) (σ4.next+1) q σ4.next) σ4.next=some (.lst []):=(K4 (by lia)).trans ((cg (Tr _)).trans bg)
  have n6:(pj (push (push σ4 (.lst [])) (.obj 917 [] [])) (σ4.next+1) q σ4.next).next=σ4.next+1+1:=rfl
  have en:∀N,60≤N→(run Pz N).call 893 [.ref (σ4.next+1),.int 0,.str tF,sg q.1 q.2,.ref σ4.next,.bool q.2.isSome,.none,.none] (push (push σ4 (.lst [])) (.obj 917 [] []))=some (.none,pj (push (push σ4 (.lst [])) (.obj 917 [] [])) (σ4.next+1) q σ4.next):=fun N h=>zcy o6 h
  have t1:∀σ,di σ (dz l q) (.int 1)=some (so q.2):=fun J=>rfl
  generalize pj (push (push σ4 (.lst [])) (.obj 917 [] [])) (σ4.next+1) q σ4.next=σ6 at *
  have q3:σ4.next+1<σ6.next:=n6.symm▸Tr _
  have q4:σ4.next<σ6.next:=Xh q3
  obtain ⟨σ7,tb',ml',e7,LT7,G7,hml7⟩:=LT4.add (q:=q) (N:=n+556) (m:=σ4.next+1) (nl:=σ4.next) g6 hq.1 (fun p hp=>(hS p hp).1) hE (by exact pu ‹_› ‹_› (by decide)) m6 (by assumption) (by exact T3 _) nl6 (by assumption) (To _) (by lia) (by lia)
  have hsnoc:=K5 (r:=l) (p:=q) h.hr.len
  have hml':ml'=ml∧955≤ml∧ms.isEmpty=false∨σ4.next≤ml':=by
    rcases hml7 with ⟨a,b⟩ | a
    · exact .inl ⟨b,(LT4.hb a).2.2.2.2.2,a⟩
    · exact .inr a
  have q5:955≤ml':=hml'.elim (fun a=>a.1▸a.2.1) (Th q1)
  refine ⟨σ7,tb',ml',_,iw [tc (ln h.hs),ta (lj h.hs),sy ea,ie (dx LT4.ht),df fun N hN=>N7 (σ:=σ4) (N:=N) l4 hq hN,ey t1,aq fun σ=>zmq (σ:=σ) hq.1.more,df en,iu e7] (by kernel_rfl),LT7,?_,?_,?_⟩
  · rw [hsnoc]
    exact (G7.same _ (by assumption) (by simp;exact Uz ‹_›)).trans s4
  · refine (R4.snoc l4 (by assumption) hl9).gr G7 fun k hk hk9 ⟨p,hp⟩ q=>?_
    simp only [Tz,Wj,or_false] at q
    rcases hml' with ⟨a,_,c⟩ | a
    · subst a
      exact zko hp (LT4.hb c).2.2.2.1 c (Oy q hk9)
    · exact tz hk a (Oy q hk9)
  · exact (h.bx.grm g4 (by simp)).grm G7 (by simp;exact Ab ‹_› (by decide))
end
end
section
section
variable {S:List Shp}{tb ml:Nat}{ms rs:List Nat}
theorem Md.push{o:MObj}(h:Md σ S tb ml ms rs):Md (push σ o) S tb ml ms rs:=h.gr0 (GrM.of (Gr.push _ _)) (h.bx.gr (Gr.push _ _))
theorem Md.gr(h:Md σ S tb ml ms rs) (g:Gr σ σ'):Md σ' S tb ml ms rs:=h.gr0 (GrM.of g) (h.bx.gr g)
theorem zd7 {t:V}(h:Md σ S tb ml ms rs) (hS:∀p∈S,f8 p) (hlen:S.length≤6) (hρ:∀x,ac Ae x ρ=pk t x) (hbx:ae gc ρ=some (.ref 0)) (hN:580≤N) :
    ∃s σ' S' tb' ml' ms' rs',(run Pz N).exs f995.scope mdB ρ σ=some (.next,pk t s,σ')∧Md σ' S' tb' ml' ms' rs'∧(∀p∈S',f8 p)∧S'.length≤S.length+1∧0<S'.length:=by
  obtain ⟨n,rfl⟩:=Tg hN
  obtain ⟨r,m,σ1,l,hr2,hr7,hm7,e1,hl,hl1,hl2,hb1,g1⟩:=Iy (N:=n+577) h.bx (by lia)
  have hq:f8 (r,m):=⟨⟨⟨by show r.length≤3;exact Th ‹_› (by decide),hr7,hm7⟩,.inl hr2⟩,hr2⟩
  have M1:=h.gr0 g1 hb1
  have hl9:955≤l:=Th h.lt.nx hl1
  obtain ⟨σ2,g2,e2⟩:=zmj (q:=(r,m)) (ρ:=pk t (dz l (r,m))) (N:=n+575) M1.hr hS hq M1.hs M1.lt.nx hl hl2 (by exact Th ‹_› (by decide)) rfl (by kernel_rfl) (by lia)
  generalize hF:(jb rs S).filter (vt σ1 (r,m))=F at e2
  have hcmp:=eq_nil (σ:=push (push σ2 (.lst F)) (.lst [])) (a:=σ2.next) (b:=σ2.next+1) ((cg (Tr _)).trans bg) bg
  have g3:Gr σ1 (push (push σ2 (.lst F)) (.lst [])):=(g2.trans (Gr.push _ _)).trans (Gr.push _ _)
  have M3:=M1.gr g3
  have hl3:=(g3.same _ hl2).trans hl
  have hlt3:=Tn hl2 g3.le
  have e1':(run Pz (n+579)).ex f995.scope (ai mdB 0) ρ σ=some (.next,pk t (dz l (r,m)),σ1):=by rw [← hρ];exact tpX [ag hbx,iu e1] (by kernel_rfl)
  cases he:F.isEmpty with
  | true=>
    rw [he] at hcmp
    have ht:(run Pz (n+577)).tr f995.scope (r5 (ai mdB 1)) (pk t (dz l (r,m))) σ1=some (true,push (push σ2 (.lst F)) (.lst [])):=jz [cw e2,fw hcmp] (by kernel_rfl)
    have hE:=zgy hq M1.hr hS (by rw [hF];exact he)
    obtain ⟨σ',tb',ml',ms',e4,M4⟩:=zi0 (N:=n+577) (t:=t) M3 hq hS hE hlen hl3 hlt3 hl9 (by lia)
    refine ⟨_,σ',S++[(r,m)],tb',ml',ms',rs++[l],ci rfl e1' (ch (ci rfl (m8 ht (nr rfl e4)) (ch (g8 rfl)))),M4,fun p hp=>?_,by rw [T1,Ua];exact Tr _,by rw [T1,Ua];lia⟩
    rcases List.mem_append.mp hp with hp | hp
    · exact hS p hp
    · rcases Tz.mp hp with rfl | hp
      · exact hq
      · cases hp
  | false=>
    rw [he] at hcmp
    have h0:0<S.length:=by
      cases S with
      | nil=>
        have:=M1.hr.len
        cases rs with
        | nil=>rw [← hF] at he;cases he
        | cons=>cases this
      | cons=>exact U0 _
    exact ⟨dz l (r,m),push (push σ2 (.lst F)) (.lst []),S,tb,ml,ms,rs,ci rfl e1' (ch (iw (ss:=mdB.drop 1) [cw e2,fw hcmp] (by kernel_rfl))),M3,hS,by exact T3 _,h0⟩
theorem Jq:∀(k lo:Nat) {σ:Sto}{S:List Shp}{tb ml:Nat}{ms rs:List Nat}{ρ:Loc}{N:Nat},Md σ S tb ml ms rs→(∀p∈S,f8 p)→S.length+k≤6→(∀v x,ac Ae x (ac n7 v ρ)=pk v x)→(∀v,ae gc (ac n7 v ρ)=some (.ref 0))→(ae g7 ρ=some (.ref 951)∧ae d5 ρ=some (.ref 954))→582+k≤N→
    ∃ρ' σ' S' tb' ml' ms' rs',(run Pz N).fo f995.scope (fT (ai f995.body 3)) (.items (fj lo k)) mdB ρ σ=some (.next,ρ',σ')∧Md σ' S' tb' ml' ms' rs'∧(∀p∈S',f8 p)∧S'.length≤S.length+k∧(0<k∨0<S.length→0<S'.length)∧ae g7 ρ'=some (.ref 951)∧ae d5 ρ'=some (.ref 954)
  | 0,lo,σ,S,tb,ml,ms,rs,ρ,N,h,hS,hl,h1,h2,h3,hN=>by
    obtain ⟨n,rfl⟩:∃n,N=n+1:=⟨N-1,by exact im ‹_› (by decide)⟩
    exact ⟨_,_,S,tb,ml,ms,rs,lq rfl,h,hS,by lia,fun h=>h.elim (fun h=>absurd h (Vk _)) id,h3.1,h3.2⟩
  | k + 1,lo,σ,S,tb,ml,ms,rs,ρ,N,h,hS,hl,h1,h2,h3,hN=>by
    obtain ⟨n,rfl⟩:∃n,N=n+2:=⟨N-2,by exact im ‹_› (by decide)⟩
    obtain ⟨s,σ1,S1,tb1,ml1,ms1,rs1,e1,q1,q2,q3,q4⟩:=zd7 (N:=n+1) (ρ:=ac n7 (.int lo) ρ) (t:=.int lo) h hS (by exact md ‹_›) (h1 _) (h2 _) (by exact p8 ‹_› (by decide))
    obtain ⟨ρ2,σ2,S2,tb2,ml2,ms2,rs2,e2,p1,p2,p3,p4,p5,p6⟩:=Jq k (lo+1) (ρ:=pk (.int lo) s) (N:=n+1) q1 q2 (by exact zr6 ‹_› ‹_›) (fun v x=>rfl) (fun v=>rfl) ⟨rfl,rfl⟩ (by exact jk ‹_›)
    refine ⟨ρ2,σ2,S2,tb2,ml2,ms2,rs2,?_,p1,p2,by exact zsz ‹_› ‹_›,fun J=>?_,p5,p6⟩
    · rw [wb]
      exact ku rfl (cu rfl) e1 e2
    · exact p4 (.inr q4)
end
end
noncomputable def sT0(x y:Int):Sto:=push (Fu (push (sK x y) (.obj 680 [] [])) 951) (.lst [])
theorem md0(x y:Int) (hx:0≤x) (hy:0≤y):Md (sT0 x y) [] 0 0 [] []:=by
  refine ⟨⟨by show 955≤955;decide,rfl,rfl,rfl,(fun h=>by cases h),.nil⟩,rfl,.nil,⟨⟨x,y,hx,hy,rfl⟩,by show 0<955;decide⟩⟩
theorem zdw(x y:Int) (hx:0≤x) (hy:0≤y):∃σ' S tb ml ms rs,(run Pz 684).call 995 [.ref 0] ⟨1,[(0,.lst [.int x,.int y])]⟩=some (.tup [.ref 951,.ref 954],σ')∧Md σ' S tb ml ms rs∧(∀p∈S,f8 p)∧S.length≤4∧0<S.length:=by
  obtain ⟨ρ1,σ1,ρ2,σ2,e1,e2,hth⟩:=zg4 x y
  have M0:=md0 x y hx hy
  obtain ⟨k,σ3,hk,e3,b3,g3,n3⟩:=Ck (M:=4) M0.bx (by decide) (by decide)
  have M3:=M0.gr0 g3 b3
  have hadd:ff σ3 .Add (.int 1) (.int k)=some (.int ((1+k:Nat):Int),σ3):=by
    show some (V.int (1+(k:Int)),σ3)=_
    rw [Int.natCast_add];rfl
  have hit:f9 σ3 (.rng 0 ((1+k:Nat):Int))=some (.items (fj 0 (1+k))):=mo (by exact Fc hk (by decide))
  obtain ⟨ρ4,σ4,S,tb,ml,ms,rs,e4,M4,hS,hl,h0,q1,q2⟩:=Jq (1+k) 0 (ρ:=zox) (N:=678) M3 (fun p hp=>nomatch hp) (by simp;exact Fc hk (by decide)) (fun v x=>rfl) (fun v=>rfl) ⟨rfl,rfl⟩ (by exact zq7 hk (by decide))
  have ti:∀N,60≤N→(run Pz N).call 620 [.ref 951,KINDS] (push (sK x y) (.obj 680 [] []))=some (.none,Fu (push (sK x y) (.obj 680 [] [])) 951):=fun N h=>zct rfl (show 951<952 by decide) h
  have er:(run Pz 681).exs f995.scope (f995.body.drop 2) ρ2 σ2=some (.ret (.tup [.ref 951,.ref 954]),ρ4,σ4):=iw [vy hth,df ti,df e3,mf hadd,yy hit,oz e4,ag q1,ag q2] (by kernel_rfl)
  exact ⟨σ4,S,tb,ml,ms,rs,j2 (fd:=f995) rfl (ay (by kernel_rfl)) rfl (ci rfl e1 (ch (ci rfl e2 (ch er)))) rfl,M4,hS,by simp at hl;exact Th hl (Xu k 1▸hk),h0 (.inl (by lia))⟩
section
noncomputable def f0:Nat→Bool:=fun n=>T8 n 0
theorem mn{σ:Sto}{k:Nat}(h:k≠0):ab (fe σ f0) k=ab σ k:=by
  show fk (σ.os.filter fun p=>!f0 p.1) k=_
  rw [v8 (fun m=>!f0 m)]
  have:f0 k=false:=by
    unfold f0
    cases hb:T8 k 0 with
    | false=>rfl
    | true=>exact absurd (Tu hb) h
  rw [this];rfl
theorem keep_get{σ:Sto}:ab (oa σ f0) 0=ab σ 0:=by
  show fk (σ.os.filter fun p=>f0 p.1) 0=_
  rw [v8 f0];rfl
section
variable {S:List Shp}{tb ml i m:Nat}{ms rs:List Nat}{p:Shp}
theorem zh7(h:MOk σ ml i m p) (hp:SgOk p.1 p.2) (n:Nat):fz (fe σ f0) (n+60) (.ref m)=some (ed i p):=by
  obtain ⟨nl,h1,h2,h3,h4⟩:=h.at'
  have hm0:m≠0:=fun e=>h.nx (by rw [e];unfold XM;simp)
  have hn0:nl≠0:=fun e=>h4 (by rw [e];unfold XM;simp)
  have e1:fz (fe σ f0) (n+55) (.ref nl)=some (.lst []):=ky ((mn hn0).trans h2) rfl
  have e2:fz (fe σ f0) (n+56) (sg p.1 p.2)=some (sg p.1 p.2):=(db hp.toShOk).fz _ (by lia)
  have e3:((i:Int)+1+1)=(i:Int)+2:=by lia
  rw [e3] at h1
  exact u2 ((mn hm0).trans h1) (ca (n:=n+58) rfl (ca (n:=n+57) rfl (ca (n:=n+56) e2 (ca (n:=n+55) e1 rfl))))
theorem zei(h:Mths σ ml i ms S) (hS:∀p∈S,SgOk p.1 p.2) (n:Nat):fzs (fe σ f0) (n+61+ms.length) (ms.map .ref)=some (meths i S):=by
  induction h with
  | nil=>rfl
  | @cons i m p ms S h1 _ ih=>
    have e1:=zh7 h1 (hS p (Tj ..)) (n+1+ms.length)
    rw [show n+1+ms.length+60=n+61+ms.length by lia] at e1
    exact ca e1 (ih fun q hq=>hS q (Ti _ hq))
theorem zjm(h:Rws σ rs S) (hS:∀p∈S,f8 p) (n:Nat):fzs (fe σ f0) (n+61+S.length) (jb rs S)=some (S.map bz):=by
  induction h with
  | nil=>rfl
  | @cons r p rs S h1 _ h3 _ ih=>
    have e1:=u4 ((mn (σ:=σ) (show r≠0 by lia)).trans h1) (by have:=(hS p (Tj ..)).2;lia) (n+31+S.length)
    rw [show n+31+S.length+30=n+61+S.length by lia] at e1
    exact ca e1 (ih fun q hq=>hS q (Ti _ hq))
theorem zef(h:Md σ S tb ml ms rs) (hS:∀p∈S,f8 p) (hl:S.length≤4) (h0:0<S.length):fz (fe σ f0) gt (.ref 951)=some (bk S):=by
  have hlen:=h.lt.hm.len
  have hne:ms.isEmpty=false:=by
    cases ms with
    | nil=>rw [← hlen] at h0;exact absurd h0 (Vk _)
    | cons=>rfl
  obtain ⟨b1,b2,b3,b4,b5,b6⟩:=h.lt.hb hne
  have htb0:tb≠0:=fun e=>b3 (by rw [e];unfold XM;simp)
  have hd:=h.lt.hd
  rw [hne,if_neg Ts] at hd
  have hS':∀p∈S,SgOk p.1 p.2:=fun p hp=>(hS p hp).1
  have mm:∀n,70≤n→fzs (fe σ f0) n (ms.map .ref)=some (meths 0 S):=fun n hn=>by
    have:=zei h.lt.hm hS' (n-61-ms.length)
    rwa [show n-61-ms.length+61+ms.length=n by exact zqh ‹_› ‹_› ‹_›] at this
  have e1:fz (fe σ f0) 194 (.ref tb)=some (xu S):=u2 ((mn htb0).trans b1) (ca (n:=192) rfl (ca (n:=191) (ky ((mn (by (first | assumption | decide | lia))).trans b4) (mm 190 (by (first | assumption | decide | lia)))) rfl))
  have e2:fz (fe σ f0) 197 (.ref 952)=some (.dct [tF] [xu S]):=xa ((mn (by decide)).trans hd) (ca (n:=195) (by
    exact u2 ((mn htb0).trans b1) (ca (n:=193) rfl (ca (n:=192) (ky ((mn (by (first | assumption | decide | lia))).trans b4) (mm 191 (by (first | assumption | decide | lia)))) rfl))) rfl)
  have e3:fz (fe σ f0) 196 (.ref 953)=some (.lst (meths 0 S)):=ky ((mn (by decide)).trans h.lt.ha) (mm 195 (by (first | assumption | decide | lia)))
  have ht:=h.lt.ht
  rw [hlen] at ht
  exact u2 (n:=199) ((mn (by decide)).trans ht) (ca (n:=198) rfl (ca (n:=197) e2 (ca (n:=196) e3 rfl)))
theorem zd8(h:Md σ S tb ml ms rs) (hS:∀p∈S,f8 p) (hl:S.length≤4):fz (fe σ f0) gt (.ref 954)=some (.lst (S.map bz)):=by
  have:=zjm h.hr hS (138-S.length)
  rw [show 138-S.length+61+S.length=199 by exact znn ‹_›] at this
  exact ky (n:=199) ((mn (by decide)).trans h.hs) this
end
end
section
noncomputable def js(sc T Sv:V):Loc:=[(wm,sc),(gc,.ref 0),(g7,T),(d5,Sv)]
noncomputable def vd(sc T Sv t r:V):Loc:=[(wm,sc),(gc,.ref 0),(g7,T),(d5,Sv),(n7,t),(j9,r)]
section
variable {S:List Shp}{sc:V}
theorem zq6(sc T Sv v:V):((ac n7 v (js sc T Sv)).filter fun p=>fy p.1 (qg (rE (ai sv 0))))=[(gc,.ref 0)]:=by kernel_rfl
theorem zqw(sc T Sv t r v:V):((ac n7 v (vd sc T Sv t r)).filter fun p=>fy p.1 (qg (rE (ai sv 0))))=[(gc,.ref 0)]:=by kernel_rfl
theorem Db(hS:∀p∈S,SgOk p.1 p.2) (hl:S.length≤4):∀(k lo:Nat) {σ:Sto}{ρ:Loc}{N:Nat},Bx σ 0→(ρ=js sc (bk S) (.lst (S.map bz))∨∃t r,ρ=vd sc (bk S) (.lst (S.map bz)) t r)→562+k≤N→
    ∃ρ' σ',(run Pz N).fo f1010.scope (fT (ai f1010.body 2)) (.items (fj lo k)) sv ρ σ=some (.next,ρ',σ')∧Bx σ' 0∧(ρ'=js sc (bk S) (.lst (S.map bz))∨∃t r,ρ'=vd sc (bk S) (.lst (S.map bz)) t r)
  | 0,lo,σ,ρ,N,hb,hρ,hN=>by
    obtain ⟨n,rfl⟩:∃n,N=n+1:=⟨N-1,by exact im ‹_› (by decide)⟩
    exact ⟨_,_,lq rfl,hb,hρ⟩
  | k + 1,lo,σ,ρ,N,hb,hρ,hN=>by
    obtain ⟨n,rfl⟩:∃n,N=n+2:=⟨N-2,by exact im ‹_› (by decide)⟩
    rw [wb]
    rcases hρ with rfl | ⟨t,r,rfl⟩
    · obtain ⟨l,σ1,e1,b1⟩:=Kc (N:=n+1) (ρ:=ac n7 (.int lo) (js sc (bk S) (.lst (S.map bz)))) hS hl hb rfl rfl rfl (zq6 _ _ _ _) (by exact p8 ‹_› (by decide))
      obtain ⟨ρ2,σ2,e2,b2,q2⟩:=Db hS hl k (lo+1) (ρ:=vd sc (bk S) (.lst (S.map bz)) (.int lo) (.ref l)) (N:=n+1) b1 (.inr ⟨_,_,rfl⟩) (by exact jk ‹_›)
      exact ⟨ρ2,σ2,ku rfl (cu rfl) e1 e2,b2,q2⟩
    · obtain ⟨l,σ1,e1,b1⟩:=Kc (N:=n+1) (ρ:=ac n7 (.int lo) (vd sc (bk S) (.lst (S.map bz)) t r)) hS hl hb rfl rfl rfl (zqw _ _ _ _ _ _) (by exact p8 ‹_› (by decide))
      obtain ⟨ρ2,σ2,e2,b2,q2⟩:=Db hS hl k (lo+1) (ρ:=vd sc (bk S) (.lst (S.map bz)) (.int lo) (.ref l)) (N:=n+1) b1 (.inr ⟨_,_,rfl⟩) (by exact jk ‹_›)
      exact ⟨ρ2,σ2,ku rfl (cu rfl) e1 e2,b2,q2⟩
theorem zf9{tb ml:Nat}{ms rs:List Nat}(h:Md σ S tb ml ms rs) (hS:∀p∈S,f8 p) (hl:S.length≤4) (h0:0<S.length):ic Pz (f1010.body.drop 2) (js sc (.ref 951) (.ref 954)) σ=(js sc (bk S) (.lst (S.map bz)),oa σ f0):=by
  have e1:=zef h hS hl h0
  have e2:=zd8 h hS hl
  have hf:Pz.frz (f1010.body.drop 2)=some ([g7,d5],gc):=by kernel_rfl
  have hb:Aw gc (js sc (.ref 951) (.ref 954))=some f0:=rfl
  have hz:wy (fe σ f0) (js sc (.ref 951) (.ref 954)) [g7,d5] (js sc (.ref 951) (.ref 954))=some (js sc (bk S) (.lst (S.map bz))):=by
    have l1:ae g7 (js sc (.ref 951) (.ref 954))=some (.ref 951):=rfl
    have l2:ae d5 (js sc (.ref 951) (.ref 954))=some (.ref 954):=rfl
    exact aj l1 (aj e1 (aj l2 (aj e2 rfl)))
  unfold ic
  rw [show yb Pz (f1010.body.drop 2) (js sc (.ref 951) (.ref 954)) σ=some (js sc (bk S) (.lst (S.map bz)),oa σ f0) from bp hf (aj hb (aj hz rfl))];rfl
theorem zgn(hN:522≤N):(run Pz N).call 653 [bk S,.str vz,sg [] none,.int ((S.length:Int)+1)] σ=some (.tup [.str ⟨#[110,111,110,101]⟩],σ):=by
  obtain ⟨n,rfl⟩:=Tg hN
  exact ii (fd:=f653) (c:=520) (g:=af Pu 520 653) rfl (by kernel_rfl) (by kernel_rfl) zdd (by (first | assumption | decide | lia))
end
end
theorem zgz(σ:Sto):bo σ .NotEq (.tup [.str ⟨#[110,111,110,101]⟩]) (.tup [.str ⟨#[110,111,110,101]⟩])=some false:=by kernel_rfl
noncomputable def fI(s:Stmt):Expr:=@U1 (fun J=>Expr) s (fun J J J J J J J J J J=>default) (fun J J J J J J J J J J=>default) (fun J J J J J J J J J J J=>default) (fun J J=>default) (fun J J=>default) (fun J J J=>default) (fun J J J J J J J=>default) (fun J J J J=>default) (fun J J J J J=>default) (fun J i J J J=>i) (fun J J J J J=>default) (fun J J J J=>default) (fun J J J J=>default) (fun J J J=>default) (fun J J J=>default) (fun J J J=>default) (fun J J J=>default) (fun J J J J J=>default) (fun J J J J J=>default) (fun J J J=>default) (fun J J=>default) (fun J J J J=>default) (fun J J=>default) (fun J J=>default) (fun J J=>default) (fun J=>default) (fun J=>default) (fun J=>default)
theorem law_true(l:List Int) (hl:l.length≤63):∃σ',(run Pz 689).call 1010 [.lst (l.map .int)] ⟨0,[]⟩=some (.bool true,σ'):=by
  obtain ⟨x,y,hx,hy,e0⟩:=zfw (σ:=⟨0,[]⟩) (N:=685) l hl (by decide)
  obtain ⟨σ1,S,tb,ml,ms,rs,e1,M1,hS,hS4,hS0⟩:=zdw x y hx hy
  have hSg:∀p∈S,SgOk p.1 p.2:=fun p hp=>(hS p hp).1
  have hS2:∀p∈S,SgOk p.1 p.2∧p.1.length≤2:=fun p hp=>hS p hp
  have hth:=zf9 (sc:=.lst (l.map .int)) M1 hS hS4 hS0
  have b2:Bx (oa σ1 f0) 0:=by
    obtain ⟨⟨x,y,h1,h2,h3⟩,h4⟩:=M1.bx
    exact ⟨⟨x,y,h1,h2,keep_get.trans h3⟩,h4⟩
  generalize oa σ1 f0=σ2 at hth b2
  obtain ⟨⟨x',y',_,_,hs2⟩,_⟩:=id b2
  obtain ⟨i0,_⟩:=Fx hs2
  have hlen:∀σ,blt σ (.builtin "len") [.lst (l.map V.int)]=some (.int l.length,σ):=fun σ=>by rw [qw (by rw [Tm];(first | assumption | decide | lia)),Tm]
  have hgt:∀{d:Bool},decide (x' > 0)=d→∀σ,bo σ .Gt (.int x') (.int 0)=some d:=fun h σ=>congrArg some h
  have hgt2:∀{d:Bool},decide ((l.length:Int) > 1)=d→∀σ,bo σ .Gt (.int l.length) (.int 1)=some d:=fun h σ=>congrArg some h
  have hrange:∃k:Nat,k≤3∧(run Pz 682).ev f1010.scope (iy (fI (ai f1010.body 2)) 1) (js (.lst (l.map .int)) (bk S) (.lst (S.map bz))) σ2=some (.int k,σ2):=by
    cases h1:decide (x' > 0) with
    | true=>exact ⟨3,To _,cp [f7 i0,aq (hgt h1)] (by kernel_rfl)⟩
    | false=>cases h2:decide ((l.length:Int) > 1) with
      | true=>exact ⟨3,To _,cp [f7 i0,aq (hgt h1),bh hlen,aq (hgt2 h2)] (by kernel_rfl)⟩
      | false=>exact ⟨2,by decide,cp [f7 i0,aq (hgt h1),bh hlen,aq (hgt2 h2)] (by kernel_rfl)⟩
  obtain ⟨k,hk,ei⟩:=hrange
  have hit:∀σ,f9 σ (.rng 0 k)=some (.items (fj 0 k)):=fun σ=>mo (by (first | assumption | decide | lia))
  obtain ⟨ρ3,σ3,e3,b3,hρ⟩:=Db (sc:=.lst (l.map .int)) hSg hS4 k 0 (N:=684) b2 (.inl rfl) (by (first | assumption | decide | lia))
  have q1:ae g7 ρ3=some (bk S):=by rcases hρ with rfl | ⟨_,_,rfl⟩ <;> rfl
  have q2:ae d5 ρ3=some (.lst (S.map bz)):=by rcases hρ with rfl | ⟨_,_,rfl⟩ <;> rfl
  have q3:ae gc ρ3=some (.ref 0):=by rcases hρ with rfl | ⟨_,_,rfl⟩ <;> rfl
  have hq0:f8 (([],none):Shp):=⟨⟨⟨by simp,(fun i h=>nomatch h),fun i h=>by cases h⟩,.inl (by simp)⟩,by simp⟩
  have eg:∀N,127≤N→(run Pz N).call 959 [dz σ3.next ([],none)] (push σ3 (.lst []))=some (sg [] none,push σ3 (.lst [])):=fun N hN=>N7 (q:=([],none)) bg hq0 hN
  have b4:Bx (push σ3 (.lst [])) 0:=b3.gr (Gr.push _ _)
  obtain ⟨r,m,σ5,lr,w1,w2,w3,e5,w4,_,w5,_,_⟩:=Iy (σ:=push σ3 (.lst [])) (N:=677) b4 (by decide)
  have hq:f8 ((r,m):Shp):=⟨⟨⟨by show r.length≤3;(first | assumption | decide | lia),w2,w3⟩,.inl w1⟩,w1⟩
  have ea:∀N,672≤N→(run Pz N).call 1005 [bk S,.lst (S.map bz),dz lr (r,m)] σ5=some (.bool true,σ5):=fun N hN=>by
    obtain ⟨j,rfl⟩:=Tg hN
    exact te (fd:=f1005) (k:=670) (g:=af Px 670 1005) (args':=[bk S,.lst (S.map bz),bq r m]) rfl (by kernel_rfl) rfl (ca (n:=199) rfl (ca (n:=198) rfl (ca (n:=197) (u4 (p:=(r,m)) w4 (by show r.length≤10;(first | assumption | decide | lia)) 167) rfl))) (zi9 hq.1 w1 hS2 hS4) (.inl rfl) (by (first | assumption | decide | lia))
  have eg2:=fun N σ h=>zgn (S:=S) (N:=N) (σ:=σ) h
  exact eh (ay (by kernel_rfl)) [iu e0,iu e1,vy hth,cw ei,v3 hit,oz e3,ag q1,df eg,ag q1,ap eg2,aq zgz,ag q1,ag q2,ag q3,iu e5,df ea] (by kernel_rfl)
theorem wld_pz(prog:Program) (w:World) (hb:Heap) (K:Frag) (Z:Wld prog w PB hb K):∃K',Wld prog w Pz hb K':=by
  have Za:Wld prog w Pa hb K:=Z.put (fun J J e=>e) rfl
  have Zb:Wld prog w Pb hb K:=Za.put (fun J J e=>e) rfl
  have Zd:Wld prog w Pd hb K:=Zb.put (fun J J e=>e) rfl
  have Ze:Wld prog w Pe hb K:=Zd.put (fun J J e=>e) rfl
  have Zf:Wld prog w Pf hb K:=Ze.put (fun J J e=>e) rfl
  have Zg:Wld prog w Pg hb K:=Zf.putF D5
  have Zh:Wld prog w Ph hb K:=Zg.put (fun J J e=>e) (by kernel_rfl)
  have Zi:Wld prog w Pi hb K:=Zh.put (fun J J e=>e) (by kernel_rfl)
  have Zj:Wld prog w Pj hb K:=Zi.put (fun J J e=>e) (by kernel_rfl)
  have Zk:Wld prog w Pk hb K:=Zj.putF Cm
  have Zm:Wld prog w Pm hb K:=Zk.put zpl (by kernel_rfl)
  have Zn:Wld prog w Pn hb K:=Zm.put (fun J J e=>e) (by kernel_rfl)
  have Zo:Wld prog w Po hb K:=Zn.put (fun J J e=>e) (by kernel_rfl)
  have Zq:Wld prog w Pq hb K:=Zo.put (fun J J e=>e) (by kernel_rfl)
  have Zr:Wld prog w Pr hb K:=Zq.put (fun J J e=>e) (by kernel_rfl)
  have Zs1:Wld prog w (Pr.put 72 200 (af Pr 200 72)) hb K:=Zr.from Zr (fun J J e=>e) (by kernel_rfl)
  have Zs2:Wld prog w ((Pr.put 72 200 (af Pr 200 72)).put 409 200 (af Pr 200 409)) hb K:=Zs1.from Zr (fun J J e=>e) (by kernel_rfl)
  have Zs:Wld prog w Ps hb K:=Zs2.from Zr zgk (by kernel_rfl)
  have Zt:Wld prog w Pt hb K:=Zs.hook hkI
  have Zu:Wld prog w Pu hb K:=Zr.from Zt (fun J J e=>e) (by kernel_rfl)
  have Zv1:Wld prog w (Pu.put 653 520 (af Pu 520 653)) hb K:=Zu.from Zu (fun J J e=>e) (by kernel_rfl)
  have Zv:Wld prog w Pv hb K:=Zv1.from Zu (fun J J e=>e) (by kernel_rfl)
  have Zw:Wld prog w Pw hb K:=Zv.put (fun J J e=>e) (by kernel_rfl)
  have Zx:Wld prog w Px hb K:=Zw.put (fun J J e=>e) (by kernel_rfl)
  have Zy1:Wld prog w (Px.put 1000 540 (af Px 540 1000)) hb K:=Zx.from Zx (fun J J e=>e) (by kernel_rfl)
  have Zy:Wld prog w Py hb K:=Zy1.from Zx (fun J J e=>e) (by kernel_rfl)
  exact ⟨K,Zy.hook hkL⟩
end Mine
end
end
section
open PySem PySem.W
theorem PySem.Challenge.cw_pq0725_01_holds : PySem.Challenge.rw_pq0725_01.Holds :=
  Mine.reduce Mine.Pz 689 (by decide) Mine.wld_pz Mine.law_true
end
